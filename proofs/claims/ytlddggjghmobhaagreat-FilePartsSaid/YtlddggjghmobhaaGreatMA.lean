/- Part of the proof: LibA. Conditions: as each statement tells. -/
import GoSem.Core.Code
import GoSem.Core.View
import GoSem.Core.Lib
import GoSem.Core.Region
import Derived.Orders
import GoSem.Machine.Frame
import Derived.Laws.World
import Derived.Laws.Cells
import Derived.Laws.IdiomCopy
import Derived.Laws.Entries
import Derived.Laws.Strings
import Derived.Laws.BytesString
import Derived.Laws.IdiomStrings
import Derived.Laws.Append
noncomputable section
set_option linter.unusedSimpArgs false
set_option linter.unusedVariables false
open Array renaming eq_empty_of_size_eq_zero→a21
open BitVec renaming ofInt→a32
open Bool renaming false_eq_true→a18
open List renaming length→a01,map_cons→a02,mem_append_right→a04,mem_append_left→a05,nodup_append→a07,length_eq_zero_iff→a09,nodup_cons→a12,getD→a13,replicate→a15,mem_map_of_mem→a16,append_eq_nil_iff→a19,take→a22,range→a24,drop→a26,mem_cons_self→a27,mem_singleton→a28,getElem?_map→a29,set→a30,drop_take→a31
open Nat renaming mul_le_mul_right→a00,succ_mul→a03,le_trans→a06,zero_add→a08,lt_of_lt_of_le→a11,le_refl→a14,lt_or_gt_of_ne→a17,add_assoc→a20
open Option renaming bind_eq_some_iff→a10,isSome_iff_exists→a23,map_some→a25
namespace Go.Ab
variable {A A' α ρ:Type}{P:Program}{Sh Sh':Nat→Prop}{b c d i k n sz:Nat}{o:Oper}{op:BinOp}{q:Bool}{t t':TypeId}{v:Value}{w w':World}{x y:Operand}{z:ρ}
theorem oB{α β:Type _}(a:α)(f:α→Option β):(some a).bind f=f a:=rfl
theorem bA (a b:Bool):((a&&b)=true)=(a=true∧b=true):=Bool.and_eq_true a b
theorem dT {p:Prop} [Decidable p]:(decide p=true)=p:=decide_eq_true_eq
theorem cT {α:Type _} (a b:α):cond true a b=a:=rfl
theorem cF {α:Type _} (a b:α):cond false a b=b:=rfl
theorem lG {α:Type _} {l:List α} {i:Nat} (h:i<l.length):l[i]?=some l[i]:=List.getElem?_eq_getElem h
theorem pJ {α β:Type _} (a:α) (b:β) (c:α) (d:β):((a,b)=(c,d))=(a=c∧b=d):=Prod.mk.injEq a b c d
theorem lA {α:Type _} {p:α→Bool} {l:List α}:l.all p=true↔∀x,x ∈ l→p x=true:=List.all_eq_true
theorem lD {α:Type _} {l:List α} {i:Nat} {a:α}:l.getD i a=l[i]?.getD a:=List.getD_eq_getElem?_getD
theorem lS {α:Type _} {l:List α} {i:Nat} {a:α}:l[i]?=some a↔∃h:i<l.length,l[i]=a:=List.getElem?_eq_some_iff
theorem nZ:((0:Nat):Int)=0:=rfl
theorem tN (n:Nat):(n:Int).toNat=n:=rfl
theorem bT:(!true)=false:=rfl
theorem mA {α:Type _} {a:α} {s t:List α}:a ∈ s++t↔a ∈ s∨a ∈ t:=List.mem_append
theorem pA {α β:Type _} {f:α→β} {l m:List α}:(l++m).map f=l.map f++m.map f:=List.map_append
theorem lN {α:Type _} {s t:List α}:(s++t).length=s.length+t.length:=List.length_append
theorem lC {α:Type _} {a:α} {s:List α}:(a::s).length=s.length+1:=rfl
theorem mC {α:Type _} {a b:α} {l:List α}:a ∈ b::l↔a=b∨a ∈ l:=List.mem_cons
theorem aA {α:Type _} (a b c:List α):a++b++c=a++(b++c):=List.append_assoc a b c
theorem sj{α:Type _}(a b:α):(some a=some b)=(a=b):=Option.some.injEq a b
inductive Ty where
 |int (k:IntKind)|bool|str|unit
 |list (o:Bool) (t:Ty)|pair (a b:Ty)|arr (n:Nat) (t:Ty)

 |nl (t:Ty)

 |fn (f:Nat)

 |hd
 deriving DecidableEq
variable {e τ:Ty}
def Ty.den:Ty→Type
 |.int _=>Int
 |.bool=>Bool
 |.str=>List Int
 |.unit=>Unit
 |.list _ t=>List t.den
 |.pair a b=>a.den×b.den
 |.arr _ t=>List t.den
 |.nl t=>List t.den
 |.fn _=>Unit
 |.hd=>Int
variable {l:List e.den}
def Ty.dflt:(t:Ty)→t.den
 |.int _=>(0:Int)
 |.bool=>false
 |.str=>([]:List Int)
 |.unit=>()
 |.list _ t=>([]:List t.den)
 |.pair a b=>(a.dflt,b.dflt)
 |.arr n t=>a15 n t.dflt
 |.nl t=>([]:List t.den)
 |.fn _=>()
 |.hd=>(0:Int)
def Ty.cells:Ty→Nat
 |.unit=>0
 |.pair a b=>a.cells+b.cells
 |.arr n t=>n*t.cells
 |_=>1
def Ty.sh:Ty→Ty
 |.list _ t=>.list false t.sh
 |.pair a b=>.pair a.sh b.sh
 |.arr n t=>.arr n t.sh
 |.nl t=>.list false t.sh
 |t=>t
def Ty.shn:Ty→Ty
 |.list _ t=>.list false t.sh
 |.pair a b=>.pair a.shn b.shn
 |.arr n t=>.arr n t.sh
 |.nl t=>.nl t.sh
 |t=>t
def Ty.isAgg:Ty→Bool
 |.unit|.pair _ _|.arr _ _=>true
 |_=>false
theorem Ty.den_sh:(t:Ty)→t.sh.den=t.den
 |.int _|.bool|.str|.unit|.fn _|.hd=>rfl
 |.list _ t=>congrArg List (Ty.den_sh t)
 |.arr _ t=>congrArg List (Ty.den_sh t)
 |.nl t=>congrArg List (Ty.den_sh t)
 |.pair a b=>by show(a.sh.den×b.sh.den)=(a.den×b.den);rw[Ty.den_sh a,Ty.den_sh b]
theorem Ty.den_shn:(t:Ty)→t.shn.den=t.den
 |.int _|.bool|.str|.unit|.fn _|.hd=>rfl
 |.list _ t=>congrArg List (Ty.den_sh t)
 |.arr _ t=>congrArg List (Ty.den_sh t)
 |.nl t=>congrArg List (Ty.den_sh t)
 |.pair a b=>by show(a.shn.den×b.shn.den)=(a.den×b.den);rw[Ty.den_shn a,Ty.den_shn b]
def Ty.shnx(t:Ty)(x:t.den):t.shn.den:=cast (Ty.den_shn t).symm x
def Ty.le:Ty→Ty→Bool
 |.nl a,.list _ b=>decide (a.sh=b.sh)
 |.pair a b,.pair a' b'=>a.le a'&&b.le b'
 |a,b=>decide (a=b)
theorem Ty.le_den:∀(a b:Ty),a.le b=true→a.den=b.den
 |.nl a,.list o b,h=>by
  simp only[Ty.le,dT]at h;show List a.den=List b.den;rw[←Ty.den_sh a,←Ty.den_sh b,h]
 |.pair a b,.pair a' b',h=>by
  simp only[Ty.le,bA]at h;show(a.den×b.den)=(a'.den×b'.den);rw[Ty.le_den a a' h.1,Ty.le_den b b' h.2]
 |.nl a,.nl b,h=>by
  simp only[Ty.le,dT]at h;rw[h]
 |.nl a,.int _,h|.nl a,.bool,h|.nl a,.str,h|.nl a,.unit,h|.nl a,.pair _ _,h|.nl a,.arr _ _,h|.nl a,.fn _,h|.nl a,.hd,h=>by simp[Ty.le]at h
 |.pair a b,.int _,h|.pair a b,.bool,h|.pair a b,.str,h|.pair a b,.unit,h|.pair a b,.arr _ _,h|.pair a b,.list _ _,h|.pair a b,.nl _,h|.pair a b,.fn _,h|.pair a b,.hd,h=>by simp[Ty.le]at h
 |.int _,b,h|.bool,b,h|.str,b,h|.unit,b,h|.list _ _,b,h|.arr _ _,b,h|.fn _,b,h|.hd,b,h=>by
  simp only[Ty.le,dT]at h;rw[h]
def castTo(t' t:Ty)(x:t'.den):Option t.den:=if h:t'=t then some (h▸x)else if h:t'.le t=true then some (cast (Ty.le_den _ _ h) x)else none
theorem l0c(t:Ty)(x:t.den):castTo t t x=some x:=by simp[castTo]
theorem Ty.shn_of_sh:(t:Ty)→t.sh=t→t.shn=t
 |.int _,_|.bool,_|.str,_|.unit,_|.fn _,_|.hd,_=>rfl
 |.list _ t,h=>h
 |.arr _ t,h=>h
 |.nl t,h=>by cases h
 |.pair a b,h=>by
  simp only[Ty.sh,Ty.pair.injEq]at h;simp only[Ty.shn,Ty.shn_of_sh a h.1,Ty.shn_of_sh b h.2]
theorem Ty.sh_sh:(t:Ty)→t.sh.sh=t.sh
 |.int _|.bool|.str|.unit|.fn _|.hd=>rfl
 |.list _ t|.nl t=>by simp only[Ty.sh,Ty.sh_sh t]
 |.arr _ t=>by simp only[Ty.sh,Ty.sh_sh t]
 |.pair a b=>by simp only[Ty.sh,Ty.sh_sh a,Ty.sh_sh b]
theorem Ty.shn_shn:(t:Ty)→t.shn.shn=t.shn
 |.int _|.bool|.str|.unit|.fn _|.hd=>rfl
 |.list _ t|.nl t|.arr _ t=>by simp only[Ty.shn,Ty.sh_sh t]
 |.pair a b=>by simp only[Ty.shn,Ty.shn_shn a,Ty.shn_shn b]
theorem Ty.sh_shn:(t:Ty)→t.shn.sh=t.sh
 |.int _|.bool|.str|.unit|.fn _|.hd=>rfl
 |.list _ t|.nl t|.arr _ t=>by simp only[Ty.shn,Ty.sh,Ty.sh_sh t]
 |.pair a b=>by simp only[Ty.shn,Ty.sh,Ty.sh_shn a,Ty.sh_shn b]
def Ty.shx(t:Ty)(x:t.den):t.sh.den:=cast (Ty.den_sh t).symm x
inductive Step where
 |fst|snd|idx (i:Nat)
@[reducible] def a0l:=List Step
inductive AV where
 |dead

 |skp
 |val (t:Ty) (x:t.den)

 |nils

 |empt
 |nilp
 |ptr (n:Nat) (p:a0l)
 |vptr (t:Ty) (x:t.den)
 |sref (n:Nat) (p:a0l)
 |swin (n:Nat) (p:a0l) (off len:Nat)

 |glob (g:Nat)
inductive Cmp where
 |tup|agg|clo (f:Nat)
 deriving DecidableEq
inductive SV where
 |one (v:AV)
 |cmp (c:Cmp) (vs:List AV)
structure Root where
 bx:Bool
 t:Ty
 x:t.den
variable {r:Root}{rt':Nat→Option Root}
structure AE where
 sl:Nat→SV
 rt:Nat→Option Root

 pd:Option (Nat×a0l×Nat)
@[reducible] def Rs(ρ:Type):=Option ρ
def b0j:a0l→(t:Ty)→t.den→(t':Ty)×t'.den
 | [],t,x=>⟨t,x⟩
 |.fst::p,t,x=>match t,x with
  |.pair a _,x=>b0j p a x.1
  |_,_=>⟨.unit,()⟩
 |.snd::p,t,x=>match t,x with
  |.pair _ b,x=>b0j p b x.2
  |_,_=>⟨.unit,()⟩
 |.idx i::p,t,x=>match t,x with
  |.arr _ t,x=>b0j p t (a13 x i t.dflt)
  |.list true t,x=>b0j p t (a13 x i t.dflt)
  |_,_=>⟨.unit,()⟩
@[reducible] def a0p(t:Ty)(x:t.den)(p:a0l):(t':Ty)×t'.den:=b0j p t x
def c0i:a0l→(t:Ty)→t.den→(t':Ty)→t'.den→t.den
 | [],t,x,t',y=>if h:t'=t then h▸y else x
 |.fst::p,t,x,t',y=>match t,x with
  |.pair a _,x=>(c0i p a x.1 t' y,x.2)
  |_,x=>x
 |.snd::p,t,x,t',y=>match t,x with
  |.pair _ b,x=>(x.1,c0i p b x.2 t' y)
  |_,x=>x
 |.idx i::p,t,x,t',y=>match t,x with
  |.arr _ t,x=>a30 x i (c0i p t (a13 x i t.dflt) t' y)
  |.list true t,x=>a30 x i (c0i p t (a13 x i t.dflt) t' y)
  |_,x=>x
@[reducible] def b0s(t:Ty)(x:t.den)(p:a0l)(t':Ty)(y:t'.den):t.den:=c0i p t x t' y
def d0d:(p q:a0l)→Bool
 | [],_=>true
 |.fst::p,.fst::q=>d0d p q
 |.snd::p,.snd::q=>d0d p q
 |.idx _::p,.idx _::q=>d0d p q
 |_,_=>false
def AV.map(v:AV)(f:AV→AV):AV:=f v
def SV.mapv(f:AV→AV):SV→SV
 |.one v=>.one (f v)
 |.cmp c vs=>.cmp c (vs.map f)
def AV.kill(n:Nat)(p:a0l):AV→AV
 |.sref m q=>if m==n&&d0d p q then .dead else .sref m q
 |.swin m q o l=>if m==n&&d0d p q then .dead else .swin m q o l
 |.ptr m q=>if m==n&&d0d p q&&decide (p.length<q.length)then .dead else .ptr m q
 |v=>v
def AV.drop(n:Nat):AV→AV
 |.sref m q=>if m==n then .dead else .sref m q
 |.swin m q o l=>if m==n then .dead else .swin m q o l
 |.ptr m q=>if m==n then .dead else .ptr m q
 |v=>v
def AV.ren(r n:Nat):AV→AV
 |.sref m q=>if m==r then .sref n q else .sref m q
 |.swin m q o l=>if m==r then .swin n q o l else .swin m q o l
 |.ptr m q=>if m==r then .ptr n q else .ptr m q
 |v=>v
def AV.frz(n:Nat)(e:Ty)(l:List e.den):AV→AV
 |.sref m q=>if m==n then(match q with|[]=>.val (.list false e.sh) (Ty.shx (.list false e) l)|_=>.dead)else .sref m q
 |.swin m q o k=>if m==n then(match q with|[]=>.val (.list false e.sh) (Ty.shx (.list false e) ((l.drop o).take k))|_=>.dead)else .swin m q o k
 |.ptr m q=>if m==n then .dead else .ptr m q
 |v=>v
namespace AE
def get(Γ:AE)(i:Nat):AV:=match Γ.sl i with|.one v=>v|.cmp _ _=>.dead
def put(Γ:AE)(d:Nat)(v:SV):AE:={ Γ with sl:=fun j=>bif j==d then v else Γ.sl j }
def set(Γ:AE)(d:Nat)(v:AV):AE:=Γ.put d (.one v)
def setD(Γ:AE)(d:Option Nat)(v:AV):AE:=match d with|some d=>Γ.set d v|none=>Γ
def mapv(Γ:AE)(f:AV→AV):AE:={ Γ with sl:=fun j=>(Γ.sl j).mapv f }
def setRt(Γ:AE)(n:Nat)(r:Option Root):AE:={ Γ with rt:=fun j=>bif j==n then r else Γ.rt j }
def newRt(Γ:AE)(n:Nat)(r:Root):AE:=match Γ.rt n with
 |none=>Γ.setRt n (some r)
 |some _=>(Γ.mapv (AV.drop n)).setRt n (some r)
def look(Γ:AE)(n:Nat):Option Root:=match Γ.pd with
 |none=>Γ.rt n
 |some _=>none
end AE
def i0e:Value→AV
 |.int k n=>.val (.int k) n
 |.bool b=>.val .bool b
 |.string s=>.val .str (s.data.toList.map fun b=>(b.toNat:Int))
 |.slice none 0 0=>.nils
 |.pointer none=>.nilp
 |_=>.dead
def AE.opd(Γ:AE):Operand→AV
 |.tmp t=>Γ.get t
 |.const v=>i0e v
 |.global g=>.glob g
 |.func f=>.val (.fn f) ()
inductive RA where
 |v (t:Ty)

 |o (e:Ty)

 |b (t:Ty)
def RA.ty:RA→Ty
 |.v t=>t
 |.o e=>.list true e
 |.b t=>t
inductive PA where
 |v (t:Ty)
 |r (c:Bool) (a:RA)
def PA.ty:PA→Ty
 |.v t=>t
 |.r _ a=>a.ty
def c0m:List Ty→Ty
 | []=>.unit
 | [t]=>t
 |t::r=>.pair t (c0m r)
def e0i:List PA→List RA
 | []=>[]
 |.v _::r=>e0i r
 |.r _ a::r=>a::e0i r
def RA.all(ps:List PA)(rs:List RA):List RA:=rs++e0i ps
structure FSem where
 ps:List PA
 rs:List RA
 F:(c0m (ps.map PA.ty)).den→Option (c0m ((RA.all ps rs).map RA.ty)).den
@[reducible] def pinned:Nat:=1000000
structure GTab where
 g:Nat→Option ((t:Ty)×t.den)
 w:Nat→Option Ty:=fun _=>none
 m:Option ((t:Ty)×Int×List (Int×t.den)):=none
def g0l{α:Type}(k:Int):List (Int×α)→Option α
 | []=>none
 |(a,x)::r=>bif a==k then some x else g0l k r
structure Cx where

 Q:Nat→Bool
 E:Nat→Bool
 T:Nat→Option Ty
 C:Nat→Option FSem
 O:Nat→Option Ty
 V:Nat→Bool
 K:Nat→Bool

 G:GTab:={ g:=fun _=>none }
variable {cx:Cx}
section reading
variable {ρ:Type}
def AE.asV(Γ:AE)(q:Bool)(t:Ty)(a:AV)(K:t.den→AE→Rs ρ):Rs ρ:=
 match a with
 |.val t' x=>match castTo t' t x with
  |some y=>K y Γ
  |none=>none
 |.nils=>match t,K with
  |.list false _,K=>K [] Γ
  |.nl _,K=>K [] Γ
  |_,_=>none
 |.empt=>match t,K with
  |.list false _,K=>K [] Γ
  |_,_=>none
 |.sref n []=>if q then none else match Γ.look n with
  |some ⟨false,.list true e,l⟩=>if h:Ty.list false e.sh=t then K (h▸Ty.shx (.list false e) l) ((Γ.mapv (AV.frz n e l)).setRt n none)else none
  |_=>none
 |.swin n [] o k=>if q then none else match Γ.look n with
  |some ⟨false,.list true e,l⟩=>if h:Ty.list false e.sh=t then K (h▸Ty.shx (.list false e) ((a26 o l).take k)) ((Γ.mapv (AV.frz n e l)).setRt n none)else none
  |_=>none
 |_=>none
def AE.view(Γ:AE)(t:Ty)(a:AV)(K:t.den→Rs ρ):Rs ρ:=
 match a with
 |.val t' x=>match castTo t' t x with
  |some y=>K y
  |none=>none
 |.nils=>match t,K with
  |.list false _,K=>K []
  |.nl _,K=>K []
  |_,_=>none
 |.empt=>match t,K with
  |.list false _,K=>K []
  |_,_=>none
 |.sref n p=>match Γ.look n with
  |some r=>match a0p r.t r.x p with
   |⟨.list true e,l⟩=>if h:Ty.list false e.sh=t then K (h▸Ty.shx (.list false e) l)else none
   |_=>none
  |none=>none
 |.swin n p o k=>match Γ.look n with
  |some r=>match a0p r.t r.x p with
   |⟨.list true e,l⟩=>if h:Ty.list false e.sh=t then K (h▸Ty.shx (.list false e) ((a26 o l).take k))else none
   |_=>none
  |none=>none
 |_=>none
end reading
def n0s{α:Type}(l:List α)(i:Int):Option α:=if 0≤i then l[i.toNat]? else none
def bits(k:IntKind)(op:BinOp)(x y:Int):Int:=
 let a:=a32 k.bits x
 let b:=a32 k.bits y
 match op with
 |.and=>k.wrap (a &&& b).toNat
 |.or=>k.wrap (a ||| b).toNat
 |.xor=>k.wrap (a ^^^ b).toNat
 |_=>k.wrap (a &&& ~~~b).toNat
def E0i(k:IntKind)(x y:Int):Int:=k.wrap (x*2^(min y.toNat k.bits))
def E0j(k:IntKind)(x y:Int):Int:=x.fdiv (2^(min y.toNat k.bits))
def eqT:(t:Ty)→t.den→t.den→Bool
 |.int _,x,y=>(show Int from x)==(show Int from y)
 |.bool,x,y=>(show Bool from x)==(show Bool from y)
 |.str,x,y=>(show List Int from x)==(show List Int from y)
 |.unit,_,_=>true
 |.pair a b,x,y=>eqT a x.1 y.1&&eqT b x.2 y.2
 |.arr _ t,x,y=>(List.zipWith (eqT t) x y).all id&&a01 x==a01 y
 |.list _ _,_,_=>false
 |.nl _,_,_=>false
 |.fn _,_,_=>false
 |.hd,_,_=>false
def i0y{ρ:Type}(op:BinOp)(k:IntKind)(x y:Int)(K:AV→Rs ρ):Rs ρ:=
 match op with
 |.add=>K (.val (.int k) (k.wrap (x+y)))
 |.sub=>K (.val (.int k) (k.wrap (x-y)))
 |.mul=>K (.val (.int k) (k.wrap (x*y)))
 |.quo=>bif y==0 then none else K (.val (.int k) (k.wrap (Int.tdiv x y)))
 |.rem=>bif y==0 then none else K (.val (.int k) (Int.tmod x y))
 |.and=>K (.val (.int k) (bits k .and x y))
 |.or=>K (.val (.int k) (bits k .or x y))
 |.xor=>K (.val (.int k) (bits k .xor x y))
 |.andNot=>K (.val (.int k) (bits k .andNot x y))
 |.eql=>K (.val .bool (x==y))
 |.neq=>K (.val .bool (x != y))
 |.lss=>K (.val .bool (decide (x<y)))
 |.leq=>K (.val .bool (decide (x≤y)))
 |.gtr=>K (.val .bool (decide (x > y)))
 |.geq=>K (.val .bool (decide (x≥y)))
 |.shl=>bif decide (y<0)then none else K (.val (.int k) (E0i k x y))
 |.shr=>bif decide (y<0)then none else K (.val (.int k) (E0j k x y))
def l0y:BinOp→Bool
 |.shl|.shr=>true
 |_=>false
def l0u{ρ:Type}(cx:Cx)(op:BinOp)(ty:Nat)(t:Ty)(x:t.den)(t':Ty)(y:t'.den)(K:AV→Rs ρ):Rs ρ:=
 if h:t'=t then
  bif cx.E ty&&t.isAgg&&decide (cx.T ty=some t)then
   match op with
   |.eql=>K (.val .bool (eqT t x (h▸y)))
   |.neq=>K (.val .bool (!eqT t x (h▸y)))
   |_=>none
  else none
 else none
def h0r{ρ:Type}(cx:Cx)(op:BinOp)(ty:Nat)(a b:AV)(K:AV→Rs ρ):Rs ρ:=
 match a,b with
 |.val (.int k) x,.val (.int k') y=>if l0y op || decide (k=k')then i0y op k x y K else none
 |.val .bool (x:Bool),.val .bool (y:Bool)=>
  if cx.T ty=some .bool then
   match op with
   |.eql=>K (.val .bool (x==y))
   |.neq=>K (.val .bool (x != y))
   |_=>none
  else none
 |.val .str (x:List Int),.val .str (y:List Int)=>
  match op with
  |.eql=>K (.val .bool (x==y))
  |.neq=>K (.val .bool (x != y))
  |.add=>bif decide (a01 x+a01 y<2147483648)then K (.val .str (x++y))else none
  |_=>none
 |.val t x,.val t' y=>l0u cx op ty t x t' y K
 |.nilp,.nilp=>if cx.Q ty then(match op with
  |.eql=>K (.val .bool true)
  |.neq=>K (.val .bool false)
  |_=>none)else none
 |.ptr _ _,.nilp=>if cx.Q ty then(match op with
  |.eql=>K (.val .bool false)
  |.neq=>K (.val .bool true)
  |_=>none)else none
 |_,_=>none
def m0f{ρ:Type}(a b:Option ρ):Option ρ:=open Classical in if a=b then a else none
theorem q0h{a b:Option ρ}(h:m0f a b=some z):a=some z∧b=some z:=by
 unfold m0f at h
 split at h
 rename_i e;exact⟨h,by rw[←e];exact h⟩;cases h
theorem x0g(a:Option ρ):m0f a a=a:=by simp[m0f]
def u0t:Option Ty→AV→AV→Option Bool
 |some (.list _ _),.val (.list false _) l,.nils=>some (List.isEmpty l)
 |_,_,_=>none
def w0r:Option Ty→Bool
 |some (.list _ _)=>true
 |_=>false
def E0m{ρ:Type}(op:BinOp)(e:Bool)(K:Bool→Option ρ):Option ρ:=match op with
 |.eql=>bif e then m0f (K true) (K false)else K false
 |.neq=>bif e then m0f (K false) (K true)else K true
 |_=>none
def lim(n:Nat):Bool:=decide (n<2147483648)
def b0l:Nat→a0l
 |0=>[.fst]
 |f+1=>.snd::b0l f
def c0k:Ty→Nat→Bool
 |.pair _ _,0=>true
 |.pair _ b,f+1=>c0k b f
 |_,_=>false
def f0n:a0l→a0l→Bool
 | [],[]=>true
 |.fst::p,.fst::q=>f0n p q
 |.snd::p,.snd::q=>f0n p q
 |.idx i::p,.idx j::q=>(i==j)&&f0n p q
 |_,_=>false
def y0d(x y:Int):Int:=bif decide (y > x)then y else x
def y0e(x y:Int):Int:=bif decide (y<x)then y else x
def q0w{α:Type}(l:List α)(off len:Nat)(ys:List α):List α:=
 l.take off++(ys.take (min len ys.length)++l.drop (off+min len ys.length))
def b2s(l:List Int):List Int:=l.map fun n=>((n.toNat%256:Nat):Int)
def Ty.isList:Ty→Bool
 |.list _ _=>true
 |_=>false
def Ty.hasList:Ty→Bool
 |.list _ _=>true
 |.pair a b=>a.hasList || b.hasList
 |.arr _ t=>t.hasList
 |_=>false
def RA.hasList:RA→Bool
 |.v t=>t.hasList
 |.o e=>e.hasList
 |.b t=>t.hasList
section
variable {ρ:Type}
def AE.fresh(Γ:AE)(q:Bool)(n:Nat)(r:Root)(K:AE→Rs ρ):Rs ρ:=
 bif decide (n<pinned)then
  match Γ.rt n with
  |none=>K (Γ.newRt n r)
  |some _=>bif q then none else match Γ.look n with
   |none=>none
   |some _=>K (Γ.newRt n r)
 else none
def AE.apnd(Γ:AE)(q:Bool)(d:Nat)(e:Ty)(x:AV)(ys:List e.den)(K:AE→Rs ρ):Rs ρ:=
 match x with
 |.nils|.empt=>bif lim ys.length then Γ.fresh q d ⟨false,.list true e,ys⟩ fun Γ=>K (Γ.set d (.sref d []))else none
 |.sref n p=>bif q then none else match Γ.look n with
  |some r=>match a0p r.t r.x p with
   |⟨.list true e',l⟩=>
    if h:e=e' then
     bif lim (a01 l+ys.length)then
      let Γ':=((Γ.mapv (AV.kill n p)).setRt n (some ⟨r.bx,r.t,b0s r.t r.x p (.list true e') (List.append l (h▸ys))⟩)).set d (.sref n p)
      match p,r.bx with
      | [],false=>bif decide (n<pinned)then K Γ' else none
      |p,_=>match Γ.pd with
       |none=>K { Γ' with pd:=some (n,p,d) }
       |some _=>none
     else none
    else none
   |_=>none
  |none=>none
 |_=>none
def brw:List PA→List Nat→List Nat
 |.v _::ps,us=>brw ps us
 |.r false (.o _)::ps,n::us=>n::brw ps us
 |.r _ _::ps,_::us=>brw ps us
 |_,_=>[]
def AV.deeps(us ks:List Nat):AV→AV
 |.sref m q=>if us.contains m then(match q with|[]=>if ks.contains m then .sref m []else .dead|_=>.dead)else .sref m q
 |.swin m q o l=>if us.contains m then .dead else .swin m q o l
 |.ptr m q=>if us.contains m then(match q with|[]=>.ptr m []|_=>.dead)else .ptr m q
 |v=>v
def AE.over(Γ:AE)(ty:Ty)(n:Nat)(r:Root)(x:AV)(K:AE→Rs ρ):Rs ρ:=match x,Γ.look n with
 |.val t' y,some _=>if r.bx=true∧(r.t.sh=ty∧(t'.shn=t'∧t'.sh=ty))then
   (match castTo t' r.t y with
   |some z=>K ((Γ.mapv (AV.deeps [n] [])).setRt n (some ⟨true,r.t,z⟩))
   |none=>match castTo t' r.t.shn y with
    |some z=>K ((Γ.mapv (AV.deeps [n] [])).setRt n (some ⟨true,r.t.shn,z⟩))
    |none=>K ((Γ.mapv (AV.deeps [n] [])).setRt n (some ⟨true,t',y⟩)))else none
 |_,_=>none
def AE.overP(Γ:AE)(ty:Ty)(n:Nat)(r:Root)(x:AV)(K:AE→Rs ρ):a0l→Rs ρ
 | []=>Γ.over ty n r x K
 |_=>none
def AE.stor(Γ:AE)(ty:Ty)(n:Nat)(p:a0l)(x:AV)(K:AE→Rs ρ):Rs ρ:=
 match Γ.rt n with
 |none=>none
 |some r=>
  match a0p r.t r.x p with
  |⟨.list true e,_⟩=>
   if ty.isList then
   match x with
   |.nils=>match Γ.look n with
    |none=>none
    |some _=>K ((Γ.mapv (AV.kill n p)).setRt n (some ⟨r.bx,r.t,b0s r.t r.x p (.list true e) []⟩))
   |.sref m p'=>
    bif m==n&&f0n p' p then
     match Γ.pd with
     |some (m',p'',_)=>bif m'==n&&f0n p'' p then K { Γ with pd:=none }else none
     |none=>none
    else match Γ.look n,p',Γ.look m with
     |some _,[],some ⟨false,.list true e',l⟩=>
      if h:e'=e then
       bif m==n then none else
       K ((((Γ.mapv (AV.kill n p)).mapv (AV.drop m)).setRt m none).setRt n (some ⟨r.bx,r.t,b0s r.t r.x p (.list true e) (h▸l)⟩))
      else none
     |_,_,_=>none
   |_=>none
   else none
  |⟨t,_⟩=>
   if t.shn=t∧t.sh=ty then
    Γ.asV false t x fun y Γ'=>match Γ'.look n with
     |some r=>if(a0p r.t r.x p).1=t then K (Γ'.setRt n (some ⟨r.bx,r.t,b0s r.t r.x p t y⟩))else none
     |none=>none
   else Γ.overP ty n r x K p
def AV.viewed:AV→List Nat
 |.sref n _|.swin n _ _ _=>[n]
 |_=>[]
def AE.arg(Γ:AE)(fz q:Bool)(used seen:List Nat):(p:PA)→AV→(p.ty.den→AE→List Nat→List Nat→Rs ρ)→Rs ρ
 |.v t,a,K=>bif a.viewed.any fun n=>used.contains n then none else if fz then Γ.asV q t a fun x Γ'=>K x Γ' used seen else
   Γ.view t a fun x=>K x Γ used (a.viewed++seen)
 |.r c (.b t),.ptr n [],K=>if c || q || used.contains n || seen.contains n then none else match Γ.look n with
  |some ⟨true,t',x⟩=>if h:t'=t then K (h▸x) Γ (n::used) seen else none
  |_=>none
 |.r c (.o e),.sref n [],K=>if(c&&decide (pinned≤n)) || q || used.contains n || seen.contains n then none else match Γ.look n with
  |some ⟨bx,.list true e',x⟩=>if h:e'=e then(bif bx&&c then none else K (h▸x) Γ (n::used) seen)else none
  |_=>none
 |.r _ _,_,_=>none
def AE.args(Γ:AE)(fz q:Bool)(used seen:List Nat):(ps:List PA)→List AV→((c0m (ps.map PA.ty)).den→AE→List Nat→Rs ρ)→Rs ρ
 | [],[],K=>K () Γ used
 | [p],[a],K=>Γ.arg fz q used seen p a fun x Γ' used' _=>K x Γ' used'
 |p::p'::ps,a::as,K=>Γ.arg fz q used seen p a fun x Γ' used' seen'=>Γ'.args fz q used' seen' (p'::ps) as fun y Γ'' used''=>K (x,y) Γ'' used''
 |_,_,_=>none
def c0r:(rs:List RA)→(c0m (rs.map RA.ty)).den→List ((r:RA)×r.ty.den)
 | [],_=>[]
 | [r],x=>[⟨r,x⟩]
 |r::r'::rs,x=>⟨r,x.1⟩::c0r (r'::rs) x.2
def a0z:(ps:List PA)→(c0m (ps.map PA.ty)).den→List ((p:PA)×p.ty.den)
 | [],_=>[]
 | [p],x=>[⟨p,x⟩]
 |p::p'::ps,x=>⟨p,x.1⟩::a0z (p'::ps) x.2
def a0v:((r:RA)×r.ty.den)→Option Root
 |⟨.v _,_⟩=>none
 |⟨.o e,x⟩=>some ⟨false,.list true e,x⟩
 |⟨.b t,x⟩=>some ⟨true,t,x⟩
def r0m(n:Nat):((r:RA)×r.ty.den)→AV
 |⟨.v t,x⟩=>.val t x
 |⟨.o _,_⟩=>.sref n []
 |⟨.b _,_⟩=>.ptr n []
def b0o:List RA→Nat→List Nat
 | [],_=>[]
 |_::rs,n=>n::b0o rs (n+1000)
def c0v:List RA→Nat→List Nat
 | [],_=>[]
 |.v _::rs,n=>c0v rs (n+1000)
 |_::rs,n=>n::c0v rs (n+1000)
def b0y:List Nat→List ((r:RA)×r.ty.den)→Nat→Option Root
 |k::ns,it::its,n=>match a0v it with
  |some r=>bif n==k then some r else b0y ns its n
  |none=>b0y ns its n
 |_,_,_=>none
def d0q:List Nat→List ((r:RA)×r.ty.den)→List AV
 |k::ns,it::its=>r0m k it::d0q ns its
 |_,_=>[]
def i0a(o:Option Root)(r:Root):Root:=match o with
 |some ⟨true,_,_⟩=>⟨true,r.t,r.x⟩
 |_=>r
def n0v:Option Root→Bool
 |some ⟨bx,_,_⟩=>bx
 |none=>false
def AE.unbx(Γ:AE)(ks:List Nat):List Nat:=ks.filter fun n=>!n0v (Γ.rt n)
def AE.dropAll(Γ:AE)(q:Bool)(us:List Nat):List Nat→(AE→Rs ρ)→Rs ρ
 | [],K=>K Γ
 |n::r,K=>bif decide (n<pinned)&&!us.contains n then match Γ.rt n with
   |none=>Γ.dropAll q us r K
   |some _=>bif q then none else((Γ.mapv (AV.drop n)).setRt n none).dropAll q us r K
  else none
def AE.call(Γ:AE)(q:Bool)(d:Option Nat)(s:FSem)(as:List AV)(K:AE→Rs ρ):Rs ρ:=
 match Γ.pd with
 |some _=>none
 |none=>Γ.args (s.rs.any RA.hasList || (e0i s.ps).any RA.hasList) q [] [] s.ps as fun x Γ' used=>
  Γ'.dropAll q used (c0v s.rs (d.getD 0+1000)) fun Γ1=>(s.F x).bind fun y=>
   let Γ2:AE:=⟨fun i=>(Γ1.sl i).mapv (AV.deeps used (Γ1.unbx (brw s.ps used.reverse))),fun n=>match b0y (b0o s.rs (d.getD 0+1000)++used.reverse) (c0r (RA.all s.ps s.rs) y) n with
    |some r=>some (bif used.contains n then i0a (Γ1.rt n) r else r)
    |none=>Γ1.rt n,none⟩
   match d with
   |none=>K Γ2
   |some d=>match d0q (b0o s.rs (d+1000)) (c0r (RA.all s.ps s.rs) y)with
    | [v]=>K (Γ2.set d v)
    |vs=>K (Γ2.put d (.cmp .tup vs))
def AE.pathOf(t:Ty)(i:Nat):a0l:=match t with
 |.arr _ _=>[.idx i]
 |_=>b0l i
def AE.pathOk(t:Ty)(i:Nat):Bool:=match t with
 |.arr n _=>decide (i<n)
 |t=>c0k t i
def AE.fills(Γ:AE)(q:Bool)(t:Ty):List (Nat×Operand)→t.den→(t.den→AE→Rs ρ)→Rs ρ
 | [],x,K=>K x Γ
 |(i,o)::r,x,K=>bif AE.pathOk t i then(match a0p t x (AE.pathOf t i)with
  |⟨t',_⟩=>Γ.asV q t' (Γ.opd o) fun y Γ'=>Γ'.fills q t r (b0s t x (AE.pathOf t i) t' y) K)else none
def AE.lit(Γ:AE)(q:Bool)(e:Ty)(n:Nat):List (Nat×Operand)→List e.den→(List e.den→AE→Rs ρ)→Rs ρ
 | [],x,K=>K x Γ
 |(i,o)::r,x,K=>bif decide (i<n)then Γ.asV q e (Γ.opd o) fun y Γ'=>Γ'.lit q e n r (x.set i y) K else none
def AV.isVal(a:AV)(t:Ty)(K:t.den→Rs ρ):Rs ρ:=match a with
 |.val t' x=>if h:t'=t then K (h▸x)else none
 |_=>none
def AE.lenK(Γ:AE)(ty:Option Ty)(a:AV)(K:Nat→Rs ρ):Rs ρ:=match ty,a with
 |some (.list _ _),.val (.list _ _) l=>K (a01 l)
 |some (.arr n _),.val (.arr _ _) _=>K n
 |some .str,.val .str l=>K (a01 (show List Int from l))
 |some (.list _ _),.nils|some (.list _ _),.empt=>K 0
 |some (.list _ _),.sref n p=>match Γ.look n with
  |some r=>match a0p r.t r.x p with
   |⟨.list true _,l⟩=>K (a01 l)
   |_=>none
  |none=>none
 |some (.list _ _),.swin _ _ _ k=>K k
 |_,_=>none
def AE.body(Γ:AE)(n:Nat)(p:a0l)(K:(e:Ty)→List e.den→Rs ρ):Rs ρ:=match Γ.look n with
 |some r=>match a0p r.t r.x p with
  |⟨.list true e,l⟩=>K e l
  |_=>none
 |none=>none
def AE.bnd(Γ:AE)(len d:Nat)(o:Option Operand)(K:Nat→Rs ρ):Rs ρ:=match o with
 |none=>K d
 |some o=>match Γ.opd o with
  |.val (.int _) (y:Int)=>bif decide (0≤y)&&decide (y≤(len:Int))then K y.toNat else none
  |_=>none
def AE.bnds(Γ:AE)(len:Nat)(lo hi:Option Operand)(K:Nat→Nat→Rs ρ):Rs ρ:=
 Γ.bnd len len hi fun h=>Γ.bnd h 0 lo fun l=>K l h
def l0z:Option Operand→Bool
 |some (.const (.int _ 0))=>true
 |_=>false
def o0q(ty:Option Ty)(a:AV)(K:AV→Rs ρ):Rs ρ:=match ty,a with
 |some (.list _ _),.val (.list _ _) _|some (.list _ _),.nils|some (.list _ _),.empt|some (.list _ _),.sref _ _|some (.list _ _),.swin _ _ _ _=>K .empt
 |_,_=>none
def AE.slic(Γ:AE)(ty:Option Ty)(a:AV)(lo hi mx:Option Operand)(K:AV→Rs ρ):Rs ρ:=
 match mx with
 |some m=>bif l0z (some m)&&l0z hi&&lo.isNone then o0q ty a K else none
 |none=>match a with
  |.val .str (l:List Int)=>if ty=some .str then Γ.bnds l.length lo hi fun x y=>K (.val .str ((l.take y).drop x))else none
  |.val (.list false t) l=>if ty=some (.list false t)then Γ.bnds (a01 l) lo hi fun x y=>K (.val (.list false t) ((a22 y l).drop x))else none
  |.nils=>match ty with
   |some (.list _ _)=>Γ.bnds 0 lo hi fun _ _=>K .nils
   |_=>none
  |.sref n p=>Γ.body n p fun e l=>if ty=some (.list false e.sh)then(match lo,hi with
   |none,none=>K (.sref n p)
   |lo,hi=>Γ.bnds (a01 l) lo hi fun x y=>K (.swin n p x (y-x)))else none
  |.swin n p o k=>Γ.body n p fun e _=>if ty=some (.list false e.sh)then Γ.bnds k lo hi fun x y=>K (.swin n p (o+x) (y-x))else none
  |.vptr (.arr k e) l=>if ty=some (.arr k e)then Γ.bnds k lo hi fun x y=>K (.val (.list false e) ((a22 y l).drop x))else none
  |_=>none
def AE.bodyP(Γ:AE)(n:Nat)(p:a0l)(K:(e:Ty)→List e.den→Rs ρ):Rs ρ:=match Γ.rt n with
 |some r=>match a0p r.t r.x p with
  |⟨.list true e,l⟩=>K e l
  |_=>none
 |none=>none
def AE.addrK(Γ:AE)(ty:Option Ty)(a:AV)(i:Int)(K:AV→Rs ρ):Rs ρ:=match a with
 |.val (.list false t) l=>if ty=some (.list false t)then(n0s l i).bind fun x=>K (.vptr t x)else none
 |.sref n p=>Γ.bodyP n p fun e l=>if ty=some (.list false e.sh)then bif decide (0≤i)&&decide (i<((a01 l:Nat):Int))then K (.ptr n (p++[.idx i.toNat]))else none else none
 |.swin n p o k=>Γ.body n p fun e _=>if ty=some (.list false e.sh)then bif decide (0≤i)&&decide (i<(k:Int))then K (.ptr n (p++[.idx (o+i.toNat)]))else none else none
 |.ptr n p=>match Γ.rt n with
  |some r=>match a0p r.t r.x p with
   |⟨.arr k e,_⟩=>if ty=some (.arr k e.sh)then bif decide (0≤i)&&decide (i<(k:Int))then K (.ptr n (p++[.idx i.toNat]))else none else none
   |_=>none
  |none=>none
 |.vptr (.arr k t) l=>if ty=some (.arr k t)then(n0s l i).bind fun x=>K (.vptr t x)else none
 |_=>none
def AE.lodK(Γ:AE)(q:Bool)(ty:Ty)(a:AV)(K:AV→AE→Rs ρ):Rs ρ:=match a with
 |.vptr t x=>if t=ty then K (.val t x) Γ else none
 |.ptr n p=>match Γ.look n with
  |some r=>match a0p r.t r.x p with
   |⟨.list true _,_⟩=>if ty.isList then K (.sref n p) Γ else none
   |⟨t,y⟩=>if t.sh=ty∧t.shn=t then K (.val t y) Γ else match q,p with
    |false,[]=>if r.t.sh=ty then K (.val r.t.shn (Ty.shnx r.t r.x)) ((Γ.mapv (AV.drop n)).setRt n none)else none
    |_,_=>none
  |none=>none
 |_=>none
def AE.whole(Γ:AE)(fl:Bool)(ty:Ty):AV→Option (Nat×Root)
 |.ptr n []=>match Γ.look n with
  |some r=>if r.bx=true∧(r.t.isAgg || fl)=true∧r.t.shn≠r.t∧r.t.sh=ty then some (n,r)else none
  |none=>none
 |_=>none
def AE.asg(Γ:AE)(q:Bool)(cx:Cx)(d:Nat)(v:AV)(K:AE→Rs ρ):Rs ρ:=match v with
 |.sref r []=>match Γ.look r with
  |some ⟨false,t,x⟩=>bif r==d then K (Γ.set d (.sref r []))else bif (cx.V r || decide (pinned≤r)) || q then K (Γ.set d (.sref r []))else
    bif decide (d<pinned)then K (((((Γ.mapv (AV.drop d)).mapv (AV.ren r d)).setRt r none).setRt d (some ⟨false,t,x⟩)).set d (.sref d []))else none
  |_=>K (Γ.set d (.sref r []))
 |.swin r [] 0 k=>match Γ.look r with
  |some ⟨false,.list true e,l⟩=>bif (r==d)&&!q then
    bif decide (d<pinned)&&decide (k≤a01 l)then K (((Γ.mapv (AV.kill r [])).setRt r (some ⟨false,.list true e,a22 k l⟩)).set d (.sref d []))else none
   else K (Γ.set d (.swin r [] 0 k))
  |_=>K (Γ.set d (.swin r [] 0 k))
 |.nils=>match Γ.look d with
  |some ⟨false,_,_⟩=>bif decide (pinned≤d) || q then K (Γ.set d .nils)else K (((Γ.mapv (AV.drop d)).setRt d none).set d .nils)
  |_=>K (Γ.set d .nils)
 |v=>K (Γ.set d v)
def AE.elems(Γ:AE)(e:Ty)(a:AV)(K:List e.den→Rs ρ):Rs ρ:=match a with
 |.val (.list false t') x=>if h:t'=e then K (h▸(show List t'.den from x))else none
 |.nils|.empt=>K []
 |.sref n p=>match Γ.look n with
  |some r=>match a0p r.t r.x p with
   |⟨.list true e',l⟩=>if h:e'=e then K (h▸l)else none
   |_=>none
  |none=>none
 |.swin n p o k=>match Γ.look n with
  |some r=>match a0p r.t r.x p with
   |⟨.list true e',l⟩=>if h:e'=e then K (a22 k (a26 o (h▸l)))else none
   |_=>none
  |none=>none
 |_=>none
def e0h:a0l→Bool
 | []=>true
 |.idx _::_=>false
 |_::p=>e0h p
def AE.copTo(Γ:AE)(n:Nat)(p:a0l)(off:Nat)(len:Option Nat)(k:IntKind)(ys:List Int)(K:Nat→AE→Rs ρ):Rs ρ:=match Γ.look n with
 |some r=>match a0p r.t r.x p with
  |⟨.list true (.int k'),l⟩=>bif decide (k'=k)&&e0h p then
    K (min (len.getD (a01 l)) ys.length) (Γ.setRt n (some ⟨r.bx,r.t,b0s r.t r.x p (.list true (.int k')) (q0w (show List Int from l) off (len.getD (a01 l)) ys)⟩))
   else none
  |_=>none
 |none=>none
def AE.copK(Γ:AE)(a:AV)(k:IntKind)(ys:List Int)(K:Nat→AE→Rs ρ):Rs ρ:=match a with
 |.sref n p=>Γ.copTo n p 0 none k ys K
 |.swin n p off len=>Γ.copTo n p off (some len) k ys K
 |_=>none
def AE.mins(f:Int→Int→Int)(k:IntKind):List AV→Int→(AV→Rs ρ)→Rs ρ
 | [],x,K=>K (.val (.int k) x)
 |.val (.int k') y::r,x,K=>if k'=k then AE.mins f k r (f x y) K else none
 |_,_,_=>none
def n0y(cx:Cx):List Nat→Bool
 | [_]=>true
 |_::t::_=>match cx.T t with
  |some (.list _ _)|some .str=>true
  |_=>false
 | []=>false
def AE.gathN(Γ:AE)(d m:Nat)(e:Ty)(ys:List e.den)(n:Nat)(K:AE→Rs ρ):Rs ρ:=match Γ.look n with
 |some ⟨false,.list true e',l⟩=>if h:e=e' then
   bif (decide (n<pinned)&&!(n==m))&&lim (a01 l+ys.length)then
    K (((((Γ.mapv (AV.kill n [])).mapv (AV.drop m)).setRt m none).setRt n (some ⟨false,.list true e',List.append l (h▸ys)⟩)).set d (.sref n []))
   else none
  else none
 |_=>none
def AE.gath(Γ:AE)(d m:Nat)(e:Ty)(ys:List e.den)(a:AV)(K:AE→Rs ρ):Rs ρ:=match a with
 |.nils=>bif d==m then none else Γ.fresh false d ⟨false,.list true e,([]:List e.den)⟩ fun Γ'=>Γ'.gathN d m e ys d K
 |.sref n []=>Γ.gathN d m e ys n K
 |_=>none
def AE.ownB(Γ:AE)(e:Ty):AV→Option (Nat×(e':Ty)×List e'.den)
 |.sref m []=>match Γ.look m with
  |some ⟨false,.list true e',ys⟩=>bif decide (e'.sh=e)&&!decide (e'=e)then some (m,⟨e',ys⟩)else none
  |_=>none
 |_=>none
def v0h(cx:Cx)(ts:List Nat)(a b:AV):Option ((e:Ty)×List e.den):=match ts,a,b with
 |t::t2::_,.nils,.val (.int .i64) (n:Int)=>match cx.T t,cx.T t2 with
  |some (.list _ e),some (.int .i64)=>bif decide (0≤n)&&lim n.toNat then some ⟨e,a15 n.toNat e.dflt⟩else none
  |_,_=>none
 |_,_,_=>none
def AE.zapp(Γ:AE)(q:Bool)(cx:Cx)(d:Nat)(ts:List Nat)(a b:AV)(K:AE→Rs ρ):Rs ρ:=match ts,a,b with
 |t::t2::_,.nils,.val (.int .i64) (n:Int)=>match cx.T t,cx.T t2 with
  |some (.list _ e),some (.int .i64)=>bif decide (0≤n)&&lim n.toNat then Γ.apnd q d e .nils (a15 n.toNat e.dflt) K else none
  |_,_=>none
 |_,_,_=>none
theorem m0e(Γ:AE)(q:Bool)(cx:Cx)(d:Nat)(h:List Nat)(a b:AV)(K:AE→Rs ρ):Γ.zapp q cx d h a b K=match v0h cx h a b with
  |some ⟨e,ys⟩=>Γ.apnd q d e .nils ys K
  |none=>none:=by
 unfold AE.zapp v0h;split;split;simp only[cond_eq_ite]
 split<;>simp_all
 split;rename_i g f _ _ _ _;simp_all;rfl;split;simp_all;rfl
def AE.blt(Γ:AE)(q:Bool)(cx:Cx)(d:Nat)(b:Builtin)(ts:List Nat)(as:List AV)(K:AE→Rs ρ):Rs ρ:=
 match b,as with
 |.len,[a]=>Γ.lenK (ts.head?.bind cx.T) a fun n=>K (Γ.set d (.val (.int .i64) (n:Int)))
 |.max,.val (.int k) x::r=>AE.mins y0d k r x fun v=>K (Γ.set d v)
 |.min,.val (.int k) x::r=>AE.mins y0e k r x fun v=>K (Γ.set d v)
 |.append,[a,b]=>bif n0y cx ts then match ts.head?.bind cx.T with
  |some (.list _ e)=>
   match b with
   |.val .str y=>if h:e=.int .u8 then Γ.apnd q d e a (h▸y) K else none
   |b=>match (bif q || !e.isList then none else Γ.ownB e b)with
    |some (m,⟨e',ys⟩)=>Γ.gath d m e' ys a K
    |none=>Γ.elems e b fun ys=>Γ.apnd q d e a ys K
  |_=>none
  else Γ.zapp q cx d ts a b K
 |.cap,[.nils]=>bif Ty.isList ((ts.head?.bind cx.T).getD .unit)then K (Γ.set d (.val (.int .i64) (0:Int)))else none
 |.copy,[a,b]=>if q then none else match ts.head?.bind cx.T with
  |some (.list _ (.int k))=>Γ.elems (.int k) b fun ys=>Γ.copK a k ys fun n Γ'=>K (Γ'.set d (.val (.int .i64) (n:Int)))
  |_=>none
 |_,_=>none
def AE.convK(Γ:AE)(src dst:Nat)(ts tt:Option Ty)(a:AV)(K:AV→Rs ρ)(Kr:Root→Rs ρ):Rs ρ:=
 match ts,tt,a with
 |some _,some (.int k),.val (.int _) (x:Int)=>K (.val (.int k) (k.wrap x))
 |some .str,some (.list _ (.int .u8)),.val .str (x:List Int)=>bif lim x.length then Kr ⟨false,.list true (.int .u8),x⟩else none
 |some .str,some .str,.val .str (x:List Int)=>K (.val .str x)
 |some (.list _ (.int .u8)),some (.list _ (.int .u8)),.sref n []=>if src=dst then(match Γ.look n with
  |some ⟨false,.list true (.int .u8),l⟩=>bif decide (0<a01 l)then K (.sref n [])else none
  |_=>none)else none
 |some (.list _ (.int .u8)),some .str,a=>Γ.elems (.int .u8) a fun x=>K (.val .str (b2s x))
 |_,_,_=>none
def AE.conv(Γ:AE)(q:Bool)(cx:Cx)(d:Nat)(src dst:Nat)(a:AV)(K:AE→Rs ρ):Rs ρ:=
 Γ.convK src dst (cx.T src) (cx.T dst) a (fun v=>K (Γ.set d v)) fun r=>Γ.fresh q d r fun Γ=>K (Γ.set d (.sref d []))
def Cx.own(cx:Cx)(d t:Nat):Option Ty:=match cx.O d with
 |some t'=>if cx.T t=some t'.sh then some t' else none
 |none=>cx.T t
def AE.un(op:UnOp)(a:AV)(K:AV→Rs ρ):Rs ρ:=match op,a with
 |.not,.val .bool (b:Bool)=>K (.val .bool (!b))
 |.neg,.val (.int k) (x:Int)=>K (.val (.int k) (k.wrap (0-x)))
 |.xor,.val (.int k) (x:Int)=>K (.val (.int k) (bits k .xor (if k.signed then -1 else k.max) x))
 |_,_=>none
def o0t(c a b:AV)(K:AV→Rs ρ):Rs ρ:=match c with
 |.val .bool (y:Bool)=>match a,b with
  |.val .bool (u:Bool),.val .bool (v:Bool)=>K (.val .bool (bif y then u else v))
  |u,.skp=>bif y then K u else none
  |.skp,v=>bif y then none else K v
  |_,_=>none
 |_=>none
def Cx.glob(cx:Cx):AV→AV
 |.glob g=>match cx.G.g g with
  |some ⟨t,x⟩=>.vptr t x
  |none=>.dead
 |v=>v
def AE.sopd(Γ:AE):Operand→SV
 |.tmp t=>Γ.sl t
 |x=>.one (Γ.opd x)
def AE.aggOf(Γ:AE):Operand→Option (List AV)
 |.tmp i=>match Γ.sl i with
  |.cmp .agg vs=>some vs
  |_=>none
 |_=>none
def AV.fits1:AV→Ty→Bool
 |.val t _,a=>!t.isAgg&&!a.isAgg
 |.sref _ [],.list true _=>true
 |.nils,.list true _=>true
 |_,_=>false
def g0g:Ty→Option AV
 |.list _ _=>some .nils
 |.int k=>some (.val (.int k) (0:Int))
 |.bool=>some (.val .bool false)
 |.str=>some (.val .str ([]:List Int))
 |_=>none
def AE.aggV(Γ:AE):Nat→Ty→List (Nat×Operand)→Option (List AV)
 |_,.unit,[]=>some []
 |k,.pair a b,[]=>(g0g a).bind fun v=>(Γ.aggV (k+1) b []).map (v::·)
 |k,.pair a b,(i,o)::r=>bif i==k then(bif decide (a.cells=1)&&(Γ.opd o).fits1 a then(Γ.aggV (k+1) b r).map (Γ.opd o::·)else none)
   else(g0g a).bind fun v=>(Γ.aggV (k+1) b ((i,o)::r)).map (v::·)
 |_,_,_=>none
def AE.stors(x:Operand)(d:Nat)(τ:Ty):Nat→Ty→AE→(AE→Rs ρ)→Rs ρ
 |i,.unit,Γ,K=>match Γ.aggOf x with
  |some vs=>bif vs.length==i then K Γ else none
  |none=>none
 |i,.pair a b,Γ,K=>match Γ.rt d,Γ.get d,(Γ.aggOf x).bind (·[i]?)with
  |some r,.ptr n [],some v=>if r.t=τ∧n=d∧a.cells=1 then Γ.stor a.sh d (b0l i) v fun Γ'=>AE.stors x d τ (i+1) b Γ' K else none
  |_,_,_=>none
 |_,_,_,_=>none
def Cx.nlT(cx:Cx)(d t:Nat):Option Ty:=match cx.O d with
 |some t'=>if t'.shn=t'∧cx.T t=some t'.sh then some t' else none
 |none=>none
def AE.frzF(Γ:AE)(k:Bool):AV→AE
 |.ptr n (s::p)=>match Γ.look n with
  |some r=>match a0p r.t r.x (s::p)with
   |⟨.list true _,_⟩=>bif k&&(r.bx&&e0h (s::p))then(Γ.mapv (AV.deeps [n] [])).setRt n (some ⟨true,r.t.shn,Ty.shnx r.t r.x⟩)else Γ
   |_=>Γ
  |none=>Γ
 |_=>Γ
def AE.nilAt(Γ:AE)(cx:Cx):Operand→Operand→Option (Nat×a0l)
 |.tmp s,.const (.slice none 0 0)=>bif cx.K s then(match Γ.get s with
  |.ptr n p=>some (n,p)
  |_=>none)else none
 |_,_=>none
def Cx.nilMark(cx:Cx):Operand→Operand→Bool
 |.tmp s,.const (.slice none 0 0)=>cx.K s
 |_,_=>false
theorem y0n(Γ:AE){a:Operand}(h:cx.nilMark a x=false):Γ.nilAt cx a x=none:=by
 unfold AE.nilAt;split;have h:cx.K _=false:=h;rw[h];rfl;rfl
def d0e:a0l→(t:Ty)→t.den→(t':Ty)→t'.den→(t:Ty)×t.den
 | [],_,_,t',y=>⟨t',y⟩
 |.fst::p,.pair a b,x,t',y=>⟨.pair (d0e p a x.1 t' y).1 b,((d0e p a x.1 t' y).2,x.2)⟩
 |.snd::p,.pair a b,x,t',y=>⟨.pair a (d0e p b x.2 t' y).1,(x.1,(d0e p b x.2 t' y).2)⟩
 |_::_,t,x,_,_=>⟨t,x⟩
def AE.nilSt(Γ:AE)(ty:Ty)(n:Nat)(p:a0l)(K:AE→Rs ρ):Rs ρ:=match Γ.look n with
 |some r=>match a0p r.t r.x p with
  |⟨.list false e,_⟩=>if ty=.list false e∧e.sh=e then bif r.bx&&e0h p then
    K (Γ.setRt n (some ⟨true,(d0e p r.t r.x (.nl e) ([]:List e.den)).1,(d0e p r.t r.x (.nl e) ([]:List e.den)).2⟩))else none else none
  |_=>none
 |none=>none
def aop(cx:Cx)(q:Bool)(o:Oper)(Γ:AE)(K:AE→Rs ρ):Rs ρ:=
 match o.op,o.dst with
 |.move x,some d=>match x with
  |.tmp t=>K (Γ.put d (Γ.sl t))
  |x=>K (Γ.set d (Γ.opd x))
 |.assign x,some d=>match Γ.sopd x with
  |.one v=>Γ.asg q cx d v K
  |.cmp c vs=>K (Γ.put d (.cmp c vs))
 |.makeFunc (.func f) first caps,some d=>bif first.isEmpty then K (Γ.put d (.cmp (.clo f) (caps.toList.map Γ.opd)))else none
 |.pick c a b,some d=>o0t (Γ.opd c) (Γ.opd a) (Γ.opd b) fun v=>K (Γ.set d v)
 |.alloc t,some d=>match cx.own d t with
  |some t=>Γ.fresh q d ⟨true,t,t.dflt⟩ fun Γ=>K (Γ.set d (.ptr d []))
  |none=>none
 |.box t x,some d=>match (bif q then none else Γ.aggOf x)with
  |some _=>match Γ.rt d,cx.O d with
   |none,some t'=>if cx.T t=some t'.sh then Γ.fresh false d ⟨true,t',t'.dflt⟩ fun Γ=>AE.stors x d t' 0 t' (Γ.set d (.ptr d [])) K else none
   |_,_=>none
  |none=>match cx.T t with
  |some t=>Γ.asV q t (Γ.opd x) fun y Γ=>if cx.K d then K (Γ.set d (.vptr t y))else Γ.fresh q d ⟨true,t,y⟩ fun Γ=>K (Γ.set d (.ptr d []))
  |none=>none
 |.build t ps,some d=>match cx.nlT d t with
  |some t'=>bif t'.isAgg then Γ.fills q t' ps.toList t'.dflt fun y Γ=>K (Γ.set d (.val t' y))else none
  |none=>match cx.O d with
  |some t'=>if cx.T t=some t'.sh then(match Γ.aggV 0 t' ps.toList with
   |some vs=>bif decide (0<t'.cells)then K (Γ.put d (.cmp .agg vs))else none
   |none=>none)else none
  |none=>match cx.T t with
  |some t=>bif t.isAgg then Γ.fills q t ps.toList t.dflt fun y Γ=>K (Γ.set d (.val t y))else none
  |none=>none
 |.buildSlice t n ps,some d=>match cx.T t with
  |some (.list _ e)=>match (bif q || !e.isList then none else cx.O d)with
   |some t'=>match t',ps.toList with
    |.list true e',[(0,x)]=>if e'.sh=e∧n=1 then Γ.fresh false d ⟨false,.list true e',[e'.dflt]⟩ fun Γ=>(match Γ.opd x with
      |.sref m []=>(Γ.set d (.sref d [])).stor e d [.idx 0] (.sref m []) K
      |_=>none)else none
    |_,_=>none
   |none=>bif lim n&&decide (n*e.cells≤16777216)then Γ.lit q e n ps.toList (a15 n e.dflt) fun y Γ=>bif cx.K d then K (Γ.set d (.val (.list false e) y))else Γ.fresh q d ⟨false,.list true e,y⟩ fun Γ=>K (Γ.set d (.sref d []))else none
  |_=>none
 |.load t a,some d=>match cx.T t with
  |some t=>match (bif q then none else Γ.whole (cx.K d) t (Γ.opd a))with
   |some (n,r)=>K (((Γ.mapv (AV.deeps [n] [])).setRt n (some ⟨true,r.t.shn,Ty.shnx r.t r.x⟩)).set d (.val r.t.shn (Ty.shnx r.t r.x)))
   |none=>(bif q then Γ else Γ.frzF (cx.K d) (Γ.opd a)).lodK q t (cx.glob (Γ.opd a)) fun v Γ=>K (Γ.set d v)
  |none=>none
 |.store t a x,d=>if q then none else match Γ.nilAt cx a x with
  |some (n,p)=>match cx.T t with
   |some t=>Γ.nilSt t n p fun Γ=>K (Γ.setD d .dead)
   |none=>none
  |none=>match Γ.aggOf x with
  |some _=>match a with
   |.tmp s=>match Γ.rt s with
    |some r=>if cx.T t=some r.t.sh∧0<r.t.cells then AE.stors x s r.t 0 r.t Γ fun Γ=>K (Γ.setD d .dead)else none
    |none=>none
   |_=>none
  |none=>match Γ.opd a with
  |.ptr n p=>match cx.T t with
   |some t=>Γ.stor t n p (Γ.opd x) fun Γ=>K (Γ.setD d .dead)
   |none=>none
  |_=>none
 |.nilCheck x,some d=>match Γ.opd x with
  |.ptr n p=>K (Γ.set d (.ptr n p))
  |.vptr t y=>K (Γ.set d (.vptr t y))
  |_=>none
 |.binOp op ty x y _,some d=>bif w0r (cx.T ty)then(match u0t (cx.T ty) (Γ.opd x) (Γ.opd y)with
   |some e=>if q then none else E0m op e fun b=>K (Γ.set d (.val .bool b))
   |none=>none)
  else h0r cx op ty (Γ.opd x) (Γ.opd y) fun v=>K (Γ.set d v)
 |.unOp op _ x,some d=>AE.un op (Γ.opd x) fun v=>K (Γ.set d v)
 |.convert s t x,some d=>Γ.conv q cx d s t (Γ.opd x) K
 |.makeSlice t n c,some d=>match cx.own d t with
  |some (.list _ e)=>(Γ.opd n).isVal (.int .i64) fun(x:Int)=>(Γ.opd c).isVal (.int .i64) fun(y:Int)=>
    bif decide (0≤x)&&(decide (x≤y)&&lim y.toNat)then Γ.fresh q d ⟨false,.list true e,a15 x.toNat e.dflt⟩ fun Γ=>K (Γ.set d (.sref d []))else none
  |_=>none
 |.slice t x lo hi mx,some d=>Γ.slic (cx.T t) (Γ.opd x) lo hi mx fun v=>K (Γ.set d v)
 |.fieldAddr s x f,some d=>match Γ.opd x with
  |.ptr n p=>match Γ.rt n with
   |some r=>match a0p r.t r.x p with
    |⟨t,_⟩=>if c0k t f=true∧cx.T s=some t.sh then K (Γ.set d (.ptr n (p++b0l f)))else none
   |none=>none
  |.vptr t y=>if c0k t f=true∧cx.T s=some t then(match a0p t y (b0l f)with|⟨t',z⟩=>K (Γ.set d (.vptr t' z)))else none
  |_=>none
 |.field s x f,some d=>match Γ.opd x with
  |.val t y=>if c0k t f=true∧cx.T s=some t then(match a0p t y (b0l f)with|⟨t',z⟩=>K (Γ.set d (.val t' z)))else none
  |_=>none
 |.indexAddr t x i,some d=>match Γ.opd i with
  |.val (.int _) (i:Int)=>Γ.addrK (cx.T t) (cx.glob (Γ.opd x)) i fun v=>K (Γ.set d v)
  |_=>none
 |.index s x i,some d=>match Γ.opd x,Γ.opd i with
  |.val (.arr n t) l,.val (.int _) (i:Int)=>if cx.T s=some (.arr n t)then(n0s l i).bind fun y=>K (Γ.set d (.val t y))else none
  |.val .str (l:List Int),.val (.int _) (i:Int)=>if cx.T s=some .str then(n0s l i).bind fun y=>K (Γ.set d (.val (.int .u8) y))else none
  |_,_=>none
 |.lookup t x k true,some d=>if q then none else match cx.G.m,Γ.opd x,Γ.opd k with
  |some ⟨e,b,L⟩,.val .hd (b':Int),.val (.int .i64) (k:Int)=>if cx.G.w t=some e then(bif b'==b then K (Γ.put d (.cmp .tup [.val e ((g0l k L).getD e.dflt),.val .bool (g0l k L).isSome]))else none)else none
  |_,_,_=>none
 |.extract (.tmp t) i,some d=>match Γ.sl t with
  |.cmp .tup vs=>match vs[i]? with
   |some v=>K (Γ.set d v)
   |none=>none
  |_=>none
 |.call c,d=>match c.callee with
  |.builtin b=>match d with
   |some d=>Γ.blt q cx d b c.argTypes.toList (c.args.toList.map Γ.opd) K
   |none=>none
  |.value (.func f)=>match cx.C f with
   |some s=>Γ.call q d s (c.args.toList.map Γ.opd) K
   |none=>none
  |.value (.tmp t)=>if q then none else match Γ.sl t with
   |.cmp (.clo f) vs=>match cx.C f with
    |some s=>Γ.call q d s (c.args.toList.map Γ.opd++vs) K
    |none=>none
   |.one (.val (.fn f) _)=>match cx.C f with
    |some s=>Γ.call q d s (c.args.toList.map Γ.opd) K
    |none=>none
   |_=>none
  |_=>none
 |_,_=>none
def f0i(ops:List Oper)(j:Nat):Option Nat:=(ops[j]?).bind (·.dst)
inductive Md where
 |v|q|x

 |p

 |a (ws:List Nat)

 |s

 |b (ws:List Nat)

 |c (ws:List Nat)

 |e

 |u

 |t

 |h

 |k (ws:List Nat)

 |f
 |r (ns:List Nat)
 |w (ws:List Nat)
def Md.isW:Md→Bool
 |.w _=>true
 |.k _=>true
 |.e=>true
 |_=>false
def AV.firm:AV→Bool
 |.skp|.val _ _|.nils|.empt|.nilp|.vptr _ _|.glob _=>true
 |_=>false
def SV.firm:SV→Bool
 |.one v=>v.firm
 |.cmp _ vs=>vs.all AV.firm
def AV.refs:AV→List Nat
 |.ptr n _|.sref n _|.swin n _ _ _=>[n]
 |_=>[]
def SV.refs:SV→List Nat
 |.one v=>v.refs
 |.cmp _ vs=>vs.flatMap AV.refs
def AV.alive:AV→Bool
 |.dead=>false
 |_=>true
def SV.alive:SV→Bool
 |.one v=>v.alive
 |.cmp _ vs=>vs.all AV.alive
def o0k(cx:Cx)(ts:List Nat):Bool:=match ts.head?.bind cx.T with
 |some (.list _ e)=>e.isList
 |_=>false
def wOk(cx:Cx)(o:Oper)(Γ:AE):Bool:=match o.op with
 |.call c=>match c.callee with
  |.builtin .append=>o.dst.isSome&&!o0k cx c.argTypes.toList
  |.value (.func f)=>match cx.C f with
   |some s=>!(s.rs.any RA.hasList || (e0i s.ps).any RA.hasList) || c.args.toList.all fun x=>(Γ.opd x).viewed.isEmpty
   |none=>false
  |_=>false
 |.store _ a x=>(Γ.opd x).viewed.isEmpty&&((Γ.aggOf x).isNone&&!cx.nilMark a x)
 |_=>false
def AE.foot(Γ:AE)(o:Oper):List Nat:=o.op.operands.toList.flatMap fun x=>match x with
 |.tmp t=>(Γ.sl t).refs
 |_=>[]
def d0y(cx:Cx)(o:Oper)(d:Nat):List Nat:=d::(match o.op with
 |.call c=>(match c.callee with
  |.value (.func f)=>(match cx.C f with
   |some s=>b0o s.rs (d+1000)
   |none=>[])
  |_=>[])
 |_=>[])
def j0i(a b:List Nat):Bool:=a.all fun n=>b.contains n
def disj(a b:List Nat):Bool:=a.all fun n=>!b.contains n
def o0s(Γ:AE):Operand→Option Nat
 |.tmp t=>match Γ.sl t with
  |.one (.ptr n [])=>bif decide (pinned≤n)then some n else none
  |_=>none
 |_=>none
def i0s(o:Oper)(Γ:AE):Option Nat:=match o.op with
 |.move x=>o0s Γ x
 |.nilCheck x=>o0s Γ x
 |_=>none
def AV.calm:AV→Bool
 |.ptr n []=>decide (pinned≤n)
 |v=>v.firm
def SV.calm:SV→Bool
 |.one v=>v.calm
 |sv=>sv.firm
def Step.isField:Step→Bool
 |.idx _=>false
 |_=>true
def AV.still:AV→Bool
 |.ptr _ p|.sref _ p=>p.all Step.isField
 |v=>v.firm
def SV.still:SV→Bool
 |.one v=>v.still
 |sv=>sv.firm
def tyF:Ty→a0l→Option Ty
 |t,[]=>some t
 |.pair a _,.fst::p=>tyF a p
 |.pair _ b,.snd::p=>tyF b p
 |_,_=>none
def AE.ptrTy(Γ:AE):Operand→Option (Nat×a0l×Ty)
 |.tmp t=>match Γ.sl t with
  |.one (.ptr n p)=>match Γ.rt n with
   |some r=>(tyF r.t p).map fun τ=>(n,p,τ)
   |none=>none
  |_=>none
 |_=>none
def AE.stay(cx:Cx)(Γ:AE)(o:Oper):Option AV:=match o.op with
 |.move (.tmp t)=>match Γ.sl t with
  |.one v=>bif v.still&&v.refs.all fun n=>(Γ.rt n).isSome then some v else none
  |_=>none
 |.fieldAddr s x f=>match Γ.ptrTy x with
  |some (n,p,τ)=>if c0k τ f=true∧cx.T s=some τ.sh then some (.ptr n (p++b0l f))else none
  |none=>none
 |.load s x=>match Γ.ptrTy x with
  |some (n,p,.list true _)=>match cx.T s with
   |some τ=>bif τ.isList then some (.sref n p)else none
   |none=>none
  |_=>none
 |_=>none
def Root.scal(r:Root)(p:a0l):Option AV:=bif p.all Step.isField then(match a0p r.t r.x p with
 |⟨.int k,v⟩=>some (.val (.int k) v)
 |_=>none)else none
def AE.peek(cx:Cx)(Γ:AE)(o:Oper):Option AV:=match o.op with
 |.fieldAddr s x f=>match Γ.ptrTy x with
  |some (n,p,τ)=>if c0k τ f=true∧cx.T s=some τ.sh then some (.ptr n (p++b0l f))else none
  |none=>none
 |.load s x=>match Γ.ptrTy x with
  |some (n,p,.int k)=>if cx.T s=some (.int k)then(match Γ.rt n with
   |some r=>r.scal p
   |none=>none)else none
  |_=>none
 |_=>none
def u0v(o:Oper):Bool:=match o.op with
 |.move _|.binOp _ _ _ _ _|.unOp _ _ _|.pick _ _ _|.load _ _|.fieldAddr _ _ _|.indexAddr _ _ _|.index _ _ _=>true
 |_=>false
def w0s(t:(t:Ty)×t.den):Bool:=match t with
 |⟨.list true _,_⟩=>true
 |_=>false
def AE.pends(cx:Cx)(Γ:AE)(o:Oper):Bool:=match o.op with
 |.store t (.tmp a) (.tmp x)=>match Γ.pd,Γ.sl a,Γ.sl x with
  |some (n,p,_),.one (.ptr n1 p1),.one (.sref n2 p2)=>(n1==n&&(n2==n&&(f0n p2 p1&&f0n p p1)))&&((match Γ.rt n with
    |some r=>w0s (a0p r.t r.x p1)
    |none=>false)&&(match cx.T t with
    |some τ=>τ.isList
    |none=>false))
  |_,_,_=>false
 |_=>false
def AE.pdElem(Γ:AE):Bool:=match Γ.pd with
 |none=>true
 |some (_,p,_)=>!p.all Step.isField
def AE.kst(Γ:AE)(cx:Cx)(o:Oper):Option (Nat×Root):=match o.op with
 |.store t a x=>match Γ.opd a,Γ.opd x,cx.T t with
  |.ptr n p,.val t' y,some ty=>match Γ.look n with
   |some r=>if(a0p r.t r.x p).1=t'∧t'.shn=t'∧t'.sh=ty then some (n,⟨r.bx,r.t,b0s r.t r.x p t' y⟩)else none
   |none=>none
  |_,_,_=>none
 |_=>none
def b0d(cx:Cx):Md→Oper→AE→(AE→Rs ρ)→Rs ρ
 |.x,o,Γ,K=>aop cx false o Γ K
 |.w ws,o,Γ,K=>match Γ.pd with
  |none=>bif wOk cx o Γ&&(j0i (Γ.foot o) ws&&j0i (d0y cx o (o.dst.getD 0)) ws)then aop cx false o Γ fun Γ'=>(match Γ'.pd with
    |none=>K Γ'
    |some _=>none)else none
  |some _=>none
 |.h,o,Γ,K=>match o.op,o.dst with
  |.move (.tmp t),some d=>K (Γ.put d (Γ.sl t))
  |_,_=>none
 |.k ws,o,Γ,K=>match Γ.kst cx o with
  |some (n,r)=>bif ws.contains n then K ((Γ.setRt n (some r)).setD o.dst .dead)else none
  |none=>none
 |.f,o,Γ,K=>match o.op,o.dst with
  |.build t ps,some d=>bif (cx.nlT d t).isNone&&(cx.O d).isNone then(match cx.T t with
   |some t=>bif t.isAgg then Γ.fills false t ps.toList t.dflt fun y Γ=>K (Γ.set d (.val t y))else none
   |none=>none)else none
  |_,_=>none
 |.r ns,o,Γ,K=>bif (o.op.operands.toList.all fun x=>match x with
   |.tmp t=>(Γ.sl t).alive&&(Γ.sl t).refs.all fun n=>(Γ.rt n).isSome&&ns.contains n
   |_=>true)&&j0i (d0y cx o (o.dst.getD 0)) ns then
    (match o.dst with
     |some d=>aop cx true o Γ fun Γ'=>bif j0i (Γ'.sl d).refs ns then K Γ' else none
     |none=>none)
   else none
 |.p,o,Γ,K=>match i0s o Γ,o.dst with
  |some n,some d=>K (Γ.put d (.one (.ptr n [])))
  |_,_=>none
 |.a ws,o,Γ,K=>match Γ.pd with
  |none=>bif wOk cx o Γ&&(j0i (Γ.foot o) ws&&j0i (d0y cx o (o.dst.getD 0)) ws)then aop cx false o Γ K else none
  |some _=>none
 |.b ws,o,Γ,K=>match Γ.pd with
  |none=>bif wOk cx o Γ&&(j0i (Γ.foot o) ws&&j0i (d0y cx o (o.dst.getD 0)) ws)then aop cx false o Γ fun Γ'=>(match Γ'.pd with
    |some (_,p,_)=>bif !p.all Step.isField then K Γ' else none
    |none=>none)else none
  |some _=>none
 |.s,o,Γ,K=>match Γ.stay cx o,o.dst with
  |some v,some d=>bif v.still&&Γ.pdElem then K (Γ.put d (.one v))else none
  |_,_=>none
 |.c ws,o,Γ,K=>match Γ.pd with
  |none=>bif wOk cx o Γ&&(j0i (Γ.foot o) ws&&j0i (d0y cx o (o.dst.getD 0)) ws)then aop cx false o Γ fun Γ'=>(match Γ'.pd with
    |some (_,p,_)=>bif p.all Step.isField then K Γ' else none
    |none=>none)else none
  |some _=>none
 |.e,o,Γ,K=>bif Γ.pends cx o&&o.dst.isNone then K { Γ with pd:=none }else none
 |.t,o,Γ,K=>match Γ.peek cx o,o.dst with
  |some v,some d=>K (Γ.put d (.one v))
  |_,_=>none
 |.u,o,Γ,K=>bif u0v o&&o.op.operands.toList.all (fun x=>match x with
   |.tmp t=>(Γ.sl t).firm
   |_=>true)then
    (match o.dst with
     |some d=>aop cx true o Γ fun Γ'=>bif (Γ'.sl d).firm then K Γ' else none
     |none=>none)
   else none
 |.q,o,Γ,K=>bif o.op.operands.toList.all fun x=>match x with
   |.tmp t=>(Γ.sl t).refs.all fun n=>(Γ.rt n).isSome
   |_=>true then
    (match o.dst with
     |some _=>aop cx true o Γ K
     |none=>none)
   else none
 |.v,o,Γ,K=>match i0s o Γ with
  |some n=>(match o.dst with
   |some d=>K (Γ.put d (.one (.ptr n [])))
   |none=>none)
  |none=>bif o.op.operands.toList.all fun x=>match x with
   |.tmp t=>(Γ.sl t).firm
   |_=>true then
    (match o.dst with
     |some d=>aop cx true o Γ fun Γ'=>bif (Γ'.sl d).firm then K Γ' else none
     |none=>none)
   else none
def a0g(cx:Cx)(md:Md)(ops:List Oper)(o:Oper)(Γ:AE)(K:AE→Rs ρ):Rs ρ:=
 match o.guard with
 |none=>b0d cx md o Γ K
 |some (j,want)=>match f0i ops j with
  |none=>none
  |some g=>match Γ.get g with
   |.val .bool (b:Bool)=>bif b then(bif want then b0d cx md o (Γ.set g (.val .bool true)) K else K ((Γ.set g (.val .bool true)).setD o.dst .skp))
     else(bif want then K ((Γ.set g (.val .bool false)).setD o.dst .skp)else b0d cx md o (Γ.set g (.val .bool false)) K)
   |.skp=>K (Γ.setD o.dst .skp)
   |_=>none
def h0q(cx:Cx)(ops:List Oper):List (Md×Oper)→AE→(AE→Rs ρ)→Rs ρ
 | [],Γ,K=>K Γ
 |(md,o)::r,Γ,K=>a0g cx md ops o Γ fun Γ'=>h0q cx ops r Γ' K
def q0l:Md→Md→Bool
 |.x,_|_,.x=>false
 |.f,.h|.h,.f=>true
 |.f,_|_,.f=>false
 |.e,.u|.u,.e=>true
 |.e,_|_,.e=>false
 |.c _,.u|.u,.c _=>true
 |.c _,.t|.t,.c _=>true
 |.c _,_|_,.c _=>false
 |.a _,.p|.p,.a _=>true
 |.a _,_|_,.a _=>false
 |.b _,.s|.s,.b _=>true
 |.b _,.u|.u,.b _=>true
 |.b _,.t|.t,.b _=>true
 |.b _,_|_,.b _=>false
 |.k _,.h|.h,.k _=>true
 |.k _,.v|.v,.k _=>true
 |.k _,.p|.p,.k _=>true
 |.k _,.u|.u,.k _=>true
 |.k _,_|_,.k _=>false
 |.w _,.h|.h,.w _=>true
 |.w _,.p|.p,.w _=>true
 |.w _,.v|.v,.w _=>true
 |.w _,.u|.u,.w _=>true
 |.w ws,.r ns|.r ns,.w ws=>disj ns ws
 |.w _,_|_,.w _=>false
 |_,_=>true
def p0o:List Oper→List Nat→List Nat
 | [],acc=>acc
 |o::r,acc=>p0o r (acc++[o.after.toList.foldl (fun s e=>if Region.binds .any e then s ||| 2^e.on ||| acc.getD e.on 0 else s) 0])
def n0o(ops:Array Oper)(ms:List Md):Bool:=
 let b:=p0o ops.toList []
 decide (ms.length=ops.size)&&(a24 ops.size).all fun j=>((ops.getD j default).after.toList.all fun e=>!Region.binds .any e || decide (e.on<j)) &&
  (a24 j).all fun i=>(b.getD j 0).testBit i || (q0l (ms.getD i .x) (ms.getD j .x)&&((ops.getD i default).apart ops (ops.getD j default) &&
   (((ms.getD i .x).isW || (ops.getD i default).dst.isSome)&&((ms.getD j .x).isW || (ops.getD j default).dst.isSome))))
end
inductive Ex where
 |normal
 |exit (id:Nat)
 |ret
 deriving DecidableEq
inductive Ent where
 |sv (i:Nat) (t:Ty)

 |own (i n:Nat) (e:Ty)

 |box (n:Nat) (t:Ty)
 |ptr (i n:Nat) (p:a0l)

 |vp (i:Nat) (t:Ty)
 |ref (i n:Nat) (p:a0l)

 |rfi (i n:Nat)

 |win (i n:Nat) (p:a0l)

 |clo (i f:Nat) (ns:List Nat)
@[reducible] def a0c:=List Ent
def a0c.ty:a0c→Ty
 | []=>.unit
 |.sv _ t::r=>.pair t (a0c.ty r)
 |.own _ _ e::r=>.pair (.list true e) (a0c.ty r)
 |.box _ t::r=>.pair t (a0c.ty r)
 |.ptr _ _ _::r=>a0c.ty r
 |.vp _ t::r=>.pair t (a0c.ty r)
 |.ref _ _ _::r=>a0c.ty r
 |.rfi _ _::r=>.pair (.int .i64) (a0c.ty r)
 |.win _ _ _::r=>.pair (.int .i64) (.pair (.int .i64) (a0c.ty r))
 |.clo _ _ _::r=>a0c.ty r
def AE.nothing:AE:=⟨fun _=>.one .dead,fun _=>none,none⟩
def g0q:List Nat→List AV
 | []=>[]
 |n::ns=>.ptr n []::g0q ns
def j0b:List AV→List Nat→Bool
 | [],[]=>true
 |.ptr n []::vs,m::ns=>(n==m)&&j0b vs ns
 |_,_=>false
def a0c.enc:(es:a0c)→es.ty.den→AE
 | [],_=>AE.nothing
 |.sv i t::r,x=>(a0c.enc r x.2).set i (.val t x.1)
 |.own i n e::r,x=>((a0c.enc r x.2).setRt n (some ⟨false,.list true e,x.1⟩)).set i (.sref n [])
 |.box n t::r,x=>(a0c.enc r x.2).setRt n (some ⟨true,t,x.1⟩)
 |.ptr i n p::r,x=>(a0c.enc r x).set i (.ptr n p)
 |.vp i t::r,x=>(a0c.enc r x.2).set i (.vptr t x.1)
 |.ref i n p::r,x=>(a0c.enc r x).set i (.sref n p)
 |.rfi i n::r,x=>(a0c.enc r x.2).set i (.sref n [.idx (show Int from x.1).toNat])
 |.win i n p::r,x=>(a0c.enc r x.2.2).set i (.swin n p (show Int from x.1).toNat (show Int from x.2.1).toNat)
 |.clo i f ns::r,x=>(a0c.enc r x).put i (.cmp (.clo f) (g0q ns))
def a0c.names:a0c→List Nat
 | []=>[]
 |.own _ n _::r=>n::a0c.names r
 |.box n _::r=>n::a0c.names r
 |_::r=>a0c.names r
def t0v:List Nat→Bool
 | []=>true
 |a::l=>!l.contains a&&t0v l
section
variable {ρ:Type}
def a0c.rest(nm:List Nat)(Γ:AE):(es:a0c)→(es.ty.den→Rs ρ)→Rs ρ
 | [],K=>K ()
 |.sv i t::r,K=>match Γ.get i with
  |.val t' x=>if h:t'=t then a0c.rest nm Γ r fun y=>K (h▸x,y)else none
  |_=>none
 |.own i n e::r,K=>match Γ.get i with
  |.sref m []=>bif m==n then(match Γ.rt n with
    |some ⟨false,.list true e',l⟩=>if h:e'=e then a0c.rest nm Γ r fun y=>K (h▸l,y)else none
    |_=>none)else none
  |.nils=>match Γ.rt n with
   |none=>bif decide (n<pinned)then a0c.rest nm Γ r fun y=>K ([],y)else none
   |some _=>none
  |.empt=>match Γ.rt n with
   |none=>bif decide (n<pinned)then a0c.rest nm Γ r fun y=>K ([],y)else none
   |some _=>none
  |_=>none
 |.box n t::r,K=>match Γ.rt n with
  |some ⟨true,t',x⟩=>if h:t'=t then a0c.rest nm Γ r fun y=>K (h▸x,y)else if t'.shn=t' then(match castTo t' t x with
   |some z=>a0c.rest nm Γ r fun y=>K (z,y)
   |none=>none)else none
  |_=>none
 |.ptr i n p::r,K=>match Γ.get i with
  |.ptr m q=>bif nm.contains n&&((m==n)&&f0n q p)then a0c.rest nm Γ r K else none
  |_=>none
 |.vp i t::r,K=>match Γ.get i with
  |.vptr t' x=>if h:t'=t then a0c.rest nm Γ r fun y=>K (h▸x,y)else none
  |_=>none
 |.ref i n p::r,K=>match Γ.get i with
  |.sref m q=>bif nm.contains n&&((m==n)&&f0n q p)then a0c.rest nm Γ r K else none
  |_=>none
 |.rfi i n::r,K=>match Γ.get i with
  |.sref m [.idx k]=>bif nm.contains n&&(m==n)then a0c.rest nm Γ r fun y=>K ((k:Int),y)else none
  |_=>none
 |.win i n p::r,K=>match Γ.get i with
  |.swin m q o k=>bif nm.contains n&&((m==n)&&f0n q p)then a0c.rest nm Γ r fun y=>K ((o:Int),(k:Int),y)else none
  |_=>none
 |.clo i f ns::r,K=>match Γ.sl i with
  |.cmp (.clo f') vs=>bif (f'==f)&&(ns.all nm.contains&&j0b vs ns)then a0c.rest nm Γ r K else none
  |_=>none
def AV.exact:AV→Ty→Bool
 |.val t' _,t=>decide (t'=t)
 |_,_=>true
def a0c.vals(nm:List Nat):(es:a0c)→AE→(es.ty.den→Rs ρ)→Rs ρ
 |.sv i t::r,Γ,K=>bif (Γ.get i).exact t then Γ.asV false t (Γ.get i) fun x Γ'=>a0c.vals nm r (Γ'.set i (.val t x)) fun y=>K (x,y)else none
 |es,Γ,K=>a0c.rest nm Γ es K
def a0c.dcd(es:a0c)(Γ:AE)(K:es.ty.den→Rs ρ):Rs ρ:=match Γ.pd with
 |none=>bif t0v es.names then a0c.vals es.names es Γ K else none
 |some _=>none
end
@[reducible] def g0n:=List (Ex×a0c)
def g0n.den:g0n→Type
 | []=>Empty
 | [(_,s)]=>s.ty.den
 |(_,s)::r=>s.ty.den ⊕ g0n.den r
def g0n.pack{ρ:Type}:(o:g0n)→Ex→AE→(o.den→Rs ρ)→Rs ρ
 | [],_,_,_=>none
 | [(e',s)],e,Γ,K=>if e=e' then s.dcd Γ K else none
 |(e',s)::x::r,e,Γ,K=>if e=e' then s.dcd Γ fun y=>K (.inl y)else g0n.pack (x::r) e Γ fun y=>K (.inr y)
def g0n.open{ρ:Type}:(o:g0n)→(o.den→(Ex→AE→Rs ρ)→Rs ρ)
 | []=>fun _ _=>none
 | [(e',s)]=>fun x K=>K e' (s.enc x)
 |(e',s)::y::r=>
  let g:=g0n.open (y::r)
  fun x K=>Sum.elim (fun a=>K e' (s.enc a)) (fun z=>g z K) (show s.ty.den ⊕ g0n.den (y::r)from x)
def g0u{σ β:Type}(f:σ→Option (σ ⊕ β)):Nat→σ→Option β
 |0,_=>none
 |n+1,s=>match f s with
  |none=>none
  |some (.inl s')=>g0u f n s'
  |some (.inr b)=>some b
open Classical in
def y0i {σ β:Type} (f:σ→Option (σ ⊕ β)) (s:σ):Option β:=
 if h:∃n b,g0u f n s=some b then some h.choose_spec.choose else none
def y0h{σ β:Type}(f:σ→Option (σ ⊕ β))(s:σ):Option β:=match g0u f 400 s with
 |some b=>some b
 |none=>y0i f s
structure Hints where
 loops:List (Nat×a0c×g0n)
 cuts:List (Nat×g0n)

 regs:List (Nat×List Md)
def find{α:Type}:List (Nat×α)→Nat→Option α
 | [],_=>none
 |(k,x)::r,n=>bif k==n then some x else find r n
def d0c(cx:Cx)(H:Hints):Code→Nat→{ρ:Type}→AE→(Ex→AE→Rs ρ)→Rs ρ
 |.skip,_,_,Γ,K=>K .normal Γ
 |.region id ops draw,_,_,Γ,K=>bif draw then(match find H.regs id with
    |some ms=>bif n0o ops ms then h0q cx ops.toList (ms.zip ops.toList) Γ fun Γ'=>K .normal Γ' else none
    |none=>none)
   else h0q cx ops.toList (ops.toList.map fun o=>(.x,o)) Γ fun Γ'=>K .normal Γ'
 |.seq a b,p,_,Γ,K=>match find H.cuts p with
  |none=>d0c cx H a (2*p) Γ fun e Γ'=>match e with
   |.normal=>d0c cx H b (2*p+1) Γ' K
   |e=>K e Γ'
  |some os=>(d0c cx H a (2*p) Γ fun e Γ'=>os.pack e Γ' some).bind fun x=>os.open x fun e Γ'=>match e with
   |.normal=>d0c cx H b (2*p+1) Γ' K
   |e=>K e Γ'
 |.cond c x y,p,_,Γ,K=>match Γ.opd c with
  |.val .bool (t:Bool)=>bif t then d0c cx H x (2*p) Γ K else d0c cx H y (2*p+1) Γ K
  |_=>none
 |.block id c,p,_,Γ,K=>d0c cx H c (2*p) Γ fun e Γ'=>match e with
  |.exit i=>bif i==id then K .normal Γ' else K (.exit i) Γ'
  |e=>K e Γ'
 |.loop c,p,_,Γ,K=>match find H.loops p with
  |none=>none
  |some (s,os)=>s.dcd Γ fun x=>
   (y0h (fun x=>d0c cx H c (2*p) (s.enc x) fun e Γ'=>match e with
    |.normal=>s.dcd Γ' fun x'=>some (.inl x')
    |e=>os.pack e Γ' fun y=>some (.inr y)) x).bind fun y=>os.open y K
 |.exit id,_,_,Γ,K=>K (.exit id) Γ
 |.ret,_,_,Γ,K=>K .ret Γ
 |_,_,_,_,_=>none
def j0g(ps:List PA)(i:Nat):Option Bool:=match ps[i]? with
 |some (.r c _)=>some c
 |_=>none
def rnm(c:Bool)(i:Nat):Nat:=bif c then i else pinned+i
def i0l(ps:List PA)(m:Nat):Option Nat:=
 bif decide (m<pinned)then(match j0g ps m with|some true=>some m|_=>none)
 else match j0g ps (m-pinned)with|some false=>some (m-pinned)|_=>none
def valAV:(t:Ty)→t.den→AV
 |.nl _,_=>.nils
 |.int k,x=>.val (.int k) x
 |.bool,x=>.val .bool x
 |.str,x=>.val .str x
 |.unit,x=>.val .unit x
 |.list o t,x=>.val (.list o t) x
 |.pair a b,x=>.val (.pair a b) x
 |.arr n t,x=>.val (.arr n t) x
 |.fn f,x=>.val (.fn f) x
 |.hd,x=>.val .hd x
def ini(ps:List PA)(x:(c0m (ps.map PA.ty)).den):AE where
 sl:=fun i=>match (a0z ps x)[i]? with
  |some ⟨.v t,y⟩=>.one (valAV t y)
  |some ⟨.r c a,y⟩=>bif c&&decide (pinned≤i)then .one .dead else .one (r0m (rnm c i) ⟨a,y⟩)
  |none=>.one .dead
 rt:=fun n=>bif decide (n<pinned)then(match (a0z ps x)[n]? with
   |some ⟨.r true a,y⟩=>a0v ⟨a,y⟩
   |_=>none)
  else match (a0z ps x)[n-pinned]? with
  |some ⟨.r false a,y⟩=>a0v ⟨a,y⟩
  |_=>none
 pd:=none
section
variable {ρ:Type}
def AE.out(cx:Cx)(Γ:AE)(tk:List Nat)(j:Nat):(r:RA)→ResultVar ⊕ Option Nat→(r.ty.den→AE→List Nat→Rs ρ)→Rs ρ
 |.v t,.inl (.tmp i),K=>bif (Γ.get i).viewed.any tk.contains then none else Γ.asV false t (Γ.get i) fun x Γ'=>K x (Γ'.set j (.val t x)) tk
 |.v t,.inl (.cell i t'),K=>match Γ.get i with
  |.ptr n []=>bif tk.contains n then none else if cx.T t'=some t.sh then Γ.lodK false t.sh (.ptr n []) fun v Γ'=>match v with
    |.val t'' x=>match castTo t'' t x with
     |some y=>K y (Γ'.set j (.val t y)) tk
     |none=>none
    |_=>none
   else none
  |_=>none
 |.o e,.inl (.tmp i),K=>match Γ.get i with
  |.sref n []=>bif tk.contains n then none else match Γ.rt n with
   |some ⟨false,.list true e',l⟩=>if h:e'=e then K (h▸l) (Γ.set j (.sref n [])) (n::tk)else none
   |_=>none
  |.nils=>K [] (Γ.set j .nils) tk
  |.empt=>K [] (Γ.set j .empt) tk
  |.swin n [] 0 0=>bif tk.contains n || !decide (n<pinned)then none else match Γ.look n with
   |some ⟨false,.list true e',_⟩=>if e'=e then K [] (((Γ.mapv (AV.drop n)).setRt n (some ⟨false,.list true e,([]:List e.den)⟩)).set j (.sref n [])) (n::tk)else none
   |_=>none
  |_=>none
 |.b t,.inl (.tmp i),K=>match Γ.get i with
  |.ptr n []=>bif tk.contains n || !decide (n<pinned)then none else match Γ.rt n with
   |some ⟨true,t',x⟩=>if h:t'=t then K (h▸x) (Γ.set j (.ptr n [])) (n::tk)else none
   |_=>none
  |_=>none
 |.b t,.inr (some n),K=>bif tk.contains n then none else match Γ.rt n with
  |some ⟨true,t',x⟩=>if h:t'=t then K (h▸x) (Γ.set j (.ptr n [])) (n::tk)else none
  |_=>none
 |.o e,.inr (some n),K=>bif tk.contains n then none else match Γ.rt n with
  |some ⟨false,.list true e',x⟩=>if h:e'=e then K (h▸x) (Γ.set j (.sref n [])) (n::tk)else none
  |_=>none
 |.o _,.inr none,K=>K [] (Γ.set j .nils) tk
 |_,_,_=>none
def AE.outs(cx:Cx)(Γ:AE)(tk:List Nat)(j:Nat):(rs:List RA)→List (ResultVar ⊕ Option Nat)→((c0m (rs.map RA.ty)).den→AE→Rs ρ)→Rs ρ
 | [],[],K=>K () Γ
 | [r],[v],K=>Γ.out cx tk j r v fun x Γ' _=>K x Γ'
 |r::r'::rs,v::vs,K=>Γ.out cx tk j r v fun x Γ' tk'=>Γ'.outs cx tk' (j+1) (r'::rs) vs fun y Γ''=>K (x,y) Γ''
 |_,_,_=>none
end
def a0o:List PA→Nat→List Nat
 | [],_=>[]
 |.v _::r,i=>a0o r (i+1)
 |.r _ _::r,i=>i::a0o r (i+1)
def g0f(ps:List PA)(i:Nat):Option Nat:=match j0g ps i with
 |some true=>none
 |_=>some (pinned+i)
def AE.upto(Γ:AE)(N:Nat):AE:=⟨fun i=>bif decide (i<N)then Γ.sl i else .one .dead,Γ.rt,Γ.pd⟩
def E0e(cx:Cx)(H:Hints)(fn:Func)(ps:List PA)(rs:List RA)(x:(c0m (ps.map PA.ty)).den):Option (c0m ((RA.all ps rs).map RA.ty)).den:=
 match fn.body with
 |none=>none
 |some body=>d0c cx H body 1 (ini ps x) fun e Γ=>match e,Γ.pd with
  |.exit _,_=>none
  |_,some _=>none
  |_,none=>(Γ.upto fn.ntmps).outs cx [] fn.ntmps (RA.all ps rs) (fn.results.toList.map .inl++(a0o ps 0).map fun i=>.inr (g0f ps i)) fun y _=>some y
@[reducible] def Mem:=Nat→Nat→Option Value
variable {m m':Mem}
@[reducible] def b0k:=List (Nat×Nat)
variable {f:(Nat→Option Value)→Option (α×b0k×List Nat)}
def a0d{α:Type}(f:Nat→Option (α×b0k×List Nat)):(n i:Nat)→Option (List α×b0k×List Nat)
 |0,_=>some ([],[],[])
 |n+1,i=>match f i with
  |none=>none
  |some (x,o,r)=>match a0d f n (i+1)with
   |none=>none
   |some (xs,os,rs)=>some (x::xs,o++os,r++rs)
def a0w{α:Type}(m:Mem)(o:Bool)(sz:Nat)(f:(Nat→Option Value)→Option (α×b0k×List Nat))(v:Option Value):Option (List α×b0k×List Nat):=
 match v with
 |some (.slice none n c)=>if n=0∧c=0 then some ([],[],[])else none
 |some (.slice (some a) n c)=>
  if(c=0∨a.spot=none)∧n≤c then
   match a0d (fun i=>f fun j=>m a.block (a.off+(i*sz+j))) n 0 with
   |none=>none
   |some (xs,os,rs)=>
    if o=true then(if c=0 then some (xs,os,rs)else some (xs,(a.block,a.off+c*sz)::os,rs))
    else(if n=0 then some (xs,[],[])else some (xs,[],a.block::(os.map (·.1)++rs)))
  else none
 |_=>none
def dec(m:Mem):(t:Ty)→(Nat→Option Value)→Option (t.den×b0k×List Nat)
 |.int k,rd=>match rd 0 with
  |some (.int k' n)=>if k'=k then some (n,[],[])else none
  |_=>none
 |.bool,rd=>match rd 0 with
  |some (.bool b)=>some (b,[],[])
  |_=>none
 |.str,rd=>match rd 0 with
  |some (.string s)=>some ((s.data.toList.map fun b=>(b.toNat:Int):List Int),[],[])
  |_=>none
 |.unit,_=>some ((),[],[])
 |.pair a b,rd=>match dec m a rd with
  |none=>none
  |some (x,o,r)=>match dec m b (fun j=>rd (a.cells+j))with
   |none=>none
   |some (y,o',r')=>some ((x,y),o++o',r++r')
 |.arr n t,rd=>a0d (fun i=>dec m t fun j=>rd (i*t.cells+j)) n 0
 |.list o t,rd=>a0w m o t.cells (dec m t) (rd 0)
 |.nl t,rd=>match rd 0 with
  |some (.slice none 0 0)=>some (([]:List t.den),[],[])
  |_=>none
 |.fn f,rd=>match rd 0 with
  |some (.func (.func g) a b)=>if g=f∧a.size=0∧b.size=0 then some ((),[],[])else none
  |_=>none
 |.hd,rd=>match rd 0 with
  |some (.map (some b))=>some ((b:Int),[],[])
  |_=>none
inductive Src where
 |at(b o:Nat)
 |one (v:Value)
variable {g g':Nat→Src}{s:Src}
def Src.rd(m:Mem):Src→Nat→Option Value
 |.at b o,j=>m b (o+j)
 |.one v,j=>if j=0 then some v else none
def a0t(m:Mem):a0l→Ty→Src→Option (Ty×Src)
 | [],t,s=>some (t,s)
 |.fst::p,t,s=>match t,s with
  |.pair a _,.at bl o=>a0t m p a (.at bl o)
  |_,_=>none
 |.snd::p,t,s=>match t,s with
  |.pair a b,.at bl o=>a0t m p b (.at bl (o+a.cells))
  |_,_=>none
 |.idx i::p,t,s=>match t,s with
  |.arr n t,.at bl o=>if i<n then a0t m p t (.at bl (o+i*t.cells))else none
  |.list true t,s=>match s.rd m 0 with
   |some (.slice (some a) n _)=>if i<n then a0t m p t (.at a.block (a.off+i*t.cells))else none
   |_=>none
  |_,_=>none
@[reducible] def loc(m:Mem)(t:Ty)(s:Src)(p:a0l):Option (Ty×Src):=a0t m p t s
section collectLemmas
variable {α:Type} {f f':Nat→Option (α×b0k×List Nat)}
theorem g0t:∀(n i:Nat),(∀j,i≤j→j<i+n→f' j=f j)→a0d f' n i=a0d f n i
 |0,_,_=>rfl
 |n+1,i,h=>by
  simp only[a0d];rw[h i (a14 _) (by omega),g0t n (i+1) (fun j g k=>h j (by omega) (by omega))]
theorem b0b:∀(n i:Nat){xs os rs},a0d f n i=some (xs,os,rs)→xs.length=n
 |0,i,xs,os,rs,h=>by simp[a0d]at h;simp[h]
 |n+1,i,xs,os,rs,h=>by
  simp only[a0d]at h
  split at h
  cases h
  split at h
  cases h;rename_i g;simp only[sj,pJ]at h;obtain⟨rfl,rfl,rfl⟩:=h;simp[b0b n (i+1) g]
theorem b0a:∀(n i k:Nat){xs os rs},a0d f n i=some (xs,os,rs)→k<n→
  ∃x o r A B g B',f (i+k)=some (x,o,r)∧xs[k]?=some x∧os=A++(o++B)∧rs=g++(r++B')
 |0,_,_,_,_,_,_,h=>by omega
 |n+1,i,k,xs,os,rs,h,hk=>by
  simp only[a0d]at h
  split at h
  cases h
  ·rename_i x o r hf
   split at h
   cases h
   ·rename_i p a b c;simp only[sj,pJ]at h;obtain⟨rfl,rfl,rfl⟩:=h;cases k with
    |zero=>exact⟨x,o,r,[],a,[],b,by simpa using hf,by simp,by simp,by simp⟩
    |succ k=>
     obtain⟨m,j,l,A,B,g,B',d,e,rfl,rfl⟩:=b0a n (i+1) k c (by omega);exact⟨m,j,l,o++A,B,r++g,B',by rw[←d];congr 1;omega,by simpa using e,by simp,by simp⟩
theorem l0e:∀(n i k:Nat){xs os rs x o r y o' r'},a0d f n i=some (xs,os,rs)→k<n→f (i+k)=some (x,o,r)→
  f' (i+k)=some (y,o',r')→(∀j,i≤j→j<i+n→j≠i+k→f' j=f j)→
  ∃A B a,os=A++(o++B)∧a0d f' n i=some (xs.set k y,A++(o'++B),a)∧∀b∈a,b∈rs∨b∈r'
 |0,_,_,_,_,_,_,_,_,_,_,_,_,h,_,_,_=>by omega
 |n+1,i,k,xs,os,rs,x,o,r,y,o',r',h,hk,hf,hf',hj=>by
  simp only[a0d]at h
  split at h
  cases h
  ·rename_i v o1 t c
   split at h
   cases h
   ·rename_i u e l d;simp only[sj,pJ]at h;obtain⟨rfl,rfl,rfl⟩:=h;cases k with
    |zero=>
     simp only[Nat.add_zero]at hf hf';rw[c]at hf;simp only[sj,pJ]at hf;obtain⟨rfl,rfl,rfl⟩:=hf;refine⟨[],e,r'++l,by simp,?_,?_⟩;simp only[a0d];rw[hf',g0t n (i+1) (fun j q d=>hj j (by omega) (by omega) (by omega)),d]
     simp
     intro b g;simp only[mA]at g⊢;rcases g with g|g;exact .inr g;exact .inl (.inr g)
    |succ k=>
     have m:i+1+k=i+(k+1):=by omega
     obtain⟨A,B,a,rfl,p,s⟩:=l0e n (i+1) k d (by omega) (by rw[m];exact hf) (by rw[m];exact hf')
      (fun j q d p=>hj j (by omega) (by omega) (by omega))
     refine⟨o1++A,B,t++a,by simp,?_,?_⟩;simp only[a0d];rw[hj i (a14 _) (by omega) (by omega),c,p]
     simp
     intro b g;simp only[mA]at g⊢;rcases g with g|g;exact .inl (.inl g);rcases s b g with h|h;exact .inl (.inr h);exact .inr h
theorem l0v:∀(n k i:Nat){xs os rs ys os' rs'},a0d f n i=some (xs,os,rs)→a0d f k (i+n)=some (ys,os',rs')→
  a0d f (n+k) i=some (xs++ys,os++os',rs++rs')
 |0,k,i,xs,os,rs,ys,os',rs',h,h'=>by
  simp[a0d]at h;obtain⟨rfl,rfl,rfl⟩:=h;simpa using h'
 |n+1,k,i,xs,os,rs,ys,os',rs',h,h'=>by
  simp only[a0d]at h
  split at h
  cases h;rename_i j o1 e g
  split at h
  cases h;rename_i d b c a;simp only[sj,pJ]at h;obtain⟨rfl,rfl,rfl⟩:=h
  have:=l0v n k (i+1) a (by rw[show i+1+n=i+(n+1)from by omega];exact h')
  rw[show n+1+k=(n+k)+1 from by omega];simp only[a0d,g,this]
  simp
theorem e0a:∀(n k i:Nat){xs os rs},a0d f (n+k) i=some (xs,os,rs)→
  ∃os1 rs1 g e,a0d f n i=some (xs.take n,os1,rs1)∧a0d f k (i+n)=some (xs.drop n,g,e)∧os=os1++g∧rs=rs1++e
 |0,k,i,xs,os,rs,h=>⟨[],[],os,rs,by simp[a0d],by simpa using h,rfl,rfl⟩
 |n+1,k,i,xs,os,rs,h=>by
  rw[show n+1+k=(n+k)+1 from by omega]at h;simp only[a0d]at h
  split at h
  cases h;rename_i r o1 p j
  split at h
  cases h;rename_i q g e l;simp only[sj,pJ]at h;obtain⟨rfl,rfl,rfl⟩:=h;obtain⟨a,b,c,d,m,o,rfl,rfl⟩:=e0a n k (i+1) l;refine⟨o1++a,p++b,c,d,?_,?_,by simp,by simp⟩;simp only[a0d,j,m];simp;rw[show i+(n+1)=i+1+n from by omega];simpa using o
end collectLemmas
theorem x0r{ow:Bool}{f':(Nat→Option Value)→Option (α×b0k×List Nat)}{v:Option Value}{x:List α}{o r}(h:a0w m ow sz f v=some (x,o,r))(u:∀b j,b∈o.map (·.1)∨b∈r→m' b j=m b j)(hf:∀i l p y (a:Addr) (n c:Nat),v=some (.slice (some a) n c)→f (fun j=>m a.block (a.off+(i*sz+j)))=some (y,l,p)→
   (∀b j,b=a.block∨(b∈l.map (·.1)∨b∈p)→m' b j=m b j)→f' (fun j=>m' a.block (a.off+(i*sz+j)))=some (y,l,p)):
  a0w m' ow sz f' v=some (x,o,r):=by
 unfold a0w at h⊢
 split at h
 exact h;rename_i a n c
 split at h
 rename_i s
 split at h
 cases h;rename_i xs os w q;have d:∀b j,n≠0→b=a.block∨b∈os.map (·.1)∨b∈w→m' b j=m b j:=by
  intro b j D g;apply u
  split at h
  split at h
  rename_i t;omega;simp only[sj,pJ]at h;obtain⟨rfl,rfl,rfl⟩:=h;simp at g⊢;rcases g with g|g|g;exact .inl (.inl g);exact .inl (.inr g);exact .inr g;simp only[sj,pJ]at h;obtain⟨rfl,rfl,rfl⟩:=h;simp at g⊢;rcases g with g|g|g;exact .inl g;exact .inr (.inl g);exact .inr (.inr g)
 have e:a0d (fun i=>f' fun j=>m' a.block (a.off+(i*sz+j))) n 0=a0d (fun i=>f fun j=>m a.block (a.off+(i*sz+j))) n 0:=by
  refine g0t n 0 fun i C hi=>?_
  obtain⟨y,l,p,A,B,z,B',k,-,rfl,rfl⟩:=b0a n 0 i q (by omega);simp only[a08]at k;rw[k];refine hf i l p y a n c rfl k (fun b j g=>d b j (by omega) ?_);simp at g⊢;rcases g with g|g|g;exact .inl g;exact .inr (.inl (.inr (.inl g)));exact .inr (.inr (.inr (.inl g)))
 rw[if_pos s,e,q];exact h;cases h;cases h
theorem a0k{m m':Mem}:∀(t:Ty){rd rd':Nat→Option Value}{x o r},dec m t rd=some (x,o,r)→
  (∀j,j<t.cells→rd' j=rd j)→(∀b j,b∈o.map (·.1)∨b∈r→m' b j=m b j)→dec m' t rd'=some (x,o,r)
 |.int k,rd,rd',x,o,r,h,hr,hm=>by
  simp only[dec]at h⊢;rw[hr 0 (by simp[Ty.cells])];exact h
 |.bool,rd,rd',x,o,r,h,hr,hm=>by
  simp only[dec]at h⊢;rw[hr 0 (by simp[Ty.cells])];exact h
 |.str,rd,rd',x,o,r,h,hr,hm=>by
  simp only[dec]at h⊢;rw[hr 0 (by simp[Ty.cells])];exact h
 |.unit,rd,rd',x,o,r,h,hr,hm=>by
  simp only[dec]at h⊢;exact h
 |.pair a b,rd,rd',x,o,r,h,hr,hm=>by
  simp only[dec]at h⊢
  split at h
  cases h;rename_i x1 o1 r1 h1
  split at h
  cases h;rename_i x2 o2 r2 h2;simp only[sj]at h;obtain⟨rfl,rfl,rfl⟩:=h;rw[a0k a h1 (fun j hj=>hr j (by simp[Ty.cells];omega)) (fun b j hb=>hm b j (by simp at hb⊢;rcases hb with hb|hb;exact .inl (.inl hb);exact .inr (.inl hb)))];simp only[];rw[a0k b h2 (fun j hj=>hr _ (by simp[Ty.cells];omega)) (fun b j hb=>hm b j (by simp at hb⊢;rcases hb with hb|hb;exact .inl (.inr hb);exact .inr (.inr hb)))]
 |.arr n t,rd,rd',x,o,r,h,hr,hm=>by
  simp only[dec]at h⊢;rw[←h];refine g0t n 0 fun i h0 hi=>?_
  obtain⟨y,o',r',A,B,A',B',hf,-,rfl,rfl⟩:=b0a n 0 i h (by omega);simp only[a08]at hf;rw[hf];refine a0k t hf (fun j hj=>hr _ ?_) (fun b j hb=>hm b j ?_);simp only[Ty.cells]
  calc i*t.cells+j<i*t.cells+t.cells:=by omega
   _=(i+1)*t.cells:=by rw[a03]
   _≤n*t.cells:=a00 _ (by omega)
  simp at hb⊢;rcases hb with hb|hb;exact .inl (.inr (.inl hb));exact .inr (.inr (.inl hb))
 |.list ow t,rd,rd',x,o,r,h,hr,hm=>by
  simp only[dec]at h⊢;rw[hr 0 (by simp[Ty.cells])];exact x0r h hm (fun i o' r' y a n c hv h2 hsub=>a0k t h2 (fun j hj=>hsub _ _ (.inl rfl)) (fun b j hb=>hsub b j (.inr hb)))
 |.nl t,rd,rd',x,o,r,h,hr,hm=>by
  simp only[dec]at h⊢;rw[hr 0 (by simp[Ty.cells])];exact h
 |.fn f,rd,rd',x,o,r,h,hr,hm=>by
  simp only[dec]at h⊢;rw[hr 0 (by simp[Ty.cells])];exact h
 |.hd,rd,rd',x,o,r,h,hr,hm=>by
  simp only[dec]at h⊢;rw[hr 0 (by simp[Ty.cells])];exact h
theorem q0n{rd:Nat→Option Value}{x:Int}{o r}(h:dec m .hd rd=some (x,o,r)):∃b:Nat,rd 0=some (.map (some b))∧x=(b:Int)∧o=[]∧r=[]:=by
 simp only[dec]at h
 split at h
 rename_i b hv;cases h;exact⟨b,hv,rfl,rfl,rfl⟩;cases h
theorem q0m{f:Nat}{rd:Nat→Option Value}{x o r}(h:dec m (.fn f) rd=some (x,o,r)):rd 0=some (.func (.func f) #[] #[])∧o=[]∧r=[]:=by
 simp only[dec]at h
 split at h
 rename_i g a b hv
 split at h
 rename_i d;obtain⟨rfl,k,c⟩:=d;cases h;rw[a21 k,a21 c]at hv;exact⟨hv,rfl,rfl⟩;cases h;cases h
theorem n0n{t:Ty}{rd:Nat→Option Value}{x o r}(h:dec m (.nl t) rd=some (x,o,r)):rd 0=some (.slice none 0 0)∧x=([]:List t.den)∧o=[]∧r=[]:=by
 simp only[dec]at h
 split at h
 rename_i hv;cases h;exact⟨hv,rfl,rfl,rfl⟩;cases h
theorem e0e(m:Mem)(b o k:Nat):(fun j=>(Src.at b o).rd m (k+j))=(Src.at b (o+k)).rd m:=by
 funext j;simp[Src.rd,a20]
theorem m0v(m:Mem)(b o k:Nat):(fun j=>m b (o+(k+j)))=(Src.at b (o+k)).rd m:=by
 funext j;simp[Src.rd,a20]
theorem c0h{a b:Ty}{rd:Nat→Option Value}{x o r}(h:dec m (.pair a b) rd=some (x,o,r)):
  ∃f o1 g k o2 r2,dec m a rd=some (f,o1,g)∧dec m b (fun j=>rd (a.cells+j))=some (k,o2,r2)∧x=(f,k)∧o=o1++o2∧r=g++r2:=by
 simp only[dec]at h
 split at h
 cases h;rename_i f o1 g c
 split at h
 cases h;rename_i k o2 r2 d;simp only[sj]at h;obtain⟨rfl,rfl,rfl⟩:=h;exact⟨_,_,_,_,_,_,c,d,rfl,rfl,rfl⟩
theorem e0m{a b:Ty}{rd:Nat→Option Value}{x1 o1 r1 x2 o2 r2}(h:dec m a rd=some (x1,o1,r1))(g:dec m b (fun j=>rd (a.cells+j))=some (x2,o2,r2)):
  dec m (.pair a b) rd=some ((x1,x2),o1++o2,r1++r2):=by
 simp only[dec,h,g];rfl
theorem B0f{v:Option Value}{x:List α}{o r}(h:a0w m true sz f v=some (x,o,r)):
  (v=some (.slice none 0 0)∧x=[]∧o=[]∧r=[])∨
  (∃a n c os,v=some (.slice (some a) n c)∧(c=0∨a.spot=none)∧n≤c∧a0d (fun i=>f ((Src.at a.block (a.off+i*sz)).rd m)) n 0=some (x,os,r)∧
   ((c=0∧o=os)∨(c≠0∧o=(a.block,a.off+c*sz)::os))):=by
 unfold a0w at h
 split at h
 rename_i n c
 split at h
 rename_i k;obtain⟨rfl,rfl⟩:=k;simp only[sj,pJ]at h;obtain⟨rfl,rfl,rfl⟩:=h;exact .inl ⟨rfl,rfl,rfl,rfl⟩;cases h;rename_i a n c;simp only[m0v]at h
 split at h
 rename_i k
 split at h
 cases h;rename_i xs os d b;rw[if_pos trivial]at h
 split at h
 rename_i g;simp only[sj,pJ]at h;obtain⟨rfl,rfl,rfl⟩:=h;exact .inr ⟨a,n,c,_,rfl,k.1,k.2,b,.inl ⟨g,rfl⟩⟩;rename_i g;simp only[sj,pJ]at h;obtain⟨rfl,rfl,rfl⟩:=h;exact .inr ⟨a,n,c,_,rfl,k.1,k.2,b,.inr ⟨g,rfl⟩⟩;cases h;cases h
theorem c0j{t:Ty}{rd:Nat→Option Value}{x:List t.den}{o r}(h:dec m (.list true t) rd=some (x,o,r)):
  (rd 0=some (.slice none 0 0)∧x=[]∧o=[]∧r=[])∨
  (∃a n c os,rd 0=some (.slice (some a) n c)∧(c=0∨a.spot=none)∧n≤c∧a0d (fun i=>dec m t ((Src.at a.block (a.off+i*t.cells)).rd m)) n 0=some (x,os,r)∧
   ((c=0∧o=os)∨(c≠0∧o=(a.block,a.off+c*t.cells)::os))):=B0f h
theorem q0o{m:Mem}{t:Ty}{rd:Nat→Option Value}{x:List t.den}{os r a n c}(h:rd 0=some (.slice (some a) n c))(g:a.spot=none)(k:n≤c)(f:c≠0)
  (b:a0d (fun i=>dec m t ((Src.at a.block (a.off+i*t.cells)).rd m)) n 0=some (x,os,r)):
  dec m (.list true t) rd=some (x,(a.block,a.off+c*t.cells)::os,r):=by
 show a0w m true t.cells (dec m t) (rd 0)=_;rw[h];simp only[a0w,m0v];rw[if_pos ⟨.inr g,k⟩,b];simp[f]
theorem w0p{l:List α}{x d:α}(h:l[i]?=some x):a13 l i d=x:=by
 simp[a13,h]
theorem d0v{p t s r}(h:loc m t s (.fst::p)=some r):∃a b bl o,t=.pair a b∧s=.at bl o∧loc m a (.at bl o) p=some r:=by
 simp only[loc,a0t]at h
 split at h
 exact⟨_,_,_,_,rfl,rfl,h⟩;cases h
theorem d0w{p t s r}(h:loc m t s (.snd::p)=some r):∃a b bl o,t=.pair a b∧s=.at bl o∧loc m b (.at bl (o+a.cells)) p=some r:=by
 simp only[loc,a0t]at h
 split at h
 exact⟨_,_,_,_,rfl,rfl,h⟩;cases h
theorem e0v{i p t s r}(h:loc m t s (.idx i::p)=some r):
  (∃n t' bl o,t=.arr n t'∧s=.at bl o∧i<n∧loc m t' (.at bl (o+i*t'.cells)) p=some r)∨
  (∃t' a n c,t=.list true t'∧s.rd m 0=some (.slice (some a) n c)∧i<n∧loc m t' (.at a.block (a.off+i*t'.cells)) p=some r):=by
 simp only[loc,a0t]at h
 split at h
 split at h
 rename_i hi;exact .inl ⟨_,_,_,_,rfl,rfl,hi,h⟩;cases h
 split at h
 rename_i hv
 split at h
 rename_i hi;exact .inr ⟨_,_,_,_,rfl,hv,hi,h⟩;cases h;cases h;cases h
theorem b0f{m:Mem}:∀(p:a0l)(t:Ty)(s:Src){x O R t' s'},dec m t (s.rd m)=some (x,O,R)→loc m t s p=some (t',s')→
  ∃y f k A B e B',dec m t' (s'.rd m)=some (y,f,k)∧a0p t x p=⟨t',y⟩∧O=A++(f++B)∧R=e++(k++B')
 | [],t,s,x,O,R,t',s',h,g=>by
  simp only[loc,a0t,sj,pJ]at g;obtain⟨rfl,rfl⟩:=g;exact⟨x,O,R,[],[],[],[],h,rfl,by simp,by simp⟩
 |.fst::p,t,s,x,O,R,t',s',h,g=>by
  obtain⟨a,b,bl,o,rfl,rfl,g⟩:=d0v g;obtain⟨N,o1,G,P,o2,r2,E,z,rfl,rfl,rfl⟩:=c0h h;obtain⟨y,f,k,A,B,e,B',r,u,rfl,rfl⟩:=b0f p a (.at bl o) E g;exact⟨y,f,k,A,B++o2,e,B'++r2,r,u,by simp,by simp⟩
 |.snd::p,t,s,x,O,R,t',s',h,g=>by
  obtain⟨a,b,bl,o,rfl,rfl,g⟩:=d0w g;obtain⟨N,o1,G,P,o2,r2,E,z,rfl,rfl,rfl⟩:=c0h h;rw[e0e]at z;obtain⟨y,f,k,A,B,e,B',r,u,rfl,rfl⟩:=b0f p b (.at bl (o+a.cells)) z g;exact⟨y,f,k,o1++A,B,G++e,B',r,u,by simp,by simp⟩
 |.idx i::p,t,s,x,O,R,t',s',h,g=>by
  rcases e0v g with⟨n,q,bl,o,rfl,rfl,hi,g⟩|⟨q,a,n,c,rfl,d,hi,g⟩;simp only[dec,e0e]at h;obtain⟨Q,L,M,v,w,j,l,hf,C,rfl,rfl⟩:=b0a n 0 i h hi;simp only[a08]at hf;obtain⟨y,f,k,A,B,e,B',r,u,rfl,rfl⟩:=b0f p q _ hf g;refine⟨y,f,k,v++A,B++w,j++e,B'++l,r,?_,by simp,by simp⟩;show b0j p q (a13 x i q.dflt)=_;rw[w0p C];exact u;rcases c0j h with⟨hv,-⟩|⟨D,K,H,os,hv,S,T,J,I⟩;rw[hv]at d;cases d;rw[hv]at d;simp only[sj,Value.slice.injEq]at d;obtain⟨rfl,rfl,rfl⟩:=d;obtain⟨Q,L,M,v,w,j,l,hf,C,rfl,rfl⟩:=b0a K 0 i J hi;simp only[a08]at hf;obtain⟨y,f,k,A,B,e,B',r,u,rfl,rfl⟩:=b0f p q _ hf g;have F:a0p (.list true q) x (.idx i::p)=⟨t',y⟩:=by
   show b0j p q (a13 x i q.dflt)=_;rw[w0p C];exact u
  rcases I with⟨-,rfl⟩|⟨-,rfl⟩;exact⟨y,f,k,v++A,B++w,j++e,B'++l,r,F,by simp,by simp⟩;exact⟨y,f,k,(D.block,D.off+H*q.cells)::(v++A),B++w,j++e,B'++l,r,F,by simp,by simp⟩
def Src.avoids:Src→Nat→Prop
 |.at sb _,c=>c≠sb
 |.one _,_=>True
theorem q0a(t:Ty)(x y:t.den):b0s t x [] t y=y:=by
 show(if h:t=t then h▸y else x)=y
 simp
theorem i0i{m:Mem}:∀(p:a0l)(t:Ty)(s:Src){x O R t' b o},dec m t (s.rd m)=some (x,O,R)→loc m t s p=some (t',.at b o)→
  (∃so,s=.at b so∧so≤o∧o+t'.cells≤so+t.cells)∨∃k,(b,k)∈O∧o+t'.cells≤k
 | [],t,s,x,O,R,t',b,o,h,f=>by
  simp[a0t]at f;simp_all
 |.fst::p,t,s,x,O,R,t',b,o,h,f=>by
  obtain⟨a,v,bl,so,rfl,rfl,f⟩:=d0v f;obtain⟨I,o1,H,J,o2,r2,w,r,rfl,rfl,rfl⟩:=c0h h;rcases i0i p a (.at bl so) w f with⟨s1,g,e,u⟩|⟨k,g,e⟩;simp at g;obtain⟨rfl,rfl⟩:=g;exact .inl ⟨_,rfl,e,by grind[Ty.cells]⟩
  grind
 |.snd::p,t,s,x,O,R,t',b,o,h,f=>by
  obtain⟨a,v,bl,so,rfl,rfl,f⟩:=d0w f;obtain⟨I,o1,H,J,o2,r2,w,r,rfl,rfl,rfl⟩:=c0h h;rw[e0e]at r;rcases i0i p v (.at bl (so+a.cells)) r f with⟨s1,g,e,u⟩|⟨k,g,e⟩;simp at g;obtain⟨rfl,rfl⟩:=g;exact .inl ⟨_,rfl,by omega,by grind[Ty.cells]⟩
  grind
 |.idx i::p,t,s,x,O,R,t',b,o,h,f=>by
  rcases e0v f with⟨n,d,bl,so,rfl,rfl,hi,f⟩|⟨d,a,n,c,rfl,j,hi,f⟩;simp[dec,e0e]at h;obtain⟨K,F,G,y,z,l,q,hf,D,rfl,rfl⟩:=b0a n 0 i h hi;simp at hf;have P:i*d.cells+d.cells≤n*d.cells:=by rw[←a03];exact a00 _ hi
  rcases i0i p d _ hf f with⟨s1,g,e,u⟩|⟨k,g,e⟩;simp at g;obtain⟨rfl,rfl⟩:=g;exact .inl ⟨_,rfl,by omega,by grind[Ty.cells]⟩
  grind
  rcases c0j h with⟨hv,-⟩|⟨L,E,A,os,hv,M,Q,C,B⟩;simp_all;rw[hv]at j;simp at j;obtain⟨rfl,rfl,rfl⟩:=j;obtain⟨K,F,G,y,z,l,q,hf,D,rfl,rfl⟩:=b0a E 0 i C hi;simp at hf;rcases B with⟨N,-⟩|⟨-,rfl⟩;omega;rcases i0i p d _ hf f with⟨s1,g,e,u⟩|⟨k,g,e⟩;simp at g;obtain⟨rfl,rfl⟩:=g;refine .inr ⟨_,a27,?_⟩
  have:i*d.cells+d.cells≤A*d.cells:=by rw[←a03];exact a00 _ (by omega)
  omega
  grind
theorem e0n{m:Mem}(p:a0l)(t:Ty)(s:Src){x O R t' b o}(h:dec m t (s.rd m)=some (x,O,R))(g:loc m t s p=some (t',.at b o)):
  (∃so,s=.at b so∧so≤o∧o+t'.cells≤so+t.cells)∨b∈O.map (·.1):=
 (i0i p t s h g).imp id fun⟨_,h,_⟩=>a16 h
theorem f0v{α:Type}{f:Nat→Option (α×b0k×List Nat)}:∀(n i:Nat){xs os rs},a0d f n i=some (xs,os,rs)→(os.map (·.1)).Nodup→
  ∀j k,j<n→k<n→j≠k→∀{xj oj rj xk ok rk},f (i+j)=some (xj,oj,rj)→f (i+k)=some (xk,ok,rk)→∀c,c∈oj.map (·.1)→c∉ok.map (·.1)
 |0,_,_,_,_,_,_,_,_,hj,_,_=>by omega
 |n+1,i,xs,os,rs,h,hn,j,k,hj,hk,hjk=>by
  intro m p c e g;simp[a0d]at h
  split at h
  grind
  ·rename_i E o1 C q
   split at h
   grind
   ·rename_i u b t d;simp at h;obtain⟨rfl,rfl,rfl⟩:=h;rw[pA,a07]at hn;obtain⟨-,a,hd⟩:=hn;have key:∀l x o r,l<n→f (i+(l+1))=some (x,o,r)→∀c,c∈o.map (·.1)→c∈b.map (·.1):=by
     intro l x o r s hf c e;obtain⟨D,y,z,A,B,v,B',w,-,rfl,-⟩:=b0a n (i+1) l d s
     grind
    cases j with
    |zero=>
     cases k with
     |zero=>omega
     |succ k=>
      grind
    |succ j=>
     cases k with
     |zero=>
      grind
     |succ k=>
      exact f0v n (i+1) d a j k (by omega) (by omega) (by omega) (by rw[show i+1+j=i+(j+1)from by omega];exact m)
       (by rw[show i+1+k=i+(k+1)from by omega];exact p) c e g
def Chg(m m':Mem)(s:Src)(O:b0k)(R:List Nat)(b o n:Nat)(O':b0k):Prop:=
 ∀c j,m' c j=m c j∨(c=b∧o≤j∧j<o+n)∨c∈O'.map (·.1)∨(c∉O.map (·.1)∧c∉R∧s.avoids c)
structure Sep (s:Src) (O:b0k) (R:List Nat):Prop where
 nodup:(O.map (·.1)).Nodup
 src:∀c∈O.map (·.1),s.avoids c
 shared:∀c∈R,c∉O.map (·.1)∧s.avoids c
theorem r0y{A O B:List (Nat×α)}(h:c∈O.map (·.1)):c∈(A++(O++B)).map (·.1):=by
 simp_all
theorem i0t{t2:Ty}{sb so:Nat}{x2 o2 r2}(h:dec m t2 ((Src.at sb so).rd m)=some (x2,o2,r2))(f:∀j,j<t2.cells→m' sb (so+j)=m sb (so+j))(g:∀c j,c∈o2.map (·.1)∨c∈r2→m' c j=m c j):
  dec m' t2 ((Src.at sb so).rd m')=some (x2,o2,r2):=
 a0k t2 h (fun j k=>f j k) g
theorem p0x{m m':Mem}:∀(p:a0l)(t:Ty)(s:Src){x O R t' b o y O' R' y' O'' R''},dec m t (s.rd m)=some (x,O,R)→loc m t s p=some (t',.at b o)→
  dec m t' ((Src.at b o).rd m)=some (y,O',R')→dec m' t' ((Src.at b o).rd m')=some (y',O'',R'')→Sep s O R→Chg m m' s O R b o t'.cells O'→
  ∃A B R1,O=A++(O'++B)∧dec m' t (s.rd m')=some (b0s t x p t' y',A++(O''++B),R1)∧∀c∈R1,c∈R∨c∈R''
 | [],t,s,x,O,R,t',b,o,y,O',R',y',O'',R'',h,l,hy,hy',hs,f=>by
  simp[a0t]at l;obtain⟨rfl,rfl⟩:=l;rw[h]at hy;simp at hy;obtain⟨rfl,rfl,rfl⟩:=hy;exact⟨[],[],R'',by simp,by simp_all[q0a],fun c f=>.inr f⟩
 |.fst::p,t,s,x,O,R,t',b,o,y,O',R',y',O'',R'',h,l,hy,hy',hs,f=>by
  obtain⟨a,b',bl,so,rfl,rfl,l⟩:=d0v l;obtain⟨x1,o1,r1,x2,o2,r2,h1,h2,rfl,rfl,rfl⟩:=c0h h;have L:=e0n p a _ h1 l;obtain⟨y1,W,X,A1,B1,U,V,hd,-,e1,e2⟩:=b0f p a _ h1 l;rw[hy]at hd;simp at hd;obtain⟨rfl,rfl,rfl⟩:=hd;have G:∀c,c∈O'.map (·.1)→c∈o1.map (·.1):=fun c f=>by simp_all
  have hn:=hs.nodup;rw[pA,a07]at hn;have a4:Sep (.at bl so) o1 r1:=⟨hn.1,fun c f=>hs.src c (by grind),
   fun c f=>⟨fun h=>(hs.shared c (a05 _ f)).1 (by grind),(hs.shared c (a05 _ f)).2⟩⟩
  obtain⟨A,B,R1,e3,T,h4⟩:=p0x p a (.at bl so) h1 l hy hy' a4 (fun c j=>by
   rcases f c j with h|h|h|⟨h,C,d⟩
   all_goals grind)
  rw[e0e]at h2;have g6:∀c,c∈o1.map (·.1)∨c∈o2.map (·.1)→c≠bl:=fun c f=>hs.src c (by grind);have h5:=i0t (m':=m') h2 (fun j Q=>by
    rcases f bl (so+a.cells+j)with h|⟨P,M,w⟩|h|⟨h,C,d⟩;omega
    ·rcases L with⟨s1,I,Y,Z⟩|g
     all_goals grind
    grind
    exact absurd rfl d)
   (fun c j q=>by
    have a3:c∈o2.map (·.1)∨(c∈r2∧c∉o1.map (·.1)∧c≠bl):=by
     rcases q with g|g
     grind
     have:=hs.shared c (a04 _ g)
     exact .inr ⟨g,fun g'=>this.1 (by grind),this.2⟩
    have a9:c∉o1.map (·.1):=by
     grind
    have k1:c≠bl:=by
     grind
    rcases f c j with h|⟨P,M,w⟩|h|⟨h,C,d⟩;omega
    ·rcases L with⟨s1,I,Y,Z⟩|g
     all_goals grind
    all_goals grind)
  refine⟨A,B++o2,R1++r2,by grind,?_,fun c f=>?_⟩;rw[←e0e]at h5
  have:=e0m T h5
  have e:A++(O''++(B++o2))=(A++(O''++B))++o2:=by simp
  rw[e];exact this
  grind
 |.snd::p,t,s,x,O,R,t',b,o,y,O',R',y',O'',R'',h,l,hy,hy',hs,f=>by
  obtain⟨a,b',bl,so,rfl,rfl,l⟩:=d0w l;obtain⟨x1,o1,r1,x2,o2,r2,h1,h2,rfl,rfl,rfl⟩:=c0h h;rw[e0e]at h2;have L:=e0n p b' _ h2 l;obtain⟨y1,W,X,A1,B1,U,V,hd,-,e1,e2⟩:=b0f p b' _ h2 l;rw[hy]at hd;simp at hd;obtain⟨rfl,rfl,rfl⟩:=hd;have G:∀c,c∈O'.map (·.1)→c∈o2.map (·.1):=fun c f=>by simp_all
  have hn:=hs.nodup;rw[pA,a07]at hn;have g6:∀c,c∈o1.map (·.1)∨c∈o2.map (·.1)→c≠bl:=fun c f=>hs.src c (by grind);have a5:Sep (.at bl (so+a.cells)) o2 r2:=⟨hn.2.1,fun c f=>g6 c (.inr f),
   fun c f=>⟨fun h=>(hs.shared c (a04 _ f)).1 (by grind),(hs.shared c (a04 _ f)).2⟩⟩
  obtain⟨A,B,R1,e3,T,h4⟩:=p0x p b' (.at bl (so+a.cells)) h2 l hy hy' a5 (fun c j=>by
   rcases f c j with h|h|h|⟨h,C,d⟩
   grind
   omega
   grind
   simp only[pA,mA]at h C;exact .inr (.inr (.inr ⟨fun g=>h (.inr g),fun g=>C (.inr g),d⟩)))
  have h5:=i0t (m':=m') h1 (fun j Q=>by
    rcases f bl (so+j)with h|⟨P,M,w⟩|h|⟨h,C,d⟩;omega
    ·rcases L with⟨s1,I,Y,Z⟩|g
     all_goals grind
    grind
    exact absurd rfl d)
   (fun c j q=>by
    have a3:c∈o1.map (·.1)∨(c∈r1∧c∉o2.map (·.1)∧c≠bl):=by
     rcases q with g|g
     grind
     have:=hs.shared c (a05 _ g)
     exact .inr ⟨g,fun g'=>this.1 (by grind),this.2⟩
    have b0:c∉o2.map (·.1):=by
     grind
    have k1:c≠bl:=by
     grind
    rcases f c j with h|⟨P,M,w⟩|h|⟨h,C,d⟩;omega
    ·rcases L with⟨s1,I,Y,Z⟩|g
     all_goals grind
    all_goals grind)
  refine⟨o1++A,B,r1++R1,by grind,?_,fun c f=>?_⟩;rw[←e0e]at T
  have:=e0m h5 T
  have e:o1++A++(O''++B)=o1++(A++(O''++B)):=by simp
  rw[e];exact this
  grind
 |.idx i::p,t,s,x,O,R,t',b,o,y,O',R',y',O'',R'',h,l,hy,hy',hs,f=>by
  rcases e0v l with⟨n,t,bl,so,rfl,rfl,hi,l⟩|⟨t,a0,n0,c0,rfl,g4,hi,l⟩
  ·have h:a0d (fun i=>dec m t fun j=>(Src.at bl so).rd m (i*t.cells+j)) n 0=some (x,O,R):=h;have N:a0d (fun i=>dec m t ((Src.at bl (so+i*t.cells)).rd m)) n 0=some (x,O,R):=by grind[e0e]
   have k0:∀c,c∈O.map (·.1)→c≠bl:=fun c f=>hs.src c f;obtain⟨z,H,ri,A0,B0,k2,k4,hf,hz,e1,e2⟩:=b0a n 0 i N hi;simp at hf;have u:∀c,c∈H.map (·.1)→c∈O.map (·.1):=fun c f=>by simp_all
   have E:∀c,c∈ri→c∈R:=fun c f=>by simp_all
   have L:=e0n p t _ hf l;obtain⟨y1,W,X,A1,B1,U,V,hd,-,e3,e4⟩:=b0f p t _ hf l;rw[hy]at hd;simp at hd;obtain⟨rfl,rfl,rfl⟩:=hd;have G:∀c,c∈O'.map (·.1)→c∈H.map (·.1):=fun c f=>by simp_all
   have h9:(H.map (·.1)).Nodup:=by
    have:=hs.nodup
    grind
   have g0:Sep (.at bl (so+i*t.cells)) H ri:=⟨h9,fun c f=>k0 c (u c f),fun c f=>⟨fun g=>(hs.shared c (E c f)).1 (u c g),(hs.shared c (E c f)).2⟩⟩;obtain⟨A,B,R1,e5,T,h4⟩:=p0x p t (.at bl (so+i*t.cells)) hf l hy hy' g0 (fun c j=>by
    rcases f c j with h|h|h|⟨h,C,d⟩;simp_all;omega;simp_all;exact .inr (.inr (.inr ⟨fun g=>h (u c g),fun g=>C (E c g),d⟩)))
   have K:∀j,0≤j→j<0+n→j≠0+i→dec m' t ((Src.at bl (so+j*t.cells)).rd m')=dec m t ((Src.at bl (so+j*t.cells)).rd m):=by
    intro j _ Q D;simp only[a08]at Q D;obtain⟨zj,oj,rj,Aj,Bj,k3,k5,r,-,ej,k6⟩:=b0a n 0 j N Q;simp at r;rw[r];have g5:=f0v n 0 N hs.nodup i j hi Q (Ne.symm D) (by simpa using hf) (by simpa using r);refine i0t r (fun k hk=>?_) (fun c k q=>?_);rcases f bl (so+j*t.cells+k)with h|⟨P,M,w⟩|h|⟨h,C,d⟩;omega;rcases L with⟨s1,I,Y,Z⟩|g;simp at I;obtain⟨-,rfl⟩:=I
    exfalso
    rcases a17 D with g|g
    have:j*t.cells+t.cells≤i*t.cells:=by rw[←a03];exact a00 _ g
    omega
    have:i*t.cells+t.cells≤j*t.cells:=by rw[←a03];exact a00 _ g
    omega
    grind
    grind
    exact absurd rfl d
    ·have a2:c∈oj.map (·.1)→c∈O.map (·.1):=fun g=>by grind
     have J:c∈rj→c∈R:=fun g=>by grind
     have a6:c∉H.map (·.1):=by
      rcases q with g|g
      grind
      exact fun g'=>(hs.shared c (J g)).1 (u c g')
     have k1:c≠bl:=by
      rcases q with g|g
      grind
      exact(hs.shared c (J g)).2
     rcases f c k with h|⟨P,M,w⟩|h|⟨h,C,d⟩;omega
     ·rcases L with⟨s1,I,Y,Z⟩|g
      all_goals grind
     all_goals grind
   obtain⟨A2,B2,S,e6,h6,h7⟩:=l0e (f':=fun i=>dec m' t ((Src.at bl (so+i*t.cells)).rd m')) n 0 i N hi (by simpa using hf) (by simpa using T) K;refine⟨A2++A,B++B2,S,by grind,?_,fun c f=>?_⟩;show a0d (fun i=>dec m' t fun j=>(Src.at bl so).rd m' (i*t.cells+j)) n 0=some (a30 x i (c0i p t (a13 x i t.dflt) t' y'),A2++A++(O''++(B++B2)),S);simp only[e0e]
   grind
   grind
  ·rcases c0j h with⟨hv,-⟩|⟨a,n,c,os,hv,ha,hn,N,M⟩;simp_all
   ·rw[hv]at g4;simp at g4;obtain⟨rfl,rfl,rfl⟩:=g4;rcases M with⟨k9,-⟩|⟨k9,rfl⟩;omega
    ·have g7:=hs.nodup;simp only[a02,a12]at g7;obtain⟨k7,g8⟩:=g7;have h8:a.block∈(((a.block,a.off+c*t.cells)::os).map (·.1)):=by simp
     obtain⟨z,H,ri,A0,B0,k2,k4,hf,hz,e1,e2⟩:=b0a n 0 i N hi;simp at hf;have g9:∀c,c∈H.map (·.1)→c∈os.map (·.1):=fun c f=>by simp_all
     have u:∀F,F∈H.map (·.1)→F∈(((a.block,a.off+c*t.cells)::os).map (·.1)):=fun F f=>by
      simp_all
     have E:∀c,c∈ri→c∈R:=fun c f=>by simp_all
     have L:=e0n p t _ hf l;have k8:b∈(((a.block,a.off+c*t.cells)::os).map (·.1)):=by
      grind
     obtain⟨y1,W,X,A1,B1,U,V,hd,-,e3,e4⟩:=b0f p t _ hf l;rw[hy]at hd;simp at hd;obtain⟨rfl,rfl,rfl⟩:=hd;have G:∀c,c∈O'.map (·.1)→c∈H.map (·.1):=fun c f=>by grind
     have h9:(H.map (·.1)).Nodup:=by
      grind
     have g0:Sep (.at a.block (a.off+i*t.cells)) H ri:=⟨h9,fun c f (e:c=a.block)=>k7 (e▸g9 c f),
      fun c f=>⟨fun g=>(hs.shared c (E c f)).1 (u c g),fun(e:c=a.block)=>(hs.shared c (E c f)).1 (e▸h8)⟩⟩
     obtain⟨A,B,R1,e5,T,h4⟩:=p0x p t (.at a.block (a.off+i*t.cells)) hf l hy hy' g0 (fun c j=>by
      rcases f c j with h|h|h|⟨h,C,d⟩
      grind
      omega
      grind
      exact .inr (.inr (.inr ⟨fun g=>h (u c g),fun g=>C (E c g),fun(e:c=a.block)=>h (e▸h8)⟩)))
     have a7:s.rd m' 0=some (.slice (some a) n c):=by
      rw[←hv];cases s with
      |one v=>rfl
      |_=>
       rename_i sb so;show m' sb (so+0)=m sb (so+0);rcases f sb (so+0)with h|⟨P,M,w⟩|h|⟨h,C,d⟩;omega;exact absurd rfl (P▸hs.src b k8);exact absurd rfl (hs.src sb (u _ (G _ h)));exact absurd rfl d
     have K:∀j,0≤j→j<0+n→j≠0+i→dec m' t ((Src.at a.block (a.off+j*t.cells)).rd m')=dec m t ((Src.at a.block (a.off+j*t.cells)).rd m):=by
      intro j _ Q D;simp only[a08]at Q D;obtain⟨zj,oj,rj,Aj,Bj,k3,k5,r,-,ej,k6⟩:=b0a n 0 j N Q;simp at r;rw[r];have g5:=f0v n 0 N g8 i j hi Q (Ne.symm D) (by simpa using hf) (by simpa using r);refine i0t r (fun k hk=>?_) (fun F k q=>?_)
      ·rcases f a.block (a.off+j*t.cells+k)with h|⟨P,M,w⟩|h|⟨h,C,d⟩;omega;rcases L with⟨s1,I,Y,Z⟩|g;simp at I;obtain⟨-,rfl⟩:=I
       exfalso
       rcases a17 D with g|g
       have:j*t.cells+t.cells≤i*t.cells:=by rw[←a03];exact a00 _ g
       omega
       have:i*t.cells+t.cells≤j*t.cells:=by rw[←a03];exact a00 _ g
       omega
       grind
       all_goals grind
      ·have a2:F∈oj.map (·.1)→F∈os.map (·.1):=fun g=>by grind
       have J:F∈rj→F∈R:=fun g=>by grind
       have a6:F∉H.map (·.1):=by
        rcases q with g|g
        grind
        exact fun g'=>(hs.shared F (J g)).1 (u F g')
       have a8:F≠a.block:=by
        rcases q with g|g
        grind
        exact fun e=>(hs.shared F (J g)).1 (e▸h8)
       rcases f F k with h|⟨P,M,w⟩|h|⟨h,C,d⟩;omega
       ·rcases L with⟨s1,I,Y,Z⟩|g
        all_goals grind
       all_goals grind
     obtain⟨A2,B2,S,e6,h6,h7⟩:=l0e (f':=fun i=>dec m' t ((Src.at a.block (a.off+i*t.cells)).rd m')) n 0 i N hi (by simpa using hf) (by simpa using T) K;refine⟨(a.block,a.off+c*t.cells)::(A2++A),B++B2,S,by grind,?_,fun c f=>?_⟩;show dec m' (.list true t) (s.rd m')=some (a30 x i (c0i p t (a13 x i t.dflt) t' y'),_)
     grind[q0o]
     grind
theorem j0l{O R b o n O'}(e:Chg m m' s O R b o n O')(hs:Sep s O R){bl so:Nat}{o1 o2:b0k}{r2:List Nat}(u:¬ s.avoids bl∨bl∈O.map (·.1))(r:∀c∈o1.map (·.1),c∈O.map (·.1)∧c≠bl)(y:∀c∈o2.map (·.1),c∈O.map (·.1)∧c≠bl)(hd:∀c∈o1.map (·.1),c∉o2.map (·.1))(i:∀c∈r2,c∈R)(l:∀c∈O'.map (·.1),c∈o1.map (·.1))(A:(b=bl∧∀j,j<k→¬ (o≤so+j∧so+j<o+n))∨b∈o1.map (·.1)):
  (∀j,j<k→m' bl (so+j)=m bl (so+j))∧(∀c j,c∈o2.map (·.1)∨c∈r2→m' c j=m c j):=by
 constructor
 ·intro j z;rcases e bl (so+j)with h|⟨t,v,d⟩|h|⟨h,q,a⟩
  all_goals grind
 ·intro c j f;have x:c∉o1.map (·.1):=by
   rcases f with g|g
   grind
   exact fun p=>(hs.shared c (i c g)).1 (r c p).1
  have w:c≠bl:=by
   rcases f with g|g
   grind
   have:=hs.shared c (i c g)
   grind
  rcases e c j with h|⟨t,v,d⟩|h|⟨h,q,a⟩
  all_goals grind
theorem m0r{m m':Mem}:∀(q:a0l)(t:Ty)(s:Src),t.shn=t→loc m' t s q=loc m t s q
 | [],t,s,_=>rfl
 |.fst::q,t,s,h=>by
  cases t<;>cases s<;>try rfl
  rename_i a b bl o;simp only[Ty.shn,Ty.pair.injEq]at h;exact m0r q a (.at bl o) h.1
 |.snd::q,t,s,h=>by
  cases t<;>cases s<;>try rfl
  rename_i a b bl o;simp only[Ty.shn,Ty.pair.injEq]at h;exact m0r q b (.at bl (o+a.cells)) h.2
 |.idx i::q,t,s,h=>by
  cases t<;>cases s<;>try rfl
  rename_i o t _ _;cases o;rfl;simp[Ty.shn]at h;rename_i o t _;cases o;rfl;simp[Ty.shn]at h;rename_i n t bl o;simp only[Ty.shn,Ty.arr.injEq]at h;show(if i<n then loc m' t (.at bl (o+i*t.cells)) q else none)=(if i<n then loc m t (.at bl (o+i*t.cells)) q else none)
  rw[m0r q t _ (Ty.shn_of_sh t h.2)]
theorem c0s{m m':Mem}:∀(q:a0l)(t:Ty)(s:Src){x O R r},dec m t (s.rd m)=some (x,O,R)→loc m t s q=some r→
  (∀j,j<t.cells→s.rd m' j=s.rd m j)→(∀c j,c∈O.map (·.1)→m' c j=m c j)→loc m' t s q=some r
 | [],t,s,x,O,R,r,h,f,hc,hb=>f
 |.fst::q,t,s,x,O,R,r,h,f,hc,hb=>by
  obtain⟨a,u,bl,so,rfl,rfl,f⟩:=d0v f;obtain⟨I,o1,H,J,o2,r2,v,o,rfl,rfl,rfl⟩:=c0h h;exact c0s q a (.at bl so) v f (fun j p=>hc j (by simp only[Ty.cells];omega)) (fun c j g=>hb c j (by simp only[pA,mA];exact .inl g))
 |.snd::q,t,s,x,O,R,r,h,f,hc,hb=>by
  obtain⟨a,u,bl,so,rfl,rfl,f⟩:=d0w f;obtain⟨I,o1,H,J,o2,r2,v,o,rfl,rfl,rfl⟩:=c0h h;rw[e0e]at o;refine c0s q u (.at bl (so+a.cells)) o f (fun j p=>?_) (fun c j g=>hb c j (by simp only[pA,mA];exact .inr g))
  have:=hc (a.cells+j) (by simp only[Ty.cells];omega)
  simpa[Src.rd,a20]using this
 |.idx i::q,t,s,x,O,R,r,h,f,hc,hb=>by
  rcases e0v f with⟨n,k,bl,so,rfl,rfl,hi,f⟩|⟨k,a,n,c,rfl,b,hi,f⟩;simp[dec,e0e]at h;obtain⟨K,F,G,w,y,d,l,hf,D,rfl,rfl⟩:=b0a n 0 i h hi;simp at hf;show(if i<n then loc m' k (.at bl (so+i*k.cells)) q else none)=some r
  rw[if_pos hi];have P:i*k.cells+k.cells≤n*k.cells:=by rw[←a03];exact a00 _ hi
  refine c0s q k _ hf f (fun j p=>?_) (fun c j g=>hb c j (r0y g))
  have:=hc (i*k.cells+j) (by grind[Ty.cells])
  simp_all[Src.rd,a20];have M:s.rd m' 0=some (.slice (some a) n c):=by simp_all[Ty.cells]
  have e:loc m' (.list true k) s (.idx i::q)=if i<n then loc m' k (.at a.block (a.off+i*k.cells)) q else none:=by
   simp_all[a0t]
  rw[e,if_pos hi];rcases c0j h with⟨hv,-⟩|⟨z,E,L,os,hv,N,Q,C,B⟩;simp_all;rw[hv]at b;simp at b;obtain⟨rfl,rfl,rfl⟩:=b;obtain⟨K,F,G,w,y,d,l,hf,D,rfl,rfl⟩:=b0a E 0 i C hi;simp at hf;rcases B with⟨A,-⟩|⟨-,rfl⟩;omega;exact c0s q k _ hf f (fun j p=>hb z.block _ (by simp)) (fun c j g=>hb c j (by
   simp only[a02,mC];exact .inr (r0y g)))
theorem h0k{q:a0l}{t:Ty}{x O R e s'}(h:dec m t (s.rd m)=some (x,O,R))(a:loc m t s q=some (.list true e,s'))(k:∀j,j<t.cells→s.rd m' j=s.rd m j)(f:∀c j,c∈O.map (·.1)→m' c j=m c j):s'.rd m' 0=s'.rd m 0:=by
 cases s' with
 |one v=>rfl
 |_=>
  rename_i b o;rcases e0n q t s h a with⟨so,rfl,g,d⟩|g
  have:=k (o-so) (by grind[Ty.cells])
  simp_all[Src.rd];exact f b _ g
theorem i0h{m m':Mem}:∀(p q:a0l)(t:Ty)(s:Src){x O R t' b o y O' R' r},dec m t (s.rd m)=some (x,O,R)→loc m t s p=some (t',.at b o)→
  dec m t' ((Src.at b o).rd m)=some (y,O',R')→Sep s O R→Chg m m' s O R b o t'.cells O'→(∀rest,q=p++rest→rest=[]∨t'.shn=t')→
  loc m t s q=some r→loc m' t s q=some r∧∀e s',r=(.list true e,s')→(∀rest,q≠p++rest)→s'.rd m' 0=s'.rd m 0
 | [],q,t,s,x,O,R,t',b,o,y,O',R',r,h,u,hy,hs,f,hq,hr=>by
  simp[a0t]at u;obtain⟨rfl,rfl⟩:=u;refine⟨?_,fun _ _ _ D=>absurd rfl (D q)⟩;rcases hq q rfl with rfl|g;exact hr
  grind[m0r]
 |.fst::p,q,t,s,x,O,R,t',b,o,y,O',R',r,h,u,hy,hs,f,hq,hr=>by
  obtain⟨a,M,bl,so,rfl,rfl,u⟩:=d0v u;obtain⟨x1,o1,r1,x2,o2,r2,h1,N,rfl,rfl,rfl⟩:=c0h h;have hw:=e0n p a _ h1 u;obtain⟨y1,U,V,A1,B1,S,T,hd,-,w,e2⟩:=b0f p a _ h1 u;rw[hy]at hd;simp at hd;obtain⟨rfl,rfl,rfl⟩:=hd;have l:∀c,c∈O'.map (·.1)→c∈o1.map (·.1):=fun c f=>by simp_all
  have P:=hs.nodup;rw[pA,a07]at P;have m1:∀c,c∈o1.map (·.1)→c∈(o1++o2).map (·.1):=fun c f=>by grind
  have m2:∀c,c∈o2.map (·.1)→c∈(o1++o2).map (·.1):=fun c f=>by grind
  cases q with
  |nil=>
   refine⟨hr,fun e s' w _=>?_⟩;simp[a0t]at hr
   grind
  |cons st q=>
   cases st with
   |fst=>
    have d:loc m a (.at bl so) q=some r:=hr;have k3:Sep (.at bl so) o1 r1:=⟨P.1,fun c f=>hs.src c (m1 c f),
     fun c f=>⟨fun h=>(hs.shared c (a05 _ f)).1 (m1 c h),(hs.shared c (a05 _ f)).2⟩⟩
    have L:=i0h p q a (.at bl so) h1 u hy k3 (fun c j=>by
     rcases f c j with h|h|h|⟨h,F,C⟩;exact .inl h
     all_goals grind)
     (fun rest e=>hq rest (by grind)) d
    exact⟨L.1,fun e s' w D=>L.2 e s' w (fun rest e2=>D rest (by grind))⟩
   |snd=>
    have d:loc m M (.at bl (so+a.cells)) q=some r:=hr;rw[e0e]at N;have hp:=j0l f hs (bl:=bl) (so:=so+a.cells) (k:=M.cells) (o1:=o1) (o2:=o2) (r2:=r2) (.inl (fun h=>h rfl))
     (fun c f=>⟨m1 c f,hs.src c (m1 c f)⟩) (fun c f=>⟨m2 c f,hs.src c (m2 c f)⟩) (fun c h F=>P.2.2 c h c F rfl)
     (fun c f=>a04 _ f) l (by
      grind)
    exact⟨c0s q M _ N d hp.1 (fun c j f=>hp.2 c j (.inl f)),fun e s' w _=>h0k N (w▸d) hp.1 (fun c j f=>hp.2 c j (.inl f))⟩
   |idx i=>
    cases hr
 |.snd::p,q,t,s,x,O,R,t',b,o,y,O',R',r,h,u,hy,hs,f,hq,hr=>by
  obtain⟨a,M,bl,so,rfl,rfl,u⟩:=d0w u;obtain⟨x1,o1,r1,x2,o2,r2,h1,N,rfl,rfl,rfl⟩:=c0h h;rw[e0e]at N;have hw:=e0n p M _ N u;obtain⟨y1,U,V,A1,B1,S,T,hd,-,w,e2⟩:=b0f p M _ N u;rw[hy]at hd;simp at hd;obtain⟨rfl,rfl,rfl⟩:=hd;have l:∀c,c∈O'.map (·.1)→c∈o2.map (·.1):=fun c f=>by simp_all
  have P:=hs.nodup;rw[pA,a07]at P;have m1:∀c,c∈o1.map (·.1)→c∈(o1++o2).map (·.1):=fun c f=>by grind
  have m2:∀c,c∈o2.map (·.1)→c∈(o1++o2).map (·.1):=fun c f=>by grind
  cases q with
  |nil=>
   refine⟨hr,fun e s' w _=>?_⟩;simp[a0t]at hr
   grind
  |cons st q=>
   cases st with
   |snd=>
    have d:loc m M (.at bl (so+a.cells)) q=some r:=hr;have k4:Sep (.at bl (so+a.cells)) o2 r2:=⟨P.2.1,fun c f=>hs.src c (m2 c f),
     fun c f=>⟨fun h=>(hs.shared c (a04 _ f)).1 (m2 c h),(hs.shared c (a04 _ f)).2⟩⟩
    have L:=i0h p q M (.at bl (so+a.cells)) N u hy k4 (fun c j=>by
     rcases f c j with h|h|h|⟨h,F,C⟩;exact .inl h;omega
     grind
     simp only[pA,mA]at h F;exact .inr (.inr (.inr ⟨fun g=>h (.inr g),fun g=>F (.inr g),C⟩)))
     (fun rest e=>hq rest (by grind)) d
    exact⟨L.1,fun e s' w D=>L.2 e s' w (fun rest e2=>D rest (by grind))⟩
   |fst=>
    have d:loc m a (.at bl so) q=some r:=hr;have hp:=j0l f hs (bl:=bl) (so:=so) (k:=a.cells) (o1:=o2) (o2:=o1) (r2:=r1) (.inl (fun h=>h rfl))
     (fun c f=>⟨m2 c f,hs.src c (m2 c f)⟩) (fun c f=>⟨m1 c f,hs.src c (m1 c f)⟩) (fun c h F=>P.2.2 c F c h rfl)
     (fun c f=>a05 _ f) l (by
      grind)
    exact⟨c0s q a _ h1 d hp.1 (fun c j f=>hp.2 c j (.inl f)),fun e s' w _=>h0k h1 (w▸d) hp.1 (fun c j f=>hp.2 c j (.inl f))⟩
   |idx i=>
    cases hr
 |.idx i::p,q,t,s,x,O,R,t',b,o,y,O',R',r,h,u,hy,hs,f,hq,hr=>by
  rcases e0v u with⟨n,t,bl,so,rfl,rfl,hi,u⟩|⟨t,a0,n0,c0,rfl,h6,hi,u⟩
  ·have h:a0d (fun i=>dec m t fun j=>(Src.at bl so).rd m (i*t.cells+j)) n 0=some (x,O,R):=h;have Y:a0d (fun i=>dec m t ((Src.at bl (so+i*t.cells)).rd m)) n 0=some (x,O,R):=by grind[e0e]
   have I:∀c,c∈O.map (·.1)→c≠bl:=fun c f=>hs.src c f;obtain⟨z,G,ri,A0,B0,g4,g6,hf,hz,w,e2⟩:=b0a n 0 i Y hi;simp at hf;have A:∀c,c∈G.map (·.1)→c∈O.map (·.1):=fun c f=>by simp_all
   have E:∀c,c∈ri→c∈R:=fun c f=>by simp_all
   have hw:=e0n p t _ hf u;obtain⟨y1,U,V,A1,B1,S,T,hd,-,e3,e4⟩:=b0f p t _ hf u;rw[hy]at hd;simp at hd;obtain⟨rfl,rfl,rfl⟩:=hd;have l:∀c,c∈O'.map (·.1)→c∈G.map (·.1):=fun c f=>by simp_all
   cases q with
   |nil=>
    refine⟨hr,fun e s' w _=>?_⟩;simp_all[a0t]
   |cons st q=>
    rcases st with _|_|j;cases hr;cases hr;rcases e0v hr with⟨n',h7,g8,k5,W,X,hj,d⟩|⟨h7,a',n',J,W,-⟩;simp at W;obtain⟨rfl,rfl⟩:=W;simp at X;obtain⟨rfl,rfl⟩:=X;have el:loc m' (.arr n t) (.at bl so) (.idx j::q)=loc m' t (.at bl (so+j*t.cells)) q:=by
     show(if j<n then loc m' t (.at bl (so+j*t.cells)) q else none)=_
     simp_all
    rw[el]
    by_cases hji:j=i
    subst hji;have h4:(G.map (·.1)).Nodup:=by
     have:=hs.nodup
     grind
    have h5:Sep (.at bl (so+j*t.cells)) G ri:=⟨h4,fun c f=>I c (A c f),fun c f=>⟨fun g=>(hs.shared c (E c f)).1 (A c g),(hs.shared c (E c f)).2⟩⟩;have L:=i0h p q t _ hf u hy h5 (fun c k=>by
     rcases f c k with h|h|h|⟨h,F,C⟩;exact .inl h;omega;simp_all;exact .inr (.inr (.inr ⟨fun g=>h (A c g),fun g=>F (E c g),C⟩))) (fun rest e=>hq rest (by simp_all)) d
    simp_all;obtain⟨zj,oj,rj,Aj,Bj,g5,g7,B,-,ej,g9⟩:=b0a n 0 j Y hj;simp at B;have H:=f0v n 0 Y hs.nodup i j hi hj (Ne.symm hji) (by simpa using hf) (by simpa using B);have K:∀c,c∈oj.map (·.1)→c∈O.map (·.1):=fun c g=>by grind
    have hp:=j0l f hs (bl:=bl) (so:=so+j*t.cells) (k:=t.cells) (o1:=G) (o2:=oj) (r2:=rj) (.inl (fun h=>h rfl))
     (fun c f=>⟨A c f,I c (A c f)⟩) (fun c f=>⟨K c f,I c (K c f)⟩) H
     (fun c g=>by grind) l (by
      rcases hw with⟨s1,g1,g2,g3⟩|g;simp at g1;obtain⟨rfl,rfl⟩:=g1;refine .inl ⟨rfl,fun k hk=>?_⟩;rcases a17 hji with g|g
      have:j*t.cells+t.cells≤i*t.cells:=by rw[←a03];exact a00 _ g
      omega
      have:i*t.cells+t.cells≤j*t.cells:=by rw[←a03];exact a00 _ g
      omega
      grind)
    exact⟨c0s q t _ B d hp.1 (fun c j f=>hp.2 c j (.inl f)),fun e s' w _=>h0k B (w▸d) hp.1 (fun c j f=>hp.2 c j (.inl f))⟩;simp_all
  ·rcases c0j h with⟨hv,-⟩|⟨a,n,c,os,hv,ha,P,Y,ho⟩;simp_all
   ·rw[hv]at h6;simp at h6;obtain⟨rfl,rfl,rfl⟩:=h6;rcases ho with⟨k1,-⟩|⟨k1,rfl⟩;omega
    ·have h8:=hs.nodup;simp only[a02,a12]at h8;obtain⟨h3,h9⟩:=h8;have Z:a.block∈(((a.block,a.off+c*t.cells)::os).map (·.1)):=by simp
     obtain⟨z,G,ri,A0,B0,g4,g6,hf,hz,w,e2⟩:=b0a n 0 i Y hi;simp at hf;have Q:∀c,c∈G.map (·.1)→c∈os.map (·.1):=fun c f=>by simp_all
     have A:∀J,J∈G.map (·.1)→J∈(((a.block,a.off+c*t.cells)::os).map (·.1)):=fun J f=>by
      simp_all
     have E:∀c,c∈ri→c∈R:=fun c f=>by simp_all
     have hw:=e0n p t _ hf u;have k0:b∈(((a.block,a.off+c*t.cells)::os).map (·.1)):=by
      grind
     obtain⟨y1,U,V,A1,B1,S,T,hd,-,e3,e4⟩:=b0f p t _ hf u;rw[hy]at hd;simp at hd;obtain⟨rfl,rfl,rfl⟩:=hd;have l:∀c,c∈O'.map (·.1)→c∈G.map (·.1):=fun c f=>by grind
     have k2:s.rd m' 0=some (.slice (some a) n c):=by
      rw[←hv];cases s with
      |one v=>rfl
      |_=>
       rename_i sb so;show m' sb (so+0)=m sb (so+0);rcases f sb (so+0)with h|⟨hb,ho,k6⟩|h|⟨h,F,C⟩;omega;exact absurd rfl (hb▸hs.src b k0);exact absurd rfl (hs.src sb (A _ (l _ h)));exact absurd rfl C
     cases q with
     |nil=>
      refine⟨hr,fun e s' w _=>?_⟩;simp[a0t]at hr
      grind
     |cons st q=>
      rcases st with _|_|j;cases hr;cases hr;rcases e0v hr with⟨n',h7,g8,k5,W,X,hj,d⟩|⟨h7,a',n',J,W,X,hj,d⟩
      grind
      simp at W;subst W;rw[hv]at X;simp at X;obtain⟨rfl,rfl,rfl⟩:=X;have e:loc m' (.list true t) s (.idx j::q)=if j<n then loc m' t (.at a.block (a.off+j*t.cells)) q else none:=by
       simp only[loc,a0t,k2]
      rw[e,if_pos hj];clear e
      by_cases hji:j=i
      subst hji;have h4:(G.map (·.1)).Nodup:=by
       grind
      have h5:Sep (.at a.block (a.off+j*t.cells)) G ri:=⟨h4,fun c f (e:c=a.block)=>h3 (e▸Q c f),
       fun c f=>⟨fun g=>(hs.shared c (E c f)).1 (A c g),fun(e:c=a.block)=>(hs.shared c (E c f)).1 (e▸Z)⟩⟩
      have L:=i0h p q t _ hf u hy h5 (fun c k=>by
       rcases f c k with h|h|h|⟨h,F,C⟩;exact .inl h;omega
       grind
       exact .inr (.inr (.inr ⟨fun g=>h (A c g),fun g=>F (E c g),fun(e:c=a.block)=>h (e▸Z)⟩))) (fun rest e=>hq rest (by grind)) d
      exact⟨L.1,fun e s' w D=>L.2 e s' w (fun rest e2=>D rest (by grind))⟩;obtain⟨zj,oj,rj,Aj,Bj,g5,g7,B,-,ej,g9⟩:=b0a n 0 j Y hj;simp at B;have H:=f0v n 0 Y h9 i j hi hj (Ne.symm hji) (by simpa using hf) (by simpa using B);have g0:∀c,c∈oj.map (·.1)→c∈os.map (·.1):=fun c g=>by grind
      have K:∀J,J∈oj.map (·.1)→J∈(((a.block,a.off+c*t.cells)::os).map (·.1)):=fun J g=>by
       grind
      have hp:=j0l f hs (bl:=a.block) (so:=a.off+j*t.cells) (k:=t.cells) (o1:=G) (o2:=oj) (r2:=rj) (.inr Z)
       (fun c f=>⟨A c f,fun e=>h3 (e▸Q c f)⟩) (fun c f=>⟨K c f,fun e=>h3 (e▸g0 c f)⟩) H
       (fun c g=>by grind) l (by
        rcases hw with⟨s1,g1,g2,g3⟩|g;simp at g1;obtain⟨rfl,rfl⟩:=g1;refine .inl ⟨rfl,fun k hk=>?_⟩;rcases a17 hji with g|g
        have:j*t.cells+t.cells≤i*t.cells:=by rw[←a03];exact a00 _ g
        omega
        have:i*t.cells+t.cells≤j*t.cells:=by rw[←a03];exact a00 _ g
        omega
        grind)
      exact⟨c0s q t _ B d hp.1 (fun c j f=>hp.2 c j (.inl f)),fun e s' w _=>h0k B (w▸d) hp.1 (fun c j f=>hp.2 c j (.inl f))⟩
def a0a(w:World)(ov:Option (Nat×Nat×Value)):Mem:=fun b o=>
 match ov with
 |some (b',o',v)=>if b=b'∧o=o' then some v else w.cell? ⟨b,o,none⟩
 |none=>w.cell? ⟨b,o,none⟩
structure Gh where
 g:Nat→Src
 ow:Nat→b0k
 ov:Option (Nat×Nat×Value)
variable {σ:Gh}
structure Base where
 size:Nat
 hp:Nat→Option Obj
 F:Nat→Prop
 S:Nat→Prop

 pin:Nat→Option Src:=fun _=>none

 io:Os×Array (Nat×ByteArray):=(default,#[])
def c0o(w:World):Os×Array (Nat×ByteArray):=(w.os,w.output)
def a0u(σ:Gh)(c:Nat):Prop:=∃n,c∈(σ.ow n).map (·.1)
def Shr(B:Base)(w:World)(σ:Gh)(c:Nat):Prop:=c<w.heap.size∧(B.S c∨B.F c∨B.size≤c)∧¬ a0u σ c
def b0c(w:World)(b k:Nat):Prop:=∃c e lo hi,w.heap[b]?=some (.cells c e (lo,hi))∧k≤c.size∧(hi=lo∨k≤lo)
def b0v:Value→Bool
 |.agg _|.tuple _=>false
 |_=>true
def VOk(m:Mem)(Sh:Nat→Prop)(t:Ty)(x:t.den)(v:Value):Prop:=
 (t.isAgg=true→∃cs,v=.agg cs∧cs.size=t.cells)∧(t.isAgg=false→b0v v=true)∧
 ∃R,dec m t (fun j=>v.cells[j]?)=some (x,[],R)∧∀c∈R,Sh c
def a0e(m:Mem)(g:Nat→Src)(rt:Nat→Option Root)(Sh:Nat→Prop):AV→Value→Prop
 |.dead,_=>True
 |.skp,v=>v=undef
 |.val t x,v=>VOk m Sh t x v
 |.nils,v=>v=.slice none 0 0
 |.empt,v=>∃a:Option Addr,v=.slice a 0 0
 |.nilp,v=>v=.pointer none
 |.ptr n p,v=>∃r t b o,rt n=some r∧loc m r.t (g n) p=some (t,.at b o)∧v=.pointer (some ⟨b,o,none⟩)
 |.glob g,v=>v=.pointer (some ⟨g,0,none⟩)
 |.vptr t x,v=>∃b o R,v=.pointer (some ⟨b,o,none⟩)∧dec m t ((Src.at b o).rd m)=some (x,[],R)∧Sh b∧∀c∈R,Sh c
 |.sref n p,v=>∃r e s,rt n=some r∧loc m r.t (g n) p=some (.list true e,s)∧s.rd m 0=some v
 |.swin n p off len,v=>∃r e s a l c,rt n=some r∧loc m r.t (g n) p=some (.list true e,s)∧s.rd m 0=some (.slice a l c)∧off+len≤l∧
   ∃a',v=.slice a' len (c-off)∧(∀A,a'=some A→c=off∨A.spot=none)∧(c=off∨a'=a.map fun A=>A.add (off*e.cells))
def Cmp.ok:Cmp→Array Value→Nat→Value→Prop
 |.tup,us,_,v=>v=.tuple us
 |.agg,us,n,v=>us.size=n∧v=.agg us∧∀(k:Nat) u,us[k]?=some u→b0v u=true
 |.clo f,us,n,v=>us.size=n∧v=.func (.func f) #[] us
def h0a(m:Mem)(g:Nat→Src)(rt:Nat→Option Root)(Sh:Nat→Prop):SV→Value→Prop
 |.one a,v=>a0e m g rt Sh a v
 |.cmp c as,v=>∃vs:Array Value,c.ok vs as.length v∧∀(k:Nat) a,as[k]?=some a→∃u,vs[k]?=some u∧a0e m g rt Sh a u
structure RootOk (m:Mem) (Sh:Nat→Prop) (r:Root) (s:Src) (O:b0k):Prop where
 rd:∃O' R,dec m r.t (s.rd m)=some (r.x,O',R)∧(∀c∈R,Sh c)∧
  ((r.bx=true∧∃b,s=.at b 0∧O=(b,r.t.cells)::O')∨(r.bx=false∧(∃v,s=.one v)∧(∃e,r.t=.list true e)∧O=O'))
def f0t(m:Mem)(g:Nat→Src)(rt:Nat→Option Root):Option (Nat×a0l×Nat)→Option (Nat×Nat×Value)→Prop
 |none,none=>True
 |some (n,p,_),some (b,o,_)=>∃r e,rt n=some r∧loc m r.t (g n) p=some (.list true e,.at b o)
 |_,_=>False
theorem f0t.mono{rt:Nat→Option Root}:∀{pd ov},f0t m g rt pd ov→
  (∀n p d r e b o,pd=some (n,p,d)→rt n=some r→loc m r.t (g n) p=some (.list true e,.at b o)→∃f,rt' n=some f∧loc m' f.t (g' n) p=some (.list true e,.at b o))→
  f0t m' g' rt' pd ov
 |none,none,_,_=>trivial
 |some (n,p,d),some (b,o,v),⟨r,e,h1,h2⟩,hf=>by
  obtain⟨f,k,a⟩:=hf n p d r e b o rfl h1 h2;exact⟨f,e,k,a⟩
 |none,some _,h,_=>h.elim
 |some _,none,h,_=>h.elim
structure Rel (B:Base) (Γ:AE) (N:Nat) (tm:Nat→Value) (w:World) (σ:Gh):Prop where
 roots:∀n r,Γ.rt n=some r→RootOk (a0a w σ.ov) (Shr B w σ) r (σ.g n) (σ.ow n)
 norm:∀n,Γ.rt n=none→σ.ow n=[]
 nodup:∀n,((σ.ow n).map (·.1)).Nodup
 disj:∀n n',n≠n'→∀c,c∈(σ.ow n).map (·.1)→c∉(σ.ow n').map (·.1)
 live:∀n p,p∈σ.ow n→b0c w p.1 p.2
 slots:∀i,i<N→h0a (a0a w σ.ov) σ.g Γ.rt (Shr B w σ) (Γ.sl i) (tm i)
 pend:f0t (a0a w σ.ov) σ.g Γ.rt Γ.pd σ.ov
 size:B.size≤w.heap.size
 frame:∀b,b<B.size→¬ B.F b→w.heap[b]?=B.hp b
 mine:∀c,a0u σ c→B.F c∨B.size≤c
 pins:∀i b,B.pin i=some b→Γ.rt (pinned+i)≠none→σ.g (pinned+i)=b
 still:c0o w=B.io
theorem b0c.lt(h:b0c w b k):b<w.heap.size:=by
 obtain⟨c,e,lo,hi,h,-⟩:=h
 grind
theorem b0c.mono{k':Nat}(h:b0c w b k)(g:k'≤k):b0c w b k':=by
 obtain⟨c,e,lo,hi,h,f,a⟩:=h;exact⟨c,e,lo,hi,h,a06 g f,a.imp id (a06 g)⟩
theorem Rel.lt{B Γ N tm w σ}(h:Rel B Γ N tm w σ)(g:a0u σ c):c<w.heap.size:=by
 obtain⟨n,f⟩:=g;obtain⟨p,hp,rfl⟩:=List.mem_map.1 f;exact(h.live n p hp).lt
theorem VOk.frame{t x v}(h:VOk m Sh t x v)(i:∀c j,Sh c→m' c j=m c j)(hs:∀c,Sh c→Sh' c):VOk m' Sh' t x v:=by
 obtain⟨g,f,R,k,a⟩:=h;refine⟨g,f,R,a0k t k (fun _ _=>rfl) (fun b j e=>?_),fun c d=>hs c (a c d)⟩;simp_all
theorem a0e.frame{rt:Nat→Option Root}{a:AV}(h:a0e m g rt Sh a v)(B:∀c j,Sh c→m' c j=m c j)(hs:∀c,Sh c→Sh' c)(z:∀n p r t s,(a=.ptr n p∨a=.sref n p∨∃o l,a=.swin n p o l)→rt n=some r→loc m r.t (g n) p=some (t,s)→
   ∃k,rt' n=some k∧loc m' k.t (g' n) p=some (t,s)∧(∀u,a≠.ptr n p→s.rd m 0=some u→s.rd m' 0=some u)):a0e m' g' rt' Sh' a v:=by
 cases a with
 |dead=>trivial
 |val t x=>exact VOk.frame h B hs
 |skp=>exact h
 |nils=>exact h
 |empt=>exact h
 |nilp=>exact h
 |glob g=>exact h
 |ptr n p=>
  obtain⟨r,t,b,o,d,i,f⟩:=h;obtain⟨k,q,w,-⟩:=z n p r t _ (.inl rfl) d i;exact⟨k,t,b,o,q,w,f⟩
 |vptr t x=>
  obtain⟨b,o,R,d,i,f,q⟩:=h;refine⟨b,o,R,d,a0k t i (fun j _=>B b _ f) (fun c j A=>?_),hs b f,fun c A=>hs c (q c A)⟩;simp_all
 |sref n p=>
  obtain⟨r,e,s,d,i,f⟩:=h;obtain⟨k,q,w,y⟩:=z n p r _ _ (.inr (.inl rfl)) d i;exact⟨k,e,s,q,w,y v (by simp) f⟩
 |swin n p o l=>
  obtain⟨r,e,s,a,l',c,d,i,f,q,w⟩:=h;obtain⟨k,y,C,D⟩:=z n p r _ _ (.inr (.inr ⟨_,_,rfl⟩)) d i;exact⟨k,e,s,a,l',c,y,C,D _ (by simp) f,q,w⟩
theorem h0a.frame{rt:Nat→Option Root}{a:SV}(h:h0a m g rt Sh a v)(hf:∀a v,a0e m g rt Sh a v→a0e m' g' rt' Sh' a v):h0a m' g' rt' Sh' a v:=by
 cases a with
 |one a=>exact hf a v h
 |cmp c as=>
  obtain⟨vs,f,b⟩:=h;refine⟨vs,f,fun k a d=>?_⟩
  grind
theorem h0a.mapv{m m':Mem}{g g':Nat→Src}{rt rt':Nat→Option Root}{Sh Sh':Nat→Prop}{f:AV→AV}{a:SV}{v:Value}(h:h0a m g rt Sh a v)
  (hf:∀a v,a0e m g rt Sh a v→a0e m' g' rt' Sh' (f a) v):h0a m' g' rt' Sh' (a.mapv f) v:=by
 cases a with
 |one a=>exact hf a v h
 |cmp c as=>
  obtain⟨vs,b,d⟩:=h;refine⟨vs,by simp_all,fun k a e=>?_⟩
  grind
theorem RootOk.sep{B:Base}{r s O}(h:RootOk m (Shr B w σ) r s O)(a:(O.map (·.1)).Nodup)(d:∀c∈O.map (·.1),a0u σ c):
  ∃g R,dec m r.t (s.rd m)=some (r.x,g,R)∧(∀c∈R,Shr B w σ c)∧Sep s g R∧(∀c∈g.map (·.1),c∈O.map (·.1))∧(∀b o,s=.at b o→b∈O.map (·.1))∧
   ((r.bx=true∧∃b,s=.at b 0∧O=(b,r.t.cells)::g)∨(r.bx=false∧(∃v,s=.one v)∧(∃e,r.t=.list true e)∧O=g)):=by
 obtain⟨g,R,j,k,i⟩:=h.rd;refine⟨g,R,j,k,?_,?_,?_,i⟩;rcases i with⟨-,b,rfl,rfl⟩|⟨-,⟨v,rfl⟩,-,rfl⟩;simp only[a02,a12]at a;refine⟨a.2,fun c f e=>a.1 (e▸f),fun c f=>⟨fun h=>(k c f).2.2 (d c (by simp_all)),fun e=>(k c f).2.2 (d c (by grind))⟩⟩;exact⟨a,fun c _=>trivial,fun c f=>⟨fun h=>(k c f).2.2 (d c h),trivial⟩⟩
 all_goals grind
theorem Rel.sep{B Γ N tm w σ}(h:Rel B Γ N tm w σ){n r}(k:Γ.rt n=some r):
  ∃O' R,dec (a0a w σ.ov) r.t ((σ.g n).rd (a0a w σ.ov))=some (r.x,O',R)∧(∀c∈R,Shr B w σ c)∧Sep (σ.g n) O' R∧(∀c∈O'.map (·.1),c∈(σ.ow n).map (·.1))∧
   (∀b o,σ.g n=.at b o→b∈(σ.ow n).map (·.1))∧
   ((r.bx=true∧∃b,σ.g n=.at b 0∧σ.ow n=(b,r.t.cells)::O')∨(r.bx=false∧(∃v,σ.g n=.one v)∧(∃e,r.t=.list true e)∧σ.ow n=O')):=
 (h.roots n r k).sep (h.nodup n) (fun _ f=>⟨n,f⟩)
theorem Rel.place{B Γ N tm w σ}(h:Rel B Γ N tm w σ){n r p t b o}(f:Γ.rt n=some r)(j:loc (a0a w σ.ov) r.t (σ.g n) p=some (t,.at b o)):b∈(σ.ow n).map (·.1):=by
 obtain⟨k,R,a,c,d,e,i,-⟩:=h.sep f
 grind[e0n]
theorem Rel.mem{B Γ N tm w σ}(h:Rel B Γ N tm w σ)(m:∀c j,a0u σ c∨Shr B w σ c→a0a w' σ.ov c j=a0a w σ.ov c j)(K:∀n p,p∈σ.ow n→b0c w' p.1 p.2)(y:w.heap.size≤w'.heap.size)(hf:∀b,b<B.size→¬ B.F b→w'.heap[b]?=B.hp b)(hio:c0o w'=c0o w:=by first|rfl|assumption):Rel B Γ N tm w' σ:=by
 have x:∀c,Shr B w σ c→Shr B w' σ c:=fun c ⟨q,z,A⟩=>⟨a11 q y,z,A⟩;have k:∀n p r t s,Γ.rt n=some r→loc (a0a w σ.ov) r.t (σ.g n) p=some (t,s)→loc (a0a w' σ.ov) r.t (σ.g n) p=some (t,s)∧∀u,s.rd (a0a w σ.ov) 0=some u→s.rd (a0a w' σ.ov) 0=some u:=by
  intro n p r t s l hp;obtain⟨E,R,q,z,A,C,D,-⟩:=h.sep l;refine⟨c0s p r.t _ q hp (fun j J=>?_) (fun c j f=>m c j (.inl ⟨n,C c f⟩)),fun u G=>?_⟩
  ·cases e:σ.g n with
   |one v=>rfl
   |_=>rename_i b o;exact m b _ (.inl ⟨n,D b o e⟩)
  ·cases s with
   |one v=>exact G
   |_=>
    rename_i b o
    have:=h.place l hp
    rw[←G];exact m b _ (.inl ⟨n,this⟩)
 refine⟨fun n r l=>?_,h.norm,h.nodup,h.disj,K,fun i hi=>?_,?_,a06 h.size y,hf,h.mine,h.pins,hio.trans h.still⟩
 ·obtain⟨E,R,q,z,A,C,D,H⟩:=h.sep l;refine⟨E,R,a0k r.t q (fun j J=>?_) (fun c j f=>?_),fun c f=>x c (z c f),H⟩
  ·cases e:σ.g n with
   |one v=>rfl
   |_=>rename_i b o;exact m b _ (.inl ⟨n,D b o e⟩)
  rcases f with f|f;exact m c j (.inl ⟨n,C c f⟩);simp_all
 refine(h.slots i hi).frame fun a v I=>I.frame (fun c j f=>m c j (.inr f)) x fun n p r t s _ l hp=>?_
 grind
 exact h.pend.mono fun n p d r e b o _ l hp=>⟨r,l,(k n p r _ _ l hp).1⟩
theorem Rel.put{B Γ N tm w σ}(h:Rel B Γ N tm w σ){d:Nat}{a:SV}{v:Value}{tm':Nat→Value}(f:d<N→h0a (a0a w σ.ov) σ.g Γ.rt (Shr B w σ) a v)
  (k:∀i,i<N→tm' i=if i=d then v else tm i):Rel B (Γ.put d a) N tm' w σ:=by
 refine⟨h.roots,h.norm,h.nodup,h.disj,h.live,fun i hi=>?_,h.pend,h.size,h.frame,h.mine,h.pins,h.still⟩;rw[k i hi];show h0a _ _ _ _ (bif i==d then a else Γ.sl i) _
 by_cases e:i=d
 subst e;rw[if_pos rfl,show(i==i)=true from by simp];exact f hi;rw[if_neg e,show(i==d)=false from by simp_all];exact h.slots i hi
theorem Rel.tmps{B Γ N tm w σ}(h:Rel B Γ N tm w σ){tm':Nat→Value}(g:∀i,i<N→tm' i=tm i):Rel B Γ N tm' w σ:=
 ⟨h.roots,h.norm,h.nodup,h.disj,h.live,fun i hi=>by rw[g i hi];exact h.slots i hi,h.pend,h.size,h.frame,h.mine,h.pins,h.still⟩
theorem Rel.weak{B Γ N tm w σ}(h:Rel B Γ N tm w σ){sl:Nat→SV}(hs:∀i,i<N→∀v,h0a (a0a w σ.ov) σ.g Γ.rt (Shr B w σ) (Γ.sl i) v→h0a (a0a w σ.ov) σ.g Γ.rt (Shr B w σ) (sl i) v):
  Rel B { Γ with sl:=sl } N tm w σ:=
 ⟨h.roots,h.norm,h.nodup,h.disj,h.live,fun i hi=>hs i hi _ (h.slots i hi),h.pend,h.size,h.frame,h.mine,h.pins,h.still⟩
theorem b0q{w w':World}{c:Nat}(ov:Option (Nat×Nat×Value))(h:w'.heap[c]?=w.heap[c]?)(j:Nat):a0a w' ov c j=a0a w ov c j:=by
 simp_all[a0a,World.cell?]
theorem d0l{m:Mem}:∀(p q:a0l)(t:Ty)(s:Src){t' s'},loc m t s p=some (t',s')→loc m t s (p++q)=loc m t' s' q
 | [],q,t,s,t',s',h=>by
  simp[a0t]at h;simp_all
 |.fst::p,q,t,s,t',s',h=>by
  obtain⟨a,b,bl,o,rfl,rfl,h⟩:=d0v h;exact d0l p q a _ h
 |.snd::p,q,t,s,t',s',h=>by
  obtain⟨a,b,bl,o,rfl,rfl,h⟩:=d0w h;exact d0l p q b _ h
 |.idx i::p,q,t,s,t',s',h=>by
  rcases e0v h with⟨n,g,bl,o,rfl,rfl,hi,h⟩|⟨g,a,n,c,rfl,hv,hi,h⟩
  have:=d0l p q g _ h
  show(if i<n then loc m g (.at bl (o+i*g.cells)) (p++q)else none)=_
  simp_all
  have:=d0l p q g _ h
  simp_all[a0t]
theorem g0d{m:Mem}:∀(q:a0l)(t:Ty)(s:Src){t' s'},t.shn=t→loc m t s q=some (t',s')→t'.shn=t'
 | [],t,s,t',s',h,g=>by
  simp[a0t]at g;obtain⟨rfl,rfl⟩:=g;exact h
 |.fst::p,t,s,t',s',h,g=>by
  obtain⟨a,b,bl,o,rfl,rfl,g⟩:=d0v g;simp only[Ty.shn,Ty.pair.injEq]at h;exact g0d p a _ h.1 g
 |.snd::p,t,s,t',s',h,g=>by
  obtain⟨a,b,bl,o,rfl,rfl,g⟩:=d0w g;simp only[Ty.shn,Ty.pair.injEq]at h;exact g0d p b _ h.2 g
 |.idx i::p,t,s,t',s',h,g=>by
  rcases e0v g with⟨n,f,bl,o,rfl,rfl,hi,g⟩|⟨f,a,n,c,rfl,hv,hi,g⟩;simp only[Ty.shn,Ty.arr.injEq]at h;exact g0d p f _ (Ty.shn_of_sh f h.2) g;simp[Ty.shn]at h
def t0o(n:Nat)(p:a0l)(t:Ty):AV→Prop
 |.ptr m q=>m=n→∀rest,q=p++rest→rest=[]∨t.shn=t
 |.sref m q|.swin m q _ _=>m=n→∀rest,q=p++rest→t.shn=t
 |_=>True
theorem j0y(p q:a0l):d0d p (p++q)=true:=by
 induction p with
 |nil=>rfl
 |cons s p ih=>cases s<;>simpa[d0d]using ih
theorem m0q(n:Nat)(p:a0l)(t:Ty)(a:AV):a.kill n p=.dead∨(a.kill n p=a∧t0o n p t a):=by
 cases a<;>try exact .inr ⟨rfl,trivial⟩
 rename_i m q
 by_cases h:(m==n&&d0d p q&&decide (p.length<q.length))=true
 simp_all[AV.kill];refine .inr ⟨by simp_all[AV.kill],fun e rest g=>?_⟩;simp_all[j0y];rename_i m q
 by_cases h:(m==n&&d0d p q)=true
 simp_all[AV.kill];refine .inr ⟨by simp_all[AV.kill],fun e rest g=>?_⟩;simp_all[j0y];rename_i m q o l
 by_cases h:(m==n&&d0d p q)=true
 simp_all[AV.kill];refine .inr ⟨by simp_all[AV.kill],fun e rest g=>?_⟩;simp_all[j0y]
theorem y0s(n:Nat)(p:a0l){t:Ty}(h:t.shn=t)(a:AV):t0o n p t a:=by
 cases a<;>first|trivial|exact fun _ _ _=>h|exact fun _ _ _=>.inr h
inductive Pend (Γ:AE) (σ:Gh) (n:Nat) (p:a0l) (t:Ty) (b o:Nat):Option (Nat×a0l×Nat)→Option (Nat×Nat×Value)→Prop
 |same (h:∀p d,Γ.pd≠some (n,p,d)):Pend Γ σ n p t b o Γ.pd σ.ov
 |new (d:Nat) (v:Value) (e:Ty) (h:Γ.pd=none) (ht:t=.list true e):Pend Γ σ n p t b o (some (n,p,d)) (some (b,o,v))
theorem Rel.chg{B Γ N tm w σ}(h:Rel B Γ N tm w σ){n r p t b o y O1 R1}(hr:Γ.rt n=some r)(hl:loc (a0a w σ.ov) r.t (σ.g n) p=some (t,.at b o))(hy:dec (a0a w σ.ov) t ((Src.at b o).rd (a0a w σ.ov))=some (y,O1,R1)){ov':Option (Nat×Nat×Value)}{pd':Option (Nat×a0l×Nat)}{y' O2 R2}(hpd:Pend Γ σ n p t b o pd' ov')(hy':dec (a0a w' ov') t ((Src.at b o).rd (a0a w' ov'))=some (y',O2,R2))(hchg:∀c j,a0a w' ov' c j=a0a w σ.ov c j∨(c=b∧o≤j∧j<o+t.cells)∨c∈O1.map (·.1)∨w.heap.size≤c)(hO2:∀c∈O2.map (·.1),c∈O1.map (·.1)∨w.heap.size≤c)(hn2:(O2.map (·.1)).Nodup)(hlive:∀p∈O2,b0c w' p.1 p.2)(hfree:∀c k,b0c w c k→a0u σ c→b0c w' c k)(hsz:w.heap.size≤w'.heap.size)(hfr:∀b,b<B.size→¬ B.F b→w'.heap[b]?=B.hp b)(hR2:∀c∈R2,c<w'.heap.size∧(B.S c∨B.F c∨B.size≤c)∧¬ a0u σ c∧c∉O2.map (·.1)){f:AV→AV}(hf:∀a,f a=.dead∨(f a=a∧t0o n p t a))(hio:c0o w'=c0o w:=by first|rfl|assumption):
  ∃ow',(∀m,m≠n→ow' m=σ.ow m)∧Rel B { (Γ.mapv f).setRt n (some ⟨r.bx,r.t,b0s r.t r.x p t y'⟩)with pd:=pd' } N tm w' ⟨σ.g,ow',ov'⟩:=by
 obtain⟨O',R,h1,h2,h3,h4,h5,h6⟩:=h.sep hr;obtain⟨y1,O1',R1',A1,B1,A1',B1',hd,hg,e1,e2⟩:=b0f p r.t _ h1 hl;rw[hy]at hd;simp at hd;obtain⟨rfl,rfl,rfl⟩:=hd;have hO1:∀c,c∈O1.map (·.1)→c∈(σ.ow n).map (·.1):=fun c hc=>h4 c (by simp_all);have hb:b∈(σ.ow n).map (·.1):=h.place hr hl;have hc1:Chg (a0a w σ.ov) (a0a w' ov') (σ.g n) O' R b o t.cells O1:=fun c j=>by
  rcases hchg c j with g|g|g|g
  grind
  omega
  grind
  ·refine .inr (.inr (.inr ⟨fun g'=>?_,fun g'=>?_,?_⟩));exact absurd (h.lt ⟨n,h4 c g'⟩) (by omega);exact absurd (h2 c g').1 (by omega)
   ·cases e:σ.g n with
    |one v=>trivial
    |_=>
     rename_i b' o'
     rintro rfl
     exact absurd (h.lt ⟨n,h5 _ _ e⟩) (by omega)
 obtain⟨A,B',R',e3,h7,h8⟩:=p0x p r.t (σ.g n) h1 hl hy hy' h3 hc1

 have hother:∀c j,c∉(σ.ow n).map (·.1)→c<w.heap.size→a0a w' ov' c j=a0a w σ.ov c j:=fun c j hc hlt=>by
  grind
 have hoth:∀m,m≠n→∀c j,c∈(σ.ow m).map (·.1)→a0a w' ov' c j=a0a w σ.ov c j:=fun m hm c j hc=>
  hother c j (h.disj m n hm c hc) (h.lt ⟨m,hc⟩)
 have hshm:∀c j,Shr B w σ c→a0a w' ov' c j=a0a w σ.ov c j:=fun c j hc=>hother c j (fun g=>hc.2.2 ⟨n,g⟩) hc.1

 let on:b0k:=match r.bx with|true=>(match σ.g n with|.at b0 _=>[(b0,r.t.cells)]|_=>[])++(A++(O2++B'))|false=>A++(O2++B')
 let ow':Nat→b0k:=fun m=>if m=n then on else σ.ow m
 have hon:ow' n=on:=by grind
 have hom:∀m,m≠n→ow' m=σ.ow m:=fun m hm=>by grind
 have hon1:∀c,c∈on.map (·.1)→c∈(σ.ow n).map (·.1)∨c∈O2.map (·.1):=by
  intro c hc;have key:c∈(A++(O2++B')).map (·.1)→c∈(σ.ow n).map (·.1)∨c∈O2.map (·.1):=by
   grind
  rcases h6 with⟨hbx,b0,hs,ho⟩|⟨hbx,-,-,ho⟩
  grind
  grind
 have hOwned:∀c,(∃m,c∈(ow' m).map (·.1))→a0u σ c∨c∈O2.map (·.1):=by
  rintro c ⟨m,hm⟩
  by_cases e:m=n
  subst e;rw[hon]at hm;rcases hon1 c hm with g|g;exact .inl ⟨m,g⟩
  grind
  rw[hom m e]at hm;exact .inl ⟨m,hm⟩
 have hO2σ:∀c,c∈O2.map (·.1)→a0u σ c∨w.heap.size≤c:=fun c hc=>by
  rcases hO2 c hc with g|g;exact .inl ⟨n,hO1 c g⟩;omega
 have hsh:∀c,Shr B w σ c→Shr B w' ⟨σ.g,ow',ov'⟩ c:=fun c ⟨g1,g2,g3⟩=>⟨a11 g1 hsz,g2,fun g4=>by
  rcases hOwned c g4 with g|g
  all_goals grind⟩
 have hshR2:∀c∈R2,Shr B w' ⟨σ.g,ow',ov'⟩ c:=fun c hc=>by
  obtain⟨g1,g2,g3,g4⟩:=hR2 c hc;refine⟨g1,g2,fun g5=>?_⟩;rcases hOwned c g5 with g|g
  all_goals grind

 have hplace:∀m q rm tq s,Γ.rt m=some rm→loc (a0a w σ.ov) rm.t (σ.g m) q=some (tq,s)→(m=n→∀rest,q=p++rest→rest=[]∨t.shn=t)→
   loc (a0a w' ov') rm.t (σ.g m) q=some (tq,s)∧∀e,tq=.list true e→(m=n→∀rest,q=p++rest→t.shn=t)→s.rd (a0a w' ov') 0=s.rd (a0a w σ.ov) 0:=by
  intro m q rm tq s hrm hlq hq
  by_cases e:m=n
  subst e;rw[hr]at hrm;simp at hrm;subst hrm
  have:=i0h p q r.t (σ.g m) h1 hl hy h3 hc1 (hq rfl) hlq
  refine⟨this.1,fun e ht hne=>this.2 e s (by grind) (fun rest he=>?_)⟩;have hp:=hne rfl rest he;subst he;rw[d0l p rest r.t _ hl]at hlq
  have:=g0d rest t _ hp hlq
  grind[Ty.shn]
  ·obtain⟨Om,Rm,g1,g2,g3,g4,g5,-⟩:=h.sep hrm;have hcell:∀j,j<rm.t.cells→(σ.g m).rd (a0a w' ov') j=(σ.g m).rd (a0a w σ.ov) j:=fun j _=>by
    cases es:σ.g m with
    |one v=>rfl
    |_=>rename_i b' o';exact hoth m e b' _ (g5 _ _ es)
   refine⟨c0s q rm.t _ g1 hlq hcell (fun c j hc=>hoth m e c j (g4 c hc)),fun e' ht _=>?_⟩;rw[ht]at hlq;exact h0k g1 hlq hcell (fun c j hc=>hoth m e c j (g4 c hc))
 have hkeep:∀a v,a0e (a0a w σ.ov) σ.g Γ.rt (Shr B w σ) a v→a0e (a0a w' ov') σ.g (fun j=>bif j==n then some ⟨r.bx,r.t,b0s r.t r.x p t y'⟩else Γ.rt j) (Shr B w' ⟨σ.g,ow',ov'⟩) (f a) v:=by
  intro a v ha;rcases hf a with g|⟨g,hk⟩;rw[g];trivial;rw[g];refine ha.frame hshm hsh fun m q rm tq s hcase hrm hlq=>?_
  have hq:m=n→∀rest,q=p++rest→rest=[]∨t.shn=t:=by
   intro e rest he;rcases hcase with rfl|rfl|⟨o',l',rfl⟩;exact hk e rest he;exact .inr (hk e rest he);exact .inr (hk e rest he)
  have hp:=hplace m q rm tq s hrm hlq hq;refine⟨if m=n then⟨r.bx,r.t,b0s r.t r.x p t y'⟩else rm,?_,?_,?_⟩
  grind
  grind
  intro u hne hu;rcases hcase with rfl|rfl|⟨o',l',rfl⟩
  grind
  obtain⟨r0,e0,s0,k1,k2,k3⟩:=ha;rw[hrm]at k1;simp at k1;subst k1;rw[hlq]at k2;simp at k2;rw[hp.2 e0 k2.1 (fun e rest he=>hk e rest he)];omega;obtain⟨r0,e0,s0,a0,l0,c0,k1,k2,k3⟩:=ha;rw[hrm]at k1;simp at k1;subst k1;rw[hlq]at k2;simp at k2;rw[hp.2 e0 k2.1 (fun e rest he=>hk e rest he)];omega
 have hpins:∀i b,B.pin i=some b→(((Γ.mapv f).setRt n (some ⟨r.bx,r.t,b0s r.t r.x p t y'⟩)).rt (pinned+i))≠none→σ.g (pinned+i)=b:=fun i b hb hne=>by
  refine h.pins i b hb fun e=>hne ?_
  by_cases e':pinned+i=n
  grind
  have e'':(pinned+i==n)=false:=by grind
  simpa[AE.setRt,e'',AE.mapv]using e
 refine⟨ow',hom,?_,?_,?_,?_,?_,?_,?_,a06 h.size hsz,hfr,?_,hpins,hio.trans h.still⟩
 ·intro m rm hrm
  by_cases e:m=n
  subst e;simp[AE.setRt]at hrm;subst hrm;refine⟨_,R',h7,fun c hc=>?_,?_⟩
  grind
  rcases h6 with⟨hbx,b0,hs,ho⟩|⟨hbx,hs,ht,ho⟩
  grind
  grind
  ·have hrm':Γ.rt m=some rm:=by
    have e':(m==n)=false:=by grind
    simpa[AE.setRt,e',AE.mapv]using hrm
   obtain⟨Om,Rm,g1,g2,g3,g4,g5,g6⟩:=h.sep hrm';refine⟨Om,Rm,a0k rm.t g1 (fun j _=>?_) (fun c j hc=>?_),fun c hc=>hsh c (g2 c hc),?_⟩
   ·cases es:σ.g m with
    |one v=>rfl
    |_=>rename_i b' o';exact hoth m e b' _ (g5 _ _ es)
   grind
   grind
 intro m hm
 by_cases e:m=n
 grind[AE.setRt]
 have e':(m==n)=false:=by grind
 show ow' m=[];rw[hom m e];exact h.norm m (by simpa[AE.setRt,e',AE.mapv]using hm);intro m;show((ow' m).map (·.1)).Nodup
 by_cases e:m=n
 subst e;rw[hon];have hnd:=h.nodup m;have key:((A++(O2++B')).map (·.1)).Nodup:=by
  have hO'n:=h3.nodup;rw[e3]at hO'n;simp only[pA,a07,mA]at hO'n⊢;obtain⟨k1,⟨k2,k3,k4⟩,k5⟩:=hO'n;refine⟨k1,⟨hn2,k3,fun a ha c hc e=>?_⟩,fun a ha c hc e=>?_⟩;subst e;rcases hO2 a ha with g|g
  grind
  exact absurd (h.lt ⟨m,h4 a (by grind)⟩) (by omega);subst e;rcases hc with hc|hc;rcases hO2 a hc with g|g
  grind
  exact absurd (h.lt ⟨m,h4 a (by grind)⟩) (by omega)
  grind
 rcases h6 with⟨hbx,b0,hs,ho⟩|⟨hbx,-,-,ho⟩;simp only[on,hbx,hs,List.singleton_append,a02,a12];refine⟨fun g=>?_,key⟩;rw[ho]at hnd;simp only[a02,a12]at hnd;simp only[pA,mA]at g;rcases g with g|g|g
 grind
 rcases hO2 b0 g with g'|g';exact hnd.1 (by rw[e3];simp only[pA,mA];grind);have hb0:a0u σ b0:=⟨m,by grind⟩;exact absurd (h.lt hb0) (by omega);exact hnd.1 (by rw[e3];simp only[pA,mA];grind)
 grind
 rw[hom m e];exact h.nodup m;intro m m' hmm c hc hc'
 by_cases e:m=n
 subst e;rw[show(Gh.mk σ.g ow' ov').ow m=ow' m from rfl,hon]at hc;rw[show(Gh.mk σ.g ow' ov').ow m'=ow' m' from rfl,hom m' (Ne.symm hmm)]at hc';rcases hon1 c hc with g|g;exact h.disj m m' hmm c g hc';rcases hO2σ c g with g|g;rcases hO2 c ‹_› with g'|g';exact h.disj m m' hmm c (hO1 c g') hc';exact absurd (h.lt ⟨m',hc'⟩) (by omega);exact absurd (h.lt ⟨m',hc'⟩) (by omega)
 by_cases e':m'=n
 subst e';rw[show(Gh.mk σ.g ow' ov').ow m'=ow' m' from rfl,hon]at hc';rw[show(Gh.mk σ.g ow' ov').ow m=ow' m from rfl,hom m e]at hc;rcases hon1 c hc' with g|g;exact h.disj m m' hmm c hc g;rcases hO2 c g with g'|g';exact h.disj m m' hmm c hc (hO1 c g');exact absurd (h.lt ⟨m,hc⟩) (by omega);rw[show(Gh.mk σ.g ow' ov').ow m=ow' m from rfl,hom m e]at hc;rw[show(Gh.mk σ.g ow' ov').ow m'=ow' m' from rfl,hom m' e']at hc';exact h.disj m m' hmm c hc hc'
 ·intro m q hq;rw[show(Gh.mk σ.g ow' ov').ow m=ow' m from rfl]at hq
  by_cases e:m=n
  ·subst e;rw[hon]at hq;have hold:q∈σ.ow m→b0c w' q.1 q.2:=fun g=>hfree _ _ (h.live m q g) ⟨m,a16 g⟩;have key:q∈A++(O2++B')→b0c w' q.1 q.2:=by
    intro g;simp at g;have hmem:q∈O'→q∈σ.ow m:=fun g=>by
     rcases h6 with⟨-,b0,-,ho⟩|⟨-,-,-,ho⟩
     all_goals grind
    grind
   rcases h6 with⟨hbx,b0,hs,ho⟩|⟨hbx,-,-,ho⟩
   grind
   grind
  rw[hom m e]at hq;exact hfree _ _ (h.live m q hq) ⟨m,a16 hq⟩
 intro i hi;exact(h.slots i hi).mapv hkeep
 ·cases hpd with
  |same hne=>
   refine h.pend.mono fun n' p' d' r' e' b' o' hpd hr' hp'=>?_
   have hnn:n'≠n:=fun e=>hne p' d' (by grind);have e'':(n'==n)=false:=by grind
   exact⟨r',by simpa[AE.setRt,e'',AE.mapv]using hr',(hplace n' p' r' _ _ hr' hp' (fun g=>absurd g hnn)).1⟩
  |new d v e hpn ht=>
   refine⟨⟨r.bx,r.t,b0s r.t r.x p t y'⟩,e,by simp[AE.setRt],?_⟩;rw[←ht];exact(hplace n p r t _ hr hl (fun _ rest he=>.inl (by simpa using he))).1
 rintro c ⟨m,hm⟩
 rcases hOwned c ⟨m,hm⟩with g|g;exact h.mine c g;rcases hO2σ c g with g|g;exact h.mine c g;exact .inr (a06 h.size g)
theorem Ty.cells_sh:(t:Ty)→t.sh.cells=t.cells
 |.int _|.bool|.str|.unit|.list _ _|.nl _|.fn _|.hd=>rfl
 |.pair a b=>by simp only[Ty.sh,Ty.cells,Ty.cells_sh a,Ty.cells_sh b]
 |.arr n t=>by simp only[Ty.sh,Ty.cells,Ty.cells_sh t]
theorem s0j(h:A=A')(g:List A=List A')(l:List A):cast g l=l.map (cast h):=by
 subst h;show l=l.map (fun x=>x)
 simp
theorem n0m{B B':Type}(g:A=A')(f:B=B')(h:(A×B)=(A'×B'))(x:A×B):cast h x=(cast g x.1,cast f x.2):=by
 subst g f;rfl
theorem p0p(h:A=A')(g:List A=List A'):cast g ([]:List A)=([]:List A'):=by
 subst h;rfl
theorem Ty.shx_list(o:Bool)(t:Ty)(l:List t.den):Ty.shx (.list o t) l=l.map t.shx:=s0j _ _ l
theorem Ty.shx_arr(n:Nat)(t:Ty)(l:List t.den):Ty.shx (.arr n t) l=l.map t.shx:=s0j _ _ l
theorem Ty.shx_pair(a b:Ty)(x:a.den×b.den):Ty.shx (.pair a b) x=(a.shx x.1,b.shx x.2):=n0m _ _ _ x
theorem j0j{α β:Type}{f:Nat→Option (α×b0k×List Nat)}{f':Nat→Option (β×b0k×List Nat)}{c:α→β}:
  ∀(n i:Nat){xs os rs},a0d f n i=some (xs,os,rs)→(∀j x o r,i≤j→j<i+n→f j=some (x,o,r)→∃r',f' j=some (c x,[],r')∧∀b∈r',b∈o.map (·.1)∨b∈r)→
   ∃g,a0d f' n i=some (xs.map c,[],g)∧∀b∈g,b∈os.map (·.1)∨b∈rs
 |0,i,xs,os,rs,h,_=>by
  simp[a0d]at h;obtain⟨rfl,rfl,rfl⟩:=h;exact⟨[],rfl,by simp⟩
 |n+1,i,xs,os,rs,h,hf=>by
  simp only[a0d]at h
  split at h
  cases h;rename_i x o r a
  split at h
  cases h;rename_i u s g e;simp only[sj,pJ]at h;obtain⟨rfl,rfl,rfl⟩:=h;obtain⟨t,l,m⟩:=hf i x o r (a14 _) (by omega) a;obtain⟨d,p,q⟩:=j0j n (i+1) e (fun j x o r v e=>hf j x o r (by omega) (by omega));refine⟨t++d,by simp only[a0d,l,p];simp,fun b k=>?_⟩;simp only[pA,mA]at k⊢;rcases k with k|k;exact(m b k).imp .inl .inl;exact(q b k).imp .inr .inr
theorem C0t{β:Type}{o:Bool}{f':(Nat→Option Value)→Option (β×b0k×List Nat)}{c:α→β}{v x O R}(h:a0w m o sz f v=some (x,O,R))(hf:∀rd x o r,f rd=some (x,o,r)→∃r',f' rd=some (c x,[],r')∧∀b∈r',b∈o.map (·.1)∨b∈r):
  ∃R',a0w m false sz f' v=some (x.map c,[],R')∧∀b∈R',b∈O.map (·.1)∨b∈R:=by
 unfold a0w at h⊢
 split at h
 split at h
 rename_i k;simp only[sj,pJ]at h;obtain⟨rfl,rfl,rfl⟩:=h;exact⟨[],by rw[if_pos k];rfl,by simp⟩;cases h;rename_i a n l
 split at h
 rename_i k
 split at h
 cases h;rename_i xs os u p;obtain⟨e,q,s⟩:=j0j (f':=fun i=>f' fun j=>m a.block (a.off+(i*sz+j))) (c:=c) n 0 p (fun j x o r _ _ h=>hf _ x o r h);simp only[if_pos k,q]
 by_cases hn:n=0
 have t:x=xs:=by
  split at h
  split at h<;>simp only[sj,pJ]at h<;>exact h.1.symm
  simp only[sj,pJ]at h;exact h.1.symm
 exact⟨[],by simp[hn,t],by simp⟩;have d:l≠0:=by omega
 simp only[if_neg hn,if_neg d]at h;have key:x=xs∧∀b,b=a.block∨b∈os.map (·.1)∨b∈u→b∈O.map (·.1)∨b∈R:=by
  cases o;simp only[a18,if_false,sj,pJ]at h;obtain⟨rfl,rfl,rfl⟩:=h;exact⟨rfl,fun b g=>.inr (by simpa using g)⟩;simp only[if_true,sj,pJ]at h;obtain⟨rfl,rfl,rfl⟩:=h;refine⟨rfl,fun b g=>?_⟩;rcases g with g|g|g;exact .inl (by simp[g]);exact .inl (by simp only[a02,mC];exact .inr g);exact .inr g
 refine⟨a.block::e,by simp[hn,key.1],fun b g=>key.2 b ?_⟩;rcases mC.1 g with g|g;exact .inl g;exact .inr (s b g);cases h;cases h
theorem e0t{m:Mem}:∀(t:Ty){rd:Nat→Option Value}{x O R},dec m t rd=some (x,O,R)→∃d,dec m t.sh rd=some (t.shx x,[],d)∧∀c∈d,c∈O.map (·.1)∨c∈R
 |.int k,rd,x,O,R,h=>by
  refine⟨R,?_,fun c g=>.inr g⟩
  have:O=[]:=by
   simp only[dec]at h
   split at h
   split at h
   simp only[sj]at h;cases h;rfl;cases h;cases h
  subst this;exact h
 |.bool,rd,x,O,R,h=>by
  refine⟨R,?_,fun c g=>.inr g⟩
  have:O=[]:=by
   simp only[dec]at h
   split at h
   simp only[sj]at h;cases h;rfl;cases h
  subst this;exact h
 |.str,rd,x,O,R,h=>by
  refine⟨R,?_,fun c g=>.inr g⟩
  have:O=[]:=by
   simp only[dec]at h
   split at h
   simp only[sj]at h;cases h;rfl;cases h
  subst this;exact h
 |.unit,rd,x,O,R,h=>by
  simp only[dec,sj]at h;cases h;exact⟨[],rfl,by simp⟩
 |.fn f,rd,x,O,R,h=>by
  obtain⟨-,rfl,rfl⟩:=q0m h;exact⟨[],h,by simp⟩
 |.hd,rd,x,O,R,h=>by
  obtain⟨b,-,-,rfl,rfl⟩:=q0n h;exact⟨[],h,by simp⟩
 |.pair a b,rd,x,O,R,h=>by
  obtain⟨w,o1,v,y,o2,r2,e,l,rfl,rfl,rfl⟩:=c0h h;obtain⟨R1,q,s⟩:=e0t a e;obtain⟨R2,p,u⟩:=e0t b l;refine⟨R1++R2,?_,fun c g=>?_⟩;rw[Ty.shx_pair];rw[←Ty.cells_sh a]at p;exact e0m q p;simp only[pA,mA]at g⊢;rcases g with g|g;exact(s c g).imp .inl .inl;exact(u c g).imp .inr .inr
 |.arr n t,rd,x,O,R,h=>by
  have h:a0d (fun i=>dec m t fun j=>rd (i*t.cells+j)) n 0=some (x,O,R):=h;obtain⟨d,e,l⟩:=j0j (f':=fun i=>dec m t.sh fun j=>rd (i*t.cells+j)) (c:=t.shx) n 0 h (fun j x o r _ _ h=>e0t t h);refine⟨d,?_,l⟩;refine Eq.trans ?_ (congrArg (fun z:List t.sh.den=>some (z,([]:b0k),d)) (Ty.shx_arr n t x).symm);show a0d (fun i=>dec m t.sh fun j=>rd (i*t.sh.cells+j)) n 0=_;rw[Ty.cells_sh];exact e
 |.list o t,rd,x,O,R,h=>by
  have h:a0w m o t.cells (dec m t) (rd 0)=some (x,O,R):=h;obtain⟨d,e,l⟩:=C0t (f':=dec m t.sh) (c:=t.shx) h (fun rd x o r h=>e0t t h);refine⟨d,?_,l⟩;refine Eq.trans ?_ (congrArg (fun z:List t.sh.den=>some (z,([]:b0k),d)) (Ty.shx_list o t x).symm);show a0w m false t.sh.cells (dec m t.sh) (rd 0)=_;rw[Ty.cells_sh];exact e

 |.nl t,rd,x,O,R,h=>by
  obtain⟨hv,rfl,rfl,rfl⟩:=n0n h;refine⟨[],?_,by simp⟩;refine Eq.trans ?_ (congrArg (fun z:List t.sh.den=>some (z,([]:b0k),([]:List Nat))) (p0p (Ty.den_sh t).symm _).symm);show a0w m false t.sh.cells (dec m t.sh) (rd 0)=_;rw[hv];rfl
theorem Ty.cells_shn:(t:Ty)→t.shn.cells=t.cells
 |.fn _|.hd=>rfl
 |.int _|.bool|.str|.unit|.list _ _|.nl _=>rfl
 |.pair a b=>by simp only[Ty.shn,Ty.cells,Ty.cells_shn a,Ty.cells_shn b]
 |.arr n t=>by simp only[Ty.shn,Ty.cells,Ty.cells_sh t]
theorem l0w{m:Mem}:∀(t:Ty){rd:Nat→Option Value}{x O R},dec m t rd=some (x,O,R)→∃R',dec m t.shn rd=some (t.shnx x,[],R')∧∀c∈R',c∈O.map (·.1)∨c∈R
 |.int k,rd,x,O,R,h=>e0t (.int k) h
 |.bool,rd,x,O,R,h=>e0t .bool h
 |.str,rd,x,O,R,h=>e0t .str h
 |.unit,rd,x,O,R,h=>e0t .unit h
 |.fn f,rd,x,O,R,h=>e0t (.fn f) h
 |.hd,rd,x,O,R,h=>e0t .hd h
 |.arr n t,rd,x,O,R,h=>e0t (.arr n t) h
 |.list o t,rd,x,O,R,h=>e0t (.list o t) h
 |.nl t,rd,x,O,R,h=>by
  obtain⟨hv,rfl,rfl,rfl⟩:=n0n h;refine⟨[],?_,by simp⟩;refine Eq.trans ?_ (congrArg (fun z:List t.sh.den=>some (z,([]:b0k),([]:List Nat))) (p0p (Ty.den_sh t).symm _).symm);show(match rd 0 with|some (.slice none 0 0)=>some (([]:List t.sh.den),([]:b0k),([]:List Nat))|_=>none)=_;rw[hv];rfl
 |.pair a b,rd,x,O,R,h=>by
  obtain⟨d,o1,s,e,o2,r2,j,l,rfl,rfl,rfl⟩:=c0h h;obtain⟨R1,p,q⟩:=l0w a j;obtain⟨R2,i,r⟩:=l0w b l;refine⟨R1++R2,?_,fun c g=>?_⟩;rw[show(Ty.pair a b).shnx (d,e)=(a.shnx d,b.shnx e)from n0m _ _ _ (d,e)];rw[←Ty.cells_shn a]at i;exact e0m p i;simp only[pA,mA]at g⊢;rcases g with g|g;exact(q c g).imp .inl .inl;exact(r c g).imp .inr .inr
theorem Ty.le_cells:∀(a b:Ty),a.le b=true→a.cells=b.cells
 |.nl a,.list o b,_=>rfl
 |.pair a b,.pair a' b',h=>by
  simp only[Ty.le,bA]at h;simp only[Ty.cells,Ty.le_cells a a' h.1,Ty.le_cells b b' h.2]
 |.nl a,.nl b,_=>rfl
 |.nl a,.int _,h|.nl a,.bool,h|.nl a,.str,h|.nl a,.unit,h|.nl a,.pair _ _,h|.nl a,.arr _ _,h|.nl a,.fn _,h|.nl a,.hd,h=>by simp[Ty.le]at h
 |.pair a b,.int _,h|.pair a b,.bool,h|.pair a b,.str,h|.pair a b,.unit,h|.pair a b,.arr _ _,h|.pair a b,.list _ _,h|.pair a b,.nl _,h|.pair a b,.fn _,h|.pair a b,.hd,h=>by simp[Ty.le]at h
 |.int _,b,h|.bool,b,h|.str,b,h|.unit,b,h|.list _ _,b,h|.arr _ _,b,h|.fn _,b,h|.hd,b,h=>by
  simp only[Ty.le,dT]at h;rw[h]
theorem u0g{m:Mem}:∀(a b:Ty)(h:a.le b=true){rd:Nat→Option Value}{x R},dec m a rd=some (x,[],R)→dec m b rd=some (cast (Ty.le_den a b h) x,[],R)
 |.nl a,.list o b,h,rd,x,R,hd=>by
  obtain⟨hv,rfl,-,rfl⟩:=n0n hd;have e:a.den=b.den:=by
   simp only[Ty.le,dT]at h;rw[←Ty.den_sh a,←Ty.den_sh b,h]
  refine Eq.trans ?_ (congrArg (fun z:List b.den=>some (z,([]:b0k),([]:List Nat))) (p0p e _).symm);show a0w m o b.cells (dec m b) (rd 0)=_;rw[hv];cases o<;>rfl
 |.pair a b,.pair a' b',h,rd,x,R,hd=>by
  have g:=h;simp only[Ty.le,bA]at g;obtain⟨j,o1,i,l,o2,r2,c,d,rfl,e,rfl⟩:=c0h hd;obtain⟨rfl,rfl⟩:=a19.1 e.symm;have k:=u0g a a' g.1 c;have f:=u0g b b' g.2 d;rw[Ty.le_cells a a' g.1]at f;exact(e0m k f).trans (congrArg (fun z:a'.den×b'.den=>some (z,([]:b0k),i++r2)) (n0m (Ty.le_den a a' g.1) (Ty.le_den b b' g.2) _ (j,l)).symm)
 |.nl a,.nl b,h,rd,x,R,hd=>by
  simp only[Ty.le,dT]at h;cases h;exact hd
 |.nl a,.int _,h,_,_,_,_|.nl a,.bool,h,_,_,_,_|.nl a,.str,h,_,_,_,_|.nl a,.unit,h,_,_,_,_|.nl a,.pair _ _,h,_,_,_,_|.nl a,.arr _ _,h,_,_,_,_|.nl a,.fn _,h,_,_,_,_|.nl a,.hd,h,_,_,_,_=>by simp[Ty.le]at h
 |.pair a b,.int _,h,_,_,_,_|.pair a b,.bool,h,_,_,_,_|.pair a b,.str,h,_,_,_,_|.pair a b,.unit,h,_,_,_,_|.pair a b,.arr _ _,h,_,_,_,_|.pair a b,.list _ _,h,_,_,_,_|.pair a b,.nl _,h,_,_,_,_|.pair a b,.fn _,h,_,_,_,_|.pair a b,.hd,h,_,_,_,_=>by simp[Ty.le]at h
 |.int _,b,h,rd,x,R,hd|.bool,b,h,rd,x,R,hd|.str,b,h,rd,x,R,hd|.unit,b,h,rd,x,R,hd|.list _ _,b,h,rd,x,R,hd|.arr _ _,b,h,rd,x,R,hd|.fn _,b,h,rd,x,R,hd|.hd,b,h,rd,x,R,hd=>by
  simp only[Ty.le,dT]at h;cases h;exact hd
theorem w0l{a:Option Addr}{l off len:Nat}{x:List e.den}{O R}(h:dec m (.list true e) ((Src.one (.slice a l c)).rd m)=some (x,O,R))(F:off+len≤l){a':Option Addr}(w:∀A,a'=some A→c=off∨A.spot=none)(p:c=off∨a'=a.map fun A=>A.add (off*e.cells)):
  ∃s,dec m (.list false e.sh) ((Src.one (.slice a' len (c-off))).rd m)=some (Ty.shx (.list false e) ((x.drop off).take len),[],s)∧∀b∈s,b∈O.map (·.1)∨b∈R:=by
 rw[Ty.shx_list];rcases c0j h with⟨hv,rfl,rfl,rfl⟩|⟨A,n,U,os,hv,v,X,z,G⟩
 ·simp only[Src.rd,if_true,sj,Value.slice.injEq]at hv;obtain⟨rfl,rfl,rfl⟩:=hv;obtain rfl:off=0:=by omega
  obtain rfl:len=0:=by omega
  refine⟨[],?_,by simp⟩;show a0w m false e.sh.cells (dec m e.sh) (some (.slice a' 0 0))=_;cases a' with
  |none=>simp[a0w];rfl
  |some A=>simp[a0w,a0d];rfl
 ·simp only[Src.rd,if_true,sj,Value.slice.injEq]at hv;obtain⟨rfl,rfl,rfl⟩:=hv;have N:=b0b l 0 z
  by_cases hl0:len=0
  ·subst hl0;refine⟨[],?_,by simp⟩;show a0w m false e.sh.cells (dec m e.sh) (some (.slice a' 0 (c-off)))=_;cases a' with
   |none=>
    rcases p with g|g;simp[a0w,g];rfl;simp at g
   |some A'=>
    have hs:c-off=0∨A'.spot=none:=(w A' rfl).imp (fun h=>by omega) id;simp[a0w,hs,a0d];rfl
  ·have v:A.spot=none:=v.resolve_left (by omega);have q:a'=some (A.add (off*e.cells)):=by
    rcases p with g|g;omega;simpa using g
   have t:(A.add (off*e.cells)).block=A.block∧(A.add (off*e.cells)).off=A.off+off*e.cells∧(A.add (off*e.cells)).spot=none:=by
    unfold Addr.add;split;rename_i I;simp[I,v]
    simp
   have H:l=off+(len+(l-off-len)):=by omega
   rw[H]at z;obtain⟨P,C,Q,T,V,J,rfl,rfl⟩:=e0a off (len+(l-off-len)) 0 z;obtain⟨B,D,S,E,K,W,rfl,rfl⟩:=e0a len (l-off-len) (0+off) J;obtain⟨s,L,M⟩:=j0j (f':=fun i=>dec m e.sh ((Src.at A.block (A.off+i*e.cells)).rd m)) (c:=e.shx) len (0+off) K (fun j x o r _ _ h=>e0t e h);have f:∀(k i:Nat),a0d (fun i=>dec m e.sh fun j=>m A.block (A.off+off*e.cells+(i*e.cells+j))) k i=a0d (fun i=>dec m e.sh ((Src.at A.block (A.off+i*e.cells)).rd m)) k (off+i):=by
    intro k
    induction k with
    |zero=>intro i;rfl
    |succ k ih=>
     intro i;simp only[a0d];rw[ih (i+1)]
     have:(fun j=>m A.block (A.off+off*e.cells+(i*e.cells+j)))=(Src.at A.block (A.off+(off+i)*e.cells)).rd m:=by
      funext j;simp only[Src.rd];congr 1;rw[Nat.add_mul];omega
     rw[this,show off+(i+1)=off+i+1 from by omega]
   have u:∀b,b∈s→b∈O.map (·.1)∨b∈C++(D++E):=fun b d=>by
    have y:∀b,b∈B.map (·.1)→b∈O.map (·.1):=fun b d=>by
     rcases G with⟨-,rfl⟩|⟨-,rfl⟩;simp only[pA,mA];exact .inr (.inl d);simp only[a02,pA,mC,mA];exact .inr (.inr (.inl d))
    rcases M b d with g|g;exact .inl (y b g);exact .inr (by simp only[mA];exact .inr (.inl g))
   refine⟨A.block::s,?_,fun b d=>?_⟩;show a0w m false e.sh.cells (dec m e.sh) (some (.slice a' len (c-off)))=_;subst q;simp only[a0w,t,Ty.cells_sh];rw[if_pos ⟨.inr trivial,by omega⟩,f,show off+0=0+off from by omega,L];simp[hl0];rfl;rcases mC.1 d with rfl|d;rcases G with⟨g,-⟩|⟨-,rfl⟩;omega;exact .inl (by simp);exact u b d
theorem Rel.gone{B Γ N tm w σ}(h:Rel B Γ N tm w σ)(J:∀p d,Γ.pd≠some (n,p,d)){f:AV→AV}(hf:∀a v,a0e (a0a w σ.ov) σ.g Γ.rt (Shr B w σ) a v→a0e (a0a w σ.ov) σ.g (fun j=>bif j==n then none else Γ.rt j)
   (Shr B w ⟨σ.g,fun m=>if m=n then[]else σ.ow m,σ.ov⟩) (f a) v):
  Rel B ((Γ.mapv f).setRt n none) N tm w ⟨σ.g,fun m=>if m=n then[]else σ.ow m,σ.ov⟩:=by
 have k:∀m c,c∈(if m=n then[]else σ.ow m).map (·.1)→c∈(σ.ow m).map (·.1):=fun m c o=>by
  split at o
  simp at o;exact o
 have K:∀c,Shr B w σ c→Shr B w ⟨σ.g,fun m=>if m=n then[]else σ.ow m,σ.ov⟩ c:=fun c ⟨z,A,C⟩=>
  ⟨z,A,fun⟨m,l⟩=>C ⟨m,k m c l⟩⟩
 refine⟨fun m r L=>?_,fun m l=>?_,fun m=>?_,fun m m' E c o=>?_,fun m p hp=>?_,fun i hi=>(h.slots i hi).mapv hf,?_,h.size,h.frame,fun c ⟨m,l⟩=>h.mine c ⟨m,k m c l⟩,fun i b P G=>h.pins i b P fun e=>G (by simp only[AE.setRt,AE.mapv];rw[e];simp),h.still⟩;have l:m≠n:=by rintro rfl;simp[AE.setRt]at L
 have q:(m==n)=false:=by simpa using l
 have s:Γ.rt m=some r:=by simpa[AE.setRt,q,AE.mapv]using L
 obtain⟨x,R,z,A,C⟩:=(h.roots m r s).rd;refine⟨x,R,z,fun c o=>K c (A c o),?_⟩;show(r.bx=true∧∃b,σ.g m=.at b 0∧(if m=n then[]else σ.ow m)=(b,r.t.cells)::x)∨(r.bx=false∧(∃v,σ.g m=.one v)∧(∃e,r.t=.list true e)∧(if m=n then[]else σ.ow m)=x)
 rw[if_neg l];exact C;show(if m=n then[]else σ.ow m)=[]
 split;rfl;rename_i F;have q:(m==n)=false:=by simpa using F
 exact h.norm m (by simpa[AE.setRt,q,AE.mapv]using l);show((if m=n then[]else σ.ow m).map (·.1)).Nodup
 split
 simp
 exact h.nodup m;exact fun D=>h.disj m m' E c (k m c o) (k m' c D);have hp:p∈(if m=n then[]else σ.ow m):=hp
 split at hp
 simp at hp;exact h.live m p hp;refine h.pend.mono fun M p' O Q T S U u s I=>?_
 have H:M≠n:=fun e=>J p' O (by rw[u,e]);have y:(M==n)=false:=by simpa using H
 exact⟨Q,by simpa[AE.setRt,y,AE.mapv]using s,I⟩
theorem a0e.other{rt:Nat→Option Root}{a:AV}(h:a0e m g rt Sh a v)(hs:∀c,Sh c→Sh' c)(f:∀k,k≠n→rt' k=rt k)(e:∀k,k≠n→g' k=g k)(b:∀k q,(a=.ptr k q∨a=.sref k q∨∃o l,a=.swin k q o l)→k≠n):a0e m g' rt' Sh' a v:=
 h.frame (fun _ _ _=>rfl) hs fun k q r t s d j i=>⟨r,by rw[f k (b k q d)];exact j,by rw[e k (b k q d)];exact i,fun _ _ p=>p⟩
theorem Rel.shr_gone{B w}(c:Nat)(h:Shr B w σ c):Shr B w ⟨σ.g,fun m=>if m=n then[]else σ.ow m,σ.ov⟩ c:=
 ⟨h.1,h.2.1,fun⟨m,f⟩=>h.2.2 ⟨m,by
  have f:c∈(if m=n then[]else σ.ow m).map (·.1):=f
  split at f
  simp at f;exact f⟩⟩
theorem m0w{Γ:AE}(h:k≠n)(x:Option Root):(bif k==n then x else Γ.rt k)=Γ.rt k:=by
 have:(k==n)=false:=by simpa using h
 simp[this]
theorem Rel.drop{B Γ N tm w σ}(h:Rel B Γ N tm w σ){n:Nat}(b:∀p d,Γ.pd≠some (n,p,d)):
  Rel B ((Γ.mapv (AV.drop n)).setRt n none) N tm w ⟨σ.g,fun m=>if m=n then[]else σ.ow m,σ.ov⟩:=by
 refine h.gone b fun a v i=>?_
 by_cases hd:AV.drop n a=.dead
 rw[hd];trivial
 ·have f:AV.drop n a=a∧∀k q,(a=.ptr k q∨a=.sref k q∨∃o l,a=.swin k q o l)→k≠n:=by
   cases a<;>simp only[AV.drop]at hd⊢<;>try (refine⟨trivial,?_⟩;rintro k q (h|h|⟨o,l,h⟩)<;>cases h)
   all_goals
    split at hd
    exact absurd rfl hd;rename_i e;refine⟨by rw[if_neg e],?_⟩
    rintro k q (h|h|⟨o,l,h⟩)<;>cases h
    simpa using e
  rw[f.1];exact i.other (fun c j=>Rel.shr_gone c j) (fun k f=>m0w f _) (fun _ _=>rfl) f.2
theorem Rel.frzBox{B Γ N tm w σ}(h:Rel B Γ N tm w σ)(Q:Γ.rt n=some r)(X:r.bx=true)(h0:Γ.pd=none):
  ∃b,σ.g n=.at b 0∧Rel B ((Γ.mapv (AV.deeps [n] [])).setRt n (some ⟨true,r.t.shn,Ty.shnx r.t r.x⟩)) N tm w ⟨σ.g,fun m=>if m=n then[(b,r.t.cells)]else σ.ow m,σ.ov⟩:=by
 obtain⟨O',R,h1,h2,h6⟩:=(h.roots n r Q).rd;rcases h6 with⟨-,b,hg,P⟩|⟨g,-⟩
 ·refine⟨b,hg,?_⟩;have u:∀m c,c∈(if m=n then[(b,r.t.cells)]else σ.ow m).map (·.1)→c∈(σ.ow m).map (·.1):=fun m c D=>by
   split at D
   rename_i e;subst e;rw[P];simp only[a02,List.map_nil,a28]at D;subst D
   simp
   exact D
  have J:∀c,Shr B w σ c→Shr B w ⟨σ.g,fun m=>if m=n then[(b,r.t.cells)]else σ.ow m,σ.ov⟩ c:=fun c ⟨T,U,V⟩=>
   ⟨T,U,fun⟨m,d⟩=>V ⟨m,u m c d⟩⟩
  have I:∀k,k≠n→((Γ.mapv (AV.deeps [n] [])).setRt n (some ⟨true,r.t.shn,Ty.shnx r.t r.x⟩)).rt k=Γ.rt k:=fun k L=>m0w L _;have H:((Γ.mapv (AV.deeps [n] [])).setRt n (some ⟨true,r.t.shn,Ty.shnx r.t r.x⟩)).rt n=some ⟨true,r.t.shn,Ty.shnx r.t r.x⟩:=by simp[AE.setRt]
  obtain⟨R2,k1,k2⟩:=l0w _ h1;refine⟨fun m K C=>?_,fun m d=>?_,fun m=>?_,fun m m' Y c D=>?_,fun m p hp=>?_,fun i hi=>(h.slots i hi).mapv fun a v A=>?_,?_,h.size,h.frame,fun c ⟨m,d⟩=>h.mine c ⟨m,u m c d⟩,fun i z W O=>h.pins i z W fun e=>?_,h.still⟩
  by_cases d:m=n
  subst d;rw[H]at C;simp only[sj]at C;subst C;refine⟨[],R2,k1,fun c D=>?_,.inl ⟨rfl,b,hg,by simp[Ty.cells_shn]⟩⟩;rcases k2 c D with g|g;have E:c∈(σ.ow m).map (·.1):=by rw[P];simp only[a02];exact List.mem_cons_of_mem _ g
  have F:a0u σ c:=⟨m,E⟩;refine⟨h.lt F,.inr (h.mine c F),fun⟨m',s⟩=>?_⟩;have s:c∈(if m'=m then[(b,r.t.cells)]else σ.ow m').map (·.1):=s
  split at s
  simp only[a02,List.map_nil,a28]at s;have M:=h.nodup m;rw[P,a02]at M;exact(a12.1 M).1 (s▸g);rename_i Z;exact h.disj m' m Z c s E;exact J c (h2 c g);rw[I m d]at C;obtain⟨O2,R3,T,U,V⟩:=(h.roots m K C).rd;refine⟨O2,R3,T,fun c D=>J c (U c D),?_⟩;show(K.bx=true∧∃z,σ.g m=.at z 0∧(if m=n then[(b,r.t.cells)]else σ.ow m)=(z,K.t.cells)::O2)∨(K.bx=false∧(∃v,σ.g m=.one v)∧(∃e,K.t=.list true e)∧(if m=n then[(b,r.t.cells)]else σ.ow m)=O2)
  rw[if_neg d];exact V;show(if m=n then[(b,r.t.cells)]else σ.ow m)=[]
  have s:m≠n:=by rintro rfl;rw[H]at d;cases d
  rw[if_neg s];rw[I m s]at d;exact h.norm m d;show((if m=n then[(b,r.t.cells)]else σ.ow m).map (·.1)).Nodup
  split
  simp
  exact h.nodup m;exact fun E=>h.disj m m' Y c (u m c D) (u m' c E);have G:p∈(if m=n then[(b,r.t.cells)]else σ.ow m):=hp
  split at G
  rename_i e;subst e;refine h.live m p ?_
  rw[P];rcases mC.1 G with e|hp3;rw[e];exact a27;cases hp3;exact h.live m p G
  ·have f:∀z,(∀k q,(z=.ptr k q∨z=.sref k q∨∃o l,z=.swin k q o l)→k≠n)→a0e (a0a w σ.ov) σ.g Γ.rt (Shr B w σ) z v→
     a0e (a0a w σ.ov) σ.g (fun j=>bif j==n then some ⟨true,r.t.shn,Ty.shnx r.t r.x⟩else Γ.rt j) (Shr B w ⟨σ.g,fun m=>if m=n then[(b,r.t.cells)]else σ.ow m,σ.ov⟩) z v:=fun z L W=>
    W.other J (fun k L=>m0w L _) (fun _ _=>rfl) L
   have b0v:∀m:Nat,[n].contains m=(m==n):=fun m=>by simp only[List.contains,List.elem];cases (m==n)<;>rfl
   cases a with
   |dead=>trivial
   |val t x=>exact f _ (by rintro k q (h|h|⟨o,l,h⟩)<;>cases h) A
   |skp=>exact A
   |nils=>exact A
   |empt=>exact A
   |nilp=>exact A
   |glob g=>exact A
   |vptr t x=>exact f (.vptr t x) (by rintro k q (h|h|⟨o,l,h⟩)<;>cases h) A
   |ptr m q=>
    simp only[AV.deeps,b0v];split
    ·rename_i d;have d:m=n:=by simpa using d
     subst d;cases q with
     |nil=>
      obtain⟨K,t',z,o',p1,S,p3⟩:=A;rw[Q]at p1;simp only[sj]at p1;subst p1;simp only[loc,a0t,sj,pJ]at S;obtain⟨-,S⟩:=S;exact⟨⟨true,r.t.shn,Ty.shnx r.t r.x⟩,r.t.shn,z,o',H,by show some (r.t.shn,σ.g m)=_;rw[S],p3⟩
     |cons=>trivial
    rename_i d;exact f _ (by rintro k q' (h|h|⟨o,l,h⟩)<;>cases h;simpa using d) A
   |sref m q=>
    simp only[AV.deeps,b0v];split;cases q<;>exact True.intro;rename_i d;exact f _ (by rintro k q' (h|h|⟨o,l,h⟩)<;>cases h;simpa using d) A
   |swin m q o l=>
    simp only[AV.deeps,b0v];split;trivial;rename_i d;exact f _ (by rintro k q' (h|h|⟨o,l,h⟩)<;>cases h;simpa using d) A
  ·have hp:=h.pend;show f0t _ _ _ Γ.pd σ.ov;rw[h0]at hp⊢;cases hov:σ.ov with
   |none=>trivial
   |some y=>rw[hov]at hp;exact hp.elim
  by_cases hi:pinned+i=n
  rw[hi]at e;rw[e]at Q;cases Q;rw[I _ hi]at O;exact O e
 rw[X]at g;cases g
theorem Rel.frz{B Γ N tm w σ}(h:Rel B Γ N tm w σ){n:Nat}{e:Ty}{l:List e.den}(S:Γ.rt n=some ⟨false,.list true e,l⟩)(Q:∀p d,Γ.pd≠some (n,p,d)):
  Rel B ((Γ.mapv (AV.frz n e l)).setRt n none) N tm w ⟨σ.g,fun m=>if m=n then[]else σ.ow m,σ.ov⟩:=by
 obtain⟨W,R,G,Z,h3,T,h5,h6⟩:=h.sep S;rcases h6 with⟨g,-⟩|⟨-,⟨V,H⟩,-,ho⟩;cases g;refine h.gone Q fun a v u=>?_
 have C:∀c,c∈W.map (·.1)∨c∈R→Shr B w ⟨σ.g,fun m=>if m=n then[]else σ.ow m,σ.ov⟩ c:=by
  rintro c (y|y)
  have z:a0u σ c:=⟨n,T c y⟩;refine⟨h.lt z,.inr (h.mine c z),fun⟨m,i⟩=>?_⟩;have i:c∈(if m=n then[]else σ.ow m).map (·.1):=i
  split at i
  simp at i;rename_i P;exact h.disj m n P c i (T c y);exact Rel.shr_gone c (Z c y)
 have f:∀b,(∀k q,(b=.ptr k q∨b=.sref k q∨∃o l,b=.swin k q o l)→k≠n)→a0e (a0a w σ.ov) σ.g Γ.rt (Shr B w σ) b v→
   a0e (a0a w σ.ov) σ.g (fun j=>bif j==n then none else Γ.rt j) (Shr B w ⟨σ.g,fun m=>if m=n then[]else σ.ow m,σ.ov⟩) b v:=fun b O hb=>
  hb.other (fun c y=>Rel.shr_gone c y) (fun k O=>m0w O _) (fun _ _=>rfl) O
 cases a with
 |dead=>trivial
 |val t x=>exact f _ (by rintro k q (h|h|⟨o,l,h⟩)<;>cases h) u
 |skp=>exact u
 |nils=>exact u
 |empt=>exact u
 |nilp=>exact u
 |glob g=>exact u
 |vptr t x=>exact f (.vptr t x) (by rintro k q (h|h|⟨o,l,h⟩)<;>cases h) u
 |ptr m q=>
  simp only[AV.frz];split;trivial;rename_i i;exact f _ (by rintro k U (h|h|⟨o,l,h⟩)<;>cases h;simpa using i) u
 |sref m q=>
  simp only[AV.frz];split
  ·rename_i i;obtain rfl:m=n:=by simpa using i
   cases q with
   |cons=>trivial
   |nil=>
    obtain⟨r,Y,s,E,I,F⟩:=u;rw[S]at E;simp only[sj]at E;subst E;simp only[loc,a0t,sj,pJ]at I;obtain⟨-,rfl⟩:=I;rw[H]at G F;simp only[Src.rd,if_true,sj]at F;subst F;obtain⟨J,K,L⟩:=e0t _ G;refine⟨by simp[Ty.isAgg],fun _=>?_,J,?_,fun c y=>C c (L c y)⟩;rcases c0j G with⟨hv,-⟩|⟨A,nn,X,os,hv,-⟩<;>simp only[Src.rd,if_true,sj]at hv<;>rw[hv]<;>rfl
    have:b0v V=true:=by
     rcases c0j G with⟨hv,-⟩|⟨A,nn,X,os,hv,-⟩<;>simp only[Src.rd,if_true,sj]at hv<;>rw[hv]<;>rfl
    refine a0k _ K (fun j M=>?_) (fun _ _ _=>rfl);have D:j=0:=by simp only[Ty.cells]at M;omega
    subst D;cases V<;>simp[b0v]at this<;>simp[Value.cells,Src.rd]
  rename_i i;exact f _ (by rintro k U (h|h|⟨o,l,h⟩)<;>cases h;simpa using i) u
 |swin m q o k=>
  simp only[AV.frz];split
  ·rename_i i;obtain rfl:m=n:=by simpa using i
   cases q with
   |cons=>trivial
   |nil=>
    obtain⟨r,Y,s,a,l',c,E,I,F,k4,a',k5,k6,k7⟩:=u;rw[S]at E;simp only[sj]at E;subst E;simp only[loc,a0t,sj,pJ,Ty.list.injEq,true_and]at I;obtain⟨rfl,rfl⟩:=I;rw[H]at G F;simp only[Src.rd,if_true,sj]at F;subst F k5;obtain⟨J,K,L⟩:=w0l G k4 k6 k7;refine⟨by simp[Ty.isAgg],fun _=>rfl,J,?_,fun c y=>C c (L c y)⟩;refine a0k _ K (fun j M=>?_) (fun _ _ _=>rfl);have D:j=0:=by simp only[Ty.cells]at M;omega
    subst D;simp[Value.cells,Src.rd]
  rename_i i;exact f _ (by rintro k' U (h|h|⟨o,l,h⟩)<;>cases h;simpa using i) u
theorem Rel.room{B Γ N tm w σ}(h:Rel B Γ N tm w σ){n r p t b o}(j:Γ.rt n=some r)(i:loc (a0a w σ.ov) r.t (σ.g n) p=some (t,.at b o)):b0c w b (o+t.cells):=by
 obtain⟨l,R,d,q,s,u,x,e⟩:=h.sep j;rcases i0i p r.t _ d i with⟨so,f,a,m⟩|⟨k,f,a⟩;rcases e with⟨-,c,hs,y⟩|⟨-,⟨v,hs⟩,-⟩;rw[hs]at f;simp at f;obtain⟨rfl,rfl⟩:=f;exact(h.live n (c,r.t.cells) (by simp_all)).mono (by omega);simp_all;refine(h.live n (b,k) ?_).mono a
 grind
theorem b0c.cell{o:Nat}(h:b0c w b k)(d:o<k):(w.cell? ⟨b,o,none⟩).isSome=true∧w.frozen? ⟨b,o,none⟩=false:=by
 obtain⟨c,e,lo,hi,g,f,a⟩:=h
 grind[World.cell?,World.frozen?]
theorem g0a(w:World)(a:Addr)(v:Value)(b:Nat):(w.setCell a v).heap[b]?=if b=a.block then(w.heap[b]?).map (fun
   |.cells c elem frozen=>.cells (if a.spot.isSome then c else c.setIfInBounds a.off v) elem frozen
   |o=>o)else w.heap[b]?:=by
 simp[World.setCell,Array.getElem?_modify]
 grind
theorem b0c.setCell(h:b0c w b k)(a:Addr)(v:Value):b0c (w.setCell a v) b k:=by
 obtain⟨c,e,lo,hi,g,f,d⟩:=h;unfold b0c;rw[g0a]
 grind
theorem Rel.rename{B Γ N tm w σ}(h:Rel B Γ N tm w σ){r:Nat}{root:Root}(J:Γ.rt r=some root)(hd:Γ.rt d=none)(O:∀i b,d=pinned+i→B.pin i≠some b)(Z:∀p k,Γ.pd≠some (r,p,k)):
  Rel B (((Γ.mapv (AV.ren r d)).setRt r none).setRt d (some root)) N tm w ⟨fun m=>if m=d then σ.g r else σ.g m,fun m=>if m=d then σ.ow r else if m=r then[]else σ.ow m,σ.ov⟩:=by
 have h5:r≠d:=by grind
 have X:σ.ow d=[]:=h.norm d hd
 let f:Nat→b0k:=fun m=>if m=d then σ.ow r else if m=r then[]else σ.ow m
 have I:∀c,a0u ⟨fun m=>if m=d then σ.g r else σ.g m,f,σ.ov⟩ c↔a0u σ c:=by
  intro c;constructor
  rintro⟨m,u⟩
  have u:c∈(f m).map (·.1):=u;simp only[f]at u
  split at u
  exact⟨r,u⟩
  split at u
  simp_all;exact⟨m,u⟩
  rintro⟨m,u⟩
  by_cases e:m=r
  subst e;exact⟨d,by grind⟩
  by_cases e':m=d
  simp_all;refine⟨m,?_⟩
  grind
 have E:∀c,Shr B w σ c↔Shr B w ⟨fun m=>if m=d then σ.g r else σ.g m,f,σ.ov⟩ c:=fun c=>by unfold Shr;grind
 have D:∀m,(((Γ.mapv (AV.ren r d)).setRt r none).setRt d (some root)).rt m=if m=d then some root else if m=r then none else Γ.rt m:=by
  intro m;simp only[AE.setRt,AE.mapv]
  grind
 refine⟨fun m rm u=>?_,fun m u=>?_,fun m=>?_,fun m m' H c y j=>?_,fun m p hp=>?_,fun i hi=>?_,?_,h.size,h.frame,fun c y=>h.mine c ((I c).1 y),fun i b S A=>?_,h.still⟩;rw[D]at u
 by_cases e:m=d
 subst e;simp at u;subst u;obtain⟨K,R,U,M,V⟩:=(h.roots r root J).rd;exact⟨K,R,by simp_all,fun c y=>(E c).1 (M c y),by simp_all⟩;rw[if_neg e]at u
 by_cases e':m=r
 simp_all;rw[if_neg e']at u;obtain⟨K,R,U,M,V⟩:=(h.roots m rm u).rd;exact⟨K,R,by simp_all,fun c y=>(E c).1 (M c y),by simp_all⟩;show(if m=d then σ.ow r else if m=r then[]else σ.ow m)=[]
 rw[D]at u
 by_cases e:m=d
 simp_all;rw[if_neg e]at u⊢
 by_cases e':m=r
 grind
 rw[if_neg e']at u⊢;exact h.norm m u;show((f m).map (·.1)).Nodup;simp[f];split;exact h.nodup r;split
 simp
 exact h.nodup m;have y:c∈(f m).map (·.1):=y;have j:c∈(f m').map (·.1):=j;simp only[f]at y j
 by_cases e:m=d
 subst e;rw[if_pos rfl]at y;rw[if_neg (Ne.symm H)]at j
 split at j
 simp_all;rename_i L;exact h.disj r m' (Ne.symm L) c y j;rw[if_neg e]at y
 split at y
 simp_all;rename_i L
 split at j
 exact h.disj m r L c y j
 split at j
 simp_all;exact h.disj m m' H c y j;have hp:p∈f m:=hp;simp[f]at hp
 split at hp
 exact h.live r p hp
 split at hp
 simp_all;exact h.live m p hp
 ·refine(h.slots i hi).mapv fun a v C=>?_
  have key:∀k q (b:AV),(b=.ptr k q∨b=.sref k q∨∃o l,b=.swin k q o l)→True:=fun _ _ _ _=>trivial;have other:(∀k q,(a=.ptr k q∨a=.sref k q∨∃o l,a=.swin k q o l)→k≠r)→a0e (a0a w σ.ov) (fun m=>if m=d then σ.g r else σ.g m) (((Γ.mapv (AV.ren r d)).setRt r none).setRt d (some root)).rt
    (Shr B w ⟨fun m=>if m=d then σ.g r else σ.g m,f,σ.ov⟩) a v:=fun A=>
   C.frame (fun _ _ _=>rfl) (fun c y=>(E c).1 y) fun k q P t s y hk hl=>by
    grind
  cases a with
  |ptr k q=>
   simp only[AV.ren];split;rename_i e;obtain rfl:k=r:=by simp_all
   obtain⟨P,t,b,o,z,Q,F⟩:=C;rw[J]at z;simp at z;subst z;exact⟨root,t,b,o,by simp_all,by simp_all,F⟩
   grind
  |sref k q=>
   simp only[AV.ren];split;rename_i e;obtain rfl:k=r:=by simp_all
   obtain⟨P,e,s,z,Q,F⟩:=C;rw[J]at z;simp at z;subst z;exact⟨root,e,s,by simp_all,by simp_all,F⟩
   grind
  |swin k q o l=>
   simp only[AV.ren];split;rename_i e;obtain rfl:k=r:=by simp_all
   obtain⟨P,e,s,a,l',c,z,Q,F,W⟩:=C;rw[J]at z;simp at z;subst z;exact⟨root,e,s,a,l',c,by simp_all,by simp_all,F,W⟩
   grind
  |dead=>trivial
  |skp=>exact C
  |nils=>exact C
  |empt=>exact C
  |nilp=>exact C
  |glob g=>exact C
  |val t x=>exact other (by simp)
  |vptr t x=>exact other (by simp)
 refine h.pend.mono fun n p k r' e b o T h0 Y=>?_
 grind
 rw[D]at A;have G:pinned+i≠d:=fun e=>O i b e.symm S;rw[if_neg G]at A;show(if pinned+i=d then σ.g r else σ.g (pinned+i))=_
 rw[if_neg G]
 by_cases e':pinned+i=r
 simp_all;rw[if_neg e']at A;exact h.pins i b S A
theorem Rel.ext{B Γ N tm w σ}(h:Rel B Γ N tm w σ)(g:∀c,c<w.heap.size→w'.heap[c]?=w.heap[c]?)(k:w.heap.size≤w'.heap.size)(hio:c0o w'=c0o w:=by first|rfl|assumption):Rel B Γ N tm w' σ:=by
 refine h.mem (fun c j f=>b0q _ (g c ?_) j) (fun n p hp=>?_) k (fun b a l=>?_);rcases f with f|f;exact h.lt f;exact f.1;obtain⟨c,e,lo,hi,m,d,i⟩:=h.live n p hp;exact⟨c,e,lo,hi,by grind,d,i⟩;rw[g b (a11 a h.size)];exact h.frame b a l
theorem Rel.add{B Γ N tm w σ}(h:Rel B Γ N tm w σ){n:Nat}(hn:Γ.rt n=none)(h5:n<pinned){w':World}(f:∀c,c<w.heap.size→w'.heap[c]?=w.heap[c]?)(P:w.heap.size≤w'.heap.size)
  {r:Root}{s:Src}{O:b0k}(U:∀c∈O.map (·.1),w.heap.size≤c)(h4:(O.map (·.1)).Nodup)(h3:∀p∈O,b0c w' p.1 p.2)(Z:RootOk (a0a w' σ.ov) (Shr B w σ) r s O)(hio:c0o w'=c0o w:=by first|rfl|assumption):
  Rel B (Γ.setRt n (some r)) N tm w' ⟨fun m=>if m=n then s else σ.g m,fun m=>if m=n then O else σ.ow m,σ.ov⟩:=by
 have J:=h.ext f P
 let d:Nat→b0k:=fun m=>if m=n then O else σ.ow m
 have A:∀c,a0u ⟨fun m=>if m=n then s else σ.g m,d,σ.ov⟩ c→a0u σ c∨c∈O.map (·.1):=by
  rintro c ⟨m,z⟩
  have z:c∈(d m).map (·.1):=z;simp only[d]at z
  split at z
  simp_all;exact .inl ⟨m,z⟩
 have M:∀c,Shr B w σ c→Shr B w' ⟨fun m=>if m=n then s else σ.g m,d,σ.ov⟩ c:=fun c ⟨G,I,g3⟩=>⟨a11 G P,I,fun g4=>by
  grind⟩
 have F:∀c j,Shr B w σ c→a0a w' σ.ov c j=a0a w σ.ov c j:=fun c j l=>b0q _ (f c l.1) j;have E:∀m,(Γ.setRt n (some r)).rt m=if m=n then some r else Γ.rt m:=by
  simp_all[AE.setRt]
 refine⟨fun m T z=>?_,fun m z=>?_,fun m=>?_,fun m m' L c l y=>?_,fun m p hp=>?_,fun i hi=>?_,?_,J.size,J.frame,fun c l=>?_,fun i b H D=>?_,J.still⟩
 ·rw[E]at z
  by_cases e:m=n
  subst e;simp at z;subst z;obtain⟨V,R,G,I,g3⟩:=Z.rd;exact⟨V,R,by simp_all,fun c l=>M c (I c l),by simp_all⟩
  ·rw[if_neg e]at z;obtain⟨V,R,G,I,g3⟩:=(J.roots m T z).rd;obtain⟨W,R1,k1,k2,-⟩:=(h.roots m T z).rd;refine⟨V,R,by simp_all,fun c l=>?_,by simp_all⟩
   have:=I c l
   refine⟨this.1,this.2.1,fun g4=>?_⟩;rcases A c g4 with g|g;exact this.2.2 g
   ·
    have k3:dec (a0a w' σ.ov) T.t ((σ.g m).rd (a0a w' σ.ov))=some (T.x,W,R1):=by
     obtain⟨O2,R2,l1,l2,l3,Q,S,l6⟩:=h.sep z;rw[k1]at l1;simp at l1;obtain⟨rfl,rfl⟩:=l1;refine a0k T.t k1 (fun j _=>?_) (fun b j H=>?_)
     ·cases es:σ.g m with
      |one v=>rfl
      |_=>rename_i b o;exact b0q _ (f b (h.lt ⟨m,S _ _ es⟩)) _
     rcases H with H|H;exact b0q _ (f b (h.lt ⟨m,Q b H⟩)) j;simp_all
    rw[k3]at G;simp at G;obtain⟨rfl,rfl⟩:=G;exact absurd (U c g) (by have:=(k2 c l).1;omega)
 show(if m=n then O else σ.ow m)=[]
 rw[E]at z
 by_cases e:m=n
 simp_all;rw[if_neg e]at z⊢;exact h.norm m z;show((d m).map (·.1)).Nodup;simp[d];split;omega;exact h.nodup m;have l:c∈(d m).map (·.1):=l;have y:c∈(d m').map (·.1):=y;simp only[d]at l y
 split at l
 rename_i e;rw[if_neg (fun e'=>L (e.trans e'.symm))]at y;exact absurd (U c l) (by have:=h.lt ⟨m',y⟩;omega)
 split at y
 exact absurd (U c y) (by have:=h.lt ⟨m,l⟩;omega);exact h.disj m m' L c l y;have hp:p∈d m:=hp;simp[d]at hp
 split at hp
 simp_all;exact J.live m p hp
 ·refine(h.slots i hi).frame fun a v ha=>ha.frame F M fun k q rk t s' _ hk hl=>?_
  have X:k≠n:=by grind
  obtain⟨W,R1,l1,l2,l3,Q,S,l6⟩:=h.sep hk;have C:∀j,(σ.g k).rd (a0a w' σ.ov) j=(σ.g k).rd (a0a w σ.ov) j:=fun j=>by
   cases es:σ.g k with
   |one v=>rfl
   |_=>rename_i b o;exact b0q _ (f b (h.lt ⟨k,S _ _ es⟩)) _
  refine⟨rk,by simp_all,?_,fun u _ hu=>?_⟩;show loc (a0a w' σ.ov) rk.t (if k=n then s else σ.g k) q=_
  rw[if_neg X];exact c0s q rk.t _ l1 hl (fun j _=>C j) (fun c j l=>b0q _ (f c (h.lt ⟨k,Q c l⟩)) j)
  ·cases s' with
   |one v=>exact hu
   |_=>
    rename_i b o;rw[←hu];exact b0q _ (f b (h.lt ⟨k,h.place hk hl⟩)) _
 ·refine h.pend.mono fun m p k r' e b o h2 h1 h0=>?_
  have Y:m≠n:=by grind
  obtain⟨W,R1,l1,l2,l3,Q,S,l6⟩:=h.sep h1;refine⟨r',by simp_all,?_⟩;show loc (a0a w' σ.ov) r'.t (if m=n then s else σ.g m) p=_
  rw[if_neg Y];refine c0s p r'.t _ l1 h0 (fun j _=>?_) (fun c j l=>b0q _ (f c (h.lt ⟨m,Q c l⟩)) j);cases es:σ.g m with
  |one v=>rfl
  |_=>rename_i b o;exact b0q _ (f b (h.lt ⟨m,S _ _ es⟩)) _
 rcases A c l with g|g;exact h.mine c g;exact .inr (a06 h.size (U c g));rw[E]at D;have K:pinned+i≠n:=by omega
 rw[if_neg K]at D;show(if pinned+i=n then s else σ.g (pinned+i))=_
 rw[if_neg K];exact h.pins i b H D
theorem Rel.done{B Γ N tm w σ}(h:Rel B Γ N tm w σ){n p d b o v}(F:Γ.pd=some (n,p,d))(l:σ.ov=some (b,o,v)):
  Rel B { Γ with pd:=none } N tm (w.setCell ⟨b,o,none⟩ v) ⟨σ.g,σ.ow,none⟩:=by
 have hp:=h.pend;rw[F,l]at hp;obtain⟨r,e,G,y⟩:=hp;rw[←l]at y;have x:=h.room G y;have z:a0a (w.setCell ⟨b,o,none⟩ v) none=a0a w σ.ov:=by
  funext c j;rw[l];simp[a0a]
  by_cases e:c=b∧j=o
  obtain⟨rfl,rfl⟩:=e
  have:=(x.cell (o:=j) (by simp[Ty.cells])).1
  grind[a23,World.cell?_setCell_same]
  rw[if_neg e,World.cell?_setCell_other]
  grind
 have A:a0u σ b:=⟨n,h.place G y⟩;have f:∀c,Shr B w σ c→Shr B (w.setCell ⟨b,o,none⟩ v) ⟨σ.g,σ.ow,none⟩ c:=fun c ⟨I,C,D⟩=>⟨by simp_all,C,D⟩;refine⟨fun m Q M=>?_,h.norm,h.nodup,h.disj,fun m p hp=>(h.live m p hp).setCell _ _,fun i hi=>?_,trivial,by simpa using h.size,fun c E J=>?_,h.mine,h.pins,h.still⟩;obtain⟨H,R,I,C,D⟩:=(h.roots m Q M).rd;refine⟨H,R,?_,fun c E=>f c (C c E),D⟩;simp_all;show h0a (a0a (w.setCell ⟨b,o,none⟩ v) none) σ.g Γ.rt _ (Γ.sl i) (tm i);rw[z];exact(h.slots i hi).frame fun a u K=>K.frame (fun _ _ _=>rfl) f fun k q P t s _ L y=>⟨P,L,y,fun _ _ O=>O⟩
 ·rw[g0a,if_neg];exact h.frame c E J
  ·rintro rfl
   rcases h.mine c A with g|g
   all_goals grind
theorem Rel.topG{B Γ N tm w σ}(h:Rel B Γ N tm w σ)(hr:Γ.rt n=some ⟨false,.list true e,l⟩)(g0:n<pinned)(h5:Γ.pd=none){G:Nat→Bool}(hG:G n=false){v':Value}{l':List e.den}{O2 R2}(h7:dec (a0a w' σ.ov) (.list true e) ((Src.one v').rd (a0a w' σ.ov))=some (l',O2,R2))(A:∀c j,c<w.heap.size→c∉(σ.ow n).map (·.1)→(∀m,G m=true→c∉(σ.ow m).map (·.1))→a0a w' σ.ov c j=a0a w σ.ov c j)(O:∀c∈O2.map (·.1),(c∈(σ.ow n).map (·.1)∨∃m,G m=true∧c∈(σ.ow m).map (·.1))∨w.heap.size≤c)(h9:(O2.map (·.1)).Nodup)(h3:∀p∈O2,b0c w' p.1 p.2)(J:∀c k,b0c w c k→a0u σ c→b0c w' c k)(V:w.heap.size≤w'.heap.size)(h1:∀b,b<B.size→¬ B.F b→w'.heap[b]?=B.hp b)(h0:∀c∈R2,c<w'.heap.size∧(B.S c∨B.F c∨B.size≤c)∧¬ a0u σ c∧c∉O2.map (·.1)){f:AV→AV}(hf:∀a,f a=.dead∨(f a=a∧∀k q,(a=.ptr k q∨a=.sref k q∨∃o l,a=.swin k q o l)→(k=n→a=.ptr n [])∧G k=false))(hio:c0o w'=c0o w:=by first|rfl|assumption):
  Rel B ⟨(Γ.mapv f).sl,fun m=>if m=n then some ⟨false,.list true e,l'⟩else bif G m then none else Γ.rt m,none⟩ N tm w' ⟨fun m=>if m=n then .one v' else σ.g m,fun m=>if m=n then O2 else bif G m then[]else σ.ow m,σ.ov⟩:=by
 let d:Nat→b0k:=fun m=>if m=n then O2 else bif G m then[]else σ.ow m
 have R:∀c,a0u ⟨fun m=>if m=n then .one v' else σ.g m,d,σ.ov⟩ c→a0u σ c∨c∈O2.map (·.1):=by
  rintro c ⟨m,r⟩
  have r:c∈(d m).map (·.1):=r;simp only[d]at r
  split at r
  simp_all
  ·cases x:G m with
   |true=>simp_all
   |false=>rw[x]at r;exact .inl ⟨m,r⟩
 have P:∀c,c∈O2.map (·.1)→a0u σ c∨w.heap.size≤c:=fun c u=>(O c u).imp (fun g=>g.elim (fun g=>⟨n,g⟩) fun⟨m,_,g⟩=>⟨m,g⟩) id;have T:∀c,Shr B w σ c→Shr B w' ⟨fun m=>if m=n then .one v' else σ.g m,d,σ.ov⟩ c:=fun c ⟨E,Z,g3⟩=>⟨a11 E V,Z,fun g4=>by
  grind⟩
 have U:∀c j,Shr B w σ c→a0a w' σ.ov c j=a0a w σ.ov c j:=fun c j u=>A c j u.1 (fun g=>u.2.2 ⟨n,g⟩) (fun m _ g=>u.2.2 ⟨m,g⟩);have z:∀m,m≠n→G m=false→∀c j,c∈(σ.ow m).map (·.1)→a0a w' σ.ov c j=a0a w σ.ov c j:=fun m r W c j u=>A c j (h.lt ⟨m,u⟩) (h.disj m n r c u)
  (fun k C=>h.disj m k (fun e=>by simp_all) c u)
 have g6:∀m,(if m=n then some (⟨false,.list true e,l'⟩:Root)else bif G m then none else Γ.rt m)=if m=n then some ⟨false,.list true e,l'⟩else bif G m then none else Γ.rt m:=fun _=>rfl
 have X:∀k,k≠n→G k=false→∀q L tq s,Γ.rt k=some L→loc (a0a w σ.ov) L.t (σ.g k) q=some (tq,s)→loc (a0a w' σ.ov) L.t (σ.g k) q=some (tq,s)∧s.rd (a0a w' σ.ov) 0=s.rd (a0a w σ.ov) 0:=by
  intro k C W q L tq s K hl;obtain⟨O1,R1,l1,l2,l3,l4,l5,l6⟩:=h.sep K;have I:∀j,(σ.g k).rd (a0a w' σ.ov) j=(σ.g k).rd (a0a w σ.ov) j:=fun j=>by
   cases es:σ.g k with
   |one v=>rfl
   |_=>rename_i b o;exact z k C W b _ (l5 _ _ es)
  refine⟨c0s q L.t _ l1 hl (fun j _=>I j) (fun c j u=>z k C W c j (l4 c u)),?_⟩;cases s with
  |one v=>rfl
  |_=>rename_i b o;exact z k C W b _ (h.place K hl)
 obtain⟨O0,R0,m1,m2,m3,m4,m5,m6⟩:=h.sep hr;have h2:∃v0,σ.g n=.one v0:=by
  simp_all
 obtain⟨v0,h6⟩:=h2;refine⟨fun m Y r=>?_,fun m r=>?_,fun m=>?_,fun m m' h4 c u H=>?_,fun m p hp=>?_,fun i hi=>?_,?_,a06 h.size V,h1,fun c u=>?_,fun i b hb D=>?_,hio.trans h.still⟩
 ·have r:(if m=n then some (⟨false,.list true e,l'⟩:Root)else bif G m then none else Γ.rt m)=some Y:=r
  by_cases e1:m=n
  subst e1;simp at r;subst r;refine⟨O2,R2,?_,fun c u=>?_,.inr ⟨rfl,⟨v',by simp⟩,⟨e,rfl⟩,by simp⟩⟩;show dec (a0a w' σ.ov) (.list true e) ((if m=m then Src.one v' else σ.g m).rd (a0a w' σ.ov))=_
  rw[if_pos rfl];exact h7;obtain⟨E,Z,g3,g4⟩:=h0 c u;refine⟨E,Z,fun g5=>?_⟩
  grind
  ·rw[if_neg e1]at r;cases x:G m with
   |true=>simp_all
   |false=>
    rw[x]at r;have r:Γ.rt m=some Y:=r;obtain⟨O1,R1,l1,l2,l3,l4,l5,l6⟩:=h.sep r;refine⟨O1,R1,?_,fun c u=>T c (l2 c u),by grind⟩;show dec (a0a w' σ.ov) Y.t ((if m=n then Src.one v' else σ.g m).rd (a0a w' σ.ov))=_
    rw[if_neg e1];refine a0k Y.t l1 (fun j _=>?_) (fun c j u=>?_)
    ·cases es:σ.g m with
     |one v=>rfl
     |_=>rename_i b o;exact z m e1 x b _ (l5 _ _ es)
    grind
 ·have r:(if m=n then some (⟨false,.list true e,l'⟩:Root)else bif G m then none else Γ.rt m)=none:=r
  show(if m=n then O2 else bif G m then[]else σ.ow m)=[]
  by_cases e1:m=n
  simp_all
  ·rw[if_neg e1]at r⊢;cases x:G m with
   |true=>rfl
   |false=>rw[x]at r;exact h.norm m r
 ·show((d m).map (·.1)).Nodup;simp[d];split;omega
  ·cases G m with
   |true=>simp
   |false=>exact h.nodup m
 have u:c∈(d m).map (·.1):=u;have H:c∈(d m').map (·.1):=H;have old:∀k,k≠n→c∈(d k).map (·.1)→G k=false∧c∈(σ.ow k).map (·.1):=fun k C g=>by
  grind
 have key:∀k,k≠n→c∈(d n).map (·.1)→c∈(d k).map (·.1)→False:=fun k C g M=>by
  simp only[d,if_true]at g;obtain⟨h8,M⟩:=old k C M;rcases O c g with(E|⟨m,x,E⟩)|E;exact h.disj n k (Ne.symm C) c E M;exact h.disj m k (fun e=>by grind) c E M
  have:=h.lt ⟨k,M⟩;omega
 by_cases e1:m=n
 grind
 by_cases e2:m'=n
 grind
 exact h.disj m m' h4 c (old m e1 u).2 (old m' e2 H).2
 ·have hp:p∈d m:=hp;simp[d]at hp
  split at hp
  simp_all
  ·cases x:G m with
   |true=>simp_all
   |false=>rw[x]at hp;exact J _ _ (h.live m p hp) ⟨m,a16 hp⟩
 refine(h.slots i hi).mapv fun a v ha=>?_
 rcases hf a with g|⟨g,C⟩;rw[g];trivial;rw[g]
 by_cases hz:a=.ptr n []
 subst hz;obtain⟨r',t,b,o,k1,k2,-⟩:=ha;rw[hr]at k1;simp at k1;subst k1;rw[h6]at k2;simp[loc,a0t]at k2;refine ha.frame U T fun k q L t s u K hl=>?_
 grind
 ·have:=h.pend
  rw[h5]at this;show f0t _ _ _ none σ.ov;cases hov:σ.ov with
  |none=>trivial
  |some y=>rw[hov]at this;exact this.elim
 rcases R c u with g|g;exact h.mine c g;rcases P c g with g|g;exact h.mine c g;exact .inr (a06 h.size g);have D:(if pinned+i=n then some (⟨false,.list true e,l'⟩:Root)else bif G (pinned+i)then none else Γ.rt (pinned+i))≠none:=D
 have Q:pinned+i≠n:=by omega
 rw[if_neg Q]at D;show(if pinned+i=n then Src.one v' else σ.g (pinned+i))=_
 rw[if_neg Q];refine h.pins i b hb fun e'=>D ?_
 simp_all
theorem Rel.top{B Γ N tm w σ}(h:Rel B Γ N tm w σ)(I:Γ.rt n=some ⟨false,.list true e,l⟩)(A:n<pinned)(s:Γ.pd=none){v':Value}{l':List e.den}{O2 R2}(D:dec (a0a w' σ.ov) (.list true e) ((Src.one v').rd (a0a w' σ.ov))=some (l',O2,R2))(r:∀c j,c<w.heap.size→c∉(σ.ow n).map (·.1)→a0a w' σ.ov c j=a0a w σ.ov c j)(v:∀c∈O2.map (·.1),c∈(σ.ow n).map (·.1)∨w.heap.size≤c)(z:(O2.map (·.1)).Nodup)(i:∀p∈O2,b0c w' p.1 p.2)(d:∀c k,b0c w c k→a0u σ c→b0c w' c k)(C:w.heap.size≤w'.heap.size)(y:∀b,b<B.size→¬ B.F b→w'.heap[b]?=B.hp b)(x:∀c∈R2,c<w'.heap.size∧(B.S c∨B.F c∨B.size≤c)∧¬ a0u σ c∧c∉O2.map (·.1)){f:AV→AV}(hf:∀a,f a=.dead∨(f a=a∧∀k q,(a=.ptr k q∨a=.sref k q∨∃o l,a=.swin k q o l)→k=n→a=.ptr n []))(hio:c0o w'=c0o w:=by first|rfl|assumption):
  Rel B ((Γ.mapv f).setRt n (some ⟨false,.list true e,l'⟩)) N tm w' ⟨fun m=>if m=n then .one v' else σ.g m,fun m=>if m=n then O2 else σ.ow m,σ.ov⟩:=by
 have:=h.topG (G:=fun _=>false) I A s rfl D (fun c j t u _=>r c j t u) (fun c E=>(v c E).imp .inl id) z i d C y x (f:=f) (fun a=>(hf a).imp id fun⟨t,u⟩=>⟨t,fun k q H=>⟨u k q H,rfl⟩⟩) hio
 have J:((Γ.mapv f).setRt n (some ⟨false,.list true e,l'⟩))=⟨(Γ.mapv f).sl,fun m=>if m=n then some ⟨false,.list true e,l'⟩else bif (fun _=>false) m then none else Γ.rt m,none⟩:=by
  simp only[AE.setRt,AE.mapv,s,cF]
  grind
 simp_all
theorem VOk.one{t:Ty}{x:t.den}(d:t.isAgg=false)(hs:b0v v=true){R}(h:dec m t ((Src.one v).rd m)=some (x,[],R))(k:∀c∈R,Sh c)(a:t.cells=1):VOk m Sh t x v:=by
 refine⟨fun g=>(by simp_all),fun _=>hs,R,a0k t h (fun j b=>?_) (fun _ _ _=>rfl),k⟩;have f:j=0:=by omega
 subst f;cases v<;>first|rfl|cases hs
theorem VOk.rd{m:Mem}{Sh:Nat→Prop}{t:Ty}{x:t.den}{v:Value}(h:VOk m Sh t x v)(b:t.isAgg=false)(d:t.cells=1):∃R,dec m t ((Src.one v).rd m)=some (x,[],R)∧∀c∈R,Sh c:=by
 obtain⟨-,f,R,k,a⟩:=h;refine⟨R,a0k t k (fun j e=>?_) (fun _ _ _=>rfl),a⟩;have g:j=0:=by omega
 subst g
 have:=f b
 cases v<;>first|rfl|cases this
theorem a0e.int{m g rt Sh k}{n:Int}{v:Value}(h:a0e m g rt Sh (.val (.int k) n) v):v=.int k n:=by
 obtain⟨R,f,-⟩:=VOk.rd (t:=.int k) h rfl rfl;simp[dec,Src.rd]at f
 grind
theorem a0e.bool{m g rt Sh}{b:Bool}(h:a0e m g rt Sh (.val .bool b) v):v=.bool b:=by
 obtain⟨R,f,-⟩:=VOk.rd (t:=.bool) h rfl rfl;simp[dec,Src.rd]at f
 grind
theorem a0e.str{m g rt Sh}{l:List Int}{v:Value}(h:a0e m g rt Sh (.val .str l) v):∃s:ByteArray,v=.string s∧l=s.data.toList.map fun b=>(b.toNat:Int):=by
 obtain⟨R,f,-⟩:=VOk.rd (t:=.str) h rfl rfl;simp[dec,Src.rd]at f
 grind
theorem a0e.mk_int{m g rt Sh k}(n:Int):a0e m g rt Sh (.val (.int k) n) (.int k n):=
 VOk.one (t:=.int k) (R:=[]) rfl rfl (by simp[dec,Src.rd]) (by simp) rfl
theorem a0e.mk_bool{m g rt Sh}(b:Bool):a0e m g rt Sh (.val .bool b) (.bool b):=
 VOk.one (t:=.bool) (R:=[]) rfl rfl (by rfl) (by simp) rfl
theorem a0e.mk_str{m g rt Sh}(s:ByteArray):a0e m g rt Sh (.val .str (s.data.toList.map fun b=>(b.toNat:Int):List Int)) (.string s):=
 VOk.one (t:=.str) (R:=[]) rfl rfl (by rfl) (by simp) rfl
def h0o(Γ:AE)(a:AV):Prop:=∃k q,(a=.ptr k q∨a=.sref k q∨∃o l,a=.swin k q o l)∧Γ.rt k=none
structure Ev (B:Base) (w:World) (Γ:AE) (σ:Gh) (Γ':AE) (σ':Gh):Prop where
 ov:σ'.ov=σ.ov
 pd:Γ'.pd=Γ.pd
 shr:∀c,Shr B w σ c→Shr B w σ' c
 av:∀a v,a0e (a0a w σ.ov) σ.g Γ.rt (Shr B w σ) a v→a0e (a0a w σ.ov) σ'.g Γ'.rt (Shr B w σ') a v∨h0o Γ' a
 dg:∀a,h0o Γ a→h0o Γ' a
theorem Ev.refl{B w Γ σ}:Ev B w Γ σ Γ σ:=⟨rfl,rfl,fun _ h=>h,fun _ _ h=>.inl h,fun _ h=>h⟩
theorem Ev.trans{B w Γ σ Γ' σ' Γ'' σ''}(h:Ev B w Γ σ Γ' σ')(f:Ev B w Γ' σ' Γ'' σ''):Ev B w Γ σ Γ'' σ'':=
 ⟨f.ov.trans h.ov,f.pd.trans h.pd,fun c b=>f.shr c (h.shr c b),fun a v k=>by
  rcases h.av a v k with g|g
  have:=f.av a v (by rw[h.ov];exact g)
  rw[h.ov]at this;exact this;exact .inr (f.dg a g),fun a k=>f.dg a (h.dg a k)⟩
theorem Ev.live{B w Γ σ Γ' σ'}(h:Ev B w Γ σ Γ' σ'){a v}(f:a0e (a0a w σ.ov) σ.g Γ.rt (Shr B w σ) a v∨h0o Γ a):a0e (a0a w σ'.ov) σ'.g Γ'.rt (Shr B w σ') a v∨h0o Γ' a:=by
 rw[h.ov];rcases f with g|g;exact h.av a v g;exact .inr (h.dg a g)
theorem Ev.vok{B w Γ σ Γ' σ'}(h:Ev B w Γ σ Γ' σ'){t x v}(hv:VOk (a0a w σ.ov) (Shr B w σ) t x v):VOk (a0a w σ'.ov) (Shr B w σ') t x v:=by
 rw[h.ov];exact hv.frame (fun _ _ _=>rfl) h.shr
theorem Ev.gone{B w Γ σ}{f:AV→AV}:Ev B w Γ σ ((Γ.mapv f).setRt n none) ⟨σ.g,fun m=>if m=n then[]else σ.ow m,σ.ov⟩:=by
 refine⟨rfl,rfl,fun c h=>Rel.shr_gone c h,fun a v i=>?_,fun a ⟨k,q,b,d⟩=>⟨k,q,b,?_⟩⟩
 by_cases hd:∃k q,(a=.ptr k q∨a=.sref k q∨∃o l,a=.swin k q o l)∧k=n
 obtain⟨k,q,b,rfl⟩:=hd;exact .inr ⟨k,q,b,by simp[AE.setRt]⟩;exact .inl (i.other (n:=n) (fun c h=>Rel.shr_gone c h) (fun k j=>by simp only[AE.setRt,AE.mapv];exact m0w j _) (fun _ _=>rfl) (fun k q h e=>hd ⟨k,q,h,e⟩));simp only[AE.setRt,AE.mapv]
 by_cases e:k=n
 subst e;simp;rw[m0w e];exact d
theorem a0q{Γ:AE}{n:Nat}{r:Root}(h:Γ.look n=some r):Γ.pd=none∧Γ.rt n=some r:=by
 unfold AE.look at h
 split at h
 rename_i hp;exact⟨hp,h⟩;cases h
theorem Rel.slice{B Γ N tm w σ}(h:Rel B Γ N tm w σ){n p v r}(G:a0e (a0a w σ.ov) σ.g Γ.rt (Shr B w σ) (.sref n p) v)(u:Γ.rt n=some r)(H:a0p r.t r.x p=⟨.list true e,l⟩):
  ∃s f k,loc (a0a w σ.ov) r.t (σ.g n) p=some (.list true e,s)∧s.rd (a0a w σ.ov) 0=some v∧dec (a0a w σ.ov) (.list true e) (s.rd (a0a w σ.ov))=some (l,f,k)∧
   dec (a0a w σ.ov) (.list true e) ((Src.one v).rd (a0a w σ.ov))=some (l,f,k)∧(∀c∈k,Shr B w σ c)∧(∀c∈f.map (·.1),c∈(σ.ow n).map (·.1)):=by
 obtain⟨S,C,s,b,o,q⟩:=G;rw[u]at b;simp only[sj]at b;subst b;obtain⟨O,R1,J,K,P,L,Q,R⟩:=h.sep u;obtain⟨y,f,k,A,B',M,z,m,a,D,E⟩:=b0f p r.t _ J o;rw[H]at a;have F:e=C:=by have:=congrArg Sigma.fst a;simpa using this
 subst F;have a:=eq_of_heq (Sigma.mk.inj a).2;subst a;refine⟨s,f,k,o,q,m,a0k _ m (fun j I=>?_) (fun _ _ _=>rfl),fun c d=>K c (by rw[E];simp[d]),fun c d=>L c (by rw[D];exact r0y d)⟩;have i:j=0:=by simp only[Ty.cells]at I;omega
 subst i;rw[q];rfl
theorem Rel.window{B Γ N tm w σ}(h:Rel B Γ N tm w σ){n p v r off len}(E:a0e (a0a w σ.ov) σ.g Γ.rt (Shr B w σ) (.swin n p off len) v)(o:Γ.rt n=some r)(F:a0p r.t r.x p=⟨.list true e,l⟩):
  ∃s k b a f c,loc (a0a w σ.ov) r.t (σ.g n) p=some (.list true e,s)∧s.rd (a0a w σ.ov) 0=some (.slice a f c)∧dec (a0a w σ.ov) (.list true e) ((Src.one (.slice a f c)).rd (a0a w σ.ov))=some (l,k,b)∧
   (∀c∈b,Shr B w σ c)∧(∀c∈k.map (·.1),c∈(σ.ow n).map (·.1))∧off+len≤f∧∃a',v=.slice a' len (c-off)∧(∀A,a'=some A→c=off∨A.spot=none)∧(c=off∨a'=a.map fun A=>A.add (off*e.cells)):=by
 obtain⟨G,q,s,a,f,c,d,j,m,C,D⟩:=E;have hs:a0e (a0a w σ.ov) σ.g Γ.rt (Shr B w σ) (.sref n p) (.slice a f c):=⟨G,q,s,d,j,m⟩;obtain⟨s',k,b,i,H,-,u,y,z⟩:=h.slice hs o F;rw[o]at d;simp only[sj]at d;subst d;rw[j]at i;simp only[sj,pJ,Ty.list.injEq,true_and]at i;obtain⟨rfl,rfl⟩:=i;exact⟨s,k,b,a,f,c,j,m,u,y,z,C,D⟩
theorem r0o{x:List e.den}{O R}(h:dec m (.list true e) ((Src.one v).rd m)=some (x,O,R)):b0v v=true:=by
 rcases c0j h with⟨hv,-⟩|⟨A,n,c,os,hv,-⟩<;>simp only[Src.rd,if_true,sj]at hv<;>rw[hv]<;>rfl
theorem VOk.empty{m Sh e}{a:Option Addr}:VOk m Sh (.list false e) ([]:List e.den) (.slice a 0 0):=by
 refine VOk.one (t:=.list false e) (R:=[]) rfl rfl ?_ (by simp) rfl;show a0w m false e.cells (dec m e) (some (.slice a 0 0))=_;cases a with
 |none=>simp[a0w];rfl
 |some A=>simp[a0w,a0d];rfl
theorem VOk.nil_nl{m Sh e}:VOk m Sh (.nl e) ([]:List e.den) (.slice none 0 0):=
 VOk.one (t:=.nl e) (R:=[]) rfl rfl rfl (by simp) rfl
theorem VOk.valAV{m:Mem}{g:Nat→Src}{rt:Nat→Option Root}{Sh:Nat→Prop}{v:Value}:∀{t:Ty}{x:t.den},VOk m Sh t x v→a0e m g rt Sh (valAV t x) v
 |.nl e,x,h=>by
  obtain⟨-,f,R,k,-⟩:=h;have f:=f rfl;simp only[dec]at k
  split at k
  rename_i hv;have a:v=.slice none 0 0:=by
   cases v<;>first|(cases f;done)|(simp[Value.cells]at hv;done)|(simpa[Value.cells]using hv)
  subst a;exact rfl;cases k
 |.int _,_,h|.bool,_,h|.str,_,h|.unit,_,h|.list _ _,_,h|.pair _ _,_,h|.arr _ _,_,h|.fn _,_,h|.hd,_,h=>h
theorem VOk.mk_fn(f:Nat):VOk m Sh (.fn f) () (.func (.func f) #[] #[]):=
 VOk.one (t:=.fn f) (R:=[]) rfl rfl (by simp[dec,Src.rd]) (by simp) rfl
theorem VOk.fn_eq{f:Nat}{x:Unit}(h:VOk m Sh (.fn f) x v):v=.func (.func f) #[] #[]:=by
 obtain⟨-,g,R,k,-⟩:=h;have g:=g rfl;have hv:=(q0m k).1;cases v<;>first|(cases g;done)|(simp[Value.cells]at hv;done)|(simpa[Value.cells]using hv)
theorem VOk.mk_hd(b:Nat):VOk m Sh .hd (b:Int) (.map (some b)):=
 VOk.one (t:=.hd) (R:=[]) rfl rfl (by simp[dec,Src.rd]) (by simp) rfl
theorem VOk.hd_eq{x:Int}(h:VOk m Sh .hd x v):∃b:Nat,v=.map (some b)∧x=(b:Int):=by
 obtain⟨-,g,R,f,-⟩:=h;have g:=g rfl;obtain⟨b,hv,k,-⟩:=q0n f;refine⟨b,?_,k⟩;cases v<;>first|(cases g;done)|(simp[Value.cells]at hv;done)|(simpa[Value.cells]using hv)
theorem Rel.sref_vok{B Γ N tm w σ}(h:Rel B Γ N tm w σ){n p v r}(b:a0e (a0a w σ.ov) σ.g Γ.rt (Shr B w σ) (.sref n p) v)(j:Γ.rt n=some r)(i:a0p r.t r.x p=⟨.list true e,l⟩):
  VOk (a0a w σ.ov) (fun c=>Shr B w σ c∨c∈(σ.ow n).map (·.1)) (.list false e.sh) (Ty.shx (.list false e) l) v:=by
 obtain⟨s,q,u,y,z,A,f,k,a⟩:=h.slice b j i;obtain⟨R1,m,o⟩:=e0t _ f;exact VOk.one (t:=.list false e.sh) rfl (r0o f) m (fun c d=>(o c d).elim (fun g=>.inr (a c g)) (fun g=>.inl (k c g))) rfl
theorem Rel.swin_vok{B Γ N tm w σ}(h:Rel B Γ N tm w σ){n p v r off len}(m:a0e (a0a w σ.ov) σ.g Γ.rt (Shr B w σ) (.swin n p off len) v)(u:Γ.rt n=some r)(q:a0p r.t r.x p=⟨.list true e,l⟩):
  VOk (a0a w σ.ov) (fun c=>Shr B w σ c∨c∈(σ.ow n).map (·.1)) (.list false e.sh) (Ty.shx (.list false e) ((l.drop off).take len)) v:=by
 obtain⟨s,A,C,a,G,c,E,F,f,k,b,d,D,rfl,i,j⟩:=h.window m u q;obtain⟨R1,y,z⟩:=w0l f d i j;exact VOk.one (t:=.list false e.sh) rfl rfl y (fun c o=>(z c o).elim (fun g=>.inr (b c g)) (fun g=>.inl (k c g))) rfl
theorem Ty.le_agg:∀(a b:Ty),a.le b=true→a.isAgg=b.isAgg
 |.nl a,.list o b,_|.nl a,.nl b,_|.pair a b,.pair a' b',_=>rfl
 |.nl a,.int _,h|.nl a,.bool,h|.nl a,.str,h|.nl a,.unit,h|.nl a,.pair _ _,h|.nl a,.arr _ _,h|.nl a,.fn _,h|.nl a,.hd,h=>by simp[Ty.le]at h
 |.pair a b,.int _,h|.pair a b,.bool,h|.pair a b,.str,h|.pair a b,.unit,h|.pair a b,.arr _ _,h|.pair a b,.list _ _,h|.pair a b,.nl _,h|.pair a b,.fn _,h|.pair a b,.hd,h=>by simp[Ty.le]at h
 |.int _,b,h|.bool,b,h|.str,b,h|.unit,b,h|.list _ _,b,h|.arr _ _,b,h|.fn _,b,h|.hd,b,h=>by
  simp only[Ty.le,dT]at h;rw[h]
theorem m0i{t' t:Ty}{x:t'.den}{y:t.den}{rd:Nat→Option Value}{R:List Nat}(g:castTo t' t x=some y)(h:dec m t' rd=some (x,[],R)):dec m t rd=some (y,[],R):=by
 unfold castTo at g
 split at g
 rename_i e;subst e;cases g;exact h
 split at g
 rename_i e;cases g;exact u0g _ _ e h;cases g
theorem s0i{t' t:Ty}{x:t'.den}{y:t.den}(h:castTo t' t x=some y):t'.isAgg=t.isAgg∧t'.cells=t.cells:=by
 unfold castTo at h
 split at h
 rename_i e;subst e;exact⟨rfl,rfl⟩
 split at h
 rename_i e;exact⟨Ty.le_agg _ _ e,Ty.le_cells _ _ e⟩;cases h
theorem VOk.castTo{m:Mem}{Sh:Nat→Prop}{t' t:Ty}{x:t'.den}{y:t.den}{v:Value}(k:castTo t' t x=some y)(h:VOk m Sh t' x v):VOk m Sh t y v:=by
 obtain⟨b,c,R,d,e⟩:=h;obtain⟨f,a⟩:=s0i k;exact⟨fun g=>by rw[←a];exact b (f.trans g),fun g=>c (f.trans g),R,m0i k d,e⟩
theorem Rel.view{ρ:Type}{B Γ N tm w σ}(h:Rel B Γ N tm w σ){t a v}{K:t.den→Rs ρ}{z:ρ}(d:a0e (a0a w σ.ov) σ.g Γ.rt (Shr B w σ) a v∨h0o Γ a)(f:Γ.view t a K=some z):
  ∃x,K x=some z∧VOk (a0a w σ.ov) (fun c=>Shr B w σ c∨(a0u σ c∧Γ.pd=none)) t x v:=by
 have s:∀b,(∀k q,(b=.ptr k q∨b=.sref k q∨∃o l,b=.swin k q o l)→False)→¬ h0o Γ b:=fun b F ⟨k,q,E,_⟩=>F k q E;cases a with
 |glob g=>
  simp only[AE.view]at f;cases f
 |val t' x=>
  simp only[AE.view]at f
  split at f
  rename_i y G;rcases d with d|d;exact⟨y,f,VOk.frame (VOk.castTo G d) (fun _ _ _=>rfl) (fun c i=>.inl i)⟩;exact absurd d (s _ (by rintro k q (g|g|⟨o,l,g⟩)<;>cases g));cases f
 |nils=>
  rcases d with rfl|d;cases t<;>simp only[AE.view]at f<;>try cases f
  rename_i o e;cases o;exact⟨[],f,VOk.empty⟩;cases f;exact⟨_,f,VOk.nil_nl⟩;exact absurd d (s _ (by rintro k q (g|g|⟨o,l,g⟩)<;>cases g))
 |empt=>
  cases t<;>simp only[AE.view]at f<;>try cases f
  rename_i o e;cases o;rcases d with⟨A,rfl⟩|d;exact⟨[],f,VOk.empty⟩;exact absurd d (s _ (by rintro k q (g|g|⟨o,l,g⟩)<;>cases g));cases f
 |sref n p=>
  simp only[AE.view]at f
  split at f
  rename_i r j;obtain⟨m,j⟩:=a0q j
  split at f
  rename_i e l C
  split at f
  rename_i D;subst D;rcases d with d|⟨k,q,i,u⟩;exact⟨_,f,(h.sref_vok d j C).frame (fun _ _ _=>rfl) (fun c i=>i.imp id fun g=>⟨⟨n,g⟩,m⟩)⟩;rcases i with g|g|⟨o,l,g⟩<;>cases g;rw[j]at u;cases u;cases f;cases f;cases f
 |swin n p o k=>
  simp only[AE.view]at f
  split at f
  rename_i r j;obtain⟨m,j⟩:=a0q j
  split at f
  rename_i e l C
  split at f
  rename_i D;subst D;rcases d with d|⟨k,q,i,u⟩;exact⟨_,f,(h.swin_vok d j C).frame (fun _ _ _=>rfl) (fun c i=>i.imp id fun g=>⟨⟨n,g⟩,m⟩)⟩;rcases i with g|g|⟨o,l,g⟩<;>cases g;rw[j]at u;cases u;cases f;cases f;cases f
 |dead|skp|nilp|ptr|vptr=>cases f
theorem Rel.viewR{B Γ N tm w σ}(h:Rel B Γ N tm w σ){t a v}{K:t.den→Rs ρ}(d:a0e (a0a w σ.ov) σ.g Γ.rt (Shr B w σ) a v∨h0o Γ a)(f:Γ.view t a K=some z):
  ∃x,K x=some z∧VOk (a0a w σ.ov) (fun c=>Shr B w σ c∨∃n,n∈a.viewed∧c∈(σ.ow n).map (·.1)) t x v:=by
 have m:∀b,(∀k q,(b=.ptr k q∨b=.sref k q∨∃o l,b=.swin k q o l)→False)→¬ h0o Γ b:=fun b F ⟨k,q,E,_⟩=>F k q E;cases a with
 |glob g=>
  simp only[AE.view]at f;cases f
 |val t' x=>
  simp only[AE.view]at f
  split at f
  rename_i y G;rcases d with d|d;exact⟨y,f,VOk.frame (VOk.castTo G d) (fun _ _ _=>rfl) (fun c i=>.inl i)⟩;exact absurd d (m _ (by rintro k q (g|g|⟨o,l,g⟩)<;>cases g));cases f
 |nils=>
  rcases d with rfl|d;cases t<;>simp only[AE.view]at f<;>try cases f
  rename_i o e;cases o;exact⟨[],f,VOk.empty⟩;cases f;exact⟨_,f,VOk.nil_nl⟩;exact absurd d (m _ (by rintro k q (g|g|⟨o,l,g⟩)<;>cases g))
 |empt=>
  cases t<;>simp only[AE.view]at f<;>try cases f
  rename_i o e;cases o;rcases d with⟨A,rfl⟩|d;exact⟨[],f,VOk.empty⟩;exact absurd d (m _ (by rintro k q (g|g|⟨o,l,g⟩)<;>cases g));cases f
 |sref n p=>
  simp only[AE.view]at f
  split at f
  rename_i r j;obtain⟨C,j⟩:=a0q j
  split at f
  rename_i e l u
  split at f
  rename_i D;subst D;rcases d with d|⟨k,q,i,s⟩;exact⟨_,f,(h.sref_vok d j u).frame (fun _ _ _=>rfl) (fun c i=>i.imp id fun g=>⟨n,by simp[AV.viewed],g⟩)⟩;rcases i with g|g|⟨o,l,g⟩<;>cases g;rw[j]at s;cases s;cases f;cases f;cases f
 |swin n p o k=>
  simp only[AE.view]at f
  split at f
  rename_i r j;obtain⟨C,j⟩:=a0q j
  split at f
  rename_i e l u
  split at f
  rename_i D;subst D;rcases d with d|⟨k,q,i,s⟩;exact⟨_,f,(h.swin_vok d j u).frame (fun _ _ _=>rfl) (fun c i=>i.imp id fun g=>⟨n,by simp[AV.viewed],g⟩)⟩;rcases i with g|g|⟨o,l,g⟩<;>cases g;rw[j]at s;cases s;cases f;cases f;cases f
 |dead|skp|nilp|ptr|vptr=>cases f
def d0h(V:Nat→Prop)(Γ:AE)(σ:Gh)(Γ':AE)(σ':Gh):Prop:=
 (∀n r,r.bx=true∨¬ V n→Γ.rt n=some r→Γ'.rt n=some r∧σ'.g n=σ.g n∧σ'.ow n=σ.ow n)∧∀(j:Nat) t y,Γ.get j=.val t y→Γ'.get j=.val t y
theorem d0h.refl{V Γ σ}:d0h V Γ σ Γ σ:=⟨fun _ _ _ h=>⟨h,rfl,rfl⟩,fun _ _ _ h=>h⟩
theorem d0h.trans{V Γ σ Γ' σ' Γ'' σ''}(h:d0h V Γ σ Γ' σ')(g:d0h V Γ' σ' Γ'' σ''):d0h V Γ σ Γ'' σ'':=⟨fun n r f l=>by
 obtain⟨a,b,c⟩:=h.1 n r f l;obtain⟨k,d,e⟩:=g.1 n r f a;exact⟨k,d.trans b,e.trans c⟩,fun j t y i=>g.2 j t y (h.2 j t y i)⟩
theorem d0h.mono{V V':Nat→Prop}{Γ σ Γ' σ'}(h:d0h V Γ σ Γ' σ')(hv:∀n,V n→V' n):d0h V' Γ σ Γ' σ':=⟨fun n r k=>h.1 n r (k.imp id fun g f=>g (hv n f)),h.2⟩
theorem d0h.gone{Γ:AE}(i:Γ.rt n=some r)(d:r.bx=false)(f:AV→AV)(ov)(hf:∀t y,f (.val t y)=.val t y):
  d0h (·∈[n]) Γ σ ((Γ.mapv f).setRt n none) ⟨σ.g,fun m=>if m=n then[]else σ.ow m,ov⟩:=by
 refine⟨fun m l h k=>?_,fun j t y a=>?_⟩;have b:m≠n:=by
  rintro rfl
  rw[i]at k;simp only[sj]at k;subst k;rcases h with h|h;rw[d]at h;cases h;simp at h
 have e:(m==n)=false:=by simpa using b
 exact⟨by simp[AE.setRt,AE.mapv,e,k],rfl,by simp[b]⟩
 ·simp only[AE.get,AE.setRt,AE.mapv]at a⊢;cases hs:Γ.sl j with
  |one v=>rw[hs]at a;simp only[]at a;subst a;simp[SV.mapv,hf]
  |cmp c vs=>rw[hs]at a;cases a
theorem Rel.asVB{B Γ N tm w σ}(h:Rel B Γ N tm w σ){q t a v}{K:t.den→AE→Rs ρ}(d:a0e (a0a w σ.ov) σ.g Γ.rt (Shr B w σ) a v∨h0o Γ a)(f:Γ.asV q t a K=some z):
  ∃x Γ' σ',K x Γ'=some z∧Rel B Γ' N tm w σ'∧VOk (a0a w σ'.ov) (Shr B w σ') t x v∧Ev B w Γ σ Γ' σ'∧(q=true→Γ'=Γ∧σ'=σ)∧d0h (·∈a.viewed) Γ σ Γ' σ':=by
 have D:∀b,(∀k q,(b=.ptr k q∨b=.sref k q∨∃o l,b=.swin k q o l)→False)→¬ h0o Γ b:=fun b I ⟨k,q,H,_⟩=>I k q H;cases a with
 |glob g=>
  simp only[AE.asV]at f;cases f
 |val t' x=>
  simp only[AE.asV]at f
  split at f
  rename_i y J;rcases d with d|d;exact⟨y,Γ,σ,f,h,VOk.castTo J d,Ev.refl,fun _=>⟨rfl,rfl⟩,d0h.refl⟩;exact absurd d (D _ (by rintro k q (g|g|⟨o,l,g⟩)<;>cases g));cases f
 |nils=>
  rcases d with rfl|d;cases t<;>simp only[AE.asV]at f<;>try cases f
  rename_i o e;cases o;exact⟨[],Γ,σ,f,h,VOk.empty,Ev.refl,fun _=>⟨rfl,rfl⟩,d0h.refl⟩;cases f;exact⟨_,Γ,σ,f,h,VOk.nil_nl,Ev.refl,fun _=>⟨rfl,rfl⟩,d0h.refl⟩;exact absurd d (D _ (by rintro k q (g|g|⟨o,l,g⟩)<;>cases g))
 |empt=>
  cases t<;>simp only[AE.asV]at f<;>try cases f
  rename_i o e;cases o;rcases d with⟨A,rfl⟩|d;exact⟨[],Γ,σ,f,h,VOk.empty,Ev.refl,fun _=>⟨rfl,rfl⟩,d0h.refl⟩;exact absurd d (D _ (by rintro k q (g|g|⟨o,l,g⟩)<;>cases g));cases f
 |sref n p=>
  cases p with
  |cons=>simp only[AE.asV]at f;cases f
  |nil=>
   simp only[AE.asV]at f
   split at f
   cases f;rename_i F
   split at f
   rename_i e l j;obtain⟨C,j⟩:=a0q j
   split at f
   rename_i G;subst G;rcases d with d|⟨k,q,s,E⟩;have hv:=h.sref_vok d j rfl;refine⟨_,_,_,f,h.frz j (by simp[C]),hv.frame (fun _ _ _=>rfl) (fun c s=>?_),Ev.gone,fun e=>absurd e F,d0h.gone j rfl _ _ (fun _ _=>rfl)⟩;rcases s with g|g;exact Rel.shr_gone c g;have i:a0u σ c:=⟨n,g⟩;refine⟨h.lt i,.inr (h.mine c i),fun⟨m,r⟩=>?_⟩;have r:c∈(if m=n then[]else σ.ow m).map (·.1):=r
   split at r
   simp at r;rename_i u;exact h.disj m n u c r g;rcases s with g|g|⟨o,l,g⟩<;>cases g;rw[j]at E;cases E;cases f;cases f
 |swin n p o k=>
  cases p with
  |cons=>simp only[AE.asV]at f;cases f
  |nil=>
   simp only[AE.asV]at f
   split at f
   cases f;rename_i F
   split at f
   rename_i e l j;obtain⟨C,j⟩:=a0q j
   split at f
   rename_i G;subst G;rcases d with d|⟨k,q,s,E⟩;have hv:=h.swin_vok d j rfl;refine⟨_,_,_,f,h.frz j (by simp[C]),hv.frame (fun _ _ _=>rfl) (fun c s=>?_),Ev.gone,fun e=>absurd e F,d0h.gone j rfl _ _ (fun _ _=>rfl)⟩;rcases s with g|g;exact Rel.shr_gone c g;have i:a0u σ c:=⟨n,g⟩;refine⟨h.lt i,.inr (h.mine c i),fun⟨m,r⟩=>?_⟩;have r:c∈(if m=n then[]else σ.ow m).map (·.1):=r
   split at r
   simp at r;rename_i u;exact h.disj m n u c r g;rcases s with g|g|⟨o,l,g⟩<;>cases g;rw[j]at E;cases E;cases f;cases f
 |dead|skp|nilp|ptr|vptr=>cases f
theorem Rel.asV{ρ:Type}{B Γ N tm w σ}(h:Rel B Γ N tm w σ){q t a v}{K:t.den→AE→Rs ρ}{z:ρ}(i:a0e (a0a w σ.ov) σ.g Γ.rt (Shr B w σ) a v∨h0o Γ a)(e:Γ.asV q t a K=some z):
  ∃x Γ' σ',K x Γ'=some z∧Rel B Γ' N tm w σ'∧VOk (a0a w σ'.ov) (Shr B w σ') t x v∧Ev B w Γ σ Γ' σ'∧(q=true→Γ'=Γ∧σ'=σ):=by
 obtain⟨x,Γ',σ',f,k,b,c,d,-⟩:=h.asVB i e;exact⟨x,Γ',σ',f,k,b,c,d⟩
def c0q:Ty→(Nat→Option Value)→Bool
 |.int k,rd=>match rd 0 with
  |some (.int k' n)=>decide (k'=k)&&n==0
  |_=>false
 |.bool,rd=>match rd 0 with
  |some (.bool b)=>!b
  |_=>false
 |.str,rd=>match rd 0 with
  |some (.string s)=>s.size==0
  |_=>false
 |.unit,_=>true
 |.pair a b,rd=>c0q a rd&&c0q b (fun j=>rd (a.cells+j))
 |.arr n t,rd=>(a24 n).all fun i=>c0q t fun j=>rd (i*t.cells+j)
 |.list _ _,rd=>match rd 0 with
  |some (.slice none 0 0)=>true
  |_=>false
 |.nl _,rd=>match rd 0 with
  |some (.slice none 0 0)=>true
  |_=>false
 |.fn _,_=>false
 |.hd,_=>false
theorem i0p{α:Type}{f:Nat→Option (α×b0k×List Nat)}{x:α}:∀(n i:Nat),(∀j,i≤j→j<i+n→f j=some (x,[],[]))→a0d f n i=some (a15 n x,[],[])
 |0,_,_=>rfl
 |n+1,i,h=>by
  simp only[a0d,h i (a14 _) (by omega),i0p n (i+1) (fun j g k=>h j (by omega) (by omega))];rfl
theorem e0c{m:Mem}:∀(t:Ty){rd:Nat→Option Value},c0q t rd=true→dec m t rd=some (t.dflt,[],[])
 |.int k,rd,h=>by
  simp only[c0q]at h
  split at h
  rename_i k' n hv;simp only[bA,dT,beq_iff_eq]at h;simp only[dec,hv,h.1,if_true,h.2];rfl;cases h
 |.bool,rd,h=>by
  simp only[c0q]at h
  split at h
  rename_i b hv;simp only[Bool.not_eq_true']at h;simp only[dec,hv,h];rfl;cases h
 |.str,rd,h=>by
  simp only[c0q]at h
  split at h
  rename_i s hv;have g:s.data.toList=[]:=by
   have:s.data.size=0:=by simpa using h
   exact a09.1 (by simpa using this)
  simp only[dec,hv,g];rfl;cases h
 |.unit,rd,h=>rfl
 |.pair a b,rd,h=>by
  simp only[c0q,bA]at h;exact e0m (e0c a h.1) (e0c b h.2)
 |.arr n t,rd,h=>by
  simp only[c0q,lA,List.mem_range]at h;exact i0p n 0 fun j _ f=>e0c t (h j (by omega))
 |.list o t,rd,h=>by
  simp only[c0q]at h
  split at h
  rename_i hv;show a0w m o t.cells (dec m t) (rd 0)=_;rw[hv];rfl;cases h
 |.nl t,rd,h=>by
  simp only[c0q]at h
  split at h
  rename_i hv;simp only[dec,hv];rfl;cases h
 |.fn _,rd,h=>by cases h
 |.hd,rd,h=>by cases h
def e0s(P:Program)(τ:Ty)(t:TypeId):Bool:=
 match P.info? t with
 |some i=>i.size==τ.cells&&decide (i.bytes≤32768)&&(match i.zero with
  |some z=>z.cells.size==τ.cells&&c0q τ (fun j=>z.cells[j]?)&&(match z with|.agg _=>τ.isAgg|_=>!τ.isAgg)
  |none=>false)
 |none=>false
def a0i(P:Program):Ty→TypeId ⊕ (List Field×Nat)→Bool
 |.int k,.inl t=>e0s P (.int k) t&&(match P.underlying t with|some (.int k')=>decide (k'=k)|_=>false)
 |.bool,.inl t=>e0s P .bool t&&(match P.underlying t with|some .bool=>true|_=>false)
 |.str,.inl t=>e0s P .str t&&(match P.underlying t with|some .string=>true|_=>false)
 |.list o e,.inl t=>e0s P (.list o e) t&&(match P.underlying t with|some (.slice t')=>a0i P e (.inl t')&&decide (0<e.cells)|_=>false)
 |.nl e,.inl t=>e0s P (.nl e) t&&(match P.underlying t with|some (.slice t')=>a0i P e (.inl t')&&decide (0<e.cells)|_=>false)
 |.arr n e,.inl t=>e0s P (.arr n e) t&&(match P.underlying t with|some (.array n' t')=>n'==n&&a0i P e (.inl t')&&decide (0<e.cells)|_=>false)
 |.pair a b,.inl t=>e0s P (.pair a b) t&&(match P.underlying t with
  |some (.struct fs)=>(match fs.toList with
   |f::r=>f.offset==0&&a0i P a (.inl f.type)&&decide (0<a.cells)&&a0i P b (.inr (r,a.cells))
   | []=>false)
  |_=>false)
 |.unit,.inl t=>e0s P .unit t&&(match P.underlying t with|some (.struct fs)=>fs.isEmpty|_=>false)
 |.pair a b,.inr (f::r,off)=>f.offset==off&&a0i P a (.inl f.type)&&decide (0<a.cells)&&a0i P b (.inr (r,off+a.cells))
 |.unit,.inr ([],_)=>true
 |.fn _,.inl _=>false
 |.hd,.inl _=>false
 |_,.inr _=>false
theorem a0s(h:a0i P τ (.inl t)=true):e0s P τ t=true:=by
 cases τ<;>simp only[a0i,bA]at h<;>first|exact h.1|cases h
structure Info (P:Program) (τ:Ty) (t:TypeId) where
 i:TypeInfo
 z:Value
 info:P.info? t=some i
 size:i.size=τ.cells
 bytes:i.bytes≤32768
 zero:i.zero=some z
 zsize:z.cells.size=τ.cells
 zok:c0q τ (fun j=>z.cells[j]?)=true
 zagg:∀cs,z=.agg cs→τ.isAgg=true
 znot:(∀cs,z≠.agg cs)→τ.isAgg=false
theorem a0m(h:e0s P τ t=true):Nonempty (Info P τ t):=by
 unfold e0s at h
 split at h
 rename_i i hi;simp only[bA,beq_iff_eq,dT]at h;obtain⟨⟨f,k⟩,h3⟩:=h
 split at h3
 rename_i z c;simp only[bA,beq_iff_eq]at h3;obtain⟨⟨a,b⟩,h6⟩:=h3;refine⟨⟨i,z,hi,f,k,c,a,b,fun cs e=>?_,fun g=>?_⟩⟩;subst e;exact h6;cases z<;>first|(simpa using h6)|exact absurd rfl (g _)
 cases h3;cases h
theorem e0z(h:a0i P τ (.inl t)=true)(w:World):(isAgg t).run P w=.ok τ.isAgg w:=by
 cases τ<;>simp only[a0i,bA]at h<;>first|(cases h;done)|(obtain⟨-,h⟩:=h;split at h<;>first|(rename_i g;simp[isAgg,run_underlying g,Ty.isAgg];done)|cases h)
theorem Info.sizeOf{P:Program}{τ:Ty}{t:TypeId}(I:Info P τ t)(w:World):(sizeOf t).run P w=.ok τ.cells w:=by
 simp[Go.sizeOf,typeInfo,I.info,I.size]
theorem Info.typeInfo{P:Program}{τ:Ty}{t:TypeId}(I:Info P τ t)(w:World):(typeInfo t).run P w=.ok I.i w:=by
 simp[Go.typeInfo,I.info]
theorem Info.zeroValue{P:Program}{τ:Ty}{t:TypeId}(I:Info P τ t)(w:World):(zeroValue t).run P w=.ok I.z w:=by
 simp[Go.zeroValue,Go.typeInfo,I.info,I.zero]
theorem e0b{m:Mem}:∀(t:Ty){rd:Nat→Option Value}{x o r},dec m t rd=some (x,o,r)→∀j,j<t.cells→∃v,rd j=some v∧b0v v=true
 |.int k,rd,x,o,r,h,j,hj=>by
  have c:j=0:=by simp only[Ty.cells]at hj;omega
  subst c;simp only[dec]at h
  split at h
  rename_i hv;exact⟨_,hv,rfl⟩;cases h
 |.bool,rd,x,o,r,h,j,hj=>by
  have c:j=0:=by simp only[Ty.cells]at hj;omega
  subst c;simp only[dec]at h
  split at h
  rename_i hv;exact⟨_,hv,rfl⟩;cases h
 |.str,rd,x,o,r,h,j,hj=>by
  have c:j=0:=by simp only[Ty.cells]at hj;omega
  subst c;simp only[dec]at h
  split at h
  rename_i hv;exact⟨_,hv,rfl⟩;cases h
 |.unit,rd,x,o,r,h,j,hj=>by simp[Ty.cells]at hj
 |.fn f,rd,x,o,r,h,j,hj=>by
  have c:j=0:=by simp only[Ty.cells]at hj;omega
  subst c;exact⟨_,(q0m h).1,rfl⟩
 |.hd,rd,x,o,r,h,j,hj=>by
  have c:j=0:=by simp only[Ty.cells]at hj;omega
  subst c;obtain⟨b,l,-⟩:=q0n h;exact⟨_,l,rfl⟩
 |.pair a b,rd,x,o,r,h,j,hj=>by
  obtain⟨z,o1,w,C,o2,r2,d,e,-⟩:=c0h h
  by_cases hja:j<a.cells
  exact e0b a d j hja
  have:=e0b b e (j-a.cells) (by simp only[Ty.cells]at hj;omega)
  rwa [show a.cells+(j-a.cells)=j from by omega]at this
 |.arr n t,rd,x,o,r,h,j,hj=>by
  have h:a0d (fun i=>dec m t fun j=>rd (i*t.cells+j)) n 0=some (x,o,r):=h;simp only[Ty.cells]at hj;have p:0<t.cells:=by
   rcases Nat.eq_zero_or_pos t.cells with g|g;rw[g]at hj;omega;exact g
  have hi:j / t.cells<n:=Nat.div_lt_of_lt_mul (by rw[Nat.mul_comm];exact hj);obtain⟨y,s,u,A,B,q,B',hf,-⟩:=b0a n 0 (j / t.cells) h hi
  have:=e0b t hf (j%t.cells) (Nat.mod_lt _ p)
  rwa [show(0+j / t.cells)*t.cells+j%t.cells=j from by rw[a08];exact Nat.div_add_mod' j t.cells]at this
 |.list ow t,rd,x,o,r,h,j,hj=>by
  have c:j=0:=by simp only[Ty.cells]at hj;omega
  subst c;have h:a0w m ow t.cells (dec m t) (rd 0)=some (x,o,r):=h;unfold a0w at h
  split at h
  rename_i hv;exact⟨_,hv,rfl⟩;rename_i hv;exact⟨_,hv,rfl⟩;cases h
 |.nl t,rd,x,o,r,h,j,hj=>by
  have c:j=0:=by simp only[Ty.cells]at hj;omega
  subst c;exact⟨_,(n0n h).1,rfl⟩
theorem h0z{t:Ty}(h:t.isAgg=false):t.cells=1:=by
 cases t<;>first|rfl|cases h
theorem j0m{o:Nat}{x R}(n:a0i P τ (.inl t)=true)(h:dec m τ ((Src.at b o).rd m)=some (x,[],R))(r:∀j,j<τ.cells→w.cell? ⟨b,o+j,none⟩=m b (o+j))(q:∀c∈R,Sh c):
  ∃v,(Instr.loadAt t (.pointer (some ⟨b,o,none⟩))).run P w=.ok v w∧VOk m Sh τ x v:=by
 obtain⟨I⟩:=a0m (a0s n);have f:=e0b τ h;cases hagg:τ.isAgg with
 |false=>
  have s:=h0z hagg;obtain⟨v,hv,hs⟩:=f 0 (by omega);have y:w.cell? ⟨b,o,none⟩=some v:=by have:=r 0 (by omega);simp only[Nat.add_zero]at this;rw[this];exact hv
  refine⟨v,?_,VOk.one hagg hs (a0k τ h (fun j k=>?_) (fun _ _ _=>rfl)) q s⟩;simp[Instr.loadAt,Instr.sureAddr,loadVar,e0z n,hagg,y];have l:j=0:=by omega
  subst l;rw[hv];rfl
 |true=>
  let cs:List Value:=(a24 τ.cells).map fun j=>(m b (o+j)).getD undef
  have i:∀j v,cs[j]?=some v→w.cell? ((⟨b,o,none⟩:Addr).add j)=some v:=by
   intro j v k;simp only[cs,a29]at k;have e:j<τ.cells:=by
    rcases Nat.lt_or_ge j τ.cells with g|g;exact g;simp[List.getElem?_eq_none (show(a24 τ.cells).length≤j from by simpa using g)]at k
   rw[List.getElem?_range e]at k;simp only[a25,sj]at k;obtain⟨u,p,-⟩:=f j e;have a:m b (o+j)=some u:=p;rw[Addr.add_lit,r j e,a,←k,a];rfl
  have d:cs.length=τ.cells:=by simp[cs]
  refine⟨.agg cs.toArray,?_,fun _=>⟨_,rfl,by simp[d]⟩,fun g=>(by rw[hagg]at g;cases g),R,?_,q⟩
  have:=run_loadCells_list (P:=P) w ⟨b,o,none⟩ cs i
  rw[d]at this;simp[Instr.loadAt,Instr.sureAddr,loadVar,e0z n,hagg,I.sizeOf,this];refine a0k τ h (fun j k=>?_) (fun _ _ _=>rfl);obtain⟨u,p,-⟩:=f j k;have a:m b (o+j)=some u:=p;simp[Value.cells,cs,k,a,Src.rd]
theorem VOk.cells{m Sh}{τ:Ty}{x:τ.den}{v:Value}(h:VOk m Sh τ x v):v.cells.size=τ.cells∧∀u∈v.cells.toList,b0v u=true:=by
 obtain⟨b,c,R,d,l⟩:=h;have a:v.cells.size=τ.cells:=by
  cases hagg:τ.isAgg with
  |true=>obtain⟨cs,rfl,f⟩:=b hagg;exact f
  |false=>
   have:=c hagg
   rw[h0z hagg];cases v<;>first|rfl|cases this
 refine⟨a,fun u g=>?_⟩;obtain⟨j,i,rfl⟩:=List.getElem_of_mem g;have k:j<v.cells.size:=by simpa using i
 obtain⟨u,g,hs⟩:=e0b τ d j (by omega)
 have:u=v.cells[j]:=by
  have e:=Array.getElem?_eq_getElem k;rw[e]at g;exact(Option.some.inj g).symm
 rw[this]at hs;simpa using hs
theorem f0s(h:b0v v=true):v.oneCell'=true:=by
 cases v<;>first|rfl|cases h
theorem d0t(b:Nat):∀(vs:List Value)(o:Nat)(w:World)(c:Nat),c≠b→(w.setCells b o vs).heap[c]?=w.heap[c]?
 | [],_,_,_,_=>rfl
 |v::r,o,w,c,h=>by
  rw[World.setCells,d0t b r (o+1) _ c h,g0a,if_neg h]
theorem e0w(b:Nat):∀(vs:List Value)(o:Nat)(w:World),(w.setCells b o vs).heap.size=w.heap.size
 | [],_,_=>rfl
 |v::r,o,w=>by rw[World.setCells,e0w b r (o+1),World.size_setCell]
theorem b0c.setCells{b0 k:Nat}(b:Nat):∀(vs:List Value)(o:Nat){w:World},b0c w b0 k→b0c (w.setCells b o vs) b0 k
 | [],_,_,h=>h
 |_::r,o,_,h=>b0c.setCells b r (o+1) (h.setCell _ _)
theorem f0l(b:Nat):∀(vs:List Value)(o:Nat)(w:World)(k:Nat),b0c w b k→o+vs.length≤k→∀c j,
  (w.setCells b o vs).cell? ⟨c,j,none⟩=if c=b∧o≤j∧j<o+vs.length then vs[j-o]? else w.cell? ⟨c,j,none⟩
 | [],o,w,k,hf,hk,c,j=>by
  rw[if_neg (by simp only[List.length_nil];omega)];rfl
 |v::r,o,w,k,hf,hk,c,j=>by
  simp only[lC]at hk;rw[World.setCells,f0l b r (o+1) _ k (hf.setCell _ _) (by omega) c j]
  by_cases h1:c=b∧o+1≤j∧j<o+1+r.length
  rw[if_pos h1,if_pos ⟨h1.1,by omega,by simp;omega⟩,show j-o=(j-(o+1))+1 from by omega]
  simp
  rw[if_neg h1]
  by_cases h2:c=b∧j=o
  obtain⟨rfl,rfl⟩:=h2;obtain⟨u,h⟩:=a23.1 (hf.cell (o:=j) (by omega)).1;rw[World.cell?_setCell_same _ _ _ h,if_pos ⟨rfl,a14 _,by simp⟩]
  simp
  rw[World.cell?_setCell_other,if_neg];simp only[lC];omega;intro e;simp only[Addr.mk.injEq,and_true]at e;exact h2 ⟨e.1.symm,e.2.symm⟩
theorem o0e{o:Nat}(c:a0i P τ (.inl t)=true)(h:v.cells.size=τ.cells)(f:∀u∈v.cells.toList,b0v u=true)(hf:b0c w b k)(e:o+τ.cells≤k):
  (Instr.storeAt t (.pointer (some ⟨b,o,none⟩)) v).run P w=.ok () (w.setCells b o v.cells.toList):=by
 obtain⟨I⟩:=a0m (a0s c);have g:v.cells.toList.length=τ.cells:=by simpa using h
 have:=run_storeCells_cells (P:=P) b o v.cells.toList 0 w (fun j a=>(hf.cell (o:=o+0+j) (by omega)).1) (fun j a=>(hf.cell (o:=o+0+j) (by omega)).2) (fun u d=>f0s (f u d))
 simp only[Instr.storeAt,Instr.sureAddr,storeVar,Sem.run_bind,Sem.run_pure,Result.andThen_ok,I.sizeOf,h,ne_eq,not_true_eq_false,if_false];simpa using this
theorem p0k{m Sh}{x:τ.den}{o:Nat}(g:a0i P τ (.inl t)=true)(hv:VOk m Sh τ x v)(hf:b0c w b k)(h:o+τ.cells≤k):
  (Instr.storeAt t (.pointer (some ⟨b,o,none⟩)) v).run P w=.ok () (w.setCells b o v.cells.toList):=
 o0e g hv.cells.1 hv.cells.2 hf h
theorem j0n{P:Program}:∀(f:Nat)(τ:Ty)(fs:List Field)(off:Nat),a0i P τ (.inr (fs,off))=true→c0k τ f=true→
  ∃fl τ' k,fs[f]?=some fl∧fl.offset=off+k∧a0i P τ' (.inl fl.type)=true∧0<τ'.cells∧∀(m:Mem) b o,loc m τ (.at b o) (b0l f)=some (τ',.at b (o+k))
 |0,τ,fs,off,h,hf=>by
  cases τ with
  |pair a b=>
   cases fs with
   |nil=>simp[a0i]at h
   |cons fl r=>
    simp only[a0i,bA,beq_iff_eq,dT]at h;exact⟨fl,a,0,rfl,by omega,h.1.1.2,h.1.2,fun _ _ _=>rfl⟩
  |_=>simp[c0k]at hf
 |f+1,τ,fs,off,h,hf=>by
  cases τ with
  |pair a b=>
   cases fs with
   |nil=>simp[a0i]at h
   |cons fl r=>
    simp only[a0i,bA]at h;obtain⟨g,τ',k,d,l,e,i,j⟩:=j0n f b r (off+a.cells) h.2 hf;exact⟨g,τ',a.cells+k,by simpa using d,by omega,e,i,fun m c o=>by
     have:=j m c (o+a.cells)
     rw[show o+a.cells+k=o+(a.cells+k)from by omega]at this;exact this⟩
  |_=>simp[c0k]at hf
theorem i0v{f:Nat}(h:a0i P τ (.inl t)=true)(hf:c0k τ f=true):∃fs:Array Field,P.underlying t=some (.struct fs)∧a0i P τ (.inr (fs.toList,0))=true:=by
 cases τ with
 |pair a b=>
  simp only[a0i,bA]at h;obtain⟨-,h⟩:=h
  split at h
  rename_i fs k;refine⟨fs,k,?_⟩
  split at h
  rename_i c r g;rw[g];simp only[a0i];simpa using h;cases h;cases h
 |_=>cases f<;>simp[c0k]at hf
theorem l0n{f o:Nat}(h:a0i P τ (.inl t)=true)(hf:c0k τ f=true):
  ∃τ' k,(Instr.fieldAt t (.pointer (some ⟨b,o,none⟩)) f).run P w=.ok (.pointer (some ⟨b,o+k,none⟩)) w∧(∀(m:Mem) b o,loc m τ (.at b o) (b0l f)=some (τ',.at b (o+k))):=by
 obtain⟨fs,l,hs⟩:=i0v h hf;obtain⟨c,τ',k,d,e,i,n,j⟩:=j0n f τ _ 0 hs hf;obtain⟨I⟩:=a0m (a0s i);have g:fs[f]?=some c:=by simpa using d
 refine⟨τ',k,?_,j⟩;have a:¬ (τ'.cells=0):=by omega
 simp[Instr.fieldAt,run_underlying l,g,Instr.sureAddr,fieldPlace,I.sizeOf,a,Addr.add_lit,e]
theorem b0w{o:Bool}(h:a0i P (.list o e) (.inl t)=true):∃g,P.underlying t=some (.slice g)∧a0i P e (.inl g)=true∧0<e.cells:=by
 simp only[a0i,bA]at h;obtain⟨-,h⟩:=h
 split at h
 rename_i g f;simp only[bA,dT]at h;exact⟨g,f,h.1,h.2⟩;cases h
theorem h0f(h:a0i P (.arr n e) (.inl t)=true):∃g,P.underlying t=some (.array n g)∧a0i P e (.inl g)=true∧0<e.cells:=by
 simp only[a0i,bA]at h;obtain⟨-,h⟩:=h
 split at h
 rename_i k g f;simp only[bA,beq_iff_eq,dT]at h;exact⟨g,by rw[f,h.1.1],h.1.2,h.2⟩;cases h
theorem v0g(τ:Ty):∀rd,c0q τ.sh rd=c0q τ rd:=by
 induction τ with
 |pair a b iha ihb=>intro rd;simp only[Ty.sh,c0q,iha,ihb,Ty.cells_sh]
 |arr n t ih=>intro rd;simp only[Ty.sh,c0q,ih,Ty.cells_sh]
 |list o t _=>intro rd;rfl
 |nl t _=>intro rd;simp only[Ty.sh,c0q]
 |_=>intro rd;rfl
theorem d0g:∀(τ:Ty)(s:TypeId ⊕ (List Field×Nat)),a0i P τ.sh s=a0i P τ s:=by
 have f:=v0g;have g:∀τ:Ty,τ.sh.isAgg=τ.isAgg:=by intro τ;cases τ<;>rfl
 have h:∀(τ:Ty) t,e0s P τ.sh t=e0s P τ t:=by
  intro τ t;unfold e0s;simp only[Ty.cells_sh,f,g]
 intro τ
 induction τ with
 |pair a b iha ihb=>
  intro s;cases s with
  |inl t=>
   have:=h (.pair a b) t
   simp only[Ty.sh]at this;simp only[Ty.sh,a0i,this,iha,ihb,Ty.cells_sh]
  |inr p=>
   obtain⟨fs,off⟩:=p;cases fs<;>simp only[Ty.sh,a0i,iha,ihb,Ty.cells_sh]
 |list o t ih=>
  intro s;cases s with
  |inl t'=>
   have:=h (.list o t) t'
   simp only[Ty.sh]at this;simp only[Ty.sh,a0i,this,ih,Ty.cells_sh]
  |inr p=>simp[Ty.sh,a0i]
 |nl t ih=>
  intro s;cases s with
  |inl t'=>
   have:=h (.nl t) t'
   simp only[Ty.sh]at this;simp only[Ty.sh,a0i,this,ih,Ty.cells_sh]
  |inr p=>simp[Ty.sh,a0i]
 |arr n t ih=>
  intro s;cases s with
  |inl t'=>
   have:=h (.arr n t) t'
   simp only[Ty.sh]at this;simp only[Ty.sh,a0i,this,ih,Ty.cells_sh]
  |inr p=>simp[Ty.sh,a0i]
 |_=>intro s;rfl
def a0f(a:Act):Nat→Value:=fun i=>a.tmps.getD i undef
def b0m(N:Nat):Operand→Bool
 |.tmp t=>decide (t<N)
 |_=>true
def fits(N:Nat)(o:Oper):Bool:=o.op.operands.toList.all (b0m N)&&(match o.dst with|some d=>decide (d<N)|none=>true)
def p0n(P:Program)(τ:Ty)(t:TypeId):Prop:=
 ∀(m:Mem) Sh (x y:τ.den) u v w xo yo,VOk m Sh τ x u→VOk m Sh τ y v→
  ((eqGuard .eql t xo yo u v).run P w=.ok () w∧(binOp .eql t u v).run P w=.ok (.bool (eqT τ x y)) w)∧
  ((eqGuard .neq t xo yo u v).run P w=.ok () w∧(binOp .neq t u v).run P w=.ok (.bool (!eqT τ x y)) w)
def t0p(P:Program)(t:TypeId)(e:Ty):Prop:=∃kt et,P.underlying t=some (.map kt et)∧P.underlying kt=some (.int .i64)∧a0i P e (.inl et)=true
structure CxTy (P:Program) (cx:Cx):Prop where
 T:∀t τ,cx.T t=some τ→τ.sh=τ∧a0i P τ (.inl t)=true

 Q:∀t,cx.Q t=true→∃e,P.underlying t=some (.pointer e)
 E:∀t τ,cx.E t=true→cx.T t=some τ→τ.isAgg=true→p0n P τ t
 W:∀t e,cx.G.w t=some e→t0p P t e
theorem k0l{a:Act}{d:Nat}{v:Value}(i:Nat)(hi:i<a.tmps.size):a0f (a.put (some d) v) i=if i=d then v else a0f a i:=by
 simp only[a0f,Act.put,Array.getD_eq_getD_getElem?]
 by_cases h:i=d
 subst h;simp[hi];rw[if_neg h,Array.getElem?_setIfInBounds_ne (Ne.symm h)]
theorem i0n{a:Act}{d:Option Nat}{v:Value}:(a.put d v).tmps.size=a.tmps.size:=by
 cases d<;>simp[Act.put]
theorem h0t{a:Act}{d:Option Nat}{v:Value}:(a.put d v).defers=a.defers:=by
 cases d<;>rfl
section
variable {P:Program} {B:Base} {N:Nat} {ρ:Type} {Γ:AE} {a:Act} {w:World} {σ:Gh}
theorem Rel.opd(h:Rel B Γ N (a0f a) w σ){x:Operand}(k:b0m N x=true):a0e (a0a w σ.ov) σ.g Γ.rt (Shr B w σ) (Γ.opd x) (a.eval x):=by
 cases x with
 |tmp t=>
  simp only[b0m,dT]at k
  have:=h.slots t k
  simp only[AE.opd,AE.get]
  revert this
  cases Γ.sl t with
  |one v=>exact fun h=>h
  |cmp c vs=>exact fun _=>trivial
 |const v=>
  simp only[AE.opd,Act.eval];unfold i0e;split;exact a0e.mk_int _;exact a0e.mk_bool _;exact a0e.mk_str _;rfl;rfl;trivial
 |global g=>trivial
 |func f=>exact VOk.mk_fn f
theorem Rel.putd(h:Rel B Γ N (a0f a) w σ)(f:a.tmps.size=N){sv:SV}(hv:d<N→h0a (a0a w σ.ov) σ.g Γ.rt (Shr B w σ) sv v):
  Rel B (Γ.put d sv) N (a0f (a.put (some d) v)) w σ:=
 h.put hv fun i hi=>k0l i (by omega)
def a0j(P:Program)(B:Base)(N:Nat)(o:Oper)(a:Act)(w:World)(K:AE→Rs ρ)(z:ρ):Prop:=
 ∃v w' Γ' σ',((execOp a.eval o).run P w=.ok (.value v) w'∨((execOp a.eval o).run P w=.ok .skip w'∧v=undef))∧Rel B Γ' N (a0f (a.put o.dst v)) w' σ'∧K Γ'=some z
theorem a0j.set{o:Oper}{K:AE→Rs ρ}{z:ρ}{d:Nat}{v:Value}{w':World}{Γ':AE}{σ':Gh}{av:AV}(hd:o.dst=some d)(b:a.tmps.size=N)(f:(execOp a.eval o).run P w=.ok (.value v) w')
  (h:Rel B Γ' N (a0f a) w' σ')(hv:a0e (a0a w' σ'.ov) σ'.g Γ'.rt (Shr B w' σ') av v)(k:K (Γ'.set d av)=some z):a0j P B N o a w K z:=
 ⟨v,w',Γ'.set d av,σ',.inl f,by rw[hd];exact h.putd b (fun _=>hv),k⟩
theorem a0r(h:fits N o=true):∀x∈o.op.operands.toList,b0m N x=true:=by
 simp only[fits,bA,lA]at h;exact h.1
theorem a0b{β:Type}{b:Bool}{x y:Option β}{z:β}(h:(bif b then x else y)=some z):(b=true∧x=some z)∨(b=false∧y=some z):=by
 cases b;exact .inr ⟨rfl,h⟩;exact .inl ⟨rfl,h⟩
theorem z0s{K:AE→Rs ρ}{z:ρ}(i:o.op=.move x)(hd:o.dst=some d)(h:Rel B Γ N (a0f a) w σ)(c:a.tmps.size=N)(hf:fits N o=true)(b:aop cx q o Γ K=some z):a0j P B N o a w K z:=by
 have e:b0m N x=true:=a0r hf x (by simp[i,Op.operands]);have k:(execOp a.eval o).run P w=.ok (.value (a.eval x)) w:=by simp[execOp,i]
 simp only[aop,i,hd]at b;cases x with
 |tmp t=>
  simp only[]at b;have j:t<N:=by simpa[b0m]using e
  exact⟨_,w,_,σ,.inl k,by rw[hd];exact h.putd c (fun _=>h.slots t j),b⟩
 |const v=>exact a0j.set hd c k h (h.opd e) b
 |global g=>exact a0j.set hd c k h (h.opd e) b
 |func f=>exact a0j.set hd c k h (h.opd e) b
theorem z0t{c:Operand}{K:AE→Rs ρ}{z:ρ}(k:o.op=.pick c x y)(hd:o.dst=some d)(h:Rel B Γ N (a0f a) w σ)(e:a.tmps.size=N)(hf:fits N o=true)(g:aop cx q o Γ K=some z):a0j P B N o a w K z:=by
 have n:=h.opd (a0r hf c (by simp[k,Op.operands]));have l:=h.opd (a0r hf x (by simp[k,Op.operands]));have m:=h.opd (a0r hf y (by simp[k,Op.operands]));simp only[aop,k,hd,o0t]at g
 split at g
 rename_i b i;rw[i]at n;have j:=a0e.bool n;have f:(execOp a.eval o).run P w=.ok (.value (if b then a.eval x else a.eval y)) w:=by simp[execOp,k,j,asBool]
 split at g
 rename_i u v p hv;rw[p]at l;rw[hv]at m;refine a0j.set hd e f h ?_ g;rw[a0e.bool l,a0e.bool m];cases b<;>exact a0e.mk_bool _;rcases a0b g with⟨rfl,g⟩|⟨-,g⟩;exact a0j.set hd e f h (by simpa using l) g;cases g;rcases a0b g with⟨-,g⟩|⟨rfl,g⟩;cases g;exact a0j.set hd e f h (by simpa using m) g;cases g;cases g
theorem t0j{K:AE→Rs ρ}{z:ρ}(f:o.op=.nilCheck x)(hd:o.dst=some d)(h:Rel B Γ N (a0f a) w σ)(j:a.tmps.size=N)(hf:fits N o=true)(g:aop cx q o Γ K=some z):a0j P B N o a w K z:=by
 have k:=h.opd (a0r hf x (by simp[f,Op.operands]));simp only[aop,f,hd]at g
 split at g
 rename_i n p i;rw[i]at k;obtain⟨r,t,b,off,c,e,l⟩:=k;exact a0j.set hd j (v:=.pointer (some ⟨b,off,none⟩)) (by simp[execOp,f,l]) h (show a0e _ _ _ _ (.ptr n p) _ from⟨r,t,b,off,c,e,rfl⟩) g;rename_i t y i;rw[i]at k;obtain⟨b,off,R,c,e⟩:=k;exact a0j.set hd j (v:=.pointer (some ⟨b,off,none⟩)) (by simp[execOp,f,c]) h (show a0e _ _ _ _ (.vptr t y) _ from⟨b,off,R,rfl,e⟩) g;cases g
theorem u0i{t:Nat}{K:AE→Rs ρ}{z:ρ}(b:o.op=.extract (.tmp t) i)(hd:o.dst=some d)(h:Rel B Γ N (a0f a) w σ)(n:a.tmps.size=N)(hf:fits N o=true)(g:aop cx q o Γ K=some z):a0j P B N o a w K z:=by
 have p:t<N:=by have:=a0r hf (.tmp t) (by simp[b,Op.operands]);simpa[b0m]using this
 have hs:=h.slots t p;simp only[aop,b,hd]at g
 split at g
 rename_i vs c;rw[c]at hs;obtain⟨f,e,j⟩:=hs
 split at g
 rename_i v hv;obtain⟨u,l,m⟩:=j i v hv;refine a0j.set hd n (v:=u) ?_ h m g;have k:a.eval (.tmp t)=.tuple f:=e;simp[execOp,b,k,Instr.extract,l];cases g;cases g
theorem z0u{op:UnOp}{ty:TypeId}{K:AE→Rs ρ}{z:ρ}(e:o.op=.unOp op ty x)(hd:o.dst=some d)(h:Rel B Γ N (a0f a) w σ)(i:a.tmps.size=N)(hf:fits N o=true)(f:aop cx q o Γ K=some z):a0j P B N o a w K z:=by
 have g:=h.opd (a0r hf x (by simp[e,Op.operands]));simp only[aop,e,hd,AE.un]at f
 split at f
 rename_i b c;rw[c]at g;exact a0j.set hd i (by simp[execOp,e,a0e.bool g,Op.unary]) h (a0e.mk_bool _) f;rename_i k n c;rw[c]at g;exact a0j.set hd i (by simp[execOp,e,a0e.int g,Op.unary,Op.intArith]) h (a0e.mk_int _) f;rename_i k n c;rw[c]at g;refine a0j.set hd i (v:=.int k (bits k .xor (if k.signed then -1 else k.max) n)) ?_ h (a0e.mk_int _) f
 simp[execOp,e,a0e.int g,Op.unary,Op.intBits,bits];cases f
theorem v0u{k:IntKind}{x y:Int}{K:AV→Rs ρ}{z:ρ}{k':IntKind}(b:l0y op=true∨k=k')(h:i0y op k x y K=some z):
  ∃av v,K av=some z∧(∀m g rt Sh,a0e m g rt Sh av v)∧∀w,(binOp op t (.int k x) (.int k' y)).run P w=.ok v w:=by
 by_cases hs:l0y op=true
 cases op<;>simp[l0y]at hs;simp only[i0y]at h;rcases a0b h with⟨-,h⟩|⟨f,h⟩;cases h;refine⟨_,_,h,fun _ _ _ _=>a0e.mk_int _,fun w=>?_⟩
 have:¬ y<0:=by simpa using f
 simp[binOp,Op.shift,this,E0i];simp only[i0y]at h;rcases a0b h with⟨-,h⟩|⟨f,h⟩;cases h;refine⟨_,_,h,fun _ _ _ _=>a0e.mk_int _,fun w=>?_⟩
 have:¬ y<0:=by simpa using f
 simp[binOp,Op.shift,this,E0j]
 ·have a:k=k':=by simpa[hs]using b
  subst a;cases op<;>simp[l0y]at hs<;>simp only[i0y]at h
  case add=>exact⟨_,_,h,fun _ _ _ _=>a0e.mk_int _,fun w=>by simp[binOp,Op.intArith]⟩
  case sub=>exact⟨_,_,h,fun _ _ _ _=>a0e.mk_int _,fun w=>by simp[binOp,Op.intArith]⟩
  case mul=>exact⟨_,_,h,fun _ _ _ _=>a0e.mk_int _,fun w=>by simp[binOp,Op.intArith]⟩
  case quo=>
   rcases a0b h with⟨-,h⟩|⟨f,h⟩;cases h
   have:¬ y=0:=by simpa using f
   exact⟨_,_,h,fun _ _ _ _=>a0e.mk_int _,fun w=>by simp[binOp,Op.intDiv,this]⟩
  case rem=>
   rcases a0b h with⟨-,h⟩|⟨f,h⟩;cases h
   have:¬ y=0:=by simpa using f
   exact⟨_,_,h,fun _ _ _ _=>a0e.mk_int _,fun w=>by simp[binOp,Op.intDiv,this]⟩
  case and=>exact⟨_,_,h,fun _ _ _ _=>a0e.mk_int _,fun w=>by simp[binOp,Op.intBits,bits]⟩
  case or=>exact⟨_,_,h,fun _ _ _ _=>a0e.mk_int _,fun w=>by simp[binOp,Op.intBits,bits]⟩
  case xor=>exact⟨_,_,h,fun _ _ _ _=>a0e.mk_int _,fun w=>by simp[binOp,Op.intBits,bits]⟩
  case andNot=>exact⟨_,_,h,fun _ _ _ _=>a0e.mk_int _,fun w=>by simp[binOp,Op.intBits,bits]⟩
  case eql=>exact⟨_,_,h,fun _ _ _ _=>a0e.mk_bool _,fun w=>by simp[binOp,Op.intCmp]⟩
  case neq=>exact⟨_,_,h,fun _ _ _ _=>a0e.mk_bool _,fun w=>by simp[binOp,Op.intCmp]⟩
  case lss=>exact⟨_,_,h,fun _ _ _ _=>a0e.mk_bool _,fun w=>by simp[binOp,Op.intCmp]⟩
  case leq=>exact⟨_,_,h,fun _ _ _ _=>a0e.mk_bool _,fun w=>by simp[binOp,Op.intCmp]⟩
  case gtr=>exact⟨_,_,h,fun _ _ _ _=>a0e.mk_bool _,fun w=>by simp[binOp,Op.intCmp]⟩
  case geq=>exact⟨_,_,h,fun _ _ _ _=>a0e.mk_bool _,fun w=>by simp[binOp,Op.intCmp]⟩
theorem w0y{s s':ByteArray}:((s.data.toList.map fun b=>(b.toNat:Int))==(s'.data.toList.map fun b=>(b.toNat:Int)))=(s.toList==s'.toList):=by
 have g:s.toList=s.data.toList:=ByteArray.toList_eq s;have k:s'.toList=s'.data.toList:=ByteArray.toList_eq s';rw[g,k,Bool.eq_iff_iff];simp only[beq_iff_eq];constructor;intro h;exact List.map_inj_right (f:=fun b:UInt8=>(b.toNat:Int)) (fun x y h=>by
  have:x.toNat=y.toNat:=by exact_mod_cast h
  exact UInt8.toNat_inj.1 this) |>.1 h
 intro h;rw[h]
theorem f0f{ty ty':TypeId}(f:o.op=.binOp op ty x y ty')(h:(eqGuard op ty x y (a.eval x) (a.eval y)).run P w=.ok () w)(g:(binOp op ty (a.eval x) (a.eval y)).run P w=.ok v w):(execOp a.eval o).run P w=.ok (.value v) w:=by
 simp[execOp,f,h,g]
theorem z0z(h:BinOp)(t:TypeId)(x y:Operand)(k:IntKind)(n:Int)(v:Value):(eqGuard h t x y (.int k n) v).run P w=.ok () w:=by
 rw[eqGuard_at_int];rfl
theorem y0c(h:BinOp)(t:TypeId)(x y:Operand)(n:Bool)(v:Value):(eqGuard h t x y (.bool n) v).run P w=.ok () w:=by
 rw[eqGuard_at_bool];rfl
theorem A0a(h:BinOp)(t:TypeId)(x y:Operand)(n:ByteArray)(v:Value):(eqGuard h t x y (.string n) v).run P w=.ok () w:=by
 rw[eqGuard_at_string];rfl
theorem k0w(h:BinOp)(t:TypeId)(x y:Operand)(n:Option Addr)(v:Value):(eqGuard h t x y (.pointer n) v).run P w=.ok () w:=by
 rw[eqGuard_at_pointer];rfl
theorem B0c{ty:Nat}{t t':Ty}{u:t.den}{v:t'.den}{K:AV→Rs ρ}(hi:¬ ∃k k',t=.int k∧t'=.int k')(h:¬ (t=.bool∧t'=.bool))(hs:¬ (t=.str∧t'=.str)):
  h0r cx op ty (.val t u) (.val t' v) K=l0u cx op ty t u t' v K:=by
 cases t<;>cases t'<;>first|rfl|exact absurd ⟨_,_,rfl,rfl⟩ hi|exact absurd ⟨rfl,rfl⟩ h|exact absurd ⟨rfl,rfl⟩ hs
theorem u0k(n:Nat){ty:TypeId}(h:P.underlying ty=some .bool)(u v:Bool)(w:World):(Op.equalIn (n+1) ty (.bool u) (.bool v)).run P w=.ok (u==v) w:=by
 simp[Op.equalIn,run_underlying h]
theorem q0t{ty:TypeId}(h:P.underlying ty=some .bool)(u v:Bool)(w:World):(Op.equal ty (.bool u) (.bool v)).run P w=.ok (u==v) w:=u0k 9999 h u v w
theorem v0t(n:Nat){ty e:TypeId}(g:P.underlying ty=some (.pointer e))(u v:Option Addr)(h:u=none∨v=none)(w:World):
  (Op.equalIn (n+1) ty (.pointer u) (.pointer v)).run P w=.ok (u.isNone&&v.isNone) w:=by
 rcases h with rfl|rfl;simp[Op.equalIn,run_underlying g];cases u<;>simp[Op.equalIn,run_underlying g]
theorem t0k(k:Nat){ty e:TypeId}(h:P.underlying ty=some (.slice e))(A:Option Addr)(n c:Nat)(w:World):
  (Op.equalIn (k+1) ty (.slice A n c) (.slice none 0 0)).run P w=.ok A.isNone w:=by
 cases A<;>simp[Op.equalIn,run_underlying h]
theorem u0z{ty:TypeId}(u v:Bool)(w:World):(binOp .eql ty (.bool u) (.bool v)).run P w=((Op.equal ty (.bool u) (.bool v)).run P w).andThen fun b w'=>.ok (.bool b) w':=by
 simp only[binOp,Sem.run_bind,Sem.run_pure]
theorem v0b{ty:TypeId}(u v:Bool)(w:World):(binOp .neq ty (.bool u) (.bool v)).run P w=((Op.equal ty (.bool u) (.bool v)).run P w).andThen fun b w'=>.ok (.bool !b) w':=by
 simp only[binOp,Sem.run_bind,Sem.run_pure]
theorem p0i{ty:TypeId}(u v:Option Addr)(w:World):(binOp .eql ty (.pointer u) (.pointer v)).run P w=((Op.equal ty (.pointer u) (.pointer v)).run P w).andThen fun b w'=>.ok (.bool b) w':=by
 simp only[binOp,Sem.run_bind,Sem.run_pure]
theorem p0j{ty:TypeId}(u v:Option Addr)(w:World):(binOp .neq ty (.pointer u) (.pointer v)).run P w=((Op.equal ty (.pointer u) (.pointer v)).run P w).andThen fun b w'=>.ok (.bool !b) w':=by
 simp only[binOp,Sem.run_bind,Sem.run_pure]
theorem B0d{ty:Nat}{u v:Bool}{K:AV→Rs ρ}{z:ρ}(f:CxTy P cx)(g:h0r cx op ty (.val .bool u) (.val .bool v) K=some z):
  ∃r,K (.val .bool r)=some z∧(binOp op ty (.bool u) (.bool v)).run P w=.ok (.bool r) w:=by
 simp only[h0r]at g
 split at g
 rename_i hT;have h:=(f.T ty _ hT).2;have k:P.underlying ty=some .bool:=by
  simp only[a0i,bA]at h;obtain⟨-,h⟩:=h
  split at h
  assumption
  cases h
 split at g
 exact⟨_,g,by rw[u0z,q0t k];rfl⟩;exact⟨_,g,by rw[v0b,q0t k];rfl⟩;cases g;cases g
theorem C0r{ty:Nat}{s s':ByteArray}{m g rt Sh}{K:AV→Rs ρ}{z:ρ}(h:h0r cx op ty (.val .str (s.data.toList.map fun b=>(b.toNat:Int):List Int)) (.val .str (s'.data.toList.map fun b=>(b.toNat:Int):List Int)) K=some z):
  ∃r v,K r=some z∧a0e m g rt Sh r v∧(binOp op ty (.string s) (.string s')).run P w=.ok v w:=by
 simp only[h0r]at h
 split at h
 refine⟨_,_,h,a0e.mk_bool _,?_⟩;rw[w0y];simp[binOp,Op.stringOp];refine⟨_,_,h,a0e.mk_bool _,?_⟩;simp only[bne,w0y];simp[binOp,Op.stringOp];rcases a0b h with⟨f,h⟩|⟨-,h⟩;have k:s.size+s'.size<2147483648:=by simpa using f
 refine⟨_,.string (s++s'),h,?_,?_⟩
 have:=a0e.mk_str (m:=m) (g:=g) (rt:=rt) (Sh:=Sh) (s++s')
 have e:((s++s').data.toList.map fun b=>(b.toNat:Int))=(s.data.toList.map fun b=>(b.toNat:Int))++(s'.data.toList.map fun b=>(b.toNat:Int)):=by simp
 rw[e]at this;exact this
 have:¬ (9223372036854775807<(s.size:Int)+(s'.size:Int)):=by omega
 simp[binOp,Op.stringOp,this];cases h;cases h
theorem g0x{ty e:TypeId}(g:P.underlying ty=some (.pointer e))(u v:Option Addr)(h:u=none∨v=none)(w:World):
  (Op.equal ty (.pointer u) (.pointer v)).run P w=.ok (u.isNone&&v.isNone) w:=v0t 9999 g u v h w
theorem VOk.header{m Sh}{t:Ty}{l:List t.den}(h:VOk m Sh (.list false t) l v):
  ∃A n c,v=.slice A n c∧n=l.length∧n≤c∧(∀k,A=some k→c=0∨k.spot=none)∧(A=none→c=0):=by
 obtain⟨R,g,e⟩:=h.rd rfl rfl;have g:a0w m false t.cells (dec m t) (some v)=some (l,[],R):=g;unfold a0w at g
 split at g
 rename_i n c hv;simp only[sj]at hv
 split at g
 rename_i f;simp only[sj,pJ]at g;exact⟨none,n,c,hv,by rw[←g.1,f.1];rfl,by omega,by simp,fun _=>f.2⟩;cases g;rename_i A n c hv;simp only[sj]at hv
 split at g
 rename_i f
 split at g
 cases g;rename_i xs os i a;have b:=b0b n 0 a;simp only[a18,if_false]at g;have d:l=xs:=by
  split at g<;>simp only[sj,pJ]at g<;>exact g.1.symm
 exact⟨some A,n,c,hv,by rw[d,b],f.2,by rintro k ⟨⟩;exact f.1,by simp⟩;cases g;cases g
theorem z0b{P:Program}{o:Bool}(h:a0i P (.list o e) (.inl t)=true):∃g,P.underlying t=some (.slice g):=by
 simp only[a0i,bA]at h;obtain⟨-,h⟩:=h
 split at h
 rename_i g f;exact⟨g,f⟩;cases h
theorem x0t{ty ty':TypeId}{K:AE→Rs ρ}{z:ρ}(F:CxTy P cx)(j:o.op=.binOp op ty x y ty')(hd:o.dst=some d)(h:Rel B Γ N (a0f a) w σ)(D:a.tmps.size=N)(hf:fits N o=true)(g:aop cx q o Γ K=some z):a0j P B N o a w K z:=by
 have I:=h.opd (a0r hf x (by simp[j,Op.operands]));have m:=h.opd (a0r hf y (by simp[j,Op.operands]));simp only[aop,j,hd]at g;rcases a0b g with⟨-,g⟩|⟨-,g⟩
 ·
  split at g
  case h_2=>cases g
  rename_i e H
  split at g
  cases g
  ·unfold u0t at H
   split at H
   ·rename_i o1 f C l hT R S;simp only[sj]at H;rw[R]at I;rw[S]at m;obtain⟨A,n,c,hv,hn,h0,-,hA⟩:=VOk.header I;have m:a.eval y=.slice none 0 0:=m;obtain⟨e',O⟩:=z0b (F.T ty _ hT).2;have L:(Op.equal ty (a.eval x) (a.eval y)).run P w=.ok A.isNone w:=by
     rw[hv,m];exact t0k 9999 O A n c w
    have i:(eqGuard op ty x y (a.eval x) (a.eval y)).run P w=.ok () w:=by rw[hv,eqGuard_at_slice];rfl
    have U:e=false→A.isNone=false:=fun G=>by
     cases A with
     |some A=>rfl
     |none=>
      have:l=[]:=List.eq_nil_of_length_eq_zero (by have:=hA rfl;omega)
      subst this;rw[←H]at G;cases G
    unfold E0m at g
    split at g
    have J:K (Γ.set d (.val .bool A.isNone))=some z:=by
     rcases a0b g with⟨-,g⟩|⟨G,g⟩;obtain⟨Y,Z⟩:=q0h g;cases hb:A.isNone;exact Z;exact Y;rw[U G];exact g
    exact a0j.set hd D (v:=.bool A.isNone) (f0f j i (by
     rw[hv,m]at L⊢;simp only[binOp,Sem.run_bind,Sem.run_pure,L,Result.andThen_ok])) h (a0e.mk_bool _) J
    have J:K (Γ.set d (.val .bool (!A.isNone)))=some z:=by
     rcases a0b g with⟨-,g⟩|⟨G,g⟩;obtain⟨Y,Z⟩:=q0h g;cases hb:A.isNone;exact Z;exact Y;rw[U G];exact g
    exact a0j.set hd D (v:=.bool (!A.isNone)) (f0f j i (by
     rw[hv,m]at L⊢;simp only[binOp,Sem.run_bind,Sem.run_pure,L,Result.andThen_ok])) h (a0e.mk_bool _) J
    cases g
   cases H
 revert g I m
 cases R:Γ.opd x<;>cases S:Γ.opd y<;>intro I m g
 case val.val t u t' v=>
  by_cases hint:∃k k',t=.int k∧t'=.int k'
  obtain⟨k,k',rfl,rfl⟩:=hint;simp only[h0r]at g
  split at g
  rename_i hk;obtain⟨av,rv,J,W,M⟩:=v0u (P:=P) (t:=ty) (k':=k') (by simpa using hk) g;have f:=a0e.int I;have C:=a0e.int m;exact a0j.set hd D (f0f j (by rw[f];exact z0z _ _ _ _ _ _ _) (by rw[f,C];exact M w)) h (W _ _ _ _) J;cases g
  by_cases hb:t=.bool∧t'=.bool
  obtain⟨rfl,rfl⟩:=hb;have f:=a0e.bool I;have C:=a0e.bool m;obtain⟨r,J,X⟩:=B0d (P:=P) (w:=w) F g;exact a0j.set hd D (f0f j (by rw[f];exact y0c _ _ _ _ _ _) (by rw[f,C];exact X)) h (a0e.mk_bool _) J
  by_cases hs:t=.str∧t'=.str
  obtain⟨rfl,rfl⟩:=hs;obtain⟨s,f,rfl⟩:=a0e.str I;obtain⟨s',C,rfl⟩:=a0e.str m;obtain⟨r,rv,J,M,X⟩:=C0r (P:=P) (w:=w) g;exact a0j.set hd D (f0f j (by rw[f];exact A0a _ _ _ _ _ _) (by rw[f,C];exact X)) h M J;rw[B0c hint hb hs]at g;unfold l0u at g
  split at g
  rename_i ht;subst ht;rcases a0b g with⟨V,g⟩|⟨-,g⟩;simp only[bA,dT]at V;have G:=F.E ty _ V.1.1 V.2 V.1.2 (a0a w σ.ov) (Shr B w σ) u v (a.eval x) (a.eval y) w x y I m
  split at g
  exact a0j.set hd D (f0f j G.1.1 G.1.2) h (a0e.mk_bool _) g;exact a0j.set hd D (f0f j G.2.1 G.2.2) h (a0e.mk_bool _) g;cases g;cases g;cases g
 case nilp.nilp=>
  simp only[h0r]at g
  split at g
  rename_i hp;obtain⟨e,O⟩:=F.Q ty hp;have f:a.eval x=.pointer none:=I;have C:a.eval y=.pointer none:=m
  split at g
  exact a0j.set hd D (v:=.bool true) (f0f j (by rw[f];exact k0w _ _ _ _ _ _) (by rw[f,C,p0i,g0x O none none (.inl rfl)];rfl)) h (a0e.mk_bool _) g;exact a0j.set hd D (v:=.bool false) (f0f j (by rw[f];exact k0w _ _ _ _ _ _) (by rw[f,C,p0j,g0x O none none (.inl rfl)];rfl)) h (a0e.mk_bool _) g;cases g;cases g
 case ptr.nilp n p=>
  simp only[h0r]at g
  split at g
  rename_i hp;obtain⟨e,O⟩:=F.Q ty hp;obtain⟨r,t,b,off,-,-,f⟩:=I;have C:a.eval y=.pointer none:=m
  split at g
  exact a0j.set hd D (v:=.bool false) (f0f j (by rw[f];exact k0w _ _ _ _ _ _) (by rw[f,C,p0i,g0x O (some ⟨b,off,none⟩) none (.inr rfl)];rfl)) h (a0e.mk_bool _) g;exact a0j.set hd D (v:=.bool true) (f0f j (by rw[f];exact k0w _ _ _ _ _ _) (by rw[f,C,p0j,g0x O (some ⟨b,off,none⟩) none (.inr rfl)];rfl)) h (a0e.mk_bool _) g;cases g;cases g
 all_goals (simp only[h0r]at g;cases g)
end
theorem d0i{A:Addr}(h:A.spot=none)(k:Nat):A.add k=⟨A.block,A.off+k,none⟩:=by
 obtain⟨b,o,s⟩:=A;simp_all[Addr.add_lit]
theorem h0c{t:Ty}{rd:Nat→Option Value}{x O R}(k:t.shn=t)(h:dec m t rd=some (x,O,R)):O=[]:=by
 obtain⟨g,f,-⟩:=l0w t h
 grind
theorem k0v{l:List α}{i:Int}{x:α}(h:n0s l i=some x):0≤i∧i.toNat<l.length∧l[i.toNat]?=some x:=by
 grind[n0s]
theorem VOk.elem{m Sh}{t:Ty}{l:List t.den}(e:t.sh=t)(h:VOk m Sh (.list false t) l v){x:t.den}(j:l[i]?=some x):
  ∃A n c R,v=.slice (some A) n c∧A.spot=none∧n=l.length∧n≤c∧dec m t ((Src.at A.block (A.off+i*t.cells)).rd m)=some (x,[],R)∧Sh A.block∧∀b∈R,Sh b:=by
 obtain⟨R,g,s⟩:=h.rd rfl rfl;have g:a0w m false t.cells (dec m t) (some v)=some (l,[],R):=g;unfold a0w at g
 split at g
 simp_all;rename_i A n c hv;simp at hv
 split at g
 rename_i u
 split at g
 grind
 rename_i xs os D f;simp[m0v]at f;have w:=b0b n 0 f;simp at g
 split at g
 simp_all;simp only[sj,pJ]at g;obtain⟨rfl,-,rfl⟩:=g;have hi:i<n:=by grind
 obtain⟨y,B,C,o,p,a,d,hf,k,q,r⟩:=b0a n 0 i f hi;rw[j]at k;simp at k;subst k;simp at hf;have z:=h0c (Ty.shn_of_sh t e) hf
 grind
 simp_all;simp_all
theorem VOk.window{m Sh}{t:Ty}{l:List t.den}{A:Option Addr}{lo hi:Nat}(h:VOk m Sh (.list false t) l (.slice A n c))(S:lo≤hi)(T:hi≤n){A':Option Addr}(z:A'=if c=lo then A else A.map fun a=>a.add (lo*t.cells)):VOk m Sh (.list false t) ((l.take hi).drop lo) (.slice A' (hi-lo) (c-lo)):=by
 obtain⟨O,V,c0,x,H,q,d,C⟩:=h.header;simp at x;obtain⟨rfl,rfl,rfl⟩:=x;have j:∀B,A'=some B→c-lo=0∨B.spot=none:=by
  intro B o;rw[z]at o
  split at o
  omega
  ·cases A with
   |none=>simp_all
   |some a=>
    simp at o;rw[←o,d0i ((d a rfl).resolve_left (by omega))]
    simp
 by_cases he:lo=hi
 ·subst he;have e:(l.take lo).drop lo=[]:=by simp
  rw[e];refine VOk.one (t:=.list false t) (R:=[]) rfl rfl ?_ (by simp) rfl;show a0w m false t.cells (dec m t) (some (.slice A' (lo-lo) (c-lo)))=_;cases A' with
  |none=>
   have r:c-lo=0:=by
    split at z
    omega
    ·cases A with
     |none=>grind
     |some a=>simp_all
   simp[a0w,r];rfl
  |some B=>
   have hs:=j B rfl;simp[a0w,hs,a0d];rfl
 ·obtain⟨R,f,F⟩:=h.rd rfl rfl;have f:a0w m false t.cells (dec m t) (some (.slice A n c))=some (l,[],R):=f;cases A with
  |none=>simp_all
  |some a=>
   have u:=(d a rfl).resolve_left (by omega);simp only[a0w,m0v]at f;rw[if_pos ⟨.inr u,q⟩]at f
   split at f
   grind
   ·rename_i xs os W y;have G:n≠0:=by omega
    simp only[a18,if_false,G]at f;simp only[sj,pJ]at f;obtain⟨rfl,-,rfl⟩:=f;have p:A'=some ⟨a.block,a.off+lo*t.cells,none⟩:=by
     grind[d0i]
    subst p;rw[show n=lo+((hi-lo)+(n-hi))from by omega]at y;obtain⟨I,L,J,M,P,D,rfl,rfl⟩:=e0a lo _ 0 y;obtain⟨v,w,K,N,E,Q,rfl,rfl⟩:=e0a (hi-lo) _ (0+lo) D;have g:∀(k i:Nat),a0d (fun i=>dec m t ((Src.at a.block (a.off+lo*t.cells+i*t.cells)).rd m)) k i=a0d (fun i=>dec m t ((Src.at a.block (a.off+i*t.cells)).rd m)) k (lo+i):=by
     intro k
     induction k with
     |zero=>intro i;rfl
     |succ k ih=>
      grind[a0d]
    refine VOk.one (t:=.list false t) (R:=a.block::(v.map (·.1)++w)) rfl rfl ?_ (fun b U=>F b ?_) rfl;show a0w m false t.cells (dec m t) (some (.slice (some ⟨a.block,a.off+lo*t.cells,none⟩) (hi-lo) (c-lo)))=_;simp only[a0w,m0v];rw[if_pos ⟨.inr trivial,by omega⟩,g,show lo+0=0+lo from by omega,E];have s:¬ (hi-lo=0):=by omega
    have e:a22 (hi-lo) (a26 lo xs)=a26 lo (a22 hi xs):=by rw[a31]
    simp[s,e];rfl
    grind
section
variable {P:Program} {B:Base} {N:Nat} {ρ:Type} {Γ:AE} {a:Act} {w:World} {σ:Gh}
theorem n0l{n p}{K:(e:Ty)→List e.den→Rs ρ}{z:ρ}(h:Γ.body n p K=some z):∃r e l,Γ.pd=none∧Γ.rt n=some r∧a0p r.t r.x p=⟨.list true e,l⟩∧K e l=some z:=by
 grind[AE.body,a0q]
theorem x0m{n p}{K:(e:Ty)→List e.den→Rs ρ}{z:ρ}(h:Γ.bodyP n p K=some z):∃r e l,Γ.rt n=some r∧a0p r.t r.x p=⟨.list true e,l⟩∧K e l=some z:=by
 unfold AE.bodyP at h
 split at h
 rename_i r f
 split at h
 rename_i e l g;exact⟨r,e,l,f,g,h⟩;cases h;cases h
theorem h0i{len:Nat}{lo hi:Option Operand}{K:Nat→Nat→Rs ρ}{z:ρ}(h:Rel B Γ N (a0f a) w σ)(v:∀x,lo=some x→b0m N x=true)(u:∀x,hi=some x→b0m N x=true)
  (g:Γ.bnds len lo hi K=some z):∃x y,K x y=some z∧x≤y∧y≤len∧(lo=none→x=0)∧(hi=none→y=len)∧
   ∀s f,len≤f→(Instr.sliceBounds s len f (lo.map a.eval) (hi.map a.eval) none).run P w=.ok (x,y,f) w:=by
 have one:∀{m d:Nat}{o:Option Operand}{r:Nat→Rs ρ}{z:ρ},(∀x,o=some x→b0m N x=true)→d≤m→Γ.bnd m d o r=some z→
   ∃y,r y=some z∧y≤m∧(o=none→y=d)∧(∀x,o=some x→∃k,a.eval x=.int k (y:Int)):=by
  intro m d o r z A hd g;unfold AE.bnd at g;cases o with
  |none=>simp_all
  |some o=>
   simp only at g;have A:=h.opd (A o rfl)
   split at g
   rename_i k y q;rw[q]at A;rcases a0b g with⟨E,g⟩|⟨-,g⟩;simp at E;refine⟨y.toNat,g,by omega,by simp,?_⟩
   rintro x ⟨⟩
   exact⟨k,by grind[a0e.int]⟩;simp_all;simp_all
 unfold AE.bnds at g;obtain⟨y,g,C,p,D⟩:=one u (a14 _) g;obtain⟨x,g,l,e,j⟩:=one v (Nat.zero_le _) g;refine⟨x,y,g,l,C,e,p,fun s f c=>?_⟩;have t:∀(n m:Nat) k b,n≤m→(Instr.sliceBound (.int k (n:Int)) m b).run P w=.ok n w:=fun n m k b F=>by
  simp_all[Instr.sliceBound,asIntOf]
 cases hi with
 |none=>
  have:=p rfl
  subst this;cases lo with
  |none=>
   have:=e rfl
   simp_all[Instr.sliceBounds]
  |some o=>
   obtain⟨k,q⟩:=j o rfl;simp_all[Instr.sliceBounds]
 |some o'=>
  obtain⟨k',i⟩:=D o' rfl;cases lo with
  |none=>
   have:=e rfl
   subst this;simp[Instr.sliceBounds,i,t _ _ _ _ (a06 C c)]
  |some o=>
   obtain⟨k,q⟩:=j o rfl;simp[Instr.sliceBounds,q,i,t _ _ _ _ l,t _ _ _ _ (a06 C c)]
end
section
variable {P:Program} {B:Base} {N:Nat} {ρ:Type} {Γ:AE} {a:Act} {w:World} {σ:Gh}
theorem Rel.sref_head(h:Rel B Γ N (a0f a) w σ){n p v r}(k:a0e (a0a w σ.ov) σ.g Γ.rt (Shr B w σ) (.sref n p) v)(d:Γ.rt n=some r)(b:a0p r.t r.x p=⟨.list true e,l⟩):
  ∃s A c,loc (a0a w σ.ov) r.t (σ.g n) p=some (.list true e,s)∧s.rd (a0a w σ.ov) 0=some v∧v=.slice A l.length c∧l.length≤c∧(∀A',A=some A'→c=0∨A'.spot=none)∧(A=none→c=0):=by
 obtain⟨s,i,j,m,o,q,f,u,y⟩:=h.slice k d b;refine⟨s,?_⟩;rcases c0j f with⟨hv,rfl,-⟩|⟨A,E,c,os,hv,z,C,D,-⟩;simp[Src.rd]at hv
 grind
 simp[Src.rd]at hv
 grind[b0b]
theorem j0e{A:Option Addr}{x y:Nat}{lo hi:Option Value}(g:P.underlying t=some (.slice t'))(I:Info P e t')(h:(Instr.sliceBounds true n c lo hi none).run P w=.ok (x,y,c) w):
  (Instr.sliceAt t (.slice A n c) lo hi none).run P w=.ok (.slice (if c=x then A else A.map fun a=>a.add (x*e.cells)) (y-x) (c-x)) w:=by
 simp[Instr.sliceAt,Instr.slice,run_underlying g,h,I.sizeOf]
theorem u0j{ty:Option Ty}{v:AV}{K:AV→Rs ρ}{z:ρ}(h:o0q ty v K=some z):∃o e,ty=some (.list o e)∧K .empt=some z∧
  ((∃o t l,v=.val (.list o t) l)∨v=.nils∨v=.empt∨(∃n p,v=.sref n p)∨∃n p o k,v=.swin n p o k):=by
 unfold o0q at h
 grind
theorem x0w{lo hi mx:Option Operand}{K:AE→Rs ρ}{z:ρ}(H:CxTy P cx)(ho:o.op=.slice t x lo hi mx)(hd:o.dst=some d)(h:Rel B Γ N (a0f a) w σ)(Y:a.tmps.size=N)(hf:fits N o=true)(u:aop cx q o Γ K=some z):a0j P B N o a w K z:=by
 have Z:∀y∈(o.op.operands.toList),b0m N y=true:=a0r hf;rw[ho]at Z;have C:=h.opd (Z x (by simp[Op.operands]));have Q:∀y,lo=some y→b0m N y=true:=by rintro y rfl;simp_all[Op.operands]
 have O:∀y,hi=some y→b0m N y=true:=by rintro y rfl;simp_all[Op.operands]
 have run:∀v,(Instr.sliceAt t (a.eval x) (lo.map a.eval) (hi.map a.eval) (mx.map a.eval)).run P w=.ok v w→(execOp a.eval o).run P w=.ok (.value v) w:=fun v hv=>by simp[execOp,ho,hv]
 simp[aop,ho,hd,AE.slic]at u;cases mx with
 |some m=>
  simp only at u;rcases a0b u with⟨hc,k2⟩|⟨-,u⟩;simp at hc;obtain⟨⟨hm,hh⟩,rfl⟩:=hc;clear u;have W:∀y:Option Operand,l0z y=true→∃k,y.map a.eval=some (.int k 0):=by
   intro y hy;unfold l0z at hy
   split at hy
   rename_i k;exact⟨k,rfl⟩;simp_all
  obtain⟨km,em⟩:=W _ hm;obtain⟨kh,eh⟩:=W _ hh;obtain⟨o1,e1,hT,u,h6⟩:=u0j k2;obtain⟨V,hty⟩:=H.T t _ hT;obtain⟨t',L,f,-⟩:=b0w hty;obtain⟨I⟩:=a0m (a0s f);have key:∀(A:Option Addr) n c,a.eval x=.slice A n c→a0j P B N o a w K z:=by
   intro A n c hv;have h5:(Instr.sliceBounds true n c none (hi.map a.eval) (some (.int km 0))).run P w=.ok (0,0,0) w:=by
    rw[eh];rfl
   refine a0j.set hd Y (v:=.slice A 0 0) (run _ ?_) h (av:=.empt) ⟨A,rfl⟩ u;rw[hv,em];simp[Instr.sliceAt,Instr.slice,run_underlying L,h5,I.sizeOf]
  rcases h6 with⟨o2,e2,l2,D⟩|D|D|⟨n,p,D⟩|⟨n,p,off,k,D⟩;rw[D]at C;have C:VOk (a0a w σ.ov) (Shr B w σ) (.list o2 e2) l2 (a.eval x):=C;obtain⟨R,G,X⟩:=C.rd rfl rfl;have G:a0w (a0a w σ.ov) o2 e2.cells (dec (a0a w σ.ov) e2) (some (a.eval x))=some (l2,[],R):=G;unfold a0w at G
  grind
  rw[D]at C;exact key none 0 0 C;rw[D]at C;obtain⟨A,hv⟩:=C;simp_all;rw[D]at C;obtain⟨r,e,s,G,X,h3⟩:=C;obtain⟨O',R,g1,g2,-⟩:=h.sep G;obtain⟨y,O1,R1,_,_,_,_,g3,g4,-⟩:=b0f _ r.t _ g1 X;obtain⟨s',A,c,-,-,hv,-,hA,-⟩:=h.sref_head ⟨r,e,s,G,X,h3⟩ G g4;simp_all;rw[D]at C;obtain⟨r,e,s,a0,l0,c0,G,X,h3,h4,a',hv,hA,-⟩:=C;simp_all;simp_all
 |none=>
  simp only at u
  split at u
  
  rename_i l D;rw[D]at C;obtain⟨s,hv,hl⟩:=a0e.str C
  split at u
  rename_i hT;have hty:=(H.T t _ hT).2;have L:P.underlying t=some .string:=by
   simp[a0i]at hty
   grind
  obtain⟨E,y',U,G,X,-,-,M⟩:=h0i h Q O u;have k0:l.length=s.size:=by simp_all
  refine a0j.set hd Y (v:=.string (s.extract E y')) (run _ ?_) h ?_ U;rw[hv];have g0:(Instr.sliceBounds false s.size s.size (lo.map a.eval) (hi.map a.eval) none).run P w=.ok (E,y',s.size) w:=by
   have:=M false s.size (by omega)
   rw[←k0]at this⊢;omega
  simp
  simp[Instr.sliceAt,Instr.slice,run_underlying L,g0]
  have:=a0e.mk_str (m:=a0a w σ.ov) (g:=σ.g) (rt:=Γ.rt) (Sh:=Shr B w σ) (s.extract E y')
  simp_all[a31];simp_all
  
  rename_i e l D;rw[D]at C
  split at u
  rename_i hT;obtain⟨V,hty⟩:=H.T t _ hT;obtain⟨t',L,f,-⟩:=b0w hty;obtain⟨I⟩:=a0m (a0s f);obtain⟨E,y',U,G,X,-,-,M⟩:=h0i h Q O u;obtain⟨A,n,c,hv,hn,hc,hA,h8⟩:=VOk.header C;have k1:VOk (a0a w σ.ov) (Shr B w σ) (.list false e) l (.slice A n c):=by rw[←hv];exact C
  refine a0j.set hd Y (run _ (by rw[hv];exact j0e L I (by rw[hn];exact M true c (by omega)))) h ?_ U;exact VOk.window k1 G (by omega) rfl;simp_all
  
  rename_i D;rw[D]at C
  split at u
  rename_i o1 e1 hT;obtain⟨V,hty⟩:=H.T t _ hT;obtain⟨t',L,f,-⟩:=b0w hty;obtain⟨I⟩:=a0m (a0s f);obtain⟨E,y',U,G,X,-,-,M⟩:=h0i h Q O u;obtain rfl:y'=0:=by omega
  obtain rfl:E=0:=by omega
  have hv:a.eval x=.slice none 0 0:=C;refine a0j.set hd Y (v:=.slice none 0 0) (run _ ?_) h (av:=.nils) rfl U;rw[hv,Option.map_none]
  have:=j0e (A:=none) L I (M true 0 (by omega))
  simp_all;simp_all
  ·
   rename_i n p D;rw[D]at C;obtain⟨r,e,l,g9,hr,hg,u⟩:=n0l u
   split at u
   ·rename_i hT;obtain⟨V,hty⟩:=H.T t _ hT;obtain⟨t',L,f,-⟩:=b0w hty;rw[d0g]at f;obtain⟨I⟩:=a0m (a0s f);obtain⟨s,A,c,g1,g2,hv,g3,hA,h8⟩:=h.sref_head C hr hg
    split at u
    refine a0j.set hd Y (v:=a.eval x) (run _ ?_) h C u;rw[hv];have M:(Instr.sliceBounds true l.length c none none none).run P w=.ok (0,l.length,c) w:=by rfl
    have:=j0e (A:=A) L I M
    simp_all[Addr.add_zero']
    ·obtain⟨E,y',U,G,X,-,-,M⟩:=h0i h Q O u;refine a0j.set hd Y (run _ (by rw[hv];exact j0e L I (M true c g3))) h (av:=.swin n p E (y'-E)) ?_ U;refine⟨r,e,s,A,l.length,c,hr,g1,by simp_all,by omega,_,rfl,?_,?_⟩
     ·intro A' h0
      split at h0
      omega
      ·cases A with
       |none=>simp_all
       |some a0=>
        simp at h0;rw[←h0,d0i ((hA a0 rfl).resolve_left (by omega))]
        simp
     grind
   simp_all
  ·
   rename_i n p off k D;rw[D]at C;obtain⟨r,e,l,g9,hr,hg,u⟩:=n0l u
   split at u
   ·rename_i hT;obtain⟨V,hty⟩:=H.T t _ hT;obtain⟨t',L,f,-⟩:=b0w hty;rw[d0g]at f;obtain⟨I⟩:=a0m (a0s f);obtain⟨s,O',R',A,n0,c,g1,g2,g3,g4,g5,g6,A',hv,g7,g8⟩:=h.window C hr hg;obtain⟨E,y',U,G,X,-,-,M⟩:=h0i h Q O u;have k5:n0≤c:=by
     rcases c0j g3 with⟨F,-⟩|⟨A0,nn,c',os,F,-,k4,-⟩<;>simp only[Src.rd,if_true,sj,Value.slice.injEq]at F<;>omega
    refine a0j.set hd Y (run _ (by rw[hv];exact j0e L I (M true (c-off) (by omega)))) h (av:=.swin n p (off+E) (y'-E)) ?_ U;refine⟨r,e,s,A,n0,c,hr,g1,g2,by omega,_,by rw[show c-(off+E)=c-off-E from by omega],?_,?_⟩
    ·intro k3 S
     split at S
     omega
     ·cases A' with
      |none=>simp_all
      |some a0=>
       simp at S;rw[←S,d0i ((g7 a0 rfl).resolve_left (by omega))]
       simp
    ·by_cases hcc:c-off=E
     omega
     ·refine .inr ?_
      rw[if_neg hcc];rcases g8 with g8|g8;omega
      ·rw[g8];cases A with
       |none=>rfl
       |some a0=>
        have h9:a0.spot=none:=by
         rcases c0j g3 with⟨F,-⟩|⟨A0,nn,c',os,F,k6,-⟩;simp[Src.rd]at F;simp[Src.rd]at F
         grind
        simp only[a25,d0i h9];rw[d0i rfl]
        grind
   simp_all
  
  rename_i k e l D;rw[D]at C
  split at u
  rename_i hT;obtain⟨V,hty⟩:=H.T t _ hT;obtain⟨t',L,f,-⟩:=h0f hty;obtain⟨I⟩:=a0m (a0s f);obtain⟨E,y',U,G,X,-,-,M⟩:=h0i h Q O u;obtain⟨b,off,R,hv,J,hS,hR⟩:=C;have F:VOk (a0a w σ.ov) (Shr B w σ) (.list false e) l (.slice (some ⟨b,off,none⟩) k k):=by
   have J:a0d (fun i=>dec (a0a w σ.ov) e fun j=>(Src.at b off).rd (a0a w σ.ov) (i*e.cells+j)) k 0=some (l,[],R):=J;have h7:=b0b k 0 J
   by_cases hk:k=0
   subst hk;refine VOk.one (t:=.list false e) (R:=[]) rfl rfl ?_ (by simp) rfl
   have:l=[]:=a09.1 h7
   subst this;rfl;refine VOk.one (t:=.list false e) (R:=b::R) rfl rfl ?_ (fun c hc=>?_) rfl;show a0w _ false e.cells _ (some (.slice (some ⟨b,off,none⟩) k k))=_;simp only[a0w];rw[if_pos ⟨.inr trivial,a14 _⟩];have e2:a0d (fun i=>dec (a0a w σ.ov) e fun j=>a0a w σ.ov b (off+(i*e.cells+j))) k 0=some (l,[],R):=J;rw[e2];simp only[a18,if_false,hk];rfl
   grind
  refine a0j.set hd Y (v:=.slice (some (if k=E then⟨b,off,none⟩else(⟨b,off,none⟩:Addr).add (E*e.cells))) (y'-E) (k-E)) (run _ ?_) h ?_ U
  rw[hv];have h5:=M false k (a14 _)
  simp
  simp[Instr.sliceAt,run_underlying L,Instr.sureAddr];rw[h5];simp[I.sizeOf];exact VOk.window F G (by omega) (by grind);simp_all;simp_all
end
section
variable {P:Program} {B:Base} {N:Nat} {ρ:Type} {Γ:AE} {a:Act} {w:World} {σ:Gh}
def F0a(G:GTab)(B:Base):Prop:=
 ∀g t x,G.g g=some ⟨t,x⟩→g<B.size∧B.S g∧¬ B.F g∧∃w0:World,w0.heap[g]?=B.hp g∧dec (a0a w0 none) t ((Src.at g 0).rd (a0a w0 none))=some (x,[],[])
def d0s(m:Mem)(Sh:Nat→Prop)(t:Ty):List (Int×t.den)→List MapEntry→Prop
 | [],[]=>True
 |p::L,e::es=>e.key=.int .i64 p.1∧VOk m Sh t p.2 e.val∧d0s m Sh t L es
 |_,_=>False
def F0b(G:GTab)(B:Base):Prop:=
 ∀t b L,G.m=some ⟨t,b,L⟩→∃(n:Nat)(w0:World)(es:Array MapEntry)(k:Nat),b=(n:Int)∧n<B.size∧¬ B.F n∧B.hp n=some (.map es k)∧
  d0s (a0a w0 none) (fun c=>c<B.size∧B.S c∧¬ B.F c∧w0.heap[c]?=B.hp c) t L es.toList
def GOk(G:GTab)(B:Base):Prop:=F0a G B∧F0b G B
theorem d0s.frame{t:Ty}(g:∀c j,Sh c→m' c j=m c j)(hs:∀c,Sh c→Sh' c):∀{L:List (Int×t.den)} {es:List MapEntry},d0s m Sh t L es→d0s m' Sh' t L es
 | [],[],_=>trivial
 |_::_,_::_,⟨h1,h2,h3⟩=>⟨h1,h2.frame g hs,d0s.frame g hs h3⟩
 | [],_::_,h=>h.elim
 |_::_,[],h=>h.elim
theorem Rel.glob{tm:Nat→Value}{cx:Cx}(h:Rel B Γ N tm w σ)(C:GOk cx.G B){av:AV}{v:Value}(c:a0e (a0a w σ.ov) σ.g Γ.rt (Shr B w σ) av v):
  a0e (a0a w σ.ov) σ.g Γ.rt (Shr B w σ) (cx.glob av) v:=by
 cases av with
 |glob g=>
  simp only[Cx.glob];split
  ·rename_i t x E;obtain⟨m,s,a,l,y,z⟩:=C.1 g t x E;have f:¬ a0u σ g:=fun I=>by
    rcases h.mine _ I with q|q;exact a q;omega
   have H:=h.size;refine⟨g,0,[],c,a0k t z (fun j _=>?_) (by simp),⟨by omega,.inl s,f⟩,by simp⟩;show a0a w σ.ov g (0+j)=a0a l none g (0+j);have A:a0a w none g (0+j)=a0a l none g (0+j):=b0q none ((h.frame g m a).trans y.symm) _;rw[←A];cases hov:σ.ov with
   |none=>rfl
   |some ov=>
    obtain⟨b,o,u⟩:=ov;have hp:=h.pend;rw[hov]at hp;cases hpd:Γ.pd with
    |none=>rw[hpd]at hp;exact hp.elim
    |some p=>
     obtain⟨n,p,d⟩:=p;rw[hpd]at hp;obtain⟨r,e,q1,i⟩:=hp;rw[←hov]at i;have D:=h.place q1 i;have k:¬ (g=b∧0+j=o):=fun F=>f ⟨n,by rw[F.1];exact D⟩;simp only[a0a,if_neg k]
  trivial
 |_=>exact c
theorem l0o{A:Addr}{k:IntKind}{i:Int}(b:P.underlying t=some (.slice t'))(I:Info P e t')(f:A.spot=none)(h:0≤i)(g:i<n):
  (Instr.indexAt t (.slice (some A) n c) (.int k i)).run P w=.ok (.pointer (some ⟨A.block,A.off+i.toNat*e.cells,none⟩)) w:=by
 have a:0≤i∧i<(n:Int):=⟨h,g⟩;simp[Instr.indexAt,run_underlying b,asIntOf,a,I.sizeOf,d0i f]
theorem m0c{o:Nat}{k:IntKind}{i:Int}(a:P.underlying t=some (.array n t'))(I:Info P e t')(h:0≤i)(g:i<n):
  (Instr.indexAt t (.pointer (some ⟨b,o,none⟩)) (.int k i)).run P w=.ok (.pointer (some ⟨b,o+i.toNat*e.cells,none⟩)) w:=by
 have f:0≤i∧i<(n:Int):=⟨h,g⟩;simp[Instr.indexAt,run_underlying a,asIntOf,f,I.sizeOf,Instr.sureAddr,Addr.add_lit]
theorem r0r{i:Operand}{K:AE→Rs ρ}{z:ρ}(D:CxTy P cx)(hG:GOk cx.G B)(ho:o.op=.indexAddr t x i)(hd:o.dst=some d)(h:Rel B Γ N (a0f a) w σ)(X:a.tmps.size=N)(hf:fits N o=true)(g:aop cx q o Γ K=some z):a0j P B N o a w K z:=by
 have F:∀y∈(o.op.operands.toList),b0m N y=true:=a0r hf;rw[ho]at F;have J:=h.glob hG (h.opd (F x (by simp[Op.operands])));have hi:=h.opd (F i (by simp[Op.operands]));have run:∀v,(Instr.indexAt t (a.eval x) (a.eval i)).run P w=.ok v w→(execOp a.eval o).run P w=.ok (.value v) w:=fun v hv=>by simp[execOp,ho,hv]
 simp only[aop,ho,hd]at g
 split at g
 case h_2=>cases g
 rename_i k j h5;rw[h5]at hi;have h6:=a0e.int hi;rw[h6]at run;simp only[AE.addrK]at g
 split at g
 
 rename_i e l L;rw[L]at J
 split at g
 rename_i hT;obtain⟨H,hty⟩:=D.T t _ hT;obtain⟨t',Q,f,-⟩:=b0w hty;obtain⟨I⟩:=a0m (a0s f);obtain⟨y,M,g⟩:=a10.1 g;obtain⟨h0,W,U⟩:=k0v M;have h4:e.sh=e:=by simpa[Ty.sh]using H
 obtain⟨A,n,c,R,hv,hA,hn,h8,m,hS,hR⟩:=VOk.elem h4 J U;refine a0j.set hd X (run _ (by rw[hv];exact l0o Q I hA h0 (by omega))) h (av:=.vptr e y) ?_ g;exact⟨A.block,A.off+j.toNat*e.cells,R,rfl,m,hS,hR⟩;cases g
 ·
  rename_i n p L;rw[L]at J;obtain⟨r,e,l,O,M,g⟩:=x0m g
  split at g
  ·rename_i hT;obtain⟨H,hty⟩:=D.T t _ hT;obtain⟨t',Q,f,-⟩:=b0w hty;rw[d0g]at f;obtain⟨I⟩:=a0m (a0s f);rcases a0b g with⟨C,g⟩|⟨-,g⟩
   ·simp only[bA,dT]at C;obtain⟨s,A,c,g1,g2,hv,g3,hA,Z⟩:=h.sref_head J O M;cases A with
    |none=>have:=Z rfl;omega
    |some A=>
     refine a0j.set hd X (run _ (by rw[hv];exact l0o Q I ((hA A rfl).resolve_left (by omega)) C.1 C.2)) h (av:=.ptr n (p++[.idx j.toNat])) ?_ g;refine⟨r,e,A.block,A.off+j.toNat*e.cells,O,?_,rfl⟩;rw[d0l p _ _ _ g1];have E:j.toNat<l.length:=by omega
     simp only[loc,a0t,g2,hv,if_pos E]
   cases g
  cases g
 
 rename_i n p off k' L;rw[L]at J;obtain⟨r,e,l,k1,O,M,g⟩:=n0l g
 split at g
 rename_i hT;obtain⟨H,hty⟩:=D.T t _ hT;obtain⟨t',Q,f,-⟩:=b0w hty;rw[d0g]at f;obtain⟨I⟩:=a0m (a0s f);rcases a0b g with⟨C,g⟩|⟨-,g⟩;simp only[bA,dT]at C;obtain⟨s,O',R',A,n0,c,g1,g2,g3,g4,g5,g6,A',hv,g7,V⟩:=h.window J O M;have h8:n0≤c:=by
  rcases c0j g3 with⟨u,-⟩|⟨A0,nn,c',os,u,-,h7,-⟩<;>simp only[Src.rd,if_true,sj,Value.slice.injEq]at u<;>omega
 rcases c0j g3 with⟨u,-⟩|⟨A0,nn,c',os,u,S,h7,-⟩;simp only[Src.rd,if_true,sj,Value.slice.injEq]at u;omega;simp only[Src.rd,if_true,sj,Value.slice.injEq]at u;obtain⟨rfl,rfl,rfl⟩:=u;have S:A0.spot=none:=S.resolve_left (by omega);rcases V with V|V;omega;simp only[a25,d0i S]at V;subst V;refine a0j.set hd X (run _ (by rw[hv];exact l0o Q I rfl C.1 C.2)) h (av:=.ptr n (p++[.idx (off+j.toNat)])) ?_ g;refine⟨r,e,A0.block,A0.off+(off+j.toNat)*e.cells,O,?_,by rw[Nat.add_mul,a20]⟩;rw[d0l p _ _ _ g1];have E:off+j.toNat<n0:=by omega
 simp only[loc,a0t,g2,if_pos E];cases g;cases g
 
 rename_i n p L;rw[L]at J
 split at g
 rename_i r O
 split at g
 rename_i k' e l' M
 split at g
 rename_i hT;obtain⟨H,hty⟩:=D.T t _ hT;obtain⟨t',Q,f,-⟩:=h0f hty;rw[d0g]at f;obtain⟨I⟩:=a0m (a0s f);rcases a0b g with⟨C,g⟩|⟨-,g⟩;simp only[bA,dT]at C;obtain⟨r',tt,b,off,W,U,h3⟩:=J;rw[O]at W;simp only[sj]at W;subst W;obtain⟨O1,R1,l1,l2,-⟩:=h.sep O;obtain⟨y,O',R',_,_,_,_,g3,g4,-⟩:=b0f p r.t _ l1 U;rw[M]at g4;have g0:Ty.arr k' e=tt:=congrArg Sigma.fst g4;subst g0;refine a0j.set hd X (run _ (by rw[h3];exact m0c Q I C.1 C.2)) h (av:=.ptr n (p++[.idx j.toNat])) ?_ g;refine⟨r,e,b,off+j.toNat*e.cells,O,?_,rfl⟩;rw[d0l p _ _ _ U];have E:j.toNat<k':=by omega
 simp only[loc,a0t,if_pos E];cases g;cases g;cases g;cases g
 
 rename_i k' e l L;rw[L]at J
 split at g
 rename_i hT;obtain⟨H,hty⟩:=D.T t _ hT;obtain⟨t',Q,f,-⟩:=h0f hty;obtain⟨I⟩:=a0m (a0s f);obtain⟨y,M,g⟩:=a10.1 g;obtain⟨h0,W,U⟩:=k0v M;obtain⟨b,off,R,hv,m,hS,hR⟩:=J;have m:a0d (fun i=>dec (a0a w σ.ov) e fun j=>(Src.at b off).rd (a0a w σ.ov) (i*e.cells+j)) k' 0=some (l,[],R):=m;simp only[e0e]at m;have g9:=b0b k' 0 m;obtain⟨y',o',r',A,B',A',k0,Y,hy,e1,e2⟩:=b0a k' 0 j.toNat m (by omega);rw[U]at hy;simp only[sj]at hy;subst hy;have h9:o'=[]:=by
  have:=congrArg a01 e1
  simp at this;exact a09.1 (by omega)
 subst h9;simp only[a08]at Y;refine a0j.set hd X (run _ (by rw[hv];exact m0c Q I h0 (by omega))) h (av:=.vptr e y) ?_ g;exact⟨b,off+j.toNat*e.cells,r',rfl,Y,hS,fun c C=>hR c (by rw[e2];simp[C])⟩;cases g;cases g
theorem r0q{f:Nat}{K:AE→Rs ρ}{z:ρ}(u:CxTy P cx)(G:o.op=.fieldAddr t x f)(hd:o.dst=some d)(h:Rel B Γ N (a0f a) w σ)(V:a.tmps.size=N)(hf:fits N o=true)(i:aop cx q o Γ K=some z):a0j P B N o a w K z:=by
 have m:∀y∈(o.op.operands.toList),b0m N y=true:=a0r hf;rw[G]at m;have C:=h.opd (m x (by simp[Op.operands]));have run:∀v,(Instr.fieldAt t (a.eval x) f).run P w=.ok v w→(execOp a.eval o).run P w=.ok (.value v) w:=fun v hv=>by simp[execOp,G,hv]
 simp only[aop,G,hd]at i
 split at i
 rename_i n p F;rw[F]at C
 split at i
 rename_i r I;generalize hg:b0j p r.t r.x=gg at i;obtain⟨D,y⟩:=gg;simp only at i
 split at i
 rename_i l;obtain⟨J,hty⟩:=u.T t _ l.2;rw[d0g]at hty;obtain⟨τ',k,X,W⟩:=l0n (w:=w) (b:=0) (o:=0) hty l.1;obtain⟨r',t1,b,off,E,U,h3⟩:=C;rw[I]at E;simp only[sj]at E;subst E;obtain⟨O1,R1,l1,l2,-⟩:=h.sep I;obtain⟨y',O,Q,_,_,_,_,S,j,-⟩:=b0f p r.t _ l1 U;have j:=hg.symm.trans j;have s:D=t1:=congrArg Sigma.fst j;subst s;obtain⟨τ2,M,e,g⟩:=l0n (P:=P) (w:=w) (b:=b) (o:=off) hty l.1;refine a0j.set hd V (run _ (by rw[h3];exact e)) h (av:=.ptr n (p++b0l f)) ?_ i;exact⟨r,τ2,b,off+M,I,by rw[d0l p _ _ _ U];exact g _ _ _,rfl⟩;cases i;cases i;rename_i D y F;rw[F]at C
 split at i
 rename_i l;obtain⟨J,hty⟩:=u.T t _ l.2;obtain⟨b,off,R,hv,A,hS,hR⟩:=C;obtain⟨τ2,M,e,g⟩:=l0n (P:=P) (w:=w) (b:=b) (o:=off) hty l.1;generalize hg:b0j (b0l f) D y=gg at i;obtain⟨t2,y2⟩:=gg;simp only at i;obtain⟨y',O,Q,A1,B1,Y,Z,S,j,e1,e2⟩:=b0f (b0l f) D (.at b off) A (g _ _ _);have j:=hg.symm.trans j;have s:t2=τ2:=congrArg Sigma.fst j;subst s;have L:=eq_of_heq (Sigma.mk.inj j).2;subst L;have H:O=[]:=by
  have:=congrArg a01 e1
  simp at this;exact a09.1 (by omega)
 subst H;refine a0j.set hd V (run _ (by rw[hv];exact e)) h (av:=.vptr t2 y2) ?_ i;exact⟨b,off+M,Q,rfl,S,hS,fun c l=>hR c (by rw[e2];simp[l])⟩;cases i;cases i
theorem Rel.lod{tm:Nat→Value}{ty:Ty}{av:AV}{u:Value}{K:AV→AE→Rs ρ}{z:ρ}(hty:a0i P ty (.inl t)=true)(h7:ty.sh=ty)(h:Rel B Γ N tm w σ)(hx:a0e (a0a w σ.ov) σ.g Γ.rt (Shr B w σ) av u)(k:Γ.lodK q ty av K=some z):
  ∃v Γ' σ' av',(Instr.loadAt t u).run P w=.ok v w∧Rel B Γ' N tm w σ'∧a0e (a0a w σ'.ov) σ'.g Γ'.rt (Shr B w σ') av' v∧K av' Γ'=some z∧
   ((Γ'=Γ∧σ'=σ)∨(q=false∧∃n,av=.ptr n []∧Γ'=(Γ.mapv (AV.drop n)).setRt n none)):=by
 simp only[AE.lodK]at k
 split at k
 ·
  rename_i O y
  split at k
  ·rename_i A;subst A;obtain⟨b,off,R,hv,J,hS,hR⟩:=hx;have f:∀j,j<O.cells→w.cell? ⟨b,off+j,none⟩=a0a w σ.ov b (off+j):=by
    intro j _;cases o:σ.ov with
    |none=>rfl
    |some y0=>
     obtain⟨b',o',v'⟩:=y0;simp only[a0a];rw[if_neg]
     rintro⟨rfl,-⟩
     have hp:=h.pend;cases s:Γ.pd with
     |none=>rw[s,o]at hp;exact hp
     |some y1=>
      obtain⟨n,p,dd⟩:=y1;rw[s,o]at hp;obtain⟨r,e,F,hl⟩:=hp;rw[←o]at hl;exact hS.2.2 ⟨n,h.place F hl⟩
   obtain⟨v,a,i⟩:=j0m (P:=P) (w:=w) (Sh:=Shr B w σ) hty J f hR;exact⟨_,_,_,.val O y,(by rw[hv];exact a),h,i,k,.inl ⟨rfl,rfl⟩⟩
  cases k
 ·
  rename_i n p
  split at k
  ·rename_i r F;obtain⟨s,F⟩:=a0q F;have o:σ.ov=none:=by
    have hp:=h.pend;rw[s]at hp;cases o:σ.ov with
    |none=>rfl
    |some y=>rw[o]at hp;exact hp.elim
   have f:∀b j,w.cell? ⟨b,j,none⟩=a0a w σ.ov b j:=fun b j=>by rw[o];rfl
   obtain⟨r',t1,b,off,T,Q,U⟩:=hx;rw[F]at T;simp only[sj]at T;subst T;obtain⟨O1,R1,l1,l2,l3,l4,l5,l6⟩:=h.sep F;obtain⟨y',O',R',A1,B1,h4,h5,S,G,e1,e2⟩:=b0f p r.t _ l1 Q
   split at k
   rename_i e l W;rw[W]at G;have A:Ty.list true e=t1:=congrArg Sigma.fst G;subst A
   split at k
   rename_i E;obtain⟨v,hv,hs⟩:=e0b _ S 0 (by simp[Ty.cells]);have hw:w.cell? ⟨b,off,none⟩=some v:=by rw[f];exact hv
   have I:ty.isAgg=false:=by cases ty<;>first|rfl|cases E
   refine⟨v,Γ,σ,.sref n p,?_,h,⟨r,e,.at b off,F,Q,hv⟩,k,.inl ⟨rfl,rfl⟩⟩;rw[U];simp[Instr.loadAt,Instr.sureAddr,loadVar,e0z hty,I,hw];cases k;rename_i O y h6 W;rw[W]at G;have A:O=t1:=congrArg Sigma.fst G;subst A;have h0:=eq_of_heq (Sigma.mk.inj G).2;subst h0
   split at k
   rename_i d;obtain⟨d,M⟩:=d;have Z:=h0c M S;subst Z;obtain⟨v,a,i⟩:=j0m (P:=P) (w:=w) (Sh:=Shr B w σ) (t:=t) (by rw[←d0g,d];exact hty) S (fun j _=>f b (off+j)) (fun c V=>l2 c (by rw[e2];simp[V]));exact⟨_,_,_,.val O y,(by rw[U];exact a),h,i,k,.inl ⟨rfl,rfl⟩⟩
   split at k
   split at k
   rename_i d;subst d;simp only[loc,a0t,sj,pJ]at Q;obtain⟨rfl,X⟩:=Q;obtain⟨R2,k1,k2⟩:=l0w _ l1;rw[X]at k1;have D:=h.drop (n:=n) (by simp[s]);have H:∀c∈R2,Shr B w ⟨σ.g,fun m=>if m=n then[]else σ.ow m,σ.ov⟩ c:=by
    intro c V;rcases k2 c V with g|g;have C:a0u σ c:=⟨n,l4 c g⟩;refine⟨h.lt C,.inr (h.mine c C),fun⟨m,L⟩=>?_⟩;have L:c∈(if m=n then[]else σ.ow m).map (·.1):=L
    split at L
    simp at L;rename_i Y;exact h.disj m n Y c L (l4 c g);exact Rel.shr_gone c (l2 c g)
   obtain⟨v,a,i⟩:=j0m (P:=P) (w:=w) (m:=a0a w σ.ov) (t:=t) (by rw[←d0g,Ty.sh_shn];exact hty) k1 (fun j _=>f b (off+j)) H;exact⟨_,_,_,.val r.t.shn (Ty.shnx r.t r.x),(by rw[U];exact a),D,i,k,.inr ⟨rfl,n,rfl,rfl⟩⟩;cases k;cases k
  cases k
 cases k
theorem r0x{m:Mem}:∀(p:a0l)(t:Ty)(s:Src){t1 s1},e0h p=true→loc m t s p=some (t1,s1)→∃t2,loc m t.shn s p=some (t2,s1)
 | [],t,s,t1,s1,_,h=>by
  simp only[loc,a0t,sj,pJ]at h;exact⟨_,by rw[←h.2];rfl⟩
 |.fst::p,t,s,t1,s1,hf,h=>by
  obtain⟨a,b,bl,so,rfl,rfl,h⟩:=d0v h;exact r0x p a (.at bl so) hf h
 |.snd::p,t,s,t1,s1,hf,h=>by
  obtain⟨a,b,bl,so,rfl,rfl,h⟩:=d0w h;obtain⟨t2,g⟩:=r0x p b _ hf h;refine⟨t2,?_⟩;show loc m b.shn (.at bl (so+a.shn.cells)) p=_;rw[Ty.cells_shn];exact g
 |.idx _::_,_,_,_,_,hf,_=>by cases hf
theorem Rel.frzF{tm:Nat→Value}(h:Rel B Γ N tm w σ){k:Bool}{av:AV}(hv:a0e (a0a w σ.ov) σ.g Γ.rt (Shr B w σ) av v):
  ∃σ',Rel B (Γ.frzF k av) N tm w σ'∧a0e (a0a w σ'.ov) σ'.g (Γ.frzF k av).rt (Shr B w σ') av v:=by
 unfold AE.frzF;split
 ·rename_i n s p;split
  ·rename_i r a;split
   ·cases hc:(k&&(r.bx&&e0h (s::p)))with
    |false=>exact⟨σ,h,hv⟩
    |true=>
     simp only[bA]at hc;obtain⟨c,e⟩:=a0q a;obtain⟨m,-,f⟩:=h.frzBox e hc.2.1 c;refine⟨_,f,?_⟩;obtain⟨r2,o,b,off,d,i,j⟩:=hv;rw[e]at d;cases d;obtain⟨t2,l⟩:=r0x (s::p) r.t _ hc.2.2 i;exact⟨⟨true,r.t.shn,Ty.shnx r.t r.x⟩,t2,b,off,by simp[AE.setRt],l,j⟩
   exact⟨σ,h,hv⟩
  exact⟨σ,h,hv⟩
 exact⟨σ,h,hv⟩
theorem z0r{K:AE→Rs ρ}{z:ρ}(S:CxTy P cx)(hG:GOk cx.G B)(W:o.op=.load t x)(hd:o.dst=some d)(h:Rel B Γ N (a0f a) w σ)(O:a.tmps.size=N)(hf:fits N o=true)(u:aop cx q o Γ K=some z):a0j P B N o a w K z:=by
 have c:∀y∈(o.op.operands.toList),b0m N y=true:=a0r hf;rw[W]at c;have hx:=h.glob hG (h.opd (c x (by simp[Op.operands])));have run:∀v,(Instr.loadAt t (a.eval x)).run P w=.ok v w→(execOp a.eval o).run P w=.ok (.value v) w:=fun v hv=>by simp[execOp,W,hv]
 simp only[aop,W,hd]at u
 split at u
 case h_2=>cases u
 rename_i ty hT;obtain⟨F,hty⟩:=S.T t _ hT
 split at u
 case h_2=>
  cases q with
  |true=>
   obtain⟨v,Γ',σ',L,l,A,C,M,-⟩:=Rel.lod hty F h hx u;exact a0j.set hd O (run _ l) A C M
  |false=>
   obtain⟨σ0,h0,Y⟩:=h.frzF (k:=cx.K d) (h.opd (c x (by simp[Op.operands])));obtain⟨v,Γ',σ',L,l,A,C,M,-⟩:=Rel.lod hty F h0 (h0.glob hG Y) u;exact a0j.set hd O (run _ l) A C M
 rename_i n r f;have f:Γ.whole (cx.K d) ty (Γ.opd x)=some (n,r):=by
  cases q with
  |true=>cases f
  |false=>exact f
 unfold AE.whole at f
 split at f
 ·rename_i m X
  split at f
  ·rename_i i V
   split at f
   ·rename_i hc;simp only[sj,pJ]at f;obtain⟨rfl,rfl⟩:=f;obtain⟨Q,-,-,H⟩:=hc;obtain⟨D,hr⟩:=a0q V;have s:σ.ov=none:=by
     have hp:=h.pend;rw[D]at hp;cases s:σ.ov with
     |none=>rfl
     |some y=>rw[s]at hp;exact hp.elim
    have J:=h.opd (c x (by simp[Op.operands]));rw[X]at J;obtain⟨r2,t1,b,off,l,A,C⟩:=J;rw[hr]at l;simp only[sj]at l;subst l;obtain⟨Z,hg,e⟩:=h.frzBox hr Q D;simp only[loc,a0t,sj,pJ]at A;obtain⟨-,p⟩:=A;rw[hg]at p;simp only[Src.at.injEq]at p;obtain⟨rfl,rfl⟩:=p;obtain⟨O',R,k1,k2,k3⟩:=(e.roots m ⟨true,i.t.shn,Ty.shnx i.t i.x⟩ (by simp[AE.setRt])).rd;have hO:=h0c (Ty.shn_shn i.t) k1;subst hO;have U:(Src.at Z 0).rd (a0a w σ.ov)=(σ.g m).rd (a0a w σ.ov):=by rw[hg]
    obtain⟨v,E,I⟩:=j0m (P:=P) (w:=w) (m:=a0a w σ.ov) (τ:=i.t.shn) (b:=Z) (o:=0) (by rw[←d0g,Ty.sh_shn,H];exact hty) (by rw[U];exact k1) (fun j _=>by rw[s];rfl) k2;exact a0j.set hd O (av:=.val i.t.shn (Ty.shnx i.t i.x)) (run _ (by rw[C];exact E)) e I u
   cases f
  cases f
 cases f
end
theorem x0p{α:Type}{f:Nat→Option (α×b0k×List Nat)}{S:Nat→Prop}:∀(l:List α)(i:Nat),(∀j x,l[j]?=some x→∃r,f (i+j)=some (x,[],r)∧∀c∈r,S c)→
  ∃g,a0d f l.length i=some (l,[],g)∧∀c∈g,S c
 | [],i,_=>⟨[],rfl,by simp⟩
 |x::l,i,h=>by
  obtain⟨r,k,a⟩:=h 0 x rfl;obtain⟨g,b,d⟩:=x0p l (i+1) (fun j y m=>by
   have:=h (j+1) y (by simp_all)
   rwa [show i+(j+1)=i+1+j from by omega]at this)
  refine⟨r++g,?_,fun c e=>?_⟩;simp_all[a0d]
  grind
theorem RootOk.mono{r s O}(h:RootOk m Sh r s O)(hs:∀c,Sh c→Sh' c):RootOk m Sh' r s O:=by
 obtain⟨g,R,f,k,a⟩:=h.rd;exact⟨g,R,f,fun c b=>hs c (k c b),a⟩
theorem Rel.fresh{ρ:Type}{B Γ N tm w σ}{q:Bool}{n:Nat}{r:Root}{K:AE→Rs ρ}{z:ρ}(h:Rel B Γ N tm w σ)(f:Γ.fresh q n r K=some z){w':World}
  (a:∀c,c<w.heap.size→w'.heap[c]?=w.heap[c]?)(l:w.heap.size≤w'.heap.size){s:Src}{O:b0k}(t:∀c∈O.map (·.1),w.heap.size≤c)(i:(O.map (·.1)).Nodup)
  (d:∀p∈O,b0c w' p.1 p.2)(j:RootOk (a0a w' σ.ov) (Shr B w σ) r s O)(hio:c0o w'=c0o w:=by first|rfl|assumption):∃Γ' σ',K Γ'=some z∧Rel B Γ' N tm w' σ'∧Γ'.rt n=some r∧σ'.g n=s∧σ'.ov=σ.ov∧Γ'=Γ.newRt n r:=by
 unfold AE.fresh at f;obtain⟨b,f⟩:=(a0b f).elim id fun h=>by grind
 have b:n<pinned:=by simp_all
 split at f
 rename_i o;have e:Γ.newRt n r=Γ.setRt n (some r):=by unfold AE.newRt;grind
 refine⟨_,⟨fun m=>if m=n then s else σ.g m,fun m=>if m=n then O else σ.ow m,σ.ov⟩,f,by rw[e];exact h.add o b a l t i d j,by rw[e];simp[AE.setRt],by simp,rfl,rfl⟩
 rename_i C o;rcases a0b f with⟨-,f⟩|⟨-,f⟩
 grind
 split at f
 grind
 rename_i D v;obtain⟨A,-⟩:=a0q v;have e:Γ.newRt n r=((Γ.mapv (AV.drop n)).setRt n none).setRt n (some r):=by
  unfold AE.newRt;rw[o];simp only[AE.setRt,AE.mapv]
  grind
 have hd:=h.drop (n:=n) (by simp_all);refine⟨_,⟨fun m=>if m=n then s else σ.g m,fun m=>if m=n then O else(if m=n then[]else σ.ow m),σ.ov⟩,f,by rw[e];exact hd.add (n:=n) (by simp[AE.setRt]) b a l t i d (j.mono fun c u=>Rel.shr_gone c u),by rw[e];simp[AE.setRt],?_,rfl,rfl⟩
 simp
where
 rt_ne' {n k:Nat} {x y:Option Root} (h:k≠n):(bif k==n then x else y)=y:=by
  grind
theorem A0b(w:World)(o:Obj)(c:Nat)(h:c<w.heap.size):(w.alloc o).heap[c]?=w.heap[c]?:=by
 simp only[World.alloc,Array.getElem?_push]
 grind
theorem l0p{P:Program}:∀(f:Nat)(τ:Ty)(fs:List Field)(off:Nat),a0i P τ (.inr (fs,off))=true→c0k τ f=true→
  ∃fl τ' k,fs[f]?=some fl∧fl.offset=off+k∧a0i P τ' (.inl fl.type)=true∧k+τ'.cells≤τ.cells∧
   ∀(m:Mem) rd x O R,dec m τ rd=some (x,O,R)→∃y g d,dec m τ' (fun j=>rd (k+j))=some (y,g,d)∧a0p τ x (b0l f)=⟨τ',y⟩∧(O=[]→g=[])∧∀c∈d,c∈R
 |0,τ,fs,off,h,hf=>by
  cases τ with
  |pair a b=>
   cases fs with
   |nil=>simp[a0i]at h
   |cons fl r=>
    simp[a0i]at h;refine⟨fl,a,0,rfl,by omega,h.1.1.2,by simp[Ty.cells],fun m rd x O R hd=>?_⟩;obtain⟨o,o1,n,p,o2,r2,v,w,rfl,rfl,rfl⟩:=c0h hd;exact⟨o,o1,n,by simp_all,rfl,fun e=>(a19.1 e).1,fun c l=>a05 _ l⟩
  |_=>simp[c0k]at hf
 |f+1,τ,fs,off,h,hf=>by
  cases τ with
  |pair a b=>
   cases fs with
   |nil=>simp[a0i]at h
   |cons fl r=>
    simp only[a0i,bA]at h;obtain⟨i,τ',k,v,w,z,D,A⟩:=l0p f b r (off+a.cells) h.2 hf;refine⟨i,τ',a.cells+k,by simp_all,by omega,z,by grind[Ty.cells],fun m rd x O R hd=>?_⟩;obtain⟨o,o1,n,p,o2,r2,B,q,rfl,rfl,rfl⟩:=c0h hd;obtain⟨y,g,d,C,s,t,u⟩:=A m _ p o2 r2 q;refine⟨y,g,d,?_,s,fun e=>t (a19.1 e).2,fun c l=>a04 _ (u c l)⟩
    grind
  |_=>simp[c0k]at hf
theorem m0x{m Sh}{τ':Ty}{cs:Array Value}{off:Nat}{y R}(h:a0i P τ' (.inl t)=true)(hd:dec m τ' (fun j=>cs[off+j]?)=some (y,[],R))(f:∀c∈R,Sh c)(b:off+τ'.cells≤cs.size):∃v,(part t cs off).run P w=.ok v w∧VOk m Sh τ' y v:=by
 obtain⟨I⟩:=a0m (a0s h);cases hagg:τ'.isAgg with
 |true=>
  refine⟨.agg (cs.extract off (off+τ'.cells)),by simp[part,e0z h,hagg,I.sizeOf],fun _=>⟨_,rfl,by simp_all⟩,fun g=>(by simp_all),R,?_,f⟩;refine a0k τ' hd (fun j a=>?_) (fun _ _ _=>rfl);simp_all[Value.cells]
 |false=>
  have k:=h0z hagg;obtain⟨v,hv,hs⟩:=e0b τ' hd 0 (by omega);simp at hv;refine⟨v,by simp[part,e0z h,hagg,hv],VOk.one hagg hs (a0k τ' hd (fun j a=>?_) (fun _ _ _=>rfl)) f k⟩;simp_all[Src.rd]
section
variable {P:Program} {B:Base} {N:Nat} {ρ:Type} {Γ:AE} {a:Act} {w:World} {σ:Gh}
theorem x0u{f:Nat}{K:AE→Rs ρ}{z:ρ}(n:CxTy P cx)(A:o.op=.field t x f)(hd:o.dst=some d)(h:Rel B Γ N (a0f a) w σ)(L:a.tmps.size=N)(hf:fits N o=true)(e:aop cx q o Γ K=some z):a0j P B N o a w K z:=by
 have g:∀y∈(o.op.operands.toList),b0m N y=true:=a0r hf;rw[A]at g;have D:=h.opd (g x (by simp[Op.operands]));simp[aop,A,hd]at e
 split at e
 rename_i m y O;rw[O]at D
 split at e
 rename_i b;obtain⟨Q,hty⟩:=n.T t _ b.2;obtain⟨fs,hu,hs⟩:=i0v hty b.1;obtain⟨E,τ',k,h1,h2,I,h4,J⟩:=l0p f m _ 0 hs b.1;obtain⟨F,Z,R,u,G⟩:=D;have i:m.isAgg=true:=by cases m<;>first|rfl|(cases f<;>simp[c0k]at b)
 obtain⟨cs,hv,M⟩:=F i;rw[hv]at u;obtain⟨y',X,Y,S,l,U,V⟩:=J _ _ _ _ _ u;have p:=U rfl;subst p;generalize hg:b0j (b0l f) m y=gg at e;obtain⟨t2,W⟩:=gg;simp only at e;have l:=hg.symm.trans l;have r:t2=τ':=congrArg Sigma.fst l;subst r;have s:=eq_of_heq (Sigma.mk.inj l).2;subst s;obtain⟨v,C,j⟩:=m0x (P:=P) (w:=w) (cs:=cs) (off:=k) I S (fun c b=>G c (V c b)) (by omega);have H:fs[f]?=some E:=by simp_all
 refine a0j.set hd L (v:=v) ?_ h (av:=.val t2 W) j e;simp_all[execOp,Instr.field,run_underlying,asAgg];simp_all;simp_all
theorem x0v{i:Operand}{K:AE→Rs ρ}{z:ρ}(D:CxTy P cx)(Q:o.op=.index t x i)(hd:o.dst=some d)(h:Rel B Γ N (a0f a) w σ)(X:a.tmps.size=N)(hf:fits N o=true)(f:aop cx q o Γ K=some z):a0j P B N o a w K z:=by
 have g:∀y∈(o.op.operands.toList),b0m N y=true:=a0r hf;rw[Q]at g;have L:=h.opd (g x (by simp[Op.operands]));have hi:=h.opd (g i (by simp[Op.operands]));have run:∀v,(Instr.index t (a.eval x) (a.eval i)).run P w=.ok v w→(execOp a.eval o).run P w=.ok (.value v) w:=fun v hv=>by simp[execOp,Q,hv]
 simp[aop,Q,hd]at f
 split at f
 rename_i n e l k j r m;rw[r]at L;rw[m]at hi;have p:=a0e.int hi;rw[p]at run
 split at f
 rename_i hT;obtain⟨h5,hty⟩:=D.T t _ hT;obtain⟨t',hu,H,-⟩:=h0f hty;obtain⟨I⟩:=a0m (a0s H);obtain⟨y,O,f⟩:=a10.1 f;obtain⟨W,h1,C⟩:=k0v O;obtain⟨g1,g2,R,u,g4⟩:=L;obtain⟨cs,hv,M⟩:=g1 rfl;rw[hv]at u;have u:a0d (fun i=>dec (a0a w σ.ov) e fun j=>cs[i*e.cells+j]?) n 0=some (l,[],R):=u;have Z:=b0b n 0 u;obtain⟨y',o',r',A,B',A',h3,E,V,e1,e2⟩:=b0a n 0 j.toNat u (by omega);rw[C]at V;simp at V;subst V;have S:o'=[]:=by
  simp_all
 subst S;simp at E;have U:j.toNat*e.cells+e.cells≤cs.size:=by
  rw[M];simp[Ty.cells];rw[←a03];exact a00 _ (by omega)
 obtain⟨v,G,J⟩:=m0x (P:=P) (w:=w) (cs:=cs) H E (fun c Y=>g4 c (by grind)) U;have Y:0≤j∧j<(n:Int):=⟨W,by omega⟩;refine a0j.set hd X (v:=v) (run _ ?_) h (av:=.val e y) J f;rw[hv];simp[Instr.index,asIntOf,run_underlying hu,Y,I.sizeOf,G];simp_all
 ·rename_i l k j r m;rw[r]at L;rw[m]at hi;have p:=a0e.int hi;rw[p]at run
  split at f
  ·rename_i hT;have hty:=(D.T t _ hT).2;have hu:P.underlying t=some .string:=by
    simp[a0i]at hty
    grind
   obtain⟨y,O,f⟩:=a10.1 f;obtain⟨W,h1,C⟩:=k0v O;obtain⟨s,hv,hl⟩:=a0e.str L;rw[hl,a29]at C;cases hb:s.data.toList[j.toNat]? with
   |none=>simp_all
   |some b=>
    rw[hb]at C;simp at C;have hs:s[j.toNat]?=some b:=by
     have h4:j.toNat<s.data.toList.length:=(lS.1 hb).1;have F:j.toNat<s.size:=by simp_all
     rw[getElem?_pos s j.toNat F]
     have:=(lS.1 hb).2
     rw[←this];rfl
    refine a0j.set hd X (v:=.int .u8 b.toNat) (run _ ?_) h (av:=.val (.int .u8) y) (by simp_all[a0e.mk_int]) f;simp_all[Instr.index,asIntOf,run_underlying]
  simp_all
 simp_all
theorem n0x{f:Int→Int→Int}{g:Value→Value→Sem Value}{k:IntKind}(c:∀x y w,(g (.int k x) (.int k y)).run P w=.ok (.int k (f x y)) w):
  ∀(l:List Operand)(x:Int){K:AV→Rs ρ}{z:ρ},Rel B Γ N (a0f a) w σ→(∀y∈l,b0m N y=true)→AE.mins f k (l.map Γ.opd) x K=some z→
   ∃r,K (.val (.int k) r)=some z∧((l.map a.eval).foldlM g (.int k x)).run P w=.ok (.int k r) w
 | [],x,K,z,h,hl,hz=>⟨x,hz,rfl⟩
 |y::l,x,K,z,h,hl,hz=>by
  simp at hz;unfold AE.mins at hz
  split at hz
  simp_all;rename_i x k' y' l' b;simp at b;obtain⟨b,rfl⟩:=b
  split at hz
  rename_i i;subst i;have d:=h.opd (hl y (by simp));rw[b]at d;have hv:=a0e.int d;obtain⟨r,e,j⟩:=n0x c l _ h (fun u n=>hl u (by grind)) hz;refine⟨r,e,?_⟩;have m:=fun z=>c z y' w;simp_all;simp_all;simp_all
theorem A0g{K:Nat→Rs ρ}{z:ρ}(d:CxTy P cx)(h:Rel B Γ N (a0f a) w σ)(g:b0m N x=true)(i:Γ.lenK (cx.T t) (Γ.opd x) K=some z)(ty:TypeId):
  ∃n,K n=some z∧(Builtin.len_ #[t] ty #[a.eval x]).run P w=.ok (.int .i64 (n:Int)) w:=by
 have g:=h.opd g;have q:∀o e,cx.T t=some (.list o e)→∀A n c,a.eval x=.slice A n c→(Builtin.len_ #[t] ty #[a.eval x]).run P w=.ok (.int .i64 (n:Int)) w:=by
  intro o e hT A n c hv;obtain⟨m,hty⟩:=d.T t _ hT;obtain⟨G,y,u,-⟩:=b0w hty;simp_all[Builtin.len_,run_underlying,goInt]
 unfold AE.lenK at i
 split at i
 rename_i o e C j l hT f;rw[f]at g;obtain⟨R,b,D⟩:=VOk.rd (t:=.list C j) g rfl rfl;have b:a0w (a0a w σ.ov) C j.cells (dec (a0a w σ.ov) j) (some (a.eval x))=some (l,[],R):=b;unfold a0w at b
 split at b
 grind
 rename_i A n c hv;simp at hv
 split at b
 split at b
 grind
 rename_i xs os S v;have M:=b0b n 0 v
 grind
 simp_all;simp_all;rename_i n e Q j l hT f;obtain⟨m,hty⟩:=d.T t _ hT;obtain⟨G,y,u,-⟩:=h0f hty;exact⟨n,i,by simp_all[Builtin.len_,run_underlying,goInt]⟩;rename_i l hT f;rw[f]at g;obtain⟨s,hv,L⟩:=a0e.str g;have hty:=(d.T t _ hT).2;have y:P.underlying t=some .string:=by
  simp[a0i]at hty
  grind
 refine⟨_,i,?_⟩;simp_all[Builtin.len_,run_underlying,goInt];rename_i hT f;rw[f]at g;exact⟨0,i,q _ _ hT _ _ _ g⟩;rename_i hT f;rw[f]at g;obtain⟨A,hv⟩:=g
 grind
 rename_i n p hT f;rw[f]at g
 split at i
 rename_i r F
 split at i
 rename_i j l E;obtain⟨s,A,c,-,-,hv,-⟩:=h.sref_head g (a0q F).2 E
 grind
 simp_all;simp_all;rename_i n p off k hT f;rw[f]at g;obtain⟨r,e,s,a0,O,c0,b,D,v,I,H,hv,J,-⟩:=g
 grind
 simp_all
end
end Go.Ab
