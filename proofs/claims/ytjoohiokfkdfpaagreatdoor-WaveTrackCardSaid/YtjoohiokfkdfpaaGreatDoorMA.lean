/- Part of the proof: LibA. Conditions: as each statement tells. -/
import GoSem.Core.Code
import GoSem.Core.View
import GoSem.Core.Lib
import GoSem.Core.Region
import Derived.Orders
import GoSem.Machine.Frame
import Derived.Laws.World
import Derived.Laws.Cells
import Derived.Laws.IdiomCopy
import Derived.Laws.Entries
import Derived.Laws.Strings
import Derived.Laws.BytesString
import Derived.Laws.IdiomStrings
import Derived.Laws.Append
import Derived.Laws.MakeOwn
import Derived.Great.FillDense
noncomputable section
set_option linter.unusedSimpArgs false
set_option linter.unusedVariables false
open BitVec renaming ofInt→a26
open Bool renaming false_eq_true→a22
open List renaming length→a01,mem_append_right→a02,mem_append_left→a03,nodup_append→a07,replicate→a08,mem_map_of_mem→a10,map_cons→a11,nodup_cons→a13,getD→a15,append_eq_nil_iff→a16,take→a17,drop→a20,range→a21,getElem?_map→a23,set→a24,drop_take→a25
open Nat renaming mul_le_mul_right→a00,succ_mul→a04,le_trans→a05,lt_of_lt_of_le→a06,le_refl→a12,lt_or_gt_of_ne→a14,zero_add→a19
open Option renaming bind_eq_some_iff→a09,isSome_iff_exists→a18
namespace Go.Ab
variable {A A' α ρ:Type}{P:Program}{Sh Sh':Nat→Prop}{b c d k n o sz:Nat}{cs:Array Value}{i:Int}{op:BinOp}{q:Bool}{t t':TypeId}{v:Value}{w w':World}{x:Operand}{z:ρ}
theorem oB{α β:Type _}(a:α)(f:α→Option β):(some a).bind f=f a:=rfl
theorem bA (a b:Bool):((a&&b)=true)=(a=true∧b=true):=Bool.and_eq_true a b
theorem dT {p:Prop} [Decidable p]:(decide p=true)=p:=decide_eq_true_eq
theorem cT {α:Type _} (a b:α):cond true a b=a:=rfl
theorem cF {α:Type _} (a b:α):cond false a b=b:=rfl
theorem lG {α:Type _} {l:List α} {i:Nat} (h:i<l.length):l[i]?=some l[i]:=List.getElem?_eq_getElem h
theorem pJ {α β:Type _} (a:α) (b:β) (c:α) (d:β):((a,b)=(c,d))=(a=c∧b=d):=Prod.mk.injEq a b c d
theorem lA {α:Type _} {p:α→Bool} {l:List α}:l.all p=true↔∀x,x ∈ l→p x=true:=List.all_eq_true
theorem lD {α:Type _} {l:List α} {i:Nat} {a:α}:l.getD i a=l[i]?.getD a:=List.getD_eq_getElem?_getD
theorem lS {α:Type _} {l:List α} {i:Nat} {a:α}:l[i]?=some a↔∃h:i<l.length,l[i]=a:=List.getElem?_eq_some_iff
theorem nZ:((0:Nat):Int)=0:=rfl
theorem tN (n:Nat):(n:Int).toNat=n:=rfl
theorem bT:(!true)=false:=rfl
theorem mA {α:Type _} {a:α} {s t:List α}:a ∈ s++t↔a ∈ s∨a ∈ t:=List.mem_append
theorem pA {α β:Type _} {f:α→β} {l m:List α}:(l++m).map f=l.map f++m.map f:=List.map_append
theorem lN {α:Type _} {s t:List α}:(s++t).length=s.length+t.length:=List.length_append
theorem lC {α:Type _} {a:α} {s:List α}:(a::s).length=s.length+1:=rfl
theorem mC {α:Type _} {a b:α} {l:List α}:a ∈ b::l↔a=b∨a ∈ l:=List.mem_cons
theorem aA {α:Type _} (a b c:List α):a++b++c=a++(b++c):=List.append_assoc a b c
theorem sj{α:Type _}(a b:α):(some a=some b)=(a=b):=Option.some.injEq a b
inductive Ty where
 |int (k:IntKind)|bool|str|unit
 |list (o:Bool) (t:Ty)|pair (a b:Ty)|arr (n:Nat) (t:Ty)

 |nl (t:Ty)
 deriving DecidableEq
variable {e τ:Ty}
def Ty.den:Ty→Type
 |.int _=>Int
 |.bool=>Bool
 |.str=>List Int
 |.unit=>Unit
 |.list _ t=>List t.den
 |.pair a b=>a.den×b.den
 |.arr _ t=>List t.den
 |.nl t=>List t.den
variable {l:List e.den}
def Ty.dflt:(t:Ty)→t.den
 |.int _=>(0:Int)
 |.bool=>false
 |.str=>([]:List Int)
 |.unit=>()
 |.list _ t=>([]:List t.den)
 |.pair a b=>(a.dflt,b.dflt)
 |.arr n t=>a08 n t.dflt
 |.nl t=>([]:List t.den)
def Ty.cells:Ty→Nat
 |.unit=>0
 |.pair a b=>a.cells+b.cells
 |.arr n t=>n*t.cells
 |_=>1
def Ty.sh:Ty→Ty
 |.list _ t=>.list false t.sh
 |.pair a b=>.pair a.sh b.sh
 |.arr n t=>.arr n t.sh
 |.nl t=>.list false t.sh
 |t=>t
def Ty.shn:Ty→Ty
 |.list _ t=>.list false t.sh
 |.pair a b=>.pair a.shn b.shn
 |.arr n t=>.arr n t.sh
 |.nl t=>.nl t.sh
 |t=>t
def Ty.isAgg:Ty→Bool
 |.unit|.pair _ _|.arr _ _=>true
 |_=>false
theorem Ty.den_sh:(t:Ty)→t.sh.den=t.den
 |.int _|.bool|.str|.unit=>rfl
 |.list _ t=>congrArg List (Ty.den_sh t)
 |.arr _ t=>congrArg List (Ty.den_sh t)
 |.nl t=>congrArg List (Ty.den_sh t)
 |.pair a b=>by show(a.sh.den×b.sh.den)=(a.den×b.den);rw[Ty.den_sh a,Ty.den_sh b]
theorem Ty.den_shn:(t:Ty)→t.shn.den=t.den
 |.int _|.bool|.str|.unit=>rfl
 |.list _ t=>congrArg List (Ty.den_sh t)
 |.arr _ t=>congrArg List (Ty.den_sh t)
 |.nl t=>congrArg List (Ty.den_sh t)
 |.pair a b=>by show(a.shn.den×b.shn.den)=(a.den×b.den);rw[Ty.den_shn a,Ty.den_shn b]
def Ty.shnx(t:Ty)(x:t.den):t.shn.den:=cast (Ty.den_shn t).symm x
def Ty.le:Ty→Ty→Bool
 |.nl a,.list _ b=>decide (a.sh=b.sh)
 |.pair a b,.pair a' b'=>a.le a'&&b.le b'
 |a,b=>decide (a=b)
theorem Ty.le_den:∀(a b:Ty),a.le b=true→a.den=b.den
 |.nl a,.list o b,h=>by
  simp only[Ty.le,dT]at h;show List a.den=List b.den;rw[←Ty.den_sh a,←Ty.den_sh b,h]
 |.pair a b,.pair a' b',h=>by
  simp only[Ty.le,bA]at h;show(a.den×b.den)=(a'.den×b'.den);rw[Ty.le_den a a' h.1,Ty.le_den b b' h.2]
 |.nl a,.nl b,h=>by
  simp only[Ty.le,dT]at h;rw[h]
 |.nl a,.int _,h|.nl a,.bool,h|.nl a,.str,h|.nl a,.unit,h|.nl a,.pair _ _,h|.nl a,.arr _ _,h=>by simp[Ty.le]at h
 |.pair a b,.int _,h|.pair a b,.bool,h|.pair a b,.str,h|.pair a b,.unit,h|.pair a b,.arr _ _,h|.pair a b,.list _ _,h|.pair a b,.nl _,h=>by simp[Ty.le]at h
 |.int _,b,h|.bool,b,h|.str,b,h|.unit,b,h|.list _ _,b,h|.arr _ _,b,h=>by
  simp only[Ty.le,dT]at h;rw[h]
def castTo(t' t:Ty)(x:t'.den):Option t.den:=if h:t'=t then some (h▸x)else if h:t'.le t=true then some (cast (Ty.le_den _ _ h) x)else none
theorem n0l(t:Ty)(x:t.den):castTo t t x=some x:=by simp[castTo]
theorem Ty.shn_of_sh:(t:Ty)→t.sh=t→t.shn=t
 |.int _,_|.bool,_|.str,_|.unit,_=>rfl
 |.list _ t,h=>h
 |.arr _ t,h=>h
 |.nl t,h=>by cases h
 |.pair a b,h=>by
  simp only[Ty.sh,Ty.pair.injEq]at h;simp only[Ty.shn,Ty.shn_of_sh a h.1,Ty.shn_of_sh b h.2]
theorem Ty.sh_sh:(t:Ty)→t.sh.sh=t.sh
 |.int _|.bool|.str|.unit=>rfl
 |.list _ t|.nl t=>by simp only[Ty.sh,Ty.sh_sh t]
 |.arr _ t=>by simp only[Ty.sh,Ty.sh_sh t]
 |.pair a b=>by simp only[Ty.sh,Ty.sh_sh a,Ty.sh_sh b]
theorem Ty.shn_shn:(t:Ty)→t.shn.shn=t.shn
 |.int _|.bool|.str|.unit=>rfl
 |.list _ t|.nl t|.arr _ t=>by simp only[Ty.shn,Ty.sh_sh t]
 |.pair a b=>by simp only[Ty.shn,Ty.shn_shn a,Ty.shn_shn b]
theorem Ty.sh_shn:(t:Ty)→t.shn.sh=t.sh
 |.int _|.bool|.str|.unit=>rfl
 |.list _ t|.nl t|.arr _ t=>by simp only[Ty.shn,Ty.sh,Ty.sh_sh t]
 |.pair a b=>by simp only[Ty.shn,Ty.sh,Ty.sh_shn a,Ty.sh_shn b]
def Ty.shx(t:Ty)(x:t.den):t.sh.den:=cast (Ty.den_sh t).symm x
inductive Step where
 |fst|snd|idx (i:Nat)
@[reducible] def a0n:=List Step
inductive AV where
 |dead

 |skp
 |val (t:Ty) (x:t.den)

 |nils

 |empt
 |nilp
 |ptr (n:Nat) (p:a0n)
 |vptr (t:Ty) (x:t.den)
 |sref (n:Nat) (p:a0n)
 |swin (n:Nat) (p:a0n) (off len:Nat)

 |glob (g:Nat)
variable {av:AV}
inductive Cmp where
 |tup|agg|clo (f:Nat)
 deriving DecidableEq
inductive SV where
 |one (v:AV)
 |cmp (c:Cmp) (vs:List AV)
structure Root where
 bx:Bool
 t:Ty
 x:t.den
variable {r:Root}{rt':Nat→Option Root}
structure AE where
 sl:Nat→SV
 rt:Nat→Option Root

 pd:Option (Nat×a0n×Nat)
@[reducible] def Rs(ρ:Type):=Option ρ
def b0k:a0n→(t:Ty)→t.den→(t':Ty)×t'.den
 | [],t,x=>⟨t,x⟩
 |.fst::p,t,x=>match t,x with
  |.pair a _,x=>b0k p a x.1
  |_,_=>⟨.unit,()⟩
 |.snd::p,t,x=>match t,x with
  |.pair _ b,x=>b0k p b x.2
  |_,_=>⟨.unit,()⟩
 |.idx i::p,t,x=>match t,x with
  |.arr _ t,x=>b0k p t (a15 x i t.dflt)
  |.list true t,x=>b0k p t (a15 x i t.dflt)
  |_,_=>⟨.unit,()⟩
@[reducible] def b0c(t:Ty)(x:t.den)(p:a0n):(t':Ty)×t'.den:=b0k p t x
def b0t:a0n→(t:Ty)→t.den→(t':Ty)→t'.den→t.den
 | [],t,x,t',y=>if h:t'=t then h▸y else x
 |.fst::p,t,x,t',y=>match t,x with
  |.pair a _,x=>(b0t p a x.1 t' y,x.2)
  |_,x=>x
 |.snd::p,t,x,t',y=>match t,x with
  |.pair _ b,x=>(x.1,b0t p b x.2 t' y)
  |_,x=>x
 |.idx i::p,t,x,t',y=>match t,x with
  |.arr _ t,x=>a24 x i (b0t p t (a15 x i t.dflt) t' y)
  |.list true t,x=>a24 x i (b0t p t (a15 x i t.dflt) t' y)
  |_,x=>x
@[reducible] def b0q(t:Ty)(x:t.den)(p:a0n)(t':Ty)(y:t'.den):t.den:=b0t p t x t' y
def c0r:(p q:a0n)→Bool
 | [],_=>true
 |.fst::p,.fst::q=>c0r p q
 |.snd::p,.snd::q=>c0r p q
 |.idx _::p,.idx _::q=>c0r p q
 |_,_=>false
def AV.map(v:AV)(f:AV→AV):AV:=f v
def SV.mapv(f:AV→AV):SV→SV
 |.one v=>.one (f v)
 |.cmp c vs=>.cmp c (vs.map f)
def AV.kill(n:Nat)(p:a0n):AV→AV
 |.sref m q=>if m==n&&c0r p q then .dead else .sref m q
 |.swin m q o l=>if m==n&&c0r p q then .dead else .swin m q o l
 |.ptr m q=>if m==n&&c0r p q&&decide (p.length<q.length)then .dead else .ptr m q
 |v=>v
def AV.drop(n:Nat):AV→AV
 |.sref m q=>if m==n then .dead else .sref m q
 |.swin m q o l=>if m==n then .dead else .swin m q o l
 |.ptr m q=>if m==n then .dead else .ptr m q
 |v=>v
def AV.ren(r n:Nat):AV→AV
 |.sref m q=>if m==r then .sref n q else .sref m q
 |.swin m q o l=>if m==r then .swin n q o l else .swin m q o l
 |.ptr m q=>if m==r then .ptr n q else .ptr m q
 |v=>v
def AV.frz(n:Nat)(e:Ty)(l:List e.den):AV→AV
 |.sref m q=>if m==n then(match q with|[]=>.val (.list false e.sh) (Ty.shx (.list false e) l)|_=>.dead)else .sref m q
 |.swin m q o k=>if m==n then(match q with|[]=>.val (.list false e.sh) (Ty.shx (.list false e) ((l.drop o).take k))|_=>.dead)else .swin m q o k
 |.ptr m q=>if m==n then .dead else .ptr m q
 |v=>v
namespace AE
def get(Γ:AE)(i:Nat):AV:=match Γ.sl i with|.one v=>v|.cmp _ _=>.dead
def put(Γ:AE)(d:Nat)(v:SV):AE:={ Γ with sl:=fun j=>bif j==d then v else Γ.sl j }
def set(Γ:AE)(d:Nat)(v:AV):AE:=Γ.put d (.one v)
def setD(Γ:AE)(d:Option Nat)(v:AV):AE:=match d with|some d=>Γ.set d v|none=>Γ
def mapv(Γ:AE)(f:AV→AV):AE:={ Γ with sl:=fun j=>(Γ.sl j).mapv f }
def setRt(Γ:AE)(n:Nat)(r:Option Root):AE:={ Γ with rt:=fun j=>bif j==n then r else Γ.rt j }
def newRt(Γ:AE)(n:Nat)(r:Root):AE:=match Γ.rt n with
 |none=>Γ.setRt n (some r)
 |some _=>(Γ.mapv (AV.drop n)).setRt n (some r)
def look(Γ:AE)(n:Nat):Option Root:=match Γ.pd with
 |none=>Γ.rt n
 |some _=>none
end AE
def k0v:Value→AV
 |.int k n=>.val (.int k) n
 |.bool b=>.val .bool b
 |.string s=>.val .str (s.data.toList.map fun b=>(b.toNat:Int))
 |.slice none 0 0=>.nils
 |.pointer none=>.nilp
 |_=>.dead
def AE.opd(Γ:AE):Operand→AV
 |.tmp t=>Γ.get t
 |.const v=>k0v v
 |.global g=>.glob g
 |_=>.dead
inductive RA where
 |v (t:Ty)

 |o (e:Ty)

 |b (t:Ty)
def RA.ty:RA→Ty
 |.v t=>t
 |.o e=>.list true e
 |.b t=>t
inductive PA where
 |v (t:Ty)
 |r (c:Bool) (a:RA)
def PA.ty:PA→Ty
 |.v t=>t
 |.r _ a=>a.ty
def b0u:List Ty→Ty
 | []=>.unit
 | [t]=>t
 |t::r=>.pair t (b0u r)
def d0o:List PA→List RA
 | []=>[]
 |.v _::r=>d0o r
 |.r _ a::r=>a::d0o r
def RA.all(ps:List PA)(rs:List RA):List RA:=rs++d0o ps
structure FSem where
 ps:List PA
 rs:List RA
 F:(b0u (ps.map PA.ty)).den→Option (b0u ((RA.all ps rs).map RA.ty)).den
@[reducible] def pinned:Nat:=1000000
structure Cx where

 Q:Nat→Bool
 E:Nat→Bool
 T:Nat→Option Ty
 C:Nat→Option FSem
 O:Nat→Option Ty
 V:Nat→Bool
 K:Nat→Bool

 G:Nat→Option ((t:Ty)×t.den):=fun _=>none
variable {cx:Cx}
section reading
variable {ρ:Type}
def AE.asV(Γ:AE)(q:Bool)(t:Ty)(a:AV)(K:t.den→AE→Rs ρ):Rs ρ:=
 match a with
 |.val t' x=>match castTo t' t x with
  |some y=>K y Γ
  |none=>none
 |.nils=>match t,K with
  |.list false _,K=>K [] Γ
  |.nl _,K=>K [] Γ
  |_,_=>none
 |.empt=>match t,K with
  |.list false _,K=>K [] Γ
  |_,_=>none
 |.sref n []=>if q then none else match Γ.look n with
  |some ⟨false,.list true e,l⟩=>if h:Ty.list false e.sh=t then K (h▸Ty.shx (.list false e) l) ((Γ.mapv (AV.frz n e l)).setRt n none)else none
  |_=>none
 |.swin n [] o k=>if q then none else match Γ.look n with
  |some ⟨false,.list true e,l⟩=>if h:Ty.list false e.sh=t then K (h▸Ty.shx (.list false e) ((a20 o l).take k)) ((Γ.mapv (AV.frz n e l)).setRt n none)else none
  |_=>none
 |_=>none
def AE.view(Γ:AE)(t:Ty)(a:AV)(K:t.den→Rs ρ):Rs ρ:=
 match a with
 |.val t' x=>match castTo t' t x with
  |some y=>K y
  |none=>none
 |.nils=>match t,K with
  |.list false _,K=>K []
  |.nl _,K=>K []
  |_,_=>none
 |.empt=>match t,K with
  |.list false _,K=>K []
  |_,_=>none
 |.sref n p=>match Γ.look n with
  |some r=>match b0c r.t r.x p with
   |⟨.list true e,l⟩=>if h:Ty.list false e.sh=t then K (h▸Ty.shx (.list false e) l)else none
   |_=>none
  |none=>none
 |.swin n p o k=>match Γ.look n with
  |some r=>match b0c r.t r.x p with
   |⟨.list true e,l⟩=>if h:Ty.list false e.sh=t then K (h▸Ty.shx (.list false e) ((a20 o l).take k))else none
   |_=>none
  |none=>none
 |_=>none
end reading
def m0k{α:Type}(l:List α)(i:Int):Option α:=if 0≤i then l[i.toNat]? else none
def bits(k:IntKind)(op:BinOp)(x y:Int):Int:=
 let a:=a26 k.bits x
 let b:=a26 k.bits y
 match op with
 |.and=>k.wrap (a &&& b).toNat
 |.or=>k.wrap (a ||| b).toNat
 |.xor=>k.wrap (a ^^^ b).toNat
 |_=>k.wrap (a &&& ~~~b).toNat
def A0n(k:IntKind)(x y:Int):Int:=k.wrap (x*2^(min y.toNat k.bits))
def A0o(k:IntKind)(x y:Int):Int:=x.fdiv (2^(min y.toNat k.bits))
def eqT:(t:Ty)→t.den→t.den→Bool
 |.int _,x,y=>(show Int from x)==(show Int from y)
 |.bool,x,y=>(show Bool from x)==(show Bool from y)
 |.str,x,y=>(show List Int from x)==(show List Int from y)
 |.unit,_,_=>true
 |.pair a b,x,y=>eqT a x.1 y.1&&eqT b x.2 y.2
 |.arr _ t,x,y=>(List.zipWith (eqT t) x y).all id&&a01 x==a01 y
 |.list _ _,_,_=>false
 |.nl _,_,_=>false
def i0d{ρ:Type}(op:BinOp)(k:IntKind)(x y:Int)(K:AV→Rs ρ):Rs ρ:=
 match op with
 |.add=>K (.val (.int k) (k.wrap (x+y)))
 |.sub=>K (.val (.int k) (k.wrap (x-y)))
 |.mul=>K (.val (.int k) (k.wrap (x*y)))
 |.quo=>bif y==0 then none else K (.val (.int k) (k.wrap (Int.tdiv x y)))
 |.rem=>bif y==0 then none else K (.val (.int k) (Int.tmod x y))
 |.and=>K (.val (.int k) (bits k .and x y))
 |.or=>K (.val (.int k) (bits k .or x y))
 |.xor=>K (.val (.int k) (bits k .xor x y))
 |.andNot=>K (.val (.int k) (bits k .andNot x y))
 |.eql=>K (.val .bool (x==y))
 |.neq=>K (.val .bool (x != y))
 |.lss=>K (.val .bool (decide (x<y)))
 |.leq=>K (.val .bool (decide (x≤y)))
 |.gtr=>K (.val .bool (decide (x > y)))
 |.geq=>K (.val .bool (decide (x≥y)))
 |.shl=>bif decide (y<0)then none else K (.val (.int k) (A0n k x y))
 |.shr=>bif decide (y<0)then none else K (.val (.int k) (A0o k x y))
def k0z:BinOp→Bool
 |.shl|.shr=>true
 |_=>false
def k0t{ρ:Type}(cx:Cx)(op:BinOp)(ty:Nat)(t:Ty)(x:t.den)(t':Ty)(y:t'.den)(K:AV→Rs ρ):Rs ρ:=
 if h:t'=t then
  bif cx.E ty&&t.isAgg&&decide (cx.T ty=some t)then
   match op with
   |.eql=>K (.val .bool (eqT t x (h▸y)))
   |.neq=>K (.val .bool (!eqT t x (h▸y)))
   |_=>none
  else none
 else none
def h0d{ρ:Type}(cx:Cx)(op:BinOp)(ty:Nat)(a b:AV)(K:AV→Rs ρ):Rs ρ:=
 match a,b with
 |.val (.int k) x,.val (.int k') y=>if k0z op || decide (k=k')then i0d op k x y K else none
 |.val .bool (x:Bool),.val .bool (y:Bool)=>
  if cx.T ty=some .bool then
   match op with
   |.eql=>K (.val .bool (x==y))
   |.neq=>K (.val .bool (x != y))
   |_=>none
  else none
 |.val .str (x:List Int),.val .str (y:List Int)=>
  match op with
  |.eql=>K (.val .bool (x==y))
  |.neq=>K (.val .bool (x != y))
  |.add=>bif decide (a01 x+a01 y<2147483648)then K (.val .str (x++y))else none
  |_=>none
 |.val t x,.val t' y=>k0t cx op ty t x t' y K
 |.nilp,.nilp=>if cx.Q ty then(match op with
  |.eql=>K (.val .bool true)
  |.neq=>K (.val .bool false)
  |_=>none)else none
 |.ptr _ _,.nilp=>if cx.Q ty then(match op with
  |.eql=>K (.val .bool false)
  |.neq=>K (.val .bool true)
  |_=>none)else none
 |_,_=>none
def l0e{ρ:Type}(a b:Option ρ):Option ρ:=open Classical in if a=b then a else none
theorem o0t{ρ:Type}{a b:Option ρ}{z:ρ}(h:l0e a b=some z):a=some z∧b=some z:=by
 unfold l0e at h
 split at h
 rename_i e;exact⟨h,by rw[←e];exact h⟩;cases h
theorem u0w(a:Option ρ):l0e a a=a:=by simp[l0e]
def s0p:Option Ty→AV→AV→Option Bool
 |some (.list _ _),.val (.list false _) l,.nils=>some (List.isEmpty l)
 |_,_,_=>none
def u0j:Option Ty→Bool
 |some (.list _ _)=>true
 |_=>false
def A0r{ρ:Type}(op:BinOp)(e:Bool)(K:Bool→Option ρ):Option ρ:=match op with
 |.eql=>bif e then l0e (K true) (K false)else K false
 |.neq=>bif e then l0e (K false) (K true)else K true
 |_=>none
def lim(n:Nat):Bool:=decide (n<2147483648)
def b0f:Nat→a0n
 |0=>[.fst]
 |f+1=>.snd::b0f f
def b0y:Ty→Nat→Bool
 |.pair _ _,0=>true
 |.pair _ b,f+1=>b0y b f
 |_,_=>false
def g0b:a0n→a0n→Bool
 | [],[]=>true
 |.fst::p,.fst::q=>g0b p q
 |.snd::p,.snd::q=>g0b p q
 |.idx i::p,.idx j::q=>(i==j)&&g0b p q
 |_,_=>false
def v0r(x y:Int):Int:=bif decide (y > x)then y else x
def v0s(x y:Int):Int:=bif decide (y<x)then y else x
def p0h{α:Type}(l:List α)(off len:Nat)(ys:List α):List α:=
 l.take off++(ys.take (min len ys.length)++l.drop (off+min len ys.length))
def b2s(l:List Int):List Int:=l.map fun n=>((n.toNat%256:Nat):Int)
def Ty.isList:Ty→Bool
 |.list _ _=>true
 |_=>false
def Ty.hasList:Ty→Bool
 |.list _ _=>true
 |.pair a b=>a.hasList || b.hasList
 |.arr _ t=>t.hasList
 |_=>false
def RA.hasList:RA→Bool
 |.v t=>t.hasList
 |.o e=>e.hasList
 |.b t=>t.hasList
section
variable {ρ:Type}
def AE.fresh(Γ:AE)(q:Bool)(n:Nat)(r:Root)(K:AE→Rs ρ):Rs ρ:=
 bif decide (n<pinned)then
  match Γ.rt n with
  |none=>K (Γ.newRt n r)
  |some _=>bif q then none else match Γ.look n with
   |none=>none
   |some _=>K (Γ.newRt n r)
 else none
def AE.apnd(Γ:AE)(q:Bool)(d:Nat)(e:Ty)(x:AV)(ys:List e.den)(K:AE→Rs ρ):Rs ρ:=
 match x with
 |.nils|.empt=>bif lim ys.length then Γ.fresh q d ⟨false,.list true e,ys⟩ fun Γ=>K (Γ.set d (.sref d []))else none
 |.sref n p=>bif q then none else match Γ.look n with
  |some r=>match b0c r.t r.x p with
   |⟨.list true e',l⟩=>
    if h:e=e' then
     bif lim (a01 l+ys.length)then
      let Γ':=((Γ.mapv (AV.kill n p)).setRt n (some ⟨r.bx,r.t,b0q r.t r.x p (.list true e') (List.append l (h▸ys))⟩)).set d (.sref n p)
      match p,r.bx with
      | [],false=>bif decide (n<pinned)then K Γ' else none
      |p,_=>match Γ.pd with
       |none=>K { Γ' with pd:=some (n,p,d) }
       |some _=>none
     else none
    else none
   |_=>none
  |none=>none
 |_=>none
def brw:List PA→List Nat→List Nat
 |.v _::ps,us=>brw ps us
 |.r false (.o _)::ps,n::us=>n::brw ps us
 |.r _ _::ps,_::us=>brw ps us
 |_,_=>[]
def AV.deeps(us ks:List Nat):AV→AV
 |.sref m q=>if us.contains m then(match q with|[]=>if ks.contains m then .sref m []else .dead|_=>.dead)else .sref m q
 |.swin m q o l=>if us.contains m then .dead else .swin m q o l
 |.ptr m q=>if us.contains m then(match q with|[]=>.ptr m []|_=>.dead)else .ptr m q
 |v=>v
def AE.over(Γ:AE)(ty:Ty)(n:Nat)(r:Root)(x:AV)(K:AE→Rs ρ):Rs ρ:=match x,Γ.look n with
 |.val t' y,some _=>if r.bx=true∧(r.t.sh=ty∧(t'.shn=t'∧t'.sh=ty))then
   (match castTo t' r.t y with
   |some z=>K ((Γ.mapv (AV.deeps [n] [])).setRt n (some ⟨true,r.t,z⟩))
   |none=>match castTo t' r.t.shn y with
    |some z=>K ((Γ.mapv (AV.deeps [n] [])).setRt n (some ⟨true,r.t.shn,z⟩))
    |none=>K ((Γ.mapv (AV.deeps [n] [])).setRt n (some ⟨true,t',y⟩)))else none
 |_,_=>none
def AE.overP(Γ:AE)(ty:Ty)(n:Nat)(r:Root)(x:AV)(K:AE→Rs ρ):a0n→Rs ρ
 | []=>Γ.over ty n r x K
 |_=>none
def AE.stor(Γ:AE)(ty:Ty)(n:Nat)(p:a0n)(x:AV)(K:AE→Rs ρ):Rs ρ:=
 match Γ.rt n with
 |none=>none
 |some r=>
  match b0c r.t r.x p with
  |⟨.list true e,_⟩=>
   if ty.isList then
   match x with
   |.nils=>match Γ.look n with
    |none=>none
    |some _=>K ((Γ.mapv (AV.kill n p)).setRt n (some ⟨r.bx,r.t,b0q r.t r.x p (.list true e) []⟩))
   |.sref m p'=>
    bif m==n&&g0b p' p then
     match Γ.pd with
     |some (m',p'',_)=>bif m'==n&&g0b p'' p then K { Γ with pd:=none }else none
     |none=>none
    else match Γ.look n,p',Γ.look m with
     |some _,[],some ⟨false,.list true e',l⟩=>
      if h:e'=e then
       bif m==n then none else
       K ((((Γ.mapv (AV.kill n p)).mapv (AV.drop m)).setRt m none).setRt n (some ⟨r.bx,r.t,b0q r.t r.x p (.list true e) (h▸l)⟩))
      else none
     |_,_,_=>none
   |_=>none
   else none
  |⟨t,_⟩=>
   if t.shn=t∧t.sh=ty then
    Γ.asV false t x fun y Γ'=>match Γ'.look n with
     |some r=>if(b0c r.t r.x p).1=t then K (Γ'.setRt n (some ⟨r.bx,r.t,b0q r.t r.x p t y⟩))else none
     |none=>none
   else Γ.overP ty n r x K p
def AV.viewed:AV→List Nat
 |.sref n _|.swin n _ _ _=>[n]
 |_=>[]
def AE.arg(Γ:AE)(fz q:Bool)(used seen:List Nat):(p:PA)→AV→(p.ty.den→AE→List Nat→List Nat→Rs ρ)→Rs ρ
 |.v t,a,K=>bif a.viewed.any fun n=>used.contains n then none else if fz then Γ.asV q t a fun x Γ'=>K x Γ' used seen else
   Γ.view t a fun x=>K x Γ used (a.viewed++seen)
 |.r c (.b t),.ptr n [],K=>if c || q || used.contains n || seen.contains n then none else match Γ.look n with
  |some ⟨true,t',x⟩=>if h:t'=t then K (h▸x) Γ (n::used) seen else none
  |_=>none
 |.r c (.o e),.sref n [],K=>if(c&&decide (pinned≤n)) || q || used.contains n || seen.contains n then none else match Γ.look n with
  |some ⟨bx,.list true e',x⟩=>if h:e'=e then(bif bx&&c then none else K (h▸x) Γ (n::used) seen)else none
  |_=>none
 |.r _ _,_,_=>none
def AE.args(Γ:AE)(fz q:Bool)(used seen:List Nat):(ps:List PA)→List AV→((b0u (ps.map PA.ty)).den→AE→List Nat→Rs ρ)→Rs ρ
 | [],[],K=>K () Γ used
 | [p],[a],K=>Γ.arg fz q used seen p a fun x Γ' used' _=>K x Γ' used'
 |p::p'::ps,a::as,K=>Γ.arg fz q used seen p a fun x Γ' used' seen'=>Γ'.args fz q used' seen' (p'::ps) as fun y Γ'' used''=>K (x,y) Γ'' used''
 |_,_,_=>none
def c0d:(rs:List RA)→(b0u (rs.map RA.ty)).den→List ((r:RA)×r.ty.den)
 | [],_=>[]
 | [r],x=>[⟨r,x⟩]
 |r::r'::rs,x=>⟨r,x.1⟩::c0d (r'::rs) x.2
def a0y:(ps:List PA)→(b0u (ps.map PA.ty)).den→List ((p:PA)×p.ty.den)
 | [],_=>[]
 | [p],x=>[⟨p,x⟩]
 |p::p'::ps,x=>⟨p,x.1⟩::a0y (p'::ps) x.2
def a0q:((r:RA)×r.ty.den)→Option Root
 |⟨.v _,_⟩=>none
 |⟨.o e,x⟩=>some ⟨false,.list true e,x⟩
 |⟨.b t,x⟩=>some ⟨true,t,x⟩
def p0w(n:Nat):((r:RA)×r.ty.den)→AV
 |⟨.v t,x⟩=>.val t x
 |⟨.o _,_⟩=>.sref n []
 |⟨.b _,_⟩=>.ptr n []
def b0d:List RA→Nat→List Nat
 | [],_=>[]
 |_::rs,n=>n::b0d rs (n+1000)
def c0h:List RA→Nat→List Nat
 | [],_=>[]
 |.v _::rs,n=>c0h rs (n+1000)
 |_::rs,n=>n::c0h rs (n+1000)
def c0b:List Nat→List ((r:RA)×r.ty.den)→Nat→Option Root
 |k::ns,it::its,n=>match a0q it with
  |some r=>bif n==k then some r else c0b ns its n
  |none=>c0b ns its n
 |_,_,_=>none
def d0h:List Nat→List ((r:RA)×r.ty.den)→List AV
 |k::ns,it::its=>p0w k it::d0h ns its
 |_,_=>[]
def h0h(o:Option Root)(r:Root):Root:=match o with
 |some ⟨true,_,_⟩=>⟨true,r.t,r.x⟩
 |_=>r
def m0m:Option Root→Bool
 |some ⟨bx,_,_⟩=>bx
 |none=>false
def AE.unbx(Γ:AE)(ks:List Nat):List Nat:=ks.filter fun n=>!m0m (Γ.rt n)
def AE.dropAll(Γ:AE)(q:Bool)(us:List Nat):List Nat→(AE→Rs ρ)→Rs ρ
 | [],K=>K Γ
 |n::r,K=>bif decide (n<pinned)&&!us.contains n then match Γ.rt n with
   |none=>Γ.dropAll q us r K
   |some _=>bif q then none else((Γ.mapv (AV.drop n)).setRt n none).dropAll q us r K
  else none
def AE.call(Γ:AE)(q:Bool)(d:Option Nat)(s:FSem)(as:List AV)(K:AE→Rs ρ):Rs ρ:=
 match Γ.pd with
 |some _=>none
 |none=>Γ.args (s.rs.any RA.hasList || (d0o s.ps).any RA.hasList) q [] [] s.ps as fun x Γ' used=>
  Γ'.dropAll q used (c0h s.rs (d.getD 0+1000)) fun Γ1=>(s.F x).bind fun y=>
   let Γ2:AE:=⟨fun i=>(Γ1.sl i).mapv (AV.deeps used (Γ1.unbx (brw s.ps used.reverse))),fun n=>match c0b (b0d s.rs (d.getD 0+1000)++used.reverse) (c0d (RA.all s.ps s.rs) y) n with
    |some r=>some (bif used.contains n then h0h (Γ1.rt n) r else r)
    |none=>Γ1.rt n,none⟩
   match d with
   |none=>K Γ2
   |some d=>match d0h (b0d s.rs (d+1000)) (c0d (RA.all s.ps s.rs) y)with
    | [v]=>K (Γ2.set d v)
    |vs=>K (Γ2.put d (.cmp .tup vs))
def AE.pathOf(t:Ty)(i:Nat):a0n:=match t with
 |.arr _ _=>[.idx i]
 |_=>b0f i
def AE.pathOk(t:Ty)(i:Nat):Bool:=match t with
 |.arr n _=>decide (i<n)
 |t=>b0y t i
def AE.fills(Γ:AE)(q:Bool)(t:Ty):List (Nat×Operand)→t.den→(t.den→AE→Rs ρ)→Rs ρ
 | [],x,K=>K x Γ
 |(i,o)::r,x,K=>bif AE.pathOk t i then(match b0c t x (AE.pathOf t i)with
  |⟨t',_⟩=>Γ.asV q t' (Γ.opd o) fun y Γ'=>Γ'.fills q t r (b0q t x (AE.pathOf t i) t' y) K)else none
def AE.lit(Γ:AE)(q:Bool)(e:Ty)(n:Nat):List (Nat×Operand)→List e.den→(List e.den→AE→Rs ρ)→Rs ρ
 | [],x,K=>K x Γ
 |(i,o)::r,x,K=>bif decide (i<n)then Γ.asV q e (Γ.opd o) fun y Γ'=>Γ'.lit q e n r (x.set i y) K else none
def AV.isVal(a:AV)(t:Ty)(K:t.den→Rs ρ):Rs ρ:=match a with
 |.val t' x=>if h:t'=t then K (h▸x)else none
 |_=>none
def AE.lenK(Γ:AE)(ty:Option Ty)(a:AV)(K:Nat→Rs ρ):Rs ρ:=match ty,a with
 |some (.list _ _),.val (.list _ _) l=>K (a01 l)
 |some (.arr n _),.val (.arr _ _) _=>K n
 |some .str,.val .str l=>K (a01 (show List Int from l))
 |some (.list _ _),.nils|some (.list _ _),.empt=>K 0
 |some (.list _ _),.sref n p=>match Γ.look n with
  |some r=>match b0c r.t r.x p with
   |⟨.list true _,l⟩=>K (a01 l)
   |_=>none
  |none=>none
 |some (.list _ _),.swin _ _ _ k=>K k
 |_,_=>none
def AE.body(Γ:AE)(n:Nat)(p:a0n)(K:(e:Ty)→List e.den→Rs ρ):Rs ρ:=match Γ.look n with
 |some r=>match b0c r.t r.x p with
  |⟨.list true e,l⟩=>K e l
  |_=>none
 |none=>none
def AE.bnd(Γ:AE)(len d:Nat)(o:Option Operand)(K:Nat→Rs ρ):Rs ρ:=match o with
 |none=>K d
 |some o=>match Γ.opd o with
  |.val (.int _) (y:Int)=>bif decide (0≤y)&&decide (y≤(len:Int))then K y.toNat else none
  |_=>none
def AE.bnds(Γ:AE)(len:Nat)(lo hi:Option Operand)(K:Nat→Nat→Rs ρ):Rs ρ:=
 Γ.bnd len len hi fun h=>Γ.bnd h 0 lo fun l=>K l h
def l0a:Option Operand→Bool
 |some (.const (.int _ 0))=>true
 |_=>false
def n0g(ty:Option Ty)(a:AV)(K:AV→Rs ρ):Rs ρ:=match ty,a with
 |some (.list _ _),.val (.list _ _) _|some (.list _ _),.nils|some (.list _ _),.empt|some (.list _ _),.sref _ _|some (.list _ _),.swin _ _ _ _=>K .empt
 |_,_=>none
def AE.slic(Γ:AE)(ty:Option Ty)(a:AV)(lo hi mx:Option Operand)(K:AV→Rs ρ):Rs ρ:=
 match mx with
 |some m=>bif l0a (some m)&&l0a hi&&lo.isNone then n0g ty a K else none
 |none=>match a with
  |.val .str (l:List Int)=>if ty=some .str then Γ.bnds l.length lo hi fun x y=>K (.val .str ((l.take y).drop x))else none
  |.val (.list false t) l=>if ty=some (.list false t)then Γ.bnds (a01 l) lo hi fun x y=>K (.val (.list false t) ((a17 y l).drop x))else none
  |.nils=>match ty with
   |some (.list _ _)=>Γ.bnds 0 lo hi fun _ _=>K .nils
   |_=>none
  |.sref n p=>Γ.body n p fun e l=>if ty=some (.list false e.sh)then(match lo,hi with
   |none,none=>K (.sref n p)
   |lo,hi=>Γ.bnds (a01 l) lo hi fun x y=>K (.swin n p x (y-x)))else none
  |.swin n p o k=>Γ.body n p fun e _=>if ty=some (.list false e.sh)then Γ.bnds k lo hi fun x y=>K (.swin n p (o+x) (y-x))else none
  |.vptr (.arr k e) l=>if ty=some (.arr k e)then Γ.bnds k lo hi fun x y=>K (.val (.list false e) ((a17 y l).drop x))else none
  |_=>none
def AE.bodyP(Γ:AE)(n:Nat)(p:a0n)(K:(e:Ty)→List e.den→Rs ρ):Rs ρ:=match Γ.rt n with
 |some r=>match b0c r.t r.x p with
  |⟨.list true e,l⟩=>K e l
  |_=>none
 |none=>none
def AE.addrK(Γ:AE)(ty:Option Ty)(a:AV)(i:Int)(K:AV→Rs ρ):Rs ρ:=match a with
 |.val (.list false t) l=>if ty=some (.list false t)then(m0k l i).bind fun x=>K (.vptr t x)else none
 |.sref n p=>Γ.bodyP n p fun e l=>if ty=some (.list false e.sh)then bif decide (0≤i)&&decide (i<((a01 l:Nat):Int))then K (.ptr n (p++[.idx i.toNat]))else none else none
 |.swin n p o k=>Γ.body n p fun e _=>if ty=some (.list false e.sh)then bif decide (0≤i)&&decide (i<(k:Int))then K (.ptr n (p++[.idx (o+i.toNat)]))else none else none
 |.ptr n p=>match Γ.rt n with
  |some r=>match b0c r.t r.x p with
   |⟨.arr k e,_⟩=>if ty=some (.arr k e.sh)then bif decide (0≤i)&&decide (i<(k:Int))then K (.ptr n (p++[.idx i.toNat]))else none else none
   |_=>none
  |none=>none
 |.vptr (.arr k t) l=>if ty=some (.arr k t)then(m0k l i).bind fun x=>K (.vptr t x)else none
 |_=>none
def AE.lodK(Γ:AE)(q:Bool)(ty:Ty)(a:AV)(K:AV→AE→Rs ρ):Rs ρ:=match a with
 |.vptr t x=>if t=ty then K (.val t x) Γ else none
 |.ptr n p=>match Γ.look n with
  |some r=>match b0c r.t r.x p with
   |⟨.list true _,_⟩=>if ty.isList then K (.sref n p) Γ else none
   |⟨t,y⟩=>if t.sh=ty∧t.shn=t then K (.val t y) Γ else match q,p with
    |false,[]=>if r.t.sh=ty then K (.val r.t.shn (Ty.shnx r.t r.x)) ((Γ.mapv (AV.drop n)).setRt n none)else none
    |_,_=>none
  |none=>none
 |_=>none
def AE.whole(Γ:AE)(fl:Bool)(ty:Ty):AV→Option (Nat×Root)
 |.ptr n []=>match Γ.look n with
  |some r=>if r.bx=true∧(r.t.isAgg || fl)=true∧r.t.shn≠r.t∧r.t.sh=ty then some (n,r)else none
  |none=>none
 |_=>none
def AE.asg(Γ:AE)(q:Bool)(cx:Cx)(d:Nat)(v:AV)(K:AE→Rs ρ):Rs ρ:=match v with
 |.sref r []=>match Γ.look r with
  |some ⟨false,t,x⟩=>bif r==d then K (Γ.set d (.sref r []))else bif (cx.V r || decide (pinned≤r)) || q then K (Γ.set d (.sref r []))else
    bif decide (d<pinned)then K (((((Γ.mapv (AV.drop d)).mapv (AV.ren r d)).setRt r none).setRt d (some ⟨false,t,x⟩)).set d (.sref d []))else none
  |_=>K (Γ.set d (.sref r []))
 |.swin r [] 0 k=>match Γ.look r with
  |some ⟨false,.list true e,l⟩=>bif (r==d)&&!q then
    bif decide (d<pinned)&&decide (k≤a01 l)then K (((Γ.mapv (AV.kill r [])).setRt r (some ⟨false,.list true e,a17 k l⟩)).set d (.sref d []))else none
   else K (Γ.set d (.swin r [] 0 k))
  |_=>K (Γ.set d (.swin r [] 0 k))
 |.nils=>match Γ.look d with
  |some ⟨false,_,_⟩=>bif decide (pinned≤d) || q then K (Γ.set d .nils)else K (((Γ.mapv (AV.drop d)).setRt d none).set d .nils)
  |_=>K (Γ.set d .nils)
 |v=>K (Γ.set d v)
def AE.elems(Γ:AE)(e:Ty)(a:AV)(K:List e.den→Rs ρ):Rs ρ:=match a with
 |.val (.list false t') x=>if h:t'=e then K (h▸(show List t'.den from x))else none
 |.nils|.empt=>K []
 |.sref n p=>match Γ.look n with
  |some r=>match b0c r.t r.x p with
   |⟨.list true e',l⟩=>if h:e'=e then K (h▸l)else none
   |_=>none
  |none=>none
 |.swin n p o k=>match Γ.look n with
  |some r=>match b0c r.t r.x p with
   |⟨.list true e',l⟩=>if h:e'=e then K (a17 k (a20 o (h▸l)))else none
   |_=>none
  |none=>none
 |_=>none
def j0h:a0n→Bool
 | []=>true
 |.idx _::_=>false
 |_::p=>j0h p
def AE.copTo(Γ:AE)(n:Nat)(p:a0n)(off:Nat)(len:Option Nat)(k:IntKind)(ys:List Int)(K:Nat→AE→Rs ρ):Rs ρ:=match Γ.look n with
 |some r=>match b0c r.t r.x p with
  |⟨.list true (.int k'),l⟩=>bif decide (k'=k)&&j0h p then
    K (min (len.getD (a01 l)) ys.length) (Γ.setRt n (some ⟨r.bx,r.t,b0q r.t r.x p (.list true (.int k')) (p0h (show List Int from l) off (len.getD (a01 l)) ys)⟩))
   else none
  |_=>none
 |none=>none
def AE.copK(Γ:AE)(a:AV)(k:IntKind)(ys:List Int)(K:Nat→AE→Rs ρ):Rs ρ:=match a with
 |.sref n p=>Γ.copTo n p 0 none k ys K
 |.swin n p off len=>Γ.copTo n p off (some len) k ys K
 |_=>none
def AE.mins(f:Int→Int→Int)(k:IntKind):List AV→Int→(AV→Rs ρ)→Rs ρ
 | [],x,K=>K (.val (.int k) x)
 |.val (.int k') y::r,x,K=>if k'=k then AE.mins f k r (f x y) K else none
 |_,_,_=>none
def m0p(cx:Cx):List Nat→Bool
 | [_]=>true
 |_::t::_=>match cx.T t with
  |some (.list _ _)|some .str=>true
  |_=>false
 | []=>false
def AE.gathN(Γ:AE)(d m:Nat)(e:Ty)(ys:List e.den)(n:Nat)(K:AE→Rs ρ):Rs ρ:=match Γ.look n with
 |some ⟨false,.list true e',l⟩=>if h:e=e' then
   bif (decide (n<pinned)&&!(n==m))&&lim (a01 l+ys.length)then
    K (((((Γ.mapv (AV.kill n [])).mapv (AV.drop m)).setRt m none).setRt n (some ⟨false,.list true e',List.append l (h▸ys)⟩)).set d (.sref n []))
   else none
  else none
 |_=>none
def AE.gath(Γ:AE)(d m:Nat)(e:Ty)(ys:List e.den)(a:AV)(K:AE→Rs ρ):Rs ρ:=match a with
 |.nils=>bif d==m then none else Γ.fresh false d ⟨false,.list true e,([]:List e.den)⟩ fun Γ'=>Γ'.gathN d m e ys d K
 |.sref n []=>Γ.gathN d m e ys n K
 |_=>none
def AE.ownB(Γ:AE)(e:Ty):AV→Option (Nat×(e':Ty)×List e'.den)
 |.sref m []=>match Γ.look m with
  |some ⟨false,.list true e',ys⟩=>bif decide (e'.sh=e)&&!decide (e'=e)then some (m,⟨e',ys⟩)else none
  |_=>none
 |_=>none
def t0f(cx:Cx)(ts:List Nat)(a b:AV):Option ((e:Ty)×List e.den):=match ts,a,b with
 |t::t2::_,.nils,.val (.int .i64) (n:Int)=>match cx.T t,cx.T t2 with
  |some (.list _ e),some (.int .i64)=>bif decide (0≤n)&&lim n.toNat then some ⟨e,a08 n.toNat e.dflt⟩else none
  |_,_=>none
 |_,_,_=>none
def AE.zapp(Γ:AE)(q:Bool)(cx:Cx)(d:Nat)(ts:List Nat)(a b:AV)(K:AE→Rs ρ):Rs ρ:=match ts,a,b with
 |t::t2::_,.nils,.val (.int .i64) (n:Int)=>match cx.T t,cx.T t2 with
  |some (.list _ e),some (.int .i64)=>bif decide (0≤n)&&lim n.toNat then Γ.apnd q d e .nils (a08 n.toNat e.dflt) K else none
  |_,_=>none
 |_,_,_=>none
theorem l0d(Γ:AE)(q:Bool)(cx:Cx)(d:Nat)(h:List Nat)(a b:AV)(K:AE→Rs ρ):Γ.zapp q cx d h a b K=match t0f cx h a b with
  |some ⟨e,ys⟩=>Γ.apnd q d e .nils ys K
  |none=>none:=by
 unfold AE.zapp t0f;split;split;simp only[cond_eq_ite]
 split<;>simp_all
 split;rename_i g f _ _ _ _;simp_all;rfl;split;simp_all;rfl
def AE.blt(Γ:AE)(q:Bool)(cx:Cx)(d:Nat)(b:Builtin)(ts:List Nat)(as:List AV)(K:AE→Rs ρ):Rs ρ:=
 match b,as with
 |.len,[a]=>Γ.lenK (ts.head?.bind cx.T) a fun n=>K (Γ.set d (.val (.int .i64) (n:Int)))
 |.max,.val (.int k) x::r=>AE.mins v0r k r x fun v=>K (Γ.set d v)
 |.min,.val (.int k) x::r=>AE.mins v0s k r x fun v=>K (Γ.set d v)
 |.append,[a,b]=>bif m0p cx ts then match ts.head?.bind cx.T with
  |some (.list _ e)=>
   match b with
   |.val .str y=>if h:e=.int .u8 then Γ.apnd q d e a (h▸y) K else none
   |b=>match (bif q || !e.isList then none else Γ.ownB e b)with
    |some (m,⟨e',ys⟩)=>Γ.gath d m e' ys a K
    |none=>Γ.elems e b fun ys=>Γ.apnd q d e a ys K
  |_=>none
  else Γ.zapp q cx d ts a b K
 |.cap,[.nils]=>bif Ty.isList ((ts.head?.bind cx.T).getD .unit)then K (Γ.set d (.val (.int .i64) (0:Int)))else none
 |.copy,[a,b]=>if q then none else match ts.head?.bind cx.T with
  |some (.list _ (.int k))=>Γ.elems (.int k) b fun ys=>Γ.copK a k ys fun n Γ'=>K (Γ'.set d (.val (.int .i64) (n:Int)))
  |_=>none
 |_,_=>none
def AE.convK(Γ:AE)(src dst:Nat)(ts tt:Option Ty)(a:AV)(K:AV→Rs ρ)(Kr:Root→Rs ρ):Rs ρ:=
 match ts,tt,a with
 |some _,some (.int k),.val (.int _) (x:Int)=>K (.val (.int k) (k.wrap x))
 |some .str,some (.list _ (.int .u8)),.val .str (x:List Int)=>bif lim x.length then Kr ⟨false,.list true (.int .u8),x⟩else none
 |some .str,some .str,.val .str (x:List Int)=>K (.val .str x)
 |some (.list _ (.int .u8)),some (.list _ (.int .u8)),.sref n []=>if src=dst then(match Γ.look n with
  |some ⟨false,.list true (.int .u8),l⟩=>bif decide (0<a01 l)then K (.sref n [])else none
  |_=>none)else none
 |some (.list _ (.int .u8)),some .str,a=>Γ.elems (.int .u8) a fun x=>K (.val .str (b2s x))
 |_,_,_=>none
def AE.conv(Γ:AE)(q:Bool)(cx:Cx)(d:Nat)(src dst:Nat)(a:AV)(K:AE→Rs ρ):Rs ρ:=
 Γ.convK src dst (cx.T src) (cx.T dst) a (fun v=>K (Γ.set d v)) fun r=>Γ.fresh q d r fun Γ=>K (Γ.set d (.sref d []))
def Cx.own(cx:Cx)(d t:Nat):Option Ty:=match cx.O d with
 |some t'=>if cx.T t=some t'.sh then some t' else none
 |none=>cx.T t
def AE.un(op:UnOp)(a:AV)(K:AV→Rs ρ):Rs ρ:=match op,a with
 |.not,.val .bool (b:Bool)=>K (.val .bool (!b))
 |.neg,.val (.int k) (x:Int)=>K (.val (.int k) (k.wrap (0-x)))
 |.xor,.val (.int k) (x:Int)=>K (.val (.int k) (bits k .xor (if k.signed then -1 else k.max) x))
 |_,_=>none
def n0i(c a b:AV)(K:AV→Rs ρ):Rs ρ:=match c with
 |.val .bool (y:Bool)=>match a,b with
  |.val .bool (u:Bool),.val .bool (v:Bool)=>K (.val .bool (bif y then u else v))
  |u,.skp=>bif y then K u else none
  |.skp,v=>bif y then none else K v
  |_,_=>none
 |_=>none
def Cx.glob(cx:Cx):AV→AV
 |.glob g=>match cx.G g with
  |some ⟨t,x⟩=>.vptr t x
  |none=>.dead
 |v=>v
def AE.sopd(Γ:AE):Operand→SV
 |.tmp t=>Γ.sl t
 |x=>.one (Γ.opd x)
def AE.aggOf(Γ:AE):Operand→Option (List AV)
 |.tmp i=>match Γ.sl i with
  |.cmp .agg vs=>some vs
  |_=>none
 |_=>none
def AV.fits1:AV→Ty→Bool
 |.val t _,a=>!t.isAgg&&!a.isAgg
 |.sref _ [],.list true _=>true
 |.nils,.list true _=>true
 |_,_=>false
def f0r:Ty→Option AV
 |.list _ _=>some .nils
 |.int k=>some (.val (.int k) (0:Int))
 |.bool=>some (.val .bool false)
 |.str=>some (.val .str ([]:List Int))
 |_=>none
def AE.aggV(Γ:AE):Nat→Ty→List (Nat×Operand)→Option (List AV)
 |_,.unit,[]=>some []
 |k,.pair a b,[]=>(f0r a).bind fun v=>(Γ.aggV (k+1) b []).map (v::·)
 |k,.pair a b,(i,o)::r=>bif i==k then(bif decide (a.cells=1)&&(Γ.opd o).fits1 a then(Γ.aggV (k+1) b r).map (Γ.opd o::·)else none)
   else(f0r a).bind fun v=>(Γ.aggV (k+1) b ((i,o)::r)).map (v::·)
 |_,_,_=>none
def AE.stors(x:Operand)(d:Nat)(τ:Ty):Nat→Ty→AE→(AE→Rs ρ)→Rs ρ
 |i,.unit,Γ,K=>match Γ.aggOf x with
  |some vs=>bif vs.length==i then K Γ else none
  |none=>none
 |i,.pair a b,Γ,K=>match Γ.rt d,Γ.get d,(Γ.aggOf x).bind (·[i]?)with
  |some r,.ptr n [],some v=>if r.t=τ∧n=d∧a.cells=1 then Γ.stor a.sh d (b0f i) v fun Γ'=>AE.stors x d τ (i+1) b Γ' K else none
  |_,_,_=>none
 |_,_,_,_=>none
def Cx.nlT(cx:Cx)(d t:Nat):Option Ty:=match cx.O d with
 |some t'=>if t'.shn=t'∧cx.T t=some t'.sh then some t' else none
 |none=>none
def aop(cx:Cx)(q:Bool)(o:Oper)(Γ:AE)(K:AE→Rs ρ):Rs ρ:=
 match o.op,o.dst with
 |.move x,some d=>match x with
  |.tmp t=>K (Γ.put d (Γ.sl t))
  |x=>K (Γ.set d (Γ.opd x))
 |.assign x,some d=>match Γ.sopd x with
  |.one v=>Γ.asg q cx d v K
  |.cmp c vs=>K (Γ.put d (.cmp c vs))
 |.makeFunc (.func f) first caps,some d=>bif first.isEmpty then K (Γ.put d (.cmp (.clo f) (caps.toList.map Γ.opd)))else none
 |.pick c a b,some d=>n0i (Γ.opd c) (Γ.opd a) (Γ.opd b) fun v=>K (Γ.set d v)
 |.alloc t,some d=>match cx.own d t with
  |some t=>Γ.fresh q d ⟨true,t,t.dflt⟩ fun Γ=>K (Γ.set d (.ptr d []))
  |none=>none
 |.box t x,some d=>match (bif q then none else Γ.aggOf x)with
  |some _=>match Γ.rt d,cx.O d with
   |none,some t'=>if cx.T t=some t'.sh then Γ.fresh false d ⟨true,t',t'.dflt⟩ fun Γ=>AE.stors x d t' 0 t' (Γ.set d (.ptr d [])) K else none
   |_,_=>none
  |none=>match cx.T t with
  |some t=>Γ.asV q t (Γ.opd x) fun y Γ=>if cx.K d then K (Γ.set d (.vptr t y))else Γ.fresh q d ⟨true,t,y⟩ fun Γ=>K (Γ.set d (.ptr d []))
  |none=>none
 |.build t ps,some d=>match cx.nlT d t with
  |some t'=>bif t'.isAgg then Γ.fills q t' ps.toList t'.dflt fun y Γ=>K (Γ.set d (.val t' y))else none
  |none=>match cx.O d with
  |some t'=>if cx.T t=some t'.sh then(match Γ.aggV 0 t' ps.toList with
   |some vs=>bif decide (0<t'.cells)then K (Γ.put d (.cmp .agg vs))else none
   |none=>none)else none
  |none=>match cx.T t with
  |some t=>bif t.isAgg then Γ.fills q t ps.toList t.dflt fun y Γ=>K (Γ.set d (.val t y))else none
  |none=>none
 |.buildSlice t n ps,some d=>match cx.T t with
  |some (.list _ e)=>match (bif q || !e.isList then none else cx.O d)with
   |some t'=>match t',ps.toList with
    |.list true e',[(0,x)]=>if e'.sh=e∧n=1 then Γ.fresh false d ⟨false,.list true e',[e'.dflt]⟩ fun Γ=>(match Γ.opd x with
      |.sref m []=>(Γ.set d (.sref d [])).stor e d [.idx 0] (.sref m []) K
      |_=>none)else none
    |_,_=>none
   |none=>bif lim n&&decide (n*e.cells≤16777216)then Γ.lit q e n ps.toList (a08 n e.dflt) fun y Γ=>bif cx.K d then K (Γ.set d (.val (.list false e) y))else Γ.fresh q d ⟨false,.list true e,y⟩ fun Γ=>K (Γ.set d (.sref d []))else none
  |_=>none
 |.load t a,some d=>match cx.T t with
  |some t=>match (bif q then none else Γ.whole (cx.K d) t (Γ.opd a))with
   |some (n,r)=>K (((Γ.mapv (AV.deeps [n] [])).setRt n (some ⟨true,r.t.shn,Ty.shnx r.t r.x⟩)).set d (.val r.t.shn (Ty.shnx r.t r.x)))
   |none=>Γ.lodK q t (cx.glob (Γ.opd a)) fun v Γ=>K (Γ.set d v)
  |none=>none
 |.store t a x,d=>if q then none else match Γ.aggOf x with
  |some _=>match a with
   |.tmp s=>match Γ.rt s with
    |some r=>if cx.T t=some r.t.sh∧0<r.t.cells then AE.stors x s r.t 0 r.t Γ fun Γ=>K (Γ.setD d .dead)else none
    |none=>none
   |_=>none
  |none=>match Γ.opd a with
  |.ptr n p=>match cx.T t with
   |some t=>Γ.stor t n p (Γ.opd x) fun Γ=>K (Γ.setD d .dead)
   |none=>none
  |_=>none
 |.nilCheck x,some d=>match Γ.opd x with
  |.ptr n p=>K (Γ.set d (.ptr n p))
  |.vptr t y=>K (Γ.set d (.vptr t y))
  |_=>none
 |.binOp op ty x y _,some d=>bif u0j (cx.T ty)then(match s0p (cx.T ty) (Γ.opd x) (Γ.opd y)with
   |some e=>if q then none else A0r op e fun b=>K (Γ.set d (.val .bool b))
   |none=>none)
  else h0d cx op ty (Γ.opd x) (Γ.opd y) fun v=>K (Γ.set d v)
 |.unOp op _ x,some d=>AE.un op (Γ.opd x) fun v=>K (Γ.set d v)
 |.convert s t x,some d=>Γ.conv q cx d s t (Γ.opd x) K
 |.makeSlice t n c,some d=>match cx.own d t with
  |some (.list _ e)=>(Γ.opd n).isVal (.int .i64) fun(x:Int)=>(Γ.opd c).isVal (.int .i64) fun(y:Int)=>
    bif decide (0≤x)&&(decide (x≤y)&&lim y.toNat)then Γ.fresh q d ⟨false,.list true e,a08 x.toNat e.dflt⟩ fun Γ=>K (Γ.set d (.sref d []))else none
  |_=>none
 |.slice t x lo hi mx,some d=>Γ.slic (cx.T t) (Γ.opd x) lo hi mx fun v=>K (Γ.set d v)
 |.fieldAddr s x f,some d=>match Γ.opd x with
  |.ptr n p=>match Γ.rt n with
   |some r=>match b0c r.t r.x p with
    |⟨t,_⟩=>if b0y t f=true∧cx.T s=some t.sh then K (Γ.set d (.ptr n (p++b0f f)))else none
   |none=>none
  |.vptr t y=>if b0y t f=true∧cx.T s=some t then(match b0c t y (b0f f)with|⟨t',z⟩=>K (Γ.set d (.vptr t' z)))else none
  |_=>none
 |.field s x f,some d=>match Γ.opd x with
  |.val t y=>if b0y t f=true∧cx.T s=some t then(match b0c t y (b0f f)with|⟨t',z⟩=>K (Γ.set d (.val t' z)))else none
  |_=>none
 |.indexAddr t x i,some d=>match Γ.opd i with
  |.val (.int _) (i:Int)=>Γ.addrK (cx.T t) (cx.glob (Γ.opd x)) i fun v=>K (Γ.set d v)
  |_=>none
 |.index s x i,some d=>match Γ.opd x,Γ.opd i with
  |.val (.arr n t) l,.val (.int _) (i:Int)=>if cx.T s=some (.arr n t)then(m0k l i).bind fun y=>K (Γ.set d (.val t y))else none
  |.val .str (l:List Int),.val (.int _) (i:Int)=>if cx.T s=some .str then(m0k l i).bind fun y=>K (Γ.set d (.val (.int .u8) y))else none
  |_,_=>none
 |.extract (.tmp t) i,some d=>match Γ.sl t with
  |.cmp .tup vs=>match vs[i]? with
   |some v=>K (Γ.set d v)
   |none=>none
  |_=>none
 |.call c,d=>match c.callee with
  |.builtin b=>match d with
   |some d=>Γ.blt q cx d b c.argTypes.toList (c.args.toList.map Γ.opd) K
   |none=>none
  |.value (.func f)=>match cx.C f with
   |some s=>Γ.call q d s (c.args.toList.map Γ.opd) K
   |none=>none
  |.value (.tmp t)=>if q then none else match Γ.sl t with
   |.cmp (.clo f) vs=>match cx.C f with
    |some s=>Γ.call q d s (c.args.toList.map Γ.opd++vs) K
    |none=>none
   |_=>none
  |_=>none
 |_,_=>none
def g0f(ops:List Oper)(j:Nat):Option Nat:=(ops[j]?).bind (·.dst)
inductive Md where
 |v|q|x

 |p

 |a (ws:List Nat)

 |s

 |b (ws:List Nat)
 |r (ns:List Nat)
 |w (ws:List Nat)
def Md.isW:Md→Bool
 |.w _=>true
 |_=>false
def AV.firm:AV→Bool
 |.skp|.val _ _|.nils|.empt|.nilp|.vptr _ _|.glob _=>true
 |_=>false
def SV.firm:SV→Bool
 |.one v=>v.firm
 |.cmp _ vs=>vs.all AV.firm
def AV.refs:AV→List Nat
 |.ptr n _|.sref n _|.swin n _ _ _=>[n]
 |_=>[]
def SV.refs:SV→List Nat
 |.one v=>v.refs
 |.cmp _ vs=>vs.flatMap AV.refs
def AV.alive:AV→Bool
 |.dead=>false
 |_=>true
def SV.alive:SV→Bool
 |.one v=>v.alive
 |.cmp _ vs=>vs.all AV.alive
def m0y(cx:Cx)(ts:List Nat):Bool:=match ts.head?.bind cx.T with
 |some (.list _ e)=>e.isList
 |_=>false
def wOk(cx:Cx)(o:Oper)(Γ:AE):Bool:=match o.op with
 |.call c=>match c.callee with
  |.builtin .append=>o.dst.isSome&&!m0y cx c.argTypes.toList
  |.value (.func f)=>match cx.C f with
   |some s=>!(s.rs.any RA.hasList || (d0o s.ps).any RA.hasList) || c.args.toList.all fun x=>(Γ.opd x).viewed.isEmpty
   |none=>false
  |_=>false
 |.store _ _ x=>(Γ.opd x).viewed.isEmpty&&(Γ.aggOf x).isNone
 |_=>false
def AE.foot(Γ:AE)(o:Oper):List Nat:=o.op.operands.toList.flatMap fun x=>match x with
 |.tmp t=>(Γ.sl t).refs
 |_=>[]
def d0z(cx:Cx)(o:Oper)(d:Nat):List Nat:=d::(match o.op with
 |.call c=>(match c.callee with
  |.value (.func f)=>(match cx.C f with
   |some s=>b0d s.rs (d+1000)
   |none=>[])
  |_=>[])
 |_=>[])
def l0s(a b:List Nat):Bool:=a.all fun n=>b.contains n
def disj(a b:List Nat):Bool:=a.all fun n=>!b.contains n
def p0m(Γ:AE):Operand→Option Nat
 |.tmp t=>match Γ.sl t with
  |.one (.ptr n [])=>bif decide (pinned≤n)then some n else none
  |_=>none
 |_=>none
def h0x(o:Oper)(Γ:AE):Option Nat:=match o.op with
 |.move x=>p0m Γ x
 |.nilCheck x=>p0m Γ x
 |_=>none
def AV.calm:AV→Bool
 |.ptr n []=>decide (pinned≤n)
 |v=>v.firm
def SV.calm:SV→Bool
 |.one v=>v.calm
 |sv=>sv.firm
def Step.isField:Step→Bool
 |.idx _=>false
 |_=>true
def AV.still:AV→Bool
 |.ptr _ p|.sref _ p=>p.all Step.isField
 |v=>v.firm
def SV.still:SV→Bool
 |.one v=>v.still
 |sv=>sv.firm
def tyF:Ty→a0n→Option Ty
 |t,[]=>some t
 |.pair a _,.fst::p=>tyF a p
 |.pair _ b,.snd::p=>tyF b p
 |_,_=>none
def AE.ptrTy(Γ:AE):Operand→Option (Nat×a0n×Ty)
 |.tmp t=>match Γ.sl t with
  |.one (.ptr n p)=>match Γ.rt n with
   |some r=>(tyF r.t p).map fun τ=>(n,p,τ)
   |none=>none
  |_=>none
 |_=>none
def AE.stay(cx:Cx)(Γ:AE)(o:Oper):Option AV:=match o.op with
 |.move (.tmp t)=>match Γ.sl t with
  |.one v=>bif v.still&&v.refs.all fun n=>(Γ.rt n).isSome then some v else none
  |_=>none
 |.fieldAddr s x f=>match Γ.ptrTy x with
  |some (n,p,τ)=>if b0y τ f=true∧cx.T s=some τ.sh then some (.ptr n (p++b0f f))else none
  |none=>none
 |.load s x=>match Γ.ptrTy x with
  |some (n,p,.list true _)=>match cx.T s with
   |some τ=>bif τ.isList then some (.sref n p)else none
   |none=>none
  |_=>none
 |_=>none
def AE.pdElem(Γ:AE):Bool:=match Γ.pd with
 |none=>true
 |some (_,p,_)=>!p.all Step.isField
def c0o(cx:Cx):Md→Oper→AE→(AE→Rs ρ)→Rs ρ
 |.x,o,Γ,K=>aop cx false o Γ K
 |.w ws,o,Γ,K=>match Γ.pd with
  |none=>bif wOk cx o Γ&&(l0s (Γ.foot o) ws&&l0s (d0z cx o (o.dst.getD 0)) ws)then aop cx false o Γ fun Γ'=>(match Γ'.pd with
    |none=>K Γ'
    |some _=>none)else none
  |some _=>none
 |.r ns,o,Γ,K=>bif (o.op.operands.toList.all fun x=>match x with
   |.tmp t=>(Γ.sl t).alive&&(Γ.sl t).refs.all fun n=>(Γ.rt n).isSome&&ns.contains n
   |_=>true)&&l0s (d0z cx o (o.dst.getD 0)) ns then
    (match o.dst with
     |some d=>aop cx true o Γ fun Γ'=>bif l0s (Γ'.sl d).refs ns then K Γ' else none
     |none=>none)
   else none
 |.p,o,Γ,K=>match h0x o Γ,o.dst with
  |some n,some d=>K (Γ.put d (.one (.ptr n [])))
  |_,_=>none
 |.a ws,o,Γ,K=>match Γ.pd with
  |none=>bif wOk cx o Γ&&(l0s (Γ.foot o) ws&&l0s (d0z cx o (o.dst.getD 0)) ws)then aop cx false o Γ K else none
  |some _=>none
 |.b ws,o,Γ,K=>match Γ.pd with
  |none=>bif wOk cx o Γ&&(l0s (Γ.foot o) ws&&l0s (d0z cx o (o.dst.getD 0)) ws)then aop cx false o Γ fun Γ'=>(match Γ'.pd with
    |some (_,p,_)=>bif !p.all Step.isField then K Γ' else none
    |none=>none)else none
  |some _=>none
 |.s,o,Γ,K=>match Γ.stay cx o,o.dst with
  |some v,some d=>bif v.still&&Γ.pdElem then K (Γ.put d (.one v))else none
  |_,_=>none
 |.q,o,Γ,K=>bif o.op.operands.toList.all fun x=>match x with
   |.tmp t=>(Γ.sl t).refs.all fun n=>(Γ.rt n).isSome
   |_=>true then
    (match o.dst with
     |some _=>aop cx true o Γ K
     |none=>none)
   else none
 |.v,o,Γ,K=>match h0x o Γ with
  |some n=>(match o.dst with
   |some d=>K (Γ.put d (.one (.ptr n [])))
   |none=>none)
  |none=>bif o.op.operands.toList.all fun x=>match x with
   |.tmp t=>(Γ.sl t).firm
   |_=>true then
    (match o.dst with
     |some d=>aop cx true o Γ fun Γ'=>bif (Γ'.sl d).firm then K Γ' else none
     |none=>none)
   else none
def a0m(cx:Cx)(md:Md)(ops:List Oper)(o:Oper)(Γ:AE)(K:AE→Rs ρ):Rs ρ:=
 match o.guard with
 |none=>c0o cx md o Γ K
 |some (j,want)=>match g0f ops j with
  |none=>none
  |some g=>match Γ.get g with
   |.val .bool (b:Bool)=>bif b then(bif want then c0o cx md o (Γ.set g (.val .bool true)) K else K ((Γ.set g (.val .bool true)).setD o.dst .skp))
     else(bif want then K ((Γ.set g (.val .bool false)).setD o.dst .skp)else c0o cx md o (Γ.set g (.val .bool false)) K)
   |.skp=>K (Γ.setD o.dst .skp)
   |_=>none
def h0m(cx:Cx)(ops:List Oper):List (Md×Oper)→AE→(AE→Rs ρ)→Rs ρ
 | [],Γ,K=>K Γ
 |(md,o)::r,Γ,K=>a0m cx md ops o Γ fun Γ'=>h0m cx ops r Γ' K
def o0x:Md→Md→Bool
 |.x,_|_,.x=>false
 |.a _,.p|.p,.a _=>true
 |.a _,_|_,.a _=>false
 |.b _,.s|.s,.b _=>true
 |.b _,_|_,.b _=>false
 |.w _,.p|.p,.w _=>true
 |.w _,.v|.v,.w _=>true
 |.w ws,.r ns|.r ns,.w ws=>disj ns ws
 |.w _,_|_,.w _=>false
 |_,_=>true
def p0x:List Oper→List Nat→List Nat
 | [],acc=>acc
 |o::r,acc=>p0x r (acc++[o.after.toList.foldl (fun s e=>if Region.binds .any e then s ||| 2^e.on ||| acc.getD e.on 0 else s) 0])
def p0c(ops:Array Oper)(ms:List Md):Bool:=
 let b:=p0x ops.toList []
 decide (ms.length=ops.size)&&(a21 ops.size).all fun j=>((ops.getD j default).after.toList.all fun e=>!Region.binds .any e || decide (e.on<j)) &&
  (a21 j).all fun i=>(b.getD j 0).testBit i || (o0x (ms.getD i .x) (ms.getD j .x)&&((ops.getD i default).apart ops (ops.getD j default) &&
   (((ms.getD i .x).isW || (ops.getD i default).dst.isSome)&&((ms.getD j .x).isW || (ops.getD j default).dst.isSome))))
end
inductive Ex where
 |normal
 |exit (id:Nat)
 |ret
 deriving DecidableEq
inductive Ent where
 |sv (i:Nat) (t:Ty)

 |own (i n:Nat) (e:Ty)

 |box (n:Nat) (t:Ty)
 |ptr (i n:Nat) (p:a0n)

 |vp (i:Nat) (t:Ty)
 |ref (i n:Nat) (p:a0n)

 |rfi (i n:Nat)

 |win (i n:Nat) (p:a0n)

 |clo (i f:Nat) (ns:List Nat)
@[reducible] def a0c:=List Ent
def a0c.ty:a0c→Ty
 | []=>.unit
 |.sv _ t::r=>.pair t (a0c.ty r)
 |.own _ _ e::r=>.pair (.list true e) (a0c.ty r)
 |.box _ t::r=>.pair t (a0c.ty r)
 |.ptr _ _ _::r=>a0c.ty r
 |.vp _ t::r=>.pair t (a0c.ty r)
 |.ref _ _ _::r=>a0c.ty r
 |.rfi _ _::r=>.pair (.int .i64) (a0c.ty r)
 |.win _ _ _::r=>.pair (.int .i64) (.pair (.int .i64) (a0c.ty r))
 |.clo _ _ _::r=>a0c.ty r
def AE.nothing:AE:=⟨fun _=>.one .dead,fun _=>none,none⟩
def g0c:List Nat→List AV
 | []=>[]
 |n::ns=>.ptr n []::g0c ns
def i0g:List AV→List Nat→Bool
 | [],[]=>true
 |.ptr n []::vs,m::ns=>(n==m)&&i0g vs ns
 |_,_=>false
def a0c.enc:(es:a0c)→es.ty.den→AE
 | [],_=>AE.nothing
 |.sv i t::r,x=>(a0c.enc r x.2).set i (.val t x.1)
 |.own i n e::r,x=>((a0c.enc r x.2).setRt n (some ⟨false,.list true e,x.1⟩)).set i (.sref n [])
 |.box n t::r,x=>(a0c.enc r x.2).setRt n (some ⟨true,t,x.1⟩)
 |.ptr i n p::r,x=>(a0c.enc r x).set i (.ptr n p)
 |.vp i t::r,x=>(a0c.enc r x.2).set i (.vptr t x.1)
 |.ref i n p::r,x=>(a0c.enc r x).set i (.sref n p)
 |.rfi i n::r,x=>(a0c.enc r x.2).set i (.sref n [.idx (show Int from x.1).toNat])
 |.win i n p::r,x=>(a0c.enc r x.2.2).set i (.swin n p (show Int from x.1).toNat (show Int from x.2.1).toNat)
 |.clo i f ns::r,x=>(a0c.enc r x).put i (.cmp (.clo f) (g0c ns))
def a0c.names:a0c→List Nat
 | []=>[]
 |.own _ n _::r=>n::a0c.names r
 |.box n _::r=>n::a0c.names r
 |_::r=>a0c.names r
def r0v:List Nat→Bool
 | []=>true
 |a::l=>!l.contains a&&r0v l
section
variable {ρ:Type}
def a0c.rest(nm:List Nat)(Γ:AE):(es:a0c)→(es.ty.den→Rs ρ)→Rs ρ
 | [],K=>K ()
 |.sv i t::r,K=>match Γ.get i with
  |.val t' x=>if h:t'=t then a0c.rest nm Γ r fun y=>K (h▸x,y)else none
  |_=>none
 |.own i n e::r,K=>match Γ.get i with
  |.sref m []=>bif m==n then(match Γ.rt n with
    |some ⟨false,.list true e',l⟩=>if h:e'=e then a0c.rest nm Γ r fun y=>K (h▸l,y)else none
    |_=>none)else none
  |.nils=>match Γ.rt n with
   |none=>bif decide (n<pinned)then a0c.rest nm Γ r fun y=>K ([],y)else none
   |some _=>none
  |.empt=>match Γ.rt n with
   |none=>bif decide (n<pinned)then a0c.rest nm Γ r fun y=>K ([],y)else none
   |some _=>none
  |_=>none
 |.box n t::r,K=>match Γ.rt n with
  |some ⟨true,t',x⟩=>if h:t'=t then a0c.rest nm Γ r fun y=>K (h▸x,y)else if t'.shn=t' then(match castTo t' t x with
   |some z=>a0c.rest nm Γ r fun y=>K (z,y)
   |none=>none)else none
  |_=>none
 |.ptr i n p::r,K=>match Γ.get i with
  |.ptr m q=>bif nm.contains n&&((m==n)&&g0b q p)then a0c.rest nm Γ r K else none
  |_=>none
 |.vp i t::r,K=>match Γ.get i with
  |.vptr t' x=>if h:t'=t then a0c.rest nm Γ r fun y=>K (h▸x,y)else none
  |_=>none
 |.ref i n p::r,K=>match Γ.get i with
  |.sref m q=>bif nm.contains n&&((m==n)&&g0b q p)then a0c.rest nm Γ r K else none
  |_=>none
 |.rfi i n::r,K=>match Γ.get i with
  |.sref m [.idx k]=>bif nm.contains n&&(m==n)then a0c.rest nm Γ r fun y=>K ((k:Int),y)else none
  |_=>none
 |.win i n p::r,K=>match Γ.get i with
  |.swin m q o k=>bif nm.contains n&&((m==n)&&g0b q p)then a0c.rest nm Γ r fun y=>K ((o:Int),(k:Int),y)else none
  |_=>none
 |.clo i f ns::r,K=>match Γ.sl i with
  |.cmp (.clo f') vs=>bif (f'==f)&&(ns.all nm.contains&&i0g vs ns)then a0c.rest nm Γ r K else none
  |_=>none
def AV.exact:AV→Ty→Bool
 |.val t' _,t=>decide (t'=t)
 |_,_=>true
def a0c.vals(nm:List Nat):(es:a0c)→AE→(es.ty.den→Rs ρ)→Rs ρ
 |.sv i t::r,Γ,K=>bif (Γ.get i).exact t then Γ.asV false t (Γ.get i) fun x Γ'=>a0c.vals nm r (Γ'.set i (.val t x)) fun y=>K (x,y)else none
 |es,Γ,K=>a0c.rest nm Γ es K
def a0c.dcd(es:a0c)(Γ:AE)(K:es.ty.den→Rs ρ):Rs ρ:=match Γ.pd with
 |none=>bif r0v es.names then a0c.vals es.names es Γ K else none
 |some _=>none
end
@[reducible] def f0x:=List (Ex×a0c)
def f0x.den:f0x→Type
 | []=>Empty
 | [(_,s)]=>s.ty.den
 |(_,s)::r=>s.ty.den ⊕ f0x.den r
def f0x.pack{ρ:Type}:(o:f0x)→Ex→AE→(o.den→Rs ρ)→Rs ρ
 | [],_,_,_=>none
 | [(e',s)],e,Γ,K=>if e=e' then s.dcd Γ K else none
 |(e',s)::x::r,e,Γ,K=>if e=e' then s.dcd Γ fun y=>K (.inl y)else f0x.pack (x::r) e Γ fun y=>K (.inr y)
def f0x.open{ρ:Type}:(o:f0x)→(o.den→(Ex→AE→Rs ρ)→Rs ρ)
 | []=>fun _ _=>none
 | [(e',s)]=>fun x K=>K e' (s.enc x)
 |(e',s)::y::r=>
  let g:=f0x.open (y::r)
  fun x K=>Sum.elim (fun a=>K e' (s.enc a)) (fun z=>g z K) (show s.ty.den ⊕ f0x.den (y::r)from x)
def j0z{σ β:Type}(f:σ→Option (σ ⊕ β)):Nat→σ→Option β
 |0,_=>none
 |n+1,s=>match f s with
  |none=>none
  |some (.inl s')=>j0z f n s'
  |some (.inr b)=>some b
open Classical in
def v0v {σ β:Type} (f:σ→Option (σ ⊕ β)) (s:σ):Option β:=
 if h:∃n b,j0z f n s=some b then some h.choose_spec.choose else none
def y0s{σ β:Type}(f:σ→Option (σ ⊕ β))(s:σ):Option β:=match j0z f 400 s with
 |some b=>some b
 |none=>v0v f s
structure Hints where
 loops:List (Nat×a0c×f0x)
 cuts:List (Nat×f0x)

 regs:List (Nat×List Md)
def find{α:Type}:List (Nat×α)→Nat→Option α
 | [],_=>none
 |(k,x)::r,n=>bif k==n then some x else find r n
def c0n(cx:Cx)(H:Hints):Code→Nat→{ρ:Type}→AE→(Ex→AE→Rs ρ)→Rs ρ
 |.skip,_,_,Γ,K=>K .normal Γ
 |.region id ops draw,_,_,Γ,K=>bif draw then(match find H.regs id with
    |some ms=>bif p0c ops ms then h0m cx ops.toList (ms.zip ops.toList) Γ fun Γ'=>K .normal Γ' else none
    |none=>none)
   else h0m cx ops.toList (ops.toList.map fun o=>(.x,o)) Γ fun Γ'=>K .normal Γ'
 |.seq a b,p,_,Γ,K=>match find H.cuts p with
  |none=>c0n cx H a (2*p) Γ fun e Γ'=>match e with
   |.normal=>c0n cx H b (2*p+1) Γ' K
   |e=>K e Γ'
  |some os=>(c0n cx H a (2*p) Γ fun e Γ'=>os.pack e Γ' some).bind fun x=>os.open x fun e Γ'=>match e with
   |.normal=>c0n cx H b (2*p+1) Γ' K
   |e=>K e Γ'
 |.cond c x y,p,_,Γ,K=>match Γ.opd c with
  |.val .bool (t:Bool)=>bif t then c0n cx H x (2*p) Γ K else c0n cx H y (2*p+1) Γ K
  |_=>none
 |.block id c,p,_,Γ,K=>c0n cx H c (2*p) Γ fun e Γ'=>match e with
  |.exit i=>bif i==id then K .normal Γ' else K (.exit i) Γ'
  |e=>K e Γ'
 |.loop c,p,_,Γ,K=>match find H.loops p with
  |none=>none
  |some (s,os)=>s.dcd Γ fun x=>
   (y0s (fun x=>c0n cx H c (2*p) (s.enc x) fun e Γ'=>match e with
    |.normal=>s.dcd Γ' fun x'=>some (.inl x')
    |e=>os.pack e Γ' fun y=>some (.inr y)) x).bind fun y=>os.open y K
 |.exit id,_,_,Γ,K=>K (.exit id) Γ
 |.ret,_,_,Γ,K=>K .ret Γ
 |_,_,_,_,_=>none
def i0k(ps:List PA)(i:Nat):Option Bool:=match ps[i]? with
 |some (.r c _)=>some c
 |_=>none
def rnm(c:Bool)(i:Nat):Nat:=bif c then i else pinned+i
def h0u(ps:List PA)(m:Nat):Option Nat:=
 bif decide (m<pinned)then(match i0k ps m with|some true=>some m|_=>none)
 else match i0k ps (m-pinned)with|some false=>some (m-pinned)|_=>none
def valAV:(t:Ty)→t.den→AV
 |.nl _,_=>.nils
 |.int k,x=>.val (.int k) x
 |.bool,x=>.val .bool x
 |.str,x=>.val .str x
 |.unit,x=>.val .unit x
 |.list o t,x=>.val (.list o t) x
 |.pair a b,x=>.val (.pair a b) x
 |.arr n t,x=>.val (.arr n t) x
def ini(ps:List PA)(x:(b0u (ps.map PA.ty)).den):AE where
 sl:=fun i=>match (a0y ps x)[i]? with
  |some ⟨.v t,y⟩=>.one (valAV t y)
  |some ⟨.r c a,y⟩=>bif c&&decide (pinned≤i)then .one .dead else .one (p0w (rnm c i) ⟨a,y⟩)
  |none=>.one .dead
 rt:=fun n=>bif decide (n<pinned)then(match (a0y ps x)[n]? with
   |some ⟨.r true a,y⟩=>a0q ⟨a,y⟩
   |_=>none)
  else match (a0y ps x)[n-pinned]? with
  |some ⟨.r false a,y⟩=>a0q ⟨a,y⟩
  |_=>none
 pd:=none
section
variable {ρ:Type}
def AE.out(cx:Cx)(Γ:AE)(tk:List Nat)(j:Nat):(r:RA)→ResultVar ⊕ Option Nat→(r.ty.den→AE→List Nat→Rs ρ)→Rs ρ
 |.v t,.inl (.tmp i),K=>bif (Γ.get i).viewed.any tk.contains then none else Γ.asV false t (Γ.get i) fun x Γ'=>K x (Γ'.set j (.val t x)) tk
 |.v t,.inl (.cell i t'),K=>match Γ.get i with
  |.ptr n []=>bif tk.contains n then none else if cx.T t'=some t.sh then Γ.lodK false t.sh (.ptr n []) fun v Γ'=>match v with
    |.val t'' x=>match castTo t'' t x with
     |some y=>K y (Γ'.set j (.val t y)) tk
     |none=>none
    |_=>none
   else none
  |_=>none
 |.o e,.inl (.tmp i),K=>match Γ.get i with
  |.sref n []=>bif tk.contains n then none else match Γ.rt n with
   |some ⟨false,.list true e',l⟩=>if h:e'=e then K (h▸l) (Γ.set j (.sref n [])) (n::tk)else none
   |_=>none
  |.nils=>K [] (Γ.set j .nils) tk
  |.empt=>K [] (Γ.set j .empt) tk
  |.swin n [] 0 0=>bif tk.contains n || !decide (n<pinned)then none else match Γ.look n with
   |some ⟨false,.list true e',_⟩=>if e'=e then K [] (((Γ.mapv (AV.drop n)).setRt n (some ⟨false,.list true e,([]:List e.den)⟩)).set j (.sref n [])) (n::tk)else none
   |_=>none
  |_=>none
 |.b t,.inl (.tmp i),K=>match Γ.get i with
  |.ptr n []=>bif tk.contains n || !decide (n<pinned)then none else match Γ.rt n with
   |some ⟨true,t',x⟩=>if h:t'=t then K (h▸x) (Γ.set j (.ptr n [])) (n::tk)else none
   |_=>none
  |_=>none
 |.b t,.inr (some n),K=>bif tk.contains n then none else match Γ.rt n with
  |some ⟨true,t',x⟩=>if h:t'=t then K (h▸x) (Γ.set j (.ptr n [])) (n::tk)else none
  |_=>none
 |.o e,.inr (some n),K=>bif tk.contains n then none else match Γ.rt n with
  |some ⟨false,.list true e',x⟩=>if h:e'=e then K (h▸x) (Γ.set j (.sref n [])) (n::tk)else none
  |_=>none
 |.o _,.inr none,K=>K [] (Γ.set j .nils) tk
 |_,_,_=>none
def AE.outs(cx:Cx)(Γ:AE)(tk:List Nat)(j:Nat):(rs:List RA)→List (ResultVar ⊕ Option Nat)→((b0u (rs.map RA.ty)).den→AE→Rs ρ)→Rs ρ
 | [],[],K=>K () Γ
 | [r],[v],K=>Γ.out cx tk j r v fun x Γ' _=>K x Γ'
 |r::r'::rs,v::vs,K=>Γ.out cx tk j r v fun x Γ' tk'=>Γ'.outs cx tk' (j+1) (r'::rs) vs fun y Γ''=>K (x,y) Γ''
 |_,_,_=>none
end
def a0l:List PA→Nat→List Nat
 | [],_=>[]
 |.v _::r,i=>a0l r (i+1)
 |.r _ _::r,i=>i::a0l r (i+1)
def h0i(ps:List PA)(i:Nat):Option Nat:=match i0k ps i with
 |some true=>none
 |_=>some (pinned+i)
def AE.upto(Γ:AE)(N:Nat):AE:=⟨fun i=>bif decide (i<N)then Γ.sl i else .one .dead,Γ.rt,Γ.pd⟩
def A0j(cx:Cx)(H:Hints)(fn:Func)(ps:List PA)(rs:List RA)(x:(b0u (ps.map PA.ty)).den):Option (b0u ((RA.all ps rs).map RA.ty)).den:=
 match fn.body with
 |none=>none
 |some body=>c0n cx H body 1 (ini ps x) fun e Γ=>match e,Γ.pd with
  |.exit _,_=>none
  |_,some _=>none
  |_,none=>(Γ.upto fn.ntmps).outs cx [] fn.ntmps (RA.all ps rs) (fn.results.toList.map .inl++(a0l ps 0).map fun i=>.inr (h0i ps i)) fun y _=>some y
@[reducible] def Mem:=Nat→Nat→Option Value
variable {m m':Mem}
@[reducible] def a0z:=List (Nat×Nat)
variable {f:(Nat→Option Value)→Option (α×a0z×List Nat)}
def a0d{α:Type}(f:Nat→Option (α×a0z×List Nat)):(n i:Nat)→Option (List α×a0z×List Nat)
 |0,_=>some ([],[],[])
 |n+1,i=>match f i with
  |none=>none
  |some (x,o,r)=>match a0d f n (i+1)with
   |none=>none
   |some (xs,os,rs)=>some (x::xs,o++os,r++rs)
def a0x{α:Type}(m:Mem)(o:Bool)(sz:Nat)(f:(Nat→Option Value)→Option (α×a0z×List Nat))(v:Option Value):Option (List α×a0z×List Nat):=
 match v with
 |some (.slice none n c)=>if n=0∧c=0 then some ([],[],[])else none
 |some (.slice (some a) n c)=>
  if(c=0∨a.spot=none)∧n≤c then
   match a0d (fun i=>f fun j=>m a.block (a.off+(i*sz+j))) n 0 with
   |none=>none
   |some (xs,os,rs)=>
    if o=true then(if c=0 then some (xs,os,rs)else some (xs,(a.block,a.off+c*sz)::os,rs))
    else(if n=0 then some (xs,[],[])else some (xs,[],a.block::(os.map (·.1)++rs)))
  else none
 |_=>none
def dec(m:Mem):(t:Ty)→(Nat→Option Value)→Option (t.den×a0z×List Nat)
 |.int k,rd=>match rd 0 with
  |some (.int k' n)=>if k'=k then some (n,[],[])else none
  |_=>none
 |.bool,rd=>match rd 0 with
  |some (.bool b)=>some (b,[],[])
  |_=>none
 |.str,rd=>match rd 0 with
  |some (.string s)=>some ((s.data.toList.map fun b=>(b.toNat:Int):List Int),[],[])
  |_=>none
 |.unit,_=>some ((),[],[])
 |.pair a b,rd=>match dec m a rd with
  |none=>none
  |some (x,o,r)=>match dec m b (fun j=>rd (a.cells+j))with
   |none=>none
   |some (y,o',r')=>some ((x,y),o++o',r++r')
 |.arr n t,rd=>a0d (fun i=>dec m t fun j=>rd (i*t.cells+j)) n 0
 |.list o t,rd=>a0x m o t.cells (dec m t) (rd 0)
 |.nl t,rd=>match rd 0 with
  |some (.slice none 0 0)=>some (([]:List t.den),[],[])
  |_=>none
inductive Src where
 |at(b o:Nat)
 |one (v:Value)
variable {g g':Nat→Src}{s:Src}
def Src.rd(m:Mem):Src→Nat→Option Value
 |.at b o,j=>m b (o+j)
 |.one v,j=>if j=0 then some v else none
def a0t(m:Mem):a0n→Ty→Src→Option (Ty×Src)
 | [],t,s=>some (t,s)
 |.fst::p,t,s=>match t,s with
  |.pair a _,.at bl o=>a0t m p a (.at bl o)
  |_,_=>none
 |.snd::p,t,s=>match t,s with
  |.pair a b,.at bl o=>a0t m p b (.at bl (o+a.cells))
  |_,_=>none
 |.idx i::p,t,s=>match t,s with
  |.arr n t,.at bl o=>if i<n then a0t m p t (.at bl (o+i*t.cells))else none
  |.list true t,s=>match s.rd m 0 with
   |some (.slice (some a) n _)=>if i<n then a0t m p t (.at a.block (a.off+i*t.cells))else none
   |_=>none
  |_,_=>none
@[reducible] def loc(m:Mem)(t:Ty)(s:Src)(p:a0n):Option (Ty×Src):=a0t m p t s
section collectLemmas
variable {α:Type} {f f':Nat→Option (α×a0z×List Nat)}
theorem g0e:∀(n i:Nat),(∀j,i≤j→j<i+n→f' j=f j)→a0d f' n i=a0d f n i
 |0,_,_=>rfl
 |n+1,i,h=>by
  simp[a0d];rw[h i (a12 _) (by omega),g0e n (i+1) (fun j g k=>h j (by omega) (by omega))]
theorem a0v:∀(n i:Nat){xs os rs},a0d f n i=some (xs,os,rs)→xs.length=n
 |0,i,xs,os,rs,h=>by simp_all[a0d]
 |n+1,i,xs,os,rs,h=>by
  simp[a0d]at h
  split at h
  grind
  split at h
  grind
  rename_i g;simp at h;obtain⟨rfl,rfl,rfl⟩:=h;simp[a0v n (i+1) g]
theorem a0u:∀(n i k:Nat){xs os rs},a0d f n i=some (xs,os,rs)→k<n→
  ∃x o r A B b B',f (i+k)=some (x,o,r)∧xs[k]?=some x∧os=A++(o++B)∧rs=b++(r++B')
 |0,_,_,_,_,_,_,h=>by omega
 |n+1,i,k,xs,os,rs,h,hk=>by
  simp[a0d]at h
  split at h
  grind
  ·rename_i x o r hf
   split at h
   grind
   ·rename_i d g a c;simp at h;obtain⟨rfl,rfl,rfl⟩:=h;cases k with
    |zero=>exact⟨x,o,r,[],g,[],a,by omega,by simp,by simp,by simp⟩
    |succ k=>
     obtain⟨p,l,m,A,B,b,B',e,j,rfl,rfl⟩:=a0u n (i+1) k c (by omega)
     grind
theorem k0c:∀(n i k:Nat){xs os rs x o r y o' r'},a0d f n i=some (xs,os,rs)→k<n→f (i+k)=some (x,o,r)→
  f' (i+k)=some (y,o',r')→(∀j,i≤j→j<i+n→j≠i+k→f' j=f j)→
  ∃A B g,os=A++(o++B)∧a0d f' n i=some (xs.set k y,A++(o'++B),g)∧∀b∈g,b∈rs∨b∈r'
 |0,_,_,_,_,_,_,_,_,_,_,_,_,h,_,_,_=>by omega
 |n+1,i,k,xs,os,rs,x,o,r,y,o',r',h,hk,hf,hf',hj=>by
  simp[a0d]at h
  split at h
  grind
  ·rename_i u o1 p a
   split at h
   grind
   ·rename_i q c d l;simp at h;obtain⟨rfl,rfl,rfl⟩:=h;cases k with
    |zero=>
     simp at hf hf';rw[a]at hf;simp at hf;obtain⟨rfl,rfl,rfl⟩:=hf;refine⟨[],c,r'++d,by simp,?_,?_⟩
     all_goals grind[a0d,g0e]
    |succ k=>
     have e:i+1+k=i+(k+1):=by omega
     obtain⟨A,B,g,rfl,m,t⟩:=k0c n (i+1) k l (by omega) (by rw[e];omega) (by rw[e];omega)
      (fun j s l m=>hj j (by omega) (by omega) (by omega))
     refine⟨o1++A,B,p++g,by simp,?_,?_⟩;simp_all[a0d]
     grind
theorem k0u:∀(n k i:Nat){xs os rs ys os' rs'},a0d f n i=some (xs,os,rs)→a0d f k (i+n)=some (ys,os',rs')→
  a0d f (n+k) i=some (xs++ys,os++os',rs++rs')
 |0,k,i,xs,os,rs,ys,os',rs',h,h'=>by
  simp[a0d]at h;simp_all
 |n+1,k,i,xs,os,rs,ys,os',rs',h,h'=>by
  simp[a0d]at h
  split at h
  grind
  rename_i j o1 e a
  split at h
  grind
  rename_i d b c g;simp at h;obtain⟨rfl,rfl,rfl⟩:=h
  have:=k0u n k (i+1) g (by rw[show i+1+n=i+(n+1)from by omega];omega)
  grind[a0d]
theorem d0l:∀(n k i:Nat){xs os rs},a0d f (n+k) i=some (xs,os,rs)→
  ∃os1 rs1 g e,a0d f n i=some (xs.take n,os1,rs1)∧a0d f k (i+n)=some (xs.drop n,g,e)∧os=os1++g∧rs=rs1++e
 |0,k,i,xs,os,rs,h=>⟨[],[],os,rs,by rfl,by simp_all,rfl,rfl⟩
 |n+1,k,i,xs,os,rs,h=>by
  rw[show n+1+k=(n+k)+1 from by omega]at h;simp[a0d]at h
  split at h
  grind
  ·rename_i r o1 m l
   split at h
   grind
   ·rename_i o g e j;simp at h;obtain⟨rfl,rfl,rfl⟩:=h;obtain⟨a,b,c,d,p,q,rfl,rfl⟩:=d0l n k (i+1) j;refine⟨o1++a,m++b,c,d,?_,?_,by simp,by simp⟩
    all_goals grind[a0d]
end collectLemmas
theorem v0i{ow:Bool}{f':(Nat→Option Value)→Option (α×a0z×List Nat)}{v:Option Value}{x:List α}{o r}(h:a0x m ow sz f v=some (x,o,r))(z:∀b j,b∈o.map (·.1)∨b∈r→m' b j=m b j)(hf:∀i d l y (a:Addr) (n c:Nat),v=some (.slice (some a) n c)→f (fun j=>m a.block (a.off+(i*sz+j)))=some (y,d,l)→
   (∀b j,b=a.block∨(b∈d.map (·.1)∨b∈l)→m' b j=m b j)→f' (fun j=>m' a.block (a.off+(i*sz+j)))=some (y,d,l)):
  a0x m' ow sz f' v=some (x,o,r):=by
 unfold a0x at h⊢
 split at h
 omega;rename_i a n c
 split at h
 rename_i w
 split at h
 grind
 rename_i xs os q p;have k:∀b j,n≠0→b=a.block∨b∈os.map (·.1)∨b∈q→m' b j=m b j:=by
  grind
 have e:a0d (fun i=>f' fun j=>m' a.block (a.off+(i*sz+j))) n 0=a0d (fun i=>f fun j=>m a.block (a.off+(i*sz+j))) n 0:=by
  refine g0e n 0 fun i t hi=>?_
  obtain⟨y,d,l,A,B,s,B',g,-,rfl,rfl⟩:=a0u n 0 i p (by omega);simp at g;rw[g];refine hf i d l y a n c rfl g (fun b j u=>k b j (by omega) ?_)
  grind
 simp_all;simp_all;omega
theorem a0j{m m':Mem}:∀(t:Ty){rd rd':Nat→Option Value}{x o r},dec m t rd=some (x,o,r)→
  (∀j,j<t.cells→rd' j=rd j)→(∀b j,b∈o.map (·.1)∨b∈r→m' b j=m b j)→dec m' t rd'=some (x,o,r)
 |.int k,rd,rd',x,o,r,h,hr,hm=>by
  simp_all[dec,Ty.cells]
 |.bool,rd,rd',x,o,r,h,hr,hm=>by
  simp_all[dec,Ty.cells]
 |.str,rd,rd',x,o,r,h,hr,hm=>by
  simp_all[dec,Ty.cells]
 |.unit,rd,rd',x,o,r,h,hr,hm=>by
  simp_all[dec]
 |.pair a b,rd,rd',x,o,r,h,hr,hm=>by
  simp[dec]at h⊢
  split at h
  grind
  rename_i x1 o1 r1 h1
  split at h
  grind
  rename_i x2 o2 r2 h2;simp at h;obtain⟨rfl,rfl,rfl⟩:=h;rw[a0j a h1 (fun j hj=>hr j (by simp[Ty.cells];omega)) (fun b j hb=>hm b j (by simp at hb⊢;rcases hb with hb|hb;exact .inl (.inl hb);exact .inr (.inl hb)))];simp only[];rw[a0j b h2 (fun j hj=>hr _ (by simp[Ty.cells];omega)) (fun b j hb=>hm b j (by simp at hb⊢;rcases hb with hb|hb;exact .inl (.inr hb);exact .inr (.inr hb)))]
 |.arr n t,rd,rd',x,o,r,h,hr,hm=>by
  simp[dec]at h⊢;rw[←h];refine g0e n 0 fun i h0 hi=>?_
  obtain⟨y,o',r',A,B,A',B',hf,-,rfl,rfl⟩:=a0u n 0 i h (by omega);simp at hf;rw[hf];refine a0j t hf (fun j hj=>hr _ ?_) (fun b j hb=>hm b j ?_);simp[Ty.cells]
  calc i*t.cells+j<i*t.cells+t.cells:=by omega
   _=(i+1)*t.cells:=by grind
   _≤n*t.cells:=a00 _ (by omega)
  grind
 |.list ow t,rd,rd',x,o,r,h,hr,hm=>by
  simp[dec]at h⊢;rw[hr 0 (by simp[Ty.cells])];exact v0i h hm (fun i o' r' y a n c hv h2 hsub=>a0j t h2 (fun j hj=>hsub _ _ (.inl rfl)) (fun b j hb=>hsub b j (.inr hb)))
 |.nl t,rd,rd',x,o,r,h,hr,hm=>by
  simp_all[dec,Ty.cells]
theorem m0g{m:Mem}{t:Ty}{rd:Nat→Option Value}{x o r}(h:dec m (.nl t) rd=some (x,o,r)):rd 0=some (.slice none 0 0)∧x=([]:List t.den)∧o=[]∧r=[]:=by
 simp[dec]at h
 grind
theorem d0w(m:Mem)(b o k:Nat):(fun j=>(Src.at b o).rd m (k+j))=(Src.at b (o+k)).rd m:=by
 grind[Src.rd]
theorem l0q(m:Mem)(b o k:Nat):(fun j=>m b (o+(k+j)))=(Src.at b (o+k)).rd m:=by
 grind[Src.rd]
theorem c0a{a b:Ty}{rd:Nat→Option Value}{x o r}(h:dec m (.pair a b) rd=some (x,o,r)):
  ∃x1 o1 r1 x2 o2 r2,dec m a rd=some (x1,o1,r1)∧dec m b (fun j=>rd (a.cells+j))=some (x2,o2,r2)∧x=(x1,x2)∧o=o1++o2∧r=r1++r2:=by
 simp[dec]at h
 grind
theorem f0b{a b:Ty}{rd:Nat→Option Value}{x1 o1 r1 x2 o2 r2}(h:dec m a rd=some (x1,o1,r1))(g:dec m b (fun j=>rd (a.cells+j))=some (x2,o2,r2)):
  dec m (.pair a b) rd=some ((x1,x2),o1++o2,r1++r2):=by
 simp[dec,h,g];rfl
theorem y0j{v:Option Value}{x:List α}{o r}(h:a0x m true sz f v=some (x,o,r)):
  (v=some (.slice none 0 0)∧x=[]∧o=[]∧r=[])∨
  (∃a n c os,v=some (.slice (some a) n c)∧(c=0∨a.spot=none)∧n≤c∧a0d (fun i=>f ((Src.at a.block (a.off+i*sz)).rd m)) n 0=some (x,os,r)∧
   ((c=0∧o=os)∨(c≠0∧o=(a.block,a.off+c*sz)::os))):=by
 unfold a0x at h
 split at h
 simp_all;rename_i a n c;simp only[l0q]at h
 grind
 simp_all
theorem b0r{t:Ty}{rd:Nat→Option Value}{x:List t.den}{o r}(h:dec m (.list true t) rd=some (x,o,r)):
  (rd 0=some (.slice none 0 0)∧x=[]∧o=[]∧r=[])∨
  (∃a n c os,rd 0=some (.slice (some a) n c)∧(c=0∨a.spot=none)∧n≤c∧a0d (fun i=>dec m t ((Src.at a.block (a.off+i*t.cells)).rd m)) n 0=some (x,os,r)∧
   ((c=0∧o=os)∨(c≠0∧o=(a.block,a.off+c*t.cells)::os))):=y0j h
theorem o0y{m:Mem}{t:Ty}{rd:Nat→Option Value}{x:List t.den}{os r a n c}(h:rd 0=some (.slice (some a) n c))(g:a.spot=none)(k:n≤c)(f:c≠0)
  (b:a0d (fun i=>dec m t ((Src.at a.block (a.off+i*t.cells)).rd m)) n 0=some (x,os,r)):
  dec m (.list true t) rd=some (x,(a.block,a.off+c*t.cells)::os,r):=by
 show a0x m true t.cells (dec m t) (rd 0)=_;simp_all[a0x,l0q]
theorem e0n{p t s r}(h:loc m t s (.fst::p)=some r):∃a b bl o,t=.pair a b∧s=.at bl o∧loc m a (.at bl o) p=some r:=by
 simp[loc,a0t]at h
 grind
theorem e0o{p t s r}(h:loc m t s (.snd::p)=some r):∃a b bl o,t=.pair a b∧s=.at bl o∧loc m b (.at bl (o+a.cells)) p=some r:=by
 simp[loc,a0t]at h
 grind
theorem d0y{i p t s r}(h:loc m t s (.idx i::p)=some r):
  (∃n t' bl o,t=.arr n t'∧s=.at bl o∧i<n∧loc m t' (.at bl (o+i*t'.cells)) p=some r)∨
  (∃t' a n c,t=.list true t'∧s.rd m 0=some (.slice (some a) n c)∧i<n∧loc m t' (.at a.block (a.off+i*t'.cells)) p=some r):=by
 simp[loc,a0t]at h
 grind
theorem b0h{m:Mem}:∀(p:a0n)(t:Ty)(s:Src){x O R t' s'},dec m t (s.rd m)=some (x,O,R)→loc m t s p=some (t',s')→
  ∃y f k A B d B',dec m t' (s'.rd m)=some (y,f,k)∧b0c t x p=⟨t',y⟩∧O=A++(f++B)∧R=d++(k++B')
 | [],t,s,x,O,R,t',s',h,g=>by
  simp[a0t]at g;obtain⟨rfl,rfl⟩:=g;exact⟨x,O,R,[],[],[],[],h,rfl,by simp,by simp⟩
 |.fst::p,t,s,x,O,R,t',s',h,g=>by
  obtain⟨a,b,bl,o,rfl,rfl,g⟩:=e0n g;obtain⟨N,o1,F,P,o2,r2,D,z,rfl,rfl,rfl⟩:=c0a h;obtain⟨y,f,k,A,B,d,B',l,r,rfl,rfl⟩:=b0h p a (.at bl o) D g;exact⟨y,f,k,A,B++o2,d,B'++r2,l,r,by simp,by simp⟩
 |.snd::p,t,s,x,O,R,t',s',h,g=>by
  obtain⟨a,b,bl,o,rfl,rfl,g⟩:=e0o g;obtain⟨N,o1,F,P,o2,r2,D,z,rfl,rfl,rfl⟩:=c0a h;rw[d0w]at z;obtain⟨y,f,k,A,B,d,B',l,r,rfl,rfl⟩:=b0h p b (.at bl (o+a.cells)) z g;exact⟨y,f,k,o1++A,B,F++d,B',l,r,by simp,by simp⟩
 |.idx i::p,t,s,x,O,R,t',s',h,g=>by
  rcases d0y g with⟨n,u,bl,o,rfl,rfl,hi,g⟩|⟨u,a,n,c,rfl,q,hi,g⟩;simp[dec,d0w]at h;obtain⟨Q,L,M,v,w,e,j,hf,J,rfl,rfl⟩:=a0u n 0 i h hi;simp at hf;obtain⟨y,f,k,A,B,d,B',l,r,rfl,rfl⟩:=b0h p u _ hf g;refine⟨y,f,k,v++A,B++w,e++d,B'++j,l,?_,by simp,by simp⟩;simp_all[b0k,a15];rcases b0r h with⟨hv,-⟩|⟨C,K,G,os,hv,S,T,I,H⟩;simp_all;rw[hv]at q;simp at q;obtain⟨rfl,rfl,rfl⟩:=q;obtain⟨Q,L,M,v,w,e,j,hf,J,rfl,rfl⟩:=a0u K 0 i I hi;simp at hf;obtain⟨y,f,k,A,B,d,B',l,r,rfl,rfl⟩:=b0h p u _ hf g;have E:b0c (.list true u) x (.idx i::p)=⟨t',y⟩:=by
   simp_all[b0k,a15]
  rcases H with⟨-,rfl⟩|⟨-,rfl⟩;exact⟨y,f,k,v++A,B++w,e++d,B'++j,l,E,by simp,by simp⟩;exact⟨y,f,k,(C.block,C.off+G*u.cells)::(v++A),B++w,e++d,B'++j,l,E,by simp,by simp⟩
def Src.avoids:Src→Nat→Prop
 |.at sb _,c=>c≠sb
 |.one _,_=>True
theorem o0m(t:Ty)(x y:t.den):b0q t x [] t y=y:=by
 show(if h:t=t then h▸y else x)=y
 simp
theorem h0r{m:Mem}:∀(p:a0n)(t:Ty)(s:Src){x O R t' b o},dec m t (s.rd m)=some (x,O,R)→loc m t s p=some (t',.at b o)→
  (∃so,s=.at b so∧so≤o∧o+t'.cells≤so+t.cells)∨∃k,(b,k)∈O∧o+t'.cells≤k
 | [],t,s,x,O,R,t',b,o,h,f=>by
  simp[a0t]at f;simp_all
 |.fst::p,t,s,x,O,R,t',b,o,h,f=>by
  obtain⟨a,w,bl,so,rfl,rfl,f⟩:=e0n f;obtain⟨J,o1,I,K,o2,r2,y,r,rfl,rfl,rfl⟩:=c0a h;rcases h0r p a (.at bl so) y f with⟨v,g,e,u⟩|⟨k,g,e⟩;simp at g;obtain⟨rfl,rfl⟩:=g;exact .inl ⟨_,rfl,e,by grind[Ty.cells]⟩
  grind
 |.snd::p,t,s,x,O,R,t',b,o,h,f=>by
  obtain⟨a,w,bl,so,rfl,rfl,f⟩:=e0o f;obtain⟨J,o1,I,K,o2,r2,y,r,rfl,rfl,rfl⟩:=c0a h;rw[d0w]at r;rcases h0r p w (.at bl (so+a.cells)) r f with⟨v,g,e,u⟩|⟨k,g,e⟩;simp at g;obtain⟨rfl,rfl⟩:=g;exact .inl ⟨_,rfl,by omega,by grind[Ty.cells]⟩
  grind
 |.idx i::p,t,s,x,O,R,t',b,o,h,f=>by
  rcases d0y f with⟨n,d,bl,so,rfl,rfl,hi,f⟩|⟨d,a,n,c,rfl,j,hi,f⟩;simp[dec,d0w]at h;obtain⟨L,G,H,z,A,l,q,hf,E,rfl,rfl⟩:=a0u n 0 i h hi;simp at hf;have Q:i*d.cells+d.cells≤n*d.cells:=by rw[←a04];exact a00 _ hi
  rcases h0r p d _ hf f with⟨v,g,e,u⟩|⟨k,g,e⟩;simp at g;obtain⟨rfl,rfl⟩:=g;exact .inl ⟨_,rfl,by omega,by grind[Ty.cells]⟩
  grind
  rcases b0r h with⟨hv,-⟩|⟨M,F,B,os,hv,N,S,D,C⟩;simp_all;rw[hv]at j;simp at j;obtain⟨rfl,rfl,rfl⟩:=j;obtain⟨L,G,H,z,A,l,q,hf,E,rfl,rfl⟩:=a0u F 0 i D hi;simp at hf;rcases C with⟨P,-⟩|⟨-,rfl⟩;omega;rcases h0r p d _ hf f with⟨v,g,e,u⟩|⟨k,g,e⟩;simp at g;obtain⟨rfl,rfl⟩:=g;refine .inr ⟨_,List.mem_cons_self,?_⟩
  have:i*d.cells+d.cells≤B*d.cells:=by rw[←a04];exact a00 _ (by omega)
  omega
  grind
theorem d0r{m:Mem}(p:a0n)(t:Ty)(s:Src){x O R t' b o}(h:dec m t (s.rd m)=some (x,O,R))(g:loc m t s p=some (t',.at b o)):
  (∃so,s=.at b so∧so≤o∧o+t'.cells≤so+t.cells)∨b∈O.map (·.1):=
 (h0r p t s h g).imp id fun⟨_,h,_⟩=>a10 h
theorem f0g{α:Type}{f:Nat→Option (α×a0z×List Nat)}:∀(n i:Nat){xs os rs},a0d f n i=some (xs,os,rs)→(os.map (·.1)).Nodup→
  ∀j k,j<n→k<n→j≠k→∀{xj oj rj xk ok rk},f (i+j)=some (xj,oj,rj)→f (i+k)=some (xk,ok,rk)→∀c,c∈oj.map (·.1)→c∉ok.map (·.1)
 |0,_,_,_,_,_,_,_,_,hj,_,_=>by omega
 |n+1,i,xs,os,rs,h,hn,j,k,hj,hk,hjk=>by
  intro m p c e g;simp[a0d]at h
  split at h
  grind
  ·rename_i E o1 C q
   split at h
   grind
   ·rename_i u b t d;simp at h;obtain⟨rfl,rfl,rfl⟩:=h;rw[pA,a07]at hn;obtain⟨-,a,hd⟩:=hn;have key:∀l x o r,l<n→f (i+(l+1))=some (x,o,r)→∀c,c∈o.map (·.1)→c∈b.map (·.1):=by
     intro l x o r s hf c e;obtain⟨D,y,z,A,B,v,B',w,-,rfl,-⟩:=a0u n (i+1) l d s
     grind
    cases j with
    |zero=>
     cases k with
     |zero=>omega
     |succ k=>
      grind
    |succ j=>
     cases k with
     |zero=>
      grind
     |succ k=>
      exact f0g n (i+1) d a j k (by omega) (by omega) (by omega) (by rw[show i+1+j=i+(j+1)from by omega];exact m)
       (by rw[show i+1+k=i+(k+1)from by omega];exact p) c e g
def Chg(m m':Mem)(s:Src)(O:a0z)(R:List Nat)(b o n:Nat)(O':a0z):Prop:=
 ∀c j,m' c j=m c j∨(c=b∧o≤j∧j<o+n)∨c∈O'.map (·.1)∨(c∉O.map (·.1)∧c∉R∧s.avoids c)
structure Sep (s:Src) (O:a0z) (R:List Nat):Prop where
 nodup:(O.map (·.1)).Nodup
 src:∀c∈O.map (·.1),s.avoids c
 shared:∀c∈R,c∉O.map (·.1)∧s.avoids c
theorem u0m{A O B:List (Nat×α)}(h:c∈O.map (·.1)):c∈(A++(O++B)).map (·.1):=by
 simp_all
theorem h0y{t2:Ty}{sb so:Nat}{x2 o2 r2}(h:dec m t2 ((Src.at sb so).rd m)=some (x2,o2,r2))(f:∀j,j<t2.cells→m' sb (so+j)=m sb (so+j))(g:∀c j,c∈o2.map (·.1)∨c∈r2→m' c j=m c j):
  dec m' t2 ((Src.at sb so).rd m')=some (x2,o2,r2):=
 a0j t2 h (fun j k=>f j k) g
theorem o0j{m m':Mem}:∀(p:a0n)(t:Ty)(s:Src){x O R t' b o y O' R' y' O'' R''},dec m t (s.rd m)=some (x,O,R)→loc m t s p=some (t',.at b o)→
  dec m t' ((Src.at b o).rd m)=some (y,O',R')→dec m' t' ((Src.at b o).rd m')=some (y',O'',R'')→Sep s O R→Chg m m' s O R b o t'.cells O'→
  ∃A B R1,O=A++(O'++B)∧dec m' t (s.rd m')=some (b0q t x p t' y',A++(O''++B),R1)∧∀c∈R1,c∈R∨c∈R''
 | [],t,s,x,O,R,t',b,o,y,O',R',y',O'',R'',h,l,hy,hy',hs,f=>by
  simp[a0t]at l;obtain⟨rfl,rfl⟩:=l;rw[h]at hy;simp at hy;obtain⟨rfl,rfl,rfl⟩:=hy;exact⟨[],[],R'',by simp,by simp_all[o0m],fun c f=>.inr f⟩
 |.fst::p,t,s,x,O,R,t',b,o,y,O',R',y',O'',R'',h,l,hy,hy',hs,f=>by
  obtain⟨a,b',bl,so,rfl,rfl,l⟩:=e0n l;obtain⟨x1,o1,r1,x2,o2,r2,h1,h2,rfl,rfl,rfl⟩:=c0a h;have L:=d0r p a _ h1 l;obtain⟨y1,W,X,A1,B1,U,V,hd,-,e1,e2⟩:=b0h p a _ h1 l;rw[hy]at hd;simp at hd;obtain⟨rfl,rfl,rfl⟩:=hd;have G:∀c,c∈O'.map (·.1)→c∈o1.map (·.1):=fun c f=>by simp_all
  have hn:=hs.nodup;rw[pA,a07]at hn;have a4:Sep (.at bl so) o1 r1:=⟨hn.1,fun c f=>hs.src c (by grind),
   fun c f=>⟨fun h=>(hs.shared c (a03 _ f)).1 (by grind),(hs.shared c (a03 _ f)).2⟩⟩
  obtain⟨A,B,R1,e3,T,h4⟩:=o0j p a (.at bl so) h1 l hy hy' a4 (fun c j=>by
   rcases f c j with h|h|h|⟨h,C,d⟩
   all_goals grind)
  rw[d0w]at h2;have g6:∀c,c∈o1.map (·.1)∨c∈o2.map (·.1)→c≠bl:=fun c f=>hs.src c (by grind);have h5:=h0y (m':=m') h2 (fun j Q=>by
    rcases f bl (so+a.cells+j)with h|⟨P,M,w⟩|h|⟨h,C,d⟩;omega
    ·rcases L with⟨s1,I,Y,Z⟩|g
     all_goals grind
    grind
    exact absurd rfl d)
   (fun c j q=>by
    have a3:c∈o2.map (·.1)∨(c∈r2∧c∉o1.map (·.1)∧c≠bl):=by
     rcases q with g|g
     grind
     have:=hs.shared c (a02 _ g)
     exact .inr ⟨g,fun g'=>this.1 (by grind),this.2⟩
    have a9:c∉o1.map (·.1):=by
     grind
    have k1:c≠bl:=by
     grind
    rcases f c j with h|⟨P,M,w⟩|h|⟨h,C,d⟩;omega
    ·rcases L with⟨s1,I,Y,Z⟩|g
     all_goals grind
    all_goals grind)
  refine⟨A,B++o2,R1++r2,by grind,?_,fun c f=>?_⟩;rw[←d0w]at h5
  have:=f0b T h5
  have e:A++(O''++(B++o2))=(A++(O''++B))++o2:=by simp
  rw[e];exact this
  grind
 |.snd::p,t,s,x,O,R,t',b,o,y,O',R',y',O'',R'',h,l,hy,hy',hs,f=>by
  obtain⟨a,b',bl,so,rfl,rfl,l⟩:=e0o l;obtain⟨x1,o1,r1,x2,o2,r2,h1,h2,rfl,rfl,rfl⟩:=c0a h;rw[d0w]at h2;have L:=d0r p b' _ h2 l;obtain⟨y1,W,X,A1,B1,U,V,hd,-,e1,e2⟩:=b0h p b' _ h2 l;rw[hy]at hd;simp at hd;obtain⟨rfl,rfl,rfl⟩:=hd;have G:∀c,c∈O'.map (·.1)→c∈o2.map (·.1):=fun c f=>by simp_all
  have hn:=hs.nodup;rw[pA,a07]at hn;have g6:∀c,c∈o1.map (·.1)∨c∈o2.map (·.1)→c≠bl:=fun c f=>hs.src c (by grind);have a5:Sep (.at bl (so+a.cells)) o2 r2:=⟨hn.2.1,fun c f=>g6 c (.inr f),
   fun c f=>⟨fun h=>(hs.shared c (a02 _ f)).1 (by grind),(hs.shared c (a02 _ f)).2⟩⟩
  obtain⟨A,B,R1,e3,T,h4⟩:=o0j p b' (.at bl (so+a.cells)) h2 l hy hy' a5 (fun c j=>by
   rcases f c j with h|h|h|⟨h,C,d⟩
   grind
   omega
   grind
   simp only[pA,mA]at h C;exact .inr (.inr (.inr ⟨fun g=>h (.inr g),fun g=>C (.inr g),d⟩)))
  have h5:=h0y (m':=m') h1 (fun j Q=>by
    rcases f bl (so+j)with h|⟨P,M,w⟩|h|⟨h,C,d⟩;omega
    ·rcases L with⟨s1,I,Y,Z⟩|g
     all_goals grind
    grind
    exact absurd rfl d)
   (fun c j q=>by
    have a3:c∈o1.map (·.1)∨(c∈r1∧c∉o2.map (·.1)∧c≠bl):=by
     rcases q with g|g
     grind
     have:=hs.shared c (a03 _ g)
     exact .inr ⟨g,fun g'=>this.1 (by grind),this.2⟩
    have b0:c∉o2.map (·.1):=by
     grind
    have k1:c≠bl:=by
     grind
    rcases f c j with h|⟨P,M,w⟩|h|⟨h,C,d⟩;omega
    ·rcases L with⟨s1,I,Y,Z⟩|g
     all_goals grind
    all_goals grind)
  refine⟨o1++A,B,r1++R1,by grind,?_,fun c f=>?_⟩;rw[←d0w]at T
  have:=f0b h5 T
  have e:o1++A++(O''++B)=o1++(A++(O''++B)):=by simp
  rw[e];exact this
  grind
 |.idx i::p,t,s,x,O,R,t',b,o,y,O',R',y',O'',R'',h,l,hy,hy',hs,f=>by
  rcases d0y l with⟨n,t,bl,so,rfl,rfl,hi,l⟩|⟨t,a0,n0,c0,rfl,g4,hi,l⟩
  ·have h:a0d (fun i=>dec m t fun j=>(Src.at bl so).rd m (i*t.cells+j)) n 0=some (x,O,R):=h;have N:a0d (fun i=>dec m t ((Src.at bl (so+i*t.cells)).rd m)) n 0=some (x,O,R):=by grind[d0w]
   have k0:∀c,c∈O.map (·.1)→c≠bl:=fun c f=>hs.src c f;obtain⟨z,H,ri,A0,B0,k2,k4,hf,hz,e1,e2⟩:=a0u n 0 i N hi;simp at hf;have u:∀c,c∈H.map (·.1)→c∈O.map (·.1):=fun c f=>by simp_all
   have E:∀c,c∈ri→c∈R:=fun c f=>by simp_all
   have L:=d0r p t _ hf l;obtain⟨y1,W,X,A1,B1,U,V,hd,-,e3,e4⟩:=b0h p t _ hf l;rw[hy]at hd;simp at hd;obtain⟨rfl,rfl,rfl⟩:=hd;have G:∀c,c∈O'.map (·.1)→c∈H.map (·.1):=fun c f=>by simp_all
   have h9:(H.map (·.1)).Nodup:=by
    have:=hs.nodup
    grind
   have g0:Sep (.at bl (so+i*t.cells)) H ri:=⟨h9,fun c f=>k0 c (u c f),fun c f=>⟨fun g=>(hs.shared c (E c f)).1 (u c g),(hs.shared c (E c f)).2⟩⟩;obtain⟨A,B,R1,e5,T,h4⟩:=o0j p t (.at bl (so+i*t.cells)) hf l hy hy' g0 (fun c j=>by
    rcases f c j with h|h|h|⟨h,C,d⟩;simp_all;omega;simp_all;exact .inr (.inr (.inr ⟨fun g=>h (u c g),fun g=>C (E c g),d⟩)))
   have K:∀j,0≤j→j<0+n→j≠0+i→dec m' t ((Src.at bl (so+j*t.cells)).rd m')=dec m t ((Src.at bl (so+j*t.cells)).rd m):=by
    intro j _ Q D;simp only[a19]at Q D;obtain⟨zj,oj,rj,Aj,Bj,k3,k5,r,-,ej,k6⟩:=a0u n 0 j N Q;simp at r;rw[r];have g5:=f0g n 0 N hs.nodup i j hi Q (Ne.symm D) (by simpa using hf) (by simpa using r);refine h0y r (fun k hk=>?_) (fun c k q=>?_);rcases f bl (so+j*t.cells+k)with h|⟨P,M,w⟩|h|⟨h,C,d⟩;omega;rcases L with⟨s1,I,Y,Z⟩|g;simp at I;obtain⟨-,rfl⟩:=I
    exfalso
    rcases a14 D with g|g
    have:j*t.cells+t.cells≤i*t.cells:=by rw[←a04];exact a00 _ g
    omega
    have:i*t.cells+t.cells≤j*t.cells:=by rw[←a04];exact a00 _ g
    omega
    grind
    grind
    exact absurd rfl d
    ·have a2:c∈oj.map (·.1)→c∈O.map (·.1):=fun g=>by grind
     have J:c∈rj→c∈R:=fun g=>by grind
     have a6:c∉H.map (·.1):=by
      rcases q with g|g
      grind
      exact fun g'=>(hs.shared c (J g)).1 (u c g')
     have k1:c≠bl:=by
      rcases q with g|g
      grind
      exact(hs.shared c (J g)).2
     rcases f c k with h|⟨P,M,w⟩|h|⟨h,C,d⟩;omega
     ·rcases L with⟨s1,I,Y,Z⟩|g
      all_goals grind
     all_goals grind
   obtain⟨A2,B2,S,e6,h6,h7⟩:=k0c (f':=fun i=>dec m' t ((Src.at bl (so+i*t.cells)).rd m')) n 0 i N hi (by simpa using hf) (by simpa using T) K;refine⟨A2++A,B++B2,S,by grind,?_,fun c f=>?_⟩;show a0d (fun i=>dec m' t fun j=>(Src.at bl so).rd m' (i*t.cells+j)) n 0=some (a24 x i (b0t p t (a15 x i t.dflt) t' y'),A2++A++(O''++(B++B2)),S);simp only[d0w]
   grind
   grind
  ·rcases b0r h with⟨hv,-⟩|⟨a,n,c,os,hv,ha,hn,N,M⟩;simp_all
   ·rw[hv]at g4;simp at g4;obtain⟨rfl,rfl,rfl⟩:=g4;rcases M with⟨k9,-⟩|⟨k9,rfl⟩;omega
    ·have g7:=hs.nodup;simp only[a11,a13]at g7;obtain⟨k7,g8⟩:=g7;have h8:a.block∈(((a.block,a.off+c*t.cells)::os).map (·.1)):=by simp
     obtain⟨z,H,ri,A0,B0,k2,k4,hf,hz,e1,e2⟩:=a0u n 0 i N hi;simp at hf;have g9:∀c,c∈H.map (·.1)→c∈os.map (·.1):=fun c f=>by simp_all
     have u:∀F,F∈H.map (·.1)→F∈(((a.block,a.off+c*t.cells)::os).map (·.1)):=fun F f=>by
      simp_all
     have E:∀c,c∈ri→c∈R:=fun c f=>by simp_all
     have L:=d0r p t _ hf l;have k8:b∈(((a.block,a.off+c*t.cells)::os).map (·.1)):=by
      grind
     obtain⟨y1,W,X,A1,B1,U,V,hd,-,e3,e4⟩:=b0h p t _ hf l;rw[hy]at hd;simp at hd;obtain⟨rfl,rfl,rfl⟩:=hd;have G:∀c,c∈O'.map (·.1)→c∈H.map (·.1):=fun c f=>by grind
     have h9:(H.map (·.1)).Nodup:=by
      grind
     have g0:Sep (.at a.block (a.off+i*t.cells)) H ri:=⟨h9,fun c f (e:c=a.block)=>k7 (e▸g9 c f),
      fun c f=>⟨fun g=>(hs.shared c (E c f)).1 (u c g),fun(e:c=a.block)=>(hs.shared c (E c f)).1 (e▸h8)⟩⟩
     obtain⟨A,B,R1,e5,T,h4⟩:=o0j p t (.at a.block (a.off+i*t.cells)) hf l hy hy' g0 (fun c j=>by
      rcases f c j with h|h|h|⟨h,C,d⟩
      grind
      omega
      grind
      exact .inr (.inr (.inr ⟨fun g=>h (u c g),fun g=>C (E c g),fun(e:c=a.block)=>h (e▸h8)⟩)))
     have a7:s.rd m' 0=some (.slice (some a) n c):=by
      rw[←hv];cases s with
      |one v=>rfl
      |_=>
       rename_i sb so;show m' sb (so+0)=m sb (so+0);rcases f sb (so+0)with h|⟨P,M,w⟩|h|⟨h,C,d⟩;omega;exact absurd rfl (P▸hs.src b k8);exact absurd rfl (hs.src sb (u _ (G _ h)));exact absurd rfl d
     have K:∀j,0≤j→j<0+n→j≠0+i→dec m' t ((Src.at a.block (a.off+j*t.cells)).rd m')=dec m t ((Src.at a.block (a.off+j*t.cells)).rd m):=by
      intro j _ Q D;simp only[a19]at Q D;obtain⟨zj,oj,rj,Aj,Bj,k3,k5,r,-,ej,k6⟩:=a0u n 0 j N Q;simp at r;rw[r];have g5:=f0g n 0 N g8 i j hi Q (Ne.symm D) (by simpa using hf) (by simpa using r);refine h0y r (fun k hk=>?_) (fun F k q=>?_)
      ·rcases f a.block (a.off+j*t.cells+k)with h|⟨P,M,w⟩|h|⟨h,C,d⟩;omega;rcases L with⟨s1,I,Y,Z⟩|g;simp at I;obtain⟨-,rfl⟩:=I
       exfalso
       rcases a14 D with g|g
       have:j*t.cells+t.cells≤i*t.cells:=by rw[←a04];exact a00 _ g
       omega
       have:i*t.cells+t.cells≤j*t.cells:=by rw[←a04];exact a00 _ g
       omega
       grind
       all_goals grind
      ·have a2:F∈oj.map (·.1)→F∈os.map (·.1):=fun g=>by grind
       have J:F∈rj→F∈R:=fun g=>by grind
       have a6:F∉H.map (·.1):=by
        rcases q with g|g
        grind
        exact fun g'=>(hs.shared F (J g)).1 (u F g')
       have a8:F≠a.block:=by
        rcases q with g|g
        grind
        exact fun e=>(hs.shared F (J g)).1 (e▸h8)
       rcases f F k with h|⟨P,M,w⟩|h|⟨h,C,d⟩;omega
       ·rcases L with⟨s1,I,Y,Z⟩|g
        all_goals grind
       all_goals grind
     obtain⟨A2,B2,S,e6,h6,h7⟩:=k0c (f':=fun i=>dec m' t ((Src.at a.block (a.off+i*t.cells)).rd m')) n 0 i N hi (by simpa using hf) (by simpa using T) K;refine⟨(a.block,a.off+c*t.cells)::(A2++A),B++B2,S,by grind,?_,fun c f=>?_⟩;show dec m' (.list true t) (s.rd m')=some (a24 x i (b0t p t (a15 x i t.dflt) t' y'),_)
     grind[o0y]
     grind
theorem i0p{O R b o n O'}(e:Chg m m' s O R b o n O')(l:Sep s O R){bl so:Nat}{o1 o2:a0z}{r2:List Nat}(v:¬ s.avoids bl∨bl∈O.map (·.1))(t:∀c∈o1.map (·.1),c∈O.map (·.1)∧c≠bl)(z:∀c∈o2.map (·.1),c∈O.map (·.1)∧c≠bl)(hd:∀c∈o1.map (·.1),c∉o2.map (·.1))(i:∀c∈r2,c∈R)(p:∀c∈O'.map (·.1),c∈o1.map (·.1))(B:(b=bl∧∀j,j<k→¬ (o≤so+j∧so+j<o+n))∨b∈o1.map (·.1)):
  (∀j,j<k→m' bl (so+j)=m bl (so+j))∧(∀c j,c∈o2.map (·.1)∨c∈r2→m' c j=m c j):=by
 constructor
 ·intro j A;rcases e bl (so+j)with h|⟨u,w,d⟩|h|⟨h,r,a⟩
  all_goals grind
 ·intro c j f;have y:c∉o1.map (·.1):=by
   rcases f with g|g
   grind
   exact fun q=>(l.shared c (i c g)).1 (t c q).1
  have x:c≠bl:=by
   rcases f with g|g
   grind
   have:=l.shared c (i c g)
   grind
  rcases e c j with h|⟨u,w,d⟩|h|⟨h,r,a⟩
  all_goals grind
theorem l0m{m m':Mem}:∀(q:a0n)(t:Ty)(s:Src),t.shn=t→loc m' t s q=loc m t s q
 | [],t,s,_=>rfl
 |.fst::q,t,s,h=>by
  cases t<;>cases s<;>try rfl
  rename_i a b bl o;simp only[Ty.shn,Ty.pair.injEq]at h;exact l0m q a (.at bl o) h.1
 |.snd::q,t,s,h=>by
  cases t<;>cases s<;>try rfl
  rename_i a b bl o;simp only[Ty.shn,Ty.pair.injEq]at h;exact l0m q b (.at bl (o+a.cells)) h.2
 |.idx i::q,t,s,h=>by
  cases t<;>cases s<;>try rfl
  rename_i o t _ _;cases o;rfl;simp[Ty.shn]at h;rename_i o t _;cases o;rfl;simp[Ty.shn]at h;rename_i n t bl o;simp only[Ty.shn,Ty.arr.injEq]at h;show(if i<n then loc m' t (.at bl (o+i*t.cells)) q else none)=(if i<n then loc m t (.at bl (o+i*t.cells)) q else none)
  rw[l0m q t _ (Ty.shn_of_sh t h.2)]
theorem c0e{m m':Mem}:∀(q:a0n)(t:Ty)(s:Src){x O R r},dec m t (s.rd m)=some (x,O,R)→loc m t s q=some r→
  (∀j,j<t.cells→s.rd m' j=s.rd m j)→(∀c j,c∈O.map (·.1)→m' c j=m c j)→loc m' t s q=some r
 | [],t,s,x,O,R,r,h,f,hc,hb=>f
 |.fst::q,t,s,x,O,R,r,h,f,hc,hb=>by
  obtain⟨a,u,bl,so,rfl,rfl,f⟩:=e0n f;obtain⟨I,o1,H,J,o2,r2,v,o,rfl,rfl,rfl⟩:=c0a h;exact c0e q a (.at bl so) v f (fun j p=>hc j (by simp only[Ty.cells];omega)) (fun c j g=>hb c j (by simp only[pA,mA];exact .inl g))
 |.snd::q,t,s,x,O,R,r,h,f,hc,hb=>by
  obtain⟨a,u,bl,so,rfl,rfl,f⟩:=e0o f;obtain⟨I,o1,H,J,o2,r2,v,o,rfl,rfl,rfl⟩:=c0a h;rw[d0w]at o;refine c0e q u (.at bl (so+a.cells)) o f (fun j p=>?_) (fun c j g=>hb c j (by simp only[pA,mA];exact .inr g))
  have:=hc (a.cells+j) (by simp only[Ty.cells];omega)
  simpa[Src.rd,Nat.add_assoc]using this
 |.idx i::q,t,s,x,O,R,r,h,f,hc,hb=>by
  rcases d0y f with⟨n,k,bl,so,rfl,rfl,hi,f⟩|⟨k,a,n,c,rfl,b,hi,f⟩;simp[dec,d0w]at h;obtain⟨K,F,G,w,y,d,l,hf,D,rfl,rfl⟩:=a0u n 0 i h hi;simp at hf;show(if i<n then loc m' k (.at bl (so+i*k.cells)) q else none)=some r
  rw[if_pos hi];have P:i*k.cells+k.cells≤n*k.cells:=by rw[←a04];exact a00 _ hi
  refine c0e q k _ hf f (fun j p=>?_) (fun c j g=>hb c j (u0m g))
  have:=hc (i*k.cells+j) (by grind[Ty.cells])
  simp_all[Src.rd,Nat.add_assoc];have M:s.rd m' 0=some (.slice (some a) n c):=by simp_all[Ty.cells]
  have e:loc m' (.list true k) s (.idx i::q)=if i<n then loc m' k (.at a.block (a.off+i*k.cells)) q else none:=by
   simp_all[a0t]
  rw[e,if_pos hi];rcases b0r h with⟨hv,-⟩|⟨z,E,L,os,hv,N,Q,C,B⟩;simp_all;rw[hv]at b;simp at b;obtain⟨rfl,rfl,rfl⟩:=b;obtain⟨K,F,G,w,y,d,l,hf,D,rfl,rfl⟩:=a0u E 0 i C hi;simp at hf;rcases B with⟨A,-⟩|⟨-,rfl⟩;omega;exact c0e q k _ hf f (fun j p=>hb z.block _ (by simp)) (fun c j g=>hb c j (by
   simp only[a11,mC];exact .inr (u0m g)))
theorem g0x{q:a0n}{t:Ty}{x O R e s'}(h:dec m t (s.rd m)=some (x,O,R))(a:loc m t s q=some (.list true e,s'))(k:∀j,j<t.cells→s.rd m' j=s.rd m j)(f:∀c j,c∈O.map (·.1)→m' c j=m c j):s'.rd m' 0=s'.rd m 0:=by
 cases s' with
 |one v=>rfl
 |_=>
  rename_i b o;rcases d0r q t s h a with⟨so,rfl,g,d⟩|g
  have:=k (o-so) (by grind[Ty.cells])
  simp_all[Src.rd];exact f b _ g
theorem h0q{m m':Mem}:∀(p q:a0n)(t:Ty)(s:Src){x O R t' b o y O' R' r},dec m t (s.rd m)=some (x,O,R)→loc m t s p=some (t',.at b o)→
  dec m t' ((Src.at b o).rd m)=some (y,O',R')→Sep s O R→Chg m m' s O R b o t'.cells O'→(∀rest,q=p++rest→rest=[]∨t'.shn=t')→
  loc m t s q=some r→loc m' t s q=some r∧∀e s',r=(.list true e,s')→(∀rest,q≠p++rest)→s'.rd m' 0=s'.rd m 0
 | [],q,t,s,x,O,R,t',b,o,y,O',R',r,h,u,hy,hs,f,hq,hr=>by
  simp[a0t]at u;obtain⟨rfl,rfl⟩:=u;refine⟨?_,fun _ _ _ D=>absurd rfl (D q)⟩;rcases hq q rfl with rfl|g;exact hr
  grind[l0m]
 |.fst::p,q,t,s,x,O,R,t',b,o,y,O',R',r,h,u,hy,hs,f,hq,hr=>by
  obtain⟨a,M,bl,so,rfl,rfl,u⟩:=e0n u;obtain⟨x1,o1,r1,x2,o2,r2,h1,N,rfl,rfl,rfl⟩:=c0a h;have hw:=d0r p a _ h1 u;obtain⟨y1,U,V,A1,B1,S,T,hd,-,w,e2⟩:=b0h p a _ h1 u;rw[hy]at hd;simp at hd;obtain⟨rfl,rfl,rfl⟩:=hd;have l:∀c,c∈O'.map (·.1)→c∈o1.map (·.1):=fun c f=>by simp_all
  have P:=hs.nodup;rw[pA,a07]at P;have m1:∀c,c∈o1.map (·.1)→c∈(o1++o2).map (·.1):=fun c f=>by grind
  have m2:∀c,c∈o2.map (·.1)→c∈(o1++o2).map (·.1):=fun c f=>by grind
  cases q with
  |nil=>
   refine⟨hr,fun e s' w _=>?_⟩;simp[a0t]at hr
   grind
  |cons st q=>
   cases st with
   |fst=>
    have d:loc m a (.at bl so) q=some r:=hr;have k3:Sep (.at bl so) o1 r1:=⟨P.1,fun c f=>hs.src c (m1 c f),
     fun c f=>⟨fun h=>(hs.shared c (a03 _ f)).1 (m1 c h),(hs.shared c (a03 _ f)).2⟩⟩
    have L:=h0q p q a (.at bl so) h1 u hy k3 (fun c j=>by
     rcases f c j with h|h|h|⟨h,F,C⟩;exact .inl h
     all_goals grind)
     (fun rest e=>hq rest (by grind)) d
    exact⟨L.1,fun e s' w D=>L.2 e s' w (fun rest e2=>D rest (by grind))⟩
   |snd=>
    have d:loc m M (.at bl (so+a.cells)) q=some r:=hr;rw[d0w]at N;have hp:=i0p f hs (bl:=bl) (so:=so+a.cells) (k:=M.cells) (o1:=o1) (o2:=o2) (r2:=r2) (.inl (fun h=>h rfl))
     (fun c f=>⟨m1 c f,hs.src c (m1 c f)⟩) (fun c f=>⟨m2 c f,hs.src c (m2 c f)⟩) (fun c h F=>P.2.2 c h c F rfl)
     (fun c f=>a02 _ f) l (by
      grind)
    exact⟨c0e q M _ N d hp.1 (fun c j f=>hp.2 c j (.inl f)),fun e s' w _=>g0x N (w▸d) hp.1 (fun c j f=>hp.2 c j (.inl f))⟩
   |idx i=>
    cases hr
 |.snd::p,q,t,s,x,O,R,t',b,o,y,O',R',r,h,u,hy,hs,f,hq,hr=>by
  obtain⟨a,M,bl,so,rfl,rfl,u⟩:=e0o u;obtain⟨x1,o1,r1,x2,o2,r2,h1,N,rfl,rfl,rfl⟩:=c0a h;rw[d0w]at N;have hw:=d0r p M _ N u;obtain⟨y1,U,V,A1,B1,S,T,hd,-,w,e2⟩:=b0h p M _ N u;rw[hy]at hd;simp at hd;obtain⟨rfl,rfl,rfl⟩:=hd;have l:∀c,c∈O'.map (·.1)→c∈o2.map (·.1):=fun c f=>by simp_all
  have P:=hs.nodup;rw[pA,a07]at P;have m1:∀c,c∈o1.map (·.1)→c∈(o1++o2).map (·.1):=fun c f=>by grind
  have m2:∀c,c∈o2.map (·.1)→c∈(o1++o2).map (·.1):=fun c f=>by grind
  cases q with
  |nil=>
   refine⟨hr,fun e s' w _=>?_⟩;simp[a0t]at hr
   grind
  |cons st q=>
   cases st with
   |snd=>
    have d:loc m M (.at bl (so+a.cells)) q=some r:=hr;have k4:Sep (.at bl (so+a.cells)) o2 r2:=⟨P.2.1,fun c f=>hs.src c (m2 c f),
     fun c f=>⟨fun h=>(hs.shared c (a02 _ f)).1 (m2 c h),(hs.shared c (a02 _ f)).2⟩⟩
    have L:=h0q p q M (.at bl (so+a.cells)) N u hy k4 (fun c j=>by
     rcases f c j with h|h|h|⟨h,F,C⟩;exact .inl h;omega
     grind
     simp only[pA,mA]at h F;exact .inr (.inr (.inr ⟨fun g=>h (.inr g),fun g=>F (.inr g),C⟩)))
     (fun rest e=>hq rest (by grind)) d
    exact⟨L.1,fun e s' w D=>L.2 e s' w (fun rest e2=>D rest (by grind))⟩
   |fst=>
    have d:loc m a (.at bl so) q=some r:=hr;have hp:=i0p f hs (bl:=bl) (so:=so) (k:=a.cells) (o1:=o2) (o2:=o1) (r2:=r1) (.inl (fun h=>h rfl))
     (fun c f=>⟨m2 c f,hs.src c (m2 c f)⟩) (fun c f=>⟨m1 c f,hs.src c (m1 c f)⟩) (fun c h F=>P.2.2 c F c h rfl)
     (fun c f=>a03 _ f) l (by
      grind)
    exact⟨c0e q a _ h1 d hp.1 (fun c j f=>hp.2 c j (.inl f)),fun e s' w _=>g0x h1 (w▸d) hp.1 (fun c j f=>hp.2 c j (.inl f))⟩
   |idx i=>
    cases hr
 |.idx i::p,q,t,s,x,O,R,t',b,o,y,O',R',r,h,u,hy,hs,f,hq,hr=>by
  rcases d0y u with⟨n,t,bl,so,rfl,rfl,hi,u⟩|⟨t,a0,n0,c0,rfl,h6,hi,u⟩
  ·have h:a0d (fun i=>dec m t fun j=>(Src.at bl so).rd m (i*t.cells+j)) n 0=some (x,O,R):=h;have Y:a0d (fun i=>dec m t ((Src.at bl (so+i*t.cells)).rd m)) n 0=some (x,O,R):=by grind[d0w]
   have I:∀c,c∈O.map (·.1)→c≠bl:=fun c f=>hs.src c f;obtain⟨z,G,ri,A0,B0,g4,g6,hf,hz,w,e2⟩:=a0u n 0 i Y hi;simp at hf;have A:∀c,c∈G.map (·.1)→c∈O.map (·.1):=fun c f=>by simp_all
   have E:∀c,c∈ri→c∈R:=fun c f=>by simp_all
   have hw:=d0r p t _ hf u;obtain⟨y1,U,V,A1,B1,S,T,hd,-,e3,e4⟩:=b0h p t _ hf u;rw[hy]at hd;simp at hd;obtain⟨rfl,rfl,rfl⟩:=hd;have l:∀c,c∈O'.map (·.1)→c∈G.map (·.1):=fun c f=>by simp_all
   cases q with
   |nil=>
    refine⟨hr,fun e s' w _=>?_⟩;simp_all[a0t]
   |cons st q=>
    rcases st with _|_|j;cases hr;cases hr;rcases d0y hr with⟨n',h7,g8,k5,W,X,hj,d⟩|⟨h7,a',n',J,W,-⟩;simp at W;obtain⟨rfl,rfl⟩:=W;simp at X;obtain⟨rfl,rfl⟩:=X;have el:loc m' (.arr n t) (.at bl so) (.idx j::q)=loc m' t (.at bl (so+j*t.cells)) q:=by
     show(if j<n then loc m' t (.at bl (so+j*t.cells)) q else none)=_
     simp_all
    rw[el]
    by_cases hji:j=i
    subst hji;have h4:(G.map (·.1)).Nodup:=by
     have:=hs.nodup
     grind
    have h5:Sep (.at bl (so+j*t.cells)) G ri:=⟨h4,fun c f=>I c (A c f),fun c f=>⟨fun g=>(hs.shared c (E c f)).1 (A c g),(hs.shared c (E c f)).2⟩⟩;have L:=h0q p q t _ hf u hy h5 (fun c k=>by
     rcases f c k with h|h|h|⟨h,F,C⟩;exact .inl h;omega;simp_all;exact .inr (.inr (.inr ⟨fun g=>h (A c g),fun g=>F (E c g),C⟩))) (fun rest e=>hq rest (by simp_all)) d
    simp_all;obtain⟨zj,oj,rj,Aj,Bj,g5,g7,B,-,ej,g9⟩:=a0u n 0 j Y hj;simp at B;have H:=f0g n 0 Y hs.nodup i j hi hj (Ne.symm hji) (by simpa using hf) (by simpa using B);have K:∀c,c∈oj.map (·.1)→c∈O.map (·.1):=fun c g=>by grind
    have hp:=i0p f hs (bl:=bl) (so:=so+j*t.cells) (k:=t.cells) (o1:=G) (o2:=oj) (r2:=rj) (.inl (fun h=>h rfl))
     (fun c f=>⟨A c f,I c (A c f)⟩) (fun c f=>⟨K c f,I c (K c f)⟩) H
     (fun c g=>by grind) l (by
      rcases hw with⟨s1,g1,g2,g3⟩|g;simp at g1;obtain⟨rfl,rfl⟩:=g1;refine .inl ⟨rfl,fun k hk=>?_⟩;rcases a14 hji with g|g
      have:j*t.cells+t.cells≤i*t.cells:=by rw[←a04];exact a00 _ g
      omega
      have:i*t.cells+t.cells≤j*t.cells:=by rw[←a04];exact a00 _ g
      omega
      grind)
    exact⟨c0e q t _ B d hp.1 (fun c j f=>hp.2 c j (.inl f)),fun e s' w _=>g0x B (w▸d) hp.1 (fun c j f=>hp.2 c j (.inl f))⟩;simp_all
  ·rcases b0r h with⟨hv,-⟩|⟨a,n,c,os,hv,ha,P,Y,ho⟩;simp_all
   ·rw[hv]at h6;simp at h6;obtain⟨rfl,rfl,rfl⟩:=h6;rcases ho with⟨k1,-⟩|⟨k1,rfl⟩;omega
    ·have h8:=hs.nodup;simp only[a11,a13]at h8;obtain⟨h3,h9⟩:=h8;have Z:a.block∈(((a.block,a.off+c*t.cells)::os).map (·.1)):=by simp
     obtain⟨z,G,ri,A0,B0,g4,g6,hf,hz,w,e2⟩:=a0u n 0 i Y hi;simp at hf;have Q:∀c,c∈G.map (·.1)→c∈os.map (·.1):=fun c f=>by simp_all
     have A:∀J,J∈G.map (·.1)→J∈(((a.block,a.off+c*t.cells)::os).map (·.1)):=fun J f=>by
      simp_all
     have E:∀c,c∈ri→c∈R:=fun c f=>by simp_all
     have hw:=d0r p t _ hf u;have k0:b∈(((a.block,a.off+c*t.cells)::os).map (·.1)):=by
      grind
     obtain⟨y1,U,V,A1,B1,S,T,hd,-,e3,e4⟩:=b0h p t _ hf u;rw[hy]at hd;simp at hd;obtain⟨rfl,rfl,rfl⟩:=hd;have l:∀c,c∈O'.map (·.1)→c∈G.map (·.1):=fun c f=>by grind
     have k2:s.rd m' 0=some (.slice (some a) n c):=by
      rw[←hv];cases s with
      |one v=>rfl
      |_=>
       rename_i sb so;show m' sb (so+0)=m sb (so+0);rcases f sb (so+0)with h|⟨hb,ho,k6⟩|h|⟨h,F,C⟩;omega;exact absurd rfl (hb▸hs.src b k0);exact absurd rfl (hs.src sb (A _ (l _ h)));exact absurd rfl C
     cases q with
     |nil=>
      refine⟨hr,fun e s' w _=>?_⟩;simp[a0t]at hr
      grind
     |cons st q=>
      rcases st with _|_|j;cases hr;cases hr;rcases d0y hr with⟨n',h7,g8,k5,W,X,hj,d⟩|⟨h7,a',n',J,W,X,hj,d⟩
      grind
      simp at W;subst W;rw[hv]at X;simp at X;obtain⟨rfl,rfl,rfl⟩:=X;have e:loc m' (.list true t) s (.idx j::q)=if j<n then loc m' t (.at a.block (a.off+j*t.cells)) q else none:=by
       simp only[loc,a0t,k2]
      rw[e,if_pos hj];clear e
      by_cases hji:j=i
      subst hji;have h4:(G.map (·.1)).Nodup:=by
       grind
      have h5:Sep (.at a.block (a.off+j*t.cells)) G ri:=⟨h4,fun c f (e:c=a.block)=>h3 (e▸Q c f),
       fun c f=>⟨fun g=>(hs.shared c (E c f)).1 (A c g),fun(e:c=a.block)=>(hs.shared c (E c f)).1 (e▸Z)⟩⟩
      have L:=h0q p q t _ hf u hy h5 (fun c k=>by
       rcases f c k with h|h|h|⟨h,F,C⟩;exact .inl h;omega
       grind
       exact .inr (.inr (.inr ⟨fun g=>h (A c g),fun g=>F (E c g),fun(e:c=a.block)=>h (e▸Z)⟩))) (fun rest e=>hq rest (by grind)) d
      exact⟨L.1,fun e s' w D=>L.2 e s' w (fun rest e2=>D rest (by grind))⟩;obtain⟨zj,oj,rj,Aj,Bj,g5,g7,B,-,ej,g9⟩:=a0u n 0 j Y hj;simp at B;have H:=f0g n 0 Y h9 i j hi hj (Ne.symm hji) (by simpa using hf) (by simpa using B);have g0:∀c,c∈oj.map (·.1)→c∈os.map (·.1):=fun c g=>by grind
      have K:∀J,J∈oj.map (·.1)→J∈(((a.block,a.off+c*t.cells)::os).map (·.1)):=fun J g=>by
       grind
      have hp:=i0p f hs (bl:=a.block) (so:=a.off+j*t.cells) (k:=t.cells) (o1:=G) (o2:=oj) (r2:=rj) (.inr Z)
       (fun c f=>⟨A c f,fun e=>h3 (e▸Q c f)⟩) (fun c f=>⟨K c f,fun e=>h3 (e▸g0 c f)⟩) H
       (fun c g=>by grind) l (by
        rcases hw with⟨s1,g1,g2,g3⟩|g;simp at g1;obtain⟨rfl,rfl⟩:=g1;refine .inl ⟨rfl,fun k hk=>?_⟩;rcases a14 hji with g|g
        have:j*t.cells+t.cells≤i*t.cells:=by rw[←a04];exact a00 _ g
        omega
        have:i*t.cells+t.cells≤j*t.cells:=by rw[←a04];exact a00 _ g
        omega
        grind)
      exact⟨c0e q t _ B d hp.1 (fun c j f=>hp.2 c j (.inl f)),fun e s' w _=>g0x B (w▸d) hp.1 (fun c j f=>hp.2 c j (.inl f))⟩
def a0a(w:World)(ov:Option (Nat×Nat×Value)):Mem:=fun b o=>
 match ov with
 |some (b',o',v)=>if b=b'∧o=o' then some v else w.cell? ⟨b,o,none⟩
 |none=>w.cell? ⟨b,o,none⟩
structure Gh where
 g:Nat→Src
 ow:Nat→a0z
 ov:Option (Nat×Nat×Value)
structure Base where
 size:Nat
 hp:Nat→Option Obj
 F:Nat→Prop
 S:Nat→Prop

 pin:Nat→Option Src:=fun _=>none

 io:Os×Array (Nat×ByteArray):=(default,#[])
def b0x(w:World):Os×Array (Nat×ByteArray):=(w.os,w.output)
def a0r(σ:Gh)(c:Nat):Prop:=∃n,c∈(σ.ow n).map (·.1)
def Shr(B:Base)(w:World)(σ:Gh)(c:Nat):Prop:=c<w.heap.size∧(B.S c∨B.F c∨B.size≤c)∧¬ a0r σ c
def a0w(w:World)(b k:Nat):Prop:=∃c e lo hi,w.heap[b]?=some (.cells c e (lo,hi))∧k≤c.size∧(hi=lo∨k≤lo)
def b0j:Value→Bool
 |.agg _|.tuple _=>false
 |_=>true
def VOk(m:Mem)(Sh:Nat→Prop)(t:Ty)(x:t.den)(v:Value):Prop:=
 (t.isAgg=true→∃cs,v=.agg cs∧cs.size=t.cells)∧(t.isAgg=false→b0j v=true)∧
 ∃R,dec m t (fun j=>v.cells[j]?)=some (x,[],R)∧∀c∈R,Sh c
def a0e(m:Mem)(g:Nat→Src)(rt:Nat→Option Root)(Sh:Nat→Prop):AV→Value→Prop
 |.dead,_=>True
 |.skp,v=>v=undef
 |.val t x,v=>VOk m Sh t x v
 |.nils,v=>v=.slice none 0 0
 |.empt,v=>∃a:Option Addr,v=.slice a 0 0
 |.nilp,v=>v=.pointer none
 |.ptr n p,v=>∃r t b o,rt n=some r∧loc m r.t (g n) p=some (t,.at b o)∧v=.pointer (some ⟨b,o,none⟩)
 |.glob g,v=>v=.pointer (some ⟨g,0,none⟩)
 |.vptr t x,v=>∃b o R,v=.pointer (some ⟨b,o,none⟩)∧dec m t ((Src.at b o).rd m)=some (x,[],R)∧Sh b∧∀c∈R,Sh c
 |.sref n p,v=>∃r e s,rt n=some r∧loc m r.t (g n) p=some (.list true e,s)∧s.rd m 0=some v
 |.swin n p off len,v=>∃r e s a l c,rt n=some r∧loc m r.t (g n) p=some (.list true e,s)∧s.rd m 0=some (.slice a l c)∧off+len≤l∧
   ∃a',v=.slice a' len (c-off)∧(∀A,a'=some A→c=off∨A.spot=none)∧(c=off∨a'=a.map fun A=>A.add (off*e.cells))
def Cmp.ok:Cmp→Array Value→Nat→Value→Prop
 |.tup,us,_,v=>v=.tuple us
 |.agg,us,n,v=>us.size=n∧v=.agg us∧∀(k:Nat) u,us[k]?=some u→b0j u=true
 |.clo f,us,n,v=>us.size=n∧v=.func (.func f) #[] us
def g0l(m:Mem)(g:Nat→Src)(rt:Nat→Option Root)(Sh:Nat→Prop):SV→Value→Prop
 |.one a,v=>a0e m g rt Sh a v
 |.cmp c as,v=>∃vs:Array Value,c.ok vs as.length v∧∀(k:Nat) a,as[k]?=some a→∃u,vs[k]?=some u∧a0e m g rt Sh a u
structure RootOk (m:Mem) (Sh:Nat→Prop) (r:Root) (s:Src) (O:a0z):Prop where
 rd:∃O' R,dec m r.t (s.rd m)=some (r.x,O',R)∧(∀c∈R,Sh c)∧
  ((r.bx=true∧∃b,s=.at b 0∧O=(b,r.t.cells)::O')∨(r.bx=false∧(∃v,s=.one v)∧(∃e,r.t=.list true e)∧O=O'))
def f0y(m:Mem)(g:Nat→Src)(rt:Nat→Option Root):Option (Nat×a0n×Nat)→Option (Nat×Nat×Value)→Prop
 |none,none=>True
 |some (n,p,_),some (b,o,_)=>∃r e,rt n=some r∧loc m r.t (g n) p=some (.list true e,.at b o)
 |_,_=>False
theorem f0y.mono{rt:Nat→Option Root}:∀{pd ov},f0y m g rt pd ov→
  (∀n p d r e b o,pd=some (n,p,d)→rt n=some r→loc m r.t (g n) p=some (.list true e,.at b o)→∃f,rt' n=some f∧loc m' f.t (g' n) p=some (.list true e,.at b o))→
  f0y m' g' rt' pd ov
 |none,none,_,_=>trivial
 |some (n,p,d),some (b,o,v),⟨r,e,h1,h2⟩,hf=>by
  obtain⟨f,k,a⟩:=hf n p d r e b o rfl h1 h2;exact⟨f,e,k,a⟩
 |none,some _,h,_=>h.elim
 |some _,none,h,_=>h.elim
structure Rel (B:Base) (Γ:AE) (N:Nat) (tm:Nat→Value) (w:World) (σ:Gh):Prop where
 roots:∀n r,Γ.rt n=some r→RootOk (a0a w σ.ov) (Shr B w σ) r (σ.g n) (σ.ow n)
 norm:∀n,Γ.rt n=none→σ.ow n=[]
 nodup:∀n,((σ.ow n).map (·.1)).Nodup
 disj:∀n n',n≠n'→∀c,c∈(σ.ow n).map (·.1)→c∉(σ.ow n').map (·.1)
 live:∀n p,p∈σ.ow n→a0w w p.1 p.2
 slots:∀i,i<N→g0l (a0a w σ.ov) σ.g Γ.rt (Shr B w σ) (Γ.sl i) (tm i)
 pend:f0y (a0a w σ.ov) σ.g Γ.rt Γ.pd σ.ov
 size:B.size≤w.heap.size
 frame:∀b,b<B.size→¬ B.F b→w.heap[b]?=B.hp b
 mine:∀c,a0r σ c→B.F c∨B.size≤c
 pins:∀i b,B.pin i=some b→Γ.rt (pinned+i)≠none→σ.g (pinned+i)=b
 still:b0x w=B.io
theorem a0w.lt(h:a0w w b k):b<w.heap.size:=by
 obtain⟨c,e,lo,hi,h,-⟩:=h
 grind
theorem a0w.mono{k':Nat}(h:a0w w b k)(g:k'≤k):a0w w b k':=by
 obtain⟨c,e,lo,hi,h,f,a⟩:=h;exact⟨c,e,lo,hi,h,a05 g f,a.imp id (a05 g)⟩
theorem Rel.lt{B Γ N tm w σ}(h:Rel B Γ N tm w σ)(g:a0r σ c):c<w.heap.size:=by
 obtain⟨n,f⟩:=g;obtain⟨p,hp,rfl⟩:=List.mem_map.1 f;exact(h.live n p hp).lt
theorem VOk.frame{t x v}(h:VOk m Sh t x v)(l:∀c j,Sh c→m' c j=m c j)(e:∀c,Sh c→Sh' c):VOk m' Sh' t x v:=by
 obtain⟨g,f,R,k,a⟩:=h;refine⟨g,f,R,a0j t k (fun _ _=>rfl) (fun b j i=>?_),fun c d=>e c (a c d)⟩;simp_all
theorem a0e.frame{rt:Nat→Option Root}{a:AV}(h:a0e m g rt Sh a v)(C:∀c j,Sh c→m' c j=m c j)(A:∀c,Sh c→Sh' c)(z:∀n p r t s,(a=.ptr n p∨a=.sref n p∨∃o l,a=.swin n p o l)→rt n=some r→loc m r.t (g n) p=some (t,s)→
   ∃k,rt' n=some k∧loc m' k.t (g' n) p=some (t,s)∧(∀u,a≠.ptr n p→s.rd m 0=some u→s.rd m' 0=some u)):a0e m' g' rt' Sh' a v:=by
 cases a with
 |dead=>trivial
 |val t x=>exact VOk.frame h C A
 |skp=>exact h
 |nils=>exact h
 |empt=>exact h
 |nilp=>exact h
 |glob g=>exact h
 |ptr n p=>
  obtain⟨r,t,b,o,d,i,f⟩:=h;obtain⟨k,q,w,-⟩:=z n p r t _ (.inl rfl) d i;exact⟨k,t,b,o,q,w,f⟩
 |vptr t x=>
  obtain⟨b,o,R,d,i,f,q⟩:=h;refine⟨b,o,R,d,a0j t i (fun j _=>C b _ f) (fun c j B=>?_),A b f,fun c B=>A c (q c B)⟩;simp_all
 |sref n p=>
  obtain⟨r,e,s,d,i,f⟩:=h;obtain⟨k,q,w,y⟩:=z n p r _ _ (.inr (.inl rfl)) d i;exact⟨k,e,s,q,w,y v (by simp) f⟩
 |swin n p o l=>
  obtain⟨r,e,s,a,l',c,d,i,f,q,w⟩:=h;obtain⟨k,y,D,E⟩:=z n p r _ _ (.inr (.inr ⟨_,_,rfl⟩)) d i;exact⟨k,e,s,a,l',c,y,D,E _ (by simp) f,q,w⟩
theorem g0l.frame{rt:Nat→Option Root}{a:SV}(h:g0l m g rt Sh a v)(hf:∀a v,a0e m g rt Sh a v→a0e m' g' rt' Sh' a v):g0l m' g' rt' Sh' a v:=by
 cases a with
 |one a=>exact hf a v h
 |cmp c as=>
  obtain⟨b,f,d⟩:=h;refine⟨b,f,fun k a e=>?_⟩
  grind
theorem g0l.mapv{m m':Mem}{g g':Nat→Src}{rt rt':Nat→Option Root}{Sh Sh':Nat→Prop}{f:AV→AV}{a:SV}{v:Value}(h:g0l m g rt Sh a v)
  (hf:∀a v,a0e m g rt Sh a v→a0e m' g' rt' Sh' (f a) v):g0l m' g' rt' Sh' (a.mapv f) v:=by
 cases a with
 |one a=>exact hf a v h
 |cmp c as=>
  obtain⟨b,d,e⟩:=h;refine⟨b,by simp_all,fun k a i=>?_⟩
  grind
theorem RootOk.sep{B:Base}{σ:Gh}{r s O}(h:RootOk m (Shr B w σ) r s O)(a:(O.map (·.1)).Nodup)(d:∀c∈O.map (·.1),a0r σ c):
  ∃g R,dec m r.t (s.rd m)=some (r.x,g,R)∧(∀c∈R,Shr B w σ c)∧Sep s g R∧(∀c∈g.map (·.1),c∈O.map (·.1))∧(∀b o,s=.at b o→b∈O.map (·.1))∧
   ((r.bx=true∧∃b,s=.at b 0∧O=(b,r.t.cells)::g)∨(r.bx=false∧(∃v,s=.one v)∧(∃e,r.t=.list true e)∧O=g)):=by
 obtain⟨g,R,j,k,i⟩:=h.rd;refine⟨g,R,j,k,?_,?_,?_,i⟩;rcases i with⟨-,b,rfl,rfl⟩|⟨-,⟨v,rfl⟩,-,rfl⟩;simp only[a11,a13]at a;refine⟨a.2,fun c f e=>a.1 (e▸f),fun c f=>⟨fun h=>(k c f).2.2 (d c (by simp_all)),fun e=>(k c f).2.2 (d c (by grind))⟩⟩;exact⟨a,fun c _=>trivial,fun c f=>⟨fun h=>(k c f).2.2 (d c h),trivial⟩⟩
 all_goals grind
theorem Rel.sep{B Γ N tm w σ}(h:Rel B Γ N tm w σ){n r}(k:Γ.rt n=some r):
  ∃O' R,dec (a0a w σ.ov) r.t ((σ.g n).rd (a0a w σ.ov))=some (r.x,O',R)∧(∀c∈R,Shr B w σ c)∧Sep (σ.g n) O' R∧(∀c∈O'.map (·.1),c∈(σ.ow n).map (·.1))∧
   (∀b o,σ.g n=.at b o→b∈(σ.ow n).map (·.1))∧
   ((r.bx=true∧∃b,σ.g n=.at b 0∧σ.ow n=(b,r.t.cells)::O')∨(r.bx=false∧(∃v,σ.g n=.one v)∧(∃e,r.t=.list true e)∧σ.ow n=O')):=
 (h.roots n r k).sep (h.nodup n) (fun _ f=>⟨n,f⟩)
theorem Rel.place{B Γ N tm w σ}(h:Rel B Γ N tm w σ){n r p t b o}(f:Γ.rt n=some r)(j:loc (a0a w σ.ov) r.t (σ.g n) p=some (t,.at b o)):b∈(σ.ow n).map (·.1):=by
 obtain⟨k,R,a,c,d,e,i,-⟩:=h.sep f
 grind[d0r]
theorem Rel.mem{B Γ N tm w σ}(h:Rel B Γ N tm w σ)(m:∀c j,a0r σ c∨Shr B w σ c→a0a w' σ.ov c j=a0a w σ.ov c j)(K:∀n p,p∈σ.ow n→a0w w' p.1 p.2)(y:w.heap.size≤w'.heap.size)(hf:∀b,b<B.size→¬ B.F b→w'.heap[b]?=B.hp b)(hio:b0x w'=b0x w:=by first|rfl|assumption):Rel B Γ N tm w' σ:=by
 have x:∀c,Shr B w σ c→Shr B w' σ c:=fun c ⟨q,z,A⟩=>⟨a06 q y,z,A⟩;have k:∀n p r t s,Γ.rt n=some r→loc (a0a w σ.ov) r.t (σ.g n) p=some (t,s)→loc (a0a w' σ.ov) r.t (σ.g n) p=some (t,s)∧∀u,s.rd (a0a w σ.ov) 0=some u→s.rd (a0a w' σ.ov) 0=some u:=by
  intro n p r t s l hp;obtain⟨E,R,q,z,A,C,D,-⟩:=h.sep l;refine⟨c0e p r.t _ q hp (fun j J=>?_) (fun c j f=>m c j (.inl ⟨n,C c f⟩)),fun u G=>?_⟩
  ·cases e:σ.g n with
   |one v=>rfl
   |_=>rename_i b o;exact m b _ (.inl ⟨n,D b o e⟩)
  ·cases s with
   |one v=>exact G
   |_=>
    rename_i b o
    have:=h.place l hp
    rw[←G];exact m b _ (.inl ⟨n,this⟩)
 refine⟨fun n r l=>?_,h.norm,h.nodup,h.disj,K,fun i hi=>?_,?_,a05 h.size y,hf,h.mine,h.pins,hio.trans h.still⟩
 ·obtain⟨E,R,q,z,A,C,D,H⟩:=h.sep l;refine⟨E,R,a0j r.t q (fun j J=>?_) (fun c j f=>?_),fun c f=>x c (z c f),H⟩
  ·cases e:σ.g n with
   |one v=>rfl
   |_=>rename_i b o;exact m b _ (.inl ⟨n,D b o e⟩)
  rcases f with f|f;exact m c j (.inl ⟨n,C c f⟩);simp_all
 refine(h.slots i hi).frame fun a v I=>I.frame (fun c j f=>m c j (.inr f)) x fun n p r t s _ l hp=>?_
 grind
 exact h.pend.mono fun n p d r e b o _ l hp=>⟨r,l,(k n p r _ _ l hp).1⟩
theorem Rel.put{B Γ N tm w σ}(h:Rel B Γ N tm w σ){d:Nat}{a:SV}{v:Value}{tm':Nat→Value}(f:d<N→g0l (a0a w σ.ov) σ.g Γ.rt (Shr B w σ) a v)
  (k:∀i,i<N→tm' i=if i=d then v else tm i):Rel B (Γ.put d a) N tm' w σ:=by
 refine⟨h.roots,h.norm,h.nodup,h.disj,h.live,fun i hi=>?_,h.pend,h.size,h.frame,h.mine,h.pins,h.still⟩;rw[k i hi];show g0l _ _ _ _ (bif i==d then a else Γ.sl i) _
 by_cases e:i=d
 subst e;rw[if_pos rfl,show(i==i)=true from by simp];exact f hi;rw[if_neg e,show(i==d)=false from by simp_all];exact h.slots i hi
theorem Rel.tmps{B Γ N tm w σ}(h:Rel B Γ N tm w σ){tm':Nat→Value}(g:∀i,i<N→tm' i=tm i):Rel B Γ N tm' w σ:=
 ⟨h.roots,h.norm,h.nodup,h.disj,h.live,fun i hi=>by rw[g i hi];exact h.slots i hi,h.pend,h.size,h.frame,h.mine,h.pins,h.still⟩
theorem Rel.weak{B Γ N tm w σ}(h:Rel B Γ N tm w σ){sl:Nat→SV}(f:∀i,i<N→∀v,g0l (a0a w σ.ov) σ.g Γ.rt (Shr B w σ) (Γ.sl i) v→g0l (a0a w σ.ov) σ.g Γ.rt (Shr B w σ) (sl i) v):
  Rel B { Γ with sl:=sl } N tm w σ:=
 ⟨h.roots,h.norm,h.nodup,h.disj,h.live,fun i hi=>f i hi _ (h.slots i hi),h.pend,h.size,h.frame,h.mine,h.pins,h.still⟩
theorem b0g{w w':World}{c:Nat}(g:Option (Nat×Nat×Value))(h:w'.heap[c]?=w.heap[c]?)(j:Nat):a0a w' g c j=a0a w g c j:=by
 simp_all[a0a,World.cell?]
theorem c0x{m:Mem}:∀(p q:a0n)(t:Ty)(s:Src){t' s'},loc m t s p=some (t',s')→loc m t s (p++q)=loc m t' s' q
 | [],q,t,s,t',s',h=>by
  simp[a0t]at h;simp_all
 |.fst::p,q,t,s,t',s',h=>by
  obtain⟨a,b,bl,o,rfl,rfl,h⟩:=e0n h;exact c0x p q a _ h
 |.snd::p,q,t,s,t',s',h=>by
  obtain⟨a,b,bl,o,rfl,rfl,h⟩:=e0o h;exact c0x p q b _ h
 |.idx i::p,q,t,s,t',s',h=>by
  rcases d0y h with⟨n,g,bl,o,rfl,rfl,hi,h⟩|⟨g,a,n,c,rfl,hv,hi,h⟩
  have:=c0x p q g _ h
  show(if i<n then loc m g (.at bl (o+i*g.cells)) (p++q)else none)=_
  simp_all
  have:=c0x p q g _ h
  simp_all[a0t]
theorem f0n{m:Mem}:∀(q:a0n)(t:Ty)(s:Src){t' s'},t.shn=t→loc m t s q=some (t',s')→t'.shn=t'
 | [],t,s,t',s',h,g=>by
  simp[a0t]at g;obtain⟨rfl,rfl⟩:=g;exact h
 |.fst::p,t,s,t',s',h,g=>by
  obtain⟨a,b,bl,o,rfl,rfl,g⟩:=e0n g;simp only[Ty.shn,Ty.pair.injEq]at h;exact f0n p a _ h.1 g
 |.snd::p,t,s,t',s',h,g=>by
  obtain⟨a,b,bl,o,rfl,rfl,g⟩:=e0o g;simp only[Ty.shn,Ty.pair.injEq]at h;exact f0n p b _ h.2 g
 |.idx i::p,t,s,t',s',h,g=>by
  rcases d0y g with⟨n,f,bl,o,rfl,rfl,hi,g⟩|⟨f,a,n,c,rfl,hv,hi,g⟩;simp only[Ty.shn,Ty.arr.injEq]at h;exact f0n p f _ (Ty.shn_of_sh f h.2) g;simp[Ty.shn]at h
def r0r(n:Nat)(p:a0n)(t:Ty):AV→Prop
 |.ptr m q=>m=n→∀rest,q=p++rest→rest=[]∨t.shn=t
 |.sref m q|.swin m q _ _=>m=n→∀rest,q=p++rest→t.shn=t
 |_=>True
theorem j0b(p q:a0n):c0r p (p++q)=true:=by
 induction p with
 |nil=>rfl
 |cons s p ih=>cases s<;>simpa[c0r]using ih
theorem l0l(n:Nat)(p:a0n)(t:Ty)(a:AV):a.kill n p=.dead∨(a.kill n p=a∧r0r n p t a):=by
 cases a<;>try exact .inr ⟨rfl,trivial⟩
 rename_i m q
 by_cases h:(m==n&&c0r p q&&decide (p.length<q.length))=true
 simp_all[AV.kill];refine .inr ⟨by simp_all[AV.kill],fun e rest g=>?_⟩;simp_all[j0b];rename_i m q
 by_cases h:(m==n&&c0r p q)=true
 simp_all[AV.kill];refine .inr ⟨by simp_all[AV.kill],fun e rest g=>?_⟩;simp_all[j0b];rename_i m q o l
 by_cases h:(m==n&&c0r p q)=true
 simp_all[AV.kill];refine .inr ⟨by simp_all[AV.kill],fun e rest g=>?_⟩;simp_all[j0b]
theorem v0y(n:Nat)(p:a0n){t:Ty}(h:t.shn=t)(a:AV):r0r n p t a:=by
 cases a<;>first|trivial|exact fun _ _ _=>h|exact fun _ _ _=>.inr h
inductive Pend (Γ:AE) (σ:Gh) (n:Nat) (p:a0n) (t:Ty) (b o:Nat):Option (Nat×a0n×Nat)→Option (Nat×Nat×Value)→Prop
 |same (h:∀p d,Γ.pd≠some (n,p,d)):Pend Γ σ n p t b o Γ.pd σ.ov
 |new (d:Nat) (v:Value) (e:Ty) (h:Γ.pd=none) (ht:t=.list true e):Pend Γ σ n p t b o (some (n,p,d)) (some (b,o,v))
theorem Rel.chg{B Γ N tm w σ}(h:Rel B Γ N tm w σ){n r p t b o y O1 R1}(hr:Γ.rt n=some r)(hl:loc (a0a w σ.ov) r.t (σ.g n) p=some (t,.at b o))(hy:dec (a0a w σ.ov) t ((Src.at b o).rd (a0a w σ.ov))=some (y,O1,R1)){ov':Option (Nat×Nat×Value)}{pd':Option (Nat×a0n×Nat)}{y' O2 R2}(hpd:Pend Γ σ n p t b o pd' ov')(hy':dec (a0a w' ov') t ((Src.at b o).rd (a0a w' ov'))=some (y',O2,R2))(hchg:∀c j,a0a w' ov' c j=a0a w σ.ov c j∨(c=b∧o≤j∧j<o+t.cells)∨c∈O1.map (·.1)∨w.heap.size≤c)(hO2:∀c∈O2.map (·.1),c∈O1.map (·.1)∨w.heap.size≤c)(hn2:(O2.map (·.1)).Nodup)(hlive:∀p∈O2,a0w w' p.1 p.2)(hfree:∀c k,a0w w c k→a0r σ c→a0w w' c k)(hsz:w.heap.size≤w'.heap.size)(hfr:∀b,b<B.size→¬ B.F b→w'.heap[b]?=B.hp b)(hR2:∀c∈R2,c<w'.heap.size∧(B.S c∨B.F c∨B.size≤c)∧¬ a0r σ c∧c∉O2.map (·.1)){f:AV→AV}(hf:∀a,f a=.dead∨(f a=a∧r0r n p t a))(hio:b0x w'=b0x w:=by first|rfl|assumption):
  ∃ow',(∀m,m≠n→ow' m=σ.ow m)∧Rel B { (Γ.mapv f).setRt n (some ⟨r.bx,r.t,b0q r.t r.x p t y'⟩)with pd:=pd' } N tm w' ⟨σ.g,ow',ov'⟩:=by
 obtain⟨O',R,h1,h2,h3,h4,h5,h6⟩:=h.sep hr;obtain⟨y1,O1',R1',A1,B1,A1',B1',hd,hg,e1,e2⟩:=b0h p r.t _ h1 hl;rw[hy]at hd;simp at hd;obtain⟨rfl,rfl,rfl⟩:=hd;have hO1:∀c,c∈O1.map (·.1)→c∈(σ.ow n).map (·.1):=fun c hc=>h4 c (by simp_all);have hb:b∈(σ.ow n).map (·.1):=h.place hr hl;have hc1:Chg (a0a w σ.ov) (a0a w' ov') (σ.g n) O' R b o t.cells O1:=fun c j=>by
  rcases hchg c j with g|g|g|g
  grind
  omega
  grind
  ·refine .inr (.inr (.inr ⟨fun g'=>?_,fun g'=>?_,?_⟩));exact absurd (h.lt ⟨n,h4 c g'⟩) (by omega);exact absurd (h2 c g').1 (by omega)
   ·cases e:σ.g n with
    |one v=>trivial
    |_=>
     rename_i b' o'
     rintro rfl
     exact absurd (h.lt ⟨n,h5 _ _ e⟩) (by omega)
 obtain⟨A,B',R',e3,h7,h8⟩:=o0j p r.t (σ.g n) h1 hl hy hy' h3 hc1

 have hother:∀c j,c∉(σ.ow n).map (·.1)→c<w.heap.size→a0a w' ov' c j=a0a w σ.ov c j:=fun c j hc hlt=>by
  grind
 have hoth:∀m,m≠n→∀c j,c∈(σ.ow m).map (·.1)→a0a w' ov' c j=a0a w σ.ov c j:=fun m hm c j hc=>
  hother c j (h.disj m n hm c hc) (h.lt ⟨m,hc⟩)
 have hshm:∀c j,Shr B w σ c→a0a w' ov' c j=a0a w σ.ov c j:=fun c j hc=>hother c j (fun g=>hc.2.2 ⟨n,g⟩) hc.1

 let on:a0z:=match r.bx with|true=>(match σ.g n with|.at b0 _=>[(b0,r.t.cells)]|_=>[])++(A++(O2++B'))|false=>A++(O2++B')
 let ow':Nat→a0z:=fun m=>if m=n then on else σ.ow m
 have hon:ow' n=on:=by grind
 have hom:∀m,m≠n→ow' m=σ.ow m:=fun m hm=>by grind
 have hon1:∀c,c∈on.map (·.1)→c∈(σ.ow n).map (·.1)∨c∈O2.map (·.1):=by
  intro c hc;have key:c∈(A++(O2++B')).map (·.1)→c∈(σ.ow n).map (·.1)∨c∈O2.map (·.1):=by
   grind
  rcases h6 with⟨hbx,b0,hs,ho⟩|⟨hbx,-,-,ho⟩
  grind
  grind
 have hOwned:∀c,(∃m,c∈(ow' m).map (·.1))→a0r σ c∨c∈O2.map (·.1):=by
  rintro c ⟨m,hm⟩
  by_cases e:m=n
  subst e;rw[hon]at hm;rcases hon1 c hm with g|g;exact .inl ⟨m,g⟩
  grind
  rw[hom m e]at hm;exact .inl ⟨m,hm⟩
 have hO2σ:∀c,c∈O2.map (·.1)→a0r σ c∨w.heap.size≤c:=fun c hc=>by
  rcases hO2 c hc with g|g;exact .inl ⟨n,hO1 c g⟩;omega
 have hsh:∀c,Shr B w σ c→Shr B w' ⟨σ.g,ow',ov'⟩ c:=fun c ⟨g1,g2,g3⟩=>⟨a06 g1 hsz,g2,fun g4=>by
  rcases hOwned c g4 with g|g
  all_goals grind⟩
 have hshR2:∀c∈R2,Shr B w' ⟨σ.g,ow',ov'⟩ c:=fun c hc=>by
  obtain⟨g1,g2,g3,g4⟩:=hR2 c hc;refine⟨g1,g2,fun g5=>?_⟩;rcases hOwned c g5 with g|g
  all_goals grind

 have hplace:∀m q rm tq s,Γ.rt m=some rm→loc (a0a w σ.ov) rm.t (σ.g m) q=some (tq,s)→(m=n→∀rest,q=p++rest→rest=[]∨t.shn=t)→
   loc (a0a w' ov') rm.t (σ.g m) q=some (tq,s)∧∀e,tq=.list true e→(m=n→∀rest,q=p++rest→t.shn=t)→s.rd (a0a w' ov') 0=s.rd (a0a w σ.ov) 0:=by
  intro m q rm tq s hrm hlq hq
  by_cases e:m=n
  subst e;rw[hr]at hrm;simp at hrm;subst hrm
  have:=h0q p q r.t (σ.g m) h1 hl hy h3 hc1 (hq rfl) hlq
  refine⟨this.1,fun e ht hne=>this.2 e s (by grind) (fun rest he=>?_)⟩;have hp:=hne rfl rest he;subst he;rw[c0x p rest r.t _ hl]at hlq
  have:=f0n rest t _ hp hlq
  grind[Ty.shn]
  ·obtain⟨Om,Rm,g1,g2,g3,g4,g5,-⟩:=h.sep hrm;have hcell:∀j,j<rm.t.cells→(σ.g m).rd (a0a w' ov') j=(σ.g m).rd (a0a w σ.ov) j:=fun j _=>by
    cases es:σ.g m with
    |one v=>rfl
    |_=>rename_i b' o';exact hoth m e b' _ (g5 _ _ es)
   refine⟨c0e q rm.t _ g1 hlq hcell (fun c j hc=>hoth m e c j (g4 c hc)),fun e' ht _=>?_⟩;rw[ht]at hlq;exact g0x g1 hlq hcell (fun c j hc=>hoth m e c j (g4 c hc))
 have hkeep:∀a v,a0e (a0a w σ.ov) σ.g Γ.rt (Shr B w σ) a v→a0e (a0a w' ov') σ.g (fun j=>bif j==n then some ⟨r.bx,r.t,b0q r.t r.x p t y'⟩else Γ.rt j) (Shr B w' ⟨σ.g,ow',ov'⟩) (f a) v:=by
  intro a v ha;rcases hf a with g|⟨g,hk⟩;rw[g];trivial;rw[g];refine ha.frame hshm hsh fun m q rm tq s hcase hrm hlq=>?_
  have hq:m=n→∀rest,q=p++rest→rest=[]∨t.shn=t:=by
   intro e rest he;rcases hcase with rfl|rfl|⟨o',l',rfl⟩;exact hk e rest he;exact .inr (hk e rest he);exact .inr (hk e rest he)
  have hp:=hplace m q rm tq s hrm hlq hq;refine⟨if m=n then⟨r.bx,r.t,b0q r.t r.x p t y'⟩else rm,?_,?_,?_⟩
  grind
  grind
  intro u hne hu;rcases hcase with rfl|rfl|⟨o',l',rfl⟩
  grind
  obtain⟨r0,e0,s0,k1,k2,k3⟩:=ha;rw[hrm]at k1;simp at k1;subst k1;rw[hlq]at k2;simp at k2;rw[hp.2 e0 k2.1 (fun e rest he=>hk e rest he)];omega;obtain⟨r0,e0,s0,a0,l0,c0,k1,k2,k3⟩:=ha;rw[hrm]at k1;simp at k1;subst k1;rw[hlq]at k2;simp at k2;rw[hp.2 e0 k2.1 (fun e rest he=>hk e rest he)];omega
 have hpins:∀i b,B.pin i=some b→(((Γ.mapv f).setRt n (some ⟨r.bx,r.t,b0q r.t r.x p t y'⟩)).rt (pinned+i))≠none→σ.g (pinned+i)=b:=fun i b hb hne=>by
  refine h.pins i b hb fun e=>hne ?_
  by_cases e':pinned+i=n
  grind
  have e'':(pinned+i==n)=false:=by grind
  simpa[AE.setRt,e'',AE.mapv]using e
 refine⟨ow',hom,?_,?_,?_,?_,?_,?_,?_,a05 h.size hsz,hfr,?_,hpins,hio.trans h.still⟩
 ·intro m rm hrm
  by_cases e:m=n
  subst e;simp[AE.setRt]at hrm;subst hrm;refine⟨_,R',h7,fun c hc=>?_,?_⟩
  grind
  rcases h6 with⟨hbx,b0,hs,ho⟩|⟨hbx,hs,ht,ho⟩
  grind
  grind
  ·have hrm':Γ.rt m=some rm:=by
    have e':(m==n)=false:=by grind
    simpa[AE.setRt,e',AE.mapv]using hrm
   obtain⟨Om,Rm,g1,g2,g3,g4,g5,g6⟩:=h.sep hrm';refine⟨Om,Rm,a0j rm.t g1 (fun j _=>?_) (fun c j hc=>?_),fun c hc=>hsh c (g2 c hc),?_⟩
   ·cases es:σ.g m with
    |one v=>rfl
    |_=>rename_i b' o';exact hoth m e b' _ (g5 _ _ es)
   grind
   grind
 intro m hm
 by_cases e:m=n
 grind[AE.setRt]
 have e':(m==n)=false:=by grind
 show ow' m=[];rw[hom m e];exact h.norm m (by simpa[AE.setRt,e',AE.mapv]using hm);intro m;show((ow' m).map (·.1)).Nodup
 by_cases e:m=n
 subst e;rw[hon];have hnd:=h.nodup m;have key:((A++(O2++B')).map (·.1)).Nodup:=by
  have hO'n:=h3.nodup;rw[e3]at hO'n;simp only[pA,a07,mA]at hO'n⊢;obtain⟨k1,⟨k2,k3,k4⟩,k5⟩:=hO'n;refine⟨k1,⟨hn2,k3,fun a ha c hc e=>?_⟩,fun a ha c hc e=>?_⟩;subst e;rcases hO2 a ha with g|g
  grind
  exact absurd (h.lt ⟨m,h4 a (by grind)⟩) (by omega);subst e;rcases hc with hc|hc;rcases hO2 a hc with g|g
  grind
  exact absurd (h.lt ⟨m,h4 a (by grind)⟩) (by omega)
  grind
 rcases h6 with⟨hbx,b0,hs,ho⟩|⟨hbx,-,-,ho⟩;simp only[on,hbx,hs,List.singleton_append,a11,a13];refine⟨fun g=>?_,key⟩;rw[ho]at hnd;simp only[a11,a13]at hnd;simp only[pA,mA]at g;rcases g with g|g|g
 grind
 rcases hO2 b0 g with g'|g';exact hnd.1 (by rw[e3];simp only[pA,mA];grind);have hb0:a0r σ b0:=⟨m,by grind⟩;exact absurd (h.lt hb0) (by omega);exact hnd.1 (by rw[e3];simp only[pA,mA];grind)
 grind
 rw[hom m e];exact h.nodup m;intro m m' hmm c hc hc'
 by_cases e:m=n
 subst e;rw[show(Gh.mk σ.g ow' ov').ow m=ow' m from rfl,hon]at hc;rw[show(Gh.mk σ.g ow' ov').ow m'=ow' m' from rfl,hom m' (Ne.symm hmm)]at hc';rcases hon1 c hc with g|g;exact h.disj m m' hmm c g hc';rcases hO2σ c g with g|g;rcases hO2 c ‹_› with g'|g';exact h.disj m m' hmm c (hO1 c g') hc';exact absurd (h.lt ⟨m',hc'⟩) (by omega);exact absurd (h.lt ⟨m',hc'⟩) (by omega)
 by_cases e':m'=n
 subst e';rw[show(Gh.mk σ.g ow' ov').ow m'=ow' m' from rfl,hon]at hc';rw[show(Gh.mk σ.g ow' ov').ow m=ow' m from rfl,hom m e]at hc;rcases hon1 c hc' with g|g;exact h.disj m m' hmm c hc g;rcases hO2 c g with g'|g';exact h.disj m m' hmm c hc (hO1 c g');exact absurd (h.lt ⟨m,hc⟩) (by omega);rw[show(Gh.mk σ.g ow' ov').ow m=ow' m from rfl,hom m e]at hc;rw[show(Gh.mk σ.g ow' ov').ow m'=ow' m' from rfl,hom m' e']at hc';exact h.disj m m' hmm c hc hc'
 ·intro m q hq;rw[show(Gh.mk σ.g ow' ov').ow m=ow' m from rfl]at hq
  by_cases e:m=n
  ·subst e;rw[hon]at hq;have hold:q∈σ.ow m→a0w w' q.1 q.2:=fun g=>hfree _ _ (h.live m q g) ⟨m,a10 g⟩;have key:q∈A++(O2++B')→a0w w' q.1 q.2:=by
    intro g;simp at g;have hmem:q∈O'→q∈σ.ow m:=fun g=>by
     rcases h6 with⟨-,b0,-,ho⟩|⟨-,-,-,ho⟩
     all_goals grind
    grind
   rcases h6 with⟨hbx,b0,hs,ho⟩|⟨hbx,-,-,ho⟩
   grind
   grind
  rw[hom m e]at hq;exact hfree _ _ (h.live m q hq) ⟨m,a10 hq⟩
 intro i hi;exact(h.slots i hi).mapv hkeep
 ·cases hpd with
  |same hne=>
   refine h.pend.mono fun n' p' d' r' e' b' o' hpd hr' hp'=>?_
   have hnn:n'≠n:=fun e=>hne p' d' (by grind);have e'':(n'==n)=false:=by grind
   exact⟨r',by simpa[AE.setRt,e'',AE.mapv]using hr',(hplace n' p' r' _ _ hr' hp' (fun g=>absurd g hnn)).1⟩
  |new d v e hpn ht=>
   refine⟨⟨r.bx,r.t,b0q r.t r.x p t y'⟩,e,by simp[AE.setRt],?_⟩;rw[←ht];exact(hplace n p r t _ hr hl (fun _ rest he=>.inl (by simpa using he))).1
 rintro c ⟨m,hm⟩
 rcases hOwned c ⟨m,hm⟩with g|g;exact h.mine c g;rcases hO2σ c g with g|g;exact h.mine c g;exact .inr (a05 h.size g)
theorem Ty.cells_sh:(t:Ty)→t.sh.cells=t.cells
 |.int _|.bool|.str|.unit|.list _ _|.nl _=>rfl
 |.pair a b=>by simp only[Ty.sh,Ty.cells,Ty.cells_sh a,Ty.cells_sh b]
 |.arr n t=>by simp only[Ty.sh,Ty.cells,Ty.cells_sh t]
theorem q0t(h:A=A')(g:List A=List A')(l:List A):cast g l=l.map (cast h):=by
 subst h;show l=l.map (fun x=>x)
 simp
theorem m0f{B B':Type}(g:A=A')(f:B=B')(h:(A×B)=(A'×B'))(x:A×B):cast h x=(cast g x.1,cast f x.2):=by
 grind
theorem n0z(h:A=A')(g:List A=List A'):cast g ([]:List A)=([]:List A'):=by
 grind
theorem Ty.shx_list(o:Bool)(t:Ty)(l:List t.den):Ty.shx (.list o t) l=l.map t.shx:=q0t _ _ l
theorem Ty.shx_arr(n:Nat)(t:Ty)(l:List t.den):Ty.shx (.arr n t) l=l.map t.shx:=q0t _ _ l
theorem Ty.shx_pair(a b:Ty)(x:a.den×b.den):Ty.shx (.pair a b) x=(a.shx x.1,b.shx x.2):=m0f _ _ _ x
theorem i0m{α β:Type}{f:Nat→Option (α×a0z×List Nat)}{f':Nat→Option (β×a0z×List Nat)}{c:α→β}:
  ∀(n i:Nat){xs os rs},a0d f n i=some (xs,os,rs)→(∀j x o r,i≤j→j<i+n→f j=some (x,o,r)→∃r',f' j=some (c x,[],r')∧∀b∈r',b∈o.map (·.1)∨b∈r)→
   ∃g,a0d f' n i=some (xs.map c,[],g)∧∀b∈g,b∈os.map (·.1)∨b∈rs
 |0,i,xs,os,rs,h,_=>by
  simp[a0d]at h;obtain⟨rfl,rfl,rfl⟩:=h;exact⟨[],rfl,by simp⟩
 |n+1,i,xs,os,rs,h,hf=>by
  simp[a0d]at h
  split at h
  grind
  rename_i x o r k
  split at h
  grind
  rename_i l d g a;simp at h;obtain⟨rfl,rfl,rfl⟩:=h;obtain⟨u,p,q⟩:=hf i x o r (a12 _) (by omega) k;obtain⟨e,s,t⟩:=i0m n (i+1) a (fun j x o r m a=>hf j x o r (by omega) (by omega))
  grind[a0d]
theorem z0n{β:Type}{o:Bool}{f':(Nat→Option Value)→Option (β×a0z×List Nat)}{c:α→β}{v x O R}(h:a0x m o sz f v=some (x,O,R))(hf:∀rd x o r,f rd=some (x,o,r)→∃r',f' rd=some (c x,[],r')∧∀b∈r',b∈o.map (·.1)∨b∈r):
  ∃R',a0x m false sz f' v=some (x.map c,[],R')∧∀b∈R',b∈O.map (·.1)∨b∈R:=by
 unfold a0x at h⊢
 split at h
 simp_all;rename_i a n d
 split at h
 rename_i p
 split at h
 grind
 rename_i xs os q g;obtain⟨k,e,l⟩:=i0m (f':=fun i=>f' fun j=>m a.block (a.off+(i*sz+j))) (c:=c) n 0 g (fun j x o r _ _ h=>hf _ x o r h)
 grind
 simp_all;simp_all
theorem e0k{m:Mem}:∀(t:Ty){rd:Nat→Option Value}{x O R},dec m t rd=some (x,O,R)→∃f,dec m t.sh rd=some (t.shx x,[],f)∧∀c∈f,c∈O.map (·.1)∨c∈R
 |.int k,rd,x,O,R,h=>by
  refine⟨R,?_,fun c g=>.inr g⟩
  have:O=[]:=by
   grind[dec]
  subst this;exact h
 |.bool,rd,x,O,R,h=>by
  refine⟨R,?_,fun c g=>.inr g⟩
  have:O=[]:=by
   grind[dec]
  subst this;exact h
 |.str,rd,x,O,R,h=>by
  refine⟨R,?_,fun c g=>.inr g⟩
  have:O=[]:=by
   grind[dec]
  subst this;exact h
 |.unit,rd,x,O,R,h=>by
  simp[dec]at h;cases h;exact⟨[],rfl,by simp⟩
 |.pair a b,rd,x,O,R,h=>by
  obtain⟨v,o1,u,w,o2,r2,e,d,rfl,rfl,rfl⟩:=c0a h;obtain⟨R1,p,q⟩:=e0k a e;obtain⟨R2,l,s⟩:=e0k b d;refine⟨R1++R2,?_,fun c g=>?_⟩;rw[Ty.shx_pair];rw[←Ty.cells_sh a]at l;exact f0b p l;simp only[pA,mA]at g⊢;rcases g with g|g;exact(q c g).imp .inl .inl;exact(s c g).imp .inr .inr
 |.arr n t,rd,x,O,R,h=>by
  have h:a0d (fun i=>dec m t fun j=>rd (i*t.cells+j)) n 0=some (x,O,R):=h;obtain⟨f,e,d⟩:=i0m (f':=fun i=>dec m t.sh fun j=>rd (i*t.cells+j)) (c:=t.shx) n 0 h (fun j x o r _ _ h=>e0k t h);refine⟨f,?_,d⟩;refine Eq.trans ?_ (congrArg (fun z:List t.sh.den=>some (z,([]:a0z),f)) (Ty.shx_arr n t x).symm);show a0d (fun i=>dec m t.sh fun j=>rd (i*t.sh.cells+j)) n 0=_;simp_all[Ty.cells_sh]
 |.list o t,rd,x,O,R,h=>by
  have h:a0x m o t.cells (dec m t) (rd 0)=some (x,O,R):=h;obtain⟨f,e,d⟩:=z0n (f':=dec m t.sh) (c:=t.shx) h (fun rd x o r h=>e0k t h);refine⟨f,?_,d⟩;refine Eq.trans ?_ (congrArg (fun z:List t.sh.den=>some (z,([]:a0z),f)) (Ty.shx_list o t x).symm);show a0x m false t.sh.cells (dec m t.sh) (rd 0)=_;simp_all[Ty.cells_sh]

 |.nl t,rd,x,O,R,h=>by
  obtain⟨hv,rfl,rfl,rfl⟩:=m0g h;refine⟨[],?_,by simp⟩;refine Eq.trans ?_ (congrArg (fun z:List t.sh.den=>some (z,([]:a0z),([]:List Nat))) (n0z (Ty.den_sh t).symm _).symm);show a0x m false t.sh.cells (dec m t.sh) (rd 0)=_;rw[hv];rfl
theorem Ty.cells_shn:(t:Ty)→t.shn.cells=t.cells
 |.int _|.bool|.str|.unit|.list _ _|.nl _=>rfl
 |.pair a b=>by simp only[Ty.shn,Ty.cells,Ty.cells_shn a,Ty.cells_shn b]
 |.arr n t=>by simp only[Ty.shn,Ty.cells,Ty.cells_sh t]
theorem k0w{m:Mem}:∀(t:Ty){rd:Nat→Option Value}{x O R},dec m t rd=some (x,O,R)→∃R',dec m t.shn rd=some (t.shnx x,[],R')∧∀c∈R',c∈O.map (·.1)∨c∈R
 |.int k,rd,x,O,R,h=>e0k (.int k) h
 |.bool,rd,x,O,R,h=>e0k .bool h
 |.str,rd,x,O,R,h=>e0k .str h
 |.unit,rd,x,O,R,h=>e0k .unit h
 |.arr n t,rd,x,O,R,h=>e0k (.arr n t) h
 |.list o t,rd,x,O,R,h=>e0k (.list o t) h
 |.nl t,rd,x,O,R,h=>by
  obtain⟨hv,rfl,rfl,rfl⟩:=m0g h;refine⟨[],?_,by simp⟩;refine Eq.trans ?_ (congrArg (fun z:List t.sh.den=>some (z,([]:a0z),([]:List Nat))) (n0z (Ty.den_sh t).symm _).symm);show(match rd 0 with|some (.slice none 0 0)=>some (([]:List t.sh.den),([]:a0z),([]:List Nat))|_=>none)=_;simp_all
 |.pair a b,rd,x,O,R,h=>by
  obtain⟨f,o1,r,d,o2,r2,i,j,rfl,rfl,rfl⟩:=c0a h;obtain⟨R1,l,p⟩:=k0w a i;obtain⟨R2,e,q⟩:=k0w b j;refine⟨R1++R2,?_,fun c g=>?_⟩;rw[show(Ty.pair a b).shnx (f,d)=(a.shnx f,b.shnx d)from m0f _ _ _ (f,d)];rw[←Ty.cells_shn a]at e;exact f0b l e;simp only[pA,mA]at g⊢;rcases g with g|g;exact(p c g).imp .inl .inl;exact(q c g).imp .inr .inr
theorem Ty.le_cells:∀(a b:Ty),a.le b=true→a.cells=b.cells
 |.nl a,.list o b,_=>rfl
 |.pair a b,.pair a' b',h=>by
  simp[Ty.le]at h;simp only[Ty.cells,Ty.le_cells a a' h.1,Ty.le_cells b b' h.2]
 |.nl a,.nl b,_=>rfl
 |.nl a,.int _,h|.nl a,.bool,h|.nl a,.str,h|.nl a,.unit,h|.nl a,.pair _ _,h|.nl a,.arr _ _,h=>by simp[Ty.le]at h
 |.pair a b,.int _,h|.pair a b,.bool,h|.pair a b,.str,h|.pair a b,.unit,h|.pair a b,.arr _ _,h|.pair a b,.list _ _,h|.pair a b,.nl _,h=>by simp[Ty.le]at h
 |.int _,b,h|.bool,b,h|.str,b,h|.unit,b,h|.list _ _,b,h|.arr _ _,b,h=>by
  simp only[Ty.le,dT]at h;rw[h]
theorem s0c{m:Mem}:∀(a b:Ty)(h:a.le b=true){rd:Nat→Option Value}{x R},dec m a rd=some (x,[],R)→dec m b rd=some (cast (Ty.le_den a b h) x,[],R)
 |.nl a,.list o b,h,rd,x,R,hd=>by
  obtain⟨hv,rfl,-,rfl⟩:=m0g hd;have e:a.den=b.den:=by
   simp[Ty.le]at h
   grind[Ty.den_sh]
  refine Eq.trans ?_ (congrArg (fun z:List b.den=>some (z,([]:a0z),([]:List Nat))) (n0z e _).symm)
  grind[a0x,dec]
 |.pair a b,.pair a' b',h,rd,x,R,hd=>by
  have g:=h;simp[Ty.le]at g;obtain⟨j,o1,i,l,o2,r2,c,d,rfl,e,rfl⟩:=c0a hd;obtain⟨rfl,rfl⟩:=a16.1 e.symm;have k:=s0c a a' g.1 c;have f:=s0c b b' g.2 d;rw[Ty.le_cells a a' g.1]at f;exact(f0b k f).trans (congrArg (fun z:a'.den×b'.den=>some (z,([]:a0z),i++r2)) (m0f (Ty.le_den a a' g.1) (Ty.le_den b b' g.2) _ (j,l)).symm)
 |.nl a,.nl b,h,rd,x,R,hd=>by
  simp only[Ty.le,dT]at h
  grind
 |.nl a,.int _,h,_,_,_,_|.nl a,.bool,h,_,_,_,_|.nl a,.str,h,_,_,_,_|.nl a,.unit,h,_,_,_,_|.nl a,.pair _ _,h,_,_,_,_|.nl a,.arr _ _,h,_,_,_,_=>by simp[Ty.le]at h
 |.pair a b,.int _,h,_,_,_,_|.pair a b,.bool,h,_,_,_,_|.pair a b,.str,h,_,_,_,_|.pair a b,.unit,h,_,_,_,_|.pair a b,.arr _ _,h,_,_,_,_|.pair a b,.list _ _,h,_,_,_,_|.pair a b,.nl _,h,_,_,_,_=>by simp[Ty.le]at h
 |.int _,b,h,rd,x,R,hd|.bool,b,h,rd,x,R,hd|.str,b,h,rd,x,R,hd|.unit,b,h,rd,x,R,hd|.list _ _,b,h,rd,x,R,hd|.arr _ _,b,h,rd,x,R,hd=>by
  simp only[Ty.le,dT]at h;cases h;exact hd
theorem u0g{a:Option Addr}{l off len:Nat}{x:List e.den}{O R}(h:dec m (.list true e) ((Src.one (.slice a l c)).rd m)=some (x,O,R))(B:off+len≤l){a':Option Addr}(t:∀A,a'=some A→c=off∨A.spot=none)(s:c=off∨a'=a.map fun A=>A.add (off*e.cells)):
  ∃p,dec m (.list false e.sh) ((Src.one (.slice a' len (c-off))).rd m)=some (Ty.shx (.list false e) ((x.drop off).take len),[],p)∧∀b∈p,b∈O.map (·.1)∨b∈R:=by
 rw[Ty.shx_list];rcases b0r h with⟨hv,rfl,rfl,rfl⟩|⟨A,n,Q,os,hv,z,V,u,W⟩
 ·simp[Src.rd]at hv;obtain⟨rfl,rfl,rfl⟩:=hv;obtain rfl:off=0:=by omega
  obtain rfl:len=0:=by omega
  refine⟨[],?_,by simp⟩;show a0x m false e.sh.cells (dec m e.sh) (some (.slice a' 0 0))=_;cases a' with
  |none=>rfl
  |some A=>rfl
 ·simp[Src.rd]at hv;obtain⟨rfl,rfl,rfl⟩:=hv;have J:=a0v l 0 u
  by_cases hl0:len=0
  ·subst hl0;refine⟨[],?_,by simp⟩;show a0x m false e.sh.cells (dec m e.sh) (some (.slice a' 0 (c-off)))=_;cases a' with
   |none=>
    rcases s with g|g;simp[a0x,g];rfl;simp_all
   |some A'=>
    have I:c-off=0∨A'.spot=none:=(t A' rfl).imp (fun h=>by omega) id;simp[a0x,I,a0d];rfl
  ·have z:A.spot=none:=z.resolve_left (by omega);have d:a'=some (A.add (off*e.cells)):=by
    grind
   have q:(A.add (off*e.cells)).block=A.block∧(A.add (off*e.cells)).off=A.off+off*e.cells∧(A.add (off*e.cells)).spot=none:=by
    grind[Addr.add]
   have D:l=off+(len+(l-off-len)):=by omega
   rw[D]at u;obtain⟨K,v,L,P,S,E,rfl,rfl⟩:=d0l off (len+(l-off-len)) 0 u;obtain⟨M,w,N,y,F,T,rfl,rfl⟩:=d0l len (l-off-len) (0+off) E;obtain⟨p,G,U⟩:=i0m (f':=fun i=>dec m e.sh ((Src.at A.block (A.off+i*e.cells)).rd m)) (c:=e.shx) len (0+off) F (fun j x o r _ _ h=>e0k e h);have f:∀(k i:Nat),a0d (fun i=>dec m e.sh fun j=>m A.block (A.off+off*e.cells+(i*e.cells+j))) k i=a0d (fun i=>dec m e.sh ((Src.at A.block (A.off+i*e.cells)).rd m)) k (off+i):=by
    intro k
    induction k with
    |zero=>intro i;rfl
    |succ k ih=>
     intro i;simp[a0d];rw[ih (i+1)]
     have:(fun j=>m A.block (A.off+off*e.cells+(i*e.cells+j)))=(Src.at A.block (A.off+(off+i)*e.cells)).rd m:=by
      grind[Src.rd]
     grind
   have C:∀b,b∈p→b∈O.map (·.1)∨b∈v++(w++y):=fun b H=>by
    grind
   refine⟨A.block::p,?_,fun b H=>?_⟩;show a0x m false e.sh.cells (dec m e.sh) (some (.slice a' len (c-off)))=_;subst d;simp only[a0x,q,Ty.cells_sh];rw[if_pos ⟨.inr trivial,by omega⟩,f,show off+0=0+off from by omega,G];simp[hl0];rfl
   grind
theorem Rel.gone{B Γ N tm w σ}(h:Rel B Γ N tm w σ)(D:∀p d,Γ.pd≠some (n,p,d)){f:AV→AV}(hf:∀a v,a0e (a0a w σ.ov) σ.g Γ.rt (Shr B w σ) a v→a0e (a0a w σ.ov) σ.g (fun j=>bif j==n then none else Γ.rt j)
   (Shr B w ⟨σ.g,fun m=>if m=n then[]else σ.ow m,σ.ov⟩) (f a) v):
  Rel B ((Γ.mapv f).setRt n none) N tm w ⟨σ.g,fun m=>if m=n then[]else σ.ow m,σ.ov⟩:=by
 have k:∀m c,c∈(if m=n then[]else σ.ow m).map (·.1)→c∈(σ.ow m).map (·.1):=fun m c q=>by
  simp_all
 have E:∀c,Shr B w σ c→Shr B w ⟨σ.g,fun m=>if m=n then[]else σ.ow m,σ.ov⟩ c:=fun c ⟨t,u,F⟩=>
  ⟨t,u,fun⟨m,o⟩=>F ⟨m,k m c o⟩⟩
 refine⟨fun m r O=>?_,fun m o=>?_,fun m=>?_,fun m m' z c q=>?_,fun m p hp=>?_,fun i hi=>(h.slots i hi).mapv hf,?_,h.size,h.frame,fun c ⟨m,o⟩=>h.mine c ⟨m,k m c o⟩,fun i b K A=>h.pins i b K fun e=>A (by simp_all[AE.setRt,AE.mapv]),h.still⟩;have o:m≠n:=by rintro rfl;simp[AE.setRt]at O
 have y:(m==n)=false:=by simp_all
 have l:Γ.rt m=some r:=by simp_all[AE.setRt,AE.mapv]
 obtain⟨I,R,t,u,F⟩:=(h.roots m r l).rd;refine⟨I,R,t,fun c q=>E c (u c q),?_⟩;simp_all;show(if m=n then[]else σ.ow m)=[]
 split;rfl;rename_i L;have y:(m==n)=false:=by simp_all
 exact h.norm m (by simp_all[AE.setRt,AE.mapv]);show((if m=n then[]else σ.ow m).map (·.1)).Nodup
 split
 simp
 exact h.nodup m;exact fun x=>h.disj m m' z c (k m c q) (k m' c x);have hp:p∈(if m=n then[]else σ.ow m):=hp
 split at hp
 simp_all;exact h.live m p hp;refine h.pend.mono fun H p' J P S Q T G l C=>?_
 have M:H≠n:=fun e=>D p' J (by simp_all);have s:(H==n)=false:=by simp_all
 exact⟨P,by simpa[AE.setRt,s,AE.mapv]using l,C⟩
theorem a0e.other{rt:Nat→Option Root}{a:AV}(h:a0e m g rt Sh a v)(b:∀c,Sh c→Sh' c)(f:∀k,k≠n→rt' k=rt k)(j:∀k,k≠n→g' k=g k)(e:∀k q,(a=.ptr k q∨a=.sref k q∨∃o l,a=.swin k q o l)→k≠n):a0e m g' rt' Sh' a v:=
 h.frame (fun _ _ _=>rfl) b fun k q r t s i u p=>⟨r,by grind,by grind,fun _ _ d=>d⟩
theorem Rel.shr_gone{B w}{σ:Gh}{n:Nat}(c:Nat)(h:Shr B w σ c):Shr B w ⟨σ.g,fun m=>if m=n then[]else σ.ow m,σ.ov⟩ c:=
 ⟨h.1,h.2.1,fun⟨m,f⟩=>h.2.2 ⟨m,by
  simp_all⟩⟩
theorem n0j{Γ:AE}{n k:Nat}(h:k≠n)(x:Option Root):(bif k==n then x else Γ.rt k)=Γ.rt k:=by
 grind
theorem Rel.drop{B Γ N tm w σ}(h:Rel B Γ N tm w σ){n:Nat}(b:∀p d,Γ.pd≠some (n,p,d)):
  Rel B ((Γ.mapv (AV.drop n)).setRt n none) N tm w ⟨σ.g,fun m=>if m=n then[]else σ.ow m,σ.ov⟩:=by
 refine h.gone b fun a v e=>?_
 by_cases hd:AV.drop n a=.dead
 rw[hd];trivial
 ·have f:AV.drop n a=a∧∀k q,(a=.ptr k q∨a=.sref k q∨∃o l,a=.swin k q o l)→k≠n:=by
   cases a<;>simp only[AV.drop]at hd⊢<;>try (refine⟨trivial,?_⟩;rintro k q (h|h|⟨o,l,h⟩)<;>cases h)
   all_goals simp_all
  rw[f.1];exact e.other (fun c i=>Rel.shr_gone c i) (fun k f=>n0j f _) (fun _ _=>rfl) f.2
theorem Rel.frzBox{B Γ N tm w σ}(h:Rel B Γ N tm w σ)(X:Γ.rt n=some r)(h0:r.bx=true)(S:Γ.pd=none):
  ∃b,σ.g n=.at b 0∧Rel B ((Γ.mapv (AV.deeps [n] [])).setRt n (some ⟨true,r.t.shn,Ty.shnx r.t r.x⟩)) N tm w ⟨σ.g,fun m=>if m=n then[(b,r.t.cells)]else σ.ow m,σ.ov⟩:=by
 obtain⟨O',R,h1,h2,h6⟩:=(h.roots n r X).rd;rcases h6 with⟨-,b,W,ho⟩|⟨g,-⟩
 ·refine⟨b,W,?_⟩;have u:∀m c,c∈(if m=n then[(b,r.t.cells)]else σ.ow m).map (·.1)→c∈(σ.ow m).map (·.1):=fun m c F=>by
   grind
  have K:∀c,Shr B w σ c→Shr B w ⟨σ.g,fun m=>if m=n then[(b,r.t.cells)]else σ.ow m,σ.ov⟩ c:=fun c ⟨L,M,V⟩=>
   ⟨L,M,fun⟨m,s⟩=>V ⟨m,u m c s⟩⟩
  have J:∀k,k≠n→((Γ.mapv (AV.deeps [n] [])).setRt n (some ⟨true,r.t.shn,Ty.shnx r.t r.x⟩)).rt k=Γ.rt k:=fun k G=>n0j G _;have I:((Γ.mapv (AV.deeps [n] [])).setRt n (some ⟨true,r.t.shn,Ty.shnx r.t r.x⟩)).rt n=some ⟨true,r.t.shn,Ty.shnx r.t r.x⟩:=by simp[AE.setRt]
  obtain⟨R2,k1,k2⟩:=k0w _ h1;refine⟨fun m Y A=>?_,fun m s=>?_,fun m=>?_,fun m m' P c F=>?_,fun m p hp=>?_,fun i hi=>(h.slots i hi).mapv fun a v z=>?_,?_,h.size,h.frame,fun c ⟨m,s⟩=>h.mine c ⟨m,u m c s⟩,fun i C O h4=>h.pins i C O fun e=>?_,h.still⟩
  by_cases s:m=n
  subst s;rw[I]at A;simp at A;subst A;refine⟨[],R2,k1,fun c F=>?_,.inl ⟨rfl,b,W,by simp[Ty.cells_shn]⟩⟩;rcases k2 c F with g|g;have D:c∈(σ.ow m).map (·.1):=by simp_all
  have E:a0r σ c:=⟨m,D⟩;refine⟨h.lt E,.inr (h.mine c E),fun⟨m',d⟩=>?_⟩;have d:c∈(if m'=m then[(b,r.t.cells)]else σ.ow m').map (·.1):=d
  split at d
  simp at d;have h3:=h.nodup m;simp_all;rename_i Q;exact h.disj m' m Q c d D;simp_all;rw[J m s]at A;obtain⟨O2,Z,L,M,V⟩:=(h.roots m Y A).rd;refine⟨O2,Z,L,fun c F=>K c (M c F),?_⟩;simp_all;show(if m=n then[(b,r.t.cells)]else σ.ow m)=[]
  have d:m≠n:=by grind
  rw[if_neg d];rw[J m d]at s;exact h.norm m s;show((if m=n then[(b,r.t.cells)]else σ.ow m).map (·.1)).Nodup
  split
  simp
  exact h.nodup m;exact fun D=>h.disj m m' P c (u m c F) (u m' c D);have H:p∈(if m=n then[(b,r.t.cells)]else σ.ow m):=hp
  split at H
  rename_i e;subst e;refine h.live m p ?_
  simp_all;exact h.live m p H
  ·have f:∀C,(∀k q,(C=.ptr k q∨C=.sref k q∨∃o l,C=.swin k q o l)→k≠n)→a0e (a0a w σ.ov) σ.g Γ.rt (Shr B w σ) C v→
     a0e (a0a w σ.ov) σ.g (fun j=>bif j==n then some ⟨true,r.t.shn,Ty.shnx r.t r.x⟩else Γ.rt j) (Shr B w ⟨σ.g,fun m=>if m=n then[(b,r.t.cells)]else σ.ow m,σ.ov⟩) C v:=fun C G O=>
    O.other K (fun k G=>n0j G _) (fun _ _=>rfl) G
   have b0j:∀m:Nat,[n].contains m=(m==n):=fun m=>by grind
   cases a with
   |dead=>trivial
   |val t x=>exact f _ (by rintro k q (h|h|⟨o,l,h⟩)<;>cases h) z
   |skp=>exact z
   |nils=>exact z
   |empt=>exact z
   |nilp=>exact z
   |glob g=>exact z
   |vptr t x=>exact f (.vptr t x) (by simp) z
   |ptr m q=>
    simp only[AV.deeps,b0j];split
    ·rename_i s;have s:m=n:=by simp_all
     subst s;cases q with
     |nil=>
      obtain⟨Y,t',C,o',T,U,p3⟩:=z;rw[X]at T;simp at T;subst T;simp[a0t]at U;obtain⟨-,U⟩:=U;exact⟨⟨true,r.t.shn,Ty.shnx r.t r.x⟩,r.t.shn,C,o',I,by show some (r.t.shn,σ.g m)=_;grind,p3⟩
     |cons=>trivial
    rename_i s;exact f _ (by simp_all) z
   |sref m q=>
    simp only[AV.deeps,b0j];split;cases q<;>exact True.intro;rename_i s;exact f _ (by simp_all) z
   |swin m q o l=>
    simp only[AV.deeps,b0j];split;trivial;rename_i s;exact f _ (by simp_all) z
  ·have hp:=h.pend;show f0y _ _ _ Γ.pd σ.ov;rw[S]at hp⊢;cases hov:σ.ov with
   |none=>trivial
   |some y=>rw[hov]at hp;exact hp.elim
  grind
 simp_all
theorem Rel.frz{B Γ N tm w σ}(h:Rel B Γ N tm w σ){n:Nat}{e:Ty}{l:List e.den}(Q:Γ.rt n=some ⟨false,.list true e,l⟩)(P:∀p d,Γ.pd≠some (n,p,d)):
  Rel B ((Γ.mapv (AV.frz n e l)).setRt n none) N tm w ⟨σ.g,fun m=>if m=n then[]else σ.ow m,σ.ov⟩:=by
 obtain⟨U,R,E,h2,h3,S,h5,X⟩:=h.sep Q;rcases X with⟨g,-⟩|⟨-,⟨T,G⟩,-,ho⟩
 grind
 refine h.gone P fun a v i=>?_
 have z:∀c,c∈U.map (·.1)∨c∈R→Shr B w ⟨σ.g,fun m=>if m=n then[]else σ.ow m,σ.ov⟩ c:=by
  rintro c (u|u)
  have y:a0r σ c:=⟨n,S c u⟩;refine⟨h.lt y,.inr (h.mine c y),fun⟨m,F⟩=>?_⟩;have F:c∈(if m=n then[]else σ.ow m).map (·.1):=F
  split at F
  simp_all;rename_i O;exact h.disj m n O c F (S c u);simp_all[Rel.shr_gone]
 have f:∀b,(∀k q,(b=.ptr k q∨b=.sref k q∨∃o l,b=.swin k q o l)→k≠n)→a0e (a0a w σ.ov) σ.g Γ.rt (Shr B w σ) b v→
   a0e (a0a w σ.ov) σ.g (fun j=>bif j==n then none else Γ.rt j) (Shr B w ⟨σ.g,fun m=>if m=n then[]else σ.ow m,σ.ov⟩) b v:=fun b M Y=>
  Y.other (fun c u=>Rel.shr_gone c u) (fun k M=>n0j M _) (fun _ _=>rfl) M
 cases a with
 |dead=>trivial
 |val t x=>exact f _ (by rintro k q (h|h|⟨o,l,h⟩)<;>cases h) i
 |skp=>exact i
 |nils=>exact i
 |empt=>exact i
 |nilp=>exact i
 |glob g=>exact i
 |vptr t x=>exact f (.vptr t x) (by simp) i
 |ptr m q=>
  simp only[AV.frz];split;trivial;simp_all
 |sref m q=>
  simp only[AV.frz];split
  ·rename_i F;obtain rfl:m=n:=by simp_all
   cases q with
   |cons=>trivial
   |nil=>
    obtain⟨r,W,s,C,H,D⟩:=i;rw[Q]at C;simp at C;subst C;simp only[loc,a0t,sj,pJ]at H;obtain⟨-,rfl⟩:=H;rw[G]at E D;simp[Src.rd]at D;subst D;obtain⟨I,J,K⟩:=e0k _ E;refine⟨by simp[Ty.isAgg],fun _=>?_,I,?_,fun c u=>z c (K c u)⟩;rcases b0r E with⟨hv,-⟩|⟨A,nn,V,os,hv,-⟩<;>simp only[Src.rd,if_true,sj]at hv<;>rw[hv]<;>rfl
    have:b0j T=true:=by
     rcases b0r E with⟨hv,-⟩|⟨A,nn,V,os,hv,-⟩<;>simp only[Src.rd,if_true,sj]at hv<;>rw[hv]<;>rfl
    refine a0j _ J (fun j Z=>?_) (fun _ _ _=>rfl);have L:j=0:=by simp_all[Ty.cells]
    subst L;cases T<;>simp[b0j]at this<;>simp[Value.cells,Src.rd]
  simp_all
 |swin m q o k=>
  simp only[AV.frz];split
  ·rename_i F;obtain rfl:m=n:=by simp_all
   cases q with
   |cons=>trivial
   |nil=>
    obtain⟨r,W,s,a,l',c,C,H,D,k4,a',k5,k6,k7⟩:=i;rw[Q]at C;simp at C;subst C;simp[a0t]at H;obtain⟨rfl,rfl⟩:=H;rw[G]at E D;simp[Src.rd]at D;subst D k5;obtain⟨I,J,K⟩:=u0g E k4 k6 k7;refine⟨by simp[Ty.isAgg],fun _=>rfl,I,?_,fun c u=>z c (K c u)⟩;refine a0j _ J (fun j Z=>?_) (fun _ _ _=>rfl);simp_all[Ty.cells,Value.cells,Src.rd]
  simp_all
theorem Rel.room{B Γ N tm w σ}(h:Rel B Γ N tm w σ){n r p t b o}(l:Γ.rt n=some r)(j:loc (a0a w σ.ov) r.t (σ.g n) p=some (t,.at b o)):a0w w b (o+t.cells):=by
 obtain⟨m,R,e,s,u,x,y,i⟩:=h.sep l;rcases h0r p r.t _ e j with⟨so,f,a,q⟩|⟨k,f,a⟩;rcases i with⟨-,d,c,z⟩|⟨-,⟨v,c⟩,-⟩;rw[c]at f;simp at f;obtain⟨rfl,rfl⟩:=f;exact(h.live n (d,r.t.cells) (by simp_all)).mono (by omega);simp_all;refine(h.live n (b,k) ?_).mono a
 grind
theorem a0w.cell(h:a0w w b k)(d:o<k):(w.cell? ⟨b,o,none⟩).isSome=true∧w.frozen? ⟨b,o,none⟩=false:=by
 obtain⟨c,e,lo,hi,g,f,a⟩:=h
 grind[World.cell?,World.frozen?]
theorem f0k(w:World)(a:Addr)(v:Value)(b:Nat):(w.setCell a v).heap[b]?=if b=a.block then(w.heap[b]?).map (fun
   |.cells c elem frozen=>.cells (if a.spot.isSome then c else c.setIfInBounds a.off v) elem frozen
   |o=>o)else w.heap[b]?:=by
 simp[World.setCell,Array.getElem?_modify]
 grind
theorem a0w.setCell(h:a0w w b k)(a:Addr)(v:Value):a0w (w.setCell a v) b k:=by
 obtain⟨c,e,lo,hi,g,f,d⟩:=h;unfold a0w;rw[f0k]
 grind
theorem Rel.rename{B Γ N tm w σ}(h:Rel B Γ N tm w σ){r:Nat}{root:Root}(J:Γ.rt r=some root)(hd:Γ.rt d=none)(O:∀i b,d=pinned+i→B.pin i≠some b)(Z:∀p k,Γ.pd≠some (r,p,k)):
  Rel B (((Γ.mapv (AV.ren r d)).setRt r none).setRt d (some root)) N tm w ⟨fun m=>if m=d then σ.g r else σ.g m,fun m=>if m=d then σ.ow r else if m=r then[]else σ.ow m,σ.ov⟩:=by
 have h5:r≠d:=by grind
 have X:σ.ow d=[]:=h.norm d hd
 let f:Nat→a0z:=fun m=>if m=d then σ.ow r else if m=r then[]else σ.ow m
 have I:∀c,a0r ⟨fun m=>if m=d then σ.g r else σ.g m,f,σ.ov⟩ c↔a0r σ c:=by
  intro c;constructor
  rintro⟨m,u⟩
  have u:c∈(f m).map (·.1):=u;simp only[f]at u
  split at u
  exact⟨r,u⟩
  split at u
  simp_all;exact⟨m,u⟩
  rintro⟨m,u⟩
  by_cases e:m=r
  subst e;exact⟨d,by grind⟩
  by_cases e':m=d
  simp_all;refine⟨m,?_⟩
  grind
 have E:∀c,Shr B w σ c↔Shr B w ⟨fun m=>if m=d then σ.g r else σ.g m,f,σ.ov⟩ c:=fun c=>by unfold Shr;grind
 have D:∀m,(((Γ.mapv (AV.ren r d)).setRt r none).setRt d (some root)).rt m=if m=d then some root else if m=r then none else Γ.rt m:=by
  intro m;simp only[AE.setRt,AE.mapv]
  grind
 refine⟨fun m rm u=>?_,fun m u=>?_,fun m=>?_,fun m m' H c y j=>?_,fun m p hp=>?_,fun i hi=>?_,?_,h.size,h.frame,fun c y=>h.mine c ((I c).1 y),fun i b S A=>?_,h.still⟩;rw[D]at u
 by_cases e:m=d
 subst e;simp at u;subst u;obtain⟨K,R,U,M,V⟩:=(h.roots r root J).rd;exact⟨K,R,by simp_all,fun c y=>(E c).1 (M c y),by simp_all⟩;rw[if_neg e]at u
 by_cases e':m=r
 simp_all;rw[if_neg e']at u;obtain⟨K,R,U,M,V⟩:=(h.roots m rm u).rd;exact⟨K,R,by simp_all,fun c y=>(E c).1 (M c y),by simp_all⟩;show(if m=d then σ.ow r else if m=r then[]else σ.ow m)=[]
 rw[D]at u
 by_cases e:m=d
 simp_all;rw[if_neg e]at u⊢
 by_cases e':m=r
 grind
 rw[if_neg e']at u⊢;exact h.norm m u;show((f m).map (·.1)).Nodup;simp[f];split;exact h.nodup r;split
 simp
 exact h.nodup m;have y:c∈(f m).map (·.1):=y;have j:c∈(f m').map (·.1):=j;simp only[f]at y j
 by_cases e:m=d
 subst e;rw[if_pos rfl]at y;rw[if_neg (Ne.symm H)]at j
 split at j
 simp_all;rename_i L;exact h.disj r m' (Ne.symm L) c y j;rw[if_neg e]at y
 split at y
 simp_all;rename_i L
 split at j
 exact h.disj m r L c y j
 split at j
 simp_all;exact h.disj m m' H c y j;have hp:p∈f m:=hp;simp[f]at hp
 split at hp
 exact h.live r p hp
 split at hp
 simp_all;exact h.live m p hp
 ·refine(h.slots i hi).mapv fun a v C=>?_
  have key:∀k q (b:AV),(b=.ptr k q∨b=.sref k q∨∃o l,b=.swin k q o l)→True:=fun _ _ _ _=>trivial;have other:(∀k q,(a=.ptr k q∨a=.sref k q∨∃o l,a=.swin k q o l)→k≠r)→a0e (a0a w σ.ov) (fun m=>if m=d then σ.g r else σ.g m) (((Γ.mapv (AV.ren r d)).setRt r none).setRt d (some root)).rt
    (Shr B w ⟨fun m=>if m=d then σ.g r else σ.g m,f,σ.ov⟩) a v:=fun A=>
   C.frame (fun _ _ _=>rfl) (fun c y=>(E c).1 y) fun k q P t s y hk hl=>by
    grind
  cases a with
  |ptr k q=>
   simp only[AV.ren];split;rename_i e;obtain rfl:k=r:=by simp_all
   obtain⟨P,t,b,o,z,Q,F⟩:=C;rw[J]at z;simp at z;subst z;exact⟨root,t,b,o,by simp_all,by simp_all,F⟩
   grind
  |sref k q=>
   simp only[AV.ren];split;rename_i e;obtain rfl:k=r:=by simp_all
   obtain⟨P,e,s,z,Q,F⟩:=C;rw[J]at z;simp at z;subst z;exact⟨root,e,s,by simp_all,by simp_all,F⟩
   grind
  |swin k q o l=>
   simp only[AV.ren];split;rename_i e;obtain rfl:k=r:=by simp_all
   obtain⟨P,e,s,a,l',c,z,Q,F,W⟩:=C;rw[J]at z;simp at z;subst z;exact⟨root,e,s,a,l',c,by simp_all,by simp_all,F,W⟩
   grind
  |dead=>trivial
  |skp=>exact C
  |nils=>exact C
  |empt=>exact C
  |nilp=>exact C
  |glob g=>exact C
  |val t x=>exact other (by simp)
  |vptr t x=>exact other (by simp)
 refine h.pend.mono fun n p k r' e b o T h0 Y=>?_
 grind
 rw[D]at A;have G:pinned+i≠d:=fun e=>O i b e.symm S;rw[if_neg G]at A;show(if pinned+i=d then σ.g r else σ.g (pinned+i))=_
 rw[if_neg G]
 by_cases e':pinned+i=r
 simp_all;rw[if_neg e']at A;exact h.pins i b S A
theorem Rel.ext{B Γ N tm w σ}(h:Rel B Γ N tm w σ)(g:∀c,c<w.heap.size→w'.heap[c]?=w.heap[c]?)(k:w.heap.size≤w'.heap.size)(hio:b0x w'=b0x w:=by first|rfl|assumption):Rel B Γ N tm w' σ:=by
 refine h.mem (fun c j f=>b0g _ (g c ?_) j) (fun n p hp=>?_) k (fun b a l=>?_);rcases f with f|f;exact h.lt f;exact f.1;obtain⟨c,e,lo,hi,m,d,i⟩:=h.live n p hp;exact⟨c,e,lo,hi,by grind,d,i⟩;rw[g b (a06 a h.size)];exact h.frame b a l
theorem Rel.add{B Γ N tm w σ}(h:Rel B Γ N tm w σ){n:Nat}(hn:Γ.rt n=none)(h5:n<pinned){w':World}(f:∀c,c<w.heap.size→w'.heap[c]?=w.heap[c]?)(P:w.heap.size≤w'.heap.size)
  {r:Root}{s:Src}{O:a0z}(U:∀c∈O.map (·.1),w.heap.size≤c)(h4:(O.map (·.1)).Nodup)(h3:∀p∈O,a0w w' p.1 p.2)(Z:RootOk (a0a w' σ.ov) (Shr B w σ) r s O)(hio:b0x w'=b0x w:=by first|rfl|assumption):
  Rel B (Γ.setRt n (some r)) N tm w' ⟨fun m=>if m=n then s else σ.g m,fun m=>if m=n then O else σ.ow m,σ.ov⟩:=by
 have J:=h.ext f P
 let d:Nat→a0z:=fun m=>if m=n then O else σ.ow m
 have A:∀c,a0r ⟨fun m=>if m=n then s else σ.g m,d,σ.ov⟩ c→a0r σ c∨c∈O.map (·.1):=by
  rintro c ⟨m,z⟩
  have z:c∈(d m).map (·.1):=z;simp only[d]at z
  split at z
  simp_all;exact .inl ⟨m,z⟩
 have M:∀c,Shr B w σ c→Shr B w' ⟨fun m=>if m=n then s else σ.g m,d,σ.ov⟩ c:=fun c ⟨G,I,g3⟩=>⟨a06 G P,I,fun g4=>by
  grind⟩
 have F:∀c j,Shr B w σ c→a0a w' σ.ov c j=a0a w σ.ov c j:=fun c j l=>b0g _ (f c l.1) j;have E:∀m,(Γ.setRt n (some r)).rt m=if m=n then some r else Γ.rt m:=by
  simp_all[AE.setRt]
 refine⟨fun m T z=>?_,fun m z=>?_,fun m=>?_,fun m m' L c l y=>?_,fun m p hp=>?_,fun i hi=>?_,?_,J.size,J.frame,fun c l=>?_,fun i b H D=>?_,J.still⟩
 ·rw[E]at z
  by_cases e:m=n
  subst e;simp at z;subst z;obtain⟨V,R,G,I,g3⟩:=Z.rd;exact⟨V,R,by simp_all,fun c l=>M c (I c l),by simp_all⟩
  ·rw[if_neg e]at z;obtain⟨V,R,G,I,g3⟩:=(J.roots m T z).rd;obtain⟨W,R1,k1,k2,-⟩:=(h.roots m T z).rd;refine⟨V,R,by simp_all,fun c l=>?_,by simp_all⟩
   have:=I c l
   refine⟨this.1,this.2.1,fun g4=>?_⟩;rcases A c g4 with g|g;exact this.2.2 g
   ·
    have k3:dec (a0a w' σ.ov) T.t ((σ.g m).rd (a0a w' σ.ov))=some (T.x,W,R1):=by
     obtain⟨O2,R2,l1,l2,l3,Q,S,l6⟩:=h.sep z;rw[k1]at l1;simp at l1;obtain⟨rfl,rfl⟩:=l1;refine a0j T.t k1 (fun j _=>?_) (fun b j H=>?_)
     ·cases es:σ.g m with
      |one v=>rfl
      |_=>rename_i b o;exact b0g _ (f b (h.lt ⟨m,S _ _ es⟩)) _
     rcases H with H|H;exact b0g _ (f b (h.lt ⟨m,Q b H⟩)) j;simp_all
    rw[k3]at G;simp at G;obtain⟨rfl,rfl⟩:=G;exact absurd (U c g) (by have:=(k2 c l).1;omega)
 show(if m=n then O else σ.ow m)=[]
 rw[E]at z
 by_cases e:m=n
 simp_all;rw[if_neg e]at z⊢;exact h.norm m z;show((d m).map (·.1)).Nodup;simp[d];split;omega;exact h.nodup m;have l:c∈(d m).map (·.1):=l;have y:c∈(d m').map (·.1):=y;simp only[d]at l y
 split at l
 rename_i e;rw[if_neg (fun e'=>L (e.trans e'.symm))]at y;exact absurd (U c l) (by have:=h.lt ⟨m',y⟩;omega)
 split at y
 exact absurd (U c y) (by have:=h.lt ⟨m,l⟩;omega);exact h.disj m m' L c l y;have hp:p∈d m:=hp;simp[d]at hp
 split at hp
 simp_all;exact J.live m p hp
 ·refine(h.slots i hi).frame fun a v ha=>ha.frame F M fun k q rk t s' _ hk hl=>?_
  have X:k≠n:=by grind
  obtain⟨W,R1,l1,l2,l3,Q,S,l6⟩:=h.sep hk;have C:∀j,(σ.g k).rd (a0a w' σ.ov) j=(σ.g k).rd (a0a w σ.ov) j:=fun j=>by
   cases es:σ.g k with
   |one v=>rfl
   |_=>rename_i b o;exact b0g _ (f b (h.lt ⟨k,S _ _ es⟩)) _
  refine⟨rk,by simp_all,?_,fun u _ hu=>?_⟩;show loc (a0a w' σ.ov) rk.t (if k=n then s else σ.g k) q=_
  rw[if_neg X];exact c0e q rk.t _ l1 hl (fun j _=>C j) (fun c j l=>b0g _ (f c (h.lt ⟨k,Q c l⟩)) j)
  ·cases s' with
   |one v=>exact hu
   |_=>
    rename_i b o;rw[←hu];exact b0g _ (f b (h.lt ⟨k,h.place hk hl⟩)) _
 ·refine h.pend.mono fun m p k r' e b o h2 h1 h0=>?_
  have Y:m≠n:=by grind
  obtain⟨W,R1,l1,l2,l3,Q,S,l6⟩:=h.sep h1;refine⟨r',by simp_all,?_⟩;show loc (a0a w' σ.ov) r'.t (if m=n then s else σ.g m) p=_
  rw[if_neg Y];refine c0e p r'.t _ l1 h0 (fun j _=>?_) (fun c j l=>b0g _ (f c (h.lt ⟨m,Q c l⟩)) j);cases es:σ.g m with
  |one v=>rfl
  |_=>rename_i b o;exact b0g _ (f b (h.lt ⟨m,S _ _ es⟩)) _
 rcases A c l with g|g;exact h.mine c g;exact .inr (a05 h.size (U c g));rw[E]at D;have K:pinned+i≠n:=by omega
 rw[if_neg K]at D;show(if pinned+i=n then s else σ.g (pinned+i))=_
 rw[if_neg K];exact h.pins i b H D
theorem Rel.done{B Γ N tm w σ}(h:Rel B Γ N tm w σ){n p d b o v}(F:Γ.pd=some (n,p,d))(l:σ.ov=some (b,o,v)):
  Rel B { Γ with pd:=none } N tm (w.setCell ⟨b,o,none⟩ v) ⟨σ.g,σ.ow,none⟩:=by
 have hp:=h.pend;rw[F,l]at hp;obtain⟨r,e,G,y⟩:=hp;rw[←l]at y;have x:=h.room G y;have z:a0a (w.setCell ⟨b,o,none⟩ v) none=a0a w σ.ov:=by
  funext c j;rw[l];simp[a0a]
  by_cases e:c=b∧j=o
  obtain⟨rfl,rfl⟩:=e
  have:=(x.cell (o:=j) (by simp[Ty.cells])).1
  grind[a18,World.cell?_setCell_same]
  rw[if_neg e,World.cell?_setCell_other]
  grind
 have A:a0r σ b:=⟨n,h.place G y⟩;have f:∀c,Shr B w σ c→Shr B (w.setCell ⟨b,o,none⟩ v) ⟨σ.g,σ.ow,none⟩ c:=fun c ⟨I,C,D⟩=>⟨by simp_all,C,D⟩;refine⟨fun m Q M=>?_,h.norm,h.nodup,h.disj,fun m p hp=>(h.live m p hp).setCell _ _,fun i hi=>?_,trivial,by simpa using h.size,fun c E J=>?_,h.mine,h.pins,h.still⟩;obtain⟨H,R,I,C,D⟩:=(h.roots m Q M).rd;refine⟨H,R,?_,fun c E=>f c (C c E),D⟩;simp_all;show g0l (a0a (w.setCell ⟨b,o,none⟩ v) none) σ.g Γ.rt _ (Γ.sl i) (tm i);rw[z];exact(h.slots i hi).frame fun a u K=>K.frame (fun _ _ _=>rfl) f fun k q P t s _ L y=>⟨P,L,y,fun _ _ O=>O⟩
 ·rw[f0k,if_neg];exact h.frame c E J
  ·rintro rfl
   rcases h.mine c A with g|g
   all_goals grind
theorem Rel.topG{B Γ N tm w σ}(h:Rel B Γ N tm w σ)(hr:Γ.rt n=some ⟨false,.list true e,l⟩)(g0:n<pinned)(h5:Γ.pd=none){G:Nat→Bool}(hG:G n=false){v':Value}{l':List e.den}{O2 R2}(h7:dec (a0a w' σ.ov) (.list true e) ((Src.one v').rd (a0a w' σ.ov))=some (l',O2,R2))(A:∀c j,c<w.heap.size→c∉(σ.ow n).map (·.1)→(∀m,G m=true→c∉(σ.ow m).map (·.1))→a0a w' σ.ov c j=a0a w σ.ov c j)(O:∀c∈O2.map (·.1),(c∈(σ.ow n).map (·.1)∨∃m,G m=true∧c∈(σ.ow m).map (·.1))∨w.heap.size≤c)(h9:(O2.map (·.1)).Nodup)(h3:∀p∈O2,a0w w' p.1 p.2)(J:∀c k,a0w w c k→a0r σ c→a0w w' c k)(V:w.heap.size≤w'.heap.size)(h1:∀b,b<B.size→¬ B.F b→w'.heap[b]?=B.hp b)(h0:∀c∈R2,c<w'.heap.size∧(B.S c∨B.F c∨B.size≤c)∧¬ a0r σ c∧c∉O2.map (·.1)){f:AV→AV}(hf:∀a,f a=.dead∨(f a=a∧∀k q,(a=.ptr k q∨a=.sref k q∨∃o l,a=.swin k q o l)→(k=n→a=.ptr n [])∧G k=false))(hio:b0x w'=b0x w:=by first|rfl|assumption):
  Rel B ⟨(Γ.mapv f).sl,fun m=>if m=n then some ⟨false,.list true e,l'⟩else bif G m then none else Γ.rt m,none⟩ N tm w' ⟨fun m=>if m=n then .one v' else σ.g m,fun m=>if m=n then O2 else bif G m then[]else σ.ow m,σ.ov⟩:=by
 let d:Nat→a0z:=fun m=>if m=n then O2 else bif G m then[]else σ.ow m
 have R:∀c,a0r ⟨fun m=>if m=n then .one v' else σ.g m,d,σ.ov⟩ c→a0r σ c∨c∈O2.map (·.1):=by
  rintro c ⟨m,r⟩
  have r:c∈(d m).map (·.1):=r;simp only[d]at r
  split at r
  simp_all
  ·cases x:G m with
   |true=>simp_all
   |false=>rw[x]at r;exact .inl ⟨m,r⟩
 have P:∀c,c∈O2.map (·.1)→a0r σ c∨w.heap.size≤c:=fun c u=>(O c u).imp (fun g=>g.elim (fun g=>⟨n,g⟩) fun⟨m,_,g⟩=>⟨m,g⟩) id;have T:∀c,Shr B w σ c→Shr B w' ⟨fun m=>if m=n then .one v' else σ.g m,d,σ.ov⟩ c:=fun c ⟨E,Z,g3⟩=>⟨a06 E V,Z,fun g4=>by
  grind⟩
 have U:∀c j,Shr B w σ c→a0a w' σ.ov c j=a0a w σ.ov c j:=fun c j u=>A c j u.1 (fun g=>u.2.2 ⟨n,g⟩) (fun m _ g=>u.2.2 ⟨m,g⟩);have z:∀m,m≠n→G m=false→∀c j,c∈(σ.ow m).map (·.1)→a0a w' σ.ov c j=a0a w σ.ov c j:=fun m r W c j u=>A c j (h.lt ⟨m,u⟩) (h.disj m n r c u)
  (fun k C=>h.disj m k (fun e=>by simp_all) c u)
 have g6:∀m,(if m=n then some (⟨false,.list true e,l'⟩:Root)else bif G m then none else Γ.rt m)=if m=n then some ⟨false,.list true e,l'⟩else bif G m then none else Γ.rt m:=fun _=>rfl
 have X:∀k,k≠n→G k=false→∀q L tq s,Γ.rt k=some L→loc (a0a w σ.ov) L.t (σ.g k) q=some (tq,s)→loc (a0a w' σ.ov) L.t (σ.g k) q=some (tq,s)∧s.rd (a0a w' σ.ov) 0=s.rd (a0a w σ.ov) 0:=by
  intro k C W q L tq s K hl;obtain⟨O1,R1,l1,l2,l3,l4,l5,l6⟩:=h.sep K;have I:∀j,(σ.g k).rd (a0a w' σ.ov) j=(σ.g k).rd (a0a w σ.ov) j:=fun j=>by
   cases es:σ.g k with
   |one v=>rfl
   |_=>rename_i b o;exact z k C W b _ (l5 _ _ es)
  refine⟨c0e q L.t _ l1 hl (fun j _=>I j) (fun c j u=>z k C W c j (l4 c u)),?_⟩;cases s with
  |one v=>rfl
  |_=>rename_i b o;exact z k C W b _ (h.place K hl)
 obtain⟨O0,R0,m1,m2,m3,m4,m5,m6⟩:=h.sep hr;have h2:∃v0,σ.g n=.one v0:=by
  simp_all
 obtain⟨v0,h6⟩:=h2;refine⟨fun m Y r=>?_,fun m r=>?_,fun m=>?_,fun m m' h4 c u H=>?_,fun m p hp=>?_,fun i hi=>?_,?_,a05 h.size V,h1,fun c u=>?_,fun i b hb D=>?_,hio.trans h.still⟩
 ·have r:(if m=n then some (⟨false,.list true e,l'⟩:Root)else bif G m then none else Γ.rt m)=some Y:=r
  by_cases e1:m=n
  subst e1;simp at r;subst r;refine⟨O2,R2,?_,fun c u=>?_,.inr ⟨rfl,⟨v',by simp⟩,⟨e,rfl⟩,by simp⟩⟩;show dec (a0a w' σ.ov) (.list true e) ((if m=m then Src.one v' else σ.g m).rd (a0a w' σ.ov))=_
  rw[if_pos rfl];exact h7;obtain⟨E,Z,g3,g4⟩:=h0 c u;refine⟨E,Z,fun g5=>?_⟩
  grind
  ·rw[if_neg e1]at r;cases x:G m with
   |true=>simp_all
   |false=>
    rw[x]at r;have r:Γ.rt m=some Y:=r;obtain⟨O1,R1,l1,l2,l3,l4,l5,l6⟩:=h.sep r;refine⟨O1,R1,?_,fun c u=>T c (l2 c u),by grind⟩;show dec (a0a w' σ.ov) Y.t ((if m=n then Src.one v' else σ.g m).rd (a0a w' σ.ov))=_
    rw[if_neg e1];refine a0j Y.t l1 (fun j _=>?_) (fun c j u=>?_)
    ·cases es:σ.g m with
     |one v=>rfl
     |_=>rename_i b o;exact z m e1 x b _ (l5 _ _ es)
    grind
 ·have r:(if m=n then some (⟨false,.list true e,l'⟩:Root)else bif G m then none else Γ.rt m)=none:=r
  show(if m=n then O2 else bif G m then[]else σ.ow m)=[]
  by_cases e1:m=n
  simp_all
  ·rw[if_neg e1]at r⊢;cases x:G m with
   |true=>rfl
   |false=>rw[x]at r;exact h.norm m r
 ·show((d m).map (·.1)).Nodup;simp[d];split;omega
  ·cases G m with
   |true=>simp
   |false=>exact h.nodup m
 have u:c∈(d m).map (·.1):=u;have H:c∈(d m').map (·.1):=H;have old:∀k,k≠n→c∈(d k).map (·.1)→G k=false∧c∈(σ.ow k).map (·.1):=fun k C g=>by
  grind
 have key:∀k,k≠n→c∈(d n).map (·.1)→c∈(d k).map (·.1)→False:=fun k C g M=>by
  simp only[d,if_true]at g;obtain⟨h8,M⟩:=old k C M;rcases O c g with(E|⟨m,x,E⟩)|E;exact h.disj n k (Ne.symm C) c E M;exact h.disj m k (fun e=>by grind) c E M
  have:=h.lt ⟨k,M⟩;omega
 by_cases e1:m=n
 grind
 by_cases e2:m'=n
 grind
 exact h.disj m m' h4 c (old m e1 u).2 (old m' e2 H).2
 ·have hp:p∈d m:=hp;simp[d]at hp
  split at hp
  simp_all
  ·cases x:G m with
   |true=>simp_all
   |false=>rw[x]at hp;exact J _ _ (h.live m p hp) ⟨m,a10 hp⟩
 refine(h.slots i hi).mapv fun a v ha=>?_
 rcases hf a with g|⟨g,C⟩;rw[g];trivial;rw[g]
 by_cases hz:a=.ptr n []
 subst hz;obtain⟨r',t,b,o,k1,k2,-⟩:=ha;rw[hr]at k1;simp at k1;subst k1;rw[h6]at k2;simp[loc,a0t]at k2;refine ha.frame U T fun k q L t s u K hl=>?_
 grind
 ·have:=h.pend
  rw[h5]at this;show f0y _ _ _ none σ.ov;cases hov:σ.ov with
  |none=>trivial
  |some y=>rw[hov]at this;exact this.elim
 rcases R c u with g|g;exact h.mine c g;rcases P c g with g|g;exact h.mine c g;exact .inr (a05 h.size g);have D:(if pinned+i=n then some (⟨false,.list true e,l'⟩:Root)else bif G (pinned+i)then none else Γ.rt (pinned+i))≠none:=D
 have Q:pinned+i≠n:=by omega
 rw[if_neg Q]at D;show(if pinned+i=n then Src.one v' else σ.g (pinned+i))=_
 rw[if_neg Q];refine h.pins i b hb fun e'=>D ?_
 simp_all
theorem Rel.top{B Γ N tm w σ}(h:Rel B Γ N tm w σ)(I:Γ.rt n=some ⟨false,.list true e,l⟩)(A:n<pinned)(s:Γ.pd=none){v':Value}{l':List e.den}{O2 R2}(D:dec (a0a w' σ.ov) (.list true e) ((Src.one v').rd (a0a w' σ.ov))=some (l',O2,R2))(r:∀c j,c<w.heap.size→c∉(σ.ow n).map (·.1)→a0a w' σ.ov c j=a0a w σ.ov c j)(v:∀c∈O2.map (·.1),c∈(σ.ow n).map (·.1)∨w.heap.size≤c)(z:(O2.map (·.1)).Nodup)(i:∀p∈O2,a0w w' p.1 p.2)(d:∀c k,a0w w c k→a0r σ c→a0w w' c k)(C:w.heap.size≤w'.heap.size)(y:∀b,b<B.size→¬ B.F b→w'.heap[b]?=B.hp b)(x:∀c∈R2,c<w'.heap.size∧(B.S c∨B.F c∨B.size≤c)∧¬ a0r σ c∧c∉O2.map (·.1)){f:AV→AV}(hf:∀a,f a=.dead∨(f a=a∧∀k q,(a=.ptr k q∨a=.sref k q∨∃o l,a=.swin k q o l)→k=n→a=.ptr n []))(hio:b0x w'=b0x w:=by first|rfl|assumption):
  Rel B ((Γ.mapv f).setRt n (some ⟨false,.list true e,l'⟩)) N tm w' ⟨fun m=>if m=n then .one v' else σ.g m,fun m=>if m=n then O2 else σ.ow m,σ.ov⟩:=by
 have:=h.topG (G:=fun _=>false) I A s rfl D (fun c j t u _=>r c j t u) (fun c E=>(v c E).imp .inl id) z i d C y x (f:=f) (fun a=>(hf a).imp id fun⟨t,u⟩=>⟨t,fun k q H=>⟨u k q H,rfl⟩⟩) hio
 have J:((Γ.mapv f).setRt n (some ⟨false,.list true e,l'⟩))=⟨(Γ.mapv f).sl,fun m=>if m=n then some ⟨false,.list true e,l'⟩else bif (fun _=>false) m then none else Γ.rt m,none⟩:=by
  simp only[AE.setRt,AE.mapv,s,cF]
  grind
 simp_all
theorem VOk.one{t:Ty}{x:t.den}(e:t.isAgg=false)(k:b0j v=true){R}(h:dec m t ((Src.one v).rd m)=some (x,[],R))(a:∀c∈R,Sh c)(b:t.cells=1):VOk m Sh t x v:=by
 refine⟨fun g=>(by simp_all),fun _=>k,R,a0j t h (fun j d=>?_) (fun _ _ _=>rfl),a⟩;have f:j=0:=by omega
 subst f;cases v<;>first|rfl|cases k
theorem VOk.rd{m:Mem}{Sh:Nat→Prop}{t:Ty}{x:t.den}{v:Value}(h:VOk m Sh t x v)(b:t.isAgg=false)(d:t.cells=1):∃R,dec m t ((Src.one v).rd m)=some (x,[],R)∧∀c∈R,Sh c:=by
 obtain⟨-,f,R,k,a⟩:=h;refine⟨R,a0j t k (fun j e=>?_) (fun _ _ _=>rfl),a⟩;have g:j=0:=by omega
 subst g
 have:=f b
 cases v<;>first|rfl|cases this
theorem a0e.int{m g rt Sh k}{n:Int}{v:Value}(h:a0e m g rt Sh (.val (.int k) n) v):v=.int k n:=by
 obtain⟨R,f,-⟩:=VOk.rd (t:=.int k) h rfl rfl;simp[dec,Src.rd]at f
 grind
theorem a0e.bool{m g rt Sh}{b:Bool}(h:a0e m g rt Sh (.val .bool b) v):v=.bool b:=by
 obtain⟨R,f,-⟩:=VOk.rd (t:=.bool) h rfl rfl;simp[dec,Src.rd]at f
 grind
theorem a0e.str{m g rt Sh}{l:List Int}{v:Value}(h:a0e m g rt Sh (.val .str l) v):∃s:ByteArray,v=.string s∧l=s.data.toList.map fun b=>(b.toNat:Int):=by
 obtain⟨R,f,-⟩:=VOk.rd (t:=.str) h rfl rfl;simp[dec,Src.rd]at f
 grind
theorem a0e.mk_int{m g rt Sh k}(n:Int):a0e m g rt Sh (.val (.int k) n) (.int k n):=
 VOk.one (t:=.int k) (R:=[]) rfl rfl (by simp[dec,Src.rd]) (by simp) rfl
theorem a0e.mk_bool{m g rt Sh}(b:Bool):a0e m g rt Sh (.val .bool b) (.bool b):=
 VOk.one (t:=.bool) (R:=[]) rfl rfl (by rfl) (by simp) rfl
theorem a0e.mk_str{m g rt Sh}(s:ByteArray):a0e m g rt Sh (.val .str (s.data.toList.map fun b=>(b.toNat:Int):List Int)) (.string s):=
 VOk.one (t:=.str) (R:=[]) rfl rfl (by rfl) (by simp) rfl
def h0b(Γ:AE)(a:AV):Prop:=∃k q,(a=.ptr k q∨a=.sref k q∨∃o l,a=.swin k q o l)∧Γ.rt k=none
structure Ev (B:Base) (w:World) (Γ:AE) (σ:Gh) (Γ':AE) (σ':Gh):Prop where
 ov:σ'.ov=σ.ov
 pd:Γ'.pd=Γ.pd
 shr:∀c,Shr B w σ c→Shr B w σ' c
 av:∀a v,a0e (a0a w σ.ov) σ.g Γ.rt (Shr B w σ) a v→a0e (a0a w σ.ov) σ'.g Γ'.rt (Shr B w σ') a v∨h0b Γ' a
 dg:∀a,h0b Γ a→h0b Γ' a
theorem Ev.refl{B w Γ σ}:Ev B w Γ σ Γ σ:=⟨rfl,rfl,fun _ h=>h,fun _ _ h=>.inl h,fun _ h=>h⟩
theorem Ev.trans{B w Γ σ Γ' σ' Γ'' σ''}(h:Ev B w Γ σ Γ' σ')(f:Ev B w Γ' σ' Γ'' σ''):Ev B w Γ σ Γ'' σ'':=
 ⟨f.ov.trans h.ov,f.pd.trans h.pd,fun c b=>f.shr c (h.shr c b),fun a v k=>by
  rcases h.av a v k with g|g
  have:=f.av a v (by rw[h.ov];omega)
  rw[h.ov]at this;omega;exact .inr (f.dg a g),fun a k=>f.dg a (h.dg a k)⟩
theorem Ev.live{B w Γ σ Γ' σ'}(h:Ev B w Γ σ Γ' σ'){a v}(f:a0e (a0a w σ.ov) σ.g Γ.rt (Shr B w σ) a v∨h0b Γ a):a0e (a0a w σ'.ov) σ'.g Γ'.rt (Shr B w σ') a v∨h0b Γ' a:=by
 rw[h.ov];rcases f with g|g;exact h.av a v g;exact .inr (h.dg a g)
theorem Ev.vok{B w Γ σ Γ' σ'}(h:Ev B w Γ σ Γ' σ'){t x v}(hv:VOk (a0a w σ.ov) (Shr B w σ) t x v):VOk (a0a w σ'.ov) (Shr B w σ') t x v:=by
 rw[h.ov];exact hv.frame (fun _ _ _=>rfl) h.shr
theorem Ev.gone{B w Γ σ}{f:AV→AV}:Ev B w Γ σ ((Γ.mapv f).setRt n none) ⟨σ.g,fun m=>if m=n then[]else σ.ow m,σ.ov⟩:=by
 refine⟨rfl,rfl,fun c h=>Rel.shr_gone c h,fun a v d=>?_,fun a ⟨k,q,b,i⟩=>⟨k,q,b,?_⟩⟩
 by_cases hd:∃k q,(a=.ptr k q∨a=.sref k q∨∃o l,a=.swin k q o l)∧k=n
 obtain⟨k,q,b,rfl⟩:=hd;exact .inr ⟨k,q,b,by simp[AE.setRt]⟩;exact .inl (d.other (n:=n) (fun c h=>Rel.shr_gone c h) (fun k j=>by simp_all[AE.setRt,AE.mapv,n0j]) (fun _ _=>rfl) (fun k q h e=>hd ⟨k,q,h,e⟩));simp_all[AE.setRt,AE.mapv]
theorem a0o{Γ:AE}{n:Nat}{r:Root}(h:Γ.look n=some r):Γ.pd=none∧Γ.rt n=some r:=by
 grind[AE.look]
theorem Rel.slice{B Γ N tm w σ}(h:Rel B Γ N tm w σ){n p v r}(D:a0e (a0a w σ.ov) σ.g Γ.rt (Shr B w σ) (.sref n p) v)(q:Γ.rt n=some r)(F:b0c r.t r.x p=⟨.list true e,l⟩):
  ∃s f k,loc (a0a w σ.ov) r.t (σ.g n) p=some (.list true e,s)∧s.rd (a0a w σ.ov) 0=some v∧dec (a0a w σ.ov) (.list true e) (s.rd (a0a w σ.ov))=some (l,f,k)∧
   dec (a0a w σ.ov) (.list true e) ((Src.one v).rd (a0a w σ.ov))=some (l,f,k)∧(∀c∈k,Shr B w σ c)∧(∀c∈f.map (·.1),c∈(σ.ow n).map (·.1)):=by
 obtain⟨S,z,s,b,m,o⟩:=D;rw[q]at b;simp at b;subst b;obtain⟨K,R1,G,H,P,I,Q,R⟩:=h.sep q;obtain⟨y,f,k,A,B',J,u,i,a,L,M⟩:=b0h p r.t _ G m;rw[F]at a;have C:e=z:=by grind
 subst C;have a:=eq_of_heq (Sigma.mk.inj a).2;subst a;refine⟨s,f,k,m,o,i,a0j _ i (fun j O=>?_) (fun _ _ _=>rfl),fun c E=>H c (by simp_all),fun c E=>I c (by simp_all)⟩;have d:j=0:=by simp_all[Ty.cells]
 subst d;rw[o];rfl
theorem Rel.window{B Γ N tm w σ}(h:Rel B Γ N tm w σ){n p v r off len}(u:a0e (a0a w σ.ov) σ.g Γ.rt (Shr B w σ) (.swin n p off len) v)(m:Γ.rt n=some r)(y:b0c r.t r.x p=⟨.list true e,l⟩):
  ∃s b d a f c,loc (a0a w σ.ov) r.t (σ.g n) p=some (.list true e,s)∧s.rd (a0a w σ.ov) 0=some (.slice a f c)∧dec (a0a w σ.ov) (.list true e) ((Src.one (.slice a f c)).rd (a0a w σ.ov))=some (l,b,d)∧
   (∀c∈d,Shr B w σ c)∧(∀c∈b.map (·.1),c∈(σ.ow n).map (·.1))∧off+len≤f∧∃a',v=.slice a' len (c-off)∧(∀A,a'=some A→c=off∨A.spot=none)∧(c=off∨a'=a.map fun A=>A.add (off*e.cells)):=by
 obtain⟨C,o,s,a,f,c,k,j,q,H,I⟩:=u;have z:a0e (a0a w σ.ov) σ.g Γ.rt (Shr B w σ) (.sref n p) (.slice a f c):=⟨C,o,s,k,j,q⟩;obtain⟨s',b,d,i,D,-,E,F,G⟩:=h.slice z m y;rw[m]at k;simp at k;subst k;rw[j]at i;simp at i;obtain⟨rfl,rfl⟩:=i
 grind
theorem p0z{x:List e.den}{O R}(h:dec m (.list true e) ((Src.one v).rd m)=some (x,O,R)):b0j v=true:=by
 rcases b0r h with⟨hv,-⟩|⟨A,n,c,os,hv,-⟩<;>simp only[Src.rd,if_true,sj]at hv<;>rw[hv]<;>rfl
theorem VOk.empty{m Sh e}{a:Option Addr}:VOk m Sh (.list false e) ([]:List e.den) (.slice a 0 0):=by
 refine VOk.one (t:=.list false e) (R:=[]) rfl rfl ?_ (by simp) rfl;show a0x m false e.cells (dec m e) (some (.slice a 0 0))=_;cases a with
 |none=>rfl
 |some A=>rfl
theorem VOk.nil_nl{m Sh e}:VOk m Sh (.nl e) ([]:List e.den) (.slice none 0 0):=
 VOk.one (t:=.nl e) (R:=[]) rfl rfl rfl (by simp) rfl
theorem VOk.valAV{m:Mem}{g:Nat→Src}{rt:Nat→Option Root}{Sh:Nat→Prop}{v:Value}:∀{t:Ty}{x:t.den},VOk m Sh t x v→a0e m g rt Sh (valAV t x) v
 |.nl e,x,h=>by
  obtain⟨-,f,R,k,-⟩:=h;have f:=f rfl;simp only[dec]at k
  split at k
  rename_i hv;have a:v=.slice none 0 0:=by
   cases v<;>first|(cases f;done)|(simp[Value.cells]at hv;done)|(simpa[Value.cells]using hv)
  subst a;exact rfl;cases k
 |.int _,_,h|.bool,_,h|.str,_,h|.unit,_,h|.list _ _,_,h|.pair _ _,_,h|.arr _ _,_,h=>h
theorem Rel.sref_vok{B Γ N tm w σ}(h:Rel B Γ N tm w σ){n p v r}(b:a0e (a0a w σ.ov) σ.g Γ.rt (Shr B w σ) (.sref n p) v)(j:Γ.rt n=some r)(i:b0c r.t r.x p=⟨.list true e,l⟩):
  VOk (a0a w σ.ov) (fun c=>Shr B w σ c∨c∈(σ.ow n).map (·.1)) (.list false e.sh) (Ty.shx (.list false e) l) v:=by
 obtain⟨s,q,u,y,z,A,f,k,a⟩:=h.slice b j i;obtain⟨R1,m,o⟩:=e0k _ f;exact VOk.one (t:=.list false e.sh) rfl (p0z f) m (fun c d=>(o c d).elim (fun g=>.inr (a c g)) (fun g=>.inl (k c g))) rfl
theorem Rel.swin_vok{B Γ N tm w σ}(h:Rel B Γ N tm w σ){n p v r off len}(m:a0e (a0a w σ.ov) σ.g Γ.rt (Shr B w σ) (.swin n p off len) v)(u:Γ.rt n=some r)(q:b0c r.t r.x p=⟨.list true e,l⟩):
  VOk (a0a w σ.ov) (fun c=>Shr B w σ c∨c∈(σ.ow n).map (·.1)) (.list false e.sh) (Ty.shx (.list false e) ((l.drop off).take len)) v:=by
 obtain⟨s,A,C,a,G,c,E,F,f,k,b,d,D,rfl,i,j⟩:=h.window m u q;obtain⟨R1,y,z⟩:=u0g f d i j;exact VOk.one (t:=.list false e.sh) rfl rfl y (fun c o=>(z c o).elim (fun g=>.inr (b c g)) (fun g=>.inl (k c g))) rfl
theorem Ty.le_agg:∀(a b:Ty),a.le b=true→a.isAgg=b.isAgg
 |.nl a,.list o b,_|.nl a,.nl b,_|.pair a b,.pair a' b',_=>rfl
 |.nl a,.int _,h|.nl a,.bool,h|.nl a,.str,h|.nl a,.unit,h|.nl a,.pair _ _,h|.nl a,.arr _ _,h=>by simp[Ty.le]at h
 |.pair a b,.int _,h|.pair a b,.bool,h|.pair a b,.str,h|.pair a b,.unit,h|.pair a b,.arr _ _,h|.pair a b,.list _ _,h|.pair a b,.nl _,h=>by simp[Ty.le]at h
 |.int _,b,h|.bool,b,h|.str,b,h|.unit,b,h|.list _ _,b,h|.arr _ _,b,h=>by
  simp only[Ty.le,dT]at h;rw[h]
theorem l0g{t' t:Ty}{x:t'.den}{y:t.den}{rd:Nat→Option Value}{R:List Nat}(g:castTo t' t x=some y)(h:dec m t' rd=some (x,[],R)):dec m t rd=some (y,[],R):=by
 grind[castTo,s0c]
theorem q0s{t' t:Ty}{x:t'.den}{y:t.den}(h:castTo t' t x=some y):t'.isAgg=t.isAgg∧t'.cells=t.cells:=by
 unfold castTo at h
 split at h
 simp_all
 grind[Ty.le_agg,Ty.le_cells]
theorem VOk.castTo{m:Mem}{Sh:Nat→Prop}{t' t:Ty}{x:t'.den}{y:t.den}{v:Value}(f:castTo t' t x=some y)(h:VOk m Sh t' x v):VOk m Sh t y v:=by
 obtain⟨e,a,R,b,c⟩:=h;obtain⟨k,d⟩:=q0s f;exact⟨fun g=>by simp_all,fun g=>a (k.trans g),R,l0g f b,c⟩
theorem Rel.view{ρ:Type}{B Γ N tm w σ}(h:Rel B Γ N tm w σ){t a v}{K:t.den→Rs ρ}{z:ρ}(d:a0e (a0a w σ.ov) σ.g Γ.rt (Shr B w σ) a v∨h0b Γ a)(f:Γ.view t a K=some z):
  ∃x,K x=some z∧VOk (a0a w σ.ov) (fun c=>Shr B w σ c∨(a0r σ c∧Γ.pd=none)) t x v:=by
 have G:∀b,(∀k q,(b=.ptr k q∨b=.sref k q∨∃o l,b=.swin k q o l)→False)→¬ h0b Γ b:=fun b D ⟨k,q,C,_⟩=>D k q C;cases a with
 |glob g=>
  simp_all[AE.view]
 |val t' x=>
  simp[AE.view]at f
  split at f
  rename_i y F;rcases d with d|d;exact⟨y,f,VOk.frame (VOk.castTo F d) (fun _ _ _=>rfl) (fun c i=>.inl i)⟩;simp_all;simp_all
 |nils=>
  rcases d with rfl|d;cases t<;>simp only[AE.view]at f<;>try cases f
  rename_i o e;cases o;exact⟨[],f,VOk.empty⟩;cases f;exact⟨_,f,VOk.nil_nl⟩;simp_all
 |empt=>
  cases t<;>simp only[AE.view]at f<;>try cases f
  rename_i o e;cases o
  ·rcases d with⟨A,rfl⟩|d
   all_goals grind[VOk.empty]
  simp_all
 |sref n p=>
  simp[AE.view]at f
  split at f
  rename_i r m;obtain⟨j,m⟩:=a0o m
  split at f
  rename_i e l s
  split at f
  rename_i u;subst u;rcases d with d|⟨k,q,i,E⟩;exact⟨_,f,(h.sref_vok d m s).frame (fun _ _ _=>rfl) (fun c i=>i.imp id fun g=>⟨⟨n,g⟩,j⟩)⟩;simp_all;simp_all;simp_all;simp_all
 |swin n p o k=>
  simp[AE.view]at f
  split at f
  rename_i r m;obtain⟨j,m⟩:=a0o m
  split at f
  rename_i e l s
  split at f
  rename_i u;subst u;rcases d with d|⟨k,q,i,E⟩;exact⟨_,f,(h.swin_vok d m s).frame (fun _ _ _=>rfl) (fun c i=>i.imp id fun g=>⟨⟨n,g⟩,j⟩)⟩;simp_all;simp_all;simp_all;simp_all
 |dead|skp|nilp|ptr|vptr=>cases f
theorem Rel.viewR{B Γ N tm w σ}(h:Rel B Γ N tm w σ){t a v}{K:t.den→Rs ρ}(d:a0e (a0a w σ.ov) σ.g Γ.rt (Shr B w σ) a v∨h0b Γ a)(f:Γ.view t a K=some z):
  ∃x,K x=some z∧VOk (a0a w σ.ov) (fun c=>Shr B w σ c∨∃n,n∈a.viewed∧c∈(σ.ow n).map (·.1)) t x v:=by
 have G:∀b,(∀k q,(b=.ptr k q∨b=.sref k q∨∃o l,b=.swin k q o l)→False)→¬ h0b Γ b:=fun b D ⟨k,q,C,_⟩=>D k q C;cases a with
 |glob g=>
  simp_all[AE.view]
 |val t' x=>
  simp[AE.view]at f
  split at f
  rename_i y F;rcases d with d|d;exact⟨y,f,VOk.frame (VOk.castTo F d) (fun _ _ _=>rfl) (fun c i=>.inl i)⟩;simp_all;simp_all
 |nils=>
  rcases d with rfl|d;cases t<;>simp only[AE.view]at f<;>try cases f
  rename_i o e;cases o;exact⟨[],f,VOk.empty⟩;cases f;exact⟨_,f,VOk.nil_nl⟩;simp_all
 |empt=>
  cases t<;>simp only[AE.view]at f<;>try cases f
  rename_i o e;cases o
  ·rcases d with⟨A,rfl⟩|d
   all_goals grind[VOk.empty]
  simp_all
 |sref n p=>
  simp[AE.view]at f
  split at f
  rename_i r j;obtain⟨s,j⟩:=a0o j
  split at f
  rename_i e l m
  split at f
  rename_i u;subst u;rcases d with d|⟨k,q,i,E⟩;exact⟨_,f,(h.sref_vok d j m).frame (fun _ _ _=>rfl) (fun c i=>i.imp id fun g=>⟨n,by simp[AV.viewed],g⟩)⟩;simp_all;simp_all;simp_all;simp_all
 |swin n p o k=>
  simp[AE.view]at f
  split at f
  rename_i r j;obtain⟨s,j⟩:=a0o j
  split at f
  rename_i e l m
  split at f
  rename_i u;subst u;rcases d with d|⟨k,q,i,E⟩;exact⟨_,f,(h.swin_vok d j m).frame (fun _ _ _=>rfl) (fun c i=>i.imp id fun g=>⟨n,by simp[AV.viewed],g⟩)⟩;simp_all;simp_all;simp_all;simp_all
 |dead|skp|nilp|ptr|vptr=>cases f
def c0q(V:Nat→Prop)(Γ:AE)(σ:Gh)(Γ':AE)(σ':Gh):Prop:=
 (∀n r,r.bx=true∨¬ V n→Γ.rt n=some r→Γ'.rt n=some r∧σ'.g n=σ.g n∧σ'.ow n=σ.ow n)∧∀(j:Nat) t y,Γ.get j=.val t y→Γ'.get j=.val t y
theorem c0q.refl{V Γ σ}:c0q V Γ σ Γ σ:=⟨fun _ _ _ h=>⟨h,rfl,rfl⟩,fun _ _ _ h=>h⟩
theorem c0q.trans{V Γ σ Γ' σ' Γ'' σ''}(h:c0q V Γ σ Γ' σ')(g:c0q V Γ' σ' Γ'' σ''):c0q V Γ σ Γ'' σ'':=⟨fun n r f d=>by
 obtain⟨a,b,c⟩:=h.1 n r f d;obtain⟨e,i,l⟩:=g.1 n r f a;simp_all,fun j t y k=>g.2 j t y (h.2 j t y k)⟩
theorem c0q.mono{V V':Nat→Prop}{Γ σ Γ' σ'}(h:c0q V Γ σ Γ' σ')(hv:∀n,V n→V' n):c0q V' Γ σ Γ' σ':=⟨fun n r k=>h.1 n r (k.imp id fun g f=>g (hv n f)),h.2⟩
theorem c0q.gone{Γ:AE}{σ:Gh}(d:Γ.rt n=some r)(b:r.bx=false)(f:AV→AV)(ov)(hf:∀t y,f (.val t y)=.val t y):
  c0q (·∈[n]) Γ σ ((Γ.mapv f).setRt n none) ⟨σ.g,fun m=>if m=n then[]else σ.ow m,ov⟩:=by
 refine⟨fun m i k h=>?_,fun j t y c=>?_⟩;have a:m≠n:=by
  grind
 have e:(m==n)=false:=by simp_all
 exact⟨by simp[AE.setRt,AE.mapv,e,h],rfl,by simp_all⟩
 grind[AE.get,AE.setRt,AE.mapv,SV.mapv]
theorem Rel.asVB{B Γ N tm w σ}(h:Rel B Γ N tm w σ){q t a v}{K:t.den→AE→Rs ρ}(i:a0e (a0a w σ.ov) σ.g Γ.rt (Shr B w σ) a v∨h0b Γ a)(f:Γ.asV q t a K=some z):
  ∃x Γ' σ',K x Γ'=some z∧Rel B Γ' N tm w σ'∧VOk (a0a w σ'.ov) (Shr B w σ') t x v∧Ev B w Γ σ Γ' σ'∧(q=true→Γ'=Γ∧σ'=σ)∧c0q (·∈a.viewed) Γ σ Γ' σ':=by
 have J:∀b,(∀k q,(b=.ptr k q∨b=.sref k q∨∃o l,b=.swin k q o l)→False)→¬ h0b Γ b:=fun b G ⟨k,q,F,_⟩=>G k q F;cases a with
 |glob g=>
  simp_all[AE.asV]
 |val t' x=>
  simp[AE.asV]at f
  split at f
  rename_i y I;rcases i with i|i;exact⟨y,Γ,σ,f,h,VOk.castTo I i,Ev.refl,fun _=>⟨rfl,rfl⟩,c0q.refl⟩;simp_all;simp_all
 |nils=>
  rcases i with rfl|i;cases t<;>simp only[AE.asV]at f<;>try cases f
  rename_i o e;cases o;exact⟨[],Γ,σ,f,h,VOk.empty,Ev.refl,fun _=>⟨rfl,rfl⟩,c0q.refl⟩;cases f;exact⟨_,Γ,σ,f,h,VOk.nil_nl,Ev.refl,fun _=>⟨rfl,rfl⟩,c0q.refl⟩;simp_all
 |empt=>
  cases t<;>simp only[AE.asV]at f<;>try cases f
  rename_i o e;cases o;rcases i with⟨A,rfl⟩|i;exact⟨[],Γ,σ,f,h,VOk.empty,Ev.refl,fun _=>⟨rfl,rfl⟩,c0q.refl⟩;simp_all;simp_all
 |sref n p=>
  cases p with
  |cons=>simp_all[AE.asV]
  |nil=>
   simp only[AE.asV]at f
   split at f
   grind
   rename_i D
   split at f
   rename_i e l j;obtain⟨C,j⟩:=a0o j
   split at f
   rename_i E;subst E;rcases i with i|⟨k,q,u,H⟩;have hv:=h.sref_vok i j rfl;refine⟨_,_,_,f,h.frz j (by simp_all),hv.frame (fun _ _ _=>rfl) (fun c u=>?_),Ev.gone,fun e=>absurd e D,c0q.gone j rfl _ _ (fun _ _=>rfl)⟩;rcases u with g|g;exact Rel.shr_gone c g;have d:a0r σ c:=⟨n,g⟩;refine⟨h.lt d,.inr (h.mine c d),fun⟨m,r⟩=>?_⟩;have r:c∈(if m=n then[]else σ.ow m).map (·.1):=r
   split at r
   simp_all;rename_i s;exact h.disj m n s c r g;simp_all;simp_all;simp_all
 |swin n p o k=>
  cases p with
  |cons=>simp_all[AE.asV]
  |nil=>
   simp only[AE.asV]at f
   split at f
   grind
   rename_i D
   split at f
   rename_i e l j;obtain⟨C,j⟩:=a0o j
   split at f
   rename_i E;subst E;rcases i with i|⟨k,q,u,H⟩;have hv:=h.swin_vok i j rfl;refine⟨_,_,_,f,h.frz j (by simp_all),hv.frame (fun _ _ _=>rfl) (fun c u=>?_),Ev.gone,fun e=>absurd e D,c0q.gone j rfl _ _ (fun _ _=>rfl)⟩;rcases u with g|g;exact Rel.shr_gone c g;have d:a0r σ c:=⟨n,g⟩;refine⟨h.lt d,.inr (h.mine c d),fun⟨m,r⟩=>?_⟩;have r:c∈(if m=n then[]else σ.ow m).map (·.1):=r
   split at r
   simp_all;rename_i s;exact h.disj m n s c r g;simp_all;simp_all;simp_all
 |dead|skp|nilp|ptr|vptr=>cases f
theorem Rel.asV{ρ:Type}{B Γ N tm w σ}(h:Rel B Γ N tm w σ){q t a v}{K:t.den→AE→Rs ρ}{z:ρ}(k:a0e (a0a w σ.ov) σ.g Γ.rt (Shr B w σ) a v∨h0b Γ a)(f:Γ.asV q t a K=some z):
  ∃x Γ' σ',K x Γ'=some z∧Rel B Γ' N tm w σ'∧VOk (a0a w σ'.ov) (Shr B w σ') t x v∧Ev B w Γ σ Γ' σ'∧(q=true→Γ'=Γ∧σ'=σ):=by
 obtain⟨x,Γ',σ',b,c,d,e,i,-⟩:=h.asVB k f
 grind
def c0c:Ty→(Nat→Option Value)→Bool
 |.int k,rd=>match rd 0 with
  |some (.int k' n)=>decide (k'=k)&&n==0
  |_=>false
 |.bool,rd=>match rd 0 with
  |some (.bool b)=>!b
  |_=>false
 |.str,rd=>match rd 0 with
  |some (.string s)=>s.size==0
  |_=>false
 |.unit,_=>true
 |.pair a b,rd=>c0c a rd&&c0c b (fun j=>rd (a.cells+j))
 |.arr n t,rd=>(a21 n).all fun i=>c0c t fun j=>rd (i*t.cells+j)
 |.list _ _,rd=>match rd 0 with
  |some (.slice none 0 0)=>true
  |_=>false
 |.nl _,rd=>match rd 0 with
  |some (.slice none 0 0)=>true
  |_=>false
theorem h0w{α:Type}{f:Nat→Option (α×a0z×List Nat)}{x:α}:∀(n i:Nat),(∀j,i≤j→j<i+n→f j=some (x,[],[]))→a0d f n i=some (a08 n x,[],[])
 |0,_,_=>rfl
 |n+1,i,h=>by
  simp only[a0d,h i (a12 _) (by omega),h0w n (i+1) (fun j g k=>h j (by omega) (by omega))];rfl
theorem e0f{m:Mem}:∀(t:Ty){rd:Nat→Option Value},c0c t rd=true→dec m t rd=some (t.dflt,[],[])
 |.int k,rd,h=>by
  simp[c0c]at h
  split at h
  rename_i k' n hv;simp at h;simp only[dec,hv,h.1,if_true,h.2];rfl;simp_all
 |.bool,rd,h=>by
  simp[c0c]at h
  split at h
  rename_i b hv;simp at h;simp only[dec,hv,h];rfl;simp_all
 |.str,rd,h=>by
  simp[c0c]at h
  split at h
  rename_i s hv;have g:s.data.toList=[]:=by
   simp_all
  simp only[dec,hv,g];rfl;simp_all
 |.unit,rd,h=>rfl
 |.pair a b,rd,h=>by
  simp only[c0c,bA]at h;exact f0b (e0f a h.1) (e0f b h.2)
 |.arr n t,rd,h=>by
  simp only[c0c,lA,List.mem_range]at h;exact h0w n 0 fun j _ f=>e0f t (h j (by omega))
 |.list o t,rd,h=>by
  simp[c0c]at h
  split at h
  rename_i hv;show a0x m o t.cells (dec m t) (rd 0)=_;rw[hv];rfl;simp_all
 |.nl t,rd,h=>by
  simp[c0c]at h
  split at h
  rename_i hv;simp only[dec,hv];rfl;simp_all
def d0v(P:Program)(τ:Ty)(t:TypeId):Bool:=
 match P.info? t with
 |some i=>i.size==τ.cells&&decide (i.bytes≤32768)&&(match i.zero with
  |some z=>z.cells.size==τ.cells&&c0c τ (fun j=>z.cells[j]?)&&(match z with|.agg _=>τ.isAgg|_=>!τ.isAgg)
  |none=>false)
 |none=>false
def a0g(P:Program):Ty→TypeId ⊕ (List Field×Nat)→Bool
 |.int k,.inl t=>d0v P (.int k) t&&(match P.underlying t with|some (.int k')=>decide (k'=k)|_=>false)
 |.bool,.inl t=>d0v P .bool t&&(match P.underlying t with|some .bool=>true|_=>false)
 |.str,.inl t=>d0v P .str t&&(match P.underlying t with|some .string=>true|_=>false)
 |.list o e,.inl t=>d0v P (.list o e) t&&(match P.underlying t with|some (.slice t')=>a0g P e (.inl t')&&decide (0<e.cells)|_=>false)
 |.nl e,.inl t=>d0v P (.nl e) t&&(match P.underlying t with|some (.slice t')=>a0g P e (.inl t')&&decide (0<e.cells)|_=>false)
 |.arr n e,.inl t=>d0v P (.arr n e) t&&(match P.underlying t with|some (.array n' t')=>n'==n&&a0g P e (.inl t')&&decide (0<e.cells)|_=>false)
 |.pair a b,.inl t=>d0v P (.pair a b) t&&(match P.underlying t with
  |some (.struct fs)=>(match fs.toList with
   |f::r=>f.offset==0&&a0g P a (.inl f.type)&&decide (0<a.cells)&&a0g P b (.inr (r,a.cells))
   | []=>false)
  |_=>false)
 |.unit,.inl t=>d0v P .unit t&&(match P.underlying t with|some (.struct fs)=>fs.isEmpty|_=>false)
 |.pair a b,.inr (f::r,off)=>f.offset==off&&a0g P a (.inl f.type)&&decide (0<a.cells)&&a0g P b (.inr (r,off+a.cells))
 |.unit,.inr ([],_)=>true
 |_,.inr _=>false
theorem a0p(h:a0g P τ (.inl t)=true):d0v P τ t=true:=by
 cases τ<;>simp only[a0g,bA]at h<;>exact h.1
structure Info (P:Program) (τ:Ty) (t:TypeId) where
 i:TypeInfo
 z:Value
 info:P.info? t=some i
 size:i.size=τ.cells
 bytes:i.bytes≤32768
 zero:i.zero=some z
 zsize:z.cells.size=τ.cells
 zok:c0c τ (fun j=>z.cells[j]?)=true
 zagg:∀cs,z=.agg cs→τ.isAgg=true
 znot:(∀cs,z≠.agg cs)→τ.isAgg=false
theorem a0k(h:d0v P τ t=true):Nonempty (Info P τ t):=by
 unfold d0v at h
 split at h
 ·rename_i i hi;simp at h;obtain⟨⟨g,f⟩,h3⟩:=h
  split at h3
  ·rename_i z c;simp at h3;obtain⟨⟨k,a⟩,h6⟩:=h3;refine⟨⟨i,z,hi,g,f,c,k,a,fun cs e=>?_,fun b=>?_⟩⟩
   all_goals simp_all
  simp_all
 simp_all
theorem e0v(h:a0g P τ (.inl t)=true)(w:World):(isAgg t).run P w=.ok τ.isAgg w:=by
 cases τ<;>simp only[a0g,bA]at h<;>obtain⟨-,h⟩:=h<;>split at h<;>first|(rename_i g;simp[isAgg,run_underlying g,Ty.isAgg];done)|cases h
theorem Info.sizeOf{P:Program}{τ:Ty}{t:TypeId}(I:Info P τ t)(w:World):(sizeOf t).run P w=.ok τ.cells w:=by
 simp[Go.sizeOf,typeInfo,I.info,I.size]
theorem Info.typeInfo{P:Program}{τ:Ty}{t:TypeId}(I:Info P τ t)(w:World):(typeInfo t).run P w=.ok I.i w:=by
 simp[Go.typeInfo,I.info]
theorem Info.zeroValue{P:Program}{τ:Ty}{t:TypeId}(I:Info P τ t)(w:World):(zeroValue t).run P w=.ok I.z w:=by
 simp[Go.zeroValue,Go.typeInfo,I.info,I.zero]
theorem e0c{m:Mem}:∀(t:Ty){rd:Nat→Option Value}{x o r},dec m t rd=some (x,o,r)→∀j,j<t.cells→∃v,rd j=some v∧b0j v=true
 |.int k,rd,x,o,r,h,j,hj=>by
  have g:j=0:=by simp_all[Ty.cells]
  subst g;simp[dec]at h
  split at h
  rename_i hv;exact⟨_,hv,rfl⟩;simp_all
 |.bool,rd,x,o,r,h,j,hj=>by
  have g:j=0:=by simp_all[Ty.cells]
  subst g;simp[dec]at h
  split at h
  rename_i hv;exact⟨_,hv,rfl⟩;simp_all
 |.str,rd,x,o,r,h,j,hj=>by
  have g:j=0:=by simp_all[Ty.cells]
  subst g;simp[dec]at h
  split at h
  rename_i hv;exact⟨_,hv,rfl⟩;simp_all
 |.unit,rd,x,o,r,h,j,hj=>by simp[Ty.cells]at hj
 |.pair a b,rd,x,o,r,h,j,hj=>by
  obtain⟨s,o1,q,u,o2,r2,f,c,-⟩:=c0a h
  by_cases hja:j<a.cells
  exact e0c a f j hja
  have:=e0c b c (j-a.cells) (by simp only[Ty.cells]at hj;omega)
  rwa [show a.cells+(j-a.cells)=j from by omega]at this
 |.arr n t,rd,x,o,r,h,j,hj=>by
  have h:a0d (fun i=>dec m t fun j=>rd (i*t.cells+j)) n 0=some (x,o,r):=h;simp[Ty.cells]at hj;have d:0<t.cells:=by
   grind
  have hi:j / t.cells<n:=Nat.div_lt_of_lt_mul (by grind);obtain⟨y,l,p,A,B,e,B',hf,-⟩:=a0u n 0 (j / t.cells) h hi
  have:=e0c t hf (j%t.cells) (Nat.mod_lt _ d)
  simp_all[Nat.div_add_mod']
 |.list ow t,rd,x,o,r,h,j,hj=>by
  have g:j=0:=by simp_all[Ty.cells]
  subst g;have h:a0x m ow t.cells (dec m t) (rd 0)=some (x,o,r):=h;unfold a0x at h
  split at h
  rename_i hv;exact⟨_,hv,rfl⟩;rename_i hv;exact⟨_,hv,rfl⟩;simp_all
 |.nl t,rd,x,o,r,h,j,hj=>by
  have g:j=0:=by simp_all[Ty.cells]
  subst g;exact⟨_,(m0g h).1,rfl⟩
theorem j0i{t:Ty}(h:t.isAgg=false):t.cells=1:=by
 cases t<;>first|rfl|cases h
theorem i0r{x R}(l:a0g P τ (.inl t)=true)(h:dec m τ ((Src.at b o).rd m)=some (x,[],R))(q:∀j,j<τ.cells→w.cell? ⟨b,o+j,none⟩=m b (o+j))(n:∀c∈R,Sh c):
  ∃v,(Instr.loadAt t (.pointer (some ⟨b,o,none⟩))).run P w=.ok v w∧VOk m Sh τ x v:=by
 obtain⟨I⟩:=a0k (a0p l);have f:=e0c τ h;cases hagg:τ.isAgg with
 |false=>
  have p:=j0i hagg;obtain⟨v,hv,r⟩:=f 0 (by omega);have z:w.cell? ⟨b,o,none⟩=some v:=by have:=q 0 (by omega);simp at this;rw[this];exact hv
  refine⟨v,?_,VOk.one hagg r (a0j τ h (fun j k=>?_) (fun _ _ _=>rfl)) n p⟩;simp[Instr.loadAt,Instr.sureAddr,loadVar,e0v l,hagg,z];have i:j=0:=by omega
  subst i;rw[hv];rfl
 |true=>
  let cs:List Value:=(a21 τ.cells).map fun j=>(m b (o+j)).getD undef
  have e:∀j v,cs[j]?=some v→w.cell? ((⟨b,o,none⟩:Addr).add j)=some v:=by
   intro j v k;simp only[cs,a23]at k;have a:j<τ.cells:=by
    grind
   rw[List.getElem?_range a]at k;simp at k;obtain⟨u,s,-⟩:=f j a;have y:m b (o+j)=some u:=s;simp_all[Addr.add_lit]
  have d:cs.length=τ.cells:=by grind
  refine⟨.agg cs.toArray,?_,fun _=>⟨_,rfl,by omega⟩,fun g=>(by simp_all),R,?_,n⟩
  have:=run_loadCells_list (P:=P) w ⟨b,o,none⟩ cs e
  rw[d]at this;simp[Instr.loadAt,Instr.sureAddr,loadVar,e0v l,hagg,I.sizeOf,this];refine a0j τ h (fun j k=>?_) (fun _ _ _=>rfl)
  grind[Value.cells,Src.rd]
theorem VOk.cells{m Sh}{τ:Ty}{x:τ.den}{v:Value}(h:VOk m Sh τ x v):v.cells.size=τ.cells∧∀u∈v.cells.toList,b0j u=true:=by
 obtain⟨k,a,R,c,d⟩:=h;have f:v.cells.size=τ.cells:=by
  cases hagg:τ.isAgg with
  |true=>obtain⟨cs,rfl,g⟩:=k hagg;exact g
  |false=>
   have:=a hagg
   rw[j0i hagg];cases v<;>first|rfl|cases this
 refine⟨f,fun u b=>?_⟩;obtain⟨j,e,rfl⟩:=List.getElem_of_mem b
 grind[e0c]
theorem f0d(h:b0j v=true):v.oneCell'=true:=by
 cases v<;>first|rfl|cases h
theorem d0d(b:Nat):∀(vs:List Value)(o:Nat)(w:World)(c:Nat),c≠b→(w.setCells b o vs).heap[c]?=w.heap[c]?
 | [],_,_,_,_=>rfl
 |v::r,o,w,c,h=>by
  rw[World.setCells,d0d b r (o+1) _ c h,f0k,if_neg h]
theorem e0b(b:Nat):∀(vs:List Value)(o:Nat)(w:World),(w.setCells b o vs).heap.size=w.heap.size
 | [],_,_=>rfl
 |v::r,o,w=>by rw[World.setCells,e0b b r (o+1),World.size_setCell]
theorem a0w.setCells{b0 k:Nat}(b:Nat):∀(vs:List Value)(o:Nat){w:World},a0w w b0 k→a0w (w.setCells b o vs) b0 k
 | [],_,_,h=>h
 |_::r,o,_,h=>a0w.setCells b r (o+1) (h.setCell _ _)
theorem e0z(b:Nat):∀(vs:List Value)(o:Nat)(w:World)(k:Nat),a0w w b k→o+vs.length≤k→∀c j,
  (w.setCells b o vs).cell? ⟨c,j,none⟩=if c=b∧o≤j∧j<o+vs.length then vs[j-o]? else w.cell? ⟨c,j,none⟩
 | [],o,w,k,hf,hk,c,j=>by
  rw[if_neg (by simp)];rfl
 |v::r,o,w,k,hf,hk,c,j=>by
  simp at hk;rw[World.setCells,e0z b r (o+1) _ k (hf.setCell _ _) (by omega) c j]
  by_cases h1:c=b∧o+1≤j∧j<o+1+r.length
  grind
  ·rw[if_neg h1]
   by_cases h2:c=b∧j=o
   obtain⟨rfl,rfl⟩:=h2;obtain⟨u,h⟩:=a18.1 (hf.cell (o:=j) (by omega)).1;rw[World.cell?_setCell_same _ _ _ h,if_pos ⟨rfl,a12 _,by simp⟩]
   simp
   ·rw[World.cell?_setCell_other,if_neg]
    all_goals grind
theorem m0u(c:a0g P τ (.inl t)=true)(g:v.cells.size=τ.cells)(f:∀u∈v.cells.toList,b0j u=true)(hf:a0w w b k)(e:o+τ.cells≤k):
  (Instr.storeAt t (.pointer (some ⟨b,o,none⟩)) v).run P w=.ok () (w.setCells b o v.cells.toList):=by
 obtain⟨I⟩:=a0k (a0p c);have h:v.cells.toList.length=τ.cells:=by omega
 have:=run_storeCells_cells (P:=P) b o v.cells.toList 0 w (fun j a=>(hf.cell (o:=o+0+j) (by omega)).1) (fun j a=>(hf.cell (o:=o+0+j) (by omega)).2) (fun u d=>f0d (f u d))
 simp[Instr.storeAt,Instr.sureAddr,storeVar,I.sizeOf,g];omega
theorem n0v{m Sh}{x:τ.den}(g:a0g P τ (.inl t)=true)(hv:VOk m Sh τ x v)(hf:a0w w b k)(h:o+τ.cells≤k):
  (Instr.storeAt t (.pointer (some ⟨b,o,none⟩)) v).run P w=.ok () (w.setCells b o v.cells.toList):=
 m0u g hv.cells.1 hv.cells.2 hf h
theorem i0s{P:Program}:∀(f:Nat)(τ:Ty)(fs:List Field)(off:Nat),a0g P τ (.inr (fs,off))=true→b0y τ f=true→
  ∃fl τ' k,fs[f]?=some fl∧fl.offset=off+k∧a0g P τ' (.inl fl.type)=true∧0<τ'.cells∧∀(m:Mem) b o,loc m τ (.at b o) (b0f f)=some (τ',.at b (o+k))
 |0,τ,fs,off,h,hf=>by
  cases τ with
  |pair a b=>
   cases fs with
   |nil=>simp[a0g]at h
   |cons fl r=>
    simp[a0g]at h;exact⟨fl,a,0,rfl,by omega,h.1.1.2,h.1.2,fun _ _ _=>rfl⟩
  |_=>simp[b0y]at hf
 |f+1,τ,fs,off,h,hf=>by
  cases τ with
  |pair a b=>
   cases fs with
   |nil=>simp[a0g]at h
   |cons fl r=>
    simp only[a0g,bA]at h;obtain⟨g,τ',k,j,l,d,e,i⟩:=i0s f b r (off+a.cells) h.2 hf;exact⟨g,τ',a.cells+k,by simp_all,by omega,d,e,fun m c o=>by
     have:=i m c (o+a.cells)
     rw[show o+a.cells+k=o+(a.cells+k)from by omega]at this;exact this⟩
  |_=>simp[b0y]at hf
theorem i0a{P:Program}{τ:Ty}{t:TypeId}{f:Nat}(h:a0g P τ (.inl t)=true)(hf:b0y τ f=true):∃fs:Array Field,P.underlying t=some (.struct fs)∧a0g P τ (.inr (fs.toList,0))=true:=by
 cases τ with
 |pair a b=>
  simp[a0g]at h
  grind[a0g]
 |_=>cases f<;>simp[b0y]at hf
theorem k0l{f:Nat}(h:a0g P τ (.inl t)=true)(hf:b0y τ f=true):
  ∃τ' k,(Instr.fieldAt t (.pointer (some ⟨b,o,none⟩)) f).run P w=.ok (.pointer (some ⟨b,o+k,none⟩)) w∧(∀(m:Mem) b o,loc m τ (.at b o) (b0f f)=some (τ',.at b (o+k))):=by
 obtain⟨fs,l,j⟩:=i0a h hf;obtain⟨c,τ',k,n,d,e,p,i⟩:=i0s f τ _ 0 j hf;obtain⟨I⟩:=a0k (a0p e);have g:fs[f]?=some c:=by simp_all
 refine⟨τ',k,?_,i⟩;have a:¬ (τ'.cells=0):=by omega
 simp[Instr.fieldAt,run_underlying l,g,Instr.sureAddr,fieldPlace,I.sizeOf,a,Addr.add_lit,d]
theorem b0l{o:Bool}(h:a0g P (.list o e) (.inl t)=true):∃t',P.underlying t=some (.slice t')∧a0g P e (.inl t')=true∧0<e.cells:=by
 simp[a0g]at h
 grind
theorem g0s(h:a0g P (.arr n e) (.inl t)=true):∃t',P.underlying t=some (.array n t')∧a0g P e (.inl t')=true∧0<e.cells:=by
 simp[a0g]at h
 grind
theorem t0e(τ:Ty):∀rd,c0c τ.sh rd=c0c τ rd:=by
 induction τ with
 |pair a b iha ihb=>simp_all[Ty.sh,c0c,Ty.cells_sh]
 |arr n t ih=>simp_all[Ty.sh,c0c,Ty.cells_sh]
 |list o t _=>intro rd;rfl
 |nl t _=>simp_all[Ty.sh,c0c]
 |_=>intro rd;rfl
theorem c0p{P:Program}:∀(τ:Ty)(s:TypeId ⊕ (List Field×Nat)),a0g P τ.sh s=a0g P τ s:=by
 have f:=t0e;have h:∀τ:Ty,τ.sh.isAgg=τ.isAgg:=by intro τ;cases τ<;>rfl
 have g:∀(τ:Ty) t,d0v P τ.sh t=d0v P τ t:=by
  simp_all[d0v,Ty.cells_sh]
 intro τ
 induction τ with
 |pair a b iha ihb=>
  intro s;cases s with
  |inl t=>
   grind[Ty.sh,a0g,Ty.cells_sh]
  |inr p=>
   obtain⟨fs,off⟩:=p;cases fs<;>simp only[Ty.sh,a0g,iha,ihb,Ty.cells_sh]
 |list o t ih=>
  grind[Ty.sh,a0g,Ty.cells_sh]
 |nl t ih=>
  grind[Ty.sh,a0g,Ty.cells_sh]
 |arr n t ih=>
  grind[Ty.sh,a0g,Ty.cells_sh]
 |_=>intro s;rfl
def a0f(a:Act):Nat→Value:=fun i=>a.tmps.getD i undef
def b0e(N:Nat):Operand→Bool
 |.tmp t=>decide (t<N)
 |_=>true
def fits(N:Nat)(o:Oper):Bool:=o.op.operands.toList.all (b0e N)&&(match o.dst with|some d=>decide (d<N)|none=>true)
def n0y(P:Program)(τ:Ty)(t:TypeId):Prop:=
 ∀(m:Mem) Sh (x y:τ.den) u v w xo yo,VOk m Sh τ x u→VOk m Sh τ y v→
  ((eqGuard .eql t xo yo u v).run P w=.ok () w∧(binOp .eql t u v).run P w=.ok (.bool (eqT τ x y)) w)∧
  ((eqGuard .neq t xo yo u v).run P w=.ok () w∧(binOp .neq t u v).run P w=.ok (.bool (!eqT τ x y)) w)
structure CxTy (P:Program) (cx:Cx):Prop where
 T:∀t τ,cx.T t=some τ→τ.sh=τ∧a0g P τ (.inl t)=true

 Q:∀t,cx.Q t=true→∃e,P.underlying t=some (.pointer e)
 E:∀t τ,cx.E t=true→cx.T t=some τ→τ.isAgg=true→n0y P τ t
theorem j0p{a:Act}{d:Nat}{v:Value}(i:Nat)(hi:i<a.tmps.size):a0f (a.put (some d) v) i=if i=d then v else a0f a i:=by
 simp[a0f,Act.put]
 grind
theorem j0n{a:Act}{d:Option Nat}{v:Value}:(a.put d v).tmps.size=a.tmps.size:=by
 cases d<;>simp[Act.put]
theorem i0n{a:Act}{d:Option Nat}{v:Value}:(a.put d v).defers=a.defers:=by
 cases d<;>rfl
section
variable {P:Program} {B:Base} {N:Nat} {ρ:Type} {Γ:AE} {a:Act} {w:World} {σ:Gh}
theorem Rel.opd(h:Rel B Γ N (a0f a) w σ){x:Operand}(k:b0e N x=true):a0e (a0a w σ.ov) σ.g Γ.rt (Shr B w σ) (Γ.opd x) (a.eval x):=by
 cases x with
 |tmp t=>
  simp[b0e]at k
  have:=h.slots t k
  simp[AE.opd,AE.get]
  revert this
  cases Γ.sl t with
  |one v=>exact fun h=>h
  |cmp c vs=>exact fun _=>trivial
 |const v=>
  simp[AE.opd,Act.eval];unfold k0v;split;exact a0e.mk_int _;exact a0e.mk_bool _;exact a0e.mk_str _;rfl;rfl;trivial
 |global g=>rfl
 |func f=>trivial
theorem Rel.putd(h:Rel B Γ N (a0f a) w σ)(f:a.tmps.size=N){sv:SV}(hv:d<N→g0l (a0a w σ.ov) σ.g Γ.rt (Shr B w σ) sv v):
  Rel B (Γ.put d sv) N (a0f (a.put (some d) v)) w σ:=
 h.put hv fun i hi=>j0p i (by omega)
def a0i(P:Program)(B:Base)(N:Nat)(o:Oper)(a:Act)(w:World)(K:AE→Rs ρ)(z:ρ):Prop:=
 ∃v w' Γ' σ',((execOp a.eval o).run P w=.ok (.value v) w'∨((execOp a.eval o).run P w=.ok .skip w'∧v=undef))∧Rel B Γ' N (a0f (a.put o.dst v)) w' σ'∧K Γ'=some z
theorem a0i.set{o:Oper}{K:AE→Rs ρ}{z:ρ}{d:Nat}{v:Value}{w':World}{Γ':AE}{σ':Gh}{av:AV}(hd:o.dst=some d)(b:a.tmps.size=N)(f:(execOp a.eval o).run P w=.ok (.value v) w')
  (h:Rel B Γ' N (a0f a) w' σ')(hv:a0e (a0a w' σ'.ov) σ'.g Γ'.rt (Shr B w' σ') av v)(k:K (Γ'.set d av)=some z):a0i P B N o a w K z:=
 ⟨v,w',Γ'.set d av,σ',.inl f,by rw[hd];exact h.putd b (fun _=>hv),k⟩
theorem a0s{o:Oper}(h:fits N o=true):∀x∈o.op.operands.toList,b0e N x=true:=by
 simp only[fits,bA,lA]at h
 grind
theorem a0b{β:Type}{b:Bool}{x y:Option β}{z:β}(h:(bif b then x else y)=some z):(b=true∧x=some z)∨(b=false∧y=some z):=by
 grind
theorem w0z{o:Oper}{x:Operand}{d:Nat}{cx:Cx}{q:Bool}{K:AE→Rs ρ}{z:ρ}(i:o.op=.move x)(hd:o.dst=some d)(h:Rel B Γ N (a0f a) w σ)(c:a.tmps.size=N)(hf:fits N o=true)
  (b:aop cx q o Γ K=some z):a0i P B N o a w K z:=by
 have e:b0e N x=true:=a0s hf x (by simp[i,Op.operands]);have k:(execOp a.eval o).run P w=.ok (.value (a.eval x)) w:=by simp[execOp,i]
 simp[aop,i,hd]at b;cases x with
 |tmp t=>
  simp at b;have j:t<N:=by simpa[b0e]using e
  exact⟨_,w,_,σ,.inl k,by rw[hd];exact h.putd c (fun _=>h.slots t j),b⟩
 |const v=>exact a0i.set hd c k h (h.opd e) b
 |global g=>exact a0i.set hd c k h (h.opd e) b
 |func f=>exact a0i.set hd c k h (h.opd e) b
theorem x0a{o:Oper}{c x y:Operand}{d:Nat}{cx:Cx}{q:Bool}{K:AE→Rs ρ}{z:ρ}(k:o.op=.pick c x y)(hd:o.dst=some d)(h:Rel B Γ N (a0f a) w σ)(m:a.tmps.size=N)(hf:fits N o=true)
  (g:aop cx q o Γ K=some z):a0i P B N o a w K z:=by
 have i:=h.opd (a0s hf c (by simp[k,Op.operands]));have j:=h.opd (a0s hf x (by simp[k,Op.operands]));have l:=h.opd (a0s hf y (by simp[k,Op.operands]));simp[aop,k,hd,n0i]at g
 split at g
 ·rename_i b e;rw[e]at i;have n:=a0e.bool i;have f:(execOp a.eval o).run P w=.ok (.value (if b then a.eval x else a.eval y)) w:=by simp_all[execOp,asBool]
  split at g
  rename_i u v p hv;rw[p]at j;rw[hv]at l;refine a0i.set hd m f h ?_ g;rw[a0e.bool j,a0e.bool l];cases b<;>exact a0e.mk_bool _
  ·rcases a0b g with⟨rfl,g⟩|⟨-,g⟩
   all_goals grind[a0i.set]
  ·rcases a0b g with⟨-,g⟩|⟨rfl,g⟩
   all_goals grind[a0i.set]
  simp_all
 simp_all
theorem r0m{o:Oper}{x:Operand}{d:Nat}{cx:Cx}{q:Bool}{K:AE→Rs ρ}{z:ρ}(g:o.op=.nilCheck x)(hd:o.dst=some d)(h:Rel B Γ N (a0f a) w σ)(j:a.tmps.size=N)(hf:fits N o=true)
  (k:aop cx q o Γ K=some z):a0i P B N o a w K z:=by
 have f:=h.opd (a0s hf x (by simp[g,Op.operands]));simp[aop,g,hd]at k
 split at k
 rename_i n p i;rw[i]at f;obtain⟨r,t,b,off,c,e,l⟩:=f;exact a0i.set hd j (v:=.pointer (some ⟨b,off,none⟩)) (by simp[execOp,g,l]) h (show a0e _ _ _ _ (.ptr n p) _ from⟨r,t,b,off,c,e,rfl⟩) k;rename_i t y i;rw[i]at f;obtain⟨b,off,R,c,e⟩:=f;exact a0i.set hd j (v:=.pointer (some ⟨b,off,none⟩)) (by simp[execOp,g,c]) h (show a0e _ _ _ _ (.vptr t y) _ from⟨b,off,R,rfl,e⟩) k;simp_all
theorem s0e{o:Oper}{t:Nat}{i d:Nat}{cx:Cx}{q:Bool}{K:AE→Rs ρ}{z:ρ}(b:o.op=.extract (.tmp t) i)(hd:o.dst=some d)(h:Rel B Γ N (a0f a) w σ)(n:a.tmps.size=N)(hf:fits N o=true)
  (g:aop cx q o Γ K=some z):a0i P B N o a w K z:=by
 have p:t<N:=by have:=a0s hf (.tmp t) (by simp[b,Op.operands]);simpa[b0e]using this
 have c:=h.slots t p;simp[aop,b,hd]at g
 split at g
 rename_i s k;rw[k]at c;obtain⟨f,e,l⟩:=c
 split at g
 rename_i v hv;obtain⟨u,r,m⟩:=l i v hv;refine a0i.set hd n (v:=u) ?_ h m g;have j:a.eval (.tmp t)=.tuple f:=e;simp_all[execOp,Instr.extract];simp_all;simp_all
theorem x0b{o:Oper}{op:UnOp}{ty:TypeId}{x:Operand}{d:Nat}{cx:Cx}{q:Bool}{K:AE→Rs ρ}{z:ρ}(c:o.op=.unOp op ty x)(hd:o.dst=some d)(h:Rel B Γ N (a0f a) w σ)(i:a.tmps.size=N)(hf:fits N o=true)
  (e:aop cx q o Γ K=some z):a0i P B N o a w K z:=by
 have g:=h.opd (a0s hf x (by simp[c,Op.operands]));simp only[aop,c,hd,AE.un]at e
 split at e
 rename_i b f;rw[f]at g;exact a0i.set hd i (by simp[execOp,c,a0e.bool g,Op.unary]) h (a0e.mk_bool _) e;rename_i k n f;rw[f]at g;exact a0i.set hd i (by simp[execOp,c,a0e.int g,Op.unary,Op.intArith]) h (a0e.mk_int _) e;rename_i k n f;rw[f]at g;refine a0i.set hd i (v:=.int k (bits k .xor (if k.signed then -1 else k.max) n)) ?_ h (a0e.mk_int _) e
 simp[execOp,c,a0e.int g,Op.unary,Op.intBits,bits];simp_all
theorem t0r{k:IntKind}{x y:Int}{K:AV→Rs ρ}{z:ρ}{k':IntKind}(b:k0z op=true∨k=k')(h:i0d op k x y K=some z):
  ∃av v,K av=some z∧(∀m g rt Sh,a0e m g rt Sh av v)∧∀w,(binOp op t (.int k x) (.int k' y)).run P w=.ok v w:=by
 by_cases hs:k0z op=true
 cases op<;>simp[k0z]at hs;simp[i0d]at h;rcases a0b h with⟨-,h⟩|⟨a,h⟩
 grind
 refine⟨_,_,h,fun _ _ _ _=>a0e.mk_int _,fun w=>?_⟩
 have:¬ y<0:=by simp_all
 simp[binOp,Op.shift,this,A0n];simp[i0d]at h;rcases a0b h with⟨-,h⟩|⟨a,h⟩
 grind
 refine⟨_,_,h,fun _ _ _ _=>a0e.mk_int _,fun w=>?_⟩
 have:¬ y<0:=by simp_all
 simp[binOp,Op.shift,this,A0o]
 ·have f:k=k':=by simp_all
  subst f;cases op<;>simp[k0z]at hs<;>simp only[i0d]at h
  case add=>exact⟨_,_,h,fun _ _ _ _=>a0e.mk_int _,fun w=>by simp[binOp,Op.intArith]⟩
  case sub=>exact⟨_,_,h,fun _ _ _ _=>a0e.mk_int _,fun w=>by simp[binOp,Op.intArith]⟩
  case mul=>exact⟨_,_,h,fun _ _ _ _=>a0e.mk_int _,fun w=>by simp[binOp,Op.intArith]⟩
  case quo=>
   rcases a0b h with⟨-,h⟩|⟨a,h⟩
   grind
   have:¬ y=0:=by simp_all
   exact⟨_,_,h,fun _ _ _ _=>a0e.mk_int _,fun w=>by simp_all[binOp,Op.intDiv]⟩
  case rem=>
   rcases a0b h with⟨-,h⟩|⟨a,h⟩
   grind
   have:¬ y=0:=by simp_all
   exact⟨_,_,h,fun _ _ _ _=>a0e.mk_int _,fun w=>by simp_all[binOp,Op.intDiv]⟩
  case and=>exact⟨_,_,h,fun _ _ _ _=>a0e.mk_int _,fun w=>by simp[binOp,Op.intBits,bits]⟩
  case or=>exact⟨_,_,h,fun _ _ _ _=>a0e.mk_int _,fun w=>by simp[binOp,Op.intBits,bits]⟩
  case xor=>exact⟨_,_,h,fun _ _ _ _=>a0e.mk_int _,fun w=>by simp[binOp,Op.intBits,bits]⟩
  case andNot=>exact⟨_,_,h,fun _ _ _ _=>a0e.mk_int _,fun w=>by simp[binOp,Op.intBits,bits]⟩
  case eql=>exact⟨_,_,h,fun _ _ _ _=>a0e.mk_bool _,fun w=>by simp[binOp,Op.intCmp]⟩
  case neq=>exact⟨_,_,h,fun _ _ _ _=>a0e.mk_bool _,fun w=>by simp[binOp,Op.intCmp]⟩
  case lss=>exact⟨_,_,h,fun _ _ _ _=>a0e.mk_bool _,fun w=>by simp[binOp,Op.intCmp]⟩
  case leq=>exact⟨_,_,h,fun _ _ _ _=>a0e.mk_bool _,fun w=>by simp[binOp,Op.intCmp]⟩
  case gtr=>exact⟨_,_,h,fun _ _ _ _=>a0e.mk_bool _,fun w=>by simp[binOp,Op.intCmp]⟩
  case geq=>exact⟨_,_,h,fun _ _ _ _=>a0e.mk_bool _,fun w=>by simp[binOp,Op.intCmp]⟩
theorem u0p{s s':ByteArray}:((s.data.toList.map fun b=>(b.toNat:Int))==(s'.data.toList.map fun b=>(b.toNat:Int)))=(s.toList==s'.toList):=by
 have h:s.toList=s.data.toList:=ByteArray.toList_eq s;have g:s'.toList=s'.data.toList:=ByteArray.toList_eq s';rw[h,g,Bool.eq_iff_iff];simp only[beq_iff_eq]
 grind[List.map_inj_right,UInt8.toNat_inj]
theorem e0p{o:Oper}{ty ty':TypeId}{y:Operand}(f:o.op=.binOp op ty x y ty')(h:(eqGuard op ty x y (a.eval x) (a.eval y)).run P w=.ok () w)(g:(binOp op ty (a.eval x) (a.eval y)).run P w=.ok v w):(execOp a.eval o).run P w=.ok (.value v) w:=by
 simp_all[execOp]
theorem x0g(h:BinOp)(t:TypeId)(x y:Operand)(k:IntKind)(n:Int)(v:Value):(eqGuard h t x y (.int k n) v).run P w=.ok () w:=by
 rw[eqGuard_at_int];rfl
theorem v0q(h:BinOp)(t:TypeId)(x y:Operand)(n:Bool)(v:Value):(eqGuard h t x y (.bool n) v).run P w=.ok () w:=by
 simp[eqGuard_at_bool]
theorem x0h(h:BinOp)(t:TypeId)(x y:Operand)(n:ByteArray)(v:Value):(eqGuard h t x y (.string n) v).run P w=.ok () w:=by
 simp[eqGuard_at_string]
theorem j0y(h:BinOp)(t:TypeId)(x y:Operand)(n:Option Addr)(v:Value):(eqGuard h t x y (.pointer n) v).run P w=.ok () w:=by
 simp[eqGuard_at_pointer]
theorem y0g{ty:Nat}{t t':Ty}{u:t.den}{v:t'.den}{K:AV→Rs ρ}(hi:¬ ∃k k',t=.int k∧t'=.int k')(h:¬ (t=.bool∧t'=.bool))(g:¬ (t=.str∧t'=.str)):
  h0d cx op ty (.val t u) (.val t' v) K=k0t cx op ty t u t' v K:=by
 cases t<;>cases t'<;>first|rfl|exact absurd ⟨_,_,rfl,rfl⟩ hi|exact absurd ⟨rfl,rfl⟩ h|simp_all
theorem s0h(n:Nat){ty:TypeId}(h:P.underlying ty=some .bool)(u v:Bool)(w:World):(Op.equalIn (n+1) ty (.bool u) (.bool v)).run P w=.ok (u==v) w:=by
 simp[Op.equalIn,run_underlying h]
theorem p0d{ty:TypeId}(h:P.underlying ty=some .bool)(u v:Bool)(w:World):(Op.equal ty (.bool u) (.bool v)).run P w=.ok (u==v) w:=s0h 9999 h u v w
theorem t0q(n:Nat){ty e:TypeId}(g:P.underlying ty=some (.pointer e))(u v:Option Addr)(h:u=none∨v=none)(w:World):
  (Op.equalIn (n+1) ty (.pointer u) (.pointer v)).run P w=.ok (u.isNone&&v.isNone) w:=by
 rcases h with rfl|rfl;simp[Op.equalIn,run_underlying g];cases u<;>simp[Op.equalIn,run_underlying g]
theorem r0n(k:Nat){ty e:TypeId}(h:P.underlying ty=some (.slice e))(A:Option Addr)(n c:Nat)(w:World):
  (Op.equalIn (k+1) ty (.slice A n c) (.slice none 0 0)).run P w=.ok A.isNone w:=by
 cases A<;>simp[Op.equalIn,run_underlying h]
theorem s0u{ty:TypeId}(u v:Bool)(w:World):(binOp .eql ty (.bool u) (.bool v)).run P w=((Op.equal ty (.bool u) (.bool v)).run P w).andThen fun b w'=>.ok (.bool b) w':=by
 simp_all[binOp]
theorem s0w{ty:TypeId}(u v:Bool)(w:World):(binOp .neq ty (.bool u) (.bool v)).run P w=((Op.equal ty (.bool u) (.bool v)).run P w).andThen fun b w'=>.ok (.bool !b) w':=by
 simp_all[binOp]
theorem n0t{ty:TypeId}(u v:Option Addr)(w:World):(binOp .eql ty (.pointer u) (.pointer v)).run P w=((Op.equal ty (.pointer u) (.pointer v)).run P w).andThen fun b w'=>.ok (.bool b) w':=by
 simp_all[binOp]
theorem n0u{ty:TypeId}(u v:Option Addr)(w:World):(binOp .neq ty (.pointer u) (.pointer v)).run P w=((Op.equal ty (.pointer u) (.pointer v)).run P w).andThen fun b w'=>.ok (.bool !b) w':=by
 simp_all[binOp]
theorem y0h{ty:Nat}{u v:Bool}{K:AV→Rs ρ}{z:ρ}(f:CxTy P cx)(h:h0d cx op ty (.val .bool u) (.val .bool v) K=some z):
  ∃r,K (.val .bool r)=some z∧(binOp op ty (.bool u) (.bool v)).run P w=.ok (.bool r) w:=by
 simp only[h0d]at h
 split at h
 rename_i k;have g:=(f.T ty _ k).2;have a:P.underlying ty=some .bool:=by
  simp[a0g]at g
  grind
 split at h
 exact⟨_,h,by simp_all[s0u,p0d]⟩;exact⟨_,h,by rw[s0w,p0d a];rfl⟩;simp_all;simp_all
theorem z0l{ty:Nat}{s s':ByteArray}{m g rt Sh}{K:AV→Rs ρ}{z:ρ}(h:h0d cx op ty (.val .str (s.data.toList.map fun b=>(b.toNat:Int):List Int)) (.val .str (s'.data.toList.map fun b=>(b.toNat:Int):List Int)) K=some z):
  ∃r v,K r=some z∧a0e m g rt Sh r v∧(binOp op ty (.string s) (.string s')).run P w=.ok v w:=by
 simp only[h0d]at h
 split at h
 refine⟨_,_,h,a0e.mk_bool _,?_⟩;simp_all[u0p,binOp,Op.stringOp];refine⟨_,_,h,a0e.mk_bool _,?_⟩;simp_all[bne,u0p,binOp,Op.stringOp];rcases a0b h with⟨k,h⟩|⟨-,h⟩;have f:s.size+s'.size<2147483648:=by simp_all
 refine⟨_,.string (s++s'),h,?_,?_⟩
 have:=a0e.mk_str (m:=m) (g:=g) (rt:=rt) (Sh:=Sh) (s++s')
 simp_all
 have:¬ (9223372036854775807<(s.size:Int)+(s'.size:Int)):=by omega
 simp_all[binOp,Op.stringOp];simp_all;simp_all
theorem g0i{ty e:TypeId}(g:P.underlying ty=some (.pointer e))(u v:Option Addr)(h:u=none∨v=none)(w:World):
  (Op.equal ty (.pointer u) (.pointer v)).run P w=.ok (u.isNone&&v.isNone) w:=t0q 9999 g u v h w
theorem VOk.header{m Sh}{t:Ty}{l:List t.den}(h:VOk m Sh (.list false t) l v):
  ∃A n c,v=.slice A n c∧n=l.length∧n≤c∧(∀A',A=some A'→c=0∨A'.spot=none)∧(A=none→c=0):=by
 obtain⟨R,g,k⟩:=h.rd rfl rfl;have g:a0x m false t.cells (dec m t) (some v)=some (l,[],R):=g;unfold a0x at g
 split at g
 grind
 rename_i A n c hv;simp at hv
 split at g
 rename_i a
 split at g
 grind
 rename_i xs os d f;have b:=a0v n 0 f
 grind
 simp_all;simp_all
theorem w0h{P:Program}{o:Bool}(h:a0g P (.list o e) (.inl t)=true):∃t',P.underlying t=some (.slice t'):=by
 simp[a0g]at h
 grind
theorem v0k{o:Oper}{op:BinOp}{ty ty':TypeId}{x y:Operand}{d:Nat}{cx:Cx}{q:Bool}{K:AE→Rs ρ}{z:ρ}(C:CxTy P cx)(i:o.op=.binOp op ty x y ty')(hd:o.dst=some d)
  (h:Rel B Γ N (a0f a) w σ)(m:a.tmps.size=N)(hf:fits N o=true)(g:aop cx q o Γ K=some z):a0i P B N o a w K z:=by
 have D:=h.opd (a0s hf x (by simp[i,Op.operands]));have j:=h.opd (a0s hf y (by simp[i,Op.operands]));simp[aop,i,hd]at g;rcases a0b g with⟨-,g⟩|⟨-,g⟩
 ·
  split at g
  case h_2=>grind
  rename_i e J
  split at g
  grind
  ·unfold s0p at J
   split at J
   ·rename_i o1 F G l W M O;simp at J;rw[M]at D;rw[O]at j;obtain⟨A,n,c,hv,hn,V,-,hA⟩:=VOk.header D;have j:a.eval y=.slice none 0 0:=j;obtain⟨e',L⟩:=w0h (C.T ty _ W).2;have X:(Op.equal ty (a.eval x) (a.eval y)).run P w=.ok A.isNone w:=by
     rw[hv,j];exact r0n 9999 L A n c w
    have f:(eqGuard op ty x y (a.eval x) (a.eval y)).run P w=.ok () w:=by simp_all[eqGuard_at_slice]
    have Y:e=false→A.isNone=false:=fun I=>by
     cases A with
     |some A=>rfl
     |none=>
      grind
    unfold A0r at g
    split at g
    ·have H:K (Γ.set d (.val .bool A.isNone))=some z:=by
      rcases a0b g with⟨-,g⟩|⟨I,g⟩
      ·obtain⟨z1,z2⟩:=o0t g;cases hb:A.isNone
       all_goals omega
      grind
     exact a0i.set hd m (v:=.bool A.isNone) (e0p i f (by
      simp_all[binOp])) h (a0e.mk_bool _) H
    ·have H:K (Γ.set d (.val .bool (!A.isNone)))=some z:=by
      rcases a0b g with⟨-,g⟩|⟨I,g⟩
      all_goals grind[o0t]
     exact a0i.set hd m (v:=.bool (!A.isNone)) (e0p i f (by
      simp_all[binOp])) h (a0e.mk_bool _) H
    simp_all
   simp_all
 revert g D j
 cases M:Γ.opd x<;>cases O:Γ.opd y<;>intro D j g
 case val.val t u t' v=>
  by_cases hint:∃k k',t=.int k∧t'=.int k'
  obtain⟨k,k',rfl,rfl⟩:=hint;simp only[h0d]at g
  split at g
  rename_i hk;obtain⟨av,rv,H,U,R⟩:=t0r (P:=P) (t:=ty) (k':=k') (by simp_all) g;have F:=a0e.int D;have G:=a0e.int j;exact a0i.set hd m (e0p i (by grind[x0g]) (by simp_all)) h (U _ _ _ _) H;simp_all
  by_cases hb:t=.bool∧t'=.bool
  obtain⟨rfl,rfl⟩:=hb;have F:=a0e.bool D;have G:=a0e.bool j;obtain⟨r,H,Z⟩:=y0h (P:=P) (w:=w) C g;exact a0i.set hd m (e0p i (by grind[v0q]) (by simp_all)) h (a0e.mk_bool _) H
  by_cases hs:t=.str∧t'=.str
  obtain⟨rfl,rfl⟩:=hs;obtain⟨s,F,rfl⟩:=a0e.str D;obtain⟨s',G,rfl⟩:=a0e.str j;obtain⟨r,rv,H,R,Z⟩:=z0l (P:=P) (w:=w) g;exact a0i.set hd m (e0p i (by simp_all[x0h]) (by simp_all)) h R H;rw[y0g hint hb hs]at g;unfold k0t at g
  split at g
  rename_i ht;subst ht;rcases a0b g with⟨S,g⟩|⟨-,g⟩;simp at S;have I:=C.E ty _ S.1.1 S.2 S.1.2 (a0a w σ.ov) (Shr B w σ) u v (a.eval x) (a.eval y) w x y D j
  split at g
  exact a0i.set hd m (e0p i I.1.1 I.1.2) h (a0e.mk_bool _) g;exact a0i.set hd m (e0p i I.2.1 I.2.2) h (a0e.mk_bool _) g;simp_all;simp_all;simp_all
 case nilp.nilp=>
  simp only[h0d]at g
  split at g
  rename_i hp;obtain⟨e,L⟩:=C.Q ty hp;have F:a.eval x=.pointer none:=D;have G:a.eval y=.pointer none:=j
  split at g
  exact a0i.set hd m (v:=.bool true) (e0p i (by simp_all[j0y]) (by rw[F,G,n0t,g0i L none none (.inl rfl)];rfl)) h (a0e.mk_bool _) g;exact a0i.set hd m (v:=.bool false) (e0p i (by simp_all[j0y]) (by rw[F,G,n0u,g0i L none none (.inl rfl)];rfl)) h (a0e.mk_bool _) g;simp_all;simp_all
 case ptr.nilp n p=>
  simp only[h0d]at g
  split at g
  rename_i hp;obtain⟨e,L⟩:=C.Q ty hp;obtain⟨r,t,b,off,-,-,F⟩:=D;have G:a.eval y=.pointer none:=j
  split at g
  exact a0i.set hd m (v:=.bool false) (e0p i (by simp_all[j0y]) (by rw[F,G,n0t,g0i L (some ⟨b,off,none⟩) none (.inr rfl)];rfl)) h (a0e.mk_bool _) g;exact a0i.set hd m (v:=.bool true) (e0p i (by simp_all[j0y]) (by rw[F,G,n0u,g0i L (some ⟨b,off,none⟩) none (.inr rfl)];rfl)) h (a0e.mk_bool _) g;simp_all;simp_all
 all_goals (simp only[h0d]at g;cases g)
end
theorem c0u{A:Addr}(h:A.spot=none)(k:Nat):A.add k=⟨A.block,A.off+k,none⟩:=by
 obtain⟨b,o,s⟩:=A;simp_all[Addr.add_lit]
theorem g0n{t:Ty}{rd:Nat→Option Value}{x O R}(k:t.shn=t)(h:dec m t rd=some (x,O,R)):O=[]:=by
 obtain⟨g,f,-⟩:=k0w t h
 grind
theorem j0x{l:List α}{x:α}(h:m0k l i=some x):0≤i∧i.toNat<l.length∧l[i.toNat]?=some x:=by
 grind[m0k]
theorem VOk.elem{m Sh}{t:Ty}{l:List t.den}(e:t.sh=t)(h:VOk m Sh (.list false t) l v){i:Nat}{x:t.den}(j:l[i]?=some x):
  ∃A n c R,v=.slice (some A) n c∧A.spot=none∧n=l.length∧n≤c∧dec m t ((Src.at A.block (A.off+i*t.cells)).rd m)=some (x,[],R)∧Sh A.block∧∀b∈R,Sh b:=by
 obtain⟨R,g,s⟩:=h.rd rfl rfl;have g:a0x m false t.cells (dec m t) (some v)=some (l,[],R):=g;unfold a0x at g
 split at g
 simp_all;rename_i A n c hv;simp at hv
 split at g
 rename_i u
 split at g
 grind
 rename_i xs os D f;simp[l0q]at f;have w:=a0v n 0 f;simp at g
 split at g
 simp_all;simp only[sj,pJ]at g;obtain⟨rfl,-,rfl⟩:=g;have hi:i<n:=by grind
 obtain⟨y,B,C,o,p,a,d,hf,k,q,r⟩:=a0u n 0 i f hi;rw[j]at k;simp at k;subst k;simp at hf;have z:=g0n (Ty.shn_of_sh t e) hf
 grind
 simp_all;simp_all
theorem VOk.window{m Sh}{t:Ty}{l:List t.den}{A:Option Addr}{lo hi:Nat}(h:VOk m Sh (.list false t) l (.slice A n c))(T:lo≤hi)(U:hi≤n){A':Option Addr}(z:A'=if c=lo then A else A.map fun a=>a.add (lo*t.cells)):VOk m Sh (.list false t) ((l.take hi).drop lo) (.slice A' (hi-lo) (c-lo)):=by
 obtain⟨P,W,c0,x,H,q,d,C⟩:=h.header;simp at x;obtain⟨rfl,rfl,rfl⟩:=x;have j:∀B,A'=some B→c-lo=0∨B.spot=none:=by
  intro B o;rw[z]at o
  split at o
  omega
  ·cases A with
   |none=>simp_all
   |some a=>
    simp at o;rw[←o,c0u ((d a rfl).resolve_left (by omega))]
    simp
 by_cases he:lo=hi
 ·subst he;have e:(l.take lo).drop lo=[]:=by simp
  rw[e];refine VOk.one (t:=.list false t) (R:=[]) rfl rfl ?_ (by simp) rfl;show a0x m false t.cells (dec m t) (some (.slice A' (lo-lo) (c-lo)))=_;cases A' with
  |none=>
   have r:c-lo=0:=by
    split at z
    omega
    ·cases A with
     |none=>grind
     |some a=>simp_all
   simp[a0x,r];rfl
  |some B=>
   have I:=j B rfl;simp[a0x,I,a0d];rfl
 ·obtain⟨R,f,F⟩:=h.rd rfl rfl;have f:a0x m false t.cells (dec m t) (some (.slice A n c))=some (l,[],R):=f;cases A with
  |none=>simp_all
  |some a=>
   have u:=(d a rfl).resolve_left (by omega);simp only[a0x,l0q]at f;rw[if_pos ⟨.inr u,q⟩]at f
   split at f
   grind
   ·rename_i xs os X y;have G:n≠0:=by omega
    simp only[a22,if_false,G]at f;simp only[sj,pJ]at f;obtain⟨rfl,-,rfl⟩:=f;have p:A'=some ⟨a.block,a.off+lo*t.cells,none⟩:=by
     grind[c0u]
    subst p;rw[show n=lo+((hi-lo)+(n-hi))from by omega]at y;obtain⟨J,M,K,N,Q,D,rfl,rfl⟩:=d0l lo _ 0 y;obtain⟨v,w,L,O,E,S,rfl,rfl⟩:=d0l (hi-lo) _ (0+lo) D;have g:∀(k i:Nat),a0d (fun i=>dec m t ((Src.at a.block (a.off+lo*t.cells+i*t.cells)).rd m)) k i=a0d (fun i=>dec m t ((Src.at a.block (a.off+i*t.cells)).rd m)) k (lo+i):=by
     intro k
     induction k with
     |zero=>intro i;rfl
     |succ k ih=>
      grind[a0d]
    refine VOk.one (t:=.list false t) (R:=a.block::(v.map (·.1)++w)) rfl rfl ?_ (fun b V=>F b ?_) rfl;show a0x m false t.cells (dec m t) (some (.slice (some ⟨a.block,a.off+lo*t.cells,none⟩) (hi-lo) (c-lo)))=_;simp only[a0x,l0q];rw[if_pos ⟨.inr trivial,by omega⟩,g,show lo+0=0+lo from by omega,E];have s:¬ (hi-lo=0):=by omega
    have e:a17 (hi-lo) (a20 lo xs)=a20 lo (a17 hi xs):=by rw[a25]
    simp[s,e];rfl
    grind
section
variable {P:Program} {B:Base} {N:Nat} {ρ:Type} {Γ:AE} {a:Act} {w:World} {σ:Gh}
theorem m0e{n p}{K:(e:Ty)→List e.den→Rs ρ}{z:ρ}(h:Γ.body n p K=some z):∃r e l,Γ.pd=none∧Γ.rt n=some r∧b0c r.t r.x p=⟨.list true e,l⟩∧K e l=some z:=by
 grind[AE.body,a0o]
theorem v0d{n p}{K:(e:Ty)→List e.den→Rs ρ}{z:ρ}(h:Γ.bodyP n p K=some z):∃r e l,Γ.rt n=some r∧b0c r.t r.x p=⟨.list true e,l⟩∧K e l=some z:=by
 unfold AE.bodyP at h
 split at h
 rename_i r f
 split at h
 rename_i e l g;exact⟨r,e,l,f,g,h⟩;cases h;cases h
theorem g0v{len:Nat}{lo hi:Option Operand}{K:Nat→Nat→Rs ρ}{z:ρ}(h:Rel B Γ N (a0f a) w σ)(v:∀x,lo=some x→b0e N x=true)(u:∀x,hi=some x→b0e N x=true)
  (g:Γ.bnds len lo hi K=some z):∃x y,K x y=some z∧x≤y∧y≤len∧(lo=none→x=0)∧(hi=none→y=len)∧
   ∀s f,len≤f→(Instr.sliceBounds s len f (lo.map a.eval) (hi.map a.eval) none).run P w=.ok (x,y,f) w:=by
 have one:∀{m d:Nat}{o:Option Operand}{r:Nat→Rs ρ}{z:ρ},(∀x,o=some x→b0e N x=true)→d≤m→Γ.bnd m d o r=some z→
   ∃y,r y=some z∧y≤m∧(o=none→y=d)∧(∀x,o=some x→∃k,a.eval x=.int k (y:Int)):=by
  intro m d o r z A hd g;unfold AE.bnd at g;cases o with
  |none=>simp_all
  |some o=>
   simp only at g;have A:=h.opd (A o rfl)
   split at g
   rename_i k y q;rw[q]at A;rcases a0b g with⟨E,g⟩|⟨-,g⟩;simp at E;refine⟨y.toNat,g,by omega,by simp,?_⟩
   rintro x ⟨⟩
   exact⟨k,by grind[a0e.int]⟩;simp_all;simp_all
 unfold AE.bnds at g;obtain⟨y,g,C,p,D⟩:=one u (a12 _) g;obtain⟨x,g,l,e,j⟩:=one v (Nat.zero_le _) g;refine⟨x,y,g,l,C,e,p,fun s f c=>?_⟩;have t:∀(n m:Nat) k b,n≤m→(Instr.sliceBound (.int k (n:Int)) m b).run P w=.ok n w:=fun n m k b F=>by
  simp_all[Instr.sliceBound,asIntOf]
 cases hi with
 |none=>
  have:=p rfl
  subst this;cases lo with
  |none=>
   have:=e rfl
   simp_all[Instr.sliceBounds]
  |some o=>
   obtain⟨k,q⟩:=j o rfl;simp_all[Instr.sliceBounds]
 |some o'=>
  obtain⟨k',i⟩:=D o' rfl;cases lo with
  |none=>
   have:=e rfl
   subst this;simp[Instr.sliceBounds,i,t _ _ _ _ (a05 C c)]
  |some o=>
   obtain⟨k,q⟩:=j o rfl;simp[Instr.sliceBounds,q,i,t _ _ _ _ l,t _ _ _ _ (a05 C c)]
end
section
variable {P:Program} {B:Base} {N:Nat} {ρ:Type} {Γ:AE} {a:Act} {w:World} {σ:Gh}
theorem Rel.sref_head(h:Rel B Γ N (a0f a) w σ){n p v r}(k:a0e (a0a w σ.ov) σ.g Γ.rt (Shr B w σ) (.sref n p) v)(d:Γ.rt n=some r)(b:b0c r.t r.x p=⟨.list true e,l⟩):
  ∃s A c,loc (a0a w σ.ov) r.t (σ.g n) p=some (.list true e,s)∧s.rd (a0a w σ.ov) 0=some v∧v=.slice A l.length c∧l.length≤c∧(∀A',A=some A'→c=0∨A'.spot=none)∧(A=none→c=0):=by
 obtain⟨s,i,j,m,o,q,f,u,y⟩:=h.slice k d b;refine⟨s,?_⟩;rcases b0r f with⟨hv,rfl,-⟩|⟨A,E,c,os,hv,z,C,D,-⟩;simp[Src.rd]at hv
 grind
 simp[Src.rd]at hv
 grind[a0v]
theorem i0j{A:Option Addr}{x y:Nat}{lo hi:Option Value}(g:P.underlying t=some (.slice t'))(I:Info P e t')(h:(Instr.sliceBounds true n c lo hi none).run P w=.ok (x,y,c) w):
  (Instr.sliceAt t (.slice A n c) lo hi none).run P w=.ok (.slice (if c=x then A else A.map fun a=>a.add (x*e.cells)) (y-x) (c-x)) w:=by
 simp[Instr.sliceAt,Instr.slice,run_underlying g,h,I.sizeOf]
theorem s0f{ty:Option Ty}{v:AV}{K:AV→Rs ρ}{z:ρ}(h:n0g ty v K=some z):∃o e,ty=some (.list o e)∧K .empt=some z∧
  ((∃o t l,v=.val (.list o t) l)∨v=.nils∨v=.empt∨(∃n p,v=.sref n p)∨∃n p o k,v=.swin n p o k):=by
 unfold n0g at h
 grind
theorem v0n{o:Oper}{t:TypeId}{x:Operand}{lo hi mx:Option Operand}{d:Nat}{cx:Cx}{q:Bool}{K:AE→Rs ρ}{z:ρ}(H:CxTy P cx)(ho:o.op=.slice t x lo hi mx)(hd:o.dst=some d)
  (h:Rel B Γ N (a0f a) w σ)(Z:a.tmps.size=N)(hf:fits N o=true)(u:aop cx q o Γ K=some z):a0i P B N o a w K z:=by
 have h0:∀y∈(o.op.operands.toList),b0e N y=true:=a0s hf;rw[ho]at h0;have C:=h.opd (h0 x (by simp[Op.operands]));have S:∀y,lo=some y→b0e N y=true:=by rintro y rfl;simp_all[Op.operands]
 have Q:∀y,hi=some y→b0e N y=true:=by rintro y rfl;simp_all[Op.operands]
 have run:∀v,(Instr.sliceAt t (a.eval x) (lo.map a.eval) (hi.map a.eval) (mx.map a.eval)).run P w=.ok v w→(execOp a.eval o).run P w=.ok (.value v) w:=fun v hv=>by simp[execOp,ho,hv]
 simp[aop,ho,hd,AE.slic]at u;cases mx with
 |some m=>
  simp only at u;rcases a0b u with⟨hc,k3⟩|⟨-,u⟩;simp at hc;obtain⟨⟨hm,hh⟩,rfl⟩:=hc;clear u;have X:∀y:Option Operand,l0a y=true→∃k,y.map a.eval=some (.int k 0):=by
   intro y hy;unfold l0a at hy
   split at hy
   rename_i k;exact⟨k,rfl⟩;simp_all
  obtain⟨km,em⟩:=X _ hm;obtain⟨kh,eh⟩:=X _ hh;obtain⟨o1,e1,M,u,h7⟩:=s0f k3;obtain⟨W,hty⟩:=H.T t _ M;obtain⟨t',L,f,-⟩:=b0l hty;obtain⟨I⟩:=a0k (a0p f);have key:∀(A:Option Addr) n c,a.eval x=.slice A n c→a0i P B N o a w K z:=by
   intro A n c hv;have h6:(Instr.sliceBounds true n c none (hi.map a.eval) (some (.int km 0))).run P w=.ok (0,0,0) w:=by
    rw[eh];rfl
   refine a0i.set hd Z (v:=.slice A 0 0) (run _ ?_) h (av:=.empt) ⟨A,rfl⟩ u;rw[hv,em];simp[Instr.sliceAt,Instr.slice,run_underlying L,h6,I.sizeOf]
  rcases h7 with⟨o2,e2,l2,D⟩|D|D|⟨n,p,D⟩|⟨n,p,off,k,D⟩;rw[D]at C;have C:VOk (a0a w σ.ov) (Shr B w σ) (.list o2 e2) l2 (a.eval x):=C;obtain⟨R,G,Y⟩:=C.rd rfl rfl;have G:a0x (a0a w σ.ov) o2 e2.cells (dec (a0a w σ.ov) e2) (some (a.eval x))=some (l2,[],R):=G;unfold a0x at G
  grind
  rw[D]at C;exact key none 0 0 C;rw[D]at C;obtain⟨A,hv⟩:=C;simp_all;rw[D]at C;obtain⟨r,e,s,G,Y,h3⟩:=C;obtain⟨O',R,g1,g2,-⟩:=h.sep G;obtain⟨y,O1,R1,_,_,_,_,g3,g4,-⟩:=b0h _ r.t _ g1 Y;obtain⟨s',A,c,-,-,hv,-,hA,-⟩:=h.sref_head ⟨r,e,s,G,Y,h3⟩ G g4;simp_all;rw[D]at C;obtain⟨r,e,s,a0,l0,c0,G,Y,h3,h4,a',hv,hA,-⟩:=C;simp_all;simp_all
 |none=>
  simp only at u
  split at u
  
  rename_i l D;rw[D]at C;obtain⟨s,hv,hl⟩:=a0e.str C
  split at u
  rename_i M;have hty:=(H.T t _ M).2;have L:P.underlying t=some .string:=by
   simp[a0g]at hty
   grind
  obtain⟨E,y',V,G,Y,-,-,O⟩:=g0v h S Q u;have k1:l.length=s.size:=by simp_all
  refine a0i.set hd Z (v:=.string (s.extract E y')) (run _ ?_) h ?_ V;rw[hv];have g9:(Instr.sliceBounds false s.size s.size (lo.map a.eval) (hi.map a.eval) none).run P w=.ok (E,y',s.size) w:=by
   have:=O false s.size (by omega)
   rw[←k1]at this⊢;omega
  simp
  simp[Instr.sliceAt,Instr.slice,run_underlying L,g9]
  have:=a0e.mk_str (m:=a0a w σ.ov) (g:=σ.g) (rt:=Γ.rt) (Sh:=Shr B w σ) (s.extract E y')
  simp_all[a25];simp_all
  
  rename_i e l D;rw[D]at C
  split at u
  rename_i M;obtain⟨W,hty⟩:=H.T t _ M;obtain⟨t',L,f,-⟩:=b0l hty;obtain⟨I⟩:=a0k (a0p f);obtain⟨E,y',V,G,Y,-,-,O⟩:=g0v h S Q u;obtain⟨A,n,c,hv,hn,hc,hA,h9⟩:=VOk.header C;have k2:VOk (a0a w σ.ov) (Shr B w σ) (.list false e) l (.slice A n c):=by rw[←hv];exact C
  refine a0i.set hd Z (run _ (by rw[hv];exact i0j L I (by rw[hn];exact O true c (by omega)))) h ?_ V;exact VOk.window k2 G (by omega) rfl;simp_all
  
  rename_i D;rw[D]at C
  split at u
  rename_i o1 e1 M;obtain⟨W,hty⟩:=H.T t _ M;obtain⟨t',L,f,-⟩:=b0l hty;obtain⟨I⟩:=a0k (a0p f);obtain⟨E,y',V,G,Y,-,-,O⟩:=g0v h S Q u;obtain rfl:y'=0:=by omega
  obtain rfl:E=0:=by omega
  have hv:a.eval x=.slice none 0 0:=C;refine a0i.set hd Z (v:=.slice none 0 0) (run _ ?_) h (av:=.nils) rfl V;rw[hv,Option.map_none]
  have:=i0j (A:=none) L I (O true 0 (by omega))
  simp_all;simp_all
  ·
   rename_i n p D;rw[D]at C;obtain⟨r,e,l,k0,hr,hg,u⟩:=m0e u
   split at u
   ·rename_i M;obtain⟨W,hty⟩:=H.T t _ M;obtain⟨t',L,f,-⟩:=b0l hty;rw[c0p]at f;obtain⟨I⟩:=a0k (a0p f);obtain⟨s,A,c,g1,g2,hv,g3,hA,h9⟩:=h.sref_head C hr hg
    split at u
    refine a0i.set hd Z (v:=a.eval x) (run _ ?_) h C u;rw[hv];have O:(Instr.sliceBounds true l.length c none none none).run P w=.ok (0,l.length,c) w:=by rfl
    have:=i0j (A:=A) L I O
    simp_all[Addr.add_zero']
    ·obtain⟨E,y',V,G,Y,-,-,O⟩:=g0v h S Q u;refine a0i.set hd Z (run _ (by rw[hv];exact i0j L I (O true c g3))) h (av:=.swin n p E (y'-E)) ?_ V;refine⟨r,e,s,A,l.length,c,hr,g1,by simp_all,by omega,_,rfl,?_,?_⟩
     ·intro A' h5
      split at h5
      omega
      ·cases A with
       |none=>simp_all
       |some a0=>
        simp at h5;rw[←h5,c0u ((hA a0 rfl).resolve_left (by omega))]
        simp
     grind
   simp_all
  ·
   rename_i n p off k D;rw[D]at C;obtain⟨r,e,l,k0,hr,hg,u⟩:=m0e u
   split at u
   ·rename_i M;obtain⟨W,hty⟩:=H.T t _ M;obtain⟨t',L,f,-⟩:=b0l hty;rw[c0p]at f;obtain⟨I⟩:=a0k (a0p f);obtain⟨s,O',R',A,n0,c,g1,g2,g3,g4,g5,g6,A',hv,g7,g8⟩:=h.window C hr hg;obtain⟨E,y',V,G,Y,-,-,O⟩:=g0v h S Q u;have k6:n0≤c:=by
     rcases b0r g3 with⟨F,-⟩|⟨A0,nn,c',os,F,-,k5,-⟩<;>simp only[Src.rd,if_true,sj,Value.slice.injEq]at F<;>omega
    refine a0i.set hd Z (run _ (by rw[hv];exact i0j L I (O true (c-off) (by omega)))) h (av:=.swin n p (off+E) (y'-E)) ?_ V;refine⟨r,e,s,A,n0,c,hr,g1,g2,by omega,_,by rw[show c-(off+E)=c-off-E from by omega],?_,?_⟩
    ·intro k4 U
     split at U
     omega
     ·cases A' with
      |none=>simp_all
      |some a0=>
       simp at U;rw[←U,c0u ((g7 a0 rfl).resolve_left (by omega))]
       simp
    ·by_cases hcc:c-off=E
     omega
     ·refine .inr ?_
      rw[if_neg hcc];rcases g8 with g8|g8;omega
      ·rw[g8];cases A with
       |none=>rfl
       |some a0=>
        have g0:a0.spot=none:=by
         rcases b0r g3 with⟨F,-⟩|⟨A0,nn,c',os,F,k7,-⟩;simp[Src.rd]at F;simp[Src.rd]at F
         grind
        simp only[Option.map_some,c0u g0];rw[c0u rfl]
        grind
   simp_all
  
  rename_i k e l D;rw[D]at C
  split at u
  rename_i M;obtain⟨W,hty⟩:=H.T t _ M;obtain⟨t',L,f,-⟩:=g0s hty;obtain⟨I⟩:=a0k (a0p f);obtain⟨E,y',V,G,Y,-,-,O⟩:=g0v h S Q u;obtain⟨b,off,R,hv,J,hS,hR⟩:=C;have F:VOk (a0a w σ.ov) (Shr B w σ) (.list false e) l (.slice (some ⟨b,off,none⟩) k k):=by
   have J:a0d (fun i=>dec (a0a w σ.ov) e fun j=>(Src.at b off).rd (a0a w σ.ov) (i*e.cells+j)) k 0=some (l,[],R):=J;have h8:=a0v k 0 J
   by_cases hk:k=0
   subst hk;refine VOk.one (t:=.list false e) (R:=[]) rfl rfl ?_ (by simp) rfl
   have:l=[]:=List.length_eq_zero_iff.1 h8
   subst this;rfl;refine VOk.one (t:=.list false e) (R:=b::R) rfl rfl ?_ (fun c hc=>?_) rfl;show a0x _ false e.cells _ (some (.slice (some ⟨b,off,none⟩) k k))=_;simp only[a0x];rw[if_pos ⟨.inr trivial,a12 _⟩];have e2:a0d (fun i=>dec (a0a w σ.ov) e fun j=>a0a w σ.ov b (off+(i*e.cells+j))) k 0=some (l,[],R):=J;rw[e2];simp only[a22,if_false,hk];rfl
   grind
  refine a0i.set hd Z (v:=.slice (some (if k=E then⟨b,off,none⟩else(⟨b,off,none⟩:Addr).add (E*e.cells))) (y'-E) (k-E)) (run _ ?_) h ?_ V
  rw[hv];have h6:=O false k (a12 _)
  simp
  simp[Instr.sliceAt,run_underlying L,Instr.sureAddr];rw[h6];simp[I.sizeOf];exact VOk.window F G (by omega) (by grind);simp_all;simp_all
end
section
variable {P:Program} {B:Base} {N:Nat} {ρ:Type} {Γ:AE} {a:Act} {w:World} {σ:Gh}
@[reducible] def h0c:=Nat→Option ((t:Ty)×t.den)
def GOk(G:h0c)(B:Base):Prop:=
 ∀g t x,G g=some ⟨t,x⟩→g<B.size∧B.S g∧¬ B.F g∧∃w0:World,w0.heap[g]?=B.hp g∧dec (a0a w0 none) t ((Src.at g 0).rd (a0a w0 none))=some (x,[],[])
theorem Rel.glob{tm:Nat→Value}{cx:Cx}(h:Rel B Γ N tm w σ)(A:GOk cx.G B){av:AV}{v:Value}(k:a0e (a0a w σ.ov) σ.g Γ.rt (Shr B w σ) av v):
  a0e (a0a w σ.ov) σ.g Γ.rt (Shr B w σ) (cx.glob av) v:=by
 cases av with
 |glob g=>
  simp[Cx.glob];split
  ·rename_i t x C;obtain⟨i,l,m,c,s,y⟩:=A g t x C;have f:¬ a0r σ g:=fun F=>by
    rcases h.mine _ F with q|q
    all_goals grind
   have D:=h.size;refine⟨g,0,[],k,a0j t y (fun j _=>?_) (by simp),⟨by omega,.inl l,f⟩,by simp⟩;show a0a w σ.ov g (0+j)=a0a c none g (0+j);have z:a0a w none g (0+j)=a0a c none g (0+j):=b0g none ((h.frame g i m).trans s.symm) _;rw[←z];cases hov:σ.ov with
   |none=>rfl
   |some ov=>
    obtain⟨b,o,u⟩:=ov;have hp:=h.pend;rw[hov]at hp;cases hpd:Γ.pd with
    |none=>rw[hpd]at hp;exact hp.elim
    |some p=>
     obtain⟨n,p,d⟩:=p;rw[hpd]at hp;obtain⟨r,e,q1,a⟩:=hp;rw[←hov]at a;have H:=h.place q1 a;have E:¬ (g=b∧0+j=o):=fun I=>f ⟨n,by simp_all⟩;simp_all[a0a]
  trivial
 |_=>exact k
theorem k0m{A:Addr}{k:IntKind}(b:P.underlying t=some (.slice t'))(I:Info P e t')(f:A.spot=none)(h:0≤i)(g:i<n):
  (Instr.indexAt t (.slice (some A) n c) (.int k i)).run P w=.ok (.pointer (some ⟨A.block,A.off+i.toNat*e.cells,none⟩)) w:=by
 have a:0≤i∧i<(n:Int):=⟨h,g⟩;simp[Instr.indexAt,run_underlying b,asIntOf,a,I.sizeOf,c0u f]
theorem l0c{k:IntKind}(a:P.underlying t=some (.array n t'))(I:Info P e t')(h:0≤i)(g:i<n):
  (Instr.indexAt t (.pointer (some ⟨b,o,none⟩)) (.int k i)).run P w=.ok (.pointer (some ⟨b,o+i.toNat*e.cells,none⟩)) w:=by
 have f:0≤i∧i<(n:Int):=⟨h,g⟩;simp[Instr.indexAt,run_underlying a,asIntOf,f,I.sizeOf,Instr.sureAddr,Addr.add_lit]
theorem q0c{o:Oper}{t:TypeId}{x i:Operand}{d:Nat}{cx:Cx}{q:Bool}{K:AE→Rs ρ}{z:ρ}(D:CxTy P cx)(hG:GOk cx.G B)(ho:o.op=.indexAddr t x i)(hd:o.dst=some d)
  (h:Rel B Γ N (a0f a) w σ)(X:a.tmps.size=N)(hf:fits N o=true)(g:aop cx q o Γ K=some z):a0i P B N o a w K z:=by
 have E:∀y∈(o.op.operands.toList),b0e N y=true:=a0s hf;rw[ho]at E;have H:=h.glob hG (h.opd (E x (by simp[Op.operands])));have hi:=h.opd (E i (by simp[Op.operands]));have run:∀v,(Instr.indexAt t (a.eval x) (a.eval i)).run P w=.ok v w→(execOp a.eval o).run P w=.ok (.value v) w:=fun v hv=>by simp[execOp,ho,hv]
 simp[aop,ho,hd]at g
 split at g
 case h_2=>grind
 rename_i k j h4;rw[h4]at hi;have h5:=a0e.int hi;rw[h5]at run;simp[AE.addrK]at g
 split at g
 
 rename_i e l L;rw[L]at H
 split at g
 rename_i J;obtain⟨F,hty⟩:=D.T t _ J;obtain⟨t',Q,f,-⟩:=b0l hty;obtain⟨I⟩:=a0k (a0p f);obtain⟨y,M,g⟩:=a09.1 g;obtain⟨h0,W,U⟩:=j0x M;have Z:e.sh=e:=by simpa[Ty.sh]using F
 obtain⟨A,n,c,R,hv,hA,hn,h7,m,hS,hR⟩:=VOk.elem Z H U;refine a0i.set hd X (run _ (by rw[hv];exact k0m Q I hA h0 (by omega))) h (av:=.vptr e y) ?_ g;exact⟨A.block,A.off+j.toNat*e.cells,R,rfl,m,hS,hR⟩;simp_all
 ·
  rename_i n p L;rw[L]at H;obtain⟨r,e,l,O,M,g⟩:=v0d g
  split at g
  ·rename_i J;obtain⟨F,hty⟩:=D.T t _ J;obtain⟨t',Q,f,-⟩:=b0l hty;rw[c0p]at f;obtain⟨I⟩:=a0k (a0p f);rcases a0b g with⟨C,g⟩|⟨-,g⟩
   ·simp at C;obtain⟨s,A,c,g1,g2,hv,g3,hA,g9⟩:=h.sref_head H O M;cases A with
    |none=>grind
    |some A=>
     refine a0i.set hd X (run _ (by rw[hv];exact k0m Q I ((hA A rfl).resolve_left (by omega)) C.1 C.2)) h (av:=.ptr n (p++[.idx j.toNat])) ?_ g;refine⟨r,e,A.block,A.off+j.toNat*e.cells,O,?_,rfl⟩;rw[c0x p _ _ _ g1];simp_all[a0t]
   simp_all
  simp_all
 
 rename_i n p off k' L;rw[L]at H;obtain⟨r,e,l,k2,O,M,g⟩:=m0e g
 split at g
 rename_i J;obtain⟨F,hty⟩:=D.T t _ J;obtain⟨t',Q,f,-⟩:=b0l hty;rw[c0p]at f;obtain⟨I⟩:=a0k (a0p f);rcases a0b g with⟨C,g⟩|⟨-,g⟩;simp at C;obtain⟨s,O',R',A,n0,c,g1,g2,g3,g4,g5,g6,A',hv,g7,V⟩:=h.window H O M;have h7:n0≤c:=by
  rcases b0r g3 with⟨u,-⟩|⟨A0,nn,c',os,u,-,h6,-⟩<;>simp only[Src.rd,if_true,sj,Value.slice.injEq]at u<;>omega
 rcases b0r g3 with⟨u,-⟩|⟨A0,nn,c',os,u,S,h6,-⟩;simp[Src.rd]at u;omega;simp[Src.rd]at u;obtain⟨rfl,rfl,rfl⟩:=u;have S:A0.spot=none:=S.resolve_left (by omega);rcases V with V|V;omega;simp[c0u S]at V;subst V;refine a0i.set hd X (run _ (by rw[hv];exact k0m Q I rfl C.1 C.2)) h (av:=.ptr n (p++[.idx (off+j.toNat)])) ?_ g;refine⟨r,e,A0.block,A0.off+(off+j.toNat)*e.cells,O,?_,by grind⟩;rw[c0x p _ _ _ g1];have k1:off+j.toNat<n0:=by omega
 simp_all[a0t];simp_all;simp_all
 
 rename_i n p L;rw[L]at H
 split at g
 rename_i r O
 split at g
 rename_i k' e l' M
 split at g
 rename_i J;obtain⟨F,hty⟩:=D.T t _ J;obtain⟨t',Q,f,-⟩:=g0s hty;rw[c0p]at f;obtain⟨I⟩:=a0k (a0p f);rcases a0b g with⟨C,g⟩|⟨-,g⟩;simp at C;obtain⟨r',tt,b,off,W,U,h3⟩:=H;rw[O]at W;simp at W;subst W;obtain⟨O1,R1,l1,l2,-⟩:=h.sep O;obtain⟨y,O',R',_,_,_,_,g3,g4,-⟩:=b0h p r.t _ l1 U;rw[M]at g4;have h9:Ty.arr k' e=tt:=congrArg Sigma.fst g4;subst h9;refine a0i.set hd X (run _ (by rw[h3];exact l0c Q I C.1 C.2)) h (av:=.ptr n (p++[.idx j.toNat])) ?_ g;refine⟨r,e,b,off+j.toNat*e.cells,O,?_,rfl⟩;rw[c0x p _ _ _ U];simp_all[a0t];simp_all;simp_all;simp_all;simp_all
 
 rename_i k' e l L;rw[L]at H
 split at g
 rename_i J;obtain⟨F,hty⟩:=D.T t _ J;obtain⟨t',Q,f,-⟩:=g0s hty;obtain⟨I⟩:=a0k (a0p f);obtain⟨y,M,g⟩:=a09.1 g;obtain⟨h0,W,U⟩:=j0x M;obtain⟨b,off,R,hv,m,hS,hR⟩:=H;have m:a0d (fun i=>dec (a0a w σ.ov) e fun j=>(Src.at b off).rd (a0a w σ.ov) (i*e.cells+j)) k' 0=some (l,[],R):=m;simp[d0w]at m;have g0:=a0v k' 0 m;obtain⟨y',o',r',A,B',A',k0,Y,hy,e1,e2⟩:=a0u k' 0 j.toNat m (by omega);rw[U]at hy;simp at hy;subst hy;have h8:o'=[]:=by
  simp_all
 subst h8;simp at Y;refine a0i.set hd X (run _ (by rw[hv];exact l0c Q I h0 (by omega))) h (av:=.vptr e y) ?_ g;exact⟨b,off+j.toNat*e.cells,r',rfl,Y,hS,fun c C=>hR c (by grind)⟩;simp_all;simp_all
theorem q0b{o:Oper}{t:TypeId}{x:Operand}{f d:Nat}{cx:Cx}{q:Bool}{K:AE→Rs ρ}{z:ρ}(u:CxTy P cx)(G:o.op=.fieldAddr t x f)(hd:o.dst=some d)
  (h:Rel B Γ N (a0f a) w σ)(V:a.tmps.size=N)(hf:fits N o=true)(e:aop cx q o Γ K=some z):a0i P B N o a w K z:=by
 have j:∀y∈(o.op.operands.toList),b0e N y=true:=a0s hf;rw[G]at j;have C:=h.opd (j x (by simp[Op.operands]));have run:∀v,(Instr.fieldAt t (a.eval x) f).run P w=.ok v w→(execOp a.eval o).run P w=.ok (.value v) w:=fun v hv=>by simp[execOp,G,hv]
 simp[aop,G,hd]at e
 split at e
 rename_i n p F;rw[F]at C
 split at e
 rename_i r I;generalize hg:b0k p r.t r.x=gg at e;obtain⟨D,y⟩:=gg;simp only at e
 split at e
 rename_i l;obtain⟨J,hty⟩:=u.T t _ l.2;rw[c0p]at hty;obtain⟨τ',k,X,W⟩:=k0l (w:=w) (b:=0) (o:=0) hty l.1;obtain⟨r',t1,b,off,E,U,h3⟩:=C;rw[I]at E;simp at E;subst E;obtain⟨O1,R1,l1,l2,-⟩:=h.sep I;obtain⟨y',O,Q,_,_,_,_,S,i,-⟩:=b0h p r.t _ l1 U;have i:=hg.symm.trans i;have s:D=t1:=congrArg Sigma.fst i;subst s;obtain⟨τ2,M,m,g⟩:=k0l (P:=P) (w:=w) (b:=b) (o:=off) hty l.1;refine a0i.set hd V (run _ (by rw[h3];omega)) h (av:=.ptr n (p++b0f f)) ?_ e;exact⟨r,τ2,b,off+M,I,by rw[c0x p _ _ _ U];simp_all,rfl⟩;simp_all;simp_all;rename_i D y F;rw[F]at C
 split at e
 rename_i l;obtain⟨J,hty⟩:=u.T t _ l.2;obtain⟨b,off,R,hv,A,hS,hR⟩:=C;obtain⟨τ2,M,m,g⟩:=k0l (P:=P) (w:=w) (b:=b) (o:=off) hty l.1;generalize hg:b0k (b0f f) D y=gg at e;obtain⟨t2,y2⟩:=gg;simp only at e;obtain⟨y',O,Q,A1,B1,Y,Z,S,i,e1,e2⟩:=b0h (b0f f) D (.at b off) A (g _ _ _);have i:=hg.symm.trans i;have s:t2=τ2:=congrArg Sigma.fst i;subst s;have L:=eq_of_heq (Sigma.mk.inj i).2;subst L;have H:O=[]:=by
  simp_all
 subst H;refine a0i.set hd V (run _ (by rw[hv];omega)) h (av:=.vptr t2 y2) ?_ e;exact⟨b,off+M,Q,rfl,S,hS,fun c l=>hR c (by grind)⟩;simp_all;simp_all
theorem Rel.lod{tm:Nat→Value}{ty:Ty}{t:TypeId}{av:AV}{u:Value}{q:Bool}{K:AV→AE→Rs ρ}{z:ρ}(hty:a0g P ty (.inl t)=true)(h6:ty.sh=ty)
  (h:Rel B Γ N tm w σ)(hx:a0e (a0a w σ.ov) σ.g Γ.rt (Shr B w σ) av u)(i:Γ.lodK q ty av K=some z):
  ∃v Γ' σ' av',(Instr.loadAt t u).run P w=.ok v w∧Rel B Γ' N tm w σ'∧a0e (a0a w σ'.ov) σ'.g Γ'.rt (Shr B w σ') av' v∧K av' Γ'=some z∧
   ((Γ'=Γ∧σ'=σ)∨(q=false∧∃n,av=.ptr n []∧Γ'=(Γ.mapv (AV.drop n)).setRt n none)):=by
 simp[AE.lodK]at i
 split at i
 ·
  rename_i M y
  split at i
  ·rename_i o;subst o;obtain⟨b,off,R,hv,J,hS,hR⟩:=hx;have f:∀j,j<M.cells→w.cell? ⟨b,off+j,none⟩=a0a w σ.ov b (off+j):=by
    intro j _;cases a:σ.ov with
    |none=>rfl
    |some y0=>
     obtain⟨b',o',v'⟩:=y0;simp only[a0a];rw[if_neg]
     rintro⟨rfl,-⟩
     have hp:=h.pend;cases s:Γ.pd with
     |none=>rw[s,a]at hp;exact hp
     |some y1=>
      obtain⟨n,p,dd⟩:=y1;rw[s,a]at hp;obtain⟨r,e,F,hl⟩:=hp;rw[←a]at hl;exact hS.2.2 ⟨n,h.place F hl⟩
   obtain⟨v,C,k⟩:=i0r (P:=P) (w:=w) (Sh:=Shr B w σ) hty J f hR;exact⟨_,_,_,.val M y,(by simp_all),h,k,i,.inl ⟨rfl,rfl⟩⟩
  simp_all
 ·
  rename_i n p
  split at i
  ·rename_i r F;obtain⟨s,F⟩:=a0o F;have a:σ.ov=none:=by
    have hp:=h.pend;rw[s]at hp;cases a:σ.ov with
    |none=>rfl
    |some y=>rw[a]at hp;exact hp.elim
   have f:∀b j,w.cell? ⟨b,j,none⟩=a0a w σ.ov b j:=fun b j=>by rw[a];rfl
   obtain⟨r',t1,b,off,T,O,h3⟩:=hx;rw[F]at T;simp at T;subst T;obtain⟨O1,R1,l1,l2,l3,l4,l5,l6⟩:=h.sep F;obtain⟨y',O',R',A1,B1,h0,h4,S,G,e1,e2⟩:=b0h p r.t _ l1 O
   split at i
   rename_i e l U;rw[U]at G;have o:Ty.list true e=t1:=congrArg Sigma.fst G;subst o
   split at i
   rename_i E;obtain⟨v,hv,hs⟩:=e0c _ S 0 (by simp[Ty.cells]);have hw:w.cell? ⟨b,off,none⟩=some v:=by rw[f];exact hv
   have I:ty.isAgg=false:=by cases ty<;>first|rfl|cases E
   refine⟨v,Γ,σ,.sref n p,?_,h,⟨r,e,.at b off,F,O,hv⟩,i,.inl ⟨rfl,rfl⟩⟩;rw[h3];simp[Instr.loadAt,Instr.sureAddr,loadVar,e0v hty,I,hw];simp_all;rename_i M y h5 U;rw[U]at G;have o:M=t1:=congrArg Sigma.fst G;subst o;have Y:=eq_of_heq (Sigma.mk.inj G).2;subst Y
   split at i
   rename_i d;obtain⟨d,L⟩:=d;have X:=g0n L S;subst X;obtain⟨v,C,k⟩:=i0r (P:=P) (w:=w) (Sh:=Shr B w σ) (t:=t) (by grind[c0p]) S (fun j _=>f b (off+j)) (fun c Z=>l2 c (by simp_all));exact⟨_,_,_,.val M y,(by simp_all),h,k,i,.inl ⟨rfl,rfl⟩⟩
   split at i
   split at i
   rename_i d;subst d;simp[a0t]at O;obtain⟨rfl,V⟩:=O;obtain⟨R2,k1,k2⟩:=k0w _ l1;rw[V]at k1;have D:=h.drop (n:=n) (by simp_all);have H:∀c∈R2,Shr B w ⟨σ.g,fun m=>if m=n then[]else σ.ow m,σ.ov⟩ c:=by
    intro c Z;rcases k2 c Z with g|g;have A:a0r σ c:=⟨n,l4 c g⟩;refine⟨h.lt A,.inr (h.mine c A),fun⟨m,Q⟩=>?_⟩;have Q:c∈(if m=n then[]else σ.ow m).map (·.1):=Q
    split at Q
    simp_all;rename_i W;exact h.disj m n W c Q (l4 c g);exact Rel.shr_gone c (l2 c g)
   obtain⟨v,C,k⟩:=i0r (P:=P) (w:=w) (m:=a0a w σ.ov) (t:=t) (by grind[c0p,Ty.sh_shn]) k1 (fun j _=>f b (off+j)) H;exact⟨_,_,_,.val r.t.shn (Ty.shnx r.t r.x),(by simp_all),D,k,i,.inr ⟨rfl,n,rfl,rfl⟩⟩;simp_all;simp_all
  simp_all
 simp_all
theorem w0y{o:Oper}{t:TypeId}{x:Operand}{d:Nat}{cx:Cx}{q:Bool}{K:AE→Rs ρ}{z:ρ}(F:CxTy P cx)(U:GOk cx.G B)(J:o.op=.load t x)(hd:o.dst=some d)
  (h:Rel B Γ N (a0f a) w σ)(V:a.tmps.size=N)(hf:fits N o=true)(C:aop cx q o Γ K=some z):a0i P B N o a w K z:=by
 have k:∀y∈(o.op.operands.toList),b0e N y=true:=a0s hf;rw[J]at k;have hx:=h.glob U (h.opd (k x (by simp[Op.operands])));have run:∀v,(Instr.loadAt t (a.eval x)).run P w=.ok v w→(execOp a.eval o).run P w=.ok (.value v) w:=fun v hv=>by simp[execOp,J,hv]
 simp[aop,J,hd]at C
 split at C
 case h_2=>grind
 rename_i ty X;obtain⟨h0,hty⟩:=F.T t _ X
 split at C
 case h_2=>
  grind[Rel.lod,a0i.set]
 rename_i n r f;have f:Γ.whole (cx.K d) ty (Γ.opd x)=some (n,r):=by
  grind
 unfold AE.whole at f
 split at f
 ·rename_i m L
  split at f
  ·rename_i e I
   split at f
   ·rename_i Y;simp at f;obtain⟨rfl,rfl⟩:=f;obtain⟨E,-,-,s⟩:=Y;obtain⟨p,Q⟩:=a0o I;have l:σ.ov=none:=by
     have hp:=h.pend;rw[p]at hp;cases l:σ.ov with
     |none=>rfl
     |some y=>rw[l]at hp;exact hp.elim
    have A:=h.opd (k x (by simp[Op.operands]));rw[L]at A;obtain⟨r2,t1,b,off,D,O,h3⟩:=A;rw[Q]at D;simp at D;subst D;obtain⟨M,Z,c⟩:=h.frzBox Q E p;simp[a0t]at O;obtain⟨-,i⟩:=O;rw[Z]at i;simp at i;obtain⟨rfl,rfl⟩:=i;obtain⟨O',R,k1,k2,k3⟩:=(c.roots m ⟨true,e.t.shn,Ty.shnx e.t e.x⟩ (by simp[AE.setRt])).rd;have W:=g0n (Ty.shn_shn e.t) k1;subst W;have H:(Src.at M 0).rd (a0a w σ.ov)=(σ.g m).rd (a0a w σ.ov):=by grind
    obtain⟨v,S,u⟩:=i0r (P:=P) (w:=w) (m:=a0a w σ.ov) (τ:=e.t.shn) (b:=M) (o:=0) (by rw[←c0p,Ty.sh_shn,s];omega) (by rw[H];omega) (fun j _=>by rw[l];rfl) k2;exact a0i.set hd V (av:=.val e.t.shn (Ty.shnx e.t e.x)) (run _ (by simp_all)) c u C
   simp_all
  simp_all
 simp_all
end
theorem v0g{α:Type}{f:Nat→Option (α×a0z×List Nat)}{S:Nat→Prop}:∀(l:List α)(i:Nat),(∀j x,l[j]?=some x→∃r,f (i+j)=some (x,[],r)∧∀c∈r,S c)→
  ∃g,a0d f l.length i=some (l,[],g)∧∀c∈g,S c
 | [],i,_=>⟨[],rfl,by simp⟩
 |x::l,i,h=>by
  obtain⟨r,k,a⟩:=h 0 x rfl;obtain⟨g,b,d⟩:=v0g l (i+1) (fun j y m=>by
   have:=h (j+1) y (by simp_all)
   rwa [show i+(j+1)=i+1+j from by omega]at this)
  refine⟨r++g,?_,fun c e=>?_⟩;simp_all[a0d]
  grind
theorem RootOk.mono{r s O}(h:RootOk m Sh r s O)(d:∀c,Sh c→Sh' c):RootOk m Sh' r s O:=by
 obtain⟨g,R,f,k,a⟩:=h.rd;exact⟨g,R,f,fun c b=>d c (k c b),a⟩
theorem Rel.fresh{B Γ N tm w σ}{K:AE→Rs ρ}(h:Rel B Γ N tm w σ)(f:Γ.fresh q n r K=some z)(a:∀c,c<w.heap.size→w'.heap[c]?=w.heap[c]?)(l:w.heap.size≤w'.heap.size){O:a0z}(t:∀c∈O.map (·.1),w.heap.size≤c)(i:(O.map (·.1)).Nodup)(d:∀p∈O,a0w w' p.1 p.2)(j:RootOk (a0a w' σ.ov) (Shr B w σ) r s O)(hio:b0x w'=b0x w:=by first|rfl|assumption):∃Γ' σ',K Γ'=some z∧Rel B Γ' N tm w' σ'∧Γ'.rt n=some r∧σ'.g n=s∧σ'.ov=σ.ov∧Γ'=Γ.newRt n r:=by
 unfold AE.fresh at f;obtain⟨b,f⟩:=(a0b f).elim id fun h=>by grind
 have b:n<pinned:=by simp_all
 split at f
 rename_i o;have e:Γ.newRt n r=Γ.setRt n (some r):=by unfold AE.newRt;grind
 refine⟨_,⟨fun m=>if m=n then s else σ.g m,fun m=>if m=n then O else σ.ow m,σ.ov⟩,f,by rw[e];exact h.add o b a l t i d j,by rw[e];simp[AE.setRt],by simp,rfl,rfl⟩
 rename_i C o;rcases a0b f with⟨-,f⟩|⟨-,f⟩
 grind
 split at f
 grind
 rename_i D v;obtain⟨A,-⟩:=a0o v;have e:Γ.newRt n r=((Γ.mapv (AV.drop n)).setRt n none).setRt n (some r):=by
  unfold AE.newRt;rw[o];simp only[AE.setRt,AE.mapv]
  grind
 have hd:=h.drop (n:=n) (by simp_all);refine⟨_,⟨fun m=>if m=n then s else σ.g m,fun m=>if m=n then O else(if m=n then[]else σ.ow m),σ.ov⟩,f,by rw[e];exact hd.add (n:=n) (by simp[AE.setRt]) b a l t i d (j.mono fun c u=>Rel.shr_gone c u),by rw[e];simp[AE.setRt],?_,rfl,rfl⟩
 simp
where
 rt_ne' {n k:Nat} {x y:Option Root} (h:k≠n):(bif k==n then x else y)=y:=by
  grind
theorem x0i(w:World)(o:Obj)(c:Nat)(h:c<w.heap.size):(w.alloc o).heap[c]?=w.heap[c]?:=by
 simp only[World.alloc,Array.getElem?_push]
 grind
theorem k0o{P:Program}:∀(f:Nat)(τ:Ty)(fs:List Field)(off:Nat),a0g P τ (.inr (fs,off))=true→b0y τ f=true→
  ∃fl τ' k,fs[f]?=some fl∧fl.offset=off+k∧a0g P τ' (.inl fl.type)=true∧k+τ'.cells≤τ.cells∧
   ∀(m:Mem) rd x O R,dec m τ rd=some (x,O,R)→∃y g d,dec m τ' (fun j=>rd (k+j))=some (y,g,d)∧b0c τ x (b0f f)=⟨τ',y⟩∧(O=[]→g=[])∧∀c∈d,c∈R
 |0,τ,fs,off,h,hf=>by
  cases τ with
  |pair a b=>
   cases fs with
   |nil=>simp[a0g]at h
   |cons fl r=>
    simp[a0g]at h;refine⟨fl,a,0,rfl,by omega,h.1.1.2,by simp[Ty.cells],fun m rd x O R hd=>?_⟩;obtain⟨o,o1,n,p,o2,r2,v,w,rfl,rfl,rfl⟩:=c0a hd;exact⟨o,o1,n,by simp_all,rfl,fun e=>(a16.1 e).1,fun c l=>a03 _ l⟩
  |_=>simp[b0y]at hf
 |f+1,τ,fs,off,h,hf=>by
  cases τ with
  |pair a b=>
   cases fs with
   |nil=>simp[a0g]at h
   |cons fl r=>
    simp only[a0g,bA]at h;obtain⟨i,τ',k,v,w,z,D,A⟩:=k0o f b r (off+a.cells) h.2 hf;refine⟨i,τ',a.cells+k,by simp_all,by omega,z,by grind[Ty.cells],fun m rd x O R hd=>?_⟩;obtain⟨o,o1,n,p,o2,r2,B,q,rfl,rfl,rfl⟩:=c0a hd;obtain⟨y,g,d,C,s,t,u⟩:=A m _ p o2 r2 q;refine⟨y,g,d,?_,s,fun e=>t (a16.1 e).2,fun c l=>a02 _ (u c l)⟩
    grind
  |_=>simp[b0y]at hf
theorem s0x{m Sh}{τ':Ty}{off:Nat}{y R}(h:a0g P τ' (.inl t)=true)(hd:dec m τ' (fun j=>cs[off+j]?)=some (y,[],R))(f:∀c∈R,Sh c)(d:off+τ'.cells≤cs.size):∃v,(part t cs off).run P w=.ok v w∧VOk m Sh τ' y v:=by
 obtain⟨I⟩:=a0k (a0p h);cases hagg:τ'.isAgg with
 |true=>
  refine⟨.agg (cs.extract off (off+τ'.cells)),by simp[part,e0v h,hagg,I.sizeOf],fun _=>⟨_,rfl,by simp_all⟩,fun g=>(by simp_all),R,?_,f⟩;refine a0j τ' hd (fun j a=>?_) (fun _ _ _=>rfl);simp_all[Value.cells]
 |false=>
  have k:=j0i hagg;obtain⟨v,hv,b⟩:=e0c τ' hd 0 (by omega);simp at hv;refine⟨v,by simp[part,e0v h,hagg,hv],VOk.one hagg b (a0j τ' hd (fun j a=>?_) (fun _ _ _=>rfl)) f k⟩;simp_all[Src.rd]
section
variable {P:Program} {B:Base} {N:Nat} {ρ:Type} {Γ:AE} {a:Act} {w:World} {σ:Gh}
theorem v0l{o:Oper}{t:TypeId}{x:Operand}{f d:Nat}{cx:Cx}{q:Bool}{K:AE→Rs ρ}{z:ρ}(n:CxTy P cx)(A:o.op=.field t x f)(hd:o.dst=some d)
  (h:Rel B Γ N (a0f a) w σ)(L:a.tmps.size=N)(hf:fits N o=true)(e:aop cx q o Γ K=some z):a0i P B N o a w K z:=by
 have g:∀y∈(o.op.operands.toList),b0e N y=true:=a0s hf;rw[A]at g;have D:=h.opd (g x (by simp[Op.operands]));simp[aop,A,hd]at e
 split at e
 rename_i m y O;rw[O]at D
 split at e
 rename_i b;obtain⟨S,hty⟩:=n.T t _ b.2;obtain⟨fs,hu,Q⟩:=i0a hty b.1;obtain⟨E,τ',k,h1,h2,I,h4,J⟩:=k0o f m _ 0 Q b.1;obtain⟨F,g2,R,u,G⟩:=D;have i:m.isAgg=true:=by cases m<;>first|rfl|(cases f<;>simp[b0y]at b)
 obtain⟨cs,hv,M⟩:=F i;rw[hv]at u;obtain⟨y',Y,Z,U,l,V,W⟩:=J _ _ _ _ _ u;have p:=V rfl;subst p;generalize hg:b0k (b0f f) m y=gg at e;obtain⟨t2,X⟩:=gg;simp only at e;have l:=hg.symm.trans l;have r:t2=τ':=congrArg Sigma.fst l;subst r;have s:=eq_of_heq (Sigma.mk.inj l).2;subst s;obtain⟨v,C,j⟩:=s0x (P:=P) (w:=w) (cs:=cs) (off:=k) I U (fun c b=>G c (W c b)) (by omega);have H:fs[f]?=some E:=by simp_all
 refine a0i.set hd L (v:=v) ?_ h (av:=.val t2 X) j e;simp_all[execOp,Instr.field,run_underlying,asAgg];simp_all;simp_all
theorem v0m{o:Oper}{t:TypeId}{x i:Operand}{d:Nat}{cx:Cx}{q:Bool}{K:AE→Rs ρ}{z:ρ}(D:CxTy P cx)(S:o.op=.index t x i)(hd:o.dst=some d)
  (h:Rel B Γ N (a0f a) w σ)(Y:a.tmps.size=N)(hf:fits N o=true)(f:aop cx q o Γ K=some z):a0i P B N o a w K z:=by
 have g:∀y∈(o.op.operands.toList),b0e N y=true:=a0s hf;rw[S]at g;have L:=h.opd (g x (by simp[Op.operands]));have hi:=h.opd (g i (by simp[Op.operands]));have run:∀v,(Instr.index t (a.eval x) (a.eval i)).run P w=.ok v w→(execOp a.eval o).run P w=.ok (.value v) w:=fun v hv=>by simp[execOp,S,hv]
 simp[aop,S,hd]at f
 split at f
 rename_i n e l k j r m;rw[r]at L;rw[m]at hi;have p:=a0e.int hi;rw[p]at run
 split at f
 rename_i M;obtain⟨h6,hty⟩:=D.T t _ M;obtain⟨t',hu,H,-⟩:=g0s hty;obtain⟨I⟩:=a0k (a0p H);obtain⟨y,Q,f⟩:=a09.1 f;obtain⟨X,h1,C⟩:=j0x Q;obtain⟨g1,g2,R,u,g4⟩:=L;obtain⟨cs,hv,O⟩:=g1 rfl;rw[hv]at u;have u:a0d (fun i=>dec (a0a w σ.ov) e fun j=>cs[i*e.cells+j]?) n 0=some (l,[],R):=u;have h3:=a0v n 0 u;obtain⟨y',o',r',A,B',A',h4,E,W,e1,e2⟩:=a0u n 0 j.toNat u (by omega);rw[C]at W;simp at W;subst W;have U:o'=[]:=by
  simp_all
 subst U;simp at E;have V:j.toNat*e.cells+e.cells≤cs.size:=by
  rw[O];simp[Ty.cells];rw[←a04];exact a00 _ (by omega)
 obtain⟨v,G,J⟩:=s0x (P:=P) (w:=w) (cs:=cs) H E (fun c Z=>g4 c (by grind)) V;have Z:0≤j∧j<(n:Int):=⟨X,by omega⟩;refine a0i.set hd Y (v:=v) (run _ ?_) h (av:=.val e y) J f;rw[hv];simp[Instr.index,asIntOf,run_underlying hu,Z,I.sizeOf,G];simp_all
 ·rename_i l k j r m;rw[r]at L;rw[m]at hi;have p:=a0e.int hi;rw[p]at run
  split at f
  ·rename_i M;have hty:=(D.T t _ M).2;have hu:P.underlying t=some .string:=by
    simp[a0g]at hty
    grind
   obtain⟨y,Q,f⟩:=a09.1 f;obtain⟨X,h1,C⟩:=j0x Q;obtain⟨s,hv,hl⟩:=a0e.str L;rw[hl,a23]at C;cases hb:s.data.toList[j.toNat]? with
   |none=>simp_all
   |some b=>
    rw[hb]at C;simp at C;have hs:s[j.toNat]?=some b:=by
     have h5:j.toNat<s.data.toList.length:=(lS.1 hb).1;have F:j.toNat<s.size:=by simp_all
     rw[getElem?_pos s j.toNat F]
     have:=(lS.1 hb).2
     rw[←this];rfl
    refine a0i.set hd Y (v:=.int .u8 b.toNat) (run _ ?_) h (av:=.val (.int .u8) y) (by simp_all[a0e.mk_int]) f;simp_all[Instr.index,asIntOf,run_underlying]
  simp_all
 simp_all
theorem m0o{f:Int→Int→Int}{g:Value→Value→Sem Value}{k:IntKind}(c:∀x y w,(g (.int k x) (.int k y)).run P w=.ok (.int k (f x y)) w):
  ∀(l:List Operand)(x:Int){K:AV→Rs ρ}{z:ρ},Rel B Γ N (a0f a) w σ→(∀y∈l,b0e N y=true)→AE.mins f k (l.map Γ.opd) x K=some z→
   ∃r,K (.val (.int k) r)=some z∧((l.map a.eval).foldlM g (.int k x)).run P w=.ok (.int k r) w
 | [],x,K,z,h,hl,hz=>⟨x,hz,rfl⟩
 |y::l,x,K,z,h,hl,hz=>by
  simp at hz;unfold AE.mins at hz
  split at hz
  simp_all;rename_i x k' y' l' b;simp at b;obtain⟨b,rfl⟩:=b
  split at hz
  rename_i i;subst i;have d:=h.opd (hl y (by simp));rw[b]at d;have hv:=a0e.int d;obtain⟨r,e,j⟩:=m0o c l _ h (fun u n=>hl u (by grind)) hz;refine⟨r,e,?_⟩;have m:=fun z=>c z y' w;simp_all;simp_all;simp_all
theorem x0m{K:Nat→Rs ρ}{z:ρ}(i:CxTy P cx)(h:Rel B Γ N (a0f a) w σ)(g:b0e N x=true)(j:Γ.lenK (cx.T t) (Γ.opd x) K=some z)(ty:TypeId):
  ∃n,K n=some z∧(Builtin.len_ #[t] ty #[a.eval x]).run P w=.ok (.int .i64 (n:Int)) w:=by
 have g:=h.opd g;have u:∀o e,cx.T t=some (.list o e)→∀A n c,a.eval x=.slice A n c→(Builtin.len_ #[t] ty #[a.eval x]).run P w=.ok (.int .i64 (n:Int)) w:=by
  intro o e b A n c hv;obtain⟨q,hty⟩:=i.T t _ b;obtain⟨H,C,v,-⟩:=b0l hty;simp_all[Builtin.len_,run_underlying,goInt]
 unfold AE.lenK at j
 split at j
 rename_i o e D m l b f;rw[f]at g;obtain⟨R,d,E⟩:=VOk.rd (t:=.list D m) g rfl rfl;have d:a0x (a0a w σ.ov) D m.cells (dec (a0a w σ.ov) m) (some (a.eval x))=some (l,[],R):=d;unfold a0x at d
 split at d
 grind
 rename_i A n c hv;simp at hv
 split at d
 split at d
 grind
 rename_i xs os U y;have O:=a0v n 0 y
 grind
 simp_all;simp_all;rename_i n e S m l b f;obtain⟨q,hty⟩:=i.T t _ b;obtain⟨H,C,v,-⟩:=g0s hty;exact⟨n,j,by simp_all[Builtin.len_,run_underlying,goInt]⟩;rename_i l b f;rw[f]at g;obtain⟨s,hv,M⟩:=a0e.str g;have hty:=(i.T t _ b).2;have C:P.underlying t=some .string:=by
  simp[a0g]at hty
  grind
 refine⟨_,j,?_⟩;simp_all[Builtin.len_,run_underlying,goInt];rename_i b f;rw[f]at g;exact⟨0,j,u _ _ b _ _ _ g⟩;rename_i b f;rw[f]at g;obtain⟨A,hv⟩:=g
 grind
 rename_i n p b f;rw[f]at g
 split at j
 rename_i r G
 split at j
 rename_i m l F;obtain⟨s,A,c,-,-,hv,-⟩:=h.sref_head g (a0o G).2 F
 grind
 simp_all;simp_all;rename_i n p off k b f;rw[f]at g;obtain⟨r,e,s,a0,Q,c0,d,E,y,J,I,hv,L,-⟩:=g
 grind
 simp_all
end
theorem Rel.ov_lt{B Γ N tm w σ}(h:Rel B Γ N tm w σ){b o v}(g:σ.ov=some (b,o,v)):b<w.heap.size:=by
 have hp:=h.pend;rw[g]at hp;cases hpd:Γ.pd with
 |none=>rw[hpd]at hp;exact hp.elim
 |some x=>
  obtain⟨n,p,d⟩:=x;rw[hpd]at hp;obtain⟨r,e,k,f⟩:=hp;rw[←g]at f;exact h.lt ⟨n,h.place k f⟩
theorem Rel.memo_new{B Γ N tm w σ}(h:Rel B Γ N tm w σ){e fr}(f:w'.heap[w.heap.size]?=some (.cells cs e fr))(j:Nat):a0a w' σ.ov w.heap.size j=cs[j]?:=by
 have k:w'.cell? ⟨w.heap.size,j,none⟩=cs[j]?:=by simp_all[World.cell?]
 unfold a0a;split;rename_i b o v g
 have:=h.ov_lt g
 grind
 omega
theorem Rel.memo_old{B Γ N tm w σ}(_:Rel B Γ N tm w σ)(h:∀c,c<w.heap.size→w'.heap[c]?=w.heap[c]?){j:Nat}(g:c<w.heap.size):a0a w' σ.ov c j=a0a w σ.ov c j:=
 b0g _ (h c g) j
theorem Rel.newBox{B Γ N tm w σ}{t:Ty}{x:t.den}{K:AE→Rs ρ}(h:Rel B Γ N tm w σ)(v:Γ.fresh q n ⟨true,t,x⟩ K=some z)(f:∀c,c<w.heap.size→w'.heap[c]?=w.heap[c]?)(d:w.heap.size≤w'.heap.size){e:TypeId}(k:w'.heap[w.heap.size]?=some (.cells cs e (0,0)))(r:cs.size=t.cells){R}(u:dec (a0a w σ.ov) t (fun j=>cs[j]?)=some (x,[],R))(i:∀c∈R,Shr B w σ c)(hio:b0x w'=b0x w:=by first|rfl|assumption):
  ∃Γ' σ',K Γ'=some z∧Rel B Γ' N tm w' σ'∧a0e (a0a w' σ'.ov) σ'.g Γ'.rt (Shr B w' σ') (.ptr n []) (.pointer (some ⟨w.heap.size,0,none⟩)):=by
 have hd:dec (a0a w' σ.ov) t ((Src.at w.heap.size 0).rd (a0a w' σ.ov))=some (x,[],R):=a0j t u (fun j _=>by simp[Src.rd];exact h.memo_new k j)
  (fun b j a=>by
   rcases a with a|a;simp_all;exact h.memo_old f (i b a).1)
 obtain⟨Γ',σ',l,m,o,p,y,A⟩:=h.fresh v f d (s:=.at w.heap.size 0) (O:=[(w.heap.size,t.cells)]) (by simp) (by simp)
  (by simp;exact⟨cs,e,0,0,k,by omega,.inl rfl⟩) ⟨[],R,hd,i,.inl ⟨rfl,_,rfl,rfl⟩⟩
 exact⟨Γ',σ',l,m,_,t,w.heap.size,0,o,by rw[p];rfl,rfl⟩
theorem Rel.newSlice{B Γ N tm w σ}{K:AE→Rs ρ}(h:Rel B Γ N tm w σ)(I:Γ.fresh q n ⟨false,.list true e,l⟩ K=some z)(f:∀c,c<w.heap.size→w'.heap[c]?=w.heap[c]?)(r:w.heap.size≤w'.heap.size){fr}(k:w'.heap[w.heap.size]?=some (.cells cs t fr))(m:fr.2=fr.1∨c*e.cells≤fr.1)(d:c*e.cells≤cs.size)(F:l.length≤c){R}(G:a0d (fun i=>dec (a0a w σ.ov) e fun j=>cs[i*e.cells+j]?) l.length 0=some (l,[],R))(u:∀c∈R,Shr B w σ c)(hio:b0x w'=b0x w:=by first|rfl|assumption):
  ∃Γ' σ',K Γ'=some z∧Rel B Γ' N tm w' σ'∧a0e (a0a w' σ'.ov) σ'.g Γ'.rt (Shr B w' σ') (.sref n []) (.slice (some ⟨w.heap.size,0,none⟩) l.length c)∧σ'.ov=σ.ov∧Γ'=Γ.newRt n ⟨false,.list true e,l⟩:=by
 have H:a0d (fun i=>dec (a0a w' σ.ov) e fun j=>a0a w' σ.ov w.heap.size (0+(i*e.cells+j))) l.length 0=some (l,[],R):=by
  have E:dec (a0a w σ.ov) (.arr l.length e) (fun j=>cs[j]?)=some (l,[],R):=G;refine a0j (.arr l.length e) E (rd':=fun j=>a0a w' σ.ov w.heap.size (0+j)) (fun j _=>?_) (fun b j a=>?_);show a0a w' σ.ov w.heap.size (0+j)=_;rw[a19];exact h.memo_new k j;rcases a with a|a;simp_all;exact h.memo_old f (u b a).1
 have o:a0w w' w.heap.size (c*e.cells):=⟨cs,t,fr.1,fr.2,k,d,m⟩
 let O:a0z:=if c=0 then[]else[(w.heap.size,0+c*e.cells)]
 have J:∀p∈O,p=(w.heap.size,0+c*e.cells):=by
  grind
 have hd:dec (a0a w' σ.ov) (.list true e) ((Src.one (.slice (some ⟨w.heap.size,0,none⟩) l.length c)).rd (a0a w' σ.ov))=some (l,O,R):=by
  show a0x (a0a w' σ.ov) true e.cells (dec (a0a w' σ.ov) e) (some (.slice (some ⟨w.heap.size,0,none⟩) l.length c))=_;simp only[a0x]
  grind
 obtain⟨Γ',σ',v,x,y,A,C,D⟩:=h.fresh I f r (s:=.one (.slice (some ⟨w.heap.size,0,none⟩) l.length c)) (O:=O) (by
   grind) (by grind)
  (fun p hp=>by grind) ⟨O,R,hd,u,.inr ⟨rfl,⟨_,rfl⟩,⟨e,rfl⟩,rfl⟩⟩
 exact⟨Γ',σ',v,x,⟨_,e,_,y,by rw[A];rfl,rfl⟩,C,D⟩
theorem s0q{t:Nat}(g:CxTy P cx)(h:cx.own d t=some τ):a0g P τ (.inl t)=true:=by
 unfold Cx.own at h
 split at h
 split at h
 rename_i f;simp at h;subst h;rw[←c0p];exact(g.T t _ f).2;simp_all;exact(g.T t _ h).2
theorem o0h{z:Array Value}(g:c0c e (fun j=>z[j]?)=true)(a:z.size=e.cells)(n:Nat):a0d (fun i=>dec m e fun j=>(madeCells z (n*e.cells))[i*e.cells+j]?) n 0=some (a08 n e.dflt,[],[]):=by
 refine h0w n 0 fun i _ hi=>a0j e (e0f (m:=m) e g) (fun j f=>?_) (fun _ _ _=>rfl);have h:i*e.cells+j<n*e.cells:=by
  have:(i+1)*e.cells≤n*e.cells:=a00 _ (by omega)
  grind
 have k:(i*e.cells+j)%e.cells=j:=by simp_all[Nat.mod_eq_of_lt]
 simp_all[madeCells]
section
variable {P:Program} {B:Base} {N:Nat} {ρ:Type} {Γ:AE} {a:Act} {w:World} {σ:Gh}
theorem b0m(o:Obj)(c:Nat)(h:c<w.heap.size):(w.alloc o).heap[c]?=w.heap[c]?:=x0i w o c h
theorem b0i(o:Obj):(w.alloc o).heap[w.heap.size]?=some o:=by
 show(w.heap.push o)[w.heap.size]?=_
 simp
theorem b0s(o:Obj):w.heap.size≤(w.alloc o).heap.size:=by
 simp
theorem a0i.sets{o:Oper}{K:AE→Rs ρ}{z:ρ}(hd:o.dst=some d)(k:a.tmps.size=N)(f:(execOp a.eval o).run P w=.ok (.value v) w')(h:∃Γ' σ',K (Γ'.set d av)=some z∧Rel B Γ' N (a0f a) w' σ'∧a0e (a0a w' σ'.ov) σ'.g Γ'.rt (Shr B w' σ') av v):a0i P B N o a w K z:=by
 grind[a0i.set]
theorem v0j{o:Oper}{t:TypeId}{d:Nat}{cx:Cx}{q:Bool}{K:AE→Rs ρ}{z:ρ}(f:CxTy P cx)(b:o.op=.alloc t)(hd:o.dst=some d)
  (h:Rel B Γ N (a0f a) w σ)(e:a.tmps.size=N)(k:aop cx q o Γ K=some z):a0i P B N o a w K z:=by
 simp[aop,b,hd]at k
 split at k
 rename_i τ hT;have hty:=s0q f hT;obtain⟨I⟩:=a0k (a0p hty);have g:(execOp a.eval o).run P w=.ok (.value (.pointer (some ⟨w.heap.size,0,none⟩))) (w.alloc (.cells I.z.cells t)):=by
  simp[execOp,b,Instr.alloc,I.zeroValue,newVar,newRow]
 exact a0i.sets hd e g (h.newBox k (fun c i=>b0m _ c i) (b0s _) (b0i _) I.zsize (e0f _ I.zok) (by simp));simp_all
theorem y0k{o:Oper}{K:AE→Rs ρ}{z:ρ}(E:o.op=.box t x)(hd:o.dst=some d)(v:(bif q then none else Γ.aggOf x)=none)(h:Rel B Γ N (a0f a) w σ)(D:a.tmps.size=N)(hf:fits N o=true)(i:aop cx q o Γ K=some z):a0i P B N o a w K z:=by
 have G:=h.opd (a0s hf x (by simp[E,Op.operands]));simp[aop,E,hd,v]at i
 split at i
 rename_i τ hT;obtain⟨y,Γ1,σ1,i,l,hv,-,-⟩:=h.asV (.inl G) i;have e:(execOp a.eval o).run P w=.ok (.value (.pointer (some ⟨w.heap.size,0,none⟩))) (w.alloc (.cells (a.eval x).cells t)):=by
  simp_all[execOp,Instr.box,newVar,newRow]
 obtain⟨-,-,R,C,s⟩:=id hv
 split at i
 
 have n:=b0i (w:=w) (.cells (a.eval x).cells t);have k:∀c,c<w.heap.size→(w.alloc (.cells (a.eval x).cells t)).heap[c]?=w.heap[c]?:=fun c f=>b0m _ c f;have p:=b0s (w:=w) (.cells (a.eval x).cells t);have A:w.heap.size<(w.alloc (.cells (a.eval x).cells t)).heap.size:=by simp
 have F:=l.ext k p;have m:dec (a0a (w.alloc (.cells (a.eval x).cells t)) σ1.ov) τ ((Src.at w.heap.size 0).rd (a0a (w.alloc (.cells (a.eval x).cells t)) σ1.ov))=some (y,[],R):=
  a0j τ C (fun j _=>by simp[Src.rd];exact l.memo_new n j) (fun b j r=>by
   rcases r with r|r;simp_all;exact l.memo_old k (s b r).1)
 have u:∀c,Shr B w σ1 c→Shr B (w.alloc (.cells (a.eval x).cells t)) σ1 c:=fun c f=>⟨a06 f.1 p,f.2⟩;exact a0i.set hd D e F (av:=.vptr τ y) ⟨w.heap.size,0,R,rfl,m,⟨A,.inr (.inr l.size),fun g=>by have:=l.lt g;omega⟩,fun c f=>u c (s c f)⟩ i;exact a0i.sets hd D e (l.newBox i (fun c f=>b0m _ c f) (b0s _) (b0i _) hv.cells.1 C s);simp_all
theorem v0u{t:Ty}{K:t.den→Rs ρ}{z:ρ}(h:av.isVal t K=some z):∃x,av=.val t x∧K x=some z:=by
 cases av with
 |val t' x=>
  simp only[AV.isVal]at h
  grind
 |_=>cases h
theorem p0i{k:IntKind}{K:Int→Rs ρ}{z:ρ}(h:av.isVal (.int k) K=some z):∃x:Int,av=.val (.int k) x∧K x=some z:=v0u h
theorem q0d{o:Oper}{t:TypeId}{x y:Operand}{d:Nat}{cx:Cx}{q:Bool}{K:AE→Rs ρ}{z:ρ}(j:CxTy P cx)(b:o.op=.makeSlice t x y)(hd:o.dst=some d)
  (h:Rel B Γ N (a0f a) w σ)(Y:a.tmps.size=N)(hf:fits N o=true)(g:aop cx q o Γ K=some z):a0i P B N o a w K z:=by
 have D:=h.opd (a0s hf x (by simp[b,Op.operands]));have E:=h.opd (a0s hf y (by simp[b,Op.operands]));simp[aop,b,hd]at g
 split at g
 rename_i Q e L;obtain⟨l,s,g⟩:=p0i g;obtain⟨c,u,g⟩:=p0i g;rw[s]at D;rw[u]at E;rcases a0b g with⟨k,g⟩|⟨-,g⟩;simp only[bA,dT,lim]at k;obtain⟨H,J,T⟩:=k;have hty:=s0q j L;obtain⟨v,M,r,C⟩:=b0l hty;obtain⟨I⟩:=a0k (a0p r);have f:=run_make (P:=P) w t v I.i I.z M I.info I.zero .i64 .i64 l c H J (by
  have:=I.bytes
  have X:((I.i.bytes*c.toNat:Nat):Int)≤((32768*2147483648:Nat):Int):=Int.ofNat_le.2 (Nat.mul_le_mul this (by omega))
  grind) (by omega)
 rw[I.size]at f;have p:(execOp a.eval o).run P w=.ok (.value (.slice (some ⟨w.heap.size,0,none⟩) l.toNat c.toNat)) (w.alloc (.cells (madeCells I.z.cells (c.toNat*e.cells)) v)):=by
  simp only[execOp,b,a0e.int D,a0e.int E,Sem.run_bind];simp_all
 have n:=o0h (m:=a0a w σ.ov) I.zok I.zsize c.toNat
 obtain⟨Γ',σ',U,V,W,-,-⟩:=h.newSlice (c:=c.toNat) g (fun c k=>b0m _ c k) (b0s _) (b0i (Obj.cells (madeCells I.z.cells (c.toNat*e.cells)) v)) (.inl rfl) (by simp_all[size_madeCells])
  (by grind) (R:=[]) (by
   rw[List.length_replicate];refine h0w _ 0 fun i _ hi=>?_
   obtain⟨x',Q,r',A,B',S,G,F,O,Z,k4⟩:=a0u _ 0 i n (by omega);rw[a19]at F;rw[F];rw[List.getElem?_replicate,if_pos (by omega)]at O;simp_all) (by simp)
 grind[a0i.set]
 simp_all;simp_all
theorem p0f(off:Nat)(l:List Value)(i:Nat)(cs:Array Value):((l.zipIdx i).foldl (fun cs (c:Value×Nat)=>cs.setIfInBounds (off+c.2) c.1) cs).size=cs.size∧
  ∀k,((l.zipIdx i).foldl (fun cs (c:Value×Nat)=>cs.setIfInBounds (off+c.2) c.1) cs)[k]?=if off+i≤k∧k<off+i+l.length∧k<cs.size then l[k-(off+i)]? else cs[k]?:=by
 induction l generalizing i cs with
 |nil=>exact⟨rfl,fun k=>by rw[if_neg (by grind)];rfl⟩
 |cons v l ih=>
  obtain⟨h,g⟩:=ih (i+1) (cs.setIfInBounds (off+i) v);refine⟨by simp_all,fun k=>?_⟩;simp only[List.zipIdx_cons,List.foldl_cons]
  grind
end
end Go.Ab
