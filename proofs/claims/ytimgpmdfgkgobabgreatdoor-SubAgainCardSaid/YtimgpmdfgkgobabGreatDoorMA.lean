/- Part of the proof: LibA, LibB, LibC, LibD, LibE, LibF, LibG, LibH, LibI, LibJ, LibK, LibL, LibM, LibN, LibO, LibP, LibQ, LibR. Conditions: as each statement tells. -/
import GoSem.Core.Code
import GoSem.Core.View
import GoSem.Core.Lib
import GoSem.Core.Region
import Derived.Orders
import GoSem.Machine.Frame
import Derived.Laws.World
import Derived.Laws.Cells
import Derived.Laws.IdiomCopy
import Derived.Laws.Entries
import Derived.Laws.Strings
import Derived.Laws.BytesString
import Derived.Laws.IdiomStrings
import Derived.Laws.Append
import Derived.Laws.MakeOwn
import Derived.Great.FillDense
noncomputable section
set_option linter.unusedSimpArgs false
set_option linter.unusedVariables false
open Array renaming mapM_eq_mapM_toList→a26,foldl_toList→a33
open BitVec renaming ofInt→a36
open Bool renaming false_eq_true→a32
open List renaming length→a01,mem_append_right→a03,mem_append_left→a04,nodup_append→a07,map_cons→a09,mem_map_of_mem→a16,nodup_cons→a18,length_eq_zero_iff→a21,replicate→a22,getD→a23,append_eq_nil_iff→a24,take→a25,drop→a28,range→a29,set→a30,mem_cons_self→a31,getElem?_map→a34,drop_take→a35
open Nat renaming mul_le_mul_right→a00,succ_mul→a02,le_trans→a05,lt_of_lt_of_le→a06,le_refl→a17,lt_or_gt_of_ne→a19,zero_add→a20
open Option renaming bind_eq_some_iff→a08,isSome_iff_exists→a27
namespace Go.Ab
theorem oB{α β:Type _}(a:α)(f:α→Option β):(some a).bind f=f a:=rfl
theorem bA (a b:Bool):((a&&b)=true)=(a=true∧b=true):=Bool.and_eq_true a b
theorem dT {p:Prop} [Decidable p]:(decide p=true)=p:=decide_eq_true_eq
theorem cT {α:Type _} (a b:α):cond true a b=a:=rfl
theorem cF {α:Type _} (a b:α):cond false a b=b:=rfl
theorem lG {α:Type _} {l:List α} {i:Nat} (h:i<l.length):l[i]?=some l[i]:=List.getElem?_eq_getElem h
theorem pJ {α β:Type _} (a:α) (b:β) (c:α) (d:β):((a,b)=(c,d))=(a=c∧b=d):=Prod.mk.injEq a b c d
theorem lA {α:Type _} {p:α→Bool} {l:List α}:l.all p=true↔∀x,x ∈ l→p x=true:=List.all_eq_true
theorem lD {α:Type _} {l:List α} {i:Nat} {a:α}:l.getD i a=l[i]?.getD a:=List.getD_eq_getElem?_getD
theorem lS {α:Type _} {l:List α} {i:Nat} {a:α}:l[i]?=some a↔∃h:i<l.length,l[i]=a:=List.getElem?_eq_some_iff
theorem nZ:((0:Nat):Int)=0:=rfl
theorem tN (n:Nat):(n:Int).toNat=n:=rfl
theorem bT:(!true)=false:=rfl
theorem mA {α:Type _} {a:α} {s t:List α}:a ∈ s++t↔a ∈ s∨a ∈ t:=List.mem_append
theorem pA {α β:Type _} {f:α→β} {l m:List α}:(l++m).map f=l.map f++m.map f:=List.map_append
theorem lN {α:Type _} {s t:List α}:(s++t).length=s.length+t.length:=List.length_append
theorem lC {α:Type _} {a:α} {s:List α}:(a::s).length=s.length+1:=rfl
theorem mC {α:Type _} {a b:α} {l:List α}:a ∈ b::l↔a=b∨a ∈ l:=List.mem_cons
theorem aA {α:Type _} (a b c:List α):a++b++c=a++(b++c):=List.append_assoc a b c
theorem sj{α:Type _}(a b:α):(some a=some b)=(a=b):=Option.some.injEq a b
inductive Ty where
 |int (k:IntKind)|bool|str|unit
 |list (o:Bool) (t:Ty)|pair (a b:Ty)|arr (n:Nat) (t:Ty)

 |nl (t:Ty)
 deriving DecidableEq
def Ty.den:Ty→Type
 |.int _=>Int
 |.bool=>Bool
 |.str=>List Int
 |.unit=>Unit
 |.list _ t=>List t.den
 |.pair a b=>a.den×b.den
 |.arr _ t=>List t.den
 |.nl t=>List t.den
def Ty.dflt:(t:Ty)→t.den
 |.int _=>(0:Int)
 |.bool=>false
 |.str=>([]:List Int)
 |.unit=>()
 |.list _ t=>([]:List t.den)
 |.pair a b=>(a.dflt,b.dflt)
 |.arr n t=>a22 n t.dflt
 |.nl t=>([]:List t.den)
def Ty.cells:Ty→Nat
 |.unit=>0
 |.pair a b=>a.cells+b.cells
 |.arr n t=>n*t.cells
 |_=>1
def Ty.sh:Ty→Ty
 |.list _ t=>.list false t.sh
 |.pair a b=>.pair a.sh b.sh
 |.arr n t=>.arr n t.sh
 |.nl t=>.list false t.sh
 |t=>t
def Ty.shn:Ty→Ty
 |.list _ t=>.list false t.sh
 |.pair a b=>.pair a.shn b.shn
 |.arr n t=>.arr n t.sh
 |.nl t=>.nl t.sh
 |t=>t
def Ty.isAgg:Ty→Bool
 |.unit|.pair _ _|.arr _ _=>true
 |_=>false
theorem Ty.den_sh:(t:Ty)→t.sh.den=t.den
 |.int _|.bool|.str|.unit=>rfl
 |.list _ t=>congrArg List (Ty.den_sh t)
 |.arr _ t=>congrArg List (Ty.den_sh t)
 |.nl t=>congrArg List (Ty.den_sh t)
 |.pair a b=>by show(a.sh.den×b.sh.den)=(a.den×b.den);rw[Ty.den_sh a,Ty.den_sh b]
theorem Ty.den_shn:(t:Ty)→t.shn.den=t.den
 |.int _|.bool|.str|.unit=>rfl
 |.list _ t=>congrArg List (Ty.den_sh t)
 |.arr _ t=>congrArg List (Ty.den_sh t)
 |.nl t=>congrArg List (Ty.den_sh t)
 |.pair a b=>by show(a.shn.den×b.shn.den)=(a.den×b.den);rw[Ty.den_shn a,Ty.den_shn b]
def Ty.shnx(t:Ty)(x:t.den):t.shn.den:=cast (Ty.den_shn t).symm x
def Ty.le:Ty→Ty→Bool
 |.nl a,.list _ b=>decide (a.sh=b.sh)
 |.pair a b,.pair a' b'=>a.le a'&&b.le b'
 |a,b=>decide (a=b)
theorem Ty.le_den:∀(a b:Ty),a.le b=true→a.den=b.den
 |.nl a,.list o b,h=>by
  simp only[Ty.le,dT]at h;show List a.den=List b.den;rw[←Ty.den_sh a,←Ty.den_sh b,h]
 |.pair a b,.pair a' b',h=>by
  simp only[Ty.le,bA]at h;show(a.den×b.den)=(a'.den×b'.den);rw[Ty.le_den a a' h.1,Ty.le_den b b' h.2]
 |.nl a,.nl b,h=>by
  simp only[Ty.le,dT]at h;rw[h]
 |.nl a,.int _,h|.nl a,.bool,h|.nl a,.str,h|.nl a,.unit,h|.nl a,.pair _ _,h|.nl a,.arr _ _,h=>by simp[Ty.le]at h
 |.pair a b,.int _,h|.pair a b,.bool,h|.pair a b,.str,h|.pair a b,.unit,h|.pair a b,.arr _ _,h|.pair a b,.list _ _,h|.pair a b,.nl _,h=>by simp[Ty.le]at h
 |.int _,b,h|.bool,b,h|.str,b,h|.unit,b,h|.list _ _,b,h|.arr _ _,b,h=>by
  simp only[Ty.le,dT]at h;rw[h]
def castTo(t' t:Ty)(x:t'.den):Option t.den:=if h:t'=t then some (h▸x)else if h:t'.le t=true then some (cast (Ty.le_den _ _ h) x)else none
theorem c2T(t:Ty)(x:t.den):castTo t t x=some x:=by simp[castTo]
theorem Ty.shn_of_sh:(t:Ty)→t.sh=t→t.shn=t
 |.int _,_|.bool,_|.str,_|.unit,_=>rfl
 |.list _ t,h=>h
 |.arr _ t,h=>h
 |.nl t,h=>by cases h
 |.pair a b,h=>by
  simp only[Ty.sh,Ty.pair.injEq]at h;simp only[Ty.shn,Ty.shn_of_sh a h.1,Ty.shn_of_sh b h.2]
theorem Ty.sh_sh:(t:Ty)→t.sh.sh=t.sh
 |.int _|.bool|.str|.unit=>rfl
 |.list _ t|.nl t=>by simp only[Ty.sh,Ty.sh_sh t]
 |.arr _ t=>by simp only[Ty.sh,Ty.sh_sh t]
 |.pair a b=>by simp only[Ty.sh,Ty.sh_sh a,Ty.sh_sh b]
theorem Ty.shn_shn:(t:Ty)→t.shn.shn=t.shn
 |.int _|.bool|.str|.unit=>rfl
 |.list _ t|.nl t|.arr _ t=>by simp only[Ty.shn,Ty.sh_sh t]
 |.pair a b=>by simp only[Ty.shn,Ty.shn_shn a,Ty.shn_shn b]
theorem Ty.sh_shn:(t:Ty)→t.shn.sh=t.sh
 |.int _|.bool|.str|.unit=>rfl
 |.list _ t|.nl t|.arr _ t=>by simp only[Ty.shn,Ty.sh,Ty.sh_sh t]
 |.pair a b=>by simp only[Ty.shn,Ty.sh,Ty.sh_shn a,Ty.sh_shn b]
def Ty.shx(t:Ty)(x:t.den):t.sh.den:=cast (Ty.den_sh t).symm x
inductive Step where
 |fst|snd|idx (i:Nat)
@[reducible] def a0R:=List Step
inductive AV where
 |dead

 |skp
 |val (t:Ty) (x:t.den)

 |nils

 |empt
 |nilp
 |ptr (n:Nat) (p:a0R)
 |vptr (t:Ty) (x:t.den)
 |sref (n:Nat) (p:a0R)
 |swin (n:Nat) (p:a0R) (off len:Nat)

 |glob (g:Nat)
inductive Cmp where
 |tup|agg|clo (f:Nat)
 deriving DecidableEq
inductive SV where
 |one (v:AV)
 |cmp (c:Cmp) (vs:List AV)
structure Root where
 bx:Bool
 t:Ty
 x:t.den
structure AE where
 sl:Nat→SV
 rt:Nat→Option Root

 pd:Option (Nat×a0R×Nat)
@[reducible] def Rs(ρ:Type):=Option ρ
def a1L:a0R→(t:Ty)→t.den→(t':Ty)×t'.den
 | [],t,x=>⟨t,x⟩
 |.fst::p,t,x=>match t,x with
  |.pair a _,x=>a1L p a x.1
  |_,_=>⟨.unit,()⟩
 |.snd::p,t,x=>match t,x with
  |.pair _ b,x=>a1L p b x.2
  |_,_=>⟨.unit,()⟩
 |.idx i::p,t,x=>match t,x with
  |.arr _ t,x=>a1L p t (a23 x i t.dflt)
  |.list true t,x=>a1L p t (a23 x i t.dflt)
  |_,_=>⟨.unit,()⟩
@[reducible] def a1p(t:Ty)(x:t.den)(p:a0R):(t':Ty)×t'.den:=a1L p t x
def a2b:a0R→(t:Ty)→t.den→(t':Ty)→t'.den→t.den
 | [],t,x,t',y=>if h:t'=t then h▸y else x
 |.fst::p,t,x,t',y=>match t,x with
  |.pair a _,x=>(a2b p a x.1 t' y,x.2)
  |_,x=>x
 |.snd::p,t,x,t',y=>match t,x with
  |.pair _ b,x=>(x.1,a2b p b x.2 t' y)
  |_,x=>x
 |.idx i::p,t,x,t',y=>match t,x with
  |.arr _ t,x=>a30 x i (a2b p t (a23 x i t.dflt) t' y)
  |.list true t,x=>a30 x i (a2b p t (a23 x i t.dflt) t' y)
  |_,x=>x
@[reducible] def a1U(t:Ty)(x:t.den)(p:a0R)(t':Ty)(y:t'.den):t.den:=a2b p t x t' y
def a4O:(p q:a0R)→Bool
 | [],_=>true
 |.fst::p,.fst::q=>a4O p q
 |.snd::p,.snd::q=>a4O p q
 |.idx _::p,.idx _::q=>a4O p q
 |_,_=>false
def AV.map(v:AV)(f:AV→AV):AV:=f v
def SV.mapv(f:AV→AV):SV→SV
 |.one v=>.one (f v)
 |.cmp c vs=>.cmp c (vs.map f)
def AV.kill(n:Nat)(p:a0R):AV→AV
 |.sref m q=>if m==n&&a4O p q then .dead else .sref m q
 |.swin m q o l=>if m==n&&a4O p q then .dead else .swin m q o l
 |.ptr m q=>if m==n&&a4O p q&&decide (p.length<q.length)then .dead else .ptr m q
 |v=>v
def AV.drop(n:Nat):AV→AV
 |.sref m q=>if m==n then .dead else .sref m q
 |.swin m q o l=>if m==n then .dead else .swin m q o l
 |.ptr m q=>if m==n then .dead else .ptr m q
 |v=>v
def AV.ren(r n:Nat):AV→AV
 |.sref m q=>if m==r then .sref n q else .sref m q
 |.swin m q o l=>if m==r then .swin n q o l else .swin m q o l
 |.ptr m q=>if m==r then .ptr n q else .ptr m q
 |v=>v
def AV.frz(n:Nat)(e:Ty)(l:List e.den):AV→AV
 |.sref m q=>if m==n then(match q with|[]=>.val (.list false e.sh) (Ty.shx (.list false e) l)|_=>.dead)else .sref m q
 |.swin m q o k=>if m==n then(match q with|[]=>.val (.list false e.sh) (Ty.shx (.list false e) ((l.drop o).take k))|_=>.dead)else .swin m q o k
 |.ptr m q=>if m==n then .dead else .ptr m q
 |v=>v
namespace AE
def get(Γ:AE)(i:Nat):AV:=match Γ.sl i with|.one v=>v|.cmp _ _=>.dead
def put(Γ:AE)(d:Nat)(v:SV):AE:={ Γ with sl:=fun j=>bif j==d then v else Γ.sl j }
def set(Γ:AE)(d:Nat)(v:AV):AE:=Γ.put d (.one v)
def setD(Γ:AE)(d:Option Nat)(v:AV):AE:=match d with|some d=>Γ.set d v|none=>Γ
def mapv(Γ:AE)(f:AV→AV):AE:={ Γ with sl:=fun j=>(Γ.sl j).mapv f }
def setRt(Γ:AE)(n:Nat)(r:Option Root):AE:={ Γ with rt:=fun j=>bif j==n then r else Γ.rt j }
def newRt(Γ:AE)(n:Nat)(r:Root):AE:=match Γ.rt n with
 |none=>Γ.setRt n (some r)
 |some _=>(Γ.mapv (AV.drop n)).setRt n (some r)
def look(Γ:AE)(n:Nat):Option Root:=match Γ.pd with
 |none=>Γ.rt n
 |some _=>none
end AE
def b8I:Value→AV
 |.int k n=>.val (.int k) n
 |.bool b=>.val .bool b
 |.string s=>.val .str (s.data.toList.map fun b=>(b.toNat:Int))
 |.slice none 0 0=>.nils
 |.pointer none=>.nilp
 |_=>.dead
def AE.opd(Γ:AE):Operand→AV
 |.tmp t=>Γ.get t
 |.const v=>b8I v
 |.global g=>.glob g
 |_=>.dead
inductive RA where
 |v (t:Ty)

 |o (e:Ty)

 |b (t:Ty)
def RA.ty:RA→Ty
 |.v t=>t
 |.o e=>.list true e
 |.b t=>t
inductive PA where
 |v (t:Ty)
 |r (c:Bool) (a:RA)
def PA.ty:PA→Ty
 |.v t=>t
 |.r _ a=>a.ty
def a2g:List Ty→Ty
 | []=>.unit
 | [t]=>t
 |t::r=>.pair t (a2g r)
def a5y:List PA→List RA
 | []=>[]
 |.v _::r=>a5y r
 |.r _ a::r=>a::a5y r
def RA.all(ps:List PA)(rs:List RA):List RA:=rs++a5y ps
structure FSem where
 ps:List PA
 rs:List RA
 F:(a2g (ps.map PA.ty)).den→Option (a2g ((RA.all ps rs).map RA.ty)).den
@[reducible] def pinned:Nat:=1000000
structure Cx where

 Q:Nat→Bool
 E:Nat→Bool
 T:Nat→Option Ty
 C:Nat→Option FSem
 O:Nat→Option Ty
 V:Nat→Bool
 K:Nat→Bool

 G:Nat→Option ((t:Ty)×t.den):=fun _=>none
section reading
variable {ρ:Type}
def AE.asV(Γ:AE)(q:Bool)(t:Ty)(a:AV)(K:t.den→AE→Rs ρ):Rs ρ:=
 match a with
 |.val t' x=>match castTo t' t x with
  |some y=>K y Γ
  |none=>none
 |.nils|.empt=>match t,K with
  |.list false _,K=>K [] Γ
  |_,_=>none
 |.sref n []=>if q then none else match Γ.look n with
  |some ⟨false,.list true e,l⟩=>if h:Ty.list false e.sh=t then K (h▸Ty.shx (.list false e) l) ((Γ.mapv (AV.frz n e l)).setRt n none)else none
  |_=>none
 |.swin n [] o k=>if q then none else match Γ.look n with
  |some ⟨false,.list true e,l⟩=>if h:Ty.list false e.sh=t then K (h▸Ty.shx (.list false e) ((a28 o l).take k)) ((Γ.mapv (AV.frz n e l)).setRt n none)else none
  |_=>none
 |_=>none
def AE.view(Γ:AE)(t:Ty)(a:AV)(K:t.den→Rs ρ):Rs ρ:=
 match a with
 |.val t' x=>match castTo t' t x with
  |some y=>K y
  |none=>none
 |.nils|.empt=>match t,K with
  |.list false _,K=>K []
  |_,_=>none
 |.sref n p=>match Γ.look n with
  |some r=>match a1p r.t r.x p with
   |⟨.list true e,l⟩=>if h:Ty.list false e.sh=t then K (h▸Ty.shx (.list false e) l)else none
   |_=>none
  |none=>none
 |.swin n p o k=>match Γ.look n with
  |some r=>match a1p r.t r.x p with
   |⟨.list true e,l⟩=>if h:Ty.list false e.sh=t then K (h▸Ty.shx (.list false e) ((a28 o l).take k))else none
   |_=>none
  |none=>none
 |_=>none
end reading
def a0r{α:Type}(l:List α)(i:Int):Option α:=if 0≤i then l[i.toNat]? else none
def bits(k:IntKind)(op:BinOp)(x y:Int):Int:=
 let a:=a36 k.bits x
 let b:=a36 k.bits y
 match op with
 |.and=>k.wrap (a &&& b).toNat
 |.or=>k.wrap (a ||| b).toNat
 |.xor=>k.wrap (a ^^^ b).toNat
 |_=>k.wrap (a &&& ~~~b).toNat
def a0D(k:IntKind)(x y:Int):Int:=k.wrap (x*2^(min y.toNat k.bits))
def a0m(k:IntKind)(x y:Int):Int:=x.fdiv (2^(min y.toNat k.bits))
def eqT:(t:Ty)→t.den→t.den→Bool
 |.int _,x,y=>(show Int from x)==(show Int from y)
 |.bool,x,y=>(show Bool from x)==(show Bool from y)
 |.str,x,y=>(show List Int from x)==(show List Int from y)
 |.unit,_,_=>true
 |.pair a b,x,y=>eqT a x.1 y.1&&eqT b x.2 y.2
 |.arr _ t,x,y=>(List.zipWith (eqT t) x y).all id&&a01 x==a01 y
 |.list _ _,_,_=>false
 |.nl _,_,_=>false
def b4F{ρ:Type}(op:BinOp)(k:IntKind)(x y:Int)(K:AV→Rs ρ):Rs ρ:=
 match op with
 |.add=>K (.val (.int k) (k.wrap (x+y)))
 |.sub=>K (.val (.int k) (k.wrap (x-y)))
 |.mul=>K (.val (.int k) (k.wrap (x*y)))
 |.quo=>bif y==0 then none else K (.val (.int k) (k.wrap (Int.tdiv x y)))
 |.rem=>bif y==0 then none else K (.val (.int k) (Int.tmod x y))
 |.and=>K (.val (.int k) (bits k .and x y))
 |.or=>K (.val (.int k) (bits k .or x y))
 |.xor=>K (.val (.int k) (bits k .xor x y))
 |.andNot=>K (.val (.int k) (bits k .andNot x y))
 |.eql=>K (.val .bool (x==y))
 |.neq=>K (.val .bool (x != y))
 |.lss=>K (.val .bool (decide (x<y)))
 |.leq=>K (.val .bool (decide (x≤y)))
 |.gtr=>K (.val .bool (decide (x > y)))
 |.geq=>K (.val .bool (decide (x≥y)))
 |.shl=>bif decide (y<0)then none else K (.val (.int k) (a0D k x y))
 |.shr=>bif decide (y<0)then none else K (.val (.int k) (a0m k x y))
def b8J:BinOp→Bool
 |.shl|.shr=>true
 |_=>false
def b8K{ρ:Type}(cx:Cx)(op:BinOp)(ty:Nat)(t:Ty)(x:t.den)(t':Ty)(y:t'.den)(K:AV→Rs ρ):Rs ρ:=
 if h:t'=t then
  bif cx.E ty&&t.isAgg&&decide (cx.T ty=some t)then
   match op with
   |.eql=>K (.val .bool (eqT t x (h▸y)))
   |.neq=>K (.val .bool (!eqT t x (h▸y)))
   |_=>none
  else none
 else none
def b2u{ρ:Type}(cx:Cx)(op:BinOp)(ty:Nat)(a b:AV)(K:AV→Rs ρ):Rs ρ:=
 match a,b with
 |.val (.int k) x,.val (.int k') y=>if b8J op || decide (k=k')then b4F op k x y K else none
 |.val .bool (x:Bool),.val .bool (y:Bool)=>
  if cx.T ty=some .bool then
   match op with
   |.eql=>K (.val .bool (x==y))
   |.neq=>K (.val .bool (x != y))
   |_=>none
  else none
 |.val .str (x:List Int),.val .str (y:List Int)=>
  match op with
  |.eql=>K (.val .bool (x==y))
  |.neq=>K (.val .bool (x != y))
  |.add=>bif decide (a01 x+a01 y<2147483648)then K (.val .str (x++y))else none
  |_=>none
 |.val t x,.val t' y=>b8K cx op ty t x t' y K
 |.nilp,.nilp=>if cx.Q ty then(match op with
  |.eql=>K (.val .bool true)
  |.neq=>K (.val .bool false)
  |_=>none)else none
 |.ptr _ _,.nilp=>if cx.Q ty then(match op with
  |.eql=>K (.val .bool false)
  |.neq=>K (.val .bool true)
  |_=>none)else none
 |_,_=>none
def b9z{ρ:Type}(a b:Option ρ):Option ρ:=open Classical in if a=b then a else none
theorem c4C{ρ:Type}{a b:Option ρ}{z:ρ}(h:b9z a b=some z):a=some z∧b=some z:=by
 unfold b9z at h
 split at h
 rename_i e;exact⟨h,by rw[←e];exact h⟩;cases h
theorem d1u{ρ:Type}(a:Option ρ):b9z a a=a:=by simp[b9z]
def c8u:Option Ty→AV→AV→Option Bool
 |some (.list _ _),.val (.list false _) l,.nils=>some (List.isEmpty l)
 |_,_,_=>none
def d0V:Option Ty→Bool
 |some (.list _ _)=>true
 |_=>false
def d7h{ρ:Type}(op:BinOp)(e:Bool)(K:Bool→Option ρ):Option ρ:=match op with
 |.eql=>bif e then b9z (K true) (K false)else K false
 |.neq=>bif e then b9z (K false) (K true)else K true
 |_=>none
end Go.Ab
namespace Go.Ab
def lim(n:Nat):Bool:=decide (n<2147483648)
def a1A:Nat→a0R
 |0=>[.fst]
 |f+1=>.snd::a1A f
def a2J:Ty→Nat→Bool
 |.pair _ _,0=>true
 |.pair _ b,f+1=>a2J b f
 |_,_=>false
def b1b:a0R→a0R→Bool
 | [],[]=>true
 |.fst::p,.fst::q=>b1b p q
 |.snd::p,.snd::q=>b1b p q
 |.idx i::p,.idx j::q=>(i==j)&&b1b p q
 |_,_=>false
def a1r(x y:Int):Int:=bif decide (y > x)then y else x
def a2d(x y:Int):Int:=bif decide (y<x)then y else x
def b5D{α:Type}(l:List α)(off len:Nat)(ys:List α):List α:=
 l.take off++(ys.take (min len ys.length)++l.drop (off+min len ys.length))
def b2s(l:List Int):List Int:=l.map fun n=>((n.toNat%256:Nat):Int)
def Ty.isList:Ty→Bool
 |.list _ _=>true
 |_=>false
def Ty.hasList:Ty→Bool
 |.list _ _=>true
 |.pair a b=>a.hasList || b.hasList
 |.arr _ t=>t.hasList
 |_=>false
def RA.hasList:RA→Bool
 |.v t=>t.hasList
 |.o e=>e.hasList
 |.b t=>t.hasList
section
variable {ρ:Type}
def AE.fresh(Γ:AE)(q:Bool)(n:Nat)(r:Root)(K:AE→Rs ρ):Rs ρ:=
 bif decide (n<pinned)then
  match Γ.rt n with
  |none=>K (Γ.newRt n r)
  |some _=>bif q then none else match Γ.look n with
   |none=>none
   |some _=>K (Γ.newRt n r)
 else none
def AE.apnd(Γ:AE)(q:Bool)(d:Nat)(e:Ty)(x:AV)(ys:List e.den)(K:AE→Rs ρ):Rs ρ:=
 match x with
 |.nils|.empt=>bif lim ys.length then Γ.fresh q d ⟨false,.list true e,ys⟩ fun Γ=>K (Γ.set d (.sref d []))else none
 |.sref n p=>bif q then none else match Γ.look n with
  |some r=>match a1p r.t r.x p with
   |⟨.list true e',l⟩=>
    if h:e=e' then
     bif lim (a01 l+ys.length)then
      let Γ':=((Γ.mapv (AV.kill n p)).setRt n (some ⟨r.bx,r.t,a1U r.t r.x p (.list true e') (List.append l (h▸ys))⟩)).set d (.sref n p)
      match p,r.bx with
      | [],false=>bif decide (n<pinned)then K Γ' else none
      |p,_=>match Γ.pd with
       |none=>K { Γ' with pd:=some (n,p,d) }
       |some _=>none
     else none
    else none
   |_=>none
  |none=>none
 |_=>none
def brw:List PA→List Nat→List Nat
 |.v _::ps,us=>brw ps us
 |.r false (.o _)::ps,n::us=>n::brw ps us
 |.r _ _::ps,_::us=>brw ps us
 |_,_=>[]
def AV.deeps(us ks:List Nat):AV→AV
 |.sref m q=>if us.contains m then(match q with|[]=>if ks.contains m then .sref m []else .dead|_=>.dead)else .sref m q
 |.swin m q o l=>if us.contains m then .dead else .swin m q o l
 |.ptr m q=>if us.contains m then(match q with|[]=>.ptr m []|_=>.dead)else .ptr m q
 |v=>v
def AE.over(Γ:AE)(ty:Ty)(n:Nat)(r:Root)(x:AV)(K:AE→Rs ρ):Rs ρ:=match x,Γ.look n with
 |.val t' y,some _=>if r.bx=true∧(r.t.sh=ty∧(t'.shn=t'∧t'.sh=ty))then
   (match castTo t' r.t y with
   |some z=>K ((Γ.mapv (AV.deeps [n] [])).setRt n (some ⟨true,r.t,z⟩))
   |none=>match castTo t' r.t.shn y with
    |some z=>K ((Γ.mapv (AV.deeps [n] [])).setRt n (some ⟨true,r.t.shn,z⟩))
    |none=>K ((Γ.mapv (AV.deeps [n] [])).setRt n (some ⟨true,t',y⟩)))else none
 |_,_=>none
def AE.overP(Γ:AE)(ty:Ty)(n:Nat)(r:Root)(x:AV)(K:AE→Rs ρ):a0R→Rs ρ
 | []=>Γ.over ty n r x K
 |_=>none
def AE.stor(Γ:AE)(ty:Ty)(n:Nat)(p:a0R)(x:AV)(K:AE→Rs ρ):Rs ρ:=
 match Γ.rt n with
 |none=>none
 |some r=>
  match a1p r.t r.x p with
  |⟨.list true e,_⟩=>
   if ty.isList then
   match x with
   |.nils=>match Γ.look n with
    |none=>none
    |some _=>K ((Γ.mapv (AV.kill n p)).setRt n (some ⟨r.bx,r.t,a1U r.t r.x p (.list true e) []⟩))
   |.sref m p'=>
    bif m==n&&b1b p' p then
     match Γ.pd with
     |some (m',p'',_)=>bif m'==n&&b1b p'' p then K { Γ with pd:=none }else none
     |none=>none
    else match Γ.look n,p',Γ.look m with
     |some _,[],some ⟨false,.list true e',l⟩=>
      if h:e'=e then
       bif m==n then none else
       K ((((Γ.mapv (AV.kill n p)).mapv (AV.drop m)).setRt m none).setRt n (some ⟨r.bx,r.t,a1U r.t r.x p (.list true e) (h▸l)⟩))
      else none
     |_,_,_=>none
   |_=>none
   else none
  |⟨t,_⟩=>
   if t.shn=t∧t.sh=ty then
    Γ.asV false t x fun y Γ'=>match Γ'.look n with
     |some r=>if(a1p r.t r.x p).1=t then K (Γ'.setRt n (some ⟨r.bx,r.t,a1U r.t r.x p t y⟩))else none
     |none=>none
   else Γ.overP ty n r x K p
def AV.viewed:AV→List Nat
 |.sref n _|.swin n _ _ _=>[n]
 |_=>[]
def AE.arg(Γ:AE)(fz q:Bool)(used seen:List Nat):(p:PA)→AV→(p.ty.den→AE→List Nat→List Nat→Rs ρ)→Rs ρ
 |.v t,a,K=>bif a.viewed.any fun n=>used.contains n then none else if fz then Γ.asV q t a fun x Γ'=>K x Γ' used seen else
   Γ.view t a fun x=>K x Γ used (a.viewed++seen)
 |.r c (.b t),.ptr n [],K=>if c || q || used.contains n || seen.contains n then none else match Γ.look n with
  |some ⟨true,t',x⟩=>if h:t'=t then K (h▸x) Γ (n::used) seen else none
  |_=>none
 |.r c (.o e),.sref n [],K=>if(c&&decide (pinned≤n)) || q || used.contains n || seen.contains n then none else match Γ.look n with
  |some ⟨bx,.list true e',x⟩=>if h:e'=e then(bif bx&&c then none else K (h▸x) Γ (n::used) seen)else none
  |_=>none
 |.r _ _,_,_=>none
def AE.args(Γ:AE)(fz q:Bool)(used seen:List Nat):(ps:List PA)→List AV→((a2g (ps.map PA.ty)).den→AE→List Nat→Rs ρ)→Rs ρ
 | [],[],K=>K () Γ used
 | [p],[a],K=>Γ.arg fz q used seen p a fun x Γ' used' _=>K x Γ' used'
 |p::p'::ps,a::as,K=>Γ.arg fz q used seen p a fun x Γ' used' seen'=>Γ'.args fz q used' seen' (p'::ps) as fun y Γ'' used''=>K (x,y) Γ'' used''
 |_,_,_=>none
def a2A:(rs:List RA)→(a2g (rs.map RA.ty)).den→List ((r:RA)×r.ty.den)
 | [],_=>[]
 | [r],x=>[⟨r,x⟩]
 |r::r'::rs,x=>⟨r,x.1⟩::a2A (r'::rs) x.2
def a0Y:(ps:List PA)→(a2g (ps.map PA.ty)).den→List ((p:PA)×p.ty.den)
 | [],_=>[]
 | [p],x=>[⟨p,x⟩]
 |p::p'::ps,x=>⟨p,x.1⟩::a0Y (p'::ps) x.2
def a0M:((r:RA)×r.ty.den)→Option Root
 |⟨.v _,_⟩=>none
 |⟨.o e,x⟩=>some ⟨false,.list true e,x⟩
 |⟨.b t,x⟩=>some ⟨true,t,x⟩
def c6e(n:Nat):((r:RA)×r.ty.den)→AV
 |⟨.v t,x⟩=>.val t x
 |⟨.o _,_⟩=>.sref n []
 |⟨.b _,_⟩=>.ptr n []
def a1i:List RA→Nat→List Nat
 | [],_=>[]
 |_::rs,n=>n::a1i rs (n+1000)
def a2K:List RA→Nat→List Nat
 | [],_=>[]
 |.v _::rs,n=>a2K rs (n+1000)
 |_::rs,n=>n::a2K rs (n+1000)
def a2r:List Nat→List ((r:RA)×r.ty.den)→Nat→Option Root
 |k::ns,it::its,n=>match a0M it with
  |some r=>bif n==k then some r else a2r ns its n
  |none=>a2r ns its n
 |_,_,_=>none
def a4P:List Nat→List ((r:RA)×r.ty.den)→List AV
 |k::ns,it::its=>c6e k it::a4P ns its
 |_,_=>[]
def b2v(o:Option Root)(r:Root):Root:=match o with
 |some ⟨true,_,_⟩=>⟨true,r.t,r.x⟩
 |_=>r
def c0Z:Option Root→Bool
 |some ⟨bx,_,_⟩=>bx
 |none=>false
def AE.unbx(Γ:AE)(ks:List Nat):List Nat:=ks.filter fun n=>!c0Z (Γ.rt n)
def AE.dropAll(Γ:AE)(q:Bool)(us:List Nat):List Nat→(AE→Rs ρ)→Rs ρ
 | [],K=>K Γ
 |n::r,K=>bif decide (n<pinned)&&!us.contains n then match Γ.rt n with
   |none=>Γ.dropAll q us r K
   |some _=>bif q then none else((Γ.mapv (AV.drop n)).setRt n none).dropAll q us r K
  else none
def AE.call(Γ:AE)(q:Bool)(d:Option Nat)(s:FSem)(as:List AV)(K:AE→Rs ρ):Rs ρ:=
 match Γ.pd with
 |some _=>none
 |none=>Γ.args (s.rs.any RA.hasList || (a5y s.ps).any RA.hasList) q [] [] s.ps as fun x Γ' used=>
  Γ'.dropAll q used (a2K s.rs (d.getD 0+1000)) fun Γ1=>(s.F x).bind fun y=>
   let Γ2:AE:=⟨fun i=>(Γ1.sl i).mapv (AV.deeps used (Γ1.unbx (brw s.ps used.reverse))),fun n=>match a2r (a1i s.rs (d.getD 0+1000)++used.reverse) (a2A (RA.all s.ps s.rs) y) n with
    |some r=>some (bif used.contains n then b2v (Γ1.rt n) r else r)
    |none=>Γ1.rt n,none⟩
   match d with
   |none=>K Γ2
   |some d=>match a4P (a1i s.rs (d+1000)) (a2A (RA.all s.ps s.rs) y)with
    | [v]=>K (Γ2.set d v)
    |vs=>K (Γ2.put d (.cmp .tup vs))
def AE.pathOf(t:Ty)(i:Nat):a0R:=match t with
 |.arr _ _=>[.idx i]
 |_=>a1A i
def AE.pathOk(t:Ty)(i:Nat):Bool:=match t with
 |.arr n _=>decide (i<n)
 |t=>a2J t i
def AE.fills(Γ:AE)(q:Bool)(t:Ty):List (Nat×Operand)→t.den→(t.den→AE→Rs ρ)→Rs ρ
 | [],x,K=>K x Γ
 |(i,o)::r,x,K=>bif AE.pathOk t i then(match a1p t x (AE.pathOf t i)with
  |⟨t',_⟩=>Γ.asV q t' (Γ.opd o) fun y Γ'=>Γ'.fills q t r (a1U t x (AE.pathOf t i) t' y) K)else none
def AE.lit(Γ:AE)(q:Bool)(e:Ty)(n:Nat):List (Nat×Operand)→List e.den→(List e.den→AE→Rs ρ)→Rs ρ
 | [],x,K=>K x Γ
 |(i,o)::r,x,K=>bif decide (i<n)then Γ.asV q e (Γ.opd o) fun y Γ'=>Γ'.lit q e n r (x.set i y) K else none
def AV.isVal(a:AV)(t:Ty)(K:t.den→Rs ρ):Rs ρ:=match a with
 |.val t' x=>if h:t'=t then K (h▸x)else none
 |_=>none
def AE.lenK(Γ:AE)(ty:Option Ty)(a:AV)(K:Nat→Rs ρ):Rs ρ:=match ty,a with
 |some (.list _ _),.val (.list _ _) l=>K (a01 l)
 |some (.arr n _),.val (.arr _ _) _=>K n
 |some .str,.val .str l=>K (a01 (show List Int from l))
 |some (.list _ _),.nils|some (.list _ _),.empt=>K 0
 |some (.list _ _),.sref n p=>match Γ.look n with
  |some r=>match a1p r.t r.x p with
   |⟨.list true _,l⟩=>K (a01 l)
   |_=>none
  |none=>none
 |some (.list _ _),.swin _ _ _ k=>K k
 |_,_=>none
def AE.body(Γ:AE)(n:Nat)(p:a0R)(K:(e:Ty)→List e.den→Rs ρ):Rs ρ:=match Γ.look n with
 |some r=>match a1p r.t r.x p with
  |⟨.list true e,l⟩=>K e l
  |_=>none
 |none=>none
def AE.bnd(Γ:AE)(len d:Nat)(o:Option Operand)(K:Nat→Rs ρ):Rs ρ:=match o with
 |none=>K d
 |some o=>match Γ.opd o with
  |.val (.int _) (y:Int)=>bif decide (0≤y)&&decide (y≤(len:Int))then K y.toNat else none
  |_=>none
def AE.bnds(Γ:AE)(len:Nat)(lo hi:Option Operand)(K:Nat→Nat→Rs ρ):Rs ρ:=
 Γ.bnd len len hi fun h=>Γ.bnd h 0 lo fun l=>K l h
def b8L:Option Operand→Bool
 |some (.const (.int _ 0))=>true
 |_=>false
def c2C(ty:Option Ty)(a:AV)(K:AV→Rs ρ):Rs ρ:=match ty,a with
 |some (.list _ _),.val (.list _ _) _|some (.list _ _),.nils|some (.list _ _),.empt|some (.list _ _),.sref _ _|some (.list _ _),.swin _ _ _ _=>K .empt
 |_,_=>none
def AE.slic(Γ:AE)(ty:Option Ty)(a:AV)(lo hi mx:Option Operand)(K:AV→Rs ρ):Rs ρ:=
 match mx with
 |some m=>bif b8L (some m)&&b8L hi&&lo.isNone then c2C ty a K else none
 |none=>match a with
  |.val .str (l:List Int)=>if ty=some .str then Γ.bnds l.length lo hi fun x y=>K (.val .str ((l.take y).drop x))else none
  |.val (.list false t) l=>if ty=some (.list false t)then Γ.bnds (a01 l) lo hi fun x y=>K (.val (.list false t) ((a25 y l).drop x))else none
  |.nils=>match ty with
   |some (.list _ _)=>Γ.bnds 0 lo hi fun _ _=>K .nils
   |_=>none
  |.sref n p=>Γ.body n p fun e l=>if ty=some (.list false e.sh)then(match lo,hi with
   |none,none=>K (.sref n p)
   |lo,hi=>Γ.bnds (a01 l) lo hi fun x y=>K (.swin n p x (y-x)))else none
  |.swin n p o k=>Γ.body n p fun e _=>if ty=some (.list false e.sh)then Γ.bnds k lo hi fun x y=>K (.swin n p (o+x) (y-x))else none
  |.vptr (.arr k e) l=>if ty=some (.arr k e)then Γ.bnds k lo hi fun x y=>K (.val (.list false e) ((a25 y l).drop x))else none
  |_=>none
def AE.addrK(Γ:AE)(ty:Option Ty)(a:AV)(i:Int)(K:AV→Rs ρ):Rs ρ:=match a with
 |.val (.list false t) l=>if ty=some (.list false t)then(a0r l i).bind fun x=>K (.vptr t x)else none
 |.sref n p=>Γ.body n p fun e l=>if ty=some (.list false e.sh)then bif decide (0≤i)&&decide (i<((a01 l:Nat):Int))then K (.ptr n (p++[.idx i.toNat]))else none else none
 |.swin n p o k=>Γ.body n p fun e _=>if ty=some (.list false e.sh)then bif decide (0≤i)&&decide (i<(k:Int))then K (.ptr n (p++[.idx (o+i.toNat)]))else none else none
 |.ptr n p=>match Γ.rt n with
  |some r=>match a1p r.t r.x p with
   |⟨.arr k e,_⟩=>if ty=some (.arr k e.sh)then bif decide (0≤i)&&decide (i<(k:Int))then K (.ptr n (p++[.idx i.toNat]))else none else none
   |_=>none
  |none=>none
 |.vptr (.arr k t) l=>if ty=some (.arr k t)then(a0r l i).bind fun x=>K (.vptr t x)else none
 |_=>none
def AE.lodK(Γ:AE)(q:Bool)(ty:Ty)(a:AV)(K:AV→AE→Rs ρ):Rs ρ:=match a with
 |.vptr t x=>if t=ty then K (.val t x) Γ else none
 |.ptr n p=>match Γ.look n with
  |some r=>match a1p r.t r.x p with
   |⟨.list true _,_⟩=>if ty.isList then K (.sref n p) Γ else none
   |⟨t,y⟩=>if t.sh=ty∧t.shn=t then K (.val t y) Γ else match q,p with
    |false,[]=>if r.t.sh=ty then K (.val r.t.shn (Ty.shnx r.t r.x)) ((Γ.mapv (AV.drop n)).setRt n none)else none
    |_,_=>none
  |none=>none
 |_=>none
def AE.whole(Γ:AE)(fl:Bool)(ty:Ty):AV→Option (Nat×Root)
 |.ptr n []=>match Γ.look n with
  |some r=>if r.bx=true∧(r.t.isAgg || fl)=true∧r.t.shn≠r.t∧r.t.sh=ty then some (n,r)else none
  |none=>none
 |_=>none
def AE.asg(Γ:AE)(q:Bool)(cx:Cx)(d:Nat)(v:AV)(K:AE→Rs ρ):Rs ρ:=match v with
 |.sref r []=>match Γ.look r with
  |some ⟨false,t,x⟩=>bif r==d then K (Γ.set d (.sref r []))else bif (cx.V r || decide (pinned≤r)) || q then K (Γ.set d (.sref r []))else
    bif decide (d<pinned)then K (((((Γ.mapv (AV.drop d)).mapv (AV.ren r d)).setRt r none).setRt d (some ⟨false,t,x⟩)).set d (.sref d []))else none
  |_=>K (Γ.set d (.sref r []))
 |.swin r [] 0 k=>match Γ.look r with
  |some ⟨false,.list true e,l⟩=>bif (r==d)&&!q then
    bif decide (d<pinned)&&decide (k≤a01 l)then K (((Γ.mapv (AV.kill r [])).setRt r (some ⟨false,.list true e,a25 k l⟩)).set d (.sref d []))else none
   else K (Γ.set d (.swin r [] 0 k))
  |_=>K (Γ.set d (.swin r [] 0 k))
 |v=>K (Γ.set d v)
def AE.elems(Γ:AE)(e:Ty)(a:AV)(K:List e.den→Rs ρ):Rs ρ:=match a with
 |.val (.list false t') x=>if h:t'=e then K (h▸(show List t'.den from x))else none
 |.nils|.empt=>K []
 |.sref n p=>match Γ.look n with
  |some r=>match a1p r.t r.x p with
   |⟨.list true e',l⟩=>if h:e'=e then K (h▸l)else none
   |_=>none
  |none=>none
 |.swin n p o k=>match Γ.look n with
  |some r=>match a1p r.t r.x p with
   |⟨.list true e',l⟩=>if h:e'=e then K (a25 k (a28 o (h▸l)))else none
   |_=>none
  |none=>none
 |_=>none
def b6c:a0R→Bool
 | []=>true
 |.idx _::_=>false
 |_::p=>b6c p
def AE.copTo(Γ:AE)(n:Nat)(p:a0R)(off:Nat)(len:Option Nat)(k:IntKind)(ys:List Int)(K:Nat→AE→Rs ρ):Rs ρ:=match Γ.look n with
 |some r=>match a1p r.t r.x p with
  |⟨.list true (.int k'),l⟩=>bif decide (k'=k)&&b6c p then
    K (min (len.getD (a01 l)) ys.length) (Γ.setRt n (some ⟨r.bx,r.t,a1U r.t r.x p (.list true (.int k')) (b5D (show List Int from l) off (len.getD (a01 l)) ys)⟩))
   else none
  |_=>none
 |none=>none
def AE.copK(Γ:AE)(a:AV)(k:IntKind)(ys:List Int)(K:Nat→AE→Rs ρ):Rs ρ:=match a with
 |.sref n p=>Γ.copTo n p 0 none k ys K
 |.swin n p off len=>Γ.copTo n p off (some len) k ys K
 |_=>none
def AE.mins(f:Int→Int→Int)(k:IntKind):List AV→Int→(AV→Rs ρ)→Rs ρ
 | [],x,K=>K (.val (.int k) x)
 |.val (.int k') y::r,x,K=>if k'=k then AE.mins f k r (f x y) K else none
 |_,_,_=>none
def c1a(cx:Cx):List Nat→Bool
 | [_]=>true
 |_::t::_=>match cx.T t with
  |some (.list _ _)|some .str=>true
  |_=>false
 | []=>false
def AE.gathN(Γ:AE)(d m:Nat)(e:Ty)(ys:List e.den)(n:Nat)(K:AE→Rs ρ):Rs ρ:=match Γ.look n with
 |some ⟨false,.list true e',l⟩=>if h:e=e' then
   bif (decide (n<pinned)&&!(n==m))&&lim (a01 l+ys.length)then
    K (((((Γ.mapv (AV.kill n [])).mapv (AV.drop m)).setRt m none).setRt n (some ⟨false,.list true e',List.append l (h▸ys)⟩)).set d (.sref n []))
   else none
  else none
 |_=>none
def AE.gath(Γ:AE)(d m:Nat)(e:Ty)(ys:List e.den)(a:AV)(K:AE→Rs ρ):Rs ρ:=match a with
 |.nils=>bif d==m then none else Γ.fresh false d ⟨false,.list true e,([]:List e.den)⟩ fun Γ'=>Γ'.gathN d m e ys d K
 |.sref n []=>Γ.gathN d m e ys n K
 |_=>none
def AE.ownB(Γ:AE)(e:Ty):AV→Option (Nat×(e':Ty)×List e'.den)
 |.sref m []=>match Γ.look m with
  |some ⟨false,.list true e',ys⟩=>bif decide (e'.sh=e)&&!decide (e'=e)then some (m,⟨e',ys⟩)else none
  |_=>none
 |_=>none
def AE.blt(Γ:AE)(q:Bool)(cx:Cx)(d:Nat)(b:Builtin)(ts:List Nat)(as:List AV)(K:AE→Rs ρ):Rs ρ:=
 match b,as with
 |.len,[a]=>Γ.lenK (ts.head?.bind cx.T) a fun n=>K (Γ.set d (.val (.int .i64) (n:Int)))
 |.max,.val (.int k) x::r=>AE.mins a1r k r x fun v=>K (Γ.set d v)
 |.min,.val (.int k) x::r=>AE.mins a2d k r x fun v=>K (Γ.set d v)
 |.append,[a,b]=>bif c1a cx ts then match ts.head?.bind cx.T with
  |some (.list _ e)=>
   match b with
   |.val .str y=>if h:e=.int .u8 then Γ.apnd q d e a (h▸y) K else none
   |b=>match (bif q || !e.isList then none else Γ.ownB e b)with
    |some (m,⟨e',ys⟩)=>Γ.gath d m e' ys a K
    |none=>Γ.elems e b fun ys=>Γ.apnd q d e a ys K
  |_=>none
  else none
 |.copy,[a,b]=>if q then none else match ts.head?.bind cx.T with
  |some (.list _ (.int k))=>Γ.elems (.int k) b fun ys=>Γ.copK a k ys fun n Γ'=>K (Γ'.set d (.val (.int .i64) (n:Int)))
  |_=>none
 |_,_=>none
def AE.convK(Γ:AE)(src dst:Nat)(ts tt:Option Ty)(a:AV)(K:AV→Rs ρ)(Kr:Root→Rs ρ):Rs ρ:=
 match ts,tt,a with
 |some _,some (.int k),.val (.int _) (x:Int)=>K (.val (.int k) (k.wrap x))
 |some .str,some (.list _ (.int .u8)),.val .str (x:List Int)=>bif lim x.length then Kr ⟨false,.list true (.int .u8),x⟩else none
 |some .str,some .str,.val .str (x:List Int)=>K (.val .str x)
 |some (.list _ (.int .u8)),some (.list _ (.int .u8)),.sref n []=>if src=dst then(match Γ.look n with
  |some ⟨false,.list true (.int .u8),l⟩=>bif decide (0<a01 l)then K (.sref n [])else none
  |_=>none)else none
 |some (.list _ (.int .u8)),some .str,a=>Γ.elems (.int .u8) a fun x=>K (.val .str (b2s x))
 |_,_,_=>none
def AE.conv(Γ:AE)(q:Bool)(cx:Cx)(d:Nat)(src dst:Nat)(a:AV)(K:AE→Rs ρ):Rs ρ:=
 Γ.convK src dst (cx.T src) (cx.T dst) a (fun v=>K (Γ.set d v)) fun r=>Γ.fresh q d r fun Γ=>K (Γ.set d (.sref d []))
def Cx.own(cx:Cx)(d t:Nat):Option Ty:=match cx.O d with
 |some t'=>if cx.T t=some t'.sh then some t' else none
 |none=>cx.T t
def AE.un(op:UnOp)(a:AV)(K:AV→Rs ρ):Rs ρ:=match op,a with
 |.not,.val .bool (b:Bool)=>K (.val .bool (!b))
 |.neg,.val (.int k) (x:Int)=>K (.val (.int k) (k.wrap (0-x)))
 |.xor,.val (.int k) (x:Int)=>K (.val (.int k) (bits k .xor (if k.signed then -1 else k.max) x))
 |_,_=>none
def c2D(c a b:AV)(K:AV→Rs ρ):Rs ρ:=match c with
 |.val .bool (y:Bool)=>match a,b with
  |.val .bool (u:Bool),.val .bool (v:Bool)=>K (.val .bool (bif y then u else v))
  |u,.skp=>bif y then K u else none
  |.skp,v=>bif y then none else K v
  |_,_=>none
 |_=>none
def Cx.glob(cx:Cx):AV→AV
 |.glob g=>match cx.G g with
  |some ⟨t,x⟩=>.vptr t x
  |none=>.dead
 |v=>v
def AE.sopd(Γ:AE):Operand→SV
 |.tmp t=>Γ.sl t
 |x=>.one (Γ.opd x)
def AE.aggOf(Γ:AE):Operand→Option (List AV)
 |.tmp i=>match Γ.sl i with
  |.cmp .agg vs=>some vs
  |_=>none
 |_=>none
def AV.fits1:AV→Ty→Bool
 |.val t _,a=>!t.isAgg&&!a.isAgg
 |.sref _ [],.list true _=>true
 |.nils,.list true _=>true
 |_,_=>false
def a9G:Ty→Option AV
 |.list _ _=>some .nils
 |.int k=>some (.val (.int k) (0:Int))
 |.bool=>some (.val .bool false)
 |.str=>some (.val .str ([]:List Int))
 |_=>none
def AE.aggV(Γ:AE):Nat→Ty→List (Nat×Operand)→Option (List AV)
 |_,.unit,[]=>some []
 |k,.pair a b,[]=>(a9G a).bind fun v=>(Γ.aggV (k+1) b []).map (v::·)
 |k,.pair a b,(i,o)::r=>bif i==k then(bif decide (a.cells=1)&&(Γ.opd o).fits1 a then(Γ.aggV (k+1) b r).map (Γ.opd o::·)else none)
   else(a9G a).bind fun v=>(Γ.aggV (k+1) b ((i,o)::r)).map (v::·)
 |_,_,_=>none
def AE.stors(x:Operand)(d:Nat)(τ:Ty):Nat→Ty→AE→(AE→Rs ρ)→Rs ρ
 |i,.unit,Γ,K=>match Γ.aggOf x with
  |some vs=>bif vs.length==i then K Γ else none
  |none=>none
 |i,.pair a b,Γ,K=>match Γ.rt d,Γ.get d,(Γ.aggOf x).bind (·[i]?)with
  |some r,.ptr n [],some v=>if r.t=τ∧n=d∧a.cells=1 then Γ.stor a.sh d (a1A i) v fun Γ'=>AE.stors x d τ (i+1) b Γ' K else none
  |_,_,_=>none
 |_,_,_,_=>none
def Cx.nlT(cx:Cx)(d t:Nat):Option Ty:=match cx.O d with
 |some t'=>if t'.shn=t'∧cx.T t=some t'.sh then some t' else none
 |none=>none
def aop(cx:Cx)(q:Bool)(o:Oper)(Γ:AE)(K:AE→Rs ρ):Rs ρ:=
 match o.op,o.dst with
 |.move x,some d=>match x with
  |.tmp t=>K (Γ.put d (Γ.sl t))
  |x=>K (Γ.set d (Γ.opd x))
 |.assign x,some d=>match Γ.sopd x with
  |.one v=>Γ.asg q cx d v K
  |.cmp c vs=>K (Γ.put d (.cmp c vs))
 |.makeFunc (.func f) first caps,some d=>bif first.isEmpty then K (Γ.put d (.cmp (.clo f) (caps.toList.map Γ.opd)))else none
 |.pick c a b,some d=>c2D (Γ.opd c) (Γ.opd a) (Γ.opd b) fun v=>K (Γ.set d v)
 |.alloc t,some d=>match cx.own d t with
  |some t=>Γ.fresh q d ⟨true,t,t.dflt⟩ fun Γ=>K (Γ.set d (.ptr d []))
  |none=>none
 |.box t x,some d=>match (bif q then none else Γ.aggOf x)with
  |some _=>match Γ.rt d,cx.O d with
   |none,some t'=>if cx.T t=some t'.sh then Γ.fresh false d ⟨true,t',t'.dflt⟩ fun Γ=>AE.stors x d t' 0 t' (Γ.set d (.ptr d [])) K else none
   |_,_=>none
  |none=>match cx.T t with
  |some t=>Γ.asV q t (Γ.opd x) fun y Γ=>if cx.K d then K (Γ.set d (.vptr t y))else Γ.fresh q d ⟨true,t,y⟩ fun Γ=>K (Γ.set d (.ptr d []))
  |none=>none
 |.build t ps,some d=>match cx.nlT d t with
  |some t'=>bif t'.isAgg then Γ.fills q t' ps.toList t'.dflt fun y Γ=>K (Γ.set d (.val t' y))else none
  |none=>match (bif q then none else cx.O d)with
  |some t'=>if cx.T t=some t'.sh then(match Γ.aggV 0 t' ps.toList with
   |some vs=>bif decide (0<t'.cells)then K (Γ.put d (.cmp .agg vs))else none
   |none=>none)else none
  |none=>match cx.T t with
  |some t=>bif t.isAgg then Γ.fills q t ps.toList t.dflt fun y Γ=>K (Γ.set d (.val t y))else none
  |none=>none
 |.buildSlice t n ps,some d=>match cx.T t with
  |some (.list _ e)=>match (bif q || !e.isList then none else cx.O d)with
   |some t'=>match t',ps.toList with
    |.list true e',[(0,x)]=>if e'.sh=e∧n=1 then Γ.fresh false d ⟨false,.list true e',[e'.dflt]⟩ fun Γ=>(match Γ.opd x with
      |.sref m []=>(Γ.set d (.sref d [])).stor e d [.idx 0] (.sref m []) K
      |_=>none)else none
    |_,_=>none
   |none=>bif lim n&&decide (n*e.cells≤16777216)then Γ.lit q e n ps.toList (a22 n e.dflt) fun y Γ=>Γ.fresh q d ⟨false,.list true e,y⟩ fun Γ=>K (Γ.set d (.sref d []))else none
  |_=>none
 |.load t a,some d=>match cx.T t with
  |some t=>match (bif q then none else Γ.whole (cx.K d) t (Γ.opd a))with
   |some (n,r)=>K (((Γ.mapv (AV.deeps [n] [])).setRt n (some ⟨true,r.t.shn,Ty.shnx r.t r.x⟩)).set d (.val r.t.shn (Ty.shnx r.t r.x)))
   |none=>Γ.lodK q t (cx.glob (Γ.opd a)) fun v Γ=>K (Γ.set d v)
  |none=>none
 |.store t a x,d=>if q then none else match Γ.aggOf x with
  |some _=>match a with
   |.tmp s=>match Γ.rt s with
    |some r=>if cx.T t=some r.t.sh∧0<r.t.cells then AE.stors x s r.t 0 r.t Γ fun Γ=>K (Γ.setD d .dead)else none
    |none=>none
   |_=>none
  |none=>match Γ.opd a with
  |.ptr n p=>match cx.T t with
   |some t=>Γ.stor t n p (Γ.opd x) fun Γ=>K (Γ.setD d .dead)
   |none=>none
  |_=>none
 |.nilCheck x,some d=>match Γ.opd x with
  |.ptr n p=>K (Γ.set d (.ptr n p))
  |.vptr t y=>K (Γ.set d (.vptr t y))
  |_=>none
 |.binOp op ty x y _,some d=>bif d0V (cx.T ty)then(match c8u (cx.T ty) (Γ.opd x) (Γ.opd y)with
   |some e=>if q then none else d7h op e fun b=>K (Γ.set d (.val .bool b))
   |none=>none)
  else b2u cx op ty (Γ.opd x) (Γ.opd y) fun v=>K (Γ.set d v)
 |.unOp op _ x,some d=>AE.un op (Γ.opd x) fun v=>K (Γ.set d v)
 |.convert s t x,some d=>Γ.conv q cx d s t (Γ.opd x) K
 |.makeSlice t n c,some d=>match cx.own d t with
  |some (.list _ e)=>(Γ.opd n).isVal (.int .i64) fun(x:Int)=>(Γ.opd c).isVal (.int .i64) fun(y:Int)=>
    bif decide (0≤x)&&(decide (x≤y)&&lim y.toNat)then Γ.fresh q d ⟨false,.list true e,a22 x.toNat e.dflt⟩ fun Γ=>K (Γ.set d (.sref d []))else none
  |_=>none
 |.slice t x lo hi mx,some d=>Γ.slic (cx.T t) (Γ.opd x) lo hi mx fun v=>K (Γ.set d v)
 |.fieldAddr s x f,some d=>match Γ.opd x with
  |.ptr n p=>match Γ.rt n with
   |some r=>match a1p r.t r.x p with
    |⟨t,_⟩=>if a2J t f=true∧cx.T s=some t.sh then K (Γ.set d (.ptr n (p++a1A f)))else none
   |none=>none
  |.vptr t y=>if a2J t f=true∧cx.T s=some t then(match a1p t y (a1A f)with|⟨t',z⟩=>K (Γ.set d (.vptr t' z)))else none
  |_=>none
 |.field s x f,some d=>match Γ.opd x with
  |.val t y=>if a2J t f=true∧cx.T s=some t then(match a1p t y (a1A f)with|⟨t',z⟩=>K (Γ.set d (.val t' z)))else none
  |_=>none
 |.indexAddr t x i,some d=>match Γ.opd i with
  |.val (.int _) (i:Int)=>Γ.addrK (cx.T t) (cx.glob (Γ.opd x)) i fun v=>K (Γ.set d v)
  |_=>none
 |.index s x i,some d=>match Γ.opd x,Γ.opd i with
  |.val (.arr n t) l,.val (.int _) (i:Int)=>if cx.T s=some (.arr n t)then(a0r l i).bind fun y=>K (Γ.set d (.val t y))else none
  |.val .str (l:List Int),.val (.int _) (i:Int)=>if cx.T s=some .str then(a0r l i).bind fun y=>K (Γ.set d (.val (.int .u8) y))else none
  |_,_=>none
 |.extract (.tmp t) i,some d=>match Γ.sl t with
  |.cmp .tup vs=>match vs[i]? with
   |some v=>K (Γ.set d v)
   |none=>none
  |_=>none
 |.call c,d=>match c.callee with
  |.builtin b=>match d with
   |some d=>Γ.blt q cx d b c.argTypes.toList (c.args.toList.map Γ.opd) K
   |none=>none
  |.value (.func f)=>match cx.C f with
   |some s=>Γ.call q d s (c.args.toList.map Γ.opd) K
   |none=>none
  |.value (.tmp t)=>if q then none else match Γ.sl t with
   |.cmp (.clo f) vs=>match cx.C f with
    |some s=>Γ.call q d s (c.args.toList.map Γ.opd++vs) K
    |none=>none
   |_=>none
  |_=>none
 |_,_=>none
def b1r(ops:List Oper)(j:Nat):Option Nat:=(ops[j]?).bind (·.dst)
inductive Md where
 |v|q|x

 |p

 |a (ws:List Nat)
 |r (ns:List Nat)
 |w (ws:List Nat)
def Md.isW:Md→Bool
 |.w _=>true
 |_=>false
def AV.firm:AV→Bool
 |.skp|.val _ _|.nils|.empt|.nilp|.vptr _ _|.glob _=>true
 |_=>false
def SV.firm:SV→Bool
 |.one v=>v.firm
 |.cmp _ vs=>vs.all AV.firm
def AV.refs:AV→List Nat
 |.ptr n _|.sref n _|.swin n _ _ _=>[n]
 |_=>[]
def SV.refs:SV→List Nat
 |.one v=>v.refs
 |.cmp _ vs=>vs.flatMap AV.refs
def AV.alive:AV→Bool
 |.dead=>false
 |_=>true
def SV.alive:SV→Bool
 |.one v=>v.alive
 |.cmp _ vs=>vs.all AV.alive
def c1b(cx:Cx)(ts:List Nat):Bool:=match ts.head?.bind cx.T with
 |some (.list _ e)=>e.isList
 |_=>false
def wOk(cx:Cx)(o:Oper)(Γ:AE):Bool:=match o.op with
 |.call c=>match c.callee with
  |.builtin .append=>o.dst.isSome&&!c1b cx c.argTypes.toList
  |.value (.func f)=>match cx.C f with
   |some s=>!(s.rs.any RA.hasList || (a5y s.ps).any RA.hasList) || c.args.toList.all fun x=>(Γ.opd x).viewed.isEmpty
   |none=>false
  |_=>false
 |.store _ _ x=>(Γ.opd x).viewed.isEmpty&&(Γ.aggOf x).isNone
 |_=>false
def AE.foot(Γ:AE)(o:Oper):List Nat:=o.op.operands.toList.flatMap fun x=>match x with
 |.tmp t=>(Γ.sl t).refs
 |_=>[]
def a9d(cx:Cx)(o:Oper)(d:Nat):List Nat:=d::(match o.op with
 |.call c=>(match c.callee with
  |.value (.func f)=>(match cx.C f with
   |some s=>a1i s.rs (d+1000)
   |none=>[])
  |_=>[])
 |_=>[])
def c3N(a b:List Nat):Bool:=a.all fun n=>b.contains n
def disj(a b:List Nat):Bool:=a.all fun n=>!b.contains n
def c4D(Γ:AE):Operand→Option Nat
 |.tmp t=>match Γ.sl t with
  |.one (.ptr n [])=>bif decide (pinned≤n)then some n else none
  |_=>none
 |_=>none
def b4f(o:Oper)(Γ:AE):Option Nat:=match o.op with
 |.move x=>c4D Γ x
 |.nilCheck x=>c4D Γ x
 |_=>none
def AV.calm:AV→Bool
 |.ptr n []=>decide (pinned≤n)
 |v=>v.firm
def SV.calm:SV→Bool
 |.one v=>v.calm
 |sv=>sv.firm
def a5q(cx:Cx):Md→Oper→AE→(AE→Rs ρ)→Rs ρ
 |.x,o,Γ,K=>aop cx false o Γ K
 |.w ws,o,Γ,K=>match Γ.pd with
  |none=>bif wOk cx o Γ&&(c3N (Γ.foot o) ws&&c3N (a9d cx o (o.dst.getD 0)) ws)then aop cx false o Γ fun Γ'=>(match Γ'.pd with
    |none=>K Γ'
    |some _=>none)else none
  |some _=>none
 |.r ns,o,Γ,K=>bif (o.op.operands.toList.all fun x=>match x with
   |.tmp t=>(Γ.sl t).alive&&(Γ.sl t).refs.all fun n=>(Γ.rt n).isSome&&ns.contains n
   |_=>true)&&c3N (a9d cx o (o.dst.getD 0)) ns then
    (match o.dst with
     |some d=>aop cx true o Γ fun Γ'=>bif c3N (Γ'.sl d).refs ns then K Γ' else none
     |none=>none)
   else none
 |.p,o,Γ,K=>match b4f o Γ,o.dst with
  |some n,some d=>K (Γ.put d (.one (.ptr n [])))
  |_,_=>none
 |.a ws,o,Γ,K=>match Γ.pd with
  |none=>bif wOk cx o Γ&&(c3N (Γ.foot o) ws&&c3N (a9d cx o (o.dst.getD 0)) ws)then aop cx false o Γ K else none
  |some _=>none
 |.q,o,Γ,K=>bif o.op.operands.toList.all fun x=>match x with
   |.tmp t=>(Γ.sl t).refs.all fun n=>(Γ.rt n).isSome
   |_=>true then
    (match o.dst with
     |some _=>aop cx true o Γ K
     |none=>none)
   else none
 |.v,o,Γ,K=>match b4f o Γ with
  |some n=>(match o.dst with
   |some d=>K (Γ.put d (.one (.ptr n [])))
   |none=>none)
  |none=>bif o.op.operands.toList.all fun x=>match x with
   |.tmp t=>(Γ.sl t).firm
   |_=>true then
    (match o.dst with
     |some d=>aop cx true o Γ fun Γ'=>bif (Γ'.sl d).firm then K Γ' else none
     |none=>none)
   else none
def a0S(cx:Cx)(md:Md)(ops:List Oper)(o:Oper)(Γ:AE)(K:AE→Rs ρ):Rs ρ:=
 match o.guard with
 |none=>a5q cx md o Γ K
 |some (j,want)=>match b1r ops j with
  |none=>none
  |some g=>match Γ.get g with
   |.val .bool (b:Bool)=>bif b then(bif want then a5q cx md o (Γ.set g (.val .bool true)) K else K ((Γ.set g (.val .bool true)).setD o.dst .skp))
     else(bif want then K ((Γ.set g (.val .bool false)).setD o.dst .skp)else a5q cx md o (Γ.set g (.val .bool false)) K)
   |.skp=>K (Γ.setD o.dst .skp)
   |_=>none
def a7E(cx:Cx)(ops:List Oper):List (Md×Oper)→AE→(AE→Rs ρ)→Rs ρ
 | [],Γ,K=>K Γ
 |(md,o)::r,Γ,K=>a0S cx md ops o Γ fun Γ'=>a7E cx ops r Γ' K
def c4E:Md→Md→Bool
 |.x,_|_,.x=>false
 |.a _,.p|.p,.a _=>true
 |.a _,_|_,.a _=>false
 |.w _,.p|.p,.w _=>true
 |.w _,.v|.v,.w _=>true
 |.w ws,.r ns|.r ns,.w ws=>disj ns ws
 |.w _,_|_,.w _=>false
 |_,_=>true
def c6f:List Oper→List Nat→List Nat
 | [],acc=>acc
 |o::r,acc=>c6f r (acc++[o.after.toList.foldl (fun s e=>if Region.binds .any e then s ||| 2^e.on ||| acc.getD e.on 0 else s) 0])
def c4F(ops:Array Oper)(ms:List Md):Bool:=
 let b:=c6f ops.toList []
 decide (ms.length=ops.size)&&(a29 ops.size).all fun j=>((ops.getD j default).after.toList.all fun e=>!Region.binds .any e || decide (e.on<j)) &&
  (a29 j).all fun i=>(b.getD j 0).testBit i || (c4E (ms.getD i .x) (ms.getD j .x)&&((ops.getD i default).apart ops (ops.getD j default) &&
   (((ms.getD i .x).isW || (ops.getD i default).dst.isSome)&&((ms.getD j .x).isW || (ops.getD j default).dst.isSome))))
end
inductive Ex where
 |normal
 |exit (id:Nat)
 |ret
 deriving DecidableEq
inductive Ent where
 |sv (i:Nat) (t:Ty)

 |own (i n:Nat) (e:Ty)

 |box (n:Nat) (t:Ty)
 |ptr (i n:Nat) (p:a0R)

 |vp (i:Nat) (t:Ty)
 |ref (i n:Nat) (p:a0R)

 |rfi (i n:Nat)

 |win (i n:Nat) (p:a0R)

 |clo (i f:Nat) (ns:List Nat)
@[reducible] def a0f:=List Ent
def a0f.ty:a0f→Ty
 | []=>.unit
 |.sv _ t::r=>.pair t (a0f.ty r)
 |.own _ _ e::r=>.pair (.list true e) (a0f.ty r)
 |.box _ t::r=>.pair t (a0f.ty r)
 |.ptr _ _ _::r=>a0f.ty r
 |.vp _ t::r=>.pair t (a0f.ty r)
 |.ref _ _ _::r=>a0f.ty r
 |.rfi _ _::r=>.pair (.int .i64) (a0f.ty r)
 |.win _ _ _::r=>.pair (.int .i64) (.pair (.int .i64) (a0f.ty r))
 |.clo _ _ _::r=>a0f.ty r
def AE.nothing:AE:=⟨fun _=>.one .dead,fun _=>none,none⟩
def b1c:List Nat→List AV
 | []=>[]
 |n::ns=>.ptr n []::b1c ns
def b4G:List AV→List Nat→Bool
 | [],[]=>true
 |.ptr n []::vs,m::ns=>(n==m)&&b4G vs ns
 |_,_=>false
def a0f.enc:(es:a0f)→es.ty.den→AE
 | [],_=>AE.nothing
 |.sv i t::r,x=>(a0f.enc r x.2).set i (.val t x.1)
 |.own i n e::r,x=>((a0f.enc r x.2).setRt n (some ⟨false,.list true e,x.1⟩)).set i (.sref n [])
 |.box n t::r,x=>(a0f.enc r x.2).setRt n (some ⟨true,t,x.1⟩)
 |.ptr i n p::r,x=>(a0f.enc r x).set i (.ptr n p)
 |.vp i t::r,x=>(a0f.enc r x.2).set i (.vptr t x.1)
 |.ref i n p::r,x=>(a0f.enc r x).set i (.sref n p)
 |.rfi i n::r,x=>(a0f.enc r x.2).set i (.sref n [.idx (show Int from x.1).toNat])
 |.win i n p::r,x=>(a0f.enc r x.2.2).set i (.swin n p (show Int from x.1).toNat (show Int from x.2.1).toNat)
 |.clo i f ns::r,x=>(a0f.enc r x).put i (.cmp (.clo f) (b1c ns))
def a0f.names:a0f→List Nat
 | []=>[]
 |.own _ n _::r=>n::a0f.names r
 |.box n _::r=>n::a0f.names r
 |_::r=>a0f.names r
def c8l:List Nat→Bool
 | []=>true
 |a::l=>!l.contains a&&c8l l
section
variable {ρ:Type}
def a0f.rest(nm:List Nat)(Γ:AE):(es:a0f)→(es.ty.den→Rs ρ)→Rs ρ
 | [],K=>K ()
 |.sv i t::r,K=>match Γ.get i with
  |.val t' x=>if h:t'=t then a0f.rest nm Γ r fun y=>K (h▸x,y)else none
  |_=>none
 |.own i n e::r,K=>match Γ.get i with
  |.sref m []=>bif m==n then(match Γ.rt n with
    |some ⟨false,.list true e',l⟩=>if h:e'=e then a0f.rest nm Γ r fun y=>K (h▸l,y)else none
    |_=>none)else none
  |.nils=>match Γ.rt n with
   |none=>bif decide (n<pinned)then a0f.rest nm Γ r fun y=>K ([],y)else none
   |some _=>none
  |.empt=>match Γ.rt n with
   |none=>bif decide (n<pinned)then a0f.rest nm Γ r fun y=>K ([],y)else none
   |some _=>none
  |_=>none
 |.box n t::r,K=>match Γ.rt n with
  |some ⟨true,t',x⟩=>if h:t'=t then a0f.rest nm Γ r fun y=>K (h▸x,y)else if t'.shn=t' then(match castTo t' t x with
   |some z=>a0f.rest nm Γ r fun y=>K (z,y)
   |none=>none)else none
  |_=>none
 |.ptr i n p::r,K=>match Γ.get i with
  |.ptr m q=>bif nm.contains n&&((m==n)&&b1b q p)then a0f.rest nm Γ r K else none
  |_=>none
 |.vp i t::r,K=>match Γ.get i with
  |.vptr t' x=>if h:t'=t then a0f.rest nm Γ r fun y=>K (h▸x,y)else none
  |_=>none
 |.ref i n p::r,K=>match Γ.get i with
  |.sref m q=>bif nm.contains n&&((m==n)&&b1b q p)then a0f.rest nm Γ r K else none
  |_=>none
 |.rfi i n::r,K=>match Γ.get i with
  |.sref m [.idx k]=>bif nm.contains n&&(m==n)then a0f.rest nm Γ r fun y=>K ((k:Int),y)else none
  |_=>none
 |.win i n p::r,K=>match Γ.get i with
  |.swin m q o k=>bif nm.contains n&&((m==n)&&b1b q p)then a0f.rest nm Γ r fun y=>K ((o:Int),(k:Int),y)else none
  |_=>none
 |.clo i f ns::r,K=>match Γ.sl i with
  |.cmp (.clo f') vs=>bif (f'==f)&&(ns.all nm.contains&&b4G vs ns)then a0f.rest nm Γ r K else none
  |_=>none
def AV.exact:AV→Ty→Bool
 |.val t' _,t=>decide (t'=t)
 |_,_=>true
def a0f.vals(nm:List Nat):(es:a0f)→AE→(es.ty.den→Rs ρ)→Rs ρ
 |.sv i t::r,Γ,K=>bif (Γ.get i).exact t then Γ.asV false t (Γ.get i) fun x Γ'=>a0f.vals nm r (Γ'.set i (.val t x)) fun y=>K (x,y)else none
 |es,Γ,K=>a0f.rest nm Γ es K
def a0f.dcd(es:a0f)(Γ:AE)(K:es.ty.den→Rs ρ):Rs ρ:=match Γ.pd with
 |none=>bif c8l es.names then a0f.vals es.names es Γ K else none
 |some _=>none
end
@[reducible] def b0T:=List (Ex×a0f)
def b0T.den:b0T→Type
 | []=>Empty
 | [(_,s)]=>s.ty.den
 |(_,s)::r=>s.ty.den ⊕ b0T.den r
def b0T.pack{ρ:Type}:(o:b0T)→Ex→AE→(o.den→Rs ρ)→Rs ρ
 | [],_,_,_=>none
 | [(e',s)],e,Γ,K=>if e=e' then s.dcd Γ K else none
 |(e',s)::x::r,e,Γ,K=>if e=e' then s.dcd Γ fun y=>K (.inl y)else b0T.pack (x::r) e Γ fun y=>K (.inr y)
def b0T.open{ρ:Type}:(o:b0T)→(o.den→(Ex→AE→Rs ρ)→Rs ρ)
 | []=>fun _ _=>none
 | [(e',s)]=>fun x K=>K e' (s.enc x)
 |(e',s)::y::r=>
  let g:=b0T.open (y::r)
  fun x K=>Sum.elim (fun a=>K e' (s.enc a)) (fun z=>g z K) (show s.ty.den ⊕ b0T.den (y::r)from x)
def a3N{σ β:Type}(f:σ→Option (σ ⊕ β)):Nat→σ→Option β
 |0,_=>none
 |n+1,s=>match f s with
  |none=>none
  |some (.inl s')=>a3N f n s'
  |some (.inr b)=>some b
open Classical in
def b9A {σ β:Type} (f:σ→Option (σ ⊕ β)) (s:σ):Option β:=
 if h:∃n b,a3N f n s=some b then some h.choose_spec.choose else none
def a0e{σ β:Type}(f:σ→Option (σ ⊕ β))(s:σ):Option β:=match a3N f 400 s with
 |some b=>some b
 |none=>b9A f s
structure Hints where
 loops:List (Nat×a0f×b0T)
 cuts:List (Nat×b0T)

 regs:List (Nat×List Md)
def find{α:Type}:List (Nat×α)→Nat→Option α
 | [],_=>none
 |(k,x)::r,n=>bif k==n then some x else find r n
def a1S(cx:Cx)(H:Hints):Code→Nat→{ρ:Type}→AE→(Ex→AE→Rs ρ)→Rs ρ
 |.skip,_,_,Γ,K=>K .normal Γ
 |.region id ops draw,_,_,Γ,K=>bif draw then(match find H.regs id with
    |some ms=>bif c4F ops ms then a7E cx ops.toList (ms.zip ops.toList) Γ fun Γ'=>K .normal Γ' else none
    |none=>none)
   else a7E cx ops.toList (ops.toList.map fun o=>(.x,o)) Γ fun Γ'=>K .normal Γ'
 |.seq a b,p,_,Γ,K=>match find H.cuts p with
  |none=>a1S cx H a (2*p) Γ fun e Γ'=>match e with
   |.normal=>a1S cx H b (2*p+1) Γ' K
   |e=>K e Γ'
  |some os=>(a1S cx H a (2*p) Γ fun e Γ'=>os.pack e Γ' some).bind fun x=>os.open x fun e Γ'=>match e with
   |.normal=>a1S cx H b (2*p+1) Γ' K
   |e=>K e Γ'
 |.cond c x y,p,_,Γ,K=>match Γ.opd c with
  |.val .bool (t:Bool)=>bif t then a1S cx H x (2*p) Γ K else a1S cx H y (2*p+1) Γ K
  |_=>none
 |.block id c,p,_,Γ,K=>a1S cx H c (2*p) Γ fun e Γ'=>match e with
  |.exit i=>bif i==id then K .normal Γ' else K (.exit i) Γ'
  |e=>K e Γ'
 |.loop c,p,_,Γ,K=>match find H.loops p with
  |none=>none
  |some (s,os)=>s.dcd Γ fun x=>
   (a0e (fun x=>a1S cx H c (2*p) (s.enc x) fun e Γ'=>match e with
    |.normal=>s.dcd Γ' fun x'=>some (.inl x')
    |e=>os.pack e Γ' fun y=>some (.inr y)) x).bind fun y=>os.open y K
 |.exit id,_,_,Γ,K=>K (.exit id) Γ
 |.ret,_,_,Γ,K=>K .ret Γ
 |_,_,_,_,_=>none
def b5b(ps:List PA)(i:Nat):Option Bool:=match ps[i]? with
 |some (.r c _)=>some c
 |_=>none
def rnm(c:Bool)(i:Nat):Nat:=bif c then i else pinned+i
def b3H(ps:List PA)(m:Nat):Option Nat:=
 bif decide (m<pinned)then(match b5b ps m with|some true=>some m|_=>none)
 else match b5b ps (m-pinned)with|some false=>some (m-pinned)|_=>none
def ini(ps:List PA)(x:(a2g (ps.map PA.ty)).den):AE where
 sl:=fun i=>match (a0Y ps x)[i]? with
  |some ⟨.v t,y⟩=>.one (.val t y)
  |some ⟨.r c a,y⟩=>bif c&&decide (pinned≤i)then .one .dead else .one (c6e (rnm c i) ⟨a,y⟩)
  |none=>.one .dead
 rt:=fun n=>bif decide (n<pinned)then(match (a0Y ps x)[n]? with
   |some ⟨.r true a,y⟩=>a0M ⟨a,y⟩
   |_=>none)
  else match (a0Y ps x)[n-pinned]? with
  |some ⟨.r false a,y⟩=>a0M ⟨a,y⟩
  |_=>none
 pd:=none
section
variable {ρ:Type}
def AE.out(cx:Cx)(Γ:AE)(tk:List Nat)(j:Nat):(r:RA)→ResultVar ⊕ Option Nat→(r.ty.den→AE→List Nat→Rs ρ)→Rs ρ
 |.v t,.inl (.tmp i),K=>bif (Γ.get i).viewed.any tk.contains then none else Γ.asV false t (Γ.get i) fun x Γ'=>K x (Γ'.set j (.val t x)) tk
 |.v t,.inl (.cell i t'),K=>match Γ.get i with
  |.ptr n []=>bif tk.contains n then none else if cx.T t'=some t.sh then Γ.lodK false t.sh (.ptr n []) fun v Γ'=>match v with
    |.val t'' x=>match castTo t'' t x with
     |some y=>K y (Γ'.set j (.val t y)) tk
     |none=>none
    |_=>none
   else none
  |_=>none
 |.o e,.inl (.tmp i),K=>match Γ.get i with
  |.sref n []=>bif tk.contains n then none else match Γ.rt n with
   |some ⟨false,.list true e',l⟩=>if h:e'=e then K (h▸l) (Γ.set j (.sref n [])) (n::tk)else none
   |_=>none
  |.nils=>K [] (Γ.set j .nils) tk
  |.empt=>K [] (Γ.set j .empt) tk
  |_=>none
 |.b t,.inl (.tmp i),K=>match Γ.get i with
  |.ptr n []=>bif tk.contains n || !decide (n<pinned)then none else match Γ.rt n with
   |some ⟨true,t',x⟩=>if h:t'=t then K (h▸x) (Γ.set j (.ptr n [])) (n::tk)else none
   |_=>none
  |_=>none
 |.b t,.inr (some n),K=>bif tk.contains n then none else match Γ.rt n with
  |some ⟨true,t',x⟩=>if h:t'=t then K (h▸x) (Γ.set j (.ptr n [])) (n::tk)else none
  |_=>none
 |.o e,.inr (some n),K=>bif tk.contains n then none else match Γ.rt n with
  |some ⟨false,.list true e',x⟩=>if h:e'=e then K (h▸x) (Γ.set j (.sref n [])) (n::tk)else none
  |_=>none
 |.o _,.inr none,K=>K [] (Γ.set j .nils) tk
 |_,_,_=>none
def AE.outs(cx:Cx)(Γ:AE)(tk:List Nat)(j:Nat):(rs:List RA)→List (ResultVar ⊕ Option Nat)→((a2g (rs.map RA.ty)).den→AE→Rs ρ)→Rs ρ
 | [],[],K=>K () Γ
 | [r],[v],K=>Γ.out cx tk j r v fun x Γ' _=>K x Γ'
 |r::r'::rs,v::vs,K=>Γ.out cx tk j r v fun x Γ' tk'=>Γ'.outs cx tk' (j+1) (r'::rs) vs fun y Γ''=>K (x,y) Γ''
 |_,_,_=>none
end
def a0I:List PA→Nat→List Nat
 | [],_=>[]
 |.v _::r,i=>a0I r (i+1)
 |.r _ _::r,i=>i::a0I r (i+1)
def b2w(ps:List PA)(i:Nat):Option Nat:=match b5b ps i with
 |some true=>none
 |_=>some (pinned+i)
def AE.upto(Γ:AE)(N:Nat):AE:=⟨fun i=>bif decide (i<N)then Γ.sl i else .one .dead,Γ.rt,Γ.pd⟩
def c1c(cx:Cx)(H:Hints)(fn:Func)(ps:List PA)(rs:List RA)(x:(a2g (ps.map PA.ty)).den):Option (a2g ((RA.all ps rs).map RA.ty)).den:=
 match fn.body with
 |none=>none
 |some body=>a1S cx H body 1 (ini ps x) fun e Γ=>match e,Γ.pd with
  |.exit _,_=>none
  |_,some _=>none
  |_,none=>(Γ.upto fn.ntmps).outs cx [] fn.ntmps (RA.all ps rs) (fn.results.toList.map .inl++(a0I ps 0).map fun i=>.inr (b2w ps i)) fun y _=>some y
end Go.Ab
namespace Go.Ab
@[reducible] def Mem:=Nat→Nat→Option Value
@[reducible] def a1g:=List (Nat×Nat)
def a0g{α:Type}(f:Nat→Option (α×a1g×List Nat)):(n i:Nat)→Option (List α×a1g×List Nat)
 |0,_=>some ([],[],[])
 |n+1,i=>match f i with
  |none=>none
  |some (x,o,r)=>match a0g f n (i+1)with
   |none=>none
   |some (xs,os,rs)=>some (x::xs,o++os,r++rs)
def a1j{α:Type}(m:Mem)(o:Bool)(sz:Nat)(f:(Nat→Option Value)→Option (α×a1g×List Nat))(v:Option Value):Option (List α×a1g×List Nat):=
 match v with
 |some (.slice none n c)=>if n=0∧c=0 then some ([],[],[])else none
 |some (.slice (some a) n c)=>
  if(c=0∨a.spot=none)∧n≤c then
   match a0g (fun i=>f fun j=>m a.block (a.off+(i*sz+j))) n 0 with
   |none=>none
   |some (xs,os,rs)=>
    if o=true then(if c=0 then some (xs,os,rs)else some (xs,(a.block,a.off+c*sz)::os,rs))
    else(if n=0 then some (xs,[],[])else some (xs,[],a.block::(os.map (·.1)++rs)))
  else none
 |_=>none
def dec(m:Mem):(t:Ty)→(Nat→Option Value)→Option (t.den×a1g×List Nat)
 |.int k,rd=>match rd 0 with
  |some (.int k' n)=>if k'=k then some (n,[],[])else none
  |_=>none
 |.bool,rd=>match rd 0 with
  |some (.bool b)=>some (b,[],[])
  |_=>none
 |.str,rd=>match rd 0 with
  |some (.string s)=>some ((s.data.toList.map fun b=>(b.toNat:Int):List Int),[],[])
  |_=>none
 |.unit,_=>some ((),[],[])
 |.pair a b,rd=>match dec m a rd with
  |none=>none
  |some (x,o,r)=>match dec m b (fun j=>rd (a.cells+j))with
   |none=>none
   |some (y,o',r')=>some ((x,y),o++o',r++r')
 |.arr n t,rd=>a0g (fun i=>dec m t fun j=>rd (i*t.cells+j)) n 0
 |.list o t,rd=>a1j m o t.cells (dec m t) (rd 0)
 |.nl t,rd=>match rd 0 with
  |some (.slice none 0 0)=>some (([]:List t.den),[],[])
  |_=>none
inductive Src where
 |at(b o:Nat)
 |one (v:Value)
def Src.rd(m:Mem):Src→Nat→Option Value
 |.at b o,j=>m b (o+j)
 |.one v,j=>if j=0 then some v else none
def a0V(m:Mem):a0R→Ty→Src→Option (Ty×Src)
 | [],t,s=>some (t,s)
 |.fst::p,t,s=>match t,s with
  |.pair a _,.at bl o=>a0V m p a (.at bl o)
  |_,_=>none
 |.snd::p,t,s=>match t,s with
  |.pair a b,.at bl o=>a0V m p b (.at bl (o+a.cells))
  |_,_=>none
 |.idx i::p,t,s=>match t,s with
  |.arr n t,.at bl o=>if i<n then a0V m p t (.at bl (o+i*t.cells))else none
  |.list true t,s=>match s.rd m 0 with
   |some (.slice (some a) n _)=>if i<n then a0V m p t (.at a.block (a.off+i*t.cells))else none
   |_=>none
  |_,_=>none
@[reducible] def loc(m:Mem)(t:Ty)(s:Src)(p:a0R):Option (Ty×Src):=a0V m p t s
section collectLemmas
variable {α:Type} {f f':Nat→Option (α×a1g×List Nat)}
theorem b1s:∀(n i:Nat),(∀j,i≤j→j<i+n→f' j=f j)→a0g f' n i=a0g f n i
 |0,_,_=>rfl
 |n+1,i,h=>by
  simp[a0g];rw[h i (a17 _) (by omega),b1s n (i+1) (fun j h1 h2=>h j (by omega) (by omega))]
theorem a0W:∀(n i:Nat){xs os rs},a0g f n i=some (xs,os,rs)→xs.length=n
 |0,i,xs,os,rs,h=>by simp_all[a0g]
 |n+1,i,xs,os,rs,h=>by
  simp[a0g]at h
  split at h
  grind
  split at h
  grind
  rename_i h2;simp at h;obtain⟨rfl,rfl,rfl⟩:=h;simp[a0W n (i+1) h2]
theorem a0T:∀(n i k:Nat){xs os rs},a0g f n i=some (xs,os,rs)→k<n→
  ∃x o r A B A' B',f (i+k)=some (x,o,r)∧xs[k]?=some x∧os=A++(o++B)∧rs=A'++(r++B')
 |0,_,_,_,_,_,_,h=>by omega
 |n+1,i,k,xs,os,rs,h,hk=>by
  simp[a0g]at h
  split at h
  grind
  ·rename_i x o r hf
   split at h
   grind
   ·rename_i xs' os' rs' h2;simp at h;obtain⟨rfl,rfl,rfl⟩:=h;cases k with
    |zero=>exact⟨x,o,r,[],os',[],rs',by omega,by simp,by simp,by simp⟩
    |succ k=>
     obtain⟨x',o',r',A,B,A',B',h3,h4,rfl,rfl⟩:=a0T n (i+1) k h2 (by omega)
     grind
theorem b8b:∀(n i k:Nat){xs os rs x o r y o' r'},a0g f n i=some (xs,os,rs)→k<n→f (i+k)=some (x,o,r)→
  f' (i+k)=some (y,o',r')→(∀j,i≤j→j<i+n→j≠i+k→f' j=f j)→
  ∃A B rs',os=A++(o++B)∧a0g f' n i=some (xs.set k y,A++(o'++B),rs')∧∀b∈rs',b∈rs∨b∈r'
 |0,_,_,_,_,_,_,_,_,_,_,_,_,h,_,_,_=>by omega
 |n+1,i,k,xs,os,rs,x,o,r,y,o',r',h,hk,hf,hf',hj=>by
  simp[a0g]at h
  split at h
  grind
  ·rename_i x1 o1 r1 hf1
   split at h
   grind
   ·rename_i xs2 os2 rs2 h2;simp at h;obtain⟨rfl,rfl,rfl⟩:=h;cases k with
    |zero=>
     simp at hf hf';rw[hf1]at hf;simp at hf;obtain⟨rfl,rfl,rfl⟩:=hf;refine⟨[],os2,r'++rs2,by simp,?_,?_⟩
     all_goals grind[a0g,b1s]
    |succ k=>
     have e1:i+1+k=i+(k+1):=by omega
     obtain⟨A,B,rs',rfl,h3,h4⟩:=b8b n (i+1) k h2 (by omega) (by rw[e1];omega) (by rw[e1];omega)
      (fun j h1 h2 h3=>hj j (by omega) (by omega) (by omega))
     refine⟨o1++A,B,r1++rs',by simp,?_,?_⟩;simp_all[a0g]
     grind
theorem b8M:∀(n k i:Nat){xs os rs ys os' rs'},a0g f n i=some (xs,os,rs)→a0g f k (i+n)=some (ys,os',rs')→
  a0g f (n+k) i=some (xs++ys,os++os',rs++rs')
 |0,k,i,xs,os,rs,ys,os',rs',h,h'=>by
  simp[a0g]at h;simp_all
 |n+1,k,i,xs,os,rs,ys,os',rs',h,h'=>by
  simp[a0g]at h
  split at h
  grind
  rename_i x1 o1 r1 hf1
  split at h
  grind
  rename_i xs2 os2 rs2 h2;simp at h;obtain⟨rfl,rfl,rfl⟩:=h
  have:=b8M n k (i+1) h2 (by rw[show i+1+n=i+(n+1)from by omega];omega)
  grind[a0g]
theorem a4W:∀(n k i:Nat){xs os rs},a0g f (n+k) i=some (xs,os,rs)→
  ∃os1 rs1 os2 rs2,a0g f n i=some (xs.take n,os1,rs1)∧a0g f k (i+n)=some (xs.drop n,os2,rs2)∧os=os1++os2∧rs=rs1++rs2
 |0,k,i,xs,os,rs,h=>⟨[],[],os,rs,by rfl,by simp_all,rfl,rfl⟩
 |n+1,k,i,xs,os,rs,h=>by
  rw[show n+1+k=(n+k)+1 from by omega]at h;simp[a0g]at h
  split at h
  grind
  ·rename_i x1 o1 r1 hf1
   split at h
   grind
   ·rename_i xs2 os2 rs2 h2;simp at h;obtain⟨rfl,rfl,rfl⟩:=h;obtain⟨a,b,c,d,h3,h4,rfl,rfl⟩:=a4W n k (i+1) h2;refine⟨o1++a,r1++b,c,d,?_,?_,by simp,by simp⟩
    all_goals grind[a0g]
end collectLemmas
theorem d1v{α:Type}{m m':Mem}{ow:Bool}{sz:Nat}{f f':(Nat→Option Value)→Option (α×a1g×List Nat)}{v:Option Value}{x:List α}{o r}
  (h:a1j m ow sz f v=some (x,o,r))(hm:∀b j,b∈o.map (·.1)∨b∈r→m' b j=m b j)
  (hf:∀i o' r' y (a:Addr) (n c:Nat),v=some (.slice (some a) n c)→f (fun j=>m a.block (a.off+(i*sz+j)))=some (y,o',r')→
   (∀b j,b=a.block∨(b∈o'.map (·.1)∨b∈r')→m' b j=m b j)→f' (fun j=>m' a.block (a.off+(i*sz+j)))=some (y,o',r')):
  a1j m' ow sz f' v=some (x,o,r):=by
 unfold a1j at h⊢
 split at h
 omega;rename_i a n c
 split at h
 rename_i hc
 split at h
 grind
 rename_i xs os rs h2;have hsub:∀b j,n≠0→b=a.block∨b∈os.map (·.1)∨b∈rs→m' b j=m b j:=by
  grind
 have e:a0g (fun i=>f' fun j=>m' a.block (a.off+(i*sz+j))) n 0=a0g (fun i=>f fun j=>m a.block (a.off+(i*sz+j))) n 0:=by
  refine b1s n 0 fun i h0 hi=>?_
  obtain⟨y,o',r',A,B,A',B',hf1,-,rfl,rfl⟩:=a0T n 0 i h2 (by omega);simp at hf1;rw[hf1];refine hf i o' r' y a n c rfl hf1 (fun b j hb=>hsub b j (by omega) ?_)
  grind
 simp_all;simp_all;omega
theorem a0x{m m':Mem}:∀(t:Ty){rd rd':Nat→Option Value}{x o r},dec m t rd=some (x,o,r)→
  (∀j,j<t.cells→rd' j=rd j)→(∀b j,b∈o.map (·.1)∨b∈r→m' b j=m b j)→dec m' t rd'=some (x,o,r)
 |.int k,rd,rd',x,o,r,h,hr,hm=>by
  simp_all[dec,Ty.cells]
 |.bool,rd,rd',x,o,r,h,hr,hm=>by
  simp_all[dec,Ty.cells]
 |.str,rd,rd',x,o,r,h,hr,hm=>by
  simp_all[dec,Ty.cells]
 |.unit,rd,rd',x,o,r,h,hr,hm=>by
  simp_all[dec]
 |.pair a b,rd,rd',x,o,r,h,hr,hm=>by
  simp[dec]at h⊢
  split at h
  grind
  rename_i x1 o1 r1 h1
  split at h
  grind
  rename_i x2 o2 r2 h2;simp at h;obtain⟨rfl,rfl,rfl⟩:=h;rw[a0x a h1 (fun j hj=>hr j (by simp[Ty.cells];omega)) (fun b j hb=>hm b j (by simp at hb⊢;rcases hb with hb|hb;exact .inl (.inl hb);exact .inr (.inl hb)))];simp only[];rw[a0x b h2 (fun j hj=>hr _ (by simp[Ty.cells];omega)) (fun b j hb=>hm b j (by simp at hb⊢;rcases hb with hb|hb;exact .inl (.inr hb);exact .inr (.inr hb)))]
 |.arr n t,rd,rd',x,o,r,h,hr,hm=>by
  simp[dec]at h⊢;rw[←h];refine b1s n 0 fun i h0 hi=>?_
  obtain⟨y,o',r',A,B,A',B',hf,-,rfl,rfl⟩:=a0T n 0 i h (by omega);simp at hf;rw[hf];refine a0x t hf (fun j hj=>hr _ ?_) (fun b j hb=>hm b j ?_);simp[Ty.cells]
  calc i*t.cells+j<i*t.cells+t.cells:=by omega
   _=(i+1)*t.cells:=by grind
   _≤n*t.cells:=a00 _ (by omega)
  grind
 |.list ow t,rd,rd',x,o,r,h,hr,hm=>by
  simp[dec]at h⊢;rw[hr 0 (by simp[Ty.cells])];exact d1v h hm (fun i o' r' y a n c hv h2 hsub=>a0x t h2 (fun j hj=>hsub _ _ (.inl rfl)) (fun b j hb=>hsub b j (.inr hb)))
 |.nl t,rd,rd',x,o,r,h,hr,hm=>by
  simp_all[dec,Ty.cells]
theorem c1d{m:Mem}{t:Ty}{rd:Nat→Option Value}{x o r}(h:dec m (.nl t) rd=some (x,o,r)):rd 0=some (.slice none 0 0)∧x=([]:List t.den)∧o=[]∧r=[]:=by
 simp[dec]at h
 grind
theorem a6C(m:Mem)(b o k:Nat):(fun j=>(Src.at b o).rd m (k+j))=(Src.at b (o+k)).rd m:=by
 grind[Src.rd]
theorem b9B(m:Mem)(b o k:Nat):(fun j=>m b (o+(k+j)))=(Src.at b (o+k)).rd m:=by
 grind[Src.rd]
theorem a2s{m:Mem}{a b:Ty}{rd:Nat→Option Value}{x o r}(h:dec m (.pair a b) rd=some (x,o,r)):
  ∃x1 o1 r1 x2 o2 r2,dec m a rd=some (x1,o1,r1)∧dec m b (fun j=>rd (a.cells+j))=some (x2,o2,r2)∧x=(x1,x2)∧o=o1++o2∧r=r1++r2:=by
 simp[dec]at h
 grind
theorem a9e{m:Mem}{a b:Ty}{rd:Nat→Option Value}{x1 o1 r1 x2 o2 r2}(h1:dec m a rd=some (x1,o1,r1))(h2:dec m b (fun j=>rd (a.cells+j))=some (x2,o2,r2)):
  dec m (.pair a b) rd=some ((x1,x2),o1++o2,r1++r2):=by
 simp[dec,h1,h2];rfl
theorem d4B{α:Type}{m:Mem}{sz:Nat}{f:(Nat→Option Value)→Option (α×a1g×List Nat)}{v:Option Value}{x:List α}{o r}(h:a1j m true sz f v=some (x,o,r)):
  (v=some (.slice none 0 0)∧x=[]∧o=[]∧r=[])∨
  (∃a n c os,v=some (.slice (some a) n c)∧(c=0∨a.spot=none)∧n≤c∧a0g (fun i=>f ((Src.at a.block (a.off+i*sz)).rd m)) n 0=some (x,os,r)∧
   ((c=0∧o=os)∨(c≠0∧o=(a.block,a.off+c*sz)::os))):=by
 unfold a1j at h
 split at h
 simp_all;rename_i a n c;simp only[b9B]at h
 grind
 simp_all
theorem a1W{m:Mem}{t:Ty}{rd:Nat→Option Value}{x:List t.den}{o r}(h:dec m (.list true t) rd=some (x,o,r)):
  (rd 0=some (.slice none 0 0)∧x=[]∧o=[]∧r=[])∨
  (∃a n c os,rd 0=some (.slice (some a) n c)∧(c=0∨a.spot=none)∧n≤c∧a0g (fun i=>dec m t ((Src.at a.block (a.off+i*t.cells)).rd m)) n 0=some (x,os,r)∧
   ((c=0∧o=os)∨(c≠0∧o=(a.block,a.off+c*t.cells)::os))):=d4B h
theorem c4G{m:Mem}{t:Ty}{rd:Nat→Option Value}{x:List t.den}{os r a n c}(h:rd 0=some (.slice (some a) n c))(ha:a.spot=none)(hn:n≤c)(hc:c≠0)
  (hx:a0g (fun i=>dec m t ((Src.at a.block (a.off+i*t.cells)).rd m)) n 0=some (x,os,r)):
  dec m (.list true t) rd=some (x,(a.block,a.off+c*t.cells)::os,r):=by
 show a1j m true t.cells (dec m t) (rd 0)=_;simp_all[a1j,b9B]
theorem a9f{m:Mem}{p t s r}(h:loc m t s (.fst::p)=some r):∃a b bl o,t=.pair a b∧s=.at bl o∧loc m a (.at bl o) p=some r:=by
 simp[loc,a0V]at h
 grind
theorem a9g{m:Mem}{p t s r}(h:loc m t s (.snd::p)=some r):∃a b bl o,t=.pair a b∧s=.at bl o∧loc m b (.at bl (o+a.cells)) p=some r:=by
 simp[loc,a0V]at h
 grind
theorem a6J{m:Mem}{i p t s r}(h:loc m t s (.idx i::p)=some r):
  (∃n t' bl o,t=.arr n t'∧s=.at bl o∧i<n∧loc m t' (.at bl (o+i*t'.cells)) p=some r)∨
  (∃t' a n c,t=.list true t'∧s.rd m 0=some (.slice (some a) n c)∧i<n∧loc m t' (.at a.block (a.off+i*t'.cells)) p=some r):=by
 simp[loc,a0V]at h
 grind
theorem a1G{m:Mem}:∀(p:a0R)(t:Ty)(s:Src){x O R t' s'},dec m t (s.rd m)=some (x,O,R)→loc m t s p=some (t',s')→
  ∃y O' R' A B A' B',dec m t' (s'.rd m)=some (y,O',R')∧a1p t x p=⟨t',y⟩∧O=A++(O'++B)∧R=A'++(R'++B')
 | [],t,s,x,O,R,t',s',h,hl=>by
  simp[a0V]at hl;obtain⟨rfl,rfl⟩:=hl;exact⟨x,O,R,[],[],[],[],h,rfl,by simp,by simp⟩
 |.fst::p,t,s,x,O,R,t',s',h,hl=>by
  obtain⟨a,b,bl,o,rfl,rfl,hl⟩:=a9f hl;obtain⟨x1,o1,r1,x2,o2,r2,h1,h2,rfl,rfl,rfl⟩:=a2s h;obtain⟨y,O',R',A,B,A',B',h3,h4,rfl,rfl⟩:=a1G p a (.at bl o) h1 hl;exact⟨y,O',R',A,B++o2,A',B'++r2,h3,h4,by simp,by simp⟩
 |.snd::p,t,s,x,O,R,t',s',h,hl=>by
  obtain⟨a,b,bl,o,rfl,rfl,hl⟩:=a9g hl;obtain⟨x1,o1,r1,x2,o2,r2,h1,h2,rfl,rfl,rfl⟩:=a2s h;rw[a6C]at h2;obtain⟨y,O',R',A,B,A',B',h3,h4,rfl,rfl⟩:=a1G p b (.at bl (o+a.cells)) h2 hl;exact⟨y,O',R',o1++A,B,r1++A',B',h3,h4,by simp,by simp⟩
 |.idx i::p,t,s,x,O,R,t',s',h,hl=>by
  rcases a6J hl with⟨n,t1,bl,o,rfl,rfl,hi,hl⟩|⟨t1,a,n,c,rfl,hv',hi,hl⟩;simp[dec,a6C]at h;obtain⟨y0,o0,r0,A0,B0,A0',B0',hf,hy,rfl,rfl⟩:=a0T n 0 i h hi;simp at hf;obtain⟨y,O',R',A,B,A',B',h3,h4,rfl,rfl⟩:=a1G p t1 _ hf hl;refine⟨y,O',R',A0++A,B++B0,A0'++A',B'++B0',h3,?_,by simp,by simp⟩;simp_all[a1L,a23];rcases a1W h with⟨hv,-⟩|⟨a',n',c',os,hv,ha,hn,hx,ho⟩;simp_all;rw[hv]at hv';simp at hv';obtain⟨rfl,rfl,rfl⟩:=hv';obtain⟨y0,o0,r0,A0,B0,A0',B0',hf,hy,rfl,rfl⟩:=a0T n' 0 i hx hi;simp at hf;obtain⟨y,O',R',A,B,A',B',h3,h4,rfl,rfl⟩:=a1G p t1 _ hf hl;have h5:a1p (.list true t1) x (.idx i::p)=⟨t',y⟩:=by
   simp_all[a1L,a23]
  rcases ho with⟨-,rfl⟩|⟨-,rfl⟩;exact⟨y,O',R',A0++A,B++B0,A0'++A',B'++B0',h3,h5,by simp,by simp⟩;exact⟨y,O',R',(a'.block,a'.off+c'*t1.cells)::(A0++A),B++B0,A0'++A',B'++B0',h3,h5,by simp,by simp⟩
end Go.Ab
namespace Go.Ab
def Src.avoids:Src→Nat→Prop
 |.at sb _,c=>c≠sb
 |.one _,_=>True
theorem c3O(t:Ty)(x y:t.den):a1U t x [] t y=y:=by
 show(if h:t=t then h▸y else x)=y
 simp
theorem b3I{m:Mem}:∀(p:a0R)(t:Ty)(s:Src){x O R t' b o},dec m t (s.rd m)=some (x,O,R)→loc m t s p=some (t',.at b o)→
  (∃so,s=.at b so∧so≤o∧o+t'.cells≤so+t.cells)∨∃k,(b,k)∈O∧o+t'.cells≤k
 | [],t,s,x,O,R,t',b,o,h,hl=>by
  simp[a0V]at hl;simp_all
 |.fst::p,t,s,x,O,R,t',b,o,h,hl=>by
  obtain⟨a,b',bl,so,rfl,rfl,hl⟩:=a9f hl;obtain⟨x1,o1,r1,x2,o2,r2,h1,h2,rfl,rfl,rfl⟩:=a2s h;rcases b3I p a (.at bl so) h1 hl with⟨s1,h3,h4,h5⟩|⟨k,h3,h4⟩;simp at h3;obtain⟨rfl,rfl⟩:=h3;exact .inl ⟨_,rfl,h4,by grind[Ty.cells]⟩
  grind
 |.snd::p,t,s,x,O,R,t',b,o,h,hl=>by
  obtain⟨a,b',bl,so,rfl,rfl,hl⟩:=a9g hl;obtain⟨x1,o1,r1,x2,o2,r2,h1,h2,rfl,rfl,rfl⟩:=a2s h;rw[a6C]at h2;rcases b3I p b' (.at bl (so+a.cells)) h2 hl with⟨s1,h3,h4,h5⟩|⟨k,h3,h4⟩;simp at h3;obtain⟨rfl,rfl⟩:=h3;exact .inl ⟨_,rfl,by omega,by grind[Ty.cells]⟩
  grind
 |.idx i::p,t,s,x,O,R,t',b,o,h,hl=>by
  rcases a6J hl with⟨n,t1,bl,so,rfl,rfl,hi,hl⟩|⟨t1,a,n,c,rfl,hv',hi,hl⟩;simp[dec,a6C]at h;obtain⟨y0,o0,r0,A0,B0,A0',B0',hf,hy,rfl,rfl⟩:=a0T n 0 i h hi;simp at hf;have hk:i*t1.cells+t1.cells≤n*t1.cells:=by rw[←a02];exact a00 _ hi
  rcases b3I p t1 _ hf hl with⟨s1,h3,h4,h5⟩|⟨k,h3,h4⟩;simp at h3;obtain⟨rfl,rfl⟩:=h3;exact .inl ⟨_,rfl,by omega,by grind[Ty.cells]⟩
  grind
  rcases a1W h with⟨hv,-⟩|⟨a',n',c',os,hv,ha,hn,hx,ho⟩;simp_all;rw[hv]at hv';simp at hv';obtain⟨rfl,rfl,rfl⟩:=hv';obtain⟨y0,o0,r0,A0,B0,A0',B0',hf,hy,rfl,rfl⟩:=a0T n' 0 i hx hi;simp at hf;rcases ho with⟨hc,-⟩|⟨-,rfl⟩;omega;rcases b3I p t1 _ hf hl with⟨s1,h3,h4,h5⟩|⟨k,h3,h4⟩;simp at h3;obtain⟨rfl,rfl⟩:=h3;refine .inr ⟨_,a31,?_⟩
  have:i*t1.cells+t1.cells≤c'*t1.cells:=by rw[←a02];exact a00 _ (by omega)
  omega
  grind
theorem a5V{m:Mem}(p:a0R)(t:Ty)(s:Src){x O R t' b o}(h:dec m t (s.rd m)=some (x,O,R))(hl:loc m t s p=some (t',.at b o)):
  (∃so,s=.at b so∧so≤o∧o+t'.cells≤so+t.cells)∨b∈O.map (·.1):=
 (b3I p t s h hl).imp id fun⟨_,h,_⟩=>a16 h
theorem a9H{α:Type}{f:Nat→Option (α×a1g×List Nat)}:∀(n i:Nat){xs os rs},a0g f n i=some (xs,os,rs)→(os.map (·.1)).Nodup→
  ∀j k,j<n→k<n→j≠k→∀{xj oj rj xk ok rk},f (i+j)=some (xj,oj,rj)→f (i+k)=some (xk,ok,rk)→∀c,c∈oj.map (·.1)→c∉ok.map (·.1)
 |0,_,_,_,_,_,_,_,_,hj,_,_=>by omega
 |n+1,i,xs,os,rs,h,hn,j,k,hj,hk,hjk=>by
  intro h1 h2 c hc hc';simp[a0g]at h
  split at h
  grind
  ·rename_i x1 o1 r1 hf1
   split at h
   grind
   ·rename_i xs2 os2 rs2 h3;simp at h;obtain⟨rfl,rfl,rfl⟩:=h;rw[pA,a07]at hn;obtain⟨-,hn2,hd⟩:=hn;have key:∀l x o r,l<n→f (i+(l+1))=some (x,o,r)→∀c,c∈o.map (·.1)→c∈os2.map (·.1):=by
     intro l x o r hl hf c hc;obtain⟨x',o',r',A,B,A',B',h4,-,rfl,-⟩:=a0T n (i+1) l h3 hl
     grind
    cases j with
    |zero=>
     cases k with
     |zero=>omega
     |succ k=>
      grind
    |succ j=>
     cases k with
     |zero=>
      grind
     |succ k=>
      exact a9H n (i+1) h3 hn2 j k (by omega) (by omega) (by omega) (by rw[show i+1+j=i+(j+1)from by omega];exact h1)
       (by rw[show i+1+k=i+(k+1)from by omega];exact h2) c hc hc'
def Chg(m m':Mem)(s:Src)(O:a1g)(R:List Nat)(b o n:Nat)(O':a1g):Prop:=
 ∀c j,m' c j=m c j∨(c=b∧o≤j∧j<o+n)∨c∈O'.map (·.1)∨(c∉O.map (·.1)∧c∉R∧s.avoids c)
structure Sep (s:Src) (O:a1g) (R:List Nat):Prop where
 nodup:(O.map (·.1)).Nodup
 src:∀c∈O.map (·.1),s.avoids c
 shared:∀c∈R,c∉O.map (·.1)∧s.avoids c
theorem d0W{α:Type}{A O B:List (Nat×α)}{c:Nat}(h:c∈O.map (·.1)):c∈(A++(O++B)).map (·.1):=by
 simp_all
theorem b4g{m m':Mem}{t2:Ty}{sb so:Nat}{x2 o2 r2}(h2:dec m t2 ((Src.at sb so).rd m)=some (x2,o2,r2))
  (hc:∀j,j<t2.cells→m' sb (so+j)=m sb (so+j))(hb:∀c j,c∈o2.map (·.1)∨c∈r2→m' c j=m c j):
  dec m' t2 ((Src.at sb so).rd m')=some (x2,o2,r2):=
 a0x t2 h2 (fun j hj=>hc j hj) hb
theorem c3P{m m':Mem}:∀(p:a0R)(t:Ty)(s:Src){x O R t' b o y O' R' y' O'' R''},dec m t (s.rd m)=some (x,O,R)→loc m t s p=some (t',.at b o)→
  dec m t' ((Src.at b o).rd m)=some (y,O',R')→dec m' t' ((Src.at b o).rd m')=some (y',O'',R'')→Sep s O R→Chg m m' s O R b o t'.cells O'→
  ∃A B R1,O=A++(O'++B)∧dec m' t (s.rd m')=some (a1U t x p t' y',A++(O''++B),R1)∧∀c∈R1,c∈R∨c∈R''
 | [],t,s,x,O,R,t',b,o,y,O',R',y',O'',R'',h,hl,hy,hy',hs,hc=>by
  simp[a0V]at hl;obtain⟨rfl,rfl⟩:=hl;rw[h]at hy;simp at hy;obtain⟨rfl,rfl,rfl⟩:=hy;exact⟨[],[],R'',by simp,by simp_all[c3O],fun c hc=>.inr hc⟩
 |.fst::p,t,s,x,O,R,t',b,o,y,O',R',y',O'',R'',h,hl,hy,hy',hs,hc=>by
  obtain⟨a,b',bl,so,rfl,rfl,hl⟩:=a9f hl;obtain⟨x1,o1,r1,x2,o2,r2,h1,h2,rfl,rfl,rfl⟩:=a2s h;have hw:=a5V p a _ h1 hl;obtain⟨y1,O1',R1',A1,B1,A1',B1',hd,-,e1,e2⟩:=a1G p a _ h1 hl;rw[hy]at hd;simp at hd;obtain⟨rfl,rfl,rfl⟩:=hd;have hsub:∀c,c∈O'.map (·.1)→c∈o1.map (·.1):=fun c hc=>by simp_all
  have hn:=hs.nodup;rw[pA,a07]at hn;have hs1:Sep (.at bl so) o1 r1:=⟨hn.1,fun c hc=>hs.src c (by grind),
   fun c hc=>⟨fun h=>(hs.shared c (a04 _ hc)).1 (by grind),(hs.shared c (a04 _ hc)).2⟩⟩
  obtain⟨A,B,R1,e3,h3,h4⟩:=c3P p a (.at bl so) h1 hl hy hy' hs1 (fun c j=>by
   rcases hc c j with h|h|h|⟨h,h',h''⟩
   all_goals grind)
  rw[a6C]at h2;have hin:∀c,c∈o1.map (·.1)∨c∈o2.map (·.1)→c≠bl:=fun c hc=>hs.src c (by grind);have h5:=b4g (m':=m') h2 (fun j hj=>by
    rcases hc bl (so+a.cells+j)with h|⟨hb,ho,ho'⟩|h|⟨h,h',h''⟩;omega
    ·rcases hw with⟨s1,g1,g2,g3⟩|g
     all_goals grind
    grind
    exact absurd rfl h'')
   (fun c j hcb=>by
    have hcs:c∈o2.map (·.1)∨(c∈r2∧c∉o1.map (·.1)∧c≠bl):=by
     rcases hcb with g|g
     grind
     have:=hs.shared c (a03 _ g)
     exact .inr ⟨g,fun g'=>this.1 (by grind),this.2⟩
    have no1:c∉o1.map (·.1):=by
     grind
    have nbl:c≠bl:=by
     grind
    rcases hc c j with h|⟨hb,ho,ho'⟩|h|⟨h,h',h''⟩;omega
    ·rcases hw with⟨s1,g1,g2,g3⟩|g
     all_goals grind
    all_goals grind)
  refine⟨A,B++o2,R1++r2,by grind,?_,fun c hc=>?_⟩;rw[←a6C]at h5
  have:=a9e h3 h5
  have e:A++(O''++(B++o2))=(A++(O''++B))++o2:=by simp
  rw[e];exact this
  grind
 |.snd::p,t,s,x,O,R,t',b,o,y,O',R',y',O'',R'',h,hl,hy,hy',hs,hc=>by
  obtain⟨a,b',bl,so,rfl,rfl,hl⟩:=a9g hl;obtain⟨x1,o1,r1,x2,o2,r2,h1,h2,rfl,rfl,rfl⟩:=a2s h;rw[a6C]at h2;have hw:=a5V p b' _ h2 hl;obtain⟨y1,O1',R1',A1,B1,A1',B1',hd,-,e1,e2⟩:=a1G p b' _ h2 hl;rw[hy]at hd;simp at hd;obtain⟨rfl,rfl,rfl⟩:=hd;have hsub:∀c,c∈O'.map (·.1)→c∈o2.map (·.1):=fun c hc=>by simp_all
  have hn:=hs.nodup;rw[pA,a07]at hn;have hin:∀c,c∈o1.map (·.1)∨c∈o2.map (·.1)→c≠bl:=fun c hc=>hs.src c (by grind);have hs2:Sep (.at bl (so+a.cells)) o2 r2:=⟨hn.2.1,fun c hc=>hin c (.inr hc),
   fun c hc=>⟨fun h=>(hs.shared c (a03 _ hc)).1 (by grind),(hs.shared c (a03 _ hc)).2⟩⟩
  obtain⟨A,B,R1,e3,h3,h4⟩:=c3P p b' (.at bl (so+a.cells)) h2 hl hy hy' hs2 (fun c j=>by
   rcases hc c j with h|h|h|⟨h,h',h''⟩
   grind
   omega
   grind
   simp only[pA,mA]at h h';exact .inr (.inr (.inr ⟨fun g=>h (.inr g),fun g=>h' (.inr g),h''⟩)))
  have h5:=b4g (m':=m') h1 (fun j hj=>by
    rcases hc bl (so+j)with h|⟨hb,ho,ho'⟩|h|⟨h,h',h''⟩;omega
    ·rcases hw with⟨s1,g1,g2,g3⟩|g
     all_goals grind
    grind
    exact absurd rfl h'')
   (fun c j hcb=>by
    have hcs:c∈o1.map (·.1)∨(c∈r1∧c∉o2.map (·.1)∧c≠bl):=by
     rcases hcb with g|g
     grind
     have:=hs.shared c (a04 _ g)
     exact .inr ⟨g,fun g'=>this.1 (by grind),this.2⟩
    have no2:c∉o2.map (·.1):=by
     grind
    have nbl:c≠bl:=by
     grind
    rcases hc c j with h|⟨hb,ho,ho'⟩|h|⟨h,h',h''⟩;omega
    ·rcases hw with⟨s1,g1,g2,g3⟩|g
     all_goals grind
    all_goals grind)
  refine⟨o1++A,B,r1++R1,by grind,?_,fun c hc=>?_⟩;rw[←a6C]at h3
  have:=a9e h5 h3
  have e:o1++A++(O''++B)=o1++(A++(O''++B)):=by simp
  rw[e];exact this
  grind
 |.idx i::p,t,s,x,O,R,t',b,o,y,O',R',y',O'',R'',h,hl,hy,hy',hs,hc=>by
  rcases a6J hl with⟨n,t,bl,so,rfl,rfl,hi,hl⟩|⟨t,a0,n0,c0,rfl,hv',hi,hl⟩
  ·have h:a0g (fun i=>dec m t fun j=>(Src.at bl so).rd m (i*t.cells+j)) n 0=some (x,O,R):=h;have h0:a0g (fun i=>dec m t ((Src.at bl (so+i*t.cells)).rd m)) n 0=some (x,O,R):=by grind[a6C]
   have hsrc:∀c,c∈O.map (·.1)→c≠bl:=fun c hc=>hs.src c hc;obtain⟨z,oi,ri,A0,B0,A0',B0',hf,hz,e1,e2⟩:=a0T n 0 i h0 hi;simp at hf;have hoi:∀c,c∈oi.map (·.1)→c∈O.map (·.1):=fun c hc=>by simp_all
   have hri:∀c,c∈ri→c∈R:=fun c hc=>by simp_all
   have hw:=a5V p t _ hf hl;obtain⟨y1,O1',R1',A1,B1,A1',B1',hd,-,e3,e4⟩:=a1G p t _ hf hl;rw[hy]at hd;simp at hd;obtain⟨rfl,rfl,rfl⟩:=hd;have hsub:∀c,c∈O'.map (·.1)→c∈oi.map (·.1):=fun c hc=>by simp_all
   have hni:(oi.map (·.1)).Nodup:=by
    have:=hs.nodup
    grind
   have hsi:Sep (.at bl (so+i*t.cells)) oi ri:=⟨hni,fun c hc=>hsrc c (hoi c hc),fun c hc=>⟨fun g=>(hs.shared c (hri c hc)).1 (hoi c g),(hs.shared c (hri c hc)).2⟩⟩;obtain⟨A,B,R1,e5,h3,h4⟩:=c3P p t (.at bl (so+i*t.cells)) hf hl hy hy' hsi (fun c j=>by
    rcases hc c j with h|h|h|⟨h,h',h''⟩;simp_all;omega;simp_all;exact .inr (.inr (.inr ⟨fun g=>h (hoi c g),fun g=>h' (hri c g),h''⟩)))
   have hoth:∀j,0≤j→j<0+n→j≠0+i→dec m' t ((Src.at bl (so+j*t.cells)).rd m')=dec m t ((Src.at bl (so+j*t.cells)).rd m):=by
    intro j _ hj hji;simp only[a20]at hj hji;obtain⟨zj,oj,rj,Aj,Bj,Aj',Bj',hfj,-,ej,ej'⟩:=a0T n 0 j h0 hj;simp at hfj;rw[hfj];have hdis:=a9H n 0 h0 hs.nodup i j hi hj (Ne.symm hji) (by simpa using hf) (by simpa using hfj);refine b4g hfj (fun k hk=>?_) (fun c k hcb=>?_);rcases hc bl (so+j*t.cells+k)with h|⟨hb,ho,ho'⟩|h|⟨h,h',h''⟩;omega;rcases hw with⟨s1,g1,g2,g3⟩|g;simp at g1;obtain⟨-,rfl⟩:=g1
    exfalso
    rcases a19 hji with g|g
    have:j*t.cells+t.cells≤i*t.cells:=by rw[←a02];exact a00 _ g
    omega
    have:i*t.cells+t.cells≤j*t.cells:=by rw[←a02];exact a00 _ g
    omega
    grind
    grind
    exact absurd rfl h''
    ·have hcO:c∈oj.map (·.1)→c∈O.map (·.1):=fun g=>by grind
     have hcR:c∈rj→c∈R:=fun g=>by grind
     have noi:c∉oi.map (·.1):=by
      rcases hcb with g|g
      grind
      exact fun g'=>(hs.shared c (hcR g)).1 (hoi c g')
     have nbl:c≠bl:=by
      rcases hcb with g|g
      grind
      exact(hs.shared c (hcR g)).2
     rcases hc c k with h|⟨hb,ho,ho'⟩|h|⟨h,h',h''⟩;omega
     ·rcases hw with⟨s1,g1,g2,g3⟩|g
      all_goals grind
     all_goals grind
   obtain⟨A2,B2,rs',e6,h6,h7⟩:=b8b (f':=fun i=>dec m' t ((Src.at bl (so+i*t.cells)).rd m')) n 0 i h0 hi (by simpa using hf) (by simpa using h3) hoth;refine⟨A2++A,B++B2,rs',by grind,?_,fun c hc=>?_⟩;show a0g (fun i=>dec m' t fun j=>(Src.at bl so).rd m' (i*t.cells+j)) n 0=some (a30 x i (a2b p t (a23 x i t.dflt) t' y'),A2++A++(O''++(B++B2)),rs');simp only[a6C]
   grind
   grind
  ·rcases a1W h with⟨hv,-⟩|⟨a,n,c,os,hv,ha,hn,h0,ho⟩;simp_all
   ·rw[hv]at hv';simp at hv';obtain⟨rfl,rfl,rfl⟩:=hv';rcases ho with⟨hc0,-⟩|⟨hc0,rfl⟩;omega
    ·have hnd:=hs.nodup;simp only[a09,a18]at hnd;obtain⟨hab,hnos⟩:=hnd;have haO:a.block∈(((a.block,a.off+c*t.cells)::os).map (·.1)):=by simp
     obtain⟨z,oi,ri,A0,B0,A0',B0',hf,hz,e1,e2⟩:=a0T n 0 i h0 hi;simp at hf;have hoi':∀c,c∈oi.map (·.1)→c∈os.map (·.1):=fun c hc=>by simp_all
     have hoi:∀c',c'∈oi.map (·.1)→c'∈(((a.block,a.off+c*t.cells)::os).map (·.1)):=fun c' hc=>by
      simp_all
     have hri:∀c,c∈ri→c∈R:=fun c hc=>by simp_all
     have hw:=a5V p t _ hf hl;have hbO:b∈(((a.block,a.off+c*t.cells)::os).map (·.1)):=by
      grind
     obtain⟨y1,O1',R1',A1,B1,A1',B1',hd,-,e3,e4⟩:=a1G p t _ hf hl;rw[hy]at hd;simp at hd;obtain⟨rfl,rfl,rfl⟩:=hd;have hsub:∀c,c∈O'.map (·.1)→c∈oi.map (·.1):=fun c hc=>by grind
     have hni:(oi.map (·.1)).Nodup:=by
      grind
     have hsi:Sep (.at a.block (a.off+i*t.cells)) oi ri:=⟨hni,fun c hc (e:c=a.block)=>hab (e▸hoi' c hc),
      fun c hc=>⟨fun g=>(hs.shared c (hri c hc)).1 (hoi c g),fun(e:c=a.block)=>(hs.shared c (hri c hc)).1 (e▸haO)⟩⟩
     obtain⟨A,B,R1,e5,h3,h4⟩:=c3P p t (.at a.block (a.off+i*t.cells)) hf hl hy hy' hsi (fun c j=>by
      rcases hc c j with h|h|h|⟨h,h',h''⟩
      grind
      omega
      grind
      exact .inr (.inr (.inr ⟨fun g=>h (hoi c g),fun g=>h' (hri c g),fun(e:c=a.block)=>h (e▸haO)⟩)))
     have hhd:s.rd m' 0=some (.slice (some a) n c):=by
      rw[←hv];cases s with
      |one v=>rfl
      |_=>
       rename_i sb so;show m' sb (so+0)=m sb (so+0);rcases hc sb (so+0)with h|⟨hb,ho,ho'⟩|h|⟨h,h',h''⟩;omega;exact absurd rfl (hb▸hs.src b hbO);exact absurd rfl (hs.src sb (hoi _ (hsub _ h)));exact absurd rfl h''
     have hoth:∀j,0≤j→j<0+n→j≠0+i→dec m' t ((Src.at a.block (a.off+j*t.cells)).rd m')=dec m t ((Src.at a.block (a.off+j*t.cells)).rd m):=by
      intro j _ hj hji;simp only[a20]at hj hji;obtain⟨zj,oj,rj,Aj,Bj,Aj',Bj',hfj,-,ej,ej'⟩:=a0T n 0 j h0 hj;simp at hfj;rw[hfj];have hdis:=a9H n 0 h0 hnos i j hi hj (Ne.symm hji) (by simpa using hf) (by simpa using hfj);refine b4g hfj (fun k hk=>?_) (fun c' k hcb=>?_)
      ·rcases hc a.block (a.off+j*t.cells+k)with h|⟨hb,ho,ho'⟩|h|⟨h,h',h''⟩;omega;rcases hw with⟨s1,g1,g2,g3⟩|g;simp at g1;obtain⟨-,rfl⟩:=g1
       exfalso
       rcases a19 hji with g|g
       have:j*t.cells+t.cells≤i*t.cells:=by rw[←a02];exact a00 _ g
       omega
       have:i*t.cells+t.cells≤j*t.cells:=by rw[←a02];exact a00 _ g
       omega
       grind
       all_goals grind
      ·have hcO:c'∈oj.map (·.1)→c'∈os.map (·.1):=fun g=>by grind
       have hcR:c'∈rj→c'∈R:=fun g=>by grind
       have noi:c'∉oi.map (·.1):=by
        rcases hcb with g|g
        grind
        exact fun g'=>(hs.shared c' (hcR g)).1 (hoi c' g')
       have nab:c'≠a.block:=by
        rcases hcb with g|g
        grind
        exact fun e=>(hs.shared c' (hcR g)).1 (e▸haO)
       rcases hc c' k with h|⟨hb,ho,ho'⟩|h|⟨h,h',h''⟩;omega
       ·rcases hw with⟨s1,g1,g2,g3⟩|g
        all_goals grind
       all_goals grind
     obtain⟨A2,B2,rs',e6,h6,h7⟩:=b8b (f':=fun i=>dec m' t ((Src.at a.block (a.off+i*t.cells)).rd m')) n 0 i h0 hi (by simpa using hf) (by simpa using h3) hoth;refine⟨(a.block,a.off+c*t.cells)::(A2++A),B++B2,rs',by grind,?_,fun c hc=>?_⟩;show dec m' (.list true t) (s.rd m')=some (a30 x i (a2b p t (a23 x i t.dflt) t' y'),_)
     grind[c4G]
     grind
theorem b5E{m m':Mem}{s:Src}{O R b o n O'}(hc:Chg m m' s O R b o n O')(hs:Sep s O R){bl so k:Nat}{o1 o2:a1g}{r2:List Nat}
  (hbl:¬ s.avoids bl∨bl∈O.map (·.1))(h1:∀c∈o1.map (·.1),c∈O.map (·.1)∧c≠bl)(h2:∀c∈o2.map (·.1),c∈O.map (·.1)∧c≠bl)(hd:∀c∈o1.map (·.1),c∉o2.map (·.1))
  (hr:∀c∈r2,c∈R)(hsub:∀c∈O'.map (·.1),c∈o1.map (·.1))(hw:(b=bl∧∀j,j<k→¬ (o≤so+j∧so+j<o+n))∨b∈o1.map (·.1)):
  (∀j,j<k→m' bl (so+j)=m bl (so+j))∧(∀c j,c∈o2.map (·.1)∨c∈r2→m' c j=m c j):=by
 constructor
 ·intro j hj;rcases hc bl (so+j)with h|⟨hb,ho,ho'⟩|h|⟨h,h',h''⟩
  all_goals grind
 ·intro c j hcb;have no1:c∉o1.map (·.1):=by
   rcases hcb with g|g
   grind
   exact fun g'=>(hs.shared c (hr c g)).1 (h1 c g').1
  have nbl:c≠bl:=by
   rcases hcb with g|g
   grind
   have:=hs.shared c (hr c g)
   grind
  rcases hc c j with h|⟨hb,ho,ho'⟩|h|⟨h,h',h''⟩
  all_goals grind
theorem b9C{m m':Mem}:∀(q:a0R)(t:Ty)(s:Src),t.shn=t→loc m' t s q=loc m t s q
 | [],t,s,_=>rfl
 |.fst::q,t,s,h=>by
  cases t<;>cases s<;>try rfl
  rename_i a b bl o;simp only[Ty.shn,Ty.pair.injEq]at h;exact b9C q a (.at bl o) h.1
 |.snd::q,t,s,h=>by
  cases t<;>cases s<;>try rfl
  rename_i a b bl o;simp only[Ty.shn,Ty.pair.injEq]at h;exact b9C q b (.at bl (o+a.cells)) h.2
 |.idx i::q,t,s,h=>by
  cases t<;>cases s<;>try rfl
  rename_i o t _ _;cases o;rfl;simp[Ty.shn]at h;rename_i o t _;cases o;rfl;simp[Ty.shn]at h;rename_i n t bl o;simp only[Ty.shn,Ty.arr.injEq]at h;show(if i<n then loc m' t (.at bl (o+i*t.cells)) q else none)=(if i<n then loc m t (.at bl (o+i*t.cells)) q else none)
  rw[b9C q t _ (Ty.shn_of_sh t h.2)]
theorem a2E{m m':Mem}:∀(q:a0R)(t:Ty)(s:Src){x O R r},dec m t (s.rd m)=some (x,O,R)→loc m t s q=some r→
  (∀j,j<t.cells→s.rd m' j=s.rd m j)→(∀c j,c∈O.map (·.1)→m' c j=m c j)→loc m' t s q=some r
 | [],t,s,x,O,R,r,h,hl,hc,hb=>hl
 |.fst::q,t,s,x,O,R,r,h,hl,hc,hb=>by
  obtain⟨a,b',bl,so,rfl,rfl,hl⟩:=a9f hl;obtain⟨x1,o1,r1,x2,o2,r2,h1,h2,rfl,rfl,rfl⟩:=a2s h;exact a2E q a (.at bl so) h1 hl (fun j hj=>hc j (by simp only[Ty.cells];omega)) (fun c j hcb=>hb c j (by simp only[pA,mA];exact .inl hcb))
 |.snd::q,t,s,x,O,R,r,h,hl,hc,hb=>by
  obtain⟨a,b',bl,so,rfl,rfl,hl⟩:=a9g hl;obtain⟨x1,o1,r1,x2,o2,r2,h1,h2,rfl,rfl,rfl⟩:=a2s h;rw[a6C]at h2;refine a2E q b' (.at bl (so+a.cells)) h2 hl (fun j hj=>?_) (fun c j hcb=>hb c j (by simp only[pA,mA];exact .inr hcb))
  have:=hc (a.cells+j) (by simp only[Ty.cells];omega)
  simpa[Src.rd,Nat.add_assoc]using this
 |.idx i::q,t,s,x,O,R,r,h,hl,hc,hb=>by
  rcases a6J hl with⟨n,t1,bl,so,rfl,rfl,hi,hl⟩|⟨t1,a,n,c,rfl,hv',hi,hl⟩;simp[dec,a6C]at h;obtain⟨y0,o0,r0,A0,B0,A0',B0',hf,hy,rfl,rfl⟩:=a0T n 0 i h hi;simp at hf;show(if i<n then loc m' t1 (.at bl (so+i*t1.cells)) q else none)=some r
  rw[if_pos hi];have hk:i*t1.cells+t1.cells≤n*t1.cells:=by rw[←a02];exact a00 _ hi
  refine a2E q t1 _ hf hl (fun j hj=>?_) (fun c j hcb=>hb c j (d0W hcb))
  have:=hc (i*t1.cells+j) (by grind[Ty.cells])
  simp_all[Src.rd,Nat.add_assoc];have h0:s.rd m' 0=some (.slice (some a) n c):=by simp_all[Ty.cells]
  have e:loc m' (.list true t1) s (.idx i::q)=if i<n then loc m' t1 (.at a.block (a.off+i*t1.cells)) q else none:=by
   simp_all[a0V]
  rw[e,if_pos hi];rcases a1W h with⟨hv,-⟩|⟨a',n',c',os,hv,ha,hn,hx,ho⟩;simp_all;rw[hv]at hv';simp at hv';obtain⟨rfl,rfl,rfl⟩:=hv';obtain⟨y0,o0,r0,A0,B0,A0',B0',hf,hy,rfl,rfl⟩:=a0T n' 0 i hx hi;simp at hf;rcases ho with⟨hc0,-⟩|⟨-,rfl⟩;omega;exact a2E q t1 _ hf hl (fun j hj=>hb a'.block _ (by simp)) (fun c j hcb=>hb c j (by
   simp only[a09,mC];exact .inr (d0W hcb)))
theorem b2i{m m':Mem}{q:a0R}{t:Ty}{s:Src}{x O R e s'}(h:dec m t (s.rd m)=some (x,O,R))(hl:loc m t s q=some (.list true e,s'))
  (hc:∀j,j<t.cells→s.rd m' j=s.rd m j)(hb:∀c j,c∈O.map (·.1)→m' c j=m c j):s'.rd m' 0=s'.rd m 0:=by
 cases s' with
 |one v=>rfl
 |_=>
  rename_i b o;rcases a5V q t s h hl with⟨so,rfl,h1,h2⟩|h1
  have:=hc (o-so) (by grind[Ty.cells])
  simp_all[Src.rd];exact hb b _ h1
theorem b5Y{m m':Mem}:∀(p q:a0R)(t:Ty)(s:Src){x O R t' b o y O' R' r},dec m t (s.rd m)=some (x,O,R)→loc m t s p=some (t',.at b o)→
  dec m t' ((Src.at b o).rd m)=some (y,O',R')→Sep s O R→Chg m m' s O R b o t'.cells O'→(∀rest,q=p++rest→rest=[]∨t'.shn=t')→
  loc m t s q=some r→loc m' t s q=some r∧∀e s',r=(.list true e,s')→(∀rest,q≠p++rest)→s'.rd m' 0=s'.rd m 0
 | [],q,t,s,x,O,R,t',b,o,y,O',R',r,h,hl,hy,hs,hc,hq,hr=>by
  simp[a0V]at hl;obtain⟨rfl,rfl⟩:=hl;refine⟨?_,fun _ _ _ hne=>absurd rfl (hne q)⟩;rcases hq q rfl with rfl|g;exact hr
  grind[b9C]
 |.fst::p,q,t,s,x,O,R,t',b,o,y,O',R',r,h,hl,hy,hs,hc,hq,hr=>by
  obtain⟨a,b',bl,so,rfl,rfl,hl⟩:=a9f hl;obtain⟨x1,o1,r1,x2,o2,r2,h1,h2,rfl,rfl,rfl⟩:=a2s h;have hw:=a5V p a _ h1 hl;obtain⟨y1,O1',R1',A1,B1,A1',B1',hd,-,e1,e2⟩:=a1G p a _ h1 hl;rw[hy]at hd;simp at hd;obtain⟨rfl,rfl,rfl⟩:=hd;have hsub:∀c,c∈O'.map (·.1)→c∈o1.map (·.1):=fun c hc=>by simp_all
  have hn:=hs.nodup;rw[pA,a07]at hn;have m1:∀c,c∈o1.map (·.1)→c∈(o1++o2).map (·.1):=fun c hc=>by grind
  have m2:∀c,c∈o2.map (·.1)→c∈(o1++o2).map (·.1):=fun c hc=>by grind
  cases q with
  |nil=>
   refine⟨hr,fun e s' e1 _=>?_⟩;simp[a0V]at hr
   grind
  |cons st q=>
   cases st with
   |fst=>
    have hr':loc m a (.at bl so) q=some r:=hr;have hs1:Sep (.at bl so) o1 r1:=⟨hn.1,fun c hc=>hs.src c (m1 c hc),
     fun c hc=>⟨fun h=>(hs.shared c (a04 _ hc)).1 (m1 c h),(hs.shared c (a04 _ hc)).2⟩⟩
    have ih:=b5Y p q a (.at bl so) h1 hl hy hs1 (fun c j=>by
     rcases hc c j with h|h|h|⟨h,h',h''⟩;exact .inl h
     all_goals grind)
     (fun rest e=>hq rest (by grind)) hr'
    exact⟨ih.1,fun e s' e1 hne=>ih.2 e s' e1 (fun rest e2=>hne rest (by grind))⟩
   |snd=>
    have hr':loc m b' (.at bl (so+a.cells)) q=some r:=hr;rw[a6C]at h2;have hp:=b5E hc hs (bl:=bl) (so:=so+a.cells) (k:=b'.cells) (o1:=o1) (o2:=o2) (r2:=r2) (.inl (fun h=>h rfl))
     (fun c hc=>⟨m1 c hc,hs.src c (m1 c hc)⟩) (fun c hc=>⟨m2 c hc,hs.src c (m2 c hc)⟩) (fun c h h'=>hn.2.2 c h c h' rfl)
     (fun c hc=>a03 _ hc) hsub (by
      grind)
    exact⟨a2E q b' _ h2 hr' hp.1 (fun c j hc=>hp.2 c j (.inl hc)),fun e s' e1 _=>b2i h2 (e1▸hr') hp.1 (fun c j hc=>hp.2 c j (.inl hc))⟩
   |idx i=>
    cases hr
 |.snd::p,q,t,s,x,O,R,t',b,o,y,O',R',r,h,hl,hy,hs,hc,hq,hr=>by
  obtain⟨a,b',bl,so,rfl,rfl,hl⟩:=a9g hl;obtain⟨x1,o1,r1,x2,o2,r2,h1,h2,rfl,rfl,rfl⟩:=a2s h;rw[a6C]at h2;have hw:=a5V p b' _ h2 hl;obtain⟨y1,O1',R1',A1,B1,A1',B1',hd,-,e1,e2⟩:=a1G p b' _ h2 hl;rw[hy]at hd;simp at hd;obtain⟨rfl,rfl,rfl⟩:=hd;have hsub:∀c,c∈O'.map (·.1)→c∈o2.map (·.1):=fun c hc=>by simp_all
  have hn:=hs.nodup;rw[pA,a07]at hn;have m1:∀c,c∈o1.map (·.1)→c∈(o1++o2).map (·.1):=fun c hc=>by grind
  have m2:∀c,c∈o2.map (·.1)→c∈(o1++o2).map (·.1):=fun c hc=>by grind
  cases q with
  |nil=>
   refine⟨hr,fun e s' e1 _=>?_⟩;simp[a0V]at hr
   grind
  |cons st q=>
   cases st with
   |snd=>
    have hr':loc m b' (.at bl (so+a.cells)) q=some r:=hr;have hs2:Sep (.at bl (so+a.cells)) o2 r2:=⟨hn.2.1,fun c hc=>hs.src c (m2 c hc),
     fun c hc=>⟨fun h=>(hs.shared c (a03 _ hc)).1 (m2 c h),(hs.shared c (a03 _ hc)).2⟩⟩
    have ih:=b5Y p q b' (.at bl (so+a.cells)) h2 hl hy hs2 (fun c j=>by
     rcases hc c j with h|h|h|⟨h,h',h''⟩;exact .inl h;omega
     grind
     simp only[pA,mA]at h h';exact .inr (.inr (.inr ⟨fun g=>h (.inr g),fun g=>h' (.inr g),h''⟩)))
     (fun rest e=>hq rest (by grind)) hr'
    exact⟨ih.1,fun e s' e1 hne=>ih.2 e s' e1 (fun rest e2=>hne rest (by grind))⟩
   |fst=>
    have hr':loc m a (.at bl so) q=some r:=hr;have hp:=b5E hc hs (bl:=bl) (so:=so) (k:=a.cells) (o1:=o2) (o2:=o1) (r2:=r1) (.inl (fun h=>h rfl))
     (fun c hc=>⟨m2 c hc,hs.src c (m2 c hc)⟩) (fun c hc=>⟨m1 c hc,hs.src c (m1 c hc)⟩) (fun c h h'=>hn.2.2 c h' c h rfl)
     (fun c hc=>a04 _ hc) hsub (by
      grind)
    exact⟨a2E q a _ h1 hr' hp.1 (fun c j hc=>hp.2 c j (.inl hc)),fun e s' e1 _=>b2i h1 (e1▸hr') hp.1 (fun c j hc=>hp.2 c j (.inl hc))⟩
   |idx i=>
    cases hr
 |.idx i::p,q,t,s,x,O,R,t',b,o,y,O',R',r,h,hl,hy,hs,hc,hq,hr=>by
  rcases a6J hl with⟨n,t,bl,so,rfl,rfl,hi,hl⟩|⟨t,a0,n0,c0,rfl,hv',hi,hl⟩
  ·have h:a0g (fun i=>dec m t fun j=>(Src.at bl so).rd m (i*t.cells+j)) n 0=some (x,O,R):=h;have h0:a0g (fun i=>dec m t ((Src.at bl (so+i*t.cells)).rd m)) n 0=some (x,O,R):=by grind[a6C]
   have hsrc:∀c,c∈O.map (·.1)→c≠bl:=fun c hc=>hs.src c hc;obtain⟨z,oi,ri,A0,B0,A0',B0',hf,hz,e1,e2⟩:=a0T n 0 i h0 hi;simp at hf;have hoi:∀c,c∈oi.map (·.1)→c∈O.map (·.1):=fun c hc=>by simp_all
   have hri:∀c,c∈ri→c∈R:=fun c hc=>by simp_all
   have hw:=a5V p t _ hf hl;obtain⟨y1,O1',R1',A1,B1,A1',B1',hd,-,e3,e4⟩:=a1G p t _ hf hl;rw[hy]at hd;simp at hd;obtain⟨rfl,rfl,rfl⟩:=hd;have hsub:∀c,c∈O'.map (·.1)→c∈oi.map (·.1):=fun c hc=>by simp_all
   cases q with
   |nil=>
    refine⟨hr,fun e s' e1 _=>?_⟩;simp_all[a0V]
   |cons st q=>
    rcases st with _|_|j;cases hr;cases hr;rcases a6J hr with⟨n',t1',bl',so',e5,e6,hj,hr'⟩|⟨t1',a',n',c',e5,-⟩;simp at e5;obtain⟨rfl,rfl⟩:=e5;simp at e6;obtain⟨rfl,rfl⟩:=e6;have el:loc m' (.arr n t) (.at bl so) (.idx j::q)=loc m' t (.at bl (so+j*t.cells)) q:=by
     show(if j<n then loc m' t (.at bl (so+j*t.cells)) q else none)=_
     simp_all
    rw[el]
    by_cases hji:j=i
    subst hji;have hni:(oi.map (·.1)).Nodup:=by
     have:=hs.nodup
     grind
    have hsi:Sep (.at bl (so+j*t.cells)) oi ri:=⟨hni,fun c hc=>hsrc c (hoi c hc),fun c hc=>⟨fun g=>(hs.shared c (hri c hc)).1 (hoi c g),(hs.shared c (hri c hc)).2⟩⟩;have ih:=b5Y p q t _ hf hl hy hsi (fun c k=>by
     rcases hc c k with h|h|h|⟨h,h',h''⟩;exact .inl h;omega;simp_all;exact .inr (.inr (.inr ⟨fun g=>h (hoi c g),fun g=>h' (hri c g),h''⟩))) (fun rest e=>hq rest (by simp_all)) hr'
    simp_all;obtain⟨zj,oj,rj,Aj,Bj,Aj',Bj',hfj,-,ej,ej'⟩:=a0T n 0 j h0 hj;simp at hfj;have hdis:=a9H n 0 h0 hs.nodup i j hi hj (Ne.symm hji) (by simpa using hf) (by simpa using hfj);have hoj:∀c,c∈oj.map (·.1)→c∈O.map (·.1):=fun c g=>by grind
    have hp:=b5E hc hs (bl:=bl) (so:=so+j*t.cells) (k:=t.cells) (o1:=oi) (o2:=oj) (r2:=rj) (.inl (fun h=>h rfl))
     (fun c hc=>⟨hoi c hc,hsrc c (hoi c hc)⟩) (fun c hc=>⟨hoj c hc,hsrc c (hoj c hc)⟩) hdis
     (fun c g=>by grind) hsub (by
      rcases hw with⟨s1,g1,g2,g3⟩|g;simp at g1;obtain⟨rfl,rfl⟩:=g1;refine .inl ⟨rfl,fun k hk=>?_⟩;rcases a19 hji with g|g
      have:j*t.cells+t.cells≤i*t.cells:=by rw[←a02];exact a00 _ g
      omega
      have:i*t.cells+t.cells≤j*t.cells:=by rw[←a02];exact a00 _ g
      omega
      grind)
    exact⟨a2E q t _ hfj hr' hp.1 (fun c j hc=>hp.2 c j (.inl hc)),fun e s' e1 _=>b2i hfj (e1▸hr') hp.1 (fun c j hc=>hp.2 c j (.inl hc))⟩;simp_all
  ·rcases a1W h with⟨hv,-⟩|⟨a,n,c,os,hv,ha,hn,h0,ho⟩;simp_all
   ·rw[hv]at hv';simp at hv';obtain⟨rfl,rfl,rfl⟩:=hv';rcases ho with⟨hc0,-⟩|⟨hc0,rfl⟩;omega
    ·have hnd:=hs.nodup;simp only[a09,a18]at hnd;obtain⟨hab,hnos⟩:=hnd;have haO:a.block∈(((a.block,a.off+c*t.cells)::os).map (·.1)):=by simp
     obtain⟨z,oi,ri,A0,B0,A0',B0',hf,hz,e1,e2⟩:=a0T n 0 i h0 hi;simp at hf;have hoi':∀c,c∈oi.map (·.1)→c∈os.map (·.1):=fun c hc=>by simp_all
     have hoi:∀c',c'∈oi.map (·.1)→c'∈(((a.block,a.off+c*t.cells)::os).map (·.1)):=fun c' hc=>by
      simp_all
     have hri:∀c,c∈ri→c∈R:=fun c hc=>by simp_all
     have hw:=a5V p t _ hf hl;have hbO:b∈(((a.block,a.off+c*t.cells)::os).map (·.1)):=by
      grind
     obtain⟨y1,O1',R1',A1,B1,A1',B1',hd,-,e3,e4⟩:=a1G p t _ hf hl;rw[hy]at hd;simp at hd;obtain⟨rfl,rfl,rfl⟩:=hd;have hsub:∀c,c∈O'.map (·.1)→c∈oi.map (·.1):=fun c hc=>by grind
     have hhd:s.rd m' 0=some (.slice (some a) n c):=by
      rw[←hv];cases s with
      |one v=>rfl
      |_=>
       rename_i sb so;show m' sb (so+0)=m sb (so+0);rcases hc sb (so+0)with h|⟨hb,ho,ho'⟩|h|⟨h,h',h''⟩;omega;exact absurd rfl (hb▸hs.src b hbO);exact absurd rfl (hs.src sb (hoi _ (hsub _ h)));exact absurd rfl h''
     cases q with
     |nil=>
      refine⟨hr,fun e s' e1 _=>?_⟩;simp[a0V]at hr
      grind
     |cons st q=>
      rcases st with _|_|j;cases hr;cases hr;rcases a6J hr with⟨n',t1',bl',so',e5,e6,hj,hr'⟩|⟨t1',a',n',c',e5,e6,hj,hr'⟩
      grind
      simp at e5;subst e5;rw[hv]at e6;simp at e6;obtain⟨rfl,rfl,rfl⟩:=e6;have e:loc m' (.list true t) s (.idx j::q)=if j<n then loc m' t (.at a.block (a.off+j*t.cells)) q else none:=by
       simp only[loc,a0V,hhd]
      rw[e,if_pos hj];clear e
      by_cases hji:j=i
      subst hji;have hni:(oi.map (·.1)).Nodup:=by
       grind
      have hsi:Sep (.at a.block (a.off+j*t.cells)) oi ri:=⟨hni,fun c hc (e:c=a.block)=>hab (e▸hoi' c hc),
       fun c hc=>⟨fun g=>(hs.shared c (hri c hc)).1 (hoi c g),fun(e:c=a.block)=>(hs.shared c (hri c hc)).1 (e▸haO)⟩⟩
      have ih:=b5Y p q t _ hf hl hy hsi (fun c k=>by
       rcases hc c k with h|h|h|⟨h,h',h''⟩;exact .inl h;omega
       grind
       exact .inr (.inr (.inr ⟨fun g=>h (hoi c g),fun g=>h' (hri c g),fun(e:c=a.block)=>h (e▸haO)⟩))) (fun rest e=>hq rest (by grind)) hr'
      exact⟨ih.1,fun e s' e1 hne=>ih.2 e s' e1 (fun rest e2=>hne rest (by grind))⟩;obtain⟨zj,oj,rj,Aj,Bj,Aj',Bj',hfj,-,ej,ej'⟩:=a0T n 0 j h0 hj;simp at hfj;have hdis:=a9H n 0 h0 hnos i j hi hj (Ne.symm hji) (by simpa using hf) (by simpa using hfj);have hoj':∀c,c∈oj.map (·.1)→c∈os.map (·.1):=fun c g=>by grind
      have hoj:∀c',c'∈oj.map (·.1)→c'∈(((a.block,a.off+c*t.cells)::os).map (·.1)):=fun c' g=>by
       grind
      have hp:=b5E hc hs (bl:=a.block) (so:=a.off+j*t.cells) (k:=t.cells) (o1:=oi) (o2:=oj) (r2:=rj) (.inr haO)
       (fun c hc=>⟨hoi c hc,fun e=>hab (e▸hoi' c hc)⟩) (fun c hc=>⟨hoj c hc,fun e=>hab (e▸hoj' c hc)⟩) hdis
       (fun c g=>by grind) hsub (by
        rcases hw with⟨s1,g1,g2,g3⟩|g;simp at g1;obtain⟨rfl,rfl⟩:=g1;refine .inl ⟨rfl,fun k hk=>?_⟩;rcases a19 hji with g|g
        have:j*t.cells+t.cells≤i*t.cells:=by rw[←a02];exact a00 _ g
        omega
        have:i*t.cells+t.cells≤j*t.cells:=by rw[←a02];exact a00 _ g
        omega
        grind)
      exact⟨a2E q t _ hfj hr' hp.1 (fun c j hc=>hp.2 c j (.inl hc)),fun e s' e1 _=>b2i hfj (e1▸hr') hp.1 (fun c j hc=>hp.2 c j (.inl hc))⟩
end Go.Ab
namespace Go.Ab
def a0a(w:World)(ov:Option (Nat×Nat×Value)):Mem:=fun b o=>
 match ov with
 |some (b',o',v)=>if b=b'∧o=o' then some v else w.cell? ⟨b,o,none⟩
 |none=>w.cell? ⟨b,o,none⟩
structure Gh where
 g:Nat→Src
 ow:Nat→a1g
 ov:Option (Nat×Nat×Value)
structure Base where
 size:Nat
 hp:Nat→Option Obj
 F:Nat→Prop
 S:Nat→Prop

 pin:Nat→Option Src:=fun _=>none

 io:Os×Array (Nat×ByteArray):=(default,#[])
def a2n(w:World):Os×Array (Nat×ByteArray):=(w.os,w.output)
def a0P(σ:Gh)(c:Nat):Prop:=∃n,c∈(σ.ow n).map (·.1)
def Shr(B:Base)(w:World)(σ:Gh)(c:Nat):Prop:=c<w.heap.size∧(B.S c∨B.F c∨B.size≤c)∧¬ a0P σ c
def a0Z(w:World)(b k:Nat):Prop:=∃c e lo hi,w.heap[b]?=some (.cells c e (lo,hi))∧k≤c.size∧(hi=lo∨k≤lo)
def a1v:Value→Bool
 |.agg _|.tuple _=>false
 |_=>true
def VOk(m:Mem)(Sh:Nat→Prop)(t:Ty)(x:t.den)(v:Value):Prop:=
 (t.isAgg=true→∃cs,v=.agg cs∧cs.size=t.cells)∧(t.isAgg=false→a1v v=true)∧
 ∃R,dec m t (fun j=>v.cells[j]?)=some (x,[],R)∧∀c∈R,Sh c
def a0j(m:Mem)(g:Nat→Src)(rt:Nat→Option Root)(Sh:Nat→Prop):AV→Value→Prop
 |.dead,_=>True
 |.skp,v=>v=undef
 |.val t x,v=>VOk m Sh t x v
 |.nils,v=>v=.slice none 0 0
 |.empt,v=>∃a:Option Addr,v=.slice a 0 0
 |.nilp,v=>v=.pointer none
 |.ptr n p,v=>∃r t b o,rt n=some r∧loc m r.t (g n) p=some (t,.at b o)∧v=.pointer (some ⟨b,o,none⟩)
 |.glob g,v=>v=.pointer (some ⟨g,0,none⟩)
 |.vptr t x,v=>∃b o R,v=.pointer (some ⟨b,o,none⟩)∧dec m t ((Src.at b o).rd m)=some (x,[],R)∧Sh b∧∀c∈R,Sh c
 |.sref n p,v=>∃r e s,rt n=some r∧loc m r.t (g n) p=some (.list true e,s)∧s.rd m 0=some v
 |.swin n p off len,v=>∃r e s a l c,rt n=some r∧loc m r.t (g n) p=some (.list true e,s)∧s.rd m 0=some (.slice a l c)∧off+len≤l∧
   ∃a',v=.slice a' len (c-off)∧(∀A,a'=some A→c=off∨A.spot=none)∧(c=off∨a'=a.map fun A=>A.add (off*e.cells))
def Cmp.ok:Cmp→Array Value→Nat→Value→Prop
 |.tup,us,_,v=>v=.tuple us
 |.agg,us,n,v=>us.size=n∧v=.agg us∧∀(k:Nat) u,us[k]?=some u→a1v u=true
 |.clo f,us,n,v=>us.size=n∧v=.func (.func f) #[] us
def b1R(m:Mem)(g:Nat→Src)(rt:Nat→Option Root)(Sh:Nat→Prop):SV→Value→Prop
 |.one a,v=>a0j m g rt Sh a v
 |.cmp c as,v=>∃vs:Array Value,c.ok vs as.length v∧∀(k:Nat) a,as[k]?=some a→∃u,vs[k]?=some u∧a0j m g rt Sh a u
structure RootOk (m:Mem) (Sh:Nat→Prop) (r:Root) (s:Src) (O:a1g):Prop where
 rd:∃O' R,dec m r.t (s.rd m)=some (r.x,O',R)∧(∀c∈R,Sh c)∧
  ((r.bx=true∧∃b,s=.at b 0∧O=(b,r.t.cells)::O')∨(r.bx=false∧(∃v,s=.one v)∧(∃e,r.t=.list true e)∧O=O'))
def b2x(m:Mem)(g:Nat→Src)(rt:Nat→Option Root):Option (Nat×a0R×Nat)→Option (Nat×Nat×Value)→Prop
 |none,none=>True
 |some (n,p,_),some (b,o,_)=>∃r e,rt n=some r∧loc m r.t (g n) p=some (.list true e,.at b o)
 |_,_=>False
theorem b2x.mono{m m':Mem}{g g':Nat→Src}{rt rt':Nat→Option Root}:∀{pd ov},b2x m g rt pd ov→
  (∀n p d r e b o,pd=some (n,p,d)→rt n=some r→loc m r.t (g n) p=some (.list true e,.at b o)→∃r',rt' n=some r'∧loc m' r'.t (g' n) p=some (.list true e,.at b o))→
  b2x m' g' rt' pd ov
 |none,none,_,_=>trivial
 |some (n,p,d),some (b,o,v),⟨r,e,h1,h2⟩,hf=>by
  obtain⟨r',h3,h4⟩:=hf n p d r e b o rfl h1 h2;exact⟨r',e,h3,h4⟩
 |none,some _,h,_=>h.elim
 |some _,none,h,_=>h.elim
structure Rel (B:Base) (Γ:AE) (N:Nat) (tm:Nat→Value) (w:World) (σ:Gh):Prop where
 roots:∀n r,Γ.rt n=some r→RootOk (a0a w σ.ov) (Shr B w σ) r (σ.g n) (σ.ow n)
 norm:∀n,Γ.rt n=none→σ.ow n=[]
 nodup:∀n,((σ.ow n).map (·.1)).Nodup
 disj:∀n n',n≠n'→∀c,c∈(σ.ow n).map (·.1)→c∉(σ.ow n').map (·.1)
 live:∀n p,p∈σ.ow n→a0Z w p.1 p.2
 slots:∀i,i<N→b1R (a0a w σ.ov) σ.g Γ.rt (Shr B w σ) (Γ.sl i) (tm i)
 pend:b2x (a0a w σ.ov) σ.g Γ.rt Γ.pd σ.ov
 size:B.size≤w.heap.size
 frame:∀b,b<B.size→¬ B.F b→w.heap[b]?=B.hp b
 mine:∀c,a0P σ c→B.F c∨B.size≤c
 pins:∀i b,B.pin i=some b→Γ.rt (pinned+i)≠none→σ.g (pinned+i)=b
 still:a2n w=B.io
theorem a0Z.lt{w:World}{b k:Nat}(h:a0Z w b k):b<w.heap.size:=by
 obtain⟨c,e,lo,hi,h,-⟩:=h
 grind
theorem a0Z.mono{w:World}{b k k':Nat}(h:a0Z w b k)(hk:k'≤k):a0Z w b k':=by
 obtain⟨c,e,lo,hi,h,h1,h2⟩:=h;exact⟨c,e,lo,hi,h,a05 hk h1,h2.imp id (a05 hk)⟩
theorem Rel.lt{B Γ N tm w σ}(h:Rel B Γ N tm w σ){c:Nat}(hc:a0P σ c):c<w.heap.size:=by
 obtain⟨n,hn⟩:=hc;obtain⟨p,hp,rfl⟩:=List.mem_map.1 hn;exact(h.live n p hp).lt
theorem VOk.frame{m m':Mem}{Sh Sh':Nat→Prop}{t x v}(h:VOk m Sh t x v)(hm:∀c j,Sh c→m' c j=m c j)(hs:∀c,Sh c→Sh' c):VOk m' Sh' t x v:=by
 obtain⟨h1,h2,R,h3,h4⟩:=h;refine⟨h1,h2,R,a0x t h3 (fun _ _=>rfl) (fun b j hb=>?_),fun c hc=>hs c (h4 c hc)⟩;simp_all
theorem a0j.frame{m m':Mem}{g g':Nat→Src}{rt rt':Nat→Option Root}{Sh Sh':Nat→Prop}{a:AV}{v:Value}(h:a0j m g rt Sh a v)
  (hm:∀c j,Sh c→m' c j=m c j)(hs:∀c,Sh c→Sh' c)
  (hr:∀n p r t s,(a=.ptr n p∨a=.sref n p∨∃o l,a=.swin n p o l)→rt n=some r→loc m r.t (g n) p=some (t,s)→
   ∃r',rt' n=some r'∧loc m' r'.t (g' n) p=some (t,s)∧(∀u,a≠.ptr n p→s.rd m 0=some u→s.rd m' 0=some u)):a0j m' g' rt' Sh' a v:=by
 cases a with
 |dead=>trivial
 |val t x=>exact VOk.frame h hm hs
 |skp=>exact h
 |nils=>exact h
 |empt=>exact h
 |nilp=>exact h
 |glob g=>exact h
 |ptr n p=>
  obtain⟨r,t,b,o,h1,h2,h3⟩:=h;obtain⟨r',h4,h5,-⟩:=hr n p r t _ (.inl rfl) h1 h2;exact⟨r',t,b,o,h4,h5,h3⟩
 |vptr t x=>
  obtain⟨b,o,R,h1,h2,h3,h4⟩:=h;refine⟨b,o,R,h1,a0x t h2 (fun j _=>hm b _ h3) (fun c j hc=>?_),hs b h3,fun c hc=>hs c (h4 c hc)⟩;simp_all
 |sref n p=>
  obtain⟨r,e,s,h1,h2,h3⟩:=h;obtain⟨r',h4,h5,h6⟩:=hr n p r _ _ (.inr (.inl rfl)) h1 h2;exact⟨r',e,s,h4,h5,h6 v (by simp) h3⟩
 |swin n p o l=>
  obtain⟨r,e,s,a,l',c,h1,h2,h3,h4,h5⟩:=h;obtain⟨r',h6,h7,h8⟩:=hr n p r _ _ (.inr (.inr ⟨_,_,rfl⟩)) h1 h2;exact⟨r',e,s,a,l',c,h6,h7,h8 _ (by simp) h3,h4,h5⟩
theorem b1R.frame{m m':Mem}{g g':Nat→Src}{rt rt':Nat→Option Root}{Sh Sh':Nat→Prop}{a:SV}{v:Value}(h:b1R m g rt Sh a v)
  (hf:∀a v,a0j m g rt Sh a v→a0j m' g' rt' Sh' a v):b1R m' g' rt' Sh' a v:=by
 cases a with
 |one a=>exact hf a v h
 |cmp c as=>
  obtain⟨vs,h1,h2⟩:=h;refine⟨vs,h1,fun k a hk=>?_⟩
  grind
theorem b1R.mapv{m m':Mem}{g g':Nat→Src}{rt rt':Nat→Option Root}{Sh Sh':Nat→Prop}{f:AV→AV}{a:SV}{v:Value}(h:b1R m g rt Sh a v)
  (hf:∀a v,a0j m g rt Sh a v→a0j m' g' rt' Sh' (f a) v):b1R m' g' rt' Sh' (a.mapv f) v:=by
 cases a with
 |one a=>exact hf a v h
 |cmp c as=>
  obtain⟨vs,h1,h2⟩:=h;refine⟨vs,by simp_all,fun k a hk=>?_⟩
  grind
theorem RootOk.sep{B:Base}{w:World}{σ:Gh}{m:Mem}{r s O}(h:RootOk m (Shr B w σ) r s O)(hn:(O.map (·.1)).Nodup)(ho:∀c∈O.map (·.1),a0P σ c):
  ∃O' R,dec m r.t (s.rd m)=some (r.x,O',R)∧(∀c∈R,Shr B w σ c)∧Sep s O' R∧(∀c∈O'.map (·.1),c∈O.map (·.1))∧(∀b o,s=.at b o→b∈O.map (·.1))∧
   ((r.bx=true∧∃b,s=.at b 0∧O=(b,r.t.cells)::O')∨(r.bx=false∧(∃v,s=.one v)∧(∃e,r.t=.list true e)∧O=O')):=by
 obtain⟨O',R,h1,h2,h3⟩:=h.rd;refine⟨O',R,h1,h2,?_,?_,?_,h3⟩;rcases h3 with⟨-,b,rfl,rfl⟩|⟨-,⟨v,rfl⟩,-,rfl⟩;simp only[a09,a18]at hn;refine⟨hn.2,fun c hc e=>hn.1 (e▸hc),fun c hc=>⟨fun h=>(h2 c hc).2.2 (ho c (by simp_all)),fun e=>(h2 c hc).2.2 (ho c (by grind))⟩⟩;exact⟨hn,fun c _=>trivial,fun c hc=>⟨fun h=>(h2 c hc).2.2 (ho c h),trivial⟩⟩
 all_goals grind
theorem Rel.sep{B Γ N tm w σ}(h:Rel B Γ N tm w σ){n r}(hr:Γ.rt n=some r):
  ∃O' R,dec (a0a w σ.ov) r.t ((σ.g n).rd (a0a w σ.ov))=some (r.x,O',R)∧(∀c∈R,Shr B w σ c)∧Sep (σ.g n) O' R∧(∀c∈O'.map (·.1),c∈(σ.ow n).map (·.1))∧
   (∀b o,σ.g n=.at b o→b∈(σ.ow n).map (·.1))∧
   ((r.bx=true∧∃b,σ.g n=.at b 0∧σ.ow n=(b,r.t.cells)::O')∨(r.bx=false∧(∃v,σ.g n=.one v)∧(∃e,r.t=.list true e)∧σ.ow n=O')):=
 (h.roots n r hr).sep (h.nodup n) (fun _ hc=>⟨n,hc⟩)
theorem Rel.place{B Γ N tm w σ}(h:Rel B Γ N tm w σ){n r p t b o}(hr:Γ.rt n=some r)(hl:loc (a0a w σ.ov) r.t (σ.g n) p=some (t,.at b o)):b∈(σ.ow n).map (·.1):=by
 obtain⟨O',R,h1,h2,h3,h4,h5,-⟩:=h.sep hr
 grind[a5V]
theorem Rel.mem{B Γ N tm w σ}(h:Rel B Γ N tm w σ){w':World}(hm:∀c j,a0P σ c∨Shr B w σ c→a0a w' σ.ov c j=a0a w σ.ov c j)(hl:∀n p,p∈σ.ow n→a0Z w' p.1 p.2)
  (hsz:w.heap.size≤w'.heap.size)(hf:∀b,b<B.size→¬ B.F b→w'.heap[b]?=B.hp b)(hio:a2n w'=a2n w:=by first|rfl|assumption):Rel B Γ N tm w' σ:=by
 have hsh:∀c,Shr B w σ c→Shr B w' σ c:=fun c ⟨h1,h2,h3⟩=>⟨a06 h1 hsz,h2,h3⟩;have hplace:∀n p r t s,Γ.rt n=some r→loc (a0a w σ.ov) r.t (σ.g n) p=some (t,s)→loc (a0a w' σ.ov) r.t (σ.g n) p=some (t,s)∧∀u,s.rd (a0a w σ.ov) 0=some u→s.rd (a0a w' σ.ov) 0=some u:=by
  intro n p r t s hr hp;obtain⟨O',R,h1,h2,h3,h4,h5,-⟩:=h.sep hr;refine⟨a2E p r.t _ h1 hp (fun j hj=>?_) (fun c j hc=>hm c j (.inl ⟨n,h4 c hc⟩)),fun u hu=>?_⟩
  ·cases e:σ.g n with
   |one v=>rfl
   |_=>rename_i b o;exact hm b _ (.inl ⟨n,h5 b o e⟩)
  ·cases s with
   |one v=>exact hu
   |_=>
    rename_i b o
    have:=h.place hr hp
    rw[←hu];exact hm b _ (.inl ⟨n,this⟩)
 refine⟨fun n r hr=>?_,h.norm,h.nodup,h.disj,hl,fun i hi=>?_,?_,a05 h.size hsz,hf,h.mine,h.pins,hio.trans h.still⟩
 ·obtain⟨O',R,h1,h2,h3,h4,h5,h6⟩:=h.sep hr;refine⟨O',R,a0x r.t h1 (fun j hj=>?_) (fun c j hc=>?_),fun c hc=>hsh c (h2 c hc),h6⟩
  ·cases e:σ.g n with
   |one v=>rfl
   |_=>rename_i b o;exact hm b _ (.inl ⟨n,h5 b o e⟩)
  rcases hc with hc|hc;exact hm c j (.inl ⟨n,h4 c hc⟩);simp_all
 refine(h.slots i hi).frame fun a v ha=>ha.frame (fun c j hc=>hm c j (.inr hc)) hsh fun n p r t s _ hr hp=>?_
 grind
 exact h.pend.mono fun n p d r e b o _ hr hp=>⟨r,hr,(hplace n p r _ _ hr hp).1⟩
theorem Rel.put{B Γ N tm w σ}(h:Rel B Γ N tm w σ){d:Nat}{a:SV}{v:Value}{tm':Nat→Value}(ha:d<N→b1R (a0a w σ.ov) σ.g Γ.rt (Shr B w σ) a v)
  (ht:∀i,i<N→tm' i=if i=d then v else tm i):Rel B (Γ.put d a) N tm' w σ:=by
 refine⟨h.roots,h.norm,h.nodup,h.disj,h.live,fun i hi=>?_,h.pend,h.size,h.frame,h.mine,h.pins,h.still⟩;rw[ht i hi];show b1R _ _ _ _ (bif i==d then a else Γ.sl i) _
 by_cases e:i=d
 subst e;rw[if_pos rfl,show(i==i)=true from by simp];exact ha hi;rw[if_neg e,show(i==d)=false from by simp_all];exact h.slots i hi
theorem Rel.tmps{B Γ N tm w σ}(h:Rel B Γ N tm w σ){tm':Nat→Value}(ht:∀i,i<N→tm' i=tm i):Rel B Γ N tm' w σ:=
 ⟨h.roots,h.norm,h.nodup,h.disj,h.live,fun i hi=>by rw[ht i hi];exact h.slots i hi,h.pend,h.size,h.frame,h.mine,h.pins,h.still⟩
theorem Rel.weak{B Γ N tm w σ}(h:Rel B Γ N tm w σ){sl:Nat→SV}(hs:∀i,i<N→∀v,b1R (a0a w σ.ov) σ.g Γ.rt (Shr B w σ) (Γ.sl i) v→b1R (a0a w σ.ov) σ.g Γ.rt (Shr B w σ) (sl i) v):
  Rel B { Γ with sl:=sl } N tm w σ:=
 ⟨h.roots,h.norm,h.nodup,h.disj,h.live,fun i hi=>hs i hi _ (h.slots i hi),h.pend,h.size,h.frame,h.mine,h.pins,h.still⟩
end Go.Ab
namespace Go.Ab
theorem a1s{w w':World}{c:Nat}(ov:Option (Nat×Nat×Value))(h:w'.heap[c]?=w.heap[c]?)(j:Nat):a0a w' ov c j=a0a w ov c j:=by
 simp_all[a0a,World.cell?]
theorem a3P{m:Mem}:∀(p q:a0R)(t:Ty)(s:Src){t' s'},loc m t s p=some (t',s')→loc m t s (p++q)=loc m t' s' q
 | [],q,t,s,t',s',h=>by
  simp[a0V]at h;simp_all
 |.fst::p,q,t,s,t',s',h=>by
  obtain⟨a,b,bl,o,rfl,rfl,h⟩:=a9f h;exact a3P p q a _ h
 |.snd::p,q,t,s,t',s',h=>by
  obtain⟨a,b,bl,o,rfl,rfl,h⟩:=a9g h;exact a3P p q b _ h
 |.idx i::p,q,t,s,t',s',h=>by
  rcases a6J h with⟨n,t1,bl,o,rfl,rfl,hi,h⟩|⟨t1,a,n,c,rfl,hv,hi,h⟩
  have:=a3P p q t1 _ h
  show(if i<n then loc m t1 (.at bl (o+i*t1.cells)) (p++q)else none)=_
  simp_all
  have:=a3P p q t1 _ h
  simp_all[a0V]
theorem a9I{m:Mem}:∀(q:a0R)(t:Ty)(s:Src){t' s'},t.shn=t→loc m t s q=some (t',s')→t'.shn=t'
 | [],t,s,t',s',h,hl=>by
  simp[a0V]at hl;obtain⟨rfl,rfl⟩:=hl;exact h
 |.fst::p,t,s,t',s',h,hl=>by
  obtain⟨a,b,bl,o,rfl,rfl,hl⟩:=a9f hl;simp only[Ty.shn,Ty.pair.injEq]at h;exact a9I p a _ h.1 hl
 |.snd::p,t,s,t',s',h,hl=>by
  obtain⟨a,b,bl,o,rfl,rfl,hl⟩:=a9g hl;simp only[Ty.shn,Ty.pair.injEq]at h;exact a9I p b _ h.2 hl
 |.idx i::p,t,s,t',s',h,hl=>by
  rcases a6J hl with⟨n,t1,bl,o,rfl,rfl,hi,hl⟩|⟨t1,a,n,c,rfl,hv,hi,hl⟩;simp only[Ty.shn,Ty.arr.injEq]at h;exact a9I p t1 _ (Ty.shn_of_sh t1 h.2) hl;simp[Ty.shn]at h
def c8m(n:Nat)(p:a0R)(t:Ty):AV→Prop
 |.ptr m q=>m=n→∀rest,q=p++rest→rest=[]∨t.shn=t
 |.sref m q|.swin m q _ _=>m=n→∀rest,q=p++rest→t.shn=t
 |_=>True
theorem b6d(p q:a0R):a4O p (p++q)=true:=by
 induction p with
 |nil=>rfl
 |cons s p ih=>cases s<;>simpa[a4O]using ih
theorem b9D(n:Nat)(p:a0R)(t:Ty)(a:AV):a.kill n p=.dead∨(a.kill n p=a∧c8m n p t a):=by
 cases a<;>try exact .inr ⟨rfl,trivial⟩
 rename_i m q
 by_cases h:(m==n&&a4O p q&&decide (p.length<q.length))=true
 simp_all[AV.kill];refine .inr ⟨by simp_all[AV.kill],fun e rest hq=>?_⟩;simp_all[b6d];rename_i m q
 by_cases h:(m==n&&a4O p q)=true
 simp_all[AV.kill];refine .inr ⟨by simp_all[AV.kill],fun e rest hq=>?_⟩;simp_all[b6d];rename_i m q o l
 by_cases h:(m==n&&a4O p q)=true
 simp_all[AV.kill];refine .inr ⟨by simp_all[AV.kill],fun e rest hq=>?_⟩;simp_all[b6d]
theorem d1w(n:Nat)(p:a0R){t:Ty}(h:t.shn=t)(a:AV):c8m n p t a:=by
 cases a<;>first|trivial|exact fun _ _ _=>h|exact fun _ _ _=>.inr h
inductive Pend (Γ:AE) (σ:Gh) (n:Nat) (p:a0R) (t:Ty) (b o:Nat):Option (Nat×a0R×Nat)→Option (Nat×Nat×Value)→Prop
 |same (h:∀p d,Γ.pd≠some (n,p,d)):Pend Γ σ n p t b o Γ.pd σ.ov
 |new (d:Nat) (v:Value) (e:Ty) (h:Γ.pd=none) (ht:t=.list true e):Pend Γ σ n p t b o (some (n,p,d)) (some (b,o,v))
theorem Rel.chg{B Γ N tm w σ}(h:Rel B Γ N tm w σ){n r p t b o y O1 R1}(hr:Γ.rt n=some r)(hl:loc (a0a w σ.ov) r.t (σ.g n) p=some (t,.at b o))
  (hy:dec (a0a w σ.ov) t ((Src.at b o).rd (a0a w σ.ov))=some (y,O1,R1)){w':World}{ov':Option (Nat×Nat×Value)}{pd':Option (Nat×a0R×Nat)}{y' O2 R2}
  (hpd:Pend Γ σ n p t b o pd' ov')(hy':dec (a0a w' ov') t ((Src.at b o).rd (a0a w' ov'))=some (y',O2,R2))
  (hchg:∀c j,a0a w' ov' c j=a0a w σ.ov c j∨(c=b∧o≤j∧j<o+t.cells)∨c∈O1.map (·.1)∨w.heap.size≤c)
  (hO2:∀c∈O2.map (·.1),c∈O1.map (·.1)∨w.heap.size≤c)(hn2:(O2.map (·.1)).Nodup)(hlive:∀p∈O2,a0Z w' p.1 p.2)(hfree:∀c k,a0Z w c k→a0P σ c→a0Z w' c k)
  (hsz:w.heap.size≤w'.heap.size)(hfr:∀b,b<B.size→¬ B.F b→w'.heap[b]?=B.hp b)
  (hR2:∀c∈R2,c<w'.heap.size∧(B.S c∨B.F c∨B.size≤c)∧¬ a0P σ c∧c∉O2.map (·.1)){f:AV→AV}(hf:∀a,f a=.dead∨(f a=a∧c8m n p t a))(hio:a2n w'=a2n w:=by first|rfl|assumption):
  ∃ow',(∀m,m≠n→ow' m=σ.ow m)∧Rel B { (Γ.mapv f).setRt n (some ⟨r.bx,r.t,a1U r.t r.x p t y'⟩)with pd:=pd' } N tm w' ⟨σ.g,ow',ov'⟩:=by
 obtain⟨O',R,h1,h2,h3,h4,h5,h6⟩:=h.sep hr;obtain⟨y1,O1',R1',A1,B1,A1',B1',hd,hg,e1,e2⟩:=a1G p r.t _ h1 hl;rw[hy]at hd;simp at hd;obtain⟨rfl,rfl,rfl⟩:=hd;have hO1:∀c,c∈O1.map (·.1)→c∈(σ.ow n).map (·.1):=fun c hc=>h4 c (by simp_all);have hb:b∈(σ.ow n).map (·.1):=h.place hr hl;have hc1:Chg (a0a w σ.ov) (a0a w' ov') (σ.g n) O' R b o t.cells O1:=fun c j=>by
  rcases hchg c j with g|g|g|g
  grind
  omega
  grind
  ·refine .inr (.inr (.inr ⟨fun g'=>?_,fun g'=>?_,?_⟩));exact absurd (h.lt ⟨n,h4 c g'⟩) (by omega);exact absurd (h2 c g').1 (by omega)
   ·cases e:σ.g n with
    |one v=>trivial
    |_=>
     rename_i b' o'
     rintro rfl
     exact absurd (h.lt ⟨n,h5 _ _ e⟩) (by omega)
 obtain⟨A,B',R',e3,h7,h8⟩:=c3P p r.t (σ.g n) h1 hl hy hy' h3 hc1

 have hother:∀c j,c∉(σ.ow n).map (·.1)→c<w.heap.size→a0a w' ov' c j=a0a w σ.ov c j:=fun c j hc hlt=>by
  grind
 have hoth:∀m,m≠n→∀c j,c∈(σ.ow m).map (·.1)→a0a w' ov' c j=a0a w σ.ov c j:=fun m hm c j hc=>
  hother c j (h.disj m n hm c hc) (h.lt ⟨m,hc⟩)
 have hshm:∀c j,Shr B w σ c→a0a w' ov' c j=a0a w σ.ov c j:=fun c j hc=>hother c j (fun g=>hc.2.2 ⟨n,g⟩) hc.1

 let on:a1g:=match r.bx with|true=>(match σ.g n with|.at b0 _=>[(b0,r.t.cells)]|_=>[])++(A++(O2++B'))|false=>A++(O2++B')
 let ow':Nat→a1g:=fun m=>if m=n then on else σ.ow m
 have hon:ow' n=on:=by grind
 have hom:∀m,m≠n→ow' m=σ.ow m:=fun m hm=>by grind
 have hon1:∀c,c∈on.map (·.1)→c∈(σ.ow n).map (·.1)∨c∈O2.map (·.1):=by
  intro c hc;have key:c∈(A++(O2++B')).map (·.1)→c∈(σ.ow n).map (·.1)∨c∈O2.map (·.1):=by
   grind
  rcases h6 with⟨hbx,b0,hs,ho⟩|⟨hbx,-,-,ho⟩
  grind
  grind
 have hOwned:∀c,(∃m,c∈(ow' m).map (·.1))→a0P σ c∨c∈O2.map (·.1):=by
  rintro c ⟨m,hm⟩
  by_cases e:m=n
  subst e;rw[hon]at hm;rcases hon1 c hm with g|g;exact .inl ⟨m,g⟩
  grind
  rw[hom m e]at hm;exact .inl ⟨m,hm⟩
 have hO2σ:∀c,c∈O2.map (·.1)→a0P σ c∨w.heap.size≤c:=fun c hc=>by
  rcases hO2 c hc with g|g;exact .inl ⟨n,hO1 c g⟩;omega
 have hsh:∀c,Shr B w σ c→Shr B w' ⟨σ.g,ow',ov'⟩ c:=fun c ⟨g1,g2,g3⟩=>⟨a06 g1 hsz,g2,fun g4=>by
  rcases hOwned c g4 with g|g
  all_goals grind⟩
 have hshR2:∀c∈R2,Shr B w' ⟨σ.g,ow',ov'⟩ c:=fun c hc=>by
  obtain⟨g1,g2,g3,g4⟩:=hR2 c hc;refine⟨g1,g2,fun g5=>?_⟩;rcases hOwned c g5 with g|g
  all_goals grind

 have hplace:∀m q rm tq s,Γ.rt m=some rm→loc (a0a w σ.ov) rm.t (σ.g m) q=some (tq,s)→(m=n→∀rest,q=p++rest→rest=[]∨t.shn=t)→
   loc (a0a w' ov') rm.t (σ.g m) q=some (tq,s)∧∀e,tq=.list true e→(m=n→∀rest,q=p++rest→t.shn=t)→s.rd (a0a w' ov') 0=s.rd (a0a w σ.ov) 0:=by
  intro m q rm tq s hrm hlq hq
  by_cases e:m=n
  subst e;rw[hr]at hrm;simp at hrm;subst hrm
  have:=b5Y p q r.t (σ.g m) h1 hl hy h3 hc1 (hq rfl) hlq
  refine⟨this.1,fun e ht hne=>this.2 e s (by grind) (fun rest he=>?_)⟩;have hp:=hne rfl rest he;subst he;rw[a3P p rest r.t _ hl]at hlq
  have:=a9I rest t _ hp hlq
  grind[Ty.shn]
  ·obtain⟨Om,Rm,g1,g2,g3,g4,g5,-⟩:=h.sep hrm;have hcell:∀j,j<rm.t.cells→(σ.g m).rd (a0a w' ov') j=(σ.g m).rd (a0a w σ.ov) j:=fun j _=>by
    cases es:σ.g m with
    |one v=>rfl
    |_=>rename_i b' o';exact hoth m e b' _ (g5 _ _ es)
   refine⟨a2E q rm.t _ g1 hlq hcell (fun c j hc=>hoth m e c j (g4 c hc)),fun e' ht _=>?_⟩;rw[ht]at hlq;exact b2i g1 hlq hcell (fun c j hc=>hoth m e c j (g4 c hc))
 have hkeep:∀a v,a0j (a0a w σ.ov) σ.g Γ.rt (Shr B w σ) a v→a0j (a0a w' ov') σ.g (fun j=>bif j==n then some ⟨r.bx,r.t,a1U r.t r.x p t y'⟩else Γ.rt j) (Shr B w' ⟨σ.g,ow',ov'⟩) (f a) v:=by
  intro a v ha;rcases hf a with g|⟨g,hk⟩;rw[g];trivial;rw[g];refine ha.frame hshm hsh fun m q rm tq s hcase hrm hlq=>?_
  have hq:m=n→∀rest,q=p++rest→rest=[]∨t.shn=t:=by
   intro e rest he;rcases hcase with rfl|rfl|⟨o',l',rfl⟩;exact hk e rest he;exact .inr (hk e rest he);exact .inr (hk e rest he)
  have hp:=hplace m q rm tq s hrm hlq hq;refine⟨if m=n then⟨r.bx,r.t,a1U r.t r.x p t y'⟩else rm,?_,?_,?_⟩
  grind
  grind
  intro u hne hu;rcases hcase with rfl|rfl|⟨o',l',rfl⟩
  grind
  obtain⟨r0,e0,s0,k1,k2,k3⟩:=ha;rw[hrm]at k1;simp at k1;subst k1;rw[hlq]at k2;simp at k2;rw[hp.2 e0 k2.1 (fun e rest he=>hk e rest he)];omega;obtain⟨r0,e0,s0,a0,l0,c0,k1,k2,k3⟩:=ha;rw[hrm]at k1;simp at k1;subst k1;rw[hlq]at k2;simp at k2;rw[hp.2 e0 k2.1 (fun e rest he=>hk e rest he)];omega
 have hpins:∀i b,B.pin i=some b→(((Γ.mapv f).setRt n (some ⟨r.bx,r.t,a1U r.t r.x p t y'⟩)).rt (pinned+i))≠none→σ.g (pinned+i)=b:=fun i b hb hne=>by
  refine h.pins i b hb fun e=>hne ?_
  by_cases e':pinned+i=n
  grind
  have e'':(pinned+i==n)=false:=by grind
  simpa[AE.setRt,e'',AE.mapv]using e
 refine⟨ow',hom,?_,?_,?_,?_,?_,?_,?_,a05 h.size hsz,hfr,?_,hpins,hio.trans h.still⟩
 ·intro m rm hrm
  by_cases e:m=n
  subst e;simp[AE.setRt]at hrm;subst hrm;refine⟨_,R',h7,fun c hc=>?_,?_⟩
  grind
  rcases h6 with⟨hbx,b0,hs,ho⟩|⟨hbx,hs,ht,ho⟩
  grind
  grind
  ·have hrm':Γ.rt m=some rm:=by
    have e':(m==n)=false:=by grind
    simpa[AE.setRt,e',AE.mapv]using hrm
   obtain⟨Om,Rm,g1,g2,g3,g4,g5,g6⟩:=h.sep hrm';refine⟨Om,Rm,a0x rm.t g1 (fun j _=>?_) (fun c j hc=>?_),fun c hc=>hsh c (g2 c hc),?_⟩
   ·cases es:σ.g m with
    |one v=>rfl
    |_=>rename_i b' o';exact hoth m e b' _ (g5 _ _ es)
   grind
   grind
 intro m hm
 by_cases e:m=n
 grind[AE.setRt]
 have e':(m==n)=false:=by grind
 show ow' m=[];rw[hom m e];exact h.norm m (by simpa[AE.setRt,e',AE.mapv]using hm);intro m;show((ow' m).map (·.1)).Nodup
 by_cases e:m=n
 subst e;rw[hon];have hnd:=h.nodup m;have key:((A++(O2++B')).map (·.1)).Nodup:=by
  have hO'n:=h3.nodup;rw[e3]at hO'n;simp only[pA,a07,mA]at hO'n⊢;obtain⟨k1,⟨k2,k3,k4⟩,k5⟩:=hO'n;refine⟨k1,⟨hn2,k3,fun a ha c hc e=>?_⟩,fun a ha c hc e=>?_⟩;subst e;rcases hO2 a ha with g|g
  grind
  exact absurd (h.lt ⟨m,h4 a (by grind)⟩) (by omega);subst e;rcases hc with hc|hc;rcases hO2 a hc with g|g
  grind
  exact absurd (h.lt ⟨m,h4 a (by grind)⟩) (by omega)
  grind
 rcases h6 with⟨hbx,b0,hs,ho⟩|⟨hbx,-,-,ho⟩;simp only[on,hbx,hs,List.singleton_append,a09,a18];refine⟨fun g=>?_,key⟩;rw[ho]at hnd;simp only[a09,a18]at hnd;simp only[pA,mA]at g;rcases g with g|g|g
 grind
 rcases hO2 b0 g with g'|g';exact hnd.1 (by rw[e3];simp only[pA,mA];grind);have hb0:a0P σ b0:=⟨m,by grind⟩;exact absurd (h.lt hb0) (by omega);exact hnd.1 (by rw[e3];simp only[pA,mA];grind)
 grind
 rw[hom m e];exact h.nodup m;intro m m' hmm c hc hc'
 by_cases e:m=n
 subst e;rw[show(Gh.mk σ.g ow' ov').ow m=ow' m from rfl,hon]at hc;rw[show(Gh.mk σ.g ow' ov').ow m'=ow' m' from rfl,hom m' (Ne.symm hmm)]at hc';rcases hon1 c hc with g|g;exact h.disj m m' hmm c g hc';rcases hO2σ c g with g|g;rcases hO2 c ‹_› with g'|g';exact h.disj m m' hmm c (hO1 c g') hc';exact absurd (h.lt ⟨m',hc'⟩) (by omega);exact absurd (h.lt ⟨m',hc'⟩) (by omega)
 by_cases e':m'=n
 subst e';rw[show(Gh.mk σ.g ow' ov').ow m'=ow' m' from rfl,hon]at hc';rw[show(Gh.mk σ.g ow' ov').ow m=ow' m from rfl,hom m e]at hc;rcases hon1 c hc' with g|g;exact h.disj m m' hmm c hc g;rcases hO2 c g with g'|g';exact h.disj m m' hmm c hc (hO1 c g');exact absurd (h.lt ⟨m,hc⟩) (by omega);rw[show(Gh.mk σ.g ow' ov').ow m=ow' m from rfl,hom m e]at hc;rw[show(Gh.mk σ.g ow' ov').ow m'=ow' m' from rfl,hom m' e']at hc';exact h.disj m m' hmm c hc hc'
 ·intro m q hq;rw[show(Gh.mk σ.g ow' ov').ow m=ow' m from rfl]at hq
  by_cases e:m=n
  ·subst e;rw[hon]at hq;have hold:q∈σ.ow m→a0Z w' q.1 q.2:=fun g=>hfree _ _ (h.live m q g) ⟨m,a16 g⟩;have key:q∈A++(O2++B')→a0Z w' q.1 q.2:=by
    intro g;simp at g;have hmem:q∈O'→q∈σ.ow m:=fun g=>by
     rcases h6 with⟨-,b0,-,ho⟩|⟨-,-,-,ho⟩
     all_goals grind
    grind
   rcases h6 with⟨hbx,b0,hs,ho⟩|⟨hbx,-,-,ho⟩
   grind
   grind
  rw[hom m e]at hq;exact hfree _ _ (h.live m q hq) ⟨m,a16 hq⟩
 intro i hi;exact(h.slots i hi).mapv hkeep
 ·cases hpd with
  |same hne=>
   refine h.pend.mono fun n' p' d' r' e' b' o' hpd hr' hp'=>?_
   have hnn:n'≠n:=fun e=>hne p' d' (by grind);have e'':(n'==n)=false:=by grind
   exact⟨r',by simpa[AE.setRt,e'',AE.mapv]using hr',(hplace n' p' r' _ _ hr' hp' (fun g=>absurd g hnn)).1⟩
  |new d v e hpn ht=>
   refine⟨⟨r.bx,r.t,a1U r.t r.x p t y'⟩,e,by simp[AE.setRt],?_⟩;rw[←ht];exact(hplace n p r t _ hr hl (fun _ rest he=>.inl (by simpa using he))).1
 rintro c ⟨m,hm⟩
 rcases hOwned c ⟨m,hm⟩with g|g;exact h.mine c g;rcases hO2σ c g with g|g;exact h.mine c g;exact .inr (a05 h.size g)
end Go.Ab
namespace Go.Ab
theorem Ty.cells_sh:(t:Ty)→t.sh.cells=t.cells
 |.int _|.bool|.str|.unit|.list _ _|.nl _=>rfl
 |.pair a b=>by simp only[Ty.sh,Ty.cells,Ty.cells_sh a,Ty.cells_sh b]
 |.arr n t=>by simp only[Ty.sh,Ty.cells,Ty.cells_sh t]
theorem c6L{A A':Type}(h:A=A')(h':List A=List A')(l:List A):cast h' l=l.map (cast h):=by
 subst h;show l=l.map (fun x=>x)
 simp
theorem c1e{A A' B B':Type}(hA:A=A')(hB:B=B')(h:(A×B)=(A'×B'))(x:A×B):cast h x=(cast hA x.1,cast hB x.2):=by
 grind
theorem c3Q{A A':Type}(h:A=A')(h':List A=List A'):cast h' ([]:List A)=([]:List A'):=by
 grind
theorem Ty.shx_list(o:Bool)(t:Ty)(l:List t.den):Ty.shx (.list o t) l=l.map t.shx:=c6L _ _ l
theorem Ty.shx_arr(n:Nat)(t:Ty)(l:List t.den):Ty.shx (.arr n t) l=l.map t.shx:=c6L _ _ l
theorem Ty.shx_pair(a b:Ty)(x:a.den×b.den):Ty.shx (.pair a b) x=(a.shx x.1,b.shx x.2):=c1e _ _ _ x
theorem b5F{α β:Type}{f:Nat→Option (α×a1g×List Nat)}{f':Nat→Option (β×a1g×List Nat)}{c:α→β}:
  ∀(n i:Nat){xs os rs},a0g f n i=some (xs,os,rs)→(∀j x o r,i≤j→j<i+n→f j=some (x,o,r)→∃r',f' j=some (c x,[],r')∧∀b∈r',b∈o.map (·.1)∨b∈r)→
   ∃rs',a0g f' n i=some (xs.map c,[],rs')∧∀b∈rs',b∈os.map (·.1)∨b∈rs
 |0,i,xs,os,rs,h,_=>by
  simp[a0g]at h;obtain⟨rfl,rfl,rfl⟩:=h;exact⟨[],rfl,by simp⟩
 |n+1,i,xs,os,rs,h,hf=>by
  simp[a0g]at h
  split at h
  grind
  rename_i x o r hf1
  split at h
  grind
  rename_i xs' os' rs' h2;simp at h;obtain⟨rfl,rfl,rfl⟩:=h;obtain⟨r1,h3,h4⟩:=hf i x o r (a17 _) (by omega) hf1;obtain⟨rs1,h5,h6⟩:=b5F n (i+1) h2 (fun j x o r h1 h2=>hf j x o r (by omega) (by omega))
  grind[a0g]
theorem d6D{α β:Type}{m:Mem}{o:Bool}{sz:Nat}{f:(Nat→Option Value)→Option (α×a1g×List Nat)}{f':(Nat→Option Value)→Option (β×a1g×List Nat)}{c:α→β}{v x O R}
  (h:a1j m o sz f v=some (x,O,R))(hf:∀rd x o r,f rd=some (x,o,r)→∃r',f' rd=some (c x,[],r')∧∀b∈r',b∈o.map (·.1)∨b∈r):
  ∃R',a1j m false sz f' v=some (x.map c,[],R')∧∀b∈R',b∈O.map (·.1)∨b∈R:=by
 unfold a1j at h⊢
 split at h
 simp_all;rename_i a n c'
 split at h
 rename_i hc
 split at h
 grind
 rename_i xs os rs h2;obtain⟨rs',h3,h4⟩:=b5F (f':=fun i=>f' fun j=>m a.block (a.off+(i*sz+j))) (c:=c) n 0 h2 (fun j x o r _ _ h=>hf _ x o r h)
 grind
 simp_all;simp_all
theorem a7V{m:Mem}:∀(t:Ty){rd:Nat→Option Value}{x O R},dec m t rd=some (x,O,R)→∃R',dec m t.sh rd=some (t.shx x,[],R')∧∀c∈R',c∈O.map (·.1)∨c∈R
 |.int k,rd,x,O,R,h=>by
  refine⟨R,?_,fun c hc=>.inr hc⟩
  have:O=[]:=by
   grind[dec]
  subst this;exact h
 |.bool,rd,x,O,R,h=>by
  refine⟨R,?_,fun c hc=>.inr hc⟩
  have:O=[]:=by
   grind[dec]
  subst this;exact h
 |.str,rd,x,O,R,h=>by
  refine⟨R,?_,fun c hc=>.inr hc⟩
  have:O=[]:=by
   grind[dec]
  subst this;exact h
 |.unit,rd,x,O,R,h=>by
  simp[dec]at h;cases h;exact⟨[],rfl,by simp⟩
 |.pair a b,rd,x,O,R,h=>by
  obtain⟨x1,o1,r1,x2,o2,r2,h1,h2,rfl,rfl,rfl⟩:=a2s h;obtain⟨R1,h3,h4⟩:=a7V a h1;obtain⟨R2,h5,h6⟩:=a7V b h2;refine⟨R1++R2,?_,fun c hc=>?_⟩;rw[Ty.shx_pair];rw[←Ty.cells_sh a]at h5;exact a9e h3 h5;simp only[pA,mA]at hc⊢;rcases hc with hc|hc;exact(h4 c hc).imp .inl .inl;exact(h6 c hc).imp .inr .inr
 |.arr n t,rd,x,O,R,h=>by
  have h:a0g (fun i=>dec m t fun j=>rd (i*t.cells+j)) n 0=some (x,O,R):=h;obtain⟨R',h1,h2⟩:=b5F (f':=fun i=>dec m t.sh fun j=>rd (i*t.cells+j)) (c:=t.shx) n 0 h (fun j x o r _ _ h=>a7V t h);refine⟨R',?_,h2⟩;refine Eq.trans ?_ (congrArg (fun z:List t.sh.den=>some (z,([]:a1g),R')) (Ty.shx_arr n t x).symm);show a0g (fun i=>dec m t.sh fun j=>rd (i*t.sh.cells+j)) n 0=_;simp_all[Ty.cells_sh]
 |.list o t,rd,x,O,R,h=>by
  have h:a1j m o t.cells (dec m t) (rd 0)=some (x,O,R):=h;obtain⟨R',h1,h2⟩:=d6D (f':=dec m t.sh) (c:=t.shx) h (fun rd x o r h=>a7V t h);refine⟨R',?_,h2⟩;refine Eq.trans ?_ (congrArg (fun z:List t.sh.den=>some (z,([]:a1g),R')) (Ty.shx_list o t x).symm);show a1j m false t.sh.cells (dec m t.sh) (rd 0)=_;simp_all[Ty.cells_sh]

 |.nl t,rd,x,O,R,h=>by
  obtain⟨hv,rfl,rfl,rfl⟩:=c1d h;refine⟨[],?_,by simp⟩;refine Eq.trans ?_ (congrArg (fun z:List t.sh.den=>some (z,([]:a1g),([]:List Nat))) (c3Q (Ty.den_sh t).symm _).symm);show a1j m false t.sh.cells (dec m t.sh) (rd 0)=_;rw[hv];rfl
theorem Ty.cells_shn:(t:Ty)→t.shn.cells=t.cells
 |.int _|.bool|.str|.unit|.list _ _|.nl _=>rfl
 |.pair a b=>by simp only[Ty.shn,Ty.cells,Ty.cells_shn a,Ty.cells_shn b]
 |.arr n t=>by simp only[Ty.shn,Ty.cells,Ty.cells_sh t]
theorem b8N{m:Mem}:∀(t:Ty){rd:Nat→Option Value}{x O R},dec m t rd=some (x,O,R)→∃R',dec m t.shn rd=some (t.shnx x,[],R')∧∀c∈R',c∈O.map (·.1)∨c∈R
 |.int k,rd,x,O,R,h=>a7V (.int k) h
 |.bool,rd,x,O,R,h=>a7V .bool h
 |.str,rd,x,O,R,h=>a7V .str h
 |.unit,rd,x,O,R,h=>a7V .unit h
 |.arr n t,rd,x,O,R,h=>a7V (.arr n t) h
 |.list o t,rd,x,O,R,h=>a7V (.list o t) h
 |.nl t,rd,x,O,R,h=>by
  obtain⟨hv,rfl,rfl,rfl⟩:=c1d h;refine⟨[],?_,by simp⟩;refine Eq.trans ?_ (congrArg (fun z:List t.sh.den=>some (z,([]:a1g),([]:List Nat))) (c3Q (Ty.den_sh t).symm _).symm);show(match rd 0 with|some (.slice none 0 0)=>some (([]:List t.sh.den),([]:a1g),([]:List Nat))|_=>none)=_;simp_all
 |.pair a b,rd,x,O,R,h=>by
  obtain⟨x1,o1,r1,x2,o2,r2,h1,h2,rfl,rfl,rfl⟩:=a2s h;obtain⟨R1,h3,h4⟩:=b8N a h1;obtain⟨R2,h5,h6⟩:=b8N b h2;refine⟨R1++R2,?_,fun c hc=>?_⟩;rw[show(Ty.pair a b).shnx (x1,x2)=(a.shnx x1,b.shnx x2)from c1e _ _ _ (x1,x2)];rw[←Ty.cells_shn a]at h5;exact a9e h3 h5;simp only[pA,mA]at hc⊢;rcases hc with hc|hc;exact(h4 c hc).imp .inl .inl;exact(h6 c hc).imp .inr .inr
theorem Ty.le_cells:∀(a b:Ty),a.le b=true→a.cells=b.cells
 |.nl a,.list o b,_=>rfl
 |.pair a b,.pair a' b',h=>by
  simp[Ty.le]at h;simp only[Ty.cells,Ty.le_cells a a' h.1,Ty.le_cells b b' h.2]
 |.nl a,.nl b,_=>rfl
 |.nl a,.int _,h|.nl a,.bool,h|.nl a,.str,h|.nl a,.unit,h|.nl a,.pair _ _,h|.nl a,.arr _ _,h=>by simp[Ty.le]at h
 |.pair a b,.int _,h|.pair a b,.bool,h|.pair a b,.str,h|.pair a b,.unit,h|.pair a b,.arr _ _,h|.pair a b,.list _ _,h|.pair a b,.nl _,h=>by simp[Ty.le]at h
 |.int _,b,h|.bool,b,h|.str,b,h|.unit,b,h|.list _ _,b,h|.arr _ _,b,h=>by
  simp only[Ty.le,dT]at h;rw[h]
theorem c8v{m:Mem}:∀(a b:Ty)(h:a.le b=true){rd:Nat→Option Value}{x R},dec m a rd=some (x,[],R)→dec m b rd=some (cast (Ty.le_den a b h) x,[],R)
 |.nl a,.list o b,h,rd,x,R,hd=>by
  obtain⟨hv,rfl,-,rfl⟩:=c1d hd;have e:a.den=b.den:=by
   simp[Ty.le]at h
   grind[Ty.den_sh]
  refine Eq.trans ?_ (congrArg (fun z:List b.den=>some (z,([]:a1g),([]:List Nat))) (c3Q e _).symm)
  grind[a1j,dec]
 |.pair a b,.pair a' b',h,rd,x,R,hd=>by
  have h':=h;simp[Ty.le]at h';obtain⟨x1,o1,r1,x2,o2,r2,h1,h2,rfl,e,rfl⟩:=a2s hd;obtain⟨rfl,rfl⟩:=a24.1 e.symm;have g1:=c8v a a' h'.1 h1;have g2:=c8v b b' h'.2 h2;rw[Ty.le_cells a a' h'.1]at g2;exact(a9e g1 g2).trans (congrArg (fun z:a'.den×b'.den=>some (z,([]:a1g),r1++r2)) (c1e (Ty.le_den a a' h'.1) (Ty.le_den b b' h'.2) _ (x1,x2)).symm)
 |.nl a,.nl b,h,rd,x,R,hd=>by
  simp only[Ty.le,dT]at h
  grind
 |.nl a,.int _,h,_,_,_,_|.nl a,.bool,h,_,_,_,_|.nl a,.str,h,_,_,_,_|.nl a,.unit,h,_,_,_,_|.nl a,.pair _ _,h,_,_,_,_|.nl a,.arr _ _,h,_,_,_,_=>by simp[Ty.le]at h
 |.pair a b,.int _,h,_,_,_,_|.pair a b,.bool,h,_,_,_,_|.pair a b,.str,h,_,_,_,_|.pair a b,.unit,h,_,_,_,_|.pair a b,.arr _ _,h,_,_,_,_|.pair a b,.list _ _,h,_,_,_,_|.pair a b,.nl _,h,_,_,_,_=>by simp[Ty.le]at h
 |.int _,b,h,rd,x,R,hd|.bool,b,h,rd,x,R,hd|.str,b,h,rd,x,R,hd|.unit,b,h,rd,x,R,hd|.list _ _,b,h,rd,x,R,hd|.arr _ _,b,h,rd,x,R,hd=>by
  simp only[Ty.le,dT]at h;cases h;exact hd
theorem d0X{m:Mem}{e:Ty}{a:Option Addr}{l c off len:Nat}{x:List e.den}{O R}(h:dec m (.list true e) ((Src.one (.slice a l c)).rd m)=some (x,O,R))(hlen:off+len≤l)
  {a':Option Addr}(ha':∀A,a'=some A→c=off∨A.spot=none)(hoff:c=off∨a'=a.map fun A=>A.add (off*e.cells)):
  ∃R',dec m (.list false e.sh) ((Src.one (.slice a' len (c-off))).rd m)=some (Ty.shx (.list false e) ((x.drop off).take len),[],R')∧∀b∈R',b∈O.map (·.1)∨b∈R:=by
 rw[Ty.shx_list];rcases a1W h with⟨hv,rfl,rfl,rfl⟩|⟨A,n,c',os,hv,hA,hn,hx,ho⟩
 ·simp[Src.rd]at hv;obtain⟨rfl,rfl,rfl⟩:=hv;obtain rfl:off=0:=by omega
  obtain rfl:len=0:=by omega
  refine⟨[],?_,by simp⟩;show a1j m false e.sh.cells (dec m e.sh) (some (.slice a' 0 0))=_;cases a' with
  |none=>rfl
  |some A=>rfl
 ·simp[Src.rd]at hv;obtain⟨rfl,rfl,rfl⟩:=hv;have hxl:=a0W l 0 hx
  by_cases hl0:len=0
  ·subst hl0;refine⟨[],?_,by simp⟩;show a1j m false e.sh.cells (dec m e.sh) (some (.slice a' 0 (c-off)))=_;cases a' with
   |none=>
    rcases hoff with g|g;simp[a1j,g];rfl;simp_all
   |some A'=>
    have hs:c-off=0∨A'.spot=none:=(ha' A' rfl).imp (fun h=>by omega) id;simp[a1j,hs,a0g];rfl
  ·have hA:A.spot=none:=hA.resolve_left (by omega);have hoff':a'=some (A.add (off*e.cells)):=by
    grind
   have hadd:(A.add (off*e.cells)).block=A.block∧(A.add (off*e.cells)).off=A.off+off*e.cells∧(A.add (off*e.cells)).spot=none:=by
    grind[Addr.add]
   have e1:l=off+(len+(l-off-len)):=by omega
   rw[e1]at hx;obtain⟨os1,rs1,os2,rs2,h1,h2,rfl,rfl⟩:=a4W off (len+(l-off-len)) 0 hx;obtain⟨os3,rs3,os4,rs4,h3,h4,rfl,rfl⟩:=a4W len (l-off-len) (0+off) h2;obtain⟨R',h5,h6⟩:=b5F (f':=fun i=>dec m e.sh ((Src.at A.block (A.off+i*e.cells)).rd m)) (c:=e.shx) len (0+off) h3 (fun j x o r _ _ h=>a7V e h);have hshift:∀(k i:Nat),a0g (fun i=>dec m e.sh fun j=>m A.block (A.off+off*e.cells+(i*e.cells+j))) k i=a0g (fun i=>dec m e.sh ((Src.at A.block (A.off+i*e.cells)).rd m)) k (off+i):=by
    intro k
    induction k with
    |zero=>intro i;rfl
    |succ k ih=>
     intro i;simp[a0g];rw[ih (i+1)]
     have:(fun j=>m A.block (A.off+off*e.cells+(i*e.cells+j)))=(Src.at A.block (A.off+(off+i)*e.cells)).rd m:=by
      grind[Src.rd]
     grind
   have hmem:∀b,b∈R'→b∈O.map (·.1)∨b∈rs1++(rs3++rs4):=fun b hb=>by
    grind
   refine⟨A.block::R',?_,fun b hb=>?_⟩;show a1j m false e.sh.cells (dec m e.sh) (some (.slice a' len (c-off)))=_;subst hoff';simp only[a1j,hadd,Ty.cells_sh];rw[if_pos ⟨.inr trivial,by omega⟩,hshift,show off+0=0+off from by omega,h5];simp[hl0];rfl
   grind
theorem Rel.gone{B Γ N tm w σ}(h:Rel B Γ N tm w σ){n:Nat}(hpd:∀p d,Γ.pd≠some (n,p,d)){f:AV→AV}
  (hf:∀a v,a0j (a0a w σ.ov) σ.g Γ.rt (Shr B w σ) a v→a0j (a0a w σ.ov) σ.g (fun j=>bif j==n then none else Γ.rt j)
   (Shr B w ⟨σ.g,fun m=>if m=n then[]else σ.ow m,σ.ov⟩) (f a) v):
  Rel B ((Γ.mapv f).setRt n none) N tm w ⟨σ.g,fun m=>if m=n then[]else σ.ow m,σ.ov⟩:=by
 have hsub:∀m c,c∈(if m=n then[]else σ.ow m).map (·.1)→c∈(σ.ow m).map (·.1):=fun m c hc=>by
  simp_all
 have hsh:∀c,Shr B w σ c→Shr B w ⟨σ.g,fun m=>if m=n then[]else σ.ow m,σ.ov⟩ c:=fun c ⟨g1,g2,g3⟩=>
  ⟨g1,g2,fun⟨m,hm⟩=>g3 ⟨m,hsub m c hm⟩⟩
 refine⟨fun m r hr=>?_,fun m hm=>?_,fun m=>?_,fun m m' hmm c hc=>?_,fun m p hp=>?_,fun i hi=>(h.slots i hi).mapv hf,?_,h.size,h.frame,fun c ⟨m,hm⟩=>h.mine c ⟨m,hsub m c hm⟩,fun i b hb hne=>h.pins i b hb fun e=>hne (by simp_all[AE.setRt,AE.mapv]),h.still⟩;have hm:m≠n:=by rintro rfl;simp[AE.setRt]at hr
 have hm':(m==n)=false:=by simp_all
 have hr':Γ.rt m=some r:=by simp_all[AE.setRt,AE.mapv]
 obtain⟨O',R,g1,g2,g3⟩:=(h.roots m r hr').rd;refine⟨O',R,g1,fun c hc=>hsh c (g2 c hc),?_⟩;simp_all;show(if m=n then[]else σ.ow m)=[]
 split;rfl;rename_i hmn;have hm':(m==n)=false:=by simp_all
 exact h.norm m (by simp_all[AE.setRt,AE.mapv]);show((if m=n then[]else σ.ow m).map (·.1)).Nodup
 split
 simp
 exact h.nodup m;exact fun hc'=>h.disj m m' hmm c (hsub m c hc) (hsub m' c hc');have hp:p∈(if m=n then[]else σ.ow m):=hp
 split at hp
 simp_all;exact h.live m p hp;refine h.pend.mono fun n' p' d' r' e' b' o' hpd' hr' hp'=>?_
 have hnn:n'≠n:=fun e=>hpd p' d' (by simp_all);have e'':(n'==n)=false:=by simp_all
 exact⟨r',by simpa[AE.setRt,e'',AE.mapv]using hr',hp'⟩
theorem a0j.other{m:Mem}{g g':Nat→Src}{rt rt':Nat→Option Root}{Sh Sh':Nat→Prop}{n:Nat}{a:AV}{v:Value}(h:a0j m g rt Sh a v)(hs:∀c,Sh c→Sh' c)
  (hrt:∀k,k≠n→rt' k=rt k)(hg:∀k,k≠n→g' k=g k)(ha:∀k q,(a=.ptr k q∨a=.sref k q∨∃o l,a=.swin k q o l)→k≠n):a0j m g' rt' Sh' a v:=
 h.frame (fun _ _ _=>rfl) hs fun k q r t s hc hr hl=>⟨r,by grind,by grind,fun _ _ hu=>hu⟩
theorem Rel.shr_gone{B w}{σ:Gh}{n:Nat}(c:Nat)(h:Shr B w σ c):Shr B w ⟨σ.g,fun m=>if m=n then[]else σ.ow m,σ.ov⟩ c:=
 ⟨h.1,h.2.1,fun⟨m,hm⟩=>h.2.2 ⟨m,by
  simp_all⟩⟩
theorem c2E{Γ:AE}{n k:Nat}(h:k≠n)(x:Option Root):(bif k==n then x else Γ.rt k)=Γ.rt k:=by
 grind
theorem Rel.drop{B Γ N tm w σ}(h:Rel B Γ N tm w σ){n:Nat}(hpd:∀p d,Γ.pd≠some (n,p,d)):
  Rel B ((Γ.mapv (AV.drop n)).setRt n none) N tm w ⟨σ.g,fun m=>if m=n then[]else σ.ow m,σ.ov⟩:=by
 refine h.gone hpd fun a v ha=>?_
 by_cases hd:AV.drop n a=.dead
 rw[hd];trivial
 ·have hk:AV.drop n a=a∧∀k q,(a=.ptr k q∨a=.sref k q∨∃o l,a=.swin k q o l)→k≠n:=by
   cases a<;>simp only[AV.drop]at hd⊢<;>try (refine⟨trivial,?_⟩;rintro k q (h|h|⟨o,l,h⟩)<;>cases h)
   all_goals simp_all
  rw[hk.1];exact ha.other (fun c hc=>Rel.shr_gone c hc) (fun k hk=>c2E hk _) (fun _ _=>rfl) hk.2
theorem Rel.frzBox{B Γ N tm w σ}(h:Rel B Γ N tm w σ){n:Nat}{r:Root}(hr:Γ.rt n=some r)(hbx:r.bx=true)(hpd:Γ.pd=none):
  ∃b,σ.g n=.at b 0∧Rel B ((Γ.mapv (AV.deeps [n] [])).setRt n (some ⟨true,r.t.shn,Ty.shnx r.t r.x⟩)) N tm w ⟨σ.g,fun m=>if m=n then[(b,r.t.cells)]else σ.ow m,σ.ov⟩:=by
 obtain⟨O',R,h1,h2,h6⟩:=(h.roots n r hr).rd;rcases h6 with⟨-,b,hg,ho⟩|⟨g,-⟩
 ·refine⟨b,hg,?_⟩;have hsub:∀m c,c∈(if m=n then[(b,r.t.cells)]else σ.ow m).map (·.1)→c∈(σ.ow m).map (·.1):=fun m c hc=>by
   grind
  have hsh:∀c,Shr B w σ c→Shr B w ⟨σ.g,fun m=>if m=n then[(b,r.t.cells)]else σ.ow m,σ.ov⟩ c:=fun c ⟨g1,g2,g3⟩=>
   ⟨g1,g2,fun⟨m,hm⟩=>g3 ⟨m,hsub m c hm⟩⟩
  have hrt:∀k,k≠n→((Γ.mapv (AV.deeps [n] [])).setRt n (some ⟨true,r.t.shn,Ty.shnx r.t r.x⟩)).rt k=Γ.rt k:=fun k hk=>c2E hk _;have hrn:((Γ.mapv (AV.deeps [n] [])).setRt n (some ⟨true,r.t.shn,Ty.shnx r.t r.x⟩)).rt n=some ⟨true,r.t.shn,Ty.shnx r.t r.x⟩:=by simp[AE.setRt]
  obtain⟨R2,k1,k2⟩:=b8N _ h1;refine⟨fun m r' hr'=>?_,fun m hm=>?_,fun m=>?_,fun m m' hmm c hc=>?_,fun m p hp=>?_,fun i hi=>(h.slots i hi).mapv fun a v ha=>?_,?_,h.size,h.frame,fun c ⟨m,hm⟩=>h.mine c ⟨m,hsub m c hm⟩,fun i b' hb hne=>h.pins i b' hb fun e=>?_,h.still⟩
  by_cases hm:m=n
  subst hm;rw[hrn]at hr';simp at hr';subst hr';refine⟨[],R2,k1,fun c hc=>?_,.inl ⟨rfl,b,hg,by simp[Ty.cells_shn]⟩⟩;rcases k2 c hc with g|g;have hc':c∈(σ.ow m).map (·.1):=by simp_all
  have hown:a0P σ c:=⟨m,hc'⟩;refine⟨h.lt hown,.inr (h.mine c hown),fun⟨m',hm'⟩=>?_⟩;have hm':c∈(if m'=m then[(b,r.t.cells)]else σ.ow m').map (·.1):=hm'
  split at hm'
  simp at hm';have hnd:=h.nodup m;simp_all;rename_i hmn;exact h.disj m' m hmn c hm' hc';simp_all;rw[hrt m hm]at hr';obtain⟨O2,R3,g1,g2,g3⟩:=(h.roots m r' hr').rd;refine⟨O2,R3,g1,fun c hc=>hsh c (g2 c hc),?_⟩;simp_all;show(if m=n then[(b,r.t.cells)]else σ.ow m)=[]
  have hm':m≠n:=by grind
  rw[if_neg hm'];rw[hrt m hm']at hm;exact h.norm m hm;show((if m=n then[(b,r.t.cells)]else σ.ow m).map (·.1)).Nodup
  split
  simp
  exact h.nodup m;exact fun hc'=>h.disj m m' hmm c (hsub m c hc) (hsub m' c hc');have hp2:p∈(if m=n then[(b,r.t.cells)]else σ.ow m):=hp
  split at hp2
  rename_i e;subst e;refine h.live m p ?_
  simp_all;exact h.live m p hp2
  ·have hother:∀b',(∀k q,(b'=.ptr k q∨b'=.sref k q∨∃o l,b'=.swin k q o l)→k≠n)→a0j (a0a w σ.ov) σ.g Γ.rt (Shr B w σ) b' v→
     a0j (a0a w σ.ov) σ.g (fun j=>bif j==n then some ⟨true,r.t.shn,Ty.shnx r.t r.x⟩else Γ.rt j) (Shr B w ⟨σ.g,fun m=>if m=n then[(b,r.t.cells)]else σ.ow m,σ.ov⟩) b' v:=fun b' hk hb=>
    hb.other hsh (fun k hk=>c2E hk _) (fun _ _=>rfl) hk
   have a1v:∀m:Nat,[n].contains m=(m==n):=fun m=>by grind
   cases a with
   |dead=>trivial
   |val t x=>exact hother _ (by rintro k q (h|h|⟨o,l,h⟩)<;>cases h) ha
   |skp=>exact ha
   |nils=>exact ha
   |empt=>exact ha
   |nilp=>exact ha
   |glob g=>exact ha
   |vptr t x=>exact hother (.vptr t x) (by simp) ha
   |ptr m q=>
    simp only[AV.deeps,a1v];split
    ·rename_i hm;have hm:m=n:=by simp_all
     subst hm;cases q with
     |nil=>
      obtain⟨r',t',b',o',p1,p2,p3⟩:=ha;rw[hr]at p1;simp at p1;subst p1;simp[a0V]at p2;obtain⟨-,p2⟩:=p2;exact⟨⟨true,r.t.shn,Ty.shnx r.t r.x⟩,r.t.shn,b',o',hrn,by show some (r.t.shn,σ.g m)=_;grind,p3⟩
     |cons=>trivial
    rename_i hm;exact hother _ (by simp_all) ha
   |sref m q=>
    simp only[AV.deeps,a1v];split;cases q<;>exact True.intro;rename_i hm;exact hother _ (by simp_all) ha
   |swin m q o l=>
    simp only[AV.deeps,a1v];split;trivial;rename_i hm;exact hother _ (by simp_all) ha
  ·have hp:=h.pend;show b2x _ _ _ Γ.pd σ.ov;rw[hpd]at hp⊢;cases hov:σ.ov with
   |none=>trivial
   |some y=>rw[hov]at hp;exact hp.elim
  grind
 simp_all
theorem Rel.frz{B Γ N tm w σ}(h:Rel B Γ N tm w σ){n:Nat}{e:Ty}{l:List e.den}(hr:Γ.rt n=some ⟨false,.list true e,l⟩)(hpd:∀p d,Γ.pd≠some (n,p,d)):
  Rel B ((Γ.mapv (AV.frz n e l)).setRt n none) N tm w ⟨σ.g,fun m=>if m=n then[]else σ.ow m,σ.ov⟩:=by
 obtain⟨O',R,h1,h2,h3,h4,h5,h6⟩:=h.sep hr;rcases h6 with⟨g,-⟩|⟨-,⟨v0,hv0⟩,-,ho⟩
 grind
 refine h.gone hpd fun a v ha=>?_
 have hshO:∀c,c∈O'.map (·.1)∨c∈R→Shr B w ⟨σ.g,fun m=>if m=n then[]else σ.ow m,σ.ov⟩ c:=by
  rintro c (hc|hc)
  have hown:a0P σ c:=⟨n,h4 c hc⟩;refine⟨h.lt hown,.inr (h.mine c hown),fun⟨m,hm⟩=>?_⟩;have hm:c∈(if m=n then[]else σ.ow m).map (·.1):=hm
  split at hm
  simp_all;rename_i hmn;exact h.disj m n hmn c hm (h4 c hc);simp_all[Rel.shr_gone]
 have hother:∀b,(∀k q,(b=.ptr k q∨b=.sref k q∨∃o l,b=.swin k q o l)→k≠n)→a0j (a0a w σ.ov) σ.g Γ.rt (Shr B w σ) b v→
   a0j (a0a w σ.ov) σ.g (fun j=>bif j==n then none else Γ.rt j) (Shr B w ⟨σ.g,fun m=>if m=n then[]else σ.ow m,σ.ov⟩) b v:=fun b hk hb=>
  hb.other (fun c hc=>Rel.shr_gone c hc) (fun k hk=>c2E hk _) (fun _ _=>rfl) hk
 cases a with
 |dead=>trivial
 |val t x=>exact hother _ (by rintro k q (h|h|⟨o,l,h⟩)<;>cases h) ha
 |skp=>exact ha
 |nils=>exact ha
 |empt=>exact ha
 |nilp=>exact ha
 |glob g=>exact ha
 |vptr t x=>exact hother (.vptr t x) (by simp) ha
 |ptr m q=>
  simp only[AV.frz];split;trivial;simp_all
 |sref m q=>
  simp only[AV.frz];split
  ·rename_i hm;obtain rfl:m=n:=by simp_all
   cases q with
   |cons=>trivial
   |nil=>
    obtain⟨r,e',s,k1,k2,k3⟩:=ha;rw[hr]at k1;simp at k1;subst k1;simp only[loc,a0V,sj,pJ]at k2;obtain⟨-,rfl⟩:=k2;rw[hv0]at h1 k3;simp[Src.rd]at k3;subst k3;obtain⟨R',g1,g2⟩:=a7V _ h1;refine⟨by simp[Ty.isAgg],fun _=>?_,R',?_,fun c hc=>hshO c (g2 c hc)⟩;rcases a1W h1 with⟨hv,-⟩|⟨A,nn,c',os,hv,-⟩<;>simp only[Src.rd,if_true,sj]at hv<;>rw[hv]<;>rfl
    have:a1v v0=true:=by
     rcases a1W h1 with⟨hv,-⟩|⟨A,nn,c',os,hv,-⟩<;>simp only[Src.rd,if_true,sj]at hv<;>rw[hv]<;>rfl
    refine a0x _ g1 (fun j hj=>?_) (fun _ _ _=>rfl);have hj0:j=0:=by simp_all[Ty.cells]
    subst hj0;cases v0<;>simp[a1v]at this<;>simp[Value.cells,Src.rd]
  simp_all
 |swin m q o k=>
  simp only[AV.frz];split
  ·rename_i hm;obtain rfl:m=n:=by simp_all
   cases q with
   |cons=>trivial
   |nil=>
    obtain⟨r,e',s,a,l',c,k1,k2,k3,k4,a',k5,k6,k7⟩:=ha;rw[hr]at k1;simp at k1;subst k1;simp[a0V]at k2;obtain⟨rfl,rfl⟩:=k2;rw[hv0]at h1 k3;simp[Src.rd]at k3;subst k3 k5;obtain⟨R',g1,g2⟩:=d0X h1 k4 k6 k7;refine⟨by simp[Ty.isAgg],fun _=>rfl,R',?_,fun c hc=>hshO c (g2 c hc)⟩;refine a0x _ g1 (fun j hj=>?_) (fun _ _ _=>rfl);simp_all[Ty.cells,Value.cells,Src.rd]
  simp_all
end Go.Ab
namespace Go.Ab
theorem Rel.room{B Γ N tm w σ}(h:Rel B Γ N tm w σ){n r p t b o}(hr:Γ.rt n=some r)(hl:loc (a0a w σ.ov) r.t (σ.g n) p=some (t,.at b o)):a0Z w b (o+t.cells):=by
 obtain⟨O',R,h1,h2,h3,h4,h5,h6⟩:=h.sep hr;rcases b3I p r.t _ h1 hl with⟨so,g1,g2,g3⟩|⟨k,g1,g2⟩;rcases h6 with⟨-,b0,hs,ho⟩|⟨-,⟨v,hs⟩,-⟩;rw[hs]at g1;simp at g1;obtain⟨rfl,rfl⟩:=g1;exact(h.live n (b0,r.t.cells) (by simp_all)).mono (by omega);simp_all;refine(h.live n (b,k) ?_).mono g2
 grind
theorem a0Z.cell{w:World}{b k o:Nat}(h:a0Z w b k)(ho:o<k):(w.cell? ⟨b,o,none⟩).isSome=true∧w.frozen? ⟨b,o,none⟩=false:=by
 obtain⟨c,e,lo,hi,h1,h2,h3⟩:=h
 grind[World.cell?,World.frozen?]
theorem a9J(w:World)(a:Addr)(v:Value)(b:Nat):(w.setCell a v).heap[b]?=if b=a.block then(w.heap[b]?).map (fun
   |.cells c elem frozen=>.cells (if a.spot.isSome then c else c.setIfInBounds a.off v) elem frozen
   |o=>o)else w.heap[b]?:=by
 simp[World.setCell,Array.getElem?_modify]
 grind
theorem a0Z.setCell{w:World}{b k:Nat}(h:a0Z w b k)(a:Addr)(v:Value):a0Z (w.setCell a v) b k:=by
 obtain⟨c,e,lo,hi,h1,h2,h3⟩:=h;unfold a0Z;rw[a9J]
 grind
theorem Rel.rename{B Γ N tm w σ}(h:Rel B Γ N tm w σ){r d:Nat}{root:Root}(hr:Γ.rt r=some root)(hd:Γ.rt d=none)(hdp:∀i b,d=pinned+i→B.pin i≠some b)(hpd:∀p k,Γ.pd≠some (r,p,k)):
  Rel B (((Γ.mapv (AV.ren r d)).setRt r none).setRt d (some root)) N tm w ⟨fun m=>if m=d then σ.g r else σ.g m,fun m=>if m=d then σ.ow r else if m=r then[]else σ.ow m,σ.ov⟩:=by
 have hrd:r≠d:=by grind
 have hod:σ.ow d=[]:=h.norm d hd
 let ow':Nat→a1g:=fun m=>if m=d then σ.ow r else if m=r then[]else σ.ow m
 have hown:∀c,a0P ⟨fun m=>if m=d then σ.g r else σ.g m,ow',σ.ov⟩ c↔a0P σ c:=by
  intro c;constructor
  rintro⟨m,hm⟩
  have hm:c∈(ow' m).map (·.1):=hm;simp only[ow']at hm
  split at hm
  exact⟨r,hm⟩
  split at hm
  simp_all;exact⟨m,hm⟩
  rintro⟨m,hm⟩
  by_cases e:m=r
  subst e;exact⟨d,by grind⟩
  by_cases e':m=d
  simp_all;refine⟨m,?_⟩
  grind
 have hsh:∀c,Shr B w σ c↔Shr B w ⟨fun m=>if m=d then σ.g r else σ.g m,ow',σ.ov⟩ c:=fun c=>by unfold Shr;grind
 have hrt:∀m,(((Γ.mapv (AV.ren r d)).setRt r none).setRt d (some root)).rt m=if m=d then some root else if m=r then none else Γ.rt m:=by
  intro m;simp only[AE.setRt,AE.mapv]
  grind
 refine⟨fun m rm hm=>?_,fun m hm=>?_,fun m=>?_,fun m m' hmm c hc hc'=>?_,fun m p hp=>?_,fun i hi=>?_,?_,h.size,h.frame,fun c hc=>h.mine c ((hown c).1 hc),fun i b hb hne=>?_,h.still⟩;rw[hrt]at hm
 by_cases e:m=d
 subst e;simp at hm;subst hm;obtain⟨O',R,g1,g2,g3⟩:=(h.roots r root hr).rd;exact⟨O',R,by simp_all,fun c hc=>(hsh c).1 (g2 c hc),by simp_all⟩;rw[if_neg e]at hm
 by_cases e':m=r
 simp_all;rw[if_neg e']at hm;obtain⟨O',R,g1,g2,g3⟩:=(h.roots m rm hm).rd;exact⟨O',R,by simp_all,fun c hc=>(hsh c).1 (g2 c hc),by simp_all⟩;show(if m=d then σ.ow r else if m=r then[]else σ.ow m)=[]
 rw[hrt]at hm
 by_cases e:m=d
 simp_all;rw[if_neg e]at hm⊢
 by_cases e':m=r
 grind
 rw[if_neg e']at hm⊢;exact h.norm m hm;show((ow' m).map (·.1)).Nodup;simp[ow'];split;exact h.nodup r;split
 simp
 exact h.nodup m;have hc:c∈(ow' m).map (·.1):=hc;have hc':c∈(ow' m').map (·.1):=hc';simp only[ow']at hc hc'
 by_cases e:m=d
 subst e;rw[if_pos rfl]at hc;rw[if_neg (Ne.symm hmm)]at hc'
 split at hc'
 simp_all;rename_i e1;exact h.disj r m' (Ne.symm e1) c hc hc';rw[if_neg e]at hc
 split at hc
 simp_all;rename_i e1
 split at hc'
 exact h.disj m r e1 c hc hc'
 split at hc'
 simp_all;exact h.disj m m' hmm c hc hc';have hp:p∈ow' m:=hp;simp[ow']at hp
 split at hp
 exact h.live r p hp
 split at hp
 simp_all;exact h.live m p hp
 ·refine(h.slots i hi).mapv fun a v ha=>?_
  have key:∀k q (b:AV),(b=.ptr k q∨b=.sref k q∨∃o l,b=.swin k q o l)→True:=fun _ _ _ _=>trivial;have other:(∀k q,(a=.ptr k q∨a=.sref k q∨∃o l,a=.swin k q o l)→k≠r)→a0j (a0a w σ.ov) (fun m=>if m=d then σ.g r else σ.g m) (((Γ.mapv (AV.ren r d)).setRt r none).setRt d (some root)).rt
    (Shr B w ⟨fun m=>if m=d then σ.g r else σ.g m,ow',σ.ov⟩) a v:=fun hne=>
   ha.frame (fun _ _ _=>rfl) (fun c hc=>(hsh c).1 hc) fun k q rk t s hc hk hl=>by
    grind
  cases a with
  |ptr k q=>
   simp only[AV.ren];split;rename_i e;obtain rfl:k=r:=by simp_all
   obtain⟨rk,t,b,o,h1,h2,h3⟩:=ha;rw[hr]at h1;simp at h1;subst h1;exact⟨root,t,b,o,by simp_all,by simp_all,h3⟩
   grind
  |sref k q=>
   simp only[AV.ren];split;rename_i e;obtain rfl:k=r:=by simp_all
   obtain⟨rk,e,s,h1,h2,h3⟩:=ha;rw[hr]at h1;simp at h1;subst h1;exact⟨root,e,s,by simp_all,by simp_all,h3⟩
   grind
  |swin k q o l=>
   simp only[AV.ren];split;rename_i e;obtain rfl:k=r:=by simp_all
   obtain⟨rk,e,s,a,l',c,h1,h2,h3,h4⟩:=ha;rw[hr]at h1;simp at h1;subst h1;exact⟨root,e,s,a,l',c,by simp_all,by simp_all,h3,h4⟩
   grind
  |dead=>trivial
  |skp=>exact ha
  |nils=>exact ha
  |empt=>exact ha
  |nilp=>exact ha
  |glob g=>exact ha
  |val t x=>exact other (by simp)
  |vptr t x=>exact other (by simp)
 refine h.pend.mono fun n p k r' e b o hpd' hr' hp'=>?_
 grind
 rw[hrt]at hne;have hid:pinned+i≠d:=fun e=>hdp i b e.symm hb;rw[if_neg hid]at hne;show(if pinned+i=d then σ.g r else σ.g (pinned+i))=_
 rw[if_neg hid]
 by_cases e':pinned+i=r
 simp_all;rw[if_neg e']at hne;exact h.pins i b hb hne
theorem Rel.ext{B Γ N tm w σ}(h:Rel B Γ N tm w σ){w':World}(hext:∀c,c<w.heap.size→w'.heap[c]?=w.heap[c]?)(hsz:w.heap.size≤w'.heap.size)(hio:a2n w'=a2n w:=by first|rfl|assumption):Rel B Γ N tm w' σ:=by
 refine h.mem (fun c j hc=>a1s _ (hext c ?_) j) (fun n p hp=>?_) hsz (fun b hb hF=>?_);rcases hc with hc|hc;exact h.lt hc;exact hc.1;obtain⟨c,e,lo,hi,h1,h2,h3⟩:=h.live n p hp;exact⟨c,e,lo,hi,by grind,h2,h3⟩;rw[hext b (a06 hb h.size)];exact h.frame b hb hF
theorem Rel.add{B Γ N tm w σ}(h:Rel B Γ N tm w σ){n:Nat}(hn:Γ.rt n=none)(hnp:n<pinned){w':World}(hext:∀c,c<w.heap.size→w'.heap[c]?=w.heap[c]?)(hsz:w.heap.size≤w'.heap.size)
  {r:Root}{s:Src}{O:a1g}(hO:∀c∈O.map (·.1),w.heap.size≤c)(hOn:(O.map (·.1)).Nodup)(hOl:∀p∈O,a0Z w' p.1 p.2)(hok:RootOk (a0a w' σ.ov) (Shr B w σ) r s O)(hio:a2n w'=a2n w:=by first|rfl|assumption):
  Rel B (Γ.setRt n (some r)) N tm w' ⟨fun m=>if m=n then s else σ.g m,fun m=>if m=n then O else σ.ow m,σ.ov⟩:=by
 have h':=h.ext hext hsz
 let ow':Nat→a1g:=fun m=>if m=n then O else σ.ow m
 have hown:∀c,a0P ⟨fun m=>if m=n then s else σ.g m,ow',σ.ov⟩ c→a0P σ c∨c∈O.map (·.1):=by
  rintro c ⟨m,hm⟩
  have hm:c∈(ow' m).map (·.1):=hm;simp only[ow']at hm
  split at hm
  simp_all;exact .inl ⟨m,hm⟩
 have hsh:∀c,Shr B w σ c→Shr B w' ⟨fun m=>if m=n then s else σ.g m,ow',σ.ov⟩ c:=fun c ⟨g1,g2,g3⟩=>⟨a06 g1 hsz,g2,fun g4=>by
  grind⟩
 have hsame:∀c j,Shr B w σ c→a0a w' σ.ov c j=a0a w σ.ov c j:=fun c j hc=>a1s _ (hext c hc.1) j;have hrt:∀m,(Γ.setRt n (some r)).rt m=if m=n then some r else Γ.rt m:=by
  simp_all[AE.setRt]
 refine⟨fun m rm hm=>?_,fun m hm=>?_,fun m=>?_,fun m m' hmm c hc hc'=>?_,fun m p hp=>?_,fun i hi=>?_,?_,h'.size,h'.frame,fun c hc=>?_,fun i b hb hne=>?_,h'.still⟩
 ·rw[hrt]at hm
  by_cases e:m=n
  subst e;simp at hm;subst hm;obtain⟨O',R,g1,g2,g3⟩:=hok.rd;exact⟨O',R,by simp_all,fun c hc=>hsh c (g2 c hc),by simp_all⟩
  ·rw[if_neg e]at hm;obtain⟨O',R,g1,g2,g3⟩:=(h'.roots m rm hm).rd;obtain⟨O1,R1,k1,k2,-⟩:=(h.roots m rm hm).rd;refine⟨O',R,by simp_all,fun c hc=>?_,by simp_all⟩
   have:=g2 c hc
   refine⟨this.1,this.2.1,fun g4=>?_⟩;rcases hown c g4 with g|g;exact this.2.2 g
   ·
    have k3:dec (a0a w' σ.ov) rm.t ((σ.g m).rd (a0a w' σ.ov))=some (rm.x,O1,R1):=by
     obtain⟨O2,R2,l1,l2,l3,l4,l5,l6⟩:=h.sep hm;rw[k1]at l1;simp at l1;obtain⟨rfl,rfl⟩:=l1;refine a0x rm.t k1 (fun j _=>?_) (fun b j hb=>?_)
     ·cases es:σ.g m with
      |one v=>rfl
      |_=>rename_i b o;exact a1s _ (hext b (h.lt ⟨m,l5 _ _ es⟩)) _
     rcases hb with hb|hb;exact a1s _ (hext b (h.lt ⟨m,l4 b hb⟩)) j;simp_all
    rw[k3]at g1;simp at g1;obtain⟨rfl,rfl⟩:=g1;exact absurd (hO c g) (by have:=(k2 c hc).1;omega)
 show(if m=n then O else σ.ow m)=[]
 rw[hrt]at hm
 by_cases e:m=n
 simp_all;rw[if_neg e]at hm⊢;exact h.norm m hm;show((ow' m).map (·.1)).Nodup;simp[ow'];split;omega;exact h.nodup m;have hc:c∈(ow' m).map (·.1):=hc;have hc':c∈(ow' m').map (·.1):=hc';simp only[ow']at hc hc'
 split at hc
 rename_i e;rw[if_neg (fun e'=>hmm (e.trans e'.symm))]at hc';exact absurd (hO c hc) (by have:=h.lt ⟨m',hc'⟩;omega)
 split at hc'
 exact absurd (hO c hc') (by have:=h.lt ⟨m,hc⟩;omega);exact h.disj m m' hmm c hc hc';have hp:p∈ow' m:=hp;simp[ow']at hp
 split at hp
 simp_all;exact h'.live m p hp
 ·refine(h.slots i hi).frame fun a v ha=>ha.frame hsame hsh fun k q rk t s' _ hk hl=>?_
  have hkn:k≠n:=by grind
  obtain⟨O1,R1,l1,l2,l3,l4,l5,l6⟩:=h.sep hk;have hcell:∀j,(σ.g k).rd (a0a w' σ.ov) j=(σ.g k).rd (a0a w σ.ov) j:=fun j=>by
   cases es:σ.g k with
   |one v=>rfl
   |_=>rename_i b o;exact a1s _ (hext b (h.lt ⟨k,l5 _ _ es⟩)) _
  refine⟨rk,by simp_all,?_,fun u _ hu=>?_⟩;show loc (a0a w' σ.ov) rk.t (if k=n then s else σ.g k) q=_
  rw[if_neg hkn];exact a2E q rk.t _ l1 hl (fun j _=>hcell j) (fun c j hc=>a1s _ (hext c (h.lt ⟨k,l4 c hc⟩)) j)
  ·cases s' with
   |one v=>exact hu
   |_=>
    rename_i b o;rw[←hu];exact a1s _ (hext b (h.lt ⟨k,h.place hk hl⟩)) _
 ·refine h.pend.mono fun m p k r' e b o hpd' hr' hp'=>?_
  have hmn:m≠n:=by grind
  obtain⟨O1,R1,l1,l2,l3,l4,l5,l6⟩:=h.sep hr';refine⟨r',by simp_all,?_⟩;show loc (a0a w' σ.ov) r'.t (if m=n then s else σ.g m) p=_
  rw[if_neg hmn];refine a2E p r'.t _ l1 hp' (fun j _=>?_) (fun c j hc=>a1s _ (hext c (h.lt ⟨m,l4 c hc⟩)) j);cases es:σ.g m with
  |one v=>rfl
  |_=>rename_i b o;exact a1s _ (hext b (h.lt ⟨m,l5 _ _ es⟩)) _
 rcases hown c hc with g|g;exact h.mine c g;exact .inr (a05 h.size (hO c g));rw[hrt]at hne;have hid:pinned+i≠n:=by omega
 rw[if_neg hid]at hne;show(if pinned+i=n then s else σ.g (pinned+i))=_
 rw[if_neg hid];exact h.pins i b hb hne
theorem Rel.done{B Γ N tm w σ}(h:Rel B Γ N tm w σ){n p d b o v}(hpd:Γ.pd=some (n,p,d))(hov:σ.ov=some (b,o,v)):
  Rel B { Γ with pd:=none } N tm (w.setCell ⟨b,o,none⟩ v) ⟨σ.g,σ.ow,none⟩:=by
 have hp:=h.pend;rw[hpd,hov]at hp;obtain⟨r,e,hr,hl⟩:=hp;rw[←hov]at hl;have hroom:=h.room hr hl;have hmem:a0a (w.setCell ⟨b,o,none⟩ v) none=a0a w σ.ov:=by
  funext c j;rw[hov];simp[a0a]
  by_cases e:c=b∧j=o
  obtain⟨rfl,rfl⟩:=e
  have:=(hroom.cell (o:=j) (by simp[Ty.cells])).1
  grind[a27,World.cell?_setCell_same]
  rw[if_neg e,World.cell?_setCell_other]
  grind
 have hown:a0P σ b:=⟨n,h.place hr hl⟩;have hshr:∀c,Shr B w σ c→Shr B (w.setCell ⟨b,o,none⟩ v) ⟨σ.g,σ.ow,none⟩ c:=fun c ⟨g1,g2,g3⟩=>⟨by simp_all,g2,g3⟩;refine⟨fun m rm hm=>?_,h.norm,h.nodup,h.disj,fun m p hp=>(h.live m p hp).setCell _ _,fun i hi=>?_,trivial,by simpa using h.size,fun c hc hF=>?_,h.mine,h.pins,h.still⟩;obtain⟨O',R,g1,g2,g3⟩:=(h.roots m rm hm).rd;refine⟨O',R,?_,fun c hc=>hshr c (g2 c hc),g3⟩;simp_all;show b1R (a0a (w.setCell ⟨b,o,none⟩ v) none) σ.g Γ.rt _ (Γ.sl i) (tm i);rw[hmem];exact(h.slots i hi).frame fun a u ha=>ha.frame (fun _ _ _=>rfl) hshr fun k q rk t s _ hk hl=>⟨rk,hk,hl,fun _ _ hu=>hu⟩
 ·rw[a9J,if_neg];exact h.frame c hc hF
  ·rintro rfl
   rcases h.mine c hown with g|g
   all_goals grind
end Go.Ab
namespace Go.Ab
theorem Rel.topG{B Γ N tm w σ}(h:Rel B Γ N tm w σ){n:Nat}{e:Ty}{l:List e.den}(hr:Γ.rt n=some ⟨false,.list true e,l⟩)(hnp:n<pinned)(hpd:Γ.pd=none){G:Nat→Bool}(hG:G n=false){w':World}{v':Value}{l':List e.den}{O2 R2}
  (hy':dec (a0a w' σ.ov) (.list true e) ((Src.one v').rd (a0a w' σ.ov))=some (l',O2,R2))
  (hsame:∀c j,c<w.heap.size→c∉(σ.ow n).map (·.1)→(∀m,G m=true→c∉(σ.ow m).map (·.1))→a0a w' σ.ov c j=a0a w σ.ov c j)
  (hO2:∀c∈O2.map (·.1),(c∈(σ.ow n).map (·.1)∨∃m,G m=true∧c∈(σ.ow m).map (·.1))∨w.heap.size≤c)(hn2:(O2.map (·.1)).Nodup)(hlive:∀p∈O2,a0Z w' p.1 p.2)(hfree:∀c k,a0Z w c k→a0P σ c→a0Z w' c k)
  (hsz:w.heap.size≤w'.heap.size)(hfr:∀b,b<B.size→¬ B.F b→w'.heap[b]?=B.hp b)
  (hR2:∀c∈R2,c<w'.heap.size∧(B.S c∨B.F c∨B.size≤c)∧¬ a0P σ c∧c∉O2.map (·.1)){f:AV→AV}
  (hf:∀a,f a=.dead∨(f a=a∧∀k q,(a=.ptr k q∨a=.sref k q∨∃o l,a=.swin k q o l)→(k=n→a=.ptr n [])∧G k=false))(hio:a2n w'=a2n w:=by first|rfl|assumption):
  Rel B ⟨(Γ.mapv f).sl,fun m=>if m=n then some ⟨false,.list true e,l'⟩else bif G m then none else Γ.rt m,none⟩ N tm w' ⟨fun m=>if m=n then .one v' else σ.g m,fun m=>if m=n then O2 else bif G m then[]else σ.ow m,σ.ov⟩:=by
 let ow':Nat→a1g:=fun m=>if m=n then O2 else bif G m then[]else σ.ow m
 have hown:∀c,a0P ⟨fun m=>if m=n then .one v' else σ.g m,ow',σ.ov⟩ c→a0P σ c∨c∈O2.map (·.1):=by
  rintro c ⟨m,hm⟩
  have hm:c∈(ow' m).map (·.1):=hm;simp only[ow']at hm
  split at hm
  simp_all
  ·cases hGm:G m with
   |true=>simp_all
   |false=>rw[hGm]at hm;exact .inl ⟨m,hm⟩
 have hO2σ:∀c,c∈O2.map (·.1)→a0P σ c∨w.heap.size≤c:=fun c hc=>(hO2 c hc).imp (fun g=>g.elim (fun g=>⟨n,g⟩) fun⟨m,_,g⟩=>⟨m,g⟩) id;have hsh:∀c,Shr B w σ c→Shr B w' ⟨fun m=>if m=n then .one v' else σ.g m,ow',σ.ov⟩ c:=fun c ⟨g1,g2,g3⟩=>⟨a06 g1 hsz,g2,fun g4=>by
  grind⟩
 have hshm:∀c j,Shr B w σ c→a0a w' σ.ov c j=a0a w σ.ov c j:=fun c j hc=>hsame c j hc.1 (fun g=>hc.2.2 ⟨n,g⟩) (fun m _ g=>hc.2.2 ⟨m,g⟩);have hoth:∀m,m≠n→G m=false→∀c j,c∈(σ.ow m).map (·.1)→a0a w' σ.ov c j=a0a w σ.ov c j:=fun m hm hg c j hc=>hsame c j (h.lt ⟨m,hc⟩) (h.disj m n hm c hc)
  (fun k hk=>h.disj m k (fun e=>by simp_all) c hc)
 have hrt:∀m,(if m=n then some (⟨false,.list true e,l'⟩:Root)else bif G m then none else Γ.rt m)=if m=n then some ⟨false,.list true e,l'⟩else bif G m then none else Γ.rt m:=fun _=>rfl
 have hplace:∀k,k≠n→G k=false→∀q rk tq s,Γ.rt k=some rk→loc (a0a w σ.ov) rk.t (σ.g k) q=some (tq,s)→loc (a0a w' σ.ov) rk.t (σ.g k) q=some (tq,s)∧s.rd (a0a w' σ.ov) 0=s.rd (a0a w σ.ov) 0:=by
  intro k hk hg q rk tq s hrk hl;obtain⟨O1,R1,l1,l2,l3,l4,l5,l6⟩:=h.sep hrk;have hcell:∀j,(σ.g k).rd (a0a w' σ.ov) j=(σ.g k).rd (a0a w σ.ov) j:=fun j=>by
   cases es:σ.g k with
   |one v=>rfl
   |_=>rename_i b o;exact hoth k hk hg b _ (l5 _ _ es)
  refine⟨a2E q rk.t _ l1 hl (fun j _=>hcell j) (fun c j hc=>hoth k hk hg c j (l4 c hc)),?_⟩;cases s with
  |one v=>rfl
  |_=>rename_i b o;exact hoth k hk hg b _ (h.place hrk hl)
 obtain⟨O0,R0,m1,m2,m3,m4,m5,m6⟩:=h.sep hr;have hgn:∃v0,σ.g n=.one v0:=by
  simp_all
 obtain⟨v0,hv0⟩:=hgn;refine⟨fun m rm hm=>?_,fun m hm=>?_,fun m=>?_,fun m m' hmm c hc hc'=>?_,fun m p hp=>?_,fun i hi=>?_,?_,a05 h.size hsz,hfr,fun c hc=>?_,fun i b hb hne=>?_,hio.trans h.still⟩
 ·have hm:(if m=n then some (⟨false,.list true e,l'⟩:Root)else bif G m then none else Γ.rt m)=some rm:=hm
  by_cases e1:m=n
  subst e1;simp at hm;subst hm;refine⟨O2,R2,?_,fun c hc=>?_,.inr ⟨rfl,⟨v',by simp⟩,⟨e,rfl⟩,by simp⟩⟩;show dec (a0a w' σ.ov) (.list true e) ((if m=m then Src.one v' else σ.g m).rd (a0a w' σ.ov))=_
  rw[if_pos rfl];exact hy';obtain⟨g1,g2,g3,g4⟩:=hR2 c hc;refine⟨g1,g2,fun g5=>?_⟩
  grind
  ·rw[if_neg e1]at hm;cases hGm:G m with
   |true=>simp_all
   |false=>
    rw[hGm]at hm;have hm:Γ.rt m=some rm:=hm;obtain⟨O1,R1,l1,l2,l3,l4,l5,l6⟩:=h.sep hm;refine⟨O1,R1,?_,fun c hc=>hsh c (l2 c hc),by grind⟩;show dec (a0a w' σ.ov) rm.t ((if m=n then Src.one v' else σ.g m).rd (a0a w' σ.ov))=_
    rw[if_neg e1];refine a0x rm.t l1 (fun j _=>?_) (fun c j hc=>?_)
    ·cases es:σ.g m with
     |one v=>rfl
     |_=>rename_i b o;exact hoth m e1 hGm b _ (l5 _ _ es)
    grind
 ·have hm:(if m=n then some (⟨false,.list true e,l'⟩:Root)else bif G m then none else Γ.rt m)=none:=hm
  show(if m=n then O2 else bif G m then[]else σ.ow m)=[]
  by_cases e1:m=n
  simp_all
  ·rw[if_neg e1]at hm⊢;cases hGm:G m with
   |true=>rfl
   |false=>rw[hGm]at hm;exact h.norm m hm
 ·show((ow' m).map (·.1)).Nodup;simp[ow'];split;omega
  ·cases G m with
   |true=>simp
   |false=>exact h.nodup m
 have hc:c∈(ow' m).map (·.1):=hc;have hc':c∈(ow' m').map (·.1):=hc';have old:∀k,k≠n→c∈(ow' k).map (·.1)→G k=false∧c∈(σ.ow k).map (·.1):=fun k hk g=>by
  grind
 have key:∀k,k≠n→c∈(ow' n).map (·.1)→c∈(ow' k).map (·.1)→False:=fun k hk g g'=>by
  simp only[ow',if_true]at g;obtain⟨hGk,g'⟩:=old k hk g';rcases hO2 c g with(g1|⟨m,hGm,g1⟩)|g1;exact h.disj n k (Ne.symm hk) c g1 g';exact h.disj m k (fun e=>by grind) c g1 g'
  have:=h.lt ⟨k,g'⟩;omega
 by_cases e1:m=n
 grind
 by_cases e2:m'=n
 grind
 exact h.disj m m' hmm c (old m e1 hc).2 (old m' e2 hc').2
 ·have hp:p∈ow' m:=hp;simp[ow']at hp
  split at hp
  simp_all
  ·cases hGm:G m with
   |true=>simp_all
   |false=>rw[hGm]at hp;exact hfree _ _ (h.live m p hp) ⟨m,a16 hp⟩
 refine(h.slots i hi).mapv fun a v ha=>?_
 rcases hf a with g|⟨g,hk⟩;rw[g];trivial;rw[g]
 by_cases hz:a=.ptr n []
 subst hz;obtain⟨r',t,b,o,k1,k2,-⟩:=ha;rw[hr]at k1;simp at k1;subst k1;rw[hv0]at k2;simp[loc,a0V]at k2;refine ha.frame hshm hsh fun k q rk t s hc hrk hl=>?_
 grind
 ·have:=h.pend
  rw[hpd]at this;show b2x _ _ _ none σ.ov;cases hov:σ.ov with
  |none=>trivial
  |some y=>rw[hov]at this;exact this.elim
 rcases hown c hc with g|g;exact h.mine c g;rcases hO2σ c g with g|g;exact h.mine c g;exact .inr (a05 h.size g);have hne:(if pinned+i=n then some (⟨false,.list true e,l'⟩:Root)else bif G (pinned+i)then none else Γ.rt (pinned+i))≠none:=hne
 have hid:pinned+i≠n:=by omega
 rw[if_neg hid]at hne;show(if pinned+i=n then Src.one v' else σ.g (pinned+i))=_
 rw[if_neg hid];refine h.pins i b hb fun e'=>hne ?_
 simp_all
theorem Rel.top{B Γ N tm w σ}(h:Rel B Γ N tm w σ){n:Nat}{e:Ty}{l:List e.den}(hr:Γ.rt n=some ⟨false,.list true e,l⟩)(hnp:n<pinned)(hpd:Γ.pd=none){w':World}{v':Value}{l':List e.den}{O2 R2}
  (hy':dec (a0a w' σ.ov) (.list true e) ((Src.one v').rd (a0a w' σ.ov))=some (l',O2,R2))
  (hsame:∀c j,c<w.heap.size→c∉(σ.ow n).map (·.1)→a0a w' σ.ov c j=a0a w σ.ov c j)
  (hO2:∀c∈O2.map (·.1),c∈(σ.ow n).map (·.1)∨w.heap.size≤c)(hn2:(O2.map (·.1)).Nodup)(hlive:∀p∈O2,a0Z w' p.1 p.2)(hfree:∀c k,a0Z w c k→a0P σ c→a0Z w' c k)
  (hsz:w.heap.size≤w'.heap.size)(hfr:∀b,b<B.size→¬ B.F b→w'.heap[b]?=B.hp b)
  (hR2:∀c∈R2,c<w'.heap.size∧(B.S c∨B.F c∨B.size≤c)∧¬ a0P σ c∧c∉O2.map (·.1)){f:AV→AV}
  (hf:∀a,f a=.dead∨(f a=a∧∀k q,(a=.ptr k q∨a=.sref k q∨∃o l,a=.swin k q o l)→k=n→a=.ptr n []))(hio:a2n w'=a2n w:=by first|rfl|assumption):
  Rel B ((Γ.mapv f).setRt n (some ⟨false,.list true e,l'⟩)) N tm w' ⟨fun m=>if m=n then .one v' else σ.g m,fun m=>if m=n then O2 else σ.ow m,σ.ov⟩:=by
 have:=h.topG (G:=fun _=>false) hr hnp hpd rfl hy' (fun c j h1 h2 _=>hsame c j h1 h2) (fun c hc=>(hO2 c hc).imp .inl id) hn2 hlive hfree hsz hfr hR2 (f:=f) (fun a=>(hf a).imp id fun⟨h1,h2⟩=>⟨h1,fun k q hk=>⟨h2 k q hk,rfl⟩⟩) hio
 have e1:((Γ.mapv f).setRt n (some ⟨false,.list true e,l'⟩))=⟨(Γ.mapv f).sl,fun m=>if m=n then some ⟨false,.list true e,l'⟩else bif (fun _=>false) m then none else Γ.rt m,none⟩:=by
  simp only[AE.setRt,AE.mapv,hpd,cF]
  grind
 simp_all
theorem VOk.one{m:Mem}{Sh:Nat→Prop}{t:Ty}{x:t.den}{v:Value}(ht:t.isAgg=false)(hs:a1v v=true){R}(h:dec m t ((Src.one v).rd m)=some (x,[],R))(hR:∀c∈R,Sh c)
  (hc:t.cells=1):VOk m Sh t x v:=by
 refine⟨fun g=>(by simp_all),fun _=>hs,R,a0x t h (fun j hj=>?_) (fun _ _ _=>rfl),hR⟩;have hj0:j=0:=by omega
 subst hj0;cases v<;>first|rfl|cases hs
theorem VOk.rd{m:Mem}{Sh:Nat→Prop}{t:Ty}{x:t.den}{v:Value}(h:VOk m Sh t x v)(ht:t.isAgg=false)(hc:t.cells=1):∃R,dec m t ((Src.one v).rd m)=some (x,[],R)∧∀c∈R,Sh c:=by
 obtain⟨-,h2,R,h3,h4⟩:=h;refine⟨R,a0x t h3 (fun j hj=>?_) (fun _ _ _=>rfl),h4⟩;have hj0:j=0:=by omega
 subst hj0
 have:=h2 ht
 cases v<;>first|rfl|cases this
theorem a0j.int{m g rt Sh k}{n:Int}{v:Value}(h:a0j m g rt Sh (.val (.int k) n) v):v=.int k n:=by
 obtain⟨R,h1,-⟩:=VOk.rd (t:=.int k) h rfl rfl;simp[dec,Src.rd]at h1
 grind
theorem a0j.bool{m g rt Sh}{b:Bool}{v:Value}(h:a0j m g rt Sh (.val .bool b) v):v=.bool b:=by
 obtain⟨R,h1,-⟩:=VOk.rd (t:=.bool) h rfl rfl;simp[dec,Src.rd]at h1
 grind
theorem a0j.str{m g rt Sh}{l:List Int}{v:Value}(h:a0j m g rt Sh (.val .str l) v):∃s:ByteArray,v=.string s∧l=s.data.toList.map fun b=>(b.toNat:Int):=by
 obtain⟨R,h1,-⟩:=VOk.rd (t:=.str) h rfl rfl;simp[dec,Src.rd]at h1
 grind
theorem a0j.mk_int{m g rt Sh k}(n:Int):a0j m g rt Sh (.val (.int k) n) (.int k n):=
 VOk.one (t:=.int k) (R:=[]) rfl rfl (by simp[dec,Src.rd]) (by simp) rfl
theorem a0j.mk_bool{m g rt Sh}(b:Bool):a0j m g rt Sh (.val .bool b) (.bool b):=
 VOk.one (t:=.bool) (R:=[]) rfl rfl (by rfl) (by simp) rfl
theorem a0j.mk_str{m g rt Sh}(s:ByteArray):a0j m g rt Sh (.val .str (s.data.toList.map fun b=>(b.toNat:Int):List Int)) (.string s):=
 VOk.one (t:=.str) (R:=[]) rfl rfl (by rfl) (by simp) rfl
end Go.Ab
namespace Go.Ab
def b2y(Γ:AE)(a:AV):Prop:=∃k q,(a=.ptr k q∨a=.sref k q∨∃o l,a=.swin k q o l)∧Γ.rt k=none
structure Ev (B:Base) (w:World) (Γ:AE) (σ:Gh) (Γ':AE) (σ':Gh):Prop where
 ov:σ'.ov=σ.ov
 pd:Γ'.pd=Γ.pd
 shr:∀c,Shr B w σ c→Shr B w σ' c
 av:∀a v,a0j (a0a w σ.ov) σ.g Γ.rt (Shr B w σ) a v→a0j (a0a w σ.ov) σ'.g Γ'.rt (Shr B w σ') a v∨b2y Γ' a
 dg:∀a,b2y Γ a→b2y Γ' a
theorem Ev.refl{B w Γ σ}:Ev B w Γ σ Γ σ:=⟨rfl,rfl,fun _ h=>h,fun _ _ h=>.inl h,fun _ h=>h⟩
theorem Ev.trans{B w Γ σ Γ' σ' Γ'' σ''}(h:Ev B w Γ σ Γ' σ')(h':Ev B w Γ' σ' Γ'' σ''):Ev B w Γ σ Γ'' σ'':=
 ⟨h'.ov.trans h.ov,h'.pd.trans h.pd,fun c hc=>h'.shr c (h.shr c hc),fun a v ha=>by
  rcases h.av a v ha with g|g
  have:=h'.av a v (by rw[h.ov];omega)
  rw[h.ov]at this;omega;exact .inr (h'.dg a g),fun a ha=>h'.dg a (h.dg a ha)⟩
theorem Ev.live{B w Γ σ Γ' σ'}(h:Ev B w Γ σ Γ' σ'){a v}(ha:a0j (a0a w σ.ov) σ.g Γ.rt (Shr B w σ) a v∨b2y Γ a):a0j (a0a w σ'.ov) σ'.g Γ'.rt (Shr B w σ') a v∨b2y Γ' a:=by
 rw[h.ov];rcases ha with g|g;exact h.av a v g;exact .inr (h.dg a g)
theorem Ev.vok{B w Γ σ Γ' σ'}(h:Ev B w Γ σ Γ' σ'){t x v}(hv:VOk (a0a w σ.ov) (Shr B w σ) t x v):VOk (a0a w σ'.ov) (Shr B w σ') t x v:=by
 rw[h.ov];exact hv.frame (fun _ _ _=>rfl) h.shr
theorem Ev.gone{B w Γ σ}{n:Nat}{f:AV→AV}:Ev B w Γ σ ((Γ.mapv f).setRt n none) ⟨σ.g,fun m=>if m=n then[]else σ.ow m,σ.ov⟩:=by
 refine⟨rfl,rfl,fun c hc=>Rel.shr_gone c hc,fun a v ha=>?_,fun a ⟨k,q,h1,h2⟩=>⟨k,q,h1,?_⟩⟩
 by_cases hd:∃k q,(a=.ptr k q∨a=.sref k q∨∃o l,a=.swin k q o l)∧k=n
 obtain⟨k,q,h1,rfl⟩:=hd;exact .inr ⟨k,q,h1,by simp[AE.setRt]⟩;exact .inl (ha.other (n:=n) (fun c hc=>Rel.shr_gone c hc) (fun k hk=>by simp_all[AE.setRt,AE.mapv,c2E]) (fun _ _=>rfl) (fun k q hc e=>hd ⟨k,q,hc,e⟩));simp_all[AE.setRt,AE.mapv]
theorem a0N{Γ:AE}{n:Nat}{r:Root}(h:Γ.look n=some r):Γ.pd=none∧Γ.rt n=some r:=by
 grind[AE.look]
theorem Rel.slice{B Γ N tm w σ}(h:Rel B Γ N tm w σ){n p v r}{e:Ty}{l:List e.den}(ha:a0j (a0a w σ.ov) σ.g Γ.rt (Shr B w σ) (.sref n p) v)(hr:Γ.rt n=some r)(hg:a1p r.t r.x p=⟨.list true e,l⟩):
  ∃s O' R',loc (a0a w σ.ov) r.t (σ.g n) p=some (.list true e,s)∧s.rd (a0a w σ.ov) 0=some v∧dec (a0a w σ.ov) (.list true e) (s.rd (a0a w σ.ov))=some (l,O',R')∧
   dec (a0a w σ.ov) (.list true e) ((Src.one v).rd (a0a w σ.ov))=some (l,O',R')∧(∀c∈R',Shr B w σ c)∧(∀c∈O'.map (·.1),c∈(σ.ow n).map (·.1)):=by
 obtain⟨r',e',s,h1,h2,h3⟩:=ha;rw[hr]at h1;simp at h1;subst h1;obtain⟨O1,R1,k1,k2,k3,k4,k5,k6⟩:=h.sep hr;obtain⟨y,O',R',A,B',A',B'',g1,g2,g3,g4⟩:=a1G p r.t _ k1 h2;rw[hg]at g2;have hE:e=e':=by grind
 subst hE;have g2:=eq_of_heq (Sigma.mk.inj g2).2;subst g2;refine⟨s,O',R',h2,h3,g1,a0x _ g1 (fun j hj=>?_) (fun _ _ _=>rfl),fun c hc=>k2 c (by simp_all),fun c hc=>k4 c (by simp_all)⟩;have hj0:j=0:=by simp_all[Ty.cells]
 subst hj0;rw[h3];rfl
theorem Rel.window{B Γ N tm w σ}(h:Rel B Γ N tm w σ){n p v r off len}{e:Ty}{l:List e.den}(ha:a0j (a0a w σ.ov) σ.g Γ.rt (Shr B w σ) (.swin n p off len) v)(hr:Γ.rt n=some r)(hg:a1p r.t r.x p=⟨.list true e,l⟩):
  ∃s O' R' a n0 c,loc (a0a w σ.ov) r.t (σ.g n) p=some (.list true e,s)∧s.rd (a0a w σ.ov) 0=some (.slice a n0 c)∧dec (a0a w σ.ov) (.list true e) ((Src.one (.slice a n0 c)).rd (a0a w σ.ov))=some (l,O',R')∧
   (∀c∈R',Shr B w σ c)∧(∀c∈O'.map (·.1),c∈(σ.ow n).map (·.1))∧off+len≤n0∧∃a',v=.slice a' len (c-off)∧(∀A,a'=some A→c=off∨A.spot=none)∧(c=off∨a'=a.map fun A=>A.add (off*e.cells)):=by
 obtain⟨r',e',s,a,n0,c,h1,h2,h3,h4,h5⟩:=ha;have hs:a0j (a0a w σ.ov) σ.g Γ.rt (Shr B w σ) (.sref n p) (.slice a n0 c):=⟨r',e',s,h1,h2,h3⟩;obtain⟨s',O',R',g1,g2,-,g3,g4,g5⟩:=h.slice hs hr hg;rw[hr]at h1;simp at h1;subst h1;rw[h2]at g1;simp at g1;obtain⟨rfl,rfl⟩:=g1
 grind
theorem c6g{m:Mem}{e:Ty}{v:Value}{x:List e.den}{O R}(h:dec m (.list true e) ((Src.one v).rd m)=some (x,O,R)):a1v v=true:=by
 rcases a1W h with⟨hv,-⟩|⟨A,n,c,os,hv,-⟩<;>simp only[Src.rd,if_true,sj]at hv<;>rw[hv]<;>rfl
theorem VOk.empty{m Sh e}{a:Option Addr}:VOk m Sh (.list false e) ([]:List e.den) (.slice a 0 0):=by
 refine VOk.one (t:=.list false e) (R:=[]) rfl rfl ?_ (by simp) rfl;show a1j m false e.cells (dec m e) (some (.slice a 0 0))=_;cases a with
 |none=>rfl
 |some A=>rfl
theorem Rel.sref_vok{B Γ N tm w σ}(h:Rel B Γ N tm w σ){n p v r}{e:Ty}{l:List e.den}(ha:a0j (a0a w σ.ov) σ.g Γ.rt (Shr B w σ) (.sref n p) v)(hr:Γ.rt n=some r)(hg:a1p r.t r.x p=⟨.list true e,l⟩):
  VOk (a0a w σ.ov) (fun c=>Shr B w σ c∨c∈(σ.ow n).map (·.1)) (.list false e.sh) (Ty.shx (.list false e) l) v:=by
 obtain⟨s,O',R',g1,g2,g3,g4,g5,g6⟩:=h.slice ha hr hg;obtain⟨R1,k1,k2⟩:=a7V _ g4;exact VOk.one (t:=.list false e.sh) rfl (c6g g4) k1 (fun c hc=>(k2 c hc).elim (fun g=>.inr (g6 c g)) (fun g=>.inl (g5 c g))) rfl
theorem Rel.swin_vok{B Γ N tm w σ}(h:Rel B Γ N tm w σ){n p v r off len}{e:Ty}{l:List e.den}(ha:a0j (a0a w σ.ov) σ.g Γ.rt (Shr B w σ) (.swin n p off len) v)(hr:Γ.rt n=some r)(hg:a1p r.t r.x p=⟨.list true e,l⟩):
  VOk (a0a w σ.ov) (fun c=>Shr B w σ c∨c∈(σ.ow n).map (·.1)) (.list false e.sh) (Ty.shx (.list false e) ((l.drop off).take len)) v:=by
 obtain⟨s,O',R',a,n0,c,g1,g2,g3,g4,g5,g6,a',rfl,g7,g8⟩:=h.window ha hr hg;obtain⟨R1,k1,k2⟩:=d0X g3 g6 g7 g8;exact VOk.one (t:=.list false e.sh) rfl rfl k1 (fun c hc=>(k2 c hc).elim (fun g=>.inr (g5 c g)) (fun g=>.inl (g4 c g))) rfl
theorem Ty.le_agg:∀(a b:Ty),a.le b=true→a.isAgg=b.isAgg
 |.nl a,.list o b,_|.nl a,.nl b,_|.pair a b,.pair a' b',_=>rfl
 |.nl a,.int _,h|.nl a,.bool,h|.nl a,.str,h|.nl a,.unit,h|.nl a,.pair _ _,h|.nl a,.arr _ _,h=>by simp[Ty.le]at h
 |.pair a b,.int _,h|.pair a b,.bool,h|.pair a b,.str,h|.pair a b,.unit,h|.pair a b,.arr _ _,h|.pair a b,.list _ _,h|.pair a b,.nl _,h=>by simp[Ty.le]at h
 |.int _,b,h|.bool,b,h|.str,b,h|.unit,b,h|.list _ _,b,h|.arr _ _,b,h=>by
  simp only[Ty.le,dT]at h;rw[h]
theorem b9E{m:Mem}{t' t:Ty}{x:t'.den}{y:t.den}{rd:Nat→Option Value}{R:List Nat}(hy:castTo t' t x=some y)(h:dec m t' rd=some (x,[],R)):dec m t rd=some (y,[],R):=by
 grind[castTo,c8v]
theorem c6M{t' t:Ty}{x:t'.den}{y:t.den}(hy:castTo t' t x=some y):t'.isAgg=t.isAgg∧t'.cells=t.cells:=by
 unfold castTo at hy
 split at hy
 simp_all
 grind[Ty.le_agg,Ty.le_cells]
theorem VOk.castTo{m:Mem}{Sh:Nat→Prop}{t' t:Ty}{x:t'.den}{y:t.den}{v:Value}(hy:castTo t' t x=some y)(h:VOk m Sh t' x v):VOk m Sh t y v:=by
 obtain⟨h1,h2,R,h3,h4⟩:=h;obtain⟨e1,e2⟩:=c6M hy;exact⟨fun g=>by simp_all,fun g=>h2 (e1.trans g),R,b9E hy h3,h4⟩
theorem Rel.view{ρ:Type}{B Γ N tm w σ}(h:Rel B Γ N tm w σ){t a v}{K:t.den→Rs ρ}{z:ρ}(ha:a0j (a0a w σ.ov) σ.g Γ.rt (Shr B w σ) a v∨b2y Γ a)(hK:Γ.view t a K=some z):
  ∃x,K x=some z∧VOk (a0a w σ.ov) (fun c=>Shr B w σ c∨(a0P σ c∧Γ.pd=none)) t x v:=by
 have noD:∀b,(∀k q,(b=.ptr k q∨b=.sref k q∨∃o l,b=.swin k q o l)→False)→¬ b2y Γ b:=fun b hb ⟨k,q,h1,_⟩=>hb k q h1;cases a with
 |glob g=>
  simp_all[AE.view]
 |val t' x=>
  simp[AE.view]at hK
  split at hK
  rename_i y hy;rcases ha with ha|ha;exact⟨y,hK,VOk.frame (VOk.castTo hy ha) (fun _ _ _=>rfl) (fun c hc=>.inl hc)⟩;simp_all;simp_all
 |nils=>
  cases t<;>simp only[AE.view]at hK<;>try cases hK
  rename_i o e;cases o
  ·rcases ha with rfl|ha
   all_goals grind[VOk.empty]
  simp_all
 |empt=>
  cases t<;>simp only[AE.view]at hK<;>try cases hK
  rename_i o e;cases o
  ·rcases ha with⟨A,rfl⟩|ha
   all_goals grind[VOk.empty]
  simp_all
 |sref n p=>
  simp[AE.view]at hK
  split at hK
  rename_i r hr;obtain⟨hpd,hr⟩:=a0N hr
  split at hK
  rename_i e l hg
  split at hK
  rename_i ht;subst ht;rcases ha with ha|⟨k,q,hc,hk⟩;exact⟨_,hK,(h.sref_vok ha hr hg).frame (fun _ _ _=>rfl) (fun c hc=>hc.imp id fun g=>⟨⟨n,g⟩,hpd⟩)⟩;simp_all;simp_all;simp_all;simp_all
 |swin n p o k=>
  simp[AE.view]at hK
  split at hK
  rename_i r hr;obtain⟨hpd,hr⟩:=a0N hr
  split at hK
  rename_i e l hg
  split at hK
  rename_i ht;subst ht;rcases ha with ha|⟨k,q,hc,hk⟩;exact⟨_,hK,(h.swin_vok ha hr hg).frame (fun _ _ _=>rfl) (fun c hc=>hc.imp id fun g=>⟨⟨n,g⟩,hpd⟩)⟩;simp_all;simp_all;simp_all;simp_all
 |dead|skp|nilp|ptr|vptr=>cases hK
theorem Rel.viewR{ρ:Type}{B Γ N tm w σ}(h:Rel B Γ N tm w σ){t a v}{K:t.den→Rs ρ}{z:ρ}(ha:a0j (a0a w σ.ov) σ.g Γ.rt (Shr B w σ) a v∨b2y Γ a)(hK:Γ.view t a K=some z):
  ∃x,K x=some z∧VOk (a0a w σ.ov) (fun c=>Shr B w σ c∨∃n,n∈a.viewed∧c∈(σ.ow n).map (·.1)) t x v:=by
 have noD:∀b,(∀k q,(b=.ptr k q∨b=.sref k q∨∃o l,b=.swin k q o l)→False)→¬ b2y Γ b:=fun b hb ⟨k,q,h1,_⟩=>hb k q h1;cases a with
 |glob g=>
  simp_all[AE.view]
 |val t' x=>
  simp[AE.view]at hK
  split at hK
  rename_i y hy;rcases ha with ha|ha;exact⟨y,hK,VOk.frame (VOk.castTo hy ha) (fun _ _ _=>rfl) (fun c hc=>.inl hc)⟩;simp_all;simp_all
 |nils=>
  cases t<;>simp only[AE.view]at hK<;>try cases hK
  rename_i o e;cases o
  ·rcases ha with rfl|ha
   all_goals grind[VOk.empty]
  simp_all
 |empt=>
  cases t<;>simp only[AE.view]at hK<;>try cases hK
  rename_i o e;cases o
  ·rcases ha with⟨A,rfl⟩|ha
   all_goals grind[VOk.empty]
  simp_all
 |sref n p=>
  simp[AE.view]at hK
  split at hK
  rename_i r hr;obtain⟨hpd,hr⟩:=a0N hr
  split at hK
  rename_i e l hg
  split at hK
  rename_i ht;subst ht;rcases ha with ha|⟨k,q,hc,hk⟩;exact⟨_,hK,(h.sref_vok ha hr hg).frame (fun _ _ _=>rfl) (fun c hc=>hc.imp id fun g=>⟨n,by simp[AV.viewed],g⟩)⟩;simp_all;simp_all;simp_all;simp_all
 |swin n p o k=>
  simp[AE.view]at hK
  split at hK
  rename_i r hr;obtain⟨hpd,hr⟩:=a0N hr
  split at hK
  rename_i e l hg
  split at hK
  rename_i ht;subst ht;rcases ha with ha|⟨k,q,hc,hk⟩;exact⟨_,hK,(h.swin_vok ha hr hg).frame (fun _ _ _=>rfl) (fun c hc=>hc.imp id fun g=>⟨n,by simp[AV.viewed],g⟩)⟩;simp_all;simp_all;simp_all;simp_all
 |dead|skp|nilp|ptr|vptr=>cases hK
def a3Q(V:Nat→Prop)(Γ:AE)(σ:Gh)(Γ':AE)(σ':Gh):Prop:=
 (∀n r,r.bx=true∨¬ V n→Γ.rt n=some r→Γ'.rt n=some r∧σ'.g n=σ.g n∧σ'.ow n=σ.ow n)∧∀(j:Nat) t y,Γ.get j=.val t y→Γ'.get j=.val t y
theorem a3Q.refl{V Γ σ}:a3Q V Γ σ Γ σ:=⟨fun _ _ _ h=>⟨h,rfl,rfl⟩,fun _ _ _ h=>h⟩
theorem a3Q.trans{V Γ σ Γ' σ' Γ'' σ''}(h:a3Q V Γ σ Γ' σ')(h':a3Q V Γ' σ' Γ'' σ''):a3Q V Γ σ Γ'' σ'':=⟨fun n r hb hr=>by
 obtain⟨a,b,c⟩:=h.1 n r hb hr;obtain⟨a',b',c'⟩:=h'.1 n r hb a;simp_all,fun j t y hj=>h'.2 j t y (h.2 j t y hj)⟩
theorem a3Q.mono{V V':Nat→Prop}{Γ σ Γ' σ'}(h:a3Q V Γ σ Γ' σ')(hv:∀n,V n→V' n):a3Q V' Γ σ Γ' σ':=⟨fun n r hb=>h.1 n r (hb.imp id fun g g'=>g (hv n g')),h.2⟩
theorem a3Q.gone{Γ:AE}{σ:Gh}{n:Nat}{r:Root}(hr:Γ.rt n=some r)(hb:r.bx=false)(f:AV→AV)(ov)(hf:∀t y,f (.val t y)=.val t y):
  a3Q (·∈[n]) Γ σ ((Γ.mapv f).setRt n none) ⟨σ.g,fun m=>if m=n then[]else σ.ow m,ov⟩:=by
 refine⟨fun m r' hb' hr'=>?_,fun j t y hj=>?_⟩;have hmn:m≠n:=by
  grind
 have e:(m==n)=false:=by simp_all
 exact⟨by simp[AE.setRt,AE.mapv,e,hr'],rfl,by simp_all⟩
 grind[AE.get,AE.setRt,AE.mapv,SV.mapv]
theorem Rel.asVB{ρ:Type}{B Γ N tm w σ}(h:Rel B Γ N tm w σ){q t a v}{K:t.den→AE→Rs ρ}{z:ρ}(ha:a0j (a0a w σ.ov) σ.g Γ.rt (Shr B w σ) a v∨b2y Γ a)(hK:Γ.asV q t a K=some z):
  ∃x Γ' σ',K x Γ'=some z∧Rel B Γ' N tm w σ'∧VOk (a0a w σ'.ov) (Shr B w σ') t x v∧Ev B w Γ σ Γ' σ'∧(q=true→Γ'=Γ∧σ'=σ)∧a3Q (·∈a.viewed) Γ σ Γ' σ':=by
 have noD:∀b,(∀k q,(b=.ptr k q∨b=.sref k q∨∃o l,b=.swin k q o l)→False)→¬ b2y Γ b:=fun b hb ⟨k,q,h1,_⟩=>hb k q h1;cases a with
 |glob g=>
  simp_all[AE.asV]
 |val t' x=>
  simp[AE.asV]at hK
  split at hK
  rename_i y hy;rcases ha with ha|ha;exact⟨y,Γ,σ,hK,h,VOk.castTo hy ha,Ev.refl,fun _=>⟨rfl,rfl⟩,a3Q.refl⟩;simp_all;simp_all
 |nils=>
  cases t<;>simp only[AE.asV]at hK<;>try cases hK
  rename_i o e;cases o;rcases ha with rfl|ha;exact⟨[],Γ,σ,hK,h,VOk.empty,Ev.refl,fun _=>⟨rfl,rfl⟩,a3Q.refl⟩;simp_all;simp_all
 |empt=>
  cases t<;>simp only[AE.asV]at hK<;>try cases hK
  rename_i o e;cases o;rcases ha with⟨A,rfl⟩|ha;exact⟨[],Γ,σ,hK,h,VOk.empty,Ev.refl,fun _=>⟨rfl,rfl⟩,a3Q.refl⟩;simp_all;simp_all
 |sref n p=>
  cases p with
  |cons=>simp_all[AE.asV]
  |nil=>
   simp only[AE.asV]at hK
   split at hK
   grind
   rename_i hq
   split at hK
   rename_i e l hr;obtain⟨hpd,hr⟩:=a0N hr
   split at hK
   rename_i ht;subst ht;rcases ha with ha|⟨k,q,hc,hk⟩;have hv:=h.sref_vok ha hr rfl;refine⟨_,_,_,hK,h.frz hr (by simp_all),hv.frame (fun _ _ _=>rfl) (fun c hc=>?_),Ev.gone,fun e=>absurd e hq,a3Q.gone hr rfl _ _ (fun _ _=>rfl)⟩;rcases hc with g|g;exact Rel.shr_gone c g;have hown:a0P σ c:=⟨n,g⟩;refine⟨h.lt hown,.inr (h.mine c hown),fun⟨m,hm⟩=>?_⟩;have hm:c∈(if m=n then[]else σ.ow m).map (·.1):=hm
   split at hm
   simp_all;rename_i hmn;exact h.disj m n hmn c hm g;simp_all;simp_all;simp_all
 |swin n p o k=>
  cases p with
  |cons=>simp_all[AE.asV]
  |nil=>
   simp only[AE.asV]at hK
   split at hK
   grind
   rename_i hq
   split at hK
   rename_i e l hr;obtain⟨hpd,hr⟩:=a0N hr
   split at hK
   rename_i ht;subst ht;rcases ha with ha|⟨k,q,hc,hk⟩;have hv:=h.swin_vok ha hr rfl;refine⟨_,_,_,hK,h.frz hr (by simp_all),hv.frame (fun _ _ _=>rfl) (fun c hc=>?_),Ev.gone,fun e=>absurd e hq,a3Q.gone hr rfl _ _ (fun _ _=>rfl)⟩;rcases hc with g|g;exact Rel.shr_gone c g;have hown:a0P σ c:=⟨n,g⟩;refine⟨h.lt hown,.inr (h.mine c hown),fun⟨m,hm⟩=>?_⟩;have hm:c∈(if m=n then[]else σ.ow m).map (·.1):=hm
   split at hm
   simp_all;rename_i hmn;exact h.disj m n hmn c hm g;simp_all;simp_all;simp_all
 |dead|skp|nilp|ptr|vptr=>cases hK
theorem Rel.asV{ρ:Type}{B Γ N tm w σ}(h:Rel B Γ N tm w σ){q t a v}{K:t.den→AE→Rs ρ}{z:ρ}(ha:a0j (a0a w σ.ov) σ.g Γ.rt (Shr B w σ) a v∨b2y Γ a)(hK:Γ.asV q t a K=some z):
  ∃x Γ' σ',K x Γ'=some z∧Rel B Γ' N tm w σ'∧VOk (a0a w σ'.ov) (Shr B w σ') t x v∧Ev B w Γ σ Γ' σ'∧(q=true→Γ'=Γ∧σ'=σ):=by
 obtain⟨x,Γ',σ',h1,h2,h3,h4,h5,-⟩:=h.asVB ha hK
 grind
end Go.Ab
namespace Go.Ab
def a2t:Ty→(Nat→Option Value)→Bool
 |.int k,rd=>match rd 0 with
  |some (.int k' n)=>decide (k'=k)&&n==0
  |_=>false
 |.bool,rd=>match rd 0 with
  |some (.bool b)=>!b
  |_=>false
 |.str,rd=>match rd 0 with
  |some (.string s)=>s.size==0
  |_=>false
 |.unit,_=>true
 |.pair a b,rd=>a2t a rd&&a2t b (fun j=>rd (a.cells+j))
 |.arr n t,rd=>(a29 n).all fun i=>a2t t fun j=>rd (i*t.cells+j)
 |.list _ _,rd=>match rd 0 with
  |some (.slice none 0 0)=>true
  |_=>false
 |.nl _,rd=>match rd 0 with
  |some (.slice none 0 0)=>true
  |_=>false
theorem b4h{α:Type}{f:Nat→Option (α×a1g×List Nat)}{x:α}:∀(n i:Nat),(∀j,i≤j→j<i+n→f j=some (x,[],[]))→a0g f n i=some (a22 n x,[],[])
 |0,_,_=>rfl
 |n+1,i,h=>by
  simp only[a0g,h i (a17 _) (by omega),b4h n (i+1) (fun j h1 h2=>h j (by omega) (by omega))];rfl
theorem a6Y{m:Mem}:∀(t:Ty){rd:Nat→Option Value},a2t t rd=true→dec m t rd=some (t.dflt,[],[])
 |.int k,rd,h=>by
  simp[a2t]at h
  split at h
  rename_i k' n hv;simp at h;simp only[dec,hv,h.1,if_true,h.2];rfl;simp_all
 |.bool,rd,h=>by
  simp[a2t]at h
  split at h
  rename_i b hv;simp at h;simp only[dec,hv,h];rfl;simp_all
 |.str,rd,h=>by
  simp[a2t]at h
  split at h
  rename_i s hv;have h0:s.data.toList=[]:=by
   simp_all
  simp only[dec,hv,h0];rfl;simp_all
 |.unit,rd,h=>rfl
 |.pair a b,rd,h=>by
  simp only[a2t,bA]at h;exact a9e (a6Y a h.1) (a6Y b h.2)
 |.arr n t,rd,h=>by
  simp only[a2t,lA,List.mem_range]at h;exact b4h n 0 fun j _ hj=>a6Y t (h j (by omega))
 |.list o t,rd,h=>by
  simp[a2t]at h
  split at h
  rename_i hv;show a1j m o t.cells (dec m t) (rd 0)=_;rw[hv];rfl;simp_all
 |.nl t,rd,h=>by
  simp[a2t]at h
  split at h
  rename_i hv;simp only[dec,hv];rfl;simp_all
def a6n(P:Program)(τ:Ty)(t:TypeId):Bool:=
 match P.info? t with
 |some i=>i.size==τ.cells&&decide (i.bytes≤32768)&&(match i.zero with
  |some z=>z.cells.size==τ.cells&&a2t τ (fun j=>z.cells[j]?)&&(match z with|.agg _=>τ.isAgg|_=>!τ.isAgg)
  |none=>false)
 |none=>false
def a0u(P:Program):Ty→TypeId ⊕ (List Field×Nat)→Bool
 |.int k,.inl t=>a6n P (.int k) t&&(match P.underlying t with|some (.int k')=>decide (k'=k)|_=>false)
 |.bool,.inl t=>a6n P .bool t&&(match P.underlying t with|some .bool=>true|_=>false)
 |.str,.inl t=>a6n P .str t&&(match P.underlying t with|some .string=>true|_=>false)
 |.list o e,.inl t=>a6n P (.list o e) t&&(match P.underlying t with|some (.slice t')=>a0u P e (.inl t')&&decide (0<e.cells)|_=>false)
 |.nl e,.inl t=>a6n P (.nl e) t&&(match P.underlying t with|some (.slice t')=>a0u P e (.inl t')&&decide (0<e.cells)|_=>false)
 |.arr n e,.inl t=>a6n P (.arr n e) t&&(match P.underlying t with|some (.array n' t')=>n'==n&&a0u P e (.inl t')&&decide (0<e.cells)|_=>false)
 |.pair a b,.inl t=>a6n P (.pair a b) t&&(match P.underlying t with
  |some (.struct fs)=>(match fs.toList with
   |f::r=>f.offset==0&&a0u P a (.inl f.type)&&decide (0<a.cells)&&a0u P b (.inr (r,a.cells))
   | []=>false)
  |_=>false)
 |.unit,.inl t=>a6n P .unit t&&(match P.underlying t with|some (.struct fs)=>fs.isEmpty|_=>false)
 |.pair a b,.inr (f::r,off)=>f.offset==off&&a0u P a (.inl f.type)&&decide (0<a.cells)&&a0u P b (.inr (r,off+a.cells))
 |.unit,.inr ([],_)=>true
 |_,.inr _=>false
theorem a0L{P:Program}{τ:Ty}{t:TypeId}(h:a0u P τ (.inl t)=true):a6n P τ t=true:=by
 cases τ<;>simp only[a0u,bA]at h<;>exact h.1
structure Info (P:Program) (τ:Ty) (t:TypeId) where
 i:TypeInfo
 z:Value
 info:P.info? t=some i
 size:i.size=τ.cells
 bytes:i.bytes≤32768
 zero:i.zero=some z
 zsize:z.cells.size=τ.cells
 zok:a2t τ (fun j=>z.cells[j]?)=true
 zagg:∀cs,z=.agg cs→τ.isAgg=true
 znot:(∀cs,z≠.agg cs)→τ.isAgg=false
theorem a0E{P:Program}{τ:Ty}{t:TypeId}(h:a6n P τ t=true):Nonempty (Info P τ t):=by
 unfold a6n at h
 split at h
 ·rename_i i hi;simp at h;obtain⟨⟨h1,h2⟩,h3⟩:=h
  split at h3
  ·rename_i z hz;simp at h3;obtain⟨⟨h4,h5⟩,h6⟩:=h3;refine⟨⟨i,z,hi,h1,h2,hz,h4,h5,fun cs e=>?_,fun hne=>?_⟩⟩
   all_goals simp_all
  simp_all
 simp_all
theorem b0k{P:Program}{τ:Ty}{t:TypeId}(h:a0u P τ (.inl t)=true)(w:World):(isAgg t).run P w=.ok τ.isAgg w:=by
 cases τ<;>simp only[a0u,bA]at h<;>obtain⟨-,h⟩:=h<;>split at h<;>first|(rename_i hu;simp[isAgg,run_underlying hu,Ty.isAgg];done)|cases h
theorem Info.sizeOf{P:Program}{τ:Ty}{t:TypeId}(I:Info P τ t)(w:World):(sizeOf t).run P w=.ok τ.cells w:=by
 simp[Go.sizeOf,typeInfo,I.info,I.size]
theorem Info.typeInfo{P:Program}{τ:Ty}{t:TypeId}(I:Info P τ t)(w:World):(typeInfo t).run P w=.ok I.i w:=by
 simp[Go.typeInfo,I.info]
theorem Info.zeroValue{P:Program}{τ:Ty}{t:TypeId}(I:Info P τ t)(w:World):(zeroValue t).run P w=.ok I.z w:=by
 simp[Go.zeroValue,Go.typeInfo,I.info,I.zero]
theorem a8r{m:Mem}:∀(t:Ty){rd:Nat→Option Value}{x o r},dec m t rd=some (x,o,r)→∀j,j<t.cells→∃v,rd j=some v∧a1v v=true
 |.int k,rd,x,o,r,h,j,hj=>by
  have hj0:j=0:=by simp_all[Ty.cells]
  subst hj0;simp[dec]at h
  split at h
  rename_i hv;exact⟨_,hv,rfl⟩;simp_all
 |.bool,rd,x,o,r,h,j,hj=>by
  have hj0:j=0:=by simp_all[Ty.cells]
  subst hj0;simp[dec]at h
  split at h
  rename_i hv;exact⟨_,hv,rfl⟩;simp_all
 |.str,rd,x,o,r,h,j,hj=>by
  have hj0:j=0:=by simp_all[Ty.cells]
  subst hj0;simp[dec]at h
  split at h
  rename_i hv;exact⟨_,hv,rfl⟩;simp_all
 |.unit,rd,x,o,r,h,j,hj=>by simp[Ty.cells]at hj
 |.pair a b,rd,x,o,r,h,j,hj=>by
  obtain⟨x1,o1,r1,x2,o2,r2,h1,h2,-⟩:=a2s h
  by_cases hja:j<a.cells
  exact a8r a h1 j hja
  have:=a8r b h2 (j-a.cells) (by simp only[Ty.cells]at hj;omega)
  rwa [show a.cells+(j-a.cells)=j from by omega]at this
 |.arr n t,rd,x,o,r,h,j,hj=>by
  have h:a0g (fun i=>dec m t fun j=>rd (i*t.cells+j)) n 0=some (x,o,r):=h;simp[Ty.cells]at hj;have hc:0<t.cells:=by
   grind
  have hi:j / t.cells<n:=Nat.div_lt_of_lt_mul (by grind);obtain⟨y,o',r',A,B,A',B',hf,-⟩:=a0T n 0 (j / t.cells) h hi
  have:=a8r t hf (j%t.cells) (Nat.mod_lt _ hc)
  simp_all[Nat.div_add_mod']
 |.list ow t,rd,x,o,r,h,j,hj=>by
  have hj0:j=0:=by simp_all[Ty.cells]
  subst hj0;have h:a1j m ow t.cells (dec m t) (rd 0)=some (x,o,r):=h;unfold a1j at h
  split at h
  rename_i hv;exact⟨_,hv,rfl⟩;rename_i hv;exact⟨_,hv,rfl⟩;simp_all
 |.nl t,rd,x,o,r,h,j,hj=>by
  have hj0:j=0:=by simp_all[Ty.cells]
  subst hj0;exact⟨_,(c1d h).1,rfl⟩
theorem b6e{t:Ty}(h:t.isAgg=false):t.cells=1:=by
 cases t<;>first|rfl|cases h
theorem b5G{P:Program}{w:World}{m:Mem}{τ:Ty}{t:TypeId}{b o:Nat}{x R}{Sh:Nat→Prop}(ht:a0u P τ (.inl t)=true)(h:dec m τ ((Src.at b o).rd m)=some (x,[],R))
  (hc:∀j,j<τ.cells→w.cell? ⟨b,o+j,none⟩=m b (o+j))(hR:∀c∈R,Sh c):
  ∃v,(Instr.loadAt t (.pointer (some ⟨b,o,none⟩))).run P w=.ok v w∧VOk m Sh τ x v:=by
 obtain⟨I⟩:=a0E (a0L ht);have hcells:=a8r τ h;cases hagg:τ.isAgg with
 |false=>
  have h1:=b6e hagg;obtain⟨v,hv,hs⟩:=hcells 0 (by omega);have hw:w.cell? ⟨b,o,none⟩=some v:=by have:=hc 0 (by omega);simp at this;rw[this];exact hv
  refine⟨v,?_,VOk.one hagg hs (a0x τ h (fun j hj=>?_) (fun _ _ _=>rfl)) hR h1⟩;simp[Instr.loadAt,Instr.sureAddr,loadVar,b0k ht,hagg,hw];have hj0:j=0:=by omega
  subst hj0;rw[hv];rfl
 |true=>
  let cs:List Value:=(a29 τ.cells).map fun j=>(m b (o+j)).getD undef
  have hcs:∀j v,cs[j]?=some v→w.cell? ((⟨b,o,none⟩:Addr).add j)=some v:=by
   intro j v hj;simp only[cs,a34]at hj;have hjl:j<τ.cells:=by
    grind
   rw[List.getElem?_range hjl]at hj;simp at hj;obtain⟨u,hu,-⟩:=hcells j hjl;have hu':m b (o+j)=some u:=hu;simp_all[Addr.add_lit]
  have hlen:cs.length=τ.cells:=by grind
  refine⟨.agg cs.toArray,?_,fun _=>⟨_,rfl,by omega⟩,fun g=>(by simp_all),R,?_,hR⟩
  have:=run_loadCells_list (P:=P) w ⟨b,o,none⟩ cs hcs
  rw[hlen]at this;simp[Instr.loadAt,Instr.sureAddr,loadVar,b0k ht,hagg,I.sizeOf,this];refine a0x τ h (fun j hj=>?_) (fun _ _ _=>rfl)
  grind[Value.cells,Src.rd]
theorem VOk.cells{m Sh}{τ:Ty}{x:τ.den}{v:Value}(h:VOk m Sh τ x v):v.cells.size=τ.cells∧∀u∈v.cells.toList,a1v u=true:=by
 obtain⟨h1,h2,R,h3,h4⟩:=h;have hsz:v.cells.size=τ.cells:=by
  cases hagg:τ.isAgg with
  |true=>obtain⟨cs,rfl,hcs⟩:=h1 hagg;exact hcs
  |false=>
   have:=h2 hagg
   rw[b6e hagg];cases v<;>first|rfl|cases this
 refine⟨hsz,fun u hu=>?_⟩;obtain⟨j,hj,rfl⟩:=List.getElem_of_mem hu
 grind[a8r]
theorem a9v{v:Value}(h:a1v v=true):v.oneCell'=true:=by
 cases v<;>first|rfl|cases h
theorem a4x(b:Nat):∀(vs:List Value)(o:Nat)(w:World)(c:Nat),c≠b→(w.setCells b o vs).heap[c]?=w.heap[c]?
 | [],_,_,_,_=>rfl
 |v::r,o,w,c,h=>by
  rw[World.setCells,a4x b r (o+1) _ c h,a9J,if_neg h]
theorem a6K(b:Nat):∀(vs:List Value)(o:Nat)(w:World),(w.setCells b o vs).heap.size=w.heap.size
 | [],_,_=>rfl
 |v::r,o,w=>by rw[World.setCells,a6K b r (o+1),World.size_setCell]
theorem a0Z.setCells{b0 k:Nat}(b:Nat):∀(vs:List Value)(o:Nat){w:World},a0Z w b0 k→a0Z (w.setCells b o vs) b0 k
 | [],_,_,h=>h
 |_::r,o,_,h=>a0Z.setCells b r (o+1) (h.setCell _ _)
theorem a8N(b:Nat):∀(vs:List Value)(o:Nat)(w:World)(k:Nat),a0Z w b k→o+vs.length≤k→∀c j,
  (w.setCells b o vs).cell? ⟨c,j,none⟩=if c=b∧o≤j∧j<o+vs.length then vs[j-o]? else w.cell? ⟨c,j,none⟩
 | [],o,w,k,hf,hk,c,j=>by
  rw[if_neg (by simp)];rfl
 |v::r,o,w,k,hf,hk,c,j=>by
  simp at hk;rw[World.setCells,a8N b r (o+1) _ k (hf.setCell _ _) (by omega) c j]
  by_cases h1:c=b∧o+1≤j∧j<o+1+r.length
  grind
  ·rw[if_neg h1]
   by_cases h2:c=b∧j=o
   obtain⟨rfl,rfl⟩:=h2;obtain⟨u,hu⟩:=a27.1 (hf.cell (o:=j) (by omega)).1;rw[World.cell?_setCell_same _ _ _ hu,if_pos ⟨rfl,a17 _,by simp⟩]
   simp
   ·rw[World.cell?_setCell_other,if_neg]
    all_goals grind
theorem c1f{P:Program}{w:World}{τ:Ty}{t:TypeId}{v:Value}{b o k:Nat}(ht:a0u P τ (.inl t)=true)(h1:v.cells.size=τ.cells)(h2:∀u∈v.cells.toList,a1v u=true)(hf:a0Z w b k)(hk:o+τ.cells≤k):
  (Instr.storeAt t (.pointer (some ⟨b,o,none⟩)) v).run P w=.ok () (w.setCells b o v.cells.toList):=by
 obtain⟨I⟩:=a0E (a0L ht);have hlen:v.cells.toList.length=τ.cells:=by omega
 have:=run_storeCells_cells (P:=P) b o v.cells.toList 0 w (fun j hj=>(hf.cell (o:=o+0+j) (by omega)).1) (fun j hj=>(hf.cell (o:=o+0+j) (by omega)).2) (fun u hu=>a9v (h2 u hu))
 simp[Instr.storeAt,Instr.sureAddr,storeVar,I.sizeOf,h1];omega
theorem c2U{P:Program}{w:World}{m Sh}{τ:Ty}{t:TypeId}{x:τ.den}{v:Value}{b o k:Nat}(ht:a0u P τ (.inl t)=true)(hv:VOk m Sh τ x v)(hf:a0Z w b k)(hk:o+τ.cells≤k):
  (Instr.storeAt t (.pointer (some ⟨b,o,none⟩)) v).run P w=.ok () (w.setCells b o v.cells.toList):=
 c1f ht hv.cells.1 hv.cells.2 hf hk
theorem b5H{P:Program}:∀(f:Nat)(τ:Ty)(fs:List Field)(off:Nat),a0u P τ (.inr (fs,off))=true→a2J τ f=true→
  ∃fl τ' k,fs[f]?=some fl∧fl.offset=off+k∧a0u P τ' (.inl fl.type)=true∧0<τ'.cells∧∀(m:Mem) b o,loc m τ (.at b o) (a1A f)=some (τ',.at b (o+k))
 |0,τ,fs,off,h,hf=>by
  cases τ with
  |pair a b=>
   cases fs with
   |nil=>simp[a0u]at h
   |cons fl r=>
    simp[a0u]at h;exact⟨fl,a,0,rfl,by omega,h.1.1.2,h.1.2,fun _ _ _=>rfl⟩
  |_=>simp[a2J]at hf
 |f+1,τ,fs,off,h,hf=>by
  cases τ with
  |pair a b=>
   cases fs with
   |nil=>simp[a0u]at h
   |cons fl r=>
    simp only[a0u,bA]at h;obtain⟨fl',τ',k,h1,h2,h3,h4,h5⟩:=b5H f b r (off+a.cells) h.2 hf;exact⟨fl',τ',a.cells+k,by simp_all,by omega,h3,h4,fun m b' o=>by
     have:=h5 m b' (o+a.cells)
     rw[show o+a.cells+k=o+(a.cells+k)from by omega]at this;exact this⟩
  |_=>simp[a2J]at hf
theorem b4i{P:Program}{τ:Ty}{t:TypeId}{f:Nat}(h:a0u P τ (.inl t)=true)(hf:a2J τ f=true):∃fs:Array Field,P.underlying t=some (.struct fs)∧a0u P τ (.inr (fs.toList,0))=true:=by
 cases τ with
 |pair a b=>
  simp[a0u]at h
  grind[a0u]
 |_=>cases f<;>simp[a2J]at hf
theorem b8c{P:Program}{w:World}{τ:Ty}{t:TypeId}{f b o:Nat}(h:a0u P τ (.inl t)=true)(hf:a2J τ f=true):
  ∃τ' k,(Instr.fieldAt t (.pointer (some ⟨b,o,none⟩)) f).run P w=.ok (.pointer (some ⟨b,o+k,none⟩)) w∧(∀(m:Mem) b o,loc m τ (.at b o) (a1A f)=some (τ',.at b (o+k))):=by
 obtain⟨fs,hu,hs⟩:=b4i h hf;obtain⟨fl,τ',k,h1,h2,h3,h4,h5⟩:=b5H f τ _ 0 hs hf;obtain⟨I⟩:=a0E (a0L h3);have h1':fs[f]?=some fl:=by simp_all
 refine⟨τ',k,?_,h5⟩;have hne:¬ (τ'.cells=0):=by omega
 simp[Instr.fieldAt,run_underlying hu,h1',Instr.sureAddr,fieldPlace,I.sizeOf,hne,Addr.add_lit,h2]
theorem a1X{P:Program}{o:Bool}{e:Ty}{t:TypeId}(h:a0u P (.list o e) (.inl t)=true):∃t',P.underlying t=some (.slice t')∧a0u P e (.inl t')=true∧0<e.cells:=by
 simp[a0u]at h
 grind
theorem b1S{P:Program}{n:Nat}{e:Ty}{t:TypeId}(h:a0u P (.arr n e) (.inl t)=true):∃t',P.underlying t=some (.array n t')∧a0u P e (.inl t')=true∧0<e.cells:=by
 simp[a0u]at h
 grind
theorem c8w(τ:Ty):∀rd,a2t τ.sh rd=a2t τ rd:=by
 induction τ with
 |pair a b iha ihb=>simp_all[Ty.sh,a2t,Ty.cells_sh]
 |arr n t ih=>simp_all[Ty.sh,a2t,Ty.cells_sh]
 |list o t _=>intro rd;rfl
 |nl t _=>simp_all[Ty.sh,a2t]
 |_=>intro rd;rfl
theorem a3C{P:Program}:∀(τ:Ty)(s:TypeId ⊕ (List Field×Nat)),a0u P τ.sh s=a0u P τ s:=by
 have hz:=c8w;have ha:∀τ:Ty,τ.sh.isAgg=τ.isAgg:=by intro τ;cases τ<;>rfl
 have hb:∀(τ:Ty) t,a6n P τ.sh t=a6n P τ t:=by
  simp_all[a6n,Ty.cells_sh]
 intro τ
 induction τ with
 |pair a b iha ihb=>
  intro s;cases s with
  |inl t=>
   grind[Ty.sh,a0u,Ty.cells_sh]
  |inr p=>
   obtain⟨fs,off⟩:=p;cases fs<;>simp only[Ty.sh,a0u,iha,ihb,Ty.cells_sh]
 |list o t ih=>
  grind[Ty.sh,a0u,Ty.cells_sh]
 |nl t ih=>
  grind[Ty.sh,a0u,Ty.cells_sh]
 |arr n t ih=>
  grind[Ty.sh,a0u,Ty.cells_sh]
 |_=>intro s;rfl
end Go.Ab
namespace Go.Ab
def a0p(a:Act):Nat→Value:=fun i=>a.tmps.getD i undef
def a1u(N:Nat):Operand→Bool
 |.tmp t=>decide (t<N)
 |_=>true
def fits(N:Nat)(o:Oper):Bool:=o.op.operands.toList.all (a1u N)&&(match o.dst with|some d=>decide (d<N)|none=>true)
def c3R(P:Program)(τ:Ty)(t:TypeId):Prop:=
 ∀(m:Mem) Sh (x y:τ.den) u v w xo yo,VOk m Sh τ x u→VOk m Sh τ y v→
  ((eqGuard .eql t xo yo u v).run P w=.ok () w∧(binOp .eql t u v).run P w=.ok (.bool (eqT τ x y)) w)∧
  ((eqGuard .neq t xo yo u v).run P w=.ok () w∧(binOp .neq t u v).run P w=.ok (.bool (!eqT τ x y)) w)
structure CxTy (P:Program) (cx:Cx):Prop where
 T:∀t τ,cx.T t=some τ→τ.sh=τ∧a0u P τ (.inl t)=true

 Q:∀t,cx.Q t=true→∃e,P.underlying t=some (.pointer e)
 E:∀t τ,cx.E t=true→cx.T t=some τ→τ.isAgg=true→c3R P τ t
theorem b6f{a:Act}{d:Nat}{v:Value}(i:Nat)(hi:i<a.tmps.size):a0p (a.put (some d) v) i=if i=d then v else a0p a i:=by
 simp[a0p,Act.put]
 grind
theorem b6g{a:Act}{d:Option Nat}{v:Value}:(a.put d v).tmps.size=a.tmps.size:=by
 cases d<;>simp[Act.put]
theorem b5I{a:Act}{d:Option Nat}{v:Value}:(a.put d v).defers=a.defers:=by
 cases d<;>rfl
section
variable {P:Program} {B:Base} {N:Nat} {ρ:Type} {Γ:AE} {a:Act} {w:World} {σ:Gh}
theorem Rel.opd(h:Rel B Γ N (a0p a) w σ){x:Operand}(hx:a1u N x=true):a0j (a0a w σ.ov) σ.g Γ.rt (Shr B w σ) (Γ.opd x) (a.eval x):=by
 cases x with
 |tmp t=>
  simp[a1u]at hx
  have:=h.slots t hx
  simp[AE.opd,AE.get]
  revert this
  cases Γ.sl t with
  |one v=>exact fun h=>h
  |cmp c vs=>exact fun _=>trivial
 |const v=>
  simp[AE.opd,Act.eval];unfold b8I;split;exact a0j.mk_int _;exact a0j.mk_bool _;exact a0j.mk_str _;rfl;rfl;trivial
 |global g=>rfl
 |func f=>trivial
theorem Rel.putd(h:Rel B Γ N (a0p a) w σ)(hN:a.tmps.size=N){d:Nat}{sv:SV}{v:Value}(hv:d<N→b1R (a0a w σ.ov) σ.g Γ.rt (Shr B w σ) sv v):
  Rel B (Γ.put d sv) N (a0p (a.put (some d) v)) w σ:=
 h.put hv fun i hi=>b6f i (by omega)
def a0w(P:Program)(B:Base)(N:Nat)(o:Oper)(a:Act)(w:World)(K:AE→Rs ρ)(z:ρ):Prop:=
 ∃v w' Γ' σ',((execOp a.eval o).run P w=.ok (.value v) w'∨((execOp a.eval o).run P w=.ok .skip w'∧v=undef))∧Rel B Γ' N (a0p (a.put o.dst v)) w' σ'∧K Γ'=some z
theorem a0w.set{o:Oper}{K:AE→Rs ρ}{z:ρ}{d:Nat}{v:Value}{w':World}{Γ':AE}{σ':Gh}{av:AV}(hd:o.dst=some d)(hN:a.tmps.size=N)(hrun:(execOp a.eval o).run P w=.ok (.value v) w')
  (h:Rel B Γ' N (a0p a) w' σ')(hv:a0j (a0a w' σ'.ov) σ'.g Γ'.rt (Shr B w' σ') av v)(hK:K (Γ'.set d av)=some z):a0w P B N o a w K z:=
 ⟨v,w',Γ'.set d av,σ',.inl hrun,by rw[hd];exact h.putd hN (fun _=>hv),hK⟩
theorem a0X{o:Oper}(h:fits N o=true):∀x∈o.op.operands.toList,a1u N x=true:=by
 simp only[fits,bA,lA]at h
 grind
theorem a0i{β:Type}{b:Bool}{x y:Option β}{z:β}(h:(bif b then x else y)=some z):(b=true∧x=some z)∨(b=false∧y=some z):=by
 grind
theorem d3o{o:Oper}{x:Operand}{d:Nat}{cx:Cx}{q:Bool}{K:AE→Rs ρ}{z:ρ}(ho:o.op=.move x)(hd:o.dst=some d)(h:Rel B Γ N (a0p a) w σ)(hN:a.tmps.size=N)(hf:fits N o=true)
  (hz:aop cx q o Γ K=some z):a0w P B N o a w K z:=by
 have hx:a1u N x=true:=a0X hf x (by simp[ho,Op.operands]);have hrun:(execOp a.eval o).run P w=.ok (.value (a.eval x)) w:=by simp[execOp,ho]
 simp[aop,ho,hd]at hz;cases x with
 |tmp t=>
  simp at hz;have ht:t<N:=by simpa[a1u]using hx
  exact⟨_,w,_,σ,.inl hrun,by rw[hd];exact h.putd hN (fun _=>h.slots t ht),hz⟩
 |const v=>exact a0w.set hd hN hrun h (h.opd hx) hz
 |global g=>exact a0w.set hd hN hrun h (h.opd hx) hz
 |func f=>exact a0w.set hd hN hrun h (h.opd hx) hz
theorem d3p{o:Oper}{c x y:Operand}{d:Nat}{cx:Cx}{q:Bool}{K:AE→Rs ρ}{z:ρ}(ho:o.op=.pick c x y)(hd:o.dst=some d)(h:Rel B Γ N (a0p a) w σ)(hN:a.tmps.size=N)(hf:fits N o=true)
  (hz:aop cx q o Γ K=some z):a0w P B N o a w K z:=by
 have hc:=h.opd (a0X hf c (by simp[ho,Op.operands]));have hx:=h.opd (a0X hf x (by simp[ho,Op.operands]));have hy:=h.opd (a0X hf y (by simp[ho,Op.operands]));simp[aop,ho,hd,c2D]at hz
 split at hz
 ·rename_i b hcb;rw[hcb]at hc;have hcv:=a0j.bool hc;have hrun:(execOp a.eval o).run P w=.ok (.value (if b then a.eval x else a.eval y)) w:=by simp_all[execOp,asBool]
  split at hz
  rename_i u v hu hv;rw[hu]at hx;rw[hv]at hy;refine a0w.set hd hN hrun h ?_ hz;rw[a0j.bool hx,a0j.bool hy];cases b<;>exact a0j.mk_bool _
  ·rcases a0i hz with⟨rfl,hz⟩|⟨-,hz⟩
   all_goals grind[a0w.set]
  ·rcases a0i hz with⟨-,hz⟩|⟨rfl,hz⟩
   all_goals grind[a0w.set]
  simp_all
 simp_all
theorem c7G{o:Oper}{x:Operand}{d:Nat}{cx:Cx}{q:Bool}{K:AE→Rs ρ}{z:ρ}(ho:o.op=.nilCheck x)(hd:o.dst=some d)(h:Rel B Γ N (a0p a) w σ)(hN:a.tmps.size=N)(hf:fits N o=true)
  (hz:aop cx q o Γ K=some z):a0w P B N o a w K z:=by
 have hx:=h.opd (a0X hf x (by simp[ho,Op.operands]));simp[aop,ho,hd]at hz
 split at hz
 rename_i n p he;rw[he]at hx;obtain⟨r,t,b,off,h1,h2,h3⟩:=hx;exact a0w.set hd hN (v:=.pointer (some ⟨b,off,none⟩)) (by simp[execOp,ho,h3]) h (show a0j _ _ _ _ (.ptr n p) _ from⟨r,t,b,off,h1,h2,rfl⟩) hz;rename_i t y he;rw[he]at hx;obtain⟨b,off,R,h1,h2⟩:=hx;exact a0w.set hd hN (v:=.pointer (some ⟨b,off,none⟩)) (by simp[execOp,ho,h1]) h (show a0j _ _ _ _ (.vptr t y) _ from⟨b,off,R,rfl,h2⟩) hz;simp_all
theorem c8x{o:Oper}{t:Nat}{i d:Nat}{cx:Cx}{q:Bool}{K:AE→Rs ρ}{z:ρ}(ho:o.op=.extract (.tmp t) i)(hd:o.dst=some d)(h:Rel B Γ N (a0p a) w σ)(hN:a.tmps.size=N)(hf:fits N o=true)
  (hz:aop cx q o Γ K=some z):a0w P B N o a w K z:=by
 have ht:t<N:=by have:=a0X hf (.tmp t) (by simp[ho,Op.operands]);simpa[a1u]using this
 have hs:=h.slots t ht;simp[aop,ho,hd]at hz
 split at hz
 rename_i vs hvs;rw[hvs]at hs;obtain⟨arr,h1,h2⟩:=hs
 split at hz
 rename_i v hv;obtain⟨u,h3,h4⟩:=h2 i v hv;refine a0w.set hd hN (v:=u) ?_ h h4 hz;have h1':a.eval (.tmp t)=.tuple arr:=h1;simp_all[execOp,Instr.extract];simp_all;simp_all
theorem d3q{o:Oper}{op:UnOp}{ty:TypeId}{x:Operand}{d:Nat}{cx:Cx}{q:Bool}{K:AE→Rs ρ}{z:ρ}(ho:o.op=.unOp op ty x)(hd:o.dst=some d)(h:Rel B Γ N (a0p a) w σ)(hN:a.tmps.size=N)(hf:fits N o=true)
  (hz:aop cx q o Γ K=some z):a0w P B N o a w K z:=by
 have hx:=h.opd (a0X hf x (by simp[ho,Op.operands]));simp only[aop,ho,hd,AE.un]at hz
 split at hz
 rename_i b he;rw[he]at hx;exact a0w.set hd hN (by simp[execOp,ho,a0j.bool hx,Op.unary]) h (a0j.mk_bool _) hz;rename_i k n he;rw[he]at hx;exact a0w.set hd hN (by simp[execOp,ho,a0j.int hx,Op.unary,Op.intArith]) h (a0j.mk_int _) hz;rename_i k n he;rw[he]at hx;refine a0w.set hd hN (v:=.int k (bits k .xor (if k.signed then -1 else k.max) n)) ?_ h (a0j.mk_int _) hz
 simp[execOp,ho,a0j.int hx,Op.unary,Op.intBits,bits];simp_all
theorem d0c{op:BinOp}{k:IntKind}{x y:Int}{K:AV→Rs ρ}{z:ρ}{t:TypeId}{k':IntKind}(hk:b8J op=true∨k=k')(hz:b4F op k x y K=some z):
  ∃av v,K av=some z∧(∀m g rt Sh,a0j m g rt Sh av v)∧∀w,(binOp op t (.int k x) (.int k' y)).run P w=.ok v w:=by
 by_cases hs:b8J op=true
 cases op<;>simp[b8J]at hs;simp[b4F]at hz;rcases a0i hz with⟨-,hz⟩|⟨hy,hz⟩
 grind
 refine⟨_,_,hz,fun _ _ _ _=>a0j.mk_int _,fun w=>?_⟩
 have:¬ y<0:=by simp_all
 simp[binOp,Op.shift,this,a0D];simp[b4F]at hz;rcases a0i hz with⟨-,hz⟩|⟨hy,hz⟩
 grind
 refine⟨_,_,hz,fun _ _ _ _=>a0j.mk_int _,fun w=>?_⟩
 have:¬ y<0:=by simp_all
 simp[binOp,Op.shift,this,a0m]
 ·have hkk:k=k':=by simp_all
  subst hkk;cases op<;>simp[b8J]at hs<;>simp only[b4F]at hz
  case add=>exact⟨_,_,hz,fun _ _ _ _=>a0j.mk_int _,fun w=>by simp[binOp,Op.intArith]⟩
  case sub=>exact⟨_,_,hz,fun _ _ _ _=>a0j.mk_int _,fun w=>by simp[binOp,Op.intArith]⟩
  case mul=>exact⟨_,_,hz,fun _ _ _ _=>a0j.mk_int _,fun w=>by simp[binOp,Op.intArith]⟩
  case quo=>
   rcases a0i hz with⟨-,hz⟩|⟨hy,hz⟩
   grind
   have:¬ y=0:=by simp_all
   exact⟨_,_,hz,fun _ _ _ _=>a0j.mk_int _,fun w=>by simp_all[binOp,Op.intDiv]⟩
  case rem=>
   rcases a0i hz with⟨-,hz⟩|⟨hy,hz⟩
   grind
   have:¬ y=0:=by simp_all
   exact⟨_,_,hz,fun _ _ _ _=>a0j.mk_int _,fun w=>by simp_all[binOp,Op.intDiv]⟩
  case and=>exact⟨_,_,hz,fun _ _ _ _=>a0j.mk_int _,fun w=>by simp[binOp,Op.intBits,bits]⟩
  case or=>exact⟨_,_,hz,fun _ _ _ _=>a0j.mk_int _,fun w=>by simp[binOp,Op.intBits,bits]⟩
  case xor=>exact⟨_,_,hz,fun _ _ _ _=>a0j.mk_int _,fun w=>by simp[binOp,Op.intBits,bits]⟩
  case andNot=>exact⟨_,_,hz,fun _ _ _ _=>a0j.mk_int _,fun w=>by simp[binOp,Op.intBits,bits]⟩
  case eql=>exact⟨_,_,hz,fun _ _ _ _=>a0j.mk_bool _,fun w=>by simp[binOp,Op.intCmp]⟩
  case neq=>exact⟨_,_,hz,fun _ _ _ _=>a0j.mk_bool _,fun w=>by simp[binOp,Op.intCmp]⟩
  case lss=>exact⟨_,_,hz,fun _ _ _ _=>a0j.mk_bool _,fun w=>by simp[binOp,Op.intCmp]⟩
  case leq=>exact⟨_,_,hz,fun _ _ _ _=>a0j.mk_bool _,fun w=>by simp[binOp,Op.intCmp]⟩
  case gtr=>exact⟨_,_,hz,fun _ _ _ _=>a0j.mk_bool _,fun w=>by simp[binOp,Op.intCmp]⟩
  case geq=>exact⟨_,_,hz,fun _ _ _ _=>a0j.mk_bool _,fun w=>by simp[binOp,Op.intCmp]⟩
theorem d0Y{s s':ByteArray}:((s.data.toList.map fun b=>(b.toNat:Int))==(s'.data.toList.map fun b=>(b.toNat:Int)))=(s.toList==s'.toList):=by
 have h1:s.toList=s.data.toList:=ByteArray.toList_eq s;have h2:s'.toList=s'.data.toList:=ByteArray.toList_eq s';rw[h1,h2,Bool.eq_iff_iff];simp only[beq_iff_eq]
 grind[List.map_inj_right,UInt8.toNat_inj]
theorem a7W{o:Oper}{op:BinOp}{ty ty':TypeId}{x y:Operand}{v:Value}(ho:o.op=.binOp op ty x y ty')(h1:(eqGuard op ty x y (a.eval x) (a.eval y)).run P w=.ok () w)
  (h2:(binOp op ty (a.eval x) (a.eval y)).run P w=.ok v w):(execOp a.eval o).run P w=.ok (.value v) w:=by
 simp_all[execOp]
theorem d3r(op:BinOp)(t:TypeId)(x y:Operand)(k:IntKind)(n:Int)(v:Value):(eqGuard op t x y (.int k n) v).run P w=.ok () w:=by
 rw[eqGuard_at_int];rfl
theorem d1x(op:BinOp)(t:TypeId)(x y:Operand)(n:Bool)(v:Value):(eqGuard op t x y (.bool n) v).run P w=.ok () w:=by
 simp[eqGuard_at_bool]
theorem d3s(op:BinOp)(t:TypeId)(x y:Operand)(n:ByteArray)(v:Value):(eqGuard op t x y (.string n) v).run P w=.ok () w:=by
 simp[eqGuard_at_string]
theorem b7m(op:BinOp)(t:TypeId)(x y:Operand)(n:Option Addr)(v:Value):(eqGuard op t x y (.pointer n) v).run P w=.ok () w:=by
 simp[eqGuard_at_pointer]
theorem d4C{cx:Cx}{op:BinOp}{ty:Nat}{t t':Ty}{u:t.den}{v:t'.den}{K:AV→Rs ρ}(hi:¬ ∃k k',t=.int k∧t'=.int k')(hb:¬ (t=.bool∧t'=.bool))(hs:¬ (t=.str∧t'=.str)):
  b2u cx op ty (.val t u) (.val t' v) K=b8K cx op ty t u t' v K:=by
 cases t<;>cases t'<;>first|rfl|exact absurd ⟨_,_,rfl,rfl⟩ hi|exact absurd ⟨rfl,rfl⟩ hb|simp_all
theorem c8y(n:Nat){ty:TypeId}(hu:P.underlying ty=some .bool)(u v:Bool)(w:World):(Op.equalIn (n+1) ty (.bool u) (.bool v)).run P w=.ok (u==v) w:=by
 simp[Op.equalIn,run_underlying hu]
theorem c4H{ty:TypeId}(hu:P.underlying ty=some .bool)(u v:Bool)(w:World):(Op.equal ty (.bool u) (.bool v)).run P w=.ok (u==v) w:=c8y 9999 hu u v w
theorem d0d(n:Nat){ty e:TypeId}(hu:P.underlying ty=some (.pointer e))(u v:Option Addr)(h:u=none∨v=none)(w:World):
  (Op.equalIn (n+1) ty (.pointer u) (.pointer v)).run P w=.ok (u.isNone&&v.isNone) w:=by
 rcases h with rfl|rfl;simp[Op.equalIn,run_underlying hu];cases u<;>simp[Op.equalIn,run_underlying hu]
theorem c7H(k:Nat){ty e:TypeId}(hu:P.underlying ty=some (.slice e))(A:Option Addr)(n c:Nat)(w:World):
  (Op.equalIn (k+1) ty (.slice A n c) (.slice none 0 0)).run P w=.ok A.isNone w:=by
 cases A<;>simp[Op.equalIn,run_underlying hu]
theorem c8z{ty:TypeId}(u v:Bool)(w:World):(binOp .eql ty (.bool u) (.bool v)).run P w=((Op.equal ty (.bool u) (.bool v)).run P w).andThen fun b w'=>.ok (.bool b) w':=by
 simp_all[binOp]
theorem c8A{ty:TypeId}(u v:Bool)(w:World):(binOp .neq ty (.bool u) (.bool v)).run P w=((Op.equal ty (.bool u) (.bool v)).run P w).andThen fun b w'=>.ok (.bool !b) w':=by
 simp_all[binOp]
theorem c2V{ty:TypeId}(u v:Option Addr)(w:World):(binOp .eql ty (.pointer u) (.pointer v)).run P w=((Op.equal ty (.pointer u) (.pointer v)).run P w).andThen fun b w'=>.ok (.bool b) w':=by
 simp_all[binOp]
theorem c2W{ty:TypeId}(u v:Option Addr)(w:World):(binOp .neq ty (.pointer u) (.pointer v)).run P w=((Op.equal ty (.pointer u) (.pointer v)).run P w).andThen fun b w'=>.ok (.bool !b) w':=by
 simp_all[binOp]
theorem d4D{cx:Cx}{op:BinOp}{ty:Nat}{u v:Bool}{K:AV→Rs ρ}{z:ρ}(hcx:CxTy P cx)(hz:b2u cx op ty (.val .bool u) (.val .bool v) K=some z):
  ∃r,K (.val .bool r)=some z∧(binOp op ty (.bool u) (.bool v)).run P w=.ok (.bool r) w:=by
 simp only[b2u]at hz
 split at hz
 rename_i hT;have hT':=(hcx.T ty _ hT).2;have hu:P.underlying ty=some .bool:=by
  simp[a0u]at hT'
  grind
 split at hz
 exact⟨_,hz,by simp_all[c8z,c4H]⟩;exact⟨_,hz,by rw[c8A,c4H hu];rfl⟩;simp_all;simp_all
theorem d6E{cx:Cx}{op:BinOp}{ty:Nat}{s s':ByteArray}{m g rt Sh}{K:AV→Rs ρ}{z:ρ}
  (hz:b2u cx op ty (.val .str (s.data.toList.map fun b=>(b.toNat:Int):List Int)) (.val .str (s'.data.toList.map fun b=>(b.toNat:Int):List Int)) K=some z):
  ∃r v,K r=some z∧a0j m g rt Sh r v∧(binOp op ty (.string s) (.string s')).run P w=.ok v w:=by
 simp only[b2u]at hz
 split at hz
 refine⟨_,_,hz,a0j.mk_bool _,?_⟩;simp_all[d0Y,binOp,Op.stringOp];refine⟨_,_,hz,a0j.mk_bool _,?_⟩;simp_all[bne,d0Y,binOp,Op.stringOp];rcases a0i hz with⟨hl,hz⟩|⟨-,hz⟩;have hl':s.size+s'.size<2147483648:=by simp_all
 refine⟨_,.string (s++s'),hz,?_,?_⟩
 have:=a0j.mk_str (m:=m) (g:=g) (rt:=rt) (Sh:=Sh) (s++s')
 simp_all
 have:¬ (9223372036854775807<(s.size:Int)+(s'.size:Int)):=by omega
 simp_all[binOp,Op.stringOp];simp_all;simp_all
theorem b1t{ty e:TypeId}(hu:P.underlying ty=some (.pointer e))(u v:Option Addr)(h:u=none∨v=none)(w:World):
  (Op.equal ty (.pointer u) (.pointer v)).run P w=.ok (u.isNone&&v.isNone) w:=d0d 9999 hu u v h w
theorem VOk.header{m Sh}{t:Ty}{l:List t.den}{v:Value}(h:VOk m Sh (.list false t) l v):
  ∃A n c,v=.slice A n c∧n=l.length∧n≤c∧(∀A',A=some A'→c=0∨A'.spot=none)∧(A=none→c=0):=by
 obtain⟨R,h1,h2⟩:=h.rd rfl rfl;have h1:a1j m false t.cells (dec m t) (some v)=some (l,[],R):=h1;unfold a1j at h1
 split at h1
 grind
 rename_i A n c hv;simp at hv
 split at h1
 rename_i hc
 split at h1
 grind
 rename_i xs os rs h3;have hn:=a0W n 0 h3
 grind
 simp_all;simp_all
theorem d1y{P:Program}{o:Bool}{e:Ty}{t:TypeId}(h:a0u P (.list o e) (.inl t)=true):∃t',P.underlying t=some (.slice t'):=by
 simp[a0u]at h
 grind
theorem d1z{o:Oper}{op:BinOp}{ty ty':TypeId}{x y:Operand}{d:Nat}{cx:Cx}{q:Bool}{K:AE→Rs ρ}{z:ρ}(hcx:CxTy P cx)(ho:o.op=.binOp op ty x y ty')(hd:o.dst=some d)
  (h:Rel B Γ N (a0p a) w σ)(hN:a.tmps.size=N)(hf:fits N o=true)(hz:aop cx q o Γ K=some z):a0w P B N o a w K z:=by
 have hx:=h.opd (a0X hf x (by simp[ho,Op.operands]));have hy:=h.opd (a0X hf y (by simp[ho,Op.operands]));simp[aop,ho,hd]at hz;rcases a0i hz with⟨-,hz⟩|⟨-,hz⟩
 ·
  split at hz
  case h_2=>grind
  rename_i e hnc
  split at hz
  grind
  ·unfold c8u at hnc
   split at hnc
   ·rename_i o1 e1 e2 l hT hax hay;simp at hnc;rw[hax]at hx;rw[hay]at hy;obtain⟨A,n,c,hv,hn,hnc',-,hA⟩:=VOk.header hx;have hy:a.eval y=.slice none 0 0:=hy;obtain⟨e',hu⟩:=d1y (hcx.T ty _ hT).2;have heq:(Op.equal ty (a.eval x) (a.eval y)).run P w=.ok A.isNone w:=by
     rw[hv,hy];exact c7H 9999 hu A n c w
    have hguard:(eqGuard op ty x y (a.eval x) (a.eval y)).run P w=.ok () w:=by simp_all[eqGuard_at_slice]
    have hne:e=false→A.isNone=false:=fun he=>by
     cases A with
     |some A=>rfl
     |none=>
      grind
    unfold d7h at hz
    split at hz
    ·have hK:K (Γ.set d (.val .bool A.isNone))=some z:=by
      rcases a0i hz with⟨-,hz⟩|⟨he,hz⟩
      ·obtain⟨z1,z2⟩:=c4C hz;cases hb:A.isNone
       all_goals omega
      grind
     exact a0w.set hd hN (v:=.bool A.isNone) (a7W ho hguard (by
      simp_all[binOp])) h (a0j.mk_bool _) hK
    ·have hK:K (Γ.set d (.val .bool (!A.isNone)))=some z:=by
      rcases a0i hz with⟨-,hz⟩|⟨he,hz⟩
      all_goals grind[c4C]
     exact a0w.set hd hN (v:=.bool (!A.isNone)) (a7W ho hguard (by
      simp_all[binOp])) h (a0j.mk_bool _) hK
    simp_all
   simp_all
 revert hz hx hy
 cases hax:Γ.opd x<;>cases hay:Γ.opd y<;>intro hx hy hz
 case val.val t u t' v=>
  by_cases hint:∃k k',t=.int k∧t'=.int k'
  obtain⟨k,k',rfl,rfl⟩:=hint;simp only[b2u]at hz
  split at hz
  rename_i hk;obtain⟨av,rv,hK,hav,hrv⟩:=d0c (P:=P) (t:=ty) (k':=k') (by simp_all) hz;have e1:=a0j.int hx;have e2:=a0j.int hy;exact a0w.set hd hN (a7W ho (by grind[d3r]) (by simp_all)) h (hav _ _ _ _) hK;simp_all
  by_cases hb:t=.bool∧t'=.bool
  obtain⟨rfl,rfl⟩:=hb;have e1:=a0j.bool hx;have e2:=a0j.bool hy;obtain⟨r,hK,hr⟩:=d4D (P:=P) (w:=w) hcx hz;exact a0w.set hd hN (a7W ho (by grind[d1x]) (by simp_all)) h (a0j.mk_bool _) hK
  by_cases hs:t=.str∧t'=.str
  obtain⟨rfl,rfl⟩:=hs;obtain⟨s,e1,rfl⟩:=a0j.str hx;obtain⟨s',e2,rfl⟩:=a0j.str hy;obtain⟨r,rv,hK,hrv,hr⟩:=d6E (P:=P) (w:=w) hz;exact a0w.set hd hN (a7W ho (by simp_all[d3s]) (by simp_all)) h hrv hK;rw[d4C hint hb hs]at hz;unfold b8K at hz
  split at hz
  rename_i ht;subst ht;rcases a0i hz with⟨hc,hz⟩|⟨-,hz⟩;simp at hc;have he:=hcx.E ty _ hc.1.1 hc.2 hc.1.2 (a0a w σ.ov) (Shr B w σ) u v (a.eval x) (a.eval y) w x y hx hy
  split at hz
  exact a0w.set hd hN (a7W ho he.1.1 he.1.2) h (a0j.mk_bool _) hz;exact a0w.set hd hN (a7W ho he.2.1 he.2.2) h (a0j.mk_bool _) hz;simp_all;simp_all;simp_all
 case nilp.nilp=>
  simp only[b2u]at hz
  split at hz
  rename_i hp;obtain⟨e,hu⟩:=hcx.Q ty hp;have e1:a.eval x=.pointer none:=hx;have e2:a.eval y=.pointer none:=hy
  split at hz
  exact a0w.set hd hN (v:=.bool true) (a7W ho (by simp_all[b7m]) (by rw[e1,e2,c2V,b1t hu none none (.inl rfl)];rfl)) h (a0j.mk_bool _) hz;exact a0w.set hd hN (v:=.bool false) (a7W ho (by simp_all[b7m]) (by rw[e1,e2,c2W,b1t hu none none (.inl rfl)];rfl)) h (a0j.mk_bool _) hz;simp_all;simp_all
 case ptr.nilp n p=>
  simp only[b2u]at hz
  split at hz
  rename_i hp;obtain⟨e,hu⟩:=hcx.Q ty hp;obtain⟨r,t,b,off,-,-,e1⟩:=hx;have e2:a.eval y=.pointer none:=hy
  split at hz
  exact a0w.set hd hN (v:=.bool false) (a7W ho (by simp_all[b7m]) (by rw[e1,e2,c2V,b1t hu (some ⟨b,off,none⟩) none (.inr rfl)];rfl)) h (a0j.mk_bool _) hz;exact a0w.set hd hN (v:=.bool true) (a7W ho (by simp_all[b7m]) (by rw[e1,e2,c2W,b1t hu (some ⟨b,off,none⟩) none (.inr rfl)];rfl)) h (a0j.mk_bool _) hz;simp_all;simp_all
 all_goals (simp only[b2u]at hz;cases hz)
end
end Go.Ab
namespace Go.Ab
theorem a3R{A:Addr}(h:A.spot=none)(k:Nat):A.add k=⟨A.block,A.off+k,none⟩:=by
 obtain⟨b,o,s⟩:=A;simp_all[Addr.add_lit]
theorem b1T{m:Mem}{t:Ty}{rd:Nat→Option Value}{x O R}(ht:t.shn=t)(h:dec m t rd=some (x,O,R)):O=[]:=by
 obtain⟨R',h1,-⟩:=b8N t h
 grind
theorem b7n{α:Type}{l:List α}{i:Int}{x:α}(h:a0r l i=some x):0≤i∧i.toNat<l.length∧l[i.toNat]?=some x:=by
 grind[a0r]
theorem VOk.elem{m Sh}{t:Ty}{l:List t.den}{v:Value}(ht:t.sh=t)(h:VOk m Sh (.list false t) l v){i:Nat}{x:t.den}(hx:l[i]?=some x):
  ∃A n c R,v=.slice (some A) n c∧A.spot=none∧n=l.length∧n≤c∧dec m t ((Src.at A.block (A.off+i*t.cells)).rd m)=some (x,[],R)∧Sh A.block∧∀b∈R,Sh b:=by
 obtain⟨R,h1,h2⟩:=h.rd rfl rfl;have h1:a1j m false t.cells (dec m t) (some v)=some (l,[],R):=h1;unfold a1j at h1
 split at h1
 simp_all;rename_i A n c hv;simp at hv
 split at h1
 rename_i hc
 split at h1
 grind
 rename_i xs os rs h3;simp[b9B]at h3;have hn:=a0W n 0 h3;simp at h1
 split at h1
 simp_all;simp only[sj,pJ]at h1;obtain⟨rfl,-,rfl⟩:=h1;have hi:i<n:=by grind
 obtain⟨y,o',r',A1,B1,A1',B1',hf,hy,e1,e2⟩:=a0T n 0 i h3 hi;rw[hx]at hy;simp at hy;subst hy;simp at hf;have ho:=b1T (Ty.shn_of_sh t ht) hf
 grind
 simp_all;simp_all
theorem VOk.window{m Sh}{t:Ty}{l:List t.den}{A:Option Addr}{n c lo hi:Nat}(h:VOk m Sh (.list false t) l (.slice A n c))(h1:lo≤hi)(h2:hi≤n){A':Option Addr}
  (hA:A'=if c=lo then A else A.map fun a=>a.add (lo*t.cells)):VOk m Sh (.list false t) ((l.take hi).drop lo) (.slice A' (hi-lo) (c-lo)):=by
 obtain⟨A0,n0,c0,e0,hn0,hc0,hsp,hnil⟩:=h.header;simp at e0;obtain⟨rfl,rfl,rfl⟩:=e0;have hsp':∀B,A'=some B→c-lo=0∨B.spot=none:=by
  intro B hB;rw[hA]at hB
  split at hB
  omega
  ·cases A with
   |none=>simp_all
   |some a=>
    simp at hB;rw[←hB,a3R ((hsp a rfl).resolve_left (by omega))]
    simp
 by_cases he:lo=hi
 ·subst he;have e:(l.take lo).drop lo=[]:=by simp
  rw[e];refine VOk.one (t:=.list false t) (R:=[]) rfl rfl ?_ (by simp) rfl;show a1j m false t.cells (dec m t) (some (.slice A' (lo-lo) (c-lo)))=_;cases A' with
  |none=>
   have hcl:c-lo=0:=by
    split at hA
    omega
    ·cases A with
     |none=>grind
     |some a=>simp_all
   simp[a1j,hcl];rfl
  |some B=>
   have hs:=hsp' B rfl;simp[a1j,hs,a0g];rfl
 ·obtain⟨R,h3,h4⟩:=h.rd rfl rfl;have h3:a1j m false t.cells (dec m t) (some (.slice A n c))=some (l,[],R):=h3;cases A with
  |none=>simp_all
  |some a=>
   have hsa:=(hsp a rfl).resolve_left (by omega);simp only[a1j,b9B]at h3;rw[if_pos ⟨.inr hsa,hc0⟩]at h3
   split at h3
   grind
   ·rename_i xs os rs h5;have hn:n≠0:=by omega
    simp only[a32,if_false,hn]at h3;simp only[sj,pJ]at h3;obtain⟨rfl,-,rfl⟩:=h3;have hA':A'=some ⟨a.block,a.off+lo*t.cells,none⟩:=by
     grind[a3R]
    subst hA';rw[show n=lo+((hi-lo)+(n-hi))from by omega]at h5;obtain⟨os1,rs1,os2,rs2,g1,g2,rfl,rfl⟩:=a4W lo _ 0 h5;obtain⟨os3,rs3,os4,rs4,g3,g4,rfl,rfl⟩:=a4W (hi-lo) _ (0+lo) g2;have hshift:∀(k i:Nat),a0g (fun i=>dec m t ((Src.at a.block (a.off+lo*t.cells+i*t.cells)).rd m)) k i=a0g (fun i=>dec m t ((Src.at a.block (a.off+i*t.cells)).rd m)) k (lo+i):=by
     intro k
     induction k with
     |zero=>intro i;rfl
     |succ k ih=>
      grind[a0g]
    refine VOk.one (t:=.list false t) (R:=a.block::(os3.map (·.1)++rs3)) rfl rfl ?_ (fun b hb=>h4 b ?_) rfl;show a1j m false t.cells (dec m t) (some (.slice (some ⟨a.block,a.off+lo*t.cells,none⟩) (hi-lo) (c-lo)))=_;simp only[a1j,b9B];rw[if_pos ⟨.inr trivial,by omega⟩,hshift,show lo+0=0+lo from by omega,g3];have hne:¬ (hi-lo=0):=by omega
    have e:a25 (hi-lo) (a28 lo xs)=a28 lo (a25 hi xs):=by rw[a35]
    simp[hne,e];rfl
    grind
section
variable {P:Program} {B:Base} {N:Nat} {ρ:Type} {Γ:AE} {a:Act} {w:World} {σ:Gh}
theorem b7o{n p}{K:(e:Ty)→List e.den→Rs ρ}{z:ρ}(h:Γ.body n p K=some z):∃r e l,Γ.pd=none∧Γ.rt n=some r∧a1p r.t r.x p=⟨.list true e,l⟩∧K e l=some z:=by
 grind[AE.body,a0N]
theorem b2j{len:Nat}{lo hi:Option Operand}{K:Nat→Nat→Rs ρ}{z:ρ}(h:Rel B Γ N (a0p a) w σ)(hlo:∀x,lo=some x→a1u N x=true)(hhi:∀x,hi=some x→a1u N x=true)
  (hz:Γ.bnds len lo hi K=some z):∃x y,K x y=some z∧x≤y∧y≤len∧(lo=none→x=0)∧(hi=none→y=len)∧
   ∀s cap,len≤cap→(Instr.sliceBounds s len cap (lo.map a.eval) (hi.map a.eval) none).run P w=.ok (x,y,cap) w:=by
 have one:∀{m d:Nat}{o:Option Operand}{K':Nat→Rs ρ}{z:ρ},(∀x,o=some x→a1u N x=true)→d≤m→Γ.bnd m d o K'=some z→
   ∃y,K' y=some z∧y≤m∧(o=none→y=d)∧(∀x,o=some x→∃k,a.eval x=.int k (y:Int)):=by
  intro m d o K' z ho hd hz;unfold AE.bnd at hz;cases o with
  |none=>simp_all
  |some o=>
   simp only at hz;have ho:=h.opd (ho o rfl)
   split at hz
   rename_i k y he;rw[he]at ho;rcases a0i hz with⟨hc,hz⟩|⟨-,hz⟩;simp at hc;refine⟨y.toNat,hz,by omega,by simp,?_⟩
   rintro x ⟨⟩
   exact⟨k,by grind[a0j.int]⟩;simp_all;simp_all
 unfold AE.bnds at hz;obtain⟨y,hz,hy,hy0,hye⟩:=one hhi (a17 _) hz;obtain⟨x,hz,hxy,hx0,hxe⟩:=one hlo (Nat.zero_le _) hz;refine⟨x,y,hz,hxy,hy,hx0,hy0,fun s cap hcap=>?_⟩;have hb:∀(n m:Nat) k code,n≤m→(Instr.sliceBound (.int k (n:Int)) m code).run P w=.ok n w:=fun n m k code hnm=>by
  simp_all[Instr.sliceBound,asIntOf]
 cases hi with
 |none=>
  have:=hy0 rfl
  subst this;cases lo with
  |none=>
   have:=hx0 rfl
   simp_all[Instr.sliceBounds]
  |some o=>
   obtain⟨k,he⟩:=hxe o rfl;simp_all[Instr.sliceBounds]
 |some o'=>
  obtain⟨k',he'⟩:=hye o' rfl;cases lo with
  |none=>
   have:=hx0 rfl
   subst this;simp[Instr.sliceBounds,he',hb _ _ _ _ (a05 hy hcap)]
  |some o=>
   obtain⟨k,he⟩:=hxe o rfl;simp[Instr.sliceBounds,he,he',hb _ _ _ _ hxy,hb _ _ _ _ (a05 hy hcap)]
end
end Go.Ab
namespace Go.Ab
section
variable {P:Program} {B:Base} {N:Nat} {ρ:Type} {Γ:AE} {a:Act} {w:World} {σ:Gh}
theorem Rel.sref_head(h:Rel B Γ N (a0p a) w σ){n p v r}{e:Ty}{l:List e.den}(ha:a0j (a0a w σ.ov) σ.g Γ.rt (Shr B w σ) (.sref n p) v)(hr:Γ.rt n=some r)(hg:a1p r.t r.x p=⟨.list true e,l⟩):
  ∃s A c,loc (a0a w σ.ov) r.t (σ.g n) p=some (.list true e,s)∧s.rd (a0a w σ.ov) 0=some v∧v=.slice A l.length c∧l.length≤c∧(∀A',A=some A'→c=0∨A'.spot=none)∧(A=none→c=0):=by
 obtain⟨s,O',R',g1,g2,g3,g4,g5,g6⟩:=h.slice ha hr hg;refine⟨s,?_⟩;rcases a1W g4 with⟨hv,rfl,-⟩|⟨A,n0,c,os,hv,hA,hn,hx,-⟩;simp[Src.rd]at hv
 grind
 simp[Src.rd]at hv
 grind[a0W]
theorem b4H{t t':TypeId}{e:Ty}{A:Option Addr}{n c x y:Nat}{lo hi:Option Value}(hu:P.underlying t=some (.slice t'))(I:Info P e t')
  (hb:(Instr.sliceBounds true n c lo hi none).run P w=.ok (x,y,c) w):
  (Instr.sliceAt t (.slice A n c) lo hi none).run P w=.ok (.slice (if c=x then A else A.map fun a=>a.add (x*e.cells)) (y-x) (c-x)) w:=by
 simp[Instr.sliceAt,Instr.slice,run_underlying hu,hb,I.sizeOf]
theorem c8B{ty:Option Ty}{v:AV}{K:AV→Rs ρ}{z:ρ}(h:c2C ty v K=some z):∃o e,ty=some (.list o e)∧K .empt=some z∧
  ((∃o t l,v=.val (.list o t) l)∨v=.nils∨v=.empt∨(∃n p,v=.sref n p)∨∃n p o k,v=.swin n p o k):=by
 unfold c2C at h
 grind
theorem d1A{o:Oper}{t:TypeId}{x:Operand}{lo hi mx:Option Operand}{d:Nat}{cx:Cx}{q:Bool}{K:AE→Rs ρ}{z:ρ}(hcx:CxTy P cx)(ho:o.op=.slice t x lo hi mx)(hd:o.dst=some d)
  (h:Rel B Γ N (a0p a) w σ)(hN:a.tmps.size=N)(hf:fits N o=true)(hz:aop cx q o Γ K=some z):a0w P B N o a w K z:=by
 have hops:∀y∈(o.op.operands.toList),a1u N y=true:=a0X hf;rw[ho]at hops;have hx:=h.opd (hops x (by simp[Op.operands]));have hlo:∀y,lo=some y→a1u N y=true:=by rintro y rfl;simp_all[Op.operands]
 have hhi:∀y,hi=some y→a1u N y=true:=by rintro y rfl;simp_all[Op.operands]
 have run:∀v,(Instr.sliceAt t (a.eval x) (lo.map a.eval) (hi.map a.eval) (mx.map a.eval)).run P w=.ok v w→(execOp a.eval o).run P w=.ok (.value v) w:=fun v hv=>by simp[execOp,ho,hv]
 simp[aop,ho,hd,AE.slic]at hz;cases mx with
 |some m=>
  simp only at hz;rcases a0i hz with⟨hc,hz'⟩|⟨-,hz⟩;simp at hc;obtain⟨⟨hm,hh⟩,rfl⟩:=hc;clear hz;have hzero:∀y:Option Operand,b8L y=true→∃k,y.map a.eval=some (.int k 0):=by
   intro y hy;unfold b8L at hy
   split at hy
   rename_i k;exact⟨k,rfl⟩;simp_all
  obtain⟨km,em⟩:=hzero _ hm;obtain⟨kh,eh⟩:=hzero _ hh;obtain⟨o1,e1,hT,hz,hcase⟩:=c8B hz';obtain⟨hsh,hty⟩:=hcx.T t _ hT;obtain⟨t',hu,hte,-⟩:=a1X hty;obtain⟨I⟩:=a0E (a0L hte);have key:∀(A:Option Addr) n c,a.eval x=.slice A n c→a0w P B N o a w K z:=by
   intro A n c hv;have hbd:(Instr.sliceBounds true n c none (hi.map a.eval) (some (.int km 0))).run P w=.ok (0,0,0) w:=by
    rw[eh];rfl
   refine a0w.set hd hN (v:=.slice A 0 0) (run _ ?_) h (av:=.empt) ⟨A,rfl⟩ hz;rw[hv,em];simp[Instr.sliceAt,Instr.slice,run_underlying hu,hbd,I.sizeOf]
  rcases hcase with⟨o2,e2,l2,he⟩|he|he|⟨n,p,he⟩|⟨n,p,off,k,he⟩;rw[he]at hx;have hx:VOk (a0a w σ.ov) (Shr B w σ) (.list o2 e2) l2 (a.eval x):=hx;obtain⟨R,h1,h2⟩:=hx.rd rfl rfl;have h1:a1j (a0a w σ.ov) o2 e2.cells (dec (a0a w σ.ov) e2) (some (a.eval x))=some (l2,[],R):=h1;unfold a1j at h1
  grind
  rw[he]at hx;exact key none 0 0 hx;rw[he]at hx;obtain⟨A,hv⟩:=hx;simp_all;rw[he]at hx;obtain⟨r,e,s,h1,h2,h3⟩:=hx;obtain⟨O',R,g1,g2,-⟩:=h.sep h1;obtain⟨y,O1,R1,_,_,_,_,g3,g4,-⟩:=a1G _ r.t _ g1 h2;obtain⟨s',A,c,-,-,hv,-,hA,-⟩:=h.sref_head ⟨r,e,s,h1,h2,h3⟩ h1 g4;simp_all;rw[he]at hx;obtain⟨r,e,s,a0,l0,c0,h1,h2,h3,h4,a',hv,hA,-⟩:=hx;simp_all;simp_all
 |none=>
  simp only at hz
  split at hz
  
  rename_i l he;rw[he]at hx;obtain⟨s,hv,hl⟩:=a0j.str hx
  split at hz
  rename_i hT;have hty:=(hcx.T t _ hT).2;have hu:P.underlying t=some .string:=by
   simp[a0u]at hty
   grind
  obtain⟨x',y',hK,h1,h2,-,-,hb⟩:=b2j h hlo hhi hz;have hsz:l.length=s.size:=by simp_all
  refine a0w.set hd hN (v:=.string (s.extract x' y')) (run _ ?_) h ?_ hK;rw[hv];have hb':(Instr.sliceBounds false s.size s.size (lo.map a.eval) (hi.map a.eval) none).run P w=.ok (x',y',s.size) w:=by
   have:=hb false s.size (by omega)
   rw[←hsz]at this⊢;omega
  simp
  simp[Instr.sliceAt,Instr.slice,run_underlying hu,hb']
  have:=a0j.mk_str (m:=a0a w σ.ov) (g:=σ.g) (rt:=Γ.rt) (Sh:=Shr B w σ) (s.extract x' y')
  simp_all[a35];simp_all
  
  rename_i e l he;rw[he]at hx
  split at hz
  rename_i hT;obtain⟨hsh,hty⟩:=hcx.T t _ hT;obtain⟨t',hu,hte,-⟩:=a1X hty;obtain⟨I⟩:=a0E (a0L hte);obtain⟨x',y',hK,h1,h2,-,-,hb⟩:=b2j h hlo hhi hz;obtain⟨A,n,c,hv,hn,hc,hA,hnil⟩:=VOk.header hx;have hx':VOk (a0a w σ.ov) (Shr B w σ) (.list false e) l (.slice A n c):=by rw[←hv];exact hx
  refine a0w.set hd hN (run _ (by rw[hv];exact b4H hu I (by rw[hn];exact hb true c (by omega)))) h ?_ hK;exact VOk.window hx' h1 (by omega) rfl;simp_all
  
  rename_i he;rw[he]at hx
  split at hz
  rename_i o1 e1 hT;obtain⟨hsh,hty⟩:=hcx.T t _ hT;obtain⟨t',hu,hte,-⟩:=a1X hty;obtain⟨I⟩:=a0E (a0L hte);obtain⟨x',y',hK,h1,h2,-,-,hb⟩:=b2j h hlo hhi hz;obtain rfl:y'=0:=by omega
  obtain rfl:x'=0:=by omega
  have hv:a.eval x=.slice none 0 0:=hx;refine a0w.set hd hN (v:=.slice none 0 0) (run _ ?_) h (av:=.nils) rfl hK;rw[hv,Option.map_none]
  have:=b4H (A:=none) hu I (hb true 0 (by omega))
  simp_all;simp_all
  ·
   rename_i n p he;rw[he]at hx;obtain⟨r,e,l,hpd,hr,hg,hz⟩:=b7o hz
   split at hz
   ·rename_i hT;obtain⟨hsh,hty⟩:=hcx.T t _ hT;obtain⟨t',hu,hte,-⟩:=a1X hty;rw[a3C]at hte;obtain⟨I⟩:=a0E (a0L hte);obtain⟨s,A,c,g1,g2,hv,g3,hA,hnil⟩:=h.sref_head hx hr hg
    split at hz
    refine a0w.set hd hN (v:=a.eval x) (run _ ?_) h hx hz;rw[hv];have hb:(Instr.sliceBounds true l.length c none none none).run P w=.ok (0,l.length,c) w:=by rfl
    have:=b4H (A:=A) hu I hb
    simp_all[Addr.add_zero']
    ·obtain⟨x',y',hK,h1,h2,-,-,hb⟩:=b2j h hlo hhi hz;refine a0w.set hd hN (run _ (by rw[hv];exact b4H hu I (hb true c g3))) h (av:=.swin n p x' (y'-x')) ?_ hK;refine⟨r,e,s,A,l.length,c,hr,g1,by simp_all,by omega,_,rfl,?_,?_⟩
     ·intro A' hA'
      split at hA'
      omega
      ·cases A with
       |none=>simp_all
       |some a0=>
        simp at hA';rw[←hA',a3R ((hA a0 rfl).resolve_left (by omega))]
        simp
     grind
   simp_all
  ·
   rename_i n p off k he;rw[he]at hx;obtain⟨r,e,l,hpd,hr,hg,hz⟩:=b7o hz
   split at hz
   ·rename_i hT;obtain⟨hsh,hty⟩:=hcx.T t _ hT;obtain⟨t',hu,hte,-⟩:=a1X hty;rw[a3C]at hte;obtain⟨I⟩:=a0E (a0L hte);obtain⟨s,O',R',A,n0,c,g1,g2,g3,g4,g5,g6,A',hv,g7,g8⟩:=h.window hx hr hg;obtain⟨x',y',hK,h1,h2,-,-,hb⟩:=b2j h hlo hhi hz;have hnc:n0≤c:=by
     rcases a1W g3 with⟨hv0,-⟩|⟨A0,nn,c',os,hv0,-,hn0,-⟩<;>simp only[Src.rd,if_true,sj,Value.slice.injEq]at hv0<;>omega
    refine a0w.set hd hN (run _ (by rw[hv];exact b4H hu I (hb true (c-off) (by omega)))) h (av:=.swin n p (off+x') (y'-x')) ?_ hK;refine⟨r,e,s,A,n0,c,hr,g1,g2,by omega,_,by rw[show c-(off+x')=c-off-x' from by omega],?_,?_⟩
    ·intro A'' hA''
     split at hA''
     omega
     ·cases A' with
      |none=>simp_all
      |some a0=>
       simp at hA'';rw[←hA'',a3R ((g7 a0 rfl).resolve_left (by omega))]
       simp
    ·by_cases hcc:c-off=x'
     omega
     ·refine .inr ?_
      rw[if_neg hcc];rcases g8 with g8|g8;omega
      ·rw[g8];cases A with
       |none=>rfl
       |some a0=>
        have ha0:a0.spot=none:=by
         rcases a1W g3 with⟨hv0,-⟩|⟨A0,nn,c',os,hv0,hs0,-⟩;simp[Src.rd]at hv0;simp[Src.rd]at hv0
         grind
        simp only[Option.map_some,a3R ha0];rw[a3R rfl]
        grind
   simp_all
  
  rename_i k e l he;rw[he]at hx
  split at hz
  rename_i hT;obtain⟨hsh,hty⟩:=hcx.T t _ hT;obtain⟨t',hu,hte,-⟩:=b1S hty;obtain⟨I⟩:=a0E (a0L hte);obtain⟨x',y',hK,h1,h2,-,-,hb⟩:=b2j h hlo hhi hz;obtain⟨b,off,R,hv,hdec,hS,hR⟩:=hx;have hv0:VOk (a0a w σ.ov) (Shr B w σ) (.list false e) l (.slice (some ⟨b,off,none⟩) k k):=by
   have hdec:a0g (fun i=>dec (a0a w σ.ov) e fun j=>(Src.at b off).rd (a0a w σ.ov) (i*e.cells+j)) k 0=some (l,[],R):=hdec;have hlen:=a0W k 0 hdec
   by_cases hk:k=0
   subst hk;refine VOk.one (t:=.list false e) (R:=[]) rfl rfl ?_ (by simp) rfl
   have:l=[]:=a21.1 hlen
   subst this;rfl;refine VOk.one (t:=.list false e) (R:=b::R) rfl rfl ?_ (fun c hc=>?_) rfl;show a1j _ false e.cells _ (some (.slice (some ⟨b,off,none⟩) k k))=_;simp only[a1j];rw[if_pos ⟨.inr trivial,a17 _⟩];have e2:a0g (fun i=>dec (a0a w σ.ov) e fun j=>a0a w σ.ov b (off+(i*e.cells+j))) k 0=some (l,[],R):=hdec;rw[e2];simp only[a32,if_false,hk];rfl
   grind
  refine a0w.set hd hN (v:=.slice (some (if k=x' then⟨b,off,none⟩else(⟨b,off,none⟩:Addr).add (x'*e.cells))) (y'-x') (k-x')) (run _ ?_) h ?_ hK
  rw[hv];have hbd:=hb false k (a17 _)
  simp
  simp[Instr.sliceAt,run_underlying hu,Instr.sureAddr];rw[hbd];simp[I.sizeOf];exact VOk.window hv0 h1 (by omega) (by grind);simp_all;simp_all
end
end Go.Ab
namespace Go.Ab
section
variable {P:Program} {B:Base} {N:Nat} {ρ:Type} {Γ:AE} {a:Act} {w:World} {σ:Gh}
@[reducible] def c1g:=Nat→Option ((t:Ty)×t.den)
def GOk(G:c1g)(B:Base):Prop:=
 ∀g t x,G g=some ⟨t,x⟩→g<B.size∧B.S g∧¬ B.F g∧∃w0:World,w0.heap[g]?=B.hp g∧dec (a0a w0 none) t ((Src.at g 0).rd (a0a w0 none))=some (x,[],[])
theorem Rel.glob{tm:Nat→Value}{cx:Cx}(h:Rel B Γ N tm w σ)(hG:GOk cx.G B){av:AV}{v:Value}(ha:a0j (a0a w σ.ov) σ.g Γ.rt (Shr B w σ) av v):
  a0j (a0a w σ.ov) σ.g Γ.rt (Shr B w σ) (cx.glob av) v:=by
 cases av with
 |glob g=>
  simp[Cx.glob];split
  ·rename_i t x hg;obtain⟨h1,h2,h3,w0,h4,h5⟩:=hG g t x hg;have hno:¬ a0P σ g:=fun ho=>by
    rcases h.mine _ ho with q|q
    all_goals grind
   have hlt:=h.size;refine⟨g,0,[],ha,a0x t h5 (fun j _=>?_) (by simp),⟨by omega,.inl h2,hno⟩,by simp⟩;show a0a w σ.ov g (0+j)=a0a w0 none g (0+j);have h6:a0a w none g (0+j)=a0a w0 none g (0+j):=a1s none ((h.frame g h1 h3).trans h4.symm) _;rw[←h6];cases hov:σ.ov with
   |none=>rfl
   |some ov=>
    obtain⟨b,o,u⟩:=ov;have hp:=h.pend;rw[hov]at hp;cases hpd:Γ.pd with
    |none=>rw[hpd]at hp;exact hp.elim
    |some p=>
     obtain⟨n,p,d⟩:=p;rw[hpd]at hp;obtain⟨r,e,q1,q2⟩:=hp;rw[←hov]at q2;have hb:=h.place q1 q2;have hne:¬ (g=b∧0+j=o):=fun hh=>hno ⟨n,by simp_all⟩;simp_all[a0a]
  trivial
 |_=>exact ha
theorem b8d{t t':TypeId}{e:Ty}{A:Addr}{n c:Nat}{k:IntKind}{i:Int}(hu:P.underlying t=some (.slice t'))(I:Info P e t')(hA:A.spot=none)(h0:0≤i)(h1:i<n):
  (Instr.indexAt t (.slice (some A) n c) (.int k i)).run P w=.ok (.pointer (some ⟨A.block,A.off+i.toNat*e.cells,none⟩)) w:=by
 have hc:0≤i∧i<(n:Int):=⟨h0,h1⟩;simp[Instr.indexAt,run_underlying hu,asIntOf,hc,I.sizeOf,a3R hA]
theorem b8O{t t':TypeId}{e:Ty}{b o n:Nat}{k:IntKind}{i:Int}(hu:P.underlying t=some (.array n t'))(I:Info P e t')(h0:0≤i)(h1:i<n):
  (Instr.indexAt t (.pointer (some ⟨b,o,none⟩)) (.int k i)).run P w=.ok (.pointer (some ⟨b,o+i.toNat*e.cells,none⟩)) w:=by
 have hc:0≤i∧i<(n:Int):=⟨h0,h1⟩;simp[Instr.indexAt,run_underlying hu,asIntOf,hc,I.sizeOf,Instr.sureAddr,Addr.add_lit]
theorem c6h{o:Oper}{t:TypeId}{x i:Operand}{d:Nat}{cx:Cx}{q:Bool}{K:AE→Rs ρ}{z:ρ}(hcx:CxTy P cx)(hG:GOk cx.G B)(ho:o.op=.indexAddr t x i)(hd:o.dst=some d)
  (h:Rel B Γ N (a0p a) w σ)(hN:a.tmps.size=N)(hf:fits N o=true)(hz:aop cx q o Γ K=some z):a0w P B N o a w K z:=by
 have hops:∀y∈(o.op.operands.toList),a1u N y=true:=a0X hf;rw[ho]at hops;have hx:=h.glob hG (h.opd (hops x (by simp[Op.operands])));have hi:=h.opd (hops i (by simp[Op.operands]));have run:∀v,(Instr.indexAt t (a.eval x) (a.eval i)).run P w=.ok v w→(execOp a.eval o).run P w=.ok (.value v) w:=fun v hv=>by simp[execOp,ho,hv]
 simp[aop,ho,hd]at hz
 split at hz
 case h_2=>grind
 rename_i k j hij;rw[hij]at hi;have hiv:=a0j.int hi;rw[hiv]at run;simp[AE.addrK]at hz
 split at hz
 
 rename_i e l he;rw[he]at hx
 split at hz
 rename_i hT;obtain⟨hsh,hty⟩:=hcx.T t _ hT;obtain⟨t',hu,hte,-⟩:=a1X hty;obtain⟨I⟩:=a0E (a0L hte);obtain⟨y,hg,hz⟩:=a08.1 hz;obtain⟨h0,h1,h2⟩:=b7n hg;have hsh':e.sh=e:=by simpa[Ty.sh]using hsh
 obtain⟨A,n,c,R,hv,hA,hn,hnc,hdec,hS,hR⟩:=VOk.elem hsh' hx h2;refine a0w.set hd hN (run _ (by rw[hv];exact b8d hu I hA h0 (by omega))) h (av:=.vptr e y) ?_ hz;exact⟨A.block,A.off+j.toNat*e.cells,R,rfl,hdec,hS,hR⟩;simp_all
 ·
  rename_i n p he;rw[he]at hx;obtain⟨r,e,l,hpd,hr,hg,hz⟩:=b7o hz
  split at hz
  ·rename_i hT;obtain⟨hsh,hty⟩:=hcx.T t _ hT;obtain⟨t',hu,hte,-⟩:=a1X hty;rw[a3C]at hte;obtain⟨I⟩:=a0E (a0L hte);rcases a0i hz with⟨hc,hz⟩|⟨-,hz⟩
   ·simp at hc;obtain⟨s,A,c,g1,g2,hv,g3,hA,hnil⟩:=h.sref_head hx hr hg;cases A with
    |none=>grind
    |some A=>
     refine a0w.set hd hN (run _ (by rw[hv];exact b8d hu I ((hA A rfl).resolve_left (by omega)) hc.1 hc.2)) h (av:=.ptr n (p++[.idx j.toNat])) ?_ hz;refine⟨r,e,A.block,A.off+j.toNat*e.cells,hr,?_,rfl⟩;rw[a3P p _ _ _ g1];simp_all[a0V]
   simp_all
  simp_all
 
 rename_i n p off k' he;rw[he]at hx;obtain⟨r,e,l,hpd,hr,hg,hz⟩:=b7o hz
 split at hz
 rename_i hT;obtain⟨hsh,hty⟩:=hcx.T t _ hT;obtain⟨t',hu,hte,-⟩:=a1X hty;rw[a3C]at hte;obtain⟨I⟩:=a0E (a0L hte);rcases a0i hz with⟨hc,hz⟩|⟨-,hz⟩;simp at hc;obtain⟨s,O',R',A,n0,c,g1,g2,g3,g4,g5,g6,A',hv,g7,g8⟩:=h.window hx hr hg;have hnc:n0≤c:=by
  rcases a1W g3 with⟨hv0,-⟩|⟨A0,nn,c',os,hv0,-,hn0,-⟩<;>simp only[Src.rd,if_true,sj,Value.slice.injEq]at hv0<;>omega
 rcases a1W g3 with⟨hv0,-⟩|⟨A0,nn,c',os,hv0,hA0,hn0,-⟩;simp[Src.rd]at hv0;omega;simp[Src.rd]at hv0;obtain⟨rfl,rfl,rfl⟩:=hv0;have hA0:A0.spot=none:=hA0.resolve_left (by omega);rcases g8 with g8|g8;omega;simp[a3R hA0]at g8;subst g8;refine a0w.set hd hN (run _ (by rw[hv];exact b8d hu I rfl hc.1 hc.2)) h (av:=.ptr n (p++[.idx (off+j.toNat)])) ?_ hz;refine⟨r,e,A0.block,A0.off+(off+j.toNat)*e.cells,hr,?_,by grind⟩;rw[a3P p _ _ _ g1];have hjl:off+j.toNat<n0:=by omega
 simp_all[a0V];simp_all;simp_all
 
 rename_i n p he;rw[he]at hx
 split at hz
 rename_i r hr
 split at hz
 rename_i k' e l' hg
 split at hz
 rename_i hT;obtain⟨hsh,hty⟩:=hcx.T t _ hT;obtain⟨t',hu,hte,-⟩:=b1S hty;rw[a3C]at hte;obtain⟨I⟩:=a0E (a0L hte);rcases a0i hz with⟨hc,hz⟩|⟨-,hz⟩;simp at hc;obtain⟨r',tt,b,off,h1,h2,h3⟩:=hx;rw[hr]at h1;simp at h1;subst h1;obtain⟨O1,R1,l1,l2,-⟩:=h.sep hr;obtain⟨y,O',R',_,_,_,_,g3,g4,-⟩:=a1G p r.t _ l1 h2;rw[hg]at g4;have htt:Ty.arr k' e=tt:=congrArg Sigma.fst g4;subst htt;refine a0w.set hd hN (run _ (by rw[h3];exact b8O hu I hc.1 hc.2)) h (av:=.ptr n (p++[.idx j.toNat])) ?_ hz;refine⟨r,e,b,off+j.toNat*e.cells,hr,?_,rfl⟩;rw[a3P p _ _ _ h2];simp_all[a0V];simp_all;simp_all;simp_all;simp_all
 
 rename_i k' e l he;rw[he]at hx
 split at hz
 rename_i hT;obtain⟨hsh,hty⟩:=hcx.T t _ hT;obtain⟨t',hu,hte,-⟩:=b1S hty;obtain⟨I⟩:=a0E (a0L hte);obtain⟨y,hg,hz⟩:=a08.1 hz;obtain⟨h0,h1,h2⟩:=b7n hg;obtain⟨b,off,R,hv,hdec,hS,hR⟩:=hx;have hdec:a0g (fun i=>dec (a0a w σ.ov) e fun j=>(Src.at b off).rd (a0a w σ.ov) (i*e.cells+j)) k' 0=some (l,[],R):=hdec;simp[a6C]at hdec;have hlen:=a0W k' 0 hdec;obtain⟨y',o',r',A,B',A',B'',hf',hy,e1,e2⟩:=a0T k' 0 j.toNat hdec (by omega);rw[h2]at hy;simp at hy;subst hy;have ho':o'=[]:=by
  simp_all
 subst ho';simp at hf';refine a0w.set hd hN (run _ (by rw[hv];exact b8O hu I h0 (by omega))) h (av:=.vptr e y) ?_ hz;exact⟨b,off+j.toNat*e.cells,r',rfl,hf',hS,fun c hc=>hR c (by grind)⟩;simp_all;simp_all
theorem c6i{o:Oper}{t:TypeId}{x:Operand}{f d:Nat}{cx:Cx}{q:Bool}{K:AE→Rs ρ}{z:ρ}(hcx:CxTy P cx)(ho:o.op=.fieldAddr t x f)(hd:o.dst=some d)
  (h:Rel B Γ N (a0p a) w σ)(hN:a.tmps.size=N)(hf:fits N o=true)(hz:aop cx q o Γ K=some z):a0w P B N o a w K z:=by
 have hops:∀y∈(o.op.operands.toList),a1u N y=true:=a0X hf;rw[ho]at hops;have hx:=h.opd (hops x (by simp[Op.operands]));have run:∀v,(Instr.fieldAt t (a.eval x) f).run P w=.ok v w→(execOp a.eval o).run P w=.ok (.value v) w:=fun v hv=>by simp[execOp,ho,hv]
 simp[aop,ho,hd]at hz
 split at hz
 rename_i n p he;rw[he]at hx
 split at hz
 rename_i r hr;generalize hg:a1L p r.t r.x=gg at hz;obtain⟨tt,y⟩:=gg;simp only at hz
 split at hz
 rename_i hc;obtain⟨hsh,hty⟩:=hcx.T t _ hc.2;rw[a3C]at hty;obtain⟨τ',k,hrun,hloc⟩:=b8c (w:=w) (b:=0) (o:=0) hty hc.1;obtain⟨r',t1,b,off,h1,h2,h3⟩:=hx;rw[hr]at h1;simp at h1;subst h1;obtain⟨O1,R1,l1,l2,-⟩:=h.sep hr;obtain⟨y',O',R',_,_,_,_,g3,g4,-⟩:=a1G p r.t _ l1 h2;have g4:=hg.symm.trans g4;have htt:tt=t1:=congrArg Sigma.fst g4;subst htt;obtain⟨τ2,k2,hrun2,hloc2⟩:=b8c (P:=P) (w:=w) (b:=b) (o:=off) hty hc.1;refine a0w.set hd hN (run _ (by rw[h3];omega)) h (av:=.ptr n (p++a1A f)) ?_ hz;exact⟨r,τ2,b,off+k2,hr,by rw[a3P p _ _ _ h2];simp_all,rfl⟩;simp_all;simp_all;rename_i tt y he;rw[he]at hx
 split at hz
 rename_i hc;obtain⟨hsh,hty⟩:=hcx.T t _ hc.2;obtain⟨b,off,R,hv,hdec,hS,hR⟩:=hx;obtain⟨τ2,k2,hrun2,hloc2⟩:=b8c (P:=P) (w:=w) (b:=b) (o:=off) hty hc.1;generalize hg:a1L (a1A f) tt y=gg at hz;obtain⟨t2,y2⟩:=gg;simp only at hz;obtain⟨y',O',R',A1,B1,A1',B1',g3,g4,e1,e2⟩:=a1G (a1A f) tt (.at b off) hdec (hloc2 _ _ _);have g4:=hg.symm.trans g4;have htt:t2=τ2:=congrArg Sigma.fst g4;subst htt;have hyy:=eq_of_heq (Sigma.mk.inj g4).2;subst hyy;have ho':O'=[]:=by
  simp_all
 subst ho';refine a0w.set hd hN (run _ (by rw[hv];omega)) h (av:=.vptr t2 y2) ?_ hz;exact⟨b,off+k2,R',rfl,g3,hS,fun c hc=>hR c (by grind)⟩;simp_all;simp_all
theorem Rel.lod{tm:Nat→Value}{ty:Ty}{t:TypeId}{av:AV}{u:Value}{q:Bool}{K:AV→AE→Rs ρ}{z:ρ}(hty:a0u P ty (.inl t)=true)(hsh:ty.sh=ty)
  (h:Rel B Γ N tm w σ)(hx:a0j (a0a w σ.ov) σ.g Γ.rt (Shr B w σ) av u)(hz:Γ.lodK q ty av K=some z):
  ∃v Γ' σ' av',(Instr.loadAt t u).run P w=.ok v w∧Rel B Γ' N tm w σ'∧a0j (a0a w σ'.ov) σ'.g Γ'.rt (Shr B w σ') av' v∧K av' Γ'=some z∧
   ((Γ'=Γ∧σ'=σ)∨(q=false∧∃n,av=.ptr n []∧Γ'=(Γ.mapv (AV.drop n)).setRt n none)):=by
 simp[AE.lodK]at hz
 split at hz
 ·
  rename_i tt y
  split at hz
  ·rename_i htt;subst htt;obtain⟨b,off,R,hv,hdec,hS,hR⟩:=hx;have hcell:∀j,j<tt.cells→w.cell? ⟨b,off+j,none⟩=a0a w σ.ov b (off+j):=by
    intro j _;cases hov:σ.ov with
    |none=>rfl
    |some y0=>
     obtain⟨b',o',v'⟩:=y0;simp only[a0a];rw[if_neg]
     rintro⟨rfl,-⟩
     have hp:=h.pend;cases hpd:Γ.pd with
     |none=>rw[hpd,hov]at hp;exact hp
     |some y1=>
      obtain⟨n,p,dd⟩:=y1;rw[hpd,hov]at hp;obtain⟨r,e,hr,hl⟩:=hp;rw[←hov]at hl;exact hS.2.2 ⟨n,h.place hr hl⟩
   obtain⟨v,hrun,hvok⟩:=b5G (P:=P) (w:=w) (Sh:=Shr B w σ) hty hdec hcell hR;exact⟨_,_,_,.val tt y,(by simp_all),h,hvok,hz,.inl ⟨rfl,rfl⟩⟩
  simp_all
 ·
  rename_i n p
  split at hz
  ·rename_i r hr;obtain⟨hpd,hr⟩:=a0N hr;have hov:σ.ov=none:=by
    have hp:=h.pend;rw[hpd]at hp;cases hov:σ.ov with
    |none=>rfl
    |some y=>rw[hov]at hp;exact hp.elim
   have hcell:∀b j,w.cell? ⟨b,j,none⟩=a0a w σ.ov b j:=fun b j=>by rw[hov];rfl
   obtain⟨r',t1,b,off,h1,h2,h3⟩:=hx;rw[hr]at h1;simp at h1;subst h1;obtain⟨O1,R1,l1,l2,l3,l4,l5,l6⟩:=h.sep hr;obtain⟨y',O',R',A1,B1,A1',B1',g3,g4,e1,e2⟩:=a1G p r.t _ l1 h2
   split at hz
   rename_i e l hg;rw[hg]at g4;have htt:Ty.list true e=t1:=congrArg Sigma.fst g4;subst htt
   split at hz
   rename_i hlist;obtain⟨v,hv,hs⟩:=a8r _ g3 0 (by simp[Ty.cells]);have hw:w.cell? ⟨b,off,none⟩=some v:=by rw[hcell];exact hv
   have hagg:ty.isAgg=false:=by cases ty<;>first|rfl|cases hlist
   refine⟨v,Γ,σ,.sref n p,?_,h,⟨r,e,.at b off,hr,h2,hv⟩,hz,.inl ⟨rfl,rfl⟩⟩;rw[h3];simp[Instr.loadAt,Instr.sureAddr,loadVar,b0k hty,hagg,hw];simp_all;rename_i tt y hne hg;rw[hg]at g4;have htt:tt=t1:=congrArg Sigma.fst g4;subst htt;have hyy:=eq_of_heq (Sigma.mk.inj g4).2;subst hyy
   split at hz
   rename_i hteq;obtain⟨hteq,hshn⟩:=hteq;have ho':=b1T hshn g3;subst ho';obtain⟨v,hrun,hvok⟩:=b5G (P:=P) (w:=w) (Sh:=Shr B w σ) (t:=t) (by grind[a3C]) g3 (fun j _=>hcell b (off+j)) (fun c hc=>l2 c (by simp_all));exact⟨_,_,_,.val tt y,(by simp_all),h,hvok,hz,.inl ⟨rfl,rfl⟩⟩
   split at hz
   split at hz
   rename_i hteq;subst hteq;simp[a0V]at h2;obtain⟨rfl,hgn⟩:=h2;obtain⟨R2,k1,k2⟩:=b8N _ l1;rw[hgn]at k1;have hgone:=h.drop (n:=n) (by simp_all);have hShr:∀c∈R2,Shr B w ⟨σ.g,fun m=>if m=n then[]else σ.ow m,σ.ov⟩ c:=by
    intro c hc;rcases k2 c hc with g|g;have hown:a0P σ c:=⟨n,l4 c g⟩;refine⟨h.lt hown,.inr (h.mine c hown),fun⟨m,hm⟩=>?_⟩;have hm:c∈(if m=n then[]else σ.ow m).map (·.1):=hm
    split at hm
    simp_all;rename_i hmn;exact h.disj m n hmn c hm (l4 c g);exact Rel.shr_gone c (l2 c g)
   obtain⟨v,hrun,hvok⟩:=b5G (P:=P) (w:=w) (m:=a0a w σ.ov) (t:=t) (by grind[a3C,Ty.sh_shn]) k1 (fun j _=>hcell b (off+j)) hShr;exact⟨_,_,_,.val r.t.shn (Ty.shnx r.t r.x),(by simp_all),hgone,hvok,hz,.inr ⟨rfl,n,rfl,rfl⟩⟩;simp_all;simp_all
  simp_all
 simp_all
theorem d3t{o:Oper}{t:TypeId}{x:Operand}{d:Nat}{cx:Cx}{q:Bool}{K:AE→Rs ρ}{z:ρ}(hcx:CxTy P cx)(hG:GOk cx.G B)(ho:o.op=.load t x)(hd:o.dst=some d)
  (h:Rel B Γ N (a0p a) w σ)(hN:a.tmps.size=N)(hf:fits N o=true)(hz:aop cx q o Γ K=some z):a0w P B N o a w K z:=by
 have hops:∀y∈(o.op.operands.toList),a1u N y=true:=a0X hf;rw[ho]at hops;have hx:=h.glob hG (h.opd (hops x (by simp[Op.operands])));have run:∀v,(Instr.loadAt t (a.eval x)).run P w=.ok v w→(execOp a.eval o).run P w=.ok (.value v) w:=fun v hv=>by simp[execOp,ho,hv]
 simp[aop,ho,hd]at hz
 split at hz
 case h_2=>grind
 rename_i ty hT;obtain⟨hsh,hty⟩:=hcx.T t _ hT
 split at hz
 case h_2=>
  grind[Rel.lod,a0w.set]
 rename_i n r hwh;have hwh:Γ.whole (cx.K d) ty (Γ.opd x)=some (n,r):=by
  grind
 unfold AE.whole at hwh
 split at hwh
 ·rename_i m hpx
  split at hwh
  ·rename_i r' hlk
   split at hwh
   ·rename_i hc;simp at hwh;obtain⟨rfl,rfl⟩:=hwh;obtain⟨hbx,-,-,hteq⟩:=hc;obtain⟨hpd,hr⟩:=a0N hlk;have hov:σ.ov=none:=by
     have hp:=h.pend;rw[hpd]at hp;cases hov:σ.ov with
     |none=>rfl
     |some y=>rw[hov]at hp;exact hp.elim
    have hxx:=h.opd (hops x (by simp[Op.operands]));rw[hpx]at hxx;obtain⟨r2,t1,b,off,h1,h2,h3⟩:=hxx;rw[hr]at h1;simp at h1;subst h1;obtain⟨b0,hg,hrel⟩:=h.frzBox hr hbx hpd;simp[a0V]at h2;obtain⟨-,hgn⟩:=h2;rw[hg]at hgn;simp at hgn;obtain⟨rfl,rfl⟩:=hgn;obtain⟨O',R,k1,k2,k3⟩:=(hrel.roots m ⟨true,r'.t.shn,Ty.shnx r'.t r'.x⟩ (by simp[AE.setRt])).rd;have hO:=b1T (Ty.shn_shn r'.t) k1;subst hO;have hg':(Src.at b0 0).rd (a0a w σ.ov)=(σ.g m).rd (a0a w σ.ov):=by grind
    obtain⟨v,hrun,hvok⟩:=b5G (P:=P) (w:=w) (m:=a0a w σ.ov) (τ:=r'.t.shn) (b:=b0) (o:=0) (by rw[←a3C,Ty.sh_shn,hteq];omega) (by rw[hg'];omega) (fun j _=>by rw[hov];rfl) k2;exact a0w.set hd hN (av:=.val r'.t.shn (Ty.shnx r'.t r'.x)) (run _ (by simp_all)) hrel hvok hz
   simp_all
  simp_all
 simp_all
end
end Go.Ab
namespace Go.Ab
theorem RootOk.mono{m:Mem}{Sh Sh':Nat→Prop}{r s O}(h:RootOk m Sh r s O)(hs:∀c,Sh c→Sh' c):RootOk m Sh' r s O:=by
 obtain⟨O',R,h1,h2,h3⟩:=h.rd;exact⟨O',R,h1,fun c hc=>hs c (h2 c hc),h3⟩
theorem Rel.fresh{ρ:Type}{B Γ N tm w σ}{q:Bool}{n:Nat}{r:Root}{K:AE→Rs ρ}{z:ρ}(h:Rel B Γ N tm w σ)(hz:Γ.fresh q n r K=some z){w':World}
  (hext:∀c,c<w.heap.size→w'.heap[c]?=w.heap[c]?)(hsz:w.heap.size≤w'.heap.size){s:Src}{O:a1g}(hO:∀c∈O.map (·.1),w.heap.size≤c)(hOn:(O.map (·.1)).Nodup)
  (hOl:∀p∈O,a0Z w' p.1 p.2)(hok:RootOk (a0a w' σ.ov) (Shr B w σ) r s O)(hio:a2n w'=a2n w:=by first|rfl|assumption):∃Γ' σ',K Γ'=some z∧Rel B Γ' N tm w' σ'∧Γ'.rt n=some r∧σ'.g n=s∧σ'.ov=σ.ov∧Γ'=Γ.newRt n r:=by
 unfold AE.fresh at hz;obtain⟨hnp,hz⟩:=(a0i hz).elim id fun h=>by grind
 have hnp:n<pinned:=by simp_all
 split at hz
 rename_i hn;have e:Γ.newRt n r=Γ.setRt n (some r):=by unfold AE.newRt;grind
 refine⟨_,⟨fun m=>if m=n then s else σ.g m,fun m=>if m=n then O else σ.ow m,σ.ov⟩,hz,by rw[e];exact h.add hn hnp hext hsz hO hOn hOl hok,by rw[e];simp[AE.setRt],by simp,rfl,rfl⟩
 rename_i r0 hn;rcases a0i hz with⟨-,hz⟩|⟨-,hz⟩
 grind
 split at hz
 grind
 rename_i r1 hl;obtain⟨hpd,-⟩:=a0N hl;have e:Γ.newRt n r=((Γ.mapv (AV.drop n)).setRt n none).setRt n (some r):=by
  unfold AE.newRt;rw[hn];simp only[AE.setRt,AE.mapv]
  grind
 have hd:=h.drop (n:=n) (by simp_all);refine⟨_,⟨fun m=>if m=n then s else σ.g m,fun m=>if m=n then O else(if m=n then[]else σ.ow m),σ.ov⟩,hz,by rw[e];exact hd.add (n:=n) (by simp[AE.setRt]) hnp hext hsz hO hOn hOl (hok.mono fun c hc=>Rel.shr_gone c hc),by rw[e];simp[AE.setRt],?_,rfl,rfl⟩
 simp
where
 rt_ne' {n k:Nat} {x y:Option Root} (h:k≠n):(bif k==n then x else y)=y:=by
  grind
theorem d3u(w:World)(o:Obj)(c:Nat)(h:c<w.heap.size):(w.alloc o).heap[c]?=w.heap[c]?:=by
 simp only[World.alloc,Array.getElem?_push]
 grind
theorem b8e{P:Program}:∀(f:Nat)(τ:Ty)(fs:List Field)(off:Nat),a0u P τ (.inr (fs,off))=true→a2J τ f=true→
  ∃fl τ' k,fs[f]?=some fl∧fl.offset=off+k∧a0u P τ' (.inl fl.type)=true∧k+τ'.cells≤τ.cells∧
   ∀(m:Mem) rd x O R,dec m τ rd=some (x,O,R)→∃y O' R',dec m τ' (fun j=>rd (k+j))=some (y,O',R')∧a1p τ x (a1A f)=⟨τ',y⟩∧(O=[]→O'=[])∧∀c∈R',c∈R
 |0,τ,fs,off,h,hf=>by
  cases τ with
  |pair a b=>
   cases fs with
   |nil=>simp[a0u]at h
   |cons fl r=>
    simp[a0u]at h;refine⟨fl,a,0,rfl,by omega,h.1.1.2,by simp[Ty.cells],fun m rd x O R hd=>?_⟩;obtain⟨x1,o1,r1,x2,o2,r2,h1,h2,rfl,rfl,rfl⟩:=a2s hd;exact⟨x1,o1,r1,by simp_all,rfl,fun e=>(a24.1 e).1,fun c hc=>a04 _ hc⟩
  |_=>simp[a2J]at hf
 |f+1,τ,fs,off,h,hf=>by
  cases τ with
  |pair a b=>
   cases fs with
   |nil=>simp[a0u]at h
   |cons fl r=>
    simp only[a0u,bA]at h;obtain⟨fl',τ',k,h1,h2,h3,h4,h5⟩:=b8e f b r (off+a.cells) h.2 hf;refine⟨fl',τ',a.cells+k,by simp_all,by omega,h3,by grind[Ty.cells],fun m rd x O R hd=>?_⟩;obtain⟨x1,o1,r1,x2,o2,r2,g1,g2,rfl,rfl,rfl⟩:=a2s hd;obtain⟨y,O',R',g3,g4,g5,g6⟩:=h5 m _ x2 o2 r2 g2;refine⟨y,O',R',?_,g4,fun e=>g5 (a24.1 e).2,fun c hc=>a03 _ (g6 c hc)⟩
    grind
  |_=>simp[a2J]at hf
theorem c8C{P:Program}{w:World}{m Sh}{τ':Ty}{t:TypeId}{cs:Array Value}{off:Nat}{y R}(ht:a0u P τ' (.inl t)=true)(hd:dec m τ' (fun j=>cs[off+j]?)=some (y,[],R))(hR:∀c∈R,Sh c)
  (hsz:off+τ'.cells≤cs.size):∃v,(part t cs off).run P w=.ok v w∧VOk m Sh τ' y v:=by
 obtain⟨I⟩:=a0E (a0L ht);cases hagg:τ'.isAgg with
 |true=>
  refine⟨.agg (cs.extract off (off+τ'.cells)),by simp[part,b0k ht,hagg,I.sizeOf],fun _=>⟨_,rfl,by simp_all⟩,fun g=>(by simp_all),R,?_,hR⟩;refine a0x τ' hd (fun j hj=>?_) (fun _ _ _=>rfl);simp_all[Value.cells]
 |false=>
  have h1:=b6e hagg;obtain⟨v,hv,hs⟩:=a8r τ' hd 0 (by omega);simp at hv;refine⟨v,by simp[part,b0k ht,hagg,hv],VOk.one hagg hs (a0x τ' hd (fun j hj=>?_) (fun _ _ _=>rfl)) hR h1⟩;simp_all[Src.rd]
section
variable {P:Program} {B:Base} {N:Nat} {ρ:Type} {Γ:AE} {a:Act} {w:World} {σ:Gh}
theorem d1B{o:Oper}{t:TypeId}{x:Operand}{f d:Nat}{cx:Cx}{q:Bool}{K:AE→Rs ρ}{z:ρ}(hcx:CxTy P cx)(ho:o.op=.field t x f)(hd:o.dst=some d)
  (h:Rel B Γ N (a0p a) w σ)(hN:a.tmps.size=N)(hf:fits N o=true)(hz:aop cx q o Γ K=some z):a0w P B N o a w K z:=by
 have hops:∀y∈(o.op.operands.toList),a1u N y=true:=a0X hf;rw[ho]at hops;have hx:=h.opd (hops x (by simp[Op.operands]));simp[aop,ho,hd]at hz
 split at hz
 rename_i tt y he;rw[he]at hx
 split at hz
 rename_i hc;obtain⟨hsh,hty⟩:=hcx.T t _ hc.2;obtain⟨fs,hu,hs⟩:=b4i hty hc.1;obtain⟨fl,τ',k,h1,h2,h3,h4,h5⟩:=b8e f tt _ 0 hs hc.1;obtain⟨g1,g2,R,g3,g4⟩:=hx;have hagg:tt.isAgg=true:=by cases tt<;>first|rfl|(cases f<;>simp[a2J]at hc)
 obtain⟨cs,hv,hcs⟩:=g1 hagg;rw[hv]at g3;obtain⟨y',O',R',k1,k2,k3,k4⟩:=h5 _ _ _ _ _ g3;have ho':=k3 rfl;subst ho';generalize hg:a1L (a1A f) tt y=gg at hz;obtain⟨t2,y2⟩:=gg;simp only at hz;have k2:=hg.symm.trans k2;have htt:t2=τ':=congrArg Sigma.fst k2;subst htt;have hyy:=eq_of_heq (Sigma.mk.inj k2).2;subst hyy;obtain⟨v,hrun,hvok⟩:=c8C (P:=P) (w:=w) (cs:=cs) (off:=k) h3 k1 (fun c hc=>g4 c (k4 c hc)) (by omega);have h1':fs[f]?=some fl:=by simp_all
 refine a0w.set hd hN (v:=v) ?_ h (av:=.val t2 y2) hvok hz;simp_all[execOp,Instr.field,run_underlying,asAgg];simp_all;simp_all
theorem d1C{o:Oper}{t:TypeId}{x i:Operand}{d:Nat}{cx:Cx}{q:Bool}{K:AE→Rs ρ}{z:ρ}(hcx:CxTy P cx)(ho:o.op=.index t x i)(hd:o.dst=some d)
  (h:Rel B Γ N (a0p a) w σ)(hN:a.tmps.size=N)(hf:fits N o=true)(hz:aop cx q o Γ K=some z):a0w P B N o a w K z:=by
 have hops:∀y∈(o.op.operands.toList),a1u N y=true:=a0X hf;rw[ho]at hops;have hx:=h.opd (hops x (by simp[Op.operands]));have hi:=h.opd (hops i (by simp[Op.operands]));have run:∀v,(Instr.index t (a.eval x) (a.eval i)).run P w=.ok v w→(execOp a.eval o).run P w=.ok (.value v) w:=fun v hv=>by simp[execOp,ho,hv]
 simp[aop,ho,hd]at hz
 split at hz
 rename_i n e l k j hxe hie;rw[hxe]at hx;rw[hie]at hi;have hiv:=a0j.int hi;rw[hiv]at run
 split at hz
 rename_i hT;obtain⟨hsh,hty⟩:=hcx.T t _ hT;obtain⟨t',hu,hte,-⟩:=b1S hty;obtain⟨I⟩:=a0E (a0L hte);obtain⟨y,hg,hz⟩:=a08.1 hz;obtain⟨h0,h1,h2⟩:=b7n hg;obtain⟨g1,g2,R,g3,g4⟩:=hx;obtain⟨cs,hv,hcs⟩:=g1 rfl;rw[hv]at g3;have g3:a0g (fun i=>dec (a0a w σ.ov) e fun j=>cs[i*e.cells+j]?) n 0=some (l,[],R):=g3;have hlen:=a0W n 0 g3;obtain⟨y',o',r',A,B',A',B'',hf',hy,e1,e2⟩:=a0T n 0 j.toNat g3 (by omega);rw[h2]at hy;simp at hy;subst hy;have ho':o'=[]:=by
  simp_all
 subst ho';simp at hf';have hsz:j.toNat*e.cells+e.cells≤cs.size:=by
  rw[hcs];simp[Ty.cells];rw[←a02];exact a00 _ (by omega)
 obtain⟨v,hrun,hvok⟩:=c8C (P:=P) (w:=w) (cs:=cs) hte hf' (fun c hc=>g4 c (by grind)) hsz;have hc:0≤j∧j<(n:Int):=⟨h0,by omega⟩;refine a0w.set hd hN (v:=v) (run _ ?_) h (av:=.val e y) hvok hz;rw[hv];simp[Instr.index,asIntOf,run_underlying hu,hc,I.sizeOf,hrun];simp_all
 ·rename_i l k j hxe hie;rw[hxe]at hx;rw[hie]at hi;have hiv:=a0j.int hi;rw[hiv]at run
  split at hz
  ·rename_i hT;have hty:=(hcx.T t _ hT).2;have hu:P.underlying t=some .string:=by
    simp[a0u]at hty
    grind
   obtain⟨y,hg,hz⟩:=a08.1 hz;obtain⟨h0,h1,h2⟩:=b7n hg;obtain⟨s,hv,hl⟩:=a0j.str hx;rw[hl,a34]at h2;cases hb:s.data.toList[j.toNat]? with
   |none=>simp_all
   |some b=>
    rw[hb]at h2;simp at h2;have hs:s[j.toNat]?=some b:=by
     have hlt:j.toNat<s.data.toList.length:=(lS.1 hb).1;have hlt':j.toNat<s.size:=by simp_all
     rw[getElem?_pos s j.toNat hlt']
     have:=(lS.1 hb).2
     rw[←this];rfl
    refine a0w.set hd hN (v:=.int .u8 b.toNat) (run _ ?_) h (av:=.val (.int .u8) y) (by simp_all[a0j.mk_int]) hz;simp_all[Instr.index,asIntOf,run_underlying]
  simp_all
 simp_all
theorem c1h{f:Int→Int→Int}{g:Value→Value→Sem Value}{k:IntKind}(hg:∀x y w,(g (.int k x) (.int k y)).run P w=.ok (.int k (f x y)) w):
  ∀(l:List Operand)(x:Int){K:AV→Rs ρ}{z:ρ},Rel B Γ N (a0p a) w σ→(∀y∈l,a1u N y=true)→AE.mins f k (l.map Γ.opd) x K=some z→
   ∃r,K (.val (.int k) r)=some z∧((l.map a.eval).foldlM g (.int k x)).run P w=.ok (.int k r) w
 | [],x,K,z,h,hl,hz=>⟨x,hz,rfl⟩
 |y::l,x,K,z,h,hl,hz=>by
  simp at hz;unfold AE.mins at hz
  split at hz
  simp_all;rename_i x k' y' l' he;simp at he;obtain⟨he,rfl⟩:=he
  split at hz
  rename_i hk;subst hk;have hy:=h.opd (hl y (by simp));rw[he]at hy;have hv:=a0j.int hy;obtain⟨r,h1,h2⟩:=c1h hg l _ h (fun u hu=>hl u (by grind)) hz;refine⟨r,h1,?_⟩;have h3:=fun z=>hg z y' w;simp_all;simp_all;simp_all
theorem d3v{t:TypeId}{x:Operand}{cx:Cx}{K:Nat→Rs ρ}{z:ρ}(hcx:CxTy P cx)(h:Rel B Γ N (a0p a) w σ)(hx:a1u N x=true)(hz:Γ.lenK (cx.T t) (Γ.opd x) K=some z)(ty:TypeId):
  ∃n,K n=some z∧(Builtin.len_ #[t] ty #[a.eval x]).run P w=.ok (.int .i64 (n:Int)) w:=by
 have hx:=h.opd hx;have hsl:∀o e,cx.T t=some (.list o e)→∀A n c,a.eval x=.slice A n c→(Builtin.len_ #[t] ty #[a.eval x]).run P w=.ok (.int .i64 (n:Int)) w:=by
  intro o e hT A n c hv;obtain⟨hsh,hty⟩:=hcx.T t _ hT;obtain⟨t',hu,hte,-⟩:=a1X hty;simp_all[Builtin.len_,run_underlying,goInt]
 unfold AE.lenK at hz
 split at hz
 rename_i o e o' e' l hT he;rw[he]at hx;obtain⟨R,h1,h2⟩:=VOk.rd (t:=.list o' e') hx rfl rfl;have h1:a1j (a0a w σ.ov) o' e'.cells (dec (a0a w σ.ov) e') (some (a.eval x))=some (l,[],R):=h1;unfold a1j at h1
 split at h1
 grind
 rename_i A n c hv;simp at hv
 split at h1
 split at h1
 grind
 rename_i xs os rs h3;have hn:=a0W n 0 h3
 grind
 simp_all;simp_all;rename_i n e n' e' l hT he;obtain⟨hsh,hty⟩:=hcx.T t _ hT;obtain⟨t',hu,hte,-⟩:=b1S hty;exact⟨n,hz,by simp_all[Builtin.len_,run_underlying,goInt]⟩;rename_i l hT he;rw[he]at hx;obtain⟨s,hv,hl⟩:=a0j.str hx;have hty:=(hcx.T t _ hT).2;have hu:P.underlying t=some .string:=by
  simp[a0u]at hty
  grind
 refine⟨_,hz,?_⟩;simp_all[Builtin.len_,run_underlying,goInt];rename_i hT he;rw[he]at hx;exact⟨0,hz,hsl _ _ hT _ _ _ hx⟩;rename_i hT he;rw[he]at hx;obtain⟨A,hv⟩:=hx
 grind
 rename_i n p hT he;rw[he]at hx
 split at hz
 rename_i r hr
 split at hz
 rename_i e' l hg;obtain⟨s,A,c,-,-,hv,-⟩:=h.sref_head hx (a0N hr).2 hg
 grind
 simp_all;simp_all;rename_i n p off k hT he;rw[he]at hx;obtain⟨r,e,s,a0,l0,c0,h1,h2,h3,h4,a',hv,hA,-⟩:=hx
 grind
 simp_all
end
end Go.Ab
namespace Go.Ab
theorem Rel.ov_lt{B Γ N tm w σ}(h:Rel B Γ N tm w σ){b o v}(hov:σ.ov=some (b,o,v)):b<w.heap.size:=by
 have hp:=h.pend;rw[hov]at hp;cases hpd:Γ.pd with
 |none=>rw[hpd]at hp;exact hp.elim
 |some x=>
  obtain⟨n,p,d⟩:=x;rw[hpd]at hp;obtain⟨r,e,hr,hl⟩:=hp;rw[←hov]at hl;exact h.lt ⟨n,h.place hr hl⟩
theorem Rel.memo_new{B Γ N tm w σ}(h:Rel B Γ N tm w σ){w':World}{cs:Array Value}{e fr}(hnew:w'.heap[w.heap.size]?=some (.cells cs e fr))(j:Nat):a0a w' σ.ov w.heap.size j=cs[j]?:=by
 have hc:w'.cell? ⟨w.heap.size,j,none⟩=cs[j]?:=by simp_all[World.cell?]
 unfold a0a;split;rename_i b o v hov
 have:=h.ov_lt hov
 grind
 omega
theorem Rel.memo_old{B Γ N tm w σ}(_:Rel B Γ N tm w σ){w':World}(hext:∀c,c<w.heap.size→w'.heap[c]?=w.heap[c]?){c j:Nat}(hc:c<w.heap.size):a0a w' σ.ov c j=a0a w σ.ov c j:=
 a1s _ (hext c hc) j
theorem Rel.newBox{ρ:Type}{B Γ N tm w σ}{q:Bool}{n:Nat}{t:Ty}{x:t.den}{K:AE→Rs ρ}{z:ρ}(h:Rel B Γ N tm w σ)(hz:Γ.fresh q n ⟨true,t,x⟩ K=some z){w':World}
  (hext:∀c,c<w.heap.size→w'.heap[c]?=w.heap[c]?)(hsz:w.heap.size≤w'.heap.size){cs:Array Value}{e:TypeId}(hnew:w'.heap[w.heap.size]?=some (.cells cs e (0,0)))(hcs:cs.size=t.cells){R}
  (hx:dec (a0a w σ.ov) t (fun j=>cs[j]?)=some (x,[],R))(hR:∀c∈R,Shr B w σ c)(hio:a2n w'=a2n w:=by first|rfl|assumption):
  ∃Γ' σ',K Γ'=some z∧Rel B Γ' N tm w' σ'∧a0j (a0a w' σ'.ov) σ'.g Γ'.rt (Shr B w' σ') (.ptr n []) (.pointer (some ⟨w.heap.size,0,none⟩)):=by
 have hd:dec (a0a w' σ.ov) t ((Src.at w.heap.size 0).rd (a0a w' σ.ov))=some (x,[],R):=a0x t hx (fun j _=>by simp[Src.rd];exact h.memo_new hnew j)
  (fun b j hb=>by
   rcases hb with hb|hb;simp_all;exact h.memo_old hext (hR b hb).1)
 obtain⟨Γ',σ',g1,g2,g3,g4,g5,g6⟩:=h.fresh hz hext hsz (s:=.at w.heap.size 0) (O:=[(w.heap.size,t.cells)]) (by simp) (by simp)
  (by simp;exact⟨cs,e,0,0,hnew,by omega,.inl rfl⟩) ⟨[],R,hd,hR,.inl ⟨rfl,_,rfl,rfl⟩⟩
 exact⟨Γ',σ',g1,g2,_,t,w.heap.size,0,g3,by rw[g4];rfl,rfl⟩
theorem Rel.newSlice{ρ:Type}{B Γ N tm w σ}{q:Bool}{n:Nat}{e:Ty}{l:List e.den}{K:AE→Rs ρ}{z:ρ}(h:Rel B Γ N tm w σ)(hz:Γ.fresh q n ⟨false,.list true e,l⟩ K=some z){w':World}
  (hext:∀c,c<w.heap.size→w'.heap[c]?=w.heap[c]?)(hsz:w.heap.size≤w'.heap.size){cs:Array Value}{t:TypeId}{fr}(hnew:w'.heap[w.heap.size]?=some (.cells cs t fr)){c:Nat}(hfr:fr.2=fr.1∨c*e.cells≤fr.1)(hcs:c*e.cells≤cs.size)(hlc:l.length≤c){R}
  (hx:a0g (fun i=>dec (a0a w σ.ov) e fun j=>cs[i*e.cells+j]?) l.length 0=some (l,[],R))(hR:∀c∈R,Shr B w σ c)(hio:a2n w'=a2n w:=by first|rfl|assumption):
  ∃Γ' σ',K Γ'=some z∧Rel B Γ' N tm w' σ'∧a0j (a0a w' σ'.ov) σ'.g Γ'.rt (Shr B w' σ') (.sref n []) (.slice (some ⟨w.heap.size,0,none⟩) l.length c)∧σ'.ov=σ.ov∧Γ'=Γ.newRt n ⟨false,.list true e,l⟩:=by
 have hx':a0g (fun i=>dec (a0a w' σ.ov) e fun j=>a0a w' σ.ov w.heap.size (0+(i*e.cells+j))) l.length 0=some (l,[],R):=by
  have h1:dec (a0a w σ.ov) (.arr l.length e) (fun j=>cs[j]?)=some (l,[],R):=hx;refine a0x (.arr l.length e) h1 (rd':=fun j=>a0a w' σ.ov w.heap.size (0+j)) (fun j _=>?_) (fun b j hb=>?_);show a0a w' σ.ov w.heap.size (0+j)=_;rw[a20];exact h.memo_new hnew j;rcases hb with hb|hb;simp_all;exact h.memo_old hext (hR b hb).1
 have hfree:a0Z w' w.heap.size (c*e.cells):=⟨cs,t,fr.1,fr.2,hnew,hcs,hfr⟩
 let O:a1g:=if c=0 then[]else[(w.heap.size,0+c*e.cells)]
 have hO:∀p∈O,p=(w.heap.size,0+c*e.cells):=by
  grind
 have hd:dec (a0a w' σ.ov) (.list true e) ((Src.one (.slice (some ⟨w.heap.size,0,none⟩) l.length c)).rd (a0a w' σ.ov))=some (l,O,R):=by
  show a1j (a0a w' σ.ov) true e.cells (dec (a0a w' σ.ov) e) (some (.slice (some ⟨w.heap.size,0,none⟩) l.length c))=_;simp only[a1j]
  grind
 obtain⟨Γ',σ',g1,g2,g3,g4,g5,g6⟩:=h.fresh hz hext hsz (s:=.one (.slice (some ⟨w.heap.size,0,none⟩) l.length c)) (O:=O) (by
   grind) (by grind)
  (fun p hp=>by grind) ⟨O,R,hd,hR,.inr ⟨rfl,⟨_,rfl⟩,⟨e,rfl⟩,rfl⟩⟩
 exact⟨Γ',σ',g1,g2,⟨_,e,_,g3,by rw[g4];rfl,rfl⟩,g5,g6⟩
theorem c8D{P:Program}{cx:Cx}{d t:Nat}{τ:Ty}(hcx:CxTy P cx)(h:cx.own d t=some τ):a0u P τ (.inl t)=true:=by
 unfold Cx.own at h
 split at h
 split at h
 rename_i hT;simp at h;subst h;rw[←a3C];exact(hcx.T t _ hT).2;simp_all;exact(hcx.T t _ h).2
theorem c8E{m:Mem}{e:Ty}{z:Array Value}(hz:a2t e (fun j=>z[j]?)=true)(hs:z.size=e.cells)(n:Nat):a0g (fun i=>dec m e fun j=>(madeCells z (n*e.cells))[i*e.cells+j]?) n 0=some (a22 n e.dflt,[],[]):=by
 refine b4h n 0 fun i _ hi=>a0x e (a6Y (m:=m) e hz) (fun j hj=>?_) (fun _ _ _=>rfl);have hlt:i*e.cells+j<n*e.cells:=by
  have:(i+1)*e.cells≤n*e.cells:=a00 _ (by omega)
  grind
 have hm:(i*e.cells+j)%e.cells=j:=by simp_all[Nat.mod_eq_of_lt]
 simp_all[madeCells]
section
variable {P:Program} {B:Base} {N:Nat} {ρ:Type} {Γ:AE} {a:Act} {w:World} {σ:Gh}
theorem a2j(o:Obj)(c:Nat)(h:c<w.heap.size):(w.alloc o).heap[c]?=w.heap[c]?:=d3u w o c h
theorem a2k(o:Obj):(w.alloc o).heap[w.heap.size]?=some o:=by
 show(w.heap.push o)[w.heap.size]?=_
 simp
theorem a2O(o:Obj):w.heap.size≤(w.alloc o).heap.size:=by
 simp
theorem a0w.sets{o:Oper}{K:AE→Rs ρ}{z:ρ}{d:Nat}{v:Value}{w':World}{av:AV}(hd:o.dst=some d)(hN:a.tmps.size=N)(hrun:(execOp a.eval o).run P w=.ok (.value v) w')
  (h:∃Γ' σ',K (Γ'.set d av)=some z∧Rel B Γ' N (a0p a) w' σ'∧a0j (a0a w' σ'.ov) σ'.g Γ'.rt (Shr B w' σ') av v):a0w P B N o a w K z:=by
 grind[a0w.set]
theorem d1D{o:Oper}{t:TypeId}{d:Nat}{cx:Cx}{q:Bool}{K:AE→Rs ρ}{z:ρ}(hcx:CxTy P cx)(ho:o.op=.alloc t)(hd:o.dst=some d)
  (h:Rel B Γ N (a0p a) w σ)(hN:a.tmps.size=N)(hz:aop cx q o Γ K=some z):a0w P B N o a w K z:=by
 simp[aop,ho,hd]at hz
 split at hz
 rename_i τ hT;have hty:=c8D hcx hT;obtain⟨I⟩:=a0E (a0L hty);have hrun:(execOp a.eval o).run P w=.ok (.value (.pointer (some ⟨w.heap.size,0,none⟩))) (w.alloc (.cells I.z.cells t)):=by
  simp[execOp,ho,Instr.alloc,I.zeroValue,newVar,newRow]
 exact a0w.sets hd hN hrun (h.newBox hz (fun c hc=>a2j _ c hc) (a2O _) (a2k _) I.zsize (a6Y _ I.zok) (by simp));simp_all
theorem d4E{o:Oper}{t:TypeId}{x:Operand}{d:Nat}{cx:Cx}{q:Bool}{K:AE→Rs ρ}{z:ρ}(ho:o.op=.box t x)(hd:o.dst=some d)(hag:(bif q then none else Γ.aggOf x)=none)
  (h:Rel B Γ N (a0p a) w σ)(hN:a.tmps.size=N)(hf:fits N o=true)(hz:aop cx q o Γ K=some z):a0w P B N o a w K z:=by
 have hx:=h.opd (a0X hf x (by simp[ho,Op.operands]));simp[aop,ho,hd,hag]at hz
 split at hz
 rename_i τ hT;obtain⟨y,Γ1,σ1,hz,h1,hv,-,-⟩:=h.asV (.inl hx) hz;have hrun:(execOp a.eval o).run P w=.ok (.value (.pointer (some ⟨w.heap.size,0,none⟩))) (w.alloc (.cells (a.eval x).cells t)):=by
  simp_all[execOp,Instr.box,newVar,newRow]
 obtain⟨-,-,R,h3,h4⟩:=id hv
 split at hz
 
 have hnew:=a2k (w:=w) (.cells (a.eval x).cells t);have hext:∀c,c<w.heap.size→(w.alloc (.cells (a.eval x).cells t)).heap[c]?=w.heap[c]?:=fun c hc=>a2j _ c hc;have hsz:=a2O (w:=w) (.cells (a.eval x).cells t);have hlt:w.heap.size<(w.alloc (.cells (a.eval x).cells t)).heap.size:=by simp
 have h2:=h1.ext hext hsz;have hdec:dec (a0a (w.alloc (.cells (a.eval x).cells t)) σ1.ov) τ ((Src.at w.heap.size 0).rd (a0a (w.alloc (.cells (a.eval x).cells t)) σ1.ov))=some (y,[],R):=
  a0x τ h3 (fun j _=>by simp[Src.rd];exact h1.memo_new hnew j) (fun b j hb=>by
   rcases hb with hb|hb;simp_all;exact h1.memo_old hext (h4 b hb).1)
 have hSh:∀c,Shr B w σ1 c→Shr B (w.alloc (.cells (a.eval x).cells t)) σ1 c:=fun c hc=>⟨a06 hc.1 hsz,hc.2⟩;exact a0w.set hd hN hrun h2 (av:=.vptr τ y) ⟨w.heap.size,0,R,rfl,hdec,⟨hlt,.inr (.inr h1.size),fun g=>by have:=h1.lt g;omega⟩,fun c hc=>hSh c (h4 c hc)⟩ hz;exact a0w.sets hd hN hrun (h1.newBox hz (fun c hc=>a2j _ c hc) (a2O _) (a2k _) hv.cells.1 h3 h4);simp_all
theorem d1E{av:AV}{t:Ty}{K:t.den→Rs ρ}{z:ρ}(h:av.isVal t K=some z):∃x,av=.val t x∧K x=some z:=by
 cases av with
 |val t' x=>
  simp only[AV.isVal]at h
  grind
 |_=>cases h
theorem c4I{av:AV}{k:IntKind}{K:Int→Rs ρ}{z:ρ}(h:av.isVal (.int k) K=some z):∃x:Int,av=.val (.int k) x∧K x=some z:=d1E h
theorem c6j{o:Oper}{t:TypeId}{x y:Operand}{d:Nat}{cx:Cx}{q:Bool}{K:AE→Rs ρ}{z:ρ}(hcx:CxTy P cx)(ho:o.op=.makeSlice t x y)(hd:o.dst=some d)
  (h:Rel B Γ N (a0p a) w σ)(hN:a.tmps.size=N)(hf:fits N o=true)(hz:aop cx q o Γ K=some z):a0w P B N o a w K z:=by
 have hx:=h.opd (a0X hf x (by simp[ho,Op.operands]));have hy:=h.opd (a0X hf y (by simp[ho,Op.operands]));simp[aop,ho,hd]at hz
 split at hz
 rename_i o' e hT;obtain⟨l,hxv,hz⟩:=c4I hz;obtain⟨c,hyv,hz⟩:=c4I hz;rw[hxv]at hx;rw[hyv]at hy;rcases a0i hz with⟨hc,hz⟩|⟨-,hz⟩;simp only[bA,dT,lim]at hc;obtain⟨c1,c2,c3⟩:=hc;have hty:=c8D hcx hT;obtain⟨t',hu,hte,hpos⟩:=a1X hty;obtain⟨I⟩:=a0E (a0L hte);have hrun:=run_make (P:=P) w t t' I.i I.z hu I.info I.zero .i64 .i64 l c c1 c2 (by
  have:=I.bytes
  have h1:((I.i.bytes*c.toNat:Nat):Int)≤((32768*2147483648:Nat):Int):=Int.ofNat_le.2 (Nat.mul_le_mul this (by omega))
  grind) (by omega)
 rw[I.size]at hrun;have hrun':(execOp a.eval o).run P w=.ok (.value (.slice (some ⟨w.heap.size,0,none⟩) l.toNat c.toNat)) (w.alloc (.cells (madeCells I.z.cells (c.toNat*e.cells)) t')):=by
  simp only[execOp,ho,a0j.int hx,a0j.int hy,Sem.run_bind];simp_all
 have hmd:=c8E (m:=a0a w σ.ov) I.zok I.zsize c.toNat
 obtain⟨Γ',σ',g1,g2,g3,-,-⟩:=h.newSlice (c:=c.toNat) hz (fun c hc=>a2j _ c hc) (a2O _) (a2k (Obj.cells (madeCells I.z.cells (c.toNat*e.cells)) t')) (.inl rfl) (by simp_all[size_madeCells])
  (by grind) (R:=[]) (by
   rw[List.length_replicate];refine b4h _ 0 fun i _ hi=>?_
   obtain⟨x',o',r',A,B',A',B'',k1,k2,k3,k4⟩:=a0T _ 0 i hmd (by omega);rw[a20]at k1;rw[k1];rw[List.getElem?_replicate,if_pos (by omega)]at k2;simp_all) (by simp)
 grind[a0w.set]
 simp_all;simp_all
theorem c4J(off:Nat)(l:List Value)(i:Nat)(cs:Array Value):((l.zipIdx i).foldl (fun cs (c:Value×Nat)=>cs.setIfInBounds (off+c.2) c.1) cs).size=cs.size∧
  ∀k,((l.zipIdx i).foldl (fun cs (c:Value×Nat)=>cs.setIfInBounds (off+c.2) c.1) cs)[k]?=if off+i≤k∧k<off+i+l.length∧k<cs.size then l[k-(off+i)]? else cs[k]?:=by
 induction l generalizing i cs with
 |nil=>exact⟨rfl,fun k=>by rw[if_neg (by grind)];rfl⟩
 |cons v l ih=>
  obtain⟨h1,h2⟩:=ih (i+1) (cs.setIfInBounds (off+i) v);refine⟨by simp_all,fun k=>?_⟩;simp only[List.zipIdx_cons,List.foldl_cons]
  grind
end
end Go.Ab
namespace Go.Ab
def c4K(t:Ty)(place:Nat→Option (Nat×Nat)):Prop:=∀i,AE.pathOk t i=true→∃τ' k,place i=some (k,τ'.cells)∧k+τ'.cells≤t.cells∧∀(m:Mem) b o,loc m t (.at b o) (AE.pathOf t i)=some (τ',.at b (o+k))
theorem c4L(n:Nat)(e:Ty):c4K (.arr n e) fun i=>some (i*e.cells,e.cells):=by
 intro i hi;simp[AE.pathOk]at hi;refine⟨e,i*e.cells,rfl,?_,fun m b o=>?_⟩
 have:(i+1)*e.cells≤n*e.cells:=a00 _ (by omega)
 rw[a02]at this;exact this;show(if i<n then a0V m [] e (.at b (o+i*e.cells))else none)=_
 rw[if_pos hi];rfl
theorem d3w{m:Mem}{Sh:Nat→Prop}{sz:Nat}(hSh:∀c,Sh c→c<sz){t τ':Ty}{cs:Array Value}{x:t.den}{R i k}(hd:dec m t (fun j=>cs[j]?)=some (x,[],R))(hR:∀c∈R,Sh c)
  (hl:∀(m:Mem) b o,loc m t (.at b o) (AE.pathOf t i)=some (τ',.at b (o+k)))(hk:k+τ'.cells≤cs.size){y:τ'.den}{v:Value}(hv:VOk m Sh τ' y v):
  ∃R',dec m t (fun j=>(v.cells.zipIdx.foldl (fun cs (c,j)=>cs.setIfInBounds (k+j) c) cs)[j]?)=some (a1U t x (AE.pathOf t i) τ' y,[],R')∧∀c∈R',Sh c:=by
 obtain⟨hvs,-⟩:=hv.cells;obtain⟨-,-,R2,hv3,hv4⟩:=hv;have hfold:v.cells.zipIdx.foldl (fun cs (c,j)=>cs.setIfInBounds (k+j) c) cs=(v.cells.toList.zipIdx 0).foldl (fun cs (c:Value×Nat)=>cs.setIfInBounds (k+c.2) c.1) cs:=by
  rw[←a33];simp
 obtain⟨-,hcell⟩:=c4J k v.cells.toList 0 cs;rw[hfold];generalize (v.cells.toList.zipIdx 0).foldl (fun cs (c:Value×Nat)=>cs.setIfInBounds (k+c.2) c.1) cs=cs' at hcell
 let m0:Mem:=fun c j=>if c=sz then cs[j]? else m c j
 let m1:Mem:=fun c j=>if c=sz then cs'[j]? else m c j
 have hne:∀c,Sh c→c≠sz:=fun c hc e=>by grind
 have hm0:∀c j,Sh c→m0 c j=m c j:=fun c j hc=>by grind
 have hm1:∀c j,Sh c→m1 c j=m c j:=fun c j hc=>by grind
 have h0:dec m0 t ((Src.at sz 0).rd m0)=some (x,[],R):=a0x t hd (fun j _=>by simp[Src.rd,m0]) (fun b j hb=>by
  simp_all)
 have hl0:=hl m0 sz 0;obtain⟨y0,O1,R1,A1,B1,A1',B1',hd1,-,e1,-⟩:=a1G _ t _ h0 hl0;have hO1:O1=[]:=by
  simp_all
 subst hO1;have h1:dec m1 τ' ((Src.at sz (0+k)).rd m1)=some (y,[],R2):=a0x τ' hv3 (fun j hj=>by
   simp only[Src.rd,m1,if_true,a20,hcell,Nat.add_zero];rw[if_pos ⟨by omega,by grind,by omega⟩,Nat.add_sub_cancel_left];simp) (fun b j hb=>by
  grind)
 have hsep:Sep (Src.at sz 0) [] R:=⟨by simp,by simp,fun c hc=>⟨by simp,fun e=>hne c (hR c hc) e⟩⟩;have hchg:Chg m0 m1 (Src.at sz 0) [] R sz (0+k) τ'.cells []:=fun c j=>by
  by_cases hc:c=sz
  by_cases hj:k≤j∧j<k+τ'.cells
  omega;refine .inl ?_
  simp only[m0,m1,if_pos hc,hcell];rw[if_neg (by grind)]
  grind
 obtain⟨A,B',R3,e3,h7,h8⟩:=c3P _ t _ h0 hl0 hd1 h1 hsep hchg;have hAB:A=[]∧B'=[]:=by
  have:=congrArg a01 e3
  simp at this;exact⟨a21.1 (by omega),a21.1 (by omega)⟩
 rw[hAB.1,hAB.2]at h7;have hR3:∀c∈R3,Sh c:=fun c hc=>(h8 c hc).elim (hR c) (hv4 c);exact⟨R3,a0x t h7 (fun j _=>by simp[Src.rd,m1]) (fun b j hb=>by
  grind),hR3⟩
section
variable {P:Program} {B:Base} {N:Nat} {ρ:Type} {Γ:AE} {a:Act} {w:World} {σ:Gh}
theorem b9F{q:Bool}{t:Ty}{place:Nat→Option (Nat×Nat)}(hp:c4K t place):∀(l:List (Nat×Operand)) {Γ:AE} {σ:Gh} {x:t.den} {cs:Array Value} {R} {K:t.den→AE→Rs ρ} {z:ρ},Rel B Γ N (a0p a) w σ→
  (∀y∈l,a1u N y.2=true)→cs.size=t.cells→dec (a0a w σ.ov) t (fun j=>cs[j]?)=some (x,[],R)→(∀c∈R,Shr B w σ c)→Γ.fills q t l x K=some z→
  ∃y cs' Γ' σ' R',K y Γ'=some z∧Rel B Γ' N (a0p a) w σ'∧Instr.fill place cs (l.map fun(i,x)=>(i,a.eval x))=some cs'∧cs'.size=t.cells∧dec (a0a w σ'.ov) t (fun j=>cs'[j]?)=some (y,[],R')∧(∀c∈R',Shr B w σ' c)
 | [],Γ,σ,x,cs,R,K,z,h,_,hs,hd,hR,hz=>⟨x,cs,Γ,σ,R,hz,h,rfl,hs,hd,hR⟩
 |(i,o)::l,Γ,σ,x,cs,R,K,z,h,hl,hs,hd,hR,hz=>by
  unfold AE.fills at hz;rcases a0i hz with⟨hi,hz⟩|⟨-,hz⟩;obtain⟨τ',k,h1,h2,h3⟩:=hp i hi;have hg:(a1p t x (AE.pathOf t i)).1=τ':=by
   have h0:dec (fun c j=>if c=w.heap.size then cs[j]? else a0a w σ.ov c j) t ((Src.at w.heap.size 0).rd fun c j=>if c=w.heap.size then cs[j]? else a0a w σ.ov c j)=some (x,[],R):=
    a0x t hd (fun j _=>by simp[Src.rd]) (fun b j hb=>by
     rcases hb with hb|hb;simp_all
     have:=(hR b hb).1
     grind)
   obtain⟨y0,O1,R1,A1,B1,A1',B1',hd1,hg,-⟩:=a1G _ t _ h0 (h3 _ _ _)
   grind
  generalize hgg:a1p t x (AE.pathOf t i)=gg at hz hg;obtain⟨t2,y2⟩:=gg;simp only at hg;subst hg;simp only at hz;obtain⟨y,Γ1,σ1,hz,h4,hv,hev,-⟩:=h.asV (.inl (h.opd (hl _ (a31 ..)))) hz;have hd':dec (a0a w σ1.ov) t (fun j=>cs[j]?)=some (x,[],R):=by rw[hev.ov];omega
  obtain⟨R',h5,h6⟩:=d3w (sz:=w.heap.size) (fun c hc=>hc.1) hd' (fun c hc=>hev.shr c (hR c hc)) h3 (by omega) hv;obtain⟨y',cs',Γ',σ',R'',g1,g2,g3,g4,g5,g6⟩:=b9F hp l h4 (fun u hu=>hl u (List.mem_cons_of_mem _ hu)) (cs:=(a.eval o).cells.zipIdx.foldl (fun cs (c,j)=>cs.setIfInBounds (k+j) c) cs) (by
   have hfold:(a.eval o).cells.zipIdx.foldl (fun cs (c,j)=>cs.setIfInBounds (k+j) c) cs=((a.eval o).cells.toList.zipIdx 0).foldl (fun cs (c:Value×Nat)=>cs.setIfInBounds (k+c.2) c.1) cs:=by
    rw[←a33];simp
   simp_all[c4J]) h5 h6 hz
  refine⟨y',cs',Γ',σ',R'',g1,g2,?_,g4,g5,g6⟩;have hvc:=hv.cells.1;simp_all[Instr.fill];simp_all
theorem c6N{q:Bool}{e:Ty}{n:Nat}:∀(l:List (Nat×Operand)) (Γ:AE) (x:List e.den) (K:List e.den→AE→Rs ρ),Γ.lit q e n l x K=Γ.fills q (.arr n e) l x K
 | [],_,_,_=>rfl
 |(i,o)::l,Γ,x,K=>by
  show(bif decide (i<n)then Γ.asV q e (Γ.opd o) (fun y Γ'=>Γ'.lit q e n l (x.set i y) K)else none) =
   (bif decide (i<n)then Γ.asV q e (Γ.opd o) (fun y Γ'=>Γ'.fills q (.arr n e) l (a1U (.arr n e) x [.idx i] e y) K)else none)
  congr 2;funext y Γ';rw[c6N l];congr 1;show x.set i y=a30 x i (if h:e=e then h▸y else _)
  simp
theorem c4M{o:Oper}{t:TypeId}{n:Nat}{ps:Array (Nat×Operand)}{d:Nat}{cx:Cx}{q:Bool}{K:AE→Rs ρ}{z:ρ}(hcx:CxTy P cx)(ho:o.op=.buildSlice t n ps)(hd:o.dst=some d)
  (hO:∀o' e,cx.T t=some (.list o' e)→(bif q || !e.isList then none else cx.O d)=none)
  (h:Rel B Γ N (a0p a) w σ)(hN:a.tmps.size=N)(hf:fits N o=true)(hz:aop cx q o Γ K=some z):a0w P B N o a w K z:=by
 have hops:∀y∈(o.op.operands.toList),a1u N y=true:=a0X hf;rw[ho]at hops;simp[aop,ho,hd]at hz
 split at hz
 rename_i o' e hT;rw[hO o' e hT]at hz;rcases a0i hz with⟨hc,hz⟩|⟨-,hz⟩;simp[lim]at hc;rw[c6N]at hz;obtain⟨hsh,hty⟩:=hcx.T t _ hT;obtain⟨t',hu,hte,hpos⟩:=a1X hty;obtain⟨I⟩:=a0E (a0L hte);obtain⟨y,cs',Γ',σ',R',g1,g2,g3,g4,g5,g6⟩:=b9F (c4L n e) ps.toList h (fun y hy=>hops y.2 (by
   simp only[Op.operands]
   grind)) (cs:=madeCells I.z.cells (n*e.cells)) (size_madeCells _ _) (c8E (m:=a0a w σ.ov) I.zok I.zsize n) (by simp) hz
 have g5:a0g (fun i=>dec (a0a w σ'.ov) e fun j=>cs'[i*e.cells+j]?) n 0=some (y,[],R'):=g5;have hlen:=a0W n 0 g5;have hn2:n*e.cells=0→n=0:=fun e0=>by
  grind[Nat.mul_eq_zero]
 have hrun:(execOp a.eval o).run P w=.ok (.value (.slice (some ⟨w.heap.size,0,none⟩) n n)) (w.alloc (.cells cs' t')):=by
  have hle:¬ (n*e.cells > 2^24):=by omega
  have hpm:(ps.map fun(i,x)=>(i,a.eval x)).toList=ps.toList.map fun(i,x)=>(i,a.eval x):=by simp
  by_cases h0:n*e.cells=0
  have:(Array.range (n*e.cells)).map (fun i=>(#[]:Array Value)[i%(#[]:Array Value).size]!)=madeCells I.z.cells (n*e.cells):=by
   simp_all[madeCells]
  have g3':=g3;rw[←this]at g3';simp only[execOp,ho,Instr.buildSlice,Sem.run_bind,run_underlying hu,Result.andThen_ok,I.sizeOf,if_neg hle,if_pos h0,Sem.run_pure,hpm,g3',newRow]
  simp
  have g3':Instr.fill (fun i=>some (i*e.cells,e.cells)) ((Array.range (n*e.cells)).map (I.z.cells[·%I.z.cells.size]!)) (ps.toList.map fun(i,x)=>(i,a.eval x))=some cs':=g3;simp only[execOp,ho,Instr.buildSlice,Sem.run_bind,run_underlying hu,Result.andThen_ok,I.sizeOf,if_neg hle,if_neg h0,Sem.run_pure,I.zeroValue,hpm,g3',newRow]
  simp
 have hyl:a01 (show List e.den from y)=n:=hlen;obtain⟨Γ2,σ2,k1,k2,k3,-,-⟩:=g2.newSlice (c:=n) g1 (fun c hc=>a2j _ c hc) (a2O _) (a2k (Obj.cells cs' t')) (.inl rfl) (Nat.le_of_eq g4.symm) (Nat.le_of_eq hyl) (by rw[hyl];exact g5) g6
 grind[a0w.set]
 simp_all;simp_all
theorem b8f{P:Program}{w:World}:∀(fs:List Field),(∀f∈fs,∃i,P.info? f.type=some i)→
  ∃l:List (Nat×Nat),(fs.mapM fun f=>do pure (f.offset,←sizeOf f.type):Sem (List (Nat×Nat))).run P w=.ok l w∧l.length=fs.length∧∀(k:Nat) f,fs[k]?=some f→∃i,P.info? f.type=some i∧l[k]?=some (f.offset,i.size)
 | [],_=>⟨[],rfl,rfl,by simp⟩
 |f::fs,h=>by
  obtain⟨i,hi⟩:=h f (by simp);obtain⟨l,h1,h2,h3⟩:=b8f (w:=w) fs (fun g hg=>h g (by grind));refine⟨(f.offset,i.size)::l,?_,by grind,fun k g hg=>?_⟩;simp_all[sizeOf,typeInfo]
  grind
theorem b1U{P:Program}:∀(τ:Ty)(fs:List Field)(off:Nat),a0u P τ (.inr (fs,off))=true→∀f∈fs,∃i,P.info? f.type=some i
 |.pair a b,f::r,off,h=>by
  simp only[a0u,bA]at h;obtain⟨I⟩:=a0E (a0L h.1.1.2);intro g hg;rcases mC.1 hg with rfl|hg;exact⟨_,I.info⟩;exact b1U b r _ h.2 g hg
 |.unit,[],_,_=>by simp
 |.unit,_::_,_,h=>by simp[a0u]at h
 |.pair _ _,[],_,h=>by simp
 |.int _,_,_,h=>by simp[a0u]at h
 |.bool,_,_,h=>by simp[a0u]at h
 |.str,_,_,h=>by simp[a0u]at h
 |.list _ _,_,_,h=>by simp[a0u]at h
 |.arr _ _,_,_,h=>by simp[a0u]at h
theorem c6O{o:Oper}{t:TypeId}{τ:Ty}{ps:Array (Nat×Operand)}{d:Nat}{q:Bool}{K:AE→Rs ρ}{z:ρ}(hty:a0u P τ (.inl t)=true)(ho:o.op=.build t ps)(hd:o.dst=some d)
  (h:Rel B Γ N (a0p a) w σ)(hN:a.tmps.size=N)(hf:fits N o=true)(hz:(bif τ.isAgg then Γ.fills q τ ps.toList τ.dflt fun y Γ=>K (Γ.set d (.val τ y))else none)=some z):a0w P B N o a w K z:=by
 have hops:∀y∈(o.op.operands.toList),a1u N y=true:=a0X hf;rw[ho]at hops
 ·obtain⟨I⟩:=a0E (a0L hty);obtain⟨hagg,hz⟩:τ.isAgg=true∧_:=(a0i hz).elim id fun h=>by grind
  have hops':∀y∈ps.toList,a1u N y.2=true:=fun y hy=>hops y.2 (by
     simp only[Op.operands]
     grind)
  have hpm:(ps.map fun(i,x)=>(i,a.eval x)).toList=ps.toList.map fun(i,x)=>(i,a.eval x):=by simp
  have fin:∀place,c4K τ place→(∀cs',Instr.fill place I.z.cells (ps.toList.map fun(i,x)=>(i,a.eval x))=some cs'→(execOp a.eval o).run P w=.ok (.value (.agg cs')) w)→τ.isAgg=true→a0w P B N o a w K z:=by
   intro place hp hrun hagg;obtain⟨y,cs',Γ',σ',R',g1,g2,g3,g4,g5,g6⟩:=b9F hp ps.toList h hops' I.zsize (a6Y τ I.zok) (by simp) hz;exact a0w.set hd hN (hrun cs' g3) g2 (av:=.val τ y) ⟨fun _=>⟨cs',rfl,g4⟩,fun e=>(by simp_all),R',g5,g6⟩ g1
  have str:∀fs:Array Field,P.underlying t=some (.struct fs)→a0u P τ (.inr (fs.toList,0))=true→(∀i,AE.pathOk τ i=a2J τ i∧AE.pathOf τ i=a1A i)→τ.isAgg=true→a0w P B N o a w K z:=by
   intro fs hu hs hpath hagg;obtain⟨l,h1,h2,h3⟩:=b8f (P:=P) (w:=w) fs.toList (b1U τ _ _ hs);refine fin (fun i=>l.toArray[i]?) (fun i hi=>?_) (fun cs' hc=>?_) hagg;rw[(hpath i).1]at hi;rw[(hpath i).2];obtain⟨fl,τ',k,k1,k2,k3,k4,k5⟩:=b5H i τ _ 0 hs hi;obtain⟨fl2,τ2,k',j1,j2,j3,j4,-⟩:=b8e i τ _ 0 hs hi;rw[k1]at j1;simp at j1;subst j1;obtain⟨i',hi',hl⟩:=h3 i fl k1;obtain⟨I1⟩:=a0E (a0L k3);obtain⟨I2⟩:=a0E (a0L j3);have e1:i'=I1.i:=by have:=hi'.symm.trans I1.info;simp_all
   have e2:I1.i=I2.i:=by have:=I1.info.symm.trans I2.info;simp_all
   refine⟨τ',k,?_,?_,k5⟩;have hk:fl.offset=k:=by omega
   simp
   rw[hl,e1,I1.size,hk];have s1:=I1.size;have s2:=I2.size;simp_all;have hm:(fs.mapM fun f=>do pure (f.offset,←sizeOf f.type):Sem (Array (Nat×Nat))).run P w=.ok l.toArray w:=by
    simp_all[a26]
   simp only[execOp,ho,Instr.build,Sem.run_bind,I.zeroValue,Result.andThen_ok,run_underlying hu,hm,hpm,hc]
   simp
  have arr:∀n t' e,P.underlying t=some (.array n t')→a0u P e (.inl t')=true→c4K τ (fun i=>some (i*e.cells,e.cells))→τ.isAgg=true→a0w P B N o a w K z:=by
   intro n t' e hu hte hp hagg;obtain⟨I'⟩:=a0E (a0L hte);refine fin _ hp (fun cs' hc=>?_) hagg;simp only[execOp,ho,Instr.build,Sem.run_bind,I.zeroValue,Result.andThen_ok,run_underlying hu,I'.sizeOf,hpm,hc]
   simp
  clear fin;cases τ with
  |pair u v=>
   simp[a0u]at hty;obtain⟨-,hty⟩:=hty
   split at hty
   rename_i fs hu
   split at hty
   rename_i fl r hl;refine str fs hu ?_ (fun i=>⟨rfl,rfl⟩) rfl;simp_all[a0u];simp_all;simp_all
  |unit=>
   simp[a0u]at hty;obtain⟨-,hty⟩:=hty
   split at hty
   rename_i fs hu;refine str fs hu ?_ (fun i=>⟨rfl,rfl⟩) rfl
   have:fs.toList=[]:=by simp_all
   rw[this];rfl;simp_all
  |arr n e=>
   obtain⟨t',hu,hte,-⟩:=b1S hty;exact arr n t' e hu hte (c4L n e) rfl
  |_=>cases hagg
theorem c4N{o:Oper}{t:TypeId}{ps:Array (Nat×Operand)}{d:Nat}{cx:Cx}{q:Bool}{K:AE→Rs ρ}{z:ρ}(hcx:CxTy P cx)(ho:o.op=.build t ps)(hd:o.dst=some d)(hO:cx.nlT d t=none→(bif q then none else cx.O d)=none)
  (h:Rel B Γ N (a0p a) w σ)(hN:a.tmps.size=N)(hf:fits N o=true)(hz:aop cx q o Γ K=some z):a0w P B N o a w K z:=by
 simp[aop,ho,hd]at hz;cases hn:cx.nlT d t with
 |some τ=>
  rw[hn]at hz;refine c6O ?_ ho hd h hN hf hz;simp[Cx.nlT]at hn
  split at hn
  split at hn
  rename_i t' _ hc;cases hn;rw[←a3C];exact(hcx.T t _ hc.2).2;simp_all;simp_all
 |none=>
 rw[hn]at hz;simp[hO hn]at hz
 split at hz
 rename_i τ hT;exact c6O (hcx.T t _ hT).2 ho hd h hN hf hz;simp_all
theorem c1i{u:Value}(h:a1v u=true):u.cells=#[u]:=by
 cases u<;>first|rfl|(simp[a1v]at h)
theorem c8F(h:Rel B Γ N (a0p a) w σ){v:AV}{τ:Ty}{u:Value}(hv:a0j (a0a w σ.ov) σ.g Γ.rt (Shr B w σ) v u)(hf:v.fits1 τ=true):a1v u=true:=by
 unfold AV.fits1 at hf
 split at hf
 rename_i t x;simp at hf;exact hv.2.1 hf.1;rename_i n e;obtain⟨r,e',s,h1,h2,h3⟩:=hv;obtain⟨O',R,g1,g2,-⟩:=h.sep h1;obtain⟨y,O1,R1,_,_,_,_,g3,g4,-⟩:=a1G _ r.t _ g1 h2;obtain⟨s',A,c,-,-,hv,-,hA,-⟩:=h.sref_head ⟨r,e',s,h1,h2,h3⟩ h1 g4;rw[hv];rfl;have hv:u=.slice none 0 0:=hv;rw[hv];rfl;simp_all
theorem d3x{place:Nat→Option (Nat×Nat)}{k:Nat}{u:Value}{l:List (Nat×Value)}{pre zs:List Value}{c:Value}(hp:place k=some (k,1))(hu:a1v u=true)(hk:pre.length=k):
  Instr.fill place (pre++c::zs).toArray ((k,u)::l)=Instr.fill place (pre++[u]++zs).toArray l:=by
 have hu:=c1i hu;simp only[Instr.fill,hp];simp_all
theorem d3y{m:Mem}{g:Nat→Src}{rt:Nat→Option Root}{Sh:Nat→Prop}{τ:Ty}{v:AV}{u:Value}{rd:Nat→Option Value}(h:a9G τ=some v)(hz:a2t τ rd=true)(hu:rd 0=some u):τ.cells=1∧a1v u=true∧a0j m g rt Sh v u:=by
 have val:τ.isAgg=false→a1v u=true→τ.cells=1→a2t τ (fun j=>u.cells[j]?)=true→VOk m Sh τ τ.dflt u:=fun h1 h2 h3 h4=>
  ⟨fun g=>(by simp_all),fun _=>h2,[],a6Y τ h4,by simp⟩
 cases τ with
 |int k=>
  simp[a9G]at h;simp[a2t,hu]at hz;cases u with
  |int k' n=>
   subst h;exact⟨rfl,rfl,val rfl rfl rfl (by simp_all[a2t,Value.cells])⟩
  |_=>cases hz
 |bool=>
  simp[a9G]at h;simp[a2t,hu]at hz;cases u with
  |bool b=>
   subst h;exact⟨rfl,rfl,val rfl rfl rfl (by simp_all[a2t,Value.cells])⟩
  |_=>cases hz
 |str=>
  simp[a9G]at h;simp[a2t,hu]at hz;cases u with
  |string b=>
   subst h;exact⟨rfl,rfl,val rfl rfl rfl (by simp_all[a2t,Value.cells])⟩
  |_=>cases hz
 |list o e=>
  simp[a9G]at h;simp[a2t,hu]at hz;subst h
  split at hz
  rename_i heq;simp at heq;subst heq;exact⟨rfl,rfl,rfl⟩;simp_all
 |_=>cases h
theorem c1j{place:Nat→Option (Nat×Nat)}(h:Rel B Γ N (a0p a) w σ):∀(τ:Ty)(k:Nat)(ps:List (Nat×Operand)) (vs:List AV),Γ.aggV k τ ps=some vs→(∀p∈ps,a1u N p.2=true)→
  (∀j,j<τ.cells→place (k+j)=some (k+j,1))→∀(pre zs:List Value),pre.length=k→zs.length=τ.cells→a2t τ (fun j=>zs[j]?)=true→
  ∃us:List Value,us.length=τ.cells∧vs.length=τ.cells∧Instr.fill place (pre++zs).toArray (ps.map fun p=>(p.1,a.eval p.2))=some (pre++us).toArray∧
   ∀(j:Nat) v,vs[j]?=some v→∃u,us[j]?=some u∧a1v u=true∧a0j (a0a w σ.ov) σ.g Γ.rt (Shr B w σ) v u
 |.unit,k,[],vs,hv,_,_,pre,zs,hp,hz,_=>by
  simp only[AE.aggV,sj]at hv;subst hv
  have:zs=[]:=List.eq_nil_of_length_eq_zero hz
  subst this;exact⟨[],rfl,rfl,rfl,fun j v hj=>by simp_all⟩
 |.pair u v,k,ps,vs,hv,hops,hpl,pre,zs,hp,hz,hzr=>by
  have zero:((a9G u).bind fun x=>(Γ.aggV (k+1) v ps).map (x::·))=some vs→∃us:List Value,us.length=(Ty.pair u v).cells∧vs.length=(Ty.pair u v).cells∧Instr.fill place (pre++zs).toArray (ps.map fun p=>(p.1,a.eval p.2))=some (pre++us).toArray∧
    ∀(j:Nat) v,vs[j]?=some v→∃u,us[j]?=some u∧a1v u=true∧a0j (a0a w σ.ov) σ.g Γ.rt (Shr B w σ) v u:=fun hb=>by
   cases hx:a9G u with
   |none=>simp_all
   |some x=>
    rw[hx]at hb;cases hr:Γ.aggV (k+1) v ps with
    |none=>simp_all
    |some vs'=>
     rw[hr]at hb;cases hb;simp[a2t]at hzr;have hpos:0<u.cells:=by
      cases u<;>first|(cases hx;done)|exact Nat.one_pos
     cases zs with
     |nil=>grind[Ty.cells]
     |cons z0 zs=>
      obtain⟨c1,c2,c3⟩:=d3y (m:=a0a w σ.ov) (g:=σ.g) (rt:=Γ.rt) (Sh:=Shr B w σ) hx hzr.1 (by simp:(z0::zs)[0]?=some z0);have hz':zs.length=v.cells:=by grind[Ty.cells]
      obtain⟨us,k1,k2,k3,k4⟩:=c1j h v (k+1) ps vs' hr hops (fun j hj=>by
       have:=hpl (j+1) (by grind)
       rwa [show k+(j+1)=k+1+j from by omega]at this) (pre++[z0]) zs (by grind) hz' (by
       grind)
      refine⟨z0::us,by simp_all,by simp_all,?_,fun j y hj=>?_⟩
      all_goals grind
  cases ps with
  |nil=>exact zero hv
  |cons p r=>
   obtain⟨i,o⟩:=p;simp[AE.aggV]at hv;rcases a0i hv with⟨hi,hv'⟩|⟨-,hv'⟩
   ·have hi:i=k:=by simp_all
    subst hi;obtain⟨hc,hv'⟩:=(a0i hv').elim id fun h=>by grind
    simp at hc;obtain⟨h1,h2⟩:=hc;cases hr:Γ.aggV (i+1) v r with
    |none=>simp_all
    |some vs'=>
     rw[hr]at hv';cases hv';have hav:=h.opd (hops (i,o) (by simp));have hsg:=c8F h hav h2;cases zs with
     |nil=>grind[Ty.cells]
     |cons z0 zs=>
      have hz':zs.length=v.cells:=by grind[Ty.cells]
      simp[a2t]at hzr;obtain⟨us,k1,k2,k3,k4⟩:=c1j h v (i+1) r vs' hr (fun p hp=>hops p (by grind)) (fun j hj=>by
       have:=hpl (j+1) (by grind)
       rwa [show i+(j+1)=i+1+j from by omega]at this) (pre++[a.eval o]) zs (by grind) hz' (by
       grind)
      refine⟨a.eval o::us,by simp_all,by simp_all,?_,fun j y hj=>?_⟩;rw[a09];have hp0:=hpl 0 (by grind);simp_all[d3x]
      grind
   simp_all
 |.unit,_,_::_,_,hv,_,_,_,_,_,_,_=>by simp[AE.aggV]at hv
 |.int _,_,_,_,hv,_,_,_,_,_,_,_=>by simp[AE.aggV]at hv
 |.bool,_,_,_,hv,_,_,_,_,_,_,_=>by simp[AE.aggV]at hv
 |.str,_,_,_,hv,_,_,_,_,_,_,_=>by simp[AE.aggV]at hv
 |.list _ _,_,_,_,hv,_,_,_,_,_,_,_=>by simp[AE.aggV]at hv
 |.arr _ _,_,_,_,hv,_,_,_,_,_,_,_=>by simp[AE.aggV]at hv
theorem c8G:∀(τ:Ty)(k:Nat)(ps:List (Nat×Operand)) (vs:List AV),Γ.aggV k τ ps=some vs→vs.length=τ.cells∧
  ∀{P:Program} fs,a0u P τ (.inr (fs,k))=true→fs.length=vs.length∧∀(j:Nat) f,fs[j]?=some f→f.offset=k+j∧∃τ',a0u P τ' (.inl f.type)=true∧τ'.cells=1
 |.unit,k,[],vs,hv=>by
  simp only[AE.aggV,sj]at hv;subst hv;exact⟨rfl,fun fs h=>by
   cases fs with
   |nil=>simp
   |cons f r=>simp[a0u]at h⟩
 |.pair u v,k,ps,vs,hv=>by
  have step:∀x ps' vs',u.cells=1→Γ.aggV (k+1) v ps'=some vs'→vs=x::vs'→vs.length=(Ty.pair u v).cells∧
    ∀{P:Program} fs,a0u P (.pair u v) (.inr (fs,k))=true→fs.length=vs.length∧∀(j:Nat) f,fs[j]?=some f→f.offset=k+j∧∃τ',a0u P τ' (.inl f.type)=true∧τ'.cells=1:=fun x ps' vs' h1 hr e=>by
   subst e;obtain⟨g1,g2⟩:=c8G v (k+1) ps' vs' hr;refine⟨by grind[Ty.cells],fun fs h=>?_⟩;cases fs with
   |nil=>simp[a0u]at h
   |cons f fs=>
    simp[a0u]at h
    grind
  have zero:((a9G u).bind fun x=>(Γ.aggV (k+1) v ps).map (x::·))=some vs→vs.length=(Ty.pair u v).cells∧
    ∀{P:Program} fs,a0u P (.pair u v) (.inr (fs,k))=true→fs.length=vs.length∧∀(j:Nat) f,fs[j]?=some f→f.offset=k+j∧∃τ',a0u P τ' (.inl f.type)=true∧τ'.cells=1:=fun hb=>by
   cases hx:a9G u with
   |none=>simp_all
   |some x=>
    rw[hx]at hb;cases hr:Γ.aggV (k+1) v ps with
    |none=>simp_all
    |some vs'=>
     rw[hr]at hb;cases hb;exact step x ps vs' (by cases u<;>first|(cases hx;done)|rfl) hr rfl
  cases ps with
  |nil=>exact zero hv
  |cons p r=>
   obtain⟨i,o⟩:=p;simp[AE.aggV]at hv;rcases a0i hv with⟨-,hv'⟩|⟨-,hv'⟩
   ·obtain⟨hc,hv'⟩:=(a0i hv').elim id fun h=>by grind
    simp at hc;cases hr:Γ.aggV (k+1) v r with
    |none=>simp_all
    |some vs'=>
     grind
   grind
 |.unit,_,_::_,_,hv=>by simp[AE.aggV]at hv
 |.int _,_,_,_,hv=>by simp[AE.aggV]at hv
 |.bool,_,_,_,hv=>by simp[AE.aggV]at hv
 |.str,_,_,_,hv=>by simp[AE.aggV]at hv
 |.list _ _,_,_,_,hv=>by simp[AE.aggV]at hv
 |.arr _ _,_,_,_,hv=>by simp[AE.aggV]at hv
theorem c7I{o:Oper}{t:TypeId}{ps:Array (Nat×Operand)}{d:Nat}{cx:Cx}{q:Bool}{K:AE→Rs ρ}{z:ρ}{τ:Ty}(hcx:CxTy P cx)(ho:o.op=.build t ps)(hd:o.dst=some d)(hO:(bif q then none else cx.O d)=some τ)(hnl:cx.nlT d t=none)
  (h:Rel B Γ N (a0p a) w σ)(hN:a.tmps.size=N)(hf:fits N o=true)(hz:aop cx q o Γ K=some z):a0w P B N o a w K z:=by
 have hops:∀y∈(o.op.operands.toList),a1u N y=true:=a0X hf;rw[ho]at hops;have hops':∀y∈ps.toList,a1u N y.2=true:=fun y hy=>hops y.2 (by
  simp only[Op.operands]
  grind)
 simp only[aop,ho,hd,hO,hnl]at hz
 ·split at hz
  ·rename_i hT
   split at hz
   ·rename_i vs hag;obtain⟨hpos,hz'⟩:=(a0i hz).elim id fun h=>by grind
    have hpos:0<τ.cells:=by simp_all
    have hty:a0u P τ (.inl t)=true:=by rw[←a3C];exact(hcx.T t _ hT).2
    obtain⟨hvl,g4⟩:=c8G τ 0 ps.toList vs hag;cases τ with
    |pair u v=>
     obtain⟨I⟩:=a0E (a0L hty);obtain⟨fs,hu,hs⟩:=b4i (f:=0) hty rfl;obtain⟨g5,g6⟩:=g4 _ hs;obtain⟨l,h1,h2,h3⟩:=b8f (P:=P) (w:=w) fs.toList (b1U _ _ _ hs);have hm:(fs.mapM fun f=>do pure (f.offset,←sizeOf f.type):Sem (Array (Nat×Nat))).run P w=.ok l.toArray w:=by
      simp_all[a26]
     have hpl:∀j,j<(Ty.pair u v).cells→(fun i=>l.toArray[i]?) (0+j)=some (0+j,1):=fun j hj=>by
      have hj':j<fs.toList.length:=by omega
      have hf':=lG hj';obtain⟨i,hi,hl⟩:=h3 j _ hf';obtain⟨e1,τ',e2,e3⟩:=g6 j _ hf';obtain⟨I1⟩:=a0E (a0L e2);have e4:i=I1.i:=by have:=hi.symm.trans I1.info;simp_all
      simp
      rw[hl,e1,e4,I1.size,e3,a20]
     obtain⟨us,k1,-,hfill,k4⟩:=c1j h (Ty.pair u v) 0 ps.toList vs hag hops' hpl [] I.z.cells.toList rfl (by simpa using I.zsize) (by simpa using I.zok);simp at hfill;have hpm:(ps.map fun(i,x)=>(i,a.eval x)).toList=ps.toList.map fun p=>(p.1,a.eval p.2):=by simp
     have hrun:(execOp a.eval o).run P w=.ok (.value (.agg us.toArray)) w:=by
      simp only[execOp,ho,Instr.build,Sem.run_bind,I.zeroValue,Result.andThen_ok,run_underlying hu,hm,hpm,hfill]
      simp
     refine⟨_,w,_,σ,.inl hrun,?_,hz'⟩;rw[hd];refine h.putd hN (fun _=>⟨_,⟨by simp_all,rfl,fun k x hx=>?_⟩,fun k av hk=>?_⟩);rw[List.getElem?_toArray]at hx;have hlt:k<vs.length:=by
      grind
     obtain⟨u',q1,q2,-⟩:=k4 k _ (lG hlt);simp_all
     grind
    |unit=>simp[Ty.cells]at hpos
    |int k=>simp[AE.aggV]at hag
    |bool=>simp[AE.aggV]at hag
    |str=>simp[AE.aggV]at hag
    |list o' e=>simp[AE.aggV]at hag
    |arr n e=>simp[AE.aggV]at hag
    |nl e=>simp[AE.aggV]at hag
   simp_all
  simp_all
end
end Go.Ab
