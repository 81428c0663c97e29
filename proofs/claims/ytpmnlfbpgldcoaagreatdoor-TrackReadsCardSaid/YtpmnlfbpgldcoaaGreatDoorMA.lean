/- Part of the proof: LibA. Conditions: as each statement tells. -/
import GoSem.Core.Code
import GoSem.Core.View
import GoSem.Core.Lib
import GoSem.Core.Region
import Derived.Orders
import GoSem.Machine.Frame
import Derived.Laws.World
import Derived.Laws.Cells
import Derived.Laws.IdiomCopy
import Derived.Laws.Entries
import Derived.Laws.Strings
import Derived.Laws.BytesString
import Derived.Laws.IdiomStrings
import Derived.Laws.Append
import Derived.Laws.MakeOwn
import Derived.Great.FillDense
noncomputable section
set_option linter.unusedSimpArgs false
set_option linter.unusedVariables false
open BitVec renaming ofInt->a33
open Bool renaming false_eq_true->a29
open List renaming length->a01,mem_append_right->a02,mem_append_left->a03,nodup_append->a07,replicate->a08,mem_map_of_mem->a15,map_cons->a16,nodup_cons->a19,getD->a22,append_eq_nil_iff->a23,take->a24,drop->a27,range->a28,getElem?_map->a30,set->a31,drop_take->a32
open Nat renaming mul_le_mul_right->a00,succ_mul->a04,le_trans->a05,lt_of_lt_of_le->a06,le_refl->a18,lt_or_gt_of_ne->a20,zero_add->a26
open Option renaming bind_eq_some_iff->a09,isSome_iff_exists->a25
namespace Go.Ab
variable {A A' Z α:Type}{P:Program}{Sh Sh':Nat->Prop}{b c d k n o sz:Nat}{cs:Array Value}{i:Int}{op:BinOp}{q:Bool}{t t':TypeId}{v:Value}{w w':World}{x:Operand}{z:Z}
theorem oB{α β:Type _}(a:α)(f:α->Option β):(some a).bind f=f a:=rfl
theorem bA9 (a b:Bool):((a&&b)=true)=(a=true/\b=true):=Bool.and_eq_true a b
theorem dT {p:Prop} [Decidable p]:(decide p=true)=p:=decide_eq_true_eq
theorem cT {α:Type _} (a b:α):cond true a b=a:=rfl
theorem cF {α:Type _} (a b:α):cond false a b=b:=rfl
theorem lG {α:Type _} {l:List α} {i:Nat} (h:i<l.length):l[i]?=some l[i]:=List.getElem?_eq_getElem h
theorem pJ {α β:Type _} (a:α) (b:β) (c:α) (d:β):((a,b)=(c,d))=(a=c/\b=d):=Prod.mk.injEq a b c d
theorem lA {α:Type _} {p:α->Bool} {l:List α}:l.all p=true↔∀x,x ∈ l->p x=true:=List.all_eq_true
theorem lD {α:Type _} {l:List α} {i:Nat} {a:α}:l.getD i a=l[i]?.getD a:=List.getD_eq_getElem?_getD
theorem lS {α:Type _} {l:List α} {i:Nat} {a:α}:l[i]?=some a↔∃h:i<l.length,l[i]=a:=List.getElem?_eq_some_iff
theorem nZ:((0:Nat):Int)=0:=rfl
theorem tN (n:Nat):(n:Int).toNat=n:=rfl
theorem bT:(!true)=false:=rfl
theorem mA {α:Type _} {a:α} {s t:List α}:a ∈ s++t↔a ∈ s\/a ∈ t:=List.mem_append
theorem pA {α β:Type _} {f:α->β} {l m:List α}:(l++m).map f=l.map f++m.map f:=List.map_append
theorem lN {α:Type _} {s t:List α}:(s++t).length=s.length+t.length:=List.length_append
theorem lC {α:Type _} {a:α} {s:List α}:(a::s).length=s.length+1:=rfl
theorem mC {α:Type _} {a b:α} {l:List α}:a ∈ b::l↔a=b\/a ∈ l:=List.mem_cons
theorem aA {α:Type _} (a b c:List α):a++b++c=a++(b++c):=List.append_assoc a b c
theorem sj{α:Type _}(a b:α):(some a=some b)=(a=b):=Option.some.injEq a b
inductive Ty where
 |int (k:IntKind)|bool|str|unit
 |list (o:Bool) (t:Ty)|pair (a b:Ty)|arr (n:Nat) (t:Ty)

 |nl (t:Ty)
 deriving DecidableEq
variable {e τ:Ty}
def Ty.den:Ty->Type
 |.int _=>Int
 |.bool=>Bool
 |.str=>List Int
 |.unit=>Unit
 |.list _ t=>List t.den
 |.pair a b=>a.den×b.den
 |.arr _ t=>List t.den
 |.nl t=>List t.den
variable {l:List e.den}
def Ty.dflt:(t:Ty)->t.den
 |.int _=>(0:Int)
 |.bool=>false
 |.str=>([]:List Int)
 |.unit=>()
 |.list _ t=>([]:List t.den)
 |.pair a b=>(a.dflt,b.dflt)
 |.arr n t=>a08 n t.dflt
 |.nl t=>([]:List t.den)
def Ty.cells:Ty->Nat
 |.unit=>0
 |.pair a b=>a.cells+b.cells
 |.arr n t=>n*t.cells
 |_=>1
def Ty.sh:Ty->Ty
 |.list _ t=>.list false t.sh
 |.pair a b=>.pair a.sh b.sh
 |.arr n t=>.arr n t.sh
 |.nl t=>.list false t.sh
 |t=>t
def Ty.shn:Ty->Ty
 |.list _ t=>.list false t.sh
 |.pair a b=>.pair a.shn b.shn
 |.arr n t=>.arr n t.sh
 |.nl t=>.nl t.sh
 |t=>t
def Ty.isAgg:Ty->Bool
 |.unit|.pair _ _|.arr _ _=>true
 |_=>false
theorem Ty.den_sh:(t:Ty)->t.sh.den=t.den
 |.int _|.bool|.str|.unit=>rfl
 |.list _ t=>congrArg List (Ty.den_sh t)
 |.arr _ t=>congrArg List (Ty.den_sh t)
 |.nl t=>congrArg List (Ty.den_sh t)
 |.pair a b=>by show(a.sh.den×b.sh.den)=(a.den×b.den);rw[Ty.den_sh a,Ty.den_sh b]
theorem Ty.den_shn:(t:Ty)->t.shn.den=t.den
 |.int _|.bool|.str|.unit=>rfl
 |.list _ t=>congrArg List (Ty.den_sh t)
 |.arr _ t=>congrArg List (Ty.den_sh t)
 |.nl t=>congrArg List (Ty.den_sh t)
 |.pair a b=>by show(a.shn.den×b.shn.den)=(a.den×b.den);rw[Ty.den_shn a,Ty.den_shn b]
def Ty.shnx(t:Ty)(x:t.den):t.shn.den:=cast (Ty.den_shn t).symm x
def Ty.le:Ty->Ty->Bool
 |.nl a,.list _ b=>decide (a.sh=b.sh)
 |.pair a b,.pair a' b'=>a.le a'&&b.le b'
 |a,b=>decide (a=b)
theorem Ty.le_den:∀(a b:Ty),a.le b=true->a.den=b.den
 |.nl a,.list o b,h=>by
  simp only[Ty.le,dT]at h;show List a.den=List b.den;rw[<-Ty.den_sh a,<-Ty.den_sh b,h]
 |.pair a b,.pair a' b',h=>by
  simp only[Ty.le,bA9]at h;show(a.den×b.den)=(a'.den×b'.den);rw[Ty.le_den a a' h.1,Ty.le_den b b' h.2]
 |.nl a,.nl b,h=>by
  simp only[Ty.le,dT]at h;rw[h]
 |.nl a,.int _,h|.nl a,.bool,h|.nl a,.str,h|.nl a,.unit,h|.nl a,.pair _ _,h|.nl a,.arr _ _,h=>by simp[Ty.le]at h
 |.pair a b,.int _,h|.pair a b,.bool,h|.pair a b,.str,h|.pair a b,.unit,h|.pair a b,.arr _ _,h|.pair a b,.list _ _,h|.pair a b,.nl _,h=>by simp[Ty.le]at h
 |.int _,b,h|.bool,b,h|.str,b,h|.unit,b,h|.list _ _,b,h|.arr _ _,b,h=>by
  simp only[Ty.le,dT]at h;rw[h]
def castTo(t' t:Ty)(x:t'.den):Option t.den:=if h:t'=t then some (h▸x)else if h:t'.le t=true then some (cast (Ty.le_den _ _ h) x)else none
theorem c4b(t:Ty)(x:t.den):castTo t t x=some x:=by simp[castTo]
theorem Ty.shn_of_sh:(t:Ty)->t.sh=t->t.shn=t
 |.int _,_|.bool,_|.str,_|.unit,_=>rfl
 |.list _ t,h=>h
 |.arr _ t,h=>h
 |.nl t,h=>by cases h
 |.pair a b,h=>by
  simp only[Ty.sh,Ty.pair.injEq]at h;simp only[Ty.shn,Ty.shn_of_sh a h.1,Ty.shn_of_sh b h.2]
theorem Ty.sh_sh:(t:Ty)->t.sh.sh=t.sh
 |.int _|.bool|.str|.unit=>rfl
 |.list _ t|.nl t=>by simp only[Ty.sh,Ty.sh_sh t]
 |.arr _ t=>by simp only[Ty.sh,Ty.sh_sh t]
 |.pair a b=>by simp only[Ty.sh,Ty.sh_sh a,Ty.sh_sh b]
theorem Ty.shn_shn:(t:Ty)->t.shn.shn=t.shn
 |.int _|.bool|.str|.unit=>rfl
 |.list _ t|.nl t|.arr _ t=>by simp only[Ty.shn,Ty.sh_sh t]
 |.pair a b=>by simp only[Ty.shn,Ty.shn_shn a,Ty.shn_shn b]
theorem Ty.sh_shn:(t:Ty)->t.shn.sh=t.sh
 |.int _|.bool|.str|.unit=>rfl
 |.list _ t|.nl t|.arr _ t=>by simp only[Ty.shn,Ty.sh,Ty.sh_sh t]
 |.pair a b=>by simp only[Ty.shn,Ty.sh,Ty.sh_shn a,Ty.sh_shn b]
def Ty.shx(t:Ty)(x:t.den):t.sh.den:=cast (Ty.den_sh t).symm x
inductive Step where
 |fst|snd|idx (i:Nat)
@[reducible] def a0C:=List Step
inductive AV where
 |dead

 |skp
 |val (t:Ty) (x:t.den)

 |nils

 |empt
 |nilp
 |ptr (n:Nat) (p:a0C)
 |vptr (t:Ty) (x:t.den)
 |sref (n:Nat) (p:a0C)
 |swin (n:Nat) (p:a0C) (off len:Nat)

 |glob (g:Nat)
variable {av:AV}
inductive Cmp where
 |tup|agg|clo (f:Nat)
 deriving DecidableEq
inductive SV where
 |one (v:AV)
 |cmp (c:Cmp) (vs:List AV)
structure Root where
 bx:Bool
 t:Ty
 x:t.den
variable {r:Root}{rt':Nat->Option Root}
structure AE where
 sl:Nat->SV
 rt:Nat->Option Root

 pd:Option (Nat×a0C×Nat)
@[reducible] def Rs(Z:Type):=Option Z
def a1j:a0C->(t:Ty)->t.den->(t':Ty)×t'.den
 | [],t,x=>⟨t,x⟩
 |.fst::p,t,x=>match t,x with
  |.pair a _,x=>a1j p a x.1
  |_,_=>⟨.unit,()⟩
 |.snd::p,t,x=>match t,x with
  |.pair _ b,x=>a1j p b x.2
  |_,_=>⟨.unit,()⟩
 |.idx i::p,t,x=>match t,x with
  |.arr _ t,x=>a1j p t (a22 x i t.dflt)
  |.list true t,x=>a1j p t (a22 x i t.dflt)
  |_,_=>⟨.unit,()⟩
@[reducible] def a0T(t:Ty)(x:t.den)(p:a0C):(t':Ty)×t'.den:=a1j p t x
def a2e:a0C->(t:Ty)->t.den->(t':Ty)->t'.den->t.den
 | [],t,x,t',y=>if h:t'=t then h▸y else x
 |.fst::p,t,x,t',y=>match t,x with
  |.pair a _,x=>(a2e p a x.1 t' y,x.2)
  |_,x=>x
 |.snd::p,t,x,t',y=>match t,x with
  |.pair _ b,x=>(x.1,a2e p b x.2 t' y)
  |_,x=>x
 |.idx i::p,t,x,t',y=>match t,x with
  |.arr _ t,x=>a31 x i (a2e p t (a22 x i t.dflt) t' y)
  |.list true t,x=>a31 x i (a2e p t (a22 x i t.dflt) t' y)
  |_,x=>x
@[reducible] def a1T(t:Ty)(x:t.den)(p:a0C)(t':Ty)(y:t'.den):t.den:=a2e p t x t' y
def a3H:(p q:a0C)->Bool
 | [],_=>true
 |.fst::p,.fst::q=>a3H p q
 |.snd::p,.snd::q=>a3H p q
 |.idx _::p,.idx _::q=>a3H p q
 |_,_=>false
def AV.map(v:AV)(f:AV->AV):AV:=f v
def SV.mapv(f:AV->AV):SV->SV
 |.one v=>.one (f v)
 |.cmp c vs=>.cmp c (vs.map f)
def AV.kill(n:Nat)(p:a0C):AV->AV
 |.sref m q=>if m==n&&a3H p q then .dead else .sref m q
 |.swin m q o l=>if m==n&&a3H p q then .dead else .swin m q o l
 |.ptr m q=>if m==n&&a3H p q&&decide (p.length<q.length)then .dead else .ptr m q
 |v=>v
def AV.drop(n:Nat):AV->AV
 |.sref m q=>if m==n then .dead else .sref m q
 |.swin m q o l=>if m==n then .dead else .swin m q o l
 |.ptr m q=>if m==n then .dead else .ptr m q
 |v=>v
def AV.ren(r n:Nat):AV->AV
 |.sref m q=>if m==r then .sref n q else .sref m q
 |.swin m q o l=>if m==r then .swin n q o l else .swin m q o l
 |.ptr m q=>if m==r then .ptr n q else .ptr m q
 |v=>v
def AV.frz(n:Nat)(e:Ty)(l:List e.den):AV->AV
 |.sref m q=>if m==n then(match q with|[]=>.val (.list false e.sh) (Ty.shx (.list false e) l)|_=>.dead)else .sref m q
 |.swin m q o k=>if m==n then(match q with|[]=>.val (.list false e.sh) (Ty.shx (.list false e) ((l.drop o).take k))|_=>.dead)else .swin m q o k
 |.ptr m q=>if m==n then .dead else .ptr m q
 |v=>v
namespace AE
def get(U:AE)(i:Nat):AV:=match U.sl i with|.one v=>v|.cmp _ _=>.dead
def put(U:AE)(d:Nat)(v:SV):AE:={ U with sl:=fun j=>bif j==d then v else U.sl j }
def set(U:AE)(d:Nat)(v:AV):AE:=U.put d (.one v)
def setD(U:AE)(d:Option Nat)(v:AV):AE:=match d with|some d=>U.set d v|none=>U
def mapv(U:AE)(f:AV->AV):AE:={ U with sl:=fun j=>(U.sl j).mapv f }
def setRt(U:AE)(n:Nat)(r:Option Root):AE:={ U with rt:=fun j=>bif j==n then r else U.rt j }
def newRt(U:AE)(n:Nat)(r:Root):AE:=match U.rt n with
 |none=>U.setRt n (some r)
 |some _=>(U.mapv (AV.drop n)).setRt n (some r)
def look(U:AE)(n:Nat):Option Root:=match U.pd with
 |none=>U.rt n
 |some _=>none
end AE
def b6a:Value->AV
 |.int k n=>.val (.int k) n
 |.bool b=>.val .bool b
 |.string s=>.val .str (s.data.toList.map fun b=>(b.toNat:Int))
 |.slice none 0 0=>.nils
 |.pointer none=>.nilp
 |_=>.dead
def AE.opd(U:AE):Operand->AV
 |.tmp t=>U.get t
 |.const v=>b6a v
 |.global g=>.glob g
 |_=>.dead
inductive RA where
 |v (t:Ty)

 |o (e:Ty)

 |b (t:Ty)
def RA.ty:RA->Ty
 |.v t=>t
 |.o e=>.list true e
 |.b t=>t
inductive PA where
 |v (t:Ty)
 |r (c:Bool) (a:RA)
def PA.ty:PA->Ty
 |.v t=>t
 |.r _ a=>a.ty
def a2f:List Ty->Ty
 | []=>.unit
 | [t]=>t
 |t::r=>.pair t (a2f r)
def a5l:List PA->List RA
 | []=>[]
 |.v _::r=>a5l r
 |.r _ a::r=>a::a5l r
def RA.all(ps:List PA)(rs:List RA):List RA:=rs++a5l ps
structure FSem where
 ps:List PA
 rs:List RA
 F:(a2f (ps.map PA.ty)).den->Option (a2f ((RA.all ps rs).map RA.ty)).den
@[reducible] def pinned:Nat:=1000000
structure Cx where

 Q:Nat->Bool
 E:Nat->Bool
 T:Nat->Option Ty
 C:Nat->Option FSem
 O:Nat->Option Ty
 V:Nat->Bool
 K:Nat->Bool

 G:Nat->Option ((t:Ty)×t.den):=fun _=>none
variable {cx:Cx}
section reading
variable {Z:Type}
def AE.asV(U:AE)(q:Bool)(t:Ty)(a:AV)(K:t.den->AE->Rs Z):Rs Z:=
 match a with
 |.val t' x=>match castTo t' t x with
  |some y=>K y U
  |none=>none
 |.nils=>match t,K with
  |.list false _,K=>K [] U
  |.nl _,K=>K [] U
  |_,_=>none
 |.empt=>match t,K with
  |.list false _,K=>K [] U
  |_,_=>none
 |.sref n []=>if q then none else match U.look n with
  |some ⟨false,.list true e,l⟩=>if h:Ty.list false e.sh=t then K (h▸Ty.shx (.list false e) l) ((U.mapv (AV.frz n e l)).setRt n none)else none
  |_=>none
 |.swin n [] o k=>if q then none else match U.look n with
  |some ⟨false,.list true e,l⟩=>if h:Ty.list false e.sh=t then K (h▸Ty.shx (.list false e) ((a27 o l).take k)) ((U.mapv (AV.frz n e l)).setRt n none)else none
  |_=>none
 |_=>none
def AE.view(U:AE)(t:Ty)(a:AV)(K:t.den->Rs Z):Rs Z:=
 match a with
 |.val t' x=>match castTo t' t x with
  |some y=>K y
  |none=>none
 |.nils=>match t,K with
  |.list false _,K=>K []
  |.nl _,K=>K []
  |_,_=>none
 |.empt=>match t,K with
  |.list false _,K=>K []
  |_,_=>none
 |.sref n p=>match U.look n with
  |some r=>match a0T r.t r.x p with
   |⟨.list true e,l⟩=>if h:Ty.list false e.sh=t then K (h▸Ty.shx (.list false e) l)else none
   |_=>none
  |none=>none
 |.swin n p o k=>match U.look n with
  |some r=>match a0T r.t r.x p with
   |⟨.list true e,l⟩=>if h:Ty.list false e.sh=t then K (h▸Ty.shx (.list false e) ((a27 o l).take k))else none
   |_=>none
  |none=>none
 |_=>none
end reading
def a0m{α:Type}(l:List α)(i:Int):Option α:=if 0<=i then l[i.toNat]? else none
def bits(k:IntKind)(op:BinOp)(x y:Int):Int:=
 let a:=a33 k.bits x
 let b:=a33 k.bits y
 match op with
 |.and=>k.wrap (a &&& b).toNat
 |.or=>k.wrap (a ||| b).toNat
 |.xor=>k.wrap (a ^^^ b).toNat
 |_=>k.wrap (a &&& ~~~b).toNat
def a0t(k:IntKind)(x y:Int):Int:=k.wrap (x*2^(min y.toNat k.bits))
def a0v(k:IntKind)(x y:Int):Int:=x.fdiv (2^(min y.toNat k.bits))
def eqT:(t:Ty)->t.den->t.den->Bool
 |.int _,x,y=>(show Int from x)==(show Int from y)
 |.bool,x,y=>(show Bool from x)==(show Bool from y)
 |.str,x,y=>(show List Int from x)==(show List Int from y)
 |.unit,_,_=>true
 |.pair a b,x,y=>eqT a x.1 y.1&&eqT b x.2 y.2
 |.arr _ t,x,y=>(List.zipWith (eqT t) x y).all id&&a01 x==a01 y
 |.list _ _,_,_=>false
 |.nl _,_,_=>false
def b4M{Z:Type}(op:BinOp)(k:IntKind)(x y:Int)(K:AV->Rs Z):Rs Z:=
 match op with
 |.add=>K (.val (.int k) (k.wrap (x+y)))
 |.sub=>K (.val (.int k) (k.wrap (x-y)))
 |.mul=>K (.val (.int k) (k.wrap (x*y)))
 |.quo=>bif y==0 then none else K (.val (.int k) (k.wrap (Int.tdiv x y)))
 |.rem=>bif y==0 then none else K (.val (.int k) (Int.tmod x y))
 |.and=>K (.val (.int k) (bits k .and x y))
 |.or=>K (.val (.int k) (bits k .or x y))
 |.xor=>K (.val (.int k) (bits k .xor x y))
 |.andNot=>K (.val (.int k) (bits k .andNot x y))
 |.eql=>K (.val .bool (x==y))
 |.neq=>K (.val .bool (x != y))
 |.lss=>K (.val .bool (decide (x<y)))
 |.leq=>K (.val .bool (decide (x<=y)))
 |.gtr=>K (.val .bool (decide (x > y)))
 |.geq=>K (.val .bool (decide (x>=y)))
 |.shl=>bif decide (y<0)then none else K (.val (.int k) (a0t k x y))
 |.shr=>bif decide (y<0)then none else K (.val (.int k) (a0v k x y))
def b8I:BinOp->Bool
 |.shl|.shr=>true
 |_=>false
def b8J{Z:Type}(cx:Cx)(op:BinOp)(ty:Nat)(t:Ty)(x:t.den)(t':Ty)(y:t'.den)(K:AV->Rs Z):Rs Z:=
 if h:t'=t then
  bif cx.E ty&&t.isAgg&&decide (cx.T ty=some t)then
   match op with
   |.eql=>K (.val .bool (eqT t x (h▸y)))
   |.neq=>K (.val .bool (!eqT t x (h▸y)))
   |_=>none
  else none
 else none
def b2G{Z:Type}(cx:Cx)(op:BinOp)(ty:Nat)(a b:AV)(K:AV->Rs Z):Rs Z:=
 match a,b with
 |.val (.int k) x,.val (.int k') y=>if b8I op || decide (k=k')then b4M op k x y K else none
 |.val .bool (x:Bool),.val .bool (y:Bool)=>
  if cx.T ty=some .bool then
   match op with
   |.eql=>K (.val .bool (x==y))
   |.neq=>K (.val .bool (x != y))
   |_=>none
  else none
 |.val .str (x:List Int),.val .str (y:List Int)=>
  match op with
  |.eql=>K (.val .bool (x==y))
  |.neq=>K (.val .bool (x != y))
  |.add=>bif decide (a01 x+a01 y<2147483648)then K (.val .str (x++y))else none
  |_=>none
 |.val t x,.val t' y=>b8J cx op ty t x t' y K
 |.nilp,.nilp=>if cx.Q ty then(match op with
  |.eql=>K (.val .bool true)
  |.neq=>K (.val .bool false)
  |_=>none)else none
 |.ptr _ _,.nilp=>if cx.Q ty then(match op with
  |.eql=>K (.val .bool false)
  |.neq=>K (.val .bool true)
  |_=>none)else none
 |_,_=>none
def b9F{Z:Type}(a b:Option Z):Option Z:=open Classical in if a=b then a else none
theorem c6n{Z:Type}{a b:Option Z}{z:Z}(h:b9F a b=some z):a=some z/\b=some z:=by
 unfold b9F at h
 split at h
 rename_i e;exact⟨h,by rw[<-e];exact h⟩;cases h
theorem d7b(a:Option Z):b9F a a=a:=by simp[b9F]
def d2l:Option Ty->AV->AV->Option Bool
 |some (.list _ _),.val (.list false _) l,.nils=>some (List.isEmpty l)
 |_,_,_=>none
def d6o:Option Ty->Bool
 |some (.list _ _)=>true
 |_=>false
def e6K{Z:Type}(op:BinOp)(e:Bool)(K:Bool->Option Z):Option Z:=match op with
 |.eql=>bif e then b9F (K true) (K false)else K false
 |.neq=>bif e then b9F (K false) (K true)else K true
 |_=>none
def lim(n:Nat):Bool:=decide (n<2147483648)
def a1l:Nat->a0C
 |0=>[.fst]
 |f+1=>.snd::a1l f
def a1Z:Ty->Nat->Bool
 |.pair _ _,0=>true
 |.pair _ b,f+1=>a1Z b f
 |_,_=>false
def a8F:a0C->a0C->Bool
 | [],[]=>true
 |.fst::p,.fst::q=>a8F p q
 |.snd::p,.snd::q=>a8F p q
 |.idx i::p,.idx j::q=>(i==j)&&a8F p q
 |_,_=>false
def a1s(x y:Int):Int:=bif decide (y > x)then y else x
def a2P(x y:Int):Int:=bif decide (y<x)then y else x
def b5C{α:Type}(l:List α)(off len:Nat)(ys:List α):List α:=
 l.take off++(ys.take (min len ys.length)++l.drop (off+min len ys.length))
def b2s(l:List Int):List Int:=l.map fun n=>((n.toNat%256:Nat):Int)
def Ty.isList:Ty->Bool
 |.list _ _=>true
 |_=>false
def Ty.hasList:Ty->Bool
 |.list _ _=>true
 |.pair a b=>a.hasList || b.hasList
 |.arr _ t=>t.hasList
 |_=>false
def RA.hasList:RA->Bool
 |.v t=>t.hasList
 |.o e=>e.hasList
 |.b t=>t.hasList
section
variable {Z:Type}
def AE.fresh(U:AE)(q:Bool)(n:Nat)(r:Root)(K:AE->Rs Z):Rs Z:=
 bif decide (n<pinned)then
  match U.rt n with
  |none=>K (U.newRt n r)
  |some _=>bif q then none else match U.look n with
   |none=>none
   |some _=>K (U.newRt n r)
 else none
def AE.apnd(U:AE)(q:Bool)(d:Nat)(e:Ty)(x:AV)(ys:List e.den)(K:AE->Rs Z):Rs Z:=
 match x with
 |.nils|.empt=>bif lim ys.length then U.fresh q d ⟨false,.list true e,ys⟩ fun U=>K (U.set d (.sref d []))else none
 |.sref n p=>bif q then none else match U.look n with
  |some r=>match a0T r.t r.x p with
   |⟨.list true e',l⟩=>
    if h:e=e' then
     bif lim (a01 l+ys.length)then
      let U':=((U.mapv (AV.kill n p)).setRt n (some ⟨r.bx,r.t,a1T r.t r.x p (.list true e') (List.append l (h▸ys))⟩)).set d (.sref n p)
      match p,r.bx with
      | [],false=>bif decide (n<pinned)then K U' else none
      |p,_=>match U.pd with
       |none=>K { U' with pd:=some (n,p,d) }
       |some _=>none
     else none
    else none
   |_=>none
  |none=>none
 |_=>none
def brw:List PA->List Nat->List Nat
 |.v _::ps,us=>brw ps us
 |.r false (.o _)::ps,n::us=>n::brw ps us
 |.r _ _::ps,_::us=>brw ps us
 |_,_=>[]
def AV.deeps(us ks:List Nat):AV->AV
 |.sref m q=>if us.contains m then(match q with|[]=>if ks.contains m then .sref m []else .dead|_=>.dead)else .sref m q
 |.swin m q o l=>if us.contains m then .dead else .swin m q o l
 |.ptr m q=>if us.contains m then(match q with|[]=>.ptr m []|_=>.dead)else .ptr m q
 |v=>v
def AE.over(U:AE)(ty:Ty)(n:Nat)(r:Root)(x:AV)(K:AE->Rs Z):Rs Z:=match x,U.look n with
 |.val t' y,some _=>if r.bx=true/\(r.t.sh=ty/\(t'.shn=t'/\t'.sh=ty))then
   (match castTo t' r.t y with
   |some z=>K ((U.mapv (AV.deeps [n] [])).setRt n (some ⟨true,r.t,z⟩))
   |none=>match castTo t' r.t.shn y with
    |some z=>K ((U.mapv (AV.deeps [n] [])).setRt n (some ⟨true,r.t.shn,z⟩))
    |none=>K ((U.mapv (AV.deeps [n] [])).setRt n (some ⟨true,t',y⟩)))else none
 |_,_=>none
def AE.overP(U:AE)(ty:Ty)(n:Nat)(r:Root)(x:AV)(K:AE->Rs Z):a0C->Rs Z
 | []=>U.over ty n r x K
 |_=>none
def AE.stor(U:AE)(ty:Ty)(n:Nat)(p:a0C)(x:AV)(K:AE->Rs Z):Rs Z:=
 match U.rt n with
 |none=>none
 |some r=>
  match a0T r.t r.x p with
  |⟨.list true e,_⟩=>
   if ty.isList then
   match x with
   |.nils=>match U.look n with
    |none=>none
    |some _=>K ((U.mapv (AV.kill n p)).setRt n (some ⟨r.bx,r.t,a1T r.t r.x p (.list true e) []⟩))
   |.sref m p'=>
    bif m==n&&a8F p' p then
     match U.pd with
     |some (m',p'',_)=>bif m'==n&&a8F p'' p then K { U with pd:=none }else none
     |none=>none
    else match U.look n,p',U.look m with
     |some _,[],some ⟨false,.list true e',l⟩=>
      if h:e'=e then
       bif m==n then none else
       K ((((U.mapv (AV.kill n p)).mapv (AV.drop m)).setRt m none).setRt n (some ⟨r.bx,r.t,a1T r.t r.x p (.list true e) (h▸l)⟩))
      else none
     |_,_,_=>none
   |_=>none
   else none
  |⟨t,_⟩=>
   if t.shn=t/\t.sh=ty then
    U.asV false t x fun y U'=>match U'.look n with
     |some r=>if(a0T r.t r.x p).1=t then K (U'.setRt n (some ⟨r.bx,r.t,a1T r.t r.x p t y⟩))else none
     |none=>none
   else U.overP ty n r x K p
def AV.viewed:AV->List Nat
 |.sref n _|.swin n _ _ _=>[n]
 |_=>[]
def AE.arg(U:AE)(fz q:Bool)(used seen:List Nat):(p:PA)->AV->(p.ty.den->AE->List Nat->List Nat->Rs Z)->Rs Z
 |.v t,a,K=>bif a.viewed.any fun n=>used.contains n then none else if fz then U.asV q t a fun x U'=>K x U' used seen else
   U.view t a fun x=>K x U used (a.viewed++seen)
 |.r c (.b t),.ptr n [],K=>if c || q || used.contains n || seen.contains n then none else match U.look n with
  |some ⟨true,t',x⟩=>if h:t'=t then K (h▸x) U (n::used) seen else none
  |_=>none
 |.r c (.o e),.sref n [],K=>if(c&&decide (pinned<=n)) || q || used.contains n || seen.contains n then none else match U.look n with
  |some ⟨bx,.list true e',x⟩=>if h:e'=e then(bif bx&&c then none else K (h▸x) U (n::used) seen)else none
  |_=>none
 |.r _ _,_,_=>none
def AE.args(U:AE)(fz q:Bool)(used seen:List Nat):(ps:List PA)->List AV->((a2f (ps.map PA.ty)).den->AE->List Nat->Rs Z)->Rs Z
 | [],[],K=>K () U used
 | [p],[a],K=>U.arg fz q used seen p a fun x U' used' _=>K x U' used'
 |p::p'::ps,a::as,K=>U.arg fz q used seen p a fun x U' used' seen'=>U'.args fz q used' seen' (p'::ps) as fun y U'' used''=>K (x,y) U'' used''
 |_,_,_=>none
def a2r:(rs:List RA)->(a2f (rs.map RA.ty)).den->List ((r:RA)×r.ty.den)
 | [],_=>[]
 | [r],x=>[⟨r,x⟩]
 |r::r'::rs,x=>⟨r,x.1⟩::a2r (r'::rs) x.2
def a0X:(ps:List PA)->(a2f (ps.map PA.ty)).den->List ((p:PA)×p.ty.den)
 | [],_=>[]
 | [p],x=>[⟨p,x⟩]
 |p::p'::ps,x=>⟨p,x.1⟩::a0X (p'::ps) x.2
def a0O:((r:RA)×r.ty.den)->Option Root
 |⟨.v _,_⟩=>none
 |⟨.o e,x⟩=>some ⟨false,.list true e,x⟩
 |⟨.b t,x⟩=>some ⟨true,t,x⟩
def c8w(n:Nat):((r:RA)×r.ty.den)->AV
 |⟨.v t,x⟩=>.val t x
 |⟨.o _,_⟩=>.sref n []
 |⟨.b _,_⟩=>.ptr n []
def a1q:List RA->Nat->List Nat
 | [],_=>[]
 |_::rs,n=>n::a1q rs (n+1000)
def a2S:List RA->Nat->List Nat
 | [],_=>[]
 |.v _::rs,n=>a2S rs (n+1000)
 |_::rs,n=>n::a2S rs (n+1000)
def a2t:List Nat->List ((r:RA)×r.ty.den)->Nat->Option Root
 |k::ns,it::its,n=>match a0O it with
  |some r=>bif n==k then some r else a2t ns its n
  |none=>a2t ns its n
 |_,_,_=>none
def a4F:List Nat->List ((r:RA)×r.ty.den)->List AV
 |k::ns,it::its=>c8w k it::a4F ns its
 |_,_=>[]
def b2H(o:Option Root)(r:Root):Root:=match o with
 |some ⟨true,_,_⟩=>⟨true,r.t,r.x⟩
 |_=>r
def c1l:Option Root->Bool
 |some ⟨bx,_,_⟩=>bx
 |none=>false
def AE.unbx(U:AE)(ks:List Nat):List Nat:=ks.filter fun n=>!c1l (U.rt n)
def AE.dropAll(U:AE)(q:Bool)(us:List Nat):List Nat->(AE->Rs Z)->Rs Z
 | [],K=>K U
 |n::r,K=>bif decide (n<pinned)&&!us.contains n then match U.rt n with
   |none=>U.dropAll q us r K
   |some _=>bif q then none else((U.mapv (AV.drop n)).setRt n none).dropAll q us r K
  else none
def AE.call(U:AE)(q:Bool)(d:Option Nat)(s:FSem)(as:List AV)(K:AE->Rs Z):Rs Z:=
 match U.pd with
 |some _=>none
 |none=>U.args (s.rs.any RA.hasList || (a5l s.ps).any RA.hasList) q [] [] s.ps as fun x U' used=>
  U'.dropAll q used (a2S s.rs (d.getD 0+1000)) fun U1=>(s.F x).bind fun y=>
   let U2:AE:=⟨fun i=>(U1.sl i).mapv (AV.deeps used (U1.unbx (brw s.ps used.reverse))),fun n=>match a2t (a1q s.rs (d.getD 0+1000)++used.reverse) (a2r (RA.all s.ps s.rs) y) n with
    |some r=>some (bif used.contains n then b2H (U1.rt n) r else r)
    |none=>U1.rt n,none⟩
   match d with
   |none=>K U2
   |some d=>match a4F (a1q s.rs (d+1000)) (a2r (RA.all s.ps s.rs) y)with
    | [v]=>K (U2.set d v)
    |vs=>K (U2.put d (.cmp .tup vs))
def AE.pathOf(t:Ty)(i:Nat):a0C:=match t with
 |.arr _ _=>[.idx i]
 |_=>a1l i
def AE.pathOk(t:Ty)(i:Nat):Bool:=match t with
 |.arr n _=>decide (i<n)
 |t=>a1Z t i
def AE.fills(U:AE)(q:Bool)(t:Ty):List (Nat×Operand)->t.den->(t.den->AE->Rs Z)->Rs Z
 | [],x,K=>K x U
 |(i,o)::r,x,K=>bif AE.pathOk t i then(match a0T t x (AE.pathOf t i)with
  |⟨t',_⟩=>U.asV q t' (U.opd o) fun y U'=>U'.fills q t r (a1T t x (AE.pathOf t i) t' y) K)else none
def AE.lit(U:AE)(q:Bool)(e:Ty)(n:Nat):List (Nat×Operand)->List e.den->(List e.den->AE->Rs Z)->Rs Z
 | [],x,K=>K x U
 |(i,o)::r,x,K=>bif decide (i<n)then U.asV q e (U.opd o) fun y U'=>U'.lit q e n r (x.set i y) K else none
def AV.isVal(a:AV)(t:Ty)(K:t.den->Rs Z):Rs Z:=match a with
 |.val t' x=>if h:t'=t then K (h▸x)else none
 |_=>none
def AE.lenK(U:AE)(ty:Option Ty)(a:AV)(K:Nat->Rs Z):Rs Z:=match ty,a with
 |some (.list _ _),.val (.list _ _) l=>K (a01 l)
 |some (.arr n _),.val (.arr _ _) _=>K n
 |some .str,.val .str l=>K (a01 (show List Int from l))
 |some (.list _ _),.nils|some (.list _ _),.empt=>K 0
 |some (.list _ _),.sref n p=>match U.look n with
  |some r=>match a0T r.t r.x p with
   |⟨.list true _,l⟩=>K (a01 l)
   |_=>none
  |none=>none
 |some (.list _ _),.swin _ _ _ k=>K k
 |_,_=>none
def AE.body(U:AE)(n:Nat)(p:a0C)(K:(e:Ty)->List e.den->Rs Z):Rs Z:=match U.look n with
 |some r=>match a0T r.t r.x p with
  |⟨.list true e,l⟩=>K e l
  |_=>none
 |none=>none
def AE.bnd(U:AE)(len d:Nat)(o:Option Operand)(K:Nat->Rs Z):Rs Z:=match o with
 |none=>K d
 |some o=>match U.opd o with
  |.val (.int _) (y:Int)=>bif decide (0<=y)&&decide (y<=(len:Int))then K y.toNat else none
  |_=>none
def AE.bnds(U:AE)(len:Nat)(lo hi:Option Operand)(K:Nat->Nat->Rs Z):Rs Z:=
 U.bnd len len hi fun h=>U.bnd h 0 lo fun l=>K l h
def b8K:Option Operand->Bool
 |some (.const (.int _ 0))=>true
 |_=>false
def c3l(ty:Option Ty)(a:AV)(K:AV->Rs Z):Rs Z:=match ty,a with
 |some (.list _ _),.val (.list _ _) _|some (.list _ _),.nils|some (.list _ _),.empt|some (.list _ _),.sref _ _|some (.list _ _),.swin _ _ _ _=>K .empt
 |_,_=>none
def AE.slic(U:AE)(ty:Option Ty)(a:AV)(lo hi mx:Option Operand)(K:AV->Rs Z):Rs Z:=
 match mx with
 |some m=>bif b8K (some m)&&b8K hi&&lo.isNone then c3l ty a K else none
 |none=>match a with
  |.val .str (l:List Int)=>if ty=some .str then U.bnds l.length lo hi fun x y=>K (.val .str ((l.take y).drop x))else none
  |.val (.list false t) l=>if ty=some (.list false t)then U.bnds (a01 l) lo hi fun x y=>K (.val (.list false t) ((a24 y l).drop x))else none
  |.nils=>match ty with
   |some (.list _ _)=>U.bnds 0 lo hi fun _ _=>K .nils
   |_=>none
  |.sref n p=>U.body n p fun e l=>if ty=some (.list false e.sh)then(match lo,hi with
   |none,none=>K (.sref n p)
   |lo,hi=>U.bnds (a01 l) lo hi fun x y=>K (.swin n p x (y-x)))else none
  |.swin n p o k=>U.body n p fun e _=>if ty=some (.list false e.sh)then U.bnds k lo hi fun x y=>K (.swin n p (o+x) (y-x))else none
  |.vptr (.arr k e) l=>if ty=some (.arr k e)then U.bnds k lo hi fun x y=>K (.val (.list false e) ((a24 y l).drop x))else none
  |_=>none
def AE.bodyP(U:AE)(n:Nat)(p:a0C)(K:(e:Ty)->List e.den->Rs Z):Rs Z:=match U.rt n with
 |some r=>match a0T r.t r.x p with
  |⟨.list true e,l⟩=>K e l
  |_=>none
 |none=>none
def AE.addrK(U:AE)(ty:Option Ty)(a:AV)(i:Int)(K:AV->Rs Z):Rs Z:=match a with
 |.val (.list false t) l=>if ty=some (.list false t)then(a0m l i).bind fun x=>K (.vptr t x)else none
 |.sref n p=>U.bodyP n p fun e l=>if ty=some (.list false e.sh)then bif decide (0<=i)&&decide (i<((a01 l:Nat):Int))then K (.ptr n (p++[.idx i.toNat]))else none else none
 |.swin n p o k=>U.body n p fun e _=>if ty=some (.list false e.sh)then bif decide (0<=i)&&decide (i<(k:Int))then K (.ptr n (p++[.idx (o+i.toNat)]))else none else none
 |.ptr n p=>match U.rt n with
  |some r=>match a0T r.t r.x p with
   |⟨.arr k e,_⟩=>if ty=some (.arr k e.sh)then bif decide (0<=i)&&decide (i<(k:Int))then K (.ptr n (p++[.idx i.toNat]))else none else none
   |_=>none
  |none=>none
 |.vptr (.arr k t) l=>if ty=some (.arr k t)then(a0m l i).bind fun x=>K (.vptr t x)else none
 |_=>none
def AE.lodK(U:AE)(q:Bool)(ty:Ty)(a:AV)(K:AV->AE->Rs Z):Rs Z:=match a with
 |.vptr t x=>if t=ty then K (.val t x) U else none
 |.ptr n p=>match U.look n with
  |some r=>match a0T r.t r.x p with
   |⟨.list true _,_⟩=>if ty.isList then K (.sref n p) U else none
   |⟨t,y⟩=>if t.sh=ty/\t.shn=t then K (.val t y) U else match q,p with
    |false,[]=>if r.t.sh=ty then K (.val r.t.shn (Ty.shnx r.t r.x)) ((U.mapv (AV.drop n)).setRt n none)else none
    |_,_=>none
  |none=>none
 |_=>none
def AE.whole(U:AE)(fl:Bool)(ty:Ty):AV->Option (Nat×Root)
 |.ptr n []=>match U.look n with
  |some r=>if r.bx=true/\(r.t.isAgg || fl)=true/\r.t.shn≠r.t/\r.t.sh=ty then some (n,r)else none
  |none=>none
 |_=>none
def AE.asg(U:AE)(q:Bool)(cx:Cx)(d:Nat)(v:AV)(K:AE->Rs Z):Rs Z:=match v with
 |.sref r []=>match U.look r with
  |some ⟨false,t,x⟩=>bif r==d then K (U.set d (.sref r []))else bif (cx.V r || decide (pinned<=r)) || q then K (U.set d (.sref r []))else
    bif decide (d<pinned)then K (((((U.mapv (AV.drop d)).mapv (AV.ren r d)).setRt r none).setRt d (some ⟨false,t,x⟩)).set d (.sref d []))else none
  |_=>K (U.set d (.sref r []))
 |.swin r [] 0 k=>match U.look r with
  |some ⟨false,.list true e,l⟩=>bif (r==d)&&!q then
    bif decide (d<pinned)&&decide (k<=a01 l)then K (((U.mapv (AV.kill r [])).setRt r (some ⟨false,.list true e,a24 k l⟩)).set d (.sref d []))else none
   else K (U.set d (.swin r [] 0 k))
  |_=>K (U.set d (.swin r [] 0 k))
 |.nils=>match U.look d with
  |some ⟨false,_,_⟩=>bif decide (pinned<=d) || q then K (U.set d .nils)else K (((U.mapv (AV.drop d)).setRt d none).set d .nils)
  |_=>K (U.set d .nils)
 |v=>K (U.set d v)
def AE.elems(U:AE)(e:Ty)(a:AV)(K:List e.den->Rs Z):Rs Z:=match a with
 |.val (.list false t') x=>if h:t'=e then K (h▸(show List t'.den from x))else none
 |.nils|.empt=>K []
 |.sref n p=>match U.look n with
  |some r=>match a0T r.t r.x p with
   |⟨.list true e',l⟩=>if h:e'=e then K (h▸l)else none
   |_=>none
  |none=>none
 |.swin n p o k=>match U.look n with
  |some r=>match a0T r.t r.x p with
   |⟨.list true e',l⟩=>if h:e'=e then K (a24 k (a27 o (h▸l)))else none
   |_=>none
  |none=>none
 |_=>none
def b6f:a0C->Bool
 | []=>true
 |.idx _::_=>false
 |_::p=>b6f p
def AE.copTo(U:AE)(n:Nat)(p:a0C)(off:Nat)(len:Option Nat)(k:IntKind)(ys:List Int)(K:Nat->AE->Rs Z):Rs Z:=match U.look n with
 |some r=>match a0T r.t r.x p with
  |⟨.list true (.int k'),l⟩=>bif decide (k'=k)&&b6f p then
    K (min (len.getD (a01 l)) ys.length) (U.setRt n (some ⟨r.bx,r.t,a1T r.t r.x p (.list true (.int k')) (b5C (show List Int from l) off (len.getD (a01 l)) ys)⟩))
   else none
  |_=>none
 |none=>none
def AE.copK(U:AE)(a:AV)(k:IntKind)(ys:List Int)(K:Nat->AE->Rs Z):Rs Z:=match a with
 |.sref n p=>U.copTo n p 0 none k ys K
 |.swin n p off len=>U.copTo n p off (some len) k ys K
 |_=>none
def AE.mins(f:Int->Int->Int)(k:IntKind):List AV->Int->(AV->Rs Z)->Rs Z
 | [],x,K=>K (.val (.int k) x)
 |.val (.int k') y::r,x,K=>if k'=k then AE.mins f k r (f x y) K else none
 |_,_,_=>none
def c1m(cx:Cx):List Nat->Bool
 | [_]=>true
 |_::t::_=>match cx.T t with
  |some (.list _ _)|some .str=>true
  |_=>false
 | []=>false
def AE.gathN(U:AE)(d m:Nat)(e:Ty)(ys:List e.den)(n:Nat)(K:AE->Rs Z):Rs Z:=match U.look n with
 |some ⟨false,.list true e',l⟩=>if h:e=e' then
   bif (decide (n<pinned)&&!(n==m))&&lim (a01 l+ys.length)then
    K (((((U.mapv (AV.kill n [])).mapv (AV.drop m)).setRt m none).setRt n (some ⟨false,.list true e',List.append l (h▸ys)⟩)).set d (.sref n []))
   else none
  else none
 |_=>none
def AE.gath(U:AE)(d m:Nat)(e:Ty)(ys:List e.den)(a:AV)(K:AE->Rs Z):Rs Z:=match a with
 |.nils=>bif d==m then none else U.fresh false d ⟨false,.list true e,([]:List e.den)⟩ fun U'=>U'.gathN d m e ys d K
 |.sref n []=>U.gathN d m e ys n K
 |_=>none
def AE.ownB(U:AE)(e:Ty):AV->Option (Nat×(e':Ty)×List e'.den)
 |.sref m []=>match U.look m with
  |some ⟨false,.list true e',ys⟩=>bif decide (e'.sh=e)&&!decide (e'=e)then some (m,⟨e',ys⟩)else none
  |_=>none
 |_=>none
def d2m(cx:Cx)(ts:List Nat)(a b:AV):Option ((e:Ty)×List e.den):=match ts,a,b with
 |t::t2::_,.nils,.val (.int .i64) (n:Int)=>match cx.T t,cx.T t2 with
  |some (.list _ e),some (.int .i64)=>bif decide (0<=n)&&lim n.toNat then some ⟨e,a08 n.toNat e.dflt⟩else none
  |_,_=>none
 |_,_,_=>none
def AE.zapp(U:AE)(q:Bool)(cx:Cx)(d:Nat)(ts:List Nat)(a b:AV)(K:AE->Rs Z):Rs Z:=match ts,a,b with
 |t::t2::_,.nils,.val (.int .i64) (n:Int)=>match cx.T t,cx.T t2 with
  |some (.list _ e),some (.int .i64)=>bif decide (0<=n)&&lim n.toNat then U.apnd q d e .nils (a08 n.toNat e.dflt) K else none
  |_,_=>none
 |_,_,_=>none
theorem b8L(U:AE)(q:Bool)(cx:Cx)(d:Nat)(h:List Nat)(a b:AV)(K:AE->Rs Z):U.zapp q cx d h a b K=match d2m cx h a b with
  |some ⟨e,ys⟩=>U.apnd q d e .nils ys K
  |none=>none:=by
 unfold AE.zapp d2m;split;split;simp only[cond_eq_ite]
 split<;>simp_all
 split;rename_i g f _ _ _ _;simp_all;rfl;split;simp_all;rfl
def AE.blt(U:AE)(q:Bool)(cx:Cx)(d:Nat)(b:Builtin)(ts:List Nat)(as:List AV)(K:AE->Rs Z):Rs Z:=
 match b,as with
 |.len,[a]=>U.lenK (ts.head?.bind cx.T) a fun n=>K (U.set d (.val (.int .i64) (n:Int)))
 |.max,.val (.int k) x::r=>AE.mins a1s k r x fun v=>K (U.set d v)
 |.min,.val (.int k) x::r=>AE.mins a2P k r x fun v=>K (U.set d v)
 |.append,[a,b]=>bif c1m cx ts then match ts.head?.bind cx.T with
  |some (.list _ e)=>
   match b with
   |.val .str y=>if h:e=.int .u8 then U.apnd q d e a (h▸y) K else none
   |b=>match (bif q || !e.isList then none else U.ownB e b)with
    |some (m,⟨e',ys⟩)=>U.gath d m e' ys a K
    |none=>U.elems e b fun ys=>U.apnd q d e a ys K
  |_=>none
  else U.zapp q cx d ts a b K
 |.cap,[.nils]=>bif Ty.isList ((ts.head?.bind cx.T).getD .unit)then K (U.set d (.val (.int .i64) (0:Int)))else none
 |.copy,[a,b]=>if q then none else match ts.head?.bind cx.T with
  |some (.list _ (.int k))=>U.elems (.int k) b fun ys=>U.copK a k ys fun n U'=>K (U'.set d (.val (.int .i64) (n:Int)))
  |_=>none
 |_,_=>none
def AE.convK(U:AE)(src dst:Nat)(ts tt:Option Ty)(a:AV)(K:AV->Rs Z)(Kr:Root->Rs Z):Rs Z:=
 match ts,tt,a with
 |some _,some (.int k),.val (.int _) (x:Int)=>K (.val (.int k) (k.wrap x))
 |some .str,some (.list _ (.int .u8)),.val .str (x:List Int)=>bif lim x.length then Kr ⟨false,.list true (.int .u8),x⟩else none
 |some .str,some .str,.val .str (x:List Int)=>K (.val .str x)
 |some (.list _ (.int .u8)),some (.list _ (.int .u8)),.sref n []=>if src=dst then(match U.look n with
  |some ⟨false,.list true (.int .u8),l⟩=>bif decide (0<a01 l)then K (.sref n [])else none
  |_=>none)else none
 |some (.list _ (.int .u8)),some .str,a=>U.elems (.int .u8) a fun x=>K (.val .str (b2s x))
 |_,_,_=>none
def AE.conv(U:AE)(q:Bool)(cx:Cx)(d:Nat)(src dst:Nat)(a:AV)(K:AE->Rs Z):Rs Z:=
 U.convK src dst (cx.T src) (cx.T dst) a (fun v=>K (U.set d v)) fun r=>U.fresh q d r fun U=>K (U.set d (.sref d []))
def Cx.own(cx:Cx)(d t:Nat):Option Ty:=match cx.O d with
 |some t'=>if cx.T t=some t'.sh then some t' else none
 |none=>cx.T t
def AE.un(op:UnOp)(a:AV)(K:AV->Rs Z):Rs Z:=match op,a with
 |.not,.val .bool (b:Bool)=>K (.val .bool (!b))
 |.neg,.val (.int k) (x:Int)=>K (.val (.int k) (k.wrap (0-x)))
 |.xor,.val (.int k) (x:Int)=>K (.val (.int k) (bits k .xor (if k.signed then -1 else k.max) x))
 |_,_=>none
def c3m(c a b:AV)(K:AV->Rs Z):Rs Z:=match c with
 |.val .bool (y:Bool)=>match a,b with
  |.val .bool (u:Bool),.val .bool (v:Bool)=>K (.val .bool (bif y then u else v))
  |u,.skp=>bif y then K u else none
  |.skp,v=>bif y then none else K v
  |_,_=>none
 |_=>none
def Cx.glob(cx:Cx):AV->AV
 |.glob g=>match cx.G g with
  |some ⟨t,x⟩=>.vptr t x
  |none=>.dead
 |v=>v
def AE.sopd(U:AE):Operand->SV
 |.tmp t=>U.sl t
 |x=>.one (U.opd x)
def AE.aggOf(U:AE):Operand->Option (List AV)
 |.tmp i=>match U.sl i with
  |.cmp .agg vs=>some vs
  |_=>none
 |_=>none
def AV.fits1:AV->Ty->Bool
 |.val t _,a=>!t.isAgg&&!a.isAgg
 |.sref _ [],.list true _=>true
 |.nils,.list true _=>true
 |_,_=>false
def a9R:Ty->Option AV
 |.list _ _=>some .nils
 |.int k=>some (.val (.int k) (0:Int))
 |.bool=>some (.val .bool false)
 |.str=>some (.val .str ([]:List Int))
 |_=>none
def AE.aggV(U:AE):Nat->Ty->List (Nat×Operand)->Option (List AV)
 |_,.unit,[]=>some []
 |k,.pair a b,[]=>(a9R a).bind fun v=>(U.aggV (k+1) b []).map (v::·)
 |k,.pair a b,(i,o)::r=>bif i==k then(bif decide (a.cells=1)&&(U.opd o).fits1 a then(U.aggV (k+1) b r).map (U.opd o::·)else none)
   else(a9R a).bind fun v=>(U.aggV (k+1) b ((i,o)::r)).map (v::·)
 |_,_,_=>none
def AE.stors(x:Operand)(d:Nat)(τ:Ty):Nat->Ty->AE->(AE->Rs Z)->Rs Z
 |i,.unit,U,K=>match U.aggOf x with
  |some vs=>bif vs.length==i then K U else none
  |none=>none
 |i,.pair a b,U,K=>match U.rt d,U.get d,(U.aggOf x).bind (·[i]?)with
  |some r,.ptr n [],some v=>if r.t=τ/\n=d/\a.cells=1 then U.stor a.sh d (a1l i) v fun U'=>AE.stors x d τ (i+1) b U' K else none
  |_,_,_=>none
 |_,_,_,_=>none
def Cx.nlT(cx:Cx)(d t:Nat):Option Ty:=match cx.O d with
 |some t'=>if t'.shn=t'/\cx.T t=some t'.sh then some t' else none
 |none=>none
def aop(cx:Cx)(q:Bool)(o:Oper)(U:AE)(K:AE->Rs Z):Rs Z:=
 match o.op,o.dst with
 |.move x,some d=>match x with
  |.tmp t=>K (U.put d (U.sl t))
  |x=>K (U.set d (U.opd x))
 |.assign x,some d=>match U.sopd x with
  |.one v=>U.asg q cx d v K
  |.cmp c vs=>K (U.put d (.cmp c vs))
 |.makeFunc (.func f) first caps,some d=>bif first.isEmpty then K (U.put d (.cmp (.clo f) (caps.toList.map U.opd)))else none
 |.pick c a b,some d=>c3m (U.opd c) (U.opd a) (U.opd b) fun v=>K (U.set d v)
 |.alloc t,some d=>match cx.own d t with
  |some t=>U.fresh q d ⟨true,t,t.dflt⟩ fun U=>K (U.set d (.ptr d []))
  |none=>none
 |.box t x,some d=>match (bif q then none else U.aggOf x)with
  |some _=>match U.rt d,cx.O d with
   |none,some t'=>if cx.T t=some t'.sh then U.fresh false d ⟨true,t',t'.dflt⟩ fun U=>AE.stors x d t' 0 t' (U.set d (.ptr d [])) K else none
   |_,_=>none
  |none=>match cx.T t with
  |some t=>U.asV q t (U.opd x) fun y U=>if cx.K d then K (U.set d (.vptr t y))else U.fresh q d ⟨true,t,y⟩ fun U=>K (U.set d (.ptr d []))
  |none=>none
 |.build t ps,some d=>match cx.nlT d t with
  |some t'=>bif t'.isAgg then U.fills q t' ps.toList t'.dflt fun y U=>K (U.set d (.val t' y))else none
  |none=>match cx.O d with
  |some t'=>if cx.T t=some t'.sh then(match U.aggV 0 t' ps.toList with
   |some vs=>bif decide (0<t'.cells)then K (U.put d (.cmp .agg vs))else none
   |none=>none)else none
  |none=>match cx.T t with
  |some t=>bif t.isAgg then U.fills q t ps.toList t.dflt fun y U=>K (U.set d (.val t y))else none
  |none=>none
 |.buildSlice t n ps,some d=>match cx.T t with
  |some (.list _ e)=>match (bif q || !e.isList then none else cx.O d)with
   |some t'=>match t',ps.toList with
    |.list true e',[(0,x)]=>if e'.sh=e/\n=1 then U.fresh false d ⟨false,.list true e',[e'.dflt]⟩ fun U=>(match U.opd x with
      |.sref m []=>(U.set d (.sref d [])).stor e d [.idx 0] (.sref m []) K
      |_=>none)else none
    |_,_=>none
   |none=>bif lim n&&decide (n*e.cells<=16777216)then U.lit q e n ps.toList (a08 n e.dflt) fun y U=>bif cx.K d then K (U.set d (.val (.list false e) y))else U.fresh q d ⟨false,.list true e,y⟩ fun U=>K (U.set d (.sref d []))else none
  |_=>none
 |.load t a,some d=>match cx.T t with
  |some t=>match (bif q then none else U.whole (cx.K d) t (U.opd a))with
   |some (n,r)=>K (((U.mapv (AV.deeps [n] [])).setRt n (some ⟨true,r.t.shn,Ty.shnx r.t r.x⟩)).set d (.val r.t.shn (Ty.shnx r.t r.x)))
   |none=>U.lodK q t (cx.glob (U.opd a)) fun v U=>K (U.set d v)
  |none=>none
 |.store t a x,d=>if q then none else match U.aggOf x with
  |some _=>match a with
   |.tmp s=>match U.rt s with
    |some r=>if cx.T t=some r.t.sh/\0<r.t.cells then AE.stors x s r.t 0 r.t U fun U=>K (U.setD d .dead)else none
    |none=>none
   |_=>none
  |none=>match U.opd a with
  |.ptr n p=>match cx.T t with
   |some t=>U.stor t n p (U.opd x) fun U=>K (U.setD d .dead)
   |none=>none
  |_=>none
 |.nilCheck x,some d=>match U.opd x with
  |.ptr n p=>K (U.set d (.ptr n p))
  |.vptr t y=>K (U.set d (.vptr t y))
  |_=>none
 |.binOp op ty x y _,some d=>bif d6o (cx.T ty)then(match d2l (cx.T ty) (U.opd x) (U.opd y)with
   |some e=>if q then none else e6K op e fun b=>K (U.set d (.val .bool b))
   |none=>none)
  else b2G cx op ty (U.opd x) (U.opd y) fun v=>K (U.set d v)
 |.unOp op _ x,some d=>AE.un op (U.opd x) fun v=>K (U.set d v)
 |.convert s t x,some d=>U.conv q cx d s t (U.opd x) K
 |.makeSlice t n c,some d=>match cx.own d t with
  |some (.list _ e)=>(U.opd n).isVal (.int .i64) fun(x:Int)=>(U.opd c).isVal (.int .i64) fun(y:Int)=>
    bif decide (0<=x)&&(decide (x<=y)&&lim y.toNat)then U.fresh q d ⟨false,.list true e,a08 x.toNat e.dflt⟩ fun U=>K (U.set d (.sref d []))else none
  |_=>none
 |.slice t x lo hi mx,some d=>U.slic (cx.T t) (U.opd x) lo hi mx fun v=>K (U.set d v)
 |.fieldAddr s x f,some d=>match U.opd x with
  |.ptr n p=>match U.rt n with
   |some r=>match a0T r.t r.x p with
    |⟨t,_⟩=>if a1Z t f=true/\cx.T s=some t.sh then K (U.set d (.ptr n (p++a1l f)))else none
   |none=>none
  |.vptr t y=>if a1Z t f=true/\cx.T s=some t then(match a0T t y (a1l f)with|⟨t',z⟩=>K (U.set d (.vptr t' z)))else none
  |_=>none
 |.field s x f,some d=>match U.opd x with
  |.val t y=>if a1Z t f=true/\cx.T s=some t then(match a0T t y (a1l f)with|⟨t',z⟩=>K (U.set d (.val t' z)))else none
  |_=>none
 |.indexAddr t x i,some d=>match U.opd i with
  |.val (.int _) (i:Int)=>U.addrK (cx.T t) (cx.glob (U.opd x)) i fun v=>K (U.set d v)
  |_=>none
 |.index s x i,some d=>match U.opd x,U.opd i with
  |.val (.arr n t) l,.val (.int _) (i:Int)=>if cx.T s=some (.arr n t)then(a0m l i).bind fun y=>K (U.set d (.val t y))else none
  |.val .str (l:List Int),.val (.int _) (i:Int)=>if cx.T s=some .str then(a0m l i).bind fun y=>K (U.set d (.val (.int .u8) y))else none
  |_,_=>none
 |.extract (.tmp t) i,some d=>match U.sl t with
  |.cmp .tup vs=>match vs[i]? with
   |some v=>K (U.set d v)
   |none=>none
  |_=>none
 |.call c,d=>match c.callee with
  |.builtin b=>match d with
   |some d=>U.blt q cx d b c.argTypes.toList (c.args.toList.map U.opd) K
   |none=>none
  |.value (.func f)=>match cx.C f with
   |some s=>U.call q d s (c.args.toList.map U.opd) K
   |none=>none
  |.value (.tmp t)=>if q then none else match U.sl t with
   |.cmp (.clo f) vs=>match cx.C f with
    |some s=>U.call q d s (c.args.toList.map U.opd++vs) K
    |none=>none
   |_=>none
  |_=>none
 |_,_=>none
def b1A(ops:List Oper)(j:Nat):Option Nat:=(ops[j]?).bind (·.dst)
inductive Md where
 |v|q|x

 |p

 |a (ws:List Nat)

 |s

 |b (ws:List Nat)

 |c (ws:List Nat)

 |e

 |u

 |t
 |r (ns:List Nat)
 |w (ws:List Nat)
def Md.isW:Md->Bool
 |.w _=>true
 |.e=>true
 |_=>false
def AV.firm:AV->Bool
 |.skp|.val _ _|.nils|.empt|.nilp|.vptr _ _|.glob _=>true
 |_=>false
def SV.firm:SV->Bool
 |.one v=>v.firm
 |.cmp _ vs=>vs.all AV.firm
def AV.refs:AV->List Nat
 |.ptr n _|.sref n _|.swin n _ _ _=>[n]
 |_=>[]
def SV.refs:SV->List Nat
 |.one v=>v.refs
 |.cmp _ vs=>vs.flatMap AV.refs
def AV.alive:AV->Bool
 |.dead=>false
 |_=>true
def SV.alive:SV->Bool
 |.one v=>v.alive
 |.cmp _ vs=>vs.all AV.alive
def c1n(cx:Cx)(ts:List Nat):Bool:=match ts.head?.bind cx.T with
 |some (.list _ e)=>e.isList
 |_=>false
def wOk(cx:Cx)(o:Oper)(U:AE):Bool:=match o.op with
 |.call c=>match c.callee with
  |.builtin .append=>o.dst.isSome&&!c1n cx c.argTypes.toList
  |.value (.func f)=>match cx.C f with
   |some s=>!(s.rs.any RA.hasList || (a5l s.ps).any RA.hasList) || c.args.toList.all fun x=>(U.opd x).viewed.isEmpty
   |none=>false
  |_=>false
 |.store _ _ x=>(U.opd x).viewed.isEmpty&&(U.aggOf x).isNone
 |_=>false
def AE.foot(U:AE)(o:Oper):List Nat:=o.op.operands.toList.flatMap fun x=>match x with
 |.tmp t=>(U.sl t).refs
 |_=>[]
def a4X(cx:Cx)(o:Oper)(d:Nat):List Nat:=d::(match o.op with
 |.call c=>(match c.callee with
  |.value (.func f)=>(match cx.C f with
   |some s=>a1q s.rs (d+1000)
   |none=>[])
  |_=>[])
 |_=>[])
def b6g(a b:List Nat):Bool:=a.all fun n=>b.contains n
def disj(a b:List Nat):Bool:=a.all fun n=>!b.contains n
def c6o(U:AE):Operand->Option Nat
 |.tmp t=>match U.sl t with
  |.one (.ptr n [])=>bif decide (pinned<=n)then some n else none
  |_=>none
 |_=>none
def b4l(o:Oper)(U:AE):Option Nat:=match o.op with
 |.move x=>c6o U x
 |.nilCheck x=>c6o U x
 |_=>none
def AV.calm:AV->Bool
 |.ptr n []=>decide (pinned<=n)
 |v=>v.firm
def SV.calm:SV->Bool
 |.one v=>v.calm
 |sv=>sv.firm
def Step.isField:Step->Bool
 |.idx _=>false
 |_=>true
def AV.still:AV->Bool
 |.ptr _ p|.sref _ p=>p.all Step.isField
 |v=>v.firm
def SV.still:SV->Bool
 |.one v=>v.still
 |sv=>sv.firm
def tyF:Ty->a0C->Option Ty
 |t,[]=>some t
 |.pair a _,.fst::p=>tyF a p
 |.pair _ b,.snd::p=>tyF b p
 |_,_=>none
def AE.ptrTy(U:AE):Operand->Option (Nat×a0C×Ty)
 |.tmp t=>match U.sl t with
  |.one (.ptr n p)=>match U.rt n with
   |some r=>(tyF r.t p).map fun τ=>(n,p,τ)
   |none=>none
  |_=>none
 |_=>none
def AE.stay(cx:Cx)(U:AE)(o:Oper):Option AV:=match o.op with
 |.move (.tmp t)=>match U.sl t with
  |.one v=>bif v.still&&v.refs.all fun n=>(U.rt n).isSome then some v else none
  |_=>none
 |.fieldAddr s x f=>match U.ptrTy x with
  |some (n,p,τ)=>if a1Z τ f=true/\cx.T s=some τ.sh then some (.ptr n (p++a1l f))else none
  |none=>none
 |.load s x=>match U.ptrTy x with
  |some (n,p,.list true _)=>match cx.T s with
   |some τ=>bif τ.isList then some (.sref n p)else none
   |none=>none
  |_=>none
 |_=>none
def Root.scal(r:Root)(p:a0C):Option AV:=bif p.all Step.isField then(match a0T r.t r.x p with
 |⟨.int k,v⟩=>some (.val (.int k) v)
 |_=>none)else none
def AE.peek(cx:Cx)(U:AE)(o:Oper):Option AV:=match o.op with
 |.fieldAddr s x f=>match U.ptrTy x with
  |some (n,p,τ)=>if a1Z τ f=true/\cx.T s=some τ.sh then some (.ptr n (p++a1l f))else none
  |none=>none
 |.load s x=>match U.ptrTy x with
  |some (n,p,.int k)=>if cx.T s=some (.int k)then(match U.rt n with
   |some r=>r.scal p
   |none=>none)else none
  |_=>none
 |_=>none
def d2n(o:Oper):Bool:=match o.op with
 |.move _|.binOp _ _ _ _ _|.unOp _ _ _|.pick _ _ _|.load _ _|.fieldAddr _ _ _|.indexAddr _ _ _|.index _ _ _=>true
 |_=>false
def d6p(t:(t:Ty)×t.den):Bool:=match t with
 |⟨.list true _,_⟩=>true
 |_=>false
def AE.pends(cx:Cx)(U:AE)(o:Oper):Bool:=match o.op with
 |.store t (.tmp a) (.tmp x)=>match U.pd,U.sl a,U.sl x with
  |some (n,p,_),.one (.ptr n1 p1),.one (.sref n2 p2)=>(n1==n&&(n2==n&&(a8F p2 p1&&a8F p p1)))&&((match U.rt n with
    |some r=>d6p (a0T r.t r.x p1)
    |none=>false)&&(match cx.T t with
    |some τ=>τ.isList
    |none=>false))
  |_,_,_=>false
 |_=>false
def AE.pdElem(U:AE):Bool:=match U.pd with
 |none=>true
 |some (_,p,_)=>!p.all Step.isField
def a1Y(cx:Cx):Md->Oper->AE->(AE->Rs Z)->Rs Z
 |.x,o,U,K=>aop cx false o U K
 |.w ws,o,U,K=>match U.pd with
  |none=>bif wOk cx o U&&(b6g (U.foot o) ws&&b6g (a4X cx o (o.dst.getD 0)) ws)then aop cx false o U fun U'=>(match U'.pd with
    |none=>K U'
    |some _=>none)else none
  |some _=>none
 |.r ns,o,U,K=>bif (o.op.operands.toList.all fun x=>match x with
   |.tmp t=>(U.sl t).alive&&(U.sl t).refs.all fun n=>(U.rt n).isSome&&ns.contains n
   |_=>true)&&b6g (a4X cx o (o.dst.getD 0)) ns then
    (match o.dst with
     |some d=>aop cx true o U fun U'=>bif b6g (U'.sl d).refs ns then K U' else none
     |none=>none)
   else none
 |.p,o,U,K=>match b4l o U,o.dst with
  |some n,some d=>K (U.put d (.one (.ptr n [])))
  |_,_=>none
 |.a ws,o,U,K=>match U.pd with
  |none=>bif wOk cx o U&&(b6g (U.foot o) ws&&b6g (a4X cx o (o.dst.getD 0)) ws)then aop cx false o U K else none
  |some _=>none
 |.b ws,o,U,K=>match U.pd with
  |none=>bif wOk cx o U&&(b6g (U.foot o) ws&&b6g (a4X cx o (o.dst.getD 0)) ws)then aop cx false o U fun U'=>(match U'.pd with
    |some (_,p,_)=>bif !p.all Step.isField then K U' else none
    |none=>none)else none
  |some _=>none
 |.s,o,U,K=>match U.stay cx o,o.dst with
  |some v,some d=>bif v.still&&U.pdElem then K (U.put d (.one v))else none
  |_,_=>none
 |.c ws,o,U,K=>match U.pd with
  |none=>bif wOk cx o U&&(b6g (U.foot o) ws&&b6g (a4X cx o (o.dst.getD 0)) ws)then aop cx false o U fun U'=>(match U'.pd with
    |some (_,p,_)=>bif p.all Step.isField then K U' else none
    |none=>none)else none
  |some _=>none
 |.e,o,U,K=>bif U.pends cx o&&o.dst.isNone then K { U with pd:=none }else none
 |.t,o,U,K=>match U.peek cx o,o.dst with
  |some v,some d=>K (U.put d (.one v))
  |_,_=>none
 |.u,o,U,K=>bif d2n o&&o.op.operands.toList.all (fun x=>match x with
   |.tmp t=>(U.sl t).firm
   |_=>true)then
    (match o.dst with
     |some d=>aop cx true o U fun U'=>bif (U'.sl d).firm then K U' else none
     |none=>none)
   else none
 |.q,o,U,K=>bif o.op.operands.toList.all fun x=>match x with
   |.tmp t=>(U.sl t).refs.all fun n=>(U.rt n).isSome
   |_=>true then
    (match o.dst with
     |some _=>aop cx true o U K
     |none=>none)
   else none
 |.v,o,U,K=>match b4l o U with
  |some n=>(match o.dst with
   |some d=>K (U.put d (.one (.ptr n [])))
   |none=>none)
  |none=>bif o.op.operands.toList.all fun x=>match x with
   |.tmp t=>(U.sl t).firm
   |_=>true then
    (match o.dst with
     |some d=>aop cx true o U fun U'=>bif (U'.sl d).firm then K U' else none
     |none=>none)
   else none
def a0A(cx:Cx)(md:Md)(ops:List Oper)(o:Oper)(U:AE)(K:AE->Rs Z):Rs Z:=
 match o.guard with
 |none=>a1Y cx md o U K
 |some (j,want)=>match b1A ops j with
  |none=>none
  |some g=>match U.get g with
   |.val .bool (b:Bool)=>bif b then(bif want then a1Y cx md o (U.set g (.val .bool true)) K else K ((U.set g (.val .bool true)).setD o.dst .skp))
     else(bif want then K ((U.set g (.val .bool false)).setD o.dst .skp)else a1Y cx md o (U.set g (.val .bool false)) K)
   |.skp=>K (U.setD o.dst .skp)
   |_=>none
def a6Y(cx:Cx)(ops:List Oper):List (Md×Oper)->AE->(AE->Rs Z)->Rs Z
 | [],U,K=>K U
 |(md,o)::r,U,K=>a0A cx md ops o U fun U'=>a6Y cx ops r U' K
def c6p:Md->Md->Bool
 |.x,_|_,.x=>false
 |.e,.u|.u,.e=>true
 |.e,_|_,.e=>false
 |.c _,.u|.u,.c _=>true
 |.c _,.t|.t,.c _=>true
 |.c _,_|_,.c _=>false
 |.a _,.p|.p,.a _=>true
 |.a _,_|_,.a _=>false
 |.b _,.s|.s,.b _=>true
 |.b _,.u|.u,.b _=>true
 |.b _,_|_,.b _=>false
 |.w _,.p|.p,.w _=>true
 |.w _,.v|.v,.w _=>true
 |.w _,.u|.u,.w _=>true
 |.w ws,.r ns|.r ns,.w ws=>disj ns ws
 |.w _,_|_,.w _=>false
 |_,_=>true
def c8x:List Oper->List Nat->List Nat
 | [],acc=>acc
 |o::r,acc=>c8x r (acc++[o.after.toList.foldl (fun s e=>if Region.binds .any e then s ||| 2^e.on ||| acc.getD e.on 0 else s) 0])
def c6q(ops:Array Oper)(ms:List Md):Bool:=
 let b:=c8x ops.toList []
 decide (ms.length=ops.size)&&(a28 ops.size).all fun j=>((ops.getD j default).after.toList.all fun e=>!Region.binds .any e || decide (e.on<j)) &&
  (a28 j).all fun i=>(b.getD j 0).testBit i || (c6p (ms.getD i .x) (ms.getD j .x)&&((ops.getD i default).apart ops (ops.getD j default) &&
   (((ms.getD i .x).isW || (ops.getD i default).dst.isSome)&&((ms.getD j .x).isW || (ops.getD j default).dst.isSome))))
end
inductive Ex where
 |normal
 |exit (id:Nat)
 |ret
 deriving DecidableEq
inductive Ent where
 |sv (i:Nat) (t:Ty)

 |own (i n:Nat) (e:Ty)

 |box (n:Nat) (t:Ty)
 |ptr (i n:Nat) (p:a0C)

 |vp (i:Nat) (t:Ty)
 |ref (i n:Nat) (p:a0C)

 |rfi (i n:Nat)

 |win (i n:Nat) (p:a0C)

 |clo (i f:Nat) (ns:List Nat)
@[reducible] def a0h:=List Ent
def a0h.ty:a0h->Ty
 | []=>.unit
 |.sv _ t::r=>.pair t (a0h.ty r)
 |.own _ _ e::r=>.pair (.list true e) (a0h.ty r)
 |.box _ t::r=>.pair t (a0h.ty r)
 |.ptr _ _ _::r=>a0h.ty r
 |.vp _ t::r=>.pair t (a0h.ty r)
 |.ref _ _ _::r=>a0h.ty r
 |.rfi _ _::r=>.pair (.int .i64) (a0h.ty r)
 |.win _ _ _::r=>.pair (.int .i64) (.pair (.int .i64) (a0h.ty r))
 |.clo _ _ _::r=>a0h.ty r
def AE.nothing:AE:=⟨fun _=>.one .dead,fun _=>none,none⟩
def b1i:List Nat->List AV
 | []=>[]
 |n::ns=>.ptr n []::b1i ns
def b4N:List AV->List Nat->Bool
 | [],[]=>true
 |.ptr n []::vs,m::ns=>(n==m)&&b4N vs ns
 |_,_=>false
def a0h.enc:(es:a0h)->es.ty.den->AE
 | [],_=>AE.nothing
 |.sv i t::r,x=>(a0h.enc r x.2).set i (.val t x.1)
 |.own i n e::r,x=>((a0h.enc r x.2).setRt n (some ⟨false,.list true e,x.1⟩)).set i (.sref n [])
 |.box n t::r,x=>(a0h.enc r x.2).setRt n (some ⟨true,t,x.1⟩)
 |.ptr i n p::r,x=>(a0h.enc r x).set i (.ptr n p)
 |.vp i t::r,x=>(a0h.enc r x.2).set i (.vptr t x.1)
 |.ref i n p::r,x=>(a0h.enc r x).set i (.sref n p)
 |.rfi i n::r,x=>(a0h.enc r x.2).set i (.sref n [.idx (show Int from x.1).toNat])
 |.win i n p::r,x=>(a0h.enc r x.2.2).set i (.swin n p (show Int from x.1).toNat (show Int from x.2.1).toNat)
 |.clo i f ns::r,x=>(a0h.enc r x).put i (.cmp (.clo f) (b1i ns))
def a0h.names:a0h->List Nat
 | []=>[]
 |.own _ n _::r=>n::a0h.names r
 |.box n _::r=>n::a0h.names r
 |_::r=>a0h.names r
def d1V:List Nat->Bool
 | []=>true
 |a::l=>!l.contains a&&d1V l
section
variable {Z:Type}
def a0h.rest(nm:List Nat)(U:AE):(es:a0h)->(es.ty.den->Rs Z)->Rs Z
 | [],K=>K ()
 |.sv i t::r,K=>match U.get i with
  |.val t' x=>if h:t'=t then a0h.rest nm U r fun y=>K (h▸x,y)else none
  |_=>none
 |.own i n e::r,K=>match U.get i with
  |.sref m []=>bif m==n then(match U.rt n with
    |some ⟨false,.list true e',l⟩=>if h:e'=e then a0h.rest nm U r fun y=>K (h▸l,y)else none
    |_=>none)else none
  |.nils=>match U.rt n with
   |none=>bif decide (n<pinned)then a0h.rest nm U r fun y=>K ([],y)else none
   |some _=>none
  |.empt=>match U.rt n with
   |none=>bif decide (n<pinned)then a0h.rest nm U r fun y=>K ([],y)else none
   |some _=>none
  |_=>none
 |.box n t::r,K=>match U.rt n with
  |some ⟨true,t',x⟩=>if h:t'=t then a0h.rest nm U r fun y=>K (h▸x,y)else if t'.shn=t' then(match castTo t' t x with
   |some z=>a0h.rest nm U r fun y=>K (z,y)
   |none=>none)else none
  |_=>none
 |.ptr i n p::r,K=>match U.get i with
  |.ptr m q=>bif nm.contains n&&((m==n)&&a8F q p)then a0h.rest nm U r K else none
  |_=>none
 |.vp i t::r,K=>match U.get i with
  |.vptr t' x=>if h:t'=t then a0h.rest nm U r fun y=>K (h▸x,y)else none
  |_=>none
 |.ref i n p::r,K=>match U.get i with
  |.sref m q=>bif nm.contains n&&((m==n)&&a8F q p)then a0h.rest nm U r K else none
  |_=>none
 |.rfi i n::r,K=>match U.get i with
  |.sref m [.idx k]=>bif nm.contains n&&(m==n)then a0h.rest nm U r fun y=>K ((k:Int),y)else none
  |_=>none
 |.win i n p::r,K=>match U.get i with
  |.swin m q o k=>bif nm.contains n&&((m==n)&&a8F q p)then a0h.rest nm U r fun y=>K ((o:Int),(k:Int),y)else none
  |_=>none
 |.clo i f ns::r,K=>match U.sl i with
  |.cmp (.clo f') vs=>bif (f'==f)&&(ns.all nm.contains&&b4N vs ns)then a0h.rest nm U r K else none
  |_=>none
def AV.exact:AV->Ty->Bool
 |.val t' _,t=>decide (t'=t)
 |_,_=>true
def a0h.vals(nm:List Nat):(es:a0h)->AE->(es.ty.den->Rs Z)->Rs Z
 |.sv i t::r,U,K=>bif (U.get i).exact t then U.asV false t (U.get i) fun x U'=>a0h.vals nm r (U'.set i (.val t x)) fun y=>K (x,y)else none
 |es,U,K=>a0h.rest nm U es K
def a0h.dcd(es:a0h)(U:AE)(K:es.ty.den->Rs Z):Rs Z:=match U.pd with
 |none=>bif d1V es.names then a0h.vals es.names es U K else none
 |some _=>none
end
@[reducible] def b0Y:=List (Ex×a0h)
def b0Y.den:b0Y->Type
 | []=>Empty
 | [(_,s)]=>s.ty.den
 |(_,s)::r=>s.ty.den ⊕ b0Y.den r
def b0Y.pack{Z:Type}:(o:b0Y)->Ex->AE->(o.den->Rs Z)->Rs Z
 | [],_,_,_=>none
 | [(e',s)],e,U,K=>if e=e' then s.dcd U K else none
 |(e',s)::x::r,e,U,K=>if e=e' then s.dcd U fun y=>K (.inl y)else b0Y.pack (x::r) e U fun y=>K (.inr y)
def b0Y.open{Z:Type}:(o:b0Y)->(o.den->(Ex->AE->Rs Z)->Rs Z)
 | []=>fun _ _=>none
 | [(e',s)]=>fun x K=>K e' (s.enc x)
 |(e',s)::y::r=>
  let g:=b0Y.open (y::r)
  fun x K=>Sum.elim (fun a=>K e' (s.enc a)) (fun z=>g z K) (show s.ty.den ⊕ b0Y.den (y::r)from x)
def a3I{M β:Type}(f:M->Option (M ⊕ β)):Nat->M->Option β
 |0,_=>none
 |n+1,s=>match f s with
  |none=>none
  |some (.inl s')=>a3I f n s'
  |some (.inr b)=>some b
open Classical in
def b9G {M β:Type} (f:M->Option (M ⊕ β)) (s:M):Option β:=
 if h:∃n b,a3I f n s=some b then some h.choose_spec.choose else none
def a0d{M β:Type}(f:M->Option (M ⊕ β))(s:M):Option β:=match a3I f 400 s with
 |some b=>some b
 |none=>b9G f s
structure Hints where
 loops:List (Nat×a0h×b0Y)
 cuts:List (Nat×b0Y)

 regs:List (Nat×List Md)
def find{α:Type}:List (Nat×α)->Nat->Option α
 | [],_=>none
 |(k,x)::r,n=>bif k==n then some x else find r n
def a1X(cx:Cx)(H:Hints):Code->Nat->{Z:Type}->AE->(Ex->AE->Rs Z)->Rs Z
 |.skip,_,_,U,K=>K .normal U
 |.region id ops draw,_,_,U,K=>bif draw then(match find H.regs id with
    |some ms=>bif c6q ops ms then a6Y cx ops.toList (ms.zip ops.toList) U fun U'=>K .normal U' else none
    |none=>none)
   else a6Y cx ops.toList (ops.toList.map fun o=>(.x,o)) U fun U'=>K .normal U'
 |.seq a b,p,_,U,K=>match find H.cuts p with
  |none=>a1X cx H a (2*p) U fun e U'=>match e with
   |.normal=>a1X cx H b (2*p+1) U' K
   |e=>K e U'
  |some os=>(a1X cx H a (2*p) U fun e U'=>os.pack e U' some).bind fun x=>os.open x fun e U'=>match e with
   |.normal=>a1X cx H b (2*p+1) U' K
   |e=>K e U'
 |.cond c x y,p,_,U,K=>match U.opd c with
  |.val .bool (t:Bool)=>bif t then a1X cx H x (2*p) U K else a1X cx H y (2*p+1) U K
  |_=>none
 |.block id c,p,_,U,K=>a1X cx H c (2*p) U fun e U'=>match e with
  |.exit i=>bif i==id then K .normal U' else K (.exit i) U'
  |e=>K e U'
 |.loop c,p,_,U,K=>match find H.loops p with
  |none=>none
  |some (s,os)=>s.dcd U fun x=>
   (a0d (fun x=>a1X cx H c (2*p) (s.enc x) fun e U'=>match e with
    |.normal=>s.dcd U' fun x'=>some (.inl x')
    |e=>os.pack e U' fun y=>some (.inr y)) x).bind fun y=>os.open y K
 |.exit id,_,_,U,K=>K (.exit id) U
 |.ret,_,_,U,K=>K .ret U
 |_,_,_,_,_=>none
def b5h(ps:List PA)(i:Nat):Option Bool:=match ps[i]? with
 |some (.r c _)=>some c
 |_=>none
def rnm(c:Bool)(i:Nat):Nat:=bif c then i else pinned+i
def b3L(ps:List PA)(m:Nat):Option Nat:=
 bif decide (m<pinned)then(match b5h ps m with|some true=>some m|_=>none)
 else match b5h ps (m-pinned)with|some false=>some (m-pinned)|_=>none
def valAV:(t:Ty)->t.den->AV
 |.nl _,_=>.nils
 |.int k,x=>.val (.int k) x
 |.bool,x=>.val .bool x
 |.str,x=>.val .str x
 |.unit,x=>.val .unit x
 |.list o t,x=>.val (.list o t) x
 |.pair a b,x=>.val (.pair a b) x
 |.arr n t,x=>.val (.arr n t) x
def ini(ps:List PA)(x:(a2f (ps.map PA.ty)).den):AE where
 sl:=fun i=>match (a0X ps x)[i]? with
  |some ⟨.v t,y⟩=>.one (valAV t y)
  |some ⟨.r c a,y⟩=>bif c&&decide (pinned<=i)then .one .dead else .one (c8w (rnm c i) ⟨a,y⟩)
  |none=>.one .dead
 rt:=fun n=>bif decide (n<pinned)then(match (a0X ps x)[n]? with
   |some ⟨.r true a,y⟩=>a0O ⟨a,y⟩
   |_=>none)
  else match (a0X ps x)[n-pinned]? with
  |some ⟨.r false a,y⟩=>a0O ⟨a,y⟩
  |_=>none
 pd:=none
section
variable {Z:Type}
def AE.out(cx:Cx)(U:AE)(tk:List Nat)(j:Nat):(r:RA)->ResultVar ⊕ Option Nat->(r.ty.den->AE->List Nat->Rs Z)->Rs Z
 |.v t,.inl (.tmp i),K=>bif (U.get i).viewed.any tk.contains then none else U.asV false t (U.get i) fun x U'=>K x (U'.set j (.val t x)) tk
 |.v t,.inl (.cell i t'),K=>match U.get i with
  |.ptr n []=>bif tk.contains n then none else if cx.T t'=some t.sh then U.lodK false t.sh (.ptr n []) fun v U'=>match v with
    |.val t'' x=>match castTo t'' t x with
     |some y=>K y (U'.set j (.val t y)) tk
     |none=>none
    |_=>none
   else none
  |_=>none
 |.o e,.inl (.tmp i),K=>match U.get i with
  |.sref n []=>bif tk.contains n then none else match U.rt n with
   |some ⟨false,.list true e',l⟩=>if h:e'=e then K (h▸l) (U.set j (.sref n [])) (n::tk)else none
   |_=>none
  |.nils=>K [] (U.set j .nils) tk
  |.empt=>K [] (U.set j .empt) tk
  |.swin n [] 0 0=>bif tk.contains n || !decide (n<pinned)then none else match U.look n with
   |some ⟨false,.list true e',_⟩=>if e'=e then K [] (((U.mapv (AV.drop n)).setRt n (some ⟨false,.list true e,([]:List e.den)⟩)).set j (.sref n [])) (n::tk)else none
   |_=>none
  |_=>none
 |.b t,.inl (.tmp i),K=>match U.get i with
  |.ptr n []=>bif tk.contains n || !decide (n<pinned)then none else match U.rt n with
   |some ⟨true,t',x⟩=>if h:t'=t then K (h▸x) (U.set j (.ptr n [])) (n::tk)else none
   |_=>none
  |_=>none
 |.b t,.inr (some n),K=>bif tk.contains n then none else match U.rt n with
  |some ⟨true,t',x⟩=>if h:t'=t then K (h▸x) (U.set j (.ptr n [])) (n::tk)else none
  |_=>none
 |.o e,.inr (some n),K=>bif tk.contains n then none else match U.rt n with
  |some ⟨false,.list true e',x⟩=>if h:e'=e then K (h▸x) (U.set j (.sref n [])) (n::tk)else none
  |_=>none
 |.o _,.inr none,K=>K [] (U.set j .nils) tk
 |_,_,_=>none
def AE.outs(cx:Cx)(U:AE)(tk:List Nat)(j:Nat):(rs:List RA)->List (ResultVar ⊕ Option Nat)->((a2f (rs.map RA.ty)).den->AE->Rs Z)->Rs Z
 | [],[],K=>K () U
 | [r],[v],K=>U.out cx tk j r v fun x U' _=>K x U'
 |r::r'::rs,v::vs,K=>U.out cx tk j r v fun x U' tk'=>U'.outs cx tk' (j+1) (r'::rs) vs fun y U''=>K (x,y) U''
 |_,_,_=>none
end
def a0F:List PA->Nat->List Nat
 | [],_=>[]
 |.v _::r,i=>a0F r (i+1)
 |.r _ _::r,i=>i::a0F r (i+1)
def b2I(ps:List PA)(i:Nat):Option Nat:=match b5h ps i with
 |some true=>none
 |_=>some (pinned+i)
def AE.upto(U:AE)(N:Nat):AE:=⟨fun i=>bif decide (i<N)then U.sl i else .one .dead,U.rt,U.pd⟩
def a1c(cx:Cx)(H:Hints)(fn:Func)(ps:List PA)(rs:List RA)(x:(a2f (ps.map PA.ty)).den):Option (a2f ((RA.all ps rs).map RA.ty)).den:=
 match fn.body with
 |none=>none
 |some body=>a1X cx H body 1 (ini ps x) fun e U=>match e,U.pd with
  |.exit _,_=>none
  |_,some _=>none
  |_,none=>(U.upto fn.ntmps).outs cx [] fn.ntmps (RA.all ps rs) (fn.results.toList.map .inl++(a0F ps 0).map fun i=>.inr (b2I ps i)) fun y _=>some y
@[reducible] def Mem:=Nat->Nat->Option Value
variable {m m':Mem}
@[reducible] def a1k:=List (Nat×Nat)
variable {f:(Nat->Option Value)->Option (α×a1k×List Nat)}
def a0j{α:Type}(f:Nat->Option (α×a1k×List Nat)):(n i:Nat)->Option (List α×a1k×List Nat)
 |0,_=>some ([],[],[])
 |n+1,i=>match f i with
  |none=>none
  |some (x,o,r)=>match a0j f n (i+1)with
   |none=>none
   |some (xs,os,rs)=>some (x::xs,o++os,r++rs)
def a0Y{α:Type}(m:Mem)(o:Bool)(sz:Nat)(f:(Nat->Option Value)->Option (α×a1k×List Nat))(v:Option Value):Option (List α×a1k×List Nat):=
 match v with
 |some (.slice none n c)=>if n=0/\c=0 then some ([],[],[])else none
 |some (.slice (some a) n c)=>
  if(c=0\/a.spot=none)/\n<=c then
   match a0j (fun i=>f fun j=>m a.block (a.off+(i*sz+j))) n 0 with
   |none=>none
   |some (xs,os,rs)=>
    if o=true then(if c=0 then some (xs,os,rs)else some (xs,(a.block,a.off+c*sz)::os,rs))
    else(if n=0 then some (xs,[],[])else some (xs,[],a.block::(os.map (·.1)++rs)))
  else none
 |_=>none
def dec(m:Mem):(t:Ty)->(Nat->Option Value)->Option (t.den×a1k×List Nat)
 |.int k,rd=>match rd 0 with
  |some (.int k' n)=>if k'=k then some (n,[],[])else none
  |_=>none
 |.bool,rd=>match rd 0 with
  |some (.bool b)=>some (b,[],[])
  |_=>none
 |.str,rd=>match rd 0 with
  |some (.string s)=>some ((s.data.toList.map fun b=>(b.toNat:Int):List Int),[],[])
  |_=>none
 |.unit,_=>some ((),[],[])
 |.pair a b,rd=>match dec m a rd with
  |none=>none
  |some (x,o,r)=>match dec m b (fun j=>rd (a.cells+j))with
   |none=>none
   |some (y,o',r')=>some ((x,y),o++o',r++r')
 |.arr n t,rd=>a0j (fun i=>dec m t fun j=>rd (i*t.cells+j)) n 0
 |.list o t,rd=>a0Y m o t.cells (dec m t) (rd 0)
 |.nl t,rd=>match rd 0 with
  |some (.slice none 0 0)=>some (([]:List t.den),[],[])
  |_=>none
inductive Src where
 |at(b o:Nat)
 |one (v:Value)
variable {g g':Nat->Src}{s:Src}
def Src.rd(m:Mem):Src->Nat->Option Value
 |.at b o,j=>m b (o+j)
 |.one v,j=>if j=0 then some v else none
def a0U(m:Mem):a0C->Ty->Src->Option (Ty×Src)
 | [],t,s=>some (t,s)
 |.fst::p,t,s=>match t,s with
  |.pair a _,.at bl o=>a0U m p a (.at bl o)
  |_,_=>none
 |.snd::p,t,s=>match t,s with
  |.pair a b,.at bl o=>a0U m p b (.at bl (o+a.cells))
  |_,_=>none
 |.idx i::p,t,s=>match t,s with
  |.arr n t,.at bl o=>if i<n then a0U m p t (.at bl (o+i*t.cells))else none
  |.list true t,s=>match s.rd m 0 with
   |some (.slice (some a) n _)=>if i<n then a0U m p t (.at a.block (a.off+i*t.cells))else none
   |_=>none
  |_,_=>none
@[reducible] def loc(m:Mem)(t:Ty)(s:Src)(p:a0C):Option (Ty×Src):=a0U m p t s
section collectLemmas
variable {α:Type} {f f':Nat->Option (α×a1k×List Nat)}
theorem b1B:∀(n i:Nat),(∀j,i<=j->j<i+n->f' j=f j)->a0j f' n i=a0j f n i
 |0,_,_=>rfl
 |n+1,i,h=>by
  simp[a0j];rw[h i (a18 _) (by omega),b1B n (i+1) (fun j g k=>h j (by omega) (by omega))]
theorem a0W:∀(n i:Nat){xs os rs},a0j f n i=some (xs,os,rs)->xs.length=n
 |0,i,xs,os,rs,h=>by simp_all[a0j]
 |n+1,i,xs,os,rs,h=>by
  simp[a0j]at h
  split at h
  grind
  split at h
  grind
  rename_i g;simp at h;obtain⟨rfl,rfl,rfl⟩:=h;simp[a0W n (i+1) g]
theorem a0V:∀(n i k:Nat){xs os rs},a0j f n i=some (xs,os,rs)->k<n->
  ∃x o r A B b B',f (i+k)=some (x,o,r)/\xs[k]?=some x/\os=A++(o++B)/\rs=b++(r++B')
 |0,_,_,_,_,_,_,h=>by omega
 |n+1,i,k,xs,os,rs,h,hk=>by
  simp[a0j]at h
  split at h
  grind
  ·rename_i x o r l
   split at h
   grind
   ·rename_i d g a c;simp at h;obtain⟨rfl,rfl,rfl⟩:=h;cases k with
    |zero=>exact⟨x,o,r,[],g,[],a,by omega,by simp,by simp,by simp⟩
    |succ k=>
     obtain⟨q,m,p,A,B,b,B',e,j,rfl,rfl⟩:=a0V n (i+1) k c (by omega)
     grind
theorem b8c:∀(n i k:Nat){xs os rs x o r y o' r'},a0j f n i=some (xs,os,rs)->k<n->f (i+k)=some (x,o,r)->
  f' (i+k)=some (y,o',r')->(∀j,i<=j->j<i+n->j≠i+k->f' j=f j)->
  ∃A B g,os=A++(o++B)/\a0j f' n i=some (xs.set k y,A++(o'++B),g)/\∀b∈g,b∈rs\/b∈r'
 |0,_,_,_,_,_,_,_,_,_,_,_,_,h,_,_,_=>by omega
 |n+1,i,k,xs,os,rs,x,o,r,y,o',r',h,hk,hf,hf',hj=>by
  simp[a0j]at h
  split at h
  grind
  ·rename_i u o1 p a
   split at h
   grind
   ·rename_i q c d l;simp at h;obtain⟨rfl,rfl,rfl⟩:=h;cases k with
    |zero=>
     simp at hf hf';rw[a]at hf;simp at hf;obtain⟨rfl,rfl,rfl⟩:=hf;refine⟨[],c,r'++d,by simp,?_,?_⟩
     all_goals grind[a0j,b1B]
    |succ k=>
     have e:i+1+k=i+(k+1):=by omega
     obtain⟨A,B,g,rfl,m,t⟩:=b8c n (i+1) k l (by omega) (by rw[e];omega) (by rw[e];omega)
      (fun j s l m=>hj j (by omega) (by omega) (by omega))
     refine⟨o1++A,B,p++g,by simp,?_,?_⟩;simp_all[a0j]
     grind
theorem b8M:∀(n k i:Nat){xs os rs ys os' rs'},a0j f n i=some (xs,os,rs)->a0j f k (i+n)=some (ys,os',rs')->
  a0j f (n+k) i=some (xs++ys,os++os',rs++rs')
 |0,k,i,xs,os,rs,ys,os',rs',h,h'=>by
  simp[a0j]at h;simp_all
 |n+1,k,i,xs,os,rs,ys,os',rs',h,h'=>by
  simp[a0j]at h
  split at h
  grind
  rename_i j o1 e a
  split at h
  grind
  rename_i d b c g;simp at h;obtain⟨rfl,rfl,rfl⟩:=h
  have:=b8M n k (i+1) g (by rw[show i+1+n=i+(n+1)from by omega];omega)
  grind[a0j]
theorem a4J:∀(n k i:Nat){xs os rs},a0j f (n+k) i=some (xs,os,rs)->
  ∃os1 rs1 g e,a0j f n i=some (xs.take n,os1,rs1)/\a0j f k (i+n)=some (xs.drop n,g,e)/\os=os1++g/\rs=rs1++e
 |0,k,i,xs,os,rs,h=>⟨[],[],os,rs,by rfl,by simp_all,rfl,rfl⟩
 |n+1,k,i,xs,os,rs,h=>by
  rw[show n+1+k=(n+k)+1 from by omega]at h;simp[a0j]at h
  split at h
  grind
  ·rename_i r o1 m l
   split at h
   grind
   ·rename_i o g e j;simp at h;obtain⟨rfl,rfl,rfl⟩:=h;obtain⟨a,b,c,d,p,q,rfl,rfl⟩:=a4J n k (i+1) j;refine⟨o1++a,m++b,c,d,?_,?_,by simp,by simp⟩
    all_goals grind[a0j]
end collectLemmas
theorem d7c{ow:Bool}{f':(Nat->Option Value)->Option (α×a1k×List Nat)}{v:Option Value}{x:List α}{o r}(h:a0Y m ow sz f v=some (x,o,r))(z:∀b j,b∈o.map (·.1)\/b∈r->m' b j=m b j)(q:∀i d l y (a:Addr) (n c:Nat),v=some (.slice (some a) n c)->f (fun j=>m a.block (a.off+(i*sz+j)))=some (y,d,l)->
   (∀b j,b=a.block\/(b∈d.map (·.1)\/b∈l)->m' b j=m b j)->f' (fun j=>m' a.block (a.off+(i*sz+j)))=some (y,d,l)):
  a0Y m' ow sz f' v=some (x,o,r):=by
 unfold a0Y at h|-
 split at h
 omega;rename_i a n c
 split at h
 rename_i w
 split at h
 grind
 rename_i C os s p;have k:∀b j,n≠0->b=a.block\/b∈os.map (·.1)\/b∈s->m' b j=m b j:=by
  grind
 have e:a0j (fun i=>f' fun j=>m' a.block (a.off+(i*sz+j))) n 0=a0j (fun i=>f fun j=>m a.block (a.off+(i*sz+j))) n 0:=by
  refine b1B n 0 fun i u hi=>?_
  obtain⟨y,d,l,A,B,t,B',g,-,rfl,rfl⟩:=a0V n 0 i p (by omega);simp at g;rw[g];refine q i d l y a n c rfl g (fun b j hb=>k b j (by omega) ?_)
  grind
 simp_all;simp_all;omega
theorem a0y{m m':Mem}:∀(t:Ty){rd rd':Nat->Option Value}{x o r},dec m t rd=some (x,o,r)->
  (∀j,j<t.cells->rd' j=rd j)->(∀b j,b∈o.map (·.1)\/b∈r->m' b j=m b j)->dec m' t rd'=some (x,o,r)
 |.int k,rd,rd',x,o,r,h,hr,hm=>by
  simp_all[dec,Ty.cells]
 |.bool,rd,rd',x,o,r,h,hr,hm=>by
  simp_all[dec,Ty.cells]
 |.str,rd,rd',x,o,r,h,hr,hm=>by
  simp_all[dec,Ty.cells]
 |.unit,rd,rd',x,o,r,h,hr,hm=>by
  simp_all[dec]
 |.pair a b,rd,rd',x,o,r,h,hr,hm=>by
  simp[dec]at h|-
  split at h
  grind
  rename_i x1 o1 r1 h1
  split at h
  grind
  rename_i x2 o2 r2 h2;simp at h;obtain⟨rfl,rfl,rfl⟩:=h;rw[a0y a h1 (fun j hj=>hr j (by simp[Ty.cells];omega)) (fun b j hb=>hm b j (by simp at hb|-;rcases hb with hb|hb;exact .inl (.inl hb);exact .inr (.inl hb)))];simp only[];rw[a0y b h2 (fun j hj=>hr _ (by simp[Ty.cells];omega)) (fun b j hb=>hm b j (by simp at hb|-;rcases hb with hb|hb;exact .inl (.inr hb);exact .inr (.inr hb)))]
 |.arr n t,rd,rd',x,o,r,h,hr,hm=>by
  simp[dec]at h|-;rw[<-h];refine b1B n 0 fun i h0 hi=>?_
  obtain⟨y,o',r',A,B,A',B',hf,-,rfl,rfl⟩:=a0V n 0 i h (by omega);simp at hf;rw[hf];refine a0y t hf (fun j hj=>hr _ ?_) (fun b j hb=>hm b j ?_);simp[Ty.cells]
  calc i*t.cells+j<i*t.cells+t.cells:=by omega
   _=(i+1)*t.cells:=by grind
   _<=n*t.cells:=a00 _ (by omega)
  grind
 |.list ow t,rd,rd',x,o,r,h,hr,hm=>by
  simp[dec]at h|-;rw[hr 0 (by simp[Ty.cells])];exact d7c h hm (fun i o' r' y a n c hv h2 hsub=>a0y t h2 (fun j hj=>hsub _ _ (.inl rfl)) (fun b j hb=>hsub b j (.inr hb)))
 |.nl t,rd,rd',x,o,r,h,hr,hm=>by
  simp_all[dec,Ty.cells]
theorem c1o{m:Mem}{t:Ty}{rd:Nat->Option Value}{x o r}(h:dec m (.nl t) rd=some (x,o,r)):rd 0=some (.slice none 0 0)/\x=([]:List t.den)/\o=[]/\r=[]:=by
 simp[dec]at h
 grind
theorem a6e(m:Mem)(b o k:Nat):(fun j=>(Src.at b o).rd m (k+j))=(Src.at b (o+k)).rd m:=by
 grind[Src.rd]
theorem b9H(m:Mem)(b o k:Nat):(fun j=>m b (o+(k+j)))=(Src.at b (o+k)).rd m:=by
 grind[Src.rd]
theorem a2u{a b:Ty}{rd:Nat->Option Value}{x o r}(h:dec m (.pair a b) rd=some (x,o,r)):
  ∃x1 o1 r1 x2 o2 r2,dec m a rd=some (x1,o1,r1)/\dec m b (fun j=>rd (a.cells+j))=some (x2,o2,r2)/\x=(x1,x2)/\o=o1++o2/\r=r1++r2:=by
 simp[dec]at h
 grind
theorem a9e{a b:Ty}{rd:Nat->Option Value}{x1 o1 r1 x2 o2 r2}(h:dec m a rd=some (x1,o1,r1))(g:dec m b (fun j=>rd (a.cells+j))=some (x2,o2,r2)):
  dec m (.pair a b) rd=some ((x1,x2),o1++o2,r1++r2):=by
 simp[dec,h,g];rfl
theorem e1X{v:Option Value}{x:List α}{o r}(h:a0Y m true sz f v=some (x,o,r)):
  (v=some (.slice none 0 0)/\x=[]/\o=[]/\r=[])\/
  (∃a n c os,v=some (.slice (some a) n c)/\(c=0\/a.spot=none)/\n<=c/\a0j (fun i=>f ((Src.at a.block (a.off+i*sz)).rd m)) n 0=some (x,os,r)/\
   ((c=0/\o=os)\/(c≠0/\o=(a.block,a.off+c*sz)::os))):=by
 unfold a0Y at h
 split at h
 simp_all;rename_i a n c;simp only[b9H]at h
 grind
 simp_all
theorem a2a{t:Ty}{rd:Nat->Option Value}{x:List t.den}{o r}(h:dec m (.list true t) rd=some (x,o,r)):
  (rd 0=some (.slice none 0 0)/\x=[]/\o=[]/\r=[])\/
  (∃a n c os,rd 0=some (.slice (some a) n c)/\(c=0\/a.spot=none)/\n<=c/\a0j (fun i=>dec m t ((Src.at a.block (a.off+i*t.cells)).rd m)) n 0=some (x,os,r)/\
   ((c=0/\o=os)\/(c≠0/\o=(a.block,a.off+c*t.cells)::os))):=e1X h
theorem b9I{m:Mem}{t:Ty}{rd:Nat->Option Value}{x:List t.den}{os r a n c}(h:rd 0=some (.slice (some a) n c))(g:a.spot=none)(k:n<=c)(f:c≠0)
  (b:a0j (fun i=>dec m t ((Src.at a.block (a.off+i*t.cells)).rd m)) n 0=some (x,os,r)):
  dec m (.list true t) rd=some (x,(a.block,a.off+c*t.cells)::os,r):=by
 show a0Y m true t.cells (dec m t) (rd 0)=_;simp_all[a0Y,b9H]
theorem a7A{p t s r}(h:loc m t s (.fst::p)=some r):∃a b bl o,t=.pair a b/\s=.at bl o/\loc m a (.at bl o) p=some r:=by
 simp[loc,a0U]at h
 grind
theorem a7B{p t s r}(h:loc m t s (.snd::p)=some r):∃a b bl o,t=.pair a b/\s=.at bl o/\loc m b (.at bl (o+a.cells)) p=some r:=by
 simp[loc,a0U]at h
 grind
theorem a6n{i p t s r}(h:loc m t s (.idx i::p)=some r):
  (∃n t' bl o,t=.arr n t'/\s=.at bl o/\i<n/\loc m t' (.at bl (o+i*t'.cells)) p=some r)\/
  (∃t' a n c,t=.list true t'/\s.rd m 0=some (.slice (some a) n c)/\i<n/\loc m t' (.at a.block (a.off+i*t'.cells)) p=some r):=by
 simp[loc,a0U]at h
 grind
theorem a1w{m:Mem}:∀(p:a0C)(t:Ty)(s:Src){x O R t' s'},dec m t (s.rd m)=some (x,O,R)->loc m t s p=some (t',s')->
  ∃y f k A B d B',dec m t' (s'.rd m)=some (y,f,k)/\a0T t x p=⟨t',y⟩/\O=A++(f++B)/\R=d++(k++B')
 | [],t,s,x,O,R,t',s',h,g=>by
  simp[a0U]at g;obtain⟨rfl,rfl⟩:=g;exact⟨x,O,R,[],[],[],[],h,rfl,by simp,by simp⟩
 |.fst::p,t,s,x,O,R,t',s',h,g=>by
  obtain⟨a,b,bl,o,rfl,rfl,g⟩:=a7A g;obtain⟨Q,o1,G,S,o2,r2,E,C,rfl,rfl,rfl⟩:=a2u h;obtain⟨y,f,k,A,B,d,B',l,r,rfl,rfl⟩:=a1w p a (.at bl o) E g;exact⟨y,f,k,A,B++o2,d,B'++r2,l,r,by simp,by simp⟩
 |.snd::p,t,s,x,O,R,t',s',h,g=>by
  obtain⟨a,b,bl,o,rfl,rfl,g⟩:=a7B g;obtain⟨Q,o1,G,S,o2,r2,E,C,rfl,rfl,rfl⟩:=a2u h;rw[a6e]at C;obtain⟨y,f,k,A,B,d,B',l,r,rfl,rfl⟩:=a1w p b (.at bl (o+a.cells)) C g;exact⟨y,f,k,o1++A,B,G++d,B',l,r,by simp,by simp⟩
 |.idx i::p,t,s,x,O,R,t',s',h,g=>by
  rcases a6n g with⟨n,v,bl,o,rfl,rfl,hi,g⟩|⟨v,a,n,c,rfl,q,hi,g⟩;simp[dec,a6e]at h;obtain⟨T,N,P,w,z,e,j,u,L,rfl,rfl⟩:=a0V n 0 i h hi;simp at u;obtain⟨y,f,k,A,B,d,B',l,r,rfl,rfl⟩:=a1w p v _ u g;refine⟨y,f,k,w++A,B++z,e++d,B'++j,l,?_,by simp,by simp⟩;simp_all[a1j,a22];rcases a2a h with⟨hv,-⟩|⟨D,M,H,os,hv,U,V,K,I⟩;simp_all;rw[hv]at q;simp at q;obtain⟨rfl,rfl,rfl⟩:=q;obtain⟨T,N,P,w,z,e,j,u,L,rfl,rfl⟩:=a0V M 0 i K hi;simp at u;obtain⟨y,f,k,A,B,d,B',l,r,rfl,rfl⟩:=a1w p v _ u g;have F:a0T (.list true v) x (.idx i::p)=⟨t',y⟩:=by
   simp_all[a1j,a22]
  rcases I with⟨-,rfl⟩|⟨-,rfl⟩;exact⟨y,f,k,w++A,B++z,e++d,B'++j,l,F,by simp,by simp⟩;exact⟨y,f,k,(D.block,D.off+H*v.cells)::(w++A),B++z,e++d,B'++j,l,F,by simp,by simp⟩
def Src.avoids:Src->Nat->Prop
 |.at sb _,c=>c≠sb
 |.one _,_=>True
theorem c5k(t:Ty)(x y:t.den):a1T t x [] t y=y:=by
 show(if h:t=t then h▸y else x)=y
 simp
theorem b3M{m:Mem}:∀(p:a0C)(t:Ty)(s:Src){x O R t' b o},dec m t (s.rd m)=some (x,O,R)->loc m t s p=some (t',.at b o)->
  (∃so,s=.at b so/\so<=o/\o+t'.cells<=so+t.cells)\/∃k,(b,k)∈O/\o+t'.cells<=k
 | [],t,s,x,O,R,t',b,o,h,f=>by
  simp[a0U]at f;simp_all
 |.fst::p,t,s,x,O,R,t',b,o,h,f=>by
  obtain⟨a,w,bl,so,rfl,rfl,f⟩:=a7A f;obtain⟨K,o1,I,L,o2,r2,y,u,rfl,rfl,rfl⟩:=a2u h;rcases b3M p a (.at bl so) y f with⟨s1,g,e,v⟩|⟨k,g,e⟩;simp at g;obtain⟨rfl,rfl⟩:=g;exact .inl ⟨_,rfl,e,by grind[Ty.cells]⟩
  grind
 |.snd::p,t,s,x,O,R,t',b,o,h,f=>by
  obtain⟨a,w,bl,so,rfl,rfl,f⟩:=a7B f;obtain⟨K,o1,I,L,o2,r2,y,u,rfl,rfl,rfl⟩:=a2u h;rw[a6e]at u;rcases b3M p w (.at bl (so+a.cells)) u f with⟨s1,g,e,v⟩|⟨k,g,e⟩;simp at g;obtain⟨rfl,rfl⟩:=g;exact .inl ⟨_,rfl,by omega,by grind[Ty.cells]⟩
  grind
 |.idx i::p,t,s,x,O,R,t',b,o,h,f=>by
  rcases a6n f with⟨n,d,bl,so,rfl,rfl,hi,f⟩|⟨d,a,n,c,rfl,j,hi,f⟩;simp[dec,a6e]at h;obtain⟨M,G,H,z,A,q,r,l,E,rfl,rfl⟩:=a0V n 0 i h hi;simp at l;have S:i*d.cells+d.cells<=n*d.cells:=by rw[<-a04];exact a00 _ hi
  rcases b3M p d _ l f with⟨s1,g,e,v⟩|⟨k,g,e⟩;simp at g;obtain⟨rfl,rfl⟩:=g;exact .inl ⟨_,rfl,by omega,by grind[Ty.cells]⟩
  grind
  rcases a2a h with⟨hv,-⟩|⟨N,F,B,os,hv,P,T,D,C⟩;simp_all;rw[hv]at j;simp at j;obtain⟨rfl,rfl,rfl⟩:=j;obtain⟨M,G,H,z,A,q,r,l,E,rfl,rfl⟩:=a0V F 0 i D hi;simp at l;rcases C with⟨Q,-⟩|⟨-,rfl⟩;omega;rcases b3M p d _ l f with⟨s1,g,e,v⟩|⟨k,g,e⟩;simp at g;obtain⟨rfl,rfl⟩:=g;refine .inr ⟨_,List.mem_cons_self,?_⟩
  have:i*d.cells+d.cells<=B*d.cells:=by rw[<-a04];exact a00 _ (by omega)
  omega
  grind
theorem a5B{m:Mem}(p:a0C)(t:Ty)(s:Src){x O R t' b o}(h:dec m t (s.rd m)=some (x,O,R))(g:loc m t s p=some (t',.at b o)):
  (∃so,s=.at b so/\so<=o/\o+t'.cells<=so+t.cells)\/b∈O.map (·.1):=
 (b3M p t s h g).imp id fun⟨_,h,_⟩=>a15 h
theorem a9S{α:Type}{f:Nat->Option (α×a1k×List Nat)}:∀(n i:Nat){xs os rs},a0j f n i=some (xs,os,rs)->(os.map (·.1)).Nodup->
  ∀j k,j<n->k<n->j≠k->∀{xj oj rj xk ok rk},f (i+j)=some (xj,oj,rj)->f (i+k)=some (xk,ok,rk)->∀c,c∈oj.map (·.1)->c∉ok.map (·.1)
 |0,_,_,_,_,_,_,_,_,hj,_,_=>by omega
 |n+1,i,xs,os,rs,h,hn,j,k,hj,hk,hjk=>by
  intro m p c e g;simp[a0j]at h
  split at h
  grind
  ·rename_i H o1 F q
   split at h
   grind
   ·rename_i v b u d;simp at h;obtain⟨rfl,rfl,rfl⟩:=h;rw[pA,a07]at hn;obtain⟨-,a,z⟩:=hn;have t:∀l x o r,l<n->f (i+(l+1))=some (x,o,r)->∀c,c∈o.map (·.1)->c∈b.map (·.1):=by
     intro l x o r s C c e;obtain⟨G,D,E,A,B,w,B',y,-,rfl,-⟩:=a0V n (i+1) l d s
     grind
    cases j with
    |zero=>
     cases k with
     |zero=>omega
     |succ k=>
      grind
    |succ j=>
     cases k with
     |zero=>
      grind
     |succ k=>
      exact a9S n (i+1) d a j k (by omega) (by omega) (by omega) (by rw[show i+1+j=i+(j+1)from by omega];exact m)
       (by rw[show i+1+k=i+(k+1)from by omega];exact p) c e g
def Chg(m m':Mem)(s:Src)(O:a1k)(R:List Nat)(b o n:Nat)(O':a1k):Prop:=
 ∀c j,m' c j=m c j\/(c=b/\o<=j/\j<o+n)\/c∈O'.map (·.1)\/(c∉O.map (·.1)/\c∉R/\s.avoids c)
structure Sep (s:Src) (O:a1k) (R:List Nat):Prop where
 nodup:(O.map (·.1)).Nodup
 src:∀c∈O.map (·.1),s.avoids c
 shared:∀c∈R,c∉O.map (·.1)/\s.avoids c
theorem d6q{A O B:List (Nat×α)}(h:c∈O.map (·.1)):c∈(A++(O++B)).map (·.1):=by
 simp_all
theorem b4m{t2:Ty}{sb so:Nat}{x2 o2 r2}(h:dec m t2 ((Src.at sb so).rd m)=some (x2,o2,r2))(g:∀j,j<t2.cells->m' sb (so+j)=m sb (so+j))(hb:∀c j,c∈o2.map (·.1)\/c∈r2->m' c j=m c j):
  dec m' t2 ((Src.at sb so).rd m')=some (x2,o2,r2):=
 a0y t2 h (fun j f=>g j f) hb
theorem c5l{m m':Mem}:∀(p:a0C)(t:Ty)(s:Src){x O R t' b o y O' R' y' O'' R''},dec m t (s.rd m)=some (x,O,R)->loc m t s p=some (t',.at b o)->
  dec m t' ((Src.at b o).rd m)=some (y,O',R')->dec m' t' ((Src.at b o).rd m')=some (y',O'',R'')->Sep s O R->Chg m m' s O R b o t'.cells O'->
  ∃A B R1,O=A++(O'++B)/\dec m' t (s.rd m')=some (a1T t x p t' y',A++(O''++B),R1)/\∀c∈R1,c∈R\/c∈R''
 | [],t,s,x,O,R,t',b,o,y,O',R',y',O'',R'',h,l,hy,hy',hs,f=>by
  simp[a0U]at l;obtain⟨rfl,rfl⟩:=l;rw[h]at hy;simp at hy;obtain⟨rfl,rfl,rfl⟩:=hy;exact⟨[],[],R'',by simp,by simp_all[c5k],fun c f=>.inr f⟩
 |.fst::p,t,s,x,O,R,t',b,o,y,O',R',y',O'',R'',h,l,hy,hy',hs,f=>by
  obtain⟨a,b',bl,so,rfl,rfl,l⟩:=a7A l;obtain⟨x1,o1,r1,x2,o2,r2,h1,h2,rfl,rfl,rfl⟩:=a2u h;have P:=a5B p a _ h1 l;obtain⟨y1,Z,h8,A1,B1,X,Y,D,-,e1,e2⟩:=a1w p a _ h1 l;rw[hy]at D;simp at D;obtain⟨rfl,rfl,rfl⟩:=D;have H:∀c,c∈O'.map (·.1)->c∈o1.map (·.1):=fun c f=>by simp_all
  have hn:=hs.nodup;rw[pA,a07]at hn;have a6:Sep (.at bl so) o1 r1:=⟨hn.1,fun c f=>hs.src c (by grind),
   fun c f=>⟨fun h=>(hs.shared c (a03 _ f)).1 (by grind),(hs.shared c (a03 _ f)).2⟩⟩
  obtain⟨A,B,R1,e3,V,h4⟩:=c5l p a (.at bl so) h1 l hy hy' a6 (fun c j=>by
   rcases f c j with h|h|h|⟨h,C,d⟩
   all_goals grind)
  rw[a6e]at h2;have g7:∀c,c∈o1.map (·.1)\/c∈o2.map (·.1)->c≠bl:=fun c f=>hs.src c (by grind);have h5:=b4m (m':=m') h2 (fun j T=>by
    rcases f bl (so+a.cells+j)with h|⟨hb,Q,w⟩|h|⟨h,C,d⟩;omega
    ·rcases P with⟨s1,L,g2,g3⟩|g
     all_goals grind
    grind
    exact absurd rfl d)
   (fun c j q=>by
    have a5:c∈o2.map (·.1)\/(c∈r2/\c∉o1.map (·.1)/\c≠bl):=by
     rcases q with g|g
     grind
     have:=hs.shared c (a02 _ g)
     exact .inr ⟨g,fun g'=>this.1 (by grind),this.2⟩
    have b3:c∉o1.map (·.1):=by
     grind
    have k3:c≠bl:=by
     grind
    rcases f c j with h|⟨hb,Q,w⟩|h|⟨h,C,d⟩;omega
    ·rcases P with⟨s1,L,g2,g3⟩|g
     all_goals grind
    all_goals grind)
  refine⟨A,B++o2,R1++r2,by grind,?_,fun c f=>?_⟩;rw[<-a6e]at h5
  have:=a9e V h5
  have e:A++(O''++(B++o2))=(A++(O''++B))++o2:=by simp
  rw[e];exact this
  grind
 |.snd::p,t,s,x,O,R,t',b,o,y,O',R',y',O'',R'',h,l,hy,hy',hs,f=>by
  obtain⟨a,b',bl,so,rfl,rfl,l⟩:=a7B l;obtain⟨x1,o1,r1,x2,o2,r2,h1,h2,rfl,rfl,rfl⟩:=a2u h;rw[a6e]at h2;have P:=a5B p b' _ h2 l;obtain⟨y1,Z,h8,A1,B1,X,Y,D,-,e1,e2⟩:=a1w p b' _ h2 l;rw[hy]at D;simp at D;obtain⟨rfl,rfl,rfl⟩:=D;have H:∀c,c∈O'.map (·.1)->c∈o2.map (·.1):=fun c f=>by simp_all
  have hn:=hs.nodup;rw[pA,a07]at hn;have g7:∀c,c∈o1.map (·.1)\/c∈o2.map (·.1)->c≠bl:=fun c f=>hs.src c (by grind);have a7:Sep (.at bl (so+a.cells)) o2 r2:=⟨hn.2.1,fun c f=>g7 c (.inr f),
   fun c f=>⟨fun h=>(hs.shared c (a02 _ f)).1 (by grind),(hs.shared c (a02 _ f)).2⟩⟩
  obtain⟨A,B,R1,e3,V,h4⟩:=c5l p b' (.at bl (so+a.cells)) h2 l hy hy' a7 (fun c j=>by
   rcases f c j with h|h|h|⟨h,C,d⟩
   grind
   omega
   grind
   simp only[pA,mA]at h C;exact .inr (.inr (.inr ⟨fun g=>h (.inr g),fun g=>C (.inr g),d⟩)))
  have h5:=b4m (m':=m') h1 (fun j T=>by
    rcases f bl (so+j)with h|⟨hb,Q,w⟩|h|⟨h,C,d⟩;omega
    ·rcases P with⟨s1,L,g2,g3⟩|g
     all_goals grind
    grind
    exact absurd rfl d)
   (fun c j q=>by
    have a5:c∈o1.map (·.1)\/(c∈r1/\c∉o2.map (·.1)/\c≠bl):=by
     rcases q with g|g
     grind
     have:=hs.shared c (a03 _ g)
     exact .inr ⟨g,fun g'=>this.1 (by grind),this.2⟩
    have b4:c∉o2.map (·.1):=by
     grind
    have k3:c≠bl:=by
     grind
    rcases f c j with h|⟨hb,Q,w⟩|h|⟨h,C,d⟩;omega
    ·rcases P with⟨s1,L,g2,g3⟩|g
     all_goals grind
    all_goals grind)
  refine⟨o1++A,B,r1++R1,by grind,?_,fun c f=>?_⟩;rw[<-a6e]at V
  have:=a9e h5 V
  have e:o1++A++(O''++B)=o1++(A++(O''++B)):=by simp
  rw[e];exact this
  grind
 |.idx i::p,t,s,x,O,R,t',b,o,y,O',R',y',O'',R'',h,l,hy,hy',hs,f=>by
  rcases a6n l with⟨n,t,bl,so,rfl,rfl,hi,l⟩|⟨t,a0,n0,c0,rfl,g5,hi,l⟩
  ·have h:a0j (fun i=>dec m t fun j=>(Src.at bl so).rd m (i*t.cells+j)) n 0=some (x,O,R):=h;have S:a0j (fun i=>dec m t ((Src.at bl (so+i*t.cells)).rd m)) n 0=some (x,O,R):=by grind[a6e]
   have k2:∀c,c∈O.map (·.1)->c≠bl:=fun c f=>hs.src c f;obtain⟨z,K,ri,A0,B0,k4,k6,I,hz,e1,e2⟩:=a0V n 0 i S hi;simp at I;have u:∀c,c∈K.map (·.1)->c∈O.map (·.1):=fun c f=>by simp_all
   have F:∀c,c∈ri->c∈R:=fun c f=>by simp_all
   have P:=a5B p t _ I l;obtain⟨y1,Z,h8,A1,B1,X,Y,D,-,e3,e4⟩:=a1w p t _ I l;rw[hy]at D;simp at D;obtain⟨rfl,rfl,rfl⟩:=D;have H:∀c,c∈O'.map (·.1)->c∈K.map (·.1):=fun c f=>by simp_all
   have g0:(K.map (·.1)).Nodup:=by
    have:=hs.nodup
    grind
   have g4:Sep (.at bl (so+i*t.cells)) K ri:=⟨g0,fun c f=>k2 c (u c f),fun c f=>⟨fun g=>(hs.shared c (F c f)).1 (u c g),(hs.shared c (F c f)).2⟩⟩;obtain⟨A,B,R1,e5,V,h4⟩:=c5l p t (.at bl (so+i*t.cells)) I l hy hy' g4 (fun c j=>by
    rcases f c j with h|h|h|⟨h,C,d⟩;simp_all;omega;simp_all;exact .inr (.inr (.inr ⟨fun g=>h (u c g),fun g=>C (F c g),d⟩)))
   have N:∀j,0<=j->j<0+n->j≠0+i->dec m' t ((Src.at bl (so+j*t.cells)).rd m')=dec m t ((Src.at bl (so+j*t.cells)).rd m):=by
    intro j _ T E;simp only[a26]at T E;obtain⟨zj,oj,rj,Aj,Bj,k5,k7,r,-,ej,k8⟩:=a0V n 0 j S T;simp at r;rw[r];have g6:=a9S n 0 S hs.nodup i j hi T (Ne.symm E) (by simpa using I) (by simpa using r);refine b4m r (fun k hk=>?_) (fun c k q=>?_);rcases f bl (so+j*t.cells+k)with h|⟨hb,Q,w⟩|h|⟨h,C,d⟩;omega;rcases P with⟨s1,L,g2,g3⟩|g;simp at L;obtain⟨-,rfl⟩:=L
    exfalso
    rcases a20 E with g|g
    have:j*t.cells+t.cells<=i*t.cells:=by rw[<-a04];exact a00 _ g
    omega
    have:i*t.cells+t.cells<=j*t.cells:=by rw[<-a04];exact a00 _ g
    omega
    grind
    grind
    exact absurd rfl d
    ·have a4:c∈oj.map (·.1)->c∈O.map (·.1):=fun g=>by grind
     have M:c∈rj->c∈R:=fun g=>by grind
     have a8:c∉K.map (·.1):=by
      rcases q with g|g
      grind
      exact fun g'=>(hs.shared c (M g)).1 (u c g')
     have k3:c≠bl:=by
      rcases q with g|g
      grind
      exact(hs.shared c (M g)).2
     rcases f c k with h|⟨hb,Q,w⟩|h|⟨h,C,d⟩;omega
     ·rcases P with⟨s1,L,g2,g3⟩|g
      all_goals grind
     all_goals grind
   obtain⟨A2,B2,U,e6,h6,h7⟩:=b8c (f':=fun i=>dec m' t ((Src.at bl (so+i*t.cells)).rd m')) n 0 i S hi (by simpa using I) (by simpa using V) N;refine⟨A2++A,B++B2,U,by grind,?_,fun c f=>?_⟩;show a0j (fun i=>dec m' t fun j=>(Src.at bl so).rd m' (i*t.cells+j)) n 0=some (a31 x i (a2e p t (a22 x i t.dflt) t' y'),A2++A++(O''++(B++B2)),U);simp only[a6e]
   grind
   grind
  ·rcases a2a h with⟨hv,-⟩|⟨a,n,c,os,hv,ha,hn,S,Q⟩;simp_all
   ·rw[hv]at g5;simp at g5;obtain⟨rfl,rfl,rfl⟩:=g5;rcases Q with⟨a3,-⟩|⟨a3,rfl⟩;omega
    ·have g9:=hs.nodup;simp only[a16,a19]at g9;obtain⟨k9,k0⟩:=g9;have h9:a.block∈(((a.block,a.off+c*t.cells)::os).map (·.1)):=by simp
     obtain⟨z,K,ri,A0,B0,k4,k6,I,hz,e1,e2⟩:=a0V n 0 i S hi;simp at I;have k1:∀c,c∈K.map (·.1)->c∈os.map (·.1):=fun c f=>by simp_all
     have u:∀G,G∈K.map (·.1)->G∈(((a.block,a.off+c*t.cells)::os).map (·.1)):=fun G f=>by
      simp_all
     have F:∀c,c∈ri->c∈R:=fun c f=>by simp_all
     have P:=a5B p t _ I l;have a2:b∈(((a.block,a.off+c*t.cells)::os).map (·.1)):=by
      grind
     obtain⟨y1,Z,h8,A1,B1,X,Y,D,-,e3,e4⟩:=a1w p t _ I l;rw[hy]at D;simp at D;obtain⟨rfl,rfl,rfl⟩:=D;have H:∀c,c∈O'.map (·.1)->c∈K.map (·.1):=fun c f=>by grind
     have g0:(K.map (·.1)).Nodup:=by
      grind
     have g4:Sep (.at a.block (a.off+i*t.cells)) K ri:=⟨g0,fun c f (e:c=a.block)=>k9 (e▸k1 c f),
      fun c f=>⟨fun g=>(hs.shared c (F c f)).1 (u c g),fun(e:c=a.block)=>(hs.shared c (F c f)).1 (e▸h9)⟩⟩
     obtain⟨A,B,R1,e5,V,h4⟩:=c5l p t (.at a.block (a.off+i*t.cells)) I l hy hy' g4 (fun c j=>by
      rcases f c j with h|h|h|⟨h,C,d⟩
      grind
      omega
      grind
      exact .inr (.inr (.inr ⟨fun g=>h (u c g),fun g=>C (F c g),fun(e:c=a.block)=>h (e▸h9)⟩)))
     have a9:s.rd m' 0=some (.slice (some a) n c):=by
      rw[<-hv];cases s with
      |one v=>rfl
      |_=>
       rename_i sb so;show m' sb (so+0)=m sb (so+0);rcases f sb (so+0)with h|⟨hb,Q,w⟩|h|⟨h,C,d⟩;omega;exact absurd rfl (hb▸hs.src b a2);exact absurd rfl (hs.src sb (u _ (H _ h)));exact absurd rfl d
     have N:∀j,0<=j->j<0+n->j≠0+i->dec m' t ((Src.at a.block (a.off+j*t.cells)).rd m')=dec m t ((Src.at a.block (a.off+j*t.cells)).rd m):=by
      intro j _ T E;simp only[a26]at T E;obtain⟨zj,oj,rj,Aj,Bj,k5,k7,r,-,ej,k8⟩:=a0V n 0 j S T;simp at r;rw[r];have g6:=a9S n 0 S k0 i j hi T (Ne.symm E) (by simpa using I) (by simpa using r);refine b4m r (fun k hk=>?_) (fun G k q=>?_)
      ·rcases f a.block (a.off+j*t.cells+k)with h|⟨hb,Q,w⟩|h|⟨h,C,d⟩;omega;rcases P with⟨s1,L,g2,g3⟩|g;simp at L;obtain⟨-,rfl⟩:=L
       exfalso
       rcases a20 E with g|g
       have:j*t.cells+t.cells<=i*t.cells:=by rw[<-a04];exact a00 _ g
       omega
       have:i*t.cells+t.cells<=j*t.cells:=by rw[<-a04];exact a00 _ g
       omega
       grind
       all_goals grind
      ·have a4:G∈oj.map (·.1)->G∈os.map (·.1):=fun g=>by grind
       have M:G∈rj->G∈R:=fun g=>by grind
       have a8:G∉K.map (·.1):=by
        rcases q with g|g
        grind
        exact fun g'=>(hs.shared G (M g)).1 (u G g')
       have b0:G≠a.block:=by
        rcases q with g|g
        grind
        exact fun e=>(hs.shared G (M g)).1 (e▸h9)
       rcases f G k with h|⟨hb,Q,w⟩|h|⟨h,C,d⟩;omega
       ·rcases P with⟨s1,L,g2,g3⟩|g
        all_goals grind
       all_goals grind
     obtain⟨A2,B2,U,e6,h6,h7⟩:=b8c (f':=fun i=>dec m' t ((Src.at a.block (a.off+i*t.cells)).rd m')) n 0 i S hi (by simpa using I) (by simpa using V) N;refine⟨(a.block,a.off+c*t.cells)::(A2++A),B++B2,U,by grind,?_,fun c f=>?_⟩;show dec m' (.list true t) (s.rd m')=some (a31 x i (a2e p t (a22 x i t.dflt) t' y'),_)
     grind[b9I]
     grind
theorem b5D{O R b o n O'}(e:Chg m m' s O R b o n O')(l:Sep s O R){bl so:Nat}{o1 o2:a1k}{r2:List Nat}(u:¬ s.avoids bl\/bl∈O.map (·.1))(t:∀c∈o1.map (·.1),c∈O.map (·.1)/\c≠bl)(y:∀c∈o2.map (·.1),c∈O.map (·.1)/\c≠bl)(z:∀c∈o1.map (·.1),c∉o2.map (·.1))(i:∀c∈r2,c∈R)(p:∀c∈O'.map (·.1),c∈o1.map (·.1))(B:(b=bl/\∀j,j<k->¬ (o<=so+j/\so+j<o+n))\/b∈o1.map (·.1)):
  (∀j,j<k->m' bl (so+j)=m bl (so+j))/\(∀c j,c∈o2.map (·.1)\/c∈r2->m' c j=m c j):=by
 constructor
 ·intro j A;rcases e bl (so+j)with h|⟨hb,v,d⟩|h|⟨h,r,a⟩
  all_goals grind
 ·intro c j f;have x:c∉o1.map (·.1):=by
   rcases f with g|g
   grind
   exact fun q=>(l.shared c (i c g)).1 (t c q).1
  have w:c≠bl:=by
   rcases f with g|g
   grind
   have:=l.shared c (i c g)
   grind
  rcases e c j with h|⟨hb,v,d⟩|h|⟨h,r,a⟩
  all_goals grind
theorem b9J{m m':Mem}:∀(q:a0C)(t:Ty)(s:Src),t.shn=t->loc m' t s q=loc m t s q
 | [],t,s,_=>rfl
 |.fst::q,t,s,h=>by
  cases t<;>cases s<;>try rfl
  rename_i a b bl o;simp only[Ty.shn,Ty.pair.injEq]at h;exact b9J q a (.at bl o) h.1
 |.snd::q,t,s,h=>by
  cases t<;>cases s<;>try rfl
  rename_i a b bl o;simp only[Ty.shn,Ty.pair.injEq]at h;exact b9J q b (.at bl (o+a.cells)) h.2
 |.idx i::q,t,s,h=>by
  cases t<;>cases s<;>try rfl
  rename_i o t _ _;cases o;rfl;simp[Ty.shn]at h;rename_i o t _;cases o;rfl;simp[Ty.shn]at h;rename_i n t bl o;simp only[Ty.shn,Ty.arr.injEq]at h;show(if i<n then loc m' t (.at bl (o+i*t.cells)) q else none)=(if i<n then loc m t (.at bl (o+i*t.cells)) q else none)
  rw[b9J q t _ (Ty.shn_of_sh t h.2)]
theorem a2G{m m':Mem}:∀(q:a0C)(t:Ty)(s:Src){x O R r},dec m t (s.rd m)=some (x,O,R)->loc m t s q=some r->
  (∀j,j<t.cells->s.rd m' j=s.rd m j)->(∀c j,c∈O.map (·.1)->m' c j=m c j)->loc m' t s q=some r
 | [],t,s,x,O,R,r,h,f,hc,hb=>f
 |.fst::q,t,s,x,O,R,r,h,f,hc,hb=>by
  obtain⟨a,v,bl,so,rfl,rfl,f⟩:=a7A f;obtain⟨K,o1,I,L,o2,r2,w,p,rfl,rfl,rfl⟩:=a2u h;exact a2G q a (.at bl so) w f (fun j u=>hc j (by simp only[Ty.cells];omega)) (fun c j g=>hb c j (by simp only[pA,mA];exact .inl g))
 |.snd::q,t,s,x,O,R,r,h,f,hc,hb=>by
  obtain⟨a,v,bl,so,rfl,rfl,f⟩:=a7B f;obtain⟨K,o1,I,L,o2,r2,w,p,rfl,rfl,rfl⟩:=a2u h;rw[a6e]at p;refine a2G q v (.at bl (so+a.cells)) p f (fun j u=>?_) (fun c j g=>hb c j (by simp only[pA,mA];exact .inr g))
  have:=hc (a.cells+j) (by simp only[Ty.cells];omega)
  simpa[Src.rd,Nat.add_assoc]using this
 |.idx i::q,t,s,x,O,R,r,h,f,hc,hb=>by
  rcases a6n f with⟨n,k,bl,so,rfl,rfl,hi,f⟩|⟨k,a,n,c,rfl,b,hi,f⟩;simp[dec,a6e]at h;obtain⟨M,G,H,y,z,l,o,d,E,rfl,rfl⟩:=a0V n 0 i h hi;simp at d;show(if i<n then loc m' k (.at bl (so+i*k.cells)) q else none)=some r
  rw[if_pos hi];have S:i*k.cells+k.cells<=n*k.cells:=by rw[<-a04];exact a00 _ hi
  refine a2G q k _ d f (fun j u=>?_) (fun c j g=>hb c j (d6q g))
  have:=hc (i*k.cells+j) (by grind[Ty.cells])
  simp_all[Src.rd,Nat.add_assoc];have P:s.rd m' 0=some (.slice (some a) n c):=by simp_all[Ty.cells]
  have e:loc m' (.list true k) s (.idx i::q)=if i<n then loc m' k (.at a.block (a.off+i*k.cells)) q else none:=by
   simp_all[a0U]
  rw[e,if_pos hi];rcases a2a h with⟨hv,-⟩|⟨A,F,N,os,hv,Q,T,D,C⟩;simp_all;rw[hv]at b;simp at b;obtain⟨rfl,rfl,rfl⟩:=b;obtain⟨M,G,H,y,z,l,o,d,E,rfl,rfl⟩:=a0V F 0 i D hi;simp at d;rcases C with⟨B,-⟩|⟨-,rfl⟩;omega;exact a2G q k _ d f (fun j u=>hb A.block _ (by simp)) (fun c j g=>hb c j (by
   simp only[a16,mC];exact .inr (d6q g)))
theorem b2w{q:a0C}{t:Ty}{x O R e s'}(h:dec m t (s.rd m)=some (x,O,R))(k:loc m t s q=some (.list true e,s'))(f:∀j,j<t.cells->s.rd m' j=s.rd m j)(hb:∀c j,c∈O.map (·.1)->m' c j=m c j):s'.rd m' 0=s'.rd m 0:=by
 cases s' with
 |one v=>rfl
 |_=>
  rename_i b o;rcases a5B q t s h k with⟨so,rfl,g,a⟩|g
  have:=f (o-so) (by grind[Ty.cells])
  simp_all[Src.rd];exact hb b _ g
theorem b3N{m m':Mem}:∀(p q:a0C)(t:Ty)(s:Src){x O R t' b o y O' R' r},dec m t (s.rd m)=some (x,O,R)->loc m t s p=some (t',.at b o)->
  dec m t' ((Src.at b o).rd m)=some (y,O',R')->Sep s O R->Chg m m' s O R b o t'.cells O'->(∀rest,q=p++rest->rest=[]\/t'.shn=t')->
  loc m t s q=some r->loc m' t s q=some r/\∀e s',r=(.list true e,s')->(∀rest,q≠p++rest)->s'.rd m' 0=s'.rd m 0
 | [],q,t,s,x,O,R,t',b,o,y,O',R',r,h,u,hy,hs,f,hq,hr=>by
  simp[a0U]at u;obtain⟨rfl,rfl⟩:=u;refine⟨?_,fun _ _ _ E=>absurd rfl (E q)⟩;rcases hq q rfl with rfl|g;exact hr
  grind[b9J]
 |.fst::p,q,t,s,x,O,R,t',b,o,y,O',R',r,h,u,hy,hs,f,hq,hr=>by
  obtain⟨a,Q,bl,so,rfl,rfl,u⟩:=a7A u;obtain⟨x1,o1,r1,x2,o2,r2,h1,S,rfl,rfl,rfl⟩:=a2u h;have hw:=a5B p a _ h1 u;obtain⟨y1,Y,Z,A1,B1,V,X,D,-,w,e2⟩:=a1w p a _ h1 u;rw[hy]at D;simp at D;obtain⟨rfl,rfl,rfl⟩:=D;have l:∀c,c∈O'.map (·.1)->c∈o1.map (·.1):=fun c f=>by simp_all
  have T:=hs.nodup;rw[pA,a07]at T;have m1:∀c,c∈o1.map (·.1)->c∈(o1++o2).map (·.1):=fun c f=>by grind
  have m2:∀c,c∈o2.map (·.1)->c∈(o1++o2).map (·.1):=fun c f=>by grind
  cases q with
  |nil=>
   refine⟨hr,fun e s' w _=>?_⟩;simp[a0U]at hr
   grind
  |cons st q=>
   cases st with
   |fst=>
    have d:loc m a (.at bl so) q=some r:=hr;have k5:Sep (.at bl so) o1 r1:=⟨T.1,fun c f=>hs.src c (m1 c f),
     fun c f=>⟨fun h=>(hs.shared c (a03 _ f)).1 (m1 c h),(hs.shared c (a03 _ f)).2⟩⟩
    have P:=b3N p q a (.at bl so) h1 u hy k5 (fun c j=>by
     rcases f c j with h|h|h|⟨h,G,C⟩;exact .inl h
     all_goals grind)
     (fun rest e=>hq rest (by grind)) d
    exact⟨P.1,fun e s' w E=>P.2 e s' w (fun rest e2=>E rest (by grind))⟩
   |snd=>
    have d:loc m Q (.at bl (so+a.cells)) q=some r:=hr;rw[a6e]at S;have hp:=b5D f hs (bl:=bl) (so:=so+a.cells) (k:=Q.cells) (o1:=o1) (o2:=o2) (r2:=r2) (.inl (fun h=>h rfl))
     (fun c f=>⟨m1 c f,hs.src c (m1 c f)⟩) (fun c f=>⟨m2 c f,hs.src c (m2 c f)⟩) (fun c h G=>T.2.2 c h c G rfl)
     (fun c f=>a02 _ f) l (by
      grind)
    exact⟨a2G q Q _ S d hp.1 (fun c j f=>hp.2 c j (.inl f)),fun e s' w _=>b2w S (w▸d) hp.1 (fun c j f=>hp.2 c j (.inl f))⟩
   |idx i=>
    cases hr
 |.snd::p,q,t,s,x,O,R,t',b,o,y,O',R',r,h,u,hy,hs,f,hq,hr=>by
  obtain⟨a,Q,bl,so,rfl,rfl,u⟩:=a7B u;obtain⟨x1,o1,r1,x2,o2,r2,h1,S,rfl,rfl,rfl⟩:=a2u h;rw[a6e]at S;have hw:=a5B p Q _ S u;obtain⟨y1,Y,Z,A1,B1,V,X,D,-,w,e2⟩:=a1w p Q _ S u;rw[hy]at D;simp at D;obtain⟨rfl,rfl,rfl⟩:=D;have l:∀c,c∈O'.map (·.1)->c∈o2.map (·.1):=fun c f=>by simp_all
  have T:=hs.nodup;rw[pA,a07]at T;have m1:∀c,c∈o1.map (·.1)->c∈(o1++o2).map (·.1):=fun c f=>by grind
  have m2:∀c,c∈o2.map (·.1)->c∈(o1++o2).map (·.1):=fun c f=>by grind
  cases q with
  |nil=>
   refine⟨hr,fun e s' w _=>?_⟩;simp[a0U]at hr
   grind
  |cons st q=>
   cases st with
   |snd=>
    have d:loc m Q (.at bl (so+a.cells)) q=some r:=hr;have k6:Sep (.at bl (so+a.cells)) o2 r2:=⟨T.2.1,fun c f=>hs.src c (m2 c f),
     fun c f=>⟨fun h=>(hs.shared c (a02 _ f)).1 (m2 c h),(hs.shared c (a02 _ f)).2⟩⟩
    have P:=b3N p q Q (.at bl (so+a.cells)) S u hy k6 (fun c j=>by
     rcases f c j with h|h|h|⟨h,G,C⟩;exact .inl h;omega
     grind
     simp only[pA,mA]at h G;exact .inr (.inr (.inr ⟨fun g=>h (.inr g),fun g=>G (.inr g),C⟩)))
     (fun rest e=>hq rest (by grind)) d
    exact⟨P.1,fun e s' w E=>P.2 e s' w (fun rest e2=>E rest (by grind))⟩
   |fst=>
    have d:loc m a (.at bl so) q=some r:=hr;have hp:=b5D f hs (bl:=bl) (so:=so) (k:=a.cells) (o1:=o2) (o2:=o1) (r2:=r1) (.inl (fun h=>h rfl))
     (fun c f=>⟨m2 c f,hs.src c (m2 c f)⟩) (fun c f=>⟨m1 c f,hs.src c (m1 c f)⟩) (fun c h G=>T.2.2 c G c h rfl)
     (fun c f=>a03 _ f) l (by
      grind)
    exact⟨a2G q a _ h1 d hp.1 (fun c j f=>hp.2 c j (.inl f)),fun e s' w _=>b2w h1 (w▸d) hp.1 (fun c j f=>hp.2 c j (.inl f))⟩
   |idx i=>
    cases hr
 |.idx i::p,q,t,s,x,O,R,t',b,o,y,O',R',r,h,u,hy,hs,f,hq,hr=>by
  rcases a6n u with⟨n,t,bl,so,rfl,rfl,hi,u⟩|⟨t,a0,n0,c0,rfl,h7,hi,u⟩
  ·have h:a0j (fun i=>dec m t fun j=>(Src.at bl so).rd m (i*t.cells+j)) n 0=some (x,O,R):=h;have h0:a0j (fun i=>dec m t ((Src.at bl (so+i*t.cells)).rd m)) n 0=some (x,O,R):=by grind[a6e]
   have L:∀c,c∈O.map (·.1)->c≠bl:=fun c f=>hs.src c f;obtain⟨z,H,ri,A0,B0,g5,g7,K,hz,w,e2⟩:=a0V n 0 i h0 hi;simp at K;have A:∀c,c∈H.map (·.1)->c∈O.map (·.1):=fun c f=>by simp_all
   have F:∀c,c∈ri->c∈R:=fun c f=>by simp_all
   have hw:=a5B p t _ K u;obtain⟨y1,Y,Z,A1,B1,V,X,D,-,e3,e4⟩:=a1w p t _ K u;rw[hy]at D;simp at D;obtain⟨rfl,rfl,rfl⟩:=D;have l:∀c,c∈O'.map (·.1)->c∈H.map (·.1):=fun c f=>by simp_all
   cases q with
   |nil=>
    refine⟨hr,fun e s' w _=>?_⟩;simp_all[a0U]
   |cons st q=>
    rcases st with _|_|j;cases hr;cases hr;rcases a6n hr with⟨n',h8,k0,k7,e5,e6,hj,d⟩|⟨h8,a',n',M,e5,-⟩;simp at e5;obtain⟨rfl,rfl⟩:=e5;simp at e6;obtain⟨rfl,rfl⟩:=e6;have el:loc m' (.arr n t) (.at bl so) (.idx j::q)=loc m' t (.at bl (so+j*t.cells)) q:=by
     show(if j<n then loc m' t (.at bl (so+j*t.cells)) q else none)=_
     simp_all
    rw[el]
    by_cases hji:j=i
    subst hji;have h5:(H.map (·.1)).Nodup:=by
     have:=hs.nodup
     grind
    have h6:Sep (.at bl (so+j*t.cells)) H ri:=⟨h5,fun c f=>L c (A c f),fun c f=>⟨fun g=>(hs.shared c (F c f)).1 (A c g),(hs.shared c (F c f)).2⟩⟩;have P:=b3N p q t _ K u hy h6 (fun c k=>by
     rcases f c k with h|h|h|⟨h,G,C⟩;exact .inl h;omega;simp_all;exact .inr (.inr (.inr ⟨fun g=>h (A c g),fun g=>G (F c g),C⟩))) (fun rest e=>hq rest (by simp_all)) d
    simp_all;obtain⟨zj,oj,rj,Aj,Bj,g6,g9,B,-,ej,k1⟩:=a0V n 0 j h0 hj;simp at B;have I:=a9S n 0 h0 hs.nodup i j hi hj (Ne.symm hji) (by simpa using K) (by simpa using B);have N:∀c,c∈oj.map (·.1)->c∈O.map (·.1):=fun c g=>by grind
    have hp:=b5D f hs (bl:=bl) (so:=so+j*t.cells) (k:=t.cells) (o1:=H) (o2:=oj) (r2:=rj) (.inl (fun h=>h rfl))
     (fun c f=>⟨A c f,L c (A c f)⟩) (fun c f=>⟨N c f,L c (N c f)⟩) I
     (fun c g=>by grind) l (by
      rcases hw with⟨s1,g1,g2,g3⟩|g;simp at g1;obtain⟨rfl,rfl⟩:=g1;refine .inl ⟨rfl,fun k hk=>?_⟩;rcases a20 hji with g|g
      have:j*t.cells+t.cells<=i*t.cells:=by rw[<-a04];exact a00 _ g
      omega
      have:i*t.cells+t.cells<=j*t.cells:=by rw[<-a04];exact a00 _ g
      omega
      grind)
    exact⟨a2G q t _ B d hp.1 (fun c j f=>hp.2 c j (.inl f)),fun e s' w _=>b2w B (w▸d) hp.1 (fun c j f=>hp.2 c j (.inl f))⟩;simp_all
  ·rcases a2a h with⟨hv,-⟩|⟨a,n,c,os,hv,ha,T,h0,ho⟩;simp_all
   ·rw[hv]at h7;simp at h7;obtain⟨rfl,rfl,rfl⟩:=h7;rcases ho with⟨k3,-⟩|⟨k3,rfl⟩;omega
    ·have h9:=hs.nodup;simp only[a16,a19]at h9;obtain⟨h4,g0⟩:=h9;have h3:a.block∈(((a.block,a.off+c*t.cells)::os).map (·.1)):=by simp
     obtain⟨z,H,ri,A0,B0,g5,g7,K,hz,w,e2⟩:=a0V n 0 i h0 hi;simp at K;have U:∀c,c∈H.map (·.1)->c∈os.map (·.1):=fun c f=>by simp_all
     have A:∀M,M∈H.map (·.1)->M∈(((a.block,a.off+c*t.cells)::os).map (·.1)):=fun M f=>by
      simp_all
     have F:∀c,c∈ri->c∈R:=fun c f=>by simp_all
     have hw:=a5B p t _ K u;have k2:b∈(((a.block,a.off+c*t.cells)::os).map (·.1)):=by
      grind
     obtain⟨y1,Y,Z,A1,B1,V,X,D,-,e3,e4⟩:=a1w p t _ K u;rw[hy]at D;simp at D;obtain⟨rfl,rfl,rfl⟩:=D;have l:∀c,c∈O'.map (·.1)->c∈H.map (·.1):=fun c f=>by grind
     have k4:s.rd m' 0=some (.slice (some a) n c):=by
      rw[<-hv];cases s with
      |one v=>rfl
      |_=>
       rename_i sb so;show m' sb (so+0)=m sb (so+0);rcases f sb (so+0)with h|⟨hb,ho,k8⟩|h|⟨h,G,C⟩;omega;exact absurd rfl (hb▸hs.src b k2);exact absurd rfl (hs.src sb (A _ (l _ h)));exact absurd rfl C
     cases q with
     |nil=>
      refine⟨hr,fun e s' w _=>?_⟩;simp[a0U]at hr
      grind
     |cons st q=>
      rcases st with _|_|j;cases hr;cases hr;rcases a6n hr with⟨n',h8,k0,k7,e5,e6,hj,d⟩|⟨h8,a',n',M,e5,e6,hj,d⟩
      grind
      simp at e5;subst e5;rw[hv]at e6;simp at e6;obtain⟨rfl,rfl,rfl⟩:=e6;have e:loc m' (.list true t) s (.idx j::q)=if j<n then loc m' t (.at a.block (a.off+j*t.cells)) q else none:=by
       simp only[loc,a0U,k4]
      rw[e,if_pos hj];clear e
      by_cases hji:j=i
      subst hji;have h5:(H.map (·.1)).Nodup:=by
       grind
      have h6:Sep (.at a.block (a.off+j*t.cells)) H ri:=⟨h5,fun c f (e:c=a.block)=>h4 (e▸U c f),
       fun c f=>⟨fun g=>(hs.shared c (F c f)).1 (A c g),fun(e:c=a.block)=>(hs.shared c (F c f)).1 (e▸h3)⟩⟩
      have P:=b3N p q t _ K u hy h6 (fun c k=>by
       rcases f c k with h|h|h|⟨h,G,C⟩;exact .inl h;omega
       grind
       exact .inr (.inr (.inr ⟨fun g=>h (A c g),fun g=>G (F c g),fun(e:c=a.block)=>h (e▸h3)⟩))) (fun rest e=>hq rest (by grind)) d
      exact⟨P.1,fun e s' w E=>P.2 e s' w (fun rest e2=>E rest (by grind))⟩;obtain⟨zj,oj,rj,Aj,Bj,g6,g9,B,-,ej,k1⟩:=a0V n 0 j h0 hj;simp at B;have I:=a9S n 0 h0 g0 i j hi hj (Ne.symm hji) (by simpa using K) (by simpa using B);have g4:∀c,c∈oj.map (·.1)->c∈os.map (·.1):=fun c g=>by grind
      have N:∀M,M∈oj.map (·.1)->M∈(((a.block,a.off+c*t.cells)::os).map (·.1)):=fun M g=>by
       grind
      have hp:=b5D f hs (bl:=a.block) (so:=a.off+j*t.cells) (k:=t.cells) (o1:=H) (o2:=oj) (r2:=rj) (.inr h3)
       (fun c f=>⟨A c f,fun e=>h4 (e▸U c f)⟩) (fun c f=>⟨N c f,fun e=>h4 (e▸g4 c f)⟩) I
       (fun c g=>by grind) l (by
        rcases hw with⟨s1,g1,g2,g3⟩|g;simp at g1;obtain⟨rfl,rfl⟩:=g1;refine .inl ⟨rfl,fun k hk=>?_⟩;rcases a20 hji with g|g
        have:j*t.cells+t.cells<=i*t.cells:=by rw[<-a04];exact a00 _ g
        omega
        have:i*t.cells+t.cells<=j*t.cells:=by rw[<-a04];exact a00 _ g
        omega
        grind)
      exact⟨a2G q t _ B d hp.1 (fun c j f=>hp.2 c j (.inl f)),fun e s' w _=>b2w B (w▸d) hp.1 (fun c j f=>hp.2 c j (.inl f))⟩
def a0a(w:World)(ov:Option (Nat×Nat×Value)):Mem:=fun b o=>
 match ov with
 |some (b',o',v)=>if b=b'/\o=o' then some v else w.cell? ⟨b,o,none⟩
 |none=>w.cell? ⟨b,o,none⟩
structure Gh where
 g:Nat->Src
 ow:Nat->a1k
 ov:Option (Nat×Nat×Value)
structure Base where
 size:Nat
 hp:Nat->Option Obj
 F:Nat->Prop
 S:Nat->Prop

 pin:Nat->Option Src:=fun _=>none

 io:Os×Array (Nat×ByteArray):=(default,#[])
def a2n(w:World):Os×Array (Nat×ByteArray):=(w.os,w.output)
def a0P(M:Gh)(c:Nat):Prop:=∃n,c∈(M.ow n).map (·.1)
def Shr(B:Base)(w:World)(M:Gh)(c:Nat):Prop:=c<w.heap.size/\(B.S c\/B.F c\/B.size<=c)/\¬ a0P M c
def a0Q(w:World)(b k:Nat):Prop:=∃c e lo hi,w.heap[b]?=some (.cells c e (lo,hi))/\k<=c.size/\(hi=lo\/k<=lo)
def a1A:Value->Bool
 |.agg _|.tuple _=>false
 |_=>true
def VOk(m:Mem)(Sh:Nat->Prop)(t:Ty)(x:t.den)(v:Value):Prop:=
 (t.isAgg=true->∃cs,v=.agg cs/\cs.size=t.cells)/\(t.isAgg=false->a1A v=true)/\
 ∃R,dec m t (fun j=>v.cells[j]?)=some (x,[],R)/\∀c∈R,Sh c
def a0l(m:Mem)(g:Nat->Src)(rt:Nat->Option Root)(Sh:Nat->Prop):AV->Value->Prop
 |.dead,_=>True
 |.skp,v=>v=undef
 |.val t x,v=>VOk m Sh t x v
 |.nils,v=>v=.slice none 0 0
 |.empt,v=>∃a:Option Addr,v=.slice a 0 0
 |.nilp,v=>v=.pointer none
 |.ptr n p,v=>∃r t b o,rt n=some r/\loc m r.t (g n) p=some (t,.at b o)/\v=.pointer (some ⟨b,o,none⟩)
 |.glob g,v=>v=.pointer (some ⟨g,0,none⟩)
 |.vptr t x,v=>∃b o R,v=.pointer (some ⟨b,o,none⟩)/\dec m t ((Src.at b o).rd m)=some (x,[],R)/\Sh b/\∀c∈R,Sh c
 |.sref n p,v=>∃r e s,rt n=some r/\loc m r.t (g n) p=some (.list true e,s)/\s.rd m 0=some v
 |.swin n p off len,v=>∃r e s a l c,rt n=some r/\loc m r.t (g n) p=some (.list true e,s)/\s.rd m 0=some (.slice a l c)/\off+len<=l/\
   ∃a',v=.slice a' len (c-off)/\(∀A,a'=some A->c=off\/A.spot=none)/\(c=off\/a'=a.map fun A=>A.add (off*e.cells))
def Cmp.ok:Cmp->Array Value->Nat->Value->Prop
 |.tup,us,_,v=>v=.tuple us
 |.agg,us,n,v=>us.size=n/\v=.agg us/\∀(k:Nat) u,us[k]?=some u->a1A u=true
 |.clo f,us,n,v=>us.size=n/\v=.func (.func f) #[] us
def b2e(m:Mem)(g:Nat->Src)(rt:Nat->Option Root)(Sh:Nat->Prop):SV->Value->Prop
 |.one a,v=>a0l m g rt Sh a v
 |.cmp c as,v=>∃vs:Array Value,c.ok vs as.length v/\∀(k:Nat) a,as[k]?=some a->∃u,vs[k]?=some u/\a0l m g rt Sh a u
structure RootOk (m:Mem) (Sh:Nat->Prop) (r:Root) (s:Src) (O:a1k):Prop where
 rd:∃O' R,dec m r.t (s.rd m)=some (r.x,O',R)/\(∀c∈R,Sh c)/\
  ((r.bx=true/\∃b,s=.at b 0/\O=(b,r.t.cells)::O')\/(r.bx=false/\(∃v,s=.one v)/\(∃e,r.t=.list true e)/\O=O'))
def b1j(m:Mem)(g:Nat->Src)(rt:Nat->Option Root):Option (Nat×a0C×Nat)->Option (Nat×Nat×Value)->Prop
 |none,none=>True
 |some (n,p,_),some (b,o,_)=>∃r e,rt n=some r/\loc m r.t (g n) p=some (.list true e,.at b o)
 |_,_=>False
theorem b1j.mono{rt:Nat->Option Root}:∀{pd ov},b1j m g rt pd ov->
  (∀n p d r e b o,pd=some (n,p,d)->rt n=some r->loc m r.t (g n) p=some (.list true e,.at b o)->∃f,rt' n=some f/\loc m' f.t (g' n) p=some (.list true e,.at b o))->
  b1j m' g' rt' pd ov
 |none,none,_,_=>trivial
 |some (n,p,d),some (b,o,v),⟨r,e,h1,h2⟩,hf=>by
  obtain⟨f,k,a⟩:=hf n p d r e b o rfl h1 h2;exact⟨f,e,k,a⟩
 |none,some _,h,_=>h.elim
 |some _,none,h,_=>h.elim
structure Rel (B:Base) (U:AE) (N:Nat) (tm:Nat->Value) (w:World) (M:Gh):Prop where
 roots:∀n r,U.rt n=some r->RootOk (a0a w M.ov) (Shr B w M) r (M.g n) (M.ow n)
 norm:∀n,U.rt n=none->M.ow n=[]
 nodup:∀n,((M.ow n).map (·.1)).Nodup
 disj:∀n n',n≠n'->∀c,c∈(M.ow n).map (·.1)->c∉(M.ow n').map (·.1)
 live:∀n p,p∈M.ow n->a0Q w p.1 p.2
 slots:∀i,i<N->b2e (a0a w M.ov) M.g U.rt (Shr B w M) (U.sl i) (tm i)
 pend:b1j (a0a w M.ov) M.g U.rt U.pd M.ov
 size:B.size<=w.heap.size
 frame:∀b,b<B.size->¬ B.F b->w.heap[b]?=B.hp b
 mine:∀c,a0P M c->B.F c\/B.size<=c
 pins:∀i b,B.pin i=some b->U.rt (pinned+i)≠none->M.g (pinned+i)=b
 still:a2n w=B.io
theorem a0Q.lt(h:a0Q w b k):b<w.heap.size:=by
 obtain⟨c,e,lo,hi,h,-⟩:=h
 grind
theorem a0Q.mono{k':Nat}(h:a0Q w b k)(g:k'<=k):a0Q w b k':=by
 obtain⟨c,e,lo,hi,h,f,a⟩:=h;exact⟨c,e,lo,hi,h,a05 g f,a.imp id (a05 g)⟩
theorem Rel.lt{B U N tm w M}(h:Rel B U N tm w M)(g:a0P M c):c<w.heap.size:=by
 obtain⟨n,f⟩:=g;obtain⟨p,hp,rfl⟩:=List.mem_map.1 f;exact(h.live n p hp).lt
theorem VOk.frame{t x v}(h:VOk m Sh t x v)(i:∀c j,Sh c->m' c j=m c j)(e:∀c,Sh c->Sh' c):VOk m' Sh' t x v:=by
 obtain⟨g,f,R,k,a⟩:=h;refine⟨g,f,R,a0y t k (fun _ _=>rfl) (fun b j hb=>?_),fun c d=>e c (a c d)⟩;simp_all
theorem a0l.frame{rt:Nat->Option Root}{a:AV}(h:a0l m g rt Sh a v)(C:∀c j,Sh c->m' c j=m c j)(A:∀c,Sh c->Sh' c)(z:∀n p r t s,(a=.ptr n p\/a=.sref n p\/∃o l,a=.swin n p o l)->rt n=some r->loc m r.t (g n) p=some (t,s)->
   ∃k,rt' n=some k/\loc m' k.t (g' n) p=some (t,s)/\(∀u,a≠.ptr n p->s.rd m 0=some u->s.rd m' 0=some u)):a0l m' g' rt' Sh' a v:=by
 cases a with
 |dead=>trivial
 |val t x=>exact VOk.frame h C A
 |skp=>exact h
 |nils=>exact h
 |empt=>exact h
 |nilp=>exact h
 |glob g=>exact h
 |ptr n p=>
  obtain⟨r,t,b,o,d,i,f⟩:=h;obtain⟨k,q,w,-⟩:=z n p r t _ (.inl rfl) d i;exact⟨k,t,b,o,q,w,f⟩
 |vptr t x=>
  obtain⟨b,o,R,d,i,f,q⟩:=h;refine⟨b,o,R,d,a0y t i (fun j _=>C b _ f) (fun c j B=>?_),A b f,fun c B=>A c (q c B)⟩;simp_all
 |sref n p=>
  obtain⟨r,e,s,d,i,f⟩:=h;obtain⟨k,q,w,y⟩:=z n p r _ _ (.inr (.inl rfl)) d i;exact⟨k,e,s,q,w,y v (by simp) f⟩
 |swin n p o l=>
  obtain⟨r,e,s,a,l',c,d,i,f,q,w⟩:=h;obtain⟨k,y,D,E⟩:=z n p r _ _ (.inr (.inr ⟨_,_,rfl⟩)) d i;exact⟨k,e,s,a,l',c,y,D,E _ (by simp) f,q,w⟩
theorem b2e.frame{rt:Nat->Option Root}{a:SV}(h:b2e m g rt Sh a v)(b:∀a v,a0l m g rt Sh a v->a0l m' g' rt' Sh' a v):b2e m' g' rt' Sh' a v:=by
 cases a with
 |one a=>exact b a v h
 |cmp c as=>
  obtain⟨d,f,e⟩:=h;refine⟨d,f,fun k a i=>?_⟩
  grind
theorem b2e.mapv{m m':Mem}{g g':Nat->Src}{rt rt':Nat->Option Root}{Sh Sh':Nat->Prop}{f:AV->AV}{a:SV}{v:Value}(h:b2e m g rt Sh a v)
  (b:∀a v,a0l m g rt Sh a v->a0l m' g' rt' Sh' (f a) v):b2e m' g' rt' Sh' (a.mapv f) v:=by
 cases a with
 |one a=>exact b a v h
 |cmp c as=>
  obtain⟨d,e,i⟩:=h;refine⟨d,by simp_all,fun k a j=>?_⟩
  grind
theorem RootOk.sep{B:Base}{M:Gh}{r s O}(h:RootOk m (Shr B w M) r s O)(a:(O.map (·.1)).Nodup)(d:∀c∈O.map (·.1),a0P M c):
  ∃g R,dec m r.t (s.rd m)=some (r.x,g,R)/\(∀c∈R,Shr B w M c)/\Sep s g R/\(∀c∈g.map (·.1),c∈O.map (·.1))/\(∀b o,s=.at b o->b∈O.map (·.1))/\
   ((r.bx=true/\∃b,s=.at b 0/\O=(b,r.t.cells)::g)\/(r.bx=false/\(∃v,s=.one v)/\(∃e,r.t=.list true e)/\O=g)):=by
 obtain⟨g,R,j,k,i⟩:=h.rd;refine⟨g,R,j,k,?_,?_,?_,i⟩;rcases i with⟨-,b,rfl,rfl⟩|⟨-,⟨v,rfl⟩,-,rfl⟩;simp only[a16,a19]at a;refine⟨a.2,fun c f e=>a.1 (e▸f),fun c f=>⟨fun h=>(k c f).2.2 (d c (by simp_all)),fun e=>(k c f).2.2 (d c (by grind))⟩⟩;exact⟨a,fun c _=>trivial,fun c f=>⟨fun h=>(k c f).2.2 (d c h),trivial⟩⟩
 all_goals grind
theorem Rel.sep{B U N tm w M}(h:Rel B U N tm w M){n r}(k:U.rt n=some r):
  ∃O' R,dec (a0a w M.ov) r.t ((M.g n).rd (a0a w M.ov))=some (r.x,O',R)/\(∀c∈R,Shr B w M c)/\Sep (M.g n) O' R/\(∀c∈O'.map (·.1),c∈(M.ow n).map (·.1))/\
   (∀b o,M.g n=.at b o->b∈(M.ow n).map (·.1))/\
   ((r.bx=true/\∃b,M.g n=.at b 0/\M.ow n=(b,r.t.cells)::O')\/(r.bx=false/\(∃v,M.g n=.one v)/\(∃e,r.t=.list true e)/\M.ow n=O')):=
 (h.roots n r k).sep (h.nodup n) (fun _ f=>⟨n,f⟩)
theorem Rel.place{B U N tm w M}(h:Rel B U N tm w M){n r p t b o}(f:U.rt n=some r)(j:loc (a0a w M.ov) r.t (M.g n) p=some (t,.at b o)):b∈(M.ow n).map (·.1):=by
 obtain⟨k,R,a,c,d,e,i,-⟩:=h.sep f
 grind[a5B]
theorem Rel.mem{B U N tm w M}(h:Rel B U N tm w M)(m:∀c j,a0P M c\/Shr B w M c->a0a w' M.ov c j=a0a w M.ov c j)(O:∀n p,p∈M.ow n->a0Q w' p.1 p.2)(y:w.heap.size<=w'.heap.size)(K:∀b,b<B.size->¬ B.F b->w'.heap[b]?=B.hp b)(hio:a2n w'=a2n w:=by first|rfl|assumption):Rel B U N tm w' M:=by
 have x:∀c,Shr B w M c->Shr B w' M c:=fun c ⟨q,z,A⟩=>⟨a06 q y,z,A⟩;have k:∀n p r t s,U.rt n=some r->loc (a0a w M.ov) r.t (M.g n) p=some (t,s)->loc (a0a w' M.ov) r.t (M.g n) p=some (t,s)/\∀u,s.rd (a0a w M.ov) 0=some u->s.rd (a0a w' M.ov) 0=some u:=by
  intro n p r t s l hp;obtain⟨E,R,q,z,A,C,D,-⟩:=h.sep l;refine⟨a2G p r.t _ q hp (fun j L=>?_) (fun c j f=>m c j (.inl ⟨n,C c f⟩)),fun u G=>?_⟩
  ·cases e:M.g n with
   |one v=>rfl
   |_=>rename_i b o;exact m b _ (.inl ⟨n,D b o e⟩)
  ·cases s with
   |one v=>exact G
   |_=>
    rename_i b o
    have:=h.place l hp
    rw[<-G];exact m b _ (.inl ⟨n,this⟩)
 refine⟨fun n r l=>?_,h.norm,h.nodup,h.disj,O,fun i hi=>?_,?_,a05 h.size y,K,h.mine,h.pins,hio.trans h.still⟩
 ·obtain⟨E,R,q,z,A,C,D,H⟩:=h.sep l;refine⟨E,R,a0y r.t q (fun j L=>?_) (fun c j f=>?_),fun c f=>x c (z c f),H⟩
  ·cases e:M.g n with
   |one v=>rfl
   |_=>rename_i b o;exact m b _ (.inl ⟨n,D b o e⟩)
  rcases f with f|f;exact m c j (.inl ⟨n,C c f⟩);simp_all
 refine(h.slots i hi).frame fun a v I=>I.frame (fun c j f=>m c j (.inr f)) x fun n p r t s _ l hp=>?_
 grind
 exact h.pend.mono fun n p d r e b o _ l hp=>⟨r,l,(k n p r _ _ l hp).1⟩
theorem Rel.put{B U N tm w M}(h:Rel B U N tm w M){d:Nat}{a:SV}{v:Value}{tm':Nat->Value}(f:d<N->b2e (a0a w M.ov) M.g U.rt (Shr B w M) a v)
  (k:∀i,i<N->tm' i=if i=d then v else tm i):Rel B (U.put d a) N tm' w M:=by
 refine⟨h.roots,h.norm,h.nodup,h.disj,h.live,fun i hi=>?_,h.pend,h.size,h.frame,h.mine,h.pins,h.still⟩;rw[k i hi];show b2e _ _ _ _ (bif i==d then a else U.sl i) _
 by_cases e:i=d
 subst e;rw[if_pos rfl,show(i==i)=true from by simp];exact f hi;rw[if_neg e,show(i==d)=false from by simp_all];exact h.slots i hi
theorem Rel.tmps{B U N tm w M}(h:Rel B U N tm w M){tm':Nat->Value}(g:∀i,i<N->tm' i=tm i):Rel B U N tm' w M:=
 ⟨h.roots,h.norm,h.nodup,h.disj,h.live,fun i hi=>by rw[g i hi];exact h.slots i hi,h.pend,h.size,h.frame,h.mine,h.pins,h.still⟩
theorem Rel.weak{B U N tm w M}(h:Rel B U N tm w M){sl:Nat->SV}(f:∀i,i<N->∀v,b2e (a0a w M.ov) M.g U.rt (Shr B w M) (U.sl i) v->b2e (a0a w M.ov) M.g U.rt (Shr B w M) (sl i) v):
  Rel B { U with sl:=sl } N tm w M:=
 ⟨h.roots,h.norm,h.nodup,h.disj,h.live,fun i hi=>f i hi _ (h.slots i hi),h.pend,h.size,h.frame,h.mine,h.pins,h.still⟩
theorem a1y{w w':World}{c:Nat}(g:Option (Nat×Nat×Value))(h:w'.heap[c]?=w.heap[c]?)(j:Nat):a0a w' g c j=a0a w g c j:=by
 simp_all[a0a,World.cell?]
theorem a3M{m:Mem}:∀(p q:a0C)(t:Ty)(s:Src){t' s'},loc m t s p=some (t',s')->loc m t s (p++q)=loc m t' s' q
 | [],q,t,s,t',s',h=>by
  simp[a0U]at h;simp_all
 |.fst::p,q,t,s,t',s',h=>by
  obtain⟨a,b,bl,o,rfl,rfl,h⟩:=a7A h;exact a3M p q a _ h
 |.snd::p,q,t,s,t',s',h=>by
  obtain⟨a,b,bl,o,rfl,rfl,h⟩:=a7B h;exact a3M p q b _ h
 |.idx i::p,q,t,s,t',s',h=>by
  rcases a6n h with⟨n,g,bl,o,rfl,rfl,hi,h⟩|⟨g,a,n,c,rfl,hv,hi,h⟩
  have:=a3M p q g _ h
  show(if i<n then loc m g (.at bl (o+i*g.cells)) (p++q)else none)=_
  simp_all
  have:=a3M p q g _ h
  simp_all[a0U]
theorem a9T{m:Mem}:∀(q:a0C)(t:Ty)(s:Src){t' s'},t.shn=t->loc m t s q=some (t',s')->t'.shn=t'
 | [],t,s,t',s',h,g=>by
  simp[a0U]at g;obtain⟨rfl,rfl⟩:=g;exact h
 |.fst::p,t,s,t',s',h,g=>by
  obtain⟨a,b,bl,o,rfl,rfl,g⟩:=a7A g;simp only[Ty.shn,Ty.pair.injEq]at h;exact a9T p a _ h.1 g
 |.snd::p,t,s,t',s',h,g=>by
  obtain⟨a,b,bl,o,rfl,rfl,g⟩:=a7B g;simp only[Ty.shn,Ty.pair.injEq]at h;exact a9T p b _ h.2 g
 |.idx i::p,t,s,t',s',h,g=>by
  rcases a6n g with⟨n,f,bl,o,rfl,rfl,hi,g⟩|⟨f,a,n,c,rfl,hv,hi,g⟩;simp only[Ty.shn,Ty.arr.injEq]at h;exact a9T p f _ (Ty.shn_of_sh f h.2) g;simp[Ty.shn]at h
def d1W(n:Nat)(p:a0C)(t:Ty):AV->Prop
 |.ptr m q=>m=n->∀rest,q=p++rest->rest=[]\/t.shn=t
 |.sref m q|.swin m q _ _=>m=n->∀rest,q=p++rest->t.shn=t
 |_=>True
theorem b6h(p q:a0C):a3H p (p++q)=true:=by
 induction p with
 |nil=>rfl
 |cons s p ih=>cases s<;>simpa[a3H]using ih
theorem b9K(n:Nat)(p:a0C)(t:Ty)(a:AV):a.kill n p=.dead\/(a.kill n p=a/\d1W n p t a):=by
 cases a<;>try exact .inr ⟨rfl,trivial⟩
 rename_i m q
 by_cases h:(m==n&&a3H p q&&decide (p.length<q.length))=true
 simp_all[AV.kill];refine .inr ⟨by simp_all[AV.kill],fun e rest hq=>?_⟩;simp_all[b6h];rename_i m q
 by_cases h:(m==n&&a3H p q)=true
 simp_all[AV.kill];refine .inr ⟨by simp_all[AV.kill],fun e rest hq=>?_⟩;simp_all[b6h];rename_i m q o l
 by_cases h:(m==n&&a3H p q)=true
 simp_all[AV.kill];refine .inr ⟨by simp_all[AV.kill],fun e rest hq=>?_⟩;simp_all[b6h]
theorem d7d(n:Nat)(p:a0C){t:Ty}(h:t.shn=t)(a:AV):d1W n p t a:=by
 cases a<;>first|trivial|exact fun _ _ _=>h|exact fun _ _ _=>.inr h
inductive Pend (U:AE) (M:Gh) (n:Nat) (p:a0C) (t:Ty) (b o:Nat):Option (Nat×a0C×Nat)->Option (Nat×Nat×Value)->Prop
 |same (h:∀p d,U.pd≠some (n,p,d)):Pend U M n p t b o U.pd M.ov
 |new (d:Nat) (v:Value) (e:Ty) (h:U.pd=none) (ht:t=.list true e):Pend U M n p t b o (some (n,p,d)) (some (b,o,v))
theorem Rel.chg{B U N tm w M}(h:Rel B U N tm w M){n r p t b o y O1 R1}(hr:U.rt n=some r)(hl:loc (a0a w M.ov) r.t (M.g n) p=some (t,.at b o))(hy:dec (a0a w M.ov) t ((Src.at b o).rd (a0a w M.ov))=some (y,O1,R1)){ov':Option (Nat×Nat×Value)}{pd':Option (Nat×a0C×Nat)}{y' O2 R2}(hpd:Pend U M n p t b o pd' ov')(hy':dec (a0a w' ov') t ((Src.at b o).rd (a0a w' ov'))=some (y',O2,R2))(hchg:∀c j,a0a w' ov' c j=a0a w M.ov c j\/(c=b/\o<=j/\j<o+t.cells)\/c∈O1.map (·.1)\/w.heap.size<=c)(hO2:∀c∈O2.map (·.1),c∈O1.map (·.1)\/w.heap.size<=c)(hn2:(O2.map (·.1)).Nodup)(hlive:∀p∈O2,a0Q w' p.1 p.2)(hfree:∀c k,a0Q w c k->a0P M c->a0Q w' c k)(hsz:w.heap.size<=w'.heap.size)(hfr:∀b,b<B.size->¬ B.F b->w'.heap[b]?=B.hp b)(hR2:∀c∈R2,c<w'.heap.size/\(B.S c\/B.F c\/B.size<=c)/\¬ a0P M c/\c∉O2.map (·.1)){f:AV->AV}(hf:∀a,f a=.dead\/(f a=a/\d1W n p t a))(hio:a2n w'=a2n w:=by first|rfl|assumption):
  ∃ow',(∀m,m≠n->ow' m=M.ow m)/\Rel B { (U.mapv f).setRt n (some ⟨r.bx,r.t,a1T r.t r.x p t y'⟩)with pd:=pd' } N tm w' ⟨M.g,ow',ov'⟩:=by
 obtain⟨O',R,h1,h2,h3,h4,h5,h6⟩:=h.sep hr;obtain⟨y1,O1',R1',A1,B1,A1',B1',hd,hg,e1,e2⟩:=a1w p r.t _ h1 hl;rw[hy]at hd;simp at hd;obtain⟨rfl,rfl,rfl⟩:=hd;have hO1:∀c,c∈O1.map (·.1)->c∈(M.ow n).map (·.1):=fun c hc=>h4 c (by simp_all);have hb:b∈(M.ow n).map (·.1):=h.place hr hl;have hc1:Chg (a0a w M.ov) (a0a w' ov') (M.g n) O' R b o t.cells O1:=fun c j=>by
  rcases hchg c j with g|g|g|g
  grind
  omega
  grind
  ·refine .inr (.inr (.inr ⟨fun g'=>?_,fun g'=>?_,?_⟩));exact absurd (h.lt ⟨n,h4 c g'⟩) (by omega);exact absurd (h2 c g').1 (by omega)
   ·cases e:M.g n with
    |one v=>trivial
    |_=>
     rename_i b' o'
     rintro rfl
     exact absurd (h.lt ⟨n,h5 _ _ e⟩) (by omega)
 obtain⟨A,B',R',e3,h7,h8⟩:=c5l p r.t (M.g n) h1 hl hy hy' h3 hc1

 have hother:∀c j,c∉(M.ow n).map (·.1)->c<w.heap.size->a0a w' ov' c j=a0a w M.ov c j:=fun c j hc hlt=>by
  grind
 have hoth:∀m,m≠n->∀c j,c∈(M.ow m).map (·.1)->a0a w' ov' c j=a0a w M.ov c j:=fun m hm c j hc=>
  hother c j (h.disj m n hm c hc) (h.lt ⟨m,hc⟩)
 have hshm:∀c j,Shr B w M c->a0a w' ov' c j=a0a w M.ov c j:=fun c j hc=>hother c j (fun g=>hc.2.2 ⟨n,g⟩) hc.1

 let on:a1k:=match r.bx with|true=>(match M.g n with|.at b0 _=>[(b0,r.t.cells)]|_=>[])++(A++(O2++B'))|false=>A++(O2++B')
 let ow':Nat->a1k:=fun m=>if m=n then on else M.ow m
 have hon:ow' n=on:=by grind
 have hom:∀m,m≠n->ow' m=M.ow m:=fun m hm=>by grind
 have hon1:∀c,c∈on.map (·.1)->c∈(M.ow n).map (·.1)\/c∈O2.map (·.1):=by
  intro c hc;have key:c∈(A++(O2++B')).map (·.1)->c∈(M.ow n).map (·.1)\/c∈O2.map (·.1):=by
   grind
  rcases h6 with⟨hbx,b0,hs,ho⟩|⟨hbx,-,-,ho⟩
  grind
  grind
 have hOwned:∀c,(∃m,c∈(ow' m).map (·.1))->a0P M c\/c∈O2.map (·.1):=by
  rintro c ⟨m,hm⟩
  by_cases e:m=n
  subst e;rw[hon]at hm;rcases hon1 c hm with g|g;exact .inl ⟨m,g⟩
  grind
  rw[hom m e]at hm;exact .inl ⟨m,hm⟩
 have hO2σ:∀c,c∈O2.map (·.1)->a0P M c\/w.heap.size<=c:=fun c hc=>by
  rcases hO2 c hc with g|g;exact .inl ⟨n,hO1 c g⟩;omega
 have hsh:∀c,Shr B w M c->Shr B w' ⟨M.g,ow',ov'⟩ c:=fun c ⟨g1,g2,g3⟩=>⟨a06 g1 hsz,g2,fun g4=>by
  rcases hOwned c g4 with g|g
  all_goals grind⟩
 have hshR2:∀c∈R2,Shr B w' ⟨M.g,ow',ov'⟩ c:=fun c hc=>by
  obtain⟨g1,g2,g3,g4⟩:=hR2 c hc;refine⟨g1,g2,fun g5=>?_⟩;rcases hOwned c g5 with g|g
  all_goals grind

 have hplace:∀m q rm tq s,U.rt m=some rm->loc (a0a w M.ov) rm.t (M.g m) q=some (tq,s)->(m=n->∀rest,q=p++rest->rest=[]\/t.shn=t)->
   loc (a0a w' ov') rm.t (M.g m) q=some (tq,s)/\∀e,tq=.list true e->(m=n->∀rest,q=p++rest->t.shn=t)->s.rd (a0a w' ov') 0=s.rd (a0a w M.ov) 0:=by
  intro m q rm tq s hrm hlq hq
  by_cases e:m=n
  subst e;rw[hr]at hrm;simp at hrm;subst hrm
  have:=b3N p q r.t (M.g m) h1 hl hy h3 hc1 (hq rfl) hlq
  refine⟨this.1,fun e ht hne=>this.2 e s (by grind) (fun rest he=>?_)⟩;have hp:=hne rfl rest he;subst he;rw[a3M p rest r.t _ hl]at hlq
  have:=a9T rest t _ hp hlq
  grind[Ty.shn]
  ·obtain⟨Om,Rm,g1,g2,g3,g4,g5,-⟩:=h.sep hrm;have hcell:∀j,j<rm.t.cells->(M.g m).rd (a0a w' ov') j=(M.g m).rd (a0a w M.ov) j:=fun j _=>by
    cases es:M.g m with
    |one v=>rfl
    |_=>rename_i b' o';exact hoth m e b' _ (g5 _ _ es)
   refine⟨a2G q rm.t _ g1 hlq hcell (fun c j hc=>hoth m e c j (g4 c hc)),fun e' ht _=>?_⟩;rw[ht]at hlq;exact b2w g1 hlq hcell (fun c j hc=>hoth m e c j (g4 c hc))
 have hkeep:∀a v,a0l (a0a w M.ov) M.g U.rt (Shr B w M) a v->a0l (a0a w' ov') M.g (fun j=>bif j==n then some ⟨r.bx,r.t,a1T r.t r.x p t y'⟩else U.rt j) (Shr B w' ⟨M.g,ow',ov'⟩) (f a) v:=by
  intro a v ha;rcases hf a with g|⟨g,hk⟩;rw[g];trivial;rw[g];refine ha.frame hshm hsh fun m q rm tq s hcase hrm hlq=>?_
  have hq:m=n->∀rest,q=p++rest->rest=[]\/t.shn=t:=by
   intro e rest he;rcases hcase with rfl|rfl|⟨o',l',rfl⟩;exact hk e rest he;exact .inr (hk e rest he);exact .inr (hk e rest he)
  have hp:=hplace m q rm tq s hrm hlq hq;refine⟨if m=n then⟨r.bx,r.t,a1T r.t r.x p t y'⟩else rm,?_,?_,?_⟩
  grind
  grind
  intro u hne hu;rcases hcase with rfl|rfl|⟨o',l',rfl⟩
  grind
  obtain⟨r0,e0,s0,k1,k2,k3⟩:=ha;rw[hrm]at k1;simp at k1;subst k1;rw[hlq]at k2;simp at k2;rw[hp.2 e0 k2.1 (fun e rest he=>hk e rest he)];omega;obtain⟨r0,e0,s0,a0,l0,c0,k1,k2,k3⟩:=ha;rw[hrm]at k1;simp at k1;subst k1;rw[hlq]at k2;simp at k2;rw[hp.2 e0 k2.1 (fun e rest he=>hk e rest he)];omega
 have hpins:∀i b,B.pin i=some b->(((U.mapv f).setRt n (some ⟨r.bx,r.t,a1T r.t r.x p t y'⟩)).rt (pinned+i))≠none->M.g (pinned+i)=b:=fun i b hb hne=>by
  refine h.pins i b hb fun e=>hne ?_
  by_cases e':pinned+i=n
  grind
  have e'':(pinned+i==n)=false:=by grind
  simpa[AE.setRt,e'',AE.mapv]using e
 refine⟨ow',hom,?_,?_,?_,?_,?_,?_,?_,a05 h.size hsz,hfr,?_,hpins,hio.trans h.still⟩
 ·intro m rm hrm
  by_cases e:m=n
  subst e;simp[AE.setRt]at hrm;subst hrm;refine⟨_,R',h7,fun c hc=>?_,?_⟩
  grind
  rcases h6 with⟨hbx,b0,hs,ho⟩|⟨hbx,hs,ht,ho⟩
  grind
  grind
  ·have hrm':U.rt m=some rm:=by
    have e':(m==n)=false:=by grind
    simpa[AE.setRt,e',AE.mapv]using hrm
   obtain⟨Om,Rm,g1,g2,g3,g4,g5,g6⟩:=h.sep hrm';refine⟨Om,Rm,a0y rm.t g1 (fun j _=>?_) (fun c j hc=>?_),fun c hc=>hsh c (g2 c hc),?_⟩
   ·cases es:M.g m with
    |one v=>rfl
    |_=>rename_i b' o';exact hoth m e b' _ (g5 _ _ es)
   grind
   grind
 intro m hm
 by_cases e:m=n
 grind[AE.setRt]
 have e':(m==n)=false:=by grind
 show ow' m=[];rw[hom m e];exact h.norm m (by simpa[AE.setRt,e',AE.mapv]using hm);intro m;show((ow' m).map (·.1)).Nodup
 by_cases e:m=n
 subst e;rw[hon];have hnd:=h.nodup m;have key:((A++(O2++B')).map (·.1)).Nodup:=by
  have hO'n:=h3.nodup;rw[e3]at hO'n;simp only[pA,a07,mA]at hO'n|-;obtain⟨k1,⟨k2,k3,k4⟩,k5⟩:=hO'n;refine⟨k1,⟨hn2,k3,fun a ha c hc e=>?_⟩,fun a ha c hc e=>?_⟩;subst e;rcases hO2 a ha with g|g
  grind
  exact absurd (h.lt ⟨m,h4 a (by grind)⟩) (by omega);subst e;rcases hc with hc|hc;rcases hO2 a hc with g|g
  grind
  exact absurd (h.lt ⟨m,h4 a (by grind)⟩) (by omega)
  grind
 rcases h6 with⟨hbx,b0,hs,ho⟩|⟨hbx,-,-,ho⟩;simp only[on,hbx,hs,List.singleton_append,a16,a19];refine⟨fun g=>?_,key⟩;rw[ho]at hnd;simp only[a16,a19]at hnd;simp only[pA,mA]at g;rcases g with g|g|g
 grind
 rcases hO2 b0 g with g'|g';exact hnd.1 (by rw[e3];simp only[pA,mA];grind);have hb0:a0P M b0:=⟨m,by grind⟩;exact absurd (h.lt hb0) (by omega);exact hnd.1 (by rw[e3];simp only[pA,mA];grind)
 grind
 rw[hom m e];exact h.nodup m;intro m m' hmm c hc hc'
 by_cases e:m=n
 subst e;rw[show(Gh.mk M.g ow' ov').ow m=ow' m from rfl,hon]at hc;rw[show(Gh.mk M.g ow' ov').ow m'=ow' m' from rfl,hom m' (Ne.symm hmm)]at hc';rcases hon1 c hc with g|g;exact h.disj m m' hmm c g hc';rcases hO2σ c g with g|g;rcases hO2 c ‹_› with g'|g';exact h.disj m m' hmm c (hO1 c g') hc';exact absurd (h.lt ⟨m',hc'⟩) (by omega);exact absurd (h.lt ⟨m',hc'⟩) (by omega)
 by_cases e':m'=n
 subst e';rw[show(Gh.mk M.g ow' ov').ow m'=ow' m' from rfl,hon]at hc';rw[show(Gh.mk M.g ow' ov').ow m=ow' m from rfl,hom m e]at hc;rcases hon1 c hc' with g|g;exact h.disj m m' hmm c hc g;rcases hO2 c g with g'|g';exact h.disj m m' hmm c hc (hO1 c g');exact absurd (h.lt ⟨m,hc⟩) (by omega);rw[show(Gh.mk M.g ow' ov').ow m=ow' m from rfl,hom m e]at hc;rw[show(Gh.mk M.g ow' ov').ow m'=ow' m' from rfl,hom m' e']at hc';exact h.disj m m' hmm c hc hc'
 ·intro m q hq;rw[show(Gh.mk M.g ow' ov').ow m=ow' m from rfl]at hq
  by_cases e:m=n
  ·subst e;rw[hon]at hq;have hold:q∈M.ow m->a0Q w' q.1 q.2:=fun g=>hfree _ _ (h.live m q g) ⟨m,a15 g⟩;have key:q∈A++(O2++B')->a0Q w' q.1 q.2:=by
    intro g;simp at g;have hmem:q∈O'->q∈M.ow m:=fun g=>by
     rcases h6 with⟨-,b0,-,ho⟩|⟨-,-,-,ho⟩
     all_goals grind
    grind
   rcases h6 with⟨hbx,b0,hs,ho⟩|⟨hbx,-,-,ho⟩
   grind
   grind
  rw[hom m e]at hq;exact hfree _ _ (h.live m q hq) ⟨m,a15 hq⟩
 intro i hi;exact(h.slots i hi).mapv hkeep
 ·cases hpd with
  |same hne=>
   refine h.pend.mono fun n' p' d' r' e' b' o' hpd hr' hp'=>?_
   have hnn:n'≠n:=fun e=>hne p' d' (by grind);have e'':(n'==n)=false:=by grind
   exact⟨r',by simpa[AE.setRt,e'',AE.mapv]using hr',(hplace n' p' r' _ _ hr' hp' (fun g=>absurd g hnn)).1⟩
  |new d v e hpn ht=>
   refine⟨⟨r.bx,r.t,a1T r.t r.x p t y'⟩,e,by simp[AE.setRt],?_⟩;rw[<-ht];exact(hplace n p r t _ hr hl (fun _ rest he=>.inl (by simpa using he))).1
 rintro c ⟨m,hm⟩
 rcases hOwned c ⟨m,hm⟩with g|g;exact h.mine c g;rcases hO2σ c g with g|g;exact h.mine c g;exact .inr (a05 h.size g)
theorem Ty.cells_sh:(t:Ty)->t.sh.cells=t.cells
 |.int _|.bool|.str|.unit|.list _ _|.nl _=>rfl
 |.pair a b=>by simp only[Ty.sh,Ty.cells,Ty.cells_sh a,Ty.cells_sh b]
 |.arr n t=>by simp only[Ty.sh,Ty.cells,Ty.cells_sh t]
theorem c9P(h:A=A')(g:List A=List A')(l:List A):cast g l=l.map (cast h):=by
 subst h;show l=l.map (fun x=>x)
 simp
theorem c1p{B B':Type}(g:A=A')(f:B=B')(h:(A×B)=(A'×B'))(x:A×B):cast h x=(cast g x.1,cast f x.2):=by
 grind
theorem c5m(h:A=A')(g:List A=List A'):cast g ([]:List A)=([]:List A'):=by
 grind
theorem Ty.shx_list(o:Bool)(t:Ty)(l:List t.den):Ty.shx (.list o t) l=l.map t.shx:=c9P _ _ l
theorem Ty.shx_arr(n:Nat)(t:Ty)(l:List t.den):Ty.shx (.arr n t) l=l.map t.shx:=c9P _ _ l
theorem Ty.shx_pair(a b:Ty)(x:a.den×b.den):Ty.shx (.pair a b) x=(a.shx x.1,b.shx x.2):=c1p _ _ _ x
theorem b5E{α β:Type}{f:Nat->Option (α×a1k×List Nat)}{f':Nat->Option (β×a1k×List Nat)}{c:α->β}:
  ∀(n i:Nat){xs os rs},a0j f n i=some (xs,os,rs)->(∀j x o r,i<=j->j<i+n->f j=some (x,o,r)->∃r',f' j=some (c x,[],r')/\∀b∈r',b∈o.map (·.1)\/b∈r)->
   ∃g,a0j f' n i=some (xs.map c,[],g)/\∀b∈g,b∈os.map (·.1)\/b∈rs
 |0,i,xs,os,rs,h,_=>by
  simp[a0j]at h;obtain⟨rfl,rfl,rfl⟩:=h;exact⟨[],rfl,by simp⟩
 |n+1,i,xs,os,rs,h,hf=>by
  simp[a0j]at h
  split at h
  grind
  rename_i x o r k
  split at h
  grind
  rename_i l d g a;simp at h;obtain⟨rfl,rfl,rfl⟩:=h;obtain⟨u,p,q⟩:=hf i x o r (a18 _) (by omega) k;obtain⟨e,s,t⟩:=b5E n (i+1) a (fun j x o r m a=>hf j x o r (by omega) (by omega))
  grind[a0j]
theorem e5q{β:Type}{o:Bool}{f':(Nat->Option Value)->Option (β×a1k×List Nat)}{c:α->β}{v x O R}(h:a0Y m o sz f v=some (x,O,R))(k:∀rd x o r,f rd=some (x,o,r)->∃r',f' rd=some (c x,[],r')/\∀b∈r',b∈o.map (·.1)\/b∈r):
  ∃R',a0Y m false sz f' v=some (x.map c,[],R')/\∀b∈R',b∈O.map (·.1)\/b∈R:=by
 unfold a0Y at h|-
 split at h
 simp_all;rename_i a n e
 split at h
 rename_i q
 split at h
 grind
 rename_i t os s g;obtain⟨d,l,p⟩:=b5E (f':=fun i=>f' fun j=>m a.block (a.off+(i*sz+j))) (c:=c) n 0 g (fun j x o r _ _ h=>k _ x o r h)
 grind
 simp_all;simp_all
theorem a7C{m:Mem}:∀(t:Ty){rd:Nat->Option Value}{x O R},dec m t rd=some (x,O,R)->∃f,dec m t.sh rd=some (t.shx x,[],f)/\∀c∈f,c∈O.map (·.1)\/c∈R
 |.int k,rd,x,O,R,h=>by
  refine⟨R,?_,fun c g=>.inr g⟩
  have:O=[]:=by
   grind[dec]
  subst this;exact h
 |.bool,rd,x,O,R,h=>by
  refine⟨R,?_,fun c g=>.inr g⟩
  have:O=[]:=by
   grind[dec]
  subst this;exact h
 |.str,rd,x,O,R,h=>by
  refine⟨R,?_,fun c g=>.inr g⟩
  have:O=[]:=by
   grind[dec]
  subst this;exact h
 |.unit,rd,x,O,R,h=>by
  simp[dec]at h;cases h;exact⟨[],rfl,by simp⟩
 |.pair a b,rd,x,O,R,h=>by
  obtain⟨v,o1,u,w,o2,r2,e,d,rfl,rfl,rfl⟩:=a2u h;obtain⟨R1,p,q⟩:=a7C a e;obtain⟨R2,l,s⟩:=a7C b d;refine⟨R1++R2,?_,fun c g=>?_⟩;rw[Ty.shx_pair];rw[<-Ty.cells_sh a]at l;exact a9e p l;simp only[pA,mA]at g|-;rcases g with g|g;exact(q c g).imp .inl .inl;exact(s c g).imp .inr .inr
 |.arr n t,rd,x,O,R,h=>by
  have h:a0j (fun i=>dec m t fun j=>rd (i*t.cells+j)) n 0=some (x,O,R):=h;obtain⟨f,e,d⟩:=b5E (f':=fun i=>dec m t.sh fun j=>rd (i*t.cells+j)) (c:=t.shx) n 0 h (fun j x o r _ _ h=>a7C t h);refine⟨f,?_,d⟩;refine Eq.trans ?_ (congrArg (fun z:List t.sh.den=>some (z,([]:a1k),f)) (Ty.shx_arr n t x).symm);show a0j (fun i=>dec m t.sh fun j=>rd (i*t.sh.cells+j)) n 0=_;simp_all[Ty.cells_sh]
 |.list o t,rd,x,O,R,h=>by
  have h:a0Y m o t.cells (dec m t) (rd 0)=some (x,O,R):=h;obtain⟨f,e,d⟩:=e5q (f':=dec m t.sh) (c:=t.shx) h (fun rd x o r h=>a7C t h);refine⟨f,?_,d⟩;refine Eq.trans ?_ (congrArg (fun z:List t.sh.den=>some (z,([]:a1k),f)) (Ty.shx_list o t x).symm);show a0Y m false t.sh.cells (dec m t.sh) (rd 0)=_;simp_all[Ty.cells_sh]

 |.nl t,rd,x,O,R,h=>by
  obtain⟨hv,rfl,rfl,rfl⟩:=c1o h;refine⟨[],?_,by simp⟩;refine Eq.trans ?_ (congrArg (fun z:List t.sh.den=>some (z,([]:a1k),([]:List Nat))) (c5m (Ty.den_sh t).symm _).symm);show a0Y m false t.sh.cells (dec m t.sh) (rd 0)=_;rw[hv];rfl
theorem Ty.cells_shn:(t:Ty)->t.shn.cells=t.cells
 |.int _|.bool|.str|.unit|.list _ _|.nl _=>rfl
 |.pair a b=>by simp only[Ty.shn,Ty.cells,Ty.cells_shn a,Ty.cells_shn b]
 |.arr n t=>by simp only[Ty.shn,Ty.cells,Ty.cells_sh t]
theorem b8N{m:Mem}:∀(t:Ty){rd:Nat->Option Value}{x O R},dec m t rd=some (x,O,R)->∃R',dec m t.shn rd=some (t.shnx x,[],R')/\∀c∈R',c∈O.map (·.1)\/c∈R
 |.int k,rd,x,O,R,h=>a7C (.int k) h
 |.bool,rd,x,O,R,h=>a7C .bool h
 |.str,rd,x,O,R,h=>a7C .str h
 |.unit,rd,x,O,R,h=>a7C .unit h
 |.arr n t,rd,x,O,R,h=>a7C (.arr n t) h
 |.list o t,rd,x,O,R,h=>a7C (.list o t) h
 |.nl t,rd,x,O,R,h=>by
  obtain⟨hv,rfl,rfl,rfl⟩:=c1o h;refine⟨[],?_,by simp⟩;refine Eq.trans ?_ (congrArg (fun z:List t.sh.den=>some (z,([]:a1k),([]:List Nat))) (c5m (Ty.den_sh t).symm _).symm);show(match rd 0 with|some (.slice none 0 0)=>some (([]:List t.sh.den),([]:a1k),([]:List Nat))|_=>none)=_;simp_all
 |.pair a b,rd,x,O,R,h=>by
  obtain⟨f,o1,r,d,o2,r2,i,j,rfl,rfl,rfl⟩:=a2u h;obtain⟨R1,l,p⟩:=b8N a i;obtain⟨R2,e,q⟩:=b8N b j;refine⟨R1++R2,?_,fun c g=>?_⟩;rw[show(Ty.pair a b).shnx (f,d)=(a.shnx f,b.shnx d)from c1p _ _ _ (f,d)];rw[<-Ty.cells_shn a]at e;exact a9e l e;simp only[pA,mA]at g|-;rcases g with g|g;exact(p c g).imp .inl .inl;exact(q c g).imp .inr .inr
theorem Ty.le_cells:∀(a b:Ty),a.le b=true->a.cells=b.cells
 |.nl a,.list o b,_=>rfl
 |.pair a b,.pair a' b',h=>by
  simp[Ty.le]at h;simp only[Ty.cells,Ty.le_cells a a' h.1,Ty.le_cells b b' h.2]
 |.nl a,.nl b,_=>rfl
 |.nl a,.int _,h|.nl a,.bool,h|.nl a,.str,h|.nl a,.unit,h|.nl a,.pair _ _,h|.nl a,.arr _ _,h=>by simp[Ty.le]at h
 |.pair a b,.int _,h|.pair a b,.bool,h|.pair a b,.str,h|.pair a b,.unit,h|.pair a b,.arr _ _,h|.pair a b,.list _ _,h|.pair a b,.nl _,h=>by simp[Ty.le]at h
 |.int _,b,h|.bool,b,h|.str,b,h|.unit,b,h|.list _ _,b,h|.arr _ _,b,h=>by
  simp only[Ty.le,dT]at h;rw[h]
theorem d2o{m:Mem}:∀(a b:Ty)(h:a.le b=true){rd:Nat->Option Value}{x R},dec m a rd=some (x,[],R)->dec m b rd=some (cast (Ty.le_den a b h) x,[],R)
 |.nl a,.list o b,h,rd,x,R,hd=>by
  obtain⟨hv,rfl,-,rfl⟩:=c1o hd;have e:a.den=b.den:=by
   simp[Ty.le]at h
   grind[Ty.den_sh]
  refine Eq.trans ?_ (congrArg (fun z:List b.den=>some (z,([]:a1k),([]:List Nat))) (c5m e _).symm)
  grind[a0Y,dec]
 |.pair a b,.pair a' b',h,rd,x,R,hd=>by
  have g:=h;simp[Ty.le]at g;obtain⟨j,o1,i,l,o2,r2,c,d,rfl,e,rfl⟩:=a2u hd;obtain⟨rfl,rfl⟩:=a23.1 e.symm;have k:=d2o a a' g.1 c;have f:=d2o b b' g.2 d;rw[Ty.le_cells a a' g.1]at f;exact(a9e k f).trans (congrArg (fun z:a'.den×b'.den=>some (z,([]:a1k),i++r2)) (c1p (Ty.le_den a a' g.1) (Ty.le_den b b' g.2) _ (j,l)).symm)
 |.nl a,.nl b,h,rd,x,R,hd=>by
  simp only[Ty.le,dT]at h
  grind
 |.nl a,.int _,h,_,_,_,_|.nl a,.bool,h,_,_,_,_|.nl a,.str,h,_,_,_,_|.nl a,.unit,h,_,_,_,_|.nl a,.pair _ _,h,_,_,_,_|.nl a,.arr _ _,h,_,_,_,_=>by simp[Ty.le]at h
 |.pair a b,.int _,h,_,_,_,_|.pair a b,.bool,h,_,_,_,_|.pair a b,.str,h,_,_,_,_|.pair a b,.unit,h,_,_,_,_|.pair a b,.arr _ _,h,_,_,_,_|.pair a b,.list _ _,h,_,_,_,_|.pair a b,.nl _,h,_,_,_,_=>by simp[Ty.le]at h
 |.int _,b,h,rd,x,R,hd|.bool,b,h,rd,x,R,hd|.str,b,h,rd,x,R,hd|.unit,b,h,rd,x,R,hd|.list _ _,b,h,rd,x,R,hd|.arr _ _,b,h,rd,x,R,hd=>by
  simp only[Ty.le,dT]at h;cases h;exact hd
theorem d6r{a:Option Addr}{l off len:Nat}{x:List e.den}{O R}(h:dec m (.list true e) ((Src.one (.slice a l c)).rd m)=some (x,O,R))(B:off+len<=l){a':Option Addr}(t:∀A,a'=some A->c=off\/A.spot=none)(s:c=off\/a'=a.map fun A=>A.add (off*e.cells)):
  ∃p,dec m (.list false e.sh) ((Src.one (.slice a' len (c-off))).rd m)=some (Ty.shx (.list false e) ((x.drop off).take len),[],p)/\∀b∈p,b∈O.map (·.1)\/b∈R:=by
 rw[Ty.shx_list];rcases a2a h with⟨hv,rfl,rfl,rfl⟩|⟨A,n,Q,os,hv,z,V,u,X⟩
 ·simp[Src.rd]at hv;obtain⟨rfl,rfl,rfl⟩:=hv;obtain rfl:off=0:=by omega
  obtain rfl:len=0:=by omega
  refine⟨[],?_,by simp⟩;show a0Y m false e.sh.cells (dec m e.sh) (some (.slice a' 0 0))=_;cases a' with
  |none=>rfl
  |some A=>rfl
 ·simp[Src.rd]at hv;obtain⟨rfl,rfl,rfl⟩:=hv;have I:=a0W l 0 u
  by_cases hl0:len=0
  ·subst hl0;refine⟨[],?_,by simp⟩;show a0Y m false e.sh.cells (dec m e.sh) (some (.slice a' 0 (c-off)))=_;cases a' with
   |none=>
    rcases s with g|g;simp[a0Y,g];rfl;simp_all
   |some A'=>
    have H:c-off=0\/A'.spot=none:=(t A' rfl).imp (fun h=>by omega) id;simp[a0Y,H,a0j];rfl
  ·have z:A.spot=none:=z.resolve_left (by omega);have d:a'=some (A.add (off*e.cells)):=by
    grind
   have q:(A.add (off*e.cells)).block=A.block/\(A.add (off*e.cells)).off=A.off+off*e.cells/\(A.add (off*e.cells)).spot=none:=by
    grind[Addr.add]
   have D:l=off+(len+(l-off-len)):=by omega
   rw[D]at u;obtain⟨K,v,L,P,S,E,rfl,rfl⟩:=a4J off (len+(l-off-len)) 0 u;obtain⟨M,w,N,y,F,T,rfl,rfl⟩:=a4J len (l-off-len) (0+off) E;obtain⟨p,G,U⟩:=b5E (f':=fun i=>dec m e.sh ((Src.at A.block (A.off+i*e.cells)).rd m)) (c:=e.shx) len (0+off) F (fun j x o r _ _ h=>a7C e h);have f:∀(k i:Nat),a0j (fun i=>dec m e.sh fun j=>m A.block (A.off+off*e.cells+(i*e.cells+j))) k i=a0j (fun i=>dec m e.sh ((Src.at A.block (A.off+i*e.cells)).rd m)) k (off+i):=by
    intro k
    induction k with
    |zero=>intro i;rfl
    |succ k ih=>
     intro i;simp[a0j];rw[ih (i+1)]
     have:(fun j=>m A.block (A.off+off*e.cells+(i*e.cells+j)))=(Src.at A.block (A.off+(off+i)*e.cells)).rd m:=by
      grind[Src.rd]
     grind
   have C:∀b,b∈p->b∈O.map (·.1)\/b∈v++(w++y):=fun b hb=>by
    grind
   refine⟨A.block::p,?_,fun b hb=>?_⟩;show a0Y m false e.sh.cells (dec m e.sh) (some (.slice a' len (c-off)))=_;subst d;simp only[a0Y,q,Ty.cells_sh];rw[if_pos ⟨.inr trivial,by omega⟩,f,show off+0=0+off from by omega,G];simp[hl0];rfl
   grind
theorem Rel.gone{B U N tm w M}(h:Rel B U N tm w M)(D:∀p d,U.pd≠some (n,p,d)){f:AV->AV}(L:∀a v,a0l (a0a w M.ov) M.g U.rt (Shr B w M) a v->a0l (a0a w M.ov) M.g (fun j=>bif j==n then none else U.rt j)
   (Shr B w ⟨M.g,fun m=>if m=n then[]else M.ow m,M.ov⟩) (f a) v):
  Rel B ((U.mapv f).setRt n none) N tm w ⟨M.g,fun m=>if m=n then[]else M.ow m,M.ov⟩:=by
 have k:∀m c,c∈(if m=n then[]else M.ow m).map (·.1)->c∈(M.ow m).map (·.1):=fun m c q=>by
  simp_all
 have E:∀c,Shr B w M c->Shr B w ⟨M.g,fun m=>if m=n then[]else M.ow m,M.ov⟩ c:=fun c ⟨t,u,F⟩=>
  ⟨t,u,fun⟨m,o⟩=>F ⟨m,k m c o⟩⟩
 refine⟨fun m r Q=>?_,fun m o=>?_,fun m=>?_,fun m m' z c q=>?_,fun m p hp=>?_,fun i hi=>(h.slots i hi).mapv L,?_,h.size,h.frame,fun c ⟨m,o⟩=>h.mine c ⟨m,k m c o⟩,fun i b hb A=>h.pins i b hb fun e=>A (by simp_all[AE.setRt,AE.mapv]),h.still⟩;have o:m≠n:=by rintro rfl;simp[AE.setRt]at Q
 have y:(m==n)=false:=by simp_all
 have l:U.rt m=some r:=by simp_all[AE.setRt,AE.mapv]
 obtain⟨I,R,t,u,F⟩:=(h.roots m r l).rd;refine⟨I,R,t,fun c q=>E c (u c q),?_⟩;simp_all;show(if m=n then[]else M.ow m)=[]
 split;rfl;rename_i O;have y:(m==n)=false:=by simp_all
 exact h.norm m (by simp_all[AE.setRt,AE.mapv]);show((if m=n then[]else M.ow m).map (·.1)).Nodup
 split
 simp
 exact h.nodup m;exact fun x=>h.disj m m' z c (k m c q) (k m' c x);have hp:p∈(if m=n then[]else M.ow m):=hp
 split at hp
 simp_all;exact h.live m p hp;refine h.pend.mono fun H p' K S V T X G l C=>?_
 have P:H≠n:=fun e=>D p' K (by simp_all);have s:(H==n)=false:=by simp_all
 exact⟨S,by simpa[AE.setRt,s,AE.mapv]using l,C⟩
theorem a0l.other{rt:Nat->Option Root}{a:AV}(h:a0l m g rt Sh a v)(b:∀c,Sh c->Sh' c)(f:∀k,k≠n->rt' k=rt k)(j:∀k,k≠n->g' k=g k)(e:∀k q,(a=.ptr k q\/a=.sref k q\/∃o l,a=.swin k q o l)->k≠n):a0l m g' rt' Sh' a v:=
 h.frame (fun _ _ _=>rfl) b fun k q r t s i u p=>⟨r,by grind,by grind,fun _ _ d=>d⟩
theorem Rel.shr_gone{B w}{M:Gh}{n:Nat}(c:Nat)(h:Shr B w M c):Shr B w ⟨M.g,fun m=>if m=n then[]else M.ow m,M.ov⟩ c:=
 ⟨h.1,h.2.1,fun⟨m,f⟩=>h.2.2 ⟨m,by
  simp_all⟩⟩
theorem c3n{U:AE}{n k:Nat}(h:k≠n)(x:Option Root):(bif k==n then x else U.rt k)=U.rt k:=by
 grind
theorem Rel.drop{B U N tm w M}(h:Rel B U N tm w M){n:Nat}(b:∀p d,U.pd≠some (n,p,d)):
  Rel B ((U.mapv (AV.drop n)).setRt n none) N tm w ⟨M.g,fun m=>if m=n then[]else M.ow m,M.ov⟩:=by
 refine h.gone b fun a v e=>?_
 by_cases hd:AV.drop n a=.dead
 rw[hd];trivial
 ·have f:AV.drop n a=a/\∀k q,(a=.ptr k q\/a=.sref k q\/∃o l,a=.swin k q o l)->k≠n:=by
   cases a<;>simp only[AV.drop]at hd|-<;>try (refine⟨trivial,?_⟩;rintro k q (h|h|⟨o,l,h⟩)<;>cases h)
   all_goals simp_all
  rw[f.1];exact e.other (fun c i=>Rel.shr_gone c i) (fun k f=>c3n f _) (fun _ _=>rfl) f.2
theorem Rel.frzBox{B U N tm w M}(h:Rel B U N tm w M)(hr:U.rt n=some r)(h0:r.bx=true)(T:U.pd=none):
  ∃b,M.g n=.at b 0/\Rel B ((U.mapv (AV.deeps [n] [])).setRt n (some ⟨true,r.t.shn,Ty.shnx r.t r.x⟩)) N tm w ⟨M.g,fun m=>if m=n then[(b,r.t.cells)]else M.ow m,M.ov⟩:=by
 obtain⟨O',R,h1,h2,h6⟩:=(h.roots n r hr).rd;rcases h6 with⟨-,b,Z,ho⟩|⟨g,-⟩
 ·refine⟨b,Z,?_⟩;have u:∀m c,c∈(if m=n then[(b,r.t.cells)]else M.ow m).map (·.1)->c∈(M.ow m).map (·.1):=fun m c F=>by
   grind
  have L:∀c,Shr B w M c->Shr B w ⟨M.g,fun m=>if m=n then[(b,r.t.cells)]else M.ow m,M.ov⟩ c:=fun c ⟨O,P,Y⟩=>
   ⟨O,P,fun⟨m,s⟩=>Y ⟨m,u m c s⟩⟩
  have K:∀k,k≠n->((U.mapv (AV.deeps [n] [])).setRt n (some ⟨true,r.t.shn,Ty.shnx r.t r.x⟩)).rt k=U.rt k:=fun k G=>c3n G _;have I:((U.mapv (AV.deeps [n] [])).setRt n (some ⟨true,r.t.shn,Ty.shnx r.t r.x⟩)).rt n=some ⟨true,r.t.shn,Ty.shnx r.t r.x⟩:=by simp[AE.setRt]
  obtain⟨R2,k1,k2⟩:=b8N _ h1;refine⟨fun m r' A=>?_,fun m s=>?_,fun m=>?_,fun m m' Q c F=>?_,fun m p hp=>?_,fun i hi=>(h.slots i hi).mapv fun a v z=>?_,?_,h.size,h.frame,fun c ⟨m,s⟩=>h.mine c ⟨m,u m c s⟩,fun i C hb h4=>h.pins i C hb fun e=>?_,h.still⟩
  by_cases s:m=n
  subst s;rw[I]at A;simp at A;subst A;refine⟨[],R2,k1,fun c F=>?_,.inl ⟨rfl,b,Z,by simp[Ty.cells_shn]⟩⟩;rcases k2 c F with g|g;have D:c∈(M.ow m).map (·.1):=by simp_all
  have E:a0P M c:=⟨m,D⟩;refine⟨h.lt E,.inr (h.mine c E),fun⟨m',d⟩=>?_⟩;have d:c∈(if m'=m then[(b,r.t.cells)]else M.ow m').map (·.1):=d
  split at d
  simp at d;have h3:=h.nodup m;simp_all;rename_i S;exact h.disj m' m S c d D;simp_all;rw[K m s]at A;obtain⟨O2,R3,O,P,Y⟩:=(h.roots m r' A).rd;refine⟨O2,R3,O,fun c F=>L c (P c F),?_⟩;simp_all;show(if m=n then[(b,r.t.cells)]else M.ow m)=[]
  have d:m≠n:=by grind
  rw[if_neg d];rw[K m d]at s;exact h.norm m s;show((if m=n then[(b,r.t.cells)]else M.ow m).map (·.1)).Nodup
  split
  simp
  exact h.nodup m;exact fun D=>h.disj m m' Q c (u m c F) (u m' c D);have H:p∈(if m=n then[(b,r.t.cells)]else M.ow m):=hp
  split at H
  rename_i e;subst e;refine h.live m p ?_
  simp_all;exact h.live m p H
  ·have f:∀C,(∀k q,(C=.ptr k q\/C=.sref k q\/∃o l,C=.swin k q o l)->k≠n)->a0l (a0a w M.ov) M.g U.rt (Shr B w M) C v->
     a0l (a0a w M.ov) M.g (fun j=>bif j==n then some ⟨true,r.t.shn,Ty.shnx r.t r.x⟩else U.rt j) (Shr B w ⟨M.g,fun m=>if m=n then[(b,r.t.cells)]else M.ow m,M.ov⟩) C v:=fun C G hb=>
    hb.other L (fun k G=>c3n G _) (fun _ _=>rfl) G
   have a1A:∀m:Nat,[n].contains m=(m==n):=fun m=>by grind
   cases a with
   |dead=>trivial
   |val t x=>exact f _ (by rintro k q (h|h|⟨o,l,h⟩)<;>cases h) z
   |skp=>exact z
   |nils=>exact z
   |empt=>exact z
   |nilp=>exact z
   |glob g=>exact z
   |vptr t x=>exact f (.vptr t x) (by simp) z
   |ptr m q=>
    simp only[AV.deeps,a1A];split
    ·rename_i s;have s:m=n:=by simp_all
     subst s;cases q with
     |nil=>
      obtain⟨r',t',C,o',V,X,p3⟩:=z;rw[hr]at V;simp at V;subst V;simp[a0U]at X;obtain⟨-,X⟩:=X;exact⟨⟨true,r.t.shn,Ty.shnx r.t r.x⟩,r.t.shn,C,o',I,by show some (r.t.shn,M.g m)=_;grind,p3⟩
     |cons=>trivial
    rename_i s;exact f _ (by simp_all) z
   |sref m q=>
    simp only[AV.deeps,a1A];split;cases q<;>exact True.intro;rename_i s;exact f _ (by simp_all) z
   |swin m q o l=>
    simp only[AV.deeps,a1A];split;trivial;rename_i s;exact f _ (by simp_all) z
  ·have hp:=h.pend;show b1j _ _ _ U.pd M.ov;rw[T]at hp|-;cases hov:M.ov with
   |none=>trivial
   |some y=>rw[hov]at hp;exact hp.elim
  grind
 simp_all
theorem Rel.frz{B U N tm w M}(h:Rel B U N tm w M){n:Nat}{e:Ty}{l:List e.den}(T:U.rt n=some ⟨false,.list true e,l⟩)(S:∀p d,U.pd≠some (n,p,d)):
  Rel B ((U.mapv (AV.frz n e l)).setRt n none) N tm w ⟨M.g,fun m=>if m=n then[]else M.ow m,M.ov⟩:=by
 obtain⟨Y,R,E,h2,h3,V,h5,h6⟩:=h.sep T;rcases h6 with⟨g,-⟩|⟨-,⟨X,G⟩,-,ho⟩
 grind
 refine h.gone S fun a v i=>?_
 have z:∀c,c∈Y.map (·.1)\/c∈R->Shr B w ⟨M.g,fun m=>if m=n then[]else M.ow m,M.ov⟩ c:=by
  rintro c (u|u)
  have y:a0P M c:=⟨n,V c u⟩;refine⟨h.lt y,.inr (h.mine c y),fun⟨m,F⟩=>?_⟩;have F:c∈(if m=n then[]else M.ow m).map (·.1):=F
  split at F
  simp_all;rename_i Q;exact h.disj m n Q c F (V c u);simp_all[Rel.shr_gone]
 have f:∀b,(∀k q,(b=.ptr k q\/b=.sref k q\/∃o l,b=.swin k q o l)->k≠n)->a0l (a0a w M.ov) M.g U.rt (Shr B w M) b v->
   a0l (a0a w M.ov) M.g (fun j=>bif j==n then none else U.rt j) (Shr B w ⟨M.g,fun m=>if m=n then[]else M.ow m,M.ov⟩) b v:=fun b P hb=>
  hb.other (fun c u=>Rel.shr_gone c u) (fun k P=>c3n P _) (fun _ _=>rfl) P
 cases a with
 |dead=>trivial
 |val t x=>exact f _ (by rintro k q (h|h|⟨o,l,h⟩)<;>cases h) i
 |skp=>exact i
 |nils=>exact i
 |empt=>exact i
 |nilp=>exact i
 |glob g=>exact i
 |vptr t x=>exact f (.vptr t x) (by simp) i
 |ptr m q=>
  simp only[AV.frz];split;trivial;simp_all
 |sref m q=>
  simp only[AV.frz];split
  ·rename_i F;obtain rfl:m=n:=by simp_all
   cases q with
   |cons=>trivial
   |nil=>
    obtain⟨r,e',s,C,H,D⟩:=i;rw[T]at C;simp at C;subst C;simp only[loc,a0U,sj,pJ]at H;obtain⟨-,rfl⟩:=H;rw[G]at E D;simp[Src.rd]at D;subst D;obtain⟨I,K,L⟩:=a7C _ E;refine⟨by simp[Ty.isAgg],fun _=>?_,I,?_,fun c u=>z c (L c u)⟩;rcases a2a E with⟨hv,-⟩|⟨A,nn,Z,os,hv,-⟩<;>simp only[Src.rd,if_true,sj]at hv<;>rw[hv]<;>rfl
    have:a1A X=true:=by
     rcases a2a E with⟨hv,-⟩|⟨A,nn,Z,os,hv,-⟩<;>simp only[Src.rd,if_true,sj]at hv<;>rw[hv]<;>rfl
    refine a0y _ K (fun j hj=>?_) (fun _ _ _=>rfl);have O:j=0:=by simp_all[Ty.cells]
    subst O;cases X<;>simp[a1A]at this<;>simp[Value.cells,Src.rd]
  simp_all
 |swin m q o k=>
  simp only[AV.frz];split
  ·rename_i F;obtain rfl:m=n:=by simp_all
   cases q with
   |cons=>trivial
   |nil=>
    obtain⟨r,e',s,a,l',c,C,H,D,k4,a',k5,k6,k7⟩:=i;rw[T]at C;simp at C;subst C;simp[a0U]at H;obtain⟨rfl,rfl⟩:=H;rw[G]at E D;simp[Src.rd]at D;subst D k5;obtain⟨I,K,L⟩:=d6r E k4 k6 k7;refine⟨by simp[Ty.isAgg],fun _=>rfl,I,?_,fun c u=>z c (L c u)⟩;refine a0y _ K (fun j hj=>?_) (fun _ _ _=>rfl);simp_all[Ty.cells,Value.cells,Src.rd]
  simp_all
theorem Rel.room{B U N tm w M}(h:Rel B U N tm w M){n r p t b o}(l:U.rt n=some r)(j:loc (a0a w M.ov) r.t (M.g n) p=some (t,.at b o)):a0Q w b (o+t.cells):=by
 obtain⟨m,R,e,s,u,x,y,i⟩:=h.sep l;rcases b3M p r.t _ e j with⟨so,f,a,q⟩|⟨k,f,a⟩;rcases i with⟨-,d,c,z⟩|⟨-,⟨v,c⟩,-⟩;rw[c]at f;simp at f;obtain⟨rfl,rfl⟩:=f;exact(h.live n (d,r.t.cells) (by simp_all)).mono (by omega);simp_all;refine(h.live n (b,k) ?_).mono a
 grind
theorem a0Q.cell(h:a0Q w b k)(d:o<k):(w.cell? ⟨b,o,none⟩).isSome=true/\w.frozen? ⟨b,o,none⟩=false:=by
 obtain⟨c,e,lo,hi,g,f,a⟩:=h
 grind[World.cell?,World.frozen?]
theorem a9U(w:World)(a:Addr)(v:Value)(b:Nat):(w.setCell a v).heap[b]?=if b=a.block then(w.heap[b]?).map (fun
   |.cells c elem frozen=>.cells (if a.spot.isSome then c else c.setIfInBounds a.off v) elem frozen
   |o=>o)else w.heap[b]?:=by
 simp[World.setCell,Array.getElem?_modify]
 grind
theorem a0Q.setCell(h:a0Q w b k)(a:Addr)(v:Value):a0Q (w.setCell a v) b k:=by
 obtain⟨c,e,lo,hi,g,f,d⟩:=h;unfold a0Q;rw[a9U]
 grind
theorem Rel.rename{B U N tm w M}(h:Rel B U N tm w M){r:Nat}{root:Root}(K:U.rt r=some root)(hd:U.rt d=none)(Q:∀i b,d=pinned+i->B.pin i≠some b)(h6:∀p k,U.pd≠some (r,p,k)):
  Rel B (((U.mapv (AV.ren r d)).setRt r none).setRt d (some root)) N tm w ⟨fun m=>if m=d then M.g r else M.g m,fun m=>if m=d then M.ow r else if m=r then[]else M.ow m,M.ov⟩:=by
 have h8:r≠d:=by grind
 have h0:M.ow d=[]:=h.norm d hd
 let f:Nat->a1k:=fun m=>if m=d then M.ow r else if m=r then[]else M.ow m
 have I:∀c,a0P ⟨fun m=>if m=d then M.g r else M.g m,f,M.ov⟩ c↔a0P M c:=by
  intro c;constructor
  rintro⟨m,u⟩
  have u:c∈(f m).map (·.1):=u;simp only[f]at u
  split at u
  exact⟨r,u⟩
  split at u
  simp_all;exact⟨m,u⟩
  rintro⟨m,u⟩
  by_cases e:m=r
  subst e;exact⟨d,by grind⟩
  by_cases e':m=d
  simp_all;refine⟨m,?_⟩
  grind
 have E:∀c,Shr B w M c↔Shr B w ⟨fun m=>if m=d then M.g r else M.g m,f,M.ov⟩ c:=fun c=>by unfold Shr;grind
 have D:∀m,(((U.mapv (AV.ren r d)).setRt r none).setRt d (some root)).rt m=if m=d then some root else if m=r then none else U.rt m:=by
  intro m;simp only[AE.setRt,AE.mapv]
  grind
 refine⟨fun m rm u=>?_,fun m u=>?_,fun m=>?_,fun m m' H c y j=>?_,fun m p hp=>?_,fun i hi=>?_,?_,h.size,h.frame,fun c y=>h.mine c ((I c).1 y),fun i b hb A=>?_,h.still⟩;rw[D]at u
 by_cases e:m=d
 subst e;simp at u;subst u;obtain⟨L,R,X,P,Y⟩:=(h.roots r root K).rd;exact⟨L,R,by simp_all,fun c y=>(E c).1 (P c y),by simp_all⟩;rw[if_neg e]at u
 by_cases e':m=r
 simp_all;rw[if_neg e']at u;obtain⟨L,R,X,P,Y⟩:=(h.roots m rm u).rd;exact⟨L,R,by simp_all,fun c y=>(E c).1 (P c y),by simp_all⟩;show(if m=d then M.ow r else if m=r then[]else M.ow m)=[]
 rw[D]at u
 by_cases e:m=d
 simp_all;rw[if_neg e]at u|-
 by_cases e':m=r
 grind
 rw[if_neg e']at u|-;exact h.norm m u;show((f m).map (·.1)).Nodup;simp[f];split;exact h.nodup r;split
 simp
 exact h.nodup m;have y:c∈(f m).map (·.1):=y;have j:c∈(f m').map (·.1):=j;simp only[f]at y j
 by_cases e:m=d
 subst e;rw[if_pos rfl]at y;rw[if_neg (Ne.symm H)]at j
 split at j
 simp_all;rename_i O;exact h.disj r m' (Ne.symm O) c y j;rw[if_neg e]at y
 split at y
 simp_all;rename_i O
 split at j
 exact h.disj m r O c y j
 split at j
 simp_all;exact h.disj m m' H c y j;have hp:p∈f m:=hp;simp[f]at hp
 split at hp
 exact h.live r p hp
 split at hp
 simp_all;exact h.live m p hp
 ·refine(h.slots i hi).mapv fun a v C=>?_
  have h9:∀k q (b:AV),(b=.ptr k q\/b=.sref k q\/∃o l,b=.swin k q o l)->True:=fun _ _ _ _=>trivial;have other:(∀k q,(a=.ptr k q\/a=.sref k q\/∃o l,a=.swin k q o l)->k≠r)->a0l (a0a w M.ov) (fun m=>if m=d then M.g r else M.g m) (((U.mapv (AV.ren r d)).setRt r none).setRt d (some root)).rt
    (Shr B w ⟨fun m=>if m=d then M.g r else M.g m,f,M.ov⟩) a v:=fun A=>
   C.frame (fun _ _ _=>rfl) (fun c y=>(E c).1 y) fun k q S t s y hk hl=>by
    grind
  cases a with
  |ptr k q=>
   simp only[AV.ren];split;rename_i e;obtain rfl:k=r:=by simp_all
   obtain⟨S,t,b,o,z,T,F⟩:=C;rw[K]at z;simp at z;subst z;exact⟨root,t,b,o,by simp_all,by simp_all,F⟩
   grind
  |sref k q=>
   simp only[AV.ren];split;rename_i e;obtain rfl:k=r:=by simp_all
   obtain⟨S,e,s,z,T,F⟩:=C;rw[K]at z;simp at z;subst z;exact⟨root,e,s,by simp_all,by simp_all,F⟩
   grind
  |swin k q o l=>
   simp only[AV.ren];split;rename_i e;obtain rfl:k=r:=by simp_all
   obtain⟨S,e,s,a,l',c,z,T,F,Z⟩:=C;rw[K]at z;simp at z;subst z;exact⟨root,e,s,a,l',c,by simp_all,by simp_all,F,Z⟩
   grind
  |dead=>trivial
  |skp=>exact C
  |nils=>exact C
  |empt=>exact C
  |nilp=>exact C
  |glob g=>exact C
  |val t x=>exact other (by simp)
  |vptr t x=>exact other (by simp)
 refine h.pend.mono fun n p k r' e b o V h7 h5=>?_
 grind
 rw[D]at A;have G:pinned+i≠d:=fun e=>Q i b e.symm hb;rw[if_neg G]at A;show(if pinned+i=d then M.g r else M.g (pinned+i))=_
 rw[if_neg G]
 by_cases e':pinned+i=r
 simp_all;rw[if_neg e']at A;exact h.pins i b hb A
theorem Rel.ext{B U N tm w M}(h:Rel B U N tm w M)(g:∀c,c<w.heap.size->w'.heap[c]?=w.heap[c]?)(k:w.heap.size<=w'.heap.size)(hio:a2n w'=a2n w:=by first|rfl|assumption):Rel B U N tm w' M:=by
 refine h.mem (fun c j f=>a1y _ (g c ?_) j) (fun n p hp=>?_) k (fun b hb i=>?_);rcases f with f|f;exact h.lt f;exact f.1;obtain⟨c,e,lo,hi,l,a,d⟩:=h.live n p hp;exact⟨c,e,lo,hi,by grind,a,d⟩;rw[g b (a06 hb h.size)];exact h.frame b hb i
theorem Rel.add{B U N tm w M}(h:Rel B U N tm w M){n:Nat}(hn:U.rt n=none)(h8:n<pinned){w':World}(f:∀c,c<w.heap.size->w'.heap[c]?=w.heap[c]?)(Q:w.heap.size<=w'.heap.size)
  {r:Root}{s:Src}{O:a1k}(X:∀c∈O.map (·.1),w.heap.size<=c)(h7:(O.map (·.1)).Nodup)(h6:∀p∈O,a0Q w' p.1 p.2)(h2:RootOk (a0a w' M.ov) (Shr B w M) r s O)(hio:a2n w'=a2n w:=by first|rfl|assumption):
  Rel B (U.setRt n (some r)) N tm w' ⟨fun m=>if m=n then s else M.g m,fun m=>if m=n then O else M.ow m,M.ov⟩:=by
 have I:=h.ext f Q
 let d:Nat->a1k:=fun m=>if m=n then O else M.ow m
 have A:∀c,a0P ⟨fun m=>if m=n then s else M.g m,d,M.ov⟩ c->a0P M c\/c∈O.map (·.1):=by
  rintro c ⟨m,z⟩
  have z:c∈(d m).map (·.1):=z;simp only[d]at z
  split at z
  simp_all;exact .inl ⟨m,z⟩
 have P:∀c,Shr B w M c->Shr B w' ⟨fun m=>if m=n then s else M.g m,d,M.ov⟩ c:=fun c ⟨G,H,g3⟩=>⟨a06 G Q,H,fun g4=>by
  grind⟩
 have F:∀c j,Shr B w M c->a0a w' M.ov c j=a0a w M.ov c j:=fun c j l=>a1y _ (f c l.1) j;have E:∀m,(U.setRt n (some r)).rt m=if m=n then some r else U.rt m:=by
  simp_all[AE.setRt]
 refine⟨fun m V z=>?_,fun m z=>?_,fun m=>?_,fun m m' L c l y=>?_,fun m p hp=>?_,fun i hi=>?_,?_,I.size,I.frame,fun c l=>?_,fun i b hb D=>?_,I.still⟩
 ·rw[E]at z
  by_cases e:m=n
  subst e;simp at z;subst z;obtain⟨Y,R,G,H,g3⟩:=h2.rd;exact⟨Y,R,by simp_all,fun c l=>P c (H c l),by simp_all⟩
  ·rw[if_neg e]at z;obtain⟨Y,R,G,H,g3⟩:=(I.roots m V z).rd;obtain⟨Z,R1,k1,k2,-⟩:=(h.roots m V z).rd;refine⟨Y,R,by simp_all,fun c l=>?_,by simp_all⟩
   have:=H c l
   refine⟨this.1,this.2.1,fun g4=>?_⟩;rcases A c g4 with g|g;exact this.2.2 g
   ·
    have k3:dec (a0a w' M.ov) V.t ((M.g m).rd (a0a w' M.ov))=some (V.x,Z,R1):=by
     obtain⟨O2,R2,l1,l2,l3,S,T,l6⟩:=h.sep z;rw[k1]at l1;simp at l1;obtain⟨rfl,rfl⟩:=l1;refine a0y V.t k1 (fun j _=>?_) (fun b j hb=>?_)
     ·cases es:M.g m with
      |one v=>rfl
      |_=>rename_i b o;exact a1y _ (f b (h.lt ⟨m,T _ _ es⟩)) _
     rcases hb with hb|hb;exact a1y _ (f b (h.lt ⟨m,S b hb⟩)) j;simp_all
    rw[k3]at G;simp at G;obtain⟨rfl,rfl⟩:=G;exact absurd (X c g) (by have:=(k2 c l).1;omega)
 show(if m=n then O else M.ow m)=[]
 rw[E]at z
 by_cases e:m=n
 simp_all;rw[if_neg e]at z|-;exact h.norm m z;show((d m).map (·.1)).Nodup;simp[d];split;omega;exact h.nodup m;have l:c∈(d m).map (·.1):=l;have y:c∈(d m').map (·.1):=y;simp only[d]at l y
 split at l
 rename_i e;rw[if_neg (fun e'=>L (e.trans e'.symm))]at y;exact absurd (X c l) (by have:=h.lt ⟨m',y⟩;omega)
 split at y
 exact absurd (X c y) (by have:=h.lt ⟨m,l⟩;omega);exact h.disj m m' L c l y;have hp:p∈d m:=hp;simp[d]at hp
 split at hp
 simp_all;exact I.live m p hp
 ·refine(h.slots i hi).frame fun a v ha=>ha.frame F P fun k q rk t s' _ hk hl=>?_
  have h0:k≠n:=by grind
  obtain⟨Z,R1,l1,l2,l3,S,T,l6⟩:=h.sep hk;have C:∀j,(M.g k).rd (a0a w' M.ov) j=(M.g k).rd (a0a w M.ov) j:=fun j=>by
   cases es:M.g k with
   |one v=>rfl
   |_=>rename_i b o;exact a1y _ (f b (h.lt ⟨k,T _ _ es⟩)) _
  refine⟨rk,by simp_all,?_,fun u _ hu=>?_⟩;show loc (a0a w' M.ov) rk.t (if k=n then s else M.g k) q=_
  rw[if_neg h0];exact a2G q rk.t _ l1 hl (fun j _=>C j) (fun c j l=>a1y _ (f c (h.lt ⟨k,S c l⟩)) j)
  ·cases s' with
   |one v=>exact hu
   |_=>
    rename_i b o;rw[<-hu];exact a1y _ (f b (h.lt ⟨k,h.place hk hl⟩)) _
 ·refine h.pend.mono fun m p k r' e b o h5 h4 h3=>?_
  have h1:m≠n:=by grind
  obtain⟨Z,R1,l1,l2,l3,S,T,l6⟩:=h.sep h4;refine⟨r',by simp_all,?_⟩;show loc (a0a w' M.ov) r'.t (if m=n then s else M.g m) p=_
  rw[if_neg h1];refine a2G p r'.t _ l1 h3 (fun j _=>?_) (fun c j l=>a1y _ (f c (h.lt ⟨m,S c l⟩)) j);cases es:M.g m with
  |one v=>rfl
  |_=>rename_i b o;exact a1y _ (f b (h.lt ⟨m,T _ _ es⟩)) _
 rcases A c l with g|g;exact h.mine c g;exact .inr (a05 h.size (X c g));rw[E]at D;have K:pinned+i≠n:=by omega
 rw[if_neg K]at D;show(if pinned+i=n then s else M.g (pinned+i))=_
 rw[if_neg K];exact h.pins i b hb D
theorem Rel.done{B U N tm w M}(h:Rel B U N tm w M){n p d b o v}(F:U.pd=some (n,p,d))(l:M.ov=some (b,o,v)):
  Rel B { U with pd:=none } N tm (w.setCell ⟨b,o,none⟩ v) ⟨M.g,M.ow,none⟩:=by
 have hp:=h.pend;rw[F,l]at hp;obtain⟨r,e,G,y⟩:=hp;rw[<-l]at y;have x:=h.room G y;have z:a0a (w.setCell ⟨b,o,none⟩ v) none=a0a w M.ov:=by
  funext c j;rw[l];simp[a0a]
  by_cases e:c=b/\j=o
  obtain⟨rfl,rfl⟩:=e
  have:=(x.cell (o:=j) (by simp[Ty.cells])).1
  grind[a25,World.cell?_setCell_same]
  rw[if_neg e,World.cell?_setCell_other]
  grind
 have A:a0P M b:=⟨n,h.place G y⟩;have f:∀c,Shr B w M c->Shr B (w.setCell ⟨b,o,none⟩ v) ⟨M.g,M.ow,none⟩ c:=fun c ⟨I,C,D⟩=>⟨by simp_all,C,D⟩;refine⟨fun m T P=>?_,h.norm,h.nodup,h.disj,fun m p hp=>(h.live m p hp).setCell _ _,fun i hi=>?_,trivial,by simpa using h.size,fun c E K=>?_,h.mine,h.pins,h.still⟩;obtain⟨H,R,I,C,D⟩:=(h.roots m T P).rd;refine⟨H,R,?_,fun c E=>f c (C c E),D⟩;simp_all;show b2e (a0a (w.setCell ⟨b,o,none⟩ v) none) M.g U.rt _ (U.sl i) (tm i);rw[z];exact(h.slots i hi).frame fun a u L=>L.frame (fun _ _ _=>rfl) f fun k q S t s _ O y=>⟨S,O,y,fun _ _ Q=>Q⟩
 ·rw[a9U,if_neg];exact h.frame c E K
  ·rintro rfl
   rcases h.mine c A with g|g
   all_goals grind
theorem Rel.topG{B U N tm w M}(h:Rel B U N tm w M)(hr:U.rt n=some ⟨false,.list true e,l⟩)(g6:n<pinned)(h6:U.pd=none){G:Nat->Bool}(hG:G n=false){v':Value}{l':List e.den}{O2 R2}(h8:dec (a0a w' M.ov) (.list true e) ((Src.one v').rd (a0a w' M.ov))=some (l',O2,R2))(A:∀c j,c<w.heap.size->c∉(M.ow n).map (·.1)->(∀m,G m=true->c∉(M.ow m).map (·.1))->a0a w' M.ov c j=a0a w M.ov c j)(Q:∀c∈O2.map (·.1),(c∈(M.ow n).map (·.1)\/∃m,G m=true/\c∈(M.ow m).map (·.1))\/w.heap.size<=c)(g0:(O2.map (·.1)).Nodup)(h4:∀p∈O2,a0Q w' p.1 p.2)(K:∀c k,a0Q w c k->a0P M c->a0Q w' c k)(Z:w.heap.size<=w'.heap.size)(h2:∀b,b<B.size->¬ B.F b->w'.heap[b]?=B.hp b)(h1:∀c∈R2,c<w'.heap.size/\(B.S c\/B.F c\/B.size<=c)/\¬ a0P M c/\c∉O2.map (·.1)){f:AV->AV}(hf:∀a,f a=.dead\/(f a=a/\∀k q,(a=.ptr k q\/a=.sref k q\/∃o l,a=.swin k q o l)->(k=n->a=.ptr n [])/\G k=false))(hio:a2n w'=a2n w:=by first|rfl|assumption):
  Rel B ⟨(U.mapv f).sl,fun m=>if m=n then some ⟨false,.list true e,l'⟩else bif G m then none else U.rt m,none⟩ N tm w' ⟨fun m=>if m=n then .one v' else M.g m,fun m=>if m=n then O2 else bif G m then[]else M.ow m,M.ov⟩:=by
 let d:Nat->a1k:=fun m=>if m=n then O2 else bif G m then[]else M.ow m
 have V:∀c,a0P ⟨fun m=>if m=n then .one v' else M.g m,d,M.ov⟩ c->a0P M c\/c∈O2.map (·.1):=by
  rintro c ⟨m,r⟩
  have r:c∈(d m).map (·.1):=r;simp only[d]at r
  split at r
  simp_all
  ·cases x:G m with
   |true=>simp_all
   |false=>rw[x]at r;exact .inl ⟨m,r⟩
 have R:∀c,c∈O2.map (·.1)->a0P M c\/w.heap.size<=c:=fun c u=>(Q c u).imp (fun g=>g.elim (fun g=>⟨n,g⟩) fun⟨m,_,g⟩=>⟨m,g⟩) id;have X:∀c,Shr B w M c->Shr B w' ⟨fun m=>if m=n then .one v' else M.g m,d,M.ov⟩ c:=fun c ⟨E,g2,g3⟩=>⟨a06 E Z,g2,fun g4=>by
  grind⟩
 have Y:∀c j,Shr B w M c->a0a w' M.ov c j=a0a w M.ov c j:=fun c j u=>A c j u.1 (fun g=>u.2.2 ⟨n,g⟩) (fun m _ g=>u.2.2 ⟨m,g⟩);have z:∀m,m≠n->G m=false->∀c j,c∈(M.ow m).map (·.1)->a0a w' M.ov c j=a0a w M.ov c j:=fun m r hg c j u=>A c j (h.lt ⟨m,u⟩) (h.disj m n r c u)
  (fun k C=>h.disj m k (fun e=>by simp_all) c u)
 have g7:∀m,(if m=n then some (⟨false,.list true e,l'⟩:Root)else bif G m then none else U.rt m)=if m=n then some ⟨false,.list true e,l'⟩else bif G m then none else U.rt m:=fun _=>rfl
 have h0:∀k,k≠n->G k=false->∀q O tq s,U.rt k=some O->loc (a0a w M.ov) O.t (M.g k) q=some (tq,s)->loc (a0a w' M.ov) O.t (M.g k) q=some (tq,s)/\s.rd (a0a w' M.ov) 0=s.rd (a0a w M.ov) 0:=by
  intro k C hg q O tq s L hl;obtain⟨O1,R1,l1,l2,l3,l4,l5,l6⟩:=h.sep L;have I:∀j,(M.g k).rd (a0a w' M.ov) j=(M.g k).rd (a0a w M.ov) j:=fun j=>by
   cases es:M.g k with
   |one v=>rfl
   |_=>rename_i b o;exact z k C hg b _ (l5 _ _ es)
  refine⟨a2G q O.t _ l1 hl (fun j _=>I j) (fun c j u=>z k C hg c j (l4 c u)),?_⟩;cases s with
  |one v=>rfl
  |_=>rename_i b o;exact z k C hg b _ (h.place L hl)
 obtain⟨O0,R0,m1,m2,m3,m4,m5,m6⟩:=h.sep hr;have h3:∃v0,M.g n=.one v0:=by
  simp_all
 obtain⟨v0,h7⟩:=h3;refine⟨fun m rm r=>?_,fun m r=>?_,fun m=>?_,fun m m' h5 c u H=>?_,fun m p hp=>?_,fun i hi=>?_,?_,a05 h.size Z,h2,fun c u=>?_,fun i b hb D=>?_,hio.trans h.still⟩
 ·have r:(if m=n then some (⟨false,.list true e,l'⟩:Root)else bif G m then none else U.rt m)=some rm:=r
  by_cases e1:m=n
  subst e1;simp at r;subst r;refine⟨O2,R2,?_,fun c u=>?_,.inr ⟨rfl,⟨v',by simp⟩,⟨e,rfl⟩,by simp⟩⟩;show dec (a0a w' M.ov) (.list true e) ((if m=m then Src.one v' else M.g m).rd (a0a w' M.ov))=_
  rw[if_pos rfl];exact h8;obtain⟨E,g2,g3,g4⟩:=h1 c u;refine⟨E,g2,fun g5=>?_⟩
  grind
  ·rw[if_neg e1]at r;cases x:G m with
   |true=>simp_all
   |false=>
    rw[x]at r;have r:U.rt m=some rm:=r;obtain⟨O1,R1,l1,l2,l3,l4,l5,l6⟩:=h.sep r;refine⟨O1,R1,?_,fun c u=>X c (l2 c u),by grind⟩;show dec (a0a w' M.ov) rm.t ((if m=n then Src.one v' else M.g m).rd (a0a w' M.ov))=_
    rw[if_neg e1];refine a0y rm.t l1 (fun j _=>?_) (fun c j u=>?_)
    ·cases es:M.g m with
     |one v=>rfl
     |_=>rename_i b o;exact z m e1 x b _ (l5 _ _ es)
    grind
 ·have r:(if m=n then some (⟨false,.list true e,l'⟩:Root)else bif G m then none else U.rt m)=none:=r
  show(if m=n then O2 else bif G m then[]else M.ow m)=[]
  by_cases e1:m=n
  simp_all
  ·rw[if_neg e1]at r|-;cases x:G m with
   |true=>rfl
   |false=>rw[x]at r;exact h.norm m r
 ·show((d m).map (·.1)).Nodup;simp[d];split;omega
  ·cases G m with
   |true=>simp
   |false=>exact h.nodup m
 have u:c∈(d m).map (·.1):=u;have H:c∈(d m').map (·.1):=H;have old:∀k,k≠n->c∈(d k).map (·.1)->G k=false/\c∈(M.ow k).map (·.1):=fun k C g=>by
  grind
 have g9:∀k,k≠n->c∈(d n).map (·.1)->c∈(d k).map (·.1)->False:=fun k C g P=>by
  simp only[d,if_true]at g;obtain⟨h9,P⟩:=old k C P;rcases Q c g with(E|⟨m,x,E⟩)|E;exact h.disj n k (Ne.symm C) c E P;exact h.disj m k (fun e=>by grind) c E P
  have:=h.lt ⟨k,P⟩;omega
 by_cases e1:m=n
 grind
 by_cases e2:m'=n
 grind
 exact h.disj m m' h5 c (old m e1 u).2 (old m' e2 H).2
 ·have hp:p∈d m:=hp;simp[d]at hp
  split at hp
  simp_all
  ·cases x:G m with
   |true=>simp_all
   |false=>rw[x]at hp;exact K _ _ (h.live m p hp) ⟨m,a15 hp⟩
 refine(h.slots i hi).mapv fun a v ha=>?_
 rcases hf a with g|⟨g,C⟩;rw[g];trivial;rw[g]
 by_cases hz:a=.ptr n []
 subst hz;obtain⟨r',t,b,o,k1,k2,-⟩:=ha;rw[hr]at k1;simp at k1;subst k1;rw[h7]at k2;simp[loc,a0U]at k2;refine ha.frame Y X fun k q O t s u L hl=>?_
 grind
 ·have:=h.pend
  rw[h6]at this;show b1j _ _ _ none M.ov;cases hov:M.ov with
  |none=>trivial
  |some y=>rw[hov]at this;exact this.elim
 rcases V c u with g|g;exact h.mine c g;rcases R c g with g|g;exact h.mine c g;exact .inr (a05 h.size g);have D:(if pinned+i=n then some (⟨false,.list true e,l'⟩:Root)else bif G (pinned+i)then none else U.rt (pinned+i))≠none:=D
 have T:pinned+i≠n:=by omega
 rw[if_neg T]at D;show(if pinned+i=n then Src.one v' else M.g (pinned+i))=_
 rw[if_neg T];refine h.pins i b hb fun e'=>D ?_
 simp_all
theorem Rel.top{B U N tm w M}(h:Rel B U N tm w M)(K:U.rt n=some ⟨false,.list true e,l⟩)(A:n<pinned)(s:U.pd=none){v':Value}{l':List e.den}{O2 R2}(D:dec (a0a w' M.ov) (.list true e) ((Src.one v').rd (a0a w' M.ov))=some (l',O2,R2))(r:∀c j,c<w.heap.size->c∉(M.ow n).map (·.1)->a0a w' M.ov c j=a0a w M.ov c j)(v:∀c∈O2.map (·.1),c∈(M.ow n).map (·.1)\/w.heap.size<=c)(z:(O2.map (·.1)).Nodup)(i:∀p∈O2,a0Q w' p.1 p.2)(d:∀c k,a0Q w c k->a0P M c->a0Q w' c k)(C:w.heap.size<=w'.heap.size)(y:∀b,b<B.size->¬ B.F b->w'.heap[b]?=B.hp b)(x:∀c∈R2,c<w'.heap.size/\(B.S c\/B.F c\/B.size<=c)/\¬ a0P M c/\c∉O2.map (·.1)){f:AV->AV}(H:∀a,f a=.dead\/(f a=a/\∀k q,(a=.ptr k q\/a=.sref k q\/∃o l,a=.swin k q o l)->k=n->a=.ptr n []))(hio:a2n w'=a2n w:=by first|rfl|assumption):
  Rel B ((U.mapv f).setRt n (some ⟨false,.list true e,l'⟩)) N tm w' ⟨fun m=>if m=n then .one v' else M.g m,fun m=>if m=n then O2 else M.ow m,M.ov⟩:=by
 have:=h.topG (G:=fun _=>false) K A s rfl D (fun c j t u _=>r c j t u) (fun c E=>(v c E).imp .inl id) z i d C y x (f:=f) (fun a=>(H a).imp id fun⟨t,u⟩=>⟨t,fun k q I=>⟨u k q I,rfl⟩⟩) hio
 have L:((U.mapv f).setRt n (some ⟨false,.list true e,l'⟩))=⟨(U.mapv f).sl,fun m=>if m=n then some ⟨false,.list true e,l'⟩else bif (fun _=>false) m then none else U.rt m,none⟩:=by
  simp only[AE.setRt,AE.mapv,s,cF]
  grind
 simp_all
theorem VOk.one{t:Ty}{x:t.den}(e:t.isAgg=false)(k:a1A v=true){R}(h:dec m t ((Src.one v).rd m)=some (x,[],R))(a:∀c∈R,Sh c)(b:t.cells=1):VOk m Sh t x v:=by
 refine⟨fun g=>(by simp_all),fun _=>k,R,a0y t h (fun j d=>?_) (fun _ _ _=>rfl),a⟩;have f:j=0:=by omega
 subst f;cases v<;>first|rfl|cases k
theorem VOk.rd{m:Mem}{Sh:Nat->Prop}{t:Ty}{x:t.den}{v:Value}(h:VOk m Sh t x v)(b:t.isAgg=false)(d:t.cells=1):∃R,dec m t ((Src.one v).rd m)=some (x,[],R)/\∀c∈R,Sh c:=by
 obtain⟨-,f,R,k,a⟩:=h;refine⟨R,a0y t k (fun j e=>?_) (fun _ _ _=>rfl),a⟩;have g:j=0:=by omega
 subst g
 have:=f b
 cases v<;>first|rfl|cases this
theorem a0l.int{m g rt Sh k}{n:Int}{v:Value}(h:a0l m g rt Sh (.val (.int k) n) v):v=.int k n:=by
 obtain⟨R,f,-⟩:=VOk.rd (t:=.int k) h rfl rfl;simp[dec,Src.rd]at f
 grind
theorem a0l.bool{m g rt Sh}{b:Bool}(h:a0l m g rt Sh (.val .bool b) v):v=.bool b:=by
 obtain⟨R,f,-⟩:=VOk.rd (t:=.bool) h rfl rfl;simp[dec,Src.rd]at f
 grind
theorem a0l.str{m g rt Sh}{l:List Int}{v:Value}(h:a0l m g rt Sh (.val .str l) v):∃s:ByteArray,v=.string s/\l=s.data.toList.map fun b=>(b.toNat:Int):=by
 obtain⟨R,f,-⟩:=VOk.rd (t:=.str) h rfl rfl;simp[dec,Src.rd]at f
 grind
theorem a0l.mk_int{m g rt Sh k}(n:Int):a0l m g rt Sh (.val (.int k) n) (.int k n):=
 VOk.one (t:=.int k) (R:=[]) rfl rfl (by simp[dec,Src.rd]) (by simp) rfl
theorem a0l.mk_bool{m g rt Sh}(b:Bool):a0l m g rt Sh (.val .bool b) (.bool b):=
 VOk.one (t:=.bool) (R:=[]) rfl rfl (by rfl) (by simp) rfl
theorem a0l.mk_str{m g rt Sh}(s:ByteArray):a0l m g rt Sh (.val .str (s.data.toList.map fun b=>(b.toNat:Int):List Int)) (.string s):=
 VOk.one (t:=.str) (R:=[]) rfl rfl (by rfl) (by simp) rfl
def b2J(U:AE)(a:AV):Prop:=∃k q,(a=.ptr k q\/a=.sref k q\/∃o l,a=.swin k q o l)/\U.rt k=none
structure Ev (B:Base) (w:World) (U:AE) (M:Gh) (U':AE) (M':Gh):Prop where
 ov:M'.ov=M.ov
 pd:U'.pd=U.pd
 shr:∀c,Shr B w M c->Shr B w M' c
 av:∀a v,a0l (a0a w M.ov) M.g U.rt (Shr B w M) a v->a0l (a0a w M.ov) M'.g U'.rt (Shr B w M') a v\/b2J U' a
 dg:∀a,b2J U a->b2J U' a
theorem Ev.refl{B w U M}:Ev B w U M U M:=⟨rfl,rfl,fun _ h=>h,fun _ _ h=>.inl h,fun _ h=>h⟩
theorem Ev.trans{B w U M U' M' U'' M''}(h:Ev B w U M U' M')(f:Ev B w U' M' U'' M''):Ev B w U M U'' M'':=
 ⟨f.ov.trans h.ov,f.pd.trans h.pd,fun c b=>f.shr c (h.shr c b),fun a v k=>by
  rcases h.av a v k with g|g
  have:=f.av a v (by rw[h.ov];omega)
  rw[h.ov]at this;omega;exact .inr (f.dg a g),fun a k=>f.dg a (h.dg a k)⟩
theorem Ev.live{B w U M U' M'}(h:Ev B w U M U' M'){a v}(f:a0l (a0a w M.ov) M.g U.rt (Shr B w M) a v\/b2J U a):a0l (a0a w M'.ov) M'.g U'.rt (Shr B w M') a v\/b2J U' a:=by
 rw[h.ov];rcases f with g|g;exact h.av a v g;exact .inr (h.dg a g)
theorem Ev.vok{B w U M U' M'}(h:Ev B w U M U' M'){t x v}(hv:VOk (a0a w M.ov) (Shr B w M) t x v):VOk (a0a w M'.ov) (Shr B w M') t x v:=by
 rw[h.ov];exact hv.frame (fun _ _ _=>rfl) h.shr
theorem Ev.gone{B w U M}{f:AV->AV}:Ev B w U M ((U.mapv f).setRt n none) ⟨M.g,fun m=>if m=n then[]else M.ow m,M.ov⟩:=by
 refine⟨rfl,rfl,fun c h=>Rel.shr_gone c h,fun a v d=>?_,fun a ⟨k,q,b,i⟩=>⟨k,q,b,?_⟩⟩
 by_cases hd:∃k q,(a=.ptr k q\/a=.sref k q\/∃o l,a=.swin k q o l)/\k=n
 obtain⟨k,q,b,rfl⟩:=hd;exact .inr ⟨k,q,b,by simp[AE.setRt]⟩;exact .inl (d.other (n:=n) (fun c h=>Rel.shr_gone c h) (fun k j=>by simp_all[AE.setRt,AE.mapv,c3n]) (fun _ _=>rfl) (fun k q h e=>hd ⟨k,q,h,e⟩));simp_all[AE.setRt,AE.mapv]
theorem a0K{U:AE}{n:Nat}{r:Root}(h:U.look n=some r):U.pd=none/\U.rt n=some r:=by
 grind[AE.look]
theorem Rel.slice{B U N tm w M}(h:Rel B U N tm w M){n p v r}(D:a0l (a0a w M.ov) M.g U.rt (Shr B w M) (.sref n p) v)(q:U.rt n=some r)(F:a0T r.t r.x p=⟨.list true e,l⟩):
  ∃s f k,loc (a0a w M.ov) r.t (M.g n) p=some (.list true e,s)/\s.rd (a0a w M.ov) 0=some v/\dec (a0a w M.ov) (.list true e) (s.rd (a0a w M.ov))=some (l,f,k)/\
   dec (a0a w M.ov) (.list true e) ((Src.one v).rd (a0a w M.ov))=some (l,f,k)/\(∀c∈k,Shr B w M c)/\(∀c∈f.map (·.1),c∈(M.ow n).map (·.1)):=by
 obtain⟨V,z,s,b,m,o⟩:=D;rw[q]at b;simp at b;subst b;obtain⟨L,R1,G,H,R,I,S,T⟩:=h.sep q;obtain⟨y,f,k,A,B',K,u,i,a,O,P⟩:=a1w p r.t _ G m;rw[F]at a;have C:e=z:=by grind
 subst C;have a:=eq_of_heq (Sigma.mk.inj a).2;subst a;refine⟨s,f,k,m,o,i,a0y _ i (fun j Q=>?_) (fun _ _ _=>rfl),fun c E=>H c (by simp_all),fun c E=>I c (by simp_all)⟩;have d:j=0:=by simp_all[Ty.cells]
 subst d;rw[o];rfl
theorem Rel.window{B U N tm w M}(h:Rel B U N tm w M){n p v r off len}(u:a0l (a0a w M.ov) M.g U.rt (Shr B w M) (.swin n p off len) v)(m:U.rt n=some r)(y:a0T r.t r.x p=⟨.list true e,l⟩):
  ∃s b d a f c,loc (a0a w M.ov) r.t (M.g n) p=some (.list true e,s)/\s.rd (a0a w M.ov) 0=some (.slice a f c)/\dec (a0a w M.ov) (.list true e) ((Src.one (.slice a f c)).rd (a0a w M.ov))=some (l,b,d)/\
   (∀c∈d,Shr B w M c)/\(∀c∈b.map (·.1),c∈(M.ow n).map (·.1))/\off+len<=f/\∃a',v=.slice a' len (c-off)/\(∀A,a'=some A->c=off\/A.spot=none)/\(c=off\/a'=a.map fun A=>A.add (off*e.cells)):=by
 obtain⟨C,o,s,a,f,c,k,j,q,H,I⟩:=u;have z:a0l (a0a w M.ov) M.g U.rt (Shr B w M) (.sref n p) (.slice a f c):=⟨C,o,s,k,j,q⟩;obtain⟨s',b,d,i,D,-,E,F,G⟩:=h.slice z m y;rw[m]at k;simp at k;subst k;rw[j]at i;simp at i;obtain⟨rfl,rfl⟩:=i
 grind
theorem c8y{x:List e.den}{O R}(h:dec m (.list true e) ((Src.one v).rd m)=some (x,O,R)):a1A v=true:=by
 rcases a2a h with⟨hv,-⟩|⟨A,n,c,os,hv,-⟩<;>simp only[Src.rd,if_true,sj]at hv<;>rw[hv]<;>rfl
theorem VOk.empty{m Sh e}{a:Option Addr}:VOk m Sh (.list false e) ([]:List e.den) (.slice a 0 0):=by
 refine VOk.one (t:=.list false e) (R:=[]) rfl rfl ?_ (by simp) rfl;show a0Y m false e.cells (dec m e) (some (.slice a 0 0))=_;cases a with
 |none=>rfl
 |some A=>rfl
theorem VOk.nil_nl{m Sh e}:VOk m Sh (.nl e) ([]:List e.den) (.slice none 0 0):=
 VOk.one (t:=.nl e) (R:=[]) rfl rfl rfl (by simp) rfl
theorem VOk.valAV{m:Mem}{g:Nat->Src}{rt:Nat->Option Root}{Sh:Nat->Prop}{v:Value}:∀{t:Ty}{x:t.den},VOk m Sh t x v->a0l m g rt Sh (valAV t x) v
 |.nl e,x,h=>by
  obtain⟨-,f,R,k,-⟩:=h;have f:=f rfl;simp only[dec]at k
  split at k
  rename_i hv;have a:v=.slice none 0 0:=by
   cases v<;>first|(cases f;done)|(simp[Value.cells]at hv;done)|(simpa[Value.cells]using hv)
  subst a;exact rfl;cases k
 |.int _,_,h|.bool,_,h|.str,_,h|.unit,_,h|.list _ _,_,h|.pair _ _,_,h|.arr _ _,_,h=>h
theorem Rel.sref_vok{B U N tm w M}(h:Rel B U N tm w M){n p v r}(b:a0l (a0a w M.ov) M.g U.rt (Shr B w M) (.sref n p) v)(j:U.rt n=some r)(i:a0T r.t r.x p=⟨.list true e,l⟩):
  VOk (a0a w M.ov) (fun c=>Shr B w M c\/c∈(M.ow n).map (·.1)) (.list false e.sh) (Ty.shx (.list false e) l) v:=by
 obtain⟨s,q,u,y,z,A,f,k,a⟩:=h.slice b j i;obtain⟨R1,m,o⟩:=a7C _ f;exact VOk.one (t:=.list false e.sh) rfl (c8y f) m (fun c d=>(o c d).elim (fun g=>.inr (a c g)) (fun g=>.inl (k c g))) rfl
theorem Rel.swin_vok{B U N tm w M}(h:Rel B U N tm w M){n p v r off len}(j:a0l (a0a w M.ov) M.g U.rt (Shr B w M) (.swin n p off len) v)(q:U.rt n=some r)(o:a0T r.t r.x p=⟨.list true e,l⟩):
  VOk (a0a w M.ov) (fun c=>Shr B w M c\/c∈(M.ow n).map (·.1)) (.list false e.sh) (Ty.shx (.list false e) ((l.drop off).take len)) v:=by
 obtain⟨s,z,A,a,F,c,D,E,f,k,b,d,C,rfl,i,g8⟩:=h.window j q o;obtain⟨R1,u,y⟩:=d6r f d i g8;exact VOk.one (t:=.list false e.sh) rfl rfl u (fun c m=>(y c m).elim (fun g=>.inr (b c g)) (fun g=>.inl (k c g))) rfl
theorem Ty.le_agg:∀(a b:Ty),a.le b=true->a.isAgg=b.isAgg
 |.nl a,.list o b,_|.nl a,.nl b,_|.pair a b,.pair a' b',_=>rfl
 |.nl a,.int _,h|.nl a,.bool,h|.nl a,.str,h|.nl a,.unit,h|.nl a,.pair _ _,h|.nl a,.arr _ _,h=>by simp[Ty.le]at h
 |.pair a b,.int _,h|.pair a b,.bool,h|.pair a b,.str,h|.pair a b,.unit,h|.pair a b,.arr _ _,h|.pair a b,.list _ _,h|.pair a b,.nl _,h=>by simp[Ty.le]at h
 |.int _,b,h|.bool,b,h|.str,b,h|.unit,b,h|.list _ _,b,h|.arr _ _,b,h=>by
  simp only[Ty.le,dT]at h;rw[h]
theorem b9L{t' t:Ty}{x:t'.den}{y:t.den}{rd:Nat->Option Value}{R:List Nat}(g:castTo t' t x=some y)(h:dec m t' rd=some (x,[],R)):dec m t rd=some (y,[],R):=by
 grind[castTo,d2o]
theorem c9Q{t' t:Ty}{x:t'.den}{y:t.den}(h:castTo t' t x=some y):t'.isAgg=t.isAgg/\t'.cells=t.cells:=by
 unfold castTo at h
 split at h
 simp_all
 grind[Ty.le_agg,Ty.le_cells]
theorem VOk.castTo{m:Mem}{Sh:Nat->Prop}{t' t:Ty}{x:t'.den}{y:t.den}{v:Value}(f:castTo t' t x=some y)(h:VOk m Sh t' x v):VOk m Sh t y v:=by
 obtain⟨e,a,R,b,c⟩:=h;obtain⟨k,d⟩:=c9Q f;exact⟨fun g=>by simp_all,fun g=>a (k.trans g),R,b9L f b,c⟩
theorem Rel.view{Z:Type}{B U N tm w M}(h:Rel B U N tm w M){t a v}{K:t.den->Rs Z}{z:Z}(d:a0l (a0a w M.ov) M.g U.rt (Shr B w M) a v\/b2J U a)(f:U.view t a K=some z):
  ∃x,K x=some z/\VOk (a0a w M.ov) (fun c=>Shr B w M c\/(a0P M c/\U.pd=none)) t x v:=by
 have F:∀b,(∀k q,(b=.ptr k q\/b=.sref k q\/∃o l,b=.swin k q o l)->False)->¬ b2J U b:=fun b hb ⟨k,q,C,_⟩=>hb k q C;cases a with
 |glob g=>
  simp_all[AE.view]
 |val t' x=>
  simp[AE.view]at f
  split at f
  rename_i y E;rcases d with d|d;exact⟨y,f,VOk.frame (VOk.castTo E d) (fun _ _ _=>rfl) (fun c i=>.inl i)⟩;simp_all;simp_all
 |nils=>
  rcases d with rfl|d;cases t<;>simp only[AE.view]at f<;>try cases f
  rename_i o e;cases o;exact⟨[],f,VOk.empty⟩;cases f;exact⟨_,f,VOk.nil_nl⟩;simp_all
 |empt=>
  cases t<;>simp only[AE.view]at f<;>try cases f
  rename_i o e;cases o
  ·rcases d with⟨A,rfl⟩|d
   all_goals grind[VOk.empty]
  simp_all
 |sref n p=>
  simp[AE.view]at f
  split at f
  rename_i r m;obtain⟨j,m⟩:=a0K m
  split at f
  rename_i e l s
  split at f
  rename_i u;subst u;rcases d with d|⟨k,q,i,D⟩;exact⟨_,f,(h.sref_vok d m s).frame (fun _ _ _=>rfl) (fun c i=>i.imp id fun g=>⟨⟨n,g⟩,j⟩)⟩;simp_all;simp_all;simp_all;simp_all
 |swin n p o k=>
  simp[AE.view]at f
  split at f
  rename_i r m;obtain⟨j,m⟩:=a0K m
  split at f
  rename_i e l s
  split at f
  rename_i u;subst u;rcases d with d|⟨k,q,i,D⟩;exact⟨_,f,(h.swin_vok d m s).frame (fun _ _ _=>rfl) (fun c i=>i.imp id fun g=>⟨⟨n,g⟩,j⟩)⟩;simp_all;simp_all;simp_all;simp_all
 |dead|skp|nilp|ptr|vptr=>cases f
theorem Rel.viewR{B U N tm w M}(h:Rel B U N tm w M){t a v}{K:t.den->Rs Z}(d:a0l (a0a w M.ov) M.g U.rt (Shr B w M) a v\/b2J U a)(f:U.view t a K=some z):
  ∃x,K x=some z/\VOk (a0a w M.ov) (fun c=>Shr B w M c\/∃n,n∈a.viewed/\c∈(M.ow n).map (·.1)) t x v:=by
 have F:∀b,(∀k q,(b=.ptr k q\/b=.sref k q\/∃o l,b=.swin k q o l)->False)->¬ b2J U b:=fun b hb ⟨k,q,C,_⟩=>hb k q C;cases a with
 |glob g=>
  simp_all[AE.view]
 |val t' x=>
  simp[AE.view]at f
  split at f
  rename_i y E;rcases d with d|d;exact⟨y,f,VOk.frame (VOk.castTo E d) (fun _ _ _=>rfl) (fun c i=>.inl i)⟩;simp_all;simp_all
 |nils=>
  rcases d with rfl|d;cases t<;>simp only[AE.view]at f<;>try cases f
  rename_i o e;cases o;exact⟨[],f,VOk.empty⟩;cases f;exact⟨_,f,VOk.nil_nl⟩;simp_all
 |empt=>
  cases t<;>simp only[AE.view]at f<;>try cases f
  rename_i o e;cases o
  ·rcases d with⟨A,rfl⟩|d
   all_goals grind[VOk.empty]
  simp_all
 |sref n p=>
  simp[AE.view]at f
  split at f
  rename_i r j;obtain⟨s,j⟩:=a0K j
  split at f
  rename_i e l m
  split at f
  rename_i u;subst u;rcases d with d|⟨k,q,i,D⟩;exact⟨_,f,(h.sref_vok d j m).frame (fun _ _ _=>rfl) (fun c i=>i.imp id fun g=>⟨n,by simp[AV.viewed],g⟩)⟩;simp_all;simp_all;simp_all;simp_all
 |swin n p o k=>
  simp[AE.view]at f
  split at f
  rename_i r j;obtain⟨s,j⟩:=a0K j
  split at f
  rename_i e l m
  split at f
  rename_i u;subst u;rcases d with d|⟨k,q,i,D⟩;exact⟨_,f,(h.swin_vok d j m).frame (fun _ _ _=>rfl) (fun c i=>i.imp id fun g=>⟨n,by simp[AV.viewed],g⟩)⟩;simp_all;simp_all;simp_all;simp_all
 |dead|skp|nilp|ptr|vptr=>cases f
def a3J(V:Nat->Prop)(U:AE)(M:Gh)(U':AE)(M':Gh):Prop:=
 (∀n r,r.bx=true\/¬ V n->U.rt n=some r->U'.rt n=some r/\M'.g n=M.g n/\M'.ow n=M.ow n)/\∀(j:Nat) t y,U.get j=.val t y->U'.get j=.val t y
theorem a3J.refl{V U M}:a3J V U M U M:=⟨fun _ _ _ h=>⟨h,rfl,rfl⟩,fun _ _ _ h=>h⟩
theorem a3J.trans{V U M U' M' U'' M''}(h:a3J V U M U' M')(g:a3J V U' M' U'' M''):a3J V U M U'' M'':=⟨fun n r hb k=>by
 obtain⟨a,b,c⟩:=h.1 n r hb k;obtain⟨d,e,i⟩:=g.1 n r hb a;simp_all,fun j t y f=>g.2 j t y (h.2 j t y f)⟩
theorem a3J.mono{V V':Nat->Prop}{U M U' M'}(h:a3J V U M U' M')(hv:∀n,V n->V' n):a3J V' U M U' M':=⟨fun n r hb=>h.1 n r (hb.imp id fun g f=>g (hv n f)),h.2⟩
theorem a3J.gone{U:AE}{M:Gh}(d:U.rt n=some r)(hb:r.bx=false)(f:AV->AV)(ov)(b:∀t y,f (.val t y)=.val t y):
  a3J (·∈[n]) U M ((U.mapv f).setRt n none) ⟨M.g,fun m=>if m=n then[]else M.ow m,ov⟩:=by
 refine⟨fun m i k h=>?_,fun j t y c=>?_⟩;have a:m≠n:=by
  grind
 have e:(m==n)=false:=by simp_all
 exact⟨by simp[AE.setRt,AE.mapv,e,h],rfl,by simp_all⟩
 grind[AE.get,AE.setRt,AE.mapv,SV.mapv]
theorem Rel.asVB{B U N tm w M}(h:Rel B U N tm w M){q t a v}{K:t.den->AE->Rs Z}(i:a0l (a0a w M.ov) M.g U.rt (Shr B w M) a v\/b2J U a)(f:U.asV q t a K=some z):
  ∃x U' M',K x U'=some z/\Rel B U' N tm w M'/\VOk (a0a w M'.ov) (Shr B w M') t x v/\Ev B w U M U' M'/\(q=true->U'=U/\M'=M)/\a3J (·∈a.viewed) U M U' M':=by
 have H:∀b,(∀k q,(b=.ptr k q\/b=.sref k q\/∃o l,b=.swin k q o l)->False)->¬ b2J U b:=fun b hb ⟨k,q,E,_⟩=>hb k q E;cases a with
 |glob g=>
  simp_all[AE.asV]
 |val t' x=>
  simp[AE.asV]at f
  split at f
  rename_i y G;rcases i with i|i;exact⟨y,U,M,f,h,VOk.castTo G i,Ev.refl,fun _=>⟨rfl,rfl⟩,a3J.refl⟩;simp_all;simp_all
 |nils=>
  rcases i with rfl|i;cases t<;>simp only[AE.asV]at f<;>try cases f
  rename_i o e;cases o;exact⟨[],U,M,f,h,VOk.empty,Ev.refl,fun _=>⟨rfl,rfl⟩,a3J.refl⟩;cases f;exact⟨_,U,M,f,h,VOk.nil_nl,Ev.refl,fun _=>⟨rfl,rfl⟩,a3J.refl⟩;simp_all
 |empt=>
  cases t<;>simp only[AE.asV]at f<;>try cases f
  rename_i o e;cases o;rcases i with⟨A,rfl⟩|i;exact⟨[],U,M,f,h,VOk.empty,Ev.refl,fun _=>⟨rfl,rfl⟩,a3J.refl⟩;simp_all;simp_all
 |sref n p=>
  cases p with
  |cons=>simp_all[AE.asV]
  |nil=>
   simp only[AE.asV]at f
   split at f
   grind
   rename_i hq
   split at f
   rename_i e l j;obtain⟨C,j⟩:=a0K j
   split at f
   rename_i D;subst D;rcases i with i|⟨k,q,u,F⟩;have hv:=h.sref_vok i j rfl;refine⟨_,_,_,f,h.frz j (by simp_all),hv.frame (fun _ _ _=>rfl) (fun c u=>?_),Ev.gone,fun e=>absurd e hq,a3J.gone j rfl _ _ (fun _ _=>rfl)⟩;rcases u with g|g;exact Rel.shr_gone c g;have d:a0P M c:=⟨n,g⟩;refine⟨h.lt d,.inr (h.mine c d),fun⟨m,r⟩=>?_⟩;have r:c∈(if m=n then[]else M.ow m).map (·.1):=r
   split at r
   simp_all;rename_i s;exact h.disj m n s c r g;simp_all;simp_all;simp_all
 |swin n p o k=>
  cases p with
  |cons=>simp_all[AE.asV]
  |nil=>
   simp only[AE.asV]at f
   split at f
   grind
   rename_i hq
   split at f
   rename_i e l j;obtain⟨C,j⟩:=a0K j
   split at f
   rename_i D;subst D;rcases i with i|⟨k,q,u,F⟩;have hv:=h.swin_vok i j rfl;refine⟨_,_,_,f,h.frz j (by simp_all),hv.frame (fun _ _ _=>rfl) (fun c u=>?_),Ev.gone,fun e=>absurd e hq,a3J.gone j rfl _ _ (fun _ _=>rfl)⟩;rcases u with g|g;exact Rel.shr_gone c g;have d:a0P M c:=⟨n,g⟩;refine⟨h.lt d,.inr (h.mine c d),fun⟨m,r⟩=>?_⟩;have r:c∈(if m=n then[]else M.ow m).map (·.1):=r
   split at r
   simp_all;rename_i s;exact h.disj m n s c r g;simp_all;simp_all;simp_all
 |dead|skp|nilp|ptr|vptr=>cases f
theorem Rel.asV{Z:Type}{B U N tm w M}(h:Rel B U N tm w M){q t a v}{K:t.den->AE->Rs Z}{z:Z}(b:a0l (a0a w M.ov) M.g U.rt (Shr B w M) a v\/b2J U a)(k:U.asV q t a K=some z):
  ∃x f M',K x f=some z/\Rel B f N tm w M'/\VOk (a0a w M'.ov) (Shr B w M') t x v/\Ev B w U M f M'/\(q=true->f=U/\M'=M):=by
 obtain⟨x,f,M',c,d,e,i,j,-⟩:=h.asVB b k
 grind
def a2v:Ty->(Nat->Option Value)->Bool
 |.int k,rd=>match rd 0 with
  |some (.int k' n)=>decide (k'=k)&&n==0
  |_=>false
 |.bool,rd=>match rd 0 with
  |some (.bool b)=>!b
  |_=>false
 |.str,rd=>match rd 0 with
  |some (.string s)=>s.size==0
  |_=>false
 |.unit,_=>true
 |.pair a b,rd=>a2v a rd&&a2v b (fun j=>rd (a.cells+j))
 |.arr n t,rd=>(a28 n).all fun i=>a2v t fun j=>rd (i*t.cells+j)
 |.list _ _,rd=>match rd 0 with
  |some (.slice none 0 0)=>true
  |_=>false
 |.nl _,rd=>match rd 0 with
  |some (.slice none 0 0)=>true
  |_=>false
theorem b4n{α:Type}{f:Nat->Option (α×a1k×List Nat)}{x:α}:∀(n i:Nat),(∀j,i<=j->j<i+n->f j=some (x,[],[]))->a0j f n i=some (a08 n x,[],[])
 |0,_,_=>rfl
 |n+1,i,h=>by
  simp only[a0j,h i (a18 _) (by omega),b4n n (i+1) (fun j g k=>h j (by omega) (by omega))];rfl
theorem a6v{m:Mem}:∀(t:Ty){rd:Nat->Option Value},a2v t rd=true->dec m t rd=some (t.dflt,[],[])
 |.int k,rd,h=>by
  simp[a2v]at h
  split at h
  rename_i k' n hv;simp at h;simp only[dec,hv,h.1,if_true,h.2];rfl;simp_all
 |.bool,rd,h=>by
  simp[a2v]at h
  split at h
  rename_i b hv;simp at h;simp only[dec,hv,h];rfl;simp_all
 |.str,rd,h=>by
  simp[a2v]at h
  split at h
  rename_i s hv;have g:s.data.toList=[]:=by
   simp_all
  simp only[dec,hv,g];rfl;simp_all
 |.unit,rd,h=>rfl
 |.pair a b,rd,h=>by
  simp only[a2v,bA9]at h;exact a9e (a6v a h.1) (a6v b h.2)
 |.arr n t,rd,h=>by
  simp only[a2v,lA,List.mem_range]at h;exact b4n n 0 fun j _ f=>a6v t (h j (by omega))
 |.list o t,rd,h=>by
  simp[a2v]at h
  split at h
  rename_i hv;show a0Y m o t.cells (dec m t) (rd 0)=_;rw[hv];rfl;simp_all
 |.nl t,rd,h=>by
  simp[a2v]at h
  split at h
  rename_i hv;simp only[dec,hv];rfl;simp_all
def a5R(P:Program)(τ:Ty)(t:TypeId):Bool:=
 match P.info? t with
 |some i=>i.size==τ.cells&&decide (i.bytes<=32768)&&(match i.zero with
  |some z=>z.cells.size==τ.cells&&a2v τ (fun j=>z.cells[j]?)&&(match z with|.agg _=>τ.isAgg|_=>!τ.isAgg)
  |none=>false)
 |none=>false
def a0u(P:Program):Ty->TypeId ⊕ (List Field×Nat)->Bool
 |.int k,.inl t=>a5R P (.int k) t&&(match P.underlying t with|some (.int k')=>decide (k'=k)|_=>false)
 |.bool,.inl t=>a5R P .bool t&&(match P.underlying t with|some .bool=>true|_=>false)
 |.str,.inl t=>a5R P .str t&&(match P.underlying t with|some .string=>true|_=>false)
 |.list o e,.inl t=>a5R P (.list o e) t&&(match P.underlying t with|some (.slice t')=>a0u P e (.inl t')&&decide (0<e.cells)|_=>false)
 |.nl e,.inl t=>a5R P (.nl e) t&&(match P.underlying t with|some (.slice t')=>a0u P e (.inl t')&&decide (0<e.cells)|_=>false)
 |.arr n e,.inl t=>a5R P (.arr n e) t&&(match P.underlying t with|some (.array n' t')=>n'==n&&a0u P e (.inl t')&&decide (0<e.cells)|_=>false)
 |.pair a b,.inl t=>a5R P (.pair a b) t&&(match P.underlying t with
  |some (.struct fs)=>(match fs.toList with
   |f::r=>f.offset==0&&a0u P a (.inl f.type)&&decide (0<a.cells)&&a0u P b (.inr (r,a.cells))
   | []=>false)
  |_=>false)
 |.unit,.inl t=>a5R P .unit t&&(match P.underlying t with|some (.struct fs)=>fs.isEmpty|_=>false)
 |.pair a b,.inr (f::r,off)=>f.offset==off&&a0u P a (.inl f.type)&&decide (0<a.cells)&&a0u P b (.inr (r,off+a.cells))
 |.unit,.inr ([],_)=>true
 |_,.inr _=>false
theorem a0L(h:a0u P τ (.inl t)=true):a5R P τ t=true:=by
 cases τ<;>simp only[a0u,bA9]at h<;>exact h.1
structure Info (P:Program) (τ:Ty) (t:TypeId) where
 i:TypeInfo
 z:Value
 info:P.info? t=some i
 size:i.size=τ.cells
 bytes:i.bytes<=32768
 zero:i.zero=some z
 zsize:z.cells.size=τ.cells
 zok:a2v τ (fun j=>z.cells[j]?)=true
 zagg:∀cs,z=.agg cs->τ.isAgg=true
 znot:(∀cs,z≠.agg cs)->τ.isAgg=false
theorem a0D(h:a5R P τ t=true):Nonempty (Info P τ t):=by
 unfold a5R at h
 split at h
 ·rename_i i hi;simp at h;obtain⟨⟨g,f⟩,h3⟩:=h
  split at h3
  ·rename_i z c;simp at h3;obtain⟨⟨k,a⟩,h6⟩:=h3;refine⟨⟨i,z,hi,g,f,c,k,a,fun cs e=>?_,fun b=>?_⟩⟩
   all_goals simp_all
  simp_all
 simp_all
theorem a6w(h:a0u P τ (.inl t)=true)(w:World):(isAgg t).run P w=.ok τ.isAgg w:=by
 cases τ<;>simp only[a0u,bA9]at h<;>obtain⟨-,h⟩:=h<;>split at h<;>first|(rename_i g;simp[isAgg,run_underlying g,Ty.isAgg];done)|cases h
theorem Info.sizeOf{P:Program}{τ:Ty}{t:TypeId}(I:Info P τ t)(w:World):(sizeOf t).run P w=.ok τ.cells w:=by
 simp[Go.sizeOf,typeInfo,I.info,I.size]
theorem Info.typeInfo{P:Program}{τ:Ty}{t:TypeId}(I:Info P τ t)(w:World):(typeInfo t).run P w=.ok I.i w:=by
 simp[Go.typeInfo,I.info]
theorem Info.zeroValue{P:Program}{τ:Ty}{t:TypeId}(I:Info P τ t)(w:World):(zeroValue t).run P w=.ok I.z w:=by
 simp[Go.zeroValue,Go.typeInfo,I.info,I.zero]
theorem a6x{m:Mem}:∀(t:Ty){rd:Nat->Option Value}{x o r},dec m t rd=some (x,o,r)->∀j,j<t.cells->∃v,rd j=some v/\a1A v=true
 |.int k,rd,x,o,r,h,j,hj=>by
  have g:j=0:=by simp_all[Ty.cells]
  subst g;simp[dec]at h
  split at h
  rename_i hv;exact⟨_,hv,rfl⟩;simp_all
 |.bool,rd,x,o,r,h,j,hj=>by
  have g:j=0:=by simp_all[Ty.cells]
  subst g;simp[dec]at h
  split at h
  rename_i hv;exact⟨_,hv,rfl⟩;simp_all
 |.str,rd,x,o,r,h,j,hj=>by
  have g:j=0:=by simp_all[Ty.cells]
  subst g;simp[dec]at h
  split at h
  rename_i hv;exact⟨_,hv,rfl⟩;simp_all
 |.unit,rd,x,o,r,h,j,hj=>by simp[Ty.cells]at hj
 |.pair a b,rd,x,o,r,h,j,hj=>by
  obtain⟨u,o1,s,w,o2,r2,f,c,-⟩:=a2u h
  by_cases hja:j<a.cells
  exact a6x a f j hja
  have:=a6x b c (j-a.cells) (by simp only[Ty.cells]at hj;omega)
  rwa [show a.cells+(j-a.cells)=j from by omega]at this
 |.arr n t,rd,x,o,r,h,j,hj=>by
  have h:a0j (fun i=>dec m t fun j=>rd (i*t.cells+j)) n 0=some (x,o,r):=h;simp[Ty.cells]at hj;have d:0<t.cells:=by
   grind
  have hi:j / t.cells<n:=Nat.div_lt_of_lt_mul (by grind);obtain⟨y,p,q,A,B,l,B',e,-⟩:=a0V n 0 (j / t.cells) h hi
  have:=a6x t e (j%t.cells) (Nat.mod_lt _ d)
  simp_all[Nat.div_add_mod']
 |.list ow t,rd,x,o,r,h,j,hj=>by
  have g:j=0:=by simp_all[Ty.cells]
  subst g;have h:a0Y m ow t.cells (dec m t) (rd 0)=some (x,o,r):=h;unfold a0Y at h
  split at h
  rename_i hv;exact⟨_,hv,rfl⟩;rename_i hv;exact⟨_,hv,rfl⟩;simp_all
 |.nl t,rd,x,o,r,h,j,hj=>by
  have g:j=0:=by simp_all[Ty.cells]
  subst g;exact⟨_,(c1o h).1,rfl⟩
theorem b6i{t:Ty}(h:t.isAgg=false):t.cells=1:=by
 cases t<;>first|rfl|cases h
theorem b5F{x R}(l:a0u P τ (.inl t)=true)(h:dec m τ ((Src.at b o).rd m)=some (x,[],R))(q:∀j,j<τ.cells->w.cell? ⟨b,o+j,none⟩=m b (o+j))(n:∀c∈R,Sh c):
  ∃v,(Instr.loadAt t (.pointer (some ⟨b,o,none⟩))).run P w=.ok v w/\VOk m Sh τ x v:=by
 obtain⟨I⟩:=a0D (a0L l);have f:=a6x τ h;cases hagg:τ.isAgg with
 |false=>
  have p:=b6i hagg;obtain⟨v,hv,r⟩:=f 0 (by omega);have z:w.cell? ⟨b,o,none⟩=some v:=by have:=q 0 (by omega);simp at this;rw[this];exact hv
  refine⟨v,?_,VOk.one hagg r (a0y τ h (fun j k=>?_) (fun _ _ _=>rfl)) n p⟩;simp[Instr.loadAt,Instr.sureAddr,loadVar,a6w l,hagg,z];have i:j=0:=by omega
  subst i;rw[hv];rfl
 |true=>
  let cs:List Value:=(a28 τ.cells).map fun j=>(m b (o+j)).getD undef
  have e:∀j v,cs[j]?=some v->w.cell? ((⟨b,o,none⟩:Addr).add j)=some v:=by
   intro j v k;simp only[cs,a30]at k;have a:j<τ.cells:=by
    grind
   rw[List.getElem?_range a]at k;simp at k;obtain⟨u,s,-⟩:=f j a;have y:m b (o+j)=some u:=s;simp_all[Addr.add_lit]
  have d:cs.length=τ.cells:=by grind
  refine⟨.agg cs.toArray,?_,fun _=>⟨_,rfl,by omega⟩,fun g=>(by simp_all),R,?_,n⟩
  have:=run_loadCells_list (P:=P) w ⟨b,o,none⟩ cs e
  rw[d]at this;simp[Instr.loadAt,Instr.sureAddr,loadVar,a6w l,hagg,I.sizeOf,this];refine a0y τ h (fun j k=>?_) (fun _ _ _=>rfl)
  grind[Value.cells,Src.rd]
theorem VOk.cells{m Sh}{τ:Ty}{x:τ.den}{v:Value}(h:VOk m Sh τ x v):v.cells.size=τ.cells/\∀u∈v.cells.toList,a1A u=true:=by
 obtain⟨k,a,R,c,d⟩:=h;have f:v.cells.size=τ.cells:=by
  cases hagg:τ.isAgg with
  |true=>obtain⟨cs,rfl,g⟩:=k hagg;exact g
  |false=>
   have:=a hagg
   rw[b6i hagg];cases v<;>first|rfl|cases this
 refine⟨f,fun u b=>?_⟩;obtain⟨j,e,rfl⟩:=List.getElem_of_mem b
 grind[a6x]
theorem a9r(h:a1A v=true):v.oneCell'=true:=by
 cases v<;>first|rfl|cases h
theorem a4r(b:Nat):∀(vs:List Value)(o:Nat)(w:World)(c:Nat),c≠b->(w.setCells b o vs).heap[c]?=w.heap[c]?
 | [],_,_,_,_=>rfl
 |v::r,o,w,c,h=>by
  rw[World.setCells,a4r b r (o+1) _ c h,a9U,if_neg h]
theorem a6o(b:Nat):∀(vs:List Value)(o:Nat)(w:World),(w.setCells b o vs).heap.size=w.heap.size
 | [],_,_=>rfl
 |v::r,o,w=>by rw[World.setCells,a6o b r (o+1),World.size_setCell]
theorem a0Q.setCells{b0 k:Nat}(b:Nat):∀(vs:List Value)(o:Nat){w:World},a0Q w b0 k->a0Q (w.setCells b o vs) b0 k
 | [],_,_,h=>h
 |_::r,o,_,h=>a0Q.setCells b r (o+1) (h.setCell _ _)
theorem a8G(b:Nat):∀(vs:List Value)(o:Nat)(w:World)(k:Nat),a0Q w b k->o+vs.length<=k->∀c j,
  (w.setCells b o vs).cell? ⟨c,j,none⟩=if c=b/\o<=j/\j<o+vs.length then vs[j-o]? else w.cell? ⟨c,j,none⟩
 | [],o,w,k,hf,hk,c,j=>by
  rw[if_neg (by simp)];rfl
 |v::r,o,w,k,hf,hk,c,j=>by
  simp at hk;rw[World.setCells,a8G b r (o+1) _ k (hf.setCell _ _) (by omega) c j]
  by_cases h1:c=b/\o+1<=j/\j<o+1+r.length
  grind
  ·rw[if_neg h1]
   by_cases h2:c=b/\j=o
   obtain⟨rfl,rfl⟩:=h2;obtain⟨u,h⟩:=a25.1 (hf.cell (o:=j) (by omega)).1;rw[World.cell?_setCell_same _ _ _ h,if_pos ⟨rfl,a18 _,by simp⟩]
   simp
   ·rw[World.cell?_setCell_other,if_neg]
    all_goals grind
theorem c1q(d:a0u P τ (.inl t)=true)(f:v.cells.size=τ.cells)(a:∀u∈v.cells.toList,a1A u=true)(h:a0Q w b k)(i:o+τ.cells<=k):
  (Instr.storeAt t (.pointer (some ⟨b,o,none⟩)) v).run P w=.ok () (w.setCells b o v.cells.toList):=by
 obtain⟨I⟩:=a0D (a0L d);have g:v.cells.toList.length=τ.cells:=by omega
 have:=run_storeCells_cells (P:=P) b o v.cells.toList 0 w (fun j c=>(h.cell (o:=o+0+j) (by omega)).1) (fun j c=>(h.cell (o:=o+0+j) (by omega)).2) (fun u e=>a9r (a u e))
 simp[Instr.storeAt,Instr.sureAddr,storeVar,I.sizeOf,f];omega
theorem c4c{m Sh}{x:τ.den}(f:a0u P τ (.inl t)=true)(hv:VOk m Sh τ x v)(h:a0Q w b k)(g:o+τ.cells<=k):
  (Instr.storeAt t (.pointer (some ⟨b,o,none⟩)) v).run P w=.ok () (w.setCells b o v.cells.toList):=
 c1q f hv.cells.1 hv.cells.2 h g
theorem b5G{P:Program}:∀(f:Nat)(τ:Ty)(fs:List Field)(off:Nat),a0u P τ (.inr (fs,off))=true->a1Z τ f=true->
  ∃fl τ' k,fs[f]?=some fl/\fl.offset=off+k/\a0u P τ' (.inl fl.type)=true/\0<τ'.cells/\∀(m:Mem) b o,loc m τ (.at b o) (a1l f)=some (τ',.at b (o+k))
 |0,τ,fs,off,h,hf=>by
  cases τ with
  |pair a b=>
   cases fs with
   |nil=>simp[a0u]at h
   |cons fl r=>
    simp[a0u]at h;exact⟨fl,a,0,rfl,by omega,h.1.1.2,h.1.2,fun _ _ _=>rfl⟩
  |_=>simp[a1Z]at hf
 |f+1,τ,fs,off,h,hf=>by
  cases τ with
  |pair a b=>
   cases fs with
   |nil=>simp[a0u]at h
   |cons fl r=>
    simp only[a0u,bA9]at h;obtain⟨g,τ',k,j,l,d,e,i⟩:=b5G f b r (off+a.cells) h.2 hf;exact⟨g,τ',a.cells+k,by simp_all,by omega,d,e,fun m c o=>by
     have:=i m c (o+a.cells)
     rw[show o+a.cells+k=o+(a.cells+k)from by omega]at this;exact this⟩
  |_=>simp[a1Z]at hf
theorem b4o{P:Program}{τ:Ty}{t:TypeId}{f:Nat}(h:a0u P τ (.inl t)=true)(g:a1Z τ f=true):∃fs:Array Field,P.underlying t=some (.struct fs)/\a0u P τ (.inr (fs.toList,0))=true:=by
 cases τ with
 |pair a b=>
  simp[a0u]at h
  grind[a0u]
 |_=>cases f<;>simp[a1Z]at g
theorem b8d{f:Nat}(h:a0u P τ (.inl t)=true)(c:a1Z τ f=true):
  ∃τ' k,(Instr.fieldAt t (.pointer (some ⟨b,o,none⟩)) f).run P w=.ok (.pointer (some ⟨b,o+k,none⟩)) w/\(∀(m:Mem) b o,loc m τ (.at b o) (a1l f)=some (τ',.at b (o+k))):=by
 obtain⟨fs,n,l⟩:=b4o h c;obtain⟨d,τ',k,p,e,i,q,j⟩:=b5G f τ _ 0 l c;obtain⟨I⟩:=a0D (a0L i);have g:fs[f]?=some d:=by simp_all
 refine⟨τ',k,?_,j⟩;have a:¬ (τ'.cells=0):=by omega
 simp[Instr.fieldAt,run_underlying n,g,Instr.sureAddr,fieldPlace,I.sizeOf,a,Addr.add_lit,e]
theorem a1G{o:Bool}(h:a0u P (.list o e) (.inl t)=true):∃t',P.underlying t=some (.slice t')/\a0u P e (.inl t')=true/\0<e.cells:=by
 simp[a0u]at h
 grind
theorem b2f(h:a0u P (.arr n e) (.inl t)=true):∃t',P.underlying t=some (.array n t')/\a0u P e (.inl t')=true/\0<e.cells:=by
 simp[a0u]at h
 grind
theorem d2p(τ:Ty):∀rd,a2v τ.sh rd=a2v τ rd:=by
 induction τ with
 |pair a b iha ihb=>simp_all[Ty.sh,a2v,Ty.cells_sh]
 |arr n t ih=>simp_all[Ty.sh,a2v,Ty.cells_sh]
 |list o t _=>intro rd;rfl
 |nl t _=>simp_all[Ty.sh,a2v]
 |_=>intro rd;rfl
theorem a3A{P:Program}:∀(τ:Ty)(s:TypeId ⊕ (List Field×Nat)),a0u P τ.sh s=a0u P τ s:=by
 have g:=d2p;have h:∀τ:Ty,τ.sh.isAgg=τ.isAgg:=by intro τ;cases τ<;>rfl
 have hb:∀(τ:Ty) t,a5R P τ.sh t=a5R P τ t:=by
  simp_all[a5R,Ty.cells_sh]
 intro τ
 induction τ with
 |pair a b iha ihb=>
  intro s;cases s with
  |inl t=>
   grind[Ty.sh,a0u,Ty.cells_sh]
  |inr p=>
   obtain⟨fs,off⟩:=p;cases fs<;>simp only[Ty.sh,a0u,iha,ihb,Ty.cells_sh]
 |list o t ih=>
  grind[Ty.sh,a0u,Ty.cells_sh]
 |nl t ih=>
  grind[Ty.sh,a0u,Ty.cells_sh]
 |arr n t ih=>
  grind[Ty.sh,a0u,Ty.cells_sh]
 |_=>intro s;rfl
def a0o(a:Act):Nat->Value:=fun i=>a.tmps.getD i undef
def a1m(N:Nat):Operand->Bool
 |.tmp t=>decide (t<N)
 |_=>true
def fits(N:Nat)(o:Oper):Bool:=o.op.operands.toList.all (a1m N)&&(match o.dst with|some d=>decide (d<N)|none=>true)
def c5n(P:Program)(τ:Ty)(t:TypeId):Prop:=
 ∀(m:Mem) Sh (x y:τ.den) u v w xo yo,VOk m Sh τ x u->VOk m Sh τ y v->
  ((eqGuard .eql t xo yo u v).run P w=.ok () w/\(binOp .eql t u v).run P w=.ok (.bool (eqT τ x y)) w)/\
  ((eqGuard .neq t xo yo u v).run P w=.ok () w/\(binOp .neq t u v).run P w=.ok (.bool (!eqT τ x y)) w)
structure CxTy (P:Program) (cx:Cx):Prop where
 T:∀t τ,cx.T t=some τ->τ.sh=τ/\a0u P τ (.inl t)=true

 Q:∀t,cx.Q t=true->∃e,P.underlying t=some (.pointer e)
 E:∀t τ,cx.E t=true->cx.T t=some τ->τ.isAgg=true->c5n P τ t
theorem b6j{a:Act}{d:Nat}{v:Value}(i:Nat)(hi:i<a.tmps.size):a0o (a.put (some d) v) i=if i=d then v else a0o a i:=by
 simp[a0o,Act.put]
 grind
theorem b6k{a:Act}{d:Option Nat}{v:Value}:(a.put d v).tmps.size=a.tmps.size:=by
 cases d<;>simp[Act.put]
theorem b5H{a:Act}{d:Option Nat}{v:Value}:(a.put d v).defers=a.defers:=by
 cases d<;>rfl
section
variable {P:Program} {B:Base} {N:Nat} {Z:Type} {U:AE} {a:Act} {w:World} {M:Gh}
theorem Rel.opd(h:Rel B U N (a0o a) w M){x:Operand}(k:a1m N x=true):a0l (a0a w M.ov) M.g U.rt (Shr B w M) (U.opd x) (a.eval x):=by
 cases x with
 |tmp t=>
  simp[a1m]at k
  have:=h.slots t k
  simp[AE.opd,AE.get]
  revert this
  cases U.sl t with
  |one v=>exact fun h=>h
  |cmp c vs=>exact fun _=>trivial
 |const v=>
  simp[AE.opd,Act.eval];unfold b6a;split;exact a0l.mk_int _;exact a0l.mk_bool _;exact a0l.mk_str _;rfl;rfl;trivial
 |global g=>rfl
 |func f=>trivial
theorem Rel.putd(h:Rel B U N (a0o a) w M)(f:a.tmps.size=N){sv:SV}(hv:d<N->b2e (a0a w M.ov) M.g U.rt (Shr B w M) sv v):
  Rel B (U.put d sv) N (a0o (a.put (some d) v)) w M:=
 h.put hv fun i hi=>b6j i (by omega)
def a0w(P:Program)(B:Base)(N:Nat)(o:Oper)(a:Act)(w:World)(K:AE->Rs Z)(z:Z):Prop:=
 ∃v w' U' M',((execOp a.eval o).run P w=.ok (.value v) w'\/((execOp a.eval o).run P w=.ok .skip w'/\v=undef))/\Rel B U' N (a0o (a.put o.dst v)) w' M'/\K U'=some z
theorem a0w.set{o:Oper}{K:AE->Rs Z}{z:Z}{d:Nat}{v:Value}{w':World}{U':AE}{M':Gh}{av:AV}(c:o.dst=some d)(b:a.tmps.size=N)(f:(execOp a.eval o).run P w=.ok (.value v) w')
  (h:Rel B U' N (a0o a) w' M')(hv:a0l (a0a w' M'.ov) M'.g U'.rt (Shr B w' M') av v)(k:K (U'.set d av)=some z):a0w P B N o a w K z:=
 ⟨v,w',U'.set d av,M',.inl f,by rw[c];exact h.putd b (fun _=>hv),k⟩
theorem a0R{o:Oper}(h:fits N o=true):∀x∈o.op.operands.toList,a1m N x=true:=by
 simp only[fits,bA9,lA]at h
 grind
theorem a0f{β:Type}{b:Bool}{x y:Option β}{z:β}(h:(bif b then x else y)=some z):(b=true/\x=some z)\/(b=false/\y=some z):=by
 grind
theorem d9P{o:Oper}{x:Operand}{d:Nat}{cx:Cx}{q:Bool}{K:AE->Rs Z}{z:Z}(j:o.op=.move x)(c:o.dst=some d)(h:Rel B U N (a0o a) w M)(e:a.tmps.size=N)(l:fits N o=true)
  (b:aop cx q o U K=some z):a0w P B N o a w K z:=by
 have i:a1m N x=true:=a0R l x (by simp[j,Op.operands]);have k:(execOp a.eval o).run P w=.ok (.value (a.eval x)) w:=by simp[execOp,j]
 simp[aop,j,c]at b;cases x with
 |tmp t=>
  simp at b;have m:t<N:=by simpa[a1m]using i
  exact⟨_,w,_,M,.inl k,by rw[c];exact h.putd e (fun _=>h.slots t m),b⟩
 |const v=>exact a0w.set c e k h (h.opd i) b
 |global g=>exact a0w.set c e k h (h.opd i) b
 |func f=>exact a0w.set c e k h (h.opd i) b
theorem d9Q{o:Oper}{c x y:Operand}{d:Nat}{cx:Cx}{q:Bool}{K:AE->Rs Z}{z:Z}(k:o.op=.pick c x y)(l:o.dst=some d)(h:Rel B U N (a0o a) w M)(p:a.tmps.size=N)(i:fits N o=true)
  (g:aop cx q o U K=some z):a0w P B N o a w K z:=by
 have j:=h.opd (a0R i c (by simp[k,Op.operands]));have m:=h.opd (a0R i x (by simp[k,Op.operands]));have n:=h.opd (a0R i y (by simp[k,Op.operands]));simp[aop,k,l,c3m]at g
 split at g
 ·rename_i b e;rw[e]at j;have r:=a0l.bool j;have f:(execOp a.eval o).run P w=.ok (.value (if b then a.eval x else a.eval y)) w:=by simp_all[execOp,asBool]
  split at g
  rename_i u v s hv;rw[s]at m;rw[hv]at n;refine a0w.set l p f h ?_ g;rw[a0l.bool m,a0l.bool n];cases b<;>exact a0l.mk_bool _
  ·rcases a0f g with⟨rfl,g⟩|⟨-,g⟩
   all_goals grind[a0w.set]
  ·rcases a0f g with⟨-,g⟩|⟨rfl,g⟩
   all_goals grind[a0w.set]
  simp_all
 simp_all
theorem d0V{o:Oper}{x:Operand}{d:Nat}{cx:Cx}{q:Bool}{K:AE->Rs Z}{z:Z}(g:o.op=.nilCheck x)(i:o.dst=some d)(h:Rel B U N (a0o a) w M)(l:a.tmps.size=N)(s:fits N o=true)
  (k:aop cx q o U K=some z):a0w P B N o a w K z:=by
 have f:=h.opd (a0R s x (by simp[g,Op.operands]));simp[aop,g,i]at k
 split at k
 rename_i n p j;rw[j]at f;obtain⟨r,t,b,off,c,e,m⟩:=f;exact a0w.set i l (v:=.pointer (some ⟨b,off,none⟩)) (by simp[execOp,g,m]) h (show a0l _ _ _ _ (.ptr n p) _ from⟨r,t,b,off,c,e,rfl⟩) k;rename_i t y j;rw[j]at f;obtain⟨b,off,R,c,e⟩:=f;exact a0w.set i l (v:=.pointer (some ⟨b,off,none⟩)) (by simp[execOp,g,c]) h (show a0l _ _ _ _ (.vptr t y) _ from⟨b,off,R,rfl,e⟩) k;simp_all
theorem d2q{o:Oper}{t:Nat}{i d:Nat}{cx:Cx}{q:Bool}{K:AE->Rs Z}{z:Z}(c:o.op=.extract (.tmp t) i)(b:o.dst=some d)(h:Rel B U N (a0o a) w M)(p:a.tmps.size=N)(r:fits N o=true)
  (g:aop cx q o U K=some z):a0w P B N o a w K z:=by
 have s:t<N:=by have:=a0R r (.tmp t) (by simp[c,Op.operands]);simpa[a1m]using this
 have e:=h.slots t s;simp[aop,c,b]at g
 split at g
 rename_i y k;rw[k]at e;obtain⟨f,j,m⟩:=e
 split at g
 rename_i v hv;obtain⟨u,x,n⟩:=m i v hv;refine a0w.set b p (v:=u) ?_ h n g;have l:a.eval (.tmp t)=.tuple f:=j;simp_all[execOp,Instr.extract];simp_all;simp_all
theorem d9R{o:Oper}{op:UnOp}{ty:TypeId}{x:Operand}{d:Nat}{cx:Cx}{q:Bool}{K:AE->Rs Z}{z:Z}(c:o.op=.unOp op ty x)(i:o.dst=some d)(h:Rel B U N (a0o a) w M)(j:a.tmps.size=N)(l:fits N o=true)
  (e:aop cx q o U K=some z):a0w P B N o a w K z:=by
 have g:=h.opd (a0R l x (by simp[c,Op.operands]));simp only[aop,c,i,AE.un]at e
 split at e
 rename_i b f;rw[f]at g;exact a0w.set i j (by simp[execOp,c,a0l.bool g,Op.unary]) h (a0l.mk_bool _) e;rename_i k n f;rw[f]at g;exact a0w.set i j (by simp[execOp,c,a0l.int g,Op.unary,Op.intArith]) h (a0l.mk_int _) e;rename_i k n f;rw[f]at g;refine a0w.set i j (v:=.int k (bits k .xor (if k.signed then -1 else k.max) n)) ?_ h (a0l.mk_int _) e
 simp[execOp,c,a0l.int g,Op.unary,Op.intBits,bits];simp_all
theorem d4J{k:IntKind}{x y:Int}{K:AV->Rs Z}{z:Z}{k':IntKind}(b:b8I op=true\/k=k')(h:b4M op k x y K=some z):
  ∃av v,K av=some z/\(∀m g rt Sh,a0l m g rt Sh av v)/\∀w,(binOp op t (.int k x) (.int k' y)).run P w=.ok v w:=by
 by_cases hs:b8I op=true
 cases op<;>simp[b8I]at hs;simp[b4M]at h;rcases a0f h with⟨-,h⟩|⟨a,h⟩
 grind
 refine⟨_,_,h,fun _ _ _ _=>a0l.mk_int _,fun w=>?_⟩
 have:¬ y<0:=by simp_all
 simp[binOp,Op.shift,this,a0t];simp[b4M]at h;rcases a0f h with⟨-,h⟩|⟨a,h⟩
 grind
 refine⟨_,_,h,fun _ _ _ _=>a0l.mk_int _,fun w=>?_⟩
 have:¬ y<0:=by simp_all
 simp[binOp,Op.shift,this,a0v]
 ·have f:k=k':=by simp_all
  subst f;cases op<;>simp[b8I]at hs<;>simp only[b4M]at h
  case add=>exact⟨_,_,h,fun _ _ _ _=>a0l.mk_int _,fun w=>by simp[binOp,Op.intArith]⟩
  case sub=>exact⟨_,_,h,fun _ _ _ _=>a0l.mk_int _,fun w=>by simp[binOp,Op.intArith]⟩
  case mul=>exact⟨_,_,h,fun _ _ _ _=>a0l.mk_int _,fun w=>by simp[binOp,Op.intArith]⟩
  case quo=>
   rcases a0f h with⟨-,h⟩|⟨a,h⟩
   grind
   have:¬ y=0:=by simp_all
   exact⟨_,_,h,fun _ _ _ _=>a0l.mk_int _,fun w=>by simp_all[binOp,Op.intDiv]⟩
  case rem=>
   rcases a0f h with⟨-,h⟩|⟨a,h⟩
   grind
   have:¬ y=0:=by simp_all
   exact⟨_,_,h,fun _ _ _ _=>a0l.mk_int _,fun w=>by simp_all[binOp,Op.intDiv]⟩
  case and=>exact⟨_,_,h,fun _ _ _ _=>a0l.mk_int _,fun w=>by simp[binOp,Op.intBits,bits]⟩
  case or=>exact⟨_,_,h,fun _ _ _ _=>a0l.mk_int _,fun w=>by simp[binOp,Op.intBits,bits]⟩
  case xor=>exact⟨_,_,h,fun _ _ _ _=>a0l.mk_int _,fun w=>by simp[binOp,Op.intBits,bits]⟩
  case andNot=>exact⟨_,_,h,fun _ _ _ _=>a0l.mk_int _,fun w=>by simp[binOp,Op.intBits,bits]⟩
  case eql=>exact⟨_,_,h,fun _ _ _ _=>a0l.mk_bool _,fun w=>by simp[binOp,Op.intCmp]⟩
  case neq=>exact⟨_,_,h,fun _ _ _ _=>a0l.mk_bool _,fun w=>by simp[binOp,Op.intCmp]⟩
  case lss=>exact⟨_,_,h,fun _ _ _ _=>a0l.mk_bool _,fun w=>by simp[binOp,Op.intCmp]⟩
  case leq=>exact⟨_,_,h,fun _ _ _ _=>a0l.mk_bool _,fun w=>by simp[binOp,Op.intCmp]⟩
  case gtr=>exact⟨_,_,h,fun _ _ _ _=>a0l.mk_bool _,fun w=>by simp[binOp,Op.intCmp]⟩
  case geq=>exact⟨_,_,h,fun _ _ _ _=>a0l.mk_bool _,fun w=>by simp[binOp,Op.intCmp]⟩
theorem d6s{s s':ByteArray}:((s.data.toList.map fun b=>(b.toNat:Int))==(s'.data.toList.map fun b=>(b.toNat:Int)))=(s.toList==s'.toList):=by
 have h:s.toList=s.data.toList:=ByteArray.toList_eq s;have g:s'.toList=s'.data.toList:=ByteArray.toList_eq s';rw[h,g,Bool.eq_iff_iff];simp only[beq_iff_eq]
 grind[List.map_inj_right,UInt8.toNat_inj]
theorem a7D{o:Oper}{ty ty':TypeId}{y:Operand}(f:o.op=.binOp op ty x y ty')(h:(eqGuard op ty x y (a.eval x) (a.eval y)).run P w=.ok () w)(g:(binOp op ty (a.eval x) (a.eval y)).run P w=.ok v w):(execOp a.eval o).run P w=.ok (.value v) w:=by
 simp_all[execOp]
theorem d9S(h:BinOp)(t:TypeId)(x y:Operand)(k:IntKind)(n:Int)(v:Value):(eqGuard h t x y (.int k n) v).run P w=.ok () w:=by
 rw[eqGuard_at_int];rfl
theorem d7e(h:BinOp)(t:TypeId)(x y:Operand)(n:Bool)(v:Value):(eqGuard h t x y (.bool n) v).run P w=.ok () w:=by
 simp[eqGuard_at_bool]
theorem d9T(h:BinOp)(t:TypeId)(x y:Operand)(n:ByteArray)(v:Value):(eqGuard h t x y (.string n) v).run P w=.ok () w:=by
 simp[eqGuard_at_string]
theorem b7o(h:BinOp)(t:TypeId)(x y:Operand)(n:Option Addr)(v:Value):(eqGuard h t x y (.pointer n) v).run P w=.ok () w:=by
 simp[eqGuard_at_pointer]
theorem e1Y{ty:Nat}{t t':Ty}{u:t.den}{v:t'.den}{K:AV->Rs Z}(hi:¬ ∃k k',t=.int k/\t'=.int k')(hb:¬ (t=.bool/\t'=.bool))(h:¬ (t=.str/\t'=.str)):
  b2G cx op ty (.val t u) (.val t' v) K=b8J cx op ty t u t' v K:=by
 cases t<;>cases t'<;>first|rfl|exact absurd ⟨_,_,rfl,rfl⟩ hi|exact absurd ⟨rfl,rfl⟩ hb|simp_all
theorem d2r(n:Nat){ty:TypeId}(h:P.underlying ty=some .bool)(u v:Bool)(w:World):(Op.equalIn (n+1) ty (.bool u) (.bool v)).run P w=.ok (u==v) w:=by
 simp[Op.equalIn,run_underlying h]
theorem c6r{ty:TypeId}(h:P.underlying ty=some .bool)(u v:Bool)(w:World):(Op.equal ty (.bool u) (.bool v)).run P w=.ok (u==v) w:=d2r 9999 h u v w
theorem d4K(n:Nat){ty e:TypeId}(g:P.underlying ty=some (.pointer e))(u v:Option Addr)(h:u=none\/v=none)(w:World):
  (Op.equalIn (n+1) ty (.pointer u) (.pointer v)).run P w=.ok (u.isNone&&v.isNone) w:=by
 rcases h with rfl|rfl;simp[Op.equalIn,run_underlying g];cases u<;>simp[Op.equalIn,run_underlying g]
theorem d0W(k:Nat){ty e:TypeId}(h:P.underlying ty=some (.slice e))(A:Option Addr)(n c:Nat)(w:World):
  (Op.equalIn (k+1) ty (.slice A n c) (.slice none 0 0)).run P w=.ok A.isNone w:=by
 cases A<;>simp[Op.equalIn,run_underlying h]
theorem d2s{ty:TypeId}(u v:Bool)(w:World):(binOp .eql ty (.bool u) (.bool v)).run P w=((Op.equal ty (.bool u) (.bool v)).run P w).andThen fun b w'=>.ok (.bool b) w':=by
 simp_all[binOp]
theorem d2t{ty:TypeId}(u v:Bool)(w:World):(binOp .neq ty (.bool u) (.bool v)).run P w=((Op.equal ty (.bool u) (.bool v)).run P w).andThen fun b w'=>.ok (.bool !b) w':=by
 simp_all[binOp]
theorem c4d{ty:TypeId}(u v:Option Addr)(w:World):(binOp .eql ty (.pointer u) (.pointer v)).run P w=((Op.equal ty (.pointer u) (.pointer v)).run P w).andThen fun b w'=>.ok (.bool b) w':=by
 simp_all[binOp]
theorem c4e{ty:TypeId}(u v:Option Addr)(w:World):(binOp .neq ty (.pointer u) (.pointer v)).run P w=((Op.equal ty (.pointer u) (.pointer v)).run P w).andThen fun b w'=>.ok (.bool !b) w':=by
 simp_all[binOp]
theorem e1Z{ty:Nat}{u v:Bool}{K:AV->Rs Z}{z:Z}(f:CxTy P cx)(h:b2G cx op ty (.val .bool u) (.val .bool v) K=some z):
  ∃r,K (.val .bool r)=some z/\(binOp op ty (.bool u) (.bool v)).run P w=.ok (.bool r) w:=by
 simp only[b2G]at h
 split at h
 rename_i k;have g:=(f.T ty _ k).2;have a:P.underlying ty=some .bool:=by
  simp[a0u]at g
  grind
 split at h
 exact⟨_,h,by simp_all[d2s,c6r]⟩;exact⟨_,h,by rw[d2t,c6r a];rfl⟩;simp_all;simp_all
theorem e5r{ty:Nat}{s s':ByteArray}{m g rt Sh}{K:AV->Rs Z}{z:Z}(h:b2G cx op ty (.val .str (s.data.toList.map fun b=>(b.toNat:Int):List Int)) (.val .str (s'.data.toList.map fun b=>(b.toNat:Int):List Int)) K=some z):
  ∃r v,K r=some z/\a0l m g rt Sh r v/\(binOp op ty (.string s) (.string s')).run P w=.ok v w:=by
 simp only[b2G]at h
 split at h
 refine⟨_,_,h,a0l.mk_bool _,?_⟩;simp_all[d6s,binOp,Op.stringOp];refine⟨_,_,h,a0l.mk_bool _,?_⟩;simp_all[bne,d6s,binOp,Op.stringOp];rcases a0f h with⟨k,h⟩|⟨-,h⟩;have f:s.size+s'.size<2147483648:=by simp_all
 refine⟨_,.string (s++s'),h,?_,?_⟩
 have:=a0l.mk_str (m:=m) (g:=g) (rt:=rt) (Sh:=Sh) (s++s')
 simp_all
 have:¬ (9223372036854775807<(s.size:Int)+(s'.size:Int)):=by omega
 simp_all[binOp,Op.stringOp];simp_all;simp_all
theorem b1C{ty e:TypeId}(g:P.underlying ty=some (.pointer e))(u v:Option Addr)(h:u=none\/v=none)(w:World):
  (Op.equal ty (.pointer u) (.pointer v)).run P w=.ok (u.isNone&&v.isNone) w:=d4K 9999 g u v h w
theorem VOk.header{m Sh}{t:Ty}{l:List t.den}(h:VOk m Sh (.list false t) l v):
  ∃A n c,v=.slice A n c/\n=l.length/\n<=c/\(∀A',A=some A'->c=0\/A'.spot=none)/\(A=none->c=0):=by
 obtain⟨R,g,k⟩:=h.rd rfl rfl;have g:a0Y m false t.cells (dec m t) (some v)=some (l,[],R):=g;unfold a0Y at g
 split at g
 grind
 rename_i A n c hv;simp at hv
 split at g
 rename_i a
 split at g
 grind
 rename_i e os d f;have b:=a0W n 0 f
 grind
 simp_all;simp_all
theorem d7f{P:Program}{o:Bool}(h:a0u P (.list o e) (.inl t)=true):∃t',P.underlying t=some (.slice t'):=by
 simp[a0u]at h
 grind
theorem d7g{o:Oper}{op:BinOp}{ty ty':TypeId}{x y:Operand}{d:Nat}{cx:Cx}{q:Bool}{K:AE->Rs Z}{z:Z}(D:CxTy P cx)(i:o.op=.binOp op ty x y ty')(j:o.dst=some d)
  (h:Rel B U N (a0o a) w M)(C:a.tmps.size=N)(hf:fits N o=true)(g:aop cx q o U K=some z):a0w P B N o a w K z:=by
 have F:=h.opd (a0R hf x (by simp[i,Op.operands]));have m:=h.opd (a0R hf y (by simp[i,Op.operands]));simp[aop,i,j]at g;rcases a0f g with⟨-,g⟩|⟨-,g⟩
 ·
  split at g
  case h_2=>grind
  rename_i e O
  split at g
  grind
  ·unfold d2l at O
   split at O
   ·rename_i o1 G H l hT S V;simp at O;rw[S]at F;rw[V]at m;obtain⟨A,n,c,hv,hn,h1,-,hA⟩:=VOk.header F;have m:a.eval y=.slice none 0 0:=m;obtain⟨e',R⟩:=d7f (D.T ty _ hT).2;have h2:(Op.equal ty (a.eval x) (a.eval y)).run P w=.ok A.isNone w:=by
     rw[hv,m];exact d0W 9999 R A n c w
    have f:(eqGuard op ty x y (a.eval x) (a.eval y)).run P w=.ok () w:=by simp_all[eqGuard_at_slice]
    have h3:e=false->A.isNone=false:=fun L=>by
     cases A with
     |some A=>rfl
     |none=>
      grind
    unfold e6K at g
    split at g
    ·have I:K (U.set d (.val .bool A.isNone))=some z:=by
      rcases a0f g with⟨-,g⟩|⟨L,g⟩
      ·obtain⟨z1,z2⟩:=c6n g;cases hb:A.isNone
       all_goals omega
      grind
     exact a0w.set j C (v:=.bool A.isNone) (a7D i f (by
      simp_all[binOp])) h (a0l.mk_bool _) I
    ·have I:K (U.set d (.val .bool (!A.isNone)))=some z:=by
      rcases a0f g with⟨-,g⟩|⟨L,g⟩
      all_goals grind[c6n]
     exact a0w.set j C (v:=.bool (!A.isNone)) (a7D i f (by
      simp_all[binOp])) h (a0l.mk_bool _) I
    simp_all
   simp_all
 revert g F m
 cases S:U.opd x<;>cases V:U.opd y<;>intro F m g
 case val.val t u t' v=>
  by_cases hint:∃k k',t=.int k/\t'=.int k'
  obtain⟨k,k',rfl,rfl⟩:=hint;simp only[b2G]at g
  split at g
  rename_i hk;obtain⟨av,rv,I,h0,X⟩:=d4J (P:=P) (t:=ty) (k':=k') (by simp_all) g;have G:=a0l.int F;have H:=a0l.int m;exact a0w.set j C (a7D i (by grind[d9S]) (by simp_all)) h (h0 _ _ _ _) I;simp_all
  by_cases hb:t=.bool/\t'=.bool
  obtain⟨rfl,rfl⟩:=hb;have G:=a0l.bool F;have H:=a0l.bool m;obtain⟨r,I,hr⟩:=e1Z (P:=P) (w:=w) D g;exact a0w.set j C (a7D i (by grind[d7e]) (by simp_all)) h (a0l.mk_bool _) I
  by_cases hs:t=.str/\t'=.str
  obtain⟨rfl,rfl⟩:=hs;obtain⟨s,G,rfl⟩:=a0l.str F;obtain⟨s',H,rfl⟩:=a0l.str m;obtain⟨r,rv,I,X,hr⟩:=e5r (P:=P) (w:=w) g;exact a0w.set j C (a7D i (by simp_all[d9T]) (by simp_all)) h X I;rw[e1Y hint hb hs]at g;unfold b8J at g
  split at g
  rename_i ht;subst ht;rcases a0f g with⟨Y,g⟩|⟨-,g⟩;simp at Y;have L:=D.E ty _ Y.1.1 Y.2 Y.1.2 (a0a w M.ov) (Shr B w M) u v (a.eval x) (a.eval y) w x y F m
  split at g
  exact a0w.set j C (a7D i L.1.1 L.1.2) h (a0l.mk_bool _) g;exact a0w.set j C (a7D i L.2.1 L.2.2) h (a0l.mk_bool _) g;simp_all;simp_all;simp_all
 case nilp.nilp=>
  simp only[b2G]at g
  split at g
  rename_i hp;obtain⟨e,R⟩:=D.Q ty hp;have G:a.eval x=.pointer none:=F;have H:a.eval y=.pointer none:=m
  split at g
  exact a0w.set j C (v:=.bool true) (a7D i (by simp_all[b7o]) (by rw[G,H,c4d,b1C R none none (.inl rfl)];rfl)) h (a0l.mk_bool _) g;exact a0w.set j C (v:=.bool false) (a7D i (by simp_all[b7o]) (by rw[G,H,c4e,b1C R none none (.inl rfl)];rfl)) h (a0l.mk_bool _) g;simp_all;simp_all
 case ptr.nilp n p=>
  simp only[b2G]at g
  split at g
  rename_i hp;obtain⟨e,R⟩:=D.Q ty hp;obtain⟨r,t,b,off,-,-,G⟩:=F;have H:a.eval y=.pointer none:=m
  split at g
  exact a0w.set j C (v:=.bool false) (a7D i (by simp_all[b7o]) (by rw[G,H,c4d,b1C R (some ⟨b,off,none⟩) none (.inr rfl)];rfl)) h (a0l.mk_bool _) g;exact a0w.set j C (v:=.bool true) (a7D i (by simp_all[b7o]) (by rw[G,H,c4e,b1C R (some ⟨b,off,none⟩) none (.inr rfl)];rfl)) h (a0l.mk_bool _) g;simp_all;simp_all
 all_goals (simp only[b2G]at g;cases g)
end
theorem a3N{A:Addr}(h:A.spot=none)(k:Nat):A.add k=⟨A.block,A.off+k,none⟩:=by
 obtain⟨b,o,s⟩:=A;simp_all[Addr.add_lit]
theorem b2g{t:Ty}{rd:Nat->Option Value}{x O R}(k:t.shn=t)(h:dec m t rd=some (x,O,R)):O=[]:=by
 obtain⟨g,f,-⟩:=b8N t h
 grind
theorem b7p{l:List α}{x:α}(h:a0m l i=some x):0<=i/\i.toNat<l.length/\l[i.toNat]?=some x:=by
 grind[a0m]
theorem VOk.elem{m Sh}{t:Ty}{l:List t.den}(j:t.sh=t)(h:VOk m Sh (.list false t) l v){i:Nat}{x:t.den}(o:l[i]?=some x):
  ∃A n c R,v=.slice (some A) n c/\A.spot=none/\n=l.length/\n<=c/\dec m t ((Src.at A.block (A.off+i*t.cells)).rd m)=some (x,[],R)/\Sh A.block/\∀b∈R,Sh b:=by
 obtain⟨R,g,u⟩:=h.rd rfl rfl;have g:a0Y m false t.cells (dec m t) (some v)=some (l,[],R):=g;unfold a0Y at g
 split at g
 simp_all;rename_i A n c hv;simp at hv
 split at g
 rename_i w
 split at g
 grind
 rename_i F os E f;simp[b9H]at f;have z:=a0W n 0 f;simp at g
 split at g
 simp_all;simp only[sj,pJ]at g;obtain⟨rfl,-,rfl⟩:=g;have hi:i<n:=by grind
 obtain⟨y,C,D,p,q,d,e,a,k,r,s⟩:=a0V n 0 i f hi;rw[o]at k;simp at k;subst k;simp at a;have B:=b2g (Ty.shn_of_sh t j) a
 grind
 simp_all;simp_all
theorem VOk.window{m Sh}{t:Ty}{l:List t.den}{A:Option Addr}{lo hi:Nat}(h:VOk m Sh (.list false t) l (.slice A n c))(X:lo<=hi)(Y:hi<=n){A':Option Addr}(z:A'=if c=lo then A else A.map fun a=>a.add (lo*t.cells)):VOk m Sh (.list false t) ((l.take hi).drop lo) (.slice A' (hi-lo) (c-lo)):=by
 obtain⟨S,Z,T,x,I,q,d,C⟩:=h.header;simp at x;obtain⟨rfl,rfl,rfl⟩:=x;have j:∀B,A'=some B->c-lo=0\/B.spot=none:=by
  intro B o;rw[z]at o
  split at o
  omega
  ·cases A with
   |none=>simp_all
   |some a=>
    simp at o;rw[<-o,a3N ((d a rfl).resolve_left (by omega))]
    simp
 by_cases he:lo=hi
 ·subst he;have e:(l.take lo).drop lo=[]:=by simp
  rw[e];refine VOk.one (t:=.list false t) (R:=[]) rfl rfl ?_ (by simp) rfl;show a0Y m false t.cells (dec m t) (some (.slice A' (lo-lo) (c-lo)))=_;cases A' with
  |none=>
   have r:c-lo=0:=by
    split at z
    omega
    ·cases A with
     |none=>grind
     |some a=>simp_all
   simp[a0Y,r];rfl
  |some B=>
   have K:=j B rfl;simp[a0Y,K,a0j];rfl
 ·obtain⟨R,f,G⟩:=h.rd rfl rfl;have f:a0Y m false t.cells (dec m t) (some (.slice A n c))=some (l,[],R):=f;cases A with
  |none=>simp_all
  |some a=>
   have u:=(d a rfl).resolve_left (by omega);simp only[a0Y,b9H]at f;rw[if_pos ⟨.inr u,q⟩]at f
   split at f
   grind
   ·rename_i D os rs y;have H:n≠0:=by omega
    simp only[a29,if_false,H]at f;simp only[sj,pJ]at f;obtain⟨rfl,-,rfl⟩:=f;have p:A'=some ⟨a.block,a.off+lo*t.cells,none⟩:=by
     grind[a3N]
    subst p;rw[show n=lo+((hi-lo)+(n-hi))from by omega]at y;obtain⟨L,O,M,P,U,E,rfl,rfl⟩:=a4J lo _ 0 y;obtain⟨v,w,N,Q,F,V,rfl,rfl⟩:=a4J (hi-lo) _ (0+lo) E;have g:∀(k i:Nat),a0j (fun i=>dec m t ((Src.at a.block (a.off+lo*t.cells+i*t.cells)).rd m)) k i=a0j (fun i=>dec m t ((Src.at a.block (a.off+i*t.cells)).rd m)) k (lo+i):=by
     intro k
     induction k with
     |zero=>intro i;rfl
     |succ k ih=>
      grind[a0j]
    refine VOk.one (t:=.list false t) (R:=a.block::(v.map (·.1)++w)) rfl rfl ?_ (fun b hb=>G b ?_) rfl;show a0Y m false t.cells (dec m t) (some (.slice (some ⟨a.block,a.off+lo*t.cells,none⟩) (hi-lo) (c-lo)))=_;simp only[a0Y,b9H];rw[if_pos ⟨.inr trivial,by omega⟩,g,show lo+0=0+lo from by omega,F];have s:¬ (hi-lo=0):=by omega
    have e:a24 (hi-lo) (a27 lo D)=a27 lo (a24 hi D):=by rw[a32]
    simp[s,e];rfl
    grind
section
variable {P:Program} {B:Base} {N:Nat} {Z:Type} {U:AE} {a:Act} {w:World} {M:Gh}
theorem c1r{n p}{K:(e:Ty)->List e.den->Rs Z}{z:Z}(h:U.body n p K=some z):∃r e l,U.pd=none/\U.rt n=some r/\a0T r.t r.x p=⟨.list true e,l⟩/\K e l=some z:=by
 grind[AE.body,a0K]
theorem d7h{n p}{K:(e:Ty)->List e.den->Rs Z}{z:Z}(h:U.bodyP n p K=some z):∃r e l,U.rt n=some r/\a0T r.t r.x p=⟨.list true e,l⟩/\K e l=some z:=by
 unfold AE.bodyP at h
 split at h
 rename_i r f
 split at h
 rename_i e l g;exact⟨r,e,l,f,g,h⟩;cases h;cases h
theorem b2x{len:Nat}{lo hi:Option Operand}{K:Nat->Nat->Rs Z}{z:Z}(h:Rel B U N (a0o a) w M)(u:∀x,lo=some x->a1m N x=true)(t:∀x,hi=some x->a1m N x=true)
  (g:U.bnds len lo hi K=some z):∃x y,K x y=some z/\x<=y/\y<=len/\(lo=none->x=0)/\(hi=none->y=len)/\
   ∀s f,len<=f->(Instr.sliceBounds s len f (lo.map a.eval) (hi.map a.eval) none).run P w=.ok (x,y,f) w:=by
 have one:∀{m d:Nat}{o:Option Operand}{r:Nat->Rs Z}{z:Z},(∀x,o=some x->a1m N x=true)->d<=m->U.bnd m d o r=some z->
   ∃y,r y=some z/\y<=m/\(o=none->y=d)/\(∀x,o=some x->∃k,a.eval x=.int k (y:Int)):=by
  intro m d o r z v F g;unfold AE.bnd at g;cases o with
  |none=>simp_all
  |some o=>
   simp only at g;have v:=h.opd (v o rfl)
   split at g
   rename_i k y q;rw[q]at v;rcases a0f g with⟨D,g⟩|⟨-,g⟩;simp at D;refine⟨y.toNat,g,by omega,by simp,?_⟩
   rintro x ⟨⟩
   exact⟨k,by grind[a0l.int]⟩;simp_all;simp_all
 unfold AE.bnds at g;obtain⟨y,g,A,p,C⟩:=one t (a18 _) g;obtain⟨x,g,l,e,j⟩:=one u (Nat.zero_le _) g;refine⟨x,y,g,l,A,e,p,fun s f c=>?_⟩;have hb:∀(n m:Nat) k b,n<=m->(Instr.sliceBound (.int k (n:Int)) m b).run P w=.ok n w:=fun n m k b E=>by
  simp_all[Instr.sliceBound,asIntOf]
 cases hi with
 |none=>
  have:=p rfl
  subst this;cases lo with
  |none=>
   have:=e rfl
   simp_all[Instr.sliceBounds]
  |some o=>
   obtain⟨k,q⟩:=j o rfl;simp_all[Instr.sliceBounds]
 |some o'=>
  obtain⟨k',i⟩:=C o' rfl;cases lo with
  |none=>
   have:=e rfl
   subst this;simp[Instr.sliceBounds,i,hb _ _ _ _ (a05 A c)]
  |some o=>
   obtain⟨k,q⟩:=j o rfl;simp[Instr.sliceBounds,q,i,hb _ _ _ _ l,hb _ _ _ _ (a05 A c)]
end
section
variable {P:Program} {B:Base} {N:Nat} {Z:Type} {U:AE} {a:Act} {w:World} {M:Gh}
theorem Rel.sref_head(h:Rel B U N (a0o a) w M){n p v r}(k:a0l (a0a w M.ov) M.g U.rt (Shr B w M) (.sref n p) v)(d:U.rt n=some r)(b:a0T r.t r.x p=⟨.list true e,l⟩):
  ∃s A c,loc (a0a w M.ov) r.t (M.g n) p=some (.list true e,s)/\s.rd (a0a w M.ov) 0=some v/\v=.slice A l.length c/\l.length<=c/\(∀A',A=some A'->c=0\/A'.spot=none)/\(A=none->c=0):=by
 obtain⟨s,i,j,m,o,q,f,u,y⟩:=h.slice k d b;refine⟨s,?_⟩;rcases a2a f with⟨hv,rfl,-⟩|⟨A,E,c,os,hv,z,C,D,-⟩;simp[Src.rd]at hv
 grind
 simp[Src.rd]at hv
 grind[a0W]
theorem b4O{A:Option Addr}{x y:Nat}{lo hi:Option Value}(h:P.underlying t=some (.slice t'))(I:Info P e t')(hb:(Instr.sliceBounds true n c lo hi none).run P w=.ok (x,y,c) w):
  (Instr.sliceAt t (.slice A n c) lo hi none).run P w=.ok (.slice (if c=x then A else A.map fun a=>a.add (x*e.cells)) (y-x) (c-x)) w:=by
 simp[Instr.sliceAt,Instr.slice,run_underlying h,hb,I.sizeOf]
theorem d2u{ty:Option Ty}{v:AV}{K:AV->Rs Z}{z:Z}(h:c3l ty v K=some z):∃o e,ty=some (.list o e)/\K .empt=some z/\
  ((∃o t l,v=.val (.list o t) l)\/v=.nils\/v=.empt\/(∃n p,v=.sref n p)\/∃n p o k,v=.swin n p o k):=by
 unfold c3l at h
 grind
theorem d7i{o:Oper}{t:TypeId}{x:Operand}{lo hi mx:Option Operand}{d:Nat}{cx:Cx}{q:Bool}{K:AE->Rs Z}{z:Z}(H:CxTy P cx)(ho:o.op=.slice t x lo hi mx)(hd:o.dst=some d)
  (h:Rel B U N (a0o a) w M)(hN:a.tmps.size=N)(hf:fits N o=true)(u:aop cx q o U K=some z):a0w P B N o a w K z:=by
 have h6:∀y∈(o.op.operands.toList),a1m N y=true:=a0R hf;rw[ho]at h6;have C:=h.opd (h6 x (by simp[Op.operands]));have V:∀y,lo=some y->a1m N y=true:=by rintro y rfl;simp_all[Op.operands]
 have S:∀y,hi=some y->a1m N y=true:=by rintro y rfl;simp_all[Op.operands]
 have run:∀v,(Instr.sliceAt t (a.eval x) (lo.map a.eval) (hi.map a.eval) (mx.map a.eval)).run P w=.ok v w->(execOp a.eval o).run P w=.ok (.value v) w:=fun v hv=>by simp[execOp,ho,hv]
 simp[aop,ho,hd,AE.slic]at u;cases mx with
 |some m=>
  simp only at u;rcases a0f u with⟨hc,k5⟩|⟨-,u⟩;simp at hc;obtain⟨⟨hm,hh⟩,rfl⟩:=hc;clear u;have h5:∀y:Option Operand,b8K y=true->∃k,y.map a.eval=some (.int k 0):=by
   intro y hy;unfold b8K at hy
   split at hy
   rename_i k;exact⟨k,rfl⟩;simp_all
  obtain⟨km,em⟩:=h5 _ hm;obtain⟨kh,eh⟩:=h5 _ hh;obtain⟨o1,e1,Q,u,h9⟩:=d2u k5;obtain⟨h0,hty⟩:=H.T t _ Q;obtain⟨t',O,f,-⟩:=a1G hty;obtain⟨I⟩:=a0D (a0L f);have k6:∀(A:Option Addr) n c,a.eval x=.slice A n c->a0w P B N o a w K z:=by
   intro A n c hv;have h8:(Instr.sliceBounds true n c none (hi.map a.eval) (some (.int km 0))).run P w=.ok (0,0,0) w:=by
    rw[eh];rfl
   refine a0w.set hd hN (v:=.slice A 0 0) (run _ ?_) h (av:=.empt) ⟨A,rfl⟩ u;rw[hv,em];simp[Instr.sliceAt,Instr.slice,run_underlying O,h8,I.sizeOf]
  rcases h9 with⟨o2,e2,l2,D⟩|D|D|⟨n,p,D⟩|⟨n,p,off,k,D⟩;rw[D]at C;have C:VOk (a0a w M.ov) (Shr B w M) (.list o2 e2) l2 (a.eval x):=C;obtain⟨R,G,h2⟩:=C.rd rfl rfl;have G:a0Y (a0a w M.ov) o2 e2.cells (dec (a0a w M.ov) e2) (some (a.eval x))=some (l2,[],R):=G;unfold a0Y at G
  grind
  rw[D]at C;exact k6 none 0 0 C;rw[D]at C;obtain⟨A,hv⟩:=C;simp_all;rw[D]at C;obtain⟨r,e,s,G,h2,h3⟩:=C;obtain⟨O',R,g1,g2,-⟩:=h.sep G;obtain⟨y,O1,R1,_,_,_,_,g3,g4,-⟩:=a1w _ r.t _ g1 h2;obtain⟨s',A,c,-,-,hv,-,hA,-⟩:=h.sref_head ⟨r,e,s,G,h2,h3⟩ G g4;simp_all;rw[D]at C;obtain⟨r,e,s,a0,l0,c0,G,h2,h3,h4,a',hv,hA,-⟩:=C;simp_all;simp_all
 |none=>
  simp only at u
  split at u
  
  rename_i l D;rw[D]at C;obtain⟨s,hv,hl⟩:=a0l.str C
  split at u
  rename_i Q;have hty:=(H.T t _ Q).2;have O:P.underlying t=some .string:=by
   simp[a0u]at hty
   grind
  obtain⟨E,y',Y,G,h2,-,-,hb⟩:=b2x h V S u;have k3:l.length=s.size:=by simp_all
  refine a0w.set hd hN (v:=.string (s.extract E y')) (run _ ?_) h ?_ Y;rw[hv];have k1:(Instr.sliceBounds false s.size s.size (lo.map a.eval) (hi.map a.eval) none).run P w=.ok (E,y',s.size) w:=by
   have:=hb false s.size (by omega)
   rw[<-k3]at this|-;omega
  simp
  simp[Instr.sliceAt,Instr.slice,run_underlying O,k1]
  have:=a0l.mk_str (m:=a0a w M.ov) (g:=M.g) (rt:=U.rt) (Sh:=Shr B w M) (s.extract E y')
  simp_all[a32];simp_all
  
  rename_i e l D;rw[D]at C
  split at u
  rename_i Q;obtain⟨h0,hty⟩:=H.T t _ Q;obtain⟨t',O,f,-⟩:=a1G hty;obtain⟨I⟩:=a0D (a0L f);obtain⟨E,y',Y,G,h2,-,-,hb⟩:=b2x h V S u;obtain⟨A,n,c,hv,hn,hc,hA,g9⟩:=VOk.header C;have k4:VOk (a0a w M.ov) (Shr B w M) (.list false e) l (.slice A n c):=by rw[<-hv];exact C
  refine a0w.set hd hN (run _ (by rw[hv];exact b4O O I (by rw[hn];exact hb true c (by omega)))) h ?_ Y;exact VOk.window k4 G (by omega) rfl;simp_all
  
  rename_i D;rw[D]at C
  split at u
  rename_i o1 e1 Q;obtain⟨h0,hty⟩:=H.T t _ Q;obtain⟨t',O,f,-⟩:=a1G hty;obtain⟨I⟩:=a0D (a0L f);obtain⟨E,y',Y,G,h2,-,-,hb⟩:=b2x h V S u;obtain rfl:y'=0:=by omega
  obtain rfl:E=0:=by omega
  have hv:a.eval x=.slice none 0 0:=C;refine a0w.set hd hN (v:=.slice none 0 0) (run _ ?_) h (av:=.nils) rfl Y;rw[hv,Option.map_none]
  have:=b4O (A:=none) O I (hb true 0 (by omega))
  simp_all;simp_all
  ·
   rename_i n p D;rw[D]at C;obtain⟨r,e,l,k2,hr,hg,u⟩:=c1r u
   split at u
   ·rename_i Q;obtain⟨h0,hty⟩:=H.T t _ Q;obtain⟨t',O,f,-⟩:=a1G hty;rw[a3A]at f;obtain⟨I⟩:=a0D (a0L f);obtain⟨s,A,c,g1,g2,hv,g3,hA,g9⟩:=h.sref_head C hr hg
    split at u
    refine a0w.set hd hN (v:=a.eval x) (run _ ?_) h C u;rw[hv];have hb:(Instr.sliceBounds true l.length c none none none).run P w=.ok (0,l.length,c) w:=by rfl
    have:=b4O (A:=A) O I hb
    simp_all[Addr.add_zero']
    ·obtain⟨E,y',Y,G,h2,-,-,hb⟩:=b2x h V S u;refine a0w.set hd hN (run _ (by rw[hv];exact b4O O I (hb true c g3))) h (av:=.swin n p E (y'-E)) ?_ Y;refine⟨r,e,s,A,l.length,c,hr,g1,by simp_all,by omega,_,rfl,?_,?_⟩
     ·intro A' h7
      split at h7
      omega
      ·cases A with
       |none=>simp_all
       |some a0=>
        simp at h7;rw[<-h7,a3N ((hA a0 rfl).resolve_left (by omega))]
        simp
     grind
   simp_all
  ·
   rename_i n p off k D;rw[D]at C;obtain⟨r,e,l,k2,hr,hg,u⟩:=c1r u
   split at u
   ·rename_i Q;obtain⟨h0,hty⟩:=H.T t _ Q;obtain⟨t',O,f,-⟩:=a1G hty;rw[a3A]at f;obtain⟨I⟩:=a0D (a0L f);obtain⟨s,O',R',A,n0,c,g1,g2,g3,g4,g5,g6,A',hv,g7,g8⟩:=h.window C hr hg;obtain⟨E,y',Y,G,h2,-,-,hb⟩:=b2x h V S u;have k9:n0<=c:=by
     rcases a2a g3 with⟨F,-⟩|⟨A0,nn,c',os,F,-,k8,-⟩<;>simp only[Src.rd,if_true,sj,Value.slice.injEq]at F<;>omega
    refine a0w.set hd hN (run _ (by rw[hv];exact b4O O I (hb true (c-off) (by omega)))) h (av:=.swin n p (off+E) (y'-E)) ?_ Y;refine⟨r,e,s,A,n0,c,hr,g1,g2,by omega,_,by rw[show c-(off+E)=c-off-E from by omega],?_,?_⟩
    ·intro k7 X
     split at X
     omega
     ·cases A' with
      |none=>simp_all
      |some a0=>
       simp at X;rw[<-X,a3N ((g7 a0 rfl).resolve_left (by omega))]
       simp
    ·by_cases hcc:c-off=E
     omega
     ·refine .inr ?_
      rw[if_neg hcc];rcases g8 with g8|g8;omega
      ·rw[g8];cases A with
       |none=>rfl
       |some a0=>
        have k0:a0.spot=none:=by
         rcases a2a g3 with⟨F,-⟩|⟨A0,nn,c',os,F,a2,-⟩;simp[Src.rd]at F;simp[Src.rd]at F
         grind
        simp only[Option.map_some,a3N k0];rw[a3N rfl]
        grind
   simp_all
  
  rename_i k e l D;rw[D]at C
  split at u
  rename_i Q;obtain⟨h0,hty⟩:=H.T t _ Q;obtain⟨t',O,f,-⟩:=b2f hty;obtain⟨I⟩:=a0D (a0L f);obtain⟨E,y',Y,G,h2,-,-,hb⟩:=b2x h V S u;obtain⟨b,off,R,hv,L,hS,hR⟩:=C;have F:VOk (a0a w M.ov) (Shr B w M) (.list false e) l (.slice (some ⟨b,off,none⟩) k k):=by
   have L:a0j (fun i=>dec (a0a w M.ov) e fun j=>(Src.at b off).rd (a0a w M.ov) (i*e.cells+j)) k 0=some (l,[],R):=L;have g0:=a0W k 0 L
   by_cases hk:k=0
   subst hk;refine VOk.one (t:=.list false e) (R:=[]) rfl rfl ?_ (by simp) rfl
   have:l=[]:=List.length_eq_zero_iff.1 g0
   subst this;rfl;refine VOk.one (t:=.list false e) (R:=b::R) rfl rfl ?_ (fun c hc=>?_) rfl;show a0Y _ false e.cells _ (some (.slice (some ⟨b,off,none⟩) k k))=_;simp only[a0Y];rw[if_pos ⟨.inr trivial,a18 _⟩];have e2:a0j (fun i=>dec (a0a w M.ov) e fun j=>a0a w M.ov b (off+(i*e.cells+j))) k 0=some (l,[],R):=L;rw[e2];simp only[a29,if_false,hk];rfl
   grind
  refine a0w.set hd hN (v:=.slice (some (if k=E then⟨b,off,none⟩else(⟨b,off,none⟩:Addr).add (E*e.cells))) (y'-E) (k-E)) (run _ ?_) h ?_ Y
  rw[hv];have h8:=hb false k (a18 _)
  simp
  simp[Instr.sliceAt,run_underlying O,Instr.sureAddr];rw[h8];simp[I.sizeOf];exact VOk.window F G (by omega) (by grind);simp_all;simp_all
end
section
variable {P:Program} {B:Base} {N:Nat} {Z:Type} {U:AE} {a:Act} {w:World} {M:Gh}
@[reducible] def b0Z:=Nat->Option ((t:Ty)×t.den)
def GOk(G:b0Z)(B:Base):Prop:=
 ∀g t x,G g=some ⟨t,x⟩->g<B.size/\B.S g/\¬ B.F g/\∃w0:World,w0.heap[g]?=B.hp g/\dec (a0a w0 none) t ((Src.at g 0).rd (a0a w0 none))=some (x,[],[])
theorem Rel.glob{tm:Nat->Value}{cx:Cx}(h:Rel B U N tm w M)(A:GOk cx.G B){av:AV}{v:Value}(k:a0l (a0a w M.ov) M.g U.rt (Shr B w M) av v):
  a0l (a0a w M.ov) M.g U.rt (Shr B w M) (cx.glob av) v:=by
 cases av with
 |glob g=>
  simp[Cx.glob];split
  ·rename_i t x C;obtain⟨i,l,m,c,s,y⟩:=A g t x C;have f:¬ a0P M g:=fun F=>by
    rcases h.mine _ F with q|q
    all_goals grind
   have D:=h.size;refine⟨g,0,[],k,a0y t y (fun j _=>?_) (by simp),⟨by omega,.inl l,f⟩,by simp⟩;show a0a w M.ov g (0+j)=a0a c none g (0+j);have z:a0a w none g (0+j)=a0a c none g (0+j):=a1y none ((h.frame g i m).trans s.symm) _;rw[<-z];cases hov:M.ov with
   |none=>rfl
   |some ov=>
    obtain⟨b,o,u⟩:=ov;have hp:=h.pend;rw[hov]at hp;cases hpd:U.pd with
    |none=>rw[hpd]at hp;exact hp.elim
    |some p=>
     obtain⟨n,p,d⟩:=p;rw[hpd]at hp;obtain⟨r,e,q1,a⟩:=hp;rw[<-hov]at a;have hb:=h.place q1 a;have E:¬ (g=b/\0+j=o):=fun H=>f ⟨n,by simp_all⟩;simp_all[a0a]
  trivial
 |_=>exact k
theorem b8e{A:Addr}{k:IntKind}(b:P.underlying t=some (.slice t'))(I:Info P e t')(f:A.spot=none)(h:0<=i)(g:i<n):
  (Instr.indexAt t (.slice (some A) n c) (.int k i)).run P w=.ok (.pointer (some ⟨A.block,A.off+i.toNat*e.cells,none⟩)) w:=by
 have a:0<=i/\i<(n:Int):=⟨h,g⟩;simp[Instr.indexAt,run_underlying b,asIntOf,a,I.sizeOf,a3N f]
theorem b8O{k:IntKind}(a:P.underlying t=some (.array n t'))(I:Info P e t')(h:0<=i)(g:i<n):
  (Instr.indexAt t (.pointer (some ⟨b,o,none⟩)) (.int k i)).run P w=.ok (.pointer (some ⟨b,o+i.toNat*e.cells,none⟩)) w:=by
 have f:0<=i/\i<(n:Int):=⟨h,g⟩;simp[Instr.indexAt,run_underlying a,asIntOf,f,I.sizeOf,Instr.sureAddr,Addr.add_lit]
theorem c8z{o:Oper}{t:TypeId}{x i:Operand}{d:Nat}{cx:Cx}{q:Bool}{K:AE->Rs Z}{z:Z}(D:CxTy P cx)(hG:GOk cx.G B)(ho:o.op=.indexAddr t x i)(hd:o.dst=some d)
  (h:Rel B U N (a0o a) w M)(hN:a.tmps.size=N)(hf:fits N o=true)(g:aop cx q o U K=some z):a0w P B N o a w K z:=by
 have E:∀y∈(o.op.operands.toList),a1m N y=true:=a0R hf;rw[ho]at E;have H:=h.glob hG (h.opd (E x (by simp[Op.operands])));have hi:=h.opd (E i (by simp[Op.operands]));have run:∀v,(Instr.indexAt t (a.eval x) (a.eval i)).run P w=.ok v w->(execOp a.eval o).run P w=.ok (.value v) w:=fun v hv=>by simp[execOp,ho,hv]
 simp[aop,ho,hd]at g
 split at g
 case h_2=>grind
 rename_i k j h6;rw[h6]at hi;have h7:=a0l.int hi;rw[h7]at run;simp[AE.addrK]at g
 split at g
 
 rename_i e l O;rw[O]at H
 split at g
 rename_i L;obtain⟨F,hty⟩:=D.T t _ L;obtain⟨t',V,f,-⟩:=a1G hty;obtain⟨I⟩:=a0D (a0L f);obtain⟨y,Q,g⟩:=a09.1 g;obtain⟨h0,h1,Y⟩:=b7p Q;have h5:e.sh=e:=by simpa[Ty.sh]using F
 obtain⟨A,n,c,R,hv,hA,hn,h9,m,hS,hR⟩:=VOk.elem h5 H Y;refine a0w.set hd hN (run _ (by rw[hv];exact b8e V I hA h0 (by omega))) h (av:=.vptr e y) ?_ g;exact⟨A.block,A.off+j.toNat*e.cells,R,rfl,m,hS,hR⟩;simp_all
 ·
  rename_i n p O;rw[O]at H;obtain⟨r,e,l,S,Q,g⟩:=d7h g
  split at g
  ·rename_i L;obtain⟨F,hty⟩:=D.T t _ L;obtain⟨t',V,f,-⟩:=a1G hty;rw[a3A]at f;obtain⟨I⟩:=a0D (a0L f);rcases a0f g with⟨C,g⟩|⟨-,g⟩
   ·simp at C;obtain⟨s,A,c,g1,g2,hv,g3,hA,k1⟩:=h.sref_head H S Q;cases A with
    |none=>grind
    |some A=>
     refine a0w.set hd hN (run _ (by rw[hv];exact b8e V I ((hA A rfl).resolve_left (by omega)) C.1 C.2)) h (av:=.ptr n (p++[.idx j.toNat])) ?_ g;refine⟨r,e,A.block,A.off+j.toNat*e.cells,S,?_,rfl⟩;rw[a3M p _ _ _ g1];simp_all[a0U]
   simp_all
  simp_all
 
 rename_i n p off k' O;rw[O]at H;obtain⟨r,e,l,k4,S,Q,g⟩:=c1r g
 split at g
 rename_i L;obtain⟨F,hty⟩:=D.T t _ L;obtain⟨t',V,f,-⟩:=a1G hty;rw[a3A]at f;obtain⟨I⟩:=a0D (a0L f);rcases a0f g with⟨C,g⟩|⟨-,g⟩;simp at C;obtain⟨s,O',R',A,n0,c,g1,g2,g3,g4,g5,g6,A',hv,g7,g8⟩:=h.window H S Q;have h9:n0<=c:=by
  rcases a2a g3 with⟨u,-⟩|⟨A0,nn,c',os,u,-,h8,-⟩<;>simp only[Src.rd,if_true,sj,Value.slice.injEq]at u<;>omega
 rcases a2a g3 with⟨u,-⟩|⟨A0,nn,c',os,u,X,h8,-⟩;simp[Src.rd]at u;omega;simp[Src.rd]at u;obtain⟨rfl,rfl,rfl⟩:=u;have X:A0.spot=none:=X.resolve_left (by omega);rcases g8 with g8|g8;omega;simp[a3N X]at g8;subst g8;refine a0w.set hd hN (run _ (by rw[hv];exact b8e V I rfl C.1 C.2)) h (av:=.ptr n (p++[.idx (off+j.toNat)])) ?_ g;refine⟨r,e,A0.block,A0.off+(off+j.toNat)*e.cells,S,?_,by grind⟩;rw[a3M p _ _ _ g1];have k3:off+j.toNat<n0:=by omega
 simp_all[a0U];simp_all;simp_all
 
 rename_i n p O;rw[O]at H
 split at g
 rename_i r S
 split at g
 rename_i k' e l' Q
 split at g
 rename_i L;obtain⟨F,hty⟩:=D.T t _ L;obtain⟨t',V,f,-⟩:=b2f hty;rw[a3A]at f;obtain⟨I⟩:=a0D (a0L f);rcases a0f g with⟨C,g⟩|⟨-,g⟩;simp at C;obtain⟨r',tt,b,off,h1,Y,h3⟩:=H;rw[S]at h1;simp at h1;subst h1;obtain⟨O1,R1,l1,l2,-⟩:=h.sep S;obtain⟨y,O',R',_,_,_,_,g3,g4,-⟩:=a1w p r.t _ l1 Y;rw[Q]at g4;have g9:Ty.arr k' e=tt:=congrArg Sigma.fst g4;subst g9;refine a0w.set hd hN (run _ (by rw[h3];exact b8O V I C.1 C.2)) h (av:=.ptr n (p++[.idx j.toNat])) ?_ g;refine⟨r,e,b,off+j.toNat*e.cells,S,?_,rfl⟩;rw[a3M p _ _ _ Y];simp_all[a0U];simp_all;simp_all;simp_all;simp_all
 
 rename_i k' e l O;rw[O]at H
 split at g
 rename_i L;obtain⟨F,hty⟩:=D.T t _ L;obtain⟨t',V,f,-⟩:=b2f hty;obtain⟨I⟩:=a0D (a0L f);obtain⟨y,Q,g⟩:=a09.1 g;obtain⟨h0,h1,Y⟩:=b7p Q;obtain⟨b,off,R,hv,m,hS,hR⟩:=H;have m:a0j (fun i=>dec (a0a w M.ov) e fun j=>(Src.at b off).rd (a0a w M.ov) (i*e.cells+j)) k' 0=some (l,[],R):=m;simp[a6e]at m;have k0:=a0W k' 0 m;obtain⟨y',o',r',A,B',A',k2,h4,hy,e1,e2⟩:=a0V k' 0 j.toNat m (by omega);rw[Y]at hy;simp at hy;subst hy;have g0:o'=[]:=by
  simp_all
 subst g0;simp at h4;refine a0w.set hd hN (run _ (by rw[hv];exact b8O V I h0 (by omega))) h (av:=.vptr e y) ?_ g;exact⟨b,off+j.toNat*e.cells,r',rfl,h4,hS,fun c C=>hR c (by grind)⟩;simp_all;simp_all
theorem c8A{o:Oper}{t:TypeId}{x:Operand}{f d:Nat}{cx:Cx}{q:Bool}{K:AE->Rs Z}{z:Z}(u:CxTy P cx)(H:o.op=.fieldAddr t x f)(F:o.dst=some d)
  (h:Rel B U N (a0o a) w M)(hN:a.tmps.size=N)(hf:fits N o=true)(e:aop cx q o U K=some z):a0w P B N o a w K z:=by
 have j:∀y∈(o.op.operands.toList),a1m N y=true:=a0R hf;rw[H]at j;have C:=h.opd (j x (by simp[Op.operands]));have run:∀v,(Instr.fieldAt t (a.eval x) f).run P w=.ok v w->(execOp a.eval o).run P w=.ok (.value v) w:=fun v hv=>by simp[execOp,H,hv]
 simp[aop,H,F]at e
 split at e
 rename_i n p G;rw[G]at C
 split at e
 rename_i r L;generalize hg:a1j p r.t r.x=gg at e;obtain⟨D,y⟩:=gg;simp only at e
 split at e
 rename_i l;obtain⟨O,hty⟩:=u.T t _ l.2;rw[a3A]at hty;obtain⟨τ',k,h4,h0⟩:=b8d (w:=w) (b:=0) (o:=0) hty l.1;obtain⟨r',t1,b,off,E,h2,h3⟩:=C;rw[L]at E;simp at E;subst E;obtain⟨O1,R1,l1,l2,-⟩:=h.sep L;obtain⟨y',V,X,_,_,_,_,Y,i,-⟩:=a1w p r.t _ l1 h2;have i:=hg.symm.trans i;have s:D=t1:=congrArg Sigma.fst i;subst s;obtain⟨τ2,S,m,g⟩:=b8d (P:=P) (w:=w) (b:=b) (o:=off) hty l.1;refine a0w.set F hN (run _ (by rw[h3];omega)) h (av:=.ptr n (p++a1l f)) ?_ e;exact⟨r,τ2,b,off+S,L,by rw[a3M p _ _ _ h2];simp_all,rfl⟩;simp_all;simp_all;rename_i D y G;rw[G]at C
 split at e
 rename_i l;obtain⟨O,hty⟩:=u.T t _ l.2;obtain⟨b,off,R,hv,A,hS,hR⟩:=C;obtain⟨τ2,S,m,g⟩:=b8d (P:=P) (w:=w) (b:=b) (o:=off) hty l.1;generalize hg:a1j (a1l f) D y=gg at e;obtain⟨t2,y2⟩:=gg;simp only at e;obtain⟨y',V,X,A1,B1,h5,h6,Y,i,e1,e2⟩:=a1w (a1l f) D (.at b off) A (g _ _ _);have i:=hg.symm.trans i;have s:t2=τ2:=congrArg Sigma.fst i;subst s;have Q:=eq_of_heq (Sigma.mk.inj i).2;subst Q;have I:V=[]:=by
  simp_all
 subst I;refine a0w.set F hN (run _ (by rw[hv];omega)) h (av:=.vptr t2 y2) ?_ e;exact⟨b,off+S,X,rfl,Y,hS,fun c l=>hR c (by grind)⟩;simp_all;simp_all
theorem Rel.lod{tm:Nat->Value}{ty:Ty}{t:TypeId}{av:AV}{u:Value}{q:Bool}{K:AV->AE->Rs Z}{z:Z}(hty:a0u P ty (.inl t)=true)(g0:ty.sh=ty)
  (h:Rel B U N tm w M)(hx:a0l (a0a w M.ov) M.g U.rt (Shr B w M) av u)(i:U.lodK q ty av K=some z):
  ∃v U' M' av',(Instr.loadAt t u).run P w=.ok v w/\Rel B U' N tm w M'/\a0l (a0a w M'.ov) M'.g U'.rt (Shr B w M') av' v/\K av' U'=some z/\
   ((U'=U/\M'=M)\/(q=false/\∃n,av=.ptr n []/\U'=(U.mapv (AV.drop n)).setRt n none)):=by
 simp[AE.lodK]at i
 split at i
 ·
  rename_i Q y
  split at i
  ·rename_i o;subst o;obtain⟨b,off,R,hv,L,hS,hR⟩:=hx;have f:∀j,j<Q.cells->w.cell? ⟨b,off+j,none⟩=a0a w M.ov b (off+j):=by
    intro j _;cases a:M.ov with
    |none=>rfl
    |some y0=>
     obtain⟨b',o',v'⟩:=y0;simp only[a0a];rw[if_neg]
     rintro⟨rfl,-⟩
     have hp:=h.pend;cases s:U.pd with
     |none=>rw[s,a]at hp;exact hp
     |some y1=>
      obtain⟨n,p,dd⟩:=y1;rw[s,a]at hp;obtain⟨r,e,F,hl⟩:=hp;rw[<-a]at hl;exact hS.2.2 ⟨n,h.place F hl⟩
   obtain⟨v,C,k⟩:=b5F (P:=P) (w:=w) (Sh:=Shr B w M) hty L f hR;exact⟨_,_,_,.val Q y,(by simp_all),h,k,i,.inl ⟨rfl,rfl⟩⟩
  simp_all
 ·
  rename_i n p
  split at i
  ·rename_i r F;obtain⟨s,F⟩:=a0K F;have a:M.ov=none:=by
    have hp:=h.pend;rw[s]at hp;cases a:M.ov with
    |none=>rfl
    |some y=>rw[a]at hp;exact hp.elim
   have f:∀b j,w.cell? ⟨b,j,none⟩=a0a w M.ov b j:=fun b j=>by rw[a];rfl
   obtain⟨r',t1,b,off,X,S,h3⟩:=hx;rw[F]at X;simp at X;subst X;obtain⟨O1,R1,l1,l2,l3,l4,l5,l6⟩:=h.sep F;obtain⟨y',O',R',A1,B1,h7,h8,V,G,e1,e2⟩:=a1w p r.t _ l1 S
   split at i
   rename_i e l Y;rw[Y]at G;have o:Ty.list true e=t1:=congrArg Sigma.fst G;subst o
   split at i
   rename_i E;obtain⟨v,hv,hs⟩:=a6x _ V 0 (by simp[Ty.cells]);have hw:w.cell? ⟨b,off,none⟩=some v:=by rw[f];exact hv
   have I:ty.isAgg=false:=by cases ty<;>first|rfl|cases E
   refine⟨v,U,M,.sref n p,?_,h,⟨r,e,.at b off,F,S,hv⟩,i,.inl ⟨rfl,rfl⟩⟩;rw[h3];simp[Instr.loadAt,Instr.sureAddr,loadVar,a6w hty,I,hw];simp_all;rename_i Q y h9 Y;rw[Y]at G;have o:Q=t1:=congrArg Sigma.fst G;subst o;have h6:=eq_of_heq (Sigma.mk.inj G).2;subst h6
   split at i
   rename_i d;obtain⟨d,O⟩:=d;have h5:=b2g O V;subst h5;obtain⟨v,C,k⟩:=b5F (P:=P) (w:=w) (Sh:=Shr B w M) (t:=t) (by grind[a3A]) V (fun j _=>f b (off+j)) (fun c hc=>l2 c (by simp_all));exact⟨_,_,_,.val Q y,(by simp_all),h,k,i,.inl ⟨rfl,rfl⟩⟩
   split at i
   split at i
   rename_i d;subst d;simp[a0U]at S;obtain⟨rfl,h0⟩:=S;obtain⟨R2,k1,k2⟩:=b8N _ l1;rw[h0]at k1;have D:=h.drop (n:=n) (by simp_all);have H:∀c∈R2,Shr B w ⟨M.g,fun m=>if m=n then[]else M.ow m,M.ov⟩ c:=by
    intro c hc;rcases k2 c hc with g|g;have A:a0P M c:=⟨n,l4 c g⟩;refine⟨h.lt A,.inr (h.mine c A),fun⟨m,T⟩=>?_⟩;have T:c∈(if m=n then[]else M.ow m).map (·.1):=T
    split at T
    simp_all;rename_i h4;exact h.disj m n h4 c T (l4 c g);exact Rel.shr_gone c (l2 c g)
   obtain⟨v,C,k⟩:=b5F (P:=P) (w:=w) (m:=a0a w M.ov) (t:=t) (by grind[a3A,Ty.sh_shn]) k1 (fun j _=>f b (off+j)) H;exact⟨_,_,_,.val r.t.shn (Ty.shnx r.t r.x),(by simp_all),D,k,i,.inr ⟨rfl,n,rfl,rfl⟩⟩;simp_all;simp_all
  simp_all
 simp_all
theorem d9U{o:Oper}{t:TypeId}{x:Operand}{d:Nat}{cx:Cx}{q:Bool}{K:AE->Rs Z}{z:Z}(F:CxTy P cx)(hG:GOk cx.G B)(L:o.op=.load t x)(V:o.dst=some d)
  (h:Rel B U N (a0o a) w M)(hN:a.tmps.size=N)(hf:fits N o=true)(C:aop cx q o U K=some z):a0w P B N o a w K z:=by
 have k:∀y∈(o.op.operands.toList),a1m N y=true:=a0R hf;rw[L]at k;have hx:=h.glob hG (h.opd (k x (by simp[Op.operands])));have run:∀v,(Instr.loadAt t (a.eval x)).run P w=.ok v w->(execOp a.eval o).run P w=.ok (.value v) w:=fun v hv=>by simp[execOp,L,hv]
 simp[aop,L,V]at C
 split at C
 case h_2=>grind
 rename_i ty hT;obtain⟨h0,hty⟩:=F.T t _ hT
 split at C
 case h_2=>
  grind[Rel.lod,a0w.set]
 rename_i n r f;have f:U.whole (cx.K d) ty (U.opd x)=some (n,r):=by
  grind
 unfold AE.whole at f
 split at f
 ·rename_i m O
  split at f
  ·rename_i e I
   split at f
   ·rename_i hc;simp at f;obtain⟨rfl,rfl⟩:=f;obtain⟨E,-,-,s⟩:=hc;obtain⟨p,X⟩:=a0K I;have l:M.ov=none:=by
     have hp:=h.pend;rw[p]at hp;cases l:M.ov with
     |none=>rfl
     |some y=>rw[l]at hp;exact hp.elim
    have A:=h.opd (k x (by simp[Op.operands]));rw[O]at A;obtain⟨r2,t1,b,off,D,S,h3⟩:=A;rw[X]at D;simp at D;subst D;obtain⟨Q,hg,c⟩:=h.frzBox X E p;simp[a0U]at S;obtain⟨-,i⟩:=S;rw[hg]at i;simp at i;obtain⟨rfl,rfl⟩:=i;obtain⟨O',R,k1,k2,k3⟩:=(c.roots m ⟨true,e.t.shn,Ty.shnx e.t e.x⟩ (by simp[AE.setRt])).rd;have hO:=b2g (Ty.shn_shn e.t) k1;subst hO;have H:(Src.at Q 0).rd (a0a w M.ov)=(M.g m).rd (a0a w M.ov):=by grind
    obtain⟨v,Y,u⟩:=b5F (P:=P) (w:=w) (m:=a0a w M.ov) (τ:=e.t.shn) (b:=Q) (o:=0) (by rw[<-a3A,Ty.sh_shn,s];omega) (by rw[H];omega) (fun j _=>by rw[l];rfl) k2;exact a0w.set V hN (av:=.val e.t.shn (Ty.shnx e.t e.x)) (run _ (by simp_all)) c u C
   simp_all
  simp_all
 simp_all
end
theorem c6s{α:Type}{f:Nat->Option (α×a1k×List Nat)}{S:Nat->Prop}:∀(l:List α)(i:Nat),(∀j x,l[j]?=some x->∃r,f (i+j)=some (x,[],r)/\∀c∈r,S c)->
  ∃g,a0j f l.length i=some (l,[],g)/\∀c∈g,S c
 | [],i,_=>⟨[],rfl,by simp⟩
 |x::l,i,h=>by
  obtain⟨r,k,a⟩:=h 0 x rfl;obtain⟨g,b,d⟩:=c6s l (i+1) (fun j y m=>by
   have:=h (j+1) y (by simp_all)
   rwa [show i+(j+1)=i+1+j from by omega]at this)
  refine⟨r++g,?_,fun c e=>?_⟩;simp_all[a0j]
  grind
theorem RootOk.mono{r s O}(h:RootOk m Sh r s O)(d:∀c,Sh c->Sh' c):RootOk m Sh' r s O:=by
 obtain⟨g,R,f,k,a⟩:=h.rd;exact⟨g,R,f,fun c b=>d c (k c b),a⟩
theorem Rel.fresh{B U N tm w M}{K:AE->Rs Z}(h:Rel B U N tm w M)(f:U.fresh q n r K=some z)(a:∀c,c<w.heap.size->w'.heap[c]?=w.heap[c]?)(l:w.heap.size<=w'.heap.size){O:a1k}(t:∀c∈O.map (·.1),w.heap.size<=c)(i:(O.map (·.1)).Nodup)(d:∀p∈O,a0Q w' p.1 p.2)(j:RootOk (a0a w' M.ov) (Shr B w M) r s O)(hio:a2n w'=a2n w:=by first|rfl|assumption):∃U' M',K U'=some z/\Rel B U' N tm w' M'/\U'.rt n=some r/\M'.g n=s/\M'.ov=M.ov/\U'=U.newRt n r:=by
 unfold AE.fresh at f;obtain⟨b,f⟩:=(a0f f).elim id fun h=>by grind
 have b:n<pinned:=by simp_all
 split at f
 rename_i o;have e:U.newRt n r=U.setRt n (some r):=by unfold AE.newRt;grind
 refine⟨_,⟨fun m=>if m=n then s else M.g m,fun m=>if m=n then O else M.ow m,M.ov⟩,f,by rw[e];exact h.add o b a l t i d j,by rw[e];simp[AE.setRt],by simp,rfl,rfl⟩
 rename_i D o;rcases a0f f with⟨-,f⟩|⟨-,f⟩
 grind
 split at f
 grind
 rename_i E A;obtain⟨C,-⟩:=a0K A;have e:U.newRt n r=((U.mapv (AV.drop n)).setRt n none).setRt n (some r):=by
  unfold AE.newRt;rw[o];simp only[AE.setRt,AE.mapv]
  grind
 have v:=h.drop (n:=n) (by simp_all);refine⟨_,⟨fun m=>if m=n then s else M.g m,fun m=>if m=n then O else(if m=n then[]else M.ow m),M.ov⟩,f,by rw[e];exact v.add (n:=n) (by simp[AE.setRt]) b a l t i d (j.mono fun c u=>Rel.shr_gone c u),by rw[e];simp[AE.setRt],?_,rfl,rfl⟩
 simp
where
 rt_ne' {n k:Nat} {x y:Option Root} (h:k≠n):(bif k==n then x else y)=y:=by
  grind
theorem d9V(w:World)(o:Obj)(c:Nat)(h:c<w.heap.size):(w.alloc o).heap[c]?=w.heap[c]?:=by
 simp only[World.alloc,Array.getElem?_push]
 grind
theorem b8f{P:Program}:∀(f:Nat)(τ:Ty)(fs:List Field)(off:Nat),a0u P τ (.inr (fs,off))=true->a1Z τ f=true->
  ∃fl τ' k,fs[f]?=some fl/\fl.offset=off+k/\a0u P τ' (.inl fl.type)=true/\k+τ'.cells<=τ.cells/\
   ∀(m:Mem) rd x O R,dec m τ rd=some (x,O,R)->∃y g d,dec m τ' (fun j=>rd (k+j))=some (y,g,d)/\a0T τ x (a1l f)=⟨τ',y⟩/\(O=[]->g=[])/\∀c∈d,c∈R
 |0,τ,fs,off,h,hf=>by
  cases τ with
  |pair a b=>
   cases fs with
   |nil=>simp[a0u]at h
   |cons fl r=>
    simp[a0u]at h;refine⟨fl,a,0,rfl,by omega,h.1.1.2,by simp[Ty.cells],fun m rd x O R n=>?_⟩;obtain⟨p,o1,o,q,o2,r2,w,z,rfl,rfl,rfl⟩:=a2u n;exact⟨p,o1,o,by simp_all,rfl,fun e=>(a23.1 e).1,fun c l=>a03 _ l⟩
  |_=>simp[a1Z]at hf
 |f+1,τ,fs,off,h,hf=>by
  cases τ with
  |pair a b=>
   cases fs with
   |nil=>simp[a0u]at h
   |cons fl r=>
    simp only[a0u,bA9]at h;obtain⟨i,τ',k,w,z,A,E,B⟩:=b8f f b r (off+a.cells) h.2 hf;refine⟨i,τ',a.cells+k,by simp_all,by omega,A,by grind[Ty.cells],fun m rd x O R n=>?_⟩;obtain⟨p,o1,o,q,o2,r2,C,s,rfl,rfl,rfl⟩:=a2u n;obtain⟨y,g,d,D,t,u,v⟩:=B m _ q o2 r2 s;refine⟨y,g,d,?_,t,fun e=>u (a23.1 e).2,fun c l=>a02 _ (v c l)⟩
    grind
  |_=>simp[a1Z]at hf
theorem d2v{m Sh}{τ':Ty}{off:Nat}{y R}(f:a0u P τ' (.inl t)=true)(h:dec m τ' (fun j=>cs[off+j]?)=some (y,[],R))(k:∀c∈R,Sh c)(e:off+τ'.cells<=cs.size):∃v,(part t cs off).run P w=.ok v w/\VOk m Sh τ' y v:=by
 obtain⟨I⟩:=a0D (a0L f);cases hagg:τ'.isAgg with
 |true=>
  refine⟨.agg (cs.extract off (off+τ'.cells)),by simp[part,a6w f,hagg,I.sizeOf],fun _=>⟨_,rfl,by simp_all⟩,fun g=>(by simp_all),R,?_,k⟩;refine a0y τ' h (fun j b=>?_) (fun _ _ _=>rfl);simp_all[Value.cells]
 |false=>
  have a:=b6i hagg;obtain⟨v,hv,d⟩:=a6x τ' h 0 (by omega);simp at hv;refine⟨v,by simp[part,a6w f,hagg,hv],VOk.one hagg d (a0y τ' h (fun j b=>?_) (fun _ _ _=>rfl)) k a⟩;simp_all[Src.rd]
section
variable {P:Program} {B:Base} {N:Nat} {Z:Type} {U:AE} {a:Act} {w:World} {M:Gh}
theorem d7j{o:Oper}{t:TypeId}{x:Operand}{f d:Nat}{cx:Cx}{q:Bool}{K:AE->Rs Z}{z:Z}(n:CxTy P cx)(C:o.op=.field t x f)(A:o.dst=some d)
  (h:Rel B U N (a0o a) w M)(Q:a.tmps.size=N)(X:fits N o=true)(e:aop cx q o U K=some z):a0w P B N o a w K z:=by
 have g:∀y∈(o.op.operands.toList),a1m N y=true:=a0R X;rw[C]at g;have E:=h.opd (g x (by simp[Op.operands]));simp[aop,C,A]at e
 split at e
 rename_i m y V;rw[V]at E
 split at e
 rename_i b;obtain⟨h0,hty⟩:=n.T t _ b.2;obtain⟨fs,hu,Y⟩:=b4o hty b.1;obtain⟨F,τ',k,h1,h2,L,h4,O⟩:=b8f f m _ 0 Y b.1;obtain⟨G,g2,R,u,H⟩:=E;have i:m.isAgg=true:=by cases m<;>first|rfl|(cases f<;>simp[a1Z]at b)
 obtain⟨cs,hv,S⟩:=G i;rw[hv]at u;obtain⟨y',O',R',k1,l,k3,k4⟩:=O _ _ _ _ _ u;have p:=k3 rfl;subst p;generalize hg:a1j (a1l f) m y=gg at e;obtain⟨t2,y2⟩:=gg;simp only at e;have l:=hg.symm.trans l;have r:t2=τ':=congrArg Sigma.fst l;subst r;have s:=eq_of_heq (Sigma.mk.inj l).2;subst s;obtain⟨v,D,j⟩:=d2v (P:=P) (w:=w) (cs:=cs) (off:=k) L k1 (fun c b=>H c (k4 c b)) (by omega);have I:fs[f]?=some F:=by simp_all
 refine a0w.set A Q (v:=v) ?_ h (av:=.val t2 y2) j e;simp_all[execOp,Instr.field,run_underlying,asAgg];simp_all;simp_all
theorem d7k{o:Oper}{t:TypeId}{x i:Operand}{d:Nat}{cx:Cx}{q:Bool}{K:AE->Rs Z}{z:Z}(D:CxTy P cx)(Y:o.op=.index t x i)(V:o.dst=some d)
  (h:Rel B U N (a0o a) w M)(hN:a.tmps.size=N)(hf:fits N o=true)(f:aop cx q o U K=some z):a0w P B N o a w K z:=by
 have g:∀y∈(o.op.operands.toList),a1m N y=true:=a0R hf;rw[Y]at g;have O:=h.opd (g x (by simp[Op.operands]));have hi:=h.opd (g i (by simp[Op.operands]));have run:∀v,(Instr.index t (a.eval x) (a.eval i)).run P w=.ok v w->(execOp a.eval o).run P w=.ok (.value v) w:=fun v hv=>by simp[execOp,Y,hv]
 simp[aop,Y,V]at f
 split at f
 rename_i n e l k j r m;rw[r]at O;rw[m]at hi;have p:=a0l.int hi;rw[p]at run
 split at f
 rename_i Q;obtain⟨h8,hty⟩:=D.T t _ Q;obtain⟨t',hu,H,-⟩:=b2f hty;obtain⟨I⟩:=a0D (a0L H);obtain⟨y,X,f⟩:=a09.1 f;obtain⟨h0,h1,C⟩:=b7p X;obtain⟨g1,g2,R,u,g4⟩:=O;obtain⟨cs,hv,S⟩:=g1 rfl;rw[hv]at u;have u:a0j (fun i=>dec (a0a w M.ov) e fun j=>cs[i*e.cells+j]?) n 0=some (l,[],R):=u;have h5:=a0W n 0 u;obtain⟨y',o',r',A,B',A',h6,E,hy,e1,e2⟩:=a0V n 0 j.toNat u (by omega);rw[C]at hy;simp at hy;subst hy;have h3:o'=[]:=by
  simp_all
 subst h3;simp at E;have h4:j.toNat*e.cells+e.cells<=cs.size:=by
  rw[S];simp[Ty.cells];rw[<-a04];exact a00 _ (by omega)
 obtain⟨v,G,L⟩:=d2v (P:=P) (w:=w) (cs:=cs) H E (fun c hc=>g4 c (by grind)) h4;have hc:0<=j/\j<(n:Int):=⟨h0,by omega⟩;refine a0w.set V hN (v:=v) (run _ ?_) h (av:=.val e y) L f;rw[hv];simp[Instr.index,asIntOf,run_underlying hu,hc,I.sizeOf,G];simp_all
 ·rename_i l k j r m;rw[r]at O;rw[m]at hi;have p:=a0l.int hi;rw[p]at run
  split at f
  ·rename_i Q;have hty:=(D.T t _ Q).2;have hu:P.underlying t=some .string:=by
    simp[a0u]at hty
    grind
   obtain⟨y,X,f⟩:=a09.1 f;obtain⟨h0,h1,C⟩:=b7p X;obtain⟨s,hv,hl⟩:=a0l.str O;rw[hl,a30]at C;cases hb:s.data.toList[j.toNat]? with
   |none=>simp_all
   |some b=>
    rw[hb]at C;simp at C;have hs:s[j.toNat]?=some b:=by
     have h7:j.toNat<s.data.toList.length:=(lS.1 hb).1;have F:j.toNat<s.size:=by simp_all
     rw[getElem?_pos s j.toNat F]
     have:=(lS.1 hb).2
     rw[<-this];rfl
    refine a0w.set V hN (v:=.int .u8 b.toNat) (run _ ?_) h (av:=.val (.int .u8) y) (by simp_all[a0l.mk_int]) f;simp_all[Instr.index,asIntOf,run_underlying]
  simp_all
 simp_all
theorem c1s{f:Int->Int->Int}{g:Value->Value->Sem Value}{k:IntKind}(c:∀x y w,(g (.int k x) (.int k y)).run P w=.ok (.int k (f x y)) w):
  ∀(l:List Operand)(x:Int){K:AV->Rs Z}{z:Z},Rel B U N (a0o a) w M->(∀y∈l,a1m N y=true)->AE.mins f k (l.map U.opd) x K=some z->
   ∃r,K (.val (.int k) r)=some z/\((l.map a.eval).foldlM g (.int k x)).run P w=.ok (.int k r) w
 | [],x,K,z,h,hl,hz=>⟨x,hz,rfl⟩
 |y::l,x,K,z,h,hl,hz=>by
  simp at hz;unfold AE.mins at hz
  split at hz
  simp_all;rename_i x k' y' l' b;simp at b;obtain⟨b,rfl⟩:=b
  split at hz
  rename_i i;subst i;have d:=h.opd (hl y (by simp));rw[b]at d;have hv:=a0l.int d;obtain⟨r,e,j⟩:=c1s c l _ h (fun u n=>hl u (by grind)) hz;refine⟨r,e,?_⟩;have m:=fun z=>c z y' w;simp_all;simp_all;simp_all
theorem d9W{K:Nat->Rs Z}{z:Z}(i:CxTy P cx)(h:Rel B U N (a0o a) w M)(g:a1m N x=true)(j:U.lenK (cx.T t) (U.opd x) K=some z)(ty:TypeId):
  ∃n,K n=some z/\(Builtin.len_ #[t] ty #[a.eval x]).run P w=.ok (.int .i64 (n:Int)) w:=by
 have g:=h.opd g;have u:∀o e,cx.T t=some (.list o e)->∀A n c,a.eval x=.slice A n c->(Builtin.len_ #[t] ty #[a.eval x]).run P w=.ok (.int .i64 (n:Int)) w:=by
  intro o e b A n c hv;obtain⟨q,hty⟩:=i.T t _ b;obtain⟨H,C,v,-⟩:=a1G hty;simp_all[Builtin.len_,run_underlying,goInt]
 unfold AE.lenK at j
 split at j
 rename_i o e D m l b f;rw[f]at g;obtain⟨R,d,E⟩:=VOk.rd (t:=.list D m) g rfl rfl;have d:a0Y (a0a w M.ov) D m.cells (dec (a0a w M.ov) m) (some (a.eval x))=some (l,[],R):=d;unfold a0Y at d
 split at d
 grind
 rename_i A n c hv;simp at hv
 split at d
 split at d
 grind
 rename_i xs os rs y;have V:=a0W n 0 y
 grind
 simp_all;simp_all;rename_i n e Y m l b f;obtain⟨q,hty⟩:=i.T t _ b;obtain⟨H,C,v,-⟩:=b2f hty;exact⟨n,j,by simp_all[Builtin.len_,run_underlying,goInt]⟩;rename_i l b f;rw[f]at g;obtain⟨s,hv,S⟩:=a0l.str g;have hty:=(i.T t _ b).2;have C:P.underlying t=some .string:=by
  simp[a0u]at hty
  grind
 refine⟨_,j,?_⟩;simp_all[Builtin.len_,run_underlying,goInt];rename_i b f;rw[f]at g;exact⟨0,j,u _ _ b _ _ _ g⟩;rename_i b f;rw[f]at g;obtain⟨A,hv⟩:=g
 grind
 rename_i n p b f;rw[f]at g
 split at j
 rename_i r G
 split at j
 rename_i m l F;obtain⟨s,A,c,-,-,hv,-⟩:=h.sref_head g (a0K G).2 F
 grind
 simp_all;simp_all;rename_i n p off k b f;rw[f]at g;obtain⟨r,e,s,a0,X,L,d,E,y,O,I,hv,Q,-⟩:=g
 grind
 simp_all
end
theorem Rel.ov_lt{B U N tm w M}(h:Rel B U N tm w M){b o v}(g:M.ov=some (b,o,v)):b<w.heap.size:=by
 have hp:=h.pend;rw[g]at hp;cases hpd:U.pd with
 |none=>rw[hpd]at hp;exact hp.elim
 |some x=>
  obtain⟨n,p,d⟩:=x;rw[hpd]at hp;obtain⟨r,e,k,f⟩:=hp;rw[<-g]at f;exact h.lt ⟨n,h.place k f⟩
theorem Rel.memo_new{B U N tm w M}(h:Rel B U N tm w M){e fr}(f:w'.heap[w.heap.size]?=some (.cells cs e fr))(j:Nat):a0a w' M.ov w.heap.size j=cs[j]?:=by
 have k:w'.cell? ⟨w.heap.size,j,none⟩=cs[j]?:=by simp_all[World.cell?]
 unfold a0a;split;rename_i b o v g
 have:=h.ov_lt g
 grind
 omega
theorem Rel.memo_old{B U N tm w M}(_:Rel B U N tm w M)(h:∀c,c<w.heap.size->w'.heap[c]?=w.heap[c]?){j:Nat}(g:c<w.heap.size):a0a w' M.ov c j=a0a w M.ov c j:=
 a1y _ (h c g) j
theorem Rel.newBox{B U N tm w M}{t:Ty}{x:t.den}{K:AE->Rs Z}(h:Rel B U N tm w M)(y:U.fresh q n ⟨true,t,x⟩ K=some z)(f:∀c,c<w.heap.size->w'.heap[c]?=w.heap[c]?)(d:w.heap.size<=w'.heap.size){e:TypeId}(k:w'.heap[w.heap.size]?=some (.cells cs e (0,0)))(r:cs.size=t.cells){R}(v:dec (a0a w M.ov) t (fun j=>cs[j]?)=some (x,[],R))(i:∀c∈R,Shr B w M c)(hio:a2n w'=a2n w:=by first|rfl|assumption):
  ∃a M',K a=some z/\Rel B a N tm w' M'/\a0l (a0a w' M'.ov) M'.g a.rt (Shr B w' M') (.ptr n []) (.pointer (some ⟨w.heap.size,0,none⟩)):=by
 have u:dec (a0a w' M.ov) t ((Src.at w.heap.size 0).rd (a0a w' M.ov))=some (x,[],R):=a0y t v (fun j _=>by simp[Src.rd];exact h.memo_new k j)
  (fun b j hb=>by
   rcases hb with hb|hb;simp_all;exact h.memo_old f (i b hb).1)
 obtain⟨a,M',l,m,o,p,A,C⟩:=h.fresh y f d (s:=.at w.heap.size 0) (O:=[(w.heap.size,t.cells)]) (by simp) (by simp)
  (by simp;exact⟨cs,e,0,0,k,by omega,.inl rfl⟩) ⟨[],R,u,i,.inl ⟨rfl,_,rfl,rfl⟩⟩
 exact⟨a,M',l,m,_,t,w.heap.size,0,o,by rw[p];rfl,rfl⟩
theorem Rel.newSlice{B U N tm w M}{K:AE->Rs Z}(h:Rel B U N tm w M)(L:U.fresh q n ⟨false,.list true e,l⟩ K=some z)(f:∀c,c<w.heap.size->w'.heap[c]?=w.heap[c]?)(r:w.heap.size<=w'.heap.size){fr}(k:w'.heap[w.heap.size]?=some (.cells cs t fr))(m:fr.2=fr.1\/c*e.cells<=fr.1)(d:c*e.cells<=cs.size)(G:l.length<=c){R}(H:a0j (fun i=>dec (a0a w M.ov) e fun j=>cs[i*e.cells+j]?) l.length 0=some (l,[],R))(u:∀c∈R,Shr B w M c)(hio:a2n w'=a2n w:=by first|rfl|assumption):
  ∃a M',K a=some z/\Rel B a N tm w' M'/\a0l (a0a w' M'.ov) M'.g a.rt (Shr B w' M') (.sref n []) (.slice (some ⟨w.heap.size,0,none⟩) l.length c)/\M'.ov=M.ov/\a=U.newRt n ⟨false,.list true e,l⟩:=by
 have I:a0j (fun i=>dec (a0a w' M.ov) e fun j=>a0a w' M.ov w.heap.size (0+(i*e.cells+j))) l.length 0=some (l,[],R):=by
  have E:dec (a0a w M.ov) (.arr l.length e) (fun j=>cs[j]?)=some (l,[],R):=H;refine a0y (.arr l.length e) E (rd':=fun j=>a0a w' M.ov w.heap.size (0+j)) (fun j _=>?_) (fun b j hb=>?_);show a0a w' M.ov w.heap.size (0+j)=_;rw[a26];exact h.memo_new k j;rcases hb with hb|hb;simp_all;exact h.memo_old f (u b hb).1
 have o:a0Q w' w.heap.size (c*e.cells):=⟨cs,t,fr.1,fr.2,k,d,m⟩
 let O:a1k:=if c=0 then[]else[(w.heap.size,0+c*e.cells)]
 have P:∀p∈O,p=(w.heap.size,0+c*e.cells):=by
  grind
 have F:dec (a0a w' M.ov) (.list true e) ((Src.one (.slice (some ⟨w.heap.size,0,none⟩) l.length c)).rd (a0a w' M.ov))=some (l,O,R):=by
  show a0Y (a0a w' M.ov) true e.cells (dec (a0a w' M.ov) e) (some (.slice (some ⟨w.heap.size,0,none⟩) l.length c))=_;simp only[a0Y]
  grind
 obtain⟨a,M',v,x,y,A,C,D⟩:=h.fresh L f r (s:=.one (.slice (some ⟨w.heap.size,0,none⟩) l.length c)) (O:=O) (by
   grind) (by grind)
  (fun p hp=>by grind) ⟨O,R,F,u,.inr ⟨rfl,⟨_,rfl⟩,⟨e,rfl⟩,rfl⟩⟩
 exact⟨a,M',v,x,⟨_,e,_,y,by rw[A];rfl,rfl⟩,C,D⟩
theorem d2w{t:Nat}(g:CxTy P cx)(h:cx.own d t=some τ):a0u P τ (.inl t)=true:=by
 unfold Cx.own at h
 split at h
 split at h
 rename_i f;simp at h;subst h;rw[<-a3A];exact(g.T t _ f).2;simp_all;exact(g.T t _ h).2
theorem c5o{z:Array Value}(g:a2v e (fun j=>z[j]?)=true)(a:z.size=e.cells)(n:Nat):a0j (fun i=>dec m e fun j=>(madeCells z (n*e.cells))[i*e.cells+j]?) n 0=some (a08 n e.dflt,[],[]):=by
 refine b4n n 0 fun i _ hi=>a0y e (a6v (m:=m) e g) (fun j f=>?_) (fun _ _ _=>rfl);have h:i*e.cells+j<n*e.cells:=by
  have:(i+1)*e.cells<=n*e.cells:=a00 _ (by omega)
  grind
 have k:(i*e.cells+j)%e.cells=j:=by simp_all[Nat.mod_eq_of_lt]
 simp_all[madeCells]
section
variable {P:Program} {B:Base} {N:Nat} {Z:Type} {U:AE} {a:Act} {w:World} {M:Gh}
theorem a1I(o:Obj)(c:Nat)(h:c<w.heap.size):(w.alloc o).heap[c]?=w.heap[c]?:=d9V w o c h
theorem a1B(o:Obj):(w.alloc o).heap[w.heap.size]?=some o:=by
 show(w.heap.push o)[w.heap.size]?=_
 simp
theorem a2b(o:Obj):w.heap.size<=(w.alloc o).heap.size:=by
 simp
theorem a0w.sets{o:Oper}{K:AE->Rs Z}{z:Z}(b:o.dst=some d)(k:a.tmps.size=N)(f:(execOp a.eval o).run P w=.ok (.value v) w')(h:∃U' M',K (U'.set d av)=some z/\Rel B U' N (a0o a) w' M'/\a0l (a0a w' M'.ov) M'.g U'.rt (Shr B w' M') av v):a0w P B N o a w K z:=by
 grind[a0w.set]
theorem d7l{o:Oper}{t:TypeId}{d:Nat}{cx:Cx}{q:Bool}{K:AE->Rs Z}{z:Z}(f:CxTy P cx)(e:o.op=.alloc t)(b:o.dst=some d)
  (h:Rel B U N (a0o a) w M)(i:a.tmps.size=N)(k:aop cx q o U K=some z):a0w P B N o a w K z:=by
 simp[aop,e,b]at k
 split at k
 rename_i τ hT;have hty:=d2w f hT;obtain⟨I⟩:=a0D (a0L hty);have g:(execOp a.eval o).run P w=.ok (.value (.pointer (some ⟨w.heap.size,0,none⟩))) (w.alloc (.cells I.z.cells t)):=by
  simp[execOp,e,Instr.alloc,I.zeroValue,newVar,newRow]
 exact a0w.sets b i g (h.newBox k (fun c j=>a1I _ c j) (a2b _) (a1B _) I.zsize (a6v _ I.zok) (by simp));simp_all
theorem e2a{o:Oper}{K:AE->Rs Z}{z:Z}(F:o.op=.box t x)(A:o.dst=some d)(v:(bif q then none else U.aggOf x)=none)(h:Rel B U N (a0o a) w M)(E:a.tmps.size=N)(H:fits N o=true)(i:aop cx q o U K=some z):a0w P B N o a w K z:=by
 have I:=h.opd (a0R H x (by simp[F,Op.operands]));simp[aop,F,A,v]at i
 split at i
 rename_i τ hT;obtain⟨y,L,r,i,l,hv,-,-⟩:=h.asV (.inl I) i;have e:(execOp a.eval o).run P w=.ok (.value (.pointer (some ⟨w.heap.size,0,none⟩))) (w.alloc (.cells (a.eval x).cells t)):=by
  simp_all[execOp,Instr.box,newVar,newRow]
 obtain⟨-,-,R,D,s⟩:=id hv
 split at i
 
 have n:=a1B (w:=w) (.cells (a.eval x).cells t);have k:∀c,c<w.heap.size->(w.alloc (.cells (a.eval x).cells t)).heap[c]?=w.heap[c]?:=fun c f=>a1I _ c f;have p:=a2b (w:=w) (.cells (a.eval x).cells t);have C:w.heap.size<(w.alloc (.cells (a.eval x).cells t)).heap.size:=by simp
 have G:=l.ext k p;have m:dec (a0a (w.alloc (.cells (a.eval x).cells t)) r.ov) τ ((Src.at w.heap.size 0).rd (a0a (w.alloc (.cells (a.eval x).cells t)) r.ov))=some (y,[],R):=
  a0y τ D (fun j _=>by simp[Src.rd];exact l.memo_new n j) (fun b j hb=>by
   rcases hb with hb|hb;simp_all;exact l.memo_old k (s b hb).1)
 have u:∀c,Shr B w r c->Shr B (w.alloc (.cells (a.eval x).cells t)) r c:=fun c f=>⟨a06 f.1 p,f.2⟩;exact a0w.set A E e G (av:=.vptr τ y) ⟨w.heap.size,0,R,rfl,m,⟨C,.inr (.inr l.size),fun g=>by have:=l.lt g;omega⟩,fun c f=>u c (s c f)⟩ i;exact a0w.sets A E e (l.newBox i (fun c f=>a1I _ c f) (a2b _) (a1B _) hv.cells.1 D s);simp_all
theorem d7m{t:Ty}{K:t.den->Rs Z}{z:Z}(h:av.isVal t K=some z):∃x,av=.val t x/\K x=some z:=by
 cases av with
 |val t' x=>
  simp only[AV.isVal]at h
  grind
 |_=>cases h
theorem c6t{k:IntKind}{K:Int->Rs Z}{z:Z}(h:av.isVal (.int k) K=some z):∃x:Int,av=.val (.int k) x/\K x=some z:=d7m h
theorem c8B{o:Oper}{t:TypeId}{x y:Operand}{d:Nat}{cx:Cx}{q:Bool}{K:AE->Rs Z}{z:Z}(j:CxTy P cx)(b:o.op=.makeSlice t x y)(S:o.dst=some d)
  (h:Rel B U N (a0o a) w M)(hN:a.tmps.size=N)(C:fits N o=true)(g:aop cx q o U K=some z):a0w P B N o a w K z:=by
 have E:=h.opd (a0R C x (by simp[b,Op.operands]));have F:=h.opd (a0R C y (by simp[b,Op.operands]));simp[aop,b,S]at g
 split at g
 rename_i X e Q;obtain⟨l,s,g⟩:=c6t g;obtain⟨c,u,g⟩:=c6t g;rw[s]at E;rw[u]at F;rcases a0f g with⟨k,g⟩|⟨-,g⟩;simp only[bA9,dT,lim]at k;obtain⟨L,O,c3⟩:=k;have hty:=d2w j Q;obtain⟨v,T,r,D⟩:=a1G hty;obtain⟨I⟩:=a0D (a0L r);have f:=run_make (P:=P) w t v I.i I.z T I.info I.zero .i64 .i64 l c L O (by
  have:=I.bytes
  have h1:((I.i.bytes*c.toNat:Nat):Int)<=((32768*2147483648:Nat):Int):=Int.ofNat_le.2 (Nat.mul_le_mul this (by omega))
  grind) (by omega)
 rw[I.size]at f;have p:(execOp a.eval o).run P w=.ok (.value (.slice (some ⟨w.heap.size,0,none⟩) l.toNat c.toNat)) (w.alloc (.cells (madeCells I.z.cells (c.toNat*e.cells)) v)):=by
  simp only[execOp,b,a0l.int E,a0l.int F,Sem.run_bind];simp_all
 have n:=c5o (m:=a0a w M.ov) I.zok I.zsize c.toNat
 obtain⟨U',M',g1,g2,g3,-,-⟩:=h.newSlice (c:=c.toNat) g (fun c k=>a1I _ c k) (a2b _) (a1B (Obj.cells (madeCells I.z.cells (c.toNat*e.cells)) v)) (.inl rfl) (by simp_all[size_madeCells])
  (by grind) (R:=[]) (by
   rw[List.length_replicate];refine b4n _ 0 fun i _ hi=>?_
   obtain⟨x',X,r',A,B',Y,H,G,V,k3,k4⟩:=a0V _ 0 i n (by omega);rw[a26]at G;rw[G];rw[List.getElem?_replicate,if_pos (by omega)]at V;simp_all) (by simp)
 grind[a0w.set]
 simp_all;simp_all
theorem c6u(off:Nat)(l:List Value)(i:Nat)(cs:Array Value):((l.zipIdx i).foldl (fun cs (c:Value×Nat)=>cs.setIfInBounds (off+c.2) c.1) cs).size=cs.size/\
  ∀k,((l.zipIdx i).foldl (fun cs (c:Value×Nat)=>cs.setIfInBounds (off+c.2) c.1) cs)[k]?=if off+i<=k/\k<off+i+l.length/\k<cs.size then l[k-(off+i)]? else cs[k]?:=by
 induction l generalizing i cs with
 |nil=>exact⟨rfl,fun k=>by rw[if_neg (by grind)];rfl⟩
 |cons v l ih=>
  obtain⟨h,g⟩:=ih (i+1) (cs.setIfInBounds (off+i) v);refine⟨by simp_all,fun k=>?_⟩;simp only[List.zipIdx_cons,List.foldl_cons]
  grind
end
end Go.Ab
