/- Part of the proof: LibA. Conditions: as each statement tells. -/
import GoSem.Core.Code
import GoSem.Core.View
import GoSem.Core.Lib
import GoSem.Core.Region
import Derived.Orders
import GoSem.Machine.Frame
import Derived.Laws.World
import Derived.Laws.Cells
import Derived.Laws.IdiomCopy
import Derived.Laws.Entries
import Derived.Laws.Strings
import Derived.Laws.BytesString
import Derived.Laws.IdiomStrings
import Derived.Laws.Append
import Derived.Laws.MakeOwn
import Derived.Great.FillDense
noncomputable section
set_option linter.unusedSimpArgs false
set_option linter.unusedVariables false
open Array renaming mapM_eq_mapM_toList->D0,foldl_toList->D6
open BitVec renaming ofInt->D9
open Bool renaming false_eq_true->C8
open Decidable renaming decide->A3
open List renaming length->A6,mem_append_right->A8,mem_append_left->A9,nodup_append->B6,replicate->B7,map_cons->B9,mem_map_of_mem->C2,nodup_cons->C3,length_eq_zero_iff->C5,getD->C6,append_eq_nil_iff->C7,take->C9,drop->D2,range->D3,set->D4,mem_cons_self->D5,getElem?_map->D7,drop_take->D8
open Nat renaming mul_le_mul_right->A4,succ_mul->A7,lt_of_lt_of_le->B3,le_trans->B4,le_refl->C0,zero_add->C1,lt_or_gt_of_ne->C4
open Option renaming bind_eq_some_iff->B8,isSome_iff_exists->D1
namespace Go.Ab
variable {A A' Z α:Type}{P:Program}{Sh Sh':Nat->Prop}{b c d k n sz:Nat}{cs:Array Value}{i:Int}{o:Oper}{op:BinOp}{q:Bool}{t t':TypeId}{u v:Value}{w w':World}{z:Z}
theorem oB{α β:Type _}(a:α)(f:α->Option β):(some a).bind f=f a:=rfl
theorem EV (a b:Bool):((a&&b)=true)=(a=true/\b=true):=Bool.and_eq_true a b
theorem dT {p:Prop} [Decidable p]:(decide p=true)=p:=decide_eq_true_eq
theorem cT {α:Type _} (a b:α):cond true a b=a:=rfl
theorem cF {α:Type _} (a b:α):cond false a b=b:=rfl
theorem lG {α:Type _} {l:List α} {i:Nat} (h:i<l.length):l[i]?=some l[i]:=List.getElem?_eq_getElem h
theorem pJ {α β:Type _} (a:α) (b:β) (c:α) (d:β):((a,b)=(c,d))=(a=c/\b=d):=Prod.mk.injEq a b c d
theorem lA {α:Type _} {p:α->Bool} {l:List α}:l.all p=true↔∀x,x ∈ l->p x=true:=List.all_eq_true
theorem lD {α:Type _} {l:List α} {i:Nat} {a:α}:l.getD i a=l[i]?.getD a:=List.getD_eq_getElem?_getD
theorem lS {α:Type _} {l:List α} {i:Nat} {a:α}:l[i]?=some a↔∃h:i<l.length,l[i]=a:=List.getElem?_eq_some_iff
theorem nZ:((0:Nat):Int)=0:=rfl
theorem tN (n:Nat):(n:Int).toNat=n:=rfl
theorem bT:(!true)=false:=rfl
theorem mA {α:Type _} {a:α} {s t:List α}:a ∈ s++t↔a ∈ s\/a ∈ t:=List.mem_append
theorem pA {α β:Type _} {f:α->β} {l m:List α}:(l++m).map f=l.map f++m.map f:=List.map_append
theorem lN {α:Type _} {s t:List α}:(s++t).length=s.length+t.length:=List.length_append
theorem lC {α:Type _} {a:α} {s:List α}:(a::s).length=s.length+1:=rfl
theorem mC {α:Type _} {a b:α} {l:List α}:a ∈ b::l↔a=b\/a ∈ l:=List.mem_cons
theorem aA {α:Type _} (a b c:List α):a++b++c=a++(b++c):=List.append_assoc a b c
theorem sj{α:Type _}(a b:α):(some a=some b)=(a=b):=Option.some.injEq a b
inductive Ty where
 |int (k:IntKind)|bool|str|unit
 |list (o:Bool) (t:Ty)|pair (a b:Ty)|arr (n:Nat) (t:Ty)

 |nl (t:Ty)
 deriving DecidableEq
variable {e τ:Ty}
def Ty.sJ:Ty->Type
 |.int _=>Int
 |.bool=>Bool
 |.str=>List Int
 |.unit=>Unit
 |.list _ t=>List t.sJ
 |.pair a b=>a.sJ×b.sJ
 |.arr _ t=>List t.sJ
 |.nl t=>List t.sJ
variable {l:List e.sJ}
def Ty.dflt:(t:Ty)->t.sJ
 |.int _=>(0:Int)
 |.bool=>false
 |.str=>([]:List Int)
 |.unit=>()
 |.list _ t=>([]:List t.sJ)
 |.pair a b=>(a.dflt,b.dflt)
 |.arr n t=>B7 n t.dflt
 |.nl t=>([]:List t.sJ)
def Ty.cells:Ty->Nat
 |.unit=>0
 |.pair a b=>a.cells+b.cells
 |.arr n t=>n*t.cells
 |_=>1
def Ty.sh:Ty->Ty
 |.list _ t=>.list false t.sh
 |.pair a b=>.pair a.sh b.sh
 |.arr n t=>.arr n t.sh
 |.nl t=>.list false t.sh
 |t=>t
def Ty.tL:Ty->Ty
 |.list _ t=>.list false t.sh
 |.pair a b=>.pair a.tL b.tL
 |.arr n t=>.arr n t.sh
 |.nl t=>.nl t.sh
 |t=>t
def Ty.isAgg:Ty->Bool
 |.unit|.pair _ _|.arr _ _=>true
 |_=>false
theorem Ty.uB:(t:Ty)->t.sh.sJ=t.sJ
 |.int _|.bool|.str|.unit=>rfl
 |.list _ t=>congrArg List (Ty.uB t)
 |.arr _ t=>congrArg List (Ty.uB t)
 |.nl t=>congrArg List (Ty.uB t)
 |.pair a b=>by show(a.sh.sJ×b.sh.sJ)=(a.sJ×b.sJ);rw[Ty.uB a,Ty.uB b]
theorem Ty.wJ:(t:Ty)->t.tL.sJ=t.sJ
 |.int _|.bool|.str|.unit=>rfl
 |.list _ t=>congrArg List (Ty.uB t)
 |.arr _ t=>congrArg List (Ty.uB t)
 |.nl t=>congrArg List (Ty.uB t)
 |.pair a b=>by show(a.tL.sJ×b.tL.sJ)=(a.sJ×b.sJ);rw[Ty.wJ a,Ty.wJ b]
def Ty.vI(t:Ty)(x:t.sJ):t.tL.sJ:=cast (Ty.wJ t).symm x
def Ty.le:Ty->Ty->Bool
 |.nl a,.list _ b=>A3 (a.sh=b.sh)
 |.pair a b,.pair a' b'=>a.le a'&&b.le b'
 |a,b=>A3 (a=b)
theorem Ty.vU:∀(a b:Ty),a.le b=true->a.sJ=b.sJ
 |.nl a,.list o b,h=>by
  simp only[Ty.le,dT]at h;show List a.sJ=List b.sJ;rw[<-Ty.uB a,<-Ty.uB b,h]
 |.pair a b,.pair g f,h=>by
  simp only[Ty.le,EV]at h;show(a.sJ×b.sJ)=(g.sJ×f.sJ);rw[Ty.vU a g h.1,Ty.vU b f h.2]
 |.nl a,.nl b,h=>by
  simp only[Ty.le,dT]at h;rw[h]
 |.nl a,.int _,h|.nl a,.bool,h|.nl a,.str,h|.nl a,.unit,h|.nl a,.pair _ _,h|.nl a,.arr _ _,h=>by simp[Ty.le]at h
 |.pair a b,.int _,h|.pair a b,.bool,h|.pair a b,.str,h|.pair a b,.unit,h|.pair a b,.arr _ _,h|.pair a b,.list _ _,h|.pair a b,.nl _,h=>by simp[Ty.le]at h
 |.int _,b,h|.bool,b,h|.str,b,h|.unit,b,h|.list _ _,b,h|.arr _ _,b,h=>by
  simp only[Ty.le,dT]at h;rw[h]
def tC(t' t:Ty)(x:t'.sJ):Option t.sJ:=if h:t'=t then some (h▸x)else if h:t'.le t=true then some (cast (Ty.vU _ _ h) x)else none
theorem bR(t:Ty)(x:t.sJ):tC t t x=some x:=by simp[tC]
theorem Ty.uX:(t:Ty)->t.sh=t->t.tL=t
 |.int _,_|.bool,_|.str,_|.unit,_=>rfl
 |.list _ t,h=>h
 |.arr _ t,h=>h
 |.nl t,h=>by cases h
 |.pair a b,h=>by
  simp only[Ty.sh,Ty.pair.injEq]at h;simp only[Ty.tL,Ty.uX a h.1,Ty.uX b h.2]
theorem Ty.uW:(t:Ty)->t.sh.sh=t.sh
 |.int _|.bool|.str|.unit=>rfl
 |.list _ t|.nl t=>by simp only[Ty.sh,Ty.uW t]
 |.arr _ t=>by simp only[Ty.sh,Ty.uW t]
 |.pair a b=>by simp only[Ty.sh,Ty.uW a,Ty.uW b]
theorem Ty.wP:(t:Ty)->t.tL.tL=t.tL
 |.int _|.bool|.str|.unit=>rfl
 |.list _ t|.nl t|.arr _ t=>by simp only[Ty.tL,Ty.uW t]
 |.pair a b=>by simp only[Ty.tL,Ty.wP a,Ty.wP b]
theorem Ty.wN:(t:Ty)->t.tL.sh=t.sh
 |.int _|.bool|.str|.unit=>rfl
 |.list _ t|.nl t|.arr _ t=>by simp only[Ty.tL,Ty.sh,Ty.uW t]
 |.pair a b=>by simp only[Ty.tL,Ty.sh,Ty.wN a,Ty.wN b]
def Ty.wC(t:Ty)(x:t.sJ):t.sh.sJ:=cast (Ty.uB t).symm x
inductive Step where
 |fst|snd|idx (i:Nat)
@[reducible] def BN:=List Step
inductive AV where
 |dead

 |skp
 |val (t:Ty) (x:t.sJ)

 |nils

 |empt
 |nilp
 |ptr (n:Nat) (p:BN)
 |vptr (t:Ty) (x:t.sJ)
 |sref (n:Nat) (p:BN)
 |swin (n:Nat) (p:BN) (off len:Nat)

 |tY (g:Nat)
variable {av:AV}
inductive yV where
 |tup|agg|clo (f:Nat)
 deriving DecidableEq
inductive SV where
 |one (v:AV)
 |cmp (c:yV) (vs:List AV)
structure sO where
 bx:Bool
 t:Ty
 x:t.sJ
variable {r:sO}{rt':Nat->Option sO}
structure AE where
 sl:Nat->SV
 rt:Nat->Option sO

 pd:Option (Nat×BN×Nat)
@[reducible] def Rs(Z:Type):=Option Z
def DW:BN->(t:Ty)->t.sJ->(t':Ty)×t'.sJ
 | [],t,x=>⟨t,x⟩
 |.fst::p,t,x=>match t,x with
  |.pair a _,x=>DW p a x.1
  |_,_=>⟨.unit,()⟩
 |.snd::p,t,x=>match t,x with
  |.pair _ b,x=>DW p b x.2
  |_,_=>⟨.unit,()⟩
 |.idx i::p,t,x=>match t,x with
  |.arr _ t,x=>DW p t (C6 x i t.dflt)
  |.list true t,x=>DW p t (C6 x i t.dflt)
  |_,_=>⟨.unit,()⟩
@[reducible] def Dc(t:Ty)(x:t.sJ)(p:BN):(t':Ty)×t'.sJ:=DW p t x
def FK:BN->(t:Ty)->t.sJ->(t':Ty)->t'.sJ->t.sJ
 | [],t,x,t',y=>if h:t'=t then h▸y else x
 |.fst::p,t,x,t',y=>match t,x with
  |.pair a _,x=>(FK p a x.1 t' y,x.2)
  |_,x=>x
 |.snd::p,t,x,t',y=>match t,x with
  |.pair _ b,x=>(x.1,FK p b x.2 t' y)
  |_,x=>x
 |.idx i::p,t,x,t',y=>match t,x with
  |.arr _ t,x=>D4 x i (FK p t (C6 x i t.dflt) t' y)
  |.list true t,x=>D4 x i (FK p t (C6 x i t.dflt) t' y)
  |_,x=>x
@[reducible] def Fc(t:Ty)(x:t.sJ)(p:BN)(t':Ty)(y:t'.sJ):t.sJ:=FK p t x t' y
def Ig:(p q:BN)->Bool
 | [],_=>true
 |.fst::p,.fst::q=>Ig p q
 |.snd::p,.snd::q=>Ig p q
 |.idx _::p,.idx _::q=>Ig p q
 |_,_=>false
def AV.map(v:AV)(f:AV->AV):AV:=f v
def SV.sI(f:AV->AV):SV->SV
 |.one v=>.one (f v)
 |.cmp c vs=>.cmp c (vs.map f)
def AV.kill(n:Nat)(p:BN):AV->AV
 |.sref m q=>if m==n&&Ig p q then .dead else .sref m q
 |.swin m q o l=>if m==n&&Ig p q then .dead else .swin m q o l
 |.ptr m q=>if m==n&&Ig p q&&A3 (p.length<q.length)then .dead else .ptr m q
 |v=>v
def AV.drop(n:Nat):AV->AV
 |.sref m q=>if m==n then .dead else .sref m q
 |.swin m q o l=>if m==n then .dead else .swin m q o l
 |.ptr m q=>if m==n then .dead else .ptr m q
 |v=>v
def AV.ren(r n:Nat):AV->AV
 |.sref m q=>if m==r then .sref n q else .sref m q
 |.swin m q o l=>if m==r then .swin n q o l else .swin m q o l
 |.ptr m q=>if m==r then .ptr n q else .ptr m q
 |v=>v
def AV.xI(n:Nat)(e:Ty)(l:List e.sJ):AV->AV
 |.sref m q=>if m==n then(match q with|[]=>.val (.list false e.sh) (Ty.wC (.list false e) l)|_=>.dead)else .sref m q
 |.swin m q o k=>if m==n then(match q with|[]=>.val (.list false e.sh) (Ty.wC (.list false e) ((l.drop o).take k))|_=>.dead)else .swin m q o k
 |.ptr m q=>if m==n then .dead else .ptr m q
 |v=>v
namespace AE
def get(U:AE)(i:Nat):AV:=match U.sl i with|.one v=>v|.cmp _ _=>.dead
def put(U:AE)(d:Nat)(v:SV):AE:={ U with sl:=fun j=>bif j==d then v else U.sl j }
def set(U:AE)(d:Nat)(v:AV):AE:=U.put d (.one v)
def uD(U:AE)(d:Option Nat)(v:AV):AE:=match d with|some d=>U.set d v|none=>U
def sI(U:AE)(f:AV->AV):AE:={ U with sl:=fun j=>(U.sl j).sI f }
def sF(U:AE)(n:Nat)(r:Option sO):AE:={ U with rt:=fun j=>bif j==n then r else U.rt j }
def uM(U:AE)(n:Nat)(r:sO):AE:=match U.rt n with
 |none=>U.sF n (some r)
 |some _=>(U.sI (AV.drop n)).sF n (some r)
def look(U:AE)(n:Nat):Option sO:=match U.pd with
 |none=>U.rt n
 |some _=>none
end AE
def Xt:Value->AV
 |.int k n=>.val (.int k) n
 |.bool b=>.val .bool b
 |.string s=>.val .str (s.data.toList.map fun b=>(b.toNat:Int))
 |.slice none 0 0=>.nils
 |.pointer none=>.nilp
 |_=>.dead
def AE.sM(U:AE):Operand->AV
 |.tmp t=>U.get t
 |.const v=>Xt v
 |.global g=>.tY g
 |_=>.dead
inductive RA where
 |v (t:Ty)

 |o (e:Ty)

 |b (t:Ty)
def RA.ty:RA->Ty
 |.v t=>t
 |.o e=>.list true e
 |.b t=>t
inductive PA where
 |v (t:Ty)
 |r (c:Bool) (a:RA)
def PA.ty:PA->Ty
 |.v t=>t
 |.r _ a=>a.ty
def Dz:List Ty->Ty
 | []=>.unit
 | [t]=>t
 |t::r=>.pair t (Dz r)
def JH:List PA->List RA
 | []=>[]
 |.v _::r=>JH r
 |.r _ a::r=>a::JH r
def RA.all(ps:List PA)(rs:List RA):List RA:=rs++JH ps
structure sG where
 ps:List PA
 rs:List RA
 F:(Dz (ps.map PA.ty)).sJ->Option (Dz ((RA.all ps rs).map RA.ty)).sJ
@[reducible] def pinned:Nat:=1000000
structure Cx where

 Q:Nat->Bool
 E:Nat->Bool
 T:Nat->Option Ty
 C:Nat->Option sG
 O:Nat->Option Ty
 V:Nat->Bool
 K:Nat->Bool

 G:Nat->Option ((t:Ty)×t.sJ):=fun _=>none
variable {cx:Cx}
section reading
variable {Z:Type}
def AE.uT(U:AE)(q:Bool)(t:Ty)(a:AV)(K:t.sJ->AE->Rs Z):Rs Z:=
 match a with
 |.val t' x=>match tC t' t x with
  |some y=>K y U
  |none=>none
 |.nils=>match t,K with
  |.list false _,K=>K [] U
  |.nl _,K=>K [] U
  |_,_=>none
 |.empt=>match t,K with
  |.list false _,K=>K [] U
  |_,_=>none
 |.sref n []=>if q then none else match U.look n with
  |some ⟨false,.list true e,l⟩=>if h:Ty.list false e.sh=t then K (h▸Ty.wC (.list false e) l) ((U.sI (AV.xI n e l)).sF n none)else none
  |_=>none
 |.swin n [] o k=>if q then none else match U.look n with
  |some ⟨false,.list true e,l⟩=>if h:Ty.list false e.sh=t then K (h▸Ty.wC (.list false e) ((D2 o l).take k)) ((U.sI (AV.xI n e l)).sF n none)else none
  |_=>none
 |_=>none
def AE.view(U:AE)(t:Ty)(a:AV)(K:t.sJ->Rs Z):Rs Z:=
 match a with
 |.val t' x=>match tC t' t x with
  |some y=>K y
  |none=>none
 |.nils=>match t,K with
  |.list false _,K=>K []
  |.nl _,K=>K []
  |_,_=>none
 |.empt=>match t,K with
  |.list false _,K=>K []
  |_,_=>none
 |.sref n p=>match U.look n with
  |some r=>match Dc r.t r.x p with
   |⟨.list true e,l⟩=>if h:Ty.list false e.sh=t then K (h▸Ty.wC (.list false e) l)else none
   |_=>none
  |none=>none
 |.swin n p o k=>match U.look n with
  |some r=>match Dc r.t r.x p with
   |⟨.list true e,l⟩=>if h:Ty.list false e.sh=t then K (h▸Ty.wC (.list false e) ((D2 o l).take k))else none
   |_=>none
  |none=>none
 |_=>none
end reading
def Az{α:Type}(l:List α)(i:Int):Option α:=if 0<=i then l[i.toNat]? else none
def bits(k:IntKind)(op:BinOp)(x y:Int):Int:=
 let a:=D9 k.bits x
 let b:=D9 k.bits y
 match op with
 |.and=>k.wrap (a &&& b).toNat
 |.or=>k.wrap (a ||| b).toNat
 |.xor=>k.wrap (a ^^^ b).toNat
 |_=>k.wrap (a &&& ~~~b).toNat
def AT(k:IntKind)(x y:Int):Int:=k.wrap (x*2^(min y.toNat k.bits))
def AR(k:IntKind)(x y:Int):Int:=x.fdiv (2^(min y.toNat k.bits))
def nE:(t:Ty)->t.sJ->t.sJ->Bool
 |.int _,x,y=>(show Int from x)==(show Int from y)
 |.bool,x,y=>(show Bool from x)==(show Bool from y)
 |.str,x,y=>(show List Int from x)==(show List Int from y)
 |.unit,_,_=>true
 |.pair a b,x,y=>nE a x.1 y.1&&nE b x.2 y.2
 |.arr _ t,x,y=>(List.zipWith (nE t) x y).all id&&A6 x==A6 y
 |.list _ _,_,_=>false
 |.nl _,_,_=>false
def TJ{Z:Type}(op:BinOp)(k:IntKind)(x y:Int)(K:AV->Rs Z):Rs Z:=
 match op with
 |.add=>K (.val (.int k) (k.wrap (x+y)))
 |.sub=>K (.val (.int k) (k.wrap (x-y)))
 |.mul=>K (.val (.int k) (k.wrap (x*y)))
 |.quo=>bif y==0 then none else K (.val (.int k) (k.wrap (Int.tdiv x y)))
 |.rem=>bif y==0 then none else K (.val (.int k) (Int.tmod x y))
 |.and=>K (.val (.int k) (bits k .and x y))
 |.or=>K (.val (.int k) (bits k .or x y))
 |.xor=>K (.val (.int k) (bits k .xor x y))
 |.andNot=>K (.val (.int k) (bits k .andNot x y))
 |.eql=>K (.val .bool (x==y))
 |.neq=>K (.val .bool (x != y))
 |.lss=>K (.val .bool (A3 (x<y)))
 |.leq=>K (.val .bool (A3 (x<=y)))
 |.gtr=>K (.val .bool (A3 (x > y)))
 |.geq=>K (.val .bool (A3 (x>=y)))
 |.shl=>bif A3 (y<0)then none else K (.val (.int k) (AT k x y))
 |.shr=>bif A3 (y<0)then none else K (.val (.int k) (AR k x y))
def Xu:BinOp->Bool
 |.shl|.shr=>true
 |_=>false
def Zc{Z:Type}(cx:Cx)(op:BinOp)(ty:Nat)(t:Ty)(x:t.sJ)(t':Ty)(y:t'.sJ)(K:AV->Rs Z):Rs Z:=
 if h:t'=t then
  bif cx.E ty&&t.isAgg&&A3 (cx.T ty=some t)then
   match op with
   |.eql=>K (.val .bool (nE t x (h▸y)))
   |.neq=>K (.val .bool (!nE t x (h▸y)))
   |_=>none
  else none
 else none
def Xv{Z:Type}(cx:Cx)(op:BinOp)(ty:Nat)(a b:AV)(K:AV->Rs Z):Rs Z:=
 match a,b with
 |.val (.int k) x,.val (.int k') y=>if Xu op || A3 (k=k')then TJ op k x y K else none
 |.val .bool (x:Bool),.val .bool (y:Bool)=>
  if cx.T ty=some .bool then
   match op with
   |.eql=>K (.val .bool (x==y))
   |.neq=>K (.val .bool (x != y))
   |_=>none
  else none
 |.val .str (x:List Int),.val .str (y:List Int)=>
  match op with
  |.eql=>K (.val .bool (x==y))
  |.neq=>K (.val .bool (x != y))
  |.add=>bif A3 (A6 x+A6 y<2147483648)then K (.val .str (x++y))else none
  |_=>none
 |.val t x,.val t' y=>Zc cx op ty t x t' y K
 |.nilp,.nilp=>if cx.Q ty then(match op with
  |.eql=>K (.val .bool true)
  |.neq=>K (.val .bool false)
  |_=>none)else none
 |.ptr _ _,.nilp=>if cx.Q ty then(match op with
  |.eql=>K (.val .bool false)
  |.neq=>K (.val .bool true)
  |_=>none)else none
 |_,_=>none
def gM{Z:Type}(a b:Option Z):Option Z:=open Classical in if a=b then a else none
theorem gN{Z:Type}{a b:Option Z}{z:Z}(h:gM a b=some z):a=some z/\b=some z:=by
 unfold gM at h;split at h;rename_i e;exact⟨h,by rw[<-e];exact h⟩;cases h
theorem a5L(a:Option Z):gM a a=a:=by simp[gM]
def a5M:Option Ty->AV->AV->Option Bool
 |some (.list _ _),.val (.list false _) l,.nils=>some (List.isEmpty l)
 |_,_,_=>none
def a8e:Option Ty->Bool
 |some (.list _ _)=>true
 |_=>false
def b9w{Z:Type}(op:BinOp)(e:Bool)(K:Bool->Option Z):Option Z:=match op with
 |.eql=>bif e then gM (K true) (K false)else K false
 |.neq=>bif e then gM (K false) (K true)else K true
 |_=>none
def Bp(n:Nat):Bool:=A3 (n<2147483648)
def BE:Nat->BN
 |0=>[.fst]
 |f+1=>.snd::BE f
def Dk:Ty->Nat->Bool
 |.pair _ _,0=>true
 |.pair _ b,f+1=>Dk b f
 |_,_=>false
def QO:BN->BN->Bool
 | [],[]=>true
 |.fst::p,.fst::q=>QO p q
 |.snd::p,.snd::q=>QO p q
 |.idx i::p,.idx j::q=>(i==j)&&QO p q
 |_,_=>false
def EA(x y:Int):Int:=bif A3 (y > x)then y else x
def GZ(x y:Int):Int:=bif A3 (y<x)then y else x
def Xw{α:Type}(l:List α)(off len:Nat)(ys:List α):List α:=
 l.take off++(ys.take (min len ys.length)++l.drop (off+min len ys.length))
def b4V(l:List Int):List Int:=l.map fun n=>((n.toNat%256:Nat):Int)
def Ty.isList:Ty->Bool
 |.list _ _=>true
 |_=>false
def Ty.sQ:Ty->Bool
 |.list _ _=>true
 |.pair a b=>a.sQ || b.sQ
 |.arr _ t=>t.sQ
 |_=>false
def RA.sQ:RA->Bool
 |.v t=>t.sQ
 |.o e=>e.sQ
 |.b t=>t.sQ
section
variable {Z:Type}
def AE.fresh(U:AE)(q:Bool)(n:Nat)(r:sO)(K:AE->Rs Z):Rs Z:=
 bif A3 (n<pinned)then
  match U.rt n with
  |none=>K (U.uM n r)
  |some _=>bif q then none else match U.look n with
   |none=>none
   |some _=>K (U.uM n r)
 else none
def AE.uF(U:AE)(q:Bool)(d:Nat)(e:Ty)(x:AV)(ys:List e.sJ)(K:AE->Rs Z):Rs Z:=
 match x with
 |.nils|.empt=>bif Bp ys.length then U.fresh q d ⟨false,.list true e,ys⟩ fun U=>K (U.set d (.sref d []))else none
 |.sref n p=>bif q then none else match U.look n with
  |some r=>match Dc r.t r.x p with
   |⟨.list true e',l⟩=>
    if h:e=e' then
     bif Bp (A6 l+ys.length)then
      let U':=((U.sI (AV.kill n p)).sF n (some ⟨r.bx,r.t,Fc r.t r.x p (.list true e') (List.append l (h▸ys))⟩)).set d (.sref n p)
      match p,r.bx with
      | [],false=>bif A3 (n<pinned)then K U' else none
      |p,_=>match U.pd with
       |none=>K { U' with pd:=some (n,p,d) }
       |some _=>none
     else none
    else none
   |_=>none
  |none=>none
 |_=>none
def VP:List PA->List Nat->List Nat
 |.v _::ps,us=>VP ps us
 |.r false (.o _)::ps,n::us=>n::VP ps us
 |.r _ _::ps,_::us=>VP ps us
 |_,_=>[]
def AV.sP(us ks:List Nat):AV->AV
 |.sref m q=>if us.contains m then(match q with|[]=>if ks.contains m then .sref m []else .dead|_=>.dead)else .sref m q
 |.swin m q o l=>if us.contains m then .dead else .swin m q o l
 |.ptr m q=>if us.contains m then(match q with|[]=>.ptr m []|_=>.dead)else .ptr m q
 |v=>v
def AE.over(U:AE)(ty:Ty)(n:Nat)(r:sO)(x:AV)(K:AE->Rs Z):Rs Z:=match x,U.look n with
 |.val t' y,some _=>if r.bx=true/\(r.t.sh=ty/\(t'.tL=t'/\t'.sh=ty))then
   (match tC t' r.t y with
   |some z=>K ((U.sI (AV.sP [n] [])).sF n (some ⟨true,r.t,z⟩))
   |none=>match tC t' r.t.tL y with
    |some z=>K ((U.sI (AV.sP [n] [])).sF n (some ⟨true,r.t.tL,z⟩))
    |none=>K ((U.sI (AV.sP [n] [])).sF n (some ⟨true,t',y⟩)))else none
 |_,_=>none
def AE.wV(U:AE)(ty:Ty)(n:Nat)(r:sO)(x:AV)(K:AE->Rs Z):BN->Rs Z
 | []=>U.over ty n r x K
 |_=>none
def AE.vJ(U:AE)(ty:Ty)(n:Nat)(p:BN)(x:AV)(K:AE->Rs Z):Rs Z:=
 match U.rt n with
 |none=>none
 |some r=>
  match Dc r.t r.x p with
  |⟨.list true e,_⟩=>
   if ty.isList then
   match x with
   |.nils=>match U.look n with
    |none=>none
    |some _=>K ((U.sI (AV.kill n p)).sF n (some ⟨r.bx,r.t,Fc r.t r.x p (.list true e) []⟩))
   |.sref m p'=>
    bif m==n&&QO p' p then
     match U.pd with
     |some (m',p'',_)=>bif m'==n&&QO p'' p then K { U with pd:=none }else none
     |none=>none
    else match U.look n,p',U.look m with
     |some _,[],some ⟨false,.list true e',l⟩=>
      if h:e'=e then
       bif m==n then none else
       K ((((U.sI (AV.kill n p)).sI (AV.drop m)).sF m none).sF n (some ⟨r.bx,r.t,Fc r.t r.x p (.list true e) (h▸l)⟩))
      else none
     |_,_,_=>none
   |_=>none
   else none
  |⟨t,_⟩=>
   if t.tL=t/\t.sh=ty then
    U.uT false t x fun y U'=>match U'.look n with
     |some r=>if(Dc r.t r.x p).1=t then K (U'.sF n (some ⟨r.bx,r.t,Fc r.t r.x p t y⟩))else none
     |none=>none
   else U.wV ty n r x K p
def AV.sS:AV->List Nat
 |.sref n _|.swin n _ _ _=>[n]
 |_=>[]
def AE.arg(U:AE)(fz q:Bool)(used seen:List Nat):(p:PA)->AV->(p.ty.sJ->AE->List Nat->List Nat->Rs Z)->Rs Z
 |.v t,a,K=>bif a.sS.any fun n=>used.contains n then none else if fz then U.uT q t a fun x U'=>K x U' used seen else
   U.view t a fun x=>K x U used (a.sS++seen)
 |.r c (.b t),.ptr n [],K=>if c || q || used.contains n || seen.contains n then none else match U.look n with
  |some ⟨true,t',x⟩=>if h:t'=t then K (h▸x) U (n::used) seen else none
  |_=>none
 |.r c (.o e),.sref n [],K=>if(c&&A3 (pinned<=n)) || q || used.contains n || seen.contains n then none else match U.look n with
  |some ⟨bx,.list true e',x⟩=>if h:e'=e then(bif bx&&c then none else K (h▸x) U (n::used) seen)else none
  |_=>none
 |.r _ _,_,_=>none
def AE.args(U:AE)(fz q:Bool)(used seen:List Nat):(ps:List PA)->List AV->((Dz (ps.map PA.ty)).sJ->AE->List Nat->Rs Z)->Rs Z
 | [],[],K=>K () U used
 | [p],[a],K=>U.arg fz q used seen p a fun x U' used' _=>K x U' used'
 |p::p'::ps,a::as,K=>U.arg fz q used seen p a fun x U' used' seen'=>U'.args fz q used' seen' (p'::ps) as fun y U'' used''=>K (x,y) U'' used''
 |_,_,_=>none
def Eu:(rs:List RA)->(Dz (rs.map RA.ty)).sJ->List ((r:RA)×r.ty.sJ)
 | [],_=>[]
 | [r],x=>[⟨r,x⟩]
 |r::r'::rs,x=>⟨r,x.1⟩::Eu (r'::rs) x.2
def Bx:(ps:List PA)->(Dz (ps.map PA.ty)).sJ->List ((p:PA)×p.ty.sJ)
 | [],_=>[]
 | [p],x=>[⟨p,x⟩]
 |p::p'::ps,x=>⟨p,x.1⟩::Bx (p'::ps) x.2
def Bn:((r:RA)×r.ty.sJ)->Option sO
 |⟨.v _,_⟩=>none
 |⟨.o e,x⟩=>some ⟨false,.list true e,x⟩
 |⟨.b t,x⟩=>some ⟨true,t,x⟩
def a9l(n:Nat):((r:RA)×r.ty.sJ)->AV
 |⟨.v t,x⟩=>.val t x
 |⟨.o _,_⟩=>.sref n []
 |⟨.b _,_⟩=>.ptr n []
def BC:List RA->Nat->List Nat
 | [],_=>[]
 |_::rs,n=>n::BC rs (n+1000)
def Dn:List RA->Nat->List Nat
 | [],_=>[]
 |.v _::rs,n=>Dn rs (n+1000)
 |_::rs,n=>n::Dn rs (n+1000)
def CO:List Nat->List ((r:RA)×r.ty.sJ)->Nat->Option sO
 |k::ns,it::its,n=>match Bn it with
  |some r=>bif n==k then some r else CO ns its n
  |none=>CO ns its n
 |_,_,_=>none
def JN:List Nat->List ((r:RA)×r.ty.sJ)->List AV
 |k::ns,it::its=>a9l k it::JN ns its
 |_,_=>[]
def TK(o:Option sO)(r:sO):sO:=match o with
 |some ⟨true,_,_⟩=>⟨true,r.t,r.x⟩
 |_=>r
def a2A:Option sO->Bool
 |some ⟨bx,_,_⟩=>bx
 |none=>false
def AE.vS(U:AE)(ks:List Nat):List Nat:=ks.filter fun n=>!a2A (U.rt n)
def AE.tV(U:AE)(q:Bool)(us:List Nat):List Nat->(AE->Rs Z)->Rs Z
 | [],K=>K U
 |n::r,K=>bif A3 (n<pinned)&&!us.contains n then match U.rt n with
   |none=>U.tV q us r K
   |some _=>bif q then none else((U.sI (AV.drop n)).sF n none).tV q us r K
  else none
def AE.call(U:AE)(q:Bool)(d:Option Nat)(s:sG)(as:List AV)(K:AE->Rs Z):Rs Z:=
 match U.pd with
 |some _=>none
 |none=>U.args (s.rs.any RA.sQ || (JH s.ps).any RA.sQ) q [] [] s.ps as fun x U' used=>
  U'.tV q used (Dn s.rs (d.getD 0+1000)) fun U1=>(s.F x).bind fun y=>
   let U2:AE:=⟨fun i=>(U1.sl i).sI (AV.sP used (U1.vS (VP s.ps used.reverse))),fun n=>match CO (BC s.rs (d.getD 0+1000)++used.reverse) (Eu (RA.all s.ps s.rs) y) n with
    |some r=>some (bif used.contains n then TK (U1.rt n) r else r)
    |none=>U1.rt n,none⟩
   match d with
   |none=>K U2
   |some d=>match JN (BC s.rs (d+1000)) (Eu (RA.all s.ps s.rs) y)with
    | [v]=>K (U2.set d v)
    |vs=>K (U2.put d (.cmp .tup vs))
def AE.pathOf(t:Ty)(i:Nat):BN:=match t with
 |.arr _ _=>[.idx i]
 |_=>BE i
def AE.vL(t:Ty)(i:Nat):Bool:=match t with
 |.arr n _=>A3 (i<n)
 |t=>Dk t i
def AE.fills(U:AE)(q:Bool)(t:Ty):List (Nat×Operand)->t.sJ->(t.sJ->AE->Rs Z)->Rs Z
 | [],x,K=>K x U
 |(i,o)::r,x,K=>bif AE.vL t i then(match Dc t x (AE.pathOf t i)with
  |⟨t',_⟩=>U.uT q t' (U.sM o) fun y U'=>U'.fills q t r (Fc t x (AE.pathOf t i) t' y) K)else none
def AE.lit(U:AE)(q:Bool)(e:Ty)(n:Nat):List (Nat×Operand)->List e.sJ->(List e.sJ->AE->Rs Z)->Rs Z
 | [],x,K=>K x U
 |(i,o)::r,x,K=>bif A3 (i<n)then U.uT q e (U.sM o) fun y U'=>U'.lit q e n r (x.set i y) K else none
def AV.vF(a:AV)(t:Ty)(K:t.sJ->Rs Z):Rs Z:=match a with
 |.val t' x=>if h:t'=t then K (h▸x)else none
 |_=>none
def AE.vW(U:AE)(ty:Option Ty)(a:AV)(K:Nat->Rs Z):Rs Z:=match ty,a with
 |some (.list _ _),.val (.list _ _) l=>K (A6 l)
 |some (.arr n _),.val (.arr _ _) _=>K n
 |some .str,.val .str l=>K (A6 (show List Int from l))
 |some (.list _ _),.nils|some (.list _ _),.empt=>K 0
 |some (.list _ _),.sref n p=>match U.look n with
  |some r=>match Dc r.t r.x p with
   |⟨.list true _,l⟩=>K (A6 l)
   |_=>none
  |none=>none
 |some (.list _ _),.swin _ _ _ k=>K k
 |_,_=>none
def AE.body(U:AE)(n:Nat)(p:BN)(K:(e:Ty)->List e.sJ->Rs Z):Rs Z:=match U.look n with
 |some r=>match Dc r.t r.x p with
  |⟨.list true e,l⟩=>K e l
  |_=>none
 |none=>none
def AE.bnd(U:AE)(len d:Nat)(o:Option Operand)(K:Nat->Rs Z):Rs Z:=match o with
 |none=>K d
 |some o=>match U.sM o with
  |.val (.int _) (y:Int)=>bif A3 (0<=y)&&A3 (y<=(len:Int))then K y.toNat else none
  |_=>none
def AE.uU(U:AE)(len:Nat)(lo hi:Option Operand)(K:Nat->Nat->Rs Z):Rs Z:=
 U.bnd len len hi fun h=>U.bnd h 0 lo fun l=>K l h
def Zd:Option Operand->Bool
 |some (.const (.int _ 0))=>true
 |_=>false
def fZ(ty:Option Ty)(a:AV)(K:AV->Rs Z):Rs Z:=match ty,a with
 |some (.list _ _),.val (.list _ _) _|some (.list _ _),.nils|some (.list _ _),.empt|some (.list _ _),.sref _ _|some (.list _ _),.swin _ _ _ _=>K .empt
 |_,_=>none
def AE.wQ(U:AE)(ty:Option Ty)(a:AV)(lo hi mx:Option Operand)(K:AV->Rs Z):Rs Z:=
 match mx with
 |some m=>bif Zd (some m)&&Zd hi&&lo.isNone then fZ ty a K else none
 |none=>match a with
  |.val .str (l:List Int)=>if ty=some .str then U.uU l.length lo hi fun x y=>K (.val .str ((l.take y).drop x))else none
  |.val (.list false t) l=>if ty=some (.list false t)then U.uU (A6 l) lo hi fun x y=>K (.val (.list false t) ((C9 y l).drop x))else none
  |.nils=>match ty with
   |some (.list _ _)=>U.uU 0 lo hi fun _ _=>K .nils
   |_=>none
  |.sref n p=>U.body n p fun e l=>if ty=some (.list false e.sh)then(match lo,hi with
   |none,none=>K (.sref n p)
   |lo,hi=>U.uU (A6 l) lo hi fun x y=>K (.swin n p x (y-x)))else none
  |.swin n p o k=>U.body n p fun e _=>if ty=some (.list false e.sh)then U.uU k lo hi fun x y=>K (.swin n p (o+x) (y-x))else none
  |.vptr (.arr k e) l=>if ty=some (.arr k e)then U.uU k lo hi fun x y=>K (.val (.list false e) ((C9 y l).drop x))else none
  |_=>none
def AE.wS(U:AE)(n:Nat)(p:BN)(K:(e:Ty)->List e.sJ->Rs Z):Rs Z:=match U.rt n with
 |some r=>match Dc r.t r.x p with
  |⟨.list true e,l⟩=>K e l
  |_=>none
 |none=>none
def AE.uI(U:AE)(ty:Option Ty)(a:AV)(i:Int)(K:AV->Rs Z):Rs Z:=match a with
 |.val (.list false t) l=>if ty=some (.list false t)then(Az l i).bind fun x=>K (.vptr t x)else none
 |.sref n p=>U.wS n p fun e l=>if ty=some (.list false e.sh)then bif A3 (0<=i)&&A3 (i<((A6 l:Nat):Int))then K (.ptr n (p++[.idx i.toNat]))else none else none
 |.swin n p o k=>U.body n p fun e _=>if ty=some (.list false e.sh)then bif A3 (0<=i)&&A3 (i<(k:Int))then K (.ptr n (p++[.idx (o+i.toNat)]))else none else none
 |.ptr n p=>match U.rt n with
  |some r=>match Dc r.t r.x p with
   |⟨.arr k e,_⟩=>if ty=some (.arr k e.sh)then bif A3 (0<=i)&&A3 (i<(k:Int))then K (.ptr n (p++[.idx i.toNat]))else none else none
   |_=>none
  |none=>none
 |.vptr (.arr k t) l=>if ty=some (.arr k t)then(Az l i).bind fun x=>K (.vptr t x)else none
 |_=>none
def AE.xB(U:AE)(q:Bool)(ty:Ty)(a:AV)(K:AV->AE->Rs Z):Rs Z:=match a with
 |.vptr t x=>if t=ty then K (.val t x) U else none
 |.ptr n p=>match U.look n with
  |some r=>match Dc r.t r.x p with
   |⟨.list true _,_⟩=>if ty.isList then K (.sref n p) U else none
   |⟨t,y⟩=>if t.sh=ty/\t.tL=t then K (.val t y) U else match q,p with
    |false,[]=>if r.t.sh=ty then K (.val r.t.tL (Ty.vI r.t r.x)) ((U.sI (AV.drop n)).sF n none)else none
    |_,_=>none
  |none=>none
 |_=>none
def AE.whole(U:AE)(fl:Bool)(ty:Ty):AV->Option (Nat×sO)
 |.ptr n []=>match U.look n with
  |some r=>if r.bx=true/\(r.t.isAgg || fl)=true/\r.t.tL≠r.t/\r.t.sh=ty then some (n,r)else none
  |none=>none
 |_=>none
def AE.yU(U:AE)(q:Bool)(cx:Cx)(d:Nat)(v:AV)(K:AE->Rs Z):Rs Z:=match v with
 |.sref r []=>match U.look r with
  |some ⟨false,t,x⟩=>bif r==d then K (U.set d (.sref r []))else bif (cx.V r || A3 (pinned<=r)) || q then K (U.set d (.sref r []))else
    bif A3 (d<pinned)then K (((((U.sI (AV.drop d)).sI (AV.ren r d)).sF r none).sF d (some ⟨false,t,x⟩)).set d (.sref d []))else none
  |_=>K (U.set d (.sref r []))
 |.swin r [] 0 k=>match U.look r with
  |some ⟨false,.list true e,l⟩=>bif (r==d)&&!q then
    bif A3 (d<pinned)&&A3 (k<=A6 l)then K (((U.sI (AV.kill r [])).sF r (some ⟨false,.list true e,C9 k l⟩)).set d (.sref d []))else none
   else K (U.set d (.swin r [] 0 k))
  |_=>K (U.set d (.swin r [] 0 k))
 |.nils=>match U.look d with
  |some ⟨false,_,_⟩=>bif A3 (pinned<=d) || q then K (U.set d .nils)else K (((U.sI (AV.drop d)).sF d none).set d .nils)
  |_=>K (U.set d .nils)
 |v=>K (U.set d v)
def AE.elems(U:AE)(e:Ty)(a:AV)(K:List e.sJ->Rs Z):Rs Z:=match a with
 |.val (.list false t') x=>if h:t'=e then K (h▸(show List t'.sJ from x))else none
 |.nils|.empt=>K []
 |.sref n p=>match U.look n with
  |some r=>match Dc r.t r.x p with
   |⟨.list true e',l⟩=>if h:e'=e then K (h▸l)else none
   |_=>none
  |none=>none
 |.swin n p o k=>match U.look n with
  |some r=>match Dc r.t r.x p with
   |⟨.list true e',l⟩=>if h:e'=e then K (C9 k (D2 o (h▸l)))else none
   |_=>none
  |none=>none
 |_=>none
def Wp:BN->Bool
 | []=>true
 |.idx _::_=>false
 |_::p=>Wp p
def AE.xF(U:AE)(n:Nat)(p:BN)(off:Nat)(len:Option Nat)(k:IntKind)(ys:List Int)(K:Nat->AE->Rs Z):Rs Z:=match U.look n with
 |some r=>match Dc r.t r.x p with
  |⟨.list true (.int k'),l⟩=>bif A3 (k'=k)&&Wp p then
    K (min (len.getD (A6 l)) ys.length) (U.sF n (some ⟨r.bx,r.t,Fc r.t r.x p (.list true (.int k')) (Xw (show List Int from l) off (len.getD (A6 l)) ys)⟩))
   else none
  |_=>none
 |none=>none
def AE.yK(U:AE)(a:AV)(k:IntKind)(ys:List Int)(K:Nat->AE->Rs Z):Rs Z:=match a with
 |.sref n p=>U.xF n p 0 none k ys K
 |.swin n p off len=>U.xF n p off (some len) k ys K
 |_=>none
def AE.wF(f:Int->Int->Int)(k:IntKind):List AV->Int->(AV->Rs Z)->Rs Z
 | [],x,K=>K (.val (.int k) x)
 |.val (.int k') y::r,x,K=>if k'=k then AE.wF f k r (f x y) K else none
 |_,_,_=>none
def gO(cx:Cx):List Nat->Bool
 | [_]=>true
 |_::t::_=>match cx.T t with
  |some (.list _ _)|some .str=>true
  |_=>false
 | []=>false
def AE.wU(U:AE)(d m:Nat)(e:Ty)(ys:List e.sJ)(n:Nat)(K:AE->Rs Z):Rs Z:=match U.look n with
 |some ⟨false,.list true e',l⟩=>if h:e=e' then
   bif (A3 (n<pinned)&&!(n==m))&&Bp (A6 l+ys.length)then
    K (((((U.sI (AV.kill n [])).sI (AV.drop m)).sF m none).sF n (some ⟨false,.list true e',List.append l (h▸ys)⟩)).set d (.sref n []))
   else none
  else none
 |_=>none
def AE.yD(U:AE)(d m:Nat)(e:Ty)(ys:List e.sJ)(a:AV)(K:AE->Rs Z):Rs Z:=match a with
 |.nils=>bif d==m then none else U.fresh false d ⟨false,.list true e,([]:List e.sJ)⟩ fun U'=>U'.wU d m e ys d K
 |.sref n []=>U.wU d m e ys n K
 |_=>none
def AE.ownB(U:AE)(e:Ty):AV->Option (Nat×(e':Ty)×List e'.sJ)
 |.sref m []=>match U.look m with
  |some ⟨false,.list true e',ys⟩=>bif A3 (e'.sh=e)&&!A3 (e'=e)then some (m,⟨e',ys⟩)else none
  |_=>none
 |_=>none
def b1r(cx:Cx)(ts:List Nat)(a b:AV):Option ((e:Ty)×List e.sJ):=match ts,a,b with
 |t::t2::_,.nils,.val (.int .i64) (n:Int)=>match cx.T t,cx.T t2 with
  |some (.list _ e),some (.int .i64)=>bif A3 (0<=n)&&Bp n.toNat then some ⟨e,B7 n.toNat e.dflt⟩else none
  |_,_=>none
 |_,_,_=>none
def AE.yI(U:AE)(q:Bool)(cx:Cx)(d:Nat)(ts:List Nat)(a b:AV)(K:AE->Rs Z):Rs Z:=match ts,a,b with
 |t::t2::_,.nils,.val (.int .i64) (n:Int)=>match cx.T t,cx.T t2 with
  |some (.list _ e),some (.int .i64)=>bif A3 (0<=n)&&Bp n.toNat then U.uF q d e .nils (B7 n.toNat e.dflt) K else none
  |_,_=>none
 |_,_,_=>none
theorem Xx(U:AE)(q:Bool)(cx:Cx)(d:Nat)(h:List Nat)(a b:AV)(K:AE->Rs Z):U.yI q cx d h a b K=match b1r cx h a b with
  |some ⟨e,g⟩=>U.uF q d e .nils g K
  |none=>none:=by
 unfold AE.yI b1r;split;split;simp only[cond_eq_ite];split<;>simp_all;split;rename_i f k _ _ _ _;simp_all;rfl;split;simp_all;rfl
def AE.uP(U:AE)(q:Bool)(cx:Cx)(d:Nat)(b:Builtin)(ts:List Nat)(as:List AV)(K:AE->Rs Z):Rs Z:=
 match b,as with
 |.len,[a]=>U.vW (ts.head?.bind cx.T) a fun n=>K (U.set d (.val (.int .i64) (n:Int)))
 |.max,.val (.int k) x::r=>AE.wF EA k r x fun v=>K (U.set d v)
 |.min,.val (.int k) x::r=>AE.wF GZ k r x fun v=>K (U.set d v)
 |.append,[a,b]=>bif gO cx ts then match ts.head?.bind cx.T with
  |some (.list _ e)=>
   match b with
   |.val .str y=>if h:e=.int .u8 then U.uF q d e a (h▸y) K else none
   |b=>match (bif q || !e.isList then none else U.ownB e b)with
    |some (m,⟨e',ys⟩)=>U.yD d m e' ys a K
    |none=>U.elems e b fun ys=>U.uF q d e a ys K
  |_=>none
  else U.yI q cx d ts a b K
 |.cap,[.nils]=>bif Ty.isList ((ts.head?.bind cx.T).getD .unit)then K (U.set d (.val (.int .i64) (0:Int)))else none
 |.copy,[a,b]=>if q then none else match ts.head?.bind cx.T with
  |some (.list _ (.int k))=>U.elems (.int k) b fun ys=>U.yK a k ys fun n U'=>K (U'.set d (.val (.int .i64) (n:Int)))
  |_=>none
 |_,_=>none
def AE.vK(U:AE)(src dst:Nat)(ts tt:Option Ty)(a:AV)(K:AV->Rs Z)(Kr:sO->Rs Z):Rs Z:=
 match ts,tt,a with
 |some _,some (.int k),.val (.int _) (x:Int)=>K (.val (.int k) (k.wrap x))
 |some .str,some (.list _ (.int .u8)),.val .str (x:List Int)=>bif Bp x.length then Kr ⟨false,.list true (.int .u8),x⟩else none
 |some .str,some .str,.val .str (x:List Int)=>K (.val .str x)
 |some (.list _ (.int .u8)),some (.list _ (.int .u8)),.sref n []=>if src=dst then(match U.look n with
  |some ⟨false,.list true (.int .u8),l⟩=>bif A3 (0<A6 l)then K (.sref n [])else none
  |_=>none)else none
 |some (.list _ (.int .u8)),some .str,a=>U.elems (.int .u8) a fun x=>K (.val .str (b4V x))
 |_,_,_=>none
def AE.conv(U:AE)(q:Bool)(cx:Cx)(d:Nat)(src dst:Nat)(a:AV)(K:AE->Rs Z):Rs Z:=
 U.vK src dst (cx.T src) (cx.T dst) a (fun v=>K (U.set d v)) fun r=>U.fresh q d r fun U=>K (U.set d (.sref d []))
def Cx.own(cx:Cx)(d t:Nat):Option Ty:=match cx.O d with
 |some t'=>if cx.T t=some t'.sh then some t' else none
 |none=>cx.T t
def AE.un(op:UnOp)(a:AV)(K:AV->Rs Z):Rs Z:=match op,a with
 |.not,.val .bool (b:Bool)=>K (.val .bool (!b))
 |.neg,.val (.int k) (x:Int)=>K (.val (.int k) (k.wrap (0-x)))
 |.xor,.val (.int k) (x:Int)=>K (.val (.int k) (bits k .xor (if k.signed then -1 else k.max) x))
 |_,_=>none
def qB(c a b:AV)(K:AV->Rs Z):Rs Z:=match c with
 |.val .bool (y:Bool)=>match a,b with
  |.val .bool (u:Bool),.val .bool (v:Bool)=>K (.val .bool (bif y then u else v))
  |u,.skp=>bif y then K u else none
  |.skp,v=>bif y then none else K v
  |_,_=>none
 |_=>none
def Cx.tY(cx:Cx):AV->AV
 |.tY g=>match cx.G g with
  |some ⟨t,x⟩=>.vptr t x
  |none=>.dead
 |v=>v
def AE.xX(U:AE):Operand->SV
 |.tmp t=>U.sl t
 |x=>.one (U.sM x)
def AE.tK(U:AE):Operand->Option (List AV)
 |.tmp i=>match U.sl i with
  |.cmp .agg vs=>some vs
  |_=>none
 |_=>none
def AV.xO:AV->Ty->Bool
 |.val t _,a=>!t.isAgg&&!a.isAgg
 |.sref _ [],.list true _=>true
 |.nils,.list true _=>true
 |_,_=>false
def Pi:Ty->Option AV
 |.list _ _=>some .nils
 |.int k=>some (.val (.int k) (0:Int))
 |.bool=>some (.val .bool false)
 |.str=>some (.val .str ([]:List Int))
 |_=>none
def AE.tO(U:AE):Nat->Ty->List (Nat×Operand)->Option (List AV)
 |_,.unit,[]=>some []
 |k,.pair a b,[]=>(Pi a).bind fun v=>(U.tO (k+1) b []).map (v::·)
 |k,.pair a b,(i,o)::r=>bif i==k then(bif A3 (a.cells=1)&&(U.sM o).xO a then(U.tO (k+1) b r).map (U.sM o::·)else none)
   else(Pi a).bind fun v=>(U.tO (k+1) b ((i,o)::r)).map (v::·)
 |_,_,_=>none
def AE.uO(x:Operand)(d:Nat)(τ:Ty):Nat->Ty->AE->(AE->Rs Z)->Rs Z
 |i,.unit,U,K=>match U.tK x with
  |some vs=>bif vs.length==i then K U else none
  |none=>none
 |i,.pair a b,U,K=>match U.rt d,U.get d,(U.tK x).bind (·[i]?)with
  |some r,.ptr n [],some v=>if r.t=τ/\n=d/\a.cells=1 then U.vJ a.sh d (BE i) v fun U'=>AE.uO x d τ (i+1) b U' K else none
  |_,_,_=>none
 |_,_,_,_=>none
def Cx.yF(cx:Cx)(d t:Nat):Option Ty:=match cx.O d with
 |some t'=>if t'.tL=t'/\cx.T t=some t'.sh then some t' else none
 |none=>none
def Bk(cx:Cx)(q:Bool)(o:Oper)(U:AE)(K:AE->Rs Z):Rs Z:=
 match o.op,o.dst with
 |.move x,some d=>match x with
  |.tmp t=>K (U.put d (U.sl t))
  |x=>K (U.set d (U.sM x))
 |.assign x,some d=>match U.xX x with
  |.one v=>U.yU q cx d v K
  |.cmp c vs=>K (U.put d (.cmp c vs))
 |.makeFunc (.func f) first caps,some d=>bif first.isEmpty then K (U.put d (.cmp (.clo f) (caps.toList.map U.sM)))else none
 |.pick c a b,some d=>qB (U.sM c) (U.sM a) (U.sM b) fun v=>K (U.set d v)
 |.alloc t,some d=>match cx.own d t with
  |some t=>U.fresh q d ⟨true,t,t.dflt⟩ fun U=>K (U.set d (.ptr d []))
  |none=>none
 |.box t x,some d=>match (bif q then none else U.tK x)with
  |some _=>match U.rt d,cx.O d with
   |none,some t'=>if cx.T t=some t'.sh then U.fresh false d ⟨true,t',t'.dflt⟩ fun U=>AE.uO x d t' 0 t' (U.set d (.ptr d [])) K else none
   |_,_=>none
  |none=>match cx.T t with
  |some t=>U.uT q t (U.sM x) fun y U=>if cx.K d then K (U.set d (.vptr t y))else U.fresh q d ⟨true,t,y⟩ fun U=>K (U.set d (.ptr d []))
  |none=>none
 |.build t ps,some d=>match cx.yF d t with
  |some t'=>bif t'.isAgg then U.fills q t' ps.toList t'.dflt fun y U=>K (U.set d (.val t' y))else none
  |none=>match cx.O d with
  |some t'=>if cx.T t=some t'.sh then(match U.tO 0 t' ps.toList with
   |some vs=>bif A3 (0<t'.cells)then K (U.put d (.cmp .agg vs))else none
   |none=>none)else none
  |none=>match cx.T t with
  |some t=>bif t.isAgg then U.fills q t ps.toList t.dflt fun y U=>K (U.set d (.val t y))else none
  |none=>none
 |.buildSlice t n ps,some d=>match cx.T t with
  |some (.list _ e)=>match (bif q || !e.isList then none else cx.O d)with
   |some t'=>match t',ps.toList with
    |.list true e',[(0,x)]=>if e'.sh=e/\n=1 then U.fresh false d ⟨false,.list true e',[e'.dflt]⟩ fun U=>(match U.sM x with
      |.sref m []=>(U.set d (.sref d [])).vJ e d [.idx 0] (.sref m []) K
      |_=>none)else none
    |_,_=>none
   |none=>bif Bp n&&A3 (n*e.cells<=16777216)then U.lit q e n ps.toList (B7 n e.dflt) fun y U=>bif cx.K d then K (U.set d (.val (.list false e) y))else U.fresh q d ⟨false,.list true e,y⟩ fun U=>K (U.set d (.sref d []))else none
  |_=>none
 |.load t a,some d=>match cx.T t with
  |some t=>match (bif q then none else U.whole (cx.K d) t (U.sM a))with
   |some (n,r)=>K (((U.sI (AV.sP [n] [])).sF n (some ⟨true,r.t.tL,Ty.vI r.t r.x⟩)).set d (.val r.t.tL (Ty.vI r.t r.x)))
   |none=>U.xB q t (cx.tY (U.sM a)) fun v U=>K (U.set d v)
  |none=>none
 |.store t a x,d=>if q then none else match U.tK x with
  |some _=>match a with
   |.tmp s=>match U.rt s with
    |some r=>if cx.T t=some r.t.sh/\0<r.t.cells then AE.uO x s r.t 0 r.t U fun U=>K (U.uD d .dead)else none
    |none=>none
   |_=>none
  |none=>match U.sM a with
  |.ptr n p=>match cx.T t with
   |some t=>U.vJ t n p (U.sM x) fun U=>K (U.uD d .dead)
   |none=>none
  |_=>none
 |.nilCheck x,some d=>match U.sM x with
  |.ptr n p=>K (U.set d (.ptr n p))
  |.vptr t y=>K (U.set d (.vptr t y))
  |_=>none
 |.binOp op ty x y _,some d=>bif a8e (cx.T ty)then(match a5M (cx.T ty) (U.sM x) (U.sM y)with
   |some e=>if q then none else b9w op e fun b=>K (U.set d (.val .bool b))
   |none=>none)
  else Xv cx op ty (U.sM x) (U.sM y) fun v=>K (U.set d v)
 |.unOp op _ x,some d=>AE.un op (U.sM x) fun v=>K (U.set d v)
 |.convert s t x,some d=>U.conv q cx d s t (U.sM x) K
 |.makeSlice t n c,some d=>match cx.own d t with
  |some (.list _ e)=>(U.sM n).vF (.int .i64) fun(x:Int)=>(U.sM c).vF (.int .i64) fun(y:Int)=>
    bif A3 (0<=x)&&(A3 (x<=y)&&Bp y.toNat)then U.fresh q d ⟨false,.list true e,B7 x.toNat e.dflt⟩ fun U=>K (U.set d (.sref d []))else none
  |_=>none
 |.slice t x lo hi mx,some d=>U.wQ (cx.T t) (U.sM x) lo hi mx fun v=>K (U.set d v)
 |.fieldAddr s x f,some d=>match U.sM x with
  |.ptr n p=>match U.rt n with
   |some r=>match Dc r.t r.x p with
    |⟨t,_⟩=>if Dk t f=true/\cx.T s=some t.sh then K (U.set d (.ptr n (p++BE f)))else none
   |none=>none
  |.vptr t y=>if Dk t f=true/\cx.T s=some t then(match Dc t y (BE f)with|⟨t',z⟩=>K (U.set d (.vptr t' z)))else none
  |_=>none
 |.field s x f,some d=>match U.sM x with
  |.val t y=>if Dk t f=true/\cx.T s=some t then(match Dc t y (BE f)with|⟨t',z⟩=>K (U.set d (.val t' z)))else none
  |_=>none
 |.indexAddr t x i,some d=>match U.sM i with
  |.val (.int _) (i:Int)=>U.uI (cx.T t) (cx.tY (U.sM x)) i fun v=>K (U.set d v)
  |_=>none
 |.index s x i,some d=>match U.sM x,U.sM i with
  |.val (.arr n t) l,.val (.int _) (i:Int)=>if cx.T s=some (.arr n t)then(Az l i).bind fun y=>K (U.set d (.val t y))else none
  |.val .str (l:List Int),.val (.int _) (i:Int)=>if cx.T s=some .str then(Az l i).bind fun y=>K (U.set d (.val (.int .u8) y))else none
  |_,_=>none
 |.extract (.tmp t) i,some d=>match U.sl t with
  |.cmp .tup vs=>match vs[i]? with
   |some v=>K (U.set d v)
   |none=>none
  |_=>none
 |.call c,d=>match c.callee with
  |.builtin b=>match d with
   |some d=>U.uP q cx d b c.argTypes.toList (c.args.toList.map U.sM) K
   |none=>none
  |.value (.func f)=>match cx.C f with
   |some s=>U.call q d s (c.args.toList.map U.sM) K
   |none=>none
  |.value (.tmp t)=>if q then none else match U.sl t with
   |.cmp (.clo f) vs=>match cx.C f with
    |some s=>U.call q d s (c.args.toList.map U.sM++vs) K
    |none=>none
   |_=>none
  |_=>none
 |_,_=>none
def Ti(ops:List Oper)(j:Nat):Option Nat:=(ops[j]?).bind (·.dst)
inductive Md where
 |v|q|x

 |p

 |a (ws:List Nat)

 |s

 |b (ws:List Nat)
 |r (ns:List Nat)
 |w (ws:List Nat)
def Md.wE:Md->Bool
 |.w _=>true
 |_=>false
def AV.uA:AV->Bool
 |.skp|.val _ _|.nils|.empt|.nilp|.vptr _ _|.tY _=>true
 |_=>false
def SV.uA:SV->Bool
 |.one v=>v.uA
 |.cmp _ vs=>vs.all AV.uA
def AV.refs:AV->List Nat
 |.ptr n _|.sref n _|.swin n _ _ _=>[n]
 |_=>[]
def SV.refs:SV->List Nat
 |.one v=>v.refs
 |.cmp _ vs=>vs.flatMap AV.refs
def AV.alive:AV->Bool
 |.dead=>false
 |_=>true
def SV.alive:SV->Bool
 |.one v=>v.alive
 |.cmp _ vs=>vs.all AV.alive
def Ze(cx:Cx)(ts:List Nat):Bool:=match ts.head?.bind cx.T with
 |some (.list _ e)=>e.isList
 |_=>false
def b6Z(cx:Cx)(o:Oper)(U:AE):Bool:=match o.op with
 |.call c=>match c.callee with
  |.builtin .append=>o.dst.isSome&&!Ze cx c.argTypes.toList
  |.value (.func f)=>match cx.C f with
   |some s=>!(s.rs.any RA.sQ || (JH s.ps).any RA.sQ) || c.args.toList.all fun x=>(U.sM x).sS.isEmpty
   |none=>false
  |_=>false
 |.store _ _ x=>(U.sM x).sS.isEmpty&&(U.tK x).isNone
 |_=>false
def AE.vT(U:AE)(o:Oper):List Nat:=o.op.operands.toList.flatMap fun x=>match x with
 |.tmp t=>(U.sl t).refs
 |_=>[]
def Kp(cx:Cx)(o:Oper)(d:Nat):List Nat:=d::(match o.op with
 |.call c=>(match c.callee with
  |.value (.func f)=>(match cx.C f with
   |some s=>BC s.rs (d+1000)
   |none=>[])
  |_=>[])
 |_=>[])
def a0t(a b:List Nat):Bool:=a.all fun n=>b.contains n
def sU(a b:List Nat):Bool:=a.all fun n=>!b.contains n
def a2B(U:AE):Operand->Option Nat
 |.tmp t=>match U.sl t with
  |.one (.ptr n [])=>bif A3 (pinned<=n)then some n else none
  |_=>none
 |_=>none
def VQ(o:Oper)(U:AE):Option Nat:=match o.op with
 |.move x=>a2B U x
 |.nilCheck x=>a2B U x
 |_=>none
def AV.calm:AV->Bool
 |.ptr n []=>A3 (pinned<=n)
 |v=>v.uA
def SV.calm:SV->Bool
 |.one v=>v.calm
 |sv=>sv.uA
def Step.tZ:Step->Bool
 |.idx _=>false
 |_=>true
def AV.still:AV->Bool
 |.ptr _ p|.sref _ p=>p.all Step.tZ
 |v=>v.uA
def SV.still:SV->Bool
 |.one v=>v.still
 |sv=>sv.uA
def b7a:Ty->BN->Option Ty
 |t,[]=>some t
 |.pair a _,.fst::p=>b7a a p
 |.pair _ b,.snd::p=>b7a b p
 |_,_=>none
def AE.wB(U:AE):Operand->Option (Nat×BN×Ty)
 |.tmp t=>match U.sl t with
  |.one (.ptr n p)=>match U.rt n with
   |some r=>(b7a r.t p).map fun τ=>(n,p,τ)
   |none=>none
  |_=>none
 |_=>none
def AE.stay(cx:Cx)(U:AE)(o:Oper):Option AV:=match o.op with
 |.move (.tmp t)=>match U.sl t with
  |.one v=>bif v.still&&v.refs.all fun n=>(U.rt n).isSome then some v else none
  |_=>none
 |.fieldAddr s x f=>match U.wB x with
  |some (n,p,τ)=>if Dk τ f=true/\cx.T s=some τ.sh then some (.ptr n (p++BE f))else none
  |none=>none
 |.load s x=>match U.wB x with
  |some (n,p,.list true _)=>match cx.T s with
   |some τ=>bif τ.isList then some (.sref n p)else none
   |none=>none
  |_=>none
 |_=>none
def AE.uS(U:AE):Bool:=match U.pd with
 |none=>true
 |some (_,p,_)=>!p.all Step.tZ
def KM(cx:Cx):Md->Oper->AE->(AE->Rs Z)->Rs Z
 |.x,o,U,K=>Bk cx false o U K
 |.w ws,o,U,K=>match U.pd with
  |none=>bif b6Z cx o U&&(a0t (U.vT o) ws&&a0t (Kp cx o (o.dst.getD 0)) ws)then Bk cx false o U fun U'=>(match U'.pd with
    |none=>K U'
    |some _=>none)else none
  |some _=>none
 |.r ns,o,U,K=>bif (o.op.operands.toList.all fun x=>match x with
   |.tmp t=>(U.sl t).alive&&(U.sl t).refs.all fun n=>(U.rt n).isSome&&ns.contains n
   |_=>true)&&a0t (Kp cx o (o.dst.getD 0)) ns then
    (match o.dst with
     |some d=>Bk cx true o U fun U'=>bif a0t (U'.sl d).refs ns then K U' else none
     |none=>none)
   else none
 |.p,o,U,K=>match VQ o U,o.dst with
  |some n,some d=>K (U.put d (.one (.ptr n [])))
  |_,_=>none
 |.a ws,o,U,K=>match U.pd with
  |none=>bif b6Z cx o U&&(a0t (U.vT o) ws&&a0t (Kp cx o (o.dst.getD 0)) ws)then Bk cx false o U K else none
  |some _=>none
 |.b ws,o,U,K=>match U.pd with
  |none=>bif b6Z cx o U&&(a0t (U.vT o) ws&&a0t (Kp cx o (o.dst.getD 0)) ws)then Bk cx false o U fun U'=>(match U'.pd with
    |some (_,p,_)=>bif !p.all Step.tZ then K U' else none
    |none=>none)else none
  |some _=>none
 |.s,o,U,K=>match U.stay cx o,o.dst with
  |some v,some d=>bif v.still&&U.uS then K (U.put d (.one v))else none
  |_,_=>none
 |.q,o,U,K=>bif o.op.operands.toList.all fun x=>match x with
   |.tmp t=>(U.sl t).refs.all fun n=>(U.rt n).isSome
   |_=>true then
    (match o.dst with
     |some _=>Bk cx true o U K
     |none=>none)
   else none
 |.v,o,U,K=>match VQ o U with
  |some n=>(match o.dst with
   |some d=>K (U.put d (.one (.ptr n [])))
   |none=>none)
  |none=>bif o.op.operands.toList.all fun x=>match x with
   |.tmp t=>(U.sl t).uA
   |_=>true then
    (match o.dst with
     |some d=>Bk cx true o U fun U'=>bif (U'.sl d).uA then K U' else none
     |none=>none)
   else none
def BJ(cx:Cx)(md:Md)(ops:List Oper)(o:Oper)(U:AE)(K:AE->Rs Z):Rs Z:=
 match o.guard with
 |none=>KM cx md o U K
 |some (j,want)=>match Ti ops j with
  |none=>none
  |some g=>match U.get g with
   |.val .bool (b:Bool)=>bif b then(bif want then KM cx md o (U.set g (.val .bool true)) K else K ((U.set g (.val .bool true)).uD o.dst .skp))
     else(bif want then K ((U.set g (.val .bool false)).uD o.dst .skp)else KM cx md o (U.set g (.val .bool false)) K)
   |.skp=>K (U.uD o.dst .skp)
   |_=>none
def QP(cx:Cx)(ops:List Oper):List (Md×Oper)->AE->(AE->Rs Z)->Rs Z
 | [],U,K=>K U
 |(md,o)::r,U,K=>BJ cx md ops o U fun U'=>QP cx ops r U' K
def a0u:Md->Md->Bool
 |.x,_|_,.x=>false
 |.a _,.p|.p,.a _=>true
 |.a _,_|_,.a _=>false
 |.b _,.s|.s,.b _=>true
 |.b _,_|_,.b _=>false
 |.w _,.p|.p,.w _=>true
 |.w _,.v|.v,.w _=>true
 |.w ws,.r ns|.r ns,.w ws=>sU ns ws
 |.w _,_|_,.w _=>false
 |_,_=>true
def a9m:List Oper->List Nat->List Nat
 | [],acc=>acc
 |o::r,acc=>a9m r (acc++[o.after.toList.foldl (fun s e=>if Region.binds .any e then s ||| 2^e.on ||| acc.getD e.on 0 else s) 0])
def a0v(ops:Array Oper)(ms:List Md):Bool:=
 let b:=a9m ops.toList []
 A3 (ms.length=ops.size)&&(D3 ops.size).all fun j=>((ops.getD j default).after.toList.all fun e=>!Region.binds .any e || A3 (e.on<j)) &&
  (D3 j).all fun i=>(b.getD j 0).testBit i || (a0u (ms.getD i .x) (ms.getD j .x)&&((ops.getD i default).apart ops (ops.getD j default) &&
   (((ms.getD i .x).wE || (ops.getD i default).dst.isSome)&&((ms.getD j .x).wE || (ops.getD j default).dst.isSome))))
end
inductive Ex where
 |normal
 |exit (id:Nat)
 |ret
 deriving DecidableEq
inductive xD where
 |sv (i:Nat) (t:Ty)

 |own (i n:Nat) (e:Ty)

 |box (n:Nat) (t:Ty)
 |ptr (i n:Nat) (p:BN)

 |vp (i:Nat) (t:Ty)
 |ref (i n:Nat) (p:BN)

 |rfi (i n:Nat)

 |win (i n:Nat) (p:BN)

 |clo (i f:Nat) (ns:List Nat)
@[reducible] def Aq:=List xD
def Aq.ty:Aq->Ty
 | []=>.unit
 |.sv _ t::r=>.pair t (Aq.ty r)
 |.own _ _ e::r=>.pair (.list true e) (Aq.ty r)
 |.box _ t::r=>.pair t (Aq.ty r)
 |.ptr _ _ _::r=>Aq.ty r
 |.vp _ t::r=>.pair t (Aq.ty r)
 |.ref _ _ _::r=>Aq.ty r
 |.rfi _ _::r=>.pair (.int .i64) (Aq.ty r)
 |.win _ _ _::r=>.pair (.int .i64) (.pair (.int .i64) (Aq.ty r))
 |.clo _ _ _::r=>Aq.ty r
def AE.nothing:AE:=⟨fun _=>.one .dead,fun _=>none,none⟩
def QQ:List Nat->List AV
 | []=>[]
 |n::ns=>.ptr n []::QQ ns
def TL:List AV->List Nat->Bool
 | [],[]=>true
 |.ptr n []::vs,m::ns=>(n==m)&&TL vs ns
 |_,_=>false
def Aq.enc:(es:Aq)->es.ty.sJ->AE
 | [],_=>AE.nothing
 |.sv i t::r,x=>(Aq.enc r x.2).set i (.val t x.1)
 |.own i n e::r,x=>((Aq.enc r x.2).sF n (some ⟨false,.list true e,x.1⟩)).set i (.sref n [])
 |.box n t::r,x=>(Aq.enc r x.2).sF n (some ⟨true,t,x.1⟩)
 |.ptr i n p::r,x=>(Aq.enc r x).set i (.ptr n p)
 |.vp i t::r,x=>(Aq.enc r x.2).set i (.vptr t x.1)
 |.ref i n p::r,x=>(Aq.enc r x).set i (.sref n p)
 |.rfi i n::r,x=>(Aq.enc r x.2).set i (.sref n [.idx (show Int from x.1).toNat])
 |.win i n p::r,x=>(Aq.enc r x.2.2).set i (.swin n p (show Int from x.1).toNat (show Int from x.2.1).toNat)
 |.clo i f ns::r,x=>(Aq.enc r x).put i (.cmp (.clo f) (QQ ns))
def Aq.names:Aq->List Nat
 | []=>[]
 |.own _ n _::r=>n::Aq.names r
 |.box n _::r=>n::Aq.names r
 |_::r=>Aq.names r
def a8f:List Nat->Bool
 | []=>true
 |a::l=>!l.contains a&&a8f l
section
variable {Z:Type}
def Aq.rest(nm:List Nat)(U:AE):(es:Aq)->(es.ty.sJ->Rs Z)->Rs Z
 | [],K=>K ()
 |.sv i t::r,K=>match U.get i with
  |.val t' x=>if h:t'=t then Aq.rest nm U r fun y=>K (h▸x,y)else none
  |_=>none
 |.own i n e::r,K=>match U.get i with
  |.sref m []=>bif m==n then(match U.rt n with
    |some ⟨false,.list true e',l⟩=>if h:e'=e then Aq.rest nm U r fun y=>K (h▸l,y)else none
    |_=>none)else none
  |.nils=>match U.rt n with
   |none=>bif A3 (n<pinned)then Aq.rest nm U r fun y=>K ([],y)else none
   |some _=>none
  |.empt=>match U.rt n with
   |none=>bif A3 (n<pinned)then Aq.rest nm U r fun y=>K ([],y)else none
   |some _=>none
  |_=>none
 |.box n t::r,K=>match U.rt n with
  |some ⟨true,t',x⟩=>if h:t'=t then Aq.rest nm U r fun y=>K (h▸x,y)else if t'.tL=t' then(match tC t' t x with
   |some z=>Aq.rest nm U r fun y=>K (z,y)
   |none=>none)else none
  |_=>none
 |.ptr i n p::r,K=>match U.get i with
  |.ptr m q=>bif nm.contains n&&((m==n)&&QO q p)then Aq.rest nm U r K else none
  |_=>none
 |.vp i t::r,K=>match U.get i with
  |.vptr t' x=>if h:t'=t then Aq.rest nm U r fun y=>K (h▸x,y)else none
  |_=>none
 |.ref i n p::r,K=>match U.get i with
  |.sref m q=>bif nm.contains n&&((m==n)&&QO q p)then Aq.rest nm U r K else none
  |_=>none
 |.rfi i n::r,K=>match U.get i with
  |.sref m [.idx k]=>bif nm.contains n&&(m==n)then Aq.rest nm U r fun y=>K ((k:Int),y)else none
  |_=>none
 |.win i n p::r,K=>match U.get i with
  |.swin m q o k=>bif nm.contains n&&((m==n)&&QO q p)then Aq.rest nm U r fun y=>K ((o:Int),(k:Int),y)else none
  |_=>none
 |.clo i f ns::r,K=>match U.sl i with
  |.cmp (.clo f') vs=>bif (f'==f)&&(ns.all nm.contains&&TL vs ns)then Aq.rest nm U r K else none
  |_=>none
def AV.exact:AV->Ty->Bool
 |.val t' _,t=>A3 (t'=t)
 |_,_=>true
def Aq.vals(nm:List Nat):(es:Aq)->AE->(es.ty.sJ->Rs Z)->Rs Z
 |.sv i t::r,U,K=>bif (U.get i).exact t then U.uT false t (U.get i) fun x U'=>Aq.vals nm r (U'.set i (.val t x)) fun y=>K (x,y)else none
 |es,U,K=>Aq.rest nm U es K
def Aq.wY(es:Aq)(U:AE)(K:es.ty.sJ->Rs Z):Rs Z:=match U.pd with
 |none=>bif a8f es.names then Aq.vals es.names es U K else none
 |some _=>none
end
@[reducible] def VE:=List (Ex×Aq)
def VE.sJ:VE->Type
 | []=>Empty
 | [(_,s)]=>s.ty.sJ
 |(_,s)::r=>s.ty.sJ ⊕ VE.sJ r
def VE.pack{Z:Type}:(o:VE)->Ex->AE->(o.sJ->Rs Z)->Rs Z
 | [],_,_,_=>none
 | [(e',s)],e,U,K=>if e=e' then s.wY U K else none
 |(e',s)::x::r,e,U,K=>if e=e' then s.wY U fun y=>K (.inl y)else VE.pack (x::r) e U fun y=>K (.inr y)
def VE.open{Z:Type}:(o:VE)->(o.sJ->(Ex->AE->Rs Z)->Rs Z)
 | []=>fun _ _=>none
 | [(e',s)]=>fun x K=>K e' (s.enc x)
 |(e',s)::y::r=>
  let g:=VE.open (y::r)
  fun x K=>Sum.elim (fun a=>K e' (s.enc a)) (fun z=>g z K) (show s.ty.sJ ⊕ VE.sJ (y::r)from x)
def Ih{M β:Type}(f:M->Option (M ⊕ β)):Nat->M->Option β
 |0,_=>none
 |n+1,s=>match f s with
  |none=>none
  |some (.inl s')=>Ih f n s'
  |some (.inr b)=>some b
open Classical in
def gP {M β:Type} (f:M->Option (M ⊕ β)) (s:M):Option β:=
 if h:∃n b,Ih f n s=some b then some h.choose_spec.choose else none
def Al{M β:Type}(f:M->Option (M ⊕ β))(s:M):Option β:=match Ih f 400 s with
 |some b=>some b
 |none=>gP f s
structure sD where
 loops:List (Nat×Aq×VE)
 cuts:List (Nat×VE)

 regs:List (Nat×List Md)
def find{α:Type}:List (Nat×α)->Nat->Option α
 | [],_=>none
 |(k,x)::r,n=>bif k==n then some x else find r n
def Du(cx:Cx)(H:sD):Code->Nat->{Z:Type}->AE->(Ex->AE->Rs Z)->Rs Z
 |.skip,_,_,U,K=>K .normal U
 |.region id ops draw,_,_,U,K=>bif draw then(match find H.regs id with
    |some ms=>bif a0v ops ms then QP cx ops.toList (ms.zip ops.toList) U fun U'=>K .normal U' else none
    |none=>none)
   else QP cx ops.toList (ops.toList.map fun o=>(.x,o)) U fun U'=>K .normal U'
 |.seq a b,p,_,U,K=>match find H.cuts p with
  |none=>Du cx H a (2*p) U fun e U'=>match e with
   |.normal=>Du cx H b (2*p+1) U' K
   |e=>K e U'
  |some os=>(Du cx H a (2*p) U fun e U'=>os.pack e U' some).bind fun x=>os.open x fun e U'=>match e with
   |.normal=>Du cx H b (2*p+1) U' K
   |e=>K e U'
 |.cond c x y,p,_,U,K=>match U.sM c with
  |.val .bool (t:Bool)=>bif t then Du cx H x (2*p) U K else Du cx H y (2*p+1) U K
  |_=>none
 |.block id c,p,_,U,K=>Du cx H c (2*p) U fun e U'=>match e with
  |.exit i=>bif i==id then K .normal U' else K (.exit i) U'
  |e=>K e U'
 |.loop c,p,_,U,K=>match find H.loops p with
  |none=>none
  |some (s,os)=>s.wY U fun x=>
   (Al (fun x=>Du cx H c (2*p) (s.enc x) fun e U'=>match e with
    |.normal=>s.wY U' fun x'=>some (.inl x')
    |e=>os.pack e U' fun y=>some (.inr y)) x).bind fun y=>os.open y K
 |.exit id,_,_,U,K=>K (.exit id) U
 |.ret,_,_,U,K=>K .ret U
 |_,_,_,_,_=>none
def eN(ps:List PA)(i:Nat):Option Bool:=match ps[i]? with
 |some (.r c _)=>some c
 |_=>none
def a5G(c:Bool)(i:Nat):Nat:=bif c then i else pinned+i
def Zf(ps:List PA)(m:Nat):Option Nat:=
 bif A3 (m<pinned)then(match eN ps m with|some true=>some m|_=>none)
 else match eN ps (m-pinned)with|some false=>some (m-pinned)|_=>none
def wH:(t:Ty)->t.sJ->AV
 |.nl _,_=>.nils
 |.int k,x=>.val (.int k) x
 |.bool,x=>.val .bool x
 |.str,x=>.val .str x
 |.unit,x=>.val .unit x
 |.list o t,x=>.val (.list o t) x
 |.pair a b,x=>.val (.pair a b) x
 |.arr n t,x=>.val (.arr n t) x
def TM(ps:List PA)(x:(Dz (ps.map PA.ty)).sJ):AE where
 sl:=fun i=>match (Bx ps x)[i]? with
  |some ⟨.v t,y⟩=>.one (wH t y)
  |some ⟨.r c a,y⟩=>bif c&&A3 (pinned<=i)then .one .dead else .one (a9l (a5G c i) ⟨a,y⟩)
  |none=>.one .dead
 rt:=fun n=>bif A3 (n<pinned)then(match (Bx ps x)[n]? with
   |some ⟨.r true a,y⟩=>Bn ⟨a,y⟩
   |_=>none)
  else match (Bx ps x)[n-pinned]? with
  |some ⟨.r false a,y⟩=>Bn ⟨a,y⟩
  |_=>none
 pd:=none
section
variable {Z:Type}
def AE.out(cx:Cx)(U:AE)(tk:List Nat)(j:Nat):(r:RA)->ResultVar ⊕ Option Nat->(r.ty.sJ->AE->List Nat->Rs Z)->Rs Z
 |.v t,.inl (.tmp i),K=>bif (U.get i).sS.any tk.contains then none else U.uT false t (U.get i) fun x U'=>K x (U'.set j (.val t x)) tk
 |.v t,.inl (.cell i t'),K=>match U.get i with
  |.ptr n []=>bif tk.contains n then none else if cx.T t'=some t.sh then U.xB false t.sh (.ptr n []) fun v U'=>match v with
    |.val t'' x=>match tC t'' t x with
     |some y=>K y (U'.set j (.val t y)) tk
     |none=>none
    |_=>none
   else none
  |_=>none
 |.o e,.inl (.tmp i),K=>match U.get i with
  |.sref n []=>bif tk.contains n then none else match U.rt n with
   |some ⟨false,.list true e',l⟩=>if h:e'=e then K (h▸l) (U.set j (.sref n [])) (n::tk)else none
   |_=>none
  |.nils=>K [] (U.set j .nils) tk
  |.empt=>K [] (U.set j .empt) tk
  |.swin n [] 0 0=>bif tk.contains n || !A3 (n<pinned)then none else match U.look n with
   |some ⟨false,.list true e',_⟩=>if e'=e then K [] (((U.sI (AV.drop n)).sF n (some ⟨false,.list true e,([]:List e.sJ)⟩)).set j (.sref n [])) (n::tk)else none
   |_=>none
  |_=>none
 |.b t,.inl (.tmp i),K=>match U.get i with
  |.ptr n []=>bif tk.contains n || !A3 (n<pinned)then none else match U.rt n with
   |some ⟨true,t',x⟩=>if h:t'=t then K (h▸x) (U.set j (.ptr n [])) (n::tk)else none
   |_=>none
  |_=>none
 |.b t,.inr (some n),K=>bif tk.contains n then none else match U.rt n with
  |some ⟨true,t',x⟩=>if h:t'=t then K (h▸x) (U.set j (.ptr n [])) (n::tk)else none
  |_=>none
 |.o e,.inr (some n),K=>bif tk.contains n then none else match U.rt n with
  |some ⟨false,.list true e',x⟩=>if h:e'=e then K (h▸x) (U.set j (.sref n [])) (n::tk)else none
  |_=>none
 |.o _,.inr none,K=>K [] (U.set j .nils) tk
 |_,_,_=>none
def AE.outs(cx:Cx)(U:AE)(tk:List Nat)(j:Nat):(rs:List RA)->List (ResultVar ⊕ Option Nat)->((Dz (rs.map RA.ty)).sJ->AE->Rs Z)->Rs Z
 | [],[],K=>K () U
 | [r],[v],K=>U.out cx tk j r v fun x U' _=>K x U'
 |r::r'::rs,v::vs,K=>U.out cx tk j r v fun x U' tk'=>U'.outs cx tk' (j+1) (r'::rs) vs fun y U''=>K (x,y) U''
 |_,_,_=>none
end
def Bc:List PA->Nat->List Nat
 | [],_=>[]
 |.v _::r,i=>Bc r (i+1)
 |.r _ _::r,i=>i::Bc r (i+1)
def Sb(ps:List PA)(i:Nat):Option Nat:=match eN ps i with
 |some true=>none
 |_=>some (pinned+i)
def AE.upto(U:AE)(N:Nat):AE:=⟨fun i=>bif A3 (i<N)then U.sl i else .one .dead,U.rt,U.pd⟩
def Zg(cx:Cx)(H:sD)(fn:Func)(ps:List PA)(rs:List RA)(x:(Dz (ps.map PA.ty)).sJ):Option (Dz ((RA.all ps rs).map RA.ty)).sJ:=
 match fn.body with
 |none=>none
 |some body=>Du cx H body 1 (TM ps x) fun e U=>match e,U.pd with
  |.exit _,_=>none
  |_,some _=>none
  |_,none=>(U.upto fn.ntmps).outs cx [] fn.ntmps (RA.all ps rs) (fn.results.toList.map .inl++(Bc ps 0).map fun i=>.inr (Sb ps i)) fun y _=>some y
@[reducible] def DJ:=Nat->Nat->Option Value
variable {m m':DJ}
@[reducible] def CK:=List (Nat×Nat)
variable {f:(Nat->Option Value)->Option (α×CK×List Nat)}
def Ak{α:Type}(f:Nat->Option (α×CK×List Nat)):(n i:Nat)->Option (List α×CK×List Nat)
 |0,_=>some ([],[],[])
 |n+1,i=>match f i with
  |none=>none
  |some (x,o,r)=>match Ak f n (i+1)with
   |none=>none
   |some (xs,os,rs)=>some (x::xs,o++os,r++rs)
def Cn{α:Type}(m:DJ)(o:Bool)(sz:Nat)(f:(Nat->Option Value)->Option (α×CK×List Nat))(v:Option Value):Option (List α×CK×List Nat):=
 match v with
 |some (.slice none n c)=>if n=0/\c=0 then some ([],[],[])else none
 |some (.slice (some a) n c)=>
  if(c=0\/a.spot=none)/\n<=c then
   match Ak (fun i=>f fun j=>m a.block (a.off+(i*sz+j))) n 0 with
   |none=>none
   |some (xs,os,rs)=>
    if o=true then(if c=0 then some (xs,os,rs)else some (xs,(a.block,a.off+c*sz)::os,rs))
    else(if n=0 then some (xs,[],[])else some (xs,[],a.block::(os.map (·.1)++rs)))
  else none
 |_=>none
def AO(m:DJ):(t:Ty)->(Nat->Option Value)->Option (t.sJ×CK×List Nat)
 |.int k,rd=>match rd 0 with
  |some (.int k' n)=>if k'=k then some (n,[],[])else none
  |_=>none
 |.bool,rd=>match rd 0 with
  |some (.bool b)=>some (b,[],[])
  |_=>none
 |.str,rd=>match rd 0 with
  |some (.string s)=>some ((s.data.toList.map fun b=>(b.toNat:Int):List Int),[],[])
  |_=>none
 |.unit,_=>some ((),[],[])
 |.pair a b,rd=>match AO m a rd with
  |none=>none
  |some (x,o,r)=>match AO m b (fun j=>rd (a.cells+j))with
   |none=>none
   |some (y,o',r')=>some ((x,y),o++o',r++r')
 |.arr n t,rd=>Ak (fun i=>AO m t fun j=>rd (i*t.cells+j)) n 0
 |.list o t,rd=>Cn m o t.cells (AO m t) (rd 0)
 |.nl t,rd=>match rd 0 with
  |some (.slice none 0 0)=>some (([]:List t.sJ),[],[])
  |_=>none
inductive Src where
 |at(b o:Nat)
 |one (v:Value)
variable {g g':Nat->Src}{s:Src}
def Src.rd(m:DJ):Src->Nat->Option Value
 |.at b o,j=>m b (o+j)
 |.one v,j=>if j=0 then some v else none
def Cj(m:DJ):BN->Ty->Src->Option (Ty×Src)
 | [],t,s=>some (t,s)
 |.fst::p,t,s=>match t,s with
  |.pair a _,.at bl o=>Cj m p a (.at bl o)
  |_,_=>none
 |.snd::p,t,s=>match t,s with
  |.pair a b,.at bl o=>Cj m p b (.at bl (o+a.cells))
  |_,_=>none
 |.idx i::p,t,s=>match t,s with
  |.arr n t,.at bl o=>if i<n then Cj m p t (.at bl (o+i*t.cells))else none
  |.list true t,s=>match s.rd m 0 with
   |some (.slice (some a) n _)=>if i<n then Cj m p t (.at a.block (a.off+i*t.cells))else none
   |_=>none
  |_,_=>none
@[reducible] def loc(m:DJ)(t:Ty)(s:Src)(p:BN):Option (Ty×Src):=Cj m p t s
section collectLemmas
variable {α:Type} {f f':Nat->Option (α×CK×List Nat)}
theorem MZ:∀(n i:Nat),(∀j,i<=j->j<i+n->f' j=f j)->Ak f' n i=Ak f n i
 |0,_,_=>rfl
 |n+1,i,h=>by
  simp[Ak];rw[h i (C0 _) (by omega),MZ n (i+1) (fun j g k=>h j (by omega) (by omega))]
theorem Bd:∀(n i:Nat){xs os g},Ak f n i=some (xs,os,g)->xs.length=n
 |0,i,xs,os,g,h=>by simp_all[Ak]
 |n+1,i,xs,os,g,h=>by
  simp[Ak]at h;split at h;grind;split at h;grind;rename_i k;simp at h;obtain⟨rfl,rfl,rfl⟩:=h;simp[Bd n (i+1) k]
theorem Bf:∀(n i k:Nat){xs os a},Ak f n i=some (xs,os,a)->k<n->
  ∃x o r A B c B',f (i+k)=some (x,o,r)/\xs[k]?=some x/\os=A++(o++B)/\a=c++(r++B')
 |0,_,_,_,_,_,_,h=>by omega
 |n+1,i,k,xs,os,a,h,p=>by
  simp[Ak]at h;split at h;grind
  ·rename_i x o r m;split at h;grind
   ·rename_i e g b d;simp at h;obtain⟨rfl,rfl,rfl⟩:=h;cases k with
    |zero=>exact⟨x,o,r,[],g,[],b,by omega,by simp,by simp,by simp⟩
    |succ k=>
     obtain⟨u,q,t,A,B,c,B',j,l,rfl,rfl⟩:=Bf n (i+1) k d (by omega);grind
theorem TN:∀(n i k:Nat){xs os m x o r y e c},Ak f n i=some (xs,os,m)->k<n->f (i+k)=some (x,o,r)->
  f' (i+k)=some (y,e,c)->(∀j,i<=j->j<i+n->j≠i+k->f' j=f j)->
  ∃A B g,os=A++(o++B)/\Ak f' n i=some (xs.set k y,A++(e++B),g)/\∀b∈g,b∈m\/b∈c
 |0,_,_,_,_,_,_,_,_,_,_,_,_,h,_,_,_=>by omega
 |n+1,i,k,xs,os,m,x,o,r,y,e,c,h,F,a,hf',v=>by
  simp[Ak]at h;split at h;grind
  ·rename_i G w z d;split at h;grind
   ·rename_i C l p t;simp at h;obtain⟨rfl,rfl,rfl⟩:=h;cases k with
    |zero=>
     simp at a hf';rw[d]at a;simp at a;obtain⟨rfl,rfl,rfl⟩:=a;refine⟨[],l,c++p,by simp,?_,?_⟩;all_goals grind[Ak,MZ]
    |succ k=>
     have q:i+1+k=i+(k+1):=by omega
     obtain⟨A,B,g,rfl,u,E⟩:=TN n (i+1) k t (by omega) (by rw[q];omega) (by rw[q];omega)
      (fun j D t u=>v j (by omega) (by omega) (by omega))
     refine⟨w++A,B,z++g,by simp,?_,?_⟩;simp_all[Ak];grind
theorem TO:∀(n k i:Nat){xs os g ys os' rs'},Ak f n i=some (xs,os,g)->Ak f k (i+n)=some (ys,os',rs')->
  Ak f (n+k) i=some (xs++ys,os++os',g++rs')
 |0,k,i,xs,os,g,ys,os',rs',h,a=>by
  simp[Ak]at h;simp_all
 |n+1,k,i,xs,os,g,ys,os',rs',h,a=>by
  simp[Ak]at h;split at h;grind;rename_i o l m c;split at h;grind;rename_i j d e b;simp at h;obtain⟨rfl,rfl,rfl⟩:=h
  have:=TO n k (i+1) b (by rw[show i+1+n=i+(n+1)from by omega];omega)
  grind[Ak]
theorem Fm:∀(n k i:Nat){xs os l},Ak f (n+k) i=some (xs,os,l)->
  ∃j m g e,Ak f n i=some (xs.take n,j,m)/\Ak f k (i+n)=some (xs.drop n,g,e)/\os=j++g/\l=m++e
 |0,k,i,xs,os,l,h=>⟨[],[],os,l,by rfl,by simp_all,rfl,rfl⟩
 |n+1,k,i,xs,os,l,h=>by
  rw[show n+1+k=(n+k)+1 from by omega]at h;simp[Ak]at h;split at h;grind
  ·rename_i w q r p;split at h;grind
   ·rename_i t g e o;simp at h;obtain⟨rfl,rfl,rfl⟩:=h;obtain⟨a,b,c,d,u,v,rfl,rfl⟩:=Fm n k (i+1) o;refine⟨q++a,r++b,c,d,?_,?_,by simp,by simp⟩;all_goals grind[Ak]
end collectLemmas
theorem a5N{p:Bool}{f':(Nat->Option Value)->Option (α×CK×List Nat)}{v:Option Value}{x:List α}{o r}(h:Cn m p sz f v=some (x,o,r))(G:∀b j,b∈o.map (·.1)\/b∈r->m' b j=m b j)(t:∀i d l y (a:Addr) (n c:Nat),v=some (.slice (some a) n c)->f (fun j=>m a.block (a.off+(i*sz+j)))=some (y,d,l)->
   (∀b j,b=a.block\/(b∈d.map (·.1)\/b∈l)->m' b j=m b j)->f' (fun j=>m' a.block (a.off+(i*sz+j)))=some (y,d,l)):
  Cn m' p sz f' v=some (x,o,r):=by
 unfold Cn at h|-;split at h;omega;rename_i a n c;split at h;rename_i E;split at h;grind;rename_i H u w q;have k:∀b j,n≠0->b=a.block\/b∈u.map (·.1)\/b∈w->m' b j=m b j:=by
  grind
 have e:Ak (fun i=>f' fun j=>m' a.block (a.off+(i*sz+j))) n 0=Ak (fun i=>f fun j=>m a.block (a.off+(i*sz+j))) n 0:=by
  refine MZ n 0 fun i D F=>?_
  obtain⟨y,d,l,A,B,z,C,g,-,rfl,rfl⟩:=Bf n 0 i q (by omega);simp at g;rw[g];refine t i d l y a n c rfl g (fun b j hb=>k b j (by omega) ?_);grind
 simp_all;simp_all;omega
theorem AF{m m':DJ}:∀(t:Ty){rd rd':Nat->Option Value}{x o r},AO m t rd=some (x,o,r)->
  (∀j,j<t.cells->rd' j=rd j)->(∀b j,b∈o.map (·.1)\/b∈r->m' b j=m b j)->AO m' t rd'=some (x,o,r)
 |.int k,rd,rd',x,o,r,h,hr,hm=>by
  simp_all[AO,Ty.cells]
 |.bool,rd,rd',x,o,r,h,hr,hm=>by
  simp_all[AO,Ty.cells]
 |.str,rd,rd',x,o,r,h,hr,hm=>by
  simp_all[AO,Ty.cells]
 |.unit,rd,rd',x,o,r,h,hr,hm=>by
  simp_all[AO]
 |.pair a b,rd,rd',x,o,r,h,hr,hm=>by
  simp[AO]at h|-;split at h;grind;rename_i x1 o1 r1 h1;split at h;grind;rename_i x2 o2 r2 h2;simp at h;obtain⟨rfl,rfl,rfl⟩:=h;rw[AF a h1 (fun j hj=>hr j (by simp[Ty.cells];omega)) (fun b j hb=>hm b j (by simp at hb|-;rcases hb with hb|hb;exact .inl (.inl hb);exact .inr (.inl hb)))];simp only[];rw[AF b h2 (fun j hj=>hr _ (by simp[Ty.cells];omega)) (fun b j hb=>hm b j (by simp at hb|-;rcases hb with hb|hb;exact .inl (.inr hb);exact .inr (.inr hb)))]
 |.arr n t,rd,rd',x,o,r,h,hr,hm=>by
  simp[AO]at h|-;rw[<-h];refine MZ n 0 fun i h0 hi=>?_
  obtain⟨y,o',r',A,B,A',B',hf,-,rfl,rfl⟩:=Bf n 0 i h (by omega);simp at hf;rw[hf];refine AF t hf (fun j hj=>hr _ ?_) (fun b j hb=>hm b j ?_);simp[Ty.cells]
  calc i*t.cells+j<i*t.cells+t.cells:=by omega
   _=(i+1)*t.cells:=by grind
   _<=n*t.cells:=A4 _ (by omega)
  grind
 |.list ow t,rd,rd',x,o,r,h,hr,hm=>by
  simp[AO]at h|-;rw[hr 0 (by simp[Ty.cells])];exact a5N h hm (fun i o' r' y a n c hv h2 hsub=>AF t h2 (fun j hj=>hsub _ _ (.inl rfl)) (fun b j hb=>hsub b j (.inr hb)))
 |.nl t,rd,rd',x,o,r,h,hr,hm=>by
  simp_all[AO,Ty.cells]
theorem gQ{m:DJ}{t:Ty}{rd:Nat->Option Value}{x o r}(h:AO m (.nl t) rd=some (x,o,r)):rd 0=some (.slice none 0 0)/\x=([]:List t.sJ)/\o=[]/\r=[]:=by
 simp[AO]at h;grind
theorem MI(m:DJ)(b o k:Nat):(fun j=>(Src.at b o).rd m (k+j))=(Src.at b (o+k)).rd m:=by
 grind[Src.rd]
theorem gR(m:DJ)(b o k:Nat):(fun j=>m b (o+(k+j)))=(Src.at b (o+k)).rd m:=by
 grind[Src.rd]
theorem CP{a b:Ty}{rd:Nat->Option Value}{x o r}(h:AO m (.pair a b) rd=some (x,o,r)):
  ∃f o1 g k o2 r2,AO m a rd=some (f,o1,g)/\AO m b (fun j=>rd (a.cells+j))=some (k,o2,r2)/\x=(f,k)/\o=o1++o2/\r=g++r2:=by
 simp[AO]at h;grind
theorem La{a b:Ty}{rd:Nat->Option Value}{g o1 h f o2 r2}(k:AO m a rd=some (g,o1,h))(c:AO m b (fun j=>rd (a.cells+j))=some (f,o2,r2)):
  AO m (.pair a b) rd=some ((g,f),o1++o2,h++r2):=by
 simp[AO,k,c];rfl
theorem b1s{v:Option Value}{x:List α}{o r}(h:Cn m true sz f v=some (x,o,r)):
  (v=some (.slice none 0 0)/\x=[]/\o=[]/\r=[])\/
  (∃a n c os,v=some (.slice (some a) n c)/\(c=0\/a.spot=none)/\n<=c/\Ak (fun i=>f ((Src.at a.block (a.off+i*sz)).rd m)) n 0=some (x,os,r)/\
   ((c=0/\o=os)\/(c≠0/\o=(a.block,a.off+c*sz)::os))):=by
 unfold Cn at h;split at h;simp_all;rename_i a n c;simp only[gR]at h;grind;simp_all
theorem Cr{t:Ty}{rd:Nat->Option Value}{x:List t.sJ}{o r}(h:AO m (.list true t) rd=some (x,o,r)):
  (rd 0=some (.slice none 0 0)/\x=[]/\o=[]/\r=[])\/
  (∃a n c os,rd 0=some (.slice (some a) n c)/\(c=0\/a.spot=none)/\n<=c/\Ak (fun i=>AO m t ((Src.at a.block (a.off+i*t.cells)).rd m)) n 0=some (x,os,r)/\
   ((c=0/\o=os)\/(c≠0/\o=(a.block,a.off+c*t.cells)::os))):=b1s h
theorem Wq{m:DJ}{t:Ty}{rd:Nat->Option Value}{x:List t.sJ}{os r a n c}(h:rd 0=some (.slice (some a) n c))(g:a.spot=none)(k:n<=c)(f:c≠0)
  (b:Ak (fun i=>AO m t ((Src.at a.block (a.off+i*t.cells)).rd m)) n 0=some (x,os,r)):
  AO m (.list true t) rd=some (x,(a.block,a.off+c*t.cells)::os,r):=by
 show Cn m true t.cells (AO m t) (rd 0)=_;simp_all[Cn,gR]
theorem LD{p t s r}(h:loc m t s (.fst::p)=some r):∃a b bl o,t=.pair a b/\s=.at bl o/\loc m a (.at bl o) p=some r:=by
 simp[loc,Cj]at h;grind
theorem LF{p t s r}(h:loc m t s (.snd::p)=some r):∃a b bl o,t=.pair a b/\s=.at bl o/\loc m b (.at bl (o+a.cells)) p=some r:=by
 simp[loc,Cj]at h;grind
theorem Kq{i p t s r}(h:loc m t s (.idx i::p)=some r):
  (∃n g bl o,t=.arr n g/\s=.at bl o/\i<n/\loc m g (.at bl (o+i*g.cells)) p=some r)\/
  (∃g a n c,t=.list true g/\s.rd m 0=some (.slice (some a) n c)/\i<n/\loc m g (.at a.block (a.off+i*g.cells)) p=some r):=by
 simp[loc,Cj]at h;grind
theorem BU{m:DJ}:∀(p:BN)(t:Ty)(s:Src){x O R q s'},AO m t (s.rd m)=some (x,O,R)->loc m t s p=some (q,s')->
  ∃y f k A B d B',AO m q (s'.rd m)=some (y,f,k)/\Dc t x p=⟨q,y⟩/\O=A++(f++B)/\R=d++(k++B')
 | [],t,s,x,O,R,q,s',h,g=>by
  simp[Cj]at g;obtain⟨rfl,rfl⟩:=g;exact⟨x,O,R,[],[],[],[],h,rfl,by simp,by simp⟩
 |.fst::p,t,s,x,O,R,q,s',h,g=>by
  obtain⟨a,b,D,o,rfl,rfl,g⟩:=LD g;obtain⟨Z,L,N,x2,M,P,H,E,rfl,rfl,rfl⟩:=CP h;obtain⟨y,f,k,A,B,d,B',l,u,rfl,rfl⟩:=BU p a (.at D o) H g;exact⟨y,f,k,A,B++M,d,B'++P,l,u,by simp,by simp⟩
 |.snd::p,t,s,x,O,R,q,s',h,g=>by
  obtain⟨a,b,D,o,rfl,rfl,g⟩:=LF g;obtain⟨Z,L,N,x2,M,P,H,E,rfl,rfl,rfl⟩:=CP h;rw[MI]at E;obtain⟨y,f,k,A,B,d,B',l,u,rfl,rfl⟩:=BU p b (.at D (o+a.cells)) E g;exact⟨y,f,k,L++A,B,N++d,B',l,u,by simp,by simp⟩
 |.idx i::p,t,s,x,O,R,q,s',h,g=>by
  rcases Kq g with⟨n,w,D,o,rfl,rfl,F,g⟩|⟨w,a,n,c,rfl,r,F,g⟩;simp[AO,MI]at h;obtain⟨y0,X,Y,z,C,e,j,v,U,rfl,rfl⟩:=Bf n 0 i h F;simp at v;obtain⟨y,f,k,A,B,d,B',l,u,rfl,rfl⟩:=BU p w _ v g;refine⟨y,f,k,z++A,B++C,e++d,B'++j,l,?_,by simp,by simp⟩;simp_all[DW,C6];rcases Cr h with⟨K,-⟩|⟨G,V,Q,os,K,ha,hn,T,S⟩;simp_all;rw[K]at r;simp at r;obtain⟨rfl,rfl,rfl⟩:=r;obtain⟨y0,X,Y,z,C,e,j,v,U,rfl,rfl⟩:=Bf V 0 i T F;simp at v;obtain⟨y,f,k,A,B,d,B',l,u,rfl,rfl⟩:=BU p w _ v g;have I:Dc (.list true w) x (.idx i::p)=⟨q,y⟩:=by
   simp_all[DW,C6]
  rcases S with⟨-,rfl⟩|⟨-,rfl⟩;exact⟨y,f,k,z++A,B++C,e++d,B'++j,l,I,by simp,by simp⟩;exact⟨y,f,k,(G.block,G.off+Q*w.cells)::(z++A),B++C,e++d,B'++j,l,I,by simp,by simp⟩
def Src.vZ:Src->Nat->Prop
 |.at sb _,c=>c≠sb
 |.one _,_=>True
theorem gS(t:Ty)(x y:t.sJ):Fc t x [] t y=y:=by
 show(if h:t=t then h▸y else x)=y
 simp
theorem Ri{m:DJ}:∀(p:BN)(t:Ty)(s:Src){x O R l b o},AO m t (s.rd m)=some (x,O,R)->loc m t s p=some (l,.at b o)->
  (∃so,s=.at b so/\so<=o/\o+l.cells<=so+t.cells)\/∃k,(b,k)∈O/\o+l.cells<=k
 | [],t,s,x,O,R,l,b,o,h,f=>by
  simp[Cj]at f;simp_all
 |.fst::p,t,s,x,O,R,l,b,o,h,f=>by
  obtain⟨a,B,r,so,rfl,rfl,f⟩:=LD f;obtain⟨U,N,S,V,P,T,C,y,rfl,rfl,rfl⟩:=CP h;rcases Ri p a (.at r so) C f with⟨A,g,e,z⟩|⟨k,g,e⟩;simp at g;obtain⟨rfl,rfl⟩:=g;exact .inl ⟨_,rfl,e,by grind[Ty.cells]⟩;grind
 |.snd::p,t,s,x,O,R,l,b,o,h,f=>by
  obtain⟨a,B,r,so,rfl,rfl,f⟩:=LF f;obtain⟨U,N,S,V,P,T,C,y,rfl,rfl,rfl⟩:=CP h;rw[MI]at y;rcases Ri p B (.at r (so+a.cells)) y f with⟨A,g,e,z⟩|⟨k,g,e⟩;simp at g;obtain⟨rfl,rfl⟩:=g;exact .inl ⟨_,rfl,by omega,by grind[Ty.cells]⟩;grind
 |.idx i::p,t,s,x,O,R,l,b,o,h,f=>by
  rcases Kq f with⟨n,d,r,so,rfl,rfl,u,f⟩|⟨d,a,n,c,rfl,j,u,f⟩;simp[AO,MI]at h;obtain⟨X,M,Q,E,F,v,w,q,K,rfl,rfl⟩:=Bf n 0 i h u;simp at q;have hk:i*d.cells+d.cells<=n*d.cells:=by rw[<-A7];exact A4 _ u
  rcases Ri p d _ q f with⟨A,g,e,z⟩|⟨k,g,e⟩;simp at g;obtain⟨rfl,rfl⟩:=g;exact .inl ⟨_,rfl,by omega,by grind[Ty.cells]⟩;grind;rcases Cr h with⟨D,-⟩|⟨Y,L,G,os,D,Z,hn,I,H⟩;simp_all;rw[D]at j;simp at j;obtain⟨rfl,rfl,rfl⟩:=j;obtain⟨X,M,Q,E,F,v,w,q,K,rfl,rfl⟩:=Bf L 0 i I u;simp at q;rcases H with⟨hc,-⟩|⟨-,rfl⟩;omega;rcases Ri p d _ q f with⟨A,g,e,z⟩|⟨k,g,e⟩;simp at g;obtain⟨rfl,rfl⟩:=g;refine .inr ⟨_,D5,?_⟩
  have:i*d.cells+d.cells<=G*d.cells:=by rw[<-A7];exact A4 _ (by omega)
  omega;grind
theorem HK{m:DJ}(p:BN)(t:Ty)(s:Src){x O R g b o}(h:AO m t (s.rd m)=some (x,O,R))(f:loc m t s p=some (g,.at b o)):
  (∃so,s=.at b so/\so<=o/\o+g.cells<=so+t.cells)\/b∈O.map (·.1):=
 (Ri p t s h f).imp id fun⟨_,h,_⟩=>C2 h
theorem LG{α:Type}{f:Nat->Option (α×CK×List Nat)}:∀(n i:Nat){xs os p},Ak f n i=some (xs,os,p)->(os.map (·.1)).Nodup->
  ∀j k,j<n->k<n->j≠k->∀{xj oj rj xk ok rk},f (i+j)=some (xj,oj,rj)->f (i+k)=some (xk,ok,rk)->∀c,c∈oj.map (·.1)->c∉ok.map (·.1)
 |0,_,_,_,_,_,_,_,_,v,_,_=>by omega
 |n+1,i,xs,os,p,h,m,j,k,v,I,hjk=>by
  intro q t c e g;simp[Ak]at h;split at h;grind
  ·rename_i P L N u;split at h;grind
   ·rename_i C b z d;simp at h;obtain⟨rfl,rfl,rfl⟩:=h;rw[pA,B6]at m;obtain⟨-,a,G⟩:=m;have y:∀l x o r,l<n->f (i+(l+1))=some (x,o,r)->∀c,c∈o.map (·.1)->c∈b.map (·.1):=by
     intro l x o r w H c e;obtain⟨O,K,M,A,B,D,E,F,-,rfl,-⟩:=Bf n (i+1) l d w;grind
    cases j with
    |zero=>
     cases k with
     |zero=>omega
     |succ k=>
      grind
    |succ j=>
     cases k with
     |zero=>
      grind
     |succ k=>
      exact LG n (i+1) d a j k (by omega) (by omega) (by omega) (by rw[show i+1+j=i+(j+1)from by omega];exact q)
       (by rw[show i+1+k=i+(k+1)from by omega];exact t) c e g
def b9l(m m':DJ)(s:Src)(O:CK)(R:List Nat)(b o n:Nat)(O':CK):Prop:=
 ∀c j,m' c j=m c j\/(c=b/\o<=j/\j<o+n)\/c∈O'.map (·.1)\/(c∉O.map (·.1)/\c∉R/\s.vZ c)
structure xE (s:Src) (O:CK) (R:List Nat):Prop where
 nodup:(O.map (·.1)).Nodup
 src:∀c∈O.map (·.1),s.vZ c
 shared:∀c∈R,c∉O.map (·.1)/\s.vZ c
theorem a8g{A O B:List (Nat×α)}(h:c∈O.map (·.1)):c∈(A++(O++B)).map (·.1):=by
 simp_all
theorem PQ{t2:Ty}{h so:Nat}{g o2 r2}(f:AO m t2 ((Src.at h so).rd m)=some (g,o2,r2))(k:∀j,j<t2.cells->m' h (so+j)=m h (so+j))(hb:∀c j,c∈o2.map (·.1)\/c∈r2->m' c j=m c j):
  AO m' t2 ((Src.at h so).rd m')=some (g,o2,r2):=
 AF t2 f (fun j a=>k j a) hb
theorem a5O{m m':DJ}:∀(p:BN)(t:Ty)(s:Src){x O R Y b o y O' R' y' O'' R''},AO m t (s.rd m)=some (x,O,R)->loc m t s p=some (Y,.at b o)->
  AO m Y ((Src.at b o).rd m)=some (y,O',R')->AO m' Y ((Src.at b o).rd m')=some (y',O'',R'')->xE s O R->b9l m m' s O R b o Y.cells O'->
  ∃A B R1,O=A++(O'++B)/\AO m' t (s.rd m')=some (Fc t x p Y y',A++(O''++B),R1)/\∀c∈R1,c∈R\/c∈R''
 | [],t,s,x,O,R,Y,b,o,y,O',R',y',O'',R'',h,r,M,hy',l,f=>by
  simp[Cj]at r;obtain⟨rfl,rfl⟩:=r;rw[h]at M;simp at M;obtain⟨rfl,rfl,rfl⟩:=M;exact⟨[],[],R'',by simp,by simp_all[gS],fun c f=>.inr f⟩
 |.fst::p,t,s,x,O,R,Y,b,o,y,O',R',y',O'',R'',h,r,M,hy',l,f=>by
  obtain⟨a,b',q,u,rfl,rfl,r⟩:=LD r;obtain⟨x1,V,r1,x2,X,r2,h1,h2,rfl,rfl,rfl⟩:=CP h;have U:=HK p a _ h1 r;obtain⟨y1,g4,g5,A1,B1,h9,g0,G,-,e1,e2⟩:=BU p a _ h1 r;rw[M]at G;simp at G;obtain⟨rfl,rfl,rfl⟩:=G;have L:∀c,c∈O'.map (·.1)->c∈V.map (·.1):=fun c f=>by simp_all
  have hn:=l.nodup;rw[pA,B6]at hn;have b0:xE (.at q u) V r1:=⟨hn.1,fun c f=>l.src c (by grind),
   fun c f=>⟨fun h=>(l.shared c (A9 _ f)).1 (by grind),(l.shared c (A9 _ f)).2⟩⟩
  obtain⟨A,B,R1,e3,h3,h4⟩:=a5O p a (.at q u) h1 r M hy' b0 (fun c j=>by
   rcases f c j with h|h|h|⟨h,F,d⟩;all_goals grind)
  rw[MI]at h2;have k2:∀c,c∈V.map (·.1)\/c∈X.map (·.1)->c≠q:=fun c f=>l.src c (by grind);have h5:=PQ (m':=m') h2 (fun j hj=>by
    rcases f q (u+a.cells+j)with h|⟨hb,Z,E⟩|h|⟨h,F,d⟩;omega
    ·rcases U with⟨s1,Q,g2,g3⟩|g;all_goals grind
    grind;exact absurd rfl d)
   (fun c j w=>by
    have a9:c∈X.map (·.1)\/(c∈r2/\c∉V.map (·.1)/\c≠q):=by
     rcases w with g|g;grind
     have:=l.shared c (A8 _ g)
     exact .inr ⟨g,fun g'=>this.1 (by grind),this.2⟩
    have b7:c∉V.map (·.1):=by
     grind
    have k7:c≠q:=by
     grind
    rcases f c j with h|⟨hb,Z,E⟩|h|⟨h,F,d⟩;omega
    ·rcases U with⟨s1,Q,g2,g3⟩|g;all_goals grind
    all_goals grind)
  refine⟨A,B++X,R1++r2,by grind,?_,fun c f=>?_⟩;rw[<-MI]at h5
  have:=La h3 h5
  have e:A++(O''++(B++X))=(A++(O''++B))++X:=by simp
  rw[e];exact this;grind
 |.snd::p,t,s,x,O,R,Y,b,o,y,O',R',y',O'',R'',h,r,M,hy',l,f=>by
  obtain⟨a,b',q,u,rfl,rfl,r⟩:=LF r;obtain⟨x1,V,r1,x2,X,r2,h1,h2,rfl,rfl,rfl⟩:=CP h;rw[MI]at h2;have U:=HK p b' _ h2 r;obtain⟨y1,g4,g5,A1,B1,h9,g0,G,-,e1,e2⟩:=BU p b' _ h2 r;rw[M]at G;simp at G;obtain⟨rfl,rfl,rfl⟩:=G;have L:∀c,c∈O'.map (·.1)->c∈X.map (·.1):=fun c f=>by simp_all
  have hn:=l.nodup;rw[pA,B6]at hn;have k2:∀c,c∈V.map (·.1)\/c∈X.map (·.1)->c≠q:=fun c f=>l.src c (by grind);have b3:xE (.at q (u+a.cells)) X r2:=⟨hn.2.1,fun c f=>k2 c (.inr f),
   fun c f=>⟨fun h=>(l.shared c (A8 _ f)).1 (by grind),(l.shared c (A8 _ f)).2⟩⟩
  obtain⟨A,B,R1,e3,h3,h4⟩:=a5O p b' (.at q (u+a.cells)) h2 r M hy' b3 (fun c j=>by
   rcases f c j with h|h|h|⟨h,F,d⟩;grind;omega;grind;simp only[pA,mA]at h F;exact .inr (.inr (.inr ⟨fun g=>h (.inr g),fun g=>F (.inr g),d⟩)))
  have h5:=PQ (m':=m') h1 (fun j hj=>by
    rcases f q (u+j)with h|⟨hb,Z,E⟩|h|⟨h,F,d⟩;omega
    ·rcases U with⟨s1,Q,g2,g3⟩|g;all_goals grind
    grind;exact absurd rfl d)
   (fun c j w=>by
    have a9:c∈V.map (·.1)\/(c∈r1/\c∉X.map (·.1)/\c≠q):=by
     rcases w with g|g;grind
     have:=l.shared c (A9 _ g)
     exact .inr ⟨g,fun g'=>this.1 (by grind),this.2⟩
    have b8:c∉X.map (·.1):=by
     grind
    have k7:c≠q:=by
     grind
    rcases f c j with h|⟨hb,Z,E⟩|h|⟨h,F,d⟩;omega
    ·rcases U with⟨s1,Q,g2,g3⟩|g;all_goals grind
    all_goals grind)
  refine⟨V++A,B,r1++R1,by grind,?_,fun c f=>?_⟩;rw[<-MI]at h3
  have:=La h5 h3
  have e:V++A++(O''++B)=V++(A++(O''++B)):=by simp
  rw[e];exact this;grind
 |.idx i::p,t,s,x,O,R,Y,b,o,y,O',R',y',O'',R'',h,r,M,hy',l,f=>by
  rcases Kq r with⟨n,t,q,u,rfl,rfl,hi,r⟩|⟨t,a0,n0,c0,rfl,k0,hi,r⟩
  ·have h:Ak (fun i=>AO m t fun j=>(Src.at q u).rd m (i*t.cells+j)) n 0=some (x,O,R):=h;have h0:Ak (fun i=>AO m t ((Src.at q (u+i*t.cells)).rd m)) n 0=some (x,O,R):=by grind[MI]
   have k6:∀c,c∈O.map (·.1)->c≠q:=fun c f=>l.src c f;obtain⟨z,P,ri,A0,B0,k8,a2,N,hz,e1,e2⟩:=Bf n 0 i h0 hi;simp at N;have D:∀c,c∈P.map (·.1)->c∈O.map (·.1):=fun c f=>by simp_all
   have I:∀c,c∈ri->c∈R:=fun c f=>by simp_all
   have U:=HK p t _ N r;obtain⟨y1,g4,g5,A1,B1,h9,g0,G,-,e3,e4⟩:=BU p t _ N r;rw[M]at G;simp at G;obtain⟨rfl,rfl,rfl⟩:=G;have L:∀c,c∈O'.map (·.1)->c∈P.map (·.1):=fun c f=>by simp_all
   have g7:(P.map (·.1)).Nodup:=by
    have:=l.nodup
    grind
   have g9:xE (.at q (u+i*t.cells)) P ri:=⟨g7,fun c f=>k6 c (D c f),fun c f=>⟨fun g=>(l.shared c (I c f)).1 (D c g),(l.shared c (I c f)).2⟩⟩;obtain⟨A,B,R1,e5,h3,h4⟩:=a5O p t (.at q (u+i*t.cells)) N r M hy' g9 (fun c j=>by
    rcases f c j with h|h|h|⟨h,F,d⟩;simp_all;omega;simp_all;exact .inr (.inr (.inr ⟨fun g=>h (D c g),fun g=>F (I c g),d⟩)))
   have T:∀j,0<=j->j<0+n->j≠0+i->AO m' t ((Src.at q (u+j*t.cells)).rd m')=AO m t ((Src.at q (u+j*t.cells)).rd m):=by
    intro j _ hj H;simp only[C1]at hj H;obtain⟨zj,oj,rj,Aj,Bj,k9,a3,C,-,ej,a4⟩:=Bf n 0 j h0 hj;simp at C;rw[C];have k1:=LG n 0 h0 l.nodup i j hi hj (Ne.symm H) (by simpa using N) (by simpa using C);refine PQ C (fun k hk=>?_) (fun c k w=>?_);rcases f q (u+j*t.cells+k)with h|⟨hb,Z,E⟩|h|⟨h,F,d⟩;omega;rcases U with⟨s1,Q,g2,g3⟩|g;simp at Q;obtain⟨-,rfl⟩:=Q;exfalso;rcases C4 H with g|g
    have:j*t.cells+t.cells<=i*t.cells:=by rw[<-A7];exact A4 _ g
    omega
    have:i*t.cells+t.cells<=j*t.cells:=by rw[<-A7];exact A4 _ g
    omega;grind;grind;exact absurd rfl d
    ·have a8:c∈oj.map (·.1)->c∈O.map (·.1):=fun g=>by grind
     have S:c∈rj->c∈R:=fun g=>by grind
     have b4:c∉P.map (·.1):=by
      rcases w with g|g;grind;exact fun g'=>(l.shared c (S g)).1 (D c g')
     have k7:c≠q:=by
      rcases w with g|g;grind;exact(l.shared c (S g)).2
     rcases f c k with h|⟨hb,Z,E⟩|h|⟨h,F,d⟩;omega
     ·rcases U with⟨s1,Q,g2,g3⟩|g;all_goals grind
     all_goals grind
   obtain⟨A2,B2,h8,e6,h6,h7⟩:=TN (f':=fun i=>AO m' t ((Src.at q (u+i*t.cells)).rd m')) n 0 i h0 hi (by simpa using N) (by simpa using h3) T;refine⟨A2++A,B++B2,h8,by grind,?_,fun c f=>?_⟩;show Ak (fun i=>AO m' t fun j=>(Src.at q u).rd m' (i*t.cells+j)) n 0=some (D4 x i (FK p t (C6 x i t.dflt) Y y'),A2++A++(O''++(B++B2)),h8);simp only[MI];grind;grind
  ·rcases Cr h with⟨hv,-⟩|⟨a,n,c,os,hv,ha,hn,h0,Z⟩;simp_all
   ·rw[hv]at k0;simp at k0;obtain⟨rfl,rfl,rfl⟩:=k0;rcases Z with⟨a7,-⟩|⟨a7,rfl⟩;omega
    ·have k3:=l.nodup;simp only[B9,C3]at k3;obtain⟨a5,k4⟩:=k3;have g6:a.block∈(((a.block,a.off+c*t.cells)::os).map (·.1)):=by simp
     obtain⟨z,P,ri,A0,B0,k8,a2,N,hz,e1,e2⟩:=Bf n 0 i h0 hi;simp at N;have k5:∀c,c∈P.map (·.1)->c∈os.map (·.1):=fun c f=>by simp_all
     have D:∀K,K∈P.map (·.1)->K∈(((a.block,a.off+c*t.cells)::os).map (·.1)):=fun K f=>by
      simp_all
     have I:∀c,c∈ri->c∈R:=fun c f=>by simp_all
     have U:=HK p t _ N r;have a6:b∈(((a.block,a.off+c*t.cells)::os).map (·.1)):=by
      grind
     obtain⟨y1,g4,g5,A1,B1,h9,g0,G,-,e3,e4⟩:=BU p t _ N r;rw[M]at G;simp at G;obtain⟨rfl,rfl,rfl⟩:=G;have L:∀c,c∈O'.map (·.1)->c∈P.map (·.1):=fun c f=>by grind
     have g7:(P.map (·.1)).Nodup:=by
      grind
     have g9:xE (.at a.block (a.off+i*t.cells)) P ri:=⟨g7,fun c f (e:c=a.block)=>a5 (e▸k5 c f),
      fun c f=>⟨fun g=>(l.shared c (I c f)).1 (D c g),fun(e:c=a.block)=>(l.shared c (I c f)).1 (e▸g6)⟩⟩
     obtain⟨A,B,R1,e5,h3,h4⟩:=a5O p t (.at a.block (a.off+i*t.cells)) N r M hy' g9 (fun c j=>by
      rcases f c j with h|h|h|⟨h,F,d⟩;grind;omega;grind;exact .inr (.inr (.inr ⟨fun g=>h (D c g),fun g=>F (I c g),fun(e:c=a.block)=>h (e▸g6)⟩)))
     have b5:s.rd m' 0=some (.slice (some a) n c):=by
      rw[<-hv];cases s with
      |one v=>rfl
      |_=>
       rename_i sb u;show m' sb (u+0)=m sb (u+0);rcases f sb (u+0)with h|⟨hb,Z,E⟩|h|⟨h,F,d⟩;omega;exact absurd rfl (hb▸l.src b a6);exact absurd rfl (l.src sb (D _ (L _ h)));exact absurd rfl d
     have T:∀j,0<=j->j<0+n->j≠0+i->AO m' t ((Src.at a.block (a.off+j*t.cells)).rd m')=AO m t ((Src.at a.block (a.off+j*t.cells)).rd m):=by
      intro j _ hj H;simp only[C1]at hj H;obtain⟨zj,oj,rj,Aj,Bj,k9,a3,C,-,ej,a4⟩:=Bf n 0 j h0 hj;simp at C;rw[C];have k1:=LG n 0 h0 k4 i j hi hj (Ne.symm H) (by simpa using N) (by simpa using C);refine PQ C (fun k hk=>?_) (fun K k w=>?_)
      ·rcases f a.block (a.off+j*t.cells+k)with h|⟨hb,Z,E⟩|h|⟨h,F,d⟩;omega;rcases U with⟨s1,Q,g2,g3⟩|g;simp at Q;obtain⟨-,rfl⟩:=Q;exfalso;rcases C4 H with g|g
       have:j*t.cells+t.cells<=i*t.cells:=by rw[<-A7];exact A4 _ g
       omega
       have:i*t.cells+t.cells<=j*t.cells:=by rw[<-A7];exact A4 _ g
       omega;grind;all_goals grind
      ·have a8:K∈oj.map (·.1)->K∈os.map (·.1):=fun g=>by grind
       have S:K∈rj->K∈R:=fun g=>by grind
       have b4:K∉P.map (·.1):=by
        rcases w with g|g;grind;exact fun g'=>(l.shared K (S g)).1 (D K g')
       have b6:K≠a.block:=by
        rcases w with g|g;grind;exact fun e=>(l.shared K (S g)).1 (e▸g6)
       rcases f K k with h|⟨hb,Z,E⟩|h|⟨h,F,d⟩;omega
       ·rcases U with⟨s1,Q,g2,g3⟩|g;all_goals grind
       all_goals grind
     obtain⟨A2,B2,h8,e6,h6,h7⟩:=TN (f':=fun i=>AO m' t ((Src.at a.block (a.off+i*t.cells)).rd m')) n 0 i h0 hi (by simpa using N) (by simpa using h3) T;refine⟨(a.block,a.off+c*t.cells)::(A2++A),B++B2,h8,by grind,?_,fun c f=>?_⟩;show AO m' (.list true t) (s.rd m')=some (D4 x i (FK p t (C6 x i t.dflt) Y y'),_);grind[Wq];grind
theorem Sc{O R b o n e}(i:b9l m m' s O R b o n e)(p:xE s O R){bl so:Nat}{o1 o2:CK}{r2:List Nat}(v:¬ s.vZ bl\/bl∈O.map (·.1))(u:∀c∈o1.map (·.1),c∈O.map (·.1)/\c≠bl)(z:∀c∈o2.map (·.1),c∈O.map (·.1)/\c≠bl)(A:∀c∈o1.map (·.1),c∉o2.map (·.1))(l:∀c∈r2,c∈R)(q:∀c∈e.map (·.1),c∈o1.map (·.1))(C:(b=bl/\∀j,j<k->¬ (o<=so+j/\so+j<o+n))\/b∈o1.map (·.1)):
  (∀j,j<k->m' bl (so+j)=m bl (so+j))/\(∀c j,c∈o2.map (·.1)\/c∈r2->m' c j=m c j):=by
 constructor
 ·intro j B;rcases i bl (so+j)with h|⟨hb,w,d⟩|h|⟨h,t,a⟩;all_goals grind
 ·intro c j f;have y:c∉o1.map (·.1):=by
   rcases f with g|g;grind;exact fun r=>(p.shared c (l c g)).1 (u c r).1
  have x:c≠bl:=by
   rcases f with g|g;grind
   have:=p.shared c (l c g)
   grind
  rcases i c j with h|⟨hb,w,d⟩|h|⟨h,t,a⟩;all_goals grind
theorem Xy{m m':DJ}:∀(q:BN)(t:Ty)(s:Src),t.tL=t->loc m' t s q=loc m t s q
 | [],t,s,_=>rfl
 |.fst::q,t,s,h=>by
  cases t<;>cases s<;>try rfl
  rename_i a b g o;simp only[Ty.tL,Ty.pair.injEq]at h;exact Xy q a (.at g o) h.1
 |.snd::q,t,s,h=>by
  cases t<;>cases s<;>try rfl
  rename_i a b g o;simp only[Ty.tL,Ty.pair.injEq]at h;exact Xy q b (.at g (o+a.cells)) h.2
 |.idx i::q,t,s,h=>by
  cases t<;>cases s<;>try rfl
  rename_i o t _ _;cases o;rfl;simp[Ty.tL]at h;rename_i o t _;cases o;rfl;simp[Ty.tL]at h;rename_i n t g o;simp only[Ty.tL,Ty.arr.injEq]at h;show(if i<n then loc m' t (.at g (o+i*t.cells)) q else none)=(if i<n then loc m t (.at g (o+i*t.cells)) q else none)
  rw[Xy q t _ (Ty.uX t h.2)]
theorem CZ{m m':DJ}:∀(q:BN)(t:Ty)(s:Src){x O R r},AO m t (s.rd m)=some (x,O,R)->loc m t s q=some r->
  (∀j,j<t.cells->s.rd m' j=s.rd m j)->(∀c j,c∈O.map (·.1)->m' c j=m c j)->loc m' t s q=some r
 | [],t,s,x,O,R,r,h,f,d,hb=>f
 |.fst::q,t,s,x,O,R,r,h,f,d,hb=>by
  obtain⟨a,A,o,u,rfl,rfl,f⟩:=LD f;obtain⟨U,N,S,V,P,T,B,y,rfl,rfl,rfl⟩:=CP h;exact CZ q a (.at o u) B f (fun j z=>d j (by simp only[Ty.cells];omega)) (fun c j g=>hb c j (by simp only[pA,mA];exact .inl g))
 |.snd::q,t,s,x,O,R,r,h,f,d,hb=>by
  obtain⟨a,A,o,u,rfl,rfl,f⟩:=LF f;obtain⟨U,N,S,V,P,T,B,y,rfl,rfl,rfl⟩:=CP h;rw[MI]at y;refine CZ q A (.at o (u+a.cells)) y f (fun j z=>?_) (fun c j g=>hb c j (by simp only[pA,mA];exact .inr g))
  have:=d (a.cells+j) (by simp only[Ty.cells];omega)
  simpa[Src.rd,Nat.add_assoc]using this
 |.idx i::q,t,s,x,O,R,r,h,f,d,hb=>by
  rcases Kq f with⟨n,k,o,u,rfl,rfl,l,f⟩|⟨k,a,n,c,rfl,b,l,f⟩;simp[AO,MI]at h;obtain⟨X,M,Q,D,E,v,w,p,K,rfl,rfl⟩:=Bf n 0 i h l;simp at p;show(if i<n then loc m' k (.at o (u+i*k.cells)) q else none)=some r
  rw[if_pos l];have hk:i*k.cells+k.cells<=n*k.cells:=by rw[<-A7];exact A4 _ l
  refine CZ q k _ p f (fun j z=>?_) (fun c j g=>hb c j (a8g g))
  have:=d (i*k.cells+j) (by grind[Ty.cells])
  simp_all[Src.rd,Nat.add_assoc];have Z:s.rd m' 0=some (.slice (some a) n c):=by simp_all[Ty.cells]
  have e:loc m' (.list true k) s (.idx i::q)=if i<n then loc m' k (.at a.block (a.off+i*k.cells)) q else none:=by
   simp_all[Cj]
  rw[e,if_pos l];rcases Cr h with⟨C,-⟩|⟨F,L,Y,os,C,ha,hn,I,H⟩;simp_all;rw[C]at b;simp at b;obtain⟨rfl,rfl,rfl⟩:=b;obtain⟨X,M,Q,D,E,v,w,p,K,rfl,rfl⟩:=Bf L 0 i I l;simp at p;rcases H with⟨G,-⟩|⟨-,rfl⟩;omega;exact CZ q k _ p f (fun j z=>hb F.block _ (by simp)) (fun c j g=>hb c j (by
   simp only[B9,mC];exact .inr (a8g g)))
theorem OW{q:BN}{t:Ty}{x O R e s'}(h:AO m t (s.rd m)=some (x,O,R))(k:loc m t s q=some (.list true e,s'))(f:∀j,j<t.cells->s.rd m' j=s.rd m j)(hb:∀c j,c∈O.map (·.1)->m' c j=m c j):s'.rd m' 0=s'.rd m 0:=by
 cases s' with
 |one v=>rfl
 |_=>
  rename_i b o;rcases HK q t s h k with⟨a,rfl,g,d⟩|g
  have:=f (o-a) (by grind[Ty.cells])
  simp_all[Src.rd];exact hb b _ g
theorem Sd{m m':DJ}:∀(p q:BN)(t:Ty)(s:Src){x O R V b o y O' R' r},AO m t (s.rd m)=some (x,O,R)->loc m t s p=some (V,.at b o)->
  AO m V ((Src.at b o).rd m)=some (y,O',R')->xE s O R->b9l m m' s O R b o V.cells O'->(∀rest,q=p++rest->rest=[]\/V.tL=V)->
  loc m t s q=some r->loc m' t s q=some r/\∀e s',r=(.list true e,s')->(∀rest,q≠p++rest)->s'.rd m' 0=s'.rd m 0
 | [],q,t,s,x,O,R,V,b,o,y,O',R',r,h,w,Q,l,f,hq,A=>by
  simp[Cj]at w;obtain⟨rfl,rfl⟩:=w;refine⟨?_,fun _ _ _ H=>absurd rfl (H q)⟩;rcases hq q rfl with rfl|g;exact A;grind[Xy]
 |.fst::p,q,t,s,x,O,R,V,b,o,y,O',R',r,h,w,Q,l,f,hq,A=>by
  obtain⟨a,X,bl,so,rfl,rfl,w⟩:=LD w;obtain⟨x1,o1,r1,x2,o2,r2,h1,Y,rfl,rfl,rfl⟩:=CP h;have hw:=HK p a _ h1 w;obtain⟨y1,h6,h7,A1,B1,h4,h5,G,-,B,e2⟩:=BU p a _ h1 w;rw[Q]at G;simp at G;obtain⟨rfl,rfl,rfl⟩:=G;have u:∀c,c∈O'.map (·.1)->c∈o1.map (·.1):=fun c f=>by simp_all
  have Z:=l.nodup;rw[pA,B6]at Z;have m1:∀c,c∈o1.map (·.1)->c∈(o1++o2).map (·.1):=fun c f=>by grind
  have m2:∀c,c∈o2.map (·.1)->c∈(o1++o2).map (·.1):=fun c f=>by grind
  cases q with
  |nil=>
   refine⟨A,fun e s' B _=>?_⟩;simp[Cj]at A;grind
  |cons st q=>
   cases st with
   |fst=>
    have d:loc m a (.at bl so) q=some r:=A;have a2:xE (.at bl so) o1 r1:=⟨Z.1,fun c f=>l.src c (m1 c f),
     fun c f=>⟨fun h=>(l.shared c (A9 _ f)).1 (m1 c h),(l.shared c (A9 _ f)).2⟩⟩
    have U:=Sd p q a (.at bl so) h1 w Q a2 (fun c j=>by
     rcases f c j with h|h|h|⟨h,K,F⟩;exact .inl h;all_goals grind)
     (fun rest e=>hq rest (by grind)) d
    exact⟨U.1,fun e s' B H=>U.2 e s' B (fun rest e2=>H rest (by grind))⟩
   |snd=>
    have d:loc m X (.at bl (so+a.cells)) q=some r:=A;rw[MI]at Y;have E:=Sc f l (bl:=bl) (so:=so+a.cells) (k:=X.cells) (o1:=o1) (o2:=o2) (r2:=r2) (.inl (fun h=>h rfl))
     (fun c f=>⟨m1 c f,l.src c (m1 c f)⟩) (fun c f=>⟨m2 c f,l.src c (m2 c f)⟩) (fun c h K=>Z.2.2 c h c K rfl)
     (fun c f=>A8 _ f) u (by
      grind)
    exact⟨CZ q X _ Y d E.1 (fun c j f=>E.2 c j (.inl f)),fun e s' B _=>OW Y (B▸d) E.1 (fun c j f=>E.2 c j (.inl f))⟩
   |idx i=>
    cases A
 |.snd::p,q,t,s,x,O,R,V,b,o,y,O',R',r,h,w,Q,l,f,hq,A=>by
  obtain⟨a,X,bl,so,rfl,rfl,w⟩:=LF w;obtain⟨x1,o1,r1,x2,o2,r2,h1,Y,rfl,rfl,rfl⟩:=CP h;rw[MI]at Y;have hw:=HK p X _ Y w;obtain⟨y1,h6,h7,A1,B1,h4,h5,G,-,B,e2⟩:=BU p X _ Y w;rw[Q]at G;simp at G;obtain⟨rfl,rfl,rfl⟩:=G;have u:∀c,c∈O'.map (·.1)->c∈o2.map (·.1):=fun c f=>by simp_all
  have Z:=l.nodup;rw[pA,B6]at Z;have m1:∀c,c∈o1.map (·.1)->c∈(o1++o2).map (·.1):=fun c f=>by grind
  have m2:∀c,c∈o2.map (·.1)->c∈(o1++o2).map (·.1):=fun c f=>by grind
  cases q with
  |nil=>
   refine⟨A,fun e s' B _=>?_⟩;simp[Cj]at A;grind
  |cons st q=>
   cases st with
   |snd=>
    have d:loc m X (.at bl (so+a.cells)) q=some r:=A;have a3:xE (.at bl (so+a.cells)) o2 r2:=⟨Z.2.1,fun c f=>l.src c (m2 c f),
     fun c f=>⟨fun h=>(l.shared c (A8 _ f)).1 (m2 c h),(l.shared c (A8 _ f)).2⟩⟩
    have U:=Sd p q X (.at bl (so+a.cells)) Y w Q a3 (fun c j=>by
     rcases f c j with h|h|h|⟨h,K,F⟩;exact .inl h;omega;grind;simp only[pA,mA]at h K;exact .inr (.inr (.inr ⟨fun g=>h (.inr g),fun g=>K (.inr g),F⟩)))
     (fun rest e=>hq rest (by grind)) d
    exact⟨U.1,fun e s' B H=>U.2 e s' B (fun rest e2=>H rest (by grind))⟩
   |fst=>
    have d:loc m a (.at bl so) q=some r:=A;have E:=Sc f l (bl:=bl) (so:=so) (k:=a.cells) (o1:=o2) (o2:=o1) (r2:=r1) (.inl (fun h=>h rfl))
     (fun c f=>⟨m2 c f,l.src c (m2 c f)⟩) (fun c f=>⟨m1 c f,l.src c (m1 c f)⟩) (fun c h K=>Z.2.2 c K c h rfl)
     (fun c f=>A9 _ f) u (by
      grind)
    exact⟨CZ q a _ h1 d E.1 (fun c j f=>E.2 c j (.inl f)),fun e s' B _=>OW h1 (B▸d) E.1 (fun c j f=>E.2 c j (.inl f))⟩
   |idx i=>
    cases A
 |.idx i::p,q,t,s,x,O,R,V,b,o,y,O',R',r,h,w,Q,l,f,hq,A=>by
  rcases Kq w with⟨n,t,bl,so,rfl,rfl,hi,w⟩|⟨t,a0,n0,c0,rfl,g5,hi,w⟩
  ·have h:Ak (fun i=>AO m t fun j=>(Src.at bl so).rd m (i*t.cells+j)) n 0=some (x,O,R):=h;have h0:Ak (fun i=>AO m t ((Src.at bl (so+i*t.cells)).rd m)) n 0=some (x,O,R):=by grind[MI]
   have P:∀c,c∈O.map (·.1)->c≠bl:=fun c f=>l.src c f;obtain⟨z,L,ri,A0,B0,k1,k3,N,hz,B,e2⟩:=Bf n 0 i h0 hi;simp at N;have C:∀c,c∈L.map (·.1)->c∈O.map (·.1):=fun c f=>by simp_all
   have I:∀c,c∈ri->c∈R:=fun c f=>by simp_all
   have hw:=HK p t _ N w;obtain⟨y1,h6,h7,A1,B1,h4,h5,G,-,e3,e4⟩:=BU p t _ N w;rw[Q]at G;simp at G;obtain⟨rfl,rfl,rfl⟩:=G;have u:∀c,c∈O'.map (·.1)->c∈L.map (·.1):=fun c f=>by simp_all
   cases q with
   |nil=>
    refine⟨A,fun e s' B _=>?_⟩;simp_all[Cj]
   |cons st q=>
    rcases st with _|_|j;cases A;cases A;rcases Kq A with⟨n',g6,k5,a4,e5,e6,hj,d⟩|⟨g6,a',n',S,e5,-⟩;simp at e5;obtain⟨rfl,rfl⟩:=e5;simp at e6;obtain⟨rfl,rfl⟩:=e6;have el:loc m' (.arr n t) (.at bl so) (.idx j::q)=loc m' t (.at bl (so+j*t.cells)) q:=by
     show(if j<n then loc m' t (.at bl (so+j*t.cells)) q else none)=_
     simp_all
    rw[el];by_cases hji:j=i;subst hji;have g0:(L.map (·.1)).Nodup:=by
     have:=l.nodup
     grind
    have g4:xE (.at bl (so+j*t.cells)) L ri:=⟨g0,fun c f=>P c (C c f),fun c f=>⟨fun g=>(l.shared c (I c f)).1 (C c g),(l.shared c (I c f)).2⟩⟩;have U:=Sd p q t _ N w Q g4 (fun c k=>by
     rcases f c k with h|h|h|⟨h,K,F⟩;exact .inl h;omega;simp_all;exact .inr (.inr (.inr ⟨fun g=>h (C c g),fun g=>K (I c g),F⟩))) (fun rest e=>hq rest (by simp_all)) d
    simp_all;obtain⟨zj,oj,rj,Aj,Bj,k2,k4,D,-,ej,k6⟩:=Bf n 0 j h0 hj;simp at D;have M:=LG n 0 h0 l.nodup i j hi hj (Ne.symm hji) (by simpa using N) (by simpa using D);have T:∀c,c∈oj.map (·.1)->c∈O.map (·.1):=fun c g=>by grind
    have E:=Sc f l (bl:=bl) (so:=so+j*t.cells) (k:=t.cells) (o1:=L) (o2:=oj) (r2:=rj) (.inl (fun h=>h rfl))
     (fun c f=>⟨C c f,P c (C c f)⟩) (fun c f=>⟨T c f,P c (T c f)⟩) M
     (fun c g=>by grind) u (by
      rcases hw with⟨s1,g1,g2,g3⟩|g;simp at g1;obtain⟨rfl,rfl⟩:=g1;refine .inl ⟨rfl,fun k hk=>?_⟩;rcases C4 hji with g|g
      have:j*t.cells+t.cells<=i*t.cells:=by rw[<-A7];exact A4 _ g
      omega
      have:i*t.cells+t.cells<=j*t.cells:=by rw[<-A7];exact A4 _ g
      omega;grind)
    exact⟨CZ q t _ D d E.1 (fun c j f=>E.2 c j (.inl f)),fun e s' B _=>OW D (B▸d) E.1 (fun c j f=>E.2 c j (.inl f))⟩;simp_all
  ·rcases Cr h with⟨hv,-⟩|⟨a,n,c,os,hv,ha,Z,h0,ho⟩;simp_all
   ·rw[hv]at g5;simp at g5;obtain⟨rfl,rfl,rfl⟩:=g5;rcases ho with⟨k8,-⟩|⟨k8,rfl⟩;omega
    ·have g7:=l.nodup;simp only[B9,C3]at g7;obtain⟨h9,g9⟩:=g7;have h8:a.block∈(((a.block,a.off+c*t.cells)::os).map (·.1)):=by simp
     obtain⟨z,L,ri,A0,B0,k1,k3,N,hz,B,e2⟩:=Bf n 0 i h0 hi;simp at N;have h3:∀c,c∈L.map (·.1)->c∈os.map (·.1):=fun c f=>by simp_all
     have C:∀S,S∈L.map (·.1)->S∈(((a.block,a.off+c*t.cells)::os).map (·.1)):=fun S f=>by
      simp_all
     have I:∀c,c∈ri->c∈R:=fun c f=>by simp_all
     have hw:=HK p t _ N w;have k7:b∈(((a.block,a.off+c*t.cells)::os).map (·.1)):=by
      grind
     obtain⟨y1,h6,h7,A1,B1,h4,h5,G,-,e3,e4⟩:=BU p t _ N w;rw[Q]at G;simp at G;obtain⟨rfl,rfl,rfl⟩:=G;have u:∀c,c∈O'.map (·.1)->c∈L.map (·.1):=fun c f=>by grind
     have k9:s.rd m' 0=some (.slice (some a) n c):=by
      rw[<-hv];cases s with
      |one v=>rfl
      |_=>
       rename_i sb so;show m' sb (so+0)=m sb (so+0);rcases f sb (so+0)with h|⟨hb,ho,a5⟩|h|⟨h,K,F⟩;omega;exact absurd rfl (hb▸l.src b k7);exact absurd rfl (l.src sb (C _ (u _ h)));exact absurd rfl F
     cases q with
     |nil=>
      refine⟨A,fun e s' B _=>?_⟩;simp[Cj]at A;grind
     |cons st q=>
      rcases st with _|_|j;cases A;cases A;rcases Kq A with⟨n',g6,k5,a4,e5,e6,hj,d⟩|⟨g6,a',n',S,e5,e6,hj,d⟩;grind;simp at e5;subst e5;rw[hv]at e6;simp at e6;obtain⟨rfl,rfl,rfl⟩:=e6;have e:loc m' (.list true t) s (.idx j::q)=if j<n then loc m' t (.at a.block (a.off+j*t.cells)) q else none:=by
       simp only[loc,Cj,k9]
      rw[e,if_pos hj];clear e;by_cases hji:j=i;subst hji;have g0:(L.map (·.1)).Nodup:=by
       grind
      have g4:xE (.at a.block (a.off+j*t.cells)) L ri:=⟨g0,fun c f (e:c=a.block)=>h9 (e▸h3 c f),
       fun c f=>⟨fun g=>(l.shared c (I c f)).1 (C c g),fun(e:c=a.block)=>(l.shared c (I c f)).1 (e▸h8)⟩⟩
      have U:=Sd p q t _ N w Q g4 (fun c k=>by
       rcases f c k with h|h|h|⟨h,K,F⟩;exact .inl h;omega;grind;exact .inr (.inr (.inr ⟨fun g=>h (C c g),fun g=>K (I c g),fun(e:c=a.block)=>h (e▸h8)⟩))) (fun rest e=>hq rest (by grind)) d
      exact⟨U.1,fun e s' B H=>U.2 e s' B (fun rest e2=>H rest (by grind))⟩;obtain⟨zj,oj,rj,Aj,Bj,k2,k4,D,-,ej,k6⟩:=Bf n 0 j h0 hj;simp at D;have M:=LG n 0 h0 g9 i j hi hj (Ne.symm hji) (by simpa using N) (by simpa using D);have k0:∀c,c∈oj.map (·.1)->c∈os.map (·.1):=fun c g=>by grind
      have T:∀S,S∈oj.map (·.1)->S∈(((a.block,a.off+c*t.cells)::os).map (·.1)):=fun S g=>by
       grind
      have E:=Sc f l (bl:=a.block) (so:=a.off+j*t.cells) (k:=t.cells) (o1:=L) (o2:=oj) (r2:=rj) (.inr h8)
       (fun c f=>⟨C c f,fun e=>h9 (e▸h3 c f)⟩) (fun c f=>⟨T c f,fun e=>h9 (e▸k0 c f)⟩) M
       (fun c g=>by grind) u (by
        rcases hw with⟨s1,g1,g2,g3⟩|g;simp at g1;obtain⟨rfl,rfl⟩:=g1;refine .inl ⟨rfl,fun k hk=>?_⟩;rcases C4 hji with g|g
        have:j*t.cells+t.cells<=i*t.cells:=by rw[<-A7];exact A4 _ g
        omega
        have:i*t.cells+t.cells<=j*t.cells:=by rw[<-A7];exact A4 _ g
        omega;grind)
      exact⟨CZ q t _ D d E.1 (fun c j f=>E.2 c j (.inl f)),fun e s' B _=>OW D (B▸d) E.1 (fun c j f=>E.2 c j (.inl f))⟩
def Ad(w:World)(ov:Option (Nat×Nat×Value)):DJ:=fun b o=>
 match ov with
 |some (b',o',v)=>if b=b'/\o=o' then some v else w.cell? ⟨b,o,none⟩
 |none=>w.cell? ⟨b,o,none⟩
structure Gh where
 g:Nat->Src
 ow:Nat->CK
 ov:Option (Nat×Nat×Value)
structure Base where
 size:Nat
 hp:Nat->Option Obj
 F:Nat->Prop
 S:Nat->Prop

 pin:Nat->Option Src:=fun _=>none

 io:Os×Array (Nat×ByteArray):=(default,#[])
def FT(w:World):Os×Array (Nat×ByteArray):=(w.os,w.output)
def BD(M:Gh)(c:Nat):Prop:=∃n,c∈(M.ow n).map (·.1)
def Be(B:Base)(w:World)(M:Gh)(c:Nat):Prop:=c<w.heap.size/\(B.S c\/B.F c\/B.size<=c)/\¬ BD M c
def BY(w:World)(b k:Nat):Prop:=∃c e lo hi,w.heap[b]?=some (.cells c e (lo,hi))/\k<=c.size/\(hi=lo\/k<=lo)
def Cd:Value->Bool
 |.agg _|.tuple _=>false
 |_=>true
def Cg(m:DJ)(Sh:Nat->Prop)(t:Ty)(x:t.sJ)(v:Value):Prop:=
 (t.isAgg=true->∃cs,v=.agg cs/\cs.size=t.cells)/\(t.isAgg=false->Cd v=true)/\
 ∃R,AO m t (fun j=>v.cells[j]?)=some (x,[],R)/\∀c∈R,Sh c
def AA(m:DJ)(g:Nat->Src)(rt:Nat->Option sO)(Sh:Nat->Prop):AV->Value->Prop
 |.dead,_=>True
 |.skp,v=>v=undef
 |.val t x,v=>Cg m Sh t x v
 |.nils,v=>v=.slice none 0 0
 |.empt,v=>∃a:Option Addr,v=.slice a 0 0
 |.nilp,v=>v=.pointer none
 |.ptr n p,v=>∃r t b o,rt n=some r/\loc m r.t (g n) p=some (t,.at b o)/\v=.pointer (some ⟨b,o,none⟩)
 |.tY g,v=>v=.pointer (some ⟨g,0,none⟩)
 |.vptr t x,v=>∃b o R,v=.pointer (some ⟨b,o,none⟩)/\AO m t ((Src.at b o).rd m)=some (x,[],R)/\Sh b/\∀c∈R,Sh c
 |.sref n p,v=>∃r e s,rt n=some r/\loc m r.t (g n) p=some (.list true e,s)/\s.rd m 0=some v
 |.swin n p off len,v=>∃r e s a l c,rt n=some r/\loc m r.t (g n) p=some (.list true e,s)/\s.rd m 0=some (.slice a l c)/\off+len<=l/\
   ∃a',v=.slice a' len (c-off)/\(∀A,a'=some A->c=off\/A.spot=none)/\(c=off\/a'=a.map fun A=>A.add (off*e.cells))
def yV.ok:yV->Array Value->Nat->Value->Prop
 |.tup,us,_,v=>v=.tuple us
 |.agg,us,n,v=>us.size=n/\v=.agg us/\∀(k:Nat) u,us[k]?=some u->Cd u=true
 |.clo f,us,n,v=>us.size=n/\v=.func (.func f) #[] us
def Ws(m:DJ)(g:Nat->Src)(rt:Nat->Option sO)(Sh:Nat->Prop):SV->Value->Prop
 |.one a,v=>AA m g rt Sh a v
 |.cmp c as,v=>∃vs:Array Value,c.ok vs as.length v/\∀(k:Nat) a,as[k]?=some a->∃u,vs[k]?=some u/\AA m g rt Sh a u
structure tT (m:DJ) (Sh:Nat->Prop) (r:sO) (s:Src) (O:CK):Prop where
 rd:∃O' R,AO m r.t (s.rd m)=some (r.x,O',R)/\(∀c∈R,Sh c)/\
  ((r.bx=true/\∃b,s=.at b 0/\O=(b,r.t.cells)::O')\/(r.bx=false/\(∃v,s=.one v)/\(∃e,r.t=.list true e)/\O=O'))
def QR(m:DJ)(g:Nat->Src)(rt:Nat->Option sO):Option (Nat×BN×Nat)->Option (Nat×Nat×Value)->Prop
 |none,none=>True
 |some (n,p,_),some (b,o,_)=>∃r e,rt n=some r/\loc m r.t (g n) p=some (.list true e,.at b o)
 |_,_=>False
theorem QR.mono{rt:Nat->Option sO}:∀{pd ov},QR m g rt pd ov->
  (∀n p d r e b o,pd=some (n,p,d)->rt n=some r->loc m r.t (g n) p=some (.list true e,.at b o)->∃f,rt' n=some f/\loc m' f.t (g' n) p=some (.list true e,.at b o))->
  QR m' g' rt' pd ov
 |none,none,_,_=>trivial
 |some (n,p,d),some (b,o,v),⟨r,e,k,a⟩,j=>by
  obtain⟨f,c,i⟩:=j n p d r e b o rfl k a;exact⟨f,e,c,i⟩
 |none,some _,h,_=>h.elim
 |some _,none,h,_=>h.elim
structure sK (B:Base) (U:AE) (N:Nat) (tm:Nat->Value) (w:World) (M:Gh):Prop where
 roots:∀n r,U.rt n=some r->tT (Ad w M.ov) (Be B w M) r (M.g n) (M.ow n)
 norm:∀n,U.rt n=none->M.ow n=[]
 nodup:∀n,((M.ow n).map (·.1)).Nodup
 sU:∀n n',n≠n'->∀c,c∈(M.ow n).map (·.1)->c∉(M.ow n').map (·.1)
 live:∀n p,p∈M.ow n->BY w p.1 p.2
 slots:∀i,i<N->Ws (Ad w M.ov) M.g U.rt (Be B w M) (U.sl i) (tm i)
 pend:QR (Ad w M.ov) M.g U.rt U.pd M.ov
 size:B.size<=w.heap.size
 frame:∀b,b<B.size->¬ B.F b->w.heap[b]?=B.hp b
 mine:∀c,BD M c->B.F c\/B.size<=c
 pins:∀i b,B.pin i=some b->U.rt (pinned+i)≠none->M.g (pinned+i)=b
 still:FT w=B.io
theorem BY.lt(h:BY w b k):b<w.heap.size:=by
 obtain⟨c,e,lo,g,h,-⟩:=h;grind
theorem BY.mono{k':Nat}(h:BY w b k)(g:k'<=k):BY w b k':=by
 obtain⟨c,e,lo,d,h,f,a⟩:=h;exact⟨c,e,lo,d,h,B4 g f,a.imp id (B4 g)⟩
theorem sK.lt{B U N tm w M}(h:sK B U N tm w M)(g:BD M c):c<w.heap.size:=by
 obtain⟨n,f⟩:=g;obtain⟨p,k,rfl⟩:=List.mem_map.1 f;exact(h.live n p k).lt
theorem Cg.frame{t x v}(h:Cg m Sh t x v)(i:∀c j,Sh c->m' c j=m c j)(e:∀c,Sh c->Sh' c):Cg m' Sh' t x v:=by
 obtain⟨g,f,R,k,a⟩:=h;refine⟨g,f,R,AF t k (fun _ _=>rfl) (fun b j hb=>?_),fun c d=>e c (a c d)⟩;simp_all
theorem AA.frame{rt:Nat->Option sO}{a:AV}(h:AA m g rt Sh a v)(C:∀c j,Sh c->m' c j=m c j)(A:∀c,Sh c->Sh' c)(z:∀n p r t s,(a=.ptr n p\/a=.sref n p\/∃o l,a=.swin n p o l)->rt n=some r->loc m r.t (g n) p=some (t,s)->
   ∃k,rt' n=some k/\loc m' k.t (g' n) p=some (t,s)/\(∀u,a≠.ptr n p->s.rd m 0=some u->s.rd m' 0=some u)):AA m' g' rt' Sh' a v:=by
 cases a with
 |dead=>trivial
 |val t x=>exact Cg.frame h C A
 |skp=>exact h
 |nils=>exact h
 |empt=>exact h
 |nilp=>exact h
 |tY g=>exact h
 |ptr n p=>
  obtain⟨r,t,b,o,d,i,f⟩:=h;obtain⟨k,q,w,-⟩:=z n p r t _ (.inl rfl) d i;exact⟨k,t,b,o,q,w,f⟩
 |vptr t x=>
  obtain⟨b,o,R,d,i,f,q⟩:=h;refine⟨b,o,R,d,AF t i (fun j _=>C b _ f) (fun c j B=>?_),A b f,fun c B=>A c (q c B)⟩;simp_all
 |sref n p=>
  obtain⟨r,e,s,d,i,f⟩:=h;obtain⟨k,q,w,y⟩:=z n p r _ _ (.inr (.inl rfl)) d i;exact⟨k,e,s,q,w,y v (by simp) f⟩
 |swin n p o l=>
  obtain⟨r,e,s,a,F,c,d,i,f,q,w⟩:=h;obtain⟨k,y,D,E⟩:=z n p r _ _ (.inr (.inr ⟨_,_,rfl⟩)) d i;exact⟨k,e,s,a,F,c,y,D,E _ (by simp) f,q,w⟩
theorem Ws.frame{rt:Nat->Option sO}{a:SV}(h:Ws m g rt Sh a v)(b:∀a v,AA m g rt Sh a v->AA m' g' rt' Sh' a v):Ws m' g' rt' Sh' a v:=by
 cases a with
 |one a=>exact b a v h
 |cmp c as=>
  obtain⟨d,f,e⟩:=h;refine⟨d,f,fun k a i=>?_⟩;grind
theorem Ws.sI{m m':DJ}{g e:Nat->Src}{rt d:Nat->Option sO}{Sh b:Nat->Prop}{f:AV->AV}{a:SV}{v:Value}(h:Ws m g rt Sh a v)
  (i:∀a v,AA m g rt Sh a v->AA m' e d b (f a) v):Ws m' e d b (a.sI f) v:=by
 cases a with
 |one a=>exact i a v h
 |cmp c as=>
  obtain⟨j,l,n⟩:=h;refine⟨j,by simp_all,fun k a o=>?_⟩;grind
theorem tT.sep{B:Base}{M:Gh}{r s O}(h:tT m (Be B w M) r s O)(a:(O.map (·.1)).Nodup)(d:∀c∈O.map (·.1),BD M c):
  ∃g R,AO m r.t (s.rd m)=some (r.x,g,R)/\(∀c∈R,Be B w M c)/\xE s g R/\(∀c∈g.map (·.1),c∈O.map (·.1))/\(∀b o,s=.at b o->b∈O.map (·.1))/\
   ((r.bx=true/\∃b,s=.at b 0/\O=(b,r.t.cells)::g)\/(r.bx=false/\(∃v,s=.one v)/\(∃e,r.t=.list true e)/\O=g)):=by
 obtain⟨g,R,j,k,i⟩:=h.rd;refine⟨g,R,j,k,?_,?_,?_,i⟩;rcases i with⟨-,b,rfl,rfl⟩|⟨-,⟨v,rfl⟩,-,rfl⟩;simp only[B9,C3]at a;refine⟨a.2,fun c f e=>a.1 (e▸f),fun c f=>⟨fun h=>(k c f).2.2 (d c (by simp_all)),fun e=>(k c f).2.2 (d c (by grind))⟩⟩;exact⟨a,fun c _=>trivial,fun c f=>⟨fun h=>(k c f).2.2 (d c h),trivial⟩⟩;all_goals grind
theorem sK.sep{B U N tm w M}(h:sK B U N tm w M){n r}(a:U.rt n=some r):
  ∃f R,AO (Ad w M.ov) r.t ((M.g n).rd (Ad w M.ov))=some (r.x,f,R)/\(∀c∈R,Be B w M c)/\xE (M.g n) f R/\(∀c∈f.map (·.1),c∈(M.ow n).map (·.1))/\
   (∀b o,M.g n=.at b o->b∈(M.ow n).map (·.1))/\
   ((r.bx=true/\∃b,M.g n=.at b 0/\M.ow n=(b,r.t.cells)::f)\/(r.bx=false/\(∃v,M.g n=.one v)/\(∃e,r.t=.list true e)/\M.ow n=f)):=
 (h.roots n r a).sep (h.nodup n) (fun _ k=>⟨n,k⟩)
theorem sK.place{B U N tm w M}(h:sK B U N tm w M){n r p t b o}(f:U.rt n=some r)(j:loc (Ad w M.ov) r.t (M.g n) p=some (t,.at b o)):b∈(M.ow n).map (·.1):=by
 obtain⟨k,R,a,c,d,e,i,-⟩:=h.sep f;grind[HK]
theorem sK.mem{B U N tm w M}(h:sK B U N tm w M)(m:∀c j,BD M c\/Be B w M c->Ad w' M.ov c j=Ad w M.ov c j)(P:∀n p,p∈M.ow n->BY w' p.1 p.2)(y:w.heap.size<=w'.heap.size)(K:∀b,b<B.size->¬ B.F b->w'.heap[b]?=B.hp b)(hio:FT w'=FT w:=by first|rfl|assumption):sK B U N tm w' M:=by
 have x:∀c,Be B w M c->Be B w' M c:=fun c ⟨q,z,A⟩=>⟨B3 q y,z,A⟩;have k:∀n p r t s,U.rt n=some r->loc (Ad w M.ov) r.t (M.g n) p=some (t,s)->loc (Ad w' M.ov) r.t (M.g n) p=some (t,s)/\∀u,s.rd (Ad w M.ov) 0=some u->s.rd (Ad w' M.ov) 0=some u:=by
  intro n p r t s l hp;obtain⟨E,R,q,z,A,C,D,-⟩:=h.sep l;refine⟨CZ p r.t _ q hp (fun j O=>?_) (fun c j f=>m c j (.inl ⟨n,C c f⟩)),fun u G=>?_⟩
  ·cases e:M.g n with
   |one v=>rfl
   |_=>rename_i b o;exact m b _ (.inl ⟨n,D b o e⟩)
  ·cases s with
   |one v=>exact G
   |_=>
    rename_i b o
    have:=h.place l hp
    rw[<-G];exact m b _ (.inl ⟨n,this⟩)
 refine⟨fun n r l=>?_,h.norm,h.nodup,h.sU,P,fun i L=>?_,?_,B4 h.size y,K,h.mine,h.pins,hio.trans h.still⟩
 ·obtain⟨E,R,q,z,A,C,D,H⟩:=h.sep l;refine⟨E,R,AF r.t q (fun j O=>?_) (fun c j f=>?_),fun c f=>x c (z c f),H⟩
  ·cases e:M.g n with
   |one v=>rfl
   |_=>rename_i b o;exact m b _ (.inl ⟨n,D b o e⟩)
  rcases f with f|f;exact m c j (.inl ⟨n,C c f⟩);simp_all
 refine(h.slots i L).frame fun a v I=>I.frame (fun c j f=>m c j (.inr f)) x fun n p r t s _ l hp=>?_
 grind;exact h.pend.mono fun n p d r e b o _ l hp=>⟨r,l,(k n p r _ _ l hp).1⟩
theorem sK.put{B U N tm w M}(h:sK B U N tm w M){d:Nat}{a:SV}{v:Value}{f:Nat->Value}(b:d<N->Ws (Ad w M.ov) M.g U.rt (Be B w M) a v)
  (c:∀i,i<N->f i=if i=d then v else tm i):sK B (U.put d a) N f w M:=by
 refine⟨h.roots,h.norm,h.nodup,h.sU,h.live,fun i k=>?_,h.pend,h.size,h.frame,h.mine,h.pins,h.still⟩;rw[c i k];show Ws _ _ _ _ (bif i==d then a else U.sl i) _;by_cases e:i=d;subst e;rw[if_pos rfl,show(i==i)=true from by simp];exact b k;rw[if_neg e,show(i==d)=false from by simp_all];exact h.slots i k
theorem sK.tmps{B U N tm w M}(h:sK B U N tm w M){g:Nat->Value}(k:∀i,i<N->g i=tm i):sK B U N g w M:=
 ⟨h.roots,h.norm,h.nodup,h.sU,h.live,fun i f=>by rw[k i f];exact h.slots i f,h.pend,h.size,h.frame,h.mine,h.pins,h.still⟩
theorem sK.weak{B U N tm w M}(h:sK B U N tm w M){sl:Nat->SV}(k:∀i,i<N->∀v,Ws (Ad w M.ov) M.g U.rt (Be B w M) (U.sl i) v->Ws (Ad w M.ov) M.g U.rt (Be B w M) (sl i) v):
  sK B { U with sl:=sl } N tm w M:=
 ⟨h.roots,h.norm,h.nodup,h.sU,h.live,fun i f=>k i f _ (h.slots i f),h.pend,h.size,h.frame,h.mine,h.pins,h.still⟩
theorem BF{w w':World}{c:Nat}(g:Option (Nat×Nat×Value))(h:w'.heap[c]?=w.heap[c]?)(j:Nat):Ad w' g c j=Ad w g c j:=by
 simp_all[Ad,World.cell?]
theorem EF{m:DJ}:∀(p q:BN)(t:Ty)(s:Src){g s'},loc m t s p=some (g,s')->loc m t s (p++q)=loc m g s' q
 | [],q,t,s,g,s',h=>by
  simp[Cj]at h;simp_all
 |.fst::p,q,t,s,g,s',h=>by
  obtain⟨a,b,k,o,rfl,rfl,h⟩:=LD h;exact EF p q a _ h
 |.snd::p,q,t,s,g,s',h=>by
  obtain⟨a,b,k,o,rfl,rfl,h⟩:=LF h;exact EF p q b _ h
 |.idx i::p,q,t,s,g,s',h=>by
  rcases Kq h with⟨n,f,k,o,rfl,rfl,d,h⟩|⟨f,a,n,c,rfl,e,d,h⟩
  have:=EF p q f _ h
  show(if i<n then loc m f (.at k (o+i*f.cells)) (p++q)else none)=_
  simp_all
  have:=EF p q f _ h
  simp_all[Cj]
theorem LH{m:DJ}:∀(q:BN)(t:Ty)(s:Src){f s'},t.tL=t->loc m t s q=some (f,s')->f.tL=f
 | [],t,s,f,s',h,g=>by
  simp[Cj]at g;obtain⟨rfl,rfl⟩:=g;exact h
 |.fst::p,t,s,f,s',h,g=>by
  obtain⟨a,b,d,o,rfl,rfl,g⟩:=LD g;simp only[Ty.tL,Ty.pair.injEq]at h;exact LH p a _ h.1 g
 |.snd::p,t,s,f,s',h,g=>by
  obtain⟨a,b,d,o,rfl,rfl,g⟩:=LF g;simp only[Ty.tL,Ty.pair.injEq]at h;exact LH p b _ h.2 g
 |.idx i::p,t,s,f,s',h,g=>by
  rcases Kq g with⟨n,k,d,o,rfl,rfl,e,g⟩|⟨k,a,n,c,rfl,j,e,g⟩;simp only[Ty.tL,Ty.arr.injEq]at h;exact LH p k _ (Ty.uX k h.2) g;simp[Ty.tL]at h
def a8h(n:Nat)(p:BN)(t:Ty):AV->Prop
 |.ptr m q=>m=n->∀rest,q=p++rest->rest=[]\/t.tL=t
 |.sref m q|.swin m q _ _=>m=n->∀rest,q=p++rest->t.tL=t
 |_=>True
theorem Se(p q:BN):Ig p (p++q)=true:=by
 induction p with
 |nil=>rfl
 |cons s p h=>cases s<;>simpa[Ig]using h
theorem Wt(n:Nat)(p:BN)(t:Ty)(a:AV):a.kill n p=.dead\/(a.kill n p=a/\a8h n p t a):=by
 cases a<;>try exact .inr ⟨rfl,trivial⟩
 rename_i m q;by_cases h:(m==n&&Ig p q&&A3 (p.length<q.length))=true;simp_all[AV.kill];refine .inr ⟨by simp_all[AV.kill],fun e g f=>?_⟩;simp_all[Se];rename_i m q;by_cases h:(m==n&&Ig p q)=true;simp_all[AV.kill];refine .inr ⟨by simp_all[AV.kill],fun e g f=>?_⟩;simp_all[Se];rename_i m q o l;by_cases h:(m==n&&Ig p q)=true;simp_all[AV.kill];refine .inr ⟨by simp_all[AV.kill],fun e g f=>?_⟩;simp_all[Se]
theorem a5P(n:Nat)(p:BN){t:Ty}(h:t.tL=t)(a:AV):a8h n p t a:=by
 cases a<;>first|trivial|exact fun _ _ _=>h|exact fun _ _ _=>.inr h
inductive yB (U:AE) (M:Gh) (n:Nat) (p:BN) (t:Ty) (b o:Nat):Option (Nat×BN×Nat)->Option (Nat×Nat×Value)->Prop
 |same (h:∀p d,U.pd≠some (n,p,d)):yB U M n p t b o U.pd M.ov
 |new (d:Nat) (v:Value) (e:Ty) (h:U.pd=none) (ht:t=.list true e):yB U M n p t b o (some (n,p,d)) (some (b,o,v))
theorem sK.yY{B U N tm w M}(h:sK B U N tm w M){n r p t b o y O1 R1}(hr:U.rt n=some r)(hl:loc (Ad w M.ov) r.t (M.g n) p=some (t,.at b o))(hy:AO (Ad w M.ov) t ((Src.at b o).rd (Ad w M.ov))=some (y,O1,R1)){ov':Option (Nat×Nat×Value)}{pd':Option (Nat×BN×Nat)}{y' O2 R2}(hpd:yB U M n p t b o pd' ov')(hy':AO (Ad w' ov') t ((Src.at b o).rd (Ad w' ov'))=some (y',O2,R2))(hchg:∀c j,Ad w' ov' c j=Ad w M.ov c j\/(c=b/\o<=j/\j<o+t.cells)\/c∈O1.map (·.1)\/w.heap.size<=c)(hO2:∀c∈O2.map (·.1),c∈O1.map (·.1)\/w.heap.size<=c)(hn2:(O2.map (·.1)).Nodup)(hlive:∀p∈O2,BY w' p.1 p.2)(hfree:∀c k,BY w c k->BD M c->BY w' c k)(hsz:w.heap.size<=w'.heap.size)(hfr:∀b,b<B.size->¬ B.F b->w'.heap[b]?=B.hp b)(hR2:∀c∈R2,c<w'.heap.size/\(B.S c\/B.F c\/B.size<=c)/\¬ BD M c/\c∉O2.map (·.1)){f:AV->AV}(hf:∀a,f a=.dead\/(f a=a/\a8h n p t a))(hio:FT w'=FT w:=by first|rfl|assumption):
  ∃ow',(∀m,m≠n->ow' m=M.ow m)/\sK B { (U.sI f).sF n (some ⟨r.bx,r.t,Fc r.t r.x p t y'⟩)with pd:=pd' } N tm w' ⟨M.g,ow',ov'⟩:=by
 obtain⟨O',R,h1,h2,h3,h4,h5,h6⟩:=h.sep hr;obtain⟨y1,O1',R1',A1,B1,A1',B1',hd,hg,e1,e2⟩:=BU p r.t _ h1 hl;rw[hy]at hd;simp at hd;obtain⟨rfl,rfl,rfl⟩:=hd;have hO1:∀c,c∈O1.map (·.1)->c∈(M.ow n).map (·.1):=fun c hc=>h4 c (by simp_all);have hb:b∈(M.ow n).map (·.1):=h.place hr hl;have hc1:b9l (Ad w M.ov) (Ad w' ov') (M.g n) O' R b o t.cells O1:=fun c j=>by
  rcases hchg c j with g|g|g|g;grind;omega;grind
  ·refine .inr (.inr (.inr ⟨fun g'=>?_,fun g'=>?_,?_⟩));exact absurd (h.lt ⟨n,h4 c g'⟩) (by omega);exact absurd (h2 c g').1 (by omega)
   ·cases e:M.g n with
    |one v=>trivial
    |_=>
     rename_i b' o';rintro rfl;exact absurd (h.lt ⟨n,h5 _ _ e⟩) (by omega)
 obtain⟨A,B',R',e3,h7,h8⟩:=a5O p r.t (M.g n) h1 hl hy hy' h3 hc1

 have hother:∀c j,c∉(M.ow n).map (·.1)->c<w.heap.size->Ad w' ov' c j=Ad w M.ov c j:=fun c j hc hlt=>by
  grind
 have hoth:∀m,m≠n->∀c j,c∈(M.ow m).map (·.1)->Ad w' ov' c j=Ad w M.ov c j:=fun m hm c j hc=>
  hother c j (h.sU m n hm c hc) (h.lt ⟨m,hc⟩)
 have hshm:∀c j,Be B w M c->Ad w' ov' c j=Ad w M.ov c j:=fun c j hc=>hother c j (fun g=>hc.2.2 ⟨n,g⟩) hc.1

 let on:CK:=match r.bx with|true=>(match M.g n with|.at b0 _=>[(b0,r.t.cells)]|_=>[])++(A++(O2++B'))|false=>A++(O2++B')
 let ow':Nat->CK:=fun m=>if m=n then on else M.ow m
 have hon:ow' n=on:=by grind
 have hom:∀m,m≠n->ow' m=M.ow m:=fun m hm=>by grind
 have hon1:∀c,c∈on.map (·.1)->c∈(M.ow n).map (·.1)\/c∈O2.map (·.1):=by
  intro c hc;have key:c∈(A++(O2++B')).map (·.1)->c∈(M.ow n).map (·.1)\/c∈O2.map (·.1):=by
   grind
  rcases h6 with⟨hbx,b0,hs,ho⟩|⟨hbx,-,-,ho⟩;grind;grind
 have hOwned:∀c,(∃m,c∈(ow' m).map (·.1))->BD M c\/c∈O2.map (·.1):=by
  rintro c ⟨m,hm⟩;by_cases e:m=n;subst e;rw[hon]at hm;rcases hon1 c hm with g|g;exact .inl ⟨m,g⟩;grind;rw[hom m e]at hm;exact .inl ⟨m,hm⟩
 have hO2σ:∀c,c∈O2.map (·.1)->BD M c\/w.heap.size<=c:=fun c hc=>by
  rcases hO2 c hc with g|g;exact .inl ⟨n,hO1 c g⟩;omega
 have hsh:∀c,Be B w M c->Be B w' ⟨M.g,ow',ov'⟩ c:=fun c ⟨g1,g2,g3⟩=>⟨B3 g1 hsz,g2,fun g4=>by
  rcases hOwned c g4 with g|g;all_goals grind⟩
 have hshR2:∀c∈R2,Be B w' ⟨M.g,ow',ov'⟩ c:=fun c hc=>by
  obtain⟨g1,g2,g3,g4⟩:=hR2 c hc;refine⟨g1,g2,fun g5=>?_⟩;rcases hOwned c g5 with g|g;all_goals grind

 have hplace:∀m q rm tq s,U.rt m=some rm->loc (Ad w M.ov) rm.t (M.g m) q=some (tq,s)->(m=n->∀rest,q=p++rest->rest=[]\/t.tL=t)->
   loc (Ad w' ov') rm.t (M.g m) q=some (tq,s)/\∀e,tq=.list true e->(m=n->∀rest,q=p++rest->t.tL=t)->s.rd (Ad w' ov') 0=s.rd (Ad w M.ov) 0:=by
  intro m q rm tq s hrm hlq hq;by_cases e:m=n;subst e;rw[hr]at hrm;simp at hrm;subst hrm
  have:=Sd p q r.t (M.g m) h1 hl hy h3 hc1 (hq rfl) hlq
  refine⟨this.1,fun e ht hne=>this.2 e s (by grind) (fun rest he=>?_)⟩;have hp:=hne rfl rest he;subst he;rw[EF p rest r.t _ hl]at hlq
  have:=LH rest t _ hp hlq
  grind[Ty.tL]
  ·obtain⟨Om,Rm,g1,g2,g3,g4,g5,-⟩:=h.sep hrm;have hcell:∀j,j<rm.t.cells->(M.g m).rd (Ad w' ov') j=(M.g m).rd (Ad w M.ov) j:=fun j _=>by
    cases es:M.g m with
    |one v=>rfl
    |_=>rename_i b' o';exact hoth m e b' _ (g5 _ _ es)
   refine⟨CZ q rm.t _ g1 hlq hcell (fun c j hc=>hoth m e c j (g4 c hc)),fun e' ht _=>?_⟩;rw[ht]at hlq;exact OW g1 hlq hcell (fun c j hc=>hoth m e c j (g4 c hc))
 have hkeep:∀a v,AA (Ad w M.ov) M.g U.rt (Be B w M) a v->AA (Ad w' ov') M.g (fun j=>bif j==n then some ⟨r.bx,r.t,Fc r.t r.x p t y'⟩else U.rt j) (Be B w' ⟨M.g,ow',ov'⟩) (f a) v:=by
  intro a v ha;rcases hf a with g|⟨g,hk⟩;rw[g];trivial;rw[g];refine ha.frame hshm hsh fun m q rm tq s hcase hrm hlq=>?_
  have hq:m=n->∀rest,q=p++rest->rest=[]\/t.tL=t:=by
   intro e rest he;rcases hcase with rfl|rfl|⟨o',l',rfl⟩;exact hk e rest he;exact .inr (hk e rest he);exact .inr (hk e rest he)
  have hp:=hplace m q rm tq s hrm hlq hq;refine⟨if m=n then⟨r.bx,r.t,Fc r.t r.x p t y'⟩else rm,?_,?_,?_⟩
  grind;grind;intro u hne hu;rcases hcase with rfl|rfl|⟨o',l',rfl⟩;grind;obtain⟨r0,e0,s0,k1,k2,k3⟩:=ha;rw[hrm]at k1;simp at k1;subst k1;rw[hlq]at k2;simp at k2;rw[hp.2 e0 k2.1 (fun e rest he=>hk e rest he)];omega;obtain⟨r0,e0,s0,a0,l0,c0,k1,k2,k3⟩:=ha;rw[hrm]at k1;simp at k1;subst k1;rw[hlq]at k2;simp at k2;rw[hp.2 e0 k2.1 (fun e rest he=>hk e rest he)];omega
 have hpins:∀i b,B.pin i=some b->(((U.sI f).sF n (some ⟨r.bx,r.t,Fc r.t r.x p t y'⟩)).rt (pinned+i))≠none->M.g (pinned+i)=b:=fun i b hb hne=>by
  refine h.pins i b hb fun e=>hne ?_
  by_cases e':pinned+i=n;grind;have e'':(pinned+i==n)=false:=by grind
  simpa[AE.sF,e'',AE.sI]using e
 refine⟨ow',hom,?_,?_,?_,?_,?_,?_,?_,B4 h.size hsz,hfr,?_,hpins,hio.trans h.still⟩
 ·intro m rm hrm;by_cases e:m=n;subst e;simp[AE.sF]at hrm;subst hrm;refine⟨_,R',h7,fun c hc=>?_,?_⟩;grind;rcases h6 with⟨hbx,b0,hs,ho⟩|⟨hbx,hs,ht,ho⟩;grind;grind
  ·have hrm':U.rt m=some rm:=by
    have e':(m==n)=false:=by grind
    simpa[AE.sF,e',AE.sI]using hrm
   obtain⟨Om,Rm,g1,g2,g3,g4,g5,g6⟩:=h.sep hrm';refine⟨Om,Rm,AF rm.t g1 (fun j _=>?_) (fun c j hc=>?_),fun c hc=>hsh c (g2 c hc),?_⟩
   ·cases es:M.g m with
    |one v=>rfl
    |_=>rename_i b' o';exact hoth m e b' _ (g5 _ _ es)
   grind;grind
 intro m hm;by_cases e:m=n;grind[AE.sF];have e':(m==n)=false:=by grind
 show ow' m=[];rw[hom m e];exact h.norm m (by simpa[AE.sF,e',AE.sI]using hm);intro m;show((ow' m).map (·.1)).Nodup;by_cases e:m=n;subst e;rw[hon];have hnd:=h.nodup m;have key:((A++(O2++B')).map (·.1)).Nodup:=by
  have hO'n:=h3.nodup;rw[e3]at hO'n;simp only[pA,B6,mA]at hO'n|-;obtain⟨k1,⟨k2,k3,k4⟩,k5⟩:=hO'n;refine⟨k1,⟨hn2,k3,fun a ha c hc e=>?_⟩,fun a ha c hc e=>?_⟩;subst e;rcases hO2 a ha with g|g;grind;exact absurd (h.lt ⟨m,h4 a (by grind)⟩) (by omega);subst e;rcases hc with hc|hc;rcases hO2 a hc with g|g;grind;exact absurd (h.lt ⟨m,h4 a (by grind)⟩) (by omega);grind
 rcases h6 with⟨hbx,b0,hs,ho⟩|⟨hbx,-,-,ho⟩;simp only[on,hbx,hs,List.singleton_append,B9,C3];refine⟨fun g=>?_,key⟩;rw[ho]at hnd;simp only[B9,C3]at hnd;simp only[pA,mA]at g;rcases g with g|g|g;grind;rcases hO2 b0 g with g'|g';exact hnd.1 (by rw[e3];simp only[pA,mA];grind);have hb0:BD M b0:=⟨m,by grind⟩;exact absurd (h.lt hb0) (by omega);exact hnd.1 (by rw[e3];simp only[pA,mA];grind);grind;rw[hom m e];exact h.nodup m;intro m m' hmm c hc hc';by_cases e:m=n;subst e;rw[show(Gh.mk M.g ow' ov').ow m=ow' m from rfl,hon]at hc;rw[show(Gh.mk M.g ow' ov').ow m'=ow' m' from rfl,hom m' (Ne.symm hmm)]at hc';rcases hon1 c hc with g|g;exact h.sU m m' hmm c g hc';rcases hO2σ c g with g|g;rcases hO2 c ‹_› with g'|g';exact h.sU m m' hmm c (hO1 c g') hc';exact absurd (h.lt ⟨m',hc'⟩) (by omega);exact absurd (h.lt ⟨m',hc'⟩) (by omega);by_cases e':m'=n;subst e';rw[show(Gh.mk M.g ow' ov').ow m'=ow' m' from rfl,hon]at hc';rw[show(Gh.mk M.g ow' ov').ow m=ow' m from rfl,hom m e]at hc;rcases hon1 c hc' with g|g;exact h.sU m m' hmm c hc g;rcases hO2 c g with g'|g';exact h.sU m m' hmm c hc (hO1 c g');exact absurd (h.lt ⟨m,hc⟩) (by omega);rw[show(Gh.mk M.g ow' ov').ow m=ow' m from rfl,hom m e]at hc;rw[show(Gh.mk M.g ow' ov').ow m'=ow' m' from rfl,hom m' e']at hc';exact h.sU m m' hmm c hc hc'
 ·intro m q hq;rw[show(Gh.mk M.g ow' ov').ow m=ow' m from rfl]at hq;by_cases e:m=n
  ·subst e;rw[hon]at hq;have hold:q∈M.ow m->BY w' q.1 q.2:=fun g=>hfree _ _ (h.live m q g) ⟨m,C2 g⟩;have key:q∈A++(O2++B')->BY w' q.1 q.2:=by
    intro g;simp at g;have hmem:q∈O'->q∈M.ow m:=fun g=>by
     rcases h6 with⟨-,b0,-,ho⟩|⟨-,-,-,ho⟩;all_goals grind
    grind
   rcases h6 with⟨hbx,b0,hs,ho⟩|⟨hbx,-,-,ho⟩;grind;grind
  rw[hom m e]at hq;exact hfree _ _ (h.live m q hq) ⟨m,C2 hq⟩
 intro i hi;exact(h.slots i hi).sI hkeep
 ·cases hpd with
  |same hne=>
   refine h.pend.mono fun n' p' d' r' e' b' o' hpd hr' hp'=>?_
   have hnn:n'≠n:=fun e=>hne p' d' (by grind);have e'':(n'==n)=false:=by grind
   exact⟨r',by simpa[AE.sF,e'',AE.sI]using hr',(hplace n' p' r' _ _ hr' hp' (fun g=>absurd g hnn)).1⟩
  |new d v e hpn ht=>
   refine⟨⟨r.bx,r.t,Fc r.t r.x p t y'⟩,e,by simp[AE.sF],?_⟩;rw[<-ht];exact(hplace n p r t _ hr hl (fun _ rest he=>.inl (by simpa using he))).1
 rintro c ⟨m,hm⟩;rcases hOwned c ⟨m,hm⟩with g|g;exact h.mine c g;rcases hO2σ c g with g|g;exact h.mine c g;exact .inr (B4 h.size g)
theorem Ty.sW:(t:Ty)->t.sh.cells=t.cells
 |.int _|.bool|.str|.unit|.list _ _|.nl _=>rfl
 |.pair a b=>by simp only[Ty.sh,Ty.cells,Ty.sW a,Ty.sW b]
 |.arr n t=>by simp only[Ty.sh,Ty.cells,Ty.sW t]
theorem qC(h:A=A')(g:List A=List A')(l:List A):cast g l=l.map (cast h):=by
 subst h;show l=l.map (fun x=>x)
 simp
theorem Zh{B B':Type}(g:A=A')(f:B=B')(h:(A×B)=(A'×B'))(x:A×B):cast h x=(cast g x.1,cast f x.2):=by
 grind
theorem gT(h:A=A')(g:List A=List A'):cast g ([]:List A)=([]:List A'):=by
 grind
theorem Ty.wX(o:Bool)(t:Ty)(l:List t.sJ):Ty.wC (.list o t) l=l.map t.wC:=qC _ _ l
theorem Ty.xW(n:Nat)(t:Ty)(l:List t.sJ):Ty.wC (.arr n t) l=l.map t.wC:=qC _ _ l
theorem Ty.xS(a b:Ty)(x:a.sJ×b.sJ):Ty.wC (.pair a b) x=(a.wC x.1,b.wC x.2):=Zh _ _ _ x
theorem Sf{α β:Type}{f:Nat->Option (α×CK×List Nat)}{f':Nat->Option (β×CK×List Nat)}{c:α->β}:
  ∀(n i:Nat){xs os k},Ak f n i=some (xs,os,k)->(∀j x o r,i<=j->j<i+n->f j=some (x,o,r)->∃l,f' j=some (c x,[],l)/\∀b∈l,b∈o.map (·.1)\/b∈r)->
   ∃g,Ak f' n i=some (xs.map c,[],g)/\∀b∈g,b∈os.map (·.1)\/b∈k
 |0,i,xs,os,k,h,_=>by
  simp[Ak]at h;obtain⟨rfl,rfl,rfl⟩:=h;exact⟨[],rfl,by simp⟩
 |n+1,i,xs,os,k,h,e=>by
  simp[Ak]at h;split at h;grind;rename_i x o r a;split at h;grind;rename_i q m g d;simp at h;obtain⟨rfl,rfl,rfl⟩:=h;obtain⟨z,u,v⟩:=e i x o r (C0 _) (by omega) a;obtain⟨p,w,y⟩:=Sf n (i+1) d (fun j x o r t d=>e j x o r (by omega) (by omega));grind[Ak]
theorem b4W{β:Type}{o:Bool}{f':(Nat->Option Value)->Option (β×CK×List Nat)}{c:α->β}{v x O R}(h:Cn m o sz f v=some (x,O,R))(e:∀rd x o r,f rd=some (x,o,r)->∃k,f' rd=some (c x,[],k)/\∀b∈k,b∈o.map (·.1)\/b∈r):
  ∃g,Cn m false sz f' v=some (x.map c,[],g)/\∀b∈g,b∈O.map (·.1)\/b∈R:=by
 unfold Cn at h|-;split at h;simp_all;rename_i a n p;split at h;rename_i u;split at h;grind;rename_i z w y d;obtain⟨l,q,t⟩:=Sf (f':=fun i=>f' fun j=>m a.block (a.off+(i*sz+j))) (c:=c) n 0 d (fun j x o r _ _ h=>e _ x o r h);grind;simp_all;simp_all
theorem MN{m:DJ}:∀(t:Ty){rd:Nat->Option Value}{x O R},AO m t rd=some (x,O,R)->∃f,AO m t.sh rd=some (t.wC x,[],f)/\∀c∈f,c∈O.map (·.1)\/c∈R
 |.int k,rd,x,O,R,h=>by
  refine⟨R,?_,fun c g=>.inr g⟩
  have:O=[]:=by
   grind[AO]
  subst this;exact h
 |.bool,rd,x,O,R,h=>by
  refine⟨R,?_,fun c g=>.inr g⟩
  have:O=[]:=by
   grind[AO]
  subst this;exact h
 |.str,rd,x,O,R,h=>by
  refine⟨R,?_,fun c g=>.inr g⟩
  have:O=[]:=by
   grind[AO]
  subst this;exact h
 |.unit,rd,x,O,R,h=>by
  simp[AO]at h;cases h;exact⟨[],rfl,by simp⟩
 |.pair a b,rd,x,O,R,h=>by
  obtain⟨E,A,C,F,B,D,e,d,rfl,rfl,rfl⟩:=CP h;obtain⟨p,u,v⟩:=MN a e;obtain⟨q,l,w⟩:=MN b d;refine⟨p++q,?_,fun c g=>?_⟩;rw[Ty.xS];rw[<-Ty.sW a]at l;exact La u l;simp only[pA,mA]at g|-;rcases g with g|g;exact(v c g).imp .inl .inl;exact(w c g).imp .inr .inr
 |.arr n t,rd,x,O,R,h=>by
  have h:Ak (fun i=>AO m t fun j=>rd (i*t.cells+j)) n 0=some (x,O,R):=h;obtain⟨f,e,d⟩:=Sf (f':=fun i=>AO m t.sh fun j=>rd (i*t.cells+j)) (c:=t.wC) n 0 h (fun j x o r _ _ h=>MN t h);refine⟨f,?_,d⟩;refine Eq.trans ?_ (congrArg (fun z:List t.sh.sJ=>some (z,([]:CK),f)) (Ty.xW n t x).symm);show Ak (fun i=>AO m t.sh fun j=>rd (i*t.sh.cells+j)) n 0=_;simp_all[Ty.sW]
 |.list o t,rd,x,O,R,h=>by
  have h:Cn m o t.cells (AO m t) (rd 0)=some (x,O,R):=h;obtain⟨f,e,d⟩:=b4W (f':=AO m t.sh) (c:=t.wC) h (fun rd x o r h=>MN t h);refine⟨f,?_,d⟩;refine Eq.trans ?_ (congrArg (fun z:List t.sh.sJ=>some (z,([]:CK),f)) (Ty.wX o t x).symm);show Cn m false t.sh.cells (AO m t.sh) (rd 0)=_;simp_all[Ty.sW]

 |.nl t,rd,x,O,R,h=>by
  obtain⟨y,rfl,rfl,rfl⟩:=gQ h;refine⟨[],?_,by simp⟩;refine Eq.trans ?_ (congrArg (fun z:List t.sh.sJ=>some (z,([]:CK),([]:List Nat))) (gT (Ty.uB t).symm _).symm);show Cn m false t.sh.cells (AO m t.sh) (rd 0)=_;rw[y];rfl
theorem Ty.uC:(t:Ty)->t.tL.cells=t.cells
 |.int _|.bool|.str|.unit|.list _ _|.nl _=>rfl
 |.pair a b=>by simp only[Ty.tL,Ty.cells,Ty.uC a,Ty.uC b]
 |.arr n t=>by simp only[Ty.tL,Ty.cells,Ty.sW t]
theorem Xz{m:DJ}:∀(t:Ty){rd:Nat->Option Value}{x O R},AO m t rd=some (x,O,R)->∃e,AO m t.tL rd=some (t.vI x,[],e)/\∀c∈e,c∈O.map (·.1)\/c∈R
 |.int k,rd,x,O,R,h=>MN (.int k) h
 |.bool,rd,x,O,R,h=>MN .bool h
 |.str,rd,x,O,R,h=>MN .str h
 |.unit,rd,x,O,R,h=>MN .unit h
 |.arr n t,rd,x,O,R,h=>MN (.arr n t) h
 |.list o t,rd,x,O,R,h=>MN (.list o t) h
 |.nl t,rd,x,O,R,h=>by
  obtain⟨w,rfl,rfl,rfl⟩:=gQ h;refine⟨[],?_,by simp⟩;refine Eq.trans ?_ (congrArg (fun z:List t.sh.sJ=>some (z,([]:CK),([]:List Nat))) (gT (Ty.uB t).symm _).symm);show(match rd 0 with|some (.slice none 0 0)=>some (([]:List t.sh.sJ),([]:CK),([]:List Nat))|_=>none)=_;simp_all
 |.pair a b,rd,x,O,R,h=>by
  obtain⟨f,y,B,d,A,C,p,q,rfl,rfl,rfl⟩:=CP h;obtain⟨j,r,u⟩:=Xz a p;obtain⟨l,i,v⟩:=Xz b q;refine⟨j++l,?_,fun c g=>?_⟩;rw[show(Ty.pair a b).vI (f,d)=(a.vI f,b.vI d)from Zh _ _ _ (f,d)];rw[<-Ty.uC a]at i;exact La r i;simp only[pA,mA]at g|-;rcases g with g|g;exact(u c g).imp .inl .inl;exact(v c g).imp .inr .inr
theorem Ty.vH:∀(a b:Ty),a.le b=true->a.cells=b.cells
 |.nl a,.list o b,_=>rfl
 |.pair a b,.pair g f,h=>by
  simp[Ty.le]at h;simp only[Ty.cells,Ty.vH a g h.1,Ty.vH b f h.2]
 |.nl a,.nl b,_=>rfl
 |.nl a,.int _,h|.nl a,.bool,h|.nl a,.str,h|.nl a,.unit,h|.nl a,.pair _ _,h|.nl a,.arr _ _,h=>by simp[Ty.le]at h
 |.pair a b,.int _,h|.pair a b,.bool,h|.pair a b,.str,h|.pair a b,.unit,h|.pair a b,.arr _ _,h|.pair a b,.list _ _,h|.pair a b,.nl _,h=>by simp[Ty.le]at h
 |.int _,b,h|.bool,b,h|.str,b,h|.unit,b,h|.list _ _,b,h|.arr _ _,b,h=>by
  simp only[Ty.le,dT]at h;rw[h]
theorem a5Q{m:DJ}:∀(a b:Ty)(h:a.le b=true){rd:Nat->Option Value}{x R},AO m a rd=some (x,[],R)->AO m b rd=some (cast (Ty.vU a b h) x,[],R)
 |.nl a,.list o b,h,rd,x,R,g=>by
  obtain⟨t,rfl,-,rfl⟩:=gQ g;have e:a.sJ=b.sJ:=by
   simp[Ty.le]at h;grind[Ty.uB]
  refine Eq.trans ?_ (congrArg (fun z:List b.sJ=>some (z,([]:CK),([]:List Nat))) (gT e _).symm);grind[Cn,AO]
 |.pair a b,.pair k c,h,rd,x,R,g=>by
  have f:=h;simp[Ty.le]at f;obtain⟨q,u,n,r,v,p,j,l,rfl,e,rfl⟩:=CP g;obtain⟨rfl,rfl⟩:=C7.1 e.symm;have i:=a5Q a k f.1 j;have d:=a5Q b c f.2 l;rw[Ty.vH a k f.1]at d;exact(La i d).trans (congrArg (fun z:k.sJ×c.sJ=>some (z,([]:CK),n++p)) (Zh (Ty.vU a k f.1) (Ty.vU b c f.2) _ (q,r)).symm)
 |.nl a,.nl b,h,rd,x,R,g=>by
  simp only[Ty.le,dT]at h;grind
 |.nl a,.int _,h,_,_,_,_|.nl a,.bool,h,_,_,_,_|.nl a,.str,h,_,_,_,_|.nl a,.unit,h,_,_,_,_|.nl a,.pair _ _,h,_,_,_,_|.nl a,.arr _ _,h,_,_,_,_=>by simp[Ty.le]at h
 |.pair a b,.int _,h,_,_,_,_|.pair a b,.bool,h,_,_,_,_|.pair a b,.str,h,_,_,_,_|.pair a b,.unit,h,_,_,_,_|.pair a b,.arr _ _,h,_,_,_,_|.pair a b,.list _ _,h,_,_,_,_|.pair a b,.nl _,h,_,_,_,_=>by simp[Ty.le]at h
 |.int _,b,h,rd,x,R,g|.bool,b,h,rd,x,R,g|.str,b,h,rd,x,R,g|.unit,b,h,rd,x,R,g|.list _ _,b,h,rd,x,R,g|.arr _ _,b,h,rd,x,R,g=>by
  simp only[Ty.le,dT]at h;cases h;exact g
theorem a8i{a:Option Addr}{l off f:Nat}{x:List e.sJ}{O R}(h:AO m (.list true e) ((Src.one (.slice a l c)).rd m)=some (x,O,R))(F:off+f<=l){d:Option Addr}(y:∀A,d=some A->c=off\/A.spot=none)(v:c=off\/d=a.map fun A=>A.add (off*e.cells)):
  ∃t,AO m (.list false e.sh) ((Src.one (.slice d f (c-off))).rd m)=some (Ty.wC (.list false e) ((x.drop off).take f),[],t)/\∀b∈t,b∈O.map (·.1)\/b∈R:=by
 rw[Ty.wX];rcases Cr h with⟨w,rfl,rfl,rfl⟩|⟨A,n,X,os,w,E,hn,z,ho⟩
 ·simp[Src.rd]at w;obtain⟨rfl,rfl,rfl⟩:=w;obtain rfl:off=0:=by omega
  obtain rfl:f=0:=by omega
  refine⟨[],?_,by simp⟩;show Cn m false e.sh.cells (AO m e.sh) (some (.slice d 0 0))=_;cases d with
  |none=>rfl
  |some A=>rfl
 ·simp[Src.rd]at w;obtain⟨rfl,rfl,rfl⟩:=w;have N:=Bd l 0 z;by_cases hl0:f=0
  ·subst hl0;refine⟨[],?_,by simp⟩;show Cn m false e.sh.cells (AO m e.sh) (some (.slice d 0 (c-off)))=_;cases d with
   |none=>
    rcases v with g|g;simp[Cn,g];rfl;simp_all
   |some A'=>
    have M:c-off=0\/A'.spot=none:=(y A' rfl).imp (fun h=>by omega) id;simp[Cn,M,Ak];rfl
  ·have E:A.spot=none:=E.resolve_left (by omega);have q:d=some (A.add (off*e.cells)):=by
    grind
   have u:(A.add (off*e.cells)).block=A.block/\(A.add (off*e.cells)).off=A.off+off*e.cells/\(A.add (off*e.cells)).spot=none:=by
    grind[Addr.add]
   have H:l=off+(f+(l-off-f)):=by omega
   rw[H]at z;obtain⟨Q,B,S,V,Y,I,rfl,rfl⟩:=Fm off (f+(l-off-f)) 0 z;obtain⟨T,C,U,D,K,Z,rfl,rfl⟩:=Fm f (l-off-f) (0+off) I;obtain⟨t,L,h6⟩:=Sf (f':=fun i=>AO m e.sh ((Src.at A.block (A.off+i*e.cells)).rd m)) (c:=e.wC) f (0+off) K (fun j x o r _ _ h=>MN e h);have p:∀(k i:Nat),Ak (fun i=>AO m e.sh fun j=>m A.block (A.off+off*e.cells+(i*e.cells+j))) k i=Ak (fun i=>AO m e.sh ((Src.at A.block (A.off+i*e.cells)).rd m)) k (off+i):=by
    intro k
    induction k with
    |zero=>intro i;rfl
    |succ k P=>
     intro i;simp[Ak];rw[P (i+1)]
     have:(fun j=>m A.block (A.off+off*e.cells+(i*e.cells+j)))=(Src.at A.block (A.off+(off+i)*e.cells)).rd m:=by
      grind[Src.rd]
     grind
   have G:∀b,b∈t->b∈O.map (·.1)\/b∈B++(C++D):=fun b hb=>by
    grind
   refine⟨A.block::t,?_,fun b hb=>?_⟩;show Cn m false e.sh.cells (AO m e.sh) (some (.slice d f (c-off)))=_;subst q;simp only[Cn,u,Ty.sW];rw[if_pos ⟨.inr trivial,by omega⟩,p,show off+0=0+off from by omega,L];simp[hl0];rfl;grind
theorem sK.gone{B U N tm w M}(h:sK B U N tm w M)(F:∀p d,U.pd≠some (n,p,d)){f:AV->AV}(Q:∀a v,AA (Ad w M.ov) M.g U.rt (Be B w M) a v->AA (Ad w M.ov) M.g (fun j=>bif j==n then none else U.rt j)
   (Be B w ⟨M.g,fun m=>if m=n then[]else M.ow m,M.ov⟩) (f a) v):
  sK B ((U.sI f).sF n none) N tm w ⟨M.g,fun m=>if m=n then[]else M.ow m,M.ov⟩:=by
 have k:∀m c,c∈(if m=n then[]else M.ow m).map (·.1)->c∈(M.ow m).map (·.1):=fun m c q=>by
  simp_all
 have G:∀c,Be B w M c->Be B w ⟨M.g,fun m=>if m=n then[]else M.ow m,M.ov⟩ c:=fun c ⟨x,y,H⟩=>
  ⟨x,y,fun⟨m,o⟩=>H ⟨m,k m c o⟩⟩
 refine⟨fun m r X=>?_,fun m o=>?_,fun m=>?_,fun m K C c q=>?_,fun m p t=>?_,fun i S=>(h.slots i S).sI Q,?_,h.size,h.frame,fun c ⟨m,o⟩=>h.mine c ⟨m,k m c o⟩,fun i b hb D=>h.pins i b hb fun e=>D (by simp_all[AE.sF,AE.sI]),h.still⟩;have o:m≠n:=by rintro rfl;simp[AE.sF]at X
 have A:(m==n)=false:=by simp_all
 have l:U.rt m=some r:=by simp_all[AE.sF,AE.sI]
 obtain⟨O,R,x,y,H⟩:=(h.roots m r l).rd;refine⟨O,R,x,fun c q=>G c (y c q),?_⟩;simp_all;show(if m=n then[]else M.ow m)=[]
 split;rfl;rename_i T;have A:(m==n)=false:=by simp_all
 exact h.norm m (by simp_all[AE.sF,AE.sI]);show((if m=n then[]else M.ow m).map (·.1)).Nodup
 split
 simp
 exact h.nodup m;exact fun z=>h.sU m K C c (k m c q) (k K c z);have t:p∈(if m=n then[]else M.ow m):=t
 split at t;simp_all;exact h.live m p t;refine h.pend.mono fun L Y P Z e' b' o' I l E=>?_
 have V:L≠n:=fun e=>F Y P (by simp_all);have u:(L==n)=false:=by simp_all
 exact⟨Z,by simpa[AE.sF,u,AE.sI]using l,E⟩
theorem AA.other{rt:Nat->Option sO}{a:AV}(h:AA m g rt Sh a v)(b:∀c,Sh c->Sh' c)(f:∀k,k≠n->rt' k=rt k)(j:∀k,k≠n->g' k=g k)(e:∀k q,(a=.ptr k q\/a=.sref k q\/∃o l,a=.swin k q o l)->k≠n):AA m g' rt' Sh' a v:=
 h.frame (fun _ _ _=>rfl) b fun k q r t s i u p=>⟨r,by grind,by grind,fun _ _ d=>d⟩
theorem sK.tQ{B w}{M:Gh}{n:Nat}(c:Nat)(h:Be B w M c):Be B w ⟨M.g,fun m=>if m=n then[]else M.ow m,M.ov⟩ c:=
 ⟨h.1,h.2.1,fun⟨m,f⟩=>h.2.2 ⟨m,by
  simp_all⟩⟩
theorem qD{U:AE}{n k:Nat}(h:k≠n)(x:Option sO):(bif k==n then x else U.rt k)=U.rt k:=by
 grind
theorem sK.drop{B U N tm w M}(h:sK B U N tm w M){n:Nat}(b:∀p d,U.pd≠some (n,p,d)):
  sK B ((U.sI (AV.drop n)).sF n none) N tm w ⟨M.g,fun m=>if m=n then[]else M.ow m,M.ov⟩:=by
 refine h.gone b fun a v e=>?_
 by_cases hd:AV.drop n a=.dead;rw[hd];trivial
 ·have f:AV.drop n a=a/\∀k q,(a=.ptr k q\/a=.sref k q\/∃o l,a=.swin k q o l)->k≠n:=by
   cases a<;>simp only[AV.drop]at hd|-<;>try (refine⟨trivial,?_⟩;rintro k q (h|h|⟨o,l,h⟩)<;>cases h)
   all_goals simp_all
  rw[f.1];exact e.other (fun c i=>sK.tQ c i) (fun k f=>qD f _) (fun _ _=>rfl) f.2
theorem sK.xP{B U N tm w M}(h:sK B U N tm w M)(hr:U.rt n=some r)(h0:r.bx=true)(Y:U.pd=none):
  ∃b,M.g n=.at b 0/\sK B ((U.sI (AV.sP [n] [])).sF n (some ⟨true,r.t.tL,Ty.vI r.t r.x⟩)) N tm w ⟨M.g,fun m=>if m=n then[(b,r.t.cells)]else M.ow m,M.ov⟩:=by
 obtain⟨O',R,h1,h2,h6⟩:=(h.roots n r hr).rd;rcases h6 with⟨-,b,hg,ho⟩|⟨g,-⟩
 ·refine⟨b,hg,?_⟩;have z:∀m c,c∈(if m=n then[(b,r.t.cells)]else M.ow m).map (·.1)->c∈(M.ow m).map (·.1):=fun m c G=>by
   grind
  have Q:∀c,Be B w M c->Be B w ⟨M.g,fun m=>if m=n then[(b,r.t.cells)]else M.ow m,M.ov⟩ c:=fun c ⟨S,T,g3⟩=>
   ⟨S,T,fun⟨m,u⟩=>g3 ⟨m,z m c u⟩⟩
  have P:∀k,k≠n->((U.sI (AV.sP [n] [])).sF n (some ⟨true,r.t.tL,Ty.vI r.t r.x⟩)).rt k=U.rt k:=fun k I=>qD I _;have O:((U.sI (AV.sP [n] [])).sF n (some ⟨true,r.t.tL,Ty.vI r.t r.x⟩)).rt n=some ⟨true,r.t.tL,Ty.vI r.t r.x⟩:=by simp[AE.sF]
  obtain⟨R2,k1,k2⟩:=Xz _ h1;refine⟨fun m r' C=>?_,fun m u=>?_,fun m=>?_,fun m H V c G=>?_,fun m p K=>?_,fun i hi=>(h.slots i hi).sI fun a v A=>?_,?_,h.size,h.frame,fun c ⟨m,u⟩=>h.mine c ⟨m,z m c u⟩,fun i D hb h4=>h.pins i D hb fun e=>?_,h.still⟩;by_cases u:m=n;subst u;rw[O]at C;simp at C;subst C;refine⟨[],R2,k1,fun c G=>?_,.inl ⟨rfl,b,hg,by simp[Ty.uC]⟩⟩;rcases k2 c G with g|g;have E:c∈(M.ow m).map (·.1):=by simp_all
  have F:BD M c:=⟨m,E⟩;refine⟨h.lt F,.inr (h.mine c F),fun⟨H,d⟩=>?_⟩;have d:c∈(if H=m then[(b,r.t.cells)]else M.ow H).map (·.1):=d
  split at d;simp at d;have h3:=h.nodup m;simp_all;rename_i X;exact h.sU H m X c d E;simp_all;rw[P m u]at C;obtain⟨O2,R3,S,T,g3⟩:=(h.roots m r' C).rd;refine⟨O2,R3,S,fun c G=>Q c (T c G),?_⟩;simp_all;show(if m=n then[(b,r.t.cells)]else M.ow m)=[]
  have d:m≠n:=by grind
  rw[if_neg d];rw[P m d]at u;exact h.norm m u;show((if m=n then[(b,r.t.cells)]else M.ow m).map (·.1)).Nodup
  split
  simp
  exact h.nodup m;exact fun E=>h.sU m H V c (z m c G) (z H c E);have L:p∈(if m=n then[(b,r.t.cells)]else M.ow m):=K
  split at L;rename_i e;subst e;refine h.live m p ?_
  simp_all;exact h.live m p L
  ·have f:∀D,(∀k q,(D=.ptr k q\/D=.sref k q\/∃o l,D=.swin k q o l)->k≠n)->AA (Ad w M.ov) M.g U.rt (Be B w M) D v->
     AA (Ad w M.ov) M.g (fun j=>bif j==n then some ⟨true,r.t.tL,Ty.vI r.t r.x⟩else U.rt j) (Be B w ⟨M.g,fun m=>if m=n then[(b,r.t.cells)]else M.ow m,M.ov⟩) D v:=fun D I hb=>
    hb.other Q (fun k I=>qD I _) (fun _ _=>rfl) I
   have Cd:∀m:Nat,[n].contains m=(m==n):=fun m=>by grind
   cases a with
   |dead=>trivial
   |val t x=>exact f _ (by rintro k q (h|h|⟨o,l,h⟩)<;>cases h) A
   |skp=>exact A
   |nils=>exact A
   |empt=>exact A
   |nilp=>exact A
   |tY g=>exact A
   |vptr t x=>exact f (.vptr t x) (by simp) A
   |ptr m q=>
    simp only[AV.sP,Cd];split
    ·rename_i u;have u:m=n:=by simp_all
     subst u;cases q with
     |nil=>
      obtain⟨r',t',D,o',Z,p2,p3⟩:=A;rw[hr]at Z;simp at Z;subst Z;simp[Cj]at p2;obtain⟨-,p2⟩:=p2;exact⟨⟨true,r.t.tL,Ty.vI r.t r.x⟩,r.t.tL,D,o',O,by show some (r.t.tL,M.g m)=_;grind,p3⟩
     |cons=>trivial
    rename_i u;exact f _ (by simp_all) A
   |sref m q=>
    simp only[AV.sP,Cd];split;cases q<;>exact True.intro;rename_i u;exact f _ (by simp_all) A
   |swin m q o l=>
    simp only[AV.sP,Cd];split;trivial;rename_i u;exact f _ (by simp_all) A
  ·have K:=h.pend;show QR _ _ _ U.pd M.ov;rw[Y]at K|-;cases hov:M.ov with
   |none=>trivial
   |some y=>rw[hov]at K;exact K.elim
  grind
 simp_all
theorem sK.xI{B U N tm w M}(h:sK B U N tm w M){n:Nat}{e:Ty}{l:List e.sJ}(V:U.rt n=some ⟨false,.list true e,l⟩)(T:∀p d,U.pd≠some (n,p,d)):
  sK B ((U.sI (AV.xI n e l)).sF n none) N tm w ⟨M.g,fun m=>if m=n then[]else M.ow m,M.ov⟩:=by
 obtain⟨Z,R,F,h2,h3,X,h5,h6⟩:=h.sep V;rcases h6 with⟨g,-⟩|⟨-,⟨Y,H⟩,-,ho⟩;grind;refine h.gone T fun a v i=>?_
 have z:∀c,c∈Z.map (·.1)\/c∈R->Be B w ⟨M.g,fun m=>if m=n then[]else M.ow m,M.ov⟩ c:=by
  rintro c (u|u);have y:BD M c:=⟨n,X c u⟩;refine⟨h.lt y,.inr (h.mine c y),fun⟨m,G⟩=>?_⟩;have G:c∈(if m=n then[]else M.ow m).map (·.1):=G
  split at G;simp_all;rename_i S;exact h.sU m n S c G (X c u);simp_all[sK.tQ]
 have f:∀b,(∀k q,(b=.ptr k q\/b=.sref k q\/∃o l,b=.swin k q o l)->k≠n)->AA (Ad w M.ov) M.g U.rt (Be B w M) b v->
   AA (Ad w M.ov) M.g (fun j=>bif j==n then none else U.rt j) (Be B w ⟨M.g,fun m=>if m=n then[]else M.ow m,M.ov⟩) b v:=fun b Q hb=>
  hb.other (fun c u=>sK.tQ c u) (fun k Q=>qD Q _) (fun _ _=>rfl) Q
 cases a with
 |dead=>trivial
 |val t x=>exact f _ (by rintro k q (h|h|⟨o,l,h⟩)<;>cases h) i
 |skp=>exact i
 |nils=>exact i
 |empt=>exact i
 |nilp=>exact i
 |tY g=>exact i
 |vptr t x=>exact f (.vptr t x) (by simp) i
 |ptr m q=>
  simp only[AV.xI];split;trivial;simp_all
 |sref m q=>
  simp only[AV.xI];split
  ·rename_i G;obtain rfl:m=n:=by simp_all
   cases q with
   |cons=>trivial
   |nil=>
    obtain⟨r,e',s,D,I,E⟩:=i;rw[V]at D;simp at D;subst D;simp only[loc,Cj,sj,pJ]at I;obtain⟨-,rfl⟩:=I;rw[H]at F E;simp[Src.rd]at E;subst E;obtain⟨K,L,O⟩:=MN _ F;refine⟨by simp[Ty.isAgg],fun _=>?_,K,?_,fun c u=>z c (O c u)⟩;rcases Cr F with⟨C,-⟩|⟨A,nn,c',os,C,-⟩<;>simp only[Src.rd,if_true,sj]at C<;>rw[C]<;>rfl
    have:Cd Y=true:=by
     rcases Cr F with⟨C,-⟩|⟨A,nn,c',os,C,-⟩<;>simp only[Src.rd,if_true,sj]at C<;>rw[C]<;>rfl
    refine AF _ L (fun j hj=>?_) (fun _ _ _=>rfl);have P:j=0:=by simp_all[Ty.cells]
    subst P;cases Y<;>simp[Cd]at this<;>simp[Value.cells,Src.rd]
  simp_all
 |swin m q o k=>
  simp only[AV.xI];split
  ·rename_i G;obtain rfl:m=n:=by simp_all
   cases q with
   |cons=>trivial
   |nil=>
    obtain⟨r,e',s,a,l',c,D,I,E,k4,a',k5,k6,k7⟩:=i;rw[V]at D;simp at D;subst D;simp[Cj]at I;obtain⟨rfl,rfl⟩:=I;rw[H]at F E;simp[Src.rd]at E;subst E k5;obtain⟨K,L,O⟩:=a8i F k4 k6 k7;refine⟨by simp[Ty.isAgg],fun _=>rfl,K,?_,fun c u=>z c (O c u)⟩;refine AF _ L (fun j hj=>?_) (fun _ _ _=>rfl);simp_all[Ty.cells,Value.cells,Src.rd]
  simp_all
theorem sK.room{B U N tm w M}(h:sK B U N tm w M){n r p t b o}(l:U.rt n=some r)(j:loc (Ad w M.ov) r.t (M.g n) p=some (t,.at b o)):BY w b (o+t.cells):=by
 obtain⟨m,R,e,u,x,y,z,i⟩:=h.sep l;rcases Ri p r.t _ e j with⟨C,f,a,q⟩|⟨k,f,a⟩;rcases i with⟨-,d,c,A⟩|⟨-,⟨v,c⟩,-⟩;rw[c]at f;simp at f;obtain⟨rfl,rfl⟩:=f;exact(h.live n (d,r.t.cells) (by simp_all)).mono (by omega);simp_all;refine(h.live n (b,k) ?_).mono a;grind
theorem BY.cell{o:Nat}(h:BY w b k)(i:o<k):(w.cell? ⟨b,o,none⟩).isSome=true/\w.frozen? ⟨b,o,none⟩=false:=by
 obtain⟨c,e,lo,d,g,f,a⟩:=h;grind[World.cell?,World.frozen?]
theorem LJ(w:World)(a:Addr)(v:Value)(b:Nat):(w.setCell a v).heap[b]?=if b=a.block then(w.heap[b]?).map (fun
   |.cells c elem frozen=>.cells (if a.spot.isSome then c else c.setIfInBounds a.off v) elem frozen
   |o=>o)else w.heap[b]?:=by
 simp[World.setCell,Array.getElem?_modify];grind
theorem BY.setCell(h:BY w b k)(a:Addr)(v:Value):BY (w.setCell a v) b k:=by
 obtain⟨c,e,lo,i,g,f,d⟩:=h;unfold BY;rw[LJ];grind
theorem sK.rename{B U N tm w M}(h:sK B U N tm w M){r:Nat}{f:sO}(P:U.rt r=some f)(hd:U.rt d=none)(V:∀i b,d=pinned+i->B.pin i≠some b)(h7:∀p k,U.pd≠some (r,p,k)):
  sK B (((U.sI (AV.ren r d)).sF r none).sF d (some f)) N tm w ⟨fun m=>if m=d then M.g r else M.g m,fun m=>if m=d then M.ow r else if m=r then[]else M.ow m,M.ov⟩:=by
 have h9:r≠d:=by grind
 have h5:M.ow d=[]:=h.norm d hd
 let j:Nat->CK:=fun m=>if m=d then M.ow r else if m=r then[]else M.ow m
 have O:∀c,BD ⟨fun m=>if m=d then M.g r else M.g m,j,M.ov⟩ c↔BD M c:=by
  intro c;constructor;rintro⟨m,y⟩;have y:c∈(j m).map (·.1):=y;simp only[j]at y;split at y;exact⟨r,y⟩;split at y;simp_all;exact⟨m,y⟩;rintro⟨m,y⟩;by_cases e:m=r;subst e;exact⟨d,by grind⟩;by_cases e':m=d;simp_all;refine⟨m,?_⟩;grind
 have H:∀c,Be B w M c↔Be B w ⟨fun m=>if m=d then M.g r else M.g m,j,M.ov⟩ c:=fun c=>by unfold Be;grind
 have G:∀m,(((U.sI (AV.ren r d)).sF r none).sF d (some f)).rt m=if m=d then some f else if m=r then none else U.rt m:=by
  intro m;simp only[AE.sF,AE.sI];grind
 refine⟨fun m rm y=>?_,fun m y=>?_,fun m=>?_,fun m X L c z u=>?_,fun m p F=>?_,fun i hi=>?_,?_,h.size,h.frame,fun c z=>h.mine c ((O c).1 z),fun i b hb C=>?_,h.still⟩;rw[G]at y;by_cases e:m=d;subst e;simp at y;subst y;obtain⟨Q,R,g1,T,g3⟩:=(h.roots r f P).rd;exact⟨Q,R,by simp_all,fun c z=>(H c).1 (T c z),by simp_all⟩;rw[if_neg e]at y;by_cases e':m=r;simp_all;rw[if_neg e']at y;obtain⟨Q,R,g1,T,g3⟩:=(h.roots m rm y).rd;exact⟨Q,R,by simp_all,fun c z=>(H c).1 (T c z),by simp_all⟩;show(if m=d then M.ow r else if m=r then[]else M.ow m)=[]
 rw[G]at y;by_cases e:m=d;simp_all;rw[if_neg e]at y|-;by_cases e':m=r;grind;rw[if_neg e']at y|-;exact h.norm m y;show((j m).map (·.1)).Nodup;simp[j];split;exact h.nodup r;split
 simp
 exact h.nodup m;have z:c∈(j m).map (·.1):=z;have u:c∈(j X).map (·.1):=u;simp only[j]at z u;by_cases e:m=d;subst e;rw[if_pos rfl]at z;rw[if_neg (Ne.symm L)]at u;split at u;simp_all;rename_i S;exact h.sU r X (Ne.symm S) c z u;rw[if_neg e]at z;split at z;simp_all;rename_i S;split at u;exact h.sU m r S c z u;split at u;simp_all;exact h.sU m X L c z u;have F:p∈j m:=F;simp[j]at F;split at F;exact h.live r p F;split at F;simp_all;exact h.live m p F
 ·refine(h.slots i hi).sI fun a v E=>?_
  have g0:∀k q (b:AV),(b=.ptr k q\/b=.sref k q\/∃o l,b=.swin k q o l)->True:=fun _ _ _ _=>trivial;have D:(∀k q,(a=.ptr k q\/a=.sref k q\/∃o l,a=.swin k q o l)->k≠r)->AA (Ad w M.ov) (fun m=>if m=d then M.g r else M.g m) (((U.sI (AV.ren r d)).sF r none).sF d (some f)).rt
    (Be B w ⟨fun m=>if m=d then M.g r else M.g m,j,M.ov⟩) a v:=fun C=>
   E.frame (fun _ _ _=>rfl) (fun c z=>(H c).1 z) fun k q Y t s z hk hl=>by
    grind
  cases a with
  |ptr k q=>
   simp only[AV.ren];split;rename_i e;obtain rfl:k=r:=by simp_all
   obtain⟨Y,t,b,o,A,Z,I⟩:=E;rw[P]at A;simp at A;subst A;exact⟨f,t,b,o,by simp_all,by simp_all,I⟩;grind
  |sref k q=>
   simp only[AV.ren];split;rename_i e;obtain rfl:k=r:=by simp_all
   obtain⟨Y,e,s,A,Z,I⟩:=E;rw[P]at A;simp at A;subst A;exact⟨f,e,s,by simp_all,by simp_all,I⟩;grind
  |swin k q o l=>
   simp only[AV.ren];split;rename_i e;obtain rfl:k=r:=by simp_all
   obtain⟨Y,e,s,a,l',c,A,Z,I,h4⟩:=E;rw[P]at A;simp at A;subst A;exact⟨f,e,s,a,l',c,by simp_all,by simp_all,I,h4⟩;grind
  |dead=>trivial
  |skp=>exact E
  |nils=>exact E
  |empt=>exact E
  |nilp=>exact E
  |tY g=>exact E
  |val t x=>exact D (by simp)
  |vptr t x=>exact D (by simp)
 refine h.pend.mono fun n p k r' e b o h0 h8 h6=>?_
 grind;rw[G]at C;have K:pinned+i≠d:=fun e=>V i b e.symm hb;rw[if_neg K]at C;show(if pinned+i=d then M.g r else M.g (pinned+i))=_
 rw[if_neg K];by_cases e':pinned+i=r;simp_all;rw[if_neg e']at C;exact h.pins i b hb C
theorem sK.ext{B U N tm w M}(h:sK B U N tm w M)(g:∀c,c<w.heap.size->w'.heap[c]?=w.heap[c]?)(k:w.heap.size<=w'.heap.size)(hio:FT w'=FT w:=by first|rfl|assumption):sK B U N tm w' M:=by
 refine h.mem (fun c j f=>BF _ (g c ?_) j) (fun n p m=>?_) k (fun b hb i=>?_);rcases f with f|f;exact h.lt f;exact f.1;obtain⟨c,e,lo,l,o,a,d⟩:=h.live n p m;exact⟨c,e,lo,l,by grind,a,d⟩;rw[g b (B3 hb h.size)];exact h.frame b hb i
theorem sK.add{B U N tm w M}(h:sK B U N tm w M){n:Nat}(hn:U.rt n=none)(h8:n<pinned){w':World}(f:∀c,c<w.heap.size->w'.heap[c]?=w.heap[c]?)(T:w.heap.size<=w'.heap.size)
  {r:sO}{s:Src}{O:CK}(Z:∀c∈O.map (·.1),w.heap.size<=c)(h7:(O.map (·.1)).Nodup)(h6:∀p∈O,BY w' p.1 p.2)(h2:tT (Ad w' M.ov) (Be B w M) r s O)(hio:FT w'=FT w:=by first|rfl|assumption):
  sK B (U.sF n (some r)) N tm w' ⟨fun m=>if m=n then s else M.g m,fun m=>if m=n then O else M.ow m,M.ov⟩:=by
 have K:=h.ext f T
 let d:Nat->CK:=fun m=>if m=n then O else M.ow m
 have A:∀c,BD ⟨fun m=>if m=n then s else M.g m,d,M.ov⟩ c->BD M c\/c∈O.map (·.1):=by
  rintro c ⟨m,z⟩;have z:c∈(d m).map (·.1):=z;simp only[d]at z;split at z;simp_all;exact .inl ⟨m,z⟩
 have S:∀c,Be B w M c->Be B w' ⟨fun m=>if m=n then s else M.g m,d,M.ov⟩ c:=fun c ⟨H,I,g3⟩=>⟨B3 H T,I,fun g4=>by
  grind⟩
 have F:∀c j,Be B w M c->Ad w' M.ov c j=Ad w M.ov c j:=fun c j l=>BF _ (f c l.1) j;have E:∀m,(U.sF n (some r)).rt m=if m=n then some r else U.rt m:=by
  simp_all[AE.sF]
 refine⟨fun m Y z=>?_,fun m z=>?_,fun m=>?_,fun m m' P c l y=>?_,fun m p Q=>?_,fun i hi=>?_,?_,K.size,K.frame,fun c l=>?_,fun i b hb D=>?_,K.still⟩
 ·rw[E]at z;by_cases e:m=n;subst e;simp at z;subst z;obtain⟨O',R,H,I,g3⟩:=h2.rd;exact⟨O',R,by simp_all,fun c l=>S c (I c l),by simp_all⟩
  ·rw[if_neg e]at z;obtain⟨O',R,H,I,g3⟩:=(K.roots m Y z).rd;obtain⟨O1,R1,k1,k2,-⟩:=(h.roots m Y z).rd;refine⟨O',R,by simp_all,fun c l=>?_,by simp_all⟩
   have:=I c l
   refine⟨this.1,this.2.1,fun g4=>?_⟩;rcases A c g4 with g|g;exact this.2.2 g
   ·
    have k3:AO (Ad w' M.ov) Y.t ((M.g m).rd (Ad w' M.ov))=some (Y.x,O1,R1):=by
     obtain⟨O2,R2,G,l2,l3,V,X,l6⟩:=h.sep z;rw[k1]at G;simp at G;obtain⟨rfl,rfl⟩:=G;refine AF Y.t k1 (fun j _=>?_) (fun b j hb=>?_)
     ·cases es:M.g m with
      |one v=>rfl
      |_=>rename_i b o;exact BF _ (f b (h.lt ⟨m,X _ _ es⟩)) _
     rcases hb with hb|hb;exact BF _ (f b (h.lt ⟨m,V b hb⟩)) j;simp_all
    rw[k3]at H;simp at H;obtain⟨rfl,rfl⟩:=H;exact absurd (Z c g) (by have:=(k2 c l).1;omega)
 show(if m=n then O else M.ow m)=[]
 rw[E]at z;by_cases e:m=n;simp_all;rw[if_neg e]at z|-;exact h.norm m z;show((d m).map (·.1)).Nodup;simp[d];split;omega;exact h.nodup m;have l:c∈(d m).map (·.1):=l;have y:c∈(d m').map (·.1):=y;simp only[d]at l y;split at l;rename_i e;rw[if_neg (fun e'=>P (e.trans e'.symm))]at y;exact absurd (Z c l) (by have:=h.lt ⟨m',y⟩;omega);split at y;exact absurd (Z c y) (by have:=h.lt ⟨m,l⟩;omega);exact h.sU m m' P c l y;have Q:p∈d m:=Q;simp[d]at Q;split at Q;simp_all;exact K.live m p Q
 ·refine(h.slots i hi).frame fun a v ha=>ha.frame F S fun k q rk t s' _ hk hl=>?_
  have h0:k≠n:=by grind
  obtain⟨O1,R1,G,l2,l3,V,X,l6⟩:=h.sep hk;have C:∀j,(M.g k).rd (Ad w' M.ov) j=(M.g k).rd (Ad w M.ov) j:=fun j=>by
   cases es:M.g k with
   |one v=>rfl
   |_=>rename_i b o;exact BF _ (f b (h.lt ⟨k,X _ _ es⟩)) _
  refine⟨rk,by simp_all,?_,fun u _ hu=>?_⟩;show loc (Ad w' M.ov) rk.t (if k=n then s else M.g k) q=_
  rw[if_neg h0];exact CZ q rk.t _ G hl (fun j _=>C j) (fun c j l=>BF _ (f c (h.lt ⟨k,V c l⟩)) j)
  ·cases s' with
   |one v=>exact hu
   |_=>
    rename_i b o;rw[<-hu];exact BF _ (f b (h.lt ⟨k,h.place hk hl⟩)) _
 ·refine h.pend.mono fun m p k r' e b o h5 h4 h3=>?_
  have h1:m≠n:=by grind
  obtain⟨O1,R1,G,l2,l3,V,X,l6⟩:=h.sep h4;refine⟨r',by simp_all,?_⟩;show loc (Ad w' M.ov) r'.t (if m=n then s else M.g m) p=_
  rw[if_neg h1];refine CZ p r'.t _ G h3 (fun j _=>?_) (fun c j l=>BF _ (f c (h.lt ⟨m,V c l⟩)) j);cases es:M.g m with
  |one v=>rfl
  |_=>rename_i b o;exact BF _ (f b (h.lt ⟨m,X _ _ es⟩)) _
 rcases A c l with g|g;exact h.mine c g;exact .inr (B4 h.size (Z c g));rw[E]at D;have L:pinned+i≠n:=by omega
 rw[if_neg L]at D;show(if pinned+i=n then s else M.g (pinned+i))=_
 rw[if_neg L];exact h.pins i b hb D
theorem sK.done{B U N tm w M}(h:sK B U N tm w M){n p d b o v}(G:U.pd=some (n,p,d))(l:M.ov=some (b,o,v)):
  sK B { U with pd:=none } N tm (w.setCell ⟨b,o,none⟩ v) ⟨M.g,M.ow,none⟩:=by
 have C:=h.pend;rw[G,l]at C;obtain⟨r,e,H,y⟩:=C;rw[<-l]at y;have x:=h.room H y;have z:Ad (w.setCell ⟨b,o,none⟩ v) none=Ad w M.ov:=by
  funext c j;rw[l];simp[Ad];by_cases e:c=b/\j=o;obtain⟨rfl,rfl⟩:=e
  have:=(x.cell (o:=j) (by simp[Ty.cells])).1
  grind[D1,World.cell?_setCell_same];rw[if_neg e,World.cell?_setCell_other];grind
 have A:BD M b:=⟨n,h.place H y⟩;have f:∀c,Be B w M c->Be B (w.setCell ⟨b,o,none⟩ v) ⟨M.g,M.ow,none⟩ c:=fun c ⟨K,D,E⟩=>⟨by simp_all,D,E⟩;refine⟨fun m X S=>?_,h.norm,h.nodup,h.sU,fun m p C=>(h.live m p C).setCell _ _,fun i P=>?_,trivial,by simpa using h.size,fun c F L=>?_,h.mine,h.pins,h.still⟩;obtain⟨I,R,K,D,E⟩:=(h.roots m X S).rd;refine⟨I,R,?_,fun c F=>f c (D c F),E⟩;simp_all;show Ws (Ad (w.setCell ⟨b,o,none⟩ v) none) M.g U.rt _ (U.sl i) (tm i);rw[z];exact(h.slots i P).frame fun a u O=>O.frame (fun _ _ _=>rfl) f fun k q V t s _ Q y=>⟨V,Q,y,fun _ _ T=>T⟩
 ·rw[LJ,if_neg];exact h.frame c F L
  ·rintro rfl;rcases h.mine c A with g|g;all_goals grind
theorem sK.yR{B U N tm w M}(h:sK B U N tm w M)(hr:U.rt n=some ⟨false,.list true e,l⟩)(g7:n<pinned)(h7:U.pd=none){G:Nat->Bool}(hG:G n=false){v':Value}{l':List e.sJ}{O2 R2}(h9:AO (Ad w' M.ov) (.list true e) ((Src.one v').rd (Ad w' M.ov))=some (l',O2,R2))(A:∀c j,c<w.heap.size->c∉(M.ow n).map (·.1)->(∀m,G m=true->c∉(M.ow m).map (·.1))->Ad w' M.ov c j=Ad w M.ov c j)(R:∀c∈O2.map (·.1),(c∈(M.ow n).map (·.1)\/∃m,G m=true/\c∈(M.ow m).map (·.1))\/w.heap.size<=c)(g6:(O2.map (·.1)).Nodup)(h5:∀p∈O2,BY w' p.1 p.2)(K:∀c k,BY w c k->BD M c->BY w' c k)(h0:w.heap.size<=w'.heap.size)(h3:∀b,b<B.size->¬ B.F b->w'.heap[b]?=B.hp b)(h2:∀c∈R2,c<w'.heap.size/\(B.S c\/B.F c\/B.size<=c)/\¬ BD M c/\c∉O2.map (·.1)){f:AV->AV}(hf:∀a,f a=.dead\/(f a=a/\∀k q,(a=.ptr k q\/a=.sref k q\/∃o l,a=.swin k q o l)->(k=n->a=.ptr n [])/\G k=false))(hio:FT w'=FT w:=by first|rfl|assumption):
  sK B ⟨(U.sI f).sl,fun m=>if m=n then some ⟨false,.list true e,l'⟩else bif G m then none else U.rt m,none⟩ N tm w' ⟨fun m=>if m=n then .one v' else M.g m,fun m=>if m=n then O2 else bif G m then[]else M.ow m,M.ov⟩:=by
 let d:Nat->CK:=fun m=>if m=n then O2 else bif G m then[]else M.ow m
 have X:∀c,BD ⟨fun m=>if m=n then .one v' else M.g m,d,M.ov⟩ c->BD M c\/c∈O2.map (·.1):=by
  rintro c ⟨m,r⟩;have r:c∈(d m).map (·.1):=r;simp only[d]at r;split at r;simp_all
  ·cases x:G m with
   |true=>simp_all
   |false=>rw[x]at r;exact .inl ⟨m,r⟩
 have T:∀c,c∈O2.map (·.1)->BD M c\/w.heap.size<=c:=fun c u=>(R c u).imp (fun g=>g.elim (fun g=>⟨n,g⟩) fun⟨m,_,g⟩=>⟨m,g⟩) id;have Y:∀c,Be B w M c->Be B w' ⟨fun m=>if m=n then .one v' else M.g m,d,M.ov⟩ c:=fun c ⟨E,g2,g3⟩=>⟨B3 E h0,g2,fun g4=>by
  grind⟩
 have Z:∀c j,Be B w M c->Ad w' M.ov c j=Ad w M.ov c j:=fun c j u=>A c j u.1 (fun g=>u.2.2 ⟨n,g⟩) (fun m _ g=>u.2.2 ⟨m,g⟩);have z:∀m,m≠n->G m=false->∀c j,c∈(M.ow m).map (·.1)->Ad w' M.ov c j=Ad w M.ov c j:=fun m r hg c j u=>A c j (h.lt ⟨m,u⟩) (h.sU m n r c u)
  (fun k C=>h.sU m k (fun e=>by simp_all) c u)
 have g9:∀m,(if m=n then some (⟨false,.list true e,l'⟩:sO)else bif G m then none else U.rt m)=if m=n then some ⟨false,.list true e,l'⟩else bif G m then none else U.rt m:=fun _=>rfl
 have h1:∀k,k≠n->G k=false->∀q P tq s,U.rt k=some P->loc (Ad w M.ov) P.t (M.g k) q=some (tq,s)->loc (Ad w' M.ov) P.t (M.g k) q=some (tq,s)/\s.rd (Ad w' M.ov) 0=s.rd (Ad w M.ov) 0:=by
  intro k C hg q P tq s L hl;obtain⟨O1,R1,l1,l2,l3,l4,l5,l6⟩:=h.sep L;have I:∀j,(M.g k).rd (Ad w' M.ov) j=(M.g k).rd (Ad w M.ov) j:=fun j=>by
   cases es:M.g k with
   |one v=>rfl
   |_=>rename_i b o;exact z k C hg b _ (l5 _ _ es)
  refine⟨CZ q P.t _ l1 hl (fun j _=>I j) (fun c j u=>z k C hg c j (l4 c u)),?_⟩;cases s with
  |one v=>rfl
  |_=>rename_i b o;exact z k C hg b _ (h.place L hl)
 obtain⟨O0,R0,m1,m2,m3,m4,m5,m6⟩:=h.sep hr;have h4:∃v0,M.g n=.one v0:=by
  simp_all
 obtain⟨v0,h8⟩:=h4;refine⟨fun m rm r=>?_,fun m r=>?_,fun m=>?_,fun m m' h6 c u H=>?_,fun m p hp=>?_,fun i hi=>?_,?_,B4 h.size h0,h3,fun c u=>?_,fun i b hb D=>?_,hio.trans h.still⟩
 ·have r:(if m=n then some (⟨false,.list true e,l'⟩:sO)else bif G m then none else U.rt m)=some rm:=r
  by_cases e1:m=n;subst e1;simp at r;subst r;refine⟨O2,R2,?_,fun c u=>?_,.inr ⟨rfl,⟨v',by simp⟩,⟨e,rfl⟩,by simp⟩⟩;show AO (Ad w' M.ov) (.list true e) ((if m=m then Src.one v' else M.g m).rd (Ad w' M.ov))=_
  rw[if_pos rfl];exact h9;obtain⟨E,g2,g3,g4⟩:=h2 c u;refine⟨E,g2,fun g5=>?_⟩;grind
  ·rw[if_neg e1]at r;cases x:G m with
   |true=>simp_all
   |false=>
    rw[x]at r;have r:U.rt m=some rm:=r;obtain⟨O1,R1,l1,l2,l3,l4,l5,l6⟩:=h.sep r;refine⟨O1,R1,?_,fun c u=>Y c (l2 c u),by grind⟩;show AO (Ad w' M.ov) rm.t ((if m=n then Src.one v' else M.g m).rd (Ad w' M.ov))=_
    rw[if_neg e1];refine AF rm.t l1 (fun j _=>?_) (fun c j u=>?_)
    ·cases es:M.g m with
     |one v=>rfl
     |_=>rename_i b o;exact z m e1 x b _ (l5 _ _ es)
    grind
 ·have r:(if m=n then some (⟨false,.list true e,l'⟩:sO)else bif G m then none else U.rt m)=none:=r
  show(if m=n then O2 else bif G m then[]else M.ow m)=[]
  by_cases e1:m=n;simp_all
  ·rw[if_neg e1]at r|-;cases x:G m with
   |true=>rfl
   |false=>rw[x]at r;exact h.norm m r
 ·show((d m).map (·.1)).Nodup;simp[d];split;omega
  ·cases G m with
   |true=>simp
   |false=>exact h.nodup m
 have u:c∈(d m).map (·.1):=u;have H:c∈(d m').map (·.1):=H;have O:∀k,k≠n->c∈(d k).map (·.1)->G k=false/\c∈(M.ow k).map (·.1):=fun k C g=>by
  grind
 have k0:∀k,k≠n->c∈(d n).map (·.1)->c∈(d k).map (·.1)->False:=fun k C g Q=>by
  simp only[d,if_true]at g;obtain⟨g0,Q⟩:=O k C Q;rcases R c g with(E|⟨m,x,E⟩)|E;exact h.sU n k (Ne.symm C) c E Q;exact h.sU m k (fun e=>by grind) c E Q
  have:=h.lt ⟨k,Q⟩;omega
 by_cases e1:m=n;grind;by_cases e2:m'=n;grind;exact h.sU m m' h6 c (O m e1 u).2 (O m' e2 H).2
 ·have hp:p∈d m:=hp;simp[d]at hp;split at hp;simp_all
  ·cases x:G m with
   |true=>simp_all
   |false=>rw[x]at hp;exact K _ _ (h.live m p hp) ⟨m,C2 hp⟩
 refine(h.slots i hi).sI fun a v ha=>?_
 rcases hf a with g|⟨g,C⟩;rw[g];trivial;rw[g];by_cases hz:a=.ptr n [];subst hz;obtain⟨r',t,b,o,k1,k2,-⟩:=ha;rw[hr]at k1;simp at k1;subst k1;rw[h8]at k2;simp[loc,Cj]at k2;refine ha.frame Z Y fun k q P t s u L hl=>?_
 grind
 ·have:=h.pend
  rw[h7]at this;show QR _ _ _ none M.ov;cases hov:M.ov with
  |none=>trivial
  |some y=>rw[hov]at this;exact this.elim
 rcases X c u with g|g;exact h.mine c g;rcases T c g with g|g;exact h.mine c g;exact .inr (B4 h.size g);have D:(if pinned+i=n then some (⟨false,.list true e,l'⟩:sO)else bif G (pinned+i)then none else U.rt (pinned+i))≠none:=D
 have V:pinned+i≠n:=by omega
 rw[if_neg V]at D;show(if pinned+i=n then Src.one v' else M.g (pinned+i))=_
 rw[if_neg V];refine h.pins i b hb fun e'=>D ?_
 simp_all
theorem sK.top{B U N tm w M}(h:sK B U N tm w M)(L:U.rt n=some ⟨false,.list true e,l⟩)(C:n<pinned)(t:U.pd=none){v':Value}{l':List e.sJ}{O2 R2}(E:AO (Ad w' M.ov) (.list true e) ((Src.one v').rd (Ad w' M.ov))=some (l',O2,R2))(r:∀c j,c<w.heap.size->c∉(M.ow n).map (·.1)->Ad w' M.ov c j=Ad w M.ov c j)(x:∀c∈O2.map (·.1),c∈(M.ow n).map (·.1)\/w.heap.size<=c)(A:(O2.map (·.1)).Nodup)(i:∀p∈O2,BY w' p.1 p.2)(d:∀c k,BY w c k->BD M c->BY w' c k)(D:w.heap.size<=w'.heap.size)(z:∀b,b<B.size->¬ B.F b->w'.heap[b]?=B.hp b)(y:∀c∈R2,c<w'.heap.size/\(B.S c\/B.F c\/B.size<=c)/\¬ BD M c/\c∉O2.map (·.1)){f:AV->AV}(I:∀a,f a=.dead\/(f a=a/\∀k q,(a=.ptr k q\/a=.sref k q\/∃o l,a=.swin k q o l)->k=n->a=.ptr n []))(hio:FT w'=FT w:=by first|rfl|assumption):
  sK B ((U.sI f).sF n (some ⟨false,.list true e,l'⟩)) N tm w' ⟨fun m=>if m=n then .one v' else M.g m,fun m=>if m=n then O2 else M.ow m,M.ov⟩:=by
 have:=h.yR (G:=fun _=>false) L C t rfl E (fun c j u v _=>r c j u v) (fun c H=>(x c H).imp .inl id) A i d D z y (f:=f) (fun a=>(I a).imp id fun⟨u,v⟩=>⟨u,fun k q K=>⟨v k q K,rfl⟩⟩) hio
 have O:((U.sI f).sF n (some ⟨false,.list true e,l'⟩))=⟨(U.sI f).sl,fun m=>if m=n then some ⟨false,.list true e,l'⟩else bif (fun _=>false) m then none else U.rt m,none⟩:=by
  simp only[AE.sF,AE.sI,t,cF];grind
 simp_all
theorem Cg.one{t:Ty}{x:t.sJ}(e:t.isAgg=false)(k:Cd v=true){R}(h:AO m t ((Src.one v).rd m)=some (x,[],R))(a:∀c∈R,Sh c)(b:t.cells=1):Cg m Sh t x v:=by
 refine⟨fun g=>(by simp_all),fun _=>k,R,AF t h (fun j d=>?_) (fun _ _ _=>rfl),a⟩;have f:j=0:=by omega
 subst f;cases v<;>first|rfl|cases k
theorem Cg.rd{m:DJ}{Sh:Nat->Prop}{t:Ty}{x:t.sJ}{v:Value}(h:Cg m Sh t x v)(b:t.isAgg=false)(d:t.cells=1):∃R,AO m t ((Src.one v).rd m)=some (x,[],R)/\∀c∈R,Sh c:=by
 obtain⟨-,f,R,k,a⟩:=h;refine⟨R,AF t k (fun j e=>?_) (fun _ _ _=>rfl),a⟩;have g:j=0:=by omega
 subst g
 have:=f b
 cases v<;>first|rfl|cases this
theorem AA.int{m g rt Sh k}{n:Int}{v:Value}(h:AA m g rt Sh (.val (.int k) n) v):v=.int k n:=by
 obtain⟨R,f,-⟩:=Cg.rd (t:=.int k) h rfl rfl;simp[AO,Src.rd]at f;grind
theorem AA.bool{m g rt Sh}{b:Bool}(h:AA m g rt Sh (.val .bool b) v):v=.bool b:=by
 obtain⟨R,f,-⟩:=Cg.rd (t:=.bool) h rfl rfl;simp[AO,Src.rd]at f;grind
theorem AA.str{m g rt Sh}{l:List Int}{v:Value}(h:AA m g rt Sh (.val .str l) v):∃s:ByteArray,v=.string s/\l=s.data.toList.map fun b=>(b.toNat:Int):=by
 obtain⟨R,f,-⟩:=Cg.rd (t:=.str) h rfl rfl;simp[AO,Src.rd]at f;grind
theorem AA.tH{m g rt Sh k}(n:Int):AA m g rt Sh (.val (.int k) n) (.int k n):=
 Cg.one (t:=.int k) (R:=[]) rfl rfl (by simp[AO,Src.rd]) (by simp) rfl
theorem AA.tF{m g rt Sh}(b:Bool):AA m g rt Sh (.val .bool b) (.bool b):=
 Cg.one (t:=.bool) (R:=[]) rfl rfl (by rfl) (by simp) rfl
theorem AA.vV{m g rt Sh}(s:ByteArray):AA m g rt Sh (.val .str (s.data.toList.map fun b=>(b.toNat:Int):List Int)) (.string s):=
 Cg.one (t:=.str) (R:=[]) rfl rfl (by rfl) (by simp) rfl
def XA(U:AE)(a:AV):Prop:=∃k q,(a=.ptr k q\/a=.sref k q\/∃o l,a=.swin k q o l)/\U.rt k=none
structure Ev (B:Base) (w:World) (U:AE) (M:Gh) (U':AE) (M':Gh):Prop where
 ov:M'.ov=M.ov
 pd:U'.pd=U.pd
 shr:∀c,Be B w M c->Be B w M' c
 av:∀a v,AA (Ad w M.ov) M.g U.rt (Be B w M) a v->AA (Ad w M.ov) M'.g U'.rt (Be B w M') a v\/XA U' a
 dg:∀a,XA U a->XA U' a
theorem Ev.refl{B w U M}:Ev B w U M U M:=⟨rfl,rfl,fun _ h=>h,fun _ _ h=>.inl h,fun _ h=>h⟩
theorem Ev.trans{B w U M e M' b k}(h:Ev B w U M e M')(f:Ev B w e M' b k):Ev B w U M b k:=
 ⟨f.ov.trans h.ov,f.pd.trans h.pd,fun c i=>f.shr c (h.shr c i),fun a v d=>by
  rcases h.av a v d with g|g
  have:=f.av a v (by rw[h.ov];omega)
  rw[h.ov]at this;omega;exact .inr (f.dg a g),fun a d=>f.dg a (h.dg a d)⟩
theorem Ev.live{B w U M f M'}(h:Ev B w U M f M'){a v}(k:AA (Ad w M.ov) M.g U.rt (Be B w M) a v\/XA U a):AA (Ad w M'.ov) M'.g f.rt (Be B w M') a v\/XA f a:=by
 rw[h.ov];rcases k with g|g;exact h.av a v g;exact .inr (h.dg a g)
theorem Ev.zC{B w U M g M'}(h:Ev B w U M g M'){t x v}(hv:Cg (Ad w M.ov) (Be B w M) t x v):Cg (Ad w M'.ov) (Be B w M') t x v:=by
 rw[h.ov];exact hv.frame (fun _ _ _=>rfl) h.shr
theorem Ev.gone{B w U M}{f:AV->AV}:Ev B w U M ((U.sI f).sF n none) ⟨M.g,fun m=>if m=n then[]else M.ow m,M.ov⟩:=by
 refine⟨rfl,rfl,fun c h=>sK.tQ c h,fun a v d=>?_,fun a ⟨k,q,b,i⟩=>⟨k,q,b,?_⟩⟩;by_cases hd:∃k q,(a=.ptr k q\/a=.sref k q\/∃o l,a=.swin k q o l)/\k=n;obtain⟨k,q,b,rfl⟩:=hd;exact .inr ⟨k,q,b,by simp[AE.sF]⟩;exact .inl (d.other (n:=n) (fun c h=>sK.tQ c h) (fun k j=>by simp_all[AE.sF,AE.sI,qD]) (fun _ _=>rfl) (fun k q h e=>hd ⟨k,q,h,e⟩));simp_all[AE.sF,AE.sI]
theorem AX{U:AE}{n:Nat}{r:sO}(h:U.look n=some r):U.pd=none/\U.rt n=some r:=by
 grind[AE.look]
theorem sK.slice{B U N tm w M}(h:sK B U N tm w M){n p v r}(D:AA (Ad w M.ov) M.g U.rt (Be B w M) (.sref n p) v)(q:U.rt n=some r)(F:Dc r.t r.x p=⟨.list true e,l⟩):
  ∃s f k,loc (Ad w M.ov) r.t (M.g n) p=some (.list true e,s)/\s.rd (Ad w M.ov) 0=some v/\AO (Ad w M.ov) (.list true e) (s.rd (Ad w M.ov))=some (l,f,k)/\
   AO (Ad w M.ov) (.list true e) ((Src.one v).rd (Ad w M.ov))=some (l,f,k)/\(∀c∈k,Be B w M c)/\(∀c∈f.map (·.1),c∈(M.ow n).map (·.1)):=by
 obtain⟨Y,z,s,b,m,o⟩:=D;rw[q]at b;simp at b;subst b;obtain⟨O,P,G,H,T,I,V,X⟩:=h.sep q;obtain⟨y,f,k,A,L,K,u,i,a,Q,R⟩:=BU p r.t _ G m;rw[F]at a;have C:e=z:=by grind
 subst C;have a:=eq_of_heq (Sigma.mk.inj a).2;subst a;refine⟨s,f,k,m,o,i,AF _ i (fun j S=>?_) (fun _ _ _=>rfl),fun c E=>H c (by simp_all),fun c E=>I c (by simp_all)⟩;have d:j=0:=by simp_all[Ty.cells]
 subst d;rw[o];rfl
theorem sK.window{B U N tm w M}(h:sK B U N tm w M){n p v r off f}(z:AA (Ad w M.ov) M.g U.rt (Be B w M) (.swin n p off f) v)(q:U.rt n=some r)(C:Dc r.t r.x p=⟨.list true e,l⟩):
  ∃s d i a k c,loc (Ad w M.ov) r.t (M.g n) p=some (.list true e,s)/\s.rd (Ad w M.ov) 0=some (.slice a k c)/\AO (Ad w M.ov) (.list true e) ((Src.one (.slice a k c)).rd (Ad w M.ov))=some (l,d,i)/\
   (∀c∈i,Be B w M c)/\(∀c∈d.map (·.1),c∈(M.ow n).map (·.1))/\off+f<=k/\∃j,v=.slice j f (c-off)/\(∀A,j=some A->c=off\/A.spot=none)/\(c=off\/j=a.map fun A=>A.add (off*e.cells)):=by
 obtain⟨E,u,s,a,k,c,b,o,y,K,L⟩:=z;have D:AA (Ad w M.ov) M.g U.rt (Be B w M) (.sref n p) (.slice a k c):=⟨E,u,s,b,o,y⟩;obtain⟨O,d,i,m,F,-,G,H,I⟩:=h.slice D q C;rw[q]at b;simp at b;subst b;rw[o]at m;simp at m;obtain⟨rfl,rfl⟩:=m;grind
theorem gU{x:List e.sJ}{O R}(h:AO m (.list true e) ((Src.one v).rd m)=some (x,O,R)):Cd v=true:=by
 rcases Cr h with⟨g,-⟩|⟨A,n,c,f,g,-⟩<;>simp only[Src.rd,if_true,sj]at g<;>rw[g]<;>rfl
theorem Cg.empty{m Sh e}{a:Option Addr}:Cg m Sh (.list false e) ([]:List e.sJ) (.slice a 0 0):=by
 refine Cg.one (t:=.list false e) (R:=[]) rfl rfl ?_ (by simp) rfl;show Cn m false e.cells (AO m e) (some (.slice a 0 0))=_;cases a with
 |none=>rfl
 |some A=>rfl
theorem Cg.wM{m Sh e}:Cg m Sh (.nl e) ([]:List e.sJ) (.slice none 0 0):=
 Cg.one (t:=.nl e) (R:=[]) rfl rfl rfl (by simp) rfl
theorem Cg.wH{m:DJ}{g:Nat->Src}{rt:Nat->Option sO}{Sh:Nat->Prop}{v:Value}:∀{t:Ty}{x:t.sJ},Cg m Sh t x v->AA m g rt Sh (wH t x) v
 |.nl e,x,h=>by
  obtain⟨-,f,R,k,-⟩:=h;have f:=f rfl;simp only[AO]at k;split at k;rename_i b;have a:v=.slice none 0 0:=by
   cases v<;>first|(cases f;done)|(simp[Value.cells]at b;done)|(simpa[Value.cells]using b)
  subst a;exact rfl;cases k
 |.int _,_,h|.bool,_,h|.str,_,h|.unit,_,h|.list _ _,_,h|.pair _ _,_,h|.arr _ _,_,h=>h
theorem sK.vQ{B U N tm w M}(h:sK B U N tm w M){n p v r}(b:AA (Ad w M.ov) M.g U.rt (Be B w M) (.sref n p) v)(j:U.rt n=some r)(i:Dc r.t r.x p=⟨.list true e,l⟩):
  Cg (Ad w M.ov) (fun c=>Be B w M c\/c∈(M.ow n).map (·.1)) (.list false e.sh) (Ty.wC (.list false e) l) v:=by
 obtain⟨s,q,u,z,A,C,f,k,a⟩:=h.slice b j i;obtain⟨y,m,o⟩:=MN _ f;exact Cg.one (t:=.list false e.sh) rfl (gU f) m (fun c d=>(o c d).elim (fun g=>.inr (a c g)) (fun g=>.inl (k c g))) rfl
theorem sK.vR{B U N tm w M}(h:sK B U N tm w M){n p v r off f}(m:AA (Ad w M.ov) M.g U.rt (Be B w M) (.swin n p off f) v)(u:U.rt n=some r)(q:Dc r.t r.x p=⟨.list true e,l⟩):
  Cg (Ad w M.ov) (fun c=>Be B w M c\/c∈(M.ow n).map (·.1)) (.list false e.sh) (Ty.wC (.list false e) ((l.drop off).take f)) v:=by
 obtain⟨s,A,C,a,H,c,F,G,k,b,d,i,E,rfl,j,g8⟩:=h.window m u q;obtain⟨D,y,z⟩:=a8i k i j g8;exact Cg.one (t:=.list false e.sh) rfl rfl y (fun c o=>(z c o).elim (fun g=>.inr (d c g)) (fun g=>.inl (b c g))) rfl
theorem Ty.yE:∀(a b:Ty),a.le b=true->a.isAgg=b.isAgg
 |.nl a,.list o b,_|.nl a,.nl b,_|.pair a b,.pair g f,_=>rfl
 |.nl a,.int _,h|.nl a,.bool,h|.nl a,.str,h|.nl a,.unit,h|.nl a,.pair _ _,h|.nl a,.arr _ _,h=>by simp[Ty.le]at h
 |.pair a b,.int _,h|.pair a b,.bool,h|.pair a b,.str,h|.pair a b,.unit,h|.pair a b,.arr _ _,h|.pair a b,.list _ _,h|.pair a b,.nl _,h=>by simp[Ty.le]at h
 |.int _,b,h|.bool,b,h|.str,b,h|.unit,b,h|.list _ _,b,h|.arr _ _,b,h=>by
  simp only[Ty.le,dT]at h;rw[h]
theorem Wu{g t:Ty}{x:g.sJ}{y:t.sJ}{rd:Nat->Option Value}{R:List Nat}(f:tC g t x=some y)(h:AO m g rd=some (x,[],R)):AO m t rd=some (y,[],R):=by
 grind[tC,a5Q]
theorem qE{h t:Ty}{x:h.sJ}{y:t.sJ}(g:tC h t x=some y):h.isAgg=t.isAgg/\h.cells=t.cells:=by
 unfold tC at g;split at g;simp_all;grind[Ty.yE,Ty.vH]
theorem Cg.tC{m:DJ}{Sh:Nat->Prop}{f t:Ty}{x:f.sJ}{y:t.sJ}{v:Value}(k:tC f t x=some y)(h:Cg m Sh f x v):Cg m Sh t y v:=by
 obtain⟨i,b,R,c,d⟩:=h;obtain⟨a,e⟩:=qE k;exact⟨fun g=>by simp_all,fun g=>b (a.trans g),R,Wu k c,d⟩
theorem sK.view{Z:Type}{B U N tm w M}(h:sK B U N tm w M){t a v}{K:t.sJ->Rs Z}{z:Z}(d:AA (Ad w M.ov) M.g U.rt (Be B w M) a v\/XA U a)(f:U.view t a K=some z):
  ∃x,K x=some z/\Cg (Ad w M.ov) (fun c=>Be B w M c\/(BD M c/\U.pd=none)) t x v:=by
 have G:∀b,(∀k q,(b=.ptr k q\/b=.sref k q\/∃o l,b=.swin k q o l)->False)->¬ XA U b:=fun b hb ⟨k,q,D,_⟩=>hb k q D;cases a with
 |tY g=>
  simp_all[AE.view]
 |val H x=>
  simp[AE.view]at f;split at f;rename_i y F;rcases d with d|d;exact⟨y,f,Cg.frame (Cg.tC F d) (fun _ _ _=>rfl) (fun c i=>.inl i)⟩;simp_all;simp_all
 |nils=>
  rcases d with rfl|d;cases t<;>simp only[AE.view]at f<;>try cases f
  rename_i o e;cases o;exact⟨[],f,Cg.empty⟩;cases f;exact⟨_,f,Cg.wM⟩;simp_all
 |empt=>
  cases t<;>simp only[AE.view]at f<;>try cases f
  rename_i o e;cases o
  ·rcases d with⟨A,rfl⟩|d;all_goals grind[Cg.empty]
  simp_all
 |sref n p=>
  simp[AE.view]at f;split at f;rename_i r m;obtain⟨j,m⟩:=AX m;split at f;rename_i e l u;split at f;rename_i C;subst C;rcases d with d|⟨k,q,i,E⟩;exact⟨_,f,(h.vQ d m u).frame (fun _ _ _=>rfl) (fun c i=>i.imp id fun g=>⟨⟨n,g⟩,j⟩)⟩;simp_all;simp_all;simp_all;simp_all
 |swin n p o k=>
  simp[AE.view]at f;split at f;rename_i r m;obtain⟨j,m⟩:=AX m;split at f;rename_i e l u;split at f;rename_i C;subst C;rcases d with d|⟨k,q,i,E⟩;exact⟨_,f,(h.vR d m u).frame (fun _ _ _=>rfl) (fun c i=>i.imp id fun g=>⟨⟨n,g⟩,j⟩)⟩;simp_all;simp_all;simp_all;simp_all
 |dead|skp|nilp|ptr|vptr=>cases f
theorem sK.yS{B U N tm w M}(h:sK B U N tm w M){t a v}{K:t.sJ->Rs Z}(d:AA (Ad w M.ov) M.g U.rt (Be B w M) a v\/XA U a)(f:U.view t a K=some z):
  ∃x,K x=some z/\Cg (Ad w M.ov) (fun c=>Be B w M c\/∃n,n∈a.sS/\c∈(M.ow n).map (·.1)) t x v:=by
 have G:∀b,(∀k q,(b=.ptr k q\/b=.sref k q\/∃o l,b=.swin k q o l)->False)->¬ XA U b:=fun b hb ⟨k,q,D,_⟩=>hb k q D;cases a with
 |tY g=>
  simp_all[AE.view]
 |val H x=>
  simp[AE.view]at f;split at f;rename_i y F;rcases d with d|d;exact⟨y,f,Cg.frame (Cg.tC F d) (fun _ _ _=>rfl) (fun c i=>.inl i)⟩;simp_all;simp_all
 |nils=>
  rcases d with rfl|d;cases t<;>simp only[AE.view]at f<;>try cases f
  rename_i o e;cases o;exact⟨[],f,Cg.empty⟩;cases f;exact⟨_,f,Cg.wM⟩;simp_all
 |empt=>
  cases t<;>simp only[AE.view]at f<;>try cases f
  rename_i o e;cases o
  ·rcases d with⟨A,rfl⟩|d;all_goals grind[Cg.empty]
  simp_all
 |sref n p=>
  simp[AE.view]at f;split at f;rename_i r j;obtain⟨u,j⟩:=AX j;split at f;rename_i e l m;split at f;rename_i C;subst C;rcases d with d|⟨k,q,i,E⟩;exact⟨_,f,(h.vQ d j m).frame (fun _ _ _=>rfl) (fun c i=>i.imp id fun g=>⟨n,by simp[AV.sS],g⟩)⟩;simp_all;simp_all;simp_all;simp_all
 |swin n p o k=>
  simp[AE.view]at f;split at f;rename_i r j;obtain⟨u,j⟩:=AX j;split at f;rename_i e l m;split at f;rename_i C;subst C;rcases d with d|⟨k,q,i,E⟩;exact⟨_,f,(h.vR d j m).frame (fun _ _ _=>rfl) (fun c i=>i.imp id fun g=>⟨n,by simp[AV.sS],g⟩)⟩;simp_all;simp_all;simp_all;simp_all
 |dead|skp|nilp|ptr|vptr=>cases f
def Ii(V:Nat->Prop)(U:AE)(M:Gh)(U':AE)(M':Gh):Prop:=
 (∀n r,r.bx=true\/¬ V n->U.rt n=some r->U'.rt n=some r/\M'.g n=M.g n/\M'.ow n=M.ow n)/\∀(j:Nat) t y,U.get j=.val t y->U'.get j=.val t y
theorem Ii.refl{V U M}:Ii V U M U M:=⟨fun _ _ _ h=>⟨h,rfl,rfl⟩,fun _ _ _ h=>h⟩
theorem Ii.trans{V U M k M' f g}(h:Ii V U M k M')(d:Ii V k M' f g):Ii V U M f g:=⟨fun n r hb i=>by
 obtain⟨a,b,c⟩:=h.1 n r hb i;obtain⟨l,m,o⟩:=d.1 n r hb a;simp_all,fun j t y e=>d.2 j t y (h.2 j t y e)⟩
theorem Ii.mono{V k:Nat->Prop}{U M f M'}(h:Ii V U M f M')(hv:∀n,V n->k n):Ii k U M f M':=⟨fun n r hb=>h.1 n r (hb.imp id fun g a=>g (hv n a)),h.2⟩
theorem Ii.gone{U:AE}{M:Gh}(d:U.rt n=some r)(hb:r.bx=false)(f:AV->AV)(ov)(b:∀t y,f (.val t y)=.val t y):
  Ii (·∈[n]) U M ((U.sI f).sF n none) ⟨M.g,fun m=>if m=n then[]else M.ow m,ov⟩:=by
 refine⟨fun m i k h=>?_,fun j t y c=>?_⟩;have a:m≠n:=by
  grind
 have e:(m==n)=false:=by simp_all
 exact⟨by simp[AE.sF,AE.sI,e,h],rfl,by simp_all⟩;grind[AE.get,AE.sF,AE.sI,SV.sI]
theorem sK.yC{B U N tm w M}(h:sK B U N tm w M){q t a v}{K:t.sJ->AE->Rs Z}(i:AA (Ad w M.ov) M.g U.rt (Be B w M) a v\/XA U a)(f:U.uT q t a K=some z):
  ∃x C M',K x C=some z/\sK B C N tm w M'/\Cg (Ad w M'.ov) (Be B w M') t x v/\Ev B w U M C M'/\(q=true->C=U/\M'=M)/\Ii (·∈a.sS) U M C M':=by
 have P:∀b,(∀k q,(b=.ptr k q\/b=.sref k q\/∃o l,b=.swin k q o l)->False)->¬ XA U b:=fun b hb ⟨k,q,I,_⟩=>hb k q I;cases a with
 |tY g=>
  simp_all[AE.uT]
 |val Q x=>
  simp[AE.uT]at f;split at f;rename_i y O;rcases i with i|i;exact⟨y,U,M,f,h,Cg.tC O i,Ev.refl,fun _=>⟨rfl,rfl⟩,Ii.refl⟩;simp_all;simp_all
 |nils=>
  rcases i with rfl|i;cases t<;>simp only[AE.uT]at f<;>try cases f
  rename_i o e;cases o;exact⟨[],U,M,f,h,Cg.empty,Ev.refl,fun _=>⟨rfl,rfl⟩,Ii.refl⟩;cases f;exact⟨_,U,M,f,h,Cg.wM,Ev.refl,fun _=>⟨rfl,rfl⟩,Ii.refl⟩;simp_all
 |empt=>
  cases t<;>simp only[AE.uT]at f<;>try cases f
  rename_i o e;cases o;rcases i with⟨A,rfl⟩|i;exact⟨[],U,M,f,h,Cg.empty,Ev.refl,fun _=>⟨rfl,rfl⟩,Ii.refl⟩;simp_all;simp_all
 |sref n p=>
  cases p with
  |cons=>simp_all[AE.uT]
  |nil=>
   simp only[AE.uT]at f;split at f;grind;rename_i F;split at f;rename_i e l j;obtain⟨E,j⟩:=AX j;split at f;rename_i G;subst G;rcases i with i|⟨k,q,D,L⟩;have H:=h.vQ i j rfl;refine⟨_,_,_,f,h.xI j (by simp_all),H.frame (fun _ _ _=>rfl) (fun c D=>?_),Ev.gone,fun e=>absurd e F,Ii.gone j rfl _ _ (fun _ _=>rfl)⟩;rcases D with g|g;exact sK.tQ c g;have d:BD M c:=⟨n,g⟩;refine⟨h.lt d,.inr (h.mine c d),fun⟨m,r⟩=>?_⟩;have r:c∈(if m=n then[]else M.ow m).map (·.1):=r
   split at r;simp_all;rename_i u;exact h.sU m n u c r g;simp_all;simp_all;simp_all
 |swin n p o k=>
  cases p with
  |cons=>simp_all[AE.uT]
  |nil=>
   simp only[AE.uT]at f;split at f;grind;rename_i F;split at f;rename_i e l j;obtain⟨E,j⟩:=AX j;split at f;rename_i G;subst G;rcases i with i|⟨k,q,D,L⟩;have H:=h.vR i j rfl;refine⟨_,_,_,f,h.xI j (by simp_all),H.frame (fun _ _ _=>rfl) (fun c D=>?_),Ev.gone,fun e=>absurd e F,Ii.gone j rfl _ _ (fun _ _=>rfl)⟩;rcases D with g|g;exact sK.tQ c g;have d:BD M c:=⟨n,g⟩;refine⟨h.lt d,.inr (h.mine c d),fun⟨m,r⟩=>?_⟩;have r:c∈(if m=n then[]else M.ow m).map (·.1):=r
   split at r;simp_all;rename_i u;exact h.sU m n u c r g;simp_all;simp_all;simp_all
 |dead|skp|nilp|ptr|vptr=>cases f
theorem sK.uT{Z:Type}{B U N tm w M}(h:sK B U N tm w M){q t a v}{K:t.sJ->AE->Rs Z}{z:Z}(b:AA (Ad w M.ov) M.g U.rt (Be B w M) a v\/XA U a)(k:U.uT q t a K=some z):
  ∃x f M',K x f=some z/\sK B f N tm w M'/\Cg (Ad w M'.ov) (Be B w M') t x v/\Ev B w U M f M'/\(q=true->f=U/\M'=M):=by
 obtain⟨x,f,M',c,d,e,i,j,-⟩:=h.yC b k;grind
def EG:Ty->(Nat->Option Value)->Bool
 |.int k,rd=>match rd 0 with
  |some (.int k' n)=>A3 (k'=k)&&n==0
  |_=>false
 |.bool,rd=>match rd 0 with
  |some (.bool b)=>!b
  |_=>false
 |.str,rd=>match rd 0 with
  |some (.string s)=>s.size==0
  |_=>false
 |.unit,_=>true
 |.pair a b,rd=>EG a rd&&EG b (fun j=>rd (a.cells+j))
 |.arr n t,rd=>(D3 n).all fun i=>EG t fun j=>rd (i*t.cells+j)
 |.list _ _,rd=>match rd 0 with
  |some (.slice none 0 0)=>true
  |_=>false
 |.nl _,rd=>match rd 0 with
  |some (.slice none 0 0)=>true
  |_=>false
theorem PR{α:Type}{f:Nat->Option (α×CK×List Nat)}{x:α}:∀(n i:Nat),(∀j,i<=j->j<i+n->f j=some (x,[],[]))->Ak f n i=some (B7 n x,[],[])
 |0,_,_=>rfl
 |n+1,i,h=>by
  simp only[Ak,h i (C0 _) (by omega),PR n (i+1) (fun j g k=>h j (by omega) (by omega))];rfl
theorem Jd{m:DJ}:∀(t:Ty){rd:Nat->Option Value},EG t rd=true->AO m t rd=some (t.dflt,[],[])
 |.int k,rd,h=>by
  simp[EG]at h;split at h;rename_i d n g;simp at h;simp only[AO,g,h.1,if_true,h.2];rfl;simp_all
 |.bool,rd,h=>by
  simp[EG]at h;split at h;rename_i b g;simp at h;simp only[AO,g,h];rfl;simp_all
 |.str,rd,h=>by
  simp[EG]at h;split at h;rename_i s g;have f:s.data.toList=[]:=by
   simp_all
  simp only[AO,g,f];rfl;simp_all
 |.unit,rd,h=>rfl
 |.pair a b,rd,h=>by
  simp only[EG,EV]at h;exact La (Jd a h.1) (Jd b h.2)
 |.arr n t,rd,h=>by
  simp only[EG,lA,List.mem_range]at h;exact PR n 0 fun j _ c=>Jd t (h j (by omega))
 |.list o t,rd,h=>by
  simp[EG]at h;split at h;rename_i g;show Cn m o t.cells (AO m t) (rd 0)=_;rw[g];rfl;simp_all
 |.nl t,rd,h=>by
  simp[EG]at h;split at h;rename_i g;simp only[AO,g];rfl;simp_all
def KN(P:Program)(τ:Ty)(t:TypeId):Bool:=
 match P.info? t with
 |some i=>i.size==τ.cells&&A3 (i.bytes<=32768)&&(match i.zero with
  |some z=>z.cells.size==τ.cells&&EG τ (fun j=>z.cells[j]?)&&(match z with|.agg _=>τ.isAgg|_=>!τ.isAgg)
  |none=>false)
 |none=>false
def AU(P:Program):Ty->TypeId ⊕ (List Field×Nat)->Bool
 |.int k,.inl t=>KN P (.int k) t&&(match P.underlying t with|some (.int k')=>A3 (k'=k)|_=>false)
 |.bool,.inl t=>KN P .bool t&&(match P.underlying t with|some .bool=>true|_=>false)
 |.str,.inl t=>KN P .str t&&(match P.underlying t with|some .string=>true|_=>false)
 |.list o e,.inl t=>KN P (.list o e) t&&(match P.underlying t with|some (.slice t')=>AU P e (.inl t')&&A3 (0<e.cells)|_=>false)
 |.nl e,.inl t=>KN P (.nl e) t&&(match P.underlying t with|some (.slice t')=>AU P e (.inl t')&&A3 (0<e.cells)|_=>false)
 |.arr n e,.inl t=>KN P (.arr n e) t&&(match P.underlying t with|some (.array n' t')=>n'==n&&AU P e (.inl t')&&A3 (0<e.cells)|_=>false)
 |.pair a b,.inl t=>KN P (.pair a b) t&&(match P.underlying t with
  |some (.struct fs)=>(match fs.toList with
   |f::r=>f.offset==0&&AU P a (.inl f.type)&&A3 (0<a.cells)&&AU P b (.inr (r,a.cells))
   | []=>false)
  |_=>false)
 |.unit,.inl t=>KN P .unit t&&(match P.underlying t with|some (.struct fs)=>fs.isEmpty|_=>false)
 |.pair a b,.inr (f::r,off)=>f.offset==off&&AU P a (.inl f.type)&&A3 (0<a.cells)&&AU P b (.inr (r,off+a.cells))
 |.unit,.inr ([],_)=>true
 |_,.inr _=>false
theorem AY(h:AU P τ (.inl t)=true):KN P τ t=true:=by
 cases τ<;>simp only[AU,EV]at h<;>exact h.1
structure vG (P:Program) (τ:Ty) (t:TypeId) where
 i:TypeInfo
 z:Value
 info:P.info? t=some i
 size:i.size=τ.cells
 bytes:i.bytes<=32768
 zero:i.zero=some z
 uZ:z.cells.size=τ.cells
 zok:EG τ (fun j=>z.cells[j]?)=true
 zagg:∀cs,z=.agg cs->τ.isAgg=true
 znot:(∀cs,z≠.agg cs)->τ.isAgg=false
theorem AM(h:KN P τ t=true):Nonempty (vG P τ t):=by
 unfold KN at h;split at h
 ·rename_i i b;simp at h;obtain⟨⟨g,f⟩,h3⟩:=h;split at h3
  ·rename_i z d;simp at h3;obtain⟨⟨k,a⟩,h6⟩:=h3;refine⟨⟨i,z,b,g,f,d,k,a,fun j e=>?_,fun c=>?_⟩⟩;all_goals simp_all
  simp_all
 simp_all
theorem KO(h:AU P τ (.inl t)=true)(w:World):(isAgg t).run P w=.ok τ.isAgg w:=by
 cases τ<;>simp only[AU,EV]at h<;>obtain⟨-,h⟩:=h<;>split at h<;>first|(rename_i g;simp[isAgg,run_underlying g,Ty.isAgg];done)|cases h
theorem vG.sizeOf{P:Program}{τ:Ty}{t:TypeId}(I:vG P τ t)(w:World):(sizeOf t).run P w=.ok τ.cells w:=by
 simp[Go.sizeOf,typeInfo,I.info,I.size]
theorem vG.typeInfo{P:Program}{τ:Ty}{t:TypeId}(I:vG P τ t)(w:World):(typeInfo t).run P w=.ok I.i w:=by
 simp[Go.typeInfo,I.info]
theorem vG.zeroValue{P:Program}{τ:Ty}{t:TypeId}(I:vG P τ t)(w:World):(zeroValue t).run P w=.ok I.z w:=by
 simp[Go.zeroValue,Go.typeInfo,I.info,I.zero]
theorem Je{m:DJ}:∀(t:Ty){rd:Nat->Option Value}{x o r},AO m t rd=some (x,o,r)->∀j,j<t.cells->∃v,rd j=some v/\Cd v=true
 |.int k,rd,x,o,r,h,j,f=>by
  have g:j=0:=by simp_all[Ty.cells]
  subst g;simp[AO]at h;split at h;rename_i c;exact⟨_,c,rfl⟩;simp_all
 |.bool,rd,x,o,r,h,j,f=>by
  have g:j=0:=by simp_all[Ty.cells]
  subst g;simp[AO]at h;split at h;rename_i c;exact⟨_,c,rfl⟩;simp_all
 |.str,rd,x,o,r,h,j,f=>by
  have g:j=0:=by simp_all[Ty.cells]
  subst g;simp[AO]at h;split at h;rename_i c;exact⟨_,c,rfl⟩;simp_all
 |.unit,rd,x,o,r,h,j,f=>by simp[Ty.cells]at f
 |.pair a b,rd,x,o,r,h,j,f=>by
  obtain⟨I,D,G,K,E,H,d,e,-⟩:=CP h;by_cases hja:j<a.cells;exact Je a d j hja
  have:=Je b e (j-a.cells) (by simp only[Ty.cells]at f;omega)
  rwa [show a.cells+(j-a.cells)=j from by omega]at this
 |.arr n t,rd,x,o,r,h,j,f=>by
  have h:Ak (fun i=>AO m t fun j=>rd (i*t.cells+j)) n 0=some (x,o,r):=h;simp[Ty.cells]at f;have l:0<t.cells:=by
   grind
  have q:j / t.cells<n:=Nat.div_lt_of_lt_mul (by grind);obtain⟨y,C,F,A,B,w,z,p,-⟩:=Bf n 0 (j / t.cells) h q
  have:=Je t p (j%t.cells) (Nat.mod_lt _ l)
  simp_all[Nat.div_add_mod']
 |.list u t,rd,x,o,r,h,j,f=>by
  have g:j=0:=by simp_all[Ty.cells]
  subst g;have h:Cn m u t.cells (AO m t) (rd 0)=some (x,o,r):=h;unfold Cn at h;split at h;rename_i c;exact⟨_,c,rfl⟩;rename_i c;exact⟨_,c,rfl⟩;simp_all
 |.nl t,rd,x,o,r,h,j,f=>by
  have g:j=0:=by simp_all[Ty.cells]
  subst g;exact⟨_,(gQ h).1,rfl⟩
theorem Sg{t:Ty}(h:t.isAgg=false):t.cells=1:=by
 cases t<;>first|rfl|cases h
theorem Si{o:Nat}{x R}(n:AU P τ (.inl t)=true)(h:AO m τ ((Src.at b o).rd m)=some (x,[],R))(y:∀j,j<τ.cells->w.cell? ⟨b,o+j,none⟩=m b (o+j))(p:∀c∈R,Sh c):
  ∃v,(Instr.loadAt t (.pointer (some ⟨b,o,none⟩))).run P w=.ok v w/\Cg m Sh τ x v:=by
 obtain⟨I⟩:=AM (AY n);have f:=Je τ h;cases hagg:τ.isAgg with
 |false=>
  have r:=Sg hagg;obtain⟨v,q,z⟩:=f 0 (by omega);have C:w.cell? ⟨b,o,none⟩=some v:=by have:=y 0 (by omega);simp at this;rw[this];exact q
  refine⟨v,?_,Cg.one hagg z (AF τ h (fun j a=>?_) (fun _ _ _=>rfl)) p r⟩;simp[Instr.loadAt,Instr.sureAddr,loadVar,KO n,hagg,C];have l:j=0:=by omega
  subst l;rw[q];rfl
 |true=>
  let k:List Value:=(D3 τ.cells).map fun j=>(m b (o+j)).getD undef
  have i:∀j v,k[j]?=some v->w.cell? ((⟨b,o,none⟩:Addr).add j)=some v:=by
   intro j v a;simp only[k,D7]at a;have d:j<τ.cells:=by
    grind
   rw[List.getElem?_range d]at a;simp at a;obtain⟨u,A,-⟩:=f j d;have B:m b (o+j)=some u:=A;simp_all[Addr.add_lit]
  have e:k.length=τ.cells:=by grind
  refine⟨.agg k.toArray,?_,fun _=>⟨_,rfl,by omega⟩,fun g=>(by simp_all),R,?_,p⟩
  have:=run_loadCells_list (P:=P) w ⟨b,o,none⟩ k i
  rw[e]at this;simp[Instr.loadAt,Instr.sureAddr,loadVar,KO n,hagg,I.sizeOf,this];refine AF τ h (fun j a=>?_) (fun _ _ _=>rfl);grind[Value.cells,Src.rd]
theorem Cg.cells{m Sh}{τ:Ty}{x:τ.sJ}{v:Value}(h:Cg m Sh τ x v):v.cells.size=τ.cells/\∀u∈v.cells.toList,Cd u=true:=by
 obtain⟨k,a,R,d,e⟩:=h;have f:v.cells.size=τ.cells:=by
  cases hagg:τ.isAgg with
  |true=>obtain⟨c,rfl,g⟩:=k hagg;exact g
  |false=>
   have:=a hagg
   rw[Sg hagg];cases v<;>first|rfl|cases this
 refine⟨f,fun u b=>?_⟩;obtain⟨j,i,rfl⟩:=List.getElem_of_mem b;grind[Je]
theorem Ks(h:Cd v=true):v.oneCell'=true:=by
 cases v<;>first|rfl|cases h
theorem DX(b:Nat):∀(g:List Value)(o:Nat)(w:World)(c:Nat),c≠b->(w.setCells b o g).heap[c]?=w.heap[c]?
 | [],_,_,_,_=>rfl
 |v::r,o,w,c,h=>by
  rw[World.setCells,DX b r (o+1) _ c h,LJ,if_neg h]
theorem HL(b:Nat):∀(h:List Value)(o:Nat)(w:World),(w.setCells b o h).heap.size=w.heap.size
 | [],_,_=>rfl
 |v::r,o,w=>by rw[World.setCells,HL b r (o+1),World.size_setCell]
theorem BY.setCells{g k:Nat}(b:Nat):∀(f:List Value)(o:Nat){w:World},BY w g k->BY (w.setCells b o f) g k
 | [],_,_,h=>h
 |_::r,o,_,h=>BY.setCells b r (o+1) (h.setCell _ _)
theorem JO(b:Nat):∀(h:List Value)(o:Nat)(w:World)(k:Nat),BY w b k->o+h.length<=k->∀c j,
  (w.setCells b o h).cell? ⟨c,j,none⟩=if c=b/\o<=j/\j<o+h.length then h[j-o]? else w.cell? ⟨c,j,none⟩
 | [],o,w,k,g,f,c,j=>by
  rw[if_neg (by simp)];rfl
 |v::r,o,w,k,g,f,c,j=>by
  simp at f;rw[World.setCells,JO b r (o+1) _ k (g.setCell _ _) (by omega) c j];by_cases h1:c=b/\o+1<=j/\j<o+1+r.length;grind
  ·rw[if_neg h1];by_cases h2:c=b/\j=o;obtain⟨rfl,rfl⟩:=h2;obtain⟨u,a⟩:=D1.1 (g.cell (o:=j) (by omega)).1;rw[World.cell?_setCell_same _ _ _ a,if_pos ⟨rfl,C0 _,by simp⟩]
   simp
   ·rw[World.cell?_setCell_other,if_neg];all_goals grind
theorem XB{o:Nat}(d:AU P τ (.inl t)=true)(f:v.cells.size=τ.cells)(a:∀u∈v.cells.toList,Cd u=true)(h:BY w b k)(i:o+τ.cells<=k):
  (Instr.storeAt t (.pointer (some ⟨b,o,none⟩)) v).run P w=.ok () (w.setCells b o v.cells.toList):=by
 obtain⟨I⟩:=AM (AY d);have g:v.cells.toList.length=τ.cells:=by omega
 have:=run_storeCells_cells (P:=P) b o v.cells.toList 0 w (fun j c=>(h.cell (o:=o+0+j) (by omega)).1) (fun j c=>(h.cell (o:=o+0+j) (by omega)).2) (fun u e=>Ks (a u e))
 simp[Instr.storeAt,Instr.sureAddr,storeVar,I.sizeOf,f];omega
theorem bS{m Sh}{x:τ.sJ}{o:Nat}(f:AU P τ (.inl t)=true)(hv:Cg m Sh τ x v)(h:BY w b k)(g:o+τ.cells<=k):
  (Instr.storeAt t (.pointer (some ⟨b,o,none⟩)) v).run P w=.ok () (w.setCells b o v.cells.toList):=
 XB f hv.cells.1 hv.cells.2 h g
theorem Sj{P:Program}:∀(f:Nat)(τ:Ty)(c:List Field)(off:Nat),AU P τ (.inr (c,off))=true->Dk τ f=true->
  ∃g τ' k,c[f]?=some g/\g.offset=off+k/\AU P τ' (.inl g.type)=true/\0<τ'.cells/\∀(m:DJ) b o,loc m τ (.at b o) (BE f)=some (τ',.at b (o+k))
 |0,τ,c,off,h,d=>by
  cases τ with
  |pair a b=>
   cases c with
   |nil=>simp[AU]at h
   |cons g r=>
    simp[AU]at h;exact⟨g,a,0,rfl,by omega,h.1.1.2,h.1.2,fun _ _ _=>rfl⟩
  |_=>simp[Dk]at d
 |f+1,τ,c,off,h,d=>by
  cases τ with
  |pair a b=>
   cases c with
   |nil=>simp[AU]at h
   |cons g r=>
    simp only[AU,EV]at h;obtain⟨e,τ',k,p,q,j,l,n⟩:=Sj f b r (off+a.cells) h.2 d;exact⟨e,τ',a.cells+k,by simp_all,by omega,j,l,fun m i o=>by
     have:=n m i (o+a.cells)
     rw[show o+a.cells+k=o+(a.cells+k)from by omega]at this;exact this⟩
  |_=>simp[Dk]at d
theorem PS{P:Program}{τ:Ty}{t:TypeId}{f:Nat}(h:AU P τ (.inl t)=true)(k:Dk τ f=true):∃g:Array Field,P.underlying t=some (.struct g)/\AU P τ (.inr (g.toList,0))=true:=by
 cases τ with
 |pair a b=>
  simp[AU]at h;grind[AU]
 |_=>cases f<;>simp[Dk]at k
theorem TP{f o:Nat}(h:AU P τ (.inl t)=true)(c:Dk τ f=true):
  ∃τ' k,(Instr.fieldAt t (.pointer (some ⟨b,o,none⟩)) f).run P w=.ok (.pointer (some ⟨b,o+k,none⟩)) w/\(∀(m:DJ) b o,loc m τ (.at b o) (BE f)=some (τ',.at b (o+k))):=by
 obtain⟨e,p,n⟩:=PS h c;obtain⟨d,τ',k,q,i,j,r,l⟩:=Sj f τ _ 0 n c;obtain⟨I⟩:=AM (AY j);have g:e[f]?=some d:=by simp_all
 refine⟨τ',k,?_,l⟩;have a:¬ (τ'.cells=0):=by omega
 simp[Instr.fieldAt,run_underlying p,g,Instr.sureAddr,fieldPlace,I.sizeOf,a,Addr.add_lit,i]
theorem BQ{o:Bool}(h:AU P (.list o e) (.inl t)=true):∃g,P.underlying t=some (.slice g)/\AU P e (.inl g)=true/\0<e.cells:=by
 simp[AU]at h;grind
theorem Pj(h:AU P (.arr n e) (.inl t)=true):∃g,P.underlying t=some (.array n g)/\AU P e (.inl g)=true/\0<e.cells:=by
 simp[AU]at h;grind
theorem a2C(τ:Ty):∀rd,EG τ.sh rd=EG τ rd:=by
 induction τ with
 |pair a b iha ihb=>simp_all[Ty.sh,EG,Ty.sW]
 |arr n t h=>simp_all[Ty.sh,EG,Ty.sW]
 |list o t _=>intro rd;rfl
 |nl t _=>simp_all[Ty.sh,EG]
 |_=>intro rd;rfl
theorem Fo{P:Program}:∀(τ:Ty)(s:TypeId ⊕ (List Field×Nat)),AU P τ.sh s=AU P τ s:=by
 have c:=a2C;have k:∀τ:Ty,τ.sh.isAgg=τ.isAgg:=by intro τ;cases τ<;>rfl
 have hb:∀(τ:Ty) t,KN P τ.sh t=KN P τ t:=by
  simp_all[KN,Ty.sW]
 intro τ
 induction τ with
 |pair a b iha ihb=>
  intro s;cases s with
  |inl t=>
   grind[Ty.sh,AU,Ty.sW]
  |inr p=>
   obtain⟨g,f⟩:=p;cases g<;>simp only[Ty.sh,AU,iha,ihb,Ty.sW]
 |list o t h=>
  grind[Ty.sh,AU,Ty.sW]
 |nl t h=>
  grind[Ty.sh,AU,Ty.sW]
 |arr n t h=>
  grind[Ty.sh,AU,Ty.sW]
 |_=>intro s;rfl
def AJ(a:Act):Nat->Value:=fun i=>a.tmps.getD i undef
def Ch(N:Nat):Operand->Bool
 |.tmp t=>A3 (t<N)
 |_=>true
def fits(N:Nat)(o:Oper):Bool:=o.op.operands.toList.all (Ch N)&&(match o.dst with|some d=>A3 (d<N)|none=>true)
def a5R(P:Program)(τ:Ty)(t:TypeId):Prop:=
 ∀(m:DJ) Sh (x y:τ.sJ) u v w xo yo,Cg m Sh τ x u->Cg m Sh τ y v->
  ((eqGuard .eql t xo yo u v).run P w=.ok () w/\(binOp .eql t u v).run P w=.ok (.bool (nE τ x y)) w)/\
  ((eqGuard .neq t xo yo u v).run P w=.ok () w/\(binOp .neq t u v).run P w=.ok (.bool (!nE τ x y)) w)
structure CxTy (P:Program) (cx:Cx):Prop where
 T:∀t τ,cx.T t=some τ->τ.sh=τ/\AU P τ (.inl t)=true

 Q:∀t,cx.Q t=true->∃e,P.underlying t=some (.pointer e)
 E:∀t τ,cx.E t=true->cx.T t=some τ->τ.isAgg=true->a5R P τ t
theorem TQ{a:Act}{d:Nat}{v:Value}(i:Nat)(hi:i<a.tmps.size):AJ (a.put (some d) v) i=if i=d then v else AJ a i:=by
 simp[AJ,Act.put];grind
theorem TR{a:Act}{d:Option Nat}{v:Value}:(a.put d v).tmps.size=a.tmps.size:=by
 cases d<;>simp[Act.put]
theorem Sk{a:Act}{d:Option Nat}{v:Value}:(a.put d v).defers=a.defers:=by
 cases d<;>rfl
section
variable {P:Program} {B:Base} {N:Nat} {Z:Type} {U:AE} {a:Act} {w:World} {M:Gh}
theorem sK.sM(h:sK B U N (AJ a) w M){x:Operand}(k:Ch N x=true):AA (Ad w M.ov) M.g U.rt (Be B w M) (U.sM x) (a.eval x):=by
 cases x with
 |tmp t=>
  simp[Ch]at k
  have:=h.slots t k
  simp[AE.sM,AE.get];revert this;cases U.sl t with
  |one v=>exact fun h=>h
  |cmp c b=>exact fun _=>trivial
 |const v=>
  simp[AE.sM,Act.eval];unfold Xt;split;exact AA.tH _;exact AA.tF _;exact AA.vV _;rfl;rfl;trivial
 |global g=>rfl
 |func f=>trivial
theorem sK.uN(h:sK B U N (AJ a) w M)(f:a.tmps.size=N){sv:SV}(hv:d<N->Ws (Ad w M.ov) M.g U.rt (Be B w M) sv v):
  sK B (U.put d sv) N (AJ (a.put (some d) v)) w M:=
 h.put hv fun i k=>TQ i (by omega)
def AZ(P:Program)(B:Base)(N:Nat)(o:Oper)(a:Act)(w:World)(K:AE->Rs Z)(z:Z):Prop:=
 ∃v w' U' M',((execOp a.eval o).run P w=.ok (.value v) w'\/((execOp a.eval o).run P w=.ok .skip w'/\v=undef))/\sK B U' N (AJ (a.put o.dst v)) w' M'/\K U'=some z
theorem AZ.set{o:Oper}{K:AE->Rs Z}{z:Z}{d:Nat}{v:Value}{w':World}{k:AE}{M':Gh}{av:AV}(e:o.dst=some d)(c:a.tmps.size=N)(f:(execOp a.eval o).run P w=.ok (.value v) w')
  (h:sK B k N (AJ a) w' M')(hv:AA (Ad w' M'.ov) M'.g k.rt (Be B w' M') av v)(b:K (k.set d av)=some z):AZ P B N o a w K z:=
 ⟨v,w',k.set d av,M',.inl f,by rw[e];exact h.uN c (fun _=>hv),b⟩
theorem Bl(h:fits N o=true):∀x∈o.op.operands.toList,Ch N x=true:=by
 simp only[fits,EV,lA]at h;grind
theorem Ah{β:Type}{b:Bool}{x y:Option β}{z:β}(h:(bif b then x else y)=some z):(b=true/\x=some z)\/(b=false/\y=some z):=by
 grind
theorem a9n{o:Oper}{x:Operand}{d:Nat}{cx:Cx}{q:Bool}{K:AE->Rs Z}{z:Z}(j:o.op=.move x)(c:o.dst=some d)(h:sK B U N (AJ a) w M)(e:a.tmps.size=N)(l:fits N o=true)
  (b:Bk cx q o U K=some z):AZ P B N o a w K z:=by
 have i:Ch N x=true:=Bl l x (by simp[j,Op.operands]);have k:(execOp a.eval o).run P w=.ok (.value (a.eval x)) w:=by simp[execOp,j]
 simp[Bk,j,c]at b;cases x with
 |tmp t=>
  simp at b;have m:t<N:=by simpa[Ch]using i
  exact⟨_,w,_,M,.inl k,by rw[c];exact h.uN e (fun _=>h.slots t m),b⟩
 |const v=>exact AZ.set c e k h (h.sM i) b
 |global g=>exact AZ.set c e k h (h.sM i) b
 |func f=>exact AZ.set c e k h (h.sM i) b
theorem a9o{o:Oper}{c x y:Operand}{d:Nat}{cx:Cx}{q:Bool}{K:AE->Rs Z}{z:Z}(k:o.op=.pick c x y)(l:o.dst=some d)(h:sK B U N (AJ a) w M)(p:a.tmps.size=N)(i:fits N o=true)
  (g:Bk cx q o U K=some z):AZ P B N o a w K z:=by
 have j:=h.sM (Bl i c (by simp[k,Op.operands]));have m:=h.sM (Bl i x (by simp[k,Op.operands]));have n:=h.sM (Bl i y (by simp[k,Op.operands]));simp[Bk,k,l,qB]at g;split at g
 ·rename_i b e;rw[e]at j;have r:=AA.bool j;have f:(execOp a.eval o).run P w=.ok (.value (if b then a.eval x else a.eval y)) w:=by simp_all[execOp,asBool]
  split at g;rename_i u v t A;rw[t]at m;rw[A]at n;refine AZ.set l p f h ?_ g;rw[AA.bool m,AA.bool n];cases b<;>exact AA.tF _
  ·rcases Ah g with⟨rfl,g⟩|⟨-,g⟩;all_goals grind[AZ.set]
  ·rcases Ah g with⟨-,g⟩|⟨rfl,g⟩;all_goals grind[AZ.set]
  simp_all
 simp_all
theorem nI{o:Oper}{x:Operand}{d:Nat}{cx:Cx}{q:Bool}{K:AE->Rs Z}{z:Z}(f:o.op=.nilCheck x)(j:o.dst=some d)(h:sK B U N (AJ a) w M)(m:a.tmps.size=N)(A:fits N o=true)
  (c:Bk cx q o U K=some z):AZ P B N o a w K z:=by
 have k:=h.sM (Bl A x (by simp[f,Op.operands]));simp[Bk,f,j]at c;split at c;rename_i n p l;rw[l]at k;obtain⟨r,t,b,g,e,i,u⟩:=k;exact AZ.set j m (v:=.pointer (some ⟨b,g,none⟩)) (by simp[execOp,f,u]) h (show AA _ _ _ _ (.ptr n p) _ from⟨r,t,b,g,e,i,rfl⟩) c;rename_i t y l;rw[l]at k;obtain⟨b,g,R,e,i⟩:=k;exact AZ.set j m (v:=.pointer (some ⟨b,g,none⟩)) (by simp[execOp,f,e]) h (show AA _ _ _ _ (.vptr t y) _ from⟨b,g,R,rfl,i⟩) c;simp_all
theorem a0w{o:Oper}{t:Nat}{i d:Nat}{cx:Cx}{q:Bool}{K:AE->Rs Z}{z:Z}(c:o.op=.extract (.tmp t) i)(b:o.dst=some d)(h:sK B U N (AJ a) w M)(p:a.tmps.size=N)(r:fits N o=true)
  (g:Bk cx q o U K=some z):AZ P B N o a w K z:=by
 have x:t<N:=by have:=Bl r (.tmp t) (by simp[c,Op.operands]);simpa[Ch]using this
 have e:=h.slots t x;simp[Bk,c,b]at g;split at g;rename_i C k;rw[k]at e;obtain⟨f,j,m⟩:=e;split at g;rename_i v y;obtain⟨u,A,n⟩:=m i v y;refine AZ.set b p (v:=u) ?_ h n g;have l:a.eval (.tmp t)=.tuple f:=j;simp_all[execOp,Instr.extract];simp_all;simp_all
theorem a9p{o:Oper}{m:UnOp}{ty:TypeId}{x:Operand}{d:Nat}{cx:Cx}{q:Bool}{K:AE->Rs Z}{z:Z}(c:o.op=.unOp m ty x)(i:o.dst=some d)(h:sK B U N (AJ a) w M)(j:a.tmps.size=N)(l:fits N o=true)
  (e:Bk cx q o U K=some z):AZ P B N o a w K z:=by
 have g:=h.sM (Bl l x (by simp[c,Op.operands]));simp only[Bk,c,i,AE.un]at e;split at e;rename_i b f;rw[f]at g;exact AZ.set i j (by simp[execOp,c,AA.bool g,Op.unary]) h (AA.tF _) e;rename_i k n f;rw[f]at g;exact AZ.set i j (by simp[execOp,c,AA.int g,Op.unary,Op.intArith]) h (AA.tH _) e;rename_i k n f;rw[f]at g;refine AZ.set i j (v:=.int k (bits k .xor (if k.signed then -1 else k.max) n)) ?_ h (AA.tH _) e
 simp[execOp,c,AA.int g,Op.unary,Op.intBits,bits];simp_all
theorem a2D{k:IntKind}{x y:Int}{K:AV->Rs Z}{z:Z}{k':IntKind}(b:Xu op=true\/k=k')(h:TJ op k x y K=some z):
  ∃av v,K av=some z/\(∀m g rt Sh,AA m g rt Sh av v)/\∀w,(binOp op t (.int k x) (.int k' y)).run P w=.ok v w:=by
 by_cases hs:Xu op=true;cases op<;>simp[Xu]at hs;simp[TJ]at h;rcases Ah h with⟨-,h⟩|⟨a,h⟩;grind;refine⟨_,_,h,fun _ _ _ _=>AA.tH _,fun w=>?_⟩
 have:¬ y<0:=by simp_all
 simp[binOp,Op.shift,this,AT];simp[TJ]at h;rcases Ah h with⟨-,h⟩|⟨a,h⟩;grind;refine⟨_,_,h,fun _ _ _ _=>AA.tH _,fun w=>?_⟩
 have:¬ y<0:=by simp_all
 simp[binOp,Op.shift,this,AR]
 ·have f:k=k':=by simp_all
  subst f;cases op<;>simp[Xu]at hs<;>simp only[TJ]at h
  case add=>exact⟨_,_,h,fun _ _ _ _=>AA.tH _,fun w=>by simp[binOp,Op.intArith]⟩
  case sub=>exact⟨_,_,h,fun _ _ _ _=>AA.tH _,fun w=>by simp[binOp,Op.intArith]⟩
  case mul=>exact⟨_,_,h,fun _ _ _ _=>AA.tH _,fun w=>by simp[binOp,Op.intArith]⟩
  case quo=>
   rcases Ah h with⟨-,h⟩|⟨a,h⟩;grind
   have:¬ y=0:=by simp_all
   exact⟨_,_,h,fun _ _ _ _=>AA.tH _,fun w=>by simp_all[binOp,Op.intDiv]⟩
  case rem=>
   rcases Ah h with⟨-,h⟩|⟨a,h⟩;grind
   have:¬ y=0:=by simp_all
   exact⟨_,_,h,fun _ _ _ _=>AA.tH _,fun w=>by simp_all[binOp,Op.intDiv]⟩
  case and=>exact⟨_,_,h,fun _ _ _ _=>AA.tH _,fun w=>by simp[binOp,Op.intBits,bits]⟩
  case or=>exact⟨_,_,h,fun _ _ _ _=>AA.tH _,fun w=>by simp[binOp,Op.intBits,bits]⟩
  case xor=>exact⟨_,_,h,fun _ _ _ _=>AA.tH _,fun w=>by simp[binOp,Op.intBits,bits]⟩
  case andNot=>exact⟨_,_,h,fun _ _ _ _=>AA.tH _,fun w=>by simp[binOp,Op.intBits,bits]⟩
  case eql=>exact⟨_,_,h,fun _ _ _ _=>AA.tF _,fun w=>by simp[binOp,Op.intCmp]⟩
  case neq=>exact⟨_,_,h,fun _ _ _ _=>AA.tF _,fun w=>by simp[binOp,Op.intCmp]⟩
  case lss=>exact⟨_,_,h,fun _ _ _ _=>AA.tF _,fun w=>by simp[binOp,Op.intCmp]⟩
  case leq=>exact⟨_,_,h,fun _ _ _ _=>AA.tF _,fun w=>by simp[binOp,Op.intCmp]⟩
  case gtr=>exact⟨_,_,h,fun _ _ _ _=>AA.tF _,fun w=>by simp[binOp,Op.intCmp]⟩
  case geq=>exact⟨_,_,h,fun _ _ _ _=>AA.tF _,fun w=>by simp[binOp,Op.intCmp]⟩
theorem a8j{s s':ByteArray}:((s.data.toList.map fun b=>(b.toNat:Int))==(s'.data.toList.map fun b=>(b.toNat:Int)))=(s.toList==s'.toList):=by
 have h:s.toList=s.data.toList:=ByteArray.toList_eq s;have g:s'.toList=s'.data.toList:=ByteArray.toList_eq s';rw[h,g,Bool.eq_iff_iff];simp only[beq_iff_eq];grind[List.map_inj_right,UInt8.toNat_inj]
theorem LK{ty h:TypeId}{x y:Operand}(k:o.op=.binOp op ty x y h)(g:(eqGuard op ty x y (a.eval x) (a.eval y)).run P w=.ok () w)(f:(binOp op ty (a.eval x) (a.eval y)).run P w=.ok v w):(execOp a.eval o).run P w=.ok (.value v) w:=by
 simp_all[execOp]
theorem a9q(h:BinOp)(t:TypeId)(x y:Operand)(k:IntKind)(n:Int)(v:Value):(eqGuard h t x y (.int k n) v).run P w=.ok () w:=by
 rw[eqGuard_at_int];rfl
theorem a5S(h:BinOp)(t:TypeId)(x y:Operand)(n:Bool)(v:Value):(eqGuard h t x y (.bool n) v).run P w=.ok () w:=by
 simp[eqGuard_at_bool]
theorem a9r(h:BinOp)(t:TypeId)(x y:Operand)(n:ByteArray)(v:Value):(eqGuard h t x y (.string n) v).run P w=.ok () w:=by
 simp[eqGuard_at_string]
theorem Vf(h:BinOp)(t:TypeId)(x y:Operand)(n:Option Addr)(v:Value):(eqGuard h t x y (.pointer n) v).run P w=.ok () w:=by
 simp[eqGuard_at_pointer]
theorem b1t{ty:Nat}{t h:Ty}{u:t.sJ}{v:h.sJ}{K:AV->Rs Z}(hi:¬ ∃k k',t=.int k/\h=.int k')(hb:¬ (t=.bool/\h=.bool))(g:¬ (t=.str/\h=.str)):
  Xv cx op ty (.val t u) (.val h v) K=Zc cx op ty t u h v K:=by
 cases t<;>cases h<;>first|rfl|exact absurd ⟨_,_,rfl,rfl⟩ hi|exact absurd ⟨rfl,rfl⟩ hb|simp_all
theorem a0x(n:Nat){ty:TypeId}(h:P.underlying ty=some .bool)(u v:Bool)(w:World):(Op.equalIn (n+1) ty (.bool u) (.bool v)).run P w=.ok (u==v) w:=by
 simp[Op.equalIn,run_underlying h]
theorem gV{ty:TypeId}(h:P.underlying ty=some .bool)(u v:Bool)(w:World):(Op.equal ty (.bool u) (.bool v)).run P w=.ok (u==v) w:=a0x 9999 h u v w
theorem a2E(n:Nat){ty e:TypeId}(g:P.underlying ty=some (.pointer e))(u v:Option Addr)(h:u=none\/v=none)(w:World):
  (Op.equalIn (n+1) ty (.pointer u) (.pointer v)).run P w=.ok (u.isNone&&v.isNone) w:=by
 rcases h with rfl|rfl;simp[Op.equalIn,run_underlying g];cases u<;>simp[Op.equalIn,run_underlying g]
theorem nJ(k:Nat){ty e:TypeId}(h:P.underlying ty=some (.slice e))(A:Option Addr)(n c:Nat)(w:World):
  (Op.equalIn (k+1) ty (.slice A n c) (.slice none 0 0)).run P w=.ok A.isNone w:=by
 cases A<;>simp[Op.equalIn,run_underlying h]
theorem a0y{ty:TypeId}(u v:Bool)(w:World):(binOp .eql ty (.bool u) (.bool v)).run P w=((Op.equal ty (.bool u) (.bool v)).run P w).andThen fun b w'=>.ok (.bool b) w':=by
 simp_all[binOp]
theorem a0z{ty:TypeId}(u v:Bool)(w:World):(binOp .neq ty (.bool u) (.bool v)).run P w=((Op.equal ty (.bool u) (.bool v)).run P w).andThen fun b w'=>.ok (.bool !b) w':=by
 simp_all[binOp]
theorem bU{ty:TypeId}(u v:Option Addr)(w:World):(binOp .eql ty (.pointer u) (.pointer v)).run P w=((Op.equal ty (.pointer u) (.pointer v)).run P w).andThen fun b w'=>.ok (.bool b) w':=by
 simp_all[binOp]
theorem bV{ty:TypeId}(u v:Option Addr)(w:World):(binOp .neq ty (.pointer u) (.pointer v)).run P w=((Op.equal ty (.pointer u) (.pointer v)).run P w).andThen fun b w'=>.ok (.bool !b) w':=by
 simp_all[binOp]
theorem b1u{ty:Nat}{u v:Bool}{K:AV->Rs Z}{z:Z}(f:CxTy P cx)(h:Xv cx op ty (.val .bool u) (.val .bool v) K=some z):
  ∃r,K (.val .bool r)=some z/\(binOp op ty (.bool u) (.bool v)).run P w=.ok (.bool r) w:=by
 simp only[Xv]at h;split at h;rename_i k;have g:=(f.T ty _ k).2;have a:P.underlying ty=some .bool:=by
  simp[AU]at g;grind
 split at h;exact⟨_,h,by simp_all[a0y,gV]⟩;exact⟨_,h,by rw[a0z,gV a];rfl⟩;simp_all;simp_all
theorem b4X{ty:Nat}{s s':ByteArray}{m g rt Sh}{K:AV->Rs Z}{z:Z}(h:Xv cx op ty (.val .str (s.data.toList.map fun b=>(b.toNat:Int):List Int)) (.val .str (s'.data.toList.map fun b=>(b.toNat:Int):List Int)) K=some z):
  ∃r v,K r=some z/\AA m g rt Sh r v/\(binOp op ty (.string s) (.string s')).run P w=.ok v w:=by
 simp only[Xv]at h;split at h;refine⟨_,_,h,AA.tF _,?_⟩;simp_all[a8j,binOp,Op.stringOp];refine⟨_,_,h,AA.tF _,?_⟩;simp_all[bne,a8j,binOp,Op.stringOp];rcases Ah h with⟨k,h⟩|⟨-,h⟩;have f:s.size+s'.size<2147483648:=by simp_all
 refine⟨_,.string (s++s'),h,?_,?_⟩
 have:=AA.vV (m:=m) (g:=g) (rt:=rt) (Sh:=Sh) (s++s')
 simp_all
 have:¬ (9223372036854775807<(s.size:Int)+(s'.size:Int)):=by omega
 simp_all[binOp,Op.stringOp];simp_all;simp_all
theorem Na{ty e:TypeId}(g:P.underlying ty=some (.pointer e))(u v:Option Addr)(h:u=none\/v=none)(w:World):
  (Op.equal ty (.pointer u) (.pointer v)).run P w=.ok (u.isNone&&v.isNone) w:=a2E 9999 g u v h w
theorem Cg.header{m Sh}{t:Ty}{l:List t.sJ}(h:Cg m Sh (.list false t) l v):
  ∃A n c,v=.slice A n c/\n=l.length/\n<=c/\(∀f,A=some f->c=0\/f.spot=none)/\(A=none->c=0):=by
 obtain⟨R,g,b⟩:=h.rd rfl rfl;have g:Cn m false t.cells (AO m t) (some v)=some (l,[],R):=g;unfold Cn at g;split at g;grind;rename_i A n c a;simp at a;split at g;rename_i d;split at g;grind;rename_i o i j k;have e:=Bd n 0 k;grind;simp_all;simp_all
theorem a5T{P:Program}{o:Bool}(h:AU P (.list o e) (.inl t)=true):∃g,P.underlying t=some (.slice g):=by
 simp[AU]at h;grind
theorem a5U{o:Oper}{op:BinOp}{ty h1:TypeId}{x y:Operand}{d:Nat}{cx:Cx}{q:Bool}{K:AE->Rs Z}{z:Z}(D:CxTy P cx)(i:o.op=.binOp op ty x y h1)(j:o.dst=some d)
  (h:sK B U N (AJ a) w M)(C:a.tmps.size=N)(hf:fits N o=true)(g:Bk cx q o U K=some z):AZ P B N o a w K z:=by
 have F:=h.sM (Bl hf x (by simp[i,Op.operands]));have m:=h.sM (Bl hf y (by simp[i,Op.operands]));simp[Bk,i,j]at g;rcases Ah g with⟨-,g⟩|⟨-,g⟩
 ·
  split at g
  case h_2=>grind
  rename_i e O;split at g;grind
  ·unfold a5M at O;split at O
   ·rename_i o1 G H l hT S V;simp at O;rw[S]at F;rw[V]at m;obtain⟨A,n,c,hv,hn,h2,-,hA⟩:=Cg.header F;have m:a.eval y=.slice none 0 0:=m;obtain⟨e',R⟩:=a5T (D.T ty _ hT).2;have h3:(Op.equal ty (a.eval x) (a.eval y)).run P w=.ok A.isNone w:=by
     rw[hv,m];exact nJ 9999 R A n c w
    have f:(eqGuard op ty x y (a.eval x) (a.eval y)).run P w=.ok () w:=by simp_all[eqGuard_at_slice]
    have h4:e=false->A.isNone=false:=fun L=>by
     cases A with
     |some A=>rfl
     |none=>
      grind
    unfold b9w at g;split at g
    ·have I:K (U.set d (.val .bool A.isNone))=some z:=by
      rcases Ah g with⟨-,g⟩|⟨L,g⟩
      ·obtain⟨z1,z2⟩:=gN g;cases hb:A.isNone;all_goals omega
      grind
     exact AZ.set j C (v:=.bool A.isNone) (LK i f (by
      simp_all[binOp])) h (AA.tF _) I
    ·have I:K (U.set d (.val .bool (!A.isNone)))=some z:=by
      rcases Ah g with⟨-,g⟩|⟨L,g⟩;all_goals grind[gN]
     exact AZ.set j C (v:=.bool (!A.isNone)) (LK i f (by
      simp_all[binOp])) h (AA.tF _) I
    simp_all
   simp_all
 revert g F m;cases S:U.sM x<;>cases V:U.sM y<;>intro F m g
 case val.val t u t' v=>
  by_cases hint:∃k k',t=.int k/\t'=.int k';obtain⟨k,k',rfl,rfl⟩:=hint;simp only[Xv]at g;split at g;rename_i hk;obtain⟨av,rv,I,h0,X⟩:=a2D (P:=P) (t:=ty) (k':=k') (by simp_all) g;have G:=AA.int F;have H:=AA.int m;exact AZ.set j C (LK i (by grind[a9q]) (by simp_all)) h (h0 _ _ _ _) I;simp_all;by_cases hb:t=.bool/\t'=.bool;obtain⟨rfl,rfl⟩:=hb;have G:=AA.bool F;have H:=AA.bool m;obtain⟨r,I,hr⟩:=b1u (P:=P) (w:=w) D g;exact AZ.set j C (LK i (by grind[a5S]) (by simp_all)) h (AA.tF _) I;by_cases hs:t=.str/\t'=.str;obtain⟨rfl,rfl⟩:=hs;obtain⟨s,G,rfl⟩:=AA.str F;obtain⟨s',H,rfl⟩:=AA.str m;obtain⟨r,rv,I,X,hr⟩:=b4X (P:=P) (w:=w) g;exact AZ.set j C (LK i (by simp_all[a9r]) (by simp_all)) h X I;rw[b1t hint hb hs]at g;unfold Zc at g;split at g;rename_i ht;subst ht;rcases Ah g with⟨hc,g⟩|⟨-,g⟩;simp at hc;have L:=D.E ty _ hc.1.1 hc.2 hc.1.2 (Ad w M.ov) (Be B w M) u v (a.eval x) (a.eval y) w x y F m;split at g;exact AZ.set j C (LK i L.1.1 L.1.2) h (AA.tF _) g;exact AZ.set j C (LK i L.2.1 L.2.2) h (AA.tF _) g;simp_all;simp_all;simp_all
 case nilp.nilp=>
  simp only[Xv]at g;split at g;rename_i hp;obtain⟨e,R⟩:=D.Q ty hp;have G:a.eval x=.pointer none:=F;have H:a.eval y=.pointer none:=m;split at g;exact AZ.set j C (v:=.bool true) (LK i (by simp_all[Vf]) (by rw[G,H,bU,Na R none none (.inl rfl)];rfl)) h (AA.tF _) g;exact AZ.set j C (v:=.bool false) (LK i (by simp_all[Vf]) (by rw[G,H,bV,Na R none none (.inl rfl)];rfl)) h (AA.tF _) g;simp_all;simp_all
 case ptr.nilp n p=>
  simp only[Xv]at g;split at g;rename_i hp;obtain⟨e,R⟩:=D.Q ty hp;obtain⟨r,t,b,Y,-,-,G⟩:=F;have H:a.eval y=.pointer none:=m;split at g;exact AZ.set j C (v:=.bool false) (LK i (by simp_all[Vf]) (by rw[G,H,bU,Na R (some ⟨b,Y,none⟩) none (.inr rfl)];rfl)) h (AA.tF _) g;exact AZ.set j C (v:=.bool true) (LK i (by simp_all[Vf]) (by rw[G,H,bV,Na R (some ⟨b,Y,none⟩) none (.inr rfl)];rfl)) h (AA.tF _) g;simp_all;simp_all
 all_goals (simp only[Xv]at g;cases g)
end
theorem Fp{A:Addr}(h:A.spot=none)(k:Nat):A.add k=⟨A.block,A.off+k,none⟩:=by
 obtain⟨b,o,s⟩:=A;simp_all[Addr.add_lit]
theorem Pk{t:Ty}{rd:Nat->Option Value}{x O R}(k:t.tL=t)(h:AO m t rd=some (x,O,R)):O=[]:=by
 obtain⟨g,f,-⟩:=Xz t h;grind
theorem Vg{l:List α}{x:α}(h:Az l i=some x):0<=i/\i.toNat<l.length/\l[i.toNat]?=some x:=by
 grind[Az]
theorem Cg.elem{m Sh}{t:Ty}{l:List t.sJ}(o:t.sh=t)(h:Cg m Sh (.list false t) l v){i:Nat}{x:t.sJ}(q:l[i]?=some x):
  ∃A n c R,v=.slice (some A) n c/\A.spot=none/\n=l.length/\n<=c/\AO m t ((Src.at A.block (A.off+i*t.cells)).rd m)=some (x,[],R)/\Sh A.block/\∀b∈R,Sh b:=by
 obtain⟨R,g,B⟩:=h.rd rfl rfl;have g:Cn m false t.cells (AO m t) (some v)=some (l,[],R):=g;unfold Cn at g;split at g;simp_all;rename_i A n c p;simp at p;split at g;rename_i C;split at g;grind;rename_i K G I f;simp[gR]at f;have D:=Bd n 0 f;simp at g;split at g;simp_all;simp only[sj,pJ]at g;obtain⟨rfl,-,rfl⟩:=g;have j:i<n:=by grind
 obtain⟨y,F,H,r,u,d,e,a,k,w,z⟩:=Bf n 0 i f j;rw[q]at k;simp at k;subst k;simp at a;have E:=Pk (Ty.uX t o) a;grind;simp_all;simp_all
theorem Cg.window{m Sh}{t:Ty}{l:List t.sJ}{A:Option Addr}{lo hi:Nat}(h:Cg m Sh (.list false t) l (.slice A n c))(Z:lo<=hi)(h2:hi<=n){d:Option Addr}(D:d=if c=lo then A else A.map fun a=>a.add (lo*t.cells)):Cg m Sh (.list false t) ((l.take hi).drop lo) (.slice d (hi-lo) (c-lo)):=by
 obtain⟨U,n0,V,z,L,r,j,E⟩:=h.header;simp at z;obtain⟨rfl,rfl,rfl⟩:=z;have o:∀B,d=some B->c-lo=0\/B.spot=none:=by
  intro B p;rw[D]at p;split at p;omega
  ·cases A with
   |none=>simp_all
   |some a=>
    simp at p;rw[<-p,Fp ((j a rfl).resolve_left (by omega))]
    simp
 by_cases he:lo=hi
 ·subst he;have e:(l.take lo).drop lo=[]:=by simp
  rw[e];refine Cg.one (t:=.list false t) (R:=[]) rfl rfl ?_ (by simp) rfl;show Cn m false t.cells (AO m t) (some (.slice d (lo-lo) (c-lo)))=_;cases d with
  |none=>
   have u:c-lo=0:=by
    split at D;omega
    ·cases A with
     |none=>grind
     |some a=>simp_all
   simp[Cn,u];rfl
  |some B=>
   have M:=o B rfl;simp[Cn,M,Ak];rfl
 ·obtain⟨R,f,I⟩:=h.rd rfl rfl;have f:Cn m false t.cells (AO m t) (some (.slice A n c))=some (l,[],R):=f;cases A with
  |none=>simp_all
  |some a=>
   have w:=(j a rfl).resolve_left (by omega);simp only[Cn,gR]at f;rw[if_pos ⟨.inr w,r⟩]at f;split at f;grind
   ·rename_i F os rs C;have K:n≠0:=by omega
    simp only[C8,if_false,K]at f;simp only[sj,pJ]at f;obtain⟨rfl,-,rfl⟩:=f;have q:d=some ⟨a.block,a.off+lo*t.cells,none⟩:=by
     grind[Fp]
    subst q;rw[show n=lo+((hi-lo)+(n-hi))from by omega]at C;obtain⟨N,Q,O,S,X,G,rfl,rfl⟩:=Fm lo _ 0 C;obtain⟨x,y,P,T,H,Y,rfl,rfl⟩:=Fm (hi-lo) _ (0+lo) G;have g:∀(k i:Nat),Ak (fun i=>AO m t ((Src.at a.block (a.off+lo*t.cells+i*t.cells)).rd m)) k i=Ak (fun i=>AO m t ((Src.at a.block (a.off+i*t.cells)).rd m)) k (lo+i):=by
     intro k
     induction k with
     |zero=>intro i;rfl
     |succ k ih=>
      grind[Ak]
    refine Cg.one (t:=.list false t) (R:=a.block::(x.map (·.1)++y)) rfl rfl ?_ (fun b hb=>I b ?_) rfl;show Cn m false t.cells (AO m t) (some (.slice (some ⟨a.block,a.off+lo*t.cells,none⟩) (hi-lo) (c-lo)))=_;simp only[Cn,gR];rw[if_pos ⟨.inr trivial,by omega⟩,g,show lo+0=0+lo from by omega,H];have v:¬ (hi-lo=0):=by omega
    have e:C9 (hi-lo) (D2 lo F)=D2 lo (C9 hi F):=by rw[D8]
    simp[v,e];rfl;grind
section
variable {P:Program} {B:Base} {N:Nat} {Z:Type} {U:AE} {a:Act} {w:World} {M:Gh}
theorem Zi{n p}{K:(e:Ty)->List e.sJ->Rs Z}{z:Z}(h:U.body n p K=some z):∃r e l,U.pd=none/\U.rt n=some r/\Dc r.t r.x p=⟨.list true e,l⟩/\K e l=some z:=by
 grind[AE.body,AX]
theorem a5V{n p}{K:(e:Ty)->List e.sJ->Rs Z}{z:Z}(h:U.wS n p K=some z):∃r e l,U.rt n=some r/\Dc r.t r.x p=⟨.list true e,l⟩/\K e l=some z:=by
 unfold AE.wS at h;split at h;rename_i r f;split at h;rename_i e l g;exact⟨r,e,l,f,g,h⟩;cases h;cases h
theorem OX{f:Nat}{lo hi:Option Operand}{K:Nat->Nat->Rs Z}{z:Z}(h:sK B U N (AJ a) w M)(A:∀x,lo=some x->Ch N x=true)(v:∀x,hi=some x->Ch N x=true)
  (g:U.uU f lo hi K=some z):∃x y,K x y=some z/\x<=y/\y<=f/\(lo=none->x=0)/\(hi=none->y=f)/\
   ∀s b,f<=b->(Instr.sliceBounds s f b (lo.map a.eval) (hi.map a.eval) none).run P w=.ok (x,y,b) w:=by
 have r:∀{m d:Nat}{o:Option Operand}{u:Nat->Rs Z}{z:Z},(∀x,o=some x->Ch N x=true)->d<=m->U.bnd m d o u=some z->
   ∃y,u y=some z/\y<=m/\(o=none->y=d)/\(∀x,o=some x->∃k,a.eval x=.int k (y:Int)):=by
  intro m d o u z C I g;unfold AE.bnd at g;cases o with
  |none=>simp_all
  |some o=>
   simp only at g;have C:=h.sM (C o rfl);split at g;rename_i k y t;rw[t]at C;rcases Ah g with⟨F,g⟩|⟨-,g⟩;simp at F;refine⟨y.toNat,g,by omega,by simp,?_⟩;rintro x ⟨⟩;exact⟨k,by grind[AA.int]⟩;simp_all;simp_all
 unfold AE.uU at g;obtain⟨y,g,D,q,E⟩:=r v (C0 _) g;obtain⟨x,g,p,i,l⟩:=r A (Nat.zero_le _) g;refine⟨x,y,g,p,D,i,q,fun s b e=>?_⟩;have hb:∀(n m:Nat) k c,n<=m->(Instr.sliceBound (.int k (n:Int)) m c).run P w=.ok n w:=fun n m k c G=>by
  simp_all[Instr.sliceBound,asIntOf]
 cases hi with
 |none=>
  have:=q rfl
  subst this;cases lo with
  |none=>
   have:=i rfl
   simp_all[Instr.sliceBounds]
  |some o=>
   obtain⟨k,t⟩:=l o rfl;simp_all[Instr.sliceBounds]
 |some H=>
  obtain⟨L,j⟩:=E H rfl;cases lo with
  |none=>
   have:=i rfl
   subst this;simp[Instr.sliceBounds,j,hb _ _ _ _ (B4 D e)]
  |some o=>
   obtain⟨k,t⟩:=l o rfl;simp[Instr.sliceBounds,t,j,hb _ _ _ _ p,hb _ _ _ _ (B4 D e)]
end
section
variable {P:Program} {B:Base} {N:Nat} {Z:Type} {U:AE} {a:Act} {w:World} {M:Gh}
theorem sK.uY(h:sK B U N (AJ a) w M){n p v r}(d:AA (Ad w M.ov) M.g U.rt (Be B w M) (.sref n p) v)(j:U.rt n=some r)(i:Dc r.t r.x p=⟨.list true e,l⟩):
  ∃s A c,loc (Ad w M.ov) r.t (M.g n) p=some (.list true e,s)/\s.rd (Ad w M.ov) 0=some v/\v=.slice A l.length c/\l.length<=c/\(∀k,A=some k->c=0\/k.spot=none)/\(A=none->c=0):=by
 obtain⟨s,m,o,q,u,y,b,z,C⟩:=h.slice d j i;refine⟨s,?_⟩;rcases Cr b with⟨f,rfl,-⟩|⟨A,G,c,H,f,D,E,F,-⟩;simp[Src.rd]at f;grind;simp[Src.rd]at f;grind[Bd]
theorem Rj{A:Option Addr}{x y:Nat}{lo hi:Option Value}(h:P.underlying t=some (.slice t'))(I:vG P e t')(hb:(Instr.sliceBounds true n c lo hi none).run P w=.ok (x,y,c) w):
  (Instr.sliceAt t (.slice A n c) lo hi none).run P w=.ok (.slice (if c=x then A else A.map fun a=>a.add (x*e.cells)) (y-x) (c-x)) w:=by
 simp[Instr.sliceAt,Instr.slice,run_underlying h,hb,I.sizeOf]
theorem a0A{ty:Option Ty}{v:AV}{K:AV->Rs Z}{z:Z}(h:fZ ty v K=some z):∃o e,ty=some (.list o e)/\K .empt=some z/\
  ((∃o t l,v=.val (.list o t) l)\/v=.nils\/v=.empt\/(∃n p,v=.sref n p)\/∃n p o k,v=.swin n p o k):=by
 unfold fZ at h;grind
theorem a5W{o:Oper}{t:TypeId}{x:Operand}{lo hi mx:Option Operand}{d:Nat}{cx:Cx}{q:Bool}{K:AE->Rs Z}{z:Z}(S:CxTy P cx)(ho:o.op=.slice t x lo hi mx)(hd:o.dst=some d)
  (h:sK B U N (AJ a) w M)(hN:a.tmps.size=N)(hf:fits N o=true)(C:Bk cx q o U K=some z):AZ P B N o a w K z:=by
 have h9:∀y∈(o.op.operands.toList),Ch N y=true:=Bl hf;rw[ho]at h9;have E:=h.sM (h9 x (by simp[Op.operands]));have h5:∀y,lo=some y->Ch N y=true:=by rintro y rfl;simp_all[Op.operands]
 have h0:∀y,hi=some y->Ch N y=true:=by rintro y rfl;simp_all[Op.operands]
 have O:∀v,(Instr.sliceAt t (a.eval x) (lo.map a.eval) (hi.map a.eval) (mx.map a.eval)).run P w=.ok v w->(execOp a.eval o).run P w=.ok (.value v) w:=fun v G=>by simp[execOp,ho,G]
 simp[Bk,ho,hd,AE.wQ]at C;cases mx with
 |some m=>
  simp only at C;rcases Ah C with⟨hc,k8⟩|⟨-,C⟩;simp at hc;obtain⟨⟨hm,hh⟩,rfl⟩:=hc;clear C;have h8:∀y:Option Operand,Zd y=true->∃k,y.map a.eval=some (.int k 0):=by
   intro y hy;unfold Zd at hy;split at hy;rename_i k;exact⟨k,rfl⟩;simp_all
  obtain⟨km,em⟩:=h8 _ hm;obtain⟨kh,eh⟩:=h8 _ hh;obtain⟨o1,e1,Y,C,k0⟩:=a0A k8;obtain⟨h7,u⟩:=S.T t _ Y;obtain⟨t',X,f,-⟩:=BQ u;obtain⟨I⟩:=AM (AY f);have k9:∀(A:Option Addr) n c,a.eval x=.slice A n c->AZ P B N o a w K z:=by
   intro A n c G;have g9:(Instr.sliceBounds true n c none (hi.map a.eval) (some (.int km 0))).run P w=.ok (0,0,0) w:=by
    rw[eh];rfl
   refine AZ.set hd hN (v:=.slice A 0 0) (O _ ?_) h (av:=.empt) ⟨A,rfl⟩ C;rw[G,em];simp[Instr.sliceAt,Instr.slice,run_underlying X,g9,I.sizeOf]
  rcases k0 with⟨o2,e2,l2,F⟩|F|F|⟨n,p,F⟩|⟨n,p,D,k,F⟩;rw[F]at E;have E:Cg (Ad w M.ov) (Be B w M) (.list o2 e2) l2 (a.eval x):=E;obtain⟨R,Q,h2⟩:=E.rd rfl rfl;have Q:Cn (Ad w M.ov) o2 e2.cells (AO (Ad w M.ov) e2) (some (a.eval x))=some (l2,[],R):=Q;unfold Cn at Q;grind;rw[F]at E;exact k9 none 0 0 E;rw[F]at E;obtain⟨A,G⟩:=E;simp_all;rw[F]at E;obtain⟨r,e,s,Q,h2,h3⟩:=E;obtain⟨O',R,g1,g2,-⟩:=h.sep Q;obtain⟨y,O1,R1,_,_,_,_,g3,g4,-⟩:=BU _ r.t _ g1 h2;obtain⟨s',A,c,-,-,G,-,hA,-⟩:=h.uY ⟨r,e,s,Q,h2,h3⟩ Q g4;simp_all;rw[F]at E;obtain⟨r,e,s,a0,l0,c0,Q,h2,h3,h4,a',G,hA,-⟩:=E;simp_all;simp_all
 |none=>
  simp only at C;split at C
  
  rename_i l F;rw[F]at E;obtain⟨s,G,hl⟩:=AA.str E;split at C;rename_i Y;have u:=(S.T t _ Y).2;have X:P.underlying t=some .string:=by
   simp[AU]at u;grind
  obtain⟨H,y',hK,Q,h2,-,-,hb⟩:=OX h h5 h0 C;have k6:l.length=s.size:=by simp_all
  refine AZ.set hd hN (v:=.string (s.extract H y')) (O _ ?_) h ?_ hK;rw[G];have k4:(Instr.sliceBounds false s.size s.size (lo.map a.eval) (hi.map a.eval) none).run P w=.ok (H,y',s.size) w:=by
   have:=hb false s.size (by omega)
   rw[<-k6]at this|-;omega
  simp
  simp[Instr.sliceAt,Instr.slice,run_underlying X,k4]
  have:=AA.vV (m:=Ad w M.ov) (g:=M.g) (rt:=U.rt) (Sh:=Be B w M) (s.extract H y')
  simp_all[D8];simp_all
  
  rename_i e l F;rw[F]at E;split at C;rename_i Y;obtain⟨h7,u⟩:=S.T t _ Y;obtain⟨t',X,f,-⟩:=BQ u;obtain⟨I⟩:=AM (AY f);obtain⟨H,y',hK,Q,h2,-,-,hb⟩:=OX h h5 h0 C;obtain⟨A,n,c,G,hn,hc,hA,k2⟩:=Cg.header E;have k7:Cg (Ad w M.ov) (Be B w M) (.list false e) l (.slice A n c):=by rw[<-G];exact E
  refine AZ.set hd hN (O _ (by rw[G];exact Rj X I (by rw[hn];exact hb true c (by omega)))) h ?_ hK;exact Cg.window k7 Q (by omega) rfl;simp_all
  
  rename_i F;rw[F]at E;split at C;rename_i o1 e1 Y;obtain⟨h7,u⟩:=S.T t _ Y;obtain⟨t',X,f,-⟩:=BQ u;obtain⟨I⟩:=AM (AY f);obtain⟨H,y',hK,Q,h2,-,-,hb⟩:=OX h h5 h0 C;obtain rfl:y'=0:=by omega
  obtain rfl:H=0:=by omega
  have G:a.eval x=.slice none 0 0:=E;refine AZ.set hd hN (v:=.slice none 0 0) (O _ ?_) h (av:=.nils) rfl hK;rw[G,Option.map_none]
  have:=Rj (A:=none) X I (hb true 0 (by omega))
  simp_all;simp_all
  ·
   rename_i n p F;rw[F]at E;obtain⟨r,e,l,k5,hr,hg,C⟩:=Zi C;split at C
   ·rename_i Y;obtain⟨h7,u⟩:=S.T t _ Y;obtain⟨t',X,f,-⟩:=BQ u;rw[Fo]at f;obtain⟨I⟩:=AM (AY f);obtain⟨s,A,c,g1,g2,G,g3,hA,k2⟩:=h.uY E hr hg;split at C;refine AZ.set hd hN (v:=a.eval x) (O _ ?_) h E C;rw[G];have hb:(Instr.sliceBounds true l.length c none none none).run P w=.ok (0,l.length,c) w:=by rfl
    have:=Rj (A:=A) X I hb
    simp_all[Addr.add_zero']
    ·obtain⟨H,y',hK,Q,h2,-,-,hb⟩:=OX h h5 h0 C;refine AZ.set hd hN (O _ (by rw[G];exact Rj X I (hb true c g3))) h (av:=.swin n p H (y'-H)) ?_ hK;refine⟨r,e,s,A,l.length,c,hr,g1,by simp_all,by omega,_,rfl,?_,?_⟩
     ·intro A' g0;split at g0;omega
      ·cases A with
       |none=>simp_all
       |some a0=>
        simp at g0;rw[<-g0,Fp ((hA a0 rfl).resolve_left (by omega))]
        simp
     grind
   simp_all
  ·
   rename_i n p D k F;rw[F]at E;obtain⟨r,e,l,k5,hr,hg,C⟩:=Zi C;split at C
   ·rename_i Y;obtain⟨h7,u⟩:=S.T t _ Y;obtain⟨t',X,f,-⟩:=BQ u;rw[Fo]at f;obtain⟨I⟩:=AM (AY f);obtain⟨s,O',R',A,n0,c,g1,g2,g3,g4,g5,g6,A',G,g7,g8⟩:=h.window E hr hg;obtain⟨H,y',hK,Q,h2,-,-,hb⟩:=OX h h5 h0 C;have a4:n0<=c:=by
     rcases Cr g3 with⟨L,-⟩|⟨A0,nn,c',os,L,-,a3,-⟩<;>simp only[Src.rd,if_true,sj,Value.slice.injEq]at L<;>omega
    refine AZ.set hd hN (O _ (by rw[G];exact Rj X I (hb true (c-D) (by omega)))) h (av:=.swin n p (D+H) (y'-H)) ?_ hK;refine⟨r,e,s,A,n0,c,hr,g1,g2,by omega,_,by rw[show c-(D+H)=c-D-H from by omega],?_,?_⟩
    ·intro a2 h6;split at h6;omega
     ·cases A' with
      |none=>simp_all
      |some a0=>
       simp at h6;rw[<-h6,Fp ((g7 a0 rfl).resolve_left (by omega))]
       simp
    ·by_cases hcc:c-D=H;omega
     ·refine .inr ?_
      rw[if_neg hcc];rcases g8 with g8|g8;omega
      ·rw[g8];cases A with
       |none=>rfl
       |some a0=>
        have k3:a0.spot=none:=by
         rcases Cr g3 with⟨L,-⟩|⟨A0,nn,c',os,L,a5,-⟩;simp[Src.rd]at L;simp[Src.rd]at L;grind
        simp only[Option.map_some,Fp k3];rw[Fp rfl];grind
   simp_all
  
  rename_i k e l F;rw[F]at E;split at C;rename_i Y;obtain⟨h7,u⟩:=S.T t _ Y;obtain⟨t',X,f,-⟩:=Pj u;obtain⟨I⟩:=AM (AY f);obtain⟨H,y',hK,Q,h2,-,-,hb⟩:=OX h h5 h0 C;obtain⟨b,D,R,G,V,hS,hR⟩:=E;have L:Cg (Ad w M.ov) (Be B w M) (.list false e) l (.slice (some ⟨b,D,none⟩) k k):=by
   have V:Ak (fun i=>AO (Ad w M.ov) e fun j=>(Src.at b D).rd (Ad w M.ov) (i*e.cells+j)) k 0=some (l,[],R):=V;have k1:=Bd k 0 V;by_cases hk:k=0;subst hk;refine Cg.one (t:=.list false e) (R:=[]) rfl rfl ?_ (by simp) rfl
   have:l=[]:=C5.1 k1
   subst this;rfl;refine Cg.one (t:=.list false e) (R:=b::R) rfl rfl ?_ (fun c hc=>?_) rfl;show Cn _ false e.cells _ (some (.slice (some ⟨b,D,none⟩) k k))=_;simp only[Cn];rw[if_pos ⟨.inr trivial,C0 _⟩];have e2:Ak (fun i=>AO (Ad w M.ov) e fun j=>Ad w M.ov b (D+(i*e.cells+j))) k 0=some (l,[],R):=V;rw[e2];simp only[C8,if_false,hk];rfl;grind
  refine AZ.set hd hN (v:=.slice (some (if k=H then⟨b,D,none⟩else(⟨b,D,none⟩:Addr).add (H*e.cells))) (y'-H) (k-H)) (O _ ?_) h ?_ hK
  rw[G];have g9:=hb false k (C0 _)
  simp
  simp[Instr.sliceAt,run_underlying X,Instr.sureAddr];rw[g9];simp[I.sizeOf];exact Cg.window L Q (by omega) (by grind);simp_all;simp_all
end
section
variable {P:Program} {B:Base} {N:Nat} {Z:Type} {U:AE} {a:Act} {w:World} {M:Gh}
@[reducible] def VF:=Nat->Option ((t:Ty)×t.sJ)
def Za(G:VF)(B:Base):Prop:=
 ∀g t x,G g=some ⟨t,x⟩->g<B.size/\B.S g/\¬ B.F g/\∃w0:World,w0.heap[g]?=B.hp g/\AO (Ad w0 none) t ((Src.at g 0).rd (Ad w0 none))=some (x,[],[])
theorem sK.tY{tm:Nat->Value}{cx:Cx}(h:sK B U N tm w M)(D:Za cx.G B){av:AV}{v:Value}(a:AA (Ad w M.ov) M.g U.rt (Be B w M) av v):
  AA (Ad w M.ov) M.g U.rt (Be B w M) (cx.tY av) v:=by
 cases av with
 |tY g=>
  simp[Cx.tY];split
  ·rename_i t x E;obtain⟨l,m,y,i,z,A⟩:=D g t x E;have f:¬ BD M g:=fun I=>by
    rcases h.mine _ I with q|q;all_goals grind
   have F:=h.size;refine⟨g,0,[],a,AF t A (fun j _=>?_) (by simp),⟨by omega,.inl m,f⟩,by simp⟩;show Ad w M.ov g (0+j)=Ad i none g (0+j);have C:Ad w none g (0+j)=Ad i none g (0+j):=BF none ((h.frame g l y).trans z.symm) _;rw[<-C];cases hov:M.ov with
   |none=>rfl
   |some K=>
    obtain⟨b,o,u⟩:=K;have k:=h.pend;rw[hov]at k;cases hpd:U.pd with
    |none=>rw[hpd]at k;exact k.elim
    |some p=>
     obtain⟨n,p,d⟩:=p;rw[hpd]at k;obtain⟨r,e,L,c⟩:=k;rw[<-hov]at c;have hb:=h.place L c;have H:¬ (g=b/\0+j=o):=fun O=>f ⟨n,by simp_all⟩;simp_all[Ad]
  trivial
 |_=>exact a
theorem TS{A:Addr}{k:IntKind}(b:P.underlying t=some (.slice t'))(I:vG P e t')(f:A.spot=none)(h:0<=i)(g:i<n):
  (Instr.indexAt t (.slice (some A) n c) (.int k i)).run P w=.ok (.pointer (some ⟨A.block,A.off+i.toNat*e.cells,none⟩)) w:=by
 have a:0<=i/\i<(n:Int):=⟨h,g⟩;simp[Instr.indexAt,run_underlying b,asIntOf,a,I.sizeOf,Fp f]
theorem TT{o:Nat}{k:IntKind}(a:P.underlying t=some (.array n t'))(I:vG P e t')(h:0<=i)(g:i<n):
  (Instr.indexAt t (.pointer (some ⟨b,o,none⟩)) (.int k i)).run P w=.ok (.pointer (some ⟨b,o+i.toNat*e.cells,none⟩)) w:=by
 have f:0<=i/\i<(n:Int):=⟨h,g⟩;simp[Instr.indexAt,run_underlying a,asIntOf,f,I.sizeOf,Instr.sureAddr,Addr.add_lit]
theorem gX{o:Oper}{t:TypeId}{x i:Operand}{d:Nat}{cx:Cx}{q:Bool}{K:AE->Rs Z}{z:Z}(H:CxTy P cx)(hG:Za cx.G B)(ho:o.op=.indexAddr t x i)(hd:o.dst=some d)
  (h:sK B U N (AJ a) w M)(hN:a.tmps.size=N)(hf:fits N o=true)(g:Bk cx q o U K=some z):AZ P B N o a w K z:=by
 have L:∀y∈(o.op.operands.toList),Ch N y=true:=Bl hf;rw[ho]at L;have Q:=h.tY hG (h.sM (L x (by simp[Op.operands])));have hi:=h.sM (L i (by simp[Op.operands]));have E:∀v,(Instr.indexAt t (a.eval x) (a.eval i)).run P w=.ok v w->(execOp a.eval o).run P w=.ok (.value v) w:=fun v hv=>by simp[execOp,ho,hv]
 simp[Bk,ho,hd]at g;split at g
 case h_2=>grind
 rename_i k j h7;rw[h7]at hi;have h8:=AA.int hi;rw[h8]at E;simp[AE.uI]at g;split at g
 
 rename_i e l V;rw[V]at Q;split at g;rename_i S;obtain⟨O,u⟩:=H.T t _ S;obtain⟨t',hu,f,-⟩:=BQ u;obtain⟨I⟩:=AM (AY f);obtain⟨y,X,g⟩:=B8.1 g;obtain⟨h0,h1,h2⟩:=Vg X;have h6:e.sh=e:=by simpa[Ty.sh]using O
 obtain⟨A,n,c,R,hv,hA,hn,g0,m,hS,hR⟩:=Cg.elem h6 Q h2;refine AZ.set hd hN (E _ (by rw[hv];exact TS hu I hA h0 (by omega))) h (av:=.vptr e y) ?_ g;exact⟨A.block,A.off+j.toNat*e.cells,R,rfl,m,hS,hR⟩;simp_all
 ·
  rename_i n p V;rw[V]at Q;obtain⟨r,e,l,Y,X,g⟩:=a5V g;split at g
  ·rename_i S;obtain⟨O,u⟩:=H.T t _ S;obtain⟨t',hu,f,-⟩:=BQ u;rw[Fo]at f;obtain⟨I⟩:=AM (AY f);rcases Ah g with⟨F,g⟩|⟨-,g⟩
   ·simp at F;obtain⟨s,A,c,g1,g2,hv,g3,hA,k2⟩:=h.uY Q Y X;cases A with
    |none=>grind
    |some A=>
     refine AZ.set hd hN (E _ (by rw[hv];exact TS hu I ((hA A rfl).resolve_left (by omega)) F.1 F.2)) h (av:=.ptr n (p++[.idx j.toNat])) ?_ g;refine⟨r,e,A.block,A.off+j.toNat*e.cells,Y,?_,rfl⟩;rw[EF p _ _ _ g1];simp_all[Cj]
   simp_all
  simp_all
 
 rename_i n p C k' V;rw[V]at Q;obtain⟨r,e,l,k5,Y,X,g⟩:=Zi g;split at g;rename_i S;obtain⟨O,u⟩:=H.T t _ S;obtain⟨t',hu,f,-⟩:=BQ u;rw[Fo]at f;obtain⟨I⟩:=AM (AY f);rcases Ah g with⟨F,g⟩|⟨-,g⟩;simp at F;obtain⟨s,O',R',A,n0,c,g1,g2,g3,g4,g5,g6,A',hv,g7,g8⟩:=h.window Q Y X;have g0:n0<=c:=by
  rcases Cr g3 with⟨D,-⟩|⟨A0,nn,c',os,D,-,h9,-⟩<;>simp only[Src.rd,if_true,sj,Value.slice.injEq]at D<;>omega
 rcases Cr g3 with⟨D,-⟩|⟨A0,nn,c',os,D,h4,h9,-⟩;simp[Src.rd]at D;omega;simp[Src.rd]at D;obtain⟨rfl,rfl,rfl⟩:=D;have h4:A0.spot=none:=h4.resolve_left (by omega);rcases g8 with g8|g8;omega;simp[Fp h4]at g8;subst g8;refine AZ.set hd hN (E _ (by rw[hv];exact TS hu I rfl F.1 F.2)) h (av:=.ptr n (p++[.idx (C+j.toNat)])) ?_ g;refine⟨r,e,A0.block,A0.off+(C+j.toNat)*e.cells,Y,?_,by grind⟩;rw[EF p _ _ _ g1];have k4:C+j.toNat<n0:=by omega
 simp_all[Cj];simp_all;simp_all
 
 rename_i n p V;rw[V]at Q;split at g;rename_i r Y;split at g;rename_i k' e l' X;split at g;rename_i S;obtain⟨O,u⟩:=H.T t _ S;obtain⟨t',hu,f,-⟩:=Pj u;rw[Fo]at f;obtain⟨I⟩:=AM (AY f);rcases Ah g with⟨F,g⟩|⟨-,g⟩;simp at F;obtain⟨r',tt,b,C,h1,h2,h3⟩:=Q;rw[Y]at h1;simp at h1;subst h1;obtain⟨O1,R1,l1,l2,-⟩:=h.sep Y;obtain⟨y,O',R',_,_,_,_,g3,g4,-⟩:=BU p r.t _ l1 h2;rw[X]at g4;have k0:Ty.arr k' e=tt:=congrArg Sigma.fst g4;subst k0;refine AZ.set hd hN (E _ (by rw[h3];exact TT hu I F.1 F.2)) h (av:=.ptr n (p++[.idx j.toNat])) ?_ g;refine⟨r,e,b,C+j.toNat*e.cells,Y,?_,rfl⟩;rw[EF p _ _ _ h2];simp_all[Cj];simp_all;simp_all;simp_all;simp_all
 
 rename_i k' e l V;rw[V]at Q;split at g;rename_i S;obtain⟨O,u⟩:=H.T t _ S;obtain⟨t',hu,f,-⟩:=Pj u;obtain⟨I⟩:=AM (AY f);obtain⟨y,X,g⟩:=B8.1 g;obtain⟨h0,h1,h2⟩:=Vg X;obtain⟨b,C,R,hv,m,hS,hR⟩:=Q;have m:Ak (fun i=>AO (Ad w M.ov) e fun j=>(Src.at b C).rd (Ad w M.ov) (i*e.cells+j)) k' 0=some (l,[],R):=m;simp[MI]at m;have k1:=Bd k' 0 m;obtain⟨y',o',r',A,B',A',k3,h5,hy,e1,e2⟩:=Bf k' 0 j.toNat m (by omega);rw[h2]at hy;simp at hy;subst hy;have g9:o'=[]:=by
  simp_all
 subst g9;simp at h5;refine AZ.set hd hN (E _ (by rw[hv];exact TT hu I h0 (by omega))) h (av:=.vptr e y) ?_ g;exact⟨b,C+j.toNat*e.cells,r',rfl,h5,hS,fun c F=>hR c (by grind)⟩;simp_all;simp_all
theorem gY{o:Oper}{t:TypeId}{x:Operand}{f d:Nat}{cx:Cx}{q:Bool}{K:AE->Rs Z}{z:Z}(D:CxTy P cx)(Q:o.op=.fieldAddr t x f)(L:o.dst=some d)
  (h:sK B U N (AJ a) w M)(hN:a.tmps.size=N)(hf:fits N o=true)(j:Bk cx q o U K=some z):AZ P B N o a w K z:=by
 have m:∀y∈(o.op.operands.toList),Ch N y=true:=Bl hf;rw[Q]at m;have G:=h.sM (m x (by simp[Op.operands]));have F:∀v,(Instr.fieldAt t (a.eval x) f).run P w=.ok v w->(execOp a.eval o).run P w=.ok (.value v) w:=fun v Y=>by simp[execOp,Q,Y]
 simp[Bk,Q,L]at j;split at j;rename_i n p O;rw[O]at G;split at j;rename_i r V;generalize hg:DW p r.t r.x=gg at j;obtain⟨H,y⟩:=gg;simp only at j;split at j;rename_i u;obtain⟨X,i⟩:=D.T t _ u.2;rw[Fo]at i;obtain⟨τ',k,h5,h4⟩:=TP (w:=w) (b:=0) (o:=0) i u.1;obtain⟨r',t1,b,g,I,h2,h3⟩:=G;rw[V]at I;simp at I;subst I;obtain⟨O1,R1,l1,l2,-⟩:=h.sep V;obtain⟨y',O',R',_,_,_,_,g3,l,-⟩:=BU p r.t _ l1 h2;have l:=hg.symm.trans l;have C:H=t1:=congrArg Sigma.fst l;subst C;obtain⟨τ2,k2,A,e⟩:=TP (P:=P) (w:=w) (b:=b) (o:=g) i u.1;refine AZ.set L hN (F _ (by rw[h3];omega)) h (av:=.ptr n (p++BE f)) ?_ j;exact⟨r,τ2,b,g+k2,V,by rw[EF p _ _ _ h2];simp_all,rfl⟩;simp_all;simp_all;rename_i H y O;rw[O]at G;split at j;rename_i u;obtain⟨X,i⟩:=D.T t _ u.2;obtain⟨b,g,R,Y,E,hS,hR⟩:=G;obtain⟨τ2,k2,A,e⟩:=TP (P:=P) (w:=w) (b:=b) (o:=g) i u.1;generalize hg:DW (BE f) H y=gg at j;obtain⟨t2,y2⟩:=gg;simp only at j;obtain⟨y',O',R',A1,B1,h6,h7,g3,l,e1,e2⟩:=BU (BE f) H (.at b g) E (e _ _ _);have l:=hg.symm.trans l;have C:t2=τ2:=congrArg Sigma.fst l;subst C;have h0:=eq_of_heq (Sigma.mk.inj l).2;subst h0;have S:O'=[]:=by
  simp_all
 subst S;refine AZ.set L hN (F _ (by rw[Y];omega)) h (av:=.vptr t2 y2) ?_ j;exact⟨b,g+k2,R',rfl,g3,hS,fun c u=>hR c (by grind)⟩;simp_all;simp_all
theorem sK.zA{tm:Nat->Value}{ty:Ty}{t:TypeId}{av:AV}{u:Value}{q:Bool}{K:AV->AE->Rs Z}{z:Z}(hty:AU P ty (.inl t)=true)(g0:ty.sh=ty)
  (h:sK B U N tm w M)(hx:AA (Ad w M.ov) M.g U.rt (Be B w M) av u)(o:U.xB q ty av K=some z):
  ∃v L M' O,(Instr.loadAt t u).run P w=.ok v w/\sK B L N tm w M'/\AA (Ad w M'.ov) M'.g L.rt (Be B w M') O v/\K O L=some z/\
   ((L=U/\M'=M)\/(q=false/\∃n,av=.ptr n []/\L=(U.sI (AV.drop n)).sF n none)):=by
 simp[AE.xB]at o;split at o
 ·
  rename_i Y y;split at o
  ·rename_i A;subst A;obtain⟨b,d,R,hv,V,hS,hR⟩:=hx;have f:∀j,j<Y.cells->w.cell? ⟨b,d+j,none⟩=Ad w M.ov b (d+j):=by
    intro j _;cases a:M.ov with
    |none=>rfl
    |some y0=>
     obtain⟨b',o',v'⟩:=y0;simp only[Ad];rw[if_neg];rintro⟨rfl,-⟩;have E:=h.pend;cases C:U.pd with
     |none=>rw[C,a]at E;exact E
     |some y1=>
      obtain⟨n,p,dd⟩:=y1;rw[C,a]at E;obtain⟨r,e,I,hl⟩:=E;rw[<-a]at hl;exact hS.2.2 ⟨n,h.place I hl⟩
   obtain⟨v,F,k⟩:=Si (P:=P) (w:=w) (Sh:=Be B w M) hty V f hR;exact⟨_,_,_,.val Y y,(by simp_all),h,k,o,.inl ⟨rfl,rfl⟩⟩
  simp_all
 ·
  rename_i n p;split at o
  ·rename_i r I;obtain⟨C,I⟩:=AX I;have a:M.ov=none:=by
    have E:=h.pend;rw[C]at E;cases a:M.ov with
    |none=>rfl
    |some y=>rw[a]at E;exact E.elim
   have f:∀b j,w.cell? ⟨b,j,none⟩=Ad w M.ov b j:=fun b j=>by rw[a];rfl
   obtain⟨r',t1,b,d,h1,h2,h3⟩:=hx;rw[I]at h1;simp at h1;subst h1;obtain⟨O1,R1,l1,l2,l3,l4,l5,l6⟩:=h.sep I;obtain⟨y',O',R',A1,B1,h7,h8,g3,Q,e1,e2⟩:=BU p r.t _ l1 h2;split at o;rename_i e l hg;rw[hg]at Q;have A:Ty.list true e=t1:=congrArg Sigma.fst Q;subst A;split at o;rename_i H;obtain⟨v,hv,hs⟩:=Je _ g3 0 (by simp[Ty.cells]);have hw:w.cell? ⟨b,d,none⟩=some v:=by rw[f];exact hv
   have T:ty.isAgg=false:=by cases ty<;>first|rfl|cases H
   refine⟨v,U,M,.sref n p,?_,h,⟨r,e,.at b d,I,h2,hv⟩,o,.inl ⟨rfl,rfl⟩⟩;rw[h3];simp[Instr.loadAt,Instr.sureAddr,loadVar,KO hty,T,hw];simp_all;rename_i Y y h9 hg;rw[hg]at Q;have A:Y=t1:=congrArg Sigma.fst Q;subst A;have h6:=eq_of_heq (Sigma.mk.inj Q).2;subst h6;split at o;rename_i i;obtain⟨i,X⟩:=i;have h5:=Pk X g3;subst h5;obtain⟨v,F,k⟩:=Si (P:=P) (w:=w) (Sh:=Be B w M) (t:=t) (by grind[Fo]) g3 (fun j _=>f b (d+j)) (fun c hc=>l2 c (by simp_all));exact⟨_,_,_,.val Y y,(by simp_all),h,k,o,.inl ⟨rfl,rfl⟩⟩;split at o;split at o;rename_i i;subst i;simp[Cj]at h2;obtain⟨rfl,h0⟩:=h2;obtain⟨R2,k1,k2⟩:=Xz _ l1;rw[h0]at k1;have G:=h.drop (n:=n) (by simp_all);have S:∀c∈R2,Be B w ⟨M.g,fun m=>if m=n then[]else M.ow m,M.ov⟩ c:=by
    intro c hc;rcases k2 c hc with g|g;have D:BD M c:=⟨n,l4 c g⟩;refine⟨h.lt D,.inr (h.mine c D),fun⟨m,hm⟩=>?_⟩;have hm:c∈(if m=n then[]else M.ow m).map (·.1):=hm
    split at hm;simp_all;rename_i h4;exact h.sU m n h4 c hm (l4 c g);exact sK.tQ c (l2 c g)
   obtain⟨v,F,k⟩:=Si (P:=P) (w:=w) (m:=Ad w M.ov) (t:=t) (by grind[Fo,Ty.wN]) k1 (fun j _=>f b (d+j)) S;exact⟨_,_,_,.val r.t.tL (Ty.vI r.t r.x),(by simp_all),G,k,o,.inr ⟨rfl,n,rfl,rfl⟩⟩;simp_all;simp_all
  simp_all
 simp_all
theorem a9s{o:Oper}{t:TypeId}{x:Operand}{d:Nat}{cx:Cx}{q:Bool}{K:AE->Rs Z}{z:Z}(H:CxTy P cx)(hG:Za cx.G B)(O:o.op=.load t x)(hd:o.dst=some d)
  (h:sK B U N (AJ a) w M)(hN:a.tmps.size=N)(hf:fits N o=true)(D:Bk cx q o U K=some z):AZ P B N o a w K z:=by
 have k:∀y∈(o.op.operands.toList),Ch N y=true:=Bl hf;rw[O]at k;have hx:=h.tY hG (h.sM (k x (by simp[Op.operands])));have V:∀v,(Instr.loadAt t (a.eval x)).run P w=.ok v w->(execOp a.eval o).run P w=.ok (.value v) w:=fun v hv=>by simp[execOp,O,hv]
 simp[Bk,O,hd]at D;split at D
 case h_2=>grind
 rename_i ty hT;obtain⟨h4,h5⟩:=H.T t _ hT;split at D
 case h_2=>
  grind[sK.zA,AZ.set]
 rename_i n r f;have f:U.whole (cx.K d) ty (U.sM x)=some (n,r):=by
  grind
 unfold AE.whole at f;split at f
 ·rename_i m S;split at f
  ·rename_i e L;split at f
   ·rename_i hc;simp at f;obtain⟨rfl,rfl⟩:=f;obtain⟨F,-,-,u⟩:=hc;obtain⟨p,hr⟩:=AX L;have l:M.ov=none:=by
     have Q:=h.pend;rw[p]at Q;cases l:M.ov with
     |none=>rfl
     |some y=>rw[l]at Q;exact Q.elim
    have C:=h.sM (k x (by simp[Op.operands]));rw[S]at C;obtain⟨r2,t1,b,h6,E,Y,h3⟩:=C;rw[hr]at E;simp at E;subst E;obtain⟨X,hg,c⟩:=h.xP hr F p;simp[Cj]at Y;obtain⟨-,i⟩:=Y;rw[hg]at i;simp at i;obtain⟨rfl,rfl⟩:=i;obtain⟨O',R,k1,k2,k3⟩:=(c.roots m ⟨true,e.t.tL,Ty.vI e.t e.x⟩ (by simp[AE.sF])).rd;have hO:=Pk (Ty.wP e.t) k1;subst hO;have I:(Src.at X 0).rd (Ad w M.ov)=(M.g m).rd (Ad w M.ov):=by grind
    obtain⟨v,h0,A⟩:=Si (P:=P) (w:=w) (m:=Ad w M.ov) (τ:=e.t.tL) (b:=X) (o:=0) (by rw[<-Fo,Ty.wN,u];omega) (by rw[I];omega) (fun j _=>by rw[l];rfl) k2;exact AZ.set hd hN (av:=.val e.t.tL (Ty.vI e.t e.x)) (V _ (by simp_all)) c A D
   simp_all
  simp_all
 simp_all
end
theorem gZ{α:Type}{f:Nat->Option (α×CK×List Nat)}{S:Nat->Prop}:∀(l:List α)(i:Nat),(∀j x,l[j]?=some x->∃r,f (i+j)=some (x,[],r)/\∀c∈r,S c)->
  ∃g,Ak f l.length i=some (l,[],g)/\∀c∈g,S c
 | [],i,_=>⟨[],rfl,by simp⟩
 |x::l,i,h=>by
  obtain⟨r,k,a⟩:=h 0 x rfl;obtain⟨g,b,d⟩:=gZ l (i+1) (fun j y m=>by
   have:=h (j+1) y (by simp_all)
   rwa [show i+(j+1)=i+1+j from by omega]at this)
  refine⟨r++g,?_,fun c e=>?_⟩;simp_all[Ak];grind
theorem tT.mono{r s O}(h:tT m Sh r s O)(d:∀c,Sh c->Sh' c):tT m Sh' r s O:=by
 obtain⟨g,R,f,k,a⟩:=h.rd;exact⟨g,R,f,fun c b=>d c (k c b),a⟩
theorem sK.fresh{Z:Type}{B U N tm w M}{q:Bool}{n:Nat}{r:sO}{K:AE->Rs Z}{z:Z}(h:sK B U N tm w M)(f:U.fresh q n r K=some z){w':World}
  (a:∀c,c<w.heap.size->w'.heap[c]?=w.heap[c]?)(l:w.heap.size<=w'.heap.size){s:Src}{O:CK}(v:∀c∈O.map (·.1),w.heap.size<=c)(i:(O.map (·.1)).Nodup)
  (d:∀p∈O,BY w' p.1 p.2)(j:tT (Ad w' M.ov) (Be B w M) r s O)(hio:FT w'=FT w:=by first|rfl|assumption):∃o t,K o=some z/\sK B o N tm w' t/\o.rt n=some r/\t.g n=s/\t.ov=M.ov/\o=U.uM n r:=by
 unfold AE.fresh at f;obtain⟨b,f⟩:=(Ah f).elim id fun h=>by grind
 have b:n<pinned:=by simp_all
 split at f;rename_i u;have e:U.uM n r=U.sF n (some r):=by unfold AE.uM;grind
 refine⟨_,⟨fun m=>if m=n then s else M.g m,fun m=>if m=n then O else M.ow m,M.ov⟩,f,by rw[e];exact h.add u b a l v i d j,by rw[e];simp[AE.sF],by simp,rfl,rfl⟩
 rename_i F u;rcases Ah f with⟨-,f⟩|⟨-,f⟩;grind;split at f;grind;rename_i G D;obtain⟨E,-⟩:=AX D;have e:U.uM n r=((U.sI (AV.drop n)).sF n none).sF n (some r):=by
  unfold AE.uM;rw[u];simp only[AE.sF,AE.sI];grind
 have C:=h.drop (n:=n) (by simp_all);refine⟨_,⟨fun m=>if m=n then s else M.g m,fun m=>if m=n then O else(if m=n then[]else M.ow m),M.ov⟩,f,by rw[e];exact C.add (n:=n) (by simp[AE.sF]) b a l v i d (j.mono fun c A=>sK.tQ c A),by rw[e];simp[AE.sF],?_,rfl,rfl⟩
 simp
where
 rt_ne' {n k:Nat} {x y:Option sO} (h:k≠n):(bif k==n then x else y)=y:=by
  grind
theorem a9t(w:World)(o:Obj)(c:Nat)(h:c<w.heap.size):(w.alloc o).heap[c]?=w.heap[c]?:=by
 simp only[World.alloc,Array.getElem?_push];grind
theorem TU{P:Program}:∀(f:Nat)(τ:Ty)(d:List Field)(off:Nat),AU P τ (.inr (d,off))=true->Dk τ f=true->
  ∃g τ' k,d[f]?=some g/\g.offset=off+k/\AU P τ' (.inl g.type)=true/\k+τ'.cells<=τ.cells/\
   ∀(m:DJ) rd x O R,AO m τ rd=some (x,O,R)->∃y i l,AO m τ' (fun j=>rd (k+j))=some (y,i,l)/\Dc τ x (BE f)=⟨τ',y⟩/\(O=[]->i=[])/\∀c∈l,c∈R
 |0,τ,d,off,h,n=>by
  cases τ with
  |pair a b=>
   cases d with
   |nil=>simp[AU]at h
   |cons g r=>
    simp[AU]at h;refine⟨g,a,0,rfl,by omega,h.1.1.2,by simp[Ty.cells],fun m rd x O R q=>?_⟩;obtain⟨z,t,v,A,u,w,F,G,rfl,rfl,rfl⟩:=CP q;exact⟨z,t,v,by simp_all,rfl,fun e=>(C7.1 e).1,fun c p=>A9 _ p⟩
  |_=>simp[Dk]at n
 |f+1,τ,d,off,h,n=>by
  cases τ with
  |pair a b=>
   cases d with
   |nil=>simp[AU]at h
   |cons g r=>
    simp only[AU,EV]at h;obtain⟨o,τ',k,F,G,H,M,I⟩:=TU f b r (off+a.cells) h.2 n;refine⟨o,τ',a.cells+k,by simp_all,by omega,H,by grind[Ty.cells],fun m rd x O R q=>?_⟩;obtain⟨z,t,v,A,u,w,K,B,rfl,rfl,rfl⟩:=CP q;obtain⟨y,i,l,L,C,D,E⟩:=I m _ A u w B;refine⟨y,i,l,?_,C,fun e=>D (C7.1 e).2,fun c p=>A8 _ (E c p)⟩;grind
  |_=>simp[Dk]at n
theorem a2F{m Sh}{τ':Ty}{off:Nat}{y R}(f:AU P τ' (.inl t)=true)(h:AO m τ' (fun j=>cs[off+j]?)=some (y,[],R))(k:∀c∈R,Sh c)(i:off+τ'.cells<=cs.size):∃v,(part t cs off).run P w=.ok v w/\Cg m Sh τ' y v:=by
 obtain⟨I⟩:=AM (AY f);cases hagg:τ'.isAgg with
 |true=>
  refine⟨.agg (cs.extract off (off+τ'.cells)),by simp[part,KO f,hagg,I.sizeOf],fun _=>⟨_,rfl,by simp_all⟩,fun g=>(by simp_all),R,?_,k⟩;refine AF τ' h (fun j d=>?_) (fun _ _ _=>rfl);simp_all[Value.cells]
 |false=>
  have b:=Sg hagg;obtain⟨v,a,e⟩:=Je τ' h 0 (by omega);simp at a;refine⟨v,by simp[part,KO f,hagg,a],Cg.one hagg e (AF τ' h (fun j d=>?_) (fun _ _ _=>rfl)) k b⟩;simp_all[Src.rd]
section
variable {P:Program} {B:Base} {N:Nat} {Z:Type} {U:AE} {a:Act} {w:World} {M:Gh}
theorem a5X{o:Oper}{t:TypeId}{x:Operand}{f d:Nat}{cx:Cx}{q:Bool}{K:AE->Rs Z}{z:Z}(n:CxTy P cx)(E:o.op=.field t x f)(D:o.dst=some d)
  (h:sK B U N (AJ a) w M)(Y:a.tmps.size=N)(hf:fits N o=true)(e:Bk cx q o U K=some z):AZ P B N o a w K z:=by
 have g:∀y∈(o.op.operands.toList),Ch N y=true:=Bl hf;rw[E]at g;have G:=h.sM (g x (by simp[Op.operands]));simp[Bk,E,D]at e;split at e;rename_i m y he;rw[he]at G;split at e;rename_i b;obtain⟨h6,u⟩:=n.T t _ b.2;obtain⟨L,hu,hs⟩:=PS u b.1;obtain⟨I,τ',k,h1,h2,V,h4,X⟩:=TU f m _ 0 hs b.1;obtain⟨O,g2,R,C,Q⟩:=G;have i:m.isAgg=true:=by cases m<;>first|rfl|(cases f<;>simp[Dk]at b)
 obtain⟨cs,hv,h0⟩:=O i;rw[hv]at C;obtain⟨y',O',R',k1,l,k3,k4⟩:=X _ _ _ _ _ C;have p:=k3 rfl;subst p;generalize hg:DW (BE f) m y=gg at e;obtain⟨H,y2⟩:=gg;simp only at e;have l:=hg.symm.trans l;have r:H=τ':=congrArg Sigma.fst l;subst r;have A:=eq_of_heq (Sigma.mk.inj l).2;subst A;obtain⟨v,F,j⟩:=a2F (P:=P) (w:=w) (cs:=cs) (off:=k) V k1 (fun c b=>Q c (k4 c b)) (by omega);have S:L[f]?=some I:=by simp_all
 refine AZ.set D Y (v:=v) ?_ h (av:=.val H y2) j e;simp_all[execOp,Instr.field,run_underlying,asAgg];simp_all;simp_all
theorem a5Y{o:Oper}{t:TypeId}{x i:Operand}{d:Nat}{cx:Cx}{q:Bool}{K:AE->Rs Z}{z:Z}(F:CxTy P cx)(ho:o.op=.index t x i)(hd:o.dst=some d)
  (h:sK B U N (AJ a) w M)(hN:a.tmps.size=N)(hf:fits N o=true)(f:Bk cx q o U K=some z):AZ P B N o a w K z:=by
 have g:∀y∈(o.op.operands.toList),Ch N y=true:=Bl hf;rw[ho]at g;have X:=h.sM (g x (by simp[Op.operands]));have V:=h.sM (g i (by simp[Op.operands]));have m:∀v,(Instr.index t (a.eval x) (a.eval i)).run P w=.ok v w->(execOp a.eval o).run P w=.ok (.value v) w:=fun v Q=>by simp[execOp,ho,Q]
 simp[Bk,ho,hd]at f;split at f;rename_i n e l k j C p;rw[C]at X;rw[p]at V;have r:=AA.int V;rw[r]at m;split at f;rename_i Y;obtain⟨h9,u⟩:=F.T t _ Y;obtain⟨t',hu,O,-⟩:=Pj u;obtain⟨I⟩:=AM (AY O);obtain⟨y,hg,f⟩:=B8.1 f;obtain⟨h0,h1,E⟩:=Vg hg;obtain⟨g1,g2,R,D,g4⟩:=X;obtain⟨cs,Q,h3⟩:=g1 rfl;rw[Q]at D;have D:Ak (fun i=>AO (Ad w M.ov) e fun j=>cs[i*e.cells+j]?) n 0=some (l,[],R):=D;have h6:=Bd n 0 D;obtain⟨y',o',r',A,B',A',h7,G,hy,e1,e2⟩:=Bf n 0 j.toNat D (by omega);rw[E]at hy;simp at hy;subst hy;have h4:o'=[]:=by
  simp_all
 subst h4;simp at G;have h5:j.toNat*e.cells+e.cells<=cs.size:=by
  rw[h3];simp[Ty.cells];rw[<-A7];exact A4 _ (by omega)
 obtain⟨v,L,S⟩:=a2F (P:=P) (w:=w) (cs:=cs) O G (fun c hc=>g4 c (by grind)) h5;have hc:0<=j/\j<(n:Int):=⟨h0,by omega⟩;refine AZ.set hd hN (v:=v) (m _ ?_) h (av:=.val e y) S f;rw[Q];simp[Instr.index,asIntOf,run_underlying hu,hc,I.sizeOf,L];simp_all
 ·rename_i l k j C p;rw[C]at X;rw[p]at V;have r:=AA.int V;rw[r]at m;split at f
  ·rename_i Y;have u:=(F.T t _ Y).2;have hu:P.underlying t=some .string:=by
    simp[AU]at u;grind
   obtain⟨y,hg,f⟩:=B8.1 f;obtain⟨h0,h1,E⟩:=Vg hg;obtain⟨s,Q,hl⟩:=AA.str X;rw[hl,D7]at E;cases hb:s.data.toList[j.toNat]? with
   |none=>simp_all
   |some b=>
    rw[hb]at E;simp at E;have hs:s[j.toNat]?=some b:=by
     have h8:j.toNat<s.data.toList.length:=(lS.1 hb).1;have H:j.toNat<s.size:=by simp_all
     rw[getElem?_pos s j.toNat H]
     have:=(lS.1 hb).2
     rw[<-this];rfl
    refine AZ.set hd hN (v:=.int .u8 b.toNat) (m _ ?_) h (av:=.val (.int .u8) y) (by simp_all[AA.tH]) f;simp_all[Instr.index,asIntOf,run_underlying]
  simp_all
 simp_all
theorem Zj{f:Int->Int->Int}{g:Value->Value->Sem Value}{k:IntKind}(e:∀x y w,(g (.int k x) (.int k y)).run P w=.ok (.int k (f x y)) w):
  ∀(l:List Operand)(x:Int){K:AV->Rs Z}{z:Z},sK B U N (AJ a) w M->(∀y∈l,Ch N y=true)->AE.wF f k (l.map U.sM) x K=some z->
   ∃r,K (.val (.int k) r)=some z/\((l.map a.eval).foldlM g (.int k x)).run P w=.ok (.int k r) w
 | [],x,K,z,h,d,b=>⟨x,b,rfl⟩
 |y::l,x,K,z,h,d,b=>by
  simp at b;unfold AE.wF at b;split at b;simp_all;rename_i x v n A c;simp at c;obtain⟨c,rfl⟩:=c;split at b;rename_i m;subst m;have i:=h.sM (d y (by simp));rw[c]at i;have t:=AA.int i;obtain⟨r,j,o⟩:=Zj e l _ h (fun u q=>d u (by grind)) b;refine⟨r,j,?_⟩;have p:=fun z=>e z n w;simp_all;simp_all;simp_all
theorem a9u{x:Operand}{K:Nat->Rs Z}{z:Z}(j:CxTy P cx)(h:sK B U N (AJ a) w M)(g:Ch N x=true)(m:U.vW (cx.T t) (U.sM x) K=some z)(ty:TypeId):
  ∃n,K n=some z/\(Builtin.len_ #[t] ty #[a.eval x]).run P w=.ok (.int .i64 (n:Int)) w:=by
 have g:=h.sM g;have y:∀o e,cx.T t=some (.list o e)->∀A n c,a.eval x=.slice A n c->(Builtin.len_ #[t] ty #[a.eval x]).run P w=.ok (.int .i64 (n:Int)) w:=by
  intro o e b A n c q;obtain⟨v,d⟩:=j.T t _ b;obtain⟨O,E,C,-⟩:=BQ d;simp_all[Builtin.len_,run_underlying,goInt]
 unfold AE.vW at m;split at m;rename_i o e F u l b f;rw[f]at g;obtain⟨R,i,G⟩:=Cg.rd (t:=.list F u) g rfl rfl;have i:Cn (Ad w M.ov) F u.cells (AO (Ad w M.ov) u) (some (a.eval x))=some (l,[],R):=i;unfold Cn at i;split at i;grind;rename_i A n c q;simp at q;split at i;split at i;grind;rename_i xs os rs D;have hn:=Bd n 0 D;grind;simp_all;simp_all;rename_i n e n' u l b f;obtain⟨v,d⟩:=j.T t _ b;obtain⟨O,E,C,-⟩:=Pj d;exact⟨n,m,by simp_all[Builtin.len_,run_underlying,goInt]⟩;rename_i l b f;rw[f]at g;obtain⟨s,q,Y⟩:=AA.str g;have d:=(j.T t _ b).2;have E:P.underlying t=some .string:=by
  simp[AU]at d;grind
 refine⟨_,m,?_⟩;simp_all[Builtin.len_,run_underlying,goInt];rename_i b f;rw[f]at g;exact⟨0,m,y _ _ b _ _ _ g⟩;rename_i b f;rw[f]at g;obtain⟨A,q⟩:=g;grind;rename_i n p b f;rw[f]at g;split at m;rename_i r I;split at m;rename_i u l H;obtain⟨s,A,c,-,-,q,-⟩:=h.uY g (AX I).2 H;grind;simp_all;simp_all;rename_i n p L k b f;rw[f]at g;obtain⟨r,e,s,a0,l0,S,i,G,D,V,Q,q,X,-⟩:=g;grind;simp_all
end
theorem sK.yP{B U N tm w M}(h:sK B U N tm w M){b o v}(g:M.ov=some (b,o,v)):b<w.heap.size:=by
 have f:=h.pend;rw[g]at f;cases hpd:U.pd with
 |none=>rw[hpd]at f;exact f.elim
 |some x=>
  obtain⟨n,p,d⟩:=x;rw[hpd]at f;obtain⟨r,e,a,k⟩:=f;rw[<-g]at k;exact h.lt ⟨n,h.place a k⟩
theorem sK.vN{B U N tm w M}(h:sK B U N tm w M){e k}(f:w'.heap[w.heap.size]?=some (.cells cs e k))(j:Nat):Ad w' M.ov w.heap.size j=cs[j]?:=by
 have a:w'.cell? ⟨w.heap.size,j,none⟩=cs[j]?:=by simp_all[World.cell?]
 unfold Ad;split;rename_i b o v g
 have:=h.yP g
 grind;omega
theorem sK.vO{B U N tm w M}(_:sK B U N tm w M)(h:∀c,c<w.heap.size->w'.heap[c]?=w.heap[c]?){j:Nat}(g:c<w.heap.size):Ad w' M.ov c j=Ad w M.ov c j:=
 BF _ (h c g) j
theorem sK.xC{Z:Type}{B U N tm w M}{q:Bool}{n:Nat}{t:Ty}{x:t.sJ}{K:AE->Rs Z}{z:Z}(h:sK B U N tm w M)(A:U.fresh q n ⟨true,t,x⟩ K=some z){w':World}
  (f:∀c,c<w.heap.size->w'.heap[c]?=w.heap[c]?)(i:w.heap.size<=w'.heap.size){cs:Array Value}{e:TypeId}(k:w'.heap[w.heap.size]?=some (.cells cs e (0,0)))(u:cs.size=t.cells){R}
  (y:AO (Ad w M.ov) t (fun j=>cs[j]?)=some (x,[],R))(l:∀c∈R,Be B w M c)(hio:FT w'=FT w:=by first|rfl|assumption):
  ∃d a,K d=some z/\sK B d N tm w' a/\AA (Ad w' a.ov) a.g d.rt (Be B w' a) (.ptr n []) (.pointer (some ⟨w.heap.size,0,none⟩)):=by
 have v:AO (Ad w' M.ov) t ((Src.at w.heap.size 0).rd (Ad w' M.ov))=some (x,[],R):=AF t y (fun j _=>by simp[Src.rd];exact h.vN k j)
  (fun b j hb=>by
   rcases hb with hb|hb;simp_all;exact h.vO f (l b hb).1)
 obtain⟨d,a,m,o,p,r,C,D⟩:=h.fresh A f i (s:=.at w.heap.size 0) (O:=[(w.heap.size,t.cells)]) (by simp) (by simp)
  (by simp;exact⟨cs,e,0,0,k,by omega,.inl rfl⟩) ⟨[],R,v,l,.inl ⟨rfl,_,rfl,rfl⟩⟩
 exact⟨d,a,m,o,_,t,w.heap.size,0,p,by rw[r];rfl,rfl⟩
theorem sK.uV{Z:Type}{B U N tm w M}{q:Bool}{n:Nat}{e:Ty}{l:List e.sJ}{K:AE->Rs Z}{z:Z}(h:sK B U N tm w M)(Q:U.fresh q n ⟨false,.list true e,l⟩ K=some z){w':World}
  (f:∀c,c<w.heap.size->w'.heap[c]?=w.heap[c]?)(v:w.heap.size<=w'.heap.size){cs:Array Value}{t:TypeId}{m}(k:w'.heap[w.heap.size]?=some (.cells cs t m)){c:Nat}(r:m.2=m.1\/c*e.cells<=m.1)(o:c*e.cells<=cs.size)(I:l.length<=c){R}
  (L:Ak (fun i=>AO (Ad w M.ov) e fun j=>cs[i*e.cells+j]?) l.length 0=some (l,[],R))(x:∀c∈R,Be B w M c)(hio:FT w'=FT w:=by first|rfl|assumption):
  ∃d a,K d=some z/\sK B d N tm w' a/\AA (Ad w' a.ov) a.g d.rt (Be B w' a) (.sref n []) (.slice (some ⟨w.heap.size,0,none⟩) l.length c)/\a.ov=M.ov/\d=U.uM n ⟨false,.list true e,l⟩:=by
 have P:Ak (fun i=>AO (Ad w' M.ov) e fun j=>Ad w' M.ov w.heap.size (0+(i*e.cells+j))) l.length 0=some (l,[],R):=by
  have G:AO (Ad w M.ov) (.arr l.length e) (fun j=>cs[j]?)=some (l,[],R):=L;refine AF (.arr l.length e) G (rd':=fun j=>Ad w' M.ov w.heap.size (0+j)) (fun j _=>?_) (fun b j hb=>?_);show Ad w' M.ov w.heap.size (0+j)=_;rw[C1];exact h.vN k j;rcases hb with hb|hb;simp_all;exact h.vO f (x b hb).1
 have u:BY w' w.heap.size (c*e.cells):=⟨cs,t,m.1,m.2,k,o,r⟩
 let O:CK:=if c=0 then[]else[(w.heap.size,0+c*e.cells)]
 have S:∀p∈O,p=(w.heap.size,0+c*e.cells):=by
  grind
 have H:AO (Ad w' M.ov) (.list true e) ((Src.one (.slice (some ⟨w.heap.size,0,none⟩) l.length c)).rd (Ad w' M.ov))=some (l,O,R):=by
  show Cn (Ad w' M.ov) true e.cells (AO (Ad w' M.ov) e) (some (.slice (some ⟨w.heap.size,0,none⟩) l.length c))=_;simp only[Cn];grind
 obtain⟨d,a,y,A,C,D,E,F⟩:=h.fresh Q f v (s:=.one (.slice (some ⟨w.heap.size,0,none⟩) l.length c)) (O:=O) (by
   grind) (by grind)
  (fun p T=>by grind) ⟨O,R,H,x,.inr ⟨rfl,⟨_,rfl⟩,⟨e,rfl⟩,rfl⟩⟩
 exact⟨d,a,y,A,⟨_,e,_,C,by rw[D];rfl,rfl⟩,E,F⟩
theorem a2G{t:Nat}(g:CxTy P cx)(h:cx.own d t=some τ):AU P τ (.inl t)=true:=by
 unfold Cx.own at h;split at h;split at h;rename_i f;simp at h;subst h;rw[<-Fo];exact(g.T t _ f).2;simp_all;exact(g.T t _ h).2
theorem hU{z:Array Value}(g:EG e (fun j=>z[j]?)=true)(b:z.size=e.cells)(n:Nat):Ak (fun i=>AO m e fun j=>(madeCells z (n*e.cells))[i*e.cells+j]?) n 0=some (B7 n e.dflt,[],[]):=by
 refine PR n 0 fun i _ f=>AF e (Jd (m:=m) e g) (fun j k=>?_) (fun _ _ _=>rfl);have h:i*e.cells+j<n*e.cells:=by
  have:(i+1)*e.cells<=n*e.cells:=A4 _ (by omega)
  grind
 have a:(i*e.cells+j)%e.cells=j:=by simp_all[Nat.mod_eq_of_lt]
 simp_all[madeCells]
section
variable {P:Program} {B:Base} {N:Nat} {Z:Type} {U:AE} {a:Act} {w:World} {M:Gh}
theorem BG(o:Obj)(c:Nat)(h:c<w.heap.size):(w.alloc o).heap[c]?=w.heap[c]?:=a9t w o c h
theorem Bu(o:Obj):(w.alloc o).heap[w.heap.size]?=some o:=by
 show(w.heap.push o)[w.heap.size]?=_
 simp
theorem BR(o:Obj):w.heap.size<=(w.alloc o).heap.size:=by
 simp
theorem AZ.sets{K:AE->Rs Z}{z:Z}(c:o.dst=some d)(b:a.tmps.size=N)(k:(execOp a.eval o).run P w=.ok (.value v) w')(h:∃f M',K (f.set d av)=some z/\sK B f N (AJ a) w' M'/\AA (Ad w' M'.ov) M'.g f.rt (Be B w' M') av v):AZ P B N o a w K z:=by
 grind[AZ.set]
theorem a5Z{o:Oper}{t:TypeId}{d:Nat}{cx:Cx}{q:Bool}{K:AE->Rs Z}{z:Z}(f:CxTy P cx)(i:o.op=.alloc t)(e:o.dst=some d)
  (h:sK B U N (AJ a) w M)(j:a.tmps.size=N)(b:Bk cx q o U K=some z):AZ P B N o a w K z:=by
 simp[Bk,i,e]at b;split at b;rename_i τ hT;have k:=a2G f hT;obtain⟨I⟩:=AM (AY k);have g:(execOp a.eval o).run P w=.ok (.value (.pointer (some ⟨w.heap.size,0,none⟩))) (w.alloc (.cells I.z.cells t)):=by
  simp[execOp,i,Instr.alloc,I.zeroValue,newVar,newRow]
 exact AZ.sets e j g (h.xC b (fun c l=>BG _ c l) (BR _) (Bu _) I.uZ (Jd _ I.zok) (by simp));simp_all
theorem b1v{x:Operand}{K:AE->Rs Z}{z:Z}(G:o.op=.box t x)(C:o.dst=some d)(A:(bif q then none else U.tK x)=none)(h:sK B U N (AJ a) w M)(F:a.tmps.size=N)(L:fits N o=true)(i:Bk cx q o U K=some z):AZ P B N o a w K z:=by
 have O:=h.sM (Bl L x (by simp[G,Op.operands]));simp[Bk,G,C,A]at i;split at i;rename_i τ hT;obtain⟨y,Q,r,i,l,H,-,-⟩:=h.uT (.inl O) i;have e:(execOp a.eval o).run P w=.ok (.value (.pointer (some ⟨w.heap.size,0,none⟩))) (w.alloc (.cells (a.eval x).cells t)):=by
  simp_all[execOp,Instr.box,newVar,newRow]
 obtain⟨-,-,R,E,u⟩:=id H;split at i
 
 have n:=Bu (w:=w) (.cells (a.eval x).cells t);have k:∀c,c<w.heap.size->(w.alloc (.cells (a.eval x).cells t)).heap[c]?=w.heap[c]?:=fun c f=>BG _ c f;have p:=BR (w:=w) (.cells (a.eval x).cells t);have D:w.heap.size<(w.alloc (.cells (a.eval x).cells t)).heap.size:=by simp
 have I:=l.ext k p;have m:AO (Ad (w.alloc (.cells (a.eval x).cells t)) r.ov) τ ((Src.at w.heap.size 0).rd (Ad (w.alloc (.cells (a.eval x).cells t)) r.ov))=some (y,[],R):=
  AF τ E (fun j _=>by simp[Src.rd];exact l.vN n j) (fun b j hb=>by
   rcases hb with hb|hb;simp_all;exact l.vO k (u b hb).1)
 have v:∀c,Be B w r c->Be B (w.alloc (.cells (a.eval x).cells t)) r c:=fun c f=>⟨B3 f.1 p,f.2⟩;exact AZ.set C F e I (av:=.vptr τ y) ⟨w.heap.size,0,R,rfl,m,⟨D,.inr (.inr l.size),fun g=>by have:=l.lt g;omega⟩,fun c f=>v c (u c f)⟩ i;exact AZ.sets C F e (l.xC i (fun c f=>BG _ c f) (BR _) (Bu _) H.cells.1 E u);simp_all
theorem a6a{t:Ty}{K:t.sJ->Rs Z}{z:Z}(h:av.vF t K=some z):∃x,av=.val t x/\K x=some z:=by
 cases av with
 |val g x=>
  simp only[AV.vF]at h;grind
 |_=>cases h
theorem hZ{k:IntKind}{K:Int->Rs Z}{z:Z}(h:av.vF (.int k) K=some z):∃x:Int,av=.val (.int k) x/\K x=some z:=a6a h
theorem iA{o:Oper}{t:TypeId}{x y:Operand}{d:Nat}{cx:Cx}{q:Bool}{K:AE->Rs Z}{z:Z}(j:CxTy P cx)(b:o.op=.makeSlice t x y)(V:o.dst=some d)
  (h:sK B U N (AJ a) w M)(hN:a.tmps.size=N)(E:fits N o=true)(g:Bk cx q o U K=some z):AZ P B N o a w K z:=by
 have G:=h.sM (Bl E x (by simp[b,Op.operands]));have H:=h.sM (Bl E y (by simp[b,Op.operands]));simp[Bk,b,V]at g;split at g;rename_i o' e T;obtain⟨l,v,g⟩:=hZ g;obtain⟨c,C,g⟩:=hZ g;rw[v]at G;rw[C]at H;rcases Ah g with⟨k,g⟩|⟨-,g⟩;simp only[EV,dT,Bp]at k;obtain⟨Q,S,c3⟩:=k;have u:=a2G j T;obtain⟨D,X,r,F⟩:=BQ u;obtain⟨I⟩:=AM (AY r);have f:=run_make (P:=P) w t D I.i I.z X I.info I.zero .i64 .i64 l c Q S (by
  have:=I.bytes
  have h1:((I.i.bytes*c.toNat:Nat):Int)<=((32768*2147483648:Nat):Int):=Int.ofNat_le.2 (Nat.mul_le_mul this (by omega));grind) (by omega)
 rw[I.size]at f;have p:(execOp a.eval o).run P w=.ok (.value (.slice (some ⟨w.heap.size,0,none⟩) l.toNat c.toNat)) (w.alloc (.cells (madeCells I.z.cells (c.toNat*e.cells)) D)):=by
  simp only[execOp,b,AA.int G,AA.int H,Sem.run_bind];simp_all
 have n:=hU (m:=Ad w M.ov) I.zok I.uZ c.toNat
 obtain⟨U',M',g1,g2,g3,-,-⟩:=h.uV (c:=c.toNat) g (fun c k=>BG _ c k) (BR _) (Bu (Obj.cells (madeCells I.z.cells (c.toNat*e.cells)) D)) (.inl rfl) (by simp_all[size_madeCells])
  (by grind) (R:=[]) (by
   rw[List.length_replicate];refine PR _ 0 fun i _ hi=>?_
   obtain⟨x',o',r',A,B',A',O,L,Y,k3,k4⟩:=Bf _ 0 i n (by omega);rw[C1]at L;rw[L];rw[List.getElem?_replicate,if_pos (by omega)]at Y;simp_all) (by simp)
 grind[AZ.set];simp_all;simp_all
theorem iB(off:Nat)(l:List Value)(i:Nat)(cs:Array Value):((l.zipIdx i).foldl (fun cs (c:Value×Nat)=>cs.setIfInBounds (off+c.2) c.1) cs).size=cs.size/\
  ∀k,((l.zipIdx i).foldl (fun cs (c:Value×Nat)=>cs.setIfInBounds (off+c.2) c.1) cs)[k]?=if off+i<=k/\k<off+i+l.length/\k<cs.size then l[k-(off+i)]? else cs[k]?:=by
 induction l generalizing i cs with
 |nil=>exact⟨rfl,fun k=>by rw[if_neg (by grind)];rfl⟩
 |cons v l h=>
  obtain⟨g,f⟩:=h (i+1) (cs.setIfInBounds (off+i) v);refine⟨by simp_all,fun k=>?_⟩;simp only[List.zipIdx_cons,List.foldl_cons];grind
end
def a0B(t:Ty)(place:Nat->Option (Nat×Nat)):Prop:=∀i,AE.vL t i=true->∃τ' k,place i=some (k,τ'.cells)/\k+τ'.cells<=t.cells/\∀(m:DJ) b o,loc m t (.at b o) (AE.pathOf t i)=some (τ',.at b (o+k))
theorem iC(n:Nat)(e:Ty):a0B (.arr n e) fun i=>some (i*e.cells,e.cells):=by
 intro i h;simp[AE.vL]at h;refine⟨e,i*e.cells,rfl,?_,fun m b o=>?_⟩
 have:(i+1)*e.cells<=n*e.cells:=A4 _ (by omega)
 rw[A7]at this;exact this;show(if i<n then Cj m [] e (.at b (o+i*e.cells))else none)=_
 rw[if_pos h];rfl
theorem a9v(T:∀c,Sh c->c<sz){t g:Ty}{x:t.sJ}{R i k}(U:AO m t (fun j=>cs[j]?)=some (x,[],R))(I:∀c∈R,Sh c)(X:∀(m:DJ) b o,loc m t (.at b o) (AE.pathOf t i)=some (g,.at b (o+k)))(hk:k+g.cells<=cs.size){y:g.sJ}(hv:Cg m Sh g y v):
  ∃E,AO m t (fun j=>(v.cells.zipIdx.foldl (fun cs (c,j)=>cs.setIfInBounds (k+j) c) cs)[j]?)=some (Fc t x (AE.pathOf t i) g y,[],E)/\∀c∈E,Sh c:=by
 obtain⟨h2,-⟩:=hv.cells;obtain⟨-,-,O,C,D⟩:=hv;have a:v.cells.zipIdx.foldl (fun cs (c,j)=>cs.setIfInBounds (k+j) c) cs=(v.cells.toList.zipIdx 0).foldl (fun cs (c:Value×Nat)=>cs.setIfInBounds (k+c.2) c.1) cs:=by
  rw[<-D6];simp
 obtain⟨-,h⟩:=iB k v.cells.toList 0 cs;rw[a];generalize (v.cells.toList.zipIdx 0).foldl (fun cs (c:Value×Nat)=>cs.setIfInBounds (k+c.2) c.1) cs=cs' at h
 let d:DJ:=fun c j=>if c=sz then cs[j]? else m c j
 let l:DJ:=fun c j=>if c=sz then cs'[j]? else m c j
 have B:∀c,Sh c->c≠sz:=fun c f e=>by grind
 have Y:∀c j,Sh c->d c j=m c j:=fun c j f=>by grind
 have Z:∀c j,Sh c->l c j=m c j:=fun c j f=>by grind
 have G:AO d t ((Src.at sz 0).rd d)=some (x,[],R):=AF t U (fun j _=>by simp[Src.rd,d]) (fun b j hb=>by
  simp_all)
 have q:=X d sz 0;obtain⟨y0,N,R1,A1,B1,K,M,z,-,e1,-⟩:=BU _ t _ G q;have u:N=[]:=by
  simp_all
 subst u;have Q:AO l g ((Src.at sz (0+k)).rd l)=some (y,[],O):=AF g C (fun j V=>by
   simp only[Src.rd,l,if_true,C1,h,Nat.add_zero];rw[if_pos ⟨by omega,by grind,by omega⟩,Nat.add_sub_cancel_left];simp) (fun b j hb=>by
  grind)
 have r:xE (Src.at sz 0) [] R:=⟨by simp,by simp,fun c f=>⟨by simp,fun e=>B c (I c f) e⟩⟩;have p:b9l d l (Src.at sz 0) [] R sz (0+k) g.cells []:=fun c j=>by
  by_cases f:c=sz;by_cases V:k<=j/\j<k+g.cells;omega;refine .inl ?_
  simp only[d,l,if_pos f,h];rw[if_neg (by grind)];grind
 obtain⟨A,L,F,P,H,S⟩:=a5O _ t _ G q z Q r p;have n:A=[]/\L=[]:=by
  have:=congrArg A6 P
  simp at this;exact⟨C5.1 (by omega),C5.1 (by omega)⟩
 rw[n.1,n.2]at H;have w:∀c∈F,Sh c:=fun c f=>(S c f).elim (I c) (D c);exact⟨F,AF t H (fun j _=>by simp[Src.rd,l]) (fun b j hb=>by
  grind),w⟩
section
variable {P:Program} {B:Base} {N:Nat} {Z:Type} {U:AE} {a:Act} {w:World} {M:Gh}
theorem Wv{q:Bool}{t:Ty}{d:Nat->Option (Nat×Nat)}(hp:a0B t d):∀(l:List (Nat×Operand)) {U:AE} {M:Gh} {x:t.sJ} {cs:Array Value} {R} {K:t.sJ->AE->Rs Z} {z:Z},sK B U N (AJ a) w M->
  (∀y∈l,Ch N y.2=true)->cs.size=t.cells->AO (Ad w M.ov) t (fun j=>cs[j]?)=some (x,[],R)->(∀c∈R,Be B w M c)->U.fills q t l x K=some z->
  ∃y g m M' r,K y m=some z/\sK B m N (AJ a) w M'/\Instr.fill d cs (l.map fun(i,x)=>(i,a.eval x))=some g/\g.size=t.cells/\AO (Ad w M'.ov) t (fun j=>g[j]?)=some (y,[],r)/\(∀c∈r,Be B w M' c)
 | [],U,M,x,cs,R,K,z,h,_,H,C,n,f=>⟨x,cs,U,M,R,f,h,rfl,H,C,n⟩
 |(i,o)::l,U,M,x,cs,R,K,z,h,G,H,C,n,f=>by
  unfold AE.fills at f;rcases Ah f with⟨hi,f⟩|⟨-,f⟩;obtain⟨τ',k,h1,h2,F⟩:=hp i hi;have p:(Dc t x (AE.pathOf t i)).1=τ':=by
   have Y:AO (fun c j=>if c=w.heap.size then cs[j]? else Ad w M.ov c j) t ((Src.at w.heap.size 0).rd fun c j=>if c=w.heap.size then cs[j]? else Ad w M.ov c j)=some (x,[],R):=
    AF t C (fun j _=>by simp[Src.rd]) (fun b j hb=>by
     rcases hb with hb|hb;simp_all
     have:=(n b hb).1
     grind)
   obtain⟨y0,O1,R1,A1,B1,L,O,h7,p,-⟩:=BU _ t _ Y (F _ _ _);grind
  generalize hgg:Dc t x (AE.pathOf t i)=gg at f p;obtain⟨t2,y2⟩:=gg;simp only at p;subst p;simp only at f;obtain⟨y,U1,P,f,h4,I,e,-⟩:=h.uT (.inl (h.sM (G _ (D5 ..)))) f;have D:AO (Ad w P.ov) t (fun j=>cs[j]?)=some (x,[],R):=by rw[e.ov];omega
  obtain⟨r,h5,h6⟩:=a9v (sz:=w.heap.size) (fun c A=>A.1) D (fun c A=>e.shr c (n c A)) F (by omega) I;obtain⟨y',g,m,M',v,Q,S,g3,T,V,X⟩:=Wv hp l h4 (fun u hu=>G u (List.mem_cons_of_mem _ hu)) (cs:=(a.eval o).cells.zipIdx.foldl (fun cs (c,j)=>cs.setIfInBounds (k+j) c) cs) (by
   have E:(a.eval o).cells.zipIdx.foldl (fun cs (c,j)=>cs.setIfInBounds (k+j) c) cs=((a.eval o).cells.toList.zipIdx 0).foldl (fun cs (c:Value×Nat)=>cs.setIfInBounds (k+c.2) c.1) cs:=by
    rw[<-D6];simp
   simp_all[iB]) h5 h6 f
  refine⟨y',g,m,M',v,Q,S,?_,T,V,X⟩;have h8:=I.cells.1;simp_all[Instr.fill];simp_all
theorem qF{q:Bool}{e:Ty}{n:Nat}:∀(l:List (Nat×Operand)) (U:AE) (x:List e.sJ) (K:List e.sJ->AE->Rs Z),U.lit q e n l x K=U.fills q (.arr n e) l x K
 | [],_,_,_=>rfl
 |(i,o)::l,U,x,K=>by
  show(bif A3 (i<n)then U.uT q e (U.sM o) (fun y g=>g.lit q e n l (x.set i y) K)else none) =
   (bif A3 (i<n)then U.uT q e (U.sM o) (fun y g=>g.fills q (.arr n e) l (Fc (.arr n e) x [.idx i] e y) K)else none)
  congr 2;funext y g;rw[qF l];congr 1;show x.set i y=D4 x i (if h:e=e then h▸y else _)
  simp
theorem eO{S:Array (Nat×Operand)}{K:AE->Rs Z}{z:Z}(Y:CxTy P cx)(X:o.op=.buildSlice t n S)(hd:o.dst=some d)(hO:∀o' e,cx.T t=some (.list o' e)->(bif q || !e.isList then none else cx.O d)=none)(h:sK B U N (AJ a) w M)(hN:a.tmps.size=N)(hf:fits N o=true)(v:Bk cx q o U K=some z):AZ P B N o a w K z:=by
 have u:∀y∈(o.op.operands.toList),Ch N y=true:=Bl hf;rw[X]at u;simp[Bk,X,hd]at v;split at v;rename_i o' e hT;rw[hO o' e hT]at v;rcases Ah v with⟨C,v⟩|⟨-,v⟩;simp[Bp]at C;rw[qF]at v;obtain⟨g7,h5⟩:=Y.T t _ hT;obtain⟨k,hu,h4,h8⟩:=BQ h5;obtain⟨I⟩:=AM (AY h4);obtain⟨y,f,U',l,V,D,A,g3,g4,E,g6⟩:=Wv (iC n e) S.toList h (fun y hy=>u y.2 (by
   simp only[Op.operands];grind)) (cs:=madeCells I.z.cells (n*e.cells)) (size_madeCells _ _) (hU (m:=Ad w M.ov) I.zok I.uZ n) (by simp) v
 have E:Ak (fun i=>AO (Ad w l.ov) e fun j=>f[i*e.cells+j]?) n 0=some (y,[],V):=E;have G:=Bd n 0 E;have g0:n*e.cells=0->n=0:=fun e0=>by
  grind[Nat.mul_eq_zero]
 have L:(execOp a.eval o).run P w=.ok (.value (.slice (some ⟨w.heap.size,0,none⟩) n n)) (w.alloc (.cells f k)):=by
  have F:¬ (n*e.cells > 2^24):=by omega
  have H:(S.map fun(i,x)=>(i,a.eval x)).toList=S.toList.map fun(i,x)=>(i,a.eval x):=by simp
  by_cases h0:n*e.cells=0
  have:(Array.range (n*e.cells)).map (fun i=>(#[]:Array Value)[i%(#[]:Array Value).size]!)=madeCells I.z.cells (n*e.cells):=by
   simp_all[madeCells]
  have p:=g3;rw[<-this]at p;simp only[execOp,X,Instr.buildSlice,Sem.run_bind,run_underlying hu,Result.andThen_ok,I.sizeOf,if_neg F,if_pos h0,Sem.run_pure,H,p,newRow]
  simp
  have p:Instr.fill (fun i=>some (i*e.cells,e.cells)) ((Array.range (n*e.cells)).map (I.z.cells[·%I.z.cells.size]!)) (S.toList.map fun(i,x)=>(i,a.eval x))=some f:=g3;simp only[execOp,X,Instr.buildSlice,Sem.run_bind,run_underlying hu,Result.andThen_ok,I.sizeOf,if_neg F,if_neg h0,Sem.run_pure,I.zeroValue,H,p,newRow]
  simp
 have Q:A6 (show List e.sJ from y)=n:=G;rcases Ah D with⟨-,D⟩|⟨-,D⟩;have r:∀c,c<w.heap.size->(w.alloc (.cells f k)).heap[c]?=w.heap[c]?:=fun c C=>BG _ c C;have h2:=A.ext r (BR _);have h9:∀c,Be B w l c->Be B (w.alloc (.cells f k)) l c:=fun c ⟨a1,a2,a3⟩=>⟨B3 a1 (BR _),a2,a3⟩;have h7:Be B (w.alloc (.cells f k)) l w.heap.size:=⟨(Array.getElem?_eq_some_iff.1 (Bu (w:=w) (Obj.cells f k))).1,.inr (.inr A.size),fun g=>Nat.lt_irrefl _ (A.lt g)⟩;have h6:Ak (fun i=>AO (Ad (w.alloc (.cells f k)) l.ov) e fun j=>Ad (w.alloc (.cells f k)) l.ov w.heap.size (0+(i*e.cells+j))) n 0=some (y,[],V):=by
  have h1:AO (Ad w l.ov) (.arr n e) (fun j=>f[j]?)=some (y,[],V):=E;refine AF (.arr n e) h1 (rd':=fun j=>Ad (w.alloc (.cells f k)) l.ov w.heap.size (0+j)) (fun j _=>?_) (fun b j hb=>?_);show Ad _ l.ov w.heap.size (0+j)=_;rw[C1];exact A.vN (Bu (Obj.cells f k)) j;rcases hb with hb|hb;simp_all;exact A.vO r (g6 b hb).1
 have h3:∃R,AO (Ad (w.alloc (.cells f k)) l.ov) (.list false e) ((Src.one (.slice (some ⟨w.heap.size,0,none⟩) n n)).rd (Ad (w.alloc (.cells f k)) l.ov))=some (y,[],R)/\∀c∈R,Be B (w.alloc (.cells f k)) l c:=by
  show ∃R,Cn (Ad (w.alloc (.cells f k)) l.ov) false e.cells (AO (Ad (w.alloc (.cells f k)) l.ov) e) (some (.slice (some ⟨w.heap.size,0,none⟩) n n))=some (y,[],R)/\_;simp only[Cn];rw[if_pos ⟨.inr trivial,C0 _⟩,h6];simp only[C8,if_false];split;exact⟨[],rfl,by simp⟩;refine⟨w.heap.size::V,by rfl,fun c C=>?_⟩;grind
 obtain⟨R2,k1,k2⟩:=h3;exact AZ.set hd hN L h2 (av:=.val (.list false e) y) (Cg.one (t:=.list false e) rfl rfl k1 k2 rfl) D;obtain⟨U2,M2,k1,k2,k3,-,-⟩:=A.uV (c:=n) D (fun c C=>BG _ c C) (BR _) (Bu (Obj.cells f k)) (.inl rfl) (Nat.le_of_eq g4.symm) (Nat.le_of_eq Q) (by rw[Q];exact E) g6;grind[AZ.set];simp_all;simp_all
theorem TV{P:Program}{w:World}:∀(a:List Field),(∀f∈a,∃i,P.info? f.type=some i)->
  ∃l:List (Nat×Nat),(a.mapM fun f=>do pure (f.offset,<-sizeOf f.type):Sem (List (Nat×Nat))).run P w=.ok l w/\l.length=a.length/\∀(k:Nat) f,a[k]?=some f->∃i,P.info? f.type=some i/\l[k]?=some (f.offset,i.size)
 | [],_=>⟨[],rfl,rfl,by simp⟩
 |f::a,h=>by
  obtain⟨i,j⟩:=h f (by simp);obtain⟨l,c,d,e⟩:=TV (w:=w) a (fun g b=>h g (by grind));refine⟨(f.offset,i.size)::l,?_,by grind,fun k g b=>?_⟩;simp_all[sizeOf,typeInfo];grind
theorem MO{P:Program}:∀(τ:Ty)(c:List Field)(off:Nat),AU P τ (.inr (c,off))=true->∀f∈c,∃i,P.info? f.type=some i
 |.pair a b,f::r,off,h=>by
  simp only[AU,EV]at h;obtain⟨I⟩:=AM (AY h.1.1.2);intro g k;rcases mC.1 k with rfl|k;exact⟨_,I.info⟩;exact MO b r _ h.2 g k
 |.unit,[],_,_=>by simp
 |.unit,_::_,_,h=>by simp[AU]at h
 |.pair _ _,[],_,h=>by simp
 |.int _,_,_,h=>by simp[AU]at h
 |.bool,_,_,h=>by simp[AU]at h
 |.str,_,_,h=>by simp[AU]at h
 |.list _ _,_,_,h=>by simp[AU]at h
 |.arr _ _,_,_,h=>by simp[AU]at h
theorem qG{F:Array (Nat×Operand)}{K:AE->Rs Z}{z:Z}(hty:AU P τ (.inl t)=true)(Y:o.op=.build t F)(hd:o.dst=some d)(h:sK B U N (AJ a) w M)(hN:a.tmps.size=N)(hf:fits N o=true)(hz:(bif τ.isAgg then U.fills q τ F.toList τ.dflt fun y U=>K (U.set d (.val τ y))else none)=some z):AZ P B N o a w K z:=by
 have A:∀y∈(o.op.operands.toList),Ch N y=true:=Bl hf;rw[Y]at A
 ·obtain⟨I⟩:=AM (AY hty);obtain⟨g,hz⟩:τ.isAgg=true/\_:=(Ah hz).elim id fun h=>by grind
  have D:∀y∈F.toList,Ch N y.2=true:=fun y hy=>A y.2 (by
     simp only[Op.operands];grind)
  have H:(F.map fun(i,x)=>(i,a.eval x)).toList=F.toList.map fun(i,x)=>(i,a.eval x):=by simp
  have C:∀c,a0B τ c->(∀b,Instr.fill c I.z.cells (F.toList.map fun(i,x)=>(i,a.eval x))=some b->(execOp a.eval o).run P w=.ok (.value (.agg b)) w)->τ.isAgg=true->AZ P B N o a w K z:=by
   intro c hp L g;obtain⟨y,b,U',M',R',g1,g2,g3,g4,g5,g6⟩:=Wv hp F.toList h D I.uZ (Jd τ I.zok) (by simp) hz;exact AZ.set hd hN (L b g3) g2 (av:=.val τ y) ⟨fun _=>⟨b,rfl,g4⟩,fun e=>(by simp_all),R',g5,g6⟩ g1
  have O:∀m:Array Field,P.underlying t=some (.struct m)->AU P τ (.inr (m.toList,0))=true->(∀i,AE.vL τ i=Dk τ i/\AE.pathOf τ i=BE i)->τ.isAgg=true->AZ P B N o a w K z:=by
   intro m p hs j g;obtain⟨l,h1,h2,h3⟩:=TV (P:=P) (w:=w) m.toList (MO τ _ _ hs);refine C (fun i=>l.toArray[i]?) (fun i V=>?_) (fun b T=>?_) g;rw[(j i).1]at V;rw[(j i).2];obtain⟨S,τ',k,k1,k2,k3,k4,k5⟩:=Sj i τ _ 0 hs V;obtain⟨h0,τ2,k',j1,j2,j3,j4,-⟩:=TU i τ _ 0 hs V;rw[k1]at j1;simp at j1;subst j1;obtain⟨i',X,hl⟩:=h3 i S k1;obtain⟨G⟩:=AM (AY k3);obtain⟨R⟩:=AM (AY j3);have e1:i'=G.i:=by have:=X.symm.trans G.info;simp_all
   have e2:G.i=R.i:=by have:=G.info.symm.trans R.info;simp_all
   refine⟨τ',k,?_,?_,k5⟩;have hk:S.offset=k:=by omega
   simp
   rw[hl,e1,G.size,hk];have s1:=G.size;have s2:=R.size;simp_all;have hm:(m.mapM fun f=>do pure (f.offset,<-sizeOf f.type):Sem (Array (Nat×Nat))).run P w=.ok l.toArray w:=by
    simp_all[D0]
   simp only[execOp,Y,Instr.build,Sem.run_bind,I.zeroValue,Result.andThen_ok,run_underlying p,hm,H,T]
   simp
  have arr:∀n Q e,P.underlying t=some (.array n Q)->AU P e (.inl Q)=true->a0B τ (fun i=>some (i*e.cells,e.cells))->τ.isAgg=true->AZ P B N o a w K z:=by
   intro n Q e p E hp g;obtain⟨I'⟩:=AM (AY E);refine C _ hp (fun b T=>?_) g;simp only[execOp,Y,Instr.build,Sem.run_bind,I.zeroValue,Result.andThen_ok,run_underlying p,I'.sizeOf,H,T]
   simp
  clear C;cases τ with
  |pair u v=>
   simp[AU]at hty;obtain⟨-,hty⟩:=hty;split at hty;rename_i m p;split at hty;rename_i S r hl;refine O m p ?_ (fun i=>⟨rfl,rfl⟩) rfl;simp_all[AU];simp_all;simp_all
  |unit=>
   simp[AU]at hty;obtain⟨-,hty⟩:=hty;split at hty;rename_i m p;refine O m p ?_ (fun i=>⟨rfl,rfl⟩) rfl
   have:m.toList=[]:=by simp_all
   rw[this];rfl;simp_all
  |arr n e=>
   obtain⟨Q,p,E,-⟩:=Pj hty;exact arr n Q e p E (iC n e) rfl
  |_=>cases g
theorem iD{o:Oper}{t:TypeId}{l:Array (Nat×Operand)}{d:Nat}{cx:Cx}{q:Bool}{K:AE->Rs Z}{z:Z}(f:CxTy P cx)(b:o.op=.build t l)(k:o.dst=some d)(i:cx.yF d t=none->cx.O d=none)
  (h:sK B U N (AJ a) w M)(c:a.tmps.size=N)(e:fits N o=true)(g:Bk cx q o U K=some z):AZ P B N o a w K z:=by
 simp[Bk,b,k]at g;cases hn:cx.yF d t with
 |some τ=>
  rw[hn]at g;refine qG ?_ b k h c e g;simp[Cx.yF]at hn;split at hn;split at hn;rename_i m _ j;cases hn;rw[<-Fo];exact(f.T t _ j.2).2;simp_all;simp_all
 |none=>
 rw[hn]at g;simp[i hn]at g;split at g;rename_i τ hT;exact qG (f.T t _ hT).2 b k h c e g;simp_all
theorem XC(h:Cd u=true):u.cells=#[u]:=by
 cases u<;>first|rfl|(simp[Cd]at h)
theorem a0C(h:sK B U N (AJ a) w M){v:AV}(hv:AA (Ad w M.ov) M.g U.rt (Be B w M) v u)(f:v.xO τ=true):Cd u=true:=by
 unfold AV.xO at f;split at f;rename_i t x;simp at f;exact hv.2.1 f.1;rename_i n e;obtain⟨r,d,s,k,b,l⟩:=hv;obtain⟨m,R,i,q,-⟩:=h.sep k;obtain⟨y,o,p,_,_,_,_,z,j,-⟩:=BU _ r.t _ i b;obtain⟨D,A,c,-,-,hv,-,C,-⟩:=h.uY ⟨r,d,s,k,b,l⟩ k j;rw[hv];rfl;have hv:u=.slice none 0 0:=hv;rw[hv];rfl;simp_all
theorem a9w{h:Nat->Option (Nat×Nat)}{k:Nat}{u:Value}{l:List (Nat×Value)}{g a:List Value}{c:Value}(hp:h k=some (k,1))(f:Cd u=true)(b:g.length=k):
  Instr.fill h (g++c::a).toArray ((k,u)::l)=Instr.fill h (g++[u]++a).toArray l:=by
 have f:=XC f;simp only[Instr.fill,hp];simp_all
theorem a9x{rt:Nat->Option sO}{v:AV}{rd:Nat->Option Value}(h:Pi τ=some v)(f:EG τ rd=true)(d:rd 0=some u):τ.cells=1/\Cd u=true/\AA m g rt Sh v u:=by
 have a:τ.isAgg=false->Cd u=true->τ.cells=1->EG τ (fun j=>u.cells[j]?)=true->Cg m Sh τ τ.dflt u:=fun p i q l=>
  ⟨fun g=>(by simp_all),fun _=>i,[],Jd τ l,by simp⟩
 cases τ with
 |int k=>
  simp[Pi]at h;simp[EG,d]at f;cases u with
  |int r n=>
   subst h;exact⟨rfl,rfl,a rfl rfl rfl (by simp_all[EG,Value.cells])⟩
  |_=>cases f
 |bool=>
  simp[Pi]at h;simp[EG,d]at f;cases u with
  |bool b=>
   subst h;exact⟨rfl,rfl,a rfl rfl rfl (by simp_all[EG,Value.cells])⟩
  |_=>cases f
 |str=>
  simp[Pi]at h;simp[EG,d]at f;cases u with
  |string b=>
   subst h;exact⟨rfl,rfl,a rfl rfl rfl (by simp_all[EG,Value.cells])⟩
  |_=>cases f
 |list o e=>
  simp[Pi]at h;simp[EG,d]at f;subst h;split at f;rename_i c;simp at c;subst c;exact⟨rfl,rfl,rfl⟩;simp_all
 |_=>cases h
theorem Zk{d:Nat->Option (Nat×Nat)}(h:sK B U N (AJ a) w M):∀(τ:Ty)(k:Nat)(l:List (Nat×Operand)) (n:List AV),U.tO k τ l=some n->(∀p∈l,Ch N p.2=true)->
  (∀j,j<τ.cells->d (k+j)=some (k+j,1))->∀(f c:List Value),f.length=k->c.length=τ.cells->EG τ (fun j=>c[j]?)=true->
  ∃us:List Value,us.length=τ.cells/\n.length=τ.cells/\Instr.fill d (f++c).toArray (l.map fun p=>(p.1,a.eval p.2))=some (f++us).toArray/\
   ∀(j:Nat) v,n[j]?=some v->∃u,us[j]?=some u/\Cd u=true/\AA (Ad w M.ov) M.g U.rt (Be B w M) v u
 |.unit,k,[],n,b,_,_,f,c,D,F,_=>by
  simp only[AE.tO,sj]at b;subst b
  have:c=[]:=List.eq_nil_of_length_eq_zero F
  subst this;exact⟨[],rfl,rfl,rfl,fun j v t=>by simp_all⟩
 |.pair u v,k,l,n,b,hops,hpl,f,c,D,F,hzr=>by
  have zero:((Pi u).bind fun x=>(U.tO (k+1) v l).map (x::·))=some n->∃us:List Value,us.length=(Ty.pair u v).cells/\n.length=(Ty.pair u v).cells/\Instr.fill d (f++c).toArray (l.map fun p=>(p.1,a.eval p.2))=some (f++us).toArray/\
    ∀(j:Nat) v,n[j]?=some v->∃u,us[j]?=some u/\Cd u=true/\AA (Ad w M.ov) M.g U.rt (Be B w M) v u:=fun hb=>by
   cases hx:Pi u with
   |none=>simp_all
   |some x=>
    rw[hx]at hb;cases hr:U.tO (k+1) v l with
    |none=>simp_all
    |some vs'=>
     rw[hr]at hb;cases hb;simp[EG]at hzr;have E:0<u.cells:=by
      cases u<;>first|(cases hx;done)|exact Nat.one_pos
     cases c with
     |nil=>grind[Ty.cells]
     |cons z0 c=>
      obtain⟨Q,R,S⟩:=a9x (m:=Ad w M.ov) (g:=M.g) (rt:=U.rt) (Sh:=Be B w M) hx hzr.1 (by simp:(z0::c)[0]?=some z0);have q:c.length=v.cells:=by grind[Ty.cells]
      obtain⟨us,K,L,O,P⟩:=Zk h v (k+1) l vs' hr hops (fun j t=>by
       have:=hpl (j+1) (by grind)
       rwa [show k+(j+1)=k+1+j from by omega]at this) (f++[z0]) c (by grind) q (by
       grind)
      refine⟨z0::us,by simp_all,by simp_all,?_,fun j y t=>?_⟩;all_goals grind
  cases l with
  |nil=>exact zero b
  |cons p r=>
   obtain⟨i,o⟩:=p;simp[AE.tO]at b;rcases Ah b with⟨C,e⟩|⟨-,e⟩
   ·have C:i=k:=by simp_all
    subst C;obtain⟨A,e⟩:=(Ah e).elim id fun h=>by grind
    simp at A;obtain⟨T,G⟩:=A;cases hr:U.tO (i+1) v r with
    |none=>simp_all
    |some vs'=>
     rw[hr]at e;cases e;have z:=h.sM (hops (i,o) (by simp));have I:=a0C h z G;cases c with
     |nil=>grind[Ty.cells]
     |cons z0 c=>
      have q:c.length=v.cells:=by grind[Ty.cells]
      simp[EG]at hzr;obtain⟨us,K,L,O,P⟩:=Zk h v (i+1) r vs' hr (fun p D=>hops p (by grind)) (fun j t=>by
       have:=hpl (j+1) (by grind)
       rwa [show i+(j+1)=i+1+j from by omega]at this) (f++[a.eval o]) c (by grind) q (by
       grind)
      refine⟨a.eval o::us,by simp_all,by simp_all,?_,fun j y t=>?_⟩;rw[B9];have H:=hpl 0 (by grind);simp_all[a9w];grind
   simp_all
 |.unit,_,_::_,_,b,_,_,_,_,_,_,_=>by simp[AE.tO]at b
 |.int _,_,_,_,b,_,_,_,_,_,_,_=>by simp[AE.tO]at b
 |.bool,_,_,_,b,_,_,_,_,_,_,_=>by simp[AE.tO]at b
 |.str,_,_,_,b,_,_,_,_,_,_,_=>by simp[AE.tO]at b
 |.list _ _,_,_,_,b,_,_,_,_,_,_,_=>by simp[AE.tO]at b
 |.arr _ _,_,_,_,b,_,_,_,_,_,_,_=>by simp[AE.tO]at b
theorem a2H:∀(τ:Ty)(k:Nat)(m:List (Nat×Operand)) (c:List AV),U.tO k τ m=some c->c.length=τ.cells/\
  ∀{P:Program} a,AU P τ (.inr (a,k))=true->a.length=c.length/\∀(j:Nat) f,a[j]?=some f->f.offset=k+j/\∃τ',AU P τ' (.inl f.type)=true/\τ'.cells=1
 |.unit,k,[],c,g=>by
  simp only[AE.tO,sj]at g;subst g;exact⟨rfl,fun a h=>by
   cases a with
   |nil=>simp
   |cons f r=>simp[AU]at h⟩
 |.pair u v,k,m,c,g=>by
  have q:∀x l b,u.cells=1->U.tO (k+1) v l=some b->c=x::b->c.length=(Ty.pair u v).cells/\
    ∀{P:Program} a,AU P (.pair u v) (.inr (a,k))=true->a.length=c.length/\∀(j:Nat) f,a[j]?=some f->f.offset=k+j/\∃τ',AU P τ' (.inl f.type)=true/\τ'.cells=1:=fun x l b z n e=>by
   subst e;obtain⟨w,y⟩:=a2H v (k+1) l b n;refine⟨by grind[Ty.cells],fun a h=>?_⟩;cases a with
   |nil=>simp[AU]at h
   |cons f a=>
    simp[AU]at h;grind
  have zero:((Pi u).bind fun x=>(U.tO (k+1) v m).map (x::·))=some c->c.length=(Ty.pair u v).cells/\
    ∀{P:Program} a,AU P (.pair u v) (.inr (a,k))=true->a.length=c.length/\∀(j:Nat) f,a[j]?=some f->f.offset=k+j/\∃τ',AU P τ' (.inl f.type)=true/\τ'.cells=1:=fun hb=>by
   cases hx:Pi u with
   |none=>simp_all
   |some x=>
    rw[hx]at hb;cases n:U.tO (k+1) v m with
    |none=>simp_all
    |some b=>
     rw[n]at hb;cases hb;exact q x m b (by cases u<;>first|(cases hx;done)|rfl) n rfl
  cases m with
  |nil=>exact zero g
  |cons p r=>
   obtain⟨i,o⟩:=p;simp[AE.tO]at g;rcases Ah g with⟨-,d⟩|⟨-,d⟩
   ·obtain⟨t,d⟩:=(Ah d).elim id fun h=>by grind
    simp at t;cases n:U.tO (k+1) v r with
    |none=>simp_all
    |some b=>
     grind
   grind
 |.unit,_,_::_,_,g=>by simp[AE.tO]at g
 |.int _,_,_,_,g=>by simp[AE.tO]at g
 |.bool,_,_,_,g=>by simp[AE.tO]at g
 |.str,_,_,_,g=>by simp[AE.tO]at g
 |.list _ _,_,_,_,g=>by simp[AE.tO]at g
 |.arr _ _,_,_,_,g=>by simp[AE.tO]at g
theorem nK{o:Oper}{t:TypeId}{A:Array (Nat×Operand)}{d:Nat}{cx:Cx}{q:Bool}{K:AE->Rs Z}{z:Z}{τ:Ty}(L:CxTy P cx)(V:o.op=.build t A)(hd:o.dst=some d)(hO:cx.O d=some τ)(S:cx.yF d t=none)
  (h:sK B U N (AJ a) w M)(hN:a.tmps.size=N)(hf:fits N o=true)(F:Bk cx q o U K=some z):AZ P B N o a w K z:=by
 have c:∀y∈(o.op.operands.toList),Ch N y=true:=Bl hf;rw[V]at c;have r:∀y∈A.toList,Ch N y.2=true:=fun y hy=>c y.2 (by
  simp only[Op.operands];grind)
 simp only[Bk,V,hd,hO,S]at F
 ·split at F
  ·rename_i hT;split at F
   ·rename_i vs g;obtain⟨m,h0⟩:=(Ah F).elim id fun h=>by grind
    have m:0<τ.cells:=by simp_all
    have E:AU P τ (.inl t)=true:=by rw[<-Fo];exact(L.T t _ hT).2
    obtain⟨h4,g4⟩:=a2H τ 0 A.toList vs g;cases τ with
    |pair u v=>
     obtain⟨I⟩:=AM (AY E);obtain⟨H,hu,hs⟩:=PS (f:=0) E rfl;obtain⟨g5,g6⟩:=g4 _ hs;obtain⟨l,h1,h2,h3⟩:=TV (P:=P) (w:=w) H.toList (MO _ _ _ hs);have hm:(H.mapM fun f=>do pure (f.offset,<-sizeOf f.type):Sem (Array (Nat×Nat))).run P w=.ok l.toArray w:=by
      simp_all[D0]
     have X:∀j,j<(Ty.pair u v).cells->(fun i=>l.toArray[i]?) (0+j)=some (0+j,1):=fun j hj=>by
      have Q:j<H.toList.length:=by omega
      have C:=lG Q;obtain⟨i,hi,hl⟩:=h3 j _ C;obtain⟨e1,τ',e2,e3⟩:=g6 j _ C;obtain⟨G⟩:=AM (AY e2);have e4:i=G.i:=by have:=hi.symm.trans G.info;simp_all
      simp
      rw[hl,e1,e4,G.size,e3,C1]
     obtain⟨us,k1,-,b,k4⟩:=Zk h (Ty.pair u v) 0 A.toList vs g r X [] I.z.cells.toList rfl (by simpa using I.uZ) (by simpa using I.zok);simp at b;have Y:(A.map fun(i,x)=>(i,a.eval x)).toList=A.toList.map fun p=>(p.1,a.eval p.2):=by simp
     have D:(execOp a.eval o).run P w=.ok (.value (.agg us.toArray)) w:=by
      simp only[execOp,V,Instr.build,Sem.run_bind,I.zeroValue,Result.andThen_ok,run_underlying hu,hm,Y,b]
      simp
     refine⟨_,w,_,M,.inl D,?_,h0⟩;rw[hd];refine h.uN hN (fun _=>⟨_,⟨by simp_all,rfl,fun k x hx=>?_⟩,fun k av hk=>?_⟩);rw[List.getElem?_toArray]at hx;have R:k<vs.length:=by
      grind
     obtain⟨u',q1,q2,-⟩:=k4 k _ (lG R);simp_all;grind
    |unit=>simp[Ty.cells]at m
    |int k=>simp[AE.tO]at g
    |bool=>simp[AE.tO]at g
    |str=>simp[AE.tO]at g
    |list o' e=>simp[AE.tO]at g
    |arr n e=>simp[AE.tO]at g
    |nl e=>simp[AE.tO]at g
   simp_all
  simp_all
end
end Go.Ab
