/- Part of the proof: LibA. Conditions: as each statement tells. -/
import GoSem.Core.Code
import GoSem.Core.View
import GoSem.Core.Lib
import GoSem.Core.Region
import Derived.Orders
import GoSem.Machine.Frame
import Derived.Laws.World
import Derived.Laws.Cells
import Derived.Laws.IdiomCopy
import Derived.Laws.Entries
import Derived.Laws.Strings
import Derived.Laws.BytesString
import Derived.Laws.IdiomStrings
import Derived.Laws.Append
import Derived.Laws.MakeOwn
import Derived.Great.FillDense
noncomputable section
set_option linter.unusedSimpArgs false
set_option linter.unusedVariables false
open Array renaming mapM_eq_mapM_toList->D0,foldl_toList->D6
open BitVec renaming ofInt->D9
open Bool renaming false_eq_true->C8
open Decidable renaming decide->A3
open List renaming length->A6,mem_append_right->A8,mem_append_left->A9,nodup_append->B6,replicate->B7,map_cons->B9,mem_map_of_mem->C2,nodup_cons->C3,length_eq_zero_iff->C5,getD->C6,append_eq_nil_iff->C7,take->C9,drop->D2,range->D3,set->D4,mem_cons_self->D5,getElem?_map->D7,drop_take->D8
open Nat renaming mul_le_mul_right->A4,succ_mul->A7,lt_of_lt_of_le->B3,le_trans->B4,le_refl->C0,zero_add->C1,lt_or_gt_of_ne->C4
open Option renaming bind_eq_some_iff->B8,isSome_iff_exists->D1
namespace Go.Ab
variable {A A' Z α:Type}{P:Program}{Sh Sh':Nat->Prop}{b c d k n sz:Nat}{cs:Array Value}{i:Int}{o:Oper}{op:BinOp}{q:Bool}{t t':TypeId}{u v:Value}{w w':World}{z:Z}
theorem dE{p:Prop}[Decidable p](h:p):decide p=true:=decide_eq_true h
theorem dF {p:Prop} [Decidable p] (h:¬p):decide p=false:=decide_eq_false h
theorem bN {α:Type _} [BEq α] [LawfulBEq α] (a:α):(a != a)=false:=bne_self_eq_false a
theorem cG {α β:Sort _} {a b:α} (f:α->β) (h:a=b):f a=f b:=congrArg f h
theorem oB {α β:Type _} (a:α) (f:α->Option β):(some a).bind f=f a:=rfl
theorem bA (a b:Bool):((a&&b)=true)=(a=true/\b=true):=Bool.and_eq_true a b
theorem dT {p:Prop} [Decidable p]:(decide p=true)=p:=decide_eq_true_eq
theorem cT {α:Type _} (a b:α):cond true a b=a:=rfl
theorem cF {α:Type _} (a b:α):cond false a b=b:=rfl
theorem lG {α:Type _} {l:List α} {i:Nat} (h:i<l.length):l[i]?=some l[i]:=List.getElem?_eq_getElem h
theorem pJ {α β:Type _} (a:α) (b:β) (c:α) (d:β):((a,b)=(c,d))=(a=c/\b=d):=Prod.mk.injEq a b c d
theorem lA {α:Type _} {p:α->Bool} {l:List α}:l.all p=true↔∀x,x ∈ l->p x=true:=List.all_eq_true
theorem lD {α:Type _} {l:List α} {i:Nat} {a:α}:l.getD i a=l[i]?.getD a:=List.getD_eq_getElem?_getD
theorem lS {α:Type _} {l:List α} {i:Nat} {a:α}:l[i]?=some a↔∃h:i<l.length,l[i]=a:=List.getElem?_eq_some_iff
theorem nZ:((0:Nat):Int)=0:=rfl
theorem tN (n:Nat):(n:Int).toNat=n:=rfl
theorem bT:(!true)=false:=rfl
theorem zQ:(∀{α β:Type _}(a:α)(f:α->Option β),(some a).bind f=f a)/\(∀{α:Type _}(a b:α),cond true a b=a)/\(∀{α:Type _}(a b:α),cond false a b=b)/\(!true)=false:=⟨oB,cT,cF,rfl⟩
theorem mA {α:Type _} {a:α} {s t:List α}:a ∈ s++t↔a ∈ s\/a ∈ t:=List.mem_append
theorem pA {α β:Type _} {f:α->β} {l m:List α}:(l++m).map f=l.map f++m.map f:=List.map_append
theorem lN {α:Type _} {s t:List α}:(s++t).length=s.length+t.length:=List.length_append
theorem lC {α:Type _} {a:α} {s:List α}:(a::s).length=s.length+1:=rfl
theorem mC {α:Type _} {a b:α} {l:List α}:a ∈ b::l↔a=b\/a ∈ l:=List.mem_cons
theorem aA {α:Type _} (a b c:List α):a++b++c=a++(b++c):=List.append_assoc a b c
theorem sj{α:Type _}(a b:α):(some a=some b)=(a=b):=Option.some.injEq a b
inductive Ty where
 |int (k:IntKind)|bool|str|unit
 |list (o:Bool) (t:Ty)|pair (a b:Ty)|arr (n:Nat) (t:Ty)

 |nl (t:Ty)
 deriving DecidableEq
variable {e τ:Ty}
def Ty.sK:Ty->Type|.int _=>Int|.bool=>Bool|.str=>List Int|.unit=>Unit|.list _ t=>List t.sK|.pair a b=>a.sK×b.sK|.arr _ t=>List t.sK|.nl t=>List t.sK
variable {l:List e.sK}
def Ty.dflt:(t:Ty)->t.sK|.int _=>(0:Int)|.bool=>false|.str=>([]:List Int)|.unit=>()|.list _ t=>([]:List t.sK)|.pair a b=>(a.dflt,b.dflt)|.arr n t=>B7 n t.dflt|.nl t=>([]:List t.sK)
def Ty.cells:Ty->Nat|.unit=>0|.pair a b=>a.cells+b.cells|.arr n t=>n*t.cells|_=>1
def Ty.sh:Ty->Ty|.list _ t=>.list false t.sh|.pair a b=>.pair a.sh b.sh|.arr n t=>.arr n t.sh|.nl t=>.list false t.sh|t=>t
def Ty.tO:Ty->Ty|.list _ t=>.list false t.sh|.pair a b=>.pair a.tO b.tO|.arr n t=>.arr n t.sh|.nl t=>.nl t.sh|t=>t
def Ty.isAgg:Ty->Bool|.unit|.pair _ _|.arr _ _=>true|_=>false
theorem Ty.uC:(t:Ty)->t.sh.sK=t.sK|.int _|.bool|.str|.unit=>rfl|.list _ t=>cG List (Ty.uC t)|.arr _ t=>cG List (Ty.uC t)|.nl t=>cG List (Ty.uC t)|.pair a b=>by show(a.sh.sK×b.sh.sK)=(a.sK×b.sK);rw[Ty.uC a,Ty.uC b]
theorem Ty.wK:(t:Ty)->t.tO.sK=t.sK|.int _|.bool|.str|.unit=>rfl|.list _ t=>cG List (Ty.uC t)|.arr _ t=>cG List (Ty.uC t)|.nl t=>cG List (Ty.uC t)|.pair a b=>by show(a.tO.sK×b.tO.sK)=(a.sK×b.sK);rw[Ty.wK a,Ty.wK b]
def Ty.vJ(t:Ty)(x:t.sK):t.tO.sK:=cast (Ty.wK t).symm x
def Ty.le:Ty->Ty->Bool|.nl a,.list _ b=>A3 (a.sh=b.sh)|.pair a b,.pair a' b'=>a.le a'&&b.le b'|a,b=>A3 (a=b)
theorem Ty.vV:∀(a b:Ty),a.le b=true->a.sK=b.sK|.nl a,.list o b,h=>by simp only[Ty.le,dT]at h;show List a.sK=List b.sK;rw[<-Ty.uC a,<-Ty.uC b,h]|.pair a b,.pair g f,h=>by simp only[Ty.le,bA]at h;show(a.sK×b.sK)=(g.sK×f.sK);rw[Ty.vV a g h.1,Ty.vV b f h.2]|.nl a,.nl b,h=>by simp only[Ty.le,dT]at h;rw[h]|.nl a,.int _,h|.nl a,.bool,h|.nl a,.str,h|.nl a,.unit,h|.nl a,.pair _ _,h|.nl a,.arr _ _,h=>by simp[Ty.le]at h|.pair a b,.int _,h|.pair a b,.bool,h|.pair a b,.str,h|.pair a b,.unit,h|.pair a b,.arr _ _,h|.pair a b,.list _ _,h|.pair a b,.nl _,h=>by simp[Ty.le]at h|.int _,b,h|.bool,b,h|.str,b,h|.unit,b,h|.list _ _,b,h|.arr _ _,b,h=>by simp only[Ty.le,dT]at h;rw[h]
def tF(t' t:Ty)(x:t'.sK):Option t.sK:=if h:t'=t then some (h▸x)else if h:t'.le t=true then some (cast (Ty.vV _ _ h) x)else none
theorem jP(t:Ty)(x:t.sK):tF t t x=some x:=by simp[tF]
theorem Ty.uY:(t:Ty)->t.sh=t->t.tO=t|.int _,_|.bool,_|.str,_|.unit,_=>rfl|.list _ t,h=>h|.arr _ t,h=>h|.nl t,h=>(by cases h)|.pair a b,h=>by simp only[Ty.sh,Ty.pair.injEq]at h;simp only[Ty.tO,Ty.uY a h.1,Ty.uY b h.2]
theorem Ty.uX:(t:Ty)->t.sh.sh=t.sh|.int _|.bool|.str|.unit=>rfl|.list _ t|.nl t=>by simp only[Ty.sh,Ty.uX t]|.arr _ t=>by simp only[Ty.sh,Ty.uX t]|.pair a b=>by simp only[Ty.sh,Ty.uX a,Ty.uX b]
theorem Ty.wP:(t:Ty)->t.tO.tO=t.tO|.int _|.bool|.str|.unit=>rfl|.list _ t|.nl t|.arr _ t=>by simp only[Ty.tO,Ty.uX t]|.pair a b=>by simp only[Ty.tO,Ty.wP a,Ty.wP b]
theorem Ty.wO:(t:Ty)->t.tO.sh=t.sh|.int _|.bool|.str|.unit=>rfl|.list _ t|.nl t|.arr _ t=>by simp only[Ty.tO,Ty.sh,Ty.uX t]|.pair a b=>by simp only[Ty.tO,Ty.sh,Ty.wO a,Ty.wO b]
def Ty.wE(t:Ty)(x:t.sK):t.sh.sK:=cast (Ty.uC t).symm x
inductive Step where
 |fst|snd|idx (i:Nat)
@[reducible] def BJ:=List Step
inductive AV where
 |dead

 |skp
 |val (t:Ty) (x:t.sK)

 |nils

 |empt
 |nilp
 |ptr (n:Nat) (p:BJ)
 |vptr (t:Ty) (x:t.sK)
 |sref (n:Nat) (p:BJ)
 |swin (n:Nat) (p:BJ) (off len:Nat)

 |tZ (g:Nat)
variable {av:AV}
inductive yT where
 |tup|agg|clo (f:Nat)
 deriving DecidableEq
inductive SV where
 |one (v:AV)
 |cmp (c:yT) (vs:List AV)
structure sP where
 bx:Bool
 t:Ty
 x:t.sK
variable {r:sP}{rt':Nat->Option sP}
structure AE where
 sl:Nat->SV
 rt:Nat->Option sP

 pd:Option (Nat×BJ×Nat)
@[reducible] def Rs(Z:Type):=Option Z
def Em:BJ->(t:Ty)->t.sK->(t':Ty)×t'.sK|[],t,x=>⟨t,x⟩|.fst::p,t,x=>(match t,x with|.pair a _,x=>Em p a x.1|_,_=>⟨.unit,()⟩)|.snd::p,t,x=>(match t,x with|.pair _ b,x=>Em p b x.2|_,_=>⟨.unit,()⟩)|.idx i::p,t,x=>match t,x with|.arr _ t,x=>Em p t (C6 x i t.dflt)|.list true t,x=>Em p t (C6 x i t.dflt)|_,_=>⟨.unit,()⟩
@[reducible] def Dc(t:Ty)(x:t.sK)(p:BJ):(t':Ty)×t'.sK:=Em p t x
def Gc:BJ->(t:Ty)->t.sK->(t':Ty)->t'.sK->t.sK|[],t,x,t',y=>if h:t'=t then h▸y else x|.fst::p,t,x,t',y=>(match t,x with|.pair a _,x=>(Gc p a x.1 t' y,x.2)|_,x=>x)|.snd::p,t,x,t',y=>(match t,x with|.pair _ b,x=>(x.1,Gc p b x.2 t' y)|_,x=>x)|.idx i::p,t,x,t',y=>match t,x with|.arr _ t,x=>D4 x i (Gc p t (C6 x i t.dflt) t' y)|.list true t,x=>D4 x i (Gc p t (C6 x i t.dflt) t' y)|_,x=>x
@[reducible] def Fp(t:Ty)(x:t.sK)(p:BJ)(t':Ty)(y:t'.sK):t.sK:=Gc p t x t' y
def Jd:(p q:BJ)->Bool|[],_=>true|.fst::p,.fst::q=>Jd p q|.snd::p,.snd::q=>Jd p q|.idx _::p,.idx _::q=>Jd p q|_,_=>false
def AV.map(v:AV)(f:AV->AV):AV:=f v
def SV.sJ(f:AV->AV):SV->SV|.one v=>.one (f v)|.cmp c vs=>.cmp c (vs.map f)
def AV.kill(n:Nat)(p:BJ):AV->AV|.sref m q=>if m==n&&Jd p q then .dead else .sref m q|.swin m q o l=>if m==n&&Jd p q then .dead else .swin m q o l|.ptr m q=>if m==n&&Jd p q&&A3 (p.length<q.length)then .dead else .ptr m q|v=>v
def AV.drop(n:Nat):AV->AV|.sref m q=>if m==n then .dead else .sref m q|.swin m q o l=>if m==n then .dead else .swin m q o l|.ptr m q=>if m==n then .dead else .ptr m q|v=>v
def AV.ren(r n:Nat):AV->AV|.sref m q=>if m==r then .sref n q else .sref m q|.swin m q o l=>if m==r then .swin n q o l else .swin m q o l|.ptr m q=>if m==r then .ptr n q else .ptr m q|v=>v
def AV.xH(n:Nat)(e:Ty)(l:List e.sK):AV->AV|.sref m q=>if m==n then(match q with|[]=>.val (.list false e.sh) (Ty.wE (.list false e) l)|_=>.dead)else .sref m q|.swin m q o k=>if m==n then(match q with|[]=>.val (.list false e.sh) (Ty.wE (.list false e) ((l.drop o).take k))|_=>.dead)else .swin m q o k|.ptr m q=>if m==n then .dead else .ptr m q|v=>v
namespace AE
def get(U:AE)(i:Nat):AV:=match U.sl i with|.one v=>v|.cmp _ _=>.dead
def put(U:AE)(d:Nat)(v:SV):AE:={ U with sl:=fun j=>bif j==d then v else U.sl j }
def set(U:AE)(d:Nat)(v:AV):AE:=U.put d (.one v)
def uG(U:AE)(d:Option Nat)(v:AV):AE:=match d with|some d=>U.set d v|none=>U
def sJ(U:AE)(f:AV->AV):AE:={ U with sl:=fun j=>(U.sl j).sJ f }
def sI(U:AE)(n:Nat)(r:Option sP):AE:={ U with rt:=fun j=>bif j==n then r else U.rt j }
def uM(U:AE)(n:Nat)(r:sP):AE:=match U.rt n with|none=>U.sI n (some r)|some _=>(U.sJ (AV.drop n)).sI n (some r)
def look(U:AE)(n:Nat):Option sP:=match U.pd with|none=>U.rt n|some _=>none
end AE
def Ya:Value->AV|.int k n=>.val (.int k) n|.bool b=>.val .bool b|.string s=>.val .str (s.data.toList.map fun b=>(b.toNat:Int))|.slice none 0 0=>.nils|.pointer none=>.nilp|_=>.dead
def AE.sN(U:AE):Operand->AV|.tmp t=>U.get t|.const v=>Ya v|.global g=>.tZ g|_=>.dead
inductive RA where
 |v (t:Ty)

 |o (e:Ty)

 |b (t:Ty)
def RA.ty:RA->Ty|.v t=>t|.o e=>.list true e|.b t=>t
inductive PA where
 |v (t:Ty)
 |r (c:Bool) (a:RA)
def PA.ty:PA->Ty|.v t=>t|.r _ a=>a.ty
def DG:List Ty->Ty|[]=>.unit|[t]=>t|t::r=>.pair t (DG r)
def KT:List PA->List RA|[]=>[]|.v _::r=>KT r|.r _ a::r=>a::KT r
def RA.all(ps:List PA)(rs:List RA):List RA:=rs++KT ps
structure sG where
 ps:List PA
 rs:List RA
 F:(DG (ps.map PA.ty)).sK->Option (DG ((RA.all ps rs).map RA.ty)).sK
@[reducible] def pinned:Nat:=1000000
structure Cx where

 Q:Nat->Bool
 E:Nat->Bool
 T:Nat->Option Ty
 C:Nat->Option sG
 O:Nat->Option Ty
 V:Nat->Bool
 K:Nat->Bool

 G:Nat->Option ((t:Ty)×t.sK):=fun _=>none
variable {cx:Cx}
section reading
variable {Z:Type}
def AE.uT(U:AE)(q:Bool)(t:Ty)(a:AV)(K:t.sK->AE->Rs Z):Rs Z:=match a with|.val t' x=>(match tF t' t x with|some y=>K y U|none=>none)|.nils=>(match t,K with|.list false _,K=>K [] U|.nl _,K=>K [] U|_,_=>none)|.empt=>(match t,K with|.list false _,K=>K [] U|_,_=>none)|.sref n []=>(if q then none else match U.look n with|some ⟨false,.list true e,l⟩=>if h:Ty.list false e.sh=t then K (h▸Ty.wE (.list false e) l) ((U.sJ (AV.xH n e l)).sI n none)else none|_=>none)|.swin n [] o k=>(if q then none else match U.look n with|some ⟨false,.list true e,l⟩=>if h:Ty.list false e.sh=t then K (h▸Ty.wE (.list false e) ((D2 o l).take k)) ((U.sJ (AV.xH n e l)).sI n none)else none|_=>none)|_=>none
def AE.view(U:AE)(t:Ty)(a:AV)(K:t.sK->Rs Z):Rs Z:=match a with|.val t' x=>(match tF t' t x with|some y=>K y|none=>none)|.nils=>(match t,K with|.list false _,K=>K []|.nl _,K=>K []|_,_=>none)|.empt=>(match t,K with|.list false _,K=>K []|_,_=>none)|.sref n p=>(match U.look n with|some r=>(match Dc r.t r.x p with|⟨.list true e,l⟩=>if h:Ty.list false e.sh=t then K (h▸Ty.wE (.list false e) l)else none|_=>none)|none=>none)|.swin n p o k=>(match U.look n with|some r=>(match Dc r.t r.x p with|⟨.list true e,l⟩=>if h:Ty.list false e.sh=t then K (h▸Ty.wE (.list false e) ((D2 o l).take k))else none|_=>none)|none=>none)|_=>none
end reading
def Aq{α:Type}(l:List α)(i:Int):Option α:=if 0<=i then l[i.toNat]? else none
def bits(k:IntKind)(op:BinOp)(x y:Int):Int:=
 let a:=D9 k.bits x
 let b:=D9 k.bits y
 match op with
 |.and=>k.wrap (a &&& b).toNat
 |.or=>k.wrap (a ||| b).toNat
 |.xor=>k.wrap (a ^^^ b).toNat
 |_=>k.wrap (a &&& ~~~b).toNat
def AO(k:IntKind)(x y:Int):Int:=k.wrap (x*2^(min y.toNat k.bits))
def Au(k:IntKind)(x y:Int):Int:=x.fdiv (2^(min y.toNat k.bits))
def gE:(t:Ty)->t.sK->t.sK->Bool|.int _,x,y=>(show Int from x)==(show Int from y)|.bool,x,y=>(show Bool from x)==(show Bool from y)|.str,x,y=>(show List Int from x)==(show List Int from y)|.unit,_,_=>true|.pair a b,x,y=>gE a x.1 y.1&&gE b x.2 y.2|.arr _ t,x,y=>(List.zipWith (gE t) x y).all id&&A6 x==A6 y|.list _ _,_,_=>false|.nl _,_,_=>false
def Wn{Z:Type}(op:BinOp)(k:IntKind)(x y:Int)(K:AV->Rs Z):Rs Z:=match op with|.add=>K (.val (.int k) (k.wrap (x+y)))|.sub=>K (.val (.int k) (k.wrap (x-y)))|.mul=>K (.val (.int k) (k.wrap (x*y)))|.quo=>bif y==0 then none else K (.val (.int k) (k.wrap (Int.tdiv x y)))|.rem=>bif y==0 then none else K (.val (.int k) (Int.tmod x y))|.and=>K (.val (.int k) (bits k .and x y))|.or=>K (.val (.int k) (bits k .or x y))|.xor=>K (.val (.int k) (bits k .xor x y))|.andNot=>K (.val (.int k) (bits k .andNot x y))|.eql=>K (.val .bool (x==y))|.neq=>K (.val .bool (x != y))|.lss=>K (.val .bool (A3 (x<y)))|.leq=>K (.val .bool (A3 (x<=y)))|.gtr=>K (.val .bool (A3 (x > y)))|.geq=>K (.val .bool (A3 (x>=y)))|.shl=>bif A3 (y<0)then none else K (.val (.int k) (AO k x y))|.shr=>bif A3 (y<0)then none else K (.val (.int k) (Au k x y))
def cD:BinOp->Bool|.shl|.shr=>true|_=>false
def gF{Z:Type}(cx:Cx)(op:BinOp)(ty:Nat)(t:Ty)(x:t.sK)(t':Ty)(y:t'.sK)(K:AV->Rs Z):Rs Z:=
 if h:t'=t then
  bif cx.E ty&&t.isAgg&&A3 (cx.T ty=some t)then
   match op with
   |.eql=>K (.val .bool (gE t x (h▸y)))
   |.neq=>K (.val .bool (!gE t x (h▸y)))
   |_=>none
  else none
 else none
def cE{Z:Type}(cx:Cx)(op:BinOp)(ty:Nat)(a b:AV)(K:AV->Rs Z):Rs Z:=
 match a,b with
 |.val (.int k) x,.val (.int k') y=>if cD op || A3 (k=k')then Wn op k x y K else none
 |.val .bool (x:Bool),.val .bool (y:Bool)=>
  if cx.T ty=some .bool then
   match op with
   |.eql=>K (.val .bool (x==y))
   |.neq=>K (.val .bool (x != y))
   |_=>none
  else none
 |.val .str (x:List Int),.val .str (y:List Int)=>
  match op with
  |.eql=>K (.val .bool (x==y))
  |.neq=>K (.val .bool (x != y))
  |.add=>bif A3 (A6 x+A6 y<2147483648)then K (.val .str (x++y))else none
  |_=>none
 |.val t x,.val t' y=>gF cx op ty t x t' y K
 |.nilp,.nilp=>if cx.Q ty then(match op with
  |.eql=>K (.val .bool true)
  |.neq=>K (.val .bool false)
  |_=>none)else none
 |.ptr _ _,.nilp=>if cx.Q ty then(match op with
  |.eql=>K (.val .bool false)
  |.neq=>K (.val .bool true)
  |_=>none)else none
 |_,_=>none
def pR{Z:Type}(a b:Option Z):Option Z:=open Classical in if a=b then a else none
theorem pS{Z:Type}{a b:Option Z}{z:Z}(h:pR a b=some z):a=some z/\b=some z:=by unfold pR at h;split at h;rename_i e;exact⟨h,by rw[<-e];exact h⟩;cases h
theorem b0w(a:Option Z):pR a a=a:=by simp[pR]
def b0x:Option Ty->AV->AV->Option Bool|some (.list _ _),.val (.list false _) l,.nils=>some (List.isEmpty l)|_,_,_=>none
def b2Q:Option Ty->Bool|some (.list _ _)=>true|_=>false
def c4S{Z:Type}(op:BinOp)(e:Bool)(K:Bool->Option Z):Option Z:=match op with|.eql=>bif e then pR (K true) (K false)else K false|.neq=>bif e then pR (K false) (K true)else K true|_=>none
def AZ(n:Nat):Bool:=A3 (n<2147483648)
def BD:Nat->BJ|0=>[.fst]|f+1=>.snd::BD f
def Di:Ty->Nat->Bool|.pair _ _,0=>true|.pair _ b,f+1=>Di b f|_,_=>false
def Tm:BJ->BJ->Bool|[],[]=>true|.fst::p,.fst::q=>Tm p q|.snd::p,.snd::q=>Tm p q|.idx i::p,.idx j::q=>(i==j)&&Tm p q|_,_=>false
def DH(x y:Int):Int:=bif A3 (y > x)then y else x
def En(x y:Int):Int:=bif A3 (y<x)then y else x
def cH{α:Type}(l:List α)(off len:Nat)(ys:List α):List α:=l.take off++(ys.take (min len ys.length)++l.drop (off+min len ys.length))
def b9K(l:List Int):List Int:=l.map fun n=>((n.toNat%256:Nat):Int)
def Ty.isList:Ty->Bool|.list _ _=>true|_=>false
def Ty.sS:Ty->Bool|.list _ _=>true|.pair a b=>(a.sS || b.sS)|.arr _ t=>t.sS|_=>false
def RA.sS:RA->Bool|.v t=>t.sS|.o e=>e.sS|.b t=>t.sS
section
variable {Z:Type}
def AE.fresh(U:AE)(q:Bool)(n:Nat)(r:sP)(K:AE->Rs Z):Rs Z:=
 bif A3 (n<pinned)then
  match U.rt n with
  |none=>K (U.uM n r)
  |some _=>bif q then none else match U.look n with
   |none=>none
   |some _=>K (U.uM n r)
 else none
def AE.uI(U:AE)(q:Bool)(d:Nat)(e:Ty)(x:AV)(ys:List e.sK)(K:AE->Rs Z):Rs Z:=
 match x with
 |.nils|.empt=>bif AZ ys.length then U.fresh q d ⟨false,.list true e,ys⟩ fun U=>K (U.set d (.sref d []))else none
 |.sref n p=>bif q then none else match U.look n with
  |some r=>match Dc r.t r.x p with
   |⟨.list true e',l⟩=>
    if h:e=e' then
     bif AZ (A6 l+ys.length)then
      let U':=((U.sJ (AV.kill n p)).sI n (some ⟨r.bx,r.t,Fp r.t r.x p (.list true e') (List.append l (h▸ys))⟩)).set d (.sref n p)
      match p,r.bx with
      | [],false=>bif A3 (n<pinned)then K U' else none
      |p,_=>match U.pd with
       |none=>K { U' with pd:=some (n,p,d) }
       |some _=>none
     else none
    else none
   |_=>none
  |none=>none
 |_=>none
def YO:List PA->List Nat->List Nat|.v _::ps,us=>YO ps us|.r false (.o _)::ps,n::us=>n::YO ps us|.r _ _::ps,_::us=>YO ps us|_,_=>[]
def AV.sQ(us ks:List Nat):AV->AV|.sref m q=>if us.contains m then(match q with|[]=>if ks.contains m then .sref m []else .dead|_=>.dead)else .sref m q|.swin m q o l=>if us.contains m then .dead else .swin m q o l|.ptr m q=>if us.contains m then(match q with|[]=>.ptr m []|_=>.dead)else .ptr m q|v=>v
def AE.over(U:AE)(ty:Ty)(n:Nat)(r:sP)(x:AV)(K:AE->Rs Z):Rs Z:=match x,U.look n with
 |.val t' y,some _=>if r.bx=true/\(r.t.sh=ty/\(t'.tO=t'/\t'.sh=ty))then
   (match tF t' r.t y with
   |some z=>K ((U.sJ (AV.sQ [n] [])).sI n (some ⟨true,r.t,z⟩))
   |none=>match tF t' r.t.tO y with
    |some z=>K ((U.sJ (AV.sQ [n] [])).sI n (some ⟨true,r.t.tO,z⟩))
    |none=>K ((U.sJ (AV.sQ [n] [])).sI n (some ⟨true,t',y⟩)))else none
 |_,_=>none
def AE.wV(U:AE)(ty:Ty)(n:Nat)(r:sP)(x:AV)(K:AE->Rs Z):BJ->Rs Z|[]=>U.over ty n r x K|_=>none
def AE.vK(U:AE)(ty:Ty)(n:Nat)(p:BJ)(x:AV)(K:AE->Rs Z):Rs Z:=
 match U.rt n with
 |none=>none
 |some r=>
  match Dc r.t r.x p with
  |⟨.list true e,_⟩=>
   if ty.isList then
   match x with
   |.nils=>match U.look n with
    |none=>none
    |some _=>K ((U.sJ (AV.kill n p)).sI n (some ⟨r.bx,r.t,Fp r.t r.x p (.list true e) []⟩))
   |.sref m p'=>
    bif m==n&&Tm p' p then
     match U.pd with
     |some (m',p'',_)=>bif m'==n&&Tm p'' p then K { U with pd:=none }else none
     |none=>none
    else match U.look n,p',U.look m with
     |some _,[],some ⟨false,.list true e',l⟩=>
      if h:e'=e then
       bif m==n then none else
       K ((((U.sJ (AV.kill n p)).sJ (AV.drop m)).sI m none).sI n (some ⟨r.bx,r.t,Fp r.t r.x p (.list true e) (h▸l)⟩))
      else none
     |_,_,_=>none
   |_=>none
   else none
  |⟨t,_⟩=>
   if t.tO=t/\t.sh=ty then
    U.uT false t x fun y U'=>match U'.look n with
     |some r=>if(Dc r.t r.x p).1=t then K (U'.sI n (some ⟨r.bx,r.t,Fp r.t r.x p t y⟩))else none
     |none=>none
   else U.wV ty n r x K p
def AV.sU:AV->List Nat|.sref n _|.swin n _ _ _=>[n]|_=>[]
def AE.arg(U:AE)(fz q:Bool)(used seen:List Nat):(p:PA)->AV->(p.ty.sK->AE->List Nat->List Nat->Rs Z)->Rs Z
 |.v t,a,K=>bif a.sU.any fun n=>used.contains n then none else if fz then U.uT q t a fun x U'=>K x U' used seen else
   U.view t a fun x=>K x U used (a.sU++seen)
 |.r c (.b t),.ptr n [],K=>if c || q || used.contains n || seen.contains n then none else match U.look n with
  |some ⟨true,t',x⟩=>if h:t'=t then K (h▸x) U (n::used) seen else none
  |_=>none
 |.r c (.o e),.sref n [],K=>if(c&&A3 (pinned<=n)) || q || used.contains n || seen.contains n then none else match U.look n with
  |some ⟨bx,.list true e',x⟩=>if h:e'=e then(bif bx&&c then none else K (h▸x) U (n::used) seen)else none
  |_=>none
 |.r _ _,_,_=>none
def AE.args(U:AE)(fz q:Bool)(used seen:List Nat):(ps:List PA)->List AV->((DG (ps.map PA.ty)).sK->AE->List Nat->Rs Z)->Rs Z|[],[],K=>K () U used|[p],[a],K=>(U.arg fz q used seen p a fun x U' used' _=>K x U' used')|p::p'::ps,a::as,K=>(U.arg fz q used seen p a fun x U' used' seen'=>U'.args fz q used' seen' (p'::ps) as fun y U'' used''=>K (x,y) U'' used'')|_,_,_=>none
def EJ:(rs:List RA)->(DG (rs.map RA.ty)).sK->List ((r:RA)×r.ty.sK)|[],_=>[]|[r],x=>[⟨r,x⟩]|r::r'::rs,x=>⟨r,x.1⟩::EJ (r'::rs) x.2
def Bw:(ps:List PA)->(DG (ps.map PA.ty)).sK->List ((p:PA)×p.ty.sK)|[],_=>[]|[p],x=>[⟨p,x⟩]|p::p'::ps,x=>⟨p,x.1⟩::Bw (p'::ps) x.2
def Bh:((r:RA)×r.ty.sK)->Option sP|⟨.v _,_⟩=>none|⟨.o e,x⟩=>some ⟨false,.list true e,x⟩|⟨.b t,x⟩=>some ⟨true,t,x⟩
def b3Z(n:Nat):((r:RA)×r.ty.sK)->AV|⟨.v t,x⟩=>.val t x|⟨.o _,_⟩=>.sref n []|⟨.b _,_⟩=>.ptr n []
def BA:List RA->Nat->List Nat|[],_=>[]|_::rs,n=>n::BA rs (n+1000)
def Dj:List RA->Nat->List Nat|[],_=>[]|.v _::rs,n=>Dj rs (n+1000)|_::rs,n=>n::Dj rs (n+1000)
def CJ:List Nat->List ((r:RA)×r.ty.sK)->Nat->Option sP|k::ns,it::its,n=>(match Bh it with|some r=>bif n==k then some r else CJ ns its n|none=>CJ ns its n)|_,_,_=>none
def La:List Nat->List ((r:RA)×r.ty.sK)->List AV|k::ns,it::its=>b3Z k it::La ns its|_,_=>[]
def Wo(o:Option sP)(r:sP):sP:=match o with|some ⟨true,_,_⟩=>⟨true,r.t,r.x⟩|_=>r
def a7e:Option sP->Bool|some ⟨bx,_,_⟩=>bx|none=>false
def AE.vT(U:AE)(ks:List Nat):List Nat:=ks.filter fun n=>!a7e (U.rt n)
def AE.tY(U:AE)(q:Bool)(us:List Nat):List Nat->(AE->Rs Z)->Rs Z
 | [],K=>K U
 |n::r,K=>bif A3 (n<pinned)&&!us.contains n then match U.rt n with
   |none=>U.tY q us r K
   |some _=>bif q then none else((U.sJ (AV.drop n)).sI n none).tY q us r K
  else none
def AE.call(U:AE)(q:Bool)(d:Option Nat)(s:sG)(as:List AV)(K:AE->Rs Z):Rs Z:=
 match U.pd with
 |some _=>none
 |none=>U.args (s.rs.any RA.sS || (KT s.ps).any RA.sS) q [] [] s.ps as fun x U' used=>
  U'.tY q used (Dj s.rs (d.getD 0+1000)) fun U1=>(s.F x).bind fun y=>
   let U2:AE:=⟨fun i=>(U1.sl i).sJ (AV.sQ used (U1.vT (YO s.ps used.reverse))),fun n=>match CJ (BA s.rs (d.getD 0+1000)++used.reverse) (EJ (RA.all s.ps s.rs) y) n with
    |some r=>some (bif used.contains n then Wo (U1.rt n) r else r)
    |none=>U1.rt n,none⟩
   match d with
   |none=>K U2
   |some d=>match La (BA s.rs (d+1000)) (EJ (RA.all s.ps s.rs) y)with
    | [v]=>K (U2.set d v)
    |vs=>K (U2.put d (.cmp .tup vs))
def AE.pathOf(t:Ty)(i:Nat):BJ:=match t with|.arr _ _=>[.idx i]|_=>BD i
def AE.vM(t:Ty)(i:Nat):Bool:=match t with|.arr n _=>A3 (i<n)|t=>Di t i
def AE.fills(U:AE)(q:Bool)(t:Ty):List (Nat×Operand)->t.sK->(t.sK->AE->Rs Z)->Rs Z|[],x,K=>K x U|(i,o)::r,x,K=>bif AE.vM t i then(match Dc t x (AE.pathOf t i)with|⟨t',_⟩=>U.uT q t' (U.sN o) fun y U'=>U'.fills q t r (Fp t x (AE.pathOf t i) t' y) K)else none
def AE.lit(U:AE)(q:Bool)(e:Ty)(n:Nat):List (Nat×Operand)->List e.sK->(List e.sK->AE->Rs Z)->Rs Z|[],x,K=>K x U|(i,o)::r,x,K=>bif A3 (i<n)then U.uT q e (U.sN o) fun y U'=>U'.lit q e n r (x.set i y) K else none
def AV.vG(a:AV)(t:Ty)(K:t.sK->Rs Z):Rs Z:=match a with|.val t' x=>if h:t'=t then K (h▸x)else none|_=>none
def AE.vY(U:AE)(ty:Option Ty)(a:AV)(K:Nat->Rs Z):Rs Z:=match ty,a with|some (.list _ _),.val (.list _ _) l=>K (A6 l)|some (.arr n _),.val (.arr _ _) _=>K n|some .str,.val .str l=>K (A6 (show List Int from l))|some (.list _ _),.nils|some (.list _ _),.empt=>K 0|some (.list _ _),.sref n p=>(match U.look n with|some r=>(match Dc r.t r.x p with|⟨.list true _,l⟩=>K (A6 l)|_=>none)|none=>none)|some (.list _ _),.swin _ _ _ k=>K k|_,_=>none
def AE.body(U:AE)(n:Nat)(p:BJ)(K:(e:Ty)->List e.sK->Rs Z):Rs Z:=match U.look n with|some r=>(match Dc r.t r.x p with|⟨.list true e,l⟩=>K e l|_=>none)|none=>none
def AE.bnd(U:AE)(len d:Nat)(o:Option Operand)(K:Nat->Rs Z):Rs Z:=match o with|none=>K d|some o=>match U.sN o with|.val (.int _) (y:Int)=>bif A3 (0<=y)&&A3 (y<=(len:Int))then K y.toNat else none|_=>none
def AE.uU(U:AE)(len:Nat)(lo hi:Option Operand)(K:Nat->Nat->Rs Z):Rs Z:=U.bnd len len hi fun h=>U.bnd h 0 lo fun l=>K l h
def gG:Option Operand->Bool|some (.const (.int _ 0))=>true|_=>false
def oW(ty:Option Ty)(a:AV)(K:AV->Rs Z):Rs Z:=match ty,a with|some (.list _ _),.val (.list _ _) _|some (.list _ _),.nils|some (.list _ _),.empt|some (.list _ _),.sref _ _|some (.list _ _),.swin _ _ _ _=>K .empt|_,_=>none
def AE.wQ(U:AE)(ty:Option Ty)(a:AV)(lo hi mx:Option Operand)(K:AV->Rs Z):Rs Z:=match mx with|some m=>bif gG (some m)&&gG hi&&lo.isNone then oW ty a K else none|none=>match a with|.val .str (l:List Int)=>(if ty=some .str then U.uU l.length lo hi fun x y=>K (.val .str ((l.take y).drop x))else none)|.val (.list false t) l=>(if ty=some (.list false t)then U.uU (A6 l) lo hi fun x y=>K (.val (.list false t) ((C9 y l).drop x))else none)|.nils=>(match ty with|some (.list _ _)=>(U.uU 0 lo hi fun _ _=>K .nils)|_=>none)|.sref n p=>(U.body n p fun e l=>if ty=some (.list false e.sh)then(match lo,hi with|none,none=>K (.sref n p)|lo,hi=>U.uU (A6 l) lo hi fun x y=>K (.swin n p x (y-x)))else none)|.swin n p o k=>(U.body n p fun e _=>if ty=some (.list false e.sh)then U.uU k lo hi fun x y=>K (.swin n p (o+x) (y-x))else none)|.vptr (.arr k e) l=>(if ty=some (.arr k e)then U.uU k lo hi fun x y=>K (.val (.list false e) ((C9 y l).drop x))else none)|_=>none
def AE.wS(U:AE)(n:Nat)(p:BJ)(K:(e:Ty)->List e.sK->Rs Z):Rs Z:=match U.rt n with|some r=>(match Dc r.t r.x p with|⟨.list true e,l⟩=>K e l|_=>none)|none=>none
def AE.uE(U:AE)(ty:Option Ty)(a:AV)(i:Int)(K:AV->Rs Z):Rs Z:=match a with|.val (.list false t) l=>(if ty=some (.list false t)then(Aq l i).bind fun x=>K (.vptr t x)else none)|.sref n p=>(U.wS n p fun e l=>if ty=some (.list false e.sh)then bif A3 (0<=i)&&A3 (i<((A6 l:Nat):Int))then K (.ptr n (p++[.idx i.toNat]))else none else none)|.swin n p o k=>(U.body n p fun e _=>if ty=some (.list false e.sh)then bif A3 (0<=i)&&A3 (i<(k:Int))then K (.ptr n (p++[.idx (o+i.toNat)]))else none else none)|.ptr n p=>(match U.rt n with|some r=>(match Dc r.t r.x p with|⟨.arr k e,_⟩=>if ty=some (.arr k e.sh)then bif A3 (0<=i)&&A3 (i<(k:Int))then K (.ptr n (p++[.idx i.toNat]))else none else none|_=>none)|none=>none)|.vptr (.arr k t) l=>(if ty=some (.arr k t)then(Aq l i).bind fun x=>K (.vptr t x)else none)|_=>none
def AE.wM(U:AE)(q:Bool)(ty:Ty)(a:AV)(K:AV->AE->Rs Z):Rs Z:=match a with|.vptr t x=>if t=ty then K (.val t x) U else none|.ptr n p=>(match U.look n with|some r=>(match Dc r.t r.x p with|⟨.list true _,_⟩=>if ty.isList then K (.sref n p) U else none|⟨t,y⟩=>if t.sh=ty/\t.tO=t then K (.val t y) U else match q,p with|false,[]=>if r.t.sh=ty then K (.val r.t.tO (Ty.vJ r.t r.x)) ((U.sJ (AV.drop n)).sI n none)else none|_,_=>none)|none=>none)|_=>none
def AE.whole(U:AE)(fl:Bool)(ty:Ty):AV->Option (Nat×sP)|.ptr n []=>(match U.look n with|some r=>if r.bx=true/\(r.t.isAgg || fl)=true/\r.t.tO≠r.t/\r.t.sh=ty then some (n,r)else none|none=>none)|_=>none
def AE.yS(U:AE)(q:Bool)(cx:Cx)(d:Nat)(v:AV)(K:AE->Rs Z):Rs Z:=match v with
 |.sref r []=>match U.look r with
  |some ⟨false,t,x⟩=>bif r==d then K (U.set d (.sref r []))else bif (cx.V r || A3 (pinned<=r)) || q then K (U.set d (.sref r []))else
    bif A3 (d<pinned)then K (((((U.sJ (AV.drop d)).sJ (AV.ren r d)).sI r none).sI d (some ⟨false,t,x⟩)).set d (.sref d []))else none
  |_=>K (U.set d (.sref r []))
 |.swin r [] 0 k=>match U.look r with
  |some ⟨false,.list true e,l⟩=>bif (r==d)&&!q then
    bif A3 (d<pinned)&&A3 (k<=A6 l)then K (((U.sJ (AV.kill r [])).sI r (some ⟨false,.list true e,C9 k l⟩)).set d (.sref d []))else none
   else K (U.set d (.swin r [] 0 k))
  |_=>K (U.set d (.swin r [] 0 k))
 |.nils=>match U.look d with
  |some ⟨false,_,_⟩=>bif A3 (pinned<=d) || q then K (U.set d .nils)else K (((U.sJ (AV.drop d)).sI d none).set d .nils)
  |_=>K (U.set d .nils)
 |v=>K (U.set d v)
def AE.elems(U:AE)(e:Ty)(a:AV)(K:List e.sK->Rs Z):Rs Z:=match a with|.val (.list false t') x=>if h:t'=e then K (h▸(show List t'.sK from x))else none|.nils|.empt=>K []|.sref n p=>(match U.look n with|some r=>(match Dc r.t r.x p with|⟨.list true e',l⟩=>if h:e'=e then K (h▸l)else none|_=>none)|none=>none)|.swin n p o k=>(match U.look n with|some r=>(match Dc r.t r.x p with|⟨.list true e',l⟩=>if h:e'=e then K (C9 k (D2 o (h▸l)))else none|_=>none)|none=>none)|_=>none
def ZC:BJ->Bool|[]=>true|.idx _::_=>false|_::p=>ZC p
def AE.xD(U:AE)(n:Nat)(p:BJ)(off:Nat)(len:Option Nat)(k:IntKind)(ys:List Int)(K:Nat->AE->Rs Z):Rs Z:=match U.look n with
 |some r=>match Dc r.t r.x p with
  |⟨.list true (.int k'),l⟩=>bif A3 (k'=k)&&ZC p then
    K (min (len.getD (A6 l)) ys.length) (U.sI n (some ⟨r.bx,r.t,Fp r.t r.x p (.list true (.int k')) (cH (show List Int from l) off (len.getD (A6 l)) ys)⟩))
   else none
  |_=>none
 |none=>none
def AE.yI(U:AE)(a:AV)(k:IntKind)(ys:List Int)(K:Nat->AE->Rs Z):Rs Z:=match a with|.sref n p=>U.xD n p 0 none k ys K|.swin n p off len=>U.xD n p off (some len) k ys K|_=>none
def AE.wG(f:Int->Int->Int)(k:IntKind):List AV->Int->(AV->Rs Z)->Rs Z|[],x,K=>K (.val (.int k) x)|.val (.int k') y::r,x,K=>if k'=k then AE.wG f k r (f x y) K else none|_,_,_=>none
def pT(cx:Cx):List Nat->Bool|[_]=>true|_::t::_=>(match cx.T t with|some (.list _ _)|some .str=>true|_=>false)|[]=>false
def AE.wU(U:AE)(d m:Nat)(e:Ty)(ys:List e.sK)(n:Nat)(K:AE->Rs Z):Rs Z:=match U.look n with
 |some ⟨false,.list true e',l⟩=>if h:e=e' then
   bif (A3 (n<pinned)&&!(n==m))&&AZ (A6 l+ys.length)then
    K (((((U.sJ (AV.kill n [])).sJ (AV.drop m)).sI m none).sI n (some ⟨false,.list true e',List.append l (h▸ys)⟩)).set d (.sref n []))
   else none
  else none
 |_=>none
def AE.yB(U:AE)(d m:Nat)(e:Ty)(ys:List e.sK)(a:AV)(K:AE->Rs Z):Rs Z:=match a with|.nils=>(bif d==m then none else U.fresh false d ⟨false,.list true e,([]:List e.sK)⟩ fun U'=>U'.wU d m e ys d K)|.sref n []=>U.wU d m e ys n K|_=>none
def AE.ownB(U:AE)(e:Ty):AV->Option (Nat×(e':Ty)×List e'.sK)|.sref m []=>(match U.look m with|some ⟨false,.list true e',ys⟩=>bif A3 (e'.sh=e)&&!A3 (e'=e)then some (m,⟨e',ys⟩)else none|_=>none)|_=>none
def b6r(cx:Cx)(ts:List Nat)(a b:AV):Option ((e:Ty)×List e.sK):=match ts,a,b with|t::t2::_,.nils,.val (.int .i64) (n:Int)=>(match cx.T t,cx.T t2 with|some (.list _ e),some (.int .i64)=>bif A3 (0<=n)&&AZ n.toNat then some ⟨e,B7 n.toNat e.dflt⟩else none|_,_=>none)|_,_,_=>none
def AE.yG(U:AE)(q:Bool)(cx:Cx)(d:Nat)(ts:List Nat)(a b:AV)(K:AE->Rs Z):Rs Z:=match ts,a,b with|t::t2::_,.nils,.val (.int .i64) (n:Int)=>(match cx.T t,cx.T t2 with|some (.list _ e),some (.int .i64)=>bif A3 (0<=n)&&AZ n.toNat then U.uI q d e .nils (B7 n.toNat e.dflt) K else none|_,_=>none)|_,_,_=>none
theorem cI(U:AE)(q:Bool)(cx:Cx)(d:Nat)(h:List Nat)(a b:AV)(K:AE->Rs Z):U.yG q cx d h a b K=match b6r cx h a b with
  |some ⟨e,g⟩=>U.uI q d e .nils g K
  |none=>none:=by
 unfold AE.yG b6r;split;split;simp only[cond_eq_ite];split<;>simp_all;split;rename_i f k _ _ _ _;simp_all;rfl;split;simp_all;rfl
def AE.uP(U:AE)(q:Bool)(cx:Cx)(d:Nat)(b:Builtin)(ts:List Nat)(as:List AV)(K:AE->Rs Z):Rs Z:=
 match b,as with
 |.len,[a]=>U.vY (ts.head?.bind cx.T) a fun n=>K (U.set d (.val (.int .i64) (n:Int)))
 |.max,.val (.int k) x::r=>AE.wG DH k r x fun v=>K (U.set d v)
 |.min,.val (.int k) x::r=>AE.wG En k r x fun v=>K (U.set d v)
 |.append,[a,b]=>bif pT cx ts then match ts.head?.bind cx.T with
  |some (.list _ e)=>
   match b with
   |.val .str y=>if h:e=.int .u8 then U.uI q d e a (h▸y) K else none
   |b=>match (bif q || !e.isList then none else U.ownB e b)with
    |some (m,⟨e',ys⟩)=>U.yB d m e' ys a K
    |none=>U.elems e b fun ys=>U.uI q d e a ys K
  |_=>none
  else U.yG q cx d ts a b K
 |.cap,[.nils]=>bif Ty.isList ((ts.head?.bind cx.T).getD .unit)then K (U.set d (.val (.int .i64) (0:Int)))else none
 |.copy,[a,b]=>if q then none else match ts.head?.bind cx.T with
  |some (.list _ (.int k))=>U.elems (.int k) b fun ys=>U.yI a k ys fun n U'=>K (U'.set d (.val (.int .i64) (n:Int)))
  |_=>none
 |_,_=>none
def AE.vL(U:AE)(src dst:Nat)(ts tt:Option Ty)(a:AV)(K:AV->Rs Z)(Kr:sP->Rs Z):Rs Z:=match ts,tt,a with|some _,some (.int k),.val (.int _) (x:Int)=>K (.val (.int k) (k.wrap x))|some .str,some (.list _ (.int .u8)),.val .str (x:List Int)=>bif AZ x.length then Kr ⟨false,.list true (.int .u8),x⟩else none|some .str,some .str,.val .str (x:List Int)=>K (.val .str x)|some (.list _ (.int .u8)),some (.list _ (.int .u8)),.sref n []=>if src=dst then(match U.look n with|some ⟨false,.list true (.int .u8),l⟩=>bif A3 (0<A6 l)then K (.sref n [])else none|_=>none)else none|some (.list _ (.int .u8)),some .str,a=>(U.elems (.int .u8) a fun x=>K (.val .str (b9K x)))|_,_,_=>none
def AE.conv(U:AE)(q:Bool)(cx:Cx)(d:Nat)(src dst:Nat)(a:AV)(K:AE->Rs Z):Rs Z:=U.vL src dst (cx.T src) (cx.T dst) a (fun v=>K (U.set d v)) fun r=>U.fresh q d r fun U=>K (U.set d (.sref d []))
def Cx.own(cx:Cx)(d t:Nat):Option Ty:=match cx.O d with|some t'=>if cx.T t=some t'.sh then some t' else none|none=>cx.T t
def AE.un(op:UnOp)(a:AV)(K:AV->Rs Z):Rs Z:=match op,a with|.not,.val .bool (b:Bool)=>K (.val .bool (!b))|.neg,.val (.int k) (x:Int)=>K (.val (.int k) (k.wrap (0-x)))|.xor,.val (.int k) (x:Int)=>K (.val (.int k) (bits k .xor (if k.signed then -1 else k.max) x))|_,_=>none
def a3u(c a b:AV)(K:AV->Rs Z):Rs Z:=match c with|.val .bool (y:Bool)=>(match a,b with|.val .bool (u:Bool),.val .bool (v:Bool)=>K (.val .bool (bif y then u else v))|u,.skp=>bif y then K u else none|.skp,v=>bif y then none else K v|_,_=>none)|_=>none
def Cx.tZ(cx:Cx):AV->AV|.tZ g=>(match cx.G g with|some ⟨t,x⟩=>.vptr t x|none=>.dead)|v=>v
def AE.xV(U:AE):Operand->SV|.tmp t=>U.sl t|x=>.one (U.sN x)
def AE.tL(U:AE):Operand->Option (List AV)|.tmp i=>(match U.sl i with|.cmp .agg vs=>some vs|_=>none)|_=>none
def AV.xM:AV->Ty->Bool|.val t _,a=>!t.isAgg&&!a.isAgg|.sref _ [],.list true _=>true|.nils,.list true _=>true|_,_=>false
def RG:Ty->Option AV|.list _ _=>some .nils|.int k=>some (.val (.int k) (0:Int))|.bool=>some (.val .bool false)|.str=>some (.val .str ([]:List Int))|_=>none
def AE.tQ(U:AE):Nat->Ty->List (Nat×Operand)->Option (List AV)
 |_,.unit,[]=>some []
 |k,.pair a b,[]=>(RG a).bind fun v=>(U.tQ (k+1) b []).map (v::·)
 |k,.pair a b,(i,o)::r=>bif i==k then(bif A3 (a.cells=1)&&(U.sN o).xM a then(U.tQ (k+1) b r).map (U.sN o::·)else none)
   else(RG a).bind fun v=>(U.tQ (k+1) b ((i,o)::r)).map (v::·)
 |_,_,_=>none
def AE.uO(x:Operand)(d:Nat)(τ:Ty):Nat->Ty->AE->(AE->Rs Z)->Rs Z|i,.unit,U,K=>(match U.tL x with|some vs=>bif vs.length==i then K U else none|none=>none)|i,.pair a b,U,K=>(match U.rt d,U.get d,(U.tL x).bind (·[i]?)with|some r,.ptr n [],some v=>(if r.t=τ/\n=d/\a.cells=1 then U.vK a.sh d (BD i) v fun U'=>AE.uO x d τ (i+1) b U' K else none)|_,_,_=>none)|_,_,_,_=>none
def Cx.yD(cx:Cx)(d t:Nat):Option Ty:=match cx.O d with|some t'=>if t'.tO=t'/\cx.T t=some t'.sh then some t' else none|none=>none
def Bc(cx:Cx)(q:Bool)(o:Oper)(U:AE)(K:AE->Rs Z):Rs Z:=
 match o.op,o.dst with
 |.move x,some d=>match x with
  |.tmp t=>K (U.put d (U.sl t))
  |x=>K (U.set d (U.sN x))
 |.assign x,some d=>match U.xV x with
  |.one v=>U.yS q cx d v K
  |.cmp c vs=>K (U.put d (.cmp c vs))
 |.makeFunc (.func f) first caps,some d=>bif first.isEmpty then K (U.put d (.cmp (.clo f) (caps.toList.map U.sN)))else none
 |.pick c a b,some d=>a3u (U.sN c) (U.sN a) (U.sN b) fun v=>K (U.set d v)
 |.alloc t,some d=>match cx.own d t with
  |some t=>U.fresh q d ⟨true,t,t.dflt⟩ fun U=>K (U.set d (.ptr d []))
  |none=>none
 |.box t x,some d=>match (bif q then none else U.tL x)with
  |some _=>match U.rt d,cx.O d with
   |none,some t'=>if cx.T t=some t'.sh then U.fresh false d ⟨true,t',t'.dflt⟩ fun U=>AE.uO x d t' 0 t' (U.set d (.ptr d [])) K else none
   |_,_=>none
  |none=>match cx.T t with
  |some t=>U.uT q t (U.sN x) fun y U=>if cx.K d then K (U.set d (.vptr t y))else U.fresh q d ⟨true,t,y⟩ fun U=>K (U.set d (.ptr d []))
  |none=>none
 |.build t ps,some d=>match cx.yD d t with
  |some t'=>bif t'.isAgg then U.fills q t' ps.toList t'.dflt fun y U=>K (U.set d (.val t' y))else none
  |none=>match cx.O d with
  |some t'=>if cx.T t=some t'.sh then(match U.tQ 0 t' ps.toList with
   |some vs=>bif A3 (0<t'.cells)then K (U.put d (.cmp .agg vs))else none
   |none=>none)else none
  |none=>match cx.T t with
  |some t=>bif t.isAgg then U.fills q t ps.toList t.dflt fun y U=>K (U.set d (.val t y))else none
  |none=>none
 |.buildSlice t n ps,some d=>match cx.T t with
  |some (.list _ e)=>match (bif q || !e.isList then none else cx.O d)with
   |some t'=>match t',ps.toList with
    |.list true e',[(0,x)]=>if e'.sh=e/\n=1 then U.fresh false d ⟨false,.list true e',[e'.dflt]⟩ fun U=>(match U.sN x with
      |.sref m []=>(U.set d (.sref d [])).vK e d [.idx 0] (.sref m []) K
      |_=>none)else none
    |_,_=>none
   |none=>bif AZ n&&A3 (n*e.cells<=16777216)then U.lit q e n ps.toList (B7 n e.dflt) fun y U=>bif cx.K d then K (U.set d (.val (.list false e) y))else U.fresh q d ⟨false,.list true e,y⟩ fun U=>K (U.set d (.sref d []))else none
  |_=>none
 |.load t a,some d=>match cx.T t with
  |some t=>match (bif q then none else U.whole (cx.K d) t (U.sN a))with
   |some (n,r)=>K (((U.sJ (AV.sQ [n] [])).sI n (some ⟨true,r.t.tO,Ty.vJ r.t r.x⟩)).set d (.val r.t.tO (Ty.vJ r.t r.x)))
   |none=>U.wM q t (cx.tZ (U.sN a)) fun v U=>K (U.set d v)
  |none=>none
 |.store t a x,d=>if q then none else match U.tL x with
  |some _=>match a with
   |.tmp s=>match U.rt s with
    |some r=>if cx.T t=some r.t.sh/\0<r.t.cells then AE.uO x s r.t 0 r.t U fun U=>K (U.uG d .dead)else none
    |none=>none
   |_=>none
  |none=>match U.sN a with
  |.ptr n p=>match cx.T t with
   |some t=>U.vK t n p (U.sN x) fun U=>K (U.uG d .dead)
   |none=>none
  |_=>none
 |.nilCheck x,some d=>match U.sN x with
  |.ptr n p=>K (U.set d (.ptr n p))
  |.vptr t y=>K (U.set d (.vptr t y))
  |_=>none
 |.binOp op ty x y _,some d=>bif b2Q (cx.T ty)then(match b0x (cx.T ty) (U.sN x) (U.sN y)with
   |some e=>if q then none else c4S op e fun b=>K (U.set d (.val .bool b))
   |none=>none)
  else cE cx op ty (U.sN x) (U.sN y) fun v=>K (U.set d v)
 |.unOp op _ x,some d=>AE.un op (U.sN x) fun v=>K (U.set d v)
 |.convert s t x,some d=>U.conv q cx d s t (U.sN x) K
 |.makeSlice t n c,some d=>match cx.own d t with
  |some (.list _ e)=>(U.sN n).vG (.int .i64) fun(x:Int)=>(U.sN c).vG (.int .i64) fun(y:Int)=>
    bif A3 (0<=x)&&(A3 (x<=y)&&AZ y.toNat)then U.fresh q d ⟨false,.list true e,B7 x.toNat e.dflt⟩ fun U=>K (U.set d (.sref d []))else none
  |_=>none
 |.slice t x lo hi mx,some d=>U.wQ (cx.T t) (U.sN x) lo hi mx fun v=>K (U.set d v)
 |.fieldAddr s x f,some d=>match U.sN x with
  |.ptr n p=>match U.rt n with
   |some r=>match Dc r.t r.x p with
    |⟨t,_⟩=>if Di t f=true/\cx.T s=some t.sh then K (U.set d (.ptr n (p++BD f)))else none
   |none=>none
  |.vptr t y=>if Di t f=true/\cx.T s=some t then(match Dc t y (BD f)with|⟨t',z⟩=>K (U.set d (.vptr t' z)))else none
  |_=>none
 |.field s x f,some d=>match U.sN x with
  |.val t y=>if Di t f=true/\cx.T s=some t then(match Dc t y (BD f)with|⟨t',z⟩=>K (U.set d (.val t' z)))else none
  |_=>none
 |.indexAddr t x i,some d=>match U.sN i with
  |.val (.int _) (i:Int)=>U.uE (cx.T t) (cx.tZ (U.sN x)) i fun v=>K (U.set d v)
  |_=>none
 |.index s x i,some d=>match U.sN x,U.sN i with
  |.val (.arr n t) l,.val (.int _) (i:Int)=>if cx.T s=some (.arr n t)then(Aq l i).bind fun y=>K (U.set d (.val t y))else none
  |.val .str (l:List Int),.val (.int _) (i:Int)=>if cx.T s=some .str then(Aq l i).bind fun y=>K (U.set d (.val (.int .u8) y))else none
  |_,_=>none
 |.extract (.tmp t) i,some d=>match U.sl t with
  |.cmp .tup vs=>match vs[i]? with
   |some v=>K (U.set d v)
   |none=>none
  |_=>none
 |.call c,d=>match c.callee with
  |.builtin b=>match d with
   |some d=>U.uP q cx d b c.argTypes.toList (c.args.toList.map U.sN) K
   |none=>none
  |.value (.func f)=>match cx.C f with
   |some s=>U.call q d s (c.args.toList.map U.sN) K
   |none=>none
  |.value (.tmp t)=>if q then none else match U.sl t with
   |.cmp (.clo f) vs=>match cx.C f with
    |some s=>U.call q d s (c.args.toList.map U.sN++vs) K
    |none=>none
   |_=>none
  |_=>none
 |_,_=>none
def VG(ops:List Oper)(j:Nat):Option Nat:=(ops[j]?).bind (·.dst)
inductive Md where
 |v|q|x

 |p

 |a (ws:List Nat)

 |s

 |b (ws:List Nat)

 |u
 |r (ns:List Nat)
 |w (ws:List Nat)
def Md.vX:Md->Bool|.w _=>true|_=>false
def AV.tX:AV->Bool|.skp|.val _ _|.nils|.empt|.nilp|.vptr _ _|.tZ _=>true|_=>false
def SV.tX:SV->Bool|.one v=>v.tX|.cmp _ vs=>vs.all AV.tX
def AV.refs:AV->List Nat|.ptr n _|.sref n _|.swin n _ _ _=>[n]|_=>[]
def SV.refs:SV->List Nat|.one v=>v.refs|.cmp _ vs=>vs.flatMap AV.refs
def AV.alive:AV->Bool|.dead=>false|_=>true
def SV.alive:SV->Bool|.one v=>v.alive|.cmp _ vs=>vs.all AV.alive
def gH(cx:Cx)(ts:List Nat):Bool:=match ts.head?.bind cx.T with|some (.list _ e)=>e.isList|_=>false
def c1S(cx:Cx)(o:Oper)(U:AE):Bool:=match o.op with|.call c=>(match c.callee with|.builtin .append=>o.dst.isSome&&!gH cx c.argTypes.toList|.value (.func f)=>(match cx.C f with|some s=>(!(s.rs.any RA.sS || (KT s.ps).any RA.sS) || c.args.toList.all fun x=>(U.sN x).sU.isEmpty)|none=>false)|_=>false)|.store _ _ x=>(U.sN x).sU.isEmpty&&(U.tL x).isNone|_=>false
def AE.vU(U:AE)(o:Oper):List Nat:=o.op.operands.toList.flatMap fun x=>match x with|.tmp t=>(U.sl t).refs|_=>[]
def LJ(cx:Cx)(o:Oper)(d:Nat):List Nat:=d::(match o.op with|.call c=>(match c.callee with|.value (.func f)=>(match cx.C f with|some s=>BA s.rs (d+1000)|none=>[])|_=>[])|_=>[])
def a4V(a b:List Nat):Bool:=a.all fun n=>b.contains n
def sV(a b:List Nat):Bool:=a.all fun n=>!b.contains n
def a7f(U:AE):Operand->Option Nat|.tmp t=>(match U.sl t with|.one (.ptr n [])=>bif A3 (pinned<=n)then some n else none|_=>none)|_=>none
def YP(o:Oper)(U:AE):Option Nat:=match o.op with|.move x=>a7f U x|.nilCheck x=>a7f U x|_=>none
def AV.calm:AV->Bool|.ptr n []=>A3 (pinned<=n)|v=>v.tX
def SV.calm:SV->Bool|.one v=>v.calm|sv=>sv.tX
def Step.uB:Step->Bool|.idx _=>false|_=>true
def AV.still:AV->Bool|.ptr _ p|.sref _ p=>p.all Step.uB|v=>v.tX
def SV.still:SV->Bool|.one v=>v.still|sv=>sv.tX
def c1T:Ty->BJ->Option Ty|t,[]=>some t|.pair a _,.fst::p=>c1T a p|.pair _ b,.snd::p=>c1T b p|_,_=>none
def AE.wD(U:AE):Operand->Option (Nat×BJ×Ty)|.tmp t=>(match U.sl t with|.one (.ptr n p)=>(match U.rt n with|some r=>((c1T r.t p).map fun τ=>(n,p,τ))|none=>none)|_=>none)|_=>none
def AE.stay(cx:Cx)(U:AE)(o:Oper):Option AV:=match o.op with|.move (.tmp t)=>(match U.sl t with|.one v=>(bif v.still&&v.refs.all fun n=>(U.rt n).isSome then some v else none)|_=>none)|.fieldAddr s x f=>(match U.wD x with|some (n,p,τ)=>if Di τ f=true/\cx.T s=some τ.sh then some (.ptr n (p++BD f))else none|none=>none)|.load s x=>(match U.wD x with|some (n,p,.list true _)=>(match cx.T s with|some τ=>bif τ.isList then some (.sref n p)else none|none=>none)|_=>none)|_=>none
def b0y(o:Oper):Bool:=match o.op with|.move _|.binOp _ _ _ _ _|.unOp _ _ _|.pick _ _ _|.load _ _|.fieldAddr _ _ _|.indexAddr _ _ _|.index _ _ _=>true|_=>false
def AE.uS(U:AE):Bool:=match U.pd with|none=>true|some (_,p,_)=>!p.all Step.uB
def Kh(cx:Cx):Md->Oper->AE->(AE->Rs Z)->Rs Z
 |.x,o,U,K=>Bc cx false o U K
 |.w ws,o,U,K=>match U.pd with
  |none=>bif c1S cx o U&&(a4V (U.vU o) ws&&a4V (LJ cx o (o.dst.getD 0)) ws)then Bc cx false o U fun U'=>(match U'.pd with
    |none=>K U'
    |some _=>none)else none
  |some _=>none
 |.r ns,o,U,K=>bif (o.op.operands.toList.all fun x=>match x with
   |.tmp t=>(U.sl t).alive&&(U.sl t).refs.all fun n=>(U.rt n).isSome&&ns.contains n
   |_=>true)&&a4V (LJ cx o (o.dst.getD 0)) ns then
    (match o.dst with
     |some d=>Bc cx true o U fun U'=>bif a4V (U'.sl d).refs ns then K U' else none
     |none=>none)
   else none
 |.p,o,U,K=>match YP o U,o.dst with
  |some n,some d=>K (U.put d (.one (.ptr n [])))
  |_,_=>none
 |.a ws,o,U,K=>match U.pd with
  |none=>bif c1S cx o U&&(a4V (U.vU o) ws&&a4V (LJ cx o (o.dst.getD 0)) ws)then Bc cx false o U K else none
  |some _=>none
 |.b ws,o,U,K=>match U.pd with
  |none=>bif c1S cx o U&&(a4V (U.vU o) ws&&a4V (LJ cx o (o.dst.getD 0)) ws)then Bc cx false o U fun U'=>(match U'.pd with
    |some (_,p,_)=>bif !p.all Step.uB then K U' else none
    |none=>none)else none
  |some _=>none
 |.s,o,U,K=>match U.stay cx o,o.dst with
  |some v,some d=>bif v.still&&U.uS then K (U.put d (.one v))else none
  |_,_=>none
 |.u,o,U,K=>bif b0y o&&o.op.operands.toList.all (fun x=>match x with
   |.tmp t=>(U.sl t).tX
   |_=>true)then
    (match o.dst with
     |some d=>Bc cx true o U fun U'=>bif (U'.sl d).tX then K U' else none
     |none=>none)
   else none
 |.q,o,U,K=>bif o.op.operands.toList.all fun x=>match x with
   |.tmp t=>(U.sl t).refs.all fun n=>(U.rt n).isSome
   |_=>true then
    (match o.dst with
     |some _=>Bc cx true o U K
     |none=>none)
   else none
 |.v,o,U,K=>match YP o U with
  |some n=>(match o.dst with
   |some d=>K (U.put d (.one (.ptr n [])))
   |none=>none)
  |none=>bif o.op.operands.toList.all fun x=>match x with
   |.tmp t=>(U.sl t).tX
   |_=>true then
    (match o.dst with
     |some d=>Bc cx true o U fun U'=>bif (U'.sl d).tX then K U' else none
     |none=>none)
   else none
def BC(cx:Cx)(md:Md)(ops:List Oper)(o:Oper)(U:AE)(K:AE->Rs Z):Rs Z:=
 match o.guard with
 |none=>Kh cx md o U K
 |some (j,want)=>match VG ops j with
  |none=>none
  |some g=>match U.get g with
   |.val .bool (b:Bool)=>bif b then(bif want then Kh cx md o (U.set g (.val .bool true)) K else K ((U.set g (.val .bool true)).uG o.dst .skp))
     else(bif want then K ((U.set g (.val .bool false)).uG o.dst .skp)else Kh cx md o (U.set g (.val .bool false)) K)
   |.skp=>K (U.uG o.dst .skp)
   |_=>none
def Tn(cx:Cx)(ops:List Oper):List (Md×Oper)->AE->(AE->Rs Z)->Rs Z|[],U,K=>K U|(md,o)::r,U,K=>BC cx md ops o U fun U'=>Tn cx ops r U' K
def a4W:Md->Md->Bool|.x,_|_,.x=>false|.a _,.p|.p,.a _=>true|.a _,_|_,.a _=>false|.b _,.s|.s,.b _=>true|.b _,.u|.u,.b _=>true|.b _,_|_,.b _=>false|.w _,.p|.p,.w _=>true|.w _,.v|.v,.w _=>true|.w _,.u|.u,.w _=>true|.w ws,.r ns|.r ns,.w ws=>sV ns ws|.w _,_|_,.w _=>false|_,_=>true
def b4a:List Oper->List Nat->List Nat|[],acc=>acc|o::r,acc=>b4a r (acc++[o.after.toList.foldl (fun s e=>if Region.binds .any e then s ||| 2^e.on ||| acc.getD e.on 0 else s) 0])
def a4X(ops:Array Oper)(ms:List Md):Bool:=
 let b:=b4a ops.toList []
 A3 (ms.length=ops.size)&&(D3 ops.size).all fun j=>((ops.getD j default).after.toList.all fun e=>!Region.binds .any e || A3 (e.on<j)) &&
  (D3 j).all fun i=>(b.getD j 0).testBit i || (a4W (ms.getD i .x) (ms.getD j .x)&&((ops.getD i default).apart ops (ops.getD j default) &&
   (((ms.getD i .x).vX || (ops.getD i default).dst.isSome)&&((ms.getD j .x).vX || (ops.getD j default).dst.isSome))))
end
inductive Ex where
 |normal
 |exit (id:Nat)
 |ret
 deriving DecidableEq
inductive wZ where
 |sv (i:Nat) (t:Ty)

 |own (i n:Nat) (e:Ty)

 |box (n:Nat) (t:Ty)
 |ptr (i n:Nat) (p:BJ)

 |vp (i:Nat) (t:Ty)
 |ref (i n:Nat) (p:BJ)

 |rfi (i n:Nat)

 |win (i n:Nat) (p:BJ)

 |clo (i f:Nat) (ns:List Nat)
@[reducible] def Ao:=List wZ
def Ao.ty:Ao->Ty|[]=>.unit|.sv _ t::r=>.pair t (Ao.ty r)|.own _ _ e::r=>.pair (.list true e) (Ao.ty r)|.box _ t::r=>.pair t (Ao.ty r)|.ptr _ _ _::r=>Ao.ty r|.vp _ t::r=>.pair t (Ao.ty r)|.ref _ _ _::r=>Ao.ty r|.rfi _ _::r=>.pair (.int .i64) (Ao.ty r)|.win _ _ _::r=>.pair (.int .i64) (.pair (.int .i64) (Ao.ty r))|.clo _ _ _::r=>Ao.ty r
def AE.nothing:AE:=⟨fun _=>.one .dead,fun _=>none,none⟩
def Tp:List Nat->List AV|[]=>[]|n::ns=>.ptr n []::Tp ns
def Wp:List AV->List Nat->Bool|[],[]=>true|.ptr n []::vs,m::ns=>(n==m)&&Wp vs ns|_,_=>false
def Ao.enc:(es:Ao)->es.ty.sK->AE|[],_=>AE.nothing|.sv i t::r,x=>(Ao.enc r x.2).set i (.val t x.1)|.own i n e::r,x=>((Ao.enc r x.2).sI n (some ⟨false,.list true e,x.1⟩)).set i (.sref n [])|.box n t::r,x=>(Ao.enc r x.2).sI n (some ⟨true,t,x.1⟩)|.ptr i n p::r,x=>(Ao.enc r x).set i (.ptr n p)|.vp i t::r,x=>(Ao.enc r x.2).set i (.vptr t x.1)|.ref i n p::r,x=>(Ao.enc r x).set i (.sref n p)|.rfi i n::r,x=>(Ao.enc r x.2).set i (.sref n [.idx (show Int from x.1).toNat])|.win i n p::r,x=>(Ao.enc r x.2.2).set i (.swin n p (show Int from x.1).toNat (show Int from x.2.1).toNat)|.clo i f ns::r,x=>(Ao.enc r x).put i (.cmp (.clo f) (Tp ns))
def Ao.names:Ao->List Nat|[]=>[]|.own _ n _::r=>n::Ao.names r|.box n _::r=>n::Ao.names r|_::r=>Ao.names r
def b2R:List Nat->Bool|[]=>true|a::l=>!l.contains a&&b2R l
section
variable {Z:Type}
def Ao.rest(nm:List Nat)(U:AE):(es:Ao)->(es.ty.sK->Rs Z)->Rs Z|[],K=>K ()|.sv i t::r,K=>(match U.get i with|.val t' x=>(if h:t'=t then Ao.rest nm U r fun y=>K (h▸x,y)else none)|_=>none)|.own i n e::r,K=>(match U.get i with|.sref m []=>bif m==n then(match U.rt n with|some ⟨false,.list true e',l⟩=>(if h:e'=e then Ao.rest nm U r fun y=>K (h▸l,y)else none)|_=>none)else none|.nils=>(match U.rt n with|none=>(bif A3 (n<pinned)then Ao.rest nm U r fun y=>K ([],y)else none)|some _=>none)|.empt=>(match U.rt n with|none=>(bif A3 (n<pinned)then Ao.rest nm U r fun y=>K ([],y)else none)|some _=>none)|_=>none)|.box n t::r,K=>(match U.rt n with|some ⟨true,t',x⟩=>(if h:t'=t then Ao.rest nm U r fun y=>K (h▸x,y)else if t'.tO=t' then(match tF t' t x with|some z=>(Ao.rest nm U r fun y=>K (z,y))|none=>none)else none)|_=>none)|.ptr i n p::r,K=>(match U.get i with|.ptr m q=>bif nm.contains n&&((m==n)&&Tm q p)then Ao.rest nm U r K else none|_=>none)|.vp i t::r,K=>(match U.get i with|.vptr t' x=>(if h:t'=t then Ao.rest nm U r fun y=>K (h▸x,y)else none)|_=>none)|.ref i n p::r,K=>(match U.get i with|.sref m q=>bif nm.contains n&&((m==n)&&Tm q p)then Ao.rest nm U r K else none|_=>none)|.rfi i n::r,K=>(match U.get i with|.sref m [.idx k]=>(bif nm.contains n&&(m==n)then Ao.rest nm U r fun y=>K ((k:Int),y)else none)|_=>none)|.win i n p::r,K=>(match U.get i with|.swin m q o k=>(bif nm.contains n&&((m==n)&&Tm q p)then Ao.rest nm U r fun y=>K ((o:Int),(k:Int),y)else none)|_=>none)|.clo i f ns::r,K=>match U.sl i with|.cmp (.clo f') vs=>bif (f'==f)&&(ns.all nm.contains&&Wp vs ns)then Ao.rest nm U r K else none|_=>none
def AV.exact:AV->Ty->Bool|.val t' _,t=>A3 (t'=t)|_,_=>true
def Ao.vals(nm:List Nat):(es:Ao)->AE->(es.ty.sK->Rs Z)->Rs Z|.sv i t::r,U,K=>(bif (U.get i).exact t then U.uT false t (U.get i) fun x U'=>Ao.vals nm r (U'.set i (.val t x)) fun y=>K (x,y)else none)|es,U,K=>Ao.rest nm U es K
def Ao.wX(es:Ao)(U:AE)(K:es.ty.sK->Rs Z):Rs Z:=match U.pd with|none=>bif b2R es.names then Ao.vals es.names es U K else none|some _=>none
end
@[reducible] def Wq:=List (Ex×Ao)
def Wq.sK:Wq->Type|[]=>Empty|[(_,s)]=>s.ty.sK|(_,s)::r=>s.ty.sK ⊕ Wq.sK r
def Wq.pack{Z:Type}:(o:Wq)->Ex->AE->(o.sK->Rs Z)->Rs Z|[],_,_,_=>none|[(e',s)],e,U,K=>if e=e' then s.wX U K else none|(e',s)::x::r,e,U,K=>if e=e' then s.wX U fun y=>K (.inl y)else Wq.pack (x::r) e U fun y=>K (.inr y)
def Wq.open{Z:Type}:(o:Wq)->(o.sK->(Ex->AE->Rs Z)->Rs Z)
 | []=>fun _ _=>none
 | [(e',s)]=>fun x K=>K e' (s.enc x)
 |(e',s)::y::r=>
  let g:=Wq.open (y::r)
  fun x K=>Sum.elim (fun a=>K e' (s.enc a)) (fun z=>g z K) (show s.ty.sK ⊕ Wq.sK (y::r)from x)
def Je{M β:Type}(f:M->Option (M ⊕ β)):Nat->M->Option β|0,_=>none|n+1,s=>match f s with|none=>none|some (.inl s')=>Je f n s'|some (.inr b)=>some b
open Classical in
def pU {M β:Type} (f:M->Option (M ⊕ β)) (s:M):Option β:=if h:∃n b,Je f n s=some b then some h.choose_spec.choose else none
def Ah{M β:Type}(f:M->Option (M ⊕ β))(s:M):Option β:=match Je f 400 s with|some b=>some b|none=>pU f s
structure sF where
 loops:List (Nat×Ao×Wq)
 cuts:List (Nat×Wq)

 regs:List (Nat×List Md)
def find{α:Type}:List (Nat×α)->Nat->Option α|[],_=>none|(k,x)::r,n=>bif k==n then some x else find r n
def Dv(cx:Cx)(H:sF):Code->Nat->{Z:Type}->AE->(Ex->AE->Rs Z)->Rs Z
 |.skip,_,_,U,K=>K .normal U
 |.region id ops draw,_,_,U,K=>bif draw then(match find H.regs id with
    |some ms=>bif a4X ops ms then Tn cx ops.toList (ms.zip ops.toList) U fun U'=>K .normal U' else none
    |none=>none)
   else Tn cx ops.toList (ops.toList.map fun o=>(.x,o)) U fun U'=>K .normal U'
 |.seq a b,p,_,U,K=>match find H.cuts p with
  |none=>Dv cx H a (2*p) U fun e U'=>match e with
   |.normal=>Dv cx H b (2*p+1) U' K
   |e=>K e U'
  |some os=>(Dv cx H a (2*p) U fun e U'=>os.pack e U' some).bind fun x=>os.open x fun e U'=>match e with
   |.normal=>Dv cx H b (2*p+1) U' K
   |e=>K e U'
 |.cond c x y,p,_,U,K=>match U.sN c with
  |.val .bool (t:Bool)=>bif t then Dv cx H x (2*p) U K else Dv cx H y (2*p+1) U K
  |_=>none
 |.block id c,p,_,U,K=>Dv cx H c (2*p) U fun e U'=>match e with
  |.exit i=>bif i==id then K .normal U' else K (.exit i) U'
  |e=>K e U'
 |.loop c,p,_,U,K=>match find H.loops p with
  |none=>none
  |some (s,os)=>s.wX U fun x=>
   (Ah (fun x=>Dv cx H c (2*p) (s.enc x) fun e U'=>match e with
    |.normal=>s.wX U' fun x'=>some (.inl x')
    |e=>os.pack e U' fun y=>some (.inr y)) x).bind fun y=>os.open y K
 |.exit id,_,_,U,K=>K (.exit id) U
 |.ret,_,_,U,K=>K .ret U
 |_,_,_,_,_=>none
def mX(ps:List PA)(i:Nat):Option Bool:=match ps[i]? with|some (.r c _)=>some c|_=>none
def b0t(c:Bool)(i:Nat):Nat:=bif c then i else pinned+i
def gI(ps:List PA)(m:Nat):Option Nat:=
 bif A3 (m<pinned)then(match mX ps m with|some true=>some m|_=>none)
 else match mX ps (m-pinned)with|some false=>some (m-pinned)|_=>none
def wI:(t:Ty)->t.sK->AV|.nl _,_=>.nils|.int k,x=>.val (.int k) x|.bool,x=>.val .bool x|.str,x=>.val .str x|.unit,x=>.val .unit x|.list o t,x=>.val (.list o t) x|.pair a b,x=>.val (.pair a b) x|.arr n t,x=>.val (.arr n t) x
def Ws(ps:List PA)(x:(DG (ps.map PA.ty)).sK):AE where
 sl:=fun i=>match (Bw ps x)[i]? with
  |some ⟨.v t,y⟩=>.one (wI t y)
  |some ⟨.r c a,y⟩=>bif c&&A3 (pinned<=i)then .one .dead else .one (b3Z (b0t c i) ⟨a,y⟩)
  |none=>.one .dead
 rt:=fun n=>bif A3 (n<pinned)then(match (Bw ps x)[n]? with
   |some ⟨.r true a,y⟩=>Bh ⟨a,y⟩
   |_=>none)
  else match (Bw ps x)[n-pinned]? with
  |some ⟨.r false a,y⟩=>Bh ⟨a,y⟩
  |_=>none
 pd:=none
section
variable {Z:Type}
def AE.out(cx:Cx)(U:AE)(tk:List Nat)(j:Nat):(r:RA)->ResultVar ⊕ Option Nat->(r.ty.sK->AE->List Nat->Rs Z)->Rs Z
 |.v t,.inl (.tmp i),K=>bif (U.get i).sU.any tk.contains then none else U.uT false t (U.get i) fun x U'=>K x (U'.set j (.val t x)) tk
 |.v t,.inl (.cell i t'),K=>match U.get i with
  |.ptr n []=>bif tk.contains n then none else if cx.T t'=some t.sh then U.wM false t.sh (.ptr n []) fun v U'=>match v with
    |.val t'' x=>match tF t'' t x with
     |some y=>K y (U'.set j (.val t y)) tk
     |none=>none
    |_=>none
   else none
  |_=>none
 |.o e,.inl (.tmp i),K=>match U.get i with
  |.sref n []=>bif tk.contains n then none else match U.rt n with
   |some ⟨false,.list true e',l⟩=>if h:e'=e then K (h▸l) (U.set j (.sref n [])) (n::tk)else none
   |_=>none
  |.nils=>K [] (U.set j .nils) tk
  |.empt=>K [] (U.set j .empt) tk
  |.swin n [] 0 0=>bif tk.contains n || !A3 (n<pinned)then none else match U.look n with
   |some ⟨false,.list true e',_⟩=>if e'=e then K [] (((U.sJ (AV.drop n)).sI n (some ⟨false,.list true e,([]:List e.sK)⟩)).set j (.sref n [])) (n::tk)else none
   |_=>none
  |_=>none
 |.b t,.inl (.tmp i),K=>match U.get i with
  |.ptr n []=>bif tk.contains n || !A3 (n<pinned)then none else match U.rt n with
   |some ⟨true,t',x⟩=>if h:t'=t then K (h▸x) (U.set j (.ptr n [])) (n::tk)else none
   |_=>none
  |_=>none
 |.b t,.inr (some n),K=>bif tk.contains n then none else match U.rt n with
  |some ⟨true,t',x⟩=>if h:t'=t then K (h▸x) (U.set j (.ptr n [])) (n::tk)else none
  |_=>none
 |.o e,.inr (some n),K=>bif tk.contains n then none else match U.rt n with
  |some ⟨false,.list true e',x⟩=>if h:e'=e then K (h▸x) (U.set j (.sref n [])) (n::tk)else none
  |_=>none
 |.o _,.inr none,K=>K [] (U.set j .nils) tk
 |_,_,_=>none
def AE.outs(cx:Cx)(U:AE)(tk:List Nat)(j:Nat):(rs:List RA)->List (ResultVar ⊕ Option Nat)->((DG (rs.map RA.ty)).sK->AE->Rs Z)->Rs Z|[],[],K=>K () U|[r],[v],K=>(U.out cx tk j r v fun x U' _=>K x U')|r::r'::rs,v::vs,K=>(U.out cx tk j r v fun x U' tk'=>U'.outs cx tk' (j+1) (r'::rs) vs fun y U''=>K (x,y) U'')|_,_,_=>none
end
def AW:List PA->Nat->List Nat|[],_=>[]|.v _::r,i=>AW r (i+1)|.r _ _::r,i=>i::AW r (i+1)
def UH(ps:List PA)(i:Nat):Option Nat:=match mX ps i with|some true=>none|_=>some (pinned+i)
def AE.upto(U:AE)(N:Nat):AE:=⟨fun i=>bif A3 (i<N)then U.sl i else .one .dead,U.rt,U.pd⟩
def a2d(cx:Cx)(H:sF)(fn:Func)(ps:List PA)(rs:List RA)(x:(DG (ps.map PA.ty)).sK):Option (DG ((RA.all ps rs).map RA.ty)).sK:=match fn.body with|none=>none|some body=>Dv cx H body 1 (Ws ps x) fun e U=>match e,U.pd with|.exit _,_=>none|_,some _=>none|_,none=>(U.upto fn.ntmps).outs cx [] fn.ntmps (RA.all ps rs) (fn.results.toList.map .inl++(AW ps 0).map fun i=>.inr (UH ps i)) fun y _=>some y
@[reducible] def DU:=Nat->Nat->Option Value
variable {m m':DU}
@[reducible] def CI:=List (Nat×Nat)
variable {f:(Nat->Option Value)->Option (α×CI×List Nat)}
def Ak{α:Type}(f:Nat->Option (α×CI×List Nat)):(n i:Nat)->Option (List α×CI×List Nat)|0,_=>some ([],[],[])|n+1,i=>match f i with|none=>none|some (x,o,r)=>match Ak f n (i+1)with|none=>none|some (xs,os,rs)=>some (x::xs,o++os,r++rs)
def Cq{α:Type}(m:DU)(o:Bool)(sz:Nat)(f:(Nat->Option Value)->Option (α×CI×List Nat))(v:Option Value):Option (List α×CI×List Nat):=
 match v with
 |some (.slice none n c)=>if n=0/\c=0 then some ([],[],[])else none
 |some (.slice (some a) n c)=>
  if(c=0\/a.spot=none)/\n<=c then
   match Ak (fun i=>f fun j=>m a.block (a.off+(i*sz+j))) n 0 with
   |none=>none
   |some (xs,os,rs)=>
    if o=true then(if c=0 then some (xs,os,rs)else some (xs,(a.block,a.off+c*sz)::os,rs))
    else(if n=0 then some (xs,[],[])else some (xs,[],a.block::(os.map (·.1)++rs)))
  else none
 |_=>none
def AL(m:DU):(t:Ty)->(Nat->Option Value)->Option (t.sK×CI×List Nat)|.int k,rd=>(match rd 0 with|some (.int k' n)=>if k'=k then some (n,[],[])else none|_=>none)|.bool,rd=>(match rd 0 with|some (.bool b)=>some (b,[],[])|_=>none)|.str,rd=>(match rd 0 with|some (.string s)=>some ((s.data.toList.map fun b=>(b.toNat:Int):List Int),[],[])|_=>none)|.unit,_=>some ((),[],[])|.pair a b,rd=>(match AL m a rd with|none=>none|some (x,o,r)=>match AL m b (fun j=>rd (a.cells+j))with|none=>none|some (y,o',r')=>some ((x,y),o++o',r++r'))|.arr n t,rd=>Ak (fun i=>AL m t fun j=>rd (i*t.cells+j)) n 0|.list o t,rd=>Cq m o t.cells (AL m t) (rd 0)|.nl t,rd=>match rd 0 with|some (.slice none 0 0)=>some (([]:List t.sK),[],[])|_=>none
inductive Src where
 |at(b o:Nat)
 |one (v:Value)
variable {g g':Nat->Src}{s:Src}
def Src.rd(m:DU):Src->Nat->Option Value|.at b o,j=>m b (o+j)|.one v,j=>if j=0 then some v else none
def Cl(m:DU):BJ->Ty->Src->Option (Ty×Src)|[],t,s=>some (t,s)|.fst::p,t,s=>(match t,s with|.pair a _,.at bl o=>Cl m p a (.at bl o)|_,_=>none)|.snd::p,t,s=>(match t,s with|.pair a b,.at bl o=>Cl m p b (.at bl (o+a.cells))|_,_=>none)|.idx i::p,t,s=>match t,s with|.arr n t,.at bl o=>if i<n then Cl m p t (.at bl (o+i*t.cells))else none|.list true t,s=>(match s.rd m 0 with|some (.slice (some a) n _)=>if i<n then Cl m p t (.at a.block (a.off+i*t.cells))else none|_=>none)|_,_=>none
@[reducible] def loc(m:DU)(t:Ty)(s:Src)(p:BJ):Option (Ty×Src):=Cl m p t s
section collectLemmas
variable {α:Type} {f f':Nat->Option (α×CI×List Nat)}
theorem OJ:∀(n i:Nat),(∀j,i<=j->j<i+n->f' j=f j)->Ak f' n i=Ak f n i|0,_,_=>rfl|n+1,i,h=>by simp[Ak];rw[h i (C0 _) (by omega),OJ n (i+1) (fun j g k=>h j (by omega) (by omega))]
theorem AX:∀(n i:Nat){g os k},Ak f n i=some (g,os,k)->g.length=n|0,i,g,os,k,h=>by simp_all[Ak]|n+1,i,g,os,k,h=>by simp[Ak]at h;split at h;grind;split at h;grind;rename_i a;simp at h;obtain⟨rfl,rfl,rfl⟩:=h;simp[AX n (i+1) a]
theorem Bb:∀(n i k:Nat){c os a},Ak f n i=some (c,os,a)->k<n->∃x o r A B d B',f (i+k)=some (x,o,r)/\c[k]?=some x/\os=A++(o++B)/\a=d++(r++B')|0,_,_,_,_,_,_,h=>by omega|n+1,i,k,c,os,a,h,q=>by simp[Ak]at h;split at h;grind;rename_i x o r p;split at h;grind;rename_i j g b e;simp at h;obtain⟨rfl,rfl,rfl⟩:=h;cases k with|zero=>exact⟨x,o,r,[],g,[],b,by omega,by simp,by simp,by simp⟩|succ k=>obtain⟨v,t,u,A,B,d,B',l,m,rfl,rfl⟩:=Bb n (i+1) k e (by omega);grind
theorem Wt:∀(n i k:Nat){q os m x o r y e c},Ak f n i=some (q,os,m)->k<n->f (i+k)=some (x,o,r)->
  f' (i+k)=some (y,e,c)->(∀j,i<=j->j<i+n->j≠i+k->f' j=f j)->
  ∃A B g,os=A++(o++B)/\Ak f' n i=some (q.set k y,A++(e++B),g)/\∀b∈g,b∈m\/b∈c
 |0,_,_,_,_,_,_,_,_,_,_,_,_,h,_,_,_=>by omega
 |n+1,i,k,q,os,m,x,o,r,y,e,c,h,G,a,hf',w=>by
  simp[Ak]at h;split at h;grind
  ·rename_i H z C d;split at h;grind
   ·rename_i D l p u;simp at h;obtain⟨rfl,rfl,rfl⟩:=h;cases k with
    |zero=>
     simp at a hf';rw[d]at a;simp at a;obtain⟨rfl,rfl,rfl⟩:=a;refine⟨[],l,c++p,by simp,?_,?_⟩;all_goals grind[Ak,OJ]
    |succ k=>
     have t:i+1+k=i+(k+1):=by omega
     obtain⟨A,B,g,rfl,v,F⟩:=Wt n (i+1) k u (by omega) (by rw[t];omega) (by rw[t];omega)
      (fun j E u v=>w j (by omega) (by omega) (by omega))
     refine⟨z++A,B,C++g,by simp,?_,?_⟩;simp_all[Ak];grind
theorem Wu:∀(n k i:Nat){a os g ys os' rs'},Ak f n i=some (a,os,g)->Ak f k (i+n)=some (ys,os',rs')->Ak f (n+k) i=some (a++ys,os++os',g++rs')|0,k,i,a,os,g,ys,os',rs',h,b=>by simp[Ak]at h;simp_all|n+1,k,i,a,os,g,ys,os',rs',h,b=>by simp[Ak]at h;split at h;grind;rename_i p m o d;split at h;grind;rename_i l e j c;simp at h;obtain⟨rfl,rfl,rfl⟩:=h;have:=Wu n k (i+1) c (by rw[show i+1+n=i+(n+1)from by omega];omega);grind[Ak]
theorem FA:∀(n k i:Nat){o os l},Ak f (n+k) i=some (o,os,l)->
  ∃j m g e,Ak f n i=some (o.take n,j,m)/\Ak f k (i+n)=some (o.drop n,g,e)/\os=j++g/\l=m++e
 |0,k,i,o,os,l,h=>⟨[],[],os,l,by rfl,by simp_all,rfl,rfl⟩
 |n+1,k,i,o,os,l,h=>by
  rw[show n+1+k=(n+k)+1 from by omega]at h;simp[Ak]at h;split at h;grind
  ·rename_i x r t q;split at h;grind
   ·rename_i u g e p;simp at h;obtain⟨rfl,rfl,rfl⟩:=h;obtain⟨a,b,c,d,v,w,rfl,rfl⟩:=FA n k (i+1) p;refine⟨r++a,t++b,c,d,?_,?_,by simp,by simp⟩;all_goals grind[Ak]
end collectLemmas
theorem b0z{p:Bool}{f':(Nat->Option Value)->Option (α×CI×List Nat)}{v:Option Value}{x:List α}{o r}(h:Cq m p sz f v=some (x,o,r))(G:∀b j,b∈o.map (·.1)\/b∈r->m' b j=m b j)(t:∀i d l y (a:Addr) (n c:Nat),v=some (.slice (some a) n c)->f (fun j=>m a.block (a.off+(i*sz+j)))=some (y,d,l)->(∀b j,b=a.block\/(b∈d.map (·.1)\/b∈l)->m' b j=m b j)->f' (fun j=>m' a.block (a.off+(i*sz+j)))=some (y,d,l)):Cq m' p sz f' v=some (x,o,r):=by(unfold Cq at h|-;split at h;omega;rename_i a n c;split at h;rename_i E;split at h;grind;rename_i H u w q;have k:∀b j,n≠0->b=a.block\/b∈u.map (·.1)\/b∈w->m' b j=m b j:=by grind);(have e:Ak (fun i=>f' fun j=>m' a.block (a.off+(i*sz+j))) n 0=Ak (fun i=>f fun j=>m a.block (a.off+(i*sz+j))) n 0:=by(refine OJ n 0 fun i D F=>?_);obtain⟨y,d,l,A,B,z,C,g,-,rfl,rfl⟩:=Bb n 0 i q (by omega);simp at g;rw[g];refine t i d l y a n c rfl g (fun b j hb=>k b j (by omega) ?_);grind);simp_all;simp_all;omega
theorem AF{m m':DU}:∀(t:Ty){rd rd':Nat->Option Value}{x o r},AL m t rd=some (x,o,r)->
  (∀j,j<t.cells->rd' j=rd j)->(∀b j,b∈o.map (·.1)\/b∈r->m' b j=m b j)->AL m' t rd'=some (x,o,r)
 |.int k,rd,rd',x,o,r,h,hr,hm=>by
  simp_all[AL,Ty.cells]
 |.bool,rd,rd',x,o,r,h,hr,hm=>by
  simp_all[AL,Ty.cells]
 |.str,rd,rd',x,o,r,h,hr,hm=>by
  simp_all[AL,Ty.cells]
 |.unit,rd,rd',x,o,r,h,hr,hm=>by
  simp_all[AL]
 |.pair a b,rd,rd',x,o,r,h,hr,hm=>by
  simp[AL]at h|-;split at h;grind;rename_i x1 o1 r1 h1;split at h;grind;rename_i x2 o2 r2 h2;simp at h;obtain⟨rfl,rfl,rfl⟩:=h;rw[AF a h1 (fun j hj=>hr j (by simp[Ty.cells];omega)) (fun b j hb=>hm b j (by simp at hb|-;rcases hb with hb|hb;exact .inl (.inl hb);exact .inr (.inl hb)))];simp only[];rw[AF b h2 (fun j hj=>hr _ (by simp[Ty.cells];omega)) (fun b j hb=>hm b j (by simp at hb|-;rcases hb with hb|hb;exact .inl (.inr hb);exact .inr (.inr hb)))]
 |.arr n t,rd,rd',x,o,r,h,hr,hm=>by
  simp[AL]at h|-;rw[<-h];refine OJ n 0 fun i h0 hi=>?_
  obtain⟨y,o',r',A,B,A',B',hf,-,rfl,rfl⟩:=Bb n 0 i h (by omega);simp at hf;rw[hf];refine AF t hf (fun j hj=>hr _ ?_) (fun b j hb=>hm b j ?_);simp[Ty.cells]
  calc i*t.cells+j<i*t.cells+t.cells:=by omega
   _=(i+1)*t.cells:=by grind
   _<=n*t.cells:=A4 _ (by omega)
  grind
 |.list ow t,rd,rd',x,o,r,h,hr,hm=>by
  simp[AL]at h|-;rw[hr 0 (by simp[Ty.cells])];exact b0z h hm (fun i o' r' y a n c hv h2 hsub=>AF t h2 (fun j hj=>hsub _ _ (.inl rfl)) (fun b j hb=>hsub b j (.inr hb)))
 |.nl t,rd,rd',x,o,r,h,hr,hm=>by
  simp_all[AL,Ty.cells]
theorem pV{m:DU}{t:Ty}{rd:Nat->Option Value}{x o r}(h:AL m (.nl t) rd=some (x,o,r)):rd 0=some (.slice none 0 0)/\x=([]:List t.sK)/\o=[]/\r=[]:=by simp[AL]at h;grind
theorem Og(m:DU)(b o k:Nat):(fun j=>(Src.at b o).rd m (k+j))=(Src.at b (o+k)).rd m:=by grind[Src.rd]
theorem pW(m:DU)(b o k:Nat):(fun j=>m b (o+(k+j)))=(Src.at b (o+k)).rd m:=by grind[Src.rd]
theorem CK{a b:Ty}{rd:Nat->Option Value}{x o r}(h:AL m (.pair a b) rd=some (x,o,r)):∃f o1 g k o2 r2,AL m a rd=some (f,o1,g)/\AL m b (fun j=>rd (a.cells+j))=some (k,o2,r2)/\x=(f,k)/\o=o1++o2/\r=g++r2:=by simp[AL]at h;grind
theorem Mx{a b:Ty}{rd:Nat->Option Value}{g o1 h f o2 r2}(k:AL m a rd=some (g,o1,h))(c:AL m b (fun j=>rd (a.cells+j))=some (f,o2,r2)):AL m (.pair a b) rd=some ((g,f),o1++o2,h++r2):=by simp[AL,k,c];rfl
theorem b6s{v:Option Value}{x:List α}{o r}(h:Cq m true sz f v=some (x,o,r)):(v=some (.slice none 0 0)/\x=[]/\o=[]/\r=[])\/(∃a n c os,v=some (.slice (some a) n c)/\(c=0\/a.spot=none)/\n<=c/\Ak (fun i=>f ((Src.at a.block (a.off+i*sz)).rd m)) n 0=some (x,os,r)/\((c=0/\o=os)\/(c≠0/\o=(a.block,a.off+c*sz)::os))):=by unfold Cq at h;split at h;simp_all;rename_i a n c;simp only[pW]at h;grind;simp_all
theorem Ct{t:Ty}{rd:Nat->Option Value}{x:List t.sK}{o r}(h:AL m (.list true t) rd=some (x,o,r)):(rd 0=some (.slice none 0 0)/\x=[]/\o=[]/\r=[])\/(∃a n c os,rd 0=some (.slice (some a) n c)/\(c=0\/a.spot=none)/\n<=c/\Ak (fun i=>AL m t ((Src.at a.block (a.off+i*t.cells)).rd m)) n 0=some (x,os,r)/\((c=0/\o=os)\/(c≠0/\o=(a.block,a.off+c*t.cells)::os))):=b6s h
theorem ZD{m:DU}{t:Ty}{rd:Nat->Option Value}{x:List t.sK}{os r a n c}(h:rd 0=some (.slice (some a) n c))(g:a.spot=none)(k:n<=c)(f:c≠0) (b:Ak (fun i=>AL m t ((Src.at a.block (a.off+i*t.cells)).rd m)) n 0=some (x,os,r)):AL m (.list true t) rd=some (x,(a.block,a.off+c*t.cells)::os,r):=by show Cq m true t.cells (AL m t) (rd 0)=_;simp_all[Cq,pW]
theorem MN{p t s r}(h:loc m t s (.fst::p)=some r):∃a b bl o,t=.pair a b/\s=.at bl o/\loc m a (.at bl o) p=some r:=by simp[loc,Cl]at h;grind
theorem MO{p t s r}(h:loc m t s (.snd::p)=some r):∃a b bl o,t=.pair a b/\s=.at bl o/\loc m b (.at bl (o+a.cells)) p=some r:=by simp[loc,Cl]at h;grind
theorem LK{i p t s r}(h:loc m t s (.idx i::p)=some r):(∃n g bl o,t=.arr n g/\s=.at bl o/\i<n/\loc m g (.at bl (o+i*g.cells)) p=some r)\/(∃g a n c,t=.list true g/\s.rd m 0=some (.slice (some a) n c)/\i<n/\loc m g (.at a.block (a.off+i*g.cells)) p=some r):=by simp[loc,Cl]at h;grind
theorem BT{m:DU}:∀(p:BJ)(t:Ty)(s:Src){x O R q s'},AL m t (s.rd m)=some (x,O,R)->loc m t s p=some (q,s')->∃y f k A B d B',AL m q (s'.rd m)=some (y,f,k)/\Dc t x p=⟨q,y⟩/\O=A++(f++B)/\R=d++(k++B')|[],t,s,x,O,R,q,s',h,g=>(by simp[Cl]at g;obtain⟨rfl,rfl⟩:=g;exact⟨x,O,R,[],[],[],[],h,rfl,by simp,by simp⟩)|.fst::p,t,s,x,O,R,q,s',h,g=>(by obtain⟨a,b,D,o,rfl,rfl,g⟩:=MN g;obtain⟨Z,L,N,x2,M,P,H,E,rfl,rfl,rfl⟩:=CK h;obtain⟨y,f,k,A,B,d,B',l,u,rfl,rfl⟩:=BT p a (.at D o) H g;exact⟨y,f,k,A,B++M,d,B'++P,l,u,by simp,by simp⟩)|.snd::p,t,s,x,O,R,q,s',h,g=>(by obtain⟨a,b,D,o,rfl,rfl,g⟩:=MO g;obtain⟨Z,L,N,x2,M,P,H,E,rfl,rfl,rfl⟩:=CK h;rw[Og]at E;obtain⟨y,f,k,A,B,d,B',l,u,rfl,rfl⟩:=BT p b (.at D (o+a.cells)) E g;exact⟨y,f,k,L++A,B,N++d,B',l,u,by simp,by simp⟩)|.idx i::p,t,s,x,O,R,q,s',h,g=>by(rcases LK g with⟨n,w,D,o,rfl,rfl,F,g⟩|⟨w,a,n,c,rfl,r,F,g⟩;simp[AL,Og]at h;obtain⟨y0,X,Y,z,C,e,j,v,U,rfl,rfl⟩:=Bb n 0 i h F;simp at v;obtain⟨y,f,k,A,B,d,B',l,u,rfl,rfl⟩:=BT p w _ v g;refine⟨y,f,k,z++A,B++C,e++d,B'++j,l,?_,by simp,by simp⟩;simp_all[Em,C6];rcases Ct h with⟨K,-⟩|⟨G,V,Q,os,K,ha,hn,T,S⟩;simp_all;rw[K]at r;simp at r;obtain⟨rfl,rfl,rfl⟩:=r;obtain⟨y0,X,Y,z,C,e,j,v,U,rfl,rfl⟩:=Bb V 0 i T F;simp at v;obtain⟨y,f,k,A,B,d,B',l,u,rfl,rfl⟩:=BT p w _ v g;have I:Dc (.list true w) x (.idx i::p)=⟨q,y⟩:=by simp_all[Em,C6]);rcases S with⟨-,rfl⟩|⟨-,rfl⟩;exact⟨y,f,k,z++A,B++C,e++d,B'++j,l,I,by simp,by simp⟩;exact⟨y,f,k,(G.block,G.off+Q*w.cells)::(z++A),B++C,e++d,B'++j,l,I,by simp,by simp⟩
def Src.wC:Src->Nat->Prop|.at sb _,c=>c≠sb|.one _,_=>True
theorem pX(t:Ty)(x y:t.sK):Fp t x [] t y=y:=by(show(if h:t=t then h▸y else x)=y);simp
theorem TJ{m:DU}:∀(p:BJ)(t:Ty)(s:Src){x O R l b o},AL m t (s.rd m)=some (x,O,R)->loc m t s p=some (l,.at b o)->(∃so,s=.at b so/\so<=o/\o+l.cells<=so+t.cells)\/∃k,(b,k)∈O/\o+l.cells<=k|[],t,s,x,O,R,l,b,o,h,f=>by simp[Cl]at f;simp_all|.fst::p,t,s,x,O,R,l,b,o,h,f=>(by obtain⟨a,B,r,so,rfl,rfl,f⟩:=MN f;obtain⟨U,N,S,V,P,T,C,y,rfl,rfl,rfl⟩:=CK h;rcases TJ p a (.at r so) C f with⟨A,g,e,z⟩|⟨k,g,e⟩;simp at g;obtain⟨rfl,rfl⟩:=g;exact .inl ⟨_,rfl,e,by grind[Ty.cells]⟩;grind)|.snd::p,t,s,x,O,R,l,b,o,h,f=>(by obtain⟨a,B,r,so,rfl,rfl,f⟩:=MO f;obtain⟨U,N,S,V,P,T,C,y,rfl,rfl,rfl⟩:=CK h;rw[Og]at y;rcases TJ p B (.at r (so+a.cells)) y f with⟨A,g,e,z⟩|⟨k,g,e⟩;simp at g;obtain⟨rfl,rfl⟩:=g;exact .inl ⟨_,rfl,by omega,by grind[Ty.cells]⟩;grind)|.idx i::p,t,s,x,O,R,l,b,o,h,f=>by(rcases LK f with⟨n,d,r,so,rfl,rfl,u,f⟩|⟨d,a,n,c,rfl,j,u,f⟩;simp[AL,Og]at h;obtain⟨X,M,Q,E,F,v,w,q,K,rfl,rfl⟩:=Bb n 0 i h u;simp at q;have hk:i*d.cells+d.cells<=n*d.cells:=by rw[<-A7];exact A4 _ u);rcases TJ p d _ q f with⟨A,g,e,z⟩|⟨k,g,e⟩;simp at g;obtain⟨rfl,rfl⟩:=g;exact .inl ⟨_,rfl,by omega,by grind[Ty.cells]⟩;grind;rcases Ct h with⟨D,-⟩|⟨Y,L,G,os,D,Z,hn,I,H⟩;simp_all;rw[D]at j;simp at j;obtain⟨rfl,rfl,rfl⟩:=j;obtain⟨X,M,Q,E,F,v,w,q,K,rfl,rfl⟩:=Bb L 0 i I u;simp at q;rcases H with⟨hc,-⟩|⟨-,rfl⟩;omega;rcases TJ p d _ q f with⟨A,g,e,z⟩|⟨k,g,e⟩;simp at g;obtain⟨rfl,rfl⟩:=g;refine .inr ⟨_,D5,?_⟩;(have:i*d.cells+d.cells<=G*d.cells:=by rw[<-A7];exact A4 _ (by omega));omega;grind
theorem IK{m:DU}(p:BJ)(t:Ty)(s:Src){x O R g b o}(h:AL m t (s.rd m)=some (x,O,R))(f:loc m t s p=some (g,.at b o)):(∃so,s=.at b so/\so<=o/\o+g.cells<=so+t.cells)\/b∈O.map (·.1):=(TJ p t s h f).imp id fun⟨_,h,_⟩=>C2 h
theorem MP{α:Type}{f:Nat->Option (α×CI×List Nat)}:∀(n i:Nat){q os p},Ak f n i=some (q,os,p)->(os.map (·.1)).Nodup->∀j k,j<n->k<n->j≠k->∀{xj oj rj xk ok rk},f (i+j)=some (xj,oj,rj)->f (i+k)=some (xk,ok,rk)->∀c,c∈oj.map (·.1)->c∉ok.map (·.1)|0,_,_,_,_,_,_,_,_,w,_,_=>by omega|n+1,i,q,os,p,h,m,j,k,w,K,hjk=>by intro t u c e g;simp[Ak]at h;split at h;grind;rename_i Q M O v;split at h;grind;(rename_i D b C d;simp at h;obtain⟨rfl,rfl,rfl⟩:=h;rw[pA,B6]at m;obtain⟨-,a,H⟩:=m;have z:∀l x o r,l<n->f (i+(l+1))=some (x,o,r)->∀c,c∈o.map (·.1)->c∈b.map (·.1):=by intro l x o r y I c e;obtain⟨P,L,N,A,B,E,F,G,-,rfl,-⟩:=Bb n (i+1) l d y;grind);cases j with|zero=>(cases k with|zero=>omega|succ k=>grind)|succ j=>cases k with|zero=>grind|succ k=>exact MP n (i+1) d a j k (by omega) (by omega) (by omega) (by rw[show i+1+j=i+(j+1)from by omega];exact t) (by rw[show i+1+k=i+(k+1)from by omega];exact u) c e g
def c4G(m m':DU)(s:Src)(O:CI)(R:List Nat)(b o n:Nat)(O':CI):Prop:=∀c j,m' c j=m c j\/(c=b/\o<=j/\j<o+n)\/c∈O'.map (·.1)\/(c∉O.map (·.1)/\c∉R/\s.wC c)
structure xC (s:Src) (O:CI) (R:List Nat):Prop where
 nodup:(O.map (·.1)).Nodup
 src:∀c∈O.map (·.1),s.wC c
 shared:∀c∈R,c∉O.map (·.1)/\s.wC c
theorem b2S{A O B:List (Nat×α)}(h:c∈O.map (·.1)):c∈(A++(O++B)).map (·.1):=by simp_all
theorem SA{t2:Ty}{h so:Nat}{g o2 r2}(f:AL m t2 ((Src.at h so).rd m)=some (g,o2,r2))(k:∀j,j<t2.cells->m' h (so+j)=m h (so+j))(hb:∀c j,c∈o2.map (·.1)\/c∈r2->m' c j=m c j):AL m' t2 ((Src.at h so).rd m')=some (g,o2,r2):=AF t2 f (fun j a=>k j a) hb
theorem b0A{m m':DU}:∀(p:BJ)(t:Ty)(s:Src){x O R Y b o y O' R' y' O'' R''},AL m t (s.rd m)=some (x,O,R)->loc m t s p=some (Y,.at b o)->
  AL m Y ((Src.at b o).rd m)=some (y,O',R')->AL m' Y ((Src.at b o).rd m')=some (y',O'',R'')->xC s O R->c4G m m' s O R b o Y.cells O'->
  ∃A B R1,O=A++(O'++B)/\AL m' t (s.rd m')=some (Fp t x p Y y',A++(O''++B),R1)/\∀c∈R1,c∈R\/c∈R''
 | [],t,s,x,O,R,Y,b,o,y,O',R',y',O'',R'',h,r,M,hy',l,f=>by
  simp[Cl]at r;obtain⟨rfl,rfl⟩:=r;rw[h]at M;simp at M;obtain⟨rfl,rfl,rfl⟩:=M;exact⟨[],[],R'',by simp,by simp_all[pX],fun c f=>.inr f⟩
 |.fst::p,t,s,x,O,R,Y,b,o,y,O',R',y',O'',R'',h,r,M,hy',l,f=>by
  obtain⟨a,b',q,u,rfl,rfl,r⟩:=MN r;obtain⟨x1,V,r1,x2,X,r2,h1,h2,rfl,rfl,rfl⟩:=CK h;have U:=IK p a _ h1 r;obtain⟨y1,g4,g5,A1,B1,h9,g0,G,-,e1,e2⟩:=BT p a _ h1 r;rw[M]at G;simp at G;obtain⟨rfl,rfl,rfl⟩:=G;have L:∀c,c∈O'.map (·.1)->c∈V.map (·.1):=fun c f=>by simp_all
  have hn:=l.nodup;rw[pA,B6]at hn;have b0:xC (.at q u) V r1:=⟨hn.1,fun c f=>l.src c (by grind),
   fun c f=>⟨fun h=>(l.shared c (A9 _ f)).1 (by grind),(l.shared c (A9 _ f)).2⟩⟩
  obtain⟨A,B,R1,e3,h3,h4⟩:=b0A p a (.at q u) h1 r M hy' b0 (fun c j=>by
   rcases f c j with h|h|h|⟨h,F,d⟩;all_goals grind)
  rw[Og]at h2;have k2:∀c,c∈V.map (·.1)\/c∈X.map (·.1)->c≠q:=fun c f=>l.src c (by grind);have h5:=SA (m':=m') h2 (fun j hj=>by
    rcases f q (u+a.cells+j)with h|⟨hb,Z,E⟩|h|⟨h,F,d⟩;omega
    ·rcases U with⟨s1,Q,g2,g3⟩|g;all_goals grind
    grind;exact absurd rfl d)
   (fun c j w=>by
    have a9:c∈X.map (·.1)\/(c∈r2/\c∉V.map (·.1)/\c≠q):=by
     rcases w with g|g;grind
     have:=l.shared c (A8 _ g)
     exact .inr ⟨g,fun g'=>this.1 (by grind),this.2⟩
    have b7:c∉V.map (·.1):=by
     grind
    have k7:c≠q:=by
     grind
    rcases f c j with h|⟨hb,Z,E⟩|h|⟨h,F,d⟩;omega
    ·rcases U with⟨s1,Q,g2,g3⟩|g;all_goals grind
    all_goals grind)
  refine⟨A,B++X,R1++r2,by grind,?_,fun c f=>?_⟩;rw[<-Og]at h5
  have:=Mx h3 h5
  have e:A++(O''++(B++X))=(A++(O''++B))++X:=by simp
  rw[e];exact this;grind
 |.snd::p,t,s,x,O,R,Y,b,o,y,O',R',y',O'',R'',h,r,M,hy',l,f=>by
  obtain⟨a,b',q,u,rfl,rfl,r⟩:=MO r;obtain⟨x1,V,r1,x2,X,r2,h1,h2,rfl,rfl,rfl⟩:=CK h;rw[Og]at h2;have U:=IK p b' _ h2 r;obtain⟨y1,g4,g5,A1,B1,h9,g0,G,-,e1,e2⟩:=BT p b' _ h2 r;rw[M]at G;simp at G;obtain⟨rfl,rfl,rfl⟩:=G;have L:∀c,c∈O'.map (·.1)->c∈X.map (·.1):=fun c f=>by simp_all
  have hn:=l.nodup;rw[pA,B6]at hn;have k2:∀c,c∈V.map (·.1)\/c∈X.map (·.1)->c≠q:=fun c f=>l.src c (by grind);have b3:xC (.at q (u+a.cells)) X r2:=⟨hn.2.1,fun c f=>k2 c (.inr f),
   fun c f=>⟨fun h=>(l.shared c (A8 _ f)).1 (by grind),(l.shared c (A8 _ f)).2⟩⟩
  obtain⟨A,B,R1,e3,h3,h4⟩:=b0A p b' (.at q (u+a.cells)) h2 r M hy' b3 (fun c j=>by
   rcases f c j with h|h|h|⟨h,F,d⟩;grind;omega;grind;simp only[pA,mA]at h F;exact .inr (.inr (.inr ⟨fun g=>h (.inr g),fun g=>F (.inr g),d⟩)))
  have h5:=SA (m':=m') h1 (fun j hj=>by
    rcases f q (u+j)with h|⟨hb,Z,E⟩|h|⟨h,F,d⟩;omega
    ·rcases U with⟨s1,Q,g2,g3⟩|g;all_goals grind
    grind;exact absurd rfl d)
   (fun c j w=>by
    have a9:c∈V.map (·.1)\/(c∈r1/\c∉X.map (·.1)/\c≠q):=by
     rcases w with g|g;grind
     have:=l.shared c (A9 _ g)
     exact .inr ⟨g,fun g'=>this.1 (by grind),this.2⟩
    have b8:c∉X.map (·.1):=by
     grind
    have k7:c≠q:=by
     grind
    rcases f c j with h|⟨hb,Z,E⟩|h|⟨h,F,d⟩;omega
    ·rcases U with⟨s1,Q,g2,g3⟩|g;all_goals grind
    all_goals grind)
  refine⟨V++A,B,r1++R1,by grind,?_,fun c f=>?_⟩;rw[<-Og]at h3
  have:=Mx h5 h3
  have e:V++A++(O''++B)=V++(A++(O''++B)):=by simp
  rw[e];exact this;grind
 |.idx i::p,t,s,x,O,R,Y,b,o,y,O',R',y',O'',R'',h,r,M,hy',l,f=>by
  rcases LK r with⟨n,t,q,u,rfl,rfl,hi,r⟩|⟨t,a0,n0,c0,rfl,k0,hi,r⟩
  ·have h:Ak (fun i=>AL m t fun j=>(Src.at q u).rd m (i*t.cells+j)) n 0=some (x,O,R):=h;have h0:Ak (fun i=>AL m t ((Src.at q (u+i*t.cells)).rd m)) n 0=some (x,O,R):=by grind[Og]
   have k6:∀c,c∈O.map (·.1)->c≠q:=fun c f=>l.src c f;obtain⟨z,P,ri,A0,B0,k8,a2,N,hz,e1,e2⟩:=Bb n 0 i h0 hi;simp at N;have D:∀c,c∈P.map (·.1)->c∈O.map (·.1):=fun c f=>by simp_all
   have I:∀c,c∈ri->c∈R:=fun c f=>by simp_all
   have U:=IK p t _ N r;obtain⟨y1,g4,g5,A1,B1,h9,g0,G,-,e3,e4⟩:=BT p t _ N r;rw[M]at G;simp at G;obtain⟨rfl,rfl,rfl⟩:=G;have L:∀c,c∈O'.map (·.1)->c∈P.map (·.1):=fun c f=>by simp_all
   have g7:(P.map (·.1)).Nodup:=by
    have:=l.nodup
    grind
   have g9:xC (.at q (u+i*t.cells)) P ri:=⟨g7,fun c f=>k6 c (D c f),fun c f=>⟨fun g=>(l.shared c (I c f)).1 (D c g),(l.shared c (I c f)).2⟩⟩;obtain⟨A,B,R1,e5,h3,h4⟩:=b0A p t (.at q (u+i*t.cells)) N r M hy' g9 (fun c j=>by
    rcases f c j with h|h|h|⟨h,F,d⟩;simp_all;omega;simp_all;exact .inr (.inr (.inr ⟨fun g=>h (D c g),fun g=>F (I c g),d⟩)))
   have T:∀j,0<=j->j<0+n->j≠0+i->AL m' t ((Src.at q (u+j*t.cells)).rd m')=AL m t ((Src.at q (u+j*t.cells)).rd m):=by
    intro j _ hj H;simp only[C1]at hj H;obtain⟨zj,oj,rj,Aj,Bj,k9,a3,C,-,ej,a4⟩:=Bb n 0 j h0 hj;simp at C;rw[C];have k1:=MP n 0 h0 l.nodup i j hi hj (Ne.symm H) (by simpa using N) (by simpa using C);refine SA C (fun k hk=>?_) (fun c k w=>?_);rcases f q (u+j*t.cells+k)with h|⟨hb,Z,E⟩|h|⟨h,F,d⟩;omega;rcases U with⟨s1,Q,g2,g3⟩|g;simp at Q;obtain⟨-,rfl⟩:=Q;exfalso;rcases C4 H with g|g
    have:j*t.cells+t.cells<=i*t.cells:=by rw[<-A7];exact A4 _ g
    omega
    have:i*t.cells+t.cells<=j*t.cells:=by rw[<-A7];exact A4 _ g
    omega;grind;grind;exact absurd rfl d
    ·have a8:c∈oj.map (·.1)->c∈O.map (·.1):=fun g=>by grind
     have S:c∈rj->c∈R:=fun g=>by grind
     have b4:c∉P.map (·.1):=by
      rcases w with g|g;grind;exact fun g'=>(l.shared c (S g)).1 (D c g')
     have k7:c≠q:=by
      rcases w with g|g;grind;exact(l.shared c (S g)).2
     rcases f c k with h|⟨hb,Z,E⟩|h|⟨h,F,d⟩;omega
     ·rcases U with⟨s1,Q,g2,g3⟩|g;all_goals grind
     all_goals grind
   obtain⟨A2,B2,h8,e6,h6,h7⟩:=Wt (f':=fun i=>AL m' t ((Src.at q (u+i*t.cells)).rd m')) n 0 i h0 hi (by simpa using N) (by simpa using h3) T;refine⟨A2++A,B++B2,h8,by grind,?_,fun c f=>?_⟩;show Ak (fun i=>AL m' t fun j=>(Src.at q u).rd m' (i*t.cells+j)) n 0=some (D4 x i (Gc p t (C6 x i t.dflt) Y y'),A2++A++(O''++(B++B2)),h8);simp only[Og];grind;grind
  ·rcases Ct h with⟨hv,-⟩|⟨a,n,c,os,hv,ha,hn,h0,Z⟩;simp_all
   ·rw[hv]at k0;simp at k0;obtain⟨rfl,rfl,rfl⟩:=k0;rcases Z with⟨a7,-⟩|⟨a7,rfl⟩;omega
    ·have k3:=l.nodup;simp only[B9,C3]at k3;obtain⟨a5,k4⟩:=k3;have g6:a.block∈(((a.block,a.off+c*t.cells)::os).map (·.1)):=by simp
     obtain⟨z,P,ri,A0,B0,k8,a2,N,hz,e1,e2⟩:=Bb n 0 i h0 hi;simp at N;have k5:∀c,c∈P.map (·.1)->c∈os.map (·.1):=fun c f=>by simp_all
     have D:∀K,K∈P.map (·.1)->K∈(((a.block,a.off+c*t.cells)::os).map (·.1)):=fun K f=>by
      simp_all
     have I:∀c,c∈ri->c∈R:=fun c f=>by simp_all
     have U:=IK p t _ N r;have a6:b∈(((a.block,a.off+c*t.cells)::os).map (·.1)):=by
      grind
     obtain⟨y1,g4,g5,A1,B1,h9,g0,G,-,e3,e4⟩:=BT p t _ N r;rw[M]at G;simp at G;obtain⟨rfl,rfl,rfl⟩:=G;have L:∀c,c∈O'.map (·.1)->c∈P.map (·.1):=fun c f=>by grind
     have g7:(P.map (·.1)).Nodup:=by
      grind
     have g9:xC (.at a.block (a.off+i*t.cells)) P ri:=⟨g7,fun c f (e:c=a.block)=>a5 (e▸k5 c f),
      fun c f=>⟨fun g=>(l.shared c (I c f)).1 (D c g),fun(e:c=a.block)=>(l.shared c (I c f)).1 (e▸g6)⟩⟩
     obtain⟨A,B,R1,e5,h3,h4⟩:=b0A p t (.at a.block (a.off+i*t.cells)) N r M hy' g9 (fun c j=>by
      rcases f c j with h|h|h|⟨h,F,d⟩;grind;omega;grind;exact .inr (.inr (.inr ⟨fun g=>h (D c g),fun g=>F (I c g),fun(e:c=a.block)=>h (e▸g6)⟩)))
     have b5:s.rd m' 0=some (.slice (some a) n c):=by
      rw[<-hv];cases s with
      |one v=>rfl
      |_=>
       rename_i sb u;show m' sb (u+0)=m sb (u+0);rcases f sb (u+0)with h|⟨hb,Z,E⟩|h|⟨h,F,d⟩;omega;exact absurd rfl (hb▸l.src b a6);exact absurd rfl (l.src sb (D _ (L _ h)));exact absurd rfl d
     have T:∀j,0<=j->j<0+n->j≠0+i->AL m' t ((Src.at a.block (a.off+j*t.cells)).rd m')=AL m t ((Src.at a.block (a.off+j*t.cells)).rd m):=by
      intro j _ hj H;simp only[C1]at hj H;obtain⟨zj,oj,rj,Aj,Bj,k9,a3,C,-,ej,a4⟩:=Bb n 0 j h0 hj;simp at C;rw[C];have k1:=MP n 0 h0 k4 i j hi hj (Ne.symm H) (by simpa using N) (by simpa using C);refine SA C (fun k hk=>?_) (fun K k w=>?_)
      ·rcases f a.block (a.off+j*t.cells+k)with h|⟨hb,Z,E⟩|h|⟨h,F,d⟩;omega;rcases U with⟨s1,Q,g2,g3⟩|g;simp at Q;obtain⟨-,rfl⟩:=Q;exfalso;rcases C4 H with g|g
       have:j*t.cells+t.cells<=i*t.cells:=by rw[<-A7];exact A4 _ g
       omega
       have:i*t.cells+t.cells<=j*t.cells:=by rw[<-A7];exact A4 _ g
       omega;grind;all_goals grind
      ·have a8:K∈oj.map (·.1)->K∈os.map (·.1):=fun g=>by grind
       have S:K∈rj->K∈R:=fun g=>by grind
       have b4:K∉P.map (·.1):=by
        rcases w with g|g;grind;exact fun g'=>(l.shared K (S g)).1 (D K g')
       have b6:K≠a.block:=by
        rcases w with g|g;grind;exact fun e=>(l.shared K (S g)).1 (e▸g6)
       rcases f K k with h|⟨hb,Z,E⟩|h|⟨h,F,d⟩;omega
       ·rcases U with⟨s1,Q,g2,g3⟩|g;all_goals grind
       all_goals grind
     obtain⟨A2,B2,h8,e6,h6,h7⟩:=Wt (f':=fun i=>AL m' t ((Src.at a.block (a.off+i*t.cells)).rd m')) n 0 i h0 hi (by simpa using N) (by simpa using h3) T;refine⟨(a.block,a.off+c*t.cells)::(A2++A),B++B2,h8,by grind,?_,fun c f=>?_⟩;show AL m' (.list true t) (s.rd m')=some (D4 x i (Gc p t (C6 x i t.dflt) Y y'),_);grind[ZD];grind
theorem UI{O R b o n e}(i:c4G m m' s O R b o n e)(p:xC s O R){bl so:Nat}{o1 o2:CI}{r2:List Nat}(v:¬ s.wC bl\/bl∈O.map (·.1))(u:∀c∈o1.map (·.1),c∈O.map (·.1)/\c≠bl)(z:∀c∈o2.map (·.1),c∈O.map (·.1)/\c≠bl)(A:∀c∈o1.map (·.1),c∉o2.map (·.1))(l:∀c∈r2,c∈R)(q:∀c∈e.map (·.1),c∈o1.map (·.1))(C:(b=bl/\∀j,j<k->¬ (o<=so+j/\so+j<o+n))\/b∈o1.map (·.1)):
  (∀j,j<k->m' bl (so+j)=m bl (so+j))/\(∀c j,c∈o2.map (·.1)\/c∈r2->m' c j=m c j):=by
 constructor
 ·intro j B;rcases i bl (so+j)with h|⟨hb,w,d⟩|h|⟨h,t,a⟩;all_goals grind
 ·intro c j f;have y:c∉o1.map (·.1):=by
   rcases f with g|g;grind;exact fun r=>(p.shared c (l c g)).1 (u c r).1
  have x:c≠bl:=by
   rcases f with g|g;grind
   have:=p.shared c (l c g)
   grind
  rcases i c j with h|⟨hb,w,d⟩|h|⟨h,t,a⟩;all_goals grind
theorem cJ{m m':DU}:∀(q:BJ)(t:Ty)(s:Src),t.tO=t->loc m' t s q=loc m t s q|[],t,s,_=>rfl|.fst::q,t,s,h=>by(cases t<;>cases s<;>try rfl);rename_i a b g o;simp only[Ty.tO,Ty.pair.injEq]at h;exact cJ q a (.at g o) h.1|.snd::q,t,s,h=>by(cases t<;>cases s<;>try rfl);rename_i a b g o;simp only[Ty.tO,Ty.pair.injEq]at h;exact cJ q b (.at g (o+a.cells)) h.2|.idx i::q,t,s,h=>by(cases t<;>cases s<;>try rfl);(rename_i o t _ _;cases o;rfl;simp[Ty.tO]at h;rename_i o t _;cases o;rfl;simp[Ty.tO]at h;rename_i n t g o;simp only[Ty.tO,Ty.arr.injEq]at h;show(if i<n then loc m' t (.at g (o+i*t.cells)) q else none)=(if i<n then loc m t (.at g (o+i*t.cells)) q else none));rw[cJ q t _ (Ty.uY t h.2)]
theorem CW{m m':DU}:∀(q:BJ)(t:Ty)(s:Src){x O R r},AL m t (s.rd m)=some (x,O,R)->loc m t s q=some r->(∀j,j<t.cells->s.rd m' j=s.rd m j)->(∀c j,c∈O.map (·.1)->m' c j=m c j)->loc m' t s q=some r|[],t,s,x,O,R,r,h,f,d,hb=>f|.fst::q,t,s,x,O,R,r,h,f,d,hb=>(by obtain⟨a,A,o,u,rfl,rfl,f⟩:=MN f;obtain⟨U,N,S,V,P,T,B,y,rfl,rfl,rfl⟩:=CK h;exact CW q a (.at o u) B f (fun j z=>d j (by simp only[Ty.cells];omega)) (fun c j g=>hb c j (by simp only[pA,mA];exact .inl g)))|.snd::q,t,s,x,O,R,r,h,f,d,hb=>(by obtain⟨a,A,o,u,rfl,rfl,f⟩:=MO f;obtain⟨U,N,S,V,P,T,B,y,rfl,rfl,rfl⟩:=CK h;rw[Og]at y;refine CW q A (.at o (u+a.cells)) y f (fun j z=>?_) (fun c j g=>hb c j (by simp only[pA,mA];exact .inr g));have:=d (a.cells+j) (by simp only[Ty.cells];omega);simpa[Src.rd,Nat.add_assoc]using this)|.idx i::q,t,s,x,O,R,r,h,f,d,hb=>by(rcases LK f with⟨n,k,o,u,rfl,rfl,l,f⟩|⟨k,a,n,c,rfl,b,l,f⟩;simp[AL,Og]at h;obtain⟨X,M,Q,D,E,v,w,p,K,rfl,rfl⟩:=Bb n 0 i h l;simp at p;show(if i<n then loc m' k (.at o (u+i*k.cells)) q else none)=some r);(rw[if_pos l];have hk:i*k.cells+k.cells<=n*k.cells:=by rw[<-A7];exact A4 _ l);refine CW q k _ p f (fun j z=>?_) (fun c j g=>hb c j (b2S g));have:=d (i*k.cells+j) (by grind[Ty.cells]);(simp_all[Src.rd,Nat.add_assoc];have Z:s.rd m' 0=some (.slice (some a) n c):=by simp_all[Ty.cells]);(have e:loc m' (.list true k) s (.idx i::q)=if i<n then loc m' k (.at a.block (a.off+i*k.cells)) q else none:=by simp_all[Cl]);rw[e,if_pos l];rcases Ct h with⟨C,-⟩|⟨F,L,Y,os,C,ha,hn,I,H⟩;simp_all;rw[C]at b;simp at b;obtain⟨rfl,rfl,rfl⟩:=b;obtain⟨X,M,Q,D,E,v,w,p,K,rfl,rfl⟩:=Bb L 0 i I l;simp at p;rcases H with⟨G,-⟩|⟨-,rfl⟩;omega;exact CW q k _ p f (fun j z=>hb F.block _ (by simp)) (fun c j g=>hb c j (by simp only[B9,mC];exact .inr (b2S g)))
theorem Rq{q:BJ}{t:Ty}{x O R e s'}(h:AL m t (s.rd m)=some (x,O,R))(k:loc m t s q=some (.list true e,s'))(f:∀j,j<t.cells->s.rd m' j=s.rd m j)(hb:∀c j,c∈O.map (·.1)->m' c j=m c j):s'.rd m' 0=s'.rd m 0:=by cases s' with|one v=>rfl|_=>rename_i b o;rcases IK q t s h k with⟨a,rfl,g,d⟩|g;have:=f (o-a) (by grind[Ty.cells]);simp_all[Src.rd];exact hb b _ g
theorem UJ{m m':DU}:∀(p q:BJ)(t:Ty)(s:Src){x O R V b o y O' R' r},AL m t (s.rd m)=some (x,O,R)->loc m t s p=some (V,.at b o)->AL m V ((Src.at b o).rd m)=some (y,O',R')->xC s O R->c4G m m' s O R b o V.cells O'->(∀rest,q=p++rest->rest=[]\/V.tO=V)->loc m t s q=some r->loc m' t s q=some r/\∀e s',r=(.list true e,s')->(∀rest,q≠p++rest)->s'.rd m' 0=s'.rd m 0
 | [],q,t,s,x,O,R,V,b,o,y,O',R',r,h,w,Q,l,f,hq,A=>by simp[Cl]at w;obtain⟨rfl,rfl⟩:=w;refine⟨?_,fun _ _ _ H=>absurd rfl (H q)⟩;rcases hq q rfl with rfl|g;exact A;grind[cJ]
 |.fst::p,q,t,s,x,O,R,V,b,o,y,O',R',r,h,w,Q,l,f,hq,A=>by
  obtain⟨a,X,bl,so,rfl,rfl,w⟩:=MN w;obtain⟨x1,o1,r1,x2,o2,r2,h1,Y,rfl,rfl,rfl⟩:=CK h;have hw:=IK p a _ h1 w;obtain⟨y1,h6,h7,A1,B1,h4,h5,G,-,B,e2⟩:=BT p a _ h1 w;rw[Q]at G;simp at G;obtain⟨rfl,rfl,rfl⟩:=G;have u:∀c,c∈O'.map (·.1)->c∈o1.map (·.1):=fun c f=>by simp_all
  have Z:=l.nodup;rw[pA,B6]at Z;have m1:∀c,c∈o1.map (·.1)->c∈(o1++o2).map (·.1):=fun c f=>by grind
  have m2:∀c,c∈o2.map (·.1)->c∈(o1++o2).map (·.1):=fun c f=>by grind
  cases q with
   |nil=>refine⟨A,fun e s' B _=>?_⟩;simp[Cl]at A;grind
   |cons st q=>
    cases st with
     |fst=>
      have d:loc m a (.at bl so) q=some r:=A;have a2:xC (.at bl so) o1 r1:=⟨Z.1,fun c f=>l.src c (m1 c f),fun c f=>⟨fun h=>(l.shared c (A9 _ f)).1 (m1 c h),(l.shared c (A9 _ f)).2⟩⟩;have U:=UJ p q a (.at bl so) h1 w Q a2 (fun c j=>by
       rcases f c j with h|h|h|⟨h,K,F⟩;exact .inl h;all_goals grind)
       (fun rest e=>hq rest (by grind)) d
      exact⟨U.1,fun e s' B H=>U.2 e s' B (fun rest e2=>H rest (by grind))⟩
     |snd=>have d:loc m X (.at bl (so+a.cells)) q=some r:=A;rw[Og]at Y;have E:=UI f l (bl:=bl) (so:=so+a.cells) (k:=X.cells) (o1:=o1) (o2:=o2) (r2:=r2) (.inl (fun h=>h rfl)) (fun c f=>⟨m1 c f,l.src c (m1 c f)⟩) (fun c f=>⟨m2 c f,l.src c (m2 c f)⟩) (fun c h K=>Z.2.2 c h c K rfl) (fun c f=>A8 _ f) u (by grind);exact⟨CW q X _ Y d E.1 (fun c j f=>E.2 c j (.inl f)),fun e s' B _=>Rq Y (B▸d) E.1 (fun c j f=>E.2 c j (.inl f))⟩
     |idx i=>cases A
 |.snd::p,q,t,s,x,O,R,V,b,o,y,O',R',r,h,w,Q,l,f,hq,A=>by
  obtain⟨a,X,bl,so,rfl,rfl,w⟩:=MO w;obtain⟨x1,o1,r1,x2,o2,r2,h1,Y,rfl,rfl,rfl⟩:=CK h;rw[Og]at Y;have hw:=IK p X _ Y w;obtain⟨y1,h6,h7,A1,B1,h4,h5,G,-,B,e2⟩:=BT p X _ Y w;rw[Q]at G;simp at G;obtain⟨rfl,rfl,rfl⟩:=G;have u:∀c,c∈O'.map (·.1)->c∈o2.map (·.1):=fun c f=>by simp_all
  have Z:=l.nodup;rw[pA,B6]at Z;have m1:∀c,c∈o1.map (·.1)->c∈(o1++o2).map (·.1):=fun c f=>by grind
  have m2:∀c,c∈o2.map (·.1)->c∈(o1++o2).map (·.1):=fun c f=>by grind
  cases q with
   |nil=>refine⟨A,fun e s' B _=>?_⟩;simp[Cl]at A;grind
   |cons st q=>
    cases st with
     |snd=>
      have d:loc m X (.at bl (so+a.cells)) q=some r:=A;have a3:xC (.at bl (so+a.cells)) o2 r2:=⟨Z.2.1,fun c f=>l.src c (m2 c f),fun c f=>⟨fun h=>(l.shared c (A8 _ f)).1 (m2 c h),(l.shared c (A8 _ f)).2⟩⟩;have U:=UJ p q X (.at bl (so+a.cells)) Y w Q a3 (fun c j=>by
       rcases f c j with h|h|h|⟨h,K,F⟩;exact .inl h;omega;grind;simp only[pA,mA]at h K;exact .inr (.inr (.inr ⟨fun g=>h (.inr g),fun g=>K (.inr g),F⟩)))
       (fun rest e=>hq rest (by grind)) d
      exact⟨U.1,fun e s' B H=>U.2 e s' B (fun rest e2=>H rest (by grind))⟩
     |fst=>have d:loc m a (.at bl so) q=some r:=A;have E:=UI f l (bl:=bl) (so:=so) (k:=a.cells) (o1:=o2) (o2:=o1) (r2:=r1) (.inl (fun h=>h rfl)) (fun c f=>⟨m2 c f,l.src c (m2 c f)⟩) (fun c f=>⟨m1 c f,l.src c (m1 c f)⟩) (fun c h K=>Z.2.2 c K c h rfl) (fun c f=>A9 _ f) u (by grind);exact⟨CW q a _ h1 d E.1 (fun c j f=>E.2 c j (.inl f)),fun e s' B _=>Rq h1 (B▸d) E.1 (fun c j f=>E.2 c j (.inl f))⟩
     |idx i=>cases A
 |.idx i::p,q,t,s,x,O,R,V,b,o,y,O',R',r,h,w,Q,l,f,hq,A=>by rcases LK w with⟨n,t,bl,so,rfl,rfl,hi,w⟩|⟨t,a0,n0,c0,rfl,g5,hi,w⟩;(have h:Ak (fun i=>AL m t fun j=>(Src.at bl so).rd m (i*t.cells+j)) n 0=some (x,O,R):=h;have h0:Ak (fun i=>AL m t ((Src.at bl (so+i*t.cells)).rd m)) n 0=some (x,O,R):=by grind[Og]);(have P:∀c,c∈O.map (·.1)->c≠bl:=fun c f=>l.src c f;have⟨z,L,ri,A0,B0,k1,k3,N,hz,B,e2⟩:=Bb n 0 i h0 hi;simp at N;have C:∀c,c∈L.map (·.1)->c∈O.map (·.1):=fun c f=>by simp_all);(have I:∀c,c∈ri->c∈R:=fun c f=>by simp_all);(have hw:=IK p t _ N w;obtain⟨y1,h6,h7,A1,B1,h4,h5,G,-,e3,e4⟩:=BT p t _ N w;rw[Q]at G;simp at G;obtain⟨rfl,rfl,rfl⟩:=G;have u:∀c,c∈O'.map (·.1)->c∈L.map (·.1):=fun c f=>by simp_all);(cases q with|nil=>refine⟨A,fun e s' B _=>?_⟩;simp_all[Cl]|cons st q=>(rcases st with _|_|j;cases A;cases A;rcases LK A with⟨n',g6,k5,a4,e5,e6,hj,d⟩|⟨g6,a',n',S,e5,-⟩;simp at e5;obtain⟨rfl,rfl⟩:=e5;simp at e6;obtain⟨rfl,rfl⟩:=e6;have el:loc m' (.arr n t) (.at bl so) (.idx j::q)=loc m' t (.at bl (so+j*t.cells)) q:=by(show(if j<n then loc m' t (.at bl (so+j*t.cells)) q else none)=_);simp_all);(rw[el];by_cases hji:j=i;subst hji;have g0:(L.map (·.1)).Nodup:=by have:=l.nodup;grind);have g4:xC (.at bl (so+j*t.cells)) L ri:=⟨g0,fun c f=>P c (C c f),fun c f=>⟨fun g=>(l.shared c (I c f)).1 (C c g),(l.shared c (I c f)).2⟩⟩;have U:=UJ p q t _ N w Q g4 (fun c k=>by rcases f c k with h|h|h|⟨h,K,F⟩;exact .inl h;omega;simp_all;exact .inr (.inr (.inr ⟨fun g=>h (C c g),fun g=>K (I c g),F⟩))) (fun rest e=>hq rest (by simp_all)) d;(simp_all;obtain⟨zj,oj,rj,Aj,Bj,k2,k4,D,-,ej,k6⟩:=Bb n 0 j h0 hj;simp at D;have M:=MP n 0 h0 l.nodup i j hi hj (Ne.symm hji) (by simpa using N) (by simpa using D);have T:∀c,c∈oj.map (·.1)->c∈O.map (·.1):=fun c g=>by grind);have E:=UI f l (bl:=bl) (so:=so+j*t.cells) (k:=t.cells) (o1:=L) (o2:=oj) (r2:=rj) (.inl (fun h=>h rfl)) (fun c f=>⟨C c f,P c (C c f)⟩) (fun c f=>⟨T c f,P c (T c f)⟩) M (fun c g=>by grind) u (by rcases hw with⟨s1,g1,g2,g3⟩|g;simp at g1;obtain⟨rfl,rfl⟩:=g1;refine .inl ⟨rfl,fun k hk=>?_⟩;rcases C4 hji with g|g;(have:j*t.cells+t.cells<=i*t.cells:=by rw[<-A7];exact A4 _ g);omega;(have:i*t.cells+t.cells<=j*t.cells:=by rw[<-A7];exact A4 _ g);omega;grind);exact⟨CW q t _ D d E.1 (fun c j f=>E.2 c j (.inl f)),fun e s' B _=>Rq D (B▸d) E.1 (fun c j f=>E.2 c j (.inl f))⟩;simp_all);rcases Ct h with⟨hv,-⟩|⟨a,n,c,os,hv,ha,Z,h0,ho⟩;simp_all;rw[hv]at g5;simp at g5;obtain⟨rfl,rfl,rfl⟩:=g5;rcases ho with⟨k8,-⟩|⟨k8,rfl⟩;omega;(have g7:=l.nodup;simp only[B9,C3]at g7;have⟨h9,g9⟩:=g7;have h8:a.block∈(((a.block,a.off+c*t.cells)::os).map (·.1)):=by simp);(have⟨z,L,ri,A0,B0,k1,k3,N,hz,B,e2⟩:=Bb n 0 i h0 hi;simp at N;have h3:∀c,c∈L.map (·.1)->c∈os.map (·.1):=fun c f=>by simp_all);(have C:∀S,S∈L.map (·.1)->S∈(((a.block,a.off+c*t.cells)::os).map (·.1)):=fun S f=>by simp_all);(have I:∀c,c∈ri->c∈R:=fun c f=>by simp_all);(have hw:=IK p t _ N w;have k7:b∈(((a.block,a.off+c*t.cells)::os).map (·.1)):=by grind);(obtain⟨y1,h6,h7,A1,B1,h4,h5,G,-,e3,e4⟩:=BT p t _ N w;rw[Q]at G;simp at G;obtain⟨rfl,rfl,rfl⟩:=G;have u:∀c,c∈O'.map (·.1)->c∈L.map (·.1):=fun c f=>by grind);(have k9:s.rd m' 0=some (.slice (some a) n c):=by rw[<-hv];cases s with|one v=>rfl|_=>rename_i sb so;show m' sb (so+0)=m sb (so+0);rcases f sb (so+0)with h|⟨hb,ho,a5⟩|h|⟨h,K,F⟩;omega;exact absurd rfl (hb▸l.src b k7);exact absurd rfl (l.src sb (C _ (u _ h)));exact absurd rfl F);cases q with|nil=>refine⟨A,fun e s' B _=>?_⟩;simp[Cl]at A;grind|cons st q=>(rcases st with _|_|j;cases A;cases A;rcases LK A with⟨n',g6,k5,a4,e5,e6,hj,d⟩|⟨g6,a',n',S,e5,e6,hj,d⟩;grind;simp at e5;subst e5;rw[hv]at e6;simp at e6;obtain⟨rfl,rfl,rfl⟩:=e6;have e:loc m' (.list true t) s (.idx j::q)=if j<n then loc m' t (.at a.block (a.off+j*t.cells)) q else none:=by simp only[loc,Cl,k9]);(rw[e,if_pos hj];clear e;by_cases hji:j=i;subst hji;have g0:(L.map (·.1)).Nodup:=by grind);have g4:xC (.at a.block (a.off+j*t.cells)) L ri:=⟨g0,fun c f (e:c=a.block)=>h9 (e▸h3 c f),fun c f=>⟨fun g=>(l.shared c (I c f)).1 (C c g),fun(e:c=a.block)=>(l.shared c (I c f)).1 (e▸h8)⟩⟩;have U:=UJ p q t _ N w Q g4 (fun c k=>by rcases f c k with h|h|h|⟨h,K,F⟩;exact .inl h;omega;grind;exact .inr (.inr (.inr ⟨fun g=>h (C c g),fun g=>K (I c g),fun(e:c=a.block)=>h (e▸h8)⟩))) (fun rest e=>hq rest (by grind)) d;(exact⟨U.1,fun e s' B H=>U.2 e s' B (fun rest e2=>H rest (by grind))⟩;obtain⟨zj,oj,rj,Aj,Bj,k2,k4,D,-,ej,k6⟩:=Bb n 0 j h0 hj;simp at D;have M:=MP n 0 h0 g9 i j hi hj (Ne.symm hji) (by simpa using N) (by simpa using D);have k0:∀c,c∈oj.map (·.1)->c∈os.map (·.1):=fun c g=>by grind);(have T:∀S,S∈oj.map (·.1)->S∈(((a.block,a.off+c*t.cells)::os).map (·.1)):=fun S g=>by grind);have E:=UI f l (bl:=a.block) (so:=a.off+j*t.cells) (k:=t.cells) (o1:=L) (o2:=oj) (r2:=rj) (.inr h8) (fun c f=>⟨C c f,fun e=>h9 (e▸h3 c f)⟩) (fun c f=>⟨T c f,fun e=>h9 (e▸k0 c f)⟩) M (fun c g=>by grind) u (by rcases hw with⟨s1,g1,g2,g3⟩|g;simp at g1;obtain⟨rfl,rfl⟩:=g1;refine .inl ⟨rfl,fun k hk=>?_⟩;rcases C4 hji with g|g;(have:j*t.cells+t.cells<=i*t.cells:=by rw[<-A7];exact A4 _ g);omega;(have:i*t.cells+t.cells<=j*t.cells:=by rw[<-A7];exact A4 _ g);omega;grind);exact⟨CW q t _ D d E.1 (fun c j f=>E.2 c j (.inl f)),fun e s' B _=>Rq D (B▸d) E.1 (fun c j f=>E.2 c j (.inl f))⟩
def Af(w:World)(ov:Option (Nat×Nat×Value)):DU:=fun b o=>match ov with|some (b',o',v)=>if b=b'/\o=o' then some v else w.cell? ⟨b,o,none⟩|none=>w.cell? ⟨b,o,none⟩
structure Gh where
 g:Nat->Src
 ow:Nat->CI
 ov:Option (Nat×Nat×Value)
structure Base where
 size:Nat
 hp:Nat->Option Obj
 F:Nat->Prop
 S:Nat->Prop

 pin:Nat->Option Src:=fun _=>none

 io:Os×Array (Nat×ByteArray):=(default,#[])
def Gr(w:World):Os×Array (Nat×ByteArray):=(w.os,w.output)
def BB(M:Gh)(c:Nat):Prop:=∃n,c∈(M.ow n).map (·.1)
def Ba(B:Base)(w:World)(M:Gh)(c:Nat):Prop:=c<w.heap.size/\(B.S c\/B.F c\/B.size<=c)/\¬ BB M c
def BY(w:World)(b k:Nat):Prop:=∃c e lo hi,w.heap[b]?=some (.cells c e (lo,hi))/\k<=c.size/\(hi=lo\/k<=lo)
def Cf:Value->Bool|.agg _|.tuple _=>false|_=>true
def Ci(m:DU)(Sh:Nat->Prop)(t:Ty)(x:t.sK)(v:Value):Prop:=(t.isAgg=true->∃cs,v=.agg cs/\cs.size=t.cells)/\(t.isAgg=false->Cf v=true)/\∃R,AL m t (fun j=>v.cells[j]?)=some (x,[],R)/\∀c∈R,Sh c
def Ay(m:DU)(g:Nat->Src)(rt:Nat->Option sP)(Sh:Nat->Prop):AV->Value->Prop|.dead,_=>True|.skp,v=>v=undef|.val t x,v=>Ci m Sh t x v|.nils,v=>v=.slice none 0 0|.empt,v=>∃a:Option Addr,v=.slice a 0 0|.nilp,v=>v=.pointer none|.ptr n p,v=>∃r t b o,rt n=some r/\loc m r.t (g n) p=some (t,.at b o)/\v=.pointer (some ⟨b,o,none⟩)|.tZ g,v=>v=.pointer (some ⟨g,0,none⟩)|.vptr t x,v=>∃b o R,v=.pointer (some ⟨b,o,none⟩)/\AL m t ((Src.at b o).rd m)=some (x,[],R)/\Sh b/\∀c∈R,Sh c|.sref n p,v=>∃r e s,rt n=some r/\loc m r.t (g n) p=some (.list true e,s)/\s.rd m 0=some v|.swin n p off len,v=>∃r e s a l c,rt n=some r/\loc m r.t (g n) p=some (.list true e,s)/\s.rd m 0=some (.slice a l c)/\off+len<=l/\∃a',v=.slice a' len (c-off)/\(∀A,a'=some A->c=off\/A.spot=none)/\(c=off\/a'=a.map fun A=>A.add (off*e.cells))
def yT.ok:yT->Array Value->Nat->Value->Prop|.tup,us,_,v=>v=.tuple us|.agg,us,n,v=>us.size=n/\v=.agg us/\∀(k:Nat) u,us[k]?=some u->Cf u=true|.clo f,us,n,v=>us.size=n/\v=.func (.func f) #[] us
def ZE(m:DU)(g:Nat->Src)(rt:Nat->Option sP)(Sh:Nat->Prop):SV->Value->Prop|.one a,v=>Ay m g rt Sh a v|.cmp c as,v=>∃vs:Array Value,c.ok vs as.length v/\∀(k:Nat) a,as[k]?=some a->∃u,vs[k]?=some u/\Ay m g rt Sh a u
structure tV (m:DU) (Sh:Nat->Prop) (r:sP) (s:Src) (O:CI):Prop where
 rd:∃O' R,AL m r.t (s.rd m)=some (r.x,O',R)/\(∀c∈R,Sh c)/\
  ((r.bx=true/\∃b,s=.at b 0/\O=(b,r.t.cells)::O')\/(r.bx=false/\(∃v,s=.one v)/\(∃e,r.t=.list true e)/\O=O'))
def Tq(m:DU)(g:Nat->Src)(rt:Nat->Option sP):Option (Nat×BJ×Nat)->Option (Nat×Nat×Value)->Prop|none,none=>True|some (n,p,_),some (b,o,_)=>∃r e,rt n=some r/\loc m r.t (g n) p=some (.list true e,.at b o)|_,_=>False
theorem Tq.mono{rt:Nat->Option sP}:∀{pd ov},Tq m g rt pd ov->(∀n p d r e b o,pd=some (n,p,d)->rt n=some r->loc m r.t (g n) p=some (.list true e,.at b o)->∃f,rt' n=some f/\loc m' f.t (g' n) p=some (.list true e,.at b o))->Tq m' g' rt' pd ov|none,none,_,_=>trivial|some (n,p,d),some (b,o,v),⟨r,e,k,a⟩,j=>(by have⟨f,c,i⟩:=j n p d r e b o rfl k a;exact⟨f,e,c,i⟩)|none,some _,h,_=>h.elim|some _,none,h,_=>h.elim
structure sM (B:Base) (U:AE) (N:Nat) (tm:Nat->Value) (w:World) (M:Gh):Prop where
 roots:∀n r,U.rt n=some r->tV (Af w M.ov) (Ba B w M) r (M.g n) (M.ow n)
 norm:∀n,U.rt n=none->M.ow n=[]
 nodup:∀n,((M.ow n).map (·.1)).Nodup
 sV:∀n n',n≠n'->∀c,c∈(M.ow n).map (·.1)->c∉(M.ow n').map (·.1)
 live:∀n p,p∈M.ow n->BY w p.1 p.2
 slots:∀i,i<N->ZE (Af w M.ov) M.g U.rt (Ba B w M) (U.sl i) (tm i)
 pend:Tq (Af w M.ov) M.g U.rt U.pd M.ov
 size:B.size<=w.heap.size
 frame:∀b,b<B.size->¬ B.F b->w.heap[b]?=B.hp b
 mine:∀c,BB M c->B.F c\/B.size<=c
 pins:∀i b,B.pin i=some b->U.rt (pinned+i)≠none->M.g (pinned+i)=b
 still:Gr w=B.io
theorem BY.lt(h:BY w b k):b<w.heap.size:=by obtain⟨c,e,lo,g,h,-⟩:=h;grind
theorem BY.mono{k':Nat}(h:BY w b k)(g:k'<=k):BY w b k':=by have⟨c,e,lo,d,h,f,a⟩:=h;exact⟨c,e,lo,d,h,B4 g f,a.imp id (B4 g)⟩
theorem sM.lt{B U N tm w M}(h:sM B U N tm w M)(g:BB M c):c<w.heap.size:=by have⟨n,f⟩:=g;obtain⟨p,k,rfl⟩:=List.mem_map.1 f;exact(h.live n p k).lt
theorem Ci.frame{t x v}(h:Ci m Sh t x v)(i:∀c j,Sh c->m' c j=m c j)(e:∀c,Sh c->Sh' c):Ci m' Sh' t x v:=by have⟨g,f,R,k,a⟩:=h;refine⟨g,f,R,AF t k (fun _ _=>rfl) (fun b j hb=>?_),fun c d=>e c (a c d)⟩;simp_all
theorem Ay.frame{rt:Nat->Option sP}{a:AV}(h:Ay m g rt Sh a v)(C:∀c j,Sh c->m' c j=m c j)(A:∀c,Sh c->Sh' c)(z:∀n p r t s,(a=.ptr n p\/a=.sref n p\/∃o l,a=.swin n p o l)->rt n=some r->loc m r.t (g n) p=some (t,s)->∃k,rt' n=some k/\loc m' k.t (g' n) p=some (t,s)/\(∀u,a≠.ptr n p->s.rd m 0=some u->s.rd m' 0=some u)):Ay m' g' rt' Sh' a v:=by cases a with|dead=>trivial|val t x=>exact Ci.frame h C A|skp=>exact h|nils=>exact h|empt=>exact h|nilp=>exact h|tZ g=>exact h|ptr n p=>(have⟨r,t,b,o,d,i,f⟩:=h;obtain⟨k,q,w,-⟩:=z n p r t _ (.inl rfl) d i;exact⟨k,t,b,o,q,w,f⟩)|vptr t x=>(have⟨b,o,R,d,i,f,q⟩:=h;refine⟨b,o,R,d,AF t i (fun j _=>C b _ f) (fun c j B=>?_),A b f,fun c B=>A c (q c B)⟩;simp_all)|sref n p=>(have⟨r,e,s,d,i,f⟩:=h;have⟨k,q,w,y⟩:=z n p r _ _ (.inr (.inl rfl)) d i;exact⟨k,e,s,q,w,y v (by simp) f⟩)|swin n p o l=>have⟨r,e,s,a,F,c,d,i,f,q,w⟩:=h;have⟨k,y,D,E⟩:=z n p r _ _ (.inr (.inr ⟨_,_,rfl⟩)) d i;exact⟨k,e,s,a,F,c,y,D,E _ (by simp) f,q,w⟩
theorem ZE.frame{rt:Nat->Option sP}{a:SV}(h:ZE m g rt Sh a v)(b:∀a v,Ay m g rt Sh a v->Ay m' g' rt' Sh' a v):ZE m' g' rt' Sh' a v:=by cases a with|one a=>exact b a v h|cmp c as=>have⟨d,f,e⟩:=h;refine⟨d,f,fun k a i=>?_⟩;grind
theorem ZE.sJ{m m':DU}{g e:Nat->Src}{rt d:Nat->Option sP}{Sh b:Nat->Prop}{f:AV->AV}{a:SV}{v:Value}(h:ZE m g rt Sh a v) (i:∀a v,Ay m g rt Sh a v->Ay m' e d b (f a) v):ZE m' e d b (a.sJ f) v:=by cases a with|one a=>exact i a v h|cmp c as=>have⟨j,l,n⟩:=h;refine⟨j,by simp_all,fun k a o=>?_⟩;grind
theorem tV.sep{B:Base}{M:Gh}{r s O}(h:tV m (Ba B w M) r s O)(a:(O.map (·.1)).Nodup)(d:∀c∈O.map (·.1),BB M c):∃g R,AL m r.t (s.rd m)=some (r.x,g,R)/\(∀c∈R,Ba B w M c)/\xC s g R/\(∀c∈g.map (·.1),c∈O.map (·.1))/\(∀b o,s=.at b o->b∈O.map (·.1))/\((r.bx=true/\∃b,s=.at b 0/\O=(b,r.t.cells)::g)\/(r.bx=false/\(∃v,s=.one v)/\(∃e,r.t=.list true e)/\O=g)):=by have⟨g,R,j,k,i⟩:=h.rd;refine⟨g,R,j,k,?_,?_,?_,i⟩;rcases i with⟨-,b,rfl,rfl⟩|⟨-,⟨v,rfl⟩,-,rfl⟩;simp only[B9,C3]at a;refine⟨a.2,fun c f e=>a.1 (e▸f),fun c f=>⟨fun h=>(k c f).2.2 (d c (by simp_all)),fun e=>(k c f).2.2 (d c (by grind))⟩⟩;exact⟨a,fun c _=>trivial,fun c f=>⟨fun h=>(k c f).2.2 (d c h),trivial⟩⟩;all_goals grind
theorem sM.sep{B U N tm w M}(h:sM B U N tm w M){n r}(a:U.rt n=some r):∃f R,AL (Af w M.ov) r.t ((M.g n).rd (Af w M.ov))=some (r.x,f,R)/\(∀c∈R,Ba B w M c)/\xC (M.g n) f R/\(∀c∈f.map (·.1),c∈(M.ow n).map (·.1))/\(∀b o,M.g n=.at b o->b∈(M.ow n).map (·.1))/\((r.bx=true/\∃b,M.g n=.at b 0/\M.ow n=(b,r.t.cells)::f)\/(r.bx=false/\(∃v,M.g n=.one v)/\(∃e,r.t=.list true e)/\M.ow n=f)):=(h.roots n r a).sep (h.nodup n) (fun _ k=>⟨n,k⟩)
theorem sM.place{B U N tm w M}(h:sM B U N tm w M){n r p t b o}(f:U.rt n=some r)(j:loc (Af w M.ov) r.t (M.g n) p=some (t,.at b o)):b∈(M.ow n).map (·.1):=by obtain⟨k,R,a,c,d,e,i,-⟩:=h.sep f;grind[IK]
theorem sM.mem{B U N tm w M}(h:sM B U N tm w M)(m:∀c j,BB M c\/Ba B w M c->Af w' M.ov c j=Af w M.ov c j)(P:∀n p,p∈M.ow n->BY w' p.1 p.2)(y:w.heap.size<=w'.heap.size)(K:∀b,b<B.size->¬ B.F b->w'.heap[b]?=B.hp b)(hio:Gr w'=Gr w:=by first|rfl|assumption):sM B U N tm w' M:=by
 have x:∀c,Ba B w M c->Ba B w' M c:=fun c ⟨q,z,A⟩=>⟨B3 q y,z,A⟩;have k:∀n p r t s,U.rt n=some r->loc (Af w M.ov) r.t (M.g n) p=some (t,s)->loc (Af w' M.ov) r.t (M.g n) p=some (t,s)/\∀u,s.rd (Af w M.ov) 0=some u->s.rd (Af w' M.ov) 0=some u:=by intro n p r t s l hp;obtain⟨E,R,q,z,A,C,D,-⟩:=h.sep l;refine⟨CW p r.t _ q hp (fun j O=>?_) (fun c j f=>m c j (.inl ⟨n,C c f⟩)),fun u G=>?_⟩;(cases e:M.g n with|one v=>rfl|_=>rename_i b o;exact m b _ (.inl ⟨n,D b o e⟩));cases s with|one v=>exact G|_=>rename_i b o;have:=h.place l hp;rw[<-G];exact m b _ (.inl ⟨n,this⟩)
 refine⟨fun n r l=>?_,h.norm,h.nodup,h.sV,P,fun i L=>?_,?_,B4 h.size y,K,h.mine,h.pins,hio.trans h.still⟩;have⟨E,R,q,z,A,C,D,H⟩:=h.sep l;refine⟨E,R,AF r.t q (fun j O=>?_) (fun c j f=>?_),fun c f=>x c (z c f),H⟩;cases e:M.g n with|one v=>rfl|_=>rename_i b o;exact m b _ (.inl ⟨n,D b o e⟩)
 rcases f with f|f;exact m c j (.inl ⟨n,C c f⟩);simp_all;refine(h.slots i L).frame fun a v I=>I.frame (fun c j f=>m c j (.inr f)) x fun n p r t s _ l hp=>?_
 grind;exact h.pend.mono fun n p d r e b o _ l hp=>⟨r,l,(k n p r _ _ l hp).1⟩
theorem sM.put{B U N tm w M}(h:sM B U N tm w M){d:Nat}{a:SV}{v:Value}{f:Nat->Value}(b:d<N->ZE (Af w M.ov) M.g U.rt (Ba B w M) a v) (c:∀i,i<N->f i=if i=d then v else tm i):sM B (U.put d a) N f w M:=by refine⟨h.roots,h.norm,h.nodup,h.sV,h.live,fun i k=>?_,h.pend,h.size,h.frame,h.mine,h.pins,h.still⟩;rw[c i k];show ZE _ _ _ _ (bif i==d then a else U.sl i) _;by_cases e:i=d;subst e;rw[if_pos rfl,show(i==i)=true from by simp];exact b k;rw[if_neg e,show(i==d)=false from by simp_all];exact h.slots i k
theorem sM.tmps{B U N tm w M}(h:sM B U N tm w M){g:Nat->Value}(k:∀i,i<N->g i=tm i):sM B U N g w M:=⟨h.roots,h.norm,h.nodup,h.sV,h.live,fun i f=>by rw[k i f];exact h.slots i f,h.pend,h.size,h.frame,h.mine,h.pins,h.still⟩
theorem sM.weak{B U N tm w M}(h:sM B U N tm w M){sl:Nat->SV}(k:∀i,i<N->∀v,ZE (Af w M.ov) M.g U.rt (Ba B w M) (U.sl i) v->ZE (Af w M.ov) M.g U.rt (Ba B w M) (sl i) v):sM B { U with sl:=sl } N tm w M:=⟨h.roots,h.norm,h.nodup,h.sV,h.live,fun i f=>k i f _ (h.slots i f),h.pend,h.size,h.frame,h.mine,h.pins,h.still⟩
theorem BE{w w':World}{c:Nat}(g:Option (Nat×Nat×Value))(h:w'.heap[c]?=w.heap[c]?)(j:Nat):Af w' g c j=Af w g c j:=by simp_all[Af,World.cell?]
theorem EQ{m:DU}:∀(p q:BJ)(t:Ty)(s:Src){g s'},loc m t s p=some (g,s')->loc m t s (p++q)=loc m g s' q|[],q,t,s,g,s',h=>by simp[Cl]at h;simp_all|.fst::p,q,t,s,g,s',h=>(by obtain⟨a,b,k,o,rfl,rfl,h⟩:=MN h;exact EQ p q a _ h)|.snd::p,q,t,s,g,s',h=>(by obtain⟨a,b,k,o,rfl,rfl,h⟩:=MO h;exact EQ p q b _ h)|.idx i::p,q,t,s,g,s',h=>by rcases LK h with⟨n,f,k,o,rfl,rfl,d,h⟩|⟨f,a,n,c,rfl,e,d,h⟩;have:=EQ p q f _ h;(show(if i<n then loc m f (.at k (o+i*f.cells)) (p++q)else none)=_);simp_all;have:=EQ p q f _ h;simp_all[Cl]
theorem MQ{m:DU}:∀(q:BJ)(t:Ty)(s:Src){f s'},t.tO=t->loc m t s q=some (f,s')->f.tO=f|[],t,s,f,s',h,g=>(by simp[Cl]at g;obtain⟨rfl,rfl⟩:=g;exact h)|.fst::p,t,s,f,s',h,g=>(by obtain⟨a,b,d,o,rfl,rfl,g⟩:=MN g;simp only[Ty.tO,Ty.pair.injEq]at h;exact MQ p a _ h.1 g)|.snd::p,t,s,f,s',h,g=>(by obtain⟨a,b,d,o,rfl,rfl,g⟩:=MO g;simp only[Ty.tO,Ty.pair.injEq]at h;exact MQ p b _ h.2 g)|.idx i::p,t,s,f,s',h,g=>by rcases LK g with⟨n,k,d,o,rfl,rfl,e,g⟩|⟨k,a,n,c,rfl,j,e,g⟩;simp only[Ty.tO,Ty.arr.injEq]at h;exact MQ p k _ (Ty.uY k h.2) g;simp[Ty.tO]at h
def b2T(n:Nat)(p:BJ)(t:Ty):AV->Prop|.ptr m q=>m=n->∀rest,q=p++rest->rest=[]\/t.tO=t|.sref m q|.swin m q _ _=>m=n->∀rest,q=p++rest->t.tO=t|_=>True
theorem UK(p q:BJ):Jd p (p++q)=true:=by induction p with|nil=>rfl|cons s p h=>cases s<;>simpa[Jd]using h
theorem ZF(n:Nat)(p:BJ)(t:Ty)(a:AV):a.kill n p=.dead\/(a.kill n p=a/\b2T n p t a):=by(cases a<;>try exact .inr ⟨rfl,trivial⟩);rename_i m q;by_cases h:(m==n&&Jd p q&&A3 (p.length<q.length))=true;simp_all[AV.kill];refine .inr ⟨by simp_all[AV.kill],fun e g f=>?_⟩;simp_all[UK];rename_i m q;by_cases h:(m==n&&Jd p q)=true;simp_all[AV.kill];refine .inr ⟨by simp_all[AV.kill],fun e g f=>?_⟩;simp_all[UK];rename_i m q o l;by_cases h:(m==n&&Jd p q)=true;simp_all[AV.kill];refine .inr ⟨by simp_all[AV.kill],fun e g f=>?_⟩;simp_all[UK]
theorem b0B(n:Nat)(p:BJ){t:Ty}(h:t.tO=t)(a:AV):b2T n p t a:=by cases a<;>first|trivial|exact fun _ _ _=>h|exact fun _ _ _=>.inr h
inductive xZ (U:AE) (M:Gh) (n:Nat) (p:BJ) (t:Ty) (b o:Nat):Option (Nat×BJ×Nat)->Option (Nat×Nat×Value)->Prop
 |same (h:∀p d,U.pd≠some (n,p,d)):xZ U M n p t b o U.pd M.ov
 |new (d:Nat) (v:Value) (e:Ty) (h:U.pd=none) (ht:t=.list true e):xZ U M n p t b o (some (n,p,d)) (some (b,o,v))
theorem sM.yV{B U N tm w M}(h:sM B U N tm w M){n r p t b o y O1 R1}(hr:U.rt n=some r)(hl:loc (Af w M.ov) r.t (M.g n) p=some (t,.at b o))(hy:AL (Af w M.ov) t ((Src.at b o).rd (Af w M.ov))=some (y,O1,R1)){ov':Option (Nat×Nat×Value)}{pd':Option (Nat×BJ×Nat)}{y' O2 R2}(hpd:xZ U M n p t b o pd' ov')(hy':AL (Af w' ov') t ((Src.at b o).rd (Af w' ov'))=some (y',O2,R2))(hchg:∀c j,Af w' ov' c j=Af w M.ov c j\/(c=b/\o<=j/\j<o+t.cells)\/c∈O1.map (·.1)\/w.heap.size<=c)(hO2:∀c∈O2.map (·.1),c∈O1.map (·.1)\/w.heap.size<=c)(hn2:(O2.map (·.1)).Nodup)(hlive:∀p∈O2,BY w' p.1 p.2)(hfree:∀c k,BY w c k->BB M c->BY w' c k)(hsz:w.heap.size<=w'.heap.size)(hfr:∀b,b<B.size->¬ B.F b->w'.heap[b]?=B.hp b)(hR2:∀c∈R2,c<w'.heap.size/\(B.S c\/B.F c\/B.size<=c)/\¬ BB M c/\c∉O2.map (·.1)){f:AV->AV}(hf:∀a,f a=.dead\/(f a=a/\b2T n p t a))(hio:Gr w'=Gr w:=by first|rfl|assumption):
  ∃ow',(∀m,m≠n->ow' m=M.ow m)/\sM B { (U.sJ f).sI n (some ⟨r.bx,r.t,Fp r.t r.x p t y'⟩)with pd:=pd' } N tm w' ⟨M.g,ow',ov'⟩:=by
 have⟨O',R,h1,h2,h3,h4,h5,h6⟩:=h.sep hr;have⟨y1,O1',R1',A1,B1,A1',B1',hd,hg,e1,e2⟩:=BT p r.t _ h1 hl;rw[hy]at hd;simp at hd;obtain⟨rfl,rfl,rfl⟩:=hd;have hO1:∀c,c∈O1.map (·.1)->c∈(M.ow n).map (·.1):=fun c hc=>h4 c (by simp_all);have hb:b∈(M.ow n).map (·.1):=h.place hr hl;have hc1:c4G (Af w M.ov) (Af w' ov') (M.g n) O' R b o t.cells O1:=fun c j=>by
  rcases hchg c j with g|g|g|g;grind;omega;grind
  ·refine .inr (.inr (.inr ⟨fun g'=>?_,fun g'=>?_,?_⟩));exact absurd (h.lt ⟨n,h4 c g'⟩) (by omega);exact absurd (h2 c g').1 (by omega)
   ·cases e:M.g n with
    |one v=>trivial
    |_=>
     rename_i b' o';rintro rfl;exact absurd (h.lt ⟨n,h5 _ _ e⟩) (by omega)
 have⟨A,B',R',e3,h7,h8⟩:=b0A p r.t (M.g n) h1 hl hy hy' h3 hc1

 have hother:∀c j,c∉(M.ow n).map (·.1)->c<w.heap.size->Af w' ov' c j=Af w M.ov c j:=fun c j hc hlt=>by
  grind
 have hoth:∀m,m≠n->∀c j,c∈(M.ow m).map (·.1)->Af w' ov' c j=Af w M.ov c j:=fun m hm c j hc=>
  hother c j (h.sV m n hm c hc) (h.lt ⟨m,hc⟩)
 have hshm:∀c j,Ba B w M c->Af w' ov' c j=Af w M.ov c j:=fun c j hc=>hother c j (fun g=>hc.2.2 ⟨n,g⟩) hc.1

 let on:CI:=match r.bx with|true=>(match M.g n with|.at b0 _=>[(b0,r.t.cells)]|_=>[])++(A++(O2++B'))|false=>A++(O2++B')
 let ow':Nat->CI:=fun m=>if m=n then on else M.ow m
 have hon:ow' n=on:=by grind
 have hom:∀m,m≠n->ow' m=M.ow m:=fun m hm=>by grind
 have hon1:∀c,c∈on.map (·.1)->c∈(M.ow n).map (·.1)\/c∈O2.map (·.1):=by
  intro c hc;have key:c∈(A++(O2++B')).map (·.1)->c∈(M.ow n).map (·.1)\/c∈O2.map (·.1):=by
   grind
  rcases h6 with⟨hbx,b0,hs,ho⟩|⟨hbx,-,-,ho⟩;grind;grind
 have hOwned:∀c,(∃m,c∈(ow' m).map (·.1))->BB M c\/c∈O2.map (·.1):=by
  rintro c ⟨m,hm⟩;by_cases e:m=n;subst e;rw[hon]at hm;rcases hon1 c hm with g|g;exact .inl ⟨m,g⟩;grind;rw[hom m e]at hm;exact .inl ⟨m,hm⟩
 have hO2σ:∀c,c∈O2.map (·.1)->BB M c\/w.heap.size<=c:=fun c hc=>by
  rcases hO2 c hc with g|g;exact .inl ⟨n,hO1 c g⟩;omega
 have hsh:∀c,Ba B w M c->Ba B w' ⟨M.g,ow',ov'⟩ c:=fun c ⟨g1,g2,g3⟩=>⟨B3 g1 hsz,g2,fun g4=>by
  rcases hOwned c g4 with g|g;all_goals grind⟩
 have hshR2:∀c∈R2,Ba B w' ⟨M.g,ow',ov'⟩ c:=fun c hc=>by
  have⟨g1,g2,g3,g4⟩:=hR2 c hc;refine⟨g1,g2,fun g5=>?_⟩;rcases hOwned c g5 with g|g;all_goals grind

 have hplace:∀m q rm tq s,U.rt m=some rm->loc (Af w M.ov) rm.t (M.g m) q=some (tq,s)->(m=n->∀rest,q=p++rest->rest=[]\/t.tO=t)->
   loc (Af w' ov') rm.t (M.g m) q=some (tq,s)/\∀e,tq=.list true e->(m=n->∀rest,q=p++rest->t.tO=t)->s.rd (Af w' ov') 0=s.rd (Af w M.ov) 0:=by
  intro m q rm tq s hrm hlq hq;by_cases e:m=n;subst e;rw[hr]at hrm;simp at hrm;subst hrm
  have:=UJ p q r.t (M.g m) h1 hl hy h3 hc1 (hq rfl) hlq
  refine⟨this.1,fun e ht hne=>this.2 e s (by grind) (fun rest he=>?_)⟩;have hp:=hne rfl rest he;subst he;rw[EQ p rest r.t _ hl]at hlq
  have:=MQ rest t _ hp hlq
  grind[Ty.tO]
  ·obtain⟨Om,Rm,g1,g2,g3,g4,g5,-⟩:=h.sep hrm;have hcell:∀j,j<rm.t.cells->(M.g m).rd (Af w' ov') j=(M.g m).rd (Af w M.ov) j:=fun j _=>by
    cases es:M.g m with
    |one v=>rfl
    |_=>rename_i b' o';exact hoth m e b' _ (g5 _ _ es)
   refine⟨CW q rm.t _ g1 hlq hcell (fun c j hc=>hoth m e c j (g4 c hc)),fun e' ht _=>?_⟩;rw[ht]at hlq;exact Rq g1 hlq hcell (fun c j hc=>hoth m e c j (g4 c hc))
 have hkeep:∀a v,Ay (Af w M.ov) M.g U.rt (Ba B w M) a v->Ay (Af w' ov') M.g (fun j=>bif j==n then some ⟨r.bx,r.t,Fp r.t r.x p t y'⟩else U.rt j) (Ba B w' ⟨M.g,ow',ov'⟩) (f a) v:=by
  intro a v ha;rcases hf a with g|⟨g,hk⟩;rw[g];trivial;rw[g];refine ha.frame hshm hsh fun m q rm tq s hcase hrm hlq=>?_
  have hq:m=n->∀rest,q=p++rest->rest=[]\/t.tO=t:=by
   intro e rest he;rcases hcase with rfl|rfl|⟨o',l',rfl⟩;exact hk e rest he;exact .inr (hk e rest he);exact .inr (hk e rest he)
  have hp:=hplace m q rm tq s hrm hlq hq;refine⟨if m=n then⟨r.bx,r.t,Fp r.t r.x p t y'⟩else rm,?_,?_,?_⟩
  grind;grind;intro u hne hu;rcases hcase with rfl|rfl|⟨o',l',rfl⟩;grind;have⟨r0,e0,s0,k1,k2,k3⟩:=ha;rw[hrm]at k1;simp at k1;subst k1;rw[hlq]at k2;simp at k2;rw[hp.2 e0 k2.1 (fun e rest he=>hk e rest he)];omega;have⟨r0,e0,s0,a0,l0,c0,k1,k2,k3⟩:=ha;rw[hrm]at k1;simp at k1;subst k1;rw[hlq]at k2;simp at k2;rw[hp.2 e0 k2.1 (fun e rest he=>hk e rest he)];omega
 have hpins:∀i b,B.pin i=some b->(((U.sJ f).sI n (some ⟨r.bx,r.t,Fp r.t r.x p t y'⟩)).rt (pinned+i))≠none->M.g (pinned+i)=b:=fun i b hb hne=>by
  refine h.pins i b hb fun e=>hne ?_
  by_cases e':pinned+i=n;grind;have e'':(pinned+i==n)=false:=by grind
  simpa[AE.sI,e'',AE.sJ]using e
 refine⟨ow',hom,?_,?_,?_,?_,?_,?_,?_,B4 h.size hsz,hfr,?_,hpins,hio.trans h.still⟩
 ·intro m rm hrm;by_cases e:m=n;subst e;simp[AE.sI]at hrm;subst hrm;refine⟨_,R',h7,fun c hc=>?_,?_⟩;grind;rcases h6 with⟨hbx,b0,hs,ho⟩|⟨hbx,hs,ht,ho⟩;grind;grind
  ·have hrm':U.rt m=some rm:=by
    have e':(m==n)=false:=by grind
    simpa[AE.sI,e',AE.sJ]using hrm
   have⟨Om,Rm,g1,g2,g3,g4,g5,g6⟩:=h.sep hrm';refine⟨Om,Rm,AF rm.t g1 (fun j _=>?_) (fun c j hc=>?_),fun c hc=>hsh c (g2 c hc),?_⟩
   ·cases es:M.g m with
    |one v=>rfl
    |_=>rename_i b' o';exact hoth m e b' _ (g5 _ _ es)
   grind;grind
 intro m hm;by_cases e:m=n;grind[AE.sI];have e':(m==n)=false:=by grind
 show ow' m=[];rw[hom m e];exact h.norm m (by simpa[AE.sI,e',AE.sJ]using hm);intro m;show((ow' m).map (·.1)).Nodup;by_cases e:m=n;subst e;rw[hon];have hnd:=h.nodup m;have key:((A++(O2++B')).map (·.1)).Nodup:=by
  have hO'n:=h3.nodup;rw[e3]at hO'n;simp only[pA,B6,mA]at hO'n|-;have⟨k1,⟨k2,k3,k4⟩,k5⟩:=hO'n;refine⟨k1,⟨hn2,k3,fun a ha c hc e=>?_⟩,fun a ha c hc e=>?_⟩;subst e;rcases hO2 a ha with g|g;grind;exact absurd (h.lt ⟨m,h4 a (by grind)⟩) (by omega);subst e;rcases hc with hc|hc;rcases hO2 a hc with g|g;grind;exact absurd (h.lt ⟨m,h4 a (by grind)⟩) (by omega);grind
 rcases h6 with⟨hbx,b0,hs,ho⟩|⟨hbx,-,-,ho⟩;simp only[on,hbx,hs,List.singleton_append,B9,C3];refine⟨fun g=>?_,key⟩;rw[ho]at hnd;simp only[B9,C3]at hnd;simp only[pA,mA]at g;rcases g with g|g|g;grind;rcases hO2 b0 g with g'|g';exact hnd.1 (by rw[e3];simp only[pA,mA];grind);have hb0:BB M b0:=⟨m,by grind⟩;exact absurd (h.lt hb0) (by omega);exact hnd.1 (by rw[e3];simp only[pA,mA];grind);grind;rw[hom m e];exact h.nodup m;intro m m' hmm c hc hc';by_cases e:m=n;subst e;rw[show(Gh.mk M.g ow' ov').ow m=ow' m from rfl,hon]at hc;rw[show(Gh.mk M.g ow' ov').ow m'=ow' m' from rfl,hom m' (Ne.symm hmm)]at hc';rcases hon1 c hc with g|g;exact h.sV m m' hmm c g hc';rcases hO2σ c g with g|g;rcases hO2 c ‹_› with g'|g';exact h.sV m m' hmm c (hO1 c g') hc';exact absurd (h.lt ⟨m',hc'⟩) (by omega);exact absurd (h.lt ⟨m',hc'⟩) (by omega);by_cases e':m'=n;subst e';rw[show(Gh.mk M.g ow' ov').ow m'=ow' m' from rfl,hon]at hc';rw[show(Gh.mk M.g ow' ov').ow m=ow' m from rfl,hom m e]at hc;rcases hon1 c hc' with g|g;exact h.sV m m' hmm c hc g;rcases hO2 c g with g'|g';exact h.sV m m' hmm c hc (hO1 c g');exact absurd (h.lt ⟨m,hc⟩) (by omega);rw[show(Gh.mk M.g ow' ov').ow m=ow' m from rfl,hom m e]at hc;rw[show(Gh.mk M.g ow' ov').ow m'=ow' m' from rfl,hom m' e']at hc';exact h.sV m m' hmm c hc hc'
 ·intro m q hq;rw[show(Gh.mk M.g ow' ov').ow m=ow' m from rfl]at hq;by_cases e:m=n
  ·subst e;rw[hon]at hq;have hold:q∈M.ow m->BY w' q.1 q.2:=fun g=>hfree _ _ (h.live m q g) ⟨m,C2 g⟩;have key:q∈A++(O2++B')->BY w' q.1 q.2:=by
    intro g;simp at g;have hmem:q∈O'->q∈M.ow m:=fun g=>by
     rcases h6 with⟨-,b0,-,ho⟩|⟨-,-,-,ho⟩;all_goals grind
    grind
   rcases h6 with⟨hbx,b0,hs,ho⟩|⟨hbx,-,-,ho⟩;grind;grind
  rw[hom m e]at hq;exact hfree _ _ (h.live m q hq) ⟨m,C2 hq⟩
 intro i hi;exact(h.slots i hi).sJ hkeep
 ·cases hpd with
  |same hne=>
   refine h.pend.mono fun n' p' d' r' e' b' o' hpd hr' hp'=>?_
   have hnn:n'≠n:=fun e=>hne p' d' (by grind);have e'':(n'==n)=false:=by grind
   exact⟨r',by simpa[AE.sI,e'',AE.sJ]using hr',(hplace n' p' r' _ _ hr' hp' (fun g=>absurd g hnn)).1⟩
  |new d v e hpn ht=>
   refine⟨⟨r.bx,r.t,Fp r.t r.x p t y'⟩,e,by simp[AE.sI],?_⟩;rw[<-ht];exact(hplace n p r t _ hr hl (fun _ rest he=>.inl (by simpa using he))).1
 rintro c ⟨m,hm⟩;rcases hOwned c ⟨m,hm⟩with g|g;exact h.mine c g;rcases hO2σ c g with g|g;exact h.mine c g;exact .inr (B4 h.size g)
theorem Ty.sZ:(t:Ty)->t.sh.cells=t.cells|.int _|.bool|.str|.unit|.list _ _|.nl _=>rfl|.pair a b=>by simp only[Ty.sh,Ty.cells,Ty.sZ a,Ty.sZ b]|.arr n t=>by simp only[Ty.sh,Ty.cells,Ty.sZ t]
theorem a3v(h:A=A')(g:List A=List A')(l:List A):cast g l=l.map (cast h):=by(subst h;show l=l.map (fun x=>x));simp
theorem gJ{B B':Type}(g:A=A')(f:B=B')(h:(A×B)=(A'×B'))(x:A×B):cast h x=(cast g x.1,cast f x.2):=by grind
theorem pY(h:A=A')(g:List A=List A'):cast g ([]:List A)=([]:List A'):=by grind
theorem Ty.wW(o:Bool)(t:Ty)(l:List t.sK):Ty.wE (.list o t) l=l.map t.wE:=a3v _ _ l
theorem Ty.xU(n:Nat)(t:Ty)(l:List t.sK):Ty.wE (.arr n t) l=l.map t.wE:=a3v _ _ l
theorem Ty.xQ(a b:Ty)(x:a.sK×b.sK):Ty.wE (.pair a b) x=(a.wE x.1,b.wE x.2):=gJ _ _ _ x
theorem UL{α β:Type}{f:Nat->Option (α×CI×List Nat)}{f':Nat->Option (β×CI×List Nat)}{c:α->β}:∀(n i:Nat){a os k},Ak f n i=some (a,os,k)->(∀j x o r,i<=j->j<i+n->f j=some (x,o,r)->∃m,f' j=some (c x,[],m)/\∀b∈m,b∈o.map (·.1)\/b∈r)->∃g,Ak f' n i=some (a.map c,[],g)/\∀b∈g,b∈os.map (·.1)\/b∈k|0,i,a,os,k,h,_=>(by simp[Ak]at h;obtain⟨rfl,rfl,rfl⟩:=h;exact⟨[],rfl,by simp⟩)|n+1,i,a,os,k,h,l=>by simp[Ak]at h;split at h;grind;rename_i x o r d;split at h;grind;rename_i t p g e;simp at h;obtain⟨rfl,rfl,rfl⟩:=h;have⟨A,v,w⟩:=l i x o r (C0 _) (by omega) d;have⟨q,y,z⟩:=UL n (i+1) e (fun j x o r u e=>l j x o r (by omega) (by omega));grind[Ak]
theorem b9L{β:Type}{o:Bool}{f':(Nat->Option Value)->Option (β×CI×List Nat)}{c:α->β}{v x O R}(h:Cq m o sz f v=some (x,O,R))(e:∀rd x o r,f rd=some (x,o,r)->∃k,f' rd=some (c x,[],k)/\∀b∈k,b∈o.map (·.1)\/b∈r):∃g,Cq m false sz f' v=some (x.map c,[],g)/\∀b∈g,b∈O.map (·.1)\/b∈R:=by unfold Cq at h|-;split at h;simp_all;rename_i a n p;split at h;rename_i u;split at h;grind;rename_i z w y d;have⟨l,q,t⟩:=UL (f':=fun i=>f' fun j=>m a.block (a.off+(i*sz+j))) (c:=c) n 0 d (fun j x o r _ _ h=>e _ x o r h);grind;simp_all;simp_all
theorem Ol{m:DU}:∀(t:Ty){rd:Nat->Option Value}{x O R},AL m t rd=some (x,O,R)->∃f,AL m t.sh rd=some (t.wE x,[],f)/\∀c∈f,c∈O.map (·.1)\/c∈R|.int k,rd,x,O,R,h=>by refine⟨R,?_,fun c g=>.inr g⟩;(have:O=[]:=by grind[AL]);subst this;exact h|.bool,rd,x,O,R,h=>by refine⟨R,?_,fun c g=>.inr g⟩;(have:O=[]:=by grind[AL]);subst this;exact h|.str,rd,x,O,R,h=>by refine⟨R,?_,fun c g=>.inr g⟩;(have:O=[]:=by grind[AL]);subst this;exact h|.unit,rd,x,O,R,h=>(by simp[AL]at h;cases h;exact⟨[],rfl,by simp⟩)|.pair a b,rd,x,O,R,h=>(by obtain⟨E,A,C,F,B,D,e,d,rfl,rfl,rfl⟩:=CK h;have⟨p,u,v⟩:=Ol a e;have⟨q,l,w⟩:=Ol b d;refine⟨p++q,?_,fun c g=>?_⟩;rw[Ty.xQ];rw[<-Ty.sZ a]at l;exact Mx u l;simp only[pA,mA]at g|-;rcases g with g|g;exact(v c g).imp .inl .inl;exact(w c g).imp .inr .inr)|.arr n t,rd,x,O,R,h=>(by have h:Ak (fun i=>AL m t fun j=>rd (i*t.cells+j)) n 0=some (x,O,R):=h;have⟨f,e,d⟩:=UL (f':=fun i=>AL m t.sh fun j=>rd (i*t.cells+j)) (c:=t.wE) n 0 h (fun j x o r _ _ h=>Ol t h);refine⟨f,?_,d⟩;refine Eq.trans ?_ (cG (fun z:List t.sh.sK=>some (z,([]:CI),f)) (Ty.xU n t x).symm);show Ak (fun i=>AL m t.sh fun j=>rd (i*t.sh.cells+j)) n 0=_;simp_all[Ty.sZ])|.list o t,rd,x,O,R,h=>(by have h:Cq m o t.cells (AL m t) (rd 0)=some (x,O,R):=h;have⟨f,e,d⟩:=b9L (f':=AL m t.sh) (c:=t.wE) h (fun rd x o r h=>Ol t h);refine⟨f,?_,d⟩;refine Eq.trans ?_ (cG (fun z:List t.sh.sK=>some (z,([]:CI),f)) (Ty.wW o t x).symm);show Cq m false t.sh.cells (AL m t.sh) (rd 0)=_;simp_all[Ty.sZ])|.nl t,rd,x,O,R,h=>by obtain⟨y,rfl,rfl,rfl⟩:=pV h;refine⟨[],?_,by simp⟩;refine Eq.trans ?_ (cG (fun z:List t.sh.sK=>some (z,([]:CI),([]:List Nat))) (pY (Ty.uC t).symm _).symm);show Cq m false t.sh.cells (AL m t.sh) (rd 0)=_;rw[y];rfl
theorem Ty.uF:(t:Ty)->t.tO.cells=t.cells|.int _|.bool|.str|.unit|.list _ _|.nl _=>rfl|.pair a b=>by simp only[Ty.tO,Ty.cells,Ty.uF a,Ty.uF b]|.arr n t=>by simp only[Ty.tO,Ty.cells,Ty.sZ t]
theorem cK{m:DU}:∀(t:Ty){rd:Nat->Option Value}{x O R},AL m t rd=some (x,O,R)->∃e,AL m t.tO rd=some (t.vJ x,[],e)/\∀c∈e,c∈O.map (·.1)\/c∈R|.int k,rd,x,O,R,h=>Ol (.int k) h|.bool,rd,x,O,R,h=>Ol .bool h|.str,rd,x,O,R,h=>Ol .str h|.unit,rd,x,O,R,h=>Ol .unit h|.arr n t,rd,x,O,R,h=>Ol (.arr n t) h|.list o t,rd,x,O,R,h=>Ol (.list o t) h|.nl t,rd,x,O,R,h=>(by obtain⟨w,rfl,rfl,rfl⟩:=pV h;refine⟨[],?_,by simp⟩;refine Eq.trans ?_ (cG (fun z:List t.sh.sK=>some (z,([]:CI),([]:List Nat))) (pY (Ty.uC t).symm _).symm);show(match rd 0 with|some (.slice none 0 0)=>some (([]:List t.sh.sK),([]:CI),([]:List Nat))|_=>none)=_;simp_all)|.pair a b,rd,x,O,R,h=>by obtain⟨f,y,B,d,A,C,p,q,rfl,rfl,rfl⟩:=CK h;have⟨j,r,u⟩:=cK a p;have⟨l,i,v⟩:=cK b q;refine⟨j++l,?_,fun c g=>?_⟩;rw[show(Ty.pair a b).vJ (f,d)=(a.vJ f,b.vJ d)from gJ _ _ _ (f,d)];rw[<-Ty.uF a]at i;exact Mx r i;simp only[pA,mA]at g|-;rcases g with g|g;exact(u c g).imp .inl .inl;exact(v c g).imp .inr .inr
theorem Ty.vI:∀(a b:Ty),a.le b=true->a.cells=b.cells|.nl a,.list o b,_=>rfl|.pair a b,.pair g f,h=>by simp[Ty.le]at h;simp only[Ty.cells,Ty.vI a g h.1,Ty.vI b f h.2]|.nl a,.nl b,_=>rfl|.nl a,.int _,h|.nl a,.bool,h|.nl a,.str,h|.nl a,.unit,h|.nl a,.pair _ _,h|.nl a,.arr _ _,h=>by simp[Ty.le]at h|.pair a b,.int _,h|.pair a b,.bool,h|.pair a b,.str,h|.pair a b,.unit,h|.pair a b,.arr _ _,h|.pair a b,.list _ _,h|.pair a b,.nl _,h=>by simp[Ty.le]at h|.int _,b,h|.bool,b,h|.str,b,h|.unit,b,h|.list _ _,b,h|.arr _ _,b,h=>by simp only[Ty.le,dT]at h;rw[h]
theorem b0C{m:DU}:∀(a b:Ty)(h:a.le b=true){rd:Nat->Option Value}{x R},AL m a rd=some (x,[],R)->AL m b rd=some (cast (Ty.vV a b h) x,[],R)|.nl a,.list o b,h,rd,x,R,g=>by(obtain⟨t,rfl,-,rfl⟩:=pV g;have e:a.sK=b.sK:=by simp[Ty.le]at h;grind[Ty.uC]);refine Eq.trans ?_ (cG (fun z:List b.sK=>some (z,([]:CI),([]:List Nat))) (pY e _).symm);grind[Cq,AL]|.pair a b,.pair k c,h,rd,x,R,g=>(by have f:=h;simp[Ty.le]at f;obtain⟨q,u,n,r,v,p,j,l,rfl,e,rfl⟩:=CK g;obtain⟨rfl,rfl⟩:=C7.1 e.symm;have i:=b0C a k f.1 j;have d:=b0C b c f.2 l;rw[Ty.vI a k f.1]at d;exact(Mx i d).trans (cG (fun z:k.sK×c.sK=>some (z,([]:CI),n++p)) (gJ (Ty.vV a k f.1) (Ty.vV b c f.2) _ (q,r)).symm))|.nl a,.nl b,h,rd,x,R,g=>by simp only[Ty.le,dT]at h;grind|.nl a,.int _,h,_,_,_,_|.nl a,.bool,h,_,_,_,_|.nl a,.str,h,_,_,_,_|.nl a,.unit,h,_,_,_,_|.nl a,.pair _ _,h,_,_,_,_|.nl a,.arr _ _,h,_,_,_,_=>by simp[Ty.le]at h|.pair a b,.int _,h,_,_,_,_|.pair a b,.bool,h,_,_,_,_|.pair a b,.str,h,_,_,_,_|.pair a b,.unit,h,_,_,_,_|.pair a b,.arr _ _,h,_,_,_,_|.pair a b,.list _ _,h,_,_,_,_|.pair a b,.nl _,h,_,_,_,_=>by simp[Ty.le]at h|.int _,b,h,rd,x,R,g|.bool,b,h,rd,x,R,g|.str,b,h,rd,x,R,g|.unit,b,h,rd,x,R,g|.list _ _,b,h,rd,x,R,g|.arr _ _,b,h,rd,x,R,g=>by simp only[Ty.le,dT]at h;cases h;exact g
theorem b2U{a:Option Addr}{l off f:Nat}{x:List e.sK}{O R}(h:AL m (.list true e) ((Src.one (.slice a l c)).rd m)=some (x,O,R))(F:off+f<=l){d:Option Addr}(y:∀A,d=some A->c=off\/A.spot=none)(v:c=off\/d=a.map fun A=>A.add (off*e.cells)):∃t,AL m (.list false e.sh) ((Src.one (.slice d f (c-off))).rd m)=some (Ty.wE (.list false e) ((x.drop off).take f),[],t)/\∀b∈t,b∈O.map (·.1)\/b∈R:=by
 rw[Ty.wW];rcases Ct h with⟨w,rfl,rfl,rfl⟩|⟨A,n,X,os,w,E,hn,z,ho⟩;simp[Src.rd]at w;obtain⟨rfl,rfl,rfl⟩:=w;obtain rfl:off=0:=by omega
 obtain rfl:f=0:=by omega
 refine⟨[],?_,by simp⟩;show Cq m false e.sh.cells (AL m e.sh) (some (.slice d 0 0))=_;cases d with|none=>rfl|some A=>rfl
 simp[Src.rd]at w;obtain⟨rfl,rfl,rfl⟩:=w;have N:=AX l 0 z;by_cases hl0:f=0;subst hl0;refine⟨[],?_,by simp⟩;show Cq m false e.sh.cells (AL m e.sh) (some (.slice d 0 (c-off)))=_;cases d with|none=>(rcases v with g|g;simp[Cq,g];rfl;simp_all)|some A'=>have M:c-off=0\/A'.spot=none:=(y A' rfl).imp (fun h=>by omega) id;simp[Cq,M,Ak];rfl
 have E:A.spot=none:=E.resolve_left (by omega);have q:d=some (A.add (off*e.cells)):=by grind
 have u:(A.add (off*e.cells)).block=A.block/\(A.add (off*e.cells)).off=A.off+off*e.cells/\(A.add (off*e.cells)).spot=none:=by grind[Addr.add]
 have H:l=off+(f+(l-off-f)):=by omega
 rw[H]at z;obtain⟨Q,B,S,V,Y,I,rfl,rfl⟩:=FA off (f+(l-off-f)) 0 z;obtain⟨T,C,U,D,K,Z,rfl,rfl⟩:=FA f (l-off-f) (0+off) I;have⟨t,L,h6⟩:=UL (f':=fun i=>AL m e.sh ((Src.at A.block (A.off+i*e.cells)).rd m)) (c:=e.wE) f (0+off) K (fun j x o r _ _ h=>Ol e h);have p:∀(k i:Nat),Ak (fun i=>AL m e.sh fun j=>m A.block (A.off+off*e.cells+(i*e.cells+j))) k i=Ak (fun i=>AL m e.sh ((Src.at A.block (A.off+i*e.cells)).rd m)) k (off+i):=by intro k;induction k with|zero=>intro i;rfl|succ k P=>intro i;simp[Ak];rw[P (i+1)];(have:(fun j=>m A.block (A.off+off*e.cells+(i*e.cells+j)))=(Src.at A.block (A.off+(off+i)*e.cells)).rd m:=by grind[Src.rd]);grind
 have G:∀b,b∈t->b∈O.map (·.1)\/b∈B++(C++D):=fun b hb=>by grind
 refine⟨A.block::t,?_,fun b hb=>?_⟩;show Cq m false e.sh.cells (AL m e.sh) (some (.slice d f (c-off)))=_;subst q;simp only[Cq,u,Ty.sZ];rw[if_pos ⟨.inr trivial,by omega⟩,p,show off+0=0+off from by omega,L];simp[hl0];rfl;grind
theorem sM.gone{B U N tm w M}(h:sM B U N tm w M)(F:∀p d,U.pd≠some (n,p,d)){f:AV->AV}(Q:∀a v,Ay (Af w M.ov) M.g U.rt (Ba B w M) a v->Ay (Af w M.ov) M.g (fun j=>bif j==n then none else U.rt j) (Ba B w ⟨M.g,fun m=>if m=n then[]else M.ow m,M.ov⟩) (f a) v):sM B ((U.sJ f).sI n none) N tm w ⟨M.g,fun m=>if m=n then[]else M.ow m,M.ov⟩:=by
 have k:∀m c,c∈(if m=n then[]else M.ow m).map (·.1)->c∈(M.ow m).map (·.1):=fun m c q=>by simp_all
 have G:∀c,Ba B w M c->Ba B w ⟨M.g,fun m=>if m=n then[]else M.ow m,M.ov⟩ c:=fun c ⟨x,y,H⟩=>⟨x,y,fun⟨m,o⟩=>H ⟨m,k m c o⟩⟩
 refine⟨fun m r X=>?_,fun m o=>?_,fun m=>?_,fun m K C c q=>?_,fun m p t=>?_,fun i S=>(h.slots i S).sJ Q,?_,h.size,h.frame,fun c ⟨m,o⟩=>h.mine c ⟨m,k m c o⟩,fun i b hb D=>h.pins i b hb fun e=>D (by simp_all[AE.sI,AE.sJ]),h.still⟩;have o:m≠n:=by rintro rfl;simp[AE.sI]at X
 have A:(m==n)=false:=by simp_all
 have l:U.rt m=some r:=by simp_all[AE.sI,AE.sJ]
 have⟨O,R,x,y,H⟩:=(h.roots m r l).rd;refine⟨O,R,x,fun c q=>G c (y c q),?_⟩;simp_all;show(if m=n then[]else M.ow m)=[]
 split;rfl;rename_i T;have A:(m==n)=false:=by simp_all
 exact h.norm m (by simp_all[AE.sI,AE.sJ]);show((if m=n then[]else M.ow m).map (·.1)).Nodup
 split;simp;exact h.nodup m;exact fun z=>h.sV m K C c (k m c q) (k K c z);have t:p∈(if m=n then[]else M.ow m):=t
 split at t;simp_all;exact h.live m p t;refine h.pend.mono fun L Y P Z e' b' o' I l E=>?_
 have V:L≠n:=fun e=>F Y P (by simp_all);have u:(L==n)=false:=by simp_all
 exact⟨Z,by simpa[AE.sI,u,AE.sJ]using l,E⟩
theorem Ay.other{rt:Nat->Option sP}{a:AV}(h:Ay m g rt Sh a v)(b:∀c,Sh c->Sh' c)(f:∀k,k≠n->rt' k=rt k)(j:∀k,k≠n->g' k=g k)(e:∀k q,(a=.ptr k q\/a=.sref k q\/∃o l,a=.swin k q o l)->k≠n):Ay m g' rt' Sh' a v:=h.frame (fun _ _ _=>rfl) b fun k q r t s i u p=>⟨r,by grind,by grind,fun _ _ d=>d⟩
theorem sM.tT{B w}{M:Gh}{n:Nat}(c:Nat)(h:Ba B w M c):Ba B w ⟨M.g,fun m=>if m=n then[]else M.ow m,M.ov⟩ c:=⟨h.1,h.2.1,fun⟨m,f⟩=>h.2.2 ⟨m,by simp_all⟩⟩
theorem a3w{U:AE}{n k:Nat}(h:k≠n)(x:Option sP):(bif k==n then x else U.rt k)=U.rt k:=by grind
theorem sM.drop{B U N tm w M}(h:sM B U N tm w M){n:Nat}(b:∀p d,U.pd≠some (n,p,d)):
  sM B ((U.sJ (AV.drop n)).sI n none) N tm w ⟨M.g,fun m=>if m=n then[]else M.ow m,M.ov⟩:=by
 refine h.gone b fun a v e=>?_
 by_cases hd:AV.drop n a=.dead;rw[hd];trivial
 ·have f:AV.drop n a=a/\∀k q,(a=.ptr k q\/a=.sref k q\/∃o l,a=.swin k q o l)->k≠n:=by
   cases a<;>simp only[AV.drop]at hd|-<;>try (refine⟨trivial,?_⟩;rintro k q (h|h|⟨o,l,h⟩)<;>cases h)
   all_goals simp_all
  rw[f.1];exact e.other (fun c i=>sM.tT c i) (fun k f=>a3w f _) (fun _ _=>rfl) f.2
theorem sM.xN{B U N tm w M}(h:sM B U N tm w M)(hr:U.rt n=some r)(h0:r.bx=true)(Y:U.pd=none):∃b,M.g n=.at b 0/\sM B ((U.sJ (AV.sQ [n] [])).sI n (some ⟨true,r.t.tO,Ty.vJ r.t r.x⟩)) N tm w ⟨M.g,fun m=>if m=n then[(b,r.t.cells)]else M.ow m,M.ov⟩:=by
 have⟨O',R,h1,h2,h6⟩:=(h.roots n r hr).rd;rcases h6 with⟨-,b,hg,ho⟩|⟨g,-⟩;refine⟨b,hg,?_⟩;have z:∀m c,c∈(if m=n then[(b,r.t.cells)]else M.ow m).map (·.1)->c∈(M.ow m).map (·.1):=fun m c G=>by grind
 have Q:∀c,Ba B w M c->Ba B w ⟨M.g,fun m=>if m=n then[(b,r.t.cells)]else M.ow m,M.ov⟩ c:=fun c ⟨S,T,g3⟩=>⟨S,T,fun⟨m,u⟩=>g3 ⟨m,z m c u⟩⟩
 have P:∀k,k≠n->((U.sJ (AV.sQ [n] [])).sI n (some ⟨true,r.t.tO,Ty.vJ r.t r.x⟩)).rt k=U.rt k:=fun k I=>a3w I _;have O:((U.sJ (AV.sQ [n] [])).sI n (some ⟨true,r.t.tO,Ty.vJ r.t r.x⟩)).rt n=some ⟨true,r.t.tO,Ty.vJ r.t r.x⟩:=by simp[AE.sI]
 have⟨R2,k1,k2⟩:=cK _ h1;refine⟨fun m r' C=>?_,fun m u=>?_,fun m=>?_,fun m H V c G=>?_,fun m p K=>?_,fun i hi=>(h.slots i hi).sJ fun a v A=>?_,?_,h.size,h.frame,fun c ⟨m,u⟩=>h.mine c ⟨m,z m c u⟩,fun i D hb h4=>h.pins i D hb fun e=>?_,h.still⟩;by_cases u:m=n;subst u;rw[O]at C;simp at C;subst C;refine⟨[],R2,k1,fun c G=>?_,.inl ⟨rfl,b,hg,by simp[Ty.uF]⟩⟩;rcases k2 c G with g|g;have E:c∈(M.ow m).map (·.1):=by simp_all
 have F:BB M c:=⟨m,E⟩;refine⟨h.lt F,.inr (h.mine c F),fun⟨H,d⟩=>?_⟩;have d:c∈(if H=m then[(b,r.t.cells)]else M.ow H).map (·.1):=d;split at d;simp at d;have h3:=h.nodup m;simp_all;rename_i X;exact h.sV H m X c d E;simp_all;rw[P m u]at C;have⟨O2,R3,S,T,g3⟩:=(h.roots m r' C).rd;refine⟨O2,R3,S,fun c G=>Q c (T c G),?_⟩;simp_all;show(if m=n then[(b,r.t.cells)]else M.ow m)=[]
 have d:m≠n:=by grind
 rw[if_neg d];rw[P m d]at u;exact h.norm m u;show((if m=n then[(b,r.t.cells)]else M.ow m).map (·.1)).Nodup
 split;simp;exact h.nodup m;exact fun E=>h.sV m H V c (z m c G) (z H c E);have L:p∈(if m=n then[(b,r.t.cells)]else M.ow m):=K
 split at L;rename_i e;subst e;refine h.live m p ?_;simp_all;exact h.live m p L;have f:∀D,(∀k q,(D=.ptr k q\/D=.sref k q\/∃o l,D=.swin k q o l)->k≠n)->Ay (Af w M.ov) M.g U.rt (Ba B w M) D v->Ay (Af w M.ov) M.g (fun j=>bif j==n then some ⟨true,r.t.tO,Ty.vJ r.t r.x⟩else U.rt j) (Ba B w ⟨M.g,fun m=>if m=n then[(b,r.t.cells)]else M.ow m,M.ov⟩) D v:=fun D I hb=>hb.other Q (fun k I=>a3w I _) (fun _ _=>rfl) I
 have Cf:∀m:Nat,[n].contains m=(m==n):=fun m=>by grind
 cases a with|dead=>trivial|val t x=>exact f _ (by rintro k q (h|h|⟨o,l,h⟩)<;>cases h) A|skp=>exact A|nils=>exact A|empt=>exact A|nilp=>exact A|tZ g=>exact A|vptr t x=>exact f (.vptr t x) (by simp) A|ptr m q=>simp only[AV.sQ,Cf];split;(rename_i u;have u:m=n:=by simp_all);(subst u;cases q with|nil=>(have⟨r',t',D,o',Z,p2,p3⟩:=A;rw[hr]at Z;simp at Z;subst Z;simp[Cl]at p2;obtain⟨-,p2⟩:=p2;exact⟨⟨true,r.t.tO,Ty.vJ r.t r.x⟩,r.t.tO,D,o',O,by show some (r.t.tO,M.g m)=_;grind,p3⟩)|cons=>trivial);rename_i u;exact f _ (by simp_all) A|sref m q=>(simp only[AV.sQ,Cf];split;cases q<;>exact True.intro;rename_i u;exact f _ (by simp_all) A)|swin m q o l=>simp only[AV.sQ,Cf];split;trivial;rename_i u;exact f _ (by simp_all) A
 have K:=h.pend;show Tq _ _ _ U.pd M.ov;rw[Y]at K|-;cases hov:M.ov with|none=>trivial|some y=>rw[hov]at K;exact K.elim
 grind;simp_all
theorem sM.xH{B U N tm w M}(h:sM B U N tm w M){n:Nat}{e:Ty}{l:List e.sK}(V:U.rt n=some ⟨false,.list true e,l⟩)(T:∀p d,U.pd≠some (n,p,d)):sM B ((U.sJ (AV.xH n e l)).sI n none) N tm w ⟨M.g,fun m=>if m=n then[]else M.ow m,M.ov⟩:=by
 have⟨Z,R,F,h2,h3,X,h5,h6⟩:=h.sep V;rcases h6 with⟨g,-⟩|⟨-,⟨Y,H⟩,-,ho⟩;grind;refine h.gone T fun a v i=>?_
 have z:∀c,c∈Z.map (·.1)\/c∈R->Ba B w ⟨M.g,fun m=>if m=n then[]else M.ow m,M.ov⟩ c:=by rintro c (u|u);have y:BB M c:=⟨n,X c u⟩;refine⟨h.lt y,.inr (h.mine c y),fun⟨m,G⟩=>?_⟩;have G:c∈(if m=n then[]else M.ow m).map (·.1):=G;split at G;simp_all;rename_i S;exact h.sV m n S c G (X c u);simp_all[sM.tT]
 have f:∀b,(∀k q,(b=.ptr k q\/b=.sref k q\/∃o l,b=.swin k q o l)->k≠n)->Ay (Af w M.ov) M.g U.rt (Ba B w M) b v->Ay (Af w M.ov) M.g (fun j=>bif j==n then none else U.rt j) (Ba B w ⟨M.g,fun m=>if m=n then[]else M.ow m,M.ov⟩) b v:=fun b Q hb=>hb.other (fun c u=>sM.tT c u) (fun k Q=>a3w Q _) (fun _ _=>rfl) Q
 cases a with|dead=>trivial|val t x=>exact f _ (by rintro k q (h|h|⟨o,l,h⟩)<;>cases h) i|skp=>exact i|nils=>exact i|empt=>exact i|nilp=>exact i|tZ g=>exact i|vptr t x=>exact f (.vptr t x) (by simp) i|ptr m q=>simp only[AV.xH];split;trivial;simp_all|sref m q=>simp only[AV.xH];split;(rename_i G;obtain rfl:m=n:=by simp_all);(cases q with|cons=>trivial|nil=>have⟨r,e',s,D,I,E⟩:=i;rw[V]at D;simp at D;subst D;simp only[loc,Cl,sj,pJ]at I;obtain⟨-,rfl⟩:=I;rw[H]at F E;simp[Src.rd]at E;subst E;have⟨K,L,O⟩:=Ol _ F;refine⟨by simp[Ty.isAgg],fun _=>?_,K,?_,fun c u=>z c (O c u)⟩;rcases Ct F with⟨C,-⟩|⟨A,nn,c',os,C,-⟩<;>simp only[Src.rd,if_true,sj]at C<;>rw[C]<;>rfl;(have:Cf Y=true:=by rcases Ct F with⟨C,-⟩|⟨A,nn,c',os,C,-⟩<;>simp only[Src.rd,if_true,sj]at C<;>rw[C]<;>rfl);(refine AF _ L (fun j hj=>?_) (fun _ _ _=>rfl);have P:j=0:=by simp_all[Ty.cells]);subst P;cases Y<;>simp[Cf]at this<;>simp[Value.cells,Src.rd]);simp_all|swin m q o k=>simp only[AV.xH];split;(rename_i G;obtain rfl:m=n:=by simp_all);(cases q with|cons=>trivial|nil=>have⟨r,e',s,a,l',c,D,I,E,k4,a',k5,k6,k7⟩:=i;rw[V]at D;simp at D;subst D;simp[Cl]at I;obtain⟨rfl,rfl⟩:=I;rw[H]at F E;simp[Src.rd]at E;subst E k5;have⟨K,L,O⟩:=b2U F k4 k6 k7;refine⟨by simp[Ty.isAgg],fun _=>rfl,K,?_,fun c u=>z c (O c u)⟩;refine AF _ L (fun j hj=>?_) (fun _ _ _=>rfl);simp_all[Ty.cells,Value.cells,Src.rd]);simp_all
theorem sM.room{B U N tm w M}(h:sM B U N tm w M){n r p t b o}(l:U.rt n=some r)(j:loc (Af w M.ov) r.t (M.g n) p=some (t,.at b o)):BY w b (o+t.cells):=by have⟨m,R,e,u,x,y,z,i⟩:=h.sep l;rcases TJ p r.t _ e j with⟨C,f,a,q⟩|⟨k,f,a⟩;rcases i with⟨-,d,c,A⟩|⟨-,⟨v,c⟩,-⟩;rw[c]at f;simp at f;obtain⟨rfl,rfl⟩:=f;exact(h.live n (d,r.t.cells) (by simp_all)).mono (by omega);simp_all;refine(h.live n (b,k) ?_).mono a;grind
theorem BY.cell{o:Nat}(h:BY w b k)(i:o<k):(w.cell? ⟨b,o,none⟩).isSome=true/\w.frozen? ⟨b,o,none⟩=false:=by have⟨c,e,lo,d,g,f,a⟩:=h;grind[World.cell?,World.frozen?]
theorem MR(w:World)(a:Addr)(v:Value)(b:Nat):(w.setCell a v).heap[b]?=if b=a.block then(w.heap[b]?).map (fun
   |.cells c elem frozen=>.cells (if a.spot.isSome then c else c.setIfInBounds a.off v) elem frozen
   |o=>o)else w.heap[b]?:=by
 simp[World.setCell,Array.getElem?_modify];grind
theorem BY.setCell(h:BY w b k)(a:Addr)(v:Value):BY (w.setCell a v) b k:=by have⟨c,e,lo,i,g,f,d⟩:=h;unfold BY;rw[MR];grind
theorem sM.rename{B U N tm w M}(h:sM B U N tm w M){r:Nat}{f:sP}(P:U.rt r=some f)(hd:U.rt d=none)(V:∀i b,d=pinned+i->B.pin i≠some b)(h7:∀p k,U.pd≠some (r,p,k)):sM B (((U.sJ (AV.ren r d)).sI r none).sI d (some f)) N tm w ⟨fun m=>if m=d then M.g r else M.g m,fun m=>if m=d then M.ow r else if m=r then[]else M.ow m,M.ov⟩:=by
 have h9:r≠d:=by grind
 have h5:M.ow d=[]:=h.norm d hd;let j:Nat->CI:=fun m=>if m=d then M.ow r else if m=r then[]else M.ow m
 have O:∀c,BB ⟨fun m=>if m=d then M.g r else M.g m,j,M.ov⟩ c↔BB M c:=by intro c;constructor;rintro⟨m,y⟩;have y:c∈(j m).map (·.1):=y;simp only[j]at y;split at y;exact⟨r,y⟩;split at y;simp_all;exact⟨m,y⟩;rintro⟨m,y⟩;by_cases e:m=r;subst e;exact⟨d,by grind⟩;by_cases e':m=d;simp_all;refine⟨m,?_⟩;grind
 have H:∀c,Ba B w M c↔Ba B w ⟨fun m=>if m=d then M.g r else M.g m,j,M.ov⟩ c:=fun c=>by unfold Ba;grind
 have G:∀m,(((U.sJ (AV.ren r d)).sI r none).sI d (some f)).rt m=if m=d then some f else if m=r then none else U.rt m:=by intro m;simp only[AE.sI,AE.sJ];grind
 refine⟨fun m rm y=>?_,fun m y=>?_,fun m=>?_,fun m X L c z u=>?_,fun m p F=>?_,fun i hi=>?_,?_,h.size,h.frame,fun c z=>h.mine c ((O c).1 z),fun i b hb C=>?_,h.still⟩;rw[G]at y;by_cases e:m=d;subst e;simp at y;subst y;have⟨Q,R,g1,T,g3⟩:=(h.roots r f P).rd;exact⟨Q,R,by simp_all,fun c z=>(H c).1 (T c z),by simp_all⟩;rw[if_neg e]at y;by_cases e':m=r;simp_all;rw[if_neg e']at y;have⟨Q,R,g1,T,g3⟩:=(h.roots m rm y).rd;exact⟨Q,R,by simp_all,fun c z=>(H c).1 (T c z),by simp_all⟩;show(if m=d then M.ow r else if m=r then[]else M.ow m)=[]
 rw[G]at y;by_cases e:m=d;simp_all;rw[if_neg e]at y|-;by_cases e':m=r;grind;rw[if_neg e']at y|-;exact h.norm m y;show((j m).map (·.1)).Nodup;simp[j];split;exact h.nodup r;split
 simp;exact h.nodup m;have z:c∈(j m).map (·.1):=z;have u:c∈(j X).map (·.1):=u;simp only[j]at z u;by_cases e:m=d;subst e;rw[if_pos rfl]at z;rw[if_neg (Ne.symm L)]at u;split at u;simp_all;rename_i S;exact h.sV r X (Ne.symm S) c z u;rw[if_neg e]at z;split at z;simp_all;rename_i S;split at u;exact h.sV m r S c z u;split at u;simp_all;exact h.sV m X L c z u;have F:p∈j m:=F;simp[j]at F;split at F;exact h.live r p F;split at F;simp_all;exact h.live m p F;refine(h.slots i hi).sJ fun a v E=>?_
 have g0:∀k q (b:AV),(b=.ptr k q\/b=.sref k q\/∃o l,b=.swin k q o l)->True:=fun _ _ _ _=>trivial;have D:(∀k q,(a=.ptr k q\/a=.sref k q\/∃o l,a=.swin k q o l)->k≠r)->Ay (Af w M.ov) (fun m=>if m=d then M.g r else M.g m) (((U.sJ (AV.ren r d)).sI r none).sI d (some f)).rt (Ba B w ⟨fun m=>if m=d then M.g r else M.g m,j,M.ov⟩) a v:=fun C=>E.frame (fun _ _ _=>rfl) (fun c z=>(H c).1 z) fun k q Y t s z hk hl=>by grind
 cases a with|ptr k q=>((simp only[AV.ren];split;rename_i e;obtain rfl:k=r:=by simp_all);have⟨Y,t,b,o,A,Z,I⟩:=E;rw[P]at A;simp at A;subst A;exact⟨f,t,b,o,by simp_all,by simp_all,I⟩;grind)|sref k q=>((simp only[AV.ren];split;rename_i e;obtain rfl:k=r:=by simp_all);have⟨Y,e,s,A,Z,I⟩:=E;rw[P]at A;simp at A;subst A;exact⟨f,e,s,by simp_all,by simp_all,I⟩;grind)|swin k q o l=>((simp only[AV.ren];split;rename_i e;obtain rfl:k=r:=by simp_all);have⟨Y,e,s,a,l',c,A,Z,I,h4⟩:=E;rw[P]at A;simp at A;subst A;exact⟨f,e,s,a,l',c,by simp_all,by simp_all,I,h4⟩;grind)|dead=>trivial|skp=>exact E|nils=>exact E|empt=>exact E|nilp=>exact E|tZ g=>exact E|val t x=>exact D (by simp)|vptr t x=>exact D (by simp)
 refine h.pend.mono fun n p k r' e b o h0 h8 h6=>?_
 grind;rw[G]at C;have K:pinned+i≠d:=fun e=>V i b e.symm hb;rw[if_neg K]at C;show(if pinned+i=d then M.g r else M.g (pinned+i))=_
 rw[if_neg K];by_cases e':pinned+i=r;simp_all;rw[if_neg e']at C;exact h.pins i b hb C
theorem sM.ext{B U N tm w M}(h:sM B U N tm w M)(g:∀c,c<w.heap.size->w'.heap[c]?=w.heap[c]?)(k:w.heap.size<=w'.heap.size)(hio:Gr w'=Gr w:=by first|rfl|assumption):sM B U N tm w' M:=by refine h.mem (fun c j f=>BE _ (g c ?_) j) (fun n p m=>?_) k (fun b hb i=>?_);rcases f with f|f;exact h.lt f;exact f.1;have⟨c,e,lo,l,o,a,d⟩:=h.live n p m;exact⟨c,e,lo,l,by grind,a,d⟩;rw[g b (B3 hb h.size)];exact h.frame b hb i
theorem sM.add{B U N tm w M}(h:sM B U N tm w M){n:Nat}(hn:U.rt n=none)(h8:n<pinned){w':World}(f:∀c,c<w.heap.size->w'.heap[c]?=w.heap[c]?)(T:w.heap.size<=w'.heap.size)
  {r:sP}{s:Src}{O:CI}(Z:∀c∈O.map (·.1),w.heap.size<=c)(h7:(O.map (·.1)).Nodup)(h6:∀p∈O,BY w' p.1 p.2)(h2:tV (Af w' M.ov) (Ba B w M) r s O)(hio:Gr w'=Gr w:=by first|rfl|assumption):
  sM B (U.sI n (some r)) N tm w' ⟨fun m=>if m=n then s else M.g m,fun m=>if m=n then O else M.ow m,M.ov⟩:=by
 have K:=h.ext f T
 let d:Nat->CI:=fun m=>if m=n then O else M.ow m
 have A:∀c,BB ⟨fun m=>if m=n then s else M.g m,d,M.ov⟩ c->BB M c\/c∈O.map (·.1):=by
  rintro c ⟨m,z⟩;have z:c∈(d m).map (·.1):=z;simp only[d]at z;split at z;simp_all;exact .inl ⟨m,z⟩
 have S:∀c,Ba B w M c->Ba B w' ⟨fun m=>if m=n then s else M.g m,d,M.ov⟩ c:=fun c ⟨H,I,g3⟩=>⟨B3 H T,I,fun g4=>by
  grind⟩
 have F:∀c j,Ba B w M c->Af w' M.ov c j=Af w M.ov c j:=fun c j l=>BE _ (f c l.1) j;have E:∀m,(U.sI n (some r)).rt m=if m=n then some r else U.rt m:=by
  simp_all[AE.sI]
 refine⟨fun m Y z=>?_,fun m z=>?_,fun m=>?_,fun m m' P c l y=>?_,fun m p Q=>?_,fun i hi=>?_,?_,K.size,K.frame,fun c l=>?_,fun i b hb D=>?_,K.still⟩
 ·rw[E]at z;by_cases e:m=n;subst e;simp at z;subst z;obtain⟨O',R,H,I,g3⟩:=h2.rd;exact⟨O',R,by simp_all,fun c l=>S c (I c l),by simp_all⟩
  ·rw[if_neg e]at z;obtain⟨O',R,H,I,g3⟩:=(K.roots m Y z).rd;obtain⟨O1,R1,k1,k2,-⟩:=(h.roots m Y z).rd;refine⟨O',R,by simp_all,fun c l=>?_,by simp_all⟩
   have:=I c l
   refine⟨this.1,this.2.1,fun g4=>?_⟩;rcases A c g4 with g|g;exact this.2.2 g
   ·
    have k3:AL (Af w' M.ov) Y.t ((M.g m).rd (Af w' M.ov))=some (Y.x,O1,R1):=by
     obtain⟨O2,R2,G,l2,l3,V,X,l6⟩:=h.sep z;rw[k1]at G;simp at G;obtain⟨rfl,rfl⟩:=G;refine AF Y.t k1 (fun j _=>?_) (fun b j hb=>?_)
     ·cases es:M.g m with
      |one v=>rfl
      |_=>rename_i b o;exact BE _ (f b (h.lt ⟨m,X _ _ es⟩)) _
     rcases hb with hb|hb;exact BE _ (f b (h.lt ⟨m,V b hb⟩)) j;simp_all
    rw[k3]at H;simp at H;obtain⟨rfl,rfl⟩:=H;exact absurd (Z c g) (by have:=(k2 c l).1;omega)
 show(if m=n then O else M.ow m)=[]
 rw[E]at z;by_cases e:m=n;simp_all;rw[if_neg e]at z|-;exact h.norm m z;show((d m).map (·.1)).Nodup;simp[d];split;omega;exact h.nodup m;have l:c∈(d m).map (·.1):=l;have y:c∈(d m').map (·.1):=y;simp only[d]at l y;split at l;rename_i e;rw[if_neg (fun e'=>P (e.trans e'.symm))]at y;exact absurd (Z c l) (by have:=h.lt ⟨m',y⟩;omega);split at y;exact absurd (Z c y) (by have:=h.lt ⟨m,l⟩;omega);exact h.sV m m' P c l y;have Q:p∈d m:=Q;simp[d]at Q;split at Q;simp_all;exact K.live m p Q
 ·refine(h.slots i hi).frame fun a v ha=>ha.frame F S fun k q rk t s' _ hk hl=>?_
  have h0:k≠n:=by grind
  obtain⟨O1,R1,G,l2,l3,V,X,l6⟩:=h.sep hk;have C:∀j,(M.g k).rd (Af w' M.ov) j=(M.g k).rd (Af w M.ov) j:=fun j=>by
   cases es:M.g k with
   |one v=>rfl
   |_=>rename_i b o;exact BE _ (f b (h.lt ⟨k,X _ _ es⟩)) _
  refine⟨rk,by simp_all,?_,fun u _ hu=>?_⟩;show loc (Af w' M.ov) rk.t (if k=n then s else M.g k) q=_
  rw[if_neg h0];exact CW q rk.t _ G hl (fun j _=>C j) (fun c j l=>BE _ (f c (h.lt ⟨k,V c l⟩)) j)
  ·cases s' with
   |one v=>exact hu
   |_=>
    rename_i b o;rw[<-hu];exact BE _ (f b (h.lt ⟨k,h.place hk hl⟩)) _
 ·refine h.pend.mono fun m p k r' e b o h5 h4 h3=>?_
  have h1:m≠n:=by grind
  obtain⟨O1,R1,G,l2,l3,V,X,l6⟩:=h.sep h4;refine⟨r',by simp_all,?_⟩;show loc (Af w' M.ov) r'.t (if m=n then s else M.g m) p=_
  rw[if_neg h1];refine CW p r'.t _ G h3 (fun j _=>?_) (fun c j l=>BE _ (f c (h.lt ⟨m,V c l⟩)) j);cases es:M.g m with
  |one v=>rfl
  |_=>rename_i b o;exact BE _ (f b (h.lt ⟨m,X _ _ es⟩)) _
 rcases A c l with g|g;exact h.mine c g;exact .inr (B4 h.size (Z c g));rw[E]at D;have L:pinned+i≠n:=by omega
 rw[if_neg L]at D;show(if pinned+i=n then s else M.g (pinned+i))=_
 rw[if_neg L];exact h.pins i b hb D
theorem sM.done{B U N tm w M}(h:sM B U N tm w M){n p d b o v}(G:U.pd=some (n,p,d))(l:M.ov=some (b,o,v)):
  sM B { U with pd:=none } N tm (w.setCell ⟨b,o,none⟩ v) ⟨M.g,M.ow,none⟩:=by
 have C:=h.pend;rw[G,l]at C;have⟨r,e,H,y⟩:=C;rw[<-l]at y;have x:=h.room H y;have z:Af (w.setCell ⟨b,o,none⟩ v) none=Af w M.ov:=by
  funext c j;rw[l];simp[Af];by_cases e:c=b/\j=o;obtain⟨rfl,rfl⟩:=e
  have:=(x.cell (o:=j) (by simp[Ty.cells])).1
  grind[D1,World.cell?_setCell_same];rw[if_neg e,World.cell?_setCell_other];grind
 have A:BB M b:=⟨n,h.place H y⟩;have f:∀c,Ba B w M c->Ba B (w.setCell ⟨b,o,none⟩ v) ⟨M.g,M.ow,none⟩ c:=fun c ⟨K,D,E⟩=>⟨by simp_all,D,E⟩;refine⟨fun m X S=>?_,h.norm,h.nodup,h.sV,fun m p C=>(h.live m p C).setCell _ _,fun i P=>?_,trivial,by simpa using h.size,fun c F L=>?_,h.mine,h.pins,h.still⟩;have⟨I,R,K,D,E⟩:=(h.roots m X S).rd;refine⟨I,R,?_,fun c F=>f c (D c F),E⟩;simp_all;show ZE (Af (w.setCell ⟨b,o,none⟩ v) none) M.g U.rt _ (U.sl i) (tm i);rw[z];exact(h.slots i P).frame fun a u O=>O.frame (fun _ _ _=>rfl) f fun k q V t s _ Q y=>⟨V,Q,y,fun _ _ T=>T⟩
 ·rw[MR,if_neg];exact h.frame c F L
  ·rintro rfl;rcases h.mine c A with g|g;all_goals grind
theorem sM.yP{B U N tm w M}(h:sM B U N tm w M)(hr:U.rt n=some ⟨false,.list true e,l⟩)(g7:n<pinned)(h7:U.pd=none){G:Nat->Bool}(hG:G n=false){v':Value}{l':List e.sK}{O2 R2}(h9:AL (Af w' M.ov) (.list true e) ((Src.one v').rd (Af w' M.ov))=some (l',O2,R2))(A:∀c j,c<w.heap.size->c∉(M.ow n).map (·.1)->(∀m,G m=true->c∉(M.ow m).map (·.1))->Af w' M.ov c j=Af w M.ov c j)(R:∀c∈O2.map (·.1),(c∈(M.ow n).map (·.1)\/∃m,G m=true/\c∈(M.ow m).map (·.1))\/w.heap.size<=c)(g6:(O2.map (·.1)).Nodup)(h5:∀p∈O2,BY w' p.1 p.2)(K:∀c k,BY w c k->BB M c->BY w' c k)(h0:w.heap.size<=w'.heap.size)(h3:∀b,b<B.size->¬ B.F b->w'.heap[b]?=B.hp b)(h2:∀c∈R2,c<w'.heap.size/\(B.S c\/B.F c\/B.size<=c)/\¬ BB M c/\c∉O2.map (·.1)){f:AV->AV}(hf:∀a,f a=.dead\/(f a=a/\∀k q,(a=.ptr k q\/a=.sref k q\/∃o l,a=.swin k q o l)->(k=n->a=.ptr n [])/\G k=false))(hio:Gr w'=Gr w:=by first|rfl|assumption):sM B ⟨(U.sJ f).sl,fun m=>if m=n then some ⟨false,.list true e,l'⟩else bif G m then none else U.rt m,none⟩ N tm w' ⟨fun m=>if m=n then .one v' else M.g m,fun m=>if m=n then O2 else bif G m then[]else M.ow m,M.ov⟩:=by
 let d:Nat->CI:=fun m=>if m=n then O2 else bif G m then[]else M.ow m
 have X:∀c,BB ⟨fun m=>if m=n then .one v' else M.g m,d,M.ov⟩ c->BB M c\/c∈O2.map (·.1):=by rintro c ⟨m,r⟩;have r:c∈(d m).map (·.1):=r;simp only[d]at r;split at r;simp_all;cases x:G m with|true=>simp_all|false=>rw[x]at r;exact .inl ⟨m,r⟩
 have T:∀c,c∈O2.map (·.1)->BB M c\/w.heap.size<=c:=fun c u=>(R c u).imp (fun g=>g.elim (fun g=>⟨n,g⟩) fun⟨m,_,g⟩=>⟨m,g⟩) id;have Y:∀c,Ba B w M c->Ba B w' ⟨fun m=>if m=n then .one v' else M.g m,d,M.ov⟩ c:=fun c ⟨E,g2,g3⟩=>⟨B3 E h0,g2,fun g4=>by grind⟩
 have Z:∀c j,Ba B w M c->Af w' M.ov c j=Af w M.ov c j:=fun c j u=>A c j u.1 (fun g=>u.2.2 ⟨n,g⟩) (fun m _ g=>u.2.2 ⟨m,g⟩);have z:∀m,m≠n->G m=false->∀c j,c∈(M.ow m).map (·.1)->Af w' M.ov c j=Af w M.ov c j:=fun m r hg c j u=>A c j (h.lt ⟨m,u⟩) (h.sV m n r c u) (fun k C=>h.sV m k (fun e=>by simp_all) c u)
 have g9:∀m,(if m=n then some (⟨false,.list true e,l'⟩:sP)else bif G m then none else U.rt m)=if m=n then some ⟨false,.list true e,l'⟩else bif G m then none else U.rt m:=fun _=>rfl
 have h1:∀k,k≠n->G k=false->∀q P tq s,U.rt k=some P->loc (Af w M.ov) P.t (M.g k) q=some (tq,s)->loc (Af w' M.ov) P.t (M.g k) q=some (tq,s)/\s.rd (Af w' M.ov) 0=s.rd (Af w M.ov) 0:=by(intro k C hg q P tq s L hl;have⟨O1,R1,l1,l2,l3,l4,l5,l6⟩:=h.sep L;have I:∀j,(M.g k).rd (Af w' M.ov) j=(M.g k).rd (Af w M.ov) j:=fun j=>by cases es:M.g k with|one v=>rfl|_=>rename_i b o;exact z k C hg b _ (l5 _ _ es));refine⟨CW q P.t _ l1 hl (fun j _=>I j) (fun c j u=>z k C hg c j (l4 c u)),?_⟩;cases s with|one v=>rfl|_=>rename_i b o;exact z k C hg b _ (h.place L hl)
 have⟨O0,R0,m1,m2,m3,m4,m5,m6⟩:=h.sep hr;have h4:∃v0,M.g n=.one v0:=by simp_all
 have⟨v0,h8⟩:=h4;refine⟨fun m rm r=>?_,fun m r=>?_,fun m=>?_,fun m m' h6 c u H=>?_,fun m p hp=>?_,fun i hi=>?_,?_,B4 h.size h0,h3,fun c u=>?_,fun i b hb D=>?_,hio.trans h.still⟩;have r:(if m=n then some (⟨false,.list true e,l'⟩:sP)else bif G m then none else U.rt m)=some rm:=r;by_cases e1:m=n;subst e1;simp at r;subst r;refine⟨O2,R2,?_,fun c u=>?_,.inr ⟨rfl,⟨v',by simp⟩,⟨e,rfl⟩,by simp⟩⟩;show AL (Af w' M.ov) (.list true e) ((if m=m then Src.one v' else M.g m).rd (Af w' M.ov))=_
 rw[if_pos rfl];exact h9;have⟨E,g2,g3,g4⟩:=h2 c u;refine⟨E,g2,fun g5=>?_⟩;grind;rw[if_neg e1]at r;cases x:G m with|true=>simp_all|false=>(rw[x]at r;have r:U.rt m=some rm:=r;have⟨O1,R1,l1,l2,l3,l4,l5,l6⟩:=h.sep r;refine⟨O1,R1,?_,fun c u=>Y c (l2 c u),by grind⟩;show AL (Af w' M.ov) rm.t ((if m=n then Src.one v' else M.g m).rd (Af w' M.ov))=_);rw[if_neg e1];refine AF rm.t l1 (fun j _=>?_) (fun c j u=>?_);(cases es:M.g m with|one v=>rfl|_=>rename_i b o;exact z m e1 x b _ (l5 _ _ es));grind
 have r:(if m=n then some (⟨false,.list true e,l'⟩:sP)else bif G m then none else U.rt m)=none:=r;show(if m=n then O2 else bif G m then[]else M.ow m)=[]
 by_cases e1:m=n;simp_all;rw[if_neg e1]at r|-;cases x:G m with|true=>rfl|false=>rw[x]at r;exact h.norm m r
 show((d m).map (·.1)).Nodup;simp[d];split;omega
 cases G m with|true=>simp|false=>exact h.nodup m
 have u:c∈(d m).map (·.1):=u;have H:c∈(d m').map (·.1):=H;have O:∀k,k≠n->c∈(d k).map (·.1)->G k=false/\c∈(M.ow k).map (·.1):=fun k C g=>by grind
 have k0:∀k,k≠n->c∈(d n).map (·.1)->c∈(d k).map (·.1)->False:=fun k C g Q=>by simp only[d,if_true]at g;have⟨g0,Q⟩:=O k C Q;rcases R c g with(E|⟨m,x,E⟩)|E;exact h.sV n k (Ne.symm C) c E Q;exact h.sV m k (fun e=>by grind) c E Q;have:=h.lt ⟨k,Q⟩;omega
 by_cases e1:m=n;grind;by_cases e2:m'=n;grind;exact h.sV m m' h6 c (O m e1 u).2 (O m' e2 H).2;have hp:p∈d m:=hp;simp[d]at hp;split at hp;simp_all;cases x:G m with|true=>simp_all|false=>rw[x]at hp;exact K _ _ (h.live m p hp) ⟨m,C2 hp⟩
 refine(h.slots i hi).sJ fun a v ha=>?_
 rcases hf a with g|⟨g,C⟩;rw[g];trivial;rw[g];by_cases hz:a=.ptr n [];subst hz;obtain⟨r',t,b,o,k1,k2,-⟩:=ha;rw[hr]at k1;simp at k1;subst k1;rw[h8]at k2;simp[loc,Cl]at k2;refine ha.frame Z Y fun k q P t s u L hl=>?_
 grind;have:=h.pend;rw[h7]at this;show Tq _ _ _ none M.ov;cases hov:M.ov with|none=>trivial|some y=>rw[hov]at this;exact this.elim
 rcases X c u with g|g;exact h.mine c g;rcases T c g with g|g;exact h.mine c g;exact .inr (B4 h.size g);have D:(if pinned+i=n then some (⟨false,.list true e,l'⟩:sP)else bif G (pinned+i)then none else U.rt (pinned+i))≠none:=D;have V:pinned+i≠n:=by omega
 rw[if_neg V]at D;show(if pinned+i=n then Src.one v' else M.g (pinned+i))=_
 rw[if_neg V];refine h.pins i b hb fun e'=>D ?_
 simp_all
theorem sM.top{B U N tm w M}(h:sM B U N tm w M)(L:U.rt n=some ⟨false,.list true e,l⟩)(C:n<pinned)(t:U.pd=none){v':Value}{l':List e.sK}{O2 R2}(E:AL (Af w' M.ov) (.list true e) ((Src.one v').rd (Af w' M.ov))=some (l',O2,R2))(r:∀c j,c<w.heap.size->c∉(M.ow n).map (·.1)->Af w' M.ov c j=Af w M.ov c j)(x:∀c∈O2.map (·.1),c∈(M.ow n).map (·.1)\/w.heap.size<=c)(A:(O2.map (·.1)).Nodup)(i:∀p∈O2,BY w' p.1 p.2)(d:∀c k,BY w c k->BB M c->BY w' c k)(D:w.heap.size<=w'.heap.size)(z:∀b,b<B.size->¬ B.F b->w'.heap[b]?=B.hp b)(y:∀c∈R2,c<w'.heap.size/\(B.S c\/B.F c\/B.size<=c)/\¬ BB M c/\c∉O2.map (·.1)){f:AV->AV}(I:∀a,f a=.dead\/(f a=a/\∀k q,(a=.ptr k q\/a=.sref k q\/∃o l,a=.swin k q o l)->k=n->a=.ptr n []))(hio:Gr w'=Gr w:=by first|rfl|assumption):sM B ((U.sJ f).sI n (some ⟨false,.list true e,l'⟩)) N tm w' ⟨fun m=>if m=n then .one v' else M.g m,fun m=>if m=n then O2 else M.ow m,M.ov⟩:=by have:=h.yP (G:=fun _=>false) L C t rfl E (fun c j u v _=>r c j u v) (fun c H=>(x c H).imp .inl id) A i d D z y (f:=f) (fun a=>(I a).imp id fun⟨u,v⟩=>⟨u,fun k q K=>⟨v k q K,rfl⟩⟩) hio;(have O:((U.sJ f).sI n (some ⟨false,.list true e,l'⟩))=⟨(U.sJ f).sl,fun m=>if m=n then some ⟨false,.list true e,l'⟩else bif (fun _=>false) m then none else U.rt m,none⟩:=by simp only[AE.sI,AE.sJ,t,cF];grind);simp_all
theorem Ci.one{t:Ty}{x:t.sK}(e:t.isAgg=false)(k:Cf v=true){R}(h:AL m t ((Src.one v).rd m)=some (x,[],R))(a:∀c∈R,Sh c)(b:t.cells=1):Ci m Sh t x v:=by(refine⟨fun g=>(by simp_all),fun _=>k,R,AF t h (fun j d=>?_) (fun _ _ _=>rfl),a⟩;have f:j=0:=by omega);subst f;cases v<;>first|rfl|cases k
theorem Ci.rd{m:DU}{Sh:Nat->Prop}{t:Ty}{x:t.sK}{v:Value}(h:Ci m Sh t x v)(b:t.isAgg=false)(d:t.cells=1):∃R,AL m t ((Src.one v).rd m)=some (x,[],R)/\∀c∈R,Sh c:=by(obtain⟨-,f,R,k,a⟩:=h;refine⟨R,AF t k (fun j e=>?_) (fun _ _ _=>rfl),a⟩;have g:j=0:=by omega);subst g;have:=f b;cases v<;>first|rfl|cases this
theorem Ay.int{m g rt Sh k}{n:Int}{v:Value}(h:Ay m g rt Sh (.val (.int k) n) v):v=.int k n:=by obtain⟨R,f,-⟩:=Ci.rd (t:=.int k) h rfl rfl;simp[AL,Src.rd]at f;grind
theorem Ay.bool{m g rt Sh}{b:Bool}(h:Ay m g rt Sh (.val .bool b) v):v=.bool b:=by obtain⟨R,f,-⟩:=Ci.rd (t:=.bool) h rfl rfl;simp[AL,Src.rd]at f;grind
theorem Ay.str{m g rt Sh}{l:List Int}{v:Value}(h:Ay m g rt Sh (.val .str l) v):∃s:ByteArray,v=.string s/\l=s.data.toList.map fun b=>(b.toNat:Int):=by obtain⟨R,f,-⟩:=Ci.rd (t:=.str) h rfl rfl;simp[AL,Src.rd]at f;grind
theorem Ay.tJ{m g rt Sh k}(n:Int):Ay m g rt Sh (.val (.int k) n) (.int k n):=Ci.one (t:=.int k) (R:=[]) rfl rfl (by simp[AL,Src.rd]) (by simp) rfl
theorem Ay.tH{m g rt Sh}(b:Bool):Ay m g rt Sh (.val .bool b) (.bool b):=Ci.one (t:=.bool) (R:=[]) rfl rfl (by rfl) (by simp) rfl
theorem Ay.vW{m g rt Sh}(s:ByteArray):Ay m g rt Sh (.val .str (s.data.toList.map fun b=>(b.toNat:Int):List Int)) (.string s):=Ci.one (t:=.str) (R:=[]) rfl rfl (by rfl) (by simp) rfl
def cL(U:AE)(a:AV):Prop:=∃k q,(a=.ptr k q\/a=.sref k q\/∃o l,a=.swin k q o l)/\U.rt k=none
structure Ev (B:Base) (w:World) (U:AE) (M:Gh) (U':AE) (M':Gh):Prop where
 ov:M'.ov=M.ov
 pd:U'.pd=U.pd
 shr:∀c,Ba B w M c->Ba B w M' c
 av:∀a v,Ay (Af w M.ov) M.g U.rt (Ba B w M) a v->Ay (Af w M.ov) M'.g U'.rt (Ba B w M') a v\/cL U' a
 dg:∀a,cL U a->cL U' a
theorem Ev.refl{B w U M}:Ev B w U M U M:=⟨rfl,rfl,fun _ h=>h,fun _ _ h=>.inl h,fun _ h=>h⟩
theorem Ev.trans{B w U M e M' b k}(h:Ev B w U M e M')(f:Ev B w e M' b k):Ev B w U M b k:=⟨f.ov.trans h.ov,f.pd.trans h.pd,fun c i=>f.shr c (h.shr c i),fun a v d=>by rcases h.av a v d with g|g;have:=f.av a v (by rw[h.ov];omega);rw[h.ov]at this;omega;exact .inr (f.dg a g),fun a d=>f.dg a (h.dg a d)⟩
theorem Ev.live{B w U M f M'}(h:Ev B w U M f M'){a v}(k:Ay (Af w M.ov) M.g U.rt (Ba B w M) a v\/cL U a):Ay (Af w M'.ov) M'.g f.rt (Ba B w M') a v\/cL f a:=by rw[h.ov];rcases k with g|g;exact h.av a v g;exact .inr (h.dg a g)
theorem Ev.zA{B w U M g M'}(h:Ev B w U M g M'){t x v}(hv:Ci (Af w M.ov) (Ba B w M) t x v):Ci (Af w M'.ov) (Ba B w M') t x v:=by rw[h.ov];exact hv.frame (fun _ _ _=>rfl) h.shr
theorem Ev.gone{B w U M}{f:AV->AV}:Ev B w U M ((U.sJ f).sI n none) ⟨M.g,fun m=>if m=n then[]else M.ow m,M.ov⟩:=by refine⟨rfl,rfl,fun c h=>sM.tT c h,fun a v d=>?_,fun a ⟨k,q,b,i⟩=>⟨k,q,b,?_⟩⟩;by_cases hd:∃k q,(a=.ptr k q\/a=.sref k q\/∃o l,a=.swin k q o l)/\k=n;obtain⟨k,q,b,rfl⟩:=hd;exact .inr ⟨k,q,b,by simp[AE.sI]⟩;exact .inl (d.other (n:=n) (fun c h=>sM.tT c h) (fun k j=>by simp_all[AE.sI,AE.sJ,a3w]) (fun _ _=>rfl) (fun k q h e=>hd ⟨k,q,h,e⟩));simp_all[AE.sI,AE.sJ]
theorem AR{U:AE}{n:Nat}{r:sP}(h:U.look n=some r):U.pd=none/\U.rt n=some r:=by grind[AE.look]
theorem sM.slice{B U N tm w M}(h:sM B U N tm w M){n p v r}(D:Ay (Af w M.ov) M.g U.rt (Ba B w M) (.sref n p) v)(q:U.rt n=some r)(F:Dc r.t r.x p=⟨.list true e,l⟩):∃s f k,loc (Af w M.ov) r.t (M.g n) p=some (.list true e,s)/\s.rd (Af w M.ov) 0=some v/\AL (Af w M.ov) (.list true e) (s.rd (Af w M.ov))=some (l,f,k)/\AL (Af w M.ov) (.list true e) ((Src.one v).rd (Af w M.ov))=some (l,f,k)/\(∀c∈k,Ba B w M c)/\(∀c∈f.map (·.1),c∈(M.ow n).map (·.1)):=by(have⟨Y,z,s,b,m,o⟩:=D;rw[q]at b;simp at b;subst b;have⟨O,P,G,H,T,I,V,X⟩:=h.sep q;have⟨y,f,k,A,L,K,u,i,a,Q,R⟩:=BT p r.t _ G m;rw[F]at a;have C:e=z:=by grind);(subst C;have a:=eq_of_heq (Sigma.mk.inj a).2;subst a;refine⟨s,f,k,m,o,i,AF _ i (fun j S=>?_) (fun _ _ _=>rfl),fun c E=>H c (by simp_all),fun c E=>I c (by simp_all)⟩;have d:j=0:=by simp_all[Ty.cells]);subst d;rw[o];rfl
theorem sM.window{B U N tm w M}(h:sM B U N tm w M){n p v r off f}(z:Ay (Af w M.ov) M.g U.rt (Ba B w M) (.swin n p off f) v)(q:U.rt n=some r)(C:Dc r.t r.x p=⟨.list true e,l⟩):∃s d i a k c,loc (Af w M.ov) r.t (M.g n) p=some (.list true e,s)/\s.rd (Af w M.ov) 0=some (.slice a k c)/\AL (Af w M.ov) (.list true e) ((Src.one (.slice a k c)).rd (Af w M.ov))=some (l,d,i)/\(∀c∈i,Ba B w M c)/\(∀c∈d.map (·.1),c∈(M.ow n).map (·.1))/\off+f<=k/\∃j,v=.slice j f (c-off)/\(∀A,j=some A->c=off\/A.spot=none)/\(c=off\/j=a.map fun A=>A.add (off*e.cells)):=by have⟨E,u,s,a,k,c,b,o,y,K,L⟩:=z;have D:Ay (Af w M.ov) M.g U.rt (Ba B w M) (.sref n p) (.slice a k c):=⟨E,u,s,b,o,y⟩;obtain⟨O,d,i,m,F,-,G,H,I⟩:=h.slice D q C;rw[q]at b;simp at b;subst b;rw[o]at m;simp at m;obtain⟨rfl,rfl⟩:=m;grind
theorem pZ{x:List e.sK}{O R}(h:AL m (.list true e) ((Src.one v).rd m)=some (x,O,R)):Cf v=true:=by rcases Ct h with⟨g,-⟩|⟨A,n,c,f,g,-⟩<;>simp only[Src.rd,if_true,sj]at g<;>rw[g]<;>rfl
theorem Ci.empty{m Sh e}{a:Option Addr}:Ci m Sh (.list false e) ([]:List e.sK) (.slice a 0 0):=by refine Ci.one (t:=.list false e) (R:=[]) rfl rfl ?_ (by simp) rfl;show Cq m false e.cells (AL m e) (some (.slice a 0 0))=_;cases a with|none=>rfl|some A=>rfl
theorem Ci.wN{m Sh e}:Ci m Sh (.nl e) ([]:List e.sK) (.slice none 0 0):=Ci.one (t:=.nl e) (R:=[]) rfl rfl rfl (by simp) rfl
theorem Ci.wI{m:DU}{g:Nat->Src}{rt:Nat->Option sP}{Sh:Nat->Prop}{v:Value}:∀{t:Ty}{x:t.sK},Ci m Sh t x v->Ay m g rt Sh (wI t x) v|.nl e,x,h=>(by(obtain⟨-,f,R,k,-⟩:=h;have f:=f rfl;simp only[AL]at k;split at k;rename_i b;have a:v=.slice none 0 0:=by cases v<;>first|(cases f;done)|(simp[Value.cells]at b;done)|(simpa[Value.cells]using b));subst a;exact rfl;cases k)|.int _,_,h|.bool,_,h|.str,_,h|.unit,_,h|.list _ _,_,h|.pair _ _,_,h|.arr _ _,_,h=>h
theorem sM.vR{B U N tm w M}(h:sM B U N tm w M){n p v r}(b:Ay (Af w M.ov) M.g U.rt (Ba B w M) (.sref n p) v)(j:U.rt n=some r)(i:Dc r.t r.x p=⟨.list true e,l⟩):Ci (Af w M.ov) (fun c=>Ba B w M c\/c∈(M.ow n).map (·.1)) (.list false e.sh) (Ty.wE (.list false e) l) v:=by have⟨s,q,u,z,A,C,f,k,a⟩:=h.slice b j i;have⟨y,m,o⟩:=Ol _ f;exact Ci.one (t:=.list false e.sh) rfl (pZ f) m (fun c d=>(o c d).elim (fun g=>.inr (a c g)) (fun g=>.inl (k c g))) rfl
theorem sM.vS{B U N tm w M}(h:sM B U N tm w M){n p v r off f}(m:Ay (Af w M.ov) M.g U.rt (Ba B w M) (.swin n p off f) v)(u:U.rt n=some r)(q:Dc r.t r.x p=⟨.list true e,l⟩):Ci (Af w M.ov) (fun c=>Ba B w M c\/c∈(M.ow n).map (·.1)) (.list false e.sh) (Ty.wE (.list false e) ((l.drop off).take f)) v:=by obtain⟨s,A,C,a,H,c,F,G,k,b,d,i,E,rfl,j,g8⟩:=h.window m u q;have⟨D,y,z⟩:=b2U k i j g8;exact Ci.one (t:=.list false e.sh) rfl rfl y (fun c o=>(z c o).elim (fun g=>.inr (d c g)) (fun g=>.inl (b c g))) rfl
theorem Ty.yC:∀(a b:Ty),a.le b=true->a.isAgg=b.isAgg|.nl a,.list o b,_|.nl a,.nl b,_|.pair a b,.pair g f,_=>rfl|.nl a,.int _,h|.nl a,.bool,h|.nl a,.str,h|.nl a,.unit,h|.nl a,.pair _ _,h|.nl a,.arr _ _,h=>by simp[Ty.le]at h|.pair a b,.int _,h|.pair a b,.bool,h|.pair a b,.str,h|.pair a b,.unit,h|.pair a b,.arr _ _,h|.pair a b,.list _ _,h|.pair a b,.nl _,h=>by simp[Ty.le]at h|.int _,b,h|.bool,b,h|.str,b,h|.unit,b,h|.list _ _,b,h|.arr _ _,b,h=>by simp only[Ty.le,dT]at h;rw[h]
theorem ZG{g t:Ty}{x:g.sK}{y:t.sK}{rd:Nat->Option Value}{R:List Nat}(f:tF g t x=some y)(h:AL m g rd=some (x,[],R)):AL m t rd=some (y,[],R):=by grind[tF,b0C]
theorem a3x{h t:Ty}{x:h.sK}{y:t.sK}(g:tF h t x=some y):h.isAgg=t.isAgg/\h.cells=t.cells:=by unfold tF at g;split at g;simp_all;grind[Ty.yC,Ty.vI]
theorem Ci.tF{m:DU}{Sh:Nat->Prop}{f t:Ty}{x:f.sK}{y:t.sK}{v:Value}(k:tF f t x=some y)(h:Ci m Sh f x v):Ci m Sh t y v:=by have⟨i,b,R,c,d⟩:=h;have⟨a,e⟩:=a3x k;exact⟨fun g=>by simp_all,fun g=>b (a.trans g),R,ZG k c,d⟩
theorem sM.view{Z:Type}{B U N tm w M}(h:sM B U N tm w M){t a v}{K:t.sK->Rs Z}{z:Z}(d:Ay (Af w M.ov) M.g U.rt (Ba B w M) a v\/cL U a)(f:U.view t a K=some z):
  ∃x,K x=some z/\Ci (Af w M.ov) (fun c=>Ba B w M c\/(BB M c/\U.pd=none)) t x v:=by
 have G:∀b,(∀k q,(b=.ptr k q\/b=.sref k q\/∃o l,b=.swin k q o l)->False)->¬ cL U b:=fun b hb ⟨k,q,D,_⟩=>hb k q D;cases a with
 |tZ g=>
  simp_all[AE.view]
 |val H x=>
  simp[AE.view]at f;split at f;rename_i y F;rcases d with d|d;exact⟨y,f,Ci.frame (Ci.tF F d) (fun _ _ _=>rfl) (fun c i=>.inl i)⟩;simp_all;simp_all
 |nils=>
  rcases d with rfl|d;cases t<;>simp only[AE.view]at f<;>try cases f
  rename_i o e;cases o;exact⟨[],f,Ci.empty⟩;cases f;exact⟨_,f,Ci.wN⟩;simp_all
 |empt=>
  cases t<;>simp only[AE.view]at f<;>try cases f
  rename_i o e;cases o
  ·rcases d with⟨A,rfl⟩|d;all_goals grind[Ci.empty]
  simp_all
 |sref n p=>
  simp[AE.view]at f;split at f;rename_i r m;have⟨j,m⟩:=AR m;split at f;rename_i e l u;split at f;rename_i C;subst C;rcases d with d|⟨k,q,i,E⟩;exact⟨_,f,(h.vR d m u).frame (fun _ _ _=>rfl) (fun c i=>i.imp id fun g=>⟨⟨n,g⟩,j⟩)⟩;simp_all;simp_all;simp_all;simp_all
 |swin n p o k=>
  simp[AE.view]at f;split at f;rename_i r m;have⟨j,m⟩:=AR m;split at f;rename_i e l u;split at f;rename_i C;subst C;rcases d with d|⟨k,q,i,E⟩;exact⟨_,f,(h.vS d m u).frame (fun _ _ _=>rfl) (fun c i=>i.imp id fun g=>⟨⟨n,g⟩,j⟩)⟩;simp_all;simp_all;simp_all;simp_all
 |dead|skp|nilp|ptr|vptr=>cases f
theorem sM.yQ{B U N tm w M}(h:sM B U N tm w M){t a v}{K:t.sK->Rs Z}(d:Ay (Af w M.ov) M.g U.rt (Ba B w M) a v\/cL U a)(f:U.view t a K=some z):
  ∃x,K x=some z/\Ci (Af w M.ov) (fun c=>Ba B w M c\/∃n,n∈a.sU/\c∈(M.ow n).map (·.1)) t x v:=by
 have G:∀b,(∀k q,(b=.ptr k q\/b=.sref k q\/∃o l,b=.swin k q o l)->False)->¬ cL U b:=fun b hb ⟨k,q,D,_⟩=>hb k q D;cases a with
 |tZ g=>
  simp_all[AE.view]
 |val H x=>
  simp[AE.view]at f;split at f;rename_i y F;rcases d with d|d;exact⟨y,f,Ci.frame (Ci.tF F d) (fun _ _ _=>rfl) (fun c i=>.inl i)⟩;simp_all;simp_all
 |nils=>
  rcases d with rfl|d;cases t<;>simp only[AE.view]at f<;>try cases f
  rename_i o e;cases o;exact⟨[],f,Ci.empty⟩;cases f;exact⟨_,f,Ci.wN⟩;simp_all
 |empt=>
  cases t<;>simp only[AE.view]at f<;>try cases f
  rename_i o e;cases o
  ·rcases d with⟨A,rfl⟩|d;all_goals grind[Ci.empty]
  simp_all
 |sref n p=>
  simp[AE.view]at f;split at f;rename_i r j;have⟨u,j⟩:=AR j;split at f;rename_i e l m;split at f;rename_i C;subst C;rcases d with d|⟨k,q,i,E⟩;exact⟨_,f,(h.vR d j m).frame (fun _ _ _=>rfl) (fun c i=>i.imp id fun g=>⟨n,by simp[AV.sU],g⟩)⟩;simp_all;simp_all;simp_all;simp_all
 |swin n p o k=>
  simp[AE.view]at f;split at f;rename_i r j;have⟨u,j⟩:=AR j;split at f;rename_i e l m;split at f;rename_i C;subst C;rcases d with d|⟨k,q,i,E⟩;exact⟨_,f,(h.vS d j m).frame (fun _ _ _=>rfl) (fun c i=>i.imp id fun g=>⟨n,by simp[AV.sU],g⟩)⟩;simp_all;simp_all;simp_all;simp_all
 |dead|skp|nilp|ptr|vptr=>cases f
def Jf(V:Nat->Prop)(U:AE)(M:Gh)(U':AE)(M':Gh):Prop:=(∀n r,r.bx=true\/¬ V n->U.rt n=some r->U'.rt n=some r/\M'.g n=M.g n/\M'.ow n=M.ow n)/\∀(j:Nat) t y,U.get j=.val t y->U'.get j=.val t y
theorem Jf.refl{V U M}:Jf V U M U M:=⟨fun _ _ _ h=>⟨h,rfl,rfl⟩,fun _ _ _ h=>h⟩
theorem Jf.trans{V U M k M' f g}(h:Jf V U M k M')(d:Jf V k M' f g):Jf V U M f g:=⟨fun n r hb i=>by have⟨a,b,c⟩:=h.1 n r hb i;have⟨l,m,o⟩:=d.1 n r hb a;simp_all,fun j t y e=>d.2 j t y (h.2 j t y e)⟩
theorem Jf.mono{V k:Nat->Prop}{U M f M'}(h:Jf V U M f M')(hv:∀n,V n->k n):Jf k U M f M':=⟨fun n r hb=>h.1 n r (hb.imp id fun g a=>g (hv n a)),h.2⟩
theorem Jf.gone{U:AE}{M:Gh}(d:U.rt n=some r)(hb:r.bx=false)(f:AV->AV)(ov)(b:∀t y,f (.val t y)=.val t y):Jf (·∈[n]) U M ((U.sJ f).sI n none) ⟨M.g,fun m=>if m=n then[]else M.ow m,ov⟩:=by(refine⟨fun m i k h=>?_,fun j t y c=>?_⟩;have a:m≠n:=by grind);(have e:(m==n)=false:=by simp_all);exact⟨by simp[AE.sI,AE.sJ,e,h],rfl,by simp_all⟩;grind[AE.get,AE.sI,AE.sJ,SV.sJ]
theorem sM.yA{B U N tm w M}(h:sM B U N tm w M){q t a v}{K:t.sK->AE->Rs Z}(i:Ay (Af w M.ov) M.g U.rt (Ba B w M) a v\/cL U a)(f:U.uT q t a K=some z):∃x C M',K x C=some z/\sM B C N tm w M'/\Ci (Af w M'.ov) (Ba B w M') t x v/\Ev B w U M C M'/\(q=true->C=U/\M'=M)/\Jf (·∈a.sU) U M C M':=by have P:∀b,(∀k q,(b=.ptr k q\/b=.sref k q\/∃o l,b=.swin k q o l)->False)->¬ cL U b:=fun b hb ⟨k,q,I,_⟩=>hb k q I;cases a with|tZ g=>simp_all[AE.uT]|val Q x=>(simp[AE.uT]at f;split at f;rename_i y O;rcases i with i|i;exact⟨y,U,M,f,h,Ci.tF O i,Ev.refl,fun _=>⟨rfl,rfl⟩,Jf.refl⟩;simp_all;simp_all)|nils=>((rcases i with rfl|i;cases t<;>simp only[AE.uT]at f<;>try cases f);rename_i o e;cases o;exact⟨[],U,M,f,h,Ci.empty,Ev.refl,fun _=>⟨rfl,rfl⟩,Jf.refl⟩;cases f;exact⟨_,U,M,f,h,Ci.wN,Ev.refl,fun _=>⟨rfl,rfl⟩,Jf.refl⟩;simp_all)|empt=>((cases t<;>simp only[AE.uT]at f<;>try cases f);rename_i o e;cases o;rcases i with⟨A,rfl⟩|i;exact⟨[],U,M,f,h,Ci.empty,Ev.refl,fun _=>⟨rfl,rfl⟩,Jf.refl⟩;simp_all;simp_all)|sref n p=>(cases p with|cons=>simp_all[AE.uT]|nil=>simp only[AE.uT]at f;split at f;grind;rename_i F;split at f;rename_i e l j;have⟨E,j⟩:=AR j;split at f;rename_i G;subst G;rcases i with i|⟨k,q,D,L⟩;have H:=h.vR i j rfl;refine⟨_,_,_,f,h.xH j (by simp_all),H.frame (fun _ _ _=>rfl) (fun c D=>?_),Ev.gone,fun e=>absurd e F,Jf.gone j rfl _ _ (fun _ _=>rfl)⟩;rcases D with g|g;exact sM.tT c g;have d:BB M c:=⟨n,g⟩;refine⟨h.lt d,.inr (h.mine c d),fun⟨m,r⟩=>?_⟩;have r:c∈(if m=n then[]else M.ow m).map (·.1):=r;split at r;simp_all;rename_i u;exact h.sV m n u c r g;simp_all;simp_all;simp_all)|swin n p o k=>(cases p with|cons=>simp_all[AE.uT]|nil=>simp only[AE.uT]at f;split at f;grind;rename_i F;split at f;rename_i e l j;have⟨E,j⟩:=AR j;split at f;rename_i G;subst G;rcases i with i|⟨k,q,D,L⟩;have H:=h.vS i j rfl;refine⟨_,_,_,f,h.xH j (by simp_all),H.frame (fun _ _ _=>rfl) (fun c D=>?_),Ev.gone,fun e=>absurd e F,Jf.gone j rfl _ _ (fun _ _=>rfl)⟩;rcases D with g|g;exact sM.tT c g;have d:BB M c:=⟨n,g⟩;refine⟨h.lt d,.inr (h.mine c d),fun⟨m,r⟩=>?_⟩;have r:c∈(if m=n then[]else M.ow m).map (·.1):=r;split at r;simp_all;rename_i u;exact h.sV m n u c r g;simp_all;simp_all;simp_all)|dead|skp|nilp|ptr|vptr=>cases f
theorem sM.uT{Z:Type}{B U N tm w M}(h:sM B U N tm w M){q t a v}{K:t.sK->AE->Rs Z}{z:Z}(b:Ay (Af w M.ov) M.g U.rt (Ba B w M) a v\/cL U a)(k:U.uT q t a K=some z):∃x f M',K x f=some z/\sM B f N tm w M'/\Ci (Af w M'.ov) (Ba B w M') t x v/\Ev B w U M f M'/\(q=true->f=U/\M'=M):=by obtain⟨x,f,M',c,d,e,i,j,-⟩:=h.yA b k;grind
def ER:Ty->(Nat->Option Value)->Bool|.int k,rd=>(match rd 0 with|some (.int k' n)=>A3 (k'=k)&&n==0|_=>false)|.bool,rd=>(match rd 0 with|some (.bool b)=>!b|_=>false)|.str,rd=>(match rd 0 with|some (.string s)=>s.size==0|_=>false)|.unit,_=>true|.pair a b,rd=>ER a rd&&ER b (fun j=>rd (a.cells+j))|.arr n t,rd=>((D3 n).all fun i=>ER t fun j=>rd (i*t.cells+j))|.list _ _,rd=>(match rd 0 with|some (.slice none 0 0)=>true|_=>false)|.nl _,rd=>match rd 0 with|some (.slice none 0 0)=>true|_=>false
theorem SB{α:Type}{f:Nat->Option (α×CI×List Nat)}{x:α}:∀(n i:Nat),(∀j,i<=j->j<i+n->f j=some (x,[],[]))->Ak f n i=some (B7 n x,[],[])|0,_,_=>rfl|n+1,i,h=>by simp only[Ak,h i (C0 _) (by omega),SB n (i+1) (fun j g k=>h j (by omega) (by omega))];rfl
theorem Ki{m:DU}:∀(t:Ty){rd:Nat->Option Value},ER t rd=true->AL m t rd=some (t.dflt,[],[])|.int k,rd,h=>by simp[ER]at h;split at h;rename_i d n g;simp at h;simp only[AL,g,h.1,if_true,h.2];rfl;simp_all|.bool,rd,h=>by simp[ER]at h;split at h;rename_i b g;simp at h;simp only[AL,g,h];rfl;simp_all|.str,rd,h=>by(simp[ER]at h;split at h;rename_i s g;have f:s.data.toList=[]:=by simp_all);simp only[AL,g,f];rfl;simp_all|.unit,rd,h=>rfl|.pair a b,rd,h=>by simp only[ER,bA]at h;exact Mx (Ki a h.1) (Ki b h.2)|.arr n t,rd,h=>(by simp only[ER,lA,List.mem_range]at h;exact SB n 0 fun j _ c=>Ki t (h j (by omega)))|.list o t,rd,h=>by simp[ER]at h;split at h;rename_i g;show Cq m o t.cells (AL m t) (rd 0)=_;rw[g];rfl;simp_all|.nl t,rd,h=>by simp[ER]at h;split at h;rename_i g;simp only[AL,g];rfl;simp_all
def Mi(P:Program)(τ:Ty)(t:TypeId):Bool:=match P.info? t with|some i=>i.size==τ.cells&&A3 (i.bytes<=32768)&&(match i.zero with|some z=>z.cells.size==τ.cells&&ER τ (fun j=>z.cells[j]?)&&(match z with|.agg _=>τ.isAgg|_=>!τ.isAgg)|none=>false)|none=>false
def AQ(P:Program):Ty->TypeId ⊕ (List Field×Nat)->Bool|.int k,.inl t=>Mi P (.int k) t&&(match P.underlying t with|some (.int k')=>A3 (k'=k)|_=>false)|.bool,.inl t=>Mi P .bool t&&(match P.underlying t with|some .bool=>true|_=>false)|.str,.inl t=>Mi P .str t&&(match P.underlying t with|some .string=>true|_=>false)|.list o e,.inl t=>Mi P (.list o e) t&&(match P.underlying t with|some (.slice t')=>AQ P e (.inl t')&&A3 (0<e.cells)|_=>false)|.nl e,.inl t=>Mi P (.nl e) t&&(match P.underlying t with|some (.slice t')=>AQ P e (.inl t')&&A3 (0<e.cells)|_=>false)|.arr n e,.inl t=>Mi P (.arr n e) t&&(match P.underlying t with|some (.array n' t')=>n'==n&&AQ P e (.inl t')&&A3 (0<e.cells)|_=>false)|.pair a b,.inl t=>Mi P (.pair a b) t&&(match P.underlying t with|some (.struct fs)=>(match fs.toList with|f::r=>f.offset==0&&AQ P a (.inl f.type)&&A3 (0<a.cells)&&AQ P b (.inr (r,a.cells))|[]=>false)|_=>false)|.unit,.inl t=>Mi P .unit t&&(match P.underlying t with|some (.struct fs)=>fs.isEmpty|_=>false)|.pair a b,.inr (f::r,off)=>f.offset==off&&AQ P a (.inl f.type)&&A3 (0<a.cells)&&AQ P b (.inr (r,off+a.cells))|.unit,.inr ([],_)=>true|_,.inr _=>false
theorem AS(h:AQ P τ (.inl t)=true):Mi P τ t=true:=by cases τ<;>simp only[AQ,bA]at h<;>exact h.1
structure vH (P:Program) (τ:Ty) (t:TypeId) where
 i:TypeInfo
 z:Value
 info:P.info? t=some i
 size:i.size=τ.cells
 bytes:i.bytes<=32768
 zero:i.zero=some z
 vB:z.cells.size=τ.cells
 zok:ER τ (fun j=>z.cells[j]?)=true
 zagg:∀cs,z=.agg cs->τ.isAgg=true
 znot:(∀cs,z≠.agg cs)->τ.isAgg=false
theorem AK(h:Mi P τ t=true):Nonempty (vH P τ t):=by
 unfold Mi at h;split at h
 ·rename_i i b;simp at h;have⟨⟨g,f⟩,h3⟩:=h;split at h3
  ·rename_i z d;simp at h3;have⟨⟨k,a⟩,h6⟩:=h3;refine⟨⟨i,z,b,g,f,d,k,a,fun j e=>?_,fun c=>?_⟩⟩;all_goals simp_all
  simp_all
 simp_all
theorem Mj(h:AQ P τ (.inl t)=true)(w:World):(isAgg t).run P w=.ok τ.isAgg w:=by cases τ<;>simp only[AQ,bA]at h<;>obtain⟨-,h⟩:=h<;>split at h<;>first|(rename_i g;simp[isAgg,run_underlying g,Ty.isAgg];done)|cases h
theorem vH.sizeOf{P:Program}{τ:Ty}{t:TypeId}(I:vH P τ t)(w:World):(sizeOf t).run P w=.ok τ.cells w:=by simp[Go.sizeOf,typeInfo,I.info,I.size]
theorem vH.typeInfo{P:Program}{τ:Ty}{t:TypeId}(I:vH P τ t)(w:World):(typeInfo t).run P w=.ok I.i w:=by simp[Go.typeInfo,I.info]
theorem vH.zeroValue{P:Program}{τ:Ty}{t:TypeId}(I:vH P τ t)(w:World):(zeroValue t).run P w=.ok I.z w:=by simp[Go.zeroValue,Go.typeInfo,I.info,I.zero]
theorem Kj{m:DU}:∀(t:Ty){rd:Nat->Option Value}{x o r},AL m t rd=some (x,o,r)->∀j,j<t.cells->∃v,rd j=some v/\Cf v=true|.int k,rd,x,o,r,h,j,f=>by(have g:j=0:=by simp_all[Ty.cells]);subst g;simp[AL]at h;split at h;rename_i c;exact⟨_,c,rfl⟩;simp_all|.bool,rd,x,o,r,h,j,f=>by(have g:j=0:=by simp_all[Ty.cells]);subst g;simp[AL]at h;split at h;rename_i c;exact⟨_,c,rfl⟩;simp_all|.str,rd,x,o,r,h,j,f=>by(have g:j=0:=by simp_all[Ty.cells]);subst g;simp[AL]at h;split at h;rename_i c;exact⟨_,c,rfl⟩;simp_all|.unit,rd,x,o,r,h,j,f=>by simp[Ty.cells]at f|.pair a b,rd,x,o,r,h,j,f=>(by obtain⟨I,D,G,K,E,H,d,e,-⟩:=CK h;by_cases hja:j<a.cells;exact Kj a d j hja;have:=Kj b e (j-a.cells) (by simp only[Ty.cells]at f;omega);rwa [show a.cells+(j-a.cells)=j from by omega]at this)|.arr n t,rd,x,o,r,h,j,f=>(by(have h:Ak (fun i=>AL m t fun j=>rd (i*t.cells+j)) n 0=some (x,o,r):=h;simp[Ty.cells]at f;have l:0<t.cells:=by grind);have q:j / t.cells<n:=Nat.div_lt_of_lt_mul (by grind);obtain⟨y,C,F,A,B,w,z,p,-⟩:=Bb n 0 (j / t.cells) h q;have:=Kj t p (j%t.cells) (Nat.mod_lt _ l);simp_all[Nat.div_add_mod'])|.list u t,rd,x,o,r,h,j,f=>by(have g:j=0:=by simp_all[Ty.cells]);subst g;have h:Cq m u t.cells (AL m t) (rd 0)=some (x,o,r):=h;unfold Cq at h;split at h;rename_i c;exact⟨_,c,rfl⟩;rename_i c;exact⟨_,c,rfl⟩;simp_all|.nl t,rd,x,o,r,h,j,f=>by(have g:j=0:=by simp_all[Ty.cells]);subst g;exact⟨_,(pV h).1,rfl⟩
theorem UM{t:Ty}(h:t.isAgg=false):t.cells=1:=by cases t<;>first|rfl|cases h
theorem UN{o:Nat}{x R}(n:AQ P τ (.inl t)=true)(h:AL m τ ((Src.at b o).rd m)=some (x,[],R))(y:∀j,j<τ.cells->w.cell? ⟨b,o+j,none⟩=m b (o+j))(p:∀c∈R,Sh c):∃v,(Instr.loadAt t (.pointer (some ⟨b,o,none⟩))).run P w=.ok v w/\Ci m Sh τ x v:=by have⟨I⟩:=AK (AS n);have f:=Kj τ h;cases hagg:τ.isAgg with|false=>(have r:=UM hagg;have⟨v,q,z⟩:=f 0 (by omega);have C:w.cell? ⟨b,o,none⟩=some v:=by have:=y 0 (by omega);simp at this;rw[this];exact q);(refine⟨v,?_,Ci.one hagg z (AF τ h (fun j a=>?_) (fun _ _ _=>rfl)) p r⟩;simp[Instr.loadAt,Instr.sureAddr,loadVar,Mj n,hagg,C];have l:j=0:=by omega);subst l;rw[q];rfl|true=>(let k:List Value:=(D3 τ.cells).map fun j=>(m b (o+j)).getD undef);(have i:∀j v,k[j]?=some v->w.cell? ((⟨b,o,none⟩:Addr).add j)=some v:=by(intro j v a;simp only[k,D7]at a;have d:j<τ.cells:=by grind);rw[List.getElem?_range d]at a;simp at a;obtain⟨u,A,-⟩:=f j d;have B:m b (o+j)=some u:=A;simp_all[Addr.add_lit]);(have e:k.length=τ.cells:=by grind);refine⟨.agg k.toArray,?_,fun _=>⟨_,rfl,by omega⟩,fun g=>(by simp_all),R,?_,p⟩;have:=run_loadCells_list (P:=P) w ⟨b,o,none⟩ k i;rw[e]at this;simp[Instr.loadAt,Instr.sureAddr,loadVar,Mj n,hagg,I.sizeOf,this];refine AF τ h (fun j a=>?_) (fun _ _ _=>rfl);grind[Value.cells,Src.rd]
theorem Ci.cells{m Sh}{τ:Ty}{x:τ.sK}{v:Value}(h:Ci m Sh τ x v):v.cells.size=τ.cells/\∀u∈v.cells.toList,Cf u=true:=by(have⟨k,a,R,d,e⟩:=h;have f:v.cells.size=τ.cells:=by cases hagg:τ.isAgg with|true=>(obtain⟨c,rfl,g⟩:=k hagg;exact g)|false=>have:=a hagg;rw[UM hagg];cases v<;>first|rfl|cases this);refine⟨f,fun u b=>?_⟩;obtain⟨j,i,rfl⟩:=List.getElem_of_mem b;grind[Kj]
theorem LL(h:Cf v=true):v.oneCell'=true:=by cases v<;>first|rfl|cases h
theorem Eo(b:Nat):∀(g:List Value)(o:Nat)(w:World)(c:Nat),c≠b->(w.setCells b o g).heap[c]?=w.heap[c]?|[],_,_,_,_=>rfl|v::r,o,w,c,h=>by rw[World.setCells,Eo b r (o+1) _ c h,MR,if_neg h]
theorem IL(b:Nat):∀(h:List Value)(o:Nat)(w:World),(w.setCells b o h).heap.size=w.heap.size|[],_,_=>rfl|v::r,o,w=>by rw[World.setCells,IL b r (o+1),World.size_setCell]
theorem BY.setCells{g k:Nat}(b:Nat):∀(f:List Value)(o:Nat){w:World},BY w g k->BY (w.setCells b o f) g k|[],_,_,h=>h|_::r,o,_,h=>BY.setCells b r (o+1) (h.setCell _ _)
theorem Lb(b:Nat):∀(h:List Value)(o:Nat)(w:World)(k:Nat),BY w b k->o+h.length<=k->∀c j,
  (w.setCells b o h).cell? ⟨c,j,none⟩=if c=b/\o<=j/\j<o+h.length then h[j-o]? else w.cell? ⟨c,j,none⟩
 | [],o,w,k,g,f,c,j=>by
  rw[if_neg (by simp)];rfl
 |v::r,o,w,k,g,f,c,j=>by
  simp at f;rw[World.setCells,Lb b r (o+1) _ k (g.setCell _ _) (by omega) c j];by_cases h1:c=b/\o+1<=j/\j<o+1+r.length;grind
  ·rw[if_neg h1];by_cases h2:c=b/\j=o;obtain⟨rfl,rfl⟩:=h2;have⟨u,a⟩:=D1.1 (g.cell (o:=j) (by omega)).1;rw[World.cell?_setCell_same _ _ _ a,if_pos ⟨rfl,C0 _,by simp⟩]
   simp
   ·rw[World.cell?_setCell_other,if_neg];all_goals grind
theorem cM{o:Nat}(d:AQ P τ (.inl t)=true)(f:v.cells.size=τ.cells)(a:∀u∈v.cells.toList,Cf u=true)(h:BY w b k)(i:o+τ.cells<=k):(Instr.storeAt t (.pointer (some ⟨b,o,none⟩)) v).run P w=.ok () (w.setCells b o v.cells.toList):=by(have⟨I⟩:=AK (AS d);have g:v.cells.toList.length=τ.cells:=by omega);have:=run_storeCells_cells (P:=P) b o v.cells.toList 0 w (fun j c=>(h.cell (o:=o+0+j) (by omega)).1) (fun j c=>(h.cell (o:=o+0+j) (by omega)).2) (fun u e=>LL (a u e));simp[Instr.storeAt,Instr.sureAddr,storeVar,I.sizeOf,f];omega
theorem jQ{m Sh}{x:τ.sK}{o:Nat}(f:AQ P τ (.inl t)=true)(hv:Ci m Sh τ x v)(h:BY w b k)(g:o+τ.cells<=k):(Instr.storeAt t (.pointer (some ⟨b,o,none⟩)) v).run P w=.ok () (w.setCells b o v.cells.toList):=cM f hv.cells.1 hv.cells.2 h g
theorem UO{P:Program}:∀(f:Nat)(τ:Ty)(fs:List Field)(off:Nat),AQ P τ (.inr (fs,off))=true->Di τ f=true->∃g τ' k,fs[f]?=some g/\g.offset=off+k/\AQ P τ' (.inl g.type)=true/\0<τ'.cells/\∀(m:DU) b o,loc m τ (.at b o) (BD f)=some (τ',.at b (o+k))|0,τ,fs,off,h,c=>(by cases τ with|pair a b=>(cases fs with|nil=>simp[AQ]at h|cons g r=>simp[AQ]at h;exact⟨g,a,0,rfl,by omega,h.1.1.2,h.1.2,fun _ _ _=>rfl⟩)|_=>simp[Di]at c)|f+1,τ,fs,off,h,c=>by cases τ with|pair a b=>(cases fs with|nil=>simp[AQ]at h|cons g r=>simp only[AQ,bA]at h;have⟨d,τ',k,n,p,i,j,l⟩:=UO f b r (off+a.cells) h.2 c;exact⟨d,τ',a.cells+k,by simp_all,by omega,i,j,fun m e o=>by have:=l m e (o+a.cells);rw[show o+a.cells+k=o+(a.cells+k)from by omega]at this;exact this⟩)|_=>simp[Di]at c
theorem SC{P:Program}{τ:Ty}{t:TypeId}{f:Nat}(h:AQ P τ (.inl t)=true)(g:Di τ f=true):∃fs:Array Field,P.underlying t=some (.struct fs)/\AQ P τ (.inr (fs.toList,0))=true:=by cases τ with|pair a b=>simp[AQ]at h;grind[AQ]|_=>cases f<;>simp[Di]at g
theorem Wv{f o:Nat}(h:AQ P τ (.inl t)=true)(c:Di τ f=true):∃τ' k,(Instr.fieldAt t (.pointer (some ⟨b,o,none⟩)) f).run P w=.ok (.pointer (some ⟨b,o+k,none⟩)) w/\(∀(m:DU) b o,loc m τ (.at b o) (BD f)=some (τ',.at b (o+k))):=by(have⟨e,p,n⟩:=SC h c;have⟨d,τ',k,q,i,j,r,l⟩:=UO f τ _ 0 n c;have⟨I⟩:=AK (AS j);have g:e[f]?=some d:=by simp_all);(refine⟨τ',k,?_,l⟩;have a:¬ (τ'.cells=0):=by omega);simp[Instr.fieldAt,run_underlying p,g,Instr.sureAddr,fieldPlace,I.sizeOf,a,Addr.add_lit,i]
theorem BQ{o:Bool}(h:AQ P (.list o e) (.inl t)=true):∃g,P.underlying t=some (.slice g)/\AQ P e (.inl g)=true/\0<e.cells:=by simp[AQ]at h;grind
theorem RH(h:AQ P (.arr n e) (.inl t)=true):∃g,P.underlying t=some (.array n g)/\AQ P e (.inl g)=true/\0<e.cells:=by simp[AQ]at h;grind
theorem a7g(τ:Ty):∀rd,ER τ.sh rd=ER τ rd:=by induction τ with|pair a b iha ihb=>simp_all[Ty.sh,ER,Ty.sZ]|arr n t h=>simp_all[Ty.sh,ER,Ty.sZ]|list o t _=>intro rd;rfl|nl t _=>simp_all[Ty.sh,ER]|_=>intro rd;rfl
theorem FB{P:Program}:∀(τ:Ty)(s:TypeId ⊕ (List Field×Nat)),AQ P τ.sh s=AQ P τ s:=by(have c:=a7g;have k:∀τ:Ty,τ.sh.isAgg=τ.isAgg:=by intro τ;cases τ<;>rfl);(have hb:∀(τ:Ty) t,Mi P τ.sh t=Mi P τ t:=by simp_all[Mi,Ty.sZ]);intro τ;induction τ with|pair a b iha ihb=>(intro s;cases s with|inl t=>grind[Ty.sh,AQ,Ty.sZ]|inr p=>have⟨g,f⟩:=p;cases g<;>simp only[Ty.sh,AQ,iha,ihb,Ty.sZ])|list o t h=>grind[Ty.sh,AQ,Ty.sZ]|nl t h=>grind[Ty.sh,AQ,Ty.sZ]|arr n t h=>grind[Ty.sh,AQ,Ty.sZ]|_=>intro s;rfl
def AH(a:Act):Nat->Value:=fun i=>a.tmps.getD i undef
def Cj(N:Nat):Operand->Bool|.tmp t=>A3 (t<N)|_=>true
def fits(N:Nat)(o:Oper):Bool:=o.op.operands.toList.all (Cj N)&&(match o.dst with|some d=>A3 (d<N)|none=>true)
def b0D(P:Program)(τ:Ty)(t:TypeId):Prop:=∀(m:DU) Sh (x y:τ.sK) u v w xo yo,Ci m Sh τ x u->Ci m Sh τ y v->((eqGuard .eql t xo yo u v).run P w=.ok () w/\(binOp .eql t u v).run P w=.ok (.bool (gE τ x y)) w)/\((eqGuard .neq t xo yo u v).run P w=.ok () w/\(binOp .neq t u v).run P w=.ok (.bool (!gE τ x y)) w)
structure CxTy (P:Program) (cx:Cx):Prop where
 T:∀t τ,cx.T t=some τ->τ.sh=τ/\AQ P τ (.inl t)=true

 Q:∀t,cx.Q t=true->∃e,P.underlying t=some (.pointer e)
 E:∀t τ,cx.E t=true->cx.T t=some τ->τ.isAgg=true->b0D P τ t
theorem Ww{a:Act}{d:Nat}{v:Value}(i:Nat)(hi:i<a.tmps.size):AH (a.put (some d) v) i=if i=d then v else AH a i:=by simp[AH,Act.put];grind
theorem Wx{a:Act}{d:Option Nat}{v:Value}:(a.put d v).tmps.size=a.tmps.size:=by cases d<;>simp[Act.put]
theorem UP{a:Act}{d:Option Nat}{v:Value}:(a.put d v).defers=a.defers:=by cases d<;>rfl
section
variable {P:Program} {B:Base} {N:Nat} {Z:Type} {U:AE} {a:Act} {w:World} {M:Gh}
theorem sM.sN(h:sM B U N (AH a) w M){x:Operand}(k:Cj N x=true):Ay (Af w M.ov) M.g U.rt (Ba B w M) (U.sN x) (a.eval x):=by cases x with|tmp t=>(simp[Cj]at k;have:=h.slots t k;simp[AE.sN,AE.get];revert this;cases U.sl t with|one v=>(exact fun h=>h)|cmp c b=>exact fun _=>trivial)|const v=>simp[AE.sN,Act.eval];unfold Ya;split;exact Ay.tJ _;exact Ay.tH _;exact Ay.vW _;rfl;rfl;trivial|global g=>rfl|func f=>trivial
theorem sM.uN(h:sM B U N (AH a) w M)(f:a.tmps.size=N){sv:SV}(hv:d<N->ZE (Af w M.ov) M.g U.rt (Ba B w M) sv v):sM B (U.put d sv) N (AH (a.put (some d) v)) w M:=h.put hv fun i k=>Ww i (by omega)
def AT(P:Program)(B:Base)(N:Nat)(o:Oper)(a:Act)(w:World)(K:AE->Rs Z)(z:Z):Prop:=∃v w' U' M',((execOp a.eval o).run P w=.ok (.value v) w'\/((execOp a.eval o).run P w=.ok .skip w'/\v=undef))/\sM B U' N (AH (a.put o.dst v)) w' M'/\K U'=some z
theorem AT.set{o:Oper}{K:AE->Rs Z}{z:Z}{d:Nat}{v:Value}{w':World}{k:AE}{M':Gh}{av:AV}(e:o.dst=some d)(c:a.tmps.size=N)(f:(execOp a.eval o).run P w=.ok (.value v) w') (h:sM B k N (AH a) w' M')(hv:Ay (Af w' M'.ov) M'.g k.rt (Ba B w' M') av v)(b:K (k.set d av)=some z):AT P B N o a w K z:=⟨v,w',k.set d av,M',.inl f,by rw[e];exact h.uN c (fun _=>hv),b⟩
theorem Bg(h:fits N o=true):∀x∈o.op.operands.toList,Cj N x=true:=by simp only[fits,bA,lA]at h;grind
theorem Ai{β:Type}{b:Bool}{x y:Option β}{z:β}(h:(bif b then x else y)=some z):(b=true/\x=some z)\/(b=false/\y=some z):=by grind
theorem b4b{o:Oper}{x:Operand}{d:Nat}{cx:Cx}{q:Bool}{K:AE->Rs Z}{z:Z}(j:o.op=.move x)(c:o.dst=some d)(h:sM B U N (AH a) w M)(e:a.tmps.size=N)(l:fits N o=true) (b:Bc cx q o U K=some z):AT P B N o a w K z:=by(have i:Cj N x=true:=Bg l x (by simp[j,Op.operands]);have k:(execOp a.eval o).run P w=.ok (.value (a.eval x)) w:=by simp[execOp,j]);simp[Bc,j,c]at b;cases x with|tmp t=>(simp at b;have m:t<N:=by simpa[Cj]using i);exact⟨_,w,_,M,.inl k,by rw[c];exact h.uN e (fun _=>h.slots t m),b⟩|const v=>exact AT.set c e k h (h.sN i) b|global g=>exact AT.set c e k h (h.sN i) b|func f=>exact AT.set c e k h (h.sN i) b
theorem b4c{o:Oper}{c x y:Operand}{d:Nat}{cx:Cx}{q:Bool}{K:AE->Rs Z}{z:Z}(k:o.op=.pick c x y)(l:o.dst=some d)(h:sM B U N (AH a) w M)(p:a.tmps.size=N)(i:fits N o=true)
  (g:Bc cx q o U K=some z):AT P B N o a w K z:=by
 have j:=h.sN (Bg i c (by simp[k,Op.operands]));have m:=h.sN (Bg i x (by simp[k,Op.operands]));have n:=h.sN (Bg i y (by simp[k,Op.operands]));simp[Bc,k,l,a3u]at g;split at g
 ·rename_i b e;rw[e]at j;have r:=Ay.bool j;have f:(execOp a.eval o).run P w=.ok (.value (if b then a.eval x else a.eval y)) w:=by simp_all[execOp,asBool]
  split at g;rename_i u v t A;rw[t]at m;rw[A]at n;refine AT.set l p f h ?_ g;rw[Ay.bool m,Ay.bool n];cases b<;>exact Ay.tH _
  ·rcases Ai g with⟨rfl,g⟩|⟨-,g⟩;all_goals grind[AT.set]
  ·rcases Ai g with⟨-,g⟩|⟨rfl,g⟩;all_goals grind[AT.set]
  simp_all
 simp_all
theorem a2e{o:Oper}{x:Operand}{d:Nat}{cx:Cx}{q:Bool}{K:AE->Rs Z}{z:Z}(f:o.op=.nilCheck x)(j:o.dst=some d)(h:sM B U N (AH a) w M)(m:a.tmps.size=N)(A:fits N o=true) (c:Bc cx q o U K=some z):AT P B N o a w K z:=by have k:=h.sN (Bg A x (by simp[f,Op.operands]));simp[Bc,f,j]at c;split at c;rename_i n p l;rw[l]at k;have⟨r,t,b,g,e,i,u⟩:=k;exact AT.set j m (v:=.pointer (some ⟨b,g,none⟩)) (by simp[execOp,f,u]) h (show Ay _ _ _ _ (.ptr n p) _ from⟨r,t,b,g,e,i,rfl⟩) c;rename_i t y l;rw[l]at k;have⟨b,g,R,e,i⟩:=k;exact AT.set j m (v:=.pointer (some ⟨b,g,none⟩)) (by simp[execOp,f,e]) h (show Ay _ _ _ _ (.vptr t y) _ from⟨b,g,R,rfl,i⟩) c;simp_all
theorem a4Y{o:Oper}{t:Nat}{i d:Nat}{cx:Cx}{q:Bool}{K:AE->Rs Z}{z:Z}(c:o.op=.extract (.tmp t) i)(b:o.dst=some d)(h:sM B U N (AH a) w M)(p:a.tmps.size=N)(r:fits N o=true) (g:Bc cx q o U K=some z):AT P B N o a w K z:=by(have x:t<N:=by have:=Bg r (.tmp t) (by simp[c,Op.operands]);simpa[Cj]using this);have e:=h.slots t x;simp[Bc,c,b]at g;split at g;rename_i C k;rw[k]at e;have⟨f,j,m⟩:=e;split at g;rename_i v y;have⟨u,A,n⟩:=m i v y;refine AT.set b p (v:=u) ?_ h n g;have l:a.eval (.tmp t)=.tuple f:=j;simp_all[execOp,Instr.extract];simp_all;simp_all
theorem b4d{o:Oper}{m:UnOp}{ty:TypeId}{x:Operand}{d:Nat}{cx:Cx}{q:Bool}{K:AE->Rs Z}{z:Z}(c:o.op=.unOp m ty x)(i:o.dst=some d)(h:sM B U N (AH a) w M)(j:a.tmps.size=N)(l:fits N o=true) (e:Bc cx q o U K=some z):AT P B N o a w K z:=by have g:=h.sN (Bg l x (by simp[c,Op.operands]));simp only[Bc,c,i,AE.un]at e;split at e;rename_i b f;rw[f]at g;exact AT.set i j (by simp[execOp,c,Ay.bool g,Op.unary]) h (Ay.tH _) e;rename_i k n f;rw[f]at g;exact AT.set i j (by simp[execOp,c,Ay.int g,Op.unary,Op.intArith]) h (Ay.tJ _) e;rename_i k n f;rw[f]at g;refine AT.set i j (v:=.int k (bits k .xor (if k.signed then -1 else k.max) n)) ?_ h (Ay.tJ _) e;simp[execOp,c,Ay.int g,Op.unary,Op.intBits,bits];simp_all
theorem a7h{k:IntKind}{x y:Int}{K:AV->Rs Z}{z:Z}{k':IntKind}(b:cD op=true\/k=k')(h:Wn op k x y K=some z):
  ∃av v,K av=some z/\(∀m g rt Sh,Ay m g rt Sh av v)/\∀w,(binOp op t (.int k x) (.int k' y)).run P w=.ok v w:=by
 by_cases hs:cD op=true;cases op<;>simp[cD]at hs;simp[Wn]at h;rcases Ai h with⟨-,h⟩|⟨a,h⟩;grind;refine⟨_,_,h,fun _ _ _ _=>Ay.tJ _,fun w=>?_⟩
 have:¬ y<0:=by simp_all
 simp[binOp,Op.shift,this,AO];simp[Wn]at h;rcases Ai h with⟨-,h⟩|⟨a,h⟩;grind;refine⟨_,_,h,fun _ _ _ _=>Ay.tJ _,fun w=>?_⟩
 have:¬ y<0:=by simp_all
 simp[binOp,Op.shift,this,Au]
 ·have f:k=k':=by simp_all
  subst f;cases op<;>simp[cD]at hs<;>simp only[Wn]at h
  case add=>exact⟨_,_,h,fun _ _ _ _=>Ay.tJ _,fun w=>by simp[binOp,Op.intArith]⟩
  case sub=>exact⟨_,_,h,fun _ _ _ _=>Ay.tJ _,fun w=>by simp[binOp,Op.intArith]⟩
  case mul=>exact⟨_,_,h,fun _ _ _ _=>Ay.tJ _,fun w=>by simp[binOp,Op.intArith]⟩
  case quo=>
   rcases Ai h with⟨-,h⟩|⟨a,h⟩;grind
   have:¬ y=0:=by simp_all
   exact⟨_,_,h,fun _ _ _ _=>Ay.tJ _,fun w=>by simp_all[binOp,Op.intDiv]⟩
  case rem=>
   rcases Ai h with⟨-,h⟩|⟨a,h⟩;grind
   have:¬ y=0:=by simp_all
   exact⟨_,_,h,fun _ _ _ _=>Ay.tJ _,fun w=>by simp_all[binOp,Op.intDiv]⟩
  case and=>exact⟨_,_,h,fun _ _ _ _=>Ay.tJ _,fun w=>by simp[binOp,Op.intBits,bits]⟩
  case or=>exact⟨_,_,h,fun _ _ _ _=>Ay.tJ _,fun w=>by simp[binOp,Op.intBits,bits]⟩
  case xor=>exact⟨_,_,h,fun _ _ _ _=>Ay.tJ _,fun w=>by simp[binOp,Op.intBits,bits]⟩
  case andNot=>exact⟨_,_,h,fun _ _ _ _=>Ay.tJ _,fun w=>by simp[binOp,Op.intBits,bits]⟩
  case eql=>exact⟨_,_,h,fun _ _ _ _=>Ay.tH _,fun w=>by simp[binOp,Op.intCmp]⟩
  case neq=>exact⟨_,_,h,fun _ _ _ _=>Ay.tH _,fun w=>by simp[binOp,Op.intCmp]⟩
  case lss=>exact⟨_,_,h,fun _ _ _ _=>Ay.tH _,fun w=>by simp[binOp,Op.intCmp]⟩
  case leq=>exact⟨_,_,h,fun _ _ _ _=>Ay.tH _,fun w=>by simp[binOp,Op.intCmp]⟩
  case gtr=>exact⟨_,_,h,fun _ _ _ _=>Ay.tH _,fun w=>by simp[binOp,Op.intCmp]⟩
  case geq=>exact⟨_,_,h,fun _ _ _ _=>Ay.tH _,fun w=>by simp[binOp,Op.intCmp]⟩
theorem b2V{s s':ByteArray}:((s.data.toList.map fun b=>(b.toNat:Int))==(s'.data.toList.map fun b=>(b.toNat:Int)))=(s.toList==s'.toList):=by have h:s.toList=s.data.toList:=ByteArray.toList_eq s;have g:s'.toList=s'.data.toList:=ByteArray.toList_eq s';rw[h,g,Bool.eq_iff_iff];simp only[beq_iff_eq];grind[List.map_inj_right,UInt8.toNat_inj]
theorem MS{ty h:TypeId}{x y:Operand}(k:o.op=.binOp op ty x y h)(g:(eqGuard op ty x y (a.eval x) (a.eval y)).run P w=.ok () w)(f:(binOp op ty (a.eval x) (a.eval y)).run P w=.ok v w):(execOp a.eval o).run P w=.ok (.value v) w:=by simp_all[execOp]
theorem b4e(h:BinOp)(t:TypeId)(x y:Operand)(k:IntKind)(n:Int)(v:Value):(eqGuard h t x y (.int k n) v).run P w=.ok () w:=by rw[eqGuard_at_int];rfl
theorem b0E(h:BinOp)(t:TypeId)(x y:Operand)(n:Bool)(v:Value):(eqGuard h t x y (.bool n) v).run P w=.ok () w:=by simp[eqGuard_at_bool]
theorem b4f(h:BinOp)(t:TypeId)(x y:Operand)(n:ByteArray)(v:Value):(eqGuard h t x y (.string n) v).run P w=.ok () w:=by simp[eqGuard_at_string]
theorem Yb(h:BinOp)(t:TypeId)(x y:Operand)(n:Option Addr)(v:Value):(eqGuard h t x y (.pointer n) v).run P w=.ok () w:=by simp[eqGuard_at_pointer]
theorem b6t{ty:Nat}{t h:Ty}{u:t.sK}{v:h.sK}{K:AV->Rs Z}(hi:¬ ∃k k',t=.int k/\h=.int k')(hb:¬ (t=.bool/\h=.bool))(g:¬ (t=.str/\h=.str)):cE cx op ty (.val t u) (.val h v) K=gF cx op ty t u h v K:=by cases t<;>cases h<;>first|rfl|exact absurd ⟨_,_,rfl,rfl⟩ hi|exact absurd ⟨rfl,rfl⟩ hb|simp_all
theorem a4Z(n:Nat){ty:TypeId}(h:P.underlying ty=some .bool)(u v:Bool)(w:World):(Op.equalIn (n+1) ty (.bool u) (.bool v)).run P w=.ok (u==v) w:=by simp[Op.equalIn,run_underlying h]
theorem qA{ty:TypeId}(h:P.underlying ty=some .bool)(u v:Bool)(w:World):(Op.equal ty (.bool u) (.bool v)).run P w=.ok (u==v) w:=a4Z 9999 h u v w
theorem a7i(n:Nat){ty e:TypeId}(g:P.underlying ty=some (.pointer e))(u v:Option Addr)(h:u=none\/v=none)(w:World):(Op.equalIn (n+1) ty (.pointer u) (.pointer v)).run P w=.ok (u.isNone&&v.isNone) w:=by rcases h with rfl|rfl;simp[Op.equalIn,run_underlying g];cases u<;>simp[Op.equalIn,run_underlying g]
theorem a2f(k:Nat){ty e:TypeId}(h:P.underlying ty=some (.slice e))(A:Option Addr)(n c:Nat)(w:World):(Op.equalIn (k+1) ty (.slice A n c) (.slice none 0 0)).run P w=.ok A.isNone w:=by cases A<;>simp[Op.equalIn,run_underlying h]
theorem a5a{ty:TypeId}(u v:Bool)(w:World):(binOp .eql ty (.bool u) (.bool v)).run P w=((Op.equal ty (.bool u) (.bool v)).run P w).andThen fun b w'=>.ok (.bool b) w':=by simp_all[binOp]
theorem a5b{ty:TypeId}(u v:Bool)(w:World):(binOp .neq ty (.bool u) (.bool v)).run P w=((Op.equal ty (.bool u) (.bool v)).run P w).andThen fun b w'=>.ok (.bool !b) w':=by simp_all[binOp]
theorem jR{ty:TypeId}(u v:Option Addr)(w:World):(binOp .eql ty (.pointer u) (.pointer v)).run P w=((Op.equal ty (.pointer u) (.pointer v)).run P w).andThen fun b w'=>.ok (.bool b) w':=by simp_all[binOp]
theorem jS{ty:TypeId}(u v:Option Addr)(w:World):(binOp .neq ty (.pointer u) (.pointer v)).run P w=((Op.equal ty (.pointer u) (.pointer v)).run P w).andThen fun b w'=>.ok (.bool !b) w':=by simp_all[binOp]
theorem b6u{ty:Nat}{u v:Bool}{K:AV->Rs Z}{z:Z}(f:CxTy P cx)(h:cE cx op ty (.val .bool u) (.val .bool v) K=some z):∃r,K (.val .bool r)=some z/\(binOp op ty (.bool u) (.bool v)).run P w=.ok (.bool r) w:=by(simp only[cE]at h;split at h;rename_i k;have g:=(f.T ty _ k).2;have a:P.underlying ty=some .bool:=by simp[AQ]at g;grind);split at h;exact⟨_,h,by simp_all[a5a,qA]⟩;exact⟨_,h,by rw[a5b,qA a];rfl⟩;simp_all;simp_all
theorem b9M{ty:Nat}{s s':ByteArray}{m g rt Sh}{K:AV->Rs Z}{z:Z}(h:cE cx op ty (.val .str (s.data.toList.map fun b=>(b.toNat:Int):List Int)) (.val .str (s'.data.toList.map fun b=>(b.toNat:Int):List Int)) K=some z):∃r v,K r=some z/\Ay m g rt Sh r v/\(binOp op ty (.string s) (.string s')).run P w=.ok v w:=by(simp only[cE]at h;split at h;refine⟨_,_,h,Ay.tH _,?_⟩;simp_all[b2V,binOp,Op.stringOp];refine⟨_,_,h,Ay.tH _,?_⟩;simp_all[bne,b2V,binOp,Op.stringOp];rcases Ai h with⟨k,h⟩|⟨-,h⟩;have f:s.size+s'.size<2147483648:=by simp_all);refine⟨_,.string (s++s'),h,?_,?_⟩;have:=Ay.vW (m:=m) (g:=g) (rt:=rt) (Sh:=Sh) (s++s');simp_all;(have:¬ (9223372036854775807<(s.size:Int)+(s'.size:Int)):=by omega);simp_all[binOp,Op.stringOp];simp_all;simp_all
theorem OL{ty e:TypeId}(g:P.underlying ty=some (.pointer e))(u v:Option Addr)(h:u=none\/v=none)(w:World):(Op.equal ty (.pointer u) (.pointer v)).run P w=.ok (u.isNone&&v.isNone) w:=a7i 9999 g u v h w
theorem Ci.header{m Sh}{t:Ty}{l:List t.sK}(h:Ci m Sh (.list false t) l v):∃A n c,v=.slice A n c/\n=l.length/\n<=c/\(∀f,A=some f->c=0\/f.spot=none)/\(A=none->c=0):=by have⟨R,g,b⟩:=h.rd rfl rfl;have g:Cq m false t.cells (AL m t) (some v)=some (l,[],R):=g;unfold Cq at g;split at g;grind;rename_i A n c a;simp at a;split at g;rename_i d;split at g;grind;rename_i o i j k;have e:=AX n 0 k;grind;simp_all;simp_all
theorem b0F{P:Program}{o:Bool}(h:AQ P (.list o e) (.inl t)=true):∃g,P.underlying t=some (.slice g):=by simp[AQ]at h;grind
theorem b0G{o:Oper}{op:BinOp}{ty h1:TypeId}{x y:Operand}{d:Nat}{cx:Cx}{q:Bool}{K:AE->Rs Z}{z:Z}(D:CxTy P cx)(i:o.op=.binOp op ty x y h1)(j:o.dst=some d)
  (h:sM B U N (AH a) w M)(C:a.tmps.size=N)(hf:fits N o=true)(g:Bc cx q o U K=some z):AT P B N o a w K z:=by
 have F:=h.sN (Bg hf x (by simp[i,Op.operands]));have m:=h.sN (Bg hf y (by simp[i,Op.operands]));simp[Bc,i,j]at g;rcases Ai g with⟨-,g⟩|⟨-,g⟩
 ·
  split at g
  case h_2=>grind
  rename_i e O;split at g;grind
  ·unfold b0x at O;split at O
   ·rename_i o1 G H l hT S V;simp at O;rw[S]at F;rw[V]at m;obtain⟨A,n,c,hv,hn,h2,-,hA⟩:=Ci.header F;have m:a.eval y=.slice none 0 0:=m;obtain⟨e',R⟩:=b0F (D.T ty _ hT).2;have h3:(Op.equal ty (a.eval x) (a.eval y)).run P w=.ok A.isNone w:=by
     rw[hv,m];exact a2f 9999 R A n c w
    have f:(eqGuard op ty x y (a.eval x) (a.eval y)).run P w=.ok () w:=by simp_all[eqGuard_at_slice]
    have h4:e=false->A.isNone=false:=fun L=>by
     cases A with
     |some A=>rfl
     |none=>
      grind
    unfold c4S at g;split at g
    ·have I:K (U.set d (.val .bool A.isNone))=some z:=by
      rcases Ai g with⟨-,g⟩|⟨L,g⟩
      ·obtain⟨z1,z2⟩:=pS g;cases hb:A.isNone;all_goals omega
      grind
     exact AT.set j C (v:=.bool A.isNone) (MS i f (by
      simp_all[binOp])) h (Ay.tH _) I
    ·have I:K (U.set d (.val .bool (!A.isNone)))=some z:=by
      rcases Ai g with⟨-,g⟩|⟨L,g⟩;all_goals grind[pS]
     exact AT.set j C (v:=.bool (!A.isNone)) (MS i f (by
      simp_all[binOp])) h (Ay.tH _) I
    simp_all
   simp_all
 revert g F m;cases S:U.sN x<;>cases V:U.sN y<;>intro F m g
 case val.val t u t' v=>
  by_cases hint:∃k k',t=.int k/\t'=.int k';obtain⟨k,k',rfl,rfl⟩:=hint;simp only[cE]at g;split at g;rename_i hk;obtain⟨av,rv,I,h0,X⟩:=a7h (P:=P) (t:=ty) (k':=k') (by simp_all) g;have G:=Ay.int F;have H:=Ay.int m;exact AT.set j C (MS i (by grind[b4e]) (by simp_all)) h (h0 _ _ _ _) I;simp_all;by_cases hb:t=.bool/\t'=.bool;obtain⟨rfl,rfl⟩:=hb;have G:=Ay.bool F;have H:=Ay.bool m;obtain⟨r,I,hr⟩:=b6u (P:=P) (w:=w) D g;exact AT.set j C (MS i (by grind[b0E]) (by simp_all)) h (Ay.tH _) I;by_cases hs:t=.str/\t'=.str;obtain⟨rfl,rfl⟩:=hs;obtain⟨s,G,rfl⟩:=Ay.str F;obtain⟨s',H,rfl⟩:=Ay.str m;obtain⟨r,rv,I,X,hr⟩:=b9M (P:=P) (w:=w) g;exact AT.set j C (MS i (by simp_all[b4f]) (by simp_all)) h X I;rw[b6t hint hb hs]at g;unfold gF at g;split at g;rename_i ht;subst ht;rcases Ai g with⟨hc,g⟩|⟨-,g⟩;simp at hc;have L:=D.E ty _ hc.1.1 hc.2 hc.1.2 (Af w M.ov) (Ba B w M) u v (a.eval x) (a.eval y) w x y F m;split at g;exact AT.set j C (MS i L.1.1 L.1.2) h (Ay.tH _) g;exact AT.set j C (MS i L.2.1 L.2.2) h (Ay.tH _) g;simp_all;simp_all;simp_all
 case nilp.nilp=>
  simp only[cE]at g;split at g;rename_i hp;obtain⟨e,R⟩:=D.Q ty hp;have G:a.eval x=.pointer none:=F;have H:a.eval y=.pointer none:=m;split at g;exact AT.set j C (v:=.bool true) (MS i (by simp_all[Yb]) (by rw[G,H,jR,OL R none none (.inl rfl)];rfl)) h (Ay.tH _) g;exact AT.set j C (v:=.bool false) (MS i (by simp_all[Yb]) (by rw[G,H,jS,OL R none none (.inl rfl)];rfl)) h (Ay.tH _) g;simp_all;simp_all
 case ptr.nilp n p=>
  simp only[cE]at g;split at g;rename_i hp;obtain⟨e,R⟩:=D.Q ty hp;obtain⟨r,t,b,Y,-,-,G⟩:=F;have H:a.eval y=.pointer none:=m;split at g;exact AT.set j C (v:=.bool false) (MS i (by simp_all[Yb]) (by rw[G,H,jR,OL R (some ⟨b,Y,none⟩) none (.inr rfl)];rfl)) h (Ay.tH _) g;exact AT.set j C (v:=.bool true) (MS i (by simp_all[Yb]) (by rw[G,H,jS,OL R (some ⟨b,Y,none⟩) none (.inr rfl)];rfl)) h (Ay.tH _) g;simp_all;simp_all
 all_goals (simp only[cE]at g;cases g)
end
theorem FC{A:Addr}(h:A.spot=none)(k:Nat):A.add k=⟨A.block,A.off+k,none⟩:=by have⟨b,o,s⟩:=A;simp_all[Addr.add_lit]
theorem RI{t:Ty}{rd:Nat->Option Value}{x O R}(k:t.tO=t)(h:AL m t rd=some (x,O,R)):O=[]:=by obtain⟨g,f,-⟩:=cK t h;grind
theorem Yc{l:List α}{x:α}(h:Aq l i=some x):0<=i/\i.toNat<l.length/\l[i.toNat]?=some x:=by grind[Aq]
theorem Ci.elem{m Sh}{t:Ty}{l:List t.sK}(o:t.sh=t)(h:Ci m Sh (.list false t) l v){i:Nat}{x:t.sK}(q:l[i]?=some x):∃A n c R,v=.slice (some A) n c/\A.spot=none/\n=l.length/\n<=c/\AL m t ((Src.at A.block (A.off+i*t.cells)).rd m)=some (x,[],R)/\Sh A.block/\∀b∈R,Sh b:=by(have⟨R,g,B⟩:=h.rd rfl rfl;have g:Cq m false t.cells (AL m t) (some v)=some (l,[],R):=g;unfold Cq at g;split at g;simp_all;rename_i A n c p;simp at p;split at g;rename_i C;split at g;grind;rename_i K G I f;simp[pW]at f;have D:=AX n 0 f;simp at g;split at g;simp_all;simp only[sj,pJ]at g;obtain⟨rfl,-,rfl⟩:=g;have j:i<n:=by grind);have⟨y,F,H,r,u,d,e,a,k,w,z⟩:=Bb n 0 i f j;rw[q]at k;simp at k;subst k;simp at a;have E:=RI (Ty.uY t o) a;grind;simp_all;simp_all
theorem Ci.window{m Sh}{t:Ty}{l:List t.sK}{A:Option Addr}{lo hi:Nat}(h:Ci m Sh (.list false t) l (.slice A n c))(Z:lo<=hi)(h2:hi<=n){d:Option Addr}(D:d=if c=lo then A else A.map fun a=>a.add (lo*t.cells)):Ci m Sh (.list false t) ((l.take hi).drop lo) (.slice d (hi-lo) (c-lo)):=by
 have⟨U,n0,V,z,L,r,j,E⟩:=h.header;simp at z;obtain⟨rfl,rfl,rfl⟩:=z;have o:∀B,d=some B->c-lo=0\/B.spot=none:=by intro B p;rw[D]at p;split at p;omega;cases A with|none=>simp_all|some a=>simp at p;rw[<-p,FC ((j a rfl).resolve_left (by omega))];simp
 by_cases he:lo=hi;subst he;have e:(l.take lo).drop lo=[]:=by simp
 rw[e];refine Ci.one (t:=.list false t) (R:=[]) rfl rfl ?_ (by simp) rfl;show Cq m false t.cells (AL m t) (some (.slice d (lo-lo) (c-lo)))=_;cases d with|none=>(have u:c-lo=0:=by split at D;omega;cases A with|none=>grind|some a=>simp_all);simp[Cq,u];rfl|some B=>have M:=o B rfl;simp[Cq,M,Ak];rfl
 have⟨R,f,I⟩:=h.rd rfl rfl;have f:Cq m false t.cells (AL m t) (some (.slice A n c))=some (l,[],R):=f;cases A with|none=>simp_all|some a=>have w:=(j a rfl).resolve_left (by omega);simp only[Cq,pW]at f;rw[if_pos ⟨.inr w,r⟩]at f;split at f;grind;(rename_i F os rs C;have K:n≠0:=by omega);(simp only[C8,if_false,K]at f;simp only[sj,pJ]at f;obtain⟨rfl,-,rfl⟩:=f;have q:d=some ⟨a.block,a.off+lo*t.cells,none⟩:=by grind[FC]);(subst q;rw[show n=lo+((hi-lo)+(n-hi))from by omega]at C;obtain⟨N,Q,O,S,X,G,rfl,rfl⟩:=FA lo _ 0 C;obtain⟨x,y,P,T,H,Y,rfl,rfl⟩:=FA (hi-lo) _ (0+lo) G;have g:∀(k i:Nat),Ak (fun i=>AL m t ((Src.at a.block (a.off+lo*t.cells+i*t.cells)).rd m)) k i=Ak (fun i=>AL m t ((Src.at a.block (a.off+i*t.cells)).rd m)) k (lo+i):=by intro k;induction k with|zero=>intro i;rfl|succ k ih=>grind[Ak]);(refine Ci.one (t:=.list false t) (R:=a.block::(x.map (·.1)++y)) rfl rfl ?_ (fun b hb=>I b ?_) rfl;show Cq m false t.cells (AL m t) (some (.slice (some ⟨a.block,a.off+lo*t.cells,none⟩) (hi-lo) (c-lo)))=_;simp only[Cq,pW];rw[if_pos ⟨.inr trivial,by omega⟩,g,show lo+0=0+lo from by omega,H];have v:¬ (hi-lo=0):=by omega);(have e:C9 (hi-lo) (D2 lo F)=D2 lo (C9 hi F):=by rw[D8]);simp[v,e];rfl;grind
section
variable {P:Program} {B:Base} {N:Nat} {Z:Type} {U:AE} {a:Act} {w:World} {M:Gh}
theorem gK{n p}{K:(e:Ty)->List e.sK->Rs Z}{z:Z}(h:U.body n p K=some z):∃r e l,U.pd=none/\U.rt n=some r/\Dc r.t r.x p=⟨.list true e,l⟩/\K e l=some z:=by grind[AE.body,AR]
theorem b0H{n p}{K:(e:Ty)->List e.sK->Rs Z}{z:Z}(h:U.wS n p K=some z):∃r e l,U.rt n=some r/\Dc r.t r.x p=⟨.list true e,l⟩/\K e l=some z:=by unfold AE.wS at h;split at h;rename_i r f;split at h;rename_i e l g;exact⟨r,e,l,f,g,h⟩;cases h;cases h
theorem Rr{f:Nat}{lo hi:Option Operand}{K:Nat->Nat->Rs Z}{z:Z}(h:sM B U N (AH a) w M)(A:∀x,lo=some x->Cj N x=true)(v:∀x,hi=some x->Cj N x=true) (g:U.uU f lo hi K=some z):∃x y,K x y=some z/\x<=y/\y<=f/\(lo=none->x=0)/\(hi=none->y=f)/\∀s b,f<=b->(Instr.sliceBounds s f b (lo.map a.eval) (hi.map a.eval) none).run P w=.ok (x,y,b) w:=by(have r:∀{m d:Nat}{o:Option Operand}{u:Nat->Rs Z}{z:Z},(∀x,o=some x->Cj N x=true)->d<=m->U.bnd m d o u=some z->∃y,u y=some z/\y<=m/\(o=none->y=d)/\(∀x,o=some x->∃k,a.eval x=.int k (y:Int)):=by intro m d o u z C I g;unfold AE.bnd at g;cases o with|none=>simp_all|some o=>simp only at g;have C:=h.sN (C o rfl);split at g;rename_i k y t;rw[t]at C;rcases Ai g with⟨F,g⟩|⟨-,g⟩;simp at F;refine⟨y.toNat,g,by omega,by simp,?_⟩;rintro x ⟨⟩;exact⟨k,by grind[Ay.int]⟩;simp_all;simp_all);(unfold AE.uU at g;have⟨y,g,D,q,E⟩:=r v (C0 _) g;have⟨x,g,p,i,l⟩:=r A (Nat.zero_le _) g;refine⟨x,y,g,p,D,i,q,fun s b e=>?_⟩;have hb:∀(n m:Nat) k c,n<=m->(Instr.sliceBound (.int k (n:Int)) m c).run P w=.ok n w:=fun n m k c G=>by simp_all[Instr.sliceBound,asIntOf]);cases hi with|none=>(have:=q rfl;subst this;cases lo with|none=>have:=i rfl;simp_all[Instr.sliceBounds]|some o=>have⟨k,t⟩:=l o rfl;simp_all[Instr.sliceBounds])|some H=>have⟨L,j⟩:=E H rfl;cases lo with|none=>have:=i rfl;subst this;simp[Instr.sliceBounds,j,hb _ _ _ _ (B4 D e)]|some o=>have⟨k,t⟩:=l o rfl;simp[Instr.sliceBounds,t,j,hb _ _ _ _ p,hb _ _ _ _ (B4 D e)]
theorem sM.uZ(h:sM B U N (AH a) w M){n p v r}(d:Ay (Af w M.ov) M.g U.rt (Ba B w M) (.sref n p) v)(j:U.rt n=some r)(i:Dc r.t r.x p=⟨.list true e,l⟩):∃s A c,loc (Af w M.ov) r.t (M.g n) p=some (.list true e,s)/\s.rd (Af w M.ov) 0=some v/\v=.slice A l.length c/\l.length<=c/\(∀k,A=some k->c=0\/k.spot=none)/\(A=none->c=0):=by have⟨s,m,o,q,u,y,b,z,C⟩:=h.slice d j i;refine⟨s,?_⟩;rcases Ct b with⟨f,rfl,-⟩|⟨A,G,c,H,f,D,E,F,-⟩;simp[Src.rd]at f;grind;simp[Src.rd]at f;grind[AX]
theorem TK{A:Option Addr}{x y:Nat}{lo hi:Option Value}(h:P.underlying t=some (.slice t'))(I:vH P e t')(hb:(Instr.sliceBounds true n c lo hi none).run P w=.ok (x,y,c) w):(Instr.sliceAt t (.slice A n c) lo hi none).run P w=.ok (.slice (if c=x then A else A.map fun a=>a.add (x*e.cells)) (y-x) (c-x)) w:=by simp[Instr.sliceAt,Instr.slice,run_underlying h,hb,I.sizeOf]
theorem a5c{ty:Option Ty}{v:AV}{K:AV->Rs Z}{z:Z}(h:oW ty v K=some z):∃o e,ty=some (.list o e)/\K .empt=some z/\((∃o t l,v=.val (.list o t) l)\/v=.nils\/v=.empt\/(∃n p,v=.sref n p)\/∃n p o k,v=.swin n p o k):=by unfold oW at h;grind
theorem b0I{o:Oper}{t:TypeId}{x:Operand}{lo hi mx:Option Operand}{d:Nat}{cx:Cx}{q:Bool}{K:AE->Rs Z}{z:Z}(S:CxTy P cx)(ho:o.op=.slice t x lo hi mx)(hd:o.dst=some d)
  (h:sM B U N (AH a) w M)(hN:a.tmps.size=N)(hf:fits N o=true)(C:Bc cx q o U K=some z):AT P B N o a w K z:=by
 have h9:∀y∈(o.op.operands.toList),Cj N y=true:=Bg hf;rw[ho]at h9;have E:=h.sN (h9 x (by simp[Op.operands]));have h5:∀y,lo=some y->Cj N y=true:=by rintro y rfl;simp_all[Op.operands]
 have h0:∀y,hi=some y->Cj N y=true:=by rintro y rfl;simp_all[Op.operands]
 have O:∀v,(Instr.sliceAt t (a.eval x) (lo.map a.eval) (hi.map a.eval) (mx.map a.eval)).run P w=.ok v w->(execOp a.eval o).run P w=.ok (.value v) w:=fun v G=>by simp[execOp,ho,G]
 simp[Bc,ho,hd,AE.wQ]at C;cases mx with
 |some m=>
  simp only at C;rcases Ai C with⟨hc,k8⟩|⟨-,C⟩;simp at hc;obtain⟨⟨hm,hh⟩,rfl⟩:=hc;clear C;have h8:∀y:Option Operand,gG y=true->∃k,y.map a.eval=some (.int k 0):=by
   intro y hy;unfold gG at hy;split at hy;rename_i k;exact⟨k,rfl⟩;simp_all
  obtain⟨km,em⟩:=h8 _ hm;obtain⟨kh,eh⟩:=h8 _ hh;obtain⟨o1,e1,Y,C,k0⟩:=a5c k8;obtain⟨h7,u⟩:=S.T t _ Y;obtain⟨t',X,f,-⟩:=BQ u;obtain⟨I⟩:=AK (AS f);have k9:∀(A:Option Addr) n c,a.eval x=.slice A n c->AT P B N o a w K z:=by
   intro A n c G;have g9:(Instr.sliceBounds true n c none (hi.map a.eval) (some (.int km 0))).run P w=.ok (0,0,0) w:=by
    rw[eh];rfl
   refine AT.set hd hN (v:=.slice A 0 0) (O _ ?_) h (av:=.empt) ⟨A,rfl⟩ C;rw[G,em];simp[Instr.sliceAt,Instr.slice,run_underlying X,g9,I.sizeOf]
  rcases k0 with⟨o2,e2,l2,F⟩|F|F|⟨n,p,F⟩|⟨n,p,D,k,F⟩;rw[F]at E;have E:Ci (Af w M.ov) (Ba B w M) (.list o2 e2) l2 (a.eval x):=E;obtain⟨R,Q,h2⟩:=E.rd rfl rfl;have Q:Cq (Af w M.ov) o2 e2.cells (AL (Af w M.ov) e2) (some (a.eval x))=some (l2,[],R):=Q;unfold Cq at Q;grind;rw[F]at E;exact k9 none 0 0 E;rw[F]at E;obtain⟨A,G⟩:=E;simp_all;rw[F]at E;obtain⟨r,e,s,Q,h2,h3⟩:=E;obtain⟨O',R,g1,g2,-⟩:=h.sep Q;obtain⟨y,O1,R1,_,_,_,_,g3,g4,-⟩:=BT _ r.t _ g1 h2;obtain⟨s',A,c,-,-,G,-,hA,-⟩:=h.uZ ⟨r,e,s,Q,h2,h3⟩ Q g4;simp_all;rw[F]at E;obtain⟨r,e,s,a0,l0,c0,Q,h2,h3,h4,a',G,hA,-⟩:=E;simp_all;simp_all
 |none=>
  simp only at C;split at C
  
  rename_i l F;rw[F]at E;obtain⟨s,G,hl⟩:=Ay.str E;split at C;rename_i Y;have u:=(S.T t _ Y).2;have X:P.underlying t=some .string:=by
   simp[AQ]at u;grind
  obtain⟨H,y',hK,Q,h2,-,-,hb⟩:=Rr h h5 h0 C;have k6:l.length=s.size:=by simp_all
  refine AT.set hd hN (v:=.string (s.extract H y')) (O _ ?_) h ?_ hK;rw[G];have k4:(Instr.sliceBounds false s.size s.size (lo.map a.eval) (hi.map a.eval) none).run P w=.ok (H,y',s.size) w:=by
   have:=hb false s.size (by omega)
   rw[<-k6]at this|-;omega
  simp
  simp[Instr.sliceAt,Instr.slice,run_underlying X,k4]
  have:=Ay.vW (m:=Af w M.ov) (g:=M.g) (rt:=U.rt) (Sh:=Ba B w M) (s.extract H y')
  simp_all[D8];simp_all
  
  rename_i e l F;rw[F]at E;split at C;rename_i Y;obtain⟨h7,u⟩:=S.T t _ Y;obtain⟨t',X,f,-⟩:=BQ u;obtain⟨I⟩:=AK (AS f);obtain⟨H,y',hK,Q,h2,-,-,hb⟩:=Rr h h5 h0 C;obtain⟨A,n,c,G,hn,hc,hA,k2⟩:=Ci.header E;have k7:Ci (Af w M.ov) (Ba B w M) (.list false e) l (.slice A n c):=by rw[<-G];exact E
  refine AT.set hd hN (O _ (by rw[G];exact TK X I (by rw[hn];exact hb true c (by omega)))) h ?_ hK;exact Ci.window k7 Q (by omega) rfl;simp_all
  
  rename_i F;rw[F]at E;split at C;rename_i o1 e1 Y;obtain⟨h7,u⟩:=S.T t _ Y;obtain⟨t',X,f,-⟩:=BQ u;obtain⟨I⟩:=AK (AS f);obtain⟨H,y',hK,Q,h2,-,-,hb⟩:=Rr h h5 h0 C;obtain rfl:y'=0:=by omega
  obtain rfl:H=0:=by omega
  have G:a.eval x=.slice none 0 0:=E;refine AT.set hd hN (v:=.slice none 0 0) (O _ ?_) h (av:=.nils) rfl hK;rw[G,Option.map_none]
  have:=TK (A:=none) X I (hb true 0 (by omega))
  simp_all;simp_all
  ·
   rename_i n p F;rw[F]at E;obtain⟨r,e,l,k5,hr,hg,C⟩:=gK C;split at C
   ·rename_i Y;obtain⟨h7,u⟩:=S.T t _ Y;obtain⟨t',X,f,-⟩:=BQ u;rw[FB]at f;obtain⟨I⟩:=AK (AS f);obtain⟨s,A,c,g1,g2,G,g3,hA,k2⟩:=h.uZ E hr hg;split at C;refine AT.set hd hN (v:=a.eval x) (O _ ?_) h E C;rw[G];have hb:(Instr.sliceBounds true l.length c none none none).run P w=.ok (0,l.length,c) w:=by rfl
    have:=TK (A:=A) X I hb
    simp_all[Addr.add_zero']
    ·obtain⟨H,y',hK,Q,h2,-,-,hb⟩:=Rr h h5 h0 C;refine AT.set hd hN (O _ (by rw[G];exact TK X I (hb true c g3))) h (av:=.swin n p H (y'-H)) ?_ hK;refine⟨r,e,s,A,l.length,c,hr,g1,by simp_all,by omega,_,rfl,?_,?_⟩
     ·intro A' g0;split at g0;omega
      ·cases A with
       |none=>simp_all
       |some a0=>
        simp at g0;rw[<-g0,FC ((hA a0 rfl).resolve_left (by omega))]
        simp
     grind
   simp_all
  ·
   rename_i n p D k F;rw[F]at E;obtain⟨r,e,l,k5,hr,hg,C⟩:=gK C;split at C
   ·rename_i Y;obtain⟨h7,u⟩:=S.T t _ Y;obtain⟨t',X,f,-⟩:=BQ u;rw[FB]at f;obtain⟨I⟩:=AK (AS f);obtain⟨s,O',R',A,n0,c,g1,g2,g3,g4,g5,g6,A',G,g7,g8⟩:=h.window E hr hg;obtain⟨H,y',hK,Q,h2,-,-,hb⟩:=Rr h h5 h0 C;have a4:n0<=c:=by
     rcases Ct g3 with⟨L,-⟩|⟨A0,nn,c',os,L,-,a3,-⟩<;>simp only[Src.rd,if_true,sj,Value.slice.injEq]at L<;>omega
    refine AT.set hd hN (O _ (by rw[G];exact TK X I (hb true (c-D) (by omega)))) h (av:=.swin n p (D+H) (y'-H)) ?_ hK;refine⟨r,e,s,A,n0,c,hr,g1,g2,by omega,_,by rw[show c-(D+H)=c-D-H from by omega],?_,?_⟩
    ·intro a2 h6;split at h6;omega
     ·cases A' with
      |none=>simp_all
      |some a0=>
       simp at h6;rw[<-h6,FC ((g7 a0 rfl).resolve_left (by omega))]
       simp
    ·by_cases hcc:c-D=H;omega
     ·refine .inr ?_
      rw[if_neg hcc];rcases g8 with g8|g8;omega
      ·rw[g8];cases A with
       |none=>rfl
       |some a0=>
        have k3:a0.spot=none:=by
         rcases Ct g3 with⟨L,-⟩|⟨A0,nn,c',os,L,a5,-⟩;simp[Src.rd]at L;simp[Src.rd]at L;grind
        simp only[Option.map_some,FC k3];rw[FC rfl];grind
   simp_all
  
  rename_i k e l F;rw[F]at E;split at C;rename_i Y;obtain⟨h7,u⟩:=S.T t _ Y;obtain⟨t',X,f,-⟩:=RH u;obtain⟨I⟩:=AK (AS f);obtain⟨H,y',hK,Q,h2,-,-,hb⟩:=Rr h h5 h0 C;obtain⟨b,D,R,G,V,hS,hR⟩:=E;have L:Ci (Af w M.ov) (Ba B w M) (.list false e) l (.slice (some ⟨b,D,none⟩) k k):=by
   have V:Ak (fun i=>AL (Af w M.ov) e fun j=>(Src.at b D).rd (Af w M.ov) (i*e.cells+j)) k 0=some (l,[],R):=V;have k1:=AX k 0 V;by_cases hk:k=0;subst hk;refine Ci.one (t:=.list false e) (R:=[]) rfl rfl ?_ (by simp) rfl
   have:l=[]:=C5.1 k1
   subst this;rfl;refine Ci.one (t:=.list false e) (R:=b::R) rfl rfl ?_ (fun c hc=>?_) rfl;show Cq _ false e.cells _ (some (.slice (some ⟨b,D,none⟩) k k))=_;simp only[Cq];rw[if_pos ⟨.inr trivial,C0 _⟩];have e2:Ak (fun i=>AL (Af w M.ov) e fun j=>Af w M.ov b (D+(i*e.cells+j))) k 0=some (l,[],R):=V;rw[e2];simp only[C8,if_false,hk];rfl;grind
  refine AT.set hd hN (v:=.slice (some (if k=H then⟨b,D,none⟩else(⟨b,D,none⟩:Addr).add (H*e.cells))) (y'-H) (k-H)) (O _ ?_) h ?_ hK
  rw[G];have g9:=hb false k (C0 _)
  simp
  simp[Instr.sliceAt,run_underlying X,Instr.sureAddr];rw[g9];simp[I.sizeOf];exact Ci.window L Q (by omega) (by grind);simp_all;simp_all
@[reducible] def YE:=Nat->Option ((t:Ty)×t.sK)
def gD(G:YE)(B:Base):Prop:=∀g t x,G g=some ⟨t,x⟩->g<B.size/\B.S g/\¬ B.F g/\∃w0:World,w0.heap[g]?=B.hp g/\AL (Af w0 none) t ((Src.at g 0).rd (Af w0 none))=some (x,[],[])
theorem sM.tZ{tm:Nat->Value}{cx:Cx}(h:sM B U N tm w M)(D:gD cx.G B){av:AV}{v:Value}(a:Ay (Af w M.ov) M.g U.rt (Ba B w M) av v):
  Ay (Af w M.ov) M.g U.rt (Ba B w M) (cx.tZ av) v:=by
 cases av with
 |tZ g=>
  simp[Cx.tZ];split
  ·rename_i t x E;have⟨l,m,y,i,z,A⟩:=D g t x E;have f:¬ BB M g:=fun I=>by
    rcases h.mine _ I with q|q;all_goals grind
   have F:=h.size;refine⟨g,0,[],a,AF t A (fun j _=>?_) (by simp),⟨by omega,.inl m,f⟩,by simp⟩;show Af w M.ov g (0+j)=Af i none g (0+j);have C:Af w none g (0+j)=Af i none g (0+j):=BE none ((h.frame g l y).trans z.symm) _;rw[<-C];cases hov:M.ov with
   |none=>rfl
   |some K=>
    have⟨b,o,u⟩:=K;have k:=h.pend;rw[hov]at k;cases hpd:U.pd with
    |none=>rw[hpd]at k;exact k.elim
    |some p=>
     have⟨n,p,d⟩:=p;rw[hpd]at k;have⟨r,e,L,c⟩:=k;rw[<-hov]at c;have hb:=h.place L c;have H:¬ (g=b/\0+j=o):=fun O=>f ⟨n,by simp_all⟩;simp_all[Af]
  trivial
 |_=>exact a
theorem Wy{A:Addr}{k:IntKind}(b:P.underlying t=some (.slice t'))(I:vH P e t')(f:A.spot=none)(h:0<=i)(g:i<n):(Instr.indexAt t (.slice (some A) n c) (.int k i)).run P w=.ok (.pointer (some ⟨A.block,A.off+i.toNat*e.cells,none⟩)) w:=by have a:0<=i/\i<(n:Int):=⟨h,g⟩;simp[Instr.indexAt,run_underlying b,asIntOf,a,I.sizeOf,FC f]
theorem Wz{o:Nat}{k:IntKind}(a:P.underlying t=some (.array n t'))(I:vH P e t')(h:0<=i)(g:i<n):(Instr.indexAt t (.pointer (some ⟨b,o,none⟩)) (.int k i)).run P w=.ok (.pointer (some ⟨b,o+i.toNat*e.cells,none⟩)) w:=by have f:0<=i/\i<(n:Int):=⟨h,g⟩;simp[Instr.indexAt,run_underlying a,asIntOf,f,I.sizeOf,Instr.sureAddr,Addr.add_lit]
theorem qB{o:Oper}{t:TypeId}{x i:Operand}{d:Nat}{cx:Cx}{q:Bool}{K:AE->Rs Z}{z:Z}(H:CxTy P cx)(hG:gD cx.G B)(ho:o.op=.indexAddr t x i)(hd:o.dst=some d)
  (h:sM B U N (AH a) w M)(hN:a.tmps.size=N)(hf:fits N o=true)(g:Bc cx q o U K=some z):AT P B N o a w K z:=by
 have L:∀y∈(o.op.operands.toList),Cj N y=true:=Bg hf;rw[ho]at L;have Q:=h.tZ hG (h.sN (L x (by simp[Op.operands])));have hi:=h.sN (L i (by simp[Op.operands]));have E:∀v,(Instr.indexAt t (a.eval x) (a.eval i)).run P w=.ok v w->(execOp a.eval o).run P w=.ok (.value v) w:=fun v hv=>by simp[execOp,ho,hv]
 simp[Bc,ho,hd]at g;split at g
 case h_2=>grind
 rename_i k j h7;rw[h7]at hi;have h8:=Ay.int hi;rw[h8]at E;simp[AE.uE]at g;split at g
 
 rename_i e l V;rw[V]at Q;split at g;rename_i S;have⟨O,u⟩:=H.T t _ S;obtain⟨t',hu,f,-⟩:=BQ u;have⟨I⟩:=AK (AS f);have⟨y,X,g⟩:=B8.1 g;have⟨h0,h1,h2⟩:=Yc X;have h6:e.sh=e:=by simpa[Ty.sh]using O
 have⟨A,n,c,R,hv,hA,hn,g0,m,hS,hR⟩:=Ci.elem h6 Q h2;refine AT.set hd hN (E _ (by rw[hv];exact Wy hu I hA h0 (by omega))) h (av:=.vptr e y) ?_ g;exact⟨A.block,A.off+j.toNat*e.cells,R,rfl,m,hS,hR⟩;simp_all
 ·
  rename_i n p V;rw[V]at Q;have⟨r,e,l,Y,X,g⟩:=b0H g;split at g
  ·rename_i S;have⟨O,u⟩:=H.T t _ S;obtain⟨t',hu,f,-⟩:=BQ u;rw[FB]at f;have⟨I⟩:=AK (AS f);rcases Ai g with⟨F,g⟩|⟨-,g⟩
   ·simp at F;have⟨s,A,c,g1,g2,hv,g3,hA,k2⟩:=h.uZ Q Y X;cases A with
    |none=>grind
    |some A=>
     refine AT.set hd hN (E _ (by rw[hv];exact Wy hu I ((hA A rfl).resolve_left (by omega)) F.1 F.2)) h (av:=.ptr n (p++[.idx j.toNat])) ?_ g;refine⟨r,e,A.block,A.off+j.toNat*e.cells,Y,?_,rfl⟩;rw[EQ p _ _ _ g1];simp_all[Cl]
   simp_all
  simp_all
 
 rename_i n p C k' V;rw[V]at Q;have⟨r,e,l,k5,Y,X,g⟩:=gK g;split at g;rename_i S;have⟨O,u⟩:=H.T t _ S;obtain⟨t',hu,f,-⟩:=BQ u;rw[FB]at f;have⟨I⟩:=AK (AS f);rcases Ai g with⟨F,g⟩|⟨-,g⟩;simp at F;have⟨s,O',R',A,n0,c,g1,g2,g3,g4,g5,g6,A',hv,g7,g8⟩:=h.window Q Y X;have g0:n0<=c:=by
  rcases Ct g3 with⟨D,-⟩|⟨A0,nn,c',os,D,-,h9,-⟩<;>simp only[Src.rd,if_true,sj,Value.slice.injEq]at D<;>omega
 rcases Ct g3 with⟨D,-⟩|⟨A0,nn,c',os,D,h4,h9,-⟩;simp[Src.rd]at D;omega;simp[Src.rd]at D;obtain⟨rfl,rfl,rfl⟩:=D;have h4:A0.spot=none:=h4.resolve_left (by omega);rcases g8 with g8|g8;omega;simp[FC h4]at g8;subst g8;refine AT.set hd hN (E _ (by rw[hv];exact Wy hu I rfl F.1 F.2)) h (av:=.ptr n (p++[.idx (C+j.toNat)])) ?_ g;refine⟨r,e,A0.block,A0.off+(C+j.toNat)*e.cells,Y,?_,by grind⟩;rw[EQ p _ _ _ g1];have k4:C+j.toNat<n0:=by omega
 simp_all[Cl];simp_all;simp_all
 
 rename_i n p V;rw[V]at Q;split at g;rename_i r Y;split at g;rename_i k' e l' X;split at g;rename_i S;have⟨O,u⟩:=H.T t _ S;obtain⟨t',hu,f,-⟩:=RH u;rw[FB]at f;have⟨I⟩:=AK (AS f);rcases Ai g with⟨F,g⟩|⟨-,g⟩;simp at F;have⟨r',tt,b,C,h1,h2,h3⟩:=Q;rw[Y]at h1;simp at h1;subst h1;obtain⟨O1,R1,l1,l2,-⟩:=h.sep Y;obtain⟨y,O',R',_,_,_,_,g3,g4,-⟩:=BT p r.t _ l1 h2;rw[X]at g4;have k0:Ty.arr k' e=tt:=cG Sigma.fst g4;subst k0;refine AT.set hd hN (E _ (by rw[h3];exact Wz hu I F.1 F.2)) h (av:=.ptr n (p++[.idx j.toNat])) ?_ g;refine⟨r,e,b,C+j.toNat*e.cells,Y,?_,rfl⟩;rw[EQ p _ _ _ h2];simp_all[Cl];simp_all;simp_all;simp_all;simp_all
 
 rename_i k' e l V;rw[V]at Q;split at g;rename_i S;have⟨O,u⟩:=H.T t _ S;obtain⟨t',hu,f,-⟩:=RH u;have⟨I⟩:=AK (AS f);have⟨y,X,g⟩:=B8.1 g;have⟨h0,h1,h2⟩:=Yc X;have⟨b,C,R,hv,m,hS,hR⟩:=Q;have m:Ak (fun i=>AL (Af w M.ov) e fun j=>(Src.at b C).rd (Af w M.ov) (i*e.cells+j)) k' 0=some (l,[],R):=m;simp[Og]at m;have k1:=AX k' 0 m;have⟨y',o',r',A,B',A',k3,h5,hy,e1,e2⟩:=Bb k' 0 j.toNat m (by omega);rw[h2]at hy;simp at hy;subst hy;have g9:o'=[]:=by
  simp_all
 subst g9;simp at h5;refine AT.set hd hN (E _ (by rw[hv];exact Wz hu I h0 (by omega))) h (av:=.vptr e y) ?_ g;exact⟨b,C+j.toNat*e.cells,r',rfl,h5,hS,fun c F=>hR c (by grind)⟩;simp_all;simp_all
theorem qC{o:Oper}{t:TypeId}{x:Operand}{f d:Nat}{cx:Cx}{q:Bool}{K:AE->Rs Z}{z:Z}(D:CxTy P cx)(Q:o.op=.fieldAddr t x f)(L:o.dst=some d) (h:sM B U N (AH a) w M)(hN:a.tmps.size=N)(hf:fits N o=true)(j:Bc cx q o U K=some z):AT P B N o a w K z:=by(have m:∀y∈(o.op.operands.toList),Cj N y=true:=Bg hf;rw[Q]at m;have G:=h.sN (m x (by simp[Op.operands]));have F:∀v,(Instr.fieldAt t (a.eval x) f).run P w=.ok v w->(execOp a.eval o).run P w=.ok (.value v) w:=fun v Y=>by simp[execOp,Q,Y]);(simp[Bc,Q,L]at j;split at j;rename_i n p O;rw[O]at G;split at j;rename_i r V;generalize hg:Em p r.t r.x=gg at j;have⟨H,y⟩:=gg;simp only at j;split at j;rename_i u;have⟨X,i⟩:=D.T t _ u.2;rw[FB]at i;have⟨τ',k,h5,h4⟩:=Wv (w:=w) (b:=0) (o:=0) i u.1;have⟨r',t1,b,g,I,h2,h3⟩:=G;rw[V]at I;simp at I;subst I;obtain⟨O1,R1,l1,l2,-⟩:=h.sep V;obtain⟨y',O',R',_,_,_,_,g3,l,-⟩:=BT p r.t _ l1 h2;have l:=hg.symm.trans l;have C:H=t1:=cG Sigma.fst l;subst C;have⟨τ2,k2,A,e⟩:=Wv (P:=P) (w:=w) (b:=b) (o:=g) i u.1;refine AT.set L hN (F _ (by rw[h3];omega)) h (av:=.ptr n (p++BD f)) ?_ j;exact⟨r,τ2,b,g+k2,V,by rw[EQ p _ _ _ h2];simp_all,rfl⟩;simp_all;simp_all;rename_i H y O;rw[O]at G;split at j;rename_i u;have⟨X,i⟩:=D.T t _ u.2;have⟨b,g,R,Y,E,hS,hR⟩:=G;have⟨τ2,k2,A,e⟩:=Wv (P:=P) (w:=w) (b:=b) (o:=g) i u.1;generalize hg:Em (BD f) H y=gg at j;have⟨t2,y2⟩:=gg;simp only at j;have⟨y',O',R',A1,B1,h6,h7,g3,l,e1,e2⟩:=BT (BD f) H (.at b g) E (e _ _ _);have l:=hg.symm.trans l;have C:t2=τ2:=cG Sigma.fst l;subst C;have h0:=eq_of_heq (Sigma.mk.inj l).2;subst h0;have S:O'=[]:=by simp_all);subst S;refine AT.set L hN (F _ (by rw[Y];omega)) h (av:=.vptr t2 y2) ?_ j;exact⟨b,g+k2,R',rfl,g3,hS,fun c u=>hR c (by grind)⟩;simp_all;simp_all
theorem sM.yY{tm:Nat->Value}{ty:Ty}{t:TypeId}{av:AV}{u:Value}{q:Bool}{K:AV->AE->Rs Z}{z:Z}(hty:AQ P ty (.inl t)=true)(g0:ty.sh=ty)
  (h:sM B U N tm w M)(hx:Ay (Af w M.ov) M.g U.rt (Ba B w M) av u)(o:U.wM q ty av K=some z):
  ∃v L M' O,(Instr.loadAt t u).run P w=.ok v w/\sM B L N tm w M'/\Ay (Af w M'.ov) M'.g L.rt (Ba B w M') O v/\K O L=some z/\
   ((L=U/\M'=M)\/(q=false/\∃n,av=.ptr n []/\L=(U.sJ (AV.drop n)).sI n none)):=by
 simp[AE.wM]at o;split at o
 ·
  rename_i Y y;split at o
  ·rename_i A;subst A;obtain⟨b,d,R,hv,V,hS,hR⟩:=hx;have f:∀j,j<Y.cells->w.cell? ⟨b,d+j,none⟩=Af w M.ov b (d+j):=by
    intro j _;cases a:M.ov with
    |none=>rfl
    |some y0=>
     obtain⟨b',o',v'⟩:=y0;simp only[Af];rw[if_neg];rintro⟨rfl,-⟩;have E:=h.pend;cases C:U.pd with
     |none=>rw[C,a]at E;exact E
     |some y1=>
      obtain⟨n,p,dd⟩:=y1;rw[C,a]at E;obtain⟨r,e,I,hl⟩:=E;rw[<-a]at hl;exact hS.2.2 ⟨n,h.place I hl⟩
   obtain⟨v,F,k⟩:=UN (P:=P) (w:=w) (Sh:=Ba B w M) hty V f hR;exact⟨_,_,_,.val Y y,(by simp_all),h,k,o,.inl ⟨rfl,rfl⟩⟩
  simp_all
 ·
  rename_i n p;split at o
  ·rename_i r I;obtain⟨C,I⟩:=AR I;have a:M.ov=none:=by
    have E:=h.pend;rw[C]at E;cases a:M.ov with
    |none=>rfl
    |some y=>rw[a]at E;exact E.elim
   have f:∀b j,w.cell? ⟨b,j,none⟩=Af w M.ov b j:=fun b j=>by rw[a];rfl
   obtain⟨r',t1,b,d,h1,h2,h3⟩:=hx;rw[I]at h1;simp at h1;subst h1;obtain⟨O1,R1,l1,l2,l3,l4,l5,l6⟩:=h.sep I;obtain⟨y',O',R',A1,B1,h7,h8,g3,Q,e1,e2⟩:=BT p r.t _ l1 h2;split at o;rename_i e l hg;rw[hg]at Q;have A:Ty.list true e=t1:=cG Sigma.fst Q;subst A;split at o;rename_i H;obtain⟨v,hv,hs⟩:=Kj _ g3 0 (by simp[Ty.cells]);have hw:w.cell? ⟨b,d,none⟩=some v:=by rw[f];exact hv
   have T:ty.isAgg=false:=by cases ty<;>first|rfl|cases H
   refine⟨v,U,M,.sref n p,?_,h,⟨r,e,.at b d,I,h2,hv⟩,o,.inl ⟨rfl,rfl⟩⟩;rw[h3];simp[Instr.loadAt,Instr.sureAddr,loadVar,Mj hty,T,hw];simp_all;rename_i Y y h9 hg;rw[hg]at Q;have A:Y=t1:=cG Sigma.fst Q;subst A;have h6:=eq_of_heq (Sigma.mk.inj Q).2;subst h6;split at o;rename_i i;obtain⟨i,X⟩:=i;have h5:=RI X g3;subst h5;obtain⟨v,F,k⟩:=UN (P:=P) (w:=w) (Sh:=Ba B w M) (t:=t) (by grind[FB]) g3 (fun j _=>f b (d+j)) (fun c hc=>l2 c (by simp_all));exact⟨_,_,_,.val Y y,(by simp_all),h,k,o,.inl ⟨rfl,rfl⟩⟩;split at o;split at o;rename_i i;subst i;simp[Cl]at h2;obtain⟨rfl,h0⟩:=h2;obtain⟨R2,k1,k2⟩:=cK _ l1;rw[h0]at k1;have G:=h.drop (n:=n) (by simp_all);have S:∀c∈R2,Ba B w ⟨M.g,fun m=>if m=n then[]else M.ow m,M.ov⟩ c:=by
    intro c hc;rcases k2 c hc with g|g;have D:BB M c:=⟨n,l4 c g⟩;refine⟨h.lt D,.inr (h.mine c D),fun⟨m,hm⟩=>?_⟩;have hm:c∈(if m=n then[]else M.ow m).map (·.1):=hm
    split at hm;simp_all;rename_i h4;exact h.sV m n h4 c hm (l4 c g);exact sM.tT c (l2 c g)
   obtain⟨v,F,k⟩:=UN (P:=P) (w:=w) (m:=Af w M.ov) (t:=t) (by grind[FB,Ty.wO]) k1 (fun j _=>f b (d+j)) S;exact⟨_,_,_,.val r.t.tO (Ty.vJ r.t r.x),(by simp_all),G,k,o,.inr ⟨rfl,n,rfl,rfl⟩⟩;simp_all;simp_all
  simp_all
 simp_all
theorem b4g{o:Oper}{t:TypeId}{x:Operand}{d:Nat}{cx:Cx}{q:Bool}{K:AE->Rs Z}{z:Z}(H:CxTy P cx)(hG:gD cx.G B)(O:o.op=.load t x)(hd:o.dst=some d)
  (h:sM B U N (AH a) w M)(hN:a.tmps.size=N)(hf:fits N o=true)(D:Bc cx q o U K=some z):AT P B N o a w K z:=by
 have k:∀y∈(o.op.operands.toList),Cj N y=true:=Bg hf;rw[O]at k;have hx:=h.tZ hG (h.sN (k x (by simp[Op.operands])));have V:∀v,(Instr.loadAt t (a.eval x)).run P w=.ok v w->(execOp a.eval o).run P w=.ok (.value v) w:=fun v hv=>by simp[execOp,O,hv]
 simp[Bc,O,hd]at D;split at D
 case h_2=>grind
 rename_i ty hT;obtain⟨h4,h5⟩:=H.T t _ hT;split at D
 case h_2=>
  grind[sM.yY,AT.set]
 rename_i n r f;have f:U.whole (cx.K d) ty (U.sN x)=some (n,r):=by
  grind
 unfold AE.whole at f;split at f
 ·rename_i m S;split at f
  ·rename_i e L;split at f
   ·rename_i hc;simp at f;obtain⟨rfl,rfl⟩:=f;obtain⟨F,-,-,u⟩:=hc;obtain⟨p,hr⟩:=AR L;have l:M.ov=none:=by
     have Q:=h.pend;rw[p]at Q;cases l:M.ov with
     |none=>rfl
     |some y=>rw[l]at Q;exact Q.elim
    have C:=h.sN (k x (by simp[Op.operands]));rw[S]at C;obtain⟨r2,t1,b,h6,E,Y,h3⟩:=C;rw[hr]at E;simp at E;subst E;obtain⟨X,hg,c⟩:=h.xN hr F p;simp[Cl]at Y;obtain⟨-,i⟩:=Y;rw[hg]at i;simp at i;obtain⟨rfl,rfl⟩:=i;obtain⟨O',R,k1,k2,k3⟩:=(c.roots m ⟨true,e.t.tO,Ty.vJ e.t e.x⟩ (by simp[AE.sI])).rd;have hO:=RI (Ty.wP e.t) k1;subst hO;have I:(Src.at X 0).rd (Af w M.ov)=(M.g m).rd (Af w M.ov):=by grind
    obtain⟨v,h0,A⟩:=UN (P:=P) (w:=w) (m:=Af w M.ov) (τ:=e.t.tO) (b:=X) (o:=0) (by rw[<-FB,Ty.wO,u];omega) (by rw[I];omega) (fun j _=>by rw[l];rfl) k2;exact AT.set hd hN (av:=.val e.t.tO (Ty.vJ e.t e.x)) (V _ (by simp_all)) c A D
   simp_all
  simp_all
 simp_all
end
theorem qD{α:Type}{f:Nat->Option (α×CI×List Nat)}{S:Nat->Prop}:∀(l:List α)(i:Nat),(∀j x,l[j]?=some x->∃r,f (i+j)=some (x,[],r)/\∀c∈r,S c)->∃g,Ak f l.length i=some (l,[],g)/\∀c∈g,S c|[],i,_=>⟨[],rfl,by simp⟩|x::l,i,h=>by obtain⟨r,k,a⟩:=h 0 x rfl;obtain⟨g,b,d⟩:=qD l (i+1) (fun j y m=>by have:=h (j+1) y (by simp_all);rwa [show i+(j+1)=i+1+j from by omega]at this);refine⟨r++g,?_,fun c e=>?_⟩;simp_all[Ak];grind
theorem tV.mono{r s O}(h:tV m Sh r s O)(d:∀c,Sh c->Sh' c):tV m Sh' r s O:=by have⟨g,R,f,k,a⟩:=h.rd;exact⟨g,R,f,fun c b=>d c (k c b),a⟩
theorem sM.fresh{Z:Type}{B U N tm w M}{q:Bool}{n:Nat}{r:sP}{K:AE->Rs Z}{z:Z}(h:sM B U N tm w M)(f:U.fresh q n r K=some z){w':World}
  (a:∀c,c<w.heap.size->w'.heap[c]?=w.heap[c]?)(l:w.heap.size<=w'.heap.size){s:Src}{O:CI}(v:∀c∈O.map (·.1),w.heap.size<=c)(i:(O.map (·.1)).Nodup)
  (d:∀p∈O,BY w' p.1 p.2)(j:tV (Af w' M.ov) (Ba B w M) r s O)(hio:Gr w'=Gr w:=by first|rfl|assumption):∃o t,K o=some z/\sM B o N tm w' t/\o.rt n=some r/\t.g n=s/\t.ov=M.ov/\o=U.uM n r:=by
 unfold AE.fresh at f;have⟨b,f⟩:=(Ai f).elim id fun h=>by grind
 have b:n<pinned:=by simp_all
 split at f;rename_i u;have e:U.uM n r=U.sI n (some r):=by unfold AE.uM;grind
 refine⟨_,⟨fun m=>if m=n then s else M.g m,fun m=>if m=n then O else M.ow m,M.ov⟩,f,by rw[e];exact h.add u b a l v i d j,by rw[e];simp[AE.sI],by simp,rfl,rfl⟩
 rename_i F u;rcases Ai f with⟨-,f⟩|⟨-,f⟩;grind;split at f;grind;rename_i G D;obtain⟨E,-⟩:=AR D;have e:U.uM n r=((U.sJ (AV.drop n)).sI n none).sI n (some r):=by
  unfold AE.uM;rw[u];simp only[AE.sI,AE.sJ];grind
 have C:=h.drop (n:=n) (by simp_all);refine⟨_,⟨fun m=>if m=n then s else M.g m,fun m=>if m=n then O else(if m=n then[]else M.ow m),M.ov⟩,f,by rw[e];exact C.add (n:=n) (by simp[AE.sI]) b a l v i d (j.mono fun c A=>sM.tT c A),by rw[e];simp[AE.sI],?_,rfl,rfl⟩
 simp
where
 rt_ne' {n k:Nat} {x y:Option sP} (h:k≠n):(bif k==n then x else y)=y:=by
  grind
theorem b4h(w:World)(o:Obj)(c:Nat)(h:c<w.heap.size):(w.alloc o).heap[c]?=w.heap[c]?:=by simp only[World.alloc,Array.getElem?_push];grind
theorem WA{P:Program}:∀(f:Nat)(τ:Ty)(fs:List Field)(off:Nat),AQ P τ (.inr (fs,off))=true->Di τ f=true->∃g τ' k,fs[f]?=some g/\g.offset=off+k/\AQ P τ' (.inl g.type)=true/\k+τ'.cells<=τ.cells/\∀(m:DU) rd x O R,AL m τ rd=some (x,O,R)->∃y d i,AL m τ' (fun j=>rd (k+j))=some (y,d,i)/\Dc τ x (BD f)=⟨τ',y⟩/\(O=[]->d=[])/\∀c∈i,c∈R|0,τ,fs,off,h,l=>(by cases τ with|pair a b=>(cases fs with|nil=>simp[AQ]at h|cons g r=>simp[AQ]at h;refine⟨g,a,0,rfl,by omega,h.1.1.2,by simp[Ty.cells],fun m rd x O R p=>?_⟩;obtain⟨w,q,u,z,t,v,E,F,rfl,rfl,rfl⟩:=CK p;exact⟨w,q,u,by simp_all,rfl,fun e=>(C7.1 e).1,fun c o=>A9 _ o⟩)|_=>simp[Di]at l)|f+1,τ,fs,off,h,l=>by cases τ with|pair a b=>(cases fs with|nil=>simp[AQ]at h|cons g r=>simp only[AQ,bA]at h;have⟨n,τ',k,E,F,G,L,H⟩:=WA f b r (off+a.cells) h.2 l;refine⟨n,τ',a.cells+k,by simp_all,by omega,G,by grind[Ty.cells],fun m rd x O R p=>?_⟩;obtain⟨w,q,u,z,t,v,I,A,rfl,rfl,rfl⟩:=CK p;have⟨y,d,i,K,B,C,D⟩:=H m _ z t v A;refine⟨y,d,i,?_,B,fun e=>C (C7.1 e).2,fun c o=>A8 _ (D c o)⟩;grind)|_=>simp[Di]at l
theorem a7j{m Sh}{τ':Ty}{off:Nat}{y R}(f:AQ P τ' (.inl t)=true)(h:AL m τ' (fun j=>cs[off+j]?)=some (y,[],R))(k:∀c∈R,Sh c)(i:off+τ'.cells<=cs.size):∃v,(part t cs off).run P w=.ok v w/\Ci m Sh τ' y v:=by have⟨I⟩:=AK (AS f);cases hagg:τ'.isAgg with|true=>refine⟨.agg (cs.extract off (off+τ'.cells)),by simp[part,Mj f,hagg,I.sizeOf],fun _=>⟨_,rfl,by simp_all⟩,fun g=>(by simp_all),R,?_,k⟩;refine AF τ' h (fun j d=>?_) (fun _ _ _=>rfl);simp_all[Value.cells]|false=>have b:=UM hagg;have⟨v,a,e⟩:=Kj τ' h 0 (by omega);simp at a;refine⟨v,by simp[part,Mj f,hagg,a],Ci.one hagg e (AF τ' h (fun j d=>?_) (fun _ _ _=>rfl)) k b⟩;simp_all[Src.rd]
section
variable {P:Program} {B:Base} {N:Nat} {Z:Type} {U:AE} {a:Act} {w:World} {M:Gh}
theorem b0J{o:Oper}{t:TypeId}{x:Operand}{f d:Nat}{cx:Cx}{q:Bool}{K:AE->Rs Z}{z:Z}(n:CxTy P cx)(E:o.op=.field t x f)(D:o.dst=some d) (h:sM B U N (AH a) w M)(Y:a.tmps.size=N)(hf:fits N o=true)(e:Bc cx q o U K=some z):AT P B N o a w K z:=by(have g:∀y∈(o.op.operands.toList),Cj N y=true:=Bg hf;rw[E]at g;have G:=h.sN (g x (by simp[Op.operands]));simp[Bc,E,D]at e;split at e;rename_i m y he;rw[he]at G;split at e;rename_i b;have⟨h6,u⟩:=n.T t _ b.2;have⟨L,hu,hs⟩:=SC u b.1;have⟨I,τ',k,h1,h2,V,h4,X⟩:=WA f m _ 0 hs b.1;have⟨O,g2,R,C,Q⟩:=G;have i:m.isAgg=true:=by cases m<;>first|rfl|(cases f<;>simp[Di]at b));(have⟨cs,hv,h0⟩:=O i;rw[hv]at C;have⟨y',O',R',k1,l,k3,k4⟩:=X _ _ _ _ _ C;have p:=k3 rfl;subst p;generalize hg:Em (BD f) m y=gg at e;have⟨H,y2⟩:=gg;simp only at e;have l:=hg.symm.trans l;have r:H=τ':=cG Sigma.fst l;subst r;have A:=eq_of_heq (Sigma.mk.inj l).2;subst A;have⟨v,F,j⟩:=a7j (P:=P) (w:=w) (cs:=cs) (off:=k) V k1 (fun c b=>Q c (k4 c b)) (by omega);have S:L[f]?=some I:=by simp_all);refine AT.set D Y (v:=v) ?_ h (av:=.val H y2) j e;simp_all[execOp,Instr.field,run_underlying,asAgg];simp_all;simp_all
theorem b0K{o:Oper}{t:TypeId}{x i:Operand}{d:Nat}{cx:Cx}{q:Bool}{K:AE->Rs Z}{z:Z}(F:CxTy P cx)(ho:o.op=.index t x i)(hd:o.dst=some d) (h:sM B U N (AH a) w M)(hN:a.tmps.size=N)(hf:fits N o=true)(f:Bc cx q o U K=some z):AT P B N o a w K z:=by
 have g:∀y∈(o.op.operands.toList),Cj N y=true:=Bg hf;rw[ho]at g;have X:=h.sN (g x (by simp[Op.operands]));have V:=h.sN (g i (by simp[Op.operands]));have m:∀v,(Instr.index t (a.eval x) (a.eval i)).run P w=.ok v w->(execOp a.eval o).run P w=.ok (.value v) w:=fun v Q=>by simp[execOp,ho,Q]
 simp[Bc,ho,hd]at f;split at f;rename_i n e l k j C p;rw[C]at X;rw[p]at V;have r:=Ay.int V;rw[r]at m;split at f;rename_i Y;have⟨h9,u⟩:=F.T t _ Y;obtain⟨t',hu,O,-⟩:=RH u;have⟨I⟩:=AK (AS O);have⟨y,hg,f⟩:=B8.1 f;have⟨h0,h1,E⟩:=Yc hg;have⟨g1,g2,R,D,g4⟩:=X;have⟨cs,Q,h3⟩:=g1 rfl;rw[Q]at D;have D:Ak (fun i=>AL (Af w M.ov) e fun j=>cs[i*e.cells+j]?) n 0=some (l,[],R):=D;have h6:=AX n 0 D;have⟨y',o',r',A,B',A',h7,G,hy,e1,e2⟩:=Bb n 0 j.toNat D (by omega);rw[E]at hy;simp at hy;subst hy;have h4:o'=[]:=by simp_all
 subst h4;simp at G;have h5:j.toNat*e.cells+e.cells<=cs.size:=by rw[h3];simp[Ty.cells];rw[<-A7];exact A4 _ (by omega)
 have⟨v,L,S⟩:=a7j (P:=P) (w:=w) (cs:=cs) O G (fun c hc=>g4 c (by grind)) h5;have hc:0<=j/\j<(n:Int):=⟨h0,by omega⟩;refine AT.set hd hN (v:=v) (m _ ?_) h (av:=.val e y) S f;rw[Q];simp[Instr.index,asIntOf,run_underlying hu,hc,I.sizeOf,L];simp_all;rename_i l k j C p;rw[C]at X;rw[p]at V;have r:=Ay.int V;rw[r]at m;split at f;rename_i Y;have u:=(F.T t _ Y).2;have hu:P.underlying t=some .string:=by simp[AQ]at u;grind
 have⟨y,hg,f⟩:=B8.1 f;have⟨h0,h1,E⟩:=Yc hg;have⟨s,Q,hl⟩:=Ay.str X;rw[hl,D7]at E;cases hb:s.data.toList[j.toNat]? with|none=>simp_all|some b=>(rw[hb]at E;simp at E;have hs:s[j.toNat]?=some b:=by(have h8:j.toNat<s.data.toList.length:=(lS.1 hb).1;have H:j.toNat<s.size:=by simp_all);rw[getElem?_pos s j.toNat H];have:=(lS.1 hb).2;rw[<-this];rfl);refine AT.set hd hN (v:=.int .u8 b.toNat) (m _ ?_) h (av:=.val (.int .u8) y) (by simp_all[Ay.tJ]) f;simp_all[Instr.index,asIntOf,run_underlying]
 simp_all;simp_all
theorem gL{f:Int->Int->Int}{g:Value->Value->Sem Value}{k:IntKind}(e:∀x y w,(g (.int k x) (.int k y)).run P w=.ok (.int k (f x y)) w):∀(l:List Operand)(x:Int){K:AV->Rs Z}{z:Z},sM B U N (AH a) w M->(∀y∈l,Cj N y=true)->AE.wG f k (l.map U.sN) x K=some z->∃r,K (.val (.int k) r)=some z/\((l.map a.eval).foldlM g (.int k x)).run P w=.ok (.int k r) w|[],x,K,z,h,d,b=>⟨x,b,rfl⟩|y::l,x,K,z,h,d,b=>by simp at b;unfold AE.wG at b;split at b;simp_all;rename_i x v n A c;simp at c;obtain⟨c,rfl⟩:=c;split at b;rename_i m;subst m;have i:=h.sN (d y (by simp));rw[c]at i;have t:=Ay.int i;have⟨r,j,o⟩:=gL e l _ h (fun u q=>d u (by grind)) b;refine⟨r,j,?_⟩;have p:=fun z=>e z n w;simp_all;simp_all;simp_all
theorem b4i{x:Operand}{K:Nat->Rs Z}{z:Z}(j:CxTy P cx)(h:sM B U N (AH a) w M)(g:Cj N x=true)(m:U.vY (cx.T t) (U.sN x) K=some z)(ty:TypeId):∃n,K n=some z/\(Builtin.len_ #[t] ty #[a.eval x]).run P w=.ok (.int .i64 (n:Int)) w:=by(have g:=h.sN g;have y:∀o e,cx.T t=some (.list o e)->∀A n c,a.eval x=.slice A n c->(Builtin.len_ #[t] ty #[a.eval x]).run P w=.ok (.int .i64 (n:Int)) w:=by intro o e b A n c q;have⟨v,d⟩:=j.T t _ b;obtain⟨O,E,C,-⟩:=BQ d;simp_all[Builtin.len_,run_underlying,goInt]);(unfold AE.vY at m;split at m;rename_i o e F u l b f;rw[f]at g;have⟨R,i,G⟩:=Ci.rd (t:=.list F u) g rfl rfl;have i:Cq (Af w M.ov) F u.cells (AL (Af w M.ov) u) (some (a.eval x))=some (l,[],R):=i;unfold Cq at i;split at i;grind;rename_i A n c q;simp at q;split at i;split at i;grind;rename_i xs os rs D;have hn:=AX n 0 D;grind;simp_all;simp_all;rename_i n e n' u l b f;have⟨v,d⟩:=j.T t _ b;obtain⟨O,E,C,-⟩:=RH d;exact⟨n,m,by simp_all[Builtin.len_,run_underlying,goInt]⟩;rename_i l b f;rw[f]at g;have⟨s,q,Y⟩:=Ay.str g;have d:=(j.T t _ b).2;have E:P.underlying t=some .string:=by simp[AQ]at d;grind);refine⟨_,m,?_⟩;simp_all[Builtin.len_,run_underlying,goInt];rename_i b f;rw[f]at g;exact⟨0,m,y _ _ b _ _ _ g⟩;rename_i b f;rw[f]at g;have⟨A,q⟩:=g;grind;rename_i n p b f;rw[f]at g;split at m;rename_i r I;split at m;rename_i u l H;obtain⟨s,A,c,-,-,q,-⟩:=h.uZ g (AR I).2 H;grind;simp_all;simp_all;rename_i n p L k b f;rw[f]at g;obtain⟨r,e,s,a0,l0,S,i,G,D,V,Q,q,X,-⟩:=g;grind;simp_all
end
theorem sM.yN{B U N tm w M}(h:sM B U N tm w M){b o v}(g:M.ov=some (b,o,v)):b<w.heap.size:=by have f:=h.pend;rw[g]at f;cases hpd:U.pd with|none=>rw[hpd]at f;exact f.elim|some x=>have⟨n,p,d⟩:=x;rw[hpd]at f;have⟨r,e,a,k⟩:=f;rw[<-g]at k;exact h.lt ⟨n,h.place a k⟩
theorem sM.vO{B U N tm w M}(h:sM B U N tm w M){e k}(f:w'.heap[w.heap.size]?=some (.cells cs e k))(j:Nat):Af w' M.ov w.heap.size j=cs[j]?:=by(have a:w'.cell? ⟨w.heap.size,j,none⟩=cs[j]?:=by simp_all[World.cell?]);unfold Af;split;rename_i b o v g;have:=h.yN g;grind;omega
theorem sM.vP{B U N tm w M}(_:sM B U N tm w M)(h:∀c,c<w.heap.size->w'.heap[c]?=w.heap[c]?){j:Nat}(g:c<w.heap.size):Af w' M.ov c j=Af w M.ov c j:=BE _ (h c g) j
theorem sM.xB{Z:Type}{B U N tm w M}{q:Bool}{n:Nat}{t:Ty}{x:t.sK}{K:AE->Rs Z}{z:Z}(h:sM B U N tm w M)(A:U.fresh q n ⟨true,t,x⟩ K=some z){w':World} (f:∀c,c<w.heap.size->w'.heap[c]?=w.heap[c]?)(i:w.heap.size<=w'.heap.size){cs:Array Value}{e:TypeId}(k:w'.heap[w.heap.size]?=some (.cells cs e (0,0)))(u:cs.size=t.cells){R} (y:AL (Af w M.ov) t (fun j=>cs[j]?)=some (x,[],R))(l:∀c∈R,Ba B w M c)(hio:Gr w'=Gr w:=by first|rfl|assumption):∃d a,K d=some z/\sM B d N tm w' a/\Ay (Af w' a.ov) a.g d.rt (Ba B w' a) (.ptr n []) (.pointer (some ⟨w.heap.size,0,none⟩)):=by have v:AL (Af w' M.ov) t ((Src.at w.heap.size 0).rd (Af w' M.ov))=some (x,[],R):=AF t y (fun j _=>by simp[Src.rd];exact h.vO k j) (fun b j hb=>by rcases hb with hb|hb;simp_all;exact h.vP f (l b hb).1);have⟨d,a,m,o,p,r,C,D⟩:=h.fresh A f i (s:=.at w.heap.size 0) (O:=[(w.heap.size,t.cells)]) (by simp) (by simp) (by simp;exact⟨cs,e,0,0,k,by omega,.inl rfl⟩) ⟨[],R,v,l,.inl ⟨rfl,_,rfl,rfl⟩⟩;exact⟨d,a,m,o,_,t,w.heap.size,0,p,by rw[r];rfl,rfl⟩
theorem sM.uW{Z:Type}{B U N tm w M}{q:Bool}{n:Nat}{e:Ty}{l:List e.sK}{K:AE->Rs Z}{z:Z}(h:sM B U N tm w M)(Q:U.fresh q n ⟨false,.list true e,l⟩ K=some z){w':World}
  (f:∀c,c<w.heap.size->w'.heap[c]?=w.heap[c]?)(v:w.heap.size<=w'.heap.size){cs:Array Value}{t:TypeId}{m}(k:w'.heap[w.heap.size]?=some (.cells cs t m)){c:Nat}(r:m.2=m.1\/c*e.cells<=m.1)(o:c*e.cells<=cs.size)(I:l.length<=c){R}
  (L:Ak (fun i=>AL (Af w M.ov) e fun j=>cs[i*e.cells+j]?) l.length 0=some (l,[],R))(x:∀c∈R,Ba B w M c)(hio:Gr w'=Gr w:=by first|rfl|assumption):
  ∃d a,K d=some z/\sM B d N tm w' a/\Ay (Af w' a.ov) a.g d.rt (Ba B w' a) (.sref n []) (.slice (some ⟨w.heap.size,0,none⟩) l.length c)/\a.ov=M.ov/\d=U.uM n ⟨false,.list true e,l⟩:=by
 have P:Ak (fun i=>AL (Af w' M.ov) e fun j=>Af w' M.ov w.heap.size (0+(i*e.cells+j))) l.length 0=some (l,[],R):=by
  have G:AL (Af w M.ov) (.arr l.length e) (fun j=>cs[j]?)=some (l,[],R):=L;refine AF (.arr l.length e) G (rd':=fun j=>Af w' M.ov w.heap.size (0+j)) (fun j _=>?_) (fun b j hb=>?_);show Af w' M.ov w.heap.size (0+j)=_;rw[C1];exact h.vO k j;rcases hb with hb|hb;simp_all;exact h.vP f (x b hb).1
 have u:BY w' w.heap.size (c*e.cells):=⟨cs,t,m.1,m.2,k,o,r⟩
 let O:CI:=if c=0 then[]else[(w.heap.size,0+c*e.cells)]
 have S:∀p∈O,p=(w.heap.size,0+c*e.cells):=by
  grind
 have H:AL (Af w' M.ov) (.list true e) ((Src.one (.slice (some ⟨w.heap.size,0,none⟩) l.length c)).rd (Af w' M.ov))=some (l,O,R):=by
  show Cq (Af w' M.ov) true e.cells (AL (Af w' M.ov) e) (some (.slice (some ⟨w.heap.size,0,none⟩) l.length c))=_;simp only[Cq];grind
 have⟨d,a,y,A,C,D,E,F⟩:=h.fresh Q f v (s:=.one (.slice (some ⟨w.heap.size,0,none⟩) l.length c)) (O:=O) (by
   grind) (by grind)
  (fun p T=>by grind) ⟨O,R,H,x,.inr ⟨rfl,⟨_,rfl⟩,⟨e,rfl⟩,rfl⟩⟩
 exact⟨d,a,y,A,⟨_,e,_,C,by rw[D];rfl,rfl⟩,E,F⟩
theorem a7k{t:Nat}(g:CxTy P cx)(h:cx.own d t=some τ):AQ P τ (.inl t)=true:=by unfold Cx.own at h;split at h;split at h;rename_i f;simp at h;subst h;rw[<-FB];exact(g.T t _ f).2;simp_all;exact(g.T t _ h).2
theorem qE{z:Array Value}(g:ER e (fun j=>z[j]?)=true)(b:z.size=e.cells)(n:Nat):Ak (fun i=>AL m e fun j=>(madeCells z (n*e.cells))[i*e.cells+j]?) n 0=some (B7 n e.dflt,[],[]):=by(refine SB n 0 fun i _ f=>AF e (Ki (m:=m) e g) (fun j k=>?_) (fun _ _ _=>rfl);have h:i*e.cells+j<n*e.cells:=by have:(i+1)*e.cells<=n*e.cells:=A4 _ (by omega);grind);(have a:(i*e.cells+j)%e.cells=j:=by simp_all[Nat.mod_eq_of_lt]);simp_all[madeCells]
section
variable {P:Program} {B:Base} {N:Nat} {Z:Type} {U:AE} {a:Act} {w:World} {M:Gh}
theorem BF(o:Obj)(c:Nat)(h:c<w.heap.size):(w.alloc o).heap[c]?=w.heap[c]?:=b4h w o c h
theorem Bt(o:Obj):(w.alloc o).heap[w.heap.size]?=some o:=by(show(w.heap.push o)[w.heap.size]?=_);simp
theorem BR(o:Obj):w.heap.size<=(w.alloc o).heap.size:=by simp
theorem AT.sets{K:AE->Rs Z}{z:Z}(c:o.dst=some d)(b:a.tmps.size=N)(k:(execOp a.eval o).run P w=.ok (.value v) w')(h:∃f M',K (f.set d av)=some z/\sM B f N (AH a) w' M'/\Ay (Af w' M'.ov) M'.g f.rt (Ba B w' M') av v):AT P B N o a w K z:=by grind[AT.set]
theorem b0L{o:Oper}{t:TypeId}{d:Nat}{cx:Cx}{q:Bool}{K:AE->Rs Z}{z:Z}(f:CxTy P cx)(i:o.op=.alloc t)(e:o.dst=some d) (h:sM B U N (AH a) w M)(j:a.tmps.size=N)(b:Bc cx q o U K=some z):AT P B N o a w K z:=by(simp[Bc,i,e]at b;split at b;rename_i τ hT;have k:=a7k f hT;have⟨I⟩:=AK (AS k);have g:(execOp a.eval o).run P w=.ok (.value (.pointer (some ⟨w.heap.size,0,none⟩))) (w.alloc (.cells I.z.cells t)):=by simp[execOp,i,Instr.alloc,I.zeroValue,newVar,newRow]);exact AT.sets e j g (h.xB b (fun c l=>BF _ c l) (BR _) (Bt _) I.vB (Ki _ I.zok) (by simp));simp_all
theorem b6v{x:Operand}{K:AE->Rs Z}{z:Z}(G:o.op=.box t x)(C:o.dst=some d)(A:(bif q then none else U.tL x)=none)(h:sM B U N (AH a) w M)(F:a.tmps.size=N)(L:fits N o=true)(i:Bc cx q o U K=some z):AT P B N o a w K z:=by(have O:=h.sN (Bg L x (by simp[G,Op.operands]));simp[Bc,G,C,A]at i;split at i;rename_i τ hT;obtain⟨y,Q,r,i,l,H,-,-⟩:=h.uT (.inl O) i;have e:(execOp a.eval o).run P w=.ok (.value (.pointer (some ⟨w.heap.size,0,none⟩))) (w.alloc (.cells (a.eval x).cells t)):=by simp_all[execOp,Instr.box,newVar,newRow]);obtain⟨-,-,R,E,u⟩:=id H;split at i;(have n:=Bt (w:=w) (.cells (a.eval x).cells t);have k:∀c,c<w.heap.size->(w.alloc (.cells (a.eval x).cells t)).heap[c]?=w.heap[c]?:=fun c f=>BF _ c f;have p:=BR (w:=w) (.cells (a.eval x).cells t);have D:w.heap.size<(w.alloc (.cells (a.eval x).cells t)).heap.size:=by simp);have I:=l.ext k p;have m:AL (Af (w.alloc (.cells (a.eval x).cells t)) r.ov) τ ((Src.at w.heap.size 0).rd (Af (w.alloc (.cells (a.eval x).cells t)) r.ov))=some (y,[],R):=AF τ E (fun j _=>by simp[Src.rd];exact l.vO n j) (fun b j hb=>by rcases hb with hb|hb;simp_all;exact l.vP k (u b hb).1);have v:∀c,Ba B w r c->Ba B (w.alloc (.cells (a.eval x).cells t)) r c:=fun c f=>⟨B3 f.1 p,f.2⟩;exact AT.set C F e I (av:=.vptr τ y) ⟨w.heap.size,0,R,rfl,m,⟨D,.inr (.inr l.size),fun g=>by have:=l.lt g;omega⟩,fun c f=>v c (u c f)⟩ i;exact AT.sets C F e (l.xB i (fun c f=>BF _ c f) (BR _) (Bt _) H.cells.1 E u);simp_all
theorem b0M{t:Ty}{K:t.sK->Rs Z}{z:Z}(h:av.vG t K=some z):∃x,av=.val t x/\K x=some z:=by cases av with|val g x=>simp only[AV.vG]at h;grind|_=>cases h
theorem qF{k:IntKind}{K:Int->Rs Z}{z:Z}(h:av.vG (.int k) K=some z):∃x:Int,av=.val (.int k) x/\K x=some z:=b0M h
theorem qG{o:Oper}{t:TypeId}{x y:Operand}{d:Nat}{cx:Cx}{q:Bool}{K:AE->Rs Z}{z:Z}(j:CxTy P cx)(b:o.op=.makeSlice t x y)(V:o.dst=some d) (h:sM B U N (AH a) w M)(hN:a.tmps.size=N)(E:fits N o=true)(g:Bc cx q o U K=some z):AT P B N o a w K z:=by
 have G:=h.sN (Bg E x (by simp[b,Op.operands]));have H:=h.sN (Bg E y (by simp[b,Op.operands]));simp[Bc,b,V]at g;split at g;rename_i o' e T;have⟨l,v,g⟩:=qF g;have⟨c,C,g⟩:=qF g;rw[v]at G;rw[C]at H;rcases Ai g with⟨k,g⟩|⟨-,g⟩;simp only[bA,dT,AZ]at k;have⟨Q,S,c3⟩:=k;have u:=a7k j T;have⟨D,X,r,F⟩:=BQ u;have⟨I⟩:=AK (AS r);have f:=run_make (P:=P) w t D I.i I.z X I.info I.zero .i64 .i64 l c Q S (by have:=I.bytes;have h1:((I.i.bytes*c.toNat:Nat):Int)<=((32768*2147483648:Nat):Int):=Int.ofNat_le.2 (Nat.mul_le_mul this (by omega));grind) (by omega);rw[I.size]at f;have p:(execOp a.eval o).run P w=.ok (.value (.slice (some ⟨w.heap.size,0,none⟩) l.toNat c.toNat)) (w.alloc (.cells (madeCells I.z.cells (c.toNat*e.cells)) D)):=by simp only[execOp,b,Ay.int G,Ay.int H,Sem.run_bind];simp_all
 have n:=qE (m:=Af w M.ov) I.zok I.vB c.toNat
 obtain⟨U',M',g1,g2,g3,-,-⟩:=h.uW (c:=c.toNat) g (fun c k=>BF _ c k) (BR _) (Bt (Obj.cells (madeCells I.z.cells (c.toNat*e.cells)) D)) (.inl rfl) (by simp_all[size_madeCells]) (by grind) (R:=[]) (by(rw[List.length_replicate];refine SB _ 0 fun i _ hi=>?_);have⟨x',o',r',A,B',A',O,L,Y,k3,k4⟩:=Bb _ 0 i n (by omega);rw[C1]at L;rw[L];rw[List.getElem?_replicate,if_pos (by omega)]at Y;simp_all) (by simp);grind[AT.set];simp_all;simp_all
theorem qH(off:Nat)(l:List Value)(i:Nat)(cs:Array Value):((l.zipIdx i).foldl (fun cs (c:Value×Nat)=>cs.setIfInBounds (off+c.2) c.1) cs).size=cs.size/\∀k,((l.zipIdx i).foldl (fun cs (c:Value×Nat)=>cs.setIfInBounds (off+c.2) c.1) cs)[k]?=if off+i<=k/\k<off+i+l.length/\k<cs.size then l[k-(off+i)]? else cs[k]?:=by induction l generalizing i cs with|nil=>exact⟨rfl,fun k=>by rw[if_neg (by grind)];rfl⟩|cons v l h=>have⟨g,f⟩:=h (i+1) (cs.setIfInBounds (off+i) v);refine⟨by simp_all,fun k=>?_⟩;simp only[List.zipIdx_cons,List.foldl_cons];grind
end
def a5d(t:Ty)(place:Nat->Option (Nat×Nat)):Prop:=∀i,AE.vM t i=true->∃τ' k,place i=some (k,τ'.cells)/\k+τ'.cells<=t.cells/\∀(m:DU) b o,loc m t (.at b o) (AE.pathOf t i)=some (τ',.at b (o+k))
theorem qI(n:Nat)(e:Ty):a5d (.arr n e) fun i=>some (i*e.cells,e.cells):=by intro i h;simp[AE.vM]at h;refine⟨e,i*e.cells,rfl,?_,fun m b o=>?_⟩;have:(i+1)*e.cells<=n*e.cells:=A4 _ (by omega);(rw[A7]at this;exact this;show(if i<n then Cl m [] e (.at b (o+i*e.cells))else none)=_);rw[if_pos h];rfl
theorem b4j(T:∀c,Sh c->c<sz){t g:Ty}{x:t.sK}{R i k}(U:AL m t (fun j=>cs[j]?)=some (x,[],R))(I:∀c∈R,Sh c)(X:∀(m:DU) b o,loc m t (.at b o) (AE.pathOf t i)=some (g,.at b (o+k)))(hk:k+g.cells<=cs.size){y:g.sK}(hv:Ci m Sh g y v):
  ∃E,AL m t (fun j=>(v.cells.zipIdx.foldl (fun cs (c,j)=>cs.setIfInBounds (k+j) c) cs)[j]?)=some (Fp t x (AE.pathOf t i) g y,[],E)/\∀c∈E,Sh c:=by
 obtain⟨h2,-⟩:=hv.cells;obtain⟨-,-,O,C,D⟩:=hv;have a:v.cells.zipIdx.foldl (fun cs (c,j)=>cs.setIfInBounds (k+j) c) cs=(v.cells.toList.zipIdx 0).foldl (fun cs (c:Value×Nat)=>cs.setIfInBounds (k+c.2) c.1) cs:=by
  rw[<-D6];simp
 obtain⟨-,h⟩:=qH k v.cells.toList 0 cs;rw[a];generalize (v.cells.toList.zipIdx 0).foldl (fun cs (c:Value×Nat)=>cs.setIfInBounds (k+c.2) c.1) cs=cs' at h
 let d:DU:=fun c j=>if c=sz then cs[j]? else m c j
 let l:DU:=fun c j=>if c=sz then cs'[j]? else m c j
 have B:∀c,Sh c->c≠sz:=fun c f e=>by grind
 have Y:∀c j,Sh c->d c j=m c j:=fun c j f=>by grind
 have Z:∀c j,Sh c->l c j=m c j:=fun c j f=>by grind
 have G:AL d t ((Src.at sz 0).rd d)=some (x,[],R):=AF t U (fun j _=>by simp[Src.rd,d]) (fun b j hb=>by
  simp_all)
 have q:=X d sz 0;obtain⟨y0,N,R1,A1,B1,K,M,z,-,e1,-⟩:=BT _ t _ G q;have u:N=[]:=by
  simp_all
 subst u;have Q:AL l g ((Src.at sz (0+k)).rd l)=some (y,[],O):=AF g C (fun j V=>by
   simp only[Src.rd,l,if_true,C1,h,Nat.add_zero];rw[if_pos ⟨by omega,by grind,by omega⟩,Nat.add_sub_cancel_left];simp) (fun b j hb=>by
  grind)
 have r:xC (Src.at sz 0) [] R:=⟨by simp,by simp,fun c f=>⟨by simp,fun e=>B c (I c f) e⟩⟩;have p:c4G d l (Src.at sz 0) [] R sz (0+k) g.cells []:=fun c j=>by
  by_cases f:c=sz;by_cases V:k<=j/\j<k+g.cells;omega;refine .inl ?_
  simp only[d,l,if_pos f,h];rw[if_neg (by grind)];grind
 have⟨A,L,F,P,H,S⟩:=b0A _ t _ G q z Q r p;have n:A=[]/\L=[]:=by
  have:=cG A6 P
  simp at this;exact⟨C5.1 (by omega),C5.1 (by omega)⟩
 rw[n.1,n.2]at H;have w:∀c∈F,Sh c:=fun c f=>(S c f).elim (I c) (D c);exact⟨F,AF t H (fun j _=>by simp[Src.rd,l]) (fun b j hb=>by
  grind),w⟩
section
variable {P:Program} {B:Base} {N:Nat} {Z:Type} {U:AE} {a:Act} {w:World} {M:Gh}
theorem ZH{q:Bool}{t:Ty}{d:Nat->Option (Nat×Nat)}(hp:a5d t d):∀(l:List (Nat×Operand)) {U:AE} {M:Gh} {x:t.sK} {cs:Array Value} {R} {K:t.sK->AE->Rs Z} {z:Z},sM B U N (AH a) w M->(∀y∈l,Cj N y.2=true)->cs.size=t.cells->AL (Af w M.ov) t (fun j=>cs[j]?)=some (x,[],R)->(∀c∈R,Ba B w M c)->U.fills q t l x K=some z->∃y g m M' r,K y m=some z/\sM B m N (AH a) w M'/\Instr.fill d cs (l.map fun(i,x)=>(i,a.eval x))=some g/\g.size=t.cells/\AL (Af w M'.ov) t (fun j=>g[j]?)=some (y,[],r)/\(∀c∈r,Ba B w M' c)|[],U,M,x,cs,R,K,z,h,_,H,C,n,f=>⟨x,cs,U,M,R,f,h,rfl,H,C,n⟩|(i,o)::l,U,M,x,cs,R,K,z,h,G,H,C,n,f=>by(unfold AE.fills at f;rcases Ai f with⟨hi,f⟩|⟨-,f⟩;have⟨τ',k,h1,h2,F⟩:=hp i hi;have p:(Dc t x (AE.pathOf t i)).1=τ':=by have Y:AL (fun c j=>if c=w.heap.size then cs[j]? else Af w M.ov c j) t ((Src.at w.heap.size 0).rd fun c j=>if c=w.heap.size then cs[j]? else Af w M.ov c j)=some (x,[],R):=AF t C (fun j _=>by simp[Src.rd]) (fun b j hb=>by rcases hb with hb|hb;simp_all;have:=(n b hb).1;grind);obtain⟨y0,O1,R1,A1,B1,L,O,h7,p,-⟩:=BT _ t _ Y (F _ _ _);grind);(generalize hgg:Dc t x (AE.pathOf t i)=gg at f p;have⟨t2,y2⟩:=gg;simp only at p;subst p;simp only at f;obtain⟨y,U1,P,f,h4,I,e,-⟩:=h.uT (.inl (h.sN (G _ (D5 ..)))) f;have D:AL (Af w P.ov) t (fun j=>cs[j]?)=some (x,[],R):=by rw[e.ov];omega);have⟨r,h5,h6⟩:=b4j (sz:=w.heap.size) (fun c A=>A.1) D (fun c A=>e.shr c (n c A)) F (by omega) I;have⟨y',g,m,M',v,Q,S,g3,T,V,X⟩:=ZH hp l h4 (fun u hu=>G u (List.mem_cons_of_mem _ hu)) (cs:=(a.eval o).cells.zipIdx.foldl (fun cs (c,j)=>cs.setIfInBounds (k+j) c) cs) (by(have E:(a.eval o).cells.zipIdx.foldl (fun cs (c,j)=>cs.setIfInBounds (k+j) c) cs=((a.eval o).cells.toList.zipIdx 0).foldl (fun cs (c:Value×Nat)=>cs.setIfInBounds (k+c.2) c.1) cs:=by rw[<-D6];simp);simp_all[qH]) h5 h6 f;refine⟨y',g,m,M',v,Q,S,?_,T,V,X⟩;have h8:=I.cells.1;simp_all[Instr.fill];simp_all
theorem a3y{q:Bool}{e:Ty}{n:Nat}:∀(l:List (Nat×Operand)) (U:AE) (x:List e.sK) (K:List e.sK->AE->Rs Z),U.lit q e n l x K=U.fills q (.arr n e) l x K|[],_,_,_=>rfl|(i,o)::l,U,x,K=>by(show(bif A3 (i<n)then U.uT q e (U.sN o) (fun y g=>g.lit q e n l (x.set i y) K)else none) =(bif A3 (i<n)then U.uT q e (U.sN o) (fun y g=>g.fills q (.arr n e) l (Fp (.arr n e) x [.idx i] e y) K)else none));(congr 2;funext y g;rw[a3y l];congr 1;show x.set i y=D4 x i (if h:e=e then h▸y else _));simp
theorem mY{S:Array (Nat×Operand)}{K:AE->Rs Z}{z:Z}(Y:CxTy P cx)(X:o.op=.buildSlice t n S)(hd:o.dst=some d)(hO:∀o' e,cx.T t=some (.list o' e)->(bif q || !e.isList then none else cx.O d)=none)(h:sM B U N (AH a) w M)(hN:a.tmps.size=N)(hf:fits N o=true)(v:Bc cx q o U K=some z):AT P B N o a w K z:=by
 have u:∀y∈(o.op.operands.toList),Cj N y=true:=Bg hf;rw[X]at u;simp[Bc,X,hd]at v;split at v;rename_i o' e hT;rw[hO o' e hT]at v;rcases Ai v with⟨C,v⟩|⟨-,v⟩;simp[AZ]at C;rw[a3y]at v;have⟨g7,h5⟩:=Y.T t _ hT;have⟨k,hu,h4,h8⟩:=BQ h5;have⟨I⟩:=AK (AS h4);have⟨y,f,U',l,V,D,A,g3,g4,E,g6⟩:=ZH (qI n e) S.toList h (fun y hy=>u y.2 (by simp only[Op.operands];grind)) (cs:=madeCells I.z.cells (n*e.cells)) (size_madeCells _ _) (qE (m:=Af w M.ov) I.zok I.vB n) (by simp) v;have E:Ak (fun i=>AL (Af w l.ov) e fun j=>f[i*e.cells+j]?) n 0=some (y,[],V):=E;have G:=AX n 0 E;have g0:n*e.cells=0->n=0:=fun e0=>by grind[Nat.mul_eq_zero]
 have L:(execOp a.eval o).run P w=.ok (.value (.slice (some ⟨w.heap.size,0,none⟩) n n)) (w.alloc (.cells f k)):=by(have F:¬ (n*e.cells > 2^24):=by omega);(have H:(S.map fun(i,x)=>(i,a.eval x)).toList=S.toList.map fun(i,x)=>(i,a.eval x):=by simp);by_cases h0:n*e.cells=0;(have:(Array.range (n*e.cells)).map (fun i=>(#[]:Array Value)[i%(#[]:Array Value).size]!)=madeCells I.z.cells (n*e.cells):=by simp_all[madeCells]);have p:=g3;rw[<-this]at p;simp only[execOp,X,Instr.buildSlice,Sem.run_bind,run_underlying hu,Result.andThen_ok,I.sizeOf,if_neg F,if_pos h0,Sem.run_pure,H,p,newRow];simp;have p:Instr.fill (fun i=>some (i*e.cells,e.cells)) ((Array.range (n*e.cells)).map (I.z.cells[·%I.z.cells.size]!)) (S.toList.map fun(i,x)=>(i,a.eval x))=some f:=g3;simp only[execOp,X,Instr.buildSlice,Sem.run_bind,run_underlying hu,Result.andThen_ok,I.sizeOf,if_neg F,if_neg h0,Sem.run_pure,I.zeroValue,H,p,newRow];simp
 have Q:A6 (show List e.sK from y)=n:=G;rcases Ai D with⟨-,D⟩|⟨-,D⟩;have r:∀c,c<w.heap.size->(w.alloc (.cells f k)).heap[c]?=w.heap[c]?:=fun c C=>BF _ c C;have h2:=A.ext r (BR _);have h9:∀c,Ba B w l c->Ba B (w.alloc (.cells f k)) l c:=fun c ⟨a1,a2,a3⟩=>⟨B3 a1 (BR _),a2,a3⟩;have h7:Ba B (w.alloc (.cells f k)) l w.heap.size:=⟨(Array.getElem?_eq_some_iff.1 (Bt (w:=w) (Obj.cells f k))).1,.inr (.inr A.size),fun g=>Nat.lt_irrefl _ (A.lt g)⟩;have h6:Ak (fun i=>AL (Af (w.alloc (.cells f k)) l.ov) e fun j=>Af (w.alloc (.cells f k)) l.ov w.heap.size (0+(i*e.cells+j))) n 0=some (y,[],V):=by have h1:AL (Af w l.ov) (.arr n e) (fun j=>f[j]?)=some (y,[],V):=E;refine AF (.arr n e) h1 (rd':=fun j=>Af (w.alloc (.cells f k)) l.ov w.heap.size (0+j)) (fun j _=>?_) (fun b j hb=>?_);show Af _ l.ov w.heap.size (0+j)=_;rw[C1];exact A.vO (Bt (Obj.cells f k)) j;rcases hb with hb|hb;simp_all;exact A.vP r (g6 b hb).1
 have h3:∃R,AL (Af (w.alloc (.cells f k)) l.ov) (.list false e) ((Src.one (.slice (some ⟨w.heap.size,0,none⟩) n n)).rd (Af (w.alloc (.cells f k)) l.ov))=some (y,[],R)/\∀c∈R,Ba B (w.alloc (.cells f k)) l c:=by show ∃R,Cq (Af (w.alloc (.cells f k)) l.ov) false e.cells (AL (Af (w.alloc (.cells f k)) l.ov) e) (some (.slice (some ⟨w.heap.size,0,none⟩) n n))=some (y,[],R)/\_;simp only[Cq];rw[if_pos ⟨.inr trivial,C0 _⟩,h6];simp only[C8,if_false];split;exact⟨[],rfl,by simp⟩;refine⟨w.heap.size::V,by rfl,fun c C=>?_⟩;grind
 have⟨R2,k1,k2⟩:=h3;exact AT.set hd hN L h2 (av:=.val (.list false e) y) (Ci.one (t:=.list false e) rfl rfl k1 k2 rfl) D;obtain⟨U2,M2,k1,k2,k3,-,-⟩:=A.uW (c:=n) D (fun c C=>BF _ c C) (BR _) (Bt (Obj.cells f k)) (.inl rfl) (Nat.le_of_eq g4.symm) (Nat.le_of_eq Q) (by rw[Q];exact E) g6;grind[AT.set];simp_all;simp_all
theorem WB{P:Program}{w:World}:∀(fs:List Field),(∀f∈fs,∃i,P.info? f.type=some i)->∃l:List (Nat×Nat),(fs.mapM fun f=>do pure (f.offset,<-sizeOf f.type):Sem (List (Nat×Nat))).run P w=.ok l w/\l.length=fs.length/\∀(k:Nat) f,fs[k]?=some f->∃i,P.info? f.type=some i/\l[k]?=some (f.offset,i.size)|[],_=>⟨[],rfl,rfl,by simp⟩|f::fs,h=>by have⟨i,e⟩:=h f (by simp);have⟨l,b,c,d⟩:=WB (w:=w) fs (fun g a=>h g (by grind));refine⟨(f.offset,i.size)::l,?_,by grind,fun k g a=>?_⟩;simp_all[sizeOf,typeInfo];grind
theorem On{P:Program}:∀(τ:Ty)(fs:List Field)(off:Nat),AQ P τ (.inr (fs,off))=true->∀f∈fs,∃i,P.info? f.type=some i|.pair a b,f::r,off,h=>(by simp only[AQ,bA]at h;have⟨I⟩:=AK (AS h.1.1.2);intro g k;rcases mC.1 k with rfl|k;exact⟨_,I.info⟩;exact On b r _ h.2 g k)|.unit,[],_,_=>by simp|.unit,_::_,_,h=>by simp[AQ]at h|.pair _ _,[],_,h=>by simp|.int _,_,_,h=>by simp[AQ]at h|.bool,_,_,h=>by simp[AQ]at h|.str,_,_,h=>by simp[AQ]at h|.list _ _,_,_,h=>by simp[AQ]at h|.arr _ _,_,_,h=>by simp[AQ]at h
theorem a3z{F:Array (Nat×Operand)}{K:AE->Rs Z}{z:Z}(hty:AQ P τ (.inl t)=true)(Y:o.op=.build t F)(hd:o.dst=some d)(h:sM B U N (AH a) w M)(hN:a.tmps.size=N)(hf:fits N o=true)(hz:(bif τ.isAgg then U.fills q τ F.toList τ.dflt fun y U=>K (U.set d (.val τ y))else none)=some z):AT P B N o a w K z:=by
 have A:∀y∈(o.op.operands.toList),Cj N y=true:=Bg hf;rw[Y]at A;have⟨I⟩:=AK (AS hty);have⟨g,hz⟩:τ.isAgg=true/\_:=(Ai hz).elim id fun h=>by grind
 have D:∀y∈F.toList,Cj N y.2=true:=fun y hy=>A y.2 (by simp only[Op.operands];grind)
 have H:(F.map fun(i,x)=>(i,a.eval x)).toList=F.toList.map fun(i,x)=>(i,a.eval x):=by simp
 have C:∀c,a5d τ c->(∀b,Instr.fill c I.z.cells (F.toList.map fun(i,x)=>(i,a.eval x))=some b->(execOp a.eval o).run P w=.ok (.value (.agg b)) w)->τ.isAgg=true->AT P B N o a w K z:=by intro c hp L g;have⟨y,b,U',M',R',g1,g2,g3,g4,g5,g6⟩:=ZH hp F.toList h D I.vB (Ki τ I.zok) (by simp) hz;exact AT.set hd hN (L b g3) g2 (av:=.val τ y) ⟨fun _=>⟨b,rfl,g4⟩,fun e=>(by simp_all),R',g5,g6⟩ g1
 have O:∀m:Array Field,P.underlying t=some (.struct m)->AQ P τ (.inr (m.toList,0))=true->(∀i,AE.vM τ i=Di τ i/\AE.pathOf τ i=BD i)->τ.isAgg=true->AT P B N o a w K z:=by(intro m p hs j g;have⟨l,h1,h2,h3⟩:=WB (P:=P) (w:=w) m.toList (On τ _ _ hs);refine C (fun i=>l.toArray[i]?) (fun i V=>?_) (fun b T=>?_) g;rw[(j i).1]at V;rw[(j i).2];have⟨S,τ',k,k1,k2,k3,k4,k5⟩:=UO i τ _ 0 hs V;obtain⟨h0,τ2,k',j1,j2,j3,j4,-⟩:=WA i τ _ 0 hs V;rw[k1]at j1;simp at j1;subst j1;have⟨i',X,hl⟩:=h3 i S k1;have⟨G⟩:=AK (AS k3);have⟨R⟩:=AK (AS j3);have e1:i'=G.i:=by have:=X.symm.trans G.info;simp_all);(have e2:G.i=R.i:=by have:=G.info.symm.trans R.info;simp_all);(refine⟨τ',k,?_,?_,k5⟩;have hk:S.offset=k:=by omega);simp;(rw[hl,e1,G.size,hk];have s1:=G.size;have s2:=R.size;simp_all;have hm:(m.mapM fun f=>do pure (f.offset,<-sizeOf f.type):Sem (Array (Nat×Nat))).run P w=.ok l.toArray w:=by simp_all[D0]);simp only[execOp,Y,Instr.build,Sem.run_bind,I.zeroValue,Result.andThen_ok,run_underlying p,hm,H,T];simp
 have arr:∀n Q e,P.underlying t=some (.array n Q)->AQ P e (.inl Q)=true->a5d τ (fun i=>some (i*e.cells,e.cells))->τ.isAgg=true->AT P B N o a w K z:=by intro n Q e p E hp g;have⟨I'⟩:=AK (AS E);refine C _ hp (fun b T=>?_) g;simp only[execOp,Y,Instr.build,Sem.run_bind,I.zeroValue,Result.andThen_ok,run_underlying p,I'.sizeOf,H,T];simp
 clear C;cases τ with|pair u v=>(simp[AQ]at hty;obtain⟨-,hty⟩:=hty;split at hty;rename_i m p;split at hty;rename_i S r hl;refine O m p ?_ (fun i=>⟨rfl,rfl⟩) rfl;simp_all[AQ];simp_all;simp_all)|unit=>(simp[AQ]at hty;obtain⟨-,hty⟩:=hty;split at hty;rename_i m p;refine O m p ?_ (fun i=>⟨rfl,rfl⟩) rfl;(have:m.toList=[]:=by simp_all);rw[this];rfl;simp_all)|arr n e=>(obtain⟨Q,p,E,-⟩:=RH hty;exact arr n Q e p E (qI n e) rfl)|_=>cases g
theorem qJ{o:Oper}{t:TypeId}{l:Array (Nat×Operand)}{d:Nat}{cx:Cx}{q:Bool}{K:AE->Rs Z}{z:Z}(f:CxTy P cx)(b:o.op=.build t l)(k:o.dst=some d)(i:cx.yD d t=none->cx.O d=none)
  (h:sM B U N (AH a) w M)(c:a.tmps.size=N)(e:fits N o=true)(g:Bc cx q o U K=some z):AT P B N o a w K z:=by
 simp[Bc,b,k]at g;cases hn:cx.yD d t with
 |some τ=>
  rw[hn]at g;refine a3z ?_ b k h c e g;simp[Cx.yD]at hn;split at hn;split at hn;rename_i m _ j;cases hn;rw[<-FB];exact(f.T t _ j.2).2;simp_all;simp_all
 |none=>
 rw[hn]at g;simp[i hn]at g;split at g;rename_i τ hT;exact a3z (f.T t _ hT).2 b k h c e g;simp_all
theorem cN(h:Cf u=true):u.cells=#[u]:=by cases u<;>first|rfl|(simp[Cf]at h)
theorem a5e(h:sM B U N (AH a) w M){v:AV}(hv:Ay (Af w M.ov) M.g U.rt (Ba B w M) v u)(f:v.xM τ=true):Cf u=true:=by unfold AV.xM at f;split at f;rename_i t x;simp at f;exact hv.2.1 f.1;rename_i n e;have⟨r,d,s,k,b,l⟩:=hv;obtain⟨m,R,i,q,-⟩:=h.sep k;obtain⟨y,o,p,_,_,_,_,z,j,-⟩:=BT _ r.t _ i b;obtain⟨D,A,c,-,-,hv,-,C,-⟩:=h.uZ ⟨r,d,s,k,b,l⟩ k j;rw[hv];rfl;have hv:u=.slice none 0 0:=hv;rw[hv];rfl;simp_all
theorem b4k{h:Nat->Option (Nat×Nat)}{k:Nat}{u:Value}{l:List (Nat×Value)}{g a:List Value}{c:Value}(hp:h k=some (k,1))(f:Cf u=true)(b:g.length=k):Instr.fill h (g++c::a).toArray ((k,u)::l)=Instr.fill h (g++[u]++a).toArray l:=by have f:=cN f;simp only[Instr.fill,hp];simp_all
theorem b4l{rt:Nat->Option sP}{v:AV}{rd:Nat->Option Value}(h:RG τ=some v)(f:ER τ rd=true)(d:rd 0=some u):τ.cells=1/\Cf u=true/\Ay m g rt Sh v u:=by(have a:τ.isAgg=false->Cf u=true->τ.cells=1->ER τ (fun j=>u.cells[j]?)=true->Ci m Sh τ τ.dflt u:=fun p i q l=>⟨fun g=>(by simp_all),fun _=>i,[],Ki τ l,by simp⟩);cases τ with|int k=>(simp[RG]at h;simp[ER,d]at f;cases u with|int r n=>subst h;exact⟨rfl,rfl,a rfl rfl rfl (by simp_all[ER,Value.cells])⟩|_=>cases f)|bool=>(simp[RG]at h;simp[ER,d]at f;cases u with|bool b=>subst h;exact⟨rfl,rfl,a rfl rfl rfl (by simp_all[ER,Value.cells])⟩|_=>cases f)|str=>(simp[RG]at h;simp[ER,d]at f;cases u with|string b=>subst h;exact⟨rfl,rfl,a rfl rfl rfl (by simp_all[ER,Value.cells])⟩|_=>cases f)|list o e=>simp[RG]at h;simp[ER,d]at f;subst h;split at f;rename_i c;simp at c;subst c;exact⟨rfl,rfl,rfl⟩;simp_all|_=>cases h
theorem gM{d:Nat->Option (Nat×Nat)}(h:sM B U N (AH a) w M):∀(τ:Ty)(k:Nat)(l:List (Nat×Operand)) (n:List AV),U.tQ k τ l=some n->(∀p∈l,Cj N p.2=true)->(∀j,j<τ.cells->d (k+j)=some (k+j,1))->∀(f c:List Value),f.length=k->c.length=τ.cells->ER τ (fun j=>c[j]?)=true->∃us:List Value,us.length=τ.cells/\n.length=τ.cells/\Instr.fill d (f++c).toArray (l.map fun p=>(p.1,a.eval p.2))=some (f++us).toArray/\∀(j:Nat) v,n[j]?=some v->∃u,us[j]?=some u/\Cf u=true/\Ay (Af w M.ov) M.g U.rt (Ba B w M) v u
 |.unit,k,[],n,b,_,_,f,c,D,F,_=>by simp only[AE.tQ,sj]at b;subst b;have:c=[]:=List.eq_nil_of_length_eq_zero F;subst this;exact⟨[],rfl,rfl,rfl,fun j v t=>by simp_all⟩
 |.pair u v,k,l,n,b,hops,hpl,f,c,D,F,hzr=>by
  have zero:((RG u).bind fun x=>(U.tQ (k+1) v l).map (x::·))=some n->∃us:List Value,us.length=(Ty.pair u v).cells/\n.length=(Ty.pair u v).cells/\Instr.fill d (f++c).toArray (l.map fun p=>(p.1,a.eval p.2))=some (f++us).toArray/\∀(j:Nat) v,n[j]?=some v->∃u,us[j]?=some u/\Cf u=true/\Ay (Af w M.ov) M.g U.rt (Ba B w M) v u:=fun hb=>by
   cases hx:RG u with
    |none=>simp_all
    |some x=>
     rw[hx]at hb;cases hr:U.tQ (k+1) v l with
      |none=>simp_all
      |some vs'=>
       (rw[hr]at hb;cases hb;simp[ER]at hzr;have E:0<u.cells:=by cases u<;>first|(cases hx;done)|exact Nat.one_pos);cases c with
        |nil=>grind[Ty.cells]
        |cons z0 c=>
         (obtain⟨Q,R,S⟩:=b4l (m:=Af w M.ov) (g:=M.g) (rt:=U.rt) (Sh:=Ba B w M) hx hzr.1 (by simp:(z0::c)[0]?=some z0);have q:c.length=v.cells:=by grind[Ty.cells]);obtain⟨us,K,L,O,P⟩:=gM h v (k+1) l vs' hr hops (fun j t=>by
          have:=hpl (j+1) (by grind);rwa [show k+(j+1)=k+1+j from by omega]at this) (f++[z0]) c (by grind) q (by
          grind)
         refine⟨z0::us,by simp_all,by simp_all,?_,fun j y t=>?_⟩;all_goals grind
  cases l with
   |nil=>exact zero b
   |cons p r=>
    obtain⟨i,o⟩:=p;simp[AE.tQ]at b;rcases Ai b with⟨C,e⟩|⟨-,e⟩;(have C:i=k:=by simp_all);(subst C;obtain⟨A,e⟩:=(Ai e).elim id fun h=>by grind);simp at A;obtain⟨T,G⟩:=A;cases hr:U.tQ (i+1) v r with
     |none=>simp_all
     |some vs'=>
      rw[hr]at e;cases e;have z:=h.sN (hops (i,o) (by simp));have I:=a5e h z G;cases c with
       |nil=>grind[Ty.cells]
       |cons z0 c=>
        (have q:c.length=v.cells:=by grind[Ty.cells]);simp[ER]at hzr;obtain⟨us,K,L,O,P⟩:=gM h v (i+1) r vs' hr (fun p D=>hops p (by grind)) (fun j t=>by
         have:=hpl (j+1) (by grind);rwa [show i+(j+1)=i+1+j from by omega]at this) (f++[a.eval o]) c (by grind) q (by
         grind)
        refine⟨a.eval o::us,by simp_all,by simp_all,?_,fun j y t=>?_⟩;rw[B9];have H:=hpl 0 (by grind);simp_all[b4k];grind
    simp_all
 |.unit,_,_::_,_,b,_,_,_,_,_,_,_=>by simp[AE.tQ]at b
 |.int _,_,_,_,b,_,_,_,_,_,_,_=>by simp[AE.tQ]at b
 |.bool,_,_,_,b,_,_,_,_,_,_,_=>by simp[AE.tQ]at b
 |.str,_,_,_,b,_,_,_,_,_,_,_=>by simp[AE.tQ]at b
 |.list _ _,_,_,_,b,_,_,_,_,_,_,_=>by simp[AE.tQ]at b
 |.arr _ _,_,_,_,b,_,_,_,_,_,_,_=>by simp[AE.tQ]at b
theorem a7l:∀(τ:Ty)(k:Nat)(l:List (Nat×Operand)) (b:List AV),U.tQ k τ l=some b->b.length=τ.cells/\∀{P:Program} fs,AQ P τ (.inr (fs,k))=true->fs.length=b.length/\∀(j:Nat) f,fs[j]?=some f->f.offset=k+j/\∃τ',AQ P τ' (.inl f.type)=true/\τ'.cells=1|.unit,k,[],b,g=>by simp only[AE.tQ,sj]at g;subst g;exact⟨rfl,fun fs h=>by cases fs with|nil=>simp|cons f r=>simp[AQ]at h⟩|.pair u v,k,l,b,g=>(by(have n:∀x d a,u.cells=1->U.tQ (k+1) v d=some a->b=x::a->b.length=(Ty.pair u v).cells/\∀{P:Program} fs,AQ P (.pair u v) (.inr (fs,k))=true->fs.length=b.length/\∀(j:Nat) f,fs[j]?=some f->f.offset=k+j/\∃τ',AQ P τ' (.inl f.type)=true/\τ'.cells=1:=fun x d a y m e=>by subst e;have⟨t,w⟩:=a7l v (k+1) d a m;refine⟨by grind[Ty.cells],fun fs h=>?_⟩;cases fs with|nil=>simp[AQ]at h|cons f fs=>simp[AQ]at h;grind);(have zero:((RG u).bind fun x=>(U.tQ (k+1) v l).map (x::·))=some b->b.length=(Ty.pair u v).cells/\∀{P:Program} fs,AQ P (.pair u v) (.inr (fs,k))=true->fs.length=b.length/\∀(j:Nat) f,fs[j]?=some f->f.offset=k+j/\∃τ',AQ P τ' (.inl f.type)=true/\τ'.cells=1:=fun hb=>by cases hx:RG u with|none=>simp_all|some x=>rw[hx]at hb;cases m:U.tQ (k+1) v l with|none=>simp_all|some a=>rw[m]at hb;cases hb;exact n x l a (by cases u<;>first|(cases hx;done)|rfl) m rfl);cases l with|nil=>exact zero g|cons p r=>have⟨i,o⟩:=p;simp[AE.tQ]at g;rcases Ai g with⟨-,c⟩|⟨-,c⟩;(have⟨q,c⟩:=(Ai c).elim id fun h=>by grind);(simp at q;cases m:U.tQ (k+1) v r with|none=>simp_all|some a=>grind);grind)|.unit,_,_::_,_,g=>by simp[AE.tQ]at g|.int _,_,_,_,g=>by simp[AE.tQ]at g|.bool,_,_,_,g=>by simp[AE.tQ]at g|.str,_,_,_,g=>by simp[AE.tQ]at g|.list _ _,_,_,_,g=>by simp[AE.tQ]at g|.arr _ _,_,_,_,g=>by simp[AE.tQ]at g
theorem a2g{o:Oper}{t:TypeId}{A:Array (Nat×Operand)}{d:Nat}{cx:Cx}{q:Bool}{K:AE->Rs Z}{z:Z}{τ:Ty}(L:CxTy P cx)(V:o.op=.build t A)(hd:o.dst=some d)(hO:cx.O d=some τ)(S:cx.yD d t=none) (h:sM B U N (AH a) w M)(hN:a.tmps.size=N)(hf:fits N o=true)(F:Bc cx q o U K=some z):AT P B N o a w K z:=by
 have c:∀y∈(o.op.operands.toList),Cj N y=true:=Bg hf;rw[V]at c;have r:∀y∈A.toList,Cj N y.2=true:=fun y hy=>c y.2 (by simp only[Op.operands];grind)
 simp only[Bc,V,hd,hO,S]at F;split at F;rename_i hT;split at F;rename_i vs g;have⟨m,h0⟩:=(Ai F).elim id fun h=>by grind
 have m:0<τ.cells:=by simp_all
 have E:AQ P τ (.inl t)=true:=by rw[<-FB];exact(L.T t _ hT).2
 have⟨h4,g4⟩:=a7l τ 0 A.toList vs g;cases τ with|pair u v=>((have⟨I⟩:=AK (AS E);have⟨H,hu,hs⟩:=SC (f:=0) E rfl;have⟨g5,g6⟩:=g4 _ hs;have⟨l,h1,h2,h3⟩:=WB (P:=P) (w:=w) H.toList (On _ _ _ hs);have hm:(H.mapM fun f=>do pure (f.offset,<-sizeOf f.type):Sem (Array (Nat×Nat))).run P w=.ok l.toArray w:=by simp_all[D0]);(have X:∀j,j<(Ty.pair u v).cells->(fun i=>l.toArray[i]?) (0+j)=some (0+j,1):=fun j hj=>by(have Q:j<H.toList.length:=by omega);(have C:=lG Q;have⟨i,hi,hl⟩:=h3 j _ C;have⟨e1,τ',e2,e3⟩:=g6 j _ C;have⟨G⟩:=AK (AS e2);have e4:i=G.i:=by have:=hi.symm.trans G.info;simp_all);simp;rw[hl,e1,e4,G.size,e3,C1]);(obtain⟨us,k1,-,b,k4⟩:=gM h (Ty.pair u v) 0 A.toList vs g r X [] I.z.cells.toList rfl (by simpa using I.vB) (by simpa using I.zok);simp at b;have Y:(A.map fun(i,x)=>(i,a.eval x)).toList=A.toList.map fun p=>(p.1,a.eval p.2):=by simp);(have D:(execOp a.eval o).run P w=.ok (.value (.agg us.toArray)) w:=by simp only[execOp,V,Instr.build,Sem.run_bind,I.zeroValue,Result.andThen_ok,run_underlying hu,hm,Y,b];simp);(refine⟨_,w,_,M,.inl D,?_,h0⟩;rw[hd];refine h.uN hN (fun _=>⟨_,⟨by simp_all,rfl,fun k x hx=>?_⟩,fun k av hk=>?_⟩);rw[List.getElem?_toArray]at hx;have R:k<vs.length:=by grind);obtain⟨u',q1,q2,-⟩:=k4 k _ (lG R);simp_all;grind)|unit=>simp[Ty.cells]at m|int k=>simp[AE.tQ]at g|bool=>simp[AE.tQ]at g|str=>simp[AE.tQ]at g|list o' e=>simp[AE.tQ]at g|arr n e=>simp[AE.tQ]at g|nl e=>simp[AE.tQ]at g
 simp_all;simp_all
end
end Go.Ab
