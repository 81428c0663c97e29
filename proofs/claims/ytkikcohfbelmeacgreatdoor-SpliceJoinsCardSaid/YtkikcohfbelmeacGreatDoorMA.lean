/- Part of the proof: LibA. Conditions: as each statement tells. -/
import GoSem.Core.Code
import GoSem.Core.View
import GoSem.Core.Lib
import GoSem.Core.Region
import Derived.Orders
import GoSem.Machine.Frame
import Derived.Laws.World
import Derived.Laws.Cells
import Derived.Laws.IdiomCopy
import Derived.Laws.Entries
import Derived.Laws.Strings
import Derived.Laws.BytesString
import Derived.Laws.IdiomStrings
import Derived.Laws.Append
import Derived.Laws.MakeOwn
import Derived.Great.FillDense
noncomputable section
set_option linter.unusedSimpArgs false
set_option linter.unusedVariables false
open Array renaming mapM_eq_mapM_toList->D0,foldl_toList->D6
open BitVec renaming ofInt->D9
open Bool renaming true->ka,false->kc,false_eq_true->C8
open Decidable renaming decide->A3
open List renaming length->A6,mem_append_right->A8,mem_append_left->A9,nodup_append->B6,replicate->B7,map_cons->B9,mem_map_of_mem->C2,nodup_cons->C3,length_eq_zero_iff->C5,getD->C6,append_eq_nil_iff->C7,take->C9,drop->D2,range->D3,set->D4,mem_cons_self->D5,getElem?_map->D7,drop_take->D8
open Nat renaming mul_le_mul_right->A4,succ_mul->A7,lt_of_lt_of_le->B3,le_trans->B4,le_refl->C0,zero_add->C1,lt_or_gt_of_ne->C4
open Option renaming some->kd,none->ke,bind_eq_some_iff->B8,isSome_iff_exists->D1
namespace Go.Ab
variable {A A' Z α:Type}{P:Program}{Sh Sh':Nat->Prop}{b c d k n sz:Nat}{cs:Array Value}{i:Int}{o:Oper}{op:BinOp}{q:Bool}{t t':TypeId}{u v:Value}{w w':World}{z:Z}
theorem dE{p:Prop}[Decidable p](h:p):decide p=ka:=decide_eq_true h
theorem dF {p:Prop} [Decidable p] (h:¬p):decide p=kc:=decide_eq_false h
theorem bN {α:Type _} [BEq α] [LawfulBEq α] (a:α):(a != a)=kc:=bne_self_eq_false a
theorem cG {α β:Sort _} {a b:α} (f:α->β) (h:a=b):f a=f b:=congrArg f h
theorem oB {α β:Type _} (a:α) (f:α->Option β):(kd a).bind f=f a:=rfl
theorem HC (a b:Bool):((a&&b)=ka)=(a=ka/\b=ka):=Bool.and_eq_true a b
theorem dT {p:Prop} [Decidable p]:(decide p=ka)=p:=decide_eq_true_eq
theorem cT {α:Type _} (a b:α):cond ka a b=a:=rfl
theorem cF {α:Type _} (a b:α):cond kc a b=b:=rfl
theorem lG {α:Type _} {l:List α} {i:Nat} (h:i<l.length):l[i]?=kd l[i]:=List.getElem?_eq_getElem h
theorem pJ {α β:Type _} (a:α) (b:β) (c:α) (d:β):((a,b)=(c,d))=(a=c/\b=d):=Prod.mk.injEq a b c d
theorem lA {α:Type _} {p:α->Bool} {l:List α}:l.all p=ka↔∀x,x ∈ l->p x=ka:=List.all_eq_true
theorem lD {α:Type _} {l:List α} {i:Nat} {a:α}:l.getD i a=l[i]?.getD a:=List.getD_eq_getElem?_getD
theorem lS {α:Type _} {l:List α} {i:Nat} {a:α}:l[i]?=kd a↔∃h:i<l.length,l[i]=a:=List.getElem?_eq_some_iff
theorem nZ:((0:Nat):Int)=0:=rfl
theorem tN (n:Nat):(n:Int).toNat=n:=rfl
theorem bT:(!ka)=kc:=rfl
theorem zQ:(∀{α β:Type _}(a:α)(f:α->Option β),(kd a).bind f=f a)/\(∀{α:Type _}(a b:α),cond ka a b=a)/\(∀{α:Type _}(a b:α),cond kc a b=b)/\(!ka)=kc:=⟨oB,cT,cF,rfl⟩
theorem mA {α:Type _} {a:α} {s t:List α}:a ∈ s++t↔a ∈ s\/a ∈ t:=List.mem_append
theorem WK {α β:Type _} {f:α->β} {l m:List α}:(l++m).map f=l.map f++m.map f:=List.map_append
theorem lN {α:Type _} {s t:List α}:(s++t).length=s.length+t.length:=List.length_append
theorem lC {α:Type _} {a:α} {s:List α}:(a::s).length=s.length+1:=rfl
theorem mC {α:Type _} {a b:α} {l:List α}:a ∈ b::l↔a=b\/a ∈ l:=List.mem_cons
theorem aA {α:Type _} (a b c:List α):a++b++c=a++(b++c):=List.append_assoc a b c
theorem sj{α:Type _}(a b:α):(kd a=kd b)=(a=b):=Option.some.injEq a b
inductive Ty where
 |int (k:IntKind)|bool|str|unit
 |list (o:Bool) (t:Ty)|pair (a b:Ty)|arr (n:Nat) (t:Ty)

 |nl (t:Ty)
 deriving DecidableEq
variable {e τ:Ty}
def Ty.sI:Ty->Type|.int _=>Int|.bool=>Bool|.str=>List Int|.unit=>Unit|.list _ t=>List t.sI|.pair a b=>a.sI×b.sI|.arr _ t=>List t.sI|.nl t=>List t.sI
variable {l:List e.sI}
def Ty.dflt:(t:Ty)->t.sI|.int _=>(0:Int)|.bool=>false|.str=>([]:List Int)|.unit=>()|.list _ t=>([]:List t.sI)|.pair a b=>(a.dflt,b.dflt)|.arr n t=>B7 n t.dflt|.nl t=>([]:List t.sI)
def Ty.cells:Ty->Nat|.unit=>0|.pair a b=>a.cells+b.cells|.arr n t=>n*t.cells|_=>1
def Ty.sh:Ty->Ty|.list _ t=>.list kc t.sh|.pair a b=>.pair a.sh b.sh|.arr n t=>.arr n t.sh|.nl t=>.list kc t.sh|t=>t
def Ty.tK:Ty->Ty|.list _ t=>.list kc t.sh|.pair a b=>.pair a.tK b.tK|.arr n t=>.arr n t.sh|.nl t=>.nl t.sh|t=>t
def Ty.isAgg:Ty->Bool|.unit|.pair _ _|.arr _ _=>true|_=>kc
theorem Ty.uA:(t:Ty)->t.sh.sI=t.sI|.int _|.bool|.str|.unit=>rfl|.list _ t=>cG List (Ty.uA t)|.arr _ t=>cG List (Ty.uA t)|.nl t=>cG List (Ty.uA t)|.pair a b=>by show(a.sh.sI×b.sh.sI)=(a.sI×b.sI);rw[Ty.uA a,Ty.uA b]
theorem Ty.wP:(t:Ty)->t.tK.sI=t.sI|.int _|.bool|.str|.unit=>rfl|.list _ t=>cG List (Ty.uA t)|.arr _ t=>cG List (Ty.uA t)|.nl t=>cG List (Ty.uA t)|.pair a b=>by show(a.tK.sI×b.tK.sI)=(a.sI×b.sI);rw[Ty.wP a,Ty.wP b]
def Ty.vH(t:Ty)(x:t.sI):t.tK.sI:=cast (Ty.wP t).symm x
def Ty.le:Ty->Ty->Bool|.nl a,.list _ b=>A3 (a.sh=b.sh)|.pair a b,.pair a' b'=>a.le a'&&b.le b'|a,b=>A3 (a=b)
theorem Ty.vU:∀(a b:Ty),a.le b=ka->a.sI=b.sI|.nl a,.list o b,h=>by simp only[Ty.le,dT]at h;show List a.sI=List b.sI;rw[<-Ty.uA a,<-Ty.uA b,h]|.pair a b,.pair g f,h=>by simp only[Ty.le,HC]at h;show(a.sI×b.sI)=(g.sI×f.sI);rw[Ty.vU a g h.1,Ty.vU b f h.2]|.nl a,.nl b,h=>by simp only[Ty.le,dT]at h;rw[h]|.nl a,.int _,h|.nl a,.bool,h|.nl a,.str,h|.nl a,.unit,h|.nl a,.pair _ _,h|.nl a,.arr _ _,h=>by simp[Ty.le]at h|.pair a b,.int _,h|.pair a b,.bool,h|.pair a b,.str,h|.pair a b,.unit,h|.pair a b,.arr _ _,h|.pair a b,.list _ _,h|.pair a b,.nl _,h=>by simp[Ty.le]at h|.int _,b,h|.bool,b,h|.str,b,h|.unit,b,h|.list _ _,b,h|.arr _ _,b,h=>by simp only[Ty.le,dT]at h;rw[h]
def sZ(t' t:Ty)(x:t'.sI):Option t.sI:=if h:t'=t then kd (h▸x)else if h:t'.le t=ka then kd (cast (Ty.vU _ _ h) x)else ke
theorem fQ(t:Ty)(x:t.sI):sZ t t x=kd x:=by simp[sZ]
theorem Ty.uW:(t:Ty)->t.sh=t->t.tK=t|.int _,_|.bool,_|.str,_|.unit,_=>rfl|.list _ t,h=>h|.arr _ t,h=>h|.nl t,h=>(by cases h)|.pair a b,h=>by simp only[Ty.sh,Ty.pair.injEq]at h;simp only[Ty.tK,Ty.uW a h.1,Ty.uW b h.2]
theorem Ty.uV:(t:Ty)->t.sh.sh=t.sh|.int _|.bool|.str|.unit=>rfl|.list _ t|.nl t=>by simp only[Ty.sh,Ty.uV t]|.arr _ t=>by simp only[Ty.sh,Ty.uV t]|.pair a b=>by simp only[Ty.sh,Ty.uV a,Ty.uV b]
theorem Ty.wT:(t:Ty)->t.tK.tK=t.tK|.int _|.bool|.str|.unit=>rfl|.list _ t|.nl t|.arr _ t=>by simp only[Ty.tK,Ty.uV t]|.pair a b=>by simp only[Ty.tK,Ty.wT a,Ty.wT b]
theorem Ty.wS:(t:Ty)->t.tK.sh=t.sh|.int _|.bool|.str|.unit=>rfl|.list _ t|.nl t|.arr _ t=>by simp only[Ty.tK,Ty.sh,Ty.uV t]|.pair a b=>by simp only[Ty.tK,Ty.sh,Ty.wS a,Ty.wS b]
def Ty.wE(t:Ty)(x:t.sI):t.sh.sI:=cast (Ty.uA t).symm x
inductive Step where
 |fst|snd|idx (i:Nat)
@[reducible] def BB:=List Step
inductive AV where
 |dead

 |skp
 |val (t:Ty) (x:t.sI)

 |nils

 |empt
 |nilp
 |ptr (n:Nat) (p:BB)
 |vptr (t:Ty) (x:t.sI)
 |sref (n:Nat) (p:BB)
 |swin (n:Nat) (p:BB) (off len:Nat)

 |tX (g:Nat)
variable {av:AV}
inductive zF where
 |tup|agg|clo (f:Nat)
 deriving DecidableEq
inductive SV where
 |one (v:AV)
 |cmp (c:zF) (vs:List AV)
structure sK where
 bx:Bool
 t:Ty
 x:t.sI
variable {r:sK}{rt':Nat->Option sK}
structure AE where
 sl:Nat->SV
 rt:Nat->Option sK

 pd:Option (Nat×BB×Nat)
@[reducible] def Rs(Z:Type):=Option Z
def Dv:BB->(t:Ty)->t.sI->(t':Ty)×t'.sI|[],t,x=>⟨t,x⟩|.fst::p,t,x=>(match t,x with|.pair a _,x=>Dv p a x.1|_,_=>⟨.unit,()⟩)|.snd::p,t,x=>(match t,x with|.pair _ b,x=>Dv p b x.2|_,_=>⟨.unit,()⟩)|.idx i::p,t,x=>match t,x with|.arr _ t,x=>Dv p t (C6 x i t.dflt)|.list ka t,x=>Dv p t (C6 x i t.dflt)|_,_=>⟨.unit,()⟩
@[reducible] def CQ(t:Ty)(x:t.sI)(p:BB):(t':Ty)×t'.sI:=Dv p t x
def Gj:BB->(t:Ty)->t.sI->(t':Ty)->t'.sI->t.sI|[],t,x,t',y=>if h:t'=t then h▸y else x|.fst::p,t,x,t',y=>(match t,x with|.pair a _,x=>(Gj p a x.1 t' y,x.2)|_,x=>x)|.snd::p,t,x,t',y=>(match t,x with|.pair _ b,x=>(x.1,Gj p b x.2 t' y)|_,x=>x)|.idx i::p,t,x,t',y=>match t,x with|.arr _ t,x=>D4 x i (Gj p t (C6 x i t.dflt) t' y)|.list ka t,x=>D4 x i (Gj p t (C6 x i t.dflt) t' y)|_,x=>x
@[reducible] def FK(t:Ty)(x:t.sI)(p:BB)(t':Ty)(y:t'.sI):t.sI:=Gj p t x t' y
def IF:(p q:BB)->Bool|[],_=>true|.fst::p,.fst::q=>IF p q|.snd::p,.snd::q=>IF p q|.idx _::p,.idx _::q=>IF p q|_,_=>kc
def AV.map(v:AV)(f:AV->AV):AV:=f v
def SV.sG(f:AV->AV):SV->SV|.one v=>.one (f v)|.cmp c vs=>.cmp c (vs.map f)
def AV.kill(n:Nat)(p:BB):AV->AV|.sref m q=>if m==n&&IF p q then .dead else .sref m q|.swin m q o l=>if m==n&&IF p q then .dead else .swin m q o l|.ptr m q=>if m==n&&IF p q&&A3 (p.length<q.length)then .dead else .ptr m q|v=>v
def AV.drop(n:Nat):AV->AV|.sref m q=>if m==n then .dead else .sref m q|.swin m q o l=>if m==n then .dead else .swin m q o l|.ptr m q=>if m==n then .dead else .ptr m q|v=>v
def AV.ren(r n:Nat):AV->AV|.sref m q=>if m==r then .sref n q else .sref m q|.swin m q o l=>if m==r then .swin n q o l else .swin m q o l|.ptr m q=>if m==r then .ptr n q else .ptr m q|v=>v
def AV.xM(n:Nat)(e:Ty)(l:List e.sI):AV->AV|.sref m q=>if m==n then(match q with|[]=>.val (.list kc e.sh) (Ty.wE (.list kc e) l)|_=>.dead)else .sref m q|.swin m q o k=>if m==n then(match q with|[]=>.val (.list kc e.sh) (Ty.wE (.list kc e) ((l.drop o).take k))|_=>.dead)else .swin m q o k|.ptr m q=>if m==n then .dead else .ptr m q|v=>v
namespace AE
def get(U:AE)(i:Nat):AV:=match U.sl i with|.one v=>v|.cmp _ _=>.dead
def put(U:AE)(d:Nat)(v:SV):AE:={ U with sl:=λj=>bif j==d then v else U.sl j }
def set(U:AE)(d:Nat)(v:AV):AE:=U.put d (.one v)
def tY(U:AE)(d:Option Nat)(v:AV):AE:=match d with|some d=>U.set d v|none=>U
def sG(U:AE)(f:AV->AV):AE:={ U with sl:=λj=>(U.sl j).sG f }
def sD(U:AE)(n:Nat)(r:Option sK):AE:={ U with rt:=λj=>bif j==n then r else U.rt j }
def uK(U:AE)(n:Nat)(r:sK):AE:=match U.rt n with|none=>U.sD n (kd r)|some _=>(U.sG (AV.drop n)).sD n (kd r)
def look(U:AE)(n:Nat):Option sK:=match U.pd with|none=>U.rt n|some _=>ke
end AE
def WL:Value->AV|.int k n=>.val (.int k) n|.bool b=>.val .bool b|.string s=>.val .str (s.data.toList.map λb=>(b.toNat:Int))|.slice ke 0 0=>.nils|.pointer ke=>.nilp|_=>.dead
def AE.sJ(U:AE):Operand->AV|.tmp t=>U.get t|.const v=>WL v|.global g=>.tX g|_=>.dead
inductive RA where
 |v (t:Ty)

 |o (e:Ty)

 |b (t:Ty)
def RA.ty:RA->Ty|.v t=>t|.o e=>.list ka e|.b t=>t
inductive PA where
 |v (t:Ty)
 |r (c:Bool) (a:RA)
def PA.ty:PA->Ty|.v t=>t|.r _ a=>a.ty
def Eh:List Ty->Ty|[]=>.unit|[t]=>t|t::r=>.pair t (Eh r)
def Ko:List PA->List RA|[]=>[]|.v _::r=>Ko r|.r _ a::r=>a::Ko r
def RA.all(ps:List PA)(rs:List RA):List RA:=rs++Ko ps
structure rZ where
 ps:List PA
 rs:List RA
 F:(Eh (ps.map PA.ty)).sI->Option (Eh ((RA.all ps rs).map RA.ty)).sI
@[reducible] def pinned:Nat:=1000000
structure Cx where

 Q:Nat->Bool
 E:Nat->Bool
 T:Nat->Option Ty
 C:Nat->Option rZ
 O:Nat->Option Ty
 V:Nat->Bool
 K:Nat->Bool

 G:Nat->Option ((t:Ty)×t.sI):=λ_=>ke
variable {cx:Cx}
section reading
variable {Z:Type}
def AE.uR(U:AE)(q:Bool)(t:Ty)(a:AV)(K:t.sI->AE->Rs Z):Rs Z:=match a with|.val t' x=>(match sZ t' t x with|some y=>K y U|none=>ke)|.nils=>(match t,K with|.list kc _,K=>K [] U|.nl _,K=>K [] U|_,_=>ke)|.empt=>(match t,K with|.list kc _,K=>K [] U|_,_=>ke)|.sref n []=>(if q then ke else match U.look n with|some ⟨kc,.list ka e,l⟩=>if h:Ty.list kc e.sh=t then K (h▸Ty.wE (.list kc e) l) ((U.sG (AV.xM n e l)).sD n ke)else none|_=>ke)|.swin n [] o k=>(if q then ke else match U.look n with|some ⟨kc,.list ka e,l⟩=>if h:Ty.list kc e.sh=t then K (h▸Ty.wE (.list kc e) ((D2 o l).take k)) ((U.sG (AV.xM n e l)).sD n ke)else none|_=>ke)|_=>ke
def AE.view(U:AE)(t:Ty)(a:AV)(K:t.sI->Rs Z):Rs Z:=match a with|.val t' x=>(match sZ t' t x with|some y=>K y|none=>ke)|.nils=>(match t,K with|.list kc _,K=>K []|.nl _,K=>K []|_,_=>ke)|.empt=>(match t,K with|.list kc _,K=>K []|_,_=>ke)|.sref n p=>(match U.look n with|some r=>(match CQ r.t r.x p with|⟨.list ka e,l⟩=>if h:Ty.list kc e.sh=t then K (h▸Ty.wE (.list kc e) l)else none|_=>ke)|none=>ke)|.swin n p o k=>(match U.look n with|some r=>(match CQ r.t r.x p with|⟨.list ka e,l⟩=>if h:Ty.list kc e.sh=t then K (h▸Ty.wE (.list kc e) ((D2 o l).take k))else none|_=>ke)|none=>ke)|_=>ke
end reading
def Ax{α:Type}(l:List α)(i:Int):Option α:=if 0<=i then l[i.toNat]? else ke
def bits(k:IntKind)(op:BinOp)(x y:Int):Int:=
 let a:=D9 k.bits x
 let b:=D9 k.bits y
 match op with
 |.and=>k.wrap (a &&& b).toNat
 |.or=>k.wrap (a ||| b).toNat
 |.xor=>k.wrap (a ^^^ b).toNat
 |_=>k.wrap (a &&& ~~~b).toNat
def AO(k:IntKind)(x y:Int):Int:=k.wrap (x*2^(min y.toNat k.bits))
def AR(k:IntKind)(x y:Int):Int:=x.fdiv (2^(min y.toNat k.bits))
def Xm:(t:Ty)->t.sI->t.sI->Bool|.int _,x,y=>(show Int from x)==(show Int from y)|.bool,x,y=>(show Bool from x)==(show Bool from y)|.str,x,y=>(show List Int from x)==(show List Int from y)|.unit,_,_=>true|.pair a b,x,y=>Xm a x.1 y.1&&Xm b x.2 y.2|.arr _ t,x,y=>(List.zipWith (Xm t) x y).all id&&A6 x==A6 y|.list _ _,_,_=>false|.nl _,_,_=>kc
def UZ{Z:Type}(op:BinOp)(k:IntKind)(x y:Int)(K:AV->Rs Z):Rs Z:=match op with|.add=>K (.val (.int k) (k.wrap (x+y)))|.sub=>K (.val (.int k) (k.wrap (x-y)))|.mul=>K (.val (.int k) (k.wrap (x*y)))|.quo=>bif y==0 then ke else K (.val (.int k) (k.wrap (Int.tdiv x y)))|.rem=>bif y==0 then ke else K (.val (.int k) (Int.tmod x y))|.and=>K (.val (.int k) (bits k .and x y))|.or=>K (.val (.int k) (bits k .or x y))|.xor=>K (.val (.int k) (bits k .xor x y))|.andNot=>K (.val (.int k) (bits k .andNot x y))|.eql=>K (.val .bool (x==y))|.neq=>K (.val .bool (x != y))|.lss=>K (.val .bool (A3 (x<y)))|.leq=>K (.val .bool (A3 (x<=y)))|.gtr=>K (.val .bool (A3 (x > y)))|.geq=>K (.val .bool (A3 (x>=y)))|.shl=>bif A3 (y<0)then ke else K (.val (.int k) (AO k x y))|.shr=>bif A3 (y<0)then ke else K (.val (.int k) (AR k x y))
def Zi:BinOp->Bool|.shl|.shr=>true|_=>kc
def dC{Z:Type}(cx:Cx)(op:BinOp)(ty:Nat)(t:Ty)(x:t.sI)(t':Ty)(y:t'.sI)(K:AV->Rs Z):Rs Z:=
 if h:t'=t then
  bif cx.E ty&&t.isAgg&&A3 (cx.T ty=kd t)then
   match op with
   |.eql=>K (.val .bool (Xm t x (h▸y)))
   |.neq=>K (.val .bool (!Xm t x (h▸y)))
   |_=>ke
  else ke
 else ke
def Zj{Z:Type}(cx:Cx)(op:BinOp)(ty:Nat)(a b:AV)(K:AV->Rs Z):Rs Z:=
 match a,b with
 |.val (.int k) x,.val (.int k') y=>if Zi op || A3 (k=k')then UZ op k x y K else ke
 |.val .bool (x:Bool),.val .bool (y:Bool)=>
  if cx.T ty=kd .bool then
   match op with
   |.eql=>K (.val .bool (x==y))
   |.neq=>K (.val .bool (x != y))
   |_=>ke
  else ke
 |.val .str (x:List Int),.val .str (y:List Int)=>
  match op with
  |.eql=>K (.val .bool (x==y))
  |.neq=>K (.val .bool (x != y))
  |.add=>bif A3 (A6 x+A6 y<2147483648)then K (.val .str (x++y))else ke
  |_=>ke
 |.val t x,.val t' y=>dC cx op ty t x t' y K
 |.nilp,.nilp=>if cx.Q ty then(match op with
  |.eql=>K (.val .bool ka)
  |.neq=>K (.val .bool kc)
  |_=>ke)else ke
 |.ptr _ _,.nilp=>if cx.Q ty then(match op with
  |.eql=>K (.val .bool kc)
  |.neq=>K (.val .bool ka)
  |_=>ke)else ke
 |_,_=>ke
def mF{Z:Type}(a b:Option Z):Option Z:=open Classical in if a=b then a else ke
theorem mG{Z:Type}{a b:Option Z}{z:Z}(h:mF a b=kd z):a=kd z/\b=kd z:=by unfold mF at h;split at h;rename_i e;exact⟨h,by rw[<-e];exact h⟩;cases h
theorem a8a(a:Option Z):mF a a=a:=by simp[mF]
def a8b:Option Ty->AV->AV->Option Bool|some (.list _ _),.val (.list kc _) l,.nils=>kd (List.isEmpty l)|_,_,_=>ke
def b0c:Option Ty->Bool|some (.list _ _)=>true|_=>kc
def c2d{Z:Type}(op:BinOp)(e:Bool)(K:Bool->Option Z):Option Z:=match op with|.eql=>bif e then mF (K ka) (K kc)else K false|.neq=>bif e then mF (K kc) (K ka)else K true|_=>ke
def BM(n:Nat):Bool:=A3 (n<2147483648)
def BA:Nat->BB|0=>[.fst]|f+1=>.snd::BA f
def CZ:Ty->Nat->Bool|.pair _ _,0=>true|.pair _ b,f+1=>CZ b f|_,_=>kc
def OG:BB->BB->Bool|[],[]=>true|.fst::p,.fst::q=>OG p q|.snd::p,.snd::q=>OG p q|.idx i::p,.idx j::q=>(i==j)&&OG p q|_,_=>kc
def Fk(x y:Int):Int:=bif A3 (y > x)then y else x
def OH(x y:Int):Int:=bif A3 (y<x)then y else x
def Zk{α:Type}(l:List α)(off len:Nat)(ys:List α):List α:=l.take off++(ys.take (min len ys.length)++l.drop (off+min len ys.length))
def a4V(l:List Int):List Int:=l.map λn=>((n.toNat%256:Nat):Int)
def Ty.isList:Ty->Bool|.list _ _=>true|_=>kc
def Ty.sO:Ty->Bool|.list _ _=>true|.pair a b=>(a.sO || b.sO)|.arr _ t=>t.sO|_=>kc
def RA.sO:RA->Bool|.v t=>t.sO|.o e=>e.sO|.b t=>t.sO
section
variable {Z:Type}
def AE.fresh(U:AE)(q:Bool)(n:Nat)(r:sK)(K:AE->Rs Z):Rs Z:=
 bif A3 (n<pinned)then
  match U.rt n with
  |none=>K (U.uK n r)
  |some _=>bif q then ke else match U.look n with
   |none=>ke
   |some _=>K (U.uK n r)
 else ke
def AE.uD(U:AE)(q:Bool)(d:Nat)(e:Ty)(x:AV)(ys:List e.sI)(K:AE->Rs Z):Rs Z:=
 match x with
 |.nils|.empt=>bif BM ys.length then U.fresh q d ⟨kc,.list ka e,ys⟩ λU=>K (U.set d (.sref d []))else ke
 |.sref n p=>bif q then ke else match U.look n with
  |some r=>match CQ r.t r.x p with
   |⟨.list ka e',l⟩=>
    if h:e=e' then
     bif BM (A6 l+ys.length)then
      let U':=((U.sG (AV.kill n p)).sD n (kd ⟨r.bx,r.t,FK r.t r.x p (.list ka e') (List.append l (h▸ys))⟩)).set d (.sref n p)
      match p,r.bx with
      | [],kc=>bif A3 (n<pinned)then K U' else ke
      |p,_=>match U.pd with
       |none=>K { U' with pd:=kd (n,p,d) }
       |some _=>ke
     else ke
    else ke
   |_=>ke
  |none=>ke
 |_=>ke
def XA:List PA->List Nat->List Nat|.v _::ps,us=>XA ps us|.r kc (.o _)::ps,n::us=>n::XA ps us|.r _ _::ps,_::us=>XA ps us|_,_=>[]
def AV.sN(us ks:List Nat):AV->AV|.sref m q=>if us.contains m then(match q with|[]=>if ks.contains m then .sref m []else .dead|_=>.dead)else .sref m q|.swin m q o l=>if us.contains m then .dead else .swin m q o l|.ptr m q=>if us.contains m then(match q with|[]=>.ptr m []|_=>.dead)else .ptr m q|v=>v
def AE.over(U:AE)(ty:Ty)(n:Nat)(r:sK)(x:AV)(K:AE->Rs Z):Rs Z:=match x,U.look n with
 |.val t' y,kd _=>if r.bx=ka/\(r.t.sh=ty/\(t'.tK=t'/\t'.sh=ty))then
   (match sZ t' r.t y with
   |some z=>K ((U.sG (AV.sN [n] [])).sD n (kd ⟨ka,r.t,z⟩))
   |none=>match sZ t' r.t.tK y with
    |some z=>K ((U.sG (AV.sN [n] [])).sD n (kd ⟨ka,r.t.tK,z⟩))
    |none=>K ((U.sG (AV.sN [n] [])).sD n (kd ⟨ka,t',y⟩)))else ke
 |_,_=>ke
def AE.xA(U:AE)(ty:Ty)(n:Nat)(r:sK)(x:AV)(K:AE->Rs Z):BB->Rs Z|[]=>U.over ty n r x K|_=>ke
def AE.vI(U:AE)(ty:Ty)(n:Nat)(p:BB)(x:AV)(K:AE->Rs Z):Rs Z:=
 match U.rt n with
 |none=>ke
 |some r=>
  match CQ r.t r.x p with
  |⟨.list ka e,_⟩=>
   if ty.isList then
   match x with
   |.nils=>match U.look n with
    |none=>ke
    |some _=>K ((U.sG (AV.kill n p)).sD n (kd ⟨r.bx,r.t,FK r.t r.x p (.list ka e) []⟩))
   |.sref m p'=>
    bif m==n&&OG p' p then
     match U.pd with
     |some (m',p'',_)=>bif m'==n&&OG p'' p then K { U with pd:=ke }else ke
     |none=>ke
    else match U.look n,p',U.look m with
     |some _,[],kd ⟨kc,.list ka e',l⟩=>
      if h:e'=e then
       bif m==n then ke else
       K ((((U.sG (AV.kill n p)).sG (AV.drop m)).sD m ke).sD n (kd ⟨r.bx,r.t,FK r.t r.x p (.list ka e) (h▸l)⟩))
      else ke
     |_,_,_=>ke
   |_=>ke
   else ke
  |⟨t,_⟩=>
   if t.tK=t/\t.sh=ty then
    U.uR kc t x λy U'=>match U'.look n with
     |some r=>if(CQ r.t r.x p).1=t then K (U'.sD n (kd ⟨r.bx,r.t,FK r.t r.x p t y⟩))else ke
     |none=>ke
   else U.xA ty n r x K p
def AV.sP:AV->List Nat|.sref n _|.swin n _ _ _=>[n]|_=>[]
def AE.arg(U:AE)(fz q:Bool)(used seen:List Nat):(p:PA)->AV->(p.ty.sI->AE->List Nat->List Nat->Rs Z)->Rs Z
 |.v t,a,K=>bif a.sP.any λn=>used.contains n then ke else if fz then U.uR q t a λx U'=>K x U' used seen else
   U.view t a λx=>K x U used (a.sP++seen)
 |.r c (.b t),.ptr n [],K=>if c || q || used.contains n || seen.contains n then ke else match U.look n with
  |some ⟨ka,t',x⟩=>if h:t'=t then K (h▸x) U (n::used) seen else ke
  |_=>ke
 |.r c (.o e),.sref n [],K=>if(c&&A3 (pinned<=n)) || q || used.contains n || seen.contains n then ke else match U.look n with
  |some ⟨bx,.list ka e',x⟩=>if h:e'=e then(bif bx&&c then ke else K (h▸x) U (n::used) seen)else ke
  |_=>ke
 |.r _ _,_,_=>ke
def AE.args(U:AE)(fz q:Bool)(used seen:List Nat):(ps:List PA)->List AV->((Eh (ps.map PA.ty)).sI->AE->List Nat->Rs Z)->Rs Z|[],[],K=>K () U used|[p],[a],K=>(U.arg fz q used seen p a λx U' used' _=>K x U' used')|p::p'::ps,a::as,K=>(U.arg fz q used seen p a λx U' used' seen'=>U'.args fz q used' seen' (p'::ps) as λy U'' used''=>K (x,y) U'' used'')|_,_,_=>ke
def Fg:(rs:List RA)->(Eh (rs.map RA.ty)).sI->List ((r:RA)×r.ty.sI)|[],_=>[]|[r],x=>[⟨r,x⟩]|r::r'::rs,x=>⟨r,x.1⟩::Fg (r'::rs) x.2
def BJ:(ps:List PA)->(Eh (ps.map PA.ty)).sI->List ((p:PA)×p.ty.sI)|[],_=>[]|[p],x=>[⟨p,x⟩]|p::p'::ps,x=>⟨p,x.1⟩::BJ (p'::ps) x.2
def Bq:((r:RA)×r.ty.sI)->Option sK|⟨.v _,_⟩=>none|⟨.o e,x⟩=>kd ⟨kc,.list ka e,x⟩|⟨.b t,x⟩=>kd ⟨ka,t,x⟩
def b1n(n:Nat):((r:RA)×r.ty.sI)->AV|⟨.v t,x⟩=>.val t x|⟨.o _,_⟩=>.sref n []|⟨.b _,_⟩=>.ptr n []
def BO:List RA->Nat->List Nat|[],_=>[]|_::rs,n=>n::BO rs (n+1000)
def DR:List RA->Nat->List Nat|[],_=>[]|.v _::rs,n=>DR rs (n+1000)|_::rs,n=>n::DR rs (n+1000)
def Dy:List Nat->List ((r:RA)×r.ty.sI)->Nat->Option sK|k::ns,it::its,n=>(match Bq it with|some r=>bif n==k then kd r else Dy ns its n|none=>Dy ns its n)|_,_,_=>ke
def Kz:List Nat->List ((r:RA)×r.ty.sI)->List AV|k::ns,it::its=>b1n k it::Kz ns its|_,_=>[]
def Va(o:Option sK)(r:sK):sK:=match o with|some ⟨ka,_,_⟩=>⟨ka,r.t,r.x⟩|_=>r
def a4W:Option sK->Bool|some ⟨bx,_,_⟩=>bx|none=>kc
def AE.vT(U:AE)(ks:List Nat):List Nat:=ks.filter λn=>!a4W (U.rt n)
def AE.tV(U:AE)(q:Bool)(us:List Nat):List Nat->(AE->Rs Z)->Rs Z
 | [],K=>K U
 |n::r,K=>bif A3 (n<pinned)&&!us.contains n then match U.rt n with
   |none=>U.tV q us r K
   |some _=>bif q then ke else((U.sG (AV.drop n)).sD n ke).tV q us r K
  else ke
def AE.call(U:AE)(q:Bool)(d:Option Nat)(s:rZ)(as:List AV)(K:AE->Rs Z):Rs Z:=
 match U.pd with
 |some _=>ke
 |none=>U.args (s.rs.any RA.sO || (Ko s.ps).any RA.sO) q [] [] s.ps as λx U' used=>
  U'.tV q used (DR s.rs (d.getD 0+1000)) λU1=>(s.F x).bind λy=>
   let U2:AE:=⟨λi=>(U1.sl i).sG (AV.sN used (U1.vT (XA s.ps used.reverse))),λn=>match Dy (BO s.rs (d.getD 0+1000)++used.reverse) (Fg (RA.all s.ps s.rs) y) n with
    |some r=>kd (bif used.contains n then Va (U1.rt n) r else r)
    |none=>U1.rt n,ke⟩
   match d with
   |none=>K U2
   |some d=>match Kz (BO s.rs (d+1000)) (Fg (RA.all s.ps s.rs) y)with
    | [v]=>K (U2.set d v)
    |vs=>K (U2.put d (.cmp .tup vs))
def AE.pathOf(t:Ty)(i:Nat):BB:=match t with|.arr _ _=>[.idx i]|_=>BA i
def AE.vM(t:Ty)(i:Nat):Bool:=match t with|.arr n _=>A3 (i<n)|t=>CZ t i
def AE.fills(U:AE)(q:Bool)(t:Ty):List (Nat×Operand)->t.sI->(t.sI->AE->Rs Z)->Rs Z|[],x,K=>K x U|(i,o)::r,x,K=>bif AE.vM t i then(match CQ t x (AE.pathOf t i)with|⟨t',_⟩=>U.uR q t' (U.sJ o) λy U'=>U'.fills q t r (FK t x (AE.pathOf t i) t' y) K)else ke
def AE.lit(U:AE)(q:Bool)(e:Ty)(n:Nat):List (Nat×Operand)->List e.sI->(List e.sI->AE->Rs Z)->Rs Z|[],x,K=>K x U|(i,o)::r,x,K=>bif A3 (i<n)then U.uR q e (U.sJ o) λy U'=>U'.lit q e n r (x.set i y) K else ke
def AV.vD(a:AV)(t:Ty)(K:t.sI->Rs Z):Rs Z:=match a with|.val t' x=>if h:t'=t then K (h▸x)else none|_=>ke
def AE.vX(U:AE)(ty:Option Ty)(a:AV)(K:Nat->Rs Z):Rs Z:=match ty,a with|some (.list _ _),.val (.list _ _) l=>K (A6 l)|some (.arr n _),.val (.arr _ _) _=>K n|some .str,.val .str l=>K (A6 (show List Int from l))|some (.list _ _),.nils|some (.list _ _),.empt=>K 0|some (.list _ _),.sref n p=>(match U.look n with|some r=>(match CQ r.t r.x p with|⟨.list ka _,l⟩=>K (A6 l)|_=>ke)|none=>ke)|some (.list _ _),.swin _ _ _ k=>K k|_,_=>ke
def AE.body(U:AE)(n:Nat)(p:BB)(K:(e:Ty)->List e.sI->Rs Z):Rs Z:=match U.look n with|some r=>(match CQ r.t r.x p with|⟨.list ka e,l⟩=>K e l|_=>ke)|none=>ke
def AE.bnd(U:AE)(len d:Nat)(o:Option Operand)(K:Nat->Rs Z):Rs Z:=match o with|none=>K d|some o=>match U.sJ o with|.val (.int _) (y:Int)=>bif A3 (0<=y)&&A3 (y<=(len:Int))then K y.toNat else none|_=>ke
def AE.uT(U:AE)(len:Nat)(lo hi:Option Operand)(K:Nat->Nat->Rs Z):Rs Z:=U.bnd len len hi λh=>U.bnd h 0 lo λl=>K l h
def dD:Option Operand->Bool|some (.const (.int _ 0))=>true|_=>kc
def lF(ty:Option Ty)(a:AV)(K:AV->Rs Z):Rs Z:=match ty,a with|some (.list _ _),.val (.list _ _) _|some (.list _ _),.nils|some (.list _ _),.empt|some (.list _ _),.sref _ _|some (.list _ _),.swin _ _ _ _=>K .empt|_,_=>ke
def AE.wU(U:AE)(ty:Option Ty)(a:AV)(lo hi mx:Option Operand)(K:AV->Rs Z):Rs Z:=match mx with|some m=>bif dD (kd m)&&dD hi&&lo.isNone then lF ty a K else none|none=>match a with|.val .str (l:List Int)=>(if ty=kd .str then U.uT l.length lo hi λx y=>K (.val .str ((l.take y).drop x))else ke)|.val (.list kc t) l=>(if ty=kd (.list kc t)then U.uT (A6 l) lo hi λx y=>K (.val (.list kc t) ((C9 y l).drop x))else ke)|.nils=>(match ty with|some (.list _ _)=>(U.uT 0 lo hi λ_ _=>K .nils)|_=>ke)|.sref n p=>(U.body n p λe l=>if ty=kd (.list kc e.sh)then(match lo,hi with|none,ke=>K (.sref n p)|lo,hi=>U.uT (A6 l) lo hi λx y=>K (.swin n p x (y-x)))else ke)|.swin n p o k=>(U.body n p λe _=>if ty=kd (.list kc e.sh)then U.uT k lo hi λx y=>K (.swin n p (o+x) (y-x))else ke)|.vptr (.arr k e) l=>(if ty=kd (.arr k e)then U.uT k lo hi λx y=>K (.val (.list kc e) ((C9 y l).drop x))else ke)|_=>ke
def AE.wX(U:AE)(n:Nat)(p:BB)(K:(e:Ty)->List e.sI->Rs Z):Rs Z:=match U.rt n with|some r=>(match CQ r.t r.x p with|⟨.list ka e,l⟩=>K e l|_=>ke)|none=>ke
def AE.uB(U:AE)(ty:Option Ty)(a:AV)(i:Int)(K:AV->Rs Z):Rs Z:=match a with|.val (.list kc t) l=>(if ty=kd (.list kc t)then(Ax l i).bind λx=>K (.vptr t x)else ke)|.sref n p=>(U.wX n p λe l=>if ty=kd (.list kc e.sh)then bif A3 (0<=i)&&A3 (i<((A6 l:Nat):Int))then K (.ptr n (p++[.idx i.toNat]))else ke else ke)|.swin n p o k=>(U.body n p λe _=>if ty=kd (.list kc e.sh)then bif A3 (0<=i)&&A3 (i<(k:Int))then K (.ptr n (p++[.idx (o+i.toNat)]))else ke else ke)|.ptr n p=>(match U.rt n with|some r=>(match CQ r.t r.x p with|⟨.arr k e,_⟩=>if ty=kd (.arr k e.sh)then bif A3 (0<=i)&&A3 (i<(k:Int))then K (.ptr n (p++[.idx i.toNat]))else ke else none|_=>ke)|none=>ke)|.vptr (.arr k t) l=>(if ty=kd (.arr k t)then(Ax l i).bind λx=>K (.vptr t x)else ke)|_=>ke
def AE.wQ(U:AE)(q:Bool)(ty:Ty)(a:AV)(K:AV->AE->Rs Z):Rs Z:=match a with|.vptr t x=>if t=ty then K (.val t x) U else none|.ptr n p=>(match U.look n with|some r=>(match CQ r.t r.x p with|⟨.list ka _,_⟩=>if ty.isList then K (.sref n p) U else none|⟨t,y⟩=>if t.sh=ty/\t.tK=t then K (.val t y) U else match q,p with|false,[]=>if r.t.sh=ty then K (.val r.t.tK (Ty.vH r.t r.x)) ((U.sG (AV.drop n)).sD n ke)else none|_,_=>ke)|none=>ke)|_=>ke
def AE.whole(U:AE)(fl:Bool)(ty:Ty):AV->Option (Nat×sK)|.ptr n []=>(match U.look n with|some r=>if r.bx=ka/\(r.t.isAgg || fl)=ka/\r.t.tK≠r.t/\r.t.sh=ty then kd (n,r)else none|none=>ke)|_=>ke
def AE.zB(U:AE)(q:Bool)(cx:Cx)(d:Nat)(v:AV)(K:AE->Rs Z):Rs Z:=match v with
 |.sref r []=>match U.look r with
  |some ⟨kc,t,x⟩=>bif r==d then K (U.set d (.sref r []))else bif (cx.V r || A3 (pinned<=r)) || q then K (U.set d (.sref r []))else
    bif A3 (d<pinned)then K (((((U.sG (AV.drop d)).sG (AV.ren r d)).sD r ke).sD d (kd ⟨kc,t,x⟩)).set d (.sref d []))else ke
  |_=>K (U.set d (.sref r []))
 |.swin r [] 0 k=>match U.look r with
  |some ⟨kc,.list ka e,l⟩=>bif (r==d)&&!q then
    bif A3 (d<pinned)&&A3 (k<=A6 l)then K (((U.sG (AV.kill r [])).sD r (kd ⟨kc,.list ka e,C9 k l⟩)).set d (.sref d []))else ke
   else K (U.set d (.swin r [] 0 k))
  |_=>K (U.set d (.swin r [] 0 k))
 |.nils=>match U.look d with
  |some ⟨kc,_,_⟩=>bif A3 (pinned<=d) || q then K (U.set d .nils)else K (((U.sG (AV.drop d)).sD d ke).set d .nils)
  |_=>K (U.set d .nils)
 |v=>K (U.set d v)
def AE.elems(U:AE)(e:Ty)(a:AV)(K:List e.sI->Rs Z):Rs Z:=match a with|.val (.list kc t') x=>if h:t'=e then K (h▸(show List t'.sI from x))else none|.nils|.empt=>K []|.sref n p=>(match U.look n with|some r=>(match CQ r.t r.x p with|⟨.list ka e',l⟩=>if h:e'=e then K (h▸l)else none|_=>ke)|none=>ke)|.swin n p o k=>(match U.look n with|some r=>(match CQ r.t r.x p with|⟨.list ka e',l⟩=>if h:e'=e then K (C9 k (D2 o (h▸l)))else none|_=>ke)|none=>ke)|_=>ke
def Yh:BB->Bool|[]=>true|.idx _::_=>false|_::p=>Yh p
def AE.xK(U:AE)(n:Nat)(p:BB)(off:Nat)(len:Option Nat)(k:IntKind)(ys:List Int)(K:Nat->AE->Rs Z):Rs Z:=match U.look n with
 |some r=>match CQ r.t r.x p with
  |⟨.list ka (.int k'),l⟩=>bif A3 (k'=k)&&Yh p then
    K (min (len.getD (A6 l)) ys.length) (U.sD n (kd ⟨r.bx,r.t,FK r.t r.x p (.list ka (.int k')) (Zk (show List Int from l) off (len.getD (A6 l)) ys)⟩))
   else ke
  |_=>ke
 |none=>ke
def AE.yQ(U:AE)(a:AV)(k:IntKind)(ys:List Int)(K:Nat->AE->Rs Z):Rs Z:=match a with|.sref n p=>U.xK n p 0 ke k ys K|.swin n p off len=>U.xK n p off (kd len) k ys K|_=>ke
def AE.wG(f:Int->Int->Int)(k:IntKind):List AV->Int->(AV->Rs Z)->Rs Z|[],x,K=>K (.val (.int k) x)|.val (.int k') y::r,x,K=>if k'=k then AE.wG f k r (f x y) K else none|_,_,_=>ke
def mH(cx:Cx):List Nat->Bool|[_]=>true|_::t::_=>(match cx.T t with|some (.list _ _)|some .str=>true|_=>kc)|[]=>kc
def AE.wZ(U:AE)(d m:Nat)(e:Ty)(ys:List e.sI)(n:Nat)(K:AE->Rs Z):Rs Z:=match U.look n with
 |some ⟨kc,.list ka e',l⟩=>if h:e=e' then
   bif (A3 (n<pinned)&&!(n==m))&&BM (A6 l+ys.length)then
    K (((((U.sG (AV.kill n [])).sG (AV.drop m)).sD m ke).sD n (kd ⟨kc,.list ka e',List.append l (h▸ys)⟩)).set d (.sref n []))
   else ke
  else ke
 |_=>ke
def AE.yI(U:AE)(d m:Nat)(e:Ty)(ys:List e.sI)(a:AV)(K:AE->Rs Z):Rs Z:=match a with|.nils=>(bif d==m then ke else U.fresh kc d ⟨kc,.list ka e,([]:List e.sI)⟩ λU'=>U'.wZ d m e ys d K)|.sref n []=>U.wZ d m e ys n K|_=>ke
def AE.ownB(U:AE)(e:Ty):AV->Option (Nat×(e':Ty)×List e'.sI)|.sref m []=>(match U.look m with|some ⟨kc,.list ka e',ys⟩=>bif A3 (e'.sh=e)&&!A3 (e'=e)then kd (m,⟨e',ys⟩)else none|_=>ke)|_=>ke
def b3I(cx:Cx)(ts:List Nat)(a b:AV):Option ((e:Ty)×List e.sI):=match ts,a,b with|t::t2::_,.nils,.val (.int .i64) (n:Int)=>(match cx.T t,cx.T t2 with|some (.list _ e),kd (.int .i64)=>bif A3 (0<=n)&&BM n.toNat then kd ⟨e,B7 n.toNat e.dflt⟩else none|_,_=>ke)|_,_,_=>ke
def AE.yO(U:AE)(q:Bool)(cx:Cx)(d:Nat)(ts:List Nat)(a b:AV)(K:AE->Rs Z):Rs Z:=match ts,a,b with|t::t2::_,.nils,.val (.int .i64) (n:Int)=>(match cx.T t,cx.T t2 with|some (.list _ e),kd (.int .i64)=>bif A3 (0<=n)&&BM n.toNat then U.uD q d e .nils (B7 n.toNat e.dflt) K else none|_,_=>ke)|_,_,_=>ke
theorem Zl(U:AE)(q:Bool)(cx:Cx)(d:Nat)(h:List Nat)(a b:AV)(K:AE->Rs Z):U.yO q cx d h a b K=match b3I cx h a b with
  |some ⟨e,g⟩=>U.uD q d e .nils g K
  |none=>ke:=by
 unfold AE.yO b3I;split;split;simp only[cond_eq_ite];split<;>simp_all;split;rename_i f k _ _ _ _;simp_all;rfl;split;simp_all;rfl
def AE.uN(U:AE)(q:Bool)(cx:Cx)(d:Nat)(b:Builtin)(ts:List Nat)(as:List AV)(K:AE->Rs Z):Rs Z:=
 match b,as with
 |.len,[a]=>U.vX (ts.head?.bind cx.T) a λn=>K (U.set d (.val (.int .i64) (n:Int)))
 |.max,.val (.int k) x::r=>AE.wG Fk k r x λv=>K (U.set d v)
 |.min,.val (.int k) x::r=>AE.wG OH k r x λv=>K (U.set d v)
 |.append,[a,b]=>bif mH cx ts then match ts.head?.bind cx.T with
  |some (.list _ e)=>
   match b with
   |.val .str y=>if h:e=.int .u8 then U.uD q d e a (h▸y) K else ke
   |b=>match (bif q || !e.isList then ke else U.ownB e b)with
    |some (m,⟨e',ys⟩)=>U.yI d m e' ys a K
    |none=>U.elems e b λys=>U.uD q d e a ys K
  |_=>ke
  else U.yO q cx d ts a b K
 |.cap,[.nils]=>bif Ty.isList ((ts.head?.bind cx.T).getD .unit)then K (U.set d (.val (.int .i64) (0:Int)))else ke
 |.copy,[a,b]=>if q then ke else match ts.head?.bind cx.T with
  |some (.list _ (.int k))=>U.elems (.int k) b λys=>U.yQ a k ys λn U'=>K (U'.set d (.val (.int .i64) (n:Int)))
  |_=>ke
 |_,_=>ke
def AE.vJ(U:AE)(src dst:Nat)(ts tt:Option Ty)(a:AV)(K:AV->Rs Z)(Kr:sK->Rs Z):Rs Z:=match ts,tt,a with|some _,kd (.int k),.val (.int _) (x:Int)=>K (.val (.int k) (k.wrap x))|some .str,kd (.list _ (.int .u8)),.val .str (x:List Int)=>bif BM x.length then Kr ⟨kc,.list ka (.int .u8),x⟩else none|some .str,kd .str,.val .str (x:List Int)=>K (.val .str x)|some (.list _ (.int .u8)),kd (.list _ (.int .u8)),.sref n []=>if src=dst then(match U.look n with|some ⟨kc,.list ka (.int .u8),l⟩=>bif A3 (0<A6 l)then K (.sref n [])else none|_=>ke)else none|some (.list _ (.int .u8)),kd .str,a=>(U.elems (.int .u8) a λx=>K (.val .str (a4V x)))|_,_,_=>ke
def AE.conv(U:AE)(q:Bool)(cx:Cx)(d:Nat)(src dst:Nat)(a:AV)(K:AE->Rs Z):Rs Z:=U.vJ src dst (cx.T src) (cx.T dst) a (λv=>K (U.set d v)) λr=>U.fresh q d r λU=>K (U.set d (.sref d []))
def Cx.own(cx:Cx)(d t:Nat):Option Ty:=match cx.O d with|some t'=>if cx.T t=kd t'.sh then kd t' else none|none=>cx.T t
def AE.un(op:UnOp)(a:AV)(K:AV->Rs Z):Rs Z:=match op,a with|.not,.val .bool (b:Bool)=>K (.val .bool (!b))|.neg,.val (.int k) (x:Int)=>K (.val (.int k) (k.wrap (0-x)))|.xor,.val (.int k) (x:Int)=>K (.val (.int k) (bits k .xor (if k.signed then -1 else k.max) x))|_,_=>ke
def a1E(c a b:AV)(K:AV->Rs Z):Rs Z:=match c with|.val .bool (y:Bool)=>(match a,b with|.val .bool (u:Bool),.val .bool (v:Bool)=>K (.val .bool (bif y then u else v))|u,.skp=>bif y then K u else none|.skp,v=>bif y then ke else K v|_,_=>ke)|_=>ke
def Cx.tX(cx:Cx):AV->AV|.tX g=>(match cx.G g with|some ⟨t,x⟩=>.vptr t x|none=>.dead)|v=>v
def AE.yB(U:AE):Operand->SV|.tmp t=>U.sl t|x=>.one (U.sJ x)
def AE.tH(U:AE):Operand->Option (List AV)|.tmp i=>(match U.sl i with|.cmp .agg vs=>kd vs|_=>ke)|_=>ke
def AV.xR:AV->Ty->Bool|.val t _,a=>!t.isAgg&&!a.isAgg|.sref _ [],.list ka _=>true|.nils,.list ka _=>true|_,_=>kc
def PK:Ty->Option AV|.list _ _=>kd .nils|.int k=>kd (.val (.int k) (0:Int))|.bool=>kd (.val .bool kc)|.str=>kd (.val .str ([]:List Int))|_=>ke
def AE.tL(U:AE):Nat->Ty->List (Nat×Operand)->Option (List AV)
 |_,.unit,[]=>kd []
 |k,.pair a b,[]=>(PK a).bind λv=>(U.tL (k+1) b []).map (v::·)
 |k,.pair a b,(i,o)::r=>bif i==k then(bif A3 (a.cells=1)&&(U.sJ o).xR a then(U.tL (k+1) b r).map (U.sJ o::·)else ke)
   else(PK a).bind λv=>(U.tL (k+1) b ((i,o)::r)).map (v::·)
 |_,_,_=>ke
def AE.uM(x:Operand)(d:Nat)(τ:Ty):Nat->Ty->AE->(AE->Rs Z)->Rs Z|i,.unit,U,K=>(match U.tH x with|some vs=>bif vs.length==i then K U else none|none=>ke)|i,.pair a b,U,K=>(match U.rt d,U.get d,(U.tH x).bind (·[i]?)with|some r,.ptr n [],kd v=>(if r.t=τ/\n=d/\a.cells=1 then U.vI a.sh d (BA i) v λU'=>AE.uM x d τ (i+1) b U' K else ke)|_,_,_=>ke)|_,_,_,_=>ke
def Cx.yL(cx:Cx)(d t:Nat):Option Ty:=match cx.O d with|some t'=>if t'.tK=t'/\cx.T t=kd t'.sh then kd t' else none|none=>ke
def Bg(cx:Cx)(q:Bool)(o:Oper)(U:AE)(K:AE->Rs Z):Rs Z:=
 match o.op,o.dst with
 |.move x,kd d=>match x with
  |.tmp t=>K (U.put d (U.sl t))
  |x=>K (U.set d (U.sJ x))
 |.assign x,kd d=>match U.yB x with
  |.one v=>U.zB q cx d v K
  |.cmp c vs=>K (U.put d (.cmp c vs))
 |.makeFunc (.func f) first caps,kd d=>bif first.isEmpty then K (U.put d (.cmp (.clo f) (caps.toList.map U.sJ)))else ke
 |.pick c a b,kd d=>a1E (U.sJ c) (U.sJ a) (U.sJ b) λv=>K (U.set d v)
 |.alloc t,kd d=>match cx.own d t with
  |some t=>U.fresh q d ⟨ka,t,t.dflt⟩ λU=>K (U.set d (.ptr d []))
  |none=>ke
 |.box t x,kd d=>match (bif q then ke else U.tH x)with
  |some _=>match U.rt d,cx.O d with
   |none,kd t'=>if cx.T t=kd t'.sh then U.fresh kc d ⟨ka,t',t'.dflt⟩ λU=>AE.uM x d t' 0 t' (U.set d (.ptr d [])) K else ke
   |_,_=>ke
  |none=>match cx.T t with
  |some t=>U.uR q t (U.sJ x) λy U=>if cx.K d then K (U.set d (.vptr t y))else U.fresh q d ⟨ka,t,y⟩ λU=>K (U.set d (.ptr d []))
  |none=>ke
 |.build t ps,kd d=>match cx.yL d t with
  |some t'=>bif t'.isAgg then U.fills q t' ps.toList t'.dflt λy U=>K (U.set d (.val t' y))else ke
  |none=>match cx.O d with
  |some t'=>if cx.T t=kd t'.sh then(match U.tL 0 t' ps.toList with
   |some vs=>bif A3 (0<t'.cells)then K (U.put d (.cmp .agg vs))else ke
   |none=>ke)else ke
  |none=>match cx.T t with
  |some t=>bif t.isAgg then U.fills q t ps.toList t.dflt λy U=>K (U.set d (.val t y))else ke
  |none=>ke
 |.buildSlice t n ps,kd d=>match cx.T t with
  |some (.list _ e)=>match (bif q || !e.isList then ke else cx.O d)with
   |some t'=>match t',ps.toList with
    |.list ka e',[(0,x)]=>if e'.sh=e/\n=1 then U.fresh kc d ⟨kc,.list ka e',[e'.dflt]⟩ λU=>(match U.sJ x with
      |.sref m []=>(U.set d (.sref d [])).vI e d [.idx 0] (.sref m []) K
      |_=>ke)else ke
    |_,_=>ke
   |none=>bif BM n&&A3 (n*e.cells<=16777216)then U.lit q e n ps.toList (B7 n e.dflt) λy U=>bif cx.K d then K (U.set d (.val (.list kc e) y))else U.fresh q d ⟨kc,.list ka e,y⟩ λU=>K (U.set d (.sref d []))else ke
  |_=>ke
 |.load t a,kd d=>match cx.T t with
  |some t=>match (bif q then ke else U.whole (cx.K d) t (U.sJ a))with
   |some (n,r)=>K (((U.sG (AV.sN [n] [])).sD n (kd ⟨ka,r.t.tK,Ty.vH r.t r.x⟩)).set d (.val r.t.tK (Ty.vH r.t r.x)))
   |none=>U.wQ q t (cx.tX (U.sJ a)) λv U=>K (U.set d v)
  |none=>ke
 |.store t a x,d=>if q then ke else match U.tH x with
  |some _=>match a with
   |.tmp s=>match U.rt s with
    |some r=>if cx.T t=kd r.t.sh/\0<r.t.cells then AE.uM x s r.t 0 r.t U λU=>K (U.tY d .dead)else ke
    |none=>ke
   |_=>ke
  |none=>match U.sJ a with
  |.ptr n p=>match cx.T t with
   |some t=>U.vI t n p (U.sJ x) λU=>K (U.tY d .dead)
   |none=>ke
  |_=>ke
 |.nilCheck x,kd d=>match U.sJ x with
  |.ptr n p=>K (U.set d (.ptr n p))
  |.vptr t y=>K (U.set d (.vptr t y))
  |_=>ke
 |.binOp op ty x y _,kd d=>bif b0c (cx.T ty)then(match a8b (cx.T ty) (U.sJ x) (U.sJ y)with
   |some e=>if q then ke else c2d op e λb=>K (U.set d (.val .bool b))
   |none=>ke)
  else Zj cx op ty (U.sJ x) (U.sJ y) λv=>K (U.set d v)
 |.unOp op _ x,kd d=>AE.un op (U.sJ x) λv=>K (U.set d v)
 |.convert s t x,kd d=>U.conv q cx d s t (U.sJ x) K
 |.makeSlice t n c,kd d=>match cx.own d t with
  |some (.list _ e)=>(U.sJ n).vD (.int .i64) λ(x:Int)=>(U.sJ c).vD (.int .i64) λ(y:Int)=>
    bif A3 (0<=x)&&(A3 (x<=y)&&BM y.toNat)then U.fresh q d ⟨kc,.list ka e,B7 x.toNat e.dflt⟩ λU=>K (U.set d (.sref d []))else ke
  |_=>ke
 |.slice t x lo hi mx,kd d=>U.wU (cx.T t) (U.sJ x) lo hi mx λv=>K (U.set d v)
 |.fieldAddr s x f,kd d=>match U.sJ x with
  |.ptr n p=>match U.rt n with
   |some r=>match CQ r.t r.x p with
    |⟨t,_⟩=>if CZ t f=ka/\cx.T s=kd t.sh then K (U.set d (.ptr n (p++BA f)))else ke
   |none=>ke
  |.vptr t y=>if CZ t f=ka/\cx.T s=kd t then(match CQ t y (BA f)with|⟨t',z⟩=>K (U.set d (.vptr t' z)))else ke
  |_=>ke
 |.field s x f,kd d=>match U.sJ x with
  |.val t y=>if CZ t f=ka/\cx.T s=kd t then(match CQ t y (BA f)with|⟨t',z⟩=>K (U.set d (.val t' z)))else ke
  |_=>ke
 |.indexAddr t x i,kd d=>match U.sJ i with
  |.val (.int _) (i:Int)=>U.uB (cx.T t) (cx.tX (U.sJ x)) i λv=>K (U.set d v)
  |_=>ke
 |.index s x i,kd d=>match U.sJ x,U.sJ i with
  |.val (.arr n t) l,.val (.int _) (i:Int)=>if cx.T s=kd (.arr n t)then(Ax l i).bind λy=>K (U.set d (.val t y))else ke
  |.val .str (l:List Int),.val (.int _) (i:Int)=>if cx.T s=kd .str then(Ax l i).bind λy=>K (U.set d (.val (.int .u8) y))else ke
  |_,_=>ke
 |.extract (.tmp t) i,kd d=>match U.sl t with
  |.cmp .tup vs=>match vs[i]? with
   |some v=>K (U.set d v)
   |none=>ke
  |_=>ke
 |.call c,d=>match c.callee with
  |.builtin b=>match d with
   |some d=>U.uN q cx d b c.argTypes.toList (c.args.toList.map U.sJ) K
   |none=>ke
  |.value (.func f)=>match cx.C f with
   |some s=>U.call q d s (c.args.toList.map U.sJ) K
   |none=>ke
  |.value (.tmp t)=>if q then ke else match U.sl t with
   |.cmp (.clo f) vs=>match cx.C f with
    |some s=>U.call q d s (c.args.toList.map U.sJ++vs) K
    |none=>ke
   |_=>ke
  |_=>ke
 |_,_=>ke
def Uw(ops:List Oper)(j:Nat):Option Nat:=(ops[j]?).bind (·.dst)
inductive Md where
 |v|q|x

 |p

 |a (ws:List Nat)

 |s

 |b (ws:List Nat)

 |c (ws:List Nat)

 |e

 |u

 |t
 |r (ns:List Nat)
 |w (ws:List Nat)
def Md.vL:Md->Bool|.w _=>true|.e=>true|_=>kc
def AV.tO:AV->Bool|.skp|.val _ _|.nils|.empt|.nilp|.vptr _ _|.tX _=>true|_=>kc
def SV.tO:SV->Bool|.one v=>v.tO|.cmp _ vs=>vs.all AV.tO
def AV.refs:AV->List Nat|.ptr n _|.sref n _|.swin n _ _ _=>[n]|_=>[]
def SV.refs:SV->List Nat|.one v=>v.refs|.cmp _ vs=>vs.flatMap AV.refs
def AV.alive:AV->Bool|.dead=>false|_=>ka
def SV.alive:SV->Bool|.one v=>v.alive|.cmp _ vs=>vs.all AV.alive
def dG(cx:Cx)(ts:List Nat):Bool:=match ts.head?.bind cx.T with|some (.list _ e)=>e.isList|_=>kc
def b6Z(cx:Cx)(o:Oper)(U:AE):Bool:=match o.op with|.call c=>(match c.callee with|.builtin .append=>o.dst.isSome&&!dG cx c.argTypes.toList|.value (.func f)=>(match cx.C f with|some s=>(!(s.rs.any RA.sO || (Ko s.ps).any RA.sO) || c.args.toList.all λx=>(U.sJ x).sP.isEmpty)|none=>kc)|_=>kc)|.store _ _ x=>(U.sJ x).sP.isEmpty&&(U.tH x).isNone|_=>kc
def AE.vK(U:AE)(o:Oper):List Nat:=o.op.operands.toList.flatMap λx=>match x with|.tmp t=>(U.sl t).refs|_=>[]
def IG(cx:Cx)(o:Oper)(d:Nat):List Nat:=d::(match o.op with|.call c=>(match c.callee with|.value (.func f)=>(match cx.C f with|some s=>BO s.rs (d+1000)|none=>[])|_=>[])|_=>[])
def mI(a b:List Nat):Bool:=a.all λn=>b.contains n
def sQ(a b:List Nat):Bool:=a.all λn=>!b.contains n
def a4X(U:AE):Operand->Option Nat|.tmp t=>(match U.sl t with|.one (.ptr n [])=>bif A3 (pinned<=n)then kd n else none|_=>ke)|_=>ke
def XB(o:Oper)(U:AE):Option Nat:=match o.op with|.move x=>a4X U x|.nilCheck x=>a4X U x|_=>ke
def AV.calm:AV->Bool|.ptr n []=>A3 (pinned<=n)|v=>v.tO
def SV.calm:SV->Bool|.one v=>v.calm|sv=>sv.tO
def Step.sV:Step->Bool|.idx _=>false|_=>ka
def AV.still:AV->Bool|.ptr _ p|.sref _ p=>p.all Step.sV|v=>v.tO
def SV.still:SV->Bool|.one v=>v.still|sv=>sv.tO
def a4Y:Ty->BB->Option Ty|t,[]=>kd t|.pair a _,.fst::p=>a4Y a p|.pair _ b,.snd::p=>a4Y b p|_,_=>ke
def AE.vE(U:AE):Operand->Option (Nat×BB×Ty)|.tmp t=>(match U.sl t with|.one (.ptr n p)=>(match U.rt n with|some r=>((a4Y r.t p).map λτ=>(n,p,τ))|none=>ke)|_=>ke)|_=>ke
def AE.stay(cx:Cx)(U:AE)(o:Oper):Option AV:=match o.op with|.move (.tmp t)=>(match U.sl t with|.one v=>(bif v.still&&v.refs.all λn=>(U.rt n).isSome then kd v else ke)|_=>ke)|.fieldAddr s x f=>(match U.vE x with|some (n,p,τ)=>if CZ τ f=ka/\cx.T s=kd τ.sh then kd (.ptr n (p++BA f))else none|none=>ke)|.load s x=>(match U.vE x with|some (n,p,.list ka _)=>(match cx.T s with|some τ=>bif τ.isList then kd (.sref n p)else none|none=>ke)|_=>ke)|_=>ke
def sK.xW(r:sK)(p:BB):Option AV:=bif p.all Step.sV then(match CQ r.t r.x p with|⟨.int k,v⟩=>kd (.val (.int k) v)|_=>ke)else ke
def AE.wD(cx:Cx)(U:AE)(o:Oper):Option AV:=match o.op with|.fieldAddr s x f=>(match U.vE x with|some (n,p,τ)=>if CZ τ f=ka/\cx.T s=kd τ.sh then kd (.ptr n (p++BA f))else none|none=>ke)|.load s x=>(match U.vE x with|some (n,p,.int k)=>if cx.T s=kd (.int k)then(match U.rt n with|some r=>r.xW p|none=>ke)else none|_=>ke)|_=>ke
def a8c(o:Oper):Bool:=match o.op with|.move _|.binOp _ _ _ _ _|.unOp _ _ _|.pick _ _ _|.load _ _|.fieldAddr _ _ _|.indexAddr _ _ _|.index _ _ _=>true|_=>kc
def b0d(t:(t:Ty)×t.sI):Bool:=match t with|⟨.list ka _,_⟩=>true|_=>kc
def AE.wI(cx:Cx)(U:AE)(o:Oper):Bool:=match o.op with|.store t (.tmp a) (.tmp x)=>(match U.pd,U.sl a,U.sl x with|some (n,p,_),.one (.ptr n1 p1),.one (.sref n2 p2)=>(n1==n&&(n2==n&&(OG p2 p1&&OG p p1)))&&((match U.rt n with|some r=>b0d (CQ r.t r.x p1)|none=>kc)&&(match cx.T t with|some τ=>τ.isList|none=>kc))|_,_,_=>kc)|_=>kc
def AE.uQ(U:AE):Bool:=match U.pd with|none=>true|some (_,p,_)=>!p.all Step.sV
def FR(cx:Cx):Md->Oper->AE->(AE->Rs Z)->Rs Z
 |.x,o,U,K=>Bg cx kc o U K
 |.w ws,o,U,K=>match U.pd with
  |none=>bif b6Z cx o U&&(mI (U.vK o) ws&&mI (IG cx o (o.dst.getD 0)) ws)then Bg cx kc o U λU'=>(match U'.pd with
    |none=>K U'
    |some _=>ke)else ke
  |some _=>ke
 |.r ns,o,U,K=>bif (o.op.operands.toList.all λx=>match x with
   |.tmp t=>(U.sl t).alive&&(U.sl t).refs.all λn=>(U.rt n).isSome&&ns.contains n
   |_=>ka)&&mI (IG cx o (o.dst.getD 0)) ns then
    (match o.dst with
     |some d=>Bg cx ka o U λU'=>bif mI (U'.sl d).refs ns then K U' else ke
     |none=>ke)
   else ke
 |.p,o,U,K=>match XB o U,o.dst with
  |some n,kd d=>K (U.put d (.one (.ptr n [])))
  |_,_=>ke
 |.a ws,o,U,K=>match U.pd with
  |none=>bif b6Z cx o U&&(mI (U.vK o) ws&&mI (IG cx o (o.dst.getD 0)) ws)then Bg cx kc o U K else ke
  |some _=>ke
 |.b ws,o,U,K=>match U.pd with
  |none=>bif b6Z cx o U&&(mI (U.vK o) ws&&mI (IG cx o (o.dst.getD 0)) ws)then Bg cx kc o U λU'=>(match U'.pd with
    |some (_,p,_)=>bif !p.all Step.sV then K U' else ke
    |none=>ke)else ke
  |some _=>ke
 |.s,o,U,K=>match U.stay cx o,o.dst with
  |some v,kd d=>bif v.still&&U.uQ then K (U.put d (.one v))else ke
  |_,_=>ke
 |.c ws,o,U,K=>match U.pd with
  |none=>bif b6Z cx o U&&(mI (U.vK o) ws&&mI (IG cx o (o.dst.getD 0)) ws)then Bg cx kc o U λU'=>(match U'.pd with
    |some (_,p,_)=>bif p.all Step.sV then K U' else ke
    |none=>ke)else ke
  |some _=>ke
 |.e,o,U,K=>bif U.wI cx o&&o.dst.isNone then K { U with pd:=ke }else ke
 |.t,o,U,K=>match U.wD cx o,o.dst with
  |some v,kd d=>K (U.put d (.one v))
  |_,_=>ke
 |.u,o,U,K=>bif a8c o&&o.op.operands.toList.all (λx=>match x with
   |.tmp t=>(U.sl t).tO
   |_=>ka)then
    (match o.dst with
     |some d=>Bg cx ka o U λU'=>bif (U'.sl d).tO then K U' else ke
     |none=>ke)
   else ke
 |.q,o,U,K=>bif o.op.operands.toList.all λx=>match x with
   |.tmp t=>(U.sl t).refs.all λn=>(U.rt n).isSome
   |_=>ka then
    (match o.dst with
     |some _=>Bg cx ka o U K
     |none=>ke)
   else ke
 |.v,o,U,K=>match XB o U with
  |some n=>(match o.dst with
   |some d=>K (U.put d (.one (.ptr n [])))
   |none=>ke)
  |none=>bif o.op.operands.toList.all λx=>match x with
   |.tmp t=>(U.sl t).tO
   |_=>ka then
    (match o.dst with
     |some d=>Bg cx ka o U λU'=>bif (U'.sl d).tO then K U' else ke
     |none=>ke)
   else ke
def Bi(cx:Cx)(md:Md)(ops:List Oper)(o:Oper)(U:AE)(K:AE->Rs Z):Rs Z:=
 match o.guard with
 |none=>FR cx md o U K
 |some (j,want)=>match Uw ops j with
  |none=>ke
  |some g=>match U.get g with
   |.val .bool (b:Bool)=>bif b then(bif want then FR cx md o (U.set g (.val .bool ka)) K else K ((U.set g (.val .bool ka)).tY o.dst .skp))
     else(bif want then K ((U.set g (.val .bool kc)).tY o.dst .skp)else FR cx md o (U.set g (.val .bool kc)) K)
   |.skp=>K (U.tY o.dst .skp)
   |_=>ke
def RV(cx:Cx)(ops:List Oper):List (Md×Oper)->AE->(AE->Rs Z)->Rs Z|[],U,K=>K U|(md,o)::r,U,K=>Bi cx md ops o U λU'=>RV cx ops r U' K
def a3c:Md->Md->Bool|.x,_|_,.x=>false|.e,.u|.u,.e=>true|.e,_|_,.e=>false|.c _,.u|.u,.c _=>true|.c _,.t|.t,.c _=>true|.c _,_|_,.c _=>false|.a _,.p|.p,.a _=>true|.a _,_|_,.a _=>false|.b _,.s|.s,.b _=>true|.b _,.u|.u,.b _=>true|.b _,_|_,.b _=>false|.w _,.p|.p,.w _=>true|.w _,.v|.v,.w _=>true|.w _,.u|.u,.w _=>true|.w ws,.r ns|.r ns,.w ws=>sQ ns ws|.w _,_|_,.w _=>false|_,_=>ka
def b1o:List Oper->List Nat->List Nat|[],acc=>acc|o::r,acc=>b1o r (acc++[o.after.toList.foldl (λs e=>if Region.binds .any e then s ||| 2^e.on ||| acc.getD e.on 0 else s) 0])
def a3d(ops:Array Oper)(ms:List Md):Bool:=
 let b:=b1o ops.toList []
 A3 (ms.length=ops.size)&&(D3 ops.size).all λj=>((ops.getD j default).after.toList.all λe=>!Region.binds .any e || A3 (e.on<j)) &&
  (D3 j).all λi=>(b.getD j 0).testBit i || (a3c (ms.getD i .x) (ms.getD j .x)&&((ops.getD i default).apart ops (ops.getD j default) &&
   (((ms.getD i .x).vL || (ops.getD i default).dst.isSome)&&((ms.getD j .x).vL || (ops.getD j default).dst.isSome))))
end
inductive Ex where
 |normal
 |exit (id:Nat)
 |ret
 deriving DecidableEq
inductive xD where
 |sv (i:Nat) (t:Ty)

 |own (i n:Nat) (e:Ty)

 |box (n:Nat) (t:Ty)
 |ptr (i n:Nat) (p:BB)

 |vp (i:Nat) (t:Ty)
 |ref (i n:Nat) (p:BB)

 |rfi (i n:Nat)

 |win (i n:Nat) (p:BB)

 |clo (i f:Nat) (ns:List Nat)
@[reducible] def Ar:=List xD
def Ar.ty:Ar->Ty|[]=>.unit|.sv _ t::r=>.pair t (Ar.ty r)|.own _ _ e::r=>.pair (.list ka e) (Ar.ty r)|.box _ t::r=>.pair t (Ar.ty r)|.ptr _ _ _::r=>Ar.ty r|.vp _ t::r=>.pair t (Ar.ty r)|.ref _ _ _::r=>Ar.ty r|.rfi _ _::r=>.pair (.int .i64) (Ar.ty r)|.win _ _ _::r=>.pair (.int .i64) (.pair (.int .i64) (Ar.ty r))|.clo _ _ _::r=>Ar.ty r
def AE.nothing:AE:=⟨λ_=>.one .dead,λ_=>ke,ke⟩
def RW:List Nat->List AV|[]=>[]|n::ns=>.ptr n []::RW ns
def Vb:List AV->List Nat->Bool|[],[]=>true|.ptr n []::vs,m::ns=>(n==m)&&Vb vs ns|_,_=>kc
def Ar.enc:(es:Ar)->es.ty.sI->AE|[],_=>AE.nothing|.sv i t::r,x=>(Ar.enc r x.2).set i (.val t x.1)|.own i n e::r,x=>((Ar.enc r x.2).sD n (kd ⟨kc,.list ka e,x.1⟩)).set i (.sref n [])|.box n t::r,x=>(Ar.enc r x.2).sD n (kd ⟨ka,t,x.1⟩)|.ptr i n p::r,x=>(Ar.enc r x).set i (.ptr n p)|.vp i t::r,x=>(Ar.enc r x.2).set i (.vptr t x.1)|.ref i n p::r,x=>(Ar.enc r x).set i (.sref n p)|.rfi i n::r,x=>(Ar.enc r x.2).set i (.sref n [.idx (show Int from x.1).toNat])|.win i n p::r,x=>(Ar.enc r x.2.2).set i (.swin n p (show Int from x.1).toNat (show Int from x.2.1).toNat)|.clo i f ns::r,x=>(Ar.enc r x).put i (.cmp (.clo f) (RW ns))
def Ar.names:Ar->List Nat|[]=>[]|.own _ n _::r=>n::Ar.names r|.box n _::r=>n::Ar.names r|_::r=>Ar.names r
def b0e:List Nat->Bool|[]=>true|a::l=>!l.contains a&&b0e l
section
variable {Z:Type}
def Ar.rest(nm:List Nat)(U:AE):(es:Ar)->(es.ty.sI->Rs Z)->Rs Z|[],K=>K ()|.sv i t::r,K=>(match U.get i with|.val t' x=>(if h:t'=t then Ar.rest nm U r λy=>K (h▸x,y)else ke)|_=>ke)|.own i n e::r,K=>(match U.get i with|.sref m []=>bif m==n then(match U.rt n with|some ⟨kc,.list ka e',l⟩=>(if h:e'=e then Ar.rest nm U r λy=>K (h▸l,y)else ke)|_=>ke)else none|.nils=>(match U.rt n with|none=>(bif A3 (n<pinned)then Ar.rest nm U r λy=>K ([],y)else ke)|some _=>ke)|.empt=>(match U.rt n with|none=>(bif A3 (n<pinned)then Ar.rest nm U r λy=>K ([],y)else ke)|some _=>ke)|_=>ke)|.box n t::r,K=>(match U.rt n with|some ⟨ka,t',x⟩=>(if h:t'=t then Ar.rest nm U r λy=>K (h▸x,y)else if t'.tK=t' then(match sZ t' t x with|some z=>(Ar.rest nm U r λy=>K (z,y))|none=>ke)else ke)|_=>ke)|.ptr i n p::r,K=>(match U.get i with|.ptr m q=>bif nm.contains n&&((m==n)&&OG q p)then Ar.rest nm U r K else none|_=>ke)|.vp i t::r,K=>(match U.get i with|.vptr t' x=>(if h:t'=t then Ar.rest nm U r λy=>K (h▸x,y)else ke)|_=>ke)|.ref i n p::r,K=>(match U.get i with|.sref m q=>bif nm.contains n&&((m==n)&&OG q p)then Ar.rest nm U r K else none|_=>ke)|.rfi i n::r,K=>(match U.get i with|.sref m [.idx k]=>(bif nm.contains n&&(m==n)then Ar.rest nm U r λy=>K ((k:Int),y)else ke)|_=>ke)|.win i n p::r,K=>(match U.get i with|.swin m q o k=>(bif nm.contains n&&((m==n)&&OG q p)then Ar.rest nm U r λy=>K ((o:Int),(k:Int),y)else ke)|_=>ke)|.clo i f ns::r,K=>match U.sl i with|.cmp (.clo f') vs=>bif (f'==f)&&(ns.all nm.contains&&Vb vs ns)then Ar.rest nm U r K else none|_=>ke
def AV.exact:AV->Ty->Bool|.val t' _,t=>A3 (t'=t)|_,_=>ka
def Ar.vals(nm:List Nat):(es:Ar)->AE->(es.ty.sI->Rs Z)->Rs Z|.sv i t::r,U,K=>(bif (U.get i).exact t then U.uR kc t (U.get i) λx U'=>Ar.vals nm r (U'.set i (.val t x)) λy=>K (x,y)else ke)|es,U,K=>Ar.rest nm U es K
def Ar.xC(es:Ar)(U:AE)(K:es.ty.sI->Rs Z):Rs Z:=match U.pd with|none=>bif b0e es.names then Ar.vals es.names es U K else none|some _=>ke
end
@[reducible] def Vc:=List (Ex×Ar)
def Vc.sI:Vc->Type|[]=>Empty|[(_,s)]=>s.ty.sI|(_,s)::r=>s.ty.sI ⊕ Vc.sI r
def Vc.pack{Z:Type}:(o:Vc)->Ex->AE->(o.sI->Rs Z)->Rs Z|[],_,_,_=>none|[(e',s)],e,U,K=>if e=e' then s.xC U K else none|(e',s)::x::r,e,U,K=>if e=e' then s.xC U λy=>K (.inl y)else Vc.pack (x::r) e U λy=>K (.inr y)
def Vc.open{Z:Type}:(o:Vc)->(o.sI->(Ex->AE->Rs Z)->Rs Z)
 | []=>λ_ _=>ke
 | [(e',s)]=>λx K=>K e' (s.enc x)
 |(e',s)::y::r=>
  let g:=Vc.open (y::r)
  λx K=>Sum.elim (λa=>K e' (s.enc a)) (λz=>g z K) (show s.ty.sI ⊕ Vc.sI (y::r)from x)
def IH{M β:Type}(f:M->Option (M ⊕ β)):Nat->M->Option β|0,_=>none|n+1,s=>match f s with|none=>none|some (.inl s')=>IH f n s'|some (.inr b)=>kd b
open Classical in
def mJ {M β:Type} (f:M->Option (M ⊕ β)) (s:M):Option β:=if h:∃n b,IH f n s=kd b then kd h.choose_spec.choose else ke
def Al{M β:Type}(f:M->Option (M ⊕ β))(s:M):Option β:=match IH f 400 s with|some b=>kd b|none=>mJ f s
structure rY where
 loops:List (Nat×Ar×Vc)
 cuts:List (Nat×Vc)

 regs:List (Nat×List Md)
def find{α:Type}:List (Nat×α)->Nat->Option α|[],_=>none|(k,x)::r,n=>bif k==n then kd x else find r n
def Ea(cx:Cx)(H:rY):Code->Nat->{Z:Type}->AE->(Ex->AE->Rs Z)->Rs Z
 |.skip,_,_,U,K=>K .normal U
 |.region id ops draw,_,_,U,K=>bif draw then(match find H.regs id with
    |some ms=>bif a3d ops ms then RV cx ops.toList (ms.zip ops.toList) U λU'=>K .normal U' else ke
    |none=>ke)
   else RV cx ops.toList (ops.toList.map λo=>(.x,o)) U λU'=>K .normal U'
 |.seq a b,p,_,U,K=>match find H.cuts p with
  |none=>Ea cx H a (2*p) U λe U'=>match e with
   |.normal=>Ea cx H b (2*p+1) U' K
   |e=>K e U'
  |some os=>(Ea cx H a (2*p) U λe U'=>os.pack e U' kd).bind λx=>os.open x λe U'=>match e with
   |.normal=>Ea cx H b (2*p+1) U' K
   |e=>K e U'
 |.cond c x y,p,_,U,K=>match U.sJ c with
  |.val .bool (t:Bool)=>bif t then Ea cx H x (2*p) U K else Ea cx H y (2*p+1) U K
  |_=>ke
 |.block id c,p,_,U,K=>Ea cx H c (2*p) U λe U'=>match e with
  |.exit i=>bif i==id then K .normal U' else K (.exit i) U'
  |e=>K e U'
 |.loop c,p,_,U,K=>match find H.loops p with
  |none=>ke
  |some (s,os)=>s.xC U λx=>
   (Al (λx=>Ea cx H c (2*p) (s.enc x) λe U'=>match e with
    |.normal=>s.xC U' λx'=>kd (.inl x')
    |e=>os.pack e U' λy=>kd (.inr y)) x).bind λy=>os.open y K
 |.exit id,_,_,U,K=>K (.exit id) U
 |.ret,_,_,U,K=>K .ret U
 |_,_,_,_,_=>ke
def jF(ps:List PA)(i:Nat):Option Bool:=match ps[i]? with|some (.r c _)=>kd c|_=>ke
def a7Z(c:Bool)(i:Nat):Nat:=bif c then i else pinned+i
def dH(ps:List PA)(m:Nat):Option Nat:=
 bif A3 (m<pinned)then(match jF ps m with|some ka=>kd m|_=>ke)
 else match jF ps (m-pinned)with|some kc=>kd (m-pinned)|_=>ke
def wJ:(t:Ty)->t.sI->AV|.nl _,_=>.nils|.int k,x=>.val (.int k) x|.bool,x=>.val .bool x|.str,x=>.val .str x|.unit,x=>.val .unit x|.list o t,x=>.val (.list o t) x|.pair a b,x=>.val (.pair a b) x|.arr n t,x=>.val (.arr n t) x
def Ux(ps:List PA)(x:(Eh (ps.map PA.ty)).sI):AE where
 sl:=λi=>match (BJ ps x)[i]? with
  |some ⟨.v t,y⟩=>.one (wJ t y)
  |some ⟨.r c a,y⟩=>bif c&&A3 (pinned<=i)then .one .dead else .one (b1n (a7Z c i) ⟨a,y⟩)
  |none=>.one .dead
 rt:=λn=>bif A3 (n<pinned)then(match (BJ ps x)[n]? with
   |some ⟨.r ka a,y⟩=>Bq ⟨a,y⟩
   |_=>ke)
  else match (BJ ps x)[n-pinned]? with
  |some ⟨.r kc a,y⟩=>Bq ⟨a,y⟩
  |_=>ke
 pd:=ke
section
variable {Z:Type}
def AE.out(cx:Cx)(U:AE)(tk:List Nat)(j:Nat):(r:RA)->ResultVar ⊕ Option Nat->(r.ty.sI->AE->List Nat->Rs Z)->Rs Z
 |.v t,.inl (.tmp i),K=>bif (U.get i).sP.any tk.contains then ke else U.uR kc t (U.get i) λx U'=>K x (U'.set j (.val t x)) tk
 |.v t,.inl (.cell i t'),K=>match U.get i with
  |.ptr n []=>bif tk.contains n then ke else if cx.T t'=kd t.sh then U.wQ kc t.sh (.ptr n []) λv U'=>match v with
    |.val t'' x=>match sZ t'' t x with
     |some y=>K y (U'.set j (.val t y)) tk
     |none=>ke
    |_=>ke
   else ke
  |_=>ke
 |.o e,.inl (.tmp i),K=>match U.get i with
  |.sref n []=>bif tk.contains n then ke else match U.rt n with
   |some ⟨kc,.list ka e',l⟩=>if h:e'=e then K (h▸l) (U.set j (.sref n [])) (n::tk)else ke
   |_=>ke
  |.nils=>K [] (U.set j .nils) tk
  |.empt=>K [] (U.set j .empt) tk
  |.swin n [] 0 0=>bif tk.contains n || !A3 (n<pinned)then ke else match U.look n with
   |some ⟨kc,.list ka e',_⟩=>if e'=e then K [] (((U.sG (AV.drop n)).sD n (kd ⟨kc,.list ka e,([]:List e.sI)⟩)).set j (.sref n [])) (n::tk)else ke
   |_=>ke
  |_=>ke
 |.b t,.inl (.tmp i),K=>match U.get i with
  |.ptr n []=>bif tk.contains n || !A3 (n<pinned)then ke else match U.rt n with
   |some ⟨ka,t',x⟩=>if h:t'=t then K (h▸x) (U.set j (.ptr n [])) (n::tk)else ke
   |_=>ke
  |_=>ke
 |.b t,.inr (kd n),K=>bif tk.contains n then ke else match U.rt n with
  |some ⟨ka,t',x⟩=>if h:t'=t then K (h▸x) (U.set j (.ptr n [])) (n::tk)else ke
  |_=>ke
 |.o e,.inr (kd n),K=>bif tk.contains n then ke else match U.rt n with
  |some ⟨kc,.list ka e',x⟩=>if h:e'=e then K (h▸x) (U.set j (.sref n [])) (n::tk)else ke
  |_=>ke
 |.o _,.inr ke,K=>K [] (U.set j .nils) tk
 |_,_,_=>ke
def AE.outs(cx:Cx)(U:AE)(tk:List Nat)(j:Nat):(rs:List RA)->List (ResultVar ⊕ Option Nat)->((Eh (rs.map RA.ty)).sI->AE->Rs Z)->Rs Z|[],[],K=>K () U|[r],[v],K=>(U.out cx tk j r v λx U' _=>K x U')|r::r'::rs,v::vs,K=>(U.out cx tk j r v λx U' tk'=>U'.outs cx tk' (j+1) (r'::rs) vs λy U''=>K (x,y) U'')|_,_,_=>ke
end
def Ba:List PA->Nat->List Nat|[],_=>[]|.v _::r,i=>Ba r (i+1)|.r _ _::r,i=>i::Ba r (i+1)
def Th(ps:List PA)(i:Nat):Option Nat:=match jF ps i with|some ka=>none|_=>kd (pinned+i)
def AE.upto(U:AE)(N:Nat):AE:=⟨λi=>bif A3 (i<N)then U.sl i else .one .dead,U.rt,U.pd⟩
def a0u(cx:Cx)(H:rY)(fn:Func)(ps:List PA)(rs:List RA)(x:(Eh (ps.map PA.ty)).sI):Option (Eh ((RA.all ps rs).map RA.ty)).sI:=match fn.body with|none=>none|some body=>Ea cx H body 1 (Ux ps x) λe U=>match e,U.pd with|.exit _,_=>none|_,kd _=>none|_,ke=>(U.upto fn.ntmps).outs cx [] fn.ntmps (RA.all ps rs) (fn.results.toList.map .inl++(Ba ps 0).map λi=>.inr (Th ps i)) λy _=>kd y
@[reducible] def Es:=Nat->Nat->Option Value
variable {m m':Es}
@[reducible] def Dw:=List (Nat×Nat)
variable {f:(Nat->Option Value)->Option (α×Dw×List Nat)}
def Ao{α:Type}(f:Nat->Option (α×Dw×List Nat)):(n i:Nat)->Option (List α×Dw×List Nat)|0,_=>kd ([],[],[])|n+1,i=>match f i with|none=>none|some (x,o,r)=>match Ao f n (i+1)with|none=>none|some (xs,os,rs)=>kd (x::xs,o++os,r++rs)
def CW{α:Type}(m:Es)(o:Bool)(sz:Nat)(f:(Nat->Option Value)->Option (α×Dw×List Nat))(v:Option Value):Option (List α×Dw×List Nat):=
 match v with
 |some (.slice ke n c)=>if n=0/\c=0 then kd ([],[],[])else ke
 |some (.slice (kd a) n c)=>
  if(c=0\/a.spot=ke)/\n<=c then
   match Ao (λi=>f λj=>m a.block (a.off+(i*sz+j))) n 0 with
   |none=>ke
   |some (xs,os,rs)=>
    if o=ka then(if c=0 then kd (xs,os,rs)else kd (xs,(a.block,a.off+c*sz)::os,rs))
    else(if n=0 then kd (xs,[],[])else kd (xs,[],a.block::(os.map (·.1)++rs)))
  else ke
 |_=>ke
def AM(m:Es):(t:Ty)->(Nat->Option Value)->Option (t.sI×Dw×List Nat)|.int k,rd=>(match rd 0 with|some (.int k' n)=>if k'=k then kd (n,[],[])else none|_=>ke)|.bool,rd=>(match rd 0 with|some (.bool b)=>kd (b,[],[])|_=>ke)|.str,rd=>(match rd 0 with|some (.string s)=>kd ((s.data.toList.map λb=>(b.toNat:Int):List Int),[],[])|_=>ke)|.unit,_=>kd ((),[],[])|.pair a b,rd=>(match AM m a rd with|none=>none|some (x,o,r)=>match AM m b (λj=>rd (a.cells+j))with|none=>none|some (y,o',r')=>kd ((x,y),o++o',r++r'))|.arr n t,rd=>Ao (λi=>AM m t λj=>rd (i*t.cells+j)) n 0|.list o t,rd=>CW m o t.cells (AM m t) (rd 0)|.nl t,rd=>match rd 0 with|some (.slice ke 0 0)=>kd (([]:List t.sI),[],[])|_=>ke
inductive Src where
 |at(b o:Nat)
 |one (v:Value)
variable {g g':Nat->Src}{s:Src}
def Src.rd(m:Es):Src->Nat->Option Value|.at b o,j=>m b (o+j)|.one v,j=>if j=0 then kd v else ke
def CR(m:Es):BB->Ty->Src->Option (Ty×Src)|[],t,s=>kd (t,s)|.fst::p,t,s=>(match t,s with|.pair a _,.at bl o=>CR m p a (.at bl o)|_,_=>ke)|.snd::p,t,s=>(match t,s with|.pair a b,.at bl o=>CR m p b (.at bl (o+a.cells))|_,_=>ke)|.idx i::p,t,s=>match t,s with|.arr n t,.at bl o=>if i<n then CR m p t (.at bl (o+i*t.cells))else none|.list ka t,s=>(match s.rd m 0 with|some (.slice (kd a) n _)=>if i<n then CR m p t (.at a.block (a.off+i*t.cells))else none|_=>ke)|_,_=>ke
@[reducible] def loc(m:Es)(t:Ty)(s:Src)(p:BB):Option (Ty×Src):=CR m p t s
section collectLemmas
variable {α:Type} {f f':Nat->Option (α×Dw×List Nat)}
theorem ND:∀(n i:Nat),(∀j,i<=j->j<i+n->f' j=f j)->Ao f' n i=Ao f n i|0,_,_=>rfl|n+1,i,h=>by simp[Ao];rw[h i (C0 _) (by omega),ND n (i+1) (λj g k=>h j (by omega) (by omega))]
theorem Bb:∀(n i:Nat){g os k},Ao f n i=kd (g,os,k)->g.length=n|0,i,g,os,k,h=>by simp_all[Ao]|n+1,i,g,os,k,h=>by simp[Ao]at h;split at h;grind;split at h;grind;rename_i a;simp at h;obtain⟨rfl,rfl,rfl⟩:=h;simp[Bb n (i+1) a]
theorem Bc:∀(n i k:Nat){c os a},Ao f n i=kd (c,os,a)->k<n->∃x o r A B d B',f (i+k)=kd (x,o,r)/\c[k]?=kd x/\os=A++(o++B)/\a=d++(r++B')|0,_,_,_,_,_,_,h=>by omega|n+1,i,k,c,os,a,h,q=>by simp[Ao]at h;split at h;grind;rename_i x o r p;split at h;grind;rename_i j g b e;simp at h;obtain⟨rfl,rfl,rfl⟩:=h;cases k with|zero=>exact⟨x,o,r,[],g,[],b,by omega,by simp,by simp,by simp⟩|succ k=>obtain⟨w,u,v,A,B,d,B',l,m,rfl,rfl⟩:=Bc n (i+1) k e (by omega);grind
theorem Vd:∀(n i k:Nat){q os m x o r y e c},Ao f n i=kd (q,os,m)->k<n->f (i+k)=kd (x,o,r)->
  f' (i+k)=kd (y,e,c)->(∀j,i<=j->j<i+n->j≠i+k->f' j=f j)->
  ∃A B g,os=A++(o++B)/\Ao f' n i=kd (q.set k y,A++(e++B),g)/\∀b∈g,b∈m\/b∈c
 |0,_,_,_,_,_,_,_,_,_,_,_,_,h,_,_,_=>by omega
 |n+1,i,k,q,os,m,x,o,r,y,e,c,h,H,a,hf',z=>by
  simp[Ao]at h;split at h;grind
  ·rename_i I C D d;split at h;grind
   ·rename_i E l p v;simp at h;obtain⟨rfl,rfl,rfl⟩:=h;cases k with
    |zero=>
     simp at a hf';rw[d]at a;simp at a;obtain⟨rfl,rfl,rfl⟩:=a;refine⟨[],l,c++p,by simp,?_,?_⟩;all_goals grind[Ao,ND]
    |succ k=>
     have u:i+1+k=i+(k+1):=by omega
     obtain⟨A,B,g,rfl,w,G⟩:=Vd n (i+1) k v (by omega) (by rw[u];omega) (by rw[u];omega)
      (λj F v w=>z j (by omega) (by omega) (by omega))
     refine⟨C++A,B,D++g,by simp,?_,?_⟩;simp_all[Ao];grind
theorem Ve:∀(n k i:Nat){a os g ys os' rs'},Ao f n i=kd (a,os,g)->Ao f k (i+n)=kd (ys,os',rs')->Ao f (n+k) i=kd (a++ys,os++os',g++rs')|0,k,i,a,os,g,ys,os',rs',h,b=>by simp[Ao]at h;simp_all|n+1,k,i,a,os,g,ys,os',rs',h,b=>by simp[Ao]at h;split at h;grind;rename_i p m o d;split at h;grind;rename_i l e j c;simp at h;obtain⟨rfl,rfl,rfl⟩:=h;have:=Ve n k (i+1) c (by rw[show i+1+n=i+(n+1)from by omega];omega);grind[Ao]
theorem Gk:∀(n k i:Nat){o os l},Ao f (n+k) i=kd (o,os,l)->
  ∃j m g e,Ao f n i=kd (o.take n,j,m)/\Ao f k (i+n)=kd (o.drop n,g,e)/\os=j++g/\l=m++e
 |0,k,i,o,os,l,h=>⟨[],[],os,l,by rfl,by simp_all,rfl,rfl⟩
 |n+1,k,i,o,os,l,h=>by
  rw[show n+1+k=(n+k)+1 from by omega]at h;simp[Ao]at h;split at h;grind
  ·rename_i y r u q;split at h;grind
   ·rename_i v g e p;simp at h;obtain⟨rfl,rfl,rfl⟩:=h;obtain⟨a,b,c,d,w,x,rfl,rfl⟩:=Gk n k (i+1) p;refine⟨r++a,u++b,c,d,?_,?_,by simp,by simp⟩;all_goals grind[Ao]
end collectLemmas
theorem a8d{p:Bool}{f':(Nat->Option Value)->Option (α×Dw×List Nat)}{v:Option Value}{x:List α}{o r}(h:CW m p sz f v=kd (x,o,r))(H:∀b j,b∈o.map (·.1)\/b∈r->m' b j=m b j)(u:∀i d l y (a:Addr) (n c:Nat),v=kd (.slice (kd a) n c)->f (λj=>m a.block (a.off+(i*sz+j)))=kd (y,d,l)->(∀b j,b=a.block\/(b∈d.map (·.1)\/b∈l)->m' b j=m b j)->f' (λj=>m' a.block (a.off+(i*sz+j)))=kd (y,d,l)):CW m' p sz f' v=kd (x,o,r):=by(unfold CW at h|-;split at h;omega;rename_i a n c;split at h;rename_i F;split at h;grind;rename_i I w z q;have k:∀b j,n≠0->b=a.block\/b∈w.map (·.1)\/b∈z->m' b j=m b j:=by grind);(have e:Ao (λi=>f' λj=>m' a.block (a.off+(i*sz+j))) n 0=Ao (λi=>f λj=>m a.block (a.off+(i*sz+j))) n 0:=by(refine ND n 0 λi E G=>?_);obtain⟨y,d,l,A,B,C,D,g,-,rfl,rfl⟩:=Bc n 0 i q (by omega);simp at g;rw[g];refine u i d l y a n c rfl g (λb j hb=>k b j (by omega) ?_);grind);simp_all;simp_all;omega
theorem AI{m m':Es}:∀(t:Ty){rd rd':Nat->Option Value}{x o r},AM m t rd=kd (x,o,r)->
  (∀j,j<t.cells->rd' j=rd j)->(∀b j,b∈o.map (·.1)\/b∈r->m' b j=m b j)->AM m' t rd'=kd (x,o,r)
 |.int k,rd,rd',x,o,r,h,hr,hm=>by
  simp_all[AM,Ty.cells]
 |.bool,rd,rd',x,o,r,h,hr,hm=>by
  simp_all[AM,Ty.cells]
 |.str,rd,rd',x,o,r,h,hr,hm=>by
  simp_all[AM,Ty.cells]
 |.unit,rd,rd',x,o,r,h,hr,hm=>by
  simp_all[AM]
 |.pair a b,rd,rd',x,o,r,h,hr,hm=>by
  simp[AM]at h|-;split at h;grind;rename_i x1 o1 r1 h1;split at h;grind;rename_i x2 o2 r2 h2;simp at h;obtain⟨rfl,rfl,rfl⟩:=h;rw[AI a h1 (λj hj=>hr j (by simp[Ty.cells];omega)) (λb j hb=>hm b j (by simp at hb|-;rcases hb with hb|hb;exact .inl (.inl hb);exact .inr (.inl hb)))];simp only[];rw[AI b h2 (λj hj=>hr _ (by simp[Ty.cells];omega)) (λb j hb=>hm b j (by simp at hb|-;rcases hb with hb|hb;exact .inl (.inr hb);exact .inr (.inr hb)))]
 |.arr n t,rd,rd',x,o,r,h,hr,hm=>by
  simp[AM]at h|-;rw[<-h];refine ND n 0 λi h0 hi=>?_
  obtain⟨y,o',r',A,B,A',B',hf,-,rfl,rfl⟩:=Bc n 0 i h (by omega);simp at hf;rw[hf];refine AI t hf (λj hj=>hr _ ?_) (λb j hb=>hm b j ?_);simp[Ty.cells]
  calc i*t.cells+j<i*t.cells+t.cells:=by omega
   _=(i+1)*t.cells:=by grind
   _<=n*t.cells:=A4 _ (by omega)
  grind
 |.list ow t,rd,rd',x,o,r,h,hr,hm=>by
  simp[AM]at h|-;rw[hr 0 (by simp[Ty.cells])];exact a8d h hm (λi o' r' y a n c hv h2 hsub=>AI t h2 (λj hj=>hsub _ _ (.inl rfl)) (λb j hb=>hsub b j (.inr hb)))
 |.nl t,rd,rd',x,o,r,h,hr,hm=>by
  simp_all[AM,Ty.cells]
theorem mK{m:Es}{t:Ty}{rd:Nat->Option Value}{x o r}(h:AM m (.nl t) rd=kd (x,o,r)):rd 0=kd (.slice ke 0 0)/\x=([]:List t.sI)/\o=[]/\r=[]:=by simp[AM]at h;grind
theorem Nh(m:Es)(b o k:Nat):(λj=>(Src.at b o).rd m (k+j))=(Src.at b (o+k)).rd m:=by grind[Src.rd]
theorem mL(m:Es)(b o k:Nat):(λj=>m b (o+(k+j)))=(Src.at b (o+k)).rd m:=by grind[Src.rd]
theorem Dz{a b:Ty}{rd:Nat->Option Value}{x o r}(h:AM m (.pair a b) rd=kd (x,o,r)):∃f o1 g k o2 r2,AM m a rd=kd (f,o1,g)/\AM m b (λj=>rd (a.cells+j))=kd (k,o2,r2)/\x=(f,k)/\o=o1++o2/\r=g++r2:=by simp[AM]at h;grind
theorem LK{a b:Ty}{rd:Nat->Option Value}{g o1 h f o2 r2}(k:AM m a rd=kd (g,o1,h))(c:AM m b (λj=>rd (a.cells+j))=kd (f,o2,r2)):AM m (.pair a b) rd=kd ((g,f),o1++o2,h++r2):=by simp[AM,k,c];rfl
theorem b3J{v:Option Value}{x:List α}{o r}(h:CW m ka sz f v=kd (x,o,r)):(v=kd (.slice ke 0 0)/\x=[]/\o=[]/\r=[])\/(∃a n c os,v=kd (.slice (kd a) n c)/\(c=0\/a.spot=ke)/\n<=c/\Ao (λi=>f ((Src.at a.block (a.off+i*sz)).rd m)) n 0=kd (x,os,r)/\((c=0/\o=os)\/(c≠0/\o=(a.block,a.off+c*sz)::os))):=by unfold CW at h;split at h;simp_all;rename_i a n c;simp only[mL]at h;grind;simp_all
theorem Da{t:Ty}{rd:Nat->Option Value}{x:List t.sI}{o r}(h:AM m (.list ka t) rd=kd (x,o,r)):(rd 0=kd (.slice ke 0 0)/\x=[]/\o=[]/\r=[])\/(∃a n c os,rd 0=kd (.slice (kd a) n c)/\(c=0\/a.spot=ke)/\n<=c/\Ao (λi=>AM m t ((Src.at a.block (a.off+i*t.cells)).rd m)) n 0=kd (x,os,r)/\((c=0/\o=os)\/(c≠0/\o=(a.block,a.off+c*t.cells)::os))):=b3J h
theorem Yi{m:Es}{t:Ty}{rd:Nat->Option Value}{x:List t.sI}{os r a n c}(h:rd 0=kd (.slice (kd a) n c))(g:a.spot=ke)(k:n<=c)(f:c≠0) (b:Ao (λi=>AM m t ((Src.at a.block (a.off+i*t.cells)).rd m)) n 0=kd (x,os,r)):AM m (.list ka t) rd=kd (x,(a.block,a.off+c*t.cells)::os,r):=by show CW m ka t.cells (AM m t) (rd 0)=_;simp_all[CW,mL]
theorem Mc{p t s r}(h:loc m t s (.fst::p)=kd r):∃a b bl o,t=.pair a b/\s=.at bl o/\loc m a (.at bl o) p=kd r:=by simp[loc,CR]at h;grind
theorem Me{p t s r}(h:loc m t s (.snd::p)=kd r):∃a b bl o,t=.pair a b/\s=.at bl o/\loc m b (.at bl (o+a.cells)) p=kd r:=by simp[loc,CR]at h;grind
theorem Lb{i p t s r}(h:loc m t s (.idx i::p)=kd r):(∃n g bl o,t=.arr n g/\s=.at bl o/\i<n/\loc m g (.at bl (o+i*g.cells)) p=kd r)\/(∃g a n c,t=.list ka g/\s.rd m 0=kd (.slice (kd a) n c)/\i<n/\loc m g (.at a.block (a.off+i*g.cells)) p=kd r):=by simp[loc,CR]at h;grind
theorem Cd{m:Es}:∀(p:BB)(t:Ty)(s:Src){x O R q s'},AM m t (s.rd m)=kd (x,O,R)->loc m t s p=kd (q,s')->∃y f k A B d B',AM m q (s'.rd m)=kd (y,f,k)/\CQ t x p=⟨q,y⟩/\O=A++(f++B)/\R=d++(k++B')|[],t,s,x,O,R,q,s',h,g=>(by simp[CR]at g;obtain⟨rfl,rfl⟩:=g;exact⟨x,O,R,[],[],[],[],h,rfl,by simp,by simp⟩)|.fst::p,t,s,x,O,R,q,s',h,g=>(by obtain⟨a,b,D,o,rfl,rfl,g⟩:=Mc g;obtain⟨Z,L,N,x2,M,P,H,E,rfl,rfl,rfl⟩:=Dz h;obtain⟨y,f,k,A,B,d,B',l,u,rfl,rfl⟩:=Cd p a (.at D o) H g;exact⟨y,f,k,A,B++M,d,B'++P,l,u,by simp,by simp⟩)|.snd::p,t,s,x,O,R,q,s',h,g=>(by obtain⟨a,b,D,o,rfl,rfl,g⟩:=Me g;obtain⟨Z,L,N,x2,M,P,H,E,rfl,rfl,rfl⟩:=Dz h;rw[Nh]at E;obtain⟨y,f,k,A,B,d,B',l,u,rfl,rfl⟩:=Cd p b (.at D (o+a.cells)) E g;exact⟨y,f,k,L++A,B,N++d,B',l,u,by simp,by simp⟩)|.idx i::p,t,s,x,O,R,q,s',h,g=>by(rcases Lb g with⟨n,w,D,o,rfl,rfl,F,g⟩|⟨w,a,n,c,rfl,r,F,g⟩;simp[AM,Nh]at h;obtain⟨y0,X,Y,z,C,e,j,v,U,rfl,rfl⟩:=Bc n 0 i h F;simp at v;obtain⟨y,f,k,A,B,d,B',l,u,rfl,rfl⟩:=Cd p w _ v g;refine⟨y,f,k,z++A,B++C,e++d,B'++j,l,?_,by simp,by simp⟩;simp_all[Dv,C6];rcases Da h with⟨K,-⟩|⟨G,V,Q,os,K,ha,hn,T,S⟩;simp_all;rw[K]at r;simp at r;obtain⟨rfl,rfl,rfl⟩:=r;obtain⟨y0,X,Y,z,C,e,j,v,U,rfl,rfl⟩:=Bc V 0 i T F;simp at v;obtain⟨y,f,k,A,B,d,B',l,u,rfl,rfl⟩:=Cd p w _ v g;have I:CQ (.list ka w) x (.idx i::p)=⟨q,y⟩:=by simp_all[Dv,C6]);rcases S with⟨-,rfl⟩|⟨-,rfl⟩;exact⟨y,f,k,z++A,B++C,e++d,B'++j,l,I,by simp,by simp⟩;exact⟨y,f,k,(G.block,G.off+Q*w.cells)::(z++A),B++C,e++d,B'++j,l,I,by simp,by simp⟩
def Src.wC:Src->Nat->Prop|.at sb _,c=>c≠sb|.one _,_=>True
theorem mM(t:Ty)(x y:t.sI):FK t x [] t y=y:=by(show(if h:t=t then h▸y else x)=y);simp
theorem Ss{m:Es}:∀(p:BB)(t:Ty)(s:Src){x O R l b o},AM m t (s.rd m)=kd (x,O,R)->loc m t s p=kd (l,.at b o)->(∃so,s=.at b so/\so<=o/\o+l.cells<=so+t.cells)\/∃k,(b,k)∈O/\o+l.cells<=k|[],t,s,x,O,R,l,b,o,h,f=>by simp[CR]at f;simp_all|.fst::p,t,s,x,O,R,l,b,o,h,f=>(by obtain⟨a,B,r,so,rfl,rfl,f⟩:=Mc f;obtain⟨U,N,S,V,P,T,C,y,rfl,rfl,rfl⟩:=Dz h;rcases Ss p a (.at r so) C f with⟨A,g,e,z⟩|⟨k,g,e⟩;simp at g;obtain⟨rfl,rfl⟩:=g;exact .inl ⟨_,rfl,e,by grind[Ty.cells]⟩;grind)|.snd::p,t,s,x,O,R,l,b,o,h,f=>(by obtain⟨a,B,r,so,rfl,rfl,f⟩:=Me f;obtain⟨U,N,S,V,P,T,C,y,rfl,rfl,rfl⟩:=Dz h;rw[Nh]at y;rcases Ss p B (.at r (so+a.cells)) y f with⟨A,g,e,z⟩|⟨k,g,e⟩;simp at g;obtain⟨rfl,rfl⟩:=g;exact .inl ⟨_,rfl,by omega,by grind[Ty.cells]⟩;grind)|.idx i::p,t,s,x,O,R,l,b,o,h,f=>by(rcases Lb f with⟨n,d,r,so,rfl,rfl,u,f⟩|⟨d,a,n,c,rfl,j,u,f⟩;simp[AM,Nh]at h;obtain⟨X,M,Q,E,F,v,w,q,K,rfl,rfl⟩:=Bc n 0 i h u;simp at q;have hk:i*d.cells+d.cells<=n*d.cells:=by rw[<-A7];exact A4 _ u);rcases Ss p d _ q f with⟨A,g,e,z⟩|⟨k,g,e⟩;simp at g;obtain⟨rfl,rfl⟩:=g;exact .inl ⟨_,rfl,by omega,by grind[Ty.cells]⟩;grind;rcases Da h with⟨D,-⟩|⟨Y,L,G,os,D,Z,hn,I,H⟩;simp_all;rw[D]at j;simp at j;obtain⟨rfl,rfl,rfl⟩:=j;obtain⟨X,M,Q,E,F,v,w,q,K,rfl,rfl⟩:=Bc L 0 i I u;simp at q;rcases H with⟨hc,-⟩|⟨-,rfl⟩;omega;rcases Ss p d _ q f with⟨A,g,e,z⟩|⟨k,g,e⟩;simp at g;obtain⟨rfl,rfl⟩:=g;refine .inr ⟨_,D5,?_⟩;(have:i*d.cells+d.cells<=G*d.cells:=by rw[<-A7];exact A4 _ (by omega));omega;grind
theorem It{m:Es}(p:BB)(t:Ty)(s:Src){x O R g b o}(h:AM m t (s.rd m)=kd (x,O,R))(f:loc m t s p=kd (g,.at b o)):(∃so,s=.at b so/\so<=o/\o+g.cells<=so+t.cells)\/b∈O.map (·.1):=(Ss p t s h f).imp id λ⟨_,h,_⟩=>C2 h
theorem Mg{α:Type}{f:Nat->Option (α×Dw×List Nat)}:∀(n i:Nat){q os p},Ao f n i=kd (q,os,p)->(os.map (·.1)).Nodup->∀j k,j<n->k<n->j≠k->∀{xj oj rj xk ok rk},f (i+j)=kd (xj,oj,rj)->f (i+k)=kd (xk,ok,rk)->∀c,c∈oj.map (·.1)->c∉ok.map (·.1)|0,_,_,_,_,_,_,_,_,y,_,_=>by omega|n+1,i,q,os,p,h,m,j,k,y,L,hjk=>by intro u v c e g;simp[Ao]at h;split at h;grind;rename_i R N P w;split at h;grind;(rename_i E b D d;simp at h;obtain⟨rfl,rfl,rfl⟩:=h;rw[WK,B6]at m;obtain⟨-,a,I⟩:=m;have C:∀l x o r,l<n->f (i+(l+1))=kd (x,o,r)->∀c,c∈o.map (·.1)->c∈b.map (·.1):=by intro l x o r z K c e;obtain⟨Q,M,O,A,B,F,G,H,-,rfl,-⟩:=Bc n (i+1) l d z;grind);cases j with|zero=>(cases k with|zero=>omega|succ k=>grind)|succ j=>cases k with|zero=>grind|succ k=>exact Mg n (i+1) d a j k (by omega) (by omega) (by omega) (by rw[show i+1+j=i+(j+1)from by omega];exact u) (by rw[show i+1+k=i+(k+1)from by omega];exact v) c e g
def c1P(m m':Es)(s:Src)(O:Dw)(R:List Nat)(b o n:Nat)(O':Dw):Prop:=∀c j,m' c j=m c j\/(c=b/\o<=j/\j<o+n)\/c∈O'.map (·.1)\/(c∉O.map (·.1)/\c∉R/\s.wC c)
structure xJ (s:Src) (O:Dw) (R:List Nat):Prop where
 nodup:(O.map (·.1)).Nodup
 src:∀c∈O.map (·.1),s.wC c
 shared:∀c∈R,c∉O.map (·.1)/\s.wC c
theorem b0f{A O B:List (Nat×α)}(h:c∈O.map (·.1)):c∈(A++(O++B)).map (·.1):=by simp_all
theorem Rf{t2:Ty}{h so:Nat}{g o2 r2}(f:AM m t2 ((Src.at h so).rd m)=kd (g,o2,r2))(k:∀j,j<t2.cells->m' h (so+j)=m h (so+j))(hb:∀c j,c∈o2.map (·.1)\/c∈r2->m' c j=m c j):AM m' t2 ((Src.at h so).rd m')=kd (g,o2,r2):=AI t2 f (λj a=>k j a) hb
theorem a8e{m m':Es}:∀(p:BB)(t:Ty)(s:Src){x O R Y b o y O' R' y' O'' R''},AM m t (s.rd m)=kd (x,O,R)->loc m t s p=kd (Y,.at b o)->
  AM m Y ((Src.at b o).rd m)=kd (y,O',R')->AM m' Y ((Src.at b o).rd m')=kd (y',O'',R'')->xJ s O R->c1P m m' s O R b o Y.cells O'->
  ∃A B R1,O=A++(O'++B)/\AM m' t (s.rd m')=kd (FK t x p Y y',A++(O''++B),R1)/\∀c∈R1,c∈R\/c∈R''
 | [],t,s,x,O,R,Y,b,o,y,O',R',y',O'',R'',h,r,M,hy',l,f=>by
  simp[CR]at r;obtain⟨rfl,rfl⟩:=r;rw[h]at M;simp at M;obtain⟨rfl,rfl,rfl⟩:=M;exact⟨[],[],R'',by simp,by simp_all[mM],λc f=>.inr f⟩
 |.fst::p,t,s,x,O,R,Y,b,o,y,O',R',y',O'',R'',h,r,M,hy',l,f=>by
  obtain⟨a,b',q,u,rfl,rfl,r⟩:=Mc r;obtain⟨x1,V,r1,x2,X,r2,h1,h2,rfl,rfl,rfl⟩:=Dz h;have U:=It p a _ h1 r;obtain⟨y1,g4,g5,A1,B1,h9,g0,G,-,e1,e2⟩:=Cd p a _ h1 r;rw[M]at G;simp at G;obtain⟨rfl,rfl,rfl⟩:=G;have L:∀c,c∈O'.map (·.1)->c∈V.map (·.1):=λc f=>by simp_all
  have hn:=l.nodup;rw[WK,B6]at hn;have b0:xJ (.at q u) V r1:=⟨hn.1,λc f=>l.src c (by grind),
   λc f=>⟨λh=>(l.shared c (A9 _ f)).1 (by grind),(l.shared c (A9 _ f)).2⟩⟩
  obtain⟨A,B,R1,e3,h3,h4⟩:=a8e p a (.at q u) h1 r M hy' b0 (λc j=>by
   rcases f c j with h|h|h|⟨h,F,d⟩;all_goals grind)
  rw[Nh]at h2;have k2:∀c,c∈V.map (·.1)\/c∈X.map (·.1)->c≠q:=λc f=>l.src c (by grind);have h5:=Rf (m':=m') h2 (λj hj=>by
    rcases f q (u+a.cells+j)with h|⟨hb,Z,E⟩|h|⟨h,F,d⟩;omega
    ·rcases U with⟨s1,Q,g2,g3⟩|g;all_goals grind
    grind;exact absurd rfl d)
   (λc j w=>by
    have a9:c∈X.map (·.1)\/(c∈r2/\c∉V.map (·.1)/\c≠q):=by
     rcases w with g|g;grind
     have:=l.shared c (A8 _ g)
     exact .inr ⟨g,λg'=>this.1 (by grind),this.2⟩
    have b7:c∉V.map (·.1):=by
     grind
    have k7:c≠q:=by
     grind
    rcases f c j with h|⟨hb,Z,E⟩|h|⟨h,F,d⟩;omega
    ·rcases U with⟨s1,Q,g2,g3⟩|g;all_goals grind
    all_goals grind)
  refine⟨A,B++X,R1++r2,by grind,?_,λc f=>?_⟩;rw[<-Nh]at h5
  have:=LK h3 h5
  have e:A++(O''++(B++X))=(A++(O''++B))++X:=by simp
  rw[e];exact this;grind
 |.snd::p,t,s,x,O,R,Y,b,o,y,O',R',y',O'',R'',h,r,M,hy',l,f=>by
  obtain⟨a,b',q,u,rfl,rfl,r⟩:=Me r;obtain⟨x1,V,r1,x2,X,r2,h1,h2,rfl,rfl,rfl⟩:=Dz h;rw[Nh]at h2;have U:=It p b' _ h2 r;obtain⟨y1,g4,g5,A1,B1,h9,g0,G,-,e1,e2⟩:=Cd p b' _ h2 r;rw[M]at G;simp at G;obtain⟨rfl,rfl,rfl⟩:=G;have L:∀c,c∈O'.map (·.1)->c∈X.map (·.1):=λc f=>by simp_all
  have hn:=l.nodup;rw[WK,B6]at hn;have k2:∀c,c∈V.map (·.1)\/c∈X.map (·.1)->c≠q:=λc f=>l.src c (by grind);have b3:xJ (.at q (u+a.cells)) X r2:=⟨hn.2.1,λc f=>k2 c (.inr f),
   λc f=>⟨λh=>(l.shared c (A8 _ f)).1 (by grind),(l.shared c (A8 _ f)).2⟩⟩
  obtain⟨A,B,R1,e3,h3,h4⟩:=a8e p b' (.at q (u+a.cells)) h2 r M hy' b3 (λc j=>by
   rcases f c j with h|h|h|⟨h,F,d⟩;grind;omega;grind;simp only[WK,mA]at h F;exact .inr (.inr (.inr ⟨λg=>h (.inr g),λg=>F (.inr g),d⟩)))
  have h5:=Rf (m':=m') h1 (λj hj=>by
    rcases f q (u+j)with h|⟨hb,Z,E⟩|h|⟨h,F,d⟩;omega
    ·rcases U with⟨s1,Q,g2,g3⟩|g;all_goals grind
    grind;exact absurd rfl d)
   (λc j w=>by
    have a9:c∈V.map (·.1)\/(c∈r1/\c∉X.map (·.1)/\c≠q):=by
     rcases w with g|g;grind
     have:=l.shared c (A9 _ g)
     exact .inr ⟨g,λg'=>this.1 (by grind),this.2⟩
    have b8:c∉X.map (·.1):=by
     grind
    have k7:c≠q:=by
     grind
    rcases f c j with h|⟨hb,Z,E⟩|h|⟨h,F,d⟩;omega
    ·rcases U with⟨s1,Q,g2,g3⟩|g;all_goals grind
    all_goals grind)
  refine⟨V++A,B,r1++R1,by grind,?_,λc f=>?_⟩;rw[<-Nh]at h3
  have:=LK h5 h3
  have e:V++A++(O''++B)=V++(A++(O''++B)):=by simp
  rw[e];exact this;grind
 |.idx i::p,t,s,x,O,R,Y,b,o,y,O',R',y',O'',R'',h,r,M,hy',l,f=>by
  rcases Lb r with⟨n,t,q,u,rfl,rfl,hi,r⟩|⟨t,a0,n0,c0,rfl,k0,hi,r⟩
  ·have h:Ao (λi=>AM m t λj=>(Src.at q u).rd m (i*t.cells+j)) n 0=kd (x,O,R):=h;have h0:Ao (λi=>AM m t ((Src.at q (u+i*t.cells)).rd m)) n 0=kd (x,O,R):=by grind[Nh]
   have k6:∀c,c∈O.map (·.1)->c≠q:=λc f=>l.src c f;obtain⟨z,P,ri,A0,B0,k8,a2,N,hz,e1,e2⟩:=Bc n 0 i h0 hi;simp at N;have D:∀c,c∈P.map (·.1)->c∈O.map (·.1):=λc f=>by simp_all
   have I:∀c,c∈ri->c∈R:=λc f=>by simp_all
   have U:=It p t _ N r;obtain⟨y1,g4,g5,A1,B1,h9,g0,G,-,e3,e4⟩:=Cd p t _ N r;rw[M]at G;simp at G;obtain⟨rfl,rfl,rfl⟩:=G;have L:∀c,c∈O'.map (·.1)->c∈P.map (·.1):=λc f=>by simp_all
   have g7:(P.map (·.1)).Nodup:=by
    have:=l.nodup
    grind
   have g9:xJ (.at q (u+i*t.cells)) P ri:=⟨g7,λc f=>k6 c (D c f),λc f=>⟨λg=>(l.shared c (I c f)).1 (D c g),(l.shared c (I c f)).2⟩⟩;obtain⟨A,B,R1,e5,h3,h4⟩:=a8e p t (.at q (u+i*t.cells)) N r M hy' g9 (λc j=>by
    rcases f c j with h|h|h|⟨h,F,d⟩;simp_all;omega;simp_all;exact .inr (.inr (.inr ⟨λg=>h (D c g),λg=>F (I c g),d⟩)))
   have T:∀j,0<=j->j<0+n->j≠0+i->AM m' t ((Src.at q (u+j*t.cells)).rd m')=AM m t ((Src.at q (u+j*t.cells)).rd m):=by
    intro j _ hj H;simp only[C1]at hj H;obtain⟨zj,oj,rj,Aj,Bj,k9,a3,C,-,ej,a4⟩:=Bc n 0 j h0 hj;simp at C;rw[C];have k1:=Mg n 0 h0 l.nodup i j hi hj (Ne.symm H) (by simpa using N) (by simpa using C);refine Rf C (λk hk=>?_) (λc k w=>?_);rcases f q (u+j*t.cells+k)with h|⟨hb,Z,E⟩|h|⟨h,F,d⟩;omega;rcases U with⟨s1,Q,g2,g3⟩|g;simp at Q;obtain⟨-,rfl⟩:=Q;exfalso;rcases C4 H with g|g
    have:j*t.cells+t.cells<=i*t.cells:=by rw[<-A7];exact A4 _ g
    omega
    have:i*t.cells+t.cells<=j*t.cells:=by rw[<-A7];exact A4 _ g
    omega;grind;grind;exact absurd rfl d
    ·have a8:c∈oj.map (·.1)->c∈O.map (·.1):=λg=>by grind
     have S:c∈rj->c∈R:=λg=>by grind
     have b4:c∉P.map (·.1):=by
      rcases w with g|g;grind;exact λg'=>(l.shared c (S g)).1 (D c g')
     have k7:c≠q:=by
      rcases w with g|g;grind;exact(l.shared c (S g)).2
     rcases f c k with h|⟨hb,Z,E⟩|h|⟨h,F,d⟩;omega
     ·rcases U with⟨s1,Q,g2,g3⟩|g;all_goals grind
     all_goals grind
   obtain⟨A2,B2,h8,e6,h6,h7⟩:=Vd (f':=λi=>AM m' t ((Src.at q (u+i*t.cells)).rd m')) n 0 i h0 hi (by simpa using N) (by simpa using h3) T;refine⟨A2++A,B++B2,h8,by grind,?_,λc f=>?_⟩;show Ao (λi=>AM m' t λj=>(Src.at q u).rd m' (i*t.cells+j)) n 0=kd (D4 x i (Gj p t (C6 x i t.dflt) Y y'),A2++A++(O''++(B++B2)),h8);simp only[Nh];grind;grind
  ·rcases Da h with⟨hv,-⟩|⟨a,n,c,os,hv,ha,hn,h0,Z⟩;simp_all
   ·rw[hv]at k0;simp at k0;obtain⟨rfl,rfl,rfl⟩:=k0;rcases Z with⟨a7,-⟩|⟨a7,rfl⟩;omega
    ·have k3:=l.nodup;simp only[B9,C3]at k3;obtain⟨a5,k4⟩:=k3;have g6:a.block∈(((a.block,a.off+c*t.cells)::os).map (·.1)):=by simp
     obtain⟨z,P,ri,A0,B0,k8,a2,N,hz,e1,e2⟩:=Bc n 0 i h0 hi;simp at N;have k5:∀c,c∈P.map (·.1)->c∈os.map (·.1):=λc f=>by simp_all
     have D:∀K,K∈P.map (·.1)->K∈(((a.block,a.off+c*t.cells)::os).map (·.1)):=λK f=>by
      simp_all
     have I:∀c,c∈ri->c∈R:=λc f=>by simp_all
     have U:=It p t _ N r;have a6:b∈(((a.block,a.off+c*t.cells)::os).map (·.1)):=by
      grind
     obtain⟨y1,g4,g5,A1,B1,h9,g0,G,-,e3,e4⟩:=Cd p t _ N r;rw[M]at G;simp at G;obtain⟨rfl,rfl,rfl⟩:=G;have L:∀c,c∈O'.map (·.1)->c∈P.map (·.1):=λc f=>by grind
     have g7:(P.map (·.1)).Nodup:=by
      grind
     have g9:xJ (.at a.block (a.off+i*t.cells)) P ri:=⟨g7,λc f (e:c=a.block)=>a5 (e▸k5 c f),
      λc f=>⟨λg=>(l.shared c (I c f)).1 (D c g),λ(e:c=a.block)=>(l.shared c (I c f)).1 (e▸g6)⟩⟩
     obtain⟨A,B,R1,e5,h3,h4⟩:=a8e p t (.at a.block (a.off+i*t.cells)) N r M hy' g9 (λc j=>by
      rcases f c j with h|h|h|⟨h,F,d⟩;grind;omega;grind;exact .inr (.inr (.inr ⟨λg=>h (D c g),λg=>F (I c g),λ(e:c=a.block)=>h (e▸g6)⟩)))
     have b5:s.rd m' 0=kd (.slice (kd a) n c):=by
      rw[<-hv];cases s with
      |one v=>rfl
      |_=>
       rename_i sb u;show m' sb (u+0)=m sb (u+0);rcases f sb (u+0)with h|⟨hb,Z,E⟩|h|⟨h,F,d⟩;omega;exact absurd rfl (hb▸l.src b a6);exact absurd rfl (l.src sb (D _ (L _ h)));exact absurd rfl d
     have T:∀j,0<=j->j<0+n->j≠0+i->AM m' t ((Src.at a.block (a.off+j*t.cells)).rd m')=AM m t ((Src.at a.block (a.off+j*t.cells)).rd m):=by
      intro j _ hj H;simp only[C1]at hj H;obtain⟨zj,oj,rj,Aj,Bj,k9,a3,C,-,ej,a4⟩:=Bc n 0 j h0 hj;simp at C;rw[C];have k1:=Mg n 0 h0 k4 i j hi hj (Ne.symm H) (by simpa using N) (by simpa using C);refine Rf C (λk hk=>?_) (λK k w=>?_)
      ·rcases f a.block (a.off+j*t.cells+k)with h|⟨hb,Z,E⟩|h|⟨h,F,d⟩;omega;rcases U with⟨s1,Q,g2,g3⟩|g;simp at Q;obtain⟨-,rfl⟩:=Q;exfalso;rcases C4 H with g|g
       have:j*t.cells+t.cells<=i*t.cells:=by rw[<-A7];exact A4 _ g
       omega
       have:i*t.cells+t.cells<=j*t.cells:=by rw[<-A7];exact A4 _ g
       omega;grind;all_goals grind
      ·have a8:K∈oj.map (·.1)->K∈os.map (·.1):=λg=>by grind
       have S:K∈rj->K∈R:=λg=>by grind
       have b4:K∉P.map (·.1):=by
        rcases w with g|g;grind;exact λg'=>(l.shared K (S g)).1 (D K g')
       have b6:K≠a.block:=by
        rcases w with g|g;grind;exact λe=>(l.shared K (S g)).1 (e▸g6)
       rcases f K k with h|⟨hb,Z,E⟩|h|⟨h,F,d⟩;omega
       ·rcases U with⟨s1,Q,g2,g3⟩|g;all_goals grind
       all_goals grind
     obtain⟨A2,B2,h8,e6,h6,h7⟩:=Vd (f':=λi=>AM m' t ((Src.at a.block (a.off+i*t.cells)).rd m')) n 0 i h0 hi (by simpa using N) (by simpa using h3) T;refine⟨(a.block,a.off+c*t.cells)::(A2++A),B++B2,h8,by grind,?_,λc f=>?_⟩;show AM m' (.list ka t) (s.rd m')=kd (D4 x i (Gj p t (C6 x i t.dflt) Y y'),_);grind[Yi];grind
theorem Ti{O R b o n e}(i:c1P m m' s O R b o n e)(p:xJ s O R){bl so:Nat}{o1 o2:Dw}{r2:List Nat}(w:¬ s.wC bl\/bl∈O.map (·.1))(v:∀c∈o1.map (·.1),c∈O.map (·.1)/\c≠bl)(A:∀c∈o2.map (·.1),c∈O.map (·.1)/\c≠bl)(B:∀c∈o1.map (·.1),c∉o2.map (·.1))(l:∀c∈r2,c∈R)(q:∀c∈e.map (·.1),c∈o1.map (·.1))(D:(b=bl/\∀j,j<k->¬ (o<=so+j/\so+j<o+n))\/b∈o1.map (·.1)):
  (∀j,j<k->m' bl (so+j)=m bl (so+j))/\(∀c j,c∈o2.map (·.1)\/c∈r2->m' c j=m c j):=by
 constructor
 ·intro j C;rcases i bl (so+j)with h|⟨hb,x,d⟩|h|⟨h,u,a⟩;all_goals grind
 ·intro c j f;have z:c∉o1.map (·.1):=by
   rcases f with g|g;grind;exact λr=>(p.shared c (l c g)).1 (v c r).1
  have y:c≠bl:=by
   rcases f with g|g;grind
   have:=p.shared c (l c g)
   grind
  rcases i c j with h|⟨hb,x,d⟩|h|⟨h,u,a⟩;all_goals grind
theorem Zm{m m':Es}:∀(q:BB)(t:Ty)(s:Src),t.tK=t->loc m' t s q=loc m t s q|[],t,s,_=>rfl|.fst::q,t,s,h=>by(cases t<;>cases s<;>try rfl);rename_i a b g o;simp only[Ty.tK,Ty.pair.injEq]at h;exact Zm q a (.at g o) h.1|.snd::q,t,s,h=>by(cases t<;>cases s<;>try rfl);rename_i a b g o;simp only[Ty.tK,Ty.pair.injEq]at h;exact Zm q b (.at g (o+a.cells)) h.2|.idx i::q,t,s,h=>by(cases t<;>cases s<;>try rfl);(rename_i o t _ _;cases o;rfl;simp[Ty.tK]at h;rename_i o t _;cases o;rfl;simp[Ty.tK]at h;rename_i n t g o;simp only[Ty.tK,Ty.arr.injEq]at h;show(if i<n then loc m' t (.at g (o+i*t.cells)) q else ke)=(if i<n then loc m t (.at g (o+i*t.cells)) q else ke));rw[Zm q t _ (Ty.uW t h.2)]
theorem DG{m m':Es}:∀(q:BB)(t:Ty)(s:Src){x O R r},AM m t (s.rd m)=kd (x,O,R)->loc m t s q=kd r->(∀j,j<t.cells->s.rd m' j=s.rd m j)->(∀c j,c∈O.map (·.1)->m' c j=m c j)->loc m' t s q=kd r|[],t,s,x,O,R,r,h,f,d,hb=>f|.fst::q,t,s,x,O,R,r,h,f,d,hb=>(by obtain⟨a,A,o,u,rfl,rfl,f⟩:=Mc f;obtain⟨U,N,S,V,P,T,B,y,rfl,rfl,rfl⟩:=Dz h;exact DG q a (.at o u) B f (λj z=>d j (by simp only[Ty.cells];omega)) (λc j g=>hb c j (by simp only[WK,mA];exact .inl g)))|.snd::q,t,s,x,O,R,r,h,f,d,hb=>(by obtain⟨a,A,o,u,rfl,rfl,f⟩:=Me f;obtain⟨U,N,S,V,P,T,B,y,rfl,rfl,rfl⟩:=Dz h;rw[Nh]at y;refine DG q A (.at o (u+a.cells)) y f (λj z=>?_) (λc j g=>hb c j (by simp only[WK,mA];exact .inr g));have:=d (a.cells+j) (by simp only[Ty.cells];omega);simpa[Src.rd,Nat.add_assoc]using this)|.idx i::q,t,s,x,O,R,r,h,f,d,hb=>by(rcases Lb f with⟨n,k,o,u,rfl,rfl,l,f⟩|⟨k,a,n,c,rfl,b,l,f⟩;simp[AM,Nh]at h;obtain⟨X,M,Q,D,E,v,w,p,K,rfl,rfl⟩:=Bc n 0 i h l;simp at p;show(if i<n then loc m' k (.at o (u+i*k.cells)) q else ke)=kd r);(rw[if_pos l];have hk:i*k.cells+k.cells<=n*k.cells:=by rw[<-A7];exact A4 _ l);refine DG q k _ p f (λj z=>?_) (λc j g=>hb c j (b0f g));have:=d (i*k.cells+j) (by grind[Ty.cells]);(simp_all[Src.rd,Nat.add_assoc];have Z:s.rd m' 0=kd (.slice (kd a) n c):=by simp_all[Ty.cells]);(have e:loc m' (.list ka k) s (.idx i::q)=if i<n then loc m' k (.at a.block (a.off+i*k.cells)) q else ke:=by simp_all[CR]);rw[e,if_pos l];rcases Da h with⟨C,-⟩|⟨F,L,Y,os,C,ha,hn,I,H⟩;simp_all;rw[C]at b;simp at b;obtain⟨rfl,rfl,rfl⟩:=b;obtain⟨X,M,Q,D,E,v,w,p,K,rfl,rfl⟩:=Bc L 0 i I l;simp at p;rcases H with⟨G,-⟩|⟨-,rfl⟩;omega;exact DG q k _ p f (λj z=>hb F.block _ (by simp)) (λc j g=>hb c j (by simp only[B9,mC];exact .inr (b0f g)))
theorem PB{q:BB}{t:Ty}{x O R e s'}(h:AM m t (s.rd m)=kd (x,O,R))(k:loc m t s q=kd (.list ka e,s'))(f:∀j,j<t.cells->s.rd m' j=s.rd m j)(hb:∀c j,c∈O.map (·.1)->m' c j=m c j):s'.rd m' 0=s'.rd m 0:=by cases s' with|one v=>rfl|_=>rename_i b o;rcases It q t s h k with⟨a,rfl,g,d⟩|g;have:=f (o-a) (by grind[Ty.cells]);simp_all[Src.rd];exact hb b _ g
theorem Tj{m m':Es}:∀(p q:BB)(t:Ty)(s:Src){x O R V b o y O' R' r},AM m t (s.rd m)=kd (x,O,R)->loc m t s p=kd (V,.at b o)->AM m V ((Src.at b o).rd m)=kd (y,O',R')->xJ s O R->c1P m m' s O R b o V.cells O'->(∀rest,q=p++rest->rest=[]\/V.tK=V)->loc m t s q=kd r->loc m' t s q=kd r/\∀e s',r=(.list ka e,s')->(∀rest,q≠p++rest)->s'.rd m' 0=s'.rd m 0
 | [],q,t,s,x,O,R,V,b,o,y,O',R',r,h,w,Q,l,f,hq,A=>by simp[CR]at w;obtain⟨rfl,rfl⟩:=w;refine⟨?_,λ_ _ _ H=>absurd rfl (H q)⟩;rcases hq q rfl with rfl|g;exact A;grind[Zm]
 |.fst::p,q,t,s,x,O,R,V,b,o,y,O',R',r,h,w,Q,l,f,hq,A=>by
  obtain⟨a,X,bl,so,rfl,rfl,w⟩:=Mc w;obtain⟨x1,o1,r1,x2,o2,r2,h1,Y,rfl,rfl,rfl⟩:=Dz h;have hw:=It p a _ h1 w;obtain⟨y1,h6,h7,A1,B1,h4,h5,G,-,B,e2⟩:=Cd p a _ h1 w;rw[Q]at G;simp at G;obtain⟨rfl,rfl,rfl⟩:=G;have u:∀c,c∈O'.map (·.1)->c∈o1.map (·.1):=λc f=>by simp_all
  have Z:=l.nodup;rw[WK,B6]at Z;have m1:∀c,c∈o1.map (·.1)->c∈(o1++o2).map (·.1):=λc f=>by grind
  have m2:∀c,c∈o2.map (·.1)->c∈(o1++o2).map (·.1):=λc f=>by grind
  cases q with
   |nil=>refine⟨A,λe s' B _=>?_⟩;simp[CR]at A;grind
   |cons st q=>
    cases st with
     |fst=>
      have d:loc m a (.at bl so) q=kd r:=A;have a2:xJ (.at bl so) o1 r1:=⟨Z.1,λc f=>l.src c (m1 c f),λc f=>⟨λh=>(l.shared c (A9 _ f)).1 (m1 c h),(l.shared c (A9 _ f)).2⟩⟩;have U:=Tj p q a (.at bl so) h1 w Q a2 (λc j=>by
       rcases f c j with h|h|h|⟨h,K,F⟩;exact .inl h;all_goals grind)
       (λrest e=>hq rest (by grind)) d
      exact⟨U.1,λe s' B H=>U.2 e s' B (λrest e2=>H rest (by grind))⟩
     |snd=>have d:loc m X (.at bl (so+a.cells)) q=kd r:=A;rw[Nh]at Y;have E:=Ti f l (bl:=bl) (so:=so+a.cells) (k:=X.cells) (o1:=o1) (o2:=o2) (r2:=r2) (.inl (λh=>h rfl)) (λc f=>⟨m1 c f,l.src c (m1 c f)⟩) (λc f=>⟨m2 c f,l.src c (m2 c f)⟩) (λc h K=>Z.2.2 c h c K rfl) (λc f=>A8 _ f) u (by grind);exact⟨DG q X _ Y d E.1 (λc j f=>E.2 c j (.inl f)),λe s' B _=>PB Y (B▸d) E.1 (λc j f=>E.2 c j (.inl f))⟩
     |idx i=>cases A
 |.snd::p,q,t,s,x,O,R,V,b,o,y,O',R',r,h,w,Q,l,f,hq,A=>by
  obtain⟨a,X,bl,so,rfl,rfl,w⟩:=Me w;obtain⟨x1,o1,r1,x2,o2,r2,h1,Y,rfl,rfl,rfl⟩:=Dz h;rw[Nh]at Y;have hw:=It p X _ Y w;obtain⟨y1,h6,h7,A1,B1,h4,h5,G,-,B,e2⟩:=Cd p X _ Y w;rw[Q]at G;simp at G;obtain⟨rfl,rfl,rfl⟩:=G;have u:∀c,c∈O'.map (·.1)->c∈o2.map (·.1):=λc f=>by simp_all
  have Z:=l.nodup;rw[WK,B6]at Z;have m1:∀c,c∈o1.map (·.1)->c∈(o1++o2).map (·.1):=λc f=>by grind
  have m2:∀c,c∈o2.map (·.1)->c∈(o1++o2).map (·.1):=λc f=>by grind
  cases q with
   |nil=>refine⟨A,λe s' B _=>?_⟩;simp[CR]at A;grind
   |cons st q=>
    cases st with
     |snd=>
      have d:loc m X (.at bl (so+a.cells)) q=kd r:=A;have a3:xJ (.at bl (so+a.cells)) o2 r2:=⟨Z.2.1,λc f=>l.src c (m2 c f),λc f=>⟨λh=>(l.shared c (A8 _ f)).1 (m2 c h),(l.shared c (A8 _ f)).2⟩⟩;have U:=Tj p q X (.at bl (so+a.cells)) Y w Q a3 (λc j=>by
       rcases f c j with h|h|h|⟨h,K,F⟩;exact .inl h;omega;grind;simp only[WK,mA]at h K;exact .inr (.inr (.inr ⟨λg=>h (.inr g),λg=>K (.inr g),F⟩)))
       (λrest e=>hq rest (by grind)) d
      exact⟨U.1,λe s' B H=>U.2 e s' B (λrest e2=>H rest (by grind))⟩
     |fst=>have d:loc m a (.at bl so) q=kd r:=A;have E:=Ti f l (bl:=bl) (so:=so) (k:=a.cells) (o1:=o2) (o2:=o1) (r2:=r1) (.inl (λh=>h rfl)) (λc f=>⟨m2 c f,l.src c (m2 c f)⟩) (λc f=>⟨m1 c f,l.src c (m1 c f)⟩) (λc h K=>Z.2.2 c K c h rfl) (λc f=>A9 _ f) u (by grind);exact⟨DG q a _ h1 d E.1 (λc j f=>E.2 c j (.inl f)),λe s' B _=>PB h1 (B▸d) E.1 (λc j f=>E.2 c j (.inl f))⟩
     |idx i=>cases A
 |.idx i::p,q,t,s,x,O,R,V,b,o,y,O',R',r,h,w,Q,l,f,hq,A=>by rcases Lb w with⟨n,t,bl,so,rfl,rfl,hi,w⟩|⟨t,a0,n0,c0,rfl,g5,hi,w⟩;(have h:Ao (λi=>AM m t λj=>(Src.at bl so).rd m (i*t.cells+j)) n 0=kd (x,O,R):=h;have h0:Ao (λi=>AM m t ((Src.at bl (so+i*t.cells)).rd m)) n 0=kd (x,O,R):=by grind[Nh]);(have P:∀c,c∈O.map (·.1)->c≠bl:=λc f=>l.src c f;have⟨z,L,ri,A0,B0,k1,k3,N,hz,B,e2⟩:=Bc n 0 i h0 hi;simp at N;have C:∀c,c∈L.map (·.1)->c∈O.map (·.1):=λc f=>by simp_all);(have I:∀c,c∈ri->c∈R:=λc f=>by simp_all);(have hw:=It p t _ N w;obtain⟨y1,h6,h7,A1,B1,h4,h5,G,-,e3,e4⟩:=Cd p t _ N w;rw[Q]at G;simp at G;obtain⟨rfl,rfl,rfl⟩:=G;have u:∀c,c∈O'.map (·.1)->c∈L.map (·.1):=λc f=>by simp_all);(cases q with|nil=>refine⟨A,λe s' B _=>?_⟩;simp_all[CR]|cons st q=>(rcases st with _|_|j;cases A;cases A;rcases Lb A with⟨n',g6,k5,a4,e5,e6,hj,d⟩|⟨g6,a',n',S,e5,-⟩;simp at e5;obtain⟨rfl,rfl⟩:=e5;simp at e6;obtain⟨rfl,rfl⟩:=e6;have el:loc m' (.arr n t) (.at bl so) (.idx j::q)=loc m' t (.at bl (so+j*t.cells)) q:=by(show(if j<n then loc m' t (.at bl (so+j*t.cells)) q else ke)=_);simp_all);(rw[el];by_cases hji:j=i;subst hji;have g0:(L.map (·.1)).Nodup:=by have:=l.nodup;grind);have g4:xJ (.at bl (so+j*t.cells)) L ri:=⟨g0,λc f=>P c (C c f),λc f=>⟨λg=>(l.shared c (I c f)).1 (C c g),(l.shared c (I c f)).2⟩⟩;have U:=Tj p q t _ N w Q g4 (λc k=>by rcases f c k with h|h|h|⟨h,K,F⟩;exact .inl h;omega;simp_all;exact .inr (.inr (.inr ⟨λg=>h (C c g),λg=>K (I c g),F⟩))) (λrest e=>hq rest (by simp_all)) d;(simp_all;obtain⟨zj,oj,rj,Aj,Bj,k2,k4,D,-,ej,k6⟩:=Bc n 0 j h0 hj;simp at D;have M:=Mg n 0 h0 l.nodup i j hi hj (Ne.symm hji) (by simpa using N) (by simpa using D);have T:∀c,c∈oj.map (·.1)->c∈O.map (·.1):=λc g=>by grind);have E:=Ti f l (bl:=bl) (so:=so+j*t.cells) (k:=t.cells) (o1:=L) (o2:=oj) (r2:=rj) (.inl (λh=>h rfl)) (λc f=>⟨C c f,P c (C c f)⟩) (λc f=>⟨T c f,P c (T c f)⟩) M (λc g=>by grind) u (by rcases hw with⟨s1,g1,g2,g3⟩|g;simp at g1;obtain⟨rfl,rfl⟩:=g1;refine .inl ⟨rfl,λk hk=>?_⟩;rcases C4 hji with g|g;(have:j*t.cells+t.cells<=i*t.cells:=by rw[<-A7];exact A4 _ g);omega;(have:i*t.cells+t.cells<=j*t.cells:=by rw[<-A7];exact A4 _ g);omega;grind);exact⟨DG q t _ D d E.1 (λc j f=>E.2 c j (.inl f)),λe s' B _=>PB D (B▸d) E.1 (λc j f=>E.2 c j (.inl f))⟩;simp_all);rcases Da h with⟨hv,-⟩|⟨a,n,c,os,hv,ha,Z,h0,ho⟩;simp_all;rw[hv]at g5;simp at g5;obtain⟨rfl,rfl,rfl⟩:=g5;rcases ho with⟨k8,-⟩|⟨k8,rfl⟩;omega;(have g7:=l.nodup;simp only[B9,C3]at g7;have⟨h9,g9⟩:=g7;have h8:a.block∈(((a.block,a.off+c*t.cells)::os).map (·.1)):=by simp);(have⟨z,L,ri,A0,B0,k1,k3,N,hz,B,e2⟩:=Bc n 0 i h0 hi;simp at N;have h3:∀c,c∈L.map (·.1)->c∈os.map (·.1):=λc f=>by simp_all);(have C:∀S,S∈L.map (·.1)->S∈(((a.block,a.off+c*t.cells)::os).map (·.1)):=λS f=>by simp_all);(have I:∀c,c∈ri->c∈R:=λc f=>by simp_all);(have hw:=It p t _ N w;have k7:b∈(((a.block,a.off+c*t.cells)::os).map (·.1)):=by grind);(obtain⟨y1,h6,h7,A1,B1,h4,h5,G,-,e3,e4⟩:=Cd p t _ N w;rw[Q]at G;simp at G;obtain⟨rfl,rfl,rfl⟩:=G;have u:∀c,c∈O'.map (·.1)->c∈L.map (·.1):=λc f=>by grind);(have k9:s.rd m' 0=kd (.slice (kd a) n c):=by rw[<-hv];cases s with|one v=>rfl|_=>rename_i sb so;show m' sb (so+0)=m sb (so+0);rcases f sb (so+0)with h|⟨hb,ho,a5⟩|h|⟨h,K,F⟩;omega;exact absurd rfl (hb▸l.src b k7);exact absurd rfl (l.src sb (C _ (u _ h)));exact absurd rfl F);cases q with|nil=>refine⟨A,λe s' B _=>?_⟩;simp[CR]at A;grind|cons st q=>(rcases st with _|_|j;cases A;cases A;rcases Lb A with⟨n',g6,k5,a4,e5,e6,hj,d⟩|⟨g6,a',n',S,e5,e6,hj,d⟩;grind;simp at e5;subst e5;rw[hv]at e6;simp at e6;obtain⟨rfl,rfl,rfl⟩:=e6;have e:loc m' (.list ka t) s (.idx j::q)=if j<n then loc m' t (.at a.block (a.off+j*t.cells)) q else ke:=by simp only[loc,CR,k9]);(rw[e,if_pos hj];clear e;by_cases hji:j=i;subst hji;have g0:(L.map (·.1)).Nodup:=by grind);have g4:xJ (.at a.block (a.off+j*t.cells)) L ri:=⟨g0,λc f (e:c=a.block)=>h9 (e▸h3 c f),λc f=>⟨λg=>(l.shared c (I c f)).1 (C c g),λ(e:c=a.block)=>(l.shared c (I c f)).1 (e▸h8)⟩⟩;have U:=Tj p q t _ N w Q g4 (λc k=>by rcases f c k with h|h|h|⟨h,K,F⟩;exact .inl h;omega;grind;exact .inr (.inr (.inr ⟨λg=>h (C c g),λg=>K (I c g),λ(e:c=a.block)=>h (e▸h8)⟩))) (λrest e=>hq rest (by grind)) d;(exact⟨U.1,λe s' B H=>U.2 e s' B (λrest e2=>H rest (by grind))⟩;obtain⟨zj,oj,rj,Aj,Bj,k2,k4,D,-,ej,k6⟩:=Bc n 0 j h0 hj;simp at D;have M:=Mg n 0 h0 g9 i j hi hj (Ne.symm hji) (by simpa using N) (by simpa using D);have k0:∀c,c∈oj.map (·.1)->c∈os.map (·.1):=λc g=>by grind);(have T:∀S,S∈oj.map (·.1)->S∈(((a.block,a.off+c*t.cells)::os).map (·.1)):=λS g=>by grind);have E:=Ti f l (bl:=a.block) (so:=a.off+j*t.cells) (k:=t.cells) (o1:=L) (o2:=oj) (r2:=rj) (.inr h8) (λc f=>⟨C c f,λe=>h9 (e▸h3 c f)⟩) (λc f=>⟨T c f,λe=>h9 (e▸k0 c f)⟩) M (λc g=>by grind) u (by rcases hw with⟨s1,g1,g2,g3⟩|g;simp at g1;obtain⟨rfl,rfl⟩:=g1;refine .inl ⟨rfl,λk hk=>?_⟩;rcases C4 hji with g|g;(have:j*t.cells+t.cells<=i*t.cells:=by rw[<-A7];exact A4 _ g);omega;(have:i*t.cells+t.cells<=j*t.cells:=by rw[<-A7];exact A4 _ g);omega;grind);exact⟨DG q t _ D d E.1 (λc j f=>E.2 c j (.inl f)),λe s' B _=>PB D (B▸d) E.1 (λc j f=>E.2 c j (.inl f))⟩
def Ag(w:World)(ov:Option (Nat×Nat×Value)):Es:=λb o=>match ov with|some (b',o',v)=>if b=b'/\o=o' then kd v else w.cell? ⟨b,o,ke⟩|none=>w.cell? ⟨b,o,ke⟩
structure Gh where
 g:Nat->Src
 ow:Nat->Dw
 ov:Option (Nat×Nat×Value)
structure Base where
 size:Nat
 hp:Nat->Option Obj
 F:Nat->Prop
 S:Nat->Prop

 pin:Nat->Option Src:=λ_=>ke

 io:Os×Array (Nat×ByteArray):=(default,#[])
def EK(w:World):Os×Array (Nat×ByteArray):=(w.os,w.output)
def BP(M:Gh)(c:Nat):Prop:=∃n,c∈(M.ow n).map (·.1)
def Bh(B:Base)(w:World)(M:Gh)(c:Nat):Prop:=c<w.heap.size/\(B.S c\/B.F c\/B.size<=c)/\¬ BP M c
def Cv(w:World)(b k:Nat):Prop:=∃c e lo hi,w.heap[b]?=kd (.cells c e (lo,hi))/\k<=c.size/\(hi=lo\/k<=lo)
def CL:Value->Bool|.agg _|.tuple _=>false|_=>ka
def CK(m:Es)(Sh:Nat->Prop)(t:Ty)(x:t.sI)(v:Value):Prop:=(t.isAgg=ka->∃cs,v=.agg cs/\cs.size=t.cells)/\(t.isAgg=kc->CL v=ka)/\∃R,AM m t (λj=>v.cells[j]?)=kd (x,[],R)/\∀c∈R,Sh c
def AA(m:Es)(g:Nat->Src)(rt:Nat->Option sK)(Sh:Nat->Prop):AV->Value->Prop|.dead,_=>True|.skp,v=>v=undef|.val t x,v=>CK m Sh t x v|.nils,v=>v=.slice ke 0 0|.empt,v=>∃a:Option Addr,v=.slice a 0 0|.nilp,v=>v=.pointer none|.ptr n p,v=>∃r t b o,rt n=kd r/\loc m r.t (g n) p=kd (t,.at b o)/\v=.pointer (kd ⟨b,o,ke⟩)|.tX g,v=>v=.pointer (kd ⟨g,0,ke⟩)|.vptr t x,v=>∃b o R,v=.pointer (kd ⟨b,o,ke⟩)/\AM m t ((Src.at b o).rd m)=kd (x,[],R)/\Sh b/\∀c∈R,Sh c|.sref n p,v=>∃r e s,rt n=kd r/\loc m r.t (g n) p=kd (.list ka e,s)/\s.rd m 0=kd v|.swin n p off len,v=>∃r e s a l c,rt n=kd r/\loc m r.t (g n) p=kd (.list ka e,s)/\s.rd m 0=kd (.slice a l c)/\off+len<=l/\∃a',v=.slice a' len (c-off)/\(∀A,a'=kd A->c=off\/A.spot=ke)/\(c=off\/a'=a.map λA=>A.add (off*e.cells))
def zF.ok:zF->Array Value->Nat->Value->Prop|.tup,us,_,v=>v=.tuple us|.agg,us,n,v=>us.size=n/\v=.agg us/\∀(k:Nat) u,us[k]?=kd u->CL u=true|.clo f,us,n,v=>us.size=n/\v=.func (.func f) #[] us
def Yj(m:Es)(g:Nat->Src)(rt:Nat->Option sK)(Sh:Nat->Prop):SV->Value->Prop|.one a,v=>AA m g rt Sh a v|.cmp c as,v=>∃vs:Array Value,c.ok vs as.length v/\∀(k:Nat) a,as[k]?=kd a->∃u,vs[k]?=kd u/\AA m g rt Sh a u
structure tT (m:Es) (Sh:Nat->Prop) (r:sK) (s:Src) (O:Dw):Prop where
 rd:∃O' R,AM m r.t (s.rd m)=kd (r.x,O',R)/\(∀c∈R,Sh c)/\
  ((r.bx=ka/\∃b,s=.at b 0/\O=(b,r.t.cells)::O')\/(r.bx=kc/\(∃v,s=.one v)/\(∃e,r.t=.list ka e)/\O=O'))
def RX(m:Es)(g:Nat->Src)(rt:Nat->Option sK):Option (Nat×BB×Nat)->Option (Nat×Nat×Value)->Prop|none,ke=>True|some (n,p,_),kd (b,o,_)=>∃r e,rt n=kd r/\loc m r.t (g n) p=kd (.list ka e,.at b o)|_,_=>False
theorem RX.mono{rt:Nat->Option sK}:∀{pd ov},RX m g rt pd ov->(∀n p d r e b o,pd=kd (n,p,d)->rt n=kd r->loc m r.t (g n) p=kd (.list ka e,.at b o)->∃f,rt' n=kd f/\loc m' f.t (g' n) p=kd (.list ka e,.at b o))->RX m' g' rt' pd ov|none,ke,_,_=>trivial|some (n,p,d),kd (b,o,v),⟨r,e,k,a⟩,j=>(by have⟨f,c,i⟩:=j n p d r e b o rfl k a;exact⟨f,e,c,i⟩)|none,kd _,h,_=>h.elim|some _,ke,h,_=>h.elim
structure sH (B:Base) (U:AE) (N:Nat) (tm:Nat->Value) (w:World) (M:Gh):Prop where
 roots:∀n r,U.rt n=kd r->tT (Ag w M.ov) (Bh B w M) r (M.g n) (M.ow n)
 norm:∀n,U.rt n=ke->M.ow n=[]
 nodup:∀n,((M.ow n).map (·.1)).Nodup
 sQ:∀n n',n≠n'->∀c,c∈(M.ow n).map (·.1)->c∉(M.ow n').map (·.1)
 live:∀n p,p∈M.ow n->Cv w p.1 p.2
 slots:∀i,i<N->Yj (Ag w M.ov) M.g U.rt (Bh B w M) (U.sl i) (tm i)
 pend:RX (Ag w M.ov) M.g U.rt U.pd M.ov
 size:B.size<=w.heap.size
 frame:∀b,b<B.size->¬ B.F b->w.heap[b]?=B.hp b
 mine:∀c,BP M c->B.F c\/B.size<=c
 pins:∀i b,B.pin i=kd b->U.rt (pinned+i)≠ke->M.g (pinned+i)=b
 still:EK w=B.io
theorem Cv.lt(h:Cv w b k):b<w.heap.size:=by obtain⟨c,e,lo,g,h,-⟩:=h;grind
theorem Cv.mono{k':Nat}(h:Cv w b k)(g:k'<=k):Cv w b k':=by have⟨c,e,lo,d,h,f,a⟩:=h;exact⟨c,e,lo,d,h,B4 g f,a.imp id (B4 g)⟩
theorem sH.lt{B U N tm w M}(h:sH B U N tm w M)(g:BP M c):c<w.heap.size:=by have⟨n,f⟩:=g;obtain⟨p,k,rfl⟩:=List.mem_map.1 f;exact(h.live n p k).lt
theorem CK.frame{t x v}(h:CK m Sh t x v)(i:∀c j,Sh c->m' c j=m c j)(e:∀c,Sh c->Sh' c):CK m' Sh' t x v:=by have⟨g,f,R,k,a⟩:=h;refine⟨g,f,R,AI t k (λ_ _=>rfl) (λb j hb=>?_),λc d=>e c (a c d)⟩;simp_all
theorem AA.frame{rt:Nat->Option sK}{a:AV}(h:AA m g rt Sh a v)(C:∀c j,Sh c->m' c j=m c j)(A:∀c,Sh c->Sh' c)(z:∀n p r t s,(a=.ptr n p\/a=.sref n p\/∃o l,a=.swin n p o l)->rt n=kd r->loc m r.t (g n) p=kd (t,s)->∃k,rt' n=kd k/\loc m' k.t (g' n) p=kd (t,s)/\(∀u,a≠.ptr n p->s.rd m 0=kd u->s.rd m' 0=kd u)):AA m' g' rt' Sh' a v:=by cases a with|dead=>trivial|val t x=>exact CK.frame h C A|skp=>exact h|nils=>exact h|empt=>exact h|nilp=>exact h|tX g=>exact h|ptr n p=>(have⟨r,t,b,o,d,i,f⟩:=h;obtain⟨k,q,w,-⟩:=z n p r t _ (.inl rfl) d i;exact⟨k,t,b,o,q,w,f⟩)|vptr t x=>(have⟨b,o,R,d,i,f,q⟩:=h;refine⟨b,o,R,d,AI t i (λj _=>C b _ f) (λc j B=>?_),A b f,λc B=>A c (q c B)⟩;simp_all)|sref n p=>(have⟨r,e,s,d,i,f⟩:=h;have⟨k,q,w,y⟩:=z n p r _ _ (.inr (.inl rfl)) d i;exact⟨k,e,s,q,w,y v (by simp) f⟩)|swin n p o l=>have⟨r,e,s,a,F,c,d,i,f,q,w⟩:=h;have⟨k,y,D,E⟩:=z n p r _ _ (.inr (.inr ⟨_,_,rfl⟩)) d i;exact⟨k,e,s,a,F,c,y,D,E _ (by simp) f,q,w⟩
theorem Yj.frame{rt:Nat->Option sK}{a:SV}(h:Yj m g rt Sh a v)(b:∀a v,AA m g rt Sh a v->AA m' g' rt' Sh' a v):Yj m' g' rt' Sh' a v:=by cases a with|one a=>exact b a v h|cmp c as=>have⟨d,f,e⟩:=h;refine⟨d,f,λk a i=>?_⟩;grind
theorem Yj.sG{m m':Es}{g e:Nat->Src}{rt d:Nat->Option sK}{Sh b:Nat->Prop}{f:AV->AV}{a:SV}{v:Value}(h:Yj m g rt Sh a v) (i:∀a v,AA m g rt Sh a v->AA m' e d b (f a) v):Yj m' e d b (a.sG f) v:=by cases a with|one a=>exact i a v h|cmp c as=>have⟨j,l,o⟩:=h;refine⟨j,by simp_all,λk a p=>?_⟩;grind
theorem tT.sep{B:Base}{M:Gh}{r s O}(h:tT m (Bh B w M) r s O)(a:(O.map (·.1)).Nodup)(d:∀c∈O.map (·.1),BP M c):∃g R,AM m r.t (s.rd m)=kd (r.x,g,R)/\(∀c∈R,Bh B w M c)/\xJ s g R/\(∀c∈g.map (·.1),c∈O.map (·.1))/\(∀b o,s=.at b o->b∈O.map (·.1))/\((r.bx=ka/\∃b,s=.at b 0/\O=(b,r.t.cells)::g)\/(r.bx=kc/\(∃v,s=.one v)/\(∃e,r.t=.list ka e)/\O=g)):=by have⟨g,R,j,k,i⟩:=h.rd;refine⟨g,R,j,k,?_,?_,?_,i⟩;rcases i with⟨-,b,rfl,rfl⟩|⟨-,⟨v,rfl⟩,-,rfl⟩;simp only[B9,C3]at a;refine⟨a.2,λc f e=>a.1 (e▸f),λc f=>⟨λh=>(k c f).2.2 (d c (by simp_all)),λe=>(k c f).2.2 (d c (by grind))⟩⟩;exact⟨a,λc _=>trivial,λc f=>⟨λh=>(k c f).2.2 (d c h),trivial⟩⟩;all_goals grind
theorem sH.sep{B U N tm w M}(h:sH B U N tm w M){n r}(a:U.rt n=kd r):∃f R,AM (Ag w M.ov) r.t ((M.g n).rd (Ag w M.ov))=kd (r.x,f,R)/\(∀c∈R,Bh B w M c)/\xJ (M.g n) f R/\(∀c∈f.map (·.1),c∈(M.ow n).map (·.1))/\(∀b o,M.g n=.at b o->b∈(M.ow n).map (·.1))/\((r.bx=ka/\∃b,M.g n=.at b 0/\M.ow n=(b,r.t.cells)::f)\/(r.bx=kc/\(∃v,M.g n=.one v)/\(∃e,r.t=.list ka e)/\M.ow n=f)):=(h.roots n r a).sep (h.nodup n) (λ_ k=>⟨n,k⟩)
theorem sH.place{B U N tm w M}(h:sH B U N tm w M){n r p t b o}(f:U.rt n=kd r)(j:loc (Ag w M.ov) r.t (M.g n) p=kd (t,.at b o)):b∈(M.ow n).map (·.1):=by obtain⟨k,R,a,c,d,e,i,-⟩:=h.sep f;grind[It]
theorem sH.mem{B U N tm w M}(h:sH B U N tm w M)(m:∀c j,BP M c\/Bh B w M c->Ag w' M.ov c j=Ag w M.ov c j)(P:∀n p,p∈M.ow n->Cv w' p.1 p.2)(y:w.heap.size<=w'.heap.size)(K:∀b,b<B.size->¬ B.F b->w'.heap[b]?=B.hp b)(hio:EK w'=EK w:=by first|rfl|assumption):sH B U N tm w' M:=by
 have x:∀c,Bh B w M c->Bh B w' M c:=λc ⟨q,z,A⟩=>⟨B3 q y,z,A⟩;have k:∀n p r t s,U.rt n=kd r->loc (Ag w M.ov) r.t (M.g n) p=kd (t,s)->loc (Ag w' M.ov) r.t (M.g n) p=kd (t,s)/\∀u,s.rd (Ag w M.ov) 0=kd u->s.rd (Ag w' M.ov) 0=kd u:=by intro n p r t s l hp;obtain⟨E,R,q,z,A,C,D,-⟩:=h.sep l;refine⟨DG p r.t _ q hp (λj O=>?_) (λc j f=>m c j (.inl ⟨n,C c f⟩)),λu G=>?_⟩;(cases e:M.g n with|one v=>rfl|_=>rename_i b o;exact m b _ (.inl ⟨n,D b o e⟩));cases s with|one v=>exact G|_=>rename_i b o;have:=h.place l hp;rw[<-G];exact m b _ (.inl ⟨n,this⟩)
 refine⟨λn r l=>?_,h.norm,h.nodup,h.sQ,P,λi L=>?_,?_,B4 h.size y,K,h.mine,h.pins,hio.trans h.still⟩;have⟨E,R,q,z,A,C,D,H⟩:=h.sep l;refine⟨E,R,AI r.t q (λj O=>?_) (λc j f=>?_),λc f=>x c (z c f),H⟩;cases e:M.g n with|one v=>rfl|_=>rename_i b o;exact m b _ (.inl ⟨n,D b o e⟩)
 rcases f with f|f;exact m c j (.inl ⟨n,C c f⟩);simp_all;refine(h.slots i L).frame λa v I=>I.frame (λc j f=>m c j (.inr f)) x λn p r t s _ l hp=>?_
 grind;exact h.pend.mono λn p d r e b o _ l hp=>⟨r,l,(k n p r _ _ l hp).1⟩
theorem sH.put{B U N tm w M}(h:sH B U N tm w M){d:Nat}{a:SV}{v:Value}{f:Nat->Value}(b:d<N->Yj (Ag w M.ov) M.g U.rt (Bh B w M) a v) (c:∀i,i<N->f i=if i=d then v else tm i):sH B (U.put d a) N f w M:=by refine⟨h.roots,h.norm,h.nodup,h.sQ,h.live,λi k=>?_,h.pend,h.size,h.frame,h.mine,h.pins,h.still⟩;rw[c i k];show Yj _ _ _ _ (bif i==d then a else U.sl i) _;by_cases e:i=d;subst e;rw[if_pos rfl,show(i==i)=ka from by simp];exact b k;rw[if_neg e,show(i==d)=kc from by simp_all];exact h.slots i k
theorem sH.tmps{B U N tm w M}(h:sH B U N tm w M){g:Nat->Value}(k:∀i,i<N->g i=tm i):sH B U N g w M:=⟨h.roots,h.norm,h.nodup,h.sQ,h.live,λi f=>by rw[k i f];exact h.slots i f,h.pend,h.size,h.frame,h.mine,h.pins,h.still⟩
theorem sH.weak{B U N tm w M}(h:sH B U N tm w M){sl:Nat->SV}(k:∀i,i<N->∀v,Yj (Ag w M.ov) M.g U.rt (Bh B w M) (U.sl i) v->Yj (Ag w M.ov) M.g U.rt (Bh B w M) (sl i) v):sH B { U with sl:=sl } N tm w M:=⟨h.roots,h.norm,h.nodup,h.sQ,h.live,λi f=>k i f _ (h.slots i f),h.pend,h.size,h.frame,h.mine,h.pins,h.still⟩
theorem BV{w w':World}{c:Nat}(g:Option (Nat×Nat×Value))(h:w'.heap[c]?=w.heap[c]?)(j:Nat):Ag w' g c j=Ag w g c j:=by simp_all[Ag,World.cell?]
theorem Fp{m:Es}:∀(p q:BB)(t:Ty)(s:Src){g s'},loc m t s p=kd (g,s')->loc m t s (p++q)=loc m g s' q|[],q,t,s,g,s',h=>by simp[CR]at h;simp_all|.fst::p,q,t,s,g,s',h=>(by obtain⟨a,b,k,o,rfl,rfl,h⟩:=Mc h;exact Fp p q a _ h)|.snd::p,q,t,s,g,s',h=>(by obtain⟨a,b,k,o,rfl,rfl,h⟩:=Me h;exact Fp p q b _ h)|.idx i::p,q,t,s,g,s',h=>by rcases Lb h with⟨n,f,k,o,rfl,rfl,d,h⟩|⟨f,a,n,c,rfl,e,d,h⟩;have:=Fp p q f _ h;(show(if i<n then loc m f (.at k (o+i*f.cells)) (p++q)else ke)=_);simp_all;have:=Fp p q f _ h;simp_all[CR]
theorem Mh{m:Es}:∀(q:BB)(t:Ty)(s:Src){f s'},t.tK=t->loc m t s q=kd (f,s')->f.tK=f|[],t,s,f,s',h,g=>(by simp[CR]at g;obtain⟨rfl,rfl⟩:=g;exact h)|.fst::p,t,s,f,s',h,g=>(by obtain⟨a,b,d,o,rfl,rfl,g⟩:=Mc g;simp only[Ty.tK,Ty.pair.injEq]at h;exact Mh p a _ h.1 g)|.snd::p,t,s,f,s',h,g=>(by obtain⟨a,b,d,o,rfl,rfl,g⟩:=Me g;simp only[Ty.tK,Ty.pair.injEq]at h;exact Mh p b _ h.2 g)|.idx i::p,t,s,f,s',h,g=>by rcases Lb g with⟨n,k,d,o,rfl,rfl,e,g⟩|⟨k,a,n,c,rfl,j,e,g⟩;simp only[Ty.tK,Ty.arr.injEq]at h;exact Mh p k _ (Ty.uW k h.2) g;simp[Ty.tK]at h
def b0g(n:Nat)(p:BB)(t:Ty):AV->Prop|.ptr m q=>m=n->∀rest,q=p++rest->rest=[]\/t.tK=t|.sref m q|.swin m q _ _=>m=n->∀rest,q=p++rest->t.tK=t|_=>True
theorem Tk(p q:BB):IF p (p++q)=ka:=by induction p with|nil=>rfl|cons s p h=>cases s<;>simpa[IF]using h
theorem Yk(n:Nat)(p:BB)(t:Ty)(a:AV):a.kill n p=.dead\/(a.kill n p=a/\b0g n p t a):=by(cases a<;>try exact .inr ⟨rfl,trivial⟩);rename_i m q;by_cases h:(m==n&&IF p q&&A3 (p.length<q.length))=ka;simp_all[AV.kill];refine .inr ⟨by simp_all[AV.kill],λe g f=>?_⟩;simp_all[Tk];rename_i m q;by_cases h:(m==n&&IF p q)=ka;simp_all[AV.kill];refine .inr ⟨by simp_all[AV.kill],λe g f=>?_⟩;simp_all[Tk];rename_i m q o l;by_cases h:(m==n&&IF p q)=ka;simp_all[AV.kill];refine .inr ⟨by simp_all[AV.kill],λe g f=>?_⟩;simp_all[Tk]
theorem a8f(n:Nat)(p:BB){t:Ty}(h:t.tK=t)(a:AV):b0g n p t a:=by cases a<;>first|trivial|exact λ_ _ _=>h|exact λ_ _ _=>.inr h
inductive yG (U:AE) (M:Gh) (n:Nat) (p:BB) (t:Ty) (b o:Nat):Option (Nat×BB×Nat)->Option (Nat×Nat×Value)->Prop
 |same (h:∀p d,U.pd≠kd (n,p,d)):yG U M n p t b o U.pd M.ov
 |new (d:Nat) (v:Value) (e:Ty) (h:U.pd=ke) (ht:t=.list ka e):yG U M n p t b o (kd (n,p,d)) (kd (b,o,v))
theorem sH.zI{B U N tm w M}(h:sH B U N tm w M){n r p t b o y O1 R1}(hr:U.rt n=kd r)(hl:loc (Ag w M.ov) r.t (M.g n) p=kd (t,.at b o))(hy:AM (Ag w M.ov) t ((Src.at b o).rd (Ag w M.ov))=kd (y,O1,R1)){ov':Option (Nat×Nat×Value)}{pd':Option (Nat×BB×Nat)}{y' O2 R2}(hpd:yG U M n p t b o pd' ov')(hy':AM (Ag w' ov') t ((Src.at b o).rd (Ag w' ov'))=kd (y',O2,R2))(hchg:∀c j,Ag w' ov' c j=Ag w M.ov c j\/(c=b/\o<=j/\j<o+t.cells)\/c∈O1.map (·.1)\/w.heap.size<=c)(hO2:∀c∈O2.map (·.1),c∈O1.map (·.1)\/w.heap.size<=c)(hn2:(O2.map (·.1)).Nodup)(hlive:∀p∈O2,Cv w' p.1 p.2)(hfree:∀c k,Cv w c k->BP M c->Cv w' c k)(hsz:w.heap.size<=w'.heap.size)(hfr:∀b,b<B.size->¬ B.F b->w'.heap[b]?=B.hp b)(hR2:∀c∈R2,c<w'.heap.size/\(B.S c\/B.F c\/B.size<=c)/\¬ BP M c/\c∉O2.map (·.1)){f:AV->AV}(hf:∀a,f a=.dead\/(f a=a/\b0g n p t a))(hio:EK w'=EK w:=by first|rfl|assumption):
  ∃ow',(∀m,m≠n->ow' m=M.ow m)/\sH B { (U.sG f).sD n (kd ⟨r.bx,r.t,FK r.t r.x p t y'⟩)with pd:=pd' } N tm w' ⟨M.g,ow',ov'⟩:=by
 have⟨O',R,h1,h2,h3,h4,h5,h6⟩:=h.sep hr;have⟨y1,O1',R1',A1,B1,A1',B1',hd,hg,e1,e2⟩:=Cd p r.t _ h1 hl;rw[hy]at hd;simp at hd;obtain⟨rfl,rfl,rfl⟩:=hd;have hO1:∀c,c∈O1.map (·.1)->c∈(M.ow n).map (·.1):=λc hc=>h4 c (by simp_all);have hb:b∈(M.ow n).map (·.1):=h.place hr hl;have hc1:c1P (Ag w M.ov) (Ag w' ov') (M.g n) O' R b o t.cells O1:=λc j=>by
  rcases hchg c j with g|g|g|g;grind;omega;grind
  ·refine .inr (.inr (.inr ⟨λg'=>?_,λg'=>?_,?_⟩));exact absurd (h.lt ⟨n,h4 c g'⟩) (by omega);exact absurd (h2 c g').1 (by omega)
   ·cases e:M.g n with
    |one v=>trivial
    |_=>
     rename_i b' o';rintro rfl;exact absurd (h.lt ⟨n,h5 _ _ e⟩) (by omega)
 have⟨A,B',R',e3,h7,h8⟩:=a8e p r.t (M.g n) h1 hl hy hy' h3 hc1

 have hother:∀c j,c∉(M.ow n).map (·.1)->c<w.heap.size->Ag w' ov' c j=Ag w M.ov c j:=λc j hc hlt=>by
  grind
 have hoth:∀m,m≠n->∀c j,c∈(M.ow m).map (·.1)->Ag w' ov' c j=Ag w M.ov c j:=λm hm c j hc=>
  hother c j (h.sQ m n hm c hc) (h.lt ⟨m,hc⟩)
 have hshm:∀c j,Bh B w M c->Ag w' ov' c j=Ag w M.ov c j:=λc j hc=>hother c j (λg=>hc.2.2 ⟨n,g⟩) hc.1

 let on:Dw:=match r.bx with|true=>(match M.g n with|.at b0 _=>[(b0,r.t.cells)]|_=>[])++(A++(O2++B'))|false=>A++(O2++B')
 let ow':Nat->Dw:=λm=>if m=n then on else M.ow m
 have hon:ow' n=on:=by grind
 have hom:∀m,m≠n->ow' m=M.ow m:=λm hm=>by grind
 have hon1:∀c,c∈on.map (·.1)->c∈(M.ow n).map (·.1)\/c∈O2.map (·.1):=by
  intro c hc;have key:c∈(A++(O2++B')).map (·.1)->c∈(M.ow n).map (·.1)\/c∈O2.map (·.1):=by
   grind
  rcases h6 with⟨hbx,b0,hs,ho⟩|⟨hbx,-,-,ho⟩;grind;grind
 have hOwned:∀c,(∃m,c∈(ow' m).map (·.1))->BP M c\/c∈O2.map (·.1):=by
  rintro c ⟨m,hm⟩;by_cases e:m=n;subst e;rw[hon]at hm;rcases hon1 c hm with g|g;exact .inl ⟨m,g⟩;grind;rw[hom m e]at hm;exact .inl ⟨m,hm⟩
 have hO2σ:∀c,c∈O2.map (·.1)->BP M c\/w.heap.size<=c:=λc hc=>by
  rcases hO2 c hc with g|g;exact .inl ⟨n,hO1 c g⟩;omega
 have hsh:∀c,Bh B w M c->Bh B w' ⟨M.g,ow',ov'⟩ c:=λc ⟨g1,g2,g3⟩=>⟨B3 g1 hsz,g2,λg4=>by
  rcases hOwned c g4 with g|g;all_goals grind⟩
 have hshR2:∀c∈R2,Bh B w' ⟨M.g,ow',ov'⟩ c:=λc hc=>by
  have⟨g1,g2,g3,g4⟩:=hR2 c hc;refine⟨g1,g2,λg5=>?_⟩;rcases hOwned c g5 with g|g;all_goals grind

 have hplace:∀m q rm tq s,U.rt m=kd rm->loc (Ag w M.ov) rm.t (M.g m) q=kd (tq,s)->(m=n->∀rest,q=p++rest->rest=[]\/t.tK=t)->
   loc (Ag w' ov') rm.t (M.g m) q=kd (tq,s)/\∀e,tq=.list ka e->(m=n->∀rest,q=p++rest->t.tK=t)->s.rd (Ag w' ov') 0=s.rd (Ag w M.ov) 0:=by
  intro m q rm tq s hrm hlq hq;by_cases e:m=n;subst e;rw[hr]at hrm;simp at hrm;subst hrm
  have:=Tj p q r.t (M.g m) h1 hl hy h3 hc1 (hq rfl) hlq
  refine⟨this.1,λe ht hne=>this.2 e s (by grind) (λrest he=>?_)⟩;have hp:=hne rfl rest he;subst he;rw[Fp p rest r.t _ hl]at hlq
  have:=Mh rest t _ hp hlq
  grind[Ty.tK]
  ·obtain⟨Om,Rm,g1,g2,g3,g4,g5,-⟩:=h.sep hrm;have hcell:∀j,j<rm.t.cells->(M.g m).rd (Ag w' ov') j=(M.g m).rd (Ag w M.ov) j:=λj _=>by
    cases es:M.g m with
    |one v=>rfl
    |_=>rename_i b' o';exact hoth m e b' _ (g5 _ _ es)
   refine⟨DG q rm.t _ g1 hlq hcell (λc j hc=>hoth m e c j (g4 c hc)),λe' ht _=>?_⟩;rw[ht]at hlq;exact PB g1 hlq hcell (λc j hc=>hoth m e c j (g4 c hc))
 have hkeep:∀a v,AA (Ag w M.ov) M.g U.rt (Bh B w M) a v->AA (Ag w' ov') M.g (λj=>bif j==n then kd ⟨r.bx,r.t,FK r.t r.x p t y'⟩else U.rt j) (Bh B w' ⟨M.g,ow',ov'⟩) (f a) v:=by
  intro a v ha;rcases hf a with g|⟨g,hk⟩;rw[g];trivial;rw[g];refine ha.frame hshm hsh λm q rm tq s hcase hrm hlq=>?_
  have hq:m=n->∀rest,q=p++rest->rest=[]\/t.tK=t:=by
   intro e rest he;rcases hcase with rfl|rfl|⟨o',l',rfl⟩;exact hk e rest he;exact .inr (hk e rest he);exact .inr (hk e rest he)
  have hp:=hplace m q rm tq s hrm hlq hq;refine⟨if m=n then⟨r.bx,r.t,FK r.t r.x p t y'⟩else rm,?_,?_,?_⟩
  grind;grind;intro u hne hu;rcases hcase with rfl|rfl|⟨o',l',rfl⟩;grind;have⟨r0,e0,s0,k1,k2,k3⟩:=ha;rw[hrm]at k1;simp at k1;subst k1;rw[hlq]at k2;simp at k2;rw[hp.2 e0 k2.1 (λe rest he=>hk e rest he)];omega;have⟨r0,e0,s0,a0,l0,c0,k1,k2,k3⟩:=ha;rw[hrm]at k1;simp at k1;subst k1;rw[hlq]at k2;simp at k2;rw[hp.2 e0 k2.1 (λe rest he=>hk e rest he)];omega
 have hpins:∀i b,B.pin i=kd b->(((U.sG f).sD n (kd ⟨r.bx,r.t,FK r.t r.x p t y'⟩)).rt (pinned+i))≠ke->M.g (pinned+i)=b:=λi b hb hne=>by
  refine h.pins i b hb λe=>hne ?_
  by_cases e':pinned+i=n;grind;have e'':(pinned+i==n)=kc:=by grind
  simpa[AE.sD,e'',AE.sG]using e
 refine⟨ow',hom,?_,?_,?_,?_,?_,?_,?_,B4 h.size hsz,hfr,?_,hpins,hio.trans h.still⟩
 ·intro m rm hrm;by_cases e:m=n;subst e;simp[AE.sD]at hrm;subst hrm;refine⟨_,R',h7,λc hc=>?_,?_⟩;grind;rcases h6 with⟨hbx,b0,hs,ho⟩|⟨hbx,hs,ht,ho⟩;grind;grind
  ·have hrm':U.rt m=kd rm:=by
    have e':(m==n)=kc:=by grind
    simpa[AE.sD,e',AE.sG]using hrm
   have⟨Om,Rm,g1,g2,g3,g4,g5,g6⟩:=h.sep hrm';refine⟨Om,Rm,AI rm.t g1 (λj _=>?_) (λc j hc=>?_),λc hc=>hsh c (g2 c hc),?_⟩
   ·cases es:M.g m with
    |one v=>rfl
    |_=>rename_i b' o';exact hoth m e b' _ (g5 _ _ es)
   grind;grind
 intro m hm;by_cases e:m=n;grind[AE.sD];have e':(m==n)=kc:=by grind
 show ow' m=[];rw[hom m e];exact h.norm m (by simpa[AE.sD,e',AE.sG]using hm);intro m;show((ow' m).map (·.1)).Nodup;by_cases e:m=n;subst e;rw[hon];have hnd:=h.nodup m;have key:((A++(O2++B')).map (·.1)).Nodup:=by
  have hO'n:=h3.nodup;rw[e3]at hO'n;simp only[WK,B6,mA]at hO'n|-;have⟨k1,⟨k2,k3,k4⟩,k5⟩:=hO'n;refine⟨k1,⟨hn2,k3,λa ha c hc e=>?_⟩,λa ha c hc e=>?_⟩;subst e;rcases hO2 a ha with g|g;grind;exact absurd (h.lt ⟨m,h4 a (by grind)⟩) (by omega);subst e;rcases hc with hc|hc;rcases hO2 a hc with g|g;grind;exact absurd (h.lt ⟨m,h4 a (by grind)⟩) (by omega);grind
 rcases h6 with⟨hbx,b0,hs,ho⟩|⟨hbx,-,-,ho⟩;simp only[on,hbx,hs,List.singleton_append,B9,C3];refine⟨λg=>?_,key⟩;rw[ho]at hnd;simp only[B9,C3]at hnd;simp only[WK,mA]at g;rcases g with g|g|g;grind;rcases hO2 b0 g with g'|g';exact hnd.1 (by rw[e3];simp only[WK,mA];grind);have hb0:BP M b0:=⟨m,by grind⟩;exact absurd (h.lt hb0) (by omega);exact hnd.1 (by rw[e3];simp only[WK,mA];grind);grind;rw[hom m e];exact h.nodup m;intro m m' hmm c hc hc';by_cases e:m=n;subst e;rw[show(Gh.mk M.g ow' ov').ow m=ow' m from rfl,hon]at hc;rw[show(Gh.mk M.g ow' ov').ow m'=ow' m' from rfl,hom m' (Ne.symm hmm)]at hc';rcases hon1 c hc with g|g;exact h.sQ m m' hmm c g hc';rcases hO2σ c g with g|g;rcases hO2 c ‹_› with g'|g';exact h.sQ m m' hmm c (hO1 c g') hc';exact absurd (h.lt ⟨m',hc'⟩) (by omega);exact absurd (h.lt ⟨m',hc'⟩) (by omega);by_cases e':m'=n;subst e';rw[show(Gh.mk M.g ow' ov').ow m'=ow' m' from rfl,hon]at hc';rw[show(Gh.mk M.g ow' ov').ow m=ow' m from rfl,hom m e]at hc;rcases hon1 c hc' with g|g;exact h.sQ m m' hmm c hc g;rcases hO2 c g with g'|g';exact h.sQ m m' hmm c hc (hO1 c g');exact absurd (h.lt ⟨m,hc⟩) (by omega);rw[show(Gh.mk M.g ow' ov').ow m=ow' m from rfl,hom m e]at hc;rw[show(Gh.mk M.g ow' ov').ow m'=ow' m' from rfl,hom m' e']at hc';exact h.sQ m m' hmm c hc hc'
 ·intro m q hq;rw[show(Gh.mk M.g ow' ov').ow m=ow' m from rfl]at hq;by_cases e:m=n
  ·subst e;rw[hon]at hq;have hold:q∈M.ow m->Cv w' q.1 q.2:=λg=>hfree _ _ (h.live m q g) ⟨m,C2 g⟩;have key:q∈A++(O2++B')->Cv w' q.1 q.2:=by
    intro g;simp at g;have hmem:q∈O'->q∈M.ow m:=λg=>by
     rcases h6 with⟨-,b0,-,ho⟩|⟨-,-,-,ho⟩;all_goals grind
    grind
   rcases h6 with⟨hbx,b0,hs,ho⟩|⟨hbx,-,-,ho⟩;grind;grind
  rw[hom m e]at hq;exact hfree _ _ (h.live m q hq) ⟨m,C2 hq⟩
 intro i hi;exact(h.slots i hi).sG hkeep
 ·cases hpd with
  |same hne=>
   refine h.pend.mono λn' p' d' r' e' b' o' hpd hr' hp'=>?_
   have hnn:n'≠n:=λe=>hne p' d' (by grind);have e'':(n'==n)=kc:=by grind
   exact⟨r',by simpa[AE.sD,e'',AE.sG]using hr',(hplace n' p' r' _ _ hr' hp' (λg=>absurd g hnn)).1⟩
  |new d v e hpn ht=>
   refine⟨⟨r.bx,r.t,FK r.t r.x p t y'⟩,e,by simp[AE.sD],?_⟩;rw[<-ht];exact(hplace n p r t _ hr hl (λ_ rest he=>.inl (by simpa using he))).1
 rintro c ⟨m,hm⟩;rcases hOwned c ⟨m,hm⟩with g|g;exact h.mine c g;rcases hO2σ c g with g|g;exact h.mine c g;exact .inr (B4 h.size g)
theorem Ty.sU:(t:Ty)->t.sh.cells=t.cells|.int _|.bool|.str|.unit|.list _ _|.nl _=>rfl|.pair a b=>by simp only[Ty.sh,Ty.cells,Ty.sU a,Ty.sU b]|.arr n t=>by simp only[Ty.sh,Ty.cells,Ty.sU t]
theorem a1F(h:A=A')(g:List A=List A')(l:List A):cast g l=l.map (cast h):=by(subst h;show l=l.map (λx=>x));simp
theorem dI{B B':Type}(g:A=A')(f:B=B')(h:(A×B)=(A'×B'))(x:A×B):cast h x=(cast g x.1,cast f x.2):=by grind
theorem mN(h:A=A')(g:List A=List A'):cast g ([]:List A)=([]:List A'):=by grind
theorem Ty.xB(o:Bool)(t:Ty)(l:List t.sI):Ty.wE (.list o t) l=l.map t.wE:=a1F _ _ l
theorem Ty.yA(n:Nat)(t:Ty)(l:List t.sI):Ty.wE (.arr n t) l=l.map t.wE:=a1F _ _ l
theorem Ty.xX(a b:Ty)(x:a.sI×b.sI):Ty.wE (.pair a b) x=(a.wE x.1,b.wE x.2):=dI _ _ _ x
theorem Tl{α β:Type}{f:Nat->Option (α×Dw×List Nat)}{f':Nat->Option (β×Dw×List Nat)}{c:α->β}:∀(n i:Nat){a os k},Ao f n i=kd (a,os,k)->(∀j x o r,i<=j->j<i+n->f j=kd (x,o,r)->∃m,f' j=kd (c x,[],m)/\∀b∈m,b∈o.map (·.1)\/b∈r)->∃g,Ao f' n i=kd (a.map c,[],g)/\∀b∈g,b∈os.map (·.1)\/b∈k|0,i,a,os,k,h,_=>(by simp[Ao]at h;obtain⟨rfl,rfl,rfl⟩:=h;exact⟨[],rfl,by simp⟩)|n+1,i,a,os,k,h,l=>by simp[Ao]at h;split at h;grind;rename_i x o r d;split at h;grind;rename_i u p g e;simp at h;obtain⟨rfl,rfl,rfl⟩:=h;have⟨B,w,y⟩:=l i x o r (C0 _) (by omega) d;have⟨q,z,A⟩:=Tl n (i+1) e (λj x o r v e=>l j x o r (by omega) (by omega));grind[Ao]
theorem b7a{β:Type}{o:Bool}{f':(Nat->Option Value)->Option (β×Dw×List Nat)}{c:α->β}{v x O R}(h:CW m o sz f v=kd (x,O,R))(e:∀rd x o r,f rd=kd (x,o,r)->∃k,f' rd=kd (c x,[],k)/\∀b∈k,b∈o.map (·.1)\/b∈r):∃g,CW m kc sz f' v=kd (x.map c,[],g)/\∀b∈g,b∈O.map (·.1)\/b∈R:=by unfold CW at h|-;split at h;simp_all;rename_i a n p;split at h;rename_i w;split at h;grind;rename_i A y z d;have⟨l,q,u⟩:=Tl (f':=λi=>f' λj=>m a.block (a.off+(i*sz+j))) (c:=c) n 0 d (λj x o r _ _ h=>e _ x o r h);grind;simp_all;simp_all
theorem Nk{m:Es}:∀(t:Ty){rd:Nat->Option Value}{x O R},AM m t rd=kd (x,O,R)->∃f,AM m t.sh rd=kd (t.wE x,[],f)/\∀c∈f,c∈O.map (·.1)\/c∈R|.int k,rd,x,O,R,h=>by refine⟨R,?_,λc g=>.inr g⟩;(have:O=[]:=by grind[AM]);subst this;exact h|.bool,rd,x,O,R,h=>by refine⟨R,?_,λc g=>.inr g⟩;(have:O=[]:=by grind[AM]);subst this;exact h|.str,rd,x,O,R,h=>by refine⟨R,?_,λc g=>.inr g⟩;(have:O=[]:=by grind[AM]);subst this;exact h|.unit,rd,x,O,R,h=>(by simp[AM]at h;cases h;exact⟨[],rfl,by simp⟩)|.pair a b,rd,x,O,R,h=>(by obtain⟨E,A,C,F,B,D,e,d,rfl,rfl,rfl⟩:=Dz h;have⟨p,u,v⟩:=Nk a e;have⟨q,l,w⟩:=Nk b d;refine⟨p++q,?_,λc g=>?_⟩;rw[Ty.xX];rw[<-Ty.sU a]at l;exact LK u l;simp only[WK,mA]at g|-;rcases g with g|g;exact(v c g).imp .inl .inl;exact(w c g).imp .inr .inr)|.arr n t,rd,x,O,R,h=>(by have h:Ao (λi=>AM m t λj=>rd (i*t.cells+j)) n 0=kd (x,O,R):=h;have⟨f,e,d⟩:=Tl (f':=λi=>AM m t.sh λj=>rd (i*t.cells+j)) (c:=t.wE) n 0 h (λj x o r _ _ h=>Nk t h);refine⟨f,?_,d⟩;refine Eq.trans ?_ (cG (λz:List t.sh.sI=>kd (z,([]:Dw),f)) (Ty.yA n t x).symm);show Ao (λi=>AM m t.sh λj=>rd (i*t.sh.cells+j)) n 0=_;simp_all[Ty.sU])|.list o t,rd,x,O,R,h=>(by have h:CW m o t.cells (AM m t) (rd 0)=kd (x,O,R):=h;have⟨f,e,d⟩:=b7a (f':=AM m t.sh) (c:=t.wE) h (λrd x o r h=>Nk t h);refine⟨f,?_,d⟩;refine Eq.trans ?_ (cG (λz:List t.sh.sI=>kd (z,([]:Dw),f)) (Ty.xB o t x).symm);show CW m kc t.sh.cells (AM m t.sh) (rd 0)=_;simp_all[Ty.sU])|.nl t,rd,x,O,R,h=>by obtain⟨y,rfl,rfl,rfl⟩:=mK h;refine⟨[],?_,by simp⟩;refine Eq.trans ?_ (cG (λz:List t.sh.sI=>kd (z,([]:Dw),([]:List Nat))) (mN (Ty.uA t).symm _).symm);show CW m kc t.sh.cells (AM m t.sh) (rd 0)=_;rw[y];rfl
theorem Ty.uC:(t:Ty)->t.tK.cells=t.cells|.int _|.bool|.str|.unit|.list _ _|.nl _=>rfl|.pair a b=>by simp only[Ty.tK,Ty.cells,Ty.uC a,Ty.uC b]|.arr n t=>by simp only[Ty.tK,Ty.cells,Ty.sU t]
theorem Zn{m:Es}:∀(t:Ty){rd:Nat->Option Value}{x O R},AM m t rd=kd (x,O,R)->∃e,AM m t.tK rd=kd (t.vH x,[],e)/\∀c∈e,c∈O.map (·.1)\/c∈R|.int k,rd,x,O,R,h=>Nk (.int k) h|.bool,rd,x,O,R,h=>Nk .bool h|.str,rd,x,O,R,h=>Nk .str h|.unit,rd,x,O,R,h=>Nk .unit h|.arr n t,rd,x,O,R,h=>Nk (.arr n t) h|.list o t,rd,x,O,R,h=>Nk (.list o t) h|.nl t,rd,x,O,R,h=>(by obtain⟨w,rfl,rfl,rfl⟩:=mK h;refine⟨[],?_,by simp⟩;refine Eq.trans ?_ (cG (λz:List t.sh.sI=>kd (z,([]:Dw),([]:List Nat))) (mN (Ty.uA t).symm _).symm);show(match rd 0 with|some (.slice ke 0 0)=>kd (([]:List t.sh.sI),([]:Dw),([]:List Nat))|_=>ke)=_;simp_all)|.pair a b,rd,x,O,R,h=>by obtain⟨f,y,B,d,A,C,p,q,rfl,rfl,rfl⟩:=Dz h;have⟨j,r,u⟩:=Zn a p;have⟨l,i,v⟩:=Zn b q;refine⟨j++l,?_,λc g=>?_⟩;rw[show(Ty.pair a b).vH (f,d)=(a.vH f,b.vH d)from dI _ _ _ (f,d)];rw[<-Ty.uC a]at i;exact LK r i;simp only[WK,mA]at g|-;rcases g with g|g;exact(u c g).imp .inl .inl;exact(v c g).imp .inr .inr
theorem Ty.vG:∀(a b:Ty),a.le b=ka->a.cells=b.cells|.nl a,.list o b,_=>rfl|.pair a b,.pair g f,h=>by simp[Ty.le]at h;simp only[Ty.cells,Ty.vG a g h.1,Ty.vG b f h.2]|.nl a,.nl b,_=>rfl|.nl a,.int _,h|.nl a,.bool,h|.nl a,.str,h|.nl a,.unit,h|.nl a,.pair _ _,h|.nl a,.arr _ _,h=>by simp[Ty.le]at h|.pair a b,.int _,h|.pair a b,.bool,h|.pair a b,.str,h|.pair a b,.unit,h|.pair a b,.arr _ _,h|.pair a b,.list _ _,h|.pair a b,.nl _,h=>by simp[Ty.le]at h|.int _,b,h|.bool,b,h|.str,b,h|.unit,b,h|.list _ _,b,h|.arr _ _,b,h=>by simp only[Ty.le,dT]at h;rw[h]
theorem a8g{m:Es}:∀(a b:Ty)(h:a.le b=ka){rd:Nat->Option Value}{x R},AM m a rd=kd (x,[],R)->AM m b rd=kd (cast (Ty.vU a b h) x,[],R)|.nl a,.list o b,h,rd,x,R,g=>by(obtain⟨v,rfl,-,rfl⟩:=mK g;have e:a.sI=b.sI:=by simp[Ty.le]at h;grind[Ty.uA]);refine Eq.trans ?_ (cG (λz:List b.sI=>kd (z,([]:Dw),([]:List Nat))) (mN e _).symm);grind[CW,AM]|.pair a b,.pair k c,h,rd,x,R,g=>(by have f:=h;simp[Ty.le]at f;obtain⟨r,w,p,u,y,q,j,l,rfl,e,rfl⟩:=Dz g;obtain⟨rfl,rfl⟩:=C7.1 e.symm;have i:=a8g a k f.1 j;have d:=a8g b c f.2 l;rw[Ty.vG a k f.1]at d;exact(LK i d).trans (cG (λz:k.sI×c.sI=>kd (z,([]:Dw),p++q)) (dI (Ty.vU a k f.1) (Ty.vU b c f.2) _ (r,u)).symm))|.nl a,.nl b,h,rd,x,R,g=>by simp only[Ty.le,dT]at h;grind|.nl a,.int _,h,_,_,_,_|.nl a,.bool,h,_,_,_,_|.nl a,.str,h,_,_,_,_|.nl a,.unit,h,_,_,_,_|.nl a,.pair _ _,h,_,_,_,_|.nl a,.arr _ _,h,_,_,_,_=>by simp[Ty.le]at h|.pair a b,.int _,h,_,_,_,_|.pair a b,.bool,h,_,_,_,_|.pair a b,.str,h,_,_,_,_|.pair a b,.unit,h,_,_,_,_|.pair a b,.arr _ _,h,_,_,_,_|.pair a b,.list _ _,h,_,_,_,_|.pair a b,.nl _,h,_,_,_,_=>by simp[Ty.le]at h|.int _,b,h,rd,x,R,g|.bool,b,h,rd,x,R,g|.str,b,h,rd,x,R,g|.unit,b,h,rd,x,R,g|.list _ _,b,h,rd,x,R,g|.arr _ _,b,h,rd,x,R,g=>by simp only[Ty.le,dT]at h;cases h;exact g
theorem b0h{a:Option Addr}{l off f:Nat}{x:List e.sI}{O R}(h:AM m (.list ka e) ((Src.one (.slice a l c)).rd m)=kd (x,O,R))(G:off+f<=l){d:Option Addr}(z:∀A,d=kd A->c=off\/A.spot=ke)(w:c=off\/d=a.map λA=>A.add (off*e.cells)):∃u,AM m (.list kc e.sh) ((Src.one (.slice d f (c-off))).rd m)=kd (Ty.wE (.list kc e) ((x.drop off).take f),[],u)/\∀b∈u,b∈O.map (·.1)\/b∈R:=by
 rw[Ty.xB];rcases Da h with⟨y,rfl,rfl,rfl⟩|⟨A,n,Y,os,y,F,hn,B,ho⟩;simp[Src.rd]at y;obtain⟨rfl,rfl,rfl⟩:=y;obtain rfl:off=0:=by omega
 obtain rfl:f=0:=by omega
 refine⟨[],?_,by simp⟩;show CW m kc e.sh.cells (AM m e.sh) (kd (.slice d 0 0))=_;cases d with|none=>rfl|some A=>rfl
 simp[Src.rd]at y;obtain⟨rfl,rfl,rfl⟩:=y;have P:=Bb l 0 B;by_cases hl0:f=0;subst hl0;refine⟨[],?_,by simp⟩;show CW m kc e.sh.cells (AM m e.sh) (kd (.slice d 0 (c-off)))=_;cases d with|none=>(rcases w with g|g;simp[CW,g];rfl;simp_all)|some A'=>have N:c-off=0\/A'.spot=ke:=(z A' rfl).imp (λh=>by omega) id;simp[CW,N,Ao];rfl
 have F:A.spot=ke:=F.resolve_left (by omega);have q:d=kd (A.add (off*e.cells)):=by grind
 have v:(A.add (off*e.cells)).block=A.block/\(A.add (off*e.cells)).off=A.off+off*e.cells/\(A.add (off*e.cells)).spot=ke:=by grind[Addr.add]
 have I:l=off+(f+(l-off-f)):=by omega
 rw[I]at B;obtain⟨S,C,T,X,Z,K,rfl,rfl⟩:=Gk off (f+(l-off-f)) 0 B;obtain⟨U,D,V,E,L,h4,rfl,rfl⟩:=Gk f (l-off-f) (0+off) K;have⟨u,M,h6⟩:=Tl (f':=λi=>AM m e.sh ((Src.at A.block (A.off+i*e.cells)).rd m)) (c:=e.wE) f (0+off) L (λj x o r _ _ h=>Nk e h);have p:∀(k i:Nat),Ao (λi=>AM m e.sh λj=>m A.block (A.off+off*e.cells+(i*e.cells+j))) k i=Ao (λi=>AM m e.sh ((Src.at A.block (A.off+i*e.cells)).rd m)) k (off+i):=by intro k;induction k with|zero=>intro i;rfl|succ k Q=>intro i;simp[Ao];rw[Q (i+1)];(have:(λj=>m A.block (A.off+off*e.cells+(i*e.cells+j)))=(Src.at A.block (A.off+(off+i)*e.cells)).rd m:=by grind[Src.rd]);grind
 have H:∀b,b∈u->b∈O.map (·.1)\/b∈C++(D++E):=λb hb=>by grind
 refine⟨A.block::u,?_,λb hb=>?_⟩;show CW m kc e.sh.cells (AM m e.sh) (kd (.slice d f (c-off)))=_;subst q;simp only[CW,v,Ty.sU];rw[if_pos ⟨.inr trivial,by omega⟩,p,show off+0=0+off from by omega,M];simp[hl0];rfl;grind
theorem sH.gone{B U N tm w M}(h:sH B U N tm w M)(G:∀p d,U.pd≠kd (n,p,d)){f:AV->AV}(S:∀a v,AA (Ag w M.ov) M.g U.rt (Bh B w M) a v->AA (Ag w M.ov) M.g (λj=>bif j==n then ke else U.rt j) (Bh B w ⟨M.g,λm=>if m=n then[]else M.ow m,M.ov⟩) (f a) v):sH B ((U.sG f).sD n ke) N tm w ⟨M.g,λm=>if m=n then[]else M.ow m,M.ov⟩:=by
 have k:∀m c,c∈(if m=n then[]else M.ow m).map (·.1)->c∈(M.ow m).map (·.1):=λm c q=>by simp_all
 have H:∀c,Bh B w M c->Bh B w ⟨M.g,λm=>if m=n then[]else M.ow m,M.ov⟩ c:=λc ⟨y,z,I⟩=>⟨y,z,λ⟨m,o⟩=>I ⟨m,k m c o⟩⟩
 refine⟨λm r Y=>?_,λm o=>?_,λm=>?_,λm L D c q=>?_,λm p u=>?_,λi T=>(h.slots i T).sG S,?_,h.size,h.frame,λc ⟨m,o⟩=>h.mine c ⟨m,k m c o⟩,λi b hb E=>h.pins i b hb λe=>E (by simp_all[AE.sD,AE.sG]),h.still⟩;have o:m≠n:=by rintro rfl;simp[AE.sD]at Y
 have C:(m==n)=kc:=by simp_all
 have l:U.rt m=kd r:=by simp_all[AE.sD,AE.sG]
 have⟨P,R,y,z,I⟩:=(h.roots m r l).rd;refine⟨P,R,y,λc q=>H c (z c q),?_⟩;simp_all;show(if m=n then[]else M.ow m)=[]
 split;rfl;rename_i V;have C:(m==n)=kc:=by simp_all
 exact h.norm m (by simp_all[AE.sD,AE.sG]);show((if m=n then[]else M.ow m).map (·.1)).Nodup
 split;simp;exact h.nodup m;exact λA=>h.sQ m L D c (k m c q) (k L c A);have u:p∈(if m=n then[]else M.ow m):=u
 split at u;simp_all;exact h.live m p u;refine h.pend.mono λO Z Q r' e' b' o' K l F=>?_
 have X:O≠n:=λe=>G Z Q (by simp_all);have x:(O==n)=kc:=by simp_all
 exact⟨r',by simpa[AE.sD,x,AE.sG]using l,F⟩
theorem AA.other{rt:Nat->Option sK}{a:AV}(h:AA m g rt Sh a v)(b:∀c,Sh c->Sh' c)(f:∀k,k≠n->rt' k=rt k)(j:∀k,k≠n->g' k=g k)(e:∀k q,(a=.ptr k q\/a=.sref k q\/∃o l,a=.swin k q o l)->k≠n):AA m g' rt' Sh' a v:=h.frame (λ_ _ _=>rfl) b λk q r t s i u p=>⟨r,by grind,by grind,λ_ _ d=>d⟩
theorem sH.tQ{B w}{M:Gh}{n:Nat}(c:Nat)(h:Bh B w M c):Bh B w ⟨M.g,λm=>if m=n then[]else M.ow m,M.ov⟩ c:=⟨h.1,h.2.1,λ⟨m,f⟩=>h.2.2 ⟨m,by simp_all⟩⟩
theorem a1G{U:AE}{n k:Nat}(h:k≠n)(x:Option sK):(bif k==n then x else U.rt k)=U.rt k:=by grind
theorem sH.drop{B U N tm w M}(h:sH B U N tm w M){n:Nat}(b:∀p d,U.pd≠kd (n,p,d)):
  sH B ((U.sG (AV.drop n)).sD n ke) N tm w ⟨M.g,λm=>if m=n then[]else M.ow m,M.ov⟩:=by
 refine h.gone b λa v e=>?_
 by_cases hd:AV.drop n a=.dead;rw[hd];trivial
 ·have f:AV.drop n a=a/\∀k q,(a=.ptr k q\/a=.sref k q\/∃o l,a=.swin k q o l)->k≠n:=by
   cases a<;>simp only[AV.drop]at hd|-<;>try (refine⟨trivial,?_⟩;rintro k q (h|h|⟨o,l,h⟩)<;>cases h)
   all_goals simp_all
  rw[f.1];exact e.other (λc i=>sH.tQ c i) (λk f=>a1G f _) (λ_ _=>rfl) f.2
theorem sH.xS{B U N tm w M}(h:sH B U N tm w M)(hr:U.rt n=kd r)(h0:r.bx=ka)(Y:U.pd=ke):∃b,M.g n=.at b 0/\sH B ((U.sG (AV.sN [n] [])).sD n (kd ⟨ka,r.t.tK,Ty.vH r.t r.x⟩)) N tm w ⟨M.g,λm=>if m=n then[(b,r.t.cells)]else M.ow m,M.ov⟩:=by
 have⟨O',R,h1,h2,h6⟩:=(h.roots n r hr).rd;rcases h6 with⟨-,b,hg,ho⟩|⟨g,-⟩;refine⟨b,hg,?_⟩;have z:∀m c,c∈(if m=n then[(b,r.t.cells)]else M.ow m).map (·.1)->c∈(M.ow m).map (·.1):=λm c G=>by grind
 have Q:∀c,Bh B w M c->Bh B w ⟨M.g,λm=>if m=n then[(b,r.t.cells)]else M.ow m,M.ov⟩ c:=λc ⟨S,T,g3⟩=>⟨S,T,λ⟨m,u⟩=>g3 ⟨m,z m c u⟩⟩
 have P:∀k,k≠n->((U.sG (AV.sN [n] [])).sD n (kd ⟨ka,r.t.tK,Ty.vH r.t r.x⟩)).rt k=U.rt k:=λk I=>a1G I _;have O:((U.sG (AV.sN [n] [])).sD n (kd ⟨ka,r.t.tK,Ty.vH r.t r.x⟩)).rt n=kd ⟨ka,r.t.tK,Ty.vH r.t r.x⟩:=by simp[AE.sD]
 have⟨R2,k1,k2⟩:=Zn _ h1;refine⟨λm r' C=>?_,λm u=>?_,λm=>?_,λm H V c G=>?_,λm p K=>?_,λi hi=>(h.slots i hi).sG λa v A=>?_,?_,h.size,h.frame,λc ⟨m,u⟩=>h.mine c ⟨m,z m c u⟩,λi D hb h4=>h.pins i D hb λe=>?_,h.still⟩;by_cases u:m=n;subst u;rw[O]at C;simp at C;subst C;refine⟨[],R2,k1,λc G=>?_,.inl ⟨rfl,b,hg,by simp[Ty.uC]⟩⟩;rcases k2 c G with g|g;have E:c∈(M.ow m).map (·.1):=by simp_all
 have F:BP M c:=⟨m,E⟩;refine⟨h.lt F,.inr (h.mine c F),λ⟨H,d⟩=>?_⟩;have d:c∈(if H=m then[(b,r.t.cells)]else M.ow H).map (·.1):=d;split at d;simp at d;have h3:=h.nodup m;simp_all;rename_i X;exact h.sQ H m X c d E;simp_all;rw[P m u]at C;have⟨O2,R3,S,T,g3⟩:=(h.roots m r' C).rd;refine⟨O2,R3,S,λc G=>Q c (T c G),?_⟩;simp_all;show(if m=n then[(b,r.t.cells)]else M.ow m)=[]
 have d:m≠n:=by grind
 rw[if_neg d];rw[P m d]at u;exact h.norm m u;show((if m=n then[(b,r.t.cells)]else M.ow m).map (·.1)).Nodup
 split;simp;exact h.nodup m;exact λE=>h.sQ m H V c (z m c G) (z H c E);have L:p∈(if m=n then[(b,r.t.cells)]else M.ow m):=K
 split at L;rename_i e;subst e;refine h.live m p ?_;simp_all;exact h.live m p L;have f:∀D,(∀k q,(D=.ptr k q\/D=.sref k q\/∃o l,D=.swin k q o l)->k≠n)->AA (Ag w M.ov) M.g U.rt (Bh B w M) D v->AA (Ag w M.ov) M.g (λj=>bif j==n then kd ⟨ka,r.t.tK,Ty.vH r.t r.x⟩else U.rt j) (Bh B w ⟨M.g,λm=>if m=n then[(b,r.t.cells)]else M.ow m,M.ov⟩) D v:=λD I hb=>hb.other Q (λk I=>a1G I _) (λ_ _=>rfl) I
 have CL:∀m:Nat,[n].contains m=(m==n):=λm=>by grind
 cases a with|dead=>trivial|val t x=>exact f _ (by rintro k q (h|h|⟨o,l,h⟩)<;>cases h) A|skp=>exact A|nils=>exact A|empt=>exact A|nilp=>exact A|tX g=>exact A|vptr t x=>exact f (.vptr t x) (by simp) A|ptr m q=>simp only[AV.sN,CL];split;(rename_i u;have u:m=n:=by simp_all);(subst u;cases q with|nil=>(have⟨r',t',D,o',Z,p2,p3⟩:=A;rw[hr]at Z;simp at Z;subst Z;simp[CR]at p2;obtain⟨-,p2⟩:=p2;exact⟨⟨ka,r.t.tK,Ty.vH r.t r.x⟩,r.t.tK,D,o',O,by show kd (r.t.tK,M.g m)=_;grind,p3⟩)|cons=>trivial);rename_i u;exact f _ (by simp_all) A|sref m q=>(simp only[AV.sN,CL];split;cases q<;>exact True.intro;rename_i u;exact f _ (by simp_all) A)|swin m q o l=>simp only[AV.sN,CL];split;trivial;rename_i u;exact f _ (by simp_all) A
 have K:=h.pend;show RX _ _ _ U.pd M.ov;rw[Y]at K|-;cases hov:M.ov with|none=>trivial|some y=>rw[hov]at K;exact K.elim
 grind;simp_all
theorem sH.xM{B U N tm w M}(h:sH B U N tm w M){n:Nat}{e:Ty}{l:List e.sI}(V:U.rt n=kd ⟨kc,.list ka e,l⟩)(T:∀p d,U.pd≠kd (n,p,d)):sH B ((U.sG (AV.xM n e l)).sD n ke) N tm w ⟨M.g,λm=>if m=n then[]else M.ow m,M.ov⟩:=by
 have⟨Z,R,F,h2,h3,X,h5,h6⟩:=h.sep V;rcases h6 with⟨g,-⟩|⟨-,⟨Y,H⟩,-,ho⟩;grind;refine h.gone T λa v i=>?_
 have z:∀c,c∈Z.map (·.1)\/c∈R->Bh B w ⟨M.g,λm=>if m=n then[]else M.ow m,M.ov⟩ c:=by rintro c (u|u);have y:BP M c:=⟨n,X c u⟩;refine⟨h.lt y,.inr (h.mine c y),λ⟨m,G⟩=>?_⟩;have G:c∈(if m=n then[]else M.ow m).map (·.1):=G;split at G;simp_all;rename_i S;exact h.sQ m n S c G (X c u);simp_all[sH.tQ]
 have f:∀b,(∀k q,(b=.ptr k q\/b=.sref k q\/∃o l,b=.swin k q o l)->k≠n)->AA (Ag w M.ov) M.g U.rt (Bh B w M) b v->AA (Ag w M.ov) M.g (λj=>bif j==n then ke else U.rt j) (Bh B w ⟨M.g,λm=>if m=n then[]else M.ow m,M.ov⟩) b v:=λb Q hb=>hb.other (λc u=>sH.tQ c u) (λk Q=>a1G Q _) (λ_ _=>rfl) Q
 cases a with|dead=>trivial|val t x=>exact f _ (by rintro k q (h|h|⟨o,l,h⟩)<;>cases h) i|skp=>exact i|nils=>exact i|empt=>exact i|nilp=>exact i|tX g=>exact i|vptr t x=>exact f (.vptr t x) (by simp) i|ptr m q=>simp only[AV.xM];split;trivial;simp_all|sref m q=>simp only[AV.xM];split;(rename_i G;obtain rfl:m=n:=by simp_all);(cases q with|cons=>trivial|nil=>have⟨r,e',s,D,I,E⟩:=i;rw[V]at D;simp at D;subst D;simp only[loc,CR,sj,pJ]at I;obtain⟨-,rfl⟩:=I;rw[H]at F E;simp[Src.rd]at E;subst E;have⟨K,L,O⟩:=Nk _ F;refine⟨by simp[Ty.isAgg],λ_=>?_,K,?_,λc u=>z c (O c u)⟩;rcases Da F with⟨C,-⟩|⟨A,nn,c',os,C,-⟩<;>simp only[Src.rd,if_true,sj]at C<;>rw[C]<;>rfl;(have:CL Y=ka:=by rcases Da F with⟨C,-⟩|⟨A,nn,c',os,C,-⟩<;>simp only[Src.rd,if_true,sj]at C<;>rw[C]<;>rfl);(refine AI _ L (λj hj=>?_) (λ_ _ _=>rfl);have P:j=0:=by simp_all[Ty.cells]);subst P;cases Y<;>simp[CL]at this<;>simp[Value.cells,Src.rd]);simp_all|swin m q o k=>simp only[AV.xM];split;(rename_i G;obtain rfl:m=n:=by simp_all);(cases q with|cons=>trivial|nil=>have⟨r,e',s,a,l',c,D,I,E,k4,a',k5,k6,k7⟩:=i;rw[V]at D;simp at D;subst D;simp[CR]at I;obtain⟨rfl,rfl⟩:=I;rw[H]at F E;simp[Src.rd]at E;subst E k5;have⟨K,L,O⟩:=b0h F k4 k6 k7;refine⟨by simp[Ty.isAgg],λ_=>rfl,K,?_,λc u=>z c (O c u)⟩;refine AI _ L (λj hj=>?_) (λ_ _ _=>rfl);simp_all[Ty.cells,Value.cells,Src.rd]);simp_all
theorem sH.room{B U N tm w M}(h:sH B U N tm w M){n r p t b o}(l:U.rt n=kd r)(j:loc (Ag w M.ov) r.t (M.g n) p=kd (t,.at b o)):Cv w b (o+t.cells):=by have⟨m,R,e,u,x,y,z,i⟩:=h.sep l;rcases Ss p r.t _ e j with⟨C,f,a,q⟩|⟨k,f,a⟩;rcases i with⟨-,d,c,A⟩|⟨-,⟨v,c⟩,-⟩;rw[c]at f;simp at f;obtain⟨rfl,rfl⟩:=f;exact(h.live n (d,r.t.cells) (by simp_all)).mono (by omega);simp_all;refine(h.live n (b,k) ?_).mono a;grind
theorem Cv.cell{o:Nat}(h:Cv w b k)(i:o<k):(w.cell? ⟨b,o,ke⟩).isSome=ka/\w.frozen? ⟨b,o,ke⟩=kc:=by have⟨c,e,lo,d,g,f,a⟩:=h;grind[World.cell?,World.frozen?]
theorem Mi(w:World)(a:Addr)(v:Value)(b:Nat):(w.setCell a v).heap[b]?=if b=a.block then(w.heap[b]?).map (fun
   |.cells c elem frozen=>.cells (if a.spot.isSome then c else c.setIfInBounds a.off v) elem frozen
   |o=>o)else w.heap[b]?:=by
 simp[World.setCell,Array.getElem?_modify];grind
theorem Cv.setCell(h:Cv w b k)(a:Addr)(v:Value):Cv (w.setCell a v) b k:=by have⟨c,e,lo,i,g,f,d⟩:=h;unfold Cv;rw[Mi];grind
theorem sH.rename{B U N tm w M}(h:sH B U N tm w M){r:Nat}{f:sK}(P:U.rt r=kd f)(hd:U.rt d=ke)(V:∀i b,d=pinned+i->B.pin i≠kd b)(h7:∀p k,U.pd≠kd (r,p,k)):sH B (((U.sG (AV.ren r d)).sD r ke).sD d (kd f)) N tm w ⟨λm=>if m=d then M.g r else M.g m,λm=>if m=d then M.ow r else if m=r then[]else M.ow m,M.ov⟩:=by
 have h9:r≠d:=by grind
 have h5:M.ow d=[]:=h.norm d hd;let j:Nat->Dw:=λm=>if m=d then M.ow r else if m=r then[]else M.ow m
 have O:∀c,BP ⟨λm=>if m=d then M.g r else M.g m,j,M.ov⟩ c↔BP M c:=by intro c;constructor;rintro⟨m,y⟩;have y:c∈(j m).map (·.1):=y;simp only[j]at y;split at y;exact⟨r,y⟩;split at y;simp_all;exact⟨m,y⟩;rintro⟨m,y⟩;by_cases e:m=r;subst e;exact⟨d,by grind⟩;by_cases e':m=d;simp_all;refine⟨m,?_⟩;grind
 have H:∀c,Bh B w M c↔Bh B w ⟨λm=>if m=d then M.g r else M.g m,j,M.ov⟩ c:=λc=>by unfold Bh;grind
 have G:∀m,(((U.sG (AV.ren r d)).sD r ke).sD d (kd f)).rt m=if m=d then kd f else if m=r then ke else U.rt m:=by intro m;simp only[AE.sD,AE.sG];grind
 refine⟨λm rm y=>?_,λm y=>?_,λm=>?_,λm X L c z u=>?_,λm p F=>?_,λi hi=>?_,?_,h.size,h.frame,λc z=>h.mine c ((O c).1 z),λi b hb C=>?_,h.still⟩;rw[G]at y;by_cases e:m=d;subst e;simp at y;subst y;have⟨Q,R,g1,T,g3⟩:=(h.roots r f P).rd;exact⟨Q,R,by simp_all,λc z=>(H c).1 (T c z),by simp_all⟩;rw[if_neg e]at y;by_cases e':m=r;simp_all;rw[if_neg e']at y;have⟨Q,R,g1,T,g3⟩:=(h.roots m rm y).rd;exact⟨Q,R,by simp_all,λc z=>(H c).1 (T c z),by simp_all⟩;show(if m=d then M.ow r else if m=r then[]else M.ow m)=[]
 rw[G]at y;by_cases e:m=d;simp_all;rw[if_neg e]at y|-;by_cases e':m=r;grind;rw[if_neg e']at y|-;exact h.norm m y;show((j m).map (·.1)).Nodup;simp[j];split;exact h.nodup r;split
 simp;exact h.nodup m;have z:c∈(j m).map (·.1):=z;have u:c∈(j X).map (·.1):=u;simp only[j]at z u;by_cases e:m=d;subst e;rw[if_pos rfl]at z;rw[if_neg (Ne.symm L)]at u;split at u;simp_all;rename_i S;exact h.sQ r X (Ne.symm S) c z u;rw[if_neg e]at z;split at z;simp_all;rename_i S;split at u;exact h.sQ m r S c z u;split at u;simp_all;exact h.sQ m X L c z u;have F:p∈j m:=F;simp[j]at F;split at F;exact h.live r p F;split at F;simp_all;exact h.live m p F;refine(h.slots i hi).sG λa v E=>?_
 have g0:∀k q (b:AV),(b=.ptr k q\/b=.sref k q\/∃o l,b=.swin k q o l)->True:=λ_ _ _ _=>trivial;have D:(∀k q,(a=.ptr k q\/a=.sref k q\/∃o l,a=.swin k q o l)->k≠r)->AA (Ag w M.ov) (λm=>if m=d then M.g r else M.g m) (((U.sG (AV.ren r d)).sD r ke).sD d (kd f)).rt (Bh B w ⟨λm=>if m=d then M.g r else M.g m,j,M.ov⟩) a v:=λC=>E.frame (λ_ _ _=>rfl) (λc z=>(H c).1 z) λk q Y t s z hk hl=>by grind
 cases a with|ptr k q=>((simp only[AV.ren];split;rename_i e;obtain rfl:k=r:=by simp_all);have⟨Y,t,b,o,A,Z,I⟩:=E;rw[P]at A;simp at A;subst A;exact⟨f,t,b,o,by simp_all,by simp_all,I⟩;grind)|sref k q=>((simp only[AV.ren];split;rename_i e;obtain rfl:k=r:=by simp_all);have⟨Y,e,s,A,Z,I⟩:=E;rw[P]at A;simp at A;subst A;exact⟨f,e,s,by simp_all,by simp_all,I⟩;grind)|swin k q o l=>((simp only[AV.ren];split;rename_i e;obtain rfl:k=r:=by simp_all);have⟨Y,e,s,a,l',c,A,Z,I,h4⟩:=E;rw[P]at A;simp at A;subst A;exact⟨f,e,s,a,l',c,by simp_all,by simp_all,I,h4⟩;grind)|dead=>trivial|skp=>exact E|nils=>exact E|empt=>exact E|nilp=>exact E|tX g=>exact E|val t x=>exact D (by simp)|vptr t x=>exact D (by simp)
 refine h.pend.mono λn p k r' e b o h0 h8 h6=>?_
 grind;rw[G]at C;have K:pinned+i≠d:=λe=>V i b e.symm hb;rw[if_neg K]at C;show(if pinned+i=d then M.g r else M.g (pinned+i))=_
 rw[if_neg K];by_cases e':pinned+i=r;simp_all;rw[if_neg e']at C;exact h.pins i b hb C
theorem sH.ext{B U N tm w M}(h:sH B U N tm w M)(g:∀c,c<w.heap.size->w'.heap[c]?=w.heap[c]?)(k:w.heap.size<=w'.heap.size)(hio:EK w'=EK w:=by first|rfl|assumption):sH B U N tm w' M:=by refine h.mem (λc j f=>BV _ (g c ?_) j) (λn p m=>?_) k (λb hb i=>?_);rcases f with f|f;exact h.lt f;exact f.1;have⟨c,e,lo,l,o,a,d⟩:=h.live n p m;exact⟨c,e,lo,l,by grind,a,d⟩;rw[g b (B3 hb h.size)];exact h.frame b hb i
theorem sH.add{B U N tm w M}(h:sH B U N tm w M){n:Nat}(hn:U.rt n=ke)(h8:n<pinned){w':World}(f:∀c,c<w.heap.size->w'.heap[c]?=w.heap[c]?)(T:w.heap.size<=w'.heap.size)
  {r:sK}{s:Src}{O:Dw}(Z:∀c∈O.map (·.1),w.heap.size<=c)(h7:(O.map (·.1)).Nodup)(h6:∀p∈O,Cv w' p.1 p.2)(h2:tT (Ag w' M.ov) (Bh B w M) r s O)(hio:EK w'=EK w:=by first|rfl|assumption):
  sH B (U.sD n (kd r)) N tm w' ⟨λm=>if m=n then s else M.g m,λm=>if m=n then O else M.ow m,M.ov⟩:=by
 have K:=h.ext f T
 let d:Nat->Dw:=λm=>if m=n then O else M.ow m
 have A:∀c,BP ⟨λm=>if m=n then s else M.g m,d,M.ov⟩ c->BP M c\/c∈O.map (·.1):=by
  rintro c ⟨m,z⟩;have z:c∈(d m).map (·.1):=z;simp only[d]at z;split at z;simp_all;exact .inl ⟨m,z⟩
 have S:∀c,Bh B w M c->Bh B w' ⟨λm=>if m=n then s else M.g m,d,M.ov⟩ c:=λc ⟨H,I,g3⟩=>⟨B3 H T,I,λg4=>by
  grind⟩
 have F:∀c j,Bh B w M c->Ag w' M.ov c j=Ag w M.ov c j:=λc j l=>BV _ (f c l.1) j;have E:∀m,(U.sD n (kd r)).rt m=if m=n then kd r else U.rt m:=by
  simp_all[AE.sD]
 refine⟨λm Y z=>?_,λm z=>?_,λm=>?_,λm m' P c l y=>?_,λm p Q=>?_,λi hi=>?_,?_,K.size,K.frame,λc l=>?_,λi b hb D=>?_,K.still⟩
 ·rw[E]at z;by_cases e:m=n;subst e;simp at z;subst z;obtain⟨O',R,H,I,g3⟩:=h2.rd;exact⟨O',R,by simp_all,λc l=>S c (I c l),by simp_all⟩
  ·rw[if_neg e]at z;obtain⟨O',R,H,I,g3⟩:=(K.roots m Y z).rd;obtain⟨O1,R1,k1,k2,-⟩:=(h.roots m Y z).rd;refine⟨O',R,by simp_all,λc l=>?_,by simp_all⟩
   have:=I c l
   refine⟨this.1,this.2.1,λg4=>?_⟩;rcases A c g4 with g|g;exact this.2.2 g
   ·
    have k3:AM (Ag w' M.ov) Y.t ((M.g m).rd (Ag w' M.ov))=kd (Y.x,O1,R1):=by
     obtain⟨O2,R2,G,l2,l3,V,X,l6⟩:=h.sep z;rw[k1]at G;simp at G;obtain⟨rfl,rfl⟩:=G;refine AI Y.t k1 (λj _=>?_) (λb j hb=>?_)
     ·cases es:M.g m with
      |one v=>rfl
      |_=>rename_i b o;exact BV _ (f b (h.lt ⟨m,X _ _ es⟩)) _
     rcases hb with hb|hb;exact BV _ (f b (h.lt ⟨m,V b hb⟩)) j;simp_all
    rw[k3]at H;simp at H;obtain⟨rfl,rfl⟩:=H;exact absurd (Z c g) (by have:=(k2 c l).1;omega)
 show(if m=n then O else M.ow m)=[]
 rw[E]at z;by_cases e:m=n;simp_all;rw[if_neg e]at z|-;exact h.norm m z;show((d m).map (·.1)).Nodup;simp[d];split;omega;exact h.nodup m;have l:c∈(d m).map (·.1):=l;have y:c∈(d m').map (·.1):=y;simp only[d]at l y;split at l;rename_i e;rw[if_neg (λe'=>P (e.trans e'.symm))]at y;exact absurd (Z c l) (by have:=h.lt ⟨m',y⟩;omega);split at y;exact absurd (Z c y) (by have:=h.lt ⟨m,l⟩;omega);exact h.sQ m m' P c l y;have Q:p∈d m:=Q;simp[d]at Q;split at Q;simp_all;exact K.live m p Q
 ·refine(h.slots i hi).frame λa v ha=>ha.frame F S λk q rk t s' _ hk hl=>?_
  have h0:k≠n:=by grind
  obtain⟨O1,R1,G,l2,l3,V,X,l6⟩:=h.sep hk;have C:∀j,(M.g k).rd (Ag w' M.ov) j=(M.g k).rd (Ag w M.ov) j:=λj=>by
   cases es:M.g k with
   |one v=>rfl
   |_=>rename_i b o;exact BV _ (f b (h.lt ⟨k,X _ _ es⟩)) _
  refine⟨rk,by simp_all,?_,λu _ hu=>?_⟩;show loc (Ag w' M.ov) rk.t (if k=n then s else M.g k) q=_
  rw[if_neg h0];exact DG q rk.t _ G hl (λj _=>C j) (λc j l=>BV _ (f c (h.lt ⟨k,V c l⟩)) j)
  ·cases s' with
   |one v=>exact hu
   |_=>
    rename_i b o;rw[<-hu];exact BV _ (f b (h.lt ⟨k,h.place hk hl⟩)) _
 ·refine h.pend.mono λm p k r' e b o h5 h4 h3=>?_
  have h1:m≠n:=by grind
  obtain⟨O1,R1,G,l2,l3,V,X,l6⟩:=h.sep h4;refine⟨r',by simp_all,?_⟩;show loc (Ag w' M.ov) r'.t (if m=n then s else M.g m) p=_
  rw[if_neg h1];refine DG p r'.t _ G h3 (λj _=>?_) (λc j l=>BV _ (f c (h.lt ⟨m,V c l⟩)) j);cases es:M.g m with
  |one v=>rfl
  |_=>rename_i b o;exact BV _ (f b (h.lt ⟨m,X _ _ es⟩)) _
 rcases A c l with g|g;exact h.mine c g;exact .inr (B4 h.size (Z c g));rw[E]at D;have L:pinned+i≠n:=by omega
 rw[if_neg L]at D;show(if pinned+i=n then s else M.g (pinned+i))=_
 rw[if_neg L];exact h.pins i b hb D
theorem sH.done{B U N tm w M}(h:sH B U N tm w M){n p d b o v}(G:U.pd=kd (n,p,d))(l:M.ov=kd (b,o,v)):
  sH B { U with pd:=ke } N tm (w.setCell ⟨b,o,ke⟩ v) ⟨M.g,M.ow,ke⟩:=by
 have C:=h.pend;rw[G,l]at C;have⟨r,e,H,y⟩:=C;rw[<-l]at y;have x:=h.room H y;have z:Ag (w.setCell ⟨b,o,ke⟩ v) ke=Ag w M.ov:=by
  funext c j;rw[l];simp[Ag];by_cases e:c=b/\j=o;obtain⟨rfl,rfl⟩:=e
  have:=(x.cell (o:=j) (by simp[Ty.cells])).1
  grind[D1,World.cell?_setCell_same];rw[if_neg e,World.cell?_setCell_other];grind
 have A:BP M b:=⟨n,h.place H y⟩;have f:∀c,Bh B w M c->Bh B (w.setCell ⟨b,o,ke⟩ v) ⟨M.g,M.ow,ke⟩ c:=λc ⟨K,D,E⟩=>⟨by simp_all,D,E⟩;refine⟨λm X S=>?_,h.norm,h.nodup,h.sQ,λm p C=>(h.live m p C).setCell _ _,λi P=>?_,trivial,by simpa using h.size,λc F L=>?_,h.mine,h.pins,h.still⟩;have⟨I,R,K,D,E⟩:=(h.roots m X S).rd;refine⟨I,R,?_,λc F=>f c (D c F),E⟩;simp_all;show Yj (Ag (w.setCell ⟨b,o,ke⟩ v) ke) M.g U.rt _ (U.sl i) (tm i);rw[z];exact(h.slots i P).frame λa u O=>O.frame (λ_ _ _=>rfl) f λk q V t s _ Q y=>⟨V,Q,y,λ_ _ T=>T⟩
 ·rw[Mi,if_neg];exact h.frame c F L
  ·rintro rfl;rcases h.mine c A with g|g;all_goals grind
theorem sH.yY{B U N tm w M}(h:sH B U N tm w M)(hr:U.rt n=kd ⟨kc,.list ka e,l⟩)(g7:n<pinned)(h7:U.pd=ke){G:Nat->Bool}(hG:G n=kc){v':Value}{l':List e.sI}{O2 R2}(h9:AM (Ag w' M.ov) (.list ka e) ((Src.one v').rd (Ag w' M.ov))=kd (l',O2,R2))(A:∀c j,c<w.heap.size->c∉(M.ow n).map (·.1)->(∀m,G m=ka->c∉(M.ow m).map (·.1))->Ag w' M.ov c j=Ag w M.ov c j)(R:∀c∈O2.map (·.1),(c∈(M.ow n).map (·.1)\/∃m,G m=ka/\c∈(M.ow m).map (·.1))\/w.heap.size<=c)(g6:(O2.map (·.1)).Nodup)(h5:∀p∈O2,Cv w' p.1 p.2)(K:∀c k,Cv w c k->BP M c->Cv w' c k)(h0:w.heap.size<=w'.heap.size)(h3:∀b,b<B.size->¬ B.F b->w'.heap[b]?=B.hp b)(h2:∀c∈R2,c<w'.heap.size/\(B.S c\/B.F c\/B.size<=c)/\¬ BP M c/\c∉O2.map (·.1)){f:AV->AV}(hf:∀a,f a=.dead\/(f a=a/\∀k q,(a=.ptr k q\/a=.sref k q\/∃o l,a=.swin k q o l)->(k=n->a=.ptr n [])/\G k=kc))(hio:EK w'=EK w:=by first|rfl|assumption):sH B ⟨(U.sG f).sl,λm=>if m=n then kd ⟨kc,.list ka e,l'⟩else bif G m then ke else U.rt m,ke⟩ N tm w' ⟨λm=>if m=n then .one v' else M.g m,λm=>if m=n then O2 else bif G m then[]else M.ow m,M.ov⟩:=by
 let d:Nat->Dw:=λm=>if m=n then O2 else bif G m then[]else M.ow m
 have X:∀c,BP ⟨λm=>if m=n then .one v' else M.g m,d,M.ov⟩ c->BP M c\/c∈O2.map (·.1):=by rintro c ⟨m,r⟩;have r:c∈(d m).map (·.1):=r;simp only[d]at r;split at r;simp_all;cases x:G m with|true=>simp_all|false=>rw[x]at r;exact .inl ⟨m,r⟩
 have T:∀c,c∈O2.map (·.1)->BP M c\/w.heap.size<=c:=λc u=>(R c u).imp (λg=>g.elim (λg=>⟨n,g⟩) λ⟨m,_,g⟩=>⟨m,g⟩) id;have Y:∀c,Bh B w M c->Bh B w' ⟨λm=>if m=n then .one v' else M.g m,d,M.ov⟩ c:=λc ⟨E,g2,g3⟩=>⟨B3 E h0,g2,λg4=>by grind⟩
 have Z:∀c j,Bh B w M c->Ag w' M.ov c j=Ag w M.ov c j:=λc j u=>A c j u.1 (λg=>u.2.2 ⟨n,g⟩) (λm _ g=>u.2.2 ⟨m,g⟩);have z:∀m,m≠n->G m=kc->∀c j,c∈(M.ow m).map (·.1)->Ag w' M.ov c j=Ag w M.ov c j:=λm r hg c j u=>A c j (h.lt ⟨m,u⟩) (h.sQ m n r c u) (λk C=>h.sQ m k (λe=>by simp_all) c u)
 have g9:∀m,(if m=n then kd (⟨kc,.list ka e,l'⟩:sK)else bif G m then ke else U.rt m)=if m=n then kd ⟨kc,.list ka e,l'⟩else bif G m then ke else U.rt m:=λ_=>rfl
 have h1:∀k,k≠n->G k=kc->∀q P tq s,U.rt k=kd P->loc (Ag w M.ov) P.t (M.g k) q=kd (tq,s)->loc (Ag w' M.ov) P.t (M.g k) q=kd (tq,s)/\s.rd (Ag w' M.ov) 0=s.rd (Ag w M.ov) 0:=by(intro k C hg q P tq s L hl;have⟨O1,R1,l1,l2,l3,l4,l5,l6⟩:=h.sep L;have I:∀j,(M.g k).rd (Ag w' M.ov) j=(M.g k).rd (Ag w M.ov) j:=λj=>by cases es:M.g k with|one v=>rfl|_=>rename_i b o;exact z k C hg b _ (l5 _ _ es));refine⟨DG q P.t _ l1 hl (λj _=>I j) (λc j u=>z k C hg c j (l4 c u)),?_⟩;cases s with|one v=>rfl|_=>rename_i b o;exact z k C hg b _ (h.place L hl)
 have⟨O0,R0,m1,m2,m3,m4,m5,m6⟩:=h.sep hr;have h4:∃v0,M.g n=.one v0:=by simp_all
 have⟨v0,h8⟩:=h4;refine⟨λm rm r=>?_,λm r=>?_,λm=>?_,λm m' h6 c u H=>?_,λm p hp=>?_,λi hi=>?_,?_,B4 h.size h0,h3,λc u=>?_,λi b hb D=>?_,hio.trans h.still⟩;have r:(if m=n then kd (⟨kc,.list ka e,l'⟩:sK)else bif G m then ke else U.rt m)=kd rm:=r;by_cases e1:m=n;subst e1;simp at r;subst r;refine⟨O2,R2,?_,λc u=>?_,.inr ⟨rfl,⟨v',by simp⟩,⟨e,rfl⟩,by simp⟩⟩;show AM (Ag w' M.ov) (.list ka e) ((if m=m then Src.one v' else M.g m).rd (Ag w' M.ov))=_
 rw[if_pos rfl];exact h9;have⟨E,g2,g3,g4⟩:=h2 c u;refine⟨E,g2,λg5=>?_⟩;grind;rw[if_neg e1]at r;cases x:G m with|true=>simp_all|false=>(rw[x]at r;have r:U.rt m=kd rm:=r;have⟨O1,R1,l1,l2,l3,l4,l5,l6⟩:=h.sep r;refine⟨O1,R1,?_,λc u=>Y c (l2 c u),by grind⟩;show AM (Ag w' M.ov) rm.t ((if m=n then Src.one v' else M.g m).rd (Ag w' M.ov))=_);rw[if_neg e1];refine AI rm.t l1 (λj _=>?_) (λc j u=>?_);(cases es:M.g m with|one v=>rfl|_=>rename_i b o;exact z m e1 x b _ (l5 _ _ es));grind
 have r:(if m=n then kd (⟨kc,.list ka e,l'⟩:sK)else bif G m then ke else U.rt m)=ke:=r;show(if m=n then O2 else bif G m then[]else M.ow m)=[]
 by_cases e1:m=n;simp_all;rw[if_neg e1]at r|-;cases x:G m with|true=>rfl|false=>rw[x]at r;exact h.norm m r
 show((d m).map (·.1)).Nodup;simp[d];split;omega
 cases G m with|true=>simp|false=>exact h.nodup m
 have u:c∈(d m).map (·.1):=u;have H:c∈(d m').map (·.1):=H;have O:∀k,k≠n->c∈(d k).map (·.1)->G k=kc/\c∈(M.ow k).map (·.1):=λk C g=>by grind
 have k0:∀k,k≠n->c∈(d n).map (·.1)->c∈(d k).map (·.1)->False:=λk C g Q=>by simp only[d,if_true]at g;have⟨g0,Q⟩:=O k C Q;rcases R c g with(E|⟨m,x,E⟩)|E;exact h.sQ n k (Ne.symm C) c E Q;exact h.sQ m k (λe=>by grind) c E Q;have:=h.lt ⟨k,Q⟩;omega
 by_cases e1:m=n;grind;by_cases e2:m'=n;grind;exact h.sQ m m' h6 c (O m e1 u).2 (O m' e2 H).2;have hp:p∈d m:=hp;simp[d]at hp;split at hp;simp_all;cases x:G m with|true=>simp_all|false=>rw[x]at hp;exact K _ _ (h.live m p hp) ⟨m,C2 hp⟩
 refine(h.slots i hi).sG λa v ha=>?_
 rcases hf a with g|⟨g,C⟩;rw[g];trivial;rw[g];by_cases hz:a=.ptr n [];subst hz;obtain⟨r',t,b,o,k1,k2,-⟩:=ha;rw[hr]at k1;simp at k1;subst k1;rw[h8]at k2;simp[loc,CR]at k2;refine ha.frame Z Y λk q P t s u L hl=>?_
 grind;have:=h.pend;rw[h7]at this;show RX _ _ _ ke M.ov;cases hov:M.ov with|none=>trivial|some y=>rw[hov]at this;exact this.elim
 rcases X c u with g|g;exact h.mine c g;rcases T c g with g|g;exact h.mine c g;exact .inr (B4 h.size g);have D:(if pinned+i=n then kd (⟨kc,.list ka e,l'⟩:sK)else bif G (pinned+i)then ke else U.rt (pinned+i))≠ke:=D;have V:pinned+i≠n:=by omega
 rw[if_neg V]at D;show(if pinned+i=n then Src.one v' else M.g (pinned+i))=_
 rw[if_neg V];refine h.pins i b hb λe'=>D ?_
 simp_all
theorem sH.top{B U N tm w M}(h:sH B U N tm w M)(O:U.rt n=kd ⟨kc,.list ka e,l⟩)(D:n<pinned)(u:U.pd=ke){v':Value}{l':List e.sI}{O2 R2}(H:AM (Ag w' M.ov) (.list ka e) ((Src.one v').rd (Ag w' M.ov))=kd (l',O2,R2))(r:∀c j,c<w.heap.size->c∉(M.ow n).map (·.1)->Ag w' M.ov c j=Ag w M.ov c j)(y:∀c∈O2.map (·.1),c∈(M.ow n).map (·.1)\/w.heap.size<=c)(C:(O2.map (·.1)).Nodup)(i:∀p∈O2,Cv w' p.1 p.2)(d:∀c k,Cv w c k->BP M c->Cv w' c k)(E:w.heap.size<=w'.heap.size)(A:∀b,b<B.size->¬ B.F b->w'.heap[b]?=B.hp b)(z:∀c∈R2,c<w'.heap.size/\(B.S c\/B.F c\/B.size<=c)/\¬ BP M c/\c∉O2.map (·.1)){f:AV->AV}(K:∀a,f a=.dead\/(f a=a/\∀k q,(a=.ptr k q\/a=.sref k q\/∃o l,a=.swin k q o l)->k=n->a=.ptr n []))(hio:EK w'=EK w:=by first|rfl|assumption):sH B ((U.sG f).sD n (kd ⟨kc,.list ka e,l'⟩)) N tm w' ⟨λm=>if m=n then .one v' else M.g m,λm=>if m=n then O2 else M.ow m,M.ov⟩:=by have:=h.yY (G:=λ_=>kc) O D u rfl H (λc j v x _=>r c j v x) (λc I=>(y c I).imp .inl id) C i d E A z (f:=f) (λa=>(K a).imp id λ⟨v,x⟩=>⟨v,λk q L=>⟨x k q L,rfl⟩⟩) hio;(have P:((U.sG f).sD n (kd ⟨kc,.list ka e,l'⟩))=⟨(U.sG f).sl,λm=>if m=n then kd ⟨kc,.list ka e,l'⟩else bif (λ_=>kc) m then ke else U.rt m,ke⟩:=by simp only[AE.sD,AE.sG,u,cF];grind);simp_all
theorem CK.one{t:Ty}{x:t.sI}(e:t.isAgg=kc)(k:CL v=ka){R}(h:AM m t ((Src.one v).rd m)=kd (x,[],R))(a:∀c∈R,Sh c)(b:t.cells=1):CK m Sh t x v:=by(refine⟨λg=>(by simp_all),λ_=>k,R,AI t h (λj d=>?_) (λ_ _ _=>rfl),a⟩;have f:j=0:=by omega);subst f;cases v<;>first|rfl|cases k
theorem CK.rd{m:Es}{Sh:Nat->Prop}{t:Ty}{x:t.sI}{v:Value}(h:CK m Sh t x v)(b:t.isAgg=kc)(d:t.cells=1):∃R,AM m t ((Src.one v).rd m)=kd (x,[],R)/\∀c∈R,Sh c:=by(obtain⟨-,f,R,k,a⟩:=h;refine⟨R,AI t k (λj e=>?_) (λ_ _ _=>rfl),a⟩;have g:j=0:=by omega);subst g;have:=f b;cases v<;>first|rfl|cases this
theorem AA.int{m g rt Sh k}{n:Int}{v:Value}(h:AA m g rt Sh (.val (.int k) n) v):v=.int k n:=by obtain⟨R,f,-⟩:=CK.rd (t:=.int k) h rfl rfl;simp[AM,Src.rd]at f;grind
theorem AA.bool{m g rt Sh}{b:Bool}(h:AA m g rt Sh (.val .bool b) v):v=.bool b:=by obtain⟨R,f,-⟩:=CK.rd (t:=.bool) h rfl rfl;simp[AM,Src.rd]at f;grind
theorem AA.str{m g rt Sh}{l:List Int}{v:Value}(h:AA m g rt Sh (.val .str l) v):∃s:ByteArray,v=.string s/\l=s.data.toList.map λb=>(b.toNat:Int):=by obtain⟨R,f,-⟩:=CK.rd (t:=.str) h rfl rfl;simp[AM,Src.rd]at f;grind
theorem AA.tF{m g rt Sh k}(n:Int):AA m g rt Sh (.val (.int k) n) (.int k n):=CK.one (t:=.int k) (R:=[]) rfl rfl (by simp[AM,Src.rd]) (by simp) rfl
theorem AA.tC{m g rt Sh}(b:Bool):AA m g rt Sh (.val .bool b) (.bool b):=CK.one (t:=.bool) (R:=[]) rfl rfl (by rfl) (by simp) rfl
theorem AA.vV{m g rt Sh}(s:ByteArray):AA m g rt Sh (.val .str (s.data.toList.map λb=>(b.toNat:Int):List Int)) (.string s):=CK.one (t:=.str) (R:=[]) rfl rfl (by rfl) (by simp) rfl
def Zo(U:AE)(a:AV):Prop:=∃k q,(a=.ptr k q\/a=.sref k q\/∃o l,a=.swin k q o l)/\U.rt k=ke
structure Ev (B:Base) (w:World) (U:AE) (M:Gh) (U':AE) (M':Gh):Prop where
 ov:M'.ov=M.ov
 pd:U'.pd=U.pd
 shr:∀c,Bh B w M c->Bh B w M' c
 av:∀a v,AA (Ag w M.ov) M.g U.rt (Bh B w M) a v->AA (Ag w M.ov) M'.g U'.rt (Bh B w M') a v\/Zo U' a
 dg:∀a,Zo U a->Zo U' a
theorem Ev.refl{B w U M}:Ev B w U M U M:=⟨rfl,rfl,λ_ h=>h,λ_ _ h=>.inl h,λ_ h=>h⟩
theorem Ev.trans{B w U M e M' b k}(h:Ev B w U M e M')(f:Ev B w e M' b k):Ev B w U M b k:=⟨f.ov.trans h.ov,f.pd.trans h.pd,λc i=>f.shr c (h.shr c i),λa v d=>by rcases h.av a v d with g|g;have:=f.av a v (by rw[h.ov];omega);rw[h.ov]at this;omega;exact .inr (f.dg a g),λa d=>f.dg a (h.dg a d)⟩
theorem Ev.live{B w U M f M'}(h:Ev B w U M f M'){a v}(k:AA (Ag w M.ov) M.g U.rt (Bh B w M) a v\/Zo U a):AA (Ag w M'.ov) M'.g f.rt (Bh B w M') a v\/Zo f a:=by rw[h.ov];rcases k with g|g;exact h.av a v g;exact .inr (h.dg a g)
theorem Ev.zM{B w U M g M'}(h:Ev B w U M g M'){t x v}(hv:CK (Ag w M.ov) (Bh B w M) t x v):CK (Ag w M'.ov) (Bh B w M') t x v:=by rw[h.ov];exact hv.frame (λ_ _ _=>rfl) h.shr
theorem Ev.gone{B w U M}{f:AV->AV}:Ev B w U M ((U.sG f).sD n ke) ⟨M.g,λm=>if m=n then[]else M.ow m,M.ov⟩:=by refine⟨rfl,rfl,λc h=>sH.tQ c h,λa v d=>?_,λa ⟨k,q,b,i⟩=>⟨k,q,b,?_⟩⟩;by_cases hd:∃k q,(a=.ptr k q\/a=.sref k q\/∃o l,a=.swin k q o l)/\k=n;obtain⟨k,q,b,rfl⟩:=hd;exact .inr ⟨k,q,b,by simp[AE.sD]⟩;exact .inl (d.other (n:=n) (λc h=>sH.tQ c h) (λk j=>by simp_all[AE.sD,AE.sG,a1G]) (λ_ _=>rfl) (λk q h e=>hd ⟨k,q,h,e⟩));simp_all[AE.sD,AE.sG]
theorem AY{U:AE}{n:Nat}{r:sK}(h:U.look n=kd r):U.pd=ke/\U.rt n=kd r:=by grind[AE.look]
theorem sH.slice{B U N tm w M}(h:sH B U N tm w M){n p v r}(D:AA (Ag w M.ov) M.g U.rt (Bh B w M) (.sref n p) v)(q:U.rt n=kd r)(F:CQ r.t r.x p=⟨.list ka e,l⟩):∃s f k,loc (Ag w M.ov) r.t (M.g n) p=kd (.list ka e,s)/\s.rd (Ag w M.ov) 0=kd v/\AM (Ag w M.ov) (.list ka e) (s.rd (Ag w M.ov))=kd (l,f,k)/\AM (Ag w M.ov) (.list ka e) ((Src.one v).rd (Ag w M.ov))=kd (l,f,k)/\(∀c∈k,Bh B w M c)/\(∀c∈f.map (·.1),c∈(M.ow n).map (·.1)):=by(have⟨Y,z,s,b,m,o⟩:=D;rw[q]at b;simp at b;subst b;have⟨O,P,G,H,T,I,V,X⟩:=h.sep q;have⟨y,f,k,A,L,K,u,i,a,Q,R⟩:=Cd p r.t _ G m;rw[F]at a;have C:e=z:=by grind);(subst C;have a:=eq_of_heq (Sigma.mk.inj a).2;subst a;refine⟨s,f,k,m,o,i,AI _ i (λj S=>?_) (λ_ _ _=>rfl),λc E=>H c (by simp_all),λc E=>I c (by simp_all)⟩;have d:j=0:=by simp_all[Ty.cells]);subst d;rw[o];rfl
theorem sH.window{B U N tm w M}(h:sH B U N tm w M){n p v r off f}(z:AA (Ag w M.ov) M.g U.rt (Bh B w M) (.swin n p off f) v)(q:U.rt n=kd r)(C:CQ r.t r.x p=⟨.list ka e,l⟩):∃s d i a k c,loc (Ag w M.ov) r.t (M.g n) p=kd (.list ka e,s)/\s.rd (Ag w M.ov) 0=kd (.slice a k c)/\AM (Ag w M.ov) (.list ka e) ((Src.one (.slice a k c)).rd (Ag w M.ov))=kd (l,d,i)/\(∀c∈i,Bh B w M c)/\(∀c∈d.map (·.1),c∈(M.ow n).map (·.1))/\off+f<=k/\∃j,v=.slice j f (c-off)/\(∀A,j=kd A->c=off\/A.spot=ke)/\(c=off\/j=a.map λA=>A.add (off*e.cells)):=by have⟨E,u,s,a,k,c,b,o,y,K,L⟩:=z;have D:AA (Ag w M.ov) M.g U.rt (Bh B w M) (.sref n p) (.slice a k c):=⟨E,u,s,b,o,y⟩;obtain⟨O,d,i,m,F,-,G,H,I⟩:=h.slice D q C;rw[q]at b;simp at b;subst b;rw[o]at m;simp at m;obtain⟨rfl,rfl⟩:=m;grind
theorem mO{x:List e.sI}{O R}(h:AM m (.list ka e) ((Src.one v).rd m)=kd (x,O,R)):CL v=ka:=by rcases Da h with⟨g,-⟩|⟨A,n,c,f,g,-⟩<;>simp only[Src.rd,if_true,sj]at g<;>rw[g]<;>rfl
theorem CK.empty{m Sh e}{a:Option Addr}:CK m Sh (.list kc e) ([]:List e.sI) (.slice a 0 0):=by refine CK.one (t:=.list kc e) (R:=[]) rfl rfl ?_ (by simp) rfl;show CW m kc e.cells (AM m e) (kd (.slice a 0 0))=_;cases a with|none=>rfl|some A=>rfl
theorem CK.wR{m Sh e}:CK m Sh (.nl e) ([]:List e.sI) (.slice ke 0 0):=CK.one (t:=.nl e) (R:=[]) rfl rfl rfl (by simp) rfl
theorem CK.wJ{m:Es}{g:Nat->Src}{rt:Nat->Option sK}{Sh:Nat->Prop}{v:Value}:∀{t:Ty}{x:t.sI},CK m Sh t x v->AA m g rt Sh (wJ t x) v|.nl e,x,h=>(by(obtain⟨-,f,R,k,-⟩:=h;have f:=f rfl;simp only[AM]at k;split at k;rename_i b;have a:v=.slice ke 0 0:=by cases v<;>first|(cases f;done)|(simp[Value.cells]at b;done)|(simpa[Value.cells]using b));subst a;exact rfl;cases k)|.int _,_,h|.bool,_,h|.str,_,h|.unit,_,h|.list _ _,_,h|.pair _ _,_,h|.arr _ _,_,h=>h
theorem sH.vR{B U N tm w M}(h:sH B U N tm w M){n p v r}(b:AA (Ag w M.ov) M.g U.rt (Bh B w M) (.sref n p) v)(j:U.rt n=kd r)(i:CQ r.t r.x p=⟨.list ka e,l⟩):CK (Ag w M.ov) (λc=>Bh B w M c\/c∈(M.ow n).map (·.1)) (.list kc e.sh) (Ty.wE (.list kc e) l) v:=by have⟨s,q,u,z,A,C,f,k,a⟩:=h.slice b j i;have⟨y,m,o⟩:=Nk _ f;exact CK.one (t:=.list kc e.sh) rfl (mO f) m (λc d=>(o c d).elim (λg=>.inr (a c g)) (λg=>.inl (k c g))) rfl
theorem sH.vS{B U N tm w M}(h:sH B U N tm w M){n p v r off f}(m:AA (Ag w M.ov) M.g U.rt (Bh B w M) (.swin n p off f) v)(u:U.rt n=kd r)(q:CQ r.t r.x p=⟨.list ka e,l⟩):CK (Ag w M.ov) (λc=>Bh B w M c\/c∈(M.ow n).map (·.1)) (.list kc e.sh) (Ty.wE (.list kc e) ((l.drop off).take f)) v:=by obtain⟨s,A,C,a,H,c,F,G,k,b,d,i,E,rfl,j,g8⟩:=h.window m u q;have⟨D,y,z⟩:=b0h k i j g8;exact CK.one (t:=.list kc e.sh) rfl rfl y (λc o=>(z c o).elim (λg=>.inr (d c g)) (λg=>.inl (b c g))) rfl
theorem Ty.yK:∀(a b:Ty),a.le b=ka->a.isAgg=b.isAgg|.nl a,.list o b,_|.nl a,.nl b,_|.pair a b,.pair g f,_=>rfl|.nl a,.int _,h|.nl a,.bool,h|.nl a,.str,h|.nl a,.unit,h|.nl a,.pair _ _,h|.nl a,.arr _ _,h=>by simp[Ty.le]at h|.pair a b,.int _,h|.pair a b,.bool,h|.pair a b,.str,h|.pair a b,.unit,h|.pair a b,.arr _ _,h|.pair a b,.list _ _,h|.pair a b,.nl _,h=>by simp[Ty.le]at h|.int _,b,h|.bool,b,h|.str,b,h|.unit,b,h|.list _ _,b,h|.arr _ _,b,h=>by simp only[Ty.le,dT]at h;rw[h]
theorem Yl{g t:Ty}{x:g.sI}{y:t.sI}{rd:Nat->Option Value}{R:List Nat}(f:sZ g t x=kd y)(h:AM m g rd=kd (x,[],R)):AM m t rd=kd (y,[],R):=by grind[sZ,a8g]
theorem a1H{h t:Ty}{x:h.sI}{y:t.sI}(g:sZ h t x=kd y):h.isAgg=t.isAgg/\h.cells=t.cells:=by unfold sZ at g;split at g;simp_all;grind[Ty.yK,Ty.vG]
theorem CK.sZ{m:Es}{Sh:Nat->Prop}{f t:Ty}{x:f.sI}{y:t.sI}{v:Value}(k:sZ f t x=kd y)(h:CK m Sh f x v):CK m Sh t y v:=by have⟨i,b,R,c,d⟩:=h;have⟨a,e⟩:=a1H k;exact⟨λg=>by simp_all,λg=>b (a.trans g),R,Yl k c,d⟩
theorem sH.view{Z:Type}{B U N tm w M}(h:sH B U N tm w M){t a v}{K:t.sI->Rs Z}{z:Z}(d:AA (Ag w M.ov) M.g U.rt (Bh B w M) a v\/Zo U a)(f:U.view t a K=kd z):
  ∃x,K x=kd z/\CK (Ag w M.ov) (λc=>Bh B w M c\/(BP M c/\U.pd=ke)) t x v:=by
 have G:∀b,(∀k q,(b=.ptr k q\/b=.sref k q\/∃o l,b=.swin k q o l)->False)->¬ Zo U b:=λb hb ⟨k,q,D,_⟩=>hb k q D;cases a with
 |tX g=>
  simp_all[AE.view]
 |val H x=>
  simp[AE.view]at f;split at f;rename_i y F;rcases d with d|d;exact⟨y,f,CK.frame (CK.sZ F d) (λ_ _ _=>rfl) (λc i=>.inl i)⟩;simp_all;simp_all
 |nils=>
  rcases d with rfl|d;cases t<;>simp only[AE.view]at f<;>try cases f
  rename_i o e;cases o;exact⟨[],f,CK.empty⟩;cases f;exact⟨_,f,CK.wR⟩;simp_all
 |empt=>
  cases t<;>simp only[AE.view]at f<;>try cases f
  rename_i o e;cases o
  ·rcases d with⟨A,rfl⟩|d;all_goals grind[CK.empty]
  simp_all
 |sref n p=>
  simp[AE.view]at f;split at f;rename_i r m;have⟨j,m⟩:=AY m;split at f;rename_i e l u;split at f;rename_i C;subst C;rcases d with d|⟨k,q,i,E⟩;exact⟨_,f,(h.vR d m u).frame (λ_ _ _=>rfl) (λc i=>i.imp id λg=>⟨⟨n,g⟩,j⟩)⟩;simp_all;simp_all;simp_all;simp_all
 |swin n p o k=>
  simp[AE.view]at f;split at f;rename_i r m;have⟨j,m⟩:=AY m;split at f;rename_i e l u;split at f;rename_i C;subst C;rcases d with d|⟨k,q,i,E⟩;exact⟨_,f,(h.vS d m u).frame (λ_ _ _=>rfl) (λc i=>i.imp id λg=>⟨⟨n,g⟩,j⟩)⟩;simp_all;simp_all;simp_all;simp_all
 |dead|skp|nilp|ptr|vptr=>cases f
theorem sH.yZ{B U N tm w M}(h:sH B U N tm w M){t a v}{K:t.sI->Rs Z}(d:AA (Ag w M.ov) M.g U.rt (Bh B w M) a v\/Zo U a)(f:U.view t a K=kd z):
  ∃x,K x=kd z/\CK (Ag w M.ov) (λc=>Bh B w M c\/∃n,n∈a.sP/\c∈(M.ow n).map (·.1)) t x v:=by
 have G:∀b,(∀k q,(b=.ptr k q\/b=.sref k q\/∃o l,b=.swin k q o l)->False)->¬ Zo U b:=λb hb ⟨k,q,D,_⟩=>hb k q D;cases a with
 |tX g=>
  simp_all[AE.view]
 |val H x=>
  simp[AE.view]at f;split at f;rename_i y F;rcases d with d|d;exact⟨y,f,CK.frame (CK.sZ F d) (λ_ _ _=>rfl) (λc i=>.inl i)⟩;simp_all;simp_all
 |nils=>
  rcases d with rfl|d;cases t<;>simp only[AE.view]at f<;>try cases f
  rename_i o e;cases o;exact⟨[],f,CK.empty⟩;cases f;exact⟨_,f,CK.wR⟩;simp_all
 |empt=>
  cases t<;>simp only[AE.view]at f<;>try cases f
  rename_i o e;cases o
  ·rcases d with⟨A,rfl⟩|d;all_goals grind[CK.empty]
  simp_all
 |sref n p=>
  simp[AE.view]at f;split at f;rename_i r j;have⟨u,j⟩:=AY j;split at f;rename_i e l m;split at f;rename_i C;subst C;rcases d with d|⟨k,q,i,E⟩;exact⟨_,f,(h.vR d j m).frame (λ_ _ _=>rfl) (λc i=>i.imp id λg=>⟨n,by simp[AV.sP],g⟩)⟩;simp_all;simp_all;simp_all;simp_all
 |swin n p o k=>
  simp[AE.view]at f;split at f;rename_i r j;have⟨u,j⟩:=AY j;split at f;rename_i e l m;split at f;rename_i C;subst C;rcases d with d|⟨k,q,i,E⟩;exact⟨_,f,(h.vS d j m).frame (λ_ _ _=>rfl) (λc i=>i.imp id λg=>⟨n,by simp[AV.sP],g⟩)⟩;simp_all;simp_all;simp_all;simp_all
 |dead|skp|nilp|ptr|vptr=>cases f
def II(V:Nat->Prop)(U:AE)(M:Gh)(U':AE)(M':Gh):Prop:=(∀n r,r.bx=ka\/¬ V n->U.rt n=kd r->U'.rt n=kd r/\M'.g n=M.g n/\M'.ow n=M.ow n)/\∀(j:Nat) t y,U.get j=.val t y->U'.get j=.val t y
theorem II.refl{V U M}:II V U M U M:=⟨λ_ _ _ h=>⟨h,rfl,rfl⟩,λ_ _ _ h=>h⟩
theorem II.trans{V U M k M' f g}(h:II V U M k M')(d:II V k M' f g):II V U M f g:=⟨λn r hb i=>by have⟨a,b,c⟩:=h.1 n r hb i;have⟨l,m,o⟩:=d.1 n r hb a;simp_all,λj t y e=>d.2 j t y (h.2 j t y e)⟩
theorem II.mono{V k:Nat->Prop}{U M f M'}(h:II V U M f M')(hv:∀n,V n->k n):II k U M f M':=⟨λn r hb=>h.1 n r (hb.imp id λg a=>g (hv n a)),h.2⟩
theorem II.gone{U:AE}{M:Gh}(d:U.rt n=kd r)(hb:r.bx=kc)(f:AV->AV)(ov)(b:∀t y,f (.val t y)=.val t y):II (·∈[n]) U M ((U.sG f).sD n ke) ⟨M.g,λm=>if m=n then[]else M.ow m,ov⟩:=by(refine⟨λm i k h=>?_,λj t y c=>?_⟩;have a:m≠n:=by grind);(have e:(m==n)=kc:=by simp_all);exact⟨by simp[AE.sD,AE.sG,e,h],rfl,by simp_all⟩;grind[AE.get,AE.sD,AE.sG,SV.sG]
theorem sH.yH{B U N tm w M}(h:sH B U N tm w M){q t a v}{K:t.sI->AE->Rs Z}(i:AA (Ag w M.ov) M.g U.rt (Bh B w M) a v\/Zo U a)(f:U.uR q t a K=kd z):∃x C M',K x C=kd z/\sH B C N tm w M'/\CK (Ag w M'.ov) (Bh B w M') t x v/\Ev B w U M C M'/\(q=ka->C=U/\M'=M)/\II (·∈a.sP) U M C M':=by have P:∀b,(∀k q,(b=.ptr k q\/b=.sref k q\/∃o l,b=.swin k q o l)->False)->¬ Zo U b:=λb hb ⟨k,q,I,_⟩=>hb k q I;cases a with|tX g=>simp_all[AE.uR]|val Q x=>(simp[AE.uR]at f;split at f;rename_i y O;rcases i with i|i;exact⟨y,U,M,f,h,CK.sZ O i,Ev.refl,λ_=>⟨rfl,rfl⟩,II.refl⟩;simp_all;simp_all)|nils=>((rcases i with rfl|i;cases t<;>simp only[AE.uR]at f<;>try cases f);rename_i o e;cases o;exact⟨[],U,M,f,h,CK.empty,Ev.refl,λ_=>⟨rfl,rfl⟩,II.refl⟩;cases f;exact⟨_,U,M,f,h,CK.wR,Ev.refl,λ_=>⟨rfl,rfl⟩,II.refl⟩;simp_all)|empt=>((cases t<;>simp only[AE.uR]at f<;>try cases f);rename_i o e;cases o;rcases i with⟨A,rfl⟩|i;exact⟨[],U,M,f,h,CK.empty,Ev.refl,λ_=>⟨rfl,rfl⟩,II.refl⟩;simp_all;simp_all)|sref n p=>(cases p with|cons=>simp_all[AE.uR]|nil=>simp only[AE.uR]at f;split at f;grind;rename_i F;split at f;rename_i e l j;have⟨E,j⟩:=AY j;split at f;rename_i G;subst G;rcases i with i|⟨k,q,D,L⟩;have H:=h.vR i j rfl;refine⟨_,_,_,f,h.xM j (by simp_all),H.frame (λ_ _ _=>rfl) (λc D=>?_),Ev.gone,λe=>absurd e F,II.gone j rfl _ _ (λ_ _=>rfl)⟩;rcases D with g|g;exact sH.tQ c g;have d:BP M c:=⟨n,g⟩;refine⟨h.lt d,.inr (h.mine c d),λ⟨m,r⟩=>?_⟩;have r:c∈(if m=n then[]else M.ow m).map (·.1):=r;split at r;simp_all;rename_i u;exact h.sQ m n u c r g;simp_all;simp_all;simp_all)|swin n p o k=>(cases p with|cons=>simp_all[AE.uR]|nil=>simp only[AE.uR]at f;split at f;grind;rename_i F;split at f;rename_i e l j;have⟨E,j⟩:=AY j;split at f;rename_i G;subst G;rcases i with i|⟨k,q,D,L⟩;have H:=h.vS i j rfl;refine⟨_,_,_,f,h.xM j (by simp_all),H.frame (λ_ _ _=>rfl) (λc D=>?_),Ev.gone,λe=>absurd e F,II.gone j rfl _ _ (λ_ _=>rfl)⟩;rcases D with g|g;exact sH.tQ c g;have d:BP M c:=⟨n,g⟩;refine⟨h.lt d,.inr (h.mine c d),λ⟨m,r⟩=>?_⟩;have r:c∈(if m=n then[]else M.ow m).map (·.1):=r;split at r;simp_all;rename_i u;exact h.sQ m n u c r g;simp_all;simp_all;simp_all)|dead|skp|nilp|ptr|vptr=>cases f
theorem sH.uR{Z:Type}{B U N tm w M}(h:sH B U N tm w M){q t a v}{K:t.sI->AE->Rs Z}{z:Z}(b:AA (Ag w M.ov) M.g U.rt (Bh B w M) a v\/Zo U a)(k:U.uR q t a K=kd z):∃x f M',K x f=kd z/\sH B f N tm w M'/\CK (Ag w M'.ov) (Bh B w M') t x v/\Ev B w U M f M'/\(q=ka->f=U/\M'=M):=by obtain⟨x,f,M',c,d,e,i,j,-⟩:=h.yH b k;grind
def Fq:Ty->(Nat->Option Value)->Bool|.int k,rd=>(match rd 0 with|some (.int k' n)=>A3 (k'=k)&&n==0|_=>kc)|.bool,rd=>(match rd 0 with|some (.bool b)=>!b|_=>kc)|.str,rd=>(match rd 0 with|some (.string s)=>s.size==0|_=>kc)|.unit,_=>true|.pair a b,rd=>Fq a rd&&Fq b (λj=>rd (a.cells+j))|.arr n t,rd=>((D3 n).all λi=>Fq t λj=>rd (i*t.cells+j))|.list _ _,rd=>(match rd 0 with|some (.slice ke 0 0)=>true|_=>kc)|.nl _,rd=>match rd 0 with|some (.slice ke 0 0)=>true|_=>kc
theorem Rg{α:Type}{f:Nat->Option (α×Dw×List Nat)}{x:α}:∀(n i:Nat),(∀j,i<=j->j<i+n->f j=kd (x,[],[]))->Ao f n i=kd (B7 n x,[],[])|0,_,_=>rfl|n+1,i,h=>by simp only[Ao,h i (C0 _) (by omega),Rg n (i+1) (λj g k=>h j (by omega) (by omega))];rfl
theorem JJ{m:Es}:∀(t:Ty){rd:Nat->Option Value},Fq t rd=ka->AM m t rd=kd (t.dflt,[],[])|.int k,rd,h=>by simp[Fq]at h;split at h;rename_i d n g;simp at h;simp only[AM,g,h.1,if_true,h.2];rfl;simp_all|.bool,rd,h=>by simp[Fq]at h;split at h;rename_i b g;simp at h;simp only[AM,g,h];rfl;simp_all|.str,rd,h=>by(simp[Fq]at h;split at h;rename_i s g;have f:s.data.toList=[]:=by simp_all);simp only[AM,g,f];rfl;simp_all|.unit,rd,h=>rfl|.pair a b,rd,h=>by simp only[Fq,HC]at h;exact LK (JJ a h.1) (JJ b h.2)|.arr n t,rd,h=>(by simp only[Fq,lA,List.mem_range]at h;exact Rg n 0 λj _ c=>JJ t (h j (by omega)))|.list o t,rd,h=>by simp[Fq]at h;split at h;rename_i g;show CW m o t.cells (AM m t) (rd 0)=_;rw[g];rfl;simp_all|.nl t,rd,h=>by simp[Fq]at h;split at h;rename_i g;simp only[AM,g];rfl;simp_all
def LC(P:Program)(τ:Ty)(t:TypeId):Bool:=match P.info? t with|some i=>i.size==τ.cells&&A3 (i.bytes<=32768)&&(match i.zero with|some z=>z.cells.size==τ.cells&&Fq τ (λj=>z.cells[j]?)&&(match z with|.agg _=>τ.isAgg|_=>!τ.isAgg)|none=>kc)|none=>kc
def AU(P:Program):Ty->TypeId ⊕ (List Field×Nat)->Bool|.int k,.inl t=>LC P (.int k) t&&(match P.underlying t with|some (.int k')=>A3 (k'=k)|_=>kc)|.bool,.inl t=>LC P .bool t&&(match P.underlying t with|some .bool=>true|_=>kc)|.str,.inl t=>LC P .str t&&(match P.underlying t with|some .string=>true|_=>kc)|.list o e,.inl t=>LC P (.list o e) t&&(match P.underlying t with|some (.slice t')=>AU P e (.inl t')&&A3 (0<e.cells)|_=>kc)|.nl e,.inl t=>LC P (.nl e) t&&(match P.underlying t with|some (.slice t')=>AU P e (.inl t')&&A3 (0<e.cells)|_=>kc)|.arr n e,.inl t=>LC P (.arr n e) t&&(match P.underlying t with|some (.array n' t')=>n'==n&&AU P e (.inl t')&&A3 (0<e.cells)|_=>kc)|.pair a b,.inl t=>LC P (.pair a b) t&&(match P.underlying t with|some (.struct fs)=>(match fs.toList with|f::r=>f.offset==0&&AU P a (.inl f.type)&&A3 (0<a.cells)&&AU P b (.inr (r,a.cells))|[]=>kc)|_=>kc)|.unit,.inl t=>LC P .unit t&&(match P.underlying t with|some (.struct fs)=>fs.isEmpty|_=>kc)|.pair a b,.inr (f::r,off)=>f.offset==off&&AU P a (.inl f.type)&&A3 (0<a.cells)&&AU P b (.inr (r,off+a.cells))|.unit,.inr ([],_)=>true|_,.inr _=>kc
theorem AZ(h:AU P τ (.inl t)=ka):LC P τ t=ka:=by cases τ<;>simp only[AU,HC]at h<;>exact h.1
structure vF (P:Program) (τ:Ty) (t:TypeId) where
 i:TypeInfo
 z:Value
 info:P.info? t=kd i
 size:i.size=τ.cells
 bytes:i.bytes<=32768
 zero:i.zero=kd z
 uY:z.cells.size=τ.cells
 zok:Fq τ (λj=>z.cells[j]?)=ka
 zagg:∀cs,z=.agg cs->τ.isAgg=ka
 znot:(∀cs,z≠.agg cs)->τ.isAgg=kc
theorem AL(h:LC P τ t=ka):Nonempty (vF P τ t):=by
 unfold LC at h;split at h
 ·rename_i i b;simp at h;have⟨⟨g,f⟩,h3⟩:=h;split at h3
  ·rename_i z d;simp at h3;have⟨⟨k,a⟩,h6⟩:=h3;refine⟨⟨i,z,b,g,f,d,k,a,λj e=>?_,λc=>?_⟩⟩;all_goals simp_all
  simp_all
 simp_all
theorem Jd(h:AU P τ (.inl t)=ka)(w:World):(isAgg t).run P w=.ok τ.isAgg w:=by cases τ<;>simp only[AU,HC]at h<;>obtain⟨-,h⟩:=h<;>split at h<;>first|(rename_i g;simp[isAgg,run_underlying g,Ty.isAgg];done)|cases h
theorem vF.sizeOf{P:Program}{τ:Ty}{t:TypeId}(I:vF P τ t)(w:World):(sizeOf t).run P w=.ok τ.cells w:=by simp[Go.sizeOf,typeInfo,I.info,I.size]
theorem vF.typeInfo{P:Program}{τ:Ty}{t:TypeId}(I:vF P τ t)(w:World):(typeInfo t).run P w=.ok I.i w:=by simp[Go.typeInfo,I.info]
theorem vF.zeroValue{P:Program}{τ:Ty}{t:TypeId}(I:vF P τ t)(w:World):(zeroValue t).run P w=.ok I.z w:=by simp[Go.zeroValue,Go.typeInfo,I.info,I.zero]
theorem JK{m:Es}:∀(t:Ty){rd:Nat->Option Value}{x o r},AM m t rd=kd (x,o,r)->∀j,j<t.cells->∃v,rd j=kd v/\CL v=true|.int k,rd,x,o,r,h,j,f=>by(have g:j=0:=by simp_all[Ty.cells]);subst g;simp[AM]at h;split at h;rename_i c;exact⟨_,c,rfl⟩;simp_all|.bool,rd,x,o,r,h,j,f=>by(have g:j=0:=by simp_all[Ty.cells]);subst g;simp[AM]at h;split at h;rename_i c;exact⟨_,c,rfl⟩;simp_all|.str,rd,x,o,r,h,j,f=>by(have g:j=0:=by simp_all[Ty.cells]);subst g;simp[AM]at h;split at h;rename_i c;exact⟨_,c,rfl⟩;simp_all|.unit,rd,x,o,r,h,j,f=>by simp[Ty.cells]at f|.pair a b,rd,x,o,r,h,j,f=>(by obtain⟨I,D,G,K,E,H,d,e,-⟩:=Dz h;by_cases hja:j<a.cells;exact JK a d j hja;have:=JK b e (j-a.cells) (by simp only[Ty.cells]at f;omega);rwa [show a.cells+(j-a.cells)=j from by omega]at this)|.arr n t,rd,x,o,r,h,j,f=>(by(have h:Ao (λi=>AM m t λj=>rd (i*t.cells+j)) n 0=kd (x,o,r):=h;simp[Ty.cells]at f;have l:0<t.cells:=by grind);have q:j / t.cells<n:=Nat.div_lt_of_lt_mul (by grind);obtain⟨y,C,F,A,B,w,z,p,-⟩:=Bc n 0 (j / t.cells) h q;have:=JK t p (j%t.cells) (Nat.mod_lt _ l);simp_all[Nat.div_add_mod'])|.list u t,rd,x,o,r,h,j,f=>by(have g:j=0:=by simp_all[Ty.cells]);subst g;have h:CW m u t.cells (AM m t) (rd 0)=kd (x,o,r):=h;unfold CW at h;split at h;rename_i c;exact⟨_,c,rfl⟩;rename_i c;exact⟨_,c,rfl⟩;simp_all|.nl t,rd,x,o,r,h,j,f=>by(have g:j=0:=by simp_all[Ty.cells]);subst g;exact⟨_,(mK h).1,rfl⟩
theorem Tm{t:Ty}(h:t.isAgg=kc):t.cells=1:=by cases t<;>first|rfl|cases h
theorem Tn{o:Nat}{x R}(p:AU P τ (.inl t)=ka)(h:AM m τ ((Src.at b o).rd m)=kd (x,[],R))(z:∀j,j<τ.cells->w.cell? ⟨b,o+j,ke⟩=m b (o+j))(q:∀c∈R,Sh c):∃v,(Instr.loadAt t (.pointer (kd ⟨b,o,ke⟩))).run P w=.ok v w/\CK m Sh τ x v:=by have⟨I⟩:=AL (AZ p);have f:=JK τ h;cases hagg:τ.isAgg with|false=>(have y:=Tm hagg;have⟨v,r,A⟩:=f 0 (by omega);have D:w.cell? ⟨b,o,ke⟩=kd v:=by have:=z 0 (by omega);simp at this;rw[this];exact r);(refine⟨v,?_,CK.one hagg A (AI τ h (λj a=>?_) (λ_ _ _=>rfl)) q y⟩;simp[Instr.loadAt,Instr.sureAddr,loadVar,Jd p,hagg,D];have l:j=0:=by omega);subst l;rw[r];rfl|true=>(let k:List Value:=(D3 τ.cells).map λj=>(m b (o+j)).getD undef);(have i:∀j v,k[j]?=kd v->w.cell? ((⟨b,o,ke⟩:Addr).add j)=kd v:=by(intro j v a;simp only[k,D7]at a;have d:j<τ.cells:=by grind);rw[List.getElem?_range d]at a;simp at a;obtain⟨u,B,-⟩:=f j d;have C:m b (o+j)=kd u:=B;simp_all[Addr.add_lit]);(have e:k.length=τ.cells:=by grind);refine⟨.agg k.toArray,?_,λ_=>⟨_,rfl,by omega⟩,λg=>(by simp_all),R,?_,q⟩;have:=run_loadCells_list (P:=P) w ⟨b,o,ke⟩ k i;rw[e]at this;simp[Instr.loadAt,Instr.sureAddr,loadVar,Jd p,hagg,I.sizeOf,this];refine AI τ h (λj a=>?_) (λ_ _ _=>rfl);grind[Value.cells,Src.rd]
theorem CK.cells{m Sh}{τ:Ty}{x:τ.sI}{v:Value}(h:CK m Sh τ x v):v.cells.size=τ.cells/\∀u∈v.cells.toList,CL u=ka:=by(have⟨k,a,R,d,e⟩:=h;have f:v.cells.size=τ.cells:=by cases hagg:τ.isAgg with|true=>(obtain⟨c,rfl,g⟩:=k hagg;exact g)|false=>have:=a hagg;rw[Tm hagg];cases v<;>first|rfl|cases this);refine⟨f,λu b=>?_⟩;obtain⟨j,i,rfl⟩:=List.getElem_of_mem b;grind[JK]
theorem Ld(h:CL v=ka):v.oneCell'=ka:=by cases v<;>first|rfl|cases h
theorem ET(b:Nat):∀(g:List Value)(o:Nat)(w:World)(c:Nat),c≠b->(w.setCells b o g).heap[c]?=w.heap[c]?|[],_,_,_,_=>rfl|v::r,o,w,c,h=>by rw[World.setCells,ET b r (o+1) _ c h,Mi,if_neg h]
theorem Iu(b:Nat):∀(h:List Value)(o:Nat)(w:World),(w.setCells b o h).heap.size=w.heap.size|[],_,_=>rfl|v::r,o,w=>by rw[World.setCells,Iu b r (o+1),World.size_setCell]
theorem Cv.setCells{g k:Nat}(b:Nat):∀(f:List Value)(o:Nat){w:World},Cv w g k->Cv (w.setCells b o f) g k|[],_,_,h=>h|_::r,o,_,h=>Cv.setCells b r (o+1) (h.setCell _ _)
theorem KA(b:Nat):∀(h:List Value)(o:Nat)(w:World)(k:Nat),Cv w b k->o+h.length<=k->∀c j,
  (w.setCells b o h).cell? ⟨c,j,ke⟩=if c=b/\o<=j/\j<o+h.length then h[j-o]? else w.cell? ⟨c,j,ke⟩
 | [],o,w,k,g,f,c,j=>by
  rw[if_neg (by simp)];rfl
 |v::r,o,w,k,g,f,c,j=>by
  simp at f;rw[World.setCells,KA b r (o+1) _ k (g.setCell _ _) (by omega) c j];by_cases h1:c=b/\o+1<=j/\j<o+1+r.length;grind
  ·rw[if_neg h1];by_cases h2:c=b/\j=o;obtain⟨rfl,rfl⟩:=h2;have⟨u,a⟩:=D1.1 (g.cell (o:=j) (by omega)).1;rw[World.cell?_setCell_same _ _ _ a,if_pos ⟨rfl,C0 _,by simp⟩]
   simp
   ·rw[World.cell?_setCell_other,if_neg];all_goals grind
theorem Zp{o:Nat}(d:AU P τ (.inl t)=ka)(f:v.cells.size=τ.cells)(a:∀u∈v.cells.toList,CL u=ka)(h:Cv w b k)(i:o+τ.cells<=k):(Instr.storeAt t (.pointer (kd ⟨b,o,ke⟩)) v).run P w=.ok () (w.setCells b o v.cells.toList):=by(have⟨I⟩:=AL (AZ d);have g:v.cells.toList.length=τ.cells:=by omega);have:=run_storeCells_cells (P:=P) b o v.cells.toList 0 w (λj c=>(h.cell (o:=o+0+j) (by omega)).1) (λj c=>(h.cell (o:=o+0+j) (by omega)).2) (λu e=>Ld (a u e));simp[Instr.storeAt,Instr.sureAddr,storeVar,I.sizeOf,f];omega
theorem fR{m Sh}{x:τ.sI}{o:Nat}(f:AU P τ (.inl t)=ka)(hv:CK m Sh τ x v)(h:Cv w b k)(g:o+τ.cells<=k):(Instr.storeAt t (.pointer (kd ⟨b,o,ke⟩)) v).run P w=.ok () (w.setCells b o v.cells.toList):=Zp f hv.cells.1 hv.cells.2 h g
theorem Tp{P:Program}:∀(f:Nat)(τ:Ty)(fs:List Field)(off:Nat),AU P τ (.inr (fs,off))=ka->CZ τ f=ka->∃g τ' k,fs[f]?=kd g/\g.offset=off+k/\AU P τ' (.inl g.type)=ka/\0<τ'.cells/\∀(m:Es) b o,loc m τ (.at b o) (BA f)=kd (τ',.at b (o+k))|0,τ,fs,off,h,c=>(by cases τ with|pair a b=>(cases fs with|nil=>simp[AU]at h|cons g r=>simp[AU]at h;exact⟨g,a,0,rfl,by omega,h.1.1.2,h.1.2,λ_ _ _=>rfl⟩)|_=>simp[CZ]at c)|f+1,τ,fs,off,h,c=>by cases τ with|pair a b=>(cases fs with|nil=>simp[AU]at h|cons g r=>simp only[AU,HC]at h;have⟨d,τ',k,p,q,i,j,l⟩:=Tp f b r (off+a.cells) h.2 c;exact⟨d,τ',a.cells+k,by simp_all,by omega,i,j,λm e o=>by have:=l m e (o+a.cells);rw[show o+a.cells+k=o+(a.cells+k)from by omega]at this;exact this⟩)|_=>simp[CZ]at c
theorem Rh{P:Program}{τ:Ty}{t:TypeId}{f:Nat}(h:AU P τ (.inl t)=ka)(g:CZ τ f=ka):∃fs:Array Field,P.underlying t=kd (.struct fs)/\AU P τ (.inr (fs.toList,0))=ka:=by cases τ with|pair a b=>simp[AU]at h;grind[AU]|_=>cases f<;>simp[CZ]at g
theorem Vf{f o:Nat}(h:AU P τ (.inl t)=ka)(c:CZ τ f=ka):∃τ' k,(Instr.fieldAt t (.pointer (kd ⟨b,o,ke⟩)) f).run P w=.ok (.pointer (kd ⟨b,o+k,ke⟩)) w/\(∀(m:Es) b o,loc m τ (.at b o) (BA f)=kd (τ',.at b (o+k))):=by(have⟨e,q,p⟩:=Rh h c;have⟨d,τ',k,r,i,j,u,l⟩:=Tp f τ _ 0 p c;have⟨I⟩:=AL (AZ j);have g:e[f]?=kd d:=by simp_all);(refine⟨τ',k,?_,l⟩;have a:¬ (τ'.cells=0):=by omega);simp[Instr.fieldAt,run_underlying q,g,Instr.sureAddr,fieldPlace,I.sizeOf,a,Addr.add_lit,i]
theorem Cj{o:Bool}(h:AU P (.list o e) (.inl t)=ka):∃g,P.underlying t=kd (.slice g)/\AU P e (.inl g)=ka/\0<e.cells:=by simp[AU]at h;grind
theorem PL(h:AU P (.arr n e) (.inl t)=ka):∃g,P.underlying t=kd (.array n g)/\AU P e (.inl g)=ka/\0<e.cells:=by simp[AU]at h;grind
theorem a4Z(τ:Ty):∀rd,Fq τ.sh rd=Fq τ rd:=by induction τ with|pair a b iha ihb=>simp_all[Ty.sh,Fq,Ty.sU]|arr n t h=>simp_all[Ty.sh,Fq,Ty.sU]|list o t _=>intro rd;rfl|nl t _=>simp_all[Ty.sh,Fq]|_=>intro rd;rfl
theorem Gl{P:Program}:∀(τ:Ty)(s:TypeId ⊕ (List Field×Nat)),AU P τ.sh s=AU P τ s:=by(have c:=a4Z;have k:∀τ:Ty,τ.sh.isAgg=τ.isAgg:=by intro τ;cases τ<;>rfl);(have hb:∀(τ:Ty) t,LC P τ.sh t=LC P τ t:=by simp_all[LC,Ty.sU]);intro τ;induction τ with|pair a b iha ihb=>(intro s;cases s with|inl t=>grind[Ty.sh,AU,Ty.sU]|inr p=>have⟨g,f⟩:=p;cases g<;>simp only[Ty.sh,AU,iha,ihb,Ty.sU])|list o t h=>grind[Ty.sh,AU,Ty.sU]|nl t h=>grind[Ty.sh,AU,Ty.sU]|arr n t h=>grind[Ty.sh,AU,Ty.sU]|_=>intro s;rfl
def AJ(a:Act):Nat->Value:=λi=>a.tmps.getD i undef
def Cw(N:Nat):Operand->Bool|.tmp t=>A3 (t<N)|_=>ka
def fits(N:Nat)(o:Oper):Bool:=o.op.operands.toList.all (Cw N)&&(match o.dst with|some d=>A3 (d<N)|none=>ka)
def a8h(P:Program)(τ:Ty)(t:TypeId):Prop:=∀(m:Es) Sh (x y:τ.sI) u v w xo yo,CK m Sh τ x u->CK m Sh τ y v->((eqGuard .eql t xo yo u v).run P w=.ok () w/\(binOp .eql t u v).run P w=.ok (.bool (Xm τ x y)) w)/\((eqGuard .neq t xo yo u v).run P w=.ok () w/\(binOp .neq t u v).run P w=.ok (.bool (!Xm τ x y)) w)
structure CxTy (P:Program) (cx:Cx):Prop where
 T:∀t τ,cx.T t=kd τ->τ.sh=τ/\AU P τ (.inl t)=ka

 Q:∀t,cx.Q t=ka->∃e,P.underlying t=kd (.pointer e)
 E:∀t τ,cx.E t=ka->cx.T t=kd τ->τ.isAgg=ka->a8h P τ t
theorem Vg{a:Act}{d:Nat}{v:Value}(i:Nat)(hi:i<a.tmps.size):AJ (a.put (kd d) v) i=if i=d then v else AJ a i:=by simp[AJ,Act.put];grind
theorem Vh{a:Act}{d:Option Nat}{v:Value}:(a.put d v).tmps.size=a.tmps.size:=by cases d<;>simp[Act.put]
theorem Tq{a:Act}{d:Option Nat}{v:Value}:(a.put d v).defers=a.defers:=by cases d<;>rfl
section
variable {P:Program} {B:Base} {N:Nat} {Z:Type} {U:AE} {a:Act} {w:World} {M:Gh}
theorem sH.sJ(h:sH B U N (AJ a) w M){x:Operand}(k:Cw N x=ka):AA (Ag w M.ov) M.g U.rt (Bh B w M) (U.sJ x) (a.eval x):=by cases x with|tmp t=>(simp[Cw]at k;have:=h.slots t k;simp[AE.sJ,AE.get];revert this;cases U.sl t with|one v=>(exact λh=>h)|cmp c b=>exact λ_=>trivial)|const v=>simp[AE.sJ,Act.eval];unfold WL;split;exact AA.tF _;exact AA.tC _;exact AA.vV _;rfl;rfl;trivial|global g=>rfl|func f=>trivial
theorem sH.uL(h:sH B U N (AJ a) w M)(f:a.tmps.size=N){sv:SV}(hv:d<N->Yj (Ag w M.ov) M.g U.rt (Bh B w M) sv v):sH B (U.put d sv) N (AJ (a.put (kd d) v)) w M:=h.put hv λi k=>Vg i (by omega)
def AW(P:Program)(B:Base)(N:Nat)(o:Oper)(a:Act)(w:World)(K:AE->Rs Z)(z:Z):Prop:=∃v w' U' M',((execOp a.eval o).run P w=.ok (.value v) w'\/((execOp a.eval o).run P w=.ok .skip w'/\v=undef))/\sH B U' N (AJ (a.put o.dst v)) w' M'/\K U'=kd z
theorem AW.set{o:Oper}{K:AE->Rs Z}{z:Z}{d:Nat}{v:Value}{w':World}{k:AE}{M':Gh}{av:AV}(e:o.dst=kd d)(c:a.tmps.size=N)(f:(execOp a.eval o).run P w=.ok (.value v) w') (h:sH B k N (AJ a) w' M')(hv:AA (Ag w' M'.ov) M'.g k.rt (Bh B w' M') av v)(b:K (k.set d av)=kd z):AW P B N o a w K z:=⟨v,w',k.set d av,M',.inl f,by rw[e];exact h.uL c (λ_=>hv),b⟩
theorem Bl(h:fits N o=ka):∀x∈o.op.operands.toList,Cw N x=ka:=by simp only[fits,HC,lA]at h;grind
theorem Ah{β:Type}{b:Bool}{x y:Option β}{z:β}(h:(bif b then x else y)=kd z):(b=ka/\x=kd z)\/(b=kc/\y=kd z):=by grind
theorem b1p{o:Oper}{x:Operand}{d:Nat}{cx:Cx}{q:Bool}{K:AE->Rs Z}{z:Z}(j:o.op=.move x)(c:o.dst=kd d)(h:sH B U N (AJ a) w M)(e:a.tmps.size=N)(l:fits N o=ka) (b:Bg cx q o U K=kd z):AW P B N o a w K z:=by(have i:Cw N x=ka:=Bl l x (by simp[j,Op.operands]);have k:(execOp a.eval o).run P w=.ok (.value (a.eval x)) w:=by simp[execOp,j]);simp[Bg,j,c]at b;cases x with|tmp t=>(simp at b;have m:t<N:=by simpa[Cw]using i);exact⟨_,w,_,M,.inl k,by rw[c];exact h.uL e (λ_=>h.slots t m),b⟩|const v=>exact AW.set c e k h (h.sJ i) b|global g=>exact AW.set c e k h (h.sJ i) b|func f=>exact AW.set c e k h (h.sJ i) b
theorem b1q{o:Oper}{c x y:Operand}{d:Nat}{cx:Cx}{q:Bool}{K:AE->Rs Z}{z:Z}(k:o.op=.pick c x y)(l:o.dst=kd d)(h:sH B U N (AJ a) w M)(r:a.tmps.size=N)(i:fits N o=ka)
  (g:Bg cx q o U K=kd z):AW P B N o a w K z:=by
 have j:=h.sJ (Bl i c (by simp[k,Op.operands]));have m:=h.sJ (Bl i x (by simp[k,Op.operands]));have p:=h.sJ (Bl i y (by simp[k,Op.operands]));simp[Bg,k,l,a1E]at g;split at g
 ·rename_i b e;rw[e]at j;have A:=AA.bool j;have f:(execOp a.eval o).run P w=.ok (.value (if b then a.eval x else a.eval y)) w:=by simp_all[execOp,asBool]
  split at g;rename_i u v C D;rw[C]at m;rw[D]at p;refine AW.set l r f h ?_ g;rw[AA.bool m,AA.bool p];cases b<;>exact AA.tC _
  ·rcases Ah g with⟨rfl,g⟩|⟨-,g⟩;all_goals grind[AW.set]
  ·rcases Ah g with⟨-,g⟩|⟨rfl,g⟩;all_goals grind[AW.set]
  simp_all
 simp_all
theorem a0v{o:Oper}{x:Operand}{d:Nat}{cx:Cx}{q:Bool}{K:AE->Rs Z}{z:Z}(f:o.op=.nilCheck x)(j:o.dst=kd d)(h:sH B U N (AJ a) w M)(m:a.tmps.size=N)(A:fits N o=ka) (c:Bg cx q o U K=kd z):AW P B N o a w K z:=by have k:=h.sJ (Bl A x (by simp[f,Op.operands]));simp[Bg,f,j]at c;split at c;rename_i n p l;rw[l]at k;have⟨r,t,b,g,e,i,u⟩:=k;exact AW.set j m (v:=.pointer (kd ⟨b,g,ke⟩)) (by simp[execOp,f,u]) h (show AA _ _ _ _ (.ptr n p) _ from⟨r,t,b,g,e,i,rfl⟩) c;rename_i t y l;rw[l]at k;have⟨b,g,R,e,i⟩:=k;exact AW.set j m (v:=.pointer (kd ⟨b,g,ke⟩)) (by simp[execOp,f,e]) h (show AA _ _ _ _ (.vptr t y) _ from⟨b,g,R,rfl,i⟩) c;simp_all
theorem a3e{o:Oper}{t:Nat}{i d:Nat}{cx:Cx}{q:Bool}{K:AE->Rs Z}{z:Z}(c:o.op=.extract (.tmp t) i)(b:o.dst=kd d)(h:sH B U N (AJ a) w M)(r:a.tmps.size=N)(x:fits N o=ka) (g:Bg cx q o U K=kd z):AW P B N o a w K z:=by(have y:t<N:=by have:=Bl x (.tmp t) (by simp[c,Op.operands]);simpa[Cw]using this);have e:=h.slots t y;simp[Bg,c,b]at g;split at g;rename_i D k;rw[k]at e;have⟨f,j,m⟩:=e;split at g;rename_i v A;have⟨u,C,p⟩:=m i v A;refine AW.set b r (v:=u) ?_ h p g;have l:a.eval (.tmp t)=.tuple f:=j;simp_all[execOp,Instr.extract];simp_all;simp_all
theorem b1r{o:Oper}{m:UnOp}{ty:TypeId}{x:Operand}{d:Nat}{cx:Cx}{q:Bool}{K:AE->Rs Z}{z:Z}(c:o.op=.unOp m ty x)(i:o.dst=kd d)(h:sH B U N (AJ a) w M)(j:a.tmps.size=N)(l:fits N o=ka) (e:Bg cx q o U K=kd z):AW P B N o a w K z:=by have g:=h.sJ (Bl l x (by simp[c,Op.operands]));simp only[Bg,c,i,AE.un]at e;split at e;rename_i b f;rw[f]at g;exact AW.set i j (by simp[execOp,c,AA.bool g,Op.unary]) h (AA.tC _) e;rename_i k n f;rw[f]at g;exact AW.set i j (by simp[execOp,c,AA.int g,Op.unary,Op.intArith]) h (AA.tF _) e;rename_i k n f;rw[f]at g;refine AW.set i j (v:=.int k (bits k .xor (if k.signed then -1 else k.max) n)) ?_ h (AA.tF _) e;simp[execOp,c,AA.int g,Op.unary,Op.intBits,bits];simp_all
theorem a5a{k:IntKind}{x y:Int}{K:AV->Rs Z}{z:Z}{k':IntKind}(b:Zi op=ka\/k=k')(h:UZ op k x y K=kd z):
  ∃av v,K av=kd z/\(∀m g rt Sh,AA m g rt Sh av v)/\∀w,(binOp op t (.int k x) (.int k' y)).run P w=.ok v w:=by
 by_cases hs:Zi op=ka;cases op<;>simp[Zi]at hs;simp[UZ]at h;rcases Ah h with⟨-,h⟩|⟨a,h⟩;grind;refine⟨_,_,h,λ_ _ _ _=>AA.tF _,λw=>?_⟩
 have:¬ y<0:=by simp_all
 simp[binOp,Op.shift,this,AO];simp[UZ]at h;rcases Ah h with⟨-,h⟩|⟨a,h⟩;grind;refine⟨_,_,h,λ_ _ _ _=>AA.tF _,λw=>?_⟩
 have:¬ y<0:=by simp_all
 simp[binOp,Op.shift,this,AR]
 ·have f:k=k':=by simp_all
  subst f;cases op<;>simp[Zi]at hs<;>simp only[UZ]at h
  case add=>exact⟨_,_,h,λ_ _ _ _=>AA.tF _,λw=>by simp[binOp,Op.intArith]⟩
  case sub=>exact⟨_,_,h,λ_ _ _ _=>AA.tF _,λw=>by simp[binOp,Op.intArith]⟩
  case mul=>exact⟨_,_,h,λ_ _ _ _=>AA.tF _,λw=>by simp[binOp,Op.intArith]⟩
  case quo=>
   rcases Ah h with⟨-,h⟩|⟨a,h⟩;grind
   have:¬ y=0:=by simp_all
   exact⟨_,_,h,λ_ _ _ _=>AA.tF _,λw=>by simp_all[binOp,Op.intDiv]⟩
  case rem=>
   rcases Ah h with⟨-,h⟩|⟨a,h⟩;grind
   have:¬ y=0:=by simp_all
   exact⟨_,_,h,λ_ _ _ _=>AA.tF _,λw=>by simp_all[binOp,Op.intDiv]⟩
  case and=>exact⟨_,_,h,λ_ _ _ _=>AA.tF _,λw=>by simp[binOp,Op.intBits,bits]⟩
  case or=>exact⟨_,_,h,λ_ _ _ _=>AA.tF _,λw=>by simp[binOp,Op.intBits,bits]⟩
  case xor=>exact⟨_,_,h,λ_ _ _ _=>AA.tF _,λw=>by simp[binOp,Op.intBits,bits]⟩
  case andNot=>exact⟨_,_,h,λ_ _ _ _=>AA.tF _,λw=>by simp[binOp,Op.intBits,bits]⟩
  case eql=>exact⟨_,_,h,λ_ _ _ _=>AA.tC _,λw=>by simp[binOp,Op.intCmp]⟩
  case neq=>exact⟨_,_,h,λ_ _ _ _=>AA.tC _,λw=>by simp[binOp,Op.intCmp]⟩
  case lss=>exact⟨_,_,h,λ_ _ _ _=>AA.tC _,λw=>by simp[binOp,Op.intCmp]⟩
  case leq=>exact⟨_,_,h,λ_ _ _ _=>AA.tC _,λw=>by simp[binOp,Op.intCmp]⟩
  case gtr=>exact⟨_,_,h,λ_ _ _ _=>AA.tC _,λw=>by simp[binOp,Op.intCmp]⟩
  case geq=>exact⟨_,_,h,λ_ _ _ _=>AA.tC _,λw=>by simp[binOp,Op.intCmp]⟩
theorem b0i{s s':ByteArray}:((s.data.toList.map λb=>(b.toNat:Int))==(s'.data.toList.map λb=>(b.toNat:Int)))=(s.toList==s'.toList):=by have h:s.toList=s.data.toList:=ByteArray.toList_eq s;have g:s'.toList=s'.data.toList:=ByteArray.toList_eq s';rw[h,g,Bool.eq_iff_iff];simp only[beq_iff_eq];grind[List.map_inj_right,UInt8.toNat_inj]
theorem Mj{ty h:TypeId}{x y:Operand}(k:o.op=.binOp op ty x y h)(g:(eqGuard op ty x y (a.eval x) (a.eval y)).run P w=.ok () w)(f:(binOp op ty (a.eval x) (a.eval y)).run P w=.ok v w):(execOp a.eval o).run P w=.ok (.value v) w:=by simp_all[execOp]
theorem b1s(h:BinOp)(t:TypeId)(x y:Operand)(k:IntKind)(n:Int)(v:Value):(eqGuard h t x y (.int k n) v).run P w=.ok () w:=by rw[eqGuard_at_int];rfl
theorem a8i(h:BinOp)(t:TypeId)(x y:Operand)(n:Bool)(v:Value):(eqGuard h t x y (.bool n) v).run P w=.ok () w:=by simp[eqGuard_at_bool]
theorem b1t(h:BinOp)(t:TypeId)(x y:Operand)(n:ByteArray)(v:Value):(eqGuard h t x y (.string n) v).run P w=.ok () w:=by simp[eqGuard_at_string]
theorem WM(h:BinOp)(t:TypeId)(x y:Operand)(n:Option Addr)(v:Value):(eqGuard h t x y (.pointer n) v).run P w=.ok () w:=by simp[eqGuard_at_pointer]
theorem b3K{ty:Nat}{t h:Ty}{u:t.sI}{v:h.sI}{K:AV->Rs Z}(hi:¬ ∃k k',t=.int k/\h=.int k')(hb:¬ (t=.bool/\h=.bool))(g:¬ (t=.str/\h=.str)):Zj cx op ty (.val t u) (.val h v) K=dC cx op ty t u h v K:=by cases t<;>cases h<;>first|rfl|exact absurd ⟨_,_,rfl,rfl⟩ hi|exact absurd ⟨rfl,rfl⟩ hb|simp_all
theorem a3f(n:Nat){ty:TypeId}(h:P.underlying ty=kd .bool)(u v:Bool)(w:World):(Op.equalIn (n+1) ty (.bool u) (.bool v)).run P w=.ok (u==v) w:=by simp[Op.equalIn,run_underlying h]
theorem mP{ty:TypeId}(h:P.underlying ty=kd .bool)(u v:Bool)(w:World):(Op.equal ty (.bool u) (.bool v)).run P w=.ok (u==v) w:=a3f 9999 h u v w
theorem a5b(n:Nat){ty e:TypeId}(g:P.underlying ty=kd (.pointer e))(u v:Option Addr)(h:u=ke\/v=ke)(w:World):(Op.equalIn (n+1) ty (.pointer u) (.pointer v)).run P w=.ok (u.isNone&&v.isNone) w:=by rcases h with rfl|rfl;simp[Op.equalIn,run_underlying g];cases u<;>simp[Op.equalIn,run_underlying g]
theorem a0w(k:Nat){ty e:TypeId}(h:P.underlying ty=kd (.slice e))(A:Option Addr)(n c:Nat)(w:World):(Op.equalIn (k+1) ty (.slice A n c) (.slice ke 0 0)).run P w=.ok A.isNone w:=by cases A<;>simp[Op.equalIn,run_underlying h]
theorem a3g{ty:TypeId}(u v:Bool)(w:World):(binOp .eql ty (.bool u) (.bool v)).run P w=((Op.equal ty (.bool u) (.bool v)).run P w).andThen λb w'=>.ok (.bool b) w':=by simp_all[binOp]
theorem a3h{ty:TypeId}(u v:Bool)(w:World):(binOp .neq ty (.bool u) (.bool v)).run P w=((Op.equal ty (.bool u) (.bool v)).run P w).andThen λb w'=>.ok (.bool !b) w':=by simp_all[binOp]
theorem fS{ty:TypeId}(u v:Option Addr)(w:World):(binOp .eql ty (.pointer u) (.pointer v)).run P w=((Op.equal ty (.pointer u) (.pointer v)).run P w).andThen λb w'=>.ok (.bool b) w':=by simp_all[binOp]
theorem fT{ty:TypeId}(u v:Option Addr)(w:World):(binOp .neq ty (.pointer u) (.pointer v)).run P w=((Op.equal ty (.pointer u) (.pointer v)).run P w).andThen λb w'=>.ok (.bool !b) w':=by simp_all[binOp]
theorem b3L{ty:Nat}{u v:Bool}{K:AV->Rs Z}{z:Z}(f:CxTy P cx)(h:Zj cx op ty (.val .bool u) (.val .bool v) K=kd z):∃r,K (.val .bool r)=kd z/\(binOp op ty (.bool u) (.bool v)).run P w=.ok (.bool r) w:=by(simp only[Zj]at h;split at h;rename_i k;have g:=(f.T ty _ k).2;have a:P.underlying ty=kd .bool:=by simp[AU]at g;grind);split at h;exact⟨_,h,by simp_all[a3g,mP]⟩;exact⟨_,h,by rw[a3h,mP a];rfl⟩;simp_all;simp_all
theorem b7b{ty:Nat}{s s':ByteArray}{m g rt Sh}{K:AV->Rs Z}{z:Z}(h:Zj cx op ty (.val .str (s.data.toList.map λb=>(b.toNat:Int):List Int)) (.val .str (s'.data.toList.map λb=>(b.toNat:Int):List Int)) K=kd z):∃r v,K r=kd z/\AA m g rt Sh r v/\(binOp op ty (.string s) (.string s')).run P w=.ok v w:=by(simp only[Zj]at h;split at h;refine⟨_,_,h,AA.tC _,?_⟩;simp_all[b0i,binOp,Op.stringOp];refine⟨_,_,h,AA.tC _,?_⟩;simp_all[bne,b0i,binOp,Op.stringOp];rcases Ah h with⟨k,h⟩|⟨-,h⟩;have f:s.size+s'.size<2147483648:=by simp_all);refine⟨_,.string (s++s'),h,?_,?_⟩;have:=AA.vV (m:=m) (g:=g) (rt:=rt) (Sh:=Sh) (s++s');simp_all;(have:¬ (9223372036854775807<(s.size:Int)+(s'.size:Int)):=by omega);simp_all[binOp,Op.stringOp];simp_all;simp_all
theorem NE{ty e:TypeId}(g:P.underlying ty=kd (.pointer e))(u v:Option Addr)(h:u=ke\/v=ke)(w:World):(Op.equal ty (.pointer u) (.pointer v)).run P w=.ok (u.isNone&&v.isNone) w:=a5b 9999 g u v h w
theorem CK.header{m Sh}{t:Ty}{l:List t.sI}(h:CK m Sh (.list kc t) l v):∃A n c,v=.slice A n c/\n=l.length/\n<=c/\(∀f,A=kd f->c=0\/f.spot=ke)/\(A=ke->c=0):=by have⟨R,g,b⟩:=h.rd rfl rfl;have g:CW m kc t.cells (AM m t) (kd v)=kd (l,[],R):=g;unfold CW at g;split at g;grind;rename_i A n c a;simp at a;split at g;rename_i d;split at g;grind;rename_i o i j k;have e:=Bb n 0 k;grind;simp_all;simp_all
theorem a8j{P:Program}{o:Bool}(h:AU P (.list o e) (.inl t)=ka):∃g,P.underlying t=kd (.slice g):=by simp[AU]at h;grind
theorem a8k{o:Oper}{op:BinOp}{ty h1:TypeId}{x y:Operand}{d:Nat}{cx:Cx}{q:Bool}{K:AE->Rs Z}{z:Z}(D:CxTy P cx)(i:o.op=.binOp op ty x y h1)(j:o.dst=kd d)
  (h:sH B U N (AJ a) w M)(C:a.tmps.size=N)(hf:fits N o=ka)(g:Bg cx q o U K=kd z):AW P B N o a w K z:=by
 have F:=h.sJ (Bl hf x (by simp[i,Op.operands]));have m:=h.sJ (Bl hf y (by simp[i,Op.operands]));simp[Bg,i,j]at g;rcases Ah g with⟨-,g⟩|⟨-,g⟩
 ·
  split at g
  case h_2=>grind
  rename_i e O;split at g;grind
  ·unfold a8b at O;split at O
   ·rename_i o1 G H l hT S V;simp at O;rw[S]at F;rw[V]at m;obtain⟨A,n,c,hv,hn,h2,-,hA⟩:=CK.header F;have m:a.eval y=.slice ke 0 0:=m;obtain⟨e',R⟩:=a8j (D.T ty _ hT).2;have h3:(Op.equal ty (a.eval x) (a.eval y)).run P w=.ok A.isNone w:=by
     rw[hv,m];exact a0w 9999 R A n c w
    have f:(eqGuard op ty x y (a.eval x) (a.eval y)).run P w=.ok () w:=by simp_all[eqGuard_at_slice]
    have h4:e=kc->A.isNone=kc:=λL=>by
     cases A with
     |some A=>rfl
     |none=>
      grind
    unfold c2d at g;split at g
    ·have I:K (U.set d (.val .bool A.isNone))=kd z:=by
      rcases Ah g with⟨-,g⟩|⟨L,g⟩
      ·obtain⟨z1,z2⟩:=mG g;cases hb:A.isNone;all_goals omega
      grind
     exact AW.set j C (v:=.bool A.isNone) (Mj i f (by
      simp_all[binOp])) h (AA.tC _) I
    ·have I:K (U.set d (.val .bool (!A.isNone)))=kd z:=by
      rcases Ah g with⟨-,g⟩|⟨L,g⟩;all_goals grind[mG]
     exact AW.set j C (v:=.bool (!A.isNone)) (Mj i f (by
      simp_all[binOp])) h (AA.tC _) I
    simp_all
   simp_all
 revert g F m;cases S:U.sJ x<;>cases V:U.sJ y<;>intro F m g
 case val.val t u t' v=>
  by_cases hint:∃k k',t=.int k/\t'=.int k';obtain⟨k,k',rfl,rfl⟩:=hint;simp only[Zj]at g;split at g;rename_i hk;obtain⟨av,rv,I,h0,X⟩:=a5a (P:=P) (t:=ty) (k':=k') (by simp_all) g;have G:=AA.int F;have H:=AA.int m;exact AW.set j C (Mj i (by grind[b1s]) (by simp_all)) h (h0 _ _ _ _) I;simp_all;by_cases hb:t=.bool/\t'=.bool;obtain⟨rfl,rfl⟩:=hb;have G:=AA.bool F;have H:=AA.bool m;obtain⟨r,I,hr⟩:=b3L (P:=P) (w:=w) D g;exact AW.set j C (Mj i (by grind[a8i]) (by simp_all)) h (AA.tC _) I;by_cases hs:t=.str/\t'=.str;obtain⟨rfl,rfl⟩:=hs;obtain⟨s,G,rfl⟩:=AA.str F;obtain⟨s',H,rfl⟩:=AA.str m;obtain⟨r,rv,I,X,hr⟩:=b7b (P:=P) (w:=w) g;exact AW.set j C (Mj i (by simp_all[b1t]) (by simp_all)) h X I;rw[b3K hint hb hs]at g;unfold dC at g;split at g;rename_i ht;subst ht;rcases Ah g with⟨hc,g⟩|⟨-,g⟩;simp at hc;have L:=D.E ty _ hc.1.1 hc.2 hc.1.2 (Ag w M.ov) (Bh B w M) u v (a.eval x) (a.eval y) w x y F m;split at g;exact AW.set j C (Mj i L.1.1 L.1.2) h (AA.tC _) g;exact AW.set j C (Mj i L.2.1 L.2.2) h (AA.tC _) g;simp_all;simp_all;simp_all
 case nilp.nilp=>
  simp only[Zj]at g;split at g;rename_i hp;obtain⟨e,R⟩:=D.Q ty hp;have G:a.eval x=.pointer ke:=F;have H:a.eval y=.pointer ke:=m;split at g;exact AW.set j C (v:=.bool ka) (Mj i (by simp_all[WM]) (by rw[G,H,fS,NE R ke ke (.inl rfl)];rfl)) h (AA.tC _) g;exact AW.set j C (v:=.bool kc) (Mj i (by simp_all[WM]) (by rw[G,H,fT,NE R ke ke (.inl rfl)];rfl)) h (AA.tC _) g;simp_all;simp_all
 case ptr.nilp n p=>
  simp only[Zj]at g;split at g;rename_i hp;obtain⟨e,R⟩:=D.Q ty hp;obtain⟨r,t,b,Y,-,-,G⟩:=F;have H:a.eval y=.pointer ke:=m;split at g;exact AW.set j C (v:=.bool kc) (Mj i (by simp_all[WM]) (by rw[G,H,fS,NE R (kd ⟨b,Y,ke⟩) ke (.inr rfl)];rfl)) h (AA.tC _) g;exact AW.set j C (v:=.bool ka) (Mj i (by simp_all[WM]) (by rw[G,H,fT,NE R (kd ⟨b,Y,ke⟩) ke (.inr rfl)];rfl)) h (AA.tC _) g;simp_all;simp_all
 all_goals (simp only[Zj]at g;cases g)
end
theorem Gm{A:Addr}(h:A.spot=ke)(k:Nat):A.add k=⟨A.block,A.off+k,ke⟩:=by have⟨b,o,s⟩:=A;simp_all[Addr.add_lit]
theorem PN{t:Ty}{rd:Nat->Option Value}{x O R}(k:t.tK=t)(h:AM m t rd=kd (x,O,R)):O=[]:=by obtain⟨g,f,-⟩:=Zn t h;grind
theorem WN{l:List α}{x:α}(h:Ax l i=kd x):0<=i/\i.toNat<l.length/\l[i.toNat]?=kd x:=by grind[Ax]
theorem CK.elem{m Sh}{t:Ty}{l:List t.sI}(o:t.sh=t)(h:CK m Sh (.list kc t) l v){i:Nat}{x:t.sI}(q:l[i]?=kd x):∃A n c R,v=.slice (kd A) n c/\A.spot=ke/\n=l.length/\n<=c/\AM m t ((Src.at A.block (A.off+i*t.cells)).rd m)=kd (x,[],R)/\Sh A.block/\∀b∈R,Sh b:=by(have⟨R,g,B⟩:=h.rd rfl rfl;have g:CW m kc t.cells (AM m t) (kd v)=kd (l,[],R):=g;unfold CW at g;split at g;simp_all;rename_i A n c p;simp at p;split at g;rename_i C;split at g;grind;rename_i K G I f;simp[mL]at f;have D:=Bb n 0 f;simp at g;split at g;simp_all;simp only[sj,pJ]at g;obtain⟨rfl,-,rfl⟩:=g;have j:i<n:=by grind);have⟨y,F,H,r,u,d,e,a,k,w,z⟩:=Bc n 0 i f j;rw[q]at k;simp at k;subst k;simp at a;have E:=PN (Ty.uW t o) a;grind;simp_all;simp_all
theorem CK.window{m Sh}{t:Ty}{l:List t.sI}{A:Option Addr}{lo hi:Nat}(h:CK m Sh (.list kc t) l (.slice A n c))(Z:lo<=hi)(h2:hi<=n){d:Option Addr}(D:d=if c=lo then A else A.map λa=>a.add (lo*t.cells)):CK m Sh (.list kc t) ((l.take hi).drop lo) (.slice d (hi-lo) (c-lo)):=by
 have⟨U,n0,V,z,L,r,j,E⟩:=h.header;simp at z;obtain⟨rfl,rfl,rfl⟩:=z;have o:∀B,d=kd B->c-lo=0\/B.spot=ke:=by intro B p;rw[D]at p;split at p;omega;cases A with|none=>simp_all|some a=>simp at p;rw[<-p,Gm ((j a rfl).resolve_left (by omega))];simp
 by_cases he:lo=hi;subst he;have e:(l.take lo).drop lo=[]:=by simp
 rw[e];refine CK.one (t:=.list kc t) (R:=[]) rfl rfl ?_ (by simp) rfl;show CW m kc t.cells (AM m t) (kd (.slice d (lo-lo) (c-lo)))=_;cases d with|none=>(have u:c-lo=0:=by split at D;omega;cases A with|none=>grind|some a=>simp_all);simp[CW,u];rfl|some B=>have M:=o B rfl;simp[CW,M,Ao];rfl
 have⟨R,f,I⟩:=h.rd rfl rfl;have f:CW m kc t.cells (AM m t) (kd (.slice A n c))=kd (l,[],R):=f;cases A with|none=>simp_all|some a=>have w:=(j a rfl).resolve_left (by omega);simp only[CW,mL]at f;rw[if_pos ⟨.inr w,r⟩]at f;split at f;grind;(rename_i F os rs C;have K:n≠0:=by omega);(simp only[C8,if_false,K]at f;simp only[sj,pJ]at f;obtain⟨rfl,-,rfl⟩:=f;have q:d=kd ⟨a.block,a.off+lo*t.cells,ke⟩:=by grind[Gm]);(subst q;rw[show n=lo+((hi-lo)+(n-hi))from by omega]at C;obtain⟨N,Q,O,S,X,G,rfl,rfl⟩:=Gk lo _ 0 C;obtain⟨x,y,P,T,H,Y,rfl,rfl⟩:=Gk (hi-lo) _ (0+lo) G;have g:∀(k i:Nat),Ao (λi=>AM m t ((Src.at a.block (a.off+lo*t.cells+i*t.cells)).rd m)) k i=Ao (λi=>AM m t ((Src.at a.block (a.off+i*t.cells)).rd m)) k (lo+i):=by intro k;induction k with|zero=>intro i;rfl|succ k ih=>grind[Ao]);(refine CK.one (t:=.list kc t) (R:=a.block::(x.map (·.1)++y)) rfl rfl ?_ (λb hb=>I b ?_) rfl;show CW m kc t.cells (AM m t) (kd (.slice (kd ⟨a.block,a.off+lo*t.cells,ke⟩) (hi-lo) (c-lo)))=_;simp only[CW,mL];rw[if_pos ⟨.inr trivial,by omega⟩,g,show lo+0=0+lo from by omega,H];have v:¬ (hi-lo=0):=by omega);(have e:C9 (hi-lo) (D2 lo F)=D2 lo (C9 hi F):=by rw[D8]);simp[v,e];rfl;grind
section
variable {P:Program} {B:Base} {N:Nat} {Z:Type} {U:AE} {a:Act} {w:World} {M:Gh}
theorem dJ{n p}{K:(e:Ty)->List e.sI->Rs Z}{z:Z}(h:U.body n p K=kd z):∃r e l,U.pd=ke/\U.rt n=kd r/\CQ r.t r.x p=⟨.list ka e,l⟩/\K e l=kd z:=by grind[AE.body,AY]
theorem a8l{n p}{K:(e:Ty)->List e.sI->Rs Z}{z:Z}(h:U.wX n p K=kd z):∃r e l,U.rt n=kd r/\CQ r.t r.x p=⟨.list ka e,l⟩/\K e l=kd z:=by unfold AE.wX at h;split at h;rename_i r f;split at h;rename_i e l g;exact⟨r,e,l,f,g,h⟩;cases h;cases h
theorem PC{f:Nat}{lo hi:Option Operand}{K:Nat->Nat->Rs Z}{z:Z}(h:sH B U N (AJ a) w M)(C:∀x,lo=kd x->Cw N x=ka)(A:∀x,hi=kd x->Cw N x=ka) (g:U.uT f lo hi K=kd z):∃x y,K x y=kd z/\x<=y/\y<=f/\(lo=ke->x=0)/\(hi=ke->y=f)/\∀s b,f<=b->(Instr.sliceBounds s f b (lo.map a.eval) (hi.map a.eval) ke).run P w=.ok (x,y,b) w:=by(have r:∀{m d:Nat}{o:Option Operand}{v:Nat->Rs Z}{z:Z},(∀x,o=kd x->Cw N x=ka)->d<=m->U.bnd m d o v=kd z->∃y,v y=kd z/\y<=m/\(o=ke->y=d)/\(∀x,o=kd x->∃k,a.eval x=.int k (y:Int)):=by intro m d o v z D L g;unfold AE.bnd at g;cases o with|none=>simp_all|some o=>simp only at g;have D:=h.sJ (D o rfl);split at g;rename_i k y u;rw[u]at D;rcases Ah g with⟨G,g⟩|⟨-,g⟩;simp at G;refine⟨y.toNat,g,by omega,by simp,?_⟩;rintro x ⟨⟩;exact⟨k,by grind[AA.int]⟩;simp_all;simp_all);(unfold AE.uT at g;have⟨y,g,E,q,F⟩:=r A (C0 _) g;have⟨x,g,p,i,l⟩:=r C (Nat.zero_le _) g;refine⟨x,y,g,p,E,i,q,λs b e=>?_⟩;have hb:∀(n m:Nat) k c,n<=m->(Instr.sliceBound (.int k (n:Int)) m c).run P w=.ok n w:=λn m k c H=>by simp_all[Instr.sliceBound,asIntOf]);cases hi with|none=>(have:=q rfl;subst this;cases lo with|none=>have:=i rfl;simp_all[Instr.sliceBounds]|some o=>have⟨k,u⟩:=l o rfl;simp_all[Instr.sliceBounds])|some I=>have⟨O,j⟩:=F I rfl;cases lo with|none=>have:=i rfl;subst this;simp[Instr.sliceBounds,j,hb _ _ _ _ (B4 E e)]|some o=>have⟨k,u⟩:=l o rfl;simp[Instr.sliceBounds,u,j,hb _ _ _ _ p,hb _ _ _ _ (B4 E e)]
theorem sH.uX(h:sH B U N (AJ a) w M){n p v r}(d:AA (Ag w M.ov) M.g U.rt (Bh B w M) (.sref n p) v)(j:U.rt n=kd r)(i:CQ r.t r.x p=⟨.list ka e,l⟩):∃s A c,loc (Ag w M.ov) r.t (M.g n) p=kd (.list ka e,s)/\s.rd (Ag w M.ov) 0=kd v/\v=.slice A l.length c/\l.length<=c/\(∀k,A=kd k->c=0\/k.spot=ke)/\(A=ke->c=0):=by have⟨s,m,o,q,u,y,b,z,C⟩:=h.slice d j i;refine⟨s,?_⟩;rcases Da b with⟨f,rfl,-⟩|⟨A,G,c,H,f,D,E,F,-⟩;simp[Src.rd]at f;grind;simp[Src.rd]at f;grind[Bb]
theorem Su{A:Option Addr}{x y:Nat}{lo hi:Option Value}(h:P.underlying t=kd (.slice t'))(I:vF P e t')(hb:(Instr.sliceBounds ka n c lo hi ke).run P w=.ok (x,y,c) w):(Instr.sliceAt t (.slice A n c) lo hi ke).run P w=.ok (.slice (if c=x then A else A.map λa=>a.add (x*e.cells)) (y-x) (c-x)) w:=by simp[Instr.sliceAt,Instr.slice,run_underlying h,hb,I.sizeOf]
theorem a3i{ty:Option Ty}{v:AV}{K:AV->Rs Z}{z:Z}(h:lF ty v K=kd z):∃o e,ty=kd (.list o e)/\K .empt=kd z/\((∃o t l,v=.val (.list o t) l)\/v=.nils\/v=.empt\/(∃n p,v=.sref n p)\/∃n p o k,v=.swin n p o k):=by unfold lF at h;grind
theorem a8m{o:Oper}{t:TypeId}{x:Operand}{lo hi mx:Option Operand}{d:Nat}{cx:Cx}{q:Bool}{K:AE->Rs Z}{z:Z}(S:CxTy P cx)(ho:o.op=.slice t x lo hi mx)(hd:o.dst=kd d)
  (h:sH B U N (AJ a) w M)(hN:a.tmps.size=N)(hf:fits N o=ka)(C:Bg cx q o U K=kd z):AW P B N o a w K z:=by
 have h9:∀y∈(o.op.operands.toList),Cw N y=ka:=Bl hf;rw[ho]at h9;have E:=h.sJ (h9 x (by simp[Op.operands]));have h5:∀y,lo=kd y->Cw N y=ka:=by rintro y rfl;simp_all[Op.operands]
 have h0:∀y,hi=kd y->Cw N y=ka:=by rintro y rfl;simp_all[Op.operands]
 have O:∀v,(Instr.sliceAt t (a.eval x) (lo.map a.eval) (hi.map a.eval) (mx.map a.eval)).run P w=.ok v w->(execOp a.eval o).run P w=.ok (.value v) w:=λv G=>by simp[execOp,ho,G]
 simp[Bg,ho,hd,AE.wU]at C;cases mx with
 |some m=>
  simp only at C;rcases Ah C with⟨hc,k8⟩|⟨-,C⟩;simp at hc;obtain⟨⟨hm,hh⟩,rfl⟩:=hc;clear C;have h8:∀y:Option Operand,dD y=ka->∃k,y.map a.eval=kd (.int k 0):=by
   intro y hy;unfold dD at hy;split at hy;rename_i k;exact⟨k,rfl⟩;simp_all
  obtain⟨km,em⟩:=h8 _ hm;obtain⟨kh,eh⟩:=h8 _ hh;obtain⟨o1,e1,Y,C,k0⟩:=a3i k8;obtain⟨h7,u⟩:=S.T t _ Y;obtain⟨t',X,f,-⟩:=Cj u;obtain⟨I⟩:=AL (AZ f);have k9:∀(A:Option Addr) n c,a.eval x=.slice A n c->AW P B N o a w K z:=by
   intro A n c G;have g9:(Instr.sliceBounds ka n c ke (hi.map a.eval) (kd (.int km 0))).run P w=.ok (0,0,0) w:=by
    rw[eh];rfl
   refine AW.set hd hN (v:=.slice A 0 0) (O _ ?_) h (av:=.empt) ⟨A,rfl⟩ C;rw[G,em];simp[Instr.sliceAt,Instr.slice,run_underlying X,g9,I.sizeOf]
  rcases k0 with⟨o2,e2,l2,F⟩|F|F|⟨n,p,F⟩|⟨n,p,D,k,F⟩;rw[F]at E;have E:CK (Ag w M.ov) (Bh B w M) (.list o2 e2) l2 (a.eval x):=E;obtain⟨R,Q,h2⟩:=E.rd rfl rfl;have Q:CW (Ag w M.ov) o2 e2.cells (AM (Ag w M.ov) e2) (kd (a.eval x))=kd (l2,[],R):=Q;unfold CW at Q;grind;rw[F]at E;exact k9 ke 0 0 E;rw[F]at E;obtain⟨A,G⟩:=E;simp_all;rw[F]at E;obtain⟨r,e,s,Q,h2,h3⟩:=E;obtain⟨O',R,g1,g2,-⟩:=h.sep Q;obtain⟨y,O1,R1,_,_,_,_,g3,g4,-⟩:=Cd _ r.t _ g1 h2;obtain⟨s',A,c,-,-,G,-,hA,-⟩:=h.uX ⟨r,e,s,Q,h2,h3⟩ Q g4;simp_all;rw[F]at E;obtain⟨r,e,s,a0,l0,c0,Q,h2,h3,h4,a',G,hA,-⟩:=E;simp_all;simp_all
 |none=>
  simp only at C;split at C
  
  rename_i l F;rw[F]at E;obtain⟨s,G,hl⟩:=AA.str E;split at C;rename_i Y;have u:=(S.T t _ Y).2;have X:P.underlying t=kd .string:=by
   simp[AU]at u;grind
  obtain⟨H,y',hK,Q,h2,-,-,hb⟩:=PC h h5 h0 C;have k6:l.length=s.size:=by simp_all
  refine AW.set hd hN (v:=.string (s.extract H y')) (O _ ?_) h ?_ hK;rw[G];have k4:(Instr.sliceBounds kc s.size s.size (lo.map a.eval) (hi.map a.eval) ke).run P w=.ok (H,y',s.size) w:=by
   have:=hb kc s.size (by omega)
   rw[<-k6]at this|-;omega
  simp
  simp[Instr.sliceAt,Instr.slice,run_underlying X,k4]
  have:=AA.vV (m:=Ag w M.ov) (g:=M.g) (rt:=U.rt) (Sh:=Bh B w M) (s.extract H y')
  simp_all[D8];simp_all
  
  rename_i e l F;rw[F]at E;split at C;rename_i Y;obtain⟨h7,u⟩:=S.T t _ Y;obtain⟨t',X,f,-⟩:=Cj u;obtain⟨I⟩:=AL (AZ f);obtain⟨H,y',hK,Q,h2,-,-,hb⟩:=PC h h5 h0 C;obtain⟨A,n,c,G,hn,hc,hA,k2⟩:=CK.header E;have k7:CK (Ag w M.ov) (Bh B w M) (.list kc e) l (.slice A n c):=by rw[<-G];exact E
  refine AW.set hd hN (O _ (by rw[G];exact Su X I (by rw[hn];exact hb ka c (by omega)))) h ?_ hK;exact CK.window k7 Q (by omega) rfl;simp_all
  
  rename_i F;rw[F]at E;split at C;rename_i o1 e1 Y;obtain⟨h7,u⟩:=S.T t _ Y;obtain⟨t',X,f,-⟩:=Cj u;obtain⟨I⟩:=AL (AZ f);obtain⟨H,y',hK,Q,h2,-,-,hb⟩:=PC h h5 h0 C;obtain rfl:y'=0:=by omega
  obtain rfl:H=0:=by omega
  have G:a.eval x=.slice ke 0 0:=E;refine AW.set hd hN (v:=.slice ke 0 0) (O _ ?_) h (av:=.nils) rfl hK;rw[G,Option.map_none]
  have:=Su (A:=ke) X I (hb ka 0 (by omega))
  simp_all;simp_all
  ·
   rename_i n p F;rw[F]at E;obtain⟨r,e,l,k5,hr,hg,C⟩:=dJ C;split at C
   ·rename_i Y;obtain⟨h7,u⟩:=S.T t _ Y;obtain⟨t',X,f,-⟩:=Cj u;rw[Gl]at f;obtain⟨I⟩:=AL (AZ f);obtain⟨s,A,c,g1,g2,G,g3,hA,k2⟩:=h.uX E hr hg;split at C;refine AW.set hd hN (v:=a.eval x) (O _ ?_) h E C;rw[G];have hb:(Instr.sliceBounds ka l.length c ke ke ke).run P w=.ok (0,l.length,c) w:=by rfl
    have:=Su (A:=A) X I hb
    simp_all[Addr.add_zero']
    ·obtain⟨H,y',hK,Q,h2,-,-,hb⟩:=PC h h5 h0 C;refine AW.set hd hN (O _ (by rw[G];exact Su X I (hb ka c g3))) h (av:=.swin n p H (y'-H)) ?_ hK;refine⟨r,e,s,A,l.length,c,hr,g1,by simp_all,by omega,_,rfl,?_,?_⟩
     ·intro A' g0;split at g0;omega
      ·cases A with
       |none=>simp_all
       |some a0=>
        simp at g0;rw[<-g0,Gm ((hA a0 rfl).resolve_left (by omega))]
        simp
     grind
   simp_all
  ·
   rename_i n p D k F;rw[F]at E;obtain⟨r,e,l,k5,hr,hg,C⟩:=dJ C;split at C
   ·rename_i Y;obtain⟨h7,u⟩:=S.T t _ Y;obtain⟨t',X,f,-⟩:=Cj u;rw[Gl]at f;obtain⟨I⟩:=AL (AZ f);obtain⟨s,O',R',A,n0,c,g1,g2,g3,g4,g5,g6,A',G,g7,g8⟩:=h.window E hr hg;obtain⟨H,y',hK,Q,h2,-,-,hb⟩:=PC h h5 h0 C;have a4:n0<=c:=by
     rcases Da g3 with⟨L,-⟩|⟨A0,nn,c',os,L,-,a3,-⟩<;>simp only[Src.rd,if_true,sj,Value.slice.injEq]at L<;>omega
    refine AW.set hd hN (O _ (by rw[G];exact Su X I (hb ka (c-D) (by omega)))) h (av:=.swin n p (D+H) (y'-H)) ?_ hK;refine⟨r,e,s,A,n0,c,hr,g1,g2,by omega,_,by rw[show c-(D+H)=c-D-H from by omega],?_,?_⟩
    ·intro a2 h6;split at h6;omega
     ·cases A' with
      |none=>simp_all
      |some a0=>
       simp at h6;rw[<-h6,Gm ((g7 a0 rfl).resolve_left (by omega))]
       simp
    ·by_cases hcc:c-D=H;omega
     ·refine .inr ?_
      rw[if_neg hcc];rcases g8 with g8|g8;omega
      ·rw[g8];cases A with
       |none=>rfl
       |some a0=>
        have k3:a0.spot=ke:=by
         rcases Da g3 with⟨L,-⟩|⟨A0,nn,c',os,L,a5,-⟩;simp[Src.rd]at L;simp[Src.rd]at L;grind
        simp only[Option.map_some,Gm k3];rw[Gm rfl];grind
   simp_all
  
  rename_i k e l F;rw[F]at E;split at C;rename_i Y;obtain⟨h7,u⟩:=S.T t _ Y;obtain⟨t',X,f,-⟩:=PL u;obtain⟨I⟩:=AL (AZ f);obtain⟨H,y',hK,Q,h2,-,-,hb⟩:=PC h h5 h0 C;obtain⟨b,D,R,G,V,hS,hR⟩:=E;have L:CK (Ag w M.ov) (Bh B w M) (.list kc e) l (.slice (kd ⟨b,D,ke⟩) k k):=by
   have V:Ao (λi=>AM (Ag w M.ov) e λj=>(Src.at b D).rd (Ag w M.ov) (i*e.cells+j)) k 0=kd (l,[],R):=V;have k1:=Bb k 0 V;by_cases hk:k=0;subst hk;refine CK.one (t:=.list kc e) (R:=[]) rfl rfl ?_ (by simp) rfl
   have:l=[]:=C5.1 k1
   subst this;rfl;refine CK.one (t:=.list kc e) (R:=b::R) rfl rfl ?_ (λc hc=>?_) rfl;show CW _ kc e.cells _ (kd (.slice (kd ⟨b,D,ke⟩) k k))=_;simp only[CW];rw[if_pos ⟨.inr trivial,C0 _⟩];have e2:Ao (λi=>AM (Ag w M.ov) e λj=>Ag w M.ov b (D+(i*e.cells+j))) k 0=kd (l,[],R):=V;rw[e2];simp only[C8,if_false,hk];rfl;grind
  refine AW.set hd hN (v:=.slice (kd (if k=H then⟨b,D,ke⟩else(⟨b,D,ke⟩:Addr).add (H*e.cells))) (y'-H) (k-H)) (O _ ?_) h ?_ hK
  rw[G];have g9:=hb kc k (C0 _)
  simp
  simp[Instr.sliceAt,run_underlying X,Instr.sureAddr];rw[g9];simp[I.sizeOf];exact CK.window L Q (by omega) (by grind);simp_all;simp_all
@[reducible] def Xn:=Nat->Option ((t:Ty)×t.sI)
def Ym(G:Xn)(B:Base):Prop:=∀g t x,G g=kd ⟨t,x⟩->g<B.size/\B.S g/\¬ B.F g/\∃w0:World,w0.heap[g]?=B.hp g/\AM (Ag w0 ke) t ((Src.at g 0).rd (Ag w0 ke))=kd (x,[],[])
theorem sH.tX{tm:Nat->Value}{cx:Cx}(h:sH B U N tm w M)(D:Ym cx.G B){av:AV}{v:Value}(a:AA (Ag w M.ov) M.g U.rt (Bh B w M) av v):
  AA (Ag w M.ov) M.g U.rt (Bh B w M) (cx.tX av) v:=by
 cases av with
 |tX g=>
  simp[Cx.tX];split
  ·rename_i t x E;have⟨l,m,y,i,z,A⟩:=D g t x E;have f:¬ BP M g:=λI=>by
    rcases h.mine _ I with q|q;all_goals grind
   have F:=h.size;refine⟨g,0,[],a,AI t A (λj _=>?_) (by simp),⟨by omega,.inl m,f⟩,by simp⟩;show Ag w M.ov g (0+j)=Ag i ke g (0+j);have C:Ag w ke g (0+j)=Ag i ke g (0+j):=BV ke ((h.frame g l y).trans z.symm) _;rw[<-C];cases hov:M.ov with
   |none=>rfl
   |some K=>
    have⟨b,o,u⟩:=K;have k:=h.pend;rw[hov]at k;cases hpd:U.pd with
    |none=>rw[hpd]at k;exact k.elim
    |some p=>
     have⟨n,p,d⟩:=p;rw[hpd]at k;have⟨r,e,L,c⟩:=k;rw[<-hov]at c;have hb:=h.place L c;have H:¬ (g=b/\0+j=o):=λO=>f ⟨n,by simp_all⟩;simp_all[Ag]
  trivial
 |_=>exact a
theorem Vi{A:Addr}{k:IntKind}(b:P.underlying t=kd (.slice t'))(I:vF P e t')(f:A.spot=ke)(h:0<=i)(g:i<n):(Instr.indexAt t (.slice (kd A) n c) (.int k i)).run P w=.ok (.pointer (kd ⟨A.block,A.off+i.toNat*e.cells,ke⟩)) w:=by have a:0<=i/\i<(n:Int):=⟨h,g⟩;simp[Instr.indexAt,run_underlying b,asIntOf,a,I.sizeOf,Gm f]
theorem Vj{o:Nat}{k:IntKind}(a:P.underlying t=kd (.array n t'))(I:vF P e t')(h:0<=i)(g:i<n):(Instr.indexAt t (.pointer (kd ⟨b,o,ke⟩)) (.int k i)).run P w=.ok (.pointer (kd ⟨b,o+i.toNat*e.cells,ke⟩)) w:=by have f:0<=i/\i<(n:Int):=⟨h,g⟩;simp[Instr.indexAt,run_underlying a,asIntOf,f,I.sizeOf,Instr.sureAddr,Addr.add_lit]
theorem mQ{o:Oper}{t:TypeId}{x i:Operand}{d:Nat}{cx:Cx}{q:Bool}{K:AE->Rs Z}{z:Z}(H:CxTy P cx)(hG:Ym cx.G B)(ho:o.op=.indexAddr t x i)(hd:o.dst=kd d)
  (h:sH B U N (AJ a) w M)(hN:a.tmps.size=N)(hf:fits N o=ka)(g:Bg cx q o U K=kd z):AW P B N o a w K z:=by
 have L:∀y∈(o.op.operands.toList),Cw N y=ka:=Bl hf;rw[ho]at L;have Q:=h.tX hG (h.sJ (L x (by simp[Op.operands])));have hi:=h.sJ (L i (by simp[Op.operands]));have E:∀v,(Instr.indexAt t (a.eval x) (a.eval i)).run P w=.ok v w->(execOp a.eval o).run P w=.ok (.value v) w:=λv hv=>by simp[execOp,ho,hv]
 simp[Bg,ho,hd]at g;split at g
 case h_2=>grind
 rename_i k j h7;rw[h7]at hi;have h8:=AA.int hi;rw[h8]at E;simp[AE.uB]at g;split at g
 
 rename_i e l V;rw[V]at Q;split at g;rename_i S;have⟨O,u⟩:=H.T t _ S;obtain⟨t',hu,f,-⟩:=Cj u;have⟨I⟩:=AL (AZ f);have⟨y,X,g⟩:=B8.1 g;have⟨h0,h1,h2⟩:=WN X;have h6:e.sh=e:=by simpa[Ty.sh]using O
 have⟨A,n,c,R,hv,hA,hn,g0,m,hS,hR⟩:=CK.elem h6 Q h2;refine AW.set hd hN (E _ (by rw[hv];exact Vi hu I hA h0 (by omega))) h (av:=.vptr e y) ?_ g;exact⟨A.block,A.off+j.toNat*e.cells,R,rfl,m,hS,hR⟩;simp_all
 ·
  rename_i n p V;rw[V]at Q;have⟨r,e,l,Y,X,g⟩:=a8l g;split at g
  ·rename_i S;have⟨O,u⟩:=H.T t _ S;obtain⟨t',hu,f,-⟩:=Cj u;rw[Gl]at f;have⟨I⟩:=AL (AZ f);rcases Ah g with⟨F,g⟩|⟨-,g⟩
   ·simp at F;have⟨s,A,c,g1,g2,hv,g3,hA,k2⟩:=h.uX Q Y X;cases A with
    |none=>grind
    |some A=>
     refine AW.set hd hN (E _ (by rw[hv];exact Vi hu I ((hA A rfl).resolve_left (by omega)) F.1 F.2)) h (av:=.ptr n (p++[.idx j.toNat])) ?_ g;refine⟨r,e,A.block,A.off+j.toNat*e.cells,Y,?_,rfl⟩;rw[Fp p _ _ _ g1];simp_all[CR]
   simp_all
  simp_all
 
 rename_i n p C k' V;rw[V]at Q;have⟨r,e,l,k5,Y,X,g⟩:=dJ g;split at g;rename_i S;have⟨O,u⟩:=H.T t _ S;obtain⟨t',hu,f,-⟩:=Cj u;rw[Gl]at f;have⟨I⟩:=AL (AZ f);rcases Ah g with⟨F,g⟩|⟨-,g⟩;simp at F;have⟨s,O',R',A,n0,c,g1,g2,g3,g4,g5,g6,A',hv,g7,g8⟩:=h.window Q Y X;have g0:n0<=c:=by
  rcases Da g3 with⟨D,-⟩|⟨A0,nn,c',os,D,-,h9,-⟩<;>simp only[Src.rd,if_true,sj,Value.slice.injEq]at D<;>omega
 rcases Da g3 with⟨D,-⟩|⟨A0,nn,c',os,D,h4,h9,-⟩;simp[Src.rd]at D;omega;simp[Src.rd]at D;obtain⟨rfl,rfl,rfl⟩:=D;have h4:A0.spot=ke:=h4.resolve_left (by omega);rcases g8 with g8|g8;omega;simp[Gm h4]at g8;subst g8;refine AW.set hd hN (E _ (by rw[hv];exact Vi hu I rfl F.1 F.2)) h (av:=.ptr n (p++[.idx (C+j.toNat)])) ?_ g;refine⟨r,e,A0.block,A0.off+(C+j.toNat)*e.cells,Y,?_,by grind⟩;rw[Fp p _ _ _ g1];have k4:C+j.toNat<n0:=by omega
 simp_all[CR];simp_all;simp_all
 
 rename_i n p V;rw[V]at Q;split at g;rename_i r Y;split at g;rename_i k' e l' X;split at g;rename_i S;have⟨O,u⟩:=H.T t _ S;obtain⟨t',hu,f,-⟩:=PL u;rw[Gl]at f;have⟨I⟩:=AL (AZ f);rcases Ah g with⟨F,g⟩|⟨-,g⟩;simp at F;have⟨r',tt,b,C,h1,h2,h3⟩:=Q;rw[Y]at h1;simp at h1;subst h1;obtain⟨O1,R1,l1,l2,-⟩:=h.sep Y;obtain⟨y,O',R',_,_,_,_,g3,g4,-⟩:=Cd p r.t _ l1 h2;rw[X]at g4;have k0:Ty.arr k' e=tt:=cG Sigma.fst g4;subst k0;refine AW.set hd hN (E _ (by rw[h3];exact Vj hu I F.1 F.2)) h (av:=.ptr n (p++[.idx j.toNat])) ?_ g;refine⟨r,e,b,C+j.toNat*e.cells,Y,?_,rfl⟩;rw[Fp p _ _ _ h2];simp_all[CR];simp_all;simp_all;simp_all;simp_all
 
 rename_i k' e l V;rw[V]at Q;split at g;rename_i S;have⟨O,u⟩:=H.T t _ S;obtain⟨t',hu,f,-⟩:=PL u;have⟨I⟩:=AL (AZ f);have⟨y,X,g⟩:=B8.1 g;have⟨h0,h1,h2⟩:=WN X;have⟨b,C,R,hv,m,hS,hR⟩:=Q;have m:Ao (λi=>AM (Ag w M.ov) e λj=>(Src.at b C).rd (Ag w M.ov) (i*e.cells+j)) k' 0=kd (l,[],R):=m;simp[Nh]at m;have k1:=Bb k' 0 m;have⟨y',o',r',A,B',A',k3,h5,hy,e1,e2⟩:=Bc k' 0 j.toNat m (by omega);rw[h2]at hy;simp at hy;subst hy;have g9:o'=[]:=by
  simp_all
 subst g9;simp at h5;refine AW.set hd hN (E _ (by rw[hv];exact Vj hu I h0 (by omega))) h (av:=.vptr e y) ?_ g;exact⟨b,C+j.toNat*e.cells,r',rfl,h5,hS,λc F=>hR c (by grind)⟩;simp_all;simp_all
theorem mR{o:Oper}{t:TypeId}{x:Operand}{f d:Nat}{cx:Cx}{q:Bool}{K:AE->Rs Z}{z:Z}(D:CxTy P cx)(Q:o.op=.fieldAddr t x f)(L:o.dst=kd d) (h:sH B U N (AJ a) w M)(hN:a.tmps.size=N)(hf:fits N o=ka)(j:Bg cx q o U K=kd z):AW P B N o a w K z:=by(have m:∀y∈(o.op.operands.toList),Cw N y=ka:=Bl hf;rw[Q]at m;have G:=h.sJ (m x (by simp[Op.operands]));have F:∀v,(Instr.fieldAt t (a.eval x) f).run P w=.ok v w->(execOp a.eval o).run P w=.ok (.value v) w:=λv Y=>by simp[execOp,Q,Y]);(simp[Bg,Q,L]at j;split at j;rename_i n p O;rw[O]at G;split at j;rename_i r V;generalize hg:Dv p r.t r.x=gg at j;have⟨H,y⟩:=gg;simp only at j;split at j;rename_i u;have⟨X,i⟩:=D.T t _ u.2;rw[Gl]at i;have⟨τ',k,h5,h4⟩:=Vf (w:=w) (b:=0) (o:=0) i u.1;have⟨r',t1,b,g,I,h2,h3⟩:=G;rw[V]at I;simp at I;subst I;obtain⟨O1,R1,l1,l2,-⟩:=h.sep V;obtain⟨y',O',R',_,_,_,_,g3,l,-⟩:=Cd p r.t _ l1 h2;have l:=hg.symm.trans l;have C:H=t1:=cG Sigma.fst l;subst C;have⟨τ2,k2,A,e⟩:=Vf (P:=P) (w:=w) (b:=b) (o:=g) i u.1;refine AW.set L hN (F _ (by rw[h3];omega)) h (av:=.ptr n (p++BA f)) ?_ j;exact⟨r,τ2,b,g+k2,V,by rw[Fp p _ _ _ h2];simp_all,rfl⟩;simp_all;simp_all;rename_i H y O;rw[O]at G;split at j;rename_i u;have⟨X,i⟩:=D.T t _ u.2;have⟨b,g,R,Y,E,hS,hR⟩:=G;have⟨τ2,k2,A,e⟩:=Vf (P:=P) (w:=w) (b:=b) (o:=g) i u.1;generalize hg:Dv (BA f) H y=gg at j;have⟨t2,y2⟩:=gg;simp only at j;have⟨y',O',R',A1,B1,h6,h7,g3,l,e1,e2⟩:=Cd (BA f) H (.at b g) E (e _ _ _);have l:=hg.symm.trans l;have C:t2=τ2:=cG Sigma.fst l;subst C;have h0:=eq_of_heq (Sigma.mk.inj l).2;subst h0;have S:O'=[]:=by simp_all);subst S;refine AW.set L hN (F _ (by rw[Y];omega)) h (av:=.vptr t2 y2) ?_ j;exact⟨b,g+k2,R',rfl,g3,hS,λc u=>hR c (by grind)⟩;simp_all;simp_all
theorem sH.zK{tm:Nat->Value}{ty:Ty}{t:TypeId}{av:AV}{u:Value}{q:Bool}{K:AV->AE->Rs Z}{z:Z}(hty:AU P ty (.inl t)=ka)(g0:ty.sh=ty)
  (h:sH B U N tm w M)(hx:AA (Ag w M.ov) M.g U.rt (Bh B w M) av u)(o:U.wQ q ty av K=kd z):
  ∃v L M' O,(Instr.loadAt t u).run P w=.ok v w/\sH B L N tm w M'/\AA (Ag w M'.ov) M'.g L.rt (Bh B w M') O v/\K O L=kd z/\
   ((L=U/\M'=M)\/(q=kc/\∃n,av=.ptr n []/\L=(U.sG (AV.drop n)).sD n ke)):=by
 simp[AE.wQ]at o;split at o
 ·
  rename_i Y y;split at o
  ·rename_i A;subst A;obtain⟨b,d,R,hv,V,hS,hR⟩:=hx;have f:∀j,j<Y.cells->w.cell? ⟨b,d+j,ke⟩=Ag w M.ov b (d+j):=by
    intro j _;cases a:M.ov with
    |none=>rfl
    |some y0=>
     obtain⟨b',o',v'⟩:=y0;simp only[Ag];rw[if_neg];rintro⟨rfl,-⟩;have E:=h.pend;cases C:U.pd with
     |none=>rw[C,a]at E;exact E
     |some y1=>
      obtain⟨n,p,dd⟩:=y1;rw[C,a]at E;obtain⟨r,e,I,hl⟩:=E;rw[<-a]at hl;exact hS.2.2 ⟨n,h.place I hl⟩
   obtain⟨v,F,k⟩:=Tn (P:=P) (w:=w) (Sh:=Bh B w M) hty V f hR;exact⟨_,_,_,.val Y y,(by simp_all),h,k,o,.inl ⟨rfl,rfl⟩⟩
  simp_all
 ·
  rename_i n p;split at o
  ·rename_i r I;obtain⟨C,I⟩:=AY I;have a:M.ov=ke:=by
    have E:=h.pend;rw[C]at E;cases a:M.ov with
    |none=>rfl
    |some y=>rw[a]at E;exact E.elim
   have f:∀b j,w.cell? ⟨b,j,ke⟩=Ag w M.ov b j:=λb j=>by rw[a];rfl
   obtain⟨r',t1,b,d,h1,h2,h3⟩:=hx;rw[I]at h1;simp at h1;subst h1;obtain⟨O1,R1,l1,l2,l3,l4,l5,l6⟩:=h.sep I;obtain⟨y',O',R',A1,B1,h7,h8,g3,Q,e1,e2⟩:=Cd p r.t _ l1 h2;split at o;rename_i e l hg;rw[hg]at Q;have A:Ty.list ka e=t1:=cG Sigma.fst Q;subst A;split at o;rename_i H;obtain⟨v,hv,hs⟩:=JK _ g3 0 (by simp[Ty.cells]);have hw:w.cell? ⟨b,d,ke⟩=kd v:=by rw[f];exact hv
   have T:ty.isAgg=kc:=by cases ty<;>first|rfl|cases H
   refine⟨v,U,M,.sref n p,?_,h,⟨r,e,.at b d,I,h2,hv⟩,o,.inl ⟨rfl,rfl⟩⟩;rw[h3];simp[Instr.loadAt,Instr.sureAddr,loadVar,Jd hty,T,hw];simp_all;rename_i Y y h9 hg;rw[hg]at Q;have A:Y=t1:=cG Sigma.fst Q;subst A;have h6:=eq_of_heq (Sigma.mk.inj Q).2;subst h6;split at o;rename_i i;obtain⟨i,X⟩:=i;have h5:=PN X g3;subst h5;obtain⟨v,F,k⟩:=Tn (P:=P) (w:=w) (Sh:=Bh B w M) (t:=t) (by grind[Gl]) g3 (λj _=>f b (d+j)) (λc hc=>l2 c (by simp_all));exact⟨_,_,_,.val Y y,(by simp_all),h,k,o,.inl ⟨rfl,rfl⟩⟩;split at o;split at o;rename_i i;subst i;simp[CR]at h2;obtain⟨rfl,h0⟩:=h2;obtain⟨R2,k1,k2⟩:=Zn _ l1;rw[h0]at k1;have G:=h.drop (n:=n) (by simp_all);have S:∀c∈R2,Bh B w ⟨M.g,λm=>if m=n then[]else M.ow m,M.ov⟩ c:=by
    intro c hc;rcases k2 c hc with g|g;have D:BP M c:=⟨n,l4 c g⟩;refine⟨h.lt D,.inr (h.mine c D),λ⟨m,hm⟩=>?_⟩;have hm:c∈(if m=n then[]else M.ow m).map (·.1):=hm
    split at hm;simp_all;rename_i h4;exact h.sQ m n h4 c hm (l4 c g);exact sH.tQ c (l2 c g)
   obtain⟨v,F,k⟩:=Tn (P:=P) (w:=w) (m:=Ag w M.ov) (t:=t) (by grind[Gl,Ty.wS]) k1 (λj _=>f b (d+j)) S;exact⟨_,_,_,.val r.t.tK (Ty.vH r.t r.x),(by simp_all),G,k,o,.inr ⟨rfl,n,rfl,rfl⟩⟩;simp_all;simp_all
  simp_all
 simp_all
theorem b1u{o:Oper}{t:TypeId}{x:Operand}{d:Nat}{cx:Cx}{q:Bool}{K:AE->Rs Z}{z:Z}(H:CxTy P cx)(hG:Ym cx.G B)(O:o.op=.load t x)(hd:o.dst=kd d)
  (h:sH B U N (AJ a) w M)(hN:a.tmps.size=N)(hf:fits N o=ka)(D:Bg cx q o U K=kd z):AW P B N o a w K z:=by
 have k:∀y∈(o.op.operands.toList),Cw N y=ka:=Bl hf;rw[O]at k;have hx:=h.tX hG (h.sJ (k x (by simp[Op.operands])));have V:∀v,(Instr.loadAt t (a.eval x)).run P w=.ok v w->(execOp a.eval o).run P w=.ok (.value v) w:=λv hv=>by simp[execOp,O,hv]
 simp[Bg,O,hd]at D;split at D
 case h_2=>grind
 rename_i ty hT;obtain⟨h4,h5⟩:=H.T t _ hT;split at D
 case h_2=>
  grind[sH.zK,AW.set]
 rename_i n r f;have f:U.whole (cx.K d) ty (U.sJ x)=kd (n,r):=by
  grind
 unfold AE.whole at f;split at f
 ·rename_i m S;split at f
  ·rename_i e L;split at f
   ·rename_i hc;simp at f;obtain⟨rfl,rfl⟩:=f;obtain⟨F,-,-,u⟩:=hc;obtain⟨p,hr⟩:=AY L;have l:M.ov=ke:=by
     have Q:=h.pend;rw[p]at Q;cases l:M.ov with
     |none=>rfl
     |some y=>rw[l]at Q;exact Q.elim
    have C:=h.sJ (k x (by simp[Op.operands]));rw[S]at C;obtain⟨r2,t1,b,h6,E,Y,h3⟩:=C;rw[hr]at E;simp at E;subst E;obtain⟨X,hg,c⟩:=h.xS hr F p;simp[CR]at Y;obtain⟨-,i⟩:=Y;rw[hg]at i;simp at i;obtain⟨rfl,rfl⟩:=i;obtain⟨O',R,k1,k2,k3⟩:=(c.roots m ⟨ka,e.t.tK,Ty.vH e.t e.x⟩ (by simp[AE.sD])).rd;have hO:=PN (Ty.wT e.t) k1;subst hO;have I:(Src.at X 0).rd (Ag w M.ov)=(M.g m).rd (Ag w M.ov):=by grind
    obtain⟨v,h0,A⟩:=Tn (P:=P) (w:=w) (m:=Ag w M.ov) (τ:=e.t.tK) (b:=X) (o:=0) (by rw[<-Gl,Ty.wS,u];omega) (by rw[I];omega) (λj _=>by rw[l];rfl) k2;exact AW.set hd hN (av:=.val e.t.tK (Ty.vH e.t e.x)) (V _ (by simp_all)) c A D
   simp_all
  simp_all
 simp_all
end
theorem mS{α:Type}{f:Nat->Option (α×Dw×List Nat)}{S:Nat->Prop}:∀(l:List α)(i:Nat),(∀j x,l[j]?=kd x->∃r,f (i+j)=kd (x,[],r)/\∀c∈r,S c)->∃g,Ao f l.length i=kd (l,[],g)/\∀c∈g,S c|[],i,_=>⟨[],rfl,by simp⟩|x::l,i,h=>by obtain⟨r,k,a⟩:=h 0 x rfl;obtain⟨g,b,d⟩:=mS l (i+1) (λj y m=>by have:=h (j+1) y (by simp_all);rwa [show i+(j+1)=i+1+j from by omega]at this);refine⟨r++g,?_,λc e=>?_⟩;simp_all[Ao];grind
theorem tT.mono{r s O}(h:tT m Sh r s O)(d:∀c,Sh c->Sh' c):tT m Sh' r s O:=by have⟨g,R,f,k,a⟩:=h.rd;exact⟨g,R,f,λc b=>d c (k c b),a⟩
theorem sH.fresh{Z:Type}{B U N tm w M}{q:Bool}{n:Nat}{r:sK}{K:AE->Rs Z}{z:Z}(h:sH B U N tm w M)(f:U.fresh q n r K=kd z){w':World}
  (a:∀c,c<w.heap.size->w'.heap[c]?=w.heap[c]?)(l:w.heap.size<=w'.heap.size){s:Src}{O:Dw}(A:∀c∈O.map (·.1),w.heap.size<=c)(i:(O.map (·.1)).Nodup)
  (d:∀p∈O,Cv w' p.1 p.2)(j:tT (Ag w' M.ov) (Bh B w M) r s O)(hio:EK w'=EK w:=by first|rfl|assumption):∃o u,K o=kd z/\sH B o N tm w' u/\o.rt n=kd r/\u.g n=s/\u.ov=M.ov/\o=U.uK n r:=by
 unfold AE.fresh at f;have⟨b,f⟩:=(Ah f).elim id λh=>by grind
 have b:n<pinned:=by simp_all
 split at f;rename_i v;have e:U.uK n r=U.sD n (kd r):=by unfold AE.uK;grind
 refine⟨_,⟨λm=>if m=n then s else M.g m,λm=>if m=n then O else M.ow m,M.ov⟩,f,by rw[e];exact h.add v b a l A i d j,by rw[e];simp[AE.sD],by simp,rfl,rfl⟩
 rename_i G v;rcases Ah f with⟨-,f⟩|⟨-,f⟩;grind;split at f;grind;rename_i H E;obtain⟨F,-⟩:=AY E;have e:U.uK n r=((U.sG (AV.drop n)).sD n ke).sD n (kd r):=by
  unfold AE.uK;rw[v];simp only[AE.sD,AE.sG];grind
 have D:=h.drop (n:=n) (by simp_all);refine⟨_,⟨λm=>if m=n then s else M.g m,λm=>if m=n then O else(if m=n then[]else M.ow m),M.ov⟩,f,by rw[e];exact D.add (n:=n) (by simp[AE.sD]) b a l A i d (j.mono λc C=>sH.tQ c C),by rw[e];simp[AE.sD],?_,rfl,rfl⟩
 simp
where
 rt_ne' {n k:Nat} {x y:Option sK} (h:k≠n):(bif k==n then x else y)=y:=by
  grind
theorem b1v(w:World)(o:Obj)(c:Nat)(h:c<w.heap.size):(w.alloc o).heap[c]?=w.heap[c]?:=by simp only[World.alloc,Array.getElem?_push];grind
theorem Vk{P:Program}:∀(f:Nat)(τ:Ty)(fs:List Field)(off:Nat),AU P τ (.inr (fs,off))=ka->CZ τ f=ka->∃g τ' k,fs[f]?=kd g/\g.offset=off+k/\AU P τ' (.inl g.type)=ka/\k+τ'.cells<=τ.cells/\∀(m:Es) rd x O R,AM m τ rd=kd (x,O,R)->∃y d i,AM m τ' (λj=>rd (k+j))=kd (y,d,i)/\CQ τ x (BA f)=⟨τ',y⟩/\(O=[]->d=[])/\∀c∈i,c∈R|0,τ,fs,off,h,l=>(by cases τ with|pair a b=>(cases fs with|nil=>simp[AU]at h|cons g r=>simp[AU]at h;refine⟨g,a,0,rfl,by omega,h.1.1.2,by simp[Ty.cells],λm rd x O R q=>?_⟩;obtain⟨A,u,w,B,v,z,G,H,rfl,rfl,rfl⟩:=Dz q;exact⟨A,u,w,by simp_all,rfl,λe=>(C7.1 e).1,λc p=>A9 _ p⟩)|_=>simp[CZ]at l)|f+1,τ,fs,off,h,l=>by cases τ with|pair a b=>(cases fs with|nil=>simp[AU]at h|cons g r=>simp only[AU,HC]at h;have⟨o,τ',k,G,H,I,N,K⟩:=Vk f b r (off+a.cells) h.2 l;refine⟨o,τ',a.cells+k,by simp_all,by omega,I,by grind[Ty.cells],λm rd x O R q=>?_⟩;obtain⟨A,u,w,B,v,z,L,C,rfl,rfl,rfl⟩:=Dz q;have⟨y,d,i,M,D,E,F⟩:=K m _ B v z C;refine⟨y,d,i,?_,D,λe=>E (C7.1 e).2,λc p=>A8 _ (F c p)⟩;grind)|_=>simp[CZ]at l
theorem a5c{m Sh}{τ':Ty}{off:Nat}{y R}(f:AU P τ' (.inl t)=ka)(h:AM m τ' (λj=>cs[off+j]?)=kd (y,[],R))(k:∀c∈R,Sh c)(i:off+τ'.cells<=cs.size):∃v,(part t cs off).run P w=.ok v w/\CK m Sh τ' y v:=by have⟨I⟩:=AL (AZ f);cases hagg:τ'.isAgg with|true=>refine⟨.agg (cs.extract off (off+τ'.cells)),by simp[part,Jd f,hagg,I.sizeOf],λ_=>⟨_,rfl,by simp_all⟩,λg=>(by simp_all),R,?_,k⟩;refine AI τ' h (λj d=>?_) (λ_ _ _=>rfl);simp_all[Value.cells]|false=>have b:=Tm hagg;have⟨v,a,e⟩:=JK τ' h 0 (by omega);simp at a;refine⟨v,by simp[part,Jd f,hagg,a],CK.one hagg e (AI τ' h (λj d=>?_) (λ_ _ _=>rfl)) k b⟩;simp_all[Src.rd]
section
variable {P:Program} {B:Base} {N:Nat} {Z:Type} {U:AE} {a:Act} {w:World} {M:Gh}
theorem a8n{o:Oper}{t:TypeId}{x:Operand}{f d:Nat}{cx:Cx}{q:Bool}{K:AE->Rs Z}{z:Z}(p:CxTy P cx)(F:o.op=.field t x f)(E:o.dst=kd d) (h:sH B U N (AJ a) w M)(hN:a.tmps.size=N)(hf:fits N o=ka)(e:Bg cx q o U K=kd z):AW P B N o a w K z:=by(have g:∀y∈(o.op.operands.toList),Cw N y=ka:=Bl hf;rw[F]at g;have H:=h.sJ (g x (by simp[Op.operands]));simp[Bg,F,E]at e;split at e;rename_i m y he;rw[he]at H;split at e;rename_i b;have⟨h6,A⟩:=p.T t _ b.2;have⟨O,hu,hs⟩:=Rh A b.1;have⟨L,τ',k,h1,h2,X,h4,Y⟩:=Vk f m _ 0 hs b.1;have⟨Q,g2,R,D,S⟩:=H;have i:m.isAgg=ka:=by cases m<;>first|rfl|(cases f<;>simp[CZ]at b));(have⟨cs,hv,h0⟩:=Q i;rw[hv]at D;have⟨y',O',R',k1,l,k3,k4⟩:=Y _ _ _ _ _ D;have r:=k3 rfl;subst r;generalize hg:Dv (BA f) m y=gg at e;have⟨I,y2⟩:=gg;simp only at e;have l:=hg.symm.trans l;have u:I=τ':=cG Sigma.fst l;subst u;have C:=eq_of_heq (Sigma.mk.inj l).2;subst C;have⟨v,G,j⟩:=a5c (P:=P) (w:=w) (cs:=cs) (off:=k) X k1 (λc b=>S c (k4 c b)) (by omega);have V:O[f]?=kd L:=by simp_all);refine AW.set E hN (v:=v) ?_ h (av:=.val I y2) j e;simp_all[execOp,Instr.field,run_underlying,asAgg];simp_all;simp_all
theorem a8o{o:Oper}{t:TypeId}{x i:Operand}{d:Nat}{cx:Cx}{q:Bool}{K:AE->Rs Z}{z:Z}(F:CxTy P cx)(ho:o.op=.index t x i)(hd:o.dst=kd d) (h:sH B U N (AJ a) w M)(hN:a.tmps.size=N)(hf:fits N o=ka)(f:Bg cx q o U K=kd z):AW P B N o a w K z:=by
 have g:∀y∈(o.op.operands.toList),Cw N y=ka:=Bl hf;rw[ho]at g;have X:=h.sJ (g x (by simp[Op.operands]));have V:=h.sJ (g i (by simp[Op.operands]));have m:∀v,(Instr.index t (a.eval x) (a.eval i)).run P w=.ok v w->(execOp a.eval o).run P w=.ok (.value v) w:=λv Q=>by simp[execOp,ho,Q]
 simp[Bg,ho,hd]at f;split at f;rename_i n e l k j C p;rw[C]at X;rw[p]at V;have r:=AA.int V;rw[r]at m;split at f;rename_i Y;have⟨h9,u⟩:=F.T t _ Y;obtain⟨t',hu,O,-⟩:=PL u;have⟨I⟩:=AL (AZ O);have⟨y,hg,f⟩:=B8.1 f;have⟨h0,h1,E⟩:=WN hg;have⟨g1,g2,R,D,g4⟩:=X;have⟨cs,Q,h3⟩:=g1 rfl;rw[Q]at D;have D:Ao (λi=>AM (Ag w M.ov) e λj=>cs[i*e.cells+j]?) n 0=kd (l,[],R):=D;have h6:=Bb n 0 D;have⟨y',o',r',A,B',A',h7,G,hy,e1,e2⟩:=Bc n 0 j.toNat D (by omega);rw[E]at hy;simp at hy;subst hy;have h4:o'=[]:=by simp_all
 subst h4;simp at G;have h5:j.toNat*e.cells+e.cells<=cs.size:=by rw[h3];simp[Ty.cells];rw[<-A7];exact A4 _ (by omega)
 have⟨v,L,S⟩:=a5c (P:=P) (w:=w) (cs:=cs) O G (λc hc=>g4 c (by grind)) h5;have hc:0<=j/\j<(n:Int):=⟨h0,by omega⟩;refine AW.set hd hN (v:=v) (m _ ?_) h (av:=.val e y) S f;rw[Q];simp[Instr.index,asIntOf,run_underlying hu,hc,I.sizeOf,L];simp_all;rename_i l k j C p;rw[C]at X;rw[p]at V;have r:=AA.int V;rw[r]at m;split at f;rename_i Y;have u:=(F.T t _ Y).2;have hu:P.underlying t=kd .string:=by simp[AU]at u;grind
 have⟨y,hg,f⟩:=B8.1 f;have⟨h0,h1,E⟩:=WN hg;have⟨s,Q,hl⟩:=AA.str X;rw[hl,D7]at E;cases hb:s.data.toList[j.toNat]? with|none=>simp_all|some b=>(rw[hb]at E;simp at E;have hs:s[j.toNat]?=kd b:=by(have h8:j.toNat<s.data.toList.length:=(lS.1 hb).1;have H:j.toNat<s.size:=by simp_all);rw[getElem?_pos s j.toNat H];have:=(lS.1 hb).2;rw[<-this];rfl);refine AW.set hd hN (v:=.int .u8 b.toNat) (m _ ?_) h (av:=.val (.int .u8) y) (by simp_all[AA.tF]) f;simp_all[Instr.index,asIntOf,run_underlying]
 simp_all;simp_all
theorem dK{f:Int->Int->Int}{g:Value->Value->Sem Value}{k:IntKind}(e:∀x y w,(g (.int k x) (.int k y)).run P w=.ok (.int k (f x y)) w):∀(l:List Operand)(x:Int){K:AV->Rs Z}{z:Z},sH B U N (AJ a) w M->(∀y∈l,Cw N y=ka)->AE.wG f k (l.map U.sJ) x K=kd z->∃r,K (.val (.int k) r)=kd z/\((l.map a.eval).foldlM g (.int k x)).run P w=.ok (.int k r) w|[],x,K,z,h,d,b=>⟨x,b,rfl⟩|y::l,x,K,z,h,d,b=>by simp at b;unfold AE.wG at b;split at b;simp_all;rename_i x C o D c;simp at c;obtain⟨c,rfl⟩:=c;split at b;rename_i m;subst m;have i:=h.sJ (d y (by simp));rw[c]at i;have A:=AA.int i;have⟨r,j,p⟩:=dK e l _ h (λu v=>d u (by grind)) b;refine⟨r,j,?_⟩;have q:=λz=>e z o w;simp_all;simp_all;simp_all
theorem b1w{x:Operand}{K:Nat->Rs Z}{z:Z}(j:CxTy P cx)(h:sH B U N (AJ a) w M)(g:Cw N x=ka)(m:U.vX (cx.T t) (U.sJ x) K=kd z)(ty:TypeId):∃n,K n=kd z/\(Builtin.len_ #[t] ty #[a.eval x]).run P w=.ok (.int .i64 (n:Int)) w:=by(have g:=h.sJ g;have y:∀o e,cx.T t=kd (.list o e)->∀A n c,a.eval x=.slice A n c->(Builtin.len_ #[t] ty #[a.eval x]).run P w=.ok (.int .i64 (n:Int)) w:=by intro o e b A n c q;have⟨v,d⟩:=j.T t _ b;obtain⟨O,E,C,-⟩:=Cj d;simp_all[Builtin.len_,run_underlying,goInt]);(unfold AE.vX at m;split at m;rename_i o e F u l b f;rw[f]at g;have⟨R,i,G⟩:=CK.rd (t:=.list F u) g rfl rfl;have i:CW (Ag w M.ov) F u.cells (AM (Ag w M.ov) u) (kd (a.eval x))=kd (l,[],R):=i;unfold CW at i;split at i;grind;rename_i A n c q;simp at q;split at i;split at i;grind;rename_i xs os rs D;have hn:=Bb n 0 D;grind;simp_all;simp_all;rename_i n e n' u l b f;have⟨v,d⟩:=j.T t _ b;obtain⟨O,E,C,-⟩:=PL d;exact⟨n,m,by simp_all[Builtin.len_,run_underlying,goInt]⟩;rename_i l b f;rw[f]at g;have⟨s,q,Y⟩:=AA.str g;have d:=(j.T t _ b).2;have E:P.underlying t=kd .string:=by simp[AU]at d;grind);refine⟨_,m,?_⟩;simp_all[Builtin.len_,run_underlying,goInt];rename_i b f;rw[f]at g;exact⟨0,m,y _ _ b _ _ _ g⟩;rename_i b f;rw[f]at g;have⟨A,q⟩:=g;grind;rename_i n p b f;rw[f]at g;split at m;rename_i r I;split at m;rename_i u l H;obtain⟨s,A,c,-,-,q,-⟩:=h.uX g (AY I).2 H;grind;simp_all;simp_all;rename_i n p L k b f;rw[f]at g;obtain⟨r,e,s,a0,l0,S,i,G,D,V,Q,q,X,-⟩:=g;grind;simp_all
end
theorem sH.yV{B U N tm w M}(h:sH B U N tm w M){b o v}(g:M.ov=kd (b,o,v)):b<w.heap.size:=by have f:=h.pend;rw[g]at f;cases hpd:U.pd with|none=>rw[hpd]at f;exact f.elim|some x=>have⟨n,p,d⟩:=x;rw[hpd]at f;have⟨r,e,a,k⟩:=f;rw[<-g]at k;exact h.lt ⟨n,h.place a k⟩
theorem sH.vO{B U N tm w M}(h:sH B U N tm w M){e k}(f:w'.heap[w.heap.size]?=kd (.cells cs e k))(j:Nat):Ag w' M.ov w.heap.size j=cs[j]?:=by(have a:w'.cell? ⟨w.heap.size,j,ke⟩=cs[j]?:=by simp_all[World.cell?]);unfold Ag;split;rename_i b o v g;have:=h.yV g;grind;omega
theorem sH.vP{B U N tm w M}(_:sH B U N tm w M)(h:∀c,c<w.heap.size->w'.heap[c]?=w.heap[c]?){j:Nat}(g:c<w.heap.size):Ag w' M.ov c j=Ag w M.ov c j:=BV _ (h c g) j
theorem sH.xG{Z:Type}{B U N tm w M}{q:Bool}{n:Nat}{t:Ty}{x:t.sI}{K:AE->Rs Z}{z:Z}(h:sH B U N tm w M)(A:U.fresh q n ⟨ka,t,x⟩ K=kd z){w':World} (f:∀c,c<w.heap.size->w'.heap[c]?=w.heap[c]?)(i:w.heap.size<=w'.heap.size){cs:Array Value}{e:TypeId}(k:w'.heap[w.heap.size]?=kd (.cells cs e (0,0)))(u:cs.size=t.cells){R} (y:AM (Ag w M.ov) t (λj=>cs[j]?)=kd (x,[],R))(l:∀c∈R,Bh B w M c)(hio:EK w'=EK w:=by first|rfl|assumption):∃d a,K d=kd z/\sH B d N tm w' a/\AA (Ag w' a.ov) a.g d.rt (Bh B w' a) (.ptr n []) (.pointer (kd ⟨w.heap.size,0,ke⟩)):=by have v:AM (Ag w' M.ov) t ((Src.at w.heap.size 0).rd (Ag w' M.ov))=kd (x,[],R):=AI t y (λj _=>by simp[Src.rd];exact h.vO k j) (λb j hb=>by rcases hb with hb|hb;simp_all;exact h.vP f (l b hb).1);have⟨d,a,m,o,p,r,C,D⟩:=h.fresh A f i (s:=.at w.heap.size 0) (O:=[(w.heap.size,t.cells)]) (by simp) (by simp) (by simp;exact⟨cs,e,0,0,k,by omega,.inl rfl⟩) ⟨[],R,v,l,.inl ⟨rfl,_,rfl,rfl⟩⟩;exact⟨d,a,m,o,_,t,w.heap.size,0,p,by rw[r];rfl,rfl⟩
theorem sH.uU{Z:Type}{B U N tm w M}{q:Bool}{n:Nat}{e:Ty}{l:List e.sI}{K:AE->Rs Z}{z:Z}(h:sH B U N tm w M)(Q:U.fresh q n ⟨kc,.list ka e,l⟩ K=kd z){w':World}
  (f:∀c,c<w.heap.size->w'.heap[c]?=w.heap[c]?)(v:w.heap.size<=w'.heap.size){cs:Array Value}{t:TypeId}{m}(k:w'.heap[w.heap.size]?=kd (.cells cs t m)){c:Nat}(r:m.2=m.1\/c*e.cells<=m.1)(o:c*e.cells<=cs.size)(I:l.length<=c){R}
  (L:Ao (λi=>AM (Ag w M.ov) e λj=>cs[i*e.cells+j]?) l.length 0=kd (l,[],R))(x:∀c∈R,Bh B w M c)(hio:EK w'=EK w:=by first|rfl|assumption):
  ∃d a,K d=kd z/\sH B d N tm w' a/\AA (Ag w' a.ov) a.g d.rt (Bh B w' a) (.sref n []) (.slice (kd ⟨w.heap.size,0,ke⟩) l.length c)/\a.ov=M.ov/\d=U.uK n ⟨kc,.list ka e,l⟩:=by
 have P:Ao (λi=>AM (Ag w' M.ov) e λj=>Ag w' M.ov w.heap.size (0+(i*e.cells+j))) l.length 0=kd (l,[],R):=by
  have G:AM (Ag w M.ov) (.arr l.length e) (λj=>cs[j]?)=kd (l,[],R):=L;refine AI (.arr l.length e) G (rd':=λj=>Ag w' M.ov w.heap.size (0+j)) (λj _=>?_) (λb j hb=>?_);show Ag w' M.ov w.heap.size (0+j)=_;rw[C1];exact h.vO k j;rcases hb with hb|hb;simp_all;exact h.vP f (x b hb).1
 have u:Cv w' w.heap.size (c*e.cells):=⟨cs,t,m.1,m.2,k,o,r⟩
 let O:Dw:=if c=0 then[]else[(w.heap.size,0+c*e.cells)]
 have S:∀p∈O,p=(w.heap.size,0+c*e.cells):=by
  grind
 have H:AM (Ag w' M.ov) (.list ka e) ((Src.one (.slice (kd ⟨w.heap.size,0,ke⟩) l.length c)).rd (Ag w' M.ov))=kd (l,O,R):=by
  show CW (Ag w' M.ov) ka e.cells (AM (Ag w' M.ov) e) (kd (.slice (kd ⟨w.heap.size,0,ke⟩) l.length c))=_;simp only[CW];grind
 have⟨d,a,y,A,C,D,E,F⟩:=h.fresh Q f v (s:=.one (.slice (kd ⟨w.heap.size,0,ke⟩) l.length c)) (O:=O) (by
   grind) (by grind)
  (λp T=>by grind) ⟨O,R,H,x,.inr ⟨rfl,⟨_,rfl⟩,⟨e,rfl⟩,rfl⟩⟩
 exact⟨d,a,y,A,⟨_,e,_,C,by rw[D];rfl,rfl⟩,E,F⟩
theorem a5d{t:Nat}(g:CxTy P cx)(h:cx.own d t=kd τ):AU P τ (.inl t)=ka:=by unfold Cx.own at h;split at h;split at h;rename_i f;simp at h;subst h;rw[<-Gl];exact(g.T t _ f).2;simp_all;exact(g.T t _ h).2
theorem mT{z:Array Value}(g:Fq e (λj=>z[j]?)=ka)(b:z.size=e.cells)(n:Nat):Ao (λi=>AM m e λj=>(madeCells z (n*e.cells))[i*e.cells+j]?) n 0=kd (B7 n e.dflt,[],[]):=by(refine Rg n 0 λi _ f=>AI e (JJ (m:=m) e g) (λj k=>?_) (λ_ _ _=>rfl);have h:i*e.cells+j<n*e.cells:=by have:(i+1)*e.cells<=n*e.cells:=A4 _ (by omega);grind);(have a:(i*e.cells+j)%e.cells=j:=by simp_all[Nat.mod_eq_of_lt]);simp_all[madeCells]
section
variable {P:Program} {B:Base} {N:Nat} {Z:Type} {U:AE} {a:Act} {w:World} {M:Gh}
theorem BF(o:Obj)(c:Nat)(h:c<w.heap.size):(w.alloc o).heap[c]?=w.heap[c]?:=b1v w o c h
theorem Bv(o:Obj):(w.alloc o).heap[w.heap.size]?=kd o:=by(show(w.heap.push o)[w.heap.size]?=_);simp
theorem BZ(o:Obj):w.heap.size<=(w.alloc o).heap.size:=by simp
theorem AW.sets{K:AE->Rs Z}{z:Z}(c:o.dst=kd d)(b:a.tmps.size=N)(k:(execOp a.eval o).run P w=.ok (.value v) w')(h:∃f M',K (f.set d av)=kd z/\sH B f N (AJ a) w' M'/\AA (Ag w' M'.ov) M'.g f.rt (Bh B w' M') av v):AW P B N o a w K z:=by grind[AW.set]
theorem a8p{o:Oper}{t:TypeId}{d:Nat}{cx:Cx}{q:Bool}{K:AE->Rs Z}{z:Z}(f:CxTy P cx)(i:o.op=.alloc t)(e:o.dst=kd d) (h:sH B U N (AJ a) w M)(j:a.tmps.size=N)(b:Bg cx q o U K=kd z):AW P B N o a w K z:=by(simp[Bg,i,e]at b;split at b;rename_i τ hT;have k:=a5d f hT;have⟨I⟩:=AL (AZ k);have g:(execOp a.eval o).run P w=.ok (.value (.pointer (kd ⟨w.heap.size,0,ke⟩))) (w.alloc (.cells I.z.cells t)):=by simp[execOp,i,Instr.alloc,I.zeroValue,newVar,newRow]);exact AW.sets e j g (h.xG b (λc l=>BF _ c l) (BZ _) (Bv _) I.uY (JJ _ I.zok) (by simp));simp_all
theorem b3M{x:Operand}{K:AE->Rs Z}{z:Z}(H:o.op=.box t x)(D:o.dst=kd d)(C:(bif q then ke else U.tH x)=ke)(h:sH B U N (AJ a) w M)(G:a.tmps.size=N)(O:fits N o=ka)(i:Bg cx q o U K=kd z):AW P B N o a w K z:=by(have Q:=h.sJ (Bl O x (by simp[H,Op.operands]));simp[Bg,H,D,C]at i;split at i;rename_i τ hT;obtain⟨y,S,u,i,l,I,-,-⟩:=h.uR (.inl Q) i;have e:(execOp a.eval o).run P w=.ok (.value (.pointer (kd ⟨w.heap.size,0,ke⟩))) (w.alloc (.cells (a.eval x).cells t)):=by simp_all[execOp,Instr.box,newVar,newRow]);obtain⟨-,-,R,F,v⟩:=id I;split at i;(have p:=Bv (w:=w) (.cells (a.eval x).cells t);have k:∀c,c<w.heap.size->(w.alloc (.cells (a.eval x).cells t)).heap[c]?=w.heap[c]?:=λc f=>BF _ c f;have r:=BZ (w:=w) (.cells (a.eval x).cells t);have E:w.heap.size<(w.alloc (.cells (a.eval x).cells t)).heap.size:=by simp);have L:=l.ext k r;have m:AM (Ag (w.alloc (.cells (a.eval x).cells t)) u.ov) τ ((Src.at w.heap.size 0).rd (Ag (w.alloc (.cells (a.eval x).cells t)) u.ov))=kd (y,[],R):=AI τ F (λj _=>by simp[Src.rd];exact l.vO p j) (λb j hb=>by rcases hb with hb|hb;simp_all;exact l.vP k (v b hb).1);have A:∀c,Bh B w u c->Bh B (w.alloc (.cells (a.eval x).cells t)) u c:=λc f=>⟨B3 f.1 r,f.2⟩;exact AW.set D G e L (av:=.vptr τ y) ⟨w.heap.size,0,R,rfl,m,⟨E,.inr (.inr l.size),λg=>by have:=l.lt g;omega⟩,λc f=>A c (v c f)⟩ i;exact AW.sets D G e (l.xG i (λc f=>BF _ c f) (BZ _) (Bv _) I.cells.1 F v);simp_all
theorem a8q{t:Ty}{K:t.sI->Rs Z}{z:Z}(h:av.vD t K=kd z):∃x,av=.val t x/\K x=kd z:=by cases av with|val g x=>simp only[AV.vD]at h;grind|_=>cases h
theorem mU{k:IntKind}{K:Int->Rs Z}{z:Z}(h:av.vD (.int k) K=kd z):∃x:Int,av=.val (.int k) x/\K x=kd z:=a8q h
theorem mV{o:Oper}{t:TypeId}{x y:Operand}{d:Nat}{cx:Cx}{q:Bool}{K:AE->Rs Z}{z:Z}(j:CxTy P cx)(b:o.op=.makeSlice t x y)(X:o.dst=kd d) (h:sH B U N (AJ a) w M)(hN:a.tmps.size=N)(F:fits N o=ka)(g:Bg cx q o U K=kd z):AW P B N o a w K z:=by
 have H:=h.sJ (Bl F x (by simp[b,Op.operands]));have L:=h.sJ (Bl F y (by simp[b,Op.operands]));simp[Bg,b,X]at g;split at g;rename_i o' e V;have⟨l,C,g⟩:=mU g;have⟨c,D,g⟩:=mU g;rw[C]at H;rw[D]at L;rcases Ah g with⟨k,g⟩|⟨-,g⟩;simp only[HC,dT,BM]at k;have⟨S,T,c3⟩:=k;have v:=a5d j V;have⟨E,Y,u,G⟩:=Cj v;have⟨I⟩:=AL (AZ u);have f:=run_make (P:=P) w t E I.i I.z Y I.info I.zero .i64 .i64 l c S T (by have:=I.bytes;have h1:((I.i.bytes*c.toNat:Nat):Int)<=((32768*2147483648:Nat):Int):=Int.ofNat_le.2 (Nat.mul_le_mul this (by omega));grind) (by omega);rw[I.size]at f;have r:(execOp a.eval o).run P w=.ok (.value (.slice (kd ⟨w.heap.size,0,ke⟩) l.toNat c.toNat)) (w.alloc (.cells (madeCells I.z.cells (c.toNat*e.cells)) E)):=by simp only[execOp,b,AA.int H,AA.int L,Sem.run_bind];simp_all
 have p:=mT (m:=Ag w M.ov) I.zok I.uY c.toNat
 obtain⟨U',M',g1,g2,g3,-,-⟩:=h.uU (c:=c.toNat) g (λc k=>BF _ c k) (BZ _) (Bv (Obj.cells (madeCells I.z.cells (c.toNat*e.cells)) E)) (.inl rfl) (by simp_all[size_madeCells]) (by grind) (R:=[]) (by(rw[List.length_replicate];refine Rg _ 0 λi _ hi=>?_);have⟨x',o',r',A,B',A',Q,O,k2,k3,k4⟩:=Bc _ 0 i p (by omega);rw[C1]at O;rw[O];rw[List.getElem?_replicate,if_pos (by omega)]at k2;simp_all) (by simp);grind[AW.set];simp_all;simp_all
theorem mW(off:Nat)(l:List Value)(i:Nat)(cs:Array Value):((l.zipIdx i).foldl (λcs (c:Value×Nat)=>cs.setIfInBounds (off+c.2) c.1) cs).size=cs.size/\∀k,((l.zipIdx i).foldl (λcs (c:Value×Nat)=>cs.setIfInBounds (off+c.2) c.1) cs)[k]?=if off+i<=k/\k<off+i+l.length/\k<cs.size then l[k-(off+i)]? else cs[k]?:=by induction l generalizing i cs with|nil=>exact⟨rfl,λk=>by rw[if_neg (by grind)];rfl⟩|cons v l h=>have⟨g,f⟩:=h (i+1) (cs.setIfInBounds (off+i) v);refine⟨by simp_all,λk=>?_⟩;simp only[List.zipIdx_cons,List.foldl_cons];grind
end
def a3j(t:Ty)(place:Nat->Option (Nat×Nat)):Prop:=∀i,AE.vM t i=ka->∃τ' k,place i=kd (k,τ'.cells)/\k+τ'.cells<=t.cells/\∀(m:Es) b o,loc m t (.at b o) (AE.pathOf t i)=kd (τ',.at b (o+k))
theorem mX(n:Nat)(e:Ty):a3j (.arr n e) λi=>kd (i*e.cells,e.cells):=by intro i h;simp[AE.vM]at h;refine⟨e,i*e.cells,rfl,?_,λm b o=>?_⟩;have:(i+1)*e.cells<=n*e.cells:=A4 _ (by omega);(rw[A7]at this;exact this;show(if i<n then CR m [] e (.at b (o+i*e.cells))else ke)=_);rw[if_pos h];rfl
theorem b1x(U:∀c,Sh c->c<sz){t g:Ty}{x:t.sI}{R i k}(V:AM m t (λj=>cs[j]?)=kd (x,[],R))(K:∀c∈R,Sh c)(Y:∀(m:Es) b o,loc m t (.at b o) (AE.pathOf t i)=kd (g,.at b (o+k)))(hk:k+g.cells<=cs.size){y:g.sI}(hv:CK m Sh g y v):
  ∃F,AM m t (λj=>(v.cells.zipIdx.foldl (λcs (c,j)=>cs.setIfInBounds (k+j) c) cs)[j]?)=kd (FK t x (AE.pathOf t i) g y,[],F)/\∀c∈F,Sh c:=by
 obtain⟨h3,-⟩:=hv.cells;obtain⟨-,-,P,D,E⟩:=hv;have a:v.cells.zipIdx.foldl (λcs (c,j)=>cs.setIfInBounds (k+j) c) cs=(v.cells.toList.zipIdx 0).foldl (λcs (c:Value×Nat)=>cs.setIfInBounds (k+c.2) c.1) cs:=by
  rw[<-D6];simp
 obtain⟨-,h⟩:=mW k v.cells.toList 0 cs;rw[a];generalize (v.cells.toList.zipIdx 0).foldl (λcs (c:Value×Nat)=>cs.setIfInBounds (k+c.2) c.1) cs=cs' at h
 let d:Es:=λc j=>if c=sz then cs[j]? else m c j
 let l:Es:=λc j=>if c=sz then cs'[j]? else m c j
 have C:∀c,Sh c->c≠sz:=λc f e=>by grind
 have Z:∀c j,Sh c->d c j=m c j:=λc j f=>by grind
 have h2:∀c j,Sh c->l c j=m c j:=λc j f=>by grind
 have H:AM d t ((Src.at sz 0).rd d)=kd (x,[],R):=AI t V (λj _=>by simp[Src.rd,d]) (λb j hb=>by
  simp_all)
 have r:=Y d sz 0;obtain⟨y0,O,R1,A1,B1,L,N,B,-,e1,-⟩:=Cd _ t _ H r;have w:O=[]:=by
  simp_all
 subst w;have S:AM l g ((Src.at sz (0+k)).rd l)=kd (y,[],P):=AI g D (λj X=>by
   simp only[Src.rd,l,if_true,C1,h,Nat.add_zero];rw[if_pos ⟨by omega,by grind,by omega⟩,Nat.add_sub_cancel_left];simp) (λb j hb=>by
  grind)
 have u:xJ (Src.at sz 0) [] R:=⟨by simp,by simp,λc f=>⟨by simp,λe=>C c (K c f) e⟩⟩;have q:c1P d l (Src.at sz 0) [] R sz (0+k) g.cells []:=λc j=>by
  by_cases f:c=sz;by_cases X:k<=j/\j<k+g.cells;omega;refine .inl ?_
  simp only[d,l,if_pos f,h];rw[if_neg (by grind)];grind
 have⟨A,M,G,Q,I,T⟩:=a8e _ t _ H r B S u q;have p:A=[]/\M=[]:=by
  have:=cG A6 Q
  simp at this;exact⟨C5.1 (by omega),C5.1 (by omega)⟩
 rw[p.1,p.2]at I;have z:∀c∈G,Sh c:=λc f=>(T c f).elim (K c) (E c);exact⟨G,AI t I (λj _=>by simp[Src.rd,l]) (λb j hb=>by
  grind),z⟩
section
variable {P:Program} {B:Base} {N:Nat} {Z:Type} {U:AE} {a:Act} {w:World} {M:Gh}
theorem Yn{q:Bool}{t:Ty}{d:Nat->Option (Nat×Nat)}(hp:a3j t d):∀(l:List (Nat×Operand)) {U:AE} {M:Gh} {x:t.sI} {cs:Array Value} {R} {K:t.sI->AE->Rs Z} {z:Z},sH B U N (AJ a) w M->(∀y∈l,Cw N y.2=ka)->cs.size=t.cells->AM (Ag w M.ov) t (λj=>cs[j]?)=kd (x,[],R)->(∀c∈R,Bh B w M c)->U.fills q t l x K=kd z->∃y g m M' v,K y m=kd z/\sH B m N (AJ a) w M'/\Instr.fill d cs (l.map λ(i,x)=>(i,a.eval x))=kd g/\g.size=t.cells/\AM (Ag w M'.ov) t (λj=>g[j]?)=kd (y,[],v)/\(∀c∈v,Bh B w M' c)|[],U,M,x,cs,R,K,z,h,_,I,D,p,f=>⟨x,cs,U,M,R,f,h,rfl,I,D,p⟩|(i,o)::l,U,M,x,cs,R,K,z,h,H,I,D,p,f=>by(unfold AE.fills at f;rcases Ah f with⟨hi,f⟩|⟨-,f⟩;have⟨τ',k,h1,h2,G⟩:=hp i hi;have r:(CQ t x (AE.pathOf t i)).1=τ':=by have h0:AM (λc j=>if c=w.heap.size then cs[j]? else Ag w M.ov c j) t ((Src.at w.heap.size 0).rd λc j=>if c=w.heap.size then cs[j]? else Ag w M.ov c j)=kd (x,[],R):=AI t D (λj _=>by simp[Src.rd]) (λb j hb=>by rcases hb with hb|hb;simp_all;have:=(p b hb).1;grind);obtain⟨y0,O1,R1,A1,B1,O,P,h7,r,-⟩:=Cd _ t _ h0 (G _ _ _);grind);(generalize hgg:CQ t x (AE.pathOf t i)=gg at f r;have⟨t2,y2⟩:=gg;simp only at r;subst r;simp only at f;obtain⟨y,U1,Q,f,h4,L,e,-⟩:=h.uR (.inl (h.sJ (H _ (D5 ..)))) f;have E:AM (Ag w Q.ov) t (λj=>cs[j]?)=kd (x,[],R):=by rw[e.ov];omega);have⟨v,h5,h6⟩:=b1x (sz:=w.heap.size) (λc C=>C.1) E (λc C=>e.shr c (p c C)) G (by omega) L;have⟨y',g,m,M',A,S,T,g3,V,X,Y⟩:=Yn hp l h4 (λu hu=>H u (List.mem_cons_of_mem _ hu)) (cs:=(a.eval o).cells.zipIdx.foldl (λcs (c,j)=>cs.setIfInBounds (k+j) c) cs) (by(have F:(a.eval o).cells.zipIdx.foldl (λcs (c,j)=>cs.setIfInBounds (k+j) c) cs=((a.eval o).cells.toList.zipIdx 0).foldl (λcs (c:Value×Nat)=>cs.setIfInBounds (k+c.2) c.1) cs:=by rw[<-D6];simp);simp_all[mW]) h5 h6 f;refine⟨y',g,m,M',A,S,T,?_,V,X,Y⟩;have h8:=L.cells.1;simp_all[Instr.fill];simp_all
theorem a1I{q:Bool}{e:Ty}{n:Nat}:∀(l:List (Nat×Operand)) (U:AE) (x:List e.sI) (K:List e.sI->AE->Rs Z),U.lit q e n l x K=U.fills q (.arr n e) l x K|[],_,_,_=>rfl|(i,o)::l,U,x,K=>by(show(bif A3 (i<n)then U.uR q e (U.sJ o) (λy g=>g.lit q e n l (x.set i y) K)else ke) =(bif A3 (i<n)then U.uR q e (U.sJ o) (λy g=>g.fills q (.arr n e) l (FK (.arr n e) x [.idx i] e y) K)else ke));(congr 2;funext y g;rw[a1I l];congr 1;show x.set i y=D4 x i (if h:e=e then h▸y else _));simp
theorem jG{S:Array (Nat×Operand)}{K:AE->Rs Z}{z:Z}(Y:CxTy P cx)(X:o.op=.buildSlice t n S)(hd:o.dst=kd d)(hO:∀o' e,cx.T t=kd (.list o' e)->(bif q || !e.isList then ke else cx.O d)=ke)(h:sH B U N (AJ a) w M)(hN:a.tmps.size=N)(hf:fits N o=ka)(v:Bg cx q o U K=kd z):AW P B N o a w K z:=by
 have u:∀y∈(o.op.operands.toList),Cw N y=ka:=Bl hf;rw[X]at u;simp[Bg,X,hd]at v;split at v;rename_i o' e hT;rw[hO o' e hT]at v;rcases Ah v with⟨C,v⟩|⟨-,v⟩;simp[BM]at C;rw[a1I]at v;have⟨g7,h5⟩:=Y.T t _ hT;have⟨k,hu,h4,h8⟩:=Cj h5;have⟨I⟩:=AL (AZ h4);have⟨y,f,U',l,V,D,A,g3,g4,E,g6⟩:=Yn (mX n e) S.toList h (λy hy=>u y.2 (by simp only[Op.operands];grind)) (cs:=madeCells I.z.cells (n*e.cells)) (size_madeCells _ _) (mT (m:=Ag w M.ov) I.zok I.uY n) (by simp) v;have E:Ao (λi=>AM (Ag w l.ov) e λj=>f[i*e.cells+j]?) n 0=kd (y,[],V):=E;have G:=Bb n 0 E;have g0:n*e.cells=0->n=0:=λe0=>by grind[Nat.mul_eq_zero]
 have L:(execOp a.eval o).run P w=.ok (.value (.slice (kd ⟨w.heap.size,0,ke⟩) n n)) (w.alloc (.cells f k)):=by(have F:¬ (n*e.cells > 2^24):=by omega);(have H:(S.map λ(i,x)=>(i,a.eval x)).toList=S.toList.map λ(i,x)=>(i,a.eval x):=by simp);by_cases h0:n*e.cells=0;(have:(Array.range (n*e.cells)).map (λi=>(#[]:Array Value)[i%(#[]:Array Value).size]!)=madeCells I.z.cells (n*e.cells):=by simp_all[madeCells]);have p:=g3;rw[<-this]at p;simp only[execOp,X,Instr.buildSlice,Sem.run_bind,run_underlying hu,Result.andThen_ok,I.sizeOf,if_neg F,if_pos h0,Sem.run_pure,H,p,newRow];simp;have p:Instr.fill (λi=>kd (i*e.cells,e.cells)) ((Array.range (n*e.cells)).map (I.z.cells[·%I.z.cells.size]!)) (S.toList.map λ(i,x)=>(i,a.eval x))=kd f:=g3;simp only[execOp,X,Instr.buildSlice,Sem.run_bind,run_underlying hu,Result.andThen_ok,I.sizeOf,if_neg F,if_neg h0,Sem.run_pure,I.zeroValue,H,p,newRow];simp
 have Q:A6 (show List e.sI from y)=n:=G;rcases Ah D with⟨-,D⟩|⟨-,D⟩;have r:∀c,c<w.heap.size->(w.alloc (.cells f k)).heap[c]?=w.heap[c]?:=λc C=>BF _ c C;have h2:=A.ext r (BZ _);have h9:∀c,Bh B w l c->Bh B (w.alloc (.cells f k)) l c:=λc ⟨a1,a2,a3⟩=>⟨B3 a1 (BZ _),a2,a3⟩;have h7:Bh B (w.alloc (.cells f k)) l w.heap.size:=⟨(Array.getElem?_eq_some_iff.1 (Bv (w:=w) (Obj.cells f k))).1,.inr (.inr A.size),λg=>Nat.lt_irrefl _ (A.lt g)⟩;have h6:Ao (λi=>AM (Ag (w.alloc (.cells f k)) l.ov) e λj=>Ag (w.alloc (.cells f k)) l.ov w.heap.size (0+(i*e.cells+j))) n 0=kd (y,[],V):=by have h1:AM (Ag w l.ov) (.arr n e) (λj=>f[j]?)=kd (y,[],V):=E;refine AI (.arr n e) h1 (rd':=λj=>Ag (w.alloc (.cells f k)) l.ov w.heap.size (0+j)) (λj _=>?_) (λb j hb=>?_);show Ag _ l.ov w.heap.size (0+j)=_;rw[C1];exact A.vO (Bv (Obj.cells f k)) j;rcases hb with hb|hb;simp_all;exact A.vP r (g6 b hb).1
 have h3:∃R,AM (Ag (w.alloc (.cells f k)) l.ov) (.list kc e) ((Src.one (.slice (kd ⟨w.heap.size,0,ke⟩) n n)).rd (Ag (w.alloc (.cells f k)) l.ov))=kd (y,[],R)/\∀c∈R,Bh B (w.alloc (.cells f k)) l c:=by show ∃R,CW (Ag (w.alloc (.cells f k)) l.ov) kc e.cells (AM (Ag (w.alloc (.cells f k)) l.ov) e) (kd (.slice (kd ⟨w.heap.size,0,ke⟩) n n))=kd (y,[],R)/\_;simp only[CW];rw[if_pos ⟨.inr trivial,C0 _⟩,h6];simp only[C8,if_false];split;exact⟨[],rfl,by simp⟩;refine⟨w.heap.size::V,by rfl,λc C=>?_⟩;grind
 have⟨R2,k1,k2⟩:=h3;exact AW.set hd hN L h2 (av:=.val (.list kc e) y) (CK.one (t:=.list kc e) rfl rfl k1 k2 rfl) D;obtain⟨U2,M2,k1,k2,k3,-,-⟩:=A.uU (c:=n) D (λc C=>BF _ c C) (BZ _) (Bv (Obj.cells f k)) (.inl rfl) (Nat.le_of_eq g4.symm) (Nat.le_of_eq Q) (by rw[Q];exact E) g6;grind[AW.set];simp_all;simp_all
theorem Vl{P:Program}{w:World}:∀(fs:List Field),(∀f∈fs,∃i,P.info? f.type=kd i)->∃l:List (Nat×Nat),(fs.mapM λf=>do pure (f.offset,<-sizeOf f.type):Sem (List (Nat×Nat))).run P w=.ok l w/\l.length=fs.length/\∀(k:Nat) f,fs[k]?=kd f->∃i,P.info? f.type=kd i/\l[k]?=kd (f.offset,i.size)|[],_=>⟨[],rfl,rfl,by simp⟩|f::fs,h=>by have⟨i,e⟩:=h f (by simp);have⟨l,b,c,d⟩:=Vl (w:=w) fs (λg a=>h g (by grind));refine⟨(f.offset,i.size)::l,?_,by grind,λk g a=>?_⟩;simp_all[sizeOf,typeInfo];grind
theorem Nl{P:Program}:∀(τ:Ty)(fs:List Field)(off:Nat),AU P τ (.inr (fs,off))=ka->∀f∈fs,∃i,P.info? f.type=kd i|.pair a b,f::r,off,h=>(by simp only[AU,HC]at h;have⟨I⟩:=AL (AZ h.1.1.2);intro g k;rcases mC.1 k with rfl|k;exact⟨_,I.info⟩;exact Nl b r _ h.2 g k)|.unit,[],_,_=>by simp|.unit,_::_,_,h=>by simp[AU]at h|.pair _ _,[],_,h=>by simp|.int _,_,_,h=>by simp[AU]at h|.bool,_,_,h=>by simp[AU]at h|.str,_,_,h=>by simp[AU]at h|.list _ _,_,_,h=>by simp[AU]at h|.arr _ _,_,_,h=>by simp[AU]at h
theorem a1J{F:Array (Nat×Operand)}{K:AE->Rs Z}{z:Z}(hty:AU P τ (.inl t)=ka)(Y:o.op=.build t F)(hd:o.dst=kd d)(h:sH B U N (AJ a) w M)(hN:a.tmps.size=N)(hf:fits N o=ka)(hz:(bif τ.isAgg then U.fills q τ F.toList τ.dflt λy U=>K (U.set d (.val τ y))else ke)=kd z):AW P B N o a w K z:=by
 have A:∀y∈(o.op.operands.toList),Cw N y=ka:=Bl hf;rw[Y]at A;have⟨I⟩:=AL (AZ hty);have⟨g,hz⟩:τ.isAgg=ka/\_:=(Ah hz).elim id λh=>by grind
 have D:∀y∈F.toList,Cw N y.2=ka:=λy hy=>A y.2 (by simp only[Op.operands];grind)
 have H:(F.map λ(i,x)=>(i,a.eval x)).toList=F.toList.map λ(i,x)=>(i,a.eval x):=by simp
 have C:∀c,a3j τ c->(∀b,Instr.fill c I.z.cells (F.toList.map λ(i,x)=>(i,a.eval x))=kd b->(execOp a.eval o).run P w=.ok (.value (.agg b)) w)->τ.isAgg=ka->AW P B N o a w K z:=by intro c hp L g;have⟨y,b,U',M',R',g1,g2,g3,g4,g5,g6⟩:=Yn hp F.toList h D I.uY (JJ τ I.zok) (by simp) hz;exact AW.set hd hN (L b g3) g2 (av:=.val τ y) ⟨λ_=>⟨b,rfl,g4⟩,λe=>(by simp_all),R',g5,g6⟩ g1
 have O:∀m:Array Field,P.underlying t=kd (.struct m)->AU P τ (.inr (m.toList,0))=ka->(∀i,AE.vM τ i=CZ τ i/\AE.pathOf τ i=BA i)->τ.isAgg=ka->AW P B N o a w K z:=by(intro m p hs j g;have⟨l,h1,h2,h3⟩:=Vl (P:=P) (w:=w) m.toList (Nl τ _ _ hs);refine C (λi=>l.toArray[i]?) (λi V=>?_) (λb T=>?_) g;rw[(j i).1]at V;rw[(j i).2];have⟨S,τ',k,k1,k2,k3,k4,k5⟩:=Tp i τ _ 0 hs V;obtain⟨h0,τ2,k',j1,j2,j3,j4,-⟩:=Vk i τ _ 0 hs V;rw[k1]at j1;simp at j1;subst j1;have⟨i',X,hl⟩:=h3 i S k1;have⟨G⟩:=AL (AZ k3);have⟨R⟩:=AL (AZ j3);have e1:i'=G.i:=by have:=X.symm.trans G.info;simp_all);(have e2:G.i=R.i:=by have:=G.info.symm.trans R.info;simp_all);(refine⟨τ',k,?_,?_,k5⟩;have hk:S.offset=k:=by omega);simp;(rw[hl,e1,G.size,hk];have s1:=G.size;have s2:=R.size;simp_all;have hm:(m.mapM λf=>do pure (f.offset,<-sizeOf f.type):Sem (Array (Nat×Nat))).run P w=.ok l.toArray w:=by simp_all[D0]);simp only[execOp,Y,Instr.build,Sem.run_bind,I.zeroValue,Result.andThen_ok,run_underlying p,hm,H,T];simp
 have arr:∀n Q e,P.underlying t=kd (.array n Q)->AU P e (.inl Q)=ka->a3j τ (λi=>kd (i*e.cells,e.cells))->τ.isAgg=ka->AW P B N o a w K z:=by intro n Q e p E hp g;have⟨I'⟩:=AL (AZ E);refine C _ hp (λb T=>?_) g;simp only[execOp,Y,Instr.build,Sem.run_bind,I.zeroValue,Result.andThen_ok,run_underlying p,I'.sizeOf,H,T];simp
 clear C;cases τ with|pair u v=>(simp[AU]at hty;obtain⟨-,hty⟩:=hty;split at hty;rename_i m p;split at hty;rename_i S r hl;refine O m p ?_ (λi=>⟨rfl,rfl⟩) rfl;simp_all[AU];simp_all;simp_all)|unit=>(simp[AU]at hty;obtain⟨-,hty⟩:=hty;split at hty;rename_i m p;refine O m p ?_ (λi=>⟨rfl,rfl⟩) rfl;(have:m.toList=[]:=by simp_all);rw[this];rfl;simp_all)|arr n e=>(obtain⟨Q,p,E,-⟩:=PL hty;exact arr n Q e p E (mX n e) rfl)|_=>cases g
theorem mY{o:Oper}{t:TypeId}{l:Array (Nat×Operand)}{d:Nat}{cx:Cx}{q:Bool}{K:AE->Rs Z}{z:Z}(f:CxTy P cx)(b:o.op=.build t l)(k:o.dst=kd d)(i:cx.yL d t=ke->cx.O d=ke)
  (h:sH B U N (AJ a) w M)(c:a.tmps.size=N)(e:fits N o=ka)(g:Bg cx q o U K=kd z):AW P B N o a w K z:=by
 simp[Bg,b,k]at g;cases hn:cx.yL d t with
 |some τ=>
  rw[hn]at g;refine a1J ?_ b k h c e g;simp[Cx.yL]at hn;split at hn;split at hn;rename_i m _ j;cases hn;rw[<-Gl];exact(f.T t _ j.2).2;simp_all;simp_all
 |none=>
 rw[hn]at g;simp[i hn]at g;split at g;rename_i τ hT;exact a1J (f.T t _ hT).2 b k h c e g;simp_all
theorem Zq(h:CL u=ka):u.cells=#[u]:=by cases u<;>first|rfl|(simp[CL]at h)
theorem a3k(h:sH B U N (AJ a) w M){v:AV}(hv:AA (Ag w M.ov) M.g U.rt (Bh B w M) v u)(f:v.xR τ=ka):CL u=ka:=by unfold AV.xR at f;split at f;rename_i t x;simp at f;exact hv.2.1 f.1;rename_i n e;have⟨r,d,s,k,b,l⟩:=hv;obtain⟨m,R,i,q,-⟩:=h.sep k;obtain⟨y,o,p,_,_,_,_,z,j,-⟩:=Cd _ r.t _ i b;obtain⟨D,A,c,-,-,hv,-,C,-⟩:=h.uX ⟨r,d,s,k,b,l⟩ k j;rw[hv];rfl;have hv:u=.slice ke 0 0:=hv;rw[hv];rfl;simp_all
theorem b1y{h:Nat->Option (Nat×Nat)}{k:Nat}{u:Value}{l:List (Nat×Value)}{g a:List Value}{c:Value}(hp:h k=kd (k,1))(f:CL u=ka)(b:g.length=k):Instr.fill h (g++c::a).toArray ((k,u)::l)=Instr.fill h (g++[u]++a).toArray l:=by have f:=Zq f;simp only[Instr.fill,hp];simp_all
theorem b1z{rt:Nat->Option sK}{v:AV}{rd:Nat->Option Value}(h:PK τ=kd v)(f:Fq τ rd=ka)(d:rd 0=kd u):τ.cells=1/\CL u=ka/\AA m g rt Sh v u:=by(have a:τ.isAgg=kc->CL u=ka->τ.cells=1->Fq τ (λj=>u.cells[j]?)=ka->CK m Sh τ τ.dflt u:=λp i q l=>⟨λg=>(by simp_all),λ_=>i,[],JJ τ l,by simp⟩);cases τ with|int k=>(simp[PK]at h;simp[Fq,d]at f;cases u with|int r n=>subst h;exact⟨rfl,rfl,a rfl rfl rfl (by simp_all[Fq,Value.cells])⟩|_=>cases f)|bool=>(simp[PK]at h;simp[Fq,d]at f;cases u with|bool b=>subst h;exact⟨rfl,rfl,a rfl rfl rfl (by simp_all[Fq,Value.cells])⟩|_=>cases f)|str=>(simp[PK]at h;simp[Fq,d]at f;cases u with|string b=>subst h;exact⟨rfl,rfl,a rfl rfl rfl (by simp_all[Fq,Value.cells])⟩|_=>cases f)|list o e=>simp[PK]at h;simp[Fq,d]at f;subst h;split at f;rename_i c;simp at c;subst c;exact⟨rfl,rfl,rfl⟩;simp_all|_=>cases h
theorem dL{d:Nat->Option (Nat×Nat)}(h:sH B U N (AJ a) w M):∀(τ:Ty)(k:Nat)(l:List (Nat×Operand)) (q:List AV),U.tL k τ l=kd q->(∀p∈l,Cw N p.2=ka)->(∀j,j<τ.cells->d (k+j)=kd (k+j,1))->∀(f c:List Value),f.length=k->c.length=τ.cells->Fq τ (λj=>c[j]?)=ka->∃us:List Value,us.length=τ.cells/\q.length=τ.cells/\Instr.fill d (f++c).toArray (l.map λp=>(p.1,a.eval p.2))=kd (f++us).toArray/\∀(j:Nat) v,q[j]?=kd v->∃u,us[j]?=kd u/\CL u=ka/\AA (Ag w M.ov) M.g U.rt (Bh B w M) v u
 |.unit,k,[],q,b,_,_,f,c,F,H,_=>by simp only[AE.tL,sj]at b;subst b;have:c=[]:=List.eq_nil_of_length_eq_zero H;subst this;exact⟨[],rfl,rfl,rfl,λj v A=>by simp_all⟩
 |.pair u v,k,l,q,b,hops,hpl,f,c,F,H,hzr=>by
  have zero:((PK u).bind λx=>(U.tL (k+1) v l).map (x::·))=kd q->∃us:List Value,us.length=(Ty.pair u v).cells/\q.length=(Ty.pair u v).cells/\Instr.fill d (f++c).toArray (l.map λp=>(p.1,a.eval p.2))=kd (f++us).toArray/\∀(j:Nat) v,q[j]?=kd v->∃u,us[j]?=kd u/\CL u=ka/\AA (Ag w M.ov) M.g U.rt (Bh B w M) v u:=λhb=>by
   cases hx:PK u with
    |none=>simp_all
    |some x=>
     rw[hx]at hb;cases hr:U.tL (k+1) v l with
      |none=>simp_all
      |some vs'=>
       (rw[hr]at hb;cases hb;simp[Fq]at hzr;have G:0<u.cells:=by cases u<;>first|(cases hx;done)|exact Nat.one_pos);cases c with
        |nil=>grind[Ty.cells]
        |cons z0 c=>
         (obtain⟨S,T,V⟩:=b1z (m:=Ag w M.ov) (g:=M.g) (rt:=U.rt) (Sh:=Bh B w M) hx hzr.1 (by simp:(z0::c)[0]?=kd z0);have z:c.length=v.cells:=by grind[Ty.cells]);obtain⟨us,O,P,Q,R⟩:=dL h v (k+1) l vs' hr hops (λj A=>by
          have:=hpl (j+1) (by grind);rwa [show k+(j+1)=k+1+j from by omega]at this) (f++[z0]) c (by grind) z (by
          grind)
         refine⟨z0::us,by simp_all,by simp_all,?_,λj y A=>?_⟩;all_goals grind
  cases l with
   |nil=>exact zero b
   |cons p r=>
    obtain⟨i,o⟩:=p;simp[AE.tL]at b;rcases Ah b with⟨E,e⟩|⟨-,e⟩;(have E:i=k:=by simp_all);(subst E;obtain⟨D,e⟩:=(Ah e).elim id λh=>by grind);simp at D;obtain⟨X,I⟩:=D;cases hr:U.tL (i+1) v r with
     |none=>simp_all
     |some vs'=>
      rw[hr]at e;cases e;have C:=h.sJ (hops (i,o) (by simp));have L:=a3k h C I;cases c with
       |nil=>grind[Ty.cells]
       |cons z0 c=>
        (have z:c.length=v.cells:=by grind[Ty.cells]);simp[Fq]at hzr;obtain⟨us,O,P,Q,R⟩:=dL h v (i+1) r vs' hr (λp F=>hops p (by grind)) (λj A=>by
         have:=hpl (j+1) (by grind);rwa [show i+(j+1)=i+1+j from by omega]at this) (f++[a.eval o]) c (by grind) z (by
         grind)
        refine⟨a.eval o::us,by simp_all,by simp_all,?_,λj y A=>?_⟩;rw[B9];have K:=hpl 0 (by grind);simp_all[b1y];grind
    simp_all
 |.unit,_,_::_,_,b,_,_,_,_,_,_,_=>by simp[AE.tL]at b
 |.int _,_,_,_,b,_,_,_,_,_,_,_=>by simp[AE.tL]at b
 |.bool,_,_,_,b,_,_,_,_,_,_,_=>by simp[AE.tL]at b
 |.str,_,_,_,b,_,_,_,_,_,_,_=>by simp[AE.tL]at b
 |.list _ _,_,_,_,b,_,_,_,_,_,_,_=>by simp[AE.tL]at b
 |.arr _ _,_,_,_,b,_,_,_,_,_,_,_=>by simp[AE.tL]at b
theorem a5e:∀(τ:Ty)(k:Nat)(l:List (Nat×Operand)) (b:List AV),U.tL k τ l=kd b->b.length=τ.cells/\∀{P:Program} fs,AU P τ (.inr (fs,k))=ka->fs.length=b.length/\∀(j:Nat) f,fs[j]?=kd f->f.offset=k+j/\∃τ',AU P τ' (.inl f.type)=ka/\τ'.cells=1|.unit,k,[],b,g=>by simp only[AE.tL,sj]at g;subst g;exact⟨rfl,λfs h=>by cases fs with|nil=>simp|cons f r=>simp[AU]at h⟩|.pair u v,k,l,b,g=>(by(have q:∀x d a,u.cells=1->U.tL (k+1) v d=kd a->b=x::a->b.length=(Ty.pair u v).cells/\∀{P:Program} fs,AU P (.pair u v) (.inr (fs,k))=ka->fs.length=b.length/\∀(j:Nat) f,fs[j]?=kd f->f.offset=k+j/\∃τ',AU P τ' (.inl f.type)=ka/\τ'.cells=1:=λx d a A m e=>by subst e;have⟨y,z⟩:=a5e v (k+1) d a m;refine⟨by grind[Ty.cells],λfs h=>?_⟩;cases fs with|nil=>simp[AU]at h|cons f fs=>simp[AU]at h;grind);(have zero:((PK u).bind λx=>(U.tL (k+1) v l).map (x::·))=kd b->b.length=(Ty.pair u v).cells/\∀{P:Program} fs,AU P (.pair u v) (.inr (fs,k))=ka->fs.length=b.length/\∀(j:Nat) f,fs[j]?=kd f->f.offset=k+j/\∃τ',AU P τ' (.inl f.type)=ka/\τ'.cells=1:=λhb=>by cases hx:PK u with|none=>simp_all|some x=>rw[hx]at hb;cases m:U.tL (k+1) v l with|none=>simp_all|some a=>rw[m]at hb;cases hb;exact q x l a (by cases u<;>first|(cases hx;done)|rfl) m rfl);cases l with|nil=>exact zero g|cons p r=>have⟨i,o⟩:=p;simp[AE.tL]at g;rcases Ah g with⟨-,c⟩|⟨-,c⟩;(have⟨w,c⟩:=(Ah c).elim id λh=>by grind);(simp at w;cases m:U.tL (k+1) v r with|none=>simp_all|some a=>grind);grind)|.unit,_,_::_,_,g=>by simp[AE.tL]at g|.int _,_,_,_,g=>by simp[AE.tL]at g|.bool,_,_,_,g=>by simp[AE.tL]at g|.str,_,_,_,g=>by simp[AE.tL]at g|.list _ _,_,_,_,g=>by simp[AE.tL]at g|.arr _ _,_,_,_,g=>by simp[AE.tL]at g
theorem a0x{o:Oper}{t:TypeId}{A:Array (Nat×Operand)}{d:Nat}{cx:Cx}{q:Bool}{K:AE->Rs Z}{z:Z}{τ:Ty}(L:CxTy P cx)(V:o.op=.build t A)(hd:o.dst=kd d)(hO:cx.O d=kd τ)(S:cx.yL d t=ke) (h:sH B U N (AJ a) w M)(hN:a.tmps.size=N)(hf:fits N o=ka)(F:Bg cx q o U K=kd z):AW P B N o a w K z:=by
 have c:∀y∈(o.op.operands.toList),Cw N y=ka:=Bl hf;rw[V]at c;have r:∀y∈A.toList,Cw N y.2=ka:=λy hy=>c y.2 (by simp only[Op.operands];grind)
 simp only[Bg,V,hd,hO,S]at F;split at F;rename_i hT;split at F;rename_i vs g;have⟨m,h0⟩:=(Ah F).elim id λh=>by grind
 have m:0<τ.cells:=by simp_all
 have E:AU P τ (.inl t)=ka:=by rw[<-Gl];exact(L.T t _ hT).2
 have⟨h4,g4⟩:=a5e τ 0 A.toList vs g;cases τ with|pair u v=>((have⟨I⟩:=AL (AZ E);have⟨H,hu,hs⟩:=Rh (f:=0) E rfl;have⟨g5,g6⟩:=g4 _ hs;have⟨l,h1,h2,h3⟩:=Vl (P:=P) (w:=w) H.toList (Nl _ _ _ hs);have hm:(H.mapM λf=>do pure (f.offset,<-sizeOf f.type):Sem (Array (Nat×Nat))).run P w=.ok l.toArray w:=by simp_all[D0]);(have X:∀j,j<(Ty.pair u v).cells->(λi=>l.toArray[i]?) (0+j)=kd (0+j,1):=λj hj=>by(have Q:j<H.toList.length:=by omega);(have C:=lG Q;have⟨i,hi,hl⟩:=h3 j _ C;have⟨e1,τ',e2,e3⟩:=g6 j _ C;have⟨G⟩:=AL (AZ e2);have e4:i=G.i:=by have:=hi.symm.trans G.info;simp_all);simp;rw[hl,e1,e4,G.size,e3,C1]);(obtain⟨us,k1,-,b,k4⟩:=dL h (Ty.pair u v) 0 A.toList vs g r X [] I.z.cells.toList rfl (by simpa using I.uY) (by simpa using I.zok);simp at b;have Y:(A.map λ(i,x)=>(i,a.eval x)).toList=A.toList.map λp=>(p.1,a.eval p.2):=by simp);(have D:(execOp a.eval o).run P w=.ok (.value (.agg us.toArray)) w:=by simp only[execOp,V,Instr.build,Sem.run_bind,I.zeroValue,Result.andThen_ok,run_underlying hu,hm,Y,b];simp);(refine⟨_,w,_,M,.inl D,?_,h0⟩;rw[hd];refine h.uL hN (λ_=>⟨_,⟨by simp_all,rfl,λk x hx=>?_⟩,λk av hk=>?_⟩);rw[List.getElem?_toArray]at hx;have R:k<vs.length:=by grind);obtain⟨u',q1,q2,-⟩:=k4 k _ (lG R);simp_all;grind)|unit=>simp[Ty.cells]at m|int k=>simp[AE.tL]at g|bool=>simp[AE.tL]at g|str=>simp[AE.tL]at g|list o' e=>simp[AE.tL]at g|arr n e=>simp[AE.tL]at g|nl e=>simp[AE.tL]at g
 simp_all;simp_all
end
end Go.Ab
