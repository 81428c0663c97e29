/- Part of the proof: QUZ. Conditions: as each statement tells. -/
import Derived.Test.YtbadoabamddpfaaGreatDoorRows
import Derived.ProofKit
import Derived.LaidMore
import Derived.LaidLaws
import Derived.LaidHandle
import Derived.LaidByTextLater
import Derived.OpenShut
import Derived.Handed
import Derived.KernelRfl
import Derived.Test.YtbadoabamddpfaaGreatDoorMF
noncomputable section
set_option linter.unusedSimpArgs false
set_option linter.unusedVariables false
open BitVec renaming xor_assoc→a00,getLsbD_ushiftRight→a01,msb_eq_getLsbD_last→a03,eq_of_getLsbD_eq→a05,xor_comm→a07,xor_zero→a21,getLsbD→a22
open List renaming replicate→a02,range→a04,map_map→a06,foldl_cons→a08,eq_replicate_iff→a09,range_add→a16,getD_cons_succ→a17,map_congr_left→a18,mem_map→a19,foldl_append→a20
namespace Go.Ab
def crE(s:BitVec 16):BitVec 16:=bif s.msb then(s <<< 1) ^^^ 32773#16 else s <<< 1
theorem c1G(s t:BitVec 16):crE (s ^^^ t)=crE s ^^^ crE t:=by
 unfold crE;rw[BitVec.msb_xor,BitVec.shiftLeft_xor_distrib];cases s.msb<;>cases t.msb<;>simp only[cT,cF,Bool.xor_true,Bool.xor_false,bT,Bool.not_false];rw[a00];rw[a00,a00,a07 (t <<< 1)];rw[a00,a07 32773#16,a00,BitVec.xor_self,a21]
theorem c4A{s:BitVec 16}(h:crE s=0):s=0:=by
 unfold crE at h;cases hm:s.msb with
 |true=>
  rw[hm,cT]at h
  have:=congrArg (fun x=>a22 x 0) h
  simp at this
 |false=>
  rw[hm,cF]at h;refine a05 fun i g=>?_
  by_cases h15:i=15
  subst h15;rw[a03]at hm;simpa using hm
  have:=congrArg (fun x=>a22 x (i+1)) h
  simp at this;simpa using this (by omega)
theorem c8g:crE 0=0:=by decide
theorem b6w{s:BitVec 16}:∀{n:Nat},rep crE n s=0→s=0
 |0,h=>h
 |n+1,h=>c4A (b6w (n:=n) h)
theorem c5n:∀n:Nat,rep crE n 0=0
 |0=>rfl
 |n+1=>by
  show rep crE n (crE 0)=0;rw[c8g,c5n n]
def crB(b:Bool):BitVec 16:=bif b then 32768#16 else 0#16
def crS(s:BitVec 16)(b:Bool):BitVec 16:=crE (s ^^^ crB b)
def crT:List Bool→BitVec 16
 | []=>0#16
 |b::w=>crB b ^^^ (crT w >>> 1)
theorem c5Q(b:Bool)(j:Nat):(crB b).getLsbD j=(b&&decide (j=15)):=by
 cases b with
 |false=>simp[crB]
 |true=>
  simp only[crB,cT,Bool.true_and];rw[show(32768#16)=BitVec.ofNat 16 (2^15)from rfl,BitVec.getLsbD_ofNat,Nat.testBit_two_pow]
  by_cases h:j=15
  subst h;rfl;rw[decide_eq_false (by omega:¬ (15=j)),decide_eq_false h,Bool.and_false]
theorem b5o:∀(w:List Bool)(j:Nat),(crT w).getLsbD j=(decide (j<16)&&w.getD (15-j) false)
 | [],j=>by simp[crT]
 |b::w,j=>by
  rw[crT,BitVec.getLsbD_xor,c5Q,a01,b5o w]
  by_cases h:j=15
  subst h;simp
  by_cases h2:j<16
  rw[show 15-j=(15-(1+j))+1 from by omega,a17];simp[h,h2,show 1+j<16 from by omega];simp[h,h2,show ¬ (1+j<16)from by omega]
theorem c4B{w:List Bool}(h:w.length≤15):crE (crT w >>> 1)=crT w:=by
 have k:(crT w >>> 1).msb=false:=by
  rw[a03,a01,b5o];simp
 unfold crE;rw[k,cF];refine a05 fun i f=>?_
 rw[BitVec.getLsbD_shiftLeft,a01];cases i with
 |zero=>
  have g:(crT w).getLsbD 0=false:=by
   rw[b5o,lD,List.getElem?_eq_none (by omega)];rfl
  rw[g];simp
 |succ i=>rw[show 1+(i+1-1)=i+1 from by omega];simp[f]
theorem c6D:∀(w:List Bool)(s:BitVec 16),w.length≤16→w.foldl crS s=rep crE w.length (s ^^^ crT w)
 | [],s,_=>by simp[crT,rep]
 |b::w,s,h=>by
  rw[lC]at h;rw[a08,c6D w _ (by omega),crT,←a00];show _=rep crE w.length (crE (s ^^^ crB b ^^^ (crT w >>> 1)));rw[c1G,c4B (by omega)];rfl
theorem c0T{α:Type}(f g:α→Bool):∀(L:List α)(s t:BitVec 16),(L.map fun j=>xor (f j) (g j)).foldl crS (s ^^^ t)=(L.map f).foldl crS s ^^^ (L.map g).foldl crS t
 | [],_,_=>rfl
 |a::L,s,t=>by
  simp only[List.map_cons,a08];rw[←c0T f g L];congr 1;unfold crS;rw[←c1G];congr 1
  have:crB (xor (f a) (g a))=crB (f a) ^^^ crB (g a):=by cases f a<;>cases g a<;>rfl
  rw[this];simp only[a00];rw[←a00 t,a07 t,a00]
theorem b4l:∀(n:Nat)(s:BitVec 16),(a02 n false).foldl crS s=rep crE n s
 |0,_=>rfl
 |n+1,s=>by
  rw[List.replicate_succ,a08,b4l n];show rep crE n (crE (s ^^^ 0#16))=rep crE n (crE s);rw[a21]
theorem c8h{w:List Bool}(h:w.length≤16)(a:true∈w)(k m:Nat):(a02 k false++(w++a02 m false)).foldl crS 0≠0:=by
 rw[a20,a20,b4l,b4l,c5n,c6D w _ h];intro e;have e:=b6w (b6w e);have e:crT w=0:=by simpa using e
 obtain⟨i,f,g⟩:=List.mem_iff_getElem.1 a
 have:=b5o w (15-i)
 rw[e,show 15-(15-i)=i from by omega,lD,lG f,g]at this;simp at this;omega
def byb(c:Int):List Bool:=[7,6,5,4,3,2,1,0].map fun i=>c.toNat.testBit i
def b5p(p:List Int):List Bool:=p.flatMap byb
def c6E(c:Int):Prop:=0≤c∧c<256
def a8m(p:List Int)(j:Nat):Bool:=(p.getD (j / 8) 0).toNat.testBit (7-j%8)
theorem b6x:∀p:List Int,b5p p=(a04 (8*p.length)).map (a8m p)
 | []=>rfl
 |c::p=>by
  have e:b5p (c::p)=byb c++b5p p:=rfl;rw[e,b6x p,lC,show 8*(p.length+1)=8+8*p.length from by omega,a16,pA,a06];congr 1;refine a18 fun j _=>?_
  show a8m p j=a8m (c::p) (8+j);unfold a8m;rw[show(8+j) / 8=j / 8+1 from by omega,a17,show(8+j)%8=j%8 from by omega]
structure Turn (b k i:Nat) (p0 p:List Int) (sm:Bool):Prop where
 len:p.length=p0.length
 ok:∀c∈p,c6E c
 bit:∀j,a8m p j=xor (a8m p0 j) (decide (k≤j∧j<k+i)&&b.testBit (j-k))
 smk:sm=true↔∃t,t<i∧b.testBit t=true
 pre:p.take (k / 8)=p0.take (k / 8)
 same:sm=false→p=p0
theorem turned{b k:Nat}{p0 q:List Int}{s:Bool}(w:k<8*p0.length)(i:(b5p p0).foldl crS 0=0)(g:Turn b k (min 16 (8*p0.length-k)) p0 q s)(u:s=true):(b5p q).foldl crS 0≠0:=by
 obtain⟨n,r⟩:∃n,min 16 (8*p0.length-k)=n:=⟨_,rfl⟩;rw[r]at g;have e:b5p q=(a04 (8*p0.length)).map fun j=>xor (a8m p0 j) (decide (k≤j∧j<k+n)&&b.testBit (j-k)):=by
  rw[b6x,g.len];exact a18 fun j _=>g.bit j
 have h:=c0T (a8m p0) (fun j=>decide (k≤j∧j<k+n)&&b.testBit (j-k)) (a04 (8*p0.length)) 0 0;have a:∀x:BitVec 16,(0:BitVec 16) ^^^ x=x:=fun _=>BitVec.zero_xor;rw[a,←e,←b6x,i,a]at h;rw[h];obtain⟨m,p⟩:∃m,8*p0.length=k+(n+m):=⟨8*p0.length-k-n,by omega⟩;rw[p,a16,a16,pA,pA,pA,a06,a06,a06];have c:(a04 k).map (fun j=>decide (k≤j∧j<k+n)&&b.testBit (j-k))=a02 k false:=by
  rw[a09];refine⟨by simp,fun x f=>?_⟩;obtain⟨j,o,rfl⟩:=a19.1 f
  grind
 have d:(a04 m).map (((fun j=>decide (k≤j∧j<k+n)&&b.testBit (j-k))∘(k+·))∘(n+·))=a02 m false:=by
  rw[a09];refine⟨by simp,fun x f=>?_⟩;obtain⟨j,o,rfl⟩:=a19.1 f
  grind
 rw[c,d];refine c8h (by simp;omega) ?_ k m;obtain⟨t,l,v⟩:=g.smk.1 u;refine a19.2 ⟨t,List.mem_range.2 l,?_⟩;simp_all
end Go.Ab
namespace Go.Proofs.YtbadoabamddpfaaGreatDoor
open Go.Ab Go.ChangeShapes Go.WideShapes Go.ChangeAt Go.RowKit
theorem b5i{α:Type}{f:Nat→Option (α×b0a×List Nat)}:∀(L:List α)(i:Nat),(∀(j:Nat) x,L[j]?=some x→f (i+j)=some (x,[],[]))→a0c f L.length i=some (L,[],[])
 | [],_,_=>rfl
 |a::L,i,h=>by
  have g:=h 0 a rfl;have k:=b5i L (i+1) (fun j x b=>by have:=h (j+1) x (by simpa using b);rw[←this];congr 1;omega);simp only[lC,a0c];simp only[Nat.add_zero]at g;rw[g,k];rfl
section
variable {H:Type} {enc:TypeId×Value→H} {P:Program} {w:World} {base:Nat} {spare:Nat→Bool} {held:Bool}
theorem b9d{k:IntKind}{n:Nat}{t e:TypeId}{fuel:Nat}{cs:List Value}{L:List Int}{p:List MemPlace}(B:P.underlying t=some (.array n e))(u:P.underlying e=some (.int k))(s:P.cellsOf e=1)
  (h:DataW.trod enc P w base spare held fuel t cs=some (.agg (L.map fun i=>.lit (.int k i)),p)):L.length=n∧∀(j:Nat) x,L[j]?=some x→cs[j]?=some (.int k x):=by
 obtain⟨C,m,rfl,b,-,A,a⟩:=DataW.trod_array B h;simp only[pJ,DataW.agg.injEq]at b;have z:L.length=n:=by rw[←A];simpa using congrArg List.length b.1
 refine⟨z,fun j x c=>?_⟩;obtain⟨v,-⟩:=lS.1 c;have g:=a j (by omega);rw[s]at g;obtain⟨y,d⟩:∃y,C[j]?=some y:=⟨_,lG (by omega)⟩;rw[d]at g;obtain⟨i,o,q,-⟩:=DataW.trod_int u g;have f:=congrArg (fun l=>l[j]?) b.1;simp only[List.getElem?_map,c,d,Option.map_some,q]at f;simp only[sj,DataW.lit.injEq,Lit.int.injEq,true_and]at f;subst f;have r:=congrArg (fun l=>l[0]?) o;simpa[List.getElem?_drop,List.getElem?_take]using r
end
def c1H : String := (Rows.frameTurnedRow.laid.map Prod.fst).headD ""
theorem d1J:Tryz.prog.globalNamed c1H=some 0:=by kernel_rfl
def c4C:TypeId:=((Tryz.prog.globals[0]?).map (·.type)).getD 0
theorem c5R:(Tryz.prog.globals[0]?).map (·.type)=some c4C:=by kernel_rfl
def c4D:TypeId:=match Tryz.prog.underlying c4C with
 |some (.array _ e)=>e
 |_=>0
theorem d1K:Tryz.prog.underlying c4C=some (.array 64 c4D):=by kernel_rfl
theorem c8i:Tryz.prog.underlying c4D=some (.int .u8):=by kernel_rfl
theorem c8j:Tryz.prog.cellsOf c4D=1:=by kernel_rfl
@[reducible] def laidTab:List (String×DataW Unit):=[(c1H,Rows.laid_math_bits_deBruijn64tab)]

theorem c6F {g:Nat} {t:Ty} {x:t.den} (h:G0 g=some ⟨t,x⟩):g=0∧(⟨t,x⟩:(t:Ty)×t.den)=⟨.arr 64 (.int .u8),a9r⟩:=by
 unfold G0 find at h
 cases g with
 |zero=>exact⟨rfl,(Option.some.inj h).symm⟩
 |succ n=>exact absurd h (by simp[find])
theorem c0U{W:World}(h:laidMetH Tryz.prog laidTab W):∀g t x,G0 g=some ⟨t,x⟩→g<W.heap.size∧dec (a0a W none) t ((Src.at g 0).rd (a0a W none))=some (x,[],[]):=by
 rw[MakeChecks.laidMetH_plain _ _ _ (by kernel_rfl)]at h;obtain⟨ps,⟨r,w,m,q,u,v,b,c,d,a,_⟩,_,_⟩:=h;obtain rfl:=Option.some.inj (d1J.symm.trans b);obtain rfl:=Option.some.inj (c5R.symm.trans c);have n:(Rows.laid_math_bits_deBruijn64tab:DataW Unit)=.agg (a9r.map fun i=>.lit (.int .u8 i)):=rfl;rw[n]at a;obtain⟨s,p⟩:=b9d d1K c8i c8j a;have k:∀(j:Nat) x,a9r[j]?=some x→W.cell? ⟨0,j,none⟩=some (.int .u8 x):=fun j x l=>by
  rw[World.var?_cell b d j];simpa using p j x l
 intro g t x o;obtain⟨rfl,e⟩:=c6F o;cases e;refine⟨y0k (k 0 0 rfl),?_⟩;exact b5i (f:=fun i=>dec (a0a W none) (.int .u8) fun j=>(Src.at 0 0).rd (a0a W none) (i*1+j)) a9r 0 (fun j x l=>by
  have:=k j x l
  simp only[dec,Src.rd,a0a,Nat.zero_add,Nat.mul_one,Nat.add_zero,this,if_true])
set_option maxRecDepth 100000 in
theorem c4E (os:Os) (args:Array Value):laidMetH Tryz.prog laidTab ((World.doorLaid Tryz.prog 400 os).forCall (fun _ _=>0) ⟨#[],args,[]⟩).memory:=
 laidMetH_of_parts3 (fuel:=8) (laidMet_of_run' 8 (by kernel_rfl) (by kernel_rfl)) (by kernel_rfl) (by kernel_rfl)
end Go.Proofs.YtbadoabamddpfaaGreatDoor
