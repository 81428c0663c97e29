/- Part of the proof: It. Conditions: as each statement tells. -/
import Derived.RangeFuncBound
import Derived.RangeFuncCalls
import Derived.RangeFuncBox
import Derived.WalkKit
import Derived.OwnWalkIn
import Derived.TacticsInMore
import Derived.LoopNIn
import Derived.LoopIn
import Derived.Test.YtbadoabamddpfaaGreatDoorProg
import Derived.KernelRfl
import Derived.Test.YtbadoabamddpfaaGreatDoorMD
noncomputable section
set_option linter.unusedSimpArgs false
set_option linter.unusedVariables false
open Array renaming replicate_succ→a17,replicate_zero→a18
open Bool renaming true_and→a29
open Int renaming toNat→a00,tdiv→a05,tmod→a07
open List renaming replicate→a01,length→a02,append→a03,getD→a04,take→a06,set→a08,nil_append→a09,drop→a16,append_toArray→a19,cons_append→a20,size_toArray→a22,push_toArray→a23,length_nil→a24,drop_eq_getElem_cons→a27,drop_length→a30,drop_zero→a31,append_eq→a32,getElem_mem→a34
open Nat renaming lt_trans→a21,reduceAdd→a25,reduceSub→a26,le_refl→a33
open Option renaming getD_some→a28
namespace Go.Ab
open Go.Proofs Go.RowKit
attribute [local go_sem] Oper.semAt_some
set_option maxHeartbeats 1000000 in
theorem d0W:z0a Tryz.prog 297 326:=by
 refine⟨⟨_,_,Tryz.func297,rfl,by kernel_rfl⟩,fun A len cap w=>(callsIn_wide (n:=3)).1 ?_⟩
 refine callsIn_of_wp Tryz.func297 rfl trivial ?_
 simp only[Tryz.ntmps297,a22,lC,a24,a25,a26,a17,a18,a23,a19,a09,a20]
 gi_wp2
 go_ret
 exact⟨rfl,_,rfl⟩
@[reducible] def b4s:Ty:=.pair (.int .i64) (.pair (.int .i64) .unit)
set_option maxRecDepth 100000 in
set_option maxHeartbeats 2000000 in
theorem c8B (l Bs b off len cap:Nat) (p q:Nat→Int) (J:Nat→World→Prop) (Jx:World→Prop) (W:World)
  (hJ:∀k W',J k W'→W'.cell? ⟨Bs,0,none⟩=some (.slice (some ⟨b,off,none⟩) len cap))
  (hlen:len<2147483648)
  (hcs:∀k W',k<len→J (k+1) W'→W'.cell? ⟨b,off+k*2,none⟩=some (.int .i64 (p k))∧W'.cell? ⟨b,off+k*2+1,none⟩=some (.int .i64 (q k)))
  (hY:∀n W',n<len→J (n+1) W'→YieldAt (Fr none) 0 Tryz.prog l #[.int .i64 (n:Int),.agg #[.int .i64 (p n),.int .i64 (q n)]] W' fun en W''=>(en=.returned (.bool true)∧J n W'')∨(en=.returned (.bool false)∧Jx W''))
  (h0:J len W):
  CallsIn (Fr none) 0 Tryz.prog 326 #[.func (.yield l) #[] #[],.pointer (some ⟨Bs,0,none⟩)] W fun en W'=>(∃v,en=.returned v)∧(J 0 W'∨Jx W'):=by
 refine callsIn_of_wp Tryz.func326 rfl trivial ?_
 simp only[Tryz.ntmps326,a22,lC,a24,a25,a26,a17,a18,a23,a19,a09,a20]
 have hBs:=hJ _ _ h0
 gi_wp2
 gi_loopw [3] (fun i wr=>∃k:Nat,k≤len∧i=.int .i64 ((k:Int)-1)∧J k wr) (fun i _=>(intOf i+1).toNat)
 case atStart=>exact⟨len,a33 _,rfl,h0⟩
 case round=>
  obtain⟨k,hk,rfl,hJs⟩:=hrel
  cases k with
  |succ n=>
   obtain⟨fn,tmps,assign,body,hy,hR⟩:=hY n wr (by omega) hJs
   have hcx:=hJ _ _ hJs
   obtain⟨hc0,hc1⟩:=hcs n wr (by omega) hJs
   gi_wp2
   refine hR.mono ?_
   rintro e W3 (⟨rfl,hJ3⟩|⟨rfl,hJx3⟩)
   ·gi_wp2
    go_roundw
    case rel=>exact⟨n,by omega,by simp,hJ3⟩
    case measure=>simp[intOf]
   ·gi_wp2
    refine bodyPost_ret (results_none rfl _ _ _) rfl ?_
    exact⟨⟨_,rfl⟩,.inr hJx3⟩
  |zero=>
   gi_wp2
   go_end0
   exact⟨⟨_,rfl⟩,.inl hJs⟩
set_option maxRecDepth 100000 in
set_option maxHeartbeats 2000000 in
theorem c7C (l Bs:Nat) (A:Option Addr) (c:Nat) (J:Nat→World→Prop) (W:World) (hBs:W.cell? ⟨Bs,0,none⟩=some (.slice A 0 c)) (h0:J 0 W):
  CallsIn (Fr none) 0 Tryz.prog 326 #[.func (.yield l) #[] #[],.pointer (some ⟨Bs,0,none⟩)] W fun en W'=>(∃v,en=.returned v)∧J 0 W':=by
 refine callsIn_of_wp Tryz.func326 rfl trivial ?_
 simp only[Tryz.ntmps326,a22,lC,a24,a25,a26,a17,a18,a23,a19,a09,a20]
 gi_wp2
 gi_loopw [3] (fun i wr=>i=.int .i64 (-1)∧J 0 wr) (fun _ _=>0)
 case atStart=>exact⟨rfl,h0⟩
 case round=>
  obtain⟨rfl,hJs⟩:=hrel
  gi_wp2
  go_end0
  exact⟨⟨_,rfl⟩,hJs⟩
theorem c2L{m:Mem}{Sh:Nat→Prop}{b o:Nat}{x:b4s.den}{R}(h:dec m b4s ((Src.at b o).rd m)=some (x,[],R)):
  m b o=some (.int .i64 x.1)∧m b (o+1)=some (.int .i64 x.2.1)∧VOk m Sh b4s x (.agg #[.int .i64 x.1,.int .i64 x.2.1]):=by
 obtain⟨p,q,u⟩:=x;simp only[b4s,dec,Src.rd,Ty.cells,Nat.add_zero]at h
 split at h
 cases h;rename_i r o1 j g
 split at g
 rename_i n c
 split at g
 rename_i e;subst e;simp only[sj]at g;obtain⟨rfl,rfl,rfl⟩:=g
 split at h
 cases h;rename_i s o2 r2 k
 split at k
 cases k;rename_i t i l f
 split at f
 rename_i d a
 split at f
 rename_i e;subst e;simp only[sj]at f k h;obtain⟨rfl,rfl,rfl⟩:=f;obtain⟨rfl,rfl,rfl⟩:=k;obtain⟨⟨rfl,rfl,rfl⟩,-,-⟩:=h;exact⟨c,a,fun _=>⟨_,rfl,rfl⟩,fun h=>(by cases h),[],rfl,by simp⟩;cases f;cases f;cases g;cases g
theorem b7D {P:Program} {f:FuncId} (hb:i0o P f) (args:Array Value) (w:World):(callFunc f args).run P w=.ok (.enter f args) w:=by
 obtain ⟨fn,c',h1,h2,h3⟩:=hb;have h4 : ¬ fn.name = "runtime.NumGoroutine" := by simpa using h3
 simp [callFunc,program,Sem.run,h1,h2,h4,Result.andThen]
theorem d0X:v0q Tryz.prog 326 b4s:=by
 refine⟨fun args w=>b7D ⟨_,_,Tryz.func326,rfl,by kernel_rfl⟩ args w,fun l Bs sv f J D W i t L o=>?_⟩;obtain⟨z,Sh,y⟩:=t _ _ o;obtain⟨A,n,c,rfl,rfl,N,v,j⟩:=y.header
 by_cases hx0:f.length=0
 rw[hx0]at o z;exact(c7C l Bs A c J W z o).mono fun e g h=>⟨h.1,.inl h.2⟩;cases A with
 |none=>have:=j rfl;omega
 |some A=>
  obtain⟨b,off,B⟩:=A
  have:=(v _ rfl).resolve_left (by omega)
  simp only at this;subst this;have u:∀k g,k<f.length→J (k+1) g→∃x,f[k]?=some x∧g.cell? ⟨b,off+k*2,none⟩=some (.int .i64 x.1)∧g.cell? ⟨b,off+k*2+1,none⟩=some (.int .i64 x.2.1):=by
   intro k g p d;obtain⟨-,a,hv⟩:=t _ _ d;obtain⟨C,O,E,R,e,F,G,H,s,I,K⟩:=hv.elem rfl (lG p);simp only[Value.slice.injEq,sj]at e;obtain⟨rfl,rfl,rfl⟩:=e;obtain⟨q,r,-⟩:=c2L (Sh:=a) s;exact⟨_,lG p,q,r⟩
  refine c8B l Bs b off f.length c (fun k=>((f[k]?).getD b4s.dflt).1) (fun k=>((f[k]?).getD b4s.dflt).2.1) J D W (fun k g d=>(t k g d).1) i (fun k g p d=>?_) (fun n g M d=>?_) o;obtain⟨x,m,q,r⟩:=u k g p d;simp only[m,a28];exact⟨q,r⟩;have m:f[n]?=some f[n]:=lG M;simp only[m,a28];refine L n _ _ g m d fun a hv=>?_
  obtain⟨C,O,E,R,e,F,G,H,s,I,K⟩:=hv.elem rfl m;exact(c2L (Sh:=a) s).2.2
set_option maxHeartbeats 1000000 in
theorem d0Y:z0a Tryz.prog 186 242:=by
 refine⟨⟨_,_,Tryz.func186,rfl,by kernel_rfl⟩,fun A len cap w=>(callsIn_wide (n:=3)).1 ?_⟩
 refine callsIn_of_wp Tryz.func186 rfl trivial ?_
 simp only[Tryz.ntmps186,a22,lC,a24,a25,a26,a17,a18,a23,a19,a09,a20]
 gi_wp2
 go_ret
 exact⟨rfl,_,rfl⟩
@[reducible] def b6O:Ty:=.pair (.int .i64) (.pair (.int .i64) (.pair (.int .i64) .unit))
set_option maxRecDepth 100000 in
set_option maxHeartbeats 2000000 in
theorem c8C (l Bs b off len cap:Nat) (p q r:Nat→Int) (J:Nat→World→Prop) (Jx:World→Prop) (W:World)
  (hJ:∀k W',J k W'→W'.cell? ⟨Bs,0,none⟩=some (.slice (some ⟨b,off,none⟩) len cap))
  (hlen:len<2147483648)
  (hcs:∀k W',k<len→J (k+1) W'→W'.cell? ⟨b,off+k*3,none⟩=some (.int .i64 (p k))∧W'.cell? ⟨b,off+k*3+1,none⟩=some (.int .i64 (q k))∧W'.cell? ⟨b,off+k*3+2,none⟩=some (.int .i64 (r k)))
  (hY:∀n W',n<len→J (n+1) W'→YieldAt (Fr none) 0 Tryz.prog l #[.int .i64 (n:Int),.agg #[.int .i64 (p n),.int .i64 (q n),.int .i64 (r n)]] W' fun en W''=>(en=.returned (.bool true)∧J n W'')∨(en=.returned (.bool false)∧Jx W''))
  (h0:J len W):
  CallsIn (Fr none) 0 Tryz.prog 242 #[.func (.yield l) #[] #[],.pointer (some ⟨Bs,0,none⟩)] W fun en W'=>(∃v,en=.returned v)∧(J 0 W'∨Jx W'):=by
 refine callsIn_of_wp Tryz.func242 rfl trivial ?_
 simp only[Tryz.ntmps242,a22,lC,a24,a25,a26,a17,a18,a23,a19,a09,a20]
 have hBs:=hJ _ _ h0
 gi_wp2
 gi_loopw [3] (fun i wr=>∃k:Nat,k≤len∧i=.int .i64 ((k:Int)-1)∧J k wr) (fun i _=>(intOf i+1).toNat)
 case atStart=>exact⟨len,a33 _,rfl,h0⟩
 case round=>
  obtain⟨k,hk,rfl,hJs⟩:=hrel
  cases k with
  |succ n=>
   obtain⟨fn,tmps,assign,body,hy,hR⟩:=hY n wr (by omega) hJs
   have hcx:=hJ _ _ hJs
   obtain⟨hc0,hc1,hc2⟩:=hcs n wr (by omega) hJs
   gi_wp2
   refine hR.mono ?_
   rintro e W3 (⟨rfl,hJ3⟩|⟨rfl,hJx3⟩)
   ·gi_wp2
    go_roundw
    case rel=>exact⟨n,by omega,by simp,hJ3⟩
    case measure=>simp[intOf]
   ·gi_wp2
    refine bodyPost_ret (results_none rfl _ _ _) rfl ?_
    exact⟨⟨_,rfl⟩,.inr hJx3⟩
  |zero=>
   gi_wp2
   go_end0
   exact⟨⟨_,rfl⟩,.inl hJs⟩
set_option maxRecDepth 100000 in
set_option maxHeartbeats 2000000 in
theorem c7D (l Bs:Nat) (A:Option Addr) (c:Nat) (J:Nat→World→Prop) (W:World) (hBs:W.cell? ⟨Bs,0,none⟩=some (.slice A 0 c)) (h0:J 0 W):
  CallsIn (Fr none) 0 Tryz.prog 242 #[.func (.yield l) #[] #[],.pointer (some ⟨Bs,0,none⟩)] W fun en W'=>(∃v,en=.returned v)∧J 0 W':=by
 refine callsIn_of_wp Tryz.func242 rfl trivial ?_
 simp only[Tryz.ntmps242,a22,lC,a24,a25,a26,a17,a18,a23,a19,a09,a20]
 gi_wp2
 gi_loopw [3] (fun i wr=>i=.int .i64 (-1)∧J 0 wr) (fun _ _=>0)
 case atStart=>exact⟨rfl,h0⟩
 case round=>
  obtain⟨rfl,hJs⟩:=hrel
  gi_wp2
  go_end0
  exact⟨⟨_,rfl⟩,hJs⟩
theorem c2i{m:Mem}{rd:Nat→Option Value}{x o r}(h:dec m (.int .i64) rd=some (x,o,r)):rd 0=some (.int .i64 x)∧o=[]∧r=[]:=by
 simp only[dec]at h
 split at h
 rename_i k n g
 split at h
 rename_i e;subst e;simp only[sj,pJ]at h;obtain⟨rfl,rfl,rfl⟩:=h;exact⟨g,rfl,rfl⟩;cases h;cases h
theorem b9X{m:Mem}{a b:Ty}{rd:Nat→Option Value}{x o r}(h:dec m (.pair a b) rd=some (x,o,r)):∃o1 g o2 r2,dec m a rd=some (x.1,o1,g)∧dec m b (fun j=>rd (a.cells+j))=some (x.2,o2,r2)∧o=o1++o2∧r=g++r2:=by
 simp only[dec]at h
 split at h
 cases h;rename_i c o1 g f
 split at h
 cases h;rename_i d o2 r2 k;simp only[sj,pJ]at h;obtain⟨rfl,rfl,rfl⟩:=h;exact⟨_,_,_,_,f,k,rfl,rfl⟩
theorem c3V{m:Mem}{Sh:Nat→Prop}{b o:Nat}{x:b6O.den}{R}(h:dec m b6O ((Src.at b o).rd m)=some (x,[],R)):
  m b o=some (.int .i64 x.1)∧m b (o+1)=some (.int .i64 x.2.1)∧m b (o+2)=some (.int .i64 x.2.2.1)∧VOk m Sh b6O x (.agg #[.int .i64 x.1,.int .i64 x.2.1,.int .i64 x.2.2.1]):=by
 obtain⟨_,_,_,_,g,f,-,-⟩:=b9X h;obtain⟨_,_,_,_,k,a,-,-⟩:=b9X f;obtain⟨_,_,_,_,c,-,-,-⟩:=b9X a;exact⟨(c2i g).1,(c2i k).1,(c2i c).1,fun _=>⟨_,rfl,rfl⟩,fun h=>(by cases h),[],rfl,by simp⟩
theorem d0Z:v0q Tryz.prog 242 b6O:=by
 refine⟨fun args w=>b7D ⟨_,_,Tryz.func242,rfl,by kernel_rfl⟩ args w,fun l Bs sv f J E W i u M o=>?_⟩;obtain⟨B,Sh,z⟩:=u _ _ o;obtain⟨A,n,c,rfl,rfl,O,y,j⟩:=z.header
 by_cases hx0:f.length=0
 rw[hx0]at o B;exact(c7D l Bs A c J W B o).mono fun e g h=>⟨h.1,.inl h.2⟩;cases A with
 |none=>have:=j rfl;omega
 |some A=>
  obtain⟨b,off,C⟩:=A
  have:=(y _ rfl).resolve_left (by omega)
  simp only at this;subst this;have v:∀k g,k<f.length→J (k+1) g→∃x,f[k]?=some x∧g.cell? ⟨b,off+k*3,none⟩=some (.int .i64 x.1)∧g.cell? ⟨b,off+k*3+1,none⟩=some (.int .i64 x.2.1)∧g.cell? ⟨b,off+k*3+2,none⟩=some (.int .i64 x.2.2.1):=by
   intro k g p d;obtain⟨-,a,hv⟩:=u _ _ d;obtain⟨D,P,F,R,e,G,H,I,t,K,L⟩:=hv.elem rfl (lG p);simp only[Value.slice.injEq,sj]at e;obtain⟨rfl,rfl,rfl⟩:=e;obtain⟨q,r,s,-⟩:=c3V (Sh:=a) t;exact⟨_,lG p,q,r,s⟩
  refine c8C l Bs b off f.length c (fun k=>((f[k]?).getD b6O.dflt).1) (fun k=>((f[k]?).getD b6O.dflt).2.1) (fun k=>((f[k]?).getD b6O.dflt).2.2.1) J E W (fun k g d=>(u k g d).1) i (fun k g p d=>?_) (fun n g N d=>?_) o;obtain⟨x,m,q,r,s⟩:=v k g p d;simp only[m,a28];exact⟨q,r,s⟩;have m:f[n]?=some f[n]:=lG N;simp only[m,a28];refine M n _ _ g m d fun a hv=>?_
  obtain⟨D,P,F,R,e,G,H,I,t,K,L⟩:=hv.elem rfl m;exact(c3V (Sh:=a) t).2.2.2
end Go.Ab
namespace Go.Ab
open IntKind(wrap)
open Go.Proofs
set_option maxRecDepth 100000
set_option linter.unusedVariables false
@[reducible] def QI:Ty:=.int .i64
@[reducible] def QL:Ty:=.list false QI
@[reducible] def Z0:Type:=(Unit ⊕ (Bool×Unit))
@[reducible] def Z1:Type:=((List (List Int))×Unit)
@[reducible] def Z2:Type:=((List Int)×(Int×Int))
@[reducible] def Z3:Type:=(Int×(Int×(List Int)))
@[reducible] def Z4:Type:=(Int×((List Int)×Unit))
@[reducible] def Z5:Type:=((List Int)×(Int×Unit))
@[reducible] def Z6:Type:=(List (Int×(Int×Unit)))
@[reducible] def Z7:Type:=(Int×(Int×(Int×Unit)))
@[reducible] def Z8:Type:=(Bool×((List Int)×Unit))
@[reducible] def Z9:Type:=(((List Int)×Unit)×Unit)
@[reducible] def Z10:Type:=(Int×(Int×(Bool×Unit)))
@[reducible] def Z11:Type:=((List Int)×((List Int)×Int))
@[reducible] def Z12:Type:=((List Int)×(Int×(List Int)))
@[reducible] def Z13:Type:=(Int×Z1)
@[reducible] def Z14:Type:=((List (List Int))×(Int×Unit))
@[reducible] def Z15:Type:=((List Int)×((List Int)×Unit))
@[reducible] def Z16:Type:=((List Int)×(Int×(Int×Unit)))
@[reducible] def Z17:Type:=(List Z7)
@[reducible] def Z18:Type:=(Int×Z4)
@[reducible] def Z19:Type:=(Int×Z5)
@[reducible] def Z20:Type:=(Int×Z8)
@[reducible] def Z21:Type:=((List Int)×(Int×(Bool×Unit)))
@[reducible] def Z22:Type:=(Int×Z7)
@[reducible] def Z23:Type:=(Z4×Unit)
@[reducible] def Z24:Type:=(Z5×Unit)
@[reducible] def Z25:Type:=(Int×Z9)
@[reducible] def Z26:Type:=(Int×Z10)
@[reducible] def Z27:Type:=((List (List Int))×(Int×(Int×Unit)))
@[reducible] def Z28:Type:=(Int×Z13)
@[reducible] def Z29:Type:=(Int×Z15)
@[reducible] def Z30:Type:=((List Int)×Z4)
@[reducible] def Z31:Type:=(Z13×Unit)
@[reducible] def Z32:Type:=(Int×Z16)
@[reducible] def Z33:Type:=(Int×Z18)
@[reducible] def Z34:Type:=((List Int)×Z7)
@[reducible] def Z35:Type:=(Z16×Int)
@[reducible] def Z36:Type:=((List Int)×Z10)
@[reducible] def Z37:Type:=(Int×Z20)
@[reducible] def Z38:Type:=(Int×Z22)
@[reducible] def Z39:Type:=(Int×Z24)
@[reducible] def Z40:Type:=(Z16×Unit)
@[reducible] def Z41:Type:=(Z6×(Int×Unit))
@[reducible] def Z42:Type:=(Int×Z25)
@[reducible] def Z43:Type:=(Bool×Z23)
@[reducible] def Z44:Type:=((List Int)×Z15)
@[reducible] def Z45:Type:=(Int×Z27)
@[reducible] def Z46:Type:=((List Int)×Z18)
@[reducible] def Z47:Type:=((List Int)×Z16)
@[reducible] def Z48:Type:=(Int×Z29)
@[reducible] def Z49:Type:=(Z29×Int)
@[reducible] def Z50:Type:=(Int×Z31)
@[reducible] def Z51:Type:=(Int×Z32)
@[reducible] def Z52:Type:=(((List Int)×Unit) ⊕ Z4)
@[reducible] def Z53:Type:=(Z4×((List Int)×Unit))
@[reducible] def Z54:Type:=((List Int)×Z21)
@[reducible] def Z55:Type:=(Z29×Unit)
@[reducible] def Z56:Type:=((List Int)×Z23)
@[reducible] def Z57:Type:=(Int×Z34)
@[reducible] def Z58:Type:=(Bool×Z31)
@[reducible] def Z59:Type:=(Int×Z39)
@[reducible] def Z60:Type:=(Int×Z40)
@[reducible] def Z61:Type:=(Bool×Z40)
@[reducible] def Z62:Type:=(Int×Z44)
@[reducible] def Z63:Type:=(Int×Z46)
@[reducible] def Z64:Type:=((List Int)×Z32)
@[reducible] def Z65:Type:=((List Int)×Z34)
@[reducible] def Z66:Type:=(Z4×Z3)
@[reducible] def Z67:Type:=((List Int)×Z33)
@[reducible] def Z68:Type:=(Int×Z50)
@[reducible] def Z69:Type:=(Int×Z55)
@[reducible] def Z70:Type:=(Int×Z56)
@[reducible] def Z71:Type:=((List Int)×Z40)
@[reducible] def Z72:Type:=(Z32 ⊕ (Int×Unit))
@[reducible] def Z73:Type:=(Int×Z60)
@[reducible] def Z74:Type:=(Int×Z61)
@[reducible] def Z75:Type:=(Z16 ⊕ Z0)
@[reducible] def Z76:Type:=(Int×Z62)
@[reducible] def Z77:Type:=((List Int)×Z48)
@[reducible] def Z78:Type:=((List Int)×Z46)
@[reducible] def Z79:Type:=((List Int)×Z51)
@[reducible] def Z80:Type:=(Int×Z63)
@[reducible] def Z81:Type:=((List Int)×Z53)
@[reducible] def Z82:Type:=((List Int)×Z55)
@[reducible] def Z83:Type:=((List Int)×Z54)
@[reducible] def Z84:Type:=(Int×Z69)
@[reducible] def Z85:Type:=(Int×Z70)
@[reducible] def Z86:Type:=((List Int)×Z59)
@[reducible] def Z87:Type:=(Int×Z71)
@[reducible] def Z88:Type:=(Z4×Z23)
@[reducible] def Z89:Type:=(Z5×Z23)
@[reducible] def Z90:Type:=(Int×Z73)
@[reducible] def Z91:Type:=(Int×Z77)
@[reducible] def Z92:Type:=(Int×Z82)
@[reducible] def Z93:Type:=(Int×Z84)
@[reducible] def Z94:Type:=(Int×Z85)
@[reducible] def Z95:Type:=(Int×Z86)
@[reducible] def Z96:Type:=(Int×Z87)
@[reducible] def Z97:Type:=(Int×Z92)
@[reducible] def Z98:Type:=(Z17×Z31)
@[reducible] def Z99:Type:=((List Int)×Z89)
@[reducible] def c6c:Type:=(Int×Z96)
@[reducible] def c6d:Type:=((List Int)×Z94)
@[reducible] def d4x:Type:=(Int×Z99)
@[reducible] def d4y:Type:=(Z6×Z81)
@[reducible] def d4z:Type:=(Int×d4x)
@[reducible] def c6e:Type:=(Z4×Z88)
@[reducible] def d4A:Type:=((List Int)×d4y)
@[reducible] def c3W:Type:=((List Int)×d4z)
@[reducible] def d4B:Type:=((List Int)×d4A)
@[reducible] def d4C:Type:=(Int×d4B)
@[reducible] def d4D:Type:=(Int×d4C)
@[reducible] def d4E:Type:=(Int×d4D)
@[reducible] def d4F:Type:=(Int×d4E)
@[reducible] def a1E:Type:=(Int×d4F)
@[reducible] def b3n:Type:=(List a1E)
@[reducible] def b0T:Type:=(a1E×Int)
@[reducible] def b6P:Type:=(a1E×Unit)
@[reducible] def c8D:Type:=(b3n×Unit)
@[reducible] def c6f:Type:=(Bool×b6P)
@[reducible] def d4G:Type:=((List Int)×b6P)
@[reducible] def c2j:Type:=(Int×c6f)
@[reducible] def c6g:Type:=(b3n×((List Int)×Unit))
@[reducible] def d4H:Type:=(Int×d4G)
@[reducible] def d4I:Type:=(((List Int)×Unit)×b6P)
@[reducible] def c6h:Type:=(Int×c2j)
@[reducible] def c6i:Type:=(Int×d4H)
@[reducible] def d4J:Type:=(Z5×b6P)
@[reducible] def d4K:Type:=(Int×d4I)
@[reducible] def c6j:Type:=(Int×d4J)
@[reducible] def d1C:Type:=(Z16×b6P)
@[reducible] def c6k:Type:=(a1E×Z40)
@[reducible] def c6l:Type:=(Int×d4K)
@[reducible] def d4L:Type:=(Z17×c8D)
@[reducible] def b5L:Type:=(Int×c6j)
@[reducible] def c8E:Type:=(Int×d1C)
@[reducible] def c2k:Type:=(Int×c8E)
@[reducible] def d4M:Type:=(Z7×d4L)
@[reducible] def d4N:Type:=(Int×d4M)
@[reducible] def a4I:Type:=(Int×d4N)
@[reducible] def a9n:Type:=(a4I×Unit)
@[reducible] def c6m:Type:=(Z13×a9n)
@[reducible] def c2l:Type:=(a4I×Z40)
@[reducible] def b1W:Type:=(a1E×b6P)
@[reducible] def d4O:Type:=(Int×b1W)
@[reducible] def c6n:Type:=(Int×d4O)
@[reducible] def Q0:Ty:=(.pair QI .unit)
@[reducible] def Q1:Ty:=(.pair (.list true (.int .u8)) .unit)
@[reducible] def Q2:Ty:=(.pair (.list true QI) .unit)
@[reducible] def Q3:Ty:=(.pair QL .unit)
@[reducible] def Q4:Ty:=(.pair QI Q0)
@[reducible] def Q5:Ty:=(.pair (.list false QL) .unit)
@[reducible] def Q6:Ty:=(.pair (.list true (.int .u8)) Q0)
@[reducible] def Q7:Ty:=(.pair QI Q2)
@[reducible] def Q8:Ty:=(.pair QI Q3)
@[reducible] def Q9:Ty:=(.pair QI Q4)
@[reducible] def Q10:Ty:=(.pair (.list true QI) Q2)
@[reducible] def Q11:Ty:=(.pair QI Q5)
@[reducible] def Q12:Ty:=(.pair (.list false (.int .u8)) Q4)
@[reducible] def Q13:Ty:=(.pair QI Q10)
@[reducible] def Q14:Ty:=(.pair Q8 Q3)
@[reducible] def Q15:Ty:=(.pair (.nl QI) Q14)
@[reducible] def Q16:Ty:=(.pair QL Q14)
@[reducible] def Q17:Ty:=(.pair (.list true Q4) Q15)
@[reducible] def Q18:Ty:=(.pair (.list false Q4) Q16)
@[reducible] def Q19:Ty:=(.pair (.arr 3 QI) Q17)
@[reducible] def Q20:Ty:=(.pair (.arr 3 QI) Q18)
@[reducible] def Q21:Ty:=(.pair (.list true QI) Q19)
@[reducible] def Q22:Ty:=(.pair QL Q20)
@[reducible] def Q23:Ty:=(.pair QI Q21)
@[reducible] def Q24:Ty:=(.pair QI Q22)
@[reducible] def Q25:Ty:=(.pair QI Q23)
@[reducible] def Q26:Ty:=(.pair QI Q24)
@[reducible] def Q27:Ty:=(.pair QI Q25)
@[reducible] def Q28:Ty:=(.pair QI Q26)
@[reducible] def Q29:Ty:=(.pair QI Q27)
@[reducible] def Q30:Ty:=(.pair QI Q28)
@[reducible] def Q31:Ty:=(.pair QI Q29)
@[reducible] def Q32:Ty:=(.pair QI Q30)
@[reducible] def Q33:Ty:=(.pair (.nl Q32) .unit)
@[reducible] def Q34:Ty:=(.pair (.list true Q32) .unit)
@[reducible] def Q35:Ty:=(.pair (.list false Q32) .unit)
@[reducible] def Q36:Ty:=(.pair (.nl Q9) Q33)
@[reducible] def Q37:Ty:=(.pair (.list true Q9) Q33)
@[reducible] def Q38:Ty:=(.pair (.list false Q9) Q34)
@[reducible] def Q39:Ty:=(.pair (.list false Q9) Q35)
@[reducible] def Q40:Ty:=(.pair Q9 Q36)
@[reducible] def Q41:Ty:=(.pair Q9 Q37)
@[reducible] def Q42:Ty:=(.pair Q9 Q38)
@[reducible] def Q43:Ty:=(.pair Q9 Q39)
@[reducible] def Q44:Ty:=(.pair QI Q40)
@[reducible] def Q45:Ty:=(.pair QI Q41)
@[reducible] def Q46:Ty:=(.pair QI Q42)
@[reducible] def Q47:Ty:=(.pair QI Q43)
@[reducible] def Q48:Ty:=(.pair QI Q45)
@[reducible] def Q49:Ty:=(.pair QI Q46)
@[reducible] def Q50:Ty:=(.pair QI Q47)
def c3P:List (Nat×Ty):=[(2,.int .i64),(3,.int .i64),(5,.int .u8),(22,.list false QL),(24,.pair QI Q5),(25,.int .u16),(30,.pair QI Q4),(31,.list false Q9),(32,.list false Q32),(34,.pair QI Q47),(35,.int .i64),(38,.list false (.int .u8)),(42,.int .u64),(49,.int .u64),(55,.list false QI),(103,.arr 3 QI),(104,.list false Q4),(106,.pair QI Q3),(108,.pair QI Q30),(113,.pair (.list false (.int .u8)) Q0),(122,.pair (.list false (.int .u8)) .unit),(141,.list false (.int .u64)),(164,.pair QI Q4),(178,.pair QI Q0),(192,.pair (.list false (.int .u8)) Q4),(236,.pair (.list false (.int .u8)) Q4),(256,.arr 64 (.int .u8)),(285,.list false (.arr 3 QI)),(295,.pair QI (.pair QL Q3)),(298,.pair QI (.pair QL Q3))]
def T0:Nat→Option Ty:=fun t=>find c3P t
def c6o:List Nat:=[30,103,164,178]
def d4P:Nat→Bool:=fun t=>c6o.contains t
def c3X:List Nat:=[]
def d4Q:Nat→Bool:=fun t=>c3X.contains t
def b2o:(List Int):=[0,1,56,2,57,49,28,3,61,58,42,50,38,29,17,4,62,47,59,36,45,43,51,22,53,39,33,30,24,18,12,5,63,55,48,27,60,41,37,16,46,35,44,21,52,32,23,11,54,26,40,15,34,20,31,10,25,14,19,9,13,8,7,6]
def G0:Nat→Option ((t:Ty)×t.den):=fun g=>find ([(0,⟨.arr 64 (.int .u8),b2o⟩)]:List (Nat×((t:Ty)×t.den))) g
@[reducible] def b0U(a:List (Nat×FSem))(b:List (Nat×Ty))(c d:List Nat):Cx:=⟨d4Q,d4P,T0,fun f=>find a f,fun n=>find b n,fun i=>c.contains i,fun i=>d.contains i,G0⟩
def a5W(x:Z13):Option Int:= cond ((x.2.1.length:Int)==0) (some 0) ((l0z x.2.1 0).bind fun x1=> some (x1.length:Int))
def b5M:FSem:=⟨[.v Q11],[.v QI],a5W⟩
def H22:Hints:=⟨[],[],[]⟩
def b4t(x:Int):Option Int:= (show Option (Int×Bool×Unit)from cond (decide (x<1)) (some (x,true,())) (some (x,decide (x > 31),()))).bind fun z1=> cond z1.2.1 (some 0) (cond (decide ((wrap .i64 (z1.1-1))<0)) none (some (z0g .i64 (-1) (wrap .i64 (z1.1-1)))))
def b8b:FSem:=⟨[.v QI],[.v QI],b4t⟩
def d4R:Hints:=⟨[],[(6,[(.normal,[.sv 0 QI,.sv 8 .bool])])],[]⟩
def b3o(x:Int):Option Int:= (show Option (Int×Bool×Unit)from cond (decide (x<1)) (some (x,true,())) (some (x,decide (x > 31),()))).bind fun z1=> cond z1.2.1 (some 0) (cond (decide ((wrap .i64 (z1.1-1))<0)) none (some (wrap .i64 ((z0g .i64 1 (wrap .i64 (z1.1-1)))-1))))
def b7E:FSem:=⟨[.v QI],[.v QI],b3o⟩
def d4S:Hints:=⟨[],[(6,[(.normal,[.sv 0 QI,.sv 8 .bool])])],[]⟩
def a4a(x:(Int×Int)):Option Bool:= cond (decide (x.2≥1)) (cond (decide (x.2≤31)) ((b4t x.2).bind fun y1=> cond (decide (y1≤x.1)) ((b3o x.2).bind fun y2=> some (decide (x.1≤y2))) (some false)) (some false)) (some false)
def a9K:FSem:=⟨[.v QI,.v QI],[.v .bool],a4a⟩
def H95:Hints:=⟨[],[],[]⟩
def a7n(x:Int):Option Bool:= cond (decide (4≤x)) (some (decide (x≤24))) (some false)
def b3p:FSem:=⟨[.v QI],[.v .bool],a7n⟩
def d4T:Hints:=⟨[],[],[]⟩
def a4y(s:((List (List Int))×(Int×(Int×((List Int)×Z68))))):Option (((List (List Int))×(Int×(Int×((List Int)×Z68)))) ⊕ (((List (List Int))×Z68) ⊕ (Bool×Unit))):= cond (decide (s.2.2.2.2.2.1<s.2.2.2.2.1)) ((l0z s.2.2.2.1 s.2.2.2.2.2.1).bind fun x8=> (a4a (x8,s.2.2.2.2.2.2.1.1)).bind fun y9=> cond (!y9) (some (.inr (Sum.inr ((false,()))))) (some (.inl (s.1,s.2.1,s.2.2.1,s.2.2.2.1,s.2.2.2.2.1,wrap .i64 (s.2.2.2.2.2.1+1),s.2.2.2.2.2.2.1,())))) (some (.inr (Sum.inl (s.1,s.2.1,s.2.2.1,s.2.2.2.2.2.2.1,()))))
def a4z(s:((List (List Int))×Z68)):Option (((List (List Int))×Z68) ⊕ Z0):= cond (decide (s.2.2.1<s.2.1)) ((l0z s.1 s.2.2.1).bind fun x6=> (a5W s.2.2.2.1).bind fun y7=> cond ((x6.length:Int) != y7) (some (.inr (Sum.inr ((false,()))))) ((x0r a4y (s.1,s.2.1,s.2.2.1,x6,(x6.length:Int),0,s.2.2.2.1,())).bind fun w10=> match w10 with |.inl a11=>some (.inl (a11.1,a11.2.1,wrap .i64 (a11.2.2.1+1),a11.2.2.2.1,())) |.inr b12=>some (.inr (Sum.inr ((b12.1,())))))) (some (.inr (Sum.inl ())))
def a7L(x:Z13):Option Bool:= (show Option Z58 from(a7n x.1).bind fun y1=> cond (!y1) (some (true,x,())) (cond (decide ((x.2.1.length:Int)<1)) (some (true,x,())) (some (decide ((x.2.1.length:Int) > 8),x,())))).bind fun z2=> cond z2.1 (some false) ((show Option Z58 from(a5W z2.2.1).bind fun y3=> cond (decide (y3<1)) (some (true,z2.2.1,())) ((a5W z2.2.1).bind fun y4=> some (decide (y4 > 4096),z2.2.1,()))).bind fun z5=> cond z5.1 (some false) ((x0r a4z (z5.2.1.2.1,(z5.2.1.2.1.length:Int),0,z5.2.1,())).bind fun w13=> match w13 with |.inl a14=>some true |.inr b15=>some b15.1))
def b2p:FSem:=⟨[.v Q11],[.v .bool],a7L⟩
def H56:Hints:=⟨[(122,[.sv 32 (.list false QL),.sv 33 QI,.sv 34 QI,.vp 1 Q11],[(.exit 0,[]),(.ret,[.sv 2 .bool])]),(62670,[.sv 32 (.list false QL),.sv 33 QI,.sv 34 QI,.sv 43 QL,.sv 44 QI,.sv 45 QI,.vp 1 Q11],[(.exit 2,[.sv 32 (.list false QL),.sv 33 QI,.sv 34 QI,.vp 1 Q11]),(.ret,[.sv 2 .bool])])],[(6,[(.normal,[.sv 22 .bool,.vp 1 Q11])]),(14,[(.normal,[.sv 30 .bool,.vp 1 Q11])])],[]⟩
def a7o(x:Z7):Option Bool:= cond (decide (1≤x.1)) (cond (decide (x.1≤1048576)) (cond (decide (1≤x.2.1)) (cond (decide (x.2.1≤8)) ((a7n x.2.2.1).bind fun y1=> some y1) (some false)) (some false)) (some false)) (some false)
def b3q:FSem:=⟨[.v Q9],[.v .bool],a7o⟩
def H57:Hints:=⟨[],[],[]⟩
def a9x(x:Int):Option Bool:= cond (decide ((-1073741824)≤x)) (some (decide (x<1073741824))) (some false)
def b5N:FSem:=⟨[.v QI],[.v .bool],a9x⟩
def d4U:Hints:=⟨[],[],[]⟩
def a4A(s:((List (List Int))×((List (List Int))×Z51))):Option (((List (List Int))×((List (List Int))×Z51)) ⊕ (((List (List Int))×Z27) ⊕ (Bool×Unit))):= cond (decide (s.2.2.2.2.2.2.1<s.2.2.2.2.2.1)) ((l0z s.2.2.2.2.1 s.2.2.2.2.2.2.1).bind fun x5=> (a9x x5).bind fun y6=> cond (!y6) (some (.inr (Sum.inr ((false,()))))) (some (.inl (s.1,s.2.1,s.2.2.1,s.2.2.2.1,s.2.2.2.2.1,s.2.2.2.2.2.1,wrap .i64 (s.2.2.2.2.2.2.1+1),())))) (some (.inr (Sum.inl (s.1,s.2.1,s.2.2.1,s.2.2.2.1,()))))
def a4B(s:((List (List Int))×Z27)):Option (((List (List Int))×Z27) ⊕ Z0):= cond (decide (s.2.2.2.1<s.2.2.1)) ((l0z s.2.1 s.2.2.2.1).bind fun x3=> (l0z s.1 0).bind fun x4=> cond ((x3.length:Int) != (x4.length:Int)) (some (.inr (Sum.inr ((false,()))))) ((x0r a4A (s.1,s.2.1,s.2.2.1,s.2.2.2.1,x3,(x3.length:Int),0,())).bind fun w7=> match w7 with |.inl a8=>some (.inl (a8.1,a8.2.1,a8.2.2.1,wrap .i64 (a8.2.2.2.1+1),())) |.inr b9=>some (.inr (Sum.inr ((b9.1,())))))) (some (.inr (Sum.inl ())))
def a7M(x:(List (List Int))):Option Bool:= (show Option ((List (List Int))×(Bool×Unit))from cond (decide ((x.length:Int)<1)) (some (x,true,())) (cond (decide ((x.length:Int) > 8)) (some (x,true,())) ((l0z x 0).bind fun x1=> some (x,decide ((x1.length:Int) > 4096),())))).bind fun z2=> cond z2.2.1 (some false) ((x0r a4B (z2.1,z2.1,(z2.1.length:Int),0,())).bind fun w10=> match w10 with |.inl a11=>some true |.inr b12=>some b12.1)
def b2q:FSem:=⟨[.v (.list false QL)],[.v .bool],a7M⟩
def d4V:Hints:=⟨[(58,[.sv 0 (.list false QL),.sv 22 (.list false QL),.sv 23 QI,.sv 24 QI],[(.exit 0,[]),(.ret,[.sv 2 .bool])]),(29902,[.sv 0 (.list false QL),.sv 22 (.list false QL),.sv 23 QI,.sv 24 QI,.sv 35 QL,.sv 36 QI,.sv 37 QI],[(.exit 2,[.sv 0 (.list false QL),.sv 22 (.list false QL),.sv 23 QI,.sv 24 QI]),(.ret,[.sv 2 .bool])])],[(6,[(.normal,[.sv 0 (.list false QL),.sv 21 .bool])])],[]⟩
def a7p(s:(Int×Z17×Int×Int×Unit)):Option ((Int×Z17×Int×Int×Unit) ⊕ Z0):= cond (decide (s.2.2.2.1<s.2.2.1)) ((l0z s.2.1 s.2.2.2.1).bind fun x2=> (show Option (Int×Z17×Int×Int×Bool×Z7×Unit)from cond (decide (x2.1<0)) (some (s.1,s.2.1,s.2.2.1,s.2.2.2.1,true,x2,())) (cond (decide (x2.1≥s.1)) (some (s.1,s.2.1,s.2.2.1,s.2.2.2.1,true,x2,())) (cond (decide (x2.2.1<0)) (some (s.1,s.2.1,s.2.2.1,s.2.2.2.1,true,x2,())) (cond (decide (x2.2.1≥s.1)) (some (s.1,s.2.1,s.2.2.1,s.2.2.2.1,true,x2,())) (some (s.1,s.2.1,s.2.2.1,s.2.2.2.1,x2.1==x2.2.1,x2,())))))).bind fun z3=> cond z3.2.2.2.2.1 (some (.inr (Sum.inr ((false,()))))) ((show Option (Int×Z17×Z10)from cond (decide (z3.2.2.2.2.2.1.2.2.1<(-1024))) (some (z3.1,z3.2.1,z3.2.2.1,z3.2.2.2.1,true,())) (some (z3.1,z3.2.1,z3.2.2.1,z3.2.2.2.1,decide (z3.2.2.2.2.2.1.2.2.1 > 1024),()))).bind fun z4=> cond z4.2.2.2.2.1 (some (.inr (Sum.inr ((false,()))))) (some (.inl (z4.1,z4.2.1,z4.2.2.1,wrap .i64 (z4.2.2.2.1+1),()))))) (some (.inr (Sum.inl ())))
def a8N(x:(Z17×Int)):Option Bool:= (show Option (Z17×Int×Bool×Unit)from cond (decide (x.2<1)) (some (x.1,x.2,true,())) (cond (decide (x.2 > 8)) (some (x.1,x.2,true,())) (some (x.1,x.2,decide ((x.1.length:Int) > 16),())))).bind fun z1=> cond z1.2.2.1 (some false) ((x0r a7p (z1.2.1,z1.1,(z1.1.length:Int),0,())).bind fun w5=> match w5 with |.inl a6=>some true |.inr b7=>some b7.1)
def b3S:FSem:=⟨[.v (.list false Q9),.v QI],[.v .bool],a8N⟩
def d4W:Hints:=⟨[(58,[.sv 1 QI,.sv 18 (.list false Q9),.sv 19 QI,.sv 20 QI],[(.exit 0,[]),(.ret,[.sv 4 .bool])])],[(6,[(.normal,[.sv 0 (.list false Q9),.sv 1 QI,.sv 17 .bool])]),(7474,[(.normal,[.sv 1 QI,.sv 18 (.list false Q9),.sv 19 QI,.sv 20 QI,.sv 50 .bool,.box 6 Q9,.ptr 6 6 []])]),(7475,[(.normal,[.sv 1 QI,.sv 18 (.list false Q9),.sv 19 QI,.sv 20 QI,.sv 58 .bool])])],[]⟩
def a1f(x:(List Int)):Option (List Int):= w0g x
def a1a:FSem:=⟨[.v QL],[.o QI],a1f⟩
def d4X:Hints:=⟨[],[],[]⟩
def c9G:Cx:=b0U [] [] [0,2] []
theorem d2u(x):z0c c9G d4X Tryz.f183 a1a.ps a1a.rs x=a1a.F x:=Eq.trans (show _=v0w x by kernel_rfl) (z0q x)
def a6N(s:((List (List Int))×Z28)):Option (((List (List Int))×Z28) ⊕ Z1):= cond (decide (s.2.2.1<s.2.1)) ((l0z s.1 s.2.2.1).bind fun x1=> (a1f x1).bind fun y2=> cond (lim ((a02 s.2.2.2.1)+(a02 (a08 ([[]]:List (List Int)) 0 y2)))) (some (.inl (s.1,s.2.1,wrap .i64 (s.2.2.1+1),a03 s.2.2.2.1 (a08 ([[]]:List (List Int)) 0 y2),()))) none) (some (.inr (s.2.2.2.1,())))
def a7q(x:(List (List Int))):Option (List (List Int)):= (x0r a6N (x,(x.length:Int),0,([]:(List (List Int))),())).bind fun w3=> some w3.1
def b3r:FSem:=⟨[.v (.list false QL)],[.o (.list true QI)],a7q⟩
def d4Y:Hints:=⟨[(58,[.sv 6 (.list false QL),.sv 7 QI,.sv 8 QI,.own 3 3 (.list true QI)],[(.exit 0,[.own 3 3 (.list true QI)])])],[],[]⟩
def a3R(s:(Int×(Int×(Int×((List (List Int))×(Z7×Int×Unit)))))):Option ((Int×(Int×(Int×((List (List Int))×(Z7×Int×Unit))))) ⊕ (Z1 ⊕ (Bool×Z1))):= cond (decide (s.2.2.1<s.2.1)) (cond ((decide (0≤s.2.2.1))&&(decide (s.2.2.1<((a02 (a04 s.2.2.2.1 (a00 s.2.2.2.2.2.1) []):Nat):Int)))) (cond ((decide (0≤s.2.2.2.2.1.2.1))&&(decide (s.2.2.2.2.1.2.1<(s.2.2.2.1.length:Int)))) (cond ((decide (0≤s.2.2.1))&&(decide (s.2.2.1<((a02 (a04 s.2.2.2.1 (a00 s.2.2.2.2.1.2.1) []):Nat):Int)))) ((a9x (wrap .i64 ((a04 (a04 s.2.2.2.1 (a00 s.2.2.2.2.1.2.1) []) (a00 s.2.2.1) 0)+(wrap .i64 (s.1*(z0h .i64 (wrap .i64 (s.2.2.2.2.1.2.2.1*(a04 (a04 s.2.2.2.1 (a00 s.2.2.2.2.2.1) []) (a00 s.2.2.1) 0))) 8)))))).bind fun y1=> cond (!y1) (some (.inr (Sum.inr ((false,s.2.2.2.1,()))))) (cond ((decide (0≤s.2.2.2.2.1.2.1))&&(decide (s.2.2.2.2.1.2.1<(s.2.2.2.1.length:Int)))) (cond ((decide (0≤s.2.2.1))&&(decide (s.2.2.1<((a02 (a04 s.2.2.2.1 (a00 s.2.2.2.2.1.2.1) []):Nat):Int)))) (some (.inl (s.1,s.2.1,wrap .i64 (s.2.2.1+1),a08 s.2.2.2.1 (a00 s.2.2.2.2.1.2.1) (a08 (a04 s.2.2.2.1 (a00 s.2.2.2.2.1.2.1) []) (a00 s.2.2.1) (wrap .i64 ((a04 (a04 s.2.2.2.1 (a00 s.2.2.2.2.1.2.1) []) (a00 s.2.2.1) 0)+(wrap .i64 (s.1*(z0h .i64 (wrap .i64 (s.2.2.2.2.1.2.2.1*(a04 (a04 s.2.2.2.1 (a00 s.2.2.2.2.2.1) []) (a00 s.2.2.1) 0))) 8)))))),s.2.2.2.2.1,((a00 s.2.2.2.2.2.1:Nat):Int),()))) none) none)) none) none) none) (some (.inr (Sum.inl (s.2.2.2.1,()))))
def a8y(x:((List (List Int))×(Z7×Int))):Option (Bool×(List (List Int))):= cond ((decide (0≤x.2.1.1))&&(decide (x.2.1.1<(x.1.length:Int)))) ((x0r a3R (x.2.2,((a02 (a04 x.1 (a00 x.2.1.1) []):Nat):Int),0,x.1,x.2.1,((a00 x.2.1.1:Nat):Int),())).bind fun w2=> match w2 with |.inl a3=>some (true,a3.1) |.inr b4=>some (b4.1,b4.2.1)) none
def b4u:FSem:=⟨[.r false (.o (.list true QI)),.v Q9,.v QI],[.v .bool],a8y⟩
def d4Z:Hints:=⟨[(26,[.sv 2 QI,.sv 15 QI,.sv 16 QI,.own 0 pinned (.list true QI),.vp 4 Q9,.rfi 14 pinned],[(.exit 0,[.own 0 pinned (.list true QI)]),(.ret,[.sv 6 .bool,.own 0 pinned (.list true QI)])])],[],[(4,[.q,.v,.v,.q,.q,.v,.q,.q,.v,.v,.v,.v,.v,.v,.v,.x,.x])]⟩
def a8z(s:(Z17×Z28)):Option ((Z17×Z28) ⊕ (Z1 ⊕ Z14)):= cond (decide (s.2.2.1<s.2.1)) ((l0z s.1 s.2.2.1).bind fun x5=> (a8y (s.2.2.2.1,x5,1)).bind fun y6=> cond (!y6.1) (some (.inr (Sum.inr ((([]:(List (List Int))),6,()))))) (some (.inl (s.1,s.2.1,wrap .i64 (s.2.2.1+1),y6.2,())))) (some (.inr (Sum.inl (s.2.2.2.1,()))))
def b2Z(x:((List (List Int))×Z17)):Option ((List (List Int))×Int):= (show Option ((List (List Int))×(Z17×Bool×Unit))from(a7M x.1).bind fun y1=> cond (!y1) (some (x.1,x.2,true,())) ((a8N (x.2,(x.1.length:Int))).bind fun y2=> some (x.1,x.2,!y2,()))).bind fun z3=> cond z3.2.2.1 (some (([]:(List (List Int))),1)) ((a7q z3.1).bind fun y4=> (x0r a8z (z3.2.1,(z3.2.1.length:Int),0,y4,())).bind fun w7=> match w7 with |.inl a8=>some (a8.1,0) |.inr b9=>some (b9.1,b9.2.1))
def b8c:FSem:=⟨[.v (.list false QL),.v (.list false Q9)],[.v (.list false QL),.v QI],b2Z⟩
def H59:Hints:=⟨[(122,[.sv 21 (.list false Q9),.sv 22 QI,.sv 23 QI,.own 6 6 (.list true QI)],[(.exit 0,[.own 6 6 (.list true QI)]),(.ret,[.sv 4 (.list false QL),.sv 5 QI])])],[(6,[(.normal,[.sv 0 (.list false QL),.sv 1 (.list false Q9),.sv 18 .bool])])],[]⟩
def a6O(s:(Int×((List Int)×Z45))):Option ((Int×((List Int)×Z45)) ⊕ Z45):= cond (decide (s.2.2.1<(s.2.1.length:Int))) ((l0z s.2.1 s.2.2.1).bind fun x3=> (l0z s.2.1 (wrap .i64 (s.2.2.1-1))).bind fun x4=> (l0z s.2.1 (wrap .i64 (s.2.2.1-2))).bind fun x5=> some (.inl (wrap .i64 (s.1+(u0z (wrap .i64 ((wrap .i64 (x3-(wrap .i64 (2*x4))))+x5)) (wrap .i64 (0-(wrap .i64 ((wrap .i64 (x3-(wrap .i64 (2*x4))))+x5)))))),s.2.1,wrap .i64 (s.2.2.1+1),s.2.2.2.1,s.2.2.2.2.1,s.2.2.2.2.2.1,()))) (some (.inr (s.1,s.2.2.2.1,s.2.2.2.2.1,s.2.2.2.2.2.1,())))
def a6P(s:Z45):Option (Z45 ⊕ (Int×Unit)):= cond (decide (s.2.2.2.1<s.2.2.1)) ((l0z s.2.1 s.2.2.2.1).bind fun x2=> (x0r a6O (s.1,x2,2,s.2.1,s.2.2.1,s.2.2.2.1,())).bind fun w6=> some (.inl (w6.1,w6.2.1,w6.2.2.1,wrap .i64 (w6.2.2.2.1+1),()))) (some (.inr (s.1,())))
def a7r(x:(List (List Int))):Option Int:= (a7M x).bind fun y1=> cond (!y1) (some 0) ((x0r a6P (0,x,(x.length:Int),0,())).bind fun w7=> some w7.1)
def b7F:FSem:=⟨[.v (.list false QL)],[.v QI],a7r⟩
def d5a:Hints:=⟨[(122,[.sv 3 QI,.sv 11 (.list false QL),.sv 12 QI,.sv 13 QI],[(.exit 0,[.sv 3 QI])]),(31334,[.sv 3 QI,.sv 5 QL,.sv 6 QI,.sv 11 (.list false QL),.sv 12 QI,.sv 13 QI],[(.exit 2,[.sv 3 QI,.sv 11 (.list false QL),.sv 12 QI,.sv 13 QI])])],[],[(10,[.v,.v,.v,.v,.v,.v,.v,.v,.v,.v,.v,.v,.v,.v,.v,.v,.x,.x])]⟩
def b0V(x:Int):Option Z17:= cond (x==1) (some ([(0,1,(-256),())]:List Z7)) (cond (x==2) (some ([(1,0,(-256),())]:List Z7)) (cond (x==3) (some ([(1,0,(-256),()),(0,1,128,())]:List Z7)) (cond (x==4) (some ([(1,0,(-106),()),(0,1,181,()),(1,0,(-106),())]:List Z7)) (some []))))
def b8d:FSem:=⟨[.v QI],[.o Q9],b0V⟩
def d5b:Hints:=⟨[],[],[]⟩
def a6r(s:((List (List Int))×Z7)):Option (((List (List Int))×Z7) ⊕ (Int×Unit)):= cond (decide (s.2.2.2.1<5)) ((b0V s.2.2.2.1).bind fun y2=> (b2Z (s.1,y2)).bind fun y3=> cond (y3.2 != 0) (some (.inl (s.1,s.2.1,s.2.2.1,wrap .i64 (s.2.2.2.1+1),()))) ((a7r y3.1).bind fun y4=> cond (decide (y4<s.2.2.1)) (some (.inl (s.1,s.2.2.2.1,y4,wrap .i64 (s.2.2.2.1+1),()))) (some (.inl (s.1,s.2.1,s.2.2.1,wrap .i64 (s.2.2.2.1+1),()))))) (some (.inr (s.2.1,())))
def b2r(x:(List (List Int))):Option Z17:= (a7r x).bind fun y1=> (x0r a6r (x,0,y1,1,())).bind fun w5=> (b0V w5.1).bind fun y6=> some y6
def b9h:FSem:=⟨[.v (.list false QL)],[.o Q9],b2r⟩
def d5c:Hints:=⟨[(58,[.sv 0 (.list false QL),.sv 3 QI,.sv 4 QI,.sv 5 QI],[(.exit 0,[.sv 3 QI])])],[],[]⟩
def a6s(s:(Int×Int×Int×Z17×Z98)):Option ((Int×Int×Int×Z17×Z98) ⊕ (Int×Z98)):= cond (decide (s.2.2.1<s.2.1)) (cond ((decide (0≤s.2.2.1))&&(decide (s.2.2.1<(s.2.2.2.2.1.length:Int)))) (cond (lim ((a02 s.2.2.2.1)+1)) (some (.inl (s.1,s.2.1,wrap .i64 (s.2.2.1+1),a03 s.2.2.2.1 ([(wrap .i64 (((a04 s.2.2.2.2.1 (a00 s.2.2.1) (0,0,0,())).1)+s.1),wrap .i64 ((((a04 s.2.2.2.2.1 (a00 s.2.2.1) (0,0,0,())).2).1)+s.1),(((a04 s.2.2.2.2.1 (a00 s.2.2.1) (0,0,0,())).2).2).1,())]:List Z7),s.2.2.2.2.1,s.2.2.2.2.2.1,()))) none) none) (some (.inr (s.1,s.2.2.2.1,s.2.2.2.2.2.1,())))
def a8O(s:(Int×Z98)):Option ((Int×Z98) ⊕ (Z17×Unit)):= cond (decide ((wrap .i64 (s.1+1))<(s.2.2.1.2.1.length:Int))) (cond ((decide (0≤(wrap .i64 (s.1+2))))&&(decide ((wrap .i64 (s.1+2))≤(s.2.2.1.2.1.length:Int)))) (cond ((decide (0≤s.1))&&(decide (s.1≤((a00 (wrap .i64 (s.1+2)):Nat):Int)))) ((b2r (a16 (a00 s.1) (a06 (a00 (wrap .i64 (s.1+2))) s.2.2.1.2.1))).bind fun y2=> (x0r a6s (s.1,(y2.length:Int),0,s.2.1,y2,s.2.2.1,())).bind fun w3=> some (.inl (wrap .i64 (w3.1+2),w3.2.1,w3.2.2.1,()))) none) none) (some (.inr (s.2.1,())))
def a7N(x:Z13):Option Z17:= (a7L x).bind fun y1=> cond (!y1) (some []) ((x0r a8O (0,[],x,())).bind fun w4=> some w4.1)
def b9i:FSem:=⟨[.v Q11],[.o Q9],a7N⟩
def H58:Hints:=⟨[(122,[.sv 4 QI,.own 3 3 Q9,.vp 1 Q11],[(.exit 0,[.own 3 3 Q9])]),(7826,[.sv 4 QI,.sv 25 QI,.sv 26 QI,.own 3 3 Q9,.own 24 1024 Q9,.vp 1 Q11],[(.exit 2,[.sv 4 QI,.own 3 3 Q9,.vp 1 Q11])])],[],[]⟩
def a2y(s:Z16):Option Z75:= cond (decide (s.2.2.1<s.2.1)) ((l0z s.1 s.2.2.1).bind fun x1=> (show Option Z36 from cond (decide (x1<(-1073741824))) (some (s.1,s.2.1,s.2.2.1,true,())) (some (s.1,s.2.1,s.2.2.1,decide (x1≥1073741824),()))).bind fun z2=> cond z2.2.2.2.1 (some (.inr (Sum.inr ((false,()))))) (some (.inl (z2.1,z2.2.1,wrap .i64 (z2.2.2.1+1),())))) (some (.inr (Sum.inl ())))
def a2v(x:(List Int)):Option Bool:= (x0r a2y (x,(x.length:Int),0,())).bind fun w3=> match w3 with |.inl a4=>some true |.inr b5=>some b5.1
def a9L:FSem:=⟨[.v QL],[.v .bool],a2v⟩
def d5d:Hints:=⟨[(26,[.sv 5 QL,.sv 6 QI,.sv 7 QI],[(.exit 0,[]),(.ret,[.sv 2 .bool])])],[(1689,[(.normal,[.sv 5 QL,.sv 6 QI,.sv 7 QI,.sv 16 .bool])])],[]⟩
def a5n(x:Int):Option Bool:= cond (decide ((-1073741824)≤x)) (some (decide (x<1073741824))) (some false)
def b3s:FSem:=⟨[.v QI],[.v .bool],a5n⟩
def d5e:Hints:=⟨[],[],[]⟩
def a6Q(s:Z63):Option (Z63 ⊕ Z52):= cond (decide (s.2.2.2.1<s.2.2.1)) ((l0z s.2.1 s.2.2.2.1).bind fun x2=> (show Option (Int×(Int×((List Int)×Z37)))from(a5n x2).bind fun y3=> cond (!y3) (some (s.1,x2,s.2.1,s.2.2.1,s.2.2.2.1,true,s.2.2.2.2.1,())) (cond (decide (s.1<0)) none (cond ((z0g .i64 1 s.1)==0) none (some (s.1,x2,s.2.1,s.2.2.1,s.2.2.2.1,(a07 x2 (z0g .i64 1 s.1)) != 0,s.2.2.2.2.1,()))))).bind fun z4=> cond z4.2.2.2.2.2.1 (some (.inr (Sum.inr ((6,[],()))))) (cond (decide (z4.1<0)) none (cond (lim ((a02 z4.2.2.2.2.2.2.1)+1)) (some (.inl (z4.1,z4.2.2.1,z4.2.2.2.1,wrap .i64 (z4.2.2.2.2.1+1),a03 z4.2.2.2.2.2.2.1 [z0h .i64 z4.2.1 z4.1],()))) none))) (some (.inr (Sum.inl (s.2.2.2.2.1,()))))
def a7s(x:((List Int)×Int)):Option ((List Int)×Int):= (show Option Z21 from cond (decide (x.2<0)) (some (x.1,x.2,true,())) (some (x.1,x.2,decide (x.2 > 30),()))).bind fun z1=> cond z1.2.2.1 (some ([],1)) ((x0r a6Q (z1.2.1,z1.1,(z1.1.length:Int),0,[],())).bind fun w5=> match w5 with |.inl a6=>some (a6.1,0) |.inr b7=>some (b7.2.1,b7.1))
def b3t:FSem:=⟨[.v QL,.v QI],[.o QI,.v QI],a7s⟩
def d5f:Hints:=⟨[(122,[.sv 1 QI,.sv 15 QL,.sv 16 QI,.sv 17 QI,.own 6 6 QI],[(.exit 0,[.own 6 6 QI]),(.ret,[.sv 5 QI,.own 4 4 QI])])],[(6,[(.normal,[.sv 0 QL,.sv 1 QI,.sv 14 .bool])]),(15666,[(.normal,[.sv 1 QI,.sv 8 QI,.sv 15 QL,.sv 16 QI,.sv 17 QI,.sv 30 .bool,.own 6 6 QI])])],[]⟩
def a1F(x:Int):Option Int:= cond (x==0) (some 64) ((l0z b2o (z0h .u64 (wrap .u64 ((bits .u64 .and x (wrap .u64 (0-x)))*285870213051353865)) 58)).bind fun x1=> some (wrap .i64 x1))
def a1i:FSem:=⟨[.v (.int .u64)],[.v QI],a1F⟩
def c2m:Hints:=⟨[],[],[]⟩
def b0W:Cx:=b0U [] [] [0,2] []
theorem b9j{ρ:Type}{cx:Cx}{ops:List Oper}:∀(l1 l2:List (Md×Oper)) (Γ:AE) (K:AE→Rs ρ),h0h cx ops (l1++l2) Γ K=h0h cx ops l1 Γ fun Γ'=>h0h cx ops l2 Γ' K
 | [],_,_,_=>rfl
 |(md,o)::l1,l2,Γ,K=>by
  simp only[a20,h0h];congr 1;funext Γ';exact b9j l1 l2 Γ' K
theorem b8e{ρ:Type}{cx:Cx}{H:Hints}{a b:Code}{p:Nat}(h:find H.cuts p=none)(Γ:AE)(K:Ex→AE→Rs ρ):c0m cx H (.seq a b) p Γ K=c0m cx H a (2*p) Γ fun e Γ'=>match e with
   |.normal=>c0m cx H b (2*p+1) Γ' K
   |e=>K e Γ':=by
 simp only[c0m,h];rfl
theorem c3Y{ρ:Type}{cx:Cx}{H:Hints}{id:Nat}{ops:Array Oper}{p:Nat}(Γ:AE)(K:Ex→AE→Rs ρ):c0m cx H (.region id ops false) p Γ K=h0h cx ops.toList (ops.toList.map fun o=>(.x,o)) Γ fun Γ'=>K .normal Γ':=by
 simp only[c0m,cF]
def b0L:Code:=match Tryz.f191.body with
 |some c=>c
 |none=>.skip
def c2n:Code→Code
 |.seq a _=>a
 |c=>c
def c6p:Code→Code
 |.seq _ b=>b
 |c=>c
def c7E:Code→Array Oper
 |.region _ ops _=>ops
 |_=>#[]
def c5G:Code:=c6p (c6p b0L)
def b4v:List Oper:=(c7E (c2n c5G)).toList
def Γ191(x:Int):AE:=(((ini [.v (.int .u64)] x).set 2 (.val QI (0:Int))).set 3 (.val (.int .u64) x)).set 4 (.val .bool (x==(0:Int)))
def Γ191r(x:Int):AE:=(Γ191 x).set 2 (.val QI (64:Int))
def c3Z(e:Ex)(Γ:AE):Option Int:=match e,Γ.pd with
  |.exit _,_=>none
  |_,some _=>none
  |_,none=>(Γ.upto Tryz.f191.ntmps).outs b0W [] Tryz.f191.ntmps [.v QI] (Tryz.f191.results.toList.map .inl) fun y _=>some y
def Γ191b(x a b c i:Int):AE:=((((((Γ191 x).set 5 (.val (.int .u64) x)).set 6 (.val (.int .u64) x)).set 7 (.val (.int .u64) a)).set 8 (.val (.int .u64) b)).set 9 (.val (.int .u64) c)).set 10 (.val (.int .u64) i)
set_option maxRecDepth 100000
theorem c8F:b0L=.seq (c2n b0L) (.seq (c2n (c6p b0L)) (.seq (.region 3 (c7E (c2n c5G)) false) .ret)):=by kernel_rfl
theorem d1a(x:Int):z0c b0W c2m Tryz.f191 a1i.ps a1i.rs x=c0m b0W c2m b0L 1 (ini [.v (.int .u64)] x) c3Z:=rfl
theorem d1b(x:Int)(K:Ex→AE→Option Int):c0m b0W c2m (c2n b0L) 2 (ini [.v (.int .u64)] x) K=K .normal ((ini [.v (.int .u64)] x).set 2 (.val (.int .i64) (0:Int))):=by kernel_rfl
theorem d1c(x:Int)(K:Ex→AE→Option Int):c0m b0W c2m (c2n (c6p b0L)) 6 ((ini [.v (.int .u64)] x).set 2 (.val (.int .i64) (0:Int))) K=bif x==(0:Int)then K .ret (Γ191r x)else K .normal (Γ191 x):=by kernel_rfl
theorem d1d(x:Int):c3Z .ret (Γ191r x)=some (64:Int):=by kernel_rfl
theorem d1e(x:Int)(K:AE→Option Int):h0h b0W b4v ((b4v.map fun o=>(Md.x,o)).take 6) (Γ191 x) K =
  K (Γ191b x (wrap .u64 (0-x)) (bits .u64 .and x (wrap .u64 (0-x))) (wrap .u64 ((bits .u64 .and x (wrap .u64 (0-x)))*(285870213051353865:Int))) (z0h .u64 (wrap .u64 ((bits .u64 .and x (wrap .u64 (0-x)))*(285870213051353865:Int))) (58:Int))):=by kernel_rfl
theorem d1f(x a b c i:Int):h0h b0W b4v ((b4v.map fun o=>(Md.x,o)).drop 6) (Γ191b x a b c i) (fun Γ=>c3Z .ret Γ)=(l0z b2o i).bind fun h=>some (wrap .i64 h):=by kernel_rfl
theorem d1g(x:Int):h0h b0W b4v (b4v.map fun o=>(Md.x,o)) (Γ191 x) (fun Γ=>c3Z .ret Γ)=(l0z b2o (z0h .u64 (wrap .u64 ((bits .u64 .and x (wrap .u64 (0-x)))*(285870213051353865:Int))) (58:Int))).bind fun h=>some (wrap .i64 h):=by
 rw[←List.take_append_drop 6 (b4v.map fun o=>(Md.x,o)),b9j,d1e,d1f]
theorem d1D(x:Int):c0m b0W c2m b0L 1 (ini [.v (.int .u64)] x) c3Z=a1F x:=by
 rw[c8F,b8e rfl,d1b];simp only[];rw[b8e rfl,d1c];simp only[];rw[b8e rfl,c3Y];simp only[c0m];rw[d1d];exact congrArg (fun z=>bif x==(0:Int)then some (64:Int)else z) (d1g x)
theorem d2v(x):z0c b0W c2m Tryz.f191 a1i.ps a1i.rs x=a1i.F x:=(d1a x).trans (d1D x)
def a5t(s:Z32):Option Z72:= cond (decide (s.2.2.2.1<s.2.2.1)) ((l0z s.2.1 s.2.2.2.1).bind fun x1=> some (.inl (bits .i64 .or s.1 x1,s.2.1,s.2.2.1,wrap .i64 (s.2.2.2.1+1),()))) (some (.inr (s.1,())))
def a3S(x:(List Int)):Option Int:= (x0r a5t (0,x,(x.length:Int),0,())).bind fun w2=> cond (w2.1==0) (some 0) ((a1F (wrap .u64 w2.1)).bind fun y3=> some (v0a y3 30))
def b0X:FSem:=⟨[.v QL],[.v QI],a3S⟩
def d5g:Hints:=⟨[(58,[.sv 3 QI,.sv 6 QL,.sv 7 QI,.sv 8 QI],[(.exit 0,[.sv 3 QI])])],[],[]⟩
def b5f(s:Z16):Option Z75:= cond (decide (s.2.2.1<s.2.1)) ((l0z s.1 s.2.2.1).bind fun x1=> (show Option Z36 from cond (decide (x1<(-1073741824))) (some (s.1,s.2.1,s.2.2.1,true,())) (some (s.1,s.2.1,s.2.2.1,decide (x1≥1073741824),()))).bind fun z2=> cond z2.2.2.2.1 (some (.inr (Sum.inr ((false,()))))) (some (.inl (z2.1,z2.2.1,wrap .i64 (z2.2.2.1+1),())))) (some (.inr (Sum.inl ())))
def a2N(x:(List Int)):Option Bool:= (x0r b5f (x,(x.length:Int),0,())).bind fun w3=> match w3 with |.inl a4=>some true |.inr b5=>some b5.1
def b4w:FSem:=⟨[.v QL],[.v .bool],a2N⟩
def d5h:Hints:=⟨[(26,[.sv 5 QL,.sv 6 QI,.sv 7 QI],[(.exit 0,[]),(.ret,[.sv 2 .bool])])],[(1689,[(.normal,[.sv 5 QL,.sv 6 QI,.sv 7 QI,.sv 16 .bool])])],[]⟩
def a5u(s:Z33):Option (Z33 ⊕ Z18):= cond (decide ((wrap .i64 (s.1+1))<(s.2.2.2.1.length:Int))) (cond ((decide (0≤(wrap .i64 (s.1+1))))&&(decide ((wrap .i64 (s.1+1))<(s.2.2.2.1.length:Int)))) (cond ((decide (0≤s.1))&&(decide (s.1<(s.2.2.2.1.length:Int)))) (cond ((decide (0≤s.1))&&(decide (s.1<(s.2.2.2.1.length:Int)))) (some (.inl (wrap .i64 (s.1+1),s.2.1,s.2.2.1,a08 s.2.2.2.1 (a00 s.1) (wrap .i64 ((a04 s.2.2.2.1 (a00 (wrap .i64 (s.1+1))) 0)-(a04 s.2.2.2.1 (a00 s.1) 0))),()))) none) none) none) (some (.inr (s.2.1,s.2.2.1,s.2.2.2.1,())))
def a8f(s:Z18):Option (Z18 ⊕ ((List Int)×Unit)):= cond (decide (s.2.1<s.1)) ((x0r a5u (0,s.1,s.2.1,s.2.2.1,())).bind fun w3=> cond ((decide (0≤(wrap .i64 ((w3.2.2.1.length:Int)-1))))&&(decide ((wrap .i64 ((w3.2.2.1.length:Int)-1))≤(w3.2.2.1.length:Int)))) (cond (decide ((a00 (wrap .i64 ((w3.2.2.1.length:Int)-1)))≤(a02 w3.2.2.1))) (some (.inl (w3.1,wrap .i64 (w3.2.1+1),a06 (a00 (wrap .i64 ((w3.2.2.1.length:Int)-1))) w3.2.2.1,()))) none) none) (some (.inr (s.2.2.1,())))
def a4J(x:((List Int)×Int)):Option ((List Int)×Int):= (show Option Z21 from cond (decide (x.2<0)) (some (x.1,x.2,true,())) (cond (decide (x.2 > 4)) (some (x.1,x.2,true,())) (some (x.1,x.2,decide ((x.1.length:Int)<x.2),())))).bind fun z1=> cond z1.2.2.1 (some ([],1)) ((a2N z1.1).bind fun y2=> cond (!y2) (some ([],6)) (cond (lim (a02 z1.1)) ((x0r a8f (z1.2.1,0,z1.1,())).bind fun w4=> (a2N w4.1).bind fun y5=> cond (!y5) (some ([],6)) (some (w4.1,0))) none))
def b4x:FSem:=⟨[.v QL,.v QI],[.o QI,.v QI],a4J⟩
def d5i:Hints:=⟨[(250,[.sv 25 QI,.sv 26 QI,.own 6 6 QI],[(.exit 0,[.own 6 6 QI])]),(64098,[.sv 7 QI,.sv 25 QI,.sv 26 QI,.own 6 6 QI],[(.exit 2,[.sv 25 QI,.sv 26 QI,.own 6 6 QI])])],[(6,[(.normal,[.sv 0 QL,.sv 1 QI,.sv 19 .bool])])],[(11,[.q,.v,.q,.v,.v,.q,.q,.q,.v,.q,.q,.v,.x,.x])]⟩
def a4K(s:Z51):Option (Z51 ⊕ (Int×Unit)):= cond (decide (s.2.2.2.2.1<s.2.2.2.1)) ((l0z s.2.2.1 s.2.2.2.2.1).bind fun x1=> cond (decide ((wrap .i64 (s.2.2.2.2.1+s.1))≥4)) (some (.inl (s.1,wrap .i64 (s.2.1+(u0z x1 (wrap .i64 (0-x1)))),s.2.2.1,s.2.2.2.1,wrap .i64 (s.2.2.2.2.1+1),()))) (some (.inl (s.1,s.2.1,s.2.2.1,s.2.2.2.1,wrap .i64 (s.2.2.2.2.1+1),())))) (some (.inr (s.2.1,())))
def a9M(x:((List Int)×Int)):Option Int:= (x0r a4K (x.2,0,x.1,(x.1.length:Int),0,())).bind fun w2=> some w2.1
def b7G:FSem:=⟨[.v QL,.v QI],[.v QI],a9M⟩
def d5j:Hints:=⟨[(58,[.sv 1 QI,.sv 5 QI,.sv 8 QL,.sv 9 QI,.sv 10 QI],[(.exit 0,[.sv 5 QI])])],[],[]⟩
def a2O(s:Z34):Option (Z34 ⊕ (Int×Unit)):= cond (decide (s.2.2.2.1≤4)) ((a4J (s.1,s.2.2.2.1)).bind fun y1=> cond (y1.2 != 0) (some (.inl (s.1,s.2.1,s.2.2.1,wrap .i64 (s.2.2.2.1+1),()))) ((a9M (y1.1,s.2.2.2.1)).bind fun y2=> (show Option ((List Int)×(Int×Z26))from cond (decide (s.2.2.1<0)) (some (s.1,s.2.1,s.2.2.1,s.2.2.2.1,y2,true,())) (some (s.1,s.2.1,s.2.2.1,s.2.2.2.1,y2,decide (y2<s.2.2.1),()))).bind fun z3=> cond z3.2.2.2.2.2.1 (some (.inl (z3.1,z3.2.2.2.1,z3.2.2.2.2.1,wrap .i64 (z3.2.2.2.1+1),()))) (some (.inl (z3.1,z3.2.1,z3.2.2.1,wrap .i64 (z3.2.2.2.1+1),()))))) (some (.inr (s.2.1,())))
def a6t(x:(List Int)):Option Int:= (x0r a2O (x,0,(-1),0,())).bind fun w4=> some w4.1
def b8f:FSem:=⟨[.v QL],[.v QI],a6t⟩
def d5k:Hints:=⟨[(58,[.sv 0 QL,.sv 3 QI,.sv 4 QI,.sv 5 QI],[(.exit 0,[.sv 3 QI])])],[(7463,[(.normal,[.sv 0 QL,.sv 3 QI,.sv 4 QI,.sv 5 QI,.sv 8 QI,.sv 30 .bool])])],[]⟩
def a5o(x:Int):Option Bool:= cond (decide (x≥(-1073741824))) (some (decide (x<1073741824))) (some false)
def a9N:FSem:=⟨[.v QI],[.v .bool],a5o⟩
def d5l:Hints:=⟨[],[],[]⟩
def a3f(s:Z16):Option Z75:= cond (decide (s.2.2.1<s.2.1)) ((l0z s.1 s.2.2.1).bind fun x1=> (a5o x1).bind fun y2=> cond (!y2) (some (.inr (Sum.inr ((false,()))))) (some (.inl (s.1,s.2.1,wrap .i64 (s.2.2.1+1),())))) (some (.inr (Sum.inl ())))
def a2z(x:(List Int)):Option Bool:= (x0r a3f (x,(x.length:Int),0,())).bind fun w3=> match w3 with |.inl a4=>some true |.inr b5=>some b5.1
def a6R:FSem:=⟨[.v QL],[.v .bool],a2z⟩
def d5m:Hints:=⟨[(26,[.sv 5 QL,.sv 6 QI,.sv 7 QI],[(.exit 0,[]),(.ret,[.sv 2 .bool])])],[],[]⟩
def a2D(x:Int):Option Int:= some (v0a (u0z x (-1048576)) 1048575)
def b1X:FSem:=⟨[.v QI],[.v QI],a2D⟩
def d5n:Hints:=⟨[],[],[]⟩
def a3E(s:Z79):Option (Z79 ⊕ Z64):= cond (decide (s.2.1<0)) none ((a2D (z0h .i64 s.2.2.1 s.2.1)).bind fun y2=> cond (decide (s.2.1<0)) none (cond (y2 != (z0h .i64 s.2.2.1 s.2.1)) (some (.inl (s.1,wrap .i64 (s.2.1+1),s.2.2.1,s.2.2.2.1,s.2.2.2.2.1,s.2.2.2.2.2.1,()))) (some (.inr (s.1,s.2.1,s.2.2.2.1,s.2.2.2.2.1,s.2.2.2.2.2.1,())))))
def a5v(s:Z64):Option (Z64 ⊕ Z5):= cond (decide (s.2.2.2.2.1<s.2.2.2.1)) ((l0z s.2.2.1 s.2.2.2.2.1).bind fun x1=> (x0r a3E (s.1,s.2.1,x1,s.2.2.1,s.2.2.2.1,s.2.2.2.2.1,())).bind fun w3=> some (.inl (w3.1,w3.2.1,w3.2.2.1,w3.2.2.2.1,wrap .i64 (w3.2.2.2.2.1+1),()))) (some (.inr (s.1,s.2.1,())))
def a5w(s:Z63):Option (Z63 ⊕ ((List Int)×Unit)):= cond (decide (s.2.2.2.1<s.2.2.1)) ((l0z s.2.1 s.2.2.2.1).bind fun x5=> cond (decide (s.1<0)) none (cond ((decide (0≤s.2.2.2.1))&&(decide (s.2.2.2.1<(s.2.2.2.2.1.length:Int)))) (some (.inl (s.1,s.2.1,s.2.2.1,wrap .i64 (s.2.2.2.1+1),a08 s.2.2.2.2.1 (a00 s.2.2.2.1) (z0h .i64 x5 s.1),()))) none)) (some (.inr (s.2.2.2.2.1,())))
def a8g(x:(List Int)):Option (List Int):= (x0r a5v (x,0,x,(x.length:Int),0,())).bind fun w4=> cond ((decide (0≤(w4.1.length:Int)))&&((decide ((w4.1.length:Int)≤(w4.1.length:Int)))&&(lim (a00 (w4.1.length:Int))))) ((x0r a5w (w4.2.1,w4.1,(w4.1.length:Int),0,a01 (a00 (w4.1.length:Int)) 0,())).bind fun w6=> some w6.1) none
def b5g:FSem:=⟨[.v QL],[.o QI],a8g⟩
def d5o:Hints:=⟨[(58,[.sv 0 QL,.sv 3 QI,.sv 9 QL,.sv 10 QI,.sv 11 QI],[(.exit 0,[.sv 0 QL,.sv 3 QI])]),(250,[.sv 3 QI,.sv 29 QL,.sv 30 QI,.sv 31 QI,.own 6 6 QI],[(.exit 4,[.own 6 6 QI])]),(7474,[.sv 0 QL,.sv 3 QI,.sv 5 QI,.sv 9 QL,.sv 10 QI,.sv 11 QI],[(.exit 2,[.sv 0 QL,.sv 3 QI,.sv 9 QL,.sv 10 QI,.sv 11 QI])])],[],[(5,[.v,.v,.v,.v,.v,.v,.v,.x])]⟩
def a3w(s:Z65):Option (Z65 ⊕ (Int×Int×Unit)):= cond (decide (s.2.2.2.2.1<(s.1.length:Int))) ((l0z s.1 s.2.2.2.2.1).bind fun x1=> (l0z s.2.1 (wrap .i64 (s.2.2.2.2.1-1))).bind fun x2=> (l0z s.1 s.2.2.2.2.1).bind fun x3=> (l0z s.1 s.2.2.2.2.1).bind fun x4=> (l0z s.2.1 (wrap .i64 (s.2.2.2.2.1-1))).bind fun x5=> (l0z s.2.1 (wrap .i64 (s.2.2.2.2.1-1))).bind fun x6=> some (.inl (s.1,s.2.1,wrap .i64 (s.2.2.1+(wrap .i64 (x1*x2))),wrap .i64 (s.2.2.2.1+(wrap .i64 ((wrap .i64 (x3*x4))+(wrap .i64 (x5*x6))))),wrap .i64 (s.2.2.2.2.1+1),()))) (some (.inr (s.2.2.1,s.2.2.2.1,())))
def a3x(s:(Int×Int×Unit)):Option ((Int×Int×Unit) ⊕ (Int×Int×Unit)):= cond (decide (s.2.1≥1099511627776)) (some (.inl (z0h .i64 s.1 1,z0h .i64 s.2.1 1,()))) (some (.inr (s.1,s.2.1,())))
def a5c(x:Z11):Option Int:= (x0r a3w (x.1,x.2.1,0,0,x.2.2,())).bind fun w7=> (x0r a3x (w7.1,w7.2.1,())).bind fun w8=> cond (w8.2.1==0) (some 0) (cond (w8.2.1==0) none ((show Option (Int×Unit)from cond (w8.2.1==0) none (cond (decide ((a07 (z0g .i64 w8.1 15) w8.2.1)<0)) (some (wrap .i64 ((wrap .i64 (a05 (z0g .i64 w8.1 15) w8.2.1))-1),())) (some (wrap .i64 (a05 (z0g .i64 w8.1 15) w8.2.1),())))).bind fun z9=> some (v0a (u0z z9.1 (-16383)) 16383)))
def b1O:FSem:=⟨[.v QL,.v QL,.v QI],[.v QI],a5c⟩
def d5p:Hints:=⟨[(58,[.sv 0 QL,.sv 1 QL,.sv 7 QI,.sv 8 QI,.sv 9 QI],[(.exit 0,[.sv 7 QI,.sv 8 QI])]),(60,[.sv 7 QI,.sv 8 QI],[(.exit 2,[.sv 7 QI,.sv 8 QI])])],[(255,[(.normal,[.sv 10 QI])])],[(5,[.v,.v,.v,.v,.v,.v,.v,.v,.v,.v,.v,.x,.x]),(6,[.v,.v,.v,.v,.v,.v,.v,.v,.v,.v,.v,.v,.v,.v,.v,.v,.v,.v,.v,.v,.v,.v,.x,.x])]⟩
def a3g(s:(Int×Int×Z76)):Option ((Int×Int×Z76) ⊕ Z76):= cond (decide (s.2.2.2.1≥s.2.1)) (cond ((decide (0≤s.2.2.2.1))&&(decide (s.2.2.2.1<(s.2.2.2.2.1.length:Int)))) (cond ((decide (0≤(wrap .i64 (s.2.2.2.1-1))))&&(decide ((wrap .i64 (s.2.2.2.1-1))<(s.2.2.2.2.2.1.length:Int)))) ((a2D (wrap .i64 ((a04 s.2.2.2.2.1 (a00 s.2.2.2.1) 0)-(z0h .i64 (wrap .i64 (s.2.2.1*(a04 s.2.2.2.2.2.1 (a00 (wrap .i64 (s.2.2.2.1-1))) 0))) 14)))).bind fun y6=> cond ((decide (0≤s.2.2.2.1))&&(decide (s.2.2.2.1<(s.2.2.2.2.1.length:Int)))) ((a2D (wrap .i64 ((a04 s.2.2.2.2.2.1 (a00 (wrap .i64 (s.2.2.2.1-1))) 0)-(z0h .i64 (wrap .i64 (s.2.2.1*(a04 s.2.2.2.2.1 (a00 s.2.2.2.1) 0))) 14)))).bind fun y7=> cond ((decide (0≤s.2.2.2.1))&&(decide (s.2.2.2.1<(s.2.2.2.2.2.1.length:Int)))) (some (.inl (s.1,s.2.1,s.2.2.1,wrap .i64 (s.2.2.2.1-1),a08 s.2.2.2.2.1 (a00 s.2.2.2.1) y6,a08 s.2.2.2.2.2.1 (a00 s.2.2.2.1) y7,s.2.2.2.2.2.2.1,()))) none) none) none) none) (some (.inr (s.1,s.2.1,s.2.2.2.2.1,s.2.2.2.2.2.1,s.2.2.2.2.2.2.1,())))
def a3h(s:Z76):Option (Z76 ⊕ ((List Int)×Unit)):= cond (decide (s.2.1≤s.1)) ((a5c (s.2.2.1,s.2.2.2.1,s.2.1)).bind fun y5=> cond (lim ((a02 s.2.2.2.2.1)+1)) ((x0r a3g (s.1,s.2.1,y5,wrap .i64 ((s.2.2.1.length:Int)-1),s.2.2.1,s.2.2.2.1,a03 s.2.2.2.2.1 [y5],())).bind fun w8=> some (.inl (w8.1,wrap .i64 (w8.2.1+1),w8.2.2.1,w8.2.2.2.1,w8.2.2.2.2.1,()))) none) (some (.inr (s.2.2.2.2.1,())))
def a6S(x:((List Int)×Int)):Option ((List Int)×Int):= (show Option Z21 from cond (decide (x.2<1)) (some (x.1,x.2,true,())) (cond (decide (x.2 > 32)) (some (x.1,x.2,true,())) (some (x.1,x.2,decide ((x.1.length:Int) > 4096),())))).bind fun z1=> cond z1.2.2.1 (some ([],1)) ((a2z z1.1).bind fun y2=> cond (!y2) (some ([],6)) ((a8g z1.1).bind fun y3=> (a1f y3).bind fun y4=> cond ((decide (0≤z1.2.1))&&(lim (a00 z1.2.1))) ((x0r a3h (z1.2.1,1,y3,y4,[],())).bind fun w9=> some (w9.1,0)) none))
def b4y:FSem:=⟨[.v QL,.v QI],[.o QI,.v QI],a6S⟩
def d5q:Hints:=⟨[(1018,[.sv 1 QI,.sv 9 QI,.own 6 6 QI,.own 7 7 QI,.own 8 8 QI],[(.exit 0,[.own 8 8 QI])]),(260686,[.sv 1 QI,.sv 9 QI,.sv 10 QI,.sv 11 QI,.own 6 6 QI,.own 7 7 QI,.own 8 8 QI],[(.exit 2,[.sv 1 QI,.sv 9 QI,.own 6 6 QI,.own 7 7 QI,.own 8 8 QI])])],[(6,[(.normal,[.sv 0 QL,.sv 1 QI,.sv 24 .bool])])],[(16,[.q,.v,.q,.q,.q,.v,.v,.q,.q,.v,.x])]⟩
def a2e(s:Z47):Option (Z47 ⊕ (((List Int)×Unit) ⊕ Z5)):= cond (decide (s.2.2.2.1<s.2.2.1)) ((l0z s.2.1 s.2.2.2.1).bind fun x2=> (show Option ((List Int)×Z36)from cond (decide (x2<(-16383))) (some (s.1,s.2.1,s.2.2.1,s.2.2.2.1,true,())) (some (s.1,s.2.1,s.2.2.1,s.2.2.2.1,decide (x2 > 16383),()))).bind fun z3=> cond z3.2.2.2.2.1 (some (.inr (Sum.inr (([],1,()))))) (some (.inl (z3.1,z3.2.1,z3.2.2.1,wrap .i64 (z3.2.2.2.1+1),())))) (some (.inr (Sum.inl (s.1,()))))
def a4j(s:((List Int)×(Int×(Int×((List Int)×Z80))))):Option (((List Int)×(Int×(Int×((List Int)×Z80)))) ⊕ Z63):= cond (decide (s.2.2.2.2.2.2.2.2.1<s.2.2.2.2.2.2.2.1)) ((l0z s.2.2.2.2.2.2.1 s.2.2.2.2.2.2.2.2.1).bind fun x8=> (l0z s.1 (wrap .i64 ((wrap .i64 (s.2.1-1))-s.2.2.2.2.2.2.2.2.1))).bind fun x9=> cond (lim ((a02 s.2.2.2.2.2.2.2.2.2.1)+1)) (some (.inl (s.1,s.2.1,s.2.2.1,s.2.2.2.1,s.2.2.2.2.1,s.2.2.2.2.2.1,s.2.2.2.2.2.2.1,s.2.2.2.2.2.2.2.1,wrap .i64 (s.2.2.2.2.2.2.2.2.1+1),a03 s.2.2.2.2.2.2.2.2.2.1 [wrap .i64 (x8-(z0h .i64 (wrap .i64 (s.2.2.1*x9)) 14))],()))) none) (some (.inr (s.2.2.1,s.2.2.2.1,s.2.2.2.2.1,s.2.2.2.2.2.1,s.2.2.2.2.2.2.2.2.2.1,())))
def a6c(s:Z47):Option (Z47 ⊕ ((List Int)×Unit)):= cond (decide (s.2.2.2.1<s.2.2.1)) ((l0z s.2.1 s.2.2.2.1).bind fun x7=> cond ((decide (0≤(wrap .i64 (s.2.2.2.1+1))))&&(lim (a00 (wrap .i64 (s.2.2.2.1+1))))) ((x0r a4j (s.1,s.2.2.2.1,x7,s.2.1,s.2.2.1,s.2.2.2.1,s.1,(s.1.length:Int),0,[],())).bind fun w10=> cond (lim ((a02 w10.2.2.2.2.1)+1)) (some (.inl (a03 w10.2.2.2.2.1 [w10.1],w10.2.1,w10.2.2.1,wrap .i64 (w10.2.2.2.1+1),()))) none) none) (some (.inr (s.1,())))
def a8P(x:(List Int)):Option ((List Int)×Int):= (show Option ((List Int)×(Bool×Unit))from cond (decide ((x.length:Int)<1)) (some (x,true,())) (some (x,decide ((x.length:Int) > 32),()))).bind fun z1=> cond z1.2.1 (some ([],1)) ((x0r a2e (z1.1,z1.1,(z1.1.length:Int),0,())).bind fun w4=> match w4 with |.inl a5=>((x0r a6c ([],a5.1,(a5.1.length:Int),0,())).bind fun w11=> some (w11.1,0)) |.inr b6=>some (b6.1,b6.2.1))
def b6e:FSem:=⟨[.v QL],[.v QL,.v QI],a8P⟩
def d5r:Hints:=⟨[(58,[.sv 0 QL,.sv 20 QL,.sv 21 QI,.sv 22 QI],[(.exit 0,[.sv 0 QL]),(.ret,[.sv 2 QL,.sv 3 QI])]),(250,[.sv 6 QL,.sv 34 QL,.sv 35 QI,.sv 36 QI],[(.exit 2,[.sv 6 QL])]),(256410,[.sv 6 QL,.sv 7 QI,.sv 8 QI,.sv 34 QL,.sv 35 QI,.sv 36 QI,.sv 44 QL,.sv 45 QI,.sv 46 QI,.own 9 9 QI],[(.exit 4,[.sv 8 QI,.sv 34 QL,.sv 35 QI,.sv 36 QI,.own 9 9 QI])])],[(6,[(.normal,[.sv 0 QL,.sv 19 .bool])]),(3737,[(.normal,[.sv 0 QL,.sv 20 QL,.sv 21 QI,.sv 22 QI,.sv 31 .bool])])],[]⟩
def a2f(s:Z64):Option (Z64 ⊕ (Z5 ⊕ Z18)):= cond (decide (s.2.2.2.2.1<s.2.2.2.1)) ((l0z s.2.2.1 s.2.2.2.2.1).bind fun x2=> (show Option ((List Int)×(Int×Z36))from cond (decide (x2<(-35184372088832))) (some (s.1,s.2.1,s.2.2.1,s.2.2.2.1,s.2.2.2.2.1,true,())) (some (s.1,s.2.1,s.2.2.1,s.2.2.2.1,s.2.2.2.2.1,decide (x2 > 35184372088832),()))).bind fun z3=> cond z3.2.2.2.2.2.1 (some (.inr (Sum.inr ((0,1,[],()))))) (some (.inl (z3.1,z3.2.1,z3.2.2.1,z3.2.2.2.1,wrap .i64 (z3.2.2.2.2.1+1),())))) (some (.inr (Sum.inl (s.1,s.2.1,()))))
def a2g(s:((List Int)×(Int×Z80))):Option (((List Int)×(Int×Z80)) ⊕ Z46):= cond (decide (s.2.2.2.2.2.2.1<s.2.2.2.2.2.1)) ((l0z s.2.2.2.2.1 s.2.2.2.2.2.2.1).bind fun x8=> cond (decide (s.2.2.1<0)) none ((a4a (z0h .i64 (wrap .i64 (x8+s.2.2.2.1)) s.2.2.1,s.2.1)).bind fun y9=> cond (!y9) (some (.inr (s.1,s.2.1,s.2.2.1,s.2.2.2.2.2.2.2.1,()))) (cond (lim ((a02 s.2.2.2.2.2.2.2.1)+1)) (some (.inl (s.1,s.2.1,s.2.2.1,s.2.2.2.1,s.2.2.2.2.1,s.2.2.2.2.2.1,wrap .i64 (s.2.2.2.2.2.2.1+1),a03 s.2.2.2.2.2.2.2.1 [z0h .i64 (wrap .i64 (x8+s.2.2.2.1)) s.2.2.1],()))) none))) (some (.inr (s.1,s.2.1,s.2.2.1,s.2.2.2.2.2.2.2.1,())))
def a2h(s:Z16):Option (Z16 ⊕ (Unit ⊕ Z18)):= cond (decide (s.2.2.1≤14)) ((show Option Z34 from cond (decide (s.2.2.1 > 0)) (cond (decide ((wrap .i64 (s.2.2.1-1))<0)) none (some (s.1,s.2.1,s.2.2.1,z0g .i64 1 (wrap .i64 (s.2.2.1-1)),()))) (some (s.1,s.2.1,s.2.2.1,0,()))).bind fun z7=> cond ((decide (0≤(z7.1.length:Int)))&&(lim (a00 (z7.1.length:Int)))) ((x0r a2g (z7.1,z7.2.1,z7.2.2.1,z7.2.2.2.1,z7.1,(z7.1.length:Int),0,[],())).bind fun w10=> cond ((w10.2.2.2.1.length:Int)==(w10.1.length:Int)) (some (.inr (Sum.inr ((wrap .i64 (14-w10.2.2.1),0,w10.2.2.2.1,()))))) (some (.inl (w10.1,w10.2.1,wrap .i64 (w10.2.2.1+1),())))) none) (some (.inr (Sum.inl ())))
def a8Q(x:((List Int)×Int)):Option Z2:= (show Option Z21 from cond (decide ((x.1.length:Int)<1)) (some (x.1,x.2,true,())) (cond (decide ((x.1.length:Int) > 32)) (some (x.1,x.2,true,())) (cond (decide (x.2<2)) (some (x.1,x.2,true,())) (some (x.1,x.2,decide (x.2 > 16),()))))).bind fun z1=> cond z1.2.2.1 (some ([],0,1)) ((x0r a2f (z1.1,z1.2.1,z1.1,(z1.1.length:Int),0,())).bind fun w4=> match w4 with |.inl a5=>((x0r a2h (a5.1,a5.2.1,0,())).bind fun w11=> match w11 with |.inl a12=>some ([],0,6) |.inr b13=>some (b13.2.2.1,b13.1,b13.2.1)) |.inr b6=>some (b6.2.2.1,b6.1,b6.2.1))
def b6f:FSem:=⟨[.v QL,.v QI],[.o QI,.v QI,.v QI],a8Q⟩
def d5s:Hints:=⟨[(58,[.sv 0 QL,.sv 1 QI,.sv 31 QL,.sv 32 QI,.sv 33 QI],[(.exit 0,[.sv 0 QL,.sv 1 QI]),(.ret,[.sv 5 QI,.sv 6 QI,.own 4 4 QI])]),(122,[.sv 0 QL,.sv 1 QI,.sv 9 QI],[(.exit 2,[]),(.ret,[.sv 5 QI,.sv 6 QI,.own 4 11 QI])]),(125242,[.sv 0 QL,.sv 1 QI,.sv 9 QI,.sv 10 QI,.sv 56 QL,.sv 57 QI,.sv 58 QI,.own 11 11 QI],[(.exit 4,[.sv 0 QL,.sv 1 QI,.sv 9 QI,.own 11 11 QI])])],[(6,[(.normal,[.sv 0 QL,.sv 1 QI,.sv 30 .bool])]),(3737,[(.normal,[.sv 0 QL,.sv 1 QI,.sv 31 QL,.sv 32 QI,.sv 33 QI,.sv 42 .bool])]),(3913,[(.normal,[.sv 0 QL,.sv 1 QI,.sv 9 QI,.sv 10 QI])])],[]⟩
def a4b(x:Z2):Option Z2:= (a6S (x.1,x.2.1)).bind fun y1=> cond (y1.2 != 0) (some ([],0,y1.2)) ((a8P y1.1).bind fun y2=> cond (y2.2 != 0) (some ([],0,y2.2)) ((a8Q (y2.1,x.2.2)).bind fun y3=> some (y3.1,y3.2.1,y3.2.2)))
def b3u:FSem:=⟨[.v QL,.v QI,.v QI],[.o QI,.v QI,.v QI],a4b⟩
def d5t:Hints:=⟨[],[],[]⟩
def a7O(x:Int):Option Bool:= cond (decide (x≥(-1073741824))) (some (decide (x<1073741824))) (some false)
def b2t:FSem:=⟨[.v QI],[.v .bool],a7O⟩
def d5u:Hints:=⟨[],[],[]⟩
def a4k(s:Z16):Option Z75:= cond (decide (s.2.2.1<s.2.1)) ((l0z s.1 s.2.2.1).bind fun x1=> (a7O x1).bind fun y2=> cond (!y2) (some (.inr (Sum.inr ((false,()))))) (some (.inl (s.1,s.2.1,wrap .i64 (s.2.2.1+1),())))) (some (.inr (Sum.inl ())))
def a4C(x:(List Int)):Option Bool:= (x0r a4k (x,(x.length:Int),0,())).bind fun w3=> match w3 with |.inl a4=>some true |.inr b5=>some b5.1
def a8R:FSem:=⟨[.v QL],[.v .bool],a4C⟩
def d5v:Hints:=⟨[(26,[.sv 5 QL,.sv 6 QI,.sv 7 QI],[(.exit 0,[]),(.ret,[.sv 2 .bool])])],[],[]⟩
def c2o(s:((List Int)×(Int×Int×Z38))):Option (((List Int)×(Int×Int×Z38)) ⊕ ((List Int)×(Int×Z38))):= cond (decide (s.2.2.2.2.2.2.2.1<(s.1.length:Int))) ((l0z s.1 s.2.2.2.2.2.2.2.1).bind fun x3=> (l0z s.1 (wrap .i64 (s.2.2.2.2.2.2.2.1-s.2.2.2.2.2.1))).bind fun x4=> some (.inl (s.1,s.2.1,s.2.2.1,s.2.2.2.1,s.2.2.2.2.1,s.2.2.2.2.2.1,wrap .i64 (s.2.2.2.2.2.2.1+(u0z (wrap .i64 (x3-x4)) (wrap .i64 (0-(wrap .i64 (x3-x4)))))),wrap .i64 (s.2.2.2.2.2.2.2.1+1),()))) (some (.inr (s.1,s.2.1,s.2.2.1,s.2.2.2.1,s.2.2.2.2.1,s.2.2.2.2.2.1,s.2.2.2.2.2.2.1,())))
def c2p(s:((List Int)×Z38)):Option (((List Int)×Z38) ⊕ (Int×Unit)):= cond (decide (s.2.2.2.2.2.1≤s.2.2.1)) ((x0r c2o (s.1,s.2.1,s.2.2.1,s.2.2.2.1,s.2.2.2.2.1,s.2.2.2.2.2.1,0,s.2.2.1,())).bind fun w5=> (show Option ((List Int)×(Int×Int×Int×Z26))from cond (w5.2.2.2.2.2.1==w5.2.1) (some (w5.1,w5.2.1,w5.2.2.1,w5.2.2.2.1,w5.2.2.2.2.1,w5.2.2.2.2.2.1,w5.2.2.2.2.2.2.1,true,())) (some (w5.1,w5.2.1,w5.2.2.1,w5.2.2.2.1,w5.2.2.2.2.1,w5.2.2.2.2.2.1,w5.2.2.2.2.2.2.1,decide (w5.2.2.2.2.2.2.1<w5.2.2.2.2.1),()))).bind fun z6=> cond z6.2.2.2.2.2.2.2.1 (some (.inl (z6.1,z6.2.1,z6.2.2.1,z6.2.2.2.2.2.1,z6.2.2.2.2.2.2.1,wrap .i64 (z6.2.2.2.2.2.1+1),()))) (some (.inl (z6.1,z6.2.1,z6.2.2.1,z6.2.2.2.1,z6.2.2.2.2.1,wrap .i64 (z6.2.2.2.2.2.1+1),())))) (some (.inr (s.2.2.2.1,())))
def b2u(x:Z2):Option (Int×Int):= (show Option Z36 from cond (decide (x.2.1<2)) (some (x.1,x.2.1,x.2.2,true,())) (cond (decide (x.2.1 > x.2.2)) (some (x.1,x.2.1,x.2.2,true,())) (cond (decide (x.2.2 > 1024)) (some (x.1,x.2.1,x.2.2,true,())) (some (x.1,x.2.1,x.2.2,decide ((x.1.length:Int) > 4096),()))))).bind fun z1=> cond z1.2.2.2.1 (some (0,1)) (cond (decide ((z1.1.length:Int)≤z1.2.2.1)) (some (0,7)) ((a4C z1.1).bind fun y2=> cond (!y2) (some (0,6)) ((x0r c2p (z1.1,z1.2.1,z1.2.2.1,0,0,z1.2.1,())).bind fun w7=> some (w7.1,0))))
def b9k:FSem:=⟨[.v QL,.v QI,.v QI],[.v QI,.v QI],b2u⟩
def d5w:Hints:=⟨[(506,[.sv 0 QL,.sv 1 QI,.sv 2 QI,.sv 8 QI,.sv 9 QI,.sv 10 QI],[(.exit 0,[.sv 8 QI])]),(129610,[.sv 0 QL,.sv 1 QI,.sv 2 QI,.sv 8 QI,.sv 9 QI,.sv 10 QI,.sv 11 QI,.sv 12 QI],[(.exit 2,[.sv 0 QL,.sv 1 QI,.sv 2 QI,.sv 8 QI,.sv 9 QI,.sv 10 QI,.sv 11 QI])])],[(6,[(.normal,[.sv 0 QL,.sv 1 QI,.sv 2 QI,.sv 29 .bool])]),(32403,[(.normal,[.sv 0 QL,.sv 1 QI,.sv 2 QI,.sv 8 QI,.sv 9 QI,.sv 10 QI,.sv 11 QI,.sv 74 .bool])])],[(15,[.v,.v,.v,.v,.v,.v,.v,.v,.v,.v,.x,.x])]⟩
def a7t(s:Z5):Option (Z5 ⊕ Z0):= cond (decide (s.2.1<3)) ((l0z s.1 s.2.1).bind fun x2=> (show Option Z21 from cond (decide (x2<(-64))) (some (s.1,s.2.1,true,())) (some (s.1,s.2.1,decide (x2 > 64),()))).bind fun z3=> cond z3.2.2.1 (some (.inr (Sum.inr ((false,()))))) (some (.inl (z3.1,wrap .i64 (z3.2.1+1),())))) (some (.inr (Sum.inl ())))
def a8S(x:(Int×(List Int))):Option Bool:= (show Option Z8 from cond (decide (x.1<2)) (some (true,x.2,())) (some (decide (x.1 > 1024),x.2,()))).bind fun z1=> cond z1.1 (some false) ((x0r a7t (z1.2.1,0,())).bind fun w4=> match w4 with |.inl a5=>some true |.inr b6=>some b6.1)
def b3T:FSem:=⟨[.v QI,.v (.arr 3 QI)],[.v .bool],a8S⟩
def d5x:Hints:=⟨[(58,[.sv 13 (.arr 3 QI),.sv 14 QI],[(.exit 0,[]),(.ret,[.sv 4 .bool])])],[(6,[(.normal,[.sv 12 .bool,.vp 3 (.arr 3 QI)])]),(3737,[(.normal,[.sv 13 (.arr 3 QI),.sv 14 QI,.sv 22 .bool])])],[]⟩
def a4l(s:((List Int)×(Int×Int×Z19))):Option (((List Int)×(Int×Int×Z19)) ⊕ (Int×Unit)):= cond (decide (s.2.2.2.2.2.1<3)) ((l0z s.2.2.2.2.1 s.2.2.2.2.2.1).bind fun x1=> cond (decide ((wrap .i64 ((wrap .i64 ((wrap .i64 (s.2.1-s.2.2.1))-1))+s.2.2.2.2.2.1))≥0)) ((l0z s.1 (wrap .i64 ((wrap .i64 ((wrap .i64 (s.2.1-s.2.2.1))-1))+s.2.2.2.2.2.1))).bind fun x2=> some (.inl (s.1,s.2.1,s.2.2.1,wrap .i64 (s.2.2.2.1+(wrap .i64 (x1*x2))),s.2.2.2.2.1,wrap .i64 (s.2.2.2.2.2.1+1),()))) (some (.inl (s.1,s.2.1,s.2.2.1,s.2.2.2.1,s.2.2.2.2.1,wrap .i64 (s.2.2.2.2.2.1+1),())))) (some (.inr (s.2.2.2.1,())))
def a4D(x:((List Int)×Z3)):Option Int:= (x0r a4l (x.1,x.2.1,x.2.2.1,0,x.2.2.2,0,())).bind fun w3=> some (z0h .i64 w3.1 6)
def b1Y:FSem:=⟨[.v QL,.v QI,.v QI,.v (.arr 3 QI)],[.v QI],a4D⟩
def d5y:Hints:=⟨[(58,[.sv 0 QL,.sv 1 QI,.sv 2 QI,.sv 9 QI,.sv 13 (.arr 3 QI),.sv 14 QI],[(.exit 0,[.sv 9 QI])])],[],[]⟩
def a6u(s:((List Int)×Z91)):Option (((List Int)×Z91) ⊕ Z52):= cond (decide (s.2.2.2.2.1<s.2.2.2.1)) ((l0z s.2.2.1 s.2.2.2.2.1).bind fun x3=> (a4D (s.1,s.2.2.2.2.1,s.2.1,s.2.2.2.2.2.2.1)).bind fun y4=> (a7O (wrap .i64 (x3-y4))).bind fun y5=> cond (!y5) (some (.inr (Sum.inr ((6,[],()))))) (cond (lim ((a02 s.2.2.2.2.2.1)+1)) (some (.inl (s.1,s.2.1,s.2.2.1,s.2.2.2.1,wrap .i64 (s.2.2.2.2.1+1),a03 s.2.2.2.2.2.1 [wrap .i64 (x3-y4)],s.2.2.2.2.2.2.1,()))) none)) (some (.inr (Sum.inl (s.2.2.2.2.2.1,()))))
def a9y(x:Z12):Option ((List Int)×Int):= (a8S (x.2.1,x.2.2)).bind fun y1=> cond (!y1) (some ([],1)) ((a4C x.1).bind fun y2=> cond (!y2) (some ([],6)) (cond ((decide (0≤(x.1.length:Int)))&&(lim (a00 (x.1.length:Int)))) ((x0r a6u (x.1,x.2.1,x.1,(x.1.length:Int),0,[],x.2.2,())).bind fun w6=> match w6 with |.inl a7=>some (a7.1,0) |.inr b8=>some (b8.2.1,b8.1)) none))
def a9z:FSem:=⟨[.v QL,.v QI,.v (.arr 3 QI)],[.o QI,.v QI],a9y⟩
def d5z:Hints:=⟨[(250,[.sv 0 QL,.sv 1 QI,.sv 22 QL,.sv 23 QI,.sv 24 QI,.own 8 8 QI,.vp 5 (.arr 3 QI)],[(.exit 0,[.own 8 8 QI]),(.ret,[.sv 7 QI,.own 6 6 QI])])],[],[]⟩
def d1E:Hints:=⟨[],[],[]⟩
def c4a(x:Unit):Option (List (List Int)):=z0c (b0U [] [] [0] []) d1E Tryz.f305 [] [.o (.arr 3 (.int .i64))] x
def b4z:FSem:=⟨[],[.o (.arr 3 QI)],c4a⟩
def d1F:Hints:=⟨[(122,[.sv 0 QL,.sv 1 QI,.sv 7 QI,.sv 8 .bool,.sv 25 QI,.sv 26 QI,.own 24 1024 (.arr 3 QI),.box 4 (.arr 3 QI),.box 6 (.arr 3 QI),.ptr 4 4 [],.ptr 6 6 []],[(.exit 0,[.sv 8 .bool,.box 4 (.arr 3 QI),.box 6 (.arr 3 QI),.ptr 4 4 [],.ptr 6 6 []])]),(501370,[.sv 0 QL,.sv 1 QI,.sv 7 QI,.sv 8 .bool,.sv 13 QI,.sv 25 QI,.sv 26 QI,.sv 40 QI,.sv 41 QI,.own 24 1024 (.arr 3 QI),.own 39 11 QI,.box 4 (.arr 3 QI),.box 6 (.arr 3 QI),.box 10 (.arr 3 QI),.ptr 4 4 [],.ptr 6 6 [],.ptr 10 10 []],[(.exit 2,[.sv 0 QL,.sv 1 QI,.sv 7 QI,.sv 8 .bool,.sv 13 QI,.sv 25 QI,.sv 26 QI,.own 24 1024 (.arr 3 QI),.box 4 (.arr 3 QI),.box 6 (.arr 3 QI),.box 10 (.arr 3 QI),.ptr 4 4 [],.ptr 6 6 [],.ptr 10 10 []])])],[(6,[(.normal,[.sv 0 QL,.sv 1 QI,.sv 21 .bool,.box 4 (.arr 3 QI),.ptr 4 4 []])]),(125343,[(.normal,[.sv 0 QL,.sv 1 QI,.sv 7 QI,.sv 8 .bool,.sv 13 QI,.sv 25 QI,.sv 26 QI,.sv 58 .bool,.own 24 1024 (.arr 3 QI),.box 4 (.arr 3 QI),.box 6 (.arr 3 QI),.box 10 (.arr 3 QI),.ptr 4 4 [],.ptr 6 6 [],.ptr 10 10 []])])],[]⟩
def b9l(x:((List Int)×Int)):Option ((List Int)×Int):=z0c (b0U [(250,a9z),(305,b4z)] [] [0,1,5,7,8,11,12,13,15] []) d1F Tryz.f249 [.v (.list false (.int .i64)),.v (.int .i64)] [.v (.arr 3 (.int .i64)),.v (.int .i64)] x
def b9m:FSem:=⟨[.v QL,.v QI],[.v (.arr 3 QI),.v QI],b9l⟩
def a3F(x:(List Int)):Option (a1E×Bool):= (b2u (x,16,256)).bind fun y1=> cond (y1.2 != 0) (some ((0,0,0,0,0,[],a01 3 0,[],[],(0,[],()),[],()),false)) ((b9l (x,y1.1)).bind fun y2=> cond (y2.2 != 0) (some ((0,0,0,0,0,[],a01 3 0,[],[],(0,[],()),[],()),false)) ((a9y (x,y1.1,y2.1)).bind fun y3=> cond (y3.2 != 0) (some ((0,0,0,0,0,[],a01 3 0,[],[],(0,[],()),[],()),false)) ((a4b (y3.1,4,12)).bind fun y4=> cond (y4.2.2 != 0) (some ((0,0,0,0,0,[],a01 3 0,[],[],(0,[],()),[],()),false)) (some ((4,0,0,y4.2.1,y1.1,y4.1,y2.1,[],[],(0,[],()),[],()),true)))))
def b8g:FSem:=⟨[.v QL],[.v Q32,.v .bool],a3F⟩
def d5A:Hints:=⟨[],[],[]⟩
def a0R(x:(Int×(Int×((List Int)×b3n)))):Option ((List Int)×b3n):= (a4b (x.2.2.1,x.1,x.2.1)).bind fun y1=> cond (y1.2.2==0) (cond (lim ((a02 x.2.2.2)+1)) (some (x.2.2.1,a03 x.2.2.2 ([(3,0,0,y1.2.1,0,y1.1,a01 3 0,[],[],(0,[],()),[],())]:List a1E))) none) (some (x.2.2.1,x.2.2.2))
def b3a:FSem:=⟨[.v QI,.v QI,.r false (.b QL),.r false (.b (.list true Q32))],[],a0R⟩
def d5B:Hints:=⟨[],[],[]⟩
def a2q(s:(Int×c6g)):Option ((Int×c6g) ⊕ c6g):= cond (decide (s.1<5)) (cond (lim ((a02 s.2.1)+1)) (some (.inl (wrap .i64 (s.1+1),a03 s.2.1 ([(2,0,s.1,0,0,[],a01 3 0,[],[],(0,[],()),[],())]:List a1E),s.2.2.1,()))) none) (some (.inr (s.2.1,s.2.2.1,())))
def a6T(x:((List Int)×Int)):Option b3n:= (a6t x.1).bind fun y1=> (show Option (Int×((List Int)×c8D))from cond (decide (x.2≥1)) ((a0R (4,12,x.1,([(0,0,0,0,0,[],a01 3 0,[],[],(0,[],()),[],()),(1,0,0,0,0,[],a01 3 0,[],[],(0,[],()),[],()),(2,0,y1,0,0,[],a01 3 0,[],[],(0,[],()),[],())]:List a1E))).bind fun y2=> (a0R (8,12,y2.1,y2.2)).bind fun y3=> some (x.2,y3.1,y3.2,())) (some (x.2,x.1,([(0,0,0,0,0,[],a01 3 0,[],[],(0,[],()),[],()),(1,0,0,0,0,[],a01 3 0,[],[],(0,[],()),[],()),(2,0,y1,0,0,[],a01 3 0,[],[],(0,[],()),[],())]:List a1E),()))).bind fun z4=> (show Option (Int×c6g)from cond (decide (z4.1≥2)) (cond (lim ((a02 z4.2.2.1)+1)) (cond (lim ((a02 (a03 z4.2.2.1 ([(5,0,0,0,0,[],a01 3 0,([(16,4,())]:List (Int×Int×Unit)),[],(0,[],()),[],())]:List a1E)))+1)) ((a3F z4.2.1).bind fun y5=> cond y5.2 (cond (lim ((a02 (a03 (a03 z4.2.2.1 ([(5,0,0,0,0,[],a01 3 0,([(16,4,())]:List (Int×Int×Unit)),[],(0,[],()),[],())]:List a1E)) ([(5,0,0,0,0,[],a01 3 0,([(32,3,()),(16,5,())]:List (Int×Int×Unit)),[],(0,[],()),[],())]:List a1E)))+1)) (some (z4.1,a03 (a03 (a03 z4.2.2.1 ([(5,0,0,0,0,[],a01 3 0,([(16,4,())]:List (Int×Int×Unit)),[],(0,[],()),[],())]:List a1E)) ([(5,0,0,0,0,[],a01 3 0,([(32,3,()),(16,5,())]:List (Int×Int×Unit)),[],(0,[],()),[],())]:List a1E)) ([y5.1]:List a1E),z4.2.1,())) none) (some (z4.1,a03 (a03 z4.2.2.1 ([(5,0,0,0,0,[],a01 3 0,([(16,4,())]:List (Int×Int×Unit)),[],(0,[],()),[],())]:List a1E)) ([(5,0,0,0,0,[],a01 3 0,([(32,3,()),(16,5,())]:List (Int×Int×Unit)),[],(0,[],()),[],())]:List a1E),z4.2.1,()))) none) none) (some (z4.1,z4.2.2.1,z4.2.1,()))).bind fun z6=> (show Option c8D from cond (decide (z6.1≥3)) ((x0r a2q (0,z6.2.1,z6.2.2.1,())).bind fun w7=> (a0R (1,12,w7.2.1,w7.1)).bind fun y8=> (a0R (2,12,y8.1,y8.2)).bind fun y9=> (a0R (12,14,y9.1,y9.2)).bind fun y10=> (a0R (16,14,y10.1,y10.2)).bind fun y11=> some (y11.2,())) (some (z6.2.1,()))).bind fun z12=> some z12.1
def b4A:FSem:=⟨[.v QL,.v QI],[.v (.list false Q32)],a6T⟩
def d5C:Hints:=⟨[(4050,[.sv 50 QI,.box 5 (.list true Q32),.box 2 QL,.ptr 5 5 [],.clo 6 193 [2,5]],[(.exit 0,[.box 5 (.list true Q32),.box 2 QL,.ptr 5 5 [],.clo 6 193 [2,5]])])],[(15,[(.normal,[.sv 1 QI,.box 2 QL,.box 5 (.list true Q32),.ptr 2 2 [],.ptr 5 5 [],.clo 6 193 [2,5]])]),(31,[(.normal,[.sv 1 QI,.box 5 (.list true Q32),.box 2 QL,.ptr 5 5 [],.clo 6 193 [2,5]])]),(63,[(.normal,[.box 5 (.list true Q32),.ptr 5 5 []])])],[]⟩
def a5x(s:Z16):Option Z75:= cond (decide (s.2.2.1<s.2.1)) ((l0z s.1 s.2.2.1).bind fun x2=> (show Option Z36 from cond (decide (x2<(-32768))) (some (s.1,s.2.1,s.2.2.1,true,())) (some (s.1,s.2.1,s.2.2.1,decide (x2≥32768),()))).bind fun z3=> cond z3.2.2.2.1 (some (.inr (Sum.inr ((false,()))))) (some (.inl (z3.1,z3.2.1,wrap .i64 (z3.2.2.1+1),())))) (some (.inr (Sum.inl ())))
def a4L(x:((List Int)×Int)):Option Bool:= (show Option ((List Int)×(Bool×Unit))from cond (decide ((x.1.length:Int)<1)) (some (x.1,true,())) (cond (decide ((x.1.length:Int) > 32)) (some (x.1,true,())) (cond (decide (x.2<0)) (some (x.1,true,())) (some (x.1,decide (x.2 > 15),()))))).bind fun z1=> cond z1.2.1 (some false) ((x0r a5x (z1.1,(z1.1.length:Int),0,())).bind fun w4=> match w4 with |.inl a5=>some true |.inr b6=>some b6.1)
def b0Y:FSem:=⟨[.v QL,.v QI],[.v .bool],a4L⟩
def d5D:Hints:=⟨[(58,[.sv 23 QL,.sv 24 QI,.sv 25 QI],[(.exit 0,[]),(.ret,[.sv 4 .bool])])],[(6,[(.normal,[.sv 0 QL,.sv 22 .bool])]),(3737,[(.normal,[.sv 23 QL,.sv 24 QI,.sv 25 QI,.sv 34 .bool])])],[]⟩
def a7u(x:(Int×Int×Unit)):Option Bool:= cond (decide (x.1≥1)) (cond (decide (x.1≤32)) (cond (decide (x.2.1≥0)) (some (decide (x.2.1≤8))) (some false)) (some false)) (some false)
def b3v:FSem:=⟨[.v Q4],[.v .bool],a7u⟩
def d5E:Hints:=⟨[],[],[]⟩
def a6v(s:(Z6×Int×Int×Unit)):Option ((Z6×Int×Int×Unit) ⊕ Z0):= cond (decide (s.2.2.1<s.2.1)) ((l0z s.1 s.2.2.1).bind fun x1=> (a7u x1).bind fun y2=> cond (!y2) (some (.inr (Sum.inr ((false,()))))) (some (.inl (s.1,s.2.1,wrap .i64 (s.2.2.1+1),())))) (some (.inr (Sum.inl ())))
def a7P(x:Z6):Option Bool:= cond (decide ((x.length:Int) > 3)) (some false) ((x0r a6v (x,(x.length:Int),0,())).bind fun w3=> match w3 with |.inl a4=>some true |.inr b5=>some b5.1)
def b2v:FSem:=⟨[.v (.list false Q4)],[.v .bool],a7P⟩
def d5F:Hints:=⟨[(58,[.sv 8 (.list false Q4),.sv 9 QI,.sv 10 QI],[(.exit 0,[]),(.ret,[.sv 2 .bool])])],[],[]⟩
def a8A(x:(Int×b0T)):Option Bool:= (show Option c6h from cond (x.1==0) (some (x.2.2,x.1,x.1==0,x.2.1,())) (some (x.2.2,x.1,x.1==1,x.2.1,()))).bind fun z1=> cond z1.2.2.1 (some true) (cond (z1.2.1==2) (cond (decide (z1.2.2.2.1.2.2.1≥0)) (cond (decide (z1.2.2.2.1.2.2.1≤4)) (some (decide (z1.2.2.2.1.2.2.1≤z1.1))) (some false)) (some false)) (cond (z1.2.1==3) ((a4L (z1.2.2.2.1.2.2.2.2.2.1,z1.2.2.2.1.2.2.2.1)).bind fun y2=> cond y2 (some (decide ((z1.2.2.2.1.2.2.2.2.2.1.length:Int)≤z1.1))) (some false)) (cond (z1.2.1==4) ((a4L (z1.2.2.2.1.2.2.2.2.2.1,z1.2.2.2.1.2.2.2.1)).bind fun y3=> cond y3 (cond (decide ((z1.2.2.2.1.2.2.2.2.2.1.length:Int)≤z1.1)) ((a8S (z1.2.2.2.1.2.2.2.2.1,z1.2.2.2.1.2.2.2.2.2.2.1)).bind fun y4=> some y4) (some false)) (some false)) (cond (z1.2.1==5) (cond (decide ((z1.2.2.2.1.2.2.2.2.2.2.2.1.length:Int) > 0)) ((a7P z1.2.2.2.1.2.2.2.2.2.2.2.1).bind fun y5=> some y5) (some false)) (some false)))))
def b5h:FSem:=⟨[.v QI,.v Q32,.v QI],[.v .bool],a8A⟩
def d5G:Hints:=⟨[],[(26,[(.normal,[.sv 2 QI,.sv 7 QI,.sv 8 .bool,.vp 4 Q32])])],[]⟩
def a4c(x:(List Int)):Option (List Int):= w0g x
def a1J:FSem:=⟨[.v QL],[.v QL],a4c⟩
def d2w:Hints:=⟨[],[],[]⟩
def c7F:Cx:=b0U [] [] [0,2] []
theorem d1G(x):z0c c7F d2w Tryz.f183 a1J.ps a1J.rs x=a1J.F x:=Eq.trans (show _=v0w x by kernel_rfl) (z0q x)
def a1r(x:Z6):Option Z6:= w0g x
def a1d:FSem:=⟨[.v (.list false Q4)],[.v (.list false Q4)],a1r⟩
def d2x:Hints:=⟨[],[],[]⟩
def c7G:Cx:=b0U [] [] [0,2] []
theorem d1H(x):z0c c7G d2x Tryz.f251 a1d.ps a1d.rs x=a1d.F x:=Eq.trans (show _=v0w x by kernel_rfl) (z0q x)
def a6w(x:(Int×a1E)):Option a1E:= (show Option b1W from(show Option ((a1E×b1W) ⊕ (b1W ⊕ (a1E×b1W)))from cond (x.1==2) (some (Sum.inr (Sum.inl ((0,0,0,0,0,[],a01 3 0,[],[],(0,[],()),[],()),(x.1,0,x.2.2.2.1,0,0,[],a01 3 0,[],[],(0,[],()),[],()),())))) (cond (x.1==4) (some (Sum.inl ((0,0,0,0,0,[],a01 3 0,[],[],(0,[],()),[],()),(x.1,0,0,0,x.2.2.2.2.2.1,[],x.2.2.2.2.2.2.2.1,[],[],(0,[],()),[],()),x.2,()))) (cond (x.1==3) (some (Sum.inl ((0,0,0,0,0,[],a01 3 0,[],[],(0,[],()),[],()),(x.1,0,0,0,0,[],a01 3 0,[],[],(0,[],()),[],()),x.2,()))) (cond (x.1==5) (some (Sum.inr (Sum.inr (((0,0,0,0,0,[],a01 3 0,[],[],(0,[],()),[],()),(x.1,0,0,0,0,[],a01 3 0,[],[],(0,[],()),[],()),x.2,()))))) (some (Sum.inr (Sum.inl ((0,0,0,0,0,[],a01 3 0,[],[],(0,[],()),[],()),(x.1,0,0,0,0,[],a01 3 0,[],[],(0,[],()),[],()),())))))))).bind fun z1=> match z1 with |.inl a2=>((a4c a2.2.2.1.2.2.2.2.2.1).bind fun y4=> some (a2.1,(a2.2.1.1,a2.2.1.2.1,a2.2.1.2.2.1,a2.2.2.1.2.2.2.1,a2.2.1.2.2.2.2.1,y4,a2.2.1.2.2.2.2.2.2),())) |.inr b3=>(match b3 with |.inl a5=>some (a5.1,a5.2.1,()) |.inr b6=>((a1r b6.2.2.1.2.2.2.2.2.2.2.1).bind fun y7=> some (b6.1,(b6.2.1.1,b6.2.1.2.1,b6.2.1.2.2.1,b6.2.1.2.2.2.1,b6.2.1.2.2.2.2.1,b6.2.1.2.2.2.2.2.1,b6.2.1.2.2.2.2.2.2.1,y7,b6.2.1.2.2.2.2.2.2.2.2),())))).bind fun z8=> some z8.2.1
def b4B:FSem:=⟨[.v QI,.v Q32],[.v Q32],a6w⟩
def d5H:Hints:=⟨[],[(7,[(.normal,[.box 4 Q32,.box 5 Q32,.ptr 4 4 [],.ptr 5 5 []])]),(232,[(.normal,[.box 4 Q32,.box 5 Q32,.vp 3 Q32,.ptr 4 4 [],.ptr 5 5 []]),(.exit 0,[.box 4 Q32,.box 5 Q32,.ptr 4 4 [],.ptr 5 5 []]),(.exit 4,[.box 4 Q32,.box 5 Q32,.vp 3 Q32,.ptr 4 4 [],.ptr 5 5 []])])],[(8,[.v,.v,.v,.v,.q,.w [0,5],.x,.x]),(9,[.v,.v,.v,.v,.v,.q,.w [0,5],.x,.x])]⟩
def a4M(x:b0T):Option Int:= cond (x.1.1==0) (some 1) (cond (x.1.1==1) (some x.2) (cond (x.1.1==2) (some x.1.2.2.1) ((show Option c6f from cond (x.1.1==3) (some (x.1.1==3,x.1,())) (some (x.1.1==4,x.1,()))).bind fun z1=> cond z1.1 (some (z1.2.1.2.2.2.2.2.1.length:Int)) (some 0))))
def b0Z:FSem:=⟨[.v Q32,.v QI],[.v QI],a4M⟩
def d5I:Hints:=⟨[],[(1727,[(.normal,[.sv 16 .bool,.vp 2 Q32])])],[]⟩
def a3i(s:Z79):Option (Z79 ⊕ (Int×Int×Unit)):= cond (decide (s.2.2.2.2.2.1<s.2.2.2.2.1)) ((l0z s.2.2.2.1 s.2.2.2.2.2.1).bind fun x1=> cond (decide ((wrap .i64 ((wrap .i64 ((s.1.length:Int)-1))-s.2.2.2.2.2.1))<0)) (some (.inr (s.2.1,s.2.2.1,()))) ((l0z s.1 (wrap .i64 ((wrap .i64 ((s.1.length:Int)-1))-s.2.2.2.2.2.1))).bind fun x2=> some (.inl (s.1,s.2.1,wrap .i64 (s.2.2.1+(wrap .i64 (x1*x2))),s.2.2.2.1,s.2.2.2.2.1,wrap .i64 (s.2.2.2.2.2.1+1),())))) (some (.inr (s.2.1,s.2.2.1,())))
def a4N(x:Z11):Option Int:= (x0r a3i (x.1,x.2.2,0,x.2.1,(x.2.1.length:Int),0,())).bind fun w3=> cond (decide (w3.1<0)) none (some (z0h .i64 w3.2.1 w3.1))
def b0F:FSem:=⟨[.v QL,.v QL,.v QI],[.v QI],a4N⟩
def d5J:Hints:=⟨[(58,[.sv 0 QL,.sv 2 QI,.sv 7 QI,.sv 11 QL,.sv 12 QI,.sv 13 QI],[(.exit 0,[.sv 2 QI,.sv 7 QI])])],[],[]⟩
def a4O(s:Z78):Option (Z78 ⊕ Z52):= cond (decide (s.2.2.2.1<(s.1.length:Int))) ((l0z s.1 s.2.2.2.1).bind fun x4=> cond ((decide (0≤s.2.2.2.1))&&(decide (s.2.2.2.1≤(s.1.length:Int)))) ((a4N (a06 (a00 s.2.2.2.1) s.1,s.2.1,s.2.2.1)).bind fun y5=> (a5o (wrap .i64 (x4-y5))).bind fun y6=> cond (!y6) (some (.inr (Sum.inr ((6,[],()))))) (cond (lim ((a02 s.2.2.2.2.1)+1)) (some (.inl (s.1,s.2.1,s.2.2.1,wrap .i64 (s.2.2.2.1+1),a03 s.2.2.2.2.1 [wrap .i64 (x4-y5)],()))) none)) none) (some (.inr (Sum.inl (s.2.2.2.2.1,()))))
def a7v(x:Z11):Option ((List Int)×Int):= (show Option Z54 from(a4L (x.2.1,x.2.2)).bind fun y1=> cond (!y1) (some (x.1,x.2.1,x.2.2,true,())) (some (x.1,x.2.1,x.2.2,decide ((x.1.length:Int)<(x.2.1.length:Int)),()))).bind fun z2=> cond z2.2.2.2.1 (some ([],1)) ((a2z z2.1).bind fun y3=> cond (!y3) (some ([],6)) (cond ((decide (0≤(wrap .i64 ((z2.1.length:Int)-(z2.2.1.length:Int)))))&&(lim (a00 (wrap .i64 ((z2.1.length:Int)-(z2.2.1.length:Int)))))) ((x0r a4O (z2.1,z2.2.1,z2.2.2.1,(z2.2.1.length:Int),[],())).bind fun w7=> match w7 with |.inl a8=>some (a8.1,0) |.inr b9=>some (b9.2.1,b9.1)) none))
def b7H:FSem:=⟨[.v QL,.v QL,.v QI],[.o QI,.v QI],a7v⟩
def d5K:Hints:=⟨[(250,[.sv 0 QL,.sv 1 QL,.sv 2 QI,.sv 9 QI,.own 8 8 QI],[(.exit 0,[.own 8 8 QI]),(.ret,[.sv 7 QI,.own 6 6 QI])])],[(6,[(.normal,[.sv 0 QL,.sv 1 QL,.sv 2 QI,.sv 21 .bool])])],[(9,[.v,.v,.v,.v,.v,.v,.v,.v,.v,.v,.x,.x])]⟩
def a6x(x:Int):Option Bool:= cond (decide (x≥(-1073741824))) (some (decide (x<1073741824))) (some false)
def b1a:FSem:=⟨[.v QI],[.v .bool],a6x⟩
def d5L:Hints:=⟨[],[],[]⟩
def a3G(s:Z16):Option Z75:= cond (decide (s.2.2.1<s.2.1)) ((l0z s.1 s.2.2.1).bind fun x1=> (a6x x1).bind fun y2=> cond (!y2) (some (.inr (Sum.inr ((false,()))))) (some (.inl (s.1,s.2.1,wrap .i64 (s.2.2.1+1),())))) (some (.inr (Sum.inl ())))
def a5y(x:(List Int)):Option Bool:= (x0r a3G (x,(x.length:Int),0,())).bind fun w3=> match w3 with |.inl a4=>some true |.inr b5=>some b5.1
def b1b:FSem:=⟨[.v QL],[.v .bool],a5y⟩
def d5M:Hints:=⟨[(26,[.sv 5 QL,.sv 6 QI,.sv 7 QI],[(.exit 0,[]),(.ret,[.sv 2 .bool])])],[],[]⟩
def a9A(x:(Int×Int×Unit)):Option Z49:= (a7u x).bind fun y1=> cond (!y1) none (cond ((decide (0≤x.1))&&((decide (x.1≤x.1))&&(lim (a00 x.1)))) (cond ((decide (0≤x.1))&&((decide (x.1≤x.1))&&(lim (a00 x.1)))) (some ((x.2.1,a01 (a00 x.1) 0,a01 (a00 x.1) 0,()),0)) none) none)
def b5O:FSem:=⟨[.v Q4],[.b Q13,.v QI],a9A⟩
def d5N:Hints:=⟨[],[],[(3,[.v,.v,.v,.v,.q,.v,.v,.q,.x,.x,.x,.x])]⟩
def a5z(x:Int):Option Int:= some (v0a (u0z x (-1073741824)) 1073741823)
def b1c:FSem:=⟨[.v QI],[.v QI],a5z⟩
def d5O:Hints:=⟨[],[],[]⟩
def a3e(s:Z93):Option (Z93 ⊕ Z69):= cond (decide (s.2.2.1<s.2.1)) (cond ((decide (0≤s.2.2.1))&&(decide (s.2.2.1<(s.2.2.2.1.2.1.length:Int)))) (cond ((decide (0≤s.2.2.1))&&(decide (s.2.2.1<(s.2.2.2.1.2.2.1.length:Int)))) (some (.inl (wrap .i64 (s.1+(wrap .i64 ((a04 s.2.2.2.1.2.1 (a00 s.2.2.1) 0)*(a04 s.2.2.2.1.2.2.1 (a00 s.2.2.1) 0)))),s.2.1,wrap .i64 (s.2.2.1+1),s.2.2.2.1,()))) none) none) (some (.inr (s.1,s.2.2.2.1,())))
def a1X(x:Z29):Option Z48:= (x0r a3e (0,(x.2.1.length:Int),0,x,())).bind fun w1=> (a5z (z0h .i64 w1.1 16)).bind fun y2=> some (y2,w1.2.1)
def a4o:FSem:=⟨[.r false (.b Q13)],[.v QI],a1X⟩
def d5P:Hints:=⟨[(58,[.sv 3 QI,.sv 10 QI,.sv 11 QI,.box pinned Q13,.ptr 0 pinned [],.ref 9 pinned [.snd,.fst]],[(.exit 0,[.sv 3 QI,.box pinned Q13])])],[],[]⟩
def a2s(s:(Int×Z93)):Option ((Int×Z93) ⊕ Z69):= cond (decide (s.2.2.2.1<s.2.2.1)) (cond ((decide (0≤s.2.2.2.1))&&(decide (s.2.2.2.1<(s.2.2.2.2.1.2.2.1.length:Int)))) (cond ((decide (0≤s.2.2.2.1))&&(decide (s.2.2.2.1<(s.2.2.2.2.1.2.1.length:Int)))) ((show Option (Int×Int×Int×Z93)from cond (decide ((a04 s.2.2.2.2.1.2.2.1 (a00 s.2.2.2.1) 0) > 0)) (some (s.1,s.2.1,s.2.2.2.1,wrap .i64 ((a04 s.2.2.2.2.1.2.1 (a00 s.2.2.2.1) 0)+s.2.1),s.2.2.1,s.2.2.2.1,s.2.2.2.2.1,())) (cond (decide ((a04 s.2.2.2.2.1.2.2.1 (a00 s.2.2.2.1) 0)<0)) (some (s.1,s.2.1,s.2.2.2.1,wrap .i64 ((a04 s.2.2.2.2.1.2.1 (a00 s.2.2.2.1) 0)-s.2.1),s.2.2.1,s.2.2.2.1,s.2.2.2.2.1,())) (some (s.1,s.2.1,s.2.2.2.1,a04 s.2.2.2.2.1.2.1 (a00 s.2.2.2.1) 0,s.2.2.1,s.2.2.2.1,s.2.2.2.2.1,())))).bind fun z4=> cond ((decide (0≤z4.2.2.1))&&(decide (z4.2.2.1<(z4.2.2.2.2.2.2.1.2.1.length:Int)))) (some (.inl (z4.1,z4.2.1,z4.2.2.2.2.1,wrap .i64 (z4.2.2.2.2.2.1+1),(z4.2.2.2.2.2.2.1.1,a08 z4.2.2.2.2.2.2.1.2.1 (a00 z4.2.2.1) (v0a (u0z z4.2.2.2.1 (-1048576)) 1048576),z4.2.2.2.2.2.2.1.2.2),()))) none) none) none) (some (.inr (s.1,s.2.2.2.2.1,())))
def a3j(x:Z49):Option Z29:= (a5z x.2).bind fun y1=> (show Option Z84 from(a1X x.1).bind fun y2=> cond (decide (y1 > y2.1)) (cond (decide (y2.2.1<0)) none (some (y1,z0g .i64 1 y2.2.1,y2.2,()))) (cond (decide (y1<y2.1)) (cond (decide (y2.2.1<0)) none (some (y1,wrap .i64 (0-(z0g .i64 1 y2.2.1)),y2.2,()))) (some (y1,0,y2.2,())))).bind fun z3=> (x0r a2s (z3.1,z3.2.1,(z3.2.2.1.2.2.1.length:Int),0,z3.2.2.1,())).bind fun w5=> cond (decide (1≤(w5.2.1.2.2.1.length:Int))) (cond (decide (0<(a02 (o0p w5.2.1.2.2.1 1 ((a02 w5.2.1.2.2.1)-1) w5.2.1.2.2.1):Int))) (some (w5.2.1.1,w5.2.1.2.1,a08 (o0p w5.2.1.2.2.1 1 ((a02 w5.2.1.2.2.1)-1) w5.2.1.2.2.1) 0 w5.1,w5.2.1.2.2.2)) none) none
def a7Y:FSem:=⟨[.r false (.b Q13),.v QI],[],a3j⟩
def d5Q:Hints:=⟨[(122,[.sv 1 QI,.sv 4 QI,.sv 36 QI,.sv 37 QI,.box pinned Q13,.ptr 0 pinned [],.ref 35 pinned [.snd,.snd,.fst]],[(.exit 1,[.sv 1 QI,.box pinned Q13,.ptr 0 pinned []])])],[(7,[(.normal,[.sv 1 QI,.sv 4 QI,.box pinned Q13,.ptr 0 pinned []])]),(15667,[(.normal,[.sv 1 QI,.sv 4 QI,.sv 6 QI,.sv 8 QI,.sv 36 QI,.sv 37 QI,.box pinned Q13,.ptr 0 pinned [],.ref 35 pinned [.snd,.snd,.fst]])])],[(17,[.p,.p,.q,.q,.q,.p,.p,.q,.q,.x])]⟩
def a5A(s:(Z6×Int×Int×Z97)):Option ((Z6×Int×Int×Z97) ⊕ ((Z6×Z18) ⊕ Z4)):= cond (decide (s.2.2.2.2.1<s.2.2.2.1)) (cond ((decide (0≤s.2.2.2.2.1))&&(decide (s.2.2.2.2.1<(s.2.2.2.2.2.1.length:Int)))) ((a1X s.2.2.2.2.2.2.1).bind fun y6=> (a6x (wrap .i64 ((a04 s.2.2.2.2.2.1 (a00 s.2.2.2.2.1) 0)-y6.1))).bind fun y7=> cond (!y7) (some (.inr (Sum.inr ((6,[],()))))) ((a3j (y6.2,a04 s.2.2.2.2.2.1 (a00 s.2.2.2.2.1) 0)).bind fun y8=> cond ((decide (0≤s.2.2.2.2.1))&&(decide (s.2.2.2.2.1<(s.2.2.2.2.2.1.length:Int)))) (some (.inl (s.1,s.2.1,s.2.2.1,s.2.2.2.1,wrap .i64 (s.2.2.2.2.1+1),a08 s.2.2.2.2.2.1 (a00 s.2.2.2.2.1) (wrap .i64 ((a04 s.2.2.2.2.2.1 (a00 s.2.2.2.2.1) 0)-y6.1)),y8,()))) none)) none) (some (.inr (Sum.inl (s.1,s.2.1,s.2.2.1,s.2.2.2.2.2.1,()))))
def a5B(s:(Z6×Z18)):Option ((Z6×Z18) ⊕ Z52):= cond (decide (s.2.2.1<s.2.1)) ((l0z s.1 s.2.2.1).bind fun x4=> (a9A x4).bind fun y5=> cond (y5.2 != 0) (some (.inr (Sum.inr ((y5.2,[],()))))) ((x0r a5A (s.1,s.2.1,s.2.2.1,(s.2.2.2.1.length:Int),0,s.2.2.2.1,y5.1,())).bind fun w9=> match w9 with |.inl a10=>some (.inl (a10.1,a10.2.1,wrap .i64 (a10.2.2.1+1),a10.2.2.2.1,())) |.inr b11=>some (.inr (Sum.inr ((b11.1,b11.2.1,())))))) (some (.inr (Sum.inl (s.2.2.2.1,()))))
def b1d(x:((List Int)×Z6)):Option ((List Int)×Int):= (a7P x.2).bind fun y1=> cond (!y1) (some ([],1)) ((a5y x.1).bind fun y2=> cond (!y2) (some ([],6)) ((a1f x.1).bind fun y3=> (x0r a5B (x.2,(x.2.length:Int),0,y3,())).bind fun w12=> match w12 with |.inl a13=>some (a13.1,0) |.inr b14=>some (b14.2.1,b14.1)))
def b8h:FSem:=⟨[.v QL,.v (.list false Q4)],[.o QI,.v QI],b1d⟩
def d5R:Hints:=⟨[(250,[.sv 22 (.list false Q4),.sv 23 QI,.sv 24 QI,.own 6 6 QI],[(.exit 0,[.own 6 6 QI]),(.ret,[.sv 5 QI,.own 4 4 QI])]),(256414,[.sv 22 (.list false Q4),.sv 23 QI,.sv 24 QI,.sv 37 QI,.sv 38 QI,.own 6 6 QI,.box 1030 Q13,.ptr 9 1030 [],.ref 36 6 []],[(.exit 2,[.sv 22 (.list false Q4),.sv 23 QI,.sv 24 QI,.own 6 6 QI]),(.ret,[.sv 5 QI,.own 4 4 QI])])],[],[]⟩
def b2w(x:(a1E×(List Int))):Option (Int×a1E):= (show Option ((List Int)×((List Int)×(Int×b6P)))from cond (x.1.1==2) ((a4J (x.2,x.1.2.2.1)).bind fun y1=> some (x.2,y1.1,y1.2,x.1,())) (cond (x.1.1==3) ((a7v (x.2,x.1.2.2.2.2.2.1,x.1.2.2.2.1)).bind fun y2=> some (x.2,y2.1,y2.2,x.1,())) (cond (x.1.1==4) ((a9y (x.2,x.1.2.2.2.2.1,x.1.2.2.2.2.2.2.1)).bind fun y3=> cond (y3.2==0) ((a7v (y3.1,x.1.2.2.2.2.2.1,x.1.2.2.2.1)).bind fun y4=> some (y3.1,y4.1,y4.2,x.1,())) (some (y3.1,[],y3.2,x.1,()))) (cond (x.1.1==5) ((b1d (x.2,x.1.2.2.2.2.2.2.2.1)).bind fun y5=> some (x.2,y5.1,y5.2,x.1,())) (some (x.2,[],0,x.1,())))))).bind fun z6=> cond (z6.2.2.1 != 0) (some (z6.2.2.1,z6.2.2.2.1)) ((a4M (z6.2.2.2.1,(z6.1.length:Int))).bind fun y7=> cond ((decide (0≤y7))&&(decide (y7≤(z6.1.length:Int)))) ((a1f (a06 (a00 y7) z6.1)).bind fun y8=> some (0,z6.2.2.2.1.1,z6.2.2.2.1.2.1,z6.2.2.2.1.2.2.1,z6.2.2.2.1.2.2.2.1,z6.2.2.2.1.2.2.2.2.1,z6.2.2.2.1.2.2.2.2.2.1,z6.2.2.2.1.2.2.2.2.2.2.1,z6.2.2.2.1.2.2.2.2.2.2.2.1,y8,z6.2.2.2.1.2.2.2.2.2.2.2.2.2.1,z6.2.1,z6.2.2.2.1.2.2.2.2.2.2.2.2.2.2.2)) none)
def b9n:FSem:=⟨[.r false (.b Q32),.v QL],[.v QI],b2w⟩
def d5S:Hints:=⟨[],[(15,[(.normal,[.sv 1 QL,.sv 5 QL,.sv 6 QI,.box pinned Q32,.ptr 0 pinned []])])],[(7,[.v,.p,.p,.q,.q,.p,.p,.q,.q,.x,.x,.q,.q,.q,.x]),(9,[.v,.p,.p,.q,.q,.p,.p,.q,.q,.x,.x,.q,.q,.q,.x]),(11,[.q,.p,.p,.q,.q,.p,.p,.q,.q,.x,.x,.q,.q,.q,.x])]⟩
def a7Q(x:(Int×Int)):Option Bool:= cond (decide (1≤x.1)) (cond (decide (x.1≤4096)) (cond (decide (0≤x.2)) (some (decide (x.2≤x.1))) (some false)) (some false)) (some false)
def b2x:FSem:=⟨[.v QI,.v QI],[.v .bool],a7Q⟩
def d5T:Hints:=⟨[],[],[]⟩
def a6U(s:Z18):Option (Z18 ⊕ ((List Int)×Unit)):= cond (decide (s.1<0)) none (cond (decide ((s.2.2.1.length:Int)<(z0g .i64 1 s.1))) (cond (lim ((a02 s.2.2.1)+1)) (some (.inl (s.1,s.2.1,a03 s.2.2.1 [s.2.1],()))) none) (some (.inr (s.2.2.1,()))))
def a2Z(x:(Int×Int×Int)):Option (List Int):= (show Option Z26 from(a7Q (x.2.1,x.2.2)).bind fun y1=> cond (!y1) (some (x.1,x.2.1,x.2.2,true,())) (cond (decide (x.1<0)) (some (x.1,x.2.1,x.2.2,true,())) (some (x.1,x.2.1,x.2.2,decide (x.1 > 8),())))).bind fun z2=> cond z2.2.2.2.1 (some []) (cond (decide (z2.1<0)) none ((show Option Z26 from cond (decide (z2.1<0)) none (cond ((z0g .i64 (z0h .i64 z2.2.1 z2.1) z2.1) != z2.2.1) (some (z2.1,z2.2.2.1,z0h .i64 z2.2.1 z2.1,true,())) (some (z2.1,z2.2.2.1,z0h .i64 z2.2.1 z2.1,decide ((z0h .i64 z2.2.1 z2.1)<z2.2.2.1),())))).bind fun z3=> cond z3.2.2.2.1 (some []) ((x0r a6U (z3.1,z3.2.2.1,[wrap .i64 (z3.2.2.1-z3.2.1)],())).bind fun w4=> some w4.1)))
def a5p:FSem:=⟨[.v QI,.v QI,.v QI],[.o QI],a2Z⟩
def d5U:Hints:=⟨[(252,[.sv 0 QI,.sv 7 QI,.own 8 8 QI],[(.exit 0,[.own 8 8 QI])])],[(6,[(.normal,[.sv 0 QI,.sv 1 QI,.sv 2 QI,.sv 20 .bool])]),(30,[(.normal,[.sv 0 QI,.sv 2 QI,.sv 7 QI,.sv 33 .bool])])],[]⟩
def a4E(s:Z16):Option Z75:= cond (decide (s.2.2.1<s.2.1)) ((l0z s.1 s.2.2.1).bind fun x3=> (show Option Z36 from cond (decide (x3<0)) (some (s.1,s.2.1,s.2.2.1,x3 != 31,())) (cond (decide (x3 > 25)) (some (s.1,s.2.1,s.2.2.1,x3 != 31,())) (some (s.1,s.2.1,s.2.2.1,false,())))).bind fun z4=> cond z4.2.2.2.1 (some (.inr (Sum.inr ((false,()))))) (some (.inl (z4.1,z4.2.1,wrap .i64 (z4.2.2.1+1),())))) (some (.inr (Sum.inl ())))
def a9B(x:(Z4×Int×Int)):Option Bool:= (a2Z (x.1.1,x.2.1,x.2.2)).bind fun y1=> (show Option Z43 from cond ((y1.length:Int)==0) (some (true,x.1,())) (some ((x.1.2.1.length:Int) != (y1.length:Int),x.1,()))).bind fun z2=> cond z2.1 (some false) ((x0r a4E (z2.2.1.2.1,(z2.2.1.2.1.length:Int),0,())).bind fun w5=> match w5 with |.inl a6=>some true |.inr b7=>some b7.1)
def b5P:FSem:=⟨[.v Q8,.v QI,.v QI],[.v .bool],a9B⟩
def d5V:Hints:=⟨[(122,[.sv 27 QL,.sv 28 QI,.sv 29 QI],[(.exit 0,[]),(.ret,[.sv 6 .bool])])],[(14,[(.normal,[.sv 25 .bool,.vp 3 Q8])]),(7833,[(.normal,[.sv 27 QL,.sv 28 QI,.sv 29 QI,.sv 42 .bool])])],[]⟩
def b4C(s:Z16):Option Z75:= cond (decide (s.2.2.1<s.2.1)) ((l0z s.1 s.2.2.1).bind fun x3=> (show Option Z36 from cond (decide (x3<(-1073741824))) (some (s.1,s.2.1,s.2.2.1,true,())) (some (s.1,s.2.1,s.2.2.1,decide (x3≥1073741824),()))).bind fun z4=> cond z4.2.2.2.1 (some (.inr (Sum.inr ((false,()))))) (some (.inl (z4.1,z4.2.1,wrap .i64 (z4.2.2.1+1),())))) (some (.inr (Sum.inl ())))
def a7w(x:Z3):Option Bool:= (show Option ((List Int)×(Bool×Unit))from(a7Q (x.1,x.2.1)).bind fun y1=> cond (!y1) (some (x.2.2,true,())) (some (x.2.2,(x.2.2.length:Int) != (wrap .i64 (x.1-x.2.1)),()))).bind fun z2=> cond z2.2.1 (some false) ((x0r b4C (z2.1,(z2.1.length:Int),0,())).bind fun w5=> match w5 with |.inl a6=>some true |.inr b7=>some b7.1)
def b3w:FSem:=⟨[.v QI,.v QI,.v QL],[.v .bool],a7w⟩
def d5W:Hints:=⟨[(58,[.sv 21 QL,.sv 22 QI,.sv 23 QI],[(.exit 0,[]),(.ret,[.sv 6 .bool])])],[(6,[(.normal,[.sv 2 QL,.sv 20 .bool])]),(3737,[(.normal,[.sv 21 QL,.sv 22 QI,.sv 23 QI,.sv 32 .bool])])],[]⟩
def a2V(s:Z51):Option (Z51 ⊕ Z32):= cond (s.2.1 != 0) (cond (decide (s.1<32)) ((a4a (s.2.1,s.1)).bind fun y2=> cond (!y2) (some (.inl (wrap .i64 (s.1+1),s.2.1,s.2.2.1,s.2.2.2.1,s.2.2.2.2.1,()))) (some (.inr (s.1,s.2.2.1,s.2.2.2.1,s.2.2.2.2.1,())))) (some (.inr (s.1,s.2.2.1,s.2.2.2.1,s.2.2.2.2.1,())))) (some (.inr (s.1,s.2.2.1,s.2.2.2.1,s.2.2.2.2.1,())))
def a6d(s:Z32):Option Z72:= cond (decide (s.2.2.2.1<s.2.2.1)) ((l0z s.2.1 s.2.2.2.1).bind fun x1=> (x0r a2V (s.1,x1,s.2.1,s.2.2.1,s.2.2.2.1,())).bind fun w3=> some (.inl (w3.1,w3.2.1,w3.2.2.1,wrap .i64 (w3.2.2.2.1+1),()))) (some (.inr (s.1,())))
def a1w(x:(List Int)):Option Int:= (x0r a6d (0,x,(x.length:Int),0,())).bind fun w4=> some w4.1
def a2E:FSem:=⟨[.v QL],[.v QI],a1w⟩
def d5X:Hints:=⟨[(58,[.sv 3 QI,.sv 6 QL,.sv 7 QI,.sv 8 QI],[(.exit 0,[.sv 3 QI])]),(7474,[.sv 3 QI,.sv 5 QI,.sv 6 QL,.sv 7 QI,.sv 8 QI],[(.exit 2,[.sv 3 QI,.sv 6 QL,.sv 7 QI,.sv 8 QI])])],[],[]⟩
def a5X(x:(List Int)):Option Int:= (a1w x).bind fun y1=> some (wrap .i64 (5+(wrap .i64 (y1*(x.length:Int)))))
def b5Q:FSem:=⟨[.v QL],[.v QI],a5X⟩
def d5Y:Hints:=⟨[],[],[]⟩
def a1U(x:Int):Option Bool:= cond (decide (0≤x)) (some (decide (x≤25))) (some false)
def a6V:FSem:=⟨[.v QI],[.v .bool],a1U⟩
def d5Z:Hints:=⟨[],[],[]⟩
def a7R(x:Int):Option Bool:= cond (decide ((-1073741824)≤x)) (some (decide (x<1073741824))) (some false)
def b2y:FSem:=⟨[.v QI],[.v .bool],a7R⟩
def d6a:Hints:=⟨[],[],[]⟩
def a9C(x:Int):Option Int:= (a7R x).bind fun y1=> cond (!y1) (some 0) (cond (decide (x≥0)) (some (wrap .u64 (wrap .i64 (2*x)))) (some (wrap .u64 (wrap .i64 ((wrap .i64 ((-2)*x))-1)))))
def b5R:FSem:=⟨[.v QI],[.v (.int .u64)],a9C⟩
def d6b:Hints:=⟨[],[],[]⟩
def a7S(x:(Int×Int)):Option Int:= (show Option Z10 from(a1U x.1).bind fun y1=> cond (!y1) (some (x.1,x.2,true,())) ((a7R x.2).bind fun y2=> some (x.1,x.2,!y2,()))).bind fun z3=> cond z3.2.2.1 (some 0) ((a9C z3.2.1).bind fun y4=> cond (decide (z3.1<0)) none (cond (decide ((wrap .i64 (z0h .u64 y4 z3.1))<32)) (some (wrap .i64 ((wrap .i64 ((wrap .i64 (z0h .u64 y4 z3.1))+1))+z3.1))) (some 65)))
def b9o:FSem:=⟨[.v QI,.v QI],[.v QI],a7S⟩
def d6c:Hints:=⟨[],[(6,[(.normal,[.sv 0 QI,.sv 1 QI,.sv 13 .bool])])],[]⟩
def a4d(s:Z51):Option (Z51 ⊕ (Int×Unit)):= cond (decide (s.2.2.2.2.1<s.2.2.2.1)) ((l0z s.2.2.1 s.2.2.2.2.1).bind fun x1=> (a7S (s.1,x1)).bind fun y2=> some (.inl (s.1,wrap .i64 (s.2.1+y2),s.2.2.1,s.2.2.2.1,wrap .i64 (s.2.2.2.2.1+1),()))) (some (.inr (s.2.1,())))
def a3y(x:(Int×(List Int))):Option Int:= (x0r a4d (x.1,0,x.2,(x.2.length:Int),0,())).bind fun w3=> some w3.1
def b3U:FSem:=⟨[.v QI,.v QL],[.v QI],a3y⟩
def d6d:Hints:=⟨[(58,[.sv 0 QI,.sv 5 QI,.sv 8 QL,.sv 9 QI,.sv 10 QI],[(.exit 0,[.sv 5 QI])])],[],[]⟩
def a1x(s:c6d):Option (c6d ⊕ (Int×Unit)):= cond (decide (s.2.2.2.1<s.2.2.1)) (cond ((decide (0≤s.2.2.2.1))&&(decide (s.2.2.2.1<(s.2.2.2.2.1.length:Int)))) (cond ((decide (0≤(a04 s.2.2.2.2.1 (a00 s.2.2.2.1) 0)))&&(decide ((a04 s.2.2.2.2.1 (a00 s.2.2.2.1) 0)≤(s.1.length:Int)))) (cond ((decide (0≤(a04 s.2.2.2.2.1 (a00 s.2.2.2.1) 0)))&&(decide ((a04 s.2.2.2.2.1 (a00 s.2.2.2.1) 0)≤(s.1.length:Int)))) ((l0z s.2.2.2.2.2.1.2.1 s.2.2.2.1).bind fun x5=> cond (x5==31) ((a5X (a06 (a00 (a04 s.2.2.2.2.1 (a00 s.2.2.2.1) 0)) s.1)).bind fun y6=> some (.inl (a16 (a00 (a04 s.2.2.2.2.1 (a00 s.2.2.2.1) 0)) (a06 (a02 s.1) s.1),wrap .i64 (s.2.1+(wrap .i64 (5+y6))),s.2.2.1,wrap .i64 (s.2.2.2.1+1),s.2.2.2.2.1,s.2.2.2.2.2.1,()))) ((l0z s.2.2.2.2.2.1.2.1 s.2.2.2.1).bind fun x7=> (a3y (x7,a06 (a00 (a04 s.2.2.2.2.1 (a00 s.2.2.2.1) 0)) s.1)).bind fun y8=> some (.inl (a16 (a00 (a04 s.2.2.2.2.1 (a00 s.2.2.2.1) 0)) (a06 (a02 s.1) s.1),wrap .i64 (s.2.1+(wrap .i64 (5+y8))),s.2.2.1,wrap .i64 (s.2.2.2.1+1),s.2.2.2.2.1,s.2.2.2.2.2.1,())))) none) none) none) (some (.inr (s.2.1,())))
def a4P(x:Z66):Option Int:= (show Option (Int×(Int×((List Int)×Z43)))from(a9B (x.1,x.2.1,x.2.2.1)).bind fun y1=> cond (!y1) (some (x.2.1,x.2.2.1,x.2.2.2,true,x.1,())) ((a7w (x.2.1,x.2.2.1,x.2.2.2)).bind fun y2=> some (x.2.1,x.2.2.1,x.2.2.2,!y2,x.1,()))).bind fun z3=> cond z3.2.2.2.1 (some 0) ((a2Z (z3.2.2.2.2.1.1,z3.1,z3.2.1)).bind fun y4=> (x0r a1x (z3.2.2.1,4,(y4.length:Int),0,y4,z3.2.2.2.2.1,())).bind fun w9=> some w9.1)
def b4D:FSem:=⟨[.v Q8,.v QI,.v QI,.v QL],[.v QI],a4P⟩
def d6e:Hints:=⟨[(122,[.sv 3 QL,.sv 9 QI,.sv 30 QI,.sv 31 QI,.own 29 1029 QI,.vp 4 Q8],[(.exit 0,[.sv 9 QI])])],[(6,[(.normal,[.sv 1 QI,.sv 2 QI,.sv 3 QL,.sv 24 .bool,.vp 4 Q8])])],[]⟩
def a8T(s:Z34):Option (Z34 ⊕ (Int×Unit)):= cond (decide (s.2.2.2.1≤25)) ((a3y (s.2.2.2.1,s.1)).bind fun y2=> cond (decide (y2<s.2.2.1)) (some (.inl (s.1,s.2.2.2.1,y2,wrap .i64 (s.2.2.2.1+1),()))) (some (.inl (s.1,s.2.1,s.2.2.1,wrap .i64 (s.2.2.2.1+1),())))) (some (.inr (s.2.1,())))
def b2z(x:(List Int)):Option Int:= (a3y (0,x)).bind fun y1=> (x0r a8T (x,0,y1,1,())).bind fun w3=> some w3.1
def b9p:FSem:=⟨[.v QL],[.v QI],b2z⟩
def d6f:Hints:=⟨[(58,[.sv 0 QL,.sv 3 QI,.sv 4 QI,.sv 5 QI],[(.exit 0,[.sv 3 QI])])],[],[]⟩
end Go.Ab
namespace Go.Ab
open IntKind(wrap)
open Go.Proofs
set_option maxRecDepth 100000
set_option linter.unusedVariables false
def a8U(x:(List Int)):Option Int:= (b2z x).bind fun y1=> (a5X x).bind fun y2=> (a3y (y1,x)).bind fun y3=> cond (decide (y2<y3)) (some 31) (some y1)
def b6g:FSem:=⟨[.v QL],[.v QI],a8U⟩
def d6g:Hints:=⟨[],[],[]⟩
def a8h(s:(Int×(Int×(Int×((List Int)×(Int×(Int×((List Int)×(Int×(Int×((List Int)×c6e))))))))))):Option ((Int×(Int×(Int×((List Int)×(Int×(Int×((List Int)×(Int×(Int×((List Int)×c6e)))))))))) ⊕ (Int×(Int×(Int×((List Int)×(Int×Int×c6e)))))):= cond (decide (s.2.2.2.2.2.2.2.2.1<s.2.2.2.2.2.2.2.1)) (cond ((decide (0≤s.2.2.2.2.2.2.2.2.1))&&(decide (s.2.2.2.2.2.2.2.2.1<(s.2.2.2.2.2.2.2.2.2.1.length:Int)))) (cond ((decide (0≤(a04 s.2.2.2.2.2.2.2.2.2.1 (a00 s.2.2.2.2.2.2.2.2.1) 0)))&&(decide ((a04 s.2.2.2.2.2.2.2.2.2.1 (a00 s.2.2.2.2.2.2.2.2.1) 0)≤(s.2.2.2.2.2.2.1.length:Int)))) ((a8U (a06 (a00 (a04 s.2.2.2.2.2.2.2.2.2.1 (a00 s.2.2.2.2.2.2.2.2.1) 0)) s.2.2.2.2.2.2.1)).bind fun y3=> cond (lim ((a02 s.2.2.2.2.2.2.2.2.2.2.2.2.1.2.1)+1)) (cond ((decide (0≤(a04 s.2.2.2.2.2.2.2.2.2.1 (a00 s.2.2.2.2.2.2.2.2.1) 0)))&&(decide ((a04 s.2.2.2.2.2.2.2.2.2.1 (a00 s.2.2.2.2.2.2.2.2.1) 0)≤(s.2.2.2.2.2.2.1.length:Int)))) (some (.inl (s.1,s.2.1,s.2.2.1,s.2.2.2.1,s.2.2.2.2.1,s.2.2.2.2.2.1,a16 (a00 (a04 s.2.2.2.2.2.2.2.2.2.1 (a00 s.2.2.2.2.2.2.2.2.1) 0)) (a06 (a02 s.2.2.2.2.2.2.1) s.2.2.2.2.2.2.1),s.2.2.2.2.2.2.2.1,wrap .i64 (s.2.2.2.2.2.2.2.2.1+1),s.2.2.2.2.2.2.2.2.2.1,s.2.2.2.2.2.2.2.2.2.2.1,s.2.2.2.2.2.2.2.2.2.2.2.1,(s.2.2.2.2.2.2.2.2.2.2.2.2.1.1,a03 s.2.2.2.2.2.2.2.2.2.2.2.2.1.2.1 [y3],s.2.2.2.2.2.2.2.2.2.2.2.2.1.2.2),()))) none) none) none) none) (some (.inr (s.1,s.2.1,s.2.2.1,s.2.2.2.1,s.2.2.2.2.1,s.2.2.2.2.2.1,s.2.2.2.2.2.2.2.2.2.2.1,s.2.2.2.2.2.2.2.2.2.2.2.1,s.2.2.2.2.2.2.2.2.2.2.2.2.1,())))
def a3T(s:(Int×(Int×(Int×((List Int)×(Int×Int×Z88)))))):Option ((Int×(Int×(Int×((List Int)×(Int×Int×Z88))))) ⊕ Z88):= cond (decide (s.2.2.2.2.2.1≤(v0a (u0z s.2.2.1 0) 8))) ((a2Z (s.2.2.2.2.2.1,s.1,s.2.1)).bind fun y2=> cond ((y2.length:Int)==0) (some (.inl (s.1,s.2.1,s.2.2.1,s.2.2.2.1,s.2.2.2.2.1,wrap .i64 (s.2.2.2.2.2.1+1),s.2.2.2.2.2.2.1,s.2.2.2.2.2.2.2.1,()))) ((x0r a8h (s.1,s.2.1,s.2.2.1,s.2.2.2.1,s.2.2.2.2.1,s.2.2.2.2.2.1,s.2.2.2.1,(y2.length:Int),0,y2,s.2.2.2.2.2.2.1,s.2.2.2.2.2.2.2.1,(s.2.2.2.2.2.1,[],()),())).bind fun w4=> (a4P (w4.2.2.2.2.2.2.2.2.1,w4.1,w4.2.1,w4.2.2.2.1)).bind fun y5=> (show Option (Int×(Int×(Int×((List Int)×(Int×Int×Int×Bool×c6e)))))from cond (w4.2.2.2.2.1==0) (some (w4.1,w4.2.1,w4.2.2.1,w4.2.2.2.1,w4.2.2.2.2.1,w4.2.2.2.2.2.1,y5,true,w4.2.2.2.2.2.2.1,w4.2.2.2.2.2.2.2.1,w4.2.2.2.2.2.2.2.2.1,())) (some (w4.1,w4.2.1,w4.2.2.1,w4.2.2.2.1,w4.2.2.2.2.1,w4.2.2.2.2.2.1,y5,decide (y5<w4.2.2.2.2.1),w4.2.2.2.2.2.2.1,w4.2.2.2.2.2.2.2.1,w4.2.2.2.2.2.2.2.2.1,()))).bind fun z6=> cond z6.2.2.2.2.2.2.2.1 (some (.inl (z6.1,z6.2.1,z6.2.2.1,z6.2.2.2.1,z6.2.2.2.2.2.2.1,wrap .i64 (z6.2.2.2.2.2.1+1),z6.2.2.2.2.2.2.2.2.1,z6.2.2.2.2.2.2.2.2.2.2.1,()))) (some (.inl (z6.1,z6.2.1,z6.2.2.1,z6.2.2.2.1,z6.2.2.2.2.1,wrap .i64 (z6.2.2.2.2.2.1+1),z6.2.2.2.2.2.2.2.2.1,z6.2.2.2.2.2.2.2.2.2.1,()))))) (some (.inr (s.2.2.2.2.2.2.1,s.2.2.2.2.2.2.2.1,())))
def b1e(x:(Int×Z3)):Option (Z4×Int):= (a7w (x.1,x.2.1,x.2.2.2)).bind fun y1=> cond (!y1) (some ((0,[],()),1)) ((x0r a3T (x.1,x.2.1,x.2.2.1,x.2.2.2,0,0,(0,[],()),(0,[],()),())).bind fun w7=> some (w7.2.1,0))
def b8i:FSem:=⟨[.v QI,.v QI,.v QI,.v QL],[.v Q8,.v QI],b1e⟩
def d6h:Hints:=⟨[(250,[.sv 0 QI,.sv 1 QI,.sv 2 QI,.sv 3 QL,.sv 11 QI,.sv 12 QI,.box 8 Q8,.box 10 Q8,.ptr 8 8 [],.ptr 10 10 []],[(.exit 0,[.box 8 Q8,.box 10 Q8,.ptr 8 8 [],.ptr 10 10 []])]),(512634,[.sv 0 QI,.sv 1 QI,.sv 2 QI,.sv 3 QL,.sv 11 QI,.sv 12 QI,.sv 15 QL,.sv 43 QI,.sv 44 QI,.own 42 13 QI,.box 8 Q8,.box 10 Q8,.box 14 Q7,.ptr 8 8 [],.ptr 10 10 [],.ptr 14 14 []],[(.exit 2,[.sv 0 QI,.sv 1 QI,.sv 2 QI,.sv 3 QL,.sv 11 QI,.sv 12 QI,.box 8 Q8,.box 10 Q8,.box 14 Q7,.ptr 8 8 [],.ptr 10 10 [],.ptr 14 14 []])])],[(256319,[(.normal,[.sv 0 QI,.sv 1 QI,.sv 2 QI,.sv 3 QL,.sv 11 QI,.sv 12 QI,.sv 18 QI,.sv 72 .bool,.box 8 Q8,.box 10 Q8,.box 14 Q8,.ptr 8 8 [],.ptr 10 10 [],.ptr 14 14 []])])],[(15,[.q,.q,.v,.v,.v,.v,.q,.x,.x,.x])]⟩
def a5q(s:((List Int)×((List Int)×c6n))):Option (((List Int)×((List Int)×c6n)) ⊕ (((List Int)×b1W) ⊕ (Int×b6P))):= cond (decide (s.2.2.2.1<s.2.2.1)) ((l0z s.2.1 s.2.2.2.1).bind fun x5=> (l0z s.1 0).bind fun x6=> cond (x5 != x6) (some (.inr (Sum.inr ((7,(0,0,0,0,0,[],a01 3 0,[],[],(0,[],()),[],()),()))))) (some (.inl (s.1,s.2.1,s.2.2.1,wrap .i64 (s.2.2.2.1+1),s.2.2.2.2.1,s.2.2.2.2.2.1,())))) (some (.inr (Sum.inl (s.1,s.2.2.2.2.1,s.2.2.2.2.2.1,()))))
def b3V(x:(Int×((List Int)×a1E))):Option b0T:= (show Option (Int×((List Int)×(Int×Bool×b1W)))from cond (decide ((x.2.1.length:Int)<1)) (some (x.1,x.2.1,(x.2.1.length:Int),true,(0,0,0,0,0,[],a01 3 0,[],[],(0,[],()),[],()),x.2.2,())) (cond (decide ((x.2.1.length:Int) > 4096)) (some (x.1,x.2.1,(x.2.1.length:Int),true,(0,0,0,0,0,[],a01 3 0,[],[],(0,[],()),[],()),x.2.2,())) ((a8A (x.1,x.2.2,(x.2.1.length:Int))).bind fun y1=> some (x.1,x.2.1,(x.2.1.length:Int),!y1,(0,0,0,0,0,[],a01 3 0,[],[],(0,[],()),[],()),x.2.2,())))).bind fun z2=> cond z2.2.2.2.1 (some ((0,0,0,0,0,[],a01 3 0,[],[],(0,[],()),[],()),1)) ((a2v z2.2.1).bind fun y3=> cond (!y3) (some ((0,0,0,0,0,[],a01 3 0,[],[],(0,[],()),[],()),6)) ((a6w (z2.1,z2.2.2.2.2.2.1)).bind fun y4=> cond (z2.1==0) ((x0r a5q (z2.2.1,z2.2.1,(z2.2.1.length:Int),0,z2.2.2.2.2.1,y4,())).bind fun w7=> match w7 with |.inl a8=>((l0z a8.1 0).bind fun x10=> some ((a8.2.2.1.1,a8.2.2.1.2.1,a8.2.2.1.2.2.1,a8.2.2.1.2.2.2.1,a8.2.2.1.2.2.2.2.1,a8.2.2.1.2.2.2.2.2.1,a8.2.2.1.2.2.2.2.2.2.1,a8.2.2.1.2.2.2.2.2.2.2.1,[x10],a8.2.2.1.2.2.2.2.2.2.2.2.2),0)) |.inr b9=>some (b9.2.1,b9.1)) ((a3S z2.2.1).bind fun y11=> (a7s (z2.2.1,y11)).bind fun y12=> cond (y12.2 != 0) (some ((0,0,0,0,0,[],a01 3 0,[],[],(0,[],()),[],()),6)) (cond (z2.1==1) (some ((y4.1,y11,y4.2.2.1,y4.2.2.2.1,y4.2.2.2.2.1,y4.2.2.2.2.2.1,y4.2.2.2.2.2.2.1,y4.2.2.2.2.2.2.2.1,y12.1,y4.2.2.2.2.2.2.2.2.2),0)) ((b2w ((y4.1,y11,y4.2.2),y12.1)).bind fun y13=> cond (y13.1 != 0) (some ((0,0,0,0,0,[],a01 3 0,[],[],(0,[],()),[],()),6)) ((b1e (z2.2.2.1,(y13.2.2.2.2.2.2.2.2.2.1.length:Int),6,y13.2.2.2.2.2.2.2.2.2.2.2.1)).bind fun y14=> cond (y14.2 != 0) (some ((0,0,0,0,0,[],a01 3 0,[],[],(0,[],()),[],()),6)) (some ((y13.2.1,y13.2.2.1,y13.2.2.2.1,y13.2.2.2.2.1,y13.2.2.2.2.2.1,y13.2.2.2.2.2.2.1,y13.2.2.2.2.2.2.2.1,y13.2.2.2.2.2.2.2.2.1,y13.2.2.2.2.2.2.2.2.2.1,y14.1,y13.2.2.2.2.2.2.2.2.2.2.2),0))))))))
def c0V:FSem:=⟨[.v QI,.v QL,.v Q32],[.v Q32,.v QI],b3V⟩
def d6i:Hints:=⟨[(4050,[.sv 1 QL,.sv 39 QL,.sv 40 QI,.sv 41 QI,.box 6 Q32,.box 9 Q32,.ptr 6 6 [],.ptr 9 9 []],[(.exit 0,[.sv 1 QL,.box 6 Q32,.box 9 Q32,.ptr 6 6 [],.ptr 9 9 []]),(.ret,[.sv 7 QI,.box 6 Q32,.ptr 6 6 []])])],[(14,[(.normal,[.sv 0 QI,.sv 1 QL,.sv 8 QI,.sv 28 .bool,.box 6 Q32,.vp 5 Q32,.ptr 6 6 []])])],[]⟩
def a6y(x:Int):Option Bool:= cond (x != 0) (some (x != 1)) (some false)
def b1f:FSem:=⟨[.v QI],[.v .bool],a6y⟩
def d6j:Hints:=⟨[],[],[]⟩
def b2A(x:a1E):Option Bool:= (a6w (x.1,x)).bind fun y1=> cond (x.2.2.1==y1.2.2.1) (cond (x.2.2.2.1==y1.2.2.2.1) (cond (x.2.2.2.2.1==y1.2.2.2.2.1) (cond (eqT (.arr 3 (.int .i64)) x.2.2.2.2.2.2.1 y1.2.2.2.2.2.2.1) (cond ((x.2.2.2.2.2.1.length:Int)==(y1.2.2.2.2.2.1.length:Int)) (some ((x.2.2.2.2.2.2.2.1.length:Int)==(y1.2.2.2.2.2.2.2.1.length:Int))) (some false)) (some false)) (some false)) (some false)) (some false)
def b9q:FSem:=⟨[.v Q32],[.v .bool],b2A⟩
def d6k:Hints:=⟨[],[],[]⟩
def b1g(x:b0T):Option Bool:= (show Option c2j from cond (decide (x.2<1)) (some (x.2,true,x.1,())) (cond (decide (x.2 > 4096)) (some (x.2,true,x.1,())) ((a8A (x.1.1,x.1,x.2)).bind fun y1=> cond (!y1) (some (x.2,true,x.1,())) ((b2A x.1).bind fun y2=> some (x.2,!y2,x.1,()))))).bind fun z3=> cond z3.2.1 (some false) ((show Option c2j from cond (decide (z3.2.2.1.2.1<0)) (some (z3.1,true,z3.2.2.1,())) (cond (decide (z3.2.2.1.2.1 > 30)) (some (z3.1,true,z3.2.2.1,())) (cond (z3.2.2.1.1==0) (some (z3.1,z3.2.2.1.2.1 != 0,z3.2.2.1,())) (some (z3.1,false,z3.2.2.1,()))))).bind fun z4=> cond z4.2.1 (some false) ((a4M (z4.2.2.1,z4.1)).bind fun y5=> (show Option c6h from cond ((z4.2.2.1.2.2.2.2.2.2.2.2.1.length:Int) != y5) (some (z4.1,y5,true,z4.2.2.1,())) ((a2v z4.2.2.1.2.2.2.2.2.2.2.2.1).bind fun y6=> cond (!y6) (some (z4.1,y5,true,z4.2.2.1,())) ((a2v z4.2.2.1.2.2.2.2.2.2.2.2.2.2.1).bind fun y7=> some (z4.1,y5,!y7,z4.2.2.1,())))).bind fun z8=> cond z8.2.2.1 (some false) ((a6y z8.2.2.2.1.1).bind fun y9=> cond (!y9) (cond ((z8.2.2.2.1.2.2.2.2.2.2.2.2.2.2.1.length:Int)==0) (cond (z8.2.2.2.1.2.2.2.2.2.2.2.2.2.1.1==0) (some ((z8.2.2.2.1.2.2.2.2.2.2.2.2.2.1.2.1.length:Int)==0)) (some false)) (some false)) (cond ((z8.2.2.2.1.2.2.2.2.2.2.2.2.2.2.1.length:Int)==(wrap .i64 (z8.1-z8.2.1))) ((a9B (z8.2.2.2.1.2.2.2.2.2.2.2.2.2.1,z8.1,z8.2.1)).bind fun y10=> some y10) (some false)))))
def b8j:FSem:=⟨[.v Q32,.v QI],[.v .bool],b1g⟩
def d6l:Hints:=⟨[],[(6,[(.normal,[.sv 1 QI,.sv 24 .bool,.vp 2 Q32])]),(14,[(.normal,[.sv 1 QI,.sv 42 .bool,.vp 2 Q32])]),(62,[(.normal,[.sv 1 QI,.sv 5 QI,.sv 62 .bool,.vp 2 Q32])])],[]⟩
def a1k(x:(Int×(List Int))):Option (Int×(List Int)):= (l0z x.2 (wrap .i64 ((x.2.length:Int)-x.1))).bind fun x1=> some (x1,x.2)
def b5i:FSem:=⟨[.v QI,.r false (.b QL)],[.v QI],a1k⟩
def d6m:Hints:=⟨[],[],[]⟩
def a9O(x:((List Int)×Int)):Option Int:= cond (x.2==1) ((a1k (1,x.1)).bind fun y1=> some y1.1) (cond (x.2==2) ((a1k (1,x.1)).bind fun y2=> (a1k (2,y2.2)).bind fun y3=> some (wrap .i64 ((wrap .i64 (2*y2.1))-y3.1))) (cond (x.2==3) ((a1k (1,x.1)).bind fun y4=> (a1k (2,y4.2)).bind fun y5=> (a1k (3,y5.2)).bind fun y6=> some (wrap .i64 ((wrap .i64 ((wrap .i64 (3*y4.1))-(wrap .i64 (3*y5.1))))+y6.1))) (cond (x.2==4) ((a1k (1,x.1)).bind fun y7=> (a1k (2,y7.2)).bind fun y8=> (a1k (3,y8.2)).bind fun y9=> (a1k (4,y9.2)).bind fun y10=> some (wrap .i64 ((wrap .i64 ((wrap .i64 ((wrap .i64 (4*y7.1))-(wrap .i64 (6*y8.1))))+(wrap .i64 (4*y9.1))))-y10.1))) (some 0))))
def b7I:FSem:=⟨[.v QL,.v QI],[.v QI],a9O⟩
def d6n:Hints:=⟨[],[],[]⟩
def a8i(s:Z63):Option (Z63 ⊕ Z52):= cond (decide (s.2.2.2.1<s.2.2.1)) ((l0z s.2.1 s.2.2.2.1).bind fun x5=> (a9O (s.2.2.2.2.1,s.1)).bind fun y6=> (a2N [wrap .i64 (x5+y6)]).bind fun y7=> cond (!y7) (some (.inr (Sum.inr ((6,[],()))))) (cond (lim ((a02 s.2.2.2.2.1)+1)) (some (.inl (s.1,s.2.1,s.2.2.1,wrap .i64 (s.2.2.2.1+1),a03 s.2.2.2.2.1 [wrap .i64 (x5+y6)],()))) none)) (some (.inr (Sum.inl (s.2.2.2.2.1,()))))
def b1h(x:Z11):Option ((List Int)×Int):= (show Option Z54 from cond (decide (x.2.2<0)) (some (x.1,x.2.1,x.2.2,true,())) (cond (decide (x.2.2 > 4)) (some (x.1,x.2.1,x.2.2,true,())) (some (x.1,x.2.1,x.2.2,(x.1.length:Int) != x.2.2,())))).bind fun z1=> cond z1.2.2.2.1 (some ([],1)) ((show Option Z54 from(a2N z1.1).bind fun y2=> cond (!y2) (some (z1.1,z1.2.1,z1.2.2.1,true,())) ((a2N z1.2.1).bind fun y3=> some (z1.1,z1.2.1,z1.2.2.1,!y3,()))).bind fun z4=> cond z4.2.2.2.1 (some ([],6)) (cond (lim (a02 z4.1)) ((x0r a8i (z4.2.2.1,z4.2.1,(z4.2.1.length:Int),0,z4.1,())).bind fun w8=> match w8 with |.inl a9=>some (a9.1,0) |.inr b10=>some (b10.2.1,b10.1)) none))
def b8k:FSem:=⟨[.v QL,.v QL,.v QI],[.o QI,.v QI],b1h⟩
def d6o:Hints:=⟨[(250,[.sv 2 QI,.sv 34 QL,.sv 35 QI,.sv 36 QI,.own 8 8 QI],[(.exit 0,[.own 8 8 QI]),(.ret,[.sv 7 QI,.own 6 6 QI])])],[(6,[(.normal,[.sv 0 QL,.sv 1 QL,.sv 2 QI,.sv 23 .bool])]),(14,[(.normal,[.sv 0 QL,.sv 1 QL,.sv 2 QI,.sv 31 .bool])])],[]⟩
def a6W(s:((List Int)×Z63)):Option (((List Int)×Z63) ⊕ Z52):= cond (decide (s.2.2.2.2.1<s.2.2.2.1)) ((l0z s.2.2.1 s.2.2.2.2.1).bind fun x6=> (a4N (s.2.2.2.2.2.1,s.1,s.2.1)).bind fun y7=> (a5o (wrap .i64 (y7+x6))).bind fun y8=> cond (!y8) (some (.inr (Sum.inr ((6,[],()))))) (cond (lim ((a02 s.2.2.2.2.2.1)+1)) (some (.inl (s.1,s.2.1,s.2.2.1,s.2.2.2.1,wrap .i64 (s.2.2.2.2.1+1),a03 s.2.2.2.2.2.1 [wrap .i64 (y7+x6)],()))) none)) (some (.inr (Sum.inl (s.2.2.2.2.2.1,()))))
def a7x(x:((List Int)×Z11)):Option ((List Int)×Int):= (show Option Z83 from(a4L (x.2.2.1,x.2.2.2)).bind fun y1=> cond (!y1) (some (x.1,x.2.1,x.2.2.1,x.2.2.2,true,())) (some (x.1,x.2.1,x.2.2.1,x.2.2.2,(x.1.length:Int) != (x.2.2.1.length:Int),()))).bind fun z2=> cond z2.2.2.2.2.1 (some ([],1)) ((show Option Z83 from(a2z z2.1).bind fun y3=> cond (!y3) (some (z2.1,z2.2.1,z2.2.2.1,z2.2.2.2.1,true,())) ((a2z z2.2.1).bind fun y4=> some (z2.1,z2.2.1,z2.2.2.1,z2.2.2.2.1,!y4,()))).bind fun z5=> cond z5.2.2.2.2.1 (some ([],6)) (cond ((decide (0≤(wrap .i64 ((z5.1.length:Int)+(z5.2.1.length:Int)))))&&(lim (a00 (wrap .i64 ((z5.1.length:Int)+(z5.2.1.length:Int)))))) (cond (lim (0+(a02 z5.1))) ((x0r a6W (z5.2.2.1,z5.2.2.2.1,z5.2.1,(z5.2.1.length:Int),0,a03 [] z5.1,())).bind fun w9=> match w9 with |.inl a10=>some (a10.1,0) |.inr b11=>some (b11.2.1,b11.1)) none) none))
def b7J:FSem:=⟨[.v QL,.v QL,.v QL,.v QI],[.o QI,.v QI],a7x⟩
def d6p:Hints:=⟨[(506,[.sv 2 QL,.sv 3 QI,.sv 42 QL,.sv 43 QI,.sv 44 QI,.own 10 10 QI],[(.exit 0,[.own 10 10 QI]),(.ret,[.sv 9 QI,.own 8 8 QI])])],[(6,[(.normal,[.sv 0 QL,.sv 1 QL,.sv 2 QL,.sv 3 QI,.sv 24 .bool])]),(14,[(.normal,[.sv 0 QL,.sv 1 QL,.sv 2 QL,.sv 3 QI,.sv 32 .bool])])],[]⟩
def a8V(s:Z91):Option (Z91 ⊕ Z52):= cond (decide (s.2.2.2.1<s.2.2.1)) ((l0z s.2.1 s.2.2.2.1).bind fun x3=> (a4D (s.2.2.2.2.1,s.2.2.2.1,s.1,s.2.2.2.2.2.1)).bind fun y4=> (a7O (wrap .i64 (x3+y4))).bind fun y5=> cond (!y5) (some (.inr (Sum.inr ((6,[],()))))) (cond (lim ((a02 s.2.2.2.2.1)+1)) (some (.inl (s.1,s.2.1,s.2.2.1,wrap .i64 (s.2.2.2.1+1),a03 s.2.2.2.2.1 [wrap .i64 (x3+y4)],s.2.2.2.2.2.1,()))) none)) (some (.inr (Sum.inl (s.2.2.2.2.1,()))))
def b2B(x:Z12):Option ((List Int)×Int):= (a8S (x.2.1,x.2.2)).bind fun y1=> cond (!y1) (some ([],1)) ((a4C x.1).bind fun y2=> cond (!y2) (some ([],6)) (cond ((decide (0≤(x.1.length:Int)))&&(lim (a00 (x.1.length:Int)))) ((x0r a8V (x.2.1,x.1,(x.1.length:Int),0,[],x.2.2,())).bind fun w6=> match w6 with |.inl a7=>some (a7.1,0) |.inr b8=>some (b8.2.1,b8.1)) none))
def b9r:FSem:=⟨[.v QL,.v QI,.v (.arr 3 QI)],[.o QI,.v QI],b2B⟩
def d6q:Hints:=⟨[(250,[.sv 1 QI,.sv 22 QL,.sv 23 QI,.sv 24 QI,.own 8 8 QI,.vp 5 (.arr 3 QI)],[(.exit 0,[.own 8 8 QI]),(.ret,[.sv 7 QI,.own 6 6 QI])])],[],[]⟩
def a5C(s:(Int×(Int×((List Int)×Z92)))):Option ((Int×(Int×((List Int)×Z92))) ⊕ (Z30 ⊕ Z30)):= cond (decide (s.2.1<s.1)) (cond ((decide (0≤s.2.1))&&(decide (s.2.1<(s.2.2.2.2.1.length:Int)))) ((a1X s.2.2.2.2.2.1).bind fun y6=> (a6x (wrap .i64 (y6.1+(a04 s.2.2.2.2.1 (a00 s.2.1) 0)))).bind fun y7=> cond (!y7) (some (.inr (Sum.inr (([],6,s.2.2.2.2.1,()))))) ((a3j (y6.2,wrap .i64 (y6.1+(a04 s.2.2.2.2.1 (a00 s.2.1) 0)))).bind fun y8=> cond ((decide (0≤s.2.1))&&(decide (s.2.1<(s.2.2.2.2.1.length:Int)))) (some (.inl (s.1,wrap .i64 (s.2.1+1),s.2.2.1,s.2.2.2.1,a08 s.2.2.2.2.1 (a00 s.2.1) (wrap .i64 (y6.1+(a04 s.2.2.2.2.1 (a00 s.2.1) 0))),y8,()))) none)) none) (some (.inr (Sum.inl (s.2.2.1,s.2.2.2.1,s.2.2.2.2.1,()))))
def a8j(k:Int)(v:(Int×Int×Unit))(s:(Z6×Z30)):Option ((Z6×Z30) ⊕ (Ex×Z6×Z30)):= (a9A v).bind fun y4=> cond (y4.2 != 0) (some (.inr (.ret,s.1,[],y4.2,s.2.2.2.1,()))) ((x0r a5C ((s.2.2.2.1.length:Int),0,s.2.1,s.2.2.1,s.2.2.2.1,y4.1,())).bind fun w9=> match w9 with |.inl a10=>some (.inl (s.1,a10.1,a10.2.1,a10.2.2.1,())) |.inr b11=>some (.inr (.ret,s.1,b11.1,b11.2.1,b11.2.2.1,())))
def b1i(x:((List Int)×Z6)):Option ((List Int)×Int):= (a7P x.2).bind fun y1=> cond (!y1) (some ([],1)) ((a5y x.1).bind fun y2=> cond (!y2) (some ([],6)) ((a1f x.1).bind fun y3=> cond (lim (a02 x.2)) ((k0w a8j x.2 (a02 x.2) (x.2,[],0,y3,())).bind fun w12=> match w12 with |.inl a13=>some (a13.2.2.2.1,0) |.inr (.normal,a14)=>some (a14.2.2.2.1,0) |.inr (.exit e15,a14)=>(cond (e15==0) (some (a14.2.2.2.1,0)) none) |.inr (.ret,a14)=>some (a14.2.1,a14.2.2.1)) none))
def a8B:FSem:=⟨[.v QL,.v (.list false Q4)],[.v QL,.v QI],b1i⟩
def d6r:Hints:=⟨[(8046,[.sv 35 QI,.sv 36 QI,.box 1001004 QL,.box 1001005 QI,.box 1001006 (.list true QI),.box 1028 Q13,.ptr 4 1001004 [],.ptr 5 1001005 [],.ptr 6 1001006 [],.ptr 9 1028 [],.ref 34 1001006 []],[(.exit 2,[.box 1001004 QL,.box 1001005 QI,.box 1001006 (.list true QI),.ptr 4 1001004 [],.ptr 5 1001005 [],.ptr 6 1001006 []]),(.ret,[.box 1001004 QL,.box 1001005 QI,.box 1001006 (.list true QI),.ptr 4 1001004 [],.ptr 5 1001005 [],.ptr 6 1001006 []])])],[],[]⟩
def c9H:Cx:=b0U [(183,a1a),(213,b2v),(296,b1b),(298,b5O),(299,a4o),(300,b1a),(301,a7Y)] [(6,.list true QI)] [0,1,9,10,11,12,13] [56]
def d1I:HintR:=⟨22,Q4,297,326,[4,5,6],[.sv 22 (.list false Q4),.box 1001004 QL,.box 1001005 QI,.box 1001006 (.list true QI),.ptr 4 1001004 [],.ptr 5 1001005 [],.ptr 6 1001006 []]⟩
theorem d2y(x):y0f c9H d6r d1I Tryz.f240 a8B.ps a8B.rs x=a8B.F x:=by kernel_rfl
def a8W(s:Z63):Option (Z63 ⊕ Z52):= cond (decide (s.2.2.2.1<s.2.2.1)) ((l0z s.2.1 s.2.2.2.1).bind fun x2=> (show Option (Int×(Int×((List Int)×Z37)))from(a5n x2).bind fun y3=> cond (!y3) (some (s.1,x2,s.2.1,s.2.2.1,s.2.2.2.1,true,s.2.2.2.2.1,())) (cond (decide (s.1<0)) none ((a5n (z0g .i64 x2 s.1)).bind fun y4=> some (s.1,x2,s.2.1,s.2.2.1,s.2.2.2.1,!y4,s.2.2.2.2.1,())))).bind fun z5=> cond z5.2.2.2.2.2.1 (some (.inr (Sum.inr ((6,[],()))))) (cond (decide (z5.1<0)) none (cond (lim ((a02 z5.2.2.2.2.2.2.1)+1)) (some (.inl (z5.1,z5.2.2.1,z5.2.2.2.1,wrap .i64 (z5.2.2.2.2.1+1),a03 z5.2.2.2.2.2.2.1 [z0g .i64 z5.2.1 z5.1],()))) none))) (some (.inr (Sum.inl (s.2.2.2.2.1,()))))
def a9D(x:((List Int)×Int)):Option ((List Int)×Int):= (show Option Z21 from cond (decide (x.2<0)) (some (x.1,x.2,true,())) (some (x.1,x.2,decide (x.2 > 30),()))).bind fun z1=> cond z1.2.2.1 (some ([],1)) ((x0r a8W (z1.2.1,z1.1,(z1.1.length:Int),0,[],())).bind fun w6=> match w6 with |.inl a7=>some (a7.1,0) |.inr b8=>some (b8.2.1,b8.1))
def b9s:FSem:=⟨[.v QL,.v QI],[.o QI,.v QI],a9D⟩
def d6s:Hints:=⟨[(122,[.sv 1 QI,.sv 15 QL,.sv 16 QI,.sv 17 QI,.own 6 6 QI],[(.exit 0,[.own 6 6 QI]),(.ret,[.sv 5 QI,.own 4 4 QI])])],[(6,[(.normal,[.sv 0 QL,.sv 1 QI,.sv 14 .bool])]),(15666,[(.normal,[.sv 1 QI,.sv 8 QI,.sv 15 QL,.sv 16 QI,.sv 17 QI,.sv 30 .bool,.own 6 6 QI])])],[]⟩
def a7y(s:c6i):Option (c6i ⊕ ((List Int)×Unit)):= cond (decide (s.2.1<s.1)) ((l0z s.2.2.2.1.2.2.2.2.2.2.2.2.1 0).bind fun x1=> cond (lim ((a02 s.2.2.1)+1)) (some (.inl (s.1,wrap .i64 (s.2.1+1),a03 s.2.2.1 [x1],s.2.2.2.1,()))) none) (some (.inr (s.2.2.1,())))
def b3W(x:b0T):Option ((List Int)×Int):= (show Option (((List Int)×(Int×b6P)) ⊕ Z4)from cond (x.1.1==0) ((x0r a7y (x.2,0,[],x.1,())).bind fun w2=> some (Sum.inr ((0,w2.1,())))) (cond (x.1.1==1) (some (Sum.inl (x.1.2.2.2.2.2.2.2.2.1,0,x.1,()))) (cond (x.1.1==2) ((b1h (x.1.2.2.2.2.2.2.2.2.1,x.1.2.2.2.2.2.2.2.2.2.2.1,x.1.2.2.1)).bind fun y3=> some (Sum.inl (y3.1,y3.2,x.1,()))) (cond (x.1.1==3) ((a7x (x.1.2.2.2.2.2.2.2.2.1,x.1.2.2.2.2.2.2.2.2.2.2.1,x.1.2.2.2.2.2.1,x.1.2.2.2.1)).bind fun y4=> some (Sum.inl (y4.1,y4.2,x.1,()))) (cond (x.1.1==4) ((a7x (x.1.2.2.2.2.2.2.2.2.1,x.1.2.2.2.2.2.2.2.2.2.2.1,x.1.2.2.2.2.2.1,x.1.2.2.2.1)).bind fun y5=> cond (y5.2==0) ((b2B (y5.1,x.1.2.2.2.2.1,x.1.2.2.2.2.2.2.1)).bind fun y6=> some (Sum.inl (y6.1,y6.2,x.1,()))) (some (Sum.inl (y5.1,y5.2,x.1,())))) (cond (x.1.1==5) ((b1i (x.1.2.2.2.2.2.2.2.2.2.2.1,x.1.2.2.2.2.2.2.2.1)).bind fun y7=> some (Sum.inl (y7.1,y7.2,x.1,()))) (some (Sum.inl ([],0,x.1,()))))))))).bind fun z8=> match z8 with |.inl a9=>(cond (a9.2.1 != 0) (some ([],a9.2.1)) ((a9D (a9.1,a9.2.2.1.2.1)).bind fun y11=> some (y11.1,y11.2))) |.inr b10=>some (b10.2.1,b10.1)
def c0W:FSem:=⟨[.v Q32,.v QI],[.o QI,.v QI],b3W⟩
def d6t:Hints:=⟨[(3922,[.sv 12 QI,.sv 13 QI,.own 6 6 QI,.vp 2 Q32],[(.exit 1,[.own 6 6 QI])])],[(15,[(.normal,[.sv 6 QL,.sv 7 QI,.vp 2 Q32]),(.ret,[.sv 5 QI,.own 4 6 QI])])],[]⟩
def b3b(x:b0T):Option ((List Int)×Int):= (b1g (x.1,x.2)).bind fun y1=> cond (!y1) (some ([],1)) ((b3W (x.1,x.2)).bind fun y2=> cond (y2.2 != 0) (some ([],1)) (some (y2.1,0)))
def b8l:FSem:=⟨[.v Q32,.v QI],[.o QI,.v QI],b3b⟩
def d6u:Hints:=⟨[],[],[]⟩
def b0M(x:b0T):Option Bool:= (b3b (x.1,x.2)).bind fun y1=> some (y1.2==0)
def b8m:FSem:=⟨[.v Q32,.v QI],[.v .bool],b0M⟩
def d6v:Hints:=⟨[],[],[]⟩
def a2i(x:(Z5×Int)):Option Z5:= (show Option Z39 from cond ((a07 x.1.2.1 8)==0) (cond (lim ((a02 x.1.1)+1)) (some (x.2,(a03 x.1.1 [0],x.1.2),())) none) (some (x.2,x.1,()))).bind fun z1=> cond ((decide (0≤(wrap .i64 (a05 z1.2.1.2.1 8))))&&(decide ((wrap .i64 (a05 z1.2.1.2.1 8))<(z1.2.1.1.length:Int)))) (cond (decide ((wrap .i64 (7-(a07 z1.2.1.2.1 8)))<0)) none (cond ((decide (0≤(wrap .i64 (a05 z1.2.1.2.1 8))))&&(decide ((wrap .i64 (a05 z1.2.1.2.1 8))<(z1.2.1.1.length:Int)))) (some (a08 z1.2.1.1 (a00 (wrap .i64 (a05 z1.2.1.2.1 8))) (bits .u8 .or (a04 z1.2.1.1 (a00 (wrap .i64 (a05 z1.2.1.2.1 8))) 0) (z0g .u8 z1.1 (wrap .i64 (7-(a07 z1.2.1.2.1 8))))),wrap .i64 (z1.2.1.2.1+1),z1.2.1.2.2)) none)) none
def a6e:FSem:=⟨[.r false (.b Q6),.v (.int .u8)],[],a2i⟩
def d6w:Hints:=⟨[],[(1,[(.normal,[.sv 1 (.int .u8),.box pinned Q6,.ptr 0 pinned []])])],[(2,[.p,.p,.q,.q,.p,.p,.q,.q,.v,.q,.q,.v,.p,.p,.q,.q,.v,.v,.v,.x,.x,.x])]⟩
def a4p(s:Z59):Option (Z59 ⊕ Z24):= cond (decide (s.2.1≥0)) (cond (decide (s.2.1<0)) none ((a2i (s.2.2.1,wrap .u8 (bits .u64 .and (z0h .u64 s.1 s.2.1) 1))).bind fun y2=> some (.inl (s.1,wrap .i64 (s.2.1-1),y2,())))) (some (.inr (s.2.2.1,())))
def a0J(x:(Z5×Int×Int)):Option Z19:= (show Option (Int×Int×Bool×Z24)from cond (decide (x.2.2<0)) (some (x.2.1,x.2.2,true,x.1,())) (cond (decide (x.2.2 > 64)) (some (x.2.1,x.2.2,true,x.1,())) (cond (decide (x.2.2<0)) none (some (x.2.1,x.2.2,(z0h .u64 x.2.1 x.2.2) != 0,x.1,()))))).bind fun z1=> cond z1.2.2.1 (some (1,z1.2.2.2.1)) ((x0r a4p (z1.1,wrap .i64 (z1.2.1-1),z1.2.2.2.1,())).bind fun w3=> some (0,w3.1))
def a2W:FSem:=⟨[.r false (.b Q6),.v (.int .u64),.v QI],[.v QI],a0J⟩
def d6x:Hints:=⟨[(58,[.sv 1 (.int .u64),.sv 7 QI,.box pinned Q6,.ptr 0 pinned []],[(.exit 0,[.box pinned Q6])])],[(6,[(.normal,[.sv 1 (.int .u64),.sv 2 QI,.sv 19 .bool,.box pinned Q6,.ptr 0 pinned []])])],[]⟩
def a2P(x:(Z5×Int×Int)):Option Z5:= cond (decide (x.2.2<0)) none ((a0J (x.1,bits .u64 .and (wrap .u64 x.2.1) (wrap .u64 ((z0g .u64 1 x.2.2)-1)),x.2.2)).bind fun y1=> some y1.2)
def b1j:FSem:=⟨[.r false (.b Q6),.v QI,.v QI],[],a2P⟩
def d6y:Hints:=⟨[],[],[]⟩
def a6f(s:Z95):Option (Z95 ⊕ Z24):= cond (decide (s.2.2.2.1<s.2.2.1)) ((l0z s.2.1 s.2.2.2.1).bind fun x6=> (a2P (s.2.2.2.2.1,x6,s.1)).bind fun y7=> some (.inl (s.1,s.2.1,s.2.2.1,wrap .i64 (s.2.2.2.1+1),y7,()))) (some (.inr (s.2.2.2.2.1,())))
def a8X(x:(Z5×a1E)):Option Z5:= (a0J (x.1,wrap .u64 (wrap .i64 ((x.2.2.2.2.2.2.1.length:Int)-1)),5)).bind fun y1=> (a0J (y1.2,wrap .u64 x.2.2.2.2.1,4)).bind fun y2=> (a1w x.2.2.2.2.2.2.1).bind fun y3=> (a0J (y2.2,wrap .u64 y3,5)).bind fun y4=> (x0r a6f (y3,x.2.2.2.2.2.2.1,(x.2.2.2.2.2.2.1.length:Int),0,y4.2,())).bind fun w8=> some w8.1
def b6h:FSem:=⟨[.r false (.b Q6),.v Q32],[],a8X⟩
def d6z:Hints:=⟨[(254,[.sv 4 QI,.sv 27 QL,.sv 28 QI,.sv 29 QI,.box pinned Q6,.ptr 0 pinned []],[(.exit 0,[.box pinned Q6])])],[],[]⟩
def a3z(s:Z59):Option (Z59 ⊕ Z24):= cond (decide (s.2.1<s.1)) ((a2i (s.2.2.1,0)).bind fun y2=> some (.inl (s.1,wrap .i64 (s.2.1+1),y2,()))) (some (.inr (s.2.2.1,())))
def a2r(x:(Z5×Int)):Option Z19:= (show Option (Int×Bool×Z24)from cond (decide (x.2<0)) (some (x.2,true,x.1,())) (some (x.2,decide (x.2 > 4096),x.1,()))).bind fun z1=> cond z1.2.1 (some (1,z1.2.2.1)) ((x0r a3z (z1.1,0,z1.2.2.1,())).bind fun w3=> (a2i (w3.1,1)).bind fun y4=> some (0,y4))
def b1P:FSem:=⟨[.r false (.b Q6),.v QI],[.v QI],a2r⟩
def d6A:Hints:=⟨[(58,[.sv 11 QI,.sv 12 QI,.box pinned Q6,.ptr 0 pinned []],[(.exit 0,[.box pinned Q6,.ptr 0 pinned []])])],[(6,[(.normal,[.sv 1 QI,.sv 10 .bool,.box pinned Q6,.ptr 0 pinned []])])],[]⟩
def a9P(s:(Int×((List Int)×Z86))):Option ((Int×((List Int)×Z86)) ⊕ ((Int×((List Int)×Z24)) ⊕ Z39)):= cond (decide (s.2.2.2.2.1<s.2.2.2.1)) ((l0z s.2.2.1 s.2.2.2.2.1).bind fun x2=> (a7R x2).bind fun y3=> cond (!y3) (some (.inr (Sum.inr ((1,s.2.2.2.2.2.1,()))))) (some (.inl (s.1,s.2.1,s.2.2.1,s.2.2.2.1,wrap .i64 (s.2.2.2.2.1+1),s.2.2.2.2.2.1,())))) (some (.inr (Sum.inl (s.1,s.2.1,s.2.2.2.2.2.1,()))))
def a7z(s:Z95):Option (Z95 ⊕ Z24):= cond (decide (s.2.2.2.1<s.2.2.1)) ((l0z s.2.1 s.2.2.2.1).bind fun x7=> (a9C x7).bind fun y8=> cond (decide (s.1<0)) none (cond (decide ((z0h .u64 y8 s.1)<32)) ((a2r (s.2.2.2.2.1,wrap .i64 (z0h .u64 y8 s.1))).bind fun y9=> cond (decide (s.1<0)) none ((a0J (y9.2,wrap .u64 (y8-(z0g .u64 (z0h .u64 y8 s.1) s.1)),s.1)).bind fun y10=> some (.inl (s.1,s.2.1,s.2.2.1,wrap .i64 (s.2.2.2.1+1),y10.2,())))) ((a2r (s.2.2.2.2.1,32)).bind fun y11=> (a0J (y11.2,y8,32)).bind fun y12=> some (.inl (s.1,s.2.1,s.2.2.1,wrap .i64 (s.2.2.2.1+1),y12.2,()))))) (some (.inr (s.2.2.2.2.1,())))
def b3X(x:(Z5×(Int×(List Int)))):Option Z19:= (a1U x.2.1).bind fun y1=> cond (!y1) (some (1,x.1)) ((x0r a9P (x.2.1,x.2.2,x.2.2,(x.2.2.length:Int),0,x.1,())).bind fun w4=> match w4 with |.inl a5=>((x0r a7z (a5.1,a5.2.1,(a5.2.1.length:Int),0,a5.2.2.1,())).bind fun w13=> some (0,w13.1)) |.inr b6=>some (b6.1,b6.2.1))
def c0X:FSem:=⟨[.r false (.b Q6),.v QI,.v QL],[.v QI],b3X⟩
def d6B:Hints:=⟨[(58,[.sv 1 QI,.sv 2 QL,.sv 16 QL,.sv 17 QI,.sv 18 QI,.box pinned Q6,.ptr 0 pinned []],[(.exit 0,[.sv 1 QI,.sv 2 QL,.box pinned Q6,.ptr 0 pinned []]),(.ret,[.sv 6 QI,.box pinned Q6])]),(122,[.sv 1 QI,.sv 26 QL,.sv 27 QI,.sv 28 QI,.box pinned Q6,.ptr 0 pinned []],[(.exit 2,[.box pinned Q6])])],[],[]⟩
def a8Y(s:((List Int)×(Int×Int×Int×c3W))):Option (((List Int)×(Int×Int×Int×c3W)) ⊕ c3W):= cond (decide (s.2.2.2.2.2.2.1<s.2.2.2.2.2.1)) ((l0z s.2.2.2.2.1 s.2.2.2.2.2.2.1).bind fun x11=> cond (decide (s.2.1<0)) none ((a0J (s.2.2.2.2.2.2.2.2.1,bits .u64 .and (wrap .u64 x11) (wrap .u64 ((z0g .u64 1 s.2.1)-1)),s.2.1)).bind fun y12=> some (.inl (s.1,s.2.1,s.2.2.1,s.2.2.2.1,s.2.2.2.2.1,s.2.2.2.2.2.1,wrap .i64 (s.2.2.2.2.2.2.1+1),s.2.2.2.2.2.2.2.1,y12.2,s.2.2.2.2.2.2.2.2.2.1,())))) (some (.inr (s.1,s.2.2.1,s.2.2.2.1,s.2.2.2.2.2.2.2.1,s.2.2.2.2.2.2.2.2.1,s.2.2.2.2.2.2.2.2.2.1,())))
def a4F(s:c3W):Option (c3W ⊕ Z24):= cond (decide (s.2.2.1<s.2.1)) (cond ((decide (0≤s.2.2.1))&&(decide (s.2.2.1<(s.2.2.2.1.length:Int)))) (cond ((decide (0≤(a04 s.2.2.2.1 (a00 s.2.2.1) 0)))&&(decide ((a04 s.2.2.2.1 (a00 s.2.2.1) 0)≤(s.1.length:Int)))) (cond ((decide (0≤(a04 s.2.2.2.1 (a00 s.2.2.1) 0)))&&(decide ((a04 s.2.2.2.1 (a00 s.2.2.1) 0)≤(s.1.length:Int)))) ((l0z s.2.2.2.2.2.1.2.1 s.2.2.1).bind fun x4=> (a0J (s.2.2.2.2.1,wrap .u64 x4,5)).bind fun y5=> (l0z s.2.2.2.2.2.1.2.1 s.2.2.1).bind fun x6=> cond (x6 != 31) ((l0z s.2.2.2.2.2.1.2.1 s.2.2.1).bind fun x7=> (b3X (y5.2,x7,a06 (a00 (a04 s.2.2.2.1 (a00 s.2.2.1) 0)) s.1)).bind fun y8=> some (.inl (a16 (a00 (a04 s.2.2.2.1 (a00 s.2.2.1) 0)) (a06 (a02 s.1) s.1),s.2.1,wrap .i64 (s.2.2.1+1),s.2.2.2.1,y8.2,s.2.2.2.2.2.1,()))) ((a1w (a06 (a00 (a04 s.2.2.2.1 (a00 s.2.2.1) 0)) s.1)).bind fun y9=> (a0J (y5.2,wrap .u64 y9,5)).bind fun y10=> (x0r a8Y (a16 (a00 (a04 s.2.2.2.1 (a00 s.2.2.1) 0)) (a06 (a02 s.1) s.1),y9,s.2.1,s.2.2.1,a06 (a00 (a04 s.2.2.2.1 (a00 s.2.2.1) 0)) s.1,((a02 (a06 (a00 (a04 s.2.2.2.1 (a00 s.2.2.1) 0)) s.1):Nat):Int),0,s.2.2.2.1,y10.2,s.2.2.2.2.2.1,())).bind fun w13=> some (.inl (w13.1,w13.2.1,wrap .i64 (w13.2.2.1+1),w13.2.2.2.1,w13.2.2.2.2.1,w13.2.2.2.2.2.1,())))) none) none) none) (some (.inr (s.2.2.2.2.1,())))
def b2C(x:(Z5×Z66)):Option Z19:= (a4P (x.2.1,x.2.2.1,x.2.2.2.1,x.2.2.2.2)).bind fun y1=> cond (y1==0) (some (1,x.1)) ((a0J (x.1,wrap .u64 x.2.1.1,4)).bind fun y2=> (a2Z (x.2.1.1,x.2.2.1,x.2.2.2.1)).bind fun y3=> (x0r a4F (x.2.2.2.2,(y3.length:Int),0,y3,y2.2,x.2.1,())).bind fun w14=> some (0,w14.1))
def b9t:FSem:=⟨[.r false (.b Q6),.v Q8,.v QI,.v QI,.v QL],[.v QI],b2C⟩
def d6C:Hints:=⟨[(122,[.sv 4 QL,.sv 33 QI,.sv 34 QI,.own 32 1032 QI,.box pinned Q6,.ptr 0 pinned [],.vp 6 Q8],[(.exit 0,[.box pinned Q6])]),(2005502,[.sv 4 QL,.sv 14 QI,.sv 33 QI,.sv 34 QI,.sv 73 QL,.sv 74 QI,.sv 75 QI,.own 32 1032 QI,.box pinned Q6,.ptr 0 pinned [],.vp 6 Q8],[(.exit 2,[.sv 4 QL,.sv 33 QI,.sv 34 QI,.own 32 1032 QI,.box pinned Q6,.ptr 0 pinned [],.vp 6 Q8])])],[],[]⟩
def b1k(s:(Int×(Int×((List Int)×c6j)))):Option ((Int×(Int×((List Int)×c6j))) ⊕ b5L):= cond (decide (s.2.2.2.1<3)) ((l0z s.2.2.1 s.2.2.2.1).bind fun x8=> (a2P (s.2.2.2.2.1,x8,8)).bind fun y9=> some (.inl (s.1,s.2.1,s.2.2.1,wrap .i64 (s.2.2.2.1+1),y9,s.2.2.2.2.2.1,()))) (some (.inr (s.1,s.2.1,s.2.2.2.2.1,s.2.2.2.2.2.1,())))
def b1l(s:(Int×Int×Z6×b5L)):Option ((Int×Int×Z6×b5L) ⊕ b5L):= cond (decide (s.2.2.2.2.1<s.2.2.2.1)) ((l0z s.2.2.1 s.2.2.2.2.1).bind fun x18=> (a0J (s.2.2.2.2.2.1,wrap .u64 (wrap .i64 (x18.1-1)),5)).bind fun y19=> (a0J (y19.2,wrap .u64 x18.2.1,4)).bind fun y20=> some (.inl (s.1,s.2.1,s.2.2.1,s.2.2.2.1,wrap .i64 (s.2.2.2.2.1+1),y20.2,s.2.2.2.2.2.2.1,()))) (some (.inr (s.1,s.2.1,s.2.2.2.2.2.1,s.2.2.2.2.2.2.1,())))
def b1m(s:(Int×(Int×((List Int)×b5L)))):Option ((Int×(Int×((List Int)×b5L))) ⊕ c6j):= cond (decide (s.2.2.2.2.1<s.2.2.2.1)) ((l0z s.2.2.1 s.2.2.2.2.1).bind fun x23=> (a2P (s.2.2.2.2.2.1,x23,s.2.1)).bind fun y24=> some (.inl (s.1,s.2.1,s.2.2.1,s.2.2.2.1,wrap .i64 (s.2.2.2.2.1+1),y24,s.2.2.2.2.2.2.1,()))) (some (.inr (s.1,s.2.2.2.2.2.1,s.2.2.2.2.2.2.1,())))
def b0N(x:(Z5×b0T)):Option Z19:= (b0M (x.2.1,x.2.2)).bind fun y1=> cond (!y1) (some (1,x.1)) ((a1w x.2.1.2.2.2.2.2.2.2.2.1).bind fun y2=> (a0J (x.1,wrap .u64 x.2.1.1,3)).bind fun y3=> (a0J (y3.2,wrap .u64 x.2.1.2.1,5)).bind fun y4=> (a0J (y4.2,wrap .u64 y2,5)).bind fun y5=> (show Option b5L from(show Option (b5L ⊕ (b5L ⊕ b5L))from cond (x.2.1.1==2) ((a0J (y5.2,wrap .u64 x.2.1.2.2.1,3)).bind fun y6=> some (Sum.inr (Sum.inl (x.2.2,y2,y6.2,x.2.1,())))) (cond (x.2.1.1==4) ((a0J (y5.2,wrap .u64 (wrap .i64 (x.2.1.2.2.2.2.1-1)),10)).bind fun y7=> (x0r b1k (x.2.2,y2,x.2.1.2.2.2.2.2.2.1,0,y7.2,x.2.1,())).bind fun w10=> some (Sum.inl (w10.1,w10.2.1,w10.2.2.1,w10.2.2.2.1,()))) (cond (x.2.1.1==3) (some (Sum.inl (x.2.2,y2,y5.2,x.2.1,()))) (cond (x.2.1.1==5) (some (Sum.inr (Sum.inr ((x.2.2,y2,y5.2,x.2.1,()))))) (some (Sum.inr (Sum.inl (x.2.2,y2,y5.2,x.2.1,())))))))).bind fun z11=> match z11 with |.inl a12=>((a8X (a12.2.2.1,a12.2.2.2.1)).bind fun y14=> some (a12.1,a12.2.1,y14,a12.2.2.2.1,())) |.inr b13=>(match b13 with |.inl a15=>some (a15.1,a15.2.1,a15.2.2.1,a15.2.2.2.1,()) |.inr b16=>((a0J (b16.2.2.1,wrap .u64 (b16.2.2.2.1.2.2.2.2.2.2.2.1.length:Int),2)).bind fun y17=> (x0r b1l (b16.1,b16.2.1,b16.2.2.2.1.2.2.2.2.2.2.2.1,(b16.2.2.2.1.2.2.2.2.2.2.2.1.length:Int),0,y17.2,b16.2.2.2.1,())).bind fun w21=> some (w21.1,w21.2.1,w21.2.2.1,w21.2.2.2.1,())))).bind fun z22=> (x0r b1m (z22.1,z22.2.1,z22.2.2.2.1.2.2.2.2.2.2.2.2.1,(z22.2.2.2.1.2.2.2.2.2.2.2.2.1.length:Int),0,z22.2.2.1,z22.2.2.2.1,())).bind fun w25=> (a6y w25.2.2.1.1).bind fun y26=> cond (!y26) (some (0,w25.2.1)) ((b2C (w25.2.1,w25.2.2.1.2.2.2.2.2.2.2.2.2.1,w25.1,(w25.2.2.1.2.2.2.2.2.2.2.2.1.length:Int),w25.2.2.1.2.2.2.2.2.2.2.2.2.2.1)).bind fun y27=> some (y27.1,y27.2)))
def b8n:FSem:=⟨[.r false (.b Q6),.v Q32,.v QI],[.v QI],b0N⟩
def H62:Hints:=⟨[(2042,[.sv 2 QI,.sv 7 QI,.sv 94 QL,.sv 95 QI,.sv 96 QI,.box pinned Q6,.ptr 0 pinned [],.vp 4 Q32],[(.exit 9,[.sv 2 QI,.box pinned Q6,.ptr 0 pinned [],.vp 4 Q32])]),(32598,[.sv 2 QI,.sv 7 QI,.sv 75 (.list false Q4),.sv 76 QI,.sv 77 QI,.box pinned Q6,.ptr 0 pinned [],.vp 4 Q32],[(.exit 7,[.sv 2 QI,.sv 7 QI,.box pinned Q6,.ptr 0 pinned [],.vp 4 Q32])]),(260622,[.sv 2 QI,.sv 7 QI,.sv 57 (.arr 3 QI),.sv 58 QI,.box pinned Q6,.ptr 0 pinned [],.vp 4 Q32],[(.exit 5,[.sv 2 QI,.sv 7 QI,.box pinned Q6,.ptr 0 pinned [],.vp 4 Q32])])],[(127,[(.normal,[.sv 2 QI,.sv 7 QI,.box pinned Q6,.ptr 0 pinned [],.vp 4 Q32])]),(4072,[(.normal,[.sv 2 QI,.sv 7 QI,.box pinned Q6,.ptr 0 pinned [],.vp 4 Q32]),(.exit 0,[.sv 2 QI,.sv 7 QI,.box pinned Q6,.ptr 0 pinned [],.vp 4 Q32]),(.exit 4,[.sv 2 QI,.sv 7 QI,.box pinned Q6,.ptr 0 pinned [],.vp 4 Q32])])],[]⟩
def a9o(x:Z5):Option Z19:= some (x.2.1,x)
def b3K:FSem:=⟨[.r false (.b Q6)],[.v QI],a9o⟩
def d6D:Hints:=⟨[],[],[]⟩
def a5D(x:b0T):Option Int:= (b0N (([],0,()),x.1,x.2)).bind fun y1=> cond (y1.1 != 0) (some 0) ((a9o y1.2).bind fun y2=> some y2.1)
def c0Y:FSem:=⟨[.v Q32,.v QI],[.v QI],a5D⟩
def d6E:Hints:=⟨[],[],[]⟩
def a7A(s:((List Int)×(Int×Bool×b3n×c6n))):Option (((List Int)×(Int×Bool×b3n×c6n)) ⊕ b1W):= cond (decide (s.2.2.2.2.2.1<s.2.2.2.2.1)) ((l0z s.2.2.2.1 s.2.2.2.2.2.1).bind fun x6=> (b3V (x6.1,s.1,x6)).bind fun y7=> cond (y7.2 != 0) (some (.inl (s.1,s.2.1,s.2.2.1,s.2.2.2.1,s.2.2.2.2.1,wrap .i64 (s.2.2.2.2.2.1+1),s.2.2.2.2.2.2.1,s.2.2.2.2.2.2.2.1,()))) ((a5D (y7.1,(s.1.length:Int))).bind fun y8=> (show Option ((List Int)×(Int×Bool×Int×b3n×Int×Int×Bool×a1E×b1W))from cond (!s.2.2.1) (some (s.1,s.2.1,s.2.2.1,y8,s.2.2.2.1,s.2.2.2.2.1,s.2.2.2.2.2.1,true,s.2.2.2.2.2.2.1,s.2.2.2.2.2.2.2.1,y7.1,())) (some (s.1,s.2.1,s.2.2.1,y8,s.2.2.2.1,s.2.2.2.2.1,s.2.2.2.2.2.1,decide (y8<s.2.1),s.2.2.2.2.2.2.1,s.2.2.2.2.2.2.2.1,y7.1,()))).bind fun z9=> cond z9.2.2.2.2.2.2.2.1 (some (.inl (z9.1,z9.2.2.2.1,true,z9.2.2.2.2.1,z9.2.2.2.2.2.1,wrap .i64 (z9.2.2.2.2.2.2.1+1),z9.2.2.2.2.2.2.2.2.1,z9.2.2.2.2.2.2.2.2.2.2.1,()))) (some (.inl (z9.1,z9.2.1,z9.2.2.1,z9.2.2.2.2.1,z9.2.2.2.2.2.1,wrap .i64 (z9.2.2.2.2.2.2.1+1),z9.2.2.2.2.2.2.2.2.1,z9.2.2.2.2.2.2.2.2.2.1,()))))) (some (.inr (s.2.2.2.2.2.2.1,s.2.2.2.2.2.2.2.1,())))
def a5E(x:((List Int)×Int)):Option b0T:= (show Option ((List Int)×c2j)from cond (decide ((x.1.length:Int)<1)) (some (x.1,x.2,true,(0,0,0,0,0,[],a01 3 0,[],[],(0,[],()),[],()),())) (cond (decide ((x.1.length:Int) > 4096)) (some (x.1,x.2,true,(0,0,0,0,0,[],a01 3 0,[],[],(0,[],()),[],()),())) (cond (decide (x.2<0)) (some (x.1,x.2,true,(0,0,0,0,0,[],a01 3 0,[],[],(0,[],()),[],()),())) (some (x.1,x.2,decide (x.2 > 3),(0,0,0,0,0,[],a01 3 0,[],[],(0,[],()),[],()),()))))).bind fun z1=> cond z1.2.2.1 (some ((0,0,0,0,0,[],a01 3 0,[],[],(0,[],()),[],()),1)) ((a2v z1.1).bind fun y2=> cond (!y2) (some ((0,0,0,0,0,[],a01 3 0,[],[],(0,[],()),[],()),6)) ((a3S z1.1).bind fun y3=> (a7s (z1.1,y3)).bind fun y4=> cond (y4.2 != 0) (some ((0,0,0,0,0,[],a01 3 0,[],[],(0,[],()),[],()),y4.2)) ((a6T (y4.1,z1.2.1)).bind fun y5=> (x0r a7A (z1.1,0,false,y5,(y5.length:Int),0,z1.2.2.2.1,(0,0,0,0,0,[],a01 3 0,[],[],(0,[],()),[],()),())).bind fun w10=> some (w10.2.1,0))))
def c0Z:FSem:=⟨[.v QL,.v QI],[.v Q32,.v QI],a5E⟩
def H60:Hints:=⟨[(2042,[.sv 0 QL,.sv 9 QI,.sv 10 .bool,.sv 50 (.list false Q32),.sv 51 QI,.sv 52 QI,.box 4 Q32,.box 8 Q32,.ptr 4 4 [],.ptr 8 8 []],[(.exit 0,[.box 4 Q32,.box 8 Q32,.ptr 4 4 [],.ptr 8 8 []])])],[(6,[(.normal,[.sv 0 QL,.sv 1 QI,.sv 31 .bool,.box 4 Q32,.ptr 4 4 []])]),(1045711,[(.normal,[.sv 0 QL,.sv 9 QI,.sv 10 .bool,.sv 15 QI,.sv 50 (.list false Q32),.sv 51 QI,.sv 52 QI,.sv 76 .bool,.box 4 Q32,.box 8 Q32,.box 13 Q32,.ptr 4 4 [],.ptr 8 8 [],.ptr 13 13 []])])],[]⟩
def a5F(s:(Int×((List (List Int))×(Int×Int×a4I×a9n)))):Option ((Int×((List (List Int))×(Int×Int×a4I×a9n))) ⊕ ((a4I×a9n) ⊕ (Int×a9n))):= cond (decide (s.2.2.2.1<s.2.2.1)) ((l0z s.2.1 s.2.2.2.1).bind fun x8=> (a5E (x8,s.1)).bind fun y9=> cond (y9.2 != 0) (some (.inr (Sum.inr ((y9.2,(0,0,(0,0,0,()),[],[],()),()))))) (cond (lim ((a02 s.2.2.2.2.2.1.2.2.2.2.1)+1)) (some (.inl (s.1,s.2.1,s.2.2.1,wrap .i64 (s.2.2.2.1+1),s.2.2.2.2.1,(s.2.2.2.2.2.1.1,s.2.2.2.2.2.1.2.1,s.2.2.2.2.2.1.2.2.1,s.2.2.2.2.2.1.2.2.2.1,a03 s.2.2.2.2.2.1.2.2.2.2.1 ([y9.1]:List a1E),s.2.2.2.2.2.1.2.2.2.2.2),()))) none)) (some (.inr (Sum.inl (s.2.2.2.2.1,s.2.2.2.2.2.1,()))))
def a6z(x:(Z13×Z7×Int×Int)):Option (a4I×Int):= (show Option (Int×Int×Bool×a4I×Z13×Z7×Unit)from(a7L x.1).bind fun y1=> cond (!y1) (some (x.2.2.1,x.2.2.2,true,(0,0,(0,0,0,()),[],[],()),x.1,x.2.1,())) ((a7o x.2.1).bind fun y2=> cond (!y2) (some (x.2.2.1,x.2.2.2,true,(0,0,(0,0,0,()),[],[],()),x.1,x.2.1,())) (cond (x.1.1 != x.2.1.2.2.1) (some (x.2.2.1,x.2.2.2,true,(0,0,(0,0,0,()),[],[],()),x.1,x.2.1,())) (cond ((x.1.2.1.length:Int) != x.2.1.2.1) (some (x.2.2.1,x.2.2.2,true,(0,0,(0,0,0,()),[],[],()),x.1,x.2.1,())) (cond (decide (x.2.2.2<0)) (some (x.2.2.1,x.2.2.2,true,(0,0,(0,0,0,()),[],[],()),x.1,x.2.1,())) (cond (decide (x.2.2.2 > 3)) (some (x.2.2.1,x.2.2.2,true,(0,0,(0,0,0,()),[],[],()),x.1,x.2.1,())) (some (x.2.2.1,x.2.2.2,decide (x.2.2.1<0),(0,0,(0,0,0,()),[],[],()),x.1,x.2.1,())))))))).bind fun z3=> cond z3.2.2.1 (some ((0,0,(0,0,0,()),[],[],()),1)) ((a5W z3.2.2.2.2.1).bind fun y4=> cond (decide (z3.1 > (wrap .i64 (4194304-y4)))) (some ((0,0,(0,0,0,()),[],[],()),4)) ((show Option (Int×a4I×a4I×Z31)from cond (decide (z3.2.1 > 0)) ((a7N z3.2.2.2.2.1).bind fun y5=> some (z3.2.1,z3.2.2.2.1,(z3.1,y4,z3.2.2.2.2.2.1,y5,[],()),z3.2.2.2.2.1,())) (some (z3.2.1,z3.2.2.2.1,(z3.1,y4,z3.2.2.2.2.2.1,[],[],()),z3.2.2.2.2.1,()))).bind fun z6=> (b2Z (z6.2.2.2.1.2.1,z6.2.2.1.2.2.2.1)).bind fun y7=> cond (y7.2 != 0) (some ((0,0,(0,0,0,()),[],[],()),y7.2)) ((x0r a5F (z6.1,y7.1,(y7.1.length:Int),0,z6.2.1,z6.2.2.1,())).bind fun w10=> match w10 with |.inl a11=>some (a11.2.1,0) |.inr b12=>some (b12.2.1,b12.1))))
def b4E:FSem:=⟨[.v Q11,.v Q9,.v QI,.v QI],[.v Q50,.v QI],a6z⟩
def H18:Hints:=⟨[(2042,[.sv 3 QI,.sv 81 (.list false QL),.sv 82 QI,.sv 83 QI,.box 8 Q50,.box 10 Q49,.ptr 8 8 [],.ptr 10 10 []],[(.exit 0,[.box 8 Q50,.box 10 Q49,.ptr 8 8 [],.ptr 10 10 []]),(.ret,[.sv 9 QI,.box 8 Q50,.ptr 8 8 []])])],[(6,[(.normal,[.sv 2 QI,.sv 3 QI,.sv 51 .bool,.box 8 Q50,.vp 4 Q11,.vp 5 Q9,.ptr 8 8 []])]),(31,[(.normal,[.sv 3 QI,.box 8 Q50,.box 10 Q49,.vp 4 Q11,.ptr 8 8 [],.ptr 10 10 []])])],[(3,[.v,.v,.v,.v,.v,.q,.x])]⟩
def a7B(x:a4I):Option Bool:= (a7o x.2.2.1).bind fun y1=> cond y1 (cond (decide (x.2.1≥1)) (cond (decide (x.2.1≤4096)) (cond (decide (x.1≥0)) (cond (decide (x.1≤(wrap .i64 (4194304-x.2.1)))) ((a8N (x.2.2.2.1,x.2.2.1.2.1)).bind fun y2=> some y2) (some false)) (some false)) (some false)) (some false)) (some false)
def b3x:FSem:=⟨[.v Q50],[.v .bool],a7B⟩
def d6F:Hints:=⟨[],[],[]⟩
def a3r(k:Int)(v:Z7)(s:(Z17×((List (List Int))×Z13))):Option ((Z17×((List (List Int))×Z13)) ⊕ (Ex×(Z17×((List (List Int))×Z13)))):= (a8y (s.2.2.2.1,v,(-1))).bind fun y5=> cond (!y5.1) (some (.inr (.ret,s.1,([]:(List (List Int))),6,y5.2,()))) (some (.inl (s.1,s.2.1,s.2.2.1,y5.2,())))
def b2D(x:((List (List Int))×Z17)):Option ((List (List Int))×Int):= (show Option ((List (List Int))×(Z17×Bool×Z14))from(a7M x.1).bind fun y1=> cond (!y1) (some (x.1,x.2,true,([]:(List (List Int))),0,())) ((a8N (x.2,(x.1.length:Int))).bind fun y2=> some (x.1,x.2,!y2,([]:(List (List Int))),0,()))).bind fun z3=> cond z3.2.2.1 (some (([]:(List (List Int))),1)) ((a7q z3.1).bind fun y4=> cond (lim (a02 z3.2.1)) ((k0w a3r z3.2.1 (a02 z3.2.1) (z3.2.1,z3.2.2.2.1,z3.2.2.2.2.1,y4,())).bind fun w6=> match w6 with |.inl a7=>some (a7.2.2.2.1,0) |.inr (.normal,a8)=>some (a8.2.2.2.1,0) |.inr (.exit e9,a8)=>(cond (e9==0) (some (a8.2.2.2.1,0)) none) |.inr (.ret,a8)=>some (a8.2.1,a8.2.2.1)) none)
def a9E:FSem:=⟨[.v (.list false QL),.v (.list false Q9)],[.v (.list false QL),.v QI],b2D⟩
def d6G:Hints:=⟨[],[(6,[(.normal,[.sv 0 (.list false QL),.sv 1 (.list false Q9),.sv 18 .bool,.box 4 (.list false QL),.box 5 QI,.ptr 4 4 [],.ptr 5 5 []])])],[]⟩
def c9I:Cx:=b0U [(113,b2q),(114,b3S),(115,b3r),(116,b4u)] [(6,.list true (.list true QI))] [0,1] [29]
def d1J:HintR:=⟨21,Q9,186,242,[4,5,6],[.sv 21 (.list false Q9),.box 1001004 (.list false QL),.box 1001005 QI,.box 1001006 (.list true (.list true QI)),.ptr 4 1001004 [],.ptr 5 1001005 [],.ptr 6 1001006 []]⟩
theorem d2z(x):y0f c9I d6G d1J Tryz.f107 a9E.ps a9E.rs x=a9E.F x:=by kernel_rfl
def a4Q(s:(b3n×(Int×(Int×((List (List Int))×c6m))))):Option ((b3n×(Int×(Int×((List (List Int))×c6m)))) ⊕ (((List (List Int))×c6m) ⊕ Z50)):= cond (decide (s.2.2.1<s.2.1)) ((l0z s.1 s.2.2.1).bind fun x3=> (b3b (x3,s.2.2.2.2.2.1.2.1)).bind fun y4=> cond (y4.2 != 0) (some (.inr (Sum.inr ((1,(0,([]:(List (List Int))),()),()))))) (cond (lim ((a02 s.2.2.2.1)+1)) (some (.inl (s.1,s.2.1,wrap .i64 (s.2.2.1+1),a03 s.2.2.2.1 ([y4.1]:List (List Int)),s.2.2.2.2.1,s.2.2.2.2.2.1,()))) none)) (some (.inr (Sum.inl (s.2.2.2.1,s.2.2.2.2.1,s.2.2.2.2.2.1,()))))
def a7C(x:a4I):Option (Z13×Int):= (show Option (Bool×c6m)from(a7B x).bind fun y1=> cond (!y1) (some (true,(0,([]:(List (List Int))),()),x,())) (some ((x.2.2.2.2.1.length:Int) != x.2.2.1.2.1,(0,([]:(List (List Int))),()),x,()))).bind fun z2=> cond z2.1 (some ((0,([]:(List (List Int))),()),1)) (cond ((decide (0≤(z2.2.2.1.2.2.2.2.1.length:Int)))&&(lim (a00 (z2.2.2.1.2.2.2.2.1.length:Int)))) ((x0r a4Q (z2.2.2.1.2.2.2.2.1,(z2.2.2.1.2.2.2.2.1.length:Int),0,([]:(List (List Int))),z2.2.1,z2.2.2.1,())).bind fun w5=> match w5 with |.inl a6=>((b2D (a6.1,a6.2.2.1.2.2.2.1)).bind fun y8=> cond (y8.2 != 0) (some ((0,([]:(List (List Int))),()),1)) ((a7L (a6.2.2.1.2.2.1.2.2.1,y8.1,())).bind fun y9=> cond (!y9) (some ((0,([]:(List (List Int))),()),1)) (some ((a6.2.2.1.2.2.1.2.2.1,y8.1,()),0)))) |.inr b7=>some (b7.2.1,b7.1)) none)
def b3y:FSem:=⟨[.v Q50],[.v Q11,.v QI],a7C⟩
def H50:Hints:=⟨[(122,[.sv 30 (.list false Q32),.sv 31 QI,.sv 32 QI,.own 4 4 QL,.box 2 Q11,.vp 1 Q50,.ptr 2 2 []],[(.exit 0,[.own 4 4 QL,.box 2 Q11,.vp 1 Q50,.ptr 2 2 []]),(.ret,[.sv 3 QI,.box 2 Q11,.ptr 2 2 []])])],[(6,[(.normal,[.sv 23 .bool,.box 2 Q11,.vp 1 Q50,.ptr 2 2 []])])],[]⟩
def a4u(x:a4I):Option Bool:= (a7C x).bind fun y1=> some (y1.2==0)
def b5S:FSem:=⟨[.v Q50],[.v .bool],a4u⟩
def H61:Hints:=⟨[],[],[]⟩
def a3A(s:Z24):Option (Z24 ⊕ Z24):= cond ((a07 s.1.2.1 8) != 0) ((a2i (s.1,0)).bind fun y2=> some (.inl (y2,()))) (some (.inr (s.1,())))
def a5d(x:Z5):Option Z5:= (x0r a3A (x,())).bind fun w3=> some w3.1
def b1Q:FSem:=⟨[.r false (.b Q6)],[],a5d⟩
def H63:Hints:=⟨[(2,[.box pinned Q6,.ptr 0 pinned []],[(.exit 0,[.box pinned Q6])])],[],[]⟩
def a5e(x:Z5):Option ((List Int)×Z5):= cond (lim (a02 x.1)) (some (x.1,x)) none
def b1R:FSem:=⟨[.r false (.b Q6)],[.o (.int .u8)],a5e⟩
def H64:Hints:=⟨[],[],[]⟩
def a8Z(s:Z63):Option (Z63 ⊕ Z63):= cond (decide (s.1≥128)) (cond (lim ((a02 s.2.2.2.2.1)+1)) (some (.inl (wrap .u64 (a05 s.1 128),s.2.1,s.2.2.1,s.2.2.2.1,a03 s.2.2.2.2.1 [wrap .u8 ((wrap .u8 (a07 s.1 128))+128)],()))) none) (some (.inr (s.1,s.2.1,s.2.2.1,s.2.2.2.1,s.2.2.2.2.1,())))
def a9a(s:Z46):Option (Z46 ⊕ ((List Int)×Unit)):= cond (decide (s.2.2.1<s.2.1)) ((l0z s.1 s.2.2.1).bind fun x1=> (x0r a8Z (x1,s.1,s.2.1,s.2.2.1,s.2.2.2.1,())).bind fun w2=> cond (lim ((a02 w2.2.2.2.2.1)+1)) (some (.inl (w2.2.1,w2.2.2.1,wrap .i64 (w2.2.2.2.1+1),a03 w2.2.2.2.2.1 [wrap .u8 w2.1],()))) none) (some (.inr (s.2.2.2.1,())))
def b2E(x:(List Int)):Option (List Int):= (x0r a9a (x,(x.length:Int),0,[],())).bind fun w3=> some w3.1
def b9u:FSem:=⟨[.v (.list false (.int .u64))],[.o (.int .u8)],b2E⟩
def H88:Hints:=⟨[(58,[.sv 6 (.list false (.int .u64)),.sv 7 QI,.sv 8 QI,.own 3 3 (.int .u8)],[(.exit 0,[.own 3 3 (.int .u8)])]),(14948,[.sv 5 (.int .u64),.sv 6 (.list false (.int .u64)),.sv 7 QI,.sv 8 QI,.own 3 3 (.int .u8)],[(.exit 2,[.sv 5 (.int .u64),.sv 6 (.list false (.int .u64)),.sv 7 QI,.sv 8 QI,.own 3 3 (.int .u8)])])],[],[]⟩
def b2F(x:Int):Option Int:= cond (decide (x≥0)) (some (wrap .u64 (2*(wrap .u64 x)))) (some (wrap .u64 ((wrap .u64 (2*(wrap .u64 (wrap .i64 (0-(wrap .i64 (x+1)))))))+1)))
def b9v:FSem:=⟨[.v QI],[.v (.int .u64)],b2F⟩
def d6H:Hints:=⟨[],[],[]⟩
def b1n(s:Z57):Option (Z57 ⊕ Z32):= cond (decide (s.2.2.2.2.1<8)) (cond ((z0h .u8 s.1 7)==1) (some (.inl (bits .u8 .xor (z0g .u8 s.1 1) 7,s.2.1,s.2.2.1,s.2.2.2.1,wrap .i64 (s.2.2.2.2.1+1),()))) (some (.inl (z0g .u8 s.1 1,s.2.1,s.2.2.1,s.2.2.2.1,wrap .i64 (s.2.2.2.2.1+1),())))) (some (.inr (s.1,s.2.1,s.2.2.1,s.2.2.2.1,())))
def a8k(s:Z32):Option Z72:= cond (decide (s.2.2.2.1<s.2.2.1)) ((l0z s.2.1 s.2.2.2.1).bind fun x1=> (x0r b1n (bits .u8 .xor s.1 x1,s.2.1,s.2.2.1,s.2.2.2.1,0,())).bind fun w2=> some (.inl (w2.1,w2.2.1,w2.2.2.1,wrap .i64 (w2.2.2.2.1+1),()))) (some (.inr (s.1,())))
def a8C(x:(List Int)):Option Int:= (x0r a8k (0,x,(x.length:Int),0,())).bind fun w3=> some w3.1
def b4F:FSem:=⟨[.v (.list false (.int .u8))],[.v (.int .u8)],a8C⟩
def d6I:Hints:=⟨[(58,[.sv 3 (.int .u8),.sv 7 (.list false (.int .u8)),.sv 8 QI,.sv 9 QI],[(.exit 0,[.sv 3 (.int .u8)])]),(29902,[.sv 3 (.int .u8),.sv 7 (.list false (.int .u8)),.sv 8 QI,.sv 9 QI,.sv 16 QI],[(.exit 2,[.sv 3 (.int .u8),.sv 7 (.list false (.int .u8)),.sv 8 QI,.sv 9 QI])])],[],[]⟩
def a5G(s:(Int×Z17×Z18)):Option ((Int×Z17×Z18) ⊕ Z4):= cond (decide (s.2.2.2.1<s.2.2.1)) ((l0z s.2.1 s.2.2.2.1).bind fun x1=> (b2F x1.2.2.1).bind fun y2=> cond (lim ((a02 s.2.2.2.2.1)+3)) (some (.inl (s.1,s.2.1,s.2.2.1,wrap .i64 (s.2.2.2.1+1),a03 s.2.2.2.2.1 [wrap .u64 x1.1,wrap .u64 x1.2.1,y2],()))) none) (some (.inr (s.1,s.2.2.2.2.1,())))
def a8l(x:(a4I×Int)):Option (List Int):= (x0r a5G (x.2,x.1.2.2.2.1,(x.1.2.2.2.1.length:Int),0,([wrap .u64 x.1.1,wrap .u64 x.1.2.1,wrap .u64 x.1.2.2.1.1,wrap .u64 x.1.2.2.1.2.1,wrap .u64 x.1.2.2.1.2.2.1,wrap .u64 (x.1.2.2.2.1.length:Int)]:List Int),())).bind fun w3=> cond (lim ((a02 w3.2.1)+1)) ((b2E (a03 w3.2.1 [wrap .u64 w3.1])).bind fun y4=> cond (lim (2+(a02 y4))) ((a8C (a03 [245,75] y4)).bind fun y5=> cond (lim ((a02 (a03 [245,75] y4))+1)) (some (a03 (a03 [245,75] y4) [y5])) none) none) none
def b5j:FSem:=⟨[.v Q50,.v QI],[.o (.int .u8)],a8l⟩
def H65:Hints:=⟨[(58,[.sv 1 QI,.sv 33 (.list false Q9),.sv 34 QI,.sv 35 QI,.own 5 5 (.int .u64)],[(.exit 0,[.sv 1 QI,.own 5 5 (.int .u64)])])],[],[(5,[.q,.q,.q,.v,.q,.q,.v,.q,.q,.v,.q,.x,.x])]⟩
def b3z(x:Int):Option Int:= some (v0a (u0z x 0) 8)
def b7K:FSem:=⟨[.v QI],[.v QI],b3z⟩
def d6J:Hints:=⟨[],[],[]⟩
def a4R(s:Z33):Option (Z33 ⊕ ((List Int)×Unit)):= cond (decide (s.2.2.1<s.2.1)) (cond (lim ((a02 s.2.2.2.1)+1)) (some (.inl (wrap .u64 (a05 s.1 256),s.2.1,wrap .i64 (s.2.2.1+1),a03 s.2.2.2.1 [wrap .u8 (a07 s.1 256)],()))) none) (some (.inr (s.2.2.2.1,())))
def a9Q(x:(Int×Int)):Option (List Int):= (b3z x.2).bind fun y1=> (x0r a4R (x.1,y1,0,[],())).bind fun w2=> some w2.1
def b7L:FSem:=⟨[.v (.int .u64),.v QI],[.o (.int .u8)],a9Q⟩
def d6K:Hints:=⟨[(58,[.sv 0 (.int .u64),.sv 7 QI,.sv 8 QI,.own 5 5 (.int .u8)],[(.exit 0,[.own 5 5 (.int .u8)])])],[],[]⟩
def a3b(x:(List Int)):Option (List Int):= cond (decide (a02 x<2147483648)) (some (List.reverse x)) none
def a6b:FSem:=⟨[.r false (.o (.int .u8))],[],a3b⟩
def b2G(x:(Int×Int)):Option (List Int):= (a9Q (x.1,x.2)).bind fun y1=> (a3b y1).bind fun y2=> some y2
def b9w:FSem:=⟨[.v (.int .u64),.v QI],[.o (.int .u8)],b2G⟩
def H66:Hints:=⟨[],[],[]⟩
def a9p(s:Z57):Option (Z57 ⊕ Z32):= cond (decide (s.2.2.2.2.1<8)) (cond ((z0h .u16 s.1 15)==1) (some (.inl (bits .u16 .xor (z0g .u16 s.1 1) 32773,s.2.1,s.2.2.1,s.2.2.2.1,wrap .i64 (s.2.2.2.2.1+1),()))) (some (.inl (z0g .u16 s.1 1,s.2.1,s.2.2.1,s.2.2.2.1,wrap .i64 (s.2.2.2.2.1+1),())))) (some (.inr (s.1,s.2.1,s.2.2.1,s.2.2.2.1,())))
def a6g(s:Z32):Option Z72:= cond (decide (s.2.2.2.1<s.2.2.1)) ((l0z s.2.1 s.2.2.2.1).bind fun x1=> (x0r a9p (bits .u16 .xor s.1 (z0g .u16 (wrap .u16 x1) 8),s.2.1,s.2.2.1,s.2.2.2.1,0,())).bind fun w2=> some (.inl (w2.1,w2.2.1,w2.2.2.1,wrap .i64 (w2.2.2.2.1+1),()))) (some (.inr (s.1,())))
def a4G(x:(List Int)):Option Int:= (x0r a6g (0,x,(x.length:Int),0,())).bind fun w3=> some w3.1
def b1Z:FSem:=⟨[.v (.list false (.int .u8))],[.v (.int .u16)],a4G⟩
def H67:Hints:=⟨[(58,[.sv 3 (.int .u16),.sv 7 (.list false (.int .u8)),.sv 8 QI,.sv 9 QI],[(.exit 0,[.sv 3 (.int .u16)])]),(29902,[.sv 3 (.int .u16),.sv 7 (.list false (.int .u8)),.sv 8 QI,.sv 9 QI,.sv 18 QI],[(.exit 2,[.sv 3 (.int .u16),.sv 7 (.list false (.int .u8)),.sv 8 QI,.sv 9 QI])])],[],[]⟩
def a9b(s:(b3n×Int×Int×Z5×a9n)):Option ((b3n×Int×Int×Z5×a9n) ⊕ ((Z5×a9n) ⊕ Z4)):= cond (decide (s.2.2.1<s.2.1)) ((l0z s.1 s.2.2.1).bind fun x2=> (b0N (s.2.2.2.1,x2,s.2.2.2.2.1.2.1)).bind fun y3=> cond (y3.1 != 0) (some (.inr (Sum.inr ((y3.1,[],()))))) (some (.inl (s.1,s.2.1,wrap .i64 (s.2.2.1+1),y3.2,s.2.2.2.2.1,())))) (some (.inr (Sum.inl (s.2.2.2.1,s.2.2.2.2.1,()))))
def a9F(x:a4I):Option ((List Int)×Int):= (a4u x).bind fun y1=> cond (!y1) (some ([],1)) ((x0r a9b (x.2.2.2.2.1,(x.2.2.2.2.1.length:Int),0,([],0,()),x,())).bind fun w4=> match w4 with |.inl a5=>((a5d a5.1).bind fun y7=> (a5e y7).bind fun y8=> (a8l (a5.2.1,(y8.1.length:Int))).bind fun y9=> cond (lim ((a02 y9)+(a02 y8.1))) ((a4G (a03 y9 y8.1)).bind fun y10=> (b2G (wrap .u64 y10,2)).bind fun y11=> cond (lim ((a02 (a03 y9 y8.1))+(a02 y11))) (some (a03 (a03 y9 y8.1) y11,0)) none) none) |.inr b6=>some (b6.2.1,b6.1))
def b5T:FSem:=⟨[.v Q50],[.o (.int .u8),.v QI],a9F⟩
def H19:Hints:=⟨[(122,[.sv 14 (.list false Q32),.sv 15 QI,.sv 16 QI,.box 4 Q6,.vp 1 Q50,.ptr 4 4 []],[(.exit 0,[.box 4 Q6,.vp 1 Q50,.ptr 4 4 []]),(.ret,[.sv 3 QI,.own 2 2 (.int .u8)])])],[],[]⟩
def b2H(x:(List Int)):Option Z16:= cond (lim (a02 x)) (some (x,0,0,())) none
def b9x:FSem:=⟨[.v (.list false (.int .u8))],[.b Q12],b2H⟩
def d6L:Hints:=⟨[],[],[]⟩
def a6h(s:Z32):Option (Z32 ⊕ (Unit ⊕ Z7)):= cond (decide (s.2.2.2.1<s.2.2.1)) ((l0z s.2.1 s.2.2.2.1).bind fun x1=> (show Option (Int×Int×Int×Z36)from cond (s.2.2.2.1==9) (cond (decide (x1 > 1)) (some (s.1,s.2.2.2.1,x1,s.2.1,s.2.2.1,s.2.2.2.1,true,())) (cond (decide (s.2.2.2.1 > 0)) (some (s.1,s.2.2.2.1,x1,s.2.1,s.2.2.1,s.2.2.2.1,x1==0,())) (some (s.1,s.2.2.2.1,x1,s.2.1,s.2.2.1,s.2.2.2.1,false,())))) (cond (decide (s.2.2.2.1 > 0)) (some (s.1,s.2.2.2.1,x1,s.2.1,s.2.2.1,s.2.2.2.1,x1==0,())) (some (s.1,s.2.2.2.1,x1,s.2.1,s.2.2.1,s.2.2.2.1,false,())))).bind fun z2=> cond z2.2.2.2.2.2.2.1 (some (.inr (Sum.inr ((0,0,2,()))))) (cond (decide ((wrap .i64 (7*z2.2.1))<0)) none (cond (decide (z2.2.2.1<128)) (some (.inr (Sum.inr ((bits .u64 .or z2.1 (z0g .u64 (wrap .u64 (a07 z2.2.2.1 128)) (wrap .i64 (7*z2.2.1))),wrap .i64 (z2.2.1+1),0,()))))) (some (.inl (bits .u64 .or z2.1 (z0g .u64 (wrap .u64 (a07 z2.2.2.1 128)) (wrap .i64 (7*z2.2.1))),z2.2.2.2.1,z2.2.2.2.2.1,wrap .i64 (z2.2.2.2.2.2.1+1),())))))) (some (.inr (Sum.inl ())))
def a9c(x:(List Int)):Option (Int×Int×Int):= (x0r a6h (0,x,(x.length:Int),0,())).bind fun w3=> match w3 with |.inl a4=>some (0,0,3) |.inr b5=>some (b5.1,b5.2.1,b5.2.2.1)
def b6i:FSem:=⟨[.v (.list false (.int .u8))],[.v (.int .u64),.v QI,.v QI],a9c⟩
def d6M:Hints:=⟨[(58,[.sv 5 (.int .u64),.sv 8 (.list false (.int .u8)),.sv 9 QI,.sv 10 QI],[(.exit 0,[]),(.ret,[.sv 2 (.int .u64),.sv 3 QI,.sv 4 QI])])],[(7474,[(.normal,[.sv 5 (.int .u64),.sv 6 QI,.sv 7 (.int .u8),.sv 8 (.list false (.int .u8)),.sv 9 QI,.sv 10 QI,.sv 28 .bool])])],[]⟩
def a0Z(x:Z35):Option Z32:= cond (x.1.2.2.1 != 0) (some (0,x.1)) (cond ((decide (0≤x.1.2.1))&&(decide (x.1.2.1≤(x.1.1.length:Int)))) ((a9c (a16 (a00 x.1.2.1) (a06 (a02 x.1.1) x.1.1))).bind fun y1=> (show Option Z90 from cond (y1.2.2==0) (cond (decide (y1.1 > x.2)) (some (y1.1,y1.2.1,4,x.1,())) (some (y1.1,y1.2.1,y1.2.2,x.1,()))) (some (y1.1,y1.2.1,y1.2.2,x.1,()))).bind fun z2=> cond (z2.2.2.1 != 0) (some (0,z2.2.2.2.1.1,z2.2.2.2.1.2.1,z2.2.2.1,z2.2.2.2.1.2.2.2)) (some (z2.1,z2.2.2.2.1.1,wrap .i64 (z2.2.2.2.1.2.1+z2.2.1),z2.2.2.2.1.2.2))) none)
def b3c:FSem:=⟨[.r false (.b Q12),.v (.int .u64)],[.v (.int .u64)],a0Z⟩
def d6N:Hints:=⟨[],[(15,[(.normal,[.sv 5 (.int .u64),.sv 6 QI,.sv 7 QI,.box pinned Q12,.ptr 0 pinned []])])],[(3,[.p,.p,.q,.q,.p,.p,.q,.q,.x,.x,.x,.v,.v,.v,.v,.v,.x])]⟩
def b2I(x:Int):Option Int:= cond ((a07 x 2)==0) (some (wrap .i64 (wrap .u64 (a05 x 2)))) (some (wrap .i64 ((wrap .i64 (0-(wrap .i64 (wrap .u64 (a05 x 2)))))-1)))
def b9y:FSem:=⟨[.v (.int .u64)],[.v QI],b2I⟩
def d6O:Hints:=⟨[],[],[]⟩
def a8D(x:Z16):Option Z32:= some (x.2.2.1,x)
def b3d:FSem:=⟨[.r false (.b Q12)],[.v QI],a8D⟩
def d6P:Hints:=⟨[],[],[]⟩
def a7Z(x:Z16):Option Z32:= some (wrap .i64 ((x.1.length:Int)-x.2.1),x)
def b1S:FSem:=⟨[.r false (.b Q12)],[.v QI],a7Z⟩
def d6Q:Hints:=⟨[],[],[(1,[.p,.p,.q,.q,.v,.p,.p,.q,.q,.x,.x])]⟩
def a9q(x:Z16):Option Z32:= some (x.2.1,x)
def b3L:FSem:=⟨[.r false (.b Q12)],[.v QI],a9q⟩
def d6R:Hints:=⟨[],[],[]⟩
def a5H(s:((List Int)×(Int×Int×c2l))):Option (((List Int)×(Int×Int×c2l)) ⊕ ((List Int)×c2l)):= cond (decide (s.2.2.1<s.2.1)) ((a0Z (s.2.2.2.2.1,7)).bind fun y11=> (a0Z (y11.2,7)).bind fun y12=> (a0Z (y12.2,2048)).bind fun y13=> (b2I y13.1).bind fun y14=> cond (lim ((a02 s.2.2.2.1.2.2.2.1)+1)) (some (.inl (s.1,s.2.1,wrap .u64 (s.2.2.1+1),(s.2.2.2.1.1,s.2.2.2.1.2.1,s.2.2.2.1.2.2.1,a03 s.2.2.2.1.2.2.2.1 ([(wrap .i64 y11.1,wrap .i64 y12.1,y14,())]:List Z7),s.2.2.2.1.2.2.2.2),y13.2,()))) none) (some (.inr (s.1,s.2.2.2.1,s.2.2.2.2.1,())))
def a5I(x:(List Int)):Option (a4I×Int×Int×Int):= cond (decide ((x.length:Int)<2)) (some ((0,0,(0,0,0,()),[],[],()),0,0,3)) ((show Option ((List Int)×(Bool×a9n))from(l0z x 0).bind fun x1=> cond (x1 != 245) (some (x,true,(0,0,(0,0,0,()),[],[],()),())) ((l0z x 1).bind fun x2=> some (x,x2 != 75,(0,0,(0,0,0,()),[],[],()),()))).bind fun z3=> cond z3.2.1 (some ((0,0,(0,0,0,()),[],[],()),0,0,2)) (cond (decide (2≤(z3.1.length:Int))) ((b2H (a16 2 (a06 (a02 z3.1) z3.1))).bind fun y4=> (a0Z (y4,4194304)).bind fun y5=> (a0Z (y5.2,4096)).bind fun y6=> (a0Z (y6.2,1048576)).bind fun y7=> (a0Z (y7.2,8)).bind fun y8=> (a0Z (y8.2,24)).bind fun y9=> (a0Z (y9.2,16)).bind fun y10=> (x0r a5H (z3.1,y10.1,0,(wrap .i64 y5.1,wrap .i64 y6.1,(wrap .i64 y7.1,wrap .i64 y8.1,wrap .i64 y9.1,z3.2.2.1.2.2.1.2.2.2),z3.2.2.1.2.2.2),y10.2,())).bind fun w15=> (a0Z (w15.2.2.1,1048576)).bind fun y16=> (a8D y16.2).bind fun y17=> cond (y17.1 != 0) (some ((0,0,(0,0,0,()),[],[],()),0,0,y17.1)) ((a7Z y17.2).bind fun y18=> cond (decide (y18.1<1)) (some ((0,0,(0,0,0,()),[],[],()),0,0,3)) ((a9q y18.2).bind fun y19=> cond ((decide (0≤(wrap .i64 (2+y19.1))))&&(decide ((wrap .i64 (2+y19.1))≤(w15.1.length:Int)))) ((a8C (a06 (a00 (wrap .i64 (2+y19.1))) w15.1)).bind fun y20=> (l0z w15.1 (wrap .i64 (2+y19.1))).bind fun x21=> cond (y20 != x21) (some ((0,0,(0,0,0,()),[],[],()),0,0,5)) ((a7B w15.2.1).bind fun y22=> cond (!y22) (some ((0,0,(0,0,0,()),[],[],()),0,0,2)) (some (w15.2.1,wrap .i64 ((wrap .i64 (2+y19.1))+1),wrap .i64 y16.1,0)))) none))) none))
def b1o:FSem:=⟨[.v (.list false (.int .u8))],[.v (.pair QI (.pair QI (.pair Q9 (.pair (.list false Q9) Q33)))),.v QI,.v QI,.v QI],a5I⟩
def H71:Hints:=⟨[(8186,[.sv 0 (.list false (.int .u8)),.sv 54 (.int .u64),.sv 55 (.int .u64),.box 2 Q48,.box 1029 Q12,.ptr 2 2 [],.ptr 6 1029 []],[(.exit 0,[.sv 0 (.list false (.int .u8)),.box 2 Q48,.box 1029 Q12,.ptr 2 2 [],.ptr 6 1029 []])])],[(14,[(.normal,[.sv 0 (.list false (.int .u8)),.sv 25 .bool,.box 2 Q48,.ptr 2 2 []])])],[(25,[.v,.v,.v,.v,.v,.v,.v,.v,.x])]⟩
def b3Y(x:(List Int)):Option Z16:= cond (lim (a02 x)) (some (x,0,0,())) none
def c1a:FSem:=⟨[.v (.list false (.int .u8))],[.b Q12],b3Y⟩
def H72:Hints:=⟨[],[],[]⟩
def a0P(x:Z16):Option Z32:= some (x.2.2.1,x)
def a2j:FSem:=⟨[.r false (.b Q12)],[.v QI],a0P⟩
def H76:Hints:=⟨[],[],[]⟩
def a2F(x:Z16):Option Z32:= some (wrap .i64 ((wrap .i64 (8*(x.1.length:Int)))-x.2.1),x)
def a8E:FSem:=⟨[.r false (.b Q12)],[.v QI],a2F⟩
def H74:Hints:=⟨[],[],[(1,[.p,.p,.q,.q,.v,.v,.p,.p,.q,.q,.x,.x])]⟩
def a1G(x:Z35):Option Z32:= (l0z x.1.1 (wrap .i64 (a05 x.2 8))).bind fun x1=> cond (decide ((wrap .i64 (7-(a07 x.2 8)))<0)) none (some (bits .u8 .and (z0h .u8 x1 (wrap .i64 (7-(a07 x.2 8)))) 1,x.1))
def a5J:FSem:=⟨[.r false (.b Q12),.v QI],[.v (.int .u8)],a1G⟩
def d6S:Hints:=⟨[],[],[]⟩
def a4q(s:Z90):Option (Z90 ⊕ Z60):= cond (decide (s.2.2.1<s.2.1)) ((a1G (s.2.2.2.1,s.2.2.2.1.2.1)).bind fun y3=> some (.inl (bits .u64 .or (z0g .u64 s.1 1) (wrap .u64 y3.1),s.2.1,wrap .i64 (s.2.2.1+1),(y3.2.1,wrap .i64 (y3.2.2.1+1),y3.2.2.2),()))) (some (.inr (s.1,s.2.2.2.1,())))
def a0I(x:Z35):Option Z32:= cond (x.1.2.2.1 != 0) (some (0,x.1)) ((show Option Z74 from cond (decide (x.2<0)) (some (x.2,true,x.1,())) (some (x.2,decide (x.2 > 64),x.1,()))).bind fun z1=> cond z1.2.1 (some (0,z1.2.2.1.1,z1.2.2.1.2.1,1,z1.2.2.1.2.2.2)) ((a2F z1.2.2.1).bind fun y2=> cond (decide (z1.1 > y2.1)) (some (0,y2.2.1,y2.2.2.1,3,y2.2.2.2.2)) ((x0r a4q (0,z1.1,0,y2.2,())).bind fun w4=> some (w4.1,w4.2.1))))
def a2k:FSem:=⟨[.r false (.b Q12),.v QI],[.v (.int .u64)],a0I⟩
def d6T:Hints:=⟨[(506,[.sv 5 (.int .u64),.sv 27 QI,.sv 28 QI,.box pinned Q12,.ptr 0 pinned []],[(.exit 0,[.sv 5 (.int .u64),.box pinned Q12])])],[(14,[(.normal,[.sv 1 QI,.sv 16 .bool,.box pinned Q12,.ptr 0 pinned []])])],[]⟩
def a1c(x:Z35):Option Z32:= (a0I (x.1,x.2)).bind fun y1=> (show Option (Int×Z74)from cond (y1.2.2.2.1 != 0) (some (x.2,y1.1,true,y1.2,())) (some (x.2,y1.1,x.2==0,y1.2,()))).bind fun z2=> cond z2.2.2.1 (some (0,z2.2.2.2.1)) (cond (decide ((wrap .i64 (64-z2.1))<0)) none (cond (decide ((wrap .i64 (64-z2.1))<0)) none (some (z0h .i64 (wrap .i64 (z0g .u64 z2.2.1 (wrap .i64 (64-z2.1)))) (wrap .i64 (64-z2.1)),z2.2.2.2.1))))
def a2Q:FSem:=⟨[.r false (.b Q12),.v QI],[.v QI],a1c⟩
def d6U:Hints:=⟨[],[(14,[(.normal,[.sv 1 QI,.sv 5 (.int .u64),.sv 17 .bool,.box pinned Q12])])],[]⟩
def a6i(s:(Int×c2k)):Option ((Int×c2k) ⊕ (Int×c6k)):= cond (decide (s.2.2.1<s.2.1)) ((a1c (s.2.2.2.1,s.1)).bind fun y4=> cond (lim ((a02 s.2.2.2.2.1.2.2.2.2.2.1)+1)) (some (.inl (s.1,s.2.1,wrap .i64 (s.2.2.1+1),y4.2,(s.2.2.2.2.1.1,s.2.2.2.2.1.2.1,s.2.2.2.2.1.2.2.1,s.2.2.2.2.1.2.2.2.1,s.2.2.2.2.1.2.2.2.2.1,a03 s.2.2.2.2.1.2.2.2.2.2.1 [y4.1],s.2.2.2.2.1.2.2.2.2.2.2),()))) none) (some (.inr (s.1,s.2.2.2.2.1,s.2.2.2.1,())))
def a9d(x:(Z16×a1E)):Option (Bool×Z16×a1E):= (a0I (x.1,5)).bind fun y1=> (a0I (y1.2,4)).bind fun y2=> (a0I (y2.2,5)).bind fun y3=> (x0r a6i (wrap .i64 y3.1,wrap .i64 ((wrap .i64 y1.1)+1),0,y3.2,(x.2.1,x.2.2.1,x.2.2.2.1,wrap .i64 y2.1,x.2.2.2.2.2),())).bind fun w5=> (a1w w5.2.1.2.2.2.2.2.1).bind fun y6=> some (y6==w5.1,w5.2.2.1,w5.2.1)
def b6j:FSem:=⟨[.r false (.b Q12),.r false (.b Q31)],[.v .bool],a9d⟩
def d6V:Hints:=⟨[(250,[.sv 6 QI,.sv 20 QI,.sv 21 QI,.box pinned Q12,.box 1000001 Q31,.ptr 0 pinned [],.ptr 1 1000001 []],[(.exit 0,[.sv 6 QI,.box 1000001 Q31,.box pinned Q12,.ptr 1 1000001 []])])],[],[(6,[.p,.p,.p,.r [26,1000001],.r [27,1000001],.p,.v,.w [30,1030,pinned],.q,.a [31,32,1000001],.x,.x,.x])]⟩
def a3s(s:c2k):Option (c2k ⊕ c8E):= cond (decide (s.2.1<3)) ((a1c (s.2.2.1,8)).bind fun y6=> cond ((decide (0≤s.2.1))&&(decide (s.2.1<3))) (some (.inl (s.1,wrap .i64 (s.2.1+1),y6.2,(s.2.2.2.1.1,s.2.2.2.1.2.1,s.2.2.2.1.2.2.1,s.2.2.2.1.2.2.2.1,s.2.2.2.1.2.2.2.2.1,s.2.2.2.1.2.2.2.2.2.1,a08 s.2.2.2.1.2.2.2.2.2.2.1 (a00 s.2.1) y6.1,s.2.2.2.1.2.2.2.2.2.2.2),()))) none) (some (.inr (s.1,s.2.2.1,s.2.2.2.1,())))
def a6X(s:(Int×Bool×c2k)):Option ((Int×Bool×c2k) ⊕ (Int×Bool×c6k)):= cond (decide (s.2.2.2.1<s.2.2.1)) ((a0I (s.2.2.2.2.1,5)).bind fun y15=> (a0I (y15.2,4)).bind fun y16=> cond (lim ((a02 s.2.2.2.2.2.1.2.2.2.2.2.2.2.1)+1)) (some (.inl (s.1,s.2.1,s.2.2.1,wrap .u64 (s.2.2.2.1+1),y16.2,(s.2.2.2.2.2.1.1,s.2.2.2.2.2.1.2.1,s.2.2.2.2.2.1.2.2.1,s.2.2.2.2.2.1.2.2.2.1,s.2.2.2.2.2.1.2.2.2.2.1,s.2.2.2.2.2.1.2.2.2.2.2.1,s.2.2.2.2.2.1.2.2.2.2.2.2.1,a03 s.2.2.2.2.2.1.2.2.2.2.2.2.2.1 ([(wrap .i64 ((wrap .i64 y15.1)+1),wrap .i64 y16.1,())]:List (Int×Int×Unit)),s.2.2.2.2.2.1.2.2.2.2.2.2.2.2),()))) none) (some (.inr (s.1,s.2.1,s.2.2.2.2.2.1,s.2.2.2.2.1,())))
def a9R(x:Z16):Option (a1E×Int×Bool×Z16):= (a0I (x,3)).bind fun y1=> (a0I (y1.2,5)).bind fun y2=> (a0I (y2.2,5)).bind fun y3=> (show Option (Int×Bool×c6k)from(show Option (c8E ⊕ ((Int×Bool×c6k) ⊕ (Int×Bool×d1C)))from cond ((wrap .i64 y1.1)==2) ((a0I (y3.2,3)).bind fun y4=> some (Sum.inr (Sum.inl (wrap .i64 y3.1,true,(wrap .i64 y1.1,wrap .i64 y2.1,wrap .i64 y4.1,0,0,[],a01 3 0,[],[],(0,[],()),[],()),y4.2,())))) (cond ((wrap .i64 y1.1)==4) ((a0I (y3.2,10)).bind fun y5=> (x0r a3s (wrap .i64 y3.1,0,y5.2,(wrap .i64 y1.1,wrap .i64 y2.1,0,0,wrap .i64 ((wrap .i64 y5.1)+1),[],a01 3 0,[],[],(0,[],()),[],()),())).bind fun w7=> some (Sum.inl (w7.1,w7.2.1,w7.2.2.1,()))) (cond ((wrap .i64 y1.1)==3) (some (Sum.inl (wrap .i64 y3.1,y3.2,(wrap .i64 y1.1,wrap .i64 y2.1,0,0,0,[],a01 3 0,[],[],(0,[],()),[],()),()))) (cond ((wrap .i64 y1.1)==5) (some (Sum.inr (Sum.inr ((wrap .i64 y3.1,true,y3.2,(wrap .i64 y1.1,wrap .i64 y2.1,0,0,0,[],a01 3 0,[],[],(0,[],()),[],()),()))))) (some (Sum.inr (Sum.inl (wrap .i64 y3.1,true,(wrap .i64 y1.1,wrap .i64 y2.1,0,0,0,[],a01 3 0,[],[],(0,[],()),[],()),y3.2,())))))))).bind fun z8=> match z8 with |.inl a9=>((a9d (a9.2.1,a9.2.2.1)).bind fun y11=> some (a9.1,y11.1,y11.2.2,y11.2.1,())) |.inr b10=>(match b10 with |.inl a12=>some (a12.1,a12.2.1,a12.2.2.1,a12.2.2.2.1,()) |.inr b13=>((a0I (b13.2.2.1,2)).bind fun y14=> (x0r a6X (b13.1,b13.2.1,y14.1,0,y14.2,b13.2.2.2.1,())).bind fun w17=> some (w17.1,w17.2.1,w17.2.2.1,w17.2.2.2.1,())))).bind fun z18=> some (z18.2.2.1,z18.1,z18.2.1,z18.2.2.2.1)
def b7M:FSem:=⟨[.r false (.b Q12)],[.v (.pair QI (.pair QI (.pair QI (.pair QI (.pair QI (.pair QL (.pair (.arr 3 QI) (.pair (.list false Q4) Q15)))))))),.v QI,.v .bool],a9R⟩
def d6W:Hints:=⟨[(8106,[.sv 3 QI,.sv 4 .bool,.sv 50 (.int .u64),.sv 51 (.int .u64),.box pinned Q12,.box 2 Q31,.ptr 0 pinned [],.ptr 2 2 []],[(.exit 7,[.sv 3 QI,.sv 4 .bool,.box 2 Q31,.box pinned Q12,.ptr 2 2 []])]),(129550,[.sv 3 QI,.sv 38 QI,.box pinned Q12,.box 2 Q31,.ptr 0 pinned [],.ptr 2 2 []],[(.exit 5,[.sv 3 QI,.box pinned Q12,.box 2 Q31,.ptr 0 pinned [],.ptr 2 2 []])])],[(63,[(.normal,[.sv 3 QI,.sv 4 .bool,.box 2 Q31,.box pinned Q12,.ptr 2 2 []])]),(2024,[(.normal,[.sv 3 QI,.box pinned Q12,.box 2 Q31,.ptr 0 pinned [],.ptr 2 2 []]),(.exit 0,[.sv 3 QI,.sv 4 .bool,.box 2 Q31,.box pinned Q12,.ptr 2 2 []]),(.exit 4,[.sv 3 QI,.sv 4 .bool,.box pinned Q12,.box 2 Q31,.ptr 0 pinned [],.ptr 2 2 []])])],[]⟩
def a3B(s:Z90):Option (Z90 ⊕ Z60):= cond (s.2.2.1==(wrap .i64 (8*(s.2.2.2.1.1.length:Int)))) (some (.inr (0,(s.2.2.2.1.1,s.2.2.2.1.2.1,3,s.2.2.2.1.2.2.2),()))) ((a1G (s.2.2.2.1,s.2.2.1)).bind fun y2=> cond (y2.1==1) (some (.inr (s.2.1,(y2.2.1,wrap .i64 (s.2.2.1+1),y2.2.2.2),()))) (cond (s.2.1==s.1) (some (.inr (0,(y2.2.1,y2.2.2.1,2,y2.2.2.2.2),()))) (some (.inl (s.1,wrap .i64 (s.2.1+1),wrap .i64 (s.2.2.1+1),y2.2,())))))
def a1N(x:Z35):Option Z32:= cond (x.1.2.2.1 != 0) (some (0,x.1)) ((x0r a3B (u0z x.2 0,0,x.1.2.1,x.1,())).bind fun w3=> some (w3.1,w3.2.1))
def b1T:FSem:=⟨[.r false (.b Q12),.v QI],[.v QI],a1N⟩
def d6X:Hints:=⟨[(62,[.sv 1 QI,.sv 5 QI,.sv 6 QI,.box pinned Q12,.ptr 0 pinned []],[(.ret,[.sv 4 QI,.box pinned Q12])])],[],[(4,[.p,.p,.q,.q,.v,.x])]⟩
def a7D(x:Int):Option Int:= cond (decide (x≥2147483648)) (some 0) (cond ((a07 x 2)==0) (some (wrap .i64 (wrap .u64 (a05 x 2)))) (some (wrap .i64 ((wrap .i64 (0-(wrap .i64 (wrap .u64 (a05 x 2)))))-1))))
def b7N:FSem:=⟨[.v (.int .u64)],[.v QI],a7D⟩
def d6Y:Hints:=⟨[],[],[]⟩
def b3Z(x:Z35):Option Z51:= (a1N (x.1,32)).bind fun y1=> (a0P y1.2).bind fun y2=> cond (y2.1 != 0) ((a0P y2.2).bind fun y3=> some (0,y3.1,y3.2)) (cond (decide ((wrap .u64 y1.1)<32)) ((a0I (y2.2,x.2)).bind fun y4=> cond (decide (x.2<0)) none ((a7D (wrap .u64 ((z0g .u64 (wrap .u64 y1.1) x.2)+y4.1))).bind fun y5=> (a0P y4.2).bind fun y6=> some (y5,y6.1,y6.2))) ((a0I (y2.2,32)).bind fun y7=> (a0P y7.2).bind fun y8=> cond (y8.1 != 0) ((a0P y8.2).bind fun y9=> some (0,y9.1,y9.2)) ((show Option Z74 from cond (decide (y7.1≥2147483648)) (some (y7.1,true,y8.2,())) (cond (decide (x.2<0)) none (some (y7.1,decide ((z0h .u64 y7.1 x.2)<32),y8.2,())))).bind fun z10=> cond z10.2.1 (some (0,2,z10.2.2.1)) ((a7D z10.1).bind fun y11=> some (y11,0,z10.2.2.1)))))
def c1b:FSem:=⟨[.r false (.b Q12),.v QI],[.v QI,.v QI],b3Z⟩
def d6Z:Hints:=⟨[],[(254,[(.normal,[.sv 8 (.int .u64),.sv 44 .bool,.box pinned Q12])])],[]⟩
def a9S(s:c6c):Option (c6c ⊕ (Z71 ⊕ Z87)):= cond (decide (s.2.2.1<s.2.1)) ((b3Z (s.2.2.2.2.1,s.1)).bind fun y5=> cond (y5.2.1 != 0) (some (.inr (Sum.inr ((y5.2.1,[],y5.2.2,()))))) (cond (lim ((a02 s.2.2.2.1)+1)) (some (.inl (s.1,s.2.1,wrap .i64 (s.2.2.1+1),a03 s.2.2.2.1 [y5.1],y5.2.2,()))) none)) (some (.inr (Sum.inl (s.2.2.2.1,s.2.2.2.2.1,()))))
def b4a(x:(Z16×Int×Int)):Option Z64:= (show Option (Int×Z74)from(a1U x.2.1).bind fun y1=> cond (!y1) (some (x.2.1,x.2.2,true,x.1,())) (cond (decide (x.2.2<0)) (some (x.2.1,x.2.2,true,x.1,())) (some (x.2.1,x.2.2,decide (x.2.2 > 4194304),x.1,())))).bind fun z2=> cond z2.2.2.1 (some ([],1,z2.2.2.2.1)) ((a0P z2.2.2.2.1).bind fun y3=> cond (y3.1 != 0) ((a0P y3.2).bind fun y4=> some ([],y4.1,y4.2)) ((x0r a9S (z2.1,z2.2.1,0,[],y3.2,())).bind fun w6=> match w6 with |.inl a7=>some (a7.1,0,a7.2.1) |.inr b8=>some (b8.2.1,b8.1,b8.2.2.1)))
def c1c:FSem:=⟨[.r false (.b Q12),.v QI,.v QI],[.o QI,.v QI],b4a⟩
def d7a:Hints:=⟨[(250,[.sv 1 QI,.sv 27 QI,.sv 28 QI,.own 8 8 QI,.box pinned Q12,.ptr 0 pinned []],[(.exit 0,[.own 8 8 QI,.box pinned Q12]),(.ret,[.sv 7 QI,.own 6 6 QI,.box pinned Q12])])],[(6,[(.normal,[.sv 1 QI,.sv 2 QI,.sv 21 .bool,.box pinned Q12,.ptr 0 pinned []])])],[]⟩
def a9e(s:(Int×c6c)):Option ((Int×c6c) ⊕ Z96):= cond (decide (s.2.2.2.1<s.2.2.1)) ((a1c (s.2.2.2.2.2.1,s.2.1)).bind fun y6=> cond (lim ((a02 s.2.2.2.2.1)+1)) (some (.inl (s.1,s.2.1,s.2.2.1,wrap .i64 (s.2.2.2.1+1),a03 s.2.2.2.2.1 [y6.1],y6.2,()))) none) (some (.inr (s.1,s.2.1,s.2.2.2.2.1,s.2.2.2.2.2.1,())))
def b2J(x:Z35):Option (Int×Z64):= (a0I (x.1,5)).bind fun y1=> (a0P y1.2).bind fun y2=> cond (y2.1 != 0) ((a0P y2.2).bind fun y3=> some (0,[],y3.1,y3.2)) (cond (decide ((wrap .i64 y1.1)≤25)) ((b4a (y2.2,wrap .i64 y1.1,x.2)).bind fun y4=> some (wrap .i64 y1.1,y4.1,y4.2.1,y4.2.2)) (cond ((wrap .i64 y1.1) != 31) (some (0,[],2,y2.2)) ((a0I (y2.2,5)).bind fun y5=> (x0r a9e (wrap .i64 y1.1,wrap .i64 y5.1,x.2,0,[],y5.2,())).bind fun w7=> (a0P w7.2.2.2.1).bind fun y8=> cond (y8.1 != 0) ((a0P y8.2).bind fun y9=> some (0,[],y9.1,y9.2)) ((a1w w7.2.2.1).bind fun y10=> cond (y10 != w7.2.1) (some (0,[],2,y8.2)) (some (w7.1,w7.2.2.1,0,y8.2))))))
def b9z:FSem:=⟨[.r false (.b Q12),.v QI],[.v QI,.o QI,.v QI],b2J⟩
def d7b:Hints:=⟨[(2042,[.sv 7 QI,.sv 10 QI,.sv 37 QI,.sv 38 QI,.own 11 11 QI,.box pinned Q12,.ptr 0 pinned []],[(.exit 0,[.sv 7 QI,.sv 10 QI,.own 11 11 QI,.box pinned Q12,.ptr 0 pinned []])])],[],[]⟩
def a9f(s:(Int×(Int×((List Int)×((List Int)×(Z16×Z88)))))):Option ((Int×(Int×((List Int)×((List Int)×(Z16×Z88))))) ⊕ (((List Int)×(Z4×Z4×Z40)) ⊕ (Int×((List Int)×(Z4×Z40))))):= cond (decide (s.2.1<s.1)) (cond ((decide (0≤s.2.1))&&(decide (s.2.1<(s.2.2.2.1.length:Int)))) ((b2J (s.2.2.2.2.1,a04 s.2.2.2.1 (a00 s.2.1) 0)).bind fun y6=> cond (y6.2.2.1 != 0) (some (.inr (Sum.inr ((y6.2.2.1,[],(0,[],()),y6.2.2.2,()))))) (cond (lim ((a02 s.2.2.2.2.2.2.1.2.1)+1)) (cond (lim ((a02 s.2.2.1)+(a02 y6.2.1))) (some (.inl (s.1,wrap .i64 (s.2.1+1),a03 s.2.2.1 y6.2.1,s.2.2.2.1,y6.2.2.2,s.2.2.2.2.2.1,(s.2.2.2.2.2.2.1.1,a03 s.2.2.2.2.2.2.1.2.1 [y6.1],s.2.2.2.2.2.2.1.2.2),()))) none) none)) none) (some (.inr (Sum.inl (s.2.2.1,s.2.2.2.2.2.1,s.2.2.2.2.2.2.1,s.2.2.2.2.1,()))))
def b2K(x:(Z16×Int×Int)):Option (Z4×Z64):= (a7Q (x.2.1,x.2.2)).bind fun y1=> cond (!y1) (some ((0,[],()),[],1,x.1)) ((a0I (x.1,4)).bind fun y2=> (a0P y2.2).bind fun y3=> cond (y3.1 != 0) ((a0P y3.2).bind fun y4=> some ((0,[],()),[],y4.1,y4.2)) ((a2Z (wrap .i64 y2.1,x.2.1,x.2.2)).bind fun y5=> cond ((y5.length:Int)==0) (some ((0,[],()),[],2,y3.2)) ((x0r a9f ((y5.length:Int),0,[],y5,y3.2,(0,[],()),(wrap .i64 y2.1,[],()),())).bind fun w7=> match w7 with |.inl a8=>some (a8.2.2.1,a8.1,0,a8.2.2.2.1) |.inr b9=>some (b9.2.2.1,b9.2.1,b9.1,b9.2.2.2.1))))
def b9A:FSem:=⟨[.r false (.b Q12),.v QI,.v QI],[.v Q8,.o QI,.v QI],b2K⟩
def d7c:Hints:=⟨[(4090,[.sv 43 QI,.sv 44 QI,.own 12 12 QI,.own 42 10 QI,.box pinned Q12,.box 6 Q8,.box 11 Q7,.ptr 0 pinned [],.ptr 6 6 [],.ptr 11 11 []],[(.exit 0,[.own 12 12 QI,.box 6 Q8,.box 11 Q7,.box pinned Q12,.ptr 6 6 [],.ptr 11 11 []]),(.ret,[.sv 8 QI,.own 7 7 QI,.box 6 Q8,.box pinned Q12,.ptr 6 6 []])])],[],[]⟩
def b1p(s:(Int×Int×Bool×Int×Int×Z16×b1W)):Option ((Int×Int×Bool×Int×Int×Z16×b1W) ⊕ (Int×Int×Bool×Z16×b1W)):= cond (decide (s.2.2.2.2.1<s.2.2.2.1)) ((a1c (s.2.2.2.2.2.1,s.2.1)).bind fun y7=> cond (lim ((a02 s.2.2.2.2.2.2.2.1.2.2.2.2.2.2.2.2.1)+1)) (some (.inl (s.1,s.2.1,s.2.2.1,s.2.2.2.1,wrap .i64 (s.2.2.2.2.1+1),y7.2,s.2.2.2.2.2.2.1,(s.2.2.2.2.2.2.2.1.1,s.2.2.2.2.2.2.2.1.2.1,s.2.2.2.2.2.2.2.1.2.2.1,s.2.2.2.2.2.2.2.1.2.2.2.1,s.2.2.2.2.2.2.2.1.2.2.2.2.1,s.2.2.2.2.2.2.2.1.2.2.2.2.2.1,s.2.2.2.2.2.2.2.1.2.2.2.2.2.2.1,s.2.2.2.2.2.2.2.1.2.2.2.2.2.2.2.1,a03 s.2.2.2.2.2.2.2.1.2.2.2.2.2.2.2.2.1 [y7.1],s.2.2.2.2.2.2.2.1.2.2.2.2.2.2.2.2.2),()))) none) (some (.inr (s.1,s.2.1,s.2.2.1,s.2.2.2.2.2.1,s.2.2.2.2.2.2.1,s.2.2.2.2.2.2.2.1,())))
def b3e(x:Z35):Option (a1E×Z32):= cond (decide (x.2<1)) (some ((0,0,0,0,0,[],a01 3 0,[],[],(0,[],()),[],()),1,x.1)) (cond (decide (x.2 > 4096)) (some ((0,0,0,0,0,[],a01 3 0,[],[],(0,[],()),[],()),1,x.1)) ((a0P x.1).bind fun y1=> cond (y1.1 != 0) (some ((0,0,0,0,0,[],a01 3 0,[],[],(0,[],()),[],()),y1.1,y1.2)) ((a9R y1.2).bind fun y2=> (a0P y2.2.2.2).bind fun y3=> cond (y3.1 != 0) (some ((0,0,0,0,0,[],a01 3 0,[],[],(0,[],()),[],()),y3.1,y3.2)) ((a8A (y2.1.1,y2.1,x.2)).bind fun y4=> cond (!y4) (some ((0,0,0,0,0,[],a01 3 0,[],[],(0,[],()),[],()),2,y3.2)) ((a4M (y2.1,x.2)).bind fun y5=> (x0r b1p (x.2,y2.2.1,y2.2.2.1,y5,0,y3.2,(0,0,0,0,0,[],a01 3 0,[],[],(0,[],()),[],()),y2.1,())).bind fun w8=> (a0P w8.2.2.2.1).bind fun y9=> cond (y9.1 != 0) (some ((0,0,0,0,0,[],a01 3 0,[],[],(0,[],()),[],()),y9.1,y9.2)) ((a6y w8.2.2.2.2.2.1.1).bind fun y10=> cond y10 ((b2K (y9.2,w8.1,(w8.2.2.2.2.2.1.2.2.2.2.2.2.2.2.1.length:Int))).bind fun y11=> cond (y11.2.2.1 != 0) (some ((0,0,0,0,0,[],a01 3 0,[],[],(0,[],()),[],()),y11.2.2.1,y11.2.2.2)) (cond (!w8.2.2.1) (some ((0,0,0,0,0,[],a01 3 0,[],[],(0,[],()),[],()),2,y11.2.2.2)) ((a1w w8.2.2.2.2.2.1.2.2.2.2.2.2.2.2.1).bind fun y12=> cond (y12 != w8.2.1) (some ((0,0,0,0,0,[],a01 3 0,[],[],(0,[],()),[],()),2,y11.2.2.2)) ((b0M ((w8.2.2.2.2.2.1.1,w8.2.2.2.2.2.1.2.1,w8.2.2.2.2.2.1.2.2.1,w8.2.2.2.2.2.1.2.2.2.1,w8.2.2.2.2.2.1.2.2.2.2.1,w8.2.2.2.2.2.1.2.2.2.2.2.1,w8.2.2.2.2.2.1.2.2.2.2.2.2.1,w8.2.2.2.2.2.1.2.2.2.2.2.2.2.1,w8.2.2.2.2.2.1.2.2.2.2.2.2.2.2.1,y11.1,y11.2.1,w8.2.2.2.2.2.1.2.2.2.2.2.2.2.2.2.2.2),w8.1)).bind fun y13=> cond (!y13) (some ((0,0,0,0,0,[],a01 3 0,[],[],(0,[],()),[],()),2,y11.2.2.2)) (some ((w8.2.2.2.2.2.1.1,w8.2.2.2.2.2.1.2.1,w8.2.2.2.2.2.1.2.2.1,w8.2.2.2.2.2.1.2.2.2.1,w8.2.2.2.2.2.1.2.2.2.2.1,w8.2.2.2.2.2.1.2.2.2.2.2.1,w8.2.2.2.2.2.1.2.2.2.2.2.2.1,w8.2.2.2.2.2.1.2.2.2.2.2.2.2.1,w8.2.2.2.2.2.1.2.2.2.2.2.2.2.2.1,y11.1,y11.2.1,w8.2.2.2.2.2.1.2.2.2.2.2.2.2.2.2.2.2),0,y11.2.2.2)))))) (cond (!w8.2.2.1) (some ((0,0,0,0,0,[],a01 3 0,[],[],(0,[],()),[],()),2,y9.2)) ((a1w w8.2.2.2.2.2.1.2.2.2.2.2.2.2.2.1).bind fun y14=> cond (y14 != w8.2.1) (some ((0,0,0,0,0,[],a01 3 0,[],[],(0,[],()),[],()),2,y9.2)) ((b0M (w8.2.2.2.2.2.1,w8.1)).bind fun y15=> cond (!y15) (some ((0,0,0,0,0,[],a01 3 0,[],[],(0,[],()),[],()),2,y9.2)) (some (w8.2.2.2.2.2.1,0,y9.2)))))))))))
def c2M:FSem:=⟨[.r false (.b Q12),.v QI],[.v Q32,.v QI],b3e⟩
def H73:Hints:=⟨[(1018,[.sv 1 QI,.sv 8 QI,.sv 9 .bool,.sv 47 QI,.sv 48 QI,.box pinned Q12,.box 4 Q32,.box 7 (.pair QI (.pair QI (.pair QI (.pair QI (.pair QI (.pair QL (.pair (.arr 3 QI) (.pair (.list false Q4) (.pair (.list true QI) Q14))))))))),.ptr 0 pinned [],.ptr 4 4 [],.ptr 7 7 []],[(.exit 0,[.sv 1 QI,.sv 8 QI,.sv 9 .bool,.box pinned Q12,.box 4 Q32,.box 7 (.pair QI (.pair QI (.pair QI (.pair QI (.pair QI (.pair QL (.pair (.arr 3 QI) (.pair (.list false Q4) (.pair (.list true QI) Q14))))))))),.ptr 0 pinned [],.ptr 4 4 [],.ptr 7 7 []])])],[],[(14,[.r [7,50],.r [7,51],.p,.v,.w [54,1054,pinned],.q,.x,.x,.x])]⟩
def a3C(s:Z73):Option (Z73 ⊕ (Z60 ⊕ Z40)):= cond (decide (s.2.1<s.1)) ((a1G (s.2.2.1,s.2.1)).bind fun y1=> cond (y1.1==1) (some (.inr (Sum.inr (((y1.2.1,y1.2.2.1,2,y1.2.2.2.2),()))))) (some (.inl (s.1,wrap .i64 (s.2.1+1),y1.2,())))) (some (.inr (Sum.inl (s.1,s.2.2.1,()))))
def a5f(x:Z16):Option Z16:= cond (x.2.2.1 != 0) (some x) ((x0r a3C (wrap .i64 ((wrap .i64 (a05 (wrap .i64 (x.2.1+7)) 8))*8),x.2.1,x,())).bind fun w2=> match w2 with |.inl a3=>some (a3.2.1.1,a3.1,a3.2.1.2.2) |.inr b4=>some b4.1)
def b1U:FSem:=⟨[.r false (.b Q12)],[],a5f⟩
def H75:Hints:=⟨[(58,[.sv 2 QI,.sv 3 QI,.box pinned Q12,.ptr 0 pinned []],[(.exit 0,[.sv 2 QI,.box pinned Q12,.ptr 0 pinned []]),(.ret,[.box pinned Q12])])],[],[]⟩
def a8m(s:(Int×Int×Int×a4I×c2l)):Option ((Int×Int×Int×a4I×c2l) ⊕ ((Int×a4I×c2l) ⊕ (Int×Int×a9n))):= cond (decide (s.2.2.1<s.2.1)) ((b3e (s.2.2.2.2.2.1,s.2.2.2.2.1.2.1)).bind fun y7=> cond (y7.2.1 != 0) (some (.inr (Sum.inr ((0,2,(0,0,(0,0,0,()),[],[],()),()))))) (cond (lim ((a02 s.2.2.2.2.1.2.2.2.2.1)+1)) (some (.inl (s.1,s.2.1,wrap .i64 (s.2.2.1+1),s.2.2.2.1,(s.2.2.2.2.1.1,s.2.2.2.2.1.2.1,s.2.2.2.2.1.2.2.1,s.2.2.2.2.1.2.2.2.1,a03 s.2.2.2.2.1.2.2.2.2.1 ([y7.1]:List a1E),s.2.2.2.2.1.2.2.2.2.2),y7.2.2,()))) none)) (some (.inr (Sum.inl (s.1,s.2.2.2.1,s.2.2.2.2.1,s.2.2.2.2.2.1,()))))
def a4S(x:(List Int)):Option (a4I×Int×Int):= (a5I x).bind fun y1=> cond (y1.2.2.2 != 0) (some ((0,0,(0,0,0,()),[],[],()),0,y1.2.2.2)) (cond (decide ((x.length:Int)<(wrap .i64 ((wrap .i64 (y1.2.1+y1.2.2.1))+2)))) (some ((0,0,(0,0,0,()),[],[],()),0,3)) (cond ((decide (0≤(wrap .i64 (y1.2.1+y1.2.2.1))))&&(decide ((wrap .i64 (y1.2.1+y1.2.2.1))≤(x.length:Int)))) ((a4G (a06 (a00 (wrap .i64 (y1.2.1+y1.2.2.1))) x)).bind fun y2=> (l0z x (wrap .i64 (y1.2.1+y1.2.2.1))).bind fun x3=> (l0z x (wrap .i64 ((wrap .i64 (y1.2.1+y1.2.2.1))+1))).bind fun x4=> cond (y2 != (bits .u16 .or (z0g .u16 (wrap .u16 x3) 8) (wrap .u16 x4))) (some ((0,0,(0,0,0,()),[],[],()),0,5)) (cond ((decide (0≤(wrap .i64 (y1.2.1+y1.2.2.1))))&&(decide ((wrap .i64 (y1.2.1+y1.2.2.1))≤(x.length:Int)))) (cond ((decide (0≤y1.2.1))&&(decide (y1.2.1≤((a00 (wrap .i64 (y1.2.1+y1.2.2.1)):Nat):Int)))) ((b3Y (a16 (a00 y1.2.1) (a06 (a00 (wrap .i64 (y1.2.1+y1.2.2.1))) x))).bind fun y5=> (x0r a8m (wrap .i64 (y1.2.1+y1.2.2.1),y1.1.2.2.1.2.1,0,(0,0,(0,0,0,()),[],[],()),y1.1,y5,())).bind fun w8=> match w8 with |.inl a9=>((a2F a9.2.2.2.1).bind fun y11=> cond (decide (y11.1≥8)) (some ((0,0,(0,0,0,()),[],[],()),0,2)) ((a5f y11.2).bind fun y12=> (a0P y12).bind fun y13=> cond (y13.1 != 0) (some ((0,0,(0,0,0,()),[],[],()),0,2)) ((a4u a9.2.2.1).bind fun y14=> cond (!y14) (some ((0,0,(0,0,0,()),[],[],()),0,2)) (some (a9.2.2.1,wrap .i64 (a9.1+2),0))))) |.inr b10=>some (b10.2.2.1,b10.1,b10.2.1)) none) none)) none))
def a8F:FSem:=⟨[.v (.list false (.int .u8))],[.v Q50,.v QI,.v QI],a4S⟩
def H21:Hints:=⟨[(2042,[.sv 9 QI,.sv 59 QI,.sv 60 QI,.box 2 Q50,.box 5 Q49,.box 1056 Q12,.ptr 2 2 [],.ptr 5 5 [],.ptr 10 1056 []],[(.exit 0,[.sv 9 QI,.box 2 Q50,.box 5 Q49,.box 1056 Q12,.ptr 2 2 [],.ptr 5 5 [],.ptr 10 1056 []]),(.ret,[.sv 3 QI,.sv 4 QI,.box 2 Q50,.ptr 2 2 []])])],[],[(7,[.v,.v,.v,.v,.v,.v,.v,.v,.v,.v,.v,.v,.v,.v,.v,.v,.v,.x])]⟩
def H82:Hints:=⟨[(58,[.sv 0 (.list false Q9),.sv 1 (.list false Q9),.sv 5 QI],[(.exit 0,[]),(.ret,[.sv 4 .bool])])],[],[(6,[.v,.v,.v,.v,.v,.v,.v,.v,.x])]⟩
def c1d(x:(Z17×Z17)):Option Bool:=z0c (b0U [] [] [0,1,4,5] []) H82 Tryz.f82 [.v (.list false Q9),.v (.list false Q9)] [.v .bool] x
def b1q:FSem:=⟨[.v (.list false Q9),.v (.list false Q9)],[.v .bool],c1d⟩
def a4T(s:((List Int)×Z5)):Option (((List Int)×Z5) ⊕ Z0):= cond (decide (s.2.2.1<(s.1.length:Int))) ((l0z s.1 s.2.2.1).bind fun x1=> (l0z s.2.1 s.2.2.1).bind fun x2=> cond (x1 != x2) (some (.inr (Sum.inr ((false,()))))) (some (.inl (s.1,s.2.1,wrap .i64 (s.2.2.1+1),())))) (some (.inr (Sum.inl ())))
def a4e(x:((List Int)×(List Int))):Option Bool:= cond ((x.1.length:Int) != (x.2.length:Int)) (some false) ((x0r a4T (x.1,x.2,0,())).bind fun w3=> match w3 with |.inl a4=>some true |.inr b5=>some b5.1)
def a7E:FSem:=⟨[.v QL,.v QL],[.v .bool],a4e⟩
def H35:Hints:=⟨[(58,[.sv 0 QL,.sv 1 QL,.sv 5 QI],[(.exit 0,[]),(.ret,[.sv 4 .bool])])],[],[(6,[.v,.v,.v,.v,.v,.v,.v,.v,.x])]⟩
def a3k(s:(Z6×Z41)):Option ((Z6×Z41) ⊕ Z0):= cond (decide (s.2.2.1<(s.1.length:Int))) ((l0z s.1 s.2.2.1).bind fun x1=> (l0z s.2.1 s.2.2.1).bind fun x2=> cond (!(eqT Q4 x1 x2)) (some (.inr (Sum.inr ((false,()))))) (some (.inl (s.1,s.2.1,wrap .i64 (s.2.2.1+1),())))) (some (.inr (Sum.inl ())))
def a6Y(x:(Z6×Z6)):Option Bool:= cond ((x.1.length:Int) != (x.2.length:Int)) (some false) ((x0r a3k (x.1,x.2,0,())).bind fun w3=> match w3 with |.inl a4=>some true |.inr b5=>some b5.1)
def b4G:FSem:=⟨[.v (.list false Q4),.v (.list false Q4)],[.v .bool],a6Y⟩
def d7d:Hints:=⟨[(58,[.sv 0 (.list false Q4),.sv 1 (.list false Q4),.sv 5 QI],[(.exit 0,[]),(.ret,[.sv 4 .bool])])],[],[(6,[.v,.v,.v,.v,.v,.v,.v,.v,.x])]⟩
def b2a(x:(Z4×Z4)):Option Bool:= cond (x.1.1==x.2.1) ((a4e (x.1.2.1,x.2.2.1)).bind fun y1=> some y1) (some false)
def b6k:FSem:=⟨[.v Q8,.v Q8],[.v .bool],b2a⟩
def d7e:Hints:=⟨[],[],[]⟩
def a9T(x:(a1E×a1E)):Option Bool:= cond (x.1.1==x.2.1) (cond (x.1.2.1==x.2.2.1) (cond (x.1.2.2.1==x.2.2.2.1) (cond (x.1.2.2.2.1==x.2.2.2.2.1) (cond (x.1.2.2.2.2.1==x.2.2.2.2.2.1) ((a4e (x.1.2.2.2.2.2.1,x.2.2.2.2.2.2.1)).bind fun y1=> cond y1 (cond (eqT (.arr 3 (.int .i64)) x.1.2.2.2.2.2.2.1 x.2.2.2.2.2.2.2.1) ((a6Y (x.1.2.2.2.2.2.2.2.1,x.2.2.2.2.2.2.2.2.1)).bind fun y2=> cond y2 ((a4e (x.1.2.2.2.2.2.2.2.2.1,x.2.2.2.2.2.2.2.2.2.1)).bind fun y3=> cond y3 ((b2a (x.1.2.2.2.2.2.2.2.2.2.1,x.2.2.2.2.2.2.2.2.2.2.1)).bind fun y4=> cond y4 ((a4e (x.1.2.2.2.2.2.2.2.2.2.2.1,x.2.2.2.2.2.2.2.2.2.2.2.1)).bind fun y5=> some y5) (some false)) (some false)) (some false)) (some false)) (some false)) (some false)) (some false)) (some false)) (some false)) (some false)
def a9U:FSem:=⟨[.v Q32,.v Q32],[.v .bool],a9T⟩
def H83:Hints:=⟨[],[],[]⟩
def H24:Hints:=⟨[(58,[.sv 5 QI,.vp 2 Q50,.vp 3 Q50],[(.exit 0,[]),(.ret,[.sv 4 .bool])])],[(6,[(.normal,[.sv 41 .bool,.vp 2 Q50,.vp 3 Q50])])],[(6,[.v,.v,.v,.v,.v,.v,.v,.v,.v,.v,.x,.x])]⟩
def b5k(x:(a4I×a4I)):Option Bool:=z0c (b0U [(82,b1q),(83,a9U)] [] [0,1,4,5] [2,3]) H24 Tryz.f24 [.v Q50,.v Q50] [.v .bool] x
def b5l:FSem:=⟨[.v Q50,.v Q50],[.v .bool],b5k⟩
def b8o(x:(List Int)):Option (Z7×Int×Int×Int):= (a5I x).bind fun y1=> cond (y1.2.2.2 != 0) (some ((0,0,0,()),0,0,y1.2.2.2)) (some (y1.1.2.2.1,y1.1.1,y1.1.2.1,0))
def b8p:FSem:=⟨[.v (.list false (.int .u8))],[.v Q9,.v QI,.v QI,.v QI],b8o⟩
def H51:Hints:=⟨[],[],[(4,[.q,.q,.r [6,23],.r [6,24],.r [6,25],.r [6,26],.w [0,2],.v,.x,.x])]⟩
def d1K:Hints:=⟨[(58,[.sv 0 (.list false QL),.sv 1 (.list false QL),.sv 5 QI],[(.exit 0,[]),(.ret,[.sv 4 .bool])])],[],[(6,[.v,.v,.v,.v,.v,.v,.v,.v,.x,.x])]⟩
def b6l(x:((List (List Int))×(List (List Int)))):Option Bool:=z0c (b0U [(35,a7E)] [] [0,1,4,5] []) d1K Tryz.f108 [.v (.list false (.list false (.int .i64))),.v (.list false (.list false (.int .i64)))] [.v .bool] x
def b6m:FSem:=⟨[.v (.list false QL),.v (.list false QL)],[.v .bool],b6l⟩
def b5m(x:(Z13×Z13)):Option Bool:= cond (x.1.1==x.2.1) ((b6l (x.1.2.1,x.2.2.1)).bind fun y1=> some y1) (some false)
def b5n:FSem:=⟨[.v Q11,.v Q11],[.v .bool],b5m⟩
def H52:Hints:=⟨[],[],[]⟩
def H53:Hints:=⟨[(26,[.sv 0 (.list false (.int .u8)),.sv 5 QI],[(.exit 0,[]),(.ret,[.sv 4 QI])])],[],[]⟩
def b8q(x:((List Int)×Int)):Option Int:=z0c (b0U [(21,a8F)] [] [0,1,4,5,7,8] []) H53 Tryz.f53 [.v (.list false (.int .u8)),.v (.int .i64)] [.v (.int .i64)] x
def b8r:FSem:=⟨[.v (.list false (.int .u8)),.v QI],[.v QI],b8q⟩
def b5U(x:Unit):Option Bool:= (a6z ((8,([[3,3],[3,3]]:List (List Int)),()),(8000,2,8,()),5,0)).bind fun y1=> (a9F y1.1).bind fun y2=> (a4S y2.1).bind fun y3=> (a7C y3.1).bind fun y4=> (b8o y2.1).bind fun y5=> cond (y1.2==0) (cond (y2.2==0) (cond (y3.2.2==0) (cond (y4.2==0) (cond (y5.2.2.2==0) (cond (y3.2.1==(y2.1.length:Int)) ((b5k (y1.1,y3.1)).bind fun y6=> cond y6 ((b5m ((8,([[3,3],[3,3]]:List (List Int)),()),y4.1)).bind fun y7=> cond y7 (cond (eqT Q9 y5.1 ((8000: Int),(2: Int),(8: Int),())) (cond (y5.2.1==5) (cond (y5.2.2.1==2) (cond (lim (2+(a02 y2.1))) ((b8q (a03 [1,245] y2.1,0)).bind fun y8=> cond (y8==2) (cond (decide ((y2.1.length:Int) > 2)) ((l0z y2.1 0).bind fun x9=> cond (x9==245) ((l0z y2.1 1).bind fun x10=> some (x10==75)) (some false)) (some false)) (some false)) none) (some false)) (some false)) (some false)) (some false)) (some false)) (some false)) (some false)) (some false)) (some false)) (some false)) (some false)
def b9B:FSem:=⟨[],[.v .bool],b5U⟩
def H15:Hints:=⟨[],[],[]⟩
def a7F(s:Z68):Option (Z68 ⊕ Z0):= cond (decide (s.2.1<(s.2.2.1.2.1.length:Int))) ((l0z s.2.2.1.2.1 s.2.1).bind fun x1=> cond (decide ((x1.length:Int) > s.1)) (some (.inr (Sum.inr ((false,()))))) (some (.inl (s.1,wrap .i64 (s.2.1+1),s.2.2.1,())))) (some (.inr (Sum.inl ())))
def b4b(x:(Z13×Int)):Option Bool:= cond (decide ((x.1.2.1.length:Int) > 12)) (some false) ((x0r a7F (x.2,0,x.1,())).bind fun w2=> match w2 with |.inl a3=>some true |.inr b4=>some b4.1)
def c1e:FSem:=⟨[.v Q11,.v QI],[.v .bool],b4b⟩
def H16:Hints:=⟨[(58,[.sv 1 QI,.sv 5 QI,.vp 2 Q11],[(.exit 0,[]),(.ret,[.sv 4 .bool])])],[],[]⟩
def a6A(s:Z14):Option (Z14 ⊕ Z0):= cond (decide (s.2.1<(s.1.length:Int))) ((l0z s.1 s.2.1).bind fun x2=> (l0z s.1 0).bind fun x3=> cond ((x2.length:Int) != (x3.length:Int)) (some (.inr (Sum.inr ((false,()))))) (some (.inl (s.1,wrap .i64 (s.2.1+1),())))) (some (.inr (Sum.inl ())))
def b2L(x:(List (List Int))):Option Bool:= (show Option ((List (List Int))×(Bool×Unit))from cond (decide ((x.length:Int)<1)) (some (x,true,())) (some (x,decide ((x.length:Int) > 8),()))).bind fun z1=> cond z1.2.1 (some false) ((x0r a6A (z1.1,0,())).bind fun w4=> match w4 with |.inl a5=>some true |.inr b6=>some b6.1)
def b9C:FSem:=⟨[.v (.list false QL)],[.v .bool],b2L⟩
def H54:Hints:=⟨[(58,[.sv 0 (.list false QL),.sv 3 QI],[(.exit 0,[]),(.ret,[.sv 2 .bool])])],[(6,[(.normal,[.sv 0 (.list false QL),.sv 11 .bool])])],[(6,[.v,.v,.v,.v,.v,.v,.v,.v,.v,.x])]⟩
def b9Y(x:Int):Option Int:= (show Option (Int×Bool×Unit)from cond (decide (x<1)) (some (x,true,())) (some (x,decide (x > 31),()))).bind fun z1=> cond z1.2.1 (some 0) (cond (decide ((wrap .u64 (wrap .i64 (z1.1-1)))<0)) none (some (z0g .i64 (-1) (wrap .u64 (wrap .i64 (z1.1-1))))))
def c4b:FSem:=⟨[.v QI],[.v QI],b9Y⟩
def d7f:Hints:=⟨[],[(6,[(.normal,[.sv 0 QI,.sv 8 .bool])])],[]⟩
def b8s(x:Int):Option Int:= (show Option (Int×Bool×Unit)from cond (decide (x<1)) (some (x,true,())) (some (x,decide (x > 31),()))).bind fun z1=> cond z1.2.1 (some 0) (cond (decide ((wrap .u64 (wrap .i64 (z1.1-1)))<0)) none (some (wrap .i64 ((z0g .i64 1 (wrap .u64 (wrap .i64 (z1.1-1))))-1))))
def c2N:FSem:=⟨[.v QI],[.v QI],b8s⟩
def d7g:Hints:=⟨[],[(6,[(.normal,[.sv 0 QI,.sv 8 .bool])])],[]⟩
def b0O(x:(Int×Int)):Option Bool:= cond (decide (x.2≥1)) (cond (decide (x.2≤31)) ((b9Y x.2).bind fun y1=> cond (decide (x.1≥y1)) ((b8s x.2).bind fun y2=> some (decide (x.1≤y2))) (some false)) (some false)) (some false)
def b8t:FSem:=⟨[.v QI,.v QI],[.v .bool],b0O⟩
def H55:Hints:=⟨[],[],[]⟩
def a2X(s:Z68):Option (Z68 ⊕ (Z50 ⊕ (Bool×Unit))):= (l0z s.2.2.1.2.1 s.1).bind fun x5=> cond (decide (s.2.1<(x5.length:Int))) ((l0z s.2.2.1.2.1 s.1).bind fun x6=> (l0z x6 s.2.1).bind fun x7=> (b0O (x7,s.2.2.1.1)).bind fun y8=> cond (!y8) (some (.inr (Sum.inr ((false,()))))) (some (.inl (s.1,wrap .i64 (s.2.1+1),s.2.2.1,())))) (some (.inr (Sum.inl (s.1,s.2.2.1,()))))
def a4m(s:Z50):Option (Z50 ⊕ Z0):= cond (decide (s.1<(s.2.1.2.1.length:Int))) ((x0r a2X (s.1,0,s.2.1,())).bind fun w9=> match w9 with |.inl a10=>some (.inl (wrap .i64 (a10.1+1),a10.2.1,())) |.inr b11=>some (.inr (Sum.inr ((b11.1,()))))) (some (.inr (Sum.inl ())))
def a6B(x:Z13):Option Bool:= (show Option Z58 from cond (decide (x.1<4)) (some (true,x,())) (cond (decide (x.1 > 24)) (some (true,x,())) ((b2L x.2.1).bind fun y1=> cond (!y1) (some (true,x,())) ((l0z x.2.1 0).bind fun x2=> cond (decide ((x2.length:Int)<1)) (some (true,x,())) ((l0z x.2.1 0).bind fun x3=> some (decide ((x3.length:Int) > 4096),x,())))))).bind fun z4=> cond z4.1 (some false) ((x0r a4m (0,z4.2.1,())).bind fun w12=> match w12 with |.inl a13=>some true |.inr b14=>some b14.1)
end Go.Ab
namespace Go.Ab
open IntKind(wrap)
open Go.Proofs
set_option maxRecDepth 100000
set_option linter.unusedVariables false
def b6n:FSem:=⟨[.v Q11],[.v .bool],a6B⟩
def H17:Hints:=⟨[(58,[.sv 3 QI,.vp 1 Q11],[(.exit 0,[]),(.ret,[.sv 2 .bool])]),(3730,[.sv 3 QI,.sv 4 QI,.vp 1 Q11],[(.exit 2,[.sv 3 QI,.vp 1 Q11]),(.ret,[.sv 2 .bool])])],[(6,[(.normal,[.sv 34 .bool,.vp 1 Q11])])],[(9,[.v,.v,.v,.v,.v,.v,.v,.v,.v,.v,.x,.x])]⟩
def a7G(x:Int):Option Bool:= cond (decide (x≥2)) (some (decide (x≤5))) (some false)
def b3A:FSem:=⟨[.v QI],[.v .bool],a7G⟩
def d7h:Hints:=⟨[],[],[]⟩
def a2G(x:Int):Option Bool:= cond (decide (x≥(-1073741824))) (some (decide (x<1073741824))) (some false)
def a4v:FSem:=⟨[.v QI],[.v .bool],a2G⟩
def d7i:Hints:=⟨[],[],[]⟩
def a5K(s:Z5):Option (Z5 ⊕ Z0):= cond (decide (s.2.1<(s.1.length:Int))) ((l0z s.1 s.2.1).bind fun x1=> (a2G x1).bind fun y2=> cond (!y2) (some (.inr (Sum.inr ((false,()))))) (some (.inl (s.1,wrap .i64 (s.2.1+1),())))) (some (.inr (Sum.inl ())))
def a1D(x:(List Int)):Option Bool:= (x0r a5K (x,0,())).bind fun w3=> match w3 with |.inl a4=>some true |.inr b5=>some b5.1
def a3H:FSem:=⟨[.v QL],[.v .bool],a1D⟩
def d7j:Hints:=⟨[(26,[.sv 0 QL,.sv 3 QI],[(.exit 0,[]),(.ret,[.sv 2 .bool])])],[],[]⟩
def a3I(s:Z16):Option (Z16 ⊕ (Z5 ⊕ (Bool×Unit))):= cond (decide (s.2.2.1<(s.1.length:Int))) ((show Option Z36 from(l0z s.1 s.2.2.1).bind fun x1=> cond (decide (x1<(-32768))) (some (s.1,s.2.1,s.2.2.1,true,())) ((l0z s.1 s.2.2.1).bind fun x2=> some (s.1,s.2.1,s.2.2.1,decide (x2≥32768),()))).bind fun z3=> cond z3.2.2.2.1 (some (.inr (Sum.inr ((false,()))))) (some (.inl (z3.1,z3.2.1,wrap .i64 (z3.2.2.1+1),())))) (some (.inr (Sum.inl (s.1,s.2.1,()))))
def a3U(x:((List Int)×Int)):Option Bool:= (x0r a3I (x.1,x.2,0,())).bind fun w4=> match w4 with |.inl a5=>(cond (decide ((a5.1.length:Int)≥1)) (cond (decide ((a5.1.length:Int)≤32)) (cond (decide (a5.2.1≥0)) (some (decide (a5.2.1≤15))) (some false)) (some false)) (some false)) |.inr b6=>some b6.1
def a8n:FSem:=⟨[.v QL,.v QI],[.v .bool],a3U⟩
def d7k:Hints:=⟨[(26,[.sv 0 QL,.sv 1 QI,.sv 5 QI],[(.exit 0,[.sv 0 QL,.sv 1 QI]),(.ret,[.sv 4 .bool])])],[(420,[(.normal,[.sv 0 QL,.sv 1 QI,.sv 5 QI,.sv 23 .bool])])],[]⟩
def a4U(s:Z18):Option (Z18 ⊕ ((Int×Unit) ⊕ (Bool×Unit))):= cond (decide (s.2.1<3)) ((show Option Z37 from(l0z s.2.2.1 s.2.1).bind fun x1=> cond (decide (x1<(-64))) (some (s.1,s.2.1,true,s.2.2.1,())) ((l0z s.2.2.1 s.2.1).bind fun x2=> some (s.1,s.2.1,decide (x2 > 64),s.2.2.1,()))).bind fun z3=> cond z3.2.2.1 (some (.inr (Sum.inr ((false,()))))) (some (.inl (z3.1,wrap .i64 (z3.2.1+1),z3.2.2.2.1,())))) (some (.inr (Sum.inl (s.1,()))))
def a7H(x:(Int×(List Int))):Option Bool:= (x0r a4U (x.1,0,x.2,())).bind fun w4=> match w4 with |.inl a5=>(cond (decide (a5.1≥2)) (some (decide (a5.1≤1024))) (some false)) |.inr b6=>some b6.1
def b3B:FSem:=⟨[.v QI,.v (.arr 3 QI)],[.v .bool],a7H⟩
def d7l:Hints:=⟨[(26,[.sv 0 QI,.sv 5 QI,.vp 3 (.arr 3 QI)],[(.exit 0,[.sv 0 QI]),(.ret,[.sv 4 .bool])])],[(420,[(.normal,[.sv 0 QI,.sv 5 QI,.sv 19 .bool,.vp 3 (.arr 3 QI)])])],[]⟩
def a6C(x:(Int×Int×Unit)):Option Bool:= cond (decide (x.1≥1)) (cond (decide (x.1≤32)) (cond (decide (x.2.1≥0)) (some (decide (x.2.1≤8))) (some false)) (some false)) (some false)
def b2b:FSem:=⟨[.v Q4],[.v .bool],a6C⟩
def d7m:Hints:=⟨[],[],[]⟩
def a4n(s:Z41):Option (Z41 ⊕ ((Z6×Unit) ⊕ (Bool×Unit))):= cond (decide (s.2.1<(s.1.length:Int))) ((l0z s.1 s.2.1).bind fun x1=> (a6C x1).bind fun y2=> cond (!y2) (some (.inr (Sum.inr ((false,()))))) (some (.inl (s.1,wrap .i64 (s.2.1+1),())))) (some (.inr (Sum.inl (s.1,()))))
def a6D(x:Z6):Option Bool:= (x0r a4n (x,0,())).bind fun w3=> match w3 with |.inl a4=>some (decide ((a4.1.length:Int)≤3)) |.inr b5=>some b5.1
def b2c:FSem:=⟨[.v (.list false Q4)],[.v .bool],a6D⟩
def d7n:Hints:=⟨[(26,[.sv 0 (.list false Q4),.sv 3 QI],[(.exit 0,[.sv 0 (.list false Q4)]),(.ret,[.sv 2 .bool])])],[],[]⟩
def b2M(x:b0T):Option Int:= cond (x.1.1==0) (some 1) (cond (x.1.1==1) (some x.2) (cond (x.1.1==2) ((show Option c6f from cond (decide (x.1.2.2.1≥0)) (cond (decide (x.1.2.2.1≤4)) (some (decide (x.1.2.2.1≤x.2),x.1,())) (some (false,x.1,()))) (some (false,x.1,()))).bind fun z1=> cond z1.1 (some z1.2.1.2.2.1) (some (-1))) ((show Option c6h from cond (x.1.1==3) (some (x.2,x.1.1,x.1.1==3,x.1,())) (some (x.2,x.1.1,x.1.1==4,x.1,()))).bind fun z2=> cond z2.2.2.1 ((show Option c6f from(a3U (z2.2.2.2.1.2.2.2.2.2.1,z2.2.2.2.1.2.2.2.1)).bind fun y3=> cond y3 (cond (decide ((z2.2.2.2.1.2.2.2.2.2.1.length:Int)≤z2.1)) (cond (z2.2.2.2.1.1==3) (some (true,z2.2.2.2.1,())) ((a7H (z2.2.2.2.1.2.2.2.2.1,z2.2.2.2.1.2.2.2.2.2.2.1)).bind fun y4=> some (y4,z2.2.2.2.1,()))) (some (false,z2.2.2.2.1,()))) (some (false,z2.2.2.2.1,()))).bind fun z5=> cond z5.1 (some (z5.2.1.2.2.2.2.2.1.length:Int)) (some (-1))) (cond (z2.2.1==5) ((show Option (Bool×Unit)from cond (decide ((z2.2.2.2.1.2.2.2.2.2.2.2.1.length:Int) > 0)) ((a6D z2.2.2.2.1.2.2.2.2.2.2.2.1).bind fun y6=> some (y6,())) (some (false,()))).bind fun z7=> cond z7.1 (some 0) (some (-1))) (some (-1))))))
def b9D:FSem:=⟨[.v Q32,.v QI],[.v QI],b2M⟩
def d7o:Hints:=⟨[],[(1726,[(.normal,[.sv 27 .bool,.vp 2 Q32])]),(1727,[(.normal,[.sv 1 QI,.sv 6 QI,.sv 30 .bool,.vp 2 Q32])]),(6910,[(.normal,[.sv 56 .bool,.vp 2 Q32])]),(27646,[(.normal,[.sv 70 .bool])])],[]⟩
def b2N(x:a1E):Option a1E:= cond (x.1==0) (some (x.1,0,0,0,0,[],a01 3 0,[],x.2.2.2.2.2.2.2.2.1,(0,[],()),[],())) (cond (x.1==1) (some (x.1,x.2.1,0,0,0,[],a01 3 0,[],x.2.2.2.2.2.2.2.2.1,(0,[],()),[],())) ((show Option b1W from cond (x.1==2) (some ((0,0,0,0,0,[],a01 3 0,[],[],(0,[],()),[],()),(x.1,x.2.1,x.2.2.1,0,0,[],a01 3 0,[],x.2.2.2.2.2.2.2.2.1,x.2.2.2.2.2.2.2.2.2.1,x.2.2.2.2.2.2.2.2.2.2.1,()),())) (cond (x.1==3) (some ((0,0,0,0,0,[],a01 3 0,[],[],(0,[],()),[],()),(x.1,x.2.1,0,x.2.2.2.1,0,x.2.2.2.2.2.1,a01 3 0,[],x.2.2.2.2.2.2.2.2.1,x.2.2.2.2.2.2.2.2.2.1,x.2.2.2.2.2.2.2.2.2.2.1,()),())) (cond (x.1==4) (some ((0,0,0,0,0,[],a01 3 0,[],[],(0,[],()),[],()),(x.1,x.2.1,0,x.2.2.2.1,x.2.2.2.2.1,x.2.2.2.2.2.1,x.2.2.2.2.2.2.1,[],x.2.2.2.2.2.2.2.2.1,x.2.2.2.2.2.2.2.2.2.1,x.2.2.2.2.2.2.2.2.2.2.1,()),())) (cond (x.1==5) (some ((0,0,0,0,0,[],a01 3 0,[],[],(0,[],()),[],()),(x.1,x.2.1,0,0,0,[],a01 3 0,x.2.2.2.2.2.2.2.1,[],x.2.2.2.2.2.2.2.2.2.1,x.2.2.2.2.2.2.2.2.2.2.1,()),())) (some ((0,0,0,0,0,[],a01 3 0,[],[],(0,[],()),[],()),(x.1,x.2.1,0,0,0,[],a01 3 0,[],x.2.2.2.2.2.2.2.2.1,x.2.2.2.2.2.2.2.2.2.1,x.2.2.2.2.2.2.2.2.2.2.1,()),())))))).bind fun z1=> some z1.2.1))
def b9E:FSem:=⟨[.v Q32],[.v Q32],b2N⟩
def d7p:Hints:=⟨[],[(127,[(.normal,[.box 2 Q32,.box 3 Q32,.ptr 2 2 [],.ptr 3 3 []])])],[(7,[.v,.v,.v,.v,.q,.w [0,3],.x,.x]),(12,[.v,.v,.v,.v,.q,.w [0,3],.x,.x]),(14,[.v,.v,.v,.v,.v,.v,.v,.v,.q,.w [0,3],.q,.w [0,3],.q,.w [0,3],.x,.x])]⟩
def b6Q(x:(Int×Int)):Option Bool:= cond (decide (x.1≥1)) (cond (decide (x.1≤4096)) (cond (decide (x.2≥0)) (some (decide (x.2≤x.1))) (some false)) (some false)) (some false)
def c4c:FSem:=⟨[.v QI,.v QI],[.v .bool],b6Q⟩
def d7q:Hints:=⟨[],[],[]⟩
def a5L(s:(Int×Z33)):Option ((Int×Z33) ⊕ Z4):= cond (decide ((wrap .u64 s.1)<0)) none (cond (decide (s.2.2.2.1<(z0g .i64 1 (wrap .u64 s.1)))) (cond (decide ((wrap .u64 s.1)<0)) none (cond (lim ((a02 s.2.2.2.2.1)+1)) (some (.inl (s.1,s.2.1,s.2.2.1,wrap .i64 (s.2.2.2.1+1),a03 s.2.2.2.2.1 [z0h .i64 s.2.1 (wrap .u64 s.1)],()))) none)) (some (.inr (s.2.2.1,s.2.2.2.2.1,()))))
def a3V(x:(Int×Int×Int)):Option (List Int):= (show Option Z26 from(b6Q (x.2.1,x.2.2)).bind fun y1=> cond (!y1) (some (x.1,x.2.1,x.2.2,true,())) (cond (decide (x.1<0)) (some (x.1,x.2.1,x.2.2,true,())) (cond (decide (x.1 > 8)) (some (x.1,x.2.1,x.2.2,true,())) (cond (decide ((wrap .u64 x.1)<0)) none (cond ((z0g .i64 1 (wrap .u64 x.1))==0) none (cond ((a07 x.2.1 (z0g .i64 1 (wrap .u64 x.1))) != 0) (some (x.1,x.2.1,x.2.2,true,())) (cond (decide ((wrap .u64 x.1)<0)) none (some (x.1,x.2.1,x.2.2,decide ((z0h .i64 x.2.1 (wrap .u64 x.1))<x.2.2),()))))))))).bind fun z2=> cond z2.2.2.2.1 (some []) ((x0r a5L (z2.1,z2.2.1,z2.2.2.1,0,[],())).bind fun w3=> cond (decide (0<(w3.2.1.length:Int))) (cond (decide (0<(w3.2.1.length:Int))) (some (a08 w3.2.1 0 (wrap .i64 ((a04 w3.2.1 0 0)-w3.1)))) none) none)
def a8o:FSem:=⟨[.v QI,.v QI,.v QI],[.o QI],a3V⟩
def d7r:Hints:=⟨[(122,[.sv 0 QI,.sv 1 QI,.sv 2 QI,.sv 8 QI,.own 7 7 QI],[(.exit 0,[.sv 2 QI,.own 7 7 QI])])],[(6,[(.normal,[.sv 0 QI,.sv 1 QI,.sv 2 QI,.sv 36 .bool])])],[]⟩
def a2H(x:Int):Option Bool:= cond (decide (x≥0)) (some (decide (x≤25))) (some false)
def a9g:FSem:=⟨[.v QI],[.v .bool],a2H⟩
def d7s:Hints:=⟨[],[],[]⟩
def a3t(s:(Int×Z23)):Option ((Int×Z23) ⊕ Z0):= cond (decide (s.1<(s.2.1.2.1.length:Int))) ((show Option (Int×Z43)from(l0z s.2.1.2.1 s.1).bind fun x3=> (a2H x3).bind fun y4=> cond (!y4) ((l0z s.2.1.2.1 s.1).bind fun x5=> some (s.1,x5 != 31,s.2.1,())) (some (s.1,false,s.2.1,()))).bind fun z6=> cond z6.2.1 (some (.inr (Sum.inr ((false,()))))) (some (.inl (wrap .i64 (z6.1+1),z6.2.2.1,())))) (some (.inr (Sum.inl ())))
def a5r(x:(Z4×Int×Int)):Option Bool:= (a3V (x.1.1,x.2.1,x.2.2)).bind fun y1=> (show Option Z43 from cond ((y1.length:Int)==0) (some (true,x.1,())) (some ((y1.length:Int) != (x.1.2.1.length:Int),x.1,()))).bind fun z2=> cond z2.1 (some false) ((x0r a3t (0,z2.2.1,())).bind fun w7=> match w7 with |.inl a8=>some true |.inr b9=>some b9.1)
def b3C:FSem:=⟨[.v Q8,.v QI,.v QI],[.v .bool],a5r⟩
def d7t:Hints:=⟨[(122,[.sv 8 QI,.vp 3 Q8],[(.exit 0,[]),(.ret,[.sv 6 .bool])])],[(14,[(.normal,[.sv 24 .bool,.vp 3 Q8])]),(1956,[(.normal,[.sv 8 QI,.sv 46 .bool,.vp 3 Q8])])],[]⟩
def b4H(x:Int):Option (List Int):= cond ((decide (0≤x))&&(decide (x<5))) (some (a04 ([[],[1],[2,(-1)],[3,(-3),1],[4,(-6),4,(-1)]]:List (List Int)) (a00 x) [])) none
def b8u:FSem:=⟨[.v QI],[.v QL],b4H⟩
def d7u:Hints:=⟨[],[],[]⟩
def a3J(s:((List Int)×(Int×Z67))):Option (((List Int)×(Int×Z67)) ⊕ ((List Int)×Z63)):= cond (decide (s.2.2.2.2.2.1<s.2.1)) ((l0z s.2.2.1 s.2.2.2.2.2.1).bind fun x7=> cond ((decide (0≤(wrap .i64 ((wrap .i64 ((s.2.2.2.2.2.2.1.length:Int)-1))-s.2.2.2.2.2.1))))&&(decide ((wrap .i64 ((wrap .i64 ((s.2.2.2.2.2.2.1.length:Int)-1))-s.2.2.2.2.2.1))<(s.2.2.2.2.2.2.1.length:Int)))) (some (.inl (s.1,s.2.1,s.2.2.1,s.2.2.2.1,wrap .i64 (s.2.2.2.2.1+(wrap .i64 (x7*(a04 s.2.2.2.2.2.2.1 (a00 (wrap .i64 ((wrap .i64 ((s.2.2.2.2.2.2.1.length:Int)-1))-s.2.2.2.2.2.1))) 0)))),wrap .i64 (s.2.2.2.2.2.1+1),s.2.2.2.2.2.2.1,()))) none) (some (.inr (s.1,s.2.1,s.2.2.1,s.2.2.2.1,s.2.2.2.2.1,s.2.2.2.2.2.2.1,())))
def a5M(s:((List Int)×(Int×Z30))):Option (((List Int)×(Int×Z30)) ⊕ Z52):= cond (decide (s.2.2.2.1<(s.1.length:Int))) ((l0z s.1 s.2.2.2.1).bind fun x6=> (x0r a3J (s.1,s.2.1,s.2.2.1,s.2.2.2.1,x6,0,s.2.2.2.2.1,())).bind fun w8=> (a2G w8.2.2.2.2.1).bind fun y9=> cond (!y9) (some (.inr (Sum.inr ((6,[],()))))) (cond (lim ((a02 w8.2.2.2.2.2.1)+1)) (some (.inl (w8.1,w8.2.1,w8.2.2.1,wrap .i64 (w8.2.2.2.1+1),a03 w8.2.2.2.2.2.1 [w8.2.2.2.2.1],()))) none)) (some (.inr (Sum.inl (s.2.2.2.2.1,()))))
def a8p(x:Z11):Option ((List Int)×Int):= (show Option Z54 from cond (decide (x.2.2<0)) (some (x.1,x.2.1,x.2.2,true,())) (cond (decide (x.2.2 > 4)) (some (x.1,x.2.1,x.2.2,true,())) (some (x.1,x.2.1,x.2.2,(x.1.length:Int) != x.2.2,())))).bind fun z1=> cond z1.2.2.2.1 (some ([],1)) ((show Option Z54 from(a1D z1.1).bind fun y2=> cond (!y2) (some (z1.1,z1.2.1,z1.2.2.1,true,())) ((a1D z1.2.1).bind fun y3=> some (z1.1,z1.2.1,z1.2.2.1,!y3,()))).bind fun z4=> cond z4.2.2.2.1 (some ([],6)) (cond (lim (0+(a02 z4.1))) ((b4H z4.2.2.1).bind fun y5=> (x0r a5M (z4.2.1,z4.2.2.1,y5,0,a03 [] z4.1,())).bind fun w10=> match w10 with |.inl a11=>some (a11.1,0) |.inr b12=>some (b12.2.1,b12.1)) none))
def b5o:FSem:=⟨[.v QL,.v QL,.v QI],[.o QI,.v QI],a8p⟩
def d7v:Hints:=⟨[(250,[.sv 1 QL,.sv 2 QI,.sv 9 QL,.sv 10 QI,.own 8 8 QI],[(.exit 0,[.own 8 8 QI]),(.ret,[.sv 7 QI,.own 6 6 QI])]),(64074,[.sv 1 QL,.sv 2 QI,.sv 9 QL,.sv 10 QI,.sv 11 QI,.sv 12 QI,.own 8 8 QI],[(.exit 2,[.sv 1 QL,.sv 2 QI,.sv 9 QL,.sv 10 QI,.sv 11 QI,.own 8 8 QI])])],[(6,[(.normal,[.sv 0 QL,.sv 1 QL,.sv 2 QI,.sv 24 .bool])]),(14,[(.normal,[.sv 0 QL,.sv 1 QL,.sv 2 QI,.sv 32 .bool])])],[(13,[.v,.v,.v,.v,.v,.q,.q,.q,.v,.v,.v,.q,.q,.v,.x,.x])]⟩
def a2R(s:Z65):Option (Z65 ⊕ ((Int×Int×Unit) ⊕ (Int×Unit))):= cond (decide (s.2.2.2.2.1<(s.2.1.length:Int))) (cond (decide (s.2.2.2.2.1<(s.1.length:Int))) ((l0z s.1 (wrap .i64 ((wrap .i64 ((s.1.length:Int)-1))-s.2.2.2.2.1))).bind fun x2=> (a2G x2).bind fun y3=> cond (!y3) (some (.inr (Sum.inr ((0,()))))) ((l0z s.2.1 s.2.2.2.2.1).bind fun x4=> some (.inl (s.1,s.2.1,s.2.2.1,wrap .i64 (s.2.2.2.1+(wrap .i64 (x4*x2))),wrap .i64 (s.2.2.2.2.1+1),())))) (some (.inr (Sum.inl (s.2.2.1,s.2.2.2.1,()))))) (some (.inr (Sum.inl (s.2.2.1,s.2.2.2.1,()))))
def a6j(x:Z11):Option Int:= (a3U (x.2.1,x.2.2)).bind fun y1=> cond (!y1) (some 0) ((x0r a2R (x.1,x.2.1,x.2.2,0,0,())).bind fun w5=> match w5 with |.inl a6=>(cond (decide ((wrap .u64 a6.1)<0)) none (some (z0h .i64 a6.2.1 (wrap .u64 a6.1)))) |.inr b7=>some b7.1)
def b3M:FSem:=⟨[.v QL,.v QL,.v QI],[.v QI],a6j⟩
def d7w:Hints:=⟨[(122,[.sv 0 QL,.sv 1 QL,.sv 2 QI,.sv 7 QI,.sv 8 QI],[(.exit 0,[.sv 2 QI,.sv 7 QI]),(.ret,[.sv 6 QI])])],[],[]⟩
def a5g(s:Z78):Option (Z78 ⊕ Z52):= cond (decide (s.2.2.2.1<(s.1.length:Int))) ((l0z s.1 s.2.2.2.1).bind fun x6=> (a6j (s.2.2.2.2.1,s.2.1,s.2.2.1)).bind fun y7=> (a2G (wrap .i64 (x6+y7))).bind fun y8=> cond (!y8) (some (.inr (Sum.inr ((6,[],()))))) (cond (lim ((a02 s.2.2.2.2.1)+1)) (some (.inl (s.1,s.2.1,s.2.2.1,wrap .i64 (s.2.2.2.1+1),a03 s.2.2.2.2.1 [wrap .i64 (x6+y7)],()))) none)) (some (.inr (Sum.inl (s.2.2.2.2.1,()))))
def a4V(x:((List Int)×Z11)):Option ((List Int)×Int):= (show Option Z83 from(a3U (x.2.2.1,x.2.2.2)).bind fun y1=> cond (!y1) (some (x.1,x.2.1,x.2.2.1,x.2.2.2,true,())) (some (x.1,x.2.1,x.2.2.1,x.2.2.2,(x.1.length:Int) != (x.2.2.1.length:Int),()))).bind fun z2=> cond z2.2.2.2.2.1 (some ([],1)) ((show Option Z83 from(a1D z2.1).bind fun y3=> cond (!y3) (some (z2.1,z2.2.1,z2.2.2.1,z2.2.2.2.1,true,())) ((a1D z2.2.1).bind fun y4=> some (z2.1,z2.2.1,z2.2.2.1,z2.2.2.2.1,!y4,()))).bind fun z5=> cond z5.2.2.2.2.1 (some ([],6)) (cond (lim (0+(a02 z5.1))) ((x0r a5g (z5.2.1,z5.2.2.1,z5.2.2.2.1,0,a03 [] z5.1,())).bind fun w9=> match w9 with |.inl a10=>some (a10.1,0) |.inr b11=>some (b11.2.1,b11.1)) none))
def b4I:FSem:=⟨[.v QL,.v QL,.v QL,.v QI],[.o QI,.v QI],a4V⟩
def d7x:Hints:=⟨[(250,[.sv 1 QL,.sv 2 QL,.sv 3 QI,.sv 11 QI,.own 10 10 QI],[(.exit 0,[.own 10 10 QI]),(.ret,[.sv 9 QI,.own 8 8 QI])])],[(6,[(.normal,[.sv 0 QL,.sv 1 QL,.sv 2 QL,.sv 3 QI,.sv 23 .bool])]),(14,[(.normal,[.sv 0 QL,.sv 1 QL,.sv 2 QL,.sv 3 QI,.sv 31 .bool])])],[(9,[.v,.v,.v,.v,.q,.v,.v,.q,.x,.x])]⟩
def a3K(s:Z67):Option (Z67 ⊕ (Int×Unit)):= cond (decide (s.2.2.2.1<3)) (cond (decide ((wrap .i64 ((wrap .i64 ((wrap .i64 ((s.1.length:Int)-s.2.1))-1))+s.2.2.2.1))≥0)) ((l0z s.2.2.2.2.1 s.2.2.2.1).bind fun x1=> (l0z s.1 (wrap .i64 ((wrap .i64 ((wrap .i64 ((s.1.length:Int)-s.2.1))-1))+s.2.2.2.1))).bind fun x2=> some (.inl (s.1,s.2.1,wrap .i64 (s.2.2.1+(wrap .i64 (x1*x2))),wrap .i64 (s.2.2.2.1+1),s.2.2.2.2.1,()))) (some (.inl (s.1,s.2.1,s.2.2.1,wrap .i64 (s.2.2.2.1+1),s.2.2.2.2.1,())))) (some (.inr (s.2.2.1,())))
def a8q(x:Z12):Option Int:= (x0r a3K (x.1,x.2.1,0,0,x.2.2,())).bind fun w3=> some (z0h .i64 w3.1 6)
def b5p:FSem:=⟨[.v QL,.v QI,.v (.arr 3 QI)],[.v QI],a8q⟩
def d7y:Hints:=⟨[(58,[.sv 0 QL,.sv 1 QI,.sv 7 QI,.sv 8 QI,.vp 5 (.arr 3 QI)],[(.exit 0,[.sv 7 QI])])],[],[(7,[.v,.v,.v,.v,.v,.v,.v,.v,.v,.x,.x])]⟩
def a6k(s:Z77):Option (Z77 ⊕ Z52):= cond (decide (s.2.2.1<(s.1.length:Int))) ((l0z s.1 s.2.2.1).bind fun x3=> (a8q (s.2.2.2.1,s.2.1,s.2.2.2.2.1)).bind fun y4=> (a2G (wrap .i64 (x3+y4))).bind fun y5=> cond (!y5) (some (.inr (Sum.inr ((6,[],()))))) (cond (lim ((a02 s.2.2.2.1)+1)) (some (.inl (s.1,s.2.1,wrap .i64 (s.2.2.1+1),a03 s.2.2.2.1 [wrap .i64 (x3+y4)],s.2.2.2.2.1,()))) none)) (some (.inr (Sum.inl (s.2.2.2.1,()))))
def a9h(x:Z12):Option ((List Int)×Int):= (a7H (x.2.1,x.2.2)).bind fun y1=> cond (!y1) (some ([],1)) ((a1D x.1).bind fun y2=> cond (!y2) (some ([],6)) ((x0r a6k (x.1,x.2.1,0,[],x.2.2,())).bind fun w6=> match w6 with |.inl a7=>some (a7.1,0) |.inr b8=>some (b8.2.1,b8.1)))
def b6o:FSem:=⟨[.v QL,.v QI,.v (.arr 3 QI)],[.o QI,.v QI],a9h⟩
def d7z:Hints:=⟨[(250,[.sv 0 QL,.sv 1 QI,.sv 9 QI,.own 8 8 QI,.vp 5 (.arr 3 QI)],[(.exit 0,[.own 8 8 QI]),(.ret,[.sv 7 QI,.own 6 6 QI])])],[],[(9,[.v,.v,.v,.v,.q,.v,.v,.q,.x,.x])]⟩
def a8r(x:(Int×Int×Unit)):Option Z49:= (a6C x).bind fun y1=> cond (!y1) none (cond ((decide (0≤x.1))&&((decide (x.1≤x.1))&&(lim (a00 x.1)))) (cond ((decide (0≤x.1))&&((decide (x.1≤x.1))&&(lim (a00 x.1)))) (some ((x.2.1,a01 (a00 x.1) 0,a01 (a00 x.1) 0,()),0)) none) none)
def b5q:FSem:=⟨[.v Q4],[.b Q13,.v QI],a8r⟩
def d7A:Hints:=⟨[],[],[(3,[.v,.v,.v,.v,.q,.v,.v,.q,.x,.x,.x,.x])]⟩
def b1r(x:Int):Option Int:= some (v0a (u0z x (-1073741824)) 1073741823)
def b6R:FSem:=⟨[.v QI],[.v QI],b1r⟩
def d7B:Hints:=⟨[],[],[]⟩
def a3W(s:Z84):Option (Z84 ⊕ Z69):= cond (decide (s.2.1<(s.2.2.1.2.1.length:Int))) (cond ((decide (0≤s.2.1))&&(decide (s.2.1<(s.2.2.1.2.1.length:Int)))) (cond ((decide (0≤s.2.1))&&(decide (s.2.1<(s.2.2.1.2.2.1.length:Int)))) (some (.inl (wrap .i64 (s.1+(wrap .i64 ((a04 s.2.2.1.2.1 (a00 s.2.1) 0)*(a04 s.2.2.1.2.2.1 (a00 s.2.1) 0)))),wrap .i64 (s.2.1+1),s.2.2.1,()))) none) none) (some (.inr (s.1,s.2.2.1,())))
def a3L(x:Z29):Option Z48:= (x0r a3W (0,0,x,())).bind fun w1=> (b1r (z0h .i64 w1.1 16)).bind fun y2=> some (y2,w1.2.1)
def a8G:FSem:=⟨[.r false (.b Q13)],[.v QI],a3L⟩
def d7C:Hints:=⟨[(58,[.sv 3 QI,.sv 4 QI,.box pinned Q13,.ptr 0 pinned []],[(.exit 0,[.sv 3 QI,.box pinned Q13])])],[],[(5,[.v,.p,.p,.q,.q,.v,.q,.q,.p,.p,.q,.q,.v,.q,.q,.v,.x,.x])]⟩
def b1s(x:Int):Option Int:= cond (decide (x > 0)) (some 1) (cond (decide (x<0)) (some (-1)) (some 0))
def c1f:FSem:=⟨[.v QI],[.v QI],b1s⟩
def d7D:Hints:=⟨[],[],[]⟩
def a2S(s:(Int×(Int×(Int×((List Int)×Z82))))):Option ((Int×(Int×(Int×((List Int)×Z82)))) ⊕ (Int×((List Int)×Z82))):= cond (decide (s.2.2.1<(s.2.2.2.2.2.1.2.1.length:Int))) (cond ((decide (0≤s.2.2.1))&&(decide (s.2.2.1<(s.2.2.2.2.2.1.2.1.length:Int)))) (cond ((decide (0≤s.2.2.1))&&(decide (s.2.2.1<(s.2.2.2.2.2.1.2.2.1.length:Int)))) ((b1s (a04 s.2.2.2.2.2.1.2.2.1 (a00 s.2.2.1) 0)).bind fun y4=> cond (decide ((wrap .u64 s.2.2.2.2.2.1.1)<0)) none (cond (lim ((a02 s.2.2.2.1)+1)) (some (.inl (s.1,s.2.1,wrap .i64 (s.2.2.1+1),a03 s.2.2.2.1 [v0a (u0z (wrap .i64 ((a04 s.2.2.2.2.2.1.2.1 (a00 s.2.2.1) 0)+(z0g .i64 (wrap .i64 (s.2.1*y4)) (wrap .u64 s.2.2.2.2.2.1.1)))) (-1048576)) 1048576],s.2.2.2.2.1,s.2.2.2.2.2.1,()))) none)) none) none) (some (.inr (s.1,s.2.2.2.1,s.2.2.2.2.1,s.2.2.2.2.2.1,())))
def a6l(x:Z49):Option Z29:= (b1r x.2).bind fun y1=> (a3L x.1).bind fun y2=> (b1s (wrap .i64 (y1-y2.1))).bind fun y3=> (x0r a2S (y1,y3,0,[],[],y2.2,())).bind fun w5=> cond (lim ((a02 w5.2.2.1)+1)) (cond ((decide (0≤(wrap .i64 ((w5.2.2.2.1.2.2.1.length:Int)-1))))&&(decide ((wrap .i64 ((w5.2.2.2.1.2.2.1.length:Int)-1))≤(w5.2.2.2.1.2.2.1.length:Int)))) (cond (lim ((a02 (a03 w5.2.2.1 [w5.1]))+(a02 (a06 (a00 (wrap .i64 ((w5.2.2.2.1.2.2.1.length:Int)-1))) (a16 0 w5.2.2.2.1.2.2.1))))) (some (w5.2.2.2.1.1,w5.2.1,a03 (a03 w5.2.2.1 [w5.1]) (a06 (a00 (wrap .i64 ((w5.2.2.2.1.2.2.1.length:Int)-1))) (a16 0 w5.2.2.2.1.2.2.1)),w5.2.2.2.1.2.2.2)) none) none) none
def b3N:FSem:=⟨[.r false (.b Q13),.v QI],[],a6l⟩
def d7E:Hints:=⟨[(122,[.sv 1 QI,.sv 4 QI,.sv 7 QI,.own 5 5 QI,.own 6 6 QI,.box pinned Q13,.ptr 0 pinned []],[(.exit 0,[.sv 1 QI,.own 5 5 QI,.own 6 6 QI,.box pinned Q13,.ptr 0 pinned []])])],[],[(6,[.q,.p,.p,.q,.q,.v,.q,.q,.v,.p,.p,.q,.q,.v,.q,.q,.v,.v,.p,.p,.q,.q,.v,.v,.v,.v,.v,.q,.x,.x]),(7,[.q,.v,.q,.w [6,55,56],.p,.p,.r [59,pinned],.r [60,pinned],.p,.p,.r [63,pinned],.r [64,pinned],.r [65,pinned],.v,.r [67,pinned],.x,.x])]⟩
def a3M(s:(Z6×Z97)):Option ((Z6×Z97) ⊕ ((Z6×Z4) ⊕ Z4)):= cond (decide (s.2.2.1<(s.2.2.2.1.length:Int))) (cond ((decide (0≤s.2.2.1))&&(decide (s.2.2.1<(s.2.2.2.1.length:Int)))) ((a3L s.2.2.2.2.1).bind fun y5=> (a2G (wrap .i64 ((a04 s.2.2.2.1 (a00 s.2.2.1) 0)+y5.1))).bind fun y6=> cond (!y6) (some (.inr (Sum.inr ((6,[],()))))) (cond ((decide (0≤s.2.2.1))&&(decide (s.2.2.1<(s.2.2.2.1.length:Int)))) ((a6l (y5.2,wrap .i64 ((a04 s.2.2.2.1 (a00 s.2.2.1) 0)+y5.1))).bind fun y7=> some (.inl (s.1,s.2.1,wrap .i64 (s.2.2.1+1),a08 s.2.2.2.1 (a00 s.2.2.1) (wrap .i64 ((a04 s.2.2.2.1 (a00 s.2.2.1) 0)+y5.1)),y7,()))) none)) none) (some (.inr (Sum.inl (s.1,s.2.1,s.2.2.2.1,()))))
def a5N(s:(Z6×Z4)):Option ((Z6×Z4) ⊕ Z52):= cond (decide (s.2.1≥0)) ((l0z s.1 s.2.1).bind fun x3=> (a8r x3).bind fun y4=> (x0r a3M (s.1,s.2.1,0,s.2.2.1,y4.1,())).bind fun w8=> match w8 with |.inl a9=>some (.inl (a9.1,wrap .i64 (a9.2.1-1),a9.2.2.1,())) |.inr b10=>some (.inr (Sum.inr ((b10.1,b10.2.1,()))))) (some (.inr (Sum.inl (s.2.2.1,()))))
def a8s(x:((List Int)×Z6)):Option ((List Int)×Int):= (a6D x.2).bind fun y1=> cond (!y1) (some ([],1)) ((a1D x.1).bind fun y2=> cond (!y2) (some ([],6)) (cond (lim (0+(a02 x.1))) ((x0r a5N (x.2,wrap .i64 ((x.2.length:Int)-1),a03 [] x.1,())).bind fun w11=> match w11 with |.inl a12=>some (a12.1,0) |.inr b13=>some (b13.2.1,b13.1)) none))
def b5r:FSem:=⟨[.v QL,.v (.list false Q4)],[.o QI,.v QI],a8s⟩
def d7F:Hints:=⟨[(250,[.sv 1 (.list false Q4),.sv 7 QI,.own 6 6 QI],[(.exit 0,[.own 6 6 QI]),(.ret,[.sv 5 QI,.own 4 4 QI])]),(32038,[.sv 1 (.list false Q4),.sv 7 QI,.sv 10 QI,.own 6 6 QI,.box 1033 Q13,.ptr 8 1033 []],[(.exit 2,[.sv 1 (.list false Q4),.sv 7 QI,.own 6 6 QI]),(.ret,[.sv 5 QI,.own 4 4 QI])])],[],[(13,[.r [6,42],.v,.r [6,44],.r [6,45],.q,.w [47,1033,1047],.x,.x])]⟩
def b4c(x:a1E):Option ((List Int)×Int):= cond (x.1==2) ((a8p (x.2.2.2.2.2.2.2.2.1,x.2.2.2.2.2.2.2.2.2.2.1,x.2.2.1)).bind fun y1=> some (y1.1,y1.2)) (cond (x.1==3) ((a4V (x.2.2.2.2.2.2.2.2.1,x.2.2.2.2.2.2.2.2.2.2.1,x.2.2.2.2.2.1,x.2.2.2.1)).bind fun y2=> some (y2.1,y2.2)) (cond (x.1==4) ((a4V (x.2.2.2.2.2.2.2.2.1,x.2.2.2.2.2.2.2.2.2.2.1,x.2.2.2.2.2.1,x.2.2.2.1)).bind fun y3=> cond (y3.2 != 0) (some ([],y3.2)) ((a9h (y3.1,x.2.2.2.2.1,x.2.2.2.2.2.2.1)).bind fun y4=> some (y4.1,y4.2))) (cond (x.1==5) ((a8s (x.2.2.2.2.2.2.2.2.2.2.1,x.2.2.2.2.2.2.2.1)).bind fun y5=> some (y5.1,y5.2)) (some (x.2.2.2.2.2.2.2.2.1,0)))))
def c1g:FSem:=⟨[.v Q32],[.v QL,.v QI],b4c⟩
def d7G:Hints:=⟨[],[],[]⟩
def b4d(s:Z46):Option (Z46 ⊕ Z52):= cond (decide (s.2.2.1<(s.1.length:Int))) ((show Option ((List Int)×Z37)from(l0z s.1 s.2.2.1).bind fun x2=> (a2G x2).bind fun y3=> cond (!y3) (some (s.1,s.2.1,s.2.2.1,true,s.2.2.2.1,())) ((l0z s.1 s.2.2.1).bind fun x4=> cond (decide ((wrap .u64 s.2.1)<0)) none ((a2G (z0g .i64 x4 (wrap .u64 s.2.1))).bind fun y5=> some (s.1,s.2.1,s.2.2.1,!y5,s.2.2.2.1,())))).bind fun z6=> cond z6.2.2.2.1 (some (.inr (Sum.inr ((6,[],()))))) ((l0z z6.1 z6.2.2.1).bind fun x7=> cond (decide ((wrap .u64 z6.2.1)<0)) none (cond (lim ((a02 z6.2.2.2.2.1)+1)) (some (.inl (z6.1,z6.2.1,wrap .i64 (z6.2.2.1+1),a03 z6.2.2.2.2.1 [z0g .i64 x7 (wrap .u64 z6.2.1)],()))) none))) (some (.inr (Sum.inl (s.2.2.2.1,()))))
def b8Z(x:((List Int)×Int)):Option ((List Int)×Int):= (show Option Z21 from cond (decide (x.2<0)) (some (x.1,x.2,true,())) (some (x.1,x.2,decide (x.2 > 30),()))).bind fun z1=> cond z1.2.2.1 (some ([],1)) ((x0r b4d (z1.1,z1.2.1,0,[],())).bind fun w8=> match w8 with |.inl a9=>some (a9.1,0) |.inr b10=>some (b10.2.1,b10.1))
def c5H:FSem:=⟨[.v QL,.v QI],[.o QI,.v QI],b8Z⟩
def d7H:Hints:=⟨[(122,[.sv 0 QL,.sv 1 QI,.sv 7 QI,.own 6 6 QI],[(.exit 0,[.own 6 6 QI]),(.ret,[.sv 5 QI,.own 4 4 QI])])],[(6,[(.normal,[.sv 0 QL,.sv 1 QI,.sv 13 .bool])]),(3912,[(.normal,[.sv 0 QL,.sv 1 QI,.sv 7 QI,.sv 36 .bool,.own 6 6 QI])])],[]⟩
def a5O(s:c6i):Option (c6i ⊕ ((List Int)×Unit)):= cond (decide (s.2.1<s.1)) ((l0z s.2.2.2.1.2.2.2.2.2.2.2.2.1 0).bind fun x11=> cond ((decide (0≤s.2.1))&&(decide (s.2.1<(s.2.2.1.length:Int)))) (some (.inl (s.1,wrap .i64 (s.2.1+1),a08 s.2.2.1 (a00 s.2.1) x11,s.2.2.2.1,()))) none) (some (.inr (s.2.2.1,())))
def b1t(x:b0T):Option ((List Int)×Bool):= (show Option c2j from cond (decide (x.2<1)) (some (x.2,true,x.1,())) (cond (decide (x.2 > 4096)) (some (x.2,true,x.1,())) (cond (decide (x.1.1<0)) (some (x.2,true,x.1,())) (cond (decide (x.1.1 > 5)) (some (x.2,true,x.1,())) ((b2N x.1).bind fun y1=> (a9T (x.1,y1)).bind fun y2=> cond (!y2) (some (x.2,true,x.1,())) (cond (decide (x.1.2.1<0)) (some (x.2,true,x.1,())) (some (x.2,decide (x.1.2.1 > 30),x.1,())))))))).bind fun z3=> cond z3.2.1 (some ([],false)) ((b2M (z3.2.2.1,z3.1)).bind fun y4=> (show Option c6h from cond (decide (y4<0)) (some (z3.1,y4,true,z3.2.2.1,())) (cond ((z3.2.2.1.2.2.2.2.2.2.2.2.1.length:Int) != y4) (some (z3.1,y4,true,z3.2.2.1,())) ((a1D z3.2.2.1.2.2.2.2.2.2.2.2.1).bind fun y5=> cond (!y5) (some (z3.1,y4,true,z3.2.2.1,())) ((a1D z3.2.2.1.2.2.2.2.2.2.2.2.2.2.1).bind fun y6=> some (z3.1,y4,!y6,z3.2.2.1,()))))).bind fun z7=> cond z7.2.2.1 (some ([],false)) ((show Option c2j from(a7G z7.2.2.2.1.1).bind fun y8=> cond y8 (cond ((z7.2.2.2.1.2.2.2.2.2.2.2.2.2.2.1.length:Int) != (wrap .i64 (z7.1-z7.2.1))) (some (z7.1,true,z7.2.2.2.1,())) ((a5r (z7.2.2.2.1.2.2.2.2.2.2.2.2.2.1,z7.1,z7.2.1)).bind fun y9=> some (z7.1,!y9,z7.2.2.2.1,()))) (some (z7.1,false,z7.2.2.2.1,()))).bind fun z10=> cond z10.2.1 (some ([],false)) (cond (z10.2.2.1.1==0) (cond ((decide (0≤z10.1))&&((decide (z10.1≤z10.1))&&(lim (a00 z10.1)))) ((x0r a5O (z10.1,0,a01 (a00 z10.1) 0,z10.2.2.1,())).bind fun w12=> some (w12.1,true)) none) ((b4c z10.2.2.1).bind fun y13=> cond (y13.2 != 0) (some ([],false)) ((b8Z (y13.1,z10.2.2.1.2.1)).bind fun y14=> some (y14.1,y14.2==0))))))
def b8v:FSem:=⟨[.v Q32,.v QI],[.o QI,.v .bool],b1t⟩
def d7I:Hints:=⟨[(8106,[.sv 1 QI,.sv 8 QI,.own 7 7 QI,.vp 2 Q32],[(.exit 0,[.own 7 7 QI])])],[(6,[(.normal,[.sv 1 QI,.sv 45 .bool,.vp 2 Q32])]),(30,[(.normal,[.sv 1 QI,.sv 6 QI,.sv 69 .bool,.vp 2 Q32])]),(62,[(.normal,[.sv 1 QI,.sv 89 .bool,.vp 2 Q32])])],[(1,[.x,.x,.x,.x,.x,.x,.x,.x,.x,.x,.x,.x,.x,.x,.x,.x,.x,.v,.v,.v,.x,.x,.x,.x,.x,.x,.x,.x,.x,.x,.x,.x,.x])]⟩
def b1u(x:b0T):Option Bool:= (b1t (x.1,x.2)).bind fun y1=> some y1.2
def b8w:FSem:=⟨[.v Q32,.v QI],[.v .bool],b1u⟩
def d7J:Hints:=⟨[],[],[]⟩
def a7I(s:Z16):Option (Z16 ⊕ Z16):= cond (decide (s.2.1<32)) ((l0z s.1 s.2.2.1).bind fun x1=> cond (x1 != 0) ((l0z s.1 s.2.2.1).bind fun x2=> (b0O (x2,s.2.1)).bind fun y3=> cond (!y3) (some (.inl (s.1,wrap .i64 (s.2.1+1),s.2.2.1,()))) (some (.inr (s.1,s.2.1,s.2.2.1,())))) (some (.inr (s.1,s.2.1,s.2.2.1,())))) (some (.inr (s.1,s.2.1,s.2.2.1,())))
def a9V(s:Z16):Option (Z16 ⊕ (Int×Unit)):= cond (decide (s.2.2.1<(s.1.length:Int))) ((x0r a7I (s.1,s.2.1,s.2.2.1,())).bind fun w4=> some (.inl (w4.1,w4.2.1,wrap .i64 (w4.2.2.1+1),()))) (some (.inr (s.2.1,())))
def a6Z(x:(List Int)):Option Int:= (x0r a9V (x,0,0,())).bind fun w5=> some w5.1
def b1v:FSem:=⟨[.v QL],[.v QI],a6Z⟩
def d7K:Hints:=⟨[(58,[.sv 0 QL,.sv 3 QI,.sv 4 QI],[(.exit 0,[.sv 3 QI])]),(1864,[.sv 0 QL,.sv 3 QI,.sv 4 QI],[(.exit 2,[.sv 0 QL,.sv 3 QI,.sv 4 QI])])],[],[]⟩
def a5P(s:Z42):Option (Z42 ⊕ Z9):= cond (decide (s.2.1≥0)) (cond (decide ((wrap .u64 s.2.1)<0)) none (cond (lim ((a02 s.2.2.1.1)+1)) (some (.inl (s.1,wrap .i64 (s.2.1-1),(a03 s.2.2.1.1 [wrap .u8 (bits .u64 .and (z0h .u64 s.1 (wrap .u64 s.2.1)) 1)],s.2.2.1.2),()))) none)) (some (.inr (s.2.2.1,())))
def a0L(x:(((List Int)×Unit)×(Int×Int))):Option Z4:= (show Option (Int×Int×Bool×Z9)from cond (decide (x.2.2<0)) (some (x.2.1,x.2.2,true,x.1,())) (cond (decide (x.2.2 > 64)) (some (x.2.1,x.2.2,true,x.1,())) (cond (decide (x.2.2<64)) (cond (decide ((wrap .u64 x.2.2)<0)) none (some (x.2.1,x.2.2,(z0h .u64 x.2.1 (wrap .u64 x.2.2)) != 0,x.1,()))) (some (x.2.1,x.2.2,false,x.1,()))))).bind fun z1=> cond z1.2.2.1 (some (1,z1.2.2.2.1)) ((x0r a5P (z1.1,wrap .i64 (z1.2.1-1),z1.2.2.2.1,())).bind fun w2=> some (0,w2.1))
def a3X:FSem:=⟨[.r false (.b Q1),.v (.int .u64),.v QI],[.v QI],a0L⟩
def d7L:Hints:=⟨[(58,[.sv 1 (.int .u64),.sv 7 QI,.box pinned Q1,.ptr 0 pinned []],[(.exit 0,[.box pinned Q1])])],[(6,[(.normal,[.sv 1 (.int .u64),.sv 2 QI,.sv 24 .bool,.box pinned Q1,.ptr 0 pinned []])])],[]⟩
def a6m(s:((List Int)×Z42)):Option (((List Int)×Z42) ⊕ Z9):= cond (decide (s.2.2.1<(s.1.length:Int))) ((l0z s.1 s.2.2.1).bind fun x2=> cond (decide ((wrap .u64 s.2.1)<0)) none ((a0L (s.2.2.2.1,bits .u64 .and (wrap .u64 x2) (wrap .u64 ((z0g .u64 1 (wrap .u64 s.2.1))-1)),s.2.1)).bind fun y3=> some (.inl (s.1,s.2.1,wrap .i64 (s.2.2.1+1),y3.2,())))) (some (.inr (s.2.2.2.1,())))
def a2I(x:(((List Int)×Unit)×((List Int)×Int))):Option ((List Int)×Unit):= (x0r a6m (x.2.1,x.2.2,0,x.1,())).bind fun w4=> some w4.1
def a9i:FSem:=⟨[.r false (.b Q1),.v QL,.v QI],[],a2I⟩
def d7M:Hints:=⟨[(6,[.sv 1 QL,.sv 2 QI,.sv 6 QI,.box pinned Q1,.ptr 0 pinned []],[(.exit 0,[.box pinned Q1])])],[],[]⟩
def a5Q(x:(((List Int)×Unit)×a1E)):Option ((List Int)×Unit):= (a0L (x.1,wrap .u64 (wrap .i64 ((x.2.2.2.2.2.2.1.length:Int)-1)),5)).bind fun y1=> (a0L (y1.2,wrap .u64 x.2.2.2.2.1,4)).bind fun y2=> (a6Z x.2.2.2.2.2.2.1).bind fun y3=> (a0L (y2.2,wrap .u64 y3,5)).bind fun y4=> (a2I (y4.2,x.2.2.2.2.2.2.1,y3)).bind fun y5=> some y5
def b5s:FSem:=⟨[.r false (.b Q1),.v Q32],[],a5Q⟩
def d7N:Hints:=⟨[],[],[]⟩
def b2d(x:Int):Option Int:= (show Option (Int×Unit)from cond (decide (x<0)) (some (bits .u64 .xor (IntKind.max .u64) (z0g .u64 (wrap .u64 x) 1),())) (some (z0g .u64 (wrap .u64 x) 1,()))).bind fun z1=> some z1.1
def b9Z:FSem:=⟨[.v QI],[.v (.int .u64)],b2d⟩
def d7O:Hints:=⟨[],[(7,[(.normal,[.sv 3 (.int .u64)])])],[]⟩
def b3f(x:Int):Option Int:= (a2G x).bind fun y1=> cond (!y1) (some 0) ((b2d x).bind fun y2=> some y2)
def b8x:FSem:=⟨[.v QI],[.v (.int .u64)],b3f⟩
def d7P:Hints:=⟨[],[],[]⟩
def a9W(x:(Int×Int)):Option Int:= (show Option Z10 from(a2H x.1).bind fun y1=> cond (!y1) (some (x.1,x.2,true,())) ((a2G x.2).bind fun y2=> some (x.1,x.2,!y2,()))).bind fun z3=> cond z3.2.2.1 (some 0) ((b3f z3.2.1).bind fun y4=> cond (decide ((wrap .u64 z3.1)<0)) none (cond (decide ((wrap .i64 (z0h .u64 y4 (wrap .u64 z3.1)))<32)) (some (wrap .i64 ((wrap .i64 ((wrap .i64 (z0h .u64 y4 (wrap .u64 z3.1)))+1))+z3.1))) (some 65)))
def b7O:FSem:=⟨[.v QI,.v QI],[.v QI],a9W⟩
def d7Q:Hints:=⟨[],[(6,[(.normal,[.sv 0 QI,.sv 1 QI,.sv 13 .bool])])],[]⟩
def a8t(s:Z32):Option Z72:= cond (decide (s.2.2.2.1<(s.2.1.length:Int))) ((l0z s.2.1 s.2.2.2.1).bind fun x1=> (a9W (s.1,x1)).bind fun y2=> some (.inl (s.1,s.2.1,wrap .i64 (s.2.2.1+y2),wrap .i64 (s.2.2.2.1+1),()))) (some (.inr (s.2.2.1,())))
def b1w(x:(Int×(List Int))):Option Int:= (x0r a8t (x.1,x.2,0,0,())).bind fun w3=> some w3.1
def b8y:FSem:=⟨[.v QI,.v QL],[.v QI],b1w⟩
def d7R:Hints:=⟨[(58,[.sv 0 QI,.sv 1 QL,.sv 5 QI,.sv 6 QI],[(.exit 0,[.sv 5 QI])])],[],[]⟩
def a9X(x:(Int×(List Int))):Option Int:= cond (x.1==31) ((a6Z x.2).bind fun y1=> some (wrap .i64 (5+(wrap .i64 ((x.2.length:Int)*y1))))) ((b1w (x.1,x.2)).bind fun y2=> some y2)
def b7P:FSem:=⟨[.v QI,.v QL],[.v QI],a9X⟩
def d7S:Hints:=⟨[],[],[]⟩
def a6n(s:c6d):Option (c6d ⊕ (Int×Unit)):= cond (decide (s.2.2.2.1<(s.2.2.2.2.1.length:Int))) ((l0z s.2.2.2.2.2.1.2.1 s.2.2.2.1).bind fun x5=> cond ((decide (0≤s.2.2.2.1))&&(decide (s.2.2.2.1<(s.2.2.2.2.1.length:Int)))) (cond ((decide (0≤(wrap .i64 (s.2.2.1+(a04 s.2.2.2.2.1 (a00 s.2.2.2.1) 0)))))&&(decide ((wrap .i64 (s.2.2.1+(a04 s.2.2.2.2.1 (a00 s.2.2.2.1) 0)))≤(s.1.length:Int)))) (cond ((decide (0≤s.2.2.1))&&(decide (s.2.2.1≤((a00 (wrap .i64 (s.2.2.1+(a04 s.2.2.2.2.1 (a00 s.2.2.2.1) 0))):Nat):Int)))) ((a9X (x5,a16 (a00 s.2.2.1) (a06 (a00 (wrap .i64 (s.2.2.1+(a04 s.2.2.2.2.1 (a00 s.2.2.2.1) 0)))) s.1))).bind fun y6=> cond ((decide (0≤s.2.2.2.1))&&(decide (s.2.2.2.1<(s.2.2.2.2.1.length:Int)))) (some (.inl (s.1,wrap .i64 ((wrap .i64 (s.2.1+5))+y6),wrap .i64 (s.2.2.1+(a04 s.2.2.2.2.1 (a00 s.2.2.2.1) 0)),wrap .i64 (s.2.2.2.1+1),s.2.2.2.2.1,s.2.2.2.2.2.1,()))) none) none) none) none) (some (.inr (s.2.1,())))
def a9j(x:Z66):Option Int:= (show Option (Int×(Int×((List Int)×Z43)))from(a5r (x.1,x.2.1,x.2.2.1)).bind fun y1=> cond (!y1) (some (x.2.1,x.2.2.1,x.2.2.2,true,x.1,())) (cond ((x.2.2.2.length:Int) != (wrap .i64 (x.2.1-x.2.2.1))) (some (x.2.1,x.2.2.1,x.2.2.2,true,x.1,())) ((a1D x.2.2.2).bind fun y2=> some (x.2.1,x.2.2.1,x.2.2.2,!y2,x.1,())))).bind fun z3=> cond z3.2.2.2.1 (some 0) ((a3V (z3.2.2.2.2.1.1,z3.1,z3.2.1)).bind fun y4=> (x0r a6n (z3.2.2.1,4,0,0,y4,z3.2.2.2.2.1,())).bind fun w7=> some w7.1)
def b6p:FSem:=⟨[.v Q8,.v QI,.v QI,.v QL],[.v QI],a9j⟩
def d7T:Hints:=⟨[(250,[.sv 3 QL,.sv 9 QI,.sv 10 QI,.sv 12 QI,.own 11 11 QI,.vp 4 Q8],[(.exit 0,[.sv 9 QI])])],[(6,[(.normal,[.sv 1 QI,.sv 2 QI,.sv 3 QL,.sv 30 .bool,.vp 4 Q8])])],[(8,[.v,.v,.v,.v,.v,.v,.v,.v,.v,.v,.q,.v,.q,.q,.v,.v,.v,.x,.x])]⟩
def a4r(s:Z42):Option (Z42 ⊕ Z9):= cond (decide (s.2.1<s.1)) (cond (lim ((a02 s.2.2.1.1)+1)) (some (.inl (s.1,wrap .i64 (s.2.1+1),(a03 s.2.2.1.1 [0],s.2.2.1.2),()))) none) (some (.inr (s.2.2.1,())))
def a2Y(x:(((List Int)×Unit)×Int)):Option Z4:= (show Option (Int×Bool×Z9)from cond (decide (x.2<0)) (some (x.2,true,x.1,())) (some (x.2,decide (x.2 > 4096),x.1,()))).bind fun z1=> cond z1.2.1 (some (1,z1.2.2.1)) ((x0r a4r (z1.1,0,z1.2.2.1,())).bind fun w2=> cond (lim ((a02 w2.1.1)+1)) (some (0,a03 w2.1.1 [1],w2.1.2)) none)
def b3O:FSem:=⟨[.r false (.b Q1),.v QI],[.v QI],a2Y⟩
def d7U:Hints:=⟨[(58,[.sv 1 QI,.sv 5 QI,.box pinned Q1,.ptr 0 pinned []],[(.exit 0,[.box pinned Q1,.ptr 0 pinned []])])],[(6,[(.normal,[.sv 1 QI,.sv 11 .bool,.box pinned Q1,.ptr 0 pinned []])])],[]⟩
def a5R(s:(Int×((List Int)×Z25))):Option ((Int×((List Int)×Z25)) ⊕ Z9):= cond (decide (s.2.2.1<(s.2.1.length:Int))) ((l0z s.2.1 s.2.2.1).bind fun x4=> (b3f x4).bind fun y5=> cond (decide ((wrap .u64 s.1)<0)) none (cond (decide ((wrap .i64 (z0h .u64 y5 (wrap .u64 s.1)))<32)) ((a2Y (s.2.2.2.1,wrap .i64 (z0h .u64 y5 (wrap .u64 s.1)))).bind fun y6=> cond (decide ((wrap .u64 s.1)<0)) none ((a0L (y6.2,bits .u64 .and y5 (wrap .u64 ((z0g .u64 1 (wrap .u64 s.1))-1)),s.1)).bind fun y7=> some (.inl (s.1,s.2.1,wrap .i64 (s.2.2.1+1),y7.2,())))) ((a2Y (s.2.2.2.1,32)).bind fun y8=> (a0L (y8.2,y5,32)).bind fun y9=> some (.inl (s.1,s.2.1,wrap .i64 (s.2.2.1+1),y9.2,()))))) (some (.inr (s.2.2.2.1,())))
def b1x(x:(((List Int)×Unit)×(Int×(List Int)))):Option Z4:= (show Option (Int×((List Int)×(Bool×Z9)))from(a2H x.2.1).bind fun y1=> cond (!y1) (some (x.2.1,x.2.2,true,x.1,())) ((a1D x.2.2).bind fun y2=> some (x.2.1,x.2.2,!y2,x.1,()))).bind fun z3=> cond z3.2.2.1 (some (1,z3.2.2.2.1)) ((x0r a5R (z3.1,z3.2.1,0,z3.2.2.2.1,())).bind fun w10=> some (0,w10.1))
def b8z:FSem:=⟨[.r false (.b Q1),.v QI,.v QL],[.v QI],b1x⟩
def d7V:Hints:=⟨[(58,[.sv 1 QI,.sv 2 QL,.sv 7 QI,.box pinned Q1,.ptr 0 pinned []],[(.exit 0,[.box pinned Q1])])],[(6,[(.normal,[.sv 1 QI,.sv 2 QL,.sv 17 .bool,.box pinned Q1,.ptr 0 pinned []])])],[]⟩
def a3u(s:((List Int)×(Int×(Int×((List Int)×(((List Int)×Unit)×Z23)))))):Option (((List Int)×(Int×(Int×((List Int)×(((List Int)×Unit)×Z23))))) ⊕ Z9):= cond (decide (s.2.2.1<(s.2.2.2.1.length:Int))) (cond ((decide (0≤s.2.2.1))&&(decide (s.2.2.1<(s.2.2.2.1.length:Int)))) (cond ((decide (0≤(wrap .i64 (s.2.1+(a04 s.2.2.2.1 (a00 s.2.2.1) 0)))))&&(decide ((wrap .i64 (s.2.1+(a04 s.2.2.2.1 (a00 s.2.2.1) 0)))≤(s.1.length:Int)))) (cond ((decide (0≤s.2.1))&&(decide (s.2.1≤((a00 (wrap .i64 (s.2.1+(a04 s.2.2.2.1 (a00 s.2.2.1) 0))):Nat):Int)))) ((l0z s.2.2.2.2.2.1.2.1 s.2.2.1).bind fun x4=> (a0L (s.2.2.2.2.1,wrap .u64 x4,5)).bind fun y5=> (show Option ((List Int)×(Int×(Int×((List Int)×(((List Int)×Unit)×Z23)))))from(l0z s.2.2.2.2.2.1.2.1 s.2.2.1).bind fun x6=> cond (x6==31) ((a6Z (a16 (a00 s.2.1) (a06 (a00 (wrap .i64 (s.2.1+(a04 s.2.2.2.1 (a00 s.2.2.1) 0)))) s.1))).bind fun y7=> (a0L (y5.2,wrap .u64 y7,5)).bind fun y8=> (a2I (y8.2,a16 (a00 s.2.1) (a06 (a00 (wrap .i64 (s.2.1+(a04 s.2.2.2.1 (a00 s.2.2.1) 0)))) s.1),y7)).bind fun y9=> some (s.1,s.2.1,s.2.2.1,s.2.2.2.1,y9,s.2.2.2.2.2.1,())) ((l0z s.2.2.2.2.2.1.2.1 s.2.2.1).bind fun x10=> (b1x (y5.2,x10,a16 (a00 s.2.1) (a06 (a00 (wrap .i64 (s.2.1+(a04 s.2.2.2.1 (a00 s.2.2.1) 0)))) s.1))).bind fun y11=> some (s.1,s.2.1,s.2.2.1,s.2.2.2.1,y11.2,s.2.2.2.2.2.1,()))).bind fun z12=> cond ((decide (0≤z12.2.2.1))&&(decide (z12.2.2.1<(z12.2.2.2.1.length:Int)))) (some (.inl (z12.1,wrap .i64 (z12.2.1+(a04 z12.2.2.2.1 (a00 z12.2.2.1) 0)),wrap .i64 (z12.2.2.1+1),z12.2.2.2.1,z12.2.2.2.2.1,z12.2.2.2.2.2.1,()))) none) none) none) none) (some (.inr (s.2.2.2.2.1,())))
def a9Y(x:(((List Int)×Unit)×Z66)):Option Z4:= (a9j (x.2.1,x.2.2.1,x.2.2.2.1,x.2.2.2.2)).bind fun y1=> cond (y1==0) (some (1,x.1)) ((a0L (x.1,wrap .u64 x.2.1.1,4)).bind fun y2=> (a3V (x.2.1.1,x.2.2.1,x.2.2.2.1)).bind fun y3=> (x0r a3u (x.2.2.2.2,0,0,y3,y2.2,x.2.1,())).bind fun w13=> some (0,w13.1))
def b7Q:FSem:=⟨[.r false (.b Q1),.v Q8,.v QI,.v QI,.v QL],[.v QI],a9Y⟩
def d7W:Hints:=⟨[(250,[.sv 4 QL,.sv 12 QI,.sv 13 QI,.own 11 11 QI,.box pinned Q1,.ptr 0 pinned [],.vp 6 Q8],[(.exit 0,[.box pinned Q1])])],[(16019,[(.normal,[.sv 4 QL,.sv 12 QI,.sv 13 QI,.own 11 11 QI,.box pinned Q1,.ptr 0 pinned [],.vp 6 Q8])])],[]⟩
def a8u(s:(Int×c6l)):Option ((Int×c6l) ⊕ c6l):= cond (decide (s.2.2.1<(s.2.2.2.2.1.2.2.2.2.2.2.2.1.length:Int))) ((l0z s.2.2.2.2.1.2.2.2.2.2.2.2.1 s.2.2.1).bind fun x12=> (a0L (s.2.2.2.1,wrap .u64 (wrap .i64 (x12.1-1)),5)).bind fun y13=> (l0z s.2.2.2.2.1.2.2.2.2.2.2.2.1 s.2.2.1).bind fun x14=> (a0L (y13.2,wrap .u64 x14.2.1,4)).bind fun y15=> some (.inl (s.1,s.2.1,wrap .i64 (s.2.2.1+1),y15.2,s.2.2.2.2.1,()))) (some (.inr (s.1,s.2.1,s.2.2.2.1,s.2.2.2.2.1,())))
def a8H(x:(((List Int)×Unit)×b0T)):Option Z4:= (b1u (x.2.1,x.2.2)).bind fun y1=> cond (!y1) (some (1,x.1)) ((a6Z x.2.1.2.2.2.2.2.2.2.2.1).bind fun y2=> (a0L (x.1,wrap .u64 x.2.1.1,3)).bind fun y3=> (a0L (y3.2,wrap .u64 x.2.1.2.1,5)).bind fun y4=> (a0L (y4.2,wrap .u64 y2,5)).bind fun y5=> (show Option c6l from cond (x.2.1.1==2) ((a0L (y5.2,wrap .u64 x.2.1.2.2.1,3)).bind fun y6=> some (x.2.2,y2,y6.2,x.2.1,())) (cond (x.2.1.1==3) ((a5Q (y5.2,x.2.1)).bind fun y7=> some (x.2.2,y2,y7,x.2.1,())) (cond (x.2.1.1==4) ((a0L (y5.2,wrap .u64 (wrap .i64 (x.2.1.2.2.2.2.1-1)),10)).bind fun y8=> (a2I (y8.2,a06 3 x.2.1.2.2.2.2.2.2.1,8)).bind fun y9=> (a5Q (y9,x.2.1)).bind fun y10=> some (x.2.2,y2,y10,x.2.1,())) (cond (x.2.1.1==5) ((a0L (y5.2,wrap .u64 (x.2.1.2.2.2.2.2.2.2.1.length:Int),2)).bind fun y11=> (x0r a8u (x.2.2,y2,0,y11.2,x.2.1,())).bind fun w16=> some (w16.1,w16.2.1,w16.2.2.1,w16.2.2.2.1,())) (some (x.2.2,y2,y5.2,x.2.1,())))))).bind fun z17=> (a2I (z17.2.2.1,z17.2.2.2.1.2.2.2.2.2.2.2.2.1,z17.2.1)).bind fun y18=> (a7G z17.2.2.2.1.1).bind fun y19=> cond y19 ((a9Y (y18,z17.2.2.2.1.2.2.2.2.2.2.2.2.2.1,z17.1,(z17.2.2.2.1.2.2.2.2.2.2.2.2.1.length:Int),z17.2.2.2.1.2.2.2.2.2.2.2.2.2.2.1)).bind fun y20=> some (0,y20.2)) (some (0,y18)))
def b8A:FSem:=⟨[.r false (.b Q1),.v Q32,.v QI],[.v QI],a8H⟩
def H68:Hints:=⟨[(2086902,[.sv 2 QI,.sv 7 QI,.sv 8 QI,.box pinned Q1,.ptr 0 pinned [],.vp 4 Q32],[(.exit 1,[.sv 2 QI,.sv 7 QI,.box pinned Q1,.ptr 0 pinned [],.vp 4 Q32])])],[(127,[(.normal,[.sv 2 QI,.sv 7 QI,.box pinned Q1,.ptr 0 pinned [],.vp 4 Q32])])],[]⟩
def a7a(s:Z46):Option (Z46 ⊕ Z46):= cond (decide (s.2.2.1≥128)) (cond (lim ((a02 s.2.2.2.1)+1)) (some (.inl (s.1,s.2.1,z0h .u64 s.2.2.1 7,a03 s.2.2.2.1 [wrap .u8 (bits .u64 .or (bits .u64 .and s.2.2.1 127) 128)],()))) none) (some (.inr (s.1,s.2.1,s.2.2.1,s.2.2.2.1,())))
def a7b(s:Z30):Option (Z30 ⊕ ((List Int)×Unit)):= cond (decide (s.2.1<(s.1.length:Int))) ((l0z s.1 s.2.1).bind fun x1=> (x0r a7a (s.1,s.2.1,x1,s.2.2.1,())).bind fun w2=> cond (lim ((a02 w2.2.2.2.1)+1)) (some (.inl (w2.1,wrap .i64 (w2.2.1+1),a03 w2.2.2.2.1 [wrap .u8 w2.2.2.1],()))) none) (some (.inr (s.2.2.1,())))
def a2w(x:(List Int)):Option (List Int):= (x0r a7b (x,0,[],())).bind fun w3=> some w3.1
def b7R:FSem:=⟨[.v (.list false (.int .u64))],[.o (.int .u8)],a2w⟩
def H90:Hints:=⟨[(58,[.sv 0 (.list false (.int .u64)),.sv 4 QI,.own 3 3 (.int .u8)],[(.exit 0,[.own 3 3 (.int .u8)])]),(7460,[.sv 0 (.list false (.int .u64)),.sv 4 QI,.sv 5 (.int .u64),.own 3 3 (.int .u8)],[(.exit 2,[.sv 0 (.list false (.int .u64)),.sv 4 QI,.sv 5 (.int .u64),.own 3 3 (.int .u8)])])],[],[]⟩
def a9Z(s:(Int×(Int×((List Int)×a9n)))):Option ((Int×(Int×((List Int)×a9n))) ⊕ Z4):= cond (decide (s.2.1<(s.2.2.2.1.2.2.2.1.length:Int))) ((l0z s.2.2.2.1.2.2.2.1 s.2.1).bind fun x2=> (b2d x2.2.2.1).bind fun y3=> (a2w [wrap .u64 x2.1,wrap .u64 x2.2.1,y3]).bind fun y4=> cond (lim ((a02 s.2.2.1)+(a02 y4))) (some (.inl (s.1,wrap .i64 (s.2.1+1),a03 s.2.2.1 y4,s.2.2.2.1,()))) none) (some (.inr (s.1,s.2.2.1,())))
def b4e(x:(a4I×Int)):Option (List Int):= (a2w ([wrap .u64 x.1.1,wrap .u64 x.1.2.1,wrap .u64 x.1.2.2.1.1,wrap .u64 x.1.2.2.1.2.1,wrap .u64 x.1.2.2.1.2.2.1,wrap .u64 (x.1.2.2.2.1.length:Int)]:List Int)).bind fun y1=> (x0r a9Z (x.2,0,y1,x.1,())).bind fun w5=> (a2w [wrap .u64 w5.1]).bind fun y6=> cond (lim ((a02 w5.2.1)+(a02 y6))) (cond (lim (2+(a02 (a03 w5.2.1 y6)))) (some (a03 [245,75] (a03 w5.2.1 y6))) none) none
def c1h:FSem:=⟨[.v Q50,.v QI],[.o (.int .u8)],b4e⟩
def H69:Hints:=⟨[(58,[.sv 1 QI,.sv 6 QI,.own 5 5 (.int .u8),.vp 2 Q50],[(.exit 0,[.sv 1 QI,.own 5 5 (.int .u8)])])],[],[(6,[.q,.q,.q,.v,.q,.q,.v,.q,.q,.v,.q,.q,.x,.x])]⟩
def a4s(s:(Int×((List Int)×Z9))):Option ((Int×((List Int)×Z9)) ⊕ ((List Int)×Z9)):= cond (decide (s.1<(s.2.2.1.1.length:Int))) (cond ((decide (0≤(wrap .i64 (a05 s.1 8))))&&(decide ((wrap .i64 (a05 s.1 8))<(s.2.1.length:Int)))) (cond ((decide (0≤s.1))&&(decide (s.1<(s.2.2.1.1.length:Int)))) (cond (decide ((wrap .u64 (wrap .i64 (7-(a07 s.1 8))))<0)) none (cond ((decide (0≤(wrap .i64 (a05 s.1 8))))&&(decide ((wrap .i64 (a05 s.1 8))<(s.2.1.length:Int)))) (some (.inl (wrap .i64 (s.1+1),a08 s.2.1 (a00 (wrap .i64 (a05 s.1 8))) (bits .u8 .or (a04 s.2.1 (a00 (wrap .i64 (a05 s.1 8))) 0) (z0g .u8 (a04 s.2.2.1.1 (a00 s.1) 0) (wrap .u64 (wrap .i64 (7-(a07 s.1 8)))))),s.2.2.1,()))) none)) none) none) (some (.inr (s.2.1,s.2.2.1,())))
def a6o(x:((List Int)×Unit)):Option Z15:= cond ((decide (0≤(wrap .i64 (a05 (wrap .i64 ((x.1.length:Int)+7)) 8))))&&((decide ((wrap .i64 (a05 (wrap .i64 ((x.1.length:Int)+7)) 8))≤(wrap .i64 (a05 (wrap .i64 ((x.1.length:Int)+7)) 8))))&&(lim (a00 (wrap .i64 (a05 (wrap .i64 ((x.1.length:Int)+7)) 8)))))) ((x0r a4s (0,a01 (a00 (wrap .i64 (a05 (wrap .i64 ((x.1.length:Int)+7)) 8))) 0,x,())).bind fun w1=> some (w1.1,w1.2.1)) none
def b3P:FSem:=⟨[.r false (.b Q1)],[.o (.int .u8)],a6o⟩
def H70:Hints:=⟨[(58,[.sv 4 QI,.own 3 3 (.int .u8),.box pinned Q1,.ptr 0 pinned []],[(.exit 0,[.own 3 3 (.int .u8),.box pinned Q1])])],[],[(5,[.q,.v,.v,.q,.v,.v,.q,.q,.p,.p,.q,.q,.v,.q,.q,.v,.v,.v,.v,.v,.v,.x,.x])]⟩
def b0A(s:(Int×(((List Int)×Unit)×a9n))):Option ((Int×(((List Int)×Unit)×a9n)) ⊕ (((List Int)×Unit)×a9n)):= cond (decide (s.1<(s.2.2.1.2.2.2.2.1.length:Int))) ((l0z s.2.2.1.2.2.2.2.1 s.1).bind fun x1=> (a8H (s.2.1,x1,s.2.2.1.2.1)).bind fun y2=> some (.inl (wrap .i64 (s.1+1),y2.2,s.2.2.1,()))) (some (.inr (s.2.1,s.2.2.1,())))
def b4f(x:a4I):Option (List Int):= (x0r b0A (0,([],()),x,())).bind fun w3=> (a6o w3.1).bind fun y4=> (b4e (w3.2.1,(y4.1.length:Int))).bind fun y5=> some y5
def c1i:FSem:=⟨[.v Q50],[.o (.int .u8)],b4f⟩
def H20:Hints:=⟨[(58,[.sv 4 QI,.box 6 Q1,.vp 1 Q50,.ptr 3 6 []],[(.exit 0,[.box 6 Q1,.vp 1 Q50,.ptr 3 6 []])])],[],[(5,[.q,.v,.v,.v,.v,.v,.v,.v,.x]),(6,[.v,.q,.w [6,25,1025],.q,.x,.x])]⟩
def a1Y(s:(Int×Int×Bool×Z4)):Option ((Int×Int×Bool×Z4) ⊕ Z8):= cond (decide (s.2.2.2.1<16)) (cond (decide ((wrap .i64 (s.2.1+s.2.2.2.1))<(wrap .i64 (8*(s.2.2.2.2.1.length:Int))))) (cond (decide ((wrap .u64 s.2.2.2.1)<0)) none (cond ((bits .u16 .and (z0h .u16 s.1 (wrap .u64 s.2.2.2.1)) 1)==1) (cond ((decide (0≤(wrap .i64 (a05 (wrap .i64 (s.2.1+s.2.2.2.1)) 8))))&&(decide ((wrap .i64 (a05 (wrap .i64 (s.2.1+s.2.2.2.1)) 8))<(s.2.2.2.2.1.length:Int)))) (cond (decide ((wrap .u64 (wrap .i64 (7-(a07 (wrap .i64 (s.2.1+s.2.2.2.1)) 8))))<0)) none (cond ((decide (0≤(wrap .i64 (a05 (wrap .i64 (s.2.1+s.2.2.2.1)) 8))))&&(decide ((wrap .i64 (a05 (wrap .i64 (s.2.1+s.2.2.2.1)) 8))<(s.2.2.2.2.1.length:Int)))) (some (.inl (s.1,s.2.1,true,wrap .i64 (s.2.2.2.1+1),a08 s.2.2.2.2.1 (a00 (wrap .i64 (a05 (wrap .i64 (s.2.1+s.2.2.2.1)) 8))) (bits .u8 .xor (a04 s.2.2.2.2.1 (a00 (wrap .i64 (a05 (wrap .i64 (s.2.1+s.2.2.2.1)) 8))) 0) (z0g .u8 1 (wrap .u64 (wrap .i64 (7-(a07 (wrap .i64 (s.2.1+s.2.2.2.1)) 8)))))),()))) none)) none) (some (.inl (s.1,s.2.1,s.2.2.1,wrap .i64 (s.2.2.2.1+1),s.2.2.2.2.1,()))))) (some (.inr (s.2.2.1,s.2.2.2.2.1,())))) (some (.inr (s.2.2.1,s.2.2.2.2.1,())))
def a9r(x:(Z13×Int×Int×Int)):Option Bool:= (b5U ()).bind fun y1=> cond (!y1) (some false) ((show Option (Int×Int×Int×Z58)from(b4b (x.1,60)).bind fun y2=> cond (!y2) (some (x.2.1,x.2.2.1,x.2.2.2,true,x.1,())) ((a6B x.1).bind fun y3=> cond (!y3) (some (x.2.1,x.2.2.1,x.2.2.2,true,x.1,())) (some (x.2.1,x.2.2.1,x.2.2.2,x.2.2.2==0,x.1,())))).bind fun z4=> cond z4.2.2.2.1 (some true) ((a6z (z4.2.2.2.2.1,(1,(z4.2.2.2.2.1.2.1.length:Int),z4.2.2.2.2.1.1,()),0,bits .i64 .and z4.1 3)).bind fun y5=> (a9F y5.1).bind fun y6=> (show Option (Int×(Int×(Bool×((List Int)×a9n))))from cond (y5.2 != 0) (some (z4.2.1,z4.2.2.1,true,y6.1,y5.1,())) (some (z4.2.1,z4.2.2.1,y6.2 != 0,y6.1,y5.1,()))).bind fun z7=> cond z7.2.2.1 (some false) ((b4f z7.2.2.2.2.1).bind fun y8=> cond (decide ((wrap .i64 ((y8.length:Int)+1))≥(z7.2.2.2.1.length:Int))) (some false) (cond ((wrap .i64 ((wrap .i64 (8*(z7.2.2.2.1.length:Int)))-(wrap .i64 (8*(wrap .i64 ((y8.length:Int)+1))))))==0) none ((x0r a1Y (z7.2.1,wrap .i64 ((wrap .i64 (8*(wrap .i64 ((y8.length:Int)+1))))+(a07 (bits .i64 .and z7.1 65535) (wrap .i64 ((wrap .i64 (8*(z7.2.2.2.1.length:Int)))-(wrap .i64 (8*(wrap .i64 ((y8.length:Int)+1)))))))),false,0,z7.2.2.2.1,())).bind fun w9=> (a4S w9.2.1).bind fun y10=> cond (!w9.1) (some true) (cond (y10.2.2==5) (some (y10.2.1==0)) (some false)))))))
def a9s:FSem:=⟨[.v Q11,.v QI,.v QI,.v (.int .u16)],[.v .bool],a9r⟩
def H3:Hints:=⟨[(65530,[.sv 3 (.int .u16),.sv 16 QI,.sv 17 .bool,.sv 18 QI,.own 12 12 (.int .u8)],[(.exit 0,[.sv 17 .bool,.own 12 12 (.int .u8)])])],[(14,[(.normal,[.sv 1 QI,.sv 2 QI,.sv 3 (.int .u16),.sv 35 .bool,.vp 4 Q11])]),(254,[(.normal,[.sv 2 QI,.sv 3 (.int .u16),.sv 60 .bool,.own 12 12 (.int .u8),.box 10 Q50,.ptr 10 10 []])])],[]⟩
end Go.Ab
namespace Go.Ab
open Go.Proofs
set_option maxRecDepth 100000
theorem b5t:Tryz.prog.follows .mixedOrders=true:=by kernel_rfl
theorem d7X:z0w Tryz.prog c3P=true:=by kernel_rfl
theorem d7Y:z0u Tryz.prog c3X=true:=by kernel_rfl
theorem d7Z:z0r Tryz.prog c3P c6o=true:=by kernel_rfl
theorem laidOut:laidOutB Tryz.prog=true:=by kernel_rfl
@[reducible] def Ok0(n:Nat)(s:FSem):Prop:=f0r Tryz.prog G0 n s∧i0o Tryz.prog n
theorem cxo{a:List (Nat×FSem)}{b:List (Nat×Ty)}{c d:List Nat}(h:∀p∈a,Ok0 p.1 p.2):CxOk Tryz.prog (b0U a b c d):=
 CxOk.of (CxTy.of (tab:=c3P) (l:=c6o) (q:=c3X) (fun _=>rfl) (fun _=>rfl) (fun _=>rfl) d7X d7Y d7Z) (fun _=>rfl) h
theorem fo (a : List (Nat × FSem)) (b : List (Nat × Ty)) (c d : List Nat) (H : Hints) {n : Nat} {fn : Func} {e : Code} {s : FSem} (h : ∀ p ∈ a, Ok0 p.1 p.2) (hf : Tryz.prog.funcs[n]? = some fn) (hb : fn.body = some e := by rfl) (hk : z0f fn e H s = true := by kernel_rfl) (hn : (fn.name == "runtime.NumGoroutine") = false := by kernel_rfl) (hq : ∀ x, z0c (b0U a b c d) H fn s.ps s.rs x = s.F x := by intro x; kernel_rfl) : Ok0 n s :=
 ⟨f0r.of (cxo h) b5t hf hb hk hq,⟨_,_,hf,hb,hn⟩⟩
theorem d1L:Ok0 22 b5M:=
 fo [] [] [0,2] [1] H22 a0 Tryz.func22
theorem d2A:Ok0 175 b8b:=
 fo [] [] [0,2] [] d4R a0 Tryz.func175
theorem d2B:Ok0 176 b7E:=
 fo [] [] [0,2] [] d4S a0 Tryz.func176
theorem c8G:Ok0 95 a9K:=
 fo [(175,b8b),(176,b7E)] [] [0,1,4] [] H95 (a1 d2A (a1 d2B a0)) Tryz.func95
theorem c9J:Ok0 111 b3p:=
 fo [] [] [0,2] [] d4T a0 Tryz.func111
theorem c8H:Ok0 56 b2p:=
 fo [(22,b5M),(95,a9K),(111,b3p)] [] [0,2,4,6] [1] H56 (a1 d1L (a1 c8G (a1 c9J a0))) Tryz.func56
theorem d1M:Ok0 57 b3q:=
 fo [(111,b3p)] [] [0,2] [1] H57 (a1 c9J a0) Tryz.func57
theorem c9K:Ok0 189 b5N:=
 fo [] [] [0,2] [] d4U a0 Tryz.func189
theorem c6q:Ok0 113 b2q:=
 fo [(189,b5N)] [] [0,2,4,6] [] d4V (a1 c9K a0) Tryz.func113
theorem c6r:Ok0 114 b3S:=
 fo [] [] [0,1,4] [] d4W a0 Tryz.func114
theorem c1j:Ok0 183 a1a:=
 ⟨f0r.of (cx:=c9G) (cxo a0) b5t Tryz.func183 rfl (by kernel_rfl) d2u,⟨_,_,Tryz.func183,rfl,by kernel_rfl⟩⟩
theorem c9L:Ok0 115 b3r:=
 fo [(183,a1a)] [(15,.list true (.list true QI))] [0,2,3,5] [] d4Y (a1 c1j a0) Tryz.func115
theorem c9M:Ok0 116 b4u:=
 fo [(189,b5N)] [] [0,1,2,6,7,8,9] [4] d4Z (a1 c9K a0) Tryz.func116
theorem d1N:Ok0 59 b8c:=
 fo [(113,b2q),(114,b3S),(115,b3r),(116,b4u)] [] [0,1,4,5,6] [] H59 (a1 c6q (a1 c6r (a1 c9L (a1 c9M a0)))) Tryz.func59
theorem d2C:Ok0 187 b7F:=
 fo [(113,b2q)] [] [0,2,3,5,6,7] [] d5a (a1 c6q a0) Tryz.func187
theorem d2D:Ok0 188 b8d:=
 fo [] [] [0,2,4,8,12,17] [] d5b a0 Tryz.func188
theorem d2E:Ok0 112 b9h:=
 fo [(59,b8c),(187,b7F),(188,b8d)] [] [0,2,3,4,5,6,7,8] [] d5c (a1 d1N (a1 d2C (a1 d2D a0))) Tryz.func112
theorem d8a:Ok0 58 b9i:=
 fo [(56,b2p),(112,b9h)] [] [0,2,3,4] [1] H58 (a1 c8H (a1 d2E a0)) Tryz.func58
theorem c6s:Ok0 117 a9L:=
 fo [] [] [0,2,4] [] d5d a0 Tryz.func117
theorem c9N:Ok0 190 b3s:=
 fo [] [] [0,2] [] d5e a0 Tryz.func190
theorem c9O:Ok0 118 b3t:=
 fo [(190,b3s)] [] [0,1,4,5,6,8] [] d5f (a1 c9N a0) Tryz.func118
theorem d2F:Ok0 191 a1i:=
 ⟨f0r.of (cx:=b0W) (cxo a0) b5t Tryz.func191 rfl (by kernel_rfl) d2v,⟨_,_,Tryz.func191,rfl,by kernel_rfl⟩⟩
theorem c9P:Ok0 119 b0X:=
 fo [(191,a1i)] [] [0,2,3,5] [] d5g (a1 d2F a0) Tryz.func119
theorem c9Q:Ok0 288 b4w:=
 fo [] [] [0,2,4] [] d5h a0 Tryz.func288
theorem c9R:Ok0 243 b4x:=
 fo [(288,b4w)] [] [0,1,4,5,6,7] [] d5i (a1 c9Q a0) Tryz.func243
theorem d2G:Ok0 244 b7G:=
 fo [] [] [0,1,4,5,6,7] [] d5j a0 Tryz.func244
theorem d2H:Ok0 192 b8f:=
 fo [(243,b4x),(244,b7G)] [] [0,2,3,4,5,6,7,8] [] d5k (a1 c9R (a1 d2G a0)) Tryz.func192
theorem c6t:Ok0 292 a9N:=
 fo [] [] [0,2] [] d5l a0 Tryz.func292
theorem c6u:Ok0 290 a6R:=
 fo [(292,a9N)] [] [0,2,4] [] d5m (a1 c6t a0) Tryz.func290
theorem c9S:Ok0 304 b1X:=
 fo [] [] [0,2] [] d5n a0 Tryz.func304
theorem d2I:Ok0 302 b5g:=
 fo [(304,b1X)] [] [0,2,3,5,6,7,8] [] d5o (a1 c9S a0) Tryz.func302
theorem d2J:Ok0 303 b1O:=
 fo [] [] [0,1,2,6,7,8,9,10] [] d5p a0 Tryz.func303
theorem d2K:Ok0 245 b4y:=
 fo [(183,a1a),(290,a6R),(302,b5g),(303,b1O),(304,b1X)] [] [0,1,4,5,6,7,8,9,10,11,12,13] [] d5q (a1 c1j (a1 c6u (a1 d2I (a1 d2J (a1 c9S a0))))) Tryz.func245
theorem d2L:Ok0 246 b6e:=
 fo [] [] [0,2,3,5,6,7,8,9,10,11] [] d5r a0 Tryz.func246
theorem d2M:Ok0 247 b6f:=
 fo [(95,a9K)] [] [0,1,4,5,6,8,9,10,11,13,14] [] d5s (a1 c8G a0) Tryz.func247
theorem c9T:Ok0 194 b3u:=
 fo [(245,b4y),(246,b6e),(247,b6f)] [] [0,1,2,6,7,8,9,10,11] [] d5t (a1 d2K (a1 d2L (a1 d2M a0))) Tryz.func194
theorem c6v:Ok0 295 b2t:=
 fo [] [] [0,2] [] d5u a0 Tryz.func295
theorem c6w:Ok0 293 a8R:=
 fo [(295,b2t)] [] [0,2,4] [] d5v (a1 c6v a0) Tryz.func293
theorem d2N:Ok0 248 b9k:=
 fo [(293,a8R)] [] [0,1,2,6,7,8,9,10,11,12,13] [] d5w (a1 c6w a0) Tryz.func248
theorem c6x:Ok0 212 b3T:=
 fo [] [] [0,1,4,6] [3] d5x a0 Tryz.func212
theorem c9U:Ok0 294 b1Y:=
 fo [] [] [0,1,2,3,8,9,10,11,12] [7] d5y a0 Tryz.func294
theorem c6y:Ok0 250 a9z:=
 fo [(212,b3T),(293,a8R),(294,b1Y),(295,b2t)] [] [0,1,2,6,7,8,9,10,11] [5] d5z (a1 c6x (a1 c6w (a1 c9U (a1 c6v a0)))) Tryz.func250
theorem d2O:Ok0 305 b4z:=
 fo [] [] [0] [] d1E a0 Tryz.func305
theorem d2P:Ok0 249 b9m:=
 fo [(250,a9z),(305,b4z)] [] [0,1,5,7,8,11,12,13,15] [] d1F (a1 c6y (a1 d2O a0)) Tryz.func249
theorem d2Q:Ok0 195 b8g:=
 fo [(194,b3u),(248,b9k),(249,b9m),(250,a9z)] [] [0,3,4,5,7,8,9] [] d5A (a1 c9T (a1 d2N (a1 d2P (a1 c6y a0)))) Tryz.func195
theorem d2R:Ok0 193 b3a:=
 fo [(194,b3u)] [] [0,1,2,3,6,7,8] [] d5B (a1 c9T a0) Tryz.func193
theorem d2S:Ok0 120 b4A:=
 fo [(192,b8f),(193,b3a),(195,b8g)] [(5,.list true Q32)] [0,1,4,6,8,9] [67] d5C (a1 d2H (a1 d2R (a1 d2Q a0))) Tryz.func120
theorem c6z:Ok0 211 b0Y:=
 fo [] [] [0,1,4,6] [] d5D a0 Tryz.func211
theorem c9V:Ok0 271 b3v:=
 fo [] [] [0,2] [1] d5E a0 Tryz.func271
theorem c6A:Ok0 213 b2v:=
 fo [(271,b3v)] [] [0,2] [] d5F (a1 c9V a0) Tryz.func213
theorem c6B:Ok0 150 b5h:=
 fo [(211,b0Y),(212,b3T),(213,b2v)] [] [0,1,2,6,8,11,27,41,62] [4] d5G (a1 c6z (a1 c6x (a1 c6A a0))) Tryz.func150
theorem d1O:Ok0 183 a1J:=
 ⟨f0r.of (cx:=c7F) (cxo a0) b5t Tryz.func183 rfl (by kernel_rfl) d1G,⟨_,_,Tryz.func183,rfl,by kernel_rfl⟩⟩
theorem d1P:Ok0 251 a1d:=
 ⟨f0r.of (cx:=c7G) (cxo a0) b5t Tryz.func251 rfl (by kernel_rfl) d1H,⟨_,_,Tryz.func251,rfl,by kernel_rfl⟩⟩
theorem c9W:Ok0 196 b4B:=
 fo [(183,a1J),(251,a1d)] [] [0,1,9,11,13,15] [3] d5H (a1 d1O (a1 d1P a0)) Tryz.func196
theorem c6C:Ok0 151 b0Z:=
 fo [] [] [0,1,4,7,9,12,16] [2] d5I a0 Tryz.func151
theorem c9X:Ok0 291 b0F:=
 fo [] [] [0,1,2,6,7,8,9,10] [] d5J a0 Tryz.func291
theorem d2T:Ok0 252 b7H:=
 fo [(211,b0Y),(290,a6R),(291,b0F),(292,a9N)] [] [0,1,2,6,7,8,9,10] [] d5K (a1 c6z (a1 c6u (a1 c9X (a1 c6t a0)))) Tryz.func252
theorem c6D:Ok0 300 b1a:=
 fo [] [] [0,2] [] d5L a0 Tryz.func300
theorem c9Y:Ok0 296 b1b:=
 fo [(300,b1a)] [] [0,2,4] [] d5M (a1 c6D a0) Tryz.func296
theorem c9Z:Ok0 298 b5O:=
 fo [(271,b3v)] [(15,.pair QI Q10),(16,.pair QI Q10)] [0,2,3] [1] d5N (a1 c9V a0) Tryz.func298
theorem d0A:Ok0 327 b1c:=
 fo [] [] [0,2] [] d5O a0 Tryz.func327
theorem c6E:Ok0 299 a4o:=
 fo [(327,b1c)] [] [0,2,3,4,5] [] d5P (a1 d0A a0) Tryz.func299
theorem d0B:Ok0 301 a7Y:=
 fo [(299,a4o),(327,b1c)] [] [0,1,4,5,6,7,8,13,22] [] d5Q (a1 c6E (a1 d0A a0)) Tryz.func301
theorem d2U:Ok0 253 b8h:=
 fo [(183,a1a),(213,b2v),(296,b1b),(298,b5O),(299,a4o),(300,b1a),(301,a7Y)] [] [0,1,4,5,6,9,10,11,12,13] [] d5R (a1 c1j (a1 c6A (a1 c9Y (a1 c9Z (a1 c6E (a1 c6D (a1 d0B a0))))))) Tryz.func253
theorem d2V:Ok0 197 b9n:=
 fo [(151,b0Z),(183,a1a),(243,b4x),(250,a9z),(252,b7H),(253,b8h)] [] [0,1,4,5,6,11,22,37,67] [] d5S (a1 c6C (a1 c1j (a1 c9R (a1 c6y (a1 d2T (a1 d2U a0)))))) Tryz.func197
theorem c6F:Ok0 214 b2x:=
 fo [] [] [0,1,4] [] d5T a0 Tryz.func214
theorem c1k:Ok0 201 a5p:=
 fo [(214,b2x)] [] [0,1,2,6,7,8] [] d5U (a1 c6F a0) Tryz.func201
theorem d0C:Ok0 236 b5P:=
 fo [(201,a5p)] [] [0,1,2,6,7,9] [3] d5V (a1 c1k a0) Tryz.func236
theorem d0D:Ok0 254 b3w:=
 fo [(214,b2x)] [] [0,1,2,6,8] [] d5W (a1 c6F a0) Tryz.func254
theorem b6S:Ok0 124 a2E:=
 fo [(95,a9K)] [] [0,2,3,5] [] d5X (a1 c8G a0) Tryz.func124
theorem d0E:Ok0 256 b5Q:=
 fo [(124,a2E)] [] [0,2] [] d5Y (a1 b6S a0) Tryz.func256
theorem c6G:Ok0 258 a6V:=
 fo [] [] [0,2] [] d5Z a0 Tryz.func258
theorem c6H:Ok0 259 b2y:=
 fo [] [] [0,2] [] d6a a0 Tryz.func259
theorem d0F:Ok0 260 b5R:=
 fo [(259,b2y)] [] [0,2,3,7] [] d6b (a1 c6H a0) Tryz.func260
theorem d2W:Ok0 307 b9o:=
 fo [(258,a6V),(259,b2y),(260,b5R)] [] [0,1,4,5] [] d6c (a1 c6G (a1 c6H (a1 d0F a0))) Tryz.func307
theorem c6I:Ok0 257 b3U:=
 fo [(307,b9o)] [] [0,1,4,5,7] [] d6d (a1 d2W a0) Tryz.func257
theorem d0G:Ok0 200 b4D:=
 fo [(201,a5p),(236,b5P),(254,b3w),(256,b5Q),(257,b3U)] [] [0,1,2,3,8,9,10,11,12] [4] d6e (a1 c1k (a1 d0C (a1 d0D (a1 d0E (a1 c6I a0))))) Tryz.func200
theorem d2X:Ok0 306 b9p:=
 fo [(257,b3U)] [] [0,2,3,4,5,6] [] d6f (a1 c6I a0) Tryz.func306
theorem d2Y:Ok0 255 b6g:=
 fo [(256,b5Q),(257,b3U),(306,b9p)] [] [0,2,3] [] d6g (a1 d0E (a1 c6I (a1 d2X a0))) Tryz.func255
theorem d2Z:Ok0 198 b8i:=
 fo [(200,b4D),(201,a5p),(254,b3w),(255,b6g)] [(14,.pair QI Q2),(40,.pair QI Q2)] [0,1,2,3,9,11,12,13,15,17,18] [] d6h (a1 d0G (a1 c1k (a1 d0D (a1 d2Y a0)))) Tryz.func198
theorem d3a:Ok0 121 c0V:=
 fo [(117,a9L),(118,b3t),(119,b0X),(150,b5h),(196,b4B),(197,b9n),(198,b8i)] [] [0,1,2,7,8,11,12,13] [5] d6i (a1 c6s (a1 c9O (a1 c9P (a1 c6B (a1 c9W (a1 d2V (a1 d2Z a0))))))) Tryz.func121
theorem c6J:Ok0 128 b1f:=
 fo [] [] [0,2] [] d6j a0 Tryz.func128
theorem d3b:Ok0 235 b9q:=
 fo [(196,b4B)] [] [0,2] [1] d6k (a1 c9W a0) Tryz.func235
theorem d3c:Ok0 184 b8j:=
 fo [(117,a9L),(128,b1f),(150,b5h),(151,b0Z),(235,b9q),(236,b5P)] [] [0,1,4,5] [2] d6l (a1 c6s (a1 c6J (a1 c6B (a1 c6C (a1 d3b (a1 d0C a0)))))) Tryz.func184
theorem d3d:Ok0 325 b5i:=
 fo [] [] [0,1,3] [] d6m a0 Tryz.func325
theorem d3e:Ok0 289 b7I:=
 fo [(325,b5i)] [] [0,1,4,5,8,12,20,32] [] d6n (a1 d3d a0) Tryz.func289
theorem d3f:Ok0 237 b8k:=
 fo [(288,b4w),(289,b7I)] [] [0,1,2,6,7,8,10,11] [] d6o (a1 c9Q (a1 d3e a0)) Tryz.func237
theorem d3g:Ok0 238 b7J:=
 fo [(211,b0Y),(290,a6R),(291,b0F),(292,a9N)] [] [0,1,2,3,8,9,10,12,13] [] d6p (a1 c6z (a1 c6u (a1 c9X (a1 c6t a0)))) Tryz.func238
theorem d3h:Ok0 239 b9r:=
 fo [(212,b3T),(293,a8R),(294,b1Y),(295,b2t)] [] [0,1,2,6,7,8,9,10,11] [5] d6q (a1 c6x (a1 c6w (a1 c9U (a1 c6v a0)))) Tryz.func239
theorem d3i:Ok0 240 a8B:=
 ⟨f0r.ofR (cx:=c9H) (cxo (a1 c1j (a1 c6A (a1 c9Y (a1 c9Z (a1 c6E (a1 c6D (a1 d0B a0)))))))) b5t (r:=d1I) ⟨d0W,d0X⟩ Tryz.func240 rfl (by kernel_rfl) d2y,⟨_,_,Tryz.func240,rfl,by kernel_rfl⟩⟩
theorem d3j:Ok0 241 b9s:=
 fo [(190,b3s)] [] [0,1,4,5,6,8] [] d6s (a1 c9N a0) Tryz.func241
theorem d3k:Ok0 185 c0W:=
 fo [(237,b8k),(238,b7J),(239,b9r),(240,a8B),(241,b9s)] [] [0,1,4,5,6,7,10,24,28,40,54,79] [2] d6t (a1 d3f (a1 d3g (a1 d3h (a1 d3i (a1 d3j a0))))) Tryz.func185
theorem d0H:Ok0 106 b8l:=
 fo [(184,b8j),(185,c0W)] [] [0,1,4,5,6,7] [2] d6u (a1 d3c (a1 d3k a0)) Tryz.func106
theorem d0I:Ok0 123 b8m:=
 fo [(106,b8l)] [] [0,1,4,5,6] [2] d6v (a1 d0H a0) Tryz.func123
theorem c6K:Ok0 130 a6e:=
 fo [] [] [0,1] [] d6w a0 Tryz.func130
theorem c1l:Ok0 125 a2W:=
 fo [(130,a6e)] [] [0,1,2,6,7] [] d6x (a1 c6K a0) Tryz.func125
theorem d0J:Ok0 126 b1j:=
 fo [(125,a2W)] [] [0,1,2] [] d6y (a1 c1l a0) Tryz.func126
theorem d3l:Ok0 127 b6h:=
 fo [(124,a2E),(125,a2W),(126,b1j)] [] [0,1,4,6] [3] d6z (a1 b6S (a1 c1l (a1 d0J a0))) Tryz.func127
theorem d3m:Ok0 261 b1P:=
 fo [(130,a6e)] [] [0,1,4] [] d6A (a1 c6K a0) Tryz.func261
theorem d3n:Ok0 202 c0X:=
 fo [(125,a2W),(258,a6V),(259,b2y),(260,b5R),(261,b1P)] [] [0,1,2,6,8,10,11,12] [] d6B (a1 c1l (a1 c6G (a1 c6H (a1 d0F (a1 d3m a0))))) Tryz.func202
theorem d3o:Ok0 129 b9t:=
 fo [(124,a2E),(125,a2W),(200,b4D),(201,a5p),(202,c0X)] [] [0,1,2,3,4,10,11,12,13,14,16] [6] d6C (a1 b6S (a1 c1l (a1 d0G (a1 c1k (a1 d3n a0))))) Tryz.func129
theorem d1Q:Ok0 62 b8n:=
 fo [(123,b8m),(124,a2E),(125,a2W),(126,b1j),(127,b6h),(128,b1f),(129,b9t)] [] [0,1,2,6,7,9,13,37,39,41,43] [4] H62 (a1 d0I (a1 b6S (a1 c1l (a1 d0J (a1 d3l (a1 c6J (a1 d3o a0))))))) Tryz.func62
theorem d3p:Ok0 199 b3K:=
 fo [] [] [0,2] [] d6D a0 Tryz.func199
theorem d3q:Ok0 122 c0Y:=
 fo [(62,b8n),(199,b3K)] [(5,.pair (.list true (.int .u8)) Q0)] [0,1,4] [2] d6E (a1 d1Q (a1 d3p a0)) Tryz.func122
theorem d8b:Ok0 60 c0Z:=
 fo [(117,a9L),(118,b3t),(119,b0X),(120,b4A),(121,c0V),(122,c0Y)] [] [0,1,5,6,7,9,10,14,15] [] H60 (a1 c6s (a1 c9O (a1 c9P (a1 d2S (a1 d3a (a1 d3q a0)))))) Tryz.func60
theorem d1R:Ok0 18 b4E:=
 fo [(22,b5M),(56,b2p),(57,b3q),(58,b9i),(59,b8c),(60,c0Z)] [(10,.pair QI Q46),(52,.pair QI Q44),(57,.pair QI Q44),(63,.pair QI Q44),(79,.pair QI Q44),(95,.pair QI Q44)] [0,1,2,3,9,11,12,14,16] [4,5] H18 (a1 d1L (a1 c8H (a1 d1M (a1 d8a (a1 d1N (a1 d8b a0)))))) Tryz.func18
theorem d0K:Ok0 105 b3x:=
 fo [(57,b3q),(114,b3S)] [] [0,2] [1] d6F (a1 d1M (a1 c6r a0)) Tryz.func105
theorem d3r:Ok0 107 a9E:=
 ⟨f0r.ofR (cx:=c9I) (cxo (a1 c6q (a1 c6r (a1 c9L (a1 c9M a0))))) b5t (r:=d1J) ⟨d0Y,d0Z⟩ Tryz.func107 rfl (by kernel_rfl) d2z,⟨_,_,Tryz.func107,rfl,by kernel_rfl⟩⟩
theorem d1S:Ok0 50 b3y:=
 fo [(56,b2p),(105,b3x),(106,b8l),(107,a9E)] [] [0,3,4,7,8,9,10] [1] H50 (a1 c8H (a1 d0K (a1 d0H (a1 d3r a0)))) Tryz.func50
theorem d1T:Ok0 61 b5S:=
 fo [(50,b3y)] [] [0,2,4] [1] H61 (a1 d1S a0) Tryz.func61
theorem d8c:Ok0 63 b1Q:=
 fo [(130,a6e)] [] [0] [] H63 (a1 c6K a0) Tryz.func63
theorem d8d:Ok0 64 b1R:=
 fo [] [] [0,2] [] H64 a0 Tryz.func64
theorem d8e:Ok0 88 b9u:=
 fo [] [] [0,2,3,5] [] H88 a0 Tryz.func88
theorem d3s:Ok0 131 b9v:=
 fo [] [] [0,2] [] d6H a0 Tryz.func131
theorem d0L:Ok0 132 b4F:=
 fo [] [] [0,2,3,5,6] [] d6I a0 Tryz.func132
theorem d8f:Ok0 65 b5j:=
 fo [(88,b9u),(131,b9v),(132,b4F)] [] [0,1,4,5,8] [2] H65 (a1 d8e (a1 d3s (a1 d0L a0))) Tryz.func65
theorem d3t:Ok0 203 b7K:=
 fo [] [] [0,2] [] d6J a0 Tryz.func203
theorem d3u:Ok0 133 b7L:=
 fo [(203,b7K)] [] [0,1,4,5] [] d6K (a1 d3t a0) Tryz.func133
theorem d3v:Ok0 134 a6b:=⟨c8A _,⟨_,_,Tryz.func134,rfl,by kernel_rfl⟩⟩
theorem d8g:Ok0 66 b9w:=
 fo [(133,b7L),(134,a6b)] [] [0,1,4,5] [] H66 (a1 d3u (a1 d3v a0)) Tryz.func66
theorem d1U:Ok0 67 b1Z:=
 fo [] [] [0,2,3,5,6] [] H67 a0 Tryz.func67
theorem d1V:Ok0 19 b5T:=
 fo [(61,b5S),(62,b8n),(63,b1Q),(64,b1R),(65,b5j),(66,b9w),(67,b1Z)] [(4,.pair (.list true (.int .u8)) Q0)] [0,2,3,7,8,9] [1] H19 (a1 d1T (a1 d1Q (a1 d8c (a1 d8d (a1 d8f (a1 d8g (a1 d1U a0))))))) Tryz.func19
theorem d3w:Ok0 143 b9x:=
 fo [] [] [0,2] [] d6L a0 Tryz.func143
theorem d3x:Ok0 208 b6i:=
 fo [] [] [0,2,3,4,5,6,7] [] d6M a0 Tryz.func208
theorem d3y:Ok0 144 b3c:=
 fo [(208,b6i)] [] [0,1,4,5,6,7] [] d6N (a1 d3x a0) Tryz.func144
theorem d3z:Ok0 145 b9y:=
 fo [] [] [0,2,3] [] d6O a0 Tryz.func145
theorem d3A:Ok0 146 b3d:=
 fo [] [] [0,2] [] d6P a0 Tryz.func146
theorem d3B:Ok0 147 b1S:=
 fo [] [] [0,2] [] d6Q a0 Tryz.func147
theorem d3C:Ok0 148 b3L:=
 fo [] [] [0,2] [] d6R a0 Tryz.func148
theorem d1W:Ok0 71 b1o:=
 fo [(105,b3x),(132,b4F),(143,b9x),(144,b3c),(145,b9y),(146,b3d),(147,b1S),(148,b3L)] [(2,.pair QI Q45),(15,.pair QI Q44),(26,.pair QI Q44),(83,.pair QI Q44),(88,.pair QI Q44),(101,.pair QI Q44),(105,.pair QI Q44)] [0,3,4,5,6,7,8,9,10,11] [] H71 (a1 d0K (a1 d0L (a1 d3w (a1 d3y (a1 d3z (a1 d3A (a1 d3B (a1 d3C a0)))))))) Tryz.func71
theorem d8h:Ok0 72 c1a:=
 fo [] [] [0,2] [] H72 a0 Tryz.func72
theorem c2q:Ok0 76 a2j:=
 fo [] [] [0,2] [] H76 a0 Tryz.func76
theorem d1X:Ok0 74 a8E:=
 fo [] [] [0,2] [] H74 a0 Tryz.func74
theorem c6L:Ok0 154 a5J:=
 fo [] [] [0,1,4] [] d6S a0 Tryz.func154
theorem b9a:Ok0 209 a2k:=
 fo [(74,a8E),(154,a5J)] [] [0,1,4,5] [] d6T (a1 d1X (a1 c6L a0)) Tryz.func209
theorem c3Q:Ok0 152 a2Q:=
 fo [(209,a2k)] [] [0,1,4,5] [] d6U (a1 b9a a0) Tryz.func152
theorem d3D:Ok0 210 b6j:=
 fo [(124,a2E),(152,a2Q),(209,a2k)] [] [0,1,4,5,6] [] d6V (a1 b6S (a1 c3Q (a1 b9a a0))) Tryz.func210
theorem d3E:Ok0 149 b7M:=
 fo [(152,a2Q),(209,a2k),(210,b6j)] [(2,.pair QI Q29)] [0,3,4,5,6,7,21,23,25,27] [] d6W (a1 c3Q (a1 b9a (a1 d3D a0))) Tryz.func149
theorem d3F:Ok0 330 b1T:=
 fo [(154,a5J)] [] [0,1,4,5,6] [] d6X (a1 c6L a0) Tryz.func330
theorem d3G:Ok0 331 b7N:=
 fo [] [] [0,2,3,6] [] d6Y a0 Tryz.func331
theorem d3H:Ok0 313 c1b:=
 fo [(76,a2j),(209,a2k),(330,b1T),(331,b7N)] [] [0,1,4,5,6,7,8] [] d6Z (a1 c2q (a1 b9a (a1 d3F (a1 d3G a0)))) Tryz.func313
theorem d3I:Ok0 272 c1c:=
 fo [(76,a2j),(258,a6V),(313,c1b)] [] [0,1,2,6,7,8,9,10] [] d7a (a1 c2q (a1 c6G (a1 d3H a0))) Tryz.func272
theorem d3J:Ok0 215 b9z:=
 fo [(76,a2j),(124,a2E),(152,a2Q),(209,a2k),(272,c1c)] [] [0,1,4,5,6,7,8,9,10,11] [] d7b (a1 c2q (a1 b6S (a1 c3Q (a1 b9a (a1 d3I a0))))) Tryz.func215
theorem d3K:Ok0 153 b9A:=
 fo [(76,a2j),(201,a5p),(209,a2k),(214,b2x),(215,b9z)] [(11,.pair QI Q2),(41,.pair QI Q2)] [0,1,2,7,8,9,10,12,14,15,16,17] [] d7c (a1 c2q (a1 c1k (a1 b9a (a1 c6F (a1 d3J a0))))) Tryz.func153
theorem d8i:Ok0 73 c2M:=
 fo [(76,a2j),(123,b8m),(124,a2E),(128,b1f),(149,b7M),(150,b5h),(151,b0Z),(152,a2Q),(153,b9A)] [(7,.pair QI (.pair QI (.pair QI (.pair QI (.pair QI (.pair QL (.pair (.arr 3 QI) (.pair (.list false Q4) Q15))))))))] [0,1,5,6,8,9,10,11,12] [] H73 (a1 c2q (a1 d0I (a1 b6S (a1 c6J (a1 d3E (a1 c6B (a1 c6C (a1 c3Q (a1 d3K a0))))))))) Tryz.func73
theorem d8j:Ok0 75 b1U:=
 fo [(154,a5J)] [] [0,2,3] [] H75 (a1 c6L a0) Tryz.func75
theorem c8I:Ok0 21 a8F:=
 fo [(61,b5S),(67,b1Z),(71,b1o),(72,c1a),(73,c2M),(74,a8E),(75,b1U),(76,a2j)] [(5,.pair QI Q46)] [0,3,4,6,7,8,9,10,12] [] H21 (a1 d1T (a1 d1U (a1 d1W (a1 d8h (a1 d8i (a1 d1X (a1 d8j (a1 c2q a0)))))))) Tryz.func21
theorem d8k:Ok0 82 b1q:=
 fo [] [] [0,1,4,5] [] H82 a0 Tryz.func82
theorem c8J:Ok0 35 a7E:=
 fo [] [] [0,1,4,5] [] H35 a0 Tryz.func35
theorem d3L:Ok0 166 b4G:=
 fo [] [] [0,1,4,5] [] d7d a0 Tryz.func166
theorem d3M:Ok0 167 b6k:=
 fo [(35,a7E)] [] [0,1,4] [2,3] d7e (a1 c8J a0) Tryz.func167
theorem d1Y:Ok0 83 a9U:=
 fo [(35,a7E),(166,b4G),(167,b6k)] [] [0,1,4] [2,3] H83 (a1 c8J (a1 d3L (a1 d3M a0))) Tryz.func83
theorem d8l:Ok0 24 b5l:=
 fo [(82,b1q),(83,a9U)] [] [0,1,4,5] [2,3] H24 (a1 d8k (a1 d1Y a0)) Tryz.func24
theorem d8m:Ok0 51 b8p:=
 fo [(71,b1o)] [] [0,3,4,5,7,8,9] [] H51 (a1 d1W a0) Tryz.func51
theorem d3N:Ok0 108 b6m:=
 fo [(35,a7E)] [] [0,1,4,5] [] d1K (a1 c8J a0) Tryz.func108
theorem d8n:Ok0 52 b5n:=
 fo [(108,b6m)] [] [0,1,4] [2,3] H52 (a1 d3N a0) Tryz.func52
theorem d8o:Ok0 53 b8r:=
 fo [(21,a8F)] [] [0,1,4,5,7,8] [] H53 (a1 c8I a0) Tryz.func53
theorem d8p:Ok0 15 b9B:=
 fo [(18,b4E),(19,b5T),(21,a8F),(24,b5l),(50,b3y),(51,b8p),(52,b5n),(53,b8r)] [] [0,4,5,6,8,9,11,13,14,15] [] H15 (a1 d1R (a1 d1V (a1 c8I (a1 d8l (a1 d1S (a1 d8m (a1 d8n (a1 d8o a0)))))))) Tryz.func15
theorem d8q:Ok0 16 c1e:=
 fo [] [] [0,1,4,5] [2] H16 a0 Tryz.func16
theorem d8r:Ok0 54 b9C:=
 fo [] [] [0,2,3] [] H54 a0 Tryz.func54
theorem d3O:Ok0 109 c4b:=
 fo [] [] [0,2] [] d7f a0 Tryz.func109
theorem d3P:Ok0 110 c2N:=
 fo [] [] [0,2] [] d7g a0 Tryz.func110
theorem d1Z:Ok0 55 b8t:=
 fo [(109,c4b),(110,c2N)] [] [0,1,4] [] H55 (a1 d3O (a1 d3P a0)) Tryz.func55
theorem d8s:Ok0 17 b6n:=
 fo [(54,b9C),(55,b8t)] [] [0,2,3,4] [1] H17 (a1 d8r (a1 d1Z a0)) Tryz.func17
theorem d0M:Ok0 140 b3A:=
 fo [] [] [0,2] [] d7h a0 Tryz.func140
theorem b4g:Ok0 218 a4v:=
 fo [] [] [0,2] [] d7i a0 Tryz.func218
theorem b6T:Ok0 160 a3H:=
 fo [(218,a4v)] [] [0,2,3] [] d7j (a1 b4g a0) Tryz.func160
theorem c6M:Ok0 279 a8n:=
 fo [] [] [0,1,4,5] [] d7k a0 Tryz.func279
theorem d0N:Ok0 280 b3B:=
 fo [] [] [0,1,4,5] [3] d7l a0 Tryz.func280
theorem d0O:Ok0 318 b2b:=
 fo [] [] [0,2] [1] d7m a0 Tryz.func318
theorem d0P:Ok0 281 b2c:=
 fo [(318,b2b)] [] [0,2,3] [] d7n (a1 d0O a0) Tryz.func281
theorem d3Q:Ok0 223 b9D:=
 fo [(279,a8n),(280,b3B),(281,b2c)] [] [0,1,4,7,9,12,30,60] [2] d7o (a1 c6M (a1 d0N (a1 d0P a0))) Tryz.func223
theorem d3R:Ok0 262 b9E:=
 fo [] [] [0,28,33,41,55] [1] d7p a0 Tryz.func262
theorem d3S:Ok0 267 c4c:=
 fo [] [] [0,1,4] [] d7q a0 Tryz.func267
theorem c6N:Ok0 206 a8o:=
 fo [(267,c4c)] [] [0,1,2,6,7,8] [] d7r (a1 d3S a0) Tryz.func206
theorem c6O:Ok0 268 a9g:=
 fo [] [] [0,2] [] d7s a0 Tryz.func268
theorem d0Q:Ok0 263 b3C:=
 fo [(206,a8o),(268,a9g)] [] [0,1,2,6,7,8] [3] d7t (a1 c6N (a1 c6O a0)) Tryz.func263
theorem d3T:Ok0 328 b8u:=
 fo [] [] [0,2] [] d7u a0 Tryz.func328
theorem d3U:Ok0 308 b5o:=
 fo [(160,a3H),(218,a4v),(328,b8u)] [] [0,1,2,6,7,8,9,10,11,12] [] d7v (a1 b6T (a1 b4g (a1 d3T a0))) Tryz.func308
theorem d3V:Ok0 319 b3M:=
 fo [(218,a4v),(279,a8n)] [] [0,1,2,6,7,8,9] [] d7w (a1 b4g (a1 c6M a0)) Tryz.func319
theorem d3W:Ok0 309 b4I:=
 fo [(160,a3H),(218,a4v),(279,a8n),(319,b3M)] [] [0,1,2,3,8,9,10,11,12] [] d7x (a1 b6T (a1 b4g (a1 c6M (a1 d3V a0)))) Tryz.func309
theorem d3X:Ok0 317 b5p:=
 fo [] [] [0,1,2,6,7,8,9] [5] d7y a0 Tryz.func317
theorem d3Y:Ok0 310 b6o:=
 fo [(160,a3H),(218,a4v),(280,b3B),(317,b5p)] [] [0,1,2,6,7,8,9,10] [5] d7z (a1 b6T (a1 b4g (a1 d0N (a1 d3X a0)))) Tryz.func310
theorem d3Z:Ok0 320 b5q:=
 fo [(318,b2b)] [(15,.pair QI Q10),(16,.pair QI Q10)] [0,2,3] [1] d7A (a1 d0O a0) Tryz.func320
theorem d0R:Ok0 335 b6R:=
 fo [] [] [0,2] [] d7B a0 Tryz.func335
theorem d0S:Ok0 321 a8G:=
 fo [(335,b6R)] [] [0,2,3,4] [] d7C (a1 d0R a0) Tryz.func321
theorem d4a:Ok0 336 c1f:=
 fo [] [] [0,2,3,6] [] d7D a0 Tryz.func336
theorem d4b:Ok0 322 b3N:=
 fo [(321,a8G),(335,b6R),(336,c1f)] [] [0,1,4,5,6,7] [] d7E (a1 d0S (a1 d0R (a1 d4a a0))) Tryz.func322
theorem d4c:Ok0 311 b5r:=
 fo [(160,a3H),(218,a4v),(281,b2c),(320,b5q),(321,a8G),(322,b3N)] [] [0,1,4,5,6,7,8,9,10,11] [] d7F (a1 b6T (a1 b4g (a1 d0P (a1 d3Z (a1 d0S (a1 d4b a0)))))) Tryz.func311
theorem d4d:Ok0 264 c1g:=
 fo [(308,b5o),(309,b4I),(310,b6o),(311,b5r)] [] [0,2,3,4,5,8,19,32,57] [1] d7G (a1 d3U (a1 d3W (a1 d3Y (a1 d4c a0)))) Tryz.func264
theorem d4e:Ok0 265 c5H:=
 fo [(218,a4v)] [] [0,1,4,5,6,7] [] d7H (a1 b4g a0) Tryz.func265
theorem d4f:Ok0 204 b8v:=
 fo [(83,a9U),(140,b3A),(160,a3H),(223,b9D),(262,b9E),(263,b3C),(264,c1g),(265,c5H)] [] [0,1,4,5,6,7,8,9,10,11,12] [2] d7I (a1 d1Y (a1 d0M (a1 b6T (a1 d3Q (a1 d3R (a1 d0Q (a1 d4d (a1 d4e a0)))))))) Tryz.func204
theorem d4g:Ok0 135 b8w:=
 fo [(204,b8v)] [] [0,1,4,5,6] [2] d7J (a1 d4f a0) Tryz.func135
theorem c3R:Ok0 136 b1v:=
 fo [(55,b8t)] [] [0,2,3,4] [] d7K (a1 d1Z a0) Tryz.func136
theorem c1m:Ok0 137 a3X:=
 fo [] [] [0,1,2,6,7] [] d7L a0 Tryz.func137
theorem c6P:Ok0 139 a9i:=
 fo [(137,a3X)] [] [0,1,2,6] [] d7M (a1 c1m a0) Tryz.func139
theorem d4h:Ok0 138 b5s:=
 fo [(136,b1v),(137,a3X),(139,a9i)] [] [0,1,4] [3] d7N (a1 c3R (a1 c1m (a1 c6P a0))) Tryz.func138
theorem d0T:Ok0 142 b9Z:=
 fo [] [] [0,2,3] [] d7O a0 Tryz.func142
theorem d0U:Ok0 269 b8x:=
 fo [(142,b9Z),(218,a4v)] [] [0,2] [] d7P (a1 d0T (a1 b4g a0)) Tryz.func269
theorem d4i:Ok0 329 b7O:=
 fo [(218,a4v),(268,a9g),(269,b8x)] [] [0,1,4,5] [] d7Q (a1 b4g (a1 c6O (a1 d0U a0))) Tryz.func329
theorem d4j:Ok0 312 b8y:=
 fo [(329,b7O)] [] [0,1,4,5,6] [] d7R (a1 d4i a0) Tryz.func312
theorem d4k:Ok0 266 b7P:=
 fo [(136,b1v),(312,b8y)] [] [0,1,4] [] d7S (a1 c3R (a1 d4j a0)) Tryz.func266
theorem d4l:Ok0 205 b6p:=
 fo [(160,a3H),(206,a8o),(263,b3C),(266,b7P)] [] [0,1,2,3,8,9,10,11,12] [4] d7T (a1 b6T (a1 c6N (a1 d0Q (a1 d4k a0)))) Tryz.func205
theorem d4m:Ok0 270 b3O:=
 fo [] [] [0,1,4,5] [] d7U a0 Tryz.func270
theorem d4n:Ok0 207 b8z:=
 fo [(137,a3X),(160,a3H),(268,a9g),(269,b8x),(270,b3O)] [] [0,1,2,6,7,8,9] [] d7V (a1 c1m (a1 b6T (a1 c6O (a1 d0U (a1 d4m a0))))) Tryz.func207
theorem d4o:Ok0 141 b7Q:=
 fo [(136,b1v),(137,a3X),(139,a9i),(205,b6p),(206,a8o),(207,b8z)] [] [0,1,2,3,4,10,11,12,13,14,15] [6] d7W (a1 c3R (a1 c1m (a1 c6P (a1 d4l (a1 c6N (a1 d4n a0)))))) Tryz.func141
theorem d8t:Ok0 68 b8A:=
 fo [(135,b8w),(136,b1v),(137,a3X),(138,b5s),(139,a9i),(140,b3A),(141,b7Q)] [] [0,1,2,6,7,8,32,39,44,59] [4] H68 (a1 d4g (a1 c3R (a1 c1m (a1 d4h (a1 c6P (a1 d0M (a1 d4o a0))))))) Tryz.func68
theorem d8u:Ok0 90 b7R:=
 fo [] [] [0,2,3,4,5] [] H90 a0 Tryz.func90
theorem d8v:Ok0 69 c1h:=
 fo [(90,b7R),(142,b9Z)] [] [0,1,4,5,6] [2] H69 (a1 d8u (a1 d0T a0)) Tryz.func69
theorem d8w:Ok0 70 b3P:=
 fo [] [] [0,2,3,4] [] H70 a0 Tryz.func70
theorem d8x:Ok0 20 c1i:=
 fo [(68,b8A),(69,c1h),(70,b3P)] [(5,.pair (.list true (.int .u8)) .unit),(6,.pair (.list true (.int .u8)) .unit)] [0,2,3,4] [1] H20 (a1 d8t (a1 d8v (a1 d8w a0))) Tryz.func20
theorem fs3:Ok0 3 a9s:=
 fo [(15,b9B),(16,c1e),(17,b6n),(18,b4E),(19,b5T),(20,c1i),(21,a8F)] [] [0,1,2,3,8,11,12,13,14,15,16,17,18,20,21] [4] H3 (a1 d8p (a1 d8q (a1 d8s (a1 d1R (a1 d1V (a1 d8x (a1 c8I a0))))))) Tryz.func3
end Go.Ab
namespace Go.Ab
open IntKind(wrap)
section
variable {σ β:Type} {f:σ→Option (σ ⊕ β)}
theorem b6U:∀(n m:Nat)(s:σ){b:β},j0o f n s=some b→j0o f (n+m) s=some b
 |0,_,s,b,h=>by simp[j0o]at h
 |n+1,m,s,b,h=>by
  rw[show n+1+m=n+m+1 from by omega];simp only[j0o]at h⊢
  split at h
  cases h;rename_i s' g;exact b6U n m s' h;exact h
theorem c2O{n m:Nat}{s:σ}{b b':β}(h:j0o f n s=some b)(k:j0o f m s=some b'):b=b':=by
 have a:=b6U n m s h;have g:=b6U m n s k;rw[Nat.add_comm,a]at g;exact Option.some.inj g
theorem c8K{n:Nat}{s:σ}{b:β}(h:j0o f n s=some b):v0d f s=some b:=by
 unfold v0d;have g:∃n b,j0o f n s=some b:=⟨n,b,h⟩;rw[dif_pos g];exact congrArg some (c2O g.choose_spec.choose_spec h)
theorem c2r{n:Nat}{s:σ}{b:β}(h:j0o f n s=some b):x0r f s=some b:=by
 unfold x0r;split;rename_i g hb;rw[c2O hb h];exact c8K h
theorem c2P{s:σ}(h:∀n,j0o f n s=none):x0r f s=none:=by
 unfold x0r;rw[h 400];show v0d f s=none;unfold v0d;rw[dif_neg]
 rintro⟨n,b,g⟩
 rw[h n]at g;cases g
theorem a0F{s:σ}{b:β}(h:f s=some (.inr b)):x0r f s=some b:=c2r (n:=1) (by simp[j0o,h])
theorem a0G{s s':σ}(h:f s=some (.inl s')):x0r f s=x0r f s':=by
 by_cases hx:∃n b,j0o f n s'=some b
 obtain⟨n,b,hb⟩:=hx;rw[c2r hb];exact c2r (n:=n+1) (by simp[j0o,h,hb])
 ·have g:∀n,j0o f n s'=none:=fun n=>by
   cases hn:j0o f n s' with
   |none=>rfl
   |some b=>exact absurd ⟨n,b,hn⟩ hx
  rw[c2P g];refine c2P fun n=>?_
  cases n with
  |zero=>rfl
  |succ n=>simp[j0o,h,g n]
theorem c5I(S:Nat→σ)(n:Nat){b:β}(g:∀i,i<n→f (S i)=some (.inl (S (i+1))))(h:f (S n)=some (.inr b)):∀(k:Nat),k≤n→x0r f (S (n-k))=some b
 |0,_=>a0F h
 |k+1,hk=>by
  rw[a0G (g (n-(k+1)) (by omega)),show n-(k+1)+1=n-k from by omega];exact c5I S n g h k (by omega)
theorem a1y(S:Nat→σ)(n:Nat){b:β}(g:∀i,i<n→f (S i)=some (.inl (S (i+1))))(h:f (S n)=some (.inr b)):x0r f (S 0)=some b:=by
 have:=c5I S n g h n (a33 _)
 rwa [Nat.sub_self]at this
end
theorem a0D{n:Int}(h:-9223372036854775808≤n∧n≤9223372036854775807):wrap .i64 n=n:=by
 simp only[wrap,IntKind.bits,IntKind.signed]
 simp
 split<;>omega
theorem a0N{n:Int}(h:0≤n∧n<18446744073709551616):wrap .u64 n=n:=by
 simp only[wrap,IntKind.bits,IntKind.signed]
 simp
 omega
theorem a4W(n:Int):wrap .u8 n=n%256:=by
 simp[wrap,IntKind.bits,IntKind.signed]
theorem c2s(x y:Int):v0a x y=min x y:=by
 simp only[v0a,cond_eq_ite,dT]
 split<;>omega
theorem c5J(x y:Int):u0z x y=max x y:=by
 simp only[u0z,cond_eq_ite,dT]
 split<;>omega
theorem a1b{n:Nat}(h:n<2147483648):lim n=true:=by simp[lim,h]
section
variable {α A σ β:Type}
def a2x(g:A→α→A ⊕ β):List α→A→A ⊕ β
 | [],a=>.inl a
 |x::r,a=>match g a x with
  |.inl a'=>a2x g r a'
  |.inr b=>.inr b
def a8a(fin:A→β):A ⊕ β→β
 |.inl a=>fin a
 |.inr b=>b
theorem b6q{f:σ→Option (σ ⊕ β)}(l:List α)(S:Nat→A→σ)(g:A→α→A ⊕ β)(I:Nat→A→Prop)(e:A→β)
  (d:∀i (h:i<l.length) a,I i a→(∀a',g a l[i]=.inl a'→f (S i a)=some (.inl (S (i+1) a'))∧I (i+1) a')∧(∀b,g a l[i]=.inr b→f (S i a)=some (.inr b)))
  (c:∀a,I l.length a→f (S l.length a)=some (.inr (e a))):∀(k i:Nat)(a:A),i+k=l.length→I i a→x0r f (S i a)=some (a8a e (a2x g (l.drop i) a))
 |0,i,a,hi,ha=>by
  obtain rfl:i=l.length:=by omega
  rw[a30];exact a0F (c a ha)
 |k+1,i,a,hi,ha=>by
  have j:i<l.length:=by omega
  rw[a27 j];obtain⟨m,n⟩:=d i j a ha;simp only[a2x];cases hg:g a l[i]with
  |inl a'=>
   obtain⟨o,p⟩:=m a' hg;rw[a0G o];exact b6q l S g I e d c k (i+1) a' (by omega) p
  |inr b=>exact a0F (n b hg)
theorem a1m{f:σ→Option (σ ⊕ β)}(l:List α)(S:Nat→A→σ)(g:A→α→A ⊕ β)(I:Nat→A→Prop)(k:A→β)
  (d:∀i (h:i<l.length) a,I i a→(∀a',g a l[i]=.inl a'→f (S i a)=some (.inl (S (i+1) a'))∧I (i+1) a')∧(∀b,g a l[i]=.inr b→f (S i a)=some (.inr b)))
  (c:∀a,I l.length a→f (S l.length a)=some (.inr (k a))){a:A}(e:I 0 a):x0r f (S 0 a)=some (a8a k (a2x g l a)):=by
 have:=b6q l S g I k d c l.length 0 a (by omega) e
 rwa [a31]at this
theorem a1j{f:σ→Option (σ ⊕ β)}(l:List α)(S:Nat→σ)(p:α→Bool){bt bf:β}
  (k:∀i (h:i<l.length),p l[i]=true→f (S i)=some (.inl (S (i+1))))(c:∀i (h:i<l.length),p l[i]=false→f (S i)=some (.inr bf))
  (g:f (S l.length)=some (.inr bt)):x0r f (S 0)=some (bif l.all p then bt else bf):=by
 have h:=a1m (A:=Unit) l (fun i _=>S i) (fun _ x=>bif p x then .inl ()else .inr bf) (fun _ _=>True) (fun _=>bt) (fun i h a _=>?_) (fun _ _=>g) (a:=()) trivial
 ·rw[h];congr 1;clear h k c g
  induction l with
  |nil=>rfl
  |cons x l ih=>
   simp only[a2x,List.all_cons];cases p x with
   |true=>simpa using ih
   |false=>rfl
 ·cases hp:p l[i]with
  |true=>exact⟨fun d _=>⟨k i h hp,trivial⟩,fun b hb=>by simp[hp]at hb⟩
  |false=>exact⟨fun d e=>by simp[hp]at e,fun b hb=>by simp[hp]at hb;rw[←hb];exact c i h hp⟩
end
theorem a0B{α:Type}{l:List α}{i:Nat}(h:i<l.length):l0z l (i:Int)=some l[i]:=by
 unfold l0z;rw[if_pos (Int.natCast_nonneg i),tN,lG h]
def a0A(x:Int):Bool:=decide (-1073741824≤x)&&decide (x<1073741824)
theorem a1H{x:Int}:a0A x=true↔-1073741824≤x∧x<1073741824:=by simp[a0A]
def short{α:Type}(l:List α):Prop:=l.length<1000000
theorem a0C{i:Nat}(h:i<1000000):wrap .i64 ((i:Int)+1)=((i+1:Nat):Int):=by
 rw[a0D (by omega)];omega
theorem dlt{i n:Nat}(h:i<n):decide ((i:Int)<(n:Int))=true:=by simp;omega
theorem dge(n:Nat):decide ((n:Int)<(n:Int))=false:=by simp
theorem a4H{l:List Int}(a:short l):a2v l=some (l.all a0A):=by
 unfold a2v
 have:=a1j (f:=a2y) l (fun i=>(l,(l.length:Int),(i:Int),())) a0A (bt:=Sum.inl ()) (bf:=Sum.inr (false,()))
  (fun i h hp=>by
   have hp:=a1H.1 hp;have g:decide (l[i] < -1073741824)=false:=by simp;omega
   have k:decide (l[i]≥1073741824)=false:=by simp;omega
   simp only[a2y,dlt h,cT,a0B h,oB,g,k,cF,a0C (a21 h a)])
  (fun i h hp=>by
   simp only[a2y,dlt h,cT,a0B h,oB]
   by_cases g:l[i] < -1073741824
   simp[g];have k:l[i]≥1073741824:=by
    simp only[a0A,Bool.and_eq_false_iff,decide_eq_false_iff_not]at hp;omega
   simp[g,k])
  (by simp[a2y])
 simp only[nZ]at this;rw[this];cases l.all a0A<;>rfl
theorem a6E(x:Int):a5o x=some (a0A x):=by
 grind[a5o,a0A]
theorem a8I(x:Int):a7O x=some (a0A x):=by
 grind[a7O,a0A]
theorem a5s(x:Int):a6x x=some (a0A x):=by
 grind[a6x,a0A]
theorem a2t(x:Int):a2G x=some (a0A x):=by
 grind[a2G,a0A]
theorem b6r(x:Int):a5n x=some (a0A x):=by
 grind[a5n,a0A]
theorem a6p{l:List Int}(g:short l):a2z l=some (l.all a0A):=by
 unfold a2z
 have:=a1j (f:=a3f) l (fun i=>(l,(l.length:Int),(i:Int),())) a0A (bt:=Sum.inl ()) (bf:=Sum.inr (false,()))
  (fun i h hp=>by simp[a3f,a0B h,a6E,hp,a0C (a21 h g),h])
  (fun i h hp=>by simp_all[a3f,a0B,a6E])
  (by simp[a3f])
 grind
theorem b5u{l:List Int}(g:short l):a4C l=some (l.all a0A):=by
 unfold a4C
 have:=a1j (f:=a4k) l (fun i=>(l,(l.length:Int),(i:Int),())) a0A (bt:=Sum.inl ()) (bf:=Sum.inr (false,()))
  (fun i h hp=>by simp[a4k,a0B h,a8I,hp,a0C (a21 h g),h])
  (fun i h hp=>by simp_all[a4k,a0B,a8I])
  (by simp[a4k])
 grind
theorem b4J{l:List Int}(g:short l):a5y l=some (l.all a0A):=by
 unfold a5y
 have:=a1j (f:=a3G) l (fun i=>(l,(l.length:Int),(i:Int),())) a0A (bt:=Sum.inl ()) (bf:=Sum.inr (false,()))
  (fun i h hp=>by simp[a3G,a0B h,a5s,hp,a0C (a21 h g),h])
  (fun i h hp=>by simp_all[a3G,a0B,a5s])
  (by simp[a3G])
 grind
theorem a1M{l:List Int}(g:short l):a1D l=some (l.all a0A):=by
 unfold a1D
 have:=a1j (f:=a5K) l (fun i=>(l,(i:Int),())) a0A (bt:=Sum.inl ()) (bf:=Sum.inr (false,()))
  (fun i h hp=>by simp[a5K,a0B h,a2t,hp,a0C (a21 h g),h])
  (fun i h hp=>by simp_all[a5K,a0B,a2t])
  (by simp[a5K])
 grind
theorem a7J{l:List Int}(h:short l):a2N l=some (l.all a0A):=by
 have e:b5f=a2y:=rfl
 have:a2N l=a2v l:=by rfl
 simp_all[a4H]
def b5v(x:Int):Bool:=decide (-32768≤x)&&decide (x<32768)
def a4X(c:List Int)(s:Int):Bool:=decide (1≤c.length)&&(decide (c.length≤32)&&(decide (0≤s)&&(decide (s≤15)&&c.all b5v)))
theorem b0B{c:List Int}{s:Int}(a:short c):a4L (c,s)=some (a4X c s):=by
 have:=a1j (f:=a5x) c (fun i=>(c,(c.length:Int),(i:Int),())) b5v (bt:=Sum.inl ()) (bf:=Sum.inr (false,()))
  (fun i h hp=>by
   simp[b5v]at hp;have g:¬ c[i] < -32768:=by omega
   have k:¬ c[i]≥32768:=by omega
   simp[a5x,a0B h,a0C (a21 h a),h,g,k])
  (fun i h hp=>by
   grind[b5v,a5x,a0B])
  (by simp[a5x])
 simp at this;unfold a4L a4X
 grind
theorem a7c{c:List Int}{s:Int}(a:short c):a3U (c,s)=some (a4X c s):=by
 have:=a1j (f:=a3I) c (fun i=>(c,s,(i:Int),())) b5v (bt:=Sum.inl (c,s,())) (bf:=Sum.inr (false,()))
  (fun i h hp=>by
   simp[b5v]at hp;have g:¬ c[i] < -32768:=by omega
   have k:¬ c[i]≥32768:=by omega
   simp[a3I,a0B h,a0C (a21 h a),h,g,k])
  (fun i h hp=>by
   grind[b5v,a3I,a0B])
  (by simp[a3I])
 simp at this;unfold a3U a4X
 grind
def b3D(x:Int):Bool:=decide (-64≤x)&&decide (x≤64)
def a7d(lag:Int)(t:List Int):Bool:=decide (2≤lag)&&(decide (lag≤1024)&&t.all b3D)
theorem b5V{t:List Int}{lag:Int}(g:t.length=3):a8S (lag,t)=some (a7d lag t):=by
 have:=a1j (f:=a7t) t (fun i=>(t,(i:Int),())) b3D (bt:=Sum.inl ()) (bf:=Sum.inr (false,()))
  (fun i h hp=>by
   simp[b3D]at hp
   grind[a7t,a0B,a0C])
  (fun i h hp=>by
   grind[b3D,a7t,a0B])
  (by simp_all[a7t])
 simp at this;unfold a8S a7d
 grind
theorem b6s{t:List Int}{lag:Int}(g:t.length=3):a7H (lag,t)=some (a7d lag t):=by
 have:=a1j (f:=a4U) t (fun i=>(lag,(i:Int),t,())) b3D (bt:=Sum.inl (lag,())) (bf:=Sum.inr (false,()))
  (fun i h hp=>by
   simp[b3D]at hp
   grind[a4U,a0B,a0C])
  (fun i h hp=>by
   grind[b3D,a4U,a0B])
  (by simp_all[a4U])
 simp at this;unfold a7H a7d
 grind
def stageB(s:Int×(Int×Unit)):Bool:=decide (1≤s.1)&&(decide (s.1≤32)&&(decide (0≤s.2.1)&&decide (s.2.1≤8)))
def a4Y(l:List (Int×Int×Unit)):Bool:=decide (l.length≤3)&&l.all stageB
theorem b2e(s:Int×(Int×Unit)):a7u s=some (stageB s):=by
 grind[a7u,stageB]
theorem b1y(s:Int×(Int×Unit)):a6C s=some (stageB s):=by
 grind[a6C,stageB]
theorem b4K{l:List (Int×Int×Unit)}(g:short l):a7P l=some (a4Y l):=by
 have:=a1j (f:=a6v) l (fun i=>(l,(l.length:Int),(i:Int),())) stageB (bt:=Sum.inl ()) (bf:=Sum.inr (false,()))
  (fun i h hp=>by simp[a6v,a0B h,b2e,hp,a0C (a21 h g),h])
  (fun i h hp=>by simp_all[a6v,a0B,b2e])
  (by simp[a6v])
 simp at this;unfold a7P a4Y
 grind
theorem b5w{l:List (Int×Int×Unit)}(g:short l):a6D l=some (a4Y l):=by
 have:=a1j (f:=a4n) l (fun i=>(l,(i:Int),())) stageB (bt:=Sum.inl (l,())) (bf:=Sum.inr (false,()))
  (fun i h hp=>by simp[a4n,a0B h,b1y,hp,a0C (a21 h g),h])
  (fun i h hp=>by simp_all[a4n,a0B,b1y])
  (by simp[a4n])
 simp at this;unfold a6D a4Y;rw[this];cases l.all stageB with
 |false=>simp
 |true=>
  by_cases h:l.length≤3
  all_goals grind
@[reducible] def W(n:Int):Int:=wrap .i64 n
theorem a6J(n:Int):wrap .i64 n=Int.bmod n 18446744073709551616:=by
 grind[wrap,IntKind.bits,IntKind.signed]
theorem b5x{n:Int}(h:a0A n=true):W n=n:=by
 grind[a1H,a0D]
def a2T(guess:List Int→Int):List Int→List Int→Option (List Int)
 | [],out=>some out
 |x::r,out=>bif a0A (W (x+guess out))then a2T guess r (out++[W (x+guess out)])else none
def a8v{β:Type}(guess:List Int→Int)(bad:β)(out:List Int)(x:Int):List Int ⊕ β:=bif a0A (W (x+guess out))then .inl (out++[W (x+guess out)])else .inr bad
theorem a7e{β:Type}(h:List Int→Int)(g:β)(f:List Int→β):∀(l out:List Int),a8a f (a2x (a8v h g) l out)=match a2T h l out with|some r=>f r|none=>g
 | [],out=>rfl
 |x::l,out=>by
  simp[a2x,a8v,a2T];cases a0A (W (x+h out))with
  |true=>simp_all[a7e]
  |false=>rfl
theorem b4h(g:List Int→Int):∀(l out r:List Int),out.all a0A=true→a2T g l out=some r→r.all a0A=true∧r.length=out.length+l.length
 | [],out,r,h,e=>by simp_all[a2T]
 |x::l,out,r,h,e=>by
  simp[a2T]at e;cases hw:a0A (W (x+g out))with
  |true=>
   rw[hw]at e;obtain⟨f,k⟩:=b4h g l _ r (by simp_all) e
   grind
  |false=>simp_all
def a2A:Option (List Int)→List Int×Int
 |some r=>(r,0)
 |none=>([],6)
def atB(out:List Int)(i:Nat):Int:=out.getD (out.length-i) 0
def a2B(o:Nat)(out:List Int):Int:=match o with
 | 1=>atB out 1
 | 2=>2*atB out 1-atB out 2
 | 3=>3*atB out 1-3*atB out 2+atB out 3
 | 4=>4*atB out 1-6*atB out 2+4*atB out 3-atB out 4
 |_=>0
theorem b4i{out:List Int}{i:Nat}(f:1≤i)(h:i≤out.length)(g:short out):a1k ((i:Int),out)=some (atB out i,out):=by
 unfold a1k;have g:out.length<1000000:=g
 grind[a0D,a0B,atB]
theorem c2t{out:List Int}{o:Nat}(e:o≤4)(h:o≤out.length)(a:short out):∃g,a9O (out,(o:Int))=some g∧∀x,W (x+g)=W (x+a2B o out):=by
 have f:=fun(h':1≤out.length)=>b4i (i:=1) (by omega) h' a;have k:=fun(h':2≤out.length)=>b4i (i:=2) (by omega) h' a;have b:=fun(h':3≤out.length)=>b4i (i:=3) (by omega) h' a;have c:=fun(h':4≤out.length)=>b4i (i:=4) (by omega) h' a;simp at f k b c;unfold a9O;have d:o=0∨o=1∨o=2∨o=3∨o=4:=by omega
 rcases d with rfl|rfl|rfl|rfl|rfl;exact⟨0,rfl,fun x=>rfl⟩;exact⟨_,by simp[f (by omega)];rfl,fun x=>rfl⟩;refine⟨_,by simp[f (by omega),k (by omega)];rfl,fun x=>?_⟩;simp_all[a6J,a2B];refine⟨_,by simp[f (by omega),k (by omega),b (by omega)];rfl,fun x=>?_⟩;simp_all[a6J,a2B];refine⟨_,by simp[f (by omega),k (by omega),b (by omega),c (by omega)];rfl,fun x=>?_⟩;simp_all[a6J,a2B]
theorem a0Q{n:Nat}(h:n<1000000):lim n=true:=a1b (by omega)
theorem c3v{warm rest:List Int}{o:Nat}(u:o≤4)(x:warm.length=o)(w:rest.length<100000):
  b1h (warm,rest,(o:Int))=some (a2A (bif warm.all a0A&&rest.all a0A then a2T (a2B o) rest warm else none)):=by
 have c:short warm:=by unfold short;omega
 have m:short rest:=by unfold short;omega
 unfold b1h;have p:¬ (o:Int)<0:=by omega
 have q:¬ (o:Int) > 4:=by omega
 have r:(((warm.length:Nat):Int) != (o:Int))=false:=by simp_all
 simp only[p,q,r,decide_false,cF,oB,a7J c,a7J m];cases hw1:warm.all a0A with
 |false=>rfl
 |true=>
  simp only[bT,cF,oB,a29];cases hw2:rest.all a0A with
  |false=>rfl
  |true=>
   simp[a0Q c]
   have:=a1m (f:=a8i) rest (fun i out=>((o:Int),rest,(rest.length:Int),(i:Int),out,())) (a8v (a2B o) (Sum.inr ((6:Int),([]:List Int),())))
    (fun i out=>o≤out.length∧out.length≤o+i) (fun out=>Sum.inl (out,()))
    (fun i h out s=>by
     have j:i<1000000:=by omega
     have l:short out:=by unfold short;omega
     obtain⟨g,t,d⟩:=c2t u s.1 l;have e:wrap .i64 (rest[i]+g)=W (rest[i]+a2B o out):=d _;have k:a2N [W (rest[i]+a2B o out)]=some (a0A (W (rest[i]+a2B o out))):=by rw[a7J (by simp[short])];simp
     simp only[a8i,dlt h,cT,a0B h,oB,t,e,k,a8v];cases hb:a0A (W (rest[i]+a2B o out))with
     |true=>
      simp only[cT,bT,cF,a0Q (show out.length+1<1000000 by omega),a0C j];refine⟨fun v n=>?_,fun b hb=>(by grind)⟩;simp at n;subst n;exact⟨rfl,by grind,by grind⟩
     |false=>
      simp)
    (fun out _=>by simp[a8i]) (a:=warm) ⟨by omega,by omega⟩
   simp[a7e]at this;rw[this];cases a2T (a2B o) rest warm<;>rfl
def b3E(o:Nat):List Int:=match o with
 | 1=>[1]
 | 2=>[2,-1]
 | 3=>[3,-3,1]
 | 4=>[4,-6,4,-1]
 |_=>[]
theorem c7H{o:Nat}(g:o≤4):b4H (o:Int)=some (b3E o):=by
 have h:o=0∨o=1∨o=2∨o=3∨o=4:=by omega
 rcases h with rfl|rfl|rfl|rfl|rfl<;>rfl
theorem c5g{o:Nat}(g:o≤4):(b3E o).length=o:=by
 have h:o=0∨o=1∨o=2∨o=3∨o=4:=by omega
 rcases h with rfl|rfl|rfl|rfl|rfl<;>rfl
def b8B(o:Nat)(out:List Int)(x:Int):Nat→Int
 |0=>x
 |k+1=>W (b8B o out x k+W ((b3E o).getD k 0*atB out (k+1)))
theorem c1n{rest out:List Int}{o:Nat}{i x:Int}(q:o≤4)(h:o≤out.length)(g:short out)(r:a0A x=true):
  x0r a3J (rest,(o:Int),b3E o,i,x,(0:Int),out,())=some (rest,(o:Int),b3E o,i,W (x+a2B o out),out,()):=by
 have g:out.length<1000000:=g
 have:=a1y (f:=a3J) (fun k=>(rest,(o:Int),b3E o,i,b8B o out x k,(k:Int),out,()))
  o (b:=(rest,(o:Int),b3E o,i,b8B o out x o,out,())) (fun k n=>by
   have a:wrap .i64 (((out.length:Nat):Int)-1)=((out.length-1:Nat):Int):=by grind[a0D]
   have c:wrap .i64 (((out.length-1:Nat):Int)-(k:Int))=((out.length-(k+1):Nat):Int):=by grind[a0D]
   have d:(0:Int)≤((out.length-(k+1):Nat):Int):=by omega
   have e:((out.length-(k+1):Nat):Int)<((out.length:Nat):Int):=by omega
   have j:k<(b3E o).length:=by simp_all[c5g]
   have l:(b3E o)[k]=(b3E o).getD k 0:=by simp_all
   simp only[a3J,dlt n,cT,a0B j,oB,a,c,d,e,decide_true,Bool.and_self,tN,a0C (show k<1000000 by omega),b8B,atB,l])
  (by simp[a3J])
 simp[b8B]at this;rw[this];have p:b8B o out x o=W (x+a2B o out):=by
  have m:o=0∨o=1∨o=2∨o=3∨o=4:=by omega
  rcases m with rfl|rfl|rfl|rfl|rfl;simp_all[b8B,a2B,b5x]
  all_goals
   simp only[b8B,b3E,a2B,List.getD_cons_zero,List.getD_cons_succ,Nat.zero_add,a25,W,a6J,Int.add_bmod_bmod,Int.bmod_add_bmod]
   grind
 grind
theorem c0A{warm rest:List Int}{o:Nat}(m:o≤4)(u:warm.length=o)(t:rest.length<100000):
  a8p (warm,rest,(o:Int))=some (a2A (bif warm.all a0A&&rest.all a0A then a2T (a2B o) rest warm else none)):=by
 have e:short warm:=by unfold short;omega
 have d:short rest:=by unfold short;omega
 unfold a8p;have n:¬ (o:Int)<0:=by omega
 have p:¬ (o:Int) > 4:=by omega
 have q:(((warm.length:Nat):Int) != (o:Int))=false:=by simp_all
 simp only[n,p,q,decide_false,cF,oB,a1M e,a1M d];cases hw1:warm.all a0A with
 |false=>rfl
 |true=>
  simp only[bT,cF,oB,a29];cases hw2:rest.all a0A with
  |false=>rfl
  |true=>
   have k:lim (0+warm.length)=true:=a0Q (by omega);simp only[bT,cF,cT,k,c7H m,oB,a32,a09]
   have:=a1m (f:=a5M) rest (fun i out=>(rest,(o:Int),b3E o,(i:Int),out,())) (a8v (a2B o) (Sum.inr ((6:Int),([]:List Int),())))
    (fun i out=>o≤out.length∧out.length≤o+i) (fun out=>Sum.inl (out,()))
    (fun i h out r=>by
     have g:i<1000000:=by omega
     have c:short out:=by unfold short;omega
     have j:a0A rest[i]=true:=lA.1 hw2 _ (a34 h);simp only[a5M,dlt h,cT,a0B h,oB,c1n m r.1 c j,a2t,a8v];cases hb:a0A (W (rest[i]+a2B o out))with
     |true=>
      simp only[cT,bT,cF,a0Q (show out.length+1<1000000 by omega),a0C g];refine⟨fun s l=>?_,fun b hb=>(by grind)⟩;simp at l;subst l;exact⟨rfl,by grind,by grind⟩
     |false=>
      simp)
    (fun out _=>by simp[a5M]) (a:=warm) ⟨by omega,by omega⟩
   simp[a7e]at this;rw[this];cases a2T (a2B o) rest warm<;>rfl
def b8C(out:List Int):List Int→Nat→Int→Int
 | [],_,acc=>acc
 |c::r,i,acc=>bif decide (i<out.length)then b8C out r (i+1) (W (acc+W (c*atB out (i+1))))else acc
def a8b(c:List Int)(s:Int)(out:List Int):Int:=z0h .i64 (b8C out c 0 0) s
theorem c7I{out:List Int}{i:Nat}(h:i<out.length)(g:short out):l0z out (wrap .i64 (wrap .i64 (((out.length:Nat):Int)-1)-(i:Int)))=some (atB out (i+1)):=by
 have g:out.length<1000000:=g;have f:wrap .i64 (((out.length:Nat):Int)-1)=((out.length-1:Nat):Int):=by rw[a0D (by omega)];omega
 have k:wrap .i64 (((out.length-1:Nat):Int)-(i:Int))=((out.length-(i+1):Nat):Int):=by rw[a0D (by omega)];omega
 rw[f,k,a0B (show out.length-(i+1)<out.length by omega),atB,lD,lG (by omega)];rfl
theorem c8L{out:List Int}{i:Nat}(h:i<out.length)(g:out.all a0A=true):a0A (atB out (i+1))=true:=by
 rw[atB,lD,lG (show out.length-(i+1)<out.length by omega)];exact lA.1 g _ (a34 _)
theorem b8D{out c:List Int}{s:Int}(a:short out)(e:short c):∀(k i:Nat)(acc:Int),i+k=c.length→
  x0r a3i (out,s,acc,c,(c.length:Int),(i:Int),())=some (s,b8C out (c.drop i) i acc,())
 |0,i,acc,h=>by
  obtain rfl:i=c.length:=by omega
  rw[a30];exact a0F (by simp[a3i,b8C])
 |k+1,i,acc,h=>by
  have g:i<c.length:=by omega
  have l:out.length<1000000:=a;have j:c.length<1000000:=e;rw[a27 g,b8C];have b:wrap .i64 (((out.length:Nat):Int)-1)=((out.length:Nat):Int)-1:=a0D (by omega);have d:wrap .i64 (((out.length:Nat):Int)-1-(i:Int))=((out.length:Nat):Int)-1-(i:Int):=a0D (by omega)
  by_cases hi:i<out.length
  have f:decide (wrap .i64 (wrap .i64 (((out.length:Nat):Int)-1)-(i:Int))<0)=false:=by rw[b,d];simp;omega
  simp only[hi,decide_true,cT];rw[a0G (s':=(out,s,W (acc+W (c[i]*atB out (i+1))),c,(c.length:Int),((i+1:Nat):Int),())) (by
   simp only[a3i,dlt g,cT,a0B g,oB,f,cF,c7I hi a,a0C (show i<1000000 by omega)])]
  exact b8D a e k (i+1) _ (by omega);have f:decide (wrap .i64 (wrap .i64 (((out.length:Nat):Int)-1)-(i:Int))<0)=true:=by rw[b,d];simp;omega
  simp only[hi,decide_false,cF];exact a0F (by simp only[a3i,dlt g,cT,a0B g,oB,f])
theorem b6V{out c:List Int}{s:Int}(g:short out)(h:short c)(f:0≤s):a4N (out,c,s)=some (a8b c s out):=by
 have:=b8D (s:=s) g h c.length 0 0 (by omega)
 simp only[nZ,a31]at this;unfold a4N;simp only[this,oB]
 have:¬ s<0:=by omega
 simp[this,a8b]
theorem c1o{out c:List Int}{s:Int}(f:short out)(a:short c)(b:out.all a0A=true):∀(k i:Nat)(acc:Int),i+k=c.length→
  x0r a2R (out,c,s,acc,(i:Int),())=some (Sum.inl (s,b8C out (c.drop i) i acc,()))
 |0,i,acc,h=>by
  obtain rfl:i=c.length:=by omega
  rw[a30];exact a0F (by simp[a2R,b8C])
 |k+1,i,acc,h=>by
  have g:i<c.length:=by omega
  have j:out.length<1000000:=f;have d:c.length<1000000:=a;rw[a27 g,b8C]
  by_cases hi:i<out.length
  simp only[hi,decide_true,cT];rw[a0G (s':=(out,c,s,W (acc+W (c[i]*atB out (i+1))),((i+1:Nat):Int),())) (by
   simp only[a2R,dlt g,dlt hi,cT,c7I hi f,oB,a2t,c8L hi b,bT,cF,a0B g,a0C (show i<1000000 by omega)])]
  exact c1o f a b k (i+1) _ (by omega);have e:decide ((i:Int)<((out.length:Nat):Int))=false:=by simp;omega
  simp only[hi,decide_false,cF];exact a0F (by simp only[a2R,dlt g,cT,e,cF])
theorem b9F{s:Int}(h:0≤s)(g:s≤64):wrap .u64 s=s:=a0N (by omega)
theorem b8E{out c:List Int}{s:Int}(f:short out)(h:short c)(k:out.all a0A=true)(g:a4X c s=true):a6j (out,c,s)=some (a8b c s out):=by
 have:=c1o (s:=s) f h k c.length 0 0 (by omega)
 simp only[nZ,a31]at this;unfold a6j;simp only[a7c h,g,oB,bT,cF,this];simp only[a4X,bA,dT]at g
 have:¬ s<0:=by omega
 simp[b9F (show 0≤s by omega) (by omega),this,a8b]
def b1z(warm rest c:List Int)(s:Int):Option (List Int):=bif warm.all a0A&&rest.all a0A then a2T (a8b c s) rest warm else none
theorem b6t{warm rest c:List Int}{s:Int}(o:a4X c s=true)(w:warm.length=c.length)(v:rest.length<100000):
  a7x (warm,rest,c,s)=some (a2A (b1z warm rest c s)):=by
 have g:=o;simp only[a4X,bA,dT]at g;have k:short c:=by unfold short;omega
 have n:short warm:=by unfold short;omega
 have m:short rest:=by unfold short;omega
 unfold a7x;have r:(((warm.length:Nat):Int) != ((c.length:Nat):Int))=false:=by simp;omega
 simp only[b0B k,o,oB,bT,cF,r,a6p n,a6p m,b1z];cases hw1:warm.all a0A with
 |false=>rfl
 |true=>
  simp only[bT,cF,oB,a29];cases hw2:rest.all a0A with
  |false=>rfl
  |true=>
   have q:wrap .i64 (((warm.length:Nat):Int)+((rest.length:Nat):Int))=((warm.length+rest.length:Nat):Int):=by rw[a0D (by omega)];omega
   have t:(0:Int)≤((warm.length+rest.length:Nat):Int):=by omega
   simp only[bT,cF,cT,q,t,decide_true,tN,a0Q (show warm.length+rest.length<1000000 by omega),a0Q (show 0+warm.length<1000000 by omega),Bool.and_self,a32,a09]
   have:=a1m (f:=a6W) rest (fun i out=>(c,s,rest,(rest.length:Int),(i:Int),out,())) (a8v (a8b c s) (Sum.inr ((6:Int),([]:List Int),())))
    (fun i out=>out.length≤warm.length+i) (fun out=>Sum.inl (out,()))
    (fun i h out u=>by
     have j:i<1000000:=by omega
     have l:short out:=by unfold short;omega
     have e:wrap .i64 (a8b c s out+rest[i])=W (rest[i]+a8b c s out):=by rw[Int.add_comm]
     simp only[a6W,dlt h,cT,a0B h,oB,b6V l k g.2.2.1,e,a6E,a8v];cases hb:a0A (W (rest[i]+a8b c s out))with
     |true=>
      simp only[cT,bT,cF,a0Q (show out.length+1<1000000 by omega),a0C j];refine⟨fun p d=>?_,fun b hb=>(by cases hb)⟩;simp only[Sum.inl.injEq]at d;subst d;exact⟨rfl,by simp;omega⟩
     |false=>
      refine⟨fun p d=>(by cases d),fun b hb=>?_⟩;simp only[cF,Sum.inr.injEq]at hb;subst hb;rfl)
    (fun out _=>by simp[a6W]) (a:=warm) (by omega)
   simp only[nZ,a7e]at this;rw[this];cases a2T (a8b c s) rest warm<;>rfl
theorem b3Q{warm rest c:List Int}{s:Int}(d:a4X c s=true)(t:warm.length=c.length)(r:rest.length<100000):
  a4V (warm,rest,c,s)=some (a2A (b1z warm rest c s)):=by
 have e:=d;simp only[a4X,bA,dT]at e;have g:short c:=by unfold short;omega
 have n:short warm:=by unfold short;omega
 have m:short rest:=by unfold short;omega
 unfold a4V;have q:(((warm.length:Nat):Int) != ((c.length:Nat):Int))=false:=by simp;omega
 simp only[a7c g,d,oB,bT,cF,q,a1M n,a1M m,b1z];cases hw1:warm.all a0A with
 |false=>rfl
 |true=>
  simp only[bT,cF,oB,a29];cases hw2:rest.all a0A with
  |false=>rfl
  |true=>
   simp only[bT,cF,cT,a0Q (show 0+warm.length<1000000 by omega),a32,a09]
   have:=a1m (f:=a5g) rest (fun i out=>(rest,c,s,(i:Int),out,())) (a8v (a8b c s) (Sum.inr ((6:Int),([]:List Int),())))
    (fun i out=>out.length≤warm.length+i∧out.all a0A=true) (fun out=>Sum.inl (out,()))
    (fun i h out o=>by
     have j:i<1000000:=by omega
     have l:short out:=by unfold short;omega
     simp only[a5g,dlt h,cT,a0B h,oB,b8E l g o.2 d,a2t,a8v];cases hb:a0A (W (rest[i]+a8b c s out))with
     |true=>
      simp only[cT,bT,cF,a0Q (show out.length+1<1000000 by omega),a0C j];refine⟨fun p k=>?_,fun b hb=>(by cases hb)⟩;simp only[Sum.inl.injEq]at k;subst k;exact⟨rfl,by simp;omega,by simp[o.2,hb]⟩
     |false=>
      refine⟨fun p k=>(by cases k),fun b hb=>?_⟩;simp only[cF,Sum.inr.injEq]at hb;subst hb;rfl)
    (fun out _=>by simp[a5g]) (a:=warm) ⟨by omega,hw1⟩
   simp only[nZ,a7e]at this;rw[this];cases a2T (a8b c s) rest warm<;>rfl
end Go.Ab
