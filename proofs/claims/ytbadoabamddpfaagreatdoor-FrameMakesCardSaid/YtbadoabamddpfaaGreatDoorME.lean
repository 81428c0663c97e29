/- Part of the proof: It. Conditions: as each statement tells. -/
import Derived.RangeFuncBound
import Derived.RangeFuncCalls
import Derived.RangeFuncBox
import Derived.WalkKit
import Derived.OwnWalkIn
import Derived.TacticsInMore
import Derived.LoopNIn
import Derived.LoopIn
import Derived.Test.YtbadoabamddpfaaGreatDoorProg
import Derived.KernelRfl
import Derived.Test.YtbadoabamddpfaaGreatDoorMD
noncomputable section
set_option linter.unusedSimpArgs false
set_option linter.unusedVariables false
open Array renaming replicate_succ→a08,replicate_zero→a09
open Int renaming toNat→a00,tdiv→a24,tmod→a26
open List renaming replicate→a01,getD→a02,length→a03,append→a04,take→a05,set→a06,drop→a07,append_toArray→a16,cons_append→a17,size_toArray→a18,push_toArray→a19,length_nil→a20,nil_append→a21
open Nat renaming reduceAdd→a22,reduceSub→a23
open Option renaming getD_some→a25
namespace Go.Ab
open Go.Proofs Go.RowKit
attribute [local go_sem] Oper.semAt_some
set_option maxHeartbeats 1000000 in
theorem d2z:z0a Tryz.prog 297 326:=by
 refine⟨⟨_,_,Tryz.func297,rfl,by kernel_rfl⟩,fun A len cap w=>(callsIn_wide (n:=3)).1 ?_⟩
 refine callsIn_of_wp Tryz.func297 rfl trivial ?_
 simp only[Tryz.ntmps297,a18,lC,a20,a22,a23,a08,a09,a19,a16,a21,a17]
 gi_wp2
 go_ret
 exact⟨rfl,_,rfl⟩
@[reducible] def b4X:Ty:=.pair (.int .i64) (.pair (.int .i64) .unit)
set_option maxRecDepth 100000 in
set_option maxHeartbeats 2000000 in
theorem d0N (l Bs b off len cap:Nat) (p q:Nat→Int) (J:Nat→World→Prop) (Jx:World→Prop) (W:World)
  (hJ:∀k W',J k W'→W'.cell? ⟨Bs,0,none⟩=some (.slice (some ⟨b,off,none⟩) len cap))
  (hlen:len<2147483648)
  (hcs:∀k W',k<len→J (k+1) W'→W'.cell? ⟨b,off+k*2,none⟩=some (.int .i64 (p k))∧W'.cell? ⟨b,off+k*2+1,none⟩=some (.int .i64 (q k)))
  (hY:∀n W',n<len→J (n+1) W'→YieldAt (Fr none) 0 Tryz.prog l #[.int .i64 (n:Int),.agg #[.int .i64 (p n),.int .i64 (q n)]] W' fun en W''=>(en=.returned (.bool true)∧J n W'')∨(en=.returned (.bool false)∧Jx W''))
  (h0:J len W):
  CallsIn (Fr none) 0 Tryz.prog 326 #[.func (.yield l) #[] #[],.pointer (some ⟨Bs,0,none⟩)] W fun en W'=>(∃v,en=.returned v)∧(J 0 W'∨Jx W'):=by
 refine callsIn_of_wp Tryz.func326 rfl trivial ?_
 simp only[Tryz.ntmps326,a18,lC,a20,a22,a23,a08,a09,a19,a16,a21,a17]
 have hBs:=hJ _ _ h0
 gi_wp2
 gi_loopw [3] (fun i wr=>∃k:Nat,k≤len∧i=.int .i64 ((k:Int)-1)∧J k wr) (fun i _=>(intOf i+1).toNat)
 case atStart=>exact⟨len,Nat.le_refl _,rfl,h0⟩
 case round=>
  obtain⟨k,hk,rfl,hJs⟩:=hrel
  cases k with
  |succ n=>
   obtain⟨fn,tmps,assign,body,hy,hR⟩:=hY n wr (by omega) hJs
   have hcx:=hJ _ _ hJs
   obtain⟨hc0,hc1⟩:=hcs n wr (by omega) hJs
   gi_wp2
   refine hR.mono ?_
   rintro e W3 (⟨rfl,hJ3⟩|⟨rfl,hJx3⟩)
   ·gi_wp2
    go_roundw
    case rel=>exact⟨n,by omega,by simp,hJ3⟩
    case measure=>simp[intOf]
   ·gi_wp2
    refine bodyPost_ret (results_none rfl _ _ _) rfl ?_
    exact⟨⟨_,rfl⟩,.inr hJx3⟩
  |zero=>
   gi_wp2
   go_end0
   exact⟨⟨_,rfl⟩,.inl hJs⟩
set_option maxRecDepth 100000 in
set_option maxHeartbeats 2000000 in
theorem c9v (l Bs:Nat) (A:Option Addr) (c:Nat) (J:Nat→World→Prop) (W:World) (hBs:W.cell? ⟨Bs,0,none⟩=some (.slice A 0 c)) (h0:J 0 W):
  CallsIn (Fr none) 0 Tryz.prog 326 #[.func (.yield l) #[] #[],.pointer (some ⟨Bs,0,none⟩)] W fun en W'=>(∃v,en=.returned v)∧J 0 W':=by
 refine callsIn_of_wp Tryz.func326 rfl trivial ?_
 simp only[Tryz.ntmps326,a18,lC,a20,a22,a23,a08,a09,a19,a16,a21,a17]
 gi_wp2
 gi_loopw [3] (fun i wr=>i=.int .i64 (-1)∧J 0 wr) (fun _ _=>0)
 case atStart=>exact⟨rfl,h0⟩
 case round=>
  obtain⟨rfl,hJs⟩:=hrel
  gi_wp2
  go_end0
  exact⟨⟨_,rfl⟩,hJs⟩
theorem c4z{m:Mem}{Sh:Nat→Prop}{b o:Nat}{x:b4X.den}{R}(h:dec m b4X ((Src.at b o).rd m)=some (x,[],R)):
  m b o=some (.int .i64 x.1)∧m b (o+1)=some (.int .i64 x.2.1)∧VOk m Sh b4X x (.agg #[.int .i64 x.1,.int .i64 x.2.1]):=by
 obtain⟨p,q,u⟩:=x;simp only[b4X,dec,Src.rd,Ty.cells,Nat.add_zero]at h
 split at h
 cases h;rename_i r o1 j g
 split at g
 rename_i n c
 split at g
 rename_i e;subst e;simp only[sj]at g;obtain⟨rfl,rfl,rfl⟩:=g
 split at h
 cases h;rename_i s o2 r2 k
 split at k
 cases k;rename_i t i l f
 split at f
 rename_i d a
 split at f
 rename_i e;subst e;simp only[sj]at f k h;obtain⟨rfl,rfl,rfl⟩:=f;obtain⟨rfl,rfl,rfl⟩:=k;obtain⟨⟨rfl,rfl,rfl⟩,-,-⟩:=h;exact⟨c,a,fun _=>⟨_,rfl,rfl⟩,fun h=>(by cases h),[],rfl,by simp⟩;cases f;cases f;cases g;cases g
theorem b8H {P:Program} {f:FuncId} (hb:i0o P f) (args:Array Value) (w:World):(callFunc f args).run P w=.ok (.enter f args) w:=by
 obtain ⟨fn,c',h1,h2,h3⟩:=hb;have h4 : ¬ fn.name = "runtime.NumGoroutine" := by simpa using h3
 simp [callFunc,program,Sem.run,h1,h2,h4,Result.andThen]
theorem d2A:v0q Tryz.prog 326 b4X:=by
 refine⟨fun args w=>b8H ⟨_,_,Tryz.func326,rfl,by kernel_rfl⟩ args w,fun l Bs sv f J D W i t L o=>?_⟩;obtain⟨z,Sh,y⟩:=t _ _ o;obtain⟨A,n,c,rfl,rfl,N,v,j⟩:=y.header
 by_cases hx0:f.length=0
 rw[hx0]at o z;exact(c9v l Bs A c J W z o).mono fun e g h=>⟨h.1,.inl h.2⟩;cases A with
 |none=>have:=j rfl;omega
 |some A=>
  obtain⟨b,off,B⟩:=A
  have:=(v _ rfl).resolve_left (by omega)
  simp only at this;subst this;have u:∀k g,k<f.length→J (k+1) g→∃x,f[k]?=some x∧g.cell? ⟨b,off+k*2,none⟩=some (.int .i64 x.1)∧g.cell? ⟨b,off+k*2+1,none⟩=some (.int .i64 x.2.1):=by
   intro k g p d;obtain⟨-,a,hv⟩:=t _ _ d;obtain⟨C,O,E,R,e,F,G,H,s,I,K⟩:=hv.elem rfl (lG p);simp only[Value.slice.injEq,sj]at e;obtain⟨rfl,rfl,rfl⟩:=e;obtain⟨q,r,-⟩:=c4z (Sh:=a) s;exact⟨_,lG p,q,r⟩
  refine d0N l Bs b off f.length c (fun k=>((f[k]?).getD b4X.dflt).1) (fun k=>((f[k]?).getD b4X.dflt).2.1) J D W (fun k g d=>(t k g d).1) i (fun k g p d=>?_) (fun n g M d=>?_) o;obtain⟨x,m,q,r⟩:=u k g p d;simp only[m,a25];exact⟨q,r⟩;have m:f[n]?=some f[n]:=lG M;simp only[m,a25];refine L n _ _ g m d fun a hv=>?_
  obtain⟨C,O,E,R,e,F,G,H,s,I,K⟩:=hv.elem rfl m;exact(c4z (Sh:=a) s).2.2
set_option maxHeartbeats 1000000 in
theorem d2B:z0a Tryz.prog 186 242:=by
 refine⟨⟨_,_,Tryz.func186,rfl,by kernel_rfl⟩,fun A len cap w=>(callsIn_wide (n:=3)).1 ?_⟩
 refine callsIn_of_wp Tryz.func186 rfl trivial ?_
 simp only[Tryz.ntmps186,a18,lC,a20,a22,a23,a08,a09,a19,a16,a21,a17]
 gi_wp2
 go_ret
 exact⟨rfl,_,rfl⟩
@[reducible] def b7U:Ty:=.pair (.int .i64) (.pair (.int .i64) (.pair (.int .i64) .unit))
set_option maxRecDepth 100000 in
set_option maxHeartbeats 2000000 in
theorem d0O (l Bs b off len cap:Nat) (p q r:Nat→Int) (J:Nat→World→Prop) (Jx:World→Prop) (W:World)
  (hJ:∀k W',J k W'→W'.cell? ⟨Bs,0,none⟩=some (.slice (some ⟨b,off,none⟩) len cap))
  (hlen:len<2147483648)
  (hcs:∀k W',k<len→J (k+1) W'→W'.cell? ⟨b,off+k*3,none⟩=some (.int .i64 (p k))∧W'.cell? ⟨b,off+k*3+1,none⟩=some (.int .i64 (q k))∧W'.cell? ⟨b,off+k*3+2,none⟩=some (.int .i64 (r k)))
  (hY:∀n W',n<len→J (n+1) W'→YieldAt (Fr none) 0 Tryz.prog l #[.int .i64 (n:Int),.agg #[.int .i64 (p n),.int .i64 (q n),.int .i64 (r n)]] W' fun en W''=>(en=.returned (.bool true)∧J n W'')∨(en=.returned (.bool false)∧Jx W''))
  (h0:J len W):
  CallsIn (Fr none) 0 Tryz.prog 242 #[.func (.yield l) #[] #[],.pointer (some ⟨Bs,0,none⟩)] W fun en W'=>(∃v,en=.returned v)∧(J 0 W'∨Jx W'):=by
 refine callsIn_of_wp Tryz.func242 rfl trivial ?_
 simp only[Tryz.ntmps242,a18,lC,a20,a22,a23,a08,a09,a19,a16,a21,a17]
 have hBs:=hJ _ _ h0
 gi_wp2
 gi_loopw [3] (fun i wr=>∃k:Nat,k≤len∧i=.int .i64 ((k:Int)-1)∧J k wr) (fun i _=>(intOf i+1).toNat)
 case atStart=>exact⟨len,Nat.le_refl _,rfl,h0⟩
 case round=>
  obtain⟨k,hk,rfl,hJs⟩:=hrel
  cases k with
  |succ n=>
   obtain⟨fn,tmps,assign,body,hy,hR⟩:=hY n wr (by omega) hJs
   have hcx:=hJ _ _ hJs
   obtain⟨hc0,hc1,hc2⟩:=hcs n wr (by omega) hJs
   gi_wp2
   refine hR.mono ?_
   rintro e W3 (⟨rfl,hJ3⟩|⟨rfl,hJx3⟩)
   ·gi_wp2
    go_roundw
    case rel=>exact⟨n,by omega,by simp,hJ3⟩
    case measure=>simp[intOf]
   ·gi_wp2
    refine bodyPost_ret (results_none rfl _ _ _) rfl ?_
    exact⟨⟨_,rfl⟩,.inr hJx3⟩
  |zero=>
   gi_wp2
   go_end0
   exact⟨⟨_,rfl⟩,.inl hJs⟩
set_option maxRecDepth 100000 in
set_option maxHeartbeats 2000000 in
theorem c9w (l Bs:Nat) (A:Option Addr) (c:Nat) (J:Nat→World→Prop) (W:World) (hBs:W.cell? ⟨Bs,0,none⟩=some (.slice A 0 c)) (h0:J 0 W):
  CallsIn (Fr none) 0 Tryz.prog 242 #[.func (.yield l) #[] #[],.pointer (some ⟨Bs,0,none⟩)] W fun en W'=>(∃v,en=.returned v)∧J 0 W':=by
 refine callsIn_of_wp Tryz.func242 rfl trivial ?_
 simp only[Tryz.ntmps242,a18,lC,a20,a22,a23,a08,a09,a19,a16,a21,a17]
 gi_wp2
 gi_loopw [3] (fun i wr=>i=.int .i64 (-1)∧J 0 wr) (fun _ _=>0)
 case atStart=>exact⟨rfl,h0⟩
 case round=>
  obtain⟨rfl,hJs⟩:=hrel
  gi_wp2
  go_end0
  exact⟨⟨_,rfl⟩,hJs⟩
theorem c3R{m:Mem}{rd:Nat→Option Value}{x o r}(h:dec m (.int .i64) rd=some (x,o,r)):rd 0=some (.int .i64 x)∧o=[]∧r=[]:=by
 simp only[dec]at h
 split at h
 rename_i k n g
 split at h
 rename_i e;subst e;simp only[sj,pJ]at h;obtain⟨rfl,rfl,rfl⟩:=h;exact⟨g,rfl,rfl⟩;cases h;cases h
theorem c1Z{m:Mem}{a b:Ty}{rd:Nat→Option Value}{x o r}(h:dec m (.pair a b) rd=some (x,o,r)):∃o1 g o2 r2,dec m a rd=some (x.1,o1,g)∧dec m b (fun j=>rd (a.cells+j))=some (x.2,o2,r2)∧o=o1++o2∧r=g++r2:=by
 simp only[dec]at h
 split at h
 cases h;rename_i c o1 g f
 split at h
 cases h;rename_i d o2 r2 k;simp only[sj,pJ]at h;obtain⟨rfl,rfl,rfl⟩:=h;exact⟨_,_,_,_,f,k,rfl,rfl⟩
theorem c5G{m:Mem}{Sh:Nat→Prop}{b o:Nat}{x:b7U.den}{R}(h:dec m b7U ((Src.at b o).rd m)=some (x,[],R)):
  m b o=some (.int .i64 x.1)∧m b (o+1)=some (.int .i64 x.2.1)∧m b (o+2)=some (.int .i64 x.2.2.1)∧VOk m Sh b7U x (.agg #[.int .i64 x.1,.int .i64 x.2.1,.int .i64 x.2.2.1]):=by
 obtain⟨_,_,_,_,g,f,-,-⟩:=c1Z h;obtain⟨_,_,_,_,k,a,-,-⟩:=c1Z f;obtain⟨_,_,_,_,c,-,-,-⟩:=c1Z a;exact⟨(c3R g).1,(c3R k).1,(c3R c).1,fun _=>⟨_,rfl,rfl⟩,fun h=>(by cases h),[],rfl,by simp⟩
theorem d2C:v0q Tryz.prog 242 b7U:=by
 refine⟨fun args w=>b8H ⟨_,_,Tryz.func242,rfl,by kernel_rfl⟩ args w,fun l Bs sv f J E W i u M o=>?_⟩;obtain⟨B,Sh,z⟩:=u _ _ o;obtain⟨A,n,c,rfl,rfl,O,y,j⟩:=z.header
 by_cases hx0:f.length=0
 rw[hx0]at o B;exact(c9w l Bs A c J W B o).mono fun e g h=>⟨h.1,.inl h.2⟩;cases A with
 |none=>have:=j rfl;omega
 |some A=>
  obtain⟨b,off,C⟩:=A
  have:=(y _ rfl).resolve_left (by omega)
  simp only at this;subst this;have v:∀k g,k<f.length→J (k+1) g→∃x,f[k]?=some x∧g.cell? ⟨b,off+k*3,none⟩=some (.int .i64 x.1)∧g.cell? ⟨b,off+k*3+1,none⟩=some (.int .i64 x.2.1)∧g.cell? ⟨b,off+k*3+2,none⟩=some (.int .i64 x.2.2.1):=by
   intro k g p d;obtain⟨-,a,hv⟩:=u _ _ d;obtain⟨D,P,F,R,e,G,H,I,t,K,L⟩:=hv.elem rfl (lG p);simp only[Value.slice.injEq,sj]at e;obtain⟨rfl,rfl,rfl⟩:=e;obtain⟨q,r,s,-⟩:=c5G (Sh:=a) t;exact⟨_,lG p,q,r,s⟩
  refine d0O l Bs b off f.length c (fun k=>((f[k]?).getD b7U.dflt).1) (fun k=>((f[k]?).getD b7U.dflt).2.1) (fun k=>((f[k]?).getD b7U.dflt).2.2.1) J E W (fun k g d=>(u k g d).1) i (fun k g p d=>?_) (fun n g N d=>?_) o;obtain⟨x,m,q,r,s⟩:=v k g p d;simp only[m,a25];exact⟨q,r,s⟩;have m:f[n]?=some f[n]:=lG N;simp only[m,a25];refine M n _ _ g m d fun a hv=>?_
  obtain⟨D,P,F,R,e,G,H,I,t,K,L⟩:=hv.elem rfl m;exact(c5G (Sh:=a) t).2.2.2
end Go.Ab
namespace Go.Ab
open IntKind(wrap)
open Go.Proofs
set_option maxRecDepth 100000
set_option linter.unusedVariables false
@[reducible] def QI:Ty:=.int .i64
@[reducible] def QL:Ty:=.list false QI
@[reducible] def Z0:Type:=(Unit ⊕ (Bool×Unit))
@[reducible] def Z1:Type:=((List (List Int))×Unit)
@[reducible] def Z2:Type:=((List Int)×(Int×Int))
@[reducible] def Z3:Type:=(Int×(Int×(List Int)))
@[reducible] def Z4:Type:=(Int×((List Int)×Unit))
@[reducible] def Z5:Type:=((List Int)×(Int×Unit))
@[reducible] def Z6:Type:=(List (Int×(Int×Unit)))
@[reducible] def Z7:Type:=(Int×(Int×(Int×Unit)))
@[reducible] def Z8:Type:=(Bool×((List Int)×Unit))
@[reducible] def Z9:Type:=((List Int)×(Bool×Unit))
@[reducible] def Z10:Type:=(((List Int)×Unit)×Unit)
@[reducible] def Z11:Type:=(Int×(Int×(Bool×Unit)))
@[reducible] def Z12:Type:=((List Int)×((List Int)×Int))
@[reducible] def Z13:Type:=((List Int)×(Int×(List Int)))
@[reducible] def Z14:Type:=(Int×Z1)
@[reducible] def Z15:Type:=((List (List Int))×(Int×Unit))
@[reducible] def Z16:Type:=((List Int)×((List Int)×Unit))
@[reducible] def Z17:Type:=((List Int)×(Int×(Int×Unit)))
@[reducible] def Z18:Type:=(List Z7)
@[reducible] def Z19:Type:=(Int×Z4)
@[reducible] def Z20:Type:=(Int×Z5)
@[reducible] def Z21:Type:=(Int×Z8)
@[reducible] def Z22:Type:=((List Int)×(Int×(Bool×Unit)))
@[reducible] def Z23:Type:=(Int×Z7)
@[reducible] def Z24:Type:=(Z4×Unit)
@[reducible] def Z25:Type:=(Z5×Unit)
@[reducible] def Z26:Type:=(Bool×Z4)
@[reducible] def Z27:Type:=(Int×Z10)
@[reducible] def Z28:Type:=(Z7×Unit)
@[reducible] def Z29:Type:=(Int×Z11)
@[reducible] def Z30:Type:=((List (List Int))×(Int×(Int×Unit)))
@[reducible] def Z31:Type:=(Int×Z14)
@[reducible] def Z32:Type:=(Int×Z16)
@[reducible] def Z33:Type:=((List Int)×Z6)
@[reducible] def Z34:Type:=((List Int)×Z4)
@[reducible] def Z35:Type:=((List Int)×Z5)
@[reducible] def Z36:Type:=(Z14×Unit)
@[reducible] def Z37:Type:=(Int×Z17)
@[reducible] def Z38:Type:=(Int×Z19)
@[reducible] def Z39:Type:=((List Int)×Z7)
@[reducible] def Z40:Type:=(Z17×Int)
@[reducible] def Z41:Type:=((List Int)×Z11)
@[reducible] def Z42:Type:=(Int×Z21)
@[reducible] def Z43:Type:=(Int×Z23)
@[reducible] def Z44:Type:=(Int×Z25)
@[reducible] def Z45:Type:=(Z6×(Int×Unit))
@[reducible] def Z46:Type:=(Int×Z27)
@[reducible] def Z47:Type:=(Int×Z29)
@[reducible] def Z48:Type:=(Bool×Z24)
@[reducible] def Z49:Type:=((List Int)×Z16)
@[reducible] def Z50:Type:=(Int×Z30)
@[reducible] def Z51:Type:=((List (List Int))×Z7)
@[reducible] def Z52:Type:=((List Int)×Z19)
@[reducible] def Z53:Type:=((List Int)×Z17)
@[reducible] def Z54:Type:=(Int×Z32)
@[reducible] def Z55:Type:=(Z32×Int)
@[reducible] def Z56:Type:=(Int×Z36)
@[reducible] def Z57:Type:=(Int×Z37)
@[reducible] def Z58:Type:=(((List Int)×Unit) ⊕ Z4)
@[reducible] def Z59:Type:=(Z4×((List Int)×Unit))
@[reducible] def Z60:Type:=((List Int)×Z22)
@[reducible] def Z61:Type:=(Z32×Unit)
@[reducible] def Z62:Type:=((List Int)×Z24)
@[reducible] def Z63:Type:=(Int×Z43)
@[reducible] def Z64:Type:=(Int×Z44)
@[reducible] def Z65:Type:=(Z17 ⊕ (Int×Unit))
@[reducible] def Z66:Type:=((List (List Int))×Z14)
@[reducible] def Z67:Type:=((List (List Int))×Z18)
@[reducible] def Z68:Type:=(Int×Z49)
@[reducible] def Z69:Type:=(Int×Z52)
@[reducible] def Z70:Type:=((List Int)×Z37)
@[reducible] def Z71:Type:=((List Int)×Z39)
@[reducible] def Z72:Type:=(Z4×Z3)
@[reducible] def Z73:Type:=((List Int)×Z38)
@[reducible] def Z74:Type:=(Int×Z56)
@[reducible] def Z75:Type:=((List Int)×Z42)
@[reducible] def Z76:Type:=(Int×Z61)
@[reducible] def Z77:Type:=(Int×Z62)
@[reducible] def Z78:Type:=(Z6×Z4)
@[reducible] def Z79:Type:=(Z18×(Int×(Int×Unit)))
@[reducible] def Z80:Type:=(Z17 ⊕ Z0)
@[reducible] def Z81:Type:=(Int×Z68)
@[reducible] def Z82:Type:=((List Int)×Z54)
@[reducible] def Z83:Type:=((List Int)×Z52)
@[reducible] def Z84:Type:=((List Int)×Z57)
@[reducible] def Z85:Type:=(Int×Z69)
@[reducible] def Z86:Type:=((List Int)×Z59)
@[reducible] def Z87:Type:=((List Int)×Z61)
@[reducible] def Z88:Type:=((List Int)×Z60)
@[reducible] def Z89:Type:=(Int×Z76)
@[reducible] def Z90:Type:=(Int×Z77)
@[reducible] def Z91:Type:=((List Int)×Z64)
@[reducible] def Z92:Type:=(Z4×Z24)
@[reducible] def Z93:Type:=(Z5×Z24)
@[reducible] def Z94:Type:=(Int×Z81)
@[reducible] def Z95:Type:=(Int×Z82)
@[reducible] def Z96:Type:=((List Int)×Z69)
@[reducible] def Z97:Type:=(Int×Z87)
@[reducible] def Z98:Type:=(Int×Z89)
@[reducible] def Z99:Type:=(Int×Z90)
@[reducible] def c7N:Type:=(Int×Z91)
@[reducible] def d6A:Type:=(Int×Z92)
@[reducible] def d0P:Type:=(Int×Z97)
@[reducible] def d2Y:Type:=(Z18×Z36)
@[reducible] def d6B:Type:=((List Int)×Z93)
@[reducible] def d6C:Type:=(Int×d6A)
@[reducible] def c7O:Type:=((List Int)×Z99)
@[reducible] def b7V:Type:=(Int×d2Y)
@[reducible] def d6D:Type:=(Int×d6B)
@[reducible] def d6E:Type:=(Z6×Z86)
@[reducible] def d6F:Type:=((List Int)×d6C)
@[reducible] def d6G:Type:=(Int×d6D)
@[reducible] def c5H:Type:=(Z4×Z92)
@[reducible] def d6H:Type:=(Int×d6F)
@[reducible] def d6I:Type:=((List Int)×d6E)
@[reducible] def c5I:Type:=((List Int)×d6G)
@[reducible] def c7P:Type:=(Z6×d0P)
@[reducible] def d6J:Type:=((List Int)×c5H)
@[reducible] def d6K:Type:=(Int×d6H)
@[reducible] def d6L:Type:=(Z18×d2Y)
@[reducible] def d6M:Type:=(Int×d6J)
@[reducible] def c7Q:Type:=(Int×d6K)
@[reducible] def d6N:Type:=((List Int)×d6I)
@[reducible] def d6O:Type:=(Int×d6L)
@[reducible] def c7R:Type:=(Int×d6M)
@[reducible] def d6P:Type:=(Int×d6N)
@[reducible] def c7S:Type:=(Int×d6O)
@[reducible] def d6Q:Type:=(Int×d6P)
@[reducible] def d6R:Type:=(Int×d6Q)
@[reducible] def d6S:Type:=(Int×d6R)
@[reducible] def a1w:Type:=(Int×d6S)
@[reducible] def b1o:Type:=(List a1w)
@[reducible] def a9a:Type:=(a1w×Int)
@[reducible] def b9n:Type:=(a1w×Unit)
@[reducible] def c3S:Type:=(b1o×Unit)
@[reducible] def c7T:Type:=(Bool×b9n)
@[reducible] def d2Z:Type:=((List Int)×b9n)
@[reducible] def d6T:Type:=(Int×c3S)
@[reducible] def b9o:Type:=(Int×c7T)
@[reducible] def c7U:Type:=(b1o×((List Int)×Unit))
@[reducible] def d6U:Type:=(Int×d2Z)
@[reducible] def d6V:Type:=(((List Int)×Unit)×b9n)
@[reducible] def c7V:Type:=(Int×b9o)
@[reducible] def c7W:Type:=((List Int)×d6T)
@[reducible] def c7X:Type:=(Int×d6U)
@[reducible] def d6W:Type:=(Z5×b9n)
@[reducible] def d6X:Type:=(Int×d6V)
@[reducible] def c7Y:Type:=(Int×d6W)
@[reducible] def c7Z:Type:=(Int×d6X)
@[reducible] def d6Y:Type:=(Z18×c3S)
@[reducible] def b6P:Type:=(Int×c7Y)
@[reducible] def d6Z:Type:=(Z7×d6Y)
@[reducible] def d7a:Type:=(Int×d6Z)
@[reducible] def a7C:Type:=(Int×d7a)
@[reducible] def d3a:Type:=(a7C×Unit)
@[reducible] def b2M:Type:=(a1w×b9n)
@[reducible] def d3b:Type:=(Int×b2M)
@[reducible] def c8a:Type:=(Int×d3b)
@[reducible] def c8b:Type:=(a1w×b2M)
@[reducible] def c8c:Type:=(a7C×d3a)
@[reducible] def c3T:Type:=(Int×c8c)
@[reducible] def Q0:Ty:=(.pair QI .unit)
@[reducible] def Q1:Ty:=(.pair (.list true (.int .u8)) .unit)
@[reducible] def Q2:Ty:=(.pair (.list true QI) .unit)
@[reducible] def Q3:Ty:=(.pair QL .unit)
@[reducible] def Q4:Ty:=(.pair QI Q0)
@[reducible] def Q5:Ty:=(.pair (.list false QL) .unit)
@[reducible] def Q6:Ty:=(.pair (.list true (.int .u8)) Q0)
@[reducible] def Q7:Ty:=(.pair QI Q2)
@[reducible] def Q8:Ty:=(.pair QI Q3)
@[reducible] def Q9:Ty:=(.pair QI Q4)
@[reducible] def Q10:Ty:=(.pair (.list true QI) Q2)
@[reducible] def Q11:Ty:=(.pair QI Q5)
@[reducible] def Q12:Ty:=(.pair (.list false (.int .u8)) Q4)
@[reducible] def Q13:Ty:=(.pair QI Q10)
@[reducible] def Q14:Ty:=(.pair Q8 Q3)
@[reducible] def Q15:Ty:=(.pair (.nl QI) Q14)
@[reducible] def Q16:Ty:=(.pair QL Q14)
@[reducible] def Q17:Ty:=(.pair (.list true Q4) Q15)
@[reducible] def Q18:Ty:=(.pair (.list false Q4) Q15)
@[reducible] def Q19:Ty:=(.pair (.list false Q4) Q16)
@[reducible] def Q20:Ty:=(.pair (.arr 3 QI) Q17)
@[reducible] def Q21:Ty:=(.pair (.arr 3 QI) Q18)
@[reducible] def Q22:Ty:=(.pair (.arr 3 QI) Q19)
@[reducible] def Q23:Ty:=(.pair (.list true QI) Q20)
@[reducible] def Q24:Ty:=(.pair QL Q21)
@[reducible] def Q25:Ty:=(.pair QL Q22)
@[reducible] def Q26:Ty:=(.pair QI Q23)
@[reducible] def Q27:Ty:=(.pair QI Q24)
@[reducible] def Q28:Ty:=(.pair QI Q25)
@[reducible] def Q29:Ty:=(.pair QI Q26)
@[reducible] def Q30:Ty:=(.pair QI Q27)
@[reducible] def Q31:Ty:=(.pair QI Q28)
@[reducible] def Q32:Ty:=(.pair QI Q29)
@[reducible] def Q33:Ty:=(.pair QI Q30)
@[reducible] def Q34:Ty:=(.pair QI Q31)
@[reducible] def Q35:Ty:=(.pair QI Q32)
@[reducible] def Q36:Ty:=(.pair QI Q33)
@[reducible] def Q37:Ty:=(.pair QI Q34)
@[reducible] def Q38:Ty:=(.pair QI Q35)
@[reducible] def Q39:Ty:=(.pair QI Q37)
@[reducible] def Q40:Ty:=(.pair (.nl Q39) .unit)
@[reducible] def Q41:Ty:=(.pair (.list true Q39) .unit)
@[reducible] def Q42:Ty:=(.pair (.list false Q39) .unit)
@[reducible] def Q43:Ty:=(.pair (.nl Q9) Q40)
@[reducible] def Q44:Ty:=(.pair (.list true Q9) Q40)
@[reducible] def Q45:Ty:=(.pair (.list false Q9) Q41)
@[reducible] def Q46:Ty:=(.pair (.list false Q9) Q42)
@[reducible] def Q47:Ty:=(.pair Q9 Q43)
@[reducible] def Q48:Ty:=(.pair Q9 Q44)
@[reducible] def Q49:Ty:=(.pair Q9 Q45)
@[reducible] def Q50:Ty:=(.pair Q9 Q46)
@[reducible] def Q51:Ty:=(.pair QI Q47)
@[reducible] def Q52:Ty:=(.pair QI Q48)
@[reducible] def Q53:Ty:=(.pair QI Q49)
@[reducible] def Q54:Ty:=(.pair QI Q50)
@[reducible] def Q55:Ty:=(.pair QI Q52)
@[reducible] def Q56:Ty:=(.pair QI Q53)
@[reducible] def Q57:Ty:=(.pair QI Q54)
def c5y:List (Nat×Ty):=[(2,.int .i64),(3,.int .i64),(5,.int .u8),(22,.list false QL),(24,.pair QI Q5),(25,.int .u16),(30,.pair QI Q4),(31,.list false Q9),(32,.list false Q39),(34,.pair QI Q54),(35,.int .i64),(38,.list false (.int .u8)),(42,.int .u64),(49,.int .u64),(55,.list false QI),(103,.arr 3 QI),(104,.list false Q4),(106,.pair QI Q3),(108,.pair QI Q37),(113,.pair (.list false (.int .u8)) Q0),(122,.pair (.list false (.int .u8)) .unit),(141,.list false (.int .u64)),(164,.pair QI Q4),(178,.pair QI Q0),(192,.pair (.list false (.int .u8)) Q4),(236,.pair (.list false (.int .u8)) Q4),(256,.arr 64 (.int .u8)),(285,.list false (.arr 3 QI)),(295,.pair QI (.pair QL Q3)),(298,.pair QI (.pair QL Q3))]
def T0:Nat→Option Ty:=fun t=>find c5y t
def c8d:List Nat:=[30,103,164,178]
def d7b:Nat→Bool:=fun t=>c8d.contains t
def c5J:List Nat:=[]
def d7c:Nat→Bool:=fun t=>c5J.contains t
def b3j:(List Int):=[0,1,56,2,57,49,28,3,61,58,42,50,38,29,17,4,62,47,59,36,45,43,51,22,53,39,33,30,24,18,12,5,63,55,48,27,60,41,37,16,46,35,44,21,52,32,23,11,54,26,40,15,34,20,31,10,25,14,19,9,13,8,7,6]
def G0:Nat→Option ((t:Ty)×t.den):=fun g=>find ([(0,⟨.arr 64 (.int .u8),b3j⟩)]:List (Nat×((t:Ty)×t.den))) g
@[reducible] def a1O(a:List (Nat×FSem))(b:List (Nat×Ty))(c d:List Nat):Cx:=⟨d7c,d7b,T0,fun f=>find a f,fun n=>find b n,fun i=>c.contains i,fun i=>d.contains i,G0⟩
def a6K(x:Z14):Option Int:= cond ((x.2.1.length:Int)==0) (some 0) ((l0z x.2.1 0).bind fun x1=> some (x1.length:Int))
def b6Q:FSem:=⟨[.v Q11],[.v QI],a6K⟩
def H22:Hints:=⟨[],[],[]⟩
def b4Y(x:Int):Option Int:= (show Option (Int×Bool×Unit)from cond (decide (x<1)) (some (x,true,())) (some (x,decide (x > 31),()))).bind fun z1=> cond z1.2.1 (some 0) (cond (decide ((wrap .i64 (z1.1-1))<0)) none (some (z0g .i64 (-1) (wrap .i64 (z1.1-1)))))
def b9p:FSem:=⟨[.v QI],[.v QI],b4Y⟩
def d7d:Hints:=⟨[],[(6,[(.normal,[.sv 0 QI,.sv 8 .bool])])],[]⟩
def b3Y(x:Int):Option Int:= (show Option (Int×Bool×Unit)from cond (decide (x<1)) (some (x,true,())) (some (x,decide (x > 31),()))).bind fun z1=> cond z1.2.1 (some 0) (cond (decide ((wrap .i64 (z1.1-1))<0)) none (some (wrap .i64 ((z0g .i64 1 (wrap .i64 (z1.1-1)))-1))))
def b8I:FSem:=⟨[.v QI],[.v QI],b3Y⟩
def d7e:Hints:=⟨[],[(6,[(.normal,[.sv 0 QI,.sv 8 .bool])])],[]⟩
def a3E(x:(Int×Int)):Option Bool:= cond (decide (x.2≥1)) (cond (decide (x.2≤31)) ((b4Y x.2).bind fun y1=> cond (decide (y1≤x.1)) ((b3Y x.2).bind fun y2=> some (decide (x.1≤y2))) (some false)) (some false)) (some false)
def b0W:FSem:=⟨[.v QI,.v QI],[.v .bool],a3E⟩
def H95:Hints:=⟨[],[],[]⟩
def a7W(x:Int):Option Bool:= cond (decide (4≤x)) (some (decide (x≤24))) (some false)
def b3Z:FSem:=⟨[.v QI],[.v .bool],a7W⟩
def d7f:Hints:=⟨[],[],[]⟩
def a5g(s:((List (List Int))×(Int×(Int×((List Int)×Z74))))):Option (((List (List Int))×(Int×(Int×((List Int)×Z74)))) ⊕ (((List (List Int))×Z74) ⊕ (Bool×Unit))):= cond (decide (s.2.2.2.2.2.1<s.2.2.2.2.1)) ((l0z s.2.2.2.1 s.2.2.2.2.2.1).bind fun x8=> (a3E (x8,s.2.2.2.2.2.2.1.1)).bind fun y9=> cond (!y9) (some (.inr (Sum.inr ((false,()))))) (some (.inl (s.1,s.2.1,s.2.2.1,s.2.2.2.1,s.2.2.2.2.1,wrap .i64 (s.2.2.2.2.2.1+1),s.2.2.2.2.2.2.1,())))) (some (.inr (Sum.inl (s.1,s.2.1,s.2.2.1,s.2.2.2.2.2.2.1,()))))
def a5h(s:((List (List Int))×Z74)):Option (((List (List Int))×Z74) ⊕ Z0):= cond (decide (s.2.2.1<s.2.1)) ((l0z s.1 s.2.2.1).bind fun x6=> (a6K s.2.2.2.1).bind fun y7=> cond ((x6.length:Int) != y7) (some (.inr (Sum.inr ((false,()))))) ((x0r a5g (s.1,s.2.1,s.2.2.1,x6,(x6.length:Int),0,s.2.2.2.1,())).bind fun w10=> match w10 with |.inl a11=>some (.inl (a11.1,a11.2.1,wrap .i64 (a11.2.2.1+1),a11.2.2.2.1,())) |.inr b12=>some (.inr (Sum.inr ((b12.1,())))))) (some (.inr (Sum.inl ())))
def b0G(x:Z14):Option Bool:= (show Option (Bool×Z36)from(a7W x.1).bind fun y1=> cond (!y1) (some (true,x,())) (cond (decide ((x.2.1.length:Int)<1)) (some (true,x,())) (some (decide ((x.2.1.length:Int) > 8),x,())))).bind fun z2=> cond z2.1 (some false) ((show Option (Bool×Z36)from(a6K z2.2.1).bind fun y3=> cond (decide (y3<1)) (some (true,z2.2.1,())) ((a6K z2.2.1).bind fun y4=> some (decide (y4 > 4096),z2.2.1,()))).bind fun z5=> cond z5.1 (some false) ((x0r a5h (z5.2.1.2.1,(z5.2.1.2.1.length:Int),0,z5.2.1,())).bind fun w13=> match w13 with |.inl a14=>some true |.inr b15=>some b15.1))
def b0H:FSem:=⟨[.v Q11],[.v .bool],b0G⟩
def H56:Hints:=⟨[(122,[.sv 32 (.list false QL),.sv 33 QI,.sv 34 QI,.vp 1 Q11],[(.exit 0,[]),(.ret,[.sv 2 .bool])]),(62670,[.sv 32 (.list false QL),.sv 33 QI,.sv 34 QI,.sv 43 QL,.sv 44 QI,.sv 45 QI,.vp 1 Q11],[(.exit 2,[.sv 32 (.list false QL),.sv 33 QI,.sv 34 QI,.vp 1 Q11]),(.ret,[.sv 2 .bool])])],[(6,[(.normal,[.sv 22 .bool,.vp 1 Q11])]),(14,[(.normal,[.sv 30 .bool,.vp 1 Q11])])],[]⟩
def a7X(x:Z7):Option Bool:= cond (decide (1≤x.1)) (cond (decide (x.1≤1048576)) (cond (decide (1≤x.2.1)) (cond (decide (x.2.1≤8)) ((a7W x.2.2.1).bind fun y1=> some y1) (some false)) (some false)) (some false)) (some false)
def b4a:FSem:=⟨[.v Q9],[.v .bool],a7X⟩
def H57:Hints:=⟨[],[],[]⟩
def b0I(x:Int):Option Bool:= cond (decide ((-1073741824)≤x)) (some (decide (x<1073741824))) (some false)
def b6R:FSem:=⟨[.v QI],[.v .bool],b0I⟩
def d7g:Hints:=⟨[],[],[]⟩
def a5i(s:((List (List Int))×((List (List Int))×Z57))):Option (((List (List Int))×((List (List Int))×Z57)) ⊕ (((List (List Int))×Z30) ⊕ (Bool×Unit))):= cond (decide (s.2.2.2.2.2.2.1<s.2.2.2.2.2.1)) ((l0z s.2.2.2.2.1 s.2.2.2.2.2.2.1).bind fun x5=> (b0I x5).bind fun y6=> cond (!y6) (some (.inr (Sum.inr ((false,()))))) (some (.inl (s.1,s.2.1,s.2.2.1,s.2.2.2.1,s.2.2.2.2.1,s.2.2.2.2.2.1,wrap .i64 (s.2.2.2.2.2.2.1+1),())))) (some (.inr (Sum.inl (s.1,s.2.1,s.2.2.1,s.2.2.2.1,()))))
def a5j(s:((List (List Int))×Z30)):Option (((List (List Int))×Z30) ⊕ Z0):= cond (decide (s.2.2.2.1<s.2.2.1)) ((l0z s.2.1 s.2.2.2.1).bind fun x3=> (l0z s.1 0).bind fun x4=> cond ((x3.length:Int) != (x4.length:Int)) (some (.inr (Sum.inr ((false,()))))) ((x0r a5i (s.1,s.2.1,s.2.2.1,s.2.2.2.1,x3,(x3.length:Int),0,())).bind fun w7=> match w7 with |.inl a8=>some (.inl (a8.1,a8.2.1,a8.2.2.1,wrap .i64 (a8.2.2.2.1+1),())) |.inr b9=>some (.inr (Sum.inr ((b9.1,())))))) (some (.inr (Sum.inl ())))
def a8r(x:(List (List Int))):Option Bool:= (show Option ((List (List Int))×(Bool×Unit))from cond (decide ((x.length:Int)<1)) (some (x,true,())) (cond (decide ((x.length:Int) > 8)) (some (x,true,())) ((l0z x 0).bind fun x1=> some (x,decide ((x1.length:Int) > 4096),())))).bind fun z2=> cond z2.2.1 (some false) ((x0r a5j (z2.1,z2.1,(z2.1.length:Int),0,())).bind fun w10=> match w10 with |.inl a11=>some true |.inr b12=>some b12.1)
def b3k:FSem:=⟨[.v (.list false QL)],[.v .bool],a8r⟩
def d7h:Hints:=⟨[(58,[.sv 0 (.list false QL),.sv 22 (.list false QL),.sv 23 QI,.sv 24 QI],[(.exit 0,[]),(.ret,[.sv 2 .bool])]),(29902,[.sv 0 (.list false QL),.sv 22 (.list false QL),.sv 23 QI,.sv 24 QI,.sv 35 QL,.sv 36 QI,.sv 37 QI],[(.exit 2,[.sv 0 (.list false QL),.sv 22 (.list false QL),.sv 23 QI,.sv 24 QI]),(.ret,[.sv 2 .bool])])],[(6,[(.normal,[.sv 0 (.list false QL),.sv 21 .bool])])],[]⟩
def a7Y(s:(Int×Z79)):Option ((Int×Z79) ⊕ Z0):= cond (decide (s.2.2.2.1<s.2.2.1)) ((l0z s.2.1 s.2.2.2.1).bind fun x2=> (show Option (Int×Z18×Int×Int×Bool×Z28)from cond (decide (x2.1<0)) (some (s.1,s.2.1,s.2.2.1,s.2.2.2.1,true,x2,())) (cond (decide (x2.1≥s.1)) (some (s.1,s.2.1,s.2.2.1,s.2.2.2.1,true,x2,())) (cond (decide (x2.2.1<0)) (some (s.1,s.2.1,s.2.2.1,s.2.2.2.1,true,x2,())) (cond (decide (x2.2.1≥s.1)) (some (s.1,s.2.1,s.2.2.1,s.2.2.2.1,true,x2,())) (some (s.1,s.2.1,s.2.2.1,s.2.2.2.1,x2.1==x2.2.1,x2,())))))).bind fun z3=> cond z3.2.2.2.2.1 (some (.inr (Sum.inr ((false,()))))) ((show Option (Int×Z18×Z11)from cond (decide (z3.2.2.2.2.2.1.2.2.1<(-1024))) (some (z3.1,z3.2.1,z3.2.2.1,z3.2.2.2.1,true,())) (some (z3.1,z3.2.1,z3.2.2.1,z3.2.2.2.1,decide (z3.2.2.2.2.2.1.2.2.1 > 1024),()))).bind fun z4=> cond z4.2.2.2.2.1 (some (.inr (Sum.inr ((false,()))))) (some (.inl (z4.1,z4.2.1,z4.2.2.1,wrap .i64 (z4.2.2.2.1+1),()))))) (some (.inr (Sum.inl ())))
def a9x(x:(Z18×Int)):Option Bool:= (show Option (Z18×Int×Bool×Unit)from cond (decide (x.2<1)) (some (x.1,x.2,true,())) (cond (decide (x.2 > 8)) (some (x.1,x.2,true,())) (some (x.1,x.2,decide ((x.1.length:Int) > 16),())))).bind fun z1=> cond z1.2.2.1 (some false) ((x0r a7Y (z1.2.1,z1.1,(z1.1.length:Int),0,())).bind fun w5=> match w5 with |.inl a6=>some true |.inr b7=>some b7.1)
def b4G:FSem:=⟨[.v (.list false Q9),.v QI],[.v .bool],a9x⟩
def d7i:Hints:=⟨[(58,[.sv 1 QI,.sv 18 (.list false Q9),.sv 19 QI,.sv 20 QI],[(.exit 0,[]),(.ret,[.sv 4 .bool])])],[(6,[(.normal,[.sv 0 (.list false Q9),.sv 1 QI,.sv 17 .bool])]),(7474,[(.normal,[.sv 1 QI,.sv 18 (.list false Q9),.sv 19 QI,.sv 20 QI,.sv 50 .bool,.box 6 Q9,.ptr 6 6 []])]),(7475,[(.normal,[.sv 1 QI,.sv 18 (.list false Q9),.sv 19 QI,.sv 20 QI,.sv 58 .bool])])],[]⟩
def a1i(x:(List Int)):Option (List Int):= w0g x
def a1a:FSem:=⟨[.v QL],[.o QI],a1i⟩
def d7j:Hints:=⟨[],[],[]⟩
def d1A:Cx:=a1O [] [] [0,2] []
theorem d4e(x):z0c d1A d7j Tryz.f183 a1a.ps a1a.rs x=a1a.F x:=Eq.trans (show _=v0w x by kernel_rfl) (z0q x)
def a7D(s:((List (List Int))×Z31)):Option (((List (List Int))×Z31) ⊕ Z1):= cond (decide (s.2.2.1<s.2.1)) ((l0z s.1 s.2.2.1).bind fun x1=> (a1i x1).bind fun y2=> cond (lim ((a03 s.2.2.2.1)+(a03 (a06 ([[]]:List (List Int)) 0 y2)))) (some (.inl (s.1,s.2.1,wrap .i64 (s.2.2.1+1),a04 s.2.2.2.1 (a06 ([[]]:List (List Int)) 0 y2),()))) none) (some (.inr (s.2.2.2.1,())))
def a7Z(x:(List (List Int))):Option (List (List Int)):= (x0r a7D (x,(x.length:Int),0,([]:(List (List Int))),())).bind fun w3=> some w3.1
def b4b:FSem:=⟨[.v (.list false QL)],[.o (.list true QI)],a7Z⟩
def d7k:Hints:=⟨[(58,[.sv 6 (.list false QL),.sv 7 QI,.sv 8 QI,.own 3 3 (.list true QI)],[(.exit 0,[.own 3 3 (.list true QI)])])],[],[]⟩
def a4q(s:(Int×(Int×(Int×((List (List Int))×(Z7×Int×Unit)))))):Option ((Int×(Int×(Int×((List (List Int))×(Z7×Int×Unit))))) ⊕ (Z1 ⊕ (Bool×Z1))):= cond (decide (s.2.2.1<s.2.1)) (cond ((decide (0≤s.2.2.1))&&(decide (s.2.2.1<((a03 (a02 s.2.2.2.1 (a00 s.2.2.2.2.2.1) []):Nat):Int)))) (cond ((decide (0≤s.2.2.2.2.1.2.1))&&(decide (s.2.2.2.2.1.2.1<(s.2.2.2.1.length:Int)))) (cond ((decide (0≤s.2.2.1))&&(decide (s.2.2.1<((a03 (a02 s.2.2.2.1 (a00 s.2.2.2.2.1.2.1) []):Nat):Int)))) ((b0I (wrap .i64 ((a02 (a02 s.2.2.2.1 (a00 s.2.2.2.2.1.2.1) []) (a00 s.2.2.1) 0)+(wrap .i64 (s.1*(z0h .i64 (wrap .i64 (s.2.2.2.2.1.2.2.1*(a02 (a02 s.2.2.2.1 (a00 s.2.2.2.2.2.1) []) (a00 s.2.2.1) 0))) 8)))))).bind fun y1=> cond (!y1) (some (.inr (Sum.inr ((false,s.2.2.2.1,()))))) (cond ((decide (0≤s.2.2.2.2.1.2.1))&&(decide (s.2.2.2.2.1.2.1<(s.2.2.2.1.length:Int)))) (cond ((decide (0≤s.2.2.1))&&(decide (s.2.2.1<((a03 (a02 s.2.2.2.1 (a00 s.2.2.2.2.1.2.1) []):Nat):Int)))) (some (.inl (s.1,s.2.1,wrap .i64 (s.2.2.1+1),a06 s.2.2.2.1 (a00 s.2.2.2.2.1.2.1) (a06 (a02 s.2.2.2.1 (a00 s.2.2.2.2.1.2.1) []) (a00 s.2.2.1) (wrap .i64 ((a02 (a02 s.2.2.2.1 (a00 s.2.2.2.2.1.2.1) []) (a00 s.2.2.1) 0)+(wrap .i64 (s.1*(z0h .i64 (wrap .i64 (s.2.2.2.2.1.2.2.1*(a02 (a02 s.2.2.2.1 (a00 s.2.2.2.2.2.1) []) (a00 s.2.2.1) 0))) 8)))))),s.2.2.2.2.1,((a00 s.2.2.2.2.2.1:Nat):Int),()))) none) none)) none) none) none) (some (.inr (Sum.inl (s.2.2.2.1,()))))
def a9b(x:((List (List Int))×(Z7×Int))):Option (Bool×(List (List Int))):= cond ((decide (0≤x.2.1.1))&&(decide (x.2.1.1<(x.1.length:Int)))) ((x0r a4q (x.2.2,((a03 (a02 x.1 (a00 x.2.1.1) []):Nat):Int),0,x.1,x.2.1,((a00 x.2.1.1:Nat):Int),())).bind fun w2=> match w2 with |.inl a3=>some (true,a3.1) |.inr b4=>some (b4.1,b4.2.1)) none
def b4Z:FSem:=⟨[.r false (.o (.list true QI)),.v Q9,.v QI],[.v .bool],a9b⟩
def d7l:Hints:=⟨[(26,[.sv 2 QI,.sv 15 QI,.sv 16 QI,.own 0 pinned (.list true QI),.vp 4 Q9,.rfi 14 pinned],[(.exit 0,[.own 0 pinned (.list true QI)]),(.ret,[.sv 6 .bool,.own 0 pinned (.list true QI)])])],[],[(4,[.q,.v,.v,.q,.q,.v,.q,.q,.v,.v,.v,.v,.v,.v,.v,.x,.x])]⟩
def a9c(s:(Z18×Z31)):Option ((Z18×Z31) ⊕ (Z1 ⊕ Z15)):= cond (decide (s.2.2.1<s.2.1)) ((l0z s.1 s.2.2.1).bind fun x5=> (a9b (s.2.2.2.1,x5,1)).bind fun y6=> cond (!y6.1) (some (.inr (Sum.inr ((([]:(List (List Int))),6,()))))) (some (.inl (s.1,s.2.1,wrap .i64 (s.2.2.1+1),y6.2,())))) (some (.inr (Sum.inl (s.2.2.2.1,()))))
def b1A(x:Z67):Option ((List (List Int))×Int):= (show Option ((List (List Int))×(Z18×Bool×Unit))from(a8r x.1).bind fun y1=> cond (!y1) (some (x.1,x.2,true,())) ((a9x (x.2,(x.1.length:Int))).bind fun y2=> some (x.1,x.2,!y2,()))).bind fun z3=> cond z3.2.2.1 (some (([]:(List (List Int))),1)) ((a7Z z3.1).bind fun y4=> (x0r a9c (z3.2.1,(z3.2.1.length:Int),0,y4,())).bind fun w7=> match w7 with |.inl a8=>some (a8.1,0) |.inr b9=>some (b9.1,b9.2.1))
def b9q:FSem:=⟨[.v (.list false QL),.v (.list false Q9)],[.v (.list false QL),.v QI],b1A⟩
def H59:Hints:=⟨[(122,[.sv 21 (.list false Q9),.sv 22 QI,.sv 23 QI,.own 6 6 (.list true QI)],[(.exit 0,[.own 6 6 (.list true QI)]),(.ret,[.sv 4 (.list false QL),.sv 5 QI])])],[(6,[(.normal,[.sv 0 (.list false QL),.sv 1 (.list false Q9),.sv 18 .bool])])],[]⟩
def a2Q(s:(Int×((List Int)×Z50))):Option ((Int×((List Int)×Z50)) ⊕ Z50):= cond (decide (s.2.2.1<(s.2.1.length:Int))) ((l0z s.2.1 s.2.2.1).bind fun x3=> (l0z s.2.1 (wrap .i64 (s.2.2.1-1))).bind fun x4=> (l0z s.2.1 (wrap .i64 (s.2.2.1-2))).bind fun x5=> some (.inl (wrap .i64 (s.1+(u0z (wrap .i64 ((wrap .i64 (x3-(wrap .i64 (2*x4))))+x5)) (wrap .i64 (0-(wrap .i64 ((wrap .i64 (x3-(wrap .i64 (2*x4))))+x5)))))),s.2.1,wrap .i64 (s.2.2.1+1),s.2.2.2.1,s.2.2.2.2.1,s.2.2.2.2.2.1,()))) (some (.inr (s.1,s.2.2.2.1,s.2.2.2.2.1,s.2.2.2.2.2.1,())))
def a2R(s:Z50):Option (Z50 ⊕ (Int×Unit)):= cond (decide (s.2.2.2.1<s.2.2.1)) ((l0z s.2.1 s.2.2.2.1).bind fun x2=> (x0r a2Q (s.1,x2,2,s.2.1,s.2.2.1,s.2.2.2.1,())).bind fun w6=> some (.inl (w6.1,w6.2.1,w6.2.2.1,wrap .i64 (w6.2.2.2.1+1),()))) (some (.inr (s.1,())))
def a4z(x:(List (List Int))):Option Int:= (a8r x).bind fun y1=> cond (!y1) (some 0) ((x0r a2R (0,x,(x.length:Int),0,())).bind fun w7=> some w7.1)
def b8J:FSem:=⟨[.v (.list false QL)],[.v QI],a4z⟩
def d7m:Hints:=⟨[(122,[.sv 3 QI,.sv 11 (.list false QL),.sv 12 QI,.sv 13 QI],[(.exit 0,[.sv 3 QI])]),(31334,[.sv 3 QI,.sv 5 QL,.sv 6 QI,.sv 11 (.list false QL),.sv 12 QI,.sv 13 QI],[(.exit 2,[.sv 3 QI,.sv 11 (.list false QL),.sv 12 QI,.sv 13 QI])])],[],[(10,[.v,.v,.v,.v,.v,.v,.v,.v,.v,.v,.v,.v,.v,.v,.v,.v,.x,.x])]⟩
def a9d(x:Int):Option Z18:= cond (x==1) (some ([(0,1,(-256),())]:List Z7)) (cond (x==2) (some ([(1,0,(-256),())]:List Z7)) (cond (x==3) (some ([(1,0,(-256),()),(0,1,128,())]:List Z7)) (cond (x==4) (some ([(1,0,(-106),()),(0,1,181,()),(1,0,(-106),())]:List Z7)) (some []))))
def b9r:FSem:=⟨[.v QI],[.o Q9],a9d⟩
def d7n:Hints:=⟨[],[],[]⟩
def a2X(s:Z51):Option (Z51 ⊕ (Int×Unit)):= cond (decide (s.2.2.2.1<5)) ((a9d s.2.2.2.1).bind fun y2=> (b1A (s.1,y2)).bind fun y3=> cond (y3.2 != 0) (some (.inl (s.1,s.2.1,s.2.2.1,wrap .i64 (s.2.2.2.1+1),()))) ((a4z y3.1).bind fun y4=> cond (decide (y4<s.2.2.1)) (some (.inl (s.1,s.2.2.2.1,y4,wrap .i64 (s.2.2.2.1+1),()))) (some (.inl (s.1,s.2.1,s.2.2.1,wrap .i64 (s.2.2.2.1+1),()))))) (some (.inr (s.2.1,())))
def a8s(x:(List (List Int))):Option Z18:= (a4z x).bind fun y1=> (x0r a2X (x,0,y1,1,())).bind fun w5=> (a9d w5.1).bind fun y6=> some y6
def c1n:FSem:=⟨[.v (.list false QL)],[.o Q9],a8s⟩
def d7o:Hints:=⟨[(58,[.sv 0 (.list false QL),.sv 3 QI,.sv 4 QI,.sv 5 QI],[(.exit 0,[.sv 3 QI])])],[],[]⟩
def a7d(s:(Int×c7S)):Option ((Int×c7S) ⊕ b7V):= cond (decide (s.2.2.1<s.2.1)) (cond ((decide (0≤s.2.2.1))&&(decide (s.2.2.1<(s.2.2.2.2.1.length:Int)))) (cond (lim ((a03 s.2.2.2.1)+1)) (some (.inl (s.1,s.2.1,wrap .i64 (s.2.2.1+1),a04 s.2.2.2.1 ([(wrap .i64 (((a02 s.2.2.2.2.1 (a00 s.2.2.1) (0,0,0,())).1)+s.1),wrap .i64 ((((a02 s.2.2.2.2.1 (a00 s.2.2.1) (0,0,0,())).2).1)+s.1),(((a02 s.2.2.2.2.1 (a00 s.2.2.1) (0,0,0,())).2).2).1,())]:List Z7),s.2.2.2.2.1,s.2.2.2.2.2.1,()))) none) none) (some (.inr (s.1,s.2.2.2.1,s.2.2.2.2.2.1,())))
def a3P(s:b7V):Option (b7V ⊕ (Z18×Unit)):= cond (decide ((wrap .i64 (s.1+1))<(s.2.2.1.2.1.length:Int))) (cond ((decide (0≤(wrap .i64 (s.1+2))))&&(decide ((wrap .i64 (s.1+2))≤(s.2.2.1.2.1.length:Int)))) (cond ((decide (0≤s.1))&&(decide (s.1≤((a00 (wrap .i64 (s.1+2)):Nat):Int)))) ((a8s (a07 (a00 s.1) (a05 (a00 (wrap .i64 (s.1+2))) s.2.2.1.2.1))).bind fun y2=> (x0r a7d (s.1,(y2.length:Int),0,s.2.1,y2,s.2.2.1,())).bind fun w3=> some (.inl (wrap .i64 (w3.1+2),w3.2.1,w3.2.2.1,()))) none) none) (some (.inr (s.2.1,())))
def a5d(x:Z14):Option Z18:= (b0G x).bind fun y1=> cond (!y1) (some []) ((x0r a3P (0,[],x,())).bind fun w4=> some w4.1)
def c1o:FSem:=⟨[.v Q11],[.o Q9],a5d⟩
def H58:Hints:=⟨[(122,[.sv 4 QI,.own 3 3 Q9,.vp 1 Q11],[(.exit 0,[.own 3 3 Q9])]),(7826,[.sv 4 QI,.sv 25 QI,.sv 26 QI,.own 3 3 Q9,.own 24 1024 Q9,.vp 1 Q11],[(.exit 2,[.sv 4 QI,.own 3 3 Q9,.vp 1 Q11])])],[],[]⟩
def a2S(s:Z17):Option Z80:= cond (decide (s.2.2.1<s.2.1)) ((l0z s.1 s.2.2.1).bind fun x1=> (show Option Z41 from cond (decide (x1<(-1073741824))) (some (s.1,s.2.1,s.2.2.1,true,())) (some (s.1,s.2.1,s.2.2.1,decide (x1≥1073741824),()))).bind fun z2=> cond z2.2.2.2.1 (some (.inr (Sum.inr ((false,()))))) (some (.inl (z2.1,z2.2.1,wrap .i64 (z2.2.2.1+1),())))) (some (.inr (Sum.inl ())))
def a2I(x:(List Int)):Option Bool:= (x0r a2S (x,(x.length:Int),0,())).bind fun w3=> match w3 with |.inl a4=>some true |.inr b5=>some b5.1
def b0X:FSem:=⟨[.v QL],[.v .bool],a2I⟩
def d7p:Hints:=⟨[(26,[.sv 5 QL,.sv 6 QI,.sv 7 QI],[(.exit 0,[]),(.ret,[.sv 2 .bool])])],[(1689,[(.normal,[.sv 5 QL,.sv 6 QI,.sv 7 QI,.sv 16 .bool])])],[]⟩
def a5S(x:Int):Option Bool:= cond (decide ((-1073741824)≤x)) (some (decide (x<1073741824))) (some false)
def b4c:FSem:=⟨[.v QI],[.v .bool],a5S⟩
def d7q:Hints:=⟨[],[],[]⟩
def a7E(s:Z69):Option (Z69 ⊕ Z58):= cond (decide (s.2.2.2.1<s.2.2.1)) ((l0z s.2.1 s.2.2.2.1).bind fun x2=> (show Option (Int×Int×Z75)from(a5S x2).bind fun y3=> cond (!y3) (some (s.1,x2,s.2.1,s.2.2.1,s.2.2.2.1,true,s.2.2.2.2.1,())) (cond (decide (s.1<0)) none (cond ((z0g .i64 1 s.1)==0) none (some (s.1,x2,s.2.1,s.2.2.1,s.2.2.2.1,(a26 x2 (z0g .i64 1 s.1)) != 0,s.2.2.2.2.1,()))))).bind fun z4=> cond z4.2.2.2.2.2.1 (some (.inr (Sum.inr ((6,[],()))))) (cond (decide (z4.1<0)) none (cond (lim ((a03 z4.2.2.2.2.2.2.1)+1)) (some (.inl (z4.1,z4.2.2.1,z4.2.2.2.1,wrap .i64 (z4.2.2.2.2.1+1),a04 z4.2.2.2.2.2.2.1 [z0h .i64 z4.2.1 z4.1],()))) none))) (some (.inr (Sum.inl (s.2.2.2.2.1,()))))
def a8a(x:((List Int)×Int)):Option ((List Int)×Int):= (show Option Z22 from cond (decide (x.2<0)) (some (x.1,x.2,true,())) (some (x.1,x.2,decide (x.2 > 30),()))).bind fun z1=> cond z1.2.2.1 (some ([],1)) ((x0r a7E (z1.2.1,z1.1,(z1.1.length:Int),0,[],())).bind fun w5=> match w5 with |.inl a6=>some (a6.1,0) |.inr b7=>some (b7.2.1,b7.1))
def b4d:FSem:=⟨[.v QL,.v QI],[.o QI,.v QI],a8a⟩
def d7r:Hints:=⟨[(122,[.sv 1 QI,.sv 15 QL,.sv 16 QI,.sv 17 QI,.own 6 6 QI],[(.exit 0,[.own 6 6 QI]),(.ret,[.sv 5 QI,.own 4 4 QI])])],[(6,[(.normal,[.sv 0 QL,.sv 1 QI,.sv 14 .bool])]),(15666,[(.normal,[.sv 1 QI,.sv 8 QI,.sv 15 QL,.sv 16 QI,.sv 17 QI,.sv 30 .bool,.own 6 6 QI])])],[]⟩
def a1V(x:Int):Option Int:= cond (x==0) (some 64) ((l0z b3j (z0h .u64 (wrap .u64 ((bits .u64 .and x (wrap .u64 (0-x)))*285870213051353865)) 58)).bind fun x1=> some (wrap .i64 x1))
def a1n:FSem:=⟨[.v (.int .u64)],[.v QI],a1V⟩
def c3U:Hints:=⟨[],[],[]⟩
def b1I:Cx:=a1O [] [] [0,2] []
theorem c1p{ρ:Type}{cx:Cx}{ops:List Oper}:∀(l1 l2:List (Md×Oper)) (Γ:AE) (K:AE→Rs ρ),h0h cx ops (l1++l2) Γ K=h0h cx ops l1 Γ fun Γ'=>h0h cx ops l2 Γ' K
 | [],_,_,_=>rfl
 |(md,o)::l1,l2,Γ,K=>by
  simp only[a17,h0h];congr 1;funext Γ';exact c1p l1 l2 Γ' K
theorem b9s{ρ:Type}{cx:Cx}{H:Hints}{a b:Code}{p:Nat}(h:find H.cuts p=none)(Γ:AE)(K:Ex→AE→Rs ρ):c0m cx H (.seq a b) p Γ K=c0m cx H a (2*p) Γ fun e Γ'=>match e with
   |.normal=>c0m cx H b (2*p+1) Γ' K
   |e=>K e Γ':=by
 simp only[c0m,h];rfl
theorem c5K{ρ:Type}{cx:Cx}{H:Hints}{id:Nat}{ops:Array Oper}{p:Nat}(Γ:AE)(K:Ex→AE→Rs ρ):c0m cx H (.region id ops false) p Γ K=h0h cx ops.toList (ops.toList.map fun o=>(.x,o)) Γ fun Γ'=>K .normal Γ':=by
 simp only[c0m,cF]
def b1B:Code:=match Tryz.f191.body with
 |some c=>c
 |none=>.skip
def c3V:Code→Code
 |.seq a _=>a
 |c=>c
def c8e:Code→Code
 |.seq _ b=>b
 |c=>c
def c9x:Code→Array Oper
 |.region _ ops _=>ops
 |_=>#[]
def c7w:Code:=c8e (c8e b1B)
def b5a:List Oper:=(c9x (c3V c7w)).toList
def Γ191(x:Int):AE:=(((ini [.v (.int .u64)] x).set 2 (.val QI (0:Int))).set 3 (.val (.int .u64) x)).set 4 (.val .bool (x==(0:Int)))
def Γ191r(x:Int):AE:=(Γ191 x).set 2 (.val QI (64:Int))
def c5L(e:Ex)(Γ:AE):Option Int:=match e,Γ.pd with
  |.exit _,_=>none
  |_,some _=>none
  |_,none=>(Γ.upto Tryz.f191.ntmps).outs b1I [] Tryz.f191.ntmps [.v QI] (Tryz.f191.results.toList.map .inl) fun y _=>some y
def Γ191b(x a b c i:Int):AE:=((((((Γ191 x).set 5 (.val (.int .u64) x)).set 6 (.val (.int .u64) x)).set 7 (.val (.int .u64) a)).set 8 (.val (.int .u64) b)).set 9 (.val (.int .u64) c)).set 10 (.val (.int .u64) i)
set_option maxRecDepth 100000
theorem d0Q:b1B=.seq (c3V b1B) (.seq (c3V (c8e b1B)) (.seq (.region 3 (c9x (c3V c7w)) false) .ret)):=by kernel_rfl
theorem d2D(x:Int):z0c b1I c3U Tryz.f191 a1n.ps a1n.rs x=c0m b1I c3U b1B 1 (ini [.v (.int .u64)] x) c5L:=rfl
theorem d2E(x:Int)(K:Ex→AE→Option Int):c0m b1I c3U (c3V b1B) 2 (ini [.v (.int .u64)] x) K=K .normal ((ini [.v (.int .u64)] x).set 2 (.val (.int .i64) (0:Int))):=by kernel_rfl
theorem d2F(x:Int)(K:Ex→AE→Option Int):c0m b1I c3U (c3V (c8e b1B)) 6 ((ini [.v (.int .u64)] x).set 2 (.val (.int .i64) (0:Int))) K=bif x==(0:Int)then K .ret (Γ191r x)else K .normal (Γ191 x):=by kernel_rfl
theorem d2G(x:Int):c5L .ret (Γ191r x)=some (64:Int):=by kernel_rfl
theorem d2H(x:Int)(K:AE→Option Int):h0h b1I b5a ((b5a.map fun o=>(Md.x,o)).take 6) (Γ191 x) K =
  K (Γ191b x (wrap .u64 (0-x)) (bits .u64 .and x (wrap .u64 (0-x))) (wrap .u64 ((bits .u64 .and x (wrap .u64 (0-x)))*(285870213051353865:Int))) (z0h .u64 (wrap .u64 ((bits .u64 .and x (wrap .u64 (0-x)))*(285870213051353865:Int))) (58:Int))):=by kernel_rfl
theorem d2I(x a b c i:Int):h0h b1I b5a ((b5a.map fun o=>(Md.x,o)).drop 6) (Γ191b x a b c i) (fun Γ=>c5L .ret Γ)=(l0z b3j i).bind fun h=>some (wrap .i64 h):=by kernel_rfl
theorem d2J(x:Int):h0h b1I b5a (b5a.map fun o=>(Md.x,o)) (Γ191 x) (fun Γ=>c5L .ret Γ)=(l0z b3j (z0h .u64 (wrap .u64 ((bits .u64 .and x (wrap .u64 (0-x)))*(285870213051353865:Int))) (58:Int))).bind fun h=>some (wrap .i64 h):=by
 rw[←List.take_append_drop 6 (b5a.map fun o=>(Md.x,o)),c1p,d2H,d2I]
theorem d3c(x:Int):c0m b1I c3U b1B 1 (ini [.v (.int .u64)] x) c5L=a1V x:=by
 rw[d0Q,b9s rfl,d2E];simp only[];rw[b9s rfl,d2F];simp only[];rw[b9s rfl,c5K];simp only[c0m];rw[d2G];exact congrArg (fun z=>bif x==(0:Int)then some (64:Int)else z) (d2J x)
theorem d4f(x):z0c b1I c3U Tryz.f191 a1n.ps a1n.rs x=a1n.F x:=(d2D x).trans (d3c x)
def a6b(s:Z37):Option (Z37 ⊕ (Int×Unit)):= cond (decide (s.2.2.2.1<s.2.2.1)) ((l0z s.2.1 s.2.2.2.1).bind fun x1=> some (.inl (bits .i64 .or s.1 x1,s.2.1,s.2.2.1,wrap .i64 (s.2.2.2.1+1),()))) (some (.inr (s.1,())))
def a4r(x:(List Int)):Option Int:= (x0r a6b (0,x,(x.length:Int),0,())).bind fun w2=> cond (w2.1==0) (some 0) ((a1V (wrap .u64 w2.1)).bind fun y3=> some (v0a y3 30))
def b1J:FSem:=⟨[.v QL],[.v QI],a4r⟩
def d7s:Hints:=⟨[(58,[.sv 3 QI,.sv 6 QL,.sv 7 QI,.sv 8 QI],[(.exit 0,[.sv 3 QI])])],[],[]⟩
def b5R(s:Z17):Option Z80:= cond (decide (s.2.2.1<s.2.1)) ((l0z s.1 s.2.2.1).bind fun x1=> (show Option Z41 from cond (decide (x1<(-1073741824))) (some (s.1,s.2.1,s.2.2.1,true,())) (some (s.1,s.2.1,s.2.2.1,decide (x1≥1073741824),()))).bind fun z2=> cond z2.2.2.2.1 (some (.inr (Sum.inr ((false,()))))) (some (.inl (z2.1,z2.2.1,wrap .i64 (z2.2.2.1+1),())))) (some (.inr (Sum.inl ())))
def a3i(x:(List Int)):Option Bool:= (x0r b5R (x,(x.length:Int),0,())).bind fun w3=> match w3 with |.inl a4=>some true |.inr b5=>some b5.1
def b5b:FSem:=⟨[.v QL],[.v .bool],a3i⟩
def d7t:Hints:=⟨[(26,[.sv 5 QL,.sv 6 QI,.sv 7 QI],[(.exit 0,[]),(.ret,[.sv 2 .bool])])],[(1689,[(.normal,[.sv 5 QL,.sv 6 QI,.sv 7 QI,.sv 16 .bool])])],[]⟩
def a6c(s:Z38):Option (Z38 ⊕ Z19):= cond (decide ((wrap .i64 (s.1+1))<(s.2.2.2.1.length:Int))) (cond ((decide (0≤(wrap .i64 (s.1+1))))&&(decide ((wrap .i64 (s.1+1))<(s.2.2.2.1.length:Int)))) (cond ((decide (0≤s.1))&&(decide (s.1<(s.2.2.2.1.length:Int)))) (cond ((decide (0≤s.1))&&(decide (s.1<(s.2.2.2.1.length:Int)))) (some (.inl (wrap .i64 (s.1+1),s.2.1,s.2.2.1,a06 s.2.2.2.1 (a00 s.1) (wrap .i64 ((a02 s.2.2.2.1 (a00 (wrap .i64 (s.1+1))) 0)-(a02 s.2.2.2.1 (a00 s.1) 0))),()))) none) none) none) (some (.inr (s.2.1,s.2.2.1,s.2.2.2.1,())))
def a8L(s:Z19):Option (Z19 ⊕ ((List Int)×Unit)):= cond (decide (s.2.1<s.1)) ((x0r a6c (0,s.1,s.2.1,s.2.2.1,())).bind fun w3=> cond ((decide (0≤(wrap .i64 ((w3.2.2.1.length:Int)-1))))&&(decide ((wrap .i64 ((w3.2.2.1.length:Int)-1))≤(w3.2.2.1.length:Int)))) (cond (decide ((a00 (wrap .i64 ((w3.2.2.1.length:Int)-1)))≤(a03 w3.2.2.1))) (some (.inl (w3.1,wrap .i64 (w3.2.1+1),a05 (a00 (wrap .i64 ((w3.2.2.1.length:Int)-1))) w3.2.2.1,()))) none) none) (some (.inr (s.2.2.1,())))
def a3j(x:((List Int)×Int)):Option ((List Int)×Int):= (show Option Z22 from cond (decide (x.2<0)) (some (x.1,x.2,true,())) (cond (decide (x.2 > 4)) (some (x.1,x.2,true,())) (some (x.1,x.2,decide ((x.1.length:Int)<x.2),())))).bind fun z1=> cond z1.2.2.1 (some ([],1)) ((a3i z1.1).bind fun y2=> cond (!y2) (some ([],6)) (cond (lim (a03 z1.1)) ((x0r a8L (z1.2.1,0,z1.1,())).bind fun w4=> (a3i w4.1).bind fun y5=> cond (!y5) (some ([],6)) (some (w4.1,0))) none))
def b5c:FSem:=⟨[.v QL,.v QI],[.o QI,.v QI],a3j⟩
def d7u:Hints:=⟨[(250,[.sv 25 QI,.sv 26 QI,.own 6 6 QI],[(.exit 0,[.own 6 6 QI])]),(64098,[.sv 7 QI,.sv 25 QI,.sv 26 QI,.own 6 6 QI],[(.exit 2,[.sv 25 QI,.sv 26 QI,.own 6 6 QI])])],[(6,[(.normal,[.sv 0 QL,.sv 1 QI,.sv 19 .bool])])],[(11,[.q,.v,.q,.v,.v,.q,.q,.q,.v,.q,.q,.v,.x,.x])]⟩
def a1Y(s:Z57):Option (Z57 ⊕ (Int×Unit)):= cond (decide (s.2.2.2.2.1<s.2.2.2.1)) ((l0z s.2.2.1 s.2.2.2.2.1).bind fun x1=> cond (decide ((wrap .i64 (s.2.2.2.2.1+s.1))≥4)) (some (.inl (s.1,wrap .i64 (s.2.1+(u0z x1 (wrap .i64 (0-x1)))),s.2.2.1,s.2.2.2.1,wrap .i64 (s.2.2.2.2.1+1),()))) (some (.inl (s.1,s.2.1,s.2.2.1,s.2.2.2.1,wrap .i64 (s.2.2.2.2.1+1),())))) (some (.inr (s.2.1,())))
def a5T(x:((List Int)×Int)):Option Int:= (x0r a1Y (x.2,0,x.1,(x.1.length:Int),0,())).bind fun w2=> some w2.1
def b8K:FSem:=⟨[.v QL,.v QI],[.v QI],a5T⟩
def d7v:Hints:=⟨[(58,[.sv 1 QI,.sv 5 QI,.sv 8 QL,.sv 9 QI,.sv 10 QI],[(.exit 0,[.sv 5 QI])])],[],[]⟩
def a1z(s:Z39):Option (Z39 ⊕ (Int×Unit)):= cond (decide (s.2.2.2.1≤4)) ((a3j (s.1,s.2.2.2.1)).bind fun y1=> cond (y1.2 != 0) (some (.inl (s.1,s.2.1,s.2.2.1,wrap .i64 (s.2.2.2.1+1),()))) ((a5T (y1.1,s.2.2.2.1)).bind fun y2=> (show Option ((List Int)×Z47)from cond (decide (s.2.2.1<0)) (some (s.1,s.2.1,s.2.2.1,s.2.2.2.1,y2,true,())) (some (s.1,s.2.1,s.2.2.1,s.2.2.2.1,y2,decide (y2<s.2.2.1),()))).bind fun z3=> cond z3.2.2.2.2.2.1 (some (.inl (z3.1,z3.2.2.2.1,z3.2.2.2.2.1,wrap .i64 (z3.2.2.2.1+1),()))) (some (.inl (z3.1,z3.2.1,z3.2.2.1,wrap .i64 (z3.2.2.2.1+1),()))))) (some (.inr (s.2.1,())))
def a4c(x:(List Int)):Option Int:= (x0r a1z (x,0,(-1),0,())).bind fun w4=> some w4.1
def b9t:FSem:=⟨[.v QL],[.v QI],a4c⟩
def d7w:Hints:=⟨[(58,[.sv 0 QL,.sv 3 QI,.sv 4 QI,.sv 5 QI],[(.exit 0,[.sv 3 QI])])],[(7463,[(.normal,[.sv 0 QL,.sv 3 QI,.sv 4 QI,.sv 5 QI,.sv 8 QI,.sv 30 .bool])])],[]⟩
def a5U(x:Int):Option Bool:= cond (decide (x≥(-1073741824))) (some (decide (x<1073741824))) (some false)
def b0Y:FSem:=⟨[.v QI],[.v .bool],a5U⟩
def d7x:Hints:=⟨[],[],[]⟩
def a3K(s:Z17):Option Z80:= cond (decide (s.2.2.1<s.2.1)) ((l0z s.1 s.2.2.1).bind fun x1=> (a5U x1).bind fun y2=> cond (!y2) (some (.inr (Sum.inr ((false,()))))) (some (.inl (s.1,s.2.1,wrap .i64 (s.2.2.1+1),())))) (some (.inr (Sum.inl ())))
def a2T(x:(List Int)):Option Bool:= (x0r a3K (x,(x.length:Int),0,())).bind fun w3=> match w3 with |.inl a4=>some true |.inr b5=>some b5.1
def a7F:FSem:=⟨[.v QL],[.v .bool],a2T⟩
def d7y:Hints:=⟨[(26,[.sv 5 QL,.sv 6 QI,.sv 7 QI],[(.exit 0,[]),(.ret,[.sv 2 .bool])])],[],[]⟩
def a1R(x:Int):Option Int:= some (v0a (u0z x (-1048576)) 1048575)
def b2N:FSem:=⟨[.v QI],[.v QI],a1R⟩
def d7z:Hints:=⟨[],[],[]⟩
def a1W(s:Z84):Option (Z84 ⊕ Z70):= cond (decide (s.2.1<0)) none ((a1R (z0h .i64 s.2.2.1 s.2.1)).bind fun y2=> cond (decide (s.2.1<0)) none (cond (y2 != (z0h .i64 s.2.2.1 s.2.1)) (some (.inl (s.1,wrap .i64 (s.2.1+1),s.2.2.1,s.2.2.2.1,s.2.2.2.2.1,s.2.2.2.2.2.1,()))) (some (.inr (s.1,s.2.1,s.2.2.2.1,s.2.2.2.2.1,s.2.2.2.2.2.1,())))))
def a2k(s:Z70):Option (Z70 ⊕ Z5):= cond (decide (s.2.2.2.2.1<s.2.2.2.1)) ((l0z s.2.2.1 s.2.2.2.2.1).bind fun x1=> (x0r a1W (s.1,s.2.1,x1,s.2.2.1,s.2.2.2.1,s.2.2.2.2.1,())).bind fun w3=> some (.inl (w3.1,w3.2.1,w3.2.2.1,w3.2.2.2.1,wrap .i64 (w3.2.2.2.2.1+1),()))) (some (.inr (s.1,s.2.1,())))
def a2l(s:Z69):Option (Z69 ⊕ ((List Int)×Unit)):= cond (decide (s.2.2.2.1<s.2.2.1)) ((l0z s.2.1 s.2.2.2.1).bind fun x5=> cond (decide (s.1<0)) none (cond ((decide (0≤s.2.2.2.1))&&(decide (s.2.2.2.1<(s.2.2.2.2.1.length:Int)))) (some (.inl (s.1,s.2.1,s.2.2.1,wrap .i64 (s.2.2.2.1+1),a06 s.2.2.2.2.1 (a00 s.2.2.2.1) (z0h .i64 x5 s.1),()))) none)) (some (.inr (s.2.2.2.2.1,())))
def a3k(x:(List Int)):Option (List Int):= (x0r a2k (x,0,x,(x.length:Int),0,())).bind fun w4=> cond ((decide (0≤(w4.1.length:Int)))&&((decide ((w4.1.length:Int)≤(w4.1.length:Int)))&&(lim (a00 (w4.1.length:Int))))) ((x0r a2l (w4.2.1,w4.1,(w4.1.length:Int),0,a01 (a00 (w4.1.length:Int)) 0,())).bind fun w6=> some w6.1) none
def b5S:FSem:=⟨[.v QL],[.o QI],a3k⟩
def d7A:Hints:=⟨[(58,[.sv 0 QL,.sv 3 QI,.sv 9 QL,.sv 10 QI,.sv 11 QI],[(.exit 0,[.sv 0 QL,.sv 3 QI])]),(250,[.sv 3 QI,.sv 29 QL,.sv 30 QI,.sv 31 QI,.own 6 6 QI],[(.exit 4,[.own 6 6 QI])]),(7474,[.sv 0 QL,.sv 3 QI,.sv 5 QI,.sv 9 QL,.sv 10 QI,.sv 11 QI],[(.exit 2,[.sv 0 QL,.sv 3 QI,.sv 9 QL,.sv 10 QI,.sv 11 QI])])],[],[(5,[.v,.v,.v,.v,.v,.v,.v,.x])]⟩
def a2e(s:Z71):Option (Z71 ⊕ (Int×Int×Unit)):= cond (decide (s.2.2.2.2.1<(s.1.length:Int))) ((l0z s.1 s.2.2.2.2.1).bind fun x1=> (l0z s.2.1 (wrap .i64 (s.2.2.2.2.1-1))).bind fun x2=> (l0z s.1 s.2.2.2.2.1).bind fun x3=> (l0z s.1 s.2.2.2.2.1).bind fun x4=> (l0z s.2.1 (wrap .i64 (s.2.2.2.2.1-1))).bind fun x5=> (l0z s.2.1 (wrap .i64 (s.2.2.2.2.1-1))).bind fun x6=> some (.inl (s.1,s.2.1,wrap .i64 (s.2.2.1+(wrap .i64 (x1*x2))),wrap .i64 (s.2.2.2.1+(wrap .i64 ((wrap .i64 (x3*x4))+(wrap .i64 (x5*x6))))),wrap .i64 (s.2.2.2.2.1+1),()))) (some (.inr (s.2.2.1,s.2.2.2.1,())))
def a2G(s:(Int×Int×Unit)):Option ((Int×Int×Unit) ⊕ (Int×Int×Unit)):= cond (decide (s.2.1≥1099511627776)) (some (.inl (z0h .i64 s.1 1,z0h .i64 s.2.1 1,()))) (some (.inr (s.1,s.2.1,())))
def a2D(x:Z12):Option Int:= (x0r a2e (x.1,x.2.1,0,0,x.2.2,())).bind fun w7=> (x0r a2G (w7.1,w7.2.1,())).bind fun w8=> cond (w8.2.1==0) (some 0) (cond (w8.2.1==0) none ((show Option (Int×Unit)from cond (w8.2.1==0) none (cond (decide ((a26 (z0g .i64 w8.1 15) w8.2.1)<0)) (some (wrap .i64 ((wrap .i64 (a24 (z0g .i64 w8.1 15) w8.2.1))-1),())) (some (wrap .i64 (a24 (z0g .i64 w8.1 15) w8.2.1),())))).bind fun z9=> some (v0a (u0z z9.1 (-16383)) 16383)))
def b2H:FSem:=⟨[.v QL,.v QL,.v QI],[.v QI],a2D⟩
def d7B:Hints:=⟨[(58,[.sv 0 QL,.sv 1 QL,.sv 7 QI,.sv 8 QI,.sv 9 QI],[(.exit 0,[.sv 7 QI,.sv 8 QI])]),(60,[.sv 7 QI,.sv 8 QI],[(.exit 2,[.sv 7 QI,.sv 8 QI])])],[(255,[(.normal,[.sv 10 QI])])],[(5,[.v,.v,.v,.v,.v,.v,.v,.v,.v,.v,.v,.x,.x]),(6,[.v,.v,.v,.v,.v,.v,.v,.v,.v,.v,.v,.v,.v,.v,.v,.v,.v,.v,.v,.v,.v,.v,.x,.x])]⟩
def a1q(s:(Int×Z94)):Option ((Int×Z94) ⊕ Z81):= cond (decide (s.2.2.2.1≥s.2.1)) (cond ((decide (0≤s.2.2.2.1))&&(decide (s.2.2.2.1<(s.2.2.2.2.1.length:Int)))) (cond ((decide (0≤(wrap .i64 (s.2.2.2.1-1))))&&(decide ((wrap .i64 (s.2.2.2.1-1))<(s.2.2.2.2.2.1.length:Int)))) ((a1R (wrap .i64 ((a02 s.2.2.2.2.1 (a00 s.2.2.2.1) 0)-(z0h .i64 (wrap .i64 (s.2.2.1*(a02 s.2.2.2.2.2.1 (a00 (wrap .i64 (s.2.2.2.1-1))) 0))) 14)))).bind fun y6=> cond ((decide (0≤s.2.2.2.1))&&(decide (s.2.2.2.1<(s.2.2.2.2.1.length:Int)))) ((a1R (wrap .i64 ((a02 s.2.2.2.2.2.1 (a00 (wrap .i64 (s.2.2.2.1-1))) 0)-(z0h .i64 (wrap .i64 (s.2.2.1*(a02 s.2.2.2.2.1 (a00 s.2.2.2.1) 0))) 14)))).bind fun y7=> cond ((decide (0≤s.2.2.2.1))&&(decide (s.2.2.2.1<(s.2.2.2.2.2.1.length:Int)))) (some (.inl (s.1,s.2.1,s.2.2.1,wrap .i64 (s.2.2.2.1-1),a06 s.2.2.2.2.1 (a00 s.2.2.2.1) y6,a06 s.2.2.2.2.2.1 (a00 s.2.2.2.1) y7,s.2.2.2.2.2.2.1,()))) none) none) none) none) (some (.inr (s.1,s.2.1,s.2.2.2.2.1,s.2.2.2.2.2.1,s.2.2.2.2.2.2.1,())))
def a1P(s:Z81):Option (Z81 ⊕ ((List Int)×Unit)):= cond (decide (s.2.1≤s.1)) ((a2D (s.2.2.1,s.2.2.2.1,s.2.1)).bind fun y5=> cond (lim ((a03 s.2.2.2.2.1)+1)) ((x0r a1q (s.1,s.2.1,y5,wrap .i64 ((s.2.2.1.length:Int)-1),s.2.2.1,s.2.2.2.1,a04 s.2.2.2.2.1 [y5],())).bind fun w8=> some (.inl (w8.1,wrap .i64 (w8.2.1+1),w8.2.2.1,w8.2.2.2.1,w8.2.2.2.2.1,()))) none) (some (.inr (s.2.2.2.2.1,())))
def a2U(x:((List Int)×Int)):Option ((List Int)×Int):= (show Option Z22 from cond (decide (x.2<1)) (some (x.1,x.2,true,())) (cond (decide (x.2 > 32)) (some (x.1,x.2,true,())) (some (x.1,x.2,decide ((x.1.length:Int) > 4096),())))).bind fun z1=> cond z1.2.2.1 (some ([],1)) ((a2T z1.1).bind fun y2=> cond (!y2) (some ([],6)) ((a3k z1.1).bind fun y3=> (a1i y3).bind fun y4=> cond ((decide (0≤z1.2.1))&&(lim (a00 z1.2.1))) ((x0r a1P (z1.2.1,1,y3,y4,[],())).bind fun w9=> some (w9.1,0)) none))
def b5d:FSem:=⟨[.v QL,.v QI],[.o QI,.v QI],a2U⟩
def d7C:Hints:=⟨[(1018,[.sv 1 QI,.sv 9 QI,.own 6 6 QI,.own 7 7 QI,.own 8 8 QI],[(.exit 0,[.own 8 8 QI])]),(260686,[.sv 1 QI,.sv 9 QI,.sv 10 QI,.sv 11 QI,.own 6 6 QI,.own 7 7 QI,.own 8 8 QI],[(.exit 2,[.sv 1 QI,.sv 9 QI,.own 6 6 QI,.own 7 7 QI,.own 8 8 QI])])],[(6,[(.normal,[.sv 0 QL,.sv 1 QI,.sv 24 .bool])])],[(16,[.q,.v,.q,.q,.q,.v,.v,.q,.q,.v,.x])]⟩
def a1c(s:Z53):Option (Z53 ⊕ (((List Int)×Unit) ⊕ Z5)):= cond (decide (s.2.2.2.1<s.2.2.1)) ((l0z s.2.1 s.2.2.2.1).bind fun x2=> (show Option ((List Int)×Z41)from cond (decide (x2<(-16383))) (some (s.1,s.2.1,s.2.2.1,s.2.2.2.1,true,())) (some (s.1,s.2.1,s.2.2.1,s.2.2.2.1,decide (x2 > 16383),()))).bind fun z3=> cond z3.2.2.2.2.1 (some (.inr (Sum.inr (([],1,()))))) (some (.inl (z3.1,z3.2.1,z3.2.2.1,wrap .i64 (z3.2.2.2.1+1),())))) (some (.inr (Sum.inl (s.1,()))))
def a1Q(s:((List Int)×(Int×(Int×((List Int)×Z85))))):Option (((List Int)×(Int×(Int×((List Int)×Z85)))) ⊕ Z69):= cond (decide (s.2.2.2.2.2.2.2.2.1<s.2.2.2.2.2.2.2.1)) ((l0z s.2.2.2.2.2.2.1 s.2.2.2.2.2.2.2.2.1).bind fun x8=> (l0z s.1 (wrap .i64 ((wrap .i64 (s.2.1-1))-s.2.2.2.2.2.2.2.2.1))).bind fun x9=> cond (lim ((a03 s.2.2.2.2.2.2.2.2.2.1)+1)) (some (.inl (s.1,s.2.1,s.2.2.1,s.2.2.2.1,s.2.2.2.2.1,s.2.2.2.2.2.1,s.2.2.2.2.2.2.1,s.2.2.2.2.2.2.2.1,wrap .i64 (s.2.2.2.2.2.2.2.2.1+1),a04 s.2.2.2.2.2.2.2.2.2.1 [wrap .i64 (x8-(z0h .i64 (wrap .i64 (s.2.2.1*x9)) 14))],()))) none) (some (.inr (s.2.2.1,s.2.2.2.1,s.2.2.2.2.1,s.2.2.2.2.2.1,s.2.2.2.2.2.2.2.2.2.1,())))
def a2x(s:Z53):Option (Z53 ⊕ ((List Int)×Unit)):= cond (decide (s.2.2.2.1<s.2.2.1)) ((l0z s.2.1 s.2.2.2.1).bind fun x7=> cond ((decide (0≤(wrap .i64 (s.2.2.2.1+1))))&&(lim (a00 (wrap .i64 (s.2.2.2.1+1))))) ((x0r a1Q (s.1,s.2.2.2.1,x7,s.2.1,s.2.2.1,s.2.2.2.1,s.1,(s.1.length:Int),0,[],())).bind fun w10=> cond (lim ((a03 w10.2.2.2.2.1)+1)) (some (.inl (a04 w10.2.2.2.2.1 [w10.1],w10.2.1,w10.2.2.1,wrap .i64 (w10.2.2.2.1+1),()))) none) none) (some (.inr (s.1,())))
def a3Q(x:(List Int)):Option ((List Int)×Int):= (show Option Z9 from cond (decide ((x.length:Int)<1)) (some (x,true,())) (some (x,decide ((x.length:Int) > 32),()))).bind fun z1=> cond z1.2.1 (some ([],1)) ((x0r a1c (z1.1,z1.1,(z1.1.length:Int),0,())).bind fun w4=> match w4 with |.inl a5=>((x0r a2x ([],a5.1,(a5.1.length:Int),0,())).bind fun w11=> some (w11.1,0)) |.inr b6=>some (b6.1,b6.2.1))
def b7p:FSem:=⟨[.v QL],[.v QL,.v QI],a3Q⟩
def d7D:Hints:=⟨[(58,[.sv 0 QL,.sv 20 QL,.sv 21 QI,.sv 22 QI],[(.exit 0,[.sv 0 QL]),(.ret,[.sv 2 QL,.sv 3 QI])]),(250,[.sv 6 QL,.sv 34 QL,.sv 35 QI,.sv 36 QI],[(.exit 2,[.sv 6 QL])]),(256410,[.sv 6 QL,.sv 7 QI,.sv 8 QI,.sv 34 QL,.sv 35 QI,.sv 36 QI,.sv 44 QL,.sv 45 QI,.sv 46 QI,.own 9 9 QI],[(.exit 4,[.sv 8 QI,.sv 34 QL,.sv 35 QI,.sv 36 QI,.own 9 9 QI])])],[(6,[(.normal,[.sv 0 QL,.sv 19 .bool])]),(3737,[(.normal,[.sv 0 QL,.sv 20 QL,.sv 21 QI,.sv 22 QI,.sv 31 .bool])])],[]⟩
def a1d(s:Z70):Option (Z70 ⊕ (Z5 ⊕ Z19)):= cond (decide (s.2.2.2.2.1<s.2.2.2.1)) ((l0z s.2.2.1 s.2.2.2.2.1).bind fun x2=> (show Option ((List Int)×(Int×Z41))from cond (decide (x2<(-35184372088832))) (some (s.1,s.2.1,s.2.2.1,s.2.2.2.1,s.2.2.2.2.1,true,())) (some (s.1,s.2.1,s.2.2.1,s.2.2.2.1,s.2.2.2.2.1,decide (x2 > 35184372088832),()))).bind fun z3=> cond z3.2.2.2.2.2.1 (some (.inr (Sum.inr ((0,1,[],()))))) (some (.inl (z3.1,z3.2.1,z3.2.2.1,z3.2.2.2.1,wrap .i64 (z3.2.2.2.2.1+1),())))) (some (.inr (Sum.inl (s.1,s.2.1,()))))
def a1s(s:((List Int)×(Int×Z85))):Option (((List Int)×(Int×Z85)) ⊕ Z52):= cond (decide (s.2.2.2.2.2.2.1<s.2.2.2.2.2.1)) ((l0z s.2.2.2.2.1 s.2.2.2.2.2.2.1).bind fun x8=> cond (decide (s.2.2.1<0)) none ((a3E (z0h .i64 (wrap .i64 (x8+s.2.2.2.1)) s.2.2.1,s.2.1)).bind fun y9=> cond (!y9) (some (.inr (s.1,s.2.1,s.2.2.1,s.2.2.2.2.2.2.2.1,()))) (cond (lim ((a03 s.2.2.2.2.2.2.2.1)+1)) (some (.inl (s.1,s.2.1,s.2.2.1,s.2.2.2.1,s.2.2.2.2.1,s.2.2.2.2.2.1,wrap .i64 (s.2.2.2.2.2.2.1+1),a04 s.2.2.2.2.2.2.2.1 [z0h .i64 (wrap .i64 (x8+s.2.2.2.1)) s.2.2.1],()))) none))) (some (.inr (s.1,s.2.1,s.2.2.1,s.2.2.2.2.2.2.2.1,())))
def a1t(s:Z17):Option (Z17 ⊕ (Unit ⊕ Z19)):= cond (decide (s.2.2.1≤14)) ((show Option Z39 from cond (decide (s.2.2.1 > 0)) (cond (decide ((wrap .i64 (s.2.2.1-1))<0)) none (some (s.1,s.2.1,s.2.2.1,z0g .i64 1 (wrap .i64 (s.2.2.1-1)),()))) (some (s.1,s.2.1,s.2.2.1,0,()))).bind fun z7=> cond ((decide (0≤(z7.1.length:Int)))&&(lim (a00 (z7.1.length:Int)))) ((x0r a1s (z7.1,z7.2.1,z7.2.2.1,z7.2.2.2.1,z7.1,(z7.1.length:Int),0,[],())).bind fun w10=> cond ((w10.2.2.2.1.length:Int)==(w10.1.length:Int)) (some (.inr (Sum.inr ((wrap .i64 (14-w10.2.2.1),0,w10.2.2.2.1,()))))) (some (.inl (w10.1,w10.2.1,wrap .i64 (w10.2.2.1+1),())))) none) (some (.inr (Sum.inl ())))
def a5k(x:((List Int)×Int)):Option Z2:= (show Option Z22 from cond (decide ((x.1.length:Int)<1)) (some (x.1,x.2,true,())) (cond (decide ((x.1.length:Int) > 32)) (some (x.1,x.2,true,())) (cond (decide (x.2<2)) (some (x.1,x.2,true,())) (some (x.1,x.2,decide (x.2 > 16),()))))).bind fun z1=> cond z1.2.2.1 (some ([],0,1)) ((x0r a1d (z1.1,z1.2.1,z1.1,(z1.1.length:Int),0,())).bind fun w4=> match w4 with |.inl a5=>((x0r a1t (a5.1,a5.2.1,0,())).bind fun w11=> match w11 with |.inl a12=>some ([],0,6) |.inr b13=>some (b13.2.2.1,b13.1,b13.2.1)) |.inr b6=>some (b6.2.2.1,b6.1,b6.2.1))
def b7q:FSem:=⟨[.v QL,.v QI],[.o QI,.v QI,.v QI],a5k⟩
def d7E:Hints:=⟨[(58,[.sv 0 QL,.sv 1 QI,.sv 31 QL,.sv 32 QI,.sv 33 QI],[(.exit 0,[.sv 0 QL,.sv 1 QI]),(.ret,[.sv 5 QI,.sv 6 QI,.own 4 4 QI])]),(122,[.sv 0 QL,.sv 1 QI,.sv 9 QI],[(.exit 2,[]),(.ret,[.sv 5 QI,.sv 6 QI,.own 4 11 QI])]),(125242,[.sv 0 QL,.sv 1 QI,.sv 9 QI,.sv 10 QI,.sv 56 QL,.sv 57 QI,.sv 58 QI,.own 11 11 QI],[(.exit 4,[.sv 0 QL,.sv 1 QI,.sv 9 QI,.own 11 11 QI])])],[(6,[(.normal,[.sv 0 QL,.sv 1 QI,.sv 30 .bool])]),(3737,[(.normal,[.sv 0 QL,.sv 1 QI,.sv 31 QL,.sv 32 QI,.sv 33 QI,.sv 42 .bool])]),(3913,[(.normal,[.sv 0 QL,.sv 1 QI,.sv 9 QI,.sv 10 QI])])],[]⟩
def a2J(x:Z2):Option Z2:= (a2U (x.1,x.2.1)).bind fun y1=> cond (y1.2 != 0) (some ([],0,y1.2)) ((a3Q y1.1).bind fun y2=> cond (y2.2 != 0) (some ([],0,y2.2)) ((a5k (y2.1,x.2.2)).bind fun y3=> some (y3.1,y3.2.1,y3.2.2)))
def b4e:FSem:=⟨[.v QL,.v QI,.v QI],[.o QI,.v QI,.v QI],a2J⟩
def d7F:Hints:=⟨[],[],[]⟩
def a8t(x:Int):Option Bool:= cond (decide (x≥(-1073741824))) (some (decide (x<1073741824))) (some false)
def b3l:FSem:=⟨[.v QI],[.v .bool],a8t⟩
def d7G:Hints:=⟨[],[],[]⟩
def a4J(s:Z17):Option Z80:= cond (decide (s.2.2.1<s.2.1)) ((l0z s.1 s.2.2.1).bind fun x1=> (a8t x1).bind fun y2=> cond (!y2) (some (.inr (Sum.inr ((false,()))))) (some (.inl (s.1,s.2.1,wrap .i64 (s.2.2.1+1),())))) (some (.inr (Sum.inl ())))
def a5l(x:(List Int)):Option Bool:= (x0r a4J (x,(x.length:Int),0,())).bind fun w3=> match w3 with |.inl a4=>some true |.inr b5=>some b5.1
def a9y:FSem:=⟨[.v QL],[.v .bool],a5l⟩
def d7H:Hints:=⟨[(26,[.sv 5 QL,.sv 6 QI,.sv 7 QI],[(.exit 0,[]),(.ret,[.sv 2 .bool])])],[],[]⟩
def c3W(s:((List Int)×(Int×Z63))):Option (((List Int)×(Int×Z63)) ⊕ ((List Int)×Z63)):= cond (decide (s.2.2.2.2.2.2.2.1<(s.1.length:Int))) ((l0z s.1 s.2.2.2.2.2.2.2.1).bind fun x3=> (l0z s.1 (wrap .i64 (s.2.2.2.2.2.2.2.1-s.2.2.2.2.2.1))).bind fun x4=> some (.inl (s.1,s.2.1,s.2.2.1,s.2.2.2.1,s.2.2.2.2.1,s.2.2.2.2.2.1,wrap .i64 (s.2.2.2.2.2.2.1+(u0z (wrap .i64 (x3-x4)) (wrap .i64 (0-(wrap .i64 (x3-x4)))))),wrap .i64 (s.2.2.2.2.2.2.2.1+1),()))) (some (.inr (s.1,s.2.1,s.2.2.1,s.2.2.2.1,s.2.2.2.2.1,s.2.2.2.2.2.1,s.2.2.2.2.2.2.1,())))
def c3X(s:((List Int)×Z43)):Option (((List Int)×Z43) ⊕ (Int×Unit)):= cond (decide (s.2.2.2.2.2.1≤s.2.2.1)) ((x0r c3W (s.1,s.2.1,s.2.2.1,s.2.2.2.1,s.2.2.2.2.1,s.2.2.2.2.2.1,0,s.2.2.1,())).bind fun w5=> (show Option ((List Int)×(Int×Int×Z47))from cond (w5.2.2.2.2.2.1==w5.2.1) (some (w5.1,w5.2.1,w5.2.2.1,w5.2.2.2.1,w5.2.2.2.2.1,w5.2.2.2.2.2.1,w5.2.2.2.2.2.2.1,true,())) (some (w5.1,w5.2.1,w5.2.2.1,w5.2.2.2.1,w5.2.2.2.2.1,w5.2.2.2.2.2.1,w5.2.2.2.2.2.2.1,decide (w5.2.2.2.2.2.2.1<w5.2.2.2.2.1),()))).bind fun z6=> cond z6.2.2.2.2.2.2.2.1 (some (.inl (z6.1,z6.2.1,z6.2.2.1,z6.2.2.2.2.2.1,z6.2.2.2.2.2.2.1,wrap .i64 (z6.2.2.2.2.2.1+1),()))) (some (.inl (z6.1,z6.2.1,z6.2.2.1,z6.2.2.2.1,z6.2.2.2.2.1,wrap .i64 (z6.2.2.2.2.2.1+1),())))) (some (.inr (s.2.2.2.1,())))
def b3m(x:Z2):Option (Int×Int):= (show Option Z41 from cond (decide (x.2.1<2)) (some (x.1,x.2.1,x.2.2,true,())) (cond (decide (x.2.1 > x.2.2)) (some (x.1,x.2.1,x.2.2,true,())) (cond (decide (x.2.2 > 1024)) (some (x.1,x.2.1,x.2.2,true,())) (some (x.1,x.2.1,x.2.2,decide ((x.1.length:Int) > 4096),()))))).bind fun z1=> cond z1.2.2.2.1 (some (0,1)) (cond (decide ((z1.1.length:Int)≤z1.2.2.1)) (some (0,7)) ((a5l z1.1).bind fun y2=> cond (!y2) (some (0,6)) ((x0r c3X (z1.1,z1.2.1,z1.2.2.1,0,0,z1.2.1,())).bind fun w7=> some (w7.1,0))))
def c1q:FSem:=⟨[.v QL,.v QI,.v QI],[.v QI,.v QI],b3m⟩
def d7I:Hints:=⟨[(506,[.sv 0 QL,.sv 1 QI,.sv 2 QI,.sv 8 QI,.sv 9 QI,.sv 10 QI],[(.exit 0,[.sv 8 QI])]),(129610,[.sv 0 QL,.sv 1 QI,.sv 2 QI,.sv 8 QI,.sv 9 QI,.sv 10 QI,.sv 11 QI,.sv 12 QI],[(.exit 2,[.sv 0 QL,.sv 1 QI,.sv 2 QI,.sv 8 QI,.sv 9 QI,.sv 10 QI,.sv 11 QI])])],[(6,[(.normal,[.sv 0 QL,.sv 1 QI,.sv 2 QI,.sv 29 .bool])]),(32403,[(.normal,[.sv 0 QL,.sv 1 QI,.sv 2 QI,.sv 8 QI,.sv 9 QI,.sv 10 QI,.sv 11 QI,.sv 74 .bool])])],[(15,[.v,.v,.v,.v,.v,.v,.v,.v,.v,.v,.x,.x])]⟩
def a8b(s:Z5):Option (Z5 ⊕ Z0):= cond (decide (s.2.1<3)) ((l0z s.1 s.2.1).bind fun x2=> (show Option Z22 from cond (decide (x2<(-64))) (some (s.1,s.2.1,true,())) (some (s.1,s.2.1,decide (x2 > 64),()))).bind fun z3=> cond z3.2.2.1 (some (.inr (Sum.inr ((false,()))))) (some (.inl (z3.1,wrap .i64 (z3.2.1+1),())))) (some (.inr (Sum.inl ())))
def a9z(x:(Int×(List Int))):Option Bool:= (show Option Z8 from cond (decide (x.1<2)) (some (true,x.2,())) (some (decide (x.1 > 1024),x.2,()))).bind fun z1=> cond z1.1 (some false) ((x0r a8b (z1.2.1,0,())).bind fun w4=> match w4 with |.inl a5=>some true |.inr b6=>some b6.1)
def b4H:FSem:=⟨[.v QI,.v (.arr 3 QI)],[.v .bool],a9z⟩
def d7J:Hints:=⟨[(58,[.sv 13 (.arr 3 QI),.sv 14 QI],[(.exit 0,[]),(.ret,[.sv 4 .bool])])],[(6,[(.normal,[.sv 12 .bool,.vp 3 (.arr 3 QI)])]),(3737,[(.normal,[.sv 13 (.arr 3 QI),.sv 14 QI,.sv 22 .bool])])],[]⟩
def a4K(s:((List Int)×(Int×Int×Z20))):Option (((List Int)×(Int×Int×Z20)) ⊕ (Int×Unit)):= cond (decide (s.2.2.2.2.2.1<3)) ((l0z s.2.2.2.2.1 s.2.2.2.2.2.1).bind fun x1=> cond (decide ((wrap .i64 ((wrap .i64 ((wrap .i64 (s.2.1-s.2.2.1))-1))+s.2.2.2.2.2.1))≥0)) ((l0z s.1 (wrap .i64 ((wrap .i64 ((wrap .i64 (s.2.1-s.2.2.1))-1))+s.2.2.2.2.2.1))).bind fun x2=> some (.inl (s.1,s.2.1,s.2.2.1,wrap .i64 (s.2.2.2.1+(wrap .i64 (x1*x2))),s.2.2.2.2.1,wrap .i64 (s.2.2.2.2.2.1+1),()))) (some (.inl (s.1,s.2.1,s.2.2.1,s.2.2.2.1,s.2.2.2.2.1,wrap .i64 (s.2.2.2.2.2.1+1),())))) (some (.inr (s.2.2.2.1,())))
def a5m(x:((List Int)×Z3)):Option Int:= (x0r a4K (x.1,x.2.1,x.2.2.1,0,x.2.2.2,0,())).bind fun w3=> some (z0h .i64 w3.1 6)
def b2O:FSem:=⟨[.v QL,.v QI,.v QI,.v (.arr 3 QI)],[.v QI],a5m⟩
def d7K:Hints:=⟨[(58,[.sv 0 QL,.sv 1 QI,.sv 2 QI,.sv 9 QI,.sv 13 (.arr 3 QI),.sv 14 QI],[(.exit 0,[.sv 9 QI])])],[],[]⟩
def a7e(s:((List Int)×Z95)):Option (((List Int)×Z95) ⊕ Z58):= cond (decide (s.2.2.2.2.1<s.2.2.2.1)) ((l0z s.2.2.1 s.2.2.2.2.1).bind fun x3=> (a5m (s.1,s.2.2.2.2.1,s.2.1,s.2.2.2.2.2.2.1)).bind fun y4=> (a8t (wrap .i64 (x3-y4))).bind fun y5=> cond (!y5) (some (.inr (Sum.inr ((6,[],()))))) (cond (lim ((a03 s.2.2.2.2.2.1)+1)) (some (.inl (s.1,s.2.1,s.2.2.1,s.2.2.2.1,wrap .i64 (s.2.2.2.2.1+1),a04 s.2.2.2.2.2.1 [wrap .i64 (x3-y4)],s.2.2.2.2.2.2.1,()))) none)) (some (.inr (Sum.inl (s.2.2.2.2.2.1,()))))
def b0J(x:Z13):Option ((List Int)×Int):= (a9z (x.2.1,x.2.2)).bind fun y1=> cond (!y1) (some ([],1)) ((a5l x.1).bind fun y2=> cond (!y2) (some ([],6)) (cond ((decide (0≤(x.1.length:Int)))&&(lim (a00 (x.1.length:Int)))) ((x0r a7e (x.1,x.2.1,x.1,(x.1.length:Int),0,[],x.2.2,())).bind fun w6=> match w6 with |.inl a7=>some (a7.1,0) |.inr b8=>some (b8.2.1,b8.1)) none))
def b0K:FSem:=⟨[.v QL,.v QI,.v (.arr 3 QI)],[.o QI,.v QI],b0J⟩
def d7L:Hints:=⟨[(250,[.sv 0 QL,.sv 1 QI,.sv 22 QL,.sv 23 QI,.sv 24 QI,.own 8 8 QI,.vp 5 (.arr 3 QI)],[(.exit 0,[.own 8 8 QI]),(.ret,[.sv 7 QI,.own 6 6 QI])])],[],[]⟩
def d3d:Hints:=⟨[],[],[]⟩
def c5M(x:Unit):Option (List (List Int)):=z0c (a1O [] [] [0] []) d3d Tryz.f305 [] [.o (.arr 3 (.int .i64))] x
def b5e:FSem:=⟨[],[.o (.arr 3 QI)],c5M⟩
def d3e:Hints:=⟨[(122,[.sv 0 QL,.sv 1 QI,.sv 7 QI,.sv 8 .bool,.sv 25 QI,.sv 26 QI,.own 24 1024 (.arr 3 QI),.box 4 (.arr 3 QI),.box 6 (.arr 3 QI),.ptr 4 4 [],.ptr 6 6 []],[(.exit 0,[.sv 8 .bool,.box 4 (.arr 3 QI),.box 6 (.arr 3 QI),.ptr 4 4 [],.ptr 6 6 []])]),(501370,[.sv 0 QL,.sv 1 QI,.sv 7 QI,.sv 8 .bool,.sv 13 QI,.sv 25 QI,.sv 26 QI,.sv 40 QI,.sv 41 QI,.own 24 1024 (.arr 3 QI),.own 39 11 QI,.box 4 (.arr 3 QI),.box 6 (.arr 3 QI),.box 10 (.arr 3 QI),.ptr 4 4 [],.ptr 6 6 [],.ptr 10 10 []],[(.exit 2,[.sv 0 QL,.sv 1 QI,.sv 7 QI,.sv 8 .bool,.sv 13 QI,.sv 25 QI,.sv 26 QI,.own 24 1024 (.arr 3 QI),.box 4 (.arr 3 QI),.box 6 (.arr 3 QI),.box 10 (.arr 3 QI),.ptr 4 4 [],.ptr 6 6 [],.ptr 10 10 []])])],[(6,[(.normal,[.sv 0 QL,.sv 1 QI,.sv 21 .bool,.box 4 (.arr 3 QI),.ptr 4 4 []])]),(125343,[(.normal,[.sv 0 QL,.sv 1 QI,.sv 7 QI,.sv 8 .bool,.sv 13 QI,.sv 25 QI,.sv 26 QI,.sv 58 .bool,.own 24 1024 (.arr 3 QI),.box 4 (.arr 3 QI),.box 6 (.arr 3 QI),.box 10 (.arr 3 QI),.ptr 4 4 [],.ptr 6 6 [],.ptr 10 10 []])])],[]⟩
def c1r(x:((List Int)×Int)):Option ((List Int)×Int):=z0c (a1O [(250,b0K),(305,b5e)] [] [0,1,5,7,8,11,12,13,15] []) d3e Tryz.f249 [.v (.list false (.int .i64)),.v (.int .i64)] [.v (.arr 3 (.int .i64)),.v (.int .i64)] x
def c1s:FSem:=⟨[.v QL,.v QI],[.v (.arr 3 QI),.v QI],c1r⟩
def a4d(x:(List Int)):Option (a1w×Bool):= (b3m (x,16,256)).bind fun y1=> cond (y1.2 != 0) (some ((0,0,0,0,0,[],a01 3 0,[],[],(0,[],()),[],()),false)) ((c1r (x,y1.1)).bind fun y2=> cond (y2.2 != 0) (some ((0,0,0,0,0,[],a01 3 0,[],[],(0,[],()),[],()),false)) ((b0J (x,y1.1,y2.1)).bind fun y3=> cond (y3.2 != 0) (some ((0,0,0,0,0,[],a01 3 0,[],[],(0,[],()),[],()),false)) ((a2J (y3.1,4,12)).bind fun y4=> cond (y4.2.2 != 0) (some ((0,0,0,0,0,[],a01 3 0,[],[],(0,[],()),[],()),false)) (some ((4,0,0,y4.2.1,y1.1,y4.1,y2.1,[],[],(0,[],()),[],()),true)))))
def b9u:FSem:=⟨[.v QL],[.v Q39,.v .bool],a4d⟩
def d7M:Hints:=⟨[],[],[]⟩
def a0N(x:(Int×(Int×((List Int)×b1o)))):Option ((List Int)×b1o):= (a2J (x.2.2.1,x.1,x.2.1)).bind fun y1=> cond (y1.2.2==0) (cond (lim ((a03 x.2.2.2)+1)) (some (x.2.2.1,a04 x.2.2.2 ([(3,0,0,y1.2.1,0,y1.1,a01 3 0,[],[],(0,[],()),[],())]:List a1w))) none) (some (x.2.2.1,x.2.2.2))
def b3N:FSem:=⟨[.v QI,.v QI,.r false (.b QL),.r false (.b (.list true Q39))],[],a0N⟩
def d7N:Hints:=⟨[],[],[]⟩
def a2E(s:(Int×c7U)):Option ((Int×c7U) ⊕ c7U):= cond (decide (s.1<5)) (cond (lim ((a03 s.2.1)+1)) (some (.inl (wrap .i64 (s.1+1),a04 s.2.1 ([(2,0,s.1,0,0,[],a01 3 0,[],[],(0,[],()),[],())]:List a1w),s.2.2.1,()))) none) (some (.inr (s.2.1,s.2.2.1,())))
def a7G(x:((List Int)×Int)):Option b1o:= (a4c x.1).bind fun y1=> (show Option (Int×((List Int)×c3S))from cond (decide (x.2≥1)) ((a0N (4,12,x.1,([(0,0,0,0,0,[],a01 3 0,[],[],(0,[],()),[],()),(1,0,0,0,0,[],a01 3 0,[],[],(0,[],()),[],()),(2,0,y1,0,0,[],a01 3 0,[],[],(0,[],()),[],())]:List a1w))).bind fun y2=> (a0N (8,12,y2.1,y2.2)).bind fun y3=> some (x.2,y3.1,y3.2,())) (some (x.2,x.1,([(0,0,0,0,0,[],a01 3 0,[],[],(0,[],()),[],()),(1,0,0,0,0,[],a01 3 0,[],[],(0,[],()),[],()),(2,0,y1,0,0,[],a01 3 0,[],[],(0,[],()),[],())]:List a1w),()))).bind fun z4=> (show Option (Int×c7U)from cond (decide (z4.1≥2)) (cond (lim ((a03 z4.2.2.1)+1)) (cond (lim ((a03 (a04 z4.2.2.1 ([(5,0,0,0,0,[],a01 3 0,([(16,4,())]:List (Int×Int×Unit)),[],(0,[],()),[],())]:List a1w)))+1)) ((a4d z4.2.1).bind fun y5=> cond y5.2 (cond (lim ((a03 (a04 (a04 z4.2.2.1 ([(5,0,0,0,0,[],a01 3 0,([(16,4,())]:List (Int×Int×Unit)),[],(0,[],()),[],())]:List a1w)) ([(5,0,0,0,0,[],a01 3 0,([(32,3,()),(16,5,())]:List (Int×Int×Unit)),[],(0,[],()),[],())]:List a1w)))+1)) (some (z4.1,a04 (a04 (a04 z4.2.2.1 ([(5,0,0,0,0,[],a01 3 0,([(16,4,())]:List (Int×Int×Unit)),[],(0,[],()),[],())]:List a1w)) ([(5,0,0,0,0,[],a01 3 0,([(32,3,()),(16,5,())]:List (Int×Int×Unit)),[],(0,[],()),[],())]:List a1w)) ([y5.1]:List a1w),z4.2.1,())) none) (some (z4.1,a04 (a04 z4.2.2.1 ([(5,0,0,0,0,[],a01 3 0,([(16,4,())]:List (Int×Int×Unit)),[],(0,[],()),[],())]:List a1w)) ([(5,0,0,0,0,[],a01 3 0,([(32,3,()),(16,5,())]:List (Int×Int×Unit)),[],(0,[],()),[],())]:List a1w),z4.2.1,()))) none) none) (some (z4.1,z4.2.2.1,z4.2.1,()))).bind fun z6=> (show Option c3S from cond (decide (z6.1≥3)) ((x0r a2E (0,z6.2.1,z6.2.2.1,())).bind fun w7=> (a0N (1,12,w7.2.1,w7.1)).bind fun y8=> (a0N (2,12,y8.1,y8.2)).bind fun y9=> (a0N (12,14,y9.1,y9.2)).bind fun y10=> (a0N (16,14,y10.1,y10.2)).bind fun y11=> some (y11.2,())) (some (z6.2.1,()))).bind fun z12=> some z12.1
def b5f:FSem:=⟨[.v QL,.v QI],[.v (.list false Q39)],a7G⟩
def d7O:Hints:=⟨[(4050,[.sv 50 QI,.box 5 (.list true Q39),.box 2 QL,.ptr 5 5 [],.clo 6 193 [2,5]],[(.exit 0,[.box 5 (.list true Q39),.box 2 QL,.ptr 5 5 [],.clo 6 193 [2,5]])])],[(15,[(.normal,[.sv 1 QI,.box 2 QL,.box 5 (.list true Q39),.ptr 2 2 [],.ptr 5 5 [],.clo 6 193 [2,5]])]),(31,[(.normal,[.sv 1 QI,.box 5 (.list true Q39),.box 2 QL,.ptr 5 5 [],.clo 6 193 [2,5]])]),(63,[(.normal,[.box 5 (.list true Q39),.ptr 5 5 []])])],[]⟩
def a6d(s:Z17):Option Z80:= cond (decide (s.2.2.1<s.2.1)) ((l0z s.1 s.2.2.1).bind fun x2=> (show Option Z41 from cond (decide (x2<(-32768))) (some (s.1,s.2.1,s.2.2.1,true,())) (some (s.1,s.2.1,s.2.2.1,decide (x2≥32768),()))).bind fun z3=> cond z3.2.2.2.1 (some (.inr (Sum.inr ((false,()))))) (some (.inl (z3.1,z3.2.1,wrap .i64 (z3.2.2.1+1),())))) (some (.inr (Sum.inl ())))
def a5u(x:((List Int)×Int)):Option Bool:= (show Option Z9 from cond (decide ((x.1.length:Int)<1)) (some (x.1,true,())) (cond (decide ((x.1.length:Int) > 32)) (some (x.1,true,())) (cond (decide (x.2<0)) (some (x.1,true,())) (some (x.1,decide (x.2 > 15),()))))).bind fun z1=> cond z1.2.1 (some false) ((x0r a6d (z1.1,(z1.1.length:Int),0,())).bind fun w4=> match w4 with |.inl a5=>some true |.inr b6=>some b6.1)
def b1K:FSem:=⟨[.v QL,.v QI],[.v .bool],a5u⟩
def d7P:Hints:=⟨[(58,[.sv 23 QL,.sv 24 QI,.sv 25 QI],[(.exit 0,[]),(.ret,[.sv 4 .bool])])],[(6,[(.normal,[.sv 0 QL,.sv 22 .bool])]),(3737,[(.normal,[.sv 23 QL,.sv 24 QI,.sv 25 QI,.sv 34 .bool])])],[]⟩
def a8c(x:(Int×Int×Unit)):Option Bool:= cond (decide (x.1≥1)) (cond (decide (x.1≤32)) (cond (decide (x.2.1≥0)) (some (decide (x.2.1≤8))) (some false)) (some false)) (some false)
def b4f:FSem:=⟨[.v Q4],[.v .bool],a8c⟩
def d7Q:Hints:=⟨[],[],[]⟩
def a7f(s:(Z6×Int×Int×Unit)):Option ((Z6×Int×Int×Unit) ⊕ Z0):= cond (decide (s.2.2.1<s.2.1)) ((l0z s.1 s.2.2.1).bind fun x1=> (a8c x1).bind fun y2=> cond (!y2) (some (.inr (Sum.inr ((false,()))))) (some (.inl (s.1,s.2.1,wrap .i64 (s.2.2.1+1),())))) (some (.inr (Sum.inl ())))
def a8u(x:Z6):Option Bool:= cond (decide ((x.length:Int) > 3)) (some false) ((x0r a7f (x,(x.length:Int),0,())).bind fun w3=> match w3 with |.inl a4=>some true |.inr b5=>some b5.1)
def b3n:FSem:=⟨[.v (.list false Q4)],[.v .bool],a8u⟩
def d7R:Hints:=⟨[(58,[.sv 8 (.list false Q4),.sv 9 QI,.sv 10 QI],[(.exit 0,[]),(.ret,[.sv 2 .bool])])],[],[]⟩
def b3O(x:(Int×a9a)):Option Bool:= (show Option c7V from cond (x.1==0) (some (x.2.2,x.1,x.1==0,x.2.1,())) (some (x.2.2,x.1,x.1==1,x.2.1,()))).bind fun z1=> cond z1.2.2.1 (some true) (cond (z1.2.1==2) (cond (decide (z1.2.2.2.1.2.2.1≥0)) (cond (decide (z1.2.2.2.1.2.2.1≤4)) (some (decide (z1.2.2.2.1.2.2.1≤z1.1))) (some false)) (some false)) (cond (z1.2.1==3) ((a5u (z1.2.2.2.1.2.2.2.2.2.1,z1.2.2.2.1.2.2.2.1)).bind fun y2=> cond y2 (some (decide ((z1.2.2.2.1.2.2.2.2.2.1.length:Int)≤z1.1))) (some false)) (cond (z1.2.1==4) ((a5u (z1.2.2.2.1.2.2.2.2.2.1,z1.2.2.2.1.2.2.2.1)).bind fun y3=> cond y3 (cond (decide ((z1.2.2.2.1.2.2.2.2.2.1.length:Int)≤z1.1)) ((a9z (z1.2.2.2.1.2.2.2.2.1,z1.2.2.2.1.2.2.2.2.2.2.1)).bind fun y4=> some y4) (some false)) (some false)) (cond (z1.2.1==5) (cond (decide ((z1.2.2.2.1.2.2.2.2.2.2.2.1.length:Int) > 0)) ((a8u z1.2.2.2.1.2.2.2.2.2.2.2.1).bind fun y5=> some y5) (some false)) (some false)))))
def b3P:FSem:=⟨[.v QI,.v Q39,.v QI],[.v .bool],b3O⟩
def d7S:Hints:=⟨[],[(26,[(.normal,[.sv 2 QI,.sv 7 QI,.sv 8 .bool,.vp 4 Q39])])],[]⟩
def a4A(x:(List Int)):Option (List Int):= w0g x
def a2c:FSem:=⟨[.v QL],[.v QL],a4A⟩
def d4g:Hints:=⟨[],[],[]⟩
def c9y:Cx:=a1O [] [] [0,2] []
theorem d3f(x):z0c c9y d4g Tryz.f183 a2c.ps a2c.rs x=a2c.F x:=Eq.trans (show _=v0w x by kernel_rfl) (z0q x)
def a1D(x:Z6):Option Z6:= w0g x
def a1h:FSem:=⟨[.v (.list false Q4)],[.v (.list false Q4)],a1D⟩
def d4h:Hints:=⟨[],[],[]⟩
def c9z:Cx:=a1O [] [] [0,2] []
theorem d3g(x):z0c c9z d4h Tryz.f251 a1h.ps a1h.rs x=a1h.F x:=Eq.trans (show _=v0w x by kernel_rfl) (z0q x)
def a7g(x:(Int×a1w)):Option a1w:= (show Option b2M from(show Option (c8b ⊕ (b2M ⊕ c8b))from cond (x.1==2) (some (Sum.inr (Sum.inl ((0,0,0,0,0,[],a01 3 0,[],[],(0,[],()),[],()),(x.1,0,x.2.2.2.1,0,0,[],a01 3 0,[],[],(0,[],()),[],()),())))) (cond (x.1==4) (some (Sum.inl ((0,0,0,0,0,[],a01 3 0,[],[],(0,[],()),[],()),(x.1,0,0,0,x.2.2.2.2.2.1,[],x.2.2.2.2.2.2.2.1,[],[],(0,[],()),[],()),x.2,()))) (cond (x.1==3) (some (Sum.inl ((0,0,0,0,0,[],a01 3 0,[],[],(0,[],()),[],()),(x.1,0,0,0,0,[],a01 3 0,[],[],(0,[],()),[],()),x.2,()))) (cond (x.1==5) (some (Sum.inr (Sum.inr (((0,0,0,0,0,[],a01 3 0,[],[],(0,[],()),[],()),(x.1,0,0,0,0,[],a01 3 0,[],[],(0,[],()),[],()),x.2,()))))) (some (Sum.inr (Sum.inl ((0,0,0,0,0,[],a01 3 0,[],[],(0,[],()),[],()),(x.1,0,0,0,0,[],a01 3 0,[],[],(0,[],()),[],()),())))))))).bind fun z1=> match z1 with |.inl a2=>((a4A a2.2.2.1.2.2.2.2.2.1).bind fun y4=> some (a2.1,(a2.2.1.1,a2.2.1.2.1,a2.2.1.2.2.1,a2.2.2.1.2.2.2.1,a2.2.1.2.2.2.2.1,y4,a2.2.1.2.2.2.2.2.2),())) |.inr b3=>(match b3 with |.inl a5=>some (a5.1,a5.2.1,()) |.inr b6=>((a1D b6.2.2.1.2.2.2.2.2.2.2.1).bind fun y7=> some (b6.1,(b6.2.1.1,b6.2.1.2.1,b6.2.1.2.2.1,b6.2.1.2.2.2.1,b6.2.1.2.2.2.2.1,b6.2.1.2.2.2.2.2.1,b6.2.1.2.2.2.2.2.2.1,y7,b6.2.1.2.2.2.2.2.2.2.2),())))).bind fun z8=> some z8.2.1
def b5g:FSem:=⟨[.v QI,.v Q39],[.v Q39],a7g⟩
def d7T:Hints:=⟨[],[(7,[(.normal,[.box 4 Q39,.box 5 Q39,.ptr 4 4 [],.ptr 5 5 []])]),(232,[(.normal,[.box 4 Q39,.box 5 Q39,.vp 3 Q39,.ptr 4 4 [],.ptr 5 5 []]),(.exit 0,[.box 4 Q39,.box 5 Q39,.ptr 4 4 [],.ptr 5 5 []]),(.exit 4,[.box 4 Q39,.box 5 Q39,.vp 3 Q39,.ptr 4 4 [],.ptr 5 5 []])])],[(8,[.v,.v,.v,.v,.q,.w [0,5],.x,.x]),(9,[.v,.v,.v,.v,.v,.q,.w [0,5],.x,.x])]⟩
def a9e(x:a9a):Option Int:= cond (x.1.1==0) (some 1) (cond (x.1.1==1) (some x.2) (cond (x.1.1==2) (some x.1.2.2.1) ((show Option c7T from cond (x.1.1==3) (some (x.1.1==3,x.1,())) (some (x.1.1==4,x.1,()))).bind fun z1=> cond z1.1 (some (z1.2.1.2.2.2.2.2.1.length:Int)) (some 0))))
def a9f:FSem:=⟨[.v Q39,.v QI],[.v QI],a9e⟩
def d7U:Hints:=⟨[],[(1727,[(.normal,[.sv 16 .bool,.vp 2 Q39])])],[]⟩
def a3L(s:Z84):Option (Z84 ⊕ (Int×Int×Unit)):= cond (decide (s.2.2.2.2.2.1<s.2.2.2.2.1)) ((l0z s.2.2.2.1 s.2.2.2.2.2.1).bind fun x1=> cond (decide ((wrap .i64 ((wrap .i64 ((s.1.length:Int)-1))-s.2.2.2.2.2.1))<0)) (some (.inr (s.2.1,s.2.2.1,()))) ((l0z s.1 (wrap .i64 ((wrap .i64 ((s.1.length:Int)-1))-s.2.2.2.2.2.1))).bind fun x2=> some (.inl (s.1,s.2.1,wrap .i64 (s.2.2.1+(wrap .i64 (x1*x2))),s.2.2.2.1,s.2.2.2.2.1,wrap .i64 (s.2.2.2.2.2.1+1),())))) (some (.inr (s.2.1,s.2.2.1,())))
def a5v(x:Z12):Option Int:= (x0r a3L (x.1,x.2.2,0,x.2.1,(x.2.1.length:Int),0,())).bind fun w3=> cond (decide (w3.1<0)) none (some (z0h .i64 w3.2.1 w3.1))
def b1p:FSem:=⟨[.v QL,.v QL,.v QI],[.v QI],a5v⟩
def d7V:Hints:=⟨[(58,[.sv 0 QL,.sv 2 QI,.sv 7 QI,.sv 11 QL,.sv 12 QI,.sv 13 QI],[(.exit 0,[.sv 2 QI,.sv 7 QI])])],[],[]⟩
def a5w(s:Z83):Option (Z83 ⊕ Z58):= cond (decide (s.2.2.2.1<(s.1.length:Int))) ((l0z s.1 s.2.2.2.1).bind fun x4=> cond ((decide (0≤s.2.2.2.1))&&(decide (s.2.2.2.1≤(s.1.length:Int)))) ((a5v (a05 (a00 s.2.2.2.1) s.1,s.2.1,s.2.2.1)).bind fun y5=> (a5U (wrap .i64 (x4-y5))).bind fun y6=> cond (!y6) (some (.inr (Sum.inr ((6,[],()))))) (cond (lim ((a03 s.2.2.2.2.1)+1)) (some (.inl (s.1,s.2.1,s.2.2.1,wrap .i64 (s.2.2.2.1+1),a04 s.2.2.2.2.1 [wrap .i64 (x4-y5)],()))) none)) none) (some (.inr (Sum.inl (s.2.2.2.2.1,()))))
def a8d(x:Z12):Option ((List Int)×Int):= (show Option Z60 from(a5u (x.2.1,x.2.2)).bind fun y1=> cond (!y1) (some (x.1,x.2.1,x.2.2,true,())) (some (x.1,x.2.1,x.2.2,decide ((x.1.length:Int)<(x.2.1.length:Int)),()))).bind fun z2=> cond z2.2.2.2.1 (some ([],1)) ((a2T z2.1).bind fun y3=> cond (!y3) (some ([],6)) (cond ((decide (0≤(wrap .i64 ((z2.1.length:Int)-(z2.2.1.length:Int)))))&&(lim (a00 (wrap .i64 ((z2.1.length:Int)-(z2.2.1.length:Int)))))) ((x0r a5w (z2.1,z2.2.1,z2.2.2.1,(z2.2.1.length:Int),[],())).bind fun w7=> match w7 with |.inl a8=>some (a8.1,0) |.inr b9=>some (b9.2.1,b9.1)) none))
def b8L:FSem:=⟨[.v QL,.v QL,.v QI],[.o QI,.v QI],a8d⟩
def d7W:Hints:=⟨[(250,[.sv 0 QL,.sv 1 QL,.sv 2 QI,.sv 9 QI,.own 8 8 QI],[(.exit 0,[.own 8 8 QI]),(.ret,[.sv 7 QI,.own 6 6 QI])])],[(6,[(.normal,[.sv 0 QL,.sv 1 QL,.sv 2 QI,.sv 21 .bool])])],[(9,[.v,.v,.v,.v,.v,.v,.v,.v,.v,.v,.x,.x])]⟩
def a7h(x:Int):Option Bool:= cond (decide (x≥(-1073741824))) (some (decide (x<1073741824))) (some false)
def b1L:FSem:=⟨[.v QI],[.v .bool],a7h⟩
def d7X:Hints:=⟨[],[],[]⟩
def a4e(s:Z17):Option Z80:= cond (decide (s.2.2.1<s.2.1)) ((l0z s.1 s.2.2.1).bind fun x1=> (a7h x1).bind fun y2=> cond (!y2) (some (.inr (Sum.inr ((false,()))))) (some (.inl (s.1,s.2.1,wrap .i64 (s.2.2.1+1),())))) (some (.inr (Sum.inl ())))
def a6e(x:(List Int)):Option Bool:= (x0r a4e (x,(x.length:Int),0,())).bind fun w3=> match w3 with |.inl a4=>some true |.inr b5=>some b5.1
def b1M:FSem:=⟨[.v QL],[.v .bool],a6e⟩
def d7Y:Hints:=⟨[(26,[.sv 5 QL,.sv 6 QI,.sv 7 QI],[(.exit 0,[]),(.ret,[.sv 2 .bool])])],[],[]⟩
def b0L(x:(Int×Int×Unit)):Option Z55:= (a8c x).bind fun y1=> cond (!y1) none (cond ((decide (0≤x.1))&&((decide (x.1≤x.1))&&(lim (a00 x.1)))) (cond ((decide (0≤x.1))&&((decide (x.1≤x.1))&&(lim (a00 x.1)))) (some ((x.2.1,a01 (a00 x.1) 0,a01 (a00 x.1) 0,()),0)) none) none)
def b6S:FSem:=⟨[.v Q4],[.b Q13,.v QI],b0L⟩
def d7Z:Hints:=⟨[],[],[(3,[.v,.v,.v,.v,.q,.v,.v,.q,.x,.x,.x,.x])]⟩
def a6f(x:Int):Option Int:= some (v0a (u0z x (-1073741824)) 1073741823)
def b1N:FSem:=⟨[.v QI],[.v QI],a6f⟩
def d8a:Hints:=⟨[],[],[]⟩
def a3J(s:Z98):Option (Z98 ⊕ Z76):= cond (decide (s.2.2.1<s.2.1)) (cond ((decide (0≤s.2.2.1))&&(decide (s.2.2.1<(s.2.2.2.1.2.1.length:Int)))) (cond ((decide (0≤s.2.2.1))&&(decide (s.2.2.1<(s.2.2.2.1.2.2.1.length:Int)))) (some (.inl (wrap .i64 (s.1+(wrap .i64 ((a02 s.2.2.2.1.2.1 (a00 s.2.2.1) 0)*(a02 s.2.2.2.1.2.2.1 (a00 s.2.2.1) 0)))),s.2.1,wrap .i64 (s.2.2.1+1),s.2.2.2.1,()))) none) none) (some (.inr (s.1,s.2.2.2.1,())))
def a2r(x:Z32):Option Z54:= (x0r a3J (0,(x.2.1.length:Int),0,x,())).bind fun w1=> (a6f (z0h .i64 w1.1 16)).bind fun y2=> some (y2,w1.2.1)
def a4W:FSem:=⟨[.r false (.b Q13)],[.v QI],a2r⟩
def d8b:Hints:=⟨[(58,[.sv 3 QI,.sv 10 QI,.sv 11 QI,.box pinned Q13,.ptr 0 pinned [],.ref 9 pinned [.snd,.fst]],[(.exit 0,[.sv 3 QI,.box pinned Q13])])],[],[]⟩
def a2H(s:(Int×Z98)):Option ((Int×Z98) ⊕ Z76):= cond (decide (s.2.2.2.1<s.2.2.1)) (cond ((decide (0≤s.2.2.2.1))&&(decide (s.2.2.2.1<(s.2.2.2.2.1.2.2.1.length:Int)))) (cond ((decide (0≤s.2.2.2.1))&&(decide (s.2.2.2.1<(s.2.2.2.2.1.2.1.length:Int)))) ((show Option (Int×Int×Int×Z98)from cond (decide ((a02 s.2.2.2.2.1.2.2.1 (a00 s.2.2.2.1) 0) > 0)) (some (s.1,s.2.1,s.2.2.2.1,wrap .i64 ((a02 s.2.2.2.2.1.2.1 (a00 s.2.2.2.1) 0)+s.2.1),s.2.2.1,s.2.2.2.1,s.2.2.2.2.1,())) (cond (decide ((a02 s.2.2.2.2.1.2.2.1 (a00 s.2.2.2.1) 0)<0)) (some (s.1,s.2.1,s.2.2.2.1,wrap .i64 ((a02 s.2.2.2.2.1.2.1 (a00 s.2.2.2.1) 0)-s.2.1),s.2.2.1,s.2.2.2.1,s.2.2.2.2.1,())) (some (s.1,s.2.1,s.2.2.2.1,a02 s.2.2.2.2.1.2.1 (a00 s.2.2.2.1) 0,s.2.2.1,s.2.2.2.1,s.2.2.2.2.1,())))).bind fun z4=> cond ((decide (0≤z4.2.2.1))&&(decide (z4.2.2.1<(z4.2.2.2.2.2.2.1.2.1.length:Int)))) (some (.inl (z4.1,z4.2.1,z4.2.2.2.2.1,wrap .i64 (z4.2.2.2.2.2.1+1),(z4.2.2.2.2.2.2.1.1,a06 z4.2.2.2.2.2.2.1.2.1 (a00 z4.2.2.1) (v0a (u0z z4.2.2.2.1 (-1048576)) 1048576),z4.2.2.2.2.2.2.1.2.2),()))) none) none) none) (some (.inr (s.1,s.2.2.2.2.1,())))
def a3M(x:Z55):Option Z32:= (a6f x.2).bind fun y1=> (show Option Z89 from(a2r x.1).bind fun y2=> cond (decide (y1 > y2.1)) (cond (decide (y2.2.1<0)) none (some (y1,z0g .i64 1 y2.2.1,y2.2,()))) (cond (decide (y1<y2.1)) (cond (decide (y2.2.1<0)) none (some (y1,wrap .i64 (0-(z0g .i64 1 y2.2.1)),y2.2,()))) (some (y1,0,y2.2,())))).bind fun z3=> (x0r a2H (z3.1,z3.2.1,(z3.2.2.1.2.2.1.length:Int),0,z3.2.2.1,())).bind fun w5=> cond (decide (1≤(w5.2.1.2.2.1.length:Int))) (cond (decide (0<(a03 (o0p w5.2.1.2.2.1 1 ((a03 w5.2.1.2.2.1)-1) w5.2.1.2.2.1):Int))) (some (w5.2.1.1,w5.2.1.2.1,a06 (o0p w5.2.1.2.2.1 1 ((a03 w5.2.1.2.2.1)-1) w5.2.1.2.2.1) 0 w5.1,w5.2.1.2.2.2)) none) none
def a8C:FSem:=⟨[.r false (.b Q13),.v QI],[],a3M⟩
def d8c:Hints:=⟨[(122,[.sv 1 QI,.sv 4 QI,.sv 36 QI,.sv 37 QI,.box pinned Q13,.ptr 0 pinned [],.ref 35 pinned [.snd,.snd,.fst]],[(.exit 1,[.sv 1 QI,.box pinned Q13,.ptr 0 pinned []])])],[(7,[(.normal,[.sv 1 QI,.sv 4 QI,.box pinned Q13,.ptr 0 pinned []])]),(15667,[(.normal,[.sv 1 QI,.sv 4 QI,.sv 6 QI,.sv 8 QI,.sv 36 QI,.sv 37 QI,.box pinned Q13,.ptr 0 pinned [],.ref 35 pinned [.snd,.snd,.fst]])])],[(17,[.p,.p,.q,.q,.q,.p,.p,.q,.q,.x])]⟩
def a6g(s:(Z6×Int×Int×d0P)):Option ((Z6×Int×Int×d0P) ⊕ ((Z6×Z19) ⊕ Z4)):= cond (decide (s.2.2.2.2.1<s.2.2.2.1)) (cond ((decide (0≤s.2.2.2.2.1))&&(decide (s.2.2.2.2.1<(s.2.2.2.2.2.1.length:Int)))) ((a2r s.2.2.2.2.2.2.1).bind fun y6=> (a7h (wrap .i64 ((a02 s.2.2.2.2.2.1 (a00 s.2.2.2.2.1) 0)-y6.1))).bind fun y7=> cond (!y7) (some (.inr (Sum.inr ((6,[],()))))) ((a3M (y6.2,a02 s.2.2.2.2.2.1 (a00 s.2.2.2.2.1) 0)).bind fun y8=> cond ((decide (0≤s.2.2.2.2.1))&&(decide (s.2.2.2.2.1<(s.2.2.2.2.2.1.length:Int)))) (some (.inl (s.1,s.2.1,s.2.2.1,s.2.2.2.1,wrap .i64 (s.2.2.2.2.1+1),a06 s.2.2.2.2.2.1 (a00 s.2.2.2.2.1) (wrap .i64 ((a02 s.2.2.2.2.2.1 (a00 s.2.2.2.2.1) 0)-y6.1)),y8,()))) none)) none) (some (.inr (Sum.inl (s.1,s.2.1,s.2.2.1,s.2.2.2.2.2.1,()))))
def a6h(s:(Z6×Z19)):Option ((Z6×Z19) ⊕ Z58):= cond (decide (s.2.2.1<s.2.1)) ((l0z s.1 s.2.2.1).bind fun x4=> (b0L x4).bind fun y5=> cond (y5.2 != 0) (some (.inr (Sum.inr ((y5.2,[],()))))) ((x0r a6g (s.1,s.2.1,s.2.2.1,(s.2.2.2.1.length:Int),0,s.2.2.2.1,y5.1,())).bind fun w9=> match w9 with |.inl a10=>some (.inl (a10.1,a10.2.1,wrap .i64 (a10.2.2.1+1),a10.2.2.2.1,())) |.inr b11=>some (.inr (Sum.inr ((b11.1,b11.2.1,())))))) (some (.inr (Sum.inl (s.2.2.2.1,()))))
def b1O(x:Z33):Option ((List Int)×Int):= (a8u x.2).bind fun y1=> cond (!y1) (some ([],1)) ((a6e x.1).bind fun y2=> cond (!y2) (some ([],6)) ((a1i x.1).bind fun y3=> (x0r a6h (x.2,(x.2.length:Int),0,y3,())).bind fun w12=> match w12 with |.inl a13=>some (a13.1,0) |.inr b14=>some (b14.2.1,b14.1)))
def b9v:FSem:=⟨[.v QL,.v (.list false Q4)],[.o QI,.v QI],b1O⟩
def d8d:Hints:=⟨[(250,[.sv 22 (.list false Q4),.sv 23 QI,.sv 24 QI,.own 6 6 QI],[(.exit 0,[.own 6 6 QI]),(.ret,[.sv 5 QI,.own 4 4 QI])]),(256414,[.sv 22 (.list false Q4),.sv 23 QI,.sv 24 QI,.sv 37 QI,.sv 38 QI,.own 6 6 QI,.box 1030 Q13,.ptr 9 1030 [],.ref 36 6 []],[(.exit 2,[.sv 22 (.list false Q4),.sv 23 QI,.sv 24 QI,.own 6 6 QI]),(.ret,[.sv 5 QI,.own 4 4 QI])])],[],[]⟩
def b3o(x:(a1w×(List Int))):Option (Int×a1w):= (show Option ((List Int)×((List Int)×(Int×b9n)))from cond (x.1.1==2) ((a3j (x.2,x.1.2.2.1)).bind fun y1=> some (x.2,y1.1,y1.2,x.1,())) (cond (x.1.1==3) ((a8d (x.2,x.1.2.2.2.2.2.1,x.1.2.2.2.1)).bind fun y2=> some (x.2,y2.1,y2.2,x.1,())) (cond (x.1.1==4) ((b0J (x.2,x.1.2.2.2.2.1,x.1.2.2.2.2.2.2.1)).bind fun y3=> cond (y3.2==0) ((a8d (y3.1,x.1.2.2.2.2.2.1,x.1.2.2.2.1)).bind fun y4=> some (y3.1,y4.1,y4.2,x.1,())) (some (y3.1,[],y3.2,x.1,()))) (cond (x.1.1==5) ((b1O (x.2,x.1.2.2.2.2.2.2.2.1)).bind fun y5=> some (x.2,y5.1,y5.2,x.1,())) (some (x.2,[],0,x.1,())))))).bind fun z6=> cond (z6.2.2.1 != 0) (some (z6.2.2.1,z6.2.2.2.1)) ((a9e (z6.2.2.2.1,(z6.1.length:Int))).bind fun y7=> cond ((decide (0≤y7))&&(decide (y7≤(z6.1.length:Int)))) ((a1i (a05 (a00 y7) z6.1)).bind fun y8=> some (0,z6.2.2.2.1.1,z6.2.2.2.1.2.1,z6.2.2.2.1.2.2.1,z6.2.2.2.1.2.2.2.1,z6.2.2.2.1.2.2.2.2.1,z6.2.2.2.1.2.2.2.2.2.1,z6.2.2.2.1.2.2.2.2.2.2.1,z6.2.2.2.1.2.2.2.2.2.2.2.1,y8,z6.2.2.2.1.2.2.2.2.2.2.2.2.2.1,z6.2.1,z6.2.2.2.1.2.2.2.2.2.2.2.2.2.2.2)) none)
def c1t:FSem:=⟨[.r false (.b Q39),.v QL],[.v QI],b3o⟩
def d8e:Hints:=⟨[],[(15,[(.normal,[.sv 1 QL,.sv 5 QL,.sv 6 QI,.box pinned Q39,.ptr 0 pinned []])])],[(7,[.v,.p,.p,.q,.q,.p,.p,.q,.q,.x,.x,.q,.q,.q,.x]),(9,[.v,.p,.p,.q,.q,.p,.p,.q,.q,.x,.x,.q,.q,.q,.x]),(11,[.q,.p,.p,.q,.q,.p,.p,.q,.q,.x,.x,.q,.q,.q,.x])]⟩
def b0M(x:(Int×Int)):Option Bool:= cond (decide (1≤x.1)) (cond (decide (x.1≤4096)) (cond (decide (0≤x.2)) (some (decide (x.2≤x.1))) (some false)) (some false)) (some false)
def b0N:FSem:=⟨[.v QI,.v QI],[.v .bool],b0M⟩
def d8f:Hints:=⟨[],[],[]⟩
def a7H(s:Z19):Option (Z19 ⊕ ((List Int)×Unit)):= cond (decide (s.1<0)) none (cond (decide ((s.2.2.1.length:Int)<(z0g .i64 1 s.1))) (cond (lim ((a03 s.2.2.1)+1)) (some (.inl (s.1,s.2.1,a04 s.2.2.1 [s.2.1],()))) none) (some (.inr (s.2.2.1,()))))
def a4B(x:(Int×Int×Int)):Option (List Int):= (show Option Z29 from(b0M (x.2.1,x.2.2)).bind fun y1=> cond (!y1) (some (x.1,x.2.1,x.2.2,true,())) (cond (decide (x.1<0)) (some (x.1,x.2.1,x.2.2,true,())) (some (x.1,x.2.1,x.2.2,decide (x.1 > 8),())))).bind fun z2=> cond z2.2.2.2.1 (some []) (cond (decide (z2.1<0)) none ((show Option Z29 from cond (decide (z2.1<0)) none (cond ((z0g .i64 (z0h .i64 z2.2.1 z2.1) z2.1) != z2.2.1) (some (z2.1,z2.2.2.1,z0h .i64 z2.2.1 z2.1,true,())) (some (z2.1,z2.2.2.1,z0h .i64 z2.2.1 z2.1,decide ((z0h .i64 z2.2.1 z2.1)<z2.2.2.1),())))).bind fun z3=> cond z3.2.2.2.1 (some []) ((x0r a7H (z3.1,z3.2.2.1,[wrap .i64 (z3.2.2.1-z3.2.1)],())).bind fun w4=> some w4.1)))
def a4C:FSem:=⟨[.v QI,.v QI,.v QI],[.o QI],a4B⟩
def d8g:Hints:=⟨[(252,[.sv 0 QI,.sv 7 QI,.own 8 8 QI],[(.exit 0,[.own 8 8 QI])])],[(6,[(.normal,[.sv 0 QI,.sv 1 QI,.sv 2 QI,.sv 20 .bool])]),(30,[(.normal,[.sv 0 QI,.sv 2 QI,.sv 7 QI,.sv 33 .bool])])],[]⟩
def a5n(s:Z17):Option Z80:= cond (decide (s.2.2.1<s.2.1)) ((l0z s.1 s.2.2.1).bind fun x3=> (show Option Z41 from cond (decide (x3<0)) (some (s.1,s.2.1,s.2.2.1,x3 != 31,())) (cond (decide (x3 > 25)) (some (s.1,s.2.1,s.2.2.1,x3 != 31,())) (some (s.1,s.2.1,s.2.2.1,false,())))).bind fun z4=> cond z4.2.2.2.1 (some (.inr (Sum.inr ((false,()))))) (some (.inl (z4.1,z4.2.1,wrap .i64 (z4.2.2.1+1),())))) (some (.inr (Sum.inl ())))
def b0O(x:(Z4×Int×Int)):Option Bool:= (a4B (x.1.1,x.2.1,x.2.2)).bind fun y1=> (show Option Z48 from cond ((y1.length:Int)==0) (some (true,x.1,())) (some ((x.1.2.1.length:Int) != (y1.length:Int),x.1,()))).bind fun z2=> cond z2.1 (some false) ((x0r a5n (z2.2.1.2.1,(z2.2.1.2.1.length:Int),0,())).bind fun w5=> match w5 with |.inl a6=>some true |.inr b7=>some b7.1)
def b6T:FSem:=⟨[.v Q8,.v QI,.v QI],[.v .bool],b0O⟩
def d8h:Hints:=⟨[(122,[.sv 27 QL,.sv 28 QI,.sv 29 QI],[(.exit 0,[]),(.ret,[.sv 6 .bool])])],[(14,[(.normal,[.sv 25 .bool,.vp 3 Q8])]),(7833,[(.normal,[.sv 27 QL,.sv 28 QI,.sv 29 QI,.sv 42 .bool])])],[]⟩
def b5h(s:Z17):Option Z80:= cond (decide (s.2.2.1<s.2.1)) ((l0z s.1 s.2.2.1).bind fun x3=> (show Option Z41 from cond (decide (x3<(-1073741824))) (some (s.1,s.2.1,s.2.2.1,true,())) (some (s.1,s.2.1,s.2.2.1,decide (x3≥1073741824),()))).bind fun z4=> cond z4.2.2.2.1 (some (.inr (Sum.inr ((false,()))))) (some (.inl (z4.1,z4.2.1,wrap .i64 (z4.2.2.1+1),())))) (some (.inr (Sum.inl ())))
def a8e(x:Z3):Option Bool:= (show Option Z9 from(b0M (x.1,x.2.1)).bind fun y1=> cond (!y1) (some (x.2.2,true,())) (some (x.2.2,(x.2.2.length:Int) != (wrap .i64 (x.1-x.2.1)),()))).bind fun z2=> cond z2.2.1 (some false) ((x0r b5h (z2.1,(z2.1.length:Int),0,())).bind fun w5=> match w5 with |.inl a6=>some true |.inr b7=>some b7.1)
def b4g:FSem:=⟨[.v QI,.v QI,.v QL],[.v .bool],a8e⟩
def d8i:Hints:=⟨[(58,[.sv 21 QL,.sv 22 QI,.sv 23 QI],[(.exit 0,[]),(.ret,[.sv 6 .bool])])],[(6,[(.normal,[.sv 2 QL,.sv 20 .bool])]),(3737,[(.normal,[.sv 21 QL,.sv 22 QI,.sv 23 QI,.sv 32 .bool])])],[]⟩
def a3x(s:Z57):Option (Z57 ⊕ Z37):= cond (s.2.1 != 0) (cond (decide (s.1<32)) ((a3E (s.2.1,s.1)).bind fun y2=> cond (!y2) (some (.inl (wrap .i64 (s.1+1),s.2.1,s.2.2.1,s.2.2.2.1,s.2.2.2.2.1,()))) (some (.inr (s.1,s.2.2.1,s.2.2.2.1,s.2.2.2.2.1,())))) (some (.inr (s.1,s.2.2.1,s.2.2.2.1,s.2.2.2.2.1,())))) (some (.inr (s.1,s.2.2.1,s.2.2.2.1,s.2.2.2.2.1,())))
def a6S(s:Z37):Option (Z37 ⊕ (Int×Unit)):= cond (decide (s.2.2.2.1<s.2.2.1)) ((l0z s.2.1 s.2.2.2.1).bind fun x1=> (x0r a3x (s.1,x1,s.2.1,s.2.2.1,s.2.2.2.1,())).bind fun w3=> some (.inl (w3.1,w3.2.1,w3.2.2.1,wrap .i64 (w3.2.2.2.1+1),()))) (some (.inr (s.1,())))
def a3R(x:(List Int)):Option Int:= (x0r a6S (0,x,(x.length:Int),0,())).bind fun w4=> some w4.1
def a1S:FSem:=⟨[.v QL],[.v QI],a3R⟩
def d8j:Hints:=⟨[(58,[.sv 3 QI,.sv 6 QL,.sv 7 QI,.sv 8 QI],[(.exit 0,[.sv 3 QI])]),(7474,[.sv 3 QI,.sv 5 QI,.sv 6 QL,.sv 7 QI,.sv 8 QI],[(.exit 2,[.sv 3 QI,.sv 6 QL,.sv 7 QI,.sv 8 QI])])],[],[]⟩
def a6L(x:(List Int)):Option Int:= (a3R x).bind fun y1=> some (wrap .i64 (5+(wrap .i64 (y1*(x.length:Int)))))
def b6U:FSem:=⟨[.v QL],[.v QI],a6L⟩
def d8k:Hints:=⟨[],[],[]⟩
def a5x(x:Int):Option Bool:= cond (decide (0≤x)) (some (decide (x≤25))) (some false)
def a5y:FSem:=⟨[.v QI],[.v .bool],a5x⟩
def d8l:Hints:=⟨[],[],[]⟩
def a8v(x:Int):Option Bool:= cond (decide ((-1073741824)≤x)) (some (decide (x<1073741824))) (some false)
def b3p:FSem:=⟨[.v QI],[.v .bool],a8v⟩
def d8m:Hints:=⟨[],[],[]⟩
def b0P(x:Int):Option Int:= (a8v x).bind fun y1=> cond (!y1) (some 0) (cond (decide (x≥0)) (some (wrap .u64 (wrap .i64 (2*x)))) (some (wrap .u64 (wrap .i64 ((wrap .i64 ((-2)*x))-1)))))
def b6V:FSem:=⟨[.v QI],[.v (.int .u64)],b0P⟩
def d8n:Hints:=⟨[],[],[]⟩
def a8w(x:(Int×Int)):Option Int:= (show Option Z11 from(a5x x.1).bind fun y1=> cond (!y1) (some (x.1,x.2,true,())) ((a8v x.2).bind fun y2=> some (x.1,x.2,!y2,()))).bind fun z3=> cond z3.2.2.1 (some 0) ((b0P z3.2.1).bind fun y4=> cond (decide (z3.1<0)) none (cond (decide ((wrap .i64 (z0h .u64 y4 z3.1))<32)) (some (wrap .i64 ((wrap .i64 ((wrap .i64 (z0h .u64 y4 z3.1))+1))+z3.1))) (some 65)))
def c1u:FSem:=⟨[.v QI,.v QI],[.v QI],a8w⟩
def d8o:Hints:=⟨[],[(6,[(.normal,[.sv 0 QI,.sv 1 QI,.sv 13 .bool])])],[]⟩
def a4D(s:Z57):Option (Z57 ⊕ (Int×Unit)):= cond (decide (s.2.2.2.2.1<s.2.2.2.1)) ((l0z s.2.2.1 s.2.2.2.2.1).bind fun x1=> (a8w (s.1,x1)).bind fun y2=> some (.inl (s.1,wrap .i64 (s.2.1+y2),s.2.2.1,s.2.2.2.1,wrap .i64 (s.2.2.2.2.1+1),()))) (some (.inr (s.2.1,())))
def a3W(x:(Int×(List Int))):Option Int:= (x0r a4D (x.1,0,x.2,(x.2.length:Int),0,())).bind fun w3=> some w3.1
def b4I:FSem:=⟨[.v QI,.v QL],[.v QI],a3W⟩
def d8p:Hints:=⟨[(58,[.sv 0 QI,.sv 5 QI,.sv 8 QL,.sv 9 QI,.sv 10 QI],[(.exit 0,[.sv 5 QI])])],[],[]⟩
def a1K(s:c7O):Option (c7O ⊕ (Int×Unit)):= cond (decide (s.2.2.2.1<s.2.2.1)) (cond ((decide (0≤s.2.2.2.1))&&(decide (s.2.2.2.1<(s.2.2.2.2.1.length:Int)))) (cond ((decide (0≤(a02 s.2.2.2.2.1 (a00 s.2.2.2.1) 0)))&&(decide ((a02 s.2.2.2.2.1 (a00 s.2.2.2.1) 0)≤(s.1.length:Int)))) (cond ((decide (0≤(a02 s.2.2.2.2.1 (a00 s.2.2.2.1) 0)))&&(decide ((a02 s.2.2.2.2.1 (a00 s.2.2.2.1) 0)≤(s.1.length:Int)))) ((l0z s.2.2.2.2.2.1.2.1 s.2.2.2.1).bind fun x5=> cond (x5==31) ((a6L (a05 (a00 (a02 s.2.2.2.2.1 (a00 s.2.2.2.1) 0)) s.1)).bind fun y6=> some (.inl (a07 (a00 (a02 s.2.2.2.2.1 (a00 s.2.2.2.1) 0)) (a05 (a03 s.1) s.1),wrap .i64 (s.2.1+(wrap .i64 (5+y6))),s.2.2.1,wrap .i64 (s.2.2.2.1+1),s.2.2.2.2.1,s.2.2.2.2.2.1,()))) ((l0z s.2.2.2.2.2.1.2.1 s.2.2.2.1).bind fun x7=> (a3W (x7,a05 (a00 (a02 s.2.2.2.2.1 (a00 s.2.2.2.1) 0)) s.1)).bind fun y8=> some (.inl (a07 (a00 (a02 s.2.2.2.2.1 (a00 s.2.2.2.1) 0)) (a05 (a03 s.1) s.1),wrap .i64 (s.2.1+(wrap .i64 (5+y8))),s.2.2.1,wrap .i64 (s.2.2.2.1+1),s.2.2.2.2.1,s.2.2.2.2.2.1,())))) none) none) none) (some (.inr (s.2.1,())))
def a5z(x:Z72):Option Int:= (show Option (Int×(Int×((List Int)×Z48)))from(b0O (x.1,x.2.1,x.2.2.1)).bind fun y1=> cond (!y1) (some (x.2.1,x.2.2.1,x.2.2.2,true,x.1,())) ((a8e (x.2.1,x.2.2.1,x.2.2.2)).bind fun y2=> some (x.2.1,x.2.2.1,x.2.2.2,!y2,x.1,()))).bind fun z3=> cond z3.2.2.2.1 (some 0) ((a4B (z3.2.2.2.2.1.1,z3.1,z3.2.1)).bind fun y4=> (x0r a1K (z3.2.2.1,4,(y4.length:Int),0,y4,z3.2.2.2.2.1,())).bind fun w9=> some w9.1)
end Go.Ab
namespace Go.Ab
open IntKind(wrap)
open Go.Proofs
set_option maxRecDepth 100000
set_option linter.unusedVariables false
def b5i:FSem:=⟨[.v Q8,.v QI,.v QI,.v QL],[.v QI],a5z⟩
def d8q:Hints:=⟨[(122,[.sv 3 QL,.sv 9 QI,.sv 30 QI,.sv 31 QI,.own 29 1029 QI,.vp 4 Q8],[(.exit 0,[.sv 9 QI])])],[(6,[(.normal,[.sv 1 QI,.sv 2 QI,.sv 3 QL,.sv 24 .bool,.vp 4 Q8])])],[]⟩
def a9A(s:Z39):Option (Z39 ⊕ (Int×Unit)):= cond (decide (s.2.2.2.1≤25)) ((a3W (s.2.2.2.1,s.1)).bind fun y2=> cond (decide (y2<s.2.2.1)) (some (.inl (s.1,s.2.2.2.1,y2,wrap .i64 (s.2.2.2.1+1),()))) (some (.inl (s.1,s.2.1,s.2.2.1,wrap .i64 (s.2.2.2.1+1),())))) (some (.inr (s.2.1,())))
def b3q(x:(List Int)):Option Int:= (a3W (0,x)).bind fun y1=> (x0r a9A (x,0,y1,1,())).bind fun w3=> some w3.1
def c1v:FSem:=⟨[.v QL],[.v QI],b3q⟩
def d8r:Hints:=⟨[(58,[.sv 0 QL,.sv 3 QI,.sv 4 QI,.sv 5 QI],[(.exit 0,[.sv 3 QI])])],[],[]⟩
def a9B(x:(List Int)):Option Int:= (b3q x).bind fun y1=> (a6L x).bind fun y2=> (a3W (y1,x)).bind fun y3=> cond (decide (y2<y3)) (some 31) (some y1)
def b7r:FSem:=⟨[.v QL],[.v QI],a9B⟩
def d8s:Hints:=⟨[],[],[]⟩
def a8M(s:(Int×(Int×(Int×((List Int)×(Int×(Int×((List Int)×c7R)))))))):Option ((Int×(Int×(Int×((List Int)×(Int×(Int×((List Int)×c7R))))))) ⊕ (Int×(Int×(Int×((List Int)×(Int×Int×c5H)))))):= cond (decide (s.2.2.2.2.2.2.2.2.1<s.2.2.2.2.2.2.2.1)) (cond ((decide (0≤s.2.2.2.2.2.2.2.2.1))&&(decide (s.2.2.2.2.2.2.2.2.1<(s.2.2.2.2.2.2.2.2.2.1.length:Int)))) (cond ((decide (0≤(a02 s.2.2.2.2.2.2.2.2.2.1 (a00 s.2.2.2.2.2.2.2.2.1) 0)))&&(decide ((a02 s.2.2.2.2.2.2.2.2.2.1 (a00 s.2.2.2.2.2.2.2.2.1) 0)≤(s.2.2.2.2.2.2.1.length:Int)))) ((a9B (a05 (a00 (a02 s.2.2.2.2.2.2.2.2.2.1 (a00 s.2.2.2.2.2.2.2.2.1) 0)) s.2.2.2.2.2.2.1)).bind fun y3=> cond (lim ((a03 s.2.2.2.2.2.2.2.2.2.2.2.2.1.2.1)+1)) (cond ((decide (0≤(a02 s.2.2.2.2.2.2.2.2.2.1 (a00 s.2.2.2.2.2.2.2.2.1) 0)))&&(decide ((a02 s.2.2.2.2.2.2.2.2.2.1 (a00 s.2.2.2.2.2.2.2.2.1) 0)≤(s.2.2.2.2.2.2.1.length:Int)))) (some (.inl (s.1,s.2.1,s.2.2.1,s.2.2.2.1,s.2.2.2.2.1,s.2.2.2.2.2.1,a07 (a00 (a02 s.2.2.2.2.2.2.2.2.2.1 (a00 s.2.2.2.2.2.2.2.2.1) 0)) (a05 (a03 s.2.2.2.2.2.2.1) s.2.2.2.2.2.2.1),s.2.2.2.2.2.2.2.1,wrap .i64 (s.2.2.2.2.2.2.2.2.1+1),s.2.2.2.2.2.2.2.2.2.1,s.2.2.2.2.2.2.2.2.2.2.1,s.2.2.2.2.2.2.2.2.2.2.2.1,(s.2.2.2.2.2.2.2.2.2.2.2.2.1.1,a04 s.2.2.2.2.2.2.2.2.2.2.2.2.1.2.1 [y3],s.2.2.2.2.2.2.2.2.2.2.2.2.1.2.2),()))) none) none) none) none) (some (.inr (s.1,s.2.1,s.2.2.1,s.2.2.2.1,s.2.2.2.2.1,s.2.2.2.2.2.1,s.2.2.2.2.2.2.2.2.2.2.1,s.2.2.2.2.2.2.2.2.2.2.2.1,s.2.2.2.2.2.2.2.2.2.2.2.2.1,())))
def a4s(s:c7Q):Option (c7Q ⊕ Z92):= cond (decide (s.2.2.2.2.2.1≤(v0a (u0z s.2.2.1 0) 8))) ((a4B (s.2.2.2.2.2.1,s.1,s.2.1)).bind fun y2=> cond ((y2.length:Int)==0) (some (.inl (s.1,s.2.1,s.2.2.1,s.2.2.2.1,s.2.2.2.2.1,wrap .i64 (s.2.2.2.2.2.1+1),s.2.2.2.2.2.2.1,s.2.2.2.2.2.2.2.1,()))) ((x0r a8M (s.1,s.2.1,s.2.2.1,s.2.2.2.1,s.2.2.2.2.1,s.2.2.2.2.2.1,s.2.2.2.1,(y2.length:Int),0,y2,s.2.2.2.2.2.2.1,s.2.2.2.2.2.2.2.1,(s.2.2.2.2.2.1,[],()),())).bind fun w4=> (a5z (w4.2.2.2.2.2.2.2.2.1,w4.1,w4.2.1,w4.2.2.2.1)).bind fun y5=> (show Option (Int×(Int×(Int×((List Int)×(Int×Int×Int×Bool×c5H)))))from cond (w4.2.2.2.2.1==0) (some (w4.1,w4.2.1,w4.2.2.1,w4.2.2.2.1,w4.2.2.2.2.1,w4.2.2.2.2.2.1,y5,true,w4.2.2.2.2.2.2.1,w4.2.2.2.2.2.2.2.1,w4.2.2.2.2.2.2.2.2.1,())) (some (w4.1,w4.2.1,w4.2.2.1,w4.2.2.2.1,w4.2.2.2.2.1,w4.2.2.2.2.2.1,y5,decide (y5<w4.2.2.2.2.1),w4.2.2.2.2.2.2.1,w4.2.2.2.2.2.2.2.1,w4.2.2.2.2.2.2.2.2.1,()))).bind fun z6=> cond z6.2.2.2.2.2.2.2.1 (some (.inl (z6.1,z6.2.1,z6.2.2.1,z6.2.2.2.1,z6.2.2.2.2.2.2.1,wrap .i64 (z6.2.2.2.2.2.1+1),z6.2.2.2.2.2.2.2.2.1,z6.2.2.2.2.2.2.2.2.2.2.1,()))) (some (.inl (z6.1,z6.2.1,z6.2.2.1,z6.2.2.2.1,z6.2.2.2.2.1,wrap .i64 (z6.2.2.2.2.2.1+1),z6.2.2.2.2.2.2.2.2.1,z6.2.2.2.2.2.2.2.2.2.1,()))))) (some (.inr (s.2.2.2.2.2.2.1,s.2.2.2.2.2.2.2.1,())))
def b1P(x:(Int×Z3)):Option (Z4×Int):= (a8e (x.1,x.2.1,x.2.2.2)).bind fun y1=> cond (!y1) (some ((0,[],()),1)) ((x0r a4s (x.1,x.2.1,x.2.2.1,x.2.2.2,0,0,(0,[],()),(0,[],()),())).bind fun w7=> some (w7.2.1,0))
def b9w:FSem:=⟨[.v QI,.v QI,.v QI,.v QL],[.v Q8,.v QI],b1P⟩
def d8t:Hints:=⟨[(250,[.sv 0 QI,.sv 1 QI,.sv 2 QI,.sv 3 QL,.sv 11 QI,.sv 12 QI,.box 8 Q8,.box 10 Q8,.ptr 8 8 [],.ptr 10 10 []],[(.exit 0,[.box 8 Q8,.box 10 Q8,.ptr 8 8 [],.ptr 10 10 []])]),(512634,[.sv 0 QI,.sv 1 QI,.sv 2 QI,.sv 3 QL,.sv 11 QI,.sv 12 QI,.sv 15 QL,.sv 43 QI,.sv 44 QI,.own 42 13 QI,.box 8 Q8,.box 10 Q8,.box 14 Q7,.ptr 8 8 [],.ptr 10 10 [],.ptr 14 14 []],[(.exit 2,[.sv 0 QI,.sv 1 QI,.sv 2 QI,.sv 3 QL,.sv 11 QI,.sv 12 QI,.box 8 Q8,.box 10 Q8,.box 14 Q7,.ptr 8 8 [],.ptr 10 10 [],.ptr 14 14 []])])],[(256319,[(.normal,[.sv 0 QI,.sv 1 QI,.sv 2 QI,.sv 3 QL,.sv 11 QI,.sv 12 QI,.sv 18 QI,.sv 72 .bool,.box 8 Q8,.box 10 Q8,.box 14 Q8,.ptr 8 8 [],.ptr 10 10 [],.ptr 14 14 []])])],[(15,[.q,.q,.v,.v,.v,.v,.q,.x,.x,.x])]⟩
def a5V(s:((List Int)×((List Int)×c8a))):Option (((List Int)×((List Int)×c8a)) ⊕ (((List Int)×b2M) ⊕ (Int×b9n))):= cond (decide (s.2.2.2.1<s.2.2.1)) ((l0z s.2.1 s.2.2.2.1).bind fun x5=> (l0z s.1 0).bind fun x6=> cond (x5 != x6) (some (.inr (Sum.inr ((7,(0,0,0,0,0,[],a01 3 0,[],[],(0,[],()),[],()),()))))) (some (.inl (s.1,s.2.1,s.2.2.1,wrap .i64 (s.2.2.2.1+1),s.2.2.2.2.1,s.2.2.2.2.2.1,())))) (some (.inr (Sum.inl (s.1,s.2.2.2.2.1,s.2.2.2.2.2.1,()))))
def b4J(x:(Int×((List Int)×a1w))):Option a9a:= (show Option (Int×((List Int)×(Int×Bool×b2M)))from cond (decide ((x.2.1.length:Int)<1)) (some (x.1,x.2.1,(x.2.1.length:Int),true,(0,0,0,0,0,[],a01 3 0,[],[],(0,[],()),[],()),x.2.2,())) (cond (decide ((x.2.1.length:Int) > 4096)) (some (x.1,x.2.1,(x.2.1.length:Int),true,(0,0,0,0,0,[],a01 3 0,[],[],(0,[],()),[],()),x.2.2,())) ((b3O (x.1,x.2.2,(x.2.1.length:Int))).bind fun y1=> some (x.1,x.2.1,(x.2.1.length:Int),!y1,(0,0,0,0,0,[],a01 3 0,[],[],(0,[],()),[],()),x.2.2,())))).bind fun z2=> cond z2.2.2.2.1 (some ((0,0,0,0,0,[],a01 3 0,[],[],(0,[],()),[],()),1)) ((a2I z2.2.1).bind fun y3=> cond (!y3) (some ((0,0,0,0,0,[],a01 3 0,[],[],(0,[],()),[],()),6)) ((a7g (z2.1,z2.2.2.2.2.2.1)).bind fun y4=> cond (z2.1==0) ((x0r a5V (z2.2.1,z2.2.1,(z2.2.1.length:Int),0,z2.2.2.2.2.1,y4,())).bind fun w7=> match w7 with |.inl a8=>((l0z a8.1 0).bind fun x10=> some ((a8.2.2.1.1,a8.2.2.1.2.1,a8.2.2.1.2.2.1,a8.2.2.1.2.2.2.1,a8.2.2.1.2.2.2.2.1,a8.2.2.1.2.2.2.2.2.1,a8.2.2.1.2.2.2.2.2.2.1,a8.2.2.1.2.2.2.2.2.2.2.1,[x10],a8.2.2.1.2.2.2.2.2.2.2.2.2),0)) |.inr b9=>some (b9.2.1,b9.1)) ((a4r z2.2.1).bind fun y11=> (a8a (z2.2.1,y11)).bind fun y12=> cond (y12.2 != 0) (some ((0,0,0,0,0,[],a01 3 0,[],[],(0,[],()),[],()),6)) (cond (z2.1==1) (some ((y4.1,y11,y4.2.2.1,y4.2.2.2.1,y4.2.2.2.2.1,y4.2.2.2.2.2.1,y4.2.2.2.2.2.2.1,y4.2.2.2.2.2.2.2.1,y12.1,y4.2.2.2.2.2.2.2.2.2),0)) ((b3o ((y4.1,y11,y4.2.2),y12.1)).bind fun y13=> cond (y13.1 != 0) (some ((0,0,0,0,0,[],a01 3 0,[],[],(0,[],()),[],()),6)) ((b1P (z2.2.2.1,(y13.2.2.2.2.2.2.2.2.2.1.length:Int),6,y13.2.2.2.2.2.2.2.2.2.2.2.1)).bind fun y14=> cond (y14.2 != 0) (some ((0,0,0,0,0,[],a01 3 0,[],[],(0,[],()),[],()),6)) (some ((y13.2.1,y13.2.2.1,y13.2.2.2.1,y13.2.2.2.2.1,y13.2.2.2.2.2.1,y13.2.2.2.2.2.2.1,y13.2.2.2.2.2.2.2.1,y13.2.2.2.2.2.2.2.2.1,y13.2.2.2.2.2.2.2.2.2.1,y14.1,y13.2.2.2.2.2.2.2.2.2.2.2),0))))))))
def c2C:FSem:=⟨[.v QI,.v QL,.v Q39],[.v Q39,.v QI],b4J⟩
def d8u:Hints:=⟨[(4050,[.sv 1 QL,.sv 39 QL,.sv 40 QI,.sv 41 QI,.box 6 Q39,.box 9 Q39,.ptr 6 6 [],.ptr 9 9 []],[(.exit 0,[.sv 1 QL,.box 6 Q39,.box 9 Q39,.ptr 6 6 [],.ptr 9 9 []]),(.ret,[.sv 7 QI,.box 6 Q39,.ptr 6 6 []])])],[(14,[(.normal,[.sv 0 QI,.sv 1 QL,.sv 8 QI,.sv 28 .bool,.box 6 Q39,.vp 5 Q39,.ptr 6 6 []])])],[]⟩
def a9g(x:Int):Option Bool:= cond (x != 0) (some (x != 1)) (some false)
def a9h:FSem:=⟨[.v QI],[.v .bool],a9g⟩
def d8v:Hints:=⟨[],[],[]⟩
def b3r(x:a1w):Option Bool:= (a7g (x.1,x)).bind fun y1=> cond (x.2.2.1==y1.2.2.1) (cond (x.2.2.2.1==y1.2.2.2.1) (cond (x.2.2.2.2.1==y1.2.2.2.2.1) (cond (eqT (.arr 3 (.int .i64)) x.2.2.2.2.2.2.1 y1.2.2.2.2.2.2.1) (cond ((x.2.2.2.2.2.1.length:Int)==(y1.2.2.2.2.2.1.length:Int)) (some ((x.2.2.2.2.2.2.2.1.length:Int)==(y1.2.2.2.2.2.2.2.1.length:Int))) (some false)) (some false)) (some false)) (some false)) (some false)
def c1w:FSem:=⟨[.v Q39],[.v .bool],b3r⟩
def d8w:Hints:=⟨[],[],[]⟩
def b1Q(x:a9a):Option Bool:= (show Option b9o from cond (decide (x.2<1)) (some (x.2,true,x.1,())) (cond (decide (x.2 > 4096)) (some (x.2,true,x.1,())) ((b3O (x.1.1,x.1,x.2)).bind fun y1=> cond (!y1) (some (x.2,true,x.1,())) ((b3r x.1).bind fun y2=> some (x.2,!y2,x.1,()))))).bind fun z3=> cond z3.2.1 (some false) ((show Option b9o from cond (decide (z3.2.2.1.2.1<0)) (some (z3.1,true,z3.2.2.1,())) (cond (decide (z3.2.2.1.2.1 > 30)) (some (z3.1,true,z3.2.2.1,())) (cond (z3.2.2.1.1==0) (some (z3.1,z3.2.2.1.2.1 != 0,z3.2.2.1,())) (some (z3.1,false,z3.2.2.1,()))))).bind fun z4=> cond z4.2.1 (some false) ((a9e (z4.2.2.1,z4.1)).bind fun y5=> (show Option c7V from cond ((z4.2.2.1.2.2.2.2.2.2.2.2.1.length:Int) != y5) (some (z4.1,y5,true,z4.2.2.1,())) ((a2I z4.2.2.1.2.2.2.2.2.2.2.2.1).bind fun y6=> cond (!y6) (some (z4.1,y5,true,z4.2.2.1,())) ((a2I z4.2.2.1.2.2.2.2.2.2.2.2.2.2.1).bind fun y7=> some (z4.1,y5,!y7,z4.2.2.1,())))).bind fun z8=> cond z8.2.2.1 (some false) ((a9g z8.2.2.2.1.1).bind fun y9=> cond (!y9) (cond ((z8.2.2.2.1.2.2.2.2.2.2.2.2.2.2.1.length:Int)==0) (cond (z8.2.2.2.1.2.2.2.2.2.2.2.2.2.1.1==0) (some ((z8.2.2.2.1.2.2.2.2.2.2.2.2.2.1.2.1.length:Int)==0)) (some false)) (some false)) (cond ((z8.2.2.2.1.2.2.2.2.2.2.2.2.2.2.1.length:Int)==(wrap .i64 (z8.1-z8.2.1))) ((b0O (z8.2.2.2.1.2.2.2.2.2.2.2.2.2.1,z8.1,z8.2.1)).bind fun y10=> some y10) (some false)))))
def b9x:FSem:=⟨[.v Q39,.v QI],[.v .bool],b1Q⟩
def d8x:Hints:=⟨[],[(6,[(.normal,[.sv 1 QI,.sv 24 .bool,.vp 2 Q39])]),(14,[(.normal,[.sv 1 QI,.sv 42 .bool,.vp 2 Q39])]),(62,[(.normal,[.sv 1 QI,.sv 5 QI,.sv 62 .bool,.vp 2 Q39])])],[]⟩
def a1p(x:(Int×(List Int))):Option (Int×(List Int)):= (l0z x.2 (wrap .i64 ((x.2.length:Int)-x.1))).bind fun x1=> some (x1,x.2)
def b5T:FSem:=⟨[.v QI,.r false (.b QL)],[.v QI],a1p⟩
def d8y:Hints:=⟨[],[],[]⟩
def b0Z(x:((List Int)×Int)):Option Int:= cond (x.2==1) ((a1p (1,x.1)).bind fun y1=> some y1.1) (cond (x.2==2) ((a1p (1,x.1)).bind fun y2=> (a1p (2,y2.2)).bind fun y3=> some (wrap .i64 ((wrap .i64 (2*y2.1))-y3.1))) (cond (x.2==3) ((a1p (1,x.1)).bind fun y4=> (a1p (2,y4.2)).bind fun y5=> (a1p (3,y5.2)).bind fun y6=> some (wrap .i64 ((wrap .i64 ((wrap .i64 (3*y4.1))-(wrap .i64 (3*y5.1))))+y6.1))) (cond (x.2==4) ((a1p (1,x.1)).bind fun y7=> (a1p (2,y7.2)).bind fun y8=> (a1p (3,y8.2)).bind fun y9=> (a1p (4,y9.2)).bind fun y10=> some (wrap .i64 ((wrap .i64 ((wrap .i64 ((wrap .i64 (4*y7.1))-(wrap .i64 (6*y8.1))))+(wrap .i64 (4*y9.1))))-y10.1))) (some 0))))
def b8M:FSem:=⟨[.v QL,.v QI],[.v QI],b0Z⟩
def d8z:Hints:=⟨[],[],[]⟩
def a8N(s:Z69):Option (Z69 ⊕ Z58):= cond (decide (s.2.2.2.1<s.2.2.1)) ((l0z s.2.1 s.2.2.2.1).bind fun x5=> (b0Z (s.2.2.2.2.1,s.1)).bind fun y6=> (a3i [wrap .i64 (x5+y6)]).bind fun y7=> cond (!y7) (some (.inr (Sum.inr ((6,[],()))))) (cond (lim ((a03 s.2.2.2.2.1)+1)) (some (.inl (s.1,s.2.1,s.2.2.1,wrap .i64 (s.2.2.2.1+1),a04 s.2.2.2.2.1 [wrap .i64 (x5+y6)],()))) none)) (some (.inr (Sum.inl (s.2.2.2.2.1,()))))
def b1R(x:Z12):Option ((List Int)×Int):= (show Option Z60 from cond (decide (x.2.2<0)) (some (x.1,x.2.1,x.2.2,true,())) (cond (decide (x.2.2 > 4)) (some (x.1,x.2.1,x.2.2,true,())) (some (x.1,x.2.1,x.2.2,(x.1.length:Int) != x.2.2,())))).bind fun z1=> cond z1.2.2.2.1 (some ([],1)) ((show Option Z60 from(a3i z1.1).bind fun y2=> cond (!y2) (some (z1.1,z1.2.1,z1.2.2.1,true,())) ((a3i z1.2.1).bind fun y3=> some (z1.1,z1.2.1,z1.2.2.1,!y3,()))).bind fun z4=> cond z4.2.2.2.1 (some ([],6)) (cond (lim (a03 z4.1)) ((x0r a8N (z4.2.2.1,z4.2.1,(z4.2.1.length:Int),0,z4.1,())).bind fun w8=> match w8 with |.inl a9=>some (a9.1,0) |.inr b10=>some (b10.2.1,b10.1)) none))
def b9y:FSem:=⟨[.v QL,.v QL,.v QI],[.o QI,.v QI],b1R⟩
def d8A:Hints:=⟨[(250,[.sv 2 QI,.sv 34 QL,.sv 35 QI,.sv 36 QI,.own 8 8 QI],[(.exit 0,[.own 8 8 QI]),(.ret,[.sv 7 QI,.own 6 6 QI])])],[(6,[(.normal,[.sv 0 QL,.sv 1 QL,.sv 2 QI,.sv 23 .bool])]),(14,[(.normal,[.sv 0 QL,.sv 1 QL,.sv 2 QI,.sv 31 .bool])])],[]⟩
def a7I(s:Z96):Option (Z96 ⊕ Z58):= cond (decide (s.2.2.2.2.1<s.2.2.2.1)) ((l0z s.2.2.1 s.2.2.2.2.1).bind fun x6=> (a5v (s.2.2.2.2.2.1,s.1,s.2.1)).bind fun y7=> (a5U (wrap .i64 (y7+x6))).bind fun y8=> cond (!y8) (some (.inr (Sum.inr ((6,[],()))))) (cond (lim ((a03 s.2.2.2.2.2.1)+1)) (some (.inl (s.1,s.2.1,s.2.2.1,s.2.2.2.1,wrap .i64 (s.2.2.2.2.1+1),a04 s.2.2.2.2.2.1 [wrap .i64 (y7+x6)],()))) none)) (some (.inr (Sum.inl (s.2.2.2.2.2.1,()))))
def a8f(x:((List Int)×Z12)):Option ((List Int)×Int):= (show Option Z88 from(a5u (x.2.2.1,x.2.2.2)).bind fun y1=> cond (!y1) (some (x.1,x.2.1,x.2.2.1,x.2.2.2,true,())) (some (x.1,x.2.1,x.2.2.1,x.2.2.2,(x.1.length:Int) != (x.2.2.1.length:Int),()))).bind fun z2=> cond z2.2.2.2.2.1 (some ([],1)) ((show Option Z88 from(a2T z2.1).bind fun y3=> cond (!y3) (some (z2.1,z2.2.1,z2.2.2.1,z2.2.2.2.1,true,())) ((a2T z2.2.1).bind fun y4=> some (z2.1,z2.2.1,z2.2.2.1,z2.2.2.2.1,!y4,()))).bind fun z5=> cond z5.2.2.2.2.1 (some ([],6)) (cond ((decide (0≤(wrap .i64 ((z5.1.length:Int)+(z5.2.1.length:Int)))))&&(lim (a00 (wrap .i64 ((z5.1.length:Int)+(z5.2.1.length:Int)))))) (cond (lim (0+(a03 z5.1))) ((x0r a7I (z5.2.2.1,z5.2.2.2.1,z5.2.1,(z5.2.1.length:Int),0,a04 [] z5.1,())).bind fun w9=> match w9 with |.inl a10=>some (a10.1,0) |.inr b11=>some (b11.2.1,b11.1)) none) none))
def b8N:FSem:=⟨[.v QL,.v QL,.v QL,.v QI],[.o QI,.v QI],a8f⟩
def d8B:Hints:=⟨[(506,[.sv 2 QL,.sv 3 QI,.sv 42 QL,.sv 43 QI,.sv 44 QI,.own 10 10 QI],[(.exit 0,[.own 10 10 QI]),(.ret,[.sv 9 QI,.own 8 8 QI])])],[(6,[(.normal,[.sv 0 QL,.sv 1 QL,.sv 2 QL,.sv 3 QI,.sv 24 .bool])]),(14,[(.normal,[.sv 0 QL,.sv 1 QL,.sv 2 QL,.sv 3 QI,.sv 32 .bool])])],[]⟩
def a9C(s:Z95):Option (Z95 ⊕ Z58):= cond (decide (s.2.2.2.1<s.2.2.1)) ((l0z s.2.1 s.2.2.2.1).bind fun x3=> (a5m (s.2.2.2.2.1,s.2.2.2.1,s.1,s.2.2.2.2.2.1)).bind fun y4=> (a8t (wrap .i64 (x3+y4))).bind fun y5=> cond (!y5) (some (.inr (Sum.inr ((6,[],()))))) (cond (lim ((a03 s.2.2.2.2.1)+1)) (some (.inl (s.1,s.2.1,s.2.2.1,wrap .i64 (s.2.2.2.1+1),a04 s.2.2.2.2.1 [wrap .i64 (x3+y4)],s.2.2.2.2.2.1,()))) none)) (some (.inr (Sum.inl (s.2.2.2.2.1,()))))
def b3s(x:Z13):Option ((List Int)×Int):= (a9z (x.2.1,x.2.2)).bind fun y1=> cond (!y1) (some ([],1)) ((a5l x.1).bind fun y2=> cond (!y2) (some ([],6)) (cond ((decide (0≤(x.1.length:Int)))&&(lim (a00 (x.1.length:Int)))) ((x0r a9C (x.2.1,x.1,(x.1.length:Int),0,[],x.2.2,())).bind fun w6=> match w6 with |.inl a7=>some (a7.1,0) |.inr b8=>some (b8.2.1,b8.1)) none))
def c1x:FSem:=⟨[.v QL,.v QI,.v (.arr 3 QI)],[.o QI,.v QI],b3s⟩
def d8C:Hints:=⟨[(250,[.sv 1 QI,.sv 22 QL,.sv 23 QI,.sv 24 QI,.own 8 8 QI,.vp 5 (.arr 3 QI)],[(.exit 0,[.own 8 8 QI]),(.ret,[.sv 7 QI,.own 6 6 QI])])],[],[]⟩
def a6i(s:(Int×(Int×((List Int)×Z97)))):Option ((Int×(Int×((List Int)×Z97))) ⊕ (Z34 ⊕ Z34)):= cond (decide (s.2.1<s.1)) (cond ((decide (0≤s.2.1))&&(decide (s.2.1<(s.2.2.2.2.1.length:Int)))) ((a2r s.2.2.2.2.2.1).bind fun y6=> (a7h (wrap .i64 (y6.1+(a02 s.2.2.2.2.1 (a00 s.2.1) 0)))).bind fun y7=> cond (!y7) (some (.inr (Sum.inr (([],6,s.2.2.2.2.1,()))))) ((a3M (y6.2,wrap .i64 (y6.1+(a02 s.2.2.2.2.1 (a00 s.2.1) 0)))).bind fun y8=> cond ((decide (0≤s.2.1))&&(decide (s.2.1<(s.2.2.2.2.1.length:Int)))) (some (.inl (s.1,wrap .i64 (s.2.1+1),s.2.2.1,s.2.2.2.1,a06 s.2.2.2.2.1 (a00 s.2.1) (wrap .i64 (y6.1+(a02 s.2.2.2.2.1 (a00 s.2.1) 0))),y8,()))) none)) none) (some (.inr (Sum.inl (s.2.2.1,s.2.2.2.1,s.2.2.2.2.1,()))))
def a8O(k:Int)(v:(Int×Int×Unit))(s:(Z6×Z34)):Option ((Z6×Z34) ⊕ (Ex×Z6×Z34)):= (b0L v).bind fun y4=> cond (y4.2 != 0) (some (.inr (.ret,s.1,[],y4.2,s.2.2.2.1,()))) ((x0r a6i ((s.2.2.2.1.length:Int),0,s.2.1,s.2.2.1,s.2.2.2.1,y4.1,())).bind fun w9=> match w9 with |.inl a10=>some (.inl (s.1,a10.1,a10.2.1,a10.2.2.1,())) |.inr b11=>some (.inr (.ret,s.1,b11.1,b11.2.1,b11.2.2.1,())))
def b1S(x:Z33):Option ((List Int)×Int):= (a8u x.2).bind fun y1=> cond (!y1) (some ([],1)) ((a6e x.1).bind fun y2=> cond (!y2) (some ([],6)) ((a1i x.1).bind fun y3=> cond (lim (a03 x.2)) ((k0w a8O x.2 (a03 x.2) (x.2,[],0,y3,())).bind fun w12=> match w12 with |.inl a13=>some (a13.2.2.2.1,0) |.inr (.normal,a14)=>some (a14.2.2.2.1,0) |.inr (.exit e15,a14)=>(cond (e15==0) (some (a14.2.2.2.1,0)) none) |.inr (.ret,a14)=>some (a14.2.1,a14.2.2.1)) none))
def a9i:FSem:=⟨[.v QL,.v (.list false Q4)],[.v QL,.v QI],b1S⟩
def d8D:Hints:=⟨[(8046,[.sv 35 QI,.sv 36 QI,.box 1001004 QL,.box 1001005 QI,.box 1001006 (.list true QI),.box 1028 Q13,.ptr 4 1001004 [],.ptr 5 1001005 [],.ptr 6 1001006 [],.ptr 9 1028 [],.ref 34 1001006 []],[(.exit 2,[.box 1001004 QL,.box 1001005 QI,.box 1001006 (.list true QI),.ptr 4 1001004 [],.ptr 5 1001005 [],.ptr 6 1001006 []]),(.ret,[.box 1001004 QL,.box 1001005 QI,.box 1001006 (.list true QI),.ptr 4 1001004 [],.ptr 5 1001005 [],.ptr 6 1001006 []])])],[],[]⟩
def d1B:Cx:=a1O [(183,a1a),(213,b3n),(296,b1M),(298,b6S),(299,a4W),(300,b1L),(301,a8C)] [(6,.list true QI)] [0,1,9,10,11,12,13] [56]
def d3h:HintR:=⟨22,Q4,297,326,[4,5,6],[.sv 22 (.list false Q4),.box 1001004 QL,.box 1001005 QI,.box 1001006 (.list true QI),.ptr 4 1001004 [],.ptr 5 1001005 [],.ptr 6 1001006 []]⟩
theorem d4i(x):y0f d1B d8D d3h Tryz.f240 a9i.ps a9i.rs x=a9i.F x:=by kernel_rfl
def a9D(s:Z69):Option (Z69 ⊕ Z58):= cond (decide (s.2.2.2.1<s.2.2.1)) ((l0z s.2.1 s.2.2.2.1).bind fun x2=> (show Option (Int×Int×Z75)from(a5S x2).bind fun y3=> cond (!y3) (some (s.1,x2,s.2.1,s.2.2.1,s.2.2.2.1,true,s.2.2.2.2.1,())) (cond (decide (s.1<0)) none ((a5S (z0g .i64 x2 s.1)).bind fun y4=> some (s.1,x2,s.2.1,s.2.2.1,s.2.2.2.1,!y4,s.2.2.2.2.1,())))).bind fun z5=> cond z5.2.2.2.2.2.1 (some (.inr (Sum.inr ((6,[],()))))) (cond (decide (z5.1<0)) none (cond (lim ((a03 z5.2.2.2.2.2.2.1)+1)) (some (.inl (z5.1,z5.2.2.1,z5.2.2.2.1,wrap .i64 (z5.2.2.2.2.1+1),a04 z5.2.2.2.2.2.2.1 [z0g .i64 z5.2.1 z5.1],()))) none))) (some (.inr (Sum.inl (s.2.2.2.2.1,()))))
def b0Q(x:((List Int)×Int)):Option ((List Int)×Int):= (show Option Z22 from cond (decide (x.2<0)) (some (x.1,x.2,true,())) (some (x.1,x.2,decide (x.2 > 30),()))).bind fun z1=> cond z1.2.2.1 (some ([],1)) ((x0r a9D (z1.2.1,z1.1,(z1.1.length:Int),0,[],())).bind fun w6=> match w6 with |.inl a7=>some (a7.1,0) |.inr b8=>some (b8.2.1,b8.1))
def c1y:FSem:=⟨[.v QL,.v QI],[.o QI,.v QI],b0Q⟩
def d8E:Hints:=⟨[(122,[.sv 1 QI,.sv 15 QL,.sv 16 QI,.sv 17 QI,.own 6 6 QI],[(.exit 0,[.own 6 6 QI]),(.ret,[.sv 5 QI,.own 4 4 QI])])],[(6,[(.normal,[.sv 0 QL,.sv 1 QI,.sv 14 .bool])]),(15666,[(.normal,[.sv 1 QI,.sv 8 QI,.sv 15 QL,.sv 16 QI,.sv 17 QI,.sv 30 .bool,.own 6 6 QI])])],[]⟩
def a8g(s:c7X):Option (c7X ⊕ ((List Int)×Unit)):= cond (decide (s.2.1<s.1)) ((l0z s.2.2.2.1.2.2.2.2.2.2.2.2.1 0).bind fun x1=> cond (lim ((a03 s.2.2.1)+1)) (some (.inl (s.1,wrap .i64 (s.2.1+1),a04 s.2.2.1 [x1],s.2.2.2.1,()))) none) (some (.inr (s.2.2.1,())))
def b4K(x:a9a):Option ((List Int)×Int):= (show Option (((List Int)×(Int×b9n)) ⊕ Z4)from cond (x.1.1==0) ((x0r a8g (x.2,0,[],x.1,())).bind fun w2=> some (Sum.inr ((0,w2.1,())))) (cond (x.1.1==1) (some (Sum.inl (x.1.2.2.2.2.2.2.2.2.1,0,x.1,()))) (cond (x.1.1==2) ((b1R (x.1.2.2.2.2.2.2.2.2.1,x.1.2.2.2.2.2.2.2.2.2.2.1,x.1.2.2.1)).bind fun y3=> some (Sum.inl (y3.1,y3.2,x.1,()))) (cond (x.1.1==3) ((a8f (x.1.2.2.2.2.2.2.2.2.1,x.1.2.2.2.2.2.2.2.2.2.2.1,x.1.2.2.2.2.2.1,x.1.2.2.2.1)).bind fun y4=> some (Sum.inl (y4.1,y4.2,x.1,()))) (cond (x.1.1==4) ((a8f (x.1.2.2.2.2.2.2.2.2.1,x.1.2.2.2.2.2.2.2.2.2.2.1,x.1.2.2.2.2.2.1,x.1.2.2.2.1)).bind fun y5=> cond (y5.2==0) ((b3s (y5.1,x.1.2.2.2.2.1,x.1.2.2.2.2.2.2.1)).bind fun y6=> some (Sum.inl (y6.1,y6.2,x.1,()))) (some (Sum.inl (y5.1,y5.2,x.1,())))) (cond (x.1.1==5) ((b1S (x.1.2.2.2.2.2.2.2.2.2.2.1,x.1.2.2.2.2.2.2.2.1)).bind fun y7=> some (Sum.inl (y7.1,y7.2,x.1,()))) (some (Sum.inl ([],0,x.1,()))))))))).bind fun z8=> match z8 with |.inl a9=>(cond (a9.2.1 != 0) (some ([],a9.2.1)) ((b0Q (a9.1,a9.2.2.1.2.1)).bind fun y11=> some (y11.1,y11.2))) |.inr b10=>some (b10.2.1,b10.1)
def c2D:FSem:=⟨[.v Q39,.v QI],[.o QI,.v QI],b4K⟩
def d8F:Hints:=⟨[(3922,[.sv 12 QI,.sv 13 QI,.own 6 6 QI,.vp 2 Q39],[(.exit 1,[.own 6 6 QI])])],[(15,[(.normal,[.sv 6 QL,.sv 7 QI,.vp 2 Q39]),(.ret,[.sv 5 QI,.own 4 6 QI])])],[]⟩
def b5U(x:a9a):Option ((List Int)×Int):= (b1Q (x.1,x.2)).bind fun y1=> cond (!y1) (some ([],1)) ((b4K (x.1,x.2)).bind fun y2=> cond (y2.2 != 0) (some ([],1)) (some (y2.1,0)))
def b5V:FSem:=⟨[.v Q39,.v QI],[.o QI,.v QI],b5U⟩
def d8G:Hints:=⟨[],[],[]⟩
def b5W(x:a9a):Option Bool:= (b5U (x.1,x.2)).bind fun y1=> some (y1.2==0)
def b5X:FSem:=⟨[.v Q39,.v QI],[.v .bool],b5W⟩
def d8H:Hints:=⟨[],[],[]⟩
def a3y(x:(Z5×Int)):Option Z5:= (show Option Z44 from cond ((a26 x.1.2.1 8)==0) (cond (lim ((a03 x.1.1)+1)) (some (x.2,(a04 x.1.1 [0],x.1.2),())) none) (some (x.2,x.1,()))).bind fun z1=> cond ((decide (0≤(wrap .i64 (a24 z1.2.1.2.1 8))))&&(decide ((wrap .i64 (a24 z1.2.1.2.1 8))<(z1.2.1.1.length:Int)))) (cond (decide ((wrap .i64 (7-(a26 z1.2.1.2.1 8)))<0)) none (cond ((decide (0≤(wrap .i64 (a24 z1.2.1.2.1 8))))&&(decide ((wrap .i64 (a24 z1.2.1.2.1 8))<(z1.2.1.1.length:Int)))) (some (a06 z1.2.1.1 (a00 (wrap .i64 (a24 z1.2.1.2.1 8))) (bits .u8 .or (a02 z1.2.1.1 (a00 (wrap .i64 (a24 z1.2.1.2.1 8))) 0) (z0g .u8 z1.1 (wrap .i64 (7-(a26 z1.2.1.2.1 8))))),wrap .i64 (z1.2.1.2.1+1),z1.2.1.2.2)) none)) none
def a4L:FSem:=⟨[.r false (.b Q6),.v (.int .u8)],[],a3y⟩
def d8I:Hints:=⟨[],[(1,[(.normal,[.sv 1 (.int .u8),.box pinned Q6,.ptr 0 pinned []])])],[(2,[.p,.p,.q,.q,.p,.p,.q,.q,.v,.q,.q,.v,.p,.p,.q,.q,.v,.v,.v,.x,.x,.x])]⟩
def a4X(s:Z64):Option (Z64 ⊕ Z25):= cond (decide (s.2.1≥0)) (cond (decide (s.2.1<0)) none ((a3y (s.2.2.1,wrap .u8 (bits .u64 .and (z0h .u64 s.1 s.2.1) 1))).bind fun y2=> some (.inl (s.1,wrap .i64 (s.2.1-1),y2,())))) (some (.inr (s.2.2.1,())))
def a0G(x:(Z5×Int×Int)):Option Z20:= (show Option (Int×Int×Bool×Z25)from cond (decide (x.2.2<0)) (some (x.2.1,x.2.2,true,x.1,())) (cond (decide (x.2.2 > 64)) (some (x.2.1,x.2.2,true,x.1,())) (cond (decide (x.2.2<0)) none (some (x.2.1,x.2.2,(z0h .u64 x.2.1 x.2.2) != 0,x.1,()))))).bind fun z1=> cond z1.2.2.1 (some (1,z1.2.2.2.1)) ((x0r a4X (z1.1,wrap .i64 (z1.2.1-1),z1.2.2.2.1,())).bind fun w3=> some (0,w3.1))
def a3z:FSem:=⟨[.r false (.b Q6),.v (.int .u64),.v QI],[.v QI],a0G⟩
def d8J:Hints:=⟨[(58,[.sv 1 (.int .u64),.sv 7 QI,.box pinned Q6,.ptr 0 pinned []],[(.exit 0,[.box pinned Q6])])],[(6,[(.normal,[.sv 1 (.int .u64),.sv 2 QI,.sv 19 .bool,.box pinned Q6,.ptr 0 pinned []])])],[]⟩
def a3l(x:(Z5×Int×Int)):Option Z5:= cond (decide (x.2.2<0)) none ((a0G (x.1,bits .u64 .and (wrap .u64 x.2.1) (wrap .u64 ((z0g .u64 1 x.2.2)-1)),x.2.2)).bind fun y1=> some y1.2)
def b1T:FSem:=⟨[.r false (.b Q6),.v QI,.v QI],[],a3l⟩
def d8K:Hints:=⟨[],[],[]⟩
def a6T(s:c7N):Option (c7N ⊕ Z25):= cond (decide (s.2.2.2.1<s.2.2.1)) ((l0z s.2.1 s.2.2.2.1).bind fun x6=> (a3l (s.2.2.2.2.1,x6,s.1)).bind fun y7=> some (.inl (s.1,s.2.1,s.2.2.1,wrap .i64 (s.2.2.2.1+1),y7,()))) (some (.inr (s.2.2.2.2.1,())))
def a9E(x:(Z5×a1w)):Option Z5:= (a0G (x.1,wrap .u64 (wrap .i64 ((x.2.2.2.2.2.2.1.length:Int)-1)),5)).bind fun y1=> (a0G (y1.2,wrap .u64 x.2.2.2.2.1,4)).bind fun y2=> (a3R x.2.2.2.2.2.2.1).bind fun y3=> (a0G (y2.2,wrap .u64 y3,5)).bind fun y4=> (x0r a6T (y3,x.2.2.2.2.2.2.1,(x.2.2.2.2.2.2.1.length:Int),0,y4.2,())).bind fun w8=> some w8.1
def b7s:FSem:=⟨[.r false (.b Q6),.v Q39],[],a9E⟩
def d8L:Hints:=⟨[(254,[.sv 4 QI,.sv 27 QL,.sv 28 QI,.sv 29 QI,.box pinned Q6,.ptr 0 pinned []],[(.exit 0,[.box pinned Q6])])],[],[]⟩
def a3X(s:Z64):Option (Z64 ⊕ Z25):= cond (decide (s.2.1<s.1)) ((a3y (s.2.2.1,0)).bind fun y2=> some (.inl (s.1,wrap .i64 (s.2.1+1),y2,()))) (some (.inr (s.2.2.1,())))
def a2F(x:(Z5×Int)):Option Z20:= (show Option (Int×Bool×Z25)from cond (decide (x.2<0)) (some (x.2,true,x.1,())) (some (x.2,decide (x.2 > 4096),x.1,()))).bind fun z1=> cond z1.2.1 (some (1,z1.2.2.1)) ((x0r a3X (z1.1,0,z1.2.2.1,())).bind fun w3=> (a3y (w3.1,1)).bind fun y4=> some (0,y4))
def b2I:FSem:=⟨[.r false (.b Q6),.v QI],[.v QI],a2F⟩
def d8M:Hints:=⟨[(58,[.sv 11 QI,.sv 12 QI,.box pinned Q6,.ptr 0 pinned []],[(.exit 0,[.box pinned Q6,.ptr 0 pinned []])])],[(6,[(.normal,[.sv 1 QI,.sv 10 .bool,.box pinned Q6,.ptr 0 pinned []])])],[]⟩
def b1a(s:(Int×((List Int)×Z91))):Option ((Int×((List Int)×Z91)) ⊕ ((Int×((List Int)×Z25)) ⊕ Z44)):= cond (decide (s.2.2.2.2.1<s.2.2.2.1)) ((l0z s.2.2.1 s.2.2.2.2.1).bind fun x2=> (a8v x2).bind fun y3=> cond (!y3) (some (.inr (Sum.inr ((1,s.2.2.2.2.2.1,()))))) (some (.inl (s.1,s.2.1,s.2.2.1,s.2.2.2.1,wrap .i64 (s.2.2.2.2.1+1),s.2.2.2.2.2.1,())))) (some (.inr (Sum.inl (s.1,s.2.1,s.2.2.2.2.2.1,()))))
def a8h(s:c7N):Option (c7N ⊕ Z25):= cond (decide (s.2.2.2.1<s.2.2.1)) ((l0z s.2.1 s.2.2.2.1).bind fun x7=> (b0P x7).bind fun y8=> cond (decide (s.1<0)) none (cond (decide ((z0h .u64 y8 s.1)<32)) ((a2F (s.2.2.2.2.1,wrap .i64 (z0h .u64 y8 s.1))).bind fun y9=> cond (decide (s.1<0)) none ((a0G (y9.2,wrap .u64 (y8-(z0g .u64 (z0h .u64 y8 s.1) s.1)),s.1)).bind fun y10=> some (.inl (s.1,s.2.1,s.2.2.1,wrap .i64 (s.2.2.2.1+1),y10.2,())))) ((a2F (s.2.2.2.2.1,32)).bind fun y11=> (a0G (y11.2,y8,32)).bind fun y12=> some (.inl (s.1,s.2.1,s.2.2.1,wrap .i64 (s.2.2.2.1+1),y12.2,()))))) (some (.inr (s.2.2.2.2.1,())))
def b4L(x:(Z5×(Int×(List Int)))):Option Z20:= (a5x x.2.1).bind fun y1=> cond (!y1) (some (1,x.1)) ((x0r b1a (x.2.1,x.2.2,x.2.2,(x.2.2.length:Int),0,x.1,())).bind fun w4=> match w4 with |.inl a5=>((x0r a8h (a5.1,a5.2.1,(a5.2.1.length:Int),0,a5.2.2.1,())).bind fun w13=> some (0,w13.1)) |.inr b6=>some (b6.1,b6.2.1))
def c2E:FSem:=⟨[.r false (.b Q6),.v QI,.v QL],[.v QI],b4L⟩
def d8N:Hints:=⟨[(58,[.sv 1 QI,.sv 2 QL,.sv 16 QL,.sv 17 QI,.sv 18 QI,.box pinned Q6,.ptr 0 pinned []],[(.exit 0,[.sv 1 QI,.sv 2 QL,.box pinned Q6,.ptr 0 pinned []]),(.ret,[.sv 6 QI,.box pinned Q6])]),(122,[.sv 1 QI,.sv 26 QL,.sv 27 QI,.sv 28 QI,.box pinned Q6,.ptr 0 pinned []],[(.exit 2,[.box pinned Q6])])],[],[]⟩
def a9F(s:((List Int)×(Int×Int×Int×c5I))):Option (((List Int)×(Int×Int×Int×c5I)) ⊕ c5I):= cond (decide (s.2.2.2.2.2.2.1<s.2.2.2.2.2.1)) ((l0z s.2.2.2.2.1 s.2.2.2.2.2.2.1).bind fun x11=> cond (decide (s.2.1<0)) none ((a0G (s.2.2.2.2.2.2.2.2.1,bits .u64 .and (wrap .u64 x11) (wrap .u64 ((z0g .u64 1 s.2.1)-1)),s.2.1)).bind fun y12=> some (.inl (s.1,s.2.1,s.2.2.1,s.2.2.2.1,s.2.2.2.2.1,s.2.2.2.2.2.1,wrap .i64 (s.2.2.2.2.2.2.1+1),s.2.2.2.2.2.2.2.1,y12.2,s.2.2.2.2.2.2.2.2.2.1,())))) (some (.inr (s.1,s.2.2.1,s.2.2.2.1,s.2.2.2.2.2.2.2.1,s.2.2.2.2.2.2.2.2.1,s.2.2.2.2.2.2.2.2.2.1,())))
def a5o(s:c5I):Option (c5I ⊕ Z25):= cond (decide (s.2.2.1<s.2.1)) (cond ((decide (0≤s.2.2.1))&&(decide (s.2.2.1<(s.2.2.2.1.length:Int)))) (cond ((decide (0≤(a02 s.2.2.2.1 (a00 s.2.2.1) 0)))&&(decide ((a02 s.2.2.2.1 (a00 s.2.2.1) 0)≤(s.1.length:Int)))) (cond ((decide (0≤(a02 s.2.2.2.1 (a00 s.2.2.1) 0)))&&(decide ((a02 s.2.2.2.1 (a00 s.2.2.1) 0)≤(s.1.length:Int)))) ((l0z s.2.2.2.2.2.1.2.1 s.2.2.1).bind fun x4=> (a0G (s.2.2.2.2.1,wrap .u64 x4,5)).bind fun y5=> (l0z s.2.2.2.2.2.1.2.1 s.2.2.1).bind fun x6=> cond (x6 != 31) ((l0z s.2.2.2.2.2.1.2.1 s.2.2.1).bind fun x7=> (b4L (y5.2,x7,a05 (a00 (a02 s.2.2.2.1 (a00 s.2.2.1) 0)) s.1)).bind fun y8=> some (.inl (a07 (a00 (a02 s.2.2.2.1 (a00 s.2.2.1) 0)) (a05 (a03 s.1) s.1),s.2.1,wrap .i64 (s.2.2.1+1),s.2.2.2.1,y8.2,s.2.2.2.2.2.1,()))) ((a3R (a05 (a00 (a02 s.2.2.2.1 (a00 s.2.2.1) 0)) s.1)).bind fun y9=> (a0G (y5.2,wrap .u64 y9,5)).bind fun y10=> (x0r a9F (a07 (a00 (a02 s.2.2.2.1 (a00 s.2.2.1) 0)) (a05 (a03 s.1) s.1),y9,s.2.1,s.2.2.1,a05 (a00 (a02 s.2.2.2.1 (a00 s.2.2.1) 0)) s.1,((a03 (a05 (a00 (a02 s.2.2.2.1 (a00 s.2.2.1) 0)) s.1):Nat):Int),0,s.2.2.2.1,y10.2,s.2.2.2.2.2.1,())).bind fun w13=> some (.inl (w13.1,w13.2.1,wrap .i64 (w13.2.2.1+1),w13.2.2.2.1,w13.2.2.2.2.1,w13.2.2.2.2.2.1,())))) none) none) none) (some (.inr (s.2.2.2.2.1,())))
def b3t(x:(Z5×Z72)):Option Z20:= (a5z (x.2.1,x.2.2.1,x.2.2.2.1,x.2.2.2.2)).bind fun y1=> cond (y1==0) (some (1,x.1)) ((a0G (x.1,wrap .u64 x.2.1.1,4)).bind fun y2=> (a4B (x.2.1.1,x.2.2.1,x.2.2.2.1)).bind fun y3=> (x0r a5o (x.2.2.2.2,(y3.length:Int),0,y3,y2.2,x.2.1,())).bind fun w14=> some (0,w14.1))
def c1z:FSem:=⟨[.r false (.b Q6),.v Q8,.v QI,.v QI,.v QL],[.v QI],b3t⟩
def d8O:Hints:=⟨[(122,[.sv 4 QL,.sv 33 QI,.sv 34 QI,.own 32 1032 QI,.box pinned Q6,.ptr 0 pinned [],.vp 6 Q8],[(.exit 0,[.box pinned Q6])]),(2005502,[.sv 4 QL,.sv 14 QI,.sv 33 QI,.sv 34 QI,.sv 73 QL,.sv 74 QI,.sv 75 QI,.own 32 1032 QI,.box pinned Q6,.ptr 0 pinned [],.vp 6 Q8],[(.exit 2,[.sv 4 QL,.sv 33 QI,.sv 34 QI,.own 32 1032 QI,.box pinned Q6,.ptr 0 pinned [],.vp 6 Q8])])],[],[]⟩
def b1U(s:(Int×(Int×((List Int)×c7Y)))):Option ((Int×(Int×((List Int)×c7Y))) ⊕ b6P):= cond (decide (s.2.2.2.1<3)) ((l0z s.2.2.1 s.2.2.2.1).bind fun x8=> (a3l (s.2.2.2.2.1,x8,8)).bind fun y9=> some (.inl (s.1,s.2.1,s.2.2.1,wrap .i64 (s.2.2.2.1+1),y9,s.2.2.2.2.2.1,()))) (some (.inr (s.1,s.2.1,s.2.2.2.2.1,s.2.2.2.2.2.1,())))
def b1V(s:(Int×Int×Z6×b6P)):Option ((Int×Int×Z6×b6P) ⊕ b6P):= cond (decide (s.2.2.2.2.1<s.2.2.2.1)) ((l0z s.2.2.1 s.2.2.2.2.1).bind fun x18=> (a0G (s.2.2.2.2.2.1,wrap .u64 (wrap .i64 (x18.1-1)),5)).bind fun y19=> (a0G (y19.2,wrap .u64 x18.2.1,4)).bind fun y20=> some (.inl (s.1,s.2.1,s.2.2.1,s.2.2.2.1,wrap .i64 (s.2.2.2.2.1+1),y20.2,s.2.2.2.2.2.2.1,()))) (some (.inr (s.1,s.2.1,s.2.2.2.2.2.1,s.2.2.2.2.2.2.1,())))
def b1W(s:(Int×(Int×((List Int)×b6P)))):Option ((Int×(Int×((List Int)×b6P))) ⊕ c7Y):= cond (decide (s.2.2.2.2.1<s.2.2.2.1)) ((l0z s.2.2.1 s.2.2.2.2.1).bind fun x23=> (a3l (s.2.2.2.2.2.1,x23,s.2.1)).bind fun y24=> some (.inl (s.1,s.2.1,s.2.2.1,s.2.2.2.1,wrap .i64 (s.2.2.2.2.1+1),y24,s.2.2.2.2.2.2.1,()))) (some (.inr (s.1,s.2.2.2.2.2.1,s.2.2.2.2.2.2.1,())))
def b5Y(x:(Z5×a9a)):Option Z20:= (b5W (x.2.1,x.2.2)).bind fun y1=> cond (!y1) (some (1,x.1)) ((a3R x.2.1.2.2.2.2.2.2.2.2.1).bind fun y2=> (a0G (x.1,wrap .u64 x.2.1.1,3)).bind fun y3=> (a0G (y3.2,wrap .u64 x.2.1.2.1,5)).bind fun y4=> (a0G (y4.2,wrap .u64 y2,5)).bind fun y5=> (show Option b6P from(show Option (b6P ⊕ (b6P ⊕ b6P))from cond (x.2.1.1==2) ((a0G (y5.2,wrap .u64 x.2.1.2.2.1,3)).bind fun y6=> some (Sum.inr (Sum.inl (x.2.2,y2,y6.2,x.2.1,())))) (cond (x.2.1.1==4) ((a0G (y5.2,wrap .u64 (wrap .i64 (x.2.1.2.2.2.2.1-1)),10)).bind fun y7=> (x0r b1U (x.2.2,y2,x.2.1.2.2.2.2.2.2.1,0,y7.2,x.2.1,())).bind fun w10=> some (Sum.inl (w10.1,w10.2.1,w10.2.2.1,w10.2.2.2.1,()))) (cond (x.2.1.1==3) (some (Sum.inl (x.2.2,y2,y5.2,x.2.1,()))) (cond (x.2.1.1==5) (some (Sum.inr (Sum.inr ((x.2.2,y2,y5.2,x.2.1,()))))) (some (Sum.inr (Sum.inl (x.2.2,y2,y5.2,x.2.1,())))))))).bind fun z11=> match z11 with |.inl a12=>((a9E (a12.2.2.1,a12.2.2.2.1)).bind fun y14=> some (a12.1,a12.2.1,y14,a12.2.2.2.1,())) |.inr b13=>(match b13 with |.inl a15=>some (a15.1,a15.2.1,a15.2.2.1,a15.2.2.2.1,()) |.inr b16=>((a0G (b16.2.2.1,wrap .u64 (b16.2.2.2.1.2.2.2.2.2.2.2.1.length:Int),2)).bind fun y17=> (x0r b1V (b16.1,b16.2.1,b16.2.2.2.1.2.2.2.2.2.2.2.1,(b16.2.2.2.1.2.2.2.2.2.2.2.1.length:Int),0,y17.2,b16.2.2.2.1,())).bind fun w21=> some (w21.1,w21.2.1,w21.2.2.1,w21.2.2.2.1,())))).bind fun z22=> (x0r b1W (z22.1,z22.2.1,z22.2.2.2.1.2.2.2.2.2.2.2.2.1,(z22.2.2.2.1.2.2.2.2.2.2.2.2.1.length:Int),0,z22.2.2.1,z22.2.2.2.1,())).bind fun w25=> (a9g w25.2.2.1.1).bind fun y26=> cond (!y26) (some (0,w25.2.1)) ((b3t (w25.2.1,w25.2.2.1.2.2.2.2.2.2.2.2.2.1,w25.1,(w25.2.2.1.2.2.2.2.2.2.2.2.1.length:Int),w25.2.2.1.2.2.2.2.2.2.2.2.2.2.1)).bind fun y27=> some (y27.1,y27.2)))
def b5Z:FSem:=⟨[.r false (.b Q6),.v Q39,.v QI],[.v QI],b5Y⟩
def H62:Hints:=⟨[(2042,[.sv 2 QI,.sv 7 QI,.sv 94 QL,.sv 95 QI,.sv 96 QI,.box pinned Q6,.ptr 0 pinned [],.vp 4 Q39],[(.exit 9,[.sv 2 QI,.box pinned Q6,.ptr 0 pinned [],.vp 4 Q39])]),(32598,[.sv 2 QI,.sv 7 QI,.sv 75 (.list false Q4),.sv 76 QI,.sv 77 QI,.box pinned Q6,.ptr 0 pinned [],.vp 4 Q39],[(.exit 7,[.sv 2 QI,.sv 7 QI,.box pinned Q6,.ptr 0 pinned [],.vp 4 Q39])]),(260622,[.sv 2 QI,.sv 7 QI,.sv 57 (.arr 3 QI),.sv 58 QI,.box pinned Q6,.ptr 0 pinned [],.vp 4 Q39],[(.exit 5,[.sv 2 QI,.sv 7 QI,.box pinned Q6,.ptr 0 pinned [],.vp 4 Q39])])],[(127,[(.normal,[.sv 2 QI,.sv 7 QI,.box pinned Q6,.ptr 0 pinned [],.vp 4 Q39])]),(4072,[(.normal,[.sv 2 QI,.sv 7 QI,.box pinned Q6,.ptr 0 pinned [],.vp 4 Q39]),(.exit 0,[.sv 2 QI,.sv 7 QI,.box pinned Q6,.ptr 0 pinned [],.vp 4 Q39]),(.exit 4,[.sv 2 QI,.sv 7 QI,.box pinned Q6,.ptr 0 pinned [],.vp 4 Q39])])],[]⟩
def a9Z(x:Z5):Option Z20:= some (x.2.1,x)
def b4x:FSem:=⟨[.r false (.b Q6)],[.v QI],a9Z⟩
def d8P:Hints:=⟨[],[],[]⟩
def b4M(x:a9a):Option Int:= (b5Y (([],0,()),x.1,x.2)).bind fun y1=> cond (y1.1 != 0) (some 0) ((a9Z y1.2).bind fun y2=> some y2.1)
def c2F:FSem:=⟨[.v Q39,.v QI],[.v QI],b4M⟩
def d8Q:Hints:=⟨[],[],[]⟩
def a8i(s:((List Int)×(Int×Bool×b1o×c8a))):Option (((List Int)×(Int×Bool×b1o×c8a)) ⊕ b2M):= cond (decide (s.2.2.2.2.2.1<s.2.2.2.2.1)) ((l0z s.2.2.2.1 s.2.2.2.2.2.1).bind fun x6=> (b4J (x6.1,s.1,x6)).bind fun y7=> cond (y7.2 != 0) (some (.inl (s.1,s.2.1,s.2.2.1,s.2.2.2.1,s.2.2.2.2.1,wrap .i64 (s.2.2.2.2.2.1+1),s.2.2.2.2.2.2.1,s.2.2.2.2.2.2.2.1,()))) ((b4M (y7.1,(s.1.length:Int))).bind fun y8=> (show Option ((List Int)×(Int×Bool×Int×b1o×Int×Int×Bool×c8b))from cond (!s.2.2.1) (some (s.1,s.2.1,s.2.2.1,y8,s.2.2.2.1,s.2.2.2.2.1,s.2.2.2.2.2.1,true,s.2.2.2.2.2.2.1,s.2.2.2.2.2.2.2.1,y7.1,())) (some (s.1,s.2.1,s.2.2.1,y8,s.2.2.2.1,s.2.2.2.2.1,s.2.2.2.2.2.1,decide (y8<s.2.1),s.2.2.2.2.2.2.1,s.2.2.2.2.2.2.2.1,y7.1,()))).bind fun z9=> cond z9.2.2.2.2.2.2.2.1 (some (.inl (z9.1,z9.2.2.2.1,true,z9.2.2.2.2.1,z9.2.2.2.2.2.1,wrap .i64 (z9.2.2.2.2.2.2.1+1),z9.2.2.2.2.2.2.2.2.1,z9.2.2.2.2.2.2.2.2.2.2.1,()))) (some (.inl (z9.1,z9.2.1,z9.2.2.1,z9.2.2.2.2.1,z9.2.2.2.2.2.1,wrap .i64 (z9.2.2.2.2.2.2.1+1),z9.2.2.2.2.2.2.2.2.1,z9.2.2.2.2.2.2.2.2.2.1,()))))) (some (.inr (s.2.2.2.2.2.2.1,s.2.2.2.2.2.2.2.1,())))
def a1Z(x:((List Int)×Int)):Option a9a:= (show Option ((List Int)×b9o)from cond (decide ((x.1.length:Int)<1)) (some (x.1,x.2,true,(0,0,0,0,0,[],a01 3 0,[],[],(0,[],()),[],()),())) (cond (decide ((x.1.length:Int) > 4096)) (some (x.1,x.2,true,(0,0,0,0,0,[],a01 3 0,[],[],(0,[],()),[],()),())) (cond (decide (x.2<0)) (some (x.1,x.2,true,(0,0,0,0,0,[],a01 3 0,[],[],(0,[],()),[],()),())) (some (x.1,x.2,decide (x.2 > 3),(0,0,0,0,0,[],a01 3 0,[],[],(0,[],()),[],()),()))))).bind fun z1=> cond z1.2.2.1 (some ((0,0,0,0,0,[],a01 3 0,[],[],(0,[],()),[],()),1)) ((a2I z1.1).bind fun y2=> cond (!y2) (some ((0,0,0,0,0,[],a01 3 0,[],[],(0,[],()),[],()),6)) ((a4r z1.1).bind fun y3=> (a8a (z1.1,y3)).bind fun y4=> cond (y4.2 != 0) (some ((0,0,0,0,0,[],a01 3 0,[],[],(0,[],()),[],()),y4.2)) ((a7G (y4.1,z1.2.1)).bind fun y5=> (x0r a8i (z1.1,0,false,y5,(y5.length:Int),0,z1.2.2.2.1,(0,0,0,0,0,[],a01 3 0,[],[],(0,[],()),[],()),())).bind fun w10=> some (w10.2.1,0))))
def c2G:FSem:=⟨[.v QL,.v QI],[.v Q39,.v QI],a1Z⟩
def H60:Hints:=⟨[(2042,[.sv 0 QL,.sv 9 QI,.sv 10 .bool,.sv 50 (.list false Q39),.sv 51 QI,.sv 52 QI,.box 4 Q39,.box 8 Q39,.ptr 4 4 [],.ptr 8 8 []],[(.exit 0,[.box 4 Q39,.box 8 Q39,.ptr 4 4 [],.ptr 8 8 []])])],[(6,[(.normal,[.sv 0 QL,.sv 1 QI,.sv 31 .bool,.box 4 Q39,.ptr 4 4 []])]),(1045711,[(.normal,[.sv 0 QL,.sv 9 QI,.sv 10 .bool,.sv 15 QI,.sv 50 (.list false Q39),.sv 51 QI,.sv 52 QI,.sv 76 .bool,.box 4 Q39,.box 8 Q39,.box 13 Q39,.ptr 4 4 [],.ptr 8 8 [],.ptr 13 13 []])])],[]⟩
def a6j(s:(Int×((List (List Int))×(Int×c3T)))):Option ((Int×((List (List Int))×(Int×c3T))) ⊕ (c8c ⊕ (Int×d3a))):= cond (decide (s.2.2.2.1<s.2.2.1)) ((l0z s.2.1 s.2.2.2.1).bind fun x8=> (a1Z (x8,s.1)).bind fun y9=> cond (y9.2 != 0) (some (.inr (Sum.inr ((y9.2,(0,0,(0,0,0,()),[],[],()),()))))) (cond (lim ((a03 s.2.2.2.2.2.1.2.2.2.2.1)+1)) (some (.inl (s.1,s.2.1,s.2.2.1,wrap .i64 (s.2.2.2.1+1),s.2.2.2.2.1,(s.2.2.2.2.2.1.1,s.2.2.2.2.2.1.2.1,s.2.2.2.2.2.1.2.2.1,s.2.2.2.2.2.1.2.2.2.1,a04 s.2.2.2.2.2.1.2.2.2.2.1 ([y9.1]:List a1w),s.2.2.2.2.2.1.2.2.2.2.2),()))) none)) (some (.inr (Sum.inl (s.2.2.2.2.1,s.2.2.2.2.2.1,()))))
def a2m(x:(Z14×Z7×Int×Int)):Option (a7C×Int):= (show Option (Int×Int×Bool×a7C×Z14×Z28)from(b0G x.1).bind fun y1=> cond (!y1) (some (x.2.2.1,x.2.2.2,true,(0,0,(0,0,0,()),[],[],()),x.1,x.2.1,())) ((a7X x.2.1).bind fun y2=> cond (!y2) (some (x.2.2.1,x.2.2.2,true,(0,0,(0,0,0,()),[],[],()),x.1,x.2.1,())) (cond (x.1.1 != x.2.1.2.2.1) (some (x.2.2.1,x.2.2.2,true,(0,0,(0,0,0,()),[],[],()),x.1,x.2.1,())) (cond ((x.1.2.1.length:Int) != x.2.1.2.1) (some (x.2.2.1,x.2.2.2,true,(0,0,(0,0,0,()),[],[],()),x.1,x.2.1,())) (cond (decide (x.2.2.2<0)) (some (x.2.2.1,x.2.2.2,true,(0,0,(0,0,0,()),[],[],()),x.1,x.2.1,())) (cond (decide (x.2.2.2 > 3)) (some (x.2.2.1,x.2.2.2,true,(0,0,(0,0,0,()),[],[],()),x.1,x.2.1,())) (some (x.2.2.1,x.2.2.2,decide (x.2.2.1<0),(0,0,(0,0,0,()),[],[],()),x.1,x.2.1,())))))))).bind fun z3=> cond z3.2.2.1 (some ((0,0,(0,0,0,()),[],[],()),1)) ((a6K z3.2.2.2.2.1).bind fun y4=> cond (decide (z3.1 > (wrap .i64 (4194304-y4)))) (some ((0,0,(0,0,0,()),[],[],()),4)) ((show Option (Int×a7C×a7C×Z36)from cond (decide (z3.2.1 > 0)) ((a5d z3.2.2.2.2.1).bind fun y5=> some (z3.2.1,z3.2.2.2.1,(z3.1,y4,z3.2.2.2.2.2.1,y5,[],()),z3.2.2.2.2.1,())) (some (z3.2.1,z3.2.2.2.1,(z3.1,y4,z3.2.2.2.2.2.1,[],[],()),z3.2.2.2.2.1,()))).bind fun z6=> (b1A (z6.2.2.2.1.2.1,z6.2.2.1.2.2.2.1)).bind fun y7=> cond (y7.2 != 0) (some ((0,0,(0,0,0,()),[],[],()),y7.2)) ((x0r a6j (z6.1,y7.1,(y7.1.length:Int),0,z6.2.1,z6.2.2.1,())).bind fun w10=> match w10 with |.inl a11=>some (a11.2.1,0) |.inr b12=>some (b12.2.1,b12.1))))
def b5j:FSem:=⟨[.v Q11,.v Q9,.v QI,.v QI],[.v Q57,.v QI],a2m⟩
def H18:Hints:=⟨[(2042,[.sv 3 QI,.sv 81 (.list false QL),.sv 82 QI,.sv 83 QI,.box 8 Q57,.box 10 Q56,.ptr 8 8 [],.ptr 10 10 []],[(.exit 0,[.box 8 Q57,.box 10 Q56,.ptr 8 8 [],.ptr 10 10 []]),(.ret,[.sv 9 QI,.box 8 Q57,.ptr 8 8 []])])],[(6,[(.normal,[.sv 2 QI,.sv 3 QI,.sv 51 .bool,.box 8 Q57,.vp 4 Q11,.vp 5 Q9,.ptr 8 8 []])]),(31,[(.normal,[.sv 3 QI,.box 8 Q57,.box 10 Q56,.vp 4 Q11,.ptr 8 8 [],.ptr 10 10 []])])],[(3,[.v,.v,.v,.v,.v,.q,.x])]⟩
def c4V(x:a7C):Option Bool:= (a7X x.2.2.1).bind fun y1=> cond y1 (cond (decide (x.2.1≥1)) (cond (decide (x.2.1≤4096)) (cond (decide (x.1≥0)) (cond (decide (x.1≤(wrap .i64 (4194304-x.2.1)))) ((a9x (x.2.2.2.1,x.2.2.1.2.1)).bind fun y2=> some y2) (some false)) (some false)) (some false)) (some false)) (some false)
def a8j:FSem:=⟨[.v Q57],[.v .bool],c4V⟩
def d8R:Hints:=⟨[],[],[]⟩
def c3Y(k:Int)(v:Z7)(s:(Z18×Z66)):Option ((Z18×Z66) ⊕ (Ex×Z18×Z66)):= (a9b (s.2.2.2.1,v,(-1))).bind fun y5=> cond (!y5.1) (some (.inr (.ret,s.1,([]:(List (List Int))),6,y5.2,()))) (some (.inl (s.1,s.2.1,s.2.2.1,y5.2,())))
def c6O(x:Z67):Option ((List (List Int))×Int):= (show Option ((List (List Int))×(Z18×Bool×Z15))from(a8r x.1).bind fun y1=> cond (!y1) (some (x.1,x.2,true,([]:(List (List Int))),0,())) ((a9x (x.2,(x.1.length:Int))).bind fun y2=> some (x.1,x.2,!y2,([]:(List (List Int))),0,()))).bind fun z3=> cond z3.2.2.1 (some (([]:(List (List Int))),1)) ((a7Z z3.1).bind fun y4=> cond (lim (a03 z3.2.1)) ((k0w c3Y z3.2.1 (a03 z3.2.1) (z3.2.1,z3.2.2.2.1,z3.2.2.2.2.1,y4,())).bind fun w6=> match w6 with |.inl a7=>some (a7.2.2.2.1,0) |.inr (.normal,a8)=>some (a8.2.2.2.1,0) |.inr (.exit e9,a8)=>(cond (e9==0) (some (a8.2.2.2.1,0)) none) |.inr (.ret,a8)=>some (a8.2.1,a8.2.2.1)) none)
def a8x:FSem:=⟨[.v (.list false QL),.v (.list false Q9)],[.v (.list false QL),.v QI],c6O⟩
def d8S:Hints:=⟨[],[(6,[(.normal,[.sv 0 (.list false QL),.sv 1 (.list false Q9),.sv 18 .bool,.box 4 (.list false QL),.box 5 QI,.ptr 4 4 [],.ptr 5 5 []])])],[]⟩
def d1C:Cx:=a1O [(113,b3k),(114,b4G),(115,b4b),(116,b4Z)] [(6,.list true (.list true QI))] [0,1] [29]
def d3i:HintR:=⟨21,Q9,186,242,[4,5,6],[.sv 21 (.list false Q9),.box 1001004 (.list false QL),.box 1001005 QI,.box 1001006 (.list true (.list true QI)),.ptr 4 1001004 [],.ptr 5 1001005 [],.ptr 6 1001006 []]⟩
theorem d4j(x):y0f d1C d8S d3i Tryz.f107 a8x.ps a8x.rs x=a8x.F x:=by kernel_rfl
def H50:Hints:=⟨[(122,[.sv 30 (.list false Q39),.sv 31 QI,.sv 32 QI,.own 4 4 QL,.box 2 Q11,.vp 1 Q57,.ptr 2 2 []],[(.exit 0,[.own 4 4 QL,.box 2 Q11,.vp 1 Q57,.ptr 2 2 []]),(.ret,[.sv 3 QI,.box 2 Q11,.ptr 2 2 []])])],[(6,[(.normal,[.sv 23 .bool,.box 2 Q11,.vp 1 Q57,.ptr 2 2 []])])],[]⟩
def b4h(x:a7C):Option (Z14×Int):=z0c (a1O [(56,b0H),(105,a8j),(106,b5V),(107,a8x)] [] [0,3,4,7,8,9,10] [1]) H50 Tryz.f50 [.v Q57] [.v Q11,.v (.int .i64)] x
def b4i:FSem:=⟨[.v Q57],[.v Q11,.v QI],b4h⟩
def c6P(x:a7C):Option Bool:= (b4h x).bind fun y1=> some (y1.2==0)
def b0R:FSem:=⟨[.v Q57],[.v .bool],c6P⟩
def H61:Hints:=⟨[],[],[]⟩
def H63:Hints:=⟨[(2,[.box pinned Q6,.ptr 0 pinned []],[(.exit 0,[.box pinned Q6])])],[],[]⟩
def b9i(x:Z5):Option Z5:=z0c (a1O [(130,a4L)] [] [0] []) H63 Tryz.f63 [.r false (.b Q6)] [] x
def a8D:FSem:=⟨[.r false (.b Q6)],[],b9i⟩
def b9j(x:Z5):Option Z35:= cond (lim (a03 x.1)) (some (x.1,x)) none
def a8E:FSem:=⟨[.r false (.b Q6)],[.o (.int .u8)],b9j⟩
def H64:Hints:=⟨[],[],[]⟩
def H88:Hints:=⟨[(58,[.sv 6 (.list false (.int .u64)),.sv 7 QI,.sv 8 QI,.own 3 3 (.int .u8)],[(.exit 0,[.own 3 3 (.int .u8)])]),(14948,[.sv 5 (.int .u64),.sv 6 (.list false (.int .u64)),.sv 7 QI,.sv 8 QI,.own 3 3 (.int .u8)],[(.exit 2,[.sv 5 (.int .u64),.sv 6 (.list false (.int .u64)),.sv 7 QI,.sv 8 QI,.own 3 3 (.int .u8)])])],[],[]⟩
def c6Q(x:(List Int)):Option (List Int):=z0c (a1O [] [] [0,2,3,5] []) H88 Tryz.f88 [.v (.list false (.int .u64))] [.o (.int .u8)] x
def b6W:FSem:=⟨[.v (.list false (.int .u64))],[.o (.int .u8)],c6Q⟩
def d3j:Hints:=⟨[],[],[]⟩
def c6R(x:Int):Option Int:=z0c (a1O [] [] [0,2] []) d3j Tryz.f131 [.v (.int .i64)] [.v (.int .u64)] x
def b6X:FSem:=⟨[.v QI],[.v (.int .u64)],c6R⟩
def d3k:Hints:=⟨[(58,[.sv 3 (.int .u8),.sv 7 (.list false (.int .u8)),.sv 8 QI,.sv 9 QI],[(.exit 0,[.sv 3 (.int .u8)])]),(29902,[.sv 3 (.int .u8),.sv 7 (.list false (.int .u8)),.sv 8 QI,.sv 9 QI,.sv 16 QI],[(.exit 2,[.sv 3 (.int .u8),.sv 7 (.list false (.int .u8)),.sv 8 QI,.sv 9 QI])])],[],[]⟩
def c5N(x:(List Int)):Option Int:=z0c (a1O [] [] [0,2,3,5,6] []) d3k Tryz.f132 [.v (.list false (.int .u8))] [.v (.int .u8)] x
def a9j:FSem:=⟨[.v (.list false (.int .u8))],[.v (.int .u8)],c5N⟩
def H65:Hints:=⟨[(58,[.sv 1 QI,.sv 33 (.list false Q9),.sv 34 QI,.sv 35 QI,.own 5 5 (.int .u64)],[(.exit 0,[.sv 1 QI,.own 5 5 (.int .u64)])])],[],[(5,[.q,.q,.q,.v,.q,.q,.v,.q,.q,.v,.q,.x,.x])]⟩
def c2H(x:(a7C×Int)):Option (List Int):=z0c (a1O [(88,b6W),(131,b6X),(132,a9j)] [] [0,1,4,5,8] [2]) H65 Tryz.f65 [.v Q57,.v (.int .i64)] [.o (.int .u8)] x
def b1X:FSem:=⟨[.v Q57,.v QI],[.o (.int .u8)],c2H⟩
def c4W(x:Int):Option Int:= some (v0a (u0z x 0) 8)
def b4j:FSem:=⟨[.v QI],[.v QI],c4W⟩
def d8T:Hints:=⟨[],[],[]⟩
def d3l:Hints:=⟨[(58,[.sv 0 (.int .u64),.sv 7 QI,.sv 8 QI,.own 5 5 (.int .u8)],[(.exit 0,[.own 5 5 (.int .u8)])])],[],[]⟩
def b8O(x:(Int×Int)):Option (List Int):=z0c (a1O [(203,b4j)] [] [0,1,4,5] []) d3l Tryz.f133 [.v (.int .u64),.v (.int .i64)] [.o (.int .u8)] x
def b8P:FSem:=⟨[.v (.int .u64),.v QI],[.o (.int .u8)],b8O⟩
def a6Q(x:(List Int)):Option (List Int):= cond (decide (a03 x<2147483648)) (some (List.reverse x)) none
def a6R:FSem:=⟨[.r false (.o (.int .u8))],[],a6Q⟩
def c6S(x:(Int×Int)):Option (List Int):= (b8O (x.1,x.2)).bind fun y1=> (a6Q y1).bind fun y2=> some y2
def b6Y:FSem:=⟨[.v (.int .u64),.v QI],[.o (.int .u8)],c6S⟩
def H66:Hints:=⟨[],[],[]⟩
def H67:Hints:=⟨[(58,[.sv 3 (.int .u16),.sv 7 (.list false (.int .u8)),.sv 8 QI,.sv 9 QI],[(.exit 0,[.sv 3 (.int .u16)])]),(29902,[.sv 3 (.int .u16),.sv 7 (.list false (.int .u8)),.sv 8 QI,.sv 9 QI,.sv 18 QI],[(.exit 2,[.sv 3 (.int .u16),.sv 7 (.list false (.int .u8)),.sv 8 QI,.sv 9 QI])])],[],[]⟩
def c3Z(x:(List Int)):Option Int:=z0c (a1O [] [] [0,2,3,5,6] []) H67 Tryz.f67 [.v (.list false (.int .u8))] [.v (.int .u16)] x
def a7i:FSem:=⟨[.v (.list false (.int .u8))],[.v (.int .u16)],c3Z⟩
def H19:Hints:=⟨[(122,[.sv 14 (.list false Q39),.sv 15 QI,.sv 16 QI,.box 4 Q6,.vp 1 Q57,.ptr 4 4 []],[(.exit 0,[.box 4 Q6,.vp 1 Q57,.ptr 4 4 []]),(.ret,[.sv 3 QI,.own 2 2 (.int .u8)])])],[],[]⟩
def c1A(x:a7C):Option ((List Int)×Int):=z0c (a1O [(61,b0R),(62,b5Z),(63,a8D),(64,a8E),(65,b1X),(66,b6Y),(67,a7i)] [(4,.pair (.list true (.int .u8)) Q0)] [0,2,3,7,8,9] [1]) H19 Tryz.f19 [.v Q57] [.o (.int .u8),.v (.int .i64)] x
def c1B:FSem:=⟨[.v Q57],[.o (.int .u8),.v QI],c1A⟩
def c6T(x:(List Int)):Option Z17:= cond (lim (a03 x)) (some (x,0,0,())) none
def b6Z:FSem:=⟨[.v (.list false (.int .u8))],[.b Q12],c6T⟩
def d8U:Hints:=⟨[],[],[]⟩
def d3m:Hints:=⟨[(58,[.sv 5 (.int .u64),.sv 8 (.list false (.int .u8)),.sv 9 QI,.sv 10 QI],[(.exit 0,[]),(.ret,[.sv 2 (.int .u64),.sv 3 QI,.sv 4 QI])])],[(7474,[(.normal,[.sv 5 (.int .u64),.sv 6 QI,.sv 7 (.int .u8),.sv 8 (.list false (.int .u8)),.sv 9 QI,.sv 10 QI,.sv 28 .bool])])],[]⟩
def c4a(x:(List Int)):Option (Int×Int×Int):=z0c (a1O [] [] [0,2,3,4,5,6,7] []) d3m Tryz.f208 [.v (.list false (.int .u8))] [.v (.int .u64),.v (.int .i64),.v (.int .i64)] x
def b2P:FSem:=⟨[.v (.list false (.int .u8))],[.v (.int .u64),.v QI,.v QI],c4a⟩
def d3n:Hints:=⟨[],[(15,[(.normal,[.sv 5 (.int .u64),.sv 6 QI,.sv 7 QI,.box pinned Q12,.ptr 0 pinned []])])],[(3,[.p,.p,.q,.q,.p,.p,.q,.q,.x,.x,.x,.v,.v,.v,.v,.v,.x])]⟩
def b9z(x:Z40):Option Z37:=z0c (a1O [(208,b2P)] [] [0,1,4,5,6,7] []) d3n Tryz.f144 [.r false (.b Q12),.v (.int .u64)] [.v (.int .u64)] x
def a9k:FSem:=⟨[.r false (.b Q12),.v (.int .u64)],[.v (.int .u64)],b9z⟩
def d3o:Hints:=⟨[],[],[]⟩
def c6U(x:Int):Option Int:=z0c (a1O [] [] [0,2,3] []) d3o Tryz.f145 [.v (.int .u64)] [.v (.int .i64)] x
def b7a:FSem:=⟨[.v (.int .u64)],[.v QI],c6U⟩
def b9A(x:Z17):Option Z37:= some (x.2.2.1,x)
def a9l:FSem:=⟨[.r false (.b Q12)],[.v QI],b9A⟩
def d8V:Hints:=⟨[],[],[]⟩
def b9k(x:Z17):Option Z37:= some (wrap .i64 ((x.1.length:Int)-x.2.1),x)
def a8F:FSem:=⟨[.r false (.b Q12)],[.v QI],b9k⟩
def d8W:Hints:=⟨[],[],[(1,[.p,.p,.q,.q,.v,.p,.p,.q,.q,.x,.x])]⟩
def c1h(x:Z17):Option Z37:= some (x.2.1,x)
def b0A:FSem:=⟨[.r false (.b Q12)],[.v QI],c1h⟩
def d8X:Hints:=⟨[],[],[]⟩
def H71:Hints:=⟨[(8186,[.sv 0 (.list false (.int .u8)),.sv 54 (.int .u64),.sv 55 (.int .u64),.box 2 Q55,.box 1029 Q12,.ptr 2 2 [],.ptr 6 1029 []],[(.exit 0,[.sv 0 (.list false (.int .u8)),.box 2 Q55,.box 1029 Q12,.ptr 2 2 [],.ptr 6 1029 []])])],[(14,[(.normal,[.sv 0 (.list false (.int .u8)),.sv 25 .bool,.box 2 Q55,.ptr 2 2 []])])],[(25,[.v,.v,.v,.v,.v,.v,.v,.v,.x])]⟩
def b6a(x:(List Int)):Option (a7C×Int×Int×Int):=z0c (a1O [(105,a8j),(132,a9j),(143,b6Z),(144,a9k),(145,b7a),(146,a9l),(147,a8F),(148,b0A)] [(2,.pair (.int .i64) Q52),(15,.pair (.int .i64) Q51),(26,.pair (.int .i64) Q51),(83,.pair (.int .i64) Q51),(88,.pair (.int .i64) Q51),(101,.pair (.int .i64) Q51),(105,.pair (.int .i64) Q51)] [0,3,4,5,6,7,8,9,10,11] []) H71 Tryz.f71 [.v (.list false (.int .u8))] [.v (.pair (.int .i64) (.pair (.int .i64) (.pair Q9 (.pair (.list false Q9) Q40)))),.v (.int .i64),.v (.int .i64),.v (.int .i64)] x
def a8P:FSem:=⟨[.v (.list false (.int .u8))],[.v (.pair QI (.pair QI (.pair Q9 (.pair (.list false Q9) Q40)))),.v QI,.v QI,.v QI],b6a⟩
def c8f(x:(List Int)):Option Z17:= cond (lim (a03 x)) (some (x,0,0,())) none
def b7W:FSem:=⟨[.v (.list false (.int .u8))],[.b Q12],c8f⟩
def H72:Hints:=⟨[],[],[]⟩
def c1i(x:Z17):Option Z37:= some (x.2.2.1,x)
def a1e:FSem:=⟨[.r false (.b Q12)],[.v QI],c1i⟩
def H76:Hints:=⟨[],[],[]⟩
def b9B(x:Z17):Option Z37:= some (wrap .i64 ((wrap .i64 (8*(x.1.length:Int)))-x.2.1),x)
def a4f:FSem:=⟨[.r false (.b Q12)],[.v QI],b9B⟩
def H74:Hints:=⟨[],[],[(1,[.p,.p,.q,.q,.v,.v,.p,.p,.q,.q,.x,.x])]⟩
def d3p:Hints:=⟨[],[],[]⟩
def b9C(x:Z40):Option Z37:=z0c (a1O [] [] [0,1,4] []) d3p Tryz.f154 [.r false (.b Q12),.v (.int .i64)] [.v (.int .u8)] x
def a2n:FSem:=⟨[.r false (.b Q12),.v QI],[.v (.int .u8)],b9C⟩
def d3q:Hints:=⟨[(506,[.sv 5 (.int .u64),.sv 27 QI,.sv 28 QI,.box pinned Q12,.ptr 0 pinned []],[(.exit 0,[.sv 5 (.int .u64),.box pinned Q12])])],[(14,[(.normal,[.sv 1 QI,.sv 16 .bool,.box pinned Q12,.ptr 0 pinned []])])],[]⟩
def c1j(x:Z40):Option Z37:=z0c (a1O [(74,a4f),(154,a2n)] [] [0,1,4,5] []) d3q Tryz.f209 [.r false (.b Q12),.v (.int .i64)] [.v (.int .u64)] x
def a1f:FSem:=⟨[.r false (.b Q12),.v QI],[.v (.int .u64)],c1j⟩
def d3r:Hints:=⟨[],[(14,[(.normal,[.sv 1 QI,.sv 5 (.int .u64),.sv 17 .bool,.box pinned Q12])])],[]⟩
def b7X(x:Z40):Option Z37:=z0c (a1O [(209,a1f)] [] [0,1,4,5] []) d3r Tryz.f152 [.r false (.b Q12),.v (.int .i64)] [.v (.int .i64)] x
def a1x:FSem:=⟨[.r false (.b Q12),.v QI],[.v QI],b7X⟩
def d3s:Hints:=⟨[(250,[.sv 6 QI,.sv 20 QI,.sv 21 QI,.box pinned Q12,.box 1000001 Q38,.ptr 0 pinned [],.ptr 1 1000001 []],[(.exit 0,[.sv 6 QI,.box 1000001 Q38,.box pinned Q12,.ptr 1 1000001 []])])],[],[(6,[.p,.p,.p,.r [26,1000001],.r [27,1000001],.p,.v,.w [30,1030,pinned],.q,.a [31,32,1000001],.x,.x,.x])]⟩
def c4b(x:(Z17×a1w)):Option (Bool×Z17×a1w):=z0c (a1O [(124,a1S),(152,a1x),(209,a1f)] [] [0,1,4,5,6] []) d3s Tryz.f210 [.r false (.b Q12),.r false (.b Q38)] [.v .bool] x
def b2Q:FSem:=⟨[.r false (.b Q12),.r false (.b Q38)],[.v .bool],c4b⟩
def d3t:Hints:=⟨[(8106,[.sv 3 QI,.sv 4 .bool,.sv 50 (.int .u64),.sv 51 (.int .u64),.box pinned Q12,.box 2 Q38,.ptr 0 pinned [],.ptr 2 2 []],[(.exit 7,[.sv 3 QI,.sv 4 .bool,.box 2 Q38,.box pinned Q12,.ptr 2 2 []])]),(129550,[.sv 3 QI,.sv 38 QI,.box pinned Q12,.box 2 Q38,.ptr 0 pinned [],.ptr 2 2 []],[(.exit 5,[.sv 3 QI,.box pinned Q12,.box 2 Q38,.ptr 0 pinned [],.ptr 2 2 []])])],[(63,[(.normal,[.sv 3 QI,.sv 4 .bool,.box 2 Q38,.box pinned Q12,.ptr 2 2 []])]),(2024,[(.normal,[.sv 3 QI,.box pinned Q12,.box 2 Q38,.ptr 0 pinned [],.ptr 2 2 []]),(.exit 0,[.sv 3 QI,.sv 4 .bool,.box 2 Q38,.box pinned Q12,.ptr 2 2 []]),(.exit 4,[.sv 3 QI,.sv 4 .bool,.box pinned Q12,.box 2 Q38,.ptr 0 pinned [],.ptr 2 2 []])])],[]⟩
def c4X(x:Z17):Option (a1w×Int×Bool×Z17):=z0c (a1O [(152,a1x),(209,a1f),(210,b2Q)] [(2,.pair (.int .i64) Q35)] [0,3,4,5,6,7,21,23,25,27] []) d3t Tryz.f149 [.r false (.b Q12)] [.v (.pair (.int .i64) Q36),.v (.int .i64),.v .bool] x
def b4k:FSem:=⟨[.r false (.b Q12)],[.v (.pair QI Q36),.v QI,.v .bool],c4X⟩
def d3u:Hints:=⟨[(62,[.sv 1 QI,.sv 5 QI,.sv 6 QI,.box pinned Q12,.ptr 0 pinned []],[(.ret,[.sv 4 QI,.box pinned Q12])])],[],[(4,[.p,.p,.q,.q,.v,.x])]⟩
def b9l(x:Z40):Option Z37:=z0c (a1O [(154,a2n)] [] [0,1,4,5,6] []) d3u Tryz.f330 [.r false (.b Q12),.v (.int .i64)] [.v (.int .i64)] x
def a8G:FSem:=⟨[.r false (.b Q12),.v QI],[.v QI],b9l⟩
def d3v:Hints:=⟨[],[],[]⟩
def c4Y(x:Int):Option Int:=z0c (a1O [] [] [0,2,3,6] []) d3v Tryz.f331 [.v (.int .u64)] [.v (.int .i64)] x
def b4l:FSem:=⟨[.v (.int .u64)],[.v QI],c4Y⟩
def d3w:Hints:=⟨[],[(254,[(.normal,[.sv 8 (.int .u64),.sv 44 .bool,.box pinned Q12])])],[]⟩
def c8g(x:Z40):Option Z57:=z0c (a1O [(76,a1e),(209,a1f),(330,a8G),(331,b4l)] [] [0,1,4,5,6,7,8] []) d3w Tryz.f313 [.r false (.b Q12),.v (.int .i64)] [.v (.int .i64),.v (.int .i64)] x
def b7Y:FSem:=⟨[.r false (.b Q12),.v QI],[.v QI,.v QI],c8g⟩
def d3x:Hints:=⟨[(250,[.sv 1 QI,.sv 27 QI,.sv 28 QI,.own 8 8 QI,.box pinned Q12,.ptr 0 pinned []],[(.exit 0,[.own 8 8 QI,.box pinned Q12]),(.ret,[.sv 7 QI,.own 6 6 QI,.box pinned Q12])])],[(6,[(.normal,[.sv 1 QI,.sv 2 QI,.sv 21 .bool,.box pinned Q12,.ptr 0 pinned []])])],[]⟩
def c8h(x:(Z17×Int×Int)):Option Z70:=z0c (a1O [(76,a1e),(258,a5y),(313,b7Y)] [] [0,1,2,6,7,8,9,10] []) d3x Tryz.f272 [.r false (.b Q12),.v (.int .i64),.v (.int .i64)] [.o (.int .i64),.v (.int .i64)] x
def b7Z:FSem:=⟨[.r false (.b Q12),.v QI,.v QI],[.o QI,.v QI],c8h⟩
def d3y:Hints:=⟨[(2042,[.sv 7 QI,.sv 10 QI,.sv 37 QI,.sv 38 QI,.own 11 11 QI,.box pinned Q12,.ptr 0 pinned []],[(.exit 0,[.sv 7 QI,.sv 10 QI,.own 11 11 QI,.box pinned Q12,.ptr 0 pinned []])])],[],[]⟩
def c6V(x:Z40):Option (Int×Z70):=z0c (a1O [(76,a1e),(124,a1S),(152,a1x),(209,a1f),(272,b7Z)] [] [0,1,4,5,6,7,8,9,10,11] []) d3y Tryz.f215 [.r false (.b Q12),.v (.int .i64)] [.v (.int .i64),.o (.int .i64),.v (.int .i64)] x
def b7b:FSem:=⟨[.r false (.b Q12),.v QI],[.v QI,.o QI,.v QI],c6V⟩
def d3z:Hints:=⟨[(4090,[.sv 43 QI,.sv 44 QI,.own 12 12 QI,.own 42 10 QI,.box pinned Q12,.box 6 Q8,.box 11 Q7,.ptr 0 pinned [],.ptr 6 6 [],.ptr 11 11 []],[(.exit 0,[.own 12 12 QI,.box 6 Q8,.box 11 Q7,.box pinned Q12,.ptr 6 6 [],.ptr 11 11 []]),(.ret,[.sv 8 QI,.own 7 7 QI,.box 6 Q8,.box pinned Q12,.ptr 6 6 []])])],[],[]⟩
def c6W(x:(Z17×Int×Int)):Option (Z4×Z70):=z0c (a1O [(76,a1e),(201,a4C),(209,a1f),(214,b0N),(215,b7b)] [(11,.pair (.int .i64) Q2),(41,.pair (.int .i64) Q2)] [0,1,2,7,8,9,10,12,14,15,16,17] []) d3z Tryz.f153 [.r false (.b Q12),.v (.int .i64),.v (.int .i64)] [.v Q8,.o (.int .i64),.v (.int .i64)] x
def b7c:FSem:=⟨[.r false (.b Q12),.v QI,.v QI],[.v Q8,.o QI,.v QI],c6W⟩
def H73:Hints:=⟨[(1018,[.sv 1 QI,.sv 8 QI,.sv 9 .bool,.sv 47 QI,.sv 48 QI,.box pinned Q12,.box 4 Q39,.box 7 (.pair QI (.pair QI (.pair QI (.pair QI (.pair QI (.pair QL (.pair (.arr 3 QI) (.pair (.list false Q4) (.pair (.list true QI) Q14))))))))),.ptr 0 pinned [],.ptr 4 4 [],.ptr 7 7 []],[(.exit 0,[.sv 1 QI,.sv 8 QI,.sv 9 .bool,.box pinned Q12,.box 4 Q39,.box 7 (.pair QI (.pair QI (.pair QI (.pair QI (.pair QI (.pair QL (.pair (.arr 3 QI) (.pair (.list false Q4) (.pair (.list true QI) Q14))))))))),.ptr 0 pinned [],.ptr 4 4 [],.ptr 7 7 []])])],[],[(14,[.r [7,50],.r [7,51],.p,.v,.w [54,1054,pinned],.q,.x,.x,.x])]⟩
def c9A(x:Z40):Option (a1w×Z37):=z0c (a1O [(76,a1e),(123,b5X),(124,a1S),(128,a9h),(149,b4k),(150,b3P),(151,a9f),(152,a1x),(153,b7c)] [(7,.pair (.int .i64) Q36)] [0,1,5,6,8,9,10,11,12] []) H73 Tryz.f73 [.r false (.b Q12),.v (.int .i64)] [.v Q39,.v (.int .i64)] x
def b9D:FSem:=⟨[.r false (.b Q12),.v QI],[.v Q39,.v QI],c9A⟩
def H75:Hints:=⟨[(58,[.sv 2 QI,.sv 3 QI,.box pinned Q12,.ptr 0 pinned []],[(.exit 0,[.sv 2 QI,.box pinned Q12,.ptr 0 pinned []]),(.ret,[.box pinned Q12])])],[],[]⟩
def b9m(x:Z17):Option Z17:=z0c (a1O [(154,a2n)] [] [0,2,3] []) H75 Tryz.f75 [.r false (.b Q12)] [] x
def a8H:FSem:=⟨[.r false (.b Q12)],[],b9m⟩
def H21:Hints:=⟨[(2042,[.sv 9 QI,.sv 59 QI,.sv 60 QI,.box 2 Q57,.box 5 Q56,.box 1056 Q12,.ptr 2 2 [],.ptr 5 5 [],.ptr 10 1056 []],[(.exit 0,[.sv 9 QI,.box 2 Q57,.box 5 Q56,.box 1056 Q12,.ptr 2 2 [],.ptr 5 5 [],.ptr 10 1056 []]),(.ret,[.sv 3 QI,.sv 4 QI,.box 2 Q57,.ptr 2 2 []])])],[],[(7,[.v,.v,.v,.v,.v,.v,.v,.v,.v,.v,.v,.v,.v,.v,.v,.v,.v,.x])]⟩
def b9E(x:(List Int)):Option (a7C×Int×Int):=z0c (a1O [(61,b0R),(67,a7i),(71,a8P),(72,b7W),(73,b9D),(74,a4f),(75,a8H),(76,a1e)] [(5,.pair (.int .i64) Q53)] [0,3,4,6,7,8,9,10,12] []) H21 Tryz.f21 [.v (.list false (.int .u8))] [.v Q57,.v (.int .i64),.v (.int .i64)] x
def b1Y:FSem:=⟨[.v (.list false (.int .u8))],[.v Q57,.v QI,.v QI],b9E⟩
def a6k(s:(Z18×Z18×Int×Unit)):Option ((Z18×Z18×Int×Unit) ⊕ Z0):= cond (decide (s.2.2.1<(s.1.length:Int))) ((l0z s.1 s.2.2.1).bind fun x1=> (l0z s.2.1 s.2.2.1).bind fun x2=> cond (!(eqT Q9 x1 x2)) (some (.inr (Sum.inr ((false,()))))) (some (.inl (s.1,s.2.1,wrap .i64 (s.2.2.1+1),())))) (some (.inr (Sum.inl ())))
def a8Q(x:(Z18×Z18)):Option Bool:= cond ((x.1.length:Int) != (x.2.length:Int)) (some false) ((x0r a6k (x.1,x.2,0,())).bind fun w3=> match w3 with |.inl a4=>some true |.inr b5=>some b5.1)
def b6b:FSem:=⟨[.v (.list false Q9),.v (.list false Q9)],[.v .bool],a8Q⟩
def H82:Hints:=⟨[(58,[.sv 0 (.list false Q9),.sv 1 (.list false Q9),.sv 5 QI],[(.exit 0,[]),(.ret,[.sv 4 .bool])])],[],[(6,[.v,.v,.v,.v,.v,.v,.v,.v,.x])]⟩
def a5A(s:Z35):Option (Z35 ⊕ Z0):= cond (decide (s.2.2.1<(s.1.length:Int))) ((l0z s.1 s.2.2.1).bind fun x1=> (l0z s.2.1 s.2.2.1).bind fun x2=> cond (x1 != x2) (some (.inr (Sum.inr ((false,()))))) (some (.inl (s.1,s.2.1,wrap .i64 (s.2.2.1+1),())))) (some (.inr (Sum.inl ())))
def a4E(x:((List Int)×(List Int))):Option Bool:= cond ((x.1.length:Int) != (x.2.length:Int)) (some false) ((x0r a5A (x.1,x.2,0,())).bind fun w3=> match w3 with |.inl a4=>some true |.inr b5=>some b5.1)
def a8k:FSem:=⟨[.v QL,.v QL],[.v .bool],a4E⟩
def H35:Hints:=⟨[(58,[.sv 0 QL,.sv 1 QL,.sv 5 QI],[(.exit 0,[]),(.ret,[.sv 4 .bool])])],[],[(6,[.v,.v,.v,.v,.v,.v,.v,.v,.x])]⟩
def a3N(s:(Z6×Z45)):Option ((Z6×Z45) ⊕ Z0):= cond (decide (s.2.2.1<(s.1.length:Int))) ((l0z s.1 s.2.2.1).bind fun x1=> (l0z s.2.1 s.2.2.1).bind fun x2=> cond (!(eqT Q4 x1 x2)) (some (.inr (Sum.inr ((false,()))))) (some (.inl (s.1,s.2.1,wrap .i64 (s.2.2.1+1),())))) (some (.inr (Sum.inl ())))
def a7J(x:(Z6×Z6)):Option Bool:= cond ((x.1.length:Int) != (x.2.length:Int)) (some false) ((x0r a3N (x.1,x.2,0,())).bind fun w3=> match w3 with |.inl a4=>some true |.inr b5=>some b5.1)
def b5k:FSem:=⟨[.v (.list false Q4),.v (.list false Q4)],[.v .bool],a7J⟩
def d8Y:Hints:=⟨[(58,[.sv 0 (.list false Q4),.sv 1 (.list false Q4),.sv 5 QI],[(.exit 0,[]),(.ret,[.sv 4 .bool])])],[],[(6,[.v,.v,.v,.v,.v,.v,.v,.v,.x])]⟩
def b2R(x:(Z4×Z4)):Option Bool:= cond (x.1.1==x.2.1) ((a4E (x.1.2.1,x.2.2.1)).bind fun y1=> some y1) (some false)
def b7t:FSem:=⟨[.v Q8,.v Q8],[.v .bool],b2R⟩
def d8Z:Hints:=⟨[],[],[]⟩
def a8l(x:(a1w×a1w)):Option Bool:= cond (x.1.1==x.2.1) (cond (x.1.2.1==x.2.2.1) (cond (x.1.2.2.1==x.2.2.2.1) (cond (x.1.2.2.2.1==x.2.2.2.2.1) (cond (x.1.2.2.2.2.1==x.2.2.2.2.2.1) ((a4E (x.1.2.2.2.2.2.1,x.2.2.2.2.2.2.1)).bind fun y1=> cond y1 (cond (eqT (.arr 3 (.int .i64)) x.1.2.2.2.2.2.2.1 x.2.2.2.2.2.2.2.1) ((a7J (x.1.2.2.2.2.2.2.2.1,x.2.2.2.2.2.2.2.2.1)).bind fun y2=> cond y2 ((a4E (x.1.2.2.2.2.2.2.2.2.1,x.2.2.2.2.2.2.2.2.2.1)).bind fun y3=> cond y3 ((b2R (x.1.2.2.2.2.2.2.2.2.2.1,x.2.2.2.2.2.2.2.2.2.2.1)).bind fun y4=> cond y4 ((a4E (x.1.2.2.2.2.2.2.2.2.2.2.1,x.2.2.2.2.2.2.2.2.2.2.2.1)).bind fun y5=> some y5) (some false)) (some false)) (some false)) (some false)) (some false)) (some false)) (some false)) (some false)) (some false)) (some false)
def b4m:FSem:=⟨[.v Q39,.v Q39],[.v .bool],a8l⟩
def H83:Hints:=⟨[],[],[]⟩
def a6l(s:c3T):Option (c3T ⊕ Z0):= cond (decide (s.1<(s.2.1.2.2.2.2.1.length:Int))) ((l0z s.2.1.2.2.2.2.1 s.1).bind fun x3=> (l0z s.2.2.1.2.2.2.2.1 s.1).bind fun x4=> (a8l (x3,x4)).bind fun y5=> cond (!y5) (some (.inr (Sum.inr ((false,()))))) (some (.inl (wrap .i64 (s.1+1),s.2.1,s.2.2.1,())))) (some (.inr (Sum.inl ())))
def a6m(x:(a7C×a7C)):Option Bool:= (show Option (Bool×c8c)from cond (x.1.1 != x.2.1) (some (true,x.1,x.2,())) (cond (x.1.2.1 != x.2.2.1) (some (true,x.1,x.2,())) (cond (!(eqT Q9 x.1.2.2.1 x.2.2.2.1)) (some (true,x.1,x.2,())) ((a8Q (x.1.2.2.2.1,x.2.2.2.2.1)).bind fun y1=> cond (!y1) (some (true,x.1,x.2,())) (some ((x.1.2.2.2.2.1.length:Int) != (x.2.2.2.2.2.1.length:Int),x.1,x.2,())))))).bind fun z2=> cond z2.1 (some false) ((x0r a6l (0,z2.2.1,z2.2.2.1,())).bind fun w6=> match w6 with |.inl a7=>some true |.inr b8=>some b8.1)
def b1Z:FSem:=⟨[.v Q57,.v Q57],[.v .bool],a6m⟩
def H24:Hints:=⟨[(58,[.sv 5 QI,.vp 2 Q57,.vp 3 Q57],[(.exit 0,[]),(.ret,[.sv 4 .bool])])],[(6,[(.normal,[.sv 41 .bool,.vp 2 Q57,.vp 3 Q57])])],[(6,[.v,.v,.v,.v,.v,.v,.v,.v,.v,.v,.x,.x])]⟩
def b9F(x:(List Int)):Option (Z7×Int×Int×Int):= (b6a x).bind fun y1=> cond (y1.2.2.2 != 0) (some ((0,0,0,()),0,0,y1.2.2.2)) (some (y1.1.2.2.1,y1.1.1,y1.1.2.1,0))
def b9G:FSem:=⟨[.v (.list false (.int .u8))],[.v Q9,.v QI,.v QI,.v QI],b9F⟩
def H51:Hints:=⟨[],[],[(4,[.q,.q,.r [6,23],.r [6,24],.r [6,25],.r [6,26],.w [0,2],.v,.x,.x])]⟩
def d3A:Hints:=⟨[(58,[.sv 0 (.list false QL),.sv 1 (.list false QL),.sv 5 QI],[(.exit 0,[]),(.ret,[.sv 4 .bool])])],[],[(6,[.v,.v,.v,.v,.v,.v,.v,.v,.x,.x])]⟩
def b7u(x:((List (List Int))×(List (List Int)))):Option Bool:=z0c (a1O [(35,a8k)] [] [0,1,4,5] []) d3A Tryz.f108 [.v (.list false (.list false (.int .i64))),.v (.list false (.list false (.int .i64)))] [.v .bool] x
def b7v:FSem:=⟨[.v (.list false QL),.v (.list false QL)],[.v .bool],b7u⟩
def b6c(x:(Z14×Z14)):Option Bool:= cond (x.1.1==x.2.1) ((b7u (x.1.2.1,x.2.2.1)).bind fun y1=> some y1) (some false)
def b6d:FSem:=⟨[.v Q11,.v Q11],[.v .bool],b6c⟩
def H52:Hints:=⟨[],[],[]⟩
def H53:Hints:=⟨[(26,[.sv 0 (.list false (.int .u8)),.sv 5 QI],[(.exit 0,[]),(.ret,[.sv 4 QI])])],[],[]⟩
def b9H(x:((List Int)×Int)):Option Int:=z0c (a1O [(21,b1Y)] [] [0,1,4,5,7,8] []) H53 Tryz.f53 [.v (.list false (.int .u8)),.v (.int .i64)] [.v (.int .i64)] x
def b9I:FSem:=⟨[.v (.list false (.int .u8)),.v QI],[.v QI],b9H⟩
def b7d(x:Unit):Option Bool:= (a2m ((8,([[3,3],[3,3]]:List (List Int)),()),(8000,2,8,()),5,0)).bind fun y1=> (c1A y1.1).bind fun y2=> (b9E y2.1).bind fun y3=> (b4h y3.1).bind fun y4=> (b9F y2.1).bind fun y5=> cond (y1.2==0) (cond (y2.2==0) (cond (y3.2.2==0) (cond (y4.2==0) (cond (y5.2.2.2==0) (cond (y3.2.1==(y2.1.length:Int)) ((a6m (y1.1,y3.1)).bind fun y6=> cond y6 ((b6c ((8,([[3,3],[3,3]]:List (List Int)),()),y4.1)).bind fun y7=> cond y7 (cond (eqT Q9 y5.1 ((8000: Int),(2: Int),(8: Int),())) (cond (y5.2.1==5) (cond (y5.2.2.1==2) (cond (lim (2+(a03 y2.1))) ((b9H (a04 [1,245] y2.1,0)).bind fun y8=> cond (y8==2) (cond (decide ((y2.1.length:Int) > 2)) ((l0z y2.1 0).bind fun x9=> cond (x9==245) ((l0z y2.1 1).bind fun x10=> some (x10==75)) (some false)) (some false)) (some false)) none) (some false)) (some false)) (some false)) (some false)) (some false)) (some false)) (some false)) (some false)) (some false)) (some false)) (some false)
def c1C:FSem:=⟨[],[.v .bool],b7d⟩
def H15:Hints:=⟨[],[],[]⟩
def a8m(s:Z74):Option (Z74 ⊕ Z0):= cond (decide (s.2.1<(s.2.2.1.2.1.length:Int))) ((l0z s.2.2.1.2.1 s.2.1).bind fun x1=> cond (decide ((x1.length:Int) > s.1)) (some (.inr (Sum.inr ((false,()))))) (some (.inl (s.1,wrap .i64 (s.2.1+1),s.2.2.1,())))) (some (.inr (Sum.inl ())))
def b4N(x:(Z14×Int)):Option Bool:= cond (decide ((x.1.2.1.length:Int) > 12)) (some false) ((x0r a8m (x.2,0,x.1,())).bind fun w2=> match w2 with |.inl a3=>some true |.inr b4=>some b4.1)
def c2I:FSem:=⟨[.v Q11,.v QI],[.v .bool],b4N⟩
def H16:Hints:=⟨[(58,[.sv 1 QI,.sv 5 QI,.vp 2 Q11],[(.exit 0,[]),(.ret,[.sv 4 .bool])])],[],[]⟩
def a7j(s:Z15):Option (Z15 ⊕ Z0):= cond (decide (s.2.1<(s.1.length:Int))) ((l0z s.1 s.2.1).bind fun x2=> (l0z s.1 0).bind fun x3=> cond ((x2.length:Int) != (x3.length:Int)) (some (.inr (Sum.inr ((false,()))))) (some (.inl (s.1,wrap .i64 (s.2.1+1),())))) (some (.inr (Sum.inl ())))
def b0S(x:(List (List Int))):Option Bool:= (show Option ((List (List Int))×(Bool×Unit))from cond (decide ((x.length:Int)<1)) (some (x,true,())) (some (x,decide ((x.length:Int) > 8),()))).bind fun z1=> cond z1.2.1 (some false) ((x0r a7j (z1.1,0,())).bind fun w4=> match w4 with |.inl a5=>some true |.inr b6=>some b6.1)
def b7e:FSem:=⟨[.v (.list false QL)],[.v .bool],b0S⟩
def H54:Hints:=⟨[(58,[.sv 0 (.list false QL),.sv 3 QI],[(.exit 0,[]),(.ret,[.sv 2 .bool])])],[(6,[(.normal,[.sv 0 (.list false QL),.sv 11 .bool])])],[(6,[.v,.v,.v,.v,.v,.v,.v,.v,.v,.x])]⟩
def c2a(x:Int):Option Int:= (show Option (Int×Bool×Unit)from cond (decide (x<1)) (some (x,true,())) (some (x,decide (x > 31),()))).bind fun z1=> cond z1.2.1 (some 0) (cond (decide ((wrap .u64 (wrap .i64 (z1.1-1)))<0)) none (some (z0g .i64 (-1) (wrap .u64 (wrap .i64 (z1.1-1))))))
def c5O:FSem:=⟨[.v QI],[.v QI],c2a⟩
def d9a:Hints:=⟨[],[(6,[(.normal,[.sv 0 QI,.sv 8 .bool])])],[]⟩
def b9J(x:Int):Option Int:= (show Option (Int×Bool×Unit)from cond (decide (x<1)) (some (x,true,())) (some (x,decide (x > 31),()))).bind fun z1=> cond z1.2.1 (some 0) (cond (decide ((wrap .u64 (wrap .i64 (z1.1-1)))<0)) none (some (wrap .i64 ((z0g .i64 1 (wrap .u64 (wrap .i64 (z1.1-1))))-1))))
def c4A:FSem:=⟨[.v QI],[.v QI],b9J⟩
def d9b:Hints:=⟨[],[(6,[(.normal,[.sv 0 QI,.sv 8 .bool])])],[]⟩
def a7z(x:(Int×Int)):Option Bool:= cond (decide (x.2≥1)) (cond (decide (x.2≤31)) ((c2a x.2).bind fun y1=> cond (decide (x.1≥y1)) ((b9J x.2).bind fun y2=> some (decide (x.1≤y2))) (some false)) (some false)) (some false)
def b6e:FSem:=⟨[.v QI,.v QI],[.v .bool],a7z⟩
def H55:Hints:=⟨[],[],[]⟩
def a3A(s:Z74):Option (Z74 ⊕ (Z56 ⊕ (Bool×Unit))):= (l0z s.2.2.1.2.1 s.1).bind fun x5=> cond (decide (s.2.1<(x5.length:Int))) ((l0z s.2.2.1.2.1 s.1).bind fun x6=> (l0z x6 s.2.1).bind fun x7=> (a7z (x7,s.2.2.1.1)).bind fun y8=> cond (!y8) (some (.inr (Sum.inr ((false,()))))) (some (.inl (s.1,wrap .i64 (s.2.1+1),s.2.2.1,())))) (some (.inr (Sum.inl (s.1,s.2.2.1,()))))
def a4M(s:Z56):Option (Z56 ⊕ Z0):= cond (decide (s.1<(s.2.1.2.1.length:Int))) ((x0r a3A (s.1,0,s.2.1,())).bind fun w9=> match w9 with |.inl a10=>some (.inl (wrap .i64 (a10.1+1),a10.2.1,())) |.inr b11=>some (.inr (Sum.inr ((b11.1,()))))) (some (.inr (Sum.inl ())))
def a7k(x:Z14):Option Bool:= (show Option (Bool×Z36)from cond (decide (x.1<4)) (some (true,x,())) (cond (decide (x.1 > 24)) (some (true,x,())) ((b0S x.2.1).bind fun y1=> cond (!y1) (some (true,x,())) ((l0z x.2.1 0).bind fun x2=> cond (decide ((x2.length:Int)<1)) (some (true,x,())) ((l0z x.2.1 0).bind fun x3=> some (decide ((x3.length:Int) > 4096),x,())))))).bind fun z4=> cond z4.1 (some false) ((x0r a4M (0,z4.2.1,())).bind fun w12=> match w12 with |.inl a13=>some true |.inr b14=>some b14.1)
def b2S:FSem:=⟨[.v Q11],[.v .bool],a7k⟩
def H17:Hints:=⟨[(58,[.sv 3 QI,.vp 1 Q11],[(.exit 0,[]),(.ret,[.sv 2 .bool])]),(3730,[.sv 3 QI,.sv 4 QI,.vp 1 Q11],[(.exit 2,[.sv 3 QI,.vp 1 Q11]),(.ret,[.sv 2 .bool])])],[(6,[(.normal,[.sv 34 .bool,.vp 1 Q11])])],[(9,[.v,.v,.v,.v,.v,.v,.v,.v,.v,.v,.x,.x])]⟩
def b3u(x:Z7):Option Bool:= cond (decide (x.1≥1)) (cond (decide (x.1≤1048576)) (cond (decide (x.2.1≥1)) (cond (decide (x.2.1≤8)) (cond (decide (x.2.2.1≥4)) (some (decide (x.2.2.1≤24))) (some false)) (some false)) (some false)) (some false)) (some false)
def c1D:FSem:=⟨[.v Q9],[.v .bool],b3u⟩
def H77:Hints:=⟨[],[],[]⟩
def a7l(x:Z14):Option Int:= cond ((x.2.1.length:Int)==0) (some 0) ((l0z x.2.1 0).bind fun x1=> some (x1.length:Int))
def b7w:FSem:=⟨[.v Q11],[.v QI],a7l⟩
def H78:Hints:=⟨[],[],[]⟩
def a2A(x:Int):Option Bool:= cond (decide (x≥(-1073741824))) (some (decide (x<1073741824))) (some false)
def a4g:FSem:=⟨[.v QI],[.v .bool],a2A⟩
def d9c:Hints:=⟨[],[],[]⟩
def a6n(s:Z5):Option (Z5 ⊕ Z0):= cond (decide (s.2.1<(s.1.length:Int))) ((l0z s.1 s.2.1).bind fun x1=> (a2A x1).bind fun y2=> cond (!y2) (some (.inr (Sum.inr ((false,()))))) (some (.inl (s.1,wrap .i64 (s.2.1+1),())))) (some (.inr (Sum.inl ())))
def a0Q(x:(List Int)):Option Bool:= (x0r a6n (x,0,())).bind fun w3=> match w3 with |.inl a4=>some true |.inr b5=>some b5.1
def a1b:FSem:=⟨[.v QL],[.v .bool],a0Q⟩
def d9d:Hints:=⟨[(26,[.sv 0 QL,.sv 3 QI],[(.exit 0,[]),(.ret,[.sv 2 .bool])])],[],[]⟩
def a5B(s:Z79):Option (Z79 ⊕ Z0):= cond (decide (s.2.2.1<(s.1.length:Int))) ((l0z s.1 s.2.2.1).bind fun x2=> (show Option (Z18×Z11)from cond (decide (x2.1<0)) (some (s.1,s.2.1,s.2.2.1,true,())) (cond (decide (x2.1≥s.2.1)) (some (s.1,s.2.1,s.2.2.1,true,())) (cond (decide (x2.2.1<0)) (some (s.1,s.2.1,s.2.2.1,true,())) (cond (decide (x2.2.1≥s.2.1)) (some (s.1,s.2.1,s.2.2.1,true,())) (cond (x2.1==x2.2.1) (some (s.1,s.2.1,s.2.2.1,true,())) (cond (decide (x2.2.2.1<(-1024))) (some (s.1,s.2.1,s.2.2.1,true,())) (some (s.1,s.2.1,s.2.2.1,decide (x2.2.2.1 > 1024),())))))))).bind fun z3=> cond z3.2.2.2.1 (some (.inr (Sum.inr ((false,()))))) (some (.inl (z3.1,z3.2.1,wrap .i64 (z3.2.2.1+1),())))) (some (.inr (Sum.inl ())))
def b1b(x:(Z18×Int)):Option Bool:= (show Option (Z18×Int×Bool×Unit)from cond (decide (x.2<1)) (some (x.1,x.2,true,())) (cond (decide (x.2 > 8)) (some (x.1,x.2,true,())) (some (x.1,x.2,decide ((x.1.length:Int) > 16),())))).bind fun z1=> cond z1.2.2.1 (some false) ((x0r a5B (z1.1,z1.2.1,0,())).bind fun w4=> match w4 with |.inl a5=>some true |.inr b6=>some b6.1)
def b8Q:FSem:=⟨[.v (.list false Q9),.v QI],[.v .bool],b1b⟩
def d9e:Hints:=⟨[(58,[.sv 0 (.list false Q9),.sv 1 QI,.sv 5 QI],[(.exit 0,[]),(.ret,[.sv 4 .bool])])],[(6,[(.normal,[.sv 0 (.list false Q9),.sv 1 QI,.sv 17 .bool])]),(1865,[(.normal,[.sv 0 (.list false Q9),.sv 1 QI,.sv 5 QI,.sv 64 .bool])])],[]⟩
def a8n(s:Z15):Option (Z15 ⊕ Z0):= cond (decide (s.2.1<(s.1.length:Int))) ((l0z s.1 s.2.1).bind fun x5=> (a0Q x5).bind fun y6=> cond (!y6) (some (.inr (Sum.inr ((false,()))))) (some (.inl (s.1,wrap .i64 (s.2.1+1),())))) (some (.inr (Sum.inl ())))
def b2a(x:Z67):Option Bool:= (show Option ((List (List Int))×(Bool×Unit))from(b0S x.1).bind fun y1=> cond (!y1) (some (x.1,true,())) ((l0z x.1 0).bind fun x2=> cond (decide ((x2.length:Int) > 4096)) (some (x.1,true,())) ((b1b (x.2,(x.1.length:Int))).bind fun y3=> some (x.1,!y3,())))).bind fun z4=> cond z4.2.1 (some false) ((x0r a8n (z4.1,0,())).bind fun w7=> match w7 with |.inl a8=>some true |.inr b9=>some b9.1)
def b8a:FSem:=⟨[.v (.list false QL),.v (.list false Q9)],[.v .bool],b2a⟩
def d9f:Hints:=⟨[(58,[.sv 0 (.list false QL),.sv 5 QI],[(.exit 0,[]),(.ret,[.sv 4 .bool])])],[(6,[(.normal,[.sv 0 (.list false QL),.sv 22 .bool])])],[]⟩
def a8R(s:Z66):Option (Z66 ⊕ Z1):= cond (decide (s.2.1<(s.1.length:Int))) ((l0z s.1 s.2.1).bind fun x1=> cond (lim (0+(a03 x1))) (cond (lim ((a03 s.2.2.1)+(a03 (a06 ([[]]:List (List Int)) 0 (a04 [] x1))))) (some (.inl (s.1,wrap .i64 (s.2.1+1),a04 s.2.2.1 (a06 ([[]]:List (List Int)) 0 (a04 [] x1)),()))) none) none) (some (.inr (s.2.2.1,())))
def b2b(x:(List (List Int))):Option (List (List Int)):= (x0r a8R (x,0,([]:(List (List Int))),())).bind fun w2=> some w2.1
def b9K:FSem:=⟨[.v (.list false QL)],[.o (.list true QI)],b2b⟩
def d9g:Hints:=⟨[(58,[.sv 0 (.list false QL),.sv 4 QI,.own 3 3 (.list true QI)],[(.exit 0,[.own 3 3 (.list true QI)])])],[],[]⟩
def a7m(s:(Int×(Int×((List (List Int))×Z28)))):Option ((Int×(Int×((List (List Int))×Z28))) ⊕ (Z1 ⊕ (Bool×Z1))):= cond (decide (0<(s.2.2.1.length:Int))) (cond (decide (s.2.1<((a03 (a02 s.2.2.1 0 []):Nat):Int))) (cond ((decide (0≤s.2.2.2.1.2.1))&&(decide (s.2.2.2.1.2.1<(s.2.2.1.length:Int)))) (cond ((decide (0≤s.2.2.2.1.2.1))&&(decide (s.2.2.2.1.2.1<(s.2.2.1.length:Int)))) (cond ((decide (0≤s.2.1))&&(decide (s.2.1<((a03 (a02 s.2.2.1 (a00 s.2.2.2.1.2.1) []):Nat):Int)))) (cond ((decide (0≤s.2.2.2.1.1))&&(decide (s.2.2.2.1.1<(s.2.2.1.length:Int)))) (cond ((decide (0≤s.2.1))&&(decide (s.2.1<((a03 (a02 s.2.2.1 (a00 s.2.2.2.1.1) []):Nat):Int)))) (cond ((decide (0≤s.2.1))&&(decide (s.2.1<((a03 (a02 s.2.2.1 (a00 s.2.2.2.1.2.1) []):Nat):Int)))) (cond ((decide (0≤s.2.2.2.1.2.1))&&(decide (s.2.2.2.1.2.1<((a03 (a06 s.2.2.1 (a00 s.2.2.2.1.2.1) (a06 (a02 s.2.2.1 (a00 s.2.2.2.1.2.1) []) (a00 s.2.1) (wrap .i64 ((a02 (a02 s.2.2.1 (a00 s.2.2.2.1.2.1) []) (a00 s.2.1) 0)+(wrap .i64 (s.1*(z0h .i64 (wrap .i64 (s.2.2.2.1.2.2.1*(a02 (a02 s.2.2.1 (a00 s.2.2.2.1.1) []) (a00 s.2.1) 0))) 8))))))):Nat):Int)))) (cond ((decide (0≤s.2.1))&&(decide (s.2.1<((a03 (a02 (a06 s.2.2.1 (a00 s.2.2.2.1.2.1) (a06 (a02 s.2.2.1 (a00 s.2.2.2.1.2.1) []) (a00 s.2.1) (wrap .i64 ((a02 (a02 s.2.2.1 (a00 s.2.2.2.1.2.1) []) (a00 s.2.1) 0)+(wrap .i64 (s.1*(z0h .i64 (wrap .i64 (s.2.2.2.1.2.2.1*(a02 (a02 s.2.2.1 (a00 s.2.2.2.1.1) []) (a00 s.2.1) 0))) 8))))))) (a00 s.2.2.2.1.2.1) []):Nat):Int)))) ((a2A (a02 (a02 (a06 s.2.2.1 (a00 s.2.2.2.1.2.1) (a06 (a02 s.2.2.1 (a00 s.2.2.2.1.2.1) []) (a00 s.2.1) (wrap .i64 ((a02 (a02 s.2.2.1 (a00 s.2.2.2.1.2.1) []) (a00 s.2.1) 0)+(wrap .i64 (s.1*(z0h .i64 (wrap .i64 (s.2.2.2.1.2.2.1*(a02 (a02 s.2.2.1 (a00 s.2.2.2.1.1) []) (a00 s.2.1) 0))) 8))))))) (a00 s.2.2.2.1.2.1) []) (a00 s.2.1) 0)).bind fun y1=> cond (!y1) (some (.inr (Sum.inr ((false,a06 s.2.2.1 (a00 s.2.2.2.1.2.1) (a06 (a02 s.2.2.1 (a00 s.2.2.2.1.2.1) []) (a00 s.2.1) (wrap .i64 ((a02 (a02 s.2.2.1 (a00 s.2.2.2.1.2.1) []) (a00 s.2.1) 0)+(wrap .i64 (s.1*(z0h .i64 (wrap .i64 (s.2.2.2.1.2.2.1*(a02 (a02 s.2.2.1 (a00 s.2.2.2.1.1) []) (a00 s.2.1) 0))) 8)))))),()))))) (some (.inl (s.1,wrap .i64 (s.2.1+1),a06 s.2.2.1 (a00 s.2.2.2.1.2.1) (a06 (a02 s.2.2.1 (a00 s.2.2.2.1.2.1) []) (a00 s.2.1) (wrap .i64 ((a02 (a02 s.2.2.1 (a00 s.2.2.2.1.2.1) []) (a00 s.2.1) 0)+(wrap .i64 (s.1*(z0h .i64 (wrap .i64 (s.2.2.2.1.2.2.1*(a02 (a02 s.2.2.1 (a00 s.2.2.2.1.1) []) (a00 s.2.1) 0))) 8)))))),s.2.2.2.1,())))) none) none) none) none) none) none) none) none) (some (.inr (Sum.inl (s.2.2.1,()))))) none
def b6f(x:((List (List Int))×(Z7×Int))):Option (Bool×(List (List Int))):= (x0r a7m (x.2.2,0,x.1,x.2.1,())).bind fun w2=> match w2 with |.inl a3=>some (true,a3.1) |.inr b4=>some (b4.1,b4.2.1)
def c4B:FSem:=⟨[.r false (.o (.list true QI)),.v Q9,.v QI],[.v .bool],b6f⟩
def d9h:Hints:=⟨[(26,[.sv 2 QI,.sv 7 QI,.own 0 pinned (.list true QI),.vp 4 Q9],[(.exit 0,[.own 0 pinned (.list true QI)]),(.ret,[.sv 6 .bool,.own 0 pinned (.list true QI)])])],[],[(4,[.q,.v,.v,.q,.q,.v,.q,.v,.v,.q,.q,.v,.q,.q,.v,.v,.v,.q,.v,.v,.q,.q,.v,.q,.q,.v,.v,.v,.v,.x,.x])]⟩
def a6o(s:(Z18×Z14)):Option ((Z18×Z14) ⊕ (Z1 ⊕ Z15)):= cond (decide (s.2.1<(s.1.length:Int))) ((l0z s.1 s.2.1).bind fun x3=> (b6f (s.2.2.1,x3,1)).bind fun y4=> cond (!y4.1) (some (.inr (Sum.inr ((([]:(List (List Int))),6,()))))) (some (.inl (s.1,wrap .i64 (s.2.1+1),y4.2,())))) (some (.inr (Sum.inl (s.2.2.1,()))))
def a7n(x:Z67):Option ((List (List Int))×Int):= (b2a (x.1,x.2)).bind fun y1=> cond (!y1) (some (([]:(List (List Int))),1)) ((b2b x.1).bind fun y2=> (x0r a6o (x.2,0,y2,())).bind fun w5=> match w5 with |.inl a6=>some (a6.1,0) |.inr b7=>some (b7.1,b7.2.1))
def b5l:FSem:=⟨[.v (.list false QL),.v (.list false Q9)],[.v (.list false QL),.v QI],a7n⟩
def H80:Hints:=⟨[(122,[.sv 1 (.list false Q9),.sv 7 QI,.own 6 6 (.list true QI)],[(.exit 0,[.own 6 6 (.list true QI)]),(.ret,[.sv 4 (.list false QL),.sv 5 QI])])],[],[]⟩
def b1C(x:Int):Option Int:= some (u0z x (wrap .i64 (0-x)))
def b6g:FSem:=⟨[.v QI],[.v QI],b1C⟩
def d9i:Hints:=⟨[],[],[]⟩
def a5K(s:Z51):Option (Z51 ⊕ Z30):= (l0z s.1 s.2.2.1).bind fun x2=> cond (decide (s.2.2.2.1<(x2.length:Int))) ((l0z s.1 s.2.2.1).bind fun x3=> (l0z x3 s.2.2.2.1).bind fun x4=> (l0z s.1 s.2.2.1).bind fun x5=> (l0z x5 (wrap .i64 (s.2.2.2.1-1))).bind fun x6=> (l0z s.1 s.2.2.1).bind fun x7=> (l0z x7 (wrap .i64 (s.2.2.2.1-2))).bind fun x8=> (b1C (wrap .i64 ((wrap .i64 (x4-(wrap .i64 (2*x6))))+x8))).bind fun y9=> some (.inl (s.1,wrap .i64 (s.2.1+y9),s.2.2.1,wrap .i64 (s.2.2.2.1+1),()))) (some (.inr (s.1,s.2.1,s.2.2.1,())))
def a5L(s:Z30):Option (Z30 ⊕ (Int×Unit)):= cond (decide (s.2.2.1<(s.1.length:Int))) ((x0r a5K (s.1,s.2.1,s.2.2.1,2,())).bind fun w10=> some (.inl (w10.1,w10.2.1,wrap .i64 (w10.2.2.1+1),()))) (some (.inr (s.2.1,())))
def a5C(x:(List (List Int))):Option Int:= (b2a (x,[])).bind fun y1=> cond (!y1) (some 0) ((x0r a5L (x,0,0,())).bind fun w11=> some w11.1)
def b5m:FSem:=⟨[.v (.list false QL)],[.v QI],a5C⟩
def d9j:Hints:=⟨[(122,[.sv 0 (.list false QL),.sv 3 QI,.sv 4 QI],[(.exit 0,[.sv 3 QI])]),(7826,[.sv 0 (.list false QL),.sv 3 QI,.sv 4 QI,.sv 5 QI],[(.exit 2,[.sv 0 (.list false QL),.sv 3 QI,.sv 4 QI])])],[],[(10,[.v,.v,.v,.v,.v,.v,.v,.v,.v,.v,.v,.v,.v,.v,.v,.v,.v,.v,.v,.v,.v,.v,.v,.v,.v,.v,.v,.v,.x,.x])]⟩
def a8S(x:Int):Option Z18:= cond (x==1) (some ([(0,1,(-256),())]:List Z7)) (cond (x==2) (some ([(1,0,(-256),())]:List Z7)) (cond (x==3) (some ([(1,0,(-256),()),(0,1,128,())]:List Z7)) (cond (x==4) (some ([(1,0,(-106),()),(0,1,181,()),(1,0,(-106),())]:List Z7)) (some []))))
def b6h:FSem:=⟨[.v QI],[.o Q9],a8S⟩
def d9k:Hints:=⟨[],[],[]⟩
def a6U(s:(Int×((List (List Int))×(Int×Int×b7V)))):Option ((Int×((List (List Int))×(Int×Int×b7V))) ⊕ (Int×b7V)):= cond (decide (s.2.2.2.2.1<5)) ((a8S s.2.2.2.2.1).bind fun y3=> (a7n (s.2.1,y3)).bind fun y4=> (a5C y4.1).bind fun y5=> cond (decide (y5<s.2.2.2.1)) (some (.inl (s.1,s.2.1,s.2.2.2.2.1,y5,wrap .i64 (s.2.2.2.2.1+1),s.2.2.2.2.2.1,s.2.2.2.2.2.2.1,()))) (some (.inl (s.1,s.2.1,s.2.2.1,s.2.2.2.1,wrap .i64 (s.2.2.2.2.1+1),s.2.2.2.2.2.1,s.2.2.2.2.2.2.1,())))) (some (.inr (s.1,s.2.2.1,s.2.2.2.2.2.1,s.2.2.2.2.2.2.1,())))
def a4N(s:c7S):Option (c7S ⊕ b7V):= cond (decide (s.2.1<(s.2.2.2.1.length:Int))) (cond ((decide (0≤s.2.1))&&(decide (s.2.1<(s.2.2.2.1.length:Int)))) (cond ((decide (0≤s.2.1))&&(decide (s.2.1<(s.2.2.2.1.length:Int)))) (cond ((decide (0≤s.2.1))&&(decide (s.2.1<(s.2.2.2.1.length:Int)))) (cond (lim ((a03 s.2.2.1)+1)) (some (.inl (s.1,wrap .i64 (s.2.1+1),a04 s.2.2.1 ([(wrap .i64 (((a02 s.2.2.2.1 (a00 s.2.1) (0,0,0,())).1)+s.1),wrap .i64 ((((a02 s.2.2.2.1 (a00 s.2.1) (0,0,0,())).2).1)+s.1),(((a02 s.2.2.2.1 (a00 s.2.1) (0,0,0,())).2).2).1,())]:List Z7),s.2.2.2.1,s.2.2.2.2.1,()))) none) none) none) none) (some (.inr (s.1,s.2.2.1,s.2.2.2.2.1,())))
def a6V(s:b7V):Option (b7V ⊕ (Z18×Unit)):= cond (decide ((wrap .i64 (s.1+1))<(s.2.2.1.2.1.length:Int))) (cond ((decide (0≤(wrap .i64 (s.1+2))))&&(decide ((wrap .i64 (s.1+2))≤(s.2.2.1.2.1.length:Int)))) (cond ((decide (0≤s.1))&&(decide (s.1≤((a00 (wrap .i64 (s.1+2)):Nat):Int)))) ((a5C (a07 (a00 s.1) (a05 (a00 (wrap .i64 (s.1+2))) s.2.2.1.2.1))).bind fun y2=> (x0r a6U (s.1,a07 (a00 s.1) (a05 (a00 (wrap .i64 (s.1+2))) s.2.2.1.2.1),0,y2,1,s.2.1,s.2.2.1,())).bind fun w6=> (a8S w6.2.1).bind fun y7=> (x0r a4N (w6.1,0,w6.2.2.1,y7,w6.2.2.2.1,())).bind fun w8=> some (.inl (wrap .i64 (w8.1+2),w8.2.1,w8.2.2.1,()))) none) none) (some (.inr (s.2.1,())))
def a9G(x:Z14):Option Z18:= (a7k x).bind fun y1=> cond (!y1) (some []) ((x0r a6V (0,[],x,())).bind fun w9=> some w9.1)
def b7x:FSem:=⟨[.v Q11],[.o Q9],a9G⟩
def H79:Hints:=⟨[(122,[.sv 4 QI,.own 3 3 Q9,.vp 1 Q11],[(.exit 0,[.own 3 3 Q9])]),(62618,[.sv 4 QI,.sv 5 (.list false QL),.sv 6 QI,.sv 7 QI,.sv 8 QI,.own 3 3 Q9,.vp 1 Q11],[(.exit 2,[.sv 4 QI,.sv 6 QI,.own 3 3 Q9,.vp 1 Q11])]),(125246,[.sv 4 QI,.sv 13 QI,.own 3 3 Q9,.own 12 12 Q9,.vp 1 Q11],[(.exit 4,[.sv 4 QI,.own 3 3 Q9,.vp 1 Q11])])],[],[(20,[.q,.q,.v,.q,.q,.q,.v,.v,.q,.v,.q,.q,.q,.v,.v,.q,.v,.q,.q,.q,.v,.q,.x,.x])]⟩
def a9H(s:Z17):Option Z65:= cond (decide (s.2.2.1<(s.1.length:Int))) ((l0z s.1 s.2.2.1).bind fun x1=> some (.inl (s.1,bits .i64 .or s.2.1 x1,wrap .i64 (s.2.2.1+1),()))) (some (.inr (s.2.1,())))
def a5p(s:(Int×Int×Unit)):Option ((Int×Int×Unit) ⊕ (Int×Unit)):= cond (s.1 != 0) (cond (decide (s.2.1<30)) (cond (decide ((wrap .u64 s.2.1)<0)) none (cond ((bits .i64 .and (z0h .i64 s.1 (wrap .u64 s.2.1)) 1)==0) (some (.inl (s.1,wrap .i64 (s.2.1+1),()))) (some (.inr (s.2.1,()))))) (some (.inr (s.2.1,())))) (some (.inr (s.2.1,())))
def a6M(x:(List Int)):Option Int:= (x0r a9H (x,0,0,())).bind fun w2=> (x0r a5p (w2.1,0,())).bind fun w3=> some w3.1
def b3v:FSem:=⟨[.v QL],[.v QI],a6M⟩
def d9l:Hints:=⟨[(58,[.sv 0 QL,.sv 3 QI,.sv 4 QI],[(.exit 0,[.sv 3 QI])]),(124,[.sv 3 QI,.sv 5 QI],[(.exit 2,[.sv 5 QI])])],[],[]⟩
def d3B:Hints:=⟨[(26,[.sv 0 QL,.sv 3 QI],[(.exit 0,[]),(.ret,[.sv 2 .bool])])],[],[]⟩
def c4C(x:(List Int)):Option Bool:=z0c (a1O [] [] [0,2,3] []) d3B Tryz.f219 [.v (.list false (.int .i64))] [.v .bool] x
def c4D:FSem:=⟨[.v QL],[.v .bool],c4C⟩
def b2c(s:Z52):Option (Z52 ⊕ ((List Int)×Unit)):= cond (decide (s.2.2.1<(s.1.length:Int))) ((l0z s.1 s.2.2.1).bind fun x6=> cond (decide ((wrap .u64 s.2.1)<0)) none (cond (lim ((a03 s.2.2.2.1)+1)) (some (.inl (s.1,s.2.1,wrap .i64 (s.2.2.1+1),a04 s.2.2.2.1 [z0h .i64 x6 (wrap .u64 s.2.1)],()))) none)) (some (.inr (s.2.2.2.1,())))
def b3Q(x:((List Int)×Int)):Option ((List Int)×Int):= (show Option Z22 from cond (decide (x.2<0)) (some (x.1,x.2,true,())) (some (x.1,x.2,decide (x.2 > 30),()))).bind fun z1=> cond z1.2.2.1 (some ([],1)) ((show Option Z22 from(a0Q z1.1).bind fun y2=> cond (!y2) (some (z1.1,z1.2.1,true,())) ((a6M z1.1).bind fun y3=> cond (decide (y3<z1.2.1)) ((c4C z1.1).bind fun y4=> some (z1.1,z1.2.1,!y4,())) (some (z1.1,z1.2.1,false,())))).bind fun z5=> cond z5.2.2.1 (some ([],6)) ((x0r b2c (z5.1,z5.2.1,0,[],())).bind fun w7=> some (w7.1,0)))
def b9L:FSem:=⟨[.v QL,.v QI],[.o QI,.v QI],b3Q⟩
def d9m:Hints:=⟨[(250,[.sv 0 QL,.sv 1 QI,.sv 7 QI,.own 6 6 QI],[(.exit 0,[.own 6 6 QI])])],[(6,[(.normal,[.sv 0 QL,.sv 1 QI,.sv 13 .bool])]),(14,[(.normal,[.sv 0 QL,.sv 1 QI,.sv 27 .bool])])],[]⟩
def a4h(s:Z96):Option (Z96 ⊕ Z52):= cond (decide (s.2.2.2.2.1<(s.2.2.1.length:Int))) ((l0z s.2.2.1 s.2.2.2.2.1).bind fun x2=> (l0z s.2.2.1 (wrap .i64 (s.2.2.2.2.1-1))).bind fun x3=> cond (lim ((a03 s.2.2.2.2.2.1)+1)) (some (.inl (s.1,s.2.1,s.2.2.1,s.2.2.2.1,wrap .i64 (s.2.2.2.2.1+1),a04 s.2.2.2.2.2.1 [wrap .i64 (x2-x3)],()))) none) (some (.inr (s.1,s.2.1,s.2.2.2.1,s.2.2.2.2.2.1,())))
def a6p(s:((List Int)×Z20)):Option (((List Int)×Z20) ⊕ Z16):= cond (decide (s.2.2.2.1<s.2.1)) ((x0r a4h (s.1,s.2.1,s.2.2.1,s.2.2.2.1,1,[],())).bind fun w4=> some (.inl (w4.1,w4.2.1,w4.2.2.2.1,wrap .i64 (w4.2.2.1+1),()))) (some (.inr (s.1,s.2.2.1,())))
def a2B(x:((List Int)×Int)):Option ((List Int)×Int):= (show Option Z22 from cond (decide (x.2<0)) (some (x.1,x.2,true,())) (cond (decide (x.2 > 4)) (some (x.1,x.2,true,())) (some (x.1,x.2,decide ((x.1.length:Int)<x.2),())))).bind fun z1=> cond z1.2.2.1 (some ([],1)) (cond (lim (0+(a03 z1.1))) ((x0r a6p (z1.1,z1.2.1,a04 [] z1.1,0,())).bind fun w5=> (show Option Z9 from(a0Q w5.1).bind fun y6=> cond (!y6) (some (w5.2.1,true,())) ((a0Q w5.2.1).bind fun y7=> some (w5.2.1,!y7,()))).bind fun z8=> cond z8.2.1 (some ([],6)) (some (z8.1,0))) none)
def a8T:FSem:=⟨[.v QL,.v QI],[.v QL,.v QI],a2B⟩
def d9n:Hints:=⟨[(122,[.sv 0 QL,.sv 1 QI,.sv 6 QL,.sv 7 QI],[(.exit 0,[.sv 0 QL,.sv 6 QL])]),(31306,[.sv 0 QL,.sv 1 QI,.sv 6 QL,.sv 7 QI,.sv 9 QI,.own 8 8 QI],[(.exit 2,[.sv 0 QL,.sv 1 QI,.sv 7 QI,.own 8 8 QI])])],[(6,[(.normal,[.sv 0 QL,.sv 1 QI,.sv 21 .bool])]),(62,[(.normal,[.sv 6 QL,.sv 57 .bool])])],[(11,[.q,.q,.v,.q,.q,.q,.v,.v,.q,.q,.v,.q,.x,.x])]⟩
def a7o(s:Z17):Option Z65:= cond (decide (s.2.2.1<(s.1.length:Int))) ((l0z s.1 s.2.2.1).bind fun x1=> (b1C x1).bind fun y2=> some (.inl (s.1,wrap .i64 (s.2.1+y2),wrap .i64 (s.2.2.1+1),()))) (some (.inr (s.2.1,())))
def b3w(x:((List Int)×Int)):Option Int:= (x0r a7o (x.1,0,u0z x.2 0,())).bind fun w3=> some w3.1
def b3x:FSem:=⟨[.v QL,.v QI],[.v QI],b3w⟩
def d9o:Hints:=⟨[(58,[.sv 0 QL,.sv 5 QI,.sv 6 QI],[(.exit 0,[.sv 5 QI])])],[],[]⟩
def a6W(x:((List Int)×Int)):Option Int:= (a2B (x.1,x.2)).bind fun y1=> cond (y1.2 != 0) (some 0) ((b3w (y1.1,wrap .i64 (4-x.2))).bind fun y2=> some y2)
def b4y:FSem:=⟨[.v QL,.v QI],[.v QI],a6W⟩
def d9p:Hints:=⟨[],[],[]⟩
def a2Y(s:Z39):Option (Z39 ⊕ (Int×Unit)):= cond (decide (s.2.2.2.1<5)) ((a2B (s.1,s.2.2.2.1)).bind fun y1=> (a6W (s.1,s.2.2.2.1)).bind fun y2=> (show Option ((List Int)×Z47)from cond (y1.2==0) (cond (decide (s.2.1<0)) (some (s.1,s.2.1,s.2.2.1,s.2.2.2.1,y2,true,())) (some (s.1,s.2.1,s.2.2.1,s.2.2.2.1,y2,decide (y2<s.2.2.1),()))) (some (s.1,s.2.1,s.2.2.1,s.2.2.2.1,y2,false,()))).bind fun z3=> cond z3.2.2.2.2.2.1 (some (.inl (z3.1,z3.2.2.2.1,z3.2.2.2.2.1,wrap .i64 (z3.2.2.2.1+1),()))) (some (.inl (z3.1,z3.2.1,z3.2.2.1,wrap .i64 (z3.2.2.2.1+1),())))) (some (.inr (s.2.1,())))
def a6q(x:(List Int)):Option Int:= (x0r a2Y (x,(-1),0,0,())).bind fun w4=> some (u0z w4.1 0)
def b6i:FSem:=⟨[.v QL],[.v QI],a6q⟩
def d9q:Hints:=⟨[(58,[.sv 0 QL,.sv 3 QI,.sv 4 QI,.sv 5 QI],[(.exit 0,[.sv 3 QI])])],[(3731,[(.normal,[.sv 0 QL,.sv 3 QI,.sv 4 QI,.sv 5 QI,.sv 8 QI,.sv 32 .bool])])],[]⟩
def a9I(x:Int):Option Int:= some (v0a (u0z x (-1048576)) 1048575)
def b8b:FSem:=⟨[.v QI],[.v QI],a9I⟩
def d9r:Hints:=⟨[],[],[]⟩
def a4t(s:Z26):Option (Z26 ⊕ Z8):= cond (decide (s.2.1<(s.2.2.1.length:Int))) (cond s.1 (cond ((decide (0≤s.2.1))&&(decide (s.2.1<(s.2.2.1.length:Int)))) ((a9I (a02 s.2.2.1 (a00 s.2.1) 0)).bind fun y2=> cond ((decide (0≤s.2.1))&&(decide (s.2.1<(s.2.2.1.length:Int)))) (some (.inl (y2==(a02 s.2.2.1 (a00 s.2.1) 0),wrap .i64 (s.2.1+1),s.2.2.1,()))) none) none) (some (.inl (false,wrap .i64 (s.2.1+1),s.2.2.1,())))) (some (.inr (s.1,s.2.2.1,())))
def a6r(s:Z4):Option (Z4 ⊕ ((List Int)×Unit)):= cond (decide (s.1<(s.2.1.length:Int))) (cond ((decide (0≤s.1))&&(decide (s.1<(s.2.1.length:Int)))) (cond ((decide (0≤s.1))&&(decide (s.1<(s.2.1.length:Int)))) (some (.inl (wrap .i64 (s.1+1),a06 s.2.1 (a00 s.1) (z0h .i64 (a02 s.2.1 (a00 s.1) 0) 1),()))) none) none) (some (.inr (s.2.1,())))
end Go.Ab
namespace Go.Ab
open IntKind(wrap)
open Go.Proofs
set_option maxRecDepth 100000
set_option linter.unusedVariables false
def a6s(s:((List Int)×Unit)):Option (((List Int)×Unit) ⊕ ((List Int)×Unit)):= (x0r a4t (true,0,s.1,())).bind fun w3=> cond w3.1 (some (.inr (w3.2.1,()))) ((x0r a6r (0,w3.2.1,())).bind fun w4=> some (.inl (w4.1,())))
def a7p(x:(List Int)):Option (List Int):= cond (lim (0+(a03 x))) ((x0r a6s (a04 [] x,())).bind fun w5=> some w5.1) none
def b9M:FSem:=⟨[.v QL],[.o QI],a7p⟩
def d9s:Hints:=⟨[(14,[.own 3 3 QI],[(.ret,[.own 2 3 QI])]),(906,[.sv 4 .bool,.sv 5 QI,.own 3 3 QI],[(.exit 2,[.sv 4 .bool,.own 3 3 QI])]),(1822,[.sv 6 QI,.own 3 3 QI],[(.exit 4,[.own 3 3 QI])])],[],[(6,[.x,.x,.q,.v,.q,.q,.v,.q,.v,.q,.q,.x,.x,.x])]⟩
def b8c(x:(Int×Int)):Option Int:= cond (x.2==0) none ((show Option (Int×Unit)from cond (x.2==0) none (cond (decide ((a26 x.1 x.2)<0)) (some (wrap .i64 ((wrap .i64 (a24 x.1 x.2))-1),())) (some (wrap .i64 (a24 x.1 x.2),())))).bind fun z1=> some z1.1)
def c2J:FSem:=⟨[.v QI,.v QI],[.v QI],b8c⟩
def d9t:Hints:=⟨[],[(7,[(.normal,[.sv 5 QI])])],[]⟩
def a8I(s:Z71):Option (Z71 ⊕ (Int×Int×Unit)):= cond (decide (s.2.2.2.2.1<(s.1.length:Int))) ((l0z s.1 s.2.2.2.2.1).bind fun x1=> (l0z s.2.1 (wrap .i64 (s.2.2.2.2.1-1))).bind fun x2=> (l0z s.1 s.2.2.2.2.1).bind fun x3=> (l0z s.1 s.2.2.2.2.1).bind fun x4=> (l0z s.2.1 (wrap .i64 (s.2.2.2.2.1-1))).bind fun x5=> (l0z s.2.1 (wrap .i64 (s.2.2.2.2.1-1))).bind fun x6=> some (.inl (s.1,s.2.1,wrap .i64 (s.2.2.1+(wrap .i64 (x1*x2))),wrap .i64 ((wrap .i64 (s.2.2.2.1+(wrap .i64 (x3*x4))))+(wrap .i64 (x5*x6))),wrap .i64 (s.2.2.2.2.1+1),()))) (some (.inr (s.2.2.1,s.2.2.2.1,())))
def b2J(s:(Int×Int×Unit)):Option ((Int×Int×Unit) ⊕ (Int×Int×Unit)):= cond (decide (s.2.1≥1099511627776)) (some (.inl (z0h .i64 s.1 1,z0h .i64 s.2.1 1,()))) (some (.inr (s.1,s.2.1,())))
def a5D(x:Z12):Option Int:= (x0r a8I (x.1,x.2.1,0,0,x.2.2,())).bind fun w7=> (x0r b2J (w7.1,w7.2.1,())).bind fun w8=> cond (w8.2.1==0) (some 0) ((b8c (wrap .i64 (w8.1*32768),w8.2.1)).bind fun y9=> some (v0a (u0z y9 (-16383)) 16383))
def b5n:FSem:=⟨[.v QL,.v QL,.v QI],[.v QI],a5D⟩
def d9u:Hints:=⟨[(58,[.sv 0 QL,.sv 1 QL,.sv 7 QI,.sv 8 QI,.sv 9 QI],[(.exit 0,[.sv 7 QI,.sv 8 QI])]),(60,[.sv 7 QI,.sv 8 QI],[(.exit 2,[.sv 7 QI,.sv 8 QI])])],[],[(5,[.v,.v,.v,.v,.v,.v,.v,.v,.v,.v,.v,.x,.x]),(6,[.v,.v,.v,.v,.v,.v,.v,.v,.v,.v,.v,.v,.v,.v,.v,.v,.v,.v,.v,.v,.v,.v,.x,.x])]⟩
def a2f(s:(Int×((List Int)×Z94))):Option ((Int×((List Int)×Z94)) ⊕ Z94):= cond (decide (s.2.2.2.2.1<(s.2.2.2.2.2.1.length:Int))) (cond ((decide (0≤s.2.2.2.2.1))&&(decide (s.2.2.2.2.1<(s.2.2.2.2.2.1.length:Int)))) ((l0z s.2.1 (wrap .i64 (s.2.2.2.2.1-1))).bind fun x6=> (a9I (wrap .i64 ((a02 s.2.2.2.2.2.1 (a00 s.2.2.2.2.1) 0)-(z0h .i64 (wrap .i64 (s.2.2.2.1*x6)) 14)))).bind fun y7=> cond ((decide (0≤s.2.2.2.2.1))&&(decide (s.2.2.2.2.1<(s.2.2.2.2.2.1.length:Int)))) ((a9I (wrap .i64 (x6-(z0h .i64 (wrap .i64 (s.2.2.2.1*(a02 s.2.2.2.2.2.1 (a00 s.2.2.2.2.1) 0))) 14)))).bind fun y8=> cond ((decide (0≤s.2.2.2.2.1))&&(decide (s.2.2.2.2.1<(s.2.2.2.2.2.2.2.1.length:Int)))) (some (.inl (s.1,s.2.1,s.2.2.1,s.2.2.2.1,wrap .i64 (s.2.2.2.2.1+1),a06 s.2.2.2.2.2.1 (a00 s.2.2.2.2.1) y7,s.2.2.2.2.2.2.1,a06 s.2.2.2.2.2.2.2.1 (a00 s.2.2.2.2.1) y8,()))) none) none) none) (some (.inr (s.1,s.2.2.1,s.2.2.2.1,s.2.2.2.2.2.1,s.2.2.2.2.2.2.1,s.2.2.2.2.2.2.2.1,())))
def a3Y(s:(Int×((List Int)×Z32))):Option ((Int×((List Int)×Z32)) ⊕ ((List Int)×Unit)):= cond (decide (s.2.2.1≤s.1)) ((a5D (s.2.2.2.1,s.2.1,s.2.2.1)).bind fun y5=> cond (lim (0+(a03 s.2.1))) ((x0r a2f (s.1,s.2.1,s.2.2.1,y5,s.2.2.1,s.2.2.2.1,s.2.2.2.2.1,a04 [] s.2.1,())).bind fun w9=> cond (lim ((a03 w9.2.2.2.2.1)+1)) (some (.inl (w9.1,w9.2.2.2.2.2.1,wrap .i64 (w9.2.1+1),w9.2.2.2.1,a04 w9.2.2.2.2.1 [w9.2.2.1],()))) none) none) (some (.inr (s.2.2.2.2.1,())))
def a5M(x:((List Int)×Int)):Option ((List Int)×Int):= (show Option Z22 from cond (decide (x.2<1)) (some (x.1,x.2,true,())) (cond (decide (x.2 > 32)) (some (x.1,x.2,true,())) (some (x.1,x.2,decide ((x.1.length:Int) > 4096),())))).bind fun z1=> cond z1.2.2.1 (some ([],1)) ((a0Q z1.1).bind fun y2=> cond (!y2) (some ([],6)) ((a7p z1.1).bind fun y3=> (a7p z1.1).bind fun y4=> (x0r a3Y (z1.2.1,y4,1,y3,[],())).bind fun w10=> some (w10.1,0)))
def b2K:FSem:=⟨[.v QL,.v QI],[.o QI,.v QI],a5M⟩
def d9v:Hints:=⟨[(506,[.sv 1 QI,.sv 7 QL,.sv 9 QI,.own 6 6 QI,.own 8 8 QI],[(.exit 0,[.own 8 8 QI])]),(259226,[.sv 1 QI,.sv 7 QL,.sv 9 QI,.sv 10 QI,.sv 12 QI,.own 6 6 QI,.own 8 8 QI,.own 11 11 QI],[(.exit 2,[.sv 1 QI,.sv 9 QI,.sv 10 QI,.own 6 6 QI,.own 8 8 QI,.own 11 11 QI])])],[(6,[(.normal,[.sv 0 QL,.sv 1 QI,.sv 25 .bool])])],[(15,[.q,.v,.q,.q,.q,.v,.v,.q,.q,.v,.x])]⟩
def a2a(s:Z5):Option (Z5 ⊕ Z58):= cond (decide (s.2.1<(s.1.length:Int))) ((show Option Z22 from(l0z s.1 s.2.1).bind fun x2=> cond (decide (x2≤(-16384))) (some (s.1,s.2.1,true,())) ((l0z s.1 s.2.1).bind fun x3=> some (s.1,s.2.1,decide (x3≥16384),()))).bind fun z4=> cond z4.2.2.1 (some (.inr (Sum.inr ((1,[],()))))) (some (.inl (z4.1,wrap .i64 (z4.2.1+1),())))) (some (.inr (Sum.inl (s.1,()))))
def a3m(s:Z82):Option (Z82 ⊕ Z34):= cond (decide (s.2.2.1<s.2.1)) (cond ((decide (0≤s.2.2.1))&&(decide (s.2.2.1<(s.2.2.2.2.1.length:Int)))) ((l0z s.1 s.2.1).bind fun x8=> cond ((decide (0≤(wrap .i64 ((wrap .i64 (s.2.1-1))-s.2.2.1))))&&(decide ((wrap .i64 ((wrap .i64 (s.2.1-1))-s.2.2.1))<(s.2.2.2.2.1.length:Int)))) (cond ((decide (0≤s.2.2.1))&&(decide (s.2.2.1<(s.2.2.2.1.length:Int)))) (some (.inl (s.1,s.2.1,wrap .i64 (s.2.2.1+1),a06 s.2.2.2.1 (a00 s.2.2.1) (wrap .i64 ((a02 s.2.2.2.2.1 (a00 s.2.2.1) 0)-(z0h .i64 (wrap .i64 (x8*(a02 s.2.2.2.2.1 (a00 (wrap .i64 ((wrap .i64 (s.2.1-1))-s.2.2.1))) 0))) 14))),s.2.2.2.2.1,()))) none) none) none) (some (.inr (s.1,s.2.1,s.2.2.2.1,())))
def a4Y(s:Z34):Option (Z34 ⊕ ((List Int)×Unit)):= cond (decide (s.2.1<(s.1.length:Int))) (cond (lim (0+(a03 s.2.2.1))) ((x0r a3m (s.1,s.2.1,0,s.2.2.1,a04 [] s.2.2.1,())).bind fun w9=> (l0z w9.1 w9.2.1).bind fun x10=> cond (lim ((a03 w9.2.2.1)+1)) (some (.inl (w9.1,wrap .i64 (w9.2.1+1),a04 w9.2.2.1 [x10],()))) none) none) (some (.inr (s.2.2.1,())))
def a4O(x:(List Int)):Option ((List Int)×Int):= (show Option Z9 from cond (decide ((x.length:Int)<1)) (some (x,true,())) (some (x,decide ((x.length:Int) > 32),()))).bind fun z1=> cond z1.2.1 (some ([],1)) ((x0r a2a (z1.1,0,())).bind fun w5=> match w5 with |.inl a6=>((x0r a4Y (a6.1,0,[],())).bind fun w11=> some (w11.1,0)) |.inr b7=>some (b7.2.1,b7.1))
def b4z:FSem:=⟨[.v QL],[.o QI,.v QI],a4O⟩
def d9w:Hints:=⟨[(58,[.sv 0 QL,.sv 4 QI],[(.exit 0,[.sv 0 QL]),(.ret,[.sv 3 QI,.own 2 2 QI])]),(250,[.sv 0 QL,.sv 6 QI,.own 5 5 QI],[(.exit 2,[.own 5 5 QI])]),(64074,[.sv 0 QL,.sv 6 QI,.sv 8 QI,.own 5 5 QI,.own 7 7 QI],[(.exit 4,[.sv 0 QL,.sv 6 QI,.own 5 5 QI])])],[(6,[(.normal,[.sv 0 QL,.sv 16 .bool])]),(932,[(.normal,[.sv 0 QL,.sv 4 QI,.sv 34 .bool])])],[(16,[.q,.v,.q,.v,.q,.q,.v,.v,.v,.v,.q,.v,.v,.v,.v,.q,.q,.v,.v,.v,.x,.x])]⟩
def a2b(s:Z17):Option (Z17 ⊕ (Z5 ⊕ Z19)):= cond (decide (s.2.2.1<(s.1.length:Int))) ((show Option Z41 from(l0z s.1 s.2.2.1).bind fun x2=> cond (decide (x2<(-35184372088832))) (some (s.1,s.2.1,s.2.2.1,true,())) ((l0z s.1 s.2.2.1).bind fun x3=> some (s.1,s.2.1,s.2.2.1,decide (x3 > 35184372088832),()))).bind fun z4=> cond z4.2.2.2.1 (some (.inr (Sum.inr ((0,1,[],()))))) (some (.inl (z4.1,z4.2.1,wrap .i64 (z4.2.2.1+1),())))) (some (.inr (Sum.inl (s.1,s.2.1,()))))
def a2s(s:((List Int)×(Int×Int×Int×Z26))):Option (((List Int)×(Int×Int×Int×Z26)) ⊕ Z75):= cond (decide (s.2.2.2.2.2.1<(s.1.length:Int))) ((l0z s.1 s.2.2.2.2.2.1).bind fun x9=> cond (decide ((wrap .u64 s.2.2.1)<0)) none (cond (lim ((a03 s.2.2.2.2.2.2.1)+1)) (cond s.2.2.2.2.1 ((a7z (z0h .i64 (wrap .i64 (x9+s.2.2.2.1)) (wrap .u64 s.2.2.1),s.2.1)).bind fun y10=> some (.inl (s.1,s.2.1,s.2.2.1,s.2.2.2.1,y10,wrap .i64 (s.2.2.2.2.2.1+1),a04 s.2.2.2.2.2.2.1 [z0h .i64 (wrap .i64 (x9+s.2.2.2.1)) (wrap .u64 s.2.2.1)],()))) (some (.inl (s.1,s.2.1,s.2.2.1,s.2.2.2.1,false,wrap .i64 (s.2.2.2.2.2.1+1),a04 s.2.2.2.2.2.2.1 [z0h .i64 (wrap .i64 (x9+s.2.2.2.1)) (wrap .u64 s.2.2.1)],())))) none)) (some (.inr (s.1,s.2.1,s.2.2.1,s.2.2.2.2.1,s.2.2.2.2.2.2.1,())))
def a3n(s:Z17):Option (Z17 ⊕ (Unit ⊕ Z19)):= cond (decide (s.2.2.1≤14)) ((show Option Z39 from cond (decide (s.2.2.1 > 0)) (cond (decide ((wrap .u64 (wrap .i64 (s.2.2.1-1)))<0)) none (some (s.1,s.2.1,s.2.2.1,z0g .i64 1 (wrap .u64 (wrap .i64 (s.2.2.1-1))),()))) (some (s.1,s.2.1,s.2.2.1,0,()))).bind fun z8=> (x0r a2s (z8.1,z8.2.1,z8.2.2.1,z8.2.2.2.1,true,0,[],())).bind fun w11=> cond w11.2.2.2.1 (some (.inr (Sum.inr ((wrap .i64 (14-w11.2.2.1),0,w11.2.2.2.2.1,()))))) (some (.inl (w11.1,w11.2.1,wrap .i64 (w11.2.2.1+1),())))) (some (.inr (Sum.inl ())))
def a6X(x:((List Int)×Int)):Option Z2:= (show Option Z22 from cond (decide ((x.1.length:Int)<1)) (some (x.1,x.2,true,())) (cond (decide ((x.1.length:Int) > 32)) (some (x.1,x.2,true,())) (cond (decide (x.2<2)) (some (x.1,x.2,true,())) (some (x.1,x.2,decide (x.2 > 16),()))))).bind fun z1=> cond z1.2.2.1 (some ([],0,1)) ((x0r a2b (z1.1,z1.2.1,0,())).bind fun w5=> match w5 with |.inl a6=>((x0r a3n (a6.1,a6.2.1,0,())).bind fun w12=> match w12 with |.inl a13=>some ([],0,6) |.inr b14=>some (b14.2.2.1,b14.1,b14.2.1)) |.inr b7=>some (b7.2.2.1,b7.1,b7.2.1))
def b4A:FSem:=⟨[.v QL,.v QI],[.o QI,.v QI,.v QI],a6X⟩
def d9x:Hints:=⟨[(58,[.sv 0 QL,.sv 1 QI,.sv 7 QI],[(.exit 0,[.sv 0 QL,.sv 1 QI]),(.ret,[.sv 5 QI,.sv 6 QI,.own 4 4 QI])]),(122,[.sv 0 QL,.sv 1 QI,.sv 8 QI],[(.exit 2,[]),(.ret,[.sv 5 QI,.sv 6 QI,.own 4 10 QI])]),(250490,[.sv 0 QL,.sv 1 QI,.sv 8 QI,.sv 9 QI,.sv 11 .bool,.sv 12 QI,.own 10 10 QI],[(.exit 4,[.sv 0 QL,.sv 1 QI,.sv 8 QI,.sv 11 .bool,.own 10 10 QI])])],[(6,[(.normal,[.sv 0 QL,.sv 1 QI,.sv 29 .bool])]),(932,[(.normal,[.sv 0 QL,.sv 1 QI,.sv 7 QI,.sv 47 .bool])]),(3913,[(.normal,[.sv 0 QL,.sv 1 QI,.sv 8 QI,.sv 9 QI])])],[]⟩
def a7K(x:Z2):Option Z2:= (a5M (x.1,x.2.1)).bind fun y1=> cond (y1.2 != 0) (some ([],0,y1.2)) ((a4O y1.1).bind fun y2=> cond (y2.2 != 0) (some ([],0,y2.2)) ((a6X (y2.1,x.2.2)).bind fun y3=> some (y3.1,y3.2.1,y3.2.2)))
def b5o:FSem:=⟨[.v QL,.v QI,.v QI],[.o QI,.v QI,.v QI],a7K⟩
def d9y:Hints:=⟨[],[],[]⟩
def a9m(x:Z2):Option (a1w×Bool):= (a7K (x.1,x.2.1,x.2.2)).bind fun y1=> some ((3,0,0,y1.2.1,0,y1.1,a01 3 0,[],[],(0,[],()),[],()),y1.2.2==0)
def b5p:FSem:=⟨[.v QL,.v QI,.v QI],[.v Q39,.v .bool],a9m⟩
def d9z:Hints:=⟨[],[],[]⟩
def a1k(x:(b1o×Z2)):Option (b1o×b1o):= (a9m (x.2.1,x.2.2.1,x.2.2.2)).bind fun y1=> cond y1.2 (cond (lim ((a03 x.1)+1)) (some (a04 x.1 ([y1.1]:List a1w),[])) none) (some (x.1,[]))
def c2K:FSem:=⟨[.r true (.o Q39),.v QL,.v QI,.v QI],[.o Q39],a1k⟩
def d9A:Hints:=⟨[],[],[]⟩
def c1k(s:((List Int)×Z63)):Option (((List Int)×Z63) ⊕ ((List Int)×Z43)):= cond (decide (s.2.2.2.2.2.2.1<(s.1.length:Int))) ((l0z s.1 s.2.2.2.2.2.2.1).bind fun x3=> (l0z s.1 (wrap .i64 (s.2.2.2.2.2.2.1-s.2.2.2.2.1))).bind fun x4=> (b1C (wrap .i64 (x3-x4))).bind fun y5=> some (.inl (s.1,s.2.1,s.2.2.1,s.2.2.2.1,s.2.2.2.2.1,wrap .i64 (s.2.2.2.2.2.1+y5),wrap .i64 (s.2.2.2.2.2.2.1+1),()))) (some (.inr (s.1,s.2.1,s.2.2.1,s.2.2.2.1,s.2.2.2.2.1,s.2.2.2.2.2.1,())))
def c1l(s:((List Int)×Z23)):Option (((List Int)×Z23) ⊕ (Int×Unit)):= cond (decide (s.2.2.2.2.1≤s.2.1)) ((x0r c1k (s.1,s.2.1,s.2.2.1,s.2.2.2.1,s.2.2.2.2.1,0,s.2.1,())).bind fun w6=> (show Option ((List Int)×(Int×Z47))from cond (w6.2.2.1==0) (some (w6.1,w6.2.1,w6.2.2.1,w6.2.2.2.1,w6.2.2.2.2.1,w6.2.2.2.2.2.1,true,())) (some (w6.1,w6.2.1,w6.2.2.1,w6.2.2.2.1,w6.2.2.2.2.1,w6.2.2.2.2.2.1,decide (w6.2.2.2.2.2.1<w6.2.2.2.1),()))).bind fun z7=> cond z7.2.2.2.2.2.2.1 (some (.inl (z7.1,z7.2.1,z7.2.2.2.2.1,z7.2.2.2.2.2.1,wrap .i64 (z7.2.2.2.2.1+1),()))) (some (.inl (z7.1,z7.2.1,z7.2.2.1,z7.2.2.2.1,wrap .i64 (z7.2.2.2.2.1+1),())))) (some (.inr (s.2.2.1,())))
def a9J(x:Z2):Option (Int×Int):= (show Option Z41 from cond (decide (x.2.1<2)) (some (x.1,x.2.1,x.2.2,true,())) (cond (decide (x.2.2<x.2.1)) (some (x.1,x.2.1,x.2.2,true,())) (cond (decide (x.2.2 > 1024)) (some (x.1,x.2.1,x.2.2,true,())) (some (x.1,x.2.1,x.2.2,decide ((x.1.length:Int) > 4096),()))))).bind fun z1=> cond z1.2.2.2.1 (some (0,1)) (cond (decide ((z1.1.length:Int)≤z1.2.2.1)) (some (0,7)) ((a0Q z1.1).bind fun y2=> cond (!y2) (some (0,6)) ((x0r c1l (z1.1,z1.2.2.1,0,0,z1.2.1,())).bind fun w8=> some (w8.1,0))))
def b7y:FSem:=⟨[.v QL,.v QI,.v QI],[.v QI,.v QI],a9J⟩
def d9B:Hints:=⟨[(122,[.sv 0 QL,.sv 2 QI,.sv 8 QI,.sv 9 QI,.sv 10 QI],[(.exit 1,[.sv 8 QI])]),(31306,[.sv 0 QL,.sv 2 QI,.sv 8 QI,.sv 9 QI,.sv 10 QI,.sv 11 QI,.sv 12 QI],[(.exit 3,[.sv 0 QL,.sv 2 QI,.sv 8 QI,.sv 9 QI,.sv 10 QI,.sv 11 QI])])],[(12,[(.normal,[.sv 0 QL,.sv 1 QI,.sv 2 QI,.sv 13 .bool])]),(7827,[(.normal,[.sv 0 QL,.sv 2 QI,.sv 8 QI,.sv 9 QI,.sv 10 QI,.sv 11 QI,.sv 72 .bool])])],[(15,[.v,.v,.v,.v,.v,.v,.v,.v,.v,.v,.v,.v,.v,.x,.x])]⟩
def a5E(s:Z19):Option (Z19 ⊕ ((Int×Unit) ⊕ (Bool×Unit))):= cond (decide (s.2.1<3)) ((show Option Z42 from(l0z s.2.2.1 s.2.1).bind fun x1=> cond (decide (x1<(-64))) (some (s.1,s.2.1,true,s.2.2.1,())) ((l0z s.2.2.1 s.2.1).bind fun x2=> some (s.1,s.2.1,decide (x2 > 64),s.2.2.1,()))).bind fun z3=> cond z3.2.2.1 (some (.inr (Sum.inr ((false,()))))) (some (.inl (z3.1,wrap .i64 (z3.2.1+1),z3.2.2.2.1,())))) (some (.inr (Sum.inl (s.1,()))))
def a5W(x:(Int×(List Int))):Option Bool:= (x0r a5E (x.1,0,x.2,())).bind fun w4=> match w4 with |.inl a5=>(cond (decide (a5.1≥2)) (some (decide (a5.1≤1024))) (some false)) |.inr b6=>some b6.1
def b1c:FSem:=⟨[.v QI,.v (.arr 3 QI)],[.v .bool],a5W⟩
def d9C:Hints:=⟨[(26,[.sv 0 QI,.sv 5 QI,.vp 3 (.arr 3 QI)],[(.exit 0,[.sv 0 QI]),(.ret,[.sv 4 .bool])])],[(420,[(.normal,[.sv 0 QI,.sv 5 QI,.sv 19 .bool,.vp 3 (.arr 3 QI)])])],[]⟩
def a4i(s:Z73):Option (Z73 ⊕ (Int×Unit)):= cond (decide (s.2.2.2.1<3)) (cond (decide ((wrap .i64 ((wrap .i64 ((wrap .i64 ((s.1.length:Int)-s.2.1))-1))+s.2.2.2.1))≥0)) ((l0z s.2.2.2.2.1 s.2.2.2.1).bind fun x1=> (l0z s.1 (wrap .i64 ((wrap .i64 ((wrap .i64 ((s.1.length:Int)-s.2.1))-1))+s.2.2.2.1))).bind fun x2=> some (.inl (s.1,s.2.1,wrap .i64 (s.2.2.1+(wrap .i64 (x1*x2))),wrap .i64 (s.2.2.2.1+1),s.2.2.2.2.1,()))) (some (.inl (s.1,s.2.1,s.2.2.1,wrap .i64 (s.2.2.2.1+1),s.2.2.2.2.1,())))) (some (.inr (s.2.2.1,())))
def a6t(x:Z13):Option Int:= (x0r a4i (x.1,x.2.1,0,0,x.2.2,())).bind fun w3=> some (z0h .i64 w3.1 6)
def b2d:FSem:=⟨[.v QL,.v QI,.v (.arr 3 QI)],[.v QI],a6t⟩
def d9D:Hints:=⟨[(58,[.sv 0 QL,.sv 1 QI,.sv 7 QI,.sv 8 QI,.vp 5 (.arr 3 QI)],[(.exit 0,[.sv 7 QI])])],[],[(7,[.v,.v,.v,.v,.v,.v,.v,.v,.v,.x,.x])]⟩
def a6Y(s:Z82):Option (Z82 ⊕ ((List Int)×Unit)):= cond (decide (s.2.2.1<(s.1.length:Int))) ((l0z s.1 s.2.2.1).bind fun x3=> cond ((decide (0≤s.2.2.1))&&(decide (s.2.2.1≤(s.1.length:Int)))) ((a6t (a05 (a00 s.2.2.1) s.1,s.2.1,s.2.2.2.2.1)).bind fun y4=> cond (lim ((a03 s.2.2.2.1)+1)) (some (.inl (s.1,s.2.1,wrap .i64 (s.2.2.1+1),a04 s.2.2.2.1 [wrap .i64 (x3-y4)],s.2.2.2.2.1,()))) none) none) (some (.inr (s.2.2.2.1,())))
def a7q(x:Z13):Option ((List Int)×Int):= (a5W (x.2.1,x.2.2)).bind fun y1=> cond (!y1) (some ([],1)) ((a0Q x.1).bind fun y2=> cond (!y2) (some ([],6)) ((x0r a6Y (x.1,x.2.1,0,[],x.2.2,())).bind fun w5=> (a0Q w5.1).bind fun y6=> cond (!y6) (some ([],6)) (some (w5.1,0))))
def a7r:FSem:=⟨[.v QL,.v QI,.v (.arr 3 QI)],[.o QI,.v QI],a7q⟩
def d9E:Hints:=⟨[(250,[.sv 0 QL,.sv 1 QI,.sv 9 QI,.own 8 8 QI,.vp 5 (.arr 3 QI)],[(.exit 0,[.own 8 8 QI])])],[],[(9,[.q,.v,.v,.v,.v,.v,.v,.v,.v,.v,.v,.v,.q,.x,.x])]⟩
def d3C:Hints:=⟨[],[],[]⟩
def c2L(x:Unit):Option (List (List Int)):=z0c (a1O [] [] [0] []) d3C Tryz.f316 [] [.o (.arr 3 (.int .i64))] x
def b2e:FSem:=⟨[],[.o (.arr 3 QI)],c2L⟩
def d3D:Hints:=⟨[(250,[.sv 0 QL,.sv 1 QI,.sv 7 QI,.sv 8 QI,.sv 9 QI,.own 6 6 (.arr 3 QI),.box 4 (.arr 3 QI),.ptr 4 4 []],[(.exit 0,[.sv 7 QI,.own 6 6 (.arr 3 QI),.box 4 (.arr 3 QI),.ptr 4 4 []])])],[(6,[(.normal,[.sv 0 QL,.sv 1 QI,.sv 18 .bool,.box 4 (.arr 3 QI),.ptr 4 4 []])]),(16019,[(.normal,[.sv 0 QL,.sv 1 QI,.sv 7 QI,.sv 8 QI,.sv 9 QI,.sv 12 QI,.sv 49 .bool,.own 6 6 (.arr 3 QI),.box 4 (.arr 3 QI),.ptr 4 4 []])])],[]⟩
def b7z(x:((List Int)×Int)):Option ((List Int)×Int):=z0c (a1O [(278,a7r),(314,b3x),(316,b2e)] [] [0,1,5,6,7,8,9,10,11,12] []) d3D Tryz.f277 [.v (.list false (.int .i64)),.v (.int .i64)] [.v (.arr 3 (.int .i64)),.v (.int .i64)] x
def b7A:FSem:=⟨[.v QL,.v QI],[.v (.arr 3 QI),.v QI],b7z⟩
def a9K(x:(List Int)):Option (a1w×Bool):= (a9J (x,16,256)).bind fun y1=> cond (y1.2 != 0) (some ((0,0,0,0,0,[],a01 3 0,[],[],(0,[],()),[],()),false)) ((b7z (x,y1.1)).bind fun y2=> cond (y2.2 != 0) (some ((0,0,0,0,0,[],a01 3 0,[],[],(0,[],()),[],()),false)) ((a7q (x,y1.1,y2.1)).bind fun y3=> cond (y3.2 != 0) (some ((0,0,0,0,0,[],a01 3 0,[],[],(0,[],()),[],()),false)) ((a9m (y3.1,4,12)).bind fun y4=> some ((4,y4.1.2.1,y4.1.2.2.1,y4.1.2.2.2.1,y1.1,y4.1.2.2.2.2.2.1,y2.1,y4.1.2.2.2.2.2.2.2),y4.2))))
def c2M:FSem:=⟨[.v QL],[.v Q39,.v .bool],a9K⟩
def d9F:Hints:=⟨[],[],[(11,[.v,.r [6,45],.q,.w [0,10],.q,.w [0,10],.x,.x])]⟩
def a5q(s:c7W):Option (c7W ⊕ ((List Int)×c3S)):= cond (decide (s.2.1<5)) (cond (lim ((a03 s.2.2.1)+1)) (some (.inl (s.1,wrap .i64 (s.2.1+1),a04 s.2.2.1 ([(2,0,s.2.1,0,0,[],a01 3 0,[],[],(0,[],()),[],())]:List a1w),()))) none) (some (.inr (s.1,s.2.2.1,())))
def b3y(x:((List Int)×Int)):Option b1o:= (a6q x.1).bind fun y1=> (show Option c7W from cond (decide (x.2≥1)) ((a1k (([(0,0,0,0,0,[],a01 3 0,[],[],(0,[],()),[],()),(1,0,0,0,0,[],a01 3 0,[],[],(0,[],()),[],()),(2,0,y1,0,0,[],a01 3 0,[],[],(0,[],()),[],())]:List a1w),x.1,4,12)).bind fun y2=> (a1k (y2.1,x.1,8,12)).bind fun y3=> some (x.1,x.2,y3.1,())) (some (x.1,x.2,([(0,0,0,0,0,[],a01 3 0,[],[],(0,[],()),[],()),(1,0,0,0,0,[],a01 3 0,[],[],(0,[],()),[],()),(2,0,y1,0,0,[],a01 3 0,[],[],(0,[],()),[],())]:List a1w),()))).bind fun z4=> (show Option c7W from cond (decide (z4.2.1≥2)) (cond (lim ((a03 z4.2.2.1)+2)) ((a9K z4.1).bind fun y5=> cond y5.2 (cond (lim ((a03 (a04 z4.2.2.1 ([(5,0,0,0,0,[],a01 3 0,([(16,4,())]:List (Int×Int×Unit)),[],(0,[],()),[],()),(5,0,0,0,0,[],a01 3 0,([(32,3,()),(16,5,())]:List (Int×Int×Unit)),[],(0,[],()),[],())]:List a1w)))+1)) (some (z4.1,z4.2.1,a04 (a04 z4.2.2.1 ([(5,0,0,0,0,[],a01 3 0,([(16,4,())]:List (Int×Int×Unit)),[],(0,[],()),[],()),(5,0,0,0,0,[],a01 3 0,([(32,3,()),(16,5,())]:List (Int×Int×Unit)),[],(0,[],()),[],())]:List a1w)) ([y5.1]:List a1w),())) none) (some (z4.1,z4.2.1,a04 z4.2.2.1 ([(5,0,0,0,0,[],a01 3 0,([(16,4,())]:List (Int×Int×Unit)),[],(0,[],()),[],()),(5,0,0,0,0,[],a01 3 0,([(32,3,()),(16,5,())]:List (Int×Int×Unit)),[],(0,[],()),[],())]:List a1w),()))) none) (some (z4.1,z4.2.1,z4.2.2.1,()))).bind fun z6=> (show Option c3S from cond (decide (z6.2.1≥3)) ((x0r a5q (z6.1,0,z6.2.2.1,())).bind fun w7=> (a1k (w7.2.1,w7.1,1,12)).bind fun y8=> (a1k (y8.1,w7.1,2,12)).bind fun y9=> (a1k (y9.1,w7.1,12,14)).bind fun y10=> (a1k (y10.1,w7.1,16,14)).bind fun y11=> some (y11.1,())) (some (z6.2.2.1,()))).bind fun z12=> some z12.1
def c1E:FSem:=⟨[.v QL,.v QI],[.o Q39],b3y⟩
def d9G:Hints:=⟨[(2002,[.sv 0 QL,.sv 8 QI,.own 5 5 Q39],[(.exit 0,[.sv 0 QL,.own 5 5 Q39])])],[(7,[(.normal,[.sv 0 QL,.sv 1 QI,.own 5 5 Q39])]),(15,[(.normal,[.sv 0 QL,.sv 1 QI,.own 5 5 Q39])]),(31,[(.normal,[.own 5 5 Q39])])],[]⟩
def a4F(x:Int):Option Bool:= cond (decide (x≥2)) (some (decide (x≤5))) (some false)
def b1d:FSem:=⟨[.v QI],[.v .bool],a4F⟩
def d9H:Hints:=⟨[],[],[]⟩
def a4j(s:Z17):Option (Z17 ⊕ (Z5 ⊕ (Bool×Unit))):= cond (decide (s.2.2.1<(s.1.length:Int))) ((show Option Z41 from(l0z s.1 s.2.2.1).bind fun x1=> cond (decide (x1<(-32768))) (some (s.1,s.2.1,s.2.2.1,true,())) ((l0z s.1 s.2.2.1).bind fun x2=> some (s.1,s.2.1,s.2.2.1,decide (x2≥32768),()))).bind fun z3=> cond z3.2.2.2.1 (some (.inr (Sum.inr ((false,()))))) (some (.inl (z3.1,z3.2.1,wrap .i64 (z3.2.2.1+1),())))) (some (.inr (Sum.inl (s.1,s.2.1,()))))
def a3o(x:((List Int)×Int)):Option Bool:= (x0r a4j (x.1,x.2,0,())).bind fun w4=> match w4 with |.inl a5=>(cond (decide ((a5.1.length:Int)≥1)) (cond (decide ((a5.1.length:Int)≤32)) (cond (decide (a5.2.1≥0)) (some (decide (a5.2.1≤15))) (some false)) (some false)) (some false)) |.inr b6=>some b6.1
def a6u:FSem:=⟨[.v QL,.v QI],[.v .bool],a3o⟩
def d9I:Hints:=⟨[(26,[.sv 0 QL,.sv 1 QI,.sv 5 QI],[(.exit 0,[.sv 0 QL,.sv 1 QI]),(.ret,[.sv 4 .bool])])],[(420,[(.normal,[.sv 0 QL,.sv 1 QI,.sv 5 QI,.sv 23 .bool])])],[]⟩
def a7s(x:(Int×Int×Unit)):Option Bool:= cond (decide (x.1≥1)) (cond (decide (x.1≤32)) (cond (decide (x.2.1≥0)) (some (decide (x.2.1≤8))) (some false)) (some false)) (some false)
def b2T:FSem:=⟨[.v Q4],[.v .bool],a7s⟩
def d9J:Hints:=⟨[],[],[]⟩
def a4P(s:Z45):Option (Z45 ⊕ ((Z6×Unit) ⊕ (Bool×Unit))):= cond (decide (s.2.1<(s.1.length:Int))) ((l0z s.1 s.2.1).bind fun x1=> (a7s x1).bind fun y2=> cond (!y2) (some (.inr (Sum.inr ((false,()))))) (some (.inl (s.1,wrap .i64 (s.2.1+1),())))) (some (.inr (Sum.inl (s.1,()))))
def a5r(x:Z6):Option Bool:= (x0r a4P (x,0,())).bind fun w3=> match w3 with |.inl a4=>some (decide ((a4.1.length:Int)≤3)) |.inr b5=>some b5.1
def a9L:FSem:=⟨[.v (.list false Q4)],[.v .bool],a5r⟩
def d9K:Hints:=⟨[(26,[.sv 0 (.list false Q4),.sv 3 QI],[(.exit 0,[.sv 0 (.list false Q4)]),(.ret,[.sv 2 .bool])])],[],[]⟩
def b0T(x:a9a):Option Int:= cond (x.1.1==0) (some 1) (cond (x.1.1==1) (some x.2) (cond (x.1.1==2) ((show Option c7T from cond (decide (x.1.2.2.1≥0)) (cond (decide (x.1.2.2.1≤4)) (some (decide (x.1.2.2.1≤x.2),x.1,())) (some (false,x.1,()))) (some (false,x.1,()))).bind fun z1=> cond z1.1 (some z1.2.1.2.2.1) (some (-1))) ((show Option c7V from cond (x.1.1==3) (some (x.2,x.1.1,x.1.1==3,x.1,())) (some (x.2,x.1.1,x.1.1==4,x.1,()))).bind fun z2=> cond z2.2.2.1 ((show Option c7T from(a3o (z2.2.2.2.1.2.2.2.2.2.1,z2.2.2.2.1.2.2.2.1)).bind fun y3=> cond y3 (cond (decide ((z2.2.2.2.1.2.2.2.2.2.1.length:Int)≤z2.1)) (cond (z2.2.2.2.1.1==3) (some (true,z2.2.2.2.1,())) ((a5W (z2.2.2.2.1.2.2.2.2.1,z2.2.2.2.1.2.2.2.2.2.2.1)).bind fun y4=> some (y4,z2.2.2.2.1,()))) (some (false,z2.2.2.2.1,()))) (some (false,z2.2.2.2.1,()))).bind fun z5=> cond z5.1 (some (z5.2.1.2.2.2.2.2.1.length:Int)) (some (-1))) (cond (z2.2.1==5) ((show Option (Bool×Unit)from cond (decide ((z2.2.2.2.1.2.2.2.2.2.2.2.1.length:Int) > 0)) ((a5r z2.2.2.2.1.2.2.2.2.2.2.2.1).bind fun y6=> some (y6,())) (some (false,()))).bind fun z7=> cond z7.1 (some 0) (some (-1))) (some (-1))))))
def b7f:FSem:=⟨[.v Q39,.v QI],[.v QI],b0T⟩
def d9L:Hints:=⟨[],[(1726,[(.normal,[.sv 27 .bool,.vp 2 Q39])]),(1727,[(.normal,[.sv 1 QI,.sv 6 QI,.sv 30 .bool,.vp 2 Q39])]),(6910,[(.normal,[.sv 56 .bool,.vp 2 Q39])]),(27646,[(.normal,[.sv 70 .bool])])],[]⟩
def a5s(s:Z5):Option (Z5 ⊕ Z0):= cond (decide (s.2.1<(s.1.length:Int))) ((l0z s.1 s.2.1).bind fun x1=> (l0z s.1 0).bind fun x2=> cond (x1 != x2) (some (.inr (Sum.inr ((false,()))))) (some (.inl (s.1,wrap .i64 (s.2.1+1),())))) (some (.inr (Sum.inl ())))
def b3z(x:(List Int)):Option Bool:= (x0r a5s (x,1,())).bind fun w3=> match w3 with |.inl a4=>some true |.inr b5=>some b5.1
def c1F:FSem:=⟨[.v QL],[.v .bool],b3z⟩
def d9M:Hints:=⟨[(26,[.sv 0 QL,.sv 3 QI],[(.exit 0,[]),(.ret,[.sv 2 .bool])])],[],[(4,[.v,.v,.v,.v,.v,.v,.v,.x])]⟩
def a3p(s:Z71):Option (Z71 ⊕ ((Int×Int×Unit) ⊕ (Int×Unit))):= cond (decide (s.2.2.2.2.1<(s.2.1.length:Int))) (cond (decide (s.2.2.2.2.1<(s.1.length:Int))) ((l0z s.1 (wrap .i64 ((wrap .i64 ((s.1.length:Int)-1))-s.2.2.2.2.1))).bind fun x2=> (a2A x2).bind fun y3=> cond (!y3) (some (.inr (Sum.inr ((0,()))))) ((l0z s.2.1 s.2.2.2.2.1).bind fun x4=> some (.inl (s.1,s.2.1,s.2.2.1,wrap .i64 (s.2.2.2.1+(wrap .i64 (x4*x2))),wrap .i64 (s.2.2.2.2.1+1),())))) (some (.inr (Sum.inl (s.2.2.1,s.2.2.2.1,()))))) (some (.inr (Sum.inl (s.2.2.1,s.2.2.2.1,()))))
def a4Q(x:Z12):Option Int:= (a3o (x.2.1,x.2.2)).bind fun y1=> cond (!y1) (some 0) ((x0r a3p (x.1,x.2.1,x.2.2,0,0,())).bind fun w5=> match w5 with |.inl a6=>(cond (decide ((wrap .u64 a6.1)<0)) none (some (z0h .i64 a6.2.1 (wrap .u64 a6.1)))) |.inr b7=>some b7.1)
def b0B:FSem:=⟨[.v QL,.v QL,.v QI],[.v QI],a4Q⟩
def d9N:Hints:=⟨[(122,[.sv 0 QL,.sv 1 QL,.sv 2 QI,.sv 7 QI,.sv 8 QI],[(.exit 0,[.sv 2 QI,.sv 7 QI]),(.ret,[.sv 6 QI])])],[],[]⟩
def a5N(s:Z83):Option (Z83 ⊕ ((List Int)×Unit)):= cond (decide (s.2.2.2.1<(s.1.length:Int))) ((l0z s.1 s.2.2.2.1).bind fun x4=> cond ((decide (0≤s.2.2.2.1))&&(decide (s.2.2.2.1≤(s.1.length:Int)))) ((a4Q (a05 (a00 s.2.2.2.1) s.1,s.2.1,s.2.2.1)).bind fun y5=> cond (lim ((a03 s.2.2.2.2.1)+1)) (some (.inl (s.1,s.2.1,s.2.2.1,wrap .i64 (s.2.2.2.1+1),a04 s.2.2.2.2.1 [wrap .i64 (x4-y5)],()))) none) none) (some (.inr (s.2.2.2.2.1,())))
def a7L(x:Z12):Option ((List Int)×Int):= (show Option Z60 from(a3o (x.2.1,x.2.2)).bind fun y1=> cond (!y1) (some (x.1,x.2.1,x.2.2,true,())) (some (x.1,x.2.1,x.2.2,decide ((x.1.length:Int)<(x.2.1.length:Int)),()))).bind fun z2=> cond z2.2.2.2.1 (some ([],1)) ((a0Q z2.1).bind fun y3=> cond (!y3) (some ([],6)) ((x0r a5N (z2.1,z2.2.1,z2.2.2.1,(z2.2.1.length:Int),[],())).bind fun w6=> (a0Q w6.1).bind fun y7=> cond (!y7) (some ([],6)) (some (w6.1,0))))
def b5q:FSem:=⟨[.v QL,.v QL,.v QI],[.o QI,.v QI],a7L⟩
def d9O:Hints:=⟨[(250,[.sv 0 QL,.sv 1 QL,.sv 2 QI,.sv 9 QI,.own 8 8 QI],[(.exit 0,[.own 8 8 QI])])],[(6,[(.normal,[.sv 0 QL,.sv 1 QL,.sv 2 QI,.sv 20 .bool])])],[(9,[.q,.v,.v,.v,.v,.v,.v,.v,.v,.v,.v,.v,.q,.x,.x])]⟩
def a6v(x:(Int×Int×Unit)):Option Z55:= (a7s x).bind fun y1=> cond (!y1) none (cond ((decide (0≤x.1))&&((decide (x.1≤x.1))&&(lim (a00 x.1)))) (cond ((decide (0≤x.1))&&((decide (x.1≤x.1))&&(lim (a00 x.1)))) (some ((x.2.1,a01 (a00 x.1) 0,a01 (a00 x.1) 0,()),0)) none) none)
def b2f:FSem:=⟨[.v Q4],[.b Q13,.v QI],a6v⟩
def d9P:Hints:=⟨[],[],[(3,[.v,.v,.v,.v,.q,.v,.v,.q,.x,.x,.x,.x])]⟩
def b2g(x:Int):Option Int:= some (v0a (u0z x (-1073741824)) 1073741823)
def b8d:FSem:=⟨[.v QI],[.v QI],b2g⟩
def d9Q:Hints:=⟨[],[],[]⟩
def a4u(s:Z89):Option (Z89 ⊕ Z76):= cond (decide (s.2.1<(s.2.2.1.2.1.length:Int))) (cond ((decide (0≤s.2.1))&&(decide (s.2.1<(s.2.2.1.2.1.length:Int)))) (cond ((decide (0≤s.2.1))&&(decide (s.2.1<(s.2.2.1.2.2.1.length:Int)))) (some (.inl (wrap .i64 (s.1+(wrap .i64 ((a02 s.2.2.1.2.1 (a00 s.2.1) 0)*(a02 s.2.2.1.2.2.1 (a00 s.2.1) 0)))),wrap .i64 (s.2.1+1),s.2.2.1,()))) none) none) (some (.inr (s.1,s.2.2.1,())))
def a2Z(x:Z32):Option Z54:= (x0r a4u (0,0,x,())).bind fun w1=> (b2g (z0h .i64 w1.1 16)).bind fun y2=> some (y2,w1.2.1)
def a6w:FSem:=⟨[.r false (.b Q13)],[.v QI],a2Z⟩
def d9R:Hints:=⟨[(58,[.sv 3 QI,.sv 4 QI,.box pinned Q13,.ptr 0 pinned []],[(.exit 0,[.sv 3 QI,.box pinned Q13])])],[],[(5,[.v,.p,.p,.q,.q,.v,.q,.q,.p,.p,.q,.q,.v,.q,.q,.v,.x,.x])]⟩
def b2h(x:Int):Option Int:= cond (decide (x > 0)) (some 1) (cond (decide (x<0)) (some (-1)) (some 0))
def c2N:FSem:=⟨[.v QI],[.v QI],b2h⟩
def d9S:Hints:=⟨[],[],[]⟩
def a3q(s:(Int×(Int×(Int×((List Int)×Z87))))):Option ((Int×(Int×(Int×((List Int)×Z87)))) ⊕ (Int×((List Int)×Z87))):= cond (decide (s.2.2.1<(s.2.2.2.2.2.1.2.1.length:Int))) (cond ((decide (0≤s.2.2.1))&&(decide (s.2.2.1<(s.2.2.2.2.2.1.2.1.length:Int)))) (cond ((decide (0≤s.2.2.1))&&(decide (s.2.2.1<(s.2.2.2.2.2.1.2.2.1.length:Int)))) ((b2h (a02 s.2.2.2.2.2.1.2.2.1 (a00 s.2.2.1) 0)).bind fun y4=> cond (decide ((wrap .u64 s.2.2.2.2.2.1.1)<0)) none (cond (lim ((a03 s.2.2.2.1)+1)) (some (.inl (s.1,s.2.1,wrap .i64 (s.2.2.1+1),a04 s.2.2.2.1 [v0a (u0z (wrap .i64 ((a02 s.2.2.2.2.2.1.2.1 (a00 s.2.2.1) 0)+(z0g .i64 (wrap .i64 (s.2.1*y4)) (wrap .u64 s.2.2.2.2.2.1.1)))) (-1048576)) 1048576],s.2.2.2.2.1,s.2.2.2.2.2.1,()))) none)) none) none) (some (.inr (s.1,s.2.2.2.1,s.2.2.2.2.1,s.2.2.2.2.2.1,())))
def a4R(x:Z55):Option Z32:= (b2g x.2).bind fun y1=> (a2Z x.1).bind fun y2=> (b2h (wrap .i64 (y1-y2.1))).bind fun y3=> (x0r a3q (y1,y3,0,[],[],y2.2,())).bind fun w5=> cond (lim ((a03 w5.2.2.1)+1)) (cond ((decide (0≤(wrap .i64 ((w5.2.2.2.1.2.2.1.length:Int)-1))))&&(decide ((wrap .i64 ((w5.2.2.2.1.2.2.1.length:Int)-1))≤(w5.2.2.2.1.2.2.1.length:Int)))) (cond (lim ((a03 (a04 w5.2.2.1 [w5.1]))+(a03 (a05 (a00 (wrap .i64 ((w5.2.2.2.1.2.2.1.length:Int)-1))) (a07 0 w5.2.2.2.1.2.2.1))))) (some (w5.2.2.2.1.1,w5.2.1,a04 (a04 w5.2.2.1 [w5.1]) (a05 (a00 (wrap .i64 ((w5.2.2.2.1.2.2.1.length:Int)-1))) (a07 0 w5.2.2.2.1.2.2.1)),w5.2.2.2.1.2.2.2)) none) none) none
def b0C:FSem:=⟨[.r false (.b Q13),.v QI],[],a4R⟩
def d9T:Hints:=⟨[(122,[.sv 1 QI,.sv 4 QI,.sv 7 QI,.own 5 5 QI,.own 6 6 QI,.box pinned Q13,.ptr 0 pinned []],[(.exit 0,[.sv 1 QI,.own 5 5 QI,.own 6 6 QI,.box pinned Q13,.ptr 0 pinned []])])],[],[(6,[.q,.p,.p,.q,.q,.v,.q,.q,.v,.p,.p,.q,.q,.v,.q,.q,.v,.v,.p,.p,.q,.q,.v,.v,.v,.v,.v,.q,.x,.x]),(7,[.q,.v,.q,.w [6,55,56],.p,.p,.r [59,pinned],.r [60,pinned],.p,.p,.r [63,pinned],.r [64,pinned],.r [65,pinned],.v,.r [67,pinned],.x,.x])]⟩
def a6x(s:c7P):Option (c7P ⊕ Z78):= cond (decide (s.2.2.1<(s.2.2.2.1.length:Int))) (cond ((decide (0≤s.2.2.1))&&(decide (s.2.2.1<(s.2.2.2.1.length:Int)))) ((a2Z s.2.2.2.2.1).bind fun y5=> cond ((decide (0≤s.2.2.1))&&(decide (s.2.2.1<(s.2.2.2.1.length:Int)))) ((a4R (y5.2,a02 s.2.2.2.1 (a00 s.2.2.1) 0)).bind fun y6=> some (.inl (s.1,s.2.1,wrap .i64 (s.2.2.1+1),a06 s.2.2.2.1 (a00 s.2.2.1) (wrap .i64 ((a02 s.2.2.2.1 (a00 s.2.2.1) 0)-y5.1)),y6,()))) none) none) (some (.inr (s.1,s.2.1,s.2.2.2.1,())))
def a4k(s:Z78):Option (Z78 ⊕ Z58):= cond (decide (s.2.1<(s.1.length:Int))) ((l0z s.1 s.2.1).bind fun x3=> (a6v x3).bind fun y4=> (x0r a6x (s.1,s.2.1,0,s.2.2.1,y4.1,())).bind fun w7=> (a0Q w7.2.2.1).bind fun y8=> cond (!y8) (some (.inr (Sum.inr ((6,[],()))))) (some (.inl (w7.1,wrap .i64 (w7.2.1+1),w7.2.2.1,())))) (some (.inr (Sum.inl (s.2.2.1,()))))
def a8U(x:Z33):Option ((List Int)×Int):= (a5r x.2).bind fun y1=> cond (!y1) (some ([],1)) ((a0Q x.1).bind fun y2=> cond (!y2) (some ([],6)) (cond (lim (0+(a03 x.1))) ((x0r a4k (x.2,0,a04 [] x.1,())).bind fun w9=> match w9 with |.inl a10=>some (a10.1,0) |.inr b11=>some (b11.2.1,b11.1)) none))
def b6j:FSem:=⟨[.v QL,.v (.list false Q4)],[.o QI,.v QI],a8U⟩
def d9U:Hints:=⟨[(250,[.sv 1 (.list false Q4),.sv 7 QI,.own 6 6 QI],[(.exit 0,[.own 6 6 QI]),(.ret,[.sv 5 QI,.own 4 4 QI])]),(64074,[.sv 1 (.list false Q4),.sv 7 QI,.sv 10 QI,.own 6 6 QI,.box 1032 Q13,.ptr 8 1032 []],[(.exit 2,[.sv 1 (.list false Q4),.sv 7 QI,.own 6 6 QI])])],[],[]⟩
def b2i(x:(a1w×(List Int))):Option Z12:= cond (x.1.1==2) ((a2B (x.2,x.1.2.2.1)).bind fun y1=> cond ((decide (0≤x.1.2.2.1))&&(decide (x.1.2.2.1≤(x.2.length:Int)))) (some (a05 (a00 x.1.2.2.1) x.2,y1.1,y1.2)) none) ((show Option ((List Int)×b9o)from cond (x.1.1==3) (some (x.2,x.1.1,x.1.1==3,x.1,())) (some (x.2,x.1.1,x.1.1==4,x.1,()))).bind fun z2=> cond z2.2.2.1 ((show Option (d2Z ⊕ Z35)from cond (z2.2.2.2.1.1==4) ((a7q (z2.1,z2.2.2.2.1.2.2.2.2.1,z2.2.2.2.1.2.2.2.2.2.2.1)).bind fun y3=> cond (y3.2 != 0) (some (Sum.inr (([],[],y3.2,())))) (some (Sum.inl (y3.1,z2.2.2.2.1,())))) (some (Sum.inl (z2.1,z2.2.2.2.1,())))).bind fun z4=> match z4 with |.inl a5=>((a7L (a5.1,a5.2.1.2.2.2.2.2.1,a5.2.1.2.2.2.1)).bind fun y7=> cond ((decide (0≤(a5.2.1.2.2.2.2.2.1.length:Int)))&&(decide ((a5.2.1.2.2.2.2.2.1.length:Int)≤(a5.1.length:Int)))) (some (a05 (a00 (a5.2.1.2.2.2.2.2.1.length:Int)) a5.1,y7.1,y7.2)) none) |.inr b6=>some (b6.1,b6.2.1,b6.2.2.1)) (cond (z2.2.1==5) ((a8U (z2.1,z2.2.2.2.1.2.2.2.2.2.2.2.1)).bind fun y8=> some ([],y8.1,y8.2)) (some (z2.1,[],0))))
def c2O:FSem:=⟨[.v Q39,.v QL],[.v QL,.v QL,.v QI],b2i⟩
def d9V:Hints:=⟨[],[(107,[(.normal,[.sv 1 QL,.sv 16 QI,.sv 32 .bool,.vp 2 Q39])]),(430,[(.normal,[.sv 1 QL,.vp 2 Q39]),(.ret,[.sv 4 QL,.sv 5 QL,.sv 6 QI])])],[]⟩
def b5r(x:(Int×Int)):Option Bool:= cond (decide (x.1≥1)) (cond (decide (x.1≤4096)) (cond (decide (x.2≥0)) (some (decide (x.2≤x.1))) (some false)) (some false)) (some false)
def c2b:FSem:=⟨[.v QI,.v QI],[.v .bool],b5r⟩
def d9W:Hints:=⟨[],[],[]⟩
def a6y(s:(Int×Z38)):Option ((Int×Z38) ⊕ Z4):= cond (decide ((wrap .u64 s.1)<0)) none (cond (decide (s.2.2.2.1<(z0g .i64 1 (wrap .u64 s.1)))) (cond (decide ((wrap .u64 s.1)<0)) none (cond (lim ((a03 s.2.2.2.2.1)+1)) (some (.inl (s.1,s.2.1,s.2.2.1,wrap .i64 (s.2.2.2.1+1),a04 s.2.2.2.2.1 [z0h .i64 s.2.1 (wrap .u64 s.1)],()))) none)) (some (.inr (s.2.2.1,s.2.2.2.2.1,()))))
def a3r(x:(Int×Int×Int)):Option (List Int):= (show Option Z29 from(b5r (x.2.1,x.2.2)).bind fun y1=> cond (!y1) (some (x.1,x.2.1,x.2.2,true,())) (cond (decide (x.1<0)) (some (x.1,x.2.1,x.2.2,true,())) (cond (decide (x.1 > 8)) (some (x.1,x.2.1,x.2.2,true,())) (cond (decide ((wrap .u64 x.1)<0)) none (cond ((z0g .i64 1 (wrap .u64 x.1))==0) none (cond ((a26 x.2.1 (z0g .i64 1 (wrap .u64 x.1))) != 0) (some (x.1,x.2.1,x.2.2,true,())) (cond (decide ((wrap .u64 x.1)<0)) none (some (x.1,x.2.1,x.2.2,decide ((z0h .i64 x.2.1 (wrap .u64 x.1))<x.2.2),()))))))))).bind fun z2=> cond z2.2.2.2.1 (some []) ((x0r a6y (z2.1,z2.2.1,z2.2.2.1,0,[],())).bind fun w3=> cond (decide (0<(w3.2.1.length:Int))) (cond (decide (0<(w3.2.1.length:Int))) (some (a06 w3.2.1 0 (wrap .i64 ((a02 w3.2.1 0 0)-w3.1)))) none) none)
def a6z:FSem:=⟨[.v QI,.v QI,.v QI],[.o QI],a3r⟩
def d9X:Hints:=⟨[(122,[.sv 0 QI,.sv 1 QI,.sv 2 QI,.sv 8 QI,.own 7 7 QI],[(.exit 0,[.sv 2 QI,.own 7 7 QI])])],[(6,[(.normal,[.sv 0 QI,.sv 1 QI,.sv 2 QI,.sv 36 .bool])])],[]⟩
def a3a(x:Int):Option Bool:= cond (decide (x≥0)) (some (decide (x≤25))) (some false)
def a9M:FSem:=⟨[.v QI],[.v .bool],a3a⟩
def d9Y:Hints:=⟨[],[],[]⟩
def a3S(s:(Int×Z24)):Option ((Int×Z24) ⊕ Z0):= cond (decide (s.1<(s.2.1.2.1.length:Int))) ((show Option (Int×Z48)from(l0z s.2.1.2.1 s.1).bind fun x3=> (a3a x3).bind fun y4=> cond (!y4) ((l0z s.2.1.2.1 s.1).bind fun x5=> some (s.1,x5 != 31,s.2.1,())) (some (s.1,false,s.2.1,()))).bind fun z6=> cond z6.2.1 (some (.inr (Sum.inr ((false,()))))) (some (.inl (wrap .i64 (z6.1+1),z6.2.2.1,())))) (some (.inr (Sum.inl ())))
def a5X(x:(Z4×Int×Int)):Option Bool:= (a3r (x.1.1,x.2.1,x.2.2)).bind fun y1=> (show Option Z48 from cond ((y1.length:Int)==0) (some (true,x.1,())) (some ((y1.length:Int) != (x.1.2.1.length:Int),x.1,()))).bind fun z2=> cond z2.1 (some false) ((x0r a3S (0,z2.2.1,())).bind fun w7=> match w7 with |.inl a8=>some true |.inr b9=>some b9.1)
def b4n:FSem:=⟨[.v Q8,.v QI,.v QI],[.v .bool],a5X⟩
def d9Z:Hints:=⟨[(122,[.sv 8 QI,.vp 3 Q8],[(.exit 0,[]),(.ret,[.sv 6 .bool])])],[(14,[(.normal,[.sv 24 .bool,.vp 3 Q8])]),(1956,[(.normal,[.sv 8 QI,.sv 46 .bool,.vp 3 Q8])])],[]⟩
def a8o(s:Z17):Option (Z17 ⊕ Z17):= cond (decide (s.2.1<32)) ((l0z s.1 s.2.2.1).bind fun x1=> cond (x1 != 0) ((l0z s.1 s.2.2.1).bind fun x2=> (a7z (x2,s.2.1)).bind fun y3=> cond (!y3) (some (.inl (s.1,wrap .i64 (s.2.1+1),s.2.2.1,()))) (some (.inr (s.1,s.2.1,s.2.2.1,())))) (some (.inr (s.1,s.2.1,s.2.2.1,())))) (some (.inr (s.1,s.2.1,s.2.2.1,())))
def b1e(s:Z17):Option Z65:= cond (decide (s.2.2.1<(s.1.length:Int))) ((x0r a8o (s.1,s.2.1,s.2.2.1,())).bind fun w4=> some (.inl (w4.1,w4.2.1,wrap .i64 (w4.2.2.1+1),()))) (some (.inr (s.2.1,())))
def a7M(x:(List Int)):Option Int:= (x0r b1e (x,0,0,())).bind fun w5=> some w5.1
def b2j:FSem:=⟨[.v QL],[.v QI],a7M⟩
def e0A:Hints:=⟨[(58,[.sv 0 QL,.sv 3 QI,.sv 4 QI],[(.exit 0,[.sv 3 QI])]),(1864,[.sv 0 QL,.sv 3 QI,.sv 4 QI],[(.exit 2,[.sv 0 QL,.sv 3 QI,.sv 4 QI])])],[],[]⟩
def c2c(x:Int):Option Int:= (show Option (Int×Unit)from cond (decide (x<0)) (some (bits .u64 .xor (IntKind.max .u64) (z0g .u64 (wrap .u64 x) 1),())) (some (z0g .u64 (wrap .u64 x) 1,()))).bind fun z1=> some z1.1
def c5P:FSem:=⟨[.v QI],[.v (.int .u64)],c2c⟩
def e0B:Hints:=⟨[],[(7,[(.normal,[.sv 3 (.int .u64)])])],[]⟩
def b3R(x:Int):Option Int:= (a2A x).bind fun y1=> cond (!y1) (some 0) ((c2c x).bind fun y2=> some y2)
def b9N:FSem:=⟨[.v QI],[.v (.int .u64)],b3R⟩
def e0C:Hints:=⟨[],[],[]⟩
def a5Y(x:(Int×Int)):Option Int:= (show Option Z11 from(a3a x.1).bind fun y1=> cond (!y1) (some (x.1,x.2,true,())) ((a2A x.2).bind fun y2=> some (x.1,x.2,!y2,()))).bind fun z3=> cond z3.2.2.1 (some 0) ((b3R z3.2.1).bind fun y4=> cond (decide ((wrap .u64 z3.1)<0)) none (cond (decide ((wrap .i64 (z0h .u64 y4 (wrap .u64 z3.1)))<32)) (some (wrap .i64 ((wrap .i64 ((wrap .i64 (z0h .u64 y4 (wrap .u64 z3.1)))+1))+z3.1))) (some 65)))
def b8R:FSem:=⟨[.v QI,.v QI],[.v QI],a5Y⟩
def e0D:Hints:=⟨[],[(6,[(.normal,[.sv 0 QI,.sv 1 QI,.sv 13 .bool])])],[]⟩
def a3s(s:Z37):Option (Z37 ⊕ (Int×Unit)):= cond (decide (s.2.2.2.1<(s.2.1.length:Int))) ((l0z s.2.1 s.2.2.2.1).bind fun x1=> (a5Y (s.1,x1)).bind fun y2=> some (.inl (s.1,s.2.1,wrap .i64 (s.2.2.1+y2),wrap .i64 (s.2.2.2.1+1),()))) (some (.inr (s.2.2.1,())))
def a3t(x:(Int×(List Int))):Option Int:= (x0r a3s (x.1,x.2,0,0,())).bind fun w3=> some w3.1
def b2k:FSem:=⟨[.v QI,.v QL],[.v QI],a3t⟩
def e0E:Hints:=⟨[(58,[.sv 0 QI,.sv 1 QL,.sv 5 QI,.sv 6 QI],[(.exit 0,[.sv 5 QI])])],[],[]⟩
def a2K(x:(Int×(List Int))):Option Int:= cond (x.1==31) ((a7M x.2).bind fun y1=> some (wrap .i64 (5+(wrap .i64 ((x.2.length:Int)*y1))))) ((a3t (x.1,x.2)).bind fun y2=> some y2)
def b4o:FSem:=⟨[.v QI,.v QL],[.v QI],a2K⟩
def e0F:Hints:=⟨[],[],[]⟩
def a2y(s:c7O):Option (c7O ⊕ (Int×Unit)):= cond (decide (s.2.2.2.1<(s.2.2.2.2.1.length:Int))) ((l0z s.2.2.2.2.2.1.2.1 s.2.2.2.1).bind fun x5=> cond ((decide (0≤s.2.2.2.1))&&(decide (s.2.2.2.1<(s.2.2.2.2.1.length:Int)))) (cond ((decide (0≤(wrap .i64 (s.2.2.1+(a02 s.2.2.2.2.1 (a00 s.2.2.2.1) 0)))))&&(decide ((wrap .i64 (s.2.2.1+(a02 s.2.2.2.2.1 (a00 s.2.2.2.1) 0)))≤(s.1.length:Int)))) (cond ((decide (0≤s.2.2.1))&&(decide (s.2.2.1≤((a00 (wrap .i64 (s.2.2.1+(a02 s.2.2.2.2.1 (a00 s.2.2.2.1) 0))):Nat):Int)))) ((a2K (x5,a07 (a00 s.2.2.1) (a05 (a00 (wrap .i64 (s.2.2.1+(a02 s.2.2.2.2.1 (a00 s.2.2.2.1) 0)))) s.1))).bind fun y6=> cond ((decide (0≤s.2.2.2.1))&&(decide (s.2.2.2.1<(s.2.2.2.2.1.length:Int)))) (some (.inl (s.1,wrap .i64 ((wrap .i64 (s.2.1+5))+y6),wrap .i64 (s.2.2.1+(a02 s.2.2.2.2.1 (a00 s.2.2.2.1) 0)),wrap .i64 (s.2.2.2.1+1),s.2.2.2.2.1,s.2.2.2.2.2.1,()))) none) none) none) none) (some (.inr (s.2.1,())))
def a2t(x:Z72):Option Int:= (show Option (Int×(Int×((List Int)×Z48)))from(a5X (x.1,x.2.1,x.2.2.1)).bind fun y1=> cond (!y1) (some (x.2.1,x.2.2.1,x.2.2.2,true,x.1,())) (cond ((x.2.2.2.length:Int) != (wrap .i64 (x.2.1-x.2.2.1))) (some (x.2.1,x.2.2.1,x.2.2.2,true,x.1,())) ((a0Q x.2.2.2).bind fun y2=> some (x.2.1,x.2.2.1,x.2.2.2,!y2,x.1,())))).bind fun z3=> cond z3.2.2.2.1 (some 0) ((a3r (z3.2.2.2.2.1.1,z3.1,z3.2.1)).bind fun y4=> (x0r a2y (z3.2.2.1,4,0,0,y4,z3.2.2.2.2.1,())).bind fun w7=> some w7.1)
def b2U:FSem:=⟨[.v Q8,.v QI,.v QI,.v QL],[.v QI],a2t⟩
def e0G:Hints:=⟨[(250,[.sv 3 QL,.sv 9 QI,.sv 10 QI,.sv 12 QI,.own 11 11 QI,.vp 4 Q8],[(.exit 0,[.sv 9 QI])])],[(6,[(.normal,[.sv 1 QI,.sv 2 QI,.sv 3 QL,.sv 30 .bool,.vp 4 Q8])])],[(8,[.v,.v,.v,.v,.v,.v,.v,.v,.v,.v,.q,.v,.q,.q,.v,.v,.v,.x,.x])]⟩
def a7N(s:Z17):Option Z65:= cond (decide (s.2.2.1≤25)) ((a3t (s.2.2.1,s.1)).bind fun y1=> (a3t (s.2.1,s.1)).bind fun y2=> cond (decide (y1<y2)) (some (.inl (s.1,s.2.2.1,wrap .i64 (s.2.2.1+1),()))) (some (.inl (s.1,s.2.1,wrap .i64 (s.2.2.1+1),())))) (some (.inr (s.2.1,())))
def b1f(x:(List Int)):Option Int:= (x0r a7N (x,0,1,())).bind fun w3=> some w3.1
def b8S:FSem:=⟨[.v QL],[.v QI],b1f⟩
def e0H:Hints:=⟨[(58,[.sv 0 QL,.sv 3 QI,.sv 4 QI],[(.exit 0,[.sv 3 QI])])],[],[]⟩
def b4O(x:(List Int)):Option Int:= (b1f x).bind fun y1=> (a2K (31,x)).bind fun y2=> (a3t (y1,x)).bind fun y3=> cond (decide (y2<y3)) (some 31) (some y1)
def c2P:FSem:=⟨[.v QL],[.v QI],b4O⟩
def e0I:Hints:=⟨[],[],[]⟩
def a4S(s:(Int×(Int×(Int×((List Int)×(Int×Int×c7R)))))):Option ((Int×(Int×(Int×((List Int)×(Int×Int×c7R))))) ⊕ (Int×(Int×(Int×((List Int)×(Int×Int×c5H)))))):= cond (decide (s.2.2.2.2.2.2.2.1<(s.2.2.2.2.2.2.2.2.1.length:Int))) (cond ((decide (0≤s.2.2.2.2.2.2.2.1))&&(decide (s.2.2.2.2.2.2.2.1<(s.2.2.2.2.2.2.2.2.1.length:Int)))) (cond ((decide (0≤(wrap .i64 (s.2.2.2.2.2.2.1+(a02 s.2.2.2.2.2.2.2.2.1 (a00 s.2.2.2.2.2.2.2.1) 0)))))&&(decide ((wrap .i64 (s.2.2.2.2.2.2.1+(a02 s.2.2.2.2.2.2.2.2.1 (a00 s.2.2.2.2.2.2.2.1) 0)))≤(s.2.2.2.1.length:Int)))) (cond ((decide (0≤s.2.2.2.2.2.2.1))&&(decide (s.2.2.2.2.2.2.1≤((a00 (wrap .i64 (s.2.2.2.2.2.2.1+(a02 s.2.2.2.2.2.2.2.2.1 (a00 s.2.2.2.2.2.2.2.1) 0))):Nat):Int)))) ((b4O (a07 (a00 s.2.2.2.2.2.2.1) (a05 (a00 (wrap .i64 (s.2.2.2.2.2.2.1+(a02 s.2.2.2.2.2.2.2.2.1 (a00 s.2.2.2.2.2.2.2.1) 0)))) s.2.2.2.1))).bind fun y5=> cond (lim ((a03 s.2.2.2.2.2.2.2.2.2.2.2.1.2.1)+1)) (cond ((decide (0≤s.2.2.2.2.2.2.2.1))&&(decide (s.2.2.2.2.2.2.2.1<(s.2.2.2.2.2.2.2.2.1.length:Int)))) (some (.inl (s.1,s.2.1,s.2.2.1,s.2.2.2.1,s.2.2.2.2.1,s.2.2.2.2.2.1,wrap .i64 (s.2.2.2.2.2.2.1+(a02 s.2.2.2.2.2.2.2.2.1 (a00 s.2.2.2.2.2.2.2.1) 0)),wrap .i64 (s.2.2.2.2.2.2.2.1+1),s.2.2.2.2.2.2.2.2.1,s.2.2.2.2.2.2.2.2.2.1,s.2.2.2.2.2.2.2.2.2.2.1,(s.2.2.2.2.2.2.2.2.2.2.2.1.1,a04 s.2.2.2.2.2.2.2.2.2.2.2.1.2.1 [y5],s.2.2.2.2.2.2.2.2.2.2.2.1.2.2),()))) none) none) none) none) none) (some (.inr (s.1,s.2.1,s.2.2.1,s.2.2.2.1,s.2.2.2.2.1,s.2.2.2.2.2.1,s.2.2.2.2.2.2.2.2.2.1,s.2.2.2.2.2.2.2.2.2.2.1,s.2.2.2.2.2.2.2.2.2.2.2.1,())))
def a3B(s:c7Q):Option (c7Q ⊕ Z92):= cond (decide (s.2.2.2.2.2.1≤(v0a (u0z s.2.2.1 0) 8))) ((a3r (s.2.2.2.2.2.1,s.1,s.2.1)).bind fun y4=> (x0r a4S (s.1,s.2.1,s.2.2.1,s.2.2.2.1,s.2.2.2.2.1,s.2.2.2.2.2.1,0,0,y4,s.2.2.2.2.2.2.1,s.2.2.2.2.2.2.2.1,(s.2.2.2.2.2.1,[],()),())).bind fun w6=> (a2t (w6.2.2.2.2.2.2.2.2.1,w6.1,w6.2.1,w6.2.2.2.1)).bind fun y7=> (show Option (Int×(Int×(Int×((List Int)×(Int×Int×Int×Bool×c5H)))))from cond (decide (y7 > 0)) (cond (w6.2.2.2.2.1==0) (some (w6.1,w6.2.1,w6.2.2.1,w6.2.2.2.1,w6.2.2.2.2.1,w6.2.2.2.2.2.1,y7,true,w6.2.2.2.2.2.2.1,w6.2.2.2.2.2.2.2.1,w6.2.2.2.2.2.2.2.2.1,())) (some (w6.1,w6.2.1,w6.2.2.1,w6.2.2.2.1,w6.2.2.2.2.1,w6.2.2.2.2.2.1,y7,decide (y7<w6.2.2.2.2.1),w6.2.2.2.2.2.2.1,w6.2.2.2.2.2.2.2.1,w6.2.2.2.2.2.2.2.2.1,()))) (some (w6.1,w6.2.1,w6.2.2.1,w6.2.2.2.1,w6.2.2.2.2.1,w6.2.2.2.2.2.1,y7,false,w6.2.2.2.2.2.2.1,w6.2.2.2.2.2.2.2.1,w6.2.2.2.2.2.2.2.2.1,()))).bind fun z8=> cond z8.2.2.2.2.2.2.2.1 (some (.inl (z8.1,z8.2.1,z8.2.2.1,z8.2.2.2.1,z8.2.2.2.2.2.2.1,wrap .i64 (z8.2.2.2.2.2.1+1),z8.2.2.2.2.2.2.2.2.1,z8.2.2.2.2.2.2.2.2.2.2.1,()))) (some (.inl (z8.1,z8.2.1,z8.2.2.1,z8.2.2.2.1,z8.2.2.2.2.1,wrap .i64 (z8.2.2.2.2.2.1+1),z8.2.2.2.2.2.2.2.2.1,z8.2.2.2.2.2.2.2.2.2.1,())))) (some (.inr (s.2.2.2.2.2.2.1,s.2.2.2.2.2.2.2.1,())))
def a9N(x:(Int×Z3)):Option (Z4×Int):= (show Option (Int×(Int×(Int×((List Int)×Z48))))from(b5r (x.1,x.2.1)).bind fun y1=> cond (!y1) (some (x.1,x.2.1,x.2.2.1,x.2.2.2,true,(0,[],()),())) (cond ((x.2.2.2.length:Int) != (wrap .i64 (x.1-x.2.1))) (some (x.1,x.2.1,x.2.2.1,x.2.2.2,true,(0,[],()),())) ((a0Q x.2.2.2).bind fun y2=> some (x.1,x.2.1,x.2.2.1,x.2.2.2,!y2,(0,[],()),())))).bind fun z3=> cond z3.2.2.2.2.1 (some ((0,[],()),1)) ((x0r a3B (z3.1,z3.2.1,z3.2.2.1,z3.2.2.2.1,0,0,z3.2.2.2.2.2.1,(0,[],()),())).bind fun w9=> some (w9.2.1,0))
def b7B:FSem:=⟨[.v QI,.v QI,.v QI,.v QL],[.v Q8,.v QI],a9N⟩
def e0J:Hints:=⟨[(250,[.sv 0 QI,.sv 1 QI,.sv 2 QI,.sv 3 QL,.sv 11 QI,.sv 12 QI,.box 8 Q8,.box 10 Q8,.ptr 8 8 [],.ptr 10 10 []],[(.exit 0,[.box 8 Q8,.box 10 Q8,.ptr 8 8 [],.ptr 10 10 []])]),(128154,[.sv 0 QI,.sv 1 QI,.sv 2 QI,.sv 3 QL,.sv 11 QI,.sv 12 QI,.sv 14 QI,.sv 16 QI,.own 13 13 QI,.box 8 Q8,.box 10 Q8,.box 15 Q7,.ptr 8 8 [],.ptr 10 10 [],.ptr 15 15 []],[(.exit 2,[.sv 0 QI,.sv 1 QI,.sv 2 QI,.sv 3 QL,.sv 11 QI,.sv 12 QI,.box 8 Q8,.box 10 Q8,.box 15 Q7,.ptr 8 8 [],.ptr 10 10 [],.ptr 15 15 []])])],[(6,[(.normal,[.sv 0 QI,.sv 1 QI,.sv 2 QI,.sv 3 QL,.sv 34 .bool,.box 8 Q8,.ptr 8 8 []])]),(64079,[(.normal,[.sv 0 QI,.sv 1 QI,.sv 2 QI,.sv 3 QL,.sv 11 QI,.sv 12 QI,.sv 17 QI,.sv 91 .bool,.box 8 Q8,.box 10 Q8,.box 15 Q8,.ptr 8 8 [],.ptr 10 10 [],.ptr 15 15 []])])],[(13,[.q,.q,.v,.v,.v,.q,.v,.q,.q,.v,.v,.v,.q,.x,.x,.x])]⟩
def b1g(x:(Int×((List Int)×a1w))):Option a9a:= (show Option (Int×((List Int)×d3b))from cond (x.1==2) (some (x.1,x.2.1,(x.2.1.length:Int),(0,0,0,0,0,[],a01 3 0,[],[],(0,[],()),[],()),(x.1,0,x.2.2.2.2.1,0,0,[],a01 3 0,[],[],(0,[],()),[],()),())) (cond (x.1==3) (some (x.1,x.2.1,(x.2.1.length:Int),(0,0,0,0,0,[],a01 3 0,[],[],(0,[],()),[],()),(x.1,0,0,x.2.2.2.2.2.1,0,x.2.2.2.2.2.2.2.1,a01 3 0,[],[],(0,[],()),[],()),())) (cond (x.1==4) (some (x.1,x.2.1,(x.2.1.length:Int),(0,0,0,0,0,[],a01 3 0,[],[],(0,[],()),[],()),(x.1,0,0,x.2.2.2.2.2.1,x.2.2.2.2.2.2.1,x.2.2.2.2.2.2.2.1,x.2.2.2.2.2.2.2.2.1,[],[],(0,[],()),[],()),())) (cond (x.1==5) (some (x.1,x.2.1,(x.2.1.length:Int),(0,0,0,0,0,[],a01 3 0,[],[],(0,[],()),[],()),(x.1,0,0,0,0,[],a01 3 0,x.2.2.2.2.2.2.2.2.2.1,[],(0,[],()),[],()),())) (some (x.1,x.2.1,(x.2.1.length:Int),(0,0,0,0,0,[],a01 3 0,[],[],(0,[],()),[],()),(x.1,0,0,0,0,[],a01 3 0,[],[],(0,[],()),[],()),())))))).bind fun z1=> (show Option (Int×((List Int)×(Int×Bool×b2M)))from cond (decide (z1.2.2.1<1)) (some (z1.1,z1.2.1,z1.2.2.1,true,z1.2.2.2.1,z1.2.2.2.2.1,())) (cond (decide (z1.2.2.1 > 4096)) (some (z1.1,z1.2.1,z1.2.2.1,true,z1.2.2.2.1,z1.2.2.2.2.1,())) ((b0T (z1.2.2.2.2.1,z1.2.2.1)).bind fun y2=> some (z1.1,z1.2.1,z1.2.2.1,decide (y2<0),z1.2.2.2.1,z1.2.2.2.2.1,())))).bind fun z3=> cond z3.2.2.2.1 (some ((0,0,0,0,0,[],a01 3 0,[],[],(0,[],()),[],()),1)) ((a0Q z3.2.1).bind fun y4=> cond (!y4) (some ((0,0,0,0,0,[],a01 3 0,[],[],(0,[],()),[],()),6)) (cond (z3.1==0) ((b3z z3.2.1).bind fun y5=> cond (!y5) (some ((0,0,0,0,0,[],a01 3 0,[],[],(0,[],()),[],()),7)) (cond (decide (1≤(z3.2.1.length:Int))) (some ((z3.2.2.2.2.2.1.1,z3.2.2.2.2.2.1.2.1,z3.2.2.2.2.2.1.2.2.1,z3.2.2.2.2.2.1.2.2.2.1,z3.2.2.2.2.2.1.2.2.2.2.1,z3.2.2.2.2.2.1.2.2.2.2.2.1,z3.2.2.2.2.2.1.2.2.2.2.2.2.1,z3.2.2.2.2.2.1.2.2.2.2.2.2.2.1,a05 1 z3.2.1,z3.2.2.2.2.2.1.2.2.2.2.2.2.2.2.2),0)) none)) ((a6M z3.2.1).bind fun y6=> (b3Q (z3.2.1,y6)).bind fun y7=> (b2i ((z3.2.2.2.2.2.1.1,y6,z3.2.2.2.2.2.1.2.2),y7.1)).bind fun y8=> cond (y8.2.2 != 0) (some ((0,0,0,0,0,[],a01 3 0,[],[],(0,[],()),[],()),6)) ((show Option b2M from(a4F z3.1).bind fun y9=> cond y9 ((a9N (z3.2.2.1,(y8.1.length:Int),6,y8.2.1)).bind fun y10=> some (z3.2.2.2.2.1,(z3.2.2.2.2.2.1.1,y6,z3.2.2.2.2.2.1.2.2.1,z3.2.2.2.2.2.1.2.2.2.1,z3.2.2.2.2.2.1.2.2.2.2.1,z3.2.2.2.2.2.1.2.2.2.2.2.1,z3.2.2.2.2.2.1.2.2.2.2.2.2.1,z3.2.2.2.2.2.1.2.2.2.2.2.2.2.1,y8.1,y10.1,y8.2.1,z3.2.2.2.2.2.1.2.2.2.2.2.2.2.2.2.2.2),())) (some (z3.2.2.2.2.1,(z3.2.2.2.2.2.1.1,y6,z3.2.2.2.2.2.1.2.2.1,z3.2.2.2.2.2.1.2.2.2.1,z3.2.2.2.2.2.1.2.2.2.2.1,z3.2.2.2.2.2.1.2.2.2.2.2.1,z3.2.2.2.2.2.1.2.2.2.2.2.2.1,z3.2.2.2.2.2.1.2.2.2.2.2.2.2.1,y8.1,z3.2.2.2.2.2.1.2.2.2.2.2.2.2.2.2.1,y8.2.1,z3.2.2.2.2.2.1.2.2.2.2.2.2.2.2.2.2.2),()))).bind fun z11=> some (z11.2.1,0)))))
def b8T:FSem:=⟨[.v QI,.v QL,.v Q39],[.v Q39,.v QI],b1g⟩
def e0K:Hints:=⟨[],[(15,[(.normal,[.sv 0 QI,.sv 1 QL,.sv 8 QI,.box 6 Q39,.box 9 Q39,.ptr 6 6 [],.ptr 9 9 []])]),(62,[(.normal,[.sv 0 QI,.sv 1 QL,.sv 8 QI,.sv 63 .bool,.box 6 Q39,.box 9 Q39,.ptr 6 6 [],.ptr 9 9 []])]),(8191,[(.normal,[.box 6 Q39,.box 9 Q39,.ptr 6 6 [],.ptr 9 9 []])])],[(7,[.v,.v,.v,.v,.q,.w [0,9],.x,.x]),(9,[.v,.v,.v,.v,.v,.v,.v,.v,.q,.w [0,9],.q,.w [0,9],.q,.w [0,9],.x,.x])]⟩
def b3A(x:a1w):Option a1w:= cond (x.1==0) (some (x.1,0,0,0,0,[],a01 3 0,[],x.2.2.2.2.2.2.2.2.1,(0,[],()),[],())) (cond (x.1==1) (some (x.1,x.2.1,0,0,0,[],a01 3 0,[],x.2.2.2.2.2.2.2.2.1,(0,[],()),[],())) ((show Option b2M from cond (x.1==2) (some ((0,0,0,0,0,[],a01 3 0,[],[],(0,[],()),[],()),(x.1,x.2.1,x.2.2.1,0,0,[],a01 3 0,[],x.2.2.2.2.2.2.2.2.1,x.2.2.2.2.2.2.2.2.2.1,x.2.2.2.2.2.2.2.2.2.2.1,()),())) (cond (x.1==3) (some ((0,0,0,0,0,[],a01 3 0,[],[],(0,[],()),[],()),(x.1,x.2.1,0,x.2.2.2.1,0,x.2.2.2.2.2.1,a01 3 0,[],x.2.2.2.2.2.2.2.2.1,x.2.2.2.2.2.2.2.2.2.1,x.2.2.2.2.2.2.2.2.2.2.1,()),())) (cond (x.1==4) (some ((0,0,0,0,0,[],a01 3 0,[],[],(0,[],()),[],()),(x.1,x.2.1,0,x.2.2.2.1,x.2.2.2.2.1,x.2.2.2.2.2.1,x.2.2.2.2.2.2.1,[],x.2.2.2.2.2.2.2.2.1,x.2.2.2.2.2.2.2.2.2.1,x.2.2.2.2.2.2.2.2.2.2.1,()),())) (cond (x.1==5) (some ((0,0,0,0,0,[],a01 3 0,[],[],(0,[],()),[],()),(x.1,x.2.1,0,0,0,[],a01 3 0,x.2.2.2.2.2.2.2.1,[],x.2.2.2.2.2.2.2.2.2.1,x.2.2.2.2.2.2.2.2.2.2.1,()),())) (some ((0,0,0,0,0,[],a01 3 0,[],[],(0,[],()),[],()),(x.1,x.2.1,0,0,0,[],a01 3 0,[],x.2.2.2.2.2.2.2.2.1,x.2.2.2.2.2.2.2.2.2.1,x.2.2.2.2.2.2.2.2.2.2.1,()),())))))).bind fun z1=> some z1.2.1))
def c1G:FSem:=⟨[.v Q39],[.v Q39],b3A⟩
def e0L:Hints:=⟨[],[(127,[(.normal,[.box 2 Q39,.box 3 Q39,.ptr 2 2 [],.ptr 3 3 []])])],[(7,[.v,.v,.v,.v,.q,.w [0,3],.x,.x]),(12,[.v,.v,.v,.v,.q,.w [0,3],.x,.x]),(14,[.v,.v,.v,.v,.v,.v,.v,.v,.q,.w [0,3],.q,.w [0,3],.q,.w [0,3],.x,.x])]⟩
def b5s(x:Int):Option (List Int):= cond ((decide (0≤x))&&(decide (x<5))) (some (a02 ([[],[1],[2,(-1)],[3,(-3),1],[4,(-6),4,(-1)]]:List (List Int)) (a00 x) [])) none
def b9O:FSem:=⟨[.v QI],[.v QL],b5s⟩
def e0M:Hints:=⟨[],[],[]⟩
def a4l(s:((List Int)×(Int×Z73))):Option (((List Int)×(Int×Z73)) ⊕ Z96):= cond (decide (s.2.2.2.2.2.1<s.2.1)) ((l0z s.2.2.1 s.2.2.2.2.2.1).bind fun x7=> cond ((decide (0≤(wrap .i64 ((wrap .i64 ((s.2.2.2.2.2.2.1.length:Int)-1))-s.2.2.2.2.2.1))))&&(decide ((wrap .i64 ((wrap .i64 ((s.2.2.2.2.2.2.1.length:Int)-1))-s.2.2.2.2.2.1))<(s.2.2.2.2.2.2.1.length:Int)))) (some (.inl (s.1,s.2.1,s.2.2.1,s.2.2.2.1,wrap .i64 (s.2.2.2.2.1+(wrap .i64 (x7*(a02 s.2.2.2.2.2.2.1 (a00 (wrap .i64 ((wrap .i64 ((s.2.2.2.2.2.2.1.length:Int)-1))-s.2.2.2.2.2.1))) 0)))),wrap .i64 (s.2.2.2.2.2.1+1),s.2.2.2.2.2.2.1,()))) none) (some (.inr (s.1,s.2.1,s.2.2.1,s.2.2.2.1,s.2.2.2.2.1,s.2.2.2.2.2.2.1,())))
def a6A(s:((List Int)×(Int×Z34))):Option (((List Int)×(Int×Z34)) ⊕ Z58):= cond (decide (s.2.2.2.1<(s.1.length:Int))) ((l0z s.1 s.2.2.2.1).bind fun x6=> (x0r a4l (s.1,s.2.1,s.2.2.1,s.2.2.2.1,x6,0,s.2.2.2.2.1,())).bind fun w8=> (a2A w8.2.2.2.2.1).bind fun y9=> cond (!y9) (some (.inr (Sum.inr ((6,[],()))))) (cond (lim ((a03 w8.2.2.2.2.2.1)+1)) (some (.inl (w8.1,w8.2.1,w8.2.2.1,wrap .i64 (w8.2.2.2.1+1),a04 w8.2.2.2.2.2.1 [w8.2.2.2.2.1],()))) none)) (some (.inr (Sum.inl (s.2.2.2.2.1,()))))
def a8V(x:Z12):Option ((List Int)×Int):= (show Option Z60 from cond (decide (x.2.2<0)) (some (x.1,x.2.1,x.2.2,true,())) (cond (decide (x.2.2 > 4)) (some (x.1,x.2.1,x.2.2,true,())) (some (x.1,x.2.1,x.2.2,(x.1.length:Int) != x.2.2,())))).bind fun z1=> cond z1.2.2.2.1 (some ([],1)) ((show Option Z60 from(a0Q z1.1).bind fun y2=> cond (!y2) (some (z1.1,z1.2.1,z1.2.2.1,true,())) ((a0Q z1.2.1).bind fun y3=> some (z1.1,z1.2.1,z1.2.2.1,!y3,()))).bind fun z4=> cond z4.2.2.2.1 (some ([],6)) (cond (lim (0+(a03 z4.1))) ((b5s z4.2.2.1).bind fun y5=> (x0r a6A (z4.2.1,z4.2.2.1,y5,0,a04 [] z4.1,())).bind fun w10=> match w10 with |.inl a11=>some (a11.1,0) |.inr b12=>some (b12.2.1,b12.1)) none))
def b6k:FSem:=⟨[.v QL,.v QL,.v QI],[.o QI,.v QI],a8V⟩
def e0N:Hints:=⟨[(250,[.sv 1 QL,.sv 2 QI,.sv 9 QL,.sv 10 QI,.own 8 8 QI],[(.exit 0,[.own 8 8 QI]),(.ret,[.sv 7 QI,.own 6 6 QI])]),(64074,[.sv 1 QL,.sv 2 QI,.sv 9 QL,.sv 10 QI,.sv 11 QI,.sv 12 QI,.own 8 8 QI],[(.exit 2,[.sv 1 QL,.sv 2 QI,.sv 9 QL,.sv 10 QI,.sv 11 QI,.own 8 8 QI])])],[(6,[(.normal,[.sv 0 QL,.sv 1 QL,.sv 2 QI,.sv 24 .bool])]),(14,[(.normal,[.sv 0 QL,.sv 1 QL,.sv 2 QI,.sv 32 .bool])])],[(13,[.v,.v,.v,.v,.v,.q,.q,.q,.v,.v,.v,.q,.q,.v,.x,.x])]⟩
def a5O(s:Z83):Option (Z83 ⊕ Z58):= cond (decide (s.2.2.2.1<(s.1.length:Int))) ((l0z s.1 s.2.2.2.1).bind fun x6=> (a4Q (s.2.2.2.2.1,s.2.1,s.2.2.1)).bind fun y7=> (a2A (wrap .i64 (x6+y7))).bind fun y8=> cond (!y8) (some (.inr (Sum.inr ((6,[],()))))) (cond (lim ((a03 s.2.2.2.2.1)+1)) (some (.inl (s.1,s.2.1,s.2.2.1,wrap .i64 (s.2.2.2.1+1),a04 s.2.2.2.2.1 [wrap .i64 (x6+y7)],()))) none)) (some (.inr (Sum.inl (s.2.2.2.2.1,()))))
def a5F(x:((List Int)×Z12)):Option ((List Int)×Int):= (show Option Z88 from(a3o (x.2.2.1,x.2.2.2)).bind fun y1=> cond (!y1) (some (x.1,x.2.1,x.2.2.1,x.2.2.2,true,())) (some (x.1,x.2.1,x.2.2.1,x.2.2.2,(x.1.length:Int) != (x.2.2.1.length:Int),()))).bind fun z2=> cond z2.2.2.2.2.1 (some ([],1)) ((show Option Z88 from(a0Q z2.1).bind fun y3=> cond (!y3) (some (z2.1,z2.2.1,z2.2.2.1,z2.2.2.2.1,true,())) ((a0Q z2.2.1).bind fun y4=> some (z2.1,z2.2.1,z2.2.2.1,z2.2.2.2.1,!y4,()))).bind fun z5=> cond z5.2.2.2.2.1 (some ([],6)) (cond (lim (0+(a03 z5.1))) ((x0r a5O (z5.2.1,z5.2.2.1,z5.2.2.2.1,0,a04 [] z5.1,())).bind fun w9=> match w9 with |.inl a10=>some (a10.1,0) |.inr b11=>some (b11.2.1,b11.1)) none))
def b5t:FSem:=⟨[.v QL,.v QL,.v QL,.v QI],[.o QI,.v QI],a5F⟩
def e0O:Hints:=⟨[(250,[.sv 1 QL,.sv 2 QL,.sv 3 QI,.sv 11 QI,.own 10 10 QI],[(.exit 0,[.own 10 10 QI]),(.ret,[.sv 9 QI,.own 8 8 QI])])],[(6,[(.normal,[.sv 0 QL,.sv 1 QL,.sv 2 QL,.sv 3 QI,.sv 23 .bool])]),(14,[(.normal,[.sv 0 QL,.sv 1 QL,.sv 2 QL,.sv 3 QI,.sv 31 .bool])])],[(9,[.v,.v,.v,.v,.q,.v,.v,.q,.x,.x])]⟩
def a6Z(s:Z82):Option (Z82 ⊕ Z58):= cond (decide (s.2.2.1<(s.1.length:Int))) ((l0z s.1 s.2.2.1).bind fun x3=> (a6t (s.2.2.2.1,s.2.1,s.2.2.2.2.1)).bind fun y4=> (a2A (wrap .i64 (x3+y4))).bind fun y5=> cond (!y5) (some (.inr (Sum.inr ((6,[],()))))) (cond (lim ((a03 s.2.2.2.1)+1)) (some (.inl (s.1,s.2.1,wrap .i64 (s.2.2.1+1),a04 s.2.2.2.1 [wrap .i64 (x3+y4)],s.2.2.2.2.1,()))) none)) (some (.inr (Sum.inl (s.2.2.2.1,()))))
def a9O(x:Z13):Option ((List Int)×Int):= (a5W (x.2.1,x.2.2)).bind fun y1=> cond (!y1) (some ([],1)) ((a0Q x.1).bind fun y2=> cond (!y2) (some ([],6)) ((x0r a6Z (x.1,x.2.1,0,[],x.2.2,())).bind fun w6=> match w6 with |.inl a7=>some (a7.1,0) |.inr b8=>some (b8.2.1,b8.1)))
def b7C:FSem:=⟨[.v QL,.v QI,.v (.arr 3 QI)],[.o QI,.v QI],a9O⟩
def e0P:Hints:=⟨[(250,[.sv 0 QL,.sv 1 QI,.sv 9 QI,.own 8 8 QI,.vp 5 (.arr 3 QI)],[(.exit 0,[.own 8 8 QI]),(.ret,[.sv 7 QI,.own 6 6 QI])])],[],[(9,[.v,.v,.v,.v,.q,.v,.v,.q,.x,.x])]⟩
def a4m(s:c7P):Option (c7P ⊕ (Z78 ⊕ Z4)):= cond (decide (s.2.2.1<(s.2.2.2.1.length:Int))) (cond ((decide (0≤s.2.2.1))&&(decide (s.2.2.1<(s.2.2.2.1.length:Int)))) ((a2Z s.2.2.2.2.1).bind fun y5=> (a2A (wrap .i64 ((a02 s.2.2.2.1 (a00 s.2.2.1) 0)+y5.1))).bind fun y6=> cond (!y6) (some (.inr (Sum.inr ((6,[],()))))) (cond ((decide (0≤s.2.2.1))&&(decide (s.2.2.1<(s.2.2.2.1.length:Int)))) ((a4R (y5.2,wrap .i64 ((a02 s.2.2.2.1 (a00 s.2.2.1) 0)+y5.1))).bind fun y7=> some (.inl (s.1,s.2.1,wrap .i64 (s.2.2.1+1),a06 s.2.2.2.1 (a00 s.2.2.1) (wrap .i64 ((a02 s.2.2.2.1 (a00 s.2.2.1) 0)+y5.1)),y7,()))) none)) none) (some (.inr (Sum.inl (s.1,s.2.1,s.2.2.2.1,()))))
def a6B(s:Z78):Option (Z78 ⊕ Z58):= cond (decide (s.2.1≥0)) ((l0z s.1 s.2.1).bind fun x3=> (a6v x3).bind fun y4=> (x0r a4m (s.1,s.2.1,0,s.2.2.1,y4.1,())).bind fun w8=> match w8 with |.inl a9=>some (.inl (a9.1,wrap .i64 (a9.2.1-1),a9.2.2.1,())) |.inr b10=>some (.inr (Sum.inr ((b10.1,b10.2.1,()))))) (some (.inr (Sum.inl (s.2.2.1,()))))
def a8W(x:Z33):Option ((List Int)×Int):= (a5r x.2).bind fun y1=> cond (!y1) (some ([],1)) ((a0Q x.1).bind fun y2=> cond (!y2) (some ([],6)) (cond (lim (0+(a03 x.1))) ((x0r a6B (x.2,wrap .i64 ((x.2.length:Int)-1),a04 [] x.1,())).bind fun w11=> match w11 with |.inl a12=>some (a12.1,0) |.inr b13=>some (b13.2.1,b13.1)) none))
def b6l:FSem:=⟨[.v QL,.v (.list false Q4)],[.o QI,.v QI],a8W⟩
def e0Q:Hints:=⟨[(250,[.sv 1 (.list false Q4),.sv 7 QI,.own 6 6 QI],[(.exit 0,[.own 6 6 QI]),(.ret,[.sv 5 QI,.own 4 4 QI])]),(32038,[.sv 1 (.list false Q4),.sv 7 QI,.sv 10 QI,.own 6 6 QI,.box 1033 Q13,.ptr 8 1033 []],[(.exit 2,[.sv 1 (.list false Q4),.sv 7 QI,.own 6 6 QI]),(.ret,[.sv 5 QI,.own 4 4 QI])])],[],[(13,[.r [6,42],.v,.r [6,44],.r [6,45],.q,.w [47,1033,1047],.x,.x])]⟩
def b4P(x:a1w):Option ((List Int)×Int):= cond (x.1==2) ((a8V (x.2.2.2.2.2.2.2.2.1,x.2.2.2.2.2.2.2.2.2.2.1,x.2.2.1)).bind fun y1=> some (y1.1,y1.2)) (cond (x.1==3) ((a5F (x.2.2.2.2.2.2.2.2.1,x.2.2.2.2.2.2.2.2.2.2.1,x.2.2.2.2.2.1,x.2.2.2.1)).bind fun y2=> some (y2.1,y2.2)) (cond (x.1==4) ((a5F (x.2.2.2.2.2.2.2.2.1,x.2.2.2.2.2.2.2.2.2.2.1,x.2.2.2.2.2.1,x.2.2.2.1)).bind fun y3=> cond (y3.2 != 0) (some ([],y3.2)) ((a9O (y3.1,x.2.2.2.2.1,x.2.2.2.2.2.2.1)).bind fun y4=> some (y4.1,y4.2))) (cond (x.1==5) ((a8W (x.2.2.2.2.2.2.2.2.2.2.1,x.2.2.2.2.2.2.2.1)).bind fun y5=> some (y5.1,y5.2)) (some (x.2.2.2.2.2.2.2.2.1,0)))))
def c2Q:FSem:=⟨[.v Q39],[.v QL,.v QI],b4P⟩
def e0R:Hints:=⟨[],[],[]⟩
def b4Q(s:Z52):Option (Z52 ⊕ Z58):= cond (decide (s.2.2.1<(s.1.length:Int))) ((show Option Z75 from(l0z s.1 s.2.2.1).bind fun x2=> (a2A x2).bind fun y3=> cond (!y3) (some (s.1,s.2.1,s.2.2.1,true,s.2.2.2.1,())) ((l0z s.1 s.2.2.1).bind fun x4=> cond (decide ((wrap .u64 s.2.1)<0)) none ((a2A (z0g .i64 x4 (wrap .u64 s.2.1))).bind fun y5=> some (s.1,s.2.1,s.2.2.1,!y5,s.2.2.2.1,())))).bind fun z6=> cond z6.2.2.2.1 (some (.inr (Sum.inr ((6,[],()))))) ((l0z z6.1 z6.2.2.1).bind fun x7=> cond (decide ((wrap .u64 z6.2.1)<0)) none (cond (lim ((a03 z6.2.2.2.2.1)+1)) (some (.inl (z6.1,z6.2.1,wrap .i64 (z6.2.2.1+1),a04 z6.2.2.2.2.1 [z0g .i64 x7 (wrap .u64 z6.2.1)],()))) none))) (some (.inr (Sum.inl (s.2.2.2.1,()))))
def c0X(x:((List Int)×Int)):Option ((List Int)×Int):= (show Option Z22 from cond (decide (x.2<0)) (some (x.1,x.2,true,())) (some (x.1,x.2,decide (x.2 > 30),()))).bind fun z1=> cond z1.2.2.1 (some ([],1)) ((x0r b4Q (z1.1,z1.2.1,0,[],())).bind fun w8=> match w8 with |.inl a9=>some (a9.1,0) |.inr b10=>some (b10.2.1,b10.1))
def c7x:FSem:=⟨[.v QL,.v QI],[.o QI,.v QI],c0X⟩
def e0S:Hints:=⟨[(122,[.sv 0 QL,.sv 1 QI,.sv 7 QI,.own 6 6 QI],[(.exit 0,[.own 6 6 QI]),(.ret,[.sv 5 QI,.own 4 4 QI])])],[(6,[(.normal,[.sv 0 QL,.sv 1 QI,.sv 13 .bool])]),(3912,[(.normal,[.sv 0 QL,.sv 1 QI,.sv 7 QI,.sv 36 .bool,.own 6 6 QI])])],[]⟩
def a6C(s:c7X):Option (c7X ⊕ ((List Int)×Unit)):= cond (decide (s.2.1<s.1)) ((l0z s.2.2.2.1.2.2.2.2.2.2.2.2.1 0).bind fun x11=> cond ((decide (0≤s.2.1))&&(decide (s.2.1<(s.2.2.1.length:Int)))) (some (.inl (s.1,wrap .i64 (s.2.1+1),a06 s.2.2.1 (a00 s.2.1) x11,s.2.2.2.1,()))) none) (some (.inr (s.2.2.1,())))
def b2l(x:a9a):Option ((List Int)×Bool):= (show Option b9o from cond (decide (x.2<1)) (some (x.2,true,x.1,())) (cond (decide (x.2 > 4096)) (some (x.2,true,x.1,())) (cond (decide (x.1.1<0)) (some (x.2,true,x.1,())) (cond (decide (x.1.1 > 5)) (some (x.2,true,x.1,())) ((b3A x.1).bind fun y1=> (a8l (x.1,y1)).bind fun y2=> cond (!y2) (some (x.2,true,x.1,())) (cond (decide (x.1.2.1<0)) (some (x.2,true,x.1,())) (some (x.2,decide (x.1.2.1 > 30),x.1,())))))))).bind fun z3=> cond z3.2.1 (some ([],false)) ((b0T (z3.2.2.1,z3.1)).bind fun y4=> (show Option c7V from cond (decide (y4<0)) (some (z3.1,y4,true,z3.2.2.1,())) (cond ((z3.2.2.1.2.2.2.2.2.2.2.2.1.length:Int) != y4) (some (z3.1,y4,true,z3.2.2.1,())) ((a0Q z3.2.2.1.2.2.2.2.2.2.2.2.1).bind fun y5=> cond (!y5) (some (z3.1,y4,true,z3.2.2.1,())) ((a0Q z3.2.2.1.2.2.2.2.2.2.2.2.2.2.1).bind fun y6=> some (z3.1,y4,!y6,z3.2.2.1,()))))).bind fun z7=> cond z7.2.2.1 (some ([],false)) ((show Option b9o from(a4F z7.2.2.2.1.1).bind fun y8=> cond y8 (cond ((z7.2.2.2.1.2.2.2.2.2.2.2.2.2.2.1.length:Int) != (wrap .i64 (z7.1-z7.2.1))) (some (z7.1,true,z7.2.2.2.1,())) ((a5X (z7.2.2.2.1.2.2.2.2.2.2.2.2.2.1,z7.1,z7.2.1)).bind fun y9=> some (z7.1,!y9,z7.2.2.2.1,()))) (some (z7.1,false,z7.2.2.2.1,()))).bind fun z10=> cond z10.2.1 (some ([],false)) (cond (z10.2.2.1.1==0) (cond ((decide (0≤z10.1))&&((decide (z10.1≤z10.1))&&(lim (a00 z10.1)))) ((x0r a6C (z10.1,0,a01 (a00 z10.1) 0,z10.2.2.1,())).bind fun w12=> some (w12.1,true)) none) ((b4P z10.2.2.1).bind fun y13=> cond (y13.2 != 0) (some ([],false)) ((c0X (y13.1,z10.2.2.1.2.1)).bind fun y14=> some (y14.1,y14.2==0))))))
def b9P:FSem:=⟨[.v Q39,.v QI],[.o QI,.v .bool],b2l⟩
def e0T:Hints:=⟨[(8106,[.sv 1 QI,.sv 8 QI,.own 7 7 QI,.vp 2 Q39],[(.exit 0,[.own 7 7 QI])])],[(6,[(.normal,[.sv 1 QI,.sv 45 .bool,.vp 2 Q39])]),(30,[(.normal,[.sv 1 QI,.sv 6 QI,.sv 69 .bool,.vp 2 Q39])]),(62,[(.normal,[.sv 1 QI,.sv 89 .bool,.vp 2 Q39])])],[(1,[.x,.x,.x,.x,.x,.x,.x,.x,.x,.x,.x,.x,.x,.x,.x,.x,.x,.v,.v,.v,.x,.x,.x,.x,.x,.x,.x,.x,.x,.x,.x,.x,.x])]⟩
def b2m(x:a9a):Option Bool:= (b2l (x.1,x.2)).bind fun y1=> some y1.2
def b9Q:FSem:=⟨[.v Q39,.v QI],[.v .bool],b2m⟩
def e0U:Hints:=⟨[],[],[]⟩
def a6D(s:Z46):Option (Z46 ⊕ Z10):= cond (decide (s.2.1≥0)) (cond (decide ((wrap .u64 s.2.1)<0)) none (cond (lim ((a03 s.2.2.1.1)+1)) (some (.inl (s.1,wrap .i64 (s.2.1-1),(a04 s.2.2.1.1 [wrap .u8 (bits .u64 .and (z0h .u64 s.1 (wrap .u64 s.2.1)) 1)],s.2.2.1.2),()))) none)) (some (.inr (s.2.2.1,())))
def a0K(x:(((List Int)×Unit)×(Int×Int))):Option Z4:= (show Option (Int×Int×Bool×Z10)from cond (decide (x.2.2<0)) (some (x.2.1,x.2.2,true,x.1,())) (cond (decide (x.2.2 > 64)) (some (x.2.1,x.2.2,true,x.1,())) (cond (decide (x.2.2<64)) (cond (decide ((wrap .u64 x.2.2)<0)) none (some (x.2.1,x.2.2,(z0h .u64 x.2.1 (wrap .u64 x.2.2)) != 0,x.1,()))) (some (x.2.1,x.2.2,false,x.1,()))))).bind fun z1=> cond z1.2.2.1 (some (1,z1.2.2.2.1)) ((x0r a6D (z1.1,wrap .i64 (z1.2.1-1),z1.2.2.2.1,())).bind fun w2=> some (0,w2.1))
def a4v:FSem:=⟨[.r false (.b Q1),.v (.int .u64),.v QI],[.v QI],a0K⟩
def e0V:Hints:=⟨[(58,[.sv 1 (.int .u64),.sv 7 QI,.box pinned Q1,.ptr 0 pinned []],[(.exit 0,[.box pinned Q1])])],[(6,[(.normal,[.sv 1 (.int .u64),.sv 2 QI,.sv 24 .bool,.box pinned Q1,.ptr 0 pinned []])])],[]⟩
def a7a(s:((List Int)×Z46)):Option (((List Int)×Z46) ⊕ Z10):= cond (decide (s.2.2.1<(s.1.length:Int))) ((l0z s.1 s.2.2.1).bind fun x2=> cond (decide ((wrap .u64 s.2.1)<0)) none ((a0K (s.2.2.2.1,bits .u64 .and (wrap .u64 x2) (wrap .u64 ((z0g .u64 1 (wrap .u64 s.2.1))-1)),s.2.1)).bind fun y3=> some (.inl (s.1,s.2.1,wrap .i64 (s.2.2.1+1),y3.2,())))) (some (.inr (s.2.2.2.1,())))
def a3b(x:(((List Int)×Unit)×((List Int)×Int))):Option ((List Int)×Unit):= (x0r a7a (x.2.1,x.2.2,0,x.1,())).bind fun w4=> some w4.1
def a9P:FSem:=⟨[.r false (.b Q1),.v QL,.v QI],[],a3b⟩
def e0W:Hints:=⟨[(6,[.sv 1 QL,.sv 2 QI,.sv 6 QI,.box pinned Q1,.ptr 0 pinned []],[(.exit 0,[.box pinned Q1])])],[],[]⟩
def a6E(x:(((List Int)×Unit)×a1w)):Option ((List Int)×Unit):= (a0K (x.1,wrap .u64 (wrap .i64 ((x.2.2.2.2.2.2.1.length:Int)-1)),5)).bind fun y1=> (a0K (y1.2,wrap .u64 x.2.2.2.2.1,4)).bind fun y2=> (a7M x.2.2.2.2.2.2.1).bind fun y3=> (a0K (y2.2,wrap .u64 y3,5)).bind fun y4=> (a3b (y4.2,x.2.2.2.2.2.2.1,y3)).bind fun y5=> some y5
def b6m:FSem:=⟨[.r false (.b Q1),.v Q39],[],a6E⟩
def e0X:Hints:=⟨[],[],[]⟩
def a4Z(s:Z46):Option (Z46 ⊕ Z10):= cond (decide (s.2.1<s.1)) (cond (lim ((a03 s.2.2.1.1)+1)) (some (.inl (s.1,wrap .i64 (s.2.1+1),(a04 s.2.2.1.1 [0],s.2.2.1.2),()))) none) (some (.inr (s.2.2.1,())))
def a3C(x:(((List Int)×Unit)×Int)):Option Z4:= (show Option (Int×Bool×Z10)from cond (decide (x.2<0)) (some (x.2,true,x.1,())) (some (x.2,decide (x.2 > 4096),x.1,()))).bind fun z1=> cond z1.2.1 (some (1,z1.2.2.1)) ((x0r a4Z (z1.1,0,z1.2.2.1,())).bind fun w2=> cond (lim ((a03 w2.1.1)+1)) (some (0,a04 w2.1.1 [1],w2.1.2)) none)
def b4B:FSem:=⟨[.r false (.b Q1),.v QI],[.v QI],a3C⟩
def e0Y:Hints:=⟨[(58,[.sv 1 QI,.sv 5 QI,.box pinned Q1,.ptr 0 pinned []],[(.exit 0,[.box pinned Q1,.ptr 0 pinned []])])],[(6,[(.normal,[.sv 1 QI,.sv 11 .bool,.box pinned Q1,.ptr 0 pinned []])])],[]⟩
def a6F(s:(Int×((List Int)×Z27))):Option ((Int×((List Int)×Z27)) ⊕ Z10):= cond (decide (s.2.2.1<(s.2.1.length:Int))) ((l0z s.2.1 s.2.2.1).bind fun x4=> (b3R x4).bind fun y5=> cond (decide ((wrap .u64 s.1)<0)) none (cond (decide ((wrap .i64 (z0h .u64 y5 (wrap .u64 s.1)))<32)) ((a3C (s.2.2.2.1,wrap .i64 (z0h .u64 y5 (wrap .u64 s.1)))).bind fun y6=> cond (decide ((wrap .u64 s.1)<0)) none ((a0K (y6.2,bits .u64 .and y5 (wrap .u64 ((z0g .u64 1 (wrap .u64 s.1))-1)),s.1)).bind fun y7=> some (.inl (s.1,s.2.1,wrap .i64 (s.2.2.1+1),y7.2,())))) ((a3C (s.2.2.2.1,32)).bind fun y8=> (a0K (y8.2,y5,32)).bind fun y9=> some (.inl (s.1,s.2.1,wrap .i64 (s.2.2.1+1),y9.2,()))))) (some (.inr (s.2.2.2.1,())))
def b2n(x:(((List Int)×Unit)×(Int×(List Int)))):Option Z4:= (show Option (Int×((List Int)×(Bool×Z10)))from(a3a x.2.1).bind fun y1=> cond (!y1) (some (x.2.1,x.2.2,true,x.1,())) ((a0Q x.2.2).bind fun y2=> some (x.2.1,x.2.2,!y2,x.1,()))).bind fun z3=> cond z3.2.2.1 (some (1,z3.2.2.2.1)) ((x0r a6F (z3.1,z3.2.1,0,z3.2.2.2.1,())).bind fun w10=> some (0,w10.1))
def b9R:FSem:=⟨[.r false (.b Q1),.v QI,.v QL],[.v QI],b2n⟩
def e0Z:Hints:=⟨[(58,[.sv 1 QI,.sv 2 QL,.sv 7 QI,.box pinned Q1,.ptr 0 pinned []],[(.exit 0,[.box pinned Q1])])],[(6,[(.normal,[.sv 1 QI,.sv 2 QL,.sv 17 .bool,.box pinned Q1,.ptr 0 pinned []])])],[]⟩
def a3T(s:((List Int)×(Int×(Int×((List Int)×(((List Int)×Unit)×Z24)))))):Option (((List Int)×(Int×(Int×((List Int)×(((List Int)×Unit)×Z24))))) ⊕ Z10):= cond (decide (s.2.2.1<(s.2.2.2.1.length:Int))) (cond ((decide (0≤s.2.2.1))&&(decide (s.2.2.1<(s.2.2.2.1.length:Int)))) (cond ((decide (0≤(wrap .i64 (s.2.1+(a02 s.2.2.2.1 (a00 s.2.2.1) 0)))))&&(decide ((wrap .i64 (s.2.1+(a02 s.2.2.2.1 (a00 s.2.2.1) 0)))≤(s.1.length:Int)))) (cond ((decide (0≤s.2.1))&&(decide (s.2.1≤((a00 (wrap .i64 (s.2.1+(a02 s.2.2.2.1 (a00 s.2.2.1) 0))):Nat):Int)))) ((l0z s.2.2.2.2.2.1.2.1 s.2.2.1).bind fun x4=> (a0K (s.2.2.2.2.1,wrap .u64 x4,5)).bind fun y5=> (show Option ((List Int)×(Int×(Int×((List Int)×(((List Int)×Unit)×Z24)))))from(l0z s.2.2.2.2.2.1.2.1 s.2.2.1).bind fun x6=> cond (x6==31) ((a7M (a07 (a00 s.2.1) (a05 (a00 (wrap .i64 (s.2.1+(a02 s.2.2.2.1 (a00 s.2.2.1) 0)))) s.1))).bind fun y7=> (a0K (y5.2,wrap .u64 y7,5)).bind fun y8=> (a3b (y8.2,a07 (a00 s.2.1) (a05 (a00 (wrap .i64 (s.2.1+(a02 s.2.2.2.1 (a00 s.2.2.1) 0)))) s.1),y7)).bind fun y9=> some (s.1,s.2.1,s.2.2.1,s.2.2.2.1,y9,s.2.2.2.2.2.1,())) ((l0z s.2.2.2.2.2.1.2.1 s.2.2.1).bind fun x10=> (b2n (y5.2,x10,a07 (a00 s.2.1) (a05 (a00 (wrap .i64 (s.2.1+(a02 s.2.2.2.1 (a00 s.2.2.1) 0)))) s.1))).bind fun y11=> some (s.1,s.2.1,s.2.2.1,s.2.2.2.1,y11.2,s.2.2.2.2.2.1,()))).bind fun z12=> cond ((decide (0≤z12.2.2.1))&&(decide (z12.2.2.1<(z12.2.2.2.1.length:Int)))) (some (.inl (z12.1,wrap .i64 (z12.2.1+(a02 z12.2.2.2.1 (a00 z12.2.2.1) 0)),wrap .i64 (z12.2.2.1+1),z12.2.2.2.1,z12.2.2.2.2.1,z12.2.2.2.2.2.1,()))) none) none) none) none) (some (.inr (s.2.2.2.2.1,())))
def b1h(x:(((List Int)×Unit)×Z72)):Option Z4:= (a2t (x.2.1,x.2.2.1,x.2.2.2.1,x.2.2.2.2)).bind fun y1=> cond (y1==0) (some (1,x.1)) ((a0K (x.1,wrap .u64 x.2.1.1,4)).bind fun y2=> (a3r (x.2.1.1,x.2.2.1,x.2.2.2.1)).bind fun y3=> (x0r a3T (x.2.2.2.2,0,0,y3,y2.2,x.2.1,())).bind fun w13=> some (0,w13.1))
def b8U:FSem:=⟨[.r false (.b Q1),.v Q8,.v QI,.v QI,.v QL],[.v QI],b1h⟩
def e1a:Hints:=⟨[(250,[.sv 4 QL,.sv 12 QI,.sv 13 QI,.own 11 11 QI,.box pinned Q1,.ptr 0 pinned [],.vp 6 Q8],[(.exit 0,[.box pinned Q1])])],[(16019,[(.normal,[.sv 4 QL,.sv 12 QI,.sv 13 QI,.own 11 11 QI,.box pinned Q1,.ptr 0 pinned [],.vp 6 Q8])])],[]⟩
def a8X(s:(Int×c7Z)):Option ((Int×c7Z) ⊕ c7Z):= cond (decide (s.2.2.1<(s.2.2.2.2.1.2.2.2.2.2.2.2.1.length:Int))) ((l0z s.2.2.2.2.1.2.2.2.2.2.2.2.1 s.2.2.1).bind fun x12=> (a0K (s.2.2.2.1,wrap .u64 (wrap .i64 (x12.1-1)),5)).bind fun y13=> (l0z s.2.2.2.2.1.2.2.2.2.2.2.2.1 s.2.2.1).bind fun x14=> (a0K (y13.2,wrap .u64 x14.2.1,4)).bind fun y15=> some (.inl (s.1,s.2.1,wrap .i64 (s.2.2.1+1),y15.2,s.2.2.2.2.1,()))) (some (.inr (s.1,s.2.1,s.2.2.2.1,s.2.2.2.2.1,())))
def b2o(x:(((List Int)×Unit)×a9a)):Option Z4:= (b2m (x.2.1,x.2.2)).bind fun y1=> cond (!y1) (some (1,x.1)) ((a7M x.2.1.2.2.2.2.2.2.2.2.1).bind fun y2=> (a0K (x.1,wrap .u64 x.2.1.1,3)).bind fun y3=> (a0K (y3.2,wrap .u64 x.2.1.2.1,5)).bind fun y4=> (a0K (y4.2,wrap .u64 y2,5)).bind fun y5=> (show Option c7Z from cond (x.2.1.1==2) ((a0K (y5.2,wrap .u64 x.2.1.2.2.1,3)).bind fun y6=> some (x.2.2,y2,y6.2,x.2.1,())) (cond (x.2.1.1==3) ((a6E (y5.2,x.2.1)).bind fun y7=> some (x.2.2,y2,y7,x.2.1,())) (cond (x.2.1.1==4) ((a0K (y5.2,wrap .u64 (wrap .i64 (x.2.1.2.2.2.2.1-1)),10)).bind fun y8=> (a3b (y8.2,a05 3 x.2.1.2.2.2.2.2.2.1,8)).bind fun y9=> (a6E (y9,x.2.1)).bind fun y10=> some (x.2.2,y2,y10,x.2.1,())) (cond (x.2.1.1==5) ((a0K (y5.2,wrap .u64 (x.2.1.2.2.2.2.2.2.2.1.length:Int),2)).bind fun y11=> (x0r a8X (x.2.2,y2,0,y11.2,x.2.1,())).bind fun w16=> some (w16.1,w16.2.1,w16.2.2.1,w16.2.2.2.1,())) (some (x.2.2,y2,y5.2,x.2.1,())))))).bind fun z17=> (a3b (z17.2.2.1,z17.2.2.2.1.2.2.2.2.2.2.2.2.1,z17.2.1)).bind fun y18=> (a4F z17.2.2.2.1.1).bind fun y19=> cond y19 ((b1h (y18,z17.2.2.2.1.2.2.2.2.2.2.2.2.2.1,z17.1,(z17.2.2.2.1.2.2.2.2.2.2.2.2.1.length:Int),z17.2.2.2.1.2.2.2.2.2.2.2.2.2.2.1)).bind fun y20=> some (0,y20.2)) (some (0,y18)))
def b9S:FSem:=⟨[.r false (.b Q1),.v Q39,.v QI],[.v QI],b2o⟩
def H68:Hints:=⟨[(2086902,[.sv 2 QI,.sv 7 QI,.sv 8 QI,.box pinned Q1,.ptr 0 pinned [],.vp 4 Q39],[(.exit 1,[.sv 2 QI,.sv 7 QI,.box pinned Q1,.ptr 0 pinned [],.vp 4 Q39])])],[(127,[(.normal,[.sv 2 QI,.sv 7 QI,.box pinned Q1,.ptr 0 pinned [],.vp 4 Q39])])],[]⟩
def b2p(x:((List Int)×Unit)):Option Z4:= some ((x.1.length:Int),x)
def b6n:FSem:=⟨[.r false (.b Q1)],[.v QI],b2p⟩
def e1b:Hints:=⟨[],[],[]⟩
def b1i(x:a9a):Option Int:= (b2o (([],()),x.1,x.2)).bind fun y1=> (b2p y1.2).bind fun y2=> some y2.1
def b8V:FSem:=⟨[.v Q39,.v QI],[.v QI],b1i⟩
def e1c:Hints:=⟨[],[],[]⟩
def a5G(s:((List Int)×(Int×Int×b1o×b2M))):Option (((List Int)×(Int×Int×b1o×b2M)) ⊕ b2M):= cond (decide (s.2.2.1<(s.2.2.2.1.length:Int))) (cond ((decide (0≤s.2.2.1))&&(decide (s.2.2.1<(s.2.2.2.1.length:Int)))) (cond ((decide (0≤s.2.2.1))&&(decide (s.2.2.1<(s.2.2.2.1.length:Int)))) ((b1g ((a02 s.2.2.2.1 (a00 s.2.2.1) (0,0,0,0,0,[],a01 3 0,[],[],(0,[],()),[],())).1,s.1,a02 s.2.2.2.1 (a00 s.2.2.1) (0,0,0,0,0,[],a01 3 0,[],[],(0,[],()),[],()))).bind fun y6=> cond (y6.2 != 0) (some (.inl (s.1,s.2.1,wrap .i64 (s.2.2.1+1),s.2.2.2.1,s.2.2.2.2.1,s.2.2.2.2.2.1,()))) ((b1i (y6.1,(s.1.length:Int))).bind fun y7=> (show Option ((List Int)×(Int×Int×Int×Bool×b1o×c8b))from cond (s.2.1==0) (some (s.1,s.2.1,s.2.2.1,y7,true,s.2.2.2.1,s.2.2.2.2.1,s.2.2.2.2.2.1,y6.1,())) (some (s.1,s.2.1,s.2.2.1,y7,decide (y7<s.2.1),s.2.2.2.1,s.2.2.2.2.1,s.2.2.2.2.2.1,y6.1,()))).bind fun z8=> cond z8.2.2.2.2.1 (some (.inl (z8.1,z8.2.2.2.1,wrap .i64 (z8.2.2.1+1),z8.2.2.2.2.2.1,z8.2.2.2.2.2.2.1,z8.2.2.2.2.2.2.2.2.1,()))) (some (.inl (z8.1,z8.2.1,wrap .i64 (z8.2.2.1+1),z8.2.2.2.2.2.1,z8.2.2.2.2.2.2.1,z8.2.2.2.2.2.2.2.1,()))))) none) none) (some (.inr (s.2.2.2.2.1,s.2.2.2.2.2.1,())))
def a2L(x:((List Int)×Int)):Option a9a:= (show Option ((List Int)×b9o)from cond (decide ((x.1.length:Int)<1)) (some (x.1,x.2,true,(0,0,0,0,0,[],a01 3 0,[],[],(0,[],()),[],()),())) (cond (decide ((x.1.length:Int) > 4096)) (some (x.1,x.2,true,(0,0,0,0,0,[],a01 3 0,[],[],(0,[],()),[],()),())) (cond (decide (x.2<0)) (some (x.1,x.2,true,(0,0,0,0,0,[],a01 3 0,[],[],(0,[],()),[],()),())) (some (x.1,x.2,decide (x.2 > 3),(0,0,0,0,0,[],a01 3 0,[],[],(0,[],()),[],()),()))))).bind fun z1=> cond z1.2.2.1 (some ((0,0,0,0,0,[],a01 3 0,[],[],(0,[],()),[],()),1)) ((a0Q z1.1).bind fun y2=> cond (!y2) (some ((0,0,0,0,0,[],a01 3 0,[],[],(0,[],()),[],()),6)) ((a6M z1.1).bind fun y3=> (b3Q (z1.1,y3)).bind fun y4=> (b3y (y4.1,z1.2.1)).bind fun y5=> (x0r a5G (z1.1,0,0,y5,z1.2.2.2.1,(0,0,0,0,0,[],a01 3 0,[],[],(0,[],()),[],()),())).bind fun w9=> some (w9.2.1,0)))
def b8W:FSem:=⟨[.v QL,.v QI],[.v Q39,.v QI],a2L⟩
def H81:Hints:=⟨[(2042,[.sv 0 QL,.sv 10 QI,.sv 11 QI,.own 8 8 Q39,.box 4 Q39,.box 9 Q39,.ptr 4 4 [],.ptr 9 9 []],[(.exit 0,[.box 4 Q39,.box 9 Q39,.ptr 4 4 [],.ptr 9 9 []])])],[(6,[(.normal,[.sv 0 QL,.sv 1 QI,.sv 30 .bool,.box 4 Q39,.ptr 4 4 []])]),(261415,[(.normal,[.sv 0 QL,.sv 10 QI,.sv 11 QI,.sv 14 QI,.sv 78 .bool,.own 8 8 Q39,.box 4 Q39,.box 9 Q39,.box 12 Q39,.ptr 4 4 [],.ptr 9 9 [],.ptr 12 12 []])])],[(12,[.q,.v,.q,.q,.q,.v,.q,.v,.q,.q,.v,.v,.v,.v,.q,.w [0,12],.x])]⟩
def a4n(s:(Int×((List (List Int))×c3T))):Option ((Int×((List (List Int))×c3T)) ⊕ c8c):= cond (decide (s.2.2.1<(s.2.1.length:Int))) ((l0z s.2.1 s.2.2.1).bind fun x9=> (a2L (x9,s.1)).bind fun y10=> cond (lim ((a03 s.2.2.2.2.1.2.2.2.2.1)+1)) (some (.inl (s.1,s.2.1,wrap .i64 (s.2.2.1+1),s.2.2.2.1,(s.2.2.2.2.1.1,s.2.2.2.2.1.2.1,s.2.2.2.2.1.2.2.1,s.2.2.2.2.1.2.2.2.1,a04 s.2.2.2.2.1.2.2.2.2.1 ([y10.1]:List a1w),s.2.2.2.2.1.2.2.2.2.2),()))) none) (some (.inr (s.2.2.2.1,s.2.2.2.2.1,())))
def a2C(x:(Z14×Z7×Int×Int)):Option (a7C×Int):= (show Option (Int×Int×Bool×a7C×Z14×Z28)from(a7k x.1).bind fun y1=> cond (!y1) (some (x.2.2.1,x.2.2.2,true,(0,0,(0,0,0,()),[],[],()),x.1,x.2.1,())) ((b3u x.2.1).bind fun y2=> cond (!y2) (some (x.2.2.1,x.2.2.2,true,(0,0,(0,0,0,()),[],[],()),x.1,x.2.1,())) (cond (x.1.1 != x.2.1.2.2.1) (some (x.2.2.1,x.2.2.2,true,(0,0,(0,0,0,()),[],[],()),x.1,x.2.1,())) (cond ((x.1.2.1.length:Int) != x.2.1.2.1) (some (x.2.2.1,x.2.2.2,true,(0,0,(0,0,0,()),[],[],()),x.1,x.2.1,())) (cond (decide (x.2.2.2<0)) (some (x.2.2.1,x.2.2.2,true,(0,0,(0,0,0,()),[],[],()),x.1,x.2.1,())) (cond (decide (x.2.2.2 > 3)) (some (x.2.2.1,x.2.2.2,true,(0,0,(0,0,0,()),[],[],()),x.1,x.2.1,())) (some (x.2.2.1,x.2.2.2,decide (x.2.2.1<0),(0,0,(0,0,0,()),[],[],()),x.1,x.2.1,())))))))).bind fun z3=> cond z3.2.2.1 (some ((0,0,(0,0,0,()),[],[],()),1)) ((a7l z3.2.2.2.2.1).bind fun y4=> cond (decide (z3.1 > (wrap .i64 (4194304-y4)))) (some ((0,0,(0,0,0,()),[],[],()),4)) ((a7l z3.2.2.2.2.1).bind fun y5=> (show Option (Int×a7C×a7C×Z36)from cond (decide (z3.2.1 > 0)) ((a9G z3.2.2.2.2.1).bind fun y6=> some (z3.2.1,z3.2.2.2.1,(z3.1,y5,z3.2.2.2.2.2.1,y6,[],()),z3.2.2.2.2.1,())) (some (z3.2.1,z3.2.2.2.1,(z3.1,y5,z3.2.2.2.2.2.1,[],[],()),z3.2.2.2.2.1,()))).bind fun z7=> (a7n (z7.2.2.2.1.2.1,z7.2.2.1.2.2.2.1)).bind fun y8=> (x0r a4n (z7.1,y8.1,0,z7.2.1,z7.2.2.1,())).bind fun w11=> some (w11.2.1,0)))
def b6o:FSem:=⟨[.v Q11,.v Q9,.v QI,.v QI],[.v Q57,.v QI],a2C⟩
def H23:Hints:=⟨[(1018,[.sv 3 QI,.sv 11 (.list false QL),.sv 13 QI,.box 8 Q57,.box 10 Q56,.ptr 8 8 [],.ptr 10 10 []],[(.exit 0,[.box 8 Q57,.box 10 Q56,.ptr 8 8 [],.ptr 10 10 []])])],[(6,[(.normal,[.sv 2 QI,.sv 3 QI,.sv 50 .bool,.box 8 Q57,.vp 4 Q11,.vp 5 Q9,.ptr 8 8 []])]),(31,[(.normal,[.sv 3 QI,.box 8 Q57,.box 10 Q56,.vp 4 Q11,.ptr 8 8 [],.ptr 10 10 []])])],[(5,[.v,.v,.v,.v,.v,.q,.x])]⟩
def b1q(x:(Z14×Z7×Int×Int)):Option Bool:= (b7d ()).bind fun y1=> cond (!y1) (some false) ((b4N (x.1,40)).bind fun y2=> cond (!y2) (some true) ((a2m (x.1,x.2.1,x.2.2.1,x.2.2.2)).bind fun y3=> (a2C (x.1,x.2.1,x.2.2.1,x.2.2.2)).bind fun y4=> (a6m (y3.1,y4.1)).bind fun y5=> cond y5 (some (y3.2==y4.2)) (some false)))
def b1r:FSem:=⟨[.v Q11,.v Q9,.v QI,.v QI],[.v .bool],b1q⟩
def H5:Hints:=⟨[],[],[]⟩
end Go.Ab
