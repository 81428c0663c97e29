/- Part of the proof: It. Conditions: as each statement tells. -/
import Derived.RangeFuncBound
import Derived.RangeFuncCalls
import Derived.RangeFuncBox
import Derived.WalkKit
import Derived.OwnWalkIn
import Derived.TacticsInMore
import Derived.LoopNIn
import Derived.LoopIn
import Derived.Test.YtbadoabamddpfaaGreatDoorProg
import Derived.KernelRfl
import Derived.Test.YtbadoabamddpfaaGreatDoorMD
noncomputable section
set_option linter.unusedSimpArgs false
set_option linter.unusedVariables false
open Array renaming replicate_succ→a16,replicate_zero→a18
open Bool renaming and_self→a27,true_and→a32
open Int renaming toNat→a00,tmod→a05,tdiv→a07
open List renaming length→a01,replicate→a02,append→a03,getD→a04,take→a06,drop_eq_getElem_cons→a08,set→a09,drop→a19,append_toArray→a20,cons_append→a21,nil_append→a22,size_toArray→a23,push_toArray→a24,zipWith→a25,length_nil→a26,drop_length→a34
open Nat renaming reduceAdd→a28,reduceSub→a29,lt_trans→a30,le_refl→a33
open Option renaming getD_some→a31
namespace Go.Ab
open Go.Proofs Go.RowKit
attribute [local go_sem] Oper.semAt_some
set_option maxHeartbeats 1000000 in
theorem d0W:A0d Tryz.prog 297 326:=by
 refine⟨⟨_,_,Tryz.func297,rfl,by kernel_rfl⟩,fun A len cap w=>(callsIn_wide (n:=3)).1 ?_⟩
 refine callsIn_of_wp Tryz.func297 rfl trivial ?_
 simp only[Tryz.ntmps297,a23,lC,a26,a28,a29,a16,a18,a24,a20,a22,a21]
 gi_wp2
 go_ret
 exact⟨rfl,_,rfl⟩
@[reducible] def b3s:Ty:=.pair (.int .i64) (.pair (.int .i64) .unit)
set_option maxRecDepth 100000 in
set_option maxHeartbeats 2000000 in
theorem c8o (l Bs b off len cap:Nat) (p q:Nat→Int) (J:Nat→World→Prop) (Jx:World→Prop) (W:World)
  (hJ:∀k W',J k W'→W'.cell? ⟨Bs,0,none⟩=some (.slice (some ⟨b,off,none⟩) len cap))
  (hlen:len<2147483648)
  (hcs:∀k W',k<len→J (k+1) W'→W'.cell? ⟨b,off+k*2,none⟩=some (.int .i64 (p k))∧W'.cell? ⟨b,off+k*2+1,none⟩=some (.int .i64 (q k)))
  (hY:∀n W',n<len→J (n+1) W'→YieldAt (Fr none) 0 Tryz.prog l #[.int .i64 (n:Int),.agg #[.int .i64 (p n),.int .i64 (q n)]] W' fun en W''=>(en=.returned (.bool true)∧J n W'')∨(en=.returned (.bool false)∧Jx W''))
  (h0:J len W):
  CallsIn (Fr none) 0 Tryz.prog 326 #[.func (.yield l) #[] #[],.pointer (some ⟨Bs,0,none⟩)] W fun en W'=>(∃v,en=.returned v)∧(J 0 W'∨Jx W'):=by
 refine callsIn_of_wp Tryz.func326 rfl trivial ?_
 simp only[Tryz.ntmps326,a23,lC,a26,a28,a29,a16,a18,a24,a20,a22,a21]
 have hBs:=hJ _ _ h0
 gi_wp2
 gi_loopw [3] (fun i wr=>∃k:Nat,k≤len∧i=.int .i64 ((k:Int)-1)∧J k wr) (fun i _=>(intOf i+1).toNat)
 case atStart=>exact⟨len,a33 _,rfl,h0⟩
 case round=>
  obtain⟨k,hk,rfl,hJs⟩:=hrel
  cases k with
  |succ n=>
   obtain⟨fn,tmps,assign,body,hy,hR⟩:=hY n wr (by omega) hJs
   have hcx:=hJ _ _ hJs
   obtain⟨hc0,hc1⟩:=hcs n wr (by omega) hJs
   gi_wp2
   refine hR.mono ?_
   rintro e W3 (⟨rfl,hJ3⟩|⟨rfl,hJx3⟩)
   ·gi_wp2
    go_roundw
    case rel=>exact⟨n,by omega,by simp,hJ3⟩
    case measure=>simp[intOf]
   ·gi_wp2
    refine bodyPost_ret (results_none rfl _ _ _) rfl ?_
    exact⟨⟨_,rfl⟩,.inr hJx3⟩
  |zero=>
   gi_wp2
   go_end0
   exact⟨⟨_,rfl⟩,.inl hJs⟩
set_option maxRecDepth 100000 in
set_option maxHeartbeats 2000000 in
theorem c7d (l Bs:Nat) (A:Option Addr) (c:Nat) (J:Nat→World→Prop) (W:World) (hBs:W.cell? ⟨Bs,0,none⟩=some (.slice A 0 c)) (h0:J 0 W):
  CallsIn (Fr none) 0 Tryz.prog 326 #[.func (.yield l) #[] #[],.pointer (some ⟨Bs,0,none⟩)] W fun en W'=>(∃v,en=.returned v)∧J 0 W':=by
 refine callsIn_of_wp Tryz.func326 rfl trivial ?_
 simp only[Tryz.ntmps326,a23,lC,a26,a28,a29,a16,a18,a24,a20,a22,a21]
 gi_wp2
 gi_loopw [3] (fun i wr=>i=.int .i64 (-1)∧J 0 wr) (fun _ _=>0)
 case atStart=>exact⟨rfl,h0⟩
 case round=>
  obtain⟨rfl,hJs⟩:=hrel
  gi_wp2
  go_end0
  exact⟨⟨_,rfl⟩,hJs⟩
theorem c1H{m:Mem}{Sh:Nat→Prop}{b o:Nat}{x:b3s.den}{R}(h:dec m b3s ((Src.at b o).rd m)=some (x,[],R)):
  m b o=some (.int .i64 x.1)∧m b (o+1)=some (.int .i64 x.2.1)∧VOk m Sh b3s x (.agg #[.int .i64 x.1,.int .i64 x.2.1]):=by
 obtain⟨p,q,u⟩:=x;simp only[b3s,dec,Src.rd,Ty.cells,Nat.add_zero]at h
 split at h
 cases h;rename_i r o1 j g
 split at g
 rename_i n c
 split at g
 rename_i e;subst e;simp only[sj]at g;obtain⟨rfl,rfl,rfl⟩:=g
 split at h
 cases h;rename_i s o2 r2 k
 split at k
 cases k;rename_i t i l f
 split at f
 rename_i d a
 split at f
 rename_i e;subst e;simp only[sj]at f k h;obtain⟨rfl,rfl,rfl⟩:=f;obtain⟨rfl,rfl,rfl⟩:=k;obtain⟨⟨rfl,rfl,rfl⟩,-,-⟩:=h;exact⟨c,a,fun _=>⟨_,rfl,rfl⟩,fun h=>(by cases h),[],rfl,by simp⟩;cases f;cases f;cases g;cases g
theorem b6u {P:Program} {f:FuncId} (hb:l0u P f) (args:Array Value) (w:World):(callFunc f args).run P w=.ok (.enter f args) w:=by
 obtain ⟨fn,c',h1,h2,h3⟩:=hb;have h4 : ¬ fn.name = "runtime.NumGoroutine" := by simpa using h3
 simp [callFunc,program,Sem.run,h1,h2,h4,Result.andThen]
theorem d0X:w0j Tryz.prog 326 b3s:=by
 refine⟨fun args w=>b6u ⟨_,_,Tryz.func326,rfl,by kernel_rfl⟩ args w,fun l Bs sv f J D W i t L o=>?_⟩;obtain⟨z,Sh,y⟩:=t _ _ o;obtain⟨A,n,c,rfl,rfl,N,v,j⟩:=y.header
 by_cases hx0:f.length=0
 rw[hx0]at o z;exact(c7d l Bs A c J W z o).mono fun e g h=>⟨h.1,.inl h.2⟩;cases A with
 |none=>have:=j rfl;omega
 |some A=>
  obtain⟨b,off,B⟩:=A
  have:=(v _ rfl).resolve_left (by omega)
  simp only at this;subst this;have u:∀k g,k<f.length→J (k+1) g→∃x,f[k]?=some x∧g.cell? ⟨b,off+k*2,none⟩=some (.int .i64 x.1)∧g.cell? ⟨b,off+k*2+1,none⟩=some (.int .i64 x.2.1):=by
   intro k g p d;obtain⟨-,a,hv⟩:=t _ _ d;obtain⟨C,O,E,R,e,F,G,H,s,I,K⟩:=hv.elem rfl (lG p);simp only[Value.slice.injEq,sj]at e;obtain⟨rfl,rfl,rfl⟩:=e;obtain⟨q,r,-⟩:=c1H (Sh:=a) s;exact⟨_,lG p,q,r⟩
  refine c8o l Bs b off f.length c (fun k=>((f[k]?).getD b3s.dflt).1) (fun k=>((f[k]?).getD b3s.dflt).2.1) J D W (fun k g d=>(t k g d).1) i (fun k g p d=>?_) (fun n g M d=>?_) o;obtain⟨x,m,q,r⟩:=u k g p d;simp only[m,a31];exact⟨q,r⟩;have m:f[n]?=some f[n]:=lG M;simp only[m,a31];refine L n _ _ g m d fun a hv=>?_
  obtain⟨C,O,E,R,e,F,G,H,s,I,K⟩:=hv.elem rfl m;exact(c1H (Sh:=a) s).2.2
set_option maxHeartbeats 1000000 in
theorem d0Y:A0d Tryz.prog 186 242:=by
 refine⟨⟨_,_,Tryz.func186,rfl,by kernel_rfl⟩,fun A len cap w=>(callsIn_wide (n:=3)).1 ?_⟩
 refine callsIn_of_wp Tryz.func186 rfl trivial ?_
 simp only[Tryz.ntmps186,a23,lC,a26,a28,a29,a16,a18,a24,a20,a22,a21]
 gi_wp2
 go_ret
 exact⟨rfl,_,rfl⟩
@[reducible] def b5J:Ty:=.pair (.int .i64) (.pair (.int .i64) (.pair (.int .i64) .unit))
set_option maxRecDepth 100000 in
set_option maxHeartbeats 2000000 in
theorem c8p (l Bs b off len cap:Nat) (p q r:Nat→Int) (J:Nat→World→Prop) (Jx:World→Prop) (W:World)
  (hJ:∀k W',J k W'→W'.cell? ⟨Bs,0,none⟩=some (.slice (some ⟨b,off,none⟩) len cap))
  (hlen:len<2147483648)
  (hcs:∀k W',k<len→J (k+1) W'→W'.cell? ⟨b,off+k*3,none⟩=some (.int .i64 (p k))∧W'.cell? ⟨b,off+k*3+1,none⟩=some (.int .i64 (q k))∧W'.cell? ⟨b,off+k*3+2,none⟩=some (.int .i64 (r k)))
  (hY:∀n W',n<len→J (n+1) W'→YieldAt (Fr none) 0 Tryz.prog l #[.int .i64 (n:Int),.agg #[.int .i64 (p n),.int .i64 (q n),.int .i64 (r n)]] W' fun en W''=>(en=.returned (.bool true)∧J n W'')∨(en=.returned (.bool false)∧Jx W''))
  (h0:J len W):
  CallsIn (Fr none) 0 Tryz.prog 242 #[.func (.yield l) #[] #[],.pointer (some ⟨Bs,0,none⟩)] W fun en W'=>(∃v,en=.returned v)∧(J 0 W'∨Jx W'):=by
 refine callsIn_of_wp Tryz.func242 rfl trivial ?_
 simp only[Tryz.ntmps242,a23,lC,a26,a28,a29,a16,a18,a24,a20,a22,a21]
 have hBs:=hJ _ _ h0
 gi_wp2
 gi_loopw [3] (fun i wr=>∃k:Nat,k≤len∧i=.int .i64 ((k:Int)-1)∧J k wr) (fun i _=>(intOf i+1).toNat)
 case atStart=>exact⟨len,a33 _,rfl,h0⟩
 case round=>
  obtain⟨k,hk,rfl,hJs⟩:=hrel
  cases k with
  |succ n=>
   obtain⟨fn,tmps,assign,body,hy,hR⟩:=hY n wr (by omega) hJs
   have hcx:=hJ _ _ hJs
   obtain⟨hc0,hc1,hc2⟩:=hcs n wr (by omega) hJs
   gi_wp2
   refine hR.mono ?_
   rintro e W3 (⟨rfl,hJ3⟩|⟨rfl,hJx3⟩)
   ·gi_wp2
    go_roundw
    case rel=>exact⟨n,by omega,by simp,hJ3⟩
    case measure=>simp[intOf]
   ·gi_wp2
    refine bodyPost_ret (results_none rfl _ _ _) rfl ?_
    exact⟨⟨_,rfl⟩,.inr hJx3⟩
  |zero=>
   gi_wp2
   go_end0
   exact⟨⟨_,rfl⟩,.inl hJs⟩
set_option maxRecDepth 100000 in
set_option maxHeartbeats 2000000 in
theorem c7e (l Bs:Nat) (A:Option Addr) (c:Nat) (J:Nat→World→Prop) (W:World) (hBs:W.cell? ⟨Bs,0,none⟩=some (.slice A 0 c)) (h0:J 0 W):
  CallsIn (Fr none) 0 Tryz.prog 242 #[.func (.yield l) #[] #[],.pointer (some ⟨Bs,0,none⟩)] W fun en W'=>(∃v,en=.returned v)∧J 0 W':=by
 refine callsIn_of_wp Tryz.func242 rfl trivial ?_
 simp only[Tryz.ntmps242,a23,lC,a26,a28,a29,a16,a18,a24,a20,a22,a21]
 gi_wp2
 gi_loopw [3] (fun i wr=>i=.int .i64 (-1)∧J 0 wr) (fun _ _=>0)
 case atStart=>exact⟨rfl,h0⟩
 case round=>
  obtain⟨rfl,hJs⟩:=hrel
  gi_wp2
  go_end0
  exact⟨⟨_,rfl⟩,hJs⟩
theorem c1b{m:Mem}{rd:Nat→Option Value}{x o r}(h:dec m (.int .i64) rd=some (x,o,r)):rd 0=some (.int .i64 x)∧o=[]∧r=[]:=by
 simp only[dec]at h
 split at h
 rename_i k n g
 split at h
 rename_i e;subst e;simp only[sj,pJ]at h;obtain⟨rfl,rfl,rfl⟩:=h;exact⟨g,rfl,rfl⟩;cases h;cases h
theorem b8M{m:Mem}{a b:Ty}{rd:Nat→Option Value}{x o r}(h:dec m (.pair a b) rd=some (x,o,r)):∃o1 g o2 r2,dec m a rd=some (x.1,o1,g)∧dec m b (fun j=>rd (a.cells+j))=some (x.2,o2,r2)∧o=o1++o2∧r=g++r2:=by
 simp only[dec]at h
 split at h
 cases h;rename_i c o1 g f
 split at h
 cases h;rename_i d o2 r2 k;simp only[sj,pJ]at h;obtain⟨rfl,rfl,rfl⟩:=h;exact⟨_,_,_,_,f,k,rfl,rfl⟩
theorem c2U{m:Mem}{Sh:Nat→Prop}{b o:Nat}{x:b5J.den}{R}(h:dec m b5J ((Src.at b o).rd m)=some (x,[],R)):
  m b o=some (.int .i64 x.1)∧m b (o+1)=some (.int .i64 x.2.1)∧m b (o+2)=some (.int .i64 x.2.2.1)∧VOk m Sh b5J x (.agg #[.int .i64 x.1,.int .i64 x.2.1,.int .i64 x.2.2.1]):=by
 obtain⟨_,_,_,_,g,f,-,-⟩:=b8M h;obtain⟨_,_,_,_,k,a,-,-⟩:=b8M f;obtain⟨_,_,_,_,c,-,-,-⟩:=b8M a;exact⟨(c1b g).1,(c1b k).1,(c1b c).1,fun _=>⟨_,rfl,rfl⟩,fun h=>(by cases h),[],rfl,by simp⟩
theorem d0Z:w0j Tryz.prog 242 b5J:=by
 refine⟨fun args w=>b6u ⟨_,_,Tryz.func242,rfl,by kernel_rfl⟩ args w,fun l Bs sv f J E W i u M o=>?_⟩;obtain⟨B,Sh,z⟩:=u _ _ o;obtain⟨A,n,c,rfl,rfl,O,y,j⟩:=z.header
 by_cases hx0:f.length=0
 rw[hx0]at o B;exact(c7e l Bs A c J W B o).mono fun e g h=>⟨h.1,.inl h.2⟩;cases A with
 |none=>have:=j rfl;omega
 |some A=>
  obtain⟨b,off,C⟩:=A
  have:=(y _ rfl).resolve_left (by omega)
  simp only at this;subst this;have v:∀k g,k<f.length→J (k+1) g→∃x,f[k]?=some x∧g.cell? ⟨b,off+k*3,none⟩=some (.int .i64 x.1)∧g.cell? ⟨b,off+k*3+1,none⟩=some (.int .i64 x.2.1)∧g.cell? ⟨b,off+k*3+2,none⟩=some (.int .i64 x.2.2.1):=by
   intro k g p d;obtain⟨-,a,hv⟩:=u _ _ d;obtain⟨D,P,F,R,e,G,H,I,t,K,L⟩:=hv.elem rfl (lG p);simp only[Value.slice.injEq,sj]at e;obtain⟨rfl,rfl,rfl⟩:=e;obtain⟨q,r,s,-⟩:=c2U (Sh:=a) t;exact⟨_,lG p,q,r,s⟩
  refine c8p l Bs b off f.length c (fun k=>((f[k]?).getD b5J.dflt).1) (fun k=>((f[k]?).getD b5J.dflt).2.1) (fun k=>((f[k]?).getD b5J.dflt).2.2.1) J E W (fun k g d=>(u k g d).1) i (fun k g p d=>?_) (fun n g N d=>?_) o;obtain⟨x,m,q,r,s⟩:=v k g p d;simp only[m,a31];exact⟨q,r,s⟩;have m:f[n]?=some f[n]:=lG N;simp only[m,a31];refine M n _ _ g m d fun a hv=>?_
  obtain⟨D,P,F,R,e,G,H,I,t,K,L⟩:=hv.elem rfl m;exact(c2U (Sh:=a) t).2.2.2
end Go.Ab
namespace Go.Ab
open IntKind(wrap)
open Go.Proofs
set_option maxRecDepth 100000
set_option linter.unusedVariables false
@[reducible] def QI:Ty:=.int .i64
@[reducible] def QL:Ty:=.list false QI
@[reducible] def Z0:Type:=(Unit ⊕ (Bool×Unit))
@[reducible] def Z1:Type:=((List (List Int))×Unit)
@[reducible] def Z2:Type:=(Int×(Int×(List Int)))
@[reducible] def Z3:Type:=((List Int)×(Int×Int))
@[reducible] def Z4:Type:=(List (Int×(Int×Unit)))
@[reducible] def Z5:Type:=(Int×((List Int)×Unit))
@[reducible] def Z6:Type:=((List Int)×(Int×Unit))
@[reducible] def Z7:Type:=(Int×(Int×(Int×Unit)))
@[reducible] def Z8:Type:=(Int×(Int×(Bool×Unit)))
@[reducible] def Z9:Type:=((Int×(Int×Unit))×Unit)
@[reducible] def Z10:Type:=((List Int)×((List Int)×Int))
@[reducible] def Z11:Type:=(Int×Z1)
@[reducible] def Z12:Type:=((List Int)×((List Int)×Unit))
@[reducible] def Z13:Type:=(List Z7)
@[reducible] def Z14:Type:=((List Int)×(Int×(Int×Unit)))
@[reducible] def Z15:Type:=(Int×Z5)
@[reducible] def Z16:Type:=(Int×Z6)
@[reducible] def Z17:Type:=((List Int)×(Int×(Bool×Unit)))
@[reducible] def Z18:Type:=(Z5×Unit)
@[reducible] def Z19:Type:=(Z6×Unit)
@[reducible] def Z20:Type:=(Int×Z7)
@[reducible] def Z21:Type:=(Z7×Unit)
@[reducible] def Z22:Type:=(Int×Z8)
@[reducible] def Z23:Type:=(List Z11)
@[reducible] def Z24:Type:=(Int×Z12)
@[reducible] def Z25:Type:=((List Int)×Z5)
@[reducible] def Z26:Type:=((List (List Int))×(Int×(Int×Unit)))
@[reducible] def Z27:Type:=(Int×Z11)
@[reducible] def Z28:Type:=(Z11×Int)
@[reducible] def Z29:Type:=(Z11×Unit)
@[reducible] def Z30:Type:=(Int×Z14)
@[reducible] def Z31:Type:=((List Int)×Z7)
@[reducible] def Z32:Type:=(Int×Z15)
@[reducible] def Z33:Type:=(Z14×Int)
@[reducible] def Z34:Type:=((List Int)×Z8)
@[reducible] def Z35:Type:=(Int×Z19)
@[reducible] def Z36:Type:=(Int×Z20)
@[reducible] def Z37:Type:=(Z14×Unit)
@[reducible] def Z38:Type:=(Int×Z21)
@[reducible] def Z39:Type:=(Bool×Z21)
@[reducible] def Z40:Type:=((List Int)×Z12)
@[reducible] def Z41:Type:=((List Int)×Z15)
@[reducible] def Z42:Type:=(Int×Z24)
@[reducible] def Z43:Type:=(Z23×Unit)
@[reducible] def Z44:Type:=(Int×Z26)
@[reducible] def Z45:Type:=((List Int)×Z14)
@[reducible] def Z46:Type:=(Int×Z29)
@[reducible] def Z47:Type:=(Z5×((List Int)×Unit))
@[reducible] def Z48:Type:=(((List Int)×Unit) ⊕ Z5)
@[reducible] def Z49:Type:=((List Int)×Z17)
@[reducible] def Z50:Type:=(Int×Z30)
@[reducible] def Z51:Type:=(Z24×Unit)
@[reducible] def Z52:Type:=(Int×Z31)
@[reducible] def Z53:Type:=(Int×Z35)
@[reducible] def Z54:Type:=(Int×Z36)
@[reducible] def Z55:Type:=(Int×Z37)
@[reducible] def Z56:Type:=(Bool×Z37)
@[reducible] def Z57:Type:=(Int×Z39)
@[reducible] def Z58:Type:=(Int×Z40)
@[reducible] def Z59:Type:=(Int×Z41)
@[reducible] def Z60:Type:=((List Int)×Z29)
@[reducible] def Z61:Type:=((List Int)×Z30)
@[reducible] def Z62:Type:=((List Int)×Z31)
@[reducible] def Z63:Type:=(Int×Z46)
@[reducible] def Z64:Type:=(Int×Z51)
@[reducible] def Z65:Type:=((List Int)×Z37)
@[reducible] def Z66:Type:=(Z30 ⊕ (Int×Unit))
@[reducible] def Z67:Type:=(Int×Z54)
@[reducible] def Z68:Type:=(Int×Z55)
@[reducible] def Z69:Type:=(Int×Z56)
@[reducible] def Z70:Type:=(Int×Z57)
@[reducible] def Z71:Type:=(Z14 ⊕ Z0)
@[reducible] def Z72:Type:=((List Int)×Z42)
@[reducible] def Z73:Type:=(Int×Z58)
@[reducible] def Z74:Type:=((List Int)×Z47)
@[reducible] def Z75:Type:=((List Int)×Z50)
@[reducible] def Z76:Type:=((List Int)×Z51)
@[reducible] def Z77:Type:=(Int×Z60)
@[reducible] def Z78:Type:=(Int×Z59)
@[reducible] def Z79:Type:=(Int×Z64)
@[reducible] def Z80:Type:=((List Int)×Z53)
@[reducible] def Z81:Type:=(Int×Z65)
@[reducible] def Z82:Type:=(Z6×Z18)
@[reducible] def Z83:Type:=(Int×Z67)
@[reducible] def Z84:Type:=(Z5×Z18)
@[reducible] def Z85:Type:=(Int×Z68)
@[reducible] def Z86:Type:=(Int×Z72)
@[reducible] def Z87:Type:=(Int×Z76)
@[reducible] def Z88:Type:=(Int×Z77)
@[reducible] def Z89:Type:=(Int×Z79)
@[reducible] def Z90:Type:=(Int×Z80)
@[reducible] def Z91:Type:=(Int×Z81)
@[reducible] def Z92:Type:=(Int×Z83)
@[reducible] def Z93:Type:=((List Int)×Z82)
@[reducible] def Z94:Type:=(Z13×Z29)
@[reducible] def Z95:Type:=(Int×Z91)
@[reducible] def Z96:Type:=(Int×Z93)
@[reducible] def Z97:Type:=(Z7×Z62)
@[reducible] def Z98:Type:=(Z4×Z74)
@[reducible] def Z99:Type:=(Int×Z96)
@[reducible] def c5z:Type:=(Z5×Z84)
@[reducible] def c5A:Type:=(Z97×Unit)
@[reducible] def d4Q:Type:=((List Int)×Z98)
@[reducible] def c2V:Type:=((List Int)×Z99)
@[reducible] def c5B:Type:=(Z97×Z9)
@[reducible] def d4R:Type:=((List Int)×d4Q)
@[reducible] def d4S:Type:=(Int×d4R)
@[reducible] def d4T:Type:=(Int×d4S)
@[reducible] def d4U:Type:=(Int×d4T)
@[reducible] def d4V:Type:=(Int×d4U)
@[reducible] def a1M:Type:=(Int×d4V)
@[reducible] def b2w:Type:=(List a1M)
@[reducible] def b4H:Type:=(a1M×Int)
@[reducible] def b5K:Type:=(a1M×Unit)
@[reducible] def c8q:Type:=(b2w×Unit)
@[reducible] def d1V:Type:=(Bool×b5K)
@[reducible] def c2W:Type:=(Int×d1V)
@[reducible] def c5C:Type:=(b2w×((List Int)×Unit))
@[reducible] def d4W:Type:=(Z6×b5K)
@[reducible] def c5D:Type:=(Int×d4W)
@[reducible] def d1W:Type:=(Z14×b5K)
@[reducible] def c5E:Type:=(a1M×Z37)
@[reducible] def d4X:Type:=(Z13×c8q)
@[reducible] def b4I:Type:=(Int×c5D)
@[reducible] def c8r:Type:=(Int×d1W)
@[reducible] def c1c:Type:=(Int×c8r)
@[reducible] def d4Y:Type:=(Z7×d4X)
@[reducible] def d4Z:Type:=(Int×d4Y)
@[reducible] def a2U:Type:=(Int×d4Z)
@[reducible] def b8N:Type:=(List a2U)
@[reducible] def b4J:Type:=(a2U×Unit)
@[reducible] def d5a:Type:=(b8N×Unit)
@[reducible] def c2X:Type:=(Z11×b4J)
@[reducible] def d5b:Type:=(Z4×d5a)
@[reducible] def c1d:Type:=(a2U×Z37)
@[reducible] def d5c:Type:=(Int×d5b)
@[reducible] def d5d:Type:=(Int×d5c)
@[reducible] def b2x:Type:=(a1M×b5K)
@[reducible] def d5e:Type:=(Int×b2x)
@[reducible] def c5F:Type:=(Int×d5e)
@[reducible] def a8K:Type:=(Z7×d5d)
@[reducible] def a9O:Type:=(a8K×Unit)
@[reducible] def d5f:Type:=(Z23×a9O)
@[reducible] def c5G:Type:=((List (List Int))×d5f)
@[reducible] def c8s:Type:=(a8K×a9O)
@[reducible] def c5H:Type:=(Int×c8s)
@[reducible] def Q0:Ty:=(.pair QI .unit)
@[reducible] def Q1:Ty:=(.pair (.list true QI) .unit)
@[reducible] def Q2:Ty:=(.pair QL .unit)
@[reducible] def Q3:Ty:=(.pair QI Q0)
@[reducible] def Q4:Ty:=(.pair (.int .u64) Q0)
@[reducible] def Q5:Ty:=(.pair (.nl QL) .unit)
@[reducible] def Q6:Ty:=(.pair (.list true (.list true QI)) .unit)
@[reducible] def Q7:Ty:=(.pair (.list true QL) .unit)
@[reducible] def Q8:Ty:=(.pair (.list false QL) .unit)
@[reducible] def Q9:Ty:=(.pair (.list true (.int .u8)) Q0)
@[reducible] def Q10:Ty:=(.pair QI Q1)
@[reducible] def Q11:Ty:=(.pair QI Q2)
@[reducible] def Q12:Ty:=(.pair QI Q3)
@[reducible] def Q13:Ty:=(.pair QI Q4)
@[reducible] def Q14:Ty:=(.pair (.list true QI) Q1)
@[reducible] def Q15:Ty:=(.pair QI Q8)
@[reducible] def Q16:Ty:=(.pair (.list false (.int .u8)) Q3)
@[reducible] def Q17:Ty:=(.pair QI Q14)
@[reducible] def Q18:Ty:=(.pair (.list true QI) Q13)
@[reducible] def Q19:Ty:=(.pair QL Q13)
@[reducible] def Q20:Ty:=(.pair Q11 Q2)
@[reducible] def Q21:Ty:=(.pair (.list true QI) Q18)
@[reducible] def Q22:Ty:=(.pair QL Q19)
@[reducible] def Q23:Ty:=(.pair (.nl QI) Q20)
@[reducible] def Q24:Ty:=(.pair QL Q20)
@[reducible] def Q25:Ty:=(.pair (.list true Q3) Q23)
@[reducible] def Q26:Ty:=(.pair Q12 Q21)
@[reducible] def Q27:Ty:=(.pair Q12 Q22)
@[reducible] def Q28:Ty:=(.pair (.list false Q3) Q24)
@[reducible] def Q29:Ty:=(.pair (.arr 3 QI) Q25)
@[reducible] def Q30:Ty:=(.pair (.arr 3 QI) Q28)
@[reducible] def Q31:Ty:=(.pair (.list true QI) Q29)
@[reducible] def Q32:Ty:=(.pair QL Q30)
@[reducible] def Q33:Ty:=(.pair QI Q31)
@[reducible] def Q34:Ty:=(.pair QI Q32)
@[reducible] def Q35:Ty:=(.pair QI Q33)
@[reducible] def Q36:Ty:=(.pair QI Q34)
@[reducible] def Q37:Ty:=(.pair QI Q35)
@[reducible] def Q38:Ty:=(.pair QI Q36)
@[reducible] def Q39:Ty:=(.pair QI Q37)
@[reducible] def Q40:Ty:=(.pair QI Q38)
@[reducible] def Q41:Ty:=(.pair QI Q39)
@[reducible] def Q42:Ty:=(.pair QI Q40)
@[reducible] def Q43:Ty:=(.pair (.nl Q42) .unit)
@[reducible] def Q44:Ty:=(.pair (.list true Q42) .unit)
@[reducible] def Q45:Ty:=(.pair (.list false Q42) .unit)
@[reducible] def Q46:Ty:=(.pair (.nl Q12) Q43)
@[reducible] def Q47:Ty:=(.pair (.list true Q12) Q43)
@[reducible] def Q48:Ty:=(.pair (.list false Q12) Q44)
@[reducible] def Q49:Ty:=(.pair (.list false Q12) Q45)
@[reducible] def Q50:Ty:=(.pair Q12 Q46)
@[reducible] def Q51:Ty:=(.pair Q12 Q47)
@[reducible] def Q52:Ty:=(.pair Q12 Q48)
@[reducible] def Q53:Ty:=(.pair Q12 Q49)
@[reducible] def Q54:Ty:=(.pair QI Q50)
@[reducible] def Q55:Ty:=(.pair QI Q51)
@[reducible] def Q56:Ty:=(.pair QI Q52)
@[reducible] def Q57:Ty:=(.pair QI Q53)
@[reducible] def Q58:Ty:=(.pair QI Q55)
@[reducible] def Q59:Ty:=(.pair QI Q56)
@[reducible] def Q60:Ty:=(.pair QI Q57)
@[reducible] def Q61:Ty:=(.pair (.nl Q60) .unit)
@[reducible] def Q62:Ty:=(.pair (.list true Q60) .unit)
@[reducible] def Q63:Ty:=(.pair (.list false Q60) .unit)
@[reducible] def Q64:Ty:=(.pair (.nl Q3) Q61)
@[reducible] def Q65:Ty:=(.pair (.list true Q3) Q62)
@[reducible] def Q66:Ty:=(.pair (.list false Q3) Q63)
@[reducible] def Q67:Ty:=(.pair (.int .u64) Q64)
@[reducible] def Q68:Ty:=(.pair (.int .u64) Q65)
@[reducible] def Q69:Ty:=(.pair (.int .u64) Q66)
@[reducible] def Q70:Ty:=(.pair QI Q67)
@[reducible] def Q71:Ty:=(.pair QI Q68)
@[reducible] def Q72:Ty:=(.pair QI Q69)
@[reducible] def Q73:Ty:=(.pair Q12 Q71)
@[reducible] def Q74:Ty:=(.pair Q12 Q72)
def c2O:List (Nat×Ty):=[(2,.int .i64),(3,.int .i64),(5,.int .u8),(9,.str),(22,.list false QL),(24,.pair QI Q8),(25,.int .u16),(30,.pair QI Q3),(31,.list false Q12),(32,.list false Q42),(34,.pair QI Q57),(35,.int .i64),(38,.list false (.int .u8)),(42,.int .u64),(49,.int .u64),(50,.list false Q3),(51,.list false Q60),(53,.pair Q12 Q72),(55,.list false QI),(74,.pair QI Q0),(76,.pair QI Q0),(103,.arr 3 QI),(104,.list false Q3),(106,.pair QI Q2),(108,.pair QI Q40),(113,.pair (.list false (.int .u8)) Q0),(134,.list false (.list false (.int .u8))),(135,.list false Q15),(141,.list false (.int .u64)),(143,.int .u32),(153,.pair Q12 Q22),(164,.pair QI Q3),(178,.pair QI Q0),(192,.pair (.list false (.int .u8)) Q3),(236,.pair (.list false (.int .u8)) Q3),(256,.arr 64 (.int .u8)),(285,.list false (.arr 3 QI)),(295,.pair QI (.pair QL Q2))]
def T0:Nat→Option Ty:=fun t=>find c2O t
def c5I:List Nat:=[30,76,103,164,178]
def d5g:Nat→Bool:=fun t=>c5I.contains t
def c2Y:List Nat:=[]
def d5h:Nat→Bool:=fun t=>c2Y.contains t
def b1E:(List Int):=[0,1,56,2,57,49,28,3,61,58,42,50,38,29,17,4,62,47,59,36,45,43,51,22,53,39,33,30,24,18,12,5,63,55,48,27,60,41,37,16,46,35,44,21,52,32,23,11,54,26,40,15,34,20,31,10,25,14,19,9,13,8,7,6]
def G0:Nat→Option ((t:Ty)×t.den):=fun g=>find ([(0,⟨.arr 64 (.int .u8),b1E⟩)]:List (Nat×((t:Ty)×t.den))) g
@[reducible] def a7K(a:List (Nat×FSem))(b:List (Nat×Ty))(c d:List Nat):Cx:=⟨d5h,d5g,T0,fun f=>find a f,fun n=>find b n,fun i=>c.contains i,fun i=>d.contains i,G0⟩
def a4h(x:Z11):Option Int:= cond ((x.2.1.length:Int)==0) (some 0) ((m0h x.2.1 0).bind fun x1=> some (x1.length:Int))
def a7j:FSem:=⟨[.v Q15],[.v QI],a4h⟩
def H22:Hints:=⟨[],[],[]⟩
def b3t(x:Int):Option Int:= (show Option (Int×Bool×Unit)from cond (decide (x<1)) (some (x,true,())) (some (x,decide (x > 31),()))).bind fun z1=> cond z1.2.1 (some 0) (cond (decide ((wrap .i64 (z1.1-1))<0)) none (some (A0j .i64 (-1) (wrap .i64 (z1.1-1)))))
def b6O:FSem:=⟨[.v QI],[.v QI],b3t⟩
def d5i:Hints:=⟨[],[(6,[(.normal,[.sv 0 QI,.sv 8 .bool])])],[]⟩
def b2y(x:Int):Option Int:= (show Option (Int×Bool×Unit)from cond (decide (x<1)) (some (x,true,())) (some (x,decide (x > 31),()))).bind fun z1=> cond z1.2.1 (some 0) (cond (decide ((wrap .i64 (z1.1-1))<0)) none (some (wrap .i64 ((A0j .i64 1 (wrap .i64 (z1.1-1)))-1))))
def b6v:FSem:=⟨[.v QI],[.v QI],b2y⟩
def d5j:Hints:=⟨[],[(6,[(.normal,[.sv 0 QI,.sv 8 .bool])])],[]⟩
def a1S(x:(Int×Int)):Option Bool:= cond (decide (x.2≥1)) (cond (decide (x.2≤31)) ((b3t x.2).bind fun y1=> cond (decide (y1≤x.1)) ((b2y x.2).bind fun y2=> some (decide (x.1≤y2))) (some false)) (some false)) (some false)
def a3J:FSem:=⟨[.v QI,.v QI],[.v .bool],a1S⟩
def H95:Hints:=⟨[],[],[]⟩
def a6O(x:Int):Option Bool:= cond (decide (4≤x)) (some (decide (x≤24))) (some false)
def b2z:FSem:=⟨[.v QI],[.v .bool],a6O⟩
def d5k:Hints:=⟨[],[],[]⟩
def a4o(s:((List (List Int))×(Int×(Int×((List Int)×Z63))))):Option (((List (List Int))×(Int×(Int×((List Int)×Z63)))) ⊕ (((List (List Int))×Z63) ⊕ (Bool×Unit))):= cond (decide (s.2.2.2.2.2.1<s.2.2.2.2.1)) ((m0h s.2.2.2.1 s.2.2.2.2.2.1).bind fun x8=> (a1S (x8,s.2.2.2.2.2.2.1.1)).bind fun y9=> cond (!y9) (some (.inr (Sum.inr ((false,()))))) (some (.inl (s.1,s.2.1,s.2.2.1,s.2.2.2.1,s.2.2.2.2.1,wrap .i64 (s.2.2.2.2.2.1+1),s.2.2.2.2.2.2.1,())))) (some (.inr (Sum.inl (s.1,s.2.1,s.2.2.1,s.2.2.2.2.2.2.1,()))))
def a4p(s:((List (List Int))×Z63)):Option (((List (List Int))×Z63) ⊕ Z0):= cond (decide (s.2.2.1<s.2.1)) ((m0h s.1 s.2.2.1).bind fun x6=> (a4h s.2.2.2.1).bind fun y7=> cond ((x6.length:Int) != y7) (some (.inr (Sum.inr ((false,()))))) ((y0o a4o (s.1,s.2.1,s.2.2.1,x6,(x6.length:Int),0,s.2.2.2.1,())).bind fun w10=> match w10 with |.inl a11=>some (.inl (a11.1,a11.2.1,wrap .i64 (a11.2.2.1+1),a11.2.2.2.1,())) |.inr b12=>some (.inr (Sum.inr ((b12.1,())))))) (some (.inr (Sum.inl ())))
def a4i(x:Z11):Option Bool:= (show Option (Bool×Z29)from(a6O x.1).bind fun y1=> cond (!y1) (some (true,x,())) (cond (decide ((x.2.1.length:Int)<1)) (some (true,x,())) (some (decide ((x.2.1.length:Int) > 8),x,())))).bind fun z2=> cond z2.1 (some false) ((show Option (Bool×Z29)from(a4h z2.2.1).bind fun y3=> cond (decide (y3<1)) (some (true,z2.2.1,())) ((a4h z2.2.1).bind fun y4=> some (decide (y4 > 4096),z2.2.1,()))).bind fun z5=> cond z5.1 (some false) ((y0o a4p (z5.2.1.2.1,(z5.2.1.2.1.length:Int),0,z5.2.1,())).bind fun w13=> match w13 with |.inl a14=>some true |.inr b15=>some b15.1))
def a4j:FSem:=⟨[.v Q15],[.v .bool],a4i⟩
def H56:Hints:=⟨[(122,[.sv 32 (.list false QL),.sv 33 QI,.sv 34 QI,.vp 1 Q15],[(.exit 0,[]),(.ret,[.sv 2 .bool])]),(62670,[.sv 32 (.list false QL),.sv 33 QI,.sv 34 QI,.sv 43 QL,.sv 44 QI,.sv 45 QI,.vp 1 Q15],[(.exit 2,[.sv 32 (.list false QL),.sv 33 QI,.sv 34 QI,.vp 1 Q15]),(.ret,[.sv 2 .bool])])],[(6,[(.normal,[.sv 22 .bool,.vp 1 Q15])]),(14,[(.normal,[.sv 30 .bool,.vp 1 Q15])])],[]⟩
def a1T(x:Z7):Option Bool:= cond (decide (1≤x.1)) (cond (decide (x.1≤1048576)) (cond (decide (1≤x.2.1)) (cond (decide (x.2.1≤8)) ((a6O x.2.2.1).bind fun y1=> some y1) (some false)) (some false)) (some false)) (some false)
def a3K:FSem:=⟨[.v Q12],[.v .bool],a1T⟩
def H57:Hints:=⟨[],[],[]⟩
def a6P(s:(Int×Z13×Int×Int×Unit)):Option ((Int×Z13×Int×Int×Unit) ⊕ Z0):= cond (decide (s.2.2.2.1<s.2.2.1)) ((m0h s.2.1 s.2.2.2.1).bind fun x2=> (show Option (Int×Z13×Z70)from cond (decide (x2.1<0)) (some (s.1,s.2.1,s.2.2.1,s.2.2.2.1,true,x2,())) (cond (decide (x2.1≥s.1)) (some (s.1,s.2.1,s.2.2.1,s.2.2.2.1,true,x2,())) (cond (decide (x2.2.1<0)) (some (s.1,s.2.1,s.2.2.1,s.2.2.2.1,true,x2,())) (cond (decide (x2.2.1≥s.1)) (some (s.1,s.2.1,s.2.2.1,s.2.2.2.1,true,x2,())) (some (s.1,s.2.1,s.2.2.1,s.2.2.2.1,x2.1==x2.2.1,x2,())))))).bind fun z3=> cond z3.2.2.2.2.1 (some (.inr (Sum.inr ((false,()))))) ((show Option (Int×Z13×Z8)from cond (decide (z3.2.2.2.2.2.1.2.2.1<(-1024))) (some (z3.1,z3.2.1,z3.2.2.1,z3.2.2.2.1,true,())) (some (z3.1,z3.2.1,z3.2.2.1,z3.2.2.2.1,decide (z3.2.2.2.2.2.1.2.2.1 > 1024),()))).bind fun z4=> cond z4.2.2.2.2.1 (some (.inr (Sum.inr ((false,()))))) (some (.inl (z4.1,z4.2.1,z4.2.2.1,wrap .i64 (z4.2.2.2.1+1),()))))) (some (.inr (Sum.inl ())))
def a8g(x:(Z13×Int)):Option Bool:= (show Option (Z13×Int×Bool×Unit)from cond (decide (x.2<1)) (some (x.1,x.2,true,())) (cond (decide (x.2 > 8)) (some (x.1,x.2,true,())) (some (x.1,x.2,decide ((x.1.length:Int) > 16),())))).bind fun z1=> cond z1.2.2.1 (some false) ((y0o a6P (z1.2.1,z1.1,(z1.1.length:Int),0,())).bind fun w5=> match w5 with |.inl a6=>some true |.inr b7=>some b7.1)
def b2R:FSem:=⟨[.v (.list false Q12),.v QI],[.v .bool],a8g⟩
def d5l:Hints:=⟨[(58,[.sv 1 QI,.sv 18 (.list false Q12),.sv 19 QI,.sv 20 QI],[(.exit 0,[]),(.ret,[.sv 4 .bool])])],[(6,[(.normal,[.sv 0 (.list false Q12),.sv 1 QI,.sv 17 .bool])]),(7474,[(.normal,[.sv 1 QI,.sv 18 (.list false Q12),.sv 19 QI,.sv 20 QI,.sv 50 .bool,.box 6 Q12,.ptr 6 6 []])]),(7475,[(.normal,[.sv 1 QI,.sv 18 (.list false Q12),.sv 19 QI,.sv 20 QI,.sv 58 .bool])])],[]⟩
def a6Q(x:a2U):Option Bool:= (a1T x.2.2.1).bind fun y1=> cond y1 (cond (decide (x.2.1≥1)) (cond (decide (x.2.1≤4096)) (cond (decide (x.1≥0)) (cond (decide (x.1≤(wrap .i64 (4194304-x.2.1)))) ((a8g (x.2.2.2.1,x.2.2.1.2.1)).bind fun y2=> some y2) (some false)) (some false)) (some false)) (some false)) (some false)
def b2A:FSem:=⟨[.v Q60],[.v .bool],a6Q⟩
def d5m:Hints:=⟨[],[],[]⟩
def a2w(s:Z14):Option Z71:= cond (decide (s.2.2.1<s.2.1)) ((m0h s.1 s.2.2.1).bind fun x1=> (show Option Z34 from cond (decide (x1<(-1073741824))) (some (s.1,s.2.1,s.2.2.1,true,())) (some (s.1,s.2.1,s.2.2.1,decide (x1≥1073741824),()))).bind fun z2=> cond z2.2.2.2.1 (some (.inr (Sum.inr ((false,()))))) (some (.inl (z2.1,z2.2.1,wrap .i64 (z2.2.2.1+1),())))) (some (.inr (Sum.inl ())))
def a2s(x:(List Int)):Option Bool:= (y0o a2w (x,(x.length:Int),0,())).bind fun w3=> match w3 with |.inl a4=>some true |.inr b5=>some b5.1
def a9j:FSem:=⟨[.v QL],[.v .bool],a2s⟩
def d5n:Hints:=⟨[(26,[.sv 5 QL,.sv 6 QI,.sv 7 QI],[(.exit 0,[]),(.ret,[.sv 2 .bool])])],[(1689,[(.normal,[.sv 5 QL,.sv 6 QI,.sv 7 QI,.sv 16 .bool])])],[]⟩
def a5X(x:Int):Option Bool:= cond (x != 0) (some (x != 1)) (some false)
def a9P:FSem:=⟨[.v QI],[.v .bool],a5X⟩
def d5o:Hints:=⟨[],[],[]⟩
def a5k(s:Z14):Option Z71:= cond (decide (s.2.2.1<s.2.1)) ((m0h s.1 s.2.2.1).bind fun x2=> (show Option Z34 from cond (decide (x2<(-32768))) (some (s.1,s.2.1,s.2.2.1,true,())) (some (s.1,s.2.1,s.2.2.1,decide (x2≥32768),()))).bind fun z3=> cond z3.2.2.2.1 (some (.inr (Sum.inr ((false,()))))) (some (.inl (z3.1,z3.2.1,wrap .i64 (z3.2.2.1+1),())))) (some (.inr (Sum.inl ())))
def a4z(x:((List Int)×Int)):Option Bool:= (show Option ((List Int)×(Bool×Unit))from cond (decide ((x.1.length:Int)<1)) (some (x.1,true,())) (cond (decide ((x.1.length:Int) > 32)) (some (x.1,true,())) (cond (decide (x.2<0)) (some (x.1,true,())) (some (x.1,decide (x.2 > 15),()))))).bind fun z1=> cond z1.2.1 (some false) ((y0o a5k (z1.1,(z1.1.length:Int),0,())).bind fun w4=> match w4 with |.inl a5=>some true |.inr b6=>some b6.1)
def a9Q:FSem:=⟨[.v QL,.v QI],[.v .bool],a4z⟩
def d5p:Hints:=⟨[(58,[.sv 23 QL,.sv 24 QI,.sv 25 QI],[(.exit 0,[]),(.ret,[.sv 4 .bool])])],[(6,[(.normal,[.sv 0 QL,.sv 22 .bool])]),(3737,[(.normal,[.sv 23 QL,.sv 24 QI,.sv 25 QI,.sv 34 .bool])])],[]⟩
def a6R(s:Z6):Option (Z6 ⊕ Z0):= cond (decide (s.2.1<3)) ((m0h s.1 s.2.1).bind fun x2=> (show Option Z17 from cond (decide (x2<(-64))) (some (s.1,s.2.1,true,())) (some (s.1,s.2.1,decide (x2 > 64),()))).bind fun z3=> cond z3.2.2.1 (some (.inr (Sum.inr ((false,()))))) (some (.inl (z3.1,wrap .i64 (z3.2.1+1),())))) (some (.inr (Sum.inl ())))
def a8h(x:(Int×(List Int))):Option Bool:= (show Option (Bool×((List Int)×Unit))from cond (decide (x.1<2)) (some (true,x.2,())) (some (decide (x.1 > 1024),x.2,()))).bind fun z1=> cond z1.1 (some false) ((y0o a6R (z1.2.1,0,())).bind fun w4=> match w4 with |.inl a5=>some true |.inr b6=>some b6.1)
def b2S:FSem:=⟨[.v QI,.v (.arr 3 QI)],[.v .bool],a8h⟩
def d5q:Hints:=⟨[(58,[.sv 13 (.arr 3 QI),.sv 14 QI],[(.exit 0,[]),(.ret,[.sv 4 .bool])])],[(6,[(.normal,[.sv 12 .bool,.vp 3 (.arr 3 QI)])]),(3737,[(.normal,[.sv 13 (.arr 3 QI),.sv 14 QI,.sv 22 .bool])])],[]⟩
def a6S(x:(Int×Int×Unit)):Option Bool:= cond (decide (x.1≥1)) (cond (decide (x.1≤32)) (cond (decide (x.2.1≥0)) (some (decide (x.2.1≤8))) (some false)) (some false)) (some false)
def b2B:FSem:=⟨[.v Q3],[.v .bool],a6S⟩
def d5r:Hints:=⟨[],[],[]⟩
def a5Y(s:(Z4×Int×Int×Unit)):Option ((Z4×Int×Int×Unit) ⊕ Z0):= cond (decide (s.2.2.1<s.2.1)) ((m0h s.1 s.2.2.1).bind fun x1=> (a6S x1).bind fun y2=> cond (!y2) (some (.inr (Sum.inr ((false,()))))) (some (.inl (s.1,s.2.1,wrap .i64 (s.2.2.1+1),())))) (some (.inr (Sum.inl ())))
def a7k(x:Z4):Option Bool:= cond (decide ((x.length:Int) > 3)) (some false) ((y0o a5Y (x,(x.length:Int),0,())).bind fun w3=> match w3 with |.inl a4=>some true |.inr b5=>some b5.1)
def b1F:FSem:=⟨[.v (.list false Q3)],[.v .bool],a7k⟩
def d5s:Hints:=⟨[(58,[.sv 8 (.list false Q3),.sv 9 QI,.sv 10 QI],[(.exit 0,[]),(.ret,[.sv 2 .bool])])],[],[]⟩
def a7L(x:(Int×b4H)):Option Bool:= (show Option (Int×c2W)from cond (x.1==0) (some (x.2.2,x.1,x.1==0,x.2.1,())) (some (x.2.2,x.1,x.1==1,x.2.1,()))).bind fun z1=> cond z1.2.2.1 (some true) (cond (z1.2.1==2) (cond (decide (z1.2.2.2.1.2.2.1≥0)) (cond (decide (z1.2.2.2.1.2.2.1≤4)) (some (decide (z1.2.2.2.1.2.2.1≤z1.1))) (some false)) (some false)) (cond (z1.2.1==3) ((a4z (z1.2.2.2.1.2.2.2.2.2.1,z1.2.2.2.1.2.2.2.1)).bind fun y2=> cond y2 (some (decide ((z1.2.2.2.1.2.2.2.2.2.1.length:Int)≤z1.1))) (some false)) (cond (z1.2.1==4) ((a4z (z1.2.2.2.1.2.2.2.2.2.1,z1.2.2.2.1.2.2.2.1)).bind fun y3=> cond y3 (cond (decide ((z1.2.2.2.1.2.2.2.2.2.1.length:Int)≤z1.1)) ((a8h (z1.2.2.2.1.2.2.2.2.1,z1.2.2.2.1.2.2.2.2.2.2.1)).bind fun y4=> some y4) (some false)) (some false)) (cond (z1.2.1==5) (cond (decide ((z1.2.2.2.1.2.2.2.2.2.2.2.1.length:Int) > 0)) ((a7k z1.2.2.2.1.2.2.2.2.2.2.2.1).bind fun y5=> some y5) (some false)) (some false)))))
def b4d:FSem:=⟨[.v QI,.v Q42,.v QI],[.v .bool],a7L⟩
def d5t:Hints:=⟨[],[(26,[(.normal,[.sv 2 QI,.sv 7 QI,.sv 8 .bool,.vp 4 Q42])])],[]⟩
def a4A(x:b4H):Option Int:= cond (x.1.1==0) (some 1) (cond (x.1.1==1) (some x.2) (cond (x.1.1==2) (some x.1.2.2.1) ((show Option d1V from cond (x.1.1==3) (some (x.1.1==3,x.1,())) (some (x.1.1==4,x.1,()))).bind fun z1=> cond z1.1 (some (z1.2.1.2.2.2.2.2.1.length:Int)) (some 0))))
def a9R:FSem:=⟨[.v Q42,.v QI],[.v QI],a4A⟩
def d5u:Hints:=⟨[],[(1727,[(.normal,[.sv 16 .bool,.vp 2 Q42])])],[]⟩
def a1d(x:(List Int)):Option (List Int):= x0a x
def a1a:FSem:=⟨[.v QL],[.o QI],a1d⟩
def d5v:Hints:=⟨[],[],[]⟩
def c9D:Cx:=a7K [] [] [0,2] []
theorem d2Y(x):A0f c9D d5v Tryz.f183 a1a.ps a1a.rs x=a1a.F x:=Eq.trans (show _=w0q x by kernel_rfl) (A0t x)
def a3L(x:(List Int)):Option (List Int):= x0a x
def a1k:FSem:=⟨[.v QL],[.v QL],a3L⟩
def d2Z:Hints:=⟨[],[],[]⟩
def c7f:Cx:=a7K [] [] [0,2] []
theorem d1X(x):A0f c7f d2Z Tryz.f183 a1k.ps a1k.rs x=a1k.F x:=Eq.trans (show _=w0q x by kernel_rfl) (A0t x)
def a1m(x:Z4):Option Z4:= x0a x
def a1c:FSem:=⟨[.v (.list false Q3)],[.v (.list false Q3)],a1m⟩
def d3a:Hints:=⟨[],[],[]⟩
def c7g:Cx:=a7K [] [] [0,2] []
theorem d1Y(x):A0f c7g d3a Tryz.f251 a1c.ps a1c.rs x=a1c.F x:=Eq.trans (show _=w0q x by kernel_rfl) (A0t x)
def a5Z(x:(Int×a1M)):Option a1M:= (show Option b2x from(show Option ((a1M×b2x) ⊕ (b2x ⊕ (a1M×b2x)))from cond (x.1==2) (some (Sum.inr (Sum.inl ((0,0,0,0,0,[],a02 3 0,[],[],(0,[],()),[],()),(x.1,0,x.2.2.2.1,0,0,[],a02 3 0,[],[],(0,[],()),[],()),())))) (cond (x.1==4) (some (Sum.inl ((0,0,0,0,0,[],a02 3 0,[],[],(0,[],()),[],()),(x.1,0,0,0,x.2.2.2.2.2.1,[],x.2.2.2.2.2.2.2.1,[],[],(0,[],()),[],()),x.2,()))) (cond (x.1==3) (some (Sum.inl ((0,0,0,0,0,[],a02 3 0,[],[],(0,[],()),[],()),(x.1,0,0,0,0,[],a02 3 0,[],[],(0,[],()),[],()),x.2,()))) (cond (x.1==5) (some (Sum.inr (Sum.inr (((0,0,0,0,0,[],a02 3 0,[],[],(0,[],()),[],()),(x.1,0,0,0,0,[],a02 3 0,[],[],(0,[],()),[],()),x.2,()))))) (some (Sum.inr (Sum.inl ((0,0,0,0,0,[],a02 3 0,[],[],(0,[],()),[],()),(x.1,0,0,0,0,[],a02 3 0,[],[],(0,[],()),[],()),())))))))).bind fun z1=> match z1 with |.inl a2=>((a3L a2.2.2.1.2.2.2.2.2.1).bind fun y4=> some (a2.1,(a2.2.1.1,a2.2.1.2.1,a2.2.1.2.2.1,a2.2.2.1.2.2.2.1,a2.2.1.2.2.2.2.1,y4,a2.2.1.2.2.2.2.2.2),())) |.inr b3=>(match b3 with |.inl a5=>some (a5.1,a5.2.1,()) |.inr b6=>((a1m b6.2.2.1.2.2.2.2.2.2.2.1).bind fun y7=> some (b6.1,(b6.2.1.1,b6.2.1.2.1,b6.2.1.2.2.1,b6.2.1.2.2.2.1,b6.2.1.2.2.2.2.1,b6.2.1.2.2.2.2.2.1,b6.2.1.2.2.2.2.2.2.1,y7,b6.2.1.2.2.2.2.2.2.2.2),())))).bind fun z8=> some z8.2.1
def b3u:FSem:=⟨[.v QI,.v Q42],[.v Q42],a5Z⟩
def d5w:Hints:=⟨[],[(7,[(.normal,[.box 4 Q42,.box 5 Q42,.ptr 4 4 [],.ptr 5 5 []])]),(232,[(.normal,[.box 4 Q42,.box 5 Q42,.vp 3 Q42,.ptr 4 4 [],.ptr 5 5 []]),(.exit 0,[.box 4 Q42,.box 5 Q42,.ptr 4 4 [],.ptr 5 5 []]),(.exit 4,[.box 4 Q42,.box 5 Q42,.vp 3 Q42,.ptr 4 4 [],.ptr 5 5 []])])],[(8,[.v,.v,.v,.v,.q,.w [0,5],.x,.x]),(9,[.v,.v,.v,.v,.v,.q,.w [0,5],.x,.x])]⟩
def b1G(x:a1M):Option Bool:= (a5Z (x.1,x)).bind fun y1=> cond (x.2.2.1==y1.2.2.1) (cond (x.2.2.2.1==y1.2.2.2.1) (cond (x.2.2.2.2.1==y1.2.2.2.2.1) (cond (eqT (.arr 3 (.int .i64)) x.2.2.2.2.2.2.1 y1.2.2.2.2.2.2.1) (cond ((x.2.2.2.2.2.1.length:Int)==(y1.2.2.2.2.2.1.length:Int)) (some ((x.2.2.2.2.2.2.2.1.length:Int)==(y1.2.2.2.2.2.2.2.1.length:Int))) (some false)) (some false)) (some false)) (some false)) (some false)
def b7Q:FSem:=⟨[.v Q42],[.v .bool],b1G⟩
def d5x:Hints:=⟨[],[],[]⟩
def a7l(x:(Int×Int)):Option Bool:= cond (decide (1≤x.1)) (cond (decide (x.1≤4096)) (cond (decide (0≤x.2)) (some (decide (x.2≤x.1))) (some false)) (some false)) (some false)
def b1H:FSem:=⟨[.v QI,.v QI],[.v .bool],a7l⟩
def d5y:Hints:=⟨[],[],[]⟩
def a6w(s:Z15):Option (Z15 ⊕ ((List Int)×Unit)):= cond (decide (s.1<0)) none (cond (decide ((s.2.2.1.length:Int)<(A0j .i64 1 s.1))) (cond (lim ((a01 s.2.2.1)+1)) (some (.inl (s.1,s.2.1,a03 s.2.2.1 [s.2.1],()))) none) (some (.inr (s.2.2.1,()))))
def a2R(x:(Int×Int×Int)):Option (List Int):= (show Option Z22 from(a7l (x.2.1,x.2.2)).bind fun y1=> cond (!y1) (some (x.1,x.2.1,x.2.2,true,())) (cond (decide (x.1<0)) (some (x.1,x.2.1,x.2.2,true,())) (some (x.1,x.2.1,x.2.2,decide (x.1 > 8),())))).bind fun z2=> cond z2.2.2.2.1 (some []) (cond (decide (z2.1<0)) none ((show Option Z22 from cond (decide (z2.1<0)) none (cond ((A0j .i64 (A0k .i64 z2.2.1 z2.1) z2.1) != z2.2.1) (some (z2.1,z2.2.2.1,A0k .i64 z2.2.1 z2.1,true,())) (some (z2.1,z2.2.2.1,A0k .i64 z2.2.1 z2.1,decide ((A0k .i64 z2.2.1 z2.1)<z2.2.2.1),())))).bind fun z3=> cond z3.2.2.2.1 (some []) ((y0o a6w (z3.1,z3.2.2.1,[wrap .i64 (z3.2.2.1-z3.2.1)],())).bind fun w4=> some w4.1)))
def a5c:FSem:=⟨[.v QI,.v QI,.v QI],[.o QI],a2R⟩
def d5z:Hints:=⟨[(252,[.sv 0 QI,.sv 7 QI,.own 8 8 QI],[(.exit 0,[.own 8 8 QI])])],[(6,[(.normal,[.sv 0 QI,.sv 1 QI,.sv 2 QI,.sv 20 .bool])]),(30,[(.normal,[.sv 0 QI,.sv 2 QI,.sv 7 QI,.sv 33 .bool])])],[]⟩
def a4q(s:Z14):Option Z71:= cond (decide (s.2.2.1<s.2.1)) ((m0h s.1 s.2.2.1).bind fun x3=> (show Option Z34 from cond (decide (x3<0)) (some (s.1,s.2.1,s.2.2.1,x3 != 31,())) (cond (decide (x3 > 25)) (some (s.1,s.2.1,s.2.2.1,x3 != 31,())) (some (s.1,s.2.1,s.2.2.1,false,())))).bind fun z4=> cond z4.2.2.2.1 (some (.inr (Sum.inr ((false,()))))) (some (.inl (z4.1,z4.2.1,wrap .i64 (z4.2.2.1+1),())))) (some (.inr (Sum.inl ())))
def a8V(x:(Z5×Int×Int)):Option Bool:= (a2R (x.1.1,x.2.1,x.2.2)).bind fun y1=> (show Option (Bool×Z18)from cond ((y1.length:Int)==0) (some (true,x.1,())) (some ((x.1.2.1.length:Int) != (y1.length:Int),x.1,()))).bind fun z2=> cond z2.1 (some false) ((y0o a4q (z2.2.1.2.1,(z2.2.1.2.1.length:Int),0,())).bind fun w5=> match w5 with |.inl a6=>some true |.inr b7=>some b7.1)
def b4K:FSem:=⟨[.v Q11,.v QI,.v QI],[.v .bool],a8V⟩
def d5A:Hints:=⟨[(122,[.sv 27 QL,.sv 28 QI,.sv 29 QI],[(.exit 0,[]),(.ret,[.sv 6 .bool])])],[(14,[(.normal,[.sv 25 .bool,.vp 3 Q11])]),(7833,[(.normal,[.sv 27 QL,.sv 28 QI,.sv 29 QI,.sv 42 .bool])])],[]⟩
def a9S(x:b4H):Option Bool:= (show Option c2W from cond (decide (x.2<1)) (some (x.2,true,x.1,())) (cond (decide (x.2 > 4096)) (some (x.2,true,x.1,())) ((a7L (x.1.1,x.1,x.2)).bind fun y1=> cond (!y1) (some (x.2,true,x.1,())) ((b1G x.1).bind fun y2=> some (x.2,!y2,x.1,()))))).bind fun z3=> cond z3.2.1 (some false) ((show Option c2W from cond (decide (z3.2.2.1.2.1<0)) (some (z3.1,true,z3.2.2.1,())) (cond (decide (z3.2.2.1.2.1 > 30)) (some (z3.1,true,z3.2.2.1,())) (cond (z3.2.2.1.1==0) (some (z3.1,z3.2.2.1.2.1 != 0,z3.2.2.1,())) (some (z3.1,false,z3.2.2.1,()))))).bind fun z4=> cond z4.2.1 (some false) ((a4A (z4.2.2.1,z4.1)).bind fun y5=> (show Option (Int×c2W)from cond ((z4.2.2.1.2.2.2.2.2.2.2.2.1.length:Int) != y5) (some (z4.1,y5,true,z4.2.2.1,())) ((a2s z4.2.2.1.2.2.2.2.2.2.2.2.1).bind fun y6=> cond (!y6) (some (z4.1,y5,true,z4.2.2.1,())) ((a2s z4.2.2.1.2.2.2.2.2.2.2.2.2.2.1).bind fun y7=> some (z4.1,y5,!y7,z4.2.2.1,())))).bind fun z8=> cond z8.2.2.1 (some false) ((a5X z8.2.2.2.1.1).bind fun y9=> cond (!y9) (cond ((z8.2.2.2.1.2.2.2.2.2.2.2.2.2.2.1.length:Int)==0) (cond (z8.2.2.2.1.2.2.2.2.2.2.2.2.2.1.1==0) (some ((z8.2.2.2.1.2.2.2.2.2.2.2.2.2.1.2.1.length:Int)==0)) (some false)) (some false)) (cond ((z8.2.2.2.1.2.2.2.2.2.2.2.2.2.2.1.length:Int)==(wrap .i64 (z8.1-z8.2.1))) ((a8V (z8.2.2.2.1.2.2.2.2.2.2.2.2.2.1,z8.1,z8.2.1)).bind fun y10=> some y10) (some false)))))
def b6P:FSem:=⟨[.v Q42,.v QI],[.v .bool],a9S⟩
def d5B:Hints:=⟨[],[(6,[(.normal,[.sv 1 QI,.sv 24 .bool,.vp 2 Q42])]),(14,[(.normal,[.sv 1 QI,.sv 42 .bool,.vp 2 Q42])]),(62,[(.normal,[.sv 1 QI,.sv 5 QI,.sv 62 .bool,.vp 2 Q42])])],[]⟩
def b4e(s:Z14):Option Z71:= cond (decide (s.2.2.1<s.2.1)) ((m0h s.1 s.2.2.1).bind fun x1=> (show Option Z34 from cond (decide (x1<(-1073741824))) (some (s.1,s.2.1,s.2.2.1,true,())) (some (s.1,s.2.1,s.2.2.1,decide (x1≥1073741824),()))).bind fun z2=> cond z2.2.2.2.1 (some (.inr (Sum.inr ((false,()))))) (some (.inl (z2.1,z2.2.1,wrap .i64 (z2.2.2.1+1),())))) (some (.inr (Sum.inl ())))
def a2G(x:(List Int)):Option Bool:= (y0o b4e (x,(x.length:Int),0,())).bind fun w3=> match w3 with |.inl a4=>some true |.inr b5=>some b5.1
def b3v:FSem:=⟨[.v QL],[.v .bool],a2G⟩
def d5C:Hints:=⟨[(26,[.sv 5 QL,.sv 6 QI,.sv 7 QI],[(.exit 0,[]),(.ret,[.sv 2 .bool])])],[(1689,[(.normal,[.sv 5 QL,.sv 6 QI,.sv 7 QI,.sv 16 .bool])])],[]⟩
def a1i(x:(Int×(List Int))):Option (Int×(List Int)):= (m0h x.2 (wrap .i64 ((x.2.length:Int)-x.1))).bind fun x1=> some (x1,x.2)
def b4f:FSem:=⟨[.v QI,.r false (.b QL)],[.v QI],a1i⟩
def d5D:Hints:=⟨[],[],[]⟩
def a9k(x:((List Int)×Int)):Option Int:= cond (x.2==1) ((a1i (1,x.1)).bind fun y1=> some y1.1) (cond (x.2==2) ((a1i (1,x.1)).bind fun y2=> (a1i (2,y2.2)).bind fun y3=> some (wrap .i64 ((wrap .i64 (2*y2.1))-y3.1))) (cond (x.2==3) ((a1i (1,x.1)).bind fun y4=> (a1i (2,y4.2)).bind fun y5=> (a1i (3,y5.2)).bind fun y6=> some (wrap .i64 ((wrap .i64 ((wrap .i64 (3*y4.1))-(wrap .i64 (3*y5.1))))+y6.1))) (cond (x.2==4) ((a1i (1,x.1)).bind fun y7=> (a1i (2,y7.2)).bind fun y8=> (a1i (3,y8.2)).bind fun y9=> (a1i (4,y9.2)).bind fun y10=> some (wrap .i64 ((wrap .i64 ((wrap .i64 ((wrap .i64 (4*y7.1))-(wrap .i64 (6*y8.1))))+(wrap .i64 (4*y9.1))))-y10.1))) (some 0))))
def b6w:FSem:=⟨[.v QL,.v QI],[.v QI],a9k⟩
def d5E:Hints:=⟨[],[],[]⟩
def a7x(s:Z59):Option (Z59 ⊕ Z48):= cond (decide (s.2.2.2.1<s.2.2.1)) ((m0h s.2.1 s.2.2.2.1).bind fun x5=> (a9k (s.2.2.2.2.1,s.1)).bind fun y6=> (a2G [wrap .i64 (x5+y6)]).bind fun y7=> cond (!y7) (some (.inr (Sum.inr ((6,[],()))))) (cond (lim ((a01 s.2.2.2.2.1)+1)) (some (.inl (s.1,s.2.1,s.2.2.1,wrap .i64 (s.2.2.2.1+1),a03 s.2.2.2.2.1 [wrap .i64 (x5+y6)],()))) none)) (some (.inr (Sum.inl (s.2.2.2.2.1,()))))
def a9T(x:Z10):Option ((List Int)×Int):= (show Option Z49 from cond (decide (x.2.2<0)) (some (x.1,x.2.1,x.2.2,true,())) (cond (decide (x.2.2 > 4)) (some (x.1,x.2.1,x.2.2,true,())) (some (x.1,x.2.1,x.2.2,(x.1.length:Int) != x.2.2,())))).bind fun z1=> cond z1.2.2.2.1 (some ([],1)) ((show Option Z49 from(a2G z1.1).bind fun y2=> cond (!y2) (some (z1.1,z1.2.1,z1.2.2.1,true,())) ((a2G z1.2.1).bind fun y3=> some (z1.1,z1.2.1,z1.2.2.1,!y3,()))).bind fun z4=> cond z4.2.2.2.1 (some ([],6)) (cond (lim (a01 z4.1)) ((y0o a7x (z4.2.2.1,z4.2.1,(z4.2.1.length:Int),0,z4.1,())).bind fun w8=> match w8 with |.inl a9=>some (a9.1,0) |.inr b10=>some (b10.2.1,b10.1)) none))
def b6Q:FSem:=⟨[.v QL,.v QL,.v QI],[.o QI,.v QI],a9T⟩
def d5F:Hints:=⟨[(250,[.sv 2 QI,.sv 34 QL,.sv 35 QI,.sv 36 QI,.own 8 8 QI],[(.exit 0,[.own 8 8 QI]),(.ret,[.sv 7 QI,.own 6 6 QI])])],[(6,[(.normal,[.sv 0 QL,.sv 1 QL,.sv 2 QI,.sv 23 .bool])]),(14,[(.normal,[.sv 0 QL,.sv 1 QL,.sv 2 QI,.sv 31 .bool])])],[]⟩
def a5d(x:Int):Option Bool:= cond (decide (x≥(-1073741824))) (some (decide (x<1073741824))) (some false)
def a9l:FSem:=⟨[.v QI],[.v .bool],a5d⟩
def d5G:Hints:=⟨[],[],[]⟩
def a2Y(s:Z14):Option Z71:= cond (decide (s.2.2.1<s.2.1)) ((m0h s.1 s.2.2.1).bind fun x1=> (a5d x1).bind fun y2=> cond (!y2) (some (.inr (Sum.inr ((false,()))))) (some (.inl (s.1,s.2.1,wrap .i64 (s.2.2.1+1),())))) (some (.inr (Sum.inl ())))
def a2x(x:(List Int)):Option Bool:= (y0o a2Y (x,(x.length:Int),0,())).bind fun w3=> match w3 with |.inl a4=>some true |.inr b5=>some b5.1
def a6x:FSem:=⟨[.v QL],[.v .bool],a2x⟩
def d5H:Hints:=⟨[(26,[.sv 5 QL,.sv 6 QI,.sv 7 QI],[(.exit 0,[]),(.ret,[.sv 2 .bool])])],[],[]⟩
def a2Z(s:Z75):Option (Z75 ⊕ (Int×Int×Unit)):= cond (decide (s.2.2.2.2.2.1<s.2.2.2.2.1)) ((m0h s.2.2.2.1 s.2.2.2.2.2.1).bind fun x1=> cond (decide ((wrap .i64 ((wrap .i64 ((s.1.length:Int)-1))-s.2.2.2.2.2.1))<0)) (some (.inr (s.2.1,s.2.2.1,()))) ((m0h s.1 (wrap .i64 ((wrap .i64 ((s.1.length:Int)-1))-s.2.2.2.2.2.1))).bind fun x2=> some (.inl (s.1,s.2.1,wrap .i64 (s.2.2.1+(wrap .i64 (x1*x2))),s.2.2.2.1,s.2.2.2.2.1,wrap .i64 (s.2.2.2.2.2.1+1),())))) (some (.inr (s.2.1,s.2.2.1,())))
def a4B(x:Z10):Option Int:= (y0o a2Z (x.1,x.2.2,0,x.2.1,(x.2.1.length:Int),0,())).bind fun w3=> cond (decide (w3.1<0)) none (some (A0k .i64 w3.2.1 w3.1))
def a9z:FSem:=⟨[.v QL,.v QL,.v QI],[.v QI],a4B⟩
def d5I:Hints:=⟨[(58,[.sv 0 QL,.sv 2 QI,.sv 7 QI,.sv 11 QL,.sv 12 QI,.sv 13 QI],[(.exit 0,[.sv 2 QI,.sv 7 QI])])],[],[]⟩
def a6y(s:((List Int)×Z59)):Option (((List Int)×Z59) ⊕ Z48):= cond (decide (s.2.2.2.2.1<s.2.2.2.1)) ((m0h s.2.2.1 s.2.2.2.2.1).bind fun x6=> (a4B (s.2.2.2.2.2.1,s.1,s.2.1)).bind fun y7=> (a5d (wrap .i64 (y7+x6))).bind fun y8=> cond (!y8) (some (.inr (Sum.inr ((6,[],()))))) (cond (lim ((a01 s.2.2.2.2.2.1)+1)) (some (.inl (s.1,s.2.1,s.2.2.1,s.2.2.2.1,wrap .i64 (s.2.2.2.2.1+1),a03 s.2.2.2.2.2.1 [wrap .i64 (y7+x6)],()))) none)) (some (.inr (Sum.inl (s.2.2.2.2.2.1,()))))
def a6T(x:((List Int)×Z10)):Option ((List Int)×Int):= (show Option ((List Int)×Z49)from(a4z (x.2.2.1,x.2.2.2)).bind fun y1=> cond (!y1) (some (x.1,x.2.1,x.2.2.1,x.2.2.2,true,())) (some (x.1,x.2.1,x.2.2.1,x.2.2.2,(x.1.length:Int) != (x.2.2.1.length:Int),()))).bind fun z2=> cond z2.2.2.2.2.1 (some ([],1)) ((show Option ((List Int)×Z49)from(a2x z2.1).bind fun y3=> cond (!y3) (some (z2.1,z2.2.1,z2.2.2.1,z2.2.2.2.1,true,())) ((a2x z2.2.1).bind fun y4=> some (z2.1,z2.2.1,z2.2.2.1,z2.2.2.2.1,!y4,()))).bind fun z5=> cond z5.2.2.2.2.1 (some ([],6)) (cond ((decide (0≤(wrap .i64 ((z5.1.length:Int)+(z5.2.1.length:Int)))))&&(lim (a00 (wrap .i64 ((z5.1.length:Int)+(z5.2.1.length:Int)))))) (cond (lim (0+(a01 z5.1))) ((y0o a6y (z5.2.2.1,z5.2.2.2.1,z5.2.1,(z5.2.1.length:Int),0,a03 [] z5.1,())).bind fun w9=> match w9 with |.inl a10=>some (a10.1,0) |.inr b11=>some (b11.2.1,b11.1)) none) none))
def b6x:FSem:=⟨[.v QL,.v QL,.v QL,.v QI],[.o QI,.v QI],a6T⟩
def d5J:Hints:=⟨[(506,[.sv 2 QL,.sv 3 QI,.sv 42 QL,.sv 43 QI,.sv 44 QI,.own 10 10 QI],[(.exit 0,[.own 10 10 QI]),(.ret,[.sv 9 QI,.own 8 8 QI])])],[(6,[(.normal,[.sv 0 QL,.sv 1 QL,.sv 2 QL,.sv 3 QI,.sv 24 .bool])]),(14,[(.normal,[.sv 0 QL,.sv 1 QL,.sv 2 QL,.sv 3 QI,.sv 32 .bool])])],[]⟩
def a7m(x:Int):Option Bool:= cond (decide (x≥(-1073741824))) (some (decide (x<1073741824))) (some false)
def b1I:FSem:=⟨[.v QI],[.v .bool],a7m⟩
def d5K:Hints:=⟨[],[],[]⟩
def a3U(s:Z14):Option Z71:= cond (decide (s.2.2.1<s.2.1)) ((m0h s.1 s.2.2.1).bind fun x1=> (a7m x1).bind fun y2=> cond (!y2) (some (.inr (Sum.inr ((false,()))))) (some (.inl (s.1,s.2.1,wrap .i64 (s.2.2.1+1),())))) (some (.inr (Sum.inl ())))
def a4r(x:(List Int)):Option Bool:= (y0o a3U (x,(x.length:Int),0,())).bind fun w3=> match w3 with |.inl a4=>some true |.inr b5=>some b5.1
def a8i:FSem:=⟨[.v QL],[.v .bool],a4r⟩
def d5L:Hints:=⟨[(26,[.sv 5 QL,.sv 6 QI,.sv 7 QI],[(.exit 0,[]),(.ret,[.sv 2 .bool])])],[],[]⟩
def a3V(s:((List Int)×(Int×Int×Z16))):Option (((List Int)×(Int×Int×Z16)) ⊕ (Int×Unit)):= cond (decide (s.2.2.2.2.2.1<3)) ((m0h s.2.2.2.2.1 s.2.2.2.2.2.1).bind fun x1=> cond (decide ((wrap .i64 ((wrap .i64 ((wrap .i64 (s.2.1-s.2.2.1))-1))+s.2.2.2.2.2.1))≥0)) ((m0h s.1 (wrap .i64 ((wrap .i64 ((wrap .i64 (s.2.1-s.2.2.1))-1))+s.2.2.2.2.2.1))).bind fun x2=> some (.inl (s.1,s.2.1,s.2.2.1,wrap .i64 (s.2.2.2.1+(wrap .i64 (x1*x2))),s.2.2.2.2.1,wrap .i64 (s.2.2.2.2.2.1+1),()))) (some (.inl (s.1,s.2.1,s.2.2.1,s.2.2.2.1,s.2.2.2.2.1,wrap .i64 (s.2.2.2.2.2.1+1),())))) (some (.inr (s.2.2.2.1,())))
def a4s(x:((List Int)×Z2)):Option Int:= (y0o a3V (x.1,x.2.1,x.2.2.1,0,x.2.2.2,0,())).bind fun w3=> some (A0k .i64 w3.1 6)
def b1k:FSem:=⟨[.v QL,.v QI,.v QI,.v (.arr 3 QI)],[.v QI],a4s⟩
def d5M:Hints:=⟨[(58,[.sv 0 QL,.sv 1 QI,.sv 2 QI,.sv 9 QI,.sv 13 (.arr 3 QI),.sv 14 QI],[(.exit 0,[.sv 9 QI])])],[],[]⟩
def a8j(s:Z86):Option (Z86 ⊕ Z48):= cond (decide (s.2.2.2.1<s.2.2.1)) ((m0h s.2.1 s.2.2.2.1).bind fun x3=> (a4s (s.2.2.2.2.1,s.2.2.2.1,s.1,s.2.2.2.2.2.1)).bind fun y4=> (a7m (wrap .i64 (x3+y4))).bind fun y5=> cond (!y5) (some (.inr (Sum.inr ((6,[],()))))) (cond (lim ((a01 s.2.2.2.2.1)+1)) (some (.inl (s.1,s.2.1,s.2.2.1,wrap .i64 (s.2.2.2.1+1),a03 s.2.2.2.2.1 [wrap .i64 (x3+y4)],s.2.2.2.2.2.1,()))) none)) (some (.inr (Sum.inl (s.2.2.2.2.1,()))))
def b1J(x:((List Int)×(Int×(List Int)))):Option ((List Int)×Int):= (a8h (x.2.1,x.2.2)).bind fun y1=> cond (!y1) (some ([],1)) ((a4r x.1).bind fun y2=> cond (!y2) (some ([],6)) (cond ((decide (0≤(x.1.length:Int)))&&(lim (a00 (x.1.length:Int)))) ((y0o a8j (x.2.1,x.1,(x.1.length:Int),0,[],x.2.2,())).bind fun w6=> match w6 with |.inl a7=>some (a7.1,0) |.inr b8=>some (b8.2.1,b8.1)) none))
def b7R:FSem:=⟨[.v QL,.v QI,.v (.arr 3 QI)],[.o QI,.v QI],b1J⟩
def d5N:Hints:=⟨[(250,[.sv 1 QI,.sv 22 QL,.sv 23 QI,.sv 24 QI,.own 8 8 QI,.vp 5 (.arr 3 QI)],[(.exit 0,[.own 8 8 QI]),(.ret,[.sv 7 QI,.own 6 6 QI])])],[],[]⟩
def a6a(x:Int):Option Bool:= cond (decide (x≥(-1073741824))) (some (decide (x<1073741824))) (some false)
def a9U:FSem:=⟨[.v QI],[.v .bool],a6a⟩
def d5O:Hints:=⟨[],[],[]⟩
def a3q(s:Z14):Option Z71:= cond (decide (s.2.2.1<s.2.1)) ((m0h s.1 s.2.2.1).bind fun x1=> (a6a x1).bind fun y2=> cond (!y2) (some (.inr (Sum.inr ((false,()))))) (some (.inl (s.1,s.2.1,wrap .i64 (s.2.2.1+1),())))) (some (.inr (Sum.inl ())))
def a5l(x:(List Int)):Option Bool:= (y0o a3q (x,(x.length:Int),0,())).bind fun w3=> match w3 with |.inl a4=>some true |.inr b5=>some b5.1
def a9V:FSem:=⟨[.v QL],[.v .bool],a5l⟩
def d5P:Hints:=⟨[(26,[.sv 5 QL,.sv 6 QI,.sv 7 QI],[(.exit 0,[]),(.ret,[.sv 2 .bool])])],[],[]⟩
def a8W(x:(Int×Int×Unit)):Option (Z24×Int):= (a6S x).bind fun y1=> cond (!y1) none (cond ((decide (0≤x.1))&&((decide (x.1≤x.1))&&(lim (a00 x.1)))) (cond ((decide (0≤x.1))&&((decide (x.1≤x.1))&&(lim (a00 x.1)))) (some ((x.2.1,a02 (a00 x.1) 0,a02 (a00 x.1) 0,()),0)) none) none)
def b4L:FSem:=⟨[.v Q3],[.b Q17,.v QI],a8W⟩
def d5Q:Hints:=⟨[],[],[(3,[.v,.v,.v,.v,.q,.v,.v,.q,.x,.x,.x,.x])]⟩
def a5m(x:Int):Option Int:= some (v0o (v0n x (-1073741824)) 1073741823)
def a9W:FSem:=⟨[.v QI],[.v QI],a5m⟩
def d5R:Hints:=⟨[],[],[]⟩
def a2X(s:Z89):Option (Z89 ⊕ Z64):= cond (decide (s.2.2.1<s.2.1)) (cond ((decide (0≤s.2.2.1))&&(decide (s.2.2.1<(s.2.2.2.1.2.1.length:Int)))) (cond ((decide (0≤s.2.2.1))&&(decide (s.2.2.1<(s.2.2.2.1.2.2.1.length:Int)))) (some (.inl (wrap .i64 (s.1+(wrap .i64 ((a04 s.2.2.2.1.2.1 (a00 s.2.2.1) 0)*(a04 s.2.2.2.1.2.2.1 (a00 s.2.2.1) 0)))),s.2.1,wrap .i64 (s.2.2.1+1),s.2.2.2.1,()))) none) none) (some (.inr (s.1,s.2.2.2.1,())))
def a1V(x:Z24):Option Z42:= (y0o a2X (0,(x.2.1.length:Int),0,x,())).bind fun w1=> (a5m (A0k .i64 w1.1 16)).bind fun y2=> some (y2,w1.2.1)
def a4a:FSem:=⟨[.r false (.b Q17)],[.v QI],a1V⟩
def d5S:Hints:=⟨[(58,[.sv 3 QI,.sv 10 QI,.sv 11 QI,.box pinned Q17,.ptr 0 pinned [],.ref 9 pinned [.snd,.fst]],[(.exit 0,[.sv 3 QI,.box pinned Q17])])],[],[]⟩
def a2q(s:(Int×Z89)):Option ((Int×Z89) ⊕ Z64):= cond (decide (s.2.2.2.1<s.2.2.1)) (cond ((decide (0≤s.2.2.2.1))&&(decide (s.2.2.2.1<(s.2.2.2.2.1.2.2.1.length:Int)))) (cond ((decide (0≤s.2.2.2.1))&&(decide (s.2.2.2.1<(s.2.2.2.2.1.2.1.length:Int)))) ((show Option (Int×Int×Int×Z89)from cond (decide ((a04 s.2.2.2.2.1.2.2.1 (a00 s.2.2.2.1) 0) > 0)) (some (s.1,s.2.1,s.2.2.2.1,wrap .i64 ((a04 s.2.2.2.2.1.2.1 (a00 s.2.2.2.1) 0)+s.2.1),s.2.2.1,s.2.2.2.1,s.2.2.2.2.1,())) (cond (decide ((a04 s.2.2.2.2.1.2.2.1 (a00 s.2.2.2.1) 0)<0)) (some (s.1,s.2.1,s.2.2.2.1,wrap .i64 ((a04 s.2.2.2.2.1.2.1 (a00 s.2.2.2.1) 0)-s.2.1),s.2.2.1,s.2.2.2.1,s.2.2.2.2.1,())) (some (s.1,s.2.1,s.2.2.2.1,a04 s.2.2.2.2.1.2.1 (a00 s.2.2.2.1) 0,s.2.2.1,s.2.2.2.1,s.2.2.2.2.1,())))).bind fun z4=> cond ((decide (0≤z4.2.2.1))&&(decide (z4.2.2.1<(z4.2.2.2.2.2.2.1.2.1.length:Int)))) (some (.inl (z4.1,z4.2.1,z4.2.2.2.2.1,wrap .i64 (z4.2.2.2.2.2.1+1),(z4.2.2.2.2.2.2.1.1,a09 z4.2.2.2.2.2.2.1.2.1 (a00 z4.2.2.1) (v0o (v0n z4.2.2.2.1 (-1048576)) 1048576),z4.2.2.2.2.2.2.1.2.2),()))) none) none) none) (some (.inr (s.1,s.2.2.2.2.1,())))
def a3a(x:(Z24×Int)):Option Z24:= (a5m x.2).bind fun y1=> (show Option Z79 from(a1V x.1).bind fun y2=> cond (decide (y1 > y2.1)) (cond (decide (y2.2.1<0)) none (some (y1,A0j .i64 1 y2.2.1,y2.2,()))) (cond (decide (y1<y2.1)) (cond (decide (y2.2.1<0)) none (some (y1,wrap .i64 (0-(A0j .i64 1 y2.2.1)),y2.2,()))) (some (y1,0,y2.2,())))).bind fun z3=> (y0o a2q (z3.1,z3.2.1,(z3.2.2.1.2.2.1.length:Int),0,z3.2.2.1,())).bind fun w5=> cond (decide (1≤(w5.2.1.2.2.1.length:Int))) (cond (decide (0<(a01 (p0b w5.2.1.2.2.1 1 ((a01 w5.2.1.2.2.1)-1) w5.2.1.2.2.1):Int))) (some (w5.2.1.1,w5.2.1.2.1,a09 (p0b w5.2.1.2.2.1 1 ((a01 w5.2.1.2.2.1)-1) w5.2.1.2.2.1) 0 w5.1,w5.2.1.2.2.2)) none) none
def a7u:FSem:=⟨[.r false (.b Q17),.v QI],[],a3a⟩
def d5T:Hints:=⟨[(122,[.sv 1 QI,.sv 4 QI,.sv 36 QI,.sv 37 QI,.box pinned Q17,.ptr 0 pinned [],.ref 35 pinned [.snd,.snd,.fst]],[(.exit 1,[.sv 1 QI,.box pinned Q17,.ptr 0 pinned []])])],[(7,[(.normal,[.sv 1 QI,.sv 4 QI,.box pinned Q17,.ptr 0 pinned []])]),(15667,[(.normal,[.sv 1 QI,.sv 4 QI,.sv 6 QI,.sv 8 QI,.sv 36 QI,.sv 37 QI,.box pinned Q17,.ptr 0 pinned [],.ref 35 pinned [.snd,.snd,.fst]])])],[(17,[.p,.p,.q,.q,.q,.p,.p,.q,.q,.x])]⟩
def a5n(s:(Int×(Int×((List Int)×Z87)))):Option ((Int×(Int×((List Int)×Z87))) ⊕ (Z25 ⊕ Z25)):= cond (decide (s.2.1<s.1)) (cond ((decide (0≤s.2.1))&&(decide (s.2.1<(s.2.2.2.2.1.length:Int)))) ((a1V s.2.2.2.2.2.1).bind fun y6=> (a6a (wrap .i64 (y6.1+(a04 s.2.2.2.2.1 (a00 s.2.1) 0)))).bind fun y7=> cond (!y7) (some (.inr (Sum.inr (([],6,s.2.2.2.2.1,()))))) ((a3a (y6.2,wrap .i64 (y6.1+(a04 s.2.2.2.2.1 (a00 s.2.1) 0)))).bind fun y8=> cond ((decide (0≤s.2.1))&&(decide (s.2.1<(s.2.2.2.2.1.length:Int)))) (some (.inl (s.1,wrap .i64 (s.2.1+1),s.2.2.1,s.2.2.2.1,a09 s.2.2.2.2.1 (a00 s.2.1) (wrap .i64 (y6.1+(a04 s.2.2.2.2.1 (a00 s.2.1) 0))),y8,()))) none)) none) (some (.inr (Sum.inl (s.2.2.1,s.2.2.2.1,s.2.2.2.2.1,()))))
def a7y(k:Int)(v:(Int×Int×Unit))(s:(Z4×Z25)):Option ((Z4×Z25) ⊕ (Ex×Z4×Z25)):= (a8W v).bind fun y4=> cond (y4.2 != 0) (some (.inr (.ret,s.1,[],y4.2,s.2.2.2.1,()))) ((y0o a5n ((s.2.2.2.1.length:Int),0,s.2.1,s.2.2.1,s.2.2.2.1,y4.1,())).bind fun w9=> match w9 with |.inl a10=>some (.inl (s.1,a10.1,a10.2.1,a10.2.2.1,())) |.inr b11=>some (.inr (.ret,s.1,b11.1,b11.2.1,b11.2.2.1,())))
def a9X(x:((List Int)×Z4)):Option ((List Int)×Int):= (a7k x.2).bind fun y1=> cond (!y1) (some ([],1)) ((a5l x.1).bind fun y2=> cond (!y2) (some ([],6)) ((a1d x.1).bind fun y3=> cond (lim (a01 x.2)) ((l0b a7y x.2 (a01 x.2) (x.2,[],0,y3,())).bind fun w12=> match w12 with |.inl a13=>some (a13.2.2.2.1,0) |.inr (.normal,a14)=>some (a14.2.2.2.1,0) |.inr (.exit e15,a14)=>(cond (e15==0) (some (a14.2.2.2.1,0)) none) |.inr (.ret,a14)=>some (a14.2.1,a14.2.2.1)) none))
def a7M:FSem:=⟨[.v QL,.v (.list false Q3)],[.v QL,.v QI],a9X⟩
def d5U:Hints:=⟨[(8046,[.sv 35 QI,.sv 36 QI,.box 1001004 QL,.box 1001005 QI,.box 1001006 (.list true QI),.box 1028 Q17,.ptr 4 1001004 [],.ptr 5 1001005 [],.ptr 6 1001006 [],.ptr 9 1028 [],.ref 34 1001006 []],[(.exit 2,[.box 1001004 QL,.box 1001005 QI,.box 1001006 (.list true QI),.ptr 4 1001004 [],.ptr 5 1001005 [],.ptr 6 1001006 []]),(.ret,[.box 1001004 QL,.box 1001005 QI,.box 1001006 (.list true QI),.ptr 4 1001004 [],.ptr 5 1001005 [],.ptr 6 1001006 []])])],[],[]⟩
def c9E:Cx:=a7K [(183,a1a),(213,b1F),(296,a9V),(298,b4L),(299,a4a),(300,a9U),(301,a7u)] [(6,.list true QI)] [0,1,9,10,11,12,13] [56]
def d1Z:HintR:=⟨22,Q3,297,326,[4,5,6],[.sv 22 (.list false Q3),.box 1001004 QL,.box 1001005 QI,.box 1001006 (.list true QI),.ptr 4 1001004 [],.ptr 5 1001005 [],.ptr 6 1001006 []]⟩
theorem d3b(x):z0d c9E d5U d1Z Tryz.f240 a7M.ps a7M.rs x=a7M.F x:=by kernel_rfl
def a5e(x:Int):Option Bool:= cond (decide ((-1073741824)≤x)) (some (decide (x<1073741824))) (some false)
def b2C:FSem:=⟨[.v QI],[.v .bool],a5e⟩
def d5V:Hints:=⟨[],[],[]⟩
def a8k(s:Z59):Option (Z59 ⊕ Z48):= cond (decide (s.2.2.2.1<s.2.2.1)) ((m0h s.2.1 s.2.2.2.1).bind fun x2=> (show Option (Int×(Int×((List Int)×(Int×(Int×(Bool×((List Int)×Unit)))))))from(a5e x2).bind fun y3=> cond (!y3) (some (s.1,x2,s.2.1,s.2.2.1,s.2.2.2.1,true,s.2.2.2.2.1,())) (cond (decide (s.1<0)) none ((a5e (A0j .i64 x2 s.1)).bind fun y4=> some (s.1,x2,s.2.1,s.2.2.1,s.2.2.2.1,!y4,s.2.2.2.2.1,())))).bind fun z5=> cond z5.2.2.2.2.2.1 (some (.inr (Sum.inr ((6,[],()))))) (cond (decide (z5.1<0)) none (cond (lim ((a01 z5.2.2.2.2.2.2.1)+1)) (some (.inl (z5.1,z5.2.2.1,z5.2.2.2.1,wrap .i64 (z5.2.2.2.2.1+1),a03 z5.2.2.2.2.2.2.1 [A0j .i64 z5.2.1 z5.1],()))) none))) (some (.inr (Sum.inl (s.2.2.2.2.1,()))))
def a8X(x:((List Int)×Int)):Option ((List Int)×Int):= (show Option Z17 from cond (decide (x.2<0)) (some (x.1,x.2,true,())) (some (x.1,x.2,decide (x.2 > 30),()))).bind fun z1=> cond z1.2.2.1 (some ([],1)) ((y0o a8k (z1.2.1,z1.1,(z1.1.length:Int),0,[],())).bind fun w6=> match w6 with |.inl a7=>some (a7.1,0) |.inr b8=>some (b8.2.1,b8.1))
def b7S:FSem:=⟨[.v QL,.v QI],[.o QI,.v QI],a8X⟩
def d5W:Hints:=⟨[(122,[.sv 1 QI,.sv 15 QL,.sv 16 QI,.sv 17 QI,.own 6 6 QI],[(.exit 0,[.own 6 6 QI]),(.ret,[.sv 5 QI,.own 4 4 QI])])],[(6,[(.normal,[.sv 0 QL,.sv 1 QI,.sv 14 .bool])]),(15666,[(.normal,[.sv 1 QI,.sv 8 QI,.sv 15 QL,.sv 16 QI,.sv 17 QI,.sv 30 .bool,.own 6 6 QI])])],[]⟩
def a6U(s:(Int×(Int×((List Int)×b5K)))):Option ((Int×(Int×((List Int)×b5K))) ⊕ ((List Int)×Unit)):= cond (decide (s.2.1<s.1)) ((m0h s.2.2.2.1.2.2.2.2.2.2.2.2.1 0).bind fun x1=> cond (lim ((a01 s.2.2.1)+1)) (some (.inl (s.1,wrap .i64 (s.2.1+1),a03 s.2.2.1 [x1],s.2.2.2.1,()))) none) (some (.inr (s.2.2.1,())))
def b2T(x:b4H):Option ((List Int)×Int):= (show Option (((List Int)×(Int×b5K)) ⊕ Z5)from cond (x.1.1==0) ((y0o a6U (x.2,0,[],x.1,())).bind fun w2=> some (Sum.inr ((0,w2.1,())))) (cond (x.1.1==1) (some (Sum.inl (x.1.2.2.2.2.2.2.2.2.1,0,x.1,()))) (cond (x.1.1==2) ((a9T (x.1.2.2.2.2.2.2.2.2.1,x.1.2.2.2.2.2.2.2.2.2.2.1,x.1.2.2.1)).bind fun y3=> some (Sum.inl (y3.1,y3.2,x.1,()))) (cond (x.1.1==3) ((a6T (x.1.2.2.2.2.2.2.2.2.1,x.1.2.2.2.2.2.2.2.2.2.2.1,x.1.2.2.2.2.2.1,x.1.2.2.2.1)).bind fun y4=> some (Sum.inl (y4.1,y4.2,x.1,()))) (cond (x.1.1==4) ((a6T (x.1.2.2.2.2.2.2.2.2.1,x.1.2.2.2.2.2.2.2.2.2.2.1,x.1.2.2.2.2.2.1,x.1.2.2.2.1)).bind fun y5=> cond (y5.2==0) ((b1J (y5.1,x.1.2.2.2.2.1,x.1.2.2.2.2.2.2.1)).bind fun y6=> some (Sum.inl (y6.1,y6.2,x.1,()))) (some (Sum.inl (y5.1,y5.2,x.1,())))) (cond (x.1.1==5) ((a9X (x.1.2.2.2.2.2.2.2.2.2.2.1,x.1.2.2.2.2.2.2.2.1)).bind fun y7=> some (Sum.inl (y7.1,y7.2,x.1,()))) (some (Sum.inl ([],0,x.1,()))))))))).bind fun z8=> match z8 with |.inl a9=>(cond (a9.2.1 != 0) (some ([],a9.2.1)) ((a8X (a9.1,a9.2.2.1.2.1)).bind fun y11=> some (y11.1,y11.2))) |.inr b10=>some (b10.2.1,b10.1)
def b9o:FSem:=⟨[.v Q42,.v QI],[.o QI,.v QI],b2T⟩
def d5X:Hints:=⟨[(3922,[.sv 12 QI,.sv 13 QI,.own 6 6 QI,.vp 2 Q42],[(.exit 1,[.own 6 6 QI])])],[(15,[(.normal,[.sv 6 QL,.sv 7 QI,.vp 2 Q42]),(.ret,[.sv 5 QI,.own 4 6 QI])])],[]⟩
def b2k(x:b4H):Option ((List Int)×Int):= (a9S (x.1,x.2)).bind fun y1=> cond (!y1) (some ([],1)) ((b2T (x.1,x.2)).bind fun y2=> cond (y2.2 != 0) (some ([],1)) (some (y2.1,0)))
def b6R:FSem:=⟨[.v Q42,.v QI],[.o QI,.v QI],b2k⟩
def d5Y:Hints:=⟨[],[],[]⟩
def a8Y(x:Int):Option Bool:= cond (decide ((-1073741824)≤x)) (some (decide (x<1073741824))) (some false)
def b4M:FSem:=⟨[.v QI],[.v .bool],a8Y⟩
def d5Z:Hints:=⟨[],[],[]⟩
def a4t(s:((List (List Int))×((List (List Int))×Z50))):Option (((List (List Int))×((List (List Int))×Z50)) ⊕ (((List (List Int))×Z26) ⊕ (Bool×Unit))):= cond (decide (s.2.2.2.2.2.2.1<s.2.2.2.2.2.1)) ((m0h s.2.2.2.2.1 s.2.2.2.2.2.2.1).bind fun x5=> (a8Y x5).bind fun y6=> cond (!y6) (some (.inr (Sum.inr ((false,()))))) (some (.inl (s.1,s.2.1,s.2.2.1,s.2.2.2.1,s.2.2.2.2.1,s.2.2.2.2.2.1,wrap .i64 (s.2.2.2.2.2.2.1+1),())))) (some (.inr (Sum.inl (s.1,s.2.1,s.2.2.1,s.2.2.2.1,()))))
def a4u(s:((List (List Int))×Z26)):Option (((List (List Int))×Z26) ⊕ Z0):= cond (decide (s.2.2.2.1<s.2.2.1)) ((m0h s.2.1 s.2.2.2.1).bind fun x3=> (m0h s.1 0).bind fun x4=> cond ((x3.length:Int) != (x4.length:Int)) (some (.inr (Sum.inr ((false,()))))) ((y0o a4t (s.1,s.2.1,s.2.2.1,s.2.2.2.1,x3,(x3.length:Int),0,())).bind fun w7=> match w7 with |.inl a8=>some (.inl (a8.1,a8.2.1,a8.2.2.1,wrap .i64 (a8.2.2.2.1+1),())) |.inr b9=>some (.inr (Sum.inr ((b9.1,())))))) (some (.inr (Sum.inl ())))
def a7n(x:(List (List Int))):Option Bool:= (show Option ((List (List Int))×(Bool×Unit))from cond (decide ((x.length:Int)<1)) (some (x,true,())) (cond (decide ((x.length:Int) > 8)) (some (x,true,())) ((m0h x 0).bind fun x1=> some (x,decide ((x1.length:Int) > 4096),())))).bind fun z2=> cond z2.2.1 (some false) ((y0o a4u (z2.1,z2.1,(z2.1.length:Int),0,())).bind fun w10=> match w10 with |.inl a11=>some true |.inr b12=>some b12.1)
def b1K:FSem:=⟨[.v (.list false QL)],[.v .bool],a7n⟩
def d6a:Hints:=⟨[(58,[.sv 0 (.list false QL),.sv 22 (.list false QL),.sv 23 QI,.sv 24 QI],[(.exit 0,[]),(.ret,[.sv 2 .bool])]),(29902,[.sv 0 (.list false QL),.sv 22 (.list false QL),.sv 23 QI,.sv 24 QI,.sv 35 QL,.sv 36 QI,.sv 37 QI],[(.exit 2,[.sv 0 (.list false QL),.sv 22 (.list false QL),.sv 23 QI,.sv 24 QI]),(.ret,[.sv 2 .bool])])],[(6,[(.normal,[.sv 0 (.list false QL),.sv 21 .bool])])],[]⟩
def a6z(s:((List (List Int))×Z27)):Option (((List (List Int))×Z27) ⊕ Z1):= cond (decide (s.2.2.1<s.2.1)) ((m0h s.1 s.2.2.1).bind fun x1=> (a1d x1).bind fun y2=> cond (lim ((a01 s.2.2.2.1)+(a01 (a09 ([[]]:List (List Int)) 0 y2)))) (some (.inl (s.1,s.2.1,wrap .i64 (s.2.2.1+1),a03 s.2.2.2.1 (a09 ([[]]:List (List Int)) 0 y2),()))) none) (some (.inr (s.2.2.2.1,())))
def a6V(x:(List (List Int))):Option (List (List Int)):= (y0o a6z (x,(x.length:Int),0,([]:(List (List Int))),())).bind fun w3=> some w3.1
def b2D:FSem:=⟨[.v (.list false QL)],[.o (.list true QI)],a6V⟩
def d6b:Hints:=⟨[(58,[.sv 6 (.list false QL),.sv 7 QI,.sv 8 QI,.own 3 3 (.list true QI)],[(.exit 0,[.own 3 3 (.list true QI)])])],[],[]⟩
def a3B(s:(Int×(Int×(Int×((List (List Int))×(Z7×Int×Unit)))))):Option ((Int×(Int×(Int×((List (List Int))×(Z7×Int×Unit))))) ⊕ (Z1 ⊕ (Bool×Z1))):= cond (decide (s.2.2.1<s.2.1)) (cond ((decide (0≤s.2.2.1))&&(decide (s.2.2.1<((a01 (a04 s.2.2.2.1 (a00 s.2.2.2.2.2.1) []):Nat):Int)))) (cond ((decide (0≤s.2.2.2.2.1.2.1))&&(decide (s.2.2.2.2.1.2.1<(s.2.2.2.1.length:Int)))) (cond ((decide (0≤s.2.2.1))&&(decide (s.2.2.1<((a01 (a04 s.2.2.2.1 (a00 s.2.2.2.2.1.2.1) []):Nat):Int)))) ((a8Y (wrap .i64 ((a04 (a04 s.2.2.2.1 (a00 s.2.2.2.2.1.2.1) []) (a00 s.2.2.1) 0)+(wrap .i64 (s.1*(A0k .i64 (wrap .i64 (s.2.2.2.2.1.2.2.1*(a04 (a04 s.2.2.2.1 (a00 s.2.2.2.2.2.1) []) (a00 s.2.2.1) 0))) 8)))))).bind fun y1=> cond (!y1) (some (.inr (Sum.inr ((false,s.2.2.2.1,()))))) (cond ((decide (0≤s.2.2.2.2.1.2.1))&&(decide (s.2.2.2.2.1.2.1<(s.2.2.2.1.length:Int)))) (cond ((decide (0≤s.2.2.1))&&(decide (s.2.2.1<((a01 (a04 s.2.2.2.1 (a00 s.2.2.2.2.1.2.1) []):Nat):Int)))) (some (.inl (s.1,s.2.1,wrap .i64 (s.2.2.1+1),a09 s.2.2.2.1 (a00 s.2.2.2.2.1.2.1) (a09 (a04 s.2.2.2.1 (a00 s.2.2.2.2.1.2.1) []) (a00 s.2.2.1) (wrap .i64 ((a04 (a04 s.2.2.2.1 (a00 s.2.2.2.2.1.2.1) []) (a00 s.2.2.1) 0)+(wrap .i64 (s.1*(A0k .i64 (wrap .i64 (s.2.2.2.2.1.2.2.1*(a04 (a04 s.2.2.2.1 (a00 s.2.2.2.2.2.1) []) (a00 s.2.2.1) 0))) 8)))))),s.2.2.2.2.1,((a00 s.2.2.2.2.2.1:Nat):Int),()))) none) none)) none) none) none) (some (.inr (Sum.inl (s.2.2.2.1,()))))
def a7N(x:((List (List Int))×(Z7×Int))):Option (Bool×(List (List Int))):= cond ((decide (0≤x.2.1.1))&&(decide (x.2.1.1<(x.1.length:Int)))) ((y0o a3B (x.2.2,((a01 (a04 x.1 (a00 x.2.1.1) []):Nat):Int),0,x.1,x.2.1,((a00 x.2.1.1:Nat):Int),())).bind fun w2=> match w2 with |.inl a3=>some (true,a3.1) |.inr b4=>some (b4.1,b4.2.1)) none
def b3w:FSem:=⟨[.r false (.o (.list true QI)),.v Q12,.v QI],[.v .bool],a7N⟩
def d6c:Hints:=⟨[(26,[.sv 2 QI,.sv 15 QI,.sv 16 QI,.own 0 pinned (.list true QI),.vp 4 Q12,.rfi 14 pinned],[(.exit 0,[.own 0 pinned (.list true QI)]),(.ret,[.sv 6 .bool,.own 0 pinned (.list true QI)])])],[],[(4,[.q,.v,.v,.q,.q,.v,.q,.q,.v,.v,.v,.v,.v,.v,.v,.x,.x])]⟩
def a6b(k:Int)(v:Z7)(s:(Z13×((List (List Int))×Z11))):Option ((Z13×((List (List Int))×Z11)) ⊕ (Ex×(Z13×((List (List Int))×Z11)))):= (a7N (s.2.2.2.1,v,(-1))).bind fun y5=> cond (!y5.1) (some (.inr (.ret,s.1,([]:(List (List Int))),6,y5.2,()))) (some (.inl (s.1,s.2.1,s.2.2.1,y5.2,())))
def b1L(x:((List (List Int))×Z13)):Option ((List (List Int))×Int):= (show Option ((List (List Int))×(Z13×(Bool×((List (List Int))×(Int×Unit)))))from(a7n x.1).bind fun y1=> cond (!y1) (some (x.1,x.2,true,([]:(List (List Int))),0,())) ((a8g (x.2,(x.1.length:Int))).bind fun y2=> some (x.1,x.2,!y2,([]:(List (List Int))),0,()))).bind fun z3=> cond z3.2.2.1 (some (([]:(List (List Int))),1)) ((a6V z3.1).bind fun y4=> cond (lim (a01 z3.2.1)) ((l0b a6b z3.2.1 (a01 z3.2.1) (z3.2.1,z3.2.2.2.1,z3.2.2.2.2.1,y4,())).bind fun w6=> match w6 with |.inl a7=>some (a7.2.2.2.1,0) |.inr (.normal,a8)=>some (a8.2.2.2.1,0) |.inr (.exit e9,a8)=>(cond (e9==0) (some (a8.2.2.2.1,0)) none) |.inr (.ret,a8)=>some (a8.2.1,a8.2.2.1)) none)
def a8Z:FSem:=⟨[.v (.list false QL),.v (.list false Q12)],[.v (.list false QL),.v QI],b1L⟩
def d6d:Hints:=⟨[],[(6,[(.normal,[.sv 0 (.list false QL),.sv 1 (.list false Q12),.sv 18 .bool,.box 4 (.list false QL),.box 5 QI,.ptr 4 4 [],.ptr 5 5 []])])],[]⟩
def c9F:Cx:=a7K [(113,b1K),(114,b2R),(115,b2D),(116,b3w)] [(6,.list true (.list true QI))] [0,1] [29]
def d2a:HintR:=⟨21,Q12,186,242,[4,5,6],[.sv 21 (.list false Q12),.box 1001004 (.list false QL),.box 1001005 QI,.box 1001006 (.list true (.list true QI)),.ptr 4 1001004 [],.ptr 5 1001005 [],.ptr 6 1001006 []]⟩
theorem d3c(x):z0d c9F d6d d2a Tryz.f107 a8Z.ps a8Z.rs x=a8Z.F x:=by kernel_rfl
def a4C(s:(b2w×(Int×(Int×((List (List Int))×c2X))))):Option ((b2w×(Int×(Int×((List (List Int))×c2X)))) ⊕ (((List (List Int))×c2X) ⊕ Z46)):= cond (decide (s.2.2.1<s.2.1)) ((m0h s.1 s.2.2.1).bind fun x3=> (b2k (x3,s.2.2.2.2.2.1.2.1)).bind fun y4=> cond (y4.2 != 0) (some (.inr (Sum.inr ((1,(0,([]:(List (List Int))),()),()))))) (cond (lim ((a01 s.2.2.2.1)+1)) (some (.inl (s.1,s.2.1,wrap .i64 (s.2.2.1+1),a03 s.2.2.2.1 ([y4.1]:List (List Int)),s.2.2.2.2.1,s.2.2.2.2.2.1,()))) none)) (some (.inr (Sum.inl (s.2.2.2.1,s.2.2.2.2.1,s.2.2.2.2.2.1,()))))
def a3M(x:a2U):Option Z28:= (show Option (Bool×c2X)from(a6Q x).bind fun y1=> cond (!y1) (some (true,(0,([]:(List (List Int))),()),x,())) (some ((x.2.2.2.2.1.length:Int) != x.2.2.1.2.1,(0,([]:(List (List Int))),()),x,()))).bind fun z2=> cond z2.1 (some ((0,([]:(List (List Int))),()),1)) (cond ((decide (0≤(z2.2.2.1.2.2.2.2.1.length:Int)))&&(lim (a00 (z2.2.2.1.2.2.2.2.1.length:Int)))) ((y0o a4C (z2.2.2.1.2.2.2.2.1,(z2.2.2.1.2.2.2.2.1.length:Int),0,([]:(List (List Int))),z2.2.1,z2.2.2.1,())).bind fun w5=> match w5 with |.inl a6=>((b1L (a6.1,a6.2.2.1.2.2.2.1)).bind fun y8=> cond (y8.2 != 0) (some ((0,([]:(List (List Int))),()),1)) ((a4i (a6.2.2.1.2.2.1.2.2.1,y8.1,())).bind fun y9=> cond (!y9) (some ((0,([]:(List (List Int))),()),1)) (some ((a6.2.2.1.2.2.1.2.2.1,y8.1,()),0)))) |.inr b7=>some (b7.2.1,b7.1)) none)
def a9m:FSem:=⟨[.v Q60],[.v Q15,.v QI],a3M⟩
def H50:Hints:=⟨[(122,[.sv 30 (.list false Q42),.sv 31 QI,.sv 32 QI,.own 4 4 QL,.box 2 Q15,.vp 1 Q60,.ptr 2 2 []],[(.exit 0,[.own 4 4 QL,.box 2 Q15,.vp 1 Q60,.ptr 2 2 []]),(.ret,[.sv 3 QI,.box 2 Q15,.ptr 2 2 []])])],[(6,[(.normal,[.sv 23 .bool,.box 2 Q15,.vp 1 Q60,.ptr 2 2 []])])],[]⟩
def a4k(x:a2U):Option Bool:= (a3M x).bind fun y1=> some (y1.2==0)
def b4N:FSem:=⟨[.v Q60],[.v .bool],a4k⟩
def H61:Hints:=⟨[],[],[]⟩
def a9H(x:b4H):Option Bool:= (b2k (x.1,x.2)).bind fun y1=> some (y1.2==0)
def b6S:FSem:=⟨[.v Q42,.v QI],[.v .bool],a9H⟩
def d6e:Hints:=⟨[],[],[]⟩
def a2N(s:Z50):Option (Z50 ⊕ Z30):= cond (s.2.1 != 0) (cond (decide (s.1<32)) ((a1S (s.2.1,s.1)).bind fun y2=> cond (!y2) (some (.inl (wrap .i64 (s.1+1),s.2.1,s.2.2.1,s.2.2.2.1,s.2.2.2.2.1,()))) (some (.inr (s.1,s.2.2.1,s.2.2.2.1,s.2.2.2.2.1,())))) (some (.inr (s.1,s.2.2.1,s.2.2.2.1,s.2.2.2.2.1,())))) (some (.inr (s.1,s.2.2.1,s.2.2.2.1,s.2.2.2.2.1,())))
def a5N(s:Z30):Option Z66:= cond (decide (s.2.2.2.1<s.2.2.1)) ((m0h s.2.1 s.2.2.2.1).bind fun x1=> (y0o a2N (s.1,x1,s.2.1,s.2.2.1,s.2.2.2.1,())).bind fun w3=> some (.inl (w3.1,w3.2.1,w3.2.2.1,wrap .i64 (w3.2.2.2.1+1),()))) (some (.inr (s.1,())))
def a1r(x:(List Int)):Option Int:= (y0o a5N (0,x,(x.length:Int),0,())).bind fun w4=> some w4.1
def a2y:FSem:=⟨[.v QL],[.v QI],a1r⟩
def d6f:Hints:=⟨[(58,[.sv 3 QI,.sv 6 QL,.sv 7 QI,.sv 8 QI],[(.exit 0,[.sv 3 QI])]),(7474,[.sv 3 QI,.sv 5 QI,.sv 6 QL,.sv 7 QI,.sv 8 QI],[(.exit 2,[.sv 3 QI,.sv 6 QL,.sv 7 QI,.sv 8 QI])])],[],[]⟩
def a2b(x:(Z6×Int)):Option Z6:= (show Option Z35 from cond ((a05 x.1.2.1 8)==0) (cond (lim ((a01 x.1.1)+1)) (some (x.2,(a03 x.1.1 [0],x.1.2),())) none) (some (x.2,x.1,()))).bind fun z1=> cond ((decide (0≤(wrap .i64 (a07 z1.2.1.2.1 8))))&&(decide ((wrap .i64 (a07 z1.2.1.2.1 8))<(z1.2.1.1.length:Int)))) (cond (decide ((wrap .i64 (7-(a05 z1.2.1.2.1 8)))<0)) none (cond ((decide (0≤(wrap .i64 (a07 z1.2.1.2.1 8))))&&(decide ((wrap .i64 (a07 z1.2.1.2.1 8))<(z1.2.1.1.length:Int)))) (some (a09 z1.2.1.1 (a00 (wrap .i64 (a07 z1.2.1.2.1 8))) (bits .u8 .or (a04 z1.2.1.1 (a00 (wrap .i64 (a07 z1.2.1.2.1 8))) 0) (A0j .u8 z1.1 (wrap .i64 (7-(a05 z1.2.1.2.1 8))))),wrap .i64 (z1.2.1.2.1+1),z1.2.1.2.2)) none)) none
def a5O:FSem:=⟨[.r false (.b Q9),.v (.int .u8)],[],a2b⟩
def d6g:Hints:=⟨[],[(1,[(.normal,[.sv 1 (.int .u8),.box pinned Q9,.ptr 0 pinned []])])],[(2,[.p,.p,.q,.q,.p,.p,.q,.q,.v,.q,.q,.v,.p,.p,.q,.q,.v,.v,.v,.x,.x,.x])]⟩
def a4b(s:Z53):Option (Z53 ⊕ Z19):= cond (decide (s.2.1≥0)) (cond (decide (s.2.1<0)) none ((a2b (s.2.2.1,wrap .u8 (bits .u64 .and (A0k .u64 s.1 s.2.1) 1))).bind fun y2=> some (.inl (s.1,wrap .i64 (s.2.1-1),y2,())))) (some (.inr (s.2.2.1,())))
def a0G(x:(Z6×Int×Int)):Option Z16:= (show Option (Int×Int×Bool×Z19)from cond (decide (x.2.2<0)) (some (x.2.1,x.2.2,true,x.1,())) (cond (decide (x.2.2 > 64)) (some (x.2.1,x.2.2,true,x.1,())) (cond (decide (x.2.2<0)) none (some (x.2.1,x.2.2,(A0k .u64 x.2.1 x.2.2) != 0,x.1,()))))).bind fun z1=> cond z1.2.2.1 (some (1,z1.2.2.2.1)) ((y0o a4b (z1.1,wrap .i64 (z1.2.1-1),z1.2.2.2.1,())).bind fun w3=> some (0,w3.1))
def a2O:FSem:=⟨[.r false (.b Q9),.v (.int .u64),.v QI],[.v QI],a0G⟩
def d6h:Hints:=⟨[(58,[.sv 1 (.int .u64),.sv 7 QI,.box pinned Q9,.ptr 0 pinned []],[(.exit 0,[.box pinned Q9])])],[(6,[(.normal,[.sv 1 (.int .u64),.sv 2 QI,.sv 19 .bool,.box pinned Q9,.ptr 0 pinned []])])],[]⟩
def a2H(x:(Z6×Int×Int)):Option Z6:= cond (decide (x.2.2<0)) none ((a0G (x.1,bits .u64 .and (wrap .u64 x.2.1) (wrap .u64 ((A0j .u64 1 x.2.2)-1)),x.2.2)).bind fun y1=> some y1.2)
def a9Y:FSem:=⟨[.r false (.b Q9),.v QI,.v QI],[],a2H⟩
def d6i:Hints:=⟨[],[],[]⟩
def a5P(s:Z90):Option (Z90 ⊕ Z19):= cond (decide (s.2.2.2.1<s.2.2.1)) ((m0h s.2.1 s.2.2.2.1).bind fun x6=> (a2H (s.2.2.2.2.1,x6,s.1)).bind fun y7=> some (.inl (s.1,s.2.1,s.2.2.1,wrap .i64 (s.2.2.2.1+1),y7,()))) (some (.inr (s.2.2.2.2.1,())))
def a8l(x:(Z6×a1M)):Option Z6:= (a0G (x.1,wrap .u64 (wrap .i64 ((x.2.2.2.2.2.2.1.length:Int)-1)),5)).bind fun y1=> (a0G (y1.2,wrap .u64 x.2.2.2.2.1,4)).bind fun y2=> (a1r x.2.2.2.2.2.2.1).bind fun y3=> (a0G (y2.2,wrap .u64 y3,5)).bind fun y4=> (y0o a5P (y3,x.2.2.2.2.2.2.1,(x.2.2.2.2.2.2.1.length:Int),0,y4.2,())).bind fun w8=> some w8.1
def b5h:FSem:=⟨[.r false (.b Q9),.v Q42],[],a8l⟩
def d6j:Hints:=⟨[(254,[.sv 4 QI,.sv 27 QL,.sv 28 QI,.sv 29 QI,.box pinned Q9,.ptr 0 pinned []],[(.exit 0,[.box pinned Q9])])],[],[]⟩
def b3x(s:Z14):Option Z71:= cond (decide (s.2.2.1<s.2.1)) ((m0h s.1 s.2.2.1).bind fun x3=> (show Option Z34 from cond (decide (x3<(-1073741824))) (some (s.1,s.2.1,s.2.2.1,true,())) (some (s.1,s.2.1,s.2.2.1,decide (x3≥1073741824),()))).bind fun z4=> cond z4.2.2.2.1 (some (.inr (Sum.inr ((false,()))))) (some (.inl (z4.1,z4.2.1,wrap .i64 (z4.2.2.1+1),())))) (some (.inr (Sum.inl ())))
def a6W(x:Z2):Option Bool:= (show Option ((List Int)×(Bool×Unit))from(a7l (x.1,x.2.1)).bind fun y1=> cond (!y1) (some (x.2.2,true,())) (some (x.2.2,(x.2.2.length:Int) != (wrap .i64 (x.1-x.2.1)),()))).bind fun z2=> cond z2.2.1 (some false) ((y0o b3x (z2.1,(z2.1.length:Int),0,())).bind fun w5=> match w5 with |.inl a6=>some true |.inr b7=>some b7.1)
def b2E:FSem:=⟨[.v QI,.v QI,.v QL],[.v .bool],a6W⟩
def d6k:Hints:=⟨[(58,[.sv 21 QL,.sv 22 QI,.sv 23 QI],[(.exit 0,[]),(.ret,[.sv 6 .bool])])],[(6,[(.normal,[.sv 2 QL,.sv 20 .bool])]),(3737,[(.normal,[.sv 21 QL,.sv 22 QI,.sv 23 QI,.sv 32 .bool])])],[]⟩
def a5H(x:(List Int)):Option Int:= (a1r x).bind fun y1=> some (wrap .i64 (5+(wrap .i64 (y1*(x.length:Int)))))
def b4O:FSem:=⟨[.v QL],[.v QI],a5H⟩
def d6l:Hints:=⟨[],[],[]⟩
def a1P(x:Int):Option Bool:= cond (decide (0≤x)) (some (decide (x≤25))) (some false)
def a6A:FSem:=⟨[.v QI],[.v .bool],a1P⟩
def d6m:Hints:=⟨[],[],[]⟩
def a7o(x:Int):Option Bool:= cond (decide ((-1073741824)≤x)) (some (decide (x<1073741824))) (some false)
def b1M:FSem:=⟨[.v QI],[.v .bool],a7o⟩
def d6n:Hints:=⟨[],[],[]⟩
def a9a(x:Int):Option Int:= (a7o x).bind fun y1=> cond (!y1) (some 0) (cond (decide (x≥0)) (some (wrap .u64 (wrap .i64 (2*x)))) (some (wrap .u64 (wrap .i64 ((wrap .i64 ((-2)*x))-1)))))
def b4P:FSem:=⟨[.v QI],[.v (.int .u64)],a9a⟩
def d6o:Hints:=⟨[],[],[]⟩
def a7p(x:(Int×Int)):Option Int:= (show Option Z8 from(a1P x.1).bind fun y1=> cond (!y1) (some (x.1,x.2,true,())) ((a7o x.2).bind fun y2=> some (x.1,x.2,!y2,()))).bind fun z3=> cond z3.2.2.1 (some 0) ((a9a z3.2.1).bind fun y4=> cond (decide (z3.1<0)) none (cond (decide ((wrap .i64 (A0k .u64 y4 z3.1))<32)) (some (wrap .i64 ((wrap .i64 ((wrap .i64 (A0k .u64 y4 z3.1))+1))+z3.1))) (some 65)))
def b7T:FSem:=⟨[.v QI,.v QI],[.v QI],a7p⟩
def d6p:Hints:=⟨[],[(6,[(.normal,[.sv 0 QI,.sv 1 QI,.sv 13 .bool])])],[]⟩
def a3N(s:Z50):Option (Z50 ⊕ (Int×Unit)):= cond (decide (s.2.2.2.2.1<s.2.2.2.1)) ((m0h s.2.2.1 s.2.2.2.2.1).bind fun x1=> (a7p (s.1,x1)).bind fun y2=> some (.inl (s.1,wrap .i64 (s.2.1+y2),s.2.2.1,s.2.2.2.1,wrap .i64 (s.2.2.2.2.1+1),()))) (some (.inr (s.2.1,())))
def a3i(x:(Int×(List Int))):Option Int:= (y0o a3N (x.1,0,x.2,(x.2.length:Int),0,())).bind fun w3=> some w3.1
def b2U:FSem:=⟨[.v QI,.v QL],[.v QI],a3i⟩
def d6q:Hints:=⟨[(58,[.sv 0 QI,.sv 5 QI,.sv 8 QL,.sv 9 QI,.sv 10 QI],[(.exit 0,[.sv 5 QI])])],[],[]⟩
def a1t(s:((List Int)×(Int×(Int×(Int×((List Int)×Z18)))))):Option (((List Int)×(Int×(Int×(Int×((List Int)×Z18))))) ⊕ (Int×Unit)):= cond (decide (s.2.2.2.1<s.2.2.1)) (cond ((decide (0≤s.2.2.2.1))&&(decide (s.2.2.2.1<(s.2.2.2.2.1.length:Int)))) (cond ((decide (0≤(a04 s.2.2.2.2.1 (a00 s.2.2.2.1) 0)))&&(decide ((a04 s.2.2.2.2.1 (a00 s.2.2.2.1) 0)≤(s.1.length:Int)))) (cond ((decide (0≤(a04 s.2.2.2.2.1 (a00 s.2.2.2.1) 0)))&&(decide ((a04 s.2.2.2.2.1 (a00 s.2.2.2.1) 0)≤(s.1.length:Int)))) ((m0h s.2.2.2.2.2.1.2.1 s.2.2.2.1).bind fun x5=> cond (x5==31) ((a5H (a06 (a00 (a04 s.2.2.2.2.1 (a00 s.2.2.2.1) 0)) s.1)).bind fun y6=> some (.inl (a19 (a00 (a04 s.2.2.2.2.1 (a00 s.2.2.2.1) 0)) (a06 (a01 s.1) s.1),wrap .i64 (s.2.1+(wrap .i64 (5+y6))),s.2.2.1,wrap .i64 (s.2.2.2.1+1),s.2.2.2.2.1,s.2.2.2.2.2.1,()))) ((m0h s.2.2.2.2.2.1.2.1 s.2.2.2.1).bind fun x7=> (a3i (x7,a06 (a00 (a04 s.2.2.2.2.1 (a00 s.2.2.2.1) 0)) s.1)).bind fun y8=> some (.inl (a19 (a00 (a04 s.2.2.2.2.1 (a00 s.2.2.2.1) 0)) (a06 (a01 s.1) s.1),wrap .i64 (s.2.1+(wrap .i64 (5+y8))),s.2.2.1,wrap .i64 (s.2.2.2.1+1),s.2.2.2.2.1,s.2.2.2.2.2.1,())))) none) none) none) (some (.inr (s.2.1,())))
def a4D(x:(Z5×Z2)):Option Int:= (show Option (Int×(Int×((List Int)×(Bool×Z18))))from(a8V (x.1,x.2.1,x.2.2.1)).bind fun y1=> cond (!y1) (some (x.2.1,x.2.2.1,x.2.2.2,true,x.1,())) ((a6W (x.2.1,x.2.2.1,x.2.2.2)).bind fun y2=> some (x.2.1,x.2.2.1,x.2.2.2,!y2,x.1,()))).bind fun z3=> cond z3.2.2.2.1 (some 0) ((a2R (z3.2.2.2.2.1.1,z3.1,z3.2.1)).bind fun y4=> (y0o a1t (z3.2.2.1,4,(y4.length:Int),0,y4,z3.2.2.2.2.1,())).bind fun w9=> some w9.1)
def b3y:FSem:=⟨[.v Q11,.v QI,.v QI,.v QL],[.v QI],a4D⟩
def d6r:Hints:=⟨[(122,[.sv 3 QL,.sv 9 QI,.sv 30 QI,.sv 31 QI,.own 29 1029 QI,.vp 4 Q11],[(.exit 0,[.sv 9 QI])])],[(6,[(.normal,[.sv 1 QI,.sv 2 QI,.sv 3 QL,.sv 24 .bool,.vp 4 Q11])])],[]⟩
def a3j(s:Z53):Option (Z53 ⊕ Z19):= cond (decide (s.2.1<s.1)) ((a2b (s.2.2.1,0)).bind fun y2=> some (.inl (s.1,wrap .i64 (s.2.1+1),y2,()))) (some (.inr (s.2.2.1,())))
def a2o(x:(Z6×Int)):Option Z16:= (show Option (Int×Bool×Z19)from cond (decide (x.2<0)) (some (x.2,true,x.1,())) (some (x.2,decide (x.2 > 4096),x.1,()))).bind fun z1=> cond z1.2.1 (some (1,z1.2.2.1)) ((y0o a3j (z1.1,0,z1.2.2.1,())).bind fun w3=> (a2b (w3.1,1)).bind fun y4=> some (0,y4))
def b1d:FSem:=⟨[.r false (.b Q9),.v QI],[.v QI],a2o⟩
def d6s:Hints:=⟨[(58,[.sv 11 QI,.sv 12 QI,.box pinned Q9,.ptr 0 pinned []],[(.exit 0,[.box pinned Q9,.ptr 0 pinned []])])],[(6,[(.normal,[.sv 1 QI,.sv 10 .bool,.box pinned Q9,.ptr 0 pinned []])])],[]⟩
def a9n(s:(Int×((List Int)×Z80))):Option ((Int×((List Int)×Z80)) ⊕ ((Int×((List Int)×Z19)) ⊕ Z35)):= cond (decide (s.2.2.2.2.1<s.2.2.2.1)) ((m0h s.2.2.1 s.2.2.2.2.1).bind fun x2=> (a7o x2).bind fun y3=> cond (!y3) (some (.inr (Sum.inr ((1,s.2.2.2.2.2.1,()))))) (some (.inl (s.1,s.2.1,s.2.2.1,s.2.2.2.1,wrap .i64 (s.2.2.2.2.1+1),s.2.2.2.2.2.1,())))) (some (.inr (Sum.inl (s.1,s.2.1,s.2.2.2.2.2.1,()))))
def a6X(s:Z90):Option (Z90 ⊕ Z19):= cond (decide (s.2.2.2.1<s.2.2.1)) ((m0h s.2.1 s.2.2.2.1).bind fun x7=> (a9a x7).bind fun y8=> cond (decide (s.1<0)) none (cond (decide ((A0k .u64 y8 s.1)<32)) ((a2o (s.2.2.2.2.1,wrap .i64 (A0k .u64 y8 s.1))).bind fun y9=> cond (decide (s.1<0)) none ((a0G (y9.2,wrap .u64 (y8-(A0j .u64 (A0k .u64 y8 s.1) s.1)),s.1)).bind fun y10=> some (.inl (s.1,s.2.1,s.2.2.1,wrap .i64 (s.2.2.2.1+1),y10.2,())))) ((a2o (s.2.2.2.2.1,32)).bind fun y11=> (a0G (y11.2,y8,32)).bind fun y12=> some (.inl (s.1,s.2.1,s.2.2.1,wrap .i64 (s.2.2.2.1+1),y12.2,()))))) (some (.inr (s.2.2.2.2.1,())))
def b2V(x:(Z6×(Int×(List Int)))):Option Z16:= (a1P x.2.1).bind fun y1=> cond (!y1) (some (1,x.1)) ((y0o a9n (x.2.1,x.2.2,x.2.2,(x.2.2.length:Int),0,x.1,())).bind fun w4=> match w4 with |.inl a5=>((y0o a6X (a5.1,a5.2.1,(a5.2.1.length:Int),0,a5.2.2.1,())).bind fun w13=> some (0,w13.1)) |.inr b6=>some (b6.1,b6.2.1))
def b9p:FSem:=⟨[.r false (.b Q9),.v QI,.v QL],[.v QI],b2V⟩
def d6t:Hints:=⟨[(58,[.sv 1 QI,.sv 2 QL,.sv 16 QL,.sv 17 QI,.sv 18 QI,.box pinned Q9,.ptr 0 pinned []],[(.exit 0,[.sv 1 QI,.sv 2 QL,.box pinned Q9,.ptr 0 pinned []]),(.ret,[.sv 6 QI,.box pinned Q9])]),(122,[.sv 1 QI,.sv 26 QL,.sv 27 QI,.sv 28 QI,.box pinned Q9,.ptr 0 pinned []],[(.exit 2,[.box pinned Q9])])],[],[]⟩
def a8m(s:((List Int)×(Int×Int×Int×c2V))):Option (((List Int)×(Int×Int×Int×c2V)) ⊕ c2V):= cond (decide (s.2.2.2.2.2.2.1<s.2.2.2.2.2.1)) ((m0h s.2.2.2.2.1 s.2.2.2.2.2.2.1).bind fun x11=> cond (decide (s.2.1<0)) none ((a0G (s.2.2.2.2.2.2.2.2.1,bits .u64 .and (wrap .u64 x11) (wrap .u64 ((A0j .u64 1 s.2.1)-1)),s.2.1)).bind fun y12=> some (.inl (s.1,s.2.1,s.2.2.1,s.2.2.2.1,s.2.2.2.2.1,s.2.2.2.2.2.1,wrap .i64 (s.2.2.2.2.2.2.1+1),s.2.2.2.2.2.2.2.1,y12.2,s.2.2.2.2.2.2.2.2.2.1,())))) (some (.inr (s.1,s.2.2.1,s.2.2.2.1,s.2.2.2.2.2.2.2.1,s.2.2.2.2.2.2.2.2.1,s.2.2.2.2.2.2.2.2.2.1,())))
def a4v(s:c2V):Option (c2V ⊕ Z19):= cond (decide (s.2.2.1<s.2.1)) (cond ((decide (0≤s.2.2.1))&&(decide (s.2.2.1<(s.2.2.2.1.length:Int)))) (cond ((decide (0≤(a04 s.2.2.2.1 (a00 s.2.2.1) 0)))&&(decide ((a04 s.2.2.2.1 (a00 s.2.2.1) 0)≤(s.1.length:Int)))) (cond ((decide (0≤(a04 s.2.2.2.1 (a00 s.2.2.1) 0)))&&(decide ((a04 s.2.2.2.1 (a00 s.2.2.1) 0)≤(s.1.length:Int)))) ((m0h s.2.2.2.2.2.1.2.1 s.2.2.1).bind fun x4=> (a0G (s.2.2.2.2.1,wrap .u64 x4,5)).bind fun y5=> (m0h s.2.2.2.2.2.1.2.1 s.2.2.1).bind fun x6=> cond (x6 != 31) ((m0h s.2.2.2.2.2.1.2.1 s.2.2.1).bind fun x7=> (b2V (y5.2,x7,a06 (a00 (a04 s.2.2.2.1 (a00 s.2.2.1) 0)) s.1)).bind fun y8=> some (.inl (a19 (a00 (a04 s.2.2.2.1 (a00 s.2.2.1) 0)) (a06 (a01 s.1) s.1),s.2.1,wrap .i64 (s.2.2.1+1),s.2.2.2.1,y8.2,s.2.2.2.2.2.1,()))) ((a1r (a06 (a00 (a04 s.2.2.2.1 (a00 s.2.2.1) 0)) s.1)).bind fun y9=> (a0G (y5.2,wrap .u64 y9,5)).bind fun y10=> (y0o a8m (a19 (a00 (a04 s.2.2.2.1 (a00 s.2.2.1) 0)) (a06 (a01 s.1) s.1),y9,s.2.1,s.2.2.1,a06 (a00 (a04 s.2.2.2.1 (a00 s.2.2.1) 0)) s.1,((a01 (a06 (a00 (a04 s.2.2.2.1 (a00 s.2.2.1) 0)) s.1):Nat):Int),0,s.2.2.2.1,y10.2,s.2.2.2.2.2.1,())).bind fun w13=> some (.inl (w13.1,w13.2.1,wrap .i64 (w13.2.2.1+1),w13.2.2.2.1,w13.2.2.2.2.1,w13.2.2.2.2.2.1,())))) none) none) none) (some (.inr (s.2.2.2.2.1,())))
def b1N(x:(Z6×Z5×Z2)):Option Z16:= (a4D (x.2.1,x.2.2.1,x.2.2.2.1,x.2.2.2.2)).bind fun y1=> cond (y1==0) (some (1,x.1)) ((a0G (x.1,wrap .u64 x.2.1.1,4)).bind fun y2=> (a2R (x.2.1.1,x.2.2.1,x.2.2.2.1)).bind fun y3=> (y0o a4v (x.2.2.2.2,(y3.length:Int),0,y3,y2.2,x.2.1,())).bind fun w14=> some (0,w14.1))
def b7U:FSem:=⟨[.r false (.b Q9),.v Q11,.v QI,.v QI,.v QL],[.v QI],b1N⟩
def d6u:Hints:=⟨[(122,[.sv 4 QL,.sv 33 QI,.sv 34 QI,.own 32 1032 QI,.box pinned Q9,.ptr 0 pinned [],.vp 6 Q11],[(.exit 0,[.box pinned Q9])]),(2005502,[.sv 4 QL,.sv 14 QI,.sv 33 QI,.sv 34 QI,.sv 73 QL,.sv 74 QI,.sv 75 QI,.own 32 1032 QI,.box pinned Q9,.ptr 0 pinned [],.vp 6 Q11],[(.exit 2,[.sv 4 QL,.sv 33 QI,.sv 34 QI,.own 32 1032 QI,.box pinned Q9,.ptr 0 pinned [],.vp 6 Q11])])],[],[]⟩
def a9Z(s:(Int×(Int×((List Int)×c5D)))):Option ((Int×(Int×((List Int)×c5D))) ⊕ b4I):= cond (decide (s.2.2.2.1<3)) ((m0h s.2.2.1 s.2.2.2.1).bind fun x8=> (a2H (s.2.2.2.2.1,x8,8)).bind fun y9=> some (.inl (s.1,s.2.1,s.2.2.1,wrap .i64 (s.2.2.2.1+1),y9,s.2.2.2.2.2.1,()))) (some (.inr (s.1,s.2.1,s.2.2.2.2.1,s.2.2.2.2.2.1,())))
def b0A(s:(Int×Int×Z4×b4I)):Option ((Int×Int×Z4×b4I) ⊕ b4I):= cond (decide (s.2.2.2.2.1<s.2.2.2.1)) ((m0h s.2.2.1 s.2.2.2.2.1).bind fun x18=> (a0G (s.2.2.2.2.2.1,wrap .u64 (wrap .i64 (x18.1-1)),5)).bind fun y19=> (a0G (y19.2,wrap .u64 x18.2.1,4)).bind fun y20=> some (.inl (s.1,s.2.1,s.2.2.1,s.2.2.2.1,wrap .i64 (s.2.2.2.2.1+1),y20.2,s.2.2.2.2.2.2.1,()))) (some (.inr (s.1,s.2.1,s.2.2.2.2.2.1,s.2.2.2.2.2.2.1,())))
def b0B(s:(Int×(Int×((List Int)×b4I)))):Option ((Int×(Int×((List Int)×b4I))) ⊕ c5D):= cond (decide (s.2.2.2.2.1<s.2.2.2.1)) ((m0h s.2.2.1 s.2.2.2.2.1).bind fun x23=> (a2H (s.2.2.2.2.2.1,x23,s.2.1)).bind fun y24=> some (.inl (s.1,s.2.1,s.2.2.1,s.2.2.2.1,wrap .i64 (s.2.2.2.2.1+1),y24,s.2.2.2.2.2.2.1,()))) (some (.inr (s.1,s.2.2.2.2.2.1,s.2.2.2.2.2.2.1,())))
def a9I(x:(Z6×b4H)):Option Z16:= (a9H (x.2.1,x.2.2)).bind fun y1=> cond (!y1) (some (1,x.1)) ((a1r x.2.1.2.2.2.2.2.2.2.2.1).bind fun y2=> (a0G (x.1,wrap .u64 x.2.1.1,3)).bind fun y3=> (a0G (y3.2,wrap .u64 x.2.1.2.1,5)).bind fun y4=> (a0G (y4.2,wrap .u64 y2,5)).bind fun y5=> (show Option b4I from(show Option (b4I ⊕ (b4I ⊕ b4I))from cond (x.2.1.1==2) ((a0G (y5.2,wrap .u64 x.2.1.2.2.1,3)).bind fun y6=> some (Sum.inr (Sum.inl (x.2.2,y2,y6.2,x.2.1,())))) (cond (x.2.1.1==4) ((a0G (y5.2,wrap .u64 (wrap .i64 (x.2.1.2.2.2.2.1-1)),10)).bind fun y7=> (y0o a9Z (x.2.2,y2,x.2.1.2.2.2.2.2.2.1,0,y7.2,x.2.1,())).bind fun w10=> some (Sum.inl (w10.1,w10.2.1,w10.2.2.1,w10.2.2.2.1,()))) (cond (x.2.1.1==3) (some (Sum.inl (x.2.2,y2,y5.2,x.2.1,()))) (cond (x.2.1.1==5) (some (Sum.inr (Sum.inr ((x.2.2,y2,y5.2,x.2.1,()))))) (some (Sum.inr (Sum.inl (x.2.2,y2,y5.2,x.2.1,())))))))).bind fun z11=> match z11 with |.inl a12=>((a8l (a12.2.2.1,a12.2.2.2.1)).bind fun y14=> some (a12.1,a12.2.1,y14,a12.2.2.2.1,())) |.inr b13=>(match b13 with |.inl a15=>some (a15.1,a15.2.1,a15.2.2.1,a15.2.2.2.1,()) |.inr b16=>((a0G (b16.2.2.1,wrap .u64 (b16.2.2.2.1.2.2.2.2.2.2.2.1.length:Int),2)).bind fun y17=> (y0o b0A (b16.1,b16.2.1,b16.2.2.2.1.2.2.2.2.2.2.2.1,(b16.2.2.2.1.2.2.2.2.2.2.2.1.length:Int),0,y17.2,b16.2.2.2.1,())).bind fun w21=> some (w21.1,w21.2.1,w21.2.2.1,w21.2.2.2.1,())))).bind fun z22=> (y0o b0B (z22.1,z22.2.1,z22.2.2.2.1.2.2.2.2.2.2.2.2.1,(z22.2.2.2.1.2.2.2.2.2.2.2.2.1.length:Int),0,z22.2.2.1,z22.2.2.2.1,())).bind fun w25=> (a5X w25.2.2.1.1).bind fun y26=> cond (!y26) (some (0,w25.2.1)) ((b1N (w25.2.1,w25.2.2.1.2.2.2.2.2.2.2.2.2.1,w25.1,(w25.2.2.1.2.2.2.2.2.2.2.2.1.length:Int),w25.2.2.1.2.2.2.2.2.2.2.2.2.2.1)).bind fun y27=> some (y27.1,y27.2)))
def b6T:FSem:=⟨[.r false (.b Q9),.v Q42,.v QI],[.v QI],a9I⟩
def H62:Hints:=⟨[(2042,[.sv 2 QI,.sv 7 QI,.sv 94 QL,.sv 95 QI,.sv 96 QI,.box pinned Q9,.ptr 0 pinned [],.vp 4 Q42],[(.exit 9,[.sv 2 QI,.box pinned Q9,.ptr 0 pinned [],.vp 4 Q42])]),(32598,[.sv 2 QI,.sv 7 QI,.sv 75 (.list false Q3),.sv 76 QI,.sv 77 QI,.box pinned Q9,.ptr 0 pinned [],.vp 4 Q42],[(.exit 7,[.sv 2 QI,.sv 7 QI,.box pinned Q9,.ptr 0 pinned [],.vp 4 Q42])]),(260622,[.sv 2 QI,.sv 7 QI,.sv 57 (.arr 3 QI),.sv 58 QI,.box pinned Q9,.ptr 0 pinned [],.vp 4 Q42],[(.exit 5,[.sv 2 QI,.sv 7 QI,.box pinned Q9,.ptr 0 pinned [],.vp 4 Q42])])],[(127,[(.normal,[.sv 2 QI,.sv 7 QI,.box pinned Q9,.ptr 0 pinned [],.vp 4 Q42])]),(4072,[(.normal,[.sv 2 QI,.sv 7 QI,.box pinned Q9,.ptr 0 pinned [],.vp 4 Q42]),(.exit 0,[.sv 2 QI,.sv 7 QI,.box pinned Q9,.ptr 0 pinned [],.vp 4 Q42]),(.exit 4,[.sv 2 QI,.sv 7 QI,.box pinned Q9,.ptr 0 pinned [],.vp 4 Q42])])],[]⟩
def a3k(s:Z19):Option (Z19 ⊕ Z19):= cond ((a05 s.1.2.1 8) != 0) ((a2b (s.1,0)).bind fun y2=> some (.inl (y2,()))) (some (.inr (s.1,())))
def a4R(x:Z6):Option Z6:= (y0o a3k (x,())).bind fun w3=> some w3.1
def b1e:FSem:=⟨[.r false (.b Q9)],[],a4R⟩
def H63:Hints:=⟨[(2,[.box pinned Q9,.ptr 0 pinned []],[(.exit 0,[.box pinned Q9])])],[],[]⟩
def a4S(x:Z6):Option ((List Int)×Z6):= cond (lim (a01 x.1)) (some (x.1,x)) none
def b1f:FSem:=⟨[.r false (.b Q9)],[.o (.int .u8)],a4S⟩
def H64:Hints:=⟨[],[],[]⟩
def a8n(s:Z59):Option (Z59 ⊕ Z59):= cond (decide (s.1≥128)) (cond (lim ((a01 s.2.2.2.2.1)+1)) (some (.inl (wrap .u64 (a07 s.1 128),s.2.1,s.2.2.1,s.2.2.2.1,a03 s.2.2.2.2.1 [wrap .u8 ((wrap .u8 (a05 s.1 128))+128)],()))) none) (some (.inr (s.1,s.2.1,s.2.2.1,s.2.2.2.1,s.2.2.2.2.1,())))
def a8o(s:Z41):Option (Z41 ⊕ ((List Int)×Unit)):= cond (decide (s.2.2.1<s.2.1)) ((m0h s.1 s.2.2.1).bind fun x1=> (y0o a8n (x1,s.1,s.2.1,s.2.2.1,s.2.2.2.1,())).bind fun w2=> cond (lim ((a01 w2.2.2.2.2.1)+1)) (some (.inl (w2.2.1,w2.2.2.1,wrap .i64 (w2.2.2.2.1+1),a03 w2.2.2.2.2.1 [wrap .u8 w2.1],()))) none) (some (.inr (s.2.2.2.1,())))
def a9b(x:(List Int)):Option (List Int):= (y0o a8o (x,(x.length:Int),0,[],())).bind fun w3=> some w3.1
def b4Q:FSem:=⟨[.v (.list false (.int .u64))],[.o (.int .u8)],a9b⟩
def H88:Hints:=⟨[(58,[.sv 6 (.list false (.int .u64)),.sv 7 QI,.sv 8 QI,.own 3 3 (.int .u8)],[(.exit 0,[.own 3 3 (.int .u8)])]),(14948,[.sv 5 (.int .u64),.sv 6 (.list false (.int .u64)),.sv 7 QI,.sv 8 QI,.own 3 3 (.int .u8)],[(.exit 2,[.sv 5 (.int .u64),.sv 6 (.list false (.int .u64)),.sv 7 QI,.sv 8 QI,.own 3 3 (.int .u8)])])],[],[]⟩
def b1O(x:Int):Option Int:= cond (decide (x≥0)) (some (wrap .u64 (2*(wrap .u64 x)))) (some (wrap .u64 ((wrap .u64 (2*(wrap .u64 (wrap .i64 (0-(wrap .i64 (x+1)))))))+1)))
def b7V:FSem:=⟨[.v QI],[.v (.int .u64)],b1O⟩
def d6v:Hints:=⟨[],[],[]⟩
def b0C(s:Z52):Option (Z52 ⊕ Z30):= cond (decide (s.2.2.2.2.1<8)) (cond ((A0k .u8 s.1 7)==1) (some (.inl (bits .u8 .xor (A0j .u8 s.1 1) 7,s.2.1,s.2.2.1,s.2.2.2.1,wrap .i64 (s.2.2.2.2.1+1),()))) (some (.inl (A0j .u8 s.1 1,s.2.1,s.2.2.1,s.2.2.2.1,wrap .i64 (s.2.2.2.2.1+1),())))) (some (.inr (s.1,s.2.1,s.2.2.1,s.2.2.2.1,())))
def a7z(s:Z30):Option Z66:= cond (decide (s.2.2.2.1<s.2.2.1)) ((m0h s.2.1 s.2.2.2.1).bind fun x1=> (y0o b0C (bits .u8 .xor s.1 x1,s.2.1,s.2.2.1,s.2.2.2.1,0,())).bind fun w2=> some (.inl (w2.1,w2.2.1,w2.2.2.1,wrap .i64 (w2.2.2.2.1+1),()))) (some (.inr (s.1,())))
def a7O(x:(List Int)):Option Int:= (y0o a7z (0,x,(x.length:Int),0,())).bind fun w3=> some w3.1
def b3z:FSem:=⟨[.v (.list false (.int .u8))],[.v (.int .u8)],a7O⟩
def d6w:Hints:=⟨[(58,[.sv 3 (.int .u8),.sv 7 (.list false (.int .u8)),.sv 8 QI,.sv 9 QI],[(.exit 0,[.sv 3 (.int .u8)])]),(29902,[.sv 3 (.int .u8),.sv 7 (.list false (.int .u8)),.sv 8 QI,.sv 9 QI,.sv 16 QI],[(.exit 2,[.sv 3 (.int .u8),.sv 7 (.list false (.int .u8)),.sv 8 QI,.sv 9 QI])])],[],[]⟩
def a5o(s:(Int×Z13×Z15)):Option ((Int×Z13×Z15) ⊕ Z5):= cond (decide (s.2.2.2.1<s.2.2.1)) ((m0h s.2.1 s.2.2.2.1).bind fun x1=> (b1O x1.2.2.1).bind fun y2=> cond (lim ((a01 s.2.2.2.2.1)+3)) (some (.inl (s.1,s.2.1,s.2.2.1,wrap .i64 (s.2.2.2.1+1),a03 s.2.2.2.2.1 [wrap .u64 x1.1,wrap .u64 x1.2.1,y2],()))) none) (some (.inr (s.1,s.2.2.2.2.1,())))
def a7A(x:(a2U×Int)):Option (List Int):= (y0o a5o (x.2,x.1.2.2.2.1,(x.1.2.2.2.1.length:Int),0,([wrap .u64 x.1.1,wrap .u64 x.1.2.1,wrap .u64 x.1.2.2.1.1,wrap .u64 x.1.2.2.1.2.1,wrap .u64 x.1.2.2.1.2.2.1,wrap .u64 (x.1.2.2.2.1.length:Int)]:List Int),())).bind fun w3=> cond (lim ((a01 w3.2.1)+1)) ((a9b (a03 w3.2.1 [wrap .u64 w3.1])).bind fun y4=> cond (lim (2+(a01 y4))) ((a7O (a03 [245,75] y4)).bind fun y5=> cond (lim ((a01 (a03 [245,75] y4))+1)) (some (a03 (a03 [245,75] y4) [y5])) none) none) none
def b4g:FSem:=⟨[.v Q60,.v QI],[.o (.int .u8)],a7A⟩
def H65:Hints:=⟨[(58,[.sv 1 QI,.sv 33 (.list false Q12),.sv 34 QI,.sv 35 QI,.own 5 5 (.int .u64)],[(.exit 0,[.sv 1 QI,.own 5 5 (.int .u64)])])],[],[(5,[.q,.q,.q,.v,.q,.q,.v,.q,.q,.v,.q,.x,.x])]⟩
def a2S(x:Int):Option Int:= some (v0o (v0n x 0) 8)
def b2F:FSem:=⟨[.v QI],[.v QI],a2S⟩
def d6x:Hints:=⟨[],[],[]⟩
def a1Q(s:Z32):Option (Z32 ⊕ ((List Int)×Unit)):= cond (decide (s.2.2.1<s.2.1)) (cond (lim ((a01 s.2.2.2.1)+1)) (some (.inl (wrap .u64 (a07 s.1 256),s.2.1,wrap .i64 (s.2.2.1+1),a03 s.2.2.2.1 [wrap .u8 (a05 s.1 256)],()))) none) (some (.inr (s.2.2.2.1,())))
def a5f(x:(Int×Int)):Option (List Int):= (a2S x.2).bind fun y1=> (y0o a1Q (x.1,y1,0,[],())).bind fun w2=> some w2.1
def b6y:FSem:=⟨[.v (.int .u64),.v QI],[.o (.int .u8)],a5f⟩
def d6y:Hints:=⟨[(58,[.sv 0 (.int .u64),.sv 7 QI,.sv 8 QI,.own 5 5 (.int .u8)],[(.exit 0,[.own 5 5 (.int .u8)])])],[],[]⟩
def a1O(x:(List Int)):Option (List Int):= cond (decide (a01 x<2147483648)) (some (List.reverse x)) none
def a5M:FSem:=⟨[.r false (.o (.int .u8))],[],a1O⟩
def a4l(x:(Int×Int)):Option (List Int):= (a5f (x.1,x.2)).bind fun y1=> (a1O y1).bind fun y2=> some y2
def b4R:FSem:=⟨[.v (.int .u64),.v QI],[.o (.int .u8)],a4l⟩
def H66:Hints:=⟨[],[],[]⟩
def a8L(s:Z52):Option (Z52 ⊕ Z30):= cond (decide (s.2.2.2.2.1<8)) (cond ((A0k .u16 s.1 15)==1) (some (.inl (bits .u16 .xor (A0j .u16 s.1 1) 32773,s.2.1,s.2.2.1,s.2.2.2.1,wrap .i64 (s.2.2.2.2.1+1),()))) (some (.inl (A0j .u16 s.1 1,s.2.1,s.2.2.1,s.2.2.2.1,wrap .i64 (s.2.2.2.2.1+1),())))) (some (.inr (s.1,s.2.1,s.2.2.1,s.2.2.2.1,())))
def a5Q(s:Z30):Option Z66:= cond (decide (s.2.2.2.1<s.2.2.1)) ((m0h s.2.1 s.2.2.2.1).bind fun x1=> (y0o a8L (bits .u16 .xor s.1 (A0j .u16 (wrap .u16 x1) 8),s.2.1,s.2.2.1,s.2.2.2.1,0,())).bind fun w2=> some (.inl (w2.1,w2.2.1,w2.2.2.1,wrap .i64 (w2.2.2.2.1+1),()))) (some (.inr (s.1,())))
def a6c(x:(List Int)):Option Int:= (y0o a5Q (0,x,(x.length:Int),0,())).bind fun w3=> some w3.1
def b1l:FSem:=⟨[.v (.list false (.int .u8))],[.v (.int .u16)],a6c⟩
def H67:Hints:=⟨[(58,[.sv 3 (.int .u16),.sv 7 (.list false (.int .u8)),.sv 8 QI,.sv 9 QI],[(.exit 0,[.sv 3 (.int .u16)])]),(29902,[.sv 3 (.int .u16),.sv 7 (.list false (.int .u8)),.sv 8 QI,.sv 9 QI,.sv 18 QI],[(.exit 2,[.sv 3 (.int .u16),.sv 7 (.list false (.int .u8)),.sv 8 QI,.sv 9 QI])])],[],[]⟩
def a8p(s:(b2w×Int×Int×Z6×b4J)):Option ((b2w×Int×Int×Z6×b4J) ⊕ ((Z6×b4J) ⊕ Z5)):= cond (decide (s.2.2.1<s.2.1)) ((m0h s.1 s.2.2.1).bind fun x2=> (a9I (s.2.2.2.1,x2,s.2.2.2.2.1.2.1)).bind fun y3=> cond (y3.1 != 0) (some (.inr (Sum.inr ((y3.1,[],()))))) (some (.inl (s.1,s.2.1,wrap .i64 (s.2.2.1+1),y3.2,s.2.2.2.2.1,())))) (some (.inr (Sum.inl (s.2.2.2.1,s.2.2.2.2.1,()))))
def a4m(x:a2U):Option ((List Int)×Int):= (a4k x).bind fun y1=> cond (!y1) (some ([],1)) ((y0o a8p (x.2.2.2.2.1,(x.2.2.2.2.1.length:Int),0,([],0,()),x,())).bind fun w4=> match w4 with |.inl a5=>((a4R a5.1).bind fun y7=> (a4S y7).bind fun y8=> (a7A (a5.2.1,(y8.1.length:Int))).bind fun y9=> cond (lim ((a01 y9)+(a01 y8.1))) ((a6c (a03 y9 y8.1)).bind fun y10=> (a4l (wrap .u64 y10,2)).bind fun y11=> cond (lim ((a01 (a03 y9 y8.1))+(a01 y11))) (some (a03 (a03 y9 y8.1) y11,0)) none) none) |.inr b6=>some (b6.2.1,b6.1))
def b1P:FSem:=⟨[.v Q60],[.o (.int .u8),.v QI],a4m⟩
def H19:Hints:=⟨[(122,[.sv 14 (.list false Q42),.sv 15 QI,.sv 16 QI,.box 4 Q9,.vp 1 Q60,.ptr 4 4 []],[(.exit 0,[.box 4 Q9,.vp 1 Q60,.ptr 4 4 []]),(.ret,[.sv 3 QI,.own 2 2 (.int .u8)])])],[],[]⟩
def a5R(x:(Int×Int)):Option (Int×Int):= some (wrap .u64 ((wrap .u64 ((wrap .u64 ((A0k .u64 x.1 32)*(A0k .u64 x.2 32)))+(A0k .u64 (wrap .u64 ((wrap .u64 ((A0k .u64 x.1 32)*(bits .u64 .and x.2 4294967295)))+(A0k .u64 (wrap .u64 ((bits .u64 .and x.1 4294967295)*(bits .u64 .and x.2 4294967295))) 32))) 32)))+(A0k .u64 (wrap .u64 ((bits .u64 .and (wrap .u64 ((wrap .u64 ((A0k .u64 x.1 32)*(bits .u64 .and x.2 4294967295)))+(A0k .u64 (wrap .u64 ((bits .u64 .and x.1 4294967295)*(bits .u64 .and x.2 4294967295))) 32))) 4294967295)+(wrap .u64 ((bits .u64 .and x.1 4294967295)*(A0k .u64 x.2 32))))) 32)),wrap .u64 (x.1*x.2))
def b2J:FSem:=⟨[.v (.int .u64),.v (.int .u64)],[.v (.int .u64),.v (.int .u64)],a5R⟩
def d6z:Hints:=⟨[],[],[]⟩
def a8M(x:(Int×Int×Int)):Option (Int×Int):= cond (decide (x.2.2.toNat≤1)) (some ((((x.1.toNat+x.2.1.toNat+x.2.2.toNat)%18446744073709551616:Nat):Int),(((x.1.toNat+x.2.1.toNat+x.2.2.toNat) / 18446744073709551616:Nat):Int))) none
def b2K:FSem:=⟨[.v (.int .u64),.v (.int .u64),.v (.int .u64)],[.v (.int .u64),.v (.int .u64)],a8M⟩
def d2b:Hints:=⟨[],[(3,[(.normal,[.sv 0 (.int .u64),.sv 2 QI])]),(7,[(.normal,[.sv 0 (.int .u64),.sv 2 QI])]),(15,[(.normal,[.sv 0 (.int .u64),.sv 2 QI])])],[]⟩
def b2L(x:Int):Option Int:=A0f (a7K [] [] [0,2] []) d2b Tryz.f324 [.v (.int .u64)] [.v (.int .i64)] x
def b2M:FSem:=⟨[.v (.int .u64)],[.v QI],b2L⟩
def a3O(x:Int):Option Int:= (b2L x).bind fun y1=> some (wrap .i64 (64-y1))
def a6Y:FSem:=⟨[.v (.int .u64)],[.v QI],a3O⟩
def d6A:Hints:=⟨[],[],[]⟩
def a1W(s:Z92):Option (Z92 ⊕ Z83):= (show Option (Z92 ⊕ Z83)from cond (decide (s.2.2.2.2.2.2.2.1≥4294967296)) (some (Sum.inl (s.1,s.2.1,s.2.2.1,s.2.2.2.1,s.2.2.2.2.1,s.2.2.2.2.2.1,s.2.2.2.2.2.2.1,s.2.2.2.2.2.2.2.1,s.2.2.2.2.2.2.2.2.1,()))) (cond (decide ((wrap .u64 (s.2.2.2.2.2.2.2.1*s.2.2.2.1)) > (wrap .u64 ((wrap .u64 (4294967296*s.2.2.2.2.2.2.2.2.1))+s.2.2.2.2.2.1)))) (some (Sum.inl (s.1,s.2.1,s.2.2.1,s.2.2.2.1,s.2.2.2.2.1,s.2.2.2.2.2.1,s.2.2.2.2.2.2.1,s.2.2.2.2.2.2.2.1,s.2.2.2.2.2.2.2.2.1,()))) (some (Sum.inr ((s.1,s.2.1,s.2.2.1,s.2.2.2.1,s.2.2.2.2.1,s.2.2.2.2.2.1,s.2.2.2.2.2.2.1,s.2.2.2.2.2.2.2.1,())))))).bind fun z2=> match z2 with |.inl a3=>(cond (decide ((wrap .u64 (a3.2.2.2.2.2.2.2.2.1+a3.2.2.1))≥4294967296)) (some (.inr (a3.1,a3.2.1,a3.2.2.1,a3.2.2.2.1,a3.2.2.2.2.1,a3.2.2.2.2.2.1,a3.2.2.2.2.2.2.1,wrap .u64 (a3.2.2.2.2.2.2.2.1-1),()))) (some (.inl (a3.1,a3.2.1,a3.2.2.1,a3.2.2.2.1,a3.2.2.2.2.1,a3.2.2.2.2.2.1,a3.2.2.2.2.2.2.1,wrap .u64 (a3.2.2.2.2.2.2.2.1-1),wrap .u64 (a3.2.2.2.2.2.2.2.2.1+a3.2.2.1),())))) |.inr b4=>some (.inr (b4.1,b4.2.1,b4.2.2.1,b4.2.2.2.1,b4.2.2.2.2.1,b4.2.2.2.2.2.1,b4.2.2.2.2.2.2.1,b4.2.2.2.2.2.2.2.1,()))
end Go.Ab
namespace Go.Ab
open IntKind(wrap)
open Go.Proofs
set_option maxRecDepth 100000
set_option linter.unusedVariables false
def a1X(s:Z92):Option (Z92 ⊕ Z54):= (show Option (Z92 ⊕ Z54)from cond (decide (s.2.2.2.2.2.2.2.2.1≥4294967296)) (some (Sum.inl (s.1,s.2.1,s.2.2.1,s.2.2.2.1,s.2.2.2.2.1,s.2.2.2.2.2.1,s.2.2.2.2.2.2.1,s.2.2.2.2.2.2.2.1,s.2.2.2.2.2.2.2.2.1,()))) (cond (decide ((wrap .u64 (s.2.2.2.2.2.2.2.2.1*s.2.2.2.1)) > (wrap .u64 ((wrap .u64 (4294967296*s.2.2.2.2.2.2.1))+s.2.2.2.2.1)))) (some (Sum.inl (s.1,s.2.1,s.2.2.1,s.2.2.2.1,s.2.2.2.2.1,s.2.2.2.2.2.1,s.2.2.2.2.2.2.1,s.2.2.2.2.2.2.2.1,s.2.2.2.2.2.2.2.2.1,()))) (some (Sum.inr ((s.1,s.2.1,s.2.2.2.2.1,s.2.2.2.2.2.1,s.2.2.2.2.2.2.2.1,s.2.2.2.2.2.2.2.2.1,())))))).bind fun z6=> match z6 with |.inl a7=>(cond (decide ((wrap .u64 (a7.2.2.2.2.2.2.1+a7.2.2.1))≥4294967296)) (some (.inr (a7.1,a7.2.1,a7.2.2.2.2.1,a7.2.2.2.2.2.1,a7.2.2.2.2.2.2.2.1,wrap .u64 (a7.2.2.2.2.2.2.2.2.1-1),()))) (some (.inl (a7.1,a7.2.1,a7.2.2.1,a7.2.2.2.1,a7.2.2.2.2.1,a7.2.2.2.2.2.1,wrap .u64 (a7.2.2.2.2.2.2.1+a7.2.2.1),a7.2.2.2.2.2.2.2.1,wrap .u64 (a7.2.2.2.2.2.2.2.2.1-1),())))) |.inr b8=>some (.inr (b8.1,b8.2.1,b8.2.2.1,b8.2.2.2.1,b8.2.2.2.2.1,b8.2.2.2.2.2.1,()))
def a2c(x:(Int×Int×Int)):Option (Int×Int):= cond (x.2.2==0) none (cond (decide (x.2.2≤x.1)) none (cond (x.1==0) (cond (x.2.2==0) none (cond (x.2.2==0) none (some (wrap .u64 (a07 x.2.1 x.2.2),a05 x.2.1 x.2.2)))) ((a3O x.2.2).bind fun y1=> cond (decide ((wrap .u64 y1)<0)) none (cond (decide ((wrap .u64 y1)<0)) none (cond (decide ((wrap .u64 (64-(wrap .u64 y1)))<0)) none (cond (decide ((wrap .u64 y1)<0)) none (cond ((A0k .u64 (A0j .u64 x.2.2 (wrap .u64 y1)) 32)==0) none ((y0o a1W (A0j .u64 x.2.2 (wrap .u64 y1),wrap .u64 y1,A0k .u64 (A0j .u64 x.2.2 (wrap .u64 y1)) 32,bits .u64 .and (A0j .u64 x.2.2 (wrap .u64 y1)) 4294967295,bits .u64 .or (A0j .u64 x.1 (wrap .u64 y1)) (A0k .u64 x.2.1 (wrap .u64 (64-(wrap .u64 y1)))),A0k .u64 (A0j .u64 x.2.1 (wrap .u64 y1)) 32,bits .u64 .and (A0j .u64 x.2.1 (wrap .u64 y1)) 4294967295,wrap .u64 (a07 (bits .u64 .or (A0j .u64 x.1 (wrap .u64 y1)) (A0k .u64 x.2.1 (wrap .u64 (64-(wrap .u64 y1))))) (A0k .u64 (A0j .u64 x.2.2 (wrap .u64 y1)) 32)),wrap .u64 ((bits .u64 .or (A0j .u64 x.1 (wrap .u64 y1)) (A0k .u64 x.2.1 (wrap .u64 (64-(wrap .u64 y1)))))-(wrap .u64 ((wrap .u64 (a07 (bits .u64 .or (A0j .u64 x.1 (wrap .u64 y1)) (A0k .u64 x.2.1 (wrap .u64 (64-(wrap .u64 y1))))) (A0k .u64 (A0j .u64 x.2.2 (wrap .u64 y1)) 32)))*(A0k .u64 (A0j .u64 x.2.2 (wrap .u64 y1)) 32)))),())).bind fun w5=> cond (w5.2.2.1==0) none ((y0o a1X (w5.1,w5.2.1,w5.2.2.1,w5.2.2.2.1,w5.2.2.2.2.2.2.1,w5.2.2.2.2.2.2.2.1,wrap .u64 ((wrap .u64 ((wrap .u64 ((wrap .u64 (w5.2.2.2.2.1*4294967296))+w5.2.2.2.2.2.1))-(wrap .u64 (w5.2.2.2.2.2.2.2.1*w5.1))))-(wrap .u64 ((wrap .u64 (a07 (wrap .u64 ((wrap .u64 ((wrap .u64 (w5.2.2.2.2.1*4294967296))+w5.2.2.2.2.2.1))-(wrap .u64 (w5.2.2.2.2.2.2.2.1*w5.1)))) w5.2.2.1))*w5.2.2.1))),wrap .u64 ((wrap .u64 ((wrap .u64 (w5.2.2.2.2.1*4294967296))+w5.2.2.2.2.2.1))-(wrap .u64 (w5.2.2.2.2.2.2.2.1*w5.1))),wrap .u64 (a07 (wrap .u64 ((wrap .u64 ((wrap .u64 (w5.2.2.2.2.1*4294967296))+w5.2.2.2.2.2.1))-(wrap .u64 (w5.2.2.2.2.2.2.2.1*w5.1)))) w5.2.2.1),())).bind fun w9=> cond (decide (w9.2.1<0)) none (some (wrap .u64 ((wrap .u64 (w9.2.2.2.1*4294967296))+w9.2.2.2.2.2.1),A0k .u64 (wrap .u64 ((wrap .u64 ((wrap .u64 (w9.2.2.2.2.1*4294967296))+w9.2.2.1))-(wrap .u64 (w9.2.2.2.2.2.1*w9.1)))) w9.2.1)))))))))))
def b2N:FSem:=⟨[.v (.int .u64),.v (.int .u64),.v (.int .u64)],[.v (.int .u64),.v (.int .u64)],a2c⟩
def d6B:Hints:=⟨[(131068,[.sv 2 (.int .u64),.sv 8 (.int .u64),.sv 9 (.int .u64),.sv 10 (.int .u64),.sv 11 (.int .u64),.sv 13 (.int .u64),.sv 14 (.int .u64),.sv 15 (.int .u64),.sv 16 (.int .u64)],[(.exit 0,[.sv 2 (.int .u64),.sv 8 (.int .u64),.sv 9 (.int .u64),.sv 10 (.int .u64),.sv 11 (.int .u64),.sv 13 (.int .u64),.sv 14 (.int .u64),.sv 15 (.int .u64)])]),(2097148,[.sv 2 (.int .u64),.sv 8 (.int .u64),.sv 9 (.int .u64),.sv 10 (.int .u64),.sv 14 (.int .u64),.sv 15 (.int .u64),.sv 16 (.int .u64),.sv 17 (.int .u64),.sv 18 (.int .u64)],[(.exit 2,[.sv 2 (.int .u64),.sv 8 (.int .u64),.sv 14 (.int .u64),.sv 15 (.int .u64),.sv 17 (.int .u64),.sv 18 (.int .u64)])])],[(262136,[(.normal,[.sv 2 (.int .u64),.sv 8 (.int .u64),.sv 9 (.int .u64),.sv 10 (.int .u64),.sv 11 (.int .u64),.sv 13 (.int .u64),.sv 14 (.int .u64),.sv 15 (.int .u64),.sv 16 (.int .u64)]),(.exit 0,[.sv 2 (.int .u64),.sv 8 (.int .u64),.sv 9 (.int .u64),.sv 10 (.int .u64),.sv 11 (.int .u64),.sv 13 (.int .u64),.sv 14 (.int .u64),.sv 15 (.int .u64)])]),(4194296,[(.normal,[.sv 2 (.int .u64),.sv 8 (.int .u64),.sv 9 (.int .u64),.sv 10 (.int .u64),.sv 14 (.int .u64),.sv 15 (.int .u64),.sv 16 (.int .u64),.sv 17 (.int .u64),.sv 18 (.int .u64)]),(.exit 2,[.sv 2 (.int .u64),.sv 8 (.int .u64),.sv 14 (.int .u64),.sv 15 (.int .u64),.sv 17 (.int .u64),.sv 18 (.int .u64)])])],[(6,[.v,.v,.v,.v,.v,.v,.v,.x])]⟩
def a8N(x:(Int×Int×Int)):Option Int:= cond (x.2.2==0) none ((a2c (a05 x.1 x.2.2,x.2.1,x.2.2)).bind fun y1=> some y1.2)
def b2O:FSem:=⟨[.v (.int .u64),.v (.int .u64),.v (.int .u64)],[.v (.int .u64)],a8N⟩
def d6C:Hints:=⟨[],[],[]⟩
def a5I(x:(Int×Int×Int)):Option Int:= (a5R (x.1,x.2.1)).bind fun y1=> (a8M (y1.2,x.2.2,0)).bind fun y2=> (a8N (wrap .u64 (y1.1+y2.2),y2.1,2305843009213693951)).bind fun y3=> some y3
def b1Q:FSem:=⟨[.v (.int .u64),.v (.int .u64),.v (.int .u64)],[.v (.int .u64)],a5I⟩
def d6D:Hints:=⟨[],[],[]⟩
def a7B(s:Z30):Option Z66:= cond (decide (s.2.2.2.1<s.2.2.1)) ((m0h s.2.1 s.2.2.2.1).bind fun x1=> (a5I (s.1,1000003,wrap .u64 ((wrap .u64 x1)+1))).bind fun y2=> some (.inl (y2,s.2.1,s.2.2.1,wrap .i64 (s.2.2.2.1+1),()))) (some (.inr (s.1,())))
def a7P(x:(List Int)):Option Int:= (y0o a7B (0,x,(x.length:Int),0,())).bind fun w3=> some w3.1
def b3A:FSem:=⟨[.v (.list false (.int .u8))],[.v (.int .u64)],a7P⟩
def H42:Hints:=⟨[(58,[.sv 3 (.int .u64),.sv 6 (.list false (.int .u8)),.sv 7 QI,.sv 8 QI],[(.exit 0,[.sv 3 (.int .u64)])])],[],[]⟩
def a6B(s:(Int×(Int×(Int×((List (List Int))×Z88))))):Option ((Int×(Int×(Int×((List (List Int))×Z88)))) ⊕ Z88):= cond (decide (s.2.2.2.2.2.1<s.2.2.2.2.1)) ((m0h s.2.2.2.1 s.2.2.2.2.2.1).bind fun x3=> (m0h x3 s.1).bind fun x4=> cond (lim ((a01 s.2.2.2.2.2.2.1)+1)) (some (.inl (s.1,s.2.1,s.2.2.1,s.2.2.2.1,s.2.2.2.2.1,wrap .i64 (s.2.2.2.2.2.1+1),a03 s.2.2.2.2.2.2.1 [x4],s.2.2.2.2.2.2.2.1,()))) none) (some (.inr (s.2.1,s.2.2.1,s.2.2.2.2.2.2.1,s.2.2.2.2.2.2.2.1,())))
def a6C(s:Z88):Option (Z88 ⊕ ((List Int)×Unit)):= cond (decide (s.2.1<s.1)) ((y0o a6B (s.2.1,s.1,s.2.1,s.2.2.2.1.2.1,(s.2.2.2.1.2.1.length:Int),0,s.2.2.1,s.2.2.2.1,())).bind fun w5=> some (.inl (w5.1,wrap .i64 (w5.2.1+1),w5.2.2.1,w5.2.2.2.1,()))) (some (.inr (s.2.2.1,())))
def a5g(x:Z11):Option (List Int):= (a4i x).bind fun y1=> cond (!y1) (some []) ((a4h x).bind fun y2=> (y0o a6C (y2,0,[],x,())).bind fun w6=> some w6.1)
def a9o:FSem:=⟨[.v Q15],[.o QI],a5g⟩
def H86:Hints:=⟨[(122,[.sv 11 QI,.sv 12 QI,.own 3 3 QI,.vp 1 Q15],[(.exit 0,[.own 3 3 QI])]),(31334,[.sv 4 QI,.sv 11 QI,.sv 12 QI,.sv 16 (.list false QL),.sv 17 QI,.sv 18 QI,.own 3 3 QI,.vp 1 Q15],[(.exit 2,[.sv 11 QI,.sv 12 QI,.own 3 3 QI,.vp 1 Q15])])],[],[]⟩
def a4E(s:(Int×(Int×(Int×((List Int)×(Int×Z32)))))):Option ((Int×(Int×(Int×((List Int)×(Int×Z32))))) ⊕ Z78):= cond (decide (s.2.2.2.2.2.2.2.1<s.2.2.2.2.2.2.1)) (cond (decide ((wrap .i64 (8*s.2.2.2.2.2.2.2.1))<0)) none (cond (lim ((a01 s.2.2.2.2.2.2.2.2.1)+1)) (some (.inl (s.1,s.2.1,s.2.2.1,s.2.2.2.1,s.2.2.2.2.1,s.2.2.2.2.2.1,s.2.2.2.2.2.2.1,wrap .i64 (s.2.2.2.2.2.2.2.1+1),a03 s.2.2.2.2.2.2.2.2.1 [wrap .u8 (bits .i64 .and (A0k .i64 s.2.2.1 (wrap .i64 (8*s.2.2.2.2.2.2.2.1))) 255)],()))) none)) (some (.inr (s.1,s.2.1,s.2.2.2.1,s.2.2.2.2.1,s.2.2.2.2.2.1,s.2.2.2.2.2.2.2.2.1,())))
def a6D(s:Z78):Option (Z78 ⊕ Z48):= cond (decide (s.2.2.2.2.1<s.2.2.2.1)) ((m0h s.2.2.1 s.2.2.2.2.1).bind fun x2=> (a1S (x2,s.1)).bind fun y3=> cond (!y3) (some (.inr (Sum.inr ((6,[],()))))) ((y0o a4E (s.1,s.2.1,x2,s.2.2.1,s.2.2.2.1,s.2.2.2.2.1,s.2.1,0,s.2.2.2.2.2.1,())).bind fun w4=> some (.inl (w4.1,w4.2.1,w4.2.2.1,w4.2.2.2.1,wrap .i64 (w4.2.2.2.2.1+1),w4.2.2.2.2.2.1,())))) (some (.inr (Sum.inl (s.2.2.2.2.2.1,()))))
def a9p(x:((List Int)×Int)):Option ((List Int)×Int):= (show Option Z17 from cond (decide (x.2<4)) (some (x.1,x.2,true,())) (some (x.1,x.2,decide (x.2 > 24),()))).bind fun z1=> cond z1.2.2.1 (some ([],1)) ((y0o a6D (z1.2.1,wrap .i64 (a07 (wrap .i64 (z1.2.1+7)) 8),z1.1,(z1.1.length:Int),0,[],())).bind fun w5=> match w5 with |.inl a6=>some (a6.1,0) |.inr b7=>some (b7.2.1,b7.1))
def b6z:FSem:=⟨[.v QL,.v QI],[.o (.int .u8),.v QI],a9p⟩
def d6E:Hints:=⟨[(250,[.sv 1 QI,.sv 6 QI,.sv 20 QL,.sv 21 QI,.sv 22 QI,.own 7 7 (.int .u8)],[(.exit 0,[.own 7 7 (.int .u8)]),(.ret,[.sv 5 QI,.own 4 4 (.int .u8)])]),(128206,[.sv 1 QI,.sv 6 QI,.sv 9 QI,.sv 20 QL,.sv 21 QI,.sv 22 QI,.sv 30 QI,.sv 31 QI,.own 7 7 (.int .u8)],[(.exit 2,[.sv 1 QI,.sv 6 QI,.sv 20 QL,.sv 21 QI,.sv 22 QI,.own 7 7 (.int .u8)])])],[(6,[(.normal,[.sv 0 QL,.sv 1 QI,.sv 16 .bool])])],[]⟩
def b0D(x:Z11):Option ((List Int)×Int):= (a4i x).bind fun y1=> cond (!y1) (some ([],1)) ((a5g x).bind fun y2=> (a9p (y2,x.1)).bind fun y3=> some (y3.1,y3.2))
def b6U:FSem:=⟨[.v Q15],[.o (.int .u8),.v QI],b0D⟩
def d6F:Hints:=⟨[],[],[(3,[.v,.q,.v,.v,.x,.q,.q,.x,.x])]⟩
def a7C(s:Z7):Option (Z7 ⊕ (Int×Unit)):= cond (decide (s.1 > 0)) ((show Option Z7 from cond ((a05 s.1 2)==1) ((a5I (s.2.1,s.2.2.1,0)).bind fun y1=> some (s.1,y1,s.2.2.1,())) (some (s.1,s.2.1,s.2.2.1,()))).bind fun z2=> (a5I (z2.2.2.1,z2.2.2.1,0)).bind fun y3=> some (.inl (wrap .i64 (a07 z2.1 2),z2.2.1,y3,()))) (some (.inr (s.2.1,())))
def b0E(x:Int):Option Int:= (y0o a7C (v0n x 0,1,1000003,())).bind fun w4=> some w4.1
def b6V:FSem:=⟨[.v QI],[.v (.int .u64)],b0E⟩
def d6G:Hints:=⟨[(58,[.sv 0 QI,.sv 3 (.int .u64),.sv 4 (.int .u64)],[(.exit 0,[.sv 3 (.int .u64)])])],[(932,[(.normal,[.sv 0 QI,.sv 3 (.int .u64),.sv 4 (.int .u64)])])],[]⟩
def b1R(x:(Int×Int×Int)):Option (Int×Bool):= (show Option Z22 from cond (decide (x.1≥2305843009213693951)) (some (x.1,x.2.1,x.2.2,true,())) (cond (decide (x.2.1≥2305843009213693951)) (some (x.1,x.2.1,x.2.2,true,())) (some (x.1,x.2.1,x.2.2,decide (x.2.2<0),())))).bind fun z1=> cond z1.2.2.2.1 (some (0,false)) ((b0E z1.2.2.1).bind fun y2=> (a5I (z1.1,y2,z1.2.1)).bind fun y3=> some (y3,true))
def b7W:FSem:=⟨[.v (.int .u64),.v (.int .u64),.v QI],[.v (.int .u64),.v .bool],b1R⟩
def d6H:Hints:=⟨[],[(6,[(.normal,[.sv 0 (.int .u64),.sv 1 (.int .u64),.sv 2 QI,.sv 17 .bool])])],[]⟩
def a4w(x:Z27):Option (Int×Bool):= (b0D x.2).bind fun y1=> cond (y1.2 != 0) (some (0,false)) ((a7P y1.1).bind fun y2=> (b1R (x.1,y2,(y1.1.length:Int))).bind fun y3=> some (y3.1,y3.2))
def a8q:FSem:=⟨[.v (.int .u64),.v Q15],[.v (.int .u64),.v .bool],a4w⟩
def H97:Hints:=⟨[],[],[]⟩
def a8r(s:(Int×Int×Int×b8N×Int×Int×c5G)):Option ((Int×Int×Int×b8N×Int×Int×c5G) ⊕ ((Int×Int×c5G) ⊕ (Bool×((List (List Int))×Z43)))):= cond (decide (s.2.2.2.2.2.1<s.2.2.2.2.1)) ((m0h s.2.2.2.1 s.2.2.2.2.2.1).bind fun x3=> (show Option (Int×(Int×(Int×(Int×(b8N×(Int×(Int×(Bool×((List (List Int))×(Z23×a2U×a9O))))))))))from cond (!(eqT Q12 x3.2.2.1 s.2.2.2.2.2.2.2.2.1.1)) (some (s.1,s.2.1,s.2.2.1,s.2.2.2.2.2.1,s.2.2.2.1,s.2.2.2.2.1,s.2.2.2.2.2.1,true,s.2.2.2.2.2.2.1,s.2.2.2.2.2.2.2.1,x3,s.2.2.2.2.2.2.2.2.1,())) (some (s.1,s.2.1,s.2.2.1,s.2.2.2.2.2.1,s.2.2.2.1,s.2.2.2.2.1,s.2.2.2.2.2.1,x3.1 != s.1,s.2.2.2.2.2.2.1,s.2.2.2.2.2.2.2.1,x3,s.2.2.2.2.2.2.2.2.1,()))).bind fun z4=> cond z4.2.2.2.2.2.2.2.1 (some (.inr (Sum.inr ((false,([]:(List (List Int))),[],()))))) ((show Option (Int×(Int×(Int×(b8N×(Int×(Int×(Bool×((List (List Int))×(Z23×a2U×a9O)))))))))from(m0h z4.2.2.2.2.2.2.2.2.2.2.2.1.2.2.2.1 z4.2.2.2.1).bind fun x5=> cond (x5.1 != z4.1) (some (z4.1,z4.2.1,z4.2.2.1,z4.2.2.2.2.1,z4.2.2.2.2.2.1,z4.2.2.2.2.2.2.1,true,z4.2.2.2.2.2.2.2.2.1,z4.2.2.2.2.2.2.2.2.2.1,z4.2.2.2.2.2.2.2.2.2.2.1,z4.2.2.2.2.2.2.2.2.2.2.2.1,())) ((m0h z4.2.2.2.2.2.2.2.2.2.2.2.1.2.2.2.1 z4.2.2.2.1).bind fun x6=> some (z4.1,z4.2.1,z4.2.2.1,z4.2.2.2.2.1,z4.2.2.2.2.2.1,z4.2.2.2.2.2.2.1,x6.2.1 != z4.2.1,z4.2.2.2.2.2.2.2.2.1,z4.2.2.2.2.2.2.2.2.2.1,z4.2.2.2.2.2.2.2.2.2.2.1,z4.2.2.2.2.2.2.2.2.2.2.2.1,()))).bind fun z7=> cond z7.2.2.2.2.2.2.1 (some (.inr (Sum.inr ((false,([]:(List (List Int))),[],()))))) ((a3M z7.2.2.2.2.2.2.2.2.2.1).bind fun y8=> cond (y8.2 != 0) (some (.inr (Sum.inr ((false,([]:(List (List Int))),[],()))))) ((a4m z7.2.2.2.2.2.2.2.2.2.1).bind fun y9=> cond (y9.2 != 0) (some (.inr (Sum.inr ((false,([]:(List (List Int))),[],()))))) ((a4w (z7.2.2.1,y8.1)).bind fun y10=> cond (!y10.2) (some (.inr (Sum.inr ((false,([]:(List (List Int))),[],()))))) (cond (lim ((a01 z7.2.2.2.2.2.2.2.1)+1)) (cond (lim ((a01 z7.2.2.2.2.2.2.2.2.1)+1)) (some (.inl (wrap .i64 (z7.1+z7.2.2.2.2.2.2.2.2.2.1.2.1),wrap .i64 (z7.2.1+(y9.1.length:Int)),y10.1,z7.2.2.2.1,z7.2.2.2.2.1,wrap .i64 (z7.2.2.2.2.2.1+1),a03 z7.2.2.2.2.2.2.2.1 ([y9.1]:List (List Int)),a03 z7.2.2.2.2.2.2.2.2.1 ([y8.1]:List Z11),z7.2.2.2.2.2.2.2.2.2.2.1,()))) none) none)))))) (some (.inr (Sum.inl (s.1,s.2.2.1,s.2.2.2.2.2.2.1,s.2.2.2.2.2.2.2.1,s.2.2.2.2.2.2.2.2.1,()))))
def a9c(x:a8K):Option ((List (List Int))×(Z23×Bool)):= (show Option (Bool×c5G)from(a1T x.1).bind fun y1=> cond (!y1) (some (true,([]:(List (List Int))),[],x,())) (cond (decide ((x.2.2.2.2.1.length:Int) > 4096)) (some (true,([]:(List (List Int))),[],x,())) (some ((x.2.2.2.1.length:Int) != (x.2.2.2.2.1.length:Int),([]:(List (List Int))),[],x,())))).bind fun z2=> cond z2.1 (some (([]:(List (List Int))),[],false)) ((y0o a8r (0,0,0,z2.2.2.2.1.2.2.2.2.1,(z2.2.2.2.1.2.2.2.2.1.length:Int),0,z2.2.1,z2.2.2.1,z2.2.2.2.1,())).bind fun w11=> match w11 with |.inl a12=>((show Option (Bool×((List (List Int))×Z43))from cond (a12.2.2.2.2.1.2.1 != a12.1) (some (true,a12.2.2.1,a12.2.2.2.1,())) (some (a12.2.2.2.2.1.2.2.1 != a12.2.1,a12.2.2.1,a12.2.2.2.1,()))).bind fun z14=> cond z14.1 (some (([]:(List (List Int))),[],false)) (some (z14.2.1,z14.2.2.1,true))) |.inr b13=>some (b13.2.1,b13.2.2.1,b13.1))
def b4S:FSem:=⟨[.v Q74],[.o (.list false (.int .u8)),.o Q15,.v .bool],a9c⟩
def H85:Hints:=⟨[(122,[.sv 5 QI,.sv 6 QI,.sv 7 (.int .u64),.sv 33 (.list false Q60),.sv 34 QI,.sv 35 QI,.own 2 2 (.list false (.int .u8)),.own 3 3 Q15,.vp 1 Q74],[(.exit 0,[.sv 5 QI,.sv 7 (.int .u64),.own 2 2 (.list false (.int .u8)),.own 3 3 Q15,.vp 1 Q74]),(.ret,[.sv 4 .bool,.own 2 2 (.list false (.int .u8)),.own 3 3 Q15])])],[(6,[(.normal,[.sv 31 .bool,.own 2 2 (.list false (.int .u8)),.own 3 3 Q15,.vp 1 Q74])]),(62,[(.normal,[.sv 117 .bool,.own 2 2 (.list false (.int .u8)),.own 3 3 Q15])]),(15666,[(.normal,[.sv 5 QI,.sv 6 QI,.sv 7 (.int .u64),.sv 8 QI,.sv 33 (.list false Q60),.sv 34 QI,.sv 35 QI,.sv 50 .bool,.own 2 2 (.list false (.int .u8)),.own 3 3 Q15,.box 9 Q60,.vp 1 Q74,.ptr 9 9 []])]),(31334,[(.normal,[.sv 5 QI,.sv 6 QI,.sv 7 (.int .u64),.sv 33 (.list false Q60),.sv 34 QI,.sv 35 QI,.sv 68 .bool,.own 2 2 (.list false (.int .u8)),.own 3 3 Q15,.box 9 Q60,.vp 1 Q74,.ptr 9 9 []])])],[]⟩
def b6W(s:(Int×(Int×((List Int)×Z43)))):Option ((Int×(Int×((List Int)×Z43))) ⊕ ((List Int)×Unit)):= cond (decide (s.2.1<s.1)) (cond ((decide (0≤s.2.1))&&(decide (s.2.1<(s.2.2.2.1.length:Int)))) ((a5g (a04 s.2.2.2.1 (a00 s.2.1) (0,([]:(List (List Int))),()))).bind fun y2=> cond (lim ((a01 s.2.2.1)+(a01 y2))) (some (.inl (s.1,wrap .i64 (s.2.1+1),a03 s.2.2.1 y2,s.2.2.2.1,()))) none) none) (some (.inr (s.2.2.1,())))
def b4h(x:a8K):Option ((List Int)×Int):= (a9c x).bind fun y1=> cond (!y1.2.2) (some ([],1)) ((y0o b6W ((y1.2.1.length:Int),0,[],y1.2.1,())).bind fun w3=> some (w3.1,0))
def b4i:FSem:=⟨[.v Q74],[.o QI,.v QI],b4h⟩
def H27:Hints:=⟨[(250,[.sv 19 QI,.sv 20 QI,.own 7 7 QI,.own 18 5 Q15],[(.exit 0,[.own 7 7 QI])])],[],[]⟩
def H31:Hints:=⟨[(26,[.sv 1 QI,.sv 9 (.list false Q60),.sv 10 QI,.sv 11 QI],[(.exit 0,[]),(.ret,[.sv 4 QI,.sv 5 QI])])],[],[]⟩
def b6X(x:(a8K×Int)):Option (Int×Int):=A0f (a7K [] [] [0,1,4,5,6] [2]) H31 Tryz.f31 [.v Q74,.v (.int .i64)] [.v (.int .i64),.v (.int .i64)] x
def b6Y:FSem:=⟨[.v Q74,.v QI],[.v QI,.v QI],b6X⟩
def H35:Hints:=⟨[(58,[.sv 0 QL,.sv 1 QL,.sv 5 QI],[(.exit 0,[]),(.ret,[.sv 4 .bool])])],[],[(6,[.v,.v,.v,.v,.v,.v,.v,.v,.x])]⟩
def a3P(x:((List Int)×(List Int))):Option Bool:=A0f (a7K [] [] [0,1,4,5] []) H35 Tryz.f35 [.v (.list false (.int .i64)),.v (.list false (.int .i64))] [.v .bool] x
def a9q:FSem:=⟨[.v QL,.v QL],[.v .bool],a3P⟩
def a7Q(s:(Z13×Z27)):Option ((Z13×Z27) ⊕ (Z1 ⊕ ((List (List Int))×(Int×Unit)))):= cond (decide (s.2.2.1<s.2.1)) ((m0h s.1 s.2.2.1).bind fun x5=> (a7N (s.2.2.2.1,x5,1)).bind fun y6=> cond (!y6.1) (some (.inr (Sum.inr ((([]:(List (List Int))),6,()))))) (some (.inl (s.1,s.2.1,wrap .i64 (s.2.2.1+1),y6.2,())))) (some (.inr (Sum.inl (s.2.2.2.1,()))))
def b2l(x:((List (List Int))×Z13)):Option ((List (List Int))×Int):= (show Option ((List (List Int))×(Z13×Bool×Unit))from(a7n x.1).bind fun y1=> cond (!y1) (some (x.1,x.2,true,())) ((a8g (x.2,(x.1.length:Int))).bind fun y2=> some (x.1,x.2,!y2,()))).bind fun z3=> cond z3.2.2.1 (some (([]:(List (List Int))),1)) ((a6V z3.1).bind fun y4=> (y0o a7Q (z3.2.1,(z3.2.1.length:Int),0,y4,())).bind fun w7=> match w7 with |.inl a8=>some (a8.1,0) |.inr b9=>some (b9.1,b9.2.1))
def b6Z:FSem:=⟨[.v (.list false QL),.v (.list false Q12)],[.v (.list false QL),.v QI],b2l⟩
def H59:Hints:=⟨[(122,[.sv 21 (.list false Q12),.sv 22 QI,.sv 23 QI,.own 6 6 (.list true QI)],[(.exit 0,[.own 6 6 (.list true QI)]),(.ret,[.sv 4 (.list false QL),.sv 5 QI])])],[(6,[(.normal,[.sv 0 (.list false QL),.sv 1 (.list false Q12),.sv 18 .bool])])],[]⟩
def a6E(s:(Int×((List Int)×Z44))):Option ((Int×((List Int)×Z44)) ⊕ Z44):= cond (decide (s.2.2.1<(s.2.1.length:Int))) ((m0h s.2.1 s.2.2.1).bind fun x3=> (m0h s.2.1 (wrap .i64 (s.2.2.1-1))).bind fun x4=> (m0h s.2.1 (wrap .i64 (s.2.2.1-2))).bind fun x5=> some (.inl (wrap .i64 (s.1+(v0n (wrap .i64 ((wrap .i64 (x3-(wrap .i64 (2*x4))))+x5)) (wrap .i64 (0-(wrap .i64 ((wrap .i64 (x3-(wrap .i64 (2*x4))))+x5)))))),s.2.1,wrap .i64 (s.2.2.1+1),s.2.2.2.1,s.2.2.2.2.1,s.2.2.2.2.2.1,()))) (some (.inr (s.1,s.2.2.2.1,s.2.2.2.2.1,s.2.2.2.2.2.1,())))
def a6F(s:Z44):Option (Z44 ⊕ (Int×Unit)):= cond (decide (s.2.2.2.1<s.2.2.1)) ((m0h s.2.1 s.2.2.2.1).bind fun x2=> (y0o a6E (s.1,x2,2,s.2.1,s.2.2.1,s.2.2.2.1,())).bind fun w6=> some (.inl (w6.1,w6.2.1,w6.2.2.1,wrap .i64 (w6.2.2.2.1+1),()))) (some (.inr (s.1,())))
def a6Z(x:(List (List Int))):Option Int:= (a7n x).bind fun y1=> cond (!y1) (some 0) ((y0o a6F (0,x,(x.length:Int),0,())).bind fun w7=> some w7.1)
def b6A:FSem:=⟨[.v (.list false QL)],[.v QI],a6Z⟩
def d6I:Hints:=⟨[(122,[.sv 3 QI,.sv 11 (.list false QL),.sv 12 QI,.sv 13 QI],[(.exit 0,[.sv 3 QI])]),(31334,[.sv 3 QI,.sv 5 QL,.sv 6 QI,.sv 11 (.list false QL),.sv 12 QI,.sv 13 QI],[(.exit 2,[.sv 3 QI,.sv 11 (.list false QL),.sv 12 QI,.sv 13 QI])])],[],[(10,[.v,.v,.v,.v,.v,.v,.v,.v,.v,.v,.v,.v,.v,.v,.v,.v,.x,.x])]⟩
def b0F(x:Int):Option Z13:= cond (x==1) (some ([(0,1,(-256),())]:List Z7)) (cond (x==2) (some ([(1,0,(-256),())]:List Z7)) (cond (x==3) (some ([(1,0,(-256),()),(0,1,128,())]:List Z7)) (cond (x==4) (some ([(1,0,(-106),()),(0,1,181,()),(1,0,(-106),())]:List Z7)) (some []))))
def b7a:FSem:=⟨[.v QI],[.o Q12],b0F⟩
def d6J:Hints:=⟨[],[],[]⟩
def a6d(s:((List (List Int))×Z7)):Option (((List (List Int))×Z7) ⊕ (Int×Unit)):= cond (decide (s.2.2.2.1<5)) ((b0F s.2.2.2.1).bind fun y2=> (b2l (s.1,y2)).bind fun y3=> cond (y3.2 != 0) (some (.inl (s.1,s.2.1,s.2.2.1,wrap .i64 (s.2.2.2.1+1),()))) ((a6Z y3.1).bind fun y4=> cond (decide (y4<s.2.2.1)) (some (.inl (s.1,s.2.2.2.1,y4,wrap .i64 (s.2.2.2.1+1),()))) (some (.inl (s.1,s.2.1,s.2.2.1,wrap .i64 (s.2.2.2.1+1),()))))) (some (.inr (s.2.1,())))
def b1S(x:(List (List Int))):Option Z13:= (a6Z x).bind fun y1=> (y0o a6d (x,0,y1,1,())).bind fun w5=> (b0F w5.1).bind fun y6=> some y6
def b7X:FSem:=⟨[.v (.list false QL)],[.o Q12],b1S⟩
def d6K:Hints:=⟨[(58,[.sv 0 (.list false QL),.sv 3 QI,.sv 4 QI,.sv 5 QI],[(.exit 0,[.sv 3 QI])])],[],[]⟩
def a6e(s:(Int×Int×Int×Z13×Z94)):Option ((Int×Int×Int×Z13×Z94) ⊕ (Int×Z94)):= cond (decide (s.2.2.1<s.2.1)) (cond ((decide (0≤s.2.2.1))&&(decide (s.2.2.1<(s.2.2.2.2.1.length:Int)))) (cond (lim ((a01 s.2.2.2.1)+1)) (some (.inl (s.1,s.2.1,wrap .i64 (s.2.2.1+1),a03 s.2.2.2.1 ([(wrap .i64 (((a04 s.2.2.2.2.1 (a00 s.2.2.1) (0,0,0,())).1)+s.1),wrap .i64 ((((a04 s.2.2.2.2.1 (a00 s.2.2.1) (0,0,0,())).2).1)+s.1),(((a04 s.2.2.2.2.1 (a00 s.2.2.1) (0,0,0,())).2).2).1,())]:List Z7),s.2.2.2.2.1,s.2.2.2.2.2.1,()))) none) none) (some (.inr (s.1,s.2.2.2.1,s.2.2.2.2.2.1,())))
def a8s(s:(Int×Z94)):Option ((Int×Z94) ⊕ (Z13×Unit)):= cond (decide ((wrap .i64 (s.1+1))<(s.2.2.1.2.1.length:Int))) (cond ((decide (0≤(wrap .i64 (s.1+2))))&&(decide ((wrap .i64 (s.1+2))≤(s.2.2.1.2.1.length:Int)))) (cond ((decide (0≤s.1))&&(decide (s.1≤((a00 (wrap .i64 (s.1+2)):Nat):Int)))) ((b1S (a19 (a00 s.1) (a06 (a00 (wrap .i64 (s.1+2))) s.2.2.1.2.1))).bind fun y2=> (y0o a6e (s.1,(y2.length:Int),0,s.2.1,y2,s.2.2.1,())).bind fun w3=> some (.inl (wrap .i64 (w3.1+2),w3.2.1,w3.2.2.1,()))) none) none) (some (.inr (s.2.1,())))
def a7q(x:Z11):Option Z13:= (a4i x).bind fun y1=> cond (!y1) (some []) ((y0o a8s (0,[],x,())).bind fun w4=> some w4.1)
def b7Y:FSem:=⟨[.v Q15],[.o Q12],a7q⟩
def H58:Hints:=⟨[(122,[.sv 4 QI,.own 3 3 Q12,.vp 1 Q15],[(.exit 0,[.own 3 3 Q12])]),(7826,[.sv 4 QI,.sv 25 QI,.sv 26 QI,.own 3 3 Q12,.own 24 1024 Q12,.vp 1 Q15],[(.exit 2,[.sv 4 QI,.own 3 3 Q12,.vp 1 Q15])])],[],[]⟩
def a6G(s:Z59):Option (Z59 ⊕ Z48):= cond (decide (s.2.2.2.1<s.2.2.1)) ((m0h s.2.1 s.2.2.2.1).bind fun x2=> (show Option (Int×(Int×((List Int)×(Int×(Int×(Bool×((List Int)×Unit)))))))from(a5e x2).bind fun y3=> cond (!y3) (some (s.1,x2,s.2.1,s.2.2.1,s.2.2.2.1,true,s.2.2.2.2.1,())) (cond (decide (s.1<0)) none (cond ((A0j .i64 1 s.1)==0) none (some (s.1,x2,s.2.1,s.2.2.1,s.2.2.2.1,(a05 x2 (A0j .i64 1 s.1)) != 0,s.2.2.2.2.1,()))))).bind fun z4=> cond z4.2.2.2.2.2.1 (some (.inr (Sum.inr ((6,[],()))))) (cond (decide (z4.1<0)) none (cond (lim ((a01 z4.2.2.2.2.2.2.1)+1)) (some (.inl (z4.1,z4.2.2.1,z4.2.2.2.1,wrap .i64 (z4.2.2.2.2.1+1),a03 z4.2.2.2.2.2.2.1 [A0k .i64 z4.2.1 z4.1],()))) none))) (some (.inr (Sum.inl (s.2.2.2.2.1,()))))
def a7a(x:((List Int)×Int)):Option ((List Int)×Int):= (show Option Z17 from cond (decide (x.2<0)) (some (x.1,x.2,true,())) (some (x.1,x.2,decide (x.2 > 30),()))).bind fun z1=> cond z1.2.2.1 (some ([],1)) ((y0o a6G (z1.2.1,z1.1,(z1.1.length:Int),0,[],())).bind fun w5=> match w5 with |.inl a6=>some (a6.1,0) |.inr b7=>some (b7.2.1,b7.1))
def b2G:FSem:=⟨[.v QL,.v QI],[.o QI,.v QI],a7a⟩
def d6L:Hints:=⟨[(122,[.sv 1 QI,.sv 15 QL,.sv 16 QI,.sv 17 QI,.own 6 6 QI],[(.exit 0,[.own 6 6 QI]),(.ret,[.sv 5 QI,.own 4 4 QI])])],[(6,[(.normal,[.sv 0 QL,.sv 1 QI,.sv 14 .bool])]),(15666,[(.normal,[.sv 1 QI,.sv 8 QI,.sv 15 QL,.sv 16 QI,.sv 17 QI,.sv 30 .bool,.own 6 6 QI])])],[]⟩
def a1x(x:Int):Option Int:= cond (x==0) (some 64) ((m0h b1E (A0k .u64 (wrap .u64 ((bits .u64 .and x (wrap .u64 (0-x)))*285870213051353865)) 58)).bind fun x1=> some (wrap .i64 x1))
def a1f:FSem:=⟨[.v (.int .u64)],[.v QI],a1x⟩
def c1e:Hints:=⟨[],[],[]⟩
def b0G:Cx:=a7K [] [] [0,2] []
theorem b7Z{ρ:Type}{cx:Cx}{ops:List Oper}:∀(l1 l2:List (Md×Oper)) (Γ:AE) (K:AE→Rs ρ),h0m cx ops (l1++l2) Γ K=h0m cx ops l1 Γ fun Γ'=>h0m cx ops l2 Γ' K
 | [],_,_,_=>rfl
 |(md,o)::l1,l2,Γ,K=>by
  simp only[a21,h0m];congr 1;funext Γ';exact b7Z l1 l2 Γ' K
theorem b7b{ρ:Type}{cx:Cx}{H:Hints}{a b:Code}{p:Nat}(h:find H.cuts p=none)(Γ:AE)(K:Ex→AE→Rs ρ):c0n cx H (.seq a b) p Γ K=c0n cx H a (2*p) Γ fun e Γ'=>match e with
   |.normal=>c0n cx H b (2*p+1) Γ' K
   |e=>K e Γ':=by
 simp only[c0n,h];rfl
theorem c2Z{ρ:Type}{cx:Cx}{H:Hints}{id:Nat}{ops:Array Oper}{p:Nat}(Γ:AE)(K:Ex→AE→Rs ρ):c0n cx H (.region id ops false) p Γ K=h0m cx ops.toList (ops.toList.map fun o=>(.x,o)) Γ fun Γ'=>K .normal Γ':=by
 simp only[c0n,cF]
def a9J:Code:=match Tryz.f191.body with
 |some c=>c
 |none=>.skip
def c1f:Code→Code
 |.seq a _=>a
 |c=>c
def c5J:Code→Code
 |.seq _ b=>b
 |c=>c
def c7h:Code→Array Oper
 |.region _ ops _=>ops
 |_=>#[]
def c5d:Code:=c5J (c5J a9J)
def b3B:List Oper:=(c7h (c1f c5d)).toList
def Γ191(x:Int):AE:=(((ini [.v (.int .u64)] x).set 2 (.val QI (0:Int))).set 3 (.val (.int .u64) x)).set 4 (.val .bool (x==(0:Int)))
def Γ191r(x:Int):AE:=(Γ191 x).set 2 (.val QI (64:Int))
def c3a(e:Ex)(Γ:AE):Option Int:=match e,Γ.pd with
  |.exit _,_=>none
  |_,some _=>none
  |_,none=>(Γ.upto Tryz.f191.ntmps).outs b0G [] Tryz.f191.ntmps [.v QI] (Tryz.f191.results.toList.map .inl) fun y _=>some y
def Γ191b(x a b c i:Int):AE:=((((((Γ191 x).set 5 (.val (.int .u64) x)).set 6 (.val (.int .u64) x)).set 7 (.val (.int .u64) a)).set 8 (.val (.int .u64) b)).set 9 (.val (.int .u64) c)).set 10 (.val (.int .u64) i)
set_option maxRecDepth 100000
theorem c8t:a9J=.seq (c1f a9J) (.seq (c1f (c5J a9J)) (.seq (.region 3 (c7h (c1f c5d)) false) .ret)):=by kernel_rfl
theorem d1a(x:Int):A0f b0G c1e Tryz.f191 a1f.ps a1f.rs x=c0n b0G c1e a9J 1 (ini [.v (.int .u64)] x) c3a:=rfl
theorem d1b(x:Int)(K:Ex→AE→Option Int):c0n b0G c1e (c1f a9J) 2 (ini [.v (.int .u64)] x) K=K .normal ((ini [.v (.int .u64)] x).set 2 (.val (.int .i64) (0:Int))):=by kernel_rfl
theorem d1c(x:Int)(K:Ex→AE→Option Int):c0n b0G c1e (c1f (c5J a9J)) 6 ((ini [.v (.int .u64)] x).set 2 (.val (.int .i64) (0:Int))) K=bif x==(0:Int)then K .ret (Γ191r x)else K .normal (Γ191 x):=by kernel_rfl
theorem d1d(x:Int):c3a .ret (Γ191r x)=some (64:Int):=by kernel_rfl
theorem d1e(x:Int)(K:AE→Option Int):h0m b0G b3B ((b3B.map fun o=>(Md.x,o)).take 6) (Γ191 x) K =
  K (Γ191b x (wrap .u64 (0-x)) (bits .u64 .and x (wrap .u64 (0-x))) (wrap .u64 ((bits .u64 .and x (wrap .u64 (0-x)))*(285870213051353865:Int))) (A0k .u64 (wrap .u64 ((bits .u64 .and x (wrap .u64 (0-x)))*(285870213051353865:Int))) (58:Int))):=by kernel_rfl
theorem d1f(x a b c i:Int):h0m b0G b3B ((b3B.map fun o=>(Md.x,o)).drop 6) (Γ191b x a b c i) (fun Γ=>c3a .ret Γ)=(m0h b1E i).bind fun h=>some (wrap .i64 h):=by kernel_rfl
theorem d1g(x:Int):h0m b0G b3B (b3B.map fun o=>(Md.x,o)) (Γ191 x) (fun Γ=>c3a .ret Γ)=(m0h b1E (A0k .u64 (wrap .u64 ((bits .u64 .and x (wrap .u64 (0-x)))*(285870213051353865:Int))) (58:Int))).bind fun h=>some (wrap .i64 h):=by
 rw[←List.take_append_drop 6 (b3B.map fun o=>(Md.x,o)),b7Z,d1e,d1f]
theorem d2c(x:Int):c0n b0G c1e a9J 1 (ini [.v (.int .u64)] x) c3a=a1x x:=by
 rw[c8t,b7b rfl,d1b];simp only[];rw[b7b rfl,d1c];simp only[];rw[b7b rfl,c2Z];simp only[c0n];rw[d1d];exact congrArg (fun z=>bif x==(0:Int)then some (64:Int)else z) (d1g x)
theorem d3d(x):A0f b0G c1e Tryz.f191 a1f.ps a1f.rs x=a1f.F x:=(d1a x).trans (d2c x)
def a5p(s:Z30):Option Z66:= cond (decide (s.2.2.2.1<s.2.2.1)) ((m0h s.2.1 s.2.2.2.1).bind fun x1=> some (.inl (bits .i64 .or s.1 x1,s.2.1,s.2.2.1,wrap .i64 (s.2.2.2.1+1),()))) (some (.inr (s.1,())))
def a3C(x:(List Int)):Option Int:= (y0o a5p (0,x,(x.length:Int),0,())).bind fun w2=> cond (w2.1==0) (some 0) ((a1x (wrap .u64 w2.1)).bind fun y3=> some (v0o y3 30))
def b0H:FSem:=⟨[.v QL],[.v QI],a3C⟩
def d6M:Hints:=⟨[(58,[.sv 3 QI,.sv 6 QL,.sv 7 QI,.sv 8 QI],[(.exit 0,[.sv 3 QI])])],[],[]⟩
def a5q(s:Z32):Option (Z32 ⊕ Z15):= cond (decide ((wrap .i64 (s.1+1))<(s.2.2.2.1.length:Int))) (cond ((decide (0≤(wrap .i64 (s.1+1))))&&(decide ((wrap .i64 (s.1+1))<(s.2.2.2.1.length:Int)))) (cond ((decide (0≤s.1))&&(decide (s.1<(s.2.2.2.1.length:Int)))) (cond ((decide (0≤s.1))&&(decide (s.1<(s.2.2.2.1.length:Int)))) (some (.inl (wrap .i64 (s.1+1),s.2.1,s.2.2.1,a09 s.2.2.2.1 (a00 s.1) (wrap .i64 ((a04 s.2.2.2.1 (a00 (wrap .i64 (s.1+1))) 0)-(a04 s.2.2.2.1 (a00 s.1) 0))),()))) none) none) none) (some (.inr (s.2.1,s.2.2.1,s.2.2.2.1,())))
def a7D(s:Z15):Option (Z15 ⊕ ((List Int)×Unit)):= cond (decide (s.2.1<s.1)) ((y0o a5q (0,s.1,s.2.1,s.2.2.1,())).bind fun w3=> cond ((decide (0≤(wrap .i64 ((w3.2.2.1.length:Int)-1))))&&(decide ((wrap .i64 ((w3.2.2.1.length:Int)-1))≤(w3.2.2.1.length:Int)))) (cond (decide ((a00 (wrap .i64 ((w3.2.2.1.length:Int)-1)))≤(a01 w3.2.2.1))) (some (.inl (w3.1,wrap .i64 (w3.2.1+1),a06 (a00 (wrap .i64 ((w3.2.2.1.length:Int)-1))) w3.2.2.1,()))) none) none) (some (.inr (s.2.2.1,())))
def a4F(x:((List Int)×Int)):Option ((List Int)×Int):= (show Option Z17 from cond (decide (x.2<0)) (some (x.1,x.2,true,())) (cond (decide (x.2 > 4)) (some (x.1,x.2,true,())) (some (x.1,x.2,decide ((x.1.length:Int)<x.2),())))).bind fun z1=> cond z1.2.2.1 (some ([],1)) ((a2G z1.1).bind fun y2=> cond (!y2) (some ([],6)) (cond (lim (a01 z1.1)) ((y0o a7D (z1.2.1,0,z1.1,())).bind fun w4=> (a2G w4.1).bind fun y5=> cond (!y5) (some ([],6)) (some (w4.1,0))) none))
def b3C:FSem:=⟨[.v QL,.v QI],[.o QI,.v QI],a4F⟩
def d6N:Hints:=⟨[(250,[.sv 25 QI,.sv 26 QI,.own 6 6 QI],[(.exit 0,[.own 6 6 QI])]),(64098,[.sv 7 QI,.sv 25 QI,.sv 26 QI,.own 6 6 QI],[(.exit 2,[.sv 25 QI,.sv 26 QI,.own 6 6 QI])])],[(6,[(.normal,[.sv 0 QL,.sv 1 QI,.sv 19 .bool])])],[(11,[.q,.v,.q,.v,.v,.q,.q,.q,.v,.q,.q,.v,.x,.x])]⟩
def a4G(s:Z50):Option (Z50 ⊕ (Int×Unit)):= cond (decide (s.2.2.2.2.1<s.2.2.2.1)) ((m0h s.2.2.1 s.2.2.2.2.1).bind fun x1=> cond (decide ((wrap .i64 (s.2.2.2.2.1+s.1))≥4)) (some (.inl (s.1,wrap .i64 (s.2.1+(v0n x1 (wrap .i64 (0-x1)))),s.2.2.1,s.2.2.2.1,wrap .i64 (s.2.2.2.2.1+1),()))) (some (.inl (s.1,s.2.1,s.2.2.1,s.2.2.2.1,wrap .i64 (s.2.2.2.2.1+1),())))) (some (.inr (s.2.1,())))
def a9r(x:((List Int)×Int)):Option Int:= (y0o a4G (x.2,0,x.1,(x.1.length:Int),0,())).bind fun w2=> some w2.1
def b6B:FSem:=⟨[.v QL,.v QI],[.v QI],a9r⟩
def d6O:Hints:=⟨[(58,[.sv 1 QI,.sv 5 QI,.sv 8 QL,.sv 9 QI,.sv 10 QI],[(.exit 0,[.sv 5 QI])])],[],[]⟩
def a3D(s:Z31):Option (Z31 ⊕ (Int×Unit)):= cond (decide (s.2.2.2.1≤4)) ((a4F (s.1,s.2.2.2.1)).bind fun y1=> cond (y1.2 != 0) (some (.inl (s.1,s.2.1,s.2.2.1,wrap .i64 (s.2.2.2.1+1),()))) ((a9r (y1.1,s.2.2.2.1)).bind fun y2=> (show Option ((List Int)×(Int×Z22))from cond (decide (s.2.2.1<0)) (some (s.1,s.2.1,s.2.2.1,s.2.2.2.1,y2,true,())) (some (s.1,s.2.1,s.2.2.1,s.2.2.2.1,y2,decide (y2<s.2.2.1),()))).bind fun z3=> cond z3.2.2.2.2.2.1 (some (.inl (z3.1,z3.2.2.2.1,z3.2.2.2.2.1,wrap .i64 (z3.2.2.2.1+1),()))) (some (.inl (z3.1,z3.2.1,z3.2.2.1,wrap .i64 (z3.2.2.2.1+1),()))))) (some (.inr (s.2.1,())))
def a6f(x:(List Int)):Option Int:= (y0o a3D (x,0,(-1),0,())).bind fun w4=> some w4.1
def b7c:FSem:=⟨[.v QL],[.v QI],a6f⟩
def d6P:Hints:=⟨[(58,[.sv 0 QL,.sv 3 QI,.sv 4 QI,.sv 5 QI],[(.exit 0,[.sv 3 QI])])],[(7463,[(.normal,[.sv 0 QL,.sv 3 QI,.sv 4 QI,.sv 5 QI,.sv 8 QI,.sv 30 .bool])])],[]⟩
def a2z(x:Int):Option Int:= some (v0o (v0n x (-1048576)) 1048575)
def b1m:FSem:=⟨[.v QI],[.v QI],a2z⟩
def d6Q:Hints:=⟨[],[],[]⟩
def a3r(s:Z75):Option (Z75 ⊕ Z61):= cond (decide (s.2.1<0)) none ((a2z (A0k .i64 s.2.2.1 s.2.1)).bind fun y2=> cond (decide (s.2.1<0)) none (cond (y2 != (A0k .i64 s.2.2.1 s.2.1)) (some (.inl (s.1,wrap .i64 (s.2.1+1),s.2.2.1,s.2.2.2.1,s.2.2.2.2.1,s.2.2.2.2.2.1,()))) (some (.inr (s.1,s.2.1,s.2.2.2.1,s.2.2.2.2.1,s.2.2.2.2.2.1,())))))
def a5r(s:Z61):Option (Z61 ⊕ Z6):= cond (decide (s.2.2.2.2.1<s.2.2.2.1)) ((m0h s.2.2.1 s.2.2.2.2.1).bind fun x1=> (y0o a3r (s.1,s.2.1,x1,s.2.2.1,s.2.2.2.1,s.2.2.2.2.1,())).bind fun w3=> some (.inl (w3.1,w3.2.1,w3.2.2.1,w3.2.2.2.1,wrap .i64 (w3.2.2.2.2.1+1),()))) (some (.inr (s.1,s.2.1,())))
def a5s(s:Z59):Option (Z59 ⊕ ((List Int)×Unit)):= cond (decide (s.2.2.2.1<s.2.2.1)) ((m0h s.2.1 s.2.2.2.1).bind fun x5=> cond (decide (s.1<0)) none (cond ((decide (0≤s.2.2.2.1))&&(decide (s.2.2.2.1<(s.2.2.2.2.1.length:Int)))) (some (.inl (s.1,s.2.1,s.2.2.1,wrap .i64 (s.2.2.2.1+1),a09 s.2.2.2.2.1 (a00 s.2.2.2.1) (A0k .i64 x5 s.1),()))) none)) (some (.inr (s.2.2.2.2.1,())))
def a7E(x:(List Int)):Option (List Int):= (y0o a5r (x,0,x,(x.length:Int),0,())).bind fun w4=> cond ((decide (0≤(w4.1.length:Int)))&&((decide ((w4.1.length:Int)≤(w4.1.length:Int)))&&(lim (a00 (w4.1.length:Int))))) ((y0o a5s (w4.2.1,w4.1,(w4.1.length:Int),0,a02 (a00 (w4.1.length:Int)) 0,())).bind fun w6=> some w6.1) none
def b4j:FSem:=⟨[.v QL],[.o QI],a7E⟩
def d6R:Hints:=⟨[(58,[.sv 0 QL,.sv 3 QI,.sv 9 QL,.sv 10 QI,.sv 11 QI],[(.exit 0,[.sv 0 QL,.sv 3 QI])]),(250,[.sv 3 QI,.sv 29 QL,.sv 30 QI,.sv 31 QI,.own 6 6 QI],[(.exit 4,[.own 6 6 QI])]),(7474,[.sv 0 QL,.sv 3 QI,.sv 5 QI,.sv 9 QL,.sv 10 QI,.sv 11 QI],[(.exit 2,[.sv 0 QL,.sv 3 QI,.sv 9 QL,.sv 10 QI,.sv 11 QI])])],[],[(5,[.v,.v,.v,.v,.v,.v,.v,.x])]⟩
def a3l(s:Z62):Option (Z62 ⊕ (Int×Int×Unit)):= cond (decide (s.2.2.2.2.1<(s.1.length:Int))) ((m0h s.1 s.2.2.2.2.1).bind fun x1=> (m0h s.2.1 (wrap .i64 (s.2.2.2.2.1-1))).bind fun x2=> (m0h s.1 s.2.2.2.2.1).bind fun x3=> (m0h s.1 s.2.2.2.2.1).bind fun x4=> (m0h s.2.1 (wrap .i64 (s.2.2.2.2.1-1))).bind fun x5=> (m0h s.2.1 (wrap .i64 (s.2.2.2.2.1-1))).bind fun x6=> some (.inl (s.1,s.2.1,wrap .i64 (s.2.2.1+(wrap .i64 (x1*x2))),wrap .i64 (s.2.2.2.1+(wrap .i64 ((wrap .i64 (x3*x4))+(wrap .i64 (x5*x6))))),wrap .i64 (s.2.2.2.2.1+1),()))) (some (.inr (s.2.2.1,s.2.2.2.1,())))
def a3m(s:(Int×Int×Unit)):Option ((Int×Int×Unit) ⊕ (Int×Int×Unit)):= cond (decide (s.2.1≥1099511627776)) (some (.inl (A0k .i64 s.1 1,A0k .i64 s.2.1 1,()))) (some (.inr (s.1,s.2.1,())))
def a4T(x:Z10):Option Int:= (y0o a3l (x.1,x.2.1,0,0,x.2.2,())).bind fun w7=> (y0o a3m (w7.1,w7.2.1,())).bind fun w8=> cond (w8.2.1==0) (some 0) (cond (w8.2.1==0) none ((show Option (Int×Unit)from cond (w8.2.1==0) none (cond (decide ((a05 (A0j .i64 w8.1 15) w8.2.1)<0)) (some (wrap .i64 ((wrap .i64 (a07 (A0j .i64 w8.1 15) w8.2.1))-1),())) (some (wrap .i64 (a07 (A0j .i64 w8.1 15) w8.2.1),())))).bind fun z9=> some (v0o (v0n z9.1 (-16383)) 16383)))
def b1g:FSem:=⟨[.v QL,.v QL,.v QI],[.v QI],a4T⟩
def d6S:Hints:=⟨[(58,[.sv 0 QL,.sv 1 QL,.sv 7 QI,.sv 8 QI,.sv 9 QI],[(.exit 0,[.sv 7 QI,.sv 8 QI])]),(60,[.sv 7 QI,.sv 8 QI],[(.exit 2,[.sv 7 QI,.sv 8 QI])])],[(255,[(.normal,[.sv 10 QI])])],[(5,[.v,.v,.v,.v,.v,.v,.v,.v,.v,.v,.v,.x,.x]),(6,[.v,.v,.v,.v,.v,.v,.v,.v,.v,.v,.v,.v,.v,.v,.v,.v,.v,.v,.v,.v,.v,.v,.x,.x])]⟩
def a3b(s:(Int×Int×Z73)):Option ((Int×Int×Z73) ⊕ Z73):= cond (decide (s.2.2.2.1≥s.2.1)) (cond ((decide (0≤s.2.2.2.1))&&(decide (s.2.2.2.1<(s.2.2.2.2.1.length:Int)))) (cond ((decide (0≤(wrap .i64 (s.2.2.2.1-1))))&&(decide ((wrap .i64 (s.2.2.2.1-1))<(s.2.2.2.2.2.1.length:Int)))) ((a2z (wrap .i64 ((a04 s.2.2.2.2.1 (a00 s.2.2.2.1) 0)-(A0k .i64 (wrap .i64 (s.2.2.1*(a04 s.2.2.2.2.2.1 (a00 (wrap .i64 (s.2.2.2.1-1))) 0))) 14)))).bind fun y6=> cond ((decide (0≤s.2.2.2.1))&&(decide (s.2.2.2.1<(s.2.2.2.2.1.length:Int)))) ((a2z (wrap .i64 ((a04 s.2.2.2.2.2.1 (a00 (wrap .i64 (s.2.2.2.1-1))) 0)-(A0k .i64 (wrap .i64 (s.2.2.1*(a04 s.2.2.2.2.1 (a00 s.2.2.2.1) 0))) 14)))).bind fun y7=> cond ((decide (0≤s.2.2.2.1))&&(decide (s.2.2.2.1<(s.2.2.2.2.2.1.length:Int)))) (some (.inl (s.1,s.2.1,s.2.2.1,wrap .i64 (s.2.2.2.1-1),a09 s.2.2.2.2.1 (a00 s.2.2.2.1) y6,a09 s.2.2.2.2.2.1 (a00 s.2.2.2.1) y7,s.2.2.2.2.2.2.1,()))) none) none) none) none) (some (.inr (s.1,s.2.1,s.2.2.2.2.1,s.2.2.2.2.2.1,s.2.2.2.2.2.2.1,())))
def a3c(s:Z73):Option (Z73 ⊕ ((List Int)×Unit)):= cond (decide (s.2.1≤s.1)) ((a4T (s.2.2.1,s.2.2.2.1,s.2.1)).bind fun y5=> cond (lim ((a01 s.2.2.2.2.1)+1)) ((y0o a3b (s.1,s.2.1,y5,wrap .i64 ((s.2.2.1.length:Int)-1),s.2.2.1,s.2.2.2.1,a03 s.2.2.2.2.1 [y5],())).bind fun w8=> some (.inl (w8.1,wrap .i64 (w8.2.1+1),w8.2.2.1,w8.2.2.2.1,w8.2.2.2.2.1,()))) none) (some (.inr (s.2.2.2.2.1,())))
def a6H(x:((List Int)×Int)):Option ((List Int)×Int):= (show Option Z17 from cond (decide (x.2<1)) (some (x.1,x.2,true,())) (cond (decide (x.2 > 32)) (some (x.1,x.2,true,())) (some (x.1,x.2,decide ((x.1.length:Int) > 4096),())))).bind fun z1=> cond z1.2.2.1 (some ([],1)) ((a2x z1.1).bind fun y2=> cond (!y2) (some ([],6)) ((a7E z1.1).bind fun y3=> (a1d y3).bind fun y4=> cond ((decide (0≤z1.2.1))&&(lim (a00 z1.2.1))) ((y0o a3c (z1.2.1,1,y3,y4,[],())).bind fun w9=> some (w9.1,0)) none))
def b3D:FSem:=⟨[.v QL,.v QI],[.o QI,.v QI],a6H⟩
def d6T:Hints:=⟨[(1018,[.sv 1 QI,.sv 9 QI,.own 6 6 QI,.own 7 7 QI,.own 8 8 QI],[(.exit 0,[.own 8 8 QI])]),(260686,[.sv 1 QI,.sv 9 QI,.sv 10 QI,.sv 11 QI,.own 6 6 QI,.own 7 7 QI,.own 8 8 QI],[(.exit 2,[.sv 1 QI,.sv 9 QI,.own 6 6 QI,.own 7 7 QI,.own 8 8 QI])])],[(6,[(.normal,[.sv 0 QL,.sv 1 QI,.sv 24 .bool])])],[(16,[.q,.v,.q,.q,.q,.v,.v,.q,.q,.v,.x])]⟩
def a2d(s:Z45):Option (Z45 ⊕ (((List Int)×Unit) ⊕ Z6)):= cond (decide (s.2.2.2.1<s.2.2.1)) ((m0h s.2.1 s.2.2.2.1).bind fun x2=> (show Option ((List Int)×Z34)from cond (decide (x2<(-16383))) (some (s.1,s.2.1,s.2.2.1,s.2.2.2.1,true,())) (some (s.1,s.2.1,s.2.2.1,s.2.2.2.1,decide (x2 > 16383),()))).bind fun z3=> cond z3.2.2.2.2.1 (some (.inr (Sum.inr (([],1,()))))) (some (.inl (z3.1,z3.2.1,z3.2.2.1,wrap .i64 (z3.2.2.2.1+1),())))) (some (.inr (Sum.inl (s.1,()))))
def a3W(s:((List Int)×(Int×(Int×((List Int)×Z78))))):Option (((List Int)×(Int×(Int×((List Int)×Z78)))) ⊕ Z59):= cond (decide (s.2.2.2.2.2.2.2.2.1<s.2.2.2.2.2.2.2.1)) ((m0h s.2.2.2.2.2.2.1 s.2.2.2.2.2.2.2.2.1).bind fun x8=> (m0h s.1 (wrap .i64 ((wrap .i64 (s.2.1-1))-s.2.2.2.2.2.2.2.2.1))).bind fun x9=> cond (lim ((a01 s.2.2.2.2.2.2.2.2.2.1)+1)) (some (.inl (s.1,s.2.1,s.2.2.1,s.2.2.2.1,s.2.2.2.2.1,s.2.2.2.2.2.1,s.2.2.2.2.2.2.1,s.2.2.2.2.2.2.2.1,wrap .i64 (s.2.2.2.2.2.2.2.2.1+1),a03 s.2.2.2.2.2.2.2.2.2.1 [wrap .i64 (x8-(A0k .i64 (wrap .i64 (s.2.2.1*x9)) 14))],()))) none) (some (.inr (s.2.2.1,s.2.2.2.1,s.2.2.2.2.1,s.2.2.2.2.2.1,s.2.2.2.2.2.2.2.2.2.1,())))
def a5S(s:Z45):Option (Z45 ⊕ ((List Int)×Unit)):= cond (decide (s.2.2.2.1<s.2.2.1)) ((m0h s.2.1 s.2.2.2.1).bind fun x7=> cond ((decide (0≤(wrap .i64 (s.2.2.2.1+1))))&&(lim (a00 (wrap .i64 (s.2.2.2.1+1))))) ((y0o a3W (s.1,s.2.2.2.1,x7,s.2.1,s.2.2.1,s.2.2.2.1,s.1,(s.1.length:Int),0,[],())).bind fun w10=> cond (lim ((a01 w10.2.2.2.2.1)+1)) (some (.inl (a03 w10.2.2.2.2.1 [w10.1],w10.2.1,w10.2.2.1,wrap .i64 (w10.2.2.2.1+1),()))) none) none) (some (.inr (s.1,())))
def a8t(x:(List Int)):Option ((List Int)×Int):= (show Option ((List Int)×(Bool×Unit))from cond (decide ((x.length:Int)<1)) (some (x,true,())) (some (x,decide ((x.length:Int) > 32),()))).bind fun z1=> cond z1.2.1 (some ([],1)) ((y0o a2d (z1.1,z1.1,(z1.1.length:Int),0,())).bind fun w4=> match w4 with |.inl a5=>((y0o a5S ([],a5.1,(a5.1.length:Int),0,())).bind fun w11=> some (w11.1,0)) |.inr b6=>some (b6.1,b6.2.1))
def b5i:FSem:=⟨[.v QL],[.v QL,.v QI],a8t⟩
def d6U:Hints:=⟨[(58,[.sv 0 QL,.sv 20 QL,.sv 21 QI,.sv 22 QI],[(.exit 0,[.sv 0 QL]),(.ret,[.sv 2 QL,.sv 3 QI])]),(250,[.sv 6 QL,.sv 34 QL,.sv 35 QI,.sv 36 QI],[(.exit 2,[.sv 6 QL])]),(256410,[.sv 6 QL,.sv 7 QI,.sv 8 QI,.sv 34 QL,.sv 35 QI,.sv 36 QI,.sv 44 QL,.sv 45 QI,.sv 46 QI,.own 9 9 QI],[(.exit 4,[.sv 8 QI,.sv 34 QL,.sv 35 QI,.sv 36 QI,.own 9 9 QI])])],[(6,[(.normal,[.sv 0 QL,.sv 19 .bool])]),(3737,[(.normal,[.sv 0 QL,.sv 20 QL,.sv 21 QI,.sv 22 QI,.sv 31 .bool])])],[]⟩
def a2e(s:Z61):Option (Z61 ⊕ (Z6 ⊕ Z15)):= cond (decide (s.2.2.2.2.1<s.2.2.2.1)) ((m0h s.2.2.1 s.2.2.2.2.1).bind fun x2=> (show Option ((List Int)×(Int×Z34))from cond (decide (x2<(-35184372088832))) (some (s.1,s.2.1,s.2.2.1,s.2.2.2.1,s.2.2.2.2.1,true,())) (some (s.1,s.2.1,s.2.2.1,s.2.2.2.1,s.2.2.2.2.1,decide (x2 > 35184372088832),()))).bind fun z3=> cond z3.2.2.2.2.2.1 (some (.inr (Sum.inr ((0,1,[],()))))) (some (.inl (z3.1,z3.2.1,z3.2.2.1,z3.2.2.2.1,wrap .i64 (z3.2.2.2.2.1+1),())))) (some (.inr (Sum.inl (s.1,s.2.1,()))))
def a2f(s:((List Int)×(Int×Z78))):Option (((List Int)×(Int×Z78)) ⊕ Z41):= cond (decide (s.2.2.2.2.2.2.1<s.2.2.2.2.2.1)) ((m0h s.2.2.2.2.1 s.2.2.2.2.2.2.1).bind fun x8=> cond (decide (s.2.2.1<0)) none ((a1S (A0k .i64 (wrap .i64 (x8+s.2.2.2.1)) s.2.2.1,s.2.1)).bind fun y9=> cond (!y9) (some (.inr (s.1,s.2.1,s.2.2.1,s.2.2.2.2.2.2.2.1,()))) (cond (lim ((a01 s.2.2.2.2.2.2.2.1)+1)) (some (.inl (s.1,s.2.1,s.2.2.1,s.2.2.2.1,s.2.2.2.2.1,s.2.2.2.2.2.1,wrap .i64 (s.2.2.2.2.2.2.1+1),a03 s.2.2.2.2.2.2.2.1 [A0k .i64 (wrap .i64 (x8+s.2.2.2.1)) s.2.2.1],()))) none))) (some (.inr (s.1,s.2.1,s.2.2.1,s.2.2.2.2.2.2.2.1,())))
def a2P(s:Z14):Option (Z14 ⊕ (Unit ⊕ Z15)):= cond (decide (s.2.2.1≤14)) ((show Option Z31 from cond (decide (s.2.2.1 > 0)) (cond (decide ((wrap .i64 (s.2.2.1-1))<0)) none (some (s.1,s.2.1,s.2.2.1,A0j .i64 1 (wrap .i64 (s.2.2.1-1)),()))) (some (s.1,s.2.1,s.2.2.1,0,()))).bind fun z7=> cond ((decide (0≤(z7.1.length:Int)))&&(lim (a00 (z7.1.length:Int)))) ((y0o a2f (z7.1,z7.2.1,z7.2.2.1,z7.2.2.2.1,z7.1,(z7.1.length:Int),0,[],())).bind fun w10=> cond ((w10.2.2.2.1.length:Int)==(w10.1.length:Int)) (some (.inr (Sum.inr ((wrap .i64 (14-w10.2.2.1),0,w10.2.2.2.1,()))))) (some (.inl (w10.1,w10.2.1,wrap .i64 (w10.2.2.1+1),())))) none) (some (.inr (Sum.inl ())))
def a8u(x:((List Int)×Int)):Option Z3:= (show Option Z17 from cond (decide ((x.1.length:Int)<1)) (some (x.1,x.2,true,())) (cond (decide ((x.1.length:Int) > 32)) (some (x.1,x.2,true,())) (cond (decide (x.2<2)) (some (x.1,x.2,true,())) (some (x.1,x.2,decide (x.2 > 16),()))))).bind fun z1=> cond z1.2.2.1 (some ([],0,1)) ((y0o a2e (z1.1,z1.2.1,z1.1,(z1.1.length:Int),0,())).bind fun w4=> match w4 with |.inl a5=>((y0o a2P (a5.1,a5.2.1,0,())).bind fun w11=> match w11 with |.inl a12=>some ([],0,6) |.inr b13=>some (b13.2.2.1,b13.1,b13.2.1)) |.inr b6=>some (b6.2.2.1,b6.1,b6.2.1))
def b5j:FSem:=⟨[.v QL,.v QI],[.o QI,.v QI,.v QI],a8u⟩
def d6V:Hints:=⟨[(58,[.sv 0 QL,.sv 1 QI,.sv 31 QL,.sv 32 QI,.sv 33 QI],[(.exit 0,[.sv 0 QL,.sv 1 QI]),(.ret,[.sv 5 QI,.sv 6 QI,.own 4 4 QI])]),(122,[.sv 0 QL,.sv 1 QI,.sv 9 QI],[(.exit 2,[]),(.ret,[.sv 5 QI,.sv 6 QI,.own 4 11 QI])]),(125242,[.sv 0 QL,.sv 1 QI,.sv 9 QI,.sv 10 QI,.sv 56 QL,.sv 57 QI,.sv 58 QI,.own 11 11 QI],[(.exit 4,[.sv 0 QL,.sv 1 QI,.sv 9 QI,.own 11 11 QI])])],[(6,[(.normal,[.sv 0 QL,.sv 1 QI,.sv 30 .bool])]),(3737,[(.normal,[.sv 0 QL,.sv 1 QI,.sv 31 QL,.sv 32 QI,.sv 33 QI,.sv 42 .bool])]),(3913,[(.normal,[.sv 0 QL,.sv 1 QI,.sv 9 QI,.sv 10 QI])])],[]⟩
def a3Q(x:Z3):Option Z3:= (a6H (x.1,x.2.1)).bind fun y1=> cond (y1.2 != 0) (some ([],0,y1.2)) ((a8t y1.1).bind fun y2=> cond (y2.2 != 0) (some ([],0,y2.2)) ((a8u (y2.1,x.2.2)).bind fun y3=> some (y3.1,y3.2.1,y3.2.2)))
def b2H:FSem:=⟨[.v QL,.v QI,.v QI],[.o QI,.v QI,.v QI],a3Q⟩
def d6W:Hints:=⟨[],[],[]⟩
def c1g(s:((List Int)×Z67)):Option (((List Int)×Z67) ⊕ ((List Int)×Z54)):= cond (decide (s.2.2.2.2.2.2.2.1<(s.1.length:Int))) ((m0h s.1 s.2.2.2.2.2.2.2.1).bind fun x3=> (m0h s.1 (wrap .i64 (s.2.2.2.2.2.2.2.1-s.2.2.2.2.2.1))).bind fun x4=> some (.inl (s.1,s.2.1,s.2.2.1,s.2.2.2.1,s.2.2.2.2.1,s.2.2.2.2.2.1,wrap .i64 (s.2.2.2.2.2.2.1+(v0n (wrap .i64 (x3-x4)) (wrap .i64 (0-(wrap .i64 (x3-x4)))))),wrap .i64 (s.2.2.2.2.2.2.2.1+1),()))) (some (.inr (s.1,s.2.1,s.2.2.1,s.2.2.2.1,s.2.2.2.2.1,s.2.2.2.2.2.1,s.2.2.2.2.2.2.1,())))
def c1h(s:((List Int)×Z36)):Option (((List Int)×Z36) ⊕ (Int×Unit)):= cond (decide (s.2.2.2.2.2.1≤s.2.2.1)) ((y0o c1g (s.1,s.2.1,s.2.2.1,s.2.2.2.1,s.2.2.2.2.1,s.2.2.2.2.2.1,0,s.2.2.1,())).bind fun w5=> (show Option ((List Int)×(Int×Int×Int×Z22))from cond (w5.2.2.2.2.2.1==w5.2.1) (some (w5.1,w5.2.1,w5.2.2.1,w5.2.2.2.1,w5.2.2.2.2.1,w5.2.2.2.2.2.1,w5.2.2.2.2.2.2.1,true,())) (some (w5.1,w5.2.1,w5.2.2.1,w5.2.2.2.1,w5.2.2.2.2.1,w5.2.2.2.2.2.1,w5.2.2.2.2.2.2.1,decide (w5.2.2.2.2.2.2.1<w5.2.2.2.2.1),()))).bind fun z6=> cond z6.2.2.2.2.2.2.2.1 (some (.inl (z6.1,z6.2.1,z6.2.2.1,z6.2.2.2.2.2.1,z6.2.2.2.2.2.2.1,wrap .i64 (z6.2.2.2.2.2.1+1),()))) (some (.inl (z6.1,z6.2.1,z6.2.2.1,z6.2.2.2.1,z6.2.2.2.2.1,wrap .i64 (z6.2.2.2.2.2.1+1),())))) (some (.inr (s.2.2.2.1,())))
def b1T(x:Z3):Option (Int×Int):= (show Option Z34 from cond (decide (x.2.1<2)) (some (x.1,x.2.1,x.2.2,true,())) (cond (decide (x.2.1 > x.2.2)) (some (x.1,x.2.1,x.2.2,true,())) (cond (decide (x.2.2 > 1024)) (some (x.1,x.2.1,x.2.2,true,())) (some (x.1,x.2.1,x.2.2,decide ((x.1.length:Int) > 4096),()))))).bind fun z1=> cond z1.2.2.2.1 (some (0,1)) (cond (decide ((z1.1.length:Int)≤z1.2.2.1)) (some (0,7)) ((a4r z1.1).bind fun y2=> cond (!y2) (some (0,6)) ((y0o c1h (z1.1,z1.2.1,z1.2.2.1,0,0,z1.2.1,())).bind fun w7=> some (w7.1,0))))
def b8a:FSem:=⟨[.v QL,.v QI,.v QI],[.v QI,.v QI],b1T⟩
def d6X:Hints:=⟨[(506,[.sv 0 QL,.sv 1 QI,.sv 2 QI,.sv 8 QI,.sv 9 QI,.sv 10 QI],[(.exit 0,[.sv 8 QI])]),(129610,[.sv 0 QL,.sv 1 QI,.sv 2 QI,.sv 8 QI,.sv 9 QI,.sv 10 QI,.sv 11 QI,.sv 12 QI],[(.exit 2,[.sv 0 QL,.sv 1 QI,.sv 2 QI,.sv 8 QI,.sv 9 QI,.sv 10 QI,.sv 11 QI])])],[(6,[(.normal,[.sv 0 QL,.sv 1 QI,.sv 2 QI,.sv 29 .bool])]),(32403,[(.normal,[.sv 0 QL,.sv 1 QI,.sv 2 QI,.sv 8 QI,.sv 9 QI,.sv 10 QI,.sv 11 QI,.sv 74 .bool])])],[(15,[.v,.v,.v,.v,.v,.v,.v,.v,.v,.v,.x,.x])]⟩
def a6g(s:((List Int)×Z86)):Option (((List Int)×Z86) ⊕ Z48):= cond (decide (s.2.2.2.2.1<s.2.2.2.1)) ((m0h s.2.2.1 s.2.2.2.2.1).bind fun x3=> (a4s (s.1,s.2.2.2.2.1,s.2.1,s.2.2.2.2.2.2.1)).bind fun y4=> (a7m (wrap .i64 (x3-y4))).bind fun y5=> cond (!y5) (some (.inr (Sum.inr ((6,[],()))))) (cond (lim ((a01 s.2.2.2.2.2.1)+1)) (some (.inl (s.1,s.2.1,s.2.2.1,s.2.2.2.1,wrap .i64 (s.2.2.2.2.1+1),a03 s.2.2.2.2.2.1 [wrap .i64 (x3-y4)],s.2.2.2.2.2.2.1,()))) none)) (some (.inr (Sum.inl (s.2.2.2.2.2.1,()))))
def a9d(x:((List Int)×(Int×(List Int)))):Option ((List Int)×Int):= (a8h (x.2.1,x.2.2)).bind fun y1=> cond (!y1) (some ([],1)) ((a4r x.1).bind fun y2=> cond (!y2) (some ([],6)) (cond ((decide (0≤(x.1.length:Int)))&&(lim (a00 (x.1.length:Int)))) ((y0o a6g (x.1,x.2.1,x.1,(x.1.length:Int),0,[],x.2.2,())).bind fun w6=> match w6 with |.inl a7=>some (a7.1,0) |.inr b8=>some (b8.2.1,b8.1)) none))
def a9e:FSem:=⟨[.v QL,.v QI,.v (.arr 3 QI)],[.o QI,.v QI],a9d⟩
def d6Y:Hints:=⟨[(250,[.sv 0 QL,.sv 1 QI,.sv 22 QL,.sv 23 QI,.sv 24 QI,.own 8 8 QI,.vp 5 (.arr 3 QI)],[(.exit 0,[.own 8 8 QI]),(.ret,[.sv 7 QI,.own 6 6 QI])])],[],[]⟩
def d2d:Hints:=⟨[],[],[]⟩
def c3b(x:Unit):Option (List (List Int)):=A0f (a7K [] [] [0] []) d2d Tryz.f305 [] [.o (.arr 3 (.int .i64))] x
def b3E:FSem:=⟨[],[.o (.arr 3 QI)],c3b⟩
def d2e:Hints:=⟨[(122,[.sv 0 QL,.sv 1 QI,.sv 7 QI,.sv 8 .bool,.sv 25 QI,.sv 26 QI,.own 24 1024 (.arr 3 QI),.box 4 (.arr 3 QI),.box 6 (.arr 3 QI),.ptr 4 4 [],.ptr 6 6 []],[(.exit 0,[.sv 8 .bool,.box 4 (.arr 3 QI),.box 6 (.arr 3 QI),.ptr 4 4 [],.ptr 6 6 []])]),(501370,[.sv 0 QL,.sv 1 QI,.sv 7 QI,.sv 8 .bool,.sv 13 QI,.sv 25 QI,.sv 26 QI,.sv 40 QI,.sv 41 QI,.own 24 1024 (.arr 3 QI),.own 39 11 QI,.box 4 (.arr 3 QI),.box 6 (.arr 3 QI),.box 10 (.arr 3 QI),.ptr 4 4 [],.ptr 6 6 [],.ptr 10 10 []],[(.exit 2,[.sv 0 QL,.sv 1 QI,.sv 7 QI,.sv 8 .bool,.sv 13 QI,.sv 25 QI,.sv 26 QI,.own 24 1024 (.arr 3 QI),.box 4 (.arr 3 QI),.box 6 (.arr 3 QI),.box 10 (.arr 3 QI),.ptr 4 4 [],.ptr 6 6 [],.ptr 10 10 []])])],[(6,[(.normal,[.sv 0 QL,.sv 1 QI,.sv 21 .bool,.box 4 (.arr 3 QI),.ptr 4 4 []])]),(125343,[(.normal,[.sv 0 QL,.sv 1 QI,.sv 7 QI,.sv 8 .bool,.sv 13 QI,.sv 25 QI,.sv 26 QI,.sv 58 .bool,.own 24 1024 (.arr 3 QI),.box 4 (.arr 3 QI),.box 6 (.arr 3 QI),.box 10 (.arr 3 QI),.ptr 4 4 [],.ptr 6 6 [],.ptr 10 10 []])])],[]⟩
def b8b(x:((List Int)×Int)):Option ((List Int)×Int):=A0f (a7K [(250,a9e),(305,b3E)] [] [0,1,5,7,8,11,12,13,15] []) d2e Tryz.f249 [.v (.list false (.int .i64)),.v (.int .i64)] [.v (.arr 3 (.int .i64)),.v (.int .i64)] x
def b8c:FSem:=⟨[.v QL,.v QI],[.v (.arr 3 QI),.v QI],b8b⟩
def a3s(x:(List Int)):Option (a1M×Bool):= (b1T (x,16,256)).bind fun y1=> cond (y1.2 != 0) (some ((0,0,0,0,0,[],a02 3 0,[],[],(0,[],()),[],()),false)) ((b8b (x,y1.1)).bind fun y2=> cond (y2.2 != 0) (some ((0,0,0,0,0,[],a02 3 0,[],[],(0,[],()),[],()),false)) ((a9d (x,y1.1,y2.1)).bind fun y3=> cond (y3.2 != 0) (some ((0,0,0,0,0,[],a02 3 0,[],[],(0,[],()),[],()),false)) ((a3Q (y3.1,4,12)).bind fun y4=> cond (y4.2.2 != 0) (some ((0,0,0,0,0,[],a02 3 0,[],[],(0,[],()),[],()),false)) (some ((4,0,0,y4.2.1,y1.1,y4.1,y2.1,[],[],(0,[],()),[],()),true)))))
def b7d:FSem:=⟨[.v QL],[.v Q42,.v .bool],a3s⟩
def d6Z:Hints:=⟨[],[],[]⟩
def a0P(x:(Int×(Int×((List Int)×b2w)))):Option ((List Int)×b2w):= (a3Q (x.2.2.1,x.1,x.2.1)).bind fun y1=> cond (y1.2.2==0) (cond (lim ((a01 x.2.2.2)+1)) (some (x.2.2.1,a03 x.2.2.2 ([(3,0,0,y1.2.1,0,y1.1,a02 3 0,[],[],(0,[],()),[],())]:List a1M))) none) (some (x.2.2.1,x.2.2.2))
def b2m:FSem:=⟨[.v QI,.v QI,.r false (.b QL),.r false (.b (.list true Q42))],[],a0P⟩
def d7a:Hints:=⟨[],[],[]⟩
def a2p(s:(Int×c5C)):Option ((Int×c5C) ⊕ c5C):= cond (decide (s.1<5)) (cond (lim ((a01 s.2.1)+1)) (some (.inl (wrap .i64 (s.1+1),a03 s.2.1 ([(2,0,s.1,0,0,[],a02 3 0,[],[],(0,[],()),[],())]:List a1M),s.2.2.1,()))) none) (some (.inr (s.2.1,s.2.2.1,())))
def a6I(x:((List Int)×Int)):Option b2w:= (a6f x.1).bind fun y1=> (show Option (Int×((List Int)×c8q))from cond (decide (x.2≥1)) ((a0P (4,12,x.1,([(0,0,0,0,0,[],a02 3 0,[],[],(0,[],()),[],()),(1,0,0,0,0,[],a02 3 0,[],[],(0,[],()),[],()),(2,0,y1,0,0,[],a02 3 0,[],[],(0,[],()),[],())]:List a1M))).bind fun y2=> (a0P (8,12,y2.1,y2.2)).bind fun y3=> some (x.2,y3.1,y3.2,())) (some (x.2,x.1,([(0,0,0,0,0,[],a02 3 0,[],[],(0,[],()),[],()),(1,0,0,0,0,[],a02 3 0,[],[],(0,[],()),[],()),(2,0,y1,0,0,[],a02 3 0,[],[],(0,[],()),[],())]:List a1M),()))).bind fun z4=> (show Option (Int×c5C)from cond (decide (z4.1≥2)) (cond (lim ((a01 z4.2.2.1)+1)) (cond (lim ((a01 (a03 z4.2.2.1 ([(5,0,0,0,0,[],a02 3 0,([(16,4,())]:List (Int×Int×Unit)),[],(0,[],()),[],())]:List a1M)))+1)) ((a3s z4.2.1).bind fun y5=> cond y5.2 (cond (lim ((a01 (a03 (a03 z4.2.2.1 ([(5,0,0,0,0,[],a02 3 0,([(16,4,())]:List (Int×Int×Unit)),[],(0,[],()),[],())]:List a1M)) ([(5,0,0,0,0,[],a02 3 0,([(32,3,()),(16,5,())]:List (Int×Int×Unit)),[],(0,[],()),[],())]:List a1M)))+1)) (some (z4.1,a03 (a03 (a03 z4.2.2.1 ([(5,0,0,0,0,[],a02 3 0,([(16,4,())]:List (Int×Int×Unit)),[],(0,[],()),[],())]:List a1M)) ([(5,0,0,0,0,[],a02 3 0,([(32,3,()),(16,5,())]:List (Int×Int×Unit)),[],(0,[],()),[],())]:List a1M)) ([y5.1]:List a1M),z4.2.1,())) none) (some (z4.1,a03 (a03 z4.2.2.1 ([(5,0,0,0,0,[],a02 3 0,([(16,4,())]:List (Int×Int×Unit)),[],(0,[],()),[],())]:List a1M)) ([(5,0,0,0,0,[],a02 3 0,([(32,3,()),(16,5,())]:List (Int×Int×Unit)),[],(0,[],()),[],())]:List a1M),z4.2.1,()))) none) none) (some (z4.1,z4.2.2.1,z4.2.1,()))).bind fun z6=> (show Option c8q from cond (decide (z6.1≥3)) ((y0o a2p (0,z6.2.1,z6.2.2.1,())).bind fun w7=> (a0P (1,12,w7.2.1,w7.1)).bind fun y8=> (a0P (2,12,y8.1,y8.2)).bind fun y9=> (a0P (12,14,y9.1,y9.2)).bind fun y10=> (a0P (16,14,y10.1,y10.2)).bind fun y11=> some (y11.2,())) (some (z6.2.1,()))).bind fun z12=> some z12.1
def b3F:FSem:=⟨[.v QL,.v QI],[.v (.list false Q42)],a6I⟩
def d7b:Hints:=⟨[(4050,[.sv 50 QI,.box 5 (.list true Q42),.box 2 QL,.ptr 5 5 [],.clo 6 193 [2,5]],[(.exit 0,[.box 5 (.list true Q42),.box 2 QL,.ptr 5 5 [],.clo 6 193 [2,5]])])],[(15,[(.normal,[.sv 1 QI,.box 2 QL,.box 5 (.list true Q42),.ptr 2 2 [],.ptr 5 5 [],.clo 6 193 [2,5]])]),(31,[(.normal,[.sv 1 QI,.box 5 (.list true Q42),.box 2 QL,.ptr 5 5 [],.clo 6 193 [2,5]])]),(63,[(.normal,[.box 5 (.list true Q42),.ptr 5 5 []])])],[]⟩
def a4H(s:((List Int)×Z41)):Option (((List Int)×Z41) ⊕ Z48):= cond (decide (s.2.2.2.1<(s.1.length:Int))) ((m0h s.1 s.2.2.2.1).bind fun x4=> cond ((decide (0≤s.2.2.2.1))&&(decide (s.2.2.2.1≤(s.1.length:Int)))) ((a4B (a06 (a00 s.2.2.2.1) s.1,s.2.1,s.2.2.1)).bind fun y5=> (a5d (wrap .i64 (x4-y5))).bind fun y6=> cond (!y6) (some (.inr (Sum.inr ((6,[],()))))) (cond (lim ((a01 s.2.2.2.2.1)+1)) (some (.inl (s.1,s.2.1,s.2.2.1,wrap .i64 (s.2.2.2.1+1),a03 s.2.2.2.2.1 [wrap .i64 (x4-y5)],()))) none)) none) (some (.inr (Sum.inl (s.2.2.2.2.1,()))))
def a7b(x:Z10):Option ((List Int)×Int):= (show Option Z49 from(a4z (x.2.1,x.2.2)).bind fun y1=> cond (!y1) (some (x.1,x.2.1,x.2.2,true,())) (some (x.1,x.2.1,x.2.2,decide ((x.1.length:Int)<(x.2.1.length:Int)),()))).bind fun z2=> cond z2.2.2.2.1 (some ([],1)) ((a2x z2.1).bind fun y3=> cond (!y3) (some ([],6)) (cond ((decide (0≤(wrap .i64 ((z2.1.length:Int)-(z2.2.1.length:Int)))))&&(lim (a00 (wrap .i64 ((z2.1.length:Int)-(z2.2.1.length:Int)))))) ((y0o a4H (z2.1,z2.2.1,z2.2.2.1,(z2.2.1.length:Int),[],())).bind fun w7=> match w7 with |.inl a8=>some (a8.1,0) |.inr b9=>some (b9.2.1,b9.1)) none))
def b6C:FSem:=⟨[.v QL,.v QL,.v QI],[.o QI,.v QI],a7b⟩
def d7c:Hints:=⟨[(250,[.sv 0 QL,.sv 1 QL,.sv 2 QI,.sv 9 QI,.own 8 8 QI],[(.exit 0,[.own 8 8 QI]),(.ret,[.sv 7 QI,.own 6 6 QI])])],[(6,[(.normal,[.sv 0 QL,.sv 1 QL,.sv 2 QI,.sv 21 .bool])])],[(9,[.v,.v,.v,.v,.v,.v,.v,.v,.v,.v,.x,.x])]⟩
def a5t(s:(Z4×Int×Int×Int×Z87)):Option ((Z4×Int×Int×Int×Z87) ⊕ ((Z4×Z15) ⊕ Z5)):= cond (decide (s.2.2.2.2.1<s.2.2.2.1)) (cond ((decide (0≤s.2.2.2.2.1))&&(decide (s.2.2.2.2.1<(s.2.2.2.2.2.1.length:Int)))) ((a1V s.2.2.2.2.2.2.1).bind fun y6=> (a6a (wrap .i64 ((a04 s.2.2.2.2.2.1 (a00 s.2.2.2.2.1) 0)-y6.1))).bind fun y7=> cond (!y7) (some (.inr (Sum.inr ((6,[],()))))) ((a3a (y6.2,a04 s.2.2.2.2.2.1 (a00 s.2.2.2.2.1) 0)).bind fun y8=> cond ((decide (0≤s.2.2.2.2.1))&&(decide (s.2.2.2.2.1<(s.2.2.2.2.2.1.length:Int)))) (some (.inl (s.1,s.2.1,s.2.2.1,s.2.2.2.1,wrap .i64 (s.2.2.2.2.1+1),a09 s.2.2.2.2.2.1 (a00 s.2.2.2.2.1) (wrap .i64 ((a04 s.2.2.2.2.2.1 (a00 s.2.2.2.2.1) 0)-y6.1)),y8,()))) none)) none) (some (.inr (Sum.inl (s.1,s.2.1,s.2.2.1,s.2.2.2.2.2.1,()))))
def a5u(s:(Z4×Z15)):Option ((Z4×Z15) ⊕ Z48):= cond (decide (s.2.2.1<s.2.1)) ((m0h s.1 s.2.2.1).bind fun x4=> (a8W x4).bind fun y5=> cond (y5.2 != 0) (some (.inr (Sum.inr ((y5.2,[],()))))) ((y0o a5t (s.1,s.2.1,s.2.2.1,(s.2.2.2.1.length:Int),0,s.2.2.2.1,y5.1,())).bind fun w9=> match w9 with |.inl a10=>some (.inl (a10.1,a10.2.1,wrap .i64 (a10.2.2.1+1),a10.2.2.2.1,())) |.inr b11=>some (.inr (Sum.inr ((b11.1,b11.2.1,())))))) (some (.inr (Sum.inl (s.2.2.2.1,()))))
def b0I(x:((List Int)×Z4)):Option ((List Int)×Int):= (a7k x.2).bind fun y1=> cond (!y1) (some ([],1)) ((a5l x.1).bind fun y2=> cond (!y2) (some ([],6)) ((a1d x.1).bind fun y3=> (y0o a5u (x.2,(x.2.length:Int),0,y3,())).bind fun w12=> match w12 with |.inl a13=>some (a13.1,0) |.inr b14=>some (b14.2.1,b14.1)))
def b7e:FSem:=⟨[.v QL,.v (.list false Q3)],[.o QI,.v QI],b0I⟩
def d7d:Hints:=⟨[(250,[.sv 22 (.list false Q3),.sv 23 QI,.sv 24 QI,.own 6 6 QI],[(.exit 0,[.own 6 6 QI]),(.ret,[.sv 5 QI,.own 4 4 QI])]),(256414,[.sv 22 (.list false Q3),.sv 23 QI,.sv 24 QI,.sv 37 QI,.sv 38 QI,.own 6 6 QI,.box 1030 Q17,.ptr 9 1030 [],.ref 36 6 []],[(.exit 2,[.sv 22 (.list false Q3),.sv 23 QI,.sv 24 QI,.own 6 6 QI]),(.ret,[.sv 5 QI,.own 4 4 QI])])],[],[]⟩
def b1U(x:(a1M×(List Int))):Option (Int×a1M):= (show Option ((List Int)×((List Int)×(Int×b5K)))from cond (x.1.1==2) ((a4F (x.2,x.1.2.2.1)).bind fun y1=> some (x.2,y1.1,y1.2,x.1,())) (cond (x.1.1==3) ((a7b (x.2,x.1.2.2.2.2.2.1,x.1.2.2.2.1)).bind fun y2=> some (x.2,y2.1,y2.2,x.1,())) (cond (x.1.1==4) ((a9d (x.2,x.1.2.2.2.2.1,x.1.2.2.2.2.2.2.1)).bind fun y3=> cond (y3.2==0) ((a7b (y3.1,x.1.2.2.2.2.2.1,x.1.2.2.2.1)).bind fun y4=> some (y3.1,y4.1,y4.2,x.1,())) (some (y3.1,[],y3.2,x.1,()))) (cond (x.1.1==5) ((b0I (x.2,x.1.2.2.2.2.2.2.2.1)).bind fun y5=> some (x.2,y5.1,y5.2,x.1,())) (some (x.2,[],0,x.1,())))))).bind fun z6=> cond (z6.2.2.1 != 0) (some (z6.2.2.1,z6.2.2.2.1)) ((a4A (z6.2.2.2.1,(z6.1.length:Int))).bind fun y7=> cond ((decide (0≤y7))&&(decide (y7≤(z6.1.length:Int)))) ((a1d (a06 (a00 y7) z6.1)).bind fun y8=> some (0,z6.2.2.2.1.1,z6.2.2.2.1.2.1,z6.2.2.2.1.2.2.1,z6.2.2.2.1.2.2.2.1,z6.2.2.2.1.2.2.2.2.1,z6.2.2.2.1.2.2.2.2.2.1,z6.2.2.2.1.2.2.2.2.2.2.1,z6.2.2.2.1.2.2.2.2.2.2.2.1,y8,z6.2.2.2.1.2.2.2.2.2.2.2.2.2.1,z6.2.1,z6.2.2.2.1.2.2.2.2.2.2.2.2.2.2.2)) none)
def b8d:FSem:=⟨[.r false (.b Q42),.v QL],[.v QI],b1U⟩
def d7e:Hints:=⟨[],[(15,[(.normal,[.sv 1 QL,.sv 5 QL,.sv 6 QI,.box pinned Q42,.ptr 0 pinned []])])],[(7,[.v,.p,.p,.q,.q,.p,.p,.q,.q,.x,.x,.q,.q,.q,.x]),(9,[.v,.p,.p,.q,.q,.p,.p,.q,.q,.x,.x,.q,.q,.q,.x]),(11,[.q,.p,.p,.q,.q,.p,.p,.q,.q,.x,.x,.q,.q,.q,.x])]⟩
def a8v(s:Z31):Option (Z31 ⊕ (Int×Unit)):= cond (decide (s.2.2.2.1≤25)) ((a3i (s.2.2.2.1,s.1)).bind fun y2=> cond (decide (y2<s.2.2.1)) (some (.inl (s.1,s.2.2.2.1,y2,wrap .i64 (s.2.2.2.1+1),()))) (some (.inl (s.1,s.2.1,s.2.2.1,wrap .i64 (s.2.2.2.1+1),())))) (some (.inr (s.2.1,())))
def b1V(x:(List Int)):Option Int:= (a3i (0,x)).bind fun y1=> (y0o a8v (x,0,y1,1,())).bind fun w3=> some w3.1
def b8e:FSem:=⟨[.v QL],[.v QI],b1V⟩
def d7f:Hints:=⟨[(58,[.sv 0 QL,.sv 3 QI,.sv 4 QI,.sv 5 QI],[(.exit 0,[.sv 3 QI])])],[],[]⟩
def a8w(x:(List Int)):Option Int:= (b1V x).bind fun y1=> (a5H x).bind fun y2=> (a3i (y1,x)).bind fun y3=> cond (decide (y2<y3)) (some 31) (some y1)
def b5k:FSem:=⟨[.v QL],[.v QI],a8w⟩
def d7g:Hints:=⟨[],[],[]⟩
def a7F(s:(Int×(Int×(Int×((List Int)×(Int×(Int×((List Int)×(Int×(Int×((List Int)×c5z))))))))))):Option ((Int×(Int×(Int×((List Int)×(Int×(Int×((List Int)×(Int×(Int×((List Int)×c5z)))))))))) ⊕ (Int×(Int×(Int×((List Int)×(Int×Int×c5z)))))):= cond (decide (s.2.2.2.2.2.2.2.2.1<s.2.2.2.2.2.2.2.1)) (cond ((decide (0≤s.2.2.2.2.2.2.2.2.1))&&(decide (s.2.2.2.2.2.2.2.2.1<(s.2.2.2.2.2.2.2.2.2.1.length:Int)))) (cond ((decide (0≤(a04 s.2.2.2.2.2.2.2.2.2.1 (a00 s.2.2.2.2.2.2.2.2.1) 0)))&&(decide ((a04 s.2.2.2.2.2.2.2.2.2.1 (a00 s.2.2.2.2.2.2.2.2.1) 0)≤(s.2.2.2.2.2.2.1.length:Int)))) ((a8w (a06 (a00 (a04 s.2.2.2.2.2.2.2.2.2.1 (a00 s.2.2.2.2.2.2.2.2.1) 0)) s.2.2.2.2.2.2.1)).bind fun y3=> cond (lim ((a01 s.2.2.2.2.2.2.2.2.2.2.2.2.1.2.1)+1)) (cond ((decide (0≤(a04 s.2.2.2.2.2.2.2.2.2.1 (a00 s.2.2.2.2.2.2.2.2.1) 0)))&&(decide ((a04 s.2.2.2.2.2.2.2.2.2.1 (a00 s.2.2.2.2.2.2.2.2.1) 0)≤(s.2.2.2.2.2.2.1.length:Int)))) (some (.inl (s.1,s.2.1,s.2.2.1,s.2.2.2.1,s.2.2.2.2.1,s.2.2.2.2.2.1,a19 (a00 (a04 s.2.2.2.2.2.2.2.2.2.1 (a00 s.2.2.2.2.2.2.2.2.1) 0)) (a06 (a01 s.2.2.2.2.2.2.1) s.2.2.2.2.2.2.1),s.2.2.2.2.2.2.2.1,wrap .i64 (s.2.2.2.2.2.2.2.2.1+1),s.2.2.2.2.2.2.2.2.2.1,s.2.2.2.2.2.2.2.2.2.2.1,s.2.2.2.2.2.2.2.2.2.2.2.1,(s.2.2.2.2.2.2.2.2.2.2.2.2.1.1,a03 s.2.2.2.2.2.2.2.2.2.2.2.2.1.2.1 [y3],s.2.2.2.2.2.2.2.2.2.2.2.2.1.2.2),()))) none) none) none) none) (some (.inr (s.1,s.2.1,s.2.2.1,s.2.2.2.1,s.2.2.2.2.1,s.2.2.2.2.2.1,s.2.2.2.2.2.2.2.2.2.2.1,s.2.2.2.2.2.2.2.2.2.2.2.1,s.2.2.2.2.2.2.2.2.2.2.2.2.1,())))
def a3E(s:(Int×(Int×(Int×((List Int)×(Int×Int×Z84)))))):Option ((Int×(Int×(Int×((List Int)×(Int×Int×Z84))))) ⊕ Z84):= cond (decide (s.2.2.2.2.2.1≤(v0o (v0n s.2.2.1 0) 8))) ((a2R (s.2.2.2.2.2.1,s.1,s.2.1)).bind fun y2=> cond ((y2.length:Int)==0) (some (.inl (s.1,s.2.1,s.2.2.1,s.2.2.2.1,s.2.2.2.2.1,wrap .i64 (s.2.2.2.2.2.1+1),s.2.2.2.2.2.2.1,s.2.2.2.2.2.2.2.1,()))) ((y0o a7F (s.1,s.2.1,s.2.2.1,s.2.2.2.1,s.2.2.2.2.1,s.2.2.2.2.2.1,s.2.2.2.1,(y2.length:Int),0,y2,s.2.2.2.2.2.2.1,s.2.2.2.2.2.2.2.1,(s.2.2.2.2.2.1,[],()),())).bind fun w4=> (a4D (w4.2.2.2.2.2.2.2.2.1,w4.1,w4.2.1,w4.2.2.2.1)).bind fun y5=> (show Option (Int×(Int×(Int×((List Int)×(Int×Int×Int×Bool×c5z)))))from cond (w4.2.2.2.2.1==0) (some (w4.1,w4.2.1,w4.2.2.1,w4.2.2.2.1,w4.2.2.2.2.1,w4.2.2.2.2.2.1,y5,true,w4.2.2.2.2.2.2.1,w4.2.2.2.2.2.2.2.1,w4.2.2.2.2.2.2.2.2.1,())) (some (w4.1,w4.2.1,w4.2.2.1,w4.2.2.2.1,w4.2.2.2.2.1,w4.2.2.2.2.2.1,y5,decide (y5<w4.2.2.2.2.1),w4.2.2.2.2.2.2.1,w4.2.2.2.2.2.2.2.1,w4.2.2.2.2.2.2.2.2.1,()))).bind fun z6=> cond z6.2.2.2.2.2.2.2.1 (some (.inl (z6.1,z6.2.1,z6.2.2.1,z6.2.2.2.1,z6.2.2.2.2.2.2.1,wrap .i64 (z6.2.2.2.2.2.1+1),z6.2.2.2.2.2.2.2.2.1,z6.2.2.2.2.2.2.2.2.2.2.1,()))) (some (.inl (z6.1,z6.2.1,z6.2.2.1,z6.2.2.2.1,z6.2.2.2.2.1,wrap .i64 (z6.2.2.2.2.2.1+1),z6.2.2.2.2.2.2.2.2.1,z6.2.2.2.2.2.2.2.2.2.1,()))))) (some (.inr (s.2.2.2.2.2.2.1,s.2.2.2.2.2.2.2.1,())))
def b0J(x:(Int×Z2)):Option (Z5×Int):= (a6W (x.1,x.2.1,x.2.2.2)).bind fun y1=> cond (!y1) (some ((0,[],()),1)) ((y0o a3E (x.1,x.2.1,x.2.2.1,x.2.2.2,0,0,(0,[],()),(0,[],()),())).bind fun w7=> some (w7.2.1,0))
def b7f:FSem:=⟨[.v QI,.v QI,.v QI,.v QL],[.v Q11,.v QI],b0J⟩
def d7h:Hints:=⟨[(250,[.sv 0 QI,.sv 1 QI,.sv 2 QI,.sv 3 QL,.sv 11 QI,.sv 12 QI,.box 8 Q11,.box 10 Q11,.ptr 8 8 [],.ptr 10 10 []],[(.exit 0,[.box 8 Q11,.box 10 Q11,.ptr 8 8 [],.ptr 10 10 []])]),(512634,[.sv 0 QI,.sv 1 QI,.sv 2 QI,.sv 3 QL,.sv 11 QI,.sv 12 QI,.sv 15 QL,.sv 43 QI,.sv 44 QI,.own 42 13 QI,.box 8 Q11,.box 10 Q11,.box 14 Q10,.ptr 8 8 [],.ptr 10 10 [],.ptr 14 14 []],[(.exit 2,[.sv 0 QI,.sv 1 QI,.sv 2 QI,.sv 3 QL,.sv 11 QI,.sv 12 QI,.box 8 Q11,.box 10 Q11,.box 14 Q10,.ptr 8 8 [],.ptr 10 10 [],.ptr 14 14 []])])],[(256319,[(.normal,[.sv 0 QI,.sv 1 QI,.sv 2 QI,.sv 3 QL,.sv 11 QI,.sv 12 QI,.sv 18 QI,.sv 72 .bool,.box 8 Q11,.box 10 Q11,.box 14 Q11,.ptr 8 8 [],.ptr 10 10 [],.ptr 14 14 []])])],[(15,[.q,.q,.v,.v,.v,.v,.q,.x,.x,.x])]⟩
def a5h(s:((List Int)×((List Int)×c5F))):Option (((List Int)×((List Int)×c5F)) ⊕ (((List Int)×b2x) ⊕ (Int×b5K))):= cond (decide (s.2.2.2.1<s.2.2.1)) ((m0h s.2.1 s.2.2.2.1).bind fun x5=> (m0h s.1 0).bind fun x6=> cond (x5 != x6) (some (.inr (Sum.inr ((7,(0,0,0,0,0,[],a02 3 0,[],[],(0,[],()),[],()),()))))) (some (.inl (s.1,s.2.1,s.2.2.1,wrap .i64 (s.2.2.2.1+1),s.2.2.2.2.1,s.2.2.2.2.2.1,())))) (some (.inr (Sum.inl (s.1,s.2.2.2.2.1,s.2.2.2.2.2.1,()))))
def b2W(x:(Int×((List Int)×a1M))):Option b4H:= (show Option (Int×((List Int)×(Int×Bool×b2x)))from cond (decide ((x.2.1.length:Int)<1)) (some (x.1,x.2.1,(x.2.1.length:Int),true,(0,0,0,0,0,[],a02 3 0,[],[],(0,[],()),[],()),x.2.2,())) (cond (decide ((x.2.1.length:Int) > 4096)) (some (x.1,x.2.1,(x.2.1.length:Int),true,(0,0,0,0,0,[],a02 3 0,[],[],(0,[],()),[],()),x.2.2,())) ((a7L (x.1,x.2.2,(x.2.1.length:Int))).bind fun y1=> some (x.1,x.2.1,(x.2.1.length:Int),!y1,(0,0,0,0,0,[],a02 3 0,[],[],(0,[],()),[],()),x.2.2,())))).bind fun z2=> cond z2.2.2.2.1 (some ((0,0,0,0,0,[],a02 3 0,[],[],(0,[],()),[],()),1)) ((a2s z2.2.1).bind fun y3=> cond (!y3) (some ((0,0,0,0,0,[],a02 3 0,[],[],(0,[],()),[],()),6)) ((a5Z (z2.1,z2.2.2.2.2.2.1)).bind fun y4=> cond (z2.1==0) ((y0o a5h (z2.2.1,z2.2.1,(z2.2.1.length:Int),0,z2.2.2.2.2.1,y4,())).bind fun w7=> match w7 with |.inl a8=>((m0h a8.1 0).bind fun x10=> some ((a8.2.2.1.1,a8.2.2.1.2.1,a8.2.2.1.2.2.1,a8.2.2.1.2.2.2.1,a8.2.2.1.2.2.2.2.1,a8.2.2.1.2.2.2.2.2.1,a8.2.2.1.2.2.2.2.2.2.1,a8.2.2.1.2.2.2.2.2.2.2.1,[x10],a8.2.2.1.2.2.2.2.2.2.2.2.2),0)) |.inr b9=>some (b9.2.1,b9.1)) ((a3C z2.2.1).bind fun y11=> (a7a (z2.2.1,y11)).bind fun y12=> cond (y12.2 != 0) (some ((0,0,0,0,0,[],a02 3 0,[],[],(0,[],()),[],()),6)) (cond (z2.1==1) (some ((y4.1,y11,y4.2.2.1,y4.2.2.2.1,y4.2.2.2.2.1,y4.2.2.2.2.2.1,y4.2.2.2.2.2.2.1,y4.2.2.2.2.2.2.2.1,y12.1,y4.2.2.2.2.2.2.2.2.2),0)) ((b1U ((y4.1,y11,y4.2.2),y12.1)).bind fun y13=> cond (y13.1 != 0) (some ((0,0,0,0,0,[],a02 3 0,[],[],(0,[],()),[],()),6)) ((b0J (z2.2.2.1,(y13.2.2.2.2.2.2.2.2.2.1.length:Int),6,y13.2.2.2.2.2.2.2.2.2.2.2.1)).bind fun y14=> cond (y14.2 != 0) (some ((0,0,0,0,0,[],a02 3 0,[],[],(0,[],()),[],()),6)) (some ((y13.2.1,y13.2.2.1,y13.2.2.2.1,y13.2.2.2.2.1,y13.2.2.2.2.2.1,y13.2.2.2.2.2.2.1,y13.2.2.2.2.2.2.2.1,y13.2.2.2.2.2.2.2.2.1,y13.2.2.2.2.2.2.2.2.2.1,y14.1,y13.2.2.2.2.2.2.2.2.2.2.2),0))))))))
def b9q:FSem:=⟨[.v QI,.v QL,.v Q42],[.v Q42,.v QI],b2W⟩
def d7i:Hints:=⟨[(4050,[.sv 1 QL,.sv 39 QL,.sv 40 QI,.sv 41 QI,.box 6 Q42,.box 9 Q42,.ptr 6 6 [],.ptr 9 9 []],[(.exit 0,[.sv 1 QL,.box 6 Q42,.box 9 Q42,.ptr 6 6 [],.ptr 9 9 []]),(.ret,[.sv 7 QI,.box 6 Q42,.ptr 6 6 []])])],[(14,[(.normal,[.sv 0 QI,.sv 1 QL,.sv 8 QI,.sv 28 .bool,.box 6 Q42,.vp 5 Q42,.ptr 6 6 []])])],[]⟩
def a8O(x:Z6):Option Z16:= some (x.2.1,x)
def b2P:FSem:=⟨[.r false (.b Q9)],[.v QI],a8O⟩
def d7j:Hints:=⟨[],[],[]⟩
def a4c(x:b4H):Option Int:= (a9I (([],0,()),x.1,x.2)).bind fun y1=> cond (y1.1 != 0) (some 0) ((a8O y1.2).bind fun y2=> some y2.1)
def b9r:FSem:=⟨[.v Q42,.v QI],[.v QI],a4c⟩
def d7k:Hints:=⟨[],[],[]⟩
def a7c(s:((List Int)×(Int×Bool×b2w×c5F))):Option (((List Int)×(Int×Bool×b2w×c5F)) ⊕ b2x):= cond (decide (s.2.2.2.2.2.1<s.2.2.2.2.1)) ((m0h s.2.2.2.1 s.2.2.2.2.2.1).bind fun x6=> (b2W (x6.1,s.1,x6)).bind fun y7=> cond (y7.2 != 0) (some (.inl (s.1,s.2.1,s.2.2.1,s.2.2.2.1,s.2.2.2.2.1,wrap .i64 (s.2.2.2.2.2.1+1),s.2.2.2.2.2.2.1,s.2.2.2.2.2.2.2.1,()))) ((a4c (y7.1,(s.1.length:Int))).bind fun y8=> (show Option ((List Int)×(Int×Bool×Int×b2w×Int×Int×Bool×a1M×b2x))from cond (!s.2.2.1) (some (s.1,s.2.1,s.2.2.1,y8,s.2.2.2.1,s.2.2.2.2.1,s.2.2.2.2.2.1,true,s.2.2.2.2.2.2.1,s.2.2.2.2.2.2.2.1,y7.1,())) (some (s.1,s.2.1,s.2.2.1,y8,s.2.2.2.1,s.2.2.2.2.1,s.2.2.2.2.2.1,decide (y8<s.2.1),s.2.2.2.2.2.2.1,s.2.2.2.2.2.2.2.1,y7.1,()))).bind fun z9=> cond z9.2.2.2.2.2.2.2.1 (some (.inl (z9.1,z9.2.2.2.1,true,z9.2.2.2.2.1,z9.2.2.2.2.2.1,wrap .i64 (z9.2.2.2.2.2.2.1+1),z9.2.2.2.2.2.2.2.2.1,z9.2.2.2.2.2.2.2.2.2.2.1,()))) (some (.inl (z9.1,z9.2.1,z9.2.2.1,z9.2.2.2.2.1,z9.2.2.2.2.2.1,wrap .i64 (z9.2.2.2.2.2.2.1+1),z9.2.2.2.2.2.2.2.2.1,z9.2.2.2.2.2.2.2.2.2.1,()))))) (some (.inr (s.2.2.2.2.2.2.1,s.2.2.2.2.2.2.2.1,())))
def a5v(x:((List Int)×Int)):Option b4H:= (show Option ((List Int)×c2W)from cond (decide ((x.1.length:Int)<1)) (some (x.1,x.2,true,(0,0,0,0,0,[],a02 3 0,[],[],(0,[],()),[],()),())) (cond (decide ((x.1.length:Int) > 4096)) (some (x.1,x.2,true,(0,0,0,0,0,[],a02 3 0,[],[],(0,[],()),[],()),())) (cond (decide (x.2<0)) (some (x.1,x.2,true,(0,0,0,0,0,[],a02 3 0,[],[],(0,[],()),[],()),())) (some (x.1,x.2,decide (x.2 > 3),(0,0,0,0,0,[],a02 3 0,[],[],(0,[],()),[],()),()))))).bind fun z1=> cond z1.2.2.1 (some ((0,0,0,0,0,[],a02 3 0,[],[],(0,[],()),[],()),1)) ((a2s z1.1).bind fun y2=> cond (!y2) (some ((0,0,0,0,0,[],a02 3 0,[],[],(0,[],()),[],()),6)) ((a3C z1.1).bind fun y3=> (a7a (z1.1,y3)).bind fun y4=> cond (y4.2 != 0) (some ((0,0,0,0,0,[],a02 3 0,[],[],(0,[],()),[],()),y4.2)) ((a6I (y4.1,z1.2.1)).bind fun y5=> (y0o a7c (z1.1,0,false,y5,(y5.length:Int),0,z1.2.2.2.1,(0,0,0,0,0,[],a02 3 0,[],[],(0,[],()),[],()),())).bind fun w10=> some (w10.2.1,0))))
def b9s:FSem:=⟨[.v QL,.v QI],[.v Q42,.v QI],a5v⟩
def H60:Hints:=⟨[(2042,[.sv 0 QL,.sv 9 QI,.sv 10 .bool,.sv 50 (.list false Q42),.sv 51 QI,.sv 52 QI,.box 4 Q42,.box 8 Q42,.ptr 4 4 [],.ptr 8 8 []],[(.exit 0,[.box 4 Q42,.box 8 Q42,.ptr 4 4 [],.ptr 8 8 []])])],[(6,[(.normal,[.sv 0 QL,.sv 1 QI,.sv 31 .bool,.box 4 Q42,.ptr 4 4 []])]),(1045711,[(.normal,[.sv 0 QL,.sv 9 QI,.sv 10 .bool,.sv 15 QI,.sv 50 (.list false Q42),.sv 51 QI,.sv 52 QI,.sv 76 .bool,.box 4 Q42,.box 8 Q42,.box 13 Q42,.ptr 4 4 [],.ptr 8 8 [],.ptr 13 13 []])])],[]⟩
def a5w(s:(Int×((List (List Int))×(Int×Int×a2U×b4J)))):Option ((Int×((List (List Int))×(Int×Int×a2U×b4J))) ⊕ ((a2U×b4J) ⊕ (Int×b4J))):= cond (decide (s.2.2.2.1<s.2.2.1)) ((m0h s.2.1 s.2.2.2.1).bind fun x8=> (a5v (x8,s.1)).bind fun y9=> cond (y9.2 != 0) (some (.inr (Sum.inr ((y9.2,(0,0,(0,0,0,()),[],[],()),()))))) (cond (lim ((a01 s.2.2.2.2.2.1.2.2.2.2.1)+1)) (some (.inl (s.1,s.2.1,s.2.2.1,wrap .i64 (s.2.2.2.1+1),s.2.2.2.2.1,(s.2.2.2.2.2.1.1,s.2.2.2.2.2.1.2.1,s.2.2.2.2.2.1.2.2.1,s.2.2.2.2.2.1.2.2.2.1,a03 s.2.2.2.2.2.1.2.2.2.2.1 ([y9.1]:List a1M),s.2.2.2.2.2.1.2.2.2.2.2),()))) none)) (some (.inr (Sum.inl (s.2.2.2.2.1,s.2.2.2.2.2.1,()))))
def a4I(x:(Z11×Z7×Int×Int)):Option (a2U×Int):= (show Option (Int×Int×Bool×a2U×Z11×Z21)from(a4i x.1).bind fun y1=> cond (!y1) (some (x.2.2.1,x.2.2.2,true,(0,0,(0,0,0,()),[],[],()),x.1,x.2.1,())) ((a1T x.2.1).bind fun y2=> cond (!y2) (some (x.2.2.1,x.2.2.2,true,(0,0,(0,0,0,()),[],[],()),x.1,x.2.1,())) (cond (x.1.1 != x.2.1.2.2.1) (some (x.2.2.1,x.2.2.2,true,(0,0,(0,0,0,()),[],[],()),x.1,x.2.1,())) (cond ((x.1.2.1.length:Int) != x.2.1.2.1) (some (x.2.2.1,x.2.2.2,true,(0,0,(0,0,0,()),[],[],()),x.1,x.2.1,())) (cond (decide (x.2.2.2<0)) (some (x.2.2.1,x.2.2.2,true,(0,0,(0,0,0,()),[],[],()),x.1,x.2.1,())) (cond (decide (x.2.2.2 > 3)) (some (x.2.2.1,x.2.2.2,true,(0,0,(0,0,0,()),[],[],()),x.1,x.2.1,())) (some (x.2.2.1,x.2.2.2,decide (x.2.2.1<0),(0,0,(0,0,0,()),[],[],()),x.1,x.2.1,())))))))).bind fun z3=> cond z3.2.2.1 (some ((0,0,(0,0,0,()),[],[],()),1)) ((a4h z3.2.2.2.2.1).bind fun y4=> cond (decide (z3.1 > (wrap .i64 (4194304-y4)))) (some ((0,0,(0,0,0,()),[],[],()),4)) ((show Option (Int×a2U×a2U×Z29)from cond (decide (z3.2.1 > 0)) ((a7q z3.2.2.2.2.1).bind fun y5=> some (z3.2.1,z3.2.2.2.1,(z3.1,y4,z3.2.2.2.2.2.1,y5,[],()),z3.2.2.2.2.1,())) (some (z3.2.1,z3.2.2.2.1,(z3.1,y4,z3.2.2.2.2.2.1,[],[],()),z3.2.2.2.2.1,()))).bind fun z6=> (b2l (z6.2.2.2.1.2.1,z6.2.2.1.2.2.2.1)).bind fun y7=> cond (y7.2 != 0) (some ((0,0,(0,0,0,()),[],[],()),y7.2)) ((y0o a5w (z6.1,y7.1,(y7.1.length:Int),0,z6.2.1,z6.2.2.1,())).bind fun w10=> match w10 with |.inl a11=>some (a11.2.1,0) |.inr b12=>some (b12.2.1,b12.1))))
def b7g:FSem:=⟨[.v Q15,.v Q12,.v QI,.v QI],[.v Q60,.v QI],a4I⟩
def H18:Hints:=⟨[(2042,[.sv 3 QI,.sv 81 (.list false QL),.sv 82 QI,.sv 83 QI,.box 8 Q60,.box 10 Q59,.ptr 8 8 [],.ptr 10 10 []],[(.exit 0,[.box 8 Q60,.box 10 Q59,.ptr 8 8 [],.ptr 10 10 []]),(.ret,[.sv 9 QI,.box 8 Q60,.ptr 8 8 []])])],[(6,[(.normal,[.sv 2 QI,.sv 3 QI,.sv 51 .bool,.box 8 Q60,.vp 4 Q15,.vp 5 Q12,.ptr 8 8 []])]),(31,[(.normal,[.sv 3 QI,.box 8 Q60,.box 10 Q59,.vp 4 Q15,.ptr 8 8 [],.ptr 10 10 []])])],[(3,[.v,.v,.v,.v,.v,.q,.x])]⟩
def a7v(s:Z52):Option (Z52 ⊕ Z30):= cond (decide (s.2.2.2.2.1<8)) (cond ((bits .u32 .and s.1 1)==1) (some (.inl (bits .u32 .xor (A0k .u32 s.1 1) 3988292384,s.2.1,s.2.2.1,s.2.2.2.1,wrap .i64 (s.2.2.2.2.1+1),()))) (some (.inl (A0k .u32 s.1 1,s.2.1,s.2.2.1,s.2.2.2.1,wrap .i64 (s.2.2.2.2.1+1),())))) (some (.inr (s.1,s.2.1,s.2.2.1,s.2.2.2.1,())))
def a4U(s:Z30):Option Z66:= cond (decide (s.2.2.2.1<s.2.2.1)) ((m0h s.2.1 s.2.2.2.1).bind fun x1=> (y0o a7v (bits .u32 .xor s.1 (wrap .u32 x1),s.2.1,s.2.2.1,s.2.2.2.1,0,())).bind fun w2=> some (.inl (w2.1,w2.2.1,w2.2.2.1,wrap .i64 (w2.2.2.2.1+1),()))) (some (.inr (s.1,())))
def a4J(x:(List Int)):Option Int:= (y0o a4U (4294967295,x,(x.length:Int),0,())).bind fun w3=> some (bits .u32 .xor (IntKind.max .u32) w3.1)
def a9A:FSem:=⟨[.v (.list false (.int .u8))],[.v (.int .u32)],a4J⟩
def H89:Hints:=⟨[(58,[.sv 3 (.int .u32),.sv 7 (.list false (.int .u8)),.sv 8 QI,.sv 9 QI],[(.exit 0,[.sv 3 (.int .u32)])]),(29902,[.sv 3 (.int .u32),.sv 7 (.list false (.int .u8)),.sv 8 QI,.sv 9 QI,.sv 17 QI],[(.exit 2,[.sv 3 (.int .u32),.sv 7 (.list false (.int .u8)),.sv 8 QI,.sv 9 QI])])],[],[]⟩
def a8x(s:(b8N×(Int×(Int×((List (List Int))×((List Int)×a9O)))))):Option ((b8N×(Int×(Int×((List (List Int))×((List Int)×a9O))))) ⊕ ((List (List Int))×((List Int)×a9O))):= cond (decide (s.2.2.1<s.2.1)) ((m0h s.1 s.2.2.1).bind fun x2=> cond ((decide (0≤s.2.2.1))&&(decide (s.2.2.1<(s.2.2.2.1.length:Int)))) (cond (lim ((a01 s.2.2.2.2.1)+2)) (some (.inl (s.1,s.2.1,wrap .i64 (s.2.2.1+1),s.2.2.2.1,a03 s.2.2.2.2.1 ([wrap .u64 ((a01 (a04 s.2.2.2.1 (a00 s.2.2.1) []):Nat):Int),wrap .u64 x2.2.1]:List Int),s.2.2.2.2.2.1,()))) none) none) (some (.inr (s.2.2.2.1,s.2.2.2.2.1,s.2.2.2.2.2.1,())))
def a8y(s:(Int×(Int×((List Int)×Z1)))):Option ((Int×(Int×((List Int)×Z1))) ⊕ ((List Int)×Unit)):= cond (decide (s.2.1<s.1)) (cond ((decide (0≤s.2.1))&&(decide (s.2.1<(s.2.2.2.1.length:Int)))) (cond (lim ((a01 s.2.2.1)+(a01 (a04 s.2.2.2.1 (a00 s.2.1) [])))) (some (.inl (s.1,wrap .i64 (s.2.1+1),a03 s.2.2.1 (a04 s.2.2.2.1 (a00 s.2.1) []),s.2.2.2.1,()))) none) none) (some (.inr (s.2.2.1,())))
def b1W(x:a8K):Option ((List Int)×Int):= (a9c x).bind fun y1=> cond (!y1.2.2) (some ([],1)) ((y0o a8x (x.2.2.2.2.1,(x.2.2.2.2.1.length:Int),0,y1.1,([wrap .u64 x.1.1,wrap .u64 x.1.2.1,wrap .u64 x.1.2.2.1,wrap .u64 (x.2.2.2.2.1.length:Int)]:List Int),x,())).bind fun w3=> (a9b w3.2.1).bind fun y4=> cond (lim (4+(a01 y4))) ((a4l (w3.2.2.1.2.2.1,8)).bind fun y5=> cond (lim ((a01 (a03 [75,78,83,68] y4))+(a01 y5))) ((a4J (a03 (a03 [75,78,83,68] y4) y5)).bind fun y6=> (a4l (wrap .u64 y6,4)).bind fun y7=> cond (lim ((a01 (a03 (a03 [75,78,83,68] y4) y5))+(a01 y7))) ((y0o a8y ((w3.1.length:Int),0,a03 (a03 (a03 [75,78,83,68] y4) y5) y7,w3.1,())).bind fun w8=> some (w8.1,0)) none) none) none)
def b8f:FSem:=⟨[.v Q74],[.o (.int .u8),.v QI],b1W⟩
def H29:Hints:=⟨[(250,[.sv 39 (.list false Q60),.sv 40 QI,.sv 41 QI,.own 4 4 (.list false (.int .u8)),.own 7 7 (.int .u64),.vp 1 Q74],[(.exit 0,[.own 4 4 (.list false (.int .u8)),.own 7 7 (.int .u64),.vp 1 Q74])]),(4090,[.sv 76 QI,.sv 77 QI,.own 10 10 (.int .u8),.own 75 4 (.list false (.int .u8))],[(.exit 2,[.own 10 10 (.int .u8)])])],[],[(8,[.q,.q,.v,.q,.q,.v,.v,.q,.q,.v,.q,.x,.x])]⟩
def a7G(s:((List Int)×(Int×Int×Z11×Z11×Z21))):Option (((List Int)×(Int×Int×Z11×Z11×Z21)) ⊕ ((Z11×Z29) ⊕ Z46)):= cond (decide (s.2.2.1<s.2.1)) ((m0h s.1 s.2.2.1).bind fun x2=> (a1S (x2,s.2.2.2.2.2.1.2.2.1)).bind fun y3=> cond (!y3) (some (.inr (Sum.inr ((6,(0,([]:(List (List Int))),()),()))))) (cond (s.2.2.2.2.2.1.2.1==0) none (cond ((decide (0≤(a05 s.2.2.1 s.2.2.2.2.2.1.2.1)))&&(decide ((a05 s.2.2.1 s.2.2.2.2.2.1.2.1)<(s.2.2.2.2.1.2.1.length:Int)))) (cond (lim ((a01 (a04 s.2.2.2.2.1.2.1 (a00 (a05 s.2.2.1 s.2.2.2.2.2.1.2.1)) []))+1)) (cond ((decide (0≤(a05 s.2.2.1 s.2.2.2.2.2.1.2.1)))&&(decide ((a05 s.2.2.1 s.2.2.2.2.2.1.2.1)<((a01 (a09 s.2.2.2.2.1.2.1 (a00 (a05 s.2.2.1 s.2.2.2.2.2.1.2.1)) (a03 (a04 s.2.2.2.2.1.2.1 (a00 (a05 s.2.2.1 s.2.2.2.2.2.1.2.1)) []) [x2])):Nat):Int)))) (cond (((a00 (a05 s.2.2.1 s.2.2.2.2.2.1.2.1))==(a00 (a05 s.2.2.1 s.2.2.2.2.2.1.2.1)))&&true) (cond (((a00 (a05 s.2.2.1 s.2.2.2.2.2.1.2.1))==(a00 (a05 s.2.2.1 s.2.2.2.2.2.1.2.1)))&&true) (some (.inl (s.1,s.2.1,wrap .i64 (s.2.2.1+1),s.2.2.2.1,(s.2.2.2.2.1.1,a09 s.2.2.2.2.1.2.1 (a00 (a05 s.2.2.1 s.2.2.2.2.2.1.2.1)) (a03 (a04 s.2.2.2.2.1.2.1 (a00 (a05 s.2.2.1 s.2.2.2.2.2.1.2.1)) []) [x2]),s.2.2.2.2.1.2.2),s.2.2.2.2.2.1,()))) none) none) none) none) none))) (some (.inr (Sum.inl (s.2.2.2.1,s.2.2.2.2.1,()))))
def b0K(x:Z31):Option Z28:= (a1T x.2).bind fun y1=> cond (!y1) (some ((0,([]:(List (List Int))),()),1)) (cond ((x.1.length:Int)==0) (some ((0,([]:(List (List Int))),()),7)) (cond (x.2.2.1==0) none (cond ((a05 (x.1.length:Int) x.2.2.1) != 0) (some ((0,([]:(List (List Int))),()),3)) (cond (x.2.2.1==0) none (cond (decide ((wrap .i64 (a07 (x.1.length:Int) x.2.2.1)) > 4096)) (some ((0,([]:(List (List Int))),()),4)) (cond ((decide (0≤x.2.2.1))&&((decide (x.2.2.1≤x.2.2.1))&&(lim (a00 x.2.2.1)))) ((y0o a7G (x.1,(x.1.length:Int),0,(0,([]:(List (List Int))),()),(x.2.2.2.1,a02 (a00 x.2.2.1) [],()),x.2,())).bind fun w4=> match w4 with |.inl a5=>some (a5.2.1,0) |.inr b6=>some (b6.2.1,b6.1)) none))))))
def b7h:FSem:=⟨[.v QL,.v Q12],[.v Q15,.v QI],b0K⟩
def H96:Hints:=⟨[(1018,[.sv 38 QL,.sv 39 QI,.sv 40 QI,.box 4 Q15,.box 6 (.pair QI Q6),.vp 3 Q12,.ptr 4 4 [],.ptr 6 6 []],[(.exit 0,[.box 4 Q15,.box 6 (.pair QI Q6),.ptr 4 4 [],.ptr 6 6 []]),(.ret,[.sv 5 QI,.box 4 Q15,.ptr 4 4 []])])],[],[(9,[.v,.v,.v,.v,.q,.q,.q,.x]),(16,[.s,.s,.s,.q,.q,.v,.q,.q,.v,.q,.b [6,64,65],.x,.x])]⟩
def a5T(s:((List Int)×(Int×(Int×(Int×((List Int)×(Int×Z38))))))):Option (((List Int)×(Int×(Int×(Int×((List Int)×(Int×Z38)))))) ⊕ (((List Int)×(Int×Int×Z38)) ⊕ Z5)):= cond (decide (s.2.2.2.2.2.2.1<s.2.2.2.2.2.1)) ((m0h s.2.2.2.2.1 s.2.2.2.2.2.2.1).bind fun x4=> (a1S (x4,s.2.2.2.2.2.2.2.1.2.2.1)).bind fun y5=> cond (!y5) (some (.inr (Sum.inr ((6,[],()))))) (some (.inl (s.1,s.2.1,s.2.2.1,s.2.2.2.1,s.2.2.2.2.1,s.2.2.2.2.2.1,wrap .i64 (s.2.2.2.2.2.2.1+1),s.2.2.2.2.2.2.2.1,())))) (some (.inr (Sum.inl (s.1,s.2.1,s.2.2.1,s.2.2.2.1,s.2.2.2.2.2.2.2.1,()))))
def a3X(s:((List Int)×(Int×Int×Int×Int×Int×a8K×Z21))):Option (((List Int)×(Int×Int×Int×Int×Int×a8K×Z21)) ⊕ (a9O ⊕ Z5)):= cond (decide (s.2.2.2.2.2.1<s.2.2.2.1)) (cond ((decide (0≤(wrap .i64 ((v0o (wrap .i64 (s.2.2.2.2.2.1+s.2.1)) s.2.2.2.1)*s.2.2.2.2.2.2.2.1.2.1))))&&(decide ((wrap .i64 ((v0o (wrap .i64 (s.2.2.2.2.2.1+s.2.1)) s.2.2.2.1)*s.2.2.2.2.2.2.2.1.2.1))≤(s.1.length:Int)))) (cond ((decide (0≤(wrap .i64 (s.2.2.2.2.2.1*s.2.2.2.2.2.2.2.1.2.1))))&&(decide ((wrap .i64 (s.2.2.2.2.2.1*s.2.2.2.2.2.2.2.1.2.1))≤((a00 (wrap .i64 ((v0o (wrap .i64 (s.2.2.2.2.2.1+s.2.1)) s.2.2.2.1)*s.2.2.2.2.2.2.2.1.2.1)):Nat):Int)))) ((b0K (a19 (a00 (wrap .i64 (s.2.2.2.2.2.1*s.2.2.2.2.2.2.2.1.2.1))) (a06 (a00 (wrap .i64 ((v0o (wrap .i64 (s.2.2.2.2.2.1+s.2.1)) s.2.2.2.1)*s.2.2.2.2.2.2.2.1.2.1))) s.1),s.2.2.2.2.2.2.2.1)).bind fun y9=> cond (y9.2 != 0) (some (.inr (Sum.inr ((y9.2,[],()))))) ((a4I (y9.1,s.2.2.2.2.2.2.2.1,s.2.2.2.2.2.1,s.2.2.1)).bind fun y10=> cond (y10.2 != 0) (some (.inr (Sum.inr ((y10.2,[],()))))) ((a4m y10.1).bind fun y11=> cond (y11.2 != 0) (some (.inr (Sum.inr ((y11.2,[],()))))) ((a4w (s.2.2.2.2.2.2.1.2.2.1,y9.1)).bind fun y12=> cond (lim ((a01 s.2.2.2.2.2.2.1.2.2.2.1)+1)) (cond (lim ((a01 s.2.2.2.2.2.2.1.2.2.2.2.1)+1)) (some (.inl (s.1,s.2.1,s.2.2.1,s.2.2.2.1,wrap .i64 (s.2.2.2.2.1+(y11.1.length:Int)),wrap .i64 (s.2.2.2.2.2.1+s.2.1),(s.2.2.2.2.2.2.1.1,s.2.2.2.2.2.2.1.2.1,y12.1,a03 s.2.2.2.2.2.2.1.2.2.2.1 ([(s.2.2.2.2.2.1,s.2.2.2.2.1,())]:List (Int×Int×Unit)),a03 s.2.2.2.2.2.2.1.2.2.2.2.1 ([y10.1]:List a2U),s.2.2.2.2.2.2.1.2.2.2.2.2),s.2.2.2.2.2.2.2.1,()))) none) none)))) none) none) (some (.inr (Sum.inl (s.2.2.2.2.2.2.1,()))))
def a6h(x:(Z7×Z3)):Option ((List Int)×Int):= (show Option ((List Int)×Z70)from(a1T x.1).bind fun y1=> cond (!y1) (some (x.2.1,x.2.2.1,x.2.2.2,true,x.1,())) (cond (decide (x.2.2.1<1)) (some (x.2.1,x.2.2.1,x.2.2.2,true,x.1,())) (cond (decide (x.2.2.1 > 4096)) (some (x.2.1,x.2.2.1,x.2.2.2,true,x.1,())) (cond (decide (x.2.2.2<0)) (some (x.2.1,x.2.2.1,x.2.2.2,true,x.1,())) (some (x.2.1,x.2.2.1,x.2.2.2,decide (x.2.2.2 > 3),x.1,())))))).bind fun z2=> cond z2.2.2.2.1 (some ([],1)) (cond (z2.2.2.2.2.1.2.1==0) none (cond ((a05 (z2.1.length:Int) z2.2.2.2.2.1.2.1) != 0) (some ([],3)) (cond (z2.2.2.2.2.1.2.1==0) none ((show Option ((List Int)×(Int×Z70))from cond (decide ((wrap .i64 (a07 (z2.1.length:Int) z2.2.2.2.2.1.2.1)) > 4194304)) (some (z2.1,z2.2.1,z2.2.2.1,wrap .i64 (a07 (z2.1.length:Int) z2.2.2.2.2.1.2.1),true,z2.2.2.2.2.1,())) (cond (z2.2.1==0) none (some (z2.1,z2.2.1,z2.2.2.1,wrap .i64 (a07 (z2.1.length:Int) z2.2.2.2.2.1.2.1),decide ((wrap .i64 (a07 (wrap .i64 ((wrap .i64 ((wrap .i64 (a07 (z2.1.length:Int) z2.2.2.2.2.1.2.1))+z2.2.1))-1)) z2.2.1)) > 4096),z2.2.2.2.2.1,())))).bind fun z3=> cond z3.2.2.2.2.1 (some ([],4)) ((y0o a5T (z3.1,z3.2.1,z3.2.2.1,z3.2.2.2.1,z3.1,(z3.1.length:Int),0,z3.2.2.2.2.2.1,())).bind fun w6=> match w6 with |.inl a7=>((y0o a3X (a7.1,a7.2.1,a7.2.2.1,a7.2.2.2.1,0,0,(a7.2.2.2.2.1,a7.2.2.2.1,0,[],[],()),a7.2.2.2.2.1,())).bind fun w13=> match w13 with |.inl a14=>((b1W a14.1).bind fun y16=> some (y16.1,y16.2)) |.inr b15=>some (b15.2.1,b15.1)) |.inr b8=>some (b8.2.1,b8.1))))))
def b1n:FSem:=⟨[.v Q12,.v QL,.v QI,.v QI],[.o (.int .u8),.v QI],a6h⟩
def H37:Hints:=⟨[(506,[.sv 1 QL,.sv 2 QI,.sv 3 QI,.sv 10 QI,.sv 62 QL,.sv 63 QI,.sv 64 QI,.vp 4 Q12],[(.exit 0,[.sv 1 QL,.sv 2 QI,.sv 3 QI,.sv 10 QI,.vp 4 Q12]),(.ret,[.sv 9 QI,.own 8 8 (.int .u8)])]),(4090,[.sv 1 QL,.sv 2 QI,.sv 3 QI,.sv 10 QI,.sv 14 QI,.sv 15 QI,.box 13 Q73,.vp 4 Q12,.ptr 13 13 []],[(.exit 2,[.box 13 Q73,.ptr 13 13 []]),(.ret,[.sv 9 QI,.own 8 8 (.int .u8)])])],[(6,[(.normal,[.sv 1 QL,.sv 2 QI,.sv 3 QI,.sv 39 .bool,.vp 4 Q12])]),(62,[(.normal,[.sv 1 QL,.sv 2 QI,.sv 3 QI,.sv 10 QI,.sv 61 .bool,.vp 4 Q12])])],[(20,[.v,.v,.v,.v,.v,.v,.v,.v,.v,.v,.v,.v,.v,.v,.v,.q,.w [0,17],.x])]⟩
def a5J(x:(List Int)):Option Z14:= cond (lim (a01 x)) (some (x,0,0,())) none
def b4T:FSem:=⟨[.v (.list false (.int .u8))],[.b Q16],a5J⟩
def d7l:Hints:=⟨[],[],[]⟩
def a5U(s:Z30):Option (Z30 ⊕ (Unit ⊕ Z7)):= cond (decide (s.2.2.2.1<s.2.2.1)) ((m0h s.2.1 s.2.2.2.1).bind fun x1=> (show Option (Int×Int×Int×Z34)from cond (s.2.2.2.1==9) (cond (decide (x1 > 1)) (some (s.1,s.2.2.2.1,x1,s.2.1,s.2.2.1,s.2.2.2.1,true,())) (cond (decide (s.2.2.2.1 > 0)) (some (s.1,s.2.2.2.1,x1,s.2.1,s.2.2.1,s.2.2.2.1,x1==0,())) (some (s.1,s.2.2.2.1,x1,s.2.1,s.2.2.1,s.2.2.2.1,false,())))) (cond (decide (s.2.2.2.1 > 0)) (some (s.1,s.2.2.2.1,x1,s.2.1,s.2.2.1,s.2.2.2.1,x1==0,())) (some (s.1,s.2.2.2.1,x1,s.2.1,s.2.2.1,s.2.2.2.1,false,())))).bind fun z2=> cond z2.2.2.2.2.2.2.1 (some (.inr (Sum.inr ((0,0,2,()))))) (cond (decide ((wrap .i64 (7*z2.2.1))<0)) none (cond (decide (z2.2.2.1<128)) (some (.inr (Sum.inr ((bits .u64 .or z2.1 (A0j .u64 (wrap .u64 (a05 z2.2.2.1 128)) (wrap .i64 (7*z2.2.1))),wrap .i64 (z2.2.1+1),0,()))))) (some (.inl (bits .u64 .or z2.1 (A0j .u64 (wrap .u64 (a05 z2.2.2.1 128)) (wrap .i64 (7*z2.2.1))),z2.2.2.2.1,z2.2.2.2.2.1,wrap .i64 (z2.2.2.2.2.2.1+1),())))))) (some (.inr (Sum.inl ())))
def a8z(x:(List Int)):Option (Int×Int×Int):= (y0o a5U (0,x,(x.length:Int),0,())).bind fun w3=> match w3 with |.inl a4=>some (0,0,3) |.inr b5=>some (b5.1,b5.2.1,b5.2.2.1)
def b5l:FSem:=⟨[.v (.list false (.int .u8))],[.v (.int .u64),.v QI,.v QI],a8z⟩
def d7m:Hints:=⟨[(58,[.sv 5 (.int .u64),.sv 8 (.list false (.int .u8)),.sv 9 QI,.sv 10 QI],[(.exit 0,[]),(.ret,[.sv 2 (.int .u64),.sv 3 QI,.sv 4 QI])])],[(7474,[(.normal,[.sv 5 (.int .u64),.sv 6 QI,.sv 7 (.int .u8),.sv 8 (.list false (.int .u8)),.sv 9 QI,.sv 10 QI,.sv 28 .bool])])],[]⟩
def a0S(x:Z33):Option Z30:= cond (x.1.2.2.1 != 0) (some (0,x.1)) (cond ((decide (0≤x.1.2.1))&&(decide (x.1.2.1≤(x.1.1.length:Int)))) ((a8z (a19 (a00 x.1.2.1) (a06 (a01 x.1.1) x.1.1))).bind fun y1=> (show Option Z85 from cond (y1.2.2==0) (cond (decide (y1.1 > x.2)) (some (y1.1,y1.2.1,4,x.1,())) (some (y1.1,y1.2.1,y1.2.2,x.1,()))) (some (y1.1,y1.2.1,y1.2.2,x.1,()))).bind fun z2=> cond (z2.2.2.1 != 0) (some (0,z2.2.2.2.1.1,z2.2.2.2.1.2.1,z2.2.2.1,z2.2.2.2.1.2.2.2)) (some (z2.1,z2.2.2.2.1.1,wrap .i64 (z2.2.2.2.1.2.1+z2.2.1),z2.2.2.2.1.2.2))) none)
def a7R:FSem:=⟨[.r false (.b Q16),.v (.int .u64)],[.v (.int .u64)],a0S⟩
def d7n:Hints:=⟨[],[(15,[(.normal,[.sv 5 (.int .u64),.sv 6 QI,.sv 7 QI,.box pinned Q16,.ptr 0 pinned []])])],[(3,[.p,.p,.q,.q,.p,.p,.q,.q,.x,.x,.x,.v,.v,.v,.v,.v,.x])]⟩
def a3t(x:Z14):Option Z30:= some (x.2.2.1,x)
def a7S:FSem:=⟨[.r false (.b Q16)],[.v QI],a3t⟩
def d7o:Hints:=⟨[],[],[]⟩
def a1I(x:Z14):Option Z30:= some (wrap .i64 ((x.1.length:Int)-x.2.1),x)
def a4V:FSem:=⟨[.r false (.b Q16)],[.v QI],a1I⟩
def d7p:Hints:=⟨[],[],[(1,[.p,.p,.q,.q,.v,.p,.p,.q,.q,.x,.x])]⟩
def a3Y(x:Z14):Option Z30:= some (x.2.1,x)
def a8P:FSem:=⟨[.r false (.b Q16)],[.v QI],a3Y⟩
def d7q:Hints:=⟨[],[],[]⟩
def a4W(x:Z33):Option Z45:= cond (x.1.2.2.1 != 0) (some ([],x.1)) ((a1I x.1).bind fun y1=> cond (decide ((v0n x.2 0) > y1.1)) (some ([],y1.2.1,y1.2.2.1,3,y1.2.2.2.2)) (cond ((decide (0≤(wrap .i64 (y1.2.2.1+(v0n x.2 0)))))&&(decide ((wrap .i64 (y1.2.2.1+(v0n x.2 0)))≤(y1.2.1.length:Int)))) (cond ((decide (0≤y1.2.2.1))&&(decide (y1.2.2.1≤((a00 (wrap .i64 (y1.2.2.1+(v0n x.2 0))):Nat):Int)))) (cond (lim (a01 (a19 (a00 y1.2.2.1) (a06 (a00 (wrap .i64 (y1.2.2.1+(v0n x.2 0)))) y1.2.1)))) (some (a19 (a00 y1.2.2.1) (a06 (a00 (wrap .i64 (y1.2.2.1+(v0n x.2 0)))) y1.2.1),y1.2.1,wrap .i64 (y1.2.2.1+(v0n x.2 0)),y1.2.2.2)) none) none) none))
def b1h:FSem:=⟨[.r false (.b Q16),.v QI],[.o (.int .u8)],a4W⟩
def d7r:Hints:=⟨[],[],[(7,[.p,.p,.q,.q,.p,.p,.q,.q,.p,.p,.q,.q,.v,.v,.x,.x,.x])]⟩
def a3F(s:Z95):Option (Z95 ⊕ Z55):= cond (decide (s.2.2.1<s.2.1)) (cond ((decide (0≤s.2.2.1))&&(decide (s.2.2.1<(s.2.2.2.1.length:Int)))) (some (.inl (wrap .u64 ((wrap .u64 (s.1*256))+(wrap .u64 (a04 s.2.2.2.1 (a00 s.2.2.1) 0))),s.2.1,wrap .i64 (s.2.2.1+1),s.2.2.2.1,s.2.2.2.2.1,()))) none) (some (.inr (s.1,s.2.2.2.2.1,())))
def a3u(x:Z33):Option Z30:= (a2S x.2).bind fun y1=> (a4W (x.1,y1)).bind fun y2=> (y0o a3F (0,(y2.1.length:Int),0,y2.1,y2.2,())).bind fun w3=> some (w3.1,w3.2.1)
def b2n:FSem:=⟨[.r false (.b Q16),.v QI],[.v (.int .u64)],a3u⟩
def d7s:Hints:=⟨[(58,[.sv 5 (.int .u64),.sv 12 QI,.sv 13 QI,.own 11 1011 (.int .u8),.box pinned Q16],[(.exit 0,[.sv 5 (.int .u64),.box pinned Q16])])],[],[]⟩
end Go.Ab
namespace Go.Ab
open IntKind(wrap)
open Go.Proofs
set_option maxRecDepth 100000
set_option linter.unusedVariables false
def a5x(s:((List Int)×(Int×Int×Z97×Z97×Z37))):Option (((List Int)×(Int×Int×Z97×Z97×Z37)) ⊕ ((List Int)×(Z97×Z97×Z37))):= cond (decide (s.2.2.1<s.2.1)) ((a0S (s.2.2.2.2.2.1,1048704)).bind fun y6=> cond (lim ((a01 s.2.2.2.2.1.2.1)+1)) ((a0S (y6.2,4096)).bind fun y7=> cond (lim ((a01 s.2.2.2.2.1.2.2.1)+1)) (some (.inl (s.1,s.2.1,wrap .u64 (s.2.2.1+1),s.2.2.2.1,(s.2.2.2.2.1.1,a03 s.2.2.2.2.1.2.1 [wrap .i64 y6.1],a03 s.2.2.2.2.1.2.2.1 [wrap .i64 y7.1],s.2.2.2.2.1.2.2.2),y7.2,()))) none) none) (some (.inr (s.1,s.2.2.2.1,s.2.2.2.2.1,s.2.2.2.2.2.1,())))
def a5y(s:(Int×Int×Z97×c5A)):Option ((Int×Int×Z97×c5A) ⊕ ((Z97×c5A) ⊕ (Int×c5A))):= cond (decide (s.2.1<s.1)) (cond ((decide (0≤s.2.1))&&(decide (s.2.1<(s.2.2.2.1.2.2.1.length:Int)))) (cond ((a04 s.2.2.2.1.2.2.1 (a00 s.2.1) 0)==0) (some (.inr (Sum.inr ((2,((0,0,0,()),[],[],0,0,0,()),()))))) (some (.inl (s.1,wrap .i64 (s.2.1+1),s.2.2.1,(s.2.2.2.1.1,s.2.2.2.1.2.1,s.2.2.2.1.2.2.1,wrap .i64 (s.2.2.2.1.2.2.2.1+(a04 s.2.2.2.1.2.2.1 (a00 s.2.1) 0)),s.2.2.2.1.2.2.2.2),())))) none) (some (.inr (Sum.inl (s.2.2.1,s.2.2.2.1,()))))
def a2I(x:(List Int)):Option (Z97×Int):= cond (decide ((x.length:Int)<4)) (some (((0,0,0,()),[],[],0,0,0,()),3)) (cond (decide (4≤(x.length:Int))) (cond ((b2s (a06 4 x)) != [75,78,83,68]) (some (((0,0,0,()),[],[],0,0,0,()),2)) (cond (decide (4≤(x.length:Int))) ((a5J (a19 4 (a06 (a01 x) x))).bind fun y1=> (a0S (y1,1048576)).bind fun y2=> (a0S (y2.2,8)).bind fun y3=> (a0S (y3.2,24)).bind fun y4=> (a0S (y4.2,4096)).bind fun y5=> (y0o a5x (x,y5.1,0,((0,0,0,()),[],[],0,0,0,()),((wrap .i64 y2.1,wrap .i64 y3.1,wrap .i64 y4.1,()),[],[],0,0,0,()),y5.2,())).bind fun w8=> (a3t w8.2.2.2.1).bind fun y9=> cond (y9.1 != 0) (some (((0,0,0,()),[],[],0,0,0,()),y9.1)) ((a1I y9.2).bind fun y10=> cond (decide (y10.1<12)) (some (((0,0,0,()),[],[],0,0,0,()),3)) ((a3u (y10.2,8)).bind fun y11=> (a3Y y11.2).bind fun y12=> cond ((decide (0≤(wrap .i64 (4+y12.1))))&&(decide ((wrap .i64 (4+y12.1))≤(w8.1.length:Int)))) ((a4J (a06 (a00 (wrap .i64 (4+y12.1))) w8.1)).bind fun y13=> (a3u (y12.2,4)).bind fun y14=> cond ((wrap .u64 y13) != y14.1) (some (((0,0,0,()),[],[],0,0,0,()),5)) ((a1T w8.2.2.1.1).bind fun y15=> cond (!y15) (some (((0,0,0,()),[],[],0,0,0,()),2)) ((y0o a5y ((w8.2.2.1.2.2.1.length:Int),0,w8.2.1,(w8.2.2.1.1,w8.2.2.1.2.1,w8.2.2.1.2.2.1,w8.2.2.1.2.2.2.1,y11.1,wrap .i64 ((wrap .i64 (4+y12.1))+4),w8.2.2.1.2.2.2.2.2.2),())).bind fun w16=> match w16 with |.inl a17=>(cond (decide (a17.2.1.2.2.2.1 > 4194304)) (some (((0,0,0,()),[],[],0,0,0,()),2)) (some (a17.2.1,0))) |.inr b18=>some (b18.2.1,b18.1)))) none))) none)) none)
def b0L:FSem:=⟨[.v (.list false (.int .u8))],[.v Q27,.v QI],a2I⟩
def d7t:Hints:=⟨[(4090,[.sv 0 (.list false (.int .u8)),.sv 38 (.int .u64),.sv 39 (.int .u64),.box 2 Q27,.box 4 Q26,.box 1021 Q16,.ptr 2 2 [],.ptr 4 4 [],.ptr 5 1021 []],[(.exit 0,[.sv 0 (.list false (.int .u8)),.box 2 Q27,.box 4 Q26,.box 1021 Q16,.ptr 2 2 [],.ptr 4 4 [],.ptr 5 1021 []])]),(1048570,[.sv 93 QI,.sv 94 QI,.box 2 Q27,.box 4 Q26,.ptr 2 2 [],.ptr 4 4 [],.ref 92 4 [.snd,.snd,.fst]],[(.exit 2,[.box 2 Q27,.box 4 Q26,.ptr 2 2 [],.ptr 4 4 []]),(.ret,[.sv 3 QI,.box 2 Q27,.ptr 2 2 []])])],[],[(12,[.r [4,41],.r [4,42],.q,.w [44,1021,1044],.v,.q,.x,.x,.x]),(13,[.r [4,49],.r [4,50],.q,.w [52,1021,1052],.v,.q,.x,.x,.x])]⟩
def b1X(x:Int):Option Int:= cond ((a05 x 2)==0) (some (wrap .i64 (wrap .u64 (a07 x 2)))) (some (wrap .i64 ((wrap .i64 (0-(wrap .i64 (wrap .u64 (a07 x 2)))))-1)))
def b8g:FSem:=⟨[.v (.int .u64)],[.v QI],b1X⟩
def d7u:Hints:=⟨[],[],[]⟩
def a5z(s:((List Int)×(Int×Int×c1d))):Option (((List Int)×(Int×Int×c1d)) ⊕ ((List Int)×c1d)):= cond (decide (s.2.2.1<s.2.1)) ((a0S (s.2.2.2.2.1,7)).bind fun y11=> (a0S (y11.2,7)).bind fun y12=> (a0S (y12.2,2048)).bind fun y13=> (b1X y13.1).bind fun y14=> cond (lim ((a01 s.2.2.2.1.2.2.2.1)+1)) (some (.inl (s.1,s.2.1,wrap .u64 (s.2.2.1+1),(s.2.2.2.1.1,s.2.2.2.1.2.1,s.2.2.2.1.2.2.1,a03 s.2.2.2.1.2.2.2.1 ([(wrap .i64 y11.1,wrap .i64 y12.1,y14,())]:List Z7),s.2.2.2.1.2.2.2.2),y13.2,()))) none) (some (.inr (s.1,s.2.2.2.1,s.2.2.2.2.1,())))
def a7H(x:(List Int)):Option (a2U×Int×Int×Int):= cond (decide ((x.length:Int)<2)) (some ((0,0,(0,0,0,()),[],[],()),0,0,3)) ((show Option ((List Int)×(Bool×b4J))from(m0h x 0).bind fun x1=> cond (x1 != 245) (some (x,true,(0,0,(0,0,0,()),[],[],()),())) ((m0h x 1).bind fun x2=> some (x,x2 != 75,(0,0,(0,0,0,()),[],[],()),()))).bind fun z3=> cond z3.2.1 (some ((0,0,(0,0,0,()),[],[],()),0,0,2)) (cond (decide (2≤(z3.1.length:Int))) ((a5J (a19 2 (a06 (a01 z3.1) z3.1))).bind fun y4=> (a0S (y4,4194304)).bind fun y5=> (a0S (y5.2,4096)).bind fun y6=> (a0S (y6.2,1048576)).bind fun y7=> (a0S (y7.2,8)).bind fun y8=> (a0S (y8.2,24)).bind fun y9=> (a0S (y9.2,16)).bind fun y10=> (y0o a5z (z3.1,y10.1,0,(wrap .i64 y5.1,wrap .i64 y6.1,(wrap .i64 y7.1,wrap .i64 y8.1,wrap .i64 y9.1,z3.2.2.1.2.2.1.2.2.2),z3.2.2.1.2.2.2),y10.2,())).bind fun w15=> (a0S (w15.2.2.1,1048576)).bind fun y16=> (a3t y16.2).bind fun y17=> cond (y17.1 != 0) (some ((0,0,(0,0,0,()),[],[],()),0,0,y17.1)) ((a1I y17.2).bind fun y18=> cond (decide (y18.1<1)) (some ((0,0,(0,0,0,()),[],[],()),0,0,3)) ((a3Y y18.2).bind fun y19=> cond ((decide (0≤(wrap .i64 (2+y19.1))))&&(decide ((wrap .i64 (2+y19.1))≤(w15.1.length:Int)))) ((a7O (a06 (a00 (wrap .i64 (2+y19.1))) w15.1)).bind fun y20=> (m0h w15.1 (wrap .i64 (2+y19.1))).bind fun x21=> cond (y20 != x21) (some ((0,0,(0,0,0,()),[],[],()),0,0,5)) ((a6Q w15.2.1).bind fun y22=> cond (!y22) (some ((0,0,(0,0,0,()),[],[],()),0,0,2)) (some (w15.2.1,wrap .i64 ((wrap .i64 (2+y19.1))+1),wrap .i64 y16.1,0)))) none))) none))
def b4k:FSem:=⟨[.v (.list false (.int .u8))],[.v (.pair QI (.pair QI (.pair Q12 (.pair (.list false Q12) Q43)))),.v QI,.v QI,.v QI],a7H⟩
def H71:Hints:=⟨[(8186,[.sv 0 (.list false (.int .u8)),.sv 54 (.int .u64),.sv 55 (.int .u64),.box 2 Q58,.box 1029 Q16,.ptr 2 2 [],.ptr 6 1029 []],[(.exit 0,[.sv 0 (.list false (.int .u8)),.box 2 Q58,.box 1029 Q16,.ptr 2 2 [],.ptr 6 1029 []])])],[(14,[(.normal,[.sv 0 (.list false (.int .u8)),.sv 25 .bool,.box 2 Q58,.ptr 2 2 []])])],[(25,[.v,.v,.v,.v,.v,.v,.v,.v,.x])]⟩
def b2X(x:(List Int)):Option Z14:= cond (lim (a01 x)) (some (x,0,0,())) none
def b9t:FSem:=⟨[.v (.list false (.int .u8))],[.b Q16],b2X⟩
def H72:Hints:=⟨[],[],[]⟩
def a0N(x:Z14):Option Z30:= some (x.2.2.1,x)
def a2g:FSem:=⟨[.r false (.b Q16)],[.v QI],a0N⟩
def H76:Hints:=⟨[],[],[]⟩
def a2A(x:Z14):Option Z30:= some (wrap .i64 ((wrap .i64 (8*(x.1.length:Int)))-x.2.1),x)
def a7T:FSem:=⟨[.r false (.b Q16)],[.v QI],a2A⟩
def H74:Hints:=⟨[],[],[(1,[.p,.p,.q,.q,.v,.v,.p,.p,.q,.q,.x,.x])]⟩
def a1y(x:Z33):Option Z30:= (m0h x.1.1 (wrap .i64 (a07 x.2 8))).bind fun x1=> cond (decide ((wrap .i64 (7-(a05 x.2 8)))<0)) none (some (bits .u8 .and (A0k .u8 x1 (wrap .i64 (7-(a05 x.2 8)))) 1,x.1))
def a5A:FSem:=⟨[.r false (.b Q16),.v QI],[.v (.int .u8)],a1y⟩
def d7v:Hints:=⟨[],[],[]⟩
def a4d(s:Z85):Option (Z85 ⊕ Z55):= cond (decide (s.2.2.1<s.2.1)) ((a1y (s.2.2.2.1,s.2.2.2.1.2.1)).bind fun y3=> some (.inl (bits .u64 .or (A0j .u64 s.1 1) (wrap .u64 y3.1),s.2.1,wrap .i64 (s.2.2.1+1),(y3.2.1,wrap .i64 (y3.2.2.1+1),y3.2.2.2),()))) (some (.inr (s.1,s.2.2.2.1,())))
def a0H(x:Z33):Option Z30:= cond (x.1.2.2.1 != 0) (some (0,x.1)) ((show Option Z69 from cond (decide (x.2<0)) (some (x.2,true,x.1,())) (some (x.2,decide (x.2 > 64),x.1,()))).bind fun z1=> cond z1.2.1 (some (0,z1.2.2.1.1,z1.2.2.1.2.1,1,z1.2.2.1.2.2.2)) ((a2A z1.2.2.1).bind fun y2=> cond (decide (z1.1 > y2.1)) (some (0,y2.2.1,y2.2.2.1,3,y2.2.2.2.2)) ((y0o a4d (0,z1.1,0,y2.2,())).bind fun w4=> some (w4.1,w4.2.1))))
def a2h:FSem:=⟨[.r false (.b Q16),.v QI],[.v (.int .u64)],a0H⟩
def d7w:Hints:=⟨[(506,[.sv 5 (.int .u64),.sv 27 QI,.sv 28 QI,.box pinned Q16,.ptr 0 pinned []],[(.exit 0,[.sv 5 (.int .u64),.box pinned Q16])])],[(14,[(.normal,[.sv 1 QI,.sv 16 .bool,.box pinned Q16,.ptr 0 pinned []])])],[]⟩
def a1b(x:Z33):Option Z30:= (a0H (x.1,x.2)).bind fun y1=> (show Option (Int×Z69)from cond (y1.2.2.2.1 != 0) (some (x.2,y1.1,true,y1.2,())) (some (x.2,y1.1,x.2==0,y1.2,()))).bind fun z2=> cond z2.2.2.1 (some (0,z2.2.2.2.1)) (cond (decide ((wrap .i64 (64-z2.1))<0)) none (cond (decide ((wrap .i64 (64-z2.1))<0)) none (some (A0k .i64 (wrap .i64 (A0j .u64 z2.2.1 (wrap .i64 (64-z2.1)))) (wrap .i64 (64-z2.1)),z2.2.2.2.1))))
def a2J:FSem:=⟨[.r false (.b Q16),.v QI],[.v QI],a1b⟩
def d7x:Hints:=⟨[],[(14,[(.normal,[.sv 1 QI,.sv 5 (.int .u64),.sv 17 .bool,.box pinned Q16])])],[]⟩
def a5V(s:(Int×c1c)):Option ((Int×c1c) ⊕ (Int×c5E)):= cond (decide (s.2.2.1<s.2.1)) ((a1b (s.2.2.2.1,s.1)).bind fun y4=> cond (lim ((a01 s.2.2.2.2.1.2.2.2.2.2.1)+1)) (some (.inl (s.1,s.2.1,wrap .i64 (s.2.2.1+1),y4.2,(s.2.2.2.2.1.1,s.2.2.2.2.1.2.1,s.2.2.2.2.1.2.2.1,s.2.2.2.2.1.2.2.2.1,s.2.2.2.2.1.2.2.2.2.1,a03 s.2.2.2.2.1.2.2.2.2.2.1 [y4.1],s.2.2.2.2.1.2.2.2.2.2.2),()))) none) (some (.inr (s.1,s.2.2.2.2.1,s.2.2.2.1,())))
def a8A(x:(Z14×a1M)):Option (Bool×Z14×a1M):= (a0H (x.1,5)).bind fun y1=> (a0H (y1.2,4)).bind fun y2=> (a0H (y2.2,5)).bind fun y3=> (y0o a5V (wrap .i64 y3.1,wrap .i64 ((wrap .i64 y1.1)+1),0,y3.2,(x.2.1,x.2.2.1,x.2.2.2.1,wrap .i64 y2.1,x.2.2.2.2.2),())).bind fun w5=> (a1r w5.2.1.2.2.2.2.2.1).bind fun y6=> some (y6==w5.1,w5.2.2.1,w5.2.1)
def b5m:FSem:=⟨[.r false (.b Q16),.r false (.b Q41)],[.v .bool],a8A⟩
def d7y:Hints:=⟨[(250,[.sv 6 QI,.sv 20 QI,.sv 21 QI,.box pinned Q16,.box 1000001 Q41,.ptr 0 pinned [],.ptr 1 1000001 []],[(.exit 0,[.sv 6 QI,.box 1000001 Q41,.box pinned Q16,.ptr 1 1000001 []])])],[],[(6,[.p,.p,.p,.r [26,1000001],.r [27,1000001],.p,.v,.w [30,1030,pinned],.q,.a [31,32,1000001],.x,.x,.x])]⟩
def a3g(s:c1c):Option (c1c ⊕ c8r):= cond (decide (s.2.1<3)) ((a1b (s.2.2.1,8)).bind fun y6=> cond ((decide (0≤s.2.1))&&(decide (s.2.1<3))) (some (.inl (s.1,wrap .i64 (s.2.1+1),y6.2,(s.2.2.2.1.1,s.2.2.2.1.2.1,s.2.2.2.1.2.2.1,s.2.2.2.1.2.2.2.1,s.2.2.2.1.2.2.2.2.1,s.2.2.2.1.2.2.2.2.2.1,a09 s.2.2.2.1.2.2.2.2.2.2.1 (a00 s.2.1) y6.1,s.2.2.2.1.2.2.2.2.2.2.2),()))) none) (some (.inr (s.1,s.2.2.1,s.2.2.2.1,())))
def a6J(s:(Int×Bool×c1c)):Option ((Int×Bool×c1c) ⊕ (Int×Bool×c5E)):= cond (decide (s.2.2.2.1<s.2.2.1)) ((a0H (s.2.2.2.2.1,5)).bind fun y15=> (a0H (y15.2,4)).bind fun y16=> cond (lim ((a01 s.2.2.2.2.2.1.2.2.2.2.2.2.2.1)+1)) (some (.inl (s.1,s.2.1,s.2.2.1,wrap .u64 (s.2.2.2.1+1),y16.2,(s.2.2.2.2.2.1.1,s.2.2.2.2.2.1.2.1,s.2.2.2.2.2.1.2.2.1,s.2.2.2.2.2.1.2.2.2.1,s.2.2.2.2.2.1.2.2.2.2.1,s.2.2.2.2.2.1.2.2.2.2.2.1,s.2.2.2.2.2.1.2.2.2.2.2.2.1,a03 s.2.2.2.2.2.1.2.2.2.2.2.2.2.1 ([(wrap .i64 ((wrap .i64 y15.1)+1),wrap .i64 y16.1,())]:List (Int×Int×Unit)),s.2.2.2.2.2.1.2.2.2.2.2.2.2.2),()))) none) (some (.inr (s.1,s.2.1,s.2.2.2.2.2.1,s.2.2.2.2.1,())))
def a9s(x:Z14):Option (a1M×Int×Bool×Z14):= (a0H (x,3)).bind fun y1=> (a0H (y1.2,5)).bind fun y2=> (a0H (y2.2,5)).bind fun y3=> (show Option (Int×Bool×c5E)from(show Option (c8r ⊕ ((Int×Bool×c5E) ⊕ (Int×Bool×d1W)))from cond ((wrap .i64 y1.1)==2) ((a0H (y3.2,3)).bind fun y4=> some (Sum.inr (Sum.inl (wrap .i64 y3.1,true,(wrap .i64 y1.1,wrap .i64 y2.1,wrap .i64 y4.1,0,0,[],a02 3 0,[],[],(0,[],()),[],()),y4.2,())))) (cond ((wrap .i64 y1.1)==4) ((a0H (y3.2,10)).bind fun y5=> (y0o a3g (wrap .i64 y3.1,0,y5.2,(wrap .i64 y1.1,wrap .i64 y2.1,0,0,wrap .i64 ((wrap .i64 y5.1)+1),[],a02 3 0,[],[],(0,[],()),[],()),())).bind fun w7=> some (Sum.inl (w7.1,w7.2.1,w7.2.2.1,()))) (cond ((wrap .i64 y1.1)==3) (some (Sum.inl (wrap .i64 y3.1,y3.2,(wrap .i64 y1.1,wrap .i64 y2.1,0,0,0,[],a02 3 0,[],[],(0,[],()),[],()),()))) (cond ((wrap .i64 y1.1)==5) (some (Sum.inr (Sum.inr ((wrap .i64 y3.1,true,y3.2,(wrap .i64 y1.1,wrap .i64 y2.1,0,0,0,[],a02 3 0,[],[],(0,[],()),[],()),()))))) (some (Sum.inr (Sum.inl (wrap .i64 y3.1,true,(wrap .i64 y1.1,wrap .i64 y2.1,0,0,0,[],a02 3 0,[],[],(0,[],()),[],()),y3.2,())))))))).bind fun z8=> match z8 with |.inl a9=>((a8A (a9.2.1,a9.2.2.1)).bind fun y11=> some (a9.1,y11.1,y11.2.2,y11.2.1,())) |.inr b10=>(match b10 with |.inl a12=>some (a12.1,a12.2.1,a12.2.2.1,a12.2.2.2.1,()) |.inr b13=>((a0H (b13.2.2.1,2)).bind fun y14=> (y0o a6J (b13.1,b13.2.1,y14.1,0,y14.2,b13.2.2.2.1,())).bind fun w17=> some (w17.1,w17.2.1,w17.2.2.1,w17.2.2.2.1,())))).bind fun z18=> some (z18.2.2.1,z18.1,z18.2.1,z18.2.2.2.1)
def b6D:FSem:=⟨[.r false (.b Q16)],[.v (.pair QI (.pair QI (.pair QI (.pair QI (.pair QI (.pair QL (.pair (.arr 3 QI) (.pair (.list false Q3) Q23)))))))),.v QI,.v .bool],a9s⟩
def d7z:Hints:=⟨[(8106,[.sv 3 QI,.sv 4 .bool,.sv 50 (.int .u64),.sv 51 (.int .u64),.box pinned Q16,.box 2 Q41,.ptr 0 pinned [],.ptr 2 2 []],[(.exit 7,[.sv 3 QI,.sv 4 .bool,.box 2 Q41,.box pinned Q16,.ptr 2 2 []])]),(129550,[.sv 3 QI,.sv 38 QI,.box pinned Q16,.box 2 Q41,.ptr 0 pinned [],.ptr 2 2 []],[(.exit 5,[.sv 3 QI,.box pinned Q16,.box 2 Q41,.ptr 0 pinned [],.ptr 2 2 []])])],[(63,[(.normal,[.sv 3 QI,.sv 4 .bool,.box 2 Q41,.box pinned Q16,.ptr 2 2 []])]),(2024,[(.normal,[.sv 3 QI,.box pinned Q16,.box 2 Q41,.ptr 0 pinned [],.ptr 2 2 []]),(.exit 0,[.sv 3 QI,.sv 4 .bool,.box 2 Q41,.box pinned Q16,.ptr 2 2 []]),(.exit 4,[.sv 3 QI,.sv 4 .bool,.box pinned Q16,.box 2 Q41,.ptr 0 pinned [],.ptr 2 2 []])])],[]⟩
def a3n(s:Z85):Option (Z85 ⊕ Z55):= cond (s.2.2.1==(wrap .i64 (8*(s.2.2.2.1.1.length:Int)))) (some (.inr (0,(s.2.2.2.1.1,s.2.2.2.1.2.1,3,s.2.2.2.1.2.2.2),()))) ((a1y (s.2.2.2.1,s.2.2.1)).bind fun y2=> cond (y2.1==1) (some (.inr (s.2.1,(y2.2.1,wrap .i64 (s.2.2.1+1),y2.2.2.2),()))) (cond (s.2.1==s.1) (some (.inr (0,(y2.2.1,y2.2.2.1,2,y2.2.2.2.2),()))) (some (.inl (s.1,wrap .i64 (s.2.1+1),wrap .i64 (s.2.2.1+1),y2.2,())))))
def a3d(x:Z33):Option Z30:= cond (x.1.2.2.1 != 0) (some (0,x.1)) ((y0o a3n (v0n x.2 0,0,x.1.2.1,x.1,())).bind fun w3=> some (w3.1,w3.2.1))
def b1i:FSem:=⟨[.r false (.b Q16),.v QI],[.v QI],a3d⟩
def d7A:Hints:=⟨[(62,[.sv 1 QI,.sv 5 QI,.sv 6 QI,.box pinned Q16,.ptr 0 pinned []],[(.ret,[.sv 4 QI,.box pinned Q16])])],[],[(4,[.p,.p,.q,.q,.v,.x])]⟩
def a7d(x:Int):Option Int:= cond (decide (x≥2147483648)) (some 0) (cond ((a05 x 2)==0) (some (wrap .i64 (wrap .u64 (a07 x 2)))) (some (wrap .i64 ((wrap .i64 (0-(wrap .i64 (wrap .u64 (a07 x 2)))))-1))))
def b6E:FSem:=⟨[.v (.int .u64)],[.v QI],a7d⟩
def d7B:Hints:=⟨[],[],[]⟩
def b2Y(x:Z33):Option Z50:= (a3d (x.1,32)).bind fun y1=> (a0N y1.2).bind fun y2=> cond (y2.1 != 0) ((a0N y2.2).bind fun y3=> some (0,y3.1,y3.2)) (cond (decide ((wrap .u64 y1.1)<32)) ((a0H (y2.2,x.2)).bind fun y4=> cond (decide (x.2<0)) none ((a7d (wrap .u64 ((A0j .u64 (wrap .u64 y1.1) x.2)+y4.1))).bind fun y5=> (a0N y4.2).bind fun y6=> some (y5,y6.1,y6.2))) ((a0H (y2.2,32)).bind fun y7=> (a0N y7.2).bind fun y8=> cond (y8.1 != 0) ((a0N y8.2).bind fun y9=> some (0,y9.1,y9.2)) ((show Option Z69 from cond (decide (y7.1≥2147483648)) (some (y7.1,true,y8.2,())) (cond (decide (x.2<0)) none (some (y7.1,decide ((A0k .u64 y7.1 x.2)<32),y8.2,())))).bind fun z10=> cond z10.2.1 (some (0,2,z10.2.2.1)) ((a7d z10.1).bind fun y11=> some (y11,0,z10.2.2.1)))))
def b9u:FSem:=⟨[.r false (.b Q16),.v QI],[.v QI,.v QI],b2Y⟩
def d7C:Hints:=⟨[],[(254,[(.normal,[.sv 8 (.int .u64),.sv 44 .bool,.box pinned Q16])])],[]⟩
def a9t(s:Z95):Option (Z95 ⊕ (Z65 ⊕ Z81)):= cond (decide (s.2.2.1<s.2.1)) ((b2Y (s.2.2.2.2.1,s.1)).bind fun y5=> cond (y5.2.1 != 0) (some (.inr (Sum.inr ((y5.2.1,[],y5.2.2,()))))) (cond (lim ((a01 s.2.2.2.1)+1)) (some (.inl (s.1,s.2.1,wrap .i64 (s.2.2.1+1),a03 s.2.2.2.1 [y5.1],y5.2.2,()))) none)) (some (.inr (Sum.inl (s.2.2.2.1,s.2.2.2.2.1,()))))
def b2Z(x:(Z14×Int×Int)):Option Z61:= (show Option (Int×Z69)from(a1P x.2.1).bind fun y1=> cond (!y1) (some (x.2.1,x.2.2,true,x.1,())) (cond (decide (x.2.2<0)) (some (x.2.1,x.2.2,true,x.1,())) (some (x.2.1,x.2.2,decide (x.2.2 > 4194304),x.1,())))).bind fun z2=> cond z2.2.2.1 (some ([],1,z2.2.2.2.1)) ((a0N z2.2.2.2.1).bind fun y3=> cond (y3.1 != 0) ((a0N y3.2).bind fun y4=> some ([],y4.1,y4.2)) ((y0o a9t (z2.1,z2.2.1,0,[],y3.2,())).bind fun w6=> match w6 with |.inl a7=>some (a7.1,0,a7.2.1) |.inr b8=>some (b8.2.1,b8.1,b8.2.2.1)))
def b9v:FSem:=⟨[.r false (.b Q16),.v QI,.v QI],[.o QI,.v QI],b2Z⟩
def d7D:Hints:=⟨[(250,[.sv 1 QI,.sv 27 QI,.sv 28 QI,.own 8 8 QI,.box pinned Q16,.ptr 0 pinned []],[(.exit 0,[.own 8 8 QI,.box pinned Q16]),(.ret,[.sv 7 QI,.own 6 6 QI,.box pinned Q16])])],[(6,[(.normal,[.sv 1 QI,.sv 2 QI,.sv 21 .bool,.box pinned Q16,.ptr 0 pinned []])])],[]⟩
def a8B(s:(Int×Z95)):Option ((Int×Z95) ⊕ Z91):= cond (decide (s.2.2.2.1<s.2.2.1)) ((a1b (s.2.2.2.2.2.1,s.2.1)).bind fun y6=> cond (lim ((a01 s.2.2.2.2.1)+1)) (some (.inl (s.1,s.2.1,s.2.2.1,wrap .i64 (s.2.2.2.1+1),a03 s.2.2.2.2.1 [y6.1],y6.2,()))) none) (some (.inr (s.1,s.2.1,s.2.2.2.2.1,s.2.2.2.2.2.1,())))
def b1Y(x:Z33):Option (Int×Z61):= (a0H (x.1,5)).bind fun y1=> (a0N y1.2).bind fun y2=> cond (y2.1 != 0) ((a0N y2.2).bind fun y3=> some (0,[],y3.1,y3.2)) (cond (decide ((wrap .i64 y1.1)≤25)) ((b2Z (y2.2,wrap .i64 y1.1,x.2)).bind fun y4=> some (wrap .i64 y1.1,y4.1,y4.2.1,y4.2.2)) (cond ((wrap .i64 y1.1) != 31) (some (0,[],2,y2.2)) ((a0H (y2.2,5)).bind fun y5=> (y0o a8B (wrap .i64 y1.1,wrap .i64 y5.1,x.2,0,[],y5.2,())).bind fun w7=> (a0N w7.2.2.2.1).bind fun y8=> cond (y8.1 != 0) ((a0N y8.2).bind fun y9=> some (0,[],y9.1,y9.2)) ((a1r w7.2.2.1).bind fun y10=> cond (y10 != w7.2.1) (some (0,[],2,y8.2)) (some (w7.1,w7.2.2.1,0,y8.2))))))
def b8h:FSem:=⟨[.r false (.b Q16),.v QI],[.v QI,.o QI,.v QI],b1Y⟩
def d7E:Hints:=⟨[(2042,[.sv 7 QI,.sv 10 QI,.sv 37 QI,.sv 38 QI,.own 11 11 QI,.box pinned Q16,.ptr 0 pinned []],[(.exit 0,[.sv 7 QI,.sv 10 QI,.own 11 11 QI,.box pinned Q16,.ptr 0 pinned []])])],[],[]⟩
def a8C(s:(Int×(Int×((List Int)×((List Int)×(Z14×Z84)))))):Option ((Int×(Int×((List Int)×((List Int)×(Z14×Z84))))) ⊕ (((List Int)×(Z5×Z5×Z37)) ⊕ (Int×((List Int)×(Z5×Z37))))):= cond (decide (s.2.1<s.1)) (cond ((decide (0≤s.2.1))&&(decide (s.2.1<(s.2.2.2.1.length:Int)))) ((b1Y (s.2.2.2.2.1,a04 s.2.2.2.1 (a00 s.2.1) 0)).bind fun y6=> cond (y6.2.2.1 != 0) (some (.inr (Sum.inr ((y6.2.2.1,[],(0,[],()),y6.2.2.2,()))))) (cond (lim ((a01 s.2.2.2.2.2.2.1.2.1)+1)) (cond (lim ((a01 s.2.2.1)+(a01 y6.2.1))) (some (.inl (s.1,wrap .i64 (s.2.1+1),a03 s.2.2.1 y6.2.1,s.2.2.2.1,y6.2.2.2,s.2.2.2.2.2.1,(s.2.2.2.2.2.2.1.1,a03 s.2.2.2.2.2.2.1.2.1 [y6.1],s.2.2.2.2.2.2.1.2.2),()))) none) none)) none) (some (.inr (Sum.inl (s.2.2.1,s.2.2.2.2.2.1,s.2.2.2.2.2.2.1,s.2.2.2.2.1,()))))
def b1Z(x:(Z14×Int×Int)):Option (Z5×Z61):= (a7l (x.2.1,x.2.2)).bind fun y1=> cond (!y1) (some ((0,[],()),[],1,x.1)) ((a0H (x.1,4)).bind fun y2=> (a0N y2.2).bind fun y3=> cond (y3.1 != 0) ((a0N y3.2).bind fun y4=> some ((0,[],()),[],y4.1,y4.2)) ((a2R (wrap .i64 y2.1,x.2.1,x.2.2)).bind fun y5=> cond ((y5.length:Int)==0) (some ((0,[],()),[],2,y3.2)) ((y0o a8C ((y5.length:Int),0,[],y5,y3.2,(0,[],()),(wrap .i64 y2.1,[],()),())).bind fun w7=> match w7 with |.inl a8=>some (a8.2.2.1,a8.1,0,a8.2.2.2.1) |.inr b9=>some (b9.2.2.1,b9.2.1,b9.1,b9.2.2.2.1))))
def b8i:FSem:=⟨[.r false (.b Q16),.v QI,.v QI],[.v Q11,.o QI,.v QI],b1Z⟩
def d7F:Hints:=⟨[(4090,[.sv 43 QI,.sv 44 QI,.own 12 12 QI,.own 42 10 QI,.box pinned Q16,.box 6 Q11,.box 11 Q10,.ptr 0 pinned [],.ptr 6 6 [],.ptr 11 11 []],[(.exit 0,[.own 12 12 QI,.box 6 Q11,.box 11 Q10,.box pinned Q16,.ptr 6 6 [],.ptr 11 11 []]),(.ret,[.sv 8 QI,.own 7 7 QI,.box 6 Q11,.box pinned Q16,.ptr 6 6 []])])],[],[]⟩
def b0M(s:(Int×Int×Bool×Int×Int×Z14×b2x)):Option ((Int×Int×Bool×Int×Int×Z14×b2x) ⊕ (Int×Int×Bool×Z14×b2x)):= cond (decide (s.2.2.2.2.1<s.2.2.2.1)) ((a1b (s.2.2.2.2.2.1,s.2.1)).bind fun y7=> cond (lim ((a01 s.2.2.2.2.2.2.2.1.2.2.2.2.2.2.2.2.1)+1)) (some (.inl (s.1,s.2.1,s.2.2.1,s.2.2.2.1,wrap .i64 (s.2.2.2.2.1+1),y7.2,s.2.2.2.2.2.2.1,(s.2.2.2.2.2.2.2.1.1,s.2.2.2.2.2.2.2.1.2.1,s.2.2.2.2.2.2.2.1.2.2.1,s.2.2.2.2.2.2.2.1.2.2.2.1,s.2.2.2.2.2.2.2.1.2.2.2.2.1,s.2.2.2.2.2.2.2.1.2.2.2.2.2.1,s.2.2.2.2.2.2.2.1.2.2.2.2.2.2.1,s.2.2.2.2.2.2.2.1.2.2.2.2.2.2.2.1,a03 s.2.2.2.2.2.2.2.1.2.2.2.2.2.2.2.2.1 [y7.1],s.2.2.2.2.2.2.2.1.2.2.2.2.2.2.2.2.2),()))) none) (some (.inr (s.1,s.2.1,s.2.2.1,s.2.2.2.2.2.1,s.2.2.2.2.2.2.1,s.2.2.2.2.2.2.2.1,())))
def b2o(x:Z33):Option (a1M×Z30):= cond (decide (x.2<1)) (some ((0,0,0,0,0,[],a02 3 0,[],[],(0,[],()),[],()),1,x.1)) (cond (decide (x.2 > 4096)) (some ((0,0,0,0,0,[],a02 3 0,[],[],(0,[],()),[],()),1,x.1)) ((a0N x.1).bind fun y1=> cond (y1.1 != 0) (some ((0,0,0,0,0,[],a02 3 0,[],[],(0,[],()),[],()),y1.1,y1.2)) ((a9s y1.2).bind fun y2=> (a0N y2.2.2.2).bind fun y3=> cond (y3.1 != 0) (some ((0,0,0,0,0,[],a02 3 0,[],[],(0,[],()),[],()),y3.1,y3.2)) ((a7L (y2.1.1,y2.1,x.2)).bind fun y4=> cond (!y4) (some ((0,0,0,0,0,[],a02 3 0,[],[],(0,[],()),[],()),2,y3.2)) ((a4A (y2.1,x.2)).bind fun y5=> (y0o b0M (x.2,y2.2.1,y2.2.2.1,y5,0,y3.2,(0,0,0,0,0,[],a02 3 0,[],[],(0,[],()),[],()),y2.1,())).bind fun w8=> (a0N w8.2.2.2.1).bind fun y9=> cond (y9.1 != 0) (some ((0,0,0,0,0,[],a02 3 0,[],[],(0,[],()),[],()),y9.1,y9.2)) ((a5X w8.2.2.2.2.2.1.1).bind fun y10=> cond y10 ((b1Z (y9.2,w8.1,(w8.2.2.2.2.2.1.2.2.2.2.2.2.2.2.1.length:Int))).bind fun y11=> cond (y11.2.2.1 != 0) (some ((0,0,0,0,0,[],a02 3 0,[],[],(0,[],()),[],()),y11.2.2.1,y11.2.2.2)) (cond (!w8.2.2.1) (some ((0,0,0,0,0,[],a02 3 0,[],[],(0,[],()),[],()),2,y11.2.2.2)) ((a1r w8.2.2.2.2.2.1.2.2.2.2.2.2.2.2.1).bind fun y12=> cond (y12 != w8.2.1) (some ((0,0,0,0,0,[],a02 3 0,[],[],(0,[],()),[],()),2,y11.2.2.2)) ((a9H ((w8.2.2.2.2.2.1.1,w8.2.2.2.2.2.1.2.1,w8.2.2.2.2.2.1.2.2.1,w8.2.2.2.2.2.1.2.2.2.1,w8.2.2.2.2.2.1.2.2.2.2.1,w8.2.2.2.2.2.1.2.2.2.2.2.1,w8.2.2.2.2.2.1.2.2.2.2.2.2.1,w8.2.2.2.2.2.1.2.2.2.2.2.2.2.1,w8.2.2.2.2.2.1.2.2.2.2.2.2.2.2.1,y11.1,y11.2.1,w8.2.2.2.2.2.1.2.2.2.2.2.2.2.2.2.2.2),w8.1)).bind fun y13=> cond (!y13) (some ((0,0,0,0,0,[],a02 3 0,[],[],(0,[],()),[],()),2,y11.2.2.2)) (some ((w8.2.2.2.2.2.1.1,w8.2.2.2.2.2.1.2.1,w8.2.2.2.2.2.1.2.2.1,w8.2.2.2.2.2.1.2.2.2.1,w8.2.2.2.2.2.1.2.2.2.2.1,w8.2.2.2.2.2.1.2.2.2.2.2.1,w8.2.2.2.2.2.1.2.2.2.2.2.2.1,w8.2.2.2.2.2.1.2.2.2.2.2.2.2.1,w8.2.2.2.2.2.1.2.2.2.2.2.2.2.2.1,y11.1,y11.2.1,w8.2.2.2.2.2.1.2.2.2.2.2.2.2.2.2.2.2),0,y11.2.2.2)))))) (cond (!w8.2.2.1) (some ((0,0,0,0,0,[],a02 3 0,[],[],(0,[],()),[],()),2,y9.2)) ((a1r w8.2.2.2.2.2.1.2.2.2.2.2.2.2.2.1).bind fun y14=> cond (y14 != w8.2.1) (some ((0,0,0,0,0,[],a02 3 0,[],[],(0,[],()),[],()),2,y9.2)) ((a9H (w8.2.2.2.2.2.1,w8.1)).bind fun y15=> cond (!y15) (some ((0,0,0,0,0,[],a02 3 0,[],[],(0,[],()),[],()),2,y9.2)) (some (w8.2.2.2.2.2.1,0,y9.2)))))))))))
def c1I:FSem:=⟨[.r false (.b Q16),.v QI],[.v Q42,.v QI],b2o⟩
def H73:Hints:=⟨[(1018,[.sv 1 QI,.sv 8 QI,.sv 9 .bool,.sv 47 QI,.sv 48 QI,.box pinned Q16,.box 4 Q42,.box 7 (.pair QI (.pair QI (.pair QI (.pair QI (.pair QI (.pair QL (.pair (.arr 3 QI) (.pair (.list false Q3) (.pair (.list true QI) Q20))))))))),.ptr 0 pinned [],.ptr 4 4 [],.ptr 7 7 []],[(.exit 0,[.sv 1 QI,.sv 8 QI,.sv 9 .bool,.box pinned Q16,.box 4 Q42,.box 7 (.pair QI (.pair QI (.pair QI (.pair QI (.pair QI (.pair QL (.pair (.arr 3 QI) (.pair (.list false Q3) (.pair (.list true QI) Q20))))))))),.ptr 0 pinned [],.ptr 4 4 [],.ptr 7 7 []])])],[],[(14,[.r [7,50],.r [7,51],.p,.v,.w [54,1054,pinned],.q,.x,.x,.x])]⟩
def a3o(s:Z68):Option (Z68 ⊕ (Z55 ⊕ Z37)):= cond (decide (s.2.1<s.1)) ((a1y (s.2.2.1,s.2.1)).bind fun y1=> cond (y1.1==1) (some (.inr (Sum.inr (((y1.2.1,y1.2.2.1,2,y1.2.2.2.2),()))))) (some (.inl (s.1,wrap .i64 (s.2.1+1),y1.2,())))) (some (.inr (Sum.inl (s.1,s.2.2.1,()))))
def a4X(x:Z14):Option Z14:= cond (x.2.2.1 != 0) (some x) ((y0o a3o (wrap .i64 ((wrap .i64 (a07 (wrap .i64 (x.2.1+7)) 8))*8),x.2.1,x,())).bind fun w2=> match w2 with |.inl a3=>some (a3.2.1.1,a3.1,a3.2.1.2.2) |.inr b4=>some b4.1)
def b1j:FSem:=⟨[.r false (.b Q16)],[],a4X⟩
def H75:Hints:=⟨[(58,[.sv 2 QI,.sv 3 QI,.box pinned Q16,.ptr 0 pinned []],[(.exit 0,[.sv 2 QI,.box pinned Q16,.ptr 0 pinned []]),(.ret,[.box pinned Q16])])],[],[]⟩
def a7I(s:(Int×Int×Int×a2U×c1d)):Option ((Int×Int×Int×a2U×c1d) ⊕ ((Int×a2U×c1d) ⊕ (Int×Int×b4J))):= cond (decide (s.2.2.1<s.2.1)) ((b2o (s.2.2.2.2.2.1,s.2.2.2.2.1.2.1)).bind fun y7=> cond (y7.2.1 != 0) (some (.inr (Sum.inr ((0,2,(0,0,(0,0,0,()),[],[],()),()))))) (cond (lim ((a01 s.2.2.2.2.1.2.2.2.2.1)+1)) (some (.inl (s.1,s.2.1,wrap .i64 (s.2.2.1+1),s.2.2.2.1,(s.2.2.2.2.1.1,s.2.2.2.2.1.2.1,s.2.2.2.2.1.2.2.1,s.2.2.2.2.1.2.2.2.1,a03 s.2.2.2.2.1.2.2.2.2.1 ([y7.1]:List a1M),s.2.2.2.2.1.2.2.2.2.2),y7.2.2,()))) none)) (some (.inr (Sum.inl (s.1,s.2.2.2.1,s.2.2.2.2.1,s.2.2.2.2.2.1,()))))
def a6i(x:(List Int)):Option (a2U×Int×Int):= (a7H x).bind fun y1=> cond (y1.2.2.2 != 0) (some ((0,0,(0,0,0,()),[],[],()),0,y1.2.2.2)) (cond (decide ((x.length:Int)<(wrap .i64 ((wrap .i64 (y1.2.1+y1.2.2.1))+2)))) (some ((0,0,(0,0,0,()),[],[],()),0,3)) (cond ((decide (0≤(wrap .i64 (y1.2.1+y1.2.2.1))))&&(decide ((wrap .i64 (y1.2.1+y1.2.2.1))≤(x.length:Int)))) ((a6c (a06 (a00 (wrap .i64 (y1.2.1+y1.2.2.1))) x)).bind fun y2=> (m0h x (wrap .i64 (y1.2.1+y1.2.2.1))).bind fun x3=> (m0h x (wrap .i64 ((wrap .i64 (y1.2.1+y1.2.2.1))+1))).bind fun x4=> cond (y2 != (bits .u16 .or (A0j .u16 (wrap .u16 x3) 8) (wrap .u16 x4))) (some ((0,0,(0,0,0,()),[],[],()),0,5)) (cond ((decide (0≤(wrap .i64 (y1.2.1+y1.2.2.1))))&&(decide ((wrap .i64 (y1.2.1+y1.2.2.1))≤(x.length:Int)))) (cond ((decide (0≤y1.2.1))&&(decide (y1.2.1≤((a00 (wrap .i64 (y1.2.1+y1.2.2.1)):Nat):Int)))) ((b2X (a19 (a00 y1.2.1) (a06 (a00 (wrap .i64 (y1.2.1+y1.2.2.1))) x))).bind fun y5=> (y0o a7I (wrap .i64 (y1.2.1+y1.2.2.1),y1.1.2.2.1.2.1,0,(0,0,(0,0,0,()),[],[],()),y1.1,y5,())).bind fun w8=> match w8 with |.inl a9=>((a2A a9.2.2.2.1).bind fun y11=> cond (decide (y11.1≥8)) (some ((0,0,(0,0,0,()),[],[],()),0,2)) ((a4X y11.2).bind fun y12=> (a0N y12).bind fun y13=> cond (y13.1 != 0) (some ((0,0,(0,0,0,()),[],[],()),0,2)) ((a4k a9.2.2.1).bind fun y14=> cond (!y14) (some ((0,0,(0,0,0,()),[],[],()),0,2)) (some (a9.2.2.1,wrap .i64 (a9.1+2),0))))) |.inr b10=>some (b10.2.2.1,b10.1,b10.2.1)) none) none)) none))
def b7i:FSem:=⟨[.v (.list false (.int .u8))],[.v Q60,.v QI,.v QI],a6i⟩
def H21:Hints:=⟨[(2042,[.sv 9 QI,.sv 59 QI,.sv 60 QI,.box 2 Q60,.box 5 Q59,.box 1056 Q16,.ptr 2 2 [],.ptr 5 5 [],.ptr 10 1056 []],[(.exit 0,[.sv 9 QI,.box 2 Q60,.box 5 Q59,.box 1056 Q16,.ptr 2 2 [],.ptr 5 5 [],.ptr 10 1056 []]),(.ret,[.sv 3 QI,.sv 4 QI,.box 2 Q60,.ptr 2 2 []])])],[],[(7,[.v,.v,.v,.v,.v,.v,.v,.v,.v,.v,.v,.v,.v,.v,.v,.v,.v,.x])]⟩
def a4K(x:((List Int)×(Z97×Int×Int×Int))):Option (a2U×Z28):= (m0h x.2.1.2.1 x.2.2.1).bind fun x1=> cond (decide ((wrap .i64 ((x.1.length:Int)-x.2.2.2.1))<x1)) (some ((0,0,(0,0,0,()),[],[],()),(0,([]:(List (List Int))),()),3)) (cond ((decide (0≤(wrap .i64 (x.2.2.2.1+x1))))&&(decide ((wrap .i64 (x.2.2.2.1+x1))≤(x.1.length:Int)))) (cond ((decide (0≤x.2.2.2.1))&&(decide (x.2.2.2.1≤((a00 (wrap .i64 (x.2.2.2.1+x1)):Nat):Int)))) ((a6i (a19 (a00 x.2.2.2.1) (a06 (a00 (wrap .i64 (x.2.2.2.1+x1))) x.1))).bind fun y2=> cond (y2.2.2 != 0) (some ((0,0,(0,0,0,()),[],[],()),(0,([]:(List (List Int))),()),y2.2.2)) ((show Option (Bool×a2U×c2X)from cond (decide (y2.2.1<x1)) (some (true,(0,0,(0,0,0,()),[],[],()),(0,([]:(List (List Int))),()),y2.1,())) (cond (!(eqT Q12 y2.1.2.2.1 x.2.1.1)) (some (true,(0,0,(0,0,0,()),[],[],()),(0,([]:(List (List Int))),()),y2.1,())) (cond (y2.1.1 != x.2.2.2.2) (some (true,(0,0,(0,0,0,()),[],[],()),(0,([]:(List (List Int))),()),y2.1,())) ((m0h x.2.1.2.2.1 x.2.2.1).bind fun x3=> some (y2.1.2.1 != x3,(0,0,(0,0,0,()),[],[],()),(0,([]:(List (List Int))),()),y2.1,()))))).bind fun z4=> cond z4.1 (some ((0,0,(0,0,0,()),[],[],()),(0,([]:(List (List Int))),()),2)) ((a3M z4.2.2.2.1).bind fun y5=> cond (y5.2 != 0) (some ((0,0,(0,0,0,()),[],[],()),(0,([]:(List (List Int))),()),y5.2)) (some (z4.2.2.2.1,y5.1,0))))) none) none)
def a9B:FSem:=⟨[.v (.list false (.int .u8)),.v Q27,.v QI,.v QI,.v QI],[.v Q60,.v Q15,.v QI],a4K⟩
def d7G:Hints:=⟨[],[(126,[(.normal,[.sv 72 .bool,.box 10 Q60,.box 11 Q15,.box 14 Q60,.ptr 10 10 [],.ptr 11 11 [],.ptr 14 14 []])])],[(7,[.v,.v,.x,.x,.q,.q,.v,.v,.x,.x,.x,.q,.q,.v,.x,.x,.x,.q,.q,.v,.v,.v,.v,.v,.x,.x]),(12,[.q,.r [17,86],.w [0,10],.x,.x])]⟩
def d2f:Hints:=⟨[(250,[.sv 35 (.list false QL),.sv 36 QI,.sv 37 QI,.box 4 Q15,.box 6 (.pair QI Q7),.vp 3 Q3,.ptr 4 4 [],.ptr 6 6 []],[(.exit 0,[.box 4 Q15,.box 6 (.pair QI Q7),.ptr 4 4 [],.ptr 6 6 []])])],[(14,[(.normal,[.sv 29 .bool,.box 4 Q15,.vp 2 Q15,.vp 3 Q3,.ptr 4 4 []])])],[(3,[.x,.x,.x,.x,.v,.v,.v,.v,.x,.x,.x,.v,.v,.v,.v,.x,.x]),(9,[.q,.q,.v,.v,.v,.v,.v,.v,.v,.q,.x,.x,.x])]⟩
def b8j(x:(Z11×Int×Int×Unit)):Option Z28:=A0f (a7K [(22,a7j),(56,a4j),(183,a1k)] [(6,.pair (.int .i64) Q7),(12,.pair (.int .i64) Q5),(30,.pair (.int .i64) Q5),(33,.pair (.int .i64) Q5)] [0,1,5,8] [2,3]) d2f Tryz.f104 [.v Q15,.v Q3] [.v Q15,.v (.int .i64)] x
def b8k:FSem:=⟨[.v Q15,.v Q3],[.v Q15,.v QI],b8j⟩
def b9w(s:((List Int)×(Int×(Int×((List Int)×(Int×(Int×((List Int)×c5B)))))))):Option (((List Int)×(Int×(Int×((List Int)×(Int×(Int×((List Int)×c5B))))))) ⊕ Z48):= cond (decide (s.2.2.2.2.2.1<s.2.2.2.2.1)) ((m0h s.2.2.2.1 s.2.2.2.2.2.1).bind fun x3=> (m0h s.2.2.2.2.2.2.2.1.2.2.1 s.2.2.2.2.2.1).bind fun x4=> (show Option (((List Int)×(Int×(Int×(Int×((List Int)×(Int×(Int×((List Int)×c5B)))))))) ⊕ Z5)from cond (decide ((v0n s.2.2.2.2.2.2.2.2.1.1 s.2.2.1)<(v0o s.2.2.2.2.2.2.2.2.1.2.1 (wrap .i64 (s.2.2.1+x4))))) ((a4K (s.1,s.2.2.2.2.2.2.2.1,s.2.2.2.2.2.1,s.2.1,s.2.2.1)).bind fun y5=> cond (y5.2.2 != 0) (some (Sum.inr ((y5.2.2,[],())))) ((b8j (y5.2.1,wrap .i64 ((v0n s.2.2.2.2.2.2.2.2.1.1 s.2.2.1)-s.2.2.1),wrap .i64 ((v0o s.2.2.2.2.2.2.2.2.1.2.1 (wrap .i64 (s.2.2.1+x4)))-s.2.2.1),())).bind fun y6=> cond (y6.2 != 0) (some (Sum.inr ((y6.2,[],())))) ((a5g y6.1).bind fun y7=> cond (lim ((a01 s.2.2.2.2.2.2.1)+(a01 y7))) (some (Sum.inl (s.1,s.2.1,x3,wrap .i64 (s.2.2.1+x4),s.2.2.2.1,s.2.2.2.2.1,s.2.2.2.2.2.1,a03 s.2.2.2.2.2.2.1 y7,s.2.2.2.2.2.2.2.1,s.2.2.2.2.2.2.2.2.1,()))) none))) (some (Sum.inl (s.1,s.2.1,x3,wrap .i64 (s.2.2.1+x4),s.2.2.2.1,s.2.2.2.2.1,s.2.2.2.2.2.1,s.2.2.2.2.2.2.1,s.2.2.2.2.2.2.2.1,s.2.2.2.2.2.2.2.2.1,())))).bind fun z8=> match z8 with |.inl a9=>some (.inl (a9.1,wrap .i64 (a9.2.1+a9.2.2.1),a9.2.2.2.1,a9.2.2.2.2.1,a9.2.2.2.2.2.1,wrap .i64 (a9.2.2.2.2.2.2.1+1),a9.2.2.2.2.2.2.2.1,a9.2.2.2.2.2.2.2.2.1,a9.2.2.2.2.2.2.2.2.2.1,())) |.inr b10=>some (.inr (Sum.inr ((b10.1,b10.2.1,()))))) (some (.inr (Sum.inl (s.2.2.2.2.2.2.1,()))))
def b0N(x:Z14):Option ((List Int)×Int):= (a2I x.1).bind fun y1=> cond (y1.2 != 0) (some ([],y1.2)) ((show Option ((List Int)×(Bool×c5B))from cond (decide (x.2.1<0)) (some (x.1,true,y1.1,x.2,())) (cond (decide (x.2.1 > x.2.2.1)) (some (x.1,true,y1.1,x.2,())) (some (x.1,decide (x.2.2.1 > y1.1.2.2.2.1),y1.1,x.2,())))).bind fun z2=> cond z2.2.1 (some ([],6)) ((y0o b9w (z2.1,z2.2.2.1.2.2.2.2.2.1,0,z2.2.2.1.2.1,(z2.2.2.1.2.1.length:Int),0,[],z2.2.2.1,z2.2.2.2.1,())).bind fun w11=> match w11 with |.inl a12=>some (a12.1,0) |.inr b13=>some (b13.2.1,b13.1)))
def b3G:FSem:=⟨[.v (.list false (.int .u8)),.v Q3],[.o QI,.v QI],b0N⟩
def H43:Hints:=⟨[(1018,[.sv 0 (.list false (.int .u8)),.sv 9 QI,.sv 10 QI,.sv 48 QL,.sv 49 QI,.sv 50 QI,.own 8 8 QI,.box 6 Q27,.vp 3 Q3,.ptr 6 6 []],[(.exit 0,[.own 8 8 QI]),(.ret,[.sv 5 QI,.own 4 4 QI])])],[(30,[(.normal,[.sv 0 (.list false (.int .u8)),.sv 44 .bool,.box 6 Q27,.vp 3 Q3,.ptr 6 6 []])]),(260711,[(.normal,[.sv 0 (.list false (.int .u8)),.sv 9 QI,.sv 12 QI,.sv 13 QI,.sv 48 QL,.sv 49 QI,.sv 50 QI,.own 8 8 QI,.box 6 Q27,.vp 3 Q3,.ptr 6 6 []]),(.ret,[.sv 5 QI,.own 4 4 QI])])],[(12,[.v,.v,.v,.v,.v,.v,.v,.v,.v,.x])]⟩
def a3G(s:((List Int)×(Int×((List Int)×(Int×Int×a8K×Z97×a9O))))):Option (((List Int)×(Int×((List Int)×(Int×Int×a8K×Z97×a9O)))) ⊕ (((List Int)×(Int×a8K×Z97×a9O)) ⊕ (Int×a9O))):= cond (decide (s.2.2.2.2.1<s.2.2.2.1)) ((m0h s.2.2.1 s.2.2.2.2.1).bind fun x2=> (a4K (s.1,s.2.2.2.2.2.2.1,s.2.2.2.2.1,s.2.1,s.2.2.2.2.2.2.2.1.2.1)).bind fun y3=> cond (y3.2.2 != 0) (some (.inr (Sum.inr ((y3.2.2,((0,0,0,()),0,0,[],[],()),()))))) ((a4w (s.2.2.2.2.2.2.2.1.2.2.1,y3.2.1)).bind fun y4=> cond (lim ((a01 s.2.2.2.2.2.2.2.1.2.2.2.1)+1)) (cond (lim ((a01 s.2.2.2.2.2.2.2.1.2.2.2.2.1)+1)) (some (.inl (s.1,wrap .i64 (s.2.1+x2),s.2.2.1,s.2.2.2.1,wrap .i64 (s.2.2.2.2.1+1),s.2.2.2.2.2.1,s.2.2.2.2.2.2.1,(s.2.2.2.2.2.2.2.1.1,wrap .i64 (s.2.2.2.2.2.2.2.1.2.1+y3.1.2.1),y4.1,a03 s.2.2.2.2.2.2.2.1.2.2.2.1 ([(s.2.2.2.2.2.2.2.1.2.1,wrap .i64 (s.2.1-s.2.2.2.2.2.2.1.2.2.2.2.2.1),())]:List (Int×Int×Unit)),a03 s.2.2.2.2.2.2.2.1.2.2.2.2.1 ([y3.1]:List a2U),s.2.2.2.2.2.2.2.1.2.2.2.2.2),()))) none) none)) (some (.inr (Sum.inl (s.1,s.2.1,s.2.2.2.2.2.1,s.2.2.2.2.2.2.1,s.2.2.2.2.2.2.2.1,()))))
def a4L(x:(List Int)):Option (a8K×Int):= (a2I x).bind fun y1=> cond (y1.2 != 0) (some (((0,0,0,()),0,0,[],[],()),y1.2)) ((y0o a3G (x,y1.1.2.2.2.2.2.1,y1.1.2.1,(y1.1.2.1.length:Int),0,((0,0,0,()),0,0,[],[],()),y1.1,(y1.1.1,0,0,[],[],()),())).bind fun w5=> match w5 with |.inl a6=>(cond (decide (a6.2.1<(a6.1.length:Int))) (some (((0,0,0,()),0,0,[],[],()),2)) (cond (a6.2.2.2.2.1.2.2.1 != a6.2.2.2.1.2.2.2.2.1) (some (((0,0,0,()),0,0,[],[],()),5)) (some (a6.2.2.2.2.1,0)))) |.inr b7=>some (b7.2.1,b7.1))
def b0O:FSem:=⟨[.v (.list false (.int .u8))],[.v Q74,.v QI],a4L⟩
def H44:Hints:=⟨[(506,[.sv 0 (.list false (.int .u8)),.sv 7 QI,.sv 28 QL,.sv 29 QI,.sv 30 QI,.box 2 Q74,.box 4 Q27,.box 6 Q73,.ptr 2 2 [],.ptr 4 4 [],.ptr 6 6 []],[(.exit 0,[.sv 0 (.list false (.int .u8)),.sv 7 QI,.box 2 Q74,.box 4 Q27,.box 6 Q73,.ptr 2 2 [],.ptr 4 4 [],.ptr 6 6 []]),(.ret,[.sv 3 QI,.box 2 Q74,.ptr 2 2 []])])],[],[]⟩
def b4U(x:Unit):Option Bool:= (a6h ((8000,1,8,()),[1,2,3],2,0)).bind fun y1=> (a4L y1.1).bind fun y2=> (b4h y2.1).bind fun y3=> (b0N (y1.1,1,3,())).bind fun y4=> (b6X (y2.1,2)).bind fun y5=> cond (y1.2==0) (cond (y2.2==0) (cond (y3.2==0) (cond (y4.2==0) (cond (y5.2==0) (cond ((y2.1.2.2.2.2.1.length:Int)==2) ((a3P (y3.1,[1,2,3])).bind fun y6=> cond y6 ((a3P (y4.1,[2,3])).bind fun y7=> cond y7 (cond (y5.1==1) ((a7P [1,2,3]).bind fun y8=> some (y2.1.2.2.1==y8)) (some false)) (some false)) (some false)) (some false)) (some false)) (some false)) (some false)) (some false)) (some false)
def b8l:FSem:=⟨[],[.v .bool],b4U⟩
def H25:Hints:=⟨[],[],[(7,[.x,.x,.x,.x,.x,.x,.x,.x,.x,.x,.x,.x,.x,.x,.x,.x,.x,.x,.x,.x,.x,.x,.x,.x,.x,.q,.q,.x,.x,.x,.q,.q,.x,.x,.x,.x,.x,.x,.x,.q,.q,.q,.q,.x,.x,.x])]⟩
def b8O(x:Int):Option Int:= (show Option (Int×Bool×Unit)from cond (decide (x<1)) (some (x,true,())) (some (x,decide (x > 31),()))).bind fun z1=> cond z1.2.1 (some 0) (cond (decide ((wrap .u64 (wrap .i64 (z1.1-1)))<0)) none (some (A0j .i64 (-1) (wrap .u64 (wrap .i64 (z1.1-1))))))
def c3c:FSem:=⟨[.v QI],[.v QI],b8O⟩
def d7H:Hints:=⟨[],[(6,[(.normal,[.sv 0 QI,.sv 8 .bool])])],[]⟩
def b7j(x:Int):Option Int:= (show Option (Int×Bool×Unit)from cond (decide (x<1)) (some (x,true,())) (some (x,decide (x > 31),()))).bind fun z1=> cond z1.2.1 (some 0) (cond (decide ((wrap .u64 (wrap .i64 (z1.1-1)))<0)) none (some (wrap .i64 ((A0j .i64 1 (wrap .u64 (wrap .i64 (z1.1-1))))-1))))
def c1J:FSem:=⟨[.v QI],[.v QI],b7j⟩
def d7I:Hints:=⟨[],[(6,[(.normal,[.sv 0 QI,.sv 8 .bool])])],[]⟩
def b2p(x:(Int×Int)):Option Bool:= cond (decide (x.2≥1)) (cond (decide (x.2≤31)) ((b8O x.2).bind fun y1=> cond (decide (x.1≥y1)) ((b7j x.2).bind fun y2=> some (decide (x.1≤y2))) (some false)) (some false)) (some false)
def c1K:FSem:=⟨[.v QI,.v QI],[.v .bool],b2p⟩
def H55:Hints:=⟨[],[],[]⟩
def b2a(x:Z7):Option Bool:= cond (decide (x.1≥1)) (cond (decide (x.1≤1048576)) (cond (decide (x.2.1≥1)) (cond (decide (x.2.1≤8)) (cond (decide (x.2.2.1≥4)) (some (decide (x.2.2.1≤24))) (some false)) (some false)) (some false)) (some false)) (some false)
def b8m:FSem:=⟨[.v Q12],[.v .bool],b2a⟩
def H77:Hints:=⟨[],[],[]⟩
def a7e(s:((List Int)×Z38)):Option (((List Int)×Z38) ⊕ Z0):= cond (decide (s.2.1<(s.1.length:Int))) ((m0h s.1 s.2.1).bind fun x3=> (b2p (x3,s.2.2.1.2.2.1)).bind fun y4=> cond (!y4) (some (.inr (Sum.inr ((false,()))))) (some (.inl (s.1,wrap .i64 (s.2.1+1),s.2.2.1,())))) (some (.inr (Sum.inl ())))
def b3a(x:(Z7×((List Int)×Int))):Option Bool:= (show Option ((List Int)×Z39)from(b2a x.1).bind fun y1=> cond (!y1) (some (x.2.1,true,x.1,())) (cond (decide ((x.2.1.length:Int) > x.2.2)) (some (x.2.1,true,x.1,())) (cond (x.1.2.1==0) none (some (x.2.1,(a05 (x.2.1.length:Int) x.1.2.1) != 0,x.1,()))))).bind fun z2=> cond z2.2.1 (some false) ((y0o a7e (z2.1,0,z2.2.2.1,())).bind fun w5=> match w5 with |.inl a6=>some true |.inr b7=>some b7.1)
def b9x:FSem:=⟨[.v Q12,.v QL,.v QI],[.v .bool],b3a⟩
def H39:Hints:=⟨[(58,[.sv 1 QL,.sv 7 QI,.vp 3 Q12],[(.exit 0,[]),(.ret,[.sv 6 .bool])])],[(6,[(.normal,[.sv 1 QL,.sv 24 .bool,.vp 3 Q12])])],[(6,[.v,.v,.v,.v,.v,.v,.x,.x])]⟩
def b3b(x:(Z7×Z3)):Option ((List Int)×(a8K×Bool)):= (a6h (x.1,x.2.1,wrap .i64 (1+(bits .i64 .and x.2.2.1 63)),bits .i64 .and x.2.2.2 3)).bind fun y1=> (a4L y1.1).bind fun y2=> cond (y1.2==0) (some (y1.1,y2.1,y2.2==0)) (some (y1.1,y2.1,false))
def b9y:FSem:=⟨[.v Q12,.v QL,.v QI,.v QI],[.v (.list false (.int .u8)),.v Q74,.v .bool],b3b⟩
def H40:Hints:=⟨[],[],[(3,[.v,.q,.v,.v,.v,.v,.v,.v,.v,.w [0,9],.x])]⟩
def a7J(s:(Int×Int×a9O)):Option ((Int×Int×a9O) ⊕ (Int×Unit)):= cond (decide (s.2.1<(s.2.2.1.2.2.2.2.1.length:Int))) ((m0h s.2.2.1.2.2.2.2.1 s.2.1).bind fun x1=> (a4m x1).bind fun y2=> some (.inl (wrap .i64 (s.1-(y2.1.length:Int)),wrap .i64 (s.2.1+1),s.2.2.1,()))) (some (.inr (s.1,())))
def b0P(x:((List Int)×a8K)):Option Int:= (y0o a7J ((x.1.length:Int),0,x.2,())).bind fun w3=> some (v0n w3.1 (-1))
def b7k:FSem:=⟨[.v (.list false (.int .u8)),.v Q74],[.v QI],b0P⟩
def H45:Hints:=⟨[(58,[.sv 5 QI,.sv 6 QI,.vp 3 Q74],[(.exit 0,[.sv 5 QI])])],[],[]⟩
def H82:Hints:=⟨[(58,[.sv 0 (.list false Q12),.sv 1 (.list false Q12),.sv 5 QI],[(.exit 0,[]),(.ret,[.sv 4 .bool])])],[],[(6,[.v,.v,.v,.v,.v,.v,.v,.v,.x])]⟩
def b9z(x:(Z13×Z13)):Option Bool:=A0f (a7K [] [] [0,1,4,5] []) H82 Tryz.f82 [.v (.list false Q12),.v (.list false Q12)] [.v .bool] x
def b0Q:FSem:=⟨[.v (.list false Q12),.v (.list false Q12)],[.v .bool],b9z⟩
def d2g:Hints:=⟨[(58,[.sv 0 (.list false Q3),.sv 1 (.list false Q3),.sv 5 QI],[(.exit 0,[]),(.ret,[.sv 4 .bool])])],[],[(6,[.v,.v,.v,.v,.v,.v,.v,.v,.x])]⟩
def b3H(x:(Z4×Z4)):Option Bool:=A0f (a7K [] [] [0,1,4,5] []) d2g Tryz.f166 [.v (.list false Q3),.v (.list false Q3)] [.v .bool] x
def b3I:FSem:=⟨[.v (.list false Q3),.v (.list false Q3)],[.v .bool],b3H⟩
def b5n(x:(Z5×Z5)):Option Bool:= cond (x.1.1==x.2.1) ((a3P (x.1.2.1,x.2.2.1)).bind fun y1=> some y1) (some false)
def b5o:FSem:=⟨[.v Q11,.v Q11],[.v .bool],b5n⟩
def d7J:Hints:=⟨[],[],[]⟩
def c2x(x:(a1M×a1M)):Option Bool:= cond (x.1.1==x.2.1) (cond (x.1.2.1==x.2.2.1) (cond (x.1.2.2.1==x.2.2.2.1) (cond (x.1.2.2.2.1==x.2.2.2.2.1) (cond (x.1.2.2.2.2.1==x.2.2.2.2.2.1) ((a3P (x.1.2.2.2.2.2.1,x.2.2.2.2.2.2.1)).bind fun y1=> cond y1 (cond (eqT (.arr 3 (.int .i64)) x.1.2.2.2.2.2.2.1 x.2.2.2.2.2.2.2.1) ((b3H (x.1.2.2.2.2.2.2.2.1,x.2.2.2.2.2.2.2.2.1)).bind fun y2=> cond y2 ((a3P (x.1.2.2.2.2.2.2.2.2.1,x.2.2.2.2.2.2.2.2.2.1)).bind fun y3=> cond y3 ((b5n (x.1.2.2.2.2.2.2.2.2.2.1,x.2.2.2.2.2.2.2.2.2.2.1)).bind fun y4=> cond y4 ((a3P (x.1.2.2.2.2.2.2.2.2.2.2.1,x.2.2.2.2.2.2.2.2.2.2.2.1)).bind fun y5=> some y5) (some false)) (some false)) (some false)) (some false)) (some false)) (some false)) (some false)) (some false)) (some false)) (some false)
def b2I:FSem:=⟨[.v Q42,.v Q42],[.v .bool],c2x⟩
def H83:Hints:=⟨[],[],[]⟩
def H24:Hints:=⟨[(58,[.sv 5 QI,.vp 2 Q60,.vp 3 Q60],[(.exit 0,[]),(.ret,[.sv 4 .bool])])],[(6,[(.normal,[.sv 41 .bool,.vp 2 Q60,.vp 3 Q60])])],[(6,[.v,.v,.v,.v,.v,.v,.v,.v,.v,.v,.x,.x])]⟩
def b4l(x:(a2U×a2U)):Option Bool:=A0f (a7K [(82,b0Q),(83,b2I)] [] [0,1,4,5] [2,3]) H24 Tryz.f24 [.v Q60,.v Q60] [.v .bool] x
def b4m:FSem:=⟨[.v Q60,.v Q60],[.v .bool],b4l⟩
def b7l(s:c5H):Option (c5H ⊕ (c8s ⊕ (Bool×Unit))):= cond (decide (s.1<(s.2.1.2.2.2.1.length:Int))) ((m0h s.2.1.2.2.2.1 s.1).bind fun x2=> (m0h s.2.2.1.2.2.2.1 s.1).bind fun x3=> cond (!(eqT Q3 x2 x3)) (some (.inr (Sum.inr ((false,()))))) (some (.inl (wrap .i64 (s.1+1),s.2.1,s.2.2.1,())))) (some (.inr (Sum.inl (s.2.1,s.2.2.1,()))))
def b7m(s:c5H):Option (c5H ⊕ Z0):= cond (decide (s.1<(s.2.1.2.2.2.2.1.length:Int))) ((m0h s.2.1.2.2.2.2.1 s.1).bind fun x7=> (m0h s.2.2.1.2.2.2.2.1 s.1).bind fun x8=> (b4l (x7,x8)).bind fun y9=> cond (!y9) (some (.inr (Sum.inr ((false,()))))) (some (.inl (wrap .i64 (s.1+1),s.2.1,s.2.2.1,())))) (some (.inr (Sum.inl ())))
def b0R(x:(a8K×a8K)):Option Bool:= (show Option (Bool×c8s)from cond (!(eqT Q12 x.1.1 x.2.1)) (some (true,x.1,x.2,())) (cond (x.1.2.1 != x.2.2.1) (some (true,x.1,x.2,())) (cond (x.1.2.2.1 != x.2.2.2.1) (some (true,x.1,x.2,())) (cond ((x.1.2.2.2.1.length:Int) != (x.2.2.2.2.1.length:Int)) (some (true,x.1,x.2,())) (some ((x.1.2.2.2.2.1.length:Int) != (x.2.2.2.2.2.1.length:Int),x.1,x.2,())))))).bind fun z1=> cond z1.1 (some false) ((y0o b7l (0,z1.2.1,z1.2.2.1,())).bind fun w4=> match w4 with |.inl a5=>((y0o b7m (0,a5.1,a5.2.1,())).bind fun w10=> match w10 with |.inl a11=>some true |.inr b12=>some b12.1) |.inr b6=>some b6.1)
def b4n:FSem:=⟨[.v Q74,.v Q74],[.v .bool],b0R⟩
def H46:Hints:=⟨[(58,[.sv 5 QI,.vp 2 Q74,.vp 3 Q74],[(.exit 0,[.vp 2 Q74,.vp 3 Q74]),(.ret,[.sv 4 .bool])]),(122,[.sv 6 QI,.vp 2 Q74,.vp 3 Q74],[(.exit 2,[]),(.ret,[.sv 4 .bool])])],[(6,[(.normal,[.sv 43 .bool,.vp 2 Q74,.vp 3 Q74])])],[(6,[.v,.v,.v,.v,.v,.v,.v,.v,.v,.v,.x]),(11,[.v,.v,.v,.v,.v,.v,.v,.v,.v,.v,.x,.x])]⟩
def b0S(x:(Z7×((List Int)×(Int×Int×Int)))):Option Bool:= (b4U ()).bind fun y1=> cond (!y1) (some false) ((show Option ((List Int)×(Int×Z70))from(b3a (x.1,x.2.1,100)).bind fun y2=> cond (!y2) (some (x.2.1,x.2.2.1,x.2.2.2.1,x.2.2.2.2,true,x.1,())) (some (x.2.1,x.2.2.1,x.2.2.2.1,x.2.2.2.2,x.2.2.2.2==0,x.1,()))).bind fun z3=> cond z3.2.2.2.2.1 (some true) ((b3b (z3.2.2.2.2.2.1,z3.1,z3.2.1,0)).bind fun y4=> (b0P (y4.1,y4.2.1)).bind fun y5=> (show Option (Int×Int×Z17)from cond (!y4.2.2) (some (z3.2.2.1,z3.2.2.2.1,y4.1,y5,true,())) (some (z3.2.2.1,z3.2.2.2.1,y4.1,y5,decide (y5<12),()))).bind fun z6=> cond z6.2.2.2.2.1 (some false) (cond (lim (0+(a01 z6.2.2.1))) (cond ((decide (0≤(wrap .i64 ((wrap .i64 (z6.2.2.2.1-12))+(a05 (bits .i64 .and z6.1 65535) 12)))))&&(decide ((wrap .i64 ((wrap .i64 (z6.2.2.2.1-12))+(a05 (bits .i64 .and z6.1 65535) 12)))<((a01 (a03 [] z6.2.2.1):Nat):Int)))) (cond ((decide (0≤(wrap .i64 ((wrap .i64 (z6.2.2.2.1-12))+(a05 (bits .i64 .and z6.1 65535) 12)))))&&(decide ((wrap .i64 ((wrap .i64 (z6.2.2.2.1-12))+(a05 (bits .i64 .and z6.1 65535) 12)))<((a01 (a03 [] z6.2.2.1):Nat):Int)))) ((a4L (a09 (a03 [] z6.2.2.1) (a00 (wrap .i64 ((wrap .i64 (z6.2.2.2.1-12))+(a05 (bits .i64 .and z6.1 65535) 12)))) (bits .u8 .xor (a04 (a03 [] z6.2.2.1) (a00 (wrap .i64 ((wrap .i64 (z6.2.2.2.1-12))+(a05 (bits .i64 .and z6.1 65535) 12)))) 0) z6.2.1))).bind fun y7=> (b0N (a09 (a03 [] z6.2.2.1) (a00 (wrap .i64 ((wrap .i64 (z6.2.2.2.1-12))+(a05 (bits .i64 .and z6.1 65535) 12)))) (bits .u8 .xor (a04 (a03 [] z6.2.2.1) (a00 (wrap .i64 ((wrap .i64 (z6.2.2.2.1-12))+(a05 (bits .i64 .and z6.1 65535) 12)))) 0) z6.2.1),0,0,())).bind fun y8=> cond (y7.2==5) (cond (y8.2==5) (cond ((y8.1.length:Int)==0) ((b0R (y7.1,(0,0,0,()),0,0,[],[],())).bind fun y9=> some y9) (some false)) (some false)) (some false)) none) none) none)))
def b0T:FSem:=⟨[.v Q12,.v QL,.v QI,.v QI,.v (.int .u8)],[.v .bool],b0S⟩
def H11:Hints:=⟨[],[(14,[(.normal,[.sv 1 QL,.sv 2 QI,.sv 3 QI,.sv 4 (.int .u8),.sv 29 .bool,.vp 5 Q12])]),(126,[(.normal,[.sv 3 QI,.sv 4 (.int .u8),.sv 11 (.list false (.int .u8)),.sv 14 QI,.sv 46 .bool])])],[]⟩
end Go.Ab
namespace Go.Ab
open Go.Proofs
set_option maxRecDepth 100000
theorem b4o:Tryz.prog.follows .mixedOrders=true:=by kernel_rfl
theorem d7K:A0z Tryz.prog c2O=true:=by kernel_rfl
theorem d7L:A0x Tryz.prog c2Y=true:=by kernel_rfl
theorem d7M:A0u Tryz.prog c2O c5I=true:=by kernel_rfl
theorem laidOut:laidOutB Tryz.prog=true:=by kernel_rfl
@[reducible] def Ok0(n:Nat)(s:FSem):Prop:=i0w Tryz.prog G0 n s∧l0u Tryz.prog n
theorem cxo{a:List (Nat×FSem)}{b:List (Nat×Ty)}{c d:List Nat}(h:∀p∈a,FOk Tryz.prog G0 p.1 p.2):CxOk Tryz.prog (a7K a b c d):=
 CxOk.of (CxTy.of (tab:=c2O) (l:=c5I) (q:=c2Y) (fun _=>rfl) (fun _=>rfl) (fun _=>rfl) d7K d7L d7M) (fun _=>rfl) h
theorem fo (a : List (Nat × FSem)) (b : List (Nat × Ty)) (c d : List Nat) (H : Hints) {n : Nat} {fn : Func} {e : Code} {s : FSem} (h : ∀ p ∈ a, FOk Tryz.prog G0 p.1 p.2) (hf : Tryz.prog.funcs[n]? = some fn) (hb : fn.body = some e := by rfl) (hk : A0i fn e H s = true := by kernel_rfl) (hn : (fn.name == "runtime.NumGoroutine") = false := by kernel_rfl) (hq : ∀ x, A0f (a7K a b c d) H fn s.ps s.rs x = s.F x := by intro x; kernel_rfl) : Ok0 n s :=
 ⟨i0w.of (cxo h) b4o hf hb hk hq,⟨_,_,hf,hb,hn⟩⟩
theorem c5K:Ok0 22 a7j:=
 fo [] [] [0,2] [1] H22 a0 Tryz.func22
theorem d3e:Ok0 175 b6O:=
 fo [] [] [0,2] [] d5i a0 Tryz.func175
theorem d3f:Ok0 176 b6v:=
 fo [] [] [0,2] [] d5j a0 Tryz.func176
theorem c1i:Ok0 95 a3J:=
 fo [(175,b6O),(176,b6v)] [] [0,1,4] [] H95 (a1 d3e (a1 d3f a0)) Tryz.func95
theorem c9G:Ok0 111 b2z:=
 fo [] [] [0,2] [] d5k a0 Tryz.func111
theorem c1j:Ok0 56 a4j:=
 fo [(22,a7j),(95,a3J),(111,b2z)] [] [0,2,4,6] [1] H56 (a1 c5K (a1 c1i (a1 c9G a0))) Tryz.func56
theorem c1k:Ok0 57 a3K:=
 fo [(111,b2z)] [] [0,2] [1] H57 (a1 c9G a0) Tryz.func57
theorem c5L:Ok0 114 b2R:=
 fo [] [] [0,1,4] [] d5l a0 Tryz.func114
theorem c9H:Ok0 105 b2A:=
 fo [(57,a3K),(114,b2R)] [] [0,2] [1] d5m (a1 c1k (a1 c5L a0)) Tryz.func105
theorem c5M:Ok0 117 a9j:=
 fo [] [] [0,2,4] [] d5n a0 Tryz.func117
theorem c5N:Ok0 128 a9P:=
 fo [] [] [0,2] [] d5o a0 Tryz.func128
theorem c5O:Ok0 211 a9Q:=
 fo [] [] [0,1,4,6] [] d5p a0 Tryz.func211
theorem c5P:Ok0 212 b2S:=
 fo [] [] [0,1,4,6] [3] d5q a0 Tryz.func212
theorem c9I:Ok0 271 b2B:=
 fo [] [] [0,2] [1] d5r a0 Tryz.func271
theorem c5Q:Ok0 213 b1F:=
 fo [(271,b2B)] [] [0,2] [] d5s (a1 c9I a0) Tryz.func213
theorem c5R:Ok0 150 b4d:=
 fo [(211,a9Q),(212,b2S),(213,b1F)] [] [0,1,2,6,8,11,27,41,62] [4] d5t (a1 c5O (a1 c5P (a1 c5Q a0))) Tryz.func150
theorem c5S:Ok0 151 a9R:=
 fo [] [] [0,1,4,7,9,12,16] [2] d5u a0 Tryz.func151
theorem b9A:Ok0 183 a1a:=
 ⟨i0w.of (cx:=c9D) (cxo a0) b4o Tryz.func183 rfl (by kernel_rfl) d2Y,⟨_,_,Tryz.func183,rfl,by kernel_rfl⟩⟩
theorem c7i:Ok0 183 a1k:=
 ⟨i0w.of (cx:=c7f) (cxo a0) b4o Tryz.func183 rfl (by kernel_rfl) d1X,⟨_,_,Tryz.func183,rfl,by kernel_rfl⟩⟩
theorem d2h:Ok0 251 a1c:=
 ⟨i0w.of (cx:=c7g) (cxo a0) b4o Tryz.func251 rfl (by kernel_rfl) d1Y,⟨_,_,Tryz.func251,rfl,by kernel_rfl⟩⟩
theorem c9J:Ok0 196 b3u:=
 fo [(183,a1k),(251,a1c)] [] [0,1,9,11,13,15] [3] d5w (a1 c7i (a1 d2h a0)) Tryz.func196
theorem d3g:Ok0 235 b7Q:=
 fo [(196,b3u)] [] [0,2] [1] d5x (a1 c9J a0) Tryz.func235
theorem c5T:Ok0 214 b1H:=
 fo [] [] [0,1,4] [] d5y a0 Tryz.func214
theorem b9B:Ok0 201 a5c:=
 fo [(214,b1H)] [] [0,1,2,6,7,8] [] d5z (a1 c5T a0) Tryz.func201
theorem c9K:Ok0 236 b4K:=
 fo [(201,a5c)] [] [0,1,2,6,7,9] [3] d5A (a1 b9B a0) Tryz.func236
theorem d3h:Ok0 184 b6P:=
 fo [(117,a9j),(128,a9P),(150,b4d),(151,a9R),(235,b7Q),(236,b4K)] [] [0,1,4,5] [2] d5B (a1 c5M (a1 c5N (a1 c5R (a1 c5S (a1 d3g (a1 c9K a0)))))) Tryz.func184
theorem c9L:Ok0 288 b3v:=
 fo [] [] [0,2,4] [] d5C a0 Tryz.func288
theorem d3i:Ok0 325 b4f:=
 fo [] [] [0,1,3] [] d5D a0 Tryz.func325
theorem d3j:Ok0 289 b6w:=
 fo [(325,b4f)] [] [0,1,4,5,8,12,20,32] [] d5E (a1 d3i a0) Tryz.func289
theorem d3k:Ok0 237 b6Q:=
 fo [(288,b3v),(289,b6w)] [] [0,1,2,6,7,8,10,11] [] d5F (a1 c9L (a1 d3j a0)) Tryz.func237
theorem c5U:Ok0 292 a9l:=
 fo [] [] [0,2] [] d5G a0 Tryz.func292
theorem c5V:Ok0 290 a6x:=
 fo [(292,a9l)] [] [0,2,4] [] d5H (a1 c5U a0) Tryz.func290
theorem c9M:Ok0 291 a9z:=
 fo [] [] [0,1,2,6,7,8,9,10] [] d5I a0 Tryz.func291
theorem d3l:Ok0 238 b6x:=
 fo [(211,a9Q),(290,a6x),(291,a9z),(292,a9l)] [] [0,1,2,3,8,9,10,12,13] [] d5J (a1 c5O (a1 c5V (a1 c9M (a1 c5U a0)))) Tryz.func238
theorem c5W:Ok0 295 b1I:=
 fo [] [] [0,2] [] d5K a0 Tryz.func295
theorem c5X:Ok0 293 a8i:=
 fo [(295,b1I)] [] [0,2,4] [] d5L (a1 c5W a0) Tryz.func293
theorem c9N:Ok0 294 b1k:=
 fo [] [] [0,1,2,3,8,9,10,11,12] [7] d5M a0 Tryz.func294
theorem d3m:Ok0 239 b7R:=
 fo [(212,b2S),(293,a8i),(294,b1k),(295,b1I)] [] [0,1,2,6,7,8,9,10,11] [5] d5N (a1 c5P (a1 c5X (a1 c9N (a1 c5W a0)))) Tryz.func239
theorem c5Y:Ok0 300 a9U:=
 fo [] [] [0,2] [] d5O a0 Tryz.func300
theorem c9O:Ok0 296 a9V:=
 fo [(300,a9U)] [] [0,2,4] [] d5P (a1 c5Y a0) Tryz.func296
theorem c9P:Ok0 298 b4L:=
 fo [(271,b2B)] [(15,.pair QI Q14),(16,.pair QI Q14)] [0,2,3] [1] d5Q (a1 c9I a0) Tryz.func298
theorem c9Q:Ok0 327 a9W:=
 fo [] [] [0,2] [] d5R a0 Tryz.func327
theorem c5Z:Ok0 299 a4a:=
 fo [(327,a9W)] [] [0,2,3,4,5] [] d5S (a1 c9Q a0) Tryz.func299
theorem c9R:Ok0 301 a7u:=
 fo [(299,a4a),(327,a9W)] [] [0,1,4,5,6,7,8,13,22] [] d5T (a1 c5Z (a1 c9Q a0)) Tryz.func301
theorem d3n:Ok0 240 a7M:=
 ⟨i0w.ofR (cx:=c9E) (cxo (a1 b9A (a1 c5Q (a1 c9O (a1 c9P (a1 c5Z (a1 c5Y (a1 c9R a0)))))))) b4o (r:=d1Z) ⟨d0W,d0X⟩ Tryz.func240 rfl (by kernel_rfl) d3b,⟨_,_,Tryz.func240,rfl,by kernel_rfl⟩⟩
theorem c9S:Ok0 190 b2C:=
 fo [] [] [0,2] [] d5V a0 Tryz.func190
theorem d3o:Ok0 241 b7S:=
 fo [(190,b2C)] [] [0,1,4,5,6,8] [] d5W (a1 c9S a0) Tryz.func241
theorem d3p:Ok0 185 b9o:=
 fo [(237,b6Q),(238,b6x),(239,b7R),(240,a7M),(241,b7S)] [] [0,1,4,5,6,7,10,24,28,40,54,79] [2] d5X (a1 d3k (a1 d3l (a1 d3m (a1 d3n (a1 d3o a0))))) Tryz.func185
theorem c9T:Ok0 106 b6R:=
 fo [(184,b6P),(185,b9o)] [] [0,1,4,5,6,7] [2] d5Y (a1 d3h (a1 d3p a0)) Tryz.func106
theorem c9U:Ok0 189 b4M:=
 fo [] [] [0,2] [] d5Z a0 Tryz.func189
theorem c6a:Ok0 113 b1K:=
 fo [(189,b4M)] [] [0,2,4,6] [] d6a (a1 c9U a0) Tryz.func113
theorem c9V:Ok0 115 b2D:=
 fo [(183,a1a)] [(15,.list true (.list true QI))] [0,2,3,5] [] d6b (a1 b9A a0) Tryz.func115
theorem c9W:Ok0 116 b3w:=
 fo [(189,b4M)] [] [0,1,2,6,7,8,9] [4] d6c (a1 c9U a0) Tryz.func116
theorem d3q:Ok0 107 a8Z:=
 ⟨i0w.ofR (cx:=c9F) (cxo (a1 c6a (a1 c5L (a1 c9V (a1 c9W a0))))) b4o (r:=d2a) ⟨d0Y,d0Z⟩ Tryz.func107 rfl (by kernel_rfl) d3c,⟨_,_,Tryz.func107,rfl,by kernel_rfl⟩⟩
theorem c8u:Ok0 50 a9m:=
 fo [(56,a4j),(105,b2A),(106,b6R),(107,a8Z)] [] [0,3,4,7,8,9,10] [1] H50 (a1 c1j (a1 c9H (a1 c9T (a1 d3q a0)))) Tryz.func50
theorem d2i:Ok0 61 b4N:=
 fo [(50,a9m)] [] [0,2,4] [1] H61 (a1 c8u a0) Tryz.func61
theorem c9X:Ok0 123 b6S:=
 fo [(106,b6R)] [] [0,1,4,5,6] [2] d6e (a1 c9T a0) Tryz.func123
theorem b5L:Ok0 124 a2y:=
 fo [(95,a3J)] [] [0,2,3,5] [] d6f (a1 c1i a0) Tryz.func124
theorem c6b:Ok0 130 a5O:=
 fo [] [] [0,1] [] d6g a0 Tryz.func130
theorem b9C:Ok0 125 a2O:=
 fo [(130,a5O)] [] [0,1,2,6,7] [] d6h (a1 c6b a0) Tryz.func125
theorem c9Y:Ok0 126 a9Y:=
 fo [(125,a2O)] [] [0,1,2] [] d6i (a1 b9C a0) Tryz.func126
theorem d3r:Ok0 127 b5h:=
 fo [(124,a2y),(125,a2O),(126,a9Y)] [] [0,1,4,6] [3] d6j (a1 b5L (a1 b9C (a1 c9Y a0))) Tryz.func127
theorem c9Z:Ok0 254 b2E:=
 fo [(214,b1H)] [] [0,1,2,6,8] [] d6k (a1 c5T a0) Tryz.func254
theorem d0A:Ok0 256 b4O:=
 fo [(124,a2y)] [] [0,2] [] d6l (a1 b5L a0) Tryz.func256
theorem c6c:Ok0 258 a6A:=
 fo [] [] [0,2] [] d6m a0 Tryz.func258
theorem c6d:Ok0 259 b1M:=
 fo [] [] [0,2] [] d6n a0 Tryz.func259
theorem d0B:Ok0 260 b4P:=
 fo [(259,b1M)] [] [0,2,3,7] [] d6o (a1 c6d a0) Tryz.func260
theorem d3s:Ok0 307 b7T:=
 fo [(258,a6A),(259,b1M),(260,b4P)] [] [0,1,4,5] [] d6p (a1 c6c (a1 c6d (a1 d0B a0))) Tryz.func307
theorem c6e:Ok0 257 b2U:=
 fo [(307,b7T)] [] [0,1,4,5,7] [] d6q (a1 d3s a0) Tryz.func257
theorem d0C:Ok0 200 b3y:=
 fo [(201,a5c),(236,b4K),(254,b2E),(256,b4O),(257,b2U)] [] [0,1,2,3,8,9,10,11,12] [4] d6r (a1 b9B (a1 c9K (a1 c9Z (a1 d0A (a1 c6e a0))))) Tryz.func200
theorem d3t:Ok0 261 b1d:=
 fo [(130,a5O)] [] [0,1,4] [] d6s (a1 c6b a0) Tryz.func261
theorem d3u:Ok0 202 b9p:=
 fo [(125,a2O),(258,a6A),(259,b1M),(260,b4P),(261,b1d)] [] [0,1,2,6,8,10,11,12] [] d6t (a1 b9C (a1 c6c (a1 c6d (a1 d0B (a1 d3t a0))))) Tryz.func202
theorem d3v:Ok0 129 b7U:=
 fo [(124,a2y),(125,a2O),(200,b3y),(201,a5c),(202,b9p)] [] [0,1,2,3,4,10,11,12,13,14,16] [6] d6u (a1 b5L (a1 b9C (a1 d0C (a1 b9B (a1 d3u a0))))) Tryz.func129
theorem d2j:Ok0 62 b6T:=
 fo [(123,b6S),(124,a2y),(125,a2O),(126,a9Y),(127,b5h),(128,a9P),(129,b7U)] [] [0,1,2,6,7,9,13,37,39,41,43] [4] H62 (a1 c9X (a1 b5L (a1 b9C (a1 c9Y (a1 d3r (a1 c5N (a1 d3v a0))))))) Tryz.func62
theorem d7N:Ok0 63 b1e:=
 fo [(130,a5O)] [] [0] [] H63 (a1 c6b a0) Tryz.func63
theorem d7O:Ok0 64 b1f:=
 fo [] [] [0,2] [] H64 a0 Tryz.func64
theorem d2k:Ok0 88 b4Q:=
 fo [] [] [0,2,3,5] [] H88 a0 Tryz.func88
theorem d3w:Ok0 131 b7V:=
 fo [] [] [0,2] [] d6v a0 Tryz.func131
theorem d0D:Ok0 132 b3z:=
 fo [] [] [0,2,3,5,6] [] d6w a0 Tryz.func132
theorem d7P:Ok0 65 b4g:=
 fo [(88,b4Q),(131,b7V),(132,b3z)] [] [0,1,4,5,8] [2] H65 (a1 d2k (a1 d3w (a1 d0D a0))) Tryz.func65
theorem d0E:Ok0 203 b2F:=
 fo [] [] [0,2] [] d6x a0 Tryz.func203
theorem d3x:Ok0 133 b6y:=
 fo [(203,b2F)] [] [0,1,4,5] [] d6y (a1 d0E a0) Tryz.func133
theorem d3y:Ok0 134 a5M:=⟨c8m _,⟨_,_,Tryz.func134,rfl,by kernel_rfl⟩⟩
theorem d2l:Ok0 66 b4R:=
 fo [(133,b6y),(134,a5M)] [] [0,1,4,5] [] H66 (a1 d3x (a1 d3y a0)) Tryz.func66
theorem d2m:Ok0 67 b1l:=
 fo [] [] [0,2,3,5,6] [] H67 a0 Tryz.func67
theorem c8v:Ok0 19 b1P:=
 fo [(61,b4N),(62,b6T),(63,b1e),(64,b1f),(65,b4g),(66,b4R),(67,b1l)] [(4,.pair (.list true (.int .u8)) Q0)] [0,2,3,7,8,9] [1] H19 (a1 d2i (a1 d2j (a1 d7N (a1 d7O (a1 d7P (a1 d2l (a1 d2m a0))))))) Tryz.func19
theorem d3z:Ok0 179 b2J:=
 fo [] [] [0,1,4,5,6,7,8,9,10,11,12,13] [] d6z a0 Tryz.func179
theorem d3A:A0b Tryz.prog G0 180 b2K:=c8n _
theorem d3B:Ok0 324 b2M:=
 fo [] [] [0,2] [] d2b a0 Tryz.func324
theorem d3C:Ok0 287 a6Y:=
 fo [(324,b2M)] [] [0,2] [] d6A (a1 d3B a0) Tryz.func287
theorem d3D:Ok0 233 b2N:=
 fo [(287,a6Y)] [] [0,1,2,6,7,8,9,10,11,12,13,14,15,16,17,18] [] d6B (a1 d3C a0) Tryz.func233
theorem d3E:Ok0 181 b2O:=
 fo [(233,b2N)] [] [0,1,2,6,7,8] [] d6C (a1 d3D a0) Tryz.func181
theorem c6f:Ok0 101 b1Q:=
 fo [(179,b2J),(180,b2K),(181,b2O)] [] [0,1,2,6,7,8,9] [] d6D (a1 d3z (B0c d3A (a1 d3E a0))) Tryz.func101
theorem d2n:Ok0 42 b3A:=
 fo [(101,b1Q)] [] [0,2,3,5] [] H42 (a1 c6f a0) Tryz.func42
theorem c8w:Ok0 86 a9o:=
 fo [(22,a7j),(56,a4j)] [] [0,2,3,4,6] [1] H86 (a1 c5K (a1 c1j a0)) Tryz.func86
theorem d3F:Ok0 231 b6z:=
 fo [(95,a3J)] [] [0,1,4,5,6,7,9,10] [] d6E (a1 c1i a0) Tryz.func231
theorem d3G:Ok0 177 b6U:=
 fo [(56,a4j),(86,a9o),(231,b6z)] [] [0,2,3] [1] d6F (a1 c1j (a1 c8w (a1 d3F a0))) Tryz.func177
theorem d3H:Ok0 232 b6V:=
 fo [(101,b1Q)] [] [0,2,3,4] [] d6G (a1 c6f a0) Tryz.func232
theorem d3I:Ok0 178 b7W:=
 fo [(101,b1Q),(232,b6V)] [] [0,1,2,6,7] [] d6H (a1 c6f (a1 d3H a0)) Tryz.func178
theorem c8x:Ok0 97 a8q:=
 fo [(42,b3A),(177,b6U),(178,b7W)] [] [0,1,4,5,6,7] [3] H97 (a1 d2n (a1 d3G (a1 d3I a0))) Tryz.func97
theorem d2o:Ok0 85 b4S:=
 fo [(19,b1P),(50,a9m),(57,a3K),(97,a8q)] [] [0,2,3,4,5,6,7,8,11,12] [1] H85 (a1 c8v (a1 c8u (a1 c1k (a1 c8x a0)))) Tryz.func85
theorem d7Q:Ok0 27 b4i:=
 fo [(85,b4S),(86,a9o)] [] [0,2,3,4,5,6,7] [1] H27 (a1 d2o (a1 c8w a0)) Tryz.func27
theorem d7R:Ok0 31 b6Y:=
 fo [] [] [0,1,4,5,6] [2] H31 a0 Tryz.func31
theorem c8y:Ok0 35 a9q:=
 fo [] [] [0,1,4,5] [] H35 a0 Tryz.func35
theorem d2p:Ok0 59 b6Z:=
 fo [(113,b1K),(114,b2R),(115,b2D),(116,b3w)] [] [0,1,4,5,6] [] H59 (a1 c6a (a1 c5L (a1 c9V (a1 c9W a0)))) Tryz.func59
theorem d3J:Ok0 187 b6A:=
 fo [(113,b1K)] [] [0,2,3,5,6,7] [] d6I (a1 c6a a0) Tryz.func187
theorem d3K:Ok0 188 b7a:=
 fo [] [] [0,2,4,8,12,17] [] d6J a0 Tryz.func188
theorem d3L:Ok0 112 b7X:=
 fo [(59,b6Z),(187,b6A),(188,b7a)] [] [0,2,3,4,5,6,7,8] [] d6K (a1 d2p (a1 d3J (a1 d3K a0))) Tryz.func112
theorem d7S:Ok0 58 b7Y:=
 fo [(56,a4j),(112,b7X)] [] [0,2,3,4] [1] H58 (a1 c1j (a1 d3L a0)) Tryz.func58
theorem d0F:Ok0 118 b2G:=
 fo [(190,b2C)] [] [0,1,4,5,6,8] [] d6L (a1 c9S a0) Tryz.func118
theorem d3M:Ok0 191 a1f:=
 ⟨i0w.of (cx:=b0G) (cxo a0) b4o Tryz.func191 rfl (by kernel_rfl) d3d,⟨_,_,Tryz.func191,rfl,by kernel_rfl⟩⟩
theorem d0G:Ok0 119 b0H:=
 fo [(191,a1f)] [] [0,2,3,5] [] d6M (a1 d3M a0) Tryz.func119
theorem d0H:Ok0 243 b3C:=
 fo [(288,b3v)] [] [0,1,4,5,6,7] [] d6N (a1 c9L a0) Tryz.func243
theorem d3N:Ok0 244 b6B:=
 fo [] [] [0,1,4,5,6,7] [] d6O a0 Tryz.func244
theorem d3O:Ok0 192 b7c:=
 fo [(243,b3C),(244,b6B)] [] [0,2,3,4,5,6,7,8] [] d6P (a1 d0H (a1 d3N a0)) Tryz.func192
theorem d0I:Ok0 304 b1m:=
 fo [] [] [0,2] [] d6Q a0 Tryz.func304
theorem d3P:Ok0 302 b4j:=
 fo [(304,b1m)] [] [0,2,3,5,6,7,8] [] d6R (a1 d0I a0) Tryz.func302
theorem d3Q:Ok0 303 b1g:=
 fo [] [] [0,1,2,6,7,8,9,10] [] d6S a0 Tryz.func303
theorem d3R:Ok0 245 b3D:=
 fo [(183,a1a),(290,a6x),(302,b4j),(303,b1g),(304,b1m)] [] [0,1,4,5,6,7,8,9,10,11,12,13] [] d6T (a1 b9A (a1 c5V (a1 d3P (a1 d3Q (a1 d0I a0))))) Tryz.func245
theorem d3S:Ok0 246 b5i:=
 fo [] [] [0,2,3,5,6,7,8,9,10,11] [] d6U a0 Tryz.func246
theorem d3T:Ok0 247 b5j:=
 fo [(95,a3J)] [] [0,1,4,5,6,8,9,10,11,13,14] [] d6V (a1 c1i a0) Tryz.func247
theorem d0J:Ok0 194 b2H:=
 fo [(245,b3D),(246,b5i),(247,b5j)] [] [0,1,2,6,7,8,9,10,11] [] d6W (a1 d3R (a1 d3S (a1 d3T a0))) Tryz.func194
theorem d3U:Ok0 248 b8a:=
 fo [(293,a8i)] [] [0,1,2,6,7,8,9,10,11,12,13] [] d6X (a1 c5X a0) Tryz.func248
theorem c6g:Ok0 250 a9e:=
 fo [(212,b2S),(293,a8i),(294,b1k),(295,b1I)] [] [0,1,2,6,7,8,9,10,11] [5] d6Y (a1 c5P (a1 c5X (a1 c9N (a1 c5W a0)))) Tryz.func250
theorem d3V:Ok0 305 b3E:=
 fo [] [] [0] [] d2d a0 Tryz.func305
theorem d3W:Ok0 249 b8c:=
 fo [(250,a9e),(305,b3E)] [] [0,1,5,7,8,11,12,13,15] [] d2e (a1 c6g (a1 d3V a0)) Tryz.func249
theorem d3X:Ok0 195 b7d:=
 fo [(194,b2H),(248,b8a),(249,b8c),(250,a9e)] [] [0,3,4,5,7,8,9] [] d6Z (a1 d0J (a1 d3U (a1 d3W (a1 c6g a0)))) Tryz.func195
theorem d3Y:Ok0 193 b2m:=
 fo [(194,b2H)] [] [0,1,2,3,6,7,8] [] d7a (a1 d0J a0) Tryz.func193
theorem d3Z:Ok0 120 b3F:=
 fo [(192,b7c),(193,b2m),(195,b7d)] [(5,.list true Q42)] [0,1,4,6,8,9] [67] d7b (a1 d3O (a1 d3Y (a1 d3X a0))) Tryz.func120
theorem d4a:Ok0 252 b6C:=
 fo [(211,a9Q),(290,a6x),(291,a9z),(292,a9l)] [] [0,1,2,6,7,8,9,10] [] d7c (a1 c5O (a1 c5V (a1 c9M (a1 c5U a0)))) Tryz.func252
theorem d4b:Ok0 253 b7e:=
 fo [(183,a1a),(213,b1F),(296,a9V),(298,b4L),(299,a4a),(300,a9U),(301,a7u)] [] [0,1,4,5,6,9,10,11,12,13] [] d7d (a1 b9A (a1 c5Q (a1 c9O (a1 c9P (a1 c5Z (a1 c5Y (a1 c9R a0))))))) Tryz.func253
theorem d4c:Ok0 197 b8d:=
 fo [(151,a9R),(183,a1a),(243,b3C),(250,a9e),(252,b6C),(253,b7e)] [] [0,1,4,5,6,11,22,37,67] [] d7e (a1 c5S (a1 b9A (a1 d0H (a1 c6g (a1 d4a (a1 d4b a0)))))) Tryz.func197
theorem d4d:Ok0 306 b8e:=
 fo [(257,b2U)] [] [0,2,3,4,5,6] [] d7f (a1 c6e a0) Tryz.func306
theorem d4e:Ok0 255 b5k:=
 fo [(256,b4O),(257,b2U),(306,b8e)] [] [0,2,3] [] d7g (a1 d0A (a1 c6e (a1 d4d a0))) Tryz.func255
theorem d4f:Ok0 198 b7f:=
 fo [(200,b3y),(201,a5c),(254,b2E),(255,b5k)] [(14,.pair QI Q1),(40,.pair QI Q1)] [0,1,2,3,9,11,12,13,15,17,18] [] d7h (a1 d0C (a1 b9B (a1 c9Z (a1 d4e a0)))) Tryz.func198
theorem d4g:Ok0 121 b9q:=
 fo [(117,a9j),(118,b2G),(119,b0H),(150,b4d),(196,b3u),(197,b8d),(198,b7f)] [] [0,1,2,7,8,11,12,13] [5] d7i (a1 c5M (a1 d0F (a1 d0G (a1 c5R (a1 c9J (a1 d4c (a1 d4f a0))))))) Tryz.func121
theorem d4h:Ok0 199 b2P:=
 fo [] [] [0,2] [] d7j a0 Tryz.func199
theorem d4i:Ok0 122 b9r:=
 fo [(62,b6T),(199,b2P)] [(5,.pair (.list true (.int .u8)) Q0)] [0,1,4] [2] d7k (a1 d2j (a1 d4h a0)) Tryz.func122
theorem d7T:Ok0 60 b9s:=
 fo [(117,a9j),(118,b2G),(119,b0H),(120,b3F),(121,b9q),(122,b9r)] [] [0,1,5,6,7,9,10,14,15] [] H60 (a1 c5M (a1 d0F (a1 d0G (a1 d3Z (a1 d4g (a1 d4i a0)))))) Tryz.func60
theorem d7U:Ok0 18 b7g:=
 fo [(22,a7j),(56,a4j),(57,a3K),(58,b7Y),(59,b6Z),(60,b9s)] [(10,.pair QI Q56),(52,.pair QI Q54),(57,.pair QI Q54),(63,.pair QI Q54),(79,.pair QI Q54),(95,.pair QI Q54)] [0,1,2,3,9,11,12,14,16] [4,5] H18 (a1 c5K (a1 c1j (a1 c1k (a1 d7S (a1 d2p (a1 d7T a0)))))) Tryz.func18
theorem d2q:Ok0 89 a9A:=
 fo [] [] [0,2,3,5,6] [] H89 a0 Tryz.func89
theorem d7V:Ok0 29 b8f:=
 fo [(66,b4R),(85,b4S),(88,b4Q),(89,a9A)] [] [0,2,3,4,5,6,7,8,10,12] [1] H29 (a1 d2l (a1 d2o (a1 d2k (a1 d2q a0)))) Tryz.func29
theorem d7W:Ok0 96 b7h:=
 fo [(57,a3K),(95,a3J)] [(6,.pair QI Q6),(36,.list true (.list true QI)),(37,.pair QI Q6)] [0,1,5,7,8,9] [3] H96 (a1 c1k (a1 c1i a0)) Tryz.func96
theorem d2r:Ok0 37 b1n:=
 fo [(18,b7g),(19,b1P),(29,b8f),(57,a3K),(95,a3J),(96,b7h),(97,a8q)] [(13,.pair Q12 Q71),(76,.pair Q12 Q70)] [0,1,2,3,8,9,10,12,14,15,16,18,20] [4] H37 (a1 d7U (a1 c8v (a1 d7V (a1 c1k (a1 c1i (a1 d7W (a1 c8x a0))))))) Tryz.func37
theorem d0K:Ok0 143 b4T:=
 fo [] [] [0,2] [] d7l a0 Tryz.func143
theorem d4j:Ok0 208 b5l:=
 fo [] [] [0,2,3,4,5,6,7] [] d7m a0 Tryz.func208
theorem d0L:Ok0 144 a7R:=
 fo [(208,b5l)] [] [0,1,4,5,6,7] [] d7n (a1 d4j a0) Tryz.func144
theorem d0M:Ok0 146 a7S:=
 fo [] [] [0,2] [] d7o a0 Tryz.func146
theorem c6h:Ok0 147 a4V:=
 fo [] [] [0,2] [] d7p a0 Tryz.func147
theorem d0N:Ok0 148 a8P:=
 fo [] [] [0,2] [] d7q a0 Tryz.func148
theorem d4k:Ok0 234 b1h:=
 fo [(147,a4V)] [] [0,1,4,5] [] d7r (a1 c6h a0) Tryz.func234
theorem d4l:Ok0 182 b2n:=
 fo [(203,b2F),(234,b1h)] [] [0,1,4,5,7] [] d7s (a1 d0E (a1 d4k a0)) Tryz.func182
theorem d0O:Ok0 102 b0L:=
 fo [(57,a3K),(89,a9A),(143,b4T),(144,a7R),(146,a7S),(147,a4V),(148,a8P),(182,b2n)] [(4,.pair Q12 Q21)] [0,3,5,6,7,9] [] d7t (a1 c1k (a1 d2q (a1 d0K (a1 d0L (a1 d0M (a1 c6h (a1 d0N (a1 d4l a0)))))))) Tryz.func102
theorem d4m:Ok0 145 b8g:=
 fo [] [] [0,2,3] [] d7u a0 Tryz.func145
theorem d7X:Ok0 71 b4k:=
 fo [(105,b2A),(132,b3z),(143,b4T),(144,a7R),(145,b8g),(146,a7S),(147,a4V),(148,a8P)] [(2,.pair QI Q55),(15,.pair QI Q54),(26,.pair QI Q54),(83,.pair QI Q54),(88,.pair QI Q54),(101,.pair QI Q54),(105,.pair QI Q54)] [0,3,4,5,6,7,8,9,10,11] [] H71 (a1 c9H (a1 d0D (a1 d0K (a1 d0L (a1 d4m (a1 d0M (a1 c6h (a1 d0N a0)))))))) Tryz.func71
theorem d7Y:Ok0 72 b9t:=
 fo [] [] [0,2] [] H72 a0 Tryz.func72
theorem c1l:Ok0 76 a2g:=
 fo [] [] [0,2] [] H76 a0 Tryz.func76
theorem d2s:Ok0 74 a7T:=
 fo [] [] [0,2] [] H74 a0 Tryz.func74
theorem c6i:Ok0 154 a5A:=
 fo [] [] [0,1,4] [] d7v a0 Tryz.func154
theorem b7H:Ok0 209 a2h:=
 fo [(74,a7T),(154,a5A)] [] [0,1,4,5] [] d7w (a1 d2s (a1 c6i a0)) Tryz.func209
theorem c2P:Ok0 152 a2J:=
 fo [(209,a2h)] [] [0,1,4,5] [] d7x (a1 b7H a0) Tryz.func152
theorem d4n:Ok0 210 b5m:=
 fo [(124,a2y),(152,a2J),(209,a2h)] [] [0,1,4,5,6] [] d7y (a1 b5L (a1 c2P (a1 b7H a0))) Tryz.func210
theorem d4o:Ok0 149 b6D:=
 fo [(152,a2J),(209,a2h),(210,b5m)] [(2,.pair QI Q39)] [0,3,4,5,6,7,21,23,25,27] [] d7z (a1 c2P (a1 b7H (a1 d4n a0))) Tryz.func149
theorem d4p:Ok0 330 b1i:=
 fo [(154,a5A)] [] [0,1,4,5,6] [] d7A (a1 c6i a0) Tryz.func330
theorem d4q:Ok0 331 b6E:=
 fo [] [] [0,2,3,6] [] d7B a0 Tryz.func331
theorem d4r:Ok0 313 b9u:=
 fo [(76,a2g),(209,a2h),(330,b1i),(331,b6E)] [] [0,1,4,5,6,7,8] [] d7C (a1 c1l (a1 b7H (a1 d4p (a1 d4q a0)))) Tryz.func313
theorem d4s:Ok0 272 b9v:=
 fo [(76,a2g),(258,a6A),(313,b9u)] [] [0,1,2,6,7,8,9,10] [] d7D (a1 c1l (a1 c6c (a1 d4r a0))) Tryz.func272
theorem d4t:Ok0 215 b8h:=
 fo [(76,a2g),(124,a2y),(152,a2J),(209,a2h),(272,b9v)] [] [0,1,4,5,6,7,8,9,10,11] [] d7E (a1 c1l (a1 b5L (a1 c2P (a1 b7H (a1 d4s a0))))) Tryz.func215
theorem d4u:Ok0 153 b8i:=
 fo [(76,a2g),(201,a5c),(209,a2h),(214,b1H),(215,b8h)] [(11,.pair QI Q1),(41,.pair QI Q1)] [0,1,2,7,8,9,10,12,14,15,16,17] [] d7F (a1 c1l (a1 b9B (a1 b7H (a1 c5T (a1 d4t a0))))) Tryz.func153
theorem d7Z:Ok0 73 c1I:=
 fo [(76,a2g),(123,b6S),(124,a2y),(128,a9P),(149,b6D),(150,b4d),(151,a9R),(152,a2J),(153,b8i)] [(7,.pair QI (.pair QI (.pair QI (.pair QI (.pair QI (.pair QL (.pair (.arr 3 QI) (.pair (.list false Q3) Q23))))))))] [0,1,5,6,8,9,10,11,12] [] H73 (a1 c1l (a1 c9X (a1 b5L (a1 c5N (a1 d4o (a1 c5R (a1 c5S (a1 c2P (a1 d4u a0))))))))) Tryz.func73
theorem d8a:Ok0 75 b1j:=
 fo [(154,a5A)] [] [0,2,3] [] H75 (a1 c6i a0) Tryz.func75
theorem d8b:Ok0 21 b7i:=
 fo [(61,b4N),(67,b1l),(71,b4k),(72,b9t),(73,c1I),(74,a7T),(75,b1j),(76,a2g)] [(5,.pair QI Q56)] [0,3,4,6,7,8,9,10,12] [] H21 (a1 d2i (a1 d2m (a1 d7X (a1 d7Y (a1 d7Z (a1 d2s (a1 d8a (a1 c1l a0)))))))) Tryz.func21
theorem d0P:Ok0 103 a9B:=
 fo [(21,b7i),(50,a9m)] [] [0,1,2,3,4,12,13,15,16] [6] d7G (a1 d8b (a1 c8u a0)) Tryz.func103
theorem d4v:Ok0 104 b8k:=
 fo [(22,a7j),(56,a4j),(183,a1k)] [(6,.pair QI Q7),(12,.pair QI Q5),(30,.pair QI Q5),(33,.pair QI Q5)] [0,1,5,8] [2,3] d2f (a1 c5K (a1 c1j (a1 c7i a0))) Tryz.func104
theorem d2t:Ok0 43 b3G:=
 fo [(86,a9o),(102,b0L),(103,a9B),(104,b8k)] [] [0,1,4,5,7,8,9,10,11,12,13,14,15,18] [3] H43 (a1 c8w (a1 d0O (a1 d0P (a1 d4v a0)))) Tryz.func43
theorem c8z:Ok0 44 b0O:=
 fo [(97,a8q),(102,b0L),(103,a9B)] [(6,.pair Q12 Q71),(20,.pair Q12 Q70),(24,.pair Q12 Q70),(48,.pair Q12 Q70),(90,.pair Q12 Q70),(96,.pair Q12 Q70)] [0,3,5,7,8,9,12] [] H44 (a1 c8x (a1 d0O (a1 d0P a0))) Tryz.func44
theorem d8c:Ok0 25 b8l:=
 fo [(27,b4i),(31,b6Y),(35,a9q),(37,b1n),(42,b3A),(43,b3G),(44,b0O)] [] [0,2,3,5,6,7,8,9,10,11] [] H25 (a1 d7Q (a1 d7R (a1 c8y (a1 d2r (a1 d2n (a1 d2t (a1 c8z a0))))))) Tryz.func25
theorem d4w:Ok0 109 c3c:=
 fo [] [] [0,2] [] d7H a0 Tryz.func109
theorem d4x:Ok0 110 c1J:=
 fo [] [] [0,2] [] d7I a0 Tryz.func110
theorem d8d:Ok0 55 c1K:=
 fo [(109,c3c),(110,c1J)] [] [0,1,4] [] H55 (a1 d4w (a1 d4x a0)) Tryz.func55
theorem d8e:Ok0 77 b8m:=
 fo [] [] [0,2] [1] H77 a0 Tryz.func77
theorem d8f:Ok0 39 b9x:=
 fo [(55,c1K),(77,b8m)] [] [0,1,2,6,7] [3] H39 (a1 d8d (a1 d8e a0)) Tryz.func39
theorem d8g:Ok0 40 b9y:=
 fo [(37,b1n),(44,b0O)] [] [0,1,2,3,8,10,11,12,14] [4] H40 (a1 d2r (a1 c8z a0)) Tryz.func40
theorem d8h:Ok0 45 b7k:=
 fo [(19,b1P)] [] [0,1,4,5,6,7,8] [3] H45 (a1 c8v a0) Tryz.func45
theorem d8i:Ok0 82 b0Q:=
 fo [] [] [0,1,4,5] [] H82 a0 Tryz.func82
theorem d4y:Ok0 166 b3I:=
 fo [] [] [0,1,4,5] [] d2g a0 Tryz.func166
theorem d4z:Ok0 167 b5o:=
 fo [(35,a9q)] [] [0,1,4] [2,3] d7J (a1 c8y a0) Tryz.func167
theorem d8j:Ok0 83 b2I:=
 fo [(35,a9q),(166,b3I),(167,b5o)] [] [0,1,4] [2,3] H83 (a1 c8y (a1 d4y (a1 d4z a0))) Tryz.func83
theorem d8k:Ok0 24 b4m:=
 fo [(82,b0Q),(83,b2I)] [] [0,1,4,5] [2,3] H24 (a1 d8i (a1 d8j a0)) Tryz.func24
theorem d8l:Ok0 46 b4n:=
 fo [(24,b4m)] [] [0,1,4,5,6] [2,3] H46 (a1 d8k a0) Tryz.func46
theorem d8m:Ok0 11 b0T:=
 fo [(25,b8l),(39,b9x),(40,b9y),(43,b3G),(44,b0O),(45,b7k),(46,b4n)] [] [0,1,2,3,4,10,11,13,14,15,17,18,19] [5] H11 (a1 d8c (a1 d8f (a1 d8g (a1 d2t (a1 c8z (a1 d8h (a1 d8l a0))))))) Tryz.func11
end Go.Ab
namespace Go.Ab
open IntKind(wrap)
section
variable {σ β:Type} {f:σ→Option (σ ⊕ β)}
theorem b5M:∀(n m:Nat)(s:σ){b:β},j0x f n s=some b→j0x f (n+m) s=some b
 |0,_,s,b,h=>by simp[j0x]at h
 |n+1,m,s,b,h=>by
  rw[show n+1+m=n+m+1 from by omega];simp only[j0x]at h⊢
  split at h
  cases h;rename_i s' g;exact b5M n m s' h;exact h
theorem c1L{n m:Nat}{s:σ}{b b':β}(h:j0x f n s=some b)(k:j0x f m s=some b'):b=b':=by
 have a:=b5M n m s h;have g:=b5M m n s k;rw[Nat.add_comm,a]at g;exact Option.some.inj g
theorem c8A{n:Nat}{s:σ}{b:β}(h:j0x f n s=some b):v0r f s=some b:=by
 unfold v0r;have g:∃n b,j0x f n s=some b:=⟨n,b,h⟩;rw[dif_pos g];exact congrArg some (c1L g.choose_spec.choose_spec h)
theorem c1m{n:Nat}{s:σ}{b:β}(h:j0x f n s=some b):y0o f s=some b:=by
 unfold y0o;split;rename_i g hb;rw[c1L hb h];exact c8A h
theorem c1M{s:σ}(h:∀n,j0x f n s=none):y0o f s=none:=by
 unfold y0o;rw[h 400];show v0r f s=none;unfold v0r;rw[dif_neg]
 rintro⟨n,b,g⟩
 rw[h n]at g;cases g
theorem a0E{s:σ}{b:β}(h:f s=some (.inr b)):y0o f s=some b:=c1m (n:=1) (by simp[j0x,h])
theorem a0F{s s':σ}(h:f s=some (.inl s')):y0o f s=y0o f s':=by
 by_cases hx:∃n b,j0x f n s'=some b
 obtain⟨n,b,hb⟩:=hx;rw[c1m hb];exact c1m (n:=n+1) (by simp[j0x,h,hb])
 ·have g:∀n,j0x f n s'=none:=fun n=>by
   cases hn:j0x f n s' with
   |none=>rfl
   |some b=>exact absurd ⟨n,b,hn⟩ hx
  rw[c1M g];refine c1M fun n=>?_
  cases n with
  |zero=>rfl
  |succ n=>simp[j0x,h,g n]
theorem c5e(S:Nat→σ)(n:Nat){b:β}(g:∀i,i<n→f (S i)=some (.inl (S (i+1))))(h:f (S n)=some (.inr b)):∀(k:Nat),k≤n→y0o f (S (n-k))=some b
 |0,_=>a0E h
 |k+1,hk=>by
  rw[a0F (g (n-(k+1)) (by omega)),show n-(k+1)+1=n-k from by omega];exact c5e S n g h k (by omega)
theorem a1B(S:Nat→σ)(n:Nat){b:β}(g:∀i,i<n→f (S i)=some (.inl (S (i+1))))(h:f (S n)=some (.inr b)):y0o f (S 0)=some b:=by
 have:=c5e S n g h n (a33 _)
 rwa [Nat.sub_self]at this
end
theorem a0C{n:Int}(h:-9223372036854775808≤n∧n≤9223372036854775807):wrap .i64 n=n:=by
 simp only[wrap,IntKind.bits,IntKind.signed]
 simp
 split<;>omega
theorem a0K{n:Int}(h:0≤n∧n<18446744073709551616):wrap .u64 n=n:=by
 simp only[wrap,IntKind.bits,IntKind.signed]
 simp
 omega
theorem a7f(n:Int):wrap .u8 n=n%256:=by
 simp[wrap,IntKind.bits,IntKind.signed]
def leB:Nat→Nat→List Int
 |0,_=>[]
 |k+1,n=>((n%256:Nat):Int)::leB k (n / 256)
theorem b0U:∀k n,(leB k n).length=k
 |0,_=>rfl
 |k+1,n=>by simp[leB,b0U k]
theorem b8P:∀(k n:Nat),leB (k+1) n=leB k n++[((n / 256^k%256:Nat):Int)]
 |0,n=>by simp[leB]
 |k+1,n=>by
  rw[leB,b8P k (n / 256),leB,Nat.div_div_eq_div_mul,Nat.pow_succ,Nat.mul_comm (256^k)];rfl
theorem b5p(x y:Int):v0o x y=min x y:=by
 simp only[v0o,cond_eq_ite,dT]
 split<;>omega
theorem b3k(x y:Int):v0n x y=max x y:=by
 simp only[v0n,cond_eq_ite,dT]
 split<;>omega
theorem a0V{n:Nat}(h:n<2147483648):lim n=true:=by simp[lim,h]
section
variable {α A σ β:Type}
def a2K(g:A→α→A ⊕ β):List α→A→A ⊕ β
 | [],a=>.inl a
 |x::r,a=>match g a x with
  |.inl a'=>a2K g r a'
  |.inr b=>.inr b
def a8Q(fin:A→β):A ⊕ β→β
 |.inl a=>fin a
 |.inr b=>b
theorem b5q{f:σ→Option (σ ⊕ β)}(l:List α)(S:Nat→A→σ)(g:A→α→A ⊕ β)(I:Nat→A→Prop)(e:A→β)
  (d:∀i (h:i<l.length) a,I i a→(∀a',g a l[i]=.inl a'→f (S i a)=some (.inl (S (i+1) a'))∧I (i+1) a')∧(∀b,g a l[i]=.inr b→f (S i a)=some (.inr b)))
  (c:∀a,I l.length a→f (S l.length a)=some (.inr (e a))):∀(k i:Nat)(a:A),i+k=l.length→I i a→y0o f (S i a)=some (a8Q e (a2K g (l.drop i) a))
 |0,i,a,hi,ha=>by
  obtain rfl:i=l.length:=by omega
  rw[a34];exact a0E (c a ha)
 |k+1,i,a,hi,ha=>by
  have j:i<l.length:=by omega
  rw[a08 j];obtain⟨m,n⟩:=d i j a ha;simp[a2K];cases hg:g a l[i]with
  |inl a'=>
   obtain⟨o,p⟩:=m a' hg;rw[a0F o];exact b5q l S g I e d c k (i+1) a' (by omega) p
  |inr b=>exact a0E (n b hg)
theorem a1R{f:σ→Option (σ ⊕ β)}(l:List α)(S:Nat→A→σ)(g:A→α→A ⊕ β)(I:Nat→A→Prop)(k:A→β)
  (d:∀i (h:i<l.length) a,I i a→(∀a',g a l[i]=.inl a'→f (S i a)=some (.inl (S (i+1) a'))∧I (i+1) a')∧(∀b,g a l[i]=.inr b→f (S i a)=some (.inr b)))
  (c:∀a,I l.length a→f (S l.length a)=some (.inr (k a))){a:A}(e:I 0 a):y0o f (S 0 a)=some (a8Q k (a2K g l a)):=by
 have:=b5q l S g I k d c l.length 0 a (by omega) e
 simp_all
theorem a2i{f:σ→Option (σ ⊕ β)}(l:List α)(S:Nat→σ)(p:α→Bool){bt bf:β}
  (k:∀i (h:i<l.length),p l[i]=true→f (S i)=some (.inl (S (i+1))))(b:∀i (h:i<l.length),p l[i]=false→f (S i)=some (.inr bf))
  (g:f (S l.length)=some (.inr bt)):y0o f (S 0)=some (bif l.all p then bt else bf):=by
 have h:=a1R (A:=Unit) l (fun i _=>S i) (fun _ x=>bif p x then .inl ()else .inr bf) (fun _ _=>True) (fun _=>bt) (fun i h a _=>?_) (fun _ _=>g) (a:=()) trivial
 ·rw[h];congr 1;clear h k b g
  induction l with
  |nil=>rfl
  |cons x l ih=>
   simp[a2K];cases p x with
   |true=>simp_all
   |false=>rfl
 grind
end
theorem a0D{α:Type}{l:List α}{i:Nat}(h:i<l.length):m0h l (i:Int)=some l[i]:=by
 simp_all[m0h]
def a0A(x:Int):Bool:=decide (-1073741824≤x)&&decide (x<1073741824)
theorem a1H{x:Int}:a0A x=true↔-1073741824≤x∧x<1073741824:=by simp[a0A]
def short{α:Type}(l:List α):Prop:=l.length<1000000
theorem a0B{i:Nat}(h:i<1000000):wrap .i64 ((i:Int)+1)=((i+1:Nat):Int):=by
 grind[a0C]
theorem dlt{i n:Nat}(h:i<n):decide ((i:Int)<(n:Int))=true:=by simp_all
theorem dge(n:Nat):decide ((n:Int)<(n:Int))=false:=by simp
theorem a4x{l:List Int}(a:short l):a2s l=some (l.all a0A):=by
 unfold a2s
 have:=a2i (f:=a2w) l (fun i=>(l,(l.length:Int),(i:Int),())) a0A (bt:=Sum.inl ()) (bf:=Sum.inr (false,()))
  (fun i h hp=>by
   have hp:=a1H.1 hp;have g:decide (l[i] < -1073741824)=false:=by simp_all
   have k:decide (l[i]≥1073741824)=false:=by simp_all
   simp only[a2w,dlt h,cT,a0D h,oB,g,k,cF,a0B (a30 h a)])
  (fun i h hp=>by
   simp only[a2w,dlt h,cT,a0D h,oB]
   grind[a0A])
  (by simp[a2w])
 grind
theorem a6j(x:Int):a5d x=some (a0A x):=by
 grind[a5d,a0A]
theorem a7U(x:Int):a7m x=some (a0A x):=by
 grind[a7m,a0A]
theorem a5i(x:Int):a6a x=some (a0A x):=by
 grind[a6a,a0A]
theorem b5r(x:Int):a5e x=some (a0A x):=by
 grind[a5e,a0A]
theorem a5W{l:List Int}(g:short l):a2x l=some (l.all a0A):=by
 unfold a2x
 have:=a2i (f:=a2Y) l (fun i=>(l,(l.length:Int),(i:Int),())) a0A (bt:=Sum.inl ()) (bf:=Sum.inr (false,()))
  (fun i h hp=>by simp[a2Y,a0D h,a6j,hp,a0B (a30 h g),h])
  (fun i h hp=>by simp_all[a2Y,a0D,a6j])
  (by simp[a2Y])
 grind
theorem b4p{l:List Int}(g:short l):a4r l=some (l.all a0A):=by
 unfold a4r
 have:=a2i (f:=a3U) l (fun i=>(l,(l.length:Int),(i:Int),())) a0A (bt:=Sum.inl ()) (bf:=Sum.inr (false,()))
  (fun i h hp=>by simp[a3U,a0D h,a7U,hp,a0B (a30 h g),h])
  (fun i h hp=>by simp_all[a3U,a0D,a7U])
  (by simp[a3U])
 grind
theorem b3J{l:List Int}(g:short l):a5l l=some (l.all a0A):=by
 unfold a5l
 have:=a2i (f:=a3q) l (fun i=>(l,(l.length:Int),(i:Int),())) a0A (bt:=Sum.inl ()) (bf:=Sum.inr (false,()))
  (fun i h hp=>by simp[a3q,a0D h,a5i,hp,a0B (a30 h g),h])
  (fun i h hp=>by simp_all[a3q,a0D,a5i])
  (by simp[a3q])
 grind
theorem a7g{l:List Int}(h:short l):a2G l=some (l.all a0A):=by
 have e:b4e=a2w:=rfl
 have:a2G l=a2s l:=by rfl
 simp_all[a4x]
def b9D(x:Int):Bool:=decide (-32768≤x)&&decide (x<32768)
def a9C(c:List Int)(s:Int):Bool:=decide (1≤c.length)&&(decide (c.length≤32)&&(decide (0≤s)&&(decide (s≤15)&&c.all b9D)))
theorem a9u{c:List Int}{s:Int}(a:short c):a4z (c,s)=some (a9C c s):=by
 have:=a2i (f:=a5k) c (fun i=>(c,(c.length:Int),(i:Int),())) b9D (bt:=Sum.inl ()) (bf:=Sum.inr (false,()))
  (fun i h hp=>by
   simp[b9D]at hp;have g:¬ c[i] < -32768:=by omega
   have k:¬ c[i]≥32768:=by omega
   simp[a5k,a0D h,a0B (a30 h a),h,g,k])
  (fun i h hp=>by
   grind[b9D,a5k,a0D])
  (by simp[a5k])
 simp at this;unfold a4z a9C
 grind
def b5N(x:Int):Bool:=decide (-64≤x)&&decide (x≤64)
def b2b(lag:Int)(t:List Int):Bool:=decide (2≤lag)&&(decide (lag≤1024)&&t.all b5N)
theorem b4V{t:List Int}{lag:Int}(g:t.length=3):a8h (lag,t)=some (b2b lag t):=by
 have:=a2i (f:=a6R) t (fun i=>(t,(i:Int),())) b5N (bt:=Sum.inl ()) (bf:=Sum.inr (false,()))
  (fun i h hp=>by
   simp[b5N]at hp
   grind[a6R,a0D,a0B])
  (fun i h hp=>by
   grind[b5N,a6R,a0D])
  (by simp_all[a6R])
 simp at this;unfold a8h b2b
 grind
def stageB(s:Int×(Int×Unit)):Bool:=decide (1≤s.1)&&(decide (s.1≤32)&&(decide (0≤s.2.1)&&decide (s.2.1≤8)))
def a9f(l:List (Int×Int×Unit)):Bool:=decide (l.length≤3)&&l.all stageB
theorem b1o(s:Int×(Int×Unit)):a6S s=some (stageB s):=by
 grind[a6S,stageB]
theorem b3K{l:List (Int×Int×Unit)}(g:short l):a7k l=some (a9f l):=by
 have:=a2i (f:=a5Y) l (fun i=>(l,(l.length:Int),(i:Int),())) stageB (bt:=Sum.inl ()) (bf:=Sum.inr (false,()))
  (fun i h hp=>by simp[a5Y,a0D h,b1o,hp,a0B (a30 h g),h])
  (fun i h hp=>by simp_all[a5Y,a0D,b1o])
  (by simp[a5Y])
 simp at this;unfold a7k a9f
 grind
@[reducible] def W(n:Int):Int:=wrap .i64 n
theorem a7V(n:Int):wrap .i64 n=Int.bmod n 18446744073709551616:=by
 grind[wrap,IntKind.bits,IntKind.signed]
theorem b7n{n:Int}(h:a0A n=true):W n=n:=by
 grind[a1H,a0C]
def a4e(guess:List Int→Int):List Int→List Int→Option (List Int)
 | [],out=>some out
 |x::r,out=>bif a0A (W (x+guess out))then a4e guess r (out++[W (x+guess out)])else none
def b4q{β:Type}(guess:List Int→Int)(bad:β)(out:List Int)(x:Int):List Int ⊕ β:=bif a0A (W (x+guess out))then .inl (out++[W (x+guess out)])else .inr bad
theorem b3c{β:Type}(h:List Int→Int)(g:β)(f:List Int→β):∀(l out:List Int),a8Q f (a2K (b4q h g) l out)=match a4e h l out with|some r=>f r|none=>g
 | [],out=>rfl
 |x::l,out=>by
  simp[a2K,b4q,a4e];cases a0A (W (x+h out))with
  |true=>simp_all[b3c]
  |false=>rfl
theorem b3d(g:List Int→Int):∀(l out r:List Int),out.all a0A=true→a4e g l out=some r→r.all a0A=true∧r.length=out.length+l.length
 | [],out,r,h,e=>by simp_all[a4e]
 |x::l,out,r,h,e=>by
  simp[a4e]at e;cases hw:a0A (W (x+g out))with
  |true=>
   rw[hw]at e;obtain⟨f,k⟩:=b3d g l _ r (by simp_all) e
   grind
  |false=>simp_all
def a5a:Option (List Int)→List Int×Int
 |some r=>(r,0)
 |none=>([],6)
def atB(out:List Int)(i:Nat):Int:=out.getD (out.length-i) 0
def a6k(o:Nat)(out:List Int):Int:=match o with
 | 1=>atB out 1
 | 2=>2*atB out 1-atB out 2
 | 3=>3*atB out 1-3*atB out 2+atB out 3
 | 4=>4*atB out 1-6*atB out 2+4*atB out 3-atB out 4
 |_=>0
theorem b3e{out:List Int}{i:Nat}(hi:1≤i)(h:i≤out.length)(g:short out):a1i ((i:Int),out)=some (atB out i,out):=by
 unfold a1i;have g:out.length<1000000:=g
 grind[a0C,a0D,atB]
theorem c1n{out:List Int}{o:Nat}(e:o≤4)(h:o≤out.length)(a:short out):∃g,a9k (out,(o:Int))=some g∧∀x,W (x+g)=W (x+a6k o out):=by
 have f:=fun(h':1≤out.length)=>b3e (i:=1) (by omega) h' a;have k:=fun(h':2≤out.length)=>b3e (i:=2) (by omega) h' a;have b:=fun(h':3≤out.length)=>b3e (i:=3) (by omega) h' a;have c:=fun(h':4≤out.length)=>b3e (i:=4) (by omega) h' a;simp at f k b c;unfold a9k;have d:o=0∨o=1∨o=2∨o=3∨o=4:=by omega
 rcases d with rfl|rfl|rfl|rfl|rfl;exact⟨0,rfl,fun x=>rfl⟩;exact⟨_,by simp[f (by omega)];rfl,fun x=>rfl⟩;refine⟨_,by simp[f (by omega),k (by omega)];rfl,fun x=>?_⟩;simp_all[a7V,a6k];refine⟨_,by simp[f (by omega),k (by omega),b (by omega)];rfl,fun x=>?_⟩;simp_all[a7V,a6k];refine⟨_,by simp[f (by omega),k (by omega),b (by omega),c (by omega)];rfl,fun x=>?_⟩;simp_all[a7V,a6k]
theorem a0U{n:Nat}(h:n<1000000):lim n=true:=a0V (by omega)
theorem c2y{warm rest:List Int}{o:Nat}(u:o≤4)(x:warm.length=o)(w:rest.length<100000):
  a9T (warm,rest,(o:Int))=some (a5a (bif warm.all a0A&&rest.all a0A then a4e (a6k o) rest warm else none)):=by
 have c:short warm:=by unfold short;omega
 have m:short rest:=by unfold short;omega
 unfold a9T;have p:¬ (o:Int)<0:=by omega
 have q:¬ (o:Int) > 4:=by omega
 have r:(((warm.length:Nat):Int) != (o:Int))=false:=by simp_all
 simp only[p,q,r,decide_false,cF,oB,a7g c,a7g m];cases hw1:warm.all a0A with
 |false=>rfl
 |true=>
  simp only[bT,cF,oB,a32];cases hw2:rest.all a0A with
  |false=>rfl
  |true=>
   simp[a0U c]
   have:=a1R (f:=a7x) rest (fun i out=>((o:Int),rest,(rest.length:Int),(i:Int),out,())) (b4q (a6k o) (Sum.inr ((6:Int),([]:List Int),())))
    (fun i out=>o≤out.length∧out.length≤o+i) (fun out=>Sum.inl (out,()))
    (fun i h out s=>by
     have j:i<1000000:=by omega
     have l:short out:=by unfold short;omega
     obtain⟨g,t,d⟩:=c1n u s.1 l;have e:wrap .i64 (rest[i]+g)=W (rest[i]+a6k o out):=d _;have k:a2G [W (rest[i]+a6k o out)]=some (a0A (W (rest[i]+a6k o out))):=by rw[a7g (by simp[short])];simp
     simp only[a7x,dlt h,cT,a0D h,oB,t,e,k,b4q];cases hb:a0A (W (rest[i]+a6k o out))with
     |true=>
      simp only[cT,bT,cF,a0U (show out.length+1<1000000 by omega),a0B j];refine⟨fun v n=>?_,fun b hb=>(by grind)⟩;simp at n;subst n;exact⟨rfl,by grind,by grind⟩
     |false=>
      simp)
    (fun out _=>by simp[a7x]) (a:=warm) ⟨by omega,by omega⟩
   simp[b3c]at this;rw[this];cases a4e (a6k o) rest warm<;>rfl
def c3d(out:List Int):List Int→Nat→Int→Int
 | [],_,acc=>acc
 |c::r,i,acc=>bif decide (i<out.length)then c3d out r (i+1) (W (acc+W (c*atB out (i+1))))else acc
def b1p(c:List Int)(s:Int)(out:List Int):Int:=A0k .i64 (c3d out c 0 0) s
theorem d2u{out:List Int}{i:Nat}(h:i<out.length)(g:short out):m0h out (wrap .i64 (wrap .i64 (((out.length:Nat):Int)-1)-(i:Int)))=some (atB out (i+1)):=by
 have g:out.length<1000000:=g
 grind[a0C,a0D,atB]
theorem b7o{out c:List Int}{s:Int}(f:short out)(a:short c):∀(k i:Nat)(acc:Int),i+k=c.length→
  y0o a2Z (out,s,acc,c,(c.length:Int),(i:Int),())=some (s,c3d out (c.drop i) i acc,())
 |0,i,acc,h=>by
  obtain rfl:i=c.length:=by omega
  simp_all[a0E,a2Z,c3d]
 |k+1,i,acc,h=>by
  have g:i<c.length:=by omega
  have e:out.length<1000000:=f;have d:c.length<1000000:=a;rw[a08 g,c3d];have j:wrap .i64 (((out.length:Nat):Int)-1)=((out.length:Nat):Int)-1:=a0C (by omega);have l:wrap .i64 (((out.length:Nat):Int)-1-(i:Int))=((out.length:Nat):Int)-1-(i:Int):=a0C (by omega)
  by_cases hi:i<out.length
  have b:decide (wrap .i64 (wrap .i64 (((out.length:Nat):Int)-1)-(i:Int))<0)=false:=by grind
  simp[hi];rw[a0F (s':=(out,s,W (acc+W (c[i]*atB out (i+1))),c,(c.length:Int),((i+1:Nat):Int),())) (by
   simp only[a2Z,dlt g,cT,a0D g,oB,b,cF,d2u hi f,a0B (show i<1000000 by omega)])]
  exact b7o f a k (i+1) _ (by omega);have b:decide (wrap .i64 (wrap .i64 (((out.length:Nat):Int)-1)-(i:Int))<0)=true:=by grind
  simp[hi];simp_all[a0E,a2Z,a0D]
theorem b5O{out c:List Int}{s:Int}(g:short out)(h:short c)(f:0≤s):a4B (out,c,s)=some (b1p c s out):=by
 have:=b7o (s:=s) g h c.length 0 0 (by omega)
 grind[a4B,b1p]
def b3L(warm rest c:List Int)(s:Int):Option (List Int):=bif warm.all a0A&&rest.all a0A then a4e (b1p c s) rest warm else none
theorem b5s{warm rest c:List Int}{s:Int}(o:a9C c s=true)(w:warm.length=c.length)(v:rest.length<100000):
  a6T (warm,rest,c,s)=some (a5a (b3L warm rest c s)):=by
 have g:=o;simp only[a9C,bA,dT]at g;have k:short c:=by unfold short;omega
 have m:short warm:=by unfold short;omega
 have l:short rest:=by unfold short;omega
 unfold a6T;have q:(((warm.length:Nat):Int) != ((c.length:Nat):Int))=false:=by simp_all
 simp only[a9u k,o,oB,bT,cF,q,a5W m,a5W l,b3L];cases hw1:warm.all a0A with
 |false=>rfl
 |true=>
  simp only[bT,cF,oB,a32];cases hw2:rest.all a0A with
  |false=>rfl
  |true=>
   have p:wrap .i64 (((warm.length:Nat):Int)+((rest.length:Nat):Int))=((warm.length+rest.length:Nat):Int):=by grind[a0C]
   have r:(0:Int)≤((warm.length+rest.length:Nat):Int):=by omega
   simp only[bT,cF,cT,p,r,decide_true,tN,a0U (show warm.length+rest.length<1000000 by omega),a0U (show 0+warm.length<1000000 by omega),a27,List.append_eq,a22]
   have:=a1R (f:=a6y) rest (fun i out=>(c,s,rest,(rest.length:Int),(i:Int),out,())) (b4q (b1p c s) (Sum.inr ((6:Int),([]:List Int),())))
    (fun i out=>out.length≤warm.length+i) (fun out=>Sum.inl (out,()))
    (fun i h out u=>by
     have d:i<1000000:=by omega
     have j:short out:=by unfold short;omega
     have e:wrap .i64 (b1p c s out+rest[i])=W (rest[i]+b1p c s out):=by grind
     simp only[a6y,dlt h,cT,a0D h,oB,b5O j k g.2.2.1,e,a6j,b4q];cases hb:a0A (W (rest[i]+b1p c s out))with
     |true=>
      simp only[cT,bT,cF,a0U (show out.length+1<1000000 by omega),a0B d];refine⟨fun t n=>?_,fun b hb=>(by grind)⟩;simp at n;subst n;exact⟨rfl,by grind⟩
     |false=>
      simp)
    (fun out _=>by simp[a6y]) (a:=warm) (by omega)
   simp[b3c]at this;rw[this];cases a4e (b1p c s) rest warm<;>rfl
def c3e(out:List Int)(lag:Int):List Int→Nat→Int→Int
 | [],_,acc=>acc
 |t::r,i,acc=>c3e out lag r (i+1) (bif decide (0≤(out.length:Int)-lag-1+i)then W (acc+W (t*out.getD ((out.length:Int)-lag-1+i).toNat 0))else acc)
def a9v(lag:Int)(t:List Int)(out:List Int):Int:=A0k .i64 (c3e out lag t 0 0) 6
theorem c3f{out:List Int}{j:Int}(g:0≤j)(h:j<out.length):m0h out j=some (out.getD j.toNat 0):=by
 obtain⟨n,rfl⟩:=Int.eq_ofNat_of_zero_le g;simp_all[a0D]
theorem d1h{n i:Nat}{lag:Int}(h:2≤lag)(g:lag≤1024)(f:n<1000000)(hi:i<3):
  wrap .i64 (wrap .i64 (wrap .i64 ((n:Int)-lag)-1)+(i:Int))=(n:Int)-lag-1+i:=by
 grind[a0C]
theorem c7j{l:List Int}{n j:Nat}(h:j<n):(l.take n).getD j 0=l.getD j 0:=by
 simp_all
theorem a8R{l t:List Int}{lag:Int}{n:Nat}(m:n≤l.length)(j:short l)(o:t.length=3)(a:2≤lag)(b:lag≤1024):∀(k i:Nat)(acc:Int),i+k=3→
  y0o a3V (l,(n:Int),lag,acc,t,(i:Int),())=some (c3e (l.take n) lag (t.drop i) i acc,())
 |0,i,acc,h=>by
  obtain rfl:i=t.length:=by omega
  grind[a0E,a3V,c3e]
 |k+1,i,acc,h=>by
  have g:i<t.length:=by omega
  have f:decide ((i:Int)<3)=true:=by grind
  have p:l.length<1000000:=j;have d:(l.take n).length=n:=by simp_all
  have e:=d1h (n:=n) (i:=i) a b (by omega) (by omega);rw[a08 g,c3e,d]
  by_cases hp:0≤(n:Int)-lag-1+i
  have c:decide ((n:Int)-lag-1+i≥0)=true:=by simp_all
  simp only[hp,decide_true,cT];rw[c7j (show((n:Int)-lag-1+i).toNat<n by omega),a0F (s':=(l,(n:Int),lag,W (acc+W (t[i]*l.getD ((n:Int)-lag-1+i).toNat 0)),t,((i+1:Nat):Int),())) (by
   simp only[a3V,f,cT,a0D g,oB,e,c,c3f hp (show(n:Int)-lag-1+(i:Int)<(l.length:Int)by omega),a0B (show i<1000000 by omega)])]
  exact a8R m j o a b k (i+1) _ (by omega);have c:decide ((n:Int)-lag-1+i≥0)=false:=by simp_all
  simp[hp];rw[a0F (s':=(l,(n:Int),lag,acc,t,((i+1:Nat):Int),())) (by
   simp only[a3V,f,cT,a0D g,oB,e,c,cF,a0B (show i<1000000 by omega)])]
  exact a8R m j o a b k (i+1) _ (by omega)
theorem b4r{l t:List Int}{lag:Int}{n:Nat}(f:n≤l.length)(k:short l)(a:t.length=3)(h:2≤lag)(g:lag≤1024):
  a4s (l,(n:Int),lag,t)=some (a9v lag t (l.take n)):=by
 have:=a8R (t:=t) f k a h g 3 0 0 (by rfl)
 simp_all[a4s,a9v]
theorem b9E{out t:List Int}{lag:Int}(f:short out)(k:t.length=3)(h:2≤lag)(g:lag≤1024):a4s (out,(out.length:Int),lag,t)=some (a9v lag t out):=by
 simp_all[b4r]
def b4s(rest:List Int)(lag:Int)(t:List Int):Option (List Int):=bif rest.all a0A then a4e (a9v lag t) rest []else none
theorem c3g{rest t:List Int}{lag:Int}(d:b2b lag t=true)(e:t.length=3)(m:rest.length<100000):b1J (rest,lag,t)=some (a5a (b4s rest lag t)):=by
 have g:=d;simp only[b2b,bA,dT]at g;have k:short rest:=by unfold short;omega
 unfold b1J;simp only[b4V e,d,oB,bT,cF,b4p k,b4s];cases hw2:rest.all a0A with
 |false=>rfl
 |true=>
  have l:(0:Int)≤((rest.length:Nat):Int):=by omega
  simp[a0U k]
  have:=a1R (f:=a8j) rest (fun i out=>(lag,rest,(rest.length:Int),(i:Int),out,t,())) (b4q (a9v lag t) (Sum.inr ((6:Int),([]:List Int),())))
   (fun i out=>out.length=i) (fun out=>Sum.inl (out,()))
   (fun i h out j=>by
    have b:i<1000000:=by omega
    have c:short out:=by unfold short;omega
    have hp:=b9E (out:=out) (t:=t) (lag:=lag) c e g.1 g.2.1;rw[j]at hp;simp only[a8j,dlt h,cT,a0D h,oB,hp,a7U,b4q];cases hb:a0A (W (rest[i]+a9v lag t out))with
    |true=>
     simp only[cT,bT,cF,a0U (show out.length+1<1000000 by omega),a0B b];simp_all
    |false=>
     simp)
   (fun out _=>by simp[a8j]) (a:=[]) rfl
  simp[b3c]at this;rw[this];cases a4e (a9v lag t) rest []<;>rfl
def b9F{β:Type}(n:Int)(bad:β)(out:List Int)(x:Int):List Int ⊕ β:=bif a0A x&&a0A (A0j .i64 x n)then .inl (out++[A0j .i64 x n])else .inr bad
def upO(n:Int)(l:List Int):Option (List Int):=bif l.all (fun x=>a0A x&&a0A (A0j .i64 x n))then some (l.map fun x=>A0j .i64 x n)else none
theorem b8n{β:Type}(n:Int)(h:β)(g:List Int→β):∀(l out:List Int),a8Q g (a2K (b9F n h) l out)=match upO n l with|some r=>g (out++r)|none=>h
 | [],out=>by simp[a2K,a8Q,upO]
 |x::l,out=>by
  simp only[a2K,b9F,upO,List.all_cons];cases hx:(a0A x&&a0A (A0j .i64 x n))with
  |true=>
   simp only[cT,a32];rw[b8n n h g l _];simp only[upO];cases l.all (fun x=>a0A x&&a0A (A0j .i64 x n))with
   |true=>simp
   |false=>rfl
  |false=>rfl
theorem c3h{l:List Int}{n:Int}(d:0≤n)(e:n≤30)(m:l.length<100000):a8X (l,n)=some (a5a (upO n l)):=by
 have c:short l:=by unfold short;omega
 have g:¬ n<0:=by omega
 have b:¬ n > 30:=by omega
 unfold a8X;simp[g,b]
 have:=a1R (f:=a8k) l (fun i out=>(n,l,(l.length:Int),(i:Int),out,())) (b9F n (Sum.inr ((6:Int),([]:List Int),())))
  (fun i out=>out.length=i) (fun out=>Sum.inl (out,()))
  (fun i h out j=>by
   have k:i<1000000:=by omega
   simp only[a8k,dlt h,cT,a0D h,oB,b5r,b9F,g,decide_false,cF];cases hb:a0A l[i]with
   |true=>
    cases hb2:a0A (A0j .i64 l[i] n)with
    |true=>
     simp only[cT,bT,cF,oB,g,decide_false,a0U (show out.length+1<1000000 by omega),a0B k,a27];simp_all
    |false=>
     simp
   |false=>
    simp)
  (fun out _=>by simp[a8k]) (a:=[]) rfl
 simp[b8n]at this;rw[this];cases upO n l<;>rfl
@[reducible] def Fil:Type:=Int×((List Int)×((List Int)×Unit))
def a2r(x:Int):Int:=v0o (v0n x (-1073741824)) 1073741823
def b9G(x:Int):Int:=v0o (v0n x (-1048576)) 1048576
theorem c3i(x:Int):-1048576≤b9G x∧b9G x≤1048576:=by
 grind[b9G,b5p,b3k]
def c6j:List Int→List Int→Int→Int
 |a::w,b::h,acc=>c6j w h (W (acc+W (a*b)))
 |_,_,acc=>acc
def a1g(f:Fil):Int:=a2r (A0k .i64 (c6j f.2.1 f.2.2.1 0) 16)
structure FilOk (f:Fil):Prop where
 len:f.2.1.length=f.2.2.1.length
 pos:1≤f.2.1.length
 most:f.2.1.length≤32
 rate:0≤f.1∧f.1≤8
 small:∀x∈f.2.1,-1048576≤x∧x≤1048576
theorem b8Q{l:List Int}{i:Nat}(h:i<l.length):a04 l i 0=l[i]:=by
 simp_all
theorem b3M{f:Fil}(c:FilOk f):∀(k i:Nat)(acc:Int),i+k=f.2.1.length→
  y0o a2X (acc,(f.2.1.length:Int),(i:Int),f,())=some (c6j (f.2.1.drop i) (f.2.2.1.drop i) acc,f,())
 |0,i,acc,h=>by
  obtain rfl:i=f.2.1.length:=by omega
  rw[a34,a0E (b:=(acc,f,())) (by simp[a2X])];rfl
 |k+1,i,acc,h=>by
  have g:i<f.2.1.length:=by omega
  have a:i<f.2.2.1.length:=by rw[←c.len];omega
  have e:=c.most;rw[a08 g,a08 a,c6j];have d:decide ((0:Int)≤(i:Int))=true:=by simp
  rw[a0F (s':=(W (acc+W (f.2.1[i]*f.2.2.1[i])),(f.2.1.length:Int),((i+1:Nat):Int),f,())) (by
   simp only[a2X,dlt g,dlt a,d,cT,a27,tN,b8Q g,b8Q a,a0B (show i<1000000 by omega)])]
  exact b3M c k (i+1) _ (by omega)
theorem a6l{f:Fil}(h:FilOk f):a1V f=some (a1g f,f):=by
 have:=b3M h f.2.1.length 0 0 (by omega)
 simp at this;unfold a1V;simp only[this,oB,a5m];rfl
def b7I(x:Int):Int:=if 0<x then 1 else if x<0 then -1 else 0
def b2c(r:Int)(x g:Int):Int:=b7I (x-g)*2^r.toNat
def b5P(st:Int)(w h:Int):Int:=b9G (W (w+b7I h*st))
def b3f(f:Fil)(x:Int):Fil:=
 (f.1,a25 (b5P (b2c f.1 (a2r x) (a1g f))) f.2.1 f.2.2.1,a2r x::f.2.2.1.take (f.2.2.1.length-1),f.2.2.2)
theorem c3j{f:Fil}(k:FilOk f)(x:Int):FilOk (b3f f x):=by
 obtain⟨a,b,c,g,d⟩:=k;have e:(a25 (b5P (b2c f.1 (a2r x) (a1g f))) f.2.1 f.2.2.1).length=f.2.1.length:=by simp_all
 refine⟨?_,?_,?_,g,?_⟩;show(a25 _ _ _).length=(a2r x::f.2.2.1.take (f.2.2.1.length-1)).length;simp_all;show 1≤(a25 _ _ _).length;omega;show(a25 _ _ _).length≤32;omega;intro y h;have h:y∈a25 (b5P (b2c f.1 (a2r x) (a1g f))) f.2.1 f.2.2.1:=h;obtain⟨i,hi,rfl⟩:=List.mem_iff_getElem.1 h
 simp
 exact c3i _
theorem b4W(x:Int):(0<x∧b7I x=1)∨(x<0∧b7I x=-1)∨(x=0∧b7I x=0):=by
 unfold b7I;omega
theorem b8R{r:Int}(h:0≤r∧r≤8):(2:Int)^r.toNat≤256∧1≤(2:Int)^r.toNat:=by
 have:r.toNat=0∨r.toNat=1∨r.toNat=2∨r.toNat=3∨r.toNat=4∨r.toNat=5∨r.toNat=6∨r.toNat=7∨r.toNat=8:=by omega
 rcases this with e|e|e|e|e|e|e|e|e<;>rw[e]<;>decide
theorem c7k{r:Int}(h:0≤r∧r≤8){x:Int}(g:-1≤x∧x≤1):A0j .i64 x r=x*2^r.toNat:=by
 have hp:=b8R h;have hb:min r.toNat 64=r.toNat:=by omega
 unfold A0j;show wrap .i64 (x*2^(min r.toNat 64))=_;rw[hb]
 have:x=-1∨x=0∨x=1:=by omega
 rcases this with rfl|rfl|rfl
 all_goals grind[a0C]
theorem c2z{f:Fil}(a:FilOk f)(x:Int):
  (bif decide (a2r x > a1g f)then bif decide (f.1<0)then(none:Option (Int×Int×Fil×Unit))else some (a2r x,A0j .i64 (1:Int) f.1,f,())
   else bif decide (a2r x<a1g f)then bif decide (f.1<0)then none else some (a2r x,wrap .i64 (0-(A0j .i64 (1:Int) f.1)),f,())
   else some (a2r x,(0:Int),f,()))=some (a2r x,b2c f.1 (a2r x) (a1g f),f,()):=by
 have d:¬ f.1<0:=by have:=a.rate;omega
 have hp:=b8R a.rate;have b:=c7k a.rate (x:=1) (by omega);rw[Int.one_mul]at b;rcases b4W (a2r x-a1g f)with⟨c,h⟩|⟨c,h⟩|⟨c,h⟩;have g:a2r x > a1g f:=by omega
 simp only[g,d,decide_true,decide_false,cT,cF,b2c,h,Int.one_mul,b];have g:¬ a2r x > a1g f:=by omega
 have k:a2r x<a1g f:=by omega
 simp only[g,k,d,decide_true,decide_false,cT,cF,b2c,h,b]
 grind[a0C]
 have g:¬ a2r x > a1g f:=by omega
 have k:¬ a2r x<a1g f:=by omega
 simp only[g,k,decide_false,cF,b2c,h,Int.zero_mul]
theorem c8B{l z:List Int}{i:Nat}(hi:i<l.length)(f:z.length=l.length):(z.take i++l.drop i).set i (z[i]'(by omega))=z.take (i+1)++l.drop (i+1):=by
 have h:(z.take i).length=i:=by grind
 have g:z.take (i+1)=z.take i++[z[i]'(by omega)]:=by simp
 rw[List.set_append_right _ _ (by omega),h,Nat.sub_self,a08 hi,List.set_cons_zero,g,aA];rfl
theorem c8C{l z:List Int}{i:Nat}(hi:i<l.length)(h:z.length=l.length):a04 (z.take i++l.drop i) i 0=l[i]:=by
 grind
theorem c7l{f:Fil}(g:FilOk f){i:Nat}(h:i<f.2.1.length):-1048576≤f.2.1[i]∧f.2.1[i]≤1048576:=g.small _ (List.getElem_mem h)
theorem b9H{f:Fil}(n:FilOk f){x1 st:Int}(t:-256≤st∧st≤256):
  y0o a2q (x1,st,(f.2.2.1.length:Int),(0:Int),f,())=some (x1,(f.1,a25 (b5P st) f.2.1 f.2.2.1,f.2.2),()):=by
 obtain⟨z,v⟩:∃z,a25 (b5P st) f.2.1 f.2.2.1=z:=⟨_,rfl⟩;have p:=n.len;have d:z.length=f.2.1.length:=by grind
 have u:=n.most
 have:=a1B (f:=a2q) (fun i=>(x1,st,(f.2.2.1.length:Int),(i:Int),(f.1,z.take i++f.2.1.drop i,f.2.2),()))
  f.2.2.1.length (b:=(x1,(f.1,z,f.2.2),())) (fun i hi=>by
   have k:i<f.2.1.length:=by omega
   have j:decide ((0:Int)≤(i:Int))=true:=by simp
   have r:(z.take i++f.2.1.drop i).length=f.2.1.length:=by grind
   have g:decide ((i:Int)<((z.take i++f.2.1.drop i).length:Int))=true:=by simp_all
   have o:z[i]'(by omega)=b5P st f.2.1[i] f.2.2.1[i]:=by grind
   have s:=c7l n k;have h:=c8B k d;rw[o]at h;simp only[a2q,dlt hi,j,g,cT,a27,tN,b8Q hi,c8C k d];rcases b4W f.2.2.1[i]with⟨m,a⟩|⟨m,a⟩|⟨m,a⟩;have c:f.2.2.1[i] > 0:=m;simp[b5P,a]at h;simp only[c,decide_true,cT,oB,j,g,a27,tN,a0B (show i<1000000 by omega)];exact congrArg (fun l=>some (Sum.inl (x1,st,(f.2.2.1.length:Int),((i+1:Nat):Int),(f.1,l,f.2.2),()))) h;have c:¬ f.2.2.1[i] > 0:=by omega
   have e:f.2.1[i]+-1*st=f.2.1[i]-st:=by omega
   simp only[b5P,a,e]at h;simp only[c,m,decide_true,decide_false,cT,cF,oB,j,g,a27,tN,a0B (show i<1000000 by omega)];exact congrArg (fun l=>some (Sum.inl (x1,st,(f.2.2.1.length:Int),((i+1:Nat):Int),(f.1,l,f.2.2),()))) h;have c:¬ f.2.2.1[i] > 0:=by omega
   have q:¬ f.2.2.1[i]<0:=by omega
   have e:W (f.2.1[i]+0*st)=f.2.1[i]:=by rw[Int.zero_mul,Int.add_zero];exact a0C (by omega)
   simp only[b5P,a,e]at h;simp only[c,q,decide_false,cF,oB,j,g,cT,a27,tN,a0B (show i<1000000 by omega)];exact congrArg (fun l=>some (Sum.inl (x1,st,(f.2.2.1.length:Int),((i+1:Nat):Int),(f.1,l,f.2.2),()))) h)
  (by
   simp_all[List.take_of_length_le,a2q])
 simp_all
theorem c4D{f:Fil}(k:FilOk f)(x g:Int):-256≤b2c f.1 x g∧b2c f.1 x g≤256:=by
 have hp:=b8R k.rate;unfold b2c;rcases b4W (x-g)with⟨-,h⟩|⟨-,h⟩|⟨-,h⟩<;>rw[h]<;>omega
theorem b6F{f:Fil}(h:FilOk f)(x:Int):a3a (f,x)=some (b3f f x):=by
 unfold a3a;have d:=c2z h x;simp only[a5m,oB,a6l h];have g:(bif decide (v0o (v0n x (-1073741824)) 1073741823 > a1g f)then bif decide (f.1<0)then(none:Option (Int×Int×Fil×Unit))else some (v0o (v0n x (-1073741824)) 1073741823,A0j .i64 (1:Int) f.1,f,())
   else bif decide (v0o (v0n x (-1073741824)) 1073741823<a1g f)then bif decide (f.1<0)then none else some (v0o (v0n x (-1073741824)) 1073741823,wrap .i64 (0-(A0j .i64 (1:Int) f.1)),f,())
   else some (v0o (v0n x (-1073741824)) 1073741823,(0:Int),f,()))=_:=d
 rw[g];simp only[oB,b9H h (c4D h _ _)];have i:f.2.2.1.length≥1:=by have:=h.pos;have:=h.len;omega
 have b:decide ((1:Int)≤((f.2.2.1.length:Nat):Int))=true:=by grind
 have e:p0b f.2.2.1 1 (f.2.2.1.length-1) f.2.2.1=f.2.2.1.take 1++f.2.2.1.take (f.2.2.1.length-1):=by
  simp_all[p0b]
 have j:(f.2.2.1.take 1++f.2.2.1.take (f.2.2.1.length-1)).length=f.2.2.1.length:=by simp_all
 have c:decide ((0:Int)<(((f.2.2.1.take 1++f.2.2.1.take (f.2.2.1.length-1)).length:Nat):Int))=true:=by grind
 simp only[b,cT,e,c];congr 1;have k:(f.2.2.1.take 1++f.2.2.1.take (f.2.2.1.length-1)).set 0 (a2r x)=a2r x::f.2.2.1.take (f.2.2.1.length-1):=by
  cases hc:f.2.2.1 with
  |nil=>simp_all
  |cons a l=>simp
 rw[k];rfl
end Go.Ab
