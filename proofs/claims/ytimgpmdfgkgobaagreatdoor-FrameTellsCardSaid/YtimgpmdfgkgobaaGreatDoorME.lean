/- Part of the proof: It. Conditions: as each statement tells. -/
import Derived.RangeFuncBound
import Derived.RangeFuncCalls
import Derived.RangeFuncBox
import Derived.WalkKit
import Derived.OwnWalkIn
import Derived.TacticsInMore
import Derived.LoopNIn
import Derived.LoopIn
import Derived.Test.YtimgpmdfgkgobaaGreatDoorProg
import Derived.KernelRfl
import Derived.Test.YtimgpmdfgkgobaaGreatDoorMD
noncomputable section
set_option linter.unusedSimpArgs false
set_option linter.unusedVariables false
open Array renaming replicate_succ→a09,replicate_zero→a16
open Bool renaming and_eq_false_iff→a19,true_and→a26,false_and→a40
open Int renaming toNat→a00,tdiv→a07,tmod→a27,add_bmod_bmod→a30,sub_bmod_bmod→a32,bmod_sub_bmod→a33,bmod_add_bmod→a34
open List renaming length→a01,getD→a02,replicate→a03,append→a04,set→a05,take→a06,nil_append→a08,append_toArray→a17,cons_append→a18,size_toArray→a21,push_toArray→a22,drop→a23,length_nil→a24,drop_eq_getElem_cons→a29,drop_length→a35,drop_zero→a36,append_eq→a37,getElem_mem→a39
open Nat renaming lt_trans→a20,reduceAdd→a25,reduceSub→a28,le_refl→a38
open Option renaming getD_some→a31
namespace Go.Ab
open Go.Proofs Go.RowKit
attribute [local go_sem] Oper.semAt_some
set_option maxHeartbeats 1000000 in
theorem c9W:z0a Tryz.prog 260 295:=by
 refine⟨⟨_,_,Tryz.func260,rfl,by kernel_rfl⟩,fun A len cap w=>(callsIn_wide (n:=3)).1 ?_⟩
 refine callsIn_of_wp Tryz.func260 rfl trivial ?_
 simp only[Tryz.ntmps260,a21,lC,a24,a25,a28,a09,a16,a22,a17,a08,a18]
 gi_wp2
 go_ret
 exact⟨rfl,_,rfl⟩
@[reducible] def b3F:Ty:=.pair (.int .i64) (.pair (.int .i64) .unit)
set_option maxRecDepth 100000 in
set_option maxHeartbeats 2000000 in
theorem c8h (l Bs b off len cap:Nat) (p q:Nat→Int) (J:Nat→World→Prop) (Jx:World→Prop) (W:World)
  (hJ:∀k W',J k W'→W'.cell? ⟨Bs,0,none⟩=some (.slice (some ⟨b,off,none⟩) len cap))
  (hlen:len<2147483648)
  (hcs:∀k W',k<len→J (k+1) W'→W'.cell? ⟨b,off+k*2,none⟩=some (.int .i64 (p k))∧W'.cell? ⟨b,off+k*2+1,none⟩=some (.int .i64 (q k)))
  (hY:∀n W',n<len→J (n+1) W'→YieldAt (Fr none) 0 Tryz.prog l #[.int .i64 (n:Int),.agg #[.int .i64 (p n),.int .i64 (q n)]] W' fun en W''=>(en=.returned (.bool true)∧J n W'')∨(en=.returned (.bool false)∧Jx W''))
  (h0:J len W):
  CallsIn (Fr none) 0 Tryz.prog 295 #[.func (.yield l) #[] #[],.pointer (some ⟨Bs,0,none⟩)] W fun en W'=>(∃v,en=.returned v)∧(J 0 W'∨Jx W'):=by
 refine callsIn_of_wp Tryz.func295 rfl trivial ?_
 simp only[Tryz.ntmps295,a21,lC,a24,a25,a28,a09,a16,a22,a17,a08,a18]
 have hBs:=hJ _ _ h0
 gi_wp2
 gi_loopw [3] (fun i wr=>∃k:Nat,k≤len∧i=.int .i64 ((k:Int)-1)∧J k wr) (fun i _=>(intOf i+1).toNat)
 case atStart=>exact⟨len,a38 _,rfl,h0⟩
 case round=>
  obtain⟨k,hk,rfl,hJs⟩:=hrel
  cases k with
  |succ n=>
   obtain⟨fn,tmps,assign,body,hy,hR⟩:=hY n wr (by omega) hJs
   have hcx:=hJ _ _ hJs
   obtain⟨hc0,hc1⟩:=hcs n wr (by omega) hJs
   gi_wp2
   refine hR.mono ?_
   rintro e W3 (⟨rfl,hJ3⟩|⟨rfl,hJx3⟩)
   ·gi_wp2
    go_roundw
    case rel=>exact⟨n,by omega,by simp,hJ3⟩
    case measure=>simp[intOf]
   ·gi_wp2
    refine bodyPost_ret (results_none rfl _ _ _) rfl ?_
    exact⟨⟨_,rfl⟩,.inr hJx3⟩
  |zero=>
   gi_wp2
   go_end0
   exact⟨⟨_,rfl⟩,.inl hJs⟩
set_option maxRecDepth 100000 in
set_option maxHeartbeats 2000000 in
theorem c7o (l Bs:Nat) (A:Option Addr) (c:Nat) (J:Nat→World→Prop) (W:World) (hBs:W.cell? ⟨Bs,0,none⟩=some (.slice A 0 c)) (h0:J 0 W):
  CallsIn (Fr none) 0 Tryz.prog 295 #[.func (.yield l) #[] #[],.pointer (some ⟨Bs,0,none⟩)] W fun en W'=>(∃v,en=.returned v)∧J 0 W':=by
 refine callsIn_of_wp Tryz.func295 rfl trivial ?_
 simp only[Tryz.ntmps295,a21,lC,a24,a25,a28,a09,a16,a22,a17,a08,a18]
 gi_wp2
 gi_loopw [3] (fun i wr=>i=.int .i64 (-1)∧J 0 wr) (fun _ _=>0)
 case atStart=>exact⟨rfl,h0⟩
 case round=>
  obtain⟨rfl,hJs⟩:=hrel
  gi_wp2
  go_end0
  exact⟨⟨_,rfl⟩,hJs⟩
theorem c2t{m:Mem}{Sh:Nat→Prop}{b o:Nat}{x:b3F.den}{R}(h:dec m b3F ((Src.at b o).rd m)=some (x,[],R)):
  m b o=some (.int .i64 x.1)∧m b (o+1)=some (.int .i64 x.2.1)∧VOk m Sh b3F x (.agg #[.int .i64 x.1,.int .i64 x.2.1]):=by
 obtain⟨p,q,u⟩:=x;simp only[b3F,dec,Src.rd,Ty.cells,Nat.add_zero]at h
 split at h
 cases h;rename_i r o1 j g
 split at g
 rename_i n c
 split at g
 rename_i e;subst e;simp only[sj]at g;obtain⟨rfl,rfl,rfl⟩:=g
 split at h
 cases h;rename_i s o2 r2 k
 split at k
 cases k;rename_i t i l f
 split at f
 rename_i d a
 split at f
 rename_i e;subst e;simp only[sj]at f k h;obtain⟨rfl,rfl,rfl⟩:=f;obtain⟨rfl,rfl,rfl⟩:=k;obtain⟨⟨rfl,rfl,rfl⟩,-,-⟩:=h;exact⟨c,a,fun _=>⟨_,rfl,rfl⟩,fun h=>(by cases h),[],rfl,by simp⟩;cases f;cases f;cases g;cases g
theorem b6X {P:Program} {f:FuncId} (hb:i0o P f) (args:Array Value) (w:World):(callFunc f args).run P w=.ok (.enter f args) w:=by
 obtain ⟨fn,c',h1,h2,h3⟩:=hb;have h4 : ¬ fn.name = "runtime.NumGoroutine" := by simpa using h3
 simp [callFunc,program,Sem.run,h1,h2,h4,Result.andThen]
theorem c9X:v0q Tryz.prog 295 b3F:=by
 refine⟨fun args w=>b6X ⟨_,_,Tryz.func295,rfl,by kernel_rfl⟩ args w,fun l Bs sv f J D W i t L o=>?_⟩;obtain⟨z,Sh,y⟩:=t _ _ o;obtain⟨A,n,c,rfl,rfl,N,v,j⟩:=y.header
 by_cases hx0:f.length=0
 rw[hx0]at o z;exact(c7o l Bs A c J W z o).mono fun e g h=>⟨h.1,.inl h.2⟩;cases A with
 |none=>have:=j rfl;omega
 |some A=>
  obtain⟨b,off,B⟩:=A
  have:=(v _ rfl).resolve_left (by omega)
  simp only at this;subst this;have u:∀k g,k<f.length→J (k+1) g→∃x,f[k]?=some x∧g.cell? ⟨b,off+k*2,none⟩=some (.int .i64 x.1)∧g.cell? ⟨b,off+k*2+1,none⟩=some (.int .i64 x.2.1):=by
   intro k g p d;obtain⟨-,a,hv⟩:=t _ _ d;obtain⟨C,O,E,R,e,F,G,H,s,I,K⟩:=hv.elem rfl (lG p);simp only[Value.slice.injEq,sj]at e;obtain⟨rfl,rfl,rfl⟩:=e;obtain⟨q,r,-⟩:=c2t (Sh:=a) s;exact⟨_,lG p,q,r⟩
  refine c8h l Bs b off f.length c (fun k=>((f[k]?).getD b3F.dflt).1) (fun k=>((f[k]?).getD b3F.dflt).2.1) J D W (fun k g d=>(t k g d).1) i (fun k g p d=>?_) (fun n g M d=>?_) o;obtain⟨x,m,q,r⟩:=u k g p d;simp only[m,a31];exact⟨q,r⟩;have m:f[n]?=some f[n]:=lG M;simp only[m,a31];refine L n _ _ g m d fun a hv=>?_
  obtain⟨C,O,E,R,e,F,G,H,s,I,K⟩:=hv.elem rfl m;exact(c2t (Sh:=a) s).2.2
set_option maxHeartbeats 1000000 in
theorem c9Y:z0a Tryz.prog 107 196:=by
 refine⟨⟨_,_,Tryz.func107,rfl,by kernel_rfl⟩,fun A len cap w=>(callsIn_wide (n:=3)).1 ?_⟩
 refine callsIn_of_wp Tryz.func107 rfl trivial ?_
 simp only[Tryz.ntmps107,a21,lC,a24,a25,a28,a09,a16,a22,a17,a08,a18]
 gi_wp2
 go_ret
 exact⟨rfl,_,rfl⟩
@[reducible] def b6h:Ty:=.pair (.int .i64) (.pair (.int .i64) (.pair (.int .i64) .unit))
set_option maxRecDepth 100000 in
set_option maxHeartbeats 2000000 in
theorem c8i (l Bs b off len cap:Nat) (p q r:Nat→Int) (J:Nat→World→Prop) (Jx:World→Prop) (W:World)
  (hJ:∀k W',J k W'→W'.cell? ⟨Bs,0,none⟩=some (.slice (some ⟨b,off,none⟩) len cap))
  (hlen:len<2147483648)
  (hcs:∀k W',k<len→J (k+1) W'→W'.cell? ⟨b,off+k*3,none⟩=some (.int .i64 (p k))∧W'.cell? ⟨b,off+k*3+1,none⟩=some (.int .i64 (q k))∧W'.cell? ⟨b,off+k*3+2,none⟩=some (.int .i64 (r k)))
  (hY:∀n W',n<len→J (n+1) W'→YieldAt (Fr none) 0 Tryz.prog l #[.int .i64 (n:Int),.agg #[.int .i64 (p n),.int .i64 (q n),.int .i64 (r n)]] W' fun en W''=>(en=.returned (.bool true)∧J n W'')∨(en=.returned (.bool false)∧Jx W''))
  (h0:J len W):
  CallsIn (Fr none) 0 Tryz.prog 196 #[.func (.yield l) #[] #[],.pointer (some ⟨Bs,0,none⟩)] W fun en W'=>(∃v,en=.returned v)∧(J 0 W'∨Jx W'):=by
 refine callsIn_of_wp Tryz.func196 rfl trivial ?_
 simp only[Tryz.ntmps196,a21,lC,a24,a25,a28,a09,a16,a22,a17,a08,a18]
 have hBs:=hJ _ _ h0
 gi_wp2
 gi_loopw [3] (fun i wr=>∃k:Nat,k≤len∧i=.int .i64 ((k:Int)-1)∧J k wr) (fun i _=>(intOf i+1).toNat)
 case atStart=>exact⟨len,a38 _,rfl,h0⟩
 case round=>
  obtain⟨k,hk,rfl,hJs⟩:=hrel
  cases k with
  |succ n=>
   obtain⟨fn,tmps,assign,body,hy,hR⟩:=hY n wr (by omega) hJs
   have hcx:=hJ _ _ hJs
   obtain⟨hc0,hc1,hc2⟩:=hcs n wr (by omega) hJs
   gi_wp2
   refine hR.mono ?_
   rintro e W3 (⟨rfl,hJ3⟩|⟨rfl,hJx3⟩)
   ·gi_wp2
    go_roundw
    case rel=>exact⟨n,by omega,by simp,hJ3⟩
    case measure=>simp[intOf]
   ·gi_wp2
    refine bodyPost_ret (results_none rfl _ _ _) rfl ?_
    exact⟨⟨_,rfl⟩,.inr hJx3⟩
  |zero=>
   gi_wp2
   go_end0
   exact⟨⟨_,rfl⟩,.inl hJs⟩
set_option maxRecDepth 100000 in
set_option maxHeartbeats 2000000 in
theorem c7p (l Bs:Nat) (A:Option Addr) (c:Nat) (J:Nat→World→Prop) (W:World) (hBs:W.cell? ⟨Bs,0,none⟩=some (.slice A 0 c)) (h0:J 0 W):
  CallsIn (Fr none) 0 Tryz.prog 196 #[.func (.yield l) #[] #[],.pointer (some ⟨Bs,0,none⟩)] W fun en W'=>(∃v,en=.returned v)∧J 0 W':=by
 refine callsIn_of_wp Tryz.func196 rfl trivial ?_
 simp only[Tryz.ntmps196,a21,lC,a24,a25,a28,a09,a16,a22,a17,a08,a18]
 gi_wp2
 gi_loopw [3] (fun i wr=>i=.int .i64 (-1)∧J 0 wr) (fun _ _=>0)
 case atStart=>exact⟨rfl,h0⟩
 case round=>
  obtain⟨rfl,hJs⟩:=hrel
  gi_wp2
  go_end0
  exact⟨⟨_,rfl⟩,hJs⟩
theorem c1L{m:Mem}{rd:Nat→Option Value}{x o r}(h:dec m (.int .i64) rd=some (x,o,r)):rd 0=some (.int .i64 x)∧o=[]∧r=[]:=by
 simp only[dec]at h
 split at h
 rename_i k n g
 split at h
 rename_i e;subst e;simp only[sj,pJ]at h;obtain⟨rfl,rfl,rfl⟩:=h;exact⟨g,rfl,rfl⟩;cases h;cases h
theorem b9G{m:Mem}{a b:Ty}{rd:Nat→Option Value}{x o r}(h:dec m (.pair a b) rd=some (x,o,r)):∃o1 g o2 r2,dec m a rd=some (x.1,o1,g)∧dec m b (fun j=>rd (a.cells+j))=some (x.2,o2,r2)∧o=o1++o2∧r=g++r2:=by
 simp only[dec]at h
 split at h
 cases h;rename_i c o1 g f
 split at h
 cases h;rename_i d o2 r2 k;simp only[sj,pJ]at h;obtain⟨rfl,rfl,rfl⟩:=h;exact⟨_,_,_,_,f,k,rfl,rfl⟩
theorem c3D{m:Mem}{Sh:Nat→Prop}{b o:Nat}{x:b6h.den}{R}(h:dec m b6h ((Src.at b o).rd m)=some (x,[],R)):
  m b o=some (.int .i64 x.1)∧m b (o+1)=some (.int .i64 x.2.1)∧m b (o+2)=some (.int .i64 x.2.2.1)∧VOk m Sh b6h x (.agg #[.int .i64 x.1,.int .i64 x.2.1,.int .i64 x.2.2.1]):=by
 obtain⟨_,_,_,_,g,f,-,-⟩:=b9G h;obtain⟨_,_,_,_,k,a,-,-⟩:=b9G f;obtain⟨_,_,_,_,c,-,-,-⟩:=b9G a;exact⟨(c1L g).1,(c1L k).1,(c1L c).1,fun _=>⟨_,rfl,rfl⟩,fun h=>(by cases h),[],rfl,by simp⟩
theorem c9Z:v0q Tryz.prog 196 b6h:=by
 refine⟨fun args w=>b6X ⟨_,_,Tryz.func196,rfl,by kernel_rfl⟩ args w,fun l Bs sv f J E W i u M o=>?_⟩;obtain⟨B,Sh,z⟩:=u _ _ o;obtain⟨A,n,c,rfl,rfl,O,y,j⟩:=z.header
 by_cases hx0:f.length=0
 rw[hx0]at o B;exact(c7p l Bs A c J W B o).mono fun e g h=>⟨h.1,.inl h.2⟩;cases A with
 |none=>have:=j rfl;omega
 |some A=>
  obtain⟨b,off,C⟩:=A
  have:=(y _ rfl).resolve_left (by omega)
  simp only at this;subst this;have v:∀k g,k<f.length→J (k+1) g→∃x,f[k]?=some x∧g.cell? ⟨b,off+k*3,none⟩=some (.int .i64 x.1)∧g.cell? ⟨b,off+k*3+1,none⟩=some (.int .i64 x.2.1)∧g.cell? ⟨b,off+k*3+2,none⟩=some (.int .i64 x.2.2.1):=by
   intro k g p d;obtain⟨-,a,hv⟩:=u _ _ d;obtain⟨D,P,F,R,e,G,H,I,t,K,L⟩:=hv.elem rfl (lG p);simp only[Value.slice.injEq,sj]at e;obtain⟨rfl,rfl,rfl⟩:=e;obtain⟨q,r,s,-⟩:=c3D (Sh:=a) t;exact⟨_,lG p,q,r,s⟩
  refine c8i l Bs b off f.length c (fun k=>((f[k]?).getD b6h.dflt).1) (fun k=>((f[k]?).getD b6h.dflt).2.1) (fun k=>((f[k]?).getD b6h.dflt).2.2.1) J E W (fun k g d=>(u k g d).1) i (fun k g p d=>?_) (fun n g N d=>?_) o;obtain⟨x,m,q,r,s⟩:=v k g p d;simp only[m,a31];exact⟨q,r,s⟩;have m:f[n]?=some f[n]:=lG N;simp only[m,a31];refine M n _ _ g m d fun a hv=>?_
  obtain⟨D,P,F,R,e,G,H,I,t,K,L⟩:=hv.elem rfl m;exact(c3D (Sh:=a) t).2.2.2
end Go.Ab
namespace Go.Ab
open IntKind(wrap)
open Go.Proofs
set_option maxRecDepth 100000
set_option linter.unusedVariables false
@[reducible] def QI:Ty:=.int .i64
@[reducible] def QL:Ty:=.list false QI
@[reducible] def Z0:Type:=(Unit ⊕ (Bool×Unit))
@[reducible] def Z1:Type:=(Int×(Int×(List Int)))
@[reducible] def Z2:Type:=((List (List Int))×Unit)
@[reducible] def Z3:Type:=((List Int)×(Int×Int))
@[reducible] def Z4:Type:=(List (Int×(Int×Unit)))
@[reducible] def Z5:Type:=(Int×((List Int)×Unit))
@[reducible] def Z6:Type:=((List Int)×(Int×Unit))
@[reducible] def Z7:Type:=(Int×(Int×(Int×Unit)))
@[reducible] def Z8:Type:=(Bool×((List Int)×Unit))
@[reducible] def Z9:Type:=(((List Int)×Unit)×Unit)
@[reducible] def Z10:Type:=(Int×(Int×(Bool×Unit)))
@[reducible] def Z11:Type:=((List Int)×((List Int)×Int))
@[reducible] def Z12:Type:=((List Int)×(Int×(List Int)))
@[reducible] def Z13:Type:=((List Int)×((List Int)×Unit))
@[reducible] def Z14:Type:=(Int×Z2)
@[reducible] def Z15:Type:=((List (List Int))×(Int×Unit))
@[reducible] def Z16:Type:=(List Z7)
@[reducible] def Z17:Type:=((List Int)×(Int×(Int×Unit)))
@[reducible] def Z18:Type:=(Int×Z5)
@[reducible] def Z19:Type:=(Int×Z6)
@[reducible] def Z20:Type:=((List Int)×(Int×(Bool×Unit)))
@[reducible] def Z21:Type:=(Z5×Unit)
@[reducible] def Z22:Type:=(Int×Z8)
@[reducible] def Z23:Type:=(Z6×Unit)
@[reducible] def Z24:Type:=(Int×Z7)
@[reducible] def Z25:Type:=(Int×Z9)
@[reducible] def Z26:Type:=(Z7×Unit)
@[reducible] def Z27:Type:=(Int×Z10)
@[reducible] def Z28:Type:=(Int×Z13)
@[reducible] def Z29:Type:=((List Int)×Z5)
@[reducible] def Z30:Type:=((List (List Int))×(Int×(Int×Unit)))
@[reducible] def Z31:Type:=(Int×Z14)
@[reducible] def Z32:Type:=(Int×Z17)
@[reducible] def Z33:Type:=(Z14×Unit)
@[reducible] def Z34:Type:=((List Int)×Z7)
@[reducible] def Z35:Type:=(Int×Z18)
@[reducible] def Z36:Type:=(Z17×Int)
@[reducible] def Z37:Type:=((List Int)×Z10)
@[reducible] def Z38:Type:=(Int×Z22)
@[reducible] def Z39:Type:=(Int×Z23)
@[reducible] def Z40:Type:=(Z4×(Int×Unit))
@[reducible] def Z41:Type:=(Int×Z24)
@[reducible] def Z42:Type:=(Int×Z25)
@[reducible] def Z43:Type:=(Bool×Z21)
@[reducible] def Z44:Type:=((List Int)×Z13)
@[reducible] def Z45:Type:=((List Int)×Z18)
@[reducible] def Z46:Type:=(Int×Z28)
@[reducible] def Z47:Type:=(Z28×Int)
@[reducible] def Z48:Type:=((List Int)×Z17)
@[reducible] def Z49:Type:=(Int×Z30)
@[reducible] def Z50:Type:=(Z5×((List Int)×Unit))
@[reducible] def Z51:Type:=(((List Int)×Unit) ⊕ Z5)
@[reducible] def Z52:Type:=((List Int)×Z20)
@[reducible] def Z53:Type:=(Int×Z32)
@[reducible] def Z54:Type:=(Z28×Unit)
@[reducible] def Z55:Type:=(Int×Z33)
@[reducible] def Z56:Type:=((List Int)×Z21)
@[reducible] def Z57:Type:=(Int×Z34)
@[reducible] def Z58:Type:=(Bool×Z33)
@[reducible] def Z59:Type:=(Int×Z39)
@[reducible] def Z60:Type:=((List (List Int))×Z14)
@[reducible] def Z61:Type:=((List (List Int))×Z16)
@[reducible] def Z62:Type:=(Int×Z44)
@[reducible] def Z63:Type:=(Int×Z45)
@[reducible] def Z64:Type:=(Z5×Z1)
@[reducible] def Z65:Type:=((List Int)×Z32)
@[reducible] def Z66:Type:=((List Int)×Z34)
@[reducible] def Z67:Type:=((List Int)×Z35)
@[reducible] def Z68:Type:=(Int×Z54)
@[reducible] def Z69:Type:=(Int×Z55)
@[reducible] def Z70:Type:=(Int×Z56)
@[reducible] def Z71:Type:=(Z16×(Int×(Int×Unit)))
@[reducible] def Z72:Type:=(Z32 ⊕ (Int×Unit))
@[reducible] def Z73:Type:=(Z17 ⊕ Z0)
@[reducible] def Z74:Type:=((List Int)×Z46)
@[reducible] def Z75:Type:=((List Int)×Z45)
@[reducible] def Z76:Type:=(Int×Z62)
@[reducible] def Z77:Type:=((List Int)×Z50)
@[reducible] def Z78:Type:=((List Int)×Z53)
@[reducible] def Z79:Type:=((List Int)×Z52)
@[reducible] def Z80:Type:=((List Int)×Z54)
@[reducible] def Z81:Type:=(Int×Z63)
@[reducible] def Z82:Type:=(Int×Z68)
@[reducible] def Z83:Type:=((List Int)×Z59)
@[reducible] def Z84:Type:=(Int×Z70)
@[reducible] def Z85:Type:=(Z6×Z21)
@[reducible] def Z86:Type:=(Z5×Z21)
@[reducible] def Z87:Type:=(Int×Z74)
@[reducible] def Z88:Type:=(Int×Z80)
@[reducible] def Z89:Type:=(Int×Z82)
@[reducible] def Z90:Type:=(Int×Z83)
@[reducible] def Z91:Type:=(Int×Z84)
@[reducible] def Z92:Type:=(Int×Z88)
@[reducible] def Z93:Type:=((List Int)×Z85)
@[reducible] def Z94:Type:=(Z16×Z33)
@[reducible] def Z95:Type:=((List Int)×Z91)
@[reducible] def Z96:Type:=(Int×Z93)
@[reducible] def Z97:Type:=(Z4×Z77)
@[reducible] def Z98:Type:=(Int×Z96)
@[reducible] def Z99:Type:=(Z5×Z86)
@[reducible] def d4a:Type:=((List Int)×Z97)
@[reducible] def c3E:Type:=((List Int)×Z98)
@[reducible] def d4b:Type:=((List Int)×d4a)
@[reducible] def d4c:Type:=(Int×d4b)
@[reducible] def d4d:Type:=(Int×d4c)
@[reducible] def d4e:Type:=(Int×d4d)
@[reducible] def d4f:Type:=(Int×d4e)
@[reducible] def a1E:Type:=(Int×d4f)
@[reducible] def b2I:Type:=(List a1E)
@[reducible] def a9K:Type:=(a1E×Int)
@[reducible] def b7x:Type:=(a1E×Unit)
@[reducible] def c8j:Type:=(b2I×Unit)
@[reducible] def c5N:Type:=(Bool×b7x)
@[reducible] def d4g:Type:=((List Int)×b7x)
@[reducible] def c1M:Type:=(Int×c5N)
@[reducible] def c5O:Type:=(b2I×((List Int)×Unit))
@[reducible] def d4h:Type:=(Int×d4g)
@[reducible] def d4i:Type:=(((List Int)×Unit)×b7x)
@[reducible] def c5P:Type:=(Int×c1M)
@[reducible] def c5Q:Type:=(Int×d4h)
@[reducible] def d4j:Type:=(Z6×b7x)
@[reducible] def d4k:Type:=(Int×d4i)
@[reducible] def c5R:Type:=(Int×d4j)
@[reducible] def c5S:Type:=(Int×d4k)
@[reducible] def d4l:Type:=(Z16×c8j)
@[reducible] def b4Y:Type:=(Int×c5R)
@[reducible] def d4m:Type:=(Z7×d4l)
@[reducible] def d4n:Type:=(Int×d4m)
@[reducible] def a5C:Type:=(Int×d4n)
@[reducible] def c5T:Type:=(a5C×Int)
@[reducible] def a7U:Type:=(a5C×Unit)
@[reducible] def c8k:Type:=(Z14×a7U)
@[reducible] def c8l:Type:=((List (List Int))×c8k)
@[reducible] def b4Z:Type:=(a1E×b7x)
@[reducible] def c5U:Type:=(Int×c8l)
@[reducible] def d4o:Type:=(Int×b4Z)
@[reducible] def c5V:Type:=(Int×d4o)
@[reducible] def Q0:Ty:=(.pair QI .unit)
@[reducible] def Q1:Ty:=(.pair (.list true (.int .u8)) .unit)
@[reducible] def Q2:Ty:=(.pair (.list true QI) .unit)
@[reducible] def Q3:Ty:=(.pair QL .unit)
@[reducible] def Q4:Ty:=(.pair QI Q0)
@[reducible] def Q5:Ty:=(.pair (.list false QL) .unit)
@[reducible] def Q6:Ty:=(.pair (.list true (.int .u8)) Q0)
@[reducible] def Q7:Ty:=(.pair QI Q2)
@[reducible] def Q8:Ty:=(.pair QI Q3)
@[reducible] def Q9:Ty:=(.pair QI Q4)
@[reducible] def Q10:Ty:=(.pair (.list true QI) Q2)
@[reducible] def Q11:Ty:=(.pair QI Q5)
@[reducible] def Q12:Ty:=(.pair (.list false (.int .u8)) Q4)
@[reducible] def Q13:Ty:=(.pair QI Q10)
@[reducible] def Q14:Ty:=(.pair Q8 Q3)
@[reducible] def Q15:Ty:=(.pair (.nl QI) Q14)
@[reducible] def Q16:Ty:=(.pair QL Q14)
@[reducible] def Q17:Ty:=(.pair (.list true Q4) Q15)
@[reducible] def Q18:Ty:=(.pair (.list false Q4) Q15)
@[reducible] def Q19:Ty:=(.pair (.list false Q4) Q16)
@[reducible] def Q20:Ty:=(.pair (.arr 3 QI) Q17)
@[reducible] def Q21:Ty:=(.pair (.arr 3 QI) Q18)
@[reducible] def Q22:Ty:=(.pair (.arr 3 QI) Q19)
@[reducible] def Q23:Ty:=(.pair (.list true QI) Q20)
@[reducible] def Q24:Ty:=(.pair QL Q21)
@[reducible] def Q25:Ty:=(.pair QL Q22)
@[reducible] def Q26:Ty:=(.pair QI Q23)
@[reducible] def Q27:Ty:=(.pair QI Q24)
@[reducible] def Q28:Ty:=(.pair QI Q25)
@[reducible] def Q29:Ty:=(.pair QI Q26)
@[reducible] def Q30:Ty:=(.pair QI Q27)
@[reducible] def Q31:Ty:=(.pair QI Q28)
@[reducible] def Q32:Ty:=(.pair QI Q29)
@[reducible] def Q33:Ty:=(.pair QI Q30)
@[reducible] def Q34:Ty:=(.pair QI Q31)
@[reducible] def Q35:Ty:=(.pair QI Q32)
@[reducible] def Q36:Ty:=(.pair QI Q33)
@[reducible] def Q37:Ty:=(.pair QI Q34)
@[reducible] def Q38:Ty:=(.pair QI Q35)
@[reducible] def Q39:Ty:=(.pair QI Q37)
@[reducible] def Q40:Ty:=(.pair (.nl Q39) .unit)
@[reducible] def Q41:Ty:=(.pair (.list true Q39) .unit)
@[reducible] def Q42:Ty:=(.pair (.list false Q39) .unit)
@[reducible] def Q43:Ty:=(.pair (.nl Q9) Q40)
@[reducible] def Q44:Ty:=(.pair (.list true Q9) Q40)
@[reducible] def Q45:Ty:=(.pair (.list false Q9) Q41)
@[reducible] def Q46:Ty:=(.pair (.list false Q9) Q42)
@[reducible] def Q47:Ty:=(.pair Q9 Q43)
@[reducible] def Q48:Ty:=(.pair Q9 Q44)
@[reducible] def Q49:Ty:=(.pair Q9 Q45)
@[reducible] def Q50:Ty:=(.pair Q9 Q46)
@[reducible] def Q51:Ty:=(.pair QI Q47)
@[reducible] def Q52:Ty:=(.pair QI Q48)
@[reducible] def Q53:Ty:=(.pair QI Q49)
@[reducible] def Q54:Ty:=(.pair QI Q50)
@[reducible] def Q55:Ty:=(.pair QI Q52)
@[reducible] def Q56:Ty:=(.pair QI Q53)
@[reducible] def Q57:Ty:=(.pair QI Q54)
def c3x:List (Nat×Ty):=[(2,.int .i64),(3,.int .i64),(4,.bool),(5,.int .u8),(9,.str),(23,.pair QI Q4),(24,.list false Q9),(25,.list false Q39),(27,.pair QI Q54),(30,.list false QL),(32,.pair QI Q5),(33,.int .i64),(38,.list false (.int .u8)),(56,.list false QI),(57,.arr 3 QI),(58,.list false Q4),(60,.pair QI Q3),(62,.pair QI Q37),(68,.int .u16),(70,.int .u64),(90,.pair (.list false (.int .u8)) Q0),(96,.int .u64),(100,.pair (.list false (.int .u8)) .unit),(137,.pair QI Q4),(148,.pair QI Q0),(151,.list false (.int .u64)),(163,.pair (.list false (.int .u8)) Q4),(211,.pair (.list false (.int .u8)) Q4),(220,.arr 64 (.int .u8)),(248,.list false (.arr 3 QI)),(252,.pair QI (.pair QL Q3)),(254,.pair QI (.pair QL Q3))]
def T0:Nat→Option Ty:=fun t=>find c3x t
def c5W:List Nat:=[23,57,137,148]
def d4p:Nat→Bool:=fun t=>c5W.contains t
def c3F:List Nat:=[]
def d4q:Nat→Bool:=fun t=>c3F.contains t
def b1R:(List Int):=[0,1,56,2,57,49,28,3,61,58,42,50,38,29,17,4,62,47,59,36,45,43,51,22,53,39,33,30,24,18,12,5,63,55,48,27,60,41,37,16,46,35,44,21,52,32,23,11,54,26,40,15,34,20,31,10,25,14,19,9,13,8,7,6]
def G0:Nat→Option ((t:Ty)×t.den):=fun g=>find ([(0,⟨.arr 64 (.int .u8),b1R⟩)]:List (Nat×((t:Ty)×t.den))) g
@[reducible] def a2q(a:List (Nat×FSem))(b:List (Nat×Ty))(c d:List Nat):Cx:=⟨d4q,d4p,T0,fun f=>find a f,fun n=>find b n,fun i=>c.contains i,fun i=>d.contains i,G0⟩
def a6P(x:Int):Option Bool:= cond (decide (4≤x)) (some (decide (x≤24))) (some false)
def b2J:FSem:=⟨[.v QI],[.v .bool],a6P⟩
def d4r:Hints:=⟨[],[],[]⟩
def a6Q(x:Z7):Option Bool:= cond (decide (1≤x.1)) (cond (decide (x.1≤1048576)) (cond (decide (1≤x.2.1)) (cond (decide (x.2.1≤8)) ((a6P x.2.2.1).bind fun y1=> some y1) (some false)) (some false)) (some false)) (some false)
def b2K:FSem:=⟨[.v Q9],[.v .bool],a6Q⟩
def H77:Hints:=⟨[],[],[]⟩
def a6R(s:(Int×Z71)):Option ((Int×Z71) ⊕ Z0):= cond (decide (s.2.2.2.1<s.2.2.1)) ((l0z s.2.1 s.2.2.2.1).bind fun x2=> (show Option (Int×Z16×Int×Int×Bool×Z26)from cond (decide (x2.1<0)) (some (s.1,s.2.1,s.2.2.1,s.2.2.2.1,true,x2,())) (cond (decide (x2.1≥s.1)) (some (s.1,s.2.1,s.2.2.1,s.2.2.2.1,true,x2,())) (cond (decide (x2.2.1<0)) (some (s.1,s.2.1,s.2.2.1,s.2.2.2.1,true,x2,())) (cond (decide (x2.2.1≥s.1)) (some (s.1,s.2.1,s.2.2.1,s.2.2.2.1,true,x2,())) (some (s.1,s.2.1,s.2.2.1,s.2.2.2.1,x2.1==x2.2.1,x2,())))))).bind fun z3=> cond z3.2.2.2.2.1 (some (.inr (Sum.inr ((false,()))))) ((show Option (Int×Z16×Z10)from cond (decide (z3.2.2.2.2.2.1.2.2.1<(-1024))) (some (z3.1,z3.2.1,z3.2.2.1,z3.2.2.2.1,true,())) (some (z3.1,z3.2.1,z3.2.2.1,z3.2.2.2.1,decide (z3.2.2.2.2.2.1.2.2.1 > 1024),()))).bind fun z4=> cond z4.2.2.2.2.1 (some (.inr (Sum.inr ((false,()))))) (some (.inl (z4.1,z4.2.1,z4.2.2.1,wrap .i64 (z4.2.2.2.1+1),()))))) (some (.inr (Sum.inl ())))
def a8q(x:(Z16×Int)):Option Bool:= (show Option (Z16×Int×Bool×Unit)from cond (decide (x.2<1)) (some (x.1,x.2,true,())) (cond (decide (x.2 > 8)) (some (x.1,x.2,true,())) (some (x.1,x.2,decide ((x.1.length:Int) > 16),())))).bind fun z1=> cond z1.2.2.1 (some false) ((x0r a6R (z1.2.1,z1.1,(z1.1.length:Int),0,())).bind fun w5=> match w5 with |.inl a6=>some true |.inr b7=>some b7.1)
def b3m:FSem:=⟨[.v (.list false Q9),.v QI],[.v .bool],a8q⟩
def d4s:Hints:=⟨[(58,[.sv 1 QI,.sv 18 (.list false Q9),.sv 19 QI,.sv 20 QI],[(.exit 0,[]),(.ret,[.sv 4 .bool])])],[(6,[(.normal,[.sv 0 (.list false Q9),.sv 1 QI,.sv 17 .bool])]),(7474,[(.normal,[.sv 1 QI,.sv 18 (.list false Q9),.sv 19 QI,.sv 20 QI,.sv 50 .bool,.box 6 Q9,.ptr 6 6 []])]),(7475,[(.normal,[.sv 1 QI,.sv 18 (.list false Q9),.sv 19 QI,.sv 20 QI,.sv 58 .bool])])],[]⟩
def a9n(x:a5C):Option Bool:= (a6Q x.2.2.1).bind fun y1=> cond y1 (cond (decide (x.2.1≥1)) (cond (decide (x.2.1≤4096)) (cond (decide (x.1≥0)) (cond (decide (x.1≤(wrap .i64 (4194304-x.2.1)))) ((a8q (x.2.2.2.1,x.2.2.1.2.1)).bind fun y2=> some y2) (some false)) (some false)) (some false)) (some false)) (some false)
def a9o:FSem:=⟨[.v Q57],[.v .bool],a9n⟩
def H44:Hints:=⟨[],[],[]⟩
def a2r(s:Z17):Option Z73:= cond (decide (s.2.2.1<s.2.1)) ((l0z s.1 s.2.2.1).bind fun x1=> (show Option Z37 from cond (decide (x1<(-1073741824))) (some (s.1,s.2.1,s.2.2.1,true,())) (some (s.1,s.2.1,s.2.2.1,decide (x1≥1073741824),()))).bind fun z2=> cond z2.2.2.2.1 (some (.inr (Sum.inr ((false,()))))) (some (.inl (z2.1,z2.2.1,wrap .i64 (z2.2.2.1+1),())))) (some (.inr (Sum.inl ())))
def a1S(x:(List Int)):Option Bool:= (x0r a2r (x,(x.length:Int),0,())).bind fun w3=> match w3 with |.inl a4=>some true |.inr b5=>some b5.1
def a9p:FSem:=⟨[.v QL],[.v .bool],a1S⟩
def H90:Hints:=⟨[(26,[.sv 5 QL,.sv 6 QI,.sv 7 QI],[(.exit 0,[]),(.ret,[.sv 2 .bool])])],[(1689,[(.normal,[.sv 5 QL,.sv 6 QI,.sv 7 QI,.sv 16 .bool])])],[]⟩
def a7V(x:Int):Option Bool:= cond (x != 0) (some (x != 1)) (some false)
def a7W:FSem:=⟨[.v QI],[.v .bool],a7V⟩
def d4t:Hints:=⟨[],[],[]⟩
def a3E(s:Z17):Option Z73:= cond (decide (s.2.2.1<s.2.1)) ((l0z s.1 s.2.2.1).bind fun x2=> (show Option Z37 from cond (decide (x2<(-32768))) (some (s.1,s.2.1,s.2.2.1,true,())) (some (s.1,s.2.1,s.2.2.1,decide (x2≥32768),()))).bind fun z3=> cond z3.2.2.2.1 (some (.inr (Sum.inr ((false,()))))) (some (.inl (z3.1,z3.2.1,wrap .i64 (z3.2.2.1+1),())))) (some (.inr (Sum.inl ())))
def a4v(x:((List Int)×Int)):Option Bool:= (show Option ((List Int)×(Bool×Unit))from cond (decide ((x.1.length:Int)<1)) (some (x.1,true,())) (cond (decide ((x.1.length:Int) > 32)) (some (x.1,true,())) (cond (decide (x.2<0)) (some (x.1,true,())) (some (x.1,decide (x.2 > 15),()))))).bind fun z1=> cond z1.2.1 (some false) ((x0r a3E (z1.1,(z1.1.length:Int),0,())).bind fun w4=> match w4 with |.inl a5=>some true |.inr b6=>some b6.1)
def a9Y:FSem:=⟨[.v QL,.v QI],[.v .bool],a4v⟩
def d4u:Hints:=⟨[(58,[.sv 23 QL,.sv 24 QI,.sv 25 QI],[(.exit 0,[]),(.ret,[.sv 4 .bool])])],[(6,[(.normal,[.sv 0 QL,.sv 22 .bool])]),(3737,[(.normal,[.sv 23 QL,.sv 24 QI,.sv 25 QI,.sv 34 .bool])])],[]⟩
def a4V(s:Z6):Option (Z6 ⊕ Z0):= cond (decide (s.2.1<3)) ((l0z s.1 s.2.1).bind fun x2=> (show Option Z20 from cond (decide (x2<(-64))) (some (s.1,s.2.1,true,())) (some (s.1,s.2.1,decide (x2 > 64),()))).bind fun z3=> cond z3.2.2.1 (some (.inr (Sum.inr ((false,()))))) (some (.inl (z3.1,wrap .i64 (z3.2.1+1),())))) (some (.inr (Sum.inl ())))
def a8r(x:(Int×(List Int))):Option Bool:= (show Option Z8 from cond (decide (x.1<2)) (some (true,x.2,())) (some (decide (x.1 > 1024),x.2,()))).bind fun z1=> cond z1.1 (some false) ((x0r a4V (z1.2.1,0,())).bind fun w4=> match w4 with |.inl a5=>some true |.inr b6=>some b6.1)
def b3n:FSem:=⟨[.v QI,.v (.arr 3 QI)],[.v .bool],a8r⟩
def d4v:Hints:=⟨[(58,[.sv 13 (.arr 3 QI),.sv 14 QI],[(.exit 0,[]),(.ret,[.sv 4 .bool])])],[(6,[(.normal,[.sv 12 .bool,.vp 3 (.arr 3 QI)])]),(3737,[(.normal,[.sv 13 (.arr 3 QI),.sv 14 QI,.sv 22 .bool])])],[]⟩
def a6S(x:(Int×Int×Unit)):Option Bool:= cond (decide (x.1≥1)) (cond (decide (x.1≤32)) (cond (decide (x.2.1≥0)) (some (decide (x.2.1≤8))) (some false)) (some false)) (some false)
def b2L:FSem:=⟨[.v Q4],[.v .bool],a6S⟩
def d4w:Hints:=⟨[],[],[]⟩
def a5Z(s:(Z4×Int×Int×Unit)):Option ((Z4×Int×Int×Unit) ⊕ Z0):= cond (decide (s.2.2.1<s.2.1)) ((l0z s.1 s.2.2.1).bind fun x1=> (a6S x1).bind fun y2=> cond (!y2) (some (.inr (Sum.inr ((false,()))))) (some (.inl (s.1,s.2.1,wrap .i64 (s.2.2.1+1),())))) (some (.inr (Sum.inl ())))
def a7j(x:Z4):Option Bool:= cond (decide ((x.length:Int) > 3)) (some false) ((x0r a5Z (x,(x.length:Int),0,())).bind fun w3=> match w3 with |.inl a4=>some true |.inr b5=>some b5.1)
def b1S:FSem:=⟨[.v (.list false Q4)],[.v .bool],a7j⟩
def d4x:Hints:=⟨[(58,[.sv 8 (.list false Q4),.sv 9 QI,.sv 10 QI],[(.exit 0,[]),(.ret,[.sv 2 .bool])])],[],[]⟩
def b2y(x:(Int×a9K)):Option Bool:= (show Option c5P from cond (x.1==0) (some (x.2.2,x.1,x.1==0,x.2.1,())) (some (x.2.2,x.1,x.1==1,x.2.1,()))).bind fun z1=> cond z1.2.2.1 (some true) (cond (z1.2.1==2) (cond (decide (z1.2.2.2.1.2.2.1≥0)) (cond (decide (z1.2.2.2.1.2.2.1≤4)) (some (decide (z1.2.2.2.1.2.2.1≤z1.1))) (some false)) (some false)) (cond (z1.2.1==3) ((a4v (z1.2.2.2.1.2.2.2.2.2.1,z1.2.2.2.1.2.2.2.1)).bind fun y2=> cond y2 (some (decide ((z1.2.2.2.1.2.2.2.2.2.1.length:Int)≤z1.1))) (some false)) (cond (z1.2.1==4) ((a4v (z1.2.2.2.1.2.2.2.2.2.1,z1.2.2.2.1.2.2.2.1)).bind fun y3=> cond y3 (cond (decide ((z1.2.2.2.1.2.2.2.2.2.1.length:Int)≤z1.1)) ((a8r (z1.2.2.2.1.2.2.2.2.1,z1.2.2.2.1.2.2.2.2.2.2.1)).bind fun y4=> some y4) (some false)) (some false)) (cond (z1.2.1==5) (cond (decide ((z1.2.2.2.1.2.2.2.2.2.2.2.1.length:Int) > 0)) ((a7j z1.2.2.2.1.2.2.2.2.2.2.2.1).bind fun y5=> some y5) (some false)) (some false)))))
def b2z:FSem:=⟨[.v QI,.v Q39,.v QI],[.v .bool],b2y⟩
def d4y:Hints:=⟨[],[(26,[(.normal,[.sv 2 QI,.sv 7 QI,.sv 8 .bool,.vp 4 Q39])])],[]⟩
def a7X(x:a9K):Option Int:= cond (x.1.1==0) (some 1) (cond (x.1.1==1) (some x.2) (cond (x.1.1==2) (some x.1.2.2.1) ((show Option c5N from cond (x.1.1==3) (some (x.1.1==3,x.1,())) (some (x.1.1==4,x.1,()))).bind fun z1=> cond z1.1 (some (z1.2.1.2.2.2.2.2.1.length:Int)) (some 0))))
def a7Y:FSem:=⟨[.v Q39,.v QI],[.v QI],a7X⟩
def d4z:Hints:=⟨[],[(1727,[(.normal,[.sv 16 .bool,.vp 2 Q39])])],[]⟩
def a1b(x:(List Int)):Option (List Int):= w0g x
def a0U:FSem:=⟨[.v QL],[.o QI],a1b⟩
def H87:Hints:=⟨[],[],[]⟩
def d0Z:Cx:=a2q [] [] [0,2] []
theorem d4A(x):z0c d0Z H87 Tryz.f87 a0U.ps a0U.rs x=a0U.F x:=Eq.trans (show _=v0w x by kernel_rfl) (z0q x)
def a3O(x:(List Int)):Option (List Int):= w0g x
def a1F:FSem:=⟨[.v QL],[.v QL],a3O⟩
def d4B:Hints:=⟨[],[],[]⟩
def c9i:Cx:=a2q [] [] [0,2] []
theorem d2a(x):z0c c9i d4B Tryz.f87 a1F.ps a1F.rs x=a1F.F x:=Eq.trans (show _=v0w x by kernel_rfl) (z0q x)
def a1m(x:Z4):Option Z4:= w0g x
def a0Z:FSem:=⟨[.v (.list false Q4)],[.v (.list false Q4)],a1m⟩
def d2b:Hints:=⟨[],[],[]⟩
def c7q:Cx:=a2q [] [] [0,2] []
theorem d1a(x):z0c c7q d2b Tryz.f229 a0Z.ps a0Z.rs x=a0Z.F x:=Eq.trans (show _=v0w x by kernel_rfl) (z0q x)
def a6a(x:(Int×a1E)):Option a1E:= (show Option b4Z from(show Option ((a1E×b4Z) ⊕ (b4Z ⊕ (a1E×b4Z)))from cond (x.1==2) (some (Sum.inr (Sum.inl ((0,0,0,0,0,[],a03 3 0,[],[],(0,[],()),[],()),(x.1,0,x.2.2.2.1,0,0,[],a03 3 0,[],[],(0,[],()),[],()),())))) (cond (x.1==4) (some (Sum.inl ((0,0,0,0,0,[],a03 3 0,[],[],(0,[],()),[],()),(x.1,0,0,0,x.2.2.2.2.2.1,[],x.2.2.2.2.2.2.2.1,[],[],(0,[],()),[],()),x.2,()))) (cond (x.1==3) (some (Sum.inl ((0,0,0,0,0,[],a03 3 0,[],[],(0,[],()),[],()),(x.1,0,0,0,0,[],a03 3 0,[],[],(0,[],()),[],()),x.2,()))) (cond (x.1==5) (some (Sum.inr (Sum.inr (((0,0,0,0,0,[],a03 3 0,[],[],(0,[],()),[],()),(x.1,0,0,0,0,[],a03 3 0,[],[],(0,[],()),[],()),x.2,()))))) (some (Sum.inr (Sum.inl ((0,0,0,0,0,[],a03 3 0,[],[],(0,[],()),[],()),(x.1,0,0,0,0,[],a03 3 0,[],[],(0,[],()),[],()),())))))))).bind fun z1=> match z1 with |.inl a2=>((a3O a2.2.2.1.2.2.2.2.2.1).bind fun y4=> some (a2.1,(a2.2.1.1,a2.2.1.2.1,a2.2.1.2.2.1,a2.2.2.1.2.2.2.1,a2.2.1.2.2.2.2.1,y4,a2.2.1.2.2.2.2.2.2),())) |.inr b3=>(match b3 with |.inl a5=>some (a5.1,a5.2.1,()) |.inr b6=>((a1m b6.2.2.1.2.2.2.2.2.2.2.1).bind fun y7=> some (b6.1,(b6.2.1.1,b6.2.1.2.1,b6.2.1.2.2.1,b6.2.1.2.2.2.1,b6.2.1.2.2.2.2.1,b6.2.1.2.2.2.2.2.1,b6.2.1.2.2.2.2.2.2.1,y7,b6.2.1.2.2.2.2.2.2.2.2),())))).bind fun z8=> some z8.2.1
def b3G:FSem:=⟨[.v QI,.v Q39],[.v Q39],a6a⟩
def d4C:Hints:=⟨[],[(7,[(.normal,[.box 4 Q39,.box 5 Q39,.ptr 4 4 [],.ptr 5 5 []])]),(232,[(.normal,[.box 4 Q39,.box 5 Q39,.vp 3 Q39,.ptr 4 4 [],.ptr 5 5 []]),(.exit 0,[.box 4 Q39,.box 5 Q39,.ptr 4 4 [],.ptr 5 5 []]),(.exit 4,[.box 4 Q39,.box 5 Q39,.vp 3 Q39,.ptr 4 4 [],.ptr 5 5 []])])],[(8,[.v,.v,.v,.v,.q,.w [0,5],.x,.x]),(9,[.v,.v,.v,.v,.v,.q,.w [0,5],.x,.x])]⟩
def b1T(x:a1E):Option Bool:= (a6a (x.1,x)).bind fun y1=> cond (x.2.2.1==y1.2.2.1) (cond (x.2.2.2.1==y1.2.2.2.1) (cond (x.2.2.2.2.1==y1.2.2.2.2.1) (cond (eqT (.arr 3 (.int .i64)) x.2.2.2.2.2.2.1 y1.2.2.2.2.2.2.1) (cond ((x.2.2.2.2.2.1.length:Int)==(y1.2.2.2.2.2.1.length:Int)) (some ((x.2.2.2.2.2.2.2.1.length:Int)==(y1.2.2.2.2.2.2.2.1.length:Int))) (some false)) (some false)) (some false)) (some false)) (some false)
def b8U:FSem:=⟨[.v Q39],[.v .bool],b1T⟩
def d4D:Hints:=⟨[],[],[]⟩
def a8W(x:(Int×Int)):Option Bool:= cond (decide (1≤x.1)) (cond (decide (x.1≤4096)) (cond (decide (0≤x.2)) (some (decide (x.2≤x.1))) (some false)) (some false)) (some false)
def a8X:FSem:=⟨[.v QI,.v QI],[.v .bool],a8W⟩
def d4E:Hints:=⟨[],[],[]⟩
def a6r(s:Z18):Option (Z18 ⊕ ((List Int)×Unit)):= cond (decide (s.1<0)) none (cond (decide ((s.2.2.1.length:Int)<(z0g .i64 1 s.1))) (cond (lim ((a01 s.2.2.1)+1)) (some (.inl (s.1,s.2.1,a04 s.2.2.1 [s.2.1],()))) none) (some (.inr (s.2.2.1,()))))
def a3P(x:(Int×Int×Int)):Option (List Int):= (show Option Z27 from(a8W (x.2.1,x.2.2)).bind fun y1=> cond (!y1) (some (x.1,x.2.1,x.2.2,true,())) (cond (decide (x.1<0)) (some (x.1,x.2.1,x.2.2,true,())) (some (x.1,x.2.1,x.2.2,decide (x.1 > 8),())))).bind fun z2=> cond z2.2.2.2.1 (some []) (cond (decide (z2.1<0)) none ((show Option Z27 from cond (decide (z2.1<0)) none (cond ((z0g .i64 (z0h .i64 z2.2.1 z2.1) z2.1) != z2.2.1) (some (z2.1,z2.2.2.1,z0h .i64 z2.2.1 z2.1,true,())) (some (z2.1,z2.2.2.1,z0h .i64 z2.2.1 z2.1,decide ((z0h .i64 z2.2.1 z2.1)<z2.2.2.1),())))).bind fun z3=> cond z3.2.2.2.1 (some []) ((x0r a6r (z3.1,z3.2.2.1,[wrap .i64 (z3.2.2.1-z3.2.1)],())).bind fun w4=> some w4.1)))
def a3Q:FSem:=⟨[.v QI,.v QI,.v QI],[.o QI],a3P⟩
def d4F:Hints:=⟨[(252,[.sv 0 QI,.sv 7 QI,.own 8 8 QI],[(.exit 0,[.own 8 8 QI])])],[(6,[(.normal,[.sv 0 QI,.sv 1 QI,.sv 2 QI,.sv 20 .bool])]),(30,[(.normal,[.sv 0 QI,.sv 2 QI,.sv 7 QI,.sv 33 .bool])])],[]⟩
def a4m(s:Z17):Option Z73:= cond (decide (s.2.2.1<s.2.1)) ((l0z s.1 s.2.2.1).bind fun x3=> (show Option Z37 from cond (decide (x3<0)) (some (s.1,s.2.1,s.2.2.1,x3 != 31,())) (cond (decide (x3 > 25)) (some (s.1,s.2.1,s.2.2.1,x3 != 31,())) (some (s.1,s.2.1,s.2.2.1,false,())))).bind fun z4=> cond z4.2.2.2.1 (some (.inr (Sum.inr ((false,()))))) (some (.inl (z4.1,z4.2.1,wrap .i64 (z4.2.2.1+1),())))) (some (.inr (Sum.inl ())))
def a8Y(x:(Z5×Int×Int)):Option Bool:= (a3P (x.1.1,x.2.1,x.2.2)).bind fun y1=> (show Option Z43 from cond ((y1.length:Int)==0) (some (true,x.1,())) (some ((x.1.2.1.length:Int) != (y1.length:Int),x.1,()))).bind fun z2=> cond z2.1 (some false) ((x0r a4m (z2.2.1.2.1,(z2.2.1.2.1.length:Int),0,())).bind fun w5=> match w5 with |.inl a6=>some true |.inr b7=>some b7.1)
def b5a:FSem:=⟨[.v Q8,.v QI,.v QI],[.v .bool],a8Y⟩
def d4G:Hints:=⟨[(122,[.sv 27 QL,.sv 28 QI,.sv 29 QI],[(.exit 0,[]),(.ret,[.sv 6 .bool])])],[(14,[(.normal,[.sv 25 .bool,.vp 3 Q8])]),(7833,[(.normal,[.sv 27 QL,.sv 28 QI,.sv 29 QI,.sv 42 .bool])])],[]⟩
def a9Z(x:a9K):Option Bool:= (show Option c1M from cond (decide (x.2<1)) (some (x.2,true,x.1,())) (cond (decide (x.2 > 4096)) (some (x.2,true,x.1,())) ((b2y (x.1.1,x.1,x.2)).bind fun y1=> cond (!y1) (some (x.2,true,x.1,())) ((b1T x.1).bind fun y2=> some (x.2,!y2,x.1,()))))).bind fun z3=> cond z3.2.1 (some false) ((show Option c1M from cond (decide (z3.2.2.1.2.1<0)) (some (z3.1,true,z3.2.2.1,())) (cond (decide (z3.2.2.1.2.1 > 30)) (some (z3.1,true,z3.2.2.1,())) (cond (z3.2.2.1.1==0) (some (z3.1,z3.2.2.1.2.1 != 0,z3.2.2.1,())) (some (z3.1,false,z3.2.2.1,()))))).bind fun z4=> cond z4.2.1 (some false) ((a7X (z4.2.2.1,z4.1)).bind fun y5=> (show Option c5P from cond ((z4.2.2.1.2.2.2.2.2.2.2.2.1.length:Int) != y5) (some (z4.1,y5,true,z4.2.2.1,())) ((a1S z4.2.2.1.2.2.2.2.2.2.2.2.1).bind fun y6=> cond (!y6) (some (z4.1,y5,true,z4.2.2.1,())) ((a1S z4.2.2.1.2.2.2.2.2.2.2.2.2.2.1).bind fun y7=> some (z4.1,y5,!y7,z4.2.2.1,())))).bind fun z8=> cond z8.2.2.1 (some false) ((a7V z8.2.2.2.1.1).bind fun y9=> cond (!y9) (cond ((z8.2.2.2.1.2.2.2.2.2.2.2.2.2.2.1.length:Int)==0) (cond (z8.2.2.2.1.2.2.2.2.2.2.2.2.2.1.1==0) (some ((z8.2.2.2.1.2.2.2.2.2.2.2.2.2.1.2.1.length:Int)==0)) (some false)) (some false)) (cond ((z8.2.2.2.1.2.2.2.2.2.2.2.2.2.2.1.length:Int)==(wrap .i64 (z8.1-z8.2.1))) ((a8Y (z8.2.2.2.1.2.2.2.2.2.2.2.2.2.1,z8.1,z8.2.1)).bind fun y10=> some y10) (some false)))))
def b7y:FSem:=⟨[.v Q39,.v QI],[.v .bool],a9Z⟩
def d4H:Hints:=⟨[],[(6,[(.normal,[.sv 1 QI,.sv 24 .bool,.vp 2 Q39])]),(14,[(.normal,[.sv 1 QI,.sv 42 .bool,.vp 2 Q39])]),(62,[(.normal,[.sv 1 QI,.sv 5 QI,.sv 62 .bool,.vp 2 Q39])])],[]⟩
def b4r(s:Z17):Option Z73:= cond (decide (s.2.2.1<s.2.1)) ((l0z s.1 s.2.2.1).bind fun x1=> (show Option Z37 from cond (decide (x1<(-1073741824))) (some (s.1,s.2.1,s.2.2.1,true,())) (some (s.1,s.2.1,s.2.2.1,decide (x1≥1073741824),()))).bind fun z2=> cond z2.2.2.2.1 (some (.inr (Sum.inr ((false,()))))) (some (.inl (z2.1,z2.2.1,wrap .i64 (z2.2.2.1+1),())))) (some (.inr (Sum.inl ())))
def a2l(x:(List Int)):Option Bool:= (x0r b4r (x,(x.length:Int),0,())).bind fun w3=> match w3 with |.inl a4=>some true |.inr b5=>some b5.1
def b3H:FSem:=⟨[.v QL],[.v .bool],a2l⟩
def d4I:Hints:=⟨[(26,[.sv 5 QL,.sv 6 QI,.sv 7 QI],[(.exit 0,[]),(.ret,[.sv 2 .bool])])],[(1689,[(.normal,[.sv 5 QL,.sv 6 QI,.sv 7 QI,.sv 16 .bool])])],[]⟩
def a1e(x:(Int×(List Int))):Option (Int×(List Int)):= (l0z x.2 (wrap .i64 ((x.2.length:Int)-x.1))).bind fun x1=> some (x1,x.2)
def b4s:FSem:=⟨[.v QI,.r false (.b QL)],[.v QI],a1e⟩
def d4J:Hints:=⟨[],[],[]⟩
def a9q(x:((List Int)×Int)):Option Int:= cond (x.2==1) ((a1e (1,x.1)).bind fun y1=> some y1.1) (cond (x.2==2) ((a1e (1,x.1)).bind fun y2=> (a1e (2,y2.2)).bind fun y3=> some (wrap .i64 ((wrap .i64 (2*y2.1))-y3.1))) (cond (x.2==3) ((a1e (1,x.1)).bind fun y4=> (a1e (2,y4.2)).bind fun y5=> (a1e (3,y5.2)).bind fun y6=> some (wrap .i64 ((wrap .i64 ((wrap .i64 (3*y4.1))-(wrap .i64 (3*y5.1))))+y6.1))) (cond (x.2==4) ((a1e (1,x.1)).bind fun y7=> (a1e (2,y7.2)).bind fun y8=> (a1e (3,y8.2)).bind fun y9=> (a1e (4,y9.2)).bind fun y10=> some (wrap .i64 ((wrap .i64 ((wrap .i64 ((wrap .i64 (4*y7.1))-(wrap .i64 (6*y8.1))))+(wrap .i64 (4*y9.1))))-y10.1))) (some 0))))
def b6Y:FSem:=⟨[.v QL,.v QI],[.v QI],a9q⟩
def d4K:Hints:=⟨[],[],[]⟩
def a7z(s:Z63):Option (Z63 ⊕ Z51):= cond (decide (s.2.2.2.1<s.2.2.1)) ((l0z s.2.1 s.2.2.2.1).bind fun x5=> (a9q (s.2.2.2.2.1,s.1)).bind fun y6=> (a2l [wrap .i64 (x5+y6)]).bind fun y7=> cond (!y7) (some (.inr (Sum.inr ((6,[],()))))) (cond (lim ((a01 s.2.2.2.2.1)+1)) (some (.inl (s.1,s.2.1,s.2.2.1,wrap .i64 (s.2.2.2.1+1),a04 s.2.2.2.2.1 [wrap .i64 (x5+y6)],()))) none)) (some (.inr (Sum.inl (s.2.2.2.2.1,()))))
def b0A(x:Z11):Option ((List Int)×Int):= (show Option Z52 from cond (decide (x.2.2<0)) (some (x.1,x.2.1,x.2.2,true,())) (cond (decide (x.2.2 > 4)) (some (x.1,x.2.1,x.2.2,true,())) (some (x.1,x.2.1,x.2.2,(x.1.length:Int) != x.2.2,())))).bind fun z1=> cond z1.2.2.2.1 (some ([],1)) ((show Option Z52 from(a2l z1.1).bind fun y2=> cond (!y2) (some (z1.1,z1.2.1,z1.2.2.1,true,())) ((a2l z1.2.1).bind fun y3=> some (z1.1,z1.2.1,z1.2.2.1,!y3,()))).bind fun z4=> cond z4.2.2.2.1 (some ([],6)) (cond (lim (a01 z4.1)) ((x0r a7z (z4.2.2.1,z4.2.1,(z4.2.1.length:Int),0,z4.1,())).bind fun w8=> match w8 with |.inl a9=>some (a9.1,0) |.inr b10=>some (b10.2.1,b10.1)) none))
def b7z:FSem:=⟨[.v QL,.v QL,.v QI],[.o QI,.v QI],b0A⟩
def d4L:Hints:=⟨[(250,[.sv 2 QI,.sv 34 QL,.sv 35 QI,.sv 36 QI,.own 8 8 QI],[(.exit 0,[.own 8 8 QI]),(.ret,[.sv 7 QI,.own 6 6 QI])])],[(6,[(.normal,[.sv 0 QL,.sv 1 QL,.sv 2 QI,.sv 23 .bool])]),(14,[(.normal,[.sv 0 QL,.sv 1 QL,.sv 2 QI,.sv 31 .bool])])],[]⟩
def a4W(x:Int):Option Bool:= cond (decide (x≥(-1073741824))) (some (decide (x<1073741824))) (some false)
def a9r:FSem:=⟨[.v QI],[.v .bool],a4W⟩
def d4M:Hints:=⟨[],[],[]⟩
def a2X(s:Z17):Option Z73:= cond (decide (s.2.2.1<s.2.1)) ((l0z s.1 s.2.2.1).bind fun x1=> (a4W x1).bind fun y2=> cond (!y2) (some (.inr (Sum.inr ((false,()))))) (some (.inl (s.1,s.2.1,wrap .i64 (s.2.2.1+1),())))) (some (.inr (Sum.inl ())))
def a2s(x:(List Int)):Option Bool:= (x0r a2X (x,(x.length:Int),0,())).bind fun w3=> match w3 with |.inl a4=>some true |.inr b5=>some b5.1
def a6s:FSem:=⟨[.v QL],[.v .bool],a2s⟩
def d4N:Hints:=⟨[(26,[.sv 5 QL,.sv 6 QI,.sv 7 QI],[(.exit 0,[]),(.ret,[.sv 2 .bool])])],[],[]⟩
def a2Y(s:Z78):Option (Z78 ⊕ (Int×Int×Unit)):= cond (decide (s.2.2.2.2.2.1<s.2.2.2.2.1)) ((l0z s.2.2.2.1 s.2.2.2.2.2.1).bind fun x1=> cond (decide ((wrap .i64 ((wrap .i64 ((s.1.length:Int)-1))-s.2.2.2.2.2.1))<0)) (some (.inr (s.2.1,s.2.2.1,()))) ((l0z s.1 (wrap .i64 ((wrap .i64 ((s.1.length:Int)-1))-s.2.2.2.2.2.1))).bind fun x2=> some (.inl (s.1,s.2.1,wrap .i64 (s.2.2.1+(wrap .i64 (x1*x2))),s.2.2.2.1,s.2.2.2.2.1,wrap .i64 (s.2.2.2.2.2.1+1),())))) (some (.inr (s.2.1,s.2.2.1,())))
def a4w(x:Z11):Option Int:= (x0r a2Y (x.1,x.2.2,0,x.2.1,(x.2.1.length:Int),0,())).bind fun w3=> cond (decide (w3.1<0)) none (some (z0h .i64 w3.2.1 w3.1))
def a9L:FSem:=⟨[.v QL,.v QL,.v QI],[.v QI],a4w⟩
def d4O:Hints:=⟨[(58,[.sv 0 QL,.sv 2 QI,.sv 7 QI,.sv 11 QL,.sv 12 QI,.sv 13 QI],[(.exit 0,[.sv 2 QI,.sv 7 QI])])],[],[]⟩
def a6t(s:((List Int)×Z63)):Option (((List Int)×Z63) ⊕ Z51):= cond (decide (s.2.2.2.2.1<s.2.2.2.1)) ((l0z s.2.2.1 s.2.2.2.2.1).bind fun x6=> (a4w (s.2.2.2.2.2.1,s.1,s.2.1)).bind fun y7=> (a4W (wrap .i64 (y7+x6))).bind fun y8=> cond (!y8) (some (.inr (Sum.inr ((6,[],()))))) (cond (lim ((a01 s.2.2.2.2.2.1)+1)) (some (.inl (s.1,s.2.1,s.2.2.1,s.2.2.2.1,wrap .i64 (s.2.2.2.2.1+1),a04 s.2.2.2.2.2.1 [wrap .i64 (y7+x6)],()))) none)) (some (.inr (Sum.inl (s.2.2.2.2.2.1,()))))
def a6T(x:((List Int)×Z11)):Option ((List Int)×Int):= (show Option Z79 from(a4v (x.2.2.1,x.2.2.2)).bind fun y1=> cond (!y1) (some (x.1,x.2.1,x.2.2.1,x.2.2.2,true,())) (some (x.1,x.2.1,x.2.2.1,x.2.2.2,(x.1.length:Int) != (x.2.2.1.length:Int),()))).bind fun z2=> cond z2.2.2.2.2.1 (some ([],1)) ((show Option Z79 from(a2s z2.1).bind fun y3=> cond (!y3) (some (z2.1,z2.2.1,z2.2.2.1,z2.2.2.2.1,true,())) ((a2s z2.2.1).bind fun y4=> some (z2.1,z2.2.1,z2.2.2.1,z2.2.2.2.1,!y4,()))).bind fun z5=> cond z5.2.2.2.2.1 (some ([],6)) (cond ((decide (0≤(wrap .i64 ((z5.1.length:Int)+(z5.2.1.length:Int)))))&&(lim (a00 (wrap .i64 ((z5.1.length:Int)+(z5.2.1.length:Int)))))) (cond (lim (0+(a01 z5.1))) ((x0r a6t (z5.2.2.1,z5.2.2.2.1,z5.2.1,(z5.2.1.length:Int),0,a04 [] z5.1,())).bind fun w9=> match w9 with |.inl a10=>some (a10.1,0) |.inr b11=>some (b11.2.1,b11.1)) none) none))
def b6Z:FSem:=⟨[.v QL,.v QL,.v QL,.v QI],[.o QI,.v QI],a6T⟩
def d4P:Hints:=⟨[(506,[.sv 2 QL,.sv 3 QI,.sv 42 QL,.sv 43 QI,.sv 44 QI,.own 10 10 QI],[(.exit 0,[.own 10 10 QI]),(.ret,[.sv 9 QI,.own 8 8 QI])])],[(6,[(.normal,[.sv 0 QL,.sv 1 QL,.sv 2 QL,.sv 3 QI,.sv 24 .bool])]),(14,[(.normal,[.sv 0 QL,.sv 1 QL,.sv 2 QL,.sv 3 QI,.sv 32 .bool])])],[]⟩
def a7k(x:Int):Option Bool:= cond (decide (x≥(-1073741824))) (some (decide (x<1073741824))) (some false)
def b1U:FSem:=⟨[.v QI],[.v .bool],a7k⟩
def d4Q:Hints:=⟨[],[],[]⟩
def a3W(s:Z17):Option Z73:= cond (decide (s.2.2.1<s.2.1)) ((l0z s.1 s.2.2.1).bind fun x1=> (a7k x1).bind fun y2=> cond (!y2) (some (.inr (Sum.inr ((false,()))))) (some (.inl (s.1,s.2.1,wrap .i64 (s.2.2.1+1),())))) (some (.inr (Sum.inl ())))
def a4n(x:(List Int)):Option Bool:= (x0r a3W (x,(x.length:Int),0,())).bind fun w3=> match w3 with |.inl a4=>some true |.inr b5=>some b5.1
def a8s:FSem:=⟨[.v QL],[.v .bool],a4n⟩
def d4R:Hints:=⟨[(26,[.sv 5 QL,.sv 6 QI,.sv 7 QI],[(.exit 0,[]),(.ret,[.sv 2 .bool])])],[],[]⟩
def a3X(s:((List Int)×(Int×Int×Z19))):Option (((List Int)×(Int×Int×Z19)) ⊕ (Int×Unit)):= cond (decide (s.2.2.2.2.2.1<3)) ((l0z s.2.2.2.2.1 s.2.2.2.2.2.1).bind fun x1=> cond (decide ((wrap .i64 ((wrap .i64 ((wrap .i64 (s.2.1-s.2.2.1))-1))+s.2.2.2.2.2.1))≥0)) ((l0z s.1 (wrap .i64 ((wrap .i64 ((wrap .i64 (s.2.1-s.2.2.1))-1))+s.2.2.2.2.2.1))).bind fun x2=> some (.inl (s.1,s.2.1,s.2.2.1,wrap .i64 (s.2.2.2.1+(wrap .i64 (x1*x2))),s.2.2.2.2.1,wrap .i64 (s.2.2.2.2.2.1+1),()))) (some (.inl (s.1,s.2.1,s.2.2.1,s.2.2.2.1,s.2.2.2.2.1,wrap .i64 (s.2.2.2.2.2.1+1),())))) (some (.inr (s.2.2.2.1,())))
def a4o(x:((List Int)×Z1)):Option Int:= (x0r a3X (x.1,x.2.1,x.2.2.1,0,x.2.2.2,0,())).bind fun w3=> some (z0h .i64 w3.1 6)
def b1x:FSem:=⟨[.v QL,.v QI,.v QI,.v (.arr 3 QI)],[.v QI],a4o⟩
def d4S:Hints:=⟨[(58,[.sv 0 QL,.sv 1 QI,.sv 2 QI,.sv 9 QI,.sv 13 (.arr 3 QI),.sv 14 QI],[(.exit 0,[.sv 9 QI])])],[],[]⟩
def a8t(s:Z87):Option (Z87 ⊕ Z51):= cond (decide (s.2.2.2.1<s.2.2.1)) ((l0z s.2.1 s.2.2.2.1).bind fun x3=> (a4o (s.2.2.2.2.1,s.2.2.2.1,s.1,s.2.2.2.2.2.1)).bind fun y4=> (a7k (wrap .i64 (x3+y4))).bind fun y5=> cond (!y5) (some (.inr (Sum.inr ((6,[],()))))) (cond (lim ((a01 s.2.2.2.2.1)+1)) (some (.inl (s.1,s.2.1,s.2.2.1,wrap .i64 (s.2.2.2.1+1),a04 s.2.2.2.2.1 [wrap .i64 (x3+y4)],s.2.2.2.2.2.1,()))) none)) (some (.inr (Sum.inl (s.2.2.2.2.1,()))))
def b1V(x:Z12):Option ((List Int)×Int):= (a8r (x.2.1,x.2.2)).bind fun y1=> cond (!y1) (some ([],1)) ((a4n x.1).bind fun y2=> cond (!y2) (some ([],6)) (cond ((decide (0≤(x.1.length:Int)))&&(lim (a00 (x.1.length:Int)))) ((x0r a8t (x.2.1,x.1,(x.1.length:Int),0,[],x.2.2,())).bind fun w6=> match w6 with |.inl a7=>some (a7.1,0) |.inr b8=>some (b8.2.1,b8.1)) none))
def b8V:FSem:=⟨[.v QL,.v QI,.v (.arr 3 QI)],[.o QI,.v QI],b1V⟩
def d4T:Hints:=⟨[(250,[.sv 1 QI,.sv 22 QL,.sv 23 QI,.sv 24 QI,.own 8 8 QI,.vp 5 (.arr 3 QI)],[(.exit 0,[.own 8 8 QI]),(.ret,[.sv 7 QI,.own 6 6 QI])])],[],[]⟩
def a6b(x:Int):Option Bool:= cond (decide (x≥(-1073741824))) (some (decide (x<1073741824))) (some false)
def b0B:FSem:=⟨[.v QI],[.v .bool],a6b⟩
def d4U:Hints:=⟨[],[],[]⟩
def a3r(s:Z17):Option Z73:= cond (decide (s.2.2.1<s.2.1)) ((l0z s.1 s.2.2.1).bind fun x1=> (a6b x1).bind fun y2=> cond (!y2) (some (.inr (Sum.inr ((false,()))))) (some (.inl (s.1,s.2.1,wrap .i64 (s.2.2.1+1),())))) (some (.inr (Sum.inl ())))
def a5c(x:(List Int)):Option Bool:= (x0r a3r (x,(x.length:Int),0,())).bind fun w3=> match w3 with |.inl a4=>some true |.inr b5=>some b5.1
def b0C:FSem:=⟨[.v QL],[.v .bool],a5c⟩
def d4V:Hints:=⟨[(26,[.sv 5 QL,.sv 6 QI,.sv 7 QI],[(.exit 0,[]),(.ret,[.sv 2 .bool])])],[],[]⟩
def a8Z(x:(Int×Int×Unit)):Option Z47:= (a6S x).bind fun y1=> cond (!y1) none (cond ((decide (0≤x.1))&&((decide (x.1≤x.1))&&(lim (a00 x.1)))) (cond ((decide (0≤x.1))&&((decide (x.1≤x.1))&&(lim (a00 x.1)))) (some ((x.2.1,a03 (a00 x.1) 0,a03 (a00 x.1) 0,()),0)) none) none)
def b5b:FSem:=⟨[.v Q4],[.b Q13,.v QI],a8Z⟩
def d4W:Hints:=⟨[],[],[(3,[.v,.v,.v,.v,.q,.v,.v,.q,.x,.x,.x,.x])]⟩
def a5d(x:Int):Option Int:= some (v0a (u0z x (-1073741824)) 1073741823)
def b0D:FSem:=⟨[.v QI],[.v QI],a5d⟩
def d4X:Hints:=⟨[],[],[]⟩
def a2W(s:Z89):Option (Z89 ⊕ Z68):= cond (decide (s.2.2.1<s.2.1)) (cond ((decide (0≤s.2.2.1))&&(decide (s.2.2.1<(s.2.2.2.1.2.1.length:Int)))) (cond ((decide (0≤s.2.2.1))&&(decide (s.2.2.1<(s.2.2.2.1.2.2.1.length:Int)))) (some (.inl (wrap .i64 (s.1+(wrap .i64 ((a02 s.2.2.2.1.2.1 (a00 s.2.2.1) 0)*(a02 s.2.2.2.1.2.2.1 (a00 s.2.2.1) 0)))),s.2.1,wrap .i64 (s.2.2.1+1),s.2.2.2.1,()))) none) none) (some (.inr (s.1,s.2.2.2.1,())))
def a1U(x:Z28):Option Z46:= (x0r a2W (0,(x.2.1.length:Int),0,x,())).bind fun w1=> (a5d (z0h .i64 w1.1 16)).bind fun y2=> some (y2,w1.2.1)
def a4d:FSem:=⟨[.r false (.b Q13)],[.v QI],a1U⟩
def d4Y:Hints:=⟨[(58,[.sv 3 QI,.sv 10 QI,.sv 11 QI,.box pinned Q13,.ptr 0 pinned [],.ref 9 pinned [.snd,.fst]],[(.exit 0,[.sv 3 QI,.box pinned Q13])])],[],[]⟩
def a2m(s:(Int×Z89)):Option ((Int×Z89) ⊕ Z68):= cond (decide (s.2.2.2.1<s.2.2.1)) (cond ((decide (0≤s.2.2.2.1))&&(decide (s.2.2.2.1<(s.2.2.2.2.1.2.2.1.length:Int)))) (cond ((decide (0≤s.2.2.2.1))&&(decide (s.2.2.2.1<(s.2.2.2.2.1.2.1.length:Int)))) ((show Option (Int×Int×Int×Z89)from cond (decide ((a02 s.2.2.2.2.1.2.2.1 (a00 s.2.2.2.1) 0) > 0)) (some (s.1,s.2.1,s.2.2.2.1,wrap .i64 ((a02 s.2.2.2.2.1.2.1 (a00 s.2.2.2.1) 0)+s.2.1),s.2.2.1,s.2.2.2.1,s.2.2.2.2.1,())) (cond (decide ((a02 s.2.2.2.2.1.2.2.1 (a00 s.2.2.2.1) 0)<0)) (some (s.1,s.2.1,s.2.2.2.1,wrap .i64 ((a02 s.2.2.2.2.1.2.1 (a00 s.2.2.2.1) 0)-s.2.1),s.2.2.1,s.2.2.2.1,s.2.2.2.2.1,())) (some (s.1,s.2.1,s.2.2.2.1,a02 s.2.2.2.2.1.2.1 (a00 s.2.2.2.1) 0,s.2.2.1,s.2.2.2.1,s.2.2.2.2.1,())))).bind fun z4=> cond ((decide (0≤z4.2.2.1))&&(decide (z4.2.2.1<(z4.2.2.2.2.2.2.1.2.1.length:Int)))) (some (.inl (z4.1,z4.2.1,z4.2.2.2.2.1,wrap .i64 (z4.2.2.2.2.2.1+1),(z4.2.2.2.2.2.2.1.1,a05 z4.2.2.2.2.2.2.1.2.1 (a00 z4.2.2.1) (v0a (u0z z4.2.2.2.1 (-1048576)) 1048576),z4.2.2.2.2.2.2.1.2.2),()))) none) none) none) (some (.inr (s.1,s.2.2.2.2.1,())))
def a2Z(x:Z47):Option Z28:= (a5d x.2).bind fun y1=> (show Option Z82 from(a1U x.1).bind fun y2=> cond (decide (y1 > y2.1)) (cond (decide (y2.2.1<0)) none (some (y1,z0g .i64 1 y2.2.1,y2.2,()))) (cond (decide (y1<y2.1)) (cond (decide (y2.2.1<0)) none (some (y1,wrap .i64 (0-(z0g .i64 1 y2.2.1)),y2.2,()))) (some (y1,0,y2.2,())))).bind fun z3=> (x0r a2m (z3.1,z3.2.1,(z3.2.2.1.2.2.1.length:Int),0,z3.2.2.1,())).bind fun w5=> cond (decide (1≤(w5.2.1.2.2.1.length:Int))) (cond (decide (0<(a01 (o0p w5.2.1.2.2.1 1 ((a01 w5.2.1.2.2.1)-1) w5.2.1.2.2.1):Int))) (some (w5.2.1.1,w5.2.1.2.1,a05 (o0p w5.2.1.2.2.1 1 ((a01 w5.2.1.2.2.1)-1) w5.2.1.2.2.1) 0 w5.1,w5.2.1.2.2.2)) none) none
def a7u:FSem:=⟨[.r false (.b Q13),.v QI],[],a2Z⟩
def d4Z:Hints:=⟨[(122,[.sv 1 QI,.sv 4 QI,.sv 36 QI,.sv 37 QI,.box pinned Q13,.ptr 0 pinned [],.ref 35 pinned [.snd,.snd,.fst]],[(.exit 1,[.sv 1 QI,.box pinned Q13,.ptr 0 pinned []])])],[(7,[(.normal,[.sv 1 QI,.sv 4 QI,.box pinned Q13,.ptr 0 pinned []])]),(15667,[(.normal,[.sv 1 QI,.sv 4 QI,.sv 6 QI,.sv 8 QI,.sv 36 QI,.sv 37 QI,.box pinned Q13,.ptr 0 pinned [],.ref 35 pinned [.snd,.snd,.fst]])])],[(17,[.p,.p,.q,.q,.q,.p,.p,.q,.q,.x])]⟩
def a5e(s:(Int×(Int×((List Int)×Z88)))):Option ((Int×(Int×((List Int)×Z88))) ⊕ (Z29 ⊕ Z29)):= cond (decide (s.2.1<s.1)) (cond ((decide (0≤s.2.1))&&(decide (s.2.1<(s.2.2.2.2.1.length:Int)))) ((a1U s.2.2.2.2.2.1).bind fun y6=> (a6b (wrap .i64 (y6.1+(a02 s.2.2.2.2.1 (a00 s.2.1) 0)))).bind fun y7=> cond (!y7) (some (.inr (Sum.inr (([],6,s.2.2.2.2.1,()))))) ((a2Z (y6.2,wrap .i64 (y6.1+(a02 s.2.2.2.2.1 (a00 s.2.1) 0)))).bind fun y8=> cond ((decide (0≤s.2.1))&&(decide (s.2.1<(s.2.2.2.2.1.length:Int)))) (some (.inl (s.1,wrap .i64 (s.2.1+1),s.2.2.1,s.2.2.2.1,a05 s.2.2.2.2.1 (a00 s.2.1) (wrap .i64 (y6.1+(a02 s.2.2.2.2.1 (a00 s.2.1) 0))),y8,()))) none)) none) (some (.inr (Sum.inl (s.2.2.1,s.2.2.2.1,s.2.2.2.2.1,()))))
def a7A(k:Int)(v:(Int×Int×Unit))(s:(Z4×Z29)):Option ((Z4×Z29) ⊕ (Ex×Z4×Z29)):= (a8Z v).bind fun y4=> cond (y4.2 != 0) (some (.inr (.ret,s.1,[],y4.2,s.2.2.2.1,()))) ((x0r a5e ((s.2.2.2.1.length:Int),0,s.2.1,s.2.2.1,s.2.2.2.1,y4.1,())).bind fun w9=> match w9 with |.inl a10=>some (.inl (s.1,a10.1,a10.2.1,a10.2.2.1,())) |.inr b11=>some (.inr (.ret,s.1,b11.1,b11.2.1,b11.2.2.1,())))
def b0E(x:((List Int)×Z4)):Option ((List Int)×Int):= (a7j x.2).bind fun y1=> cond (!y1) (some ([],1)) ((a5c x.1).bind fun y2=> cond (!y2) (some ([],6)) ((a1b x.1).bind fun y3=> cond (lim (a01 x.2)) ((k0w a7A x.2 (a01 x.2) (x.2,[],0,y3,())).bind fun w12=> match w12 with |.inl a13=>some (a13.2.2.2.1,0) |.inr (.normal,a14)=>some (a14.2.2.2.1,0) |.inr (.exit e15,a14)=>(cond (e15==0) (some (a14.2.2.2.1,0)) none) |.inr (.ret,a14)=>some (a14.2.1,a14.2.2.1)) none))
def a7Z:FSem:=⟨[.v QL,.v (.list false Q4)],[.v QL,.v QI],b0E⟩
def d5a:Hints:=⟨[(8046,[.sv 35 QI,.sv 36 QI,.box 1001004 QL,.box 1001005 QI,.box 1001006 (.list true QI),.box 1028 Q13,.ptr 4 1001004 [],.ptr 5 1001005 [],.ptr 6 1001006 [],.ptr 9 1028 [],.ref 34 1001006 []],[(.exit 2,[.box 1001004 QL,.box 1001005 QI,.box 1001006 (.list true QI),.ptr 4 1001004 [],.ptr 5 1001005 [],.ptr 6 1001006 []]),(.ret,[.box 1001004 QL,.box 1001005 QI,.box 1001006 (.list true QI),.ptr 4 1001004 [],.ptr 5 1001005 [],.ptr 6 1001006 []])])],[],[]⟩
def c9j:Cx:=a2q [(87,a0U),(219,b1S),(259,b0C),(261,b5b),(262,a4d),(263,b0B),(264,a7u)] [(6,.list true QI)] [0,1,9,10,11,12,13] [56]
def d1b:HintR:=⟨22,Q4,260,295,[4,5,6],[.sv 22 (.list false Q4),.box 1001004 QL,.box 1001005 QI,.box 1001006 (.list true QI),.ptr 4 1001004 [],.ptr 5 1001005 [],.ptr 6 1001006 []]⟩
theorem d2c(x):y0f c9j d5a d1b Tryz.f193 a7Z.ps a7Z.rs x=a7Z.F x:=by kernel_rfl
def a4X(x:Int):Option Bool:= cond (decide ((-1073741824)≤x)) (some (decide (x<1073741824))) (some false)
def b2M:FSem:=⟨[.v QI],[.v .bool],a4X⟩
def d5b:Hints:=⟨[],[],[]⟩
def a8u(s:Z63):Option (Z63 ⊕ Z51):= cond (decide (s.2.2.2.1<s.2.2.1)) ((l0z s.2.1 s.2.2.2.1).bind fun x2=> (show Option (Int×(Int×((List Int)×Z38)))from(a4X x2).bind fun y3=> cond (!y3) (some (s.1,x2,s.2.1,s.2.2.1,s.2.2.2.1,true,s.2.2.2.2.1,())) (cond (decide (s.1<0)) none ((a4X (z0g .i64 x2 s.1)).bind fun y4=> some (s.1,x2,s.2.1,s.2.2.1,s.2.2.2.1,!y4,s.2.2.2.2.1,())))).bind fun z5=> cond z5.2.2.2.2.2.1 (some (.inr (Sum.inr ((6,[],()))))) (cond (decide (z5.1<0)) none (cond (lim ((a01 z5.2.2.2.2.2.2.1)+1)) (some (.inl (z5.1,z5.2.2.1,z5.2.2.2.1,wrap .i64 (z5.2.2.2.2.1+1),a04 z5.2.2.2.2.2.2.1 [z0g .i64 z5.2.1 z5.1],()))) none))) (some (.inr (Sum.inl (s.2.2.2.2.1,()))))
def a9a(x:((List Int)×Int)):Option ((List Int)×Int):= (show Option Z20 from cond (decide (x.2<0)) (some (x.1,x.2,true,())) (some (x.1,x.2,decide (x.2 > 30),()))).bind fun z1=> cond z1.2.2.1 (some ([],1)) ((x0r a8u (z1.2.1,z1.1,(z1.1.length:Int),0,[],())).bind fun w6=> match w6 with |.inl a7=>some (a7.1,0) |.inr b8=>some (b8.2.1,b8.1))
def b8W:FSem:=⟨[.v QL,.v QI],[.o QI,.v QI],a9a⟩
def d5c:Hints:=⟨[(122,[.sv 1 QI,.sv 15 QL,.sv 16 QI,.sv 17 QI,.own 6 6 QI],[(.exit 0,[.own 6 6 QI]),(.ret,[.sv 5 QI,.own 4 4 QI])])],[(6,[(.normal,[.sv 0 QL,.sv 1 QI,.sv 14 .bool])]),(15666,[(.normal,[.sv 1 QI,.sv 8 QI,.sv 15 QL,.sv 16 QI,.sv 17 QI,.sv 30 .bool,.own 6 6 QI])])],[]⟩
def a6U(s:c5Q):Option (c5Q ⊕ ((List Int)×Unit)):= cond (decide (s.2.1<s.1)) ((l0z s.2.2.2.1.2.2.2.2.2.2.2.2.1 0).bind fun x1=> cond (lim ((a01 s.2.2.1)+1)) (some (.inl (s.1,wrap .i64 (s.2.1+1),a04 s.2.2.1 [x1],s.2.2.2.1,()))) none) (some (.inr (s.2.2.1,())))
def b3o(x:a9K):Option ((List Int)×Int):= (show Option (((List Int)×(Int×b7x)) ⊕ Z5)from cond (x.1.1==0) ((x0r a6U (x.2,0,[],x.1,())).bind fun w2=> some (Sum.inr ((0,w2.1,())))) (cond (x.1.1==1) (some (Sum.inl (x.1.2.2.2.2.2.2.2.2.1,0,x.1,()))) (cond (x.1.1==2) ((b0A (x.1.2.2.2.2.2.2.2.2.1,x.1.2.2.2.2.2.2.2.2.2.2.1,x.1.2.2.1)).bind fun y3=> some (Sum.inl (y3.1,y3.2,x.1,()))) (cond (x.1.1==3) ((a6T (x.1.2.2.2.2.2.2.2.2.1,x.1.2.2.2.2.2.2.2.2.2.2.1,x.1.2.2.2.2.2.1,x.1.2.2.2.1)).bind fun y4=> some (Sum.inl (y4.1,y4.2,x.1,()))) (cond (x.1.1==4) ((a6T (x.1.2.2.2.2.2.2.2.2.1,x.1.2.2.2.2.2.2.2.2.2.2.1,x.1.2.2.2.2.2.1,x.1.2.2.2.1)).bind fun y5=> cond (y5.2==0) ((b1V (y5.1,x.1.2.2.2.2.1,x.1.2.2.2.2.2.2.1)).bind fun y6=> some (Sum.inl (y6.1,y6.2,x.1,()))) (some (Sum.inl (y5.1,y5.2,x.1,())))) (cond (x.1.1==5) ((b0E (x.1.2.2.2.2.2.2.2.2.2.2.1,x.1.2.2.2.2.2.2.2.1)).bind fun y7=> some (Sum.inl (y7.1,y7.2,x.1,()))) (some (Sum.inl ([],0,x.1,()))))))))).bind fun z8=> match z8 with |.inl a9=>(cond (a9.2.1 != 0) (some ([],a9.2.1)) ((a9a (a9.1,a9.2.2.1.2.1)).bind fun y11=> some (y11.1,y11.2))) |.inr b10=>some (b10.2.1,b10.1)
def c0B:FSem:=⟨[.v Q39,.v QI],[.o QI,.v QI],b3o⟩
def d5d:Hints:=⟨[(3922,[.sv 12 QI,.sv 13 QI,.own 6 6 QI,.vp 2 Q39],[(.exit 1,[.own 6 6 QI])])],[(15,[(.normal,[.sv 6 QL,.sv 7 QI,.vp 2 Q39]),(.ret,[.sv 5 QI,.own 4 6 QI])])],[]⟩
def b2A(x:a9K):Option ((List Int)×Int):= (a9Z (x.1,x.2)).bind fun y1=> cond (!y1) (some ([],1)) ((b3o (x.1,x.2)).bind fun y2=> cond (y2.2 != 0) (some ([],1)) (some (y2.1,0)))
def b7A:FSem:=⟨[.v Q39,.v QI],[.o QI,.v QI],b2A⟩
def H45:Hints:=⟨[],[],[]⟩
def a9b(x:Int):Option Bool:= cond (decide ((-1073741824)≤x)) (some (decide (x<1073741824))) (some false)
def b5c:FSem:=⟨[.v QI],[.v .bool],a9b⟩
def d5e:Hints:=⟨[],[],[]⟩
def a4p(s:((List (List Int))×((List (List Int))×Z53))):Option (((List (List Int))×((List (List Int))×Z53)) ⊕ (((List (List Int))×Z30) ⊕ (Bool×Unit))):= cond (decide (s.2.2.2.2.2.2.1<s.2.2.2.2.2.1)) ((l0z s.2.2.2.2.1 s.2.2.2.2.2.2.1).bind fun x5=> (a9b x5).bind fun y6=> cond (!y6) (some (.inr (Sum.inr ((false,()))))) (some (.inl (s.1,s.2.1,s.2.2.1,s.2.2.2.1,s.2.2.2.2.1,s.2.2.2.2.2.1,wrap .i64 (s.2.2.2.2.2.2.1+1),())))) (some (.inr (Sum.inl (s.1,s.2.1,s.2.2.1,s.2.2.2.1,()))))
def a4q(s:((List (List Int))×Z30)):Option (((List (List Int))×Z30) ⊕ Z0):= cond (decide (s.2.2.2.1<s.2.2.1)) ((l0z s.2.1 s.2.2.2.1).bind fun x3=> (l0z s.1 0).bind fun x4=> cond ((x3.length:Int) != (x4.length:Int)) (some (.inr (Sum.inr ((false,()))))) ((x0r a4p (s.1,s.2.1,s.2.2.1,s.2.2.2.1,x3,(x3.length:Int),0,())).bind fun w7=> match w7 with |.inl a8=>some (.inl (a8.1,a8.2.1,a8.2.2.1,wrap .i64 (a8.2.2.2.1+1),())) |.inr b9=>some (.inr (Sum.inr ((b9.1,())))))) (some (.inr (Sum.inl ())))
def a7l(x:(List (List Int))):Option Bool:= (show Option ((List (List Int))×(Bool×Unit))from cond (decide ((x.length:Int)<1)) (some (x,true,())) (cond (decide ((x.length:Int) > 8)) (some (x,true,())) ((l0z x 0).bind fun x1=> some (x,decide ((x1.length:Int) > 4096),())))).bind fun z2=> cond z2.2.1 (some false) ((x0r a4q (z2.1,z2.1,(z2.1.length:Int),0,())).bind fun w10=> match w10 with |.inl a11=>some true |.inr b12=>some b12.1)
def b1W:FSem:=⟨[.v (.list false QL)],[.v .bool],a7l⟩
def d5f:Hints:=⟨[(58,[.sv 0 (.list false QL),.sv 22 (.list false QL),.sv 23 QI,.sv 24 QI],[(.exit 0,[]),(.ret,[.sv 2 .bool])]),(29902,[.sv 0 (.list false QL),.sv 22 (.list false QL),.sv 23 QI,.sv 24 QI,.sv 35 QL,.sv 36 QI,.sv 37 QI],[(.exit 2,[.sv 0 (.list false QL),.sv 22 (.list false QL),.sv 23 QI,.sv 24 QI]),(.ret,[.sv 2 .bool])])],[(6,[(.normal,[.sv 0 (.list false QL),.sv 21 .bool])])],[]⟩
def a6u(s:((List (List Int))×Z31)):Option (((List (List Int))×Z31) ⊕ Z2):= cond (decide (s.2.2.1<s.2.1)) ((l0z s.1 s.2.2.1).bind fun x1=> (a1b x1).bind fun y2=> cond (lim ((a01 s.2.2.2.1)+(a01 (a05 ([[]]:List (List Int)) 0 y2)))) (some (.inl (s.1,s.2.1,wrap .i64 (s.2.2.1+1),a04 s.2.2.2.1 (a05 ([[]]:List (List Int)) 0 y2),()))) none) (some (.inr (s.2.2.2.1,())))
def a6V(x:(List (List Int))):Option (List (List Int)):= (x0r a6u (x,(x.length:Int),0,([]:(List (List Int))),())).bind fun w3=> some w3.1
def b2N:FSem:=⟨[.v (.list false QL)],[.o (.list true QI)],a6V⟩
def d5g:Hints:=⟨[(58,[.sv 6 (.list false QL),.sv 7 QI,.sv 8 QI,.own 3 3 (.list true QI)],[(.exit 0,[.own 3 3 (.list true QI)])])],[],[]⟩
def a3F(s:(Int×(Int×(Int×((List (List Int))×(Z7×Int×Unit)))))):Option ((Int×(Int×(Int×((List (List Int))×(Z7×Int×Unit))))) ⊕ (Z2 ⊕ (Bool×Z2))):= cond (decide (s.2.2.1<s.2.1)) (cond ((decide (0≤s.2.2.1))&&(decide (s.2.2.1<((a01 (a02 s.2.2.2.1 (a00 s.2.2.2.2.2.1) []):Nat):Int)))) (cond ((decide (0≤s.2.2.2.2.1.2.1))&&(decide (s.2.2.2.2.1.2.1<(s.2.2.2.1.length:Int)))) (cond ((decide (0≤s.2.2.1))&&(decide (s.2.2.1<((a01 (a02 s.2.2.2.1 (a00 s.2.2.2.2.1.2.1) []):Nat):Int)))) ((a9b (wrap .i64 ((a02 (a02 s.2.2.2.1 (a00 s.2.2.2.2.1.2.1) []) (a00 s.2.2.1) 0)+(wrap .i64 (s.1*(z0h .i64 (wrap .i64 (s.2.2.2.2.1.2.2.1*(a02 (a02 s.2.2.2.1 (a00 s.2.2.2.2.2.1) []) (a00 s.2.2.1) 0))) 8)))))).bind fun y1=> cond (!y1) (some (.inr (Sum.inr ((false,s.2.2.2.1,()))))) (cond ((decide (0≤s.2.2.2.2.1.2.1))&&(decide (s.2.2.2.2.1.2.1<(s.2.2.2.1.length:Int)))) (cond ((decide (0≤s.2.2.1))&&(decide (s.2.2.1<((a01 (a02 s.2.2.2.1 (a00 s.2.2.2.2.1.2.1) []):Nat):Int)))) (some (.inl (s.1,s.2.1,wrap .i64 (s.2.2.1+1),a05 s.2.2.2.1 (a00 s.2.2.2.2.1.2.1) (a05 (a02 s.2.2.2.1 (a00 s.2.2.2.2.1.2.1) []) (a00 s.2.2.1) (wrap .i64 ((a02 (a02 s.2.2.2.1 (a00 s.2.2.2.2.1.2.1) []) (a00 s.2.2.1) 0)+(wrap .i64 (s.1*(z0h .i64 (wrap .i64 (s.2.2.2.2.1.2.2.1*(a02 (a02 s.2.2.2.1 (a00 s.2.2.2.2.2.1) []) (a00 s.2.2.1) 0))) 8)))))),s.2.2.2.2.1,((a00 s.2.2.2.2.2.1:Nat):Int),()))) none) none)) none) none) none) (some (.inr (Sum.inl (s.2.2.2.1,()))))
def a8a(x:((List (List Int))×(Z7×Int))):Option (Bool×(List (List Int))):= cond ((decide (0≤x.2.1.1))&&(decide (x.2.1.1<(x.1.length:Int)))) ((x0r a3F (x.2.2,((a01 (a02 x.1 (a00 x.2.1.1) []):Nat):Int),0,x.1,x.2.1,((a00 x.2.1.1:Nat):Int),())).bind fun w2=> match w2 with |.inl a3=>some (true,a3.1) |.inr b4=>some (b4.1,b4.2.1)) none
def b3I:FSem:=⟨[.r false (.o (.list true QI)),.v Q9,.v QI],[.v .bool],a8a⟩
def d5h:Hints:=⟨[(26,[.sv 2 QI,.sv 15 QI,.sv 16 QI,.own 0 pinned (.list true QI),.vp 4 Q9,.rfi 14 pinned],[(.exit 0,[.own 0 pinned (.list true QI)]),(.ret,[.sv 6 .bool,.own 0 pinned (.list true QI)])])],[],[(4,[.q,.v,.v,.q,.q,.v,.q,.q,.v,.v,.v,.v,.v,.v,.v,.x,.x])]⟩
def a3h(k:Int)(v:Z7)(s:(Z16×Z60)):Option ((Z16×Z60) ⊕ (Ex×Z16×Z60)):= (a8a (s.2.2.2.1,v,(-1))).bind fun y5=> cond (!y5.1) (some (.inr (.ret,s.1,([]:(List (List Int))),6,y5.2,()))) (some (.inl (s.1,s.2.1,s.2.2.1,y5.2,())))
def b1X(x:Z61):Option ((List (List Int))×Int):= (show Option ((List (List Int))×(Z16×Bool×Z15))from(a7l x.1).bind fun y1=> cond (!y1) (some (x.1,x.2,true,([]:(List (List Int))),0,())) ((a8q (x.2,(x.1.length:Int))).bind fun y2=> some (x.1,x.2,!y2,([]:(List (List Int))),0,()))).bind fun z3=> cond z3.2.2.1 (some (([]:(List (List Int))),1)) ((a6V z3.1).bind fun y4=> cond (lim (a01 z3.2.1)) ((k0w a3h z3.2.1 (a01 z3.2.1) (z3.2.1,z3.2.2.2.1,z3.2.2.2.2.1,y4,())).bind fun w6=> match w6 with |.inl a7=>some (a7.2.2.2.1,0) |.inr (.normal,a8)=>some (a8.2.2.2.1,0) |.inr (.exit e9,a8)=>(cond (e9==0) (some (a8.2.2.2.1,0)) none) |.inr (.ret,a8)=>some (a8.2.1,a8.2.2.1)) none)
def a9c:FSem:=⟨[.v (.list false QL),.v (.list false Q9)],[.v (.list false QL),.v QI],b1X⟩
def H46:Hints:=⟨[],[(6,[(.normal,[.sv 0 (.list false QL),.sv 1 (.list false Q9),.sv 18 .bool,.box 4 (.list false QL),.box 5 QI,.ptr 4 4 [],.ptr 5 5 []])])],[]⟩
def d1c:Cx:=a2q [(102,b3m),(105,b1W),(106,b2N),(108,b3I)] [(6,.list true (.list true QI))] [0,1] [29]
def R46:HintR:=⟨21,Q9,107,196,[4,5,6],[.sv 21 (.list false Q9),.box 1001004 (.list false QL),.box 1001005 QI,.box 1001006 (.list true (.list true QI)),.ptr 4 1001004 [],.ptr 5 1001005 [],.ptr 6 1001006 []]⟩
theorem d5i(x):y0f d1c H46 R46 Tryz.f46 a9c.ps a9c.rs x=a9c.F x:=by kernel_rfl
def a5D(x:Z14):Option Int:= cond ((x.2.1.length:Int)==0) (some 0) ((l0z x.2.1 0).bind fun x1=> some (x1.length:Int))
def b5d:FSem:=⟨[.v Q11],[.v QI],a5D⟩
def H35:Hints:=⟨[],[],[]⟩
def b3J(x:Int):Option Int:= (show Option (Int×Bool×Unit)from cond (decide (x<1)) (some (x,true,())) (some (x,decide (x > 31),()))).bind fun z1=> cond z1.2.1 (some 0) (cond (decide ((wrap .i64 (z1.1-1))<0)) none (some (z0g .i64 (-1) (wrap .i64 (z1.1-1)))))
def b7B:FSem:=⟨[.v QI],[.v QI],b3J⟩
def d5j:Hints:=⟨[],[(6,[(.normal,[.sv 0 QI,.sv 8 .bool])])],[]⟩
def b2O(x:Int):Option Int:= (show Option (Int×Bool×Unit)from cond (decide (x<1)) (some (x,true,())) (some (x,decide (x > 31),()))).bind fun z1=> cond z1.2.1 (some 0) (cond (decide ((wrap .i64 (z1.1-1))<0)) none (some (wrap .i64 ((z0g .i64 1 (wrap .i64 (z1.1-1)))-1))))
def b7a:FSem:=⟨[.v QI],[.v QI],b2O⟩
def d5k:Hints:=⟨[],[(6,[(.normal,[.sv 0 QI,.sv 8 .bool])])],[]⟩
def a3R(x:(Int×Int)):Option Bool:= cond (decide (x.2≥1)) (cond (decide (x.2≤31)) ((b3J x.2).bind fun y1=> cond (decide (y1≤x.1)) ((b2O x.2).bind fun y2=> some (decide (x.1≤y2))) (some false)) (some false)) (some false)
def a9s:FSem:=⟨[.v QI,.v QI],[.v .bool],a3R⟩
def d5l:Hints:=⟨[],[],[]⟩
def a4r(s:((List (List Int))×(Int×(Int×((List Int)×Z69))))):Option (((List (List Int))×(Int×(Int×((List Int)×Z69)))) ⊕ (((List (List Int))×Z69) ⊕ (Bool×Unit))):= cond (decide (s.2.2.2.2.2.1<s.2.2.2.2.1)) ((l0z s.2.2.2.1 s.2.2.2.2.2.1).bind fun x8=> (a3R (x8,s.2.2.2.2.2.2.1.1)).bind fun y9=> cond (!y9) (some (.inr (Sum.inr ((false,()))))) (some (.inl (s.1,s.2.1,s.2.2.1,s.2.2.2.1,s.2.2.2.2.1,wrap .i64 (s.2.2.2.2.2.1+1),s.2.2.2.2.2.2.1,())))) (some (.inr (Sum.inl (s.1,s.2.1,s.2.2.1,s.2.2.2.2.2.2.1,()))))
def a4s(s:((List (List Int))×Z69)):Option (((List (List Int))×Z69) ⊕ Z0):= cond (decide (s.2.2.1<s.2.1)) ((l0z s.1 s.2.2.1).bind fun x6=> (a5D s.2.2.2.1).bind fun y7=> cond ((x6.length:Int) != y7) (some (.inr (Sum.inr ((false,()))))) ((x0r a4r (s.1,s.2.1,s.2.2.1,x6,(x6.length:Int),0,s.2.2.2.1,())).bind fun w10=> match w10 with |.inl a11=>some (.inl (a11.1,a11.2.1,wrap .i64 (a11.2.2.1+1),a11.2.2.2.1,())) |.inr b12=>some (.inr (Sum.inr ((b12.1,())))))) (some (.inr (Sum.inl ())))
def a7m(x:Z14):Option Bool:= (show Option Z58 from(a6P x.1).bind fun y1=> cond (!y1) (some (true,x,())) (cond (decide ((x.2.1.length:Int)<1)) (some (true,x,())) (some (decide ((x.2.1.length:Int) > 8),x,())))).bind fun z2=> cond z2.1 (some false) ((show Option Z58 from(a5D z2.2.1).bind fun y3=> cond (decide (y3<1)) (some (true,z2.2.1,())) ((a5D z2.2.1).bind fun y4=> some (decide (y4 > 4096),z2.2.1,()))).bind fun z5=> cond z5.1 (some false) ((x0r a4s (z5.2.1.2.1,(z5.2.1.2.1.length:Int),0,z5.2.1,())).bind fun w13=> match w13 with |.inl a14=>some true |.inr b15=>some b15.1))
def b1Y:FSem:=⟨[.v Q11],[.v .bool],a7m⟩
def H47:Hints:=⟨[(122,[.sv 32 (.list false QL),.sv 33 QI,.sv 34 QI,.vp 1 Q11],[(.exit 0,[]),(.ret,[.sv 2 .bool])]),(62670,[.sv 32 (.list false QL),.sv 33 QI,.sv 34 QI,.sv 43 QL,.sv 44 QI,.sv 45 QI,.vp 1 Q11],[(.exit 2,[.sv 32 (.list false QL),.sv 33 QI,.sv 34 QI,.vp 1 Q11]),(.ret,[.sv 2 .bool])])],[(6,[(.normal,[.sv 22 .bool,.vp 1 Q11])]),(14,[(.normal,[.sv 30 .bool,.vp 1 Q11])])],[]⟩
def a4x(s:(b2I×Int×c5U)):Option ((b2I×Int×c5U) ⊕ (c8l ⊕ Z55)):= cond (decide (s.2.2.1<s.2.1)) ((l0z s.1 s.2.2.1).bind fun x3=> (b2A (x3,s.2.2.2.2.2.1.2.1)).bind fun y4=> cond (y4.2 != 0) (some (.inr (Sum.inr ((1,(0,([]:(List (List Int))),()),()))))) (cond (lim ((a01 s.2.2.2.1)+1)) (some (.inl (s.1,s.2.1,wrap .i64 (s.2.2.1+1),a04 s.2.2.2.1 ([y4.1]:List (List Int)),s.2.2.2.2.1,s.2.2.2.2.2.1,()))) none)) (some (.inr (Sum.inl (s.2.2.2.1,s.2.2.2.2.1,s.2.2.2.2.2.1,()))))
def a4Y(x:a5C):Option (Z14×Int):= (show Option (Bool×c8k)from(a9n x).bind fun y1=> cond (!y1) (some (true,(0,([]:(List (List Int))),()),x,())) (some ((x.2.2.2.2.1.length:Int) != x.2.2.1.2.1,(0,([]:(List (List Int))),()),x,()))).bind fun z2=> cond z2.1 (some ((0,([]:(List (List Int))),()),1)) (cond ((decide (0≤(z2.2.2.1.2.2.2.2.1.length:Int)))&&(lim (a00 (z2.2.2.1.2.2.2.2.1.length:Int)))) ((x0r a4x (z2.2.2.1.2.2.2.2.1,(z2.2.2.1.2.2.2.2.1.length:Int),0,([]:(List (List Int))),z2.2.1,z2.2.2.1,())).bind fun w5=> match w5 with |.inl a6=>((b1X (a6.1,a6.2.2.1.2.2.2.1)).bind fun y8=> cond (y8.2 != 0) (some ((0,([]:(List (List Int))),()),1)) ((a7m (a6.2.2.1.2.2.1.2.2.1,y8.1,())).bind fun y9=> cond (!y9) (some ((0,([]:(List (List Int))),()),1)) (some ((a6.2.2.1.2.2.1.2.2.1,y8.1,()),0)))) |.inr b7=>some (b7.2.1,b7.1)) none)
def a9t:FSem:=⟨[.v Q57],[.v Q11,.v QI],a4Y⟩
def H17:Hints:=⟨[(122,[.sv 30 (.list false Q39),.sv 31 QI,.sv 32 QI,.own 4 4 QL,.box 2 Q11,.vp 1 Q57,.ptr 2 2 []],[(.exit 0,[.own 4 4 QL,.box 2 Q11,.vp 1 Q57,.ptr 2 2 []]),(.ret,[.sv 3 QI,.box 2 Q11,.ptr 2 2 []])])],[(6,[(.normal,[.sv 23 .bool,.box 2 Q11,.vp 1 Q57,.ptr 2 2 []])])],[]⟩
def a7n(x:a5C):Option Bool:= (a4Y x).bind fun y1=> some (y1.2==0)
def a9d:FSem:=⟨[.v Q57],[.v .bool],a7n⟩
def H21:Hints:=⟨[],[],[]⟩
def b4t(x:a9K):Option Bool:= (b2A (x.1,x.2)).bind fun y1=> some (y1.2==0)
def b4u:FSem:=⟨[.v Q39,.v QI],[.v .bool],b4t⟩
def d5m:Hints:=⟨[],[],[]⟩
def a2O(s:Z53):Option (Z53 ⊕ Z32):= cond (s.2.1 != 0) (cond (decide (s.1<32)) ((a3R (s.2.1,s.1)).bind fun y2=> cond (!y2) (some (.inl (wrap .i64 (s.1+1),s.2.1,s.2.2.1,s.2.2.2.1,s.2.2.2.2.1,()))) (some (.inr (s.1,s.2.2.1,s.2.2.2.1,s.2.2.2.2.1,())))) (some (.inr (s.1,s.2.2.1,s.2.2.2.1,s.2.2.2.2.1,())))) (some (.inr (s.1,s.2.2.1,s.2.2.2.1,s.2.2.2.2.1,())))
def a5J(s:Z32):Option Z72:= cond (decide (s.2.2.2.1<s.2.2.1)) ((l0z s.2.1 s.2.2.2.1).bind fun x1=> (x0r a2O (s.1,x1,s.2.1,s.2.2.1,s.2.2.2.1,())).bind fun w3=> some (.inl (w3.1,w3.2.1,w3.2.2.1,wrap .i64 (w3.2.2.2.1+1),()))) (some (.inr (s.1,())))
def a3i(x:(List Int)):Option Int:= (x0r a5J (0,x,(x.length:Int),0,())).bind fun w4=> some w4.1
def a1A:FSem:=⟨[.v QL],[.v QI],a3i⟩
def d5n:Hints:=⟨[(58,[.sv 3 QI,.sv 6 QL,.sv 7 QI,.sv 8 QI],[(.exit 0,[.sv 3 QI])]),(7474,[.sv 3 QI,.sv 5 QI,.sv 6 QL,.sv 7 QI,.sv 8 QI],[(.exit 2,[.sv 3 QI,.sv 6 QL,.sv 7 QI,.sv 8 QI])])],[],[]⟩
def a2a(x:(Z6×Int)):Option Z6:= (show Option Z39 from cond ((a27 x.1.2.1 8)==0) (cond (lim ((a01 x.1.1)+1)) (some (x.2,(a04 x.1.1 [0],x.1.2),())) none) (some (x.2,x.1,()))).bind fun z1=> cond ((decide (0≤(wrap .i64 (a07 z1.2.1.2.1 8))))&&(decide ((wrap .i64 (a07 z1.2.1.2.1 8))<(z1.2.1.1.length:Int)))) (cond (decide ((wrap .i64 (7-(a27 z1.2.1.2.1 8)))<0)) none (cond ((decide (0≤(wrap .i64 (a07 z1.2.1.2.1 8))))&&(decide ((wrap .i64 (a07 z1.2.1.2.1 8))<(z1.2.1.1.length:Int)))) (some (a05 z1.2.1.1 (a00 (wrap .i64 (a07 z1.2.1.2.1 8))) (bits .u8 .or (a02 z1.2.1.1 (a00 (wrap .i64 (a07 z1.2.1.2.1 8))) 0) (z0g .u8 z1.1 (wrap .i64 (7-(a27 z1.2.1.2.1 8))))),wrap .i64 (z1.2.1.2.1+1),z1.2.1.2.2)) none)) none
def a5K:FSem:=⟨[.r false (.b Q6),.v (.int .u8)],[],a2a⟩
def d5o:Hints:=⟨[],[(1,[(.normal,[.sv 1 (.int .u8),.box pinned Q6,.ptr 0 pinned []])])],[(2,[.p,.p,.q,.q,.p,.p,.q,.q,.v,.q,.q,.v,.p,.p,.q,.q,.v,.v,.v,.x,.x,.x])]⟩
def a4e(s:Z59):Option (Z59 ⊕ Z23):= cond (decide (s.2.1≥0)) (cond (decide (s.2.1<0)) none ((a2a (s.2.2.1,wrap .u8 (bits .u64 .and (z0h .u64 s.1 s.2.1) 1))).bind fun y2=> some (.inl (s.1,wrap .i64 (s.2.1-1),y2,())))) (some (.inr (s.2.2.1,())))
def a0F(x:(Z6×Int×Int)):Option Z19:= (show Option (Int×Int×Bool×Z23)from cond (decide (x.2.2<0)) (some (x.2.1,x.2.2,true,x.1,())) (cond (decide (x.2.2 > 64)) (some (x.2.1,x.2.2,true,x.1,())) (cond (decide (x.2.2<0)) none (some (x.2.1,x.2.2,(z0h .u64 x.2.1 x.2.2) != 0,x.1,()))))).bind fun z1=> cond z1.2.2.1 (some (1,z1.2.2.2.1)) ((x0r a4e (z1.1,wrap .i64 (z1.2.1-1),z1.2.2.2.1,())).bind fun w3=> some (0,w3.1))
def a2P:FSem:=⟨[.r false (.b Q6),.v (.int .u64),.v QI],[.v QI],a0F⟩
def d5p:Hints:=⟨[(58,[.sv 1 (.int .u64),.sv 7 QI,.box pinned Q6,.ptr 0 pinned []],[(.exit 0,[.box pinned Q6])])],[(6,[(.normal,[.sv 1 (.int .u64),.sv 2 QI,.sv 19 .bool,.box pinned Q6,.ptr 0 pinned []])])],[]⟩
def a2D(x:(Z6×Int×Int)):Option Z6:= cond (decide (x.2.2<0)) none ((a0F (x.1,bits .u64 .and (wrap .u64 x.2.1) (wrap .u64 ((z0g .u64 1 x.2.2)-1)),x.2.2)).bind fun y1=> some y1.2)
def b0F:FSem:=⟨[.r false (.b Q6),.v QI,.v QI],[],a2D⟩
def d5q:Hints:=⟨[],[],[]⟩
def a5L(s:Z90):Option (Z90 ⊕ Z23):= cond (decide (s.2.2.2.1<s.2.2.1)) ((l0z s.2.1 s.2.2.2.1).bind fun x6=> (a2D (s.2.2.2.2.1,x6,s.1)).bind fun y7=> some (.inl (s.1,s.2.1,s.2.2.1,wrap .i64 (s.2.2.2.1+1),y7,()))) (some (.inr (s.2.2.2.2.1,())))
def a8v(x:(Z6×a1E)):Option Z6:= (a0F (x.1,wrap .u64 (wrap .i64 ((x.2.2.2.2.2.2.1.length:Int)-1)),5)).bind fun y1=> (a0F (y1.2,wrap .u64 x.2.2.2.2.1,4)).bind fun y2=> (a3i x.2.2.2.2.2.2.1).bind fun y3=> (a0F (y2.2,wrap .u64 y3,5)).bind fun y4=> (x0r a5L (y3,x.2.2.2.2.2.2.1,(x.2.2.2.2.2.2.1.length:Int),0,y4.2,())).bind fun w8=> some w8.1
def b5z:FSem:=⟨[.r false (.b Q6),.v Q39],[],a8v⟩
def d5r:Hints:=⟨[(254,[.sv 4 QI,.sv 27 QL,.sv 28 QI,.sv 29 QI,.box pinned Q6,.ptr 0 pinned []],[(.exit 0,[.box pinned Q6])])],[],[]⟩
def b3K(s:Z17):Option Z73:= cond (decide (s.2.2.1<s.2.1)) ((l0z s.1 s.2.2.1).bind fun x3=> (show Option Z37 from cond (decide (x3<(-1073741824))) (some (s.1,s.2.1,s.2.2.1,true,())) (some (s.1,s.2.1,s.2.2.1,decide (x3≥1073741824),()))).bind fun z4=> cond z4.2.2.2.1 (some (.inr (Sum.inr ((false,()))))) (some (.inl (z4.1,z4.2.1,wrap .i64 (z4.2.2.1+1),())))) (some (.inr (Sum.inl ())))
def a6W(x:Z1):Option Bool:= (show Option ((List Int)×(Bool×Unit))from(a8W (x.1,x.2.1)).bind fun y1=> cond (!y1) (some (x.2.2,true,())) (some (x.2.2,(x.2.2.length:Int) != (wrap .i64 (x.1-x.2.1)),()))).bind fun z2=> cond z2.2.1 (some false) ((x0r b3K (z2.1,(z2.1.length:Int),0,())).bind fun w5=> match w5 with |.inl a6=>some true |.inr b7=>some b7.1)
def b2P:FSem:=⟨[.v QI,.v QI,.v QL],[.v .bool],a6W⟩
def d5s:Hints:=⟨[(58,[.sv 21 QL,.sv 22 QI,.sv 23 QI],[(.exit 0,[]),(.ret,[.sv 6 .bool])])],[(6,[(.normal,[.sv 2 QL,.sv 20 .bool])]),(3737,[(.normal,[.sv 21 QL,.sv 22 QI,.sv 23 QI,.sv 32 .bool])])],[]⟩
def a5E(x:(List Int)):Option Int:= (a3i x).bind fun y1=> some (wrap .i64 (5+(wrap .i64 (y1*(x.length:Int)))))
def b5e:FSem:=⟨[.v QL],[.v QI],a5E⟩
def d5t:Hints:=⟨[],[],[]⟩
def a4y(x:Int):Option Bool:= cond (decide (0≤x)) (some (decide (x≤25))) (some false)
def a4z:FSem:=⟨[.v QI],[.v .bool],a4y⟩
def d5u:Hints:=⟨[],[],[]⟩
def a7o(x:Int):Option Bool:= cond (decide ((-1073741824)≤x)) (some (decide (x<1073741824))) (some false)
def b1Z:FSem:=⟨[.v QI],[.v .bool],a7o⟩
def d5v:Hints:=⟨[],[],[]⟩
def a9e(x:Int):Option Int:= (a7o x).bind fun y1=> cond (!y1) (some 0) (cond (decide (x≥0)) (some (wrap .u64 (wrap .i64 (2*x)))) (some (wrap .u64 (wrap .i64 ((wrap .i64 ((-2)*x))-1)))))
def b5f:FSem:=⟨[.v QI],[.v (.int .u64)],a9e⟩
def d5w:Hints:=⟨[],[],[]⟩
def a7p(x:(Int×Int)):Option Int:= (show Option Z10 from(a4y x.1).bind fun y1=> cond (!y1) (some (x.1,x.2,true,())) ((a7o x.2).bind fun y2=> some (x.1,x.2,!y2,()))).bind fun z3=> cond z3.2.2.1 (some 0) ((a9e z3.2.1).bind fun y4=> cond (decide (z3.1<0)) none (cond (decide ((wrap .i64 (z0h .u64 y4 z3.1))<32)) (some (wrap .i64 ((wrap .i64 ((wrap .i64 (z0h .u64 y4 z3.1))+1))+z3.1))) (some 65)))
def b8X:FSem:=⟨[.v QI,.v QI],[.v QI],a7p⟩
def d5x:Hints:=⟨[],[(6,[(.normal,[.sv 0 QI,.sv 1 QI,.sv 13 .bool])])],[]⟩
def a3S(s:Z53):Option (Z53 ⊕ (Int×Unit)):= cond (decide (s.2.2.2.2.1<s.2.2.2.1)) ((l0z s.2.2.1 s.2.2.2.2.1).bind fun x1=> (a7p (s.1,x1)).bind fun y2=> some (.inl (s.1,wrap .i64 (s.2.1+y2),s.2.2.1,s.2.2.2.1,wrap .i64 (s.2.2.2.2.1+1),()))) (some (.inr (s.2.1,())))
def a3m(x:(Int×(List Int))):Option Int:= (x0r a3S (x.1,0,x.2,(x.2.length:Int),0,())).bind fun w3=> some w3.1
def b3p:FSem:=⟨[.v QI,.v QL],[.v QI],a3m⟩
def d5y:Hints:=⟨[(58,[.sv 0 QI,.sv 5 QI,.sv 8 QL,.sv 9 QI,.sv 10 QI],[(.exit 0,[.sv 5 QI])])],[],[]⟩
def a1s(s:Z95):Option (Z95 ⊕ (Int×Unit)):= cond (decide (s.2.2.2.1<s.2.2.1)) (cond ((decide (0≤s.2.2.2.1))&&(decide (s.2.2.2.1<(s.2.2.2.2.1.length:Int)))) (cond ((decide (0≤(a02 s.2.2.2.2.1 (a00 s.2.2.2.1) 0)))&&(decide ((a02 s.2.2.2.2.1 (a00 s.2.2.2.1) 0)≤(s.1.length:Int)))) (cond ((decide (0≤(a02 s.2.2.2.2.1 (a00 s.2.2.2.1) 0)))&&(decide ((a02 s.2.2.2.2.1 (a00 s.2.2.2.1) 0)≤(s.1.length:Int)))) ((l0z s.2.2.2.2.2.1.2.1 s.2.2.2.1).bind fun x5=> cond (x5==31) ((a5E (a06 (a00 (a02 s.2.2.2.2.1 (a00 s.2.2.2.1) 0)) s.1)).bind fun y6=> some (.inl (a23 (a00 (a02 s.2.2.2.2.1 (a00 s.2.2.2.1) 0)) (a06 (a01 s.1) s.1),wrap .i64 (s.2.1+(wrap .i64 (5+y6))),s.2.2.1,wrap .i64 (s.2.2.2.1+1),s.2.2.2.2.1,s.2.2.2.2.2.1,()))) ((l0z s.2.2.2.2.2.1.2.1 s.2.2.2.1).bind fun x7=> (a3m (x7,a06 (a00 (a02 s.2.2.2.2.1 (a00 s.2.2.2.1) 0)) s.1)).bind fun y8=> some (.inl (a23 (a00 (a02 s.2.2.2.2.1 (a00 s.2.2.2.1) 0)) (a06 (a01 s.1) s.1),wrap .i64 (s.2.1+(wrap .i64 (5+y8))),s.2.2.1,wrap .i64 (s.2.2.2.1+1),s.2.2.2.2.1,s.2.2.2.2.2.1,())))) none) none) none) (some (.inr (s.2.1,())))
def a4A(x:Z64):Option Int:= (show Option (Int×(Int×((List Int)×Z43)))from(a8Y (x.1,x.2.1,x.2.2.1)).bind fun y1=> cond (!y1) (some (x.2.1,x.2.2.1,x.2.2.2,true,x.1,())) ((a6W (x.2.1,x.2.2.1,x.2.2.2)).bind fun y2=> some (x.2.1,x.2.2.1,x.2.2.2,!y2,x.1,()))).bind fun z3=> cond z3.2.2.2.1 (some 0) ((a3P (z3.2.2.2.2.1.1,z3.1,z3.2.1)).bind fun y4=> (x0r a1s (z3.2.2.1,4,(y4.length:Int),0,y4,z3.2.2.2.2.1,())).bind fun w9=> some w9.1)
def b3L:FSem:=⟨[.v Q8,.v QI,.v QI,.v QL],[.v QI],a4A⟩
def d5z:Hints:=⟨[(122,[.sv 3 QL,.sv 9 QI,.sv 30 QI,.sv 31 QI,.own 29 1029 QI,.vp 4 Q8],[(.exit 0,[.sv 9 QI])])],[(6,[(.normal,[.sv 1 QI,.sv 2 QI,.sv 3 QL,.sv 24 .bool,.vp 4 Q8])])],[]⟩
def a3n(s:Z59):Option (Z59 ⊕ Z23):= cond (decide (s.2.1<s.1)) ((a2a (s.2.2.1,0)).bind fun y2=> some (.inl (s.1,wrap .i64 (s.2.1+1),y2,()))) (some (.inr (s.2.2.1,())))
def a2j(x:(Z6×Int)):Option Z19:= (show Option (Int×Bool×Z23)from cond (decide (x.2<0)) (some (x.2,true,x.1,())) (some (x.2,decide (x.2 > 4096),x.1,()))).bind fun z1=> cond z1.2.1 (some (1,z1.2.2.1)) ((x0r a3n (z1.1,0,z1.2.2.1,())).bind fun w3=> (a2a (w3.1,1)).bind fun y4=> some (0,y4))
def b1s:FSem:=⟨[.r false (.b Q6),.v QI],[.v QI],a2j⟩
def d5A:Hints:=⟨[(58,[.sv 11 QI,.sv 12 QI,.box pinned Q6,.ptr 0 pinned []],[(.exit 0,[.box pinned Q6,.ptr 0 pinned []])])],[(6,[(.normal,[.sv 1 QI,.sv 10 .bool,.box pinned Q6,.ptr 0 pinned []])])],[]⟩
def a9u(s:(Int×((List Int)×Z83))):Option ((Int×((List Int)×Z83)) ⊕ ((Int×((List Int)×Z23)) ⊕ Z39)):= cond (decide (s.2.2.2.2.1<s.2.2.2.1)) ((l0z s.2.2.1 s.2.2.2.2.1).bind fun x2=> (a7o x2).bind fun y3=> cond (!y3) (some (.inr (Sum.inr ((1,s.2.2.2.2.2.1,()))))) (some (.inl (s.1,s.2.1,s.2.2.1,s.2.2.2.1,wrap .i64 (s.2.2.2.2.1+1),s.2.2.2.2.2.1,())))) (some (.inr (Sum.inl (s.1,s.2.1,s.2.2.2.2.2.1,()))))
def a6X(s:Z90):Option (Z90 ⊕ Z23):= cond (decide (s.2.2.2.1<s.2.2.1)) ((l0z s.2.1 s.2.2.2.1).bind fun x7=> (a9e x7).bind fun y8=> cond (decide (s.1<0)) none (cond (decide ((z0h .u64 y8 s.1)<32)) ((a2j (s.2.2.2.2.1,wrap .i64 (z0h .u64 y8 s.1))).bind fun y9=> cond (decide (s.1<0)) none ((a0F (y9.2,wrap .u64 (y8-(z0g .u64 (z0h .u64 y8 s.1) s.1)),s.1)).bind fun y10=> some (.inl (s.1,s.2.1,s.2.2.1,wrap .i64 (s.2.2.2.1+1),y10.2,())))) ((a2j (s.2.2.2.2.1,32)).bind fun y11=> (a0F (y11.2,y8,32)).bind fun y12=> some (.inl (s.1,s.2.1,s.2.2.1,wrap .i64 (s.2.2.2.1+1),y12.2,()))))) (some (.inr (s.2.2.2.2.1,())))
def b3q(x:(Z6×(Int×(List Int)))):Option Z19:= (a4y x.2.1).bind fun y1=> cond (!y1) (some (1,x.1)) ((x0r a9u (x.2.1,x.2.2,x.2.2,(x.2.2.length:Int),0,x.1,())).bind fun w4=> match w4 with |.inl a5=>((x0r a6X (a5.1,a5.2.1,(a5.2.1.length:Int),0,a5.2.2.1,())).bind fun w13=> some (0,w13.1)) |.inr b6=>some (b6.1,b6.2.1))
def c0C:FSem:=⟨[.r false (.b Q6),.v QI,.v QL],[.v QI],b3q⟩
def d5B:Hints:=⟨[(58,[.sv 1 QI,.sv 2 QL,.sv 16 QL,.sv 17 QI,.sv 18 QI,.box pinned Q6,.ptr 0 pinned []],[(.exit 0,[.sv 1 QI,.sv 2 QL,.box pinned Q6,.ptr 0 pinned []]),(.ret,[.sv 6 QI,.box pinned Q6])]),(122,[.sv 1 QI,.sv 26 QL,.sv 27 QI,.sv 28 QI,.box pinned Q6,.ptr 0 pinned []],[(.exit 2,[.box pinned Q6])])],[],[]⟩
def a8w(s:((List Int)×(Int×Int×Int×c3E))):Option (((List Int)×(Int×Int×Int×c3E)) ⊕ c3E):= cond (decide (s.2.2.2.2.2.2.1<s.2.2.2.2.2.1)) ((l0z s.2.2.2.2.1 s.2.2.2.2.2.2.1).bind fun x11=> cond (decide (s.2.1<0)) none ((a0F (s.2.2.2.2.2.2.2.2.1,bits .u64 .and (wrap .u64 x11) (wrap .u64 ((z0g .u64 1 s.2.1)-1)),s.2.1)).bind fun y12=> some (.inl (s.1,s.2.1,s.2.2.1,s.2.2.2.1,s.2.2.2.2.1,s.2.2.2.2.2.1,wrap .i64 (s.2.2.2.2.2.2.1+1),s.2.2.2.2.2.2.2.1,y12.2,s.2.2.2.2.2.2.2.2.2.1,())))) (some (.inr (s.1,s.2.2.1,s.2.2.2.1,s.2.2.2.2.2.2.2.1,s.2.2.2.2.2.2.2.2.1,s.2.2.2.2.2.2.2.2.2.1,())))
def a4t(s:c3E):Option (c3E ⊕ Z23):= cond (decide (s.2.2.1<s.2.1)) (cond ((decide (0≤s.2.2.1))&&(decide (s.2.2.1<(s.2.2.2.1.length:Int)))) (cond ((decide (0≤(a02 s.2.2.2.1 (a00 s.2.2.1) 0)))&&(decide ((a02 s.2.2.2.1 (a00 s.2.2.1) 0)≤(s.1.length:Int)))) (cond ((decide (0≤(a02 s.2.2.2.1 (a00 s.2.2.1) 0)))&&(decide ((a02 s.2.2.2.1 (a00 s.2.2.1) 0)≤(s.1.length:Int)))) ((l0z s.2.2.2.2.2.1.2.1 s.2.2.1).bind fun x4=> (a0F (s.2.2.2.2.1,wrap .u64 x4,5)).bind fun y5=> (l0z s.2.2.2.2.2.1.2.1 s.2.2.1).bind fun x6=> cond (x6 != 31) ((l0z s.2.2.2.2.2.1.2.1 s.2.2.1).bind fun x7=> (b3q (y5.2,x7,a06 (a00 (a02 s.2.2.2.1 (a00 s.2.2.1) 0)) s.1)).bind fun y8=> some (.inl (a23 (a00 (a02 s.2.2.2.1 (a00 s.2.2.1) 0)) (a06 (a01 s.1) s.1),s.2.1,wrap .i64 (s.2.2.1+1),s.2.2.2.1,y8.2,s.2.2.2.2.2.1,()))) ((a3i (a06 (a00 (a02 s.2.2.2.1 (a00 s.2.2.1) 0)) s.1)).bind fun y9=> (a0F (y5.2,wrap .u64 y9,5)).bind fun y10=> (x0r a8w (a23 (a00 (a02 s.2.2.2.1 (a00 s.2.2.1) 0)) (a06 (a01 s.1) s.1),y9,s.2.1,s.2.2.1,a06 (a00 (a02 s.2.2.2.1 (a00 s.2.2.1) 0)) s.1,((a01 (a06 (a00 (a02 s.2.2.2.1 (a00 s.2.2.1) 0)) s.1):Nat):Int),0,s.2.2.2.1,y10.2,s.2.2.2.2.2.1,())).bind fun w13=> some (.inl (w13.1,w13.2.1,wrap .i64 (w13.2.2.1+1),w13.2.2.2.1,w13.2.2.2.2.1,w13.2.2.2.2.2.1,())))) none) none) none) (some (.inr (s.2.2.2.2.1,())))
def b2a(x:(Z6×Z64)):Option Z19:= (a4A (x.2.1,x.2.2.1,x.2.2.2.1,x.2.2.2.2)).bind fun y1=> cond (y1==0) (some (1,x.1)) ((a0F (x.1,wrap .u64 x.2.1.1,4)).bind fun y2=> (a3P (x.2.1.1,x.2.2.1,x.2.2.2.1)).bind fun y3=> (x0r a4t (x.2.2.2.2,(y3.length:Int),0,y3,y2.2,x.2.1,())).bind fun w14=> some (0,w14.1))
def b8Y:FSem:=⟨[.r false (.b Q6),.v Q8,.v QI,.v QI,.v QL],[.v QI],b2a⟩
def d5C:Hints:=⟨[(122,[.sv 4 QL,.sv 33 QI,.sv 34 QI,.own 32 1032 QI,.box pinned Q6,.ptr 0 pinned [],.vp 6 Q8],[(.exit 0,[.box pinned Q6])]),(2005502,[.sv 4 QL,.sv 14 QI,.sv 33 QI,.sv 34 QI,.sv 73 QL,.sv 74 QI,.sv 75 QI,.own 32 1032 QI,.box pinned Q6,.ptr 0 pinned [],.vp 6 Q8],[(.exit 2,[.sv 4 QL,.sv 33 QI,.sv 34 QI,.own 32 1032 QI,.box pinned Q6,.ptr 0 pinned [],.vp 6 Q8])])],[],[]⟩
def b0G(s:(Int×(Int×((List Int)×c5R)))):Option ((Int×(Int×((List Int)×c5R))) ⊕ b4Y):= cond (decide (s.2.2.2.1<3)) ((l0z s.2.2.1 s.2.2.2.1).bind fun x8=> (a2D (s.2.2.2.2.1,x8,8)).bind fun y9=> some (.inl (s.1,s.2.1,s.2.2.1,wrap .i64 (s.2.2.2.1+1),y9,s.2.2.2.2.2.1,()))) (some (.inr (s.1,s.2.1,s.2.2.2.2.1,s.2.2.2.2.2.1,())))
def b0H(s:(Int×Int×Z4×b4Y)):Option ((Int×Int×Z4×b4Y) ⊕ b4Y):= cond (decide (s.2.2.2.2.1<s.2.2.2.1)) ((l0z s.2.2.1 s.2.2.2.2.1).bind fun x18=> (a0F (s.2.2.2.2.2.1,wrap .u64 (wrap .i64 (x18.1-1)),5)).bind fun y19=> (a0F (y19.2,wrap .u64 x18.2.1,4)).bind fun y20=> some (.inl (s.1,s.2.1,s.2.2.1,s.2.2.2.1,wrap .i64 (s.2.2.2.2.1+1),y20.2,s.2.2.2.2.2.2.1,()))) (some (.inr (s.1,s.2.1,s.2.2.2.2.2.1,s.2.2.2.2.2.2.1,())))
def b0I(s:(Int×(Int×((List Int)×b4Y)))):Option ((Int×(Int×((List Int)×b4Y))) ⊕ c5R):= cond (decide (s.2.2.2.2.1<s.2.2.2.1)) ((l0z s.2.2.1 s.2.2.2.2.1).bind fun x23=> (a2D (s.2.2.2.2.2.1,x23,s.2.1)).bind fun y24=> some (.inl (s.1,s.2.1,s.2.2.1,s.2.2.2.1,wrap .i64 (s.2.2.2.2.1+1),y24,s.2.2.2.2.2.2.1,()))) (some (.inr (s.1,s.2.2.2.2.2.1,s.2.2.2.2.2.2.1,())))
def a9R(x:(Z6×a9K)):Option Z19:= (b4t (x.2.1,x.2.2)).bind fun y1=> cond (!y1) (some (1,x.1)) ((a3i x.2.1.2.2.2.2.2.2.2.2.1).bind fun y2=> (a0F (x.1,wrap .u64 x.2.1.1,3)).bind fun y3=> (a0F (y3.2,wrap .u64 x.2.1.2.1,5)).bind fun y4=> (a0F (y4.2,wrap .u64 y2,5)).bind fun y5=> (show Option b4Y from(show Option (b4Y ⊕ (b4Y ⊕ b4Y))from cond (x.2.1.1==2) ((a0F (y5.2,wrap .u64 x.2.1.2.2.1,3)).bind fun y6=> some (Sum.inr (Sum.inl (x.2.2,y2,y6.2,x.2.1,())))) (cond (x.2.1.1==4) ((a0F (y5.2,wrap .u64 (wrap .i64 (x.2.1.2.2.2.2.1-1)),10)).bind fun y7=> (x0r b0G (x.2.2,y2,x.2.1.2.2.2.2.2.2.1,0,y7.2,x.2.1,())).bind fun w10=> some (Sum.inl (w10.1,w10.2.1,w10.2.2.1,w10.2.2.2.1,()))) (cond (x.2.1.1==3) (some (Sum.inl (x.2.2,y2,y5.2,x.2.1,()))) (cond (x.2.1.1==5) (some (Sum.inr (Sum.inr ((x.2.2,y2,y5.2,x.2.1,()))))) (some (Sum.inr (Sum.inl (x.2.2,y2,y5.2,x.2.1,())))))))).bind fun z11=> match z11 with |.inl a12=>((a8v (a12.2.2.1,a12.2.2.2.1)).bind fun y14=> some (a12.1,a12.2.1,y14,a12.2.2.2.1,())) |.inr b13=>(match b13 with |.inl a15=>some (a15.1,a15.2.1,a15.2.2.1,a15.2.2.2.1,()) |.inr b16=>((a0F (b16.2.2.1,wrap .u64 (b16.2.2.2.1.2.2.2.2.2.2.2.1.length:Int),2)).bind fun y17=> (x0r b0H (b16.1,b16.2.1,b16.2.2.2.1.2.2.2.2.2.2.2.1,(b16.2.2.2.1.2.2.2.2.2.2.2.1.length:Int),0,y17.2,b16.2.2.2.1,())).bind fun w21=> some (w21.1,w21.2.1,w21.2.2.1,w21.2.2.2.1,())))).bind fun z22=> (x0r b0I (z22.1,z22.2.1,z22.2.2.2.1.2.2.2.2.2.2.2.2.1,(z22.2.2.2.1.2.2.2.2.2.2.2.2.1.length:Int),0,z22.2.2.1,z22.2.2.2.1,())).bind fun w25=> (a7V w25.2.2.1.1).bind fun y26=> cond (!y26) (some (0,w25.2.1)) ((b2a (w25.2.1,w25.2.2.1.2.2.2.2.2.2.2.2.2.1,w25.1,(w25.2.2.1.2.2.2.2.2.2.2.2.1.length:Int),w25.2.2.1.2.2.2.2.2.2.2.2.2.2.1)).bind fun y27=> some (y27.1,y27.2)))
def b7C:FSem:=⟨[.r false (.b Q6),.v Q39,.v QI],[.v QI],a9R⟩
def H51:Hints:=⟨[(2042,[.sv 2 QI,.sv 7 QI,.sv 94 QL,.sv 95 QI,.sv 96 QI,.box pinned Q6,.ptr 0 pinned [],.vp 4 Q39],[(.exit 9,[.sv 2 QI,.box pinned Q6,.ptr 0 pinned [],.vp 4 Q39])]),(32598,[.sv 2 QI,.sv 7 QI,.sv 75 (.list false Q4),.sv 76 QI,.sv 77 QI,.box pinned Q6,.ptr 0 pinned [],.vp 4 Q39],[(.exit 7,[.sv 2 QI,.sv 7 QI,.box pinned Q6,.ptr 0 pinned [],.vp 4 Q39])]),(260622,[.sv 2 QI,.sv 7 QI,.sv 57 (.arr 3 QI),.sv 58 QI,.box pinned Q6,.ptr 0 pinned [],.vp 4 Q39],[(.exit 5,[.sv 2 QI,.sv 7 QI,.box pinned Q6,.ptr 0 pinned [],.vp 4 Q39])])],[(127,[(.normal,[.sv 2 QI,.sv 7 QI,.box pinned Q6,.ptr 0 pinned [],.vp 4 Q39])]),(4072,[(.normal,[.sv 2 QI,.sv 7 QI,.box pinned Q6,.ptr 0 pinned [],.vp 4 Q39]),(.exit 0,[.sv 2 QI,.sv 7 QI,.box pinned Q6,.ptr 0 pinned [],.vp 4 Q39]),(.exit 4,[.sv 2 QI,.sv 7 QI,.box pinned Q6,.ptr 0 pinned [],.vp 4 Q39])])],[]⟩
def a3o(s:Z23):Option (Z23 ⊕ Z23):= cond ((a27 s.1.2.1 8) != 0) ((a2a (s.1,0)).bind fun y2=> some (.inl (y2,()))) (some (.inr (s.1,())))
def a4N(x:Z6):Option Z6:= (x0r a3o (x,())).bind fun w3=> some w3.1
def b1t:FSem:=⟨[.r false (.b Q6)],[],a4N⟩
def H52:Hints:=⟨[(2,[.box pinned Q6,.ptr 0 pinned []],[(.exit 0,[.box pinned Q6])])],[],[]⟩
def a4O(x:Z6):Option ((List Int)×Z6):= cond (lim (a01 x.1)) (some (x.1,x)) none
def b1u:FSem:=⟨[.r false (.b Q6)],[.o (.int .u8)],a4O⟩
def H53:Hints:=⟨[],[],[]⟩
def b2b(x:Int):Option Int:= cond (decide (x≥0)) (some (wrap .u64 (2*(wrap .u64 x)))) (some (wrap .u64 ((wrap .u64 (2*(wrap .u64 (wrap .i64 (0-(wrap .i64 (x+1)))))))+1)))
def b8Z:FSem:=⟨[.v QI],[.v (.int .u64)],b2b⟩
def d5D:Hints:=⟨[],[],[]⟩
def a8x(s:Z63):Option (Z63 ⊕ Z63):= cond (decide (s.1≥128)) (cond (lim ((a01 s.2.2.2.2.1)+1)) (some (.inl (wrap .u64 (a07 s.1 128),s.2.1,s.2.2.1,s.2.2.2.1,a04 s.2.2.2.2.1 [wrap .u8 ((wrap .u8 (a27 s.1 128))+128)],()))) none) (some (.inr (s.1,s.2.1,s.2.2.1,s.2.2.2.1,s.2.2.2.2.1,())))
def a8y(s:Z45):Option (Z45 ⊕ ((List Int)×Unit)):= cond (decide (s.2.2.1<s.2.1)) ((l0z s.1 s.2.2.1).bind fun x1=> (x0r a8x (x1,s.1,s.2.1,s.2.2.1,s.2.2.2.1,())).bind fun w2=> cond (lim ((a01 w2.2.2.2.2.1)+1)) (some (.inl (w2.2.1,w2.2.2.1,wrap .i64 (w2.2.2.2.1+1),a04 w2.2.2.2.2.1 [wrap .u8 w2.1],()))) none) (some (.inr (s.2.2.2.1,())))
def b2c(x:(List Int)):Option (List Int):= (x0r a8y (x,(x.length:Int),0,[],())).bind fun w3=> some w3.1
def b9a:FSem:=⟨[.v (.list false (.int .u64))],[.o (.int .u8)],b2c⟩
def d5E:Hints:=⟨[(58,[.sv 6 (.list false (.int .u64)),.sv 7 QI,.sv 8 QI,.own 3 3 (.int .u8)],[(.exit 0,[.own 3 3 (.int .u8)])]),(14948,[.sv 5 (.int .u64),.sv 6 (.list false (.int .u64)),.sv 7 QI,.sv 8 QI,.own 3 3 (.int .u8)],[(.exit 2,[.sv 5 (.int .u64),.sv 6 (.list false (.int .u64)),.sv 7 QI,.sv 8 QI,.own 3 3 (.int .u8)])])],[],[]⟩
def b0J(s:Z57):Option (Z57 ⊕ Z32):= cond (decide (s.2.2.2.2.1<8)) (cond ((z0h .u8 s.1 7)==1) (some (.inl (bits .u8 .xor (z0g .u8 s.1 1) 7,s.2.1,s.2.2.1,s.2.2.2.1,wrap .i64 (s.2.2.2.2.1+1),()))) (some (.inl (z0g .u8 s.1 1,s.2.1,s.2.2.1,s.2.2.2.1,wrap .i64 (s.2.2.2.2.1+1),())))) (some (.inr (s.1,s.2.1,s.2.2.1,s.2.2.2.1,())))
def a7B(s:Z32):Option Z72:= cond (decide (s.2.2.2.1<s.2.2.1)) ((l0z s.2.1 s.2.2.2.1).bind fun x1=> (x0r b0J (bits .u8 .xor s.1 x1,s.2.1,s.2.2.1,s.2.2.2.1,0,())).bind fun w2=> some (.inl (w2.1,w2.2.1,w2.2.2.1,wrap .i64 (w2.2.2.2.1+1),()))) (some (.inr (s.1,())))
def b0K(x:(List Int)):Option Int:= (x0r a7B (0,x,(x.length:Int),0,())).bind fun w3=> some w3.1
def b0L:FSem:=⟨[.v (.list false (.int .u8))],[.v (.int .u8)],b0K⟩
def d5F:Hints:=⟨[(58,[.sv 3 (.int .u8),.sv 7 (.list false (.int .u8)),.sv 8 QI,.sv 9 QI],[(.exit 0,[.sv 3 (.int .u8)])]),(29902,[.sv 3 (.int .u8),.sv 7 (.list false (.int .u8)),.sv 8 QI,.sv 9 QI,.sv 16 QI],[(.exit 2,[.sv 3 (.int .u8),.sv 7 (.list false (.int .u8)),.sv 8 QI,.sv 9 QI])])],[],[]⟩
def a5f(s:(Int×Z16×Z18)):Option ((Int×Z16×Z18) ⊕ Z5):= cond (decide (s.2.2.2.1<s.2.2.1)) ((l0z s.2.1 s.2.2.2.1).bind fun x1=> (b2b x1.2.2.1).bind fun y2=> cond (lim ((a01 s.2.2.2.2.1)+3)) (some (.inl (s.1,s.2.1,s.2.2.1,wrap .i64 (s.2.2.2.1+1),a04 s.2.2.2.2.1 [wrap .u64 x1.1,wrap .u64 x1.2.1,y2],()))) none) (some (.inr (s.1,s.2.2.2.2.1,())))
def a7C(x:c5T):Option (List Int):= (x0r a5f (x.2,x.1.2.2.2.1,(x.1.2.2.2.1.length:Int),0,([wrap .u64 x.1.1,wrap .u64 x.1.2.1,wrap .u64 x.1.2.2.1.1,wrap .u64 x.1.2.2.1.2.1,wrap .u64 x.1.2.2.1.2.2.1,wrap .u64 (x.1.2.2.2.1.length:Int)]:List Int),())).bind fun w3=> cond (lim ((a01 w3.2.1)+1)) ((b2c (a04 w3.2.1 [wrap .u64 w3.1])).bind fun y4=> cond (lim (2+(a01 y4))) ((b0K (a04 [245,75] y4)).bind fun y5=> cond (lim ((a01 (a04 [245,75] y4))+1)) (some (a04 (a04 [245,75] y4) [y5])) none) none) none
def b4v:FSem:=⟨[.v Q57,.v QI],[.o (.int .u8)],a7C⟩
def H54:Hints:=⟨[(58,[.sv 1 QI,.sv 33 (.list false Q9),.sv 34 QI,.sv 35 QI,.own 5 5 (.int .u64)],[(.exit 0,[.sv 1 QI,.own 5 5 (.int .u64)])])],[],[(5,[.q,.q,.q,.v,.q,.q,.v,.q,.q,.v,.q,.x,.x])]⟩
def b2Q(x:Int):Option Int:= some (v0a (u0z x 0) 8)
def b7b:FSem:=⟨[.v QI],[.v QI],b2Q⟩
def d5G:Hints:=⟨[],[],[]⟩
def a4B(s:Z35):Option (Z35 ⊕ ((List Int)×Unit)):= cond (decide (s.2.2.1<s.2.1)) (cond (lim ((a01 s.2.2.2.1)+1)) (some (.inl (wrap .u64 (a07 s.1 256),s.2.1,wrap .i64 (s.2.2.1+1),a04 s.2.2.2.1 [wrap .u8 (a27 s.1 256)],()))) none) (some (.inr (s.2.2.2.1,())))
def a9v(x:(Int×Int)):Option (List Int):= (b2Q x.2).bind fun y1=> (x0r a4B (x.1,y1,0,[],())).bind fun w2=> some w2.1
def b7c:FSem:=⟨[.v (.int .u64),.v QI],[.o (.int .u8)],a9v⟩
def d5H:Hints:=⟨[(58,[.sv 0 (.int .u64),.sv 7 QI,.sv 8 QI,.own 5 5 (.int .u8)],[(.exit 0,[.own 5 5 (.int .u8)])])],[],[]⟩
def a2U(x:(List Int)):Option (List Int):= cond (decide (a01 x<2147483648)) (some (List.reverse x)) none
def a5I:FSem:=⟨[.r false (.o (.int .u8))],[],a2U⟩
def b2d(x:(Int×Int)):Option (List Int):= (a9v (x.1,x.2)).bind fun y1=> (a2U y1).bind fun y2=> some y2
def b9b:FSem:=⟨[.v (.int .u64),.v QI],[.o (.int .u8)],b2d⟩
def H55:Hints:=⟨[],[],[]⟩
def a8Q(s:Z57):Option (Z57 ⊕ Z32):= cond (decide (s.2.2.2.2.1<8)) (cond ((z0h .u16 s.1 15)==1) (some (.inl (bits .u16 .xor (z0g .u16 s.1 1) 32773,s.2.1,s.2.2.1,s.2.2.2.1,wrap .i64 (s.2.2.2.2.1+1),()))) (some (.inl (z0g .u16 s.1 1,s.2.1,s.2.2.1,s.2.2.2.1,wrap .i64 (s.2.2.2.2.1+1),())))) (some (.inr (s.1,s.2.1,s.2.2.1,s.2.2.2.1,())))
def a5M(s:Z32):Option Z72:= cond (decide (s.2.2.2.1<s.2.2.1)) ((l0z s.2.1 s.2.2.2.1).bind fun x1=> (x0r a8Q (bits .u16 .xor s.1 (z0g .u16 (wrap .u16 x1) 8),s.2.1,s.2.2.1,s.2.2.2.1,0,())).bind fun w2=> some (.inl (w2.1,w2.2.1,w2.2.2.1,wrap .i64 (w2.2.2.2.1+1),()))) (some (.inr (s.1,())))
def a8z(x:(List Int)):Option Int:= (x0r a5M (0,x,(x.length:Int),0,())).bind fun w3=> some w3.1
def a8A:FSem:=⟨[.v (.list false (.int .u8))],[.v (.int .u16)],a8z⟩
def H56:Hints:=⟨[(58,[.sv 3 (.int .u16),.sv 7 (.list false (.int .u8)),.sv 8 QI,.sv 9 QI],[(.exit 0,[.sv 3 (.int .u16)])]),(29902,[.sv 3 (.int .u16),.sv 7 (.list false (.int .u8)),.sv 8 QI,.sv 9 QI,.sv 18 QI],[(.exit 2,[.sv 3 (.int .u16),.sv 7 (.list false (.int .u8)),.sv 8 QI,.sv 9 QI])])],[],[]⟩
def a8B(s:(b2I×Int×Int×Z6×a7U)):Option ((b2I×Int×Int×Z6×a7U) ⊕ ((Z6×a7U) ⊕ Z5)):= cond (decide (s.2.2.1<s.2.1)) ((l0z s.1 s.2.2.1).bind fun x2=> (a9R (s.2.2.2.1,x2,s.2.2.2.2.1.2.1)).bind fun y3=> cond (y3.1 != 0) (some (.inr (Sum.inr ((y3.1,[],()))))) (some (.inl (s.1,s.2.1,wrap .i64 (s.2.2.1+1),y3.2,s.2.2.2.2.1,())))) (some (.inr (Sum.inl (s.2.2.2.1,s.2.2.2.2.1,()))))
def a5F(x:a5C):Option ((List Int)×Int):= (a7n x).bind fun y1=> cond (!y1) (some ([],1)) ((x0r a8B (x.2.2.2.2.1,(x.2.2.2.2.1.length:Int),0,([],0,()),x,())).bind fun w4=> match w4 with |.inl a5=>((a4N a5.1).bind fun y7=> (a4O y7).bind fun y8=> (a7C (a5.2.1,(y8.1.length:Int))).bind fun y9=> cond (lim ((a01 y9)+(a01 y8.1))) ((a8z (a04 y9 y8.1)).bind fun y10=> (b2d (wrap .u64 y10,2)).bind fun y11=> cond (lim ((a01 (a04 y9 y8.1))+(a01 y11))) (some (a04 (a04 y9 y8.1) y11,0)) none) none) |.inr b6=>some (b6.2.1,b6.1))
def b5g:FSem:=⟨[.v Q57],[.o (.int .u8),.v QI],a5F⟩
def H19:Hints:=⟨[(122,[.sv 14 (.list false Q39),.sv 15 QI,.sv 16 QI,.box 4 Q6,.vp 1 Q57,.ptr 4 4 []],[(.exit 0,[.box 4 Q6,.vp 1 Q57,.ptr 4 4 []]),(.ret,[.sv 3 QI,.own 2 2 (.int .u8)])])],[],[]⟩
def a4C(s:((List Int)×Z6)):Option (((List Int)×Z6) ⊕ Z0):= cond (decide (s.2.2.1<(s.1.length:Int))) ((l0z s.1 s.2.2.1).bind fun x1=> (l0z s.2.1 s.2.2.1).bind fun x2=> cond (x1 != x2) (some (.inr (Sum.inr ((false,()))))) (some (.inl (s.1,s.2.1,wrap .i64 (s.2.2.1+1),())))) (some (.inr (Sum.inl ())))
def a2S(x:((List Int)×(List Int))):Option Bool:= cond ((x.1.length:Int) != (x.2.length:Int)) (some false) ((x0r a4C (x.1,x.2,0,())).bind fun w3=> match w3 with |.inl a4=>some true |.inr b5=>some b5.1)
def a9w:FSem:=⟨[.v QL,.v QL],[.v .bool],a2S⟩
def H88:Hints:=⟨[(58,[.sv 0 QL,.sv 1 QL,.sv 5 QI],[(.exit 0,[]),(.ret,[.sv 4 .bool])])],[],[(6,[.v,.v,.v,.v,.v,.v,.v,.v,.x])]⟩
def a5N(s:((List (List Int))×Z15)):Option (((List (List Int))×Z15) ⊕ Z0):= cond (decide (s.2.2.1<(s.1.length:Int))) ((l0z s.1 s.2.2.1).bind fun x1=> (l0z s.2.1 s.2.2.1).bind fun x2=> (a2S (x1,x2)).bind fun y3=> cond (!y3) (some (.inr (Sum.inr ((false,()))))) (some (.inl (s.1,s.2.1,wrap .i64 (s.2.2.1+1),())))) (some (.inr (Sum.inl ())))
def a8C(x:((List (List Int))×(List (List Int)))):Option Bool:= cond ((x.1.length:Int) != (x.2.length:Int)) (some false) ((x0r a5N (x.1,x.2,0,())).bind fun w4=> match w4 with |.inl a5=>some true |.inr b6=>some b6.1)
def b5A:FSem:=⟨[.v (.list false QL),.v (.list false QL)],[.v .bool],a8C⟩
def H64:Hints:=⟨[(58,[.sv 0 (.list false QL),.sv 1 (.list false QL),.sv 5 QI],[(.exit 0,[]),(.ret,[.sv 4 .bool])])],[],[(6,[.v,.v,.v,.v,.v,.v,.v,.v,.x,.x])]⟩
def a5g(x:(Z14×Z14)):Option Bool:= cond (x.1.1==x.2.1) ((a8C (x.1.2.1,x.2.2.1)).bind fun y1=> some y1) (some false)
def b0M:FSem:=⟨[.v Q11,.v Q11],[.v .bool],a5g⟩
def H23:Hints:=⟨[],[],[]⟩
def c4P(x:(List Int)):Option Z17:= cond (lim (a01 x)) (some (x,0,0,())) none
def b5h:FSem:=⟨[.v (.list false (.int .u8))],[.b Q12],c4P⟩
def d5I:Hints:=⟨[],[],[]⟩
def d1d:Hints:=⟨[(58,[.sv 5 (.int .u64),.sv 8 (.list false (.int .u8)),.sv 9 QI,.sv 10 QI],[(.exit 0,[]),(.ret,[.sv 2 (.int .u64),.sv 3 QI,.sv 4 QI])])],[(7474,[(.normal,[.sv 5 (.int .u64),.sv 6 QI,.sv 7 (.int .u8),.sv 8 (.list false (.int .u8)),.sv 9 QI,.sv 10 QI,.sv 28 .bool])])],[]⟩
def c1N(x:(List Int)):Option (Int×Int×Int):=z0c (a2q [] [] [0,2,3,4,5,6,7] []) d1d Tryz.f214 [.v (.list false (.int .u8))] [.v (.int .u64),.v (.int .i64),.v (.int .i64)] x
def b1y:FSem:=⟨[.v (.list false (.int .u8))],[.v (.int .u64),.v QI,.v QI],c1N⟩
def d1e:Hints:=⟨[],[(15,[(.normal,[.sv 5 (.int .u64),.sv 6 QI,.sv 7 QI,.box pinned Q12,.ptr 0 pinned []])])],[(3,[.p,.p,.q,.q,.p,.p,.q,.q,.x,.x,.x,.v,.v,.v,.v,.v,.x])]⟩
def b7D(x:Z36):Option Z32:=z0c (a2q [(214,b1y)] [] [0,1,4,5,6,7] []) d1e Tryz.f143 [.r false (.b Q12),.v (.int .u64)] [.v (.int .u64)] x
def a8b:FSem:=⟨[.r false (.b Q12),.v (.int .u64)],[.v (.int .u64)],b7D⟩
def d1f:Hints:=⟨[],[],[]⟩
def c4Q(x:Int):Option Int:=z0c (a2q [] [] [0,2,3] []) d1f Tryz.f144 [.v (.int .u64)] [.v (.int .i64)] x
def b5i:FSem:=⟨[.v (.int .u64)],[.v QI],c4Q⟩
def b7E(x:Z17):Option Z32:= some (x.2.2.1,x)
def a8c:FSem:=⟨[.r false (.b Q12)],[.v QI],b7E⟩
def d5J:Hints:=⟨[],[],[]⟩
def b7u(x:Z17):Option Z32:= some (wrap .i64 ((x.1.length:Int)-x.2.1),x)
def a7v:FSem:=⟨[.r false (.b Q12)],[.v QI],b7u⟩
def d5K:Hints:=⟨[],[],[(1,[.p,.p,.q,.q,.v,.p,.p,.q,.q,.x,.x])]⟩
def b8Q(x:Z17):Option Z32:= some (x.2.1,x)
def a8R:FSem:=⟨[.r false (.b Q12)],[.v QI],b8Q⟩
def d5L:Hints:=⟨[],[],[]⟩
def H65:Hints:=⟨[(8186,[.sv 0 (.list false (.int .u8)),.sv 54 (.int .u64),.sv 55 (.int .u64),.box 2 Q55,.box 1029 Q12,.ptr 2 2 [],.ptr 6 1029 []],[(.exit 0,[.sv 0 (.list false (.int .u8)),.box 2 Q55,.box 1029 Q12,.ptr 2 2 [],.ptr 6 1029 []])])],[(14,[(.normal,[.sv 0 (.list false (.int .u8)),.sv 25 .bool,.box 2 Q55,.ptr 2 2 []])])],[(25,[.v,.v,.v,.v,.v,.v,.v,.v,.x])]⟩
end Go.Ab
namespace Go.Ab
open IntKind(wrap)
open Go.Proofs
set_option maxRecDepth 100000
set_option linter.unusedVariables false
def b4w(x:(List Int)):Option (a5C×Int×Int×Int):=z0c (a2q [(44,a9o),(131,b0L),(142,b5h),(143,a8b),(144,b5i),(145,a8c),(146,a7v),(147,a8R)] [(2,.pair (.int .i64) Q52),(15,.pair (.int .i64) Q51),(26,.pair (.int .i64) Q51),(83,.pair (.int .i64) Q51),(88,.pair (.int .i64) Q51),(101,.pair (.int .i64) Q51),(105,.pair (.int .i64) Q51)] [0,3,4,5,6,7,8,9,10,11] []) H65 Tryz.f65 [.v (.list false (.int .u8))] [.v (.pair (.int .i64) (.pair (.int .i64) (.pair Q9 (.pair (.list false Q9) Q40)))),.v (.int .i64),.v (.int .i64),.v (.int .i64)] x
def a7D:FSem:=⟨[.v (.list false (.int .u8))],[.v (.pair QI (.pair QI (.pair Q9 (.pair (.list false Q9) Q40)))),.v QI,.v QI,.v QI],b4w⟩
def c5X(x:(List Int)):Option Z17:= cond (lim (a01 x)) (some (x,0,0,())) none
def b6i:FSem:=⟨[.v (.list false (.int .u8))],[.b Q12],c5X⟩
def H66:Hints:=⟨[],[],[]⟩
def b8R(x:Z17):Option Z32:= some (x.2.2.1,x)
def a0V:FSem:=⟨[.r false (.b Q12)],[.v QI],b8R⟩
def H70:Hints:=⟨[],[],[]⟩
def b7F(x:Z17):Option Z32:= some (wrap .i64 ((wrap .i64 (8*(x.1.length:Int)))-x.2.1),x)
def a3s:FSem:=⟨[.r false (.b Q12)],[.v QI],b7F⟩
def H68:Hints:=⟨[],[],[(1,[.p,.p,.q,.q,.v,.v,.p,.p,.q,.q,.x,.x])]⟩
def d1g:Hints:=⟨[],[],[]⟩
def b7G(x:Z36):Option Z32:=z0c (a2q [] [] [0,1,4] []) d1g Tryz.f153 [.r false (.b Q12),.v (.int .i64)] [.v (.int .u8)] x
def a1P:FSem:=⟨[.r false (.b Q12),.v QI],[.v (.int .u8)],b7G⟩
def d1h:Hints:=⟨[(506,[.sv 5 (.int .u64),.sv 27 QI,.sv 28 QI,.box pinned Q12,.ptr 0 pinned []],[(.exit 0,[.sv 5 (.int .u64),.box pinned Q12])])],[(14,[(.normal,[.sv 1 QI,.sv 16 .bool,.box pinned Q12,.ptr 0 pinned []])])],[]⟩
def b8S(x:Z36):Option Z32:=z0c (a2q [(68,a3s),(153,a1P)] [] [0,1,4,5] []) d1h Tryz.f215 [.r false (.b Q12),.v (.int .i64)] [.v (.int .u64)] x
def a0W:FSem:=⟨[.r false (.b Q12),.v QI],[.v (.int .u64)],b8S⟩
def d1i:Hints:=⟨[],[(14,[(.normal,[.sv 1 QI,.sv 5 (.int .u64),.sv 17 .bool,.box pinned Q12])])],[]⟩
def b6j(x:Z36):Option Z32:=z0c (a2q [(215,a0W)] [] [0,1,4,5] []) d1i Tryz.f151 [.r false (.b Q12),.v (.int .i64)] [.v (.int .i64)] x
def a1j:FSem:=⟨[.r false (.b Q12),.v QI],[.v QI],b6j⟩
def d1j:Hints:=⟨[(250,[.sv 6 QI,.sv 20 QI,.sv 21 QI,.box pinned Q12,.box 1000001 Q38,.ptr 0 pinned [],.ptr 1 1000001 []],[(.exit 0,[.sv 6 QI,.box 1000001 Q38,.box pinned Q12,.ptr 1 1000001 []])])],[],[(6,[.p,.p,.p,.r [26,1000001],.r [27,1000001],.p,.v,.w [30,1030,pinned],.q,.a [31,32,1000001],.x,.x,.x])]⟩
def c1O(x:(Z17×a1E)):Option (Bool×Z17×a1E):=z0c (a2q [(122,a1A),(151,a1j),(215,a0W)] [] [0,1,4,5,6] []) d1j Tryz.f216 [.r false (.b Q12),.r false (.b Q38)] [.v .bool] x
def b1z:FSem:=⟨[.r false (.b Q12),.r false (.b Q38)],[.v .bool],c1O⟩
def d1k:Hints:=⟨[(8106,[.sv 3 QI,.sv 4 .bool,.sv 50 (.int .u64),.sv 51 (.int .u64),.box pinned Q12,.box 2 Q38,.ptr 0 pinned [],.ptr 2 2 []],[(.exit 7,[.sv 3 QI,.sv 4 .bool,.box 2 Q38,.box pinned Q12,.ptr 2 2 []])]),(129550,[.sv 3 QI,.sv 38 QI,.box pinned Q12,.box 2 Q38,.ptr 0 pinned [],.ptr 2 2 []],[(.exit 5,[.sv 3 QI,.box pinned Q12,.box 2 Q38,.ptr 0 pinned [],.ptr 2 2 []])])],[(63,[(.normal,[.sv 3 QI,.sv 4 .bool,.box 2 Q38,.box pinned Q12,.ptr 2 2 []])]),(2024,[(.normal,[.sv 3 QI,.box pinned Q12,.box 2 Q38,.ptr 0 pinned [],.ptr 2 2 []]),(.exit 0,[.sv 3 QI,.sv 4 .bool,.box 2 Q38,.box pinned Q12,.ptr 2 2 []]),(.exit 4,[.sv 3 QI,.sv 4 .bool,.box pinned Q12,.box 2 Q38,.ptr 0 pinned [],.ptr 2 2 []])])],[]⟩
def c2Z(x:Z17):Option (a1E×Int×Bool×Z17):=z0c (a2q [(151,a1j),(215,a0W),(216,b1z)] [(2,.pair (.int .i64) Q35)] [0,3,4,5,6,7,21,23,25,27] []) d1k Tryz.f148 [.r false (.b Q12)] [.v (.pair (.int .i64) Q36),.v (.int .i64),.v .bool] x
def b2R:FSem:=⟨[.r false (.b Q12)],[.v (.pair QI Q36),.v QI,.v .bool],c2Z⟩
def d1l:Hints:=⟨[(62,[.sv 1 QI,.sv 5 QI,.sv 6 QI,.box pinned Q12,.ptr 0 pinned []],[(.ret,[.sv 4 QI,.box pinned Q12])])],[],[(4,[.p,.p,.q,.q,.v,.x])]⟩
def b7v(x:Z36):Option Z32:=z0c (a2q [(153,a1P)] [] [0,1,4,5,6] []) d1l Tryz.f307 [.r false (.b Q12),.v (.int .i64)] [.v (.int .i64)] x
def a7w:FSem:=⟨[.r false (.b Q12),.v QI],[.v QI],b7v⟩
def d1m:Hints:=⟨[],[],[]⟩
def c3a(x:Int):Option Int:=z0c (a2q [] [] [0,2,3,6] []) d1m Tryz.f308 [.v (.int .u64)] [.v (.int .i64)] x
def b2S:FSem:=⟨[.v (.int .u64)],[.v QI],c3a⟩
def d1n:Hints:=⟨[],[(254,[(.normal,[.sv 8 (.int .u64),.sv 44 .bool,.box pinned Q12])])],[]⟩
def c5Y(x:Z36):Option Z53:=z0c (a2q [(70,a0V),(215,a0W),(307,a7w),(308,b2S)] [] [0,1,4,5,6,7,8] []) d1n Tryz.f300 [.r false (.b Q12),.v (.int .i64)] [.v (.int .i64),.v (.int .i64)] x
def b6k:FSem:=⟨[.r false (.b Q12),.v QI],[.v QI,.v QI],c5Y⟩
def d1o:Hints:=⟨[(250,[.sv 1 QI,.sv 27 QI,.sv 28 QI,.own 8 8 QI,.box pinned Q12,.ptr 0 pinned []],[(.exit 0,[.own 8 8 QI,.box pinned Q12]),(.ret,[.sv 7 QI,.own 6 6 QI,.box pinned Q12])])],[(6,[(.normal,[.sv 1 QI,.sv 2 QI,.sv 21 .bool,.box pinned Q12,.ptr 0 pinned []])])],[]⟩
def c5Z(x:(Z17×Int×Int)):Option Z65:=z0c (a2q [(70,a0V),(274,a4z),(300,b6k)] [] [0,1,2,6,7,8,9,10] []) d1o Tryz.f282 [.r false (.b Q12),.v (.int .i64),.v (.int .i64)] [.o (.int .i64),.v (.int .i64)] x
def b6l:FSem:=⟨[.r false (.b Q12),.v QI,.v QI],[.o QI,.v QI],c5Z⟩
def d1p:Hints:=⟨[(2042,[.sv 7 QI,.sv 10 QI,.sv 37 QI,.sv 38 QI,.own 11 11 QI,.box pinned Q12,.ptr 0 pinned []],[(.exit 0,[.sv 7 QI,.sv 10 QI,.own 11 11 QI,.box pinned Q12,.ptr 0 pinned []])])],[],[]⟩
def c4R(x:Z36):Option (Int×Z65):=z0c (a2q [(70,a0V),(122,a1A),(151,a1j),(215,a0W),(282,b6l)] [] [0,1,4,5,6,7,8,9,10,11] []) d1p Tryz.f221 [.r false (.b Q12),.v (.int .i64)] [.v (.int .i64),.o (.int .i64),.v (.int .i64)] x
def b5j:FSem:=⟨[.r false (.b Q12),.v QI],[.v QI,.o QI,.v QI],c4R⟩
def d1q:Hints:=⟨[(4090,[.sv 43 QI,.sv 44 QI,.own 12 12 QI,.own 42 10 QI,.box pinned Q12,.box 6 Q8,.box 11 Q7,.ptr 0 pinned [],.ptr 6 6 [],.ptr 11 11 []],[(.exit 0,[.own 12 12 QI,.box 6 Q8,.box 11 Q7,.box pinned Q12,.ptr 6 6 [],.ptr 11 11 []]),(.ret,[.sv 8 QI,.own 7 7 QI,.box 6 Q8,.box pinned Q12,.ptr 6 6 []])])],[],[]⟩
def c4S(x:(Z17×Int×Int)):Option (Z5×Z65):=z0c (a2q [(70,a0V),(209,a3Q),(215,a0W),(220,a8X),(221,b5j)] [(11,.pair (.int .i64) Q2),(41,.pair (.int .i64) Q2)] [0,1,2,7,8,9,10,12,14,15,16,17] []) d1q Tryz.f152 [.r false (.b Q12),.v (.int .i64),.v (.int .i64)] [.v Q8,.o (.int .i64),.v (.int .i64)] x
def b5k:FSem:=⟨[.r false (.b Q12),.v QI,.v QI],[.v Q8,.o QI,.v QI],c4S⟩
def H67:Hints:=⟨[(1018,[.sv 1 QI,.sv 8 QI,.sv 9 .bool,.sv 47 QI,.sv 48 QI,.box pinned Q12,.box 4 Q39,.box 7 (.pair QI (.pair QI (.pair QI (.pair QI (.pair QI (.pair QL (.pair (.arr 3 QI) (.pair (.list false Q4) (.pair (.list true QI) Q14))))))))),.ptr 0 pinned [],.ptr 4 4 [],.ptr 7 7 []],[(.exit 0,[.sv 1 QI,.sv 8 QI,.sv 9 .bool,.box pinned Q12,.box 4 Q39,.box 7 (.pair QI (.pair QI (.pair QI (.pair QI (.pair QI (.pair QL (.pair (.arr 3 QI) (.pair (.list false Q4) (.pair (.list true QI) Q14))))))))),.ptr 0 pinned [],.ptr 4 4 [],.ptr 7 7 []])])],[],[(14,[.r [7,50],.r [7,51],.p,.v,.w [54,1054,pinned],.q,.x,.x,.x])]⟩
def c7r(x:Z36):Option (a1E×Z32):=z0c (a2q [(70,a0V),(121,b4u),(122,a1A),(126,a7W),(148,b2R),(149,b2z),(150,a7Y),(151,a1j),(152,b5k)] [(7,.pair (.int .i64) Q36)] [0,1,5,6,8,9,10,11,12] []) H67 Tryz.f67 [.r false (.b Q12),.v (.int .i64)] [.v Q39,.v (.int .i64)] x
def b7H:FSem:=⟨[.r false (.b Q12),.v QI],[.v Q39,.v QI],c7r⟩
def H69:Hints:=⟨[(58,[.sv 2 QI,.sv 3 QI,.box pinned Q12,.ptr 0 pinned []],[(.exit 0,[.sv 2 QI,.box pinned Q12,.ptr 0 pinned []]),(.ret,[.box pinned Q12])])],[],[]⟩
def b7w(x:Z17):Option Z17:=z0c (a2q [(153,a1P)] [] [0,2,3] []) H69 Tryz.f69 [.r false (.b Q12)] [] x
def a7x:FSem:=⟨[.r false (.b Q12)],[],b7w⟩
def H24:Hints:=⟨[(2042,[.sv 9 QI,.sv 59 QI,.sv 60 QI,.box 2 Q57,.box 5 Q56,.box 1056 Q12,.ptr 2 2 [],.ptr 5 5 [],.ptr 10 1056 []],[(.exit 0,[.sv 9 QI,.box 2 Q57,.box 5 Q56,.box 1056 Q12,.ptr 2 2 [],.ptr 5 5 [],.ptr 10 1056 []]),(.ret,[.sv 3 QI,.sv 4 QI,.box 2 Q57,.ptr 2 2 []])])],[],[(7,[.v,.v,.v,.v,.v,.v,.v,.v,.v,.v,.v,.v,.v,.v,.v,.v,.v,.x])]⟩
def b7I(x:(List Int)):Option (a5C×Int×Int):=z0c (a2q [(21,a9d),(56,a8A),(65,a7D),(66,b6i),(67,b7H),(68,a3s),(69,a7x),(70,a0V)] [(5,.pair (.int .i64) Q53)] [0,3,4,6,7,8,9,10,12] []) H24 Tryz.f24 [.v (.list false (.int .u8))] [.v Q57,.v (.int .i64),.v (.int .i64)] x
def b0N:FSem:=⟨[.v (.list false (.int .u8))],[.v Q57,.v QI,.v QI],b7I⟩
def b7J(x:(List Int)):Option (Z7×Int×Int×Int):= (b4w x).bind fun y1=> cond (y1.2.2.2 != 0) (some ((0,0,0,()),0,0,y1.2.2.2)) (some (y1.1.2.2.1,y1.1.1,y1.1.2.1,0))
def b7K:FSem:=⟨[.v (.list false (.int .u8))],[.v Q9,.v QI,.v QI,.v QI],b7J⟩
def H26:Hints:=⟨[],[],[(4,[.q,.q,.r [6,23],.r [6,24],.r [6,25],.r [6,26],.w [0,2],.v,.x,.x])]⟩
def a3a(s:(Z4×Z40)):Option ((Z4×Z40) ⊕ Z0):= cond (decide (s.2.2.1<(s.1.length:Int))) ((l0z s.1 s.2.2.1).bind fun x1=> (l0z s.2.1 s.2.2.1).bind fun x2=> cond (!(eqT Q4 x1 x2)) (some (.inr (Sum.inr ((false,()))))) (some (.inl (s.1,s.2.1,wrap .i64 (s.2.2.1+1),())))) (some (.inr (Sum.inl ())))
def a6v(x:(Z4×Z4)):Option Bool:= cond ((x.1.length:Int) != (x.2.length:Int)) (some false) ((x0r a3a (x.1,x.2,0,())).bind fun w3=> match w3 with |.inl a4=>some true |.inr b5=>some b5.1)
def b3M:FSem:=⟨[.v (.list false Q4),.v (.list false Q4)],[.v .bool],a6v⟩
def d5M:Hints:=⟨[(58,[.sv 0 (.list false Q4),.sv 1 (.list false Q4),.sv 5 QI],[(.exit 0,[]),(.ret,[.sv 4 .bool])])],[],[(6,[.v,.v,.v,.v,.v,.v,.v,.v,.x])]⟩
def b1A(x:(Z5×Z5)):Option Bool:= cond (x.1.1==x.2.1) ((a2S (x.1.2.1,x.2.2.1)).bind fun y1=> some y1) (some false)
def b5B:FSem:=⟨[.v Q8,.v Q8],[.v .bool],b1A⟩
def d5N:Hints:=⟨[],[],[]⟩
def a9x(x:(a1E×a1E)):Option Bool:= cond (x.1.1==x.2.1) (cond (x.1.2.1==x.2.2.1) (cond (x.1.2.2.1==x.2.2.2.1) (cond (x.1.2.2.2.1==x.2.2.2.2.1) (cond (x.1.2.2.2.2.1==x.2.2.2.2.2.1) ((a2S (x.1.2.2.2.2.2.1,x.2.2.2.2.2.2.1)).bind fun y1=> cond y1 (cond (eqT (.arr 3 (.int .i64)) x.1.2.2.2.2.2.2.1 x.2.2.2.2.2.2.2.1) ((a6v (x.1.2.2.2.2.2.2.2.1,x.2.2.2.2.2.2.2.2.1)).bind fun y2=> cond y2 ((a2S (x.1.2.2.2.2.2.2.2.2.1,x.2.2.2.2.2.2.2.2.2.1)).bind fun y3=> cond y3 ((b1A (x.1.2.2.2.2.2.2.2.2.2.1,x.2.2.2.2.2.2.2.2.2.2.1)).bind fun y4=> cond y4 ((a2S (x.1.2.2.2.2.2.2.2.2.2.2.1,x.2.2.2.2.2.2.2.2.2.2.2.1)).bind fun y5=> some y5) (some false)) (some false)) (some false)) (some false)) (some false)) (some false)) (some false)) (some false)) (some false)) (some false)
def a9y:FSem:=⟨[.v Q39,.v Q39],[.v .bool],a9x⟩
def H42:Hints:=⟨[],[],[]⟩
def H76:Hints:=⟨[(58,[.sv 0 (.list false Q9),.sv 1 (.list false Q9),.sv 5 QI],[(.exit 0,[]),(.ret,[.sv 4 .bool])])],[],[(6,[.v,.v,.v,.v,.v,.v,.v,.v,.x])]⟩
def c0D(x:(Z16×Z16)):Option Bool:=z0c (a2q [] [] [0,1,4,5] []) H76 Tryz.f76 [.v (.list false Q9),.v (.list false Q9)] [.v .bool] x
def b0O:FSem:=⟨[.v (.list false Q9),.v (.list false Q9)],[.v .bool],c0D⟩
def H28:Hints:=⟨[(58,[.sv 5 QI,.vp 2 Q57,.vp 3 Q57],[(.exit 0,[]),(.ret,[.sv 4 .bool])])],[(6,[(.normal,[.sv 41 .bool,.vp 2 Q57,.vp 3 Q57])])],[(6,[.v,.v,.v,.v,.v,.v,.v,.v,.v,.v,.x,.x])]⟩
def b4x(x:(a5C×a5C)):Option Bool:=z0c (a2q [(42,a9y),(76,b0O)] [] [0,1,4,5] [2,3]) H28 Tryz.f28 [.v Q57,.v Q57] [.v .bool] x
def b4y:FSem:=⟨[.v Q57,.v Q57],[.v .bool],b4x⟩
def a6w(s:Z63):Option (Z63 ⊕ Z51):= cond (decide (s.2.2.2.1<s.2.2.1)) ((l0z s.2.1 s.2.2.2.1).bind fun x2=> (show Option (Int×(Int×((List Int)×Z38)))from(a4X x2).bind fun y3=> cond (!y3) (some (s.1,x2,s.2.1,s.2.2.1,s.2.2.2.1,true,s.2.2.2.2.1,())) (cond (decide (s.1<0)) none (cond ((z0g .i64 1 s.1)==0) none (some (s.1,x2,s.2.1,s.2.2.1,s.2.2.2.1,(a27 x2 (z0g .i64 1 s.1)) != 0,s.2.2.2.2.1,()))))).bind fun z4=> cond z4.2.2.2.2.2.1 (some (.inr (Sum.inr ((6,[],()))))) (cond (decide (z4.1<0)) none (cond (lim ((a01 z4.2.2.2.2.2.2.1)+1)) (some (.inl (z4.1,z4.2.2.1,z4.2.2.2.1,wrap .i64 (z4.2.2.2.2.1+1),a04 z4.2.2.2.2.2.2.1 [z0h .i64 z4.2.1 z4.1],()))) none))) (some (.inr (Sum.inl (s.2.2.2.2.1,()))))
def a6Y(x:((List Int)×Int)):Option ((List Int)×Int):= (show Option Z20 from cond (decide (x.2<0)) (some (x.1,x.2,true,())) (some (x.1,x.2,decide (x.2 > 30),()))).bind fun z1=> cond z1.2.2.1 (some ([],1)) ((x0r a6w (z1.2.1,z1.1,(z1.1.length:Int),0,[],())).bind fun w5=> match w5 with |.inl a6=>some (a6.1,0) |.inr b7=>some (b7.2.1,b7.1))
def b2T:FSem:=⟨[.v QL,.v QI],[.o QI,.v QI],a6Y⟩
def H91:Hints:=⟨[(122,[.sv 1 QI,.sv 15 QL,.sv 16 QI,.sv 17 QI,.own 6 6 QI],[(.exit 0,[.own 6 6 QI]),(.ret,[.sv 5 QI,.own 4 4 QI])])],[(6,[(.normal,[.sv 0 QL,.sv 1 QI,.sv 14 .bool])]),(15666,[(.normal,[.sv 1 QI,.sv 8 QI,.sv 15 QL,.sv 16 QI,.sv 17 QI,.sv 30 .bool,.own 6 6 QI])])],[]⟩
def a1C(x:Int):Option Int:= cond (x==0) (some 64) ((l0z b1R (z0h .u64 (wrap .u64 ((bits .u64 .and x (wrap .u64 (0-x)))*285870213051353865)) 58)).bind fun x1=> some (wrap .i64 x1))
def a1d:FSem:=⟨[.v (.int .u64)],[.v QI],a1C⟩
def c1P:Hints:=⟨[],[],[]⟩
def b0P:Cx:=a2q [] [] [0,2] []
theorem b9c{ρ:Type}{cx:Cx}{ops:List Oper}:∀(l1 l2:List (Md×Oper)) (Γ:AE) (K:AE→Rs ρ),h0h cx ops (l1++l2) Γ K=h0h cx ops l1 Γ fun Γ'=>h0h cx ops l2 Γ' K
 | [],_,_,_=>rfl
 |(md,o)::l1,l2,Γ,K=>by
  simp only[a18,h0h];congr 1;funext Γ';exact b9c l1 l2 Γ' K
theorem b7L{ρ:Type}{cx:Cx}{H:Hints}{a b:Code}{p:Nat}(h:find H.cuts p=none)(Γ:AE)(K:Ex→AE→Rs ρ):c0m cx H (.seq a b) p Γ K=c0m cx H a (2*p) Γ fun e Γ'=>match e with
   |.normal=>c0m cx H b (2*p+1) Γ' K
   |e=>K e Γ':=by
 simp only[c0m,h];rfl
theorem c3G{ρ:Type}{cx:Cx}{H:Hints}{id:Nat}{ops:Array Oper}{p:Nat}(Γ:AE)(K:Ex→AE→Rs ρ):c0m cx H (.region id ops false) p Γ K=h0h cx ops.toList (ops.toList.map fun o=>(.x,o)) Γ fun Γ'=>K .normal Γ':=by
 simp only[c0m,cF]
def a9S:Code:=match Tryz.f174.body with
 |some c=>c
 |none=>.skip
def c1Q:Code→Code
 |.seq a _=>a
 |c=>c
def c6a:Code→Code
 |.seq _ b=>b
 |c=>c
def c7s:Code→Array Oper
 |.region _ ops _=>ops
 |_=>#[]
def c5s:Code:=c6a (c6a a9S)
def b3N:List Oper:=(c7s (c1Q c5s)).toList
def Γ174(x:Int):AE:=(((ini [.v (.int .u64)] x).set 2 (.val QI (0:Int))).set 3 (.val (.int .u64) x)).set 4 (.val .bool (x==(0:Int)))
def Γ174r(x:Int):AE:=(Γ174 x).set 2 (.val QI (64:Int))
def c3H(e:Ex)(Γ:AE):Option Int:=match e,Γ.pd with
  |.exit _,_=>none
  |_,some _=>none
  |_,none=>(Γ.upto Tryz.f174.ntmps).outs b0P [] Tryz.f174.ntmps [.v QI] (Tryz.f174.results.toList.map .inl) fun y _=>some y
def Γ174b(x a b c i:Int):AE:=((((((Γ174 x).set 5 (.val (.int .u64) x)).set 6 (.val (.int .u64) x)).set 7 (.val (.int .u64) a)).set 8 (.val (.int .u64) b)).set 9 (.val (.int .u64) c)).set 10 (.val (.int .u64) i)
set_option maxRecDepth 100000
theorem c8m:a9S=.seq (c1Q a9S) (.seq (c1Q (c6a a9S)) (.seq (.region 3 (c7s (c1Q c5s)) false) .ret)):=by kernel_rfl
theorem d0A(x:Int):z0c b0P c1P Tryz.f174 a1d.ps a1d.rs x=c0m b0P c1P a9S 1 (ini [.v (.int .u64)] x) c3H:=rfl
theorem d0B(x:Int)(K:Ex→AE→Option Int):c0m b0P c1P (c1Q a9S) 2 (ini [.v (.int .u64)] x) K=K .normal ((ini [.v (.int .u64)] x).set 2 (.val (.int .i64) (0:Int))):=by kernel_rfl
theorem d0C(x:Int)(K:Ex→AE→Option Int):c0m b0P c1P (c1Q (c6a a9S)) 6 ((ini [.v (.int .u64)] x).set 2 (.val (.int .i64) (0:Int))) K=bif x==(0:Int)then K .ret (Γ174r x)else K .normal (Γ174 x):=by kernel_rfl
theorem d0D(x:Int):c3H .ret (Γ174r x)=some (64:Int):=by kernel_rfl
theorem d0E(x:Int)(K:AE→Option Int):h0h b0P b3N ((b3N.map fun o=>(Md.x,o)).take 6) (Γ174 x) K =
  K (Γ174b x (wrap .u64 (0-x)) (bits .u64 .and x (wrap .u64 (0-x))) (wrap .u64 ((bits .u64 .and x (wrap .u64 (0-x)))*(285870213051353865:Int))) (z0h .u64 (wrap .u64 ((bits .u64 .and x (wrap .u64 (0-x)))*(285870213051353865:Int))) (58:Int))):=by kernel_rfl
theorem d0F(x a b c i:Int):h0h b0P b3N ((b3N.map fun o=>(Md.x,o)).drop 6) (Γ174b x a b c i) (fun Γ=>c3H .ret Γ)=(l0z b1R i).bind fun h=>some (wrap .i64 h):=by kernel_rfl
theorem d0G(x:Int):h0h b0P b3N (b3N.map fun o=>(Md.x,o)) (Γ174 x) (fun Γ=>c3H .ret Γ)=(l0z b1R (z0h .u64 (wrap .u64 ((bits .u64 .and x (wrap .u64 (0-x)))*(285870213051353865:Int))) (58:Int))).bind fun h=>some (wrap .i64 h):=by
 rw[←List.take_append_drop 6 (b3N.map fun o=>(Md.x,o)),b9c,d0E,d0F]
theorem d1r(x:Int):c0m b0P c1P a9S 1 (ini [.v (.int .u64)] x) c3H=a1C x:=by
 rw[c8m,b7L rfl,d0B];simp only[];rw[b7L rfl,d0C];simp only[];rw[b7L rfl,c3G];simp only[c0m];rw[d0D];exact congrArg (fun z=>bif x==(0:Int)then some (64:Int)else z) (d0G x)
theorem d2d(x):z0c b0P c1P Tryz.f174 a1d.ps a1d.rs x=a1d.F x:=(d0A x).trans (d1r x)
def a5h(s:Z32):Option Z72:= cond (decide (s.2.2.2.1<s.2.2.1)) ((l0z s.2.1 s.2.2.2.1).bind fun x1=> some (.inl (bits .i64 .or s.1 x1,s.2.1,s.2.2.1,wrap .i64 (s.2.2.2.1+1),()))) (some (.inr (s.1,())))
def a3G(x:(List Int)):Option Int:= (x0r a5h (0,x,(x.length:Int),0,())).bind fun w2=> cond (w2.1==0) (some 0) ((a1C (wrap .u64 w2.1)).bind fun y3=> some (v0a y3 30))
def b0Q:FSem:=⟨[.v QL],[.v QI],a3G⟩
def H92:Hints:=⟨[(58,[.sv 3 QI,.sv 6 QL,.sv 7 QI,.sv 8 QI],[(.exit 0,[.sv 3 QI])])],[],[]⟩
def a5i(s:Z35):Option (Z35 ⊕ Z18):= cond (decide ((wrap .i64 (s.1+1))<(s.2.2.2.1.length:Int))) (cond ((decide (0≤(wrap .i64 (s.1+1))))&&(decide ((wrap .i64 (s.1+1))<(s.2.2.2.1.length:Int)))) (cond ((decide (0≤s.1))&&(decide (s.1<(s.2.2.2.1.length:Int)))) (cond ((decide (0≤s.1))&&(decide (s.1<(s.2.2.2.1.length:Int)))) (some (.inl (wrap .i64 (s.1+1),s.2.1,s.2.2.1,a05 s.2.2.2.1 (a00 s.1) (wrap .i64 ((a02 s.2.2.2.1 (a00 (wrap .i64 (s.1+1))) 0)-(a02 s.2.2.2.1 (a00 s.1) 0))),()))) none) none) none) (some (.inr (s.2.1,s.2.2.1,s.2.2.2.1,())))
def a7E(s:Z18):Option (Z18 ⊕ ((List Int)×Unit)):= cond (decide (s.2.1<s.1)) ((x0r a5i (0,s.1,s.2.1,s.2.2.1,())).bind fun w3=> cond ((decide (0≤(wrap .i64 ((w3.2.2.1.length:Int)-1))))&&(decide ((wrap .i64 ((w3.2.2.1.length:Int)-1))≤(w3.2.2.1.length:Int)))) (cond (decide ((a00 (wrap .i64 ((w3.2.2.1.length:Int)-1)))≤(a01 w3.2.2.1))) (some (.inl (w3.1,wrap .i64 (w3.2.1+1),a06 (a00 (wrap .i64 ((w3.2.2.1.length:Int)-1))) w3.2.2.1,()))) none) none) (some (.inr (s.2.2.1,())))
def a4D(x:((List Int)×Int)):Option ((List Int)×Int):= (show Option Z20 from cond (decide (x.2<0)) (some (x.1,x.2,true,())) (cond (decide (x.2 > 4)) (some (x.1,x.2,true,())) (some (x.1,x.2,decide ((x.1.length:Int)<x.2),())))).bind fun z1=> cond z1.2.2.1 (some ([],1)) ((a2l z1.1).bind fun y2=> cond (!y2) (some ([],6)) (cond (lim (a01 z1.1)) ((x0r a7E (z1.2.1,0,z1.1,())).bind fun w4=> (a2l w4.1).bind fun y5=> cond (!y5) (some ([],6)) (some (w4.1,0))) none))
def b3O:FSem:=⟨[.v QL,.v QI],[.o QI,.v QI],a4D⟩
def d5O:Hints:=⟨[(250,[.sv 25 QI,.sv 26 QI,.own 6 6 QI],[(.exit 0,[.own 6 6 QI])]),(64098,[.sv 7 QI,.sv 25 QI,.sv 26 QI,.own 6 6 QI],[(.exit 2,[.sv 25 QI,.sv 26 QI,.own 6 6 QI])])],[(6,[(.normal,[.sv 0 QL,.sv 1 QI,.sv 19 .bool])])],[(11,[.q,.v,.q,.v,.v,.q,.q,.q,.v,.q,.q,.v,.x,.x])]⟩
def a4E(s:Z75):Option (Z75 ⊕ Z51):= cond (decide (s.2.2.2.1<(s.1.length:Int))) ((l0z s.1 s.2.2.2.1).bind fun x4=> cond ((decide (0≤s.2.2.2.1))&&(decide (s.2.2.2.1≤(s.1.length:Int)))) ((a4w (a06 (a00 s.2.2.2.1) s.1,s.2.1,s.2.2.1)).bind fun y5=> (a4W (wrap .i64 (x4-y5))).bind fun y6=> cond (!y6) (some (.inr (Sum.inr ((6,[],()))))) (cond (lim ((a01 s.2.2.2.2.1)+1)) (some (.inl (s.1,s.2.1,s.2.2.1,wrap .i64 (s.2.2.2.1+1),a04 s.2.2.2.2.1 [wrap .i64 (x4-y5)],()))) none)) none) (some (.inr (Sum.inl (s.2.2.2.2.1,()))))
def a6Z(x:Z11):Option ((List Int)×Int):= (show Option Z52 from(a4v (x.2.1,x.2.2)).bind fun y1=> cond (!y1) (some (x.1,x.2.1,x.2.2,true,())) (some (x.1,x.2.1,x.2.2,decide ((x.1.length:Int)<(x.2.1.length:Int)),()))).bind fun z2=> cond z2.2.2.2.1 (some ([],1)) ((a2s z2.1).bind fun y3=> cond (!y3) (some ([],6)) (cond ((decide (0≤(wrap .i64 ((z2.1.length:Int)-(z2.2.1.length:Int)))))&&(lim (a00 (wrap .i64 ((z2.1.length:Int)-(z2.2.1.length:Int)))))) ((x0r a4E (z2.1,z2.2.1,z2.2.2.1,(z2.2.1.length:Int),[],())).bind fun w7=> match w7 with |.inl a8=>some (a8.1,0) |.inr b9=>some (b9.2.1,b9.1)) none))
def b7d:FSem:=⟨[.v QL,.v QL,.v QI],[.o QI,.v QI],a6Z⟩
def d5P:Hints:=⟨[(250,[.sv 0 QL,.sv 1 QL,.sv 2 QI,.sv 9 QI,.own 8 8 QI],[(.exit 0,[.own 8 8 QI]),(.ret,[.sv 7 QI,.own 6 6 QI])])],[(6,[(.normal,[.sv 0 QL,.sv 1 QL,.sv 2 QI,.sv 21 .bool])])],[(9,[.v,.v,.v,.v,.v,.v,.v,.v,.v,.v,.x,.x])]⟩
def a6c(s:((List Int)×Z87)):Option (((List Int)×Z87) ⊕ Z51):= cond (decide (s.2.2.2.2.1<s.2.2.2.1)) ((l0z s.2.2.1 s.2.2.2.2.1).bind fun x3=> (a4o (s.1,s.2.2.2.2.1,s.2.1,s.2.2.2.2.2.2.1)).bind fun y4=> (a7k (wrap .i64 (x3-y4))).bind fun y5=> cond (!y5) (some (.inr (Sum.inr ((6,[],()))))) (cond (lim ((a01 s.2.2.2.2.2.1)+1)) (some (.inl (s.1,s.2.1,s.2.2.1,s.2.2.2.1,wrap .i64 (s.2.2.2.2.1+1),a04 s.2.2.2.2.2.1 [wrap .i64 (x3-y4)],s.2.2.2.2.2.2.1,()))) none)) (some (.inr (Sum.inl (s.2.2.2.2.2.1,()))))
def a9f(x:Z12):Option ((List Int)×Int):= (a8r (x.2.1,x.2.2)).bind fun y1=> cond (!y1) (some ([],1)) ((a4n x.1).bind fun y2=> cond (!y2) (some ([],6)) (cond ((decide (0≤(x.1.length:Int)))&&(lim (a00 (x.1.length:Int)))) ((x0r a6c (x.1,x.2.1,x.1,(x.1.length:Int),0,[],x.2.2,())).bind fun w6=> match w6 with |.inl a7=>some (a7.1,0) |.inr b8=>some (b8.2.1,b8.1)) none))
def a9g:FSem:=⟨[.v QL,.v QI,.v (.arr 3 QI)],[.o QI,.v QI],a9f⟩
def d5Q:Hints:=⟨[(250,[.sv 0 QL,.sv 1 QI,.sv 22 QL,.sv 23 QI,.sv 24 QI,.own 8 8 QI,.vp 5 (.arr 3 QI)],[(.exit 0,[.own 8 8 QI]),(.ret,[.sv 7 QI,.own 6 6 QI])])],[],[]⟩
def a5j(s:(Z4×Int×Int×Z92)):Option ((Z4×Int×Int×Z92) ⊕ ((Z4×Z18) ⊕ Z5)):= cond (decide (s.2.2.2.2.1<s.2.2.2.1)) (cond ((decide (0≤s.2.2.2.2.1))&&(decide (s.2.2.2.2.1<(s.2.2.2.2.2.1.length:Int)))) ((a1U s.2.2.2.2.2.2.1).bind fun y6=> (a6b (wrap .i64 ((a02 s.2.2.2.2.2.1 (a00 s.2.2.2.2.1) 0)-y6.1))).bind fun y7=> cond (!y7) (some (.inr (Sum.inr ((6,[],()))))) ((a2Z (y6.2,a02 s.2.2.2.2.2.1 (a00 s.2.2.2.2.1) 0)).bind fun y8=> cond ((decide (0≤s.2.2.2.2.1))&&(decide (s.2.2.2.2.1<(s.2.2.2.2.2.1.length:Int)))) (some (.inl (s.1,s.2.1,s.2.2.1,s.2.2.2.1,wrap .i64 (s.2.2.2.2.1+1),a05 s.2.2.2.2.2.1 (a00 s.2.2.2.2.1) (wrap .i64 ((a02 s.2.2.2.2.2.1 (a00 s.2.2.2.2.1) 0)-y6.1)),y8,()))) none)) none) (some (.inr (Sum.inl (s.1,s.2.1,s.2.2.1,s.2.2.2.2.2.1,()))))
def a5k(s:(Z4×Z18)):Option ((Z4×Z18) ⊕ Z51):= cond (decide (s.2.2.1<s.2.1)) ((l0z s.1 s.2.2.1).bind fun x4=> (a8Z x4).bind fun y5=> cond (y5.2 != 0) (some (.inr (Sum.inr ((y5.2,[],()))))) ((x0r a5j (s.1,s.2.1,s.2.2.1,(s.2.2.2.1.length:Int),0,s.2.2.2.1,y5.1,())).bind fun w9=> match w9 with |.inl a10=>some (.inl (a10.1,a10.2.1,wrap .i64 (a10.2.2.1+1),a10.2.2.2.1,())) |.inr b11=>some (.inr (Sum.inr ((b11.1,b11.2.1,())))))) (some (.inr (Sum.inl (s.2.2.2.1,()))))
def b0R(x:((List Int)×Z4)):Option ((List Int)×Int):= (a7j x.2).bind fun y1=> cond (!y1) (some ([],1)) ((a5c x.1).bind fun y2=> cond (!y2) (some ([],6)) ((a1b x.1).bind fun y3=> (x0r a5k (x.2,(x.2.length:Int),0,y3,())).bind fun w12=> match w12 with |.inl a13=>some (a13.1,0) |.inr b14=>some (b14.2.1,b14.1)))
def b7M:FSem:=⟨[.v QL,.v (.list false Q4)],[.o QI,.v QI],b0R⟩
def d5R:Hints:=⟨[(250,[.sv 22 (.list false Q4),.sv 23 QI,.sv 24 QI,.own 6 6 QI],[(.exit 0,[.own 6 6 QI]),(.ret,[.sv 5 QI,.own 4 4 QI])]),(256414,[.sv 22 (.list false Q4),.sv 23 QI,.sv 24 QI,.sv 37 QI,.sv 38 QI,.own 6 6 QI,.box 1030 Q13,.ptr 9 1030 [],.ref 36 6 []],[(.exit 2,[.sv 22 (.list false Q4),.sv 23 QI,.sv 24 QI,.own 6 6 QI]),(.ret,[.sv 5 QI,.own 4 4 QI])])],[],[]⟩
def b2e(x:(a1E×(List Int))):Option (Int×a1E):= (show Option ((List Int)×((List Int)×(Int×b7x)))from cond (x.1.1==2) ((a4D (x.2,x.1.2.2.1)).bind fun y1=> some (x.2,y1.1,y1.2,x.1,())) (cond (x.1.1==3) ((a6Z (x.2,x.1.2.2.2.2.2.1,x.1.2.2.2.1)).bind fun y2=> some (x.2,y2.1,y2.2,x.1,())) (cond (x.1.1==4) ((a9f (x.2,x.1.2.2.2.2.1,x.1.2.2.2.2.2.2.1)).bind fun y3=> cond (y3.2==0) ((a6Z (y3.1,x.1.2.2.2.2.2.1,x.1.2.2.2.1)).bind fun y4=> some (y3.1,y4.1,y4.2,x.1,())) (some (y3.1,[],y3.2,x.1,()))) (cond (x.1.1==5) ((b0R (x.2,x.1.2.2.2.2.2.2.2.1)).bind fun y5=> some (x.2,y5.1,y5.2,x.1,())) (some (x.2,[],0,x.1,())))))).bind fun z6=> cond (z6.2.2.1 != 0) (some (z6.2.2.1,z6.2.2.2.1)) ((a7X (z6.2.2.2.1,(z6.1.length:Int))).bind fun y7=> cond ((decide (0≤y7))&&(decide (y7≤(z6.1.length:Int)))) ((a1b (a06 (a00 y7) z6.1)).bind fun y8=> some (0,z6.2.2.2.1.1,z6.2.2.2.1.2.1,z6.2.2.2.1.2.2.1,z6.2.2.2.1.2.2.2.1,z6.2.2.2.1.2.2.2.2.1,z6.2.2.2.1.2.2.2.2.2.1,z6.2.2.2.1.2.2.2.2.2.2.1,z6.2.2.2.1.2.2.2.2.2.2.2.1,y8,z6.2.2.2.1.2.2.2.2.2.2.2.2.2.1,z6.2.1,z6.2.2.2.1.2.2.2.2.2.2.2.2.2.2.2)) none)
def b9d:FSem:=⟨[.r false (.b Q39),.v QL],[.v QI],b2e⟩
def d5S:Hints:=⟨[],[(15,[(.normal,[.sv 1 QL,.sv 5 QL,.sv 6 QI,.box pinned Q39,.ptr 0 pinned []])])],[(7,[.v,.p,.p,.q,.q,.p,.p,.q,.q,.x,.x,.q,.q,.q,.x]),(9,[.v,.p,.p,.q,.q,.p,.p,.q,.q,.x,.x,.q,.q,.q,.x]),(11,[.q,.p,.p,.q,.q,.p,.p,.q,.q,.x,.x,.q,.q,.q,.x])]⟩
def a8D(s:Z34):Option (Z34 ⊕ (Int×Unit)):= cond (decide (s.2.2.2.1≤25)) ((a3m (s.2.2.2.1,s.1)).bind fun y2=> cond (decide (y2<s.2.2.1)) (some (.inl (s.1,s.2.2.2.1,y2,wrap .i64 (s.2.2.2.1+1),()))) (some (.inl (s.1,s.2.1,s.2.2.1,wrap .i64 (s.2.2.2.1+1),())))) (some (.inr (s.2.1,())))
def b2f(x:(List Int)):Option Int:= (a3m (0,x)).bind fun y1=> (x0r a8D (x,0,y1,1,())).bind fun w3=> some w3.1
def b9e:FSem:=⟨[.v QL],[.v QI],b2f⟩
def d5T:Hints:=⟨[(58,[.sv 0 QL,.sv 3 QI,.sv 4 QI,.sv 5 QI],[(.exit 0,[.sv 3 QI])])],[],[]⟩
def a8E(x:(List Int)):Option Int:= (b2f x).bind fun y1=> (a5E x).bind fun y2=> (a3m (y1,x)).bind fun y3=> cond (decide (y2<y3)) (some 31) (some y1)
def b5C:FSem:=⟨[.v QL],[.v QI],a8E⟩
def d5U:Hints:=⟨[],[],[]⟩
def a7F(s:(Int×(Int×(Int×((List Int)×(Int×(Int×((List Int)×(Int×(Int×((List Int)×Z99))))))))))):Option ((Int×(Int×(Int×((List Int)×(Int×(Int×((List Int)×(Int×(Int×((List Int)×Z99)))))))))) ⊕ (Int×(Int×(Int×((List Int)×(Int×Int×Z99)))))):= cond (decide (s.2.2.2.2.2.2.2.2.1<s.2.2.2.2.2.2.2.1)) (cond ((decide (0≤s.2.2.2.2.2.2.2.2.1))&&(decide (s.2.2.2.2.2.2.2.2.1<(s.2.2.2.2.2.2.2.2.2.1.length:Int)))) (cond ((decide (0≤(a02 s.2.2.2.2.2.2.2.2.2.1 (a00 s.2.2.2.2.2.2.2.2.1) 0)))&&(decide ((a02 s.2.2.2.2.2.2.2.2.2.1 (a00 s.2.2.2.2.2.2.2.2.1) 0)≤(s.2.2.2.2.2.2.1.length:Int)))) ((a8E (a06 (a00 (a02 s.2.2.2.2.2.2.2.2.2.1 (a00 s.2.2.2.2.2.2.2.2.1) 0)) s.2.2.2.2.2.2.1)).bind fun y3=> cond (lim ((a01 s.2.2.2.2.2.2.2.2.2.2.2.2.1.2.1)+1)) (cond ((decide (0≤(a02 s.2.2.2.2.2.2.2.2.2.1 (a00 s.2.2.2.2.2.2.2.2.1) 0)))&&(decide ((a02 s.2.2.2.2.2.2.2.2.2.1 (a00 s.2.2.2.2.2.2.2.2.1) 0)≤(s.2.2.2.2.2.2.1.length:Int)))) (some (.inl (s.1,s.2.1,s.2.2.1,s.2.2.2.1,s.2.2.2.2.1,s.2.2.2.2.2.1,a23 (a00 (a02 s.2.2.2.2.2.2.2.2.2.1 (a00 s.2.2.2.2.2.2.2.2.1) 0)) (a06 (a01 s.2.2.2.2.2.2.1) s.2.2.2.2.2.2.1),s.2.2.2.2.2.2.2.1,wrap .i64 (s.2.2.2.2.2.2.2.2.1+1),s.2.2.2.2.2.2.2.2.2.1,s.2.2.2.2.2.2.2.2.2.2.1,s.2.2.2.2.2.2.2.2.2.2.2.1,(s.2.2.2.2.2.2.2.2.2.2.2.2.1.1,a04 s.2.2.2.2.2.2.2.2.2.2.2.2.1.2.1 [y3],s.2.2.2.2.2.2.2.2.2.2.2.2.1.2.2),()))) none) none) none) none) (some (.inr (s.1,s.2.1,s.2.2.1,s.2.2.2.1,s.2.2.2.2.1,s.2.2.2.2.2.1,s.2.2.2.2.2.2.2.2.2.2.1,s.2.2.2.2.2.2.2.2.2.2.2.1,s.2.2.2.2.2.2.2.2.2.2.2.2.1,())))
def a3H(s:(Int×(Int×(Int×((List Int)×(Int×Int×Z86)))))):Option ((Int×(Int×(Int×((List Int)×(Int×Int×Z86))))) ⊕ Z86):= cond (decide (s.2.2.2.2.2.1≤(v0a (u0z s.2.2.1 0) 8))) ((a3P (s.2.2.2.2.2.1,s.1,s.2.1)).bind fun y2=> cond ((y2.length:Int)==0) (some (.inl (s.1,s.2.1,s.2.2.1,s.2.2.2.1,s.2.2.2.2.1,wrap .i64 (s.2.2.2.2.2.1+1),s.2.2.2.2.2.2.1,s.2.2.2.2.2.2.2.1,()))) ((x0r a7F (s.1,s.2.1,s.2.2.1,s.2.2.2.1,s.2.2.2.2.1,s.2.2.2.2.2.1,s.2.2.2.1,(y2.length:Int),0,y2,s.2.2.2.2.2.2.1,s.2.2.2.2.2.2.2.1,(s.2.2.2.2.2.1,[],()),())).bind fun w4=> (a4A (w4.2.2.2.2.2.2.2.2.1,w4.1,w4.2.1,w4.2.2.2.1)).bind fun y5=> (show Option (Int×(Int×(Int×((List Int)×(Int×Int×Int×Bool×Z99)))))from cond (w4.2.2.2.2.1==0) (some (w4.1,w4.2.1,w4.2.2.1,w4.2.2.2.1,w4.2.2.2.2.1,w4.2.2.2.2.2.1,y5,true,w4.2.2.2.2.2.2.1,w4.2.2.2.2.2.2.2.1,w4.2.2.2.2.2.2.2.2.1,())) (some (w4.1,w4.2.1,w4.2.2.1,w4.2.2.2.1,w4.2.2.2.2.1,w4.2.2.2.2.2.1,y5,decide (y5<w4.2.2.2.2.1),w4.2.2.2.2.2.2.1,w4.2.2.2.2.2.2.2.1,w4.2.2.2.2.2.2.2.2.1,()))).bind fun z6=> cond z6.2.2.2.2.2.2.2.1 (some (.inl (z6.1,z6.2.1,z6.2.2.1,z6.2.2.2.1,z6.2.2.2.2.2.2.1,wrap .i64 (z6.2.2.2.2.2.1+1),z6.2.2.2.2.2.2.2.2.1,z6.2.2.2.2.2.2.2.2.2.2.1,()))) (some (.inl (z6.1,z6.2.1,z6.2.2.1,z6.2.2.2.1,z6.2.2.2.2.1,wrap .i64 (z6.2.2.2.2.2.1+1),z6.2.2.2.2.2.2.2.2.1,z6.2.2.2.2.2.2.2.2.2.1,()))))) (some (.inr (s.2.2.2.2.2.2.1,s.2.2.2.2.2.2.2.1,())))
def b0S(x:(Int×Z1)):Option (Z5×Int):= (a6W (x.1,x.2.1,x.2.2.2)).bind fun y1=> cond (!y1) (some ((0,[],()),1)) ((x0r a3H (x.1,x.2.1,x.2.2.1,x.2.2.2,0,0,(0,[],()),(0,[],()),())).bind fun w7=> some (w7.2.1,0))
def b7N:FSem:=⟨[.v QI,.v QI,.v QI,.v QL],[.v Q8,.v QI],b0S⟩
def d5V:Hints:=⟨[(250,[.sv 0 QI,.sv 1 QI,.sv 2 QI,.sv 3 QL,.sv 11 QI,.sv 12 QI,.box 8 Q8,.box 10 Q8,.ptr 8 8 [],.ptr 10 10 []],[(.exit 0,[.box 8 Q8,.box 10 Q8,.ptr 8 8 [],.ptr 10 10 []])]),(512634,[.sv 0 QI,.sv 1 QI,.sv 2 QI,.sv 3 QL,.sv 11 QI,.sv 12 QI,.sv 15 QL,.sv 43 QI,.sv 44 QI,.own 42 13 QI,.box 8 Q8,.box 10 Q8,.box 14 Q7,.ptr 8 8 [],.ptr 10 10 [],.ptr 14 14 []],[(.exit 2,[.sv 0 QI,.sv 1 QI,.sv 2 QI,.sv 3 QL,.sv 11 QI,.sv 12 QI,.box 8 Q8,.box 10 Q8,.box 14 Q7,.ptr 8 8 [],.ptr 10 10 [],.ptr 14 14 []])])],[(256319,[(.normal,[.sv 0 QI,.sv 1 QI,.sv 2 QI,.sv 3 QL,.sv 11 QI,.sv 12 QI,.sv 18 QI,.sv 72 .bool,.box 8 Q8,.box 10 Q8,.box 14 Q8,.ptr 8 8 [],.ptr 10 10 [],.ptr 14 14 []])])],[(15,[.q,.q,.v,.v,.v,.v,.q,.x,.x,.x])]⟩
def a4Z(s:((List Int)×((List Int)×c5V))):Option (((List Int)×((List Int)×c5V)) ⊕ (((List Int)×b4Z) ⊕ (Int×b7x))):= cond (decide (s.2.2.2.1<s.2.2.1)) ((l0z s.2.1 s.2.2.2.1).bind fun x5=> (l0z s.1 0).bind fun x6=> cond (x5 != x6) (some (.inr (Sum.inr ((7,(0,0,0,0,0,[],a03 3 0,[],[],(0,[],()),[],()),()))))) (some (.inl (s.1,s.2.1,s.2.2.1,wrap .i64 (s.2.2.2.1+1),s.2.2.2.2.1,s.2.2.2.2.2.1,())))) (some (.inr (Sum.inl (s.1,s.2.2.2.2.1,s.2.2.2.2.2.1,()))))
def b3r(x:(Int×((List Int)×a1E))):Option a9K:= (show Option (Int×((List Int)×(Int×Bool×b4Z)))from cond (decide ((x.2.1.length:Int)<1)) (some (x.1,x.2.1,(x.2.1.length:Int),true,(0,0,0,0,0,[],a03 3 0,[],[],(0,[],()),[],()),x.2.2,())) (cond (decide ((x.2.1.length:Int) > 4096)) (some (x.1,x.2.1,(x.2.1.length:Int),true,(0,0,0,0,0,[],a03 3 0,[],[],(0,[],()),[],()),x.2.2,())) ((b2y (x.1,x.2.2,(x.2.1.length:Int))).bind fun y1=> some (x.1,x.2.1,(x.2.1.length:Int),!y1,(0,0,0,0,0,[],a03 3 0,[],[],(0,[],()),[],()),x.2.2,())))).bind fun z2=> cond z2.2.2.2.1 (some ((0,0,0,0,0,[],a03 3 0,[],[],(0,[],()),[],()),1)) ((a1S z2.2.1).bind fun y3=> cond (!y3) (some ((0,0,0,0,0,[],a03 3 0,[],[],(0,[],()),[],()),6)) ((a6a (z2.1,z2.2.2.2.2.2.1)).bind fun y4=> cond (z2.1==0) ((x0r a4Z (z2.2.1,z2.2.1,(z2.2.1.length:Int),0,z2.2.2.2.2.1,y4,())).bind fun w7=> match w7 with |.inl a8=>((l0z a8.1 0).bind fun x10=> some ((a8.2.2.1.1,a8.2.2.1.2.1,a8.2.2.1.2.2.1,a8.2.2.1.2.2.2.1,a8.2.2.1.2.2.2.2.1,a8.2.2.1.2.2.2.2.2.1,a8.2.2.1.2.2.2.2.2.2.1,a8.2.2.1.2.2.2.2.2.2.2.1,[x10],a8.2.2.1.2.2.2.2.2.2.2.2.2),0)) |.inr b9=>some (b9.2.1,b9.1)) ((a3G z2.2.1).bind fun y11=> (a6Y (z2.2.1,y11)).bind fun y12=> cond (y12.2 != 0) (some ((0,0,0,0,0,[],a03 3 0,[],[],(0,[],()),[],()),6)) (cond (z2.1==1) (some ((y4.1,y11,y4.2.2.1,y4.2.2.2.1,y4.2.2.2.2.1,y4.2.2.2.2.2.1,y4.2.2.2.2.2.2.1,y4.2.2.2.2.2.2.2.1,y12.1,y4.2.2.2.2.2.2.2.2.2),0)) ((b2e ((y4.1,y11,y4.2.2),y12.1)).bind fun y13=> cond (y13.1 != 0) (some ((0,0,0,0,0,[],a03 3 0,[],[],(0,[],()),[],()),6)) ((b0S (z2.2.2.1,(y13.2.2.2.2.2.2.2.2.2.1.length:Int),6,y13.2.2.2.2.2.2.2.2.2.2.2.1)).bind fun y14=> cond (y14.2 != 0) (some ((0,0,0,0,0,[],a03 3 0,[],[],(0,[],()),[],()),6)) (some ((y13.2.1,y13.2.2.1,y13.2.2.2.1,y13.2.2.2.2.1,y13.2.2.2.2.2.1,y13.2.2.2.2.2.2.1,y13.2.2.2.2.2.2.2.1,y13.2.2.2.2.2.2.2.2.1,y13.2.2.2.2.2.2.2.2.2.1,y14.1,y13.2.2.2.2.2.2.2.2.2.2.2),0))))))))
def c0E:FSem:=⟨[.v QI,.v QL,.v Q39],[.v Q39,.v QI],b3r⟩
def H86:Hints:=⟨[(4050,[.sv 1 QL,.sv 39 QL,.sv 40 QI,.sv 41 QI,.box 6 Q39,.box 9 Q39,.ptr 6 6 [],.ptr 9 9 []],[(.exit 0,[.sv 1 QL,.box 6 Q39,.box 9 Q39,.ptr 6 6 [],.ptr 9 9 []]),(.ret,[.sv 7 QI,.box 6 Q39,.ptr 6 6 []])])],[(14,[(.normal,[.sv 0 QI,.sv 1 QL,.sv 8 QI,.sv 28 .bool,.box 6 Q39,.vp 5 Q39,.ptr 6 6 []])])],[]⟩
def a8S(x:Z6):Option Z19:= some (x.2.1,x)
def b3f:FSem:=⟨[.r false (.b Q6)],[.v QI],a8S⟩
def d5W:Hints:=⟨[],[],[]⟩
def a5l(x:a9K):Option Int:= (a9R (([],0,()),x.1,x.2)).bind fun y1=> cond (y1.1 != 0) (some 0) ((a8S y1.2).bind fun y2=> some y2.1)
def c0F:FSem:=⟨[.v Q39,.v QI],[.v QI],a5l⟩
def H89:Hints:=⟨[],[],[]⟩
def a4F(s:Z53):Option (Z53 ⊕ (Int×Unit)):= cond (decide (s.2.2.2.2.1<s.2.2.2.1)) ((l0z s.2.2.1 s.2.2.2.2.1).bind fun x1=> cond (decide ((wrap .i64 (s.2.2.2.2.1+s.1))≥4)) (some (.inl (s.1,wrap .i64 (s.2.1+(u0z x1 (wrap .i64 (0-x1)))),s.2.2.1,s.2.2.2.1,wrap .i64 (s.2.2.2.2.1+1),()))) (some (.inl (s.1,s.2.1,s.2.2.1,s.2.2.2.1,wrap .i64 (s.2.2.2.2.1+1),())))) (some (.inr (s.2.1,())))
def a9z(x:((List Int)×Int)):Option Int:= (x0r a4F (x.2,0,x.1,(x.1.length:Int),0,())).bind fun w2=> some w2.1
def b7e:FSem:=⟨[.v QL,.v QI],[.v QI],a9z⟩
def d5X:Hints:=⟨[(58,[.sv 1 QI,.sv 5 QI,.sv 8 QL,.sv 9 QI,.sv 10 QI],[(.exit 0,[.sv 5 QI])])],[],[]⟩
def a2E(s:Z34):Option (Z34 ⊕ (Int×Unit)):= cond (decide (s.2.2.2.1≤4)) ((a4D (s.1,s.2.2.2.1)).bind fun y1=> cond (y1.2 != 0) (some (.inl (s.1,s.2.1,s.2.2.1,wrap .i64 (s.2.2.2.1+1),()))) ((a9z (y1.1,s.2.2.2.1)).bind fun y2=> (show Option ((List Int)×(Int×Z27))from cond (decide (s.2.2.1<0)) (some (s.1,s.2.1,s.2.2.1,s.2.2.2.1,y2,true,())) (some (s.1,s.2.1,s.2.2.1,s.2.2.2.1,y2,decide (y2<s.2.2.1),()))).bind fun z3=> cond z3.2.2.2.2.2.1 (some (.inl (z3.1,z3.2.2.2.1,z3.2.2.2.2.1,wrap .i64 (z3.2.2.2.1+1),()))) (some (.inl (z3.1,z3.2.1,z3.2.2.1,wrap .i64 (z3.2.2.2.1+1),()))))) (some (.inr (s.2.1,())))
def a6d(x:(List Int)):Option Int:= (x0r a2E (x,0,(-1),0,())).bind fun w4=> some w4.1
def b7O:FSem:=⟨[.v QL],[.v QI],a6d⟩
def d5Y:Hints:=⟨[(58,[.sv 0 QL,.sv 3 QI,.sv 4 QI,.sv 5 QI],[(.exit 0,[.sv 3 QI])])],[(7463,[(.normal,[.sv 0 QL,.sv 3 QI,.sv 4 QI,.sv 5 QI,.sv 8 QI,.sv 30 .bool])])],[]⟩
def a2v(x:Int):Option Int:= some (v0a (u0z x (-1048576)) 1048575)
def b1B:FSem:=⟨[.v QI],[.v QI],a2v⟩
def d5Z:Hints:=⟨[],[],[]⟩
def a3t(s:Z78):Option (Z78 ⊕ Z65):= cond (decide (s.2.1<0)) none ((a2v (z0h .i64 s.2.2.1 s.2.1)).bind fun y2=> cond (decide (s.2.1<0)) none (cond (y2 != (z0h .i64 s.2.2.1 s.2.1)) (some (.inl (s.1,wrap .i64 (s.2.1+1),s.2.2.1,s.2.2.2.1,s.2.2.2.2.1,s.2.2.2.2.2.1,()))) (some (.inr (s.1,s.2.1,s.2.2.2.1,s.2.2.2.2.1,s.2.2.2.2.2.1,())))))
def a5m(s:Z65):Option (Z65 ⊕ Z6):= cond (decide (s.2.2.2.2.1<s.2.2.2.1)) ((l0z s.2.2.1 s.2.2.2.2.1).bind fun x1=> (x0r a3t (s.1,s.2.1,x1,s.2.2.1,s.2.2.2.1,s.2.2.2.2.1,())).bind fun w3=> some (.inl (w3.1,w3.2.1,w3.2.2.1,w3.2.2.2.1,wrap .i64 (w3.2.2.2.2.1+1),()))) (some (.inr (s.1,s.2.1,())))
def a5n(s:Z63):Option (Z63 ⊕ ((List Int)×Unit)):= cond (decide (s.2.2.2.1<s.2.2.1)) ((l0z s.2.1 s.2.2.2.1).bind fun x5=> cond (decide (s.1<0)) none (cond ((decide (0≤s.2.2.2.1))&&(decide (s.2.2.2.1<(s.2.2.2.2.1.length:Int)))) (some (.inl (s.1,s.2.1,s.2.2.1,wrap .i64 (s.2.2.2.1+1),a05 s.2.2.2.2.1 (a00 s.2.2.2.1) (z0h .i64 x5 s.1),()))) none)) (some (.inr (s.2.2.2.2.1,())))
def a7G(x:(List Int)):Option (List Int):= (x0r a5m (x,0,x,(x.length:Int),0,())).bind fun w4=> cond ((decide (0≤(w4.1.length:Int)))&&((decide ((w4.1.length:Int)≤(w4.1.length:Int)))&&(lim (a00 (w4.1.length:Int))))) ((x0r a5n (w4.2.1,w4.1,(w4.1.length:Int),0,a03 (a00 (w4.1.length:Int)) 0,())).bind fun w6=> some w6.1) none
def b4z:FSem:=⟨[.v QL],[.o QI],a7G⟩
def d6a:Hints:=⟨[(58,[.sv 0 QL,.sv 3 QI,.sv 9 QL,.sv 10 QI,.sv 11 QI],[(.exit 0,[.sv 0 QL,.sv 3 QI])]),(250,[.sv 3 QI,.sv 29 QL,.sv 30 QI,.sv 31 QI,.own 6 6 QI],[(.exit 4,[.own 6 6 QI])]),(7474,[.sv 0 QL,.sv 3 QI,.sv 5 QI,.sv 9 QL,.sv 10 QI,.sv 11 QI],[(.exit 2,[.sv 0 QL,.sv 3 QI,.sv 9 QL,.sv 10 QI,.sv 11 QI])])],[],[(5,[.v,.v,.v,.v,.v,.v,.v,.x])]⟩
def a3p(s:Z66):Option (Z66 ⊕ (Int×Int×Unit)):= cond (decide (s.2.2.2.2.1<(s.1.length:Int))) ((l0z s.1 s.2.2.2.2.1).bind fun x1=> (l0z s.2.1 (wrap .i64 (s.2.2.2.2.1-1))).bind fun x2=> (l0z s.1 s.2.2.2.2.1).bind fun x3=> (l0z s.1 s.2.2.2.2.1).bind fun x4=> (l0z s.2.1 (wrap .i64 (s.2.2.2.2.1-1))).bind fun x5=> (l0z s.2.1 (wrap .i64 (s.2.2.2.2.1-1))).bind fun x6=> some (.inl (s.1,s.2.1,wrap .i64 (s.2.2.1+(wrap .i64 (x1*x2))),wrap .i64 (s.2.2.2.1+(wrap .i64 ((wrap .i64 (x3*x4))+(wrap .i64 (x5*x6))))),wrap .i64 (s.2.2.2.2.1+1),()))) (some (.inr (s.2.2.1,s.2.2.2.1,())))
def a3q(s:(Int×Int×Unit)):Option ((Int×Int×Unit) ⊕ (Int×Int×Unit)):= cond (decide (s.2.1≥1099511627776)) (some (.inl (z0h .i64 s.1 1,z0h .i64 s.2.1 1,()))) (some (.inr (s.1,s.2.1,())))
def a4P(x:Z11):Option Int:= (x0r a3p (x.1,x.2.1,0,0,x.2.2,())).bind fun w7=> (x0r a3q (w7.1,w7.2.1,())).bind fun w8=> cond (w8.2.1==0) (some 0) (cond (w8.2.1==0) none ((show Option (Int×Unit)from cond (w8.2.1==0) none (cond (decide ((a27 (z0g .i64 w8.1 15) w8.2.1)<0)) (some (wrap .i64 ((wrap .i64 (a07 (z0g .i64 w8.1 15) w8.2.1))-1),())) (some (wrap .i64 (a07 (z0g .i64 w8.1 15) w8.2.1),())))).bind fun z9=> some (v0a (u0z z9.1 (-16383)) 16383)))
def b1v:FSem:=⟨[.v QL,.v QL,.v QI],[.v QI],a4P⟩
def d6b:Hints:=⟨[(58,[.sv 0 QL,.sv 1 QL,.sv 7 QI,.sv 8 QI,.sv 9 QI],[(.exit 0,[.sv 7 QI,.sv 8 QI])]),(60,[.sv 7 QI,.sv 8 QI],[(.exit 2,[.sv 7 QI,.sv 8 QI])])],[(255,[(.normal,[.sv 10 QI])])],[(5,[.v,.v,.v,.v,.v,.v,.v,.v,.v,.v,.v,.x,.x]),(6,[.v,.v,.v,.v,.v,.v,.v,.v,.v,.v,.v,.v,.v,.v,.v,.v,.v,.v,.v,.v,.v,.v,.x,.x])]⟩
def a3b(s:(Int×Int×Z76)):Option ((Int×Int×Z76) ⊕ Z76):= cond (decide (s.2.2.2.1≥s.2.1)) (cond ((decide (0≤s.2.2.2.1))&&(decide (s.2.2.2.1<(s.2.2.2.2.1.length:Int)))) (cond ((decide (0≤(wrap .i64 (s.2.2.2.1-1))))&&(decide ((wrap .i64 (s.2.2.2.1-1))<(s.2.2.2.2.2.1.length:Int)))) ((a2v (wrap .i64 ((a02 s.2.2.2.2.1 (a00 s.2.2.2.1) 0)-(z0h .i64 (wrap .i64 (s.2.2.1*(a02 s.2.2.2.2.2.1 (a00 (wrap .i64 (s.2.2.2.1-1))) 0))) 14)))).bind fun y6=> cond ((decide (0≤s.2.2.2.1))&&(decide (s.2.2.2.1<(s.2.2.2.2.1.length:Int)))) ((a2v (wrap .i64 ((a02 s.2.2.2.2.2.1 (a00 (wrap .i64 (s.2.2.2.1-1))) 0)-(z0h .i64 (wrap .i64 (s.2.2.1*(a02 s.2.2.2.2.1 (a00 s.2.2.2.1) 0))) 14)))).bind fun y7=> cond ((decide (0≤s.2.2.2.1))&&(decide (s.2.2.2.1<(s.2.2.2.2.2.1.length:Int)))) (some (.inl (s.1,s.2.1,s.2.2.1,wrap .i64 (s.2.2.2.1-1),a05 s.2.2.2.2.1 (a00 s.2.2.2.1) y6,a05 s.2.2.2.2.2.1 (a00 s.2.2.2.1) y7,s.2.2.2.2.2.2.1,()))) none) none) none) none) (some (.inr (s.1,s.2.1,s.2.2.2.2.1,s.2.2.2.2.2.1,s.2.2.2.2.2.2.1,())))
def a3c(s:Z76):Option (Z76 ⊕ ((List Int)×Unit)):= cond (decide (s.2.1≤s.1)) ((a4P (s.2.2.1,s.2.2.2.1,s.2.1)).bind fun y5=> cond (lim ((a01 s.2.2.2.2.1)+1)) ((x0r a3b (s.1,s.2.1,y5,wrap .i64 ((s.2.2.1.length:Int)-1),s.2.2.1,s.2.2.2.1,a04 s.2.2.2.2.1 [y5],())).bind fun w8=> some (.inl (w8.1,wrap .i64 (w8.2.1+1),w8.2.2.1,w8.2.2.2.1,w8.2.2.2.2.1,()))) none) (some (.inr (s.2.2.2.2.1,())))
def a6x(x:((List Int)×Int)):Option ((List Int)×Int):= (show Option Z20 from cond (decide (x.2<1)) (some (x.1,x.2,true,())) (cond (decide (x.2 > 32)) (some (x.1,x.2,true,())) (some (x.1,x.2,decide ((x.1.length:Int) > 4096),())))).bind fun z1=> cond z1.2.2.1 (some ([],1)) ((a2s z1.1).bind fun y2=> cond (!y2) (some ([],6)) ((a7G z1.1).bind fun y3=> (a1b y3).bind fun y4=> cond ((decide (0≤z1.2.1))&&(lim (a00 z1.2.1))) ((x0r a3c (z1.2.1,1,y3,y4,[],())).bind fun w9=> some (w9.1,0)) none))
def b3P:FSem:=⟨[.v QL,.v QI],[.o QI,.v QI],a6x⟩
def d6c:Hints:=⟨[(1018,[.sv 1 QI,.sv 9 QI,.own 6 6 QI,.own 7 7 QI,.own 8 8 QI],[(.exit 0,[.own 8 8 QI])]),(260686,[.sv 1 QI,.sv 9 QI,.sv 10 QI,.sv 11 QI,.own 6 6 QI,.own 7 7 QI,.own 8 8 QI],[(.exit 2,[.sv 1 QI,.sv 9 QI,.own 6 6 QI,.own 7 7 QI,.own 8 8 QI])])],[(6,[(.normal,[.sv 0 QL,.sv 1 QI,.sv 24 .bool])])],[(16,[.q,.v,.q,.q,.q,.v,.v,.q,.q,.v,.x])]⟩
def a2b(s:Z48):Option (Z48 ⊕ (((List Int)×Unit) ⊕ Z6)):= cond (decide (s.2.2.2.1<s.2.2.1)) ((l0z s.2.1 s.2.2.2.1).bind fun x2=> (show Option ((List Int)×Z37)from cond (decide (x2<(-16383))) (some (s.1,s.2.1,s.2.2.1,s.2.2.2.1,true,())) (some (s.1,s.2.1,s.2.2.1,s.2.2.2.1,decide (x2 > 16383),()))).bind fun z3=> cond z3.2.2.2.2.1 (some (.inr (Sum.inr (([],1,()))))) (some (.inl (z3.1,z3.2.1,z3.2.2.1,wrap .i64 (z3.2.2.2.1+1),())))) (some (.inr (Sum.inl (s.1,()))))
def a3Y(s:((List Int)×(Int×(Int×((List Int)×Z81))))):Option (((List Int)×(Int×(Int×((List Int)×Z81)))) ⊕ Z63):= cond (decide (s.2.2.2.2.2.2.2.2.1<s.2.2.2.2.2.2.2.1)) ((l0z s.2.2.2.2.2.2.1 s.2.2.2.2.2.2.2.2.1).bind fun x8=> (l0z s.1 (wrap .i64 ((wrap .i64 (s.2.1-1))-s.2.2.2.2.2.2.2.2.1))).bind fun x9=> cond (lim ((a01 s.2.2.2.2.2.2.2.2.2.1)+1)) (some (.inl (s.1,s.2.1,s.2.2.1,s.2.2.2.1,s.2.2.2.2.1,s.2.2.2.2.2.1,s.2.2.2.2.2.2.1,s.2.2.2.2.2.2.2.1,wrap .i64 (s.2.2.2.2.2.2.2.2.1+1),a04 s.2.2.2.2.2.2.2.2.2.1 [wrap .i64 (x8-(z0h .i64 (wrap .i64 (s.2.2.1*x9)) 14))],()))) none) (some (.inr (s.2.2.1,s.2.2.2.1,s.2.2.2.2.1,s.2.2.2.2.2.1,s.2.2.2.2.2.2.2.2.2.1,())))
def a5O(s:Z48):Option (Z48 ⊕ ((List Int)×Unit)):= cond (decide (s.2.2.2.1<s.2.2.1)) ((l0z s.2.1 s.2.2.2.1).bind fun x7=> cond ((decide (0≤(wrap .i64 (s.2.2.2.1+1))))&&(lim (a00 (wrap .i64 (s.2.2.2.1+1))))) ((x0r a3Y (s.1,s.2.2.2.1,x7,s.2.1,s.2.2.1,s.2.2.2.1,s.1,(s.1.length:Int),0,[],())).bind fun w10=> cond (lim ((a01 w10.2.2.2.2.1)+1)) (some (.inl (a04 w10.2.2.2.2.1 [w10.1],w10.2.1,w10.2.2.1,wrap .i64 (w10.2.2.2.1+1),()))) none) none) (some (.inr (s.1,())))
def a8F(x:(List Int)):Option ((List Int)×Int):= (show Option ((List Int)×(Bool×Unit))from cond (decide ((x.length:Int)<1)) (some (x,true,())) (some (x,decide ((x.length:Int) > 32),()))).bind fun z1=> cond z1.2.1 (some ([],1)) ((x0r a2b (z1.1,z1.1,(z1.1.length:Int),0,())).bind fun w4=> match w4 with |.inl a5=>((x0r a5O ([],a5.1,(a5.1.length:Int),0,())).bind fun w11=> some (w11.1,0)) |.inr b6=>some (b6.1,b6.2.1))
def b5D:FSem:=⟨[.v QL],[.v QL,.v QI],a8F⟩
def d6d:Hints:=⟨[(58,[.sv 0 QL,.sv 20 QL,.sv 21 QI,.sv 22 QI],[(.exit 0,[.sv 0 QL]),(.ret,[.sv 2 QL,.sv 3 QI])]),(250,[.sv 6 QL,.sv 34 QL,.sv 35 QI,.sv 36 QI],[(.exit 2,[.sv 6 QL])]),(256410,[.sv 6 QL,.sv 7 QI,.sv 8 QI,.sv 34 QL,.sv 35 QI,.sv 36 QI,.sv 44 QL,.sv 45 QI,.sv 46 QI,.own 9 9 QI],[(.exit 4,[.sv 8 QI,.sv 34 QL,.sv 35 QI,.sv 36 QI,.own 9 9 QI])])],[(6,[(.normal,[.sv 0 QL,.sv 19 .bool])]),(3737,[(.normal,[.sv 0 QL,.sv 20 QL,.sv 21 QI,.sv 22 QI,.sv 31 .bool])])],[]⟩
def a2c(s:Z65):Option (Z65 ⊕ (Z6 ⊕ Z18)):= cond (decide (s.2.2.2.2.1<s.2.2.2.1)) ((l0z s.2.2.1 s.2.2.2.2.1).bind fun x2=> (show Option ((List Int)×(Int×Z37))from cond (decide (x2<(-35184372088832))) (some (s.1,s.2.1,s.2.2.1,s.2.2.2.1,s.2.2.2.2.1,true,())) (some (s.1,s.2.1,s.2.2.1,s.2.2.2.1,s.2.2.2.2.1,decide (x2 > 35184372088832),()))).bind fun z3=> cond z3.2.2.2.2.2.1 (some (.inr (Sum.inr ((0,1,[],()))))) (some (.inl (z3.1,z3.2.1,z3.2.2.1,z3.2.2.2.1,wrap .i64 (z3.2.2.2.2.1+1),())))) (some (.inr (Sum.inl (s.1,s.2.1,()))))
def a2d(s:((List Int)×(Int×Z81))):Option (((List Int)×(Int×Z81)) ⊕ Z45):= cond (decide (s.2.2.2.2.2.2.1<s.2.2.2.2.2.1)) ((l0z s.2.2.2.2.1 s.2.2.2.2.2.2.1).bind fun x8=> cond (decide (s.2.2.1<0)) none ((a3R (z0h .i64 (wrap .i64 (x8+s.2.2.2.1)) s.2.2.1,s.2.1)).bind fun y9=> cond (!y9) (some (.inr (s.1,s.2.1,s.2.2.1,s.2.2.2.2.2.2.2.1,()))) (cond (lim ((a01 s.2.2.2.2.2.2.2.1)+1)) (some (.inl (s.1,s.2.1,s.2.2.1,s.2.2.2.1,s.2.2.2.2.1,s.2.2.2.2.2.1,wrap .i64 (s.2.2.2.2.2.2.1+1),a04 s.2.2.2.2.2.2.2.1 [z0h .i64 (wrap .i64 (x8+s.2.2.2.1)) s.2.2.1],()))) none))) (some (.inr (s.1,s.2.1,s.2.2.1,s.2.2.2.2.2.2.2.1,())))
def a2e(s:Z17):Option (Z17 ⊕ (Unit ⊕ Z18)):= cond (decide (s.2.2.1≤14)) ((show Option Z34 from cond (decide (s.2.2.1 > 0)) (cond (decide ((wrap .i64 (s.2.2.1-1))<0)) none (some (s.1,s.2.1,s.2.2.1,z0g .i64 1 (wrap .i64 (s.2.2.1-1)),()))) (some (s.1,s.2.1,s.2.2.1,0,()))).bind fun z7=> cond ((decide (0≤(z7.1.length:Int)))&&(lim (a00 (z7.1.length:Int)))) ((x0r a2d (z7.1,z7.2.1,z7.2.2.1,z7.2.2.2.1,z7.1,(z7.1.length:Int),0,[],())).bind fun w10=> cond ((w10.2.2.2.1.length:Int)==(w10.1.length:Int)) (some (.inr (Sum.inr ((wrap .i64 (14-w10.2.2.1),0,w10.2.2.2.1,()))))) (some (.inl (w10.1,w10.2.1,wrap .i64 (w10.2.2.1+1),())))) none) (some (.inr (Sum.inl ())))
def a8G(x:((List Int)×Int)):Option Z3:= (show Option Z20 from cond (decide ((x.1.length:Int)<1)) (some (x.1,x.2,true,())) (cond (decide ((x.1.length:Int) > 32)) (some (x.1,x.2,true,())) (cond (decide (x.2<2)) (some (x.1,x.2,true,())) (some (x.1,x.2,decide (x.2 > 16),()))))).bind fun z1=> cond z1.2.2.1 (some ([],0,1)) ((x0r a2c (z1.1,z1.2.1,z1.1,(z1.1.length:Int),0,())).bind fun w4=> match w4 with |.inl a5=>((x0r a2e (a5.1,a5.2.1,0,())).bind fun w11=> match w11 with |.inl a12=>some ([],0,6) |.inr b13=>some (b13.2.2.1,b13.1,b13.2.1)) |.inr b6=>some (b6.2.2.1,b6.1,b6.2.1))
def b5E:FSem:=⟨[.v QL,.v QI],[.o QI,.v QI,.v QI],a8G⟩
def d6e:Hints:=⟨[(58,[.sv 0 QL,.sv 1 QI,.sv 31 QL,.sv 32 QI,.sv 33 QI],[(.exit 0,[.sv 0 QL,.sv 1 QI]),(.ret,[.sv 5 QI,.sv 6 QI,.own 4 4 QI])]),(122,[.sv 0 QL,.sv 1 QI,.sv 9 QI],[(.exit 2,[]),(.ret,[.sv 5 QI,.sv 6 QI,.own 4 11 QI])]),(125242,[.sv 0 QL,.sv 1 QI,.sv 9 QI,.sv 10 QI,.sv 56 QL,.sv 57 QI,.sv 58 QI,.own 11 11 QI],[(.exit 4,[.sv 0 QL,.sv 1 QI,.sv 9 QI,.own 11 11 QI])])],[(6,[(.normal,[.sv 0 QL,.sv 1 QI,.sv 30 .bool])]),(3737,[(.normal,[.sv 0 QL,.sv 1 QI,.sv 31 QL,.sv 32 QI,.sv 33 QI,.sv 42 .bool])]),(3913,[(.normal,[.sv 0 QL,.sv 1 QI,.sv 9 QI,.sv 10 QI])])],[]⟩
def a3T(x:Z3):Option Z3:= (a6x (x.1,x.2.1)).bind fun y1=> cond (y1.2 != 0) (some ([],0,y1.2)) ((a8F y1.1).bind fun y2=> cond (y2.2 != 0) (some ([],0,y2.2)) ((a8G (y2.1,x.2.2)).bind fun y3=> some (y3.1,y3.2.1,y3.2.2)))
def b2U:FSem:=⟨[.v QL,.v QI,.v QI],[.o QI,.v QI,.v QI],a3T⟩
def d6f:Hints:=⟨[],[],[]⟩
def c1R(s:((List Int)×(Int×Int×Z41))):Option (((List Int)×(Int×Int×Z41)) ⊕ ((List Int)×(Int×Z41))):= cond (decide (s.2.2.2.2.2.2.2.1<(s.1.length:Int))) ((l0z s.1 s.2.2.2.2.2.2.2.1).bind fun x3=> (l0z s.1 (wrap .i64 (s.2.2.2.2.2.2.2.1-s.2.2.2.2.2.1))).bind fun x4=> some (.inl (s.1,s.2.1,s.2.2.1,s.2.2.2.1,s.2.2.2.2.1,s.2.2.2.2.2.1,wrap .i64 (s.2.2.2.2.2.2.1+(u0z (wrap .i64 (x3-x4)) (wrap .i64 (0-(wrap .i64 (x3-x4)))))),wrap .i64 (s.2.2.2.2.2.2.2.1+1),()))) (some (.inr (s.1,s.2.1,s.2.2.1,s.2.2.2.1,s.2.2.2.2.1,s.2.2.2.2.2.1,s.2.2.2.2.2.2.1,())))
def c1S(s:((List Int)×Z41)):Option (((List Int)×Z41) ⊕ (Int×Unit)):= cond (decide (s.2.2.2.2.2.1≤s.2.2.1)) ((x0r c1R (s.1,s.2.1,s.2.2.1,s.2.2.2.1,s.2.2.2.2.1,s.2.2.2.2.2.1,0,s.2.2.1,())).bind fun w5=> (show Option ((List Int)×(Int×Int×Int×Z27))from cond (w5.2.2.2.2.2.1==w5.2.1) (some (w5.1,w5.2.1,w5.2.2.1,w5.2.2.2.1,w5.2.2.2.2.1,w5.2.2.2.2.2.1,w5.2.2.2.2.2.2.1,true,())) (some (w5.1,w5.2.1,w5.2.2.1,w5.2.2.2.1,w5.2.2.2.2.1,w5.2.2.2.2.2.1,w5.2.2.2.2.2.2.1,decide (w5.2.2.2.2.2.2.1<w5.2.2.2.2.1),()))).bind fun z6=> cond z6.2.2.2.2.2.2.2.1 (some (.inl (z6.1,z6.2.1,z6.2.2.1,z6.2.2.2.2.2.1,z6.2.2.2.2.2.2.1,wrap .i64 (z6.2.2.2.2.2.1+1),()))) (some (.inl (z6.1,z6.2.1,z6.2.2.1,z6.2.2.2.1,z6.2.2.2.2.1,wrap .i64 (z6.2.2.2.2.2.1+1),())))) (some (.inr (s.2.2.2.1,())))
def b2g(x:Z3):Option (Int×Int):= (show Option Z37 from cond (decide (x.2.1<2)) (some (x.1,x.2.1,x.2.2,true,())) (cond (decide (x.2.1 > x.2.2)) (some (x.1,x.2.1,x.2.2,true,())) (cond (decide (x.2.2 > 1024)) (some (x.1,x.2.1,x.2.2,true,())) (some (x.1,x.2.1,x.2.2,decide ((x.1.length:Int) > 4096),()))))).bind fun z1=> cond z1.2.2.2.1 (some (0,1)) (cond (decide ((z1.1.length:Int)≤z1.2.2.1)) (some (0,7)) ((a4n z1.1).bind fun y2=> cond (!y2) (some (0,6)) ((x0r c1S (z1.1,z1.2.1,z1.2.2.1,0,0,z1.2.1,())).bind fun w7=> some (w7.1,0))))
def b9f:FSem:=⟨[.v QL,.v QI,.v QI],[.v QI,.v QI],b2g⟩
def d6g:Hints:=⟨[(506,[.sv 0 QL,.sv 1 QI,.sv 2 QI,.sv 8 QI,.sv 9 QI,.sv 10 QI],[(.exit 0,[.sv 8 QI])]),(129610,[.sv 0 QL,.sv 1 QI,.sv 2 QI,.sv 8 QI,.sv 9 QI,.sv 10 QI,.sv 11 QI,.sv 12 QI],[(.exit 2,[.sv 0 QL,.sv 1 QI,.sv 2 QI,.sv 8 QI,.sv 9 QI,.sv 10 QI,.sv 11 QI])])],[(6,[(.normal,[.sv 0 QL,.sv 1 QI,.sv 2 QI,.sv 29 .bool])]),(32403,[(.normal,[.sv 0 QL,.sv 1 QI,.sv 2 QI,.sv 8 QI,.sv 9 QI,.sv 10 QI,.sv 11 QI,.sv 74 .bool])])],[(15,[.v,.v,.v,.v,.v,.v,.v,.v,.v,.v,.x,.x])]⟩
def d1s:Hints:=⟨[],[],[]⟩
def c3I(x:Unit):Option (List (List Int)):=z0c (a2q [] [] [0] []) d1s Tryz.f288 [] [.o (.arr 3 (.int .i64))] x
def b3Q:FSem:=⟨[],[.o (.arr 3 QI)],c3I⟩
def d1t:Hints:=⟨[(122,[.sv 0 QL,.sv 1 QI,.sv 7 QI,.sv 8 .bool,.sv 25 QI,.sv 26 QI,.own 24 1024 (.arr 3 QI),.box 4 (.arr 3 QI),.box 6 (.arr 3 QI),.ptr 4 4 [],.ptr 6 6 []],[(.exit 0,[.sv 8 .bool,.box 4 (.arr 3 QI),.box 6 (.arr 3 QI),.ptr 4 4 [],.ptr 6 6 []])]),(501370,[.sv 0 QL,.sv 1 QI,.sv 7 QI,.sv 8 .bool,.sv 13 QI,.sv 25 QI,.sv 26 QI,.sv 40 QI,.sv 41 QI,.own 24 1024 (.arr 3 QI),.own 39 11 QI,.box 4 (.arr 3 QI),.box 6 (.arr 3 QI),.box 10 (.arr 3 QI),.ptr 4 4 [],.ptr 6 6 [],.ptr 10 10 []],[(.exit 2,[.sv 0 QL,.sv 1 QI,.sv 7 QI,.sv 8 .bool,.sv 13 QI,.sv 25 QI,.sv 26 QI,.own 24 1024 (.arr 3 QI),.box 4 (.arr 3 QI),.box 6 (.arr 3 QI),.box 10 (.arr 3 QI),.ptr 4 4 [],.ptr 6 6 [],.ptr 10 10 []])])],[(6,[(.normal,[.sv 0 QL,.sv 1 QI,.sv 21 .bool,.box 4 (.arr 3 QI),.ptr 4 4 []])]),(125343,[(.normal,[.sv 0 QL,.sv 1 QI,.sv 7 QI,.sv 8 .bool,.sv 13 QI,.sv 25 QI,.sv 26 QI,.sv 58 .bool,.own 24 1024 (.arr 3 QI),.box 4 (.arr 3 QI),.box 6 (.arr 3 QI),.box 10 (.arr 3 QI),.ptr 4 4 [],.ptr 6 6 [],.ptr 10 10 []])])],[]⟩
def b9g(x:((List Int)×Int)):Option ((List Int)×Int):=z0c (a2q [(232,a9g),(288,b3Q)] [] [0,1,5,7,8,11,12,13,15] []) d1t Tryz.f241 [.v (.list false (.int .i64)),.v (.int .i64)] [.v (.arr 3 (.int .i64)),.v (.int .i64)] x
def b9h:FSem:=⟨[.v QL,.v QI],[.v (.arr 3 QI),.v QI],b9g⟩
def a3u(x:(List Int)):Option (a1E×Bool):= (b2g (x,16,256)).bind fun y1=> cond (y1.2 != 0) (some ((0,0,0,0,0,[],a03 3 0,[],[],(0,[],()),[],()),false)) ((b9g (x,y1.1)).bind fun y2=> cond (y2.2 != 0) (some ((0,0,0,0,0,[],a03 3 0,[],[],(0,[],()),[],()),false)) ((a9f (x,y1.1,y2.1)).bind fun y3=> cond (y3.2 != 0) (some ((0,0,0,0,0,[],a03 3 0,[],[],(0,[],()),[],()),false)) ((a3T (y3.1,4,12)).bind fun y4=> cond (y4.2.2 != 0) (some ((0,0,0,0,0,[],a03 3 0,[],[],(0,[],()),[],()),false)) (some ((4,0,0,y4.2.1,y1.1,y4.1,y2.1,[],[],(0,[],()),[],()),true)))))
def b7P:FSem:=⟨[.v QL],[.v Q39,.v .bool],a3u⟩
def d6h:Hints:=⟨[],[],[]⟩
def a0N(x:(Int×(Int×((List Int)×b2I)))):Option ((List Int)×b2I):= (a3T (x.2.2.1,x.1,x.2.1)).bind fun y1=> cond (y1.2.2==0) (cond (lim ((a01 x.2.2.2)+1)) (some (x.2.2.1,a04 x.2.2.2 ([(3,0,0,y1.2.1,0,y1.1,a03 3 0,[],[],(0,[],()),[],())]:List a1E))) none) (some (x.2.2.1,x.2.2.2))
def b2B:FSem:=⟨[.v QI,.v QI,.r false (.b QL),.r false (.b (.list true Q39))],[],a0N⟩
def d6i:Hints:=⟨[],[],[]⟩
def a2k(s:(Int×c5O)):Option ((Int×c5O) ⊕ c5O):= cond (decide (s.1<5)) (cond (lim ((a01 s.2.1)+1)) (some (.inl (wrap .i64 (s.1+1),a04 s.2.1 ([(2,0,s.1,0,0,[],a03 3 0,[],[],(0,[],()),[],())]:List a1E),s.2.2.1,()))) none) (some (.inr (s.2.1,s.2.2.1,())))
def a6y(x:((List Int)×Int)):Option b2I:= (a6d x.1).bind fun y1=> (show Option (Int×((List Int)×c8j))from cond (decide (x.2≥1)) ((a0N (4,12,x.1,([(0,0,0,0,0,[],a03 3 0,[],[],(0,[],()),[],()),(1,0,0,0,0,[],a03 3 0,[],[],(0,[],()),[],()),(2,0,y1,0,0,[],a03 3 0,[],[],(0,[],()),[],())]:List a1E))).bind fun y2=> (a0N (8,12,y2.1,y2.2)).bind fun y3=> some (x.2,y3.1,y3.2,())) (some (x.2,x.1,([(0,0,0,0,0,[],a03 3 0,[],[],(0,[],()),[],()),(1,0,0,0,0,[],a03 3 0,[],[],(0,[],()),[],()),(2,0,y1,0,0,[],a03 3 0,[],[],(0,[],()),[],())]:List a1E),()))).bind fun z4=> (show Option (Int×c5O)from cond (decide (z4.1≥2)) (cond (lim ((a01 z4.2.2.1)+1)) (cond (lim ((a01 (a04 z4.2.2.1 ([(5,0,0,0,0,[],a03 3 0,([(16,4,())]:List (Int×Int×Unit)),[],(0,[],()),[],())]:List a1E)))+1)) ((a3u z4.2.1).bind fun y5=> cond y5.2 (cond (lim ((a01 (a04 (a04 z4.2.2.1 ([(5,0,0,0,0,[],a03 3 0,([(16,4,())]:List (Int×Int×Unit)),[],(0,[],()),[],())]:List a1E)) ([(5,0,0,0,0,[],a03 3 0,([(32,3,()),(16,5,())]:List (Int×Int×Unit)),[],(0,[],()),[],())]:List a1E)))+1)) (some (z4.1,a04 (a04 (a04 z4.2.2.1 ([(5,0,0,0,0,[],a03 3 0,([(16,4,())]:List (Int×Int×Unit)),[],(0,[],()),[],())]:List a1E)) ([(5,0,0,0,0,[],a03 3 0,([(32,3,()),(16,5,())]:List (Int×Int×Unit)),[],(0,[],()),[],())]:List a1E)) ([y5.1]:List a1E),z4.2.1,())) none) (some (z4.1,a04 (a04 z4.2.2.1 ([(5,0,0,0,0,[],a03 3 0,([(16,4,())]:List (Int×Int×Unit)),[],(0,[],()),[],())]:List a1E)) ([(5,0,0,0,0,[],a03 3 0,([(32,3,()),(16,5,())]:List (Int×Int×Unit)),[],(0,[],()),[],())]:List a1E),z4.2.1,()))) none) none) (some (z4.1,z4.2.2.1,z4.2.1,()))).bind fun z6=> (show Option c8j from cond (decide (z6.1≥3)) ((x0r a2k (0,z6.2.1,z6.2.2.1,())).bind fun w7=> (a0N (1,12,w7.2.1,w7.1)).bind fun y8=> (a0N (2,12,y8.1,y8.2)).bind fun y9=> (a0N (12,14,y9.1,y9.2)).bind fun y10=> (a0N (16,14,y10.1,y10.2)).bind fun y11=> some (y11.2,())) (some (z6.2.1,()))).bind fun z12=> some z12.1
def b3R:FSem:=⟨[.v QL,.v QI],[.v (.list false Q39)],a6y⟩
def H93:Hints:=⟨[(4050,[.sv 50 QI,.box 5 (.list true Q39),.box 2 QL,.ptr 5 5 [],.clo 6 176 [2,5]],[(.exit 0,[.box 5 (.list true Q39),.box 2 QL,.ptr 5 5 [],.clo 6 176 [2,5]])])],[(15,[(.normal,[.sv 1 QI,.box 2 QL,.box 5 (.list true Q39),.ptr 2 2 [],.ptr 5 5 [],.clo 6 176 [2,5]])]),(31,[(.normal,[.sv 1 QI,.box 5 (.list true Q39),.box 2 QL,.ptr 5 5 [],.clo 6 176 [2,5]])]),(63,[(.normal,[.box 5 (.list true Q39),.ptr 5 5 []])])],[]⟩
def a7a(s:((List Int)×(Int×Bool×b2I×c5V))):Option (((List Int)×(Int×Bool×b2I×c5V)) ⊕ b4Z):= cond (decide (s.2.2.2.2.2.1<s.2.2.2.2.1)) ((l0z s.2.2.2.1 s.2.2.2.2.2.1).bind fun x6=> (b3r (x6.1,s.1,x6)).bind fun y7=> cond (y7.2 != 0) (some (.inl (s.1,s.2.1,s.2.2.1,s.2.2.2.1,s.2.2.2.2.1,wrap .i64 (s.2.2.2.2.2.1+1),s.2.2.2.2.2.2.1,s.2.2.2.2.2.2.2.1,()))) ((a5l (y7.1,(s.1.length:Int))).bind fun y8=> (show Option ((List Int)×(Int×Bool×Int×b2I×Int×Int×Bool×a1E×b4Z))from cond (!s.2.2.1) (some (s.1,s.2.1,s.2.2.1,y8,s.2.2.2.1,s.2.2.2.2.1,s.2.2.2.2.2.1,true,s.2.2.2.2.2.2.1,s.2.2.2.2.2.2.2.1,y7.1,())) (some (s.1,s.2.1,s.2.2.1,y8,s.2.2.2.1,s.2.2.2.2.1,s.2.2.2.2.2.1,decide (y8<s.2.1),s.2.2.2.2.2.2.1,s.2.2.2.2.2.2.2.1,y7.1,()))).bind fun z9=> cond z9.2.2.2.2.2.2.2.1 (some (.inl (z9.1,z9.2.2.2.1,true,z9.2.2.2.2.1,z9.2.2.2.2.2.1,wrap .i64 (z9.2.2.2.2.2.2.1+1),z9.2.2.2.2.2.2.2.2.1,z9.2.2.2.2.2.2.2.2.2.2.1,()))) (some (.inl (z9.1,z9.2.1,z9.2.2.1,z9.2.2.2.2.1,z9.2.2.2.2.2.1,wrap .i64 (z9.2.2.2.2.2.2.1+1),z9.2.2.2.2.2.2.2.2.1,z9.2.2.2.2.2.2.2.2.2.1,()))))) (some (.inr (s.2.2.2.2.2.2.1,s.2.2.2.2.2.2.2.1,())))
def a5o(x:((List Int)×Int)):Option a9K:= (show Option ((List Int)×c1M)from cond (decide ((x.1.length:Int)<1)) (some (x.1,x.2,true,(0,0,0,0,0,[],a03 3 0,[],[],(0,[],()),[],()),())) (cond (decide ((x.1.length:Int) > 4096)) (some (x.1,x.2,true,(0,0,0,0,0,[],a03 3 0,[],[],(0,[],()),[],()),())) (cond (decide (x.2<0)) (some (x.1,x.2,true,(0,0,0,0,0,[],a03 3 0,[],[],(0,[],()),[],()),())) (some (x.1,x.2,decide (x.2 > 3),(0,0,0,0,0,[],a03 3 0,[],[],(0,[],()),[],()),()))))).bind fun z1=> cond z1.2.2.1 (some ((0,0,0,0,0,[],a03 3 0,[],[],(0,[],()),[],()),1)) ((a1S z1.1).bind fun y2=> cond (!y2) (some ((0,0,0,0,0,[],a03 3 0,[],[],(0,[],()),[],()),6)) ((a3G z1.1).bind fun y3=> (a6Y (z1.1,y3)).bind fun y4=> cond (y4.2 != 0) (some ((0,0,0,0,0,[],a03 3 0,[],[],(0,[],()),[],()),y4.2)) ((a6y (y4.1,z1.2.1)).bind fun y5=> (x0r a7a (z1.1,0,false,y5,(y5.length:Int),0,z1.2.2.2.1,(0,0,0,0,0,[],a03 3 0,[],[],(0,[],()),[],()),())).bind fun w10=> some (w10.2.1,0))))
def c0G:FSem:=⟨[.v QL,.v QI],[.v Q39,.v QI],a5o⟩
def H40:Hints:=⟨[(2042,[.sv 0 QL,.sv 9 QI,.sv 10 .bool,.sv 50 (.list false Q39),.sv 51 QI,.sv 52 QI,.box 4 Q39,.box 8 Q39,.ptr 4 4 [],.ptr 8 8 []],[(.exit 0,[.box 4 Q39,.box 8 Q39,.ptr 4 4 [],.ptr 8 8 []])])],[(6,[(.normal,[.sv 0 QL,.sv 1 QI,.sv 31 .bool,.box 4 Q39,.ptr 4 4 []])]),(1045711,[(.normal,[.sv 0 QL,.sv 9 QI,.sv 10 .bool,.sv 15 QI,.sv 50 (.list false Q39),.sv 51 QI,.sv 52 QI,.sv 76 .bool,.box 4 Q39,.box 8 Q39,.box 13 Q39,.ptr 4 4 [],.ptr 8 8 [],.ptr 13 13 []])])],[]⟩
def a8d(s:(Z16×Z31)):Option ((Z16×Z31) ⊕ (Z2 ⊕ Z15)):= cond (decide (s.2.2.1<s.2.1)) ((l0z s.1 s.2.2.1).bind fun x5=> (a8a (s.2.2.2.1,x5,1)).bind fun y6=> cond (!y6.1) (some (.inr (Sum.inr ((([]:(List (List Int))),6,()))))) (some (.inl (s.1,s.2.1,wrap .i64 (s.2.2.1+1),y6.2,())))) (some (.inr (Sum.inl (s.2.2.2.1,()))))
def b2C(x:Z61):Option ((List (List Int))×Int):= (show Option ((List (List Int))×(Z16×Bool×Unit))from(a7l x.1).bind fun y1=> cond (!y1) (some (x.1,x.2,true,())) ((a8q (x.2,(x.1.length:Int))).bind fun y2=> some (x.1,x.2,!y2,()))).bind fun z3=> cond z3.2.2.1 (some (([]:(List (List Int))),1)) ((a6V z3.1).bind fun y4=> (x0r a8d (z3.2.1,(z3.2.1.length:Int),0,y4,())).bind fun w7=> match w7 with |.inl a8=>some (a8.1,0) |.inr b9=>some (b9.1,b9.2.1))
def b7Q:FSem:=⟨[.v (.list false QL),.v (.list false Q9)],[.v (.list false QL),.v QI],b2C⟩
def H79:Hints:=⟨[(122,[.sv 21 (.list false Q9),.sv 22 QI,.sv 23 QI,.own 6 6 (.list true QI)],[(.exit 0,[.own 6 6 (.list true QI)]),(.ret,[.sv 4 (.list false QL),.sv 5 QI])])],[(6,[(.normal,[.sv 0 (.list false QL),.sv 1 (.list false Q9),.sv 18 .bool])])],[]⟩
def a6z(s:(Int×((List Int)×Z49))):Option ((Int×((List Int)×Z49)) ⊕ Z49):= cond (decide (s.2.2.1<(s.2.1.length:Int))) ((l0z s.2.1 s.2.2.1).bind fun x3=> (l0z s.2.1 (wrap .i64 (s.2.2.1-1))).bind fun x4=> (l0z s.2.1 (wrap .i64 (s.2.2.1-2))).bind fun x5=> some (.inl (wrap .i64 (s.1+(u0z (wrap .i64 ((wrap .i64 (x3-(wrap .i64 (2*x4))))+x5)) (wrap .i64 (0-(wrap .i64 ((wrap .i64 (x3-(wrap .i64 (2*x4))))+x5)))))),s.2.1,wrap .i64 (s.2.2.1+1),s.2.2.2.1,s.2.2.2.2.1,s.2.2.2.2.2.1,()))) (some (.inr (s.1,s.2.2.2.1,s.2.2.2.2.1,s.2.2.2.2.2.1,())))
def a6A(s:Z49):Option (Z49 ⊕ (Int×Unit)):= cond (decide (s.2.2.2.1<s.2.2.1)) ((l0z s.2.1 s.2.2.2.1).bind fun x2=> (x0r a6z (s.1,x2,2,s.2.1,s.2.2.1,s.2.2.2.1,())).bind fun w6=> some (.inl (w6.1,w6.2.1,w6.2.2.1,wrap .i64 (w6.2.2.2.1+1),()))) (some (.inr (s.1,())))
def a7b(x:(List (List Int))):Option Int:= (a7l x).bind fun y1=> cond (!y1) (some 0) ((x0r a6A (0,x,(x.length:Int),0,())).bind fun w7=> some w7.1)
def b7f:FSem:=⟨[.v (.list false QL)],[.v QI],a7b⟩
def d6j:Hints:=⟨[(122,[.sv 3 QI,.sv 11 (.list false QL),.sv 12 QI,.sv 13 QI],[(.exit 0,[.sv 3 QI])]),(31334,[.sv 3 QI,.sv 5 QL,.sv 6 QI,.sv 11 (.list false QL),.sv 12 QI,.sv 13 QI],[(.exit 2,[.sv 3 QI,.sv 11 (.list false QL),.sv 12 QI,.sv 13 QI])])],[],[(10,[.v,.v,.v,.v,.v,.v,.v,.v,.v,.v,.v,.v,.v,.v,.v,.v,.x,.x])]⟩
def b0T(x:Int):Option Z16:= cond (x==1) (some ([(0,1,(-256),())]:List Z7)) (cond (x==2) (some ([(1,0,(-256),())]:List Z7)) (cond (x==3) (some ([(1,0,(-256),()),(0,1,128,())]:List Z7)) (cond (x==4) (some ([(1,0,(-106),()),(0,1,181,()),(1,0,(-106),())]:List Z7)) (some []))))
def b7R:FSem:=⟨[.v QI],[.o Q9],b0T⟩
def d6k:Hints:=⟨[],[],[]⟩
def a6e(s:((List (List Int))×Z7)):Option (((List (List Int))×Z7) ⊕ (Int×Unit)):= cond (decide (s.2.2.2.1<5)) ((b0T s.2.2.2.1).bind fun y2=> (b2C (s.1,y2)).bind fun y3=> cond (y3.2 != 0) (some (.inl (s.1,s.2.1,s.2.2.1,wrap .i64 (s.2.2.2.1+1),()))) ((a7b y3.1).bind fun y4=> cond (decide (y4<s.2.2.1)) (some (.inl (s.1,s.2.2.2.1,y4,wrap .i64 (s.2.2.2.1+1),()))) (some (.inl (s.1,s.2.1,s.2.2.1,wrap .i64 (s.2.2.2.1+1),()))))) (some (.inr (s.2.1,())))
def b2h(x:(List (List Int))):Option Z16:= (a7b x).bind fun y1=> (x0r a6e (x,0,y1,1,())).bind fun w5=> (b0T w5.1).bind fun y6=> some y6
def b9i:FSem:=⟨[.v (.list false QL)],[.o Q9],b2h⟩
def d6l:Hints:=⟨[(58,[.sv 0 (.list false QL),.sv 3 QI,.sv 4 QI,.sv 5 QI],[(.exit 0,[.sv 3 QI])])],[],[]⟩
def a6f(s:(Int×Int×Int×Z16×Z94)):Option ((Int×Int×Int×Z16×Z94) ⊕ (Int×Z94)):= cond (decide (s.2.2.1<s.2.1)) (cond ((decide (0≤s.2.2.1))&&(decide (s.2.2.1<(s.2.2.2.2.1.length:Int)))) (cond (lim ((a01 s.2.2.2.1)+1)) (some (.inl (s.1,s.2.1,wrap .i64 (s.2.2.1+1),a04 s.2.2.2.1 ([(wrap .i64 (((a02 s.2.2.2.2.1 (a00 s.2.2.1) (0,0,0,())).1)+s.1),wrap .i64 ((((a02 s.2.2.2.2.1 (a00 s.2.2.1) (0,0,0,())).2).1)+s.1),(((a02 s.2.2.2.2.1 (a00 s.2.2.1) (0,0,0,())).2).2).1,())]:List Z7),s.2.2.2.2.1,s.2.2.2.2.2.1,()))) none) none) (some (.inr (s.1,s.2.2.2.1,s.2.2.2.2.2.1,())))
def a8H(s:(Int×Z94)):Option ((Int×Z94) ⊕ (Z16×Unit)):= cond (decide ((wrap .i64 (s.1+1))<(s.2.2.1.2.1.length:Int))) (cond ((decide (0≤(wrap .i64 (s.1+2))))&&(decide ((wrap .i64 (s.1+2))≤(s.2.2.1.2.1.length:Int)))) (cond ((decide (0≤s.1))&&(decide (s.1≤((a00 (wrap .i64 (s.1+2)):Nat):Int)))) ((b2h (a23 (a00 s.1) (a06 (a00 (wrap .i64 (s.1+2))) s.2.2.1.2.1))).bind fun y2=> (x0r a6f (s.1,(y2.length:Int),0,s.2.1,y2,s.2.2.1,())).bind fun w3=> some (.inl (wrap .i64 (w3.1+2),w3.2.1,w3.2.2.1,()))) none) none) (some (.inr (s.2.1,())))
def a7q(x:Z14):Option Z16:= (a7m x).bind fun y1=> cond (!y1) (some []) ((x0r a8H (0,[],x,())).bind fun w4=> some w4.1)
def b9j:FSem:=⟨[.v Q11],[.o Q9],a7q⟩
def H78:Hints:=⟨[(122,[.sv 4 QI,.own 3 3 Q9,.vp 1 Q11],[(.exit 0,[.own 3 3 Q9])]),(7826,[.sv 4 QI,.sv 25 QI,.sv 26 QI,.own 3 3 Q9,.own 24 1024 Q9,.vp 1 Q11],[(.exit 2,[.sv 4 QI,.own 3 3 Q9,.vp 1 Q11])])],[],[]⟩
def a5p(s:(Int×((List (List Int))×(Int×Int×a5C×a7U)))):Option ((Int×((List (List Int))×(Int×Int×a5C×a7U))) ⊕ ((a5C×a7U) ⊕ (Int×a7U))):= cond (decide (s.2.2.2.1<s.2.2.1)) ((l0z s.2.1 s.2.2.2.1).bind fun x8=> (a5o (x8,s.1)).bind fun y9=> cond (y9.2 != 0) (some (.inr (Sum.inr ((y9.2,(0,0,(0,0,0,()),[],[],()),()))))) (cond (lim ((a01 s.2.2.2.2.2.1.2.2.2.2.1)+1)) (some (.inl (s.1,s.2.1,s.2.2.1,wrap .i64 (s.2.2.2.1+1),s.2.2.2.2.1,(s.2.2.2.2.2.1.1,s.2.2.2.2.2.1.2.1,s.2.2.2.2.2.1.2.2.1,s.2.2.2.2.2.1.2.2.2.1,a04 s.2.2.2.2.2.1.2.2.2.2.1 ([y9.1]:List a1E),s.2.2.2.2.2.1.2.2.2.2.2),()))) none)) (some (.inr (Sum.inl (s.2.2.2.2.1,s.2.2.2.2.2.1,()))))
def a8e(x:(Z14×Z7×Int×Int)):Option c5T:= (show Option (Int×Int×Bool×a5C×Z14×Z26)from(a7m x.1).bind fun y1=> cond (!y1) (some (x.2.2.1,x.2.2.2,true,(0,0,(0,0,0,()),[],[],()),x.1,x.2.1,())) ((a6Q x.2.1).bind fun y2=> cond (!y2) (some (x.2.2.1,x.2.2.2,true,(0,0,(0,0,0,()),[],[],()),x.1,x.2.1,())) (cond (x.1.1 != x.2.1.2.2.1) (some (x.2.2.1,x.2.2.2,true,(0,0,(0,0,0,()),[],[],()),x.1,x.2.1,())) (cond ((x.1.2.1.length:Int) != x.2.1.2.1) (some (x.2.2.1,x.2.2.2,true,(0,0,(0,0,0,()),[],[],()),x.1,x.2.1,())) (cond (decide (x.2.2.2<0)) (some (x.2.2.1,x.2.2.2,true,(0,0,(0,0,0,()),[],[],()),x.1,x.2.1,())) (cond (decide (x.2.2.2 > 3)) (some (x.2.2.1,x.2.2.2,true,(0,0,(0,0,0,()),[],[],()),x.1,x.2.1,())) (some (x.2.2.1,x.2.2.2,decide (x.2.2.1<0),(0,0,(0,0,0,()),[],[],()),x.1,x.2.1,())))))))).bind fun z3=> cond z3.2.2.1 (some ((0,0,(0,0,0,()),[],[],()),1)) ((a5D z3.2.2.2.2.1).bind fun y4=> cond (decide (z3.1 > (wrap .i64 (4194304-y4)))) (some ((0,0,(0,0,0,()),[],[],()),4)) ((show Option (Int×a5C×a5C×Z33)from cond (decide (z3.2.1 > 0)) ((a7q z3.2.2.2.2.1).bind fun y5=> some (z3.2.1,z3.2.2.2.1,(z3.1,y4,z3.2.2.2.2.2.1,y5,[],()),z3.2.2.2.2.1,())) (some (z3.2.1,z3.2.2.2.1,(z3.1,y4,z3.2.2.2.2.2.1,[],[],()),z3.2.2.2.2.1,()))).bind fun z6=> (b2C (z6.2.2.2.1.2.1,z6.2.2.1.2.2.2.1)).bind fun y7=> cond (y7.2 != 0) (some ((0,0,(0,0,0,()),[],[],()),y7.2)) ((x0r a5p (z6.1,y7.1,(y7.1.length:Int),0,z6.2.1,z6.2.2.1,())).bind fun w10=> match w10 with |.inl a11=>some (a11.2.1,0) |.inr b12=>some (b12.2.1,b12.1))))
def b7S:FSem:=⟨[.v Q11,.v Q9,.v QI,.v QI],[.v Q57,.v QI],a8e⟩
def H30:Hints:=⟨[(2042,[.sv 3 QI,.sv 81 (.list false QL),.sv 82 QI,.sv 83 QI,.box 8 Q57,.box 10 Q56,.ptr 8 8 [],.ptr 10 10 []],[(.exit 0,[.box 8 Q57,.box 10 Q56,.ptr 8 8 [],.ptr 10 10 []]),(.ret,[.sv 9 QI,.box 8 Q57,.ptr 8 8 []])])],[(6,[(.normal,[.sv 2 QI,.sv 3 QI,.sv 51 .bool,.box 8 Q57,.vp 4 Q11,.vp 5 Q9,.ptr 8 8 []])]),(31,[(.normal,[.sv 3 QI,.box 8 Q57,.box 10 Q56,.vp 4 Q11,.ptr 8 8 [],.ptr 10 10 []])])],[(3,[.v,.v,.v,.v,.v,.q,.x])]⟩
def H43:Hints:=⟨[(26,[.sv 0 (.list false (.int .u8)),.sv 5 QI],[(.exit 0,[]),(.ret,[.sv 4 QI])])],[],[]⟩
def b7T(x:((List Int)×Int)):Option Int:=z0c (a2q [(24,b0N)] [] [0,1,4,5,7,8] []) H43 Tryz.f43 [.v (.list false (.int .u8)),.v (.int .i64)] [.v (.int .i64)] x
def b7U:FSem:=⟨[.v (.list false (.int .u8)),.v QI],[.v QI],b7T⟩
def b5l(x:Unit):Option Bool:= (a8e ((8,([[3,3],[3,3]]:List (List Int)),()),(8000,2,8,()),5,0)).bind fun y1=> (a5F y1.1).bind fun y2=> (b7I y2.1).bind fun y3=> (a4Y y3.1).bind fun y4=> (b7J y2.1).bind fun y5=> cond (y1.2==0) (cond (y2.2==0) (cond (y3.2.2==0) (cond (y4.2==0) (cond (y5.2.2.2==0) (cond (y3.2.1==(y2.1.length:Int)) ((b4x (y1.1,y3.1)).bind fun y6=> cond y6 ((a5g ((8,([[3,3],[3,3]]:List (List Int)),()),y4.1)).bind fun y7=> cond y7 (cond (eqT Q9 y5.1 ((8000: Int),(2: Int),(8: Int),())) (cond (y5.2.1==5) (cond (y5.2.2.1==2) (cond (lim (2+(a01 y2.1))) ((b7T (a04 [1,245] y2.1,0)).bind fun y8=> cond (y8==2) (cond (decide ((y2.1.length:Int) > 2)) ((l0z y2.1 0).bind fun x9=> cond (x9==245) ((l0z y2.1 1).bind fun x10=> some (x10==75)) (some false)) (some false)) (some false)) none) (some false)) (some false)) (some false)) (some false)) (some false)) (some false)) (some false)) (some false)) (some false)) (some false)) (some false)
def b9k:FSem:=⟨[],[.v .bool],b5l⟩
def H15:Hints:=⟨[],[],[]⟩
def b2i(x:a9K):Option Bool:= cond (decide ((x.1.2.2.2.2.2.1.length:Int)≤40)) (cond (decide ((x.1.2.2.2.2.2.2.2.1.length:Int)≤6)) (cond (decide ((x.1.2.2.2.2.2.2.2.2.1.length:Int)≤x.2)) (cond (decide ((x.1.2.2.2.2.2.2.2.2.2.2.1.length:Int)≤x.2)) (some (decide ((x.1.2.2.2.2.2.2.2.2.2.1.2.1.length:Int)≤300))) (some false)) (some false)) (some false)) (some false)
def b9l:FSem:=⟨[.v Q39,.v QI],[.v .bool],b2i⟩
def H33:Hints:=⟨[],[],[]⟩
def a1G(s:(Int×Int×a7U)):Option ((Int×Int×a7U) ⊕ (a7U ⊕ (Bool×Unit))):= cond (decide (s.2.1<(s.2.2.1.2.2.2.2.1.length:Int))) (cond (decide (s.2.1<10)) ((show Option (Int×Int×Int×Bool×Bool×a7U)from(l0z s.2.2.1.2.2.2.2.1 s.2.1).bind fun x1=> (b2i (x1,s.1)).bind fun y2=> cond (!y2) (some (s.1,s.2.1,s.2.1,decide (s.2.1<10),true,s.2.2.1,())) ((l0z s.2.2.1.2.2.2.2.1 s.2.1).bind fun x3=> cond (x3.1==0) (cond (decide (s.2.2.1.2.1 > 400)) (some (s.1,s.2.1,s.2.1,decide (s.2.1<10),decide (s.2.2.1.2.1≤4096),s.2.2.1,())) (some (s.1,s.2.1,s.2.1,decide (s.2.1<10),false,s.2.2.1,()))) (some (s.1,s.2.1,s.2.1,decide (s.2.1<10),false,s.2.2.1,())))).bind fun z4=> cond z4.2.2.2.2.1 (some (.inr (Sum.inr ((false,()))))) (some (.inl (z4.1,wrap .i64 (z4.2.1+1),z4.2.2.2.2.2.1,())))) (some (.inr (Sum.inl (s.2.2.1,()))))) (some (.inr (Sum.inl (s.2.2.1,()))))
def b2j(x:c5T):Option Bool:= (x0r a1G (x.2,0,x.1,())).bind fun w5=> match w5 with |.inl a6=>(cond (decide ((a6.1.2.2.2.2.1.length:Int)≤10)) (some (decide ((a6.1.2.2.2.1.length:Int)≤20))) (some false)) |.inr b7=>some b7.1
def b9m:FSem:=⟨[.v Q57,.v QI],[.v .bool],b2j⟩
def H16:Hints:=⟨[(26,[.sv 1 QI,.sv 5 QI,.vp 2 Q57],[(.exit 0,[.vp 2 Q57]),(.ret,[.sv 4 .bool])])],[(420,[(.normal,[.sv 1 QI,.sv 5 QI,.sv 12 QI,.sv 13 .bool,.sv 43 .bool,.vp 2 Q57])])],[]⟩
def a6g(s:Z15):Option (Z15 ⊕ Z0):= cond (decide (s.2.1<(s.1.length:Int))) ((l0z s.1 s.2.1).bind fun x2=> (l0z s.1 0).bind fun x3=> cond ((x2.length:Int) != (x3.length:Int)) (some (.inr (Sum.inr ((false,()))))) (some (.inl (s.1,wrap .i64 (s.2.1+1),())))) (some (.inr (Sum.inl ())))
def a9h(x:(List (List Int))):Option Bool:= (show Option ((List (List Int))×(Bool×Unit))from cond (decide ((x.length:Int)<1)) (some (x,true,())) (some (x,decide ((x.length:Int) > 8),()))).bind fun z1=> cond z1.2.1 (some false) ((x0r a6g (z1.1,0,())).bind fun w4=> match w4 with |.inl a5=>some true |.inr b6=>some b6.1)
def b5m:FSem:=⟨[.v (.list false QL)],[.v .bool],a9h⟩
def H84:Hints:=⟨[(58,[.sv 0 (.list false QL),.sv 3 QI],[(.exit 0,[]),(.ret,[.sv 2 .bool])])],[(6,[(.normal,[.sv 0 (.list false QL),.sv 11 .bool])])],[(6,[.v,.v,.v,.v,.v,.v,.v,.v,.v,.x])]⟩
def b9H(x:Int):Option Int:= (show Option (Int×Bool×Unit)from cond (decide (x<1)) (some (x,true,())) (some (x,decide (x > 31),()))).bind fun z1=> cond z1.2.1 (some 0) (cond (decide ((wrap .u64 (wrap .i64 (z1.1-1)))<0)) none (some (z0g .i64 (-1) (wrap .u64 (wrap .i64 (z1.1-1))))))
def c3J:FSem:=⟨[.v QI],[.v QI],b9H⟩
def d6m:Hints:=⟨[],[(6,[(.normal,[.sv 0 QI,.sv 8 .bool])])],[]⟩
def b7V(x:Int):Option Int:= (show Option (Int×Bool×Unit)from cond (decide (x<1)) (some (x,true,())) (some (x,decide (x > 31),()))).bind fun z1=> cond z1.2.1 (some 0) (cond (decide ((wrap .u64 (wrap .i64 (z1.1-1)))<0)) none (some (wrap .i64 ((z0g .i64 1 (wrap .u64 (wrap .i64 (z1.1-1))))-1))))
def c2u:FSem:=⟨[.v QI],[.v QI],b7V⟩
def d6n:Hints:=⟨[],[(6,[(.normal,[.sv 0 QI,.sv 8 .bool])])],[]⟩
def a9T(x:(Int×Int)):Option Bool:= cond (decide (x.2≥1)) (cond (decide (x.2≤31)) ((b9H x.2).bind fun y1=> cond (decide (x.1≥y1)) ((b7V x.2).bind fun y2=> some (decide (x.1≤y2))) (some false)) (some false)) (some false)
def b7W:FSem:=⟨[.v QI,.v QI],[.v .bool],a9T⟩
def H85:Hints:=⟨[],[],[]⟩
def a2Q(s:Z69):Option (Z69 ⊕ (Z55 ⊕ (Bool×Unit))):= (l0z s.2.2.1.2.1 s.1).bind fun x5=> cond (decide (s.2.1<(x5.length:Int))) ((l0z s.2.2.1.2.1 s.1).bind fun x6=> (l0z x6 s.2.1).bind fun x7=> (a9T (x7,s.2.2.1.1)).bind fun y8=> cond (!y8) (some (.inr (Sum.inr ((false,()))))) (some (.inl (s.1,wrap .i64 (s.2.1+1),s.2.2.1,())))) (some (.inr (Sum.inl (s.1,s.2.2.1,()))))
def a3Z(s:Z55):Option (Z55 ⊕ Z0):= cond (decide (s.1<(s.2.1.2.1.length:Int))) ((x0r a2Q (s.1,0,s.2.1,())).bind fun w9=> match w9 with |.inl a10=>some (.inl (wrap .i64 (a10.1+1),a10.2.1,())) |.inr b11=>some (.inr (Sum.inr ((b11.1,()))))) (some (.inr (Sum.inl ())))
def a8I(x:Z14):Option Bool:= (show Option Z58 from cond (decide (x.1<4)) (some (true,x,())) (cond (decide (x.1 > 24)) (some (true,x,())) ((a9h x.2.1).bind fun y1=> cond (!y1) (some (true,x,())) ((l0z x.2.1 0).bind fun x2=> cond (decide ((x2.length:Int)<1)) (some (true,x,())) ((l0z x.2.1 0).bind fun x3=> some (decide ((x3.length:Int) > 4096),x,())))))).bind fun z4=> cond z4.1 (some false) ((x0r a3Z (0,z4.2.1,())).bind fun w12=> match w12 with |.inl a13=>some true |.inr b14=>some b14.1)
def b5F:FSem:=⟨[.v Q11],[.v .bool],a8I⟩
def H32:Hints:=⟨[(58,[.sv 3 QI,.vp 1 Q11],[(.exit 0,[]),(.ret,[.sv 2 .bool])]),(3730,[.sv 3 QI,.sv 4 QI,.vp 1 Q11],[(.exit 2,[.sv 3 QI,.vp 1 Q11]),(.ret,[.sv 2 .bool])])],[(6,[(.normal,[.sv 34 .bool,.vp 1 Q11])])],[(9,[.v,.v,.v,.v,.v,.v,.v,.v,.v,.v,.x,.x])]⟩
def b2k(x:Z7):Option Bool:= cond (decide (x.1≥1)) (cond (decide (x.1≤1048576)) (cond (decide (x.2.1≥1)) (cond (decide (x.2.1≤8)) (cond (decide (x.2.2.1≥4)) (some (decide (x.2.2.1≤24))) (some false)) (some false)) (some false)) (some false)) (some false)
def b9n:FSem:=⟨[.v Q9],[.v .bool],b2k⟩
def H80:Hints:=⟨[],[],[]⟩
def a4G(s:Z71):Option (Z71 ⊕ Z0):= cond (decide (s.2.2.1<(s.1.length:Int))) ((l0z s.1 s.2.2.1).bind fun x2=> (show Option (Z16×Z10)from cond (decide (x2.1<0)) (some (s.1,s.2.1,s.2.2.1,true,())) (cond (decide (x2.1≥s.2.1)) (some (s.1,s.2.1,s.2.2.1,true,())) (cond (decide (x2.2.1<0)) (some (s.1,s.2.1,s.2.2.1,true,())) (cond (decide (x2.2.1≥s.2.1)) (some (s.1,s.2.1,s.2.2.1,true,())) (cond (x2.1==x2.2.1) (some (s.1,s.2.1,s.2.2.1,true,())) (cond (decide (x2.2.2.1<(-1024))) (some (s.1,s.2.1,s.2.2.1,true,())) (some (s.1,s.2.1,s.2.2.1,decide (x2.2.2.1 > 1024),())))))))).bind fun z3=> cond z3.2.2.2.1 (some (.inr (Sum.inr ((false,()))))) (some (.inl (z3.1,z3.2.1,wrap .i64 (z3.2.2.1+1),())))) (some (.inr (Sum.inl ())))
def a7c(x:(Z16×Int)):Option Bool:= (show Option (Z16×Int×Bool×Unit)from cond (decide (x.2<1)) (some (x.1,x.2,true,())) (cond (decide (x.2 > 8)) (some (x.1,x.2,true,())) (some (x.1,x.2,decide ((x.1.length:Int) > 16),())))).bind fun z1=> cond z1.2.2.1 (some false) ((x0r a4G (z1.1,z1.2.1,0,())).bind fun w4=> match w4 with |.inl a5=>some true |.inr b6=>some b6.1)
def b2V:FSem:=⟨[.v (.list false Q9),.v QI],[.v .bool],a7c⟩
def d6o:Hints:=⟨[(58,[.sv 0 (.list false Q9),.sv 1 QI,.sv 5 QI],[(.exit 0,[]),(.ret,[.sv 4 .bool])])],[(6,[(.normal,[.sv 0 (.list false Q9),.sv 1 QI,.sv 17 .bool])]),(1865,[(.normal,[.sv 0 (.list false Q9),.sv 1 QI,.sv 5 QI,.sv 64 .bool])])],[]⟩
def a9A(x:a5C):Option Bool:= (b2k x.2.2.1).bind fun y1=> cond y1 (cond (decide (x.2.1≥1)) (cond (decide (x.2.1≤4096)) (cond (decide (x.1≥0)) (cond (decide (x.1≤(wrap .i64 (4194304-x.2.1)))) ((a7c (x.2.2.2.1,x.2.2.1.2.1)).bind fun y2=> some y2) (some false)) (some false)) (some false)) (some false)) (some false)
def b7g:FSem:=⟨[.v Q57],[.v .bool],a9A⟩
def H48:Hints:=⟨[],[],[]⟩
def a2f(x:Int):Option Bool:= cond (decide (x≥(-1073741824))) (some (decide (x<1073741824))) (some false)
def a3v:FSem:=⟨[.v QI],[.v .bool],a2f⟩
def d6p:Hints:=⟨[],[],[]⟩
def a5q(s:Z6):Option (Z6 ⊕ Z0):= cond (decide (s.2.1<(s.1.length:Int))) ((l0z s.1 s.2.1).bind fun x1=> (a2f x1).bind fun y2=> cond (!y2) (some (.inr (Sum.inr ((false,()))))) (some (.inl (s.1,wrap .i64 (s.2.1+1),())))) (some (.inr (Sum.inl ())))
def a1t(x:(List Int)):Option Bool:= (x0r a5q (x,0,())).bind fun w3=> match w3 with |.inl a4=>some true |.inr b5=>some b5.1
def a2F:FSem:=⟨[.v QL],[.v .bool],a1t⟩
def H94:Hints:=⟨[(26,[.sv 0 QL,.sv 3 QI],[(.exit 0,[]),(.ret,[.sv 2 .bool])])],[],[]⟩
def b2l(x:a1E):Option a1E:= cond (x.1==0) (some (x.1,0,0,0,0,[],a03 3 0,[],x.2.2.2.2.2.2.2.2.1,(0,[],()),[],())) (cond (x.1==1) (some (x.1,x.2.1,0,0,0,[],a03 3 0,[],x.2.2.2.2.2.2.2.2.1,(0,[],()),[],())) ((show Option b4Z from cond (x.1==2) (some ((0,0,0,0,0,[],a03 3 0,[],[],(0,[],()),[],()),(x.1,x.2.1,x.2.2.1,0,0,[],a03 3 0,[],x.2.2.2.2.2.2.2.2.1,x.2.2.2.2.2.2.2.2.2.1,x.2.2.2.2.2.2.2.2.2.2.1,()),())) (cond (x.1==3) (some ((0,0,0,0,0,[],a03 3 0,[],[],(0,[],()),[],()),(x.1,x.2.1,0,x.2.2.2.1,0,x.2.2.2.2.2.1,a03 3 0,[],x.2.2.2.2.2.2.2.2.1,x.2.2.2.2.2.2.2.2.2.1,x.2.2.2.2.2.2.2.2.2.2.1,()),())) (cond (x.1==4) (some ((0,0,0,0,0,[],a03 3 0,[],[],(0,[],()),[],()),(x.1,x.2.1,0,x.2.2.2.1,x.2.2.2.2.1,x.2.2.2.2.2.1,x.2.2.2.2.2.2.1,[],x.2.2.2.2.2.2.2.2.1,x.2.2.2.2.2.2.2.2.2.1,x.2.2.2.2.2.2.2.2.2.2.1,()),())) (cond (x.1==5) (some ((0,0,0,0,0,[],a03 3 0,[],[],(0,[],()),[],()),(x.1,x.2.1,0,0,0,[],a03 3 0,x.2.2.2.2.2.2.2.1,[],x.2.2.2.2.2.2.2.2.2.1,x.2.2.2.2.2.2.2.2.2.2.1,()),())) (some ((0,0,0,0,0,[],a03 3 0,[],[],(0,[],()),[],()),(x.1,x.2.1,0,0,0,[],a03 3 0,[],x.2.2.2.2.2.2.2.2.1,x.2.2.2.2.2.2.2.2.2.1,x.2.2.2.2.2.2.2.2.2.2.1,()),())))))).bind fun z1=> some z1.2.1))
def b9o:FSem:=⟨[.v Q39],[.v Q39],b2l⟩
def d6q:Hints:=⟨[],[(127,[(.normal,[.box 2 Q39,.box 3 Q39,.ptr 2 2 [],.ptr 3 3 []])])],[(7,[.v,.v,.v,.v,.q,.w [0,3],.x,.x]),(12,[.v,.v,.v,.v,.q,.w [0,3],.x,.x]),(14,[.v,.v,.v,.v,.v,.v,.v,.v,.q,.w [0,3],.q,.w [0,3],.q,.w [0,3],.x,.x])]⟩
def a2w(s:Z17):Option (Z17 ⊕ (Z6 ⊕ (Bool×Unit))):= cond (decide (s.2.2.1<(s.1.length:Int))) ((show Option Z37 from(l0z s.1 s.2.2.1).bind fun x1=> cond (decide (x1<(-32768))) (some (s.1,s.2.1,s.2.2.1,true,())) ((l0z s.1 s.2.2.1).bind fun x2=> some (s.1,s.2.1,s.2.2.1,decide (x2≥32768),()))).bind fun z3=> cond z3.2.2.2.1 (some (.inr (Sum.inr ((false,()))))) (some (.inl (z3.1,z3.2.1,wrap .i64 (z3.2.2.1+1),())))) (some (.inr (Sum.inl (s.1,s.2.1,()))))
def a3I(x:((List Int)×Int)):Option Bool:= (x0r a2w (x.1,x.2,0,())).bind fun w4=> match w4 with |.inl a5=>(cond (decide ((a5.1.length:Int)≥1)) (cond (decide ((a5.1.length:Int)≤32)) (cond (decide (a5.2.1≥0)) (some (decide (a5.2.1≤15))) (some false)) (some false)) (some false)) |.inr b6=>some b6.1
def a7H:FSem:=⟨[.v QL,.v QI],[.v .bool],a3I⟩
def d6r:Hints:=⟨[(26,[.sv 0 QL,.sv 1 QI,.sv 5 QI],[(.exit 0,[.sv 0 QL,.sv 1 QI]),(.ret,[.sv 4 .bool])])],[(420,[(.normal,[.sv 0 QL,.sv 1 QI,.sv 5 QI,.sv 23 .bool])])],[]⟩
def a3j(s:Z18):Option (Z18 ⊕ ((Int×Unit) ⊕ (Bool×Unit))):= cond (decide (s.2.1<3)) ((show Option Z38 from(l0z s.2.2.1 s.2.1).bind fun x1=> cond (decide (x1<(-64))) (some (s.1,s.2.1,true,s.2.2.1,())) ((l0z s.2.2.1 s.2.1).bind fun x2=> some (s.1,s.2.1,decide (x2 > 64),s.2.2.1,()))).bind fun z3=> cond z3.2.2.1 (some (.inr (Sum.inr ((false,()))))) (some (.inl (z3.1,wrap .i64 (z3.2.1+1),z3.2.2.2.1,())))) (some (.inr (Sum.inl (s.1,()))))
def a7d(x:(Int×(List Int))):Option Bool:= (x0r a3j (x.1,0,x.2,())).bind fun w4=> match w4 with |.inl a5=>(cond (decide (a5.1≥2)) (some (decide (a5.1≤1024))) (some false)) |.inr b6=>some b6.1
def b2W:FSem:=⟨[.v QI,.v (.arr 3 QI)],[.v .bool],a7d⟩
def d6s:Hints:=⟨[(26,[.sv 0 QI,.sv 5 QI,.vp 3 (.arr 3 QI)],[(.exit 0,[.sv 0 QI]),(.ret,[.sv 4 .bool])])],[(420,[(.normal,[.sv 0 QI,.sv 5 QI,.sv 19 .bool,.vp 3 (.arr 3 QI)])])],[]⟩
def a6h(x:(Int×Int×Unit)):Option Bool:= cond (decide (x.1≥1)) (cond (decide (x.1≤32)) (cond (decide (x.2.1≥0)) (some (decide (x.2.1≤8))) (some false)) (some false)) (some false)
def b1C:FSem:=⟨[.v Q4],[.v .bool],a6h⟩
def d6t:Hints:=⟨[],[],[]⟩
def a4a(s:Z40):Option (Z40 ⊕ ((Z4×Unit) ⊕ (Bool×Unit))):= cond (decide (s.2.1<(s.1.length:Int))) ((l0z s.1 s.2.1).bind fun x1=> (a6h x1).bind fun y2=> cond (!y2) (some (.inr (Sum.inr ((false,()))))) (some (.inl (s.1,wrap .i64 (s.2.1+1),())))) (some (.inr (Sum.inl (s.1,()))))
def a6i(x:Z4):Option Bool:= (x0r a4a (x,0,())).bind fun w3=> match w3 with |.inl a4=>some (decide ((a4.1.length:Int)≤3)) |.inr b5=>some b5.1
def b1D:FSem:=⟨[.v (.list false Q4)],[.v .bool],a6i⟩
def d6u:Hints:=⟨[(26,[.sv 0 (.list false Q4),.sv 3 QI],[(.exit 0,[.sv 0 (.list false Q4)]),(.ret,[.sv 2 .bool])])],[],[]⟩
def b2m(x:a9K):Option Int:= cond (x.1.1==0) (some 1) (cond (x.1.1==1) (some x.2) (cond (x.1.1==2) ((show Option c5N from cond (decide (x.1.2.2.1≥0)) (cond (decide (x.1.2.2.1≤4)) (some (decide (x.1.2.2.1≤x.2),x.1,())) (some (false,x.1,()))) (some (false,x.1,()))).bind fun z1=> cond z1.1 (some z1.2.1.2.2.1) (some (-1))) ((show Option c5P from cond (x.1.1==3) (some (x.2,x.1.1,x.1.1==3,x.1,())) (some (x.2,x.1.1,x.1.1==4,x.1,()))).bind fun z2=> cond z2.2.2.1 ((show Option c5N from(a3I (z2.2.2.2.1.2.2.2.2.2.1,z2.2.2.2.1.2.2.2.1)).bind fun y3=> cond y3 (cond (decide ((z2.2.2.2.1.2.2.2.2.2.1.length:Int)≤z2.1)) (cond (z2.2.2.2.1.1==3) (some (true,z2.2.2.2.1,())) ((a7d (z2.2.2.2.1.2.2.2.2.1,z2.2.2.2.1.2.2.2.2.2.2.1)).bind fun y4=> some (y4,z2.2.2.2.1,()))) (some (false,z2.2.2.2.1,()))) (some (false,z2.2.2.2.1,()))).bind fun z5=> cond z5.1 (some (z5.2.1.2.2.2.2.2.1.length:Int)) (some (-1))) (cond (z2.2.1==5) ((show Option (Bool×Unit)from cond (decide ((z2.2.2.2.1.2.2.2.2.2.2.2.1.length:Int) > 0)) ((a6i z2.2.2.2.1.2.2.2.2.2.2.2.1).bind fun y6=> some (y6,())) (some (false,()))).bind fun z7=> cond z7.1 (some 0) (some (-1))) (some (-1))))))
def b9p:FSem:=⟨[.v Q39,.v QI],[.v QI],b2m⟩
def d6v:Hints:=⟨[],[(1726,[(.normal,[.sv 27 .bool,.vp 2 Q39])]),(1727,[(.normal,[.sv 1 QI,.sv 6 QI,.sv 30 .bool,.vp 2 Q39])]),(6910,[(.normal,[.sv 56 .bool,.vp 2 Q39])]),(27646,[(.normal,[.sv 70 .bool])])],[]⟩
def a7e(x:Int):Option Bool:= cond (decide (x≥2)) (some (decide (x≤5))) (some false)
def b2X:FSem:=⟨[.v QI],[.v .bool],a7e⟩
def d6w:Hints:=⟨[],[],[]⟩
def b6m(x:(Int×Int)):Option Bool:= cond (decide (x.1≥1)) (cond (decide (x.1≤4096)) (cond (decide (x.2≥0)) (some (decide (x.2≤x.1))) (some false)) (some false)) (some false)
def c3K:FSem:=⟨[.v QI,.v QI],[.v .bool],b6m⟩
def d6x:Hints:=⟨[],[],[]⟩
def a5r(s:(Int×Z35)):Option ((Int×Z35) ⊕ Z5):= cond (decide ((wrap .u64 s.1)<0)) none (cond (decide (s.2.2.2.1<(z0g .i64 1 (wrap .u64 s.1)))) (cond (decide ((wrap .u64 s.1)<0)) none (cond (lim ((a01 s.2.2.2.2.1)+1)) (some (.inl (s.1,s.2.1,s.2.2.1,wrap .i64 (s.2.2.2.1+1),a04 s.2.2.2.2.1 [z0h .i64 s.2.1 (wrap .u64 s.1)],()))) none)) (some (.inr (s.2.2.1,s.2.2.2.2.1,()))))
def a3J(x:(Int×Int×Int)):Option (List Int):= (show Option Z27 from(b6m (x.2.1,x.2.2)).bind fun y1=> cond (!y1) (some (x.1,x.2.1,x.2.2,true,())) (cond (decide (x.1<0)) (some (x.1,x.2.1,x.2.2,true,())) (cond (decide (x.1 > 8)) (some (x.1,x.2.1,x.2.2,true,())) (cond (decide ((wrap .u64 x.1)<0)) none (cond ((z0g .i64 1 (wrap .u64 x.1))==0) none (cond ((a27 x.2.1 (z0g .i64 1 (wrap .u64 x.1))) != 0) (some (x.1,x.2.1,x.2.2,true,())) (cond (decide ((wrap .u64 x.1)<0)) none (some (x.1,x.2.1,x.2.2,decide ((z0h .i64 x.2.1 (wrap .u64 x.1))<x.2.2),()))))))))).bind fun z2=> cond z2.2.2.2.1 (some []) ((x0r a5r (z2.1,z2.2.1,z2.2.2.1,0,[],())).bind fun w3=> cond (decide (0<(w3.2.1.length:Int))) (cond (decide (0<(w3.2.1.length:Int))) (some (a05 w3.2.1 0 (wrap .i64 ((a02 w3.2.1 0 0)-w3.1)))) none) none)
def a7I:FSem:=⟨[.v QI,.v QI,.v QI],[.o QI],a3J⟩
def d6y:Hints:=⟨[(122,[.sv 0 QI,.sv 1 QI,.sv 2 QI,.sv 8 QI,.own 7 7 QI],[(.exit 0,[.sv 2 QI,.own 7 7 QI])])],[(6,[(.normal,[.sv 0 QI,.sv 1 QI,.sv 2 QI,.sv 36 .bool])])],[]⟩
def a2x(x:Int):Option Bool:= cond (decide (x≥0)) (some (decide (x≤25))) (some false)
def a8J:FSem:=⟨[.v QI],[.v .bool],a2x⟩
def d6z:Hints:=⟨[],[],[]⟩
def a3k(s:(Int×Z21)):Option ((Int×Z21) ⊕ Z0):= cond (decide (s.1<(s.2.1.2.1.length:Int))) ((show Option (Int×Z43)from(l0z s.2.1.2.1 s.1).bind fun x3=> (a2x x3).bind fun y4=> cond (!y4) ((l0z s.2.1.2.1 s.1).bind fun x5=> some (s.1,x5 != 31,s.2.1,())) (some (s.1,false,s.2.1,()))).bind fun z6=> cond z6.2.1 (some (.inr (Sum.inr ((false,()))))) (some (.inl (wrap .i64 (z6.1+1),z6.2.2.1,())))) (some (.inr (Sum.inl ())))
def a5a(x:(Z5×Int×Int)):Option Bool:= (a3J (x.1.1,x.2.1,x.2.2)).bind fun y1=> (show Option Z43 from cond ((y1.length:Int)==0) (some (true,x.1,())) (some ((y1.length:Int) != (x.1.2.1.length:Int),x.1,()))).bind fun z2=> cond z2.1 (some false) ((x0r a3k (0,z2.2.1,())).bind fun w7=> match w7 with |.inl a8=>some true |.inr b9=>some b9.1)
def b2Y:FSem:=⟨[.v Q8,.v QI,.v QI],[.v .bool],a5a⟩
def d6A:Hints:=⟨[(122,[.sv 8 QI,.vp 3 Q8],[(.exit 0,[]),(.ret,[.sv 6 .bool])])],[(14,[(.normal,[.sv 24 .bool,.vp 3 Q8])]),(1956,[(.normal,[.sv 8 QI,.sv 46 .bool,.vp 3 Q8])])],[]⟩
def b3S(x:Int):Option (List Int):= cond ((decide (0≤x))&&(decide (x<5))) (some (a02 ([[],[1],[2,(-1)],[3,(-3),1],[4,(-6),4,(-1)]]:List (List Int)) (a00 x) [])) none
def b7X:FSem:=⟨[.v QI],[.v QL],b3S⟩
def d6B:Hints:=⟨[],[],[]⟩
def a3w(s:((List Int)×(Int×Z67))):Option (((List Int)×(Int×Z67)) ⊕ ((List Int)×Z63)):= cond (decide (s.2.2.2.2.2.1<s.2.1)) ((l0z s.2.2.1 s.2.2.2.2.2.1).bind fun x7=> cond ((decide (0≤(wrap .i64 ((wrap .i64 ((s.2.2.2.2.2.2.1.length:Int)-1))-s.2.2.2.2.2.1))))&&(decide ((wrap .i64 ((wrap .i64 ((s.2.2.2.2.2.2.1.length:Int)-1))-s.2.2.2.2.2.1))<(s.2.2.2.2.2.2.1.length:Int)))) (some (.inl (s.1,s.2.1,s.2.2.1,s.2.2.2.1,wrap .i64 (s.2.2.2.2.1+(wrap .i64 (x7*(a02 s.2.2.2.2.2.2.1 (a00 (wrap .i64 ((wrap .i64 ((s.2.2.2.2.2.2.1.length:Int)-1))-s.2.2.2.2.2.1))) 0)))),wrap .i64 (s.2.2.2.2.2.1+1),s.2.2.2.2.2.2.1,()))) none) (some (.inr (s.1,s.2.1,s.2.2.1,s.2.2.2.1,s.2.2.2.2.1,s.2.2.2.2.2.2.1,())))
def a5s(s:((List Int)×(Int×Z29))):Option (((List Int)×(Int×Z29)) ⊕ Z51):= cond (decide (s.2.2.2.1<(s.1.length:Int))) ((l0z s.1 s.2.2.2.1).bind fun x6=> (x0r a3w (s.1,s.2.1,s.2.2.1,s.2.2.2.1,x6,0,s.2.2.2.2.1,())).bind fun w8=> (a2f w8.2.2.2.2.1).bind fun y9=> cond (!y9) (some (.inr (Sum.inr ((6,[],()))))) (cond (lim ((a01 w8.2.2.2.2.2.1)+1)) (some (.inl (w8.1,w8.2.1,w8.2.2.1,wrap .i64 (w8.2.2.2.1+1),a04 w8.2.2.2.2.2.1 [w8.2.2.2.2.1],()))) none)) (some (.inr (Sum.inl (s.2.2.2.2.1,()))))
def a7J(x:Z11):Option ((List Int)×Int):= (show Option Z52 from cond (decide (x.2.2<0)) (some (x.1,x.2.1,x.2.2,true,())) (cond (decide (x.2.2 > 4)) (some (x.1,x.2.1,x.2.2,true,())) (some (x.1,x.2.1,x.2.2,(x.1.length:Int) != x.2.2,())))).bind fun z1=> cond z1.2.2.2.1 (some ([],1)) ((show Option Z52 from(a1t z1.1).bind fun y2=> cond (!y2) (some (z1.1,z1.2.1,z1.2.2.1,true,())) ((a1t z1.2.1).bind fun y3=> some (z1.1,z1.2.1,z1.2.2.1,!y3,()))).bind fun z4=> cond z4.2.2.2.1 (some ([],6)) (cond (lim (0+(a01 z4.1))) ((b3S z4.2.2.1).bind fun y5=> (x0r a5s (z4.2.1,z4.2.2.1,y5,0,a04 [] z4.1,())).bind fun w10=> match w10 with |.inl a11=>some (a11.1,0) |.inr b12=>some (b12.2.1,b12.1)) none))
def b4A:FSem:=⟨[.v QL,.v QL,.v QI],[.o QI,.v QI],a7J⟩
def d6C:Hints:=⟨[(250,[.sv 1 QL,.sv 2 QI,.sv 9 QL,.sv 10 QI,.own 8 8 QI],[(.exit 0,[.own 8 8 QI]),(.ret,[.sv 7 QI,.own 6 6 QI])]),(64074,[.sv 1 QL,.sv 2 QI,.sv 9 QL,.sv 10 QI,.sv 11 QI,.sv 12 QI,.own 8 8 QI],[(.exit 2,[.sv 1 QL,.sv 2 QI,.sv 9 QL,.sv 10 QI,.sv 11 QI,.own 8 8 QI])])],[(6,[(.normal,[.sv 0 QL,.sv 1 QL,.sv 2 QI,.sv 24 .bool])]),(14,[(.normal,[.sv 0 QL,.sv 1 QL,.sv 2 QI,.sv 32 .bool])])],[(13,[.v,.v,.v,.v,.v,.q,.q,.q,.v,.v,.v,.q,.q,.v,.x,.x])]⟩
def a2G(s:Z66):Option (Z66 ⊕ ((Int×Int×Unit) ⊕ (Int×Unit))):= cond (decide (s.2.2.2.2.1<(s.2.1.length:Int))) (cond (decide (s.2.2.2.2.1<(s.1.length:Int))) ((l0z s.1 (wrap .i64 ((wrap .i64 ((s.1.length:Int)-1))-s.2.2.2.2.1))).bind fun x2=> (a2f x2).bind fun y3=> cond (!y3) (some (.inr (Sum.inr ((0,()))))) ((l0z s.2.1 s.2.2.2.2.1).bind fun x4=> some (.inl (s.1,s.2.1,s.2.2.1,wrap .i64 (s.2.2.2.1+(wrap .i64 (x4*x2))),wrap .i64 (s.2.2.2.2.1+1),())))) (some (.inr (Sum.inl (s.2.2.1,s.2.2.2.1,()))))) (some (.inr (Sum.inl (s.2.2.1,s.2.2.2.1,()))))
end Go.Ab
namespace Go.Ab
open IntKind(wrap)
open Go.Proofs
set_option maxRecDepth 100000
set_option linter.unusedVariables false
def a5P(x:Z11):Option Int:= (a3I (x.2.1,x.2.2)).bind fun y1=> cond (!y1) (some 0) ((x0r a2G (x.1,x.2.1,x.2.2,0,0,())).bind fun w5=> match w5 with |.inl a6=>(cond (decide ((wrap .u64 a6.1)<0)) none (some (z0h .i64 a6.2.1 (wrap .u64 a6.1)))) |.inr b7=>some b7.1)
def b3g:FSem:=⟨[.v QL,.v QL,.v QI],[.v QI],a5P⟩
def d6D:Hints:=⟨[(122,[.sv 0 QL,.sv 1 QL,.sv 2 QI,.sv 7 QI,.sv 8 QI],[(.exit 0,[.sv 2 QI,.sv 7 QI]),(.ret,[.sv 6 QI])])],[],[]⟩
def a4Q(s:Z75):Option (Z75 ⊕ Z51):= cond (decide (s.2.2.2.1<(s.1.length:Int))) ((l0z s.1 s.2.2.2.1).bind fun x6=> (a5P (s.2.2.2.2.1,s.2.1,s.2.2.1)).bind fun y7=> (a2f (wrap .i64 (x6+y7))).bind fun y8=> cond (!y8) (some (.inr (Sum.inr ((6,[],()))))) (cond (lim ((a01 s.2.2.2.2.1)+1)) (some (.inl (s.1,s.2.1,s.2.2.1,wrap .i64 (s.2.2.2.1+1),a04 s.2.2.2.2.1 [wrap .i64 (x6+y7)],()))) none)) (some (.inr (Sum.inl (s.2.2.2.2.1,()))))
def a4H(x:((List Int)×Z11)):Option ((List Int)×Int):= (show Option Z79 from(a3I (x.2.2.1,x.2.2.2)).bind fun y1=> cond (!y1) (some (x.1,x.2.1,x.2.2.1,x.2.2.2,true,())) (some (x.1,x.2.1,x.2.2.1,x.2.2.2,(x.1.length:Int) != (x.2.2.1.length:Int),()))).bind fun z2=> cond z2.2.2.2.2.1 (some ([],1)) ((show Option Z79 from(a1t z2.1).bind fun y3=> cond (!y3) (some (z2.1,z2.2.1,z2.2.2.1,z2.2.2.2.1,true,())) ((a1t z2.2.1).bind fun y4=> some (z2.1,z2.2.1,z2.2.2.1,z2.2.2.2.1,!y4,()))).bind fun z5=> cond z5.2.2.2.2.1 (some ([],6)) (cond (lim (0+(a01 z5.1))) ((x0r a4Q (z5.2.1,z5.2.2.1,z5.2.2.2.1,0,a04 [] z5.1,())).bind fun w9=> match w9 with |.inl a10=>some (a10.1,0) |.inr b11=>some (b11.2.1,b11.1)) none))
def b3T:FSem:=⟨[.v QL,.v QL,.v QL,.v QI],[.o QI,.v QI],a4H⟩
def d6E:Hints:=⟨[(250,[.sv 1 QL,.sv 2 QL,.sv 3 QI,.sv 11 QI,.own 10 10 QI],[(.exit 0,[.own 10 10 QI]),(.ret,[.sv 9 QI,.own 8 8 QI])])],[(6,[(.normal,[.sv 0 QL,.sv 1 QL,.sv 2 QL,.sv 3 QI,.sv 23 .bool])]),(14,[(.normal,[.sv 0 QL,.sv 1 QL,.sv 2 QL,.sv 3 QI,.sv 31 .bool])])],[(9,[.v,.v,.v,.v,.q,.v,.v,.q,.x,.x])]⟩
def a3x(s:Z67):Option (Z67 ⊕ (Int×Unit)):= cond (decide (s.2.2.2.1<3)) (cond (decide ((wrap .i64 ((wrap .i64 ((wrap .i64 ((s.1.length:Int)-s.2.1))-1))+s.2.2.2.1))≥0)) ((l0z s.2.2.2.2.1 s.2.2.2.1).bind fun x1=> (l0z s.1 (wrap .i64 ((wrap .i64 ((wrap .i64 ((s.1.length:Int)-s.2.1))-1))+s.2.2.2.1))).bind fun x2=> some (.inl (s.1,s.2.1,wrap .i64 (s.2.2.1+(wrap .i64 (x1*x2))),wrap .i64 (s.2.2.2.1+1),s.2.2.2.2.1,()))) (some (.inl (s.1,s.2.1,s.2.2.1,wrap .i64 (s.2.2.2.1+1),s.2.2.2.2.1,())))) (some (.inr (s.2.2.1,())))
def a7K(x:Z12):Option Int:= (x0r a3x (x.1,x.2.1,0,0,x.2.2,())).bind fun w3=> some (z0h .i64 w3.1 6)
def b4B:FSem:=⟨[.v QL,.v QI,.v (.arr 3 QI)],[.v QI],a7K⟩
def d6F:Hints:=⟨[(58,[.sv 0 QL,.sv 1 QI,.sv 7 QI,.sv 8 QI,.vp 5 (.arr 3 QI)],[(.exit 0,[.sv 7 QI])])],[],[(7,[.v,.v,.v,.v,.v,.v,.v,.v,.v,.x,.x])]⟩
def a5Q(s:Z74):Option (Z74 ⊕ Z51):= cond (decide (s.2.2.1<(s.1.length:Int))) ((l0z s.1 s.2.2.1).bind fun x3=> (a7K (s.2.2.2.1,s.2.1,s.2.2.2.2.1)).bind fun y4=> (a2f (wrap .i64 (x3+y4))).bind fun y5=> cond (!y5) (some (.inr (Sum.inr ((6,[],()))))) (cond (lim ((a01 s.2.2.2.1)+1)) (some (.inl (s.1,s.2.1,wrap .i64 (s.2.2.1+1),a04 s.2.2.2.1 [wrap .i64 (x3+y4)],s.2.2.2.2.1,()))) none)) (some (.inr (Sum.inl (s.2.2.2.1,()))))
def a8K(x:Z12):Option ((List Int)×Int):= (a7d (x.2.1,x.2.2)).bind fun y1=> cond (!y1) (some ([],1)) ((a1t x.1).bind fun y2=> cond (!y2) (some ([],6)) ((x0r a5Q (x.1,x.2.1,0,[],x.2.2,())).bind fun w6=> match w6 with |.inl a7=>some (a7.1,0) |.inr b8=>some (b8.2.1,b8.1)))
def b5G:FSem:=⟨[.v QL,.v QI,.v (.arr 3 QI)],[.o QI,.v QI],a8K⟩
def d6G:Hints:=⟨[(250,[.sv 0 QL,.sv 1 QI,.sv 9 QI,.own 8 8 QI,.vp 5 (.arr 3 QI)],[(.exit 0,[.own 8 8 QI]),(.ret,[.sv 7 QI,.own 6 6 QI])])],[],[(9,[.v,.v,.v,.v,.q,.v,.v,.q,.x,.x])]⟩
def a7L(x:(Int×Int×Unit)):Option Z47:= (a6h x).bind fun y1=> cond (!y1) none (cond ((decide (0≤x.1))&&((decide (x.1≤x.1))&&(lim (a00 x.1)))) (cond ((decide (0≤x.1))&&((decide (x.1≤x.1))&&(lim (a00 x.1)))) (some ((x.2.1,a03 (a00 x.1) 0,a03 (a00 x.1) 0,()),0)) none) none)
def b4C:FSem:=⟨[.v Q4],[.b Q13,.v QI],a7L⟩
def d6H:Hints:=⟨[],[],[(3,[.v,.v,.v,.v,.q,.v,.v,.q,.x,.x,.x,.x])]⟩
def b0U(x:Int):Option Int:= some (v0a (u0z x (-1073741824)) 1073741823)
def b6n:FSem:=⟨[.v QI],[.v QI],b0U⟩
def d6I:Hints:=⟨[],[],[]⟩
def a3K(s:Z82):Option (Z82 ⊕ Z68):= cond (decide (s.2.1<(s.2.2.1.2.1.length:Int))) (cond ((decide (0≤s.2.1))&&(decide (s.2.1<(s.2.2.1.2.1.length:Int)))) (cond ((decide (0≤s.2.1))&&(decide (s.2.1<(s.2.2.1.2.2.1.length:Int)))) (some (.inl (wrap .i64 (s.1+(wrap .i64 ((a02 s.2.2.1.2.1 (a00 s.2.1) 0)*(a02 s.2.2.1.2.2.1 (a00 s.2.1) 0)))),wrap .i64 (s.2.1+1),s.2.2.1,()))) none) none) (some (.inr (s.1,s.2.2.1,())))
def a3y(x:Z28):Option Z46:= (x0r a3K (0,0,x,())).bind fun w1=> (b0U (z0h .i64 w1.1 16)).bind fun y2=> some (y2,w1.2.1)
def a8f:FSem:=⟨[.r false (.b Q13)],[.v QI],a3y⟩
def d6J:Hints:=⟨[(58,[.sv 3 QI,.sv 4 QI,.box pinned Q13,.ptr 0 pinned []],[(.exit 0,[.sv 3 QI,.box pinned Q13])])],[],[(5,[.v,.p,.p,.q,.q,.v,.q,.q,.p,.p,.q,.q,.v,.q,.q,.v,.x,.x])]⟩
def b0V(x:Int):Option Int:= cond (decide (x > 0)) (some 1) (cond (decide (x<0)) (some (-1)) (some 0))
def c0H:FSem:=⟨[.v QI],[.v QI],b0V⟩
def d6K:Hints:=⟨[],[],[]⟩
def a2H(s:(Int×(Int×(Int×((List Int)×Z80))))):Option ((Int×(Int×(Int×((List Int)×Z80)))) ⊕ (Int×((List Int)×Z80))):= cond (decide (s.2.2.1<(s.2.2.2.2.2.1.2.1.length:Int))) (cond ((decide (0≤s.2.2.1))&&(decide (s.2.2.1<(s.2.2.2.2.2.1.2.1.length:Int)))) (cond ((decide (0≤s.2.2.1))&&(decide (s.2.2.1<(s.2.2.2.2.2.1.2.2.1.length:Int)))) ((b0V (a02 s.2.2.2.2.2.1.2.2.1 (a00 s.2.2.1) 0)).bind fun y4=> cond (decide ((wrap .u64 s.2.2.2.2.2.1.1)<0)) none (cond (lim ((a01 s.2.2.2.1)+1)) (some (.inl (s.1,s.2.1,wrap .i64 (s.2.2.1+1),a04 s.2.2.2.1 [v0a (u0z (wrap .i64 ((a02 s.2.2.2.2.2.1.2.1 (a00 s.2.2.1) 0)+(z0g .i64 (wrap .i64 (s.2.1*y4)) (wrap .u64 s.2.2.2.2.2.1.1)))) (-1048576)) 1048576],s.2.2.2.2.1,s.2.2.2.2.2.1,()))) none)) none) none) (some (.inr (s.1,s.2.2.2.1,s.2.2.2.2.1,s.2.2.2.2.2.1,())))
def a5R(x:Z47):Option Z28:= (b0U x.2).bind fun y1=> (a3y x.1).bind fun y2=> (b0V (wrap .i64 (y1-y2.1))).bind fun y3=> (x0r a2H (y1,y3,0,[],[],y2.2,())).bind fun w5=> cond (lim ((a01 w5.2.2.1)+1)) (cond ((decide (0≤(wrap .i64 ((w5.2.2.2.1.2.2.1.length:Int)-1))))&&(decide ((wrap .i64 ((w5.2.2.2.1.2.2.1.length:Int)-1))≤(w5.2.2.2.1.2.2.1.length:Int)))) (cond (lim ((a01 (a04 w5.2.2.1 [w5.1]))+(a01 (a06 (a00 (wrap .i64 ((w5.2.2.2.1.2.2.1.length:Int)-1))) (a23 0 w5.2.2.2.1.2.2.1))))) (some (w5.2.2.2.1.1,w5.2.1,a04 (a04 w5.2.2.1 [w5.1]) (a06 (a00 (wrap .i64 ((w5.2.2.2.1.2.2.1.length:Int)-1))) (a23 0 w5.2.2.2.1.2.2.1)),w5.2.2.2.1.2.2.2)) none) none) none
def b3h:FSem:=⟨[.r false (.b Q13),.v QI],[],a5R⟩
def d6L:Hints:=⟨[(122,[.sv 1 QI,.sv 4 QI,.sv 7 QI,.own 5 5 QI,.own 6 6 QI,.box pinned Q13,.ptr 0 pinned []],[(.exit 0,[.sv 1 QI,.own 5 5 QI,.own 6 6 QI,.box pinned Q13,.ptr 0 pinned []])])],[],[(6,[.q,.p,.p,.q,.q,.v,.q,.q,.v,.p,.p,.q,.q,.v,.q,.q,.v,.v,.p,.p,.q,.q,.v,.v,.v,.v,.v,.q,.x,.x]),(7,[.q,.v,.q,.w [6,55,56],.p,.p,.r [59,pinned],.r [60,pinned],.p,.p,.r [63,pinned],.r [64,pinned],.r [65,pinned],.v,.r [67,pinned],.x,.x])]⟩
def a3z(s:(Z4×Z92)):Option ((Z4×Z92) ⊕ ((Z4×Z5) ⊕ Z5)):= cond (decide (s.2.2.1<(s.2.2.2.1.length:Int))) (cond ((decide (0≤s.2.2.1))&&(decide (s.2.2.1<(s.2.2.2.1.length:Int)))) ((a3y s.2.2.2.2.1).bind fun y5=> (a2f (wrap .i64 ((a02 s.2.2.2.1 (a00 s.2.2.1) 0)+y5.1))).bind fun y6=> cond (!y6) (some (.inr (Sum.inr ((6,[],()))))) (cond ((decide (0≤s.2.2.1))&&(decide (s.2.2.1<(s.2.2.2.1.length:Int)))) ((a5R (y5.2,wrap .i64 ((a02 s.2.2.2.1 (a00 s.2.2.1) 0)+y5.1))).bind fun y7=> some (.inl (s.1,s.2.1,wrap .i64 (s.2.2.1+1),a05 s.2.2.2.1 (a00 s.2.2.1) (wrap .i64 ((a02 s.2.2.2.1 (a00 s.2.2.1) 0)+y5.1)),y7,()))) none)) none) (some (.inr (Sum.inl (s.1,s.2.1,s.2.2.2.1,()))))
def a3A(s:(Z4×Z5)):Option ((Z4×Z5) ⊕ Z51):= cond (decide (s.2.1≥0)) ((l0z s.1 s.2.1).bind fun x3=> (a7L x3).bind fun y4=> (x0r a3z (s.1,s.2.1,0,s.2.2.1,y4.1,())).bind fun w8=> match w8 with |.inl a9=>some (.inl (a9.1,wrap .i64 (a9.2.1-1),a9.2.2.1,())) |.inr b10=>some (.inr (Sum.inr ((b10.1,b10.2.1,()))))) (some (.inr (Sum.inl (s.2.2.1,()))))
def a7M(x:((List Int)×Z4)):Option ((List Int)×Int):= (a6i x.2).bind fun y1=> cond (!y1) (some ([],1)) ((a1t x.1).bind fun y2=> cond (!y2) (some ([],6)) (cond (lim (0+(a01 x.1))) ((x0r a3A (x.2,wrap .i64 ((x.2.length:Int)-1),a04 [] x.1,())).bind fun w11=> match w11 with |.inl a12=>some (a12.1,0) |.inr b13=>some (b13.2.1,b13.1)) none))
def b4D:FSem:=⟨[.v QL,.v (.list false Q4)],[.o QI,.v QI],a7M⟩
def d6M:Hints:=⟨[(250,[.sv 1 (.list false Q4),.sv 7 QI,.own 6 6 QI],[(.exit 0,[.own 6 6 QI]),(.ret,[.sv 5 QI,.own 4 4 QI])]),(32038,[.sv 1 (.list false Q4),.sv 7 QI,.sv 10 QI,.own 6 6 QI,.box 1033 Q13,.ptr 8 1033 []],[(.exit 2,[.sv 1 (.list false Q4),.sv 7 QI,.own 6 6 QI]),(.ret,[.sv 5 QI,.own 4 4 QI])])],[],[(13,[.r [6,42],.v,.r [6,44],.r [6,45],.q,.w [47,1033,1047],.x,.x])]⟩
def b3s(x:a1E):Option ((List Int)×Int):= cond (x.1==2) ((a7J (x.2.2.2.2.2.2.2.2.1,x.2.2.2.2.2.2.2.2.2.2.1,x.2.2.1)).bind fun y1=> some (y1.1,y1.2)) (cond (x.1==3) ((a4H (x.2.2.2.2.2.2.2.2.1,x.2.2.2.2.2.2.2.2.2.2.1,x.2.2.2.2.2.1,x.2.2.2.1)).bind fun y2=> some (y2.1,y2.2)) (cond (x.1==4) ((a4H (x.2.2.2.2.2.2.2.2.1,x.2.2.2.2.2.2.2.2.2.2.1,x.2.2.2.2.2.1,x.2.2.2.1)).bind fun y3=> cond (y3.2 != 0) (some ([],y3.2)) ((a8K (y3.1,x.2.2.2.2.1,x.2.2.2.2.2.2.1)).bind fun y4=> some (y4.1,y4.2))) (cond (x.1==5) ((a7M (x.2.2.2.2.2.2.2.2.2.2.1,x.2.2.2.2.2.2.2.1)).bind fun y5=> some (y5.1,y5.2)) (some (x.2.2.2.2.2.2.2.2.1,0)))))
def c0I:FSem:=⟨[.v Q39],[.v QL,.v QI],b3s⟩
def d6N:Hints:=⟨[],[],[]⟩
def b3t(s:Z45):Option (Z45 ⊕ Z51):= cond (decide (s.2.2.1<(s.1.length:Int))) ((show Option ((List Int)×Z38)from(l0z s.1 s.2.2.1).bind fun x2=> (a2f x2).bind fun y3=> cond (!y3) (some (s.1,s.2.1,s.2.2.1,true,s.2.2.2.1,())) ((l0z s.1 s.2.2.1).bind fun x4=> cond (decide ((wrap .u64 s.2.1)<0)) none ((a2f (z0g .i64 x4 (wrap .u64 s.2.1))).bind fun y5=> some (s.1,s.2.1,s.2.2.1,!y5,s.2.2.2.1,())))).bind fun z6=> cond z6.2.2.2.1 (some (.inr (Sum.inr ((6,[],()))))) ((l0z z6.1 z6.2.2.1).bind fun x7=> cond (decide ((wrap .u64 z6.2.1)<0)) none (cond (lim ((a01 z6.2.2.2.2.1)+1)) (some (.inl (z6.1,z6.2.1,wrap .i64 (z6.2.2.1+1),a04 z6.2.2.2.2.1 [z0g .i64 x7 (wrap .u64 z6.2.1)],()))) none))) (some (.inr (Sum.inl (s.2.2.2.1,()))))
def b8J(x:((List Int)×Int)):Option ((List Int)×Int):= (show Option Z20 from cond (decide (x.2<0)) (some (x.1,x.2,true,())) (some (x.1,x.2,decide (x.2 > 30),()))).bind fun z1=> cond z1.2.2.1 (some ([],1)) ((x0r b3t (z1.1,z1.2.1,0,[],())).bind fun w8=> match w8 with |.inl a9=>some (a9.1,0) |.inr b10=>some (b10.2.1,b10.1))
def c5t:FSem:=⟨[.v QL,.v QI],[.o QI,.v QI],b8J⟩
def d6O:Hints:=⟨[(122,[.sv 0 QL,.sv 1 QI,.sv 7 QI,.own 6 6 QI],[(.exit 0,[.own 6 6 QI]),(.ret,[.sv 5 QI,.own 4 4 QI])])],[(6,[(.normal,[.sv 0 QL,.sv 1 QI,.sv 13 .bool])]),(3912,[(.normal,[.sv 0 QL,.sv 1 QI,.sv 7 QI,.sv 36 .bool,.own 6 6 QI])])],[]⟩
def a5t(s:c5Q):Option (c5Q ⊕ ((List Int)×Unit)):= cond (decide (s.2.1<s.1)) ((l0z s.2.2.2.1.2.2.2.2.2.2.2.2.1 0).bind fun x11=> cond ((decide (0≤s.2.1))&&(decide (s.2.1<(s.2.2.1.length:Int)))) (some (.inl (s.1,wrap .i64 (s.2.1+1),a05 s.2.2.1 (a00 s.2.1) x11,s.2.2.2.1,()))) none) (some (.inr (s.2.2.1,())))
def a8g(x:a9K):Option ((List Int)×Bool):= (show Option c1M from cond (decide (x.2<1)) (some (x.2,true,x.1,())) (cond (decide (x.2 > 4096)) (some (x.2,true,x.1,())) (cond (decide (x.1.1<0)) (some (x.2,true,x.1,())) (cond (decide (x.1.1 > 5)) (some (x.2,true,x.1,())) ((b2l x.1).bind fun y1=> (a9x (x.1,y1)).bind fun y2=> cond (!y2) (some (x.2,true,x.1,())) (cond (decide (x.1.2.1<0)) (some (x.2,true,x.1,())) (some (x.2,decide (x.1.2.1 > 30),x.1,())))))))).bind fun z3=> cond z3.2.1 (some ([],false)) ((b2m (z3.2.2.1,z3.1)).bind fun y4=> (show Option c5P from cond (decide (y4<0)) (some (z3.1,y4,true,z3.2.2.1,())) (cond ((z3.2.2.1.2.2.2.2.2.2.2.2.1.length:Int) != y4) (some (z3.1,y4,true,z3.2.2.1,())) ((a1t z3.2.2.1.2.2.2.2.2.2.2.2.1).bind fun y5=> cond (!y5) (some (z3.1,y4,true,z3.2.2.1,())) ((a1t z3.2.2.1.2.2.2.2.2.2.2.2.2.2.1).bind fun y6=> some (z3.1,y4,!y6,z3.2.2.1,()))))).bind fun z7=> cond z7.2.2.1 (some ([],false)) ((show Option c1M from(a7e z7.2.2.2.1.1).bind fun y8=> cond y8 (cond ((z7.2.2.2.1.2.2.2.2.2.2.2.2.2.2.1.length:Int) != (wrap .i64 (z7.1-z7.2.1))) (some (z7.1,true,z7.2.2.2.1,())) ((a5a (z7.2.2.2.1.2.2.2.2.2.2.2.2.2.1,z7.1,z7.2.1)).bind fun y9=> some (z7.1,!y9,z7.2.2.2.1,()))) (some (z7.1,false,z7.2.2.2.1,()))).bind fun z10=> cond z10.2.1 (some ([],false)) (cond (z10.2.2.1.1==0) (cond ((decide (0≤z10.1))&&((decide (z10.1≤z10.1))&&(lim (a00 z10.1)))) ((x0r a5t (z10.1,0,a03 (a00 z10.1) 0,z10.2.2.1,())).bind fun w12=> some (w12.1,true)) none) ((b3s z10.2.2.1).bind fun y13=> cond (y13.2 != 0) (some ([],false)) ((b8J (y13.1,z10.2.2.1.2.1)).bind fun y14=> some (y14.1,y14.2==0))))))
def b3U:FSem:=⟨[.v Q39,.v QI],[.o QI,.v .bool],a8g⟩
def H49:Hints:=⟨[(8106,[.sv 1 QI,.sv 8 QI,.own 7 7 QI,.vp 2 Q39],[(.exit 0,[.own 7 7 QI])])],[(6,[(.normal,[.sv 1 QI,.sv 45 .bool,.vp 2 Q39])]),(30,[(.normal,[.sv 1 QI,.sv 6 QI,.sv 69 .bool,.vp 2 Q39])]),(62,[(.normal,[.sv 1 QI,.sv 89 .bool,.vp 2 Q39])])],[(1,[.x,.x,.x,.x,.x,.x,.x,.x,.x,.x,.x,.x,.x,.x,.x,.x,.x,.v,.v,.v,.x,.x,.x,.x,.x,.x,.x,.x,.x,.x,.x,.x,.x])]⟩
def a7f(s:Z15):Option (Z15 ⊕ Z0):= cond (decide (s.2.1<(s.1.length:Int))) ((l0z s.1 s.2.1).bind fun x5=> (a1t x5).bind fun y6=> cond (!y6) (some (.inr (Sum.inr ((false,()))))) (some (.inl (s.1,wrap .i64 (s.2.1+1),())))) (some (.inr (Sum.inl ())))
def b3u(x:Z61):Option Bool:= (show Option ((List (List Int))×(Bool×Unit))from(a9h x.1).bind fun y1=> cond (!y1) (some (x.1,true,())) ((l0z x.1 0).bind fun x2=> cond (decide ((x2.length:Int) > 4096)) (some (x.1,true,())) ((a7c (x.2,(x.1.length:Int))).bind fun y3=> some (x.1,!y3,())))).bind fun z4=> cond z4.2.1 (some false) ((x0r a7f (z4.1,0,())).bind fun w7=> match w7 with |.inl a8=>some true |.inr b9=>some b9.1)
def c0J:FSem:=⟨[.v (.list false QL),.v (.list false Q9)],[.v .bool],b3u⟩
def d6P:Hints:=⟨[(58,[.sv 0 (.list false QL),.sv 5 QI],[(.exit 0,[]),(.ret,[.sv 4 .bool])])],[(6,[(.normal,[.sv 0 (.list false QL),.sv 22 .bool])])],[]⟩
def a7N(s:Z60):Option (Z60 ⊕ Z2):= cond (decide (s.2.1<(s.1.length:Int))) ((l0z s.1 s.2.1).bind fun x1=> cond (lim (0+(a01 x1))) (cond (lim ((a01 s.2.2.1)+(a01 (a05 ([[]]:List (List Int)) 0 (a04 [] x1))))) (some (.inl (s.1,wrap .i64 (s.2.1+1),a04 s.2.2.1 (a05 ([[]]:List (List Int)) 0 (a04 [] x1)),()))) none) none) (some (.inr (s.2.2.1,())))
def b0W(x:(List (List Int))):Option (List (List Int)):= (x0r a7N (x,0,([]:(List (List Int))),())).bind fun w2=> some w2.1
def b7Y:FSem:=⟨[.v (.list false QL)],[.o (.list true QI)],b0W⟩
def d6Q:Hints:=⟨[(58,[.sv 0 (.list false QL),.sv 4 QI,.own 3 3 (.list true QI)],[(.exit 0,[.own 3 3 (.list true QI)])])],[],[]⟩
def a6j(s:(Int×(Int×((List (List Int))×Z26)))):Option ((Int×(Int×((List (List Int))×Z26))) ⊕ (Z2 ⊕ (Bool×Z2))):= cond (decide (0<(s.2.2.1.length:Int))) (cond (decide (s.2.1<((a01 (a02 s.2.2.1 0 []):Nat):Int))) (cond ((decide (0≤s.2.2.2.1.2.1))&&(decide (s.2.2.2.1.2.1<(s.2.2.1.length:Int)))) (cond ((decide (0≤s.2.2.2.1.2.1))&&(decide (s.2.2.2.1.2.1<(s.2.2.1.length:Int)))) (cond ((decide (0≤s.2.1))&&(decide (s.2.1<((a01 (a02 s.2.2.1 (a00 s.2.2.2.1.2.1) []):Nat):Int)))) (cond ((decide (0≤s.2.2.2.1.1))&&(decide (s.2.2.2.1.1<(s.2.2.1.length:Int)))) (cond ((decide (0≤s.2.1))&&(decide (s.2.1<((a01 (a02 s.2.2.1 (a00 s.2.2.2.1.1) []):Nat):Int)))) (cond ((decide (0≤s.2.1))&&(decide (s.2.1<((a01 (a02 s.2.2.1 (a00 s.2.2.2.1.2.1) []):Nat):Int)))) (cond ((decide (0≤s.2.2.2.1.2.1))&&(decide (s.2.2.2.1.2.1<((a01 (a05 s.2.2.1 (a00 s.2.2.2.1.2.1) (a05 (a02 s.2.2.1 (a00 s.2.2.2.1.2.1) []) (a00 s.2.1) (wrap .i64 ((a02 (a02 s.2.2.1 (a00 s.2.2.2.1.2.1) []) (a00 s.2.1) 0)+(wrap .i64 (s.1*(z0h .i64 (wrap .i64 (s.2.2.2.1.2.2.1*(a02 (a02 s.2.2.1 (a00 s.2.2.2.1.1) []) (a00 s.2.1) 0))) 8))))))):Nat):Int)))) (cond ((decide (0≤s.2.1))&&(decide (s.2.1<((a01 (a02 (a05 s.2.2.1 (a00 s.2.2.2.1.2.1) (a05 (a02 s.2.2.1 (a00 s.2.2.2.1.2.1) []) (a00 s.2.1) (wrap .i64 ((a02 (a02 s.2.2.1 (a00 s.2.2.2.1.2.1) []) (a00 s.2.1) 0)+(wrap .i64 (s.1*(z0h .i64 (wrap .i64 (s.2.2.2.1.2.2.1*(a02 (a02 s.2.2.1 (a00 s.2.2.2.1.1) []) (a00 s.2.1) 0))) 8))))))) (a00 s.2.2.2.1.2.1) []):Nat):Int)))) ((a2f (a02 (a02 (a05 s.2.2.1 (a00 s.2.2.2.1.2.1) (a05 (a02 s.2.2.1 (a00 s.2.2.2.1.2.1) []) (a00 s.2.1) (wrap .i64 ((a02 (a02 s.2.2.1 (a00 s.2.2.2.1.2.1) []) (a00 s.2.1) 0)+(wrap .i64 (s.1*(z0h .i64 (wrap .i64 (s.2.2.2.1.2.2.1*(a02 (a02 s.2.2.1 (a00 s.2.2.2.1.1) []) (a00 s.2.1) 0))) 8))))))) (a00 s.2.2.2.1.2.1) []) (a00 s.2.1) 0)).bind fun y1=> cond (!y1) (some (.inr (Sum.inr ((false,a05 s.2.2.1 (a00 s.2.2.2.1.2.1) (a05 (a02 s.2.2.1 (a00 s.2.2.2.1.2.1) []) (a00 s.2.1) (wrap .i64 ((a02 (a02 s.2.2.1 (a00 s.2.2.2.1.2.1) []) (a00 s.2.1) 0)+(wrap .i64 (s.1*(z0h .i64 (wrap .i64 (s.2.2.2.1.2.2.1*(a02 (a02 s.2.2.1 (a00 s.2.2.2.1.1) []) (a00 s.2.1) 0))) 8)))))),()))))) (some (.inl (s.1,wrap .i64 (s.2.1+1),a05 s.2.2.1 (a00 s.2.2.2.1.2.1) (a05 (a02 s.2.2.1 (a00 s.2.2.2.1.2.1) []) (a00 s.2.1) (wrap .i64 ((a02 (a02 s.2.2.1 (a00 s.2.2.2.1.2.1) []) (a00 s.2.1) 0)+(wrap .i64 (s.1*(z0h .i64 (wrap .i64 (s.2.2.2.1.2.2.1*(a02 (a02 s.2.2.1 (a00 s.2.2.2.1.1) []) (a00 s.2.1) 0))) 8)))))),s.2.2.2.1,())))) none) none) none) none) none) none) none) none) (some (.inr (Sum.inl (s.2.2.1,()))))) none
def b4E(x:((List (List Int))×(Z7×Int))):Option (Bool×(List (List Int))):= (x0r a6j (x.2.2,0,x.1,x.2.1,())).bind fun w2=> match w2 with |.inl a3=>some (true,a3.1) |.inr b4=>some (b4.1,b4.2.1)
def c2v:FSem:=⟨[.r false (.o (.list true QI)),.v Q9,.v QI],[.v .bool],b4E⟩
def d6R:Hints:=⟨[(26,[.sv 2 QI,.sv 7 QI,.own 0 pinned (.list true QI),.vp 4 Q9],[(.exit 0,[.own 0 pinned (.list true QI)]),(.ret,[.sv 6 .bool,.own 0 pinned (.list true QI)])])],[],[(4,[.q,.v,.v,.q,.q,.v,.q,.v,.v,.q,.q,.v,.q,.q,.v,.v,.v,.q,.v,.v,.q,.q,.v,.q,.q,.v,.v,.v,.v,.x,.x])]⟩
def a5S(s:(Z16×Z14)):Option ((Z16×Z14) ⊕ (Z2 ⊕ Z15)):= cond (decide (s.2.1≥0)) ((l0z s.1 s.2.1).bind fun x3=> (b4E (s.2.2.1,x3,(-1))).bind fun y4=> cond (!y4.1) (some (.inr (Sum.inr ((([]:(List (List Int))),6,()))))) (some (.inl (s.1,wrap .i64 (s.2.1-1),y4.2,())))) (some (.inr (Sum.inl (s.2.2.1,()))))
def a8L(x:Z61):Option ((List (List Int))×Int):= (b3u (x.1,x.2)).bind fun y1=> cond (!y1) (some (([]:(List (List Int))),1)) ((b0W x.1).bind fun y2=> (x0r a5S (x.2,wrap .i64 ((x.2.length:Int)-1),y2,())).bind fun w5=> match w5 with |.inl a6=>some (a6.1,0) |.inr b7=>some (b7.1,b7.2.1))
def b5H:FSem:=⟨[.v (.list false QL),.v (.list false Q9)],[.v (.list false QL),.v QI],a8L⟩
def H50:Hints:=⟨[(122,[.sv 1 (.list false Q9),.sv 7 QI,.own 6 6 (.list true QI)],[(.exit 0,[.own 6 6 (.list true QI)]),(.ret,[.sv 4 (.list false QL),.sv 5 QI])])],[],[]⟩
def a3d(s:c5U):Option (c5U ⊕ (c8l ⊕ Z58)):= cond (decide (s.1<(s.2.2.2.1.2.2.2.2.1.length:Int))) ((l0z s.2.2.2.1.2.2.2.2.1 s.1).bind fun x3=> (a8g (x3,s.2.2.2.1.2.1)).bind fun y4=> cond (!y4.2) (some (.inr (Sum.inr ((false,(0,([]:(List (List Int))),()),()))))) (cond (lim ((a01 s.2.1)+1)) (some (.inl (wrap .i64 (s.1+1),a04 s.2.1 ([y4.1]:List (List Int)),s.2.2.1,s.2.2.2.1,()))) none)) (some (.inr (Sum.inl (s.2.1,s.2.2.1,s.2.2.2.1,()))))
def a4I(x:a5C):Option (Z14×Bool):= (show Option (Bool×c8k)from(a9A x).bind fun y1=> cond (!y1) (some (true,(0,([]:(List (List Int))),()),x,())) (some ((x.2.2.2.2.1.length:Int) != x.2.2.1.2.1,(0,([]:(List (List Int))),()),x,()))).bind fun z2=> cond z2.1 (some ((0,([]:(List (List Int))),()),false)) ((x0r a3d (0,([]:(List (List Int))),z2.2.1,z2.2.2.1,())).bind fun w5=> match w5 with |.inl a6=>((a8L (a6.1,a6.2.2.1.2.2.2.1)).bind fun y8=> (show Option (Bool×Z14×Z33)from cond (y8.2 != 0) (some (true,a6.2.1,(a6.2.2.1.2.2.1.2.2.1,y8.1,()),())) ((a8I (a6.2.2.1.2.2.1.2.2.1,y8.1,())).bind fun y9=> some (!y9,a6.2.1,(a6.2.2.1.2.2.1.2.2.1,y8.1,()),()))).bind fun z10=> cond z10.1 (some ((0,([]:(List (List Int))),()),false)) (some (z10.2.2.1,true))) |.inr b7=>some (b7.2.1,b7.1))
def a9M:FSem:=⟨[.v Q57],[.v Q11,.v .bool],a4I⟩
def H18:Hints:=⟨[(122,[.sv 5 QI,.own 4 4 QL,.box 2 Q11,.vp 1 Q57,.ptr 2 2 []],[(.exit 0,[.own 4 4 QL,.box 2 Q11,.vp 1 Q57,.ptr 2 2 []]),(.ret,[.sv 3 .bool,.box 2 Q11,.ptr 2 2 []])])],[(6,[(.normal,[.sv 22 .bool,.box 2 Q11,.vp 1 Q57,.ptr 2 2 []])]),(254,[(.normal,[.sv 67 .bool,.box 2 Q11,.box 10 Q11,.ptr 2 2 [],.ptr 10 10 []])])],[(7,[.v,.v,.v,.v,.v,.v,.v,.x,.x,.q,.q,.q,.x])]⟩
def a8M(x:a5C):Option Bool:= (a4I x).bind fun y1=> some y1.2
def b5I:FSem:=⟨[.v Q57],[.v .bool],a8M⟩
def H57:Hints:=⟨[],[],[]⟩
def b0X(x:a9K):Option Bool:= (a8g (x.1,x.2)).bind fun y1=> some y1.2
def b7Z:FSem:=⟨[.v Q39,.v QI],[.v .bool],b0X⟩
def d6S:Hints:=⟨[],[],[]⟩
def a7g(s:Z17):Option (Z17 ⊕ Z17):= cond (decide (s.2.1<32)) ((l0z s.1 s.2.2.1).bind fun x1=> cond (x1 != 0) ((l0z s.1 s.2.2.1).bind fun x2=> (a9T (x2,s.2.1)).bind fun y3=> cond (!y3) (some (.inl (s.1,wrap .i64 (s.2.1+1),s.2.2.1,()))) (some (.inr (s.1,s.2.1,s.2.2.1,())))) (some (.inr (s.1,s.2.1,s.2.2.1,())))) (some (.inr (s.1,s.2.1,s.2.2.1,())))
def a9B(s:Z17):Option (Z17 ⊕ (Int×Unit)):= cond (decide (s.2.2.1<(s.1.length:Int))) ((x0r a7g (s.1,s.2.1,s.2.2.1,())).bind fun w4=> some (.inl (w4.1,w4.2.1,wrap .i64 (w4.2.2.1+1),()))) (some (.inr (s.2.1,())))
def a6B(x:(List Int)):Option Int:= (x0r a9B (x,0,0,())).bind fun w5=> some w5.1
def b0Y:FSem:=⟨[.v QL],[.v QI],a6B⟩
def d6T:Hints:=⟨[(58,[.sv 0 QL,.sv 3 QI,.sv 4 QI],[(.exit 0,[.sv 3 QI])]),(1864,[.sv 0 QL,.sv 3 QI,.sv 4 QI],[(.exit 2,[.sv 0 QL,.sv 3 QI,.sv 4 QI])])],[],[]⟩
def a5u(s:Z42):Option (Z42 ⊕ Z9):= cond (decide (s.2.1≥0)) (cond (decide ((wrap .u64 s.2.1)<0)) none (cond (lim ((a01 s.2.2.1.1)+1)) (some (.inl (s.1,wrap .i64 (s.2.1-1),(a04 s.2.2.1.1 [wrap .u8 (bits .u64 .and (z0h .u64 s.1 (wrap .u64 s.2.1)) 1)],s.2.2.1.2),()))) none)) (some (.inr (s.2.2.1,())))
def a0J(x:(((List Int)×Unit)×(Int×Int))):Option Z5:= (show Option (Int×Int×Bool×Z9)from cond (decide (x.2.2<0)) (some (x.2.1,x.2.2,true,x.1,())) (cond (decide (x.2.2 > 64)) (some (x.2.1,x.2.2,true,x.1,())) (cond (decide (x.2.2<64)) (cond (decide ((wrap .u64 x.2.2)<0)) none (some (x.2.1,x.2.2,(z0h .u64 x.2.1 (wrap .u64 x.2.2)) != 0,x.1,()))) (some (x.2.1,x.2.2,false,x.1,()))))).bind fun z1=> cond z1.2.2.1 (some (1,z1.2.2.2.1)) ((x0r a5u (z1.1,wrap .i64 (z1.2.1-1),z1.2.2.2.1,())).bind fun w2=> some (0,w2.1))
def a3L:FSem:=⟨[.r false (.b Q1),.v (.int .u64),.v QI],[.v QI],a0J⟩
def d6U:Hints:=⟨[(58,[.sv 1 (.int .u64),.sv 7 QI,.box pinned Q1,.ptr 0 pinned []],[(.exit 0,[.box pinned Q1])])],[(6,[(.normal,[.sv 1 (.int .u64),.sv 2 QI,.sv 24 .bool,.box pinned Q1,.ptr 0 pinned []])])],[]⟩
def a5T(s:((List Int)×Z42)):Option (((List Int)×Z42) ⊕ Z9):= cond (decide (s.2.2.1<(s.1.length:Int))) ((l0z s.1 s.2.2.1).bind fun x2=> cond (decide ((wrap .u64 s.2.1)<0)) none ((a0J (s.2.2.2.1,bits .u64 .and (wrap .u64 x2) (wrap .u64 ((z0g .u64 1 (wrap .u64 s.2.1))-1)),s.2.1)).bind fun y3=> some (.inl (s.1,s.2.1,wrap .i64 (s.2.2.1+1),y3.2,())))) (some (.inr (s.2.2.2.1,())))
def a2y(x:(((List Int)×Unit)×((List Int)×Int))):Option ((List Int)×Unit):= (x0r a5T (x.2.1,x.2.2,0,x.1,())).bind fun w4=> some w4.1
def a8N:FSem:=⟨[.r false (.b Q1),.v QL,.v QI],[],a2y⟩
def d6V:Hints:=⟨[(6,[.sv 1 QL,.sv 2 QI,.sv 6 QI,.box pinned Q1,.ptr 0 pinned []],[(.exit 0,[.box pinned Q1])])],[],[]⟩
def a5v(x:(((List Int)×Unit)×a1E)):Option ((List Int)×Unit):= (a0J (x.1,wrap .u64 (wrap .i64 ((x.2.2.2.2.2.2.1.length:Int)-1)),5)).bind fun y1=> (a0J (y1.2,wrap .u64 x.2.2.2.2.1,4)).bind fun y2=> (a6B x.2.2.2.2.2.2.1).bind fun y3=> (a0J (y2.2,wrap .u64 y3,5)).bind fun y4=> (a2y (y4.2,x.2.2.2.2.2.2.1,y3)).bind fun y5=> some y5
def b4F:FSem:=⟨[.r false (.b Q1),.v Q39],[],a5v⟩
def d6W:Hints:=⟨[],[],[]⟩
def b1E(x:Int):Option Int:= (show Option (Int×Unit)from cond (decide (x<0)) (some (bits .u64 .xor (IntKind.max .u64) (z0g .u64 (wrap .u64 x) 1),())) (some (z0g .u64 (wrap .u64 x) 1,()))).bind fun z1=> some z1.1
def b9I:FSem:=⟨[.v QI],[.v (.int .u64)],b1E⟩
def d6X:Hints:=⟨[],[(7,[(.normal,[.sv 3 (.int .u64)])])],[]⟩
def b2D(x:Int):Option Int:= (a2f x).bind fun y1=> cond (!y1) (some 0) ((b1E x).bind fun y2=> some y2)
def b8a:FSem:=⟨[.v QI],[.v (.int .u64)],b2D⟩
def d6Y:Hints:=⟨[],[],[]⟩
def a9C(x:(Int×Int)):Option Int:= (show Option Z10 from(a2x x.1).bind fun y1=> cond (!y1) (some (x.1,x.2,true,())) ((a2f x.2).bind fun y2=> some (x.1,x.2,!y2,()))).bind fun z3=> cond z3.2.2.1 (some 0) ((b2D z3.2.1).bind fun y4=> cond (decide ((wrap .u64 z3.1)<0)) none (cond (decide ((wrap .i64 (z0h .u64 y4 (wrap .u64 z3.1)))<32)) (some (wrap .i64 ((wrap .i64 ((wrap .i64 (z0h .u64 y4 (wrap .u64 z3.1)))+1))+z3.1))) (some 65)))
def b7h:FSem:=⟨[.v QI,.v QI],[.v QI],a9C⟩
def d6Z:Hints:=⟨[],[(6,[(.normal,[.sv 0 QI,.sv 1 QI,.sv 13 .bool])])],[]⟩
def a7O(s:Z32):Option Z72:= cond (decide (s.2.2.2.1<(s.2.1.length:Int))) ((l0z s.2.1 s.2.2.2.1).bind fun x1=> (a9C (s.1,x1)).bind fun y2=> some (.inl (s.1,s.2.1,wrap .i64 (s.2.2.1+y2),wrap .i64 (s.2.2.2.1+1),()))) (some (.inr (s.2.2.1,())))
def b0Z(x:(Int×(List Int))):Option Int:= (x0r a7O (x.1,x.2,0,0,())).bind fun w3=> some w3.1
def b8b:FSem:=⟨[.v QI,.v QL],[.v QI],b0Z⟩
def d7a:Hints:=⟨[(58,[.sv 0 QI,.sv 1 QL,.sv 5 QI,.sv 6 QI],[(.exit 0,[.sv 5 QI])])],[],[]⟩
def a9D(x:(Int×(List Int))):Option Int:= cond (x.1==31) ((a6B x.2).bind fun y1=> some (wrap .i64 (5+(wrap .i64 ((x.2.length:Int)*y1))))) ((b0Z (x.1,x.2)).bind fun y2=> some y2)
def b7i:FSem:=⟨[.v QI,.v QL],[.v QI],a9D⟩
def d7b:Hints:=⟨[],[],[]⟩
def a5U(s:Z95):Option (Z95 ⊕ (Int×Unit)):= cond (decide (s.2.2.2.1<(s.2.2.2.2.1.length:Int))) ((l0z s.2.2.2.2.2.1.2.1 s.2.2.2.1).bind fun x5=> cond ((decide (0≤s.2.2.2.1))&&(decide (s.2.2.2.1<(s.2.2.2.2.1.length:Int)))) (cond ((decide (0≤(wrap .i64 (s.2.2.1+(a02 s.2.2.2.2.1 (a00 s.2.2.2.1) 0)))))&&(decide ((wrap .i64 (s.2.2.1+(a02 s.2.2.2.2.1 (a00 s.2.2.2.1) 0)))≤(s.1.length:Int)))) (cond ((decide (0≤s.2.2.1))&&(decide (s.2.2.1≤((a00 (wrap .i64 (s.2.2.1+(a02 s.2.2.2.2.1 (a00 s.2.2.2.1) 0))):Nat):Int)))) ((a9D (x5,a23 (a00 s.2.2.1) (a06 (a00 (wrap .i64 (s.2.2.1+(a02 s.2.2.2.2.1 (a00 s.2.2.2.1) 0)))) s.1))).bind fun y6=> cond ((decide (0≤s.2.2.2.1))&&(decide (s.2.2.2.1<(s.2.2.2.2.1.length:Int)))) (some (.inl (s.1,wrap .i64 ((wrap .i64 (s.2.1+5))+y6),wrap .i64 (s.2.2.1+(a02 s.2.2.2.2.1 (a00 s.2.2.2.1) 0)),wrap .i64 (s.2.2.2.1+1),s.2.2.2.2.1,s.2.2.2.2.2.1,()))) none) none) none) none) (some (.inr (s.2.1,())))
def a8O(x:Z64):Option Int:= (show Option (Int×(Int×((List Int)×Z43)))from(a5a (x.1,x.2.1,x.2.2.1)).bind fun y1=> cond (!y1) (some (x.2.1,x.2.2.1,x.2.2.2,true,x.1,())) (cond ((x.2.2.2.length:Int) != (wrap .i64 (x.2.1-x.2.2.1))) (some (x.2.1,x.2.2.1,x.2.2.2,true,x.1,())) ((a1t x.2.2.2).bind fun y2=> some (x.2.1,x.2.2.1,x.2.2.2,!y2,x.1,())))).bind fun z3=> cond z3.2.2.2.1 (some 0) ((a3J (z3.2.2.2.2.1.1,z3.1,z3.2.1)).bind fun y4=> (x0r a5U (z3.2.2.1,4,0,0,y4,z3.2.2.2.2.1,())).bind fun w7=> some w7.1)
def b5J:FSem:=⟨[.v Q8,.v QI,.v QI,.v QL],[.v QI],a8O⟩
def d7c:Hints:=⟨[(250,[.sv 3 QL,.sv 9 QI,.sv 10 QI,.sv 12 QI,.own 11 11 QI,.vp 4 Q8],[(.exit 0,[.sv 9 QI])])],[(6,[(.normal,[.sv 1 QI,.sv 2 QI,.sv 3 QL,.sv 30 .bool,.vp 4 Q8])])],[(8,[.v,.v,.v,.v,.v,.v,.v,.v,.v,.v,.q,.v,.q,.q,.v,.v,.v,.x,.x])]⟩
def a4f(s:Z42):Option (Z42 ⊕ Z9):= cond (decide (s.2.1<s.1)) (cond (lim ((a01 s.2.2.1.1)+1)) (some (.inl (s.1,wrap .i64 (s.2.1+1),(a04 s.2.2.1.1 [0],s.2.2.1.2),()))) none) (some (.inr (s.2.2.1,())))
def a2R(x:(((List Int)×Unit)×Int)):Option Z5:= (show Option (Int×Bool×Z9)from cond (decide (x.2<0)) (some (x.2,true,x.1,())) (some (x.2,decide (x.2 > 4096),x.1,()))).bind fun z1=> cond z1.2.1 (some (1,z1.2.2.1)) ((x0r a4f (z1.1,0,z1.2.2.1,())).bind fun w2=> cond (lim ((a01 w2.1.1)+1)) (some (0,a04 w2.1.1 [1],w2.1.2)) none)
def b3i:FSem:=⟨[.r false (.b Q1),.v QI],[.v QI],a2R⟩
def d7d:Hints:=⟨[(58,[.sv 1 QI,.sv 5 QI,.box pinned Q1,.ptr 0 pinned []],[(.exit 0,[.box pinned Q1,.ptr 0 pinned []])])],[(6,[(.normal,[.sv 1 QI,.sv 11 .bool,.box pinned Q1,.ptr 0 pinned []])])],[]⟩
def a5w(s:(Int×((List Int)×Z25))):Option ((Int×((List Int)×Z25)) ⊕ Z9):= cond (decide (s.2.2.1<(s.2.1.length:Int))) ((l0z s.2.1 s.2.2.1).bind fun x4=> (b2D x4).bind fun y5=> cond (decide ((wrap .u64 s.1)<0)) none (cond (decide ((wrap .i64 (z0h .u64 y5 (wrap .u64 s.1)))<32)) ((a2R (s.2.2.2.1,wrap .i64 (z0h .u64 y5 (wrap .u64 s.1)))).bind fun y6=> cond (decide ((wrap .u64 s.1)<0)) none ((a0J (y6.2,bits .u64 .and y5 (wrap .u64 ((z0g .u64 1 (wrap .u64 s.1))-1)),s.1)).bind fun y7=> some (.inl (s.1,s.2.1,wrap .i64 (s.2.2.1+1),y7.2,())))) ((a2R (s.2.2.2.1,32)).bind fun y8=> (a0J (y8.2,y5,32)).bind fun y9=> some (.inl (s.1,s.2.1,wrap .i64 (s.2.2.1+1),y9.2,()))))) (some (.inr (s.2.2.2.1,())))
def b1a(x:(((List Int)×Unit)×(Int×(List Int)))):Option Z5:= (show Option (Int×((List Int)×(Bool×Z9)))from(a2x x.2.1).bind fun y1=> cond (!y1) (some (x.2.1,x.2.2,true,x.1,())) ((a1t x.2.2).bind fun y2=> some (x.2.1,x.2.2,!y2,x.1,()))).bind fun z3=> cond z3.2.2.1 (some (1,z3.2.2.2.1)) ((x0r a5w (z3.1,z3.2.1,0,z3.2.2.2.1,())).bind fun w10=> some (0,w10.1))
def b8c:FSem:=⟨[.r false (.b Q1),.v QI,.v QL],[.v QI],b1a⟩
def d7e:Hints:=⟨[(58,[.sv 1 QI,.sv 2 QL,.sv 7 QI,.box pinned Q1,.ptr 0 pinned []],[(.exit 0,[.box pinned Q1])])],[(6,[(.normal,[.sv 1 QI,.sv 2 QL,.sv 17 .bool,.box pinned Q1,.ptr 0 pinned []])])],[]⟩
def a3l(s:((List Int)×(Int×(Int×((List Int)×(((List Int)×Unit)×Z21)))))):Option (((List Int)×(Int×(Int×((List Int)×(((List Int)×Unit)×Z21))))) ⊕ Z9):= cond (decide (s.2.2.1<(s.2.2.2.1.length:Int))) (cond ((decide (0≤s.2.2.1))&&(decide (s.2.2.1<(s.2.2.2.1.length:Int)))) (cond ((decide (0≤(wrap .i64 (s.2.1+(a02 s.2.2.2.1 (a00 s.2.2.1) 0)))))&&(decide ((wrap .i64 (s.2.1+(a02 s.2.2.2.1 (a00 s.2.2.1) 0)))≤(s.1.length:Int)))) (cond ((decide (0≤s.2.1))&&(decide (s.2.1≤((a00 (wrap .i64 (s.2.1+(a02 s.2.2.2.1 (a00 s.2.2.1) 0))):Nat):Int)))) ((l0z s.2.2.2.2.2.1.2.1 s.2.2.1).bind fun x4=> (a0J (s.2.2.2.2.1,wrap .u64 x4,5)).bind fun y5=> (show Option ((List Int)×(Int×(Int×((List Int)×(((List Int)×Unit)×Z21)))))from(l0z s.2.2.2.2.2.1.2.1 s.2.2.1).bind fun x6=> cond (x6==31) ((a6B (a23 (a00 s.2.1) (a06 (a00 (wrap .i64 (s.2.1+(a02 s.2.2.2.1 (a00 s.2.2.1) 0)))) s.1))).bind fun y7=> (a0J (y5.2,wrap .u64 y7,5)).bind fun y8=> (a2y (y8.2,a23 (a00 s.2.1) (a06 (a00 (wrap .i64 (s.2.1+(a02 s.2.2.2.1 (a00 s.2.2.1) 0)))) s.1),y7)).bind fun y9=> some (s.1,s.2.1,s.2.2.1,s.2.2.2.1,y9,s.2.2.2.2.2.1,())) ((l0z s.2.2.2.2.2.1.2.1 s.2.2.1).bind fun x10=> (b1a (y5.2,x10,a23 (a00 s.2.1) (a06 (a00 (wrap .i64 (s.2.1+(a02 s.2.2.2.1 (a00 s.2.2.1) 0)))) s.1))).bind fun y11=> some (s.1,s.2.1,s.2.2.1,s.2.2.2.1,y11.2,s.2.2.2.2.2.1,()))).bind fun z12=> cond ((decide (0≤z12.2.2.1))&&(decide (z12.2.2.1<(z12.2.2.2.1.length:Int)))) (some (.inl (z12.1,wrap .i64 (z12.2.1+(a02 z12.2.2.2.1 (a00 z12.2.2.1) 0)),wrap .i64 (z12.2.2.1+1),z12.2.2.2.1,z12.2.2.2.2.1,z12.2.2.2.2.2.1,()))) none) none) none) none) (some (.inr (s.2.2.2.2.1,())))
def a9E(x:(((List Int)×Unit)×Z64)):Option Z5:= (a8O (x.2.1,x.2.2.1,x.2.2.2.1,x.2.2.2.2)).bind fun y1=> cond (y1==0) (some (1,x.1)) ((a0J (x.1,wrap .u64 x.2.1.1,4)).bind fun y2=> (a3J (x.2.1.1,x.2.2.1,x.2.2.2.1)).bind fun y3=> (x0r a3l (x.2.2.2.2,0,0,y3,y2.2,x.2.1,())).bind fun w13=> some (0,w13.1))
def b7j:FSem:=⟨[.r false (.b Q1),.v Q8,.v QI,.v QI,.v QL],[.v QI],a9E⟩
def d7f:Hints:=⟨[(250,[.sv 4 QL,.sv 12 QI,.sv 13 QI,.own 11 11 QI,.box pinned Q1,.ptr 0 pinned [],.vp 6 Q8],[(.exit 0,[.box pinned Q1])])],[(16019,[(.normal,[.sv 4 QL,.sv 12 QI,.sv 13 QI,.own 11 11 QI,.box pinned Q1,.ptr 0 pinned [],.vp 6 Q8])])],[]⟩
def a7P(s:(Int×c5S)):Option ((Int×c5S) ⊕ c5S):= cond (decide (s.2.2.1<(s.2.2.2.2.1.2.2.2.2.2.2.2.1.length:Int))) ((l0z s.2.2.2.2.1.2.2.2.2.2.2.2.1 s.2.2.1).bind fun x12=> (a0J (s.2.2.2.1,wrap .u64 (wrap .i64 (x12.1-1)),5)).bind fun y13=> (l0z s.2.2.2.2.1.2.2.2.2.2.2.2.1 s.2.2.1).bind fun x14=> (a0J (y13.2,wrap .u64 x14.2.1,4)).bind fun y15=> some (.inl (s.1,s.2.1,wrap .i64 (s.2.2.1+1),y15.2,s.2.2.2.2.1,()))) (some (.inr (s.1,s.2.1,s.2.2.2.1,s.2.2.2.2.1,())))
def a8h(x:(((List Int)×Unit)×a9K)):Option Z5:= (b0X (x.2.1,x.2.2)).bind fun y1=> cond (!y1) (some (1,x.1)) ((a6B x.2.1.2.2.2.2.2.2.2.2.1).bind fun y2=> (a0J (x.1,wrap .u64 x.2.1.1,3)).bind fun y3=> (a0J (y3.2,wrap .u64 x.2.1.2.1,5)).bind fun y4=> (a0J (y4.2,wrap .u64 y2,5)).bind fun y5=> (show Option c5S from cond (x.2.1.1==2) ((a0J (y5.2,wrap .u64 x.2.1.2.2.1,3)).bind fun y6=> some (x.2.2,y2,y6.2,x.2.1,())) (cond (x.2.1.1==3) ((a5v (y5.2,x.2.1)).bind fun y7=> some (x.2.2,y2,y7,x.2.1,())) (cond (x.2.1.1==4) ((a0J (y5.2,wrap .u64 (wrap .i64 (x.2.1.2.2.2.2.1-1)),10)).bind fun y8=> (a2y (y8.2,a06 3 x.2.1.2.2.2.2.2.2.1,8)).bind fun y9=> (a5v (y9,x.2.1)).bind fun y10=> some (x.2.2,y2,y10,x.2.1,())) (cond (x.2.1.1==5) ((a0J (y5.2,wrap .u64 (x.2.1.2.2.2.2.2.2.2.1.length:Int),2)).bind fun y11=> (x0r a7P (x.2.2,y2,0,y11.2,x.2.1,())).bind fun w16=> some (w16.1,w16.2.1,w16.2.2.1,w16.2.2.2.1,())) (some (x.2.2,y2,y5.2,x.2.1,())))))).bind fun z17=> (a2y (z17.2.2.1,z17.2.2.2.1.2.2.2.2.2.2.2.2.1,z17.2.1)).bind fun y18=> (a7e z17.2.2.2.1.1).bind fun y19=> cond y19 ((a9E (y18,z17.2.2.2.1.2.2.2.2.2.2.2.2.2.1,z17.1,(z17.2.2.2.1.2.2.2.2.2.2.2.2.1.length:Int),z17.2.2.2.1.2.2.2.2.2.2.2.2.2.2.1)).bind fun y20=> some (0,y20.2)) (some (0,y18)))
def b8d:FSem:=⟨[.r false (.b Q1),.v Q39,.v QI],[.v QI],a8h⟩
def H58:Hints:=⟨[(2086902,[.sv 2 QI,.sv 7 QI,.sv 8 QI,.box pinned Q1,.ptr 0 pinned [],.vp 4 Q39],[(.exit 1,[.sv 2 QI,.sv 7 QI,.box pinned Q1,.ptr 0 pinned [],.vp 4 Q39])])],[(127,[(.normal,[.sv 2 QI,.sv 7 QI,.box pinned Q1,.ptr 0 pinned [],.vp 4 Q39])])],[]⟩
def a4g(s:(Int×((List Int)×Z9))):Option ((Int×((List Int)×Z9)) ⊕ ((List Int)×Z9)):= cond (decide (s.1<(s.2.2.1.1.length:Int))) (cond ((decide (0≤(wrap .i64 (a07 s.1 8))))&&(decide ((wrap .i64 (a07 s.1 8))<(s.2.1.length:Int)))) (cond ((decide (0≤s.1))&&(decide (s.1<(s.2.2.1.1.length:Int)))) (cond (decide ((wrap .u64 (wrap .i64 (7-(a27 s.1 8))))<0)) none (cond ((decide (0≤(wrap .i64 (a07 s.1 8))))&&(decide ((wrap .i64 (a07 s.1 8))<(s.2.1.length:Int)))) (some (.inl (wrap .i64 (s.1+1),a05 s.2.1 (a00 (wrap .i64 (a07 s.1 8))) (bits .u8 .or (a02 s.2.1 (a00 (wrap .i64 (a07 s.1 8))) 0) (z0g .u8 (a02 s.2.2.1.1 (a00 s.1) 0) (wrap .u64 (wrap .i64 (7-(a27 s.1 8)))))),s.2.2.1,()))) none)) none) none) (some (.inr (s.2.1,s.2.2.1,())))
def a5V(x:((List Int)×Unit)):Option Z13:= cond ((decide (0≤(wrap .i64 (a07 (wrap .i64 ((x.1.length:Int)+7)) 8))))&&((decide ((wrap .i64 (a07 (wrap .i64 ((x.1.length:Int)+7)) 8))≤(wrap .i64 (a07 (wrap .i64 ((x.1.length:Int)+7)) 8))))&&(lim (a00 (wrap .i64 (a07 (wrap .i64 ((x.1.length:Int)+7)) 8)))))) ((x0r a4g (0,a03 (a00 (wrap .i64 (a07 (wrap .i64 ((x.1.length:Int)+7)) 8))) 0,x,())).bind fun w1=> some (w1.1,w1.2.1)) none
def b3j:FSem:=⟨[.r false (.b Q1)],[.o (.int .u8)],a5V⟩
def H59:Hints:=⟨[(58,[.sv 4 QI,.own 3 3 (.int .u8),.box pinned Q1,.ptr 0 pinned []],[(.exit 0,[.own 3 3 (.int .u8),.box pinned Q1])])],[],[(5,[.q,.v,.v,.q,.v,.v,.q,.q,.p,.p,.q,.q,.v,.q,.q,.v,.v,.v,.v,.v,.v,.x,.x])]⟩
def a6C(s:Z45):Option (Z45 ⊕ Z45):= cond (decide (s.2.2.1≥128)) (cond (lim ((a01 s.2.2.2.1)+1)) (some (.inl (s.1,s.2.1,z0h .u64 s.2.2.1 7,a04 s.2.2.2.1 [wrap .u8 (bits .u64 .or (bits .u64 .and s.2.2.1 127) 128)],()))) none) (some (.inr (s.1,s.2.1,s.2.2.1,s.2.2.2.1,())))
def a6D(s:Z29):Option (Z29 ⊕ ((List Int)×Unit)):= cond (decide (s.2.1<(s.1.length:Int))) ((l0z s.1 s.2.1).bind fun x1=> (x0r a6C (s.1,s.2.1,x1,s.2.2.1,())).bind fun w2=> cond (lim ((a01 w2.2.2.2.1)+1)) (some (.inl (w2.1,wrap .i64 (w2.2.1+1),a04 w2.2.2.2.1 [wrap .u8 w2.2.2.1],()))) none) (some (.inr (s.2.2.1,())))
def a2n(x:(List Int)):Option (List Int):= (x0r a6D (x,0,[],())).bind fun w3=> some w3.1
def b7k:FSem:=⟨[.v (.list false (.int .u64))],[.o (.int .u8)],a2n⟩
def d7g:Hints:=⟨[(58,[.sv 0 (.list false (.int .u64)),.sv 4 QI,.own 3 3 (.int .u8)],[(.exit 0,[.own 3 3 (.int .u8)])]),(7460,[.sv 0 (.list false (.int .u64)),.sv 4 QI,.sv 5 (.int .u64),.own 3 3 (.int .u8)],[(.exit 2,[.sv 0 (.list false (.int .u64)),.sv 4 QI,.sv 5 (.int .u64),.own 3 3 (.int .u8)])])],[],[]⟩
def a9F(s:(Int×(Int×((List Int)×a7U)))):Option ((Int×(Int×((List Int)×a7U))) ⊕ Z5):= cond (decide (s.2.1<(s.2.2.2.1.2.2.2.1.length:Int))) ((l0z s.2.2.2.1.2.2.2.1 s.2.1).bind fun x2=> (b1E x2.2.2.1).bind fun y3=> (a2n [wrap .u64 x2.1,wrap .u64 x2.2.1,y3]).bind fun y4=> cond (lim ((a01 s.2.2.1)+(a01 y4))) (some (.inl (s.1,wrap .i64 (s.2.1+1),a04 s.2.2.1 y4,s.2.2.2.1,()))) none) (some (.inr (s.1,s.2.2.1,())))
def b3v(x:c5T):Option (List Int):= (a2n ([wrap .u64 x.1.1,wrap .u64 x.1.2.1,wrap .u64 x.1.2.2.1.1,wrap .u64 x.1.2.2.1.2.1,wrap .u64 x.1.2.2.1.2.2.1,wrap .u64 (x.1.2.2.2.1.length:Int)]:List Int)).bind fun y1=> (x0r a9F (x.2,0,y1,x.1,())).bind fun w5=> (a2n [wrap .u64 w5.1]).bind fun y6=> cond (lim ((a01 w5.2.1)+(a01 y6))) (cond (lim (2+(a01 (a04 w5.2.1 y6)))) (some (a04 [245,75] (a04 w5.2.1 y6))) none) none
def c0K:FSem:=⟨[.v Q57,.v QI],[.o (.int .u8)],b3v⟩
def H60:Hints:=⟨[(58,[.sv 1 QI,.sv 6 QI,.own 5 5 (.int .u8),.vp 2 Q57],[(.exit 0,[.sv 1 QI,.own 5 5 (.int .u8)])])],[],[(6,[.q,.q,.q,.v,.q,.q,.v,.q,.q,.v,.q,.q,.x,.x])]⟩
def b2Z(s:Z34):Option (Z34 ⊕ Z17):= cond (decide (s.2.2.2.1<8)) (cond (decide (s.2.1≥128)) (some (.inl (s.1,bits .u8 .xor (z0g .u8 s.2.1 1) 7,s.2.2.1,wrap .i64 (s.2.2.2.1+1),()))) (some (.inl (s.1,z0g .u8 s.2.1 1,s.2.2.1,wrap .i64 (s.2.2.2.1+1),())))) (some (.inr (s.1,s.2.1,s.2.2.1,())))
def a9G(s:Z17):Option (Z17 ⊕ (Int×Unit)):= cond (decide (s.2.2.1<(s.1.length:Int))) ((l0z s.1 s.2.2.1).bind fun x1=> (x0r b2Z (s.1,bits .u8 .xor s.2.1 x1,s.2.2.1,0,())).bind fun w2=> some (.inl (w2.1,w2.2.1,wrap .i64 (w2.2.2.1+1),()))) (some (.inr (s.2.1,())))
def b3w(x:(List Int)):Option Int:= (x0r a9G (x,0,0,())).bind fun w3=> some w3.1
def c0L:FSem:=⟨[.v (.list false (.int .u8))],[.v (.int .u8)],b3w⟩
def H61:Hints:=⟨[(58,[.sv 0 (.list false (.int .u8)),.sv 3 (.int .u8),.sv 4 QI],[(.exit 0,[.sv 3 (.int .u8)])]),(7462,[.sv 0 (.list false (.int .u8)),.sv 3 (.int .u8),.sv 4 QI,.sv 5 QI],[(.exit 2,[.sv 0 (.list false (.int .u8)),.sv 3 (.int .u8),.sv 4 QI])])],[],[]⟩
def a9i(s:Z18):Option (Z18 ⊕ ((List Int)×Unit)):= cond (decide (s.2.1≥0)) (cond (decide ((wrap .u64 (wrap .i64 (8*s.2.1)))<0)) none (cond (lim ((a01 s.2.2.1)+1)) (some (.inl (s.1,wrap .i64 (s.2.1-1),a04 s.2.2.1 [wrap .u8 (z0h .u64 s.1 (wrap .u64 (wrap .i64 (8*s.2.1))))],()))) none)) (some (.inr (s.2.2.1,())))
def b6o(x:(Int×Int)):Option (List Int):= (x0r a9i (x.1,wrap .i64 ((u0z (v0a x.2 8) 0)-1),[],())).bind fun w1=> some w1.1
def c3L:FSem:=⟨[.v (.int .u64),.v QI],[.o (.int .u8)],b6o⟩
def H62:Hints:=⟨[(58,[.sv 0 (.int .u64),.sv 6 QI,.own 5 5 (.int .u8)],[(.exit 0,[.own 5 5 (.int .u8)])])],[],[]⟩
def b1b(s:Z34):Option (Z34 ⊕ Z17):= cond (decide (s.2.2.2.1<8)) (cond (decide (s.2.1≥32768)) (some (.inl (s.1,bits .u16 .xor (z0g .u16 s.2.1 1) 32773,s.2.2.1,wrap .i64 (s.2.2.2.1+1),()))) (some (.inl (s.1,z0g .u16 s.2.1 1,s.2.2.1,wrap .i64 (s.2.2.2.1+1),())))) (some (.inr (s.1,s.2.1,s.2.2.1,())))
def a7Q(s:Z17):Option (Z17 ⊕ (Int×Unit)):= cond (decide (s.2.2.1<(s.1.length:Int))) ((l0z s.1 s.2.2.1).bind fun x1=> (x0r b1b (s.1,bits .u16 .xor s.2.1 (z0g .u16 (wrap .u16 x1) 8),s.2.2.1,0,())).bind fun w2=> some (.inl (w2.1,w2.2.1,wrap .i64 (w2.2.2.1+1),()))) (some (.inr (s.2.1,())))
def b1c(x:(List Int)):Option Int:= (x0r a7Q (x,0,0,())).bind fun w3=> some w3.1
def b8e:FSem:=⟨[.v (.list false (.int .u8))],[.v (.int .u16)],b1c⟩
def H63:Hints:=⟨[(58,[.sv 0 (.list false (.int .u8)),.sv 3 (.int .u16),.sv 4 QI],[(.exit 0,[.sv 3 (.int .u16)])]),(7462,[.sv 0 (.list false (.int .u8)),.sv 3 (.int .u16),.sv 4 QI,.sv 5 QI],[(.exit 2,[.sv 0 (.list false (.int .u8)),.sv 3 (.int .u16),.sv 4 QI])])],[],[]⟩
def a5W(s:(Int×(((List Int)×Unit)×a7U))):Option ((Int×(((List Int)×Unit)×a7U)) ⊕ (((List Int)×Unit)×a7U)):= cond (decide (s.1<(s.2.2.1.2.2.2.2.1.length:Int))) ((l0z s.2.2.1.2.2.2.2.1 s.1).bind fun x2=> (a8h (s.2.1,x2,s.2.2.1.2.1)).bind fun y3=> some (.inl (wrap .i64 (s.1+1),y3.2,s.2.2.1,()))) (some (.inr (s.2.1,s.2.2.1,())))
def a6k(x:a5C):Option ((List Int)×Int):= (a8M x).bind fun y1=> cond (!y1) (some ([],1)) ((x0r a5W (0,([],()),x,())).bind fun w4=> (a5V w4.1).bind fun y5=> (b3v (w4.2.1,(y5.1.length:Int))).bind fun y6=> (b3w y6).bind fun y7=> cond (lim ((a01 y6)+1)) (cond (lim ((a01 (a04 y6 [y7]))+(a01 y5.1))) ((b1c (a04 (a04 y6 [y7]) y5.1)).bind fun y8=> (b6o (wrap .u64 y8,2)).bind fun y9=> cond (lim ((a01 (a04 (a04 y6 [y7]) y5.1))+(a01 y9))) (some (a04 (a04 (a04 y6 [y7]) y5.1) y9,0)) none) none) none)
def b5K:FSem:=⟨[.v Q57],[.o (.int .u8),.v QI],a6k⟩
def H20:Hints:=⟨[(122,[.sv 5 QI,.box 12 Q1,.vp 1 Q57,.ptr 4 12 []],[(.exit 0,[.box 12 Q1,.vp 1 Q57,.ptr 4 12 []])])],[],[(7,[.q,.v,.v,.v,.v,.v,.v,.v,.x])]⟩
def b4G(x:((List Int)×(List Int))):Option Bool:= some ((b2s x.1)==(b2s x.2))
def c2w:FSem:=⟨[.v (.list false (.int .u8)),.v (.list false (.int .u8))],[.v .bool],b4G⟩
def H22:Hints:=⟨[],[],[]⟩
def a9N(x:a5C):Option Bool:= (b5l ()).bind fun y1=> cond (!y1) (some false) ((b2j (x,100)).bind fun y2=> cond (!y2) (some true) ((a4Y x).bind fun y3=> (a4I x).bind fun y4=> (a5F x).bind fun y5=> (a6k x).bind fun y6=> (show Option (Int×Bool×Bool×Z14×Z33)from(a7n x).bind fun y7=> cond (y7 != y4.2) (some (y3.2,y4.2,true,y3.1,y4.1,())) (cond (y5.2 != y6.2) (some (y3.2,y4.2,true,y3.1,y4.1,())) ((b4G (y5.1,y6.1)).bind fun y8=> cond (!y8) (some (y3.2,y4.2,true,y3.1,y4.1,())) (some (y3.2,y4.2,(y3.2==0) != y4.2,y3.1,y4.1,()))))).bind fun z9=> cond z9.2.2.1 (some false) ((a5g (z9.2.2.2.1,z9.2.2.2.2.1)).bind fun y10=> cond y10 (cond z9.2.1 (some true) (some (z9.1==1))) (some false))))
def b3V:FSem:=⟨[.v Q57],[.v .bool],a9N⟩
def H3:Hints:=⟨[],[(510,[(.normal,[.sv 4 QI,.sv 6 .bool,.sv 56 .bool,.box 3 Q11,.box 5 Q11,.ptr 3 3 [],.ptr 5 5 []])])],[]⟩
end Go.Ab
namespace Go.Ab
open Go.Proofs
set_option maxRecDepth 100000
theorem b4H:Tryz.prog.follows .mixedOrders=true:=by kernel_rfl
theorem d7h:z0w Tryz.prog c3x=true:=by kernel_rfl
theorem d7i:z0u Tryz.prog c3F=true:=by kernel_rfl
theorem d7j:z0r Tryz.prog c3x c5W=true:=by kernel_rfl
theorem laidOut:laidOutB Tryz.prog=true:=by kernel_rfl
@[reducible] def Ok0(n:Nat)(s:FSem):Prop:=f0r Tryz.prog G0 n s∧i0o Tryz.prog n
theorem cxo{a:List (Nat×FSem)}{b:List (Nat×Ty)}{c d:List Nat}(h:∀p∈a,Ok0 p.1 p.2):CxOk Tryz.prog (a2q a b c d):=
 CxOk.of (CxTy.of (tab:=c3x) (l:=c5W) (q:=c3F) (fun _=>rfl) (fun _=>rfl) (fun _=>rfl) d7h d7i d7j) (fun _=>rfl) h
theorem fo (a : List (Nat × FSem)) (b : List (Nat × Ty)) (c d : List Nat) (H : Hints) {n : Nat} {fn : Func} {e : Code} {s : FSem} (h : ∀ p ∈ a, Ok0 p.1 p.2) (hf : Tryz.prog.funcs[n]? = some fn) (hb : fn.body = some e := by rfl) (hk : z0f fn e H s = true := by kernel_rfl) (hn : (fn.name == "runtime.NumGoroutine") = false := by kernel_rfl) (hq : ∀ x, z0c (a2q a b c d) H fn s.ps s.rs x = s.F x := by intro x; kernel_rfl) : Ok0 n s :=
 ⟨f0r.of (cxo h) b4H hf hb hk hq,⟨_,_,hf,hb,hn⟩⟩
theorem c9k:Ok0 109 b2J:=
 fo [] [] [0,2] [] d4r a0 Tryz.func109
theorem d1u:Ok0 77 b2K:=
 fo [(109,b2J)] [] [0,2] [1] H77 (a1 c9k a0) Tryz.func77
theorem c6b:Ok0 102 b3m:=
 fo [] [] [0,1,4] [] d4s a0 Tryz.func102
theorem d1v:Ok0 44 a9o:=
 fo [(77,b2K),(102,b3m)] [] [0,2] [1] H44 (a1 d1u (a1 c6b a0)) Tryz.func44
theorem c8n:Ok0 90 a9p:=
 fo [] [] [0,2,4] [] H90 a0 Tryz.func90
theorem c6c:Ok0 126 a7W:=
 fo [] [] [0,2] [] d4t a0 Tryz.func126
theorem c6d:Ok0 217 a9Y:=
 fo [] [] [0,1,4,6] [] d4u a0 Tryz.func217
theorem c6e:Ok0 218 b3n:=
 fo [] [] [0,1,4,6] [3] d4v a0 Tryz.func218
theorem c9l:Ok0 281 b2L:=
 fo [] [] [0,2] [1] d4w a0 Tryz.func281
theorem c6f:Ok0 219 b1S:=
 fo [(281,b2L)] [] [0,2] [] d4x (a1 c9l a0) Tryz.func219
theorem c6g:Ok0 149 b2z:=
 fo [(217,a9Y),(218,b3n),(219,b1S)] [] [0,1,2,6,8,11,27,41,62] [4] d4y (a1 c6d (a1 c6e (a1 c6f a0))) Tryz.func149
theorem c6h:Ok0 150 a7Y:=
 fo [] [] [0,1,4,7,9,12,16] [2] d4z a0 Tryz.func150
theorem c3M:Ok0 87 a0U:=
 ⟨f0r.of (cx:=d0Z) (cxo a0) b4H Tryz.func87 rfl (by kernel_rfl) d4A,⟨_,_,Tryz.func87,rfl,by kernel_rfl⟩⟩
theorem d2e:Ok0 87 a1F:=
 ⟨f0r.of (cx:=c9i) (cxo a0) b4H Tryz.func87 rfl (by kernel_rfl) d2a,⟨_,_,Tryz.func87,rfl,by kernel_rfl⟩⟩
theorem d1w:Ok0 229 a0Z:=
 ⟨f0r.of (cx:=c7q) (cxo a0) b4H Tryz.func229 rfl (by kernel_rfl) d1a,⟨_,_,Tryz.func229,rfl,by kernel_rfl⟩⟩
theorem c9m:Ok0 169 b3G:=
 fo [(87,a1F),(229,a0Z)] [] [0,1,9,11,13,15] [3] d4C (a1 d2e (a1 d1w a0)) Tryz.func169
theorem d2f:Ok0 188 b8U:=
 fo [(169,b3G)] [] [0,2] [1] d4D (a1 c9m a0) Tryz.func188
theorem c6i:Ok0 220 a8X:=
 fo [] [] [0,1,4] [] d4E a0 Tryz.func220
theorem c0M:Ok0 209 a3Q:=
 fo [(220,a8X)] [] [0,1,2,6,7,8] [] d4F (a1 c6i a0) Tryz.func209
theorem c9n:Ok0 189 b5a:=
 fo [(209,a3Q)] [] [0,1,2,6,7,9] [3] d4G (a1 c0M a0) Tryz.func189
theorem d2g:Ok0 103 b7y:=
 fo [(90,a9p),(126,a7W),(149,b2z),(150,a7Y),(188,b8U),(189,b5a)] [] [0,1,4,5] [2] d4H (a1 c8n (a1 c6c (a1 c6g (a1 c6h (a1 d2f (a1 c9n a0)))))) Tryz.func103
theorem c9o:Ok0 251 b3H:=
 fo [] [] [0,2,4] [] d4I a0 Tryz.func251
theorem d2h:Ok0 294 b4s:=
 fo [] [] [0,1,3] [] d4J a0 Tryz.func294
theorem d2i:Ok0 252 b6Y:=
 fo [(294,b4s)] [] [0,1,4,5,8,12,20,32] [] d4K (a1 d2h a0) Tryz.func252
theorem d2j:Ok0 190 b7z:=
 fo [(251,b3H),(252,b6Y)] [] [0,1,2,6,7,8,10,11] [] d4L (a1 c9o (a1 d2i a0)) Tryz.func190
theorem c6j:Ok0 255 a9r:=
 fo [] [] [0,2] [] d4M a0 Tryz.func255
theorem c6k:Ok0 253 a6s:=
 fo [(255,a9r)] [] [0,2,4] [] d4N (a1 c6j a0) Tryz.func253
theorem c9p:Ok0 254 a9L:=
 fo [] [] [0,1,2,6,7,8,9,10] [] d4O a0 Tryz.func254
theorem d2k:Ok0 191 b6Z:=
 fo [(217,a9Y),(253,a6s),(254,a9L),(255,a9r)] [] [0,1,2,3,8,9,10,12,13] [] d4P (a1 c6d (a1 c6k (a1 c9p (a1 c6j a0)))) Tryz.func191
theorem c6l:Ok0 258 b1U:=
 fo [] [] [0,2] [] d4Q a0 Tryz.func258
theorem c6m:Ok0 256 a8s:=
 fo [(258,b1U)] [] [0,2,4] [] d4R (a1 c6l a0) Tryz.func256
theorem c9q:Ok0 257 b1x:=
 fo [] [] [0,1,2,3,8,9,10,11,12] [7] d4S a0 Tryz.func257
theorem d2l:Ok0 192 b8V:=
 fo [(218,b3n),(256,a8s),(257,b1x),(258,b1U)] [] [0,1,2,6,7,8,9,10,11] [5] d4T (a1 c6e (a1 c6m (a1 c9q (a1 c6l a0)))) Tryz.func192
theorem c6n:Ok0 263 b0B:=
 fo [] [] [0,2] [] d4U a0 Tryz.func263
theorem c9r:Ok0 259 b0C:=
 fo [(263,b0B)] [] [0,2,4] [] d4V (a1 c6n a0) Tryz.func259
theorem c9s:Ok0 261 b5b:=
 fo [(281,b2L)] [(15,.pair QI Q10),(16,.pair QI Q10)] [0,2,3] [1] d4W (a1 c9l a0) Tryz.func261
theorem c9t:Ok0 296 b0D:=
 fo [] [] [0,2] [] d4X a0 Tryz.func296
theorem c6o:Ok0 262 a4d:=
 fo [(296,b0D)] [] [0,2,3,4,5] [] d4Y (a1 c9t a0) Tryz.func262
theorem c9u:Ok0 264 a7u:=
 fo [(262,a4d),(296,b0D)] [] [0,1,4,5,6,7,8,13,22] [] d4Z (a1 c6o (a1 c9t a0)) Tryz.func264
theorem d2m:Ok0 193 a7Z:=
 ⟨f0r.ofR (cx:=c9j) (cxo (a1 c3M (a1 c6f (a1 c9r (a1 c9s (a1 c6o (a1 c6n (a1 c9u a0)))))))) b4H (r:=d1b) ⟨c9W,c9X⟩ Tryz.func193 rfl (by kernel_rfl) d2c,⟨_,_,Tryz.func193,rfl,by kernel_rfl⟩⟩
theorem c9v:Ok0 173 b2M:=
 fo [] [] [0,2] [] d5b a0 Tryz.func173
theorem d2n:Ok0 194 b8W:=
 fo [(173,b2M)] [] [0,1,4,5,6,8] [] d5c (a1 c9v a0) Tryz.func194
theorem d2o:Ok0 104 c0B:=
 fo [(190,b7z),(191,b6Z),(192,b8V),(193,a7Z),(194,b8W)] [] [0,1,4,5,6,7,10,24,28,40,54,79] [2] d5d (a1 d2j (a1 d2k (a1 d2l (a1 d2m (a1 d2n a0))))) Tryz.func104
theorem d1x:Ok0 45 b7A:=
 fo [(103,b7y),(104,c0B)] [] [0,1,4,5,6,7] [2] H45 (a1 d2g (a1 d2o a0)) Tryz.func45
theorem c9w:Ok0 195 b5c:=
 fo [] [] [0,2] [] d5e a0 Tryz.func195
theorem c6p:Ok0 105 b1W:=
 fo [(195,b5c)] [] [0,2,4,6] [] d5f (a1 c9w a0) Tryz.func105
theorem c9x:Ok0 106 b2N:=
 fo [(87,a0U)] [(15,.list true (.list true QI))] [0,2,3,5] [] d5g (a1 c3M a0) Tryz.func106
theorem c9y:Ok0 108 b3I:=
 fo [(195,b5c)] [] [0,1,2,6,7,8,9] [4] d5h (a1 c9w a0) Tryz.func108
theorem d7k:Ok0 46 a9c:=
 ⟨f0r.ofR (cx:=d1c) (cxo (a1 c6b (a1 c6p (a1 c9x (a1 c9y a0))))) b4H (r:=R46) ⟨c9Y,c9Z⟩ Tryz.func46 rfl (by kernel_rfl) d5i,⟨_,_,Tryz.func46,rfl,by kernel_rfl⟩⟩
theorem d1y:Ok0 35 b5d:=
 fo [] [] [0,2] [1] H35 a0 Tryz.func35
theorem d2p:Ok0 197 b7B:=
 fo [] [] [0,2] [] d5j a0 Tryz.func197
theorem d2q:Ok0 198 b7a:=
 fo [] [] [0,2] [] d5k a0 Tryz.func198
theorem c6q:Ok0 110 a9s:=
 fo [(197,b7B),(198,b7a)] [] [0,1,4] [] d5l (a1 d2p (a1 d2q a0)) Tryz.func110
theorem c8o:Ok0 47 b1Y:=
 fo [(35,b5d),(109,b2J),(110,a9s)] [] [0,2,4,6] [1] H47 (a1 d1y (a1 c9k (a1 c6q a0))) Tryz.func47
theorem c8p:Ok0 17 a9t:=
 fo [(44,a9o),(45,b7A),(46,a9c),(47,b1Y)] [] [0,3,4,7,8,9,10] [1] H17 (a1 d1v (a1 d1x (a1 d7k (a1 c8o a0)))) Tryz.func17
theorem c8q:Ok0 21 a9d:=
 fo [(17,a9t)] [] [0,2,4] [1] H21 (a1 c8p a0) Tryz.func21
theorem c9z:Ok0 121 b4u:=
 fo [(45,b7A)] [] [0,1,4,5,6] [2] d5m (a1 d1x a0) Tryz.func121
theorem b6p:Ok0 122 a1A:=
 fo [(110,a9s)] [] [0,2,3,5] [] d5n (a1 c6q a0) Tryz.func122
theorem c6r:Ok0 128 a5K:=
 fo [] [] [0,1] [] d5o a0 Tryz.func128
theorem c0N:Ok0 123 a2P:=
 fo [(128,a5K)] [] [0,1,2,6,7] [] d5p (a1 c6r a0) Tryz.func123
theorem c9A:Ok0 124 b0F:=
 fo [(123,a2P)] [] [0,1,2] [] d5q (a1 c0N a0) Tryz.func124
theorem d2r:Ok0 125 b5z:=
 fo [(122,a1A),(123,a2P),(124,b0F)] [] [0,1,4,6] [3] d5r (a1 b6p (a1 c0N (a1 c9A a0))) Tryz.func125
theorem c9B:Ok0 234 b2P:=
 fo [(220,a8X)] [] [0,1,2,6,8] [] d5s (a1 c6i a0) Tryz.func234
theorem c9C:Ok0 272 b5e:=
 fo [(122,a1A)] [] [0,2] [] d5t (a1 b6p a0) Tryz.func272
theorem c6s:Ok0 274 a4z:=
 fo [] [] [0,2] [] d5u a0 Tryz.func274
theorem c6t:Ok0 275 b1Z:=
 fo [] [] [0,2] [] d5v a0 Tryz.func275
theorem c9D:Ok0 276 b5f:=
 fo [(275,b1Z)] [] [0,2,3,7] [] d5w (a1 c6t a0) Tryz.func276
theorem d2s:Ok0 299 b8X:=
 fo [(274,a4z),(275,b1Z),(276,b5f)] [] [0,1,4,5] [] d5x (a1 c6s (a1 c6t (a1 c9D a0))) Tryz.func299
theorem c6u:Ok0 273 b3p:=
 fo [(299,b8X)] [] [0,1,4,5,7] [] d5y (a1 d2s a0) Tryz.func273
theorem c9E:Ok0 208 b3L:=
 fo [(189,b5a),(209,a3Q),(234,b2P),(272,b5e),(273,b3p)] [] [0,1,2,3,8,9,10,11,12] [4] d5z (a1 c9n (a1 c0M (a1 c9B (a1 c9C (a1 c6u a0))))) Tryz.func208
theorem d2t:Ok0 277 b1s:=
 fo [(128,a5K)] [] [0,1,4] [] d5A (a1 c6r a0) Tryz.func277
theorem d2u:Ok0 210 c0C:=
 fo [(123,a2P),(274,a4z),(275,b1Z),(276,b5f),(277,b1s)] [] [0,1,2,6,8,10,11,12] [] d5B (a1 c0N (a1 c6s (a1 c6t (a1 c9D (a1 d2t a0))))) Tryz.func210
theorem d2v:Ok0 127 b8Y:=
 fo [(122,a1A),(123,a2P),(208,b3L),(209,a3Q),(210,c0C)] [] [0,1,2,3,4,10,11,12,13,14,16] [6] d5C (a1 b6p (a1 c0N (a1 c9E (a1 c0M (a1 d2u a0))))) Tryz.func127
theorem d1z:Ok0 51 b7C:=
 fo [(121,b4u),(122,a1A),(123,a2P),(124,b0F),(125,b5z),(126,a7W),(127,b8Y)] [] [0,1,2,6,7,9,13,37,39,41,43] [4] H51 (a1 c9z (a1 b6p (a1 c0N (a1 c9A (a1 d2r (a1 c6c (a1 d2v a0))))))) Tryz.func51
theorem d7l:Ok0 52 b1t:=
 fo [(128,a5K)] [] [0] [] H52 (a1 c6r a0) Tryz.func52
theorem d7m:Ok0 53 b1u:=
 fo [] [] [0,2] [] H53 a0 Tryz.func53
theorem d2w:Ok0 129 b8Z:=
 fo [] [] [0,2] [] d5D a0 Tryz.func129
theorem d2x:Ok0 130 b9a:=
 fo [] [] [0,2,3,5] [] d5E a0 Tryz.func130
theorem c9F:Ok0 131 b0L:=
 fo [] [] [0,2,3,5,6] [] d5F a0 Tryz.func131
theorem d7n:Ok0 54 b4v:=
 fo [(129,b8Z),(130,b9a),(131,b0L)] [] [0,1,4,5,8] [2] H54 (a1 d2w (a1 d2x (a1 c9F a0))) Tryz.func54
theorem d2y:Ok0 211 b7b:=
 fo [] [] [0,2] [] d5G a0 Tryz.func211
theorem d2z:Ok0 132 b7c:=
 fo [(211,b7b)] [] [0,1,4,5] [] d5H (a1 d2y a0) Tryz.func132
theorem d2A:Ok0 133 a5I:=⟨c8g _,⟨_,_,Tryz.func133,rfl,by kernel_rfl⟩⟩
theorem d7o:Ok0 55 b9b:=
 fo [(132,b7c),(133,a5I)] [] [0,1,4,5] [] H55 (a1 d2z (a1 d2A a0)) Tryz.func55
theorem d1A:Ok0 56 a8A:=
 fo [] [] [0,2,3,5,6] [] H56 a0 Tryz.func56
theorem d1B:Ok0 19 b5g:=
 fo [(21,a9d),(51,b7C),(52,b1t),(53,b1u),(54,b4v),(55,b9b),(56,a8A)] [(4,.pair (.list true (.int .u8)) Q0)] [0,2,3,7,8,9] [1] H19 (a1 c8q (a1 d1z (a1 d7l (a1 d7m (a1 d7n (a1 d7o (a1 d1A a0))))))) Tryz.func19
theorem c8r:Ok0 88 a9w:=
 fo [] [] [0,1,4,5] [] H88 a0 Tryz.func88
theorem d7p:Ok0 64 b5A:=
 fo [(88,a9w)] [] [0,1,4,5] [] H64 (a1 c8r a0) Tryz.func64
theorem d1C:Ok0 23 b0M:=
 fo [(64,b5A)] [] [0,1,4] [2,3] H23 (a1 d7p a0) Tryz.func23
theorem d2B:Ok0 142 b5h:=
 fo [] [] [0,2] [] d5I a0 Tryz.func142
theorem d2C:Ok0 214 b1y:=
 fo [] [] [0,2,3,4,5,6,7] [] d1d a0 Tryz.func214
theorem d2D:Ok0 143 a8b:=
 fo [(214,b1y)] [] [0,1,4,5,6,7] [] d1e (a1 d2C a0) Tryz.func143
theorem d2E:Ok0 144 b5i:=
 fo [] [] [0,2,3] [] d1f a0 Tryz.func144
theorem d2F:Ok0 145 a8c:=
 fo [] [] [0,2] [] d5J a0 Tryz.func145
theorem d2G:Ok0 146 a7v:=
 fo [] [] [0,2] [] d5K a0 Tryz.func146
theorem d2H:Ok0 147 a8R:=
 fo [] [] [0,2] [] d5L a0 Tryz.func147
theorem d1D:Ok0 65 a7D:=
 fo [(44,a9o),(131,b0L),(142,b5h),(143,a8b),(144,b5i),(145,a8c),(146,a7v),(147,a8R)] [(2,.pair QI Q52),(15,.pair QI Q51),(26,.pair QI Q51),(83,.pair QI Q51),(88,.pair QI Q51),(101,.pair QI Q51),(105,.pair QI Q51)] [0,3,4,5,6,7,8,9,10,11] [] H65 (a1 d1v (a1 c9F (a1 d2B (a1 d2D (a1 d2E (a1 d2F (a1 d2G (a1 d2H a0)))))))) Tryz.func65
theorem d7q:Ok0 66 b6i:=
 fo [] [] [0,2] [] H66 a0 Tryz.func66
theorem c1T:Ok0 70 a0V:=
 fo [] [] [0,2] [] H70 a0 Tryz.func70
theorem d1E:Ok0 68 a3s:=
 fo [] [] [0,2] [] H68 a0 Tryz.func68
theorem c6v:Ok0 153 a1P:=
 fo [] [] [0,1,4] [] d1g a0 Tryz.func153
theorem b8K:Ok0 215 a0W:=
 fo [(68,a3s),(153,a1P)] [] [0,1,4,5] [] d1h (a1 d1E (a1 c6v a0)) Tryz.func215
theorem c3y:Ok0 151 a1j:=
 fo [(215,a0W)] [] [0,1,4,5] [] d1i (a1 b8K a0) Tryz.func151
theorem d2I:Ok0 216 b1z:=
 fo [(122,a1A),(151,a1j),(215,a0W)] [] [0,1,4,5,6] [] d1j (a1 b6p (a1 c3y (a1 b8K a0))) Tryz.func216
theorem d2J:Ok0 148 b2R:=
 fo [(151,a1j),(215,a0W),(216,b1z)] [(2,.pair QI Q35)] [0,3,4,5,6,7,21,23,25,27] [] d1k (a1 c3y (a1 b8K (a1 d2I a0))) Tryz.func148
theorem d2K:Ok0 307 a7w:=
 fo [(153,a1P)] [] [0,1,4,5,6] [] d1l (a1 c6v a0) Tryz.func307
theorem d2L:Ok0 308 b2S:=
 fo [] [] [0,2,3,6] [] d1m a0 Tryz.func308
theorem d2M:Ok0 300 b6k:=
 fo [(70,a0V),(215,a0W),(307,a7w),(308,b2S)] [] [0,1,4,5,6,7,8] [] d1n (a1 c1T (a1 b8K (a1 d2K (a1 d2L a0)))) Tryz.func300
theorem d2N:Ok0 282 b6l:=
 fo [(70,a0V),(274,a4z),(300,b6k)] [] [0,1,2,6,7,8,9,10] [] d1o (a1 c1T (a1 c6s (a1 d2M a0))) Tryz.func282
theorem d2O:Ok0 221 b5j:=
 fo [(70,a0V),(122,a1A),(151,a1j),(215,a0W),(282,b6l)] [] [0,1,4,5,6,7,8,9,10,11] [] d1p (a1 c1T (a1 b6p (a1 c3y (a1 b8K (a1 d2N a0))))) Tryz.func221
theorem d2P:Ok0 152 b5k:=
 fo [(70,a0V),(209,a3Q),(215,a0W),(220,a8X),(221,b5j)] [(11,.pair QI Q2),(41,.pair QI Q2)] [0,1,2,7,8,9,10,12,14,15,16,17] [] d1q (a1 c1T (a1 c0M (a1 b8K (a1 c6i (a1 d2O a0))))) Tryz.func152
theorem d7r:Ok0 67 b7H:=
 fo [(70,a0V),(121,b4u),(122,a1A),(126,a7W),(148,b2R),(149,b2z),(150,a7Y),(151,a1j),(152,b5k)] [(7,.pair QI Q36)] [0,1,5,6,8,9,10,11,12] [] H67 (a1 c1T (a1 c9z (a1 b6p (a1 c6c (a1 d2J (a1 c6g (a1 c6h (a1 c3y (a1 d2P a0))))))))) Tryz.func67
theorem d7s:Ok0 69 a7x:=
 fo [(153,a1P)] [] [0,2,3] [] H69 (a1 c6v a0) Tryz.func69
theorem d1F:Ok0 24 b0N:=
 fo [(21,a9d),(56,a8A),(65,a7D),(66,b6i),(67,b7H),(68,a3s),(69,a7x),(70,a0V)] [(5,.pair QI Q53)] [0,3,4,6,7,8,9,10,12] [] H24 (a1 c8q (a1 d1A (a1 d1D (a1 d7q (a1 d7r (a1 d1E (a1 d7s (a1 c1T a0)))))))) Tryz.func24
theorem d7t:Ok0 26 b7K:=
 fo [(65,a7D)] [] [0,3,4,5,7,8,9] [] H26 (a1 d1D a0) Tryz.func26
theorem d2Q:Ok0 100 b3M:=
 fo [] [] [0,1,4,5] [] d5M a0 Tryz.func100
theorem d2R:Ok0 101 b5B:=
 fo [(88,a9w)] [] [0,1,4] [2,3] d5N (a1 c8r a0) Tryz.func101
theorem d1G:Ok0 42 a9y:=
 fo [(88,a9w),(100,b3M),(101,b5B)] [] [0,1,4] [2,3] H42 (a1 c8r (a1 d2Q (a1 d2R a0))) Tryz.func42
theorem d7u:Ok0 76 b0O:=
 fo [] [] [0,1,4,5] [] H76 a0 Tryz.func76
theorem d7v:Ok0 28 b4y:=
 fo [(42,a9y),(76,b0O)] [] [0,1,4,5] [2,3] H28 (a1 d1G (a1 d7u a0)) Tryz.func28
theorem d1H:Ok0 91 b2T:=
 fo [(173,b2M)] [] [0,1,4,5,6,8] [] H91 (a1 c9v a0) Tryz.func91
theorem d2S:Ok0 174 a1d:=
 ⟨f0r.of (cx:=b0P) (cxo a0) b4H Tryz.func174 rfl (by kernel_rfl) d2d,⟨_,_,Tryz.func174,rfl,by kernel_rfl⟩⟩
theorem d1I:Ok0 92 b0Q:=
 fo [(174,a1d)] [] [0,2,3,5] [] H92 (a1 d2S a0) Tryz.func92
theorem c9G:Ok0 230 b3O:=
 fo [(251,b3H)] [] [0,1,4,5,6,7] [] d5O (a1 c9o a0) Tryz.func230
theorem d2T:Ok0 231 b7d:=
 fo [(217,a9Y),(253,a6s),(254,a9L),(255,a9r)] [] [0,1,2,6,7,8,9,10] [] d5P (a1 c6d (a1 c6k (a1 c9p (a1 c6j a0)))) Tryz.func231
theorem c6w:Ok0 232 a9g:=
 fo [(218,b3n),(256,a8s),(257,b1x),(258,b1U)] [] [0,1,2,6,7,8,9,10,11] [5] d5Q (a1 c6e (a1 c6m (a1 c9q (a1 c6l a0)))) Tryz.func232
theorem d2U:Ok0 233 b7M:=
 fo [(87,a0U),(219,b1S),(259,b0C),(261,b5b),(262,a4d),(263,b0B),(264,a7u)] [] [0,1,4,5,6,9,10,11,12,13] [] d5R (a1 c3M (a1 c6f (a1 c9r (a1 c9s (a1 c6o (a1 c6n (a1 c9u a0))))))) Tryz.func233
theorem d2V:Ok0 170 b9d:=
 fo [(87,a0U),(150,a7Y),(230,b3O),(231,b7d),(232,a9g),(233,b7M)] [] [0,1,4,5,6,11,22,37,67] [] d5S (a1 c3M (a1 c6h (a1 c9G (a1 d2T (a1 c6w (a1 d2U a0)))))) Tryz.func170
theorem d2W:Ok0 284 b9e:=
 fo [(273,b3p)] [] [0,2,3,4,5,6] [] d5T (a1 c6u a0) Tryz.func284
theorem d2X:Ok0 235 b5C:=
 fo [(272,b5e),(273,b3p),(284,b9e)] [] [0,2,3] [] d5U (a1 c9C (a1 c6u (a1 d2W a0))) Tryz.func235
theorem d2Y:Ok0 171 b7N:=
 fo [(208,b3L),(209,a3Q),(234,b2P),(235,b5C)] [(14,.pair QI Q2),(40,.pair QI Q2)] [0,1,2,3,9,11,12,13,15,17,18] [] d5V (a1 c9E (a1 c0M (a1 c9B (a1 d2X a0)))) Tryz.func171
theorem d7w:Ok0 86 c0E:=
 fo [(90,a9p),(91,b2T),(92,b0Q),(149,b2z),(169,b3G),(170,b9d),(171,b7N)] [] [0,1,2,7,8,11,12,13] [5] H86 (a1 c8n (a1 d1H (a1 d1I (a1 c6g (a1 c9m (a1 d2V (a1 d2Y a0))))))) Tryz.func86
theorem d2Z:Ok0 172 b3f:=
 fo [] [] [0,2] [] d5W a0 Tryz.func172
theorem d7x:Ok0 89 c0F:=
 fo [(51,b7C),(172,b3f)] [(5,.pair (.list true (.int .u8)) Q0)] [0,1,4] [2] H89 (a1 d1z (a1 d2Z a0)) Tryz.func89
theorem d3a:Ok0 236 b7e:=
 fo [] [] [0,1,4,5,6,7] [] d5X a0 Tryz.func236
theorem d3b:Ok0 175 b7O:=
 fo [(230,b3O),(236,b7e)] [] [0,2,3,4,5,6,7,8] [] d5Y (a1 c9G (a1 d3a a0)) Tryz.func175
theorem c9H:Ok0 287 b1B:=
 fo [] [] [0,2] [] d5Z a0 Tryz.func287
theorem d3c:Ok0 285 b4z:=
 fo [(287,b1B)] [] [0,2,3,5,6,7,8] [] d6a (a1 c9H a0) Tryz.func285
theorem d3d:Ok0 286 b1v:=
 fo [] [] [0,1,2,6,7,8,9,10] [] d6b a0 Tryz.func286
theorem d3e:Ok0 237 b3P:=
 fo [(87,a0U),(253,a6s),(285,b4z),(286,b1v),(287,b1B)] [] [0,1,4,5,6,7,8,9,10,11,12,13] [] d6c (a1 c3M (a1 c6k (a1 d3c (a1 d3d (a1 c9H a0))))) Tryz.func237
theorem d3f:Ok0 238 b5D:=
 fo [] [] [0,2,3,5,6,7,8,9,10,11] [] d6d a0 Tryz.func238
theorem d3g:Ok0 239 b5E:=
 fo [(110,a9s)] [] [0,1,4,5,6,8,9,10,11,13,14] [] d6e (a1 c6q a0) Tryz.func239
theorem c9I:Ok0 177 b2U:=
 fo [(237,b3P),(238,b5D),(239,b5E)] [] [0,1,2,6,7,8,9,10,11] [] d6f (a1 d3e (a1 d3f (a1 d3g a0))) Tryz.func177
theorem d3h:Ok0 240 b9f:=
 fo [(256,a8s)] [] [0,1,2,6,7,8,9,10,11,12,13] [] d6g (a1 c6m a0) Tryz.func240
theorem d3i:Ok0 288 b3Q:=
 fo [] [] [0] [] d1s a0 Tryz.func288
theorem d3j:Ok0 241 b9h:=
 fo [(232,a9g),(288,b3Q)] [] [0,1,5,7,8,11,12,13,15] [] d1t (a1 c6w (a1 d3i a0)) Tryz.func241
theorem d3k:Ok0 178 b7P:=
 fo [(177,b2U),(232,a9g),(240,b9f),(241,b9h)] [] [0,3,4,5,7,8,9] [] d6h (a1 c9I (a1 c6w (a1 d3h (a1 d3j a0)))) Tryz.func178
theorem d3l:Ok0 176 b2B:=
 fo [(177,b2U)] [] [0,1,2,3,6,7,8] [] d6i (a1 c9I a0) Tryz.func176
theorem d7y:Ok0 93 b3R:=
 fo [(175,b7O),(176,b2B),(178,b7P)] [(5,.list true Q39)] [0,1,4,6,8,9] [67] H93 (a1 d3b (a1 d3l (a1 d3k a0))) Tryz.func93
theorem d7z:Ok0 40 c0G:=
 fo [(86,c0E),(89,c0F),(90,a9p),(91,b2T),(92,b0Q),(93,b3R)] [] [0,1,5,6,7,9,10,14,15] [] H40 (a1 d7w (a1 d7x (a1 c8n (a1 d1H (a1 d1I (a1 d7y a0)))))) Tryz.func40
theorem d1J:Ok0 79 b7Q:=
 fo [(102,b3m),(105,b1W),(106,b2N),(108,b3I)] [] [0,1,4,5,6] [] H79 (a1 c6b (a1 c6p (a1 c9x (a1 c9y a0)))) Tryz.func79
theorem d3m:Ok0 226 b7f:=
 fo [(105,b1W)] [] [0,2,3,5,6,7] [] d6j (a1 c6p a0) Tryz.func226
theorem d3n:Ok0 227 b7R:=
 fo [] [] [0,2,4,8,12,17] [] d6k a0 Tryz.func227
theorem d3o:Ok0 164 b9i:=
 fo [(79,b7Q),(226,b7f),(227,b7R)] [] [0,2,3,4,5,6,7,8] [] d6l (a1 d1J (a1 d3m (a1 d3n a0))) Tryz.func164
theorem d7A:Ok0 78 b9j:=
 fo [(47,b1Y),(164,b9i)] [] [0,2,3,4] [1] H78 (a1 c8o (a1 d3o a0)) Tryz.func78
theorem d7B:Ok0 30 b7S:=
 fo [(35,b5d),(40,c0G),(47,b1Y),(77,b2K),(78,b9j),(79,b7Q)] [(10,.pair QI Q53),(52,.pair QI Q51),(57,.pair QI Q51),(63,.pair QI Q51),(79,.pair QI Q51),(95,.pair QI Q51)] [0,1,2,3,9,11,12,14,16] [4,5] H30 (a1 d1y (a1 d7z (a1 c8o (a1 d1u (a1 d7A (a1 d1J a0)))))) Tryz.func30
theorem d7C:Ok0 43 b7U:=
 fo [(24,b0N)] [] [0,1,4,5,7,8] [] H43 (a1 d1F a0) Tryz.func43
theorem d7D:Ok0 15 b9k:=
 fo [(17,a9t),(19,b5g),(23,b0M),(24,b0N),(26,b7K),(28,b4y),(30,b7S),(43,b7U)] [] [0,4,5,6,8,9,11,13,14,15] [] H15 (a1 c8p (a1 d1B (a1 d1C (a1 d1F (a1 d7t (a1 d7v (a1 d7B (a1 d7C a0)))))))) Tryz.func15
theorem d7E:Ok0 33 b9l:=
 fo [] [] [0,1,4] [2] H33 a0 Tryz.func33
theorem d7F:Ok0 16 b9m:=
 fo [(33,b9l)] [] [0,1,4,5] [2] H16 (a1 d7E a0) Tryz.func16
theorem d1K:Ok0 84 b5m:=
 fo [] [] [0,2,3] [] H84 a0 Tryz.func84
theorem d3p:Ok0 167 c3J:=
 fo [] [] [0,2] [] d6m a0 Tryz.func167
theorem d3q:Ok0 168 c2u:=
 fo [] [] [0,2] [] d6n a0 Tryz.func168
theorem d1L:Ok0 85 b7W:=
 fo [(167,c3J),(168,c2u)] [] [0,1,4] [] H85 (a1 d3p (a1 d3q a0)) Tryz.func85
theorem d7G:Ok0 32 b5F:=
 fo [(84,b5m),(85,b7W)] [] [0,2,3,4] [1] H32 (a1 d1K (a1 d1L a0)) Tryz.func32
theorem d7H:Ok0 80 b9n:=
 fo [] [] [0,2] [1] H80 a0 Tryz.func80
theorem c9J:Ok0 111 b2V:=
 fo [] [] [0,1,4,5] [] d6o a0 Tryz.func111
theorem d7I:Ok0 48 b7g:=
 fo [(80,b9n),(111,b2V)] [] [0,2] [1] H48 (a1 d7H (a1 c9J a0)) Tryz.func48
theorem b2n:Ok0 179 a3v:=
 fo [] [] [0,2] [] d6p a0 Tryz.func179
theorem b8f:Ok0 94 a2F:=
 fo [(179,a3v)] [] [0,2,3] [] H94 (a1 b2n a0) Tryz.func94
theorem d3r:Ok0 112 b9o:=
 fo [] [] [0,28,33,41,55] [1] d6q a0 Tryz.func112
theorem c6x:Ok0 199 a7H:=
 fo [] [] [0,1,4,5] [] d6r a0 Tryz.func199
theorem c9K:Ok0 200 b2W:=
 fo [] [] [0,1,4,5] [3] d6s a0 Tryz.func200
theorem c9L:Ok0 265 b1C:=
 fo [] [] [0,2] [1] d6t a0 Tryz.func265
theorem c9M:Ok0 201 b1D:=
 fo [(265,b1C)] [] [0,2,3] [] d6u (a1 c9L a0) Tryz.func201
theorem d3s:Ok0 113 b9p:=
 fo [(199,a7H),(200,b2W),(201,b1D)] [] [0,1,4,7,9,12,30,60] [2] d6v (a1 c6x (a1 c9K (a1 c9M a0))) Tryz.func113
theorem c9N:Ok0 114 b2X:=
 fo [] [] [0,2] [] d6w a0 Tryz.func114
theorem d3t:Ok0 224 c3K:=
 fo [] [] [0,1,4] [] d6x a0 Tryz.func224
theorem c6y:Ok0 202 a7I:=
 fo [(224,c3K)] [] [0,1,2,6,7,8] [] d6y (a1 d3t a0) Tryz.func202
theorem c6z:Ok0 203 a8J:=
 fo [] [] [0,2] [] d6z a0 Tryz.func203
theorem c9O:Ok0 115 b2Y:=
 fo [(202,a7I),(203,a8J)] [] [0,1,2,6,7,8] [3] d6A (a1 c6y (a1 c6z a0)) Tryz.func115
theorem d3u:Ok0 266 b7X:=
 fo [] [] [0,2] [] d6B a0 Tryz.func266
theorem d3v:Ok0 204 b4A:=
 fo [(94,a2F),(179,a3v),(266,b7X)] [] [0,1,2,6,7,8,9,10,11,12] [] d6C (a1 b8f (a1 b2n (a1 d3u a0))) Tryz.func204
theorem d3w:Ok0 267 b3g:=
 fo [(179,a3v),(199,a7H)] [] [0,1,2,6,7,8,9] [] d6D (a1 b2n (a1 c6x a0)) Tryz.func267
theorem d3x:Ok0 205 b3T:=
 fo [(94,a2F),(179,a3v),(199,a7H),(267,b3g)] [] [0,1,2,3,8,9,10,11,12] [] d6E (a1 b8f (a1 b2n (a1 c6x (a1 d3w a0)))) Tryz.func205
theorem d3y:Ok0 268 b4B:=
 fo [] [] [0,1,2,6,7,8,9] [5] d6F a0 Tryz.func268
theorem d3z:Ok0 206 b5G:=
 fo [(94,a2F),(179,a3v),(200,b2W),(268,b4B)] [] [0,1,2,6,7,8,9,10] [5] d6G (a1 b8f (a1 b2n (a1 c9K (a1 d3y a0)))) Tryz.func206
theorem d3A:Ok0 269 b4C:=
 fo [(265,b1C)] [(15,.pair QI Q10),(16,.pair QI Q10)] [0,2,3] [1] d6H (a1 c9L a0) Tryz.func269
theorem c9P:Ok0 297 b6n:=
 fo [] [] [0,2] [] d6I a0 Tryz.func297
theorem c9Q:Ok0 270 a8f:=
 fo [(297,b6n)] [] [0,2,3,4] [] d6J (a1 c9P a0) Tryz.func270
theorem d3B:Ok0 298 c0H:=
 fo [] [] [0,2,3,6] [] d6K a0 Tryz.func298
theorem d3C:Ok0 271 b3h:=
 fo [(270,a8f),(297,b6n),(298,c0H)] [] [0,1,4,5,6,7] [] d6L (a1 c9Q (a1 c9P (a1 d3B a0))) Tryz.func271
theorem d3D:Ok0 207 b4D:=
 fo [(94,a2F),(179,a3v),(201,b1D),(269,b4C),(270,a8f),(271,b3h)] [] [0,1,4,5,6,7,8,9,10,11] [] d6M (a1 b8f (a1 b2n (a1 c9M (a1 d3A (a1 c9Q (a1 d3C a0)))))) Tryz.func207
theorem d3E:Ok0 116 c0I:=
 fo [(204,b4A),(205,b3T),(206,b5G),(207,b4D)] [] [0,2,3,4,5,8,19,32,57] [1] d6N (a1 d3v (a1 d3x (a1 d3z (a1 d3D a0)))) Tryz.func116
theorem d3F:Ok0 117 c5t:=
 fo [(179,a3v)] [] [0,1,4,5,6,7] [] d6O (a1 b2n a0) Tryz.func117
theorem d1M:Ok0 49 b3U:=
 fo [(42,a9y),(94,a2F),(112,b9o),(113,b9p),(114,b2X),(115,b2Y),(116,c0I),(117,c5t)] [] [0,1,4,5,6,7,8,9,10,11,12] [2] H49 (a1 d1G (a1 b8f (a1 d3r (a1 d3s (a1 c9N (a1 c9O (a1 d3E (a1 d3F a0)))))))) Tryz.func49
theorem d3G:Ok0 118 c0J:=
 fo [(84,b5m),(94,a2F),(111,b2V)] [] [0,1,4,5] [] d6P (a1 d1K (a1 b8f (a1 c9J a0))) Tryz.func118
theorem d3H:Ok0 119 b7Y:=
 fo [] [(18,.list true (.list true QI))] [0,2,3,4] [] d6Q a0 Tryz.func119
theorem d3I:Ok0 120 c2v:=
 fo [(179,a3v)] [] [0,1,2,6,7] [4] d6R (a1 b2n a0) Tryz.func120
theorem d7J:Ok0 50 b5H:=
 fo [(118,c0J),(119,b7Y),(120,c2v)] [] [0,1,4,5,6,7] [] H50 (a1 d3G (a1 d3H (a1 d3I a0))) Tryz.func50
theorem d1N:Ok0 18 a9M:=
 fo [(32,b5F),(48,b7g),(49,b3U),(50,b5H)] [] [0,3,4,5,6,7,8,9] [1] H18 (a1 d7G (a1 d7I (a1 d1M (a1 d7J a0)))) Tryz.func18
theorem d7K:Ok0 57 b5I:=
 fo [(18,a9M)] [] [0,2,4] [1] H57 (a1 d1N a0) Tryz.func57
theorem d3J:Ok0 134 b7Z:=
 fo [(49,b3U)] [] [0,1,4,5,6] [2] d6S (a1 d1M a0) Tryz.func134
theorem c3z:Ok0 135 b0Y:=
 fo [(85,b7W)] [] [0,2,3,4] [] d6T (a1 d1L a0) Tryz.func135
theorem c0O:Ok0 136 a3L:=
 fo [] [] [0,1,2,6,7] [] d6U a0 Tryz.func136
theorem c6A:Ok0 138 a8N:=
 fo [(136,a3L)] [] [0,1,2,6] [] d6V (a1 c0O a0) Tryz.func138
theorem d3K:Ok0 137 b4F:=
 fo [(135,b0Y),(136,a3L),(138,a8N)] [] [0,1,4] [3] d6W (a1 c3z (a1 c0O (a1 c6A a0))) Tryz.func137
theorem c9R:Ok0 141 b9I:=
 fo [] [] [0,2,3] [] d6X a0 Tryz.func141
theorem c9S:Ok0 279 b8a:=
 fo [(141,b9I),(179,a3v)] [] [0,2] [] d6Y (a1 c9R (a1 b2n a0)) Tryz.func279
theorem d3L:Ok0 306 b7h:=
 fo [(179,a3v),(203,a8J),(279,b8a)] [] [0,1,4,5] [] d6Z (a1 b2n (a1 c6z (a1 c9S a0))) Tryz.func306
theorem d3M:Ok0 293 b8b:=
 fo [(306,b7h)] [] [0,1,4,5,6] [] d7a (a1 d3L a0) Tryz.func293
theorem d3N:Ok0 278 b7i:=
 fo [(135,b0Y),(293,b8b)] [] [0,1,4] [] d7b (a1 c3z (a1 d3M a0)) Tryz.func278
theorem d3O:Ok0 212 b5J:=
 fo [(94,a2F),(115,b2Y),(202,a7I),(278,b7i)] [] [0,1,2,3,8,9,10,11,12] [4] d7c (a1 b8f (a1 c9O (a1 c6y (a1 d3N a0)))) Tryz.func212
theorem d3P:Ok0 280 b3i:=
 fo [] [] [0,1,4,5] [] d7d a0 Tryz.func280
theorem d3Q:Ok0 213 b8c:=
 fo [(94,a2F),(136,a3L),(203,a8J),(279,b8a),(280,b3i)] [] [0,1,2,6,7,8,9] [] d7e (a1 b8f (a1 c0O (a1 c6z (a1 c9S (a1 d3P a0))))) Tryz.func213
theorem d3R:Ok0 139 b7j:=
 fo [(135,b0Y),(136,a3L),(138,a8N),(202,a7I),(212,b5J),(213,b8c)] [] [0,1,2,3,4,10,11,12,13,14,15] [6] d7f (a1 c3z (a1 c0O (a1 c6A (a1 c6y (a1 d3O (a1 d3Q a0)))))) Tryz.func139
theorem d7L:Ok0 58 b8d:=
 fo [(114,b2X),(134,b7Z),(135,b0Y),(136,a3L),(137,b4F),(138,a8N),(139,b7j)] [] [0,1,2,6,7,8,32,39,44,59] [4] H58 (a1 c9N (a1 d3J (a1 c3z (a1 c0O (a1 d3K (a1 c6A (a1 d3R a0))))))) Tryz.func58
theorem d7M:Ok0 59 b3j:=
 fo [] [] [0,2,3,4] [] H59 a0 Tryz.func59
theorem d3S:Ok0 140 b7k:=
 fo [] [] [0,2,3,4,5] [] d7g a0 Tryz.func140
theorem d7N:Ok0 60 c0K:=
 fo [(140,b7k),(141,b9I)] [] [0,1,4,5,6] [2] H60 (a1 d3S (a1 c9R a0)) Tryz.func60
theorem d7O:Ok0 61 c0L:=
 fo [] [] [0,2,3,4,5] [] H61 a0 Tryz.func61
theorem d7P:Ok0 62 c3L:=
 fo [] [] [0,1,4,5,6] [] H62 a0 Tryz.func62
theorem d7Q:Ok0 63 b8e:=
 fo [] [] [0,2,3,4,5] [] H63 a0 Tryz.func63
theorem d7R:Ok0 20 b5K:=
 fo [(57,b5I),(58,b8d),(59,b3j),(60,c0K),(61,c0L),(62,c3L),(63,b8e)] [(11,.pair (.list true (.int .u8)) .unit),(12,.pair (.list true (.int .u8)) .unit)] [0,2,3,4,5,6,7] [1] H20 (a1 d7K (a1 d7L (a1 d7M (a1 d7N (a1 d7O (a1 d7P (a1 d7Q a0))))))) Tryz.func20
theorem d7S:Ok0 22 c2w:=
 fo [] [] [0,1,4] [] H22 a0 Tryz.func22
theorem fs3:Ok0 3 b3V:=
 fo [(15,b9k),(16,b9m),(17,a9t),(18,a9M),(19,b5g),(20,b5K),(21,a9d),(22,c2w),(23,b0M)] [] [0,2,4,6,7,8,9,10] [1] H3 (a1 d7D (a1 d7F (a1 c8p (a1 d1N (a1 d1B (a1 d7R (a1 c8q (a1 d7S (a1 d1C a0))))))))) Tryz.func3
end Go.Ab
namespace Go.Ab
open IntKind(wrap)
section
variable {σ β:Type} {f:σ→Option (σ ⊕ β)}
theorem b6q:∀(n m:Nat)(s:σ){b:β},j0o f n s=some b→j0o f (n+m) s=some b
 |0,_,s,b,h=>by simp[j0o]at h
 |n+1,m,s,b,h=>by
  rw[show n+1+m=n+m+1 from by omega];simp only[j0o]at h⊢
  split at h
  cases h;rename_i s' g;exact b6q n m s' h;exact h
theorem c2x{n m:Nat}{s:σ}{b b':β}(h:j0o f n s=some b)(k:j0o f m s=some b'):b=b':=by
 have a:=b6q n m s h;have g:=b6q m n s k;rw[Nat.add_comm,a]at g;exact Option.some.inj g
theorem c8s{n:Nat}{s:σ}{b:β}(h:j0o f n s=some b):v0d f s=some b:=by
 unfold v0d;have g:∃n b,j0o f n s=some b:=⟨n,b,h⟩;rw[dif_pos g];exact congrArg some (c2x g.choose_spec.choose_spec h)
theorem c1U{n:Nat}{s:σ}{b:β}(h:j0o f n s=some b):x0r f s=some b:=by
 unfold x0r;split;rename_i g hb;rw[c2x hb h];exact c8s h
theorem c2y{s:σ}(h:∀n,j0o f n s=none):x0r f s=none:=by
 unfold x0r;rw[h 400];show v0d f s=none;unfold v0d;rw[dif_neg]
 rintro⟨n,b,g⟩
 rw[h n]at g;cases g
theorem a0D{s:σ}{b:β}(h:f s=some (.inr b)):x0r f s=some b:=c1U (n:=1) (by simp[j0o,h])
theorem a0E{s s':σ}(h:f s=some (.inl s')):x0r f s=x0r f s':=by
 by_cases hx:∃n b,j0o f n s'=some b
 obtain⟨n,b,hb⟩:=hx;rw[c1U hb];exact c1U (n:=n+1) (by simp[j0o,h,hb])
 ·have g:∀n,j0o f n s'=none:=fun n=>by
   cases hn:j0o f n s' with
   |none=>rfl
   |some b=>exact absurd ⟨n,b,hn⟩ hx
  rw[c2y g];refine c2y fun n=>?_
  cases n with
  |zero=>rfl
  |succ n=>simp[j0o,h,g n]
theorem c5u(S:Nat→σ)(n:Nat){b:β}(g:∀i,i<n→f (S i)=some (.inl (S (i+1))))(h:f (S n)=some (.inr b)):∀(k:Nat),k≤n→x0r f (S (n-k))=some b
 |0,_=>a0D h
 |k+1,hk=>by
  rw[a0E (g (n-(k+1)) (by omega)),show n-(k+1)+1=n-k from by omega];exact c5u S n g h k (by omega)
theorem a1x(S:Nat→σ)(n:Nat){b:β}(g:∀i,i<n→f (S i)=some (.inl (S (i+1))))(h:f (S n)=some (.inr b)):x0r f (S 0)=some b:=by
 have:=c5u S n g h n (a38 _)
 rwa [Nat.sub_self]at this
end
theorem a0H{n:Int}(h:-9223372036854775808≤n∧n≤9223372036854775807):wrap .i64 n=n:=by
 simp only[wrap,IntKind.bits,IntKind.signed]
 simp
 split<;>omega
theorem a0M{n:Int}(h:0≤n∧n<18446744073709551616):wrap .u64 n=n:=by
 simp only[wrap,IntKind.bits,IntKind.signed]
 simp
 omega
theorem a5x(n:Int):wrap .u8 n=n%256:=by
 simp[wrap,IntKind.bits,IntKind.signed]
theorem c1V(x y:Int):v0a x y=min x y:=by
 simp only[v0a,cond_eq_ite,dT]
 split<;>omega
theorem c5v(x y:Int):u0z x y=max x y:=by
 simp only[u0z,cond_eq_ite,dT]
 split<;>omega
theorem a1a{n:Nat}(h:n<2147483648):lim n=true:=by simp[lim,h]
section
variable {α A σ β:Type}
def a2o(g:A→α→A ⊕ β):List α→A→A ⊕ β
 | [],a=>.inl a
 |x::r,a=>match g a x with
  |.inl a'=>a2o g r a'
  |.inr b=>.inr b
def a6E(fin:A→β):A ⊕ β→β
 |.inl a=>fin a
 |.inr b=>b
theorem b5L{f:σ→Option (σ ⊕ β)}(l:List α)(S:Nat→A→σ)(g:A→α→A ⊕ β)(I:Nat→A→Prop)(e:A→β)
  (d:∀i (h:i<l.length) a,I i a→(∀a',g a l[i]=.inl a'→f (S i a)=some (.inl (S (i+1) a'))∧I (i+1) a')∧(∀b,g a l[i]=.inr b→f (S i a)=some (.inr b)))
  (c:∀a,I l.length a→f (S l.length a)=some (.inr (e a))):∀(k i:Nat)(a:A),i+k=l.length→I i a→x0r f (S i a)=some (a6E e (a2o g (l.drop i) a))
 |0,i,a,hi,ha=>by
  obtain rfl:i=l.length:=by omega
  rw[a35];exact a0D (c a ha)
 |k+1,i,a,hi,ha=>by
  have j:i<l.length:=by omega
  rw[a29 j];obtain⟨m,n⟩:=d i j a ha;simp only[a2o];cases hg:g a l[i]with
  |inl a'=>
   obtain⟨o,p⟩:=m a' hg;rw[a0E o];exact b5L l S g I e d c k (i+1) a' (by omega) p
  |inr b=>exact a0D (n b hg)
theorem a0X{f:σ→Option (σ ⊕ β)}(l:List α)(S:Nat→A→σ)(g:A→α→A ⊕ β)(I:Nat→A→Prop)(k:A→β)
  (d:∀i (h:i<l.length) a,I i a→(∀a',g a l[i]=.inl a'→f (S i a)=some (.inl (S (i+1) a'))∧I (i+1) a')∧(∀b,g a l[i]=.inr b→f (S i a)=some (.inr b)))
  (c:∀a,I l.length a→f (S l.length a)=some (.inr (k a))){a:A}(e:I 0 a):x0r f (S 0 a)=some (a6E k (a2o g l a)):=by
 have:=b5L l S g I k d c l.length 0 a (by omega) e
 rwa [a36]at this
theorem a0Y{f:σ→Option (σ ⊕ β)}(l:List α)(S:Nat→σ)(p:α→Bool){bt bf:β}
  (k:∀i (h:i<l.length),p l[i]=true→f (S i)=some (.inl (S (i+1))))(c:∀i (h:i<l.length),p l[i]=false→f (S i)=some (.inr bf))
  (g:f (S l.length)=some (.inr bt)):x0r f (S 0)=some (bif l.all p then bt else bf):=by
 have h:=a0X (A:=Unit) l (fun i _=>S i) (fun _ x=>bif p x then .inl ()else .inr bf) (fun _ _=>True) (fun _=>bt) (fun i h a _=>?_) (fun _ _=>g) (a:=()) trivial
 ·rw[h];congr 1;clear h k c g
  induction l with
  |nil=>rfl
  |cons x l ih=>
   simp only[a2o,List.all_cons];cases p x with
   |true=>simpa using ih
   |false=>rfl
 ·cases hp:p l[i]with
  |true=>exact⟨fun d _=>⟨k i h hp,trivial⟩,fun b hb=>by simp[hp]at hb⟩
  |false=>exact⟨fun d e=>by simp[hp]at e,fun b hb=>by simp[hp]at hb;rw[←hb];exact c i h hp⟩
end
theorem a0B{α:Type}{l:List α}{i:Nat}(h:i<l.length):l0z l (i:Int)=some l[i]:=by
 unfold l0z;rw[if_pos (Int.natCast_nonneg i),tN,lG h]
def a0A(x:Int):Bool:=decide (-1073741824≤x)&&decide (x<1073741824)
theorem a1H{x:Int}:a0A x=true↔-1073741824≤x∧x<1073741824:=by simp[a0A]
def short{α:Type}(l:List α):Prop:=l.length<1000000
theorem a0C{i:Nat}(h:i<1000000):wrap .i64 ((i:Int)+1)=((i+1:Nat):Int):=by
 rw[a0H (by omega)];omega
theorem dlt{i n:Nat}(h:i<n):decide ((i:Int)<(n:Int))=true:=by simp;omega
theorem dge(n:Nat):decide ((n:Int)<(n:Int))=false:=by simp
theorem a4u{l:List Int}(a:short l):a1S l=some (l.all a0A):=by
 unfold a1S
 have:=a0Y (f:=a2r) l (fun i=>(l,(l.length:Int),(i:Int),())) a0A (bt:=Sum.inl ()) (bf:=Sum.inr (false,()))
  (fun i h hp=>by
   have hp:=a1H.1 hp;have g:decide (l[i] < -1073741824)=false:=by simp;omega
   have k:decide (l[i]≥1073741824)=false:=by simp;omega
   simp only[a2r,dlt h,cT,a0B h,oB,g,k,cF,a0C (a20 h a)])
  (fun i h hp=>by
   simp only[a2r,dlt h,cT,a0B h,oB]
   by_cases g:l[i] < -1073741824
   simp[g];have k:l[i]≥1073741824:=by
    simp only[a0A,a19,decide_eq_false_iff_not]at hp;omega
   simp[g,k])
  (by simp[a2r])
 simp only[nZ]at this;rw[this];cases l.all a0A<;>rfl
theorem a6l(x:Int):a4W x=some (a0A x):=by
 unfold a4W a0A
 by_cases h:-1073741824≤x<;>simp[h]
theorem a8i(x:Int):a7k x=some (a0A x):=by
 unfold a7k a0A
 by_cases h:-1073741824≤x<;>simp[h]
theorem a5b(x:Int):a6b x=some (a0A x):=by
 unfold a6b a0A
 by_cases h:-1073741824≤x<;>simp[h]
theorem a1T(x:Int):a2f x=some (a0A x):=by
 unfold a2f a0A
 by_cases h:-1073741824≤x<;>simp[h]
theorem b5M(x:Int):a4X x=some (a0A x):=by
 unfold a4X a0A
 by_cases h:-1073741824≤x<;>simp[h]
theorem a5X{l:List Int}(g:short l):a2s l=some (l.all a0A):=by
 unfold a2s
 have:=a0Y (f:=a2X) l (fun i=>(l,(l.length:Int),(i:Int),())) a0A (bt:=Sum.inl ()) (bf:=Sum.inr (false,()))
  (fun i h hp=>by simp[a2X,a0B h,a6l,hp,a0C (a20 h g),h])
  (fun i h hp=>by simp[a2X,a0B h,a6l,hp,h])
  (by simp[a2X])
 simp only[nZ]at this;rw[this];cases l.all a0A<;>rfl
theorem b4I{l:List Int}(g:short l):a4n l=some (l.all a0A):=by
 unfold a4n
 have:=a0Y (f:=a3W) l (fun i=>(l,(l.length:Int),(i:Int),())) a0A (bt:=Sum.inl ()) (bf:=Sum.inr (false,()))
  (fun i h hp=>by simp[a3W,a0B h,a8i,hp,a0C (a20 h g),h])
  (fun i h hp=>by simp[a3W,a0B h,a8i,hp,h])
  (by simp[a3W])
 simp only[nZ]at this;rw[this];cases l.all a0A<;>rfl
theorem b3W{l:List Int}(g:short l):a5c l=some (l.all a0A):=by
 unfold a5c
 have:=a0Y (f:=a3r) l (fun i=>(l,(l.length:Int),(i:Int),())) a0A (bt:=Sum.inl ()) (bf:=Sum.inr (false,()))
  (fun i h hp=>by simp[a3r,a0B h,a5b,hp,a0C (a20 h g),h])
  (fun i h hp=>by simp[a3r,a0B h,a5b,hp,h])
  (by simp[a3r])
 simp only[nZ]at this;rw[this];cases l.all a0A<;>rfl
theorem a1r{l:List Int}(g:short l):a1t l=some (l.all a0A):=by
 unfold a1t
 have:=a0Y (f:=a5q) l (fun i=>(l,(i:Int),())) a0A (bt:=Sum.inl ()) (bf:=Sum.inr (false,()))
  (fun i h hp=>by simp[a5q,a0B h,a1T,hp,a0C (a20 h g),h])
  (fun i h hp=>by simp[a5q,a0B h,a1T,hp,h])
  (by simp[a5q])
 simp only[nZ]at this;rw[this];cases l.all a0A<;>rfl
theorem a7h{l:List Int}(h:short l):a2l l=some (l.all a0A):=by
 have e:b4r=a2r:=rfl
 have:a2l l=a1S l:=by unfold a2l a1S;rw[e]
 rw[this,a4u h]
def b2o(x:Int):Bool:=decide (-32768≤x)&&decide (x<32768)
def a4J(c:List Int)(s:Int):Bool:=decide (1≤c.length)&&(decide (c.length≤32)&&(decide (0≤s)&&(decide (s≤15)&&c.all b2o)))
theorem a9H{c:List Int}{s:Int}(m:short c):a4v (c,s)=some (a4J c s):=by
 have:=a0Y (f:=a3E) c (fun i=>(c,(c.length:Int),(i:Int),())) b2o (bt:=Sum.inl ()) (bf:=Sum.inr (false,()))
  (fun i h hp=>by
   simp only[b2o,bA,dT]at hp;have g:¬ c[i] < -32768:=by omega
   have k:¬ c[i]≥32768:=by omega
   simp[a3E,a0B h,a0C (a20 h m),h,g,k])
  (fun i h hp=>by
   simp only[b2o,a19,decide_eq_false_iff_not]at hp
   by_cases g:c[i] < -32768
   simp[a3E,a0B h,h,g];have k:c[i]≥32768:=by omega
   simp[a3E,a0B h,h,g,k])
  (by simp[a3E])
 simp only[nZ]at this;unfold a4v a4J
 by_cases g:c.length<1
 have:((c.length:Nat):Int)<1:=by omega
 have:¬ 1≤c.length:=by omega
 simp[*]
 by_cases k:c.length > 32
 have:((c.length:Nat):Int) > 32:=by omega
 have:¬ ((c.length:Nat):Int)<1:=by omega
 have:¬ c.length≤32:=by omega
 simp[*]
 by_cases h3:s<0
 have:¬ ((c.length:Nat):Int) > 32:=by omega
 have:¬ ((c.length:Nat):Int)<1:=by omega
 have:¬ 0≤s:=by omega
 simp[*]
 by_cases h4:s > 15
 have:¬ ((c.length:Nat):Int) > 32:=by omega
 have:¬ ((c.length:Nat):Int)<1:=by omega
 have:¬ s≤15:=by omega
 simp[*];have a:¬ ((c.length:Nat):Int) > 32:=by omega
 have b:¬ ((c.length:Nat):Int)<1:=by omega
 simp only[a,b,h3,h4,decide_false,cF,oB,this];have d:1≤c.length:=by omega
 have e:c.length≤32:=by omega
 have j:0≤s:=by omega
 have l:s≤15:=by omega
 simp only[d,e,j,l,decide_true,a26];cases c.all b2o<;>rfl
theorem a6F{c:List Int}{s:Int}(d:short c):a3I (c,s)=some (a4J c s):=by
 have:=a0Y (f:=a2w) c (fun i=>(c,s,(i:Int),())) b2o (bt:=Sum.inl (c,s,())) (bf:=Sum.inr (false,()))
  (fun i h hp=>by
   simp only[b2o,bA,dT]at hp;have g:¬ c[i] < -32768:=by omega
   have a:¬ c[i]≥32768:=by omega
   simp[a2w,a0B h,a0C (a20 h d),h,g,a])
  (fun i h hp=>by
   simp only[b2o,a19,decide_eq_false_iff_not]at hp
   by_cases g:c[i] < -32768
   simp[a2w,a0B h,h,g];have a:c[i]≥32768:=by omega
   simp[a2w,a0B h,h,g,a])
  (by simp[a2w])
 simp only[nZ]at this;unfold a3I a4J;rw[this];cases hc:c.all b2o with
 |false=>simp
 |true=>
  simp only[cT,oB,Bool.and_true]
  by_cases g:1≤c.length
  by_cases a:c.length≤32
  by_cases h3:0≤s
  have k:((c.length:Nat):Int)≥1:=by omega
  have b:((c.length:Nat):Int)≤32:=by omega
  simp[*];have k:((c.length:Nat):Int)≥1:=by omega
  have b:((c.length:Nat):Int)≤32:=by omega
  have e:¬ s≥0:=by omega
  simp[*];have k:((c.length:Nat):Int)≥1:=by omega
  have b:¬ ((c.length:Nat):Int)≤32:=by omega
  simp[*];have k:¬ ((c.length:Nat):Int)≥1:=by omega
  simp only[k,g,decide_false,cF,a40]
def b6r(x:Int):Bool:=decide (-64≤x)&&decide (x≤64)
def a7R(lag:Int)(t:List Int):Bool:=decide (2≤lag)&&(decide (lag≤1024)&&t.all b6r)
theorem b5n{t:List Int}{lag:Int}(d:t.length=3):a8r (lag,t)=some (a7R lag t):=by
 have:=a0Y (f:=a4V) t (fun i=>(t,(i:Int),())) b6r (bt:=Sum.inl ()) (bf:=Sum.inr (false,()))
  (fun i h hp=>by
   simp only[b6r,bA,dT]at hp;have a:(i:Int)<3:=by omega
   have g:¬ t[i] < -64:=by omega
   have k:¬ t[i] > 64:=by omega
   simp[a4V,a0B h,a0C (show i<1000000 by omega),a,g,k])
  (fun i h hp=>by
   simp only[b6r,a19,decide_eq_false_iff_not]at hp;have a:(i:Int)<3:=by omega
   by_cases g:t[i] < -64
   simp[a4V,a0B h,a,g];have k:t[i] > 64:=by omega
   simp[a4V,a0B h,a,g,k])
  (by rw[d];simp[a4V])
 simp only[nZ]at this;unfold a8r a7R
 by_cases g:lag<2
 have:¬ 2≤lag:=by omega
 simp[*]
 by_cases k:lag > 1024
 have:¬ lag≤1024:=by omega
 simp[*];have b:2≤lag:=by omega
 have c:lag≤1024:=by omega
 simp only[g,k,b,c,decide_false,decide_true,cF,oB,this,a26];cases t.all b6r<;>rfl
theorem b5N{t:List Int}{lag:Int}(b:t.length=3):a7d (lag,t)=some (a7R lag t):=by
 have:=a0Y (f:=a3j) t (fun i=>(lag,(i:Int),t,())) b6r (bt:=Sum.inl (lag,())) (bf:=Sum.inr (false,()))
  (fun i h hp=>by
   simp only[b6r,bA,dT]at hp;have k:(i:Int)<3:=by omega
   have g:¬ t[i] < -64:=by omega
   have a:¬ t[i] > 64:=by omega
   simp[a3j,a0B h,a0C (show i<1000000 by omega),k,g,a])
  (fun i h hp=>by
   simp only[b6r,a19,decide_eq_false_iff_not]at hp;have k:(i:Int)<3:=by omega
   by_cases g:t[i] < -64
   simp[a3j,a0B h,k,g];have a:t[i] > 64:=by omega
   simp[a3j,a0B h,k,g,a])
  (by rw[b];simp[a3j])
 simp only[nZ]at this;unfold a7d a7R;rw[this];cases hc:t.all b6r with
 |false=>simp
 |true=>
  simp only[cT,oB,Bool.and_true]
  by_cases g:2≤lag<;>simp[g]
def stageB(s:Int×(Int×Unit)):Bool:=decide (1≤s.1)&&(decide (s.1≤32)&&(decide (0≤s.2.1)&&decide (s.2.1≤8)))
def a5y(l:List (Int×Int×Unit)):Bool:=decide (l.length≤3)&&l.all stageB
theorem b1F(s:Int×(Int×Unit)):a6S s=some (stageB s):=by
 unfold a6S stageB
 by_cases h1:1≤s.1<;>by_cases h2:s.1≤32<;>by_cases h3:0≤s.2.1<;>simp[h1,h2,h3]
theorem b1d(s:Int×(Int×Unit)):a6h s=some (stageB s):=by
 unfold a6h stageB
 by_cases h1:1≤s.1<;>by_cases h2:s.1≤32<;>by_cases h3:0≤s.2.1<;>simp[h1,h2,h3]
theorem b3X{l:List (Int×Int×Unit)}(k:short l):a7j l=some (a5y l):=by
 have:=a0Y (f:=a5Z) l (fun i=>(l,(l.length:Int),(i:Int),())) stageB (bt:=Sum.inl ()) (bf:=Sum.inr (false,()))
  (fun i h hp=>by simp[a5Z,a0B h,b1F,hp,a0C (a20 h k),h])
  (fun i h hp=>by simp[a5Z,a0B h,b1F,hp,h])
  (by simp[a5Z])
 simp only[nZ]at this;unfold a7j a5y
 by_cases h:l.length≤3
 have g:¬ ((l.length:Nat):Int) > 3:=by omega
 simp only[g,h,decide_false,decide_true,cF,this,oB,a26];cases l.all stageB<;>rfl;have g:((l.length:Nat):Int) > 3:=by omega
 simp[g,h]
theorem b4J{l:List (Int×Int×Unit)}(k:short l):a6i l=some (a5y l):=by
 have:=a0Y (f:=a4a) l (fun i=>(l,(i:Int),())) stageB (bt:=Sum.inl (l,())) (bf:=Sum.inr (false,()))
  (fun i h hp=>by simp[a4a,a0B h,b1d,hp,a0C (a20 h k),h])
  (fun i h hp=>by simp[a4a,a0B h,b1d,hp,h])
  (by simp[a4a])
 simp only[nZ]at this;unfold a6i a5y;rw[this];cases l.all stageB with
 |false=>simp
 |true=>
  by_cases h:l.length≤3
  have g:((l.length:Nat):Int)≤3:=by omega
  simp[g,h];have g:¬ ((l.length:Nat):Int)≤3:=by omega
  simp only[cT,oB,g,h,decide_false,a40]
@[reducible] def W(n:Int):Int:=wrap .i64 n
theorem a6q(n:Int):wrap .i64 n=Int.bmod n 18446744073709551616:=by
 simp only[wrap,IntKind.bits,IntKind.signed,Int.bmod]
 simp
 split<;>split<;>omega
theorem b4K{n:Int}(h:a0A n=true):W n=n:=by
 have:=a1H.1 h
 exact a0H (by omega)
def a2I(guess:List Int→Int):List Int→List Int→Option (List Int)
 | [],out=>some out
 |x::r,out=>bif a0A (W (x+guess out))then a2I guess r (out++[W (x+guess out)])else none
def a7S{β:Type}(guess:List Int→Int)(bad:β)(out:List Int)(x:Int):List Int ⊕ β:=bif a0A (W (x+guess out))then .inl (out++[W (x+guess out)])else .inr bad
theorem a6G{β:Type}(h:List Int→Int)(g:β)(f:List Int→β):∀(l out:List Int),a6E f (a2o (a7S h g) l out)=match a2I h l out with|some r=>f r|none=>g
 | [],out=>rfl
 |x::l,out=>by
  simp only[a2o,a7S,a2I];cases a0A (W (x+h out))with
  |true=>exact a6G h g f l _
  |false=>rfl
theorem b3x(g:List Int→Int):∀(l out r:List Int),out.all a0A=true→a2I g l out=some r→r.all a0A=true∧r.length=out.length+l.length
 | [],out,r,h,e=>by simp only[a2I,sj]at e;subst e;exact⟨h,by simp⟩
 |x::l,out,r,h,e=>by
  simp only[a2I]at e;cases hw:a0A (W (x+g out))with
  |true=>
   rw[hw]at e;obtain⟨f,k⟩:=b3x g l _ r (by simp[h,hw]) e;exact⟨f,by rw[k];simp;omega⟩
  |false=>rw[hw]at e;cases e
def a2t:Option (List Int)→List Int×Int
 |some r=>(r,0)
 |none=>([],6)
def atB(out:List Int)(i:Nat):Int:=out.getD (out.length-i) 0
def a2u(o:Nat)(out:List Int):Int:=match o with
 | 1=>atB out 1
 | 2=>2*atB out 1-atB out 2
 | 3=>3*atB out 1-3*atB out 2+atB out 3
 | 4=>4*atB out 1-6*atB out 2+4*atB out 3-atB out 4
 |_=>0
theorem b3y{out:List Int}{i:Nat}(f:1≤i)(h:i≤out.length)(g:short out):a1e ((i:Int),out)=some (atB out i,out):=by
 unfold a1e;have g:out.length<1000000:=g;have e:wrap .i64 (((out.length:Nat):Int)-(i:Int))=((out.length-i:Nat):Int):=by rw[a0H (by omega)];omega
 simp only[e,a0B (show out.length-i<out.length by omega),oB,atB];rw[lD,lG (by omega)];rfl
theorem c1W{out:List Int}{o:Nat}(e:o≤4)(h:o≤out.length)(a:short out):∃g,a9q (out,(o:Int))=some g∧∀x,W (x+g)=W (x+a2u o out):=by
 have f:=fun(h':1≤out.length)=>b3y (i:=1) (by omega) h' a;have k:=fun(h':2≤out.length)=>b3y (i:=2) (by omega) h' a;have b:=fun(h':3≤out.length)=>b3y (i:=3) (by omega) h' a;have c:=fun(h':4≤out.length)=>b3y (i:=4) (by omega) h' a;simp only[Int.natCast_one,Int.cast_ofNat_Int]at f k b c;unfold a9q;have d:o=0∨o=1∨o=2∨o=3∨o=4:=by omega
 rcases d with rfl|rfl|rfl|rfl|rfl;exact⟨0,rfl,fun x=>rfl⟩;exact⟨_,by simp[f (by omega)];rfl,fun x=>rfl⟩;refine⟨_,by simp[f (by omega),k (by omega)];rfl,fun x=>?_⟩;simp only[W,a6q,a2u,a30,a32,a33];refine⟨_,by simp[f (by omega),k (by omega),b (by omega)];rfl,fun x=>?_⟩;simp only[W,a6q,a2u,a30,a32,a33,a34];refine⟨_,by simp[f (by omega),k (by omega),b (by omega),c (by omega)];rfl,fun x=>?_⟩;simp only[W,a6q,a2u,a30,a32,a33,a34]
theorem a0L{n:Nat}(h:n<1000000):lim n=true:=a1a (by omega)
theorem c3b{warm rest:List Int}{o:Nat}(v:o≤4)(x:warm.length=o)(w:rest.length<100000):
  b0A (warm,rest,(o:Int))=some (a2t (bif warm.all a0A&&rest.all a0A then a2I (a2u o) rest warm else none)):=by
 have c:short warm:=by unfold short;omega
 have n:short rest:=by unfold short;omega
 unfold b0A;have q:¬ (o:Int)<0:=by omega
 have r:¬ (o:Int) > 4:=by omega
 have s:(((warm.length:Nat):Int) != (o:Int))=false:=by simp;omega
 simp only[q,r,s,decide_false,cF,oB,a7h c,a7h n];cases hw1:warm.all a0A with
 |false=>rfl
 |true=>
  simp only[bT,cF,oB,a26];cases hw2:rest.all a0A with
  |false=>rfl
  |true=>
   simp only[bT,cF,cT,a0L c]
   have:=a0X (f:=a7z) rest (fun i out=>((o:Int),rest,(rest.length:Int),(i:Int),out,())) (a7S (a2u o) (Sum.inr ((6:Int),([]:List Int),())))
    (fun i out=>o≤out.length∧out.length≤o+i) (fun out=>Sum.inl (out,()))
    (fun i h out t=>by
     have l:i<1000000:=by omega
     have m:short out:=by unfold short;omega
     obtain⟨g,u,j⟩:=c1W v t.1 m;have e:wrap .i64 (rest[i]+g)=W (rest[i]+a2u o out):=j _;have k:a2l [W (rest[i]+a2u o out)]=some (a0A (W (rest[i]+a2u o out))):=by rw[a7h (by simp[short])];simp
     simp only[a7z,dlt h,cT,a0B h,oB,u,e,k,a7S];cases hb:a0A (W (rest[i]+a2u o out))with
     |true=>
      simp only[cT,bT,cF,a0L (show out.length+1<1000000 by omega),a0C l];refine⟨fun p d=>?_,fun b hb=>(by cases hb)⟩;simp only[Sum.inl.injEq]at d;subst d;exact⟨rfl,by simp;omega,by simp;omega⟩
     |false=>
      refine⟨fun p d=>(by cases d),fun b hb=>?_⟩;simp only[cF,Sum.inr.injEq]at hb;subst hb;rfl)
    (fun out _=>by simp[a7z]) (a:=warm) ⟨by omega,by omega⟩
   simp only[nZ,a6G]at this;rw[this];cases a2I (a2u o) rest warm<;>rfl
def b3a(o:Nat):List Int:=match o with
 | 1=>[1]
 | 2=>[2,-1]
 | 3=>[3,-3,1]
 | 4=>[4,-6,4,-1]
 |_=>[]
theorem c7t{o:Nat}(g:o≤4):b3S (o:Int)=some (b3a o):=by
 have h:o=0∨o=1∨o=2∨o=3∨o=4:=by omega
 rcases h with rfl|rfl|rfl|rfl|rfl<;>rfl
theorem c4T{o:Nat}(g:o≤4):(b3a o).length=o:=by
 have h:o=0∨o=1∨o=2∨o=3∨o=4:=by omega
 rcases h with rfl|rfl|rfl|rfl|rfl<;>rfl
def b8g(o:Nat)(out:List Int)(x:Int):Nat→Int
 |0=>x
 |k+1=>W (b8g o out x k+W ((b3a o).getD k 0*atB out (k+1)))
theorem c0P{rest out:List Int}{o:Nat}{i x:Int}(q:o≤4)(h:o≤out.length)(d:short out)(r:a0A x=true):
  x0r a3w (rest,(o:Int),b3a o,i,x,(0:Int),out,())=some (rest,(o:Int),b3a o,i,W (x+a2u o out),out,()):=by
 have d:out.length<1000000:=d
 have:=a1x (f:=a3w) (fun k=>(rest,(o:Int),b3a o,i,b8g o out x k,(k:Int),out,()))
  o (b:=(rest,(o:Int),b3a o,i,b8g o out x o,out,())) (fun k c=>by
   have e:wrap .i64 (((out.length:Nat):Int)-1)=((out.length-1:Nat):Int):=by rw[a0H (by omega)];omega
   have j:wrap .i64 (((out.length-1:Nat):Int)-(k:Int))=((out.length-(k+1):Nat):Int):=by rw[a0H (by omega)];omega
   have l:(0:Int)≤((out.length-(k+1):Nat):Int):=by omega
   have m:((out.length-(k+1):Nat):Int)<((out.length:Nat):Int):=by omega
   have a:k<(b3a o).length:=by rw[c4T q];exact c
   have n:(b3a o)[k]=(b3a o).getD k 0:=by rw[lD,lG a];rfl
   simp only[a3w,dlt c,cT,a0B a,oB,e,j,l,m,decide_true,Bool.and_self,tN,a0C (show k<1000000 by omega),b8g,atB,n])
  (by simp[a3w])
 simp only[nZ,b8g]at this;rw[this];have g:b8g o out x o=W (x+a2u o out):=by
  have p:o=0∨o=1∨o=2∨o=3∨o=4:=by omega
  rcases p with rfl|rfl|rfl|rfl|rfl;simp only[b8g,a2u,Int.add_zero];exact(b4K r).symm
  all_goals
   simp only[b8g,b3a,a2u,List.getD_cons_zero,List.getD_cons_succ,Nat.zero_add,a25,W,a6q,a30,a34];congr 1;omega
 rw[g]
theorem b9J{warm rest:List Int}{o:Nat}(m:o≤4)(u:warm.length=o)(t:rest.length<100000):
  a7J (warm,rest,(o:Int))=some (a2t (bif warm.all a0A&&rest.all a0A then a2I (a2u o) rest warm else none)):=by
 have j:short warm:=by unfold short;omega
 have e:short rest:=by unfold short;omega
 unfold a7J;have p:¬ (o:Int)<0:=by omega
 have q:¬ (o:Int) > 4:=by omega
 have r:(((warm.length:Nat):Int) != (o:Int))=false:=by simp;omega
 simp only[p,q,r,decide_false,cF,oB,a1r j,a1r e];cases hw1:warm.all a0A with
 |false=>rfl
 |true=>
  simp only[bT,cF,oB,a26];cases hw2:rest.all a0A with
  |false=>rfl
  |true=>
   have c:lim (0+warm.length)=true:=a0L (by omega);simp only[bT,cF,cT,c,c7t m,oB,a37,a08]
   have:=a0X (f:=a5s) rest (fun i out=>(rest,(o:Int),b3a o,(i:Int),out,())) (a7S (a2u o) (Sum.inr ((6:Int),([]:List Int),())))
    (fun i out=>o≤out.length∧out.length≤o+i) (fun out=>Sum.inl (out,()))
    (fun i h out s=>by
     have k:i<1000000:=by omega
     have d:short out:=by unfold short;omega
     have l:a0A rest[i]=true:=lA.1 hw2 _ (a39 h);simp only[a5s,dlt h,cT,a0B h,oB,c0P m s.1 d l,a1T,a7S];cases hb:a0A (W (rest[i]+a2u o out))with
     |true=>
      simp only[cT,bT,cF,a0L (show out.length+1<1000000 by omega),a0C k];refine⟨fun n g=>?_,fun b hb=>(by cases hb)⟩;simp only[Sum.inl.injEq]at g;subst g;exact⟨rfl,by simp;omega,by simp;omega⟩
     |false=>
      refine⟨fun n g=>(by cases g),fun b hb=>?_⟩;simp only[cF,Sum.inr.injEq]at hb;subst hb;rfl)
    (fun out _=>by simp[a5s]) (a:=warm) ⟨by omega,by omega⟩
   simp only[nZ,a6G]at this;rw[this];cases a2I (a2u o) rest warm<;>rfl
def b8h(out:List Int):List Int→Nat→Int→Int
 | [],_,acc=>acc
 |c::r,i,acc=>bif decide (i<out.length)then b8h out r (i+1) (W (acc+W (c*atB out (i+1))))else acc
def a7y(c:List Int)(s:Int)(out:List Int):Int:=z0h .i64 (b8h out c 0 0) s
theorem c7u{out:List Int}{i:Nat}(h:i<out.length)(g:short out):l0z out (wrap .i64 (wrap .i64 (((out.length:Nat):Int)-1)-(i:Int)))=some (atB out (i+1)):=by
 have g:out.length<1000000:=g;have f:wrap .i64 (((out.length:Nat):Int)-1)=((out.length-1:Nat):Int):=by rw[a0H (by omega)];omega
 have k:wrap .i64 (((out.length-1:Nat):Int)-(i:Int))=((out.length-(i+1):Nat):Int):=by rw[a0H (by omega)];omega
 rw[f,k,a0B (show out.length-(i+1)<out.length by omega),atB,lD,lG (by omega)];rfl
theorem c8t{out:List Int}{i:Nat}(h:i<out.length)(g:out.all a0A=true):a0A (atB out (i+1))=true:=by
 rw[atB,lD,lG (show out.length-(i+1)<out.length by omega)];exact lA.1 g _ (a39 _)
theorem b8i{out c:List Int}{s:Int}(a:short out)(e:short c):∀(k i:Nat)(acc:Int),i+k=c.length→
  x0r a2Y (out,s,acc,c,(c.length:Int),(i:Int),())=some (s,b8h out (c.drop i) i acc,())
 |0,i,acc,h=>by
  obtain rfl:i=c.length:=by omega
  rw[a35];exact a0D (by simp[a2Y,b8h])
 |k+1,i,acc,h=>by
  have g:i<c.length:=by omega
  have l:out.length<1000000:=a;have j:c.length<1000000:=e;rw[a29 g,b8h];have b:wrap .i64 (((out.length:Nat):Int)-1)=((out.length:Nat):Int)-1:=a0H (by omega);have d:wrap .i64 (((out.length:Nat):Int)-1-(i:Int))=((out.length:Nat):Int)-1-(i:Int):=a0H (by omega)
  by_cases hi:i<out.length
  have f:decide (wrap .i64 (wrap .i64 (((out.length:Nat):Int)-1)-(i:Int))<0)=false:=by rw[b,d];simp;omega
  simp only[hi,decide_true,cT];rw[a0E (s':=(out,s,W (acc+W (c[i]*atB out (i+1))),c,(c.length:Int),((i+1:Nat):Int),())) (by
   simp only[a2Y,dlt g,cT,a0B g,oB,f,cF,c7u hi a,a0C (show i<1000000 by omega)])]
  exact b8i a e k (i+1) _ (by omega);have f:decide (wrap .i64 (wrap .i64 (((out.length:Nat):Int)-1)-(i:Int))<0)=true:=by rw[b,d];simp;omega
  simp only[hi,decide_false,cF];exact a0D (by simp only[a2Y,dlt g,cT,a0B g,oB,f])
theorem b6s{out c:List Int}{s:Int}(g:short out)(h:short c)(f:0≤s):a4w (out,c,s)=some (a7y c s out):=by
 have:=b8i (s:=s) g h c.length 0 0 (by omega)
 simp only[nZ,a36]at this;unfold a4w;simp only[this,oB]
 have:¬ s<0:=by omega
 simp[this,a7y]
theorem c0Q{out c:List Int}{s:Int}(f:short out)(a:short c)(b:out.all a0A=true):∀(k i:Nat)(acc:Int),i+k=c.length→
  x0r a2G (out,c,s,acc,(i:Int),())=some (Sum.inl (s,b8h out (c.drop i) i acc,()))
 |0,i,acc,h=>by
  obtain rfl:i=c.length:=by omega
  rw[a35];exact a0D (by simp[a2G,b8h])
 |k+1,i,acc,h=>by
  have g:i<c.length:=by omega
  have j:out.length<1000000:=f;have d:c.length<1000000:=a;rw[a29 g,b8h]
  by_cases hi:i<out.length
  simp only[hi,decide_true,cT];rw[a0E (s':=(out,c,s,W (acc+W (c[i]*atB out (i+1))),((i+1:Nat):Int),())) (by
   simp only[a2G,dlt g,dlt hi,cT,c7u hi f,oB,a1T,c8t hi b,bT,cF,a0B g,a0C (show i<1000000 by omega)])]
  exact c0Q f a b k (i+1) _ (by omega);have e:decide ((i:Int)<((out.length:Nat):Int))=false:=by simp;omega
  simp only[hi,decide_false,cF];exact a0D (by simp only[a2G,dlt g,cT,e,cF])
theorem b9q{s:Int}(h:0≤s)(g:s≤64):wrap .u64 s=s:=a0M (by omega)
theorem b8j{out c:List Int}{s:Int}(f:short out)(h:short c)(k:out.all a0A=true)(g:a4J c s=true):a5P (out,c,s)=some (a7y c s out):=by
 have:=c0Q (s:=s) f h k c.length 0 0 (by omega)
 simp only[nZ,a36]at this;unfold a5P;simp only[a6F h,g,oB,bT,cF,this];simp only[a4J,bA,dT]at g
 have:¬ s<0:=by omega
 simp[b9q (show 0≤s by omega) (by omega),this,a7y]
def b1e(warm rest c:List Int)(s:Int):Option (List Int):=bif warm.all a0A&&rest.all a0A then a2I (a7y c s) rest warm else none
theorem b5O{warm rest c:List Int}{s:Int}(o:a4J c s=true)(w:warm.length=c.length)(v:rest.length<100000):
  a6T (warm,rest,c,s)=some (a2t (b1e warm rest c s)):=by
 have g:=o;simp only[a4J,bA,dT]at g;have k:short c:=by unfold short;omega
 have n:short warm:=by unfold short;omega
 have m:short rest:=by unfold short;omega
 unfold a6T;have r:(((warm.length:Nat):Int) != ((c.length:Nat):Int))=false:=by simp;omega
 simp only[a9H k,o,oB,bT,cF,r,a5X n,a5X m,b1e];cases hw1:warm.all a0A with
 |false=>rfl
 |true=>
  simp only[bT,cF,oB,a26];cases hw2:rest.all a0A with
  |false=>rfl
  |true=>
   have q:wrap .i64 (((warm.length:Nat):Int)+((rest.length:Nat):Int))=((warm.length+rest.length:Nat):Int):=by rw[a0H (by omega)];omega
   have t:(0:Int)≤((warm.length+rest.length:Nat):Int):=by omega
   simp only[bT,cF,cT,q,t,decide_true,tN,a0L (show warm.length+rest.length<1000000 by omega),a0L (show 0+warm.length<1000000 by omega),Bool.and_self,a37,a08]
   have:=a0X (f:=a6t) rest (fun i out=>(c,s,rest,(rest.length:Int),(i:Int),out,())) (a7S (a7y c s) (Sum.inr ((6:Int),([]:List Int),())))
    (fun i out=>out.length≤warm.length+i) (fun out=>Sum.inl (out,()))
    (fun i h out u=>by
     have j:i<1000000:=by omega
     have l:short out:=by unfold short;omega
     have e:wrap .i64 (a7y c s out+rest[i])=W (rest[i]+a7y c s out):=by rw[Int.add_comm]
     simp only[a6t,dlt h,cT,a0B h,oB,b6s l k g.2.2.1,e,a6l,a7S];cases hb:a0A (W (rest[i]+a7y c s out))with
     |true=>
      simp only[cT,bT,cF,a0L (show out.length+1<1000000 by omega),a0C j];refine⟨fun p d=>?_,fun b hb=>(by cases hb)⟩;simp only[Sum.inl.injEq]at d;subst d;exact⟨rfl,by simp;omega⟩
     |false=>
      refine⟨fun p d=>(by cases d),fun b hb=>?_⟩;simp only[cF,Sum.inr.injEq]at hb;subst hb;rfl)
    (fun out _=>by simp[a6t]) (a:=warm) (by omega)
   simp only[nZ,a6G]at this;rw[this];cases a2I (a7y c s) rest warm<;>rfl
theorem b3k{warm rest c:List Int}{s:Int}(d:a4J c s=true)(t:warm.length=c.length)(r:rest.length<100000):
  a4H (warm,rest,c,s)=some (a2t (b1e warm rest c s)):=by
 have e:=d;simp only[a4J,bA,dT]at e;have g:short c:=by unfold short;omega
 have n:short warm:=by unfold short;omega
 have m:short rest:=by unfold short;omega
 unfold a4H;have q:(((warm.length:Nat):Int) != ((c.length:Nat):Int))=false:=by simp;omega
 simp only[a6F g,d,oB,bT,cF,q,a1r n,a1r m,b1e];cases hw1:warm.all a0A with
 |false=>rfl
 |true=>
  simp only[bT,cF,oB,a26];cases hw2:rest.all a0A with
  |false=>rfl
  |true=>
   simp only[bT,cF,cT,a0L (show 0+warm.length<1000000 by omega),a37,a08]
   have:=a0X (f:=a4Q) rest (fun i out=>(rest,c,s,(i:Int),out,())) (a7S (a7y c s) (Sum.inr ((6:Int),([]:List Int),())))
    (fun i out=>out.length≤warm.length+i∧out.all a0A=true) (fun out=>Sum.inl (out,()))
    (fun i h out o=>by
     have j:i<1000000:=by omega
     have l:short out:=by unfold short;omega
     simp only[a4Q,dlt h,cT,a0B h,oB,b8j l g o.2 d,a1T,a7S];cases hb:a0A (W (rest[i]+a7y c s out))with
     |true=>
      simp only[cT,bT,cF,a0L (show out.length+1<1000000 by omega),a0C j];refine⟨fun p k=>?_,fun b hb=>(by cases hb)⟩;simp only[Sum.inl.injEq]at k;subst k;exact⟨rfl,by simp;omega,by simp[o.2,hb]⟩
     |false=>
      refine⟨fun p k=>(by cases k),fun b hb=>?_⟩;simp only[cF,Sum.inr.injEq]at hb;subst hb;rfl)
    (fun out _=>by simp[a4Q]) (a:=warm) ⟨by omega,hw1⟩
   simp only[nZ,a6G]at this;rw[this];cases a2I (a7y c s) rest warm<;>rfl
end Go.Ab
