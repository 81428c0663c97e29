/- Part of the proof: It. Conditions: as each statement tells. -/
import Derived.RangeFuncBound
import Derived.RangeFuncCalls
import Derived.RangeFuncBox
import Derived.WalkKit
import Derived.OwnWalkIn
import Derived.TacticsInMore
import Derived.LoopNIn
import Derived.LoopIn
import Derived.Test.YtbadoabamddpfaaGreatDoorProg
import Derived.KernelRfl
import Derived.Test.YtbadoabamddpfaaGreatDoorMD
noncomputable section
set_option linter.unusedSimpArgs false
set_option linter.unusedVariables false
open Array renaming replicate_succ→a16,replicate_zero→a18
open Bool renaming and_self→a09,true_and→a35
open Int renaming toNat→a00,tmod→a05,tdiv→a07
open List renaming length→a01,replicate→a02,append→a03,getD→a04,take→a06,drop_eq_getElem_cons→a08,set→a19,drop→a20,append_toArray→a21,cons_append→a22,nil_append→a23,size_toArray→a24,push_toArray→a25,zipWith→a26,length_nil→a27,drop_length→a32,set_append_right→a34,set_cons_zero→a36,getElem_mem→a38,drop_zero→a39
open Nat renaming reduceAdd→a28,reduceSub→a29,lt_trans→a30,le_refl→a33,sub_self→a37
open Option renaming getD_some→a31
namespace Go.Ab
open Go.Proofs Go.RowKit
attribute [local go_sem] Oper.semAt_some
set_option maxHeartbeats 1000000 in
theorem d0I:A0b Tryz.prog 297 326:=by
 refine⟨⟨_,_,Tryz.func297,rfl,by kernel_rfl⟩,fun A len cap w=>(callsIn_wide (n:=3)).1 ?_⟩
 refine callsIn_of_wp Tryz.func297 rfl trivial ?_
 simp only[Tryz.ntmps297,a24,lC,a27,a28,a29,a16,a18,a25,a21,a23,a22]
 gi_wp2
 go_ret
 exact⟨rfl,_,rfl⟩
@[reducible] def b3q:Ty:=.pair (.int .i64) (.pair (.int .i64) .unit)
set_option maxRecDepth 100000 in
set_option maxHeartbeats 2000000 in
theorem c8a (l Bs b off len cap:Nat) (p q:Nat→Int) (J:Nat→World→Prop) (Jx:World→Prop) (W:World)
  (hJ:∀k W',J k W'→W'.cell? ⟨Bs,0,none⟩=some (.slice (some ⟨b,off,none⟩) len cap))
  (hlen:len<2147483648)
  (hcs:∀k W',k<len→J (k+1) W'→W'.cell? ⟨b,off+k*2,none⟩=some (.int .i64 (p k))∧W'.cell? ⟨b,off+k*2+1,none⟩=some (.int .i64 (q k)))
  (hY:∀n W',n<len→J (n+1) W'→YieldAt (Fr none) 0 Tryz.prog l #[.int .i64 (n:Int),.agg #[.int .i64 (p n),.int .i64 (q n)]] W' fun en W''=>(en=.returned (.bool true)∧J n W'')∨(en=.returned (.bool false)∧Jx W''))
  (h0:J len W):
  CallsIn (Fr none) 0 Tryz.prog 326 #[.func (.yield l) #[] #[],.pointer (some ⟨Bs,0,none⟩)] W fun en W'=>(∃v,en=.returned v)∧(J 0 W'∨Jx W'):=by
 refine callsIn_of_wp Tryz.func326 rfl trivial ?_
 simp only[Tryz.ntmps326,a24,lC,a27,a28,a29,a16,a18,a25,a21,a23,a22]
 have hBs:=hJ _ _ h0
 gi_wp2
 gi_loopw [3] (fun i wr=>∃k:Nat,k≤len∧i=.int .i64 ((k:Int)-1)∧J k wr) (fun i _=>(intOf i+1).toNat)
 case atStart=>exact⟨len,a33 _,rfl,h0⟩
 case round=>
  obtain⟨k,hk,rfl,hJs⟩:=hrel
  cases k with
  |succ n=>
   obtain⟨fn,tmps,assign,body,hy,hR⟩:=hY n wr (by omega) hJs
   have hcx:=hJ _ _ hJs
   obtain⟨hc0,hc1⟩:=hcs n wr (by omega) hJs
   gi_wp2
   refine hR.mono ?_
   rintro e W3 (⟨rfl,hJ3⟩|⟨rfl,hJx3⟩)
   ·gi_wp2
    go_roundw
    case rel=>exact⟨n,by omega,by simp,hJ3⟩
    case measure=>simp[intOf]
   ·gi_wp2
    refine bodyPost_ret (results_none rfl _ _ _) rfl ?_
    exact⟨⟨_,rfl⟩,.inr hJx3⟩
  |zero=>
   gi_wp2
   go_end0
   exact⟨⟨_,rfl⟩,.inl hJs⟩
set_option maxRecDepth 100000 in
set_option maxHeartbeats 2000000 in
theorem c6Q (l Bs:Nat) (A:Option Addr) (c:Nat) (J:Nat→World→Prop) (W:World) (hBs:W.cell? ⟨Bs,0,none⟩=some (.slice A 0 c)) (h0:J 0 W):
  CallsIn (Fr none) 0 Tryz.prog 326 #[.func (.yield l) #[] #[],.pointer (some ⟨Bs,0,none⟩)] W fun en W'=>(∃v,en=.returned v)∧J 0 W':=by
 refine callsIn_of_wp Tryz.func326 rfl trivial ?_
 simp only[Tryz.ntmps326,a24,lC,a27,a28,a29,a16,a18,a25,a21,a23,a22]
 gi_wp2
 gi_loopw [3] (fun i wr=>i=.int .i64 (-1)∧J 0 wr) (fun _ _=>0)
 case atStart=>exact⟨rfl,h0⟩
 case round=>
  obtain⟨rfl,hJs⟩:=hrel
  gi_wp2
  go_end0
  exact⟨⟨_,rfl⟩,hJs⟩
theorem c1B{m:Mem}{Sh:Nat→Prop}{b o:Nat}{x:b3q.den}{R}(h:dec m b3q ((Src.at b o).rd m)=some (x,[],R)):
  m b o=some (.int .i64 x.1)∧m b (o+1)=some (.int .i64 x.2.1)∧VOk m Sh b3q x (.agg #[.int .i64 x.1,.int .i64 x.2.1]):=by
 obtain⟨p,q,u⟩:=x;simp only[b3q,dec,Src.rd,Ty.cells,Nat.add_zero]at h
 split at h
 cases h;rename_i r o1 j g
 split at g
 rename_i n c
 split at g
 rename_i e;subst e;simp only[sj]at g;obtain⟨rfl,rfl,rfl⟩:=g
 split at h
 cases h;rename_i s o2 r2 k
 split at k
 cases k;rename_i t i l f
 split at f
 rename_i d a
 split at f
 rename_i e;subst e;simp only[sj]at f k h;obtain⟨rfl,rfl,rfl⟩:=f;obtain⟨rfl,rfl,rfl⟩:=k;obtain⟨⟨rfl,rfl,rfl⟩,-,-⟩:=h;exact⟨c,a,fun _=>⟨_,rfl,rfl⟩,fun h=>(by cases h),[],rfl,by simp⟩;cases f;cases f;cases g;cases g
theorem b6q {P:Program} {f:FuncId} (hb:l0u P f) (args:Array Value) (w:World):(callFunc f args).run P w=.ok (.enter f args) w:=by
 obtain ⟨fn,c',h1,h2,h3⟩:=hb;have h4 : ¬ fn.name = "runtime.NumGoroutine" := by simpa using h3
 simp [callFunc,program,Sem.run,h1,h2,h4,Result.andThen]
theorem d0J:w0i Tryz.prog 326 b3q:=by
 refine⟨fun args w=>b6q ⟨_,_,Tryz.func326,rfl,by kernel_rfl⟩ args w,fun l Bs sv f J D W i t L o=>?_⟩;obtain⟨z,Sh,y⟩:=t _ _ o;obtain⟨A,n,c,rfl,rfl,N,v,j⟩:=y.header
 by_cases hx0:f.length=0
 rw[hx0]at o z;exact(c6Q l Bs A c J W z o).mono fun e g h=>⟨h.1,.inl h.2⟩;cases A with
 |none=>have:=j rfl;omega
 |some A=>
  obtain⟨b,off,B⟩:=A
  have:=(v _ rfl).resolve_left (by omega)
  simp only at this;subst this;have u:∀k g,k<f.length→J (k+1) g→∃x,f[k]?=some x∧g.cell? ⟨b,off+k*2,none⟩=some (.int .i64 x.1)∧g.cell? ⟨b,off+k*2+1,none⟩=some (.int .i64 x.2.1):=by
   intro k g p d;obtain⟨-,a,hv⟩:=t _ _ d;obtain⟨C,O,E,R,e,F,G,H,s,I,K⟩:=hv.elem rfl (lG p);simp only[Value.slice.injEq,sj]at e;obtain⟨rfl,rfl,rfl⟩:=e;obtain⟨q,r,-⟩:=c1B (Sh:=a) s;exact⟨_,lG p,q,r⟩
  refine c8a l Bs b off f.length c (fun k=>((f[k]?).getD b3q.dflt).1) (fun k=>((f[k]?).getD b3q.dflt).2.1) J D W (fun k g d=>(t k g d).1) i (fun k g p d=>?_) (fun n g M d=>?_) o;obtain⟨x,m,q,r⟩:=u k g p d;simp only[m,a31];exact⟨q,r⟩;have m:f[n]?=some f[n]:=lG M;simp only[m,a31];refine L n _ _ g m d fun a hv=>?_
  obtain⟨C,O,E,R,e,F,G,H,s,I,K⟩:=hv.elem rfl m;exact(c1B (Sh:=a) s).2.2
set_option maxHeartbeats 1000000 in
theorem d0K:A0b Tryz.prog 186 242:=by
 refine⟨⟨_,_,Tryz.func186,rfl,by kernel_rfl⟩,fun A len cap w=>(callsIn_wide (n:=3)).1 ?_⟩
 refine callsIn_of_wp Tryz.func186 rfl trivial ?_
 simp only[Tryz.ntmps186,a24,lC,a27,a28,a29,a16,a18,a25,a21,a23,a22]
 gi_wp2
 go_ret
 exact⟨rfl,_,rfl⟩
@[reducible] def b5B:Ty:=.pair (.int .i64) (.pair (.int .i64) (.pair (.int .i64) .unit))
set_option maxRecDepth 100000 in
set_option maxHeartbeats 2000000 in
theorem c8b (l Bs b off len cap:Nat) (p q r:Nat→Int) (J:Nat→World→Prop) (Jx:World→Prop) (W:World)
  (hJ:∀k W',J k W'→W'.cell? ⟨Bs,0,none⟩=some (.slice (some ⟨b,off,none⟩) len cap))
  (hlen:len<2147483648)
  (hcs:∀k W',k<len→J (k+1) W'→W'.cell? ⟨b,off+k*3,none⟩=some (.int .i64 (p k))∧W'.cell? ⟨b,off+k*3+1,none⟩=some (.int .i64 (q k))∧W'.cell? ⟨b,off+k*3+2,none⟩=some (.int .i64 (r k)))
  (hY:∀n W',n<len→J (n+1) W'→YieldAt (Fr none) 0 Tryz.prog l #[.int .i64 (n:Int),.agg #[.int .i64 (p n),.int .i64 (q n),.int .i64 (r n)]] W' fun en W''=>(en=.returned (.bool true)∧J n W'')∨(en=.returned (.bool false)∧Jx W''))
  (h0:J len W):
  CallsIn (Fr none) 0 Tryz.prog 242 #[.func (.yield l) #[] #[],.pointer (some ⟨Bs,0,none⟩)] W fun en W'=>(∃v,en=.returned v)∧(J 0 W'∨Jx W'):=by
 refine callsIn_of_wp Tryz.func242 rfl trivial ?_
 simp only[Tryz.ntmps242,a24,lC,a27,a28,a29,a16,a18,a25,a21,a23,a22]
 have hBs:=hJ _ _ h0
 gi_wp2
 gi_loopw [3] (fun i wr=>∃k:Nat,k≤len∧i=.int .i64 ((k:Int)-1)∧J k wr) (fun i _=>(intOf i+1).toNat)
 case atStart=>exact⟨len,a33 _,rfl,h0⟩
 case round=>
  obtain⟨k,hk,rfl,hJs⟩:=hrel
  cases k with
  |succ n=>
   obtain⟨fn,tmps,assign,body,hy,hR⟩:=hY n wr (by omega) hJs
   have hcx:=hJ _ _ hJs
   obtain⟨hc0,hc1,hc2⟩:=hcs n wr (by omega) hJs
   gi_wp2
   refine hR.mono ?_
   rintro e W3 (⟨rfl,hJ3⟩|⟨rfl,hJx3⟩)
   ·gi_wp2
    go_roundw
    case rel=>exact⟨n,by omega,by simp,hJ3⟩
    case measure=>simp[intOf]
   ·gi_wp2
    refine bodyPost_ret (results_none rfl _ _ _) rfl ?_
    exact⟨⟨_,rfl⟩,.inr hJx3⟩
  |zero=>
   gi_wp2
   go_end0
   exact⟨⟨_,rfl⟩,.inl hJs⟩
set_option maxRecDepth 100000 in
set_option maxHeartbeats 2000000 in
theorem c6R (l Bs:Nat) (A:Option Addr) (c:Nat) (J:Nat→World→Prop) (W:World) (hBs:W.cell? ⟨Bs,0,none⟩=some (.slice A 0 c)) (h0:J 0 W):
  CallsIn (Fr none) 0 Tryz.prog 242 #[.func (.yield l) #[] #[],.pointer (some ⟨Bs,0,none⟩)] W fun en W'=>(∃v,en=.returned v)∧J 0 W':=by
 refine callsIn_of_wp Tryz.func242 rfl trivial ?_
 simp only[Tryz.ntmps242,a24,lC,a27,a28,a29,a16,a18,a25,a21,a23,a22]
 gi_wp2
 gi_loopw [3] (fun i wr=>i=.int .i64 (-1)∧J 0 wr) (fun _ _=>0)
 case atStart=>exact⟨rfl,h0⟩
 case round=>
  obtain⟨rfl,hJs⟩:=hrel
  gi_wp2
  go_end0
  exact⟨⟨_,rfl⟩,hJs⟩
theorem c0U{m:Mem}{rd:Nat→Option Value}{x o r}(h:dec m (.int .i64) rd=some (x,o,r)):rd 0=some (.int .i64 x)∧o=[]∧r=[]:=by
 simp only[dec]at h
 split at h
 rename_i k n g
 split at h
 rename_i e;subst e;simp only[sj,pJ]at h;obtain⟨rfl,rfl,rfl⟩:=h;exact⟨g,rfl,rfl⟩;cases h;cases h
theorem b8G{m:Mem}{a b:Ty}{rd:Nat→Option Value}{x o r}(h:dec m (.pair a b) rd=some (x,o,r)):∃o1 g o2 r2,dec m a rd=some (x.1,o1,g)∧dec m b (fun j=>rd (a.cells+j))=some (x.2,o2,r2)∧o=o1++o2∧r=g++r2:=by
 simp only[dec]at h
 split at h
 cases h;rename_i c o1 g f
 split at h
 cases h;rename_i d o2 r2 k;simp only[sj,pJ]at h;obtain⟨rfl,rfl,rfl⟩:=h;exact⟨_,_,_,_,f,k,rfl,rfl⟩
theorem c2Q{m:Mem}{Sh:Nat→Prop}{b o:Nat}{x:b5B.den}{R}(h:dec m b5B ((Src.at b o).rd m)=some (x,[],R)):
  m b o=some (.int .i64 x.1)∧m b (o+1)=some (.int .i64 x.2.1)∧m b (o+2)=some (.int .i64 x.2.2.1)∧VOk m Sh b5B x (.agg #[.int .i64 x.1,.int .i64 x.2.1,.int .i64 x.2.2.1]):=by
 obtain⟨_,_,_,_,g,f,-,-⟩:=b8G h;obtain⟨_,_,_,_,k,a,-,-⟩:=b8G f;obtain⟨_,_,_,_,c,-,-,-⟩:=b8G a;exact⟨(c0U g).1,(c0U k).1,(c0U c).1,fun _=>⟨_,rfl,rfl⟩,fun h=>(by cases h),[],rfl,by simp⟩
theorem d0L:w0i Tryz.prog 242 b5B:=by
 refine⟨fun args w=>b6q ⟨_,_,Tryz.func242,rfl,by kernel_rfl⟩ args w,fun l Bs sv f J E W i u M o=>?_⟩;obtain⟨B,Sh,z⟩:=u _ _ o;obtain⟨A,n,c,rfl,rfl,O,y,j⟩:=z.header
 by_cases hx0:f.length=0
 rw[hx0]at o B;exact(c6R l Bs A c J W B o).mono fun e g h=>⟨h.1,.inl h.2⟩;cases A with
 |none=>have:=j rfl;omega
 |some A=>
  obtain⟨b,off,C⟩:=A
  have:=(y _ rfl).resolve_left (by omega)
  simp only at this;subst this;have v:∀k g,k<f.length→J (k+1) g→∃x,f[k]?=some x∧g.cell? ⟨b,off+k*3,none⟩=some (.int .i64 x.1)∧g.cell? ⟨b,off+k*3+1,none⟩=some (.int .i64 x.2.1)∧g.cell? ⟨b,off+k*3+2,none⟩=some (.int .i64 x.2.2.1):=by
   intro k g p d;obtain⟨-,a,hv⟩:=u _ _ d;obtain⟨D,P,F,R,e,G,H,I,t,K,L⟩:=hv.elem rfl (lG p);simp only[Value.slice.injEq,sj]at e;obtain⟨rfl,rfl,rfl⟩:=e;obtain⟨q,r,s,-⟩:=c2Q (Sh:=a) t;exact⟨_,lG p,q,r,s⟩
  refine c8b l Bs b off f.length c (fun k=>((f[k]?).getD b5B.dflt).1) (fun k=>((f[k]?).getD b5B.dflt).2.1) (fun k=>((f[k]?).getD b5B.dflt).2.2.1) J E W (fun k g d=>(u k g d).1) i (fun k g p d=>?_) (fun n g N d=>?_) o;obtain⟨x,m,q,r,s⟩:=v k g p d;simp only[m,a31];exact⟨q,r,s⟩;have m:f[n]?=some f[n]:=lG N;simp only[m,a31];refine M n _ _ g m d fun a hv=>?_
  obtain⟨D,P,F,R,e,G,H,I,t,K,L⟩:=hv.elem rfl m;exact(c2Q (Sh:=a) t).2.2.2
end Go.Ab
namespace Go.Ab
open IntKind(wrap)
open Go.Proofs
set_option maxRecDepth 100000
set_option linter.unusedVariables false
@[reducible] def QI:Ty:=.int .i64
@[reducible] def QL:Ty:=.list false QI
@[reducible] def Z0:Type:=(Unit ⊕ (Bool×Unit))
@[reducible] def Z1:Type:=((List (List Int))×Unit)
@[reducible] def Z2:Type:=(Int×(Int×(List Int)))
@[reducible] def Z3:Type:=((List Int)×(Int×Int))
@[reducible] def Z4:Type:=(List (Int×(Int×Unit)))
@[reducible] def Z5:Type:=(Int×((List Int)×Unit))
@[reducible] def Z6:Type:=((List Int)×(Int×Unit))
@[reducible] def Z7:Type:=(Int×(Int×(Int×Unit)))
@[reducible] def Z8:Type:=(Int×(Int×(Bool×Unit)))
@[reducible] def Z9:Type:=((List Int)×((List Int)×Int))
@[reducible] def Z10:Type:=(Int×Z1)
@[reducible] def Z11:Type:=((List Int)×((List Int)×Unit))
@[reducible] def Z12:Type:=(List Z7)
@[reducible] def Z13:Type:=((List Int)×(Int×(Int×Unit)))
@[reducible] def Z14:Type:=(Int×Z5)
@[reducible] def Z15:Type:=(Int×Z6)
@[reducible] def Z16:Type:=((List Int)×(Int×(Bool×Unit)))
@[reducible] def Z17:Type:=(Z5×Unit)
@[reducible] def Z18:Type:=(Z6×Unit)
@[reducible] def Z19:Type:=(Int×Z7)
@[reducible] def Z20:Type:=(Z7×Unit)
@[reducible] def Z21:Type:=(Int×Z8)
@[reducible] def Z22:Type:=(List Z10)
@[reducible] def Z23:Type:=(Int×Z11)
@[reducible] def Z24:Type:=((List Int)×Z5)
@[reducible] def Z25:Type:=((List (List Int))×(Int×(Int×Unit)))
@[reducible] def Z26:Type:=(Int×Z10)
@[reducible] def Z27:Type:=(Z10×Int)
@[reducible] def Z28:Type:=(Z10×Unit)
@[reducible] def Z29:Type:=(Int×Z13)
@[reducible] def Z30:Type:=((List Int)×Z7)
@[reducible] def Z31:Type:=(Int×Z14)
@[reducible] def Z32:Type:=(Z13×Int)
@[reducible] def Z33:Type:=((List Int)×Z8)
@[reducible] def Z34:Type:=(Int×Z18)
@[reducible] def Z35:Type:=(Int×Z19)
@[reducible] def Z36:Type:=(Z13×Unit)
@[reducible] def Z37:Type:=(Int×Z20)
@[reducible] def Z38:Type:=(Bool×Z20)
@[reducible] def Z39:Type:=((List Int)×Z11)
@[reducible] def Z40:Type:=((List Int)×Z14)
@[reducible] def Z41:Type:=(Int×Z23)
@[reducible] def Z42:Type:=(Z22×Unit)
@[reducible] def Z43:Type:=(Int×Z25)
@[reducible] def Z44:Type:=((List Int)×Z13)
@[reducible] def Z45:Type:=(Int×Z28)
@[reducible] def Z46:Type:=(Z5×((List Int)×Unit))
@[reducible] def Z47:Type:=(((List Int)×Unit) ⊕ Z5)
@[reducible] def Z48:Type:=((List Int)×Z16)
@[reducible] def Z49:Type:=(Int×Z29)
@[reducible] def Z50:Type:=(Z23×Unit)
@[reducible] def Z51:Type:=(Int×Z30)
@[reducible] def Z52:Type:=(Int×Z34)
@[reducible] def Z53:Type:=(Int×Z35)
@[reducible] def Z54:Type:=(Int×Z36)
@[reducible] def Z55:Type:=(Bool×Z36)
@[reducible] def Z56:Type:=(Int×Z39)
@[reducible] def Z57:Type:=(Int×Z40)
@[reducible] def Z58:Type:=((List Int)×Z28)
@[reducible] def Z59:Type:=((List Int)×Z29)
@[reducible] def Z60:Type:=((List Int)×Z30)
@[reducible] def Z61:Type:=(Int×Z45)
@[reducible] def Z62:Type:=(Int×Z50)
@[reducible] def Z63:Type:=((List Int)×Z36)
@[reducible] def Z64:Type:=(Z29 ⊕ (Int×Unit))
@[reducible] def Z65:Type:=(Int×Z53)
@[reducible] def Z66:Type:=(Int×Z54)
@[reducible] def Z67:Type:=(Int×Z55)
@[reducible] def Z68:Type:=(Z13 ⊕ Z0)
@[reducible] def Z69:Type:=((List Int)×Z41)
@[reducible] def Z70:Type:=(Int×Z56)
@[reducible] def Z71:Type:=((List Int)×Z46)
@[reducible] def Z72:Type:=((List Int)×Z49)
@[reducible] def Z73:Type:=((List Int)×Z50)
@[reducible] def Z74:Type:=(Int×Z58)
@[reducible] def Z75:Type:=(Int×Z57)
@[reducible] def Z76:Type:=(Int×Z62)
@[reducible] def Z77:Type:=((List Int)×Z52)
@[reducible] def Z78:Type:=(Int×Z63)
@[reducible] def Z79:Type:=(Z6×Z17)
@[reducible] def Z80:Type:=(Int×Z65)
@[reducible] def Z81:Type:=(Z5×Z17)
@[reducible] def Z82:Type:=(Int×Z66)
@[reducible] def Z83:Type:=(Int×Z69)
@[reducible] def Z84:Type:=(Int×Z73)
@[reducible] def Z85:Type:=(Int×Z74)
@[reducible] def Z86:Type:=(Int×Z76)
@[reducible] def Z87:Type:=(Int×Z77)
@[reducible] def Z88:Type:=(Int×Z78)
@[reducible] def Z89:Type:=(Int×Z80)
@[reducible] def Z90:Type:=((List Int)×Z79)
@[reducible] def Z91:Type:=(Z12×Z28)
@[reducible] def Z92:Type:=(Int×Z88)
@[reducible] def Z93:Type:=(Int×Z90)
@[reducible] def Z94:Type:=(Z7×Z60)
@[reducible] def Z95:Type:=(Z4×Z71)
@[reducible] def Z96:Type:=(Int×Z93)
@[reducible] def Z97:Type:=(Z5×Z81)
@[reducible] def Z98:Type:=(Z94×Unit)
@[reducible] def Z99:Type:=((List Int)×Z95)
@[reducible] def c2R:Type:=((List Int)×Z96)
@[reducible] def d4C:Type:=((List Int)×Z99)
@[reducible] def d4D:Type:=(Int×d4C)
@[reducible] def d4E:Type:=(Int×d4D)
@[reducible] def d4F:Type:=(Int×d4E)
@[reducible] def d4G:Type:=(Int×d4F)
@[reducible] def a1U:Type:=(Int×d4G)
@[reducible] def b2v:Type:=(List a1U)
@[reducible] def b4y:Type:=(a1U×Int)
@[reducible] def b5C:Type:=(a1U×Unit)
@[reducible] def c8c:Type:=(b2v×Unit)
@[reducible] def d1G:Type:=(Bool×b5C)
@[reducible] def c2S:Type:=(Int×d1G)
@[reducible] def c5t:Type:=(b2v×((List Int)×Unit))
@[reducible] def d4H:Type:=(Z6×b5C)
@[reducible] def c5u:Type:=(Int×d4H)
@[reducible] def d1H:Type:=(Z13×b5C)
@[reducible] def c5v:Type:=(a1U×Z36)
@[reducible] def d4I:Type:=(Z12×c8c)
@[reducible] def b4z:Type:=(Int×c5u)
@[reducible] def c8d:Type:=(Int×d1H)
@[reducible] def c0V:Type:=(Int×c8d)
@[reducible] def d4J:Type:=(Z7×d4I)
@[reducible] def d4K:Type:=(Int×d4J)
@[reducible] def a3r:Type:=(Int×d4K)
@[reducible] def b8H:Type:=(List a3r)
@[reducible] def b4A:Type:=(a3r×Unit)
@[reducible] def d4L:Type:=(b8H×Unit)
@[reducible] def c2T:Type:=(Z10×b4A)
@[reducible] def d4M:Type:=(Z4×d4L)
@[reducible] def c0W:Type:=(a3r×Z36)
@[reducible] def d4N:Type:=(Int×d4M)
@[reducible] def d4O:Type:=(Int×d4N)
@[reducible] def b2w:Type:=(a1U×b5C)
@[reducible] def d4P:Type:=(Int×b2w)
@[reducible] def c5w:Type:=(Int×d4P)
@[reducible] def b1o:Type:=(Z7×d4O)
@[reducible] def b3r:Type:=(b1o×Unit)
@[reducible] def d4Q:Type:=(Z22×b3r)
@[reducible] def c5x:Type:=((List (List Int))×d4Q)
@[reducible] def Q0:Ty:=(.pair QI .unit)
@[reducible] def Q1:Ty:=(.pair (.list true QI) .unit)
@[reducible] def Q2:Ty:=(.pair QL .unit)
@[reducible] def Q3:Ty:=(.pair QI Q0)
@[reducible] def Q4:Ty:=(.pair (.int .u64) Q0)
@[reducible] def Q5:Ty:=(.pair (.nl QL) .unit)
@[reducible] def Q6:Ty:=(.pair (.list true (.list true QI)) .unit)
@[reducible] def Q7:Ty:=(.pair (.list true QL) .unit)
@[reducible] def Q8:Ty:=(.pair (.list false QL) .unit)
@[reducible] def Q9:Ty:=(.pair (.list true (.int .u8)) Q0)
@[reducible] def Q10:Ty:=(.pair QI Q1)
@[reducible] def Q11:Ty:=(.pair QI Q2)
@[reducible] def Q12:Ty:=(.pair QI Q3)
@[reducible] def Q13:Ty:=(.pair QI Q4)
@[reducible] def Q14:Ty:=(.pair (.list true QI) Q1)
@[reducible] def Q15:Ty:=(.pair QI Q8)
@[reducible] def Q16:Ty:=(.pair (.list false (.int .u8)) Q3)
@[reducible] def Q17:Ty:=(.pair QI Q14)
@[reducible] def Q18:Ty:=(.pair (.list true QI) Q13)
@[reducible] def Q19:Ty:=(.pair QL Q13)
@[reducible] def Q20:Ty:=(.pair Q11 Q2)
@[reducible] def Q21:Ty:=(.pair (.list true QI) Q18)
@[reducible] def Q22:Ty:=(.pair QL Q19)
@[reducible] def Q23:Ty:=(.pair (.nl QI) Q20)
@[reducible] def Q24:Ty:=(.pair QL Q20)
@[reducible] def Q25:Ty:=(.pair (.list true Q3) Q23)
@[reducible] def Q26:Ty:=(.pair Q12 Q21)
@[reducible] def Q27:Ty:=(.pair Q12 Q22)
@[reducible] def Q28:Ty:=(.pair (.list false Q3) Q24)
@[reducible] def Q29:Ty:=(.pair (.arr 3 QI) Q25)
@[reducible] def Q30:Ty:=(.pair (.arr 3 QI) Q28)
@[reducible] def Q31:Ty:=(.pair (.list true QI) Q29)
@[reducible] def Q32:Ty:=(.pair QL Q30)
@[reducible] def Q33:Ty:=(.pair QI Q31)
@[reducible] def Q34:Ty:=(.pair QI Q32)
@[reducible] def Q35:Ty:=(.pair QI Q33)
@[reducible] def Q36:Ty:=(.pair QI Q34)
@[reducible] def Q37:Ty:=(.pair QI Q35)
@[reducible] def Q38:Ty:=(.pair QI Q36)
@[reducible] def Q39:Ty:=(.pair QI Q37)
@[reducible] def Q40:Ty:=(.pair QI Q38)
@[reducible] def Q41:Ty:=(.pair QI Q39)
@[reducible] def Q42:Ty:=(.pair QI Q40)
@[reducible] def Q43:Ty:=(.pair (.nl Q42) .unit)
@[reducible] def Q44:Ty:=(.pair (.list true Q42) .unit)
@[reducible] def Q45:Ty:=(.pair (.list false Q42) .unit)
@[reducible] def Q46:Ty:=(.pair (.nl Q12) Q43)
@[reducible] def Q47:Ty:=(.pair (.list true Q12) Q43)
@[reducible] def Q48:Ty:=(.pair (.list false Q12) Q44)
@[reducible] def Q49:Ty:=(.pair (.list false Q12) Q45)
@[reducible] def Q50:Ty:=(.pair Q12 Q46)
@[reducible] def Q51:Ty:=(.pair Q12 Q47)
@[reducible] def Q52:Ty:=(.pair Q12 Q48)
@[reducible] def Q53:Ty:=(.pair Q12 Q49)
@[reducible] def Q54:Ty:=(.pair QI Q50)
@[reducible] def Q55:Ty:=(.pair QI Q51)
@[reducible] def Q56:Ty:=(.pair QI Q52)
@[reducible] def Q57:Ty:=(.pair QI Q53)
@[reducible] def Q58:Ty:=(.pair QI Q55)
@[reducible] def Q59:Ty:=(.pair QI Q56)
@[reducible] def Q60:Ty:=(.pair QI Q57)
@[reducible] def Q61:Ty:=(.pair (.nl Q60) .unit)
@[reducible] def Q62:Ty:=(.pair (.list true Q60) .unit)
@[reducible] def Q63:Ty:=(.pair (.list false Q60) .unit)
@[reducible] def Q64:Ty:=(.pair (.nl Q3) Q61)
@[reducible] def Q65:Ty:=(.pair (.list true Q3) Q62)
@[reducible] def Q66:Ty:=(.pair (.list false Q3) Q63)
@[reducible] def Q67:Ty:=(.pair (.int .u64) Q64)
@[reducible] def Q68:Ty:=(.pair (.int .u64) Q65)
@[reducible] def Q69:Ty:=(.pair (.int .u64) Q66)
@[reducible] def Q70:Ty:=(.pair QI Q67)
@[reducible] def Q71:Ty:=(.pair QI Q68)
@[reducible] def Q72:Ty:=(.pair QI Q69)
@[reducible] def Q73:Ty:=(.pair Q12 Q71)
@[reducible] def Q74:Ty:=(.pair Q12 Q72)
def c2K:List (Nat×Ty):=[(2,.int .i64),(3,.int .i64),(5,.int .u8),(9,.str),(22,.list false QL),(24,.pair QI Q8),(25,.int .u16),(30,.pair QI Q3),(31,.list false Q12),(32,.list false Q42),(34,.pair QI Q57),(35,.int .i64),(38,.list false (.int .u8)),(42,.int .u64),(49,.int .u64),(50,.list false Q3),(51,.list false Q60),(53,.pair Q12 Q72),(55,.list false QI),(74,.pair QI Q0),(76,.pair QI Q0),(103,.arr 3 QI),(104,.list false Q3),(106,.pair QI Q2),(108,.pair QI Q40),(113,.pair (.list false (.int .u8)) Q0),(134,.list false (.list false (.int .u8))),(135,.list false Q15),(141,.list false (.int .u64)),(143,.int .u32),(153,.pair Q12 Q22),(164,.pair QI Q3),(178,.pair QI Q0),(192,.pair (.list false (.int .u8)) Q3),(236,.pair (.list false (.int .u8)) Q3),(256,.arr 64 (.int .u8)),(285,.list false (.arr 3 QI)),(295,.pair QI (.pair QL Q2))]
def T0:Nat→Option Ty:=fun t=>find c2K t
def c5y:List Nat:=[30,103]
def d4R:Nat→Bool:=fun t=>c5y.contains t
def c2U:List Nat:=[]
def d4S:Nat→Bool:=fun t=>c2U.contains t
def b1E:(List Int):=[0,1,56,2,57,49,28,3,61,58,42,50,38,29,17,4,62,47,59,36,45,43,51,22,53,39,33,30,24,18,12,5,63,55,48,27,60,41,37,16,46,35,44,21,52,32,23,11,54,26,40,15,34,20,31,10,25,14,19,9,13,8,7,6]
def G0:Nat→Option ((t:Ty)×t.den):=fun g=>find ([(0,⟨.arr 64 (.int .u8),b1E⟩)]:List (Nat×((t:Ty)×t.den))) g
@[reducible] def a9T(a:List (Nat×FSem))(b:List (Nat×Ty))(c d:List Nat):Cx:=⟨d4S,d4R,T0,fun f=>find a f,fun n=>find b n,fun i=>c.contains i,fun i=>d.contains i,G0⟩
def a4d(x:Z10):Option Int:= cond ((x.2.1.length:Int)==0) (some 0) ((m0h x.2.1 0).bind fun x1=> some (x1.length:Int))
def a7q:FSem:=⟨[.v Q15],[.v QI],a4d⟩
def H22:Hints:=⟨[],[],[]⟩
def b3s(x:Int):Option Int:= (show Option (Int×Bool×Unit)from cond (decide (x<1)) (some (x,true,())) (some (x,decide (x > 31),()))).bind fun z1=> cond z1.2.1 (some 0) (cond (decide ((wrap .i64 (z1.1-1))<0)) none (some (A0h .i64 (-1) (wrap .i64 (z1.1-1)))))
def b6L:FSem:=⟨[.v QI],[.v QI],b3s⟩
def d4T:Hints:=⟨[],[(6,[(.normal,[.sv 0 QI,.sv 8 .bool])])],[]⟩
def b2x(x:Int):Option Int:= (show Option (Int×Bool×Unit)from cond (decide (x<1)) (some (x,true,())) (some (x,decide (x > 31),()))).bind fun z1=> cond z1.2.1 (some 0) (cond (decide ((wrap .i64 (z1.1-1))<0)) none (some (wrap .i64 ((A0h .i64 1 (wrap .i64 (z1.1-1)))-1))))
def b6r:FSem:=⟨[.v QI],[.v QI],b2x⟩
def d4U:Hints:=⟨[],[(6,[(.normal,[.sv 0 QI,.sv 8 .bool])])],[]⟩
def a1R(x:(Int×Int)):Option Bool:= cond (decide (x.2≥1)) (cond (decide (x.2≤31)) ((b3s x.2).bind fun y1=> cond (decide (y1≤x.1)) ((b2x x.2).bind fun y2=> some (decide (x.1≤y2))) (some false)) (some false)) (some false)
def a3H:FSem:=⟨[.v QI,.v QI],[.v .bool],a1R⟩
def H95:Hints:=⟨[],[],[]⟩
def a6T(x:Int):Option Bool:= cond (decide (4≤x)) (some (decide (x≤24))) (some false)
def b2y:FSem:=⟨[.v QI],[.v .bool],a6T⟩
def d4V:Hints:=⟨[],[],[]⟩
def a4j(s:((List (List Int))×(Int×(Int×((List Int)×Z61))))):Option (((List (List Int))×(Int×(Int×((List Int)×Z61)))) ⊕ (((List (List Int))×Z61) ⊕ (Bool×Unit))):= cond (decide (s.2.2.2.2.2.1<s.2.2.2.2.1)) ((m0h s.2.2.2.1 s.2.2.2.2.2.1).bind fun x8=> (a1R (x8,s.2.2.2.2.2.2.1.1)).bind fun y9=> cond (!y9) (some (.inr (Sum.inr ((false,()))))) (some (.inl (s.1,s.2.1,s.2.2.1,s.2.2.2.1,s.2.2.2.2.1,wrap .i64 (s.2.2.2.2.2.1+1),s.2.2.2.2.2.2.1,())))) (some (.inr (Sum.inl (s.1,s.2.1,s.2.2.1,s.2.2.2.2.2.2.1,()))))
def a4k(s:((List (List Int))×Z61)):Option (((List (List Int))×Z61) ⊕ Z0):= cond (decide (s.2.2.1<s.2.1)) ((m0h s.1 s.2.2.1).bind fun x6=> (a4d s.2.2.2.1).bind fun y7=> cond ((x6.length:Int) != y7) (some (.inr (Sum.inr ((false,()))))) ((y0m a4j (s.1,s.2.1,s.2.2.1,x6,(x6.length:Int),0,s.2.2.2.1,())).bind fun w10=> match w10 with |.inl a11=>some (.inl (a11.1,a11.2.1,wrap .i64 (a11.2.2.1+1),a11.2.2.2.1,())) |.inr b12=>some (.inr (Sum.inr ((b12.1,())))))) (some (.inr (Sum.inl ())))
def a4e(x:Z10):Option Bool:= (show Option (Bool×Z28)from(a6T x.1).bind fun y1=> cond (!y1) (some (true,x,())) (cond (decide ((x.2.1.length:Int)<1)) (some (true,x,())) (some (decide ((x.2.1.length:Int) > 8),x,())))).bind fun z2=> cond z2.1 (some false) ((show Option (Bool×Z28)from(a4d z2.2.1).bind fun y3=> cond (decide (y3<1)) (some (true,z2.2.1,())) ((a4d z2.2.1).bind fun y4=> some (decide (y4 > 4096),z2.2.1,()))).bind fun z5=> cond z5.1 (some false) ((y0m a4k (z5.2.1.2.1,(z5.2.1.2.1.length:Int),0,z5.2.1,())).bind fun w13=> match w13 with |.inl a14=>some true |.inr b15=>some b15.1))
def a4f:FSem:=⟨[.v Q15],[.v .bool],a4e⟩
def H56:Hints:=⟨[(122,[.sv 32 (.list false QL),.sv 33 QI,.sv 34 QI,.vp 1 Q15],[(.exit 0,[]),(.ret,[.sv 2 .bool])]),(62670,[.sv 32 (.list false QL),.sv 33 QI,.sv 34 QI,.sv 43 QL,.sv 44 QI,.sv 45 QI,.vp 1 Q15],[(.exit 2,[.sv 32 (.list false QL),.sv 33 QI,.sv 34 QI,.vp 1 Q15]),(.ret,[.sv 2 .bool])])],[(6,[(.normal,[.sv 22 .bool,.vp 1 Q15])]),(14,[(.normal,[.sv 30 .bool,.vp 1 Q15])])],[]⟩
def a1S(x:Z7):Option Bool:= cond (decide (1≤x.1)) (cond (decide (x.1≤1048576)) (cond (decide (1≤x.2.1)) (cond (decide (x.2.1≤8)) ((a6T x.2.2.1).bind fun y1=> some y1) (some false)) (some false)) (some false)) (some false)
def a3I:FSem:=⟨[.v Q12],[.v .bool],a1S⟩
def H57:Hints:=⟨[],[],[]⟩
def a6U(s:(Int×Z12×Int×Int×Unit)):Option ((Int×Z12×Int×Int×Unit) ⊕ Z0):= cond (decide (s.2.2.2.1<s.2.2.1)) ((m0h s.2.1 s.2.2.2.1).bind fun x2=> (show Option (Int×Z12×Int×Int×Z38)from cond (decide (x2.1<0)) (some (s.1,s.2.1,s.2.2.1,s.2.2.2.1,true,x2,())) (cond (decide (x2.1≥s.1)) (some (s.1,s.2.1,s.2.2.1,s.2.2.2.1,true,x2,())) (cond (decide (x2.2.1<0)) (some (s.1,s.2.1,s.2.2.1,s.2.2.2.1,true,x2,())) (cond (decide (x2.2.1≥s.1)) (some (s.1,s.2.1,s.2.2.1,s.2.2.2.1,true,x2,())) (some (s.1,s.2.1,s.2.2.1,s.2.2.2.1,x2.1==x2.2.1,x2,())))))).bind fun z3=> cond z3.2.2.2.2.1 (some (.inr (Sum.inr ((false,()))))) ((show Option (Int×Z12×Z8)from cond (decide (z3.2.2.2.2.2.1.2.2.1<(-1024))) (some (z3.1,z3.2.1,z3.2.2.1,z3.2.2.2.1,true,())) (some (z3.1,z3.2.1,z3.2.2.1,z3.2.2.2.1,decide (z3.2.2.2.2.2.1.2.2.1 > 1024),()))).bind fun z4=> cond z4.2.2.2.2.1 (some (.inr (Sum.inr ((false,()))))) (some (.inl (z4.1,z4.2.1,z4.2.2.1,wrap .i64 (z4.2.2.2.1+1),()))))) (some (.inr (Sum.inl ())))
def a8o(x:(Z12×Int)):Option Bool:= (show Option (Z12×Int×Bool×Unit)from cond (decide (x.2<1)) (some (x.1,x.2,true,())) (cond (decide (x.2 > 8)) (some (x.1,x.2,true,())) (some (x.1,x.2,decide ((x.1.length:Int) > 16),())))).bind fun z1=> cond z1.2.2.1 (some false) ((y0m a6U (z1.2.1,z1.1,(z1.1.length:Int),0,())).bind fun w5=> match w5 with |.inl a6=>some true |.inr b7=>some b7.1)
def b2Q:FSem:=⟨[.v (.list false Q12),.v QI],[.v .bool],a8o⟩
def d4W:Hints:=⟨[(58,[.sv 1 QI,.sv 18 (.list false Q12),.sv 19 QI,.sv 20 QI],[(.exit 0,[]),(.ret,[.sv 4 .bool])])],[(6,[(.normal,[.sv 0 (.list false Q12),.sv 1 QI,.sv 17 .bool])]),(7474,[(.normal,[.sv 1 QI,.sv 18 (.list false Q12),.sv 19 QI,.sv 20 QI,.sv 50 .bool,.box 6 Q12,.ptr 6 6 []])]),(7475,[(.normal,[.sv 1 QI,.sv 18 (.list false Q12),.sv 19 QI,.sv 20 QI,.sv 58 .bool])])],[]⟩
def a6V(x:a3r):Option Bool:= (a1S x.2.2.1).bind fun y1=> cond y1 (cond (decide (x.2.1≥1)) (cond (decide (x.2.1≤4096)) (cond (decide (x.1≥0)) (cond (decide (x.1≤(wrap .i64 (4194304-x.2.1)))) ((a8o (x.2.2.2.1,x.2.2.1.2.1)).bind fun y2=> some y2) (some false)) (some false)) (some false)) (some false)) (some false)
def b2z:FSem:=⟨[.v Q60],[.v .bool],a6V⟩
def d4X:Hints:=⟨[],[],[]⟩
def a2w(s:Z13):Option Z68:= cond (decide (s.2.2.1<s.2.1)) ((m0h s.1 s.2.2.1).bind fun x1=> (show Option Z33 from cond (decide (x1<(-1073741824))) (some (s.1,s.2.1,s.2.2.1,true,())) (some (s.1,s.2.1,s.2.2.1,decide (x1≥1073741824),()))).bind fun z2=> cond z2.2.2.2.1 (some (.inr (Sum.inr ((false,()))))) (some (.inl (z2.1,z2.2.1,wrap .i64 (z2.2.2.1+1),())))) (some (.inr (Sum.inl ())))
def a2t(x:(List Int)):Option Bool:= (y0m a2w (x,(x.length:Int),0,())).bind fun w3=> match w3 with |.inl a4=>some true |.inr b5=>some b5.1
def a9o:FSem:=⟨[.v QL],[.v .bool],a2t⟩
def d4Y:Hints:=⟨[(26,[.sv 5 QL,.sv 6 QI,.sv 7 QI],[(.exit 0,[]),(.ret,[.sv 2 .bool])])],[(1689,[(.normal,[.sv 5 QL,.sv 6 QI,.sv 7 QI,.sv 16 .bool])])],[]⟩
def a5Z(x:Int):Option Bool:= cond (x != 0) (some (x != 1)) (some false)
def a9U:FSem:=⟨[.v QI],[.v .bool],a5Z⟩
def d4Z:Hints:=⟨[],[],[]⟩
def a5f(s:Z13):Option Z68:= cond (decide (s.2.2.1<s.2.1)) ((m0h s.1 s.2.2.1).bind fun x2=> (show Option Z33 from cond (decide (x2<(-32768))) (some (s.1,s.2.1,s.2.2.1,true,())) (some (s.1,s.2.1,s.2.2.1,decide (x2≥32768),()))).bind fun z3=> cond z3.2.2.2.1 (some (.inr (Sum.inr ((false,()))))) (some (.inl (z3.1,z3.2.1,wrap .i64 (z3.2.2.1+1),())))) (some (.inr (Sum.inl ())))
def a4u(x:((List Int)×Int)):Option Bool:= (show Option ((List Int)×(Bool×Unit))from cond (decide ((x.1.length:Int)<1)) (some (x.1,true,())) (cond (decide ((x.1.length:Int) > 32)) (some (x.1,true,())) (cond (decide (x.2<0)) (some (x.1,true,())) (some (x.1,decide (x.2 > 15),()))))).bind fun z1=> cond z1.2.1 (some false) ((y0m a5f (z1.1,(z1.1.length:Int),0,())).bind fun w4=> match w4 with |.inl a5=>some true |.inr b6=>some b6.1)
def a9V:FSem:=⟨[.v QL,.v QI],[.v .bool],a4u⟩
def d5a:Hints:=⟨[(58,[.sv 23 QL,.sv 24 QI,.sv 25 QI],[(.exit 0,[]),(.ret,[.sv 4 .bool])])],[(6,[(.normal,[.sv 0 QL,.sv 22 .bool])]),(3737,[(.normal,[.sv 23 QL,.sv 24 QI,.sv 25 QI,.sv 34 .bool])])],[]⟩
def a6W(s:Z6):Option (Z6 ⊕ Z0):= cond (decide (s.2.1<3)) ((m0h s.1 s.2.1).bind fun x2=> (show Option Z16 from cond (decide (x2<(-64))) (some (s.1,s.2.1,true,())) (some (s.1,s.2.1,decide (x2 > 64),()))).bind fun z3=> cond z3.2.2.1 (some (.inr (Sum.inr ((false,()))))) (some (.inl (z3.1,wrap .i64 (z3.2.1+1),())))) (some (.inr (Sum.inl ())))
def a8p(x:(Int×(List Int))):Option Bool:= (show Option (Bool×((List Int)×Unit))from cond (decide (x.1<2)) (some (true,x.2,())) (some (decide (x.1 > 1024),x.2,()))).bind fun z1=> cond z1.1 (some false) ((y0m a6W (z1.2.1,0,())).bind fun w4=> match w4 with |.inl a5=>some true |.inr b6=>some b6.1)
def b2R:FSem:=⟨[.v QI,.v (.arr 3 QI)],[.v .bool],a8p⟩
def d5b:Hints:=⟨[(58,[.sv 13 (.arr 3 QI),.sv 14 QI],[(.exit 0,[]),(.ret,[.sv 4 .bool])])],[(6,[(.normal,[.sv 12 .bool,.vp 3 (.arr 3 QI)])]),(3737,[(.normal,[.sv 13 (.arr 3 QI),.sv 14 QI,.sv 22 .bool])])],[]⟩
def a6X(x:(Int×Int×Unit)):Option Bool:= cond (decide (x.1≥1)) (cond (decide (x.1≤32)) (cond (decide (x.2.1≥0)) (some (decide (x.2.1≤8))) (some false)) (some false)) (some false)
def b2A:FSem:=⟨[.v Q3],[.v .bool],a6X⟩
def d5c:Hints:=⟨[],[],[]⟩
def a6a(s:(Z4×Int×Int×Unit)):Option ((Z4×Int×Int×Unit) ⊕ Z0):= cond (decide (s.2.2.1<s.2.1)) ((m0h s.1 s.2.2.1).bind fun x1=> (a6X x1).bind fun y2=> cond (!y2) (some (.inr (Sum.inr ((false,()))))) (some (.inl (s.1,s.2.1,wrap .i64 (s.2.2.1+1),())))) (some (.inr (Sum.inl ())))
def a7r(x:Z4):Option Bool:= cond (decide ((x.length:Int) > 3)) (some false) ((y0m a6a (x,(x.length:Int),0,())).bind fun w3=> match w3 with |.inl a4=>some true |.inr b5=>some b5.1)
def b1F:FSem:=⟨[.v (.list false Q3)],[.v .bool],a7r⟩
def d5d:Hints:=⟨[(58,[.sv 8 (.list false Q3),.sv 9 QI,.sv 10 QI],[(.exit 0,[]),(.ret,[.sv 2 .bool])])],[],[]⟩
def a7W(x:(Int×b4y)):Option Bool:= (show Option (Int×c2S)from cond (x.1==0) (some (x.2.2,x.1,x.1==0,x.2.1,())) (some (x.2.2,x.1,x.1==1,x.2.1,()))).bind fun z1=> cond z1.2.2.1 (some true) (cond (z1.2.1==2) (cond (decide (z1.2.2.2.1.2.2.1≥0)) (cond (decide (z1.2.2.2.1.2.2.1≤4)) (some (decide (z1.2.2.2.1.2.2.1≤z1.1))) (some false)) (some false)) (cond (z1.2.1==3) ((a4u (z1.2.2.2.1.2.2.2.2.2.1,z1.2.2.2.1.2.2.2.1)).bind fun y2=> cond y2 (some (decide ((z1.2.2.2.1.2.2.2.2.2.1.length:Int)≤z1.1))) (some false)) (cond (z1.2.1==4) ((a4u (z1.2.2.2.1.2.2.2.2.2.1,z1.2.2.2.1.2.2.2.1)).bind fun y3=> cond y3 (cond (decide ((z1.2.2.2.1.2.2.2.2.2.1.length:Int)≤z1.1)) ((a8p (z1.2.2.2.1.2.2.2.2.1,z1.2.2.2.1.2.2.2.2.2.2.1)).bind fun y4=> some y4) (some false)) (some false)) (cond (z1.2.1==5) (cond (decide ((z1.2.2.2.1.2.2.2.2.2.2.2.1.length:Int) > 0)) ((a7r z1.2.2.2.1.2.2.2.2.2.2.2.1).bind fun y5=> some y5) (some false)) (some false)))))
def b3Z:FSem:=⟨[.v QI,.v Q42,.v QI],[.v .bool],a7W⟩
def d5e:Hints:=⟨[],[(26,[(.normal,[.sv 2 QI,.sv 7 QI,.sv 8 .bool,.vp 4 Q42])])],[]⟩
def a4v(x:b4y):Option Int:= cond (x.1.1==0) (some 1) (cond (x.1.1==1) (some x.2) (cond (x.1.1==2) (some x.1.2.2.1) ((show Option d1G from cond (x.1.1==3) (some (x.1.1==3,x.1,())) (some (x.1.1==4,x.1,()))).bind fun z1=> cond z1.1 (some (z1.2.1.2.2.2.2.2.1.length:Int)) (some 0))))
def a9W:FSem:=⟨[.v Q42,.v QI],[.v QI],a4v⟩
def d5f:Hints:=⟨[],[(1727,[(.normal,[.sv 16 .bool,.vp 2 Q42])])],[]⟩
def a1c(x:(List Int)):Option (List Int):= w0z x
def a0Z:FSem:=⟨[.v QL],[.o QI],a1c⟩
def d5g:Hints:=⟨[],[],[]⟩
def c9o:Cx:=a9T [] [] [0,2] []
theorem d2K(x):A0d c9o d5g Tryz.f183 a0Z.ps a0Z.rs x=a0Z.F x:=Eq.trans (show _=w0p x by kernel_rfl) (A0r x)
def a3J(x:(List Int)):Option (List Int):= w0z x
def a1j:FSem:=⟨[.v QL],[.v QL],a3J⟩
def d2L:Hints:=⟨[],[],[]⟩
def c6S:Cx:=a9T [] [] [0,2] []
theorem d1I(x):A0d c6S d2L Tryz.f183 a1j.ps a1j.rs x=a1j.F x:=Eq.trans (show _=w0p x by kernel_rfl) (A0r x)
def a1m(x:Z4):Option Z4:= w0z x
def a1b:FSem:=⟨[.v (.list false Q3)],[.v (.list false Q3)],a1m⟩
def d2M:Hints:=⟨[],[],[]⟩
def c6T:Cx:=a9T [] [] [0,2] []
theorem d1J(x):A0d c6T d2M Tryz.f251 a1b.ps a1b.rs x=a1b.F x:=Eq.trans (show _=w0p x by kernel_rfl) (A0r x)
def a6b(x:(Int×a1U)):Option a1U:= (show Option b2w from(show Option ((a1U×b2w) ⊕ (b2w ⊕ (a1U×b2w)))from cond (x.1==2) (some (Sum.inr (Sum.inl ((0,0,0,0,0,[],a02 3 0,[],[],(0,[],()),[],()),(x.1,0,x.2.2.2.1,0,0,[],a02 3 0,[],[],(0,[],()),[],()),())))) (cond (x.1==4) (some (Sum.inl ((0,0,0,0,0,[],a02 3 0,[],[],(0,[],()),[],()),(x.1,0,0,0,x.2.2.2.2.2.1,[],x.2.2.2.2.2.2.2.1,[],[],(0,[],()),[],()),x.2,()))) (cond (x.1==3) (some (Sum.inl ((0,0,0,0,0,[],a02 3 0,[],[],(0,[],()),[],()),(x.1,0,0,0,0,[],a02 3 0,[],[],(0,[],()),[],()),x.2,()))) (cond (x.1==5) (some (Sum.inr (Sum.inr (((0,0,0,0,0,[],a02 3 0,[],[],(0,[],()),[],()),(x.1,0,0,0,0,[],a02 3 0,[],[],(0,[],()),[],()),x.2,()))))) (some (Sum.inr (Sum.inl ((0,0,0,0,0,[],a02 3 0,[],[],(0,[],()),[],()),(x.1,0,0,0,0,[],a02 3 0,[],[],(0,[],()),[],()),())))))))).bind fun z1=> match z1 with |.inl a2=>((a3J a2.2.2.1.2.2.2.2.2.1).bind fun y4=> some (a2.1,(a2.2.1.1,a2.2.1.2.1,a2.2.1.2.2.1,a2.2.2.1.2.2.2.1,a2.2.1.2.2.2.2.1,y4,a2.2.1.2.2.2.2.2.2),())) |.inr b3=>(match b3 with |.inl a5=>some (a5.1,a5.2.1,()) |.inr b6=>((a1m b6.2.2.1.2.2.2.2.2.2.2.1).bind fun y7=> some (b6.1,(b6.2.1.1,b6.2.1.2.1,b6.2.1.2.2.1,b6.2.1.2.2.2.1,b6.2.1.2.2.2.2.1,b6.2.1.2.2.2.2.2.1,b6.2.1.2.2.2.2.2.2.1,y7,b6.2.1.2.2.2.2.2.2.2.2),())))).bind fun z8=> some z8.2.1
def b3t:FSem:=⟨[.v QI,.v Q42],[.v Q42],a6b⟩
def d5h:Hints:=⟨[],[(7,[(.normal,[.box 4 Q42,.box 5 Q42,.ptr 4 4 [],.ptr 5 5 []])]),(232,[(.normal,[.box 4 Q42,.box 5 Q42,.vp 3 Q42,.ptr 4 4 [],.ptr 5 5 []]),(.exit 0,[.box 4 Q42,.box 5 Q42,.ptr 4 4 [],.ptr 5 5 []]),(.exit 4,[.box 4 Q42,.box 5 Q42,.vp 3 Q42,.ptr 4 4 [],.ptr 5 5 []])])],[(8,[.v,.v,.v,.v,.q,.w [0,5],.x,.x]),(9,[.v,.v,.v,.v,.v,.q,.w [0,5],.x,.x])]⟩
def b1G(x:a1U):Option Bool:= (a6b (x.1,x)).bind fun y1=> cond (x.2.2.1==y1.2.2.1) (cond (x.2.2.2.1==y1.2.2.2.1) (cond (x.2.2.2.2.1==y1.2.2.2.2.1) (cond (eqT (.arr 3 (.int .i64)) x.2.2.2.2.2.2.1 y1.2.2.2.2.2.2.1) (cond ((x.2.2.2.2.2.1.length:Int)==(y1.2.2.2.2.2.1.length:Int)) (some ((x.2.2.2.2.2.2.2.1.length:Int)==(y1.2.2.2.2.2.2.2.1.length:Int))) (some false)) (some false)) (some false)) (some false)) (some false)
def b7N:FSem:=⟨[.v Q42],[.v .bool],b1G⟩
def d5i:Hints:=⟨[],[],[]⟩
def a7s(x:(Int×Int)):Option Bool:= cond (decide (1≤x.1)) (cond (decide (x.1≤4096)) (cond (decide (0≤x.2)) (some (decide (x.2≤x.1))) (some false)) (some false)) (some false)
def b1H:FSem:=⟨[.v QI,.v QI],[.v .bool],a7s⟩
def d5j:Hints:=⟨[],[],[]⟩
def a6z(s:Z14):Option (Z14 ⊕ ((List Int)×Unit)):= cond (decide (s.1<0)) none (cond (decide ((s.2.2.1.length:Int)<(A0h .i64 1 s.1))) (cond (lim ((a01 s.2.2.1)+1)) (some (.inl (s.1,s.2.1,a03 s.2.2.1 [s.2.1],()))) none) (some (.inr (s.2.2.1,()))))
def a2R(x:(Int×Int×Int)):Option (List Int):= (show Option Z21 from(a7s (x.2.1,x.2.2)).bind fun y1=> cond (!y1) (some (x.1,x.2.1,x.2.2,true,())) (cond (decide (x.1<0)) (some (x.1,x.2.1,x.2.2,true,())) (some (x.1,x.2.1,x.2.2,decide (x.1 > 8),())))).bind fun z2=> cond z2.2.2.2.1 (some []) (cond (decide (z2.1<0)) none ((show Option Z21 from cond (decide (z2.1<0)) none (cond ((A0h .i64 (A0i .i64 z2.2.1 z2.1) z2.1) != z2.2.1) (some (z2.1,z2.2.2.1,A0i .i64 z2.2.1 z2.1,true,())) (some (z2.1,z2.2.2.1,A0i .i64 z2.2.1 z2.1,decide ((A0i .i64 z2.2.1 z2.1)<z2.2.2.1),())))).bind fun z3=> cond z3.2.2.2.1 (some []) ((y0m a6z (z3.1,z3.2.2.1,[wrap .i64 (z3.2.2.1-z3.2.1)],())).bind fun w4=> some w4.1)))
def a4X:FSem:=⟨[.v QI,.v QI,.v QI],[.o QI],a2R⟩
def d5k:Hints:=⟨[(252,[.sv 0 QI,.sv 7 QI,.own 8 8 QI],[(.exit 0,[.own 8 8 QI])])],[(6,[(.normal,[.sv 0 QI,.sv 1 QI,.sv 2 QI,.sv 20 .bool])]),(30,[(.normal,[.sv 0 QI,.sv 2 QI,.sv 7 QI,.sv 33 .bool])])],[]⟩
def a4l(s:Z13):Option Z68:= cond (decide (s.2.2.1<s.2.1)) ((m0h s.1 s.2.2.1).bind fun x3=> (show Option Z33 from cond (decide (x3<0)) (some (s.1,s.2.1,s.2.2.1,x3 != 31,())) (cond (decide (x3 > 25)) (some (s.1,s.2.1,s.2.2.1,x3 != 31,())) (some (s.1,s.2.1,s.2.2.1,false,())))).bind fun z4=> cond z4.2.2.2.1 (some (.inr (Sum.inr ((false,()))))) (some (.inl (z4.1,z4.2.1,wrap .i64 (z4.2.2.1+1),())))) (some (.inr (Sum.inl ())))
def a9a(x:(Z5×Int×Int)):Option Bool:= (a2R (x.1.1,x.2.1,x.2.2)).bind fun y1=> (show Option (Bool×Z17)from cond ((y1.length:Int)==0) (some (true,x.1,())) (some ((x.1.2.1.length:Int) != (y1.length:Int),x.1,()))).bind fun z2=> cond z2.1 (some false) ((y0m a4l (z2.2.1.2.1,(z2.2.1.2.1.length:Int),0,())).bind fun w5=> match w5 with |.inl a6=>some true |.inr b7=>some b7.1)
def b4B:FSem:=⟨[.v Q11,.v QI,.v QI],[.v .bool],a9a⟩
def d5l:Hints:=⟨[(122,[.sv 27 QL,.sv 28 QI,.sv 29 QI],[(.exit 0,[]),(.ret,[.sv 6 .bool])])],[(14,[(.normal,[.sv 25 .bool,.vp 3 Q11])]),(7833,[(.normal,[.sv 27 QL,.sv 28 QI,.sv 29 QI,.sv 42 .bool])])],[]⟩
def a9X(x:b4y):Option Bool:= (show Option c2S from cond (decide (x.2<1)) (some (x.2,true,x.1,())) (cond (decide (x.2 > 4096)) (some (x.2,true,x.1,())) ((a7W (x.1.1,x.1,x.2)).bind fun y1=> cond (!y1) (some (x.2,true,x.1,())) ((b1G x.1).bind fun y2=> some (x.2,!y2,x.1,()))))).bind fun z3=> cond z3.2.1 (some false) ((show Option c2S from cond (decide (z3.2.2.1.2.1<0)) (some (z3.1,true,z3.2.2.1,())) (cond (decide (z3.2.2.1.2.1 > 30)) (some (z3.1,true,z3.2.2.1,())) (cond (z3.2.2.1.1==0) (some (z3.1,z3.2.2.1.2.1 != 0,z3.2.2.1,())) (some (z3.1,false,z3.2.2.1,()))))).bind fun z4=> cond z4.2.1 (some false) ((a4v (z4.2.2.1,z4.1)).bind fun y5=> (show Option (Int×c2S)from cond ((z4.2.2.1.2.2.2.2.2.2.2.2.1.length:Int) != y5) (some (z4.1,y5,true,z4.2.2.1,())) ((a2t z4.2.2.1.2.2.2.2.2.2.2.2.1).bind fun y6=> cond (!y6) (some (z4.1,y5,true,z4.2.2.1,())) ((a2t z4.2.2.1.2.2.2.2.2.2.2.2.2.2.1).bind fun y7=> some (z4.1,y5,!y7,z4.2.2.1,())))).bind fun z8=> cond z8.2.2.1 (some false) ((a5Z z8.2.2.2.1.1).bind fun y9=> cond (!y9) (cond ((z8.2.2.2.1.2.2.2.2.2.2.2.2.2.2.1.length:Int)==0) (cond (z8.2.2.2.1.2.2.2.2.2.2.2.2.2.1.1==0) (some ((z8.2.2.2.1.2.2.2.2.2.2.2.2.2.1.2.1.length:Int)==0)) (some false)) (some false)) (cond ((z8.2.2.2.1.2.2.2.2.2.2.2.2.2.2.1.length:Int)==(wrap .i64 (z8.1-z8.2.1))) ((a9a (z8.2.2.2.1.2.2.2.2.2.2.2.2.2.1,z8.1,z8.2.1)).bind fun y10=> some y10) (some false)))))
def b6M:FSem:=⟨[.v Q42,.v QI],[.v .bool],a9X⟩
def d5m:Hints:=⟨[],[(6,[(.normal,[.sv 1 QI,.sv 24 .bool,.vp 2 Q42])]),(14,[(.normal,[.sv 1 QI,.sv 42 .bool,.vp 2 Q42])]),(62,[(.normal,[.sv 1 QI,.sv 5 QI,.sv 62 .bool,.vp 2 Q42])])],[]⟩
def b4a(s:Z13):Option Z68:= cond (decide (s.2.2.1<s.2.1)) ((m0h s.1 s.2.2.1).bind fun x1=> (show Option Z33 from cond (decide (x1<(-1073741824))) (some (s.1,s.2.1,s.2.2.1,true,())) (some (s.1,s.2.1,s.2.2.1,decide (x1≥1073741824),()))).bind fun z2=> cond z2.2.2.2.1 (some (.inr (Sum.inr ((false,()))))) (some (.inl (z2.1,z2.2.1,wrap .i64 (z2.2.2.1+1),())))) (some (.inr (Sum.inl ())))
def a2G(x:(List Int)):Option Bool:= (y0m b4a (x,(x.length:Int),0,())).bind fun w3=> match w3 with |.inl a4=>some true |.inr b5=>some b5.1
def b3u:FSem:=⟨[.v QL],[.v .bool],a2G⟩
def d5n:Hints:=⟨[(26,[.sv 5 QL,.sv 6 QI,.sv 7 QI],[(.exit 0,[]),(.ret,[.sv 2 .bool])])],[(1689,[(.normal,[.sv 5 QL,.sv 6 QI,.sv 7 QI,.sv 16 .bool])])],[]⟩
def a1i(x:(Int×(List Int))):Option (Int×(List Int)):= (m0h x.2 (wrap .i64 ((x.2.length:Int)-x.1))).bind fun x1=> some (x1,x.2)
def b4b:FSem:=⟨[.v QI,.r false (.b QL)],[.v QI],a1i⟩
def d5o:Hints:=⟨[],[],[]⟩
def a9p(x:((List Int)×Int)):Option Int:= cond (x.2==1) ((a1i (1,x.1)).bind fun y1=> some y1.1) (cond (x.2==2) ((a1i (1,x.1)).bind fun y2=> (a1i (2,y2.2)).bind fun y3=> some (wrap .i64 ((wrap .i64 (2*y2.1))-y3.1))) (cond (x.2==3) ((a1i (1,x.1)).bind fun y4=> (a1i (2,y4.2)).bind fun y5=> (a1i (3,y5.2)).bind fun y6=> some (wrap .i64 ((wrap .i64 ((wrap .i64 (3*y4.1))-(wrap .i64 (3*y5.1))))+y6.1))) (cond (x.2==4) ((a1i (1,x.1)).bind fun y7=> (a1i (2,y7.2)).bind fun y8=> (a1i (3,y8.2)).bind fun y9=> (a1i (4,y9.2)).bind fun y10=> some (wrap .i64 ((wrap .i64 ((wrap .i64 ((wrap .i64 (4*y7.1))-(wrap .i64 (6*y8.1))))+(wrap .i64 (4*y9.1))))-y10.1))) (some 0))))
def b6s:FSem:=⟨[.v QL,.v QI],[.v QI],a9p⟩
def d5p:Hints:=⟨[],[],[]⟩
def a7I(s:Z57):Option (Z57 ⊕ Z47):= cond (decide (s.2.2.2.1<s.2.2.1)) ((m0h s.2.1 s.2.2.2.1).bind fun x5=> (a9p (s.2.2.2.2.1,s.1)).bind fun y6=> (a2G [wrap .i64 (x5+y6)]).bind fun y7=> cond (!y7) (some (.inr (Sum.inr ((6,[],()))))) (cond (lim ((a01 s.2.2.2.2.1)+1)) (some (.inl (s.1,s.2.1,s.2.2.1,wrap .i64 (s.2.2.2.1+1),a03 s.2.2.2.2.1 [wrap .i64 (x5+y6)],()))) none)) (some (.inr (Sum.inl (s.2.2.2.2.1,()))))
def a9Y(x:Z9):Option ((List Int)×Int):= (show Option Z48 from cond (decide (x.2.2<0)) (some (x.1,x.2.1,x.2.2,true,())) (cond (decide (x.2.2 > 4)) (some (x.1,x.2.1,x.2.2,true,())) (some (x.1,x.2.1,x.2.2,(x.1.length:Int) != x.2.2,())))).bind fun z1=> cond z1.2.2.2.1 (some ([],1)) ((show Option Z48 from(a2G z1.1).bind fun y2=> cond (!y2) (some (z1.1,z1.2.1,z1.2.2.1,true,())) ((a2G z1.2.1).bind fun y3=> some (z1.1,z1.2.1,z1.2.2.1,!y3,()))).bind fun z4=> cond z4.2.2.2.1 (some ([],6)) (cond (lim (a01 z4.1)) ((y0m a7I (z4.2.2.1,z4.2.1,(z4.2.1.length:Int),0,z4.1,())).bind fun w8=> match w8 with |.inl a9=>some (a9.1,0) |.inr b10=>some (b10.2.1,b10.1)) none))
def b6N:FSem:=⟨[.v QL,.v QL,.v QI],[.o QI,.v QI],a9Y⟩
def d5q:Hints:=⟨[(250,[.sv 2 QI,.sv 34 QL,.sv 35 QI,.sv 36 QI,.own 8 8 QI],[(.exit 0,[.own 8 8 QI]),(.ret,[.sv 7 QI,.own 6 6 QI])])],[(6,[(.normal,[.sv 0 QL,.sv 1 QL,.sv 2 QI,.sv 23 .bool])]),(14,[(.normal,[.sv 0 QL,.sv 1 QL,.sv 2 QI,.sv 31 .bool])])],[]⟩
def a4Y(x:Int):Option Bool:= cond (decide (x≥(-1073741824))) (some (decide (x<1073741824))) (some false)
def a9q:FSem:=⟨[.v QI],[.v .bool],a4Y⟩
def d5r:Hints:=⟨[],[],[]⟩
def a2Y(s:Z13):Option Z68:= cond (decide (s.2.2.1<s.2.1)) ((m0h s.1 s.2.2.1).bind fun x1=> (a4Y x1).bind fun y2=> cond (!y2) (some (.inr (Sum.inr ((false,()))))) (some (.inl (s.1,s.2.1,wrap .i64 (s.2.2.1+1),())))) (some (.inr (Sum.inl ())))
def a2x(x:(List Int)):Option Bool:= (y0m a2Y (x,(x.length:Int),0,())).bind fun w3=> match w3 with |.inl a4=>some true |.inr b5=>some b5.1
def a6A:FSem:=⟨[.v QL],[.v .bool],a2x⟩
def d5s:Hints:=⟨[(26,[.sv 5 QL,.sv 6 QI,.sv 7 QI],[(.exit 0,[]),(.ret,[.sv 2 .bool])])],[],[]⟩
def a2Z(s:Z72):Option (Z72 ⊕ (Int×Int×Unit)):= cond (decide (s.2.2.2.2.2.1<s.2.2.2.2.1)) ((m0h s.2.2.2.1 s.2.2.2.2.2.1).bind fun x1=> cond (decide ((wrap .i64 ((wrap .i64 ((s.1.length:Int)-1))-s.2.2.2.2.2.1))<0)) (some (.inr (s.2.1,s.2.2.1,()))) ((m0h s.1 (wrap .i64 ((wrap .i64 ((s.1.length:Int)-1))-s.2.2.2.2.2.1))).bind fun x2=> some (.inl (s.1,s.2.1,wrap .i64 (s.2.2.1+(wrap .i64 (x1*x2))),s.2.2.2.1,s.2.2.2.2.1,wrap .i64 (s.2.2.2.2.2.1+1),())))) (some (.inr (s.2.1,s.2.2.1,())))
def a4w(x:Z9):Option Int:= (y0m a2Z (x.1,x.2.2,0,x.2.1,(x.2.1.length:Int),0,())).bind fun w3=> cond (decide (w3.1<0)) none (some (A0i .i64 w3.2.1 w3.1))
def a9D:FSem:=⟨[.v QL,.v QL,.v QI],[.v QI],a4w⟩
def d5t:Hints:=⟨[(58,[.sv 0 QL,.sv 2 QI,.sv 7 QI,.sv 11 QL,.sv 12 QI,.sv 13 QI],[(.exit 0,[.sv 2 QI,.sv 7 QI])])],[],[]⟩
def a6B(s:((List Int)×Z57)):Option (((List Int)×Z57) ⊕ Z47):= cond (decide (s.2.2.2.2.1<s.2.2.2.1)) ((m0h s.2.2.1 s.2.2.2.2.1).bind fun x6=> (a4w (s.2.2.2.2.2.1,s.1,s.2.1)).bind fun y7=> (a4Y (wrap .i64 (y7+x6))).bind fun y8=> cond (!y8) (some (.inr (Sum.inr ((6,[],()))))) (cond (lim ((a01 s.2.2.2.2.2.1)+1)) (some (.inl (s.1,s.2.1,s.2.2.1,s.2.2.2.1,wrap .i64 (s.2.2.2.2.1+1),a03 s.2.2.2.2.2.1 [wrap .i64 (y7+x6)],()))) none)) (some (.inr (Sum.inl (s.2.2.2.2.2.1,()))))
def a6Y(x:((List Int)×Z9)):Option ((List Int)×Int):= (show Option ((List Int)×Z48)from(a4u (x.2.2.1,x.2.2.2)).bind fun y1=> cond (!y1) (some (x.1,x.2.1,x.2.2.1,x.2.2.2,true,())) (some (x.1,x.2.1,x.2.2.1,x.2.2.2,(x.1.length:Int) != (x.2.2.1.length:Int),()))).bind fun z2=> cond z2.2.2.2.2.1 (some ([],1)) ((show Option ((List Int)×Z48)from(a2x z2.1).bind fun y3=> cond (!y3) (some (z2.1,z2.2.1,z2.2.2.1,z2.2.2.2.1,true,())) ((a2x z2.2.1).bind fun y4=> some (z2.1,z2.2.1,z2.2.2.1,z2.2.2.2.1,!y4,()))).bind fun z5=> cond z5.2.2.2.2.1 (some ([],6)) (cond ((decide (0≤(wrap .i64 ((z5.1.length:Int)+(z5.2.1.length:Int)))))&&(lim (a00 (wrap .i64 ((z5.1.length:Int)+(z5.2.1.length:Int)))))) (cond (lim (0+(a01 z5.1))) ((y0m a6B (z5.2.2.1,z5.2.2.2.1,z5.2.1,(z5.2.1.length:Int),0,a03 [] z5.1,())).bind fun w9=> match w9 with |.inl a10=>some (a10.1,0) |.inr b11=>some (b11.2.1,b11.1)) none) none))
def b6t:FSem:=⟨[.v QL,.v QL,.v QL,.v QI],[.o QI,.v QI],a6Y⟩
def d5u:Hints:=⟨[(506,[.sv 2 QL,.sv 3 QI,.sv 42 QL,.sv 43 QI,.sv 44 QI,.own 10 10 QI],[(.exit 0,[.own 10 10 QI]),(.ret,[.sv 9 QI,.own 8 8 QI])])],[(6,[(.normal,[.sv 0 QL,.sv 1 QL,.sv 2 QL,.sv 3 QI,.sv 24 .bool])]),(14,[(.normal,[.sv 0 QL,.sv 1 QL,.sv 2 QL,.sv 3 QI,.sv 32 .bool])])],[]⟩
def a7t(x:Int):Option Bool:= cond (decide (x≥(-1073741824))) (some (decide (x<1073741824))) (some false)
def b1I:FSem:=⟨[.v QI],[.v .bool],a7t⟩
def d5v:Hints:=⟨[],[],[]⟩
def a3R(s:Z13):Option Z68:= cond (decide (s.2.2.1<s.2.1)) ((m0h s.1 s.2.2.1).bind fun x1=> (a7t x1).bind fun y2=> cond (!y2) (some (.inr (Sum.inr ((false,()))))) (some (.inl (s.1,s.2.1,wrap .i64 (s.2.2.1+1),())))) (some (.inr (Sum.inl ())))
def a4m(x:(List Int)):Option Bool:= (y0m a3R (x,(x.length:Int),0,())).bind fun w3=> match w3 with |.inl a4=>some true |.inr b5=>some b5.1
def a8q:FSem:=⟨[.v QL],[.v .bool],a4m⟩
def d5w:Hints:=⟨[(26,[.sv 5 QL,.sv 6 QI,.sv 7 QI],[(.exit 0,[]),(.ret,[.sv 2 .bool])])],[],[]⟩
def a3S(s:((List Int)×(Int×Int×Z15))):Option (((List Int)×(Int×Int×Z15)) ⊕ (Int×Unit)):= cond (decide (s.2.2.2.2.2.1<3)) ((m0h s.2.2.2.2.1 s.2.2.2.2.2.1).bind fun x1=> cond (decide ((wrap .i64 ((wrap .i64 ((wrap .i64 (s.2.1-s.2.2.1))-1))+s.2.2.2.2.2.1))≥0)) ((m0h s.1 (wrap .i64 ((wrap .i64 ((wrap .i64 (s.2.1-s.2.2.1))-1))+s.2.2.2.2.2.1))).bind fun x2=> some (.inl (s.1,s.2.1,s.2.2.1,wrap .i64 (s.2.2.2.1+(wrap .i64 (x1*x2))),s.2.2.2.2.1,wrap .i64 (s.2.2.2.2.2.1+1),()))) (some (.inl (s.1,s.2.1,s.2.2.1,s.2.2.2.1,s.2.2.2.2.1,wrap .i64 (s.2.2.2.2.2.1+1),())))) (some (.inr (s.2.2.2.1,())))
def a4n(x:((List Int)×Z2)):Option Int:= (y0m a3S (x.1,x.2.1,x.2.2.1,0,x.2.2.2,0,())).bind fun w3=> some (A0i .i64 w3.1 6)
def b1p:FSem:=⟨[.v QL,.v QI,.v QI,.v (.arr 3 QI)],[.v QI],a4n⟩
def d5x:Hints:=⟨[(58,[.sv 0 QL,.sv 1 QI,.sv 2 QI,.sv 9 QI,.sv 13 (.arr 3 QI),.sv 14 QI],[(.exit 0,[.sv 9 QI])])],[],[]⟩
def a8r(s:Z83):Option (Z83 ⊕ Z47):= cond (decide (s.2.2.2.1<s.2.2.1)) ((m0h s.2.1 s.2.2.2.1).bind fun x3=> (a4n (s.2.2.2.2.1,s.2.2.2.1,s.1,s.2.2.2.2.2.1)).bind fun y4=> (a7t (wrap .i64 (x3+y4))).bind fun y5=> cond (!y5) (some (.inr (Sum.inr ((6,[],()))))) (cond (lim ((a01 s.2.2.2.2.1)+1)) (some (.inl (s.1,s.2.1,s.2.2.1,wrap .i64 (s.2.2.2.1+1),a03 s.2.2.2.2.1 [wrap .i64 (x3+y4)],s.2.2.2.2.2.1,()))) none)) (some (.inr (Sum.inl (s.2.2.2.2.1,()))))
def b1J(x:((List Int)×(Int×(List Int)))):Option ((List Int)×Int):= (a8p (x.2.1,x.2.2)).bind fun y1=> cond (!y1) (some ([],1)) ((a4m x.1).bind fun y2=> cond (!y2) (some ([],6)) (cond ((decide (0≤(x.1.length:Int)))&&(lim (a00 (x.1.length:Int)))) ((y0m a8r (x.2.1,x.1,(x.1.length:Int),0,[],x.2.2,())).bind fun w6=> match w6 with |.inl a7=>some (a7.1,0) |.inr b8=>some (b8.2.1,b8.1)) none))
def b7O:FSem:=⟨[.v QL,.v QI,.v (.arr 3 QI)],[.o QI,.v QI],b1J⟩
def d5y:Hints:=⟨[(250,[.sv 1 QI,.sv 22 QL,.sv 23 QI,.sv 24 QI,.own 8 8 QI,.vp 5 (.arr 3 QI)],[(.exit 0,[.own 8 8 QI]),(.ret,[.sv 7 QI,.own 6 6 QI])])],[],[]⟩
def a6c(x:Int):Option Bool:= cond (decide (x≥(-1073741824))) (some (decide (x<1073741824))) (some false)
def a9Z:FSem:=⟨[.v QI],[.v .bool],a6c⟩
def d5z:Hints:=⟨[],[],[]⟩
def a3s(s:Z13):Option Z68:= cond (decide (s.2.2.1<s.2.1)) ((m0h s.1 s.2.2.1).bind fun x1=> (a6c x1).bind fun y2=> cond (!y2) (some (.inr (Sum.inr ((false,()))))) (some (.inl (s.1,s.2.1,wrap .i64 (s.2.2.1+1),())))) (some (.inr (Sum.inl ())))
def a5g(x:(List Int)):Option Bool:= (y0m a3s (x,(x.length:Int),0,())).bind fun w3=> match w3 with |.inl a4=>some true |.inr b5=>some b5.1
def b0A:FSem:=⟨[.v QL],[.v .bool],a5g⟩
def d5A:Hints:=⟨[(26,[.sv 5 QL,.sv 6 QI,.sv 7 QI],[(.exit 0,[]),(.ret,[.sv 2 .bool])])],[],[]⟩
def a9b(x:(Int×Int×Unit)):Option (Z23×Int):= (a6X x).bind fun y1=> cond (!y1) none (cond ((decide (0≤x.1))&&((decide (x.1≤x.1))&&(lim (a00 x.1)))) (cond ((decide (0≤x.1))&&((decide (x.1≤x.1))&&(lim (a00 x.1)))) (some ((x.2.1,a02 (a00 x.1) 0,a02 (a00 x.1) 0,()),0)) none) none)
def b4C:FSem:=⟨[.v Q3],[.b Q17,.v QI],a9b⟩
def d5B:Hints:=⟨[],[],[(3,[.v,.v,.v,.v,.q,.v,.v,.q,.x,.x,.x,.x])]⟩
def a5h(x:Int):Option Int:= some (v0n (v0m x (-1073741824)) 1073741823)
def b0B:FSem:=⟨[.v QI],[.v QI],a5h⟩
def d5C:Hints:=⟨[],[],[]⟩
def a2W(s:Z86):Option (Z86 ⊕ Z62):= cond (decide (s.2.2.1<s.2.1)) (cond ((decide (0≤s.2.2.1))&&(decide (s.2.2.1<(s.2.2.2.1.2.1.length:Int)))) (cond ((decide (0≤s.2.2.1))&&(decide (s.2.2.1<(s.2.2.2.1.2.2.1.length:Int)))) (some (.inl (wrap .i64 (s.1+(wrap .i64 ((a04 s.2.2.2.1.2.1 (a00 s.2.2.1) 0)*(a04 s.2.2.2.1.2.2.1 (a00 s.2.2.1) 0)))),s.2.1,wrap .i64 (s.2.2.1+1),s.2.2.2.1,()))) none) none) (some (.inr (s.1,s.2.2.2.1,())))
def a1V(x:Z23):Option Z41:= (y0m a2W (0,(x.2.1.length:Int),0,x,())).bind fun w1=> (a5h (A0i .i64 w1.1 16)).bind fun y2=> some (y2,w1.2.1)
def a3X:FSem:=⟨[.r false (.b Q17)],[.v QI],a1V⟩
def d5D:Hints:=⟨[(58,[.sv 3 QI,.sv 10 QI,.sv 11 QI,.box pinned Q17,.ptr 0 pinned [],.ref 9 pinned [.snd,.fst]],[(.exit 0,[.sv 3 QI,.box pinned Q17])])],[],[]⟩
def a2q(s:(Int×Z86)):Option ((Int×Z86) ⊕ Z62):= cond (decide (s.2.2.2.1<s.2.2.1)) (cond ((decide (0≤s.2.2.2.1))&&(decide (s.2.2.2.1<(s.2.2.2.2.1.2.2.1.length:Int)))) (cond ((decide (0≤s.2.2.2.1))&&(decide (s.2.2.2.1<(s.2.2.2.2.1.2.1.length:Int)))) ((show Option (Int×Int×Int×Z86)from cond (decide ((a04 s.2.2.2.2.1.2.2.1 (a00 s.2.2.2.1) 0) > 0)) (some (s.1,s.2.1,s.2.2.2.1,wrap .i64 ((a04 s.2.2.2.2.1.2.1 (a00 s.2.2.2.1) 0)+s.2.1),s.2.2.1,s.2.2.2.1,s.2.2.2.2.1,())) (cond (decide ((a04 s.2.2.2.2.1.2.2.1 (a00 s.2.2.2.1) 0)<0)) (some (s.1,s.2.1,s.2.2.2.1,wrap .i64 ((a04 s.2.2.2.2.1.2.1 (a00 s.2.2.2.1) 0)-s.2.1),s.2.2.1,s.2.2.2.1,s.2.2.2.2.1,())) (some (s.1,s.2.1,s.2.2.2.1,a04 s.2.2.2.2.1.2.1 (a00 s.2.2.2.1) 0,s.2.2.1,s.2.2.2.1,s.2.2.2.2.1,())))).bind fun z4=> cond ((decide (0≤z4.2.2.1))&&(decide (z4.2.2.1<(z4.2.2.2.2.2.2.1.2.1.length:Int)))) (some (.inl (z4.1,z4.2.1,z4.2.2.2.2.1,wrap .i64 (z4.2.2.2.2.2.1+1),(z4.2.2.2.2.2.2.1.1,a19 z4.2.2.2.2.2.2.1.2.1 (a00 z4.2.2.1) (v0n (v0m z4.2.2.2.1 (-1048576)) 1048576),z4.2.2.2.2.2.2.1.2.2),()))) none) none) none) (some (.inr (s.1,s.2.2.2.2.1,())))
def a3a(x:(Z23×Int)):Option Z23:= (a5h x.2).bind fun y1=> (show Option Z76 from(a1V x.1).bind fun y2=> cond (decide (y1 > y2.1)) (cond (decide (y2.2.1<0)) none (some (y1,A0h .i64 1 y2.2.1,y2.2,()))) (cond (decide (y1<y2.1)) (cond (decide (y2.2.1<0)) none (some (y1,wrap .i64 (0-(A0h .i64 1 y2.2.1)),y2.2,()))) (some (y1,0,y2.2,())))).bind fun z3=> (y0m a2q (z3.1,z3.2.1,(z3.2.2.1.2.2.1.length:Int),0,z3.2.2.1,())).bind fun w5=> cond (decide (1≤(w5.2.1.2.2.1.length:Int))) (cond (decide (0<(a01 (p0b w5.2.1.2.2.1 1 ((a01 w5.2.1.2.2.1)-1) w5.2.1.2.2.1):Int))) (some (w5.2.1.1,w5.2.1.2.1,a19 (p0b w5.2.1.2.2.1 1 ((a01 w5.2.1.2.2.1)-1) w5.2.1.2.2.1) 0 w5.1,w5.2.1.2.2.2)) none) none
def a7C:FSem:=⟨[.r false (.b Q17),.v QI],[],a3a⟩
def d5E:Hints:=⟨[(122,[.sv 1 QI,.sv 4 QI,.sv 36 QI,.sv 37 QI,.box pinned Q17,.ptr 0 pinned [],.ref 35 pinned [.snd,.snd,.fst]],[(.exit 1,[.sv 1 QI,.box pinned Q17,.ptr 0 pinned []])])],[(7,[(.normal,[.sv 1 QI,.sv 4 QI,.box pinned Q17,.ptr 0 pinned []])]),(15667,[(.normal,[.sv 1 QI,.sv 4 QI,.sv 6 QI,.sv 8 QI,.sv 36 QI,.sv 37 QI,.box pinned Q17,.ptr 0 pinned [],.ref 35 pinned [.snd,.snd,.fst]])])],[(17,[.p,.p,.q,.q,.q,.p,.p,.q,.q,.x])]⟩
def a5i(s:(Int×(Int×((List Int)×Z84)))):Option ((Int×(Int×((List Int)×Z84))) ⊕ (Z24 ⊕ Z24)):= cond (decide (s.2.1<s.1)) (cond ((decide (0≤s.2.1))&&(decide (s.2.1<(s.2.2.2.2.1.length:Int)))) ((a1V s.2.2.2.2.2.1).bind fun y6=> (a6c (wrap .i64 (y6.1+(a04 s.2.2.2.2.1 (a00 s.2.1) 0)))).bind fun y7=> cond (!y7) (some (.inr (Sum.inr (([],6,s.2.2.2.2.1,()))))) ((a3a (y6.2,wrap .i64 (y6.1+(a04 s.2.2.2.2.1 (a00 s.2.1) 0)))).bind fun y8=> cond ((decide (0≤s.2.1))&&(decide (s.2.1<(s.2.2.2.2.1.length:Int)))) (some (.inl (s.1,wrap .i64 (s.2.1+1),s.2.2.1,s.2.2.2.1,a19 s.2.2.2.2.1 (a00 s.2.1) (wrap .i64 (y6.1+(a04 s.2.2.2.2.1 (a00 s.2.1) 0))),y8,()))) none)) none) (some (.inr (Sum.inl (s.2.2.1,s.2.2.2.1,s.2.2.2.2.1,()))))
def a7J(k:Int)(v:(Int×Int×Unit))(s:(Z4×Z24)):Option ((Z4×Z24) ⊕ (Ex×Z4×Z24)):= (a9b v).bind fun y4=> cond (y4.2 != 0) (some (.inr (.ret,s.1,[],y4.2,s.2.2.2.1,()))) ((y0m a5i ((s.2.2.2.1.length:Int),0,s.2.1,s.2.2.1,s.2.2.2.1,y4.1,())).bind fun w9=> match w9 with |.inl a10=>some (.inl (s.1,a10.1,a10.2.1,a10.2.2.1,())) |.inr b11=>some (.inr (.ret,s.1,b11.1,b11.2.1,b11.2.2.1,())))
def b0C(x:((List Int)×Z4)):Option ((List Int)×Int):= (a7r x.2).bind fun y1=> cond (!y1) (some ([],1)) ((a5g x.1).bind fun y2=> cond (!y2) (some ([],6)) ((a1c x.1).bind fun y3=> cond (lim (a01 x.2)) ((l0b a7J x.2 (a01 x.2) (x.2,[],0,y3,())).bind fun w12=> match w12 with |.inl a13=>some (a13.2.2.2.1,0) |.inr (.normal,a14)=>some (a14.2.2.2.1,0) |.inr (.exit e15,a14)=>(cond (e15==0) (some (a14.2.2.2.1,0)) none) |.inr (.ret,a14)=>some (a14.2.1,a14.2.2.1)) none))
def a7X:FSem:=⟨[.v QL,.v (.list false Q3)],[.v QL,.v QI],b0C⟩
def d5F:Hints:=⟨[(8046,[.sv 35 QI,.sv 36 QI,.box 1001004 QL,.box 1001005 QI,.box 1001006 (.list true QI),.box 1028 Q17,.ptr 4 1001004 [],.ptr 5 1001005 [],.ptr 6 1001006 [],.ptr 9 1028 [],.ref 34 1001006 []],[(.exit 2,[.box 1001004 QL,.box 1001005 QI,.box 1001006 (.list true QI),.ptr 4 1001004 [],.ptr 5 1001005 [],.ptr 6 1001006 []]),(.ret,[.box 1001004 QL,.box 1001005 QI,.box 1001006 (.list true QI),.ptr 4 1001004 [],.ptr 5 1001005 [],.ptr 6 1001006 []])])],[],[]⟩
def c9p:Cx:=a9T [(183,a0Z),(213,b1F),(296,b0A),(298,b4C),(299,a3X),(300,a9Z),(301,a7C)] [(6,.list true QI)] [0,1,9,10,11,12,13] [56]
def d1K:HintR:=⟨22,Q3,297,326,[4,5,6],[.sv 22 (.list false Q3),.box 1001004 QL,.box 1001005 QI,.box 1001006 (.list true QI),.ptr 4 1001004 [],.ptr 5 1001005 [],.ptr 6 1001006 []]⟩
theorem d2N(x):z0b c9p d5F d1K Tryz.f240 a7X.ps a7X.rs x=a7X.F x:=by kernel_rfl
def a4Z(x:Int):Option Bool:= cond (decide ((-1073741824)≤x)) (some (decide (x<1073741824))) (some false)
def b2B:FSem:=⟨[.v QI],[.v .bool],a4Z⟩
def d5G:Hints:=⟨[],[],[]⟩
def a8s(s:Z57):Option (Z57 ⊕ Z47):= cond (decide (s.2.2.2.1<s.2.2.1)) ((m0h s.2.1 s.2.2.2.1).bind fun x2=> (show Option (Int×(Int×((List Int)×(Int×(Int×(Bool×((List Int)×Unit)))))))from(a4Z x2).bind fun y3=> cond (!y3) (some (s.1,x2,s.2.1,s.2.2.1,s.2.2.2.1,true,s.2.2.2.2.1,())) (cond (decide (s.1<0)) none ((a4Z (A0h .i64 x2 s.1)).bind fun y4=> some (s.1,x2,s.2.1,s.2.2.1,s.2.2.2.1,!y4,s.2.2.2.2.1,())))).bind fun z5=> cond z5.2.2.2.2.2.1 (some (.inr (Sum.inr ((6,[],()))))) (cond (decide (z5.1<0)) none (cond (lim ((a01 z5.2.2.2.2.2.2.1)+1)) (some (.inl (z5.1,z5.2.2.1,z5.2.2.2.1,wrap .i64 (z5.2.2.2.2.1+1),a03 z5.2.2.2.2.2.2.1 [A0h .i64 z5.2.1 z5.1],()))) none))) (some (.inr (Sum.inl (s.2.2.2.2.1,()))))
def a9c(x:((List Int)×Int)):Option ((List Int)×Int):= (show Option Z16 from cond (decide (x.2<0)) (some (x.1,x.2,true,())) (some (x.1,x.2,decide (x.2 > 30),()))).bind fun z1=> cond z1.2.2.1 (some ([],1)) ((y0m a8s (z1.2.1,z1.1,(z1.1.length:Int),0,[],())).bind fun w6=> match w6 with |.inl a7=>some (a7.1,0) |.inr b8=>some (b8.2.1,b8.1))
def b7P:FSem:=⟨[.v QL,.v QI],[.o QI,.v QI],a9c⟩
def d5H:Hints:=⟨[(122,[.sv 1 QI,.sv 15 QL,.sv 16 QI,.sv 17 QI,.own 6 6 QI],[(.exit 0,[.own 6 6 QI]),(.ret,[.sv 5 QI,.own 4 4 QI])])],[(6,[(.normal,[.sv 0 QL,.sv 1 QI,.sv 14 .bool])]),(15666,[(.normal,[.sv 1 QI,.sv 8 QI,.sv 15 QL,.sv 16 QI,.sv 17 QI,.sv 30 .bool,.own 6 6 QI])])],[]⟩
def a6Z(s:(Int×(Int×((List Int)×b5C)))):Option ((Int×(Int×((List Int)×b5C))) ⊕ ((List Int)×Unit)):= cond (decide (s.2.1<s.1)) ((m0h s.2.2.2.1.2.2.2.2.2.2.2.2.1 0).bind fun x1=> cond (lim ((a01 s.2.2.1)+1)) (some (.inl (s.1,wrap .i64 (s.2.1+1),a03 s.2.2.1 [x1],s.2.2.2.1,()))) none) (some (.inr (s.2.2.1,())))
def b2S(x:b4y):Option ((List Int)×Int):= (show Option (((List Int)×(Int×b5C)) ⊕ Z5)from cond (x.1.1==0) ((y0m a6Z (x.2,0,[],x.1,())).bind fun w2=> some (Sum.inr ((0,w2.1,())))) (cond (x.1.1==1) (some (Sum.inl (x.1.2.2.2.2.2.2.2.2.1,0,x.1,()))) (cond (x.1.1==2) ((a9Y (x.1.2.2.2.2.2.2.2.2.1,x.1.2.2.2.2.2.2.2.2.2.2.1,x.1.2.2.1)).bind fun y3=> some (Sum.inl (y3.1,y3.2,x.1,()))) (cond (x.1.1==3) ((a6Y (x.1.2.2.2.2.2.2.2.2.1,x.1.2.2.2.2.2.2.2.2.2.2.1,x.1.2.2.2.2.2.1,x.1.2.2.2.1)).bind fun y4=> some (Sum.inl (y4.1,y4.2,x.1,()))) (cond (x.1.1==4) ((a6Y (x.1.2.2.2.2.2.2.2.2.1,x.1.2.2.2.2.2.2.2.2.2.2.1,x.1.2.2.2.2.2.1,x.1.2.2.2.1)).bind fun y5=> cond (y5.2==0) ((b1J (y5.1,x.1.2.2.2.2.1,x.1.2.2.2.2.2.2.1)).bind fun y6=> some (Sum.inl (y6.1,y6.2,x.1,()))) (some (Sum.inl (y5.1,y5.2,x.1,())))) (cond (x.1.1==5) ((b0C (x.1.2.2.2.2.2.2.2.2.2.2.1,x.1.2.2.2.2.2.2.2.1)).bind fun y7=> some (Sum.inl (y7.1,y7.2,x.1,()))) (some (Sum.inl ([],0,x.1,()))))))))).bind fun z8=> match z8 with |.inl a9=>(cond (a9.2.1 != 0) (some ([],a9.2.1)) ((a9c (a9.1,a9.2.2.1.2.1)).bind fun y11=> some (y11.1,y11.2))) |.inr b10=>some (b10.2.1,b10.1)
def b9g:FSem:=⟨[.v Q42,.v QI],[.o QI,.v QI],b2S⟩
def d5I:Hints:=⟨[(3922,[.sv 12 QI,.sv 13 QI,.own 6 6 QI,.vp 2 Q42],[(.exit 1,[.own 6 6 QI])])],[(15,[(.normal,[.sv 6 QL,.sv 7 QI,.vp 2 Q42]),(.ret,[.sv 5 QI,.own 4 6 QI])])],[]⟩
def b2k(x:b4y):Option ((List Int)×Int):= (a9X (x.1,x.2)).bind fun y1=> cond (!y1) (some ([],1)) ((b2S (x.1,x.2)).bind fun y2=> cond (y2.2 != 0) (some ([],1)) (some (y2.1,0)))
def b6O:FSem:=⟨[.v Q42,.v QI],[.o QI,.v QI],b2k⟩
def d5J:Hints:=⟨[],[],[]⟩
def a9d(x:Int):Option Bool:= cond (decide ((-1073741824)≤x)) (some (decide (x<1073741824))) (some false)
def b4D:FSem:=⟨[.v QI],[.v .bool],a9d⟩
def d5K:Hints:=⟨[],[],[]⟩
def a4o(s:((List (List Int))×((List (List Int))×Z49))):Option (((List (List Int))×((List (List Int))×Z49)) ⊕ (((List (List Int))×Z25) ⊕ (Bool×Unit))):= cond (decide (s.2.2.2.2.2.2.1<s.2.2.2.2.2.1)) ((m0h s.2.2.2.2.1 s.2.2.2.2.2.2.1).bind fun x5=> (a9d x5).bind fun y6=> cond (!y6) (some (.inr (Sum.inr ((false,()))))) (some (.inl (s.1,s.2.1,s.2.2.1,s.2.2.2.1,s.2.2.2.2.1,s.2.2.2.2.2.1,wrap .i64 (s.2.2.2.2.2.2.1+1),())))) (some (.inr (Sum.inl (s.1,s.2.1,s.2.2.1,s.2.2.2.1,()))))
def a4p(s:((List (List Int))×Z25)):Option (((List (List Int))×Z25) ⊕ Z0):= cond (decide (s.2.2.2.1<s.2.2.1)) ((m0h s.2.1 s.2.2.2.1).bind fun x3=> (m0h s.1 0).bind fun x4=> cond ((x3.length:Int) != (x4.length:Int)) (some (.inr (Sum.inr ((false,()))))) ((y0m a4o (s.1,s.2.1,s.2.2.1,s.2.2.2.1,x3,(x3.length:Int),0,())).bind fun w7=> match w7 with |.inl a8=>some (.inl (a8.1,a8.2.1,a8.2.2.1,wrap .i64 (a8.2.2.2.1+1),())) |.inr b9=>some (.inr (Sum.inr ((b9.1,())))))) (some (.inr (Sum.inl ())))
def a7u(x:(List (List Int))):Option Bool:= (show Option ((List (List Int))×(Bool×Unit))from cond (decide ((x.length:Int)<1)) (some (x,true,())) (cond (decide ((x.length:Int) > 8)) (some (x,true,())) ((m0h x 0).bind fun x1=> some (x,decide ((x1.length:Int) > 4096),())))).bind fun z2=> cond z2.2.1 (some false) ((y0m a4p (z2.1,z2.1,(z2.1.length:Int),0,())).bind fun w10=> match w10 with |.inl a11=>some true |.inr b12=>some b12.1)
def b1K:FSem:=⟨[.v (.list false QL)],[.v .bool],a7u⟩
def d5L:Hints:=⟨[(58,[.sv 0 (.list false QL),.sv 22 (.list false QL),.sv 23 QI,.sv 24 QI],[(.exit 0,[]),(.ret,[.sv 2 .bool])]),(29902,[.sv 0 (.list false QL),.sv 22 (.list false QL),.sv 23 QI,.sv 24 QI,.sv 35 QL,.sv 36 QI,.sv 37 QI],[(.exit 2,[.sv 0 (.list false QL),.sv 22 (.list false QL),.sv 23 QI,.sv 24 QI]),(.ret,[.sv 2 .bool])])],[(6,[(.normal,[.sv 0 (.list false QL),.sv 21 .bool])])],[]⟩
def a6C(s:((List (List Int))×Z26)):Option (((List (List Int))×Z26) ⊕ Z1):= cond (decide (s.2.2.1<s.2.1)) ((m0h s.1 s.2.2.1).bind fun x1=> (a1c x1).bind fun y2=> cond (lim ((a01 s.2.2.2.1)+(a01 (a19 ([[]]:List (List Int)) 0 y2)))) (some (.inl (s.1,s.2.1,wrap .i64 (s.2.2.1+1),a03 s.2.2.2.1 (a19 ([[]]:List (List Int)) 0 y2),()))) none) (some (.inr (s.2.2.2.1,())))
def a7a(x:(List (List Int))):Option (List (List Int)):= (y0m a6C (x,(x.length:Int),0,([]:(List (List Int))),())).bind fun w3=> some w3.1
def b2C:FSem:=⟨[.v (.list false QL)],[.o (.list true QI)],a7a⟩
def d5M:Hints:=⟨[(58,[.sv 6 (.list false QL),.sv 7 QI,.sv 8 QI,.own 3 3 (.list true QI)],[(.exit 0,[.own 3 3 (.list true QI)])])],[],[]⟩
def a3z(s:(Int×(Int×(Int×((List (List Int))×(Z7×Int×Unit)))))):Option ((Int×(Int×(Int×((List (List Int))×(Z7×Int×Unit))))) ⊕ (Z1 ⊕ (Bool×Z1))):= cond (decide (s.2.2.1<s.2.1)) (cond ((decide (0≤s.2.2.1))&&(decide (s.2.2.1<((a01 (a04 s.2.2.2.1 (a00 s.2.2.2.2.2.1) []):Nat):Int)))) (cond ((decide (0≤s.2.2.2.2.1.2.1))&&(decide (s.2.2.2.2.1.2.1<(s.2.2.2.1.length:Int)))) (cond ((decide (0≤s.2.2.1))&&(decide (s.2.2.1<((a01 (a04 s.2.2.2.1 (a00 s.2.2.2.2.1.2.1) []):Nat):Int)))) ((a9d (wrap .i64 ((a04 (a04 s.2.2.2.1 (a00 s.2.2.2.2.1.2.1) []) (a00 s.2.2.1) 0)+(wrap .i64 (s.1*(A0i .i64 (wrap .i64 (s.2.2.2.2.1.2.2.1*(a04 (a04 s.2.2.2.1 (a00 s.2.2.2.2.2.1) []) (a00 s.2.2.1) 0))) 8)))))).bind fun y1=> cond (!y1) (some (.inr (Sum.inr ((false,s.2.2.2.1,()))))) (cond ((decide (0≤s.2.2.2.2.1.2.1))&&(decide (s.2.2.2.2.1.2.1<(s.2.2.2.1.length:Int)))) (cond ((decide (0≤s.2.2.1))&&(decide (s.2.2.1<((a01 (a04 s.2.2.2.1 (a00 s.2.2.2.2.1.2.1) []):Nat):Int)))) (some (.inl (s.1,s.2.1,wrap .i64 (s.2.2.1+1),a19 s.2.2.2.1 (a00 s.2.2.2.2.1.2.1) (a19 (a04 s.2.2.2.1 (a00 s.2.2.2.2.1.2.1) []) (a00 s.2.2.1) (wrap .i64 ((a04 (a04 s.2.2.2.1 (a00 s.2.2.2.2.1.2.1) []) (a00 s.2.2.1) 0)+(wrap .i64 (s.1*(A0i .i64 (wrap .i64 (s.2.2.2.2.1.2.2.1*(a04 (a04 s.2.2.2.1 (a00 s.2.2.2.2.2.1) []) (a00 s.2.2.1) 0))) 8)))))),s.2.2.2.2.1,((a00 s.2.2.2.2.2.1:Nat):Int),()))) none) none)) none) none) none) (some (.inr (Sum.inl (s.2.2.2.1,()))))
def a7Y(x:((List (List Int))×(Z7×Int))):Option (Bool×(List (List Int))):= cond ((decide (0≤x.2.1.1))&&(decide (x.2.1.1<(x.1.length:Int)))) ((y0m a3z (x.2.2,((a01 (a04 x.1 (a00 x.2.1.1) []):Nat):Int),0,x.1,x.2.1,((a00 x.2.1.1:Nat):Int),())).bind fun w2=> match w2 with |.inl a3=>some (true,a3.1) |.inr b4=>some (b4.1,b4.2.1)) none
def b3v:FSem:=⟨[.r false (.o (.list true QI)),.v Q12,.v QI],[.v .bool],a7Y⟩
def d5N:Hints:=⟨[(26,[.sv 2 QI,.sv 15 QI,.sv 16 QI,.own 0 pinned (.list true QI),.vp 4 Q12,.rfi 14 pinned],[(.exit 0,[.own 0 pinned (.list true QI)]),(.ret,[.sv 6 .bool,.own 0 pinned (.list true QI)])])],[],[(4,[.q,.v,.v,.q,.q,.v,.q,.q,.v,.v,.v,.v,.v,.v,.v,.x,.x])]⟩
def a3g(k:Int)(v:Z7)(s:(Z12×((List (List Int))×Z10))):Option ((Z12×((List (List Int))×Z10)) ⊕ (Ex×(Z12×((List (List Int))×Z10)))):= (a7Y (s.2.2.2.1,v,(-1))).bind fun y5=> cond (!y5.1) (some (.inr (.ret,s.1,([]:(List (List Int))),6,y5.2,()))) (some (.inl (s.1,s.2.1,s.2.2.1,y5.2,())))
def b1L(x:((List (List Int))×Z12)):Option ((List (List Int))×Int):= (show Option ((List (List Int))×(Z12×(Bool×((List (List Int))×(Int×Unit)))))from(a7u x.1).bind fun y1=> cond (!y1) (some (x.1,x.2,true,([]:(List (List Int))),0,())) ((a8o (x.2,(x.1.length:Int))).bind fun y2=> some (x.1,x.2,!y2,([]:(List (List Int))),0,()))).bind fun z3=> cond z3.2.2.1 (some (([]:(List (List Int))),1)) ((a7a z3.1).bind fun y4=> cond (lim (a01 z3.2.1)) ((l0b a3g z3.2.1 (a01 z3.2.1) (z3.2.1,z3.2.2.2.1,z3.2.2.2.2.1,y4,())).bind fun w6=> match w6 with |.inl a7=>some (a7.2.2.2.1,0) |.inr (.normal,a8)=>some (a8.2.2.2.1,0) |.inr (.exit e9,a8)=>(cond (e9==0) (some (a8.2.2.2.1,0)) none) |.inr (.ret,a8)=>some (a8.2.1,a8.2.2.1)) none)
def a9e:FSem:=⟨[.v (.list false QL),.v (.list false Q12)],[.v (.list false QL),.v QI],b1L⟩
def d5O:Hints:=⟨[],[(6,[(.normal,[.sv 0 (.list false QL),.sv 1 (.list false Q12),.sv 18 .bool,.box 4 (.list false QL),.box 5 QI,.ptr 4 4 [],.ptr 5 5 []])])],[]⟩
def c9q:Cx:=a9T [(113,b1K),(114,b2Q),(115,b2C),(116,b3v)] [(6,.list true (.list true QI))] [0,1] [29]
def d1L:HintR:=⟨21,Q12,186,242,[4,5,6],[.sv 21 (.list false Q12),.box 1001004 (.list false QL),.box 1001005 QI,.box 1001006 (.list true (.list true QI)),.ptr 4 1001004 [],.ptr 5 1001005 [],.ptr 6 1001006 []]⟩
theorem d2O(x):z0b c9q d5O d1L Tryz.f107 a9e.ps a9e.rs x=a9e.F x:=by kernel_rfl
def a4x(s:(b2v×(Int×(Int×((List (List Int))×c2T))))):Option ((b2v×(Int×(Int×((List (List Int))×c2T)))) ⊕ (((List (List Int))×c2T) ⊕ Z45)):= cond (decide (s.2.2.1<s.2.1)) ((m0h s.1 s.2.2.1).bind fun x3=> (b2k (x3,s.2.2.2.2.2.1.2.1)).bind fun y4=> cond (y4.2 != 0) (some (.inr (Sum.inr ((1,(0,([]:(List (List Int))),()),()))))) (cond (lim ((a01 s.2.2.2.1)+1)) (some (.inl (s.1,s.2.1,wrap .i64 (s.2.2.1+1),a03 s.2.2.2.1 ([y4.1]:List (List Int)),s.2.2.2.2.1,s.2.2.2.2.2.1,()))) none)) (some (.inr (Sum.inl (s.2.2.2.1,s.2.2.2.2.1,s.2.2.2.2.2.1,()))))
def a3K(x:a3r):Option Z27:= (show Option (Bool×c2T)from(a6V x).bind fun y1=> cond (!y1) (some (true,(0,([]:(List (List Int))),()),x,())) (some ((x.2.2.2.2.1.length:Int) != x.2.2.1.2.1,(0,([]:(List (List Int))),()),x,()))).bind fun z2=> cond z2.1 (some ((0,([]:(List (List Int))),()),1)) (cond ((decide (0≤(z2.2.2.1.2.2.2.2.1.length:Int)))&&(lim (a00 (z2.2.2.1.2.2.2.2.1.length:Int)))) ((y0m a4x (z2.2.2.1.2.2.2.2.1,(z2.2.2.1.2.2.2.2.1.length:Int),0,([]:(List (List Int))),z2.2.1,z2.2.2.1,())).bind fun w5=> match w5 with |.inl a6=>((b1L (a6.1,a6.2.2.1.2.2.2.1)).bind fun y8=> cond (y8.2 != 0) (some ((0,([]:(List (List Int))),()),1)) ((a4e (a6.2.2.1.2.2.1.2.2.1,y8.1,())).bind fun y9=> cond (!y9) (some ((0,([]:(List (List Int))),()),1)) (some ((a6.2.2.1.2.2.1.2.2.1,y8.1,()),0)))) |.inr b7=>some (b7.2.1,b7.1)) none)
def a9r:FSem:=⟨[.v Q60],[.v Q15,.v QI],a3K⟩
def H50:Hints:=⟨[(122,[.sv 30 (.list false Q42),.sv 31 QI,.sv 32 QI,.own 4 4 QL,.box 2 Q15,.vp 1 Q60,.ptr 2 2 []],[(.exit 0,[.own 4 4 QL,.box 2 Q15,.vp 1 Q60,.ptr 2 2 []]),(.ret,[.sv 3 QI,.box 2 Q15,.ptr 2 2 []])])],[(6,[(.normal,[.sv 23 .bool,.box 2 Q15,.vp 1 Q60,.ptr 2 2 []])])],[]⟩
def a4g(x:a3r):Option Bool:= (a3K x).bind fun y1=> some (y1.2==0)
def b4E:FSem:=⟨[.v Q60],[.v .bool],a4g⟩
def H61:Hints:=⟨[],[],[]⟩
def a9L(x:b4y):Option Bool:= (b2k (x.1,x.2)).bind fun y1=> some (y1.2==0)
def b6P:FSem:=⟨[.v Q42,.v QI],[.v .bool],a9L⟩
def d5P:Hints:=⟨[],[],[]⟩
def a2N(s:Z49):Option (Z49 ⊕ Z29):= cond (s.2.1 != 0) (cond (decide (s.1<32)) ((a1R (s.2.1,s.1)).bind fun y2=> cond (!y2) (some (.inl (wrap .i64 (s.1+1),s.2.1,s.2.2.1,s.2.2.2.1,s.2.2.2.2.1,()))) (some (.inr (s.1,s.2.2.1,s.2.2.2.1,s.2.2.2.2.1,())))) (some (.inr (s.1,s.2.2.1,s.2.2.2.1,s.2.2.2.2.1,())))) (some (.inr (s.1,s.2.2.1,s.2.2.2.1,s.2.2.2.2.1,())))
def a5P(s:Z29):Option Z64:= cond (decide (s.2.2.2.1<s.2.2.1)) ((m0h s.2.1 s.2.2.2.1).bind fun x1=> (y0m a2N (s.1,x1,s.2.1,s.2.2.1,s.2.2.2.1,())).bind fun w3=> some (.inl (w3.1,w3.2.1,w3.2.2.1,wrap .i64 (w3.2.2.2.1+1),()))) (some (.inr (s.1,())))
def a1r(x:(List Int)):Option Int:= (y0m a5P (0,x,(x.length:Int),0,())).bind fun w4=> some w4.1
def a2z:FSem:=⟨[.v QL],[.v QI],a1r⟩
def d5Q:Hints:=⟨[(58,[.sv 3 QI,.sv 6 QL,.sv 7 QI,.sv 8 QI],[(.exit 0,[.sv 3 QI])]),(7474,[.sv 3 QI,.sv 5 QI,.sv 6 QL,.sv 7 QI,.sv 8 QI],[(.exit 2,[.sv 3 QI,.sv 6 QL,.sv 7 QI,.sv 8 QI])])],[],[]⟩
def a2b(x:(Z6×Int)):Option Z6:= (show Option Z34 from cond ((a05 x.1.2.1 8)==0) (cond (lim ((a01 x.1.1)+1)) (some (x.2,(a03 x.1.1 [0],x.1.2),())) none) (some (x.2,x.1,()))).bind fun z1=> cond ((decide (0≤(wrap .i64 (a07 z1.2.1.2.1 8))))&&(decide ((wrap .i64 (a07 z1.2.1.2.1 8))<(z1.2.1.1.length:Int)))) (cond (decide ((wrap .i64 (7-(a05 z1.2.1.2.1 8)))<0)) none (cond ((decide (0≤(wrap .i64 (a07 z1.2.1.2.1 8))))&&(decide ((wrap .i64 (a07 z1.2.1.2.1 8))<(z1.2.1.1.length:Int)))) (some (a19 z1.2.1.1 (a00 (wrap .i64 (a07 z1.2.1.2.1 8))) (bits .u8 .or (a04 z1.2.1.1 (a00 (wrap .i64 (a07 z1.2.1.2.1 8))) 0) (A0h .u8 z1.1 (wrap .i64 (7-(a05 z1.2.1.2.1 8))))),wrap .i64 (z1.2.1.2.1+1),z1.2.1.2.2)) none)) none
def a5Q:FSem:=⟨[.r false (.b Q9),.v (.int .u8)],[],a2b⟩
def d5R:Hints:=⟨[],[(1,[(.normal,[.sv 1 (.int .u8),.box pinned Q9,.ptr 0 pinned []])])],[(2,[.p,.p,.q,.q,.p,.p,.q,.q,.v,.q,.q,.v,.p,.p,.q,.q,.v,.v,.v,.x,.x,.x])]⟩
def a3Y(s:Z52):Option (Z52 ⊕ Z18):= cond (decide (s.2.1≥0)) (cond (decide (s.2.1<0)) none ((a2b (s.2.2.1,wrap .u8 (bits .u64 .and (A0i .u64 s.1 s.2.1) 1))).bind fun y2=> some (.inl (s.1,wrap .i64 (s.2.1-1),y2,())))) (some (.inr (s.2.2.1,())))
def a0H(x:(Z6×Int×Int)):Option Z15:= (show Option (Int×Int×Bool×Z18)from cond (decide (x.2.2<0)) (some (x.2.1,x.2.2,true,x.1,())) (cond (decide (x.2.2 > 64)) (some (x.2.1,x.2.2,true,x.1,())) (cond (decide (x.2.2<0)) none (some (x.2.1,x.2.2,(A0i .u64 x.2.1 x.2.2) != 0,x.1,()))))).bind fun z1=> cond z1.2.2.1 (some (1,z1.2.2.2.1)) ((y0m a3Y (z1.1,wrap .i64 (z1.2.1-1),z1.2.2.2.1,())).bind fun w3=> some (0,w3.1))
def a2O:FSem:=⟨[.r false (.b Q9),.v (.int .u64),.v QI],[.v QI],a0H⟩
def d5S:Hints:=⟨[(58,[.sv 1 (.int .u64),.sv 7 QI,.box pinned Q9,.ptr 0 pinned []],[(.exit 0,[.box pinned Q9])])],[(6,[(.normal,[.sv 1 (.int .u64),.sv 2 QI,.sv 19 .bool,.box pinned Q9,.ptr 0 pinned []])])],[]⟩
def a2H(x:(Z6×Int×Int)):Option Z6:= cond (decide (x.2.2<0)) none ((a0H (x.1,bits .u64 .and (wrap .u64 x.2.1) (wrap .u64 ((A0h .u64 1 x.2.2)-1)),x.2.2)).bind fun y1=> some y1.2)
def b0D:FSem:=⟨[.r false (.b Q9),.v QI,.v QI],[],a2H⟩
def d5T:Hints:=⟨[],[],[]⟩
def a5R(s:Z87):Option (Z87 ⊕ Z18):= cond (decide (s.2.2.2.1<s.2.2.1)) ((m0h s.2.1 s.2.2.2.1).bind fun x6=> (a2H (s.2.2.2.2.1,x6,s.1)).bind fun y7=> some (.inl (s.1,s.2.1,s.2.2.1,wrap .i64 (s.2.2.2.1+1),y7,()))) (some (.inr (s.2.2.2.2.1,())))
def a8t(x:(Z6×a1U)):Option Z6:= (a0H (x.1,wrap .u64 (wrap .i64 ((x.2.2.2.2.2.2.1.length:Int)-1)),5)).bind fun y1=> (a0H (y1.2,wrap .u64 x.2.2.2.2.1,4)).bind fun y2=> (a1r x.2.2.2.2.2.2.1).bind fun y3=> (a0H (y2.2,wrap .u64 y3,5)).bind fun y4=> (y0m a5R (y3,x.2.2.2.2.2.2.1,(x.2.2.2.2.2.2.1.length:Int),0,y4.2,())).bind fun w8=> some w8.1
def b4Z:FSem:=⟨[.r false (.b Q9),.v Q42],[],a8t⟩
def d5U:Hints:=⟨[(254,[.sv 4 QI,.sv 27 QL,.sv 28 QI,.sv 29 QI,.box pinned Q9,.ptr 0 pinned []],[(.exit 0,[.box pinned Q9])])],[],[]⟩
def b3w(s:Z13):Option Z68:= cond (decide (s.2.2.1<s.2.1)) ((m0h s.1 s.2.2.1).bind fun x3=> (show Option Z33 from cond (decide (x3<(-1073741824))) (some (s.1,s.2.1,s.2.2.1,true,())) (some (s.1,s.2.1,s.2.2.1,decide (x3≥1073741824),()))).bind fun z4=> cond z4.2.2.2.1 (some (.inr (Sum.inr ((false,()))))) (some (.inl (z4.1,z4.2.1,wrap .i64 (z4.2.2.1+1),())))) (some (.inr (Sum.inl ())))
def a7b(x:Z2):Option Bool:= (show Option ((List Int)×(Bool×Unit))from(a7s (x.1,x.2.1)).bind fun y1=> cond (!y1) (some (x.2.2,true,())) (some (x.2.2,(x.2.2.length:Int) != (wrap .i64 (x.1-x.2.1)),()))).bind fun z2=> cond z2.2.1 (some false) ((y0m b3w (z2.1,(z2.1.length:Int),0,())).bind fun w5=> match w5 with |.inl a6=>some true |.inr b7=>some b7.1)
def b2D:FSem:=⟨[.v QI,.v QI,.v QL],[.v .bool],a7b⟩
def d5V:Hints:=⟨[(58,[.sv 21 QL,.sv 22 QI,.sv 23 QI],[(.exit 0,[]),(.ret,[.sv 6 .bool])])],[(6,[(.normal,[.sv 2 QL,.sv 20 .bool])]),(3737,[(.normal,[.sv 21 QL,.sv 22 QI,.sv 23 QI,.sv 32 .bool])])],[]⟩
def a5H(x:(List Int)):Option Int:= (a1r x).bind fun y1=> some (wrap .i64 (5+(wrap .i64 (y1*(x.length:Int)))))
def b4F:FSem:=⟨[.v QL],[.v QI],a5H⟩
def d5W:Hints:=⟨[],[],[]⟩
def a1N(x:Int):Option Bool:= cond (decide (0≤x)) (some (decide (x≤25))) (some false)
def a6D:FSem:=⟨[.v QI],[.v .bool],a1N⟩
def d5X:Hints:=⟨[],[],[]⟩
def a7v(x:Int):Option Bool:= cond (decide ((-1073741824)≤x)) (some (decide (x<1073741824))) (some false)
def b1M:FSem:=⟨[.v QI],[.v .bool],a7v⟩
def d5Y:Hints:=⟨[],[],[]⟩
def a9f(x:Int):Option Int:= (a7v x).bind fun y1=> cond (!y1) (some 0) (cond (decide (x≥0)) (some (wrap .u64 (wrap .i64 (2*x)))) (some (wrap .u64 (wrap .i64 ((wrap .i64 ((-2)*x))-1)))))
def b4G:FSem:=⟨[.v QI],[.v (.int .u64)],a9f⟩
def d5Z:Hints:=⟨[],[],[]⟩
def a7w(x:(Int×Int)):Option Int:= (show Option Z8 from(a1N x.1).bind fun y1=> cond (!y1) (some (x.1,x.2,true,())) ((a7v x.2).bind fun y2=> some (x.1,x.2,!y2,()))).bind fun z3=> cond z3.2.2.1 (some 0) ((a9f z3.2.1).bind fun y4=> cond (decide (z3.1<0)) none (cond (decide ((wrap .i64 (A0i .u64 y4 z3.1))<32)) (some (wrap .i64 ((wrap .i64 ((wrap .i64 (A0i .u64 y4 z3.1))+1))+z3.1))) (some 65)))
def b7Q:FSem:=⟨[.v QI,.v QI],[.v QI],a7w⟩
def d6a:Hints:=⟨[],[(6,[(.normal,[.sv 0 QI,.sv 1 QI,.sv 13 .bool])])],[]⟩
def a3L(s:Z49):Option (Z49 ⊕ (Int×Unit)):= cond (decide (s.2.2.2.2.1<s.2.2.2.1)) ((m0h s.2.2.1 s.2.2.2.2.1).bind fun x1=> (a7w (s.1,x1)).bind fun y2=> some (.inl (s.1,wrap .i64 (s.2.1+y2),s.2.2.1,s.2.2.2.1,wrap .i64 (s.2.2.2.2.1+1),()))) (some (.inr (s.2.1,())))
def a3j(x:(Int×(List Int))):Option Int:= (y0m a3L (x.1,0,x.2,(x.2.length:Int),0,())).bind fun w3=> some w3.1
def b2T:FSem:=⟨[.v QI,.v QL],[.v QI],a3j⟩
def d6b:Hints:=⟨[(58,[.sv 0 QI,.sv 5 QI,.sv 8 QL,.sv 9 QI,.sv 10 QI],[(.exit 0,[.sv 5 QI])])],[],[]⟩
def a1t(s:((List Int)×(Int×(Int×(Int×((List Int)×Z17)))))):Option (((List Int)×(Int×(Int×(Int×((List Int)×Z17))))) ⊕ (Int×Unit)):= cond (decide (s.2.2.2.1<s.2.2.1)) (cond ((decide (0≤s.2.2.2.1))&&(decide (s.2.2.2.1<(s.2.2.2.2.1.length:Int)))) (cond ((decide (0≤(a04 s.2.2.2.2.1 (a00 s.2.2.2.1) 0)))&&(decide ((a04 s.2.2.2.2.1 (a00 s.2.2.2.1) 0)≤(s.1.length:Int)))) (cond ((decide (0≤(a04 s.2.2.2.2.1 (a00 s.2.2.2.1) 0)))&&(decide ((a04 s.2.2.2.2.1 (a00 s.2.2.2.1) 0)≤(s.1.length:Int)))) ((m0h s.2.2.2.2.2.1.2.1 s.2.2.2.1).bind fun x5=> cond (x5==31) ((a5H (a06 (a00 (a04 s.2.2.2.2.1 (a00 s.2.2.2.1) 0)) s.1)).bind fun y6=> some (.inl (a20 (a00 (a04 s.2.2.2.2.1 (a00 s.2.2.2.1) 0)) (a06 (a01 s.1) s.1),wrap .i64 (s.2.1+(wrap .i64 (5+y6))),s.2.2.1,wrap .i64 (s.2.2.2.1+1),s.2.2.2.2.1,s.2.2.2.2.2.1,()))) ((m0h s.2.2.2.2.2.1.2.1 s.2.2.2.1).bind fun x7=> (a3j (x7,a06 (a00 (a04 s.2.2.2.2.1 (a00 s.2.2.2.1) 0)) s.1)).bind fun y8=> some (.inl (a20 (a00 (a04 s.2.2.2.2.1 (a00 s.2.2.2.1) 0)) (a06 (a01 s.1) s.1),wrap .i64 (s.2.1+(wrap .i64 (5+y8))),s.2.2.1,wrap .i64 (s.2.2.2.1+1),s.2.2.2.2.1,s.2.2.2.2.2.1,())))) none) none) none) (some (.inr (s.2.1,())))
def a4y(x:(Z5×Z2)):Option Int:= (show Option (Int×(Int×((List Int)×(Bool×Z17))))from(a9a (x.1,x.2.1,x.2.2.1)).bind fun y1=> cond (!y1) (some (x.2.1,x.2.2.1,x.2.2.2,true,x.1,())) ((a7b (x.2.1,x.2.2.1,x.2.2.2)).bind fun y2=> some (x.2.1,x.2.2.1,x.2.2.2,!y2,x.1,()))).bind fun z3=> cond z3.2.2.2.1 (some 0) ((a2R (z3.2.2.2.2.1.1,z3.1,z3.2.1)).bind fun y4=> (y0m a1t (z3.2.2.1,4,(y4.length:Int),0,y4,z3.2.2.2.2.1,())).bind fun w9=> some w9.1)
def b3x:FSem:=⟨[.v Q11,.v QI,.v QI,.v QL],[.v QI],a4y⟩
def d6c:Hints:=⟨[(122,[.sv 3 QL,.sv 9 QI,.sv 30 QI,.sv 31 QI,.own 29 1029 QI,.vp 4 Q11],[(.exit 0,[.sv 9 QI])])],[(6,[(.normal,[.sv 1 QI,.sv 2 QI,.sv 3 QL,.sv 24 .bool,.vp 4 Q11])])],[]⟩
def a3k(s:Z52):Option (Z52 ⊕ Z18):= cond (decide (s.2.1<s.1)) ((a2b (s.2.2.1,0)).bind fun y2=> some (.inl (s.1,wrap .i64 (s.2.1+1),y2,()))) (some (.inr (s.2.2.1,())))
def a2o(x:(Z6×Int)):Option Z15:= (show Option (Int×Bool×Z18)from cond (decide (x.2<0)) (some (x.2,true,x.1,())) (some (x.2,decide (x.2 > 4096),x.1,()))).bind fun z1=> cond z1.2.1 (some (1,z1.2.2.1)) ((y0m a3k (z1.1,0,z1.2.2.1,())).bind fun w3=> (a2b (w3.1,1)).bind fun y4=> some (0,y4))
def b1h:FSem:=⟨[.r false (.b Q9),.v QI],[.v QI],a2o⟩
def d6d:Hints:=⟨[(58,[.sv 11 QI,.sv 12 QI,.box pinned Q9,.ptr 0 pinned []],[(.exit 0,[.box pinned Q9,.ptr 0 pinned []])])],[(6,[(.normal,[.sv 1 QI,.sv 10 .bool,.box pinned Q9,.ptr 0 pinned []])])],[]⟩
def a9s(s:(Int×((List Int)×Z77))):Option ((Int×((List Int)×Z77)) ⊕ ((Int×((List Int)×Z18)) ⊕ Z34)):= cond (decide (s.2.2.2.2.1<s.2.2.2.1)) ((m0h s.2.2.1 s.2.2.2.2.1).bind fun x2=> (a7v x2).bind fun y3=> cond (!y3) (some (.inr (Sum.inr ((1,s.2.2.2.2.2.1,()))))) (some (.inl (s.1,s.2.1,s.2.2.1,s.2.2.2.1,wrap .i64 (s.2.2.2.2.1+1),s.2.2.2.2.2.1,())))) (some (.inr (Sum.inl (s.1,s.2.1,s.2.2.2.2.2.1,()))))
def a7c(s:Z87):Option (Z87 ⊕ Z18):= cond (decide (s.2.2.2.1<s.2.2.1)) ((m0h s.2.1 s.2.2.2.1).bind fun x7=> (a9f x7).bind fun y8=> cond (decide (s.1<0)) none (cond (decide ((A0i .u64 y8 s.1)<32)) ((a2o (s.2.2.2.2.1,wrap .i64 (A0i .u64 y8 s.1))).bind fun y9=> cond (decide (s.1<0)) none ((a0H (y9.2,wrap .u64 (y8-(A0h .u64 (A0i .u64 y8 s.1) s.1)),s.1)).bind fun y10=> some (.inl (s.1,s.2.1,s.2.2.1,wrap .i64 (s.2.2.2.1+1),y10.2,())))) ((a2o (s.2.2.2.2.1,32)).bind fun y11=> (a0H (y11.2,y8,32)).bind fun y12=> some (.inl (s.1,s.2.1,s.2.2.1,wrap .i64 (s.2.2.2.1+1),y12.2,()))))) (some (.inr (s.2.2.2.2.1,())))
def b2U(x:(Z6×(Int×(List Int)))):Option Z15:= (a1N x.2.1).bind fun y1=> cond (!y1) (some (1,x.1)) ((y0m a9s (x.2.1,x.2.2,x.2.2,(x.2.2.length:Int),0,x.1,())).bind fun w4=> match w4 with |.inl a5=>((y0m a7c (a5.1,a5.2.1,(a5.2.1.length:Int),0,a5.2.2.1,())).bind fun w13=> some (0,w13.1)) |.inr b6=>some (b6.1,b6.2.1))
def b9h:FSem:=⟨[.r false (.b Q9),.v QI,.v QL],[.v QI],b2U⟩
def d6e:Hints:=⟨[(58,[.sv 1 QI,.sv 2 QL,.sv 16 QL,.sv 17 QI,.sv 18 QI,.box pinned Q9,.ptr 0 pinned []],[(.exit 0,[.sv 1 QI,.sv 2 QL,.box pinned Q9,.ptr 0 pinned []]),(.ret,[.sv 6 QI,.box pinned Q9])]),(122,[.sv 1 QI,.sv 26 QL,.sv 27 QI,.sv 28 QI,.box pinned Q9,.ptr 0 pinned []],[(.exit 2,[.box pinned Q9])])],[],[]⟩
def a8u(s:((List Int)×(Int×Int×Int×c2R))):Option (((List Int)×(Int×Int×Int×c2R)) ⊕ c2R):= cond (decide (s.2.2.2.2.2.2.1<s.2.2.2.2.2.1)) ((m0h s.2.2.2.2.1 s.2.2.2.2.2.2.1).bind fun x11=> cond (decide (s.2.1<0)) none ((a0H (s.2.2.2.2.2.2.2.2.1,bits .u64 .and (wrap .u64 x11) (wrap .u64 ((A0h .u64 1 s.2.1)-1)),s.2.1)).bind fun y12=> some (.inl (s.1,s.2.1,s.2.2.1,s.2.2.2.1,s.2.2.2.2.1,s.2.2.2.2.2.1,wrap .i64 (s.2.2.2.2.2.2.1+1),s.2.2.2.2.2.2.2.1,y12.2,s.2.2.2.2.2.2.2.2.2.1,())))) (some (.inr (s.1,s.2.2.1,s.2.2.2.1,s.2.2.2.2.2.2.2.1,s.2.2.2.2.2.2.2.2.1,s.2.2.2.2.2.2.2.2.2.1,())))
def a4q(s:c2R):Option (c2R ⊕ Z18):= cond (decide (s.2.2.1<s.2.1)) (cond ((decide (0≤s.2.2.1))&&(decide (s.2.2.1<(s.2.2.2.1.length:Int)))) (cond ((decide (0≤(a04 s.2.2.2.1 (a00 s.2.2.1) 0)))&&(decide ((a04 s.2.2.2.1 (a00 s.2.2.1) 0)≤(s.1.length:Int)))) (cond ((decide (0≤(a04 s.2.2.2.1 (a00 s.2.2.1) 0)))&&(decide ((a04 s.2.2.2.1 (a00 s.2.2.1) 0)≤(s.1.length:Int)))) ((m0h s.2.2.2.2.2.1.2.1 s.2.2.1).bind fun x4=> (a0H (s.2.2.2.2.1,wrap .u64 x4,5)).bind fun y5=> (m0h s.2.2.2.2.2.1.2.1 s.2.2.1).bind fun x6=> cond (x6 != 31) ((m0h s.2.2.2.2.2.1.2.1 s.2.2.1).bind fun x7=> (b2U (y5.2,x7,a06 (a00 (a04 s.2.2.2.1 (a00 s.2.2.1) 0)) s.1)).bind fun y8=> some (.inl (a20 (a00 (a04 s.2.2.2.1 (a00 s.2.2.1) 0)) (a06 (a01 s.1) s.1),s.2.1,wrap .i64 (s.2.2.1+1),s.2.2.2.1,y8.2,s.2.2.2.2.2.1,()))) ((a1r (a06 (a00 (a04 s.2.2.2.1 (a00 s.2.2.1) 0)) s.1)).bind fun y9=> (a0H (y5.2,wrap .u64 y9,5)).bind fun y10=> (y0m a8u (a20 (a00 (a04 s.2.2.2.1 (a00 s.2.2.1) 0)) (a06 (a01 s.1) s.1),y9,s.2.1,s.2.2.1,a06 (a00 (a04 s.2.2.2.1 (a00 s.2.2.1) 0)) s.1,((a01 (a06 (a00 (a04 s.2.2.2.1 (a00 s.2.2.1) 0)) s.1):Nat):Int),0,s.2.2.2.1,y10.2,s.2.2.2.2.2.1,())).bind fun w13=> some (.inl (w13.1,w13.2.1,wrap .i64 (w13.2.2.1+1),w13.2.2.2.1,w13.2.2.2.2.1,w13.2.2.2.2.2.1,())))) none) none) none) (some (.inr (s.2.2.2.2.1,())))
def b1N(x:(Z6×Z5×Z2)):Option Z15:= (a4y (x.2.1,x.2.2.1,x.2.2.2.1,x.2.2.2.2)).bind fun y1=> cond (y1==0) (some (1,x.1)) ((a0H (x.1,wrap .u64 x.2.1.1,4)).bind fun y2=> (a2R (x.2.1.1,x.2.2.1,x.2.2.2.1)).bind fun y3=> (y0m a4q (x.2.2.2.2,(y3.length:Int),0,y3,y2.2,x.2.1,())).bind fun w14=> some (0,w14.1))
def b7R:FSem:=⟨[.r false (.b Q9),.v Q11,.v QI,.v QI,.v QL],[.v QI],b1N⟩
def d6f:Hints:=⟨[(122,[.sv 4 QL,.sv 33 QI,.sv 34 QI,.own 32 1032 QI,.box pinned Q9,.ptr 0 pinned [],.vp 6 Q11],[(.exit 0,[.box pinned Q9])]),(2005502,[.sv 4 QL,.sv 14 QI,.sv 33 QI,.sv 34 QI,.sv 73 QL,.sv 74 QI,.sv 75 QI,.own 32 1032 QI,.box pinned Q9,.ptr 0 pinned [],.vp 6 Q11],[(.exit 2,[.sv 4 QL,.sv 33 QI,.sv 34 QI,.own 32 1032 QI,.box pinned Q9,.ptr 0 pinned [],.vp 6 Q11])])],[],[]⟩
def b0E(s:(Int×(Int×((List Int)×c5u)))):Option ((Int×(Int×((List Int)×c5u))) ⊕ b4z):= cond (decide (s.2.2.2.1<3)) ((m0h s.2.2.1 s.2.2.2.1).bind fun x8=> (a2H (s.2.2.2.2.1,x8,8)).bind fun y9=> some (.inl (s.1,s.2.1,s.2.2.1,wrap .i64 (s.2.2.2.1+1),y9,s.2.2.2.2.2.1,()))) (some (.inr (s.1,s.2.1,s.2.2.2.2.1,s.2.2.2.2.2.1,())))
def b0F(s:(Int×Int×Z4×b4z)):Option ((Int×Int×Z4×b4z) ⊕ b4z):= cond (decide (s.2.2.2.2.1<s.2.2.2.1)) ((m0h s.2.2.1 s.2.2.2.2.1).bind fun x18=> (a0H (s.2.2.2.2.2.1,wrap .u64 (wrap .i64 (x18.1-1)),5)).bind fun y19=> (a0H (y19.2,wrap .u64 x18.2.1,4)).bind fun y20=> some (.inl (s.1,s.2.1,s.2.2.1,s.2.2.2.1,wrap .i64 (s.2.2.2.2.1+1),y20.2,s.2.2.2.2.2.2.1,()))) (some (.inr (s.1,s.2.1,s.2.2.2.2.2.1,s.2.2.2.2.2.2.1,())))
def b0G(s:(Int×(Int×((List Int)×b4z)))):Option ((Int×(Int×((List Int)×b4z))) ⊕ c5u):= cond (decide (s.2.2.2.2.1<s.2.2.2.1)) ((m0h s.2.2.1 s.2.2.2.2.1).bind fun x23=> (a2H (s.2.2.2.2.2.1,x23,s.2.1)).bind fun y24=> some (.inl (s.1,s.2.1,s.2.2.1,s.2.2.2.1,wrap .i64 (s.2.2.2.2.1+1),y24,s.2.2.2.2.2.2.1,()))) (some (.inr (s.1,s.2.2.2.2.2.1,s.2.2.2.2.2.2.1,())))
def a9M(x:(Z6×b4y)):Option Z15:= (a9L (x.2.1,x.2.2)).bind fun y1=> cond (!y1) (some (1,x.1)) ((a1r x.2.1.2.2.2.2.2.2.2.2.1).bind fun y2=> (a0H (x.1,wrap .u64 x.2.1.1,3)).bind fun y3=> (a0H (y3.2,wrap .u64 x.2.1.2.1,5)).bind fun y4=> (a0H (y4.2,wrap .u64 y2,5)).bind fun y5=> (show Option b4z from(show Option (b4z ⊕ (b4z ⊕ b4z))from cond (x.2.1.1==2) ((a0H (y5.2,wrap .u64 x.2.1.2.2.1,3)).bind fun y6=> some (Sum.inr (Sum.inl (x.2.2,y2,y6.2,x.2.1,())))) (cond (x.2.1.1==4) ((a0H (y5.2,wrap .u64 (wrap .i64 (x.2.1.2.2.2.2.1-1)),10)).bind fun y7=> (y0m b0E (x.2.2,y2,x.2.1.2.2.2.2.2.2.1,0,y7.2,x.2.1,())).bind fun w10=> some (Sum.inl (w10.1,w10.2.1,w10.2.2.1,w10.2.2.2.1,()))) (cond (x.2.1.1==3) (some (Sum.inl (x.2.2,y2,y5.2,x.2.1,()))) (cond (x.2.1.1==5) (some (Sum.inr (Sum.inr ((x.2.2,y2,y5.2,x.2.1,()))))) (some (Sum.inr (Sum.inl (x.2.2,y2,y5.2,x.2.1,())))))))).bind fun z11=> match z11 with |.inl a12=>((a8t (a12.2.2.1,a12.2.2.2.1)).bind fun y14=> some (a12.1,a12.2.1,y14,a12.2.2.2.1,())) |.inr b13=>(match b13 with |.inl a15=>some (a15.1,a15.2.1,a15.2.2.1,a15.2.2.2.1,()) |.inr b16=>((a0H (b16.2.2.1,wrap .u64 (b16.2.2.2.1.2.2.2.2.2.2.2.1.length:Int),2)).bind fun y17=> (y0m b0F (b16.1,b16.2.1,b16.2.2.2.1.2.2.2.2.2.2.2.1,(b16.2.2.2.1.2.2.2.2.2.2.2.1.length:Int),0,y17.2,b16.2.2.2.1,())).bind fun w21=> some (w21.1,w21.2.1,w21.2.2.1,w21.2.2.2.1,())))).bind fun z22=> (y0m b0G (z22.1,z22.2.1,z22.2.2.2.1.2.2.2.2.2.2.2.2.1,(z22.2.2.2.1.2.2.2.2.2.2.2.2.1.length:Int),0,z22.2.2.1,z22.2.2.2.1,())).bind fun w25=> (a5Z w25.2.2.1.1).bind fun y26=> cond (!y26) (some (0,w25.2.1)) ((b1N (w25.2.1,w25.2.2.1.2.2.2.2.2.2.2.2.2.1,w25.1,(w25.2.2.1.2.2.2.2.2.2.2.2.1.length:Int),w25.2.2.1.2.2.2.2.2.2.2.2.2.2.1)).bind fun y27=> some (y27.1,y27.2)))
def b6Q:FSem:=⟨[.r false (.b Q9),.v Q42,.v QI],[.v QI],a9M⟩
def H62:Hints:=⟨[(2042,[.sv 2 QI,.sv 7 QI,.sv 94 QL,.sv 95 QI,.sv 96 QI,.box pinned Q9,.ptr 0 pinned [],.vp 4 Q42],[(.exit 9,[.sv 2 QI,.box pinned Q9,.ptr 0 pinned [],.vp 4 Q42])]),(32598,[.sv 2 QI,.sv 7 QI,.sv 75 (.list false Q3),.sv 76 QI,.sv 77 QI,.box pinned Q9,.ptr 0 pinned [],.vp 4 Q42],[(.exit 7,[.sv 2 QI,.sv 7 QI,.box pinned Q9,.ptr 0 pinned [],.vp 4 Q42])]),(260622,[.sv 2 QI,.sv 7 QI,.sv 57 (.arr 3 QI),.sv 58 QI,.box pinned Q9,.ptr 0 pinned [],.vp 4 Q42],[(.exit 5,[.sv 2 QI,.sv 7 QI,.box pinned Q9,.ptr 0 pinned [],.vp 4 Q42])])],[(127,[(.normal,[.sv 2 QI,.sv 7 QI,.box pinned Q9,.ptr 0 pinned [],.vp 4 Q42])]),(4072,[(.normal,[.sv 2 QI,.sv 7 QI,.box pinned Q9,.ptr 0 pinned [],.vp 4 Q42]),(.exit 0,[.sv 2 QI,.sv 7 QI,.box pinned Q9,.ptr 0 pinned [],.vp 4 Q42]),(.exit 4,[.sv 2 QI,.sv 7 QI,.box pinned Q9,.ptr 0 pinned [],.vp 4 Q42])])],[]⟩
def a3l(s:Z18):Option (Z18 ⊕ Z18):= cond ((a05 s.1.2.1 8) != 0) ((a2b (s.1,0)).bind fun y2=> some (.inl (y2,()))) (some (.inr (s.1,())))
def a4L(x:Z6):Option Z6:= (y0m a3l (x,())).bind fun w3=> some w3.1
def b1i:FSem:=⟨[.r false (.b Q9)],[],a4L⟩
def H63:Hints:=⟨[(2,[.box pinned Q9,.ptr 0 pinned []],[(.exit 0,[.box pinned Q9])])],[],[]⟩
def a4M(x:Z6):Option ((List Int)×Z6):= cond (lim (a01 x.1)) (some (x.1,x)) none
def b1j:FSem:=⟨[.r false (.b Q9)],[.o (.int .u8)],a4M⟩
def H64:Hints:=⟨[],[],[]⟩
def a8v(s:Z57):Option (Z57 ⊕ Z57):= cond (decide (s.1≥128)) (cond (lim ((a01 s.2.2.2.2.1)+1)) (some (.inl (wrap .u64 (a07 s.1 128),s.2.1,s.2.2.1,s.2.2.2.1,a03 s.2.2.2.2.1 [wrap .u8 ((wrap .u8 (a05 s.1 128))+128)],()))) none) (some (.inr (s.1,s.2.1,s.2.2.1,s.2.2.2.1,s.2.2.2.2.1,())))
def a8w(s:Z40):Option (Z40 ⊕ ((List Int)×Unit)):= cond (decide (s.2.2.1<s.2.1)) ((m0h s.1 s.2.2.1).bind fun x1=> (y0m a8v (x1,s.1,s.2.1,s.2.2.1,s.2.2.2.1,())).bind fun w2=> cond (lim ((a01 w2.2.2.2.2.1)+1)) (some (.inl (w2.2.1,w2.2.2.1,wrap .i64 (w2.2.2.2.1+1),a03 w2.2.2.2.2.1 [wrap .u8 w2.1],()))) none) (some (.inr (s.2.2.2.1,())))
def a9g(x:(List Int)):Option (List Int):= (y0m a8w (x,(x.length:Int),0,[],())).bind fun w3=> some w3.1
def b4H:FSem:=⟨[.v (.list false (.int .u64))],[.o (.int .u8)],a9g⟩
def H88:Hints:=⟨[(58,[.sv 6 (.list false (.int .u64)),.sv 7 QI,.sv 8 QI,.own 3 3 (.int .u8)],[(.exit 0,[.own 3 3 (.int .u8)])]),(14948,[.sv 5 (.int .u64),.sv 6 (.list false (.int .u64)),.sv 7 QI,.sv 8 QI,.own 3 3 (.int .u8)],[(.exit 2,[.sv 5 (.int .u64),.sv 6 (.list false (.int .u64)),.sv 7 QI,.sv 8 QI,.own 3 3 (.int .u8)])])],[],[]⟩
def b1O(x:Int):Option Int:= cond (decide (x≥0)) (some (wrap .u64 (2*(wrap .u64 x)))) (some (wrap .u64 ((wrap .u64 (2*(wrap .u64 (wrap .i64 (0-(wrap .i64 (x+1)))))))+1)))
def b7S:FSem:=⟨[.v QI],[.v (.int .u64)],b1O⟩
def d6g:Hints:=⟨[],[],[]⟩
def b0H(s:Z51):Option (Z51 ⊕ Z29):= cond (decide (s.2.2.2.2.1<8)) (cond ((A0i .u8 s.1 7)==1) (some (.inl (bits .u8 .xor (A0h .u8 s.1 1) 7,s.2.1,s.2.2.1,s.2.2.2.1,wrap .i64 (s.2.2.2.2.1+1),()))) (some (.inl (A0h .u8 s.1 1,s.2.1,s.2.2.1,s.2.2.2.1,wrap .i64 (s.2.2.2.2.1+1),())))) (some (.inr (s.1,s.2.1,s.2.2.1,s.2.2.2.1,())))
def a7K(s:Z29):Option Z64:= cond (decide (s.2.2.2.1<s.2.2.1)) ((m0h s.2.1 s.2.2.2.1).bind fun x1=> (y0m b0H (bits .u8 .xor s.1 x1,s.2.1,s.2.2.1,s.2.2.2.1,0,())).bind fun w2=> some (.inl (w2.1,w2.2.1,w2.2.2.1,wrap .i64 (w2.2.2.2.1+1),()))) (some (.inr (s.1,())))
def a7Z(x:(List Int)):Option Int:= (y0m a7K (0,x,(x.length:Int),0,())).bind fun w3=> some w3.1
def b3y:FSem:=⟨[.v (.list false (.int .u8))],[.v (.int .u8)],a7Z⟩
def d6h:Hints:=⟨[(58,[.sv 3 (.int .u8),.sv 7 (.list false (.int .u8)),.sv 8 QI,.sv 9 QI],[(.exit 0,[.sv 3 (.int .u8)])]),(29902,[.sv 3 (.int .u8),.sv 7 (.list false (.int .u8)),.sv 8 QI,.sv 9 QI,.sv 16 QI],[(.exit 2,[.sv 3 (.int .u8),.sv 7 (.list false (.int .u8)),.sv 8 QI,.sv 9 QI])])],[],[]⟩
def a5j(s:(Int×Z12×Z14)):Option ((Int×Z12×Z14) ⊕ Z5):= cond (decide (s.2.2.2.1<s.2.2.1)) ((m0h s.2.1 s.2.2.2.1).bind fun x1=> (b1O x1.2.2.1).bind fun y2=> cond (lim ((a01 s.2.2.2.2.1)+3)) (some (.inl (s.1,s.2.1,s.2.2.1,wrap .i64 (s.2.2.2.1+1),a03 s.2.2.2.2.1 [wrap .u64 x1.1,wrap .u64 x1.2.1,y2],()))) none) (some (.inr (s.1,s.2.2.2.2.1,())))
def a7L(x:(a3r×Int)):Option (List Int):= (y0m a5j (x.2,x.1.2.2.2.1,(x.1.2.2.2.1.length:Int),0,([wrap .u64 x.1.1,wrap .u64 x.1.2.1,wrap .u64 x.1.2.2.1.1,wrap .u64 x.1.2.2.1.2.1,wrap .u64 x.1.2.2.1.2.2.1,wrap .u64 (x.1.2.2.2.1.length:Int)]:List Int),())).bind fun w3=> cond (lim ((a01 w3.2.1)+1)) ((a9g (a03 w3.2.1 [wrap .u64 w3.1])).bind fun y4=> cond (lim (2+(a01 y4))) ((a7Z (a03 [245,75] y4)).bind fun y5=> cond (lim ((a01 (a03 [245,75] y4))+1)) (some (a03 (a03 [245,75] y4) [y5])) none) none) none
def b4c:FSem:=⟨[.v Q60,.v QI],[.o (.int .u8)],a7L⟩
def H65:Hints:=⟨[(58,[.sv 1 QI,.sv 33 (.list false Q12),.sv 34 QI,.sv 35 QI,.own 5 5 (.int .u64)],[(.exit 0,[.sv 1 QI,.own 5 5 (.int .u64)])])],[],[(5,[.q,.q,.q,.v,.q,.q,.v,.q,.q,.v,.q,.x,.x])]⟩
def a2S(x:Int):Option Int:= some (v0n (v0m x 0) 8)
def b2E:FSem:=⟨[.v QI],[.v QI],a2S⟩
def d6i:Hints:=⟨[],[],[]⟩
def a1O(s:Z31):Option (Z31 ⊕ ((List Int)×Unit)):= cond (decide (s.2.2.1<s.2.1)) (cond (lim ((a01 s.2.2.2.1)+1)) (some (.inl (wrap .u64 (a07 s.1 256),s.2.1,wrap .i64 (s.2.2.1+1),a03 s.2.2.2.1 [wrap .u8 (a05 s.1 256)],()))) none) (some (.inr (s.2.2.2.1,())))
def a5a(x:(Int×Int)):Option (List Int):= (a2S x.2).bind fun y1=> (y0m a1O (x.1,y1,0,[],())).bind fun w2=> some w2.1
def b6u:FSem:=⟨[.v (.int .u64),.v QI],[.o (.int .u8)],a5a⟩
def d6j:Hints:=⟨[(58,[.sv 0 (.int .u64),.sv 7 QI,.sv 8 QI,.own 5 5 (.int .u8)],[(.exit 0,[.own 5 5 (.int .u8)])])],[],[]⟩
def a1L(x:(List Int)):Option (List Int):= cond (decide (a01 x<2147483648)) (some (List.reverse x)) none
def a5O:FSem:=⟨[.r false (.o (.int .u8))],[],a1L⟩
def a4h(x:(Int×Int)):Option (List Int):= (a5a (x.1,x.2)).bind fun y1=> (a1L y1).bind fun y2=> some y2
def b4I:FSem:=⟨[.v (.int .u64),.v QI],[.o (.int .u8)],a4h⟩
def H66:Hints:=⟨[],[],[]⟩
def a8Q(s:Z51):Option (Z51 ⊕ Z29):= cond (decide (s.2.2.2.2.1<8)) (cond ((A0i .u16 s.1 15)==1) (some (.inl (bits .u16 .xor (A0h .u16 s.1 1) 32773,s.2.1,s.2.2.1,s.2.2.2.1,wrap .i64 (s.2.2.2.2.1+1),()))) (some (.inl (A0h .u16 s.1 1,s.2.1,s.2.2.1,s.2.2.2.1,wrap .i64 (s.2.2.2.2.1+1),())))) (some (.inr (s.1,s.2.1,s.2.2.1,s.2.2.2.1,())))
def a5S(s:Z29):Option Z64:= cond (decide (s.2.2.2.1<s.2.2.1)) ((m0h s.2.1 s.2.2.2.1).bind fun x1=> (y0m a8Q (bits .u16 .xor s.1 (A0h .u16 (wrap .u16 x1) 8),s.2.1,s.2.2.1,s.2.2.2.1,0,())).bind fun w2=> some (.inl (w2.1,w2.2.1,w2.2.2.1,wrap .i64 (w2.2.2.2.1+1),()))) (some (.inr (s.1,())))
def a6d(x:(List Int)):Option Int:= (y0m a5S (0,x,(x.length:Int),0,())).bind fun w3=> some w3.1
def b1q:FSem:=⟨[.v (.list false (.int .u8))],[.v (.int .u16)],a6d⟩
def H67:Hints:=⟨[(58,[.sv 3 (.int .u16),.sv 7 (.list false (.int .u8)),.sv 8 QI,.sv 9 QI],[(.exit 0,[.sv 3 (.int .u16)])]),(29902,[.sv 3 (.int .u16),.sv 7 (.list false (.int .u8)),.sv 8 QI,.sv 9 QI,.sv 18 QI],[(.exit 2,[.sv 3 (.int .u16),.sv 7 (.list false (.int .u8)),.sv 8 QI,.sv 9 QI])])],[],[]⟩
def a8x(s:(b2v×Int×Int×Z6×b4A)):Option ((b2v×Int×Int×Z6×b4A) ⊕ ((Z6×b4A) ⊕ Z5)):= cond (decide (s.2.2.1<s.2.1)) ((m0h s.1 s.2.2.1).bind fun x2=> (a9M (s.2.2.2.1,x2,s.2.2.2.2.1.2.1)).bind fun y3=> cond (y3.1 != 0) (some (.inr (Sum.inr ((y3.1,[],()))))) (some (.inl (s.1,s.2.1,wrap .i64 (s.2.2.1+1),y3.2,s.2.2.2.2.1,())))) (some (.inr (Sum.inl (s.2.2.2.1,s.2.2.2.2.1,()))))
def a5I(x:a3r):Option ((List Int)×Int):= (a4g x).bind fun y1=> cond (!y1) (some ([],1)) ((y0m a8x (x.2.2.2.2.1,(x.2.2.2.2.1.length:Int),0,([],0,()),x,())).bind fun w4=> match w4 with |.inl a5=>((a4L a5.1).bind fun y7=> (a4M y7).bind fun y8=> (a7L (a5.2.1,(y8.1.length:Int))).bind fun y9=> cond (lim ((a01 y9)+(a01 y8.1))) ((a6d (a03 y9 y8.1)).bind fun y10=> (a4h (wrap .u64 y10,2)).bind fun y11=> cond (lim ((a01 (a03 y9 y8.1))+(a01 y11))) (some (a03 (a03 y9 y8.1) y11,0)) none) none) |.inr b6=>some (b6.2.1,b6.1))
def b4J:FSem:=⟨[.v Q60],[.o (.int .u8),.v QI],a5I⟩
def H19:Hints:=⟨[(122,[.sv 14 (.list false Q42),.sv 15 QI,.sv 16 QI,.box 4 Q9,.vp 1 Q60,.ptr 4 4 []],[(.exit 0,[.box 4 Q9,.vp 1 Q60,.ptr 4 4 []]),(.ret,[.sv 3 QI,.own 2 2 (.int .u8)])])],[],[]⟩
def a5T(x:(Int×Int)):Option (Int×Int):= some (wrap .u64 ((wrap .u64 ((wrap .u64 ((A0i .u64 x.1 32)*(A0i .u64 x.2 32)))+(A0i .u64 (wrap .u64 ((wrap .u64 ((A0i .u64 x.1 32)*(bits .u64 .and x.2 4294967295)))+(A0i .u64 (wrap .u64 ((bits .u64 .and x.1 4294967295)*(bits .u64 .and x.2 4294967295))) 32))) 32)))+(A0i .u64 (wrap .u64 ((bits .u64 .and (wrap .u64 ((wrap .u64 ((A0i .u64 x.1 32)*(bits .u64 .and x.2 4294967295)))+(A0i .u64 (wrap .u64 ((bits .u64 .and x.1 4294967295)*(bits .u64 .and x.2 4294967295))) 32))) 4294967295)+(wrap .u64 ((bits .u64 .and x.1 4294967295)*(A0i .u64 x.2 32))))) 32)),wrap .u64 (x.1*x.2))
def b2I:FSem:=⟨[.v (.int .u64),.v (.int .u64)],[.v (.int .u64),.v (.int .u64)],a5T⟩
def d6k:Hints:=⟨[],[],[]⟩
def a8R(x:(Int×Int×Int)):Option (Int×Int):= cond (decide (x.2.2.toNat≤1)) (some ((((x.1.toNat+x.2.1.toNat+x.2.2.toNat)%18446744073709551616:Nat):Int),(((x.1.toNat+x.2.1.toNat+x.2.2.toNat) / 18446744073709551616:Nat):Int))) none
def b2J:FSem:=⟨[.v (.int .u64),.v (.int .u64),.v (.int .u64)],[.v (.int .u64),.v (.int .u64)],a8R⟩
def d1M:Hints:=⟨[],[(3,[(.normal,[.sv 0 (.int .u64),.sv 2 QI])]),(7,[(.normal,[.sv 0 (.int .u64),.sv 2 QI])]),(15,[(.normal,[.sv 0 (.int .u64),.sv 2 QI])])],[]⟩
def b2K(x:Int):Option Int:=A0d (a9T [] [] [0,2] []) d1M Tryz.f324 [.v (.int .u64)] [.v (.int .i64)] x
def b2L:FSem:=⟨[.v (.int .u64)],[.v QI],b2K⟩
def a3M(x:Int):Option Int:= (b2K x).bind fun y1=> some (wrap .i64 (64-y1))
def a7d:FSem:=⟨[.v (.int .u64)],[.v QI],a3M⟩
def d6l:Hints:=⟨[],[],[]⟩
def a1W(s:Z89):Option (Z89 ⊕ Z80):= (show Option (Z89 ⊕ Z80)from cond (decide (s.2.2.2.2.2.2.2.1≥4294967296)) (some (Sum.inl (s.1,s.2.1,s.2.2.1,s.2.2.2.1,s.2.2.2.2.1,s.2.2.2.2.2.1,s.2.2.2.2.2.2.1,s.2.2.2.2.2.2.2.1,s.2.2.2.2.2.2.2.2.1,()))) (cond (decide ((wrap .u64 (s.2.2.2.2.2.2.2.1*s.2.2.2.1)) > (wrap .u64 ((wrap .u64 (4294967296*s.2.2.2.2.2.2.2.2.1))+s.2.2.2.2.2.1)))) (some (Sum.inl (s.1,s.2.1,s.2.2.1,s.2.2.2.1,s.2.2.2.2.1,s.2.2.2.2.2.1,s.2.2.2.2.2.2.1,s.2.2.2.2.2.2.2.1,s.2.2.2.2.2.2.2.2.1,()))) (some (Sum.inr ((s.1,s.2.1,s.2.2.1,s.2.2.2.1,s.2.2.2.2.1,s.2.2.2.2.2.1,s.2.2.2.2.2.2.1,s.2.2.2.2.2.2.2.1,())))))).bind fun z2=> match z2 with |.inl a3=>(cond (decide ((wrap .u64 (a3.2.2.2.2.2.2.2.2.1+a3.2.2.1))≥4294967296)) (some (.inr (a3.1,a3.2.1,a3.2.2.1,a3.2.2.2.1,a3.2.2.2.2.1,a3.2.2.2.2.2.1,a3.2.2.2.2.2.2.1,wrap .u64 (a3.2.2.2.2.2.2.2.1-1),()))) (some (.inl (a3.1,a3.2.1,a3.2.2.1,a3.2.2.2.1,a3.2.2.2.2.1,a3.2.2.2.2.2.1,a3.2.2.2.2.2.2.1,wrap .u64 (a3.2.2.2.2.2.2.2.1-1),wrap .u64 (a3.2.2.2.2.2.2.2.2.1+a3.2.2.1),())))) |.inr b4=>some (.inr (b4.1,b4.2.1,b4.2.2.1,b4.2.2.2.1,b4.2.2.2.2.1,b4.2.2.2.2.2.1,b4.2.2.2.2.2.2.1,b4.2.2.2.2.2.2.2.1,()))
end Go.Ab
namespace Go.Ab
open IntKind(wrap)
open Go.Proofs
set_option maxRecDepth 100000
set_option linter.unusedVariables false
def a1X(s:Z89):Option (Z89 ⊕ Z53):= (show Option (Z89 ⊕ Z53)from cond (decide (s.2.2.2.2.2.2.2.2.1≥4294967296)) (some (Sum.inl (s.1,s.2.1,s.2.2.1,s.2.2.2.1,s.2.2.2.2.1,s.2.2.2.2.2.1,s.2.2.2.2.2.2.1,s.2.2.2.2.2.2.2.1,s.2.2.2.2.2.2.2.2.1,()))) (cond (decide ((wrap .u64 (s.2.2.2.2.2.2.2.2.1*s.2.2.2.1)) > (wrap .u64 ((wrap .u64 (4294967296*s.2.2.2.2.2.2.1))+s.2.2.2.2.1)))) (some (Sum.inl (s.1,s.2.1,s.2.2.1,s.2.2.2.1,s.2.2.2.2.1,s.2.2.2.2.2.1,s.2.2.2.2.2.2.1,s.2.2.2.2.2.2.2.1,s.2.2.2.2.2.2.2.2.1,()))) (some (Sum.inr ((s.1,s.2.1,s.2.2.2.2.1,s.2.2.2.2.2.1,s.2.2.2.2.2.2.2.1,s.2.2.2.2.2.2.2.2.1,())))))).bind fun z6=> match z6 with |.inl a7=>(cond (decide ((wrap .u64 (a7.2.2.2.2.2.2.1+a7.2.2.1))≥4294967296)) (some (.inr (a7.1,a7.2.1,a7.2.2.2.2.1,a7.2.2.2.2.2.1,a7.2.2.2.2.2.2.2.1,wrap .u64 (a7.2.2.2.2.2.2.2.2.1-1),()))) (some (.inl (a7.1,a7.2.1,a7.2.2.1,a7.2.2.2.1,a7.2.2.2.2.1,a7.2.2.2.2.2.1,wrap .u64 (a7.2.2.2.2.2.2.1+a7.2.2.1),a7.2.2.2.2.2.2.2.1,wrap .u64 (a7.2.2.2.2.2.2.2.2.1-1),())))) |.inr b8=>some (.inr (b8.1,b8.2.1,b8.2.2.1,b8.2.2.2.1,b8.2.2.2.2.1,b8.2.2.2.2.2.1,()))
def a2c(x:(Int×Int×Int)):Option (Int×Int):= cond (x.2.2==0) none (cond (decide (x.2.2≤x.1)) none (cond (x.1==0) (cond (x.2.2==0) none (cond (x.2.2==0) none (some (wrap .u64 (a07 x.2.1 x.2.2),a05 x.2.1 x.2.2)))) ((a3M x.2.2).bind fun y1=> cond (decide ((wrap .u64 y1)<0)) none (cond (decide ((wrap .u64 y1)<0)) none (cond (decide ((wrap .u64 (64-(wrap .u64 y1)))<0)) none (cond (decide ((wrap .u64 y1)<0)) none (cond ((A0i .u64 (A0h .u64 x.2.2 (wrap .u64 y1)) 32)==0) none ((y0m a1W (A0h .u64 x.2.2 (wrap .u64 y1),wrap .u64 y1,A0i .u64 (A0h .u64 x.2.2 (wrap .u64 y1)) 32,bits .u64 .and (A0h .u64 x.2.2 (wrap .u64 y1)) 4294967295,bits .u64 .or (A0h .u64 x.1 (wrap .u64 y1)) (A0i .u64 x.2.1 (wrap .u64 (64-(wrap .u64 y1)))),A0i .u64 (A0h .u64 x.2.1 (wrap .u64 y1)) 32,bits .u64 .and (A0h .u64 x.2.1 (wrap .u64 y1)) 4294967295,wrap .u64 (a07 (bits .u64 .or (A0h .u64 x.1 (wrap .u64 y1)) (A0i .u64 x.2.1 (wrap .u64 (64-(wrap .u64 y1))))) (A0i .u64 (A0h .u64 x.2.2 (wrap .u64 y1)) 32)),wrap .u64 ((bits .u64 .or (A0h .u64 x.1 (wrap .u64 y1)) (A0i .u64 x.2.1 (wrap .u64 (64-(wrap .u64 y1)))))-(wrap .u64 ((wrap .u64 (a07 (bits .u64 .or (A0h .u64 x.1 (wrap .u64 y1)) (A0i .u64 x.2.1 (wrap .u64 (64-(wrap .u64 y1))))) (A0i .u64 (A0h .u64 x.2.2 (wrap .u64 y1)) 32)))*(A0i .u64 (A0h .u64 x.2.2 (wrap .u64 y1)) 32)))),())).bind fun w5=> cond (w5.2.2.1==0) none ((y0m a1X (w5.1,w5.2.1,w5.2.2.1,w5.2.2.2.1,w5.2.2.2.2.2.2.1,w5.2.2.2.2.2.2.2.1,wrap .u64 ((wrap .u64 ((wrap .u64 ((wrap .u64 (w5.2.2.2.2.1*4294967296))+w5.2.2.2.2.2.1))-(wrap .u64 (w5.2.2.2.2.2.2.2.1*w5.1))))-(wrap .u64 ((wrap .u64 (a07 (wrap .u64 ((wrap .u64 ((wrap .u64 (w5.2.2.2.2.1*4294967296))+w5.2.2.2.2.2.1))-(wrap .u64 (w5.2.2.2.2.2.2.2.1*w5.1)))) w5.2.2.1))*w5.2.2.1))),wrap .u64 ((wrap .u64 ((wrap .u64 (w5.2.2.2.2.1*4294967296))+w5.2.2.2.2.2.1))-(wrap .u64 (w5.2.2.2.2.2.2.2.1*w5.1))),wrap .u64 (a07 (wrap .u64 ((wrap .u64 ((wrap .u64 (w5.2.2.2.2.1*4294967296))+w5.2.2.2.2.2.1))-(wrap .u64 (w5.2.2.2.2.2.2.2.1*w5.1)))) w5.2.2.1),())).bind fun w9=> cond (decide (w9.2.1<0)) none (some (wrap .u64 ((wrap .u64 (w9.2.2.2.1*4294967296))+w9.2.2.2.2.2.1),A0i .u64 (wrap .u64 ((wrap .u64 ((wrap .u64 (w9.2.2.2.2.1*4294967296))+w9.2.2.1))-(wrap .u64 (w9.2.2.2.2.2.1*w9.1)))) w9.2.1)))))))))))
def b2M:FSem:=⟨[.v (.int .u64),.v (.int .u64),.v (.int .u64)],[.v (.int .u64),.v (.int .u64)],a2c⟩
def d6m:Hints:=⟨[(131068,[.sv 2 (.int .u64),.sv 8 (.int .u64),.sv 9 (.int .u64),.sv 10 (.int .u64),.sv 11 (.int .u64),.sv 13 (.int .u64),.sv 14 (.int .u64),.sv 15 (.int .u64),.sv 16 (.int .u64)],[(.exit 0,[.sv 2 (.int .u64),.sv 8 (.int .u64),.sv 9 (.int .u64),.sv 10 (.int .u64),.sv 11 (.int .u64),.sv 13 (.int .u64),.sv 14 (.int .u64),.sv 15 (.int .u64)])]),(2097148,[.sv 2 (.int .u64),.sv 8 (.int .u64),.sv 9 (.int .u64),.sv 10 (.int .u64),.sv 14 (.int .u64),.sv 15 (.int .u64),.sv 16 (.int .u64),.sv 17 (.int .u64),.sv 18 (.int .u64)],[(.exit 2,[.sv 2 (.int .u64),.sv 8 (.int .u64),.sv 14 (.int .u64),.sv 15 (.int .u64),.sv 17 (.int .u64),.sv 18 (.int .u64)])])],[(262136,[(.normal,[.sv 2 (.int .u64),.sv 8 (.int .u64),.sv 9 (.int .u64),.sv 10 (.int .u64),.sv 11 (.int .u64),.sv 13 (.int .u64),.sv 14 (.int .u64),.sv 15 (.int .u64),.sv 16 (.int .u64)]),(.exit 0,[.sv 2 (.int .u64),.sv 8 (.int .u64),.sv 9 (.int .u64),.sv 10 (.int .u64),.sv 11 (.int .u64),.sv 13 (.int .u64),.sv 14 (.int .u64),.sv 15 (.int .u64)])]),(4194296,[(.normal,[.sv 2 (.int .u64),.sv 8 (.int .u64),.sv 9 (.int .u64),.sv 10 (.int .u64),.sv 14 (.int .u64),.sv 15 (.int .u64),.sv 16 (.int .u64),.sv 17 (.int .u64),.sv 18 (.int .u64)]),(.exit 2,[.sv 2 (.int .u64),.sv 8 (.int .u64),.sv 14 (.int .u64),.sv 15 (.int .u64),.sv 17 (.int .u64),.sv 18 (.int .u64)])])],[(6,[.v,.v,.v,.v,.v,.v,.v,.x])]⟩
def a8S(x:(Int×Int×Int)):Option Int:= cond (x.2.2==0) none ((a2c (a05 x.1 x.2.2,x.2.1,x.2.2)).bind fun y1=> some y1.2)
def b2N:FSem:=⟨[.v (.int .u64),.v (.int .u64),.v (.int .u64)],[.v (.int .u64)],a8S⟩
def d6n:Hints:=⟨[],[],[]⟩
def a5J(x:(Int×Int×Int)):Option Int:= (a5T (x.1,x.2.1)).bind fun y1=> (a8R (y1.2,x.2.2,0)).bind fun y2=> (a8S (wrap .u64 (y1.1+y2.2),y2.1,2305843009213693951)).bind fun y3=> some y3
def b1P:FSem:=⟨[.v (.int .u64),.v (.int .u64),.v (.int .u64)],[.v (.int .u64)],a5J⟩
def d6o:Hints:=⟨[],[],[]⟩
def a7M(s:Z29):Option Z64:= cond (decide (s.2.2.2.1<s.2.2.1)) ((m0h s.2.1 s.2.2.2.1).bind fun x1=> (a5J (s.1,1000003,wrap .u64 ((wrap .u64 x1)+1))).bind fun y2=> some (.inl (y2,s.2.1,s.2.2.1,wrap .i64 (s.2.2.2.1+1),()))) (some (.inr (s.1,())))
def a6e(x:(List Int)):Option Int:= (y0m a7M (0,x,(x.length:Int),0,())).bind fun w3=> some w3.1
def b0I:FSem:=⟨[.v (.list false (.int .u8))],[.v (.int .u64)],a6e⟩
def H42:Hints:=⟨[(58,[.sv 3 (.int .u64),.sv 6 (.list false (.int .u8)),.sv 7 QI,.sv 8 QI],[(.exit 0,[.sv 3 (.int .u64)])])],[],[]⟩
def a6E(s:(Int×(Int×(Int×((List (List Int))×Z85))))):Option ((Int×(Int×(Int×((List (List Int))×Z85)))) ⊕ Z85):= cond (decide (s.2.2.2.2.2.1<s.2.2.2.2.1)) ((m0h s.2.2.2.1 s.2.2.2.2.2.1).bind fun x3=> (m0h x3 s.1).bind fun x4=> cond (lim ((a01 s.2.2.2.2.2.2.1)+1)) (some (.inl (s.1,s.2.1,s.2.2.1,s.2.2.2.1,s.2.2.2.2.1,wrap .i64 (s.2.2.2.2.2.1+1),a03 s.2.2.2.2.2.2.1 [x4],s.2.2.2.2.2.2.2.1,()))) none) (some (.inr (s.2.1,s.2.2.1,s.2.2.2.2.2.2.1,s.2.2.2.2.2.2.2.1,())))
def a6F(s:Z85):Option (Z85 ⊕ ((List Int)×Unit)):= cond (decide (s.2.1<s.1)) ((y0m a6E (s.2.1,s.1,s.2.1,s.2.2.2.1.2.1,(s.2.2.2.1.2.1.length:Int),0,s.2.2.1,s.2.2.2.1,())).bind fun w5=> some (.inl (w5.1,wrap .i64 (w5.2.1+1),w5.2.2.1,w5.2.2.2.1,()))) (some (.inr (s.2.2.1,())))
def a7e(x:Z10):Option (List Int):= (a4e x).bind fun y1=> cond (!y1) (some []) ((a4d x).bind fun y2=> (y0m a6F (y2,0,[],x,())).bind fun w6=> some w6.1)
def a7f:FSem:=⟨[.v Q15],[.o QI],a7e⟩
def H86:Hints:=⟨[(122,[.sv 11 QI,.sv 12 QI,.own 3 3 QI,.vp 1 Q15],[(.exit 0,[.own 3 3 QI])]),(31334,[.sv 4 QI,.sv 11 QI,.sv 12 QI,.sv 16 (.list false QL),.sv 17 QI,.sv 18 QI,.own 3 3 QI,.vp 1 Q15],[(.exit 2,[.sv 11 QI,.sv 12 QI,.own 3 3 QI,.vp 1 Q15])])],[],[]⟩
def a4z(s:(Int×(Int×(Int×((List Int)×(Int×Z31)))))):Option ((Int×(Int×(Int×((List Int)×(Int×Z31))))) ⊕ Z75):= cond (decide (s.2.2.2.2.2.2.2.1<s.2.2.2.2.2.2.1)) (cond (decide ((wrap .i64 (8*s.2.2.2.2.2.2.2.1))<0)) none (cond (lim ((a01 s.2.2.2.2.2.2.2.2.1)+1)) (some (.inl (s.1,s.2.1,s.2.2.1,s.2.2.2.1,s.2.2.2.2.1,s.2.2.2.2.2.1,s.2.2.2.2.2.2.1,wrap .i64 (s.2.2.2.2.2.2.2.1+1),a03 s.2.2.2.2.2.2.2.2.1 [wrap .u8 (bits .i64 .and (A0i .i64 s.2.2.1 (wrap .i64 (8*s.2.2.2.2.2.2.2.1))) 255)],()))) none)) (some (.inr (s.1,s.2.1,s.2.2.2.1,s.2.2.2.2.1,s.2.2.2.2.2.1,s.2.2.2.2.2.2.2.2.1,())))
def a6G(s:Z75):Option (Z75 ⊕ Z47):= cond (decide (s.2.2.2.2.1<s.2.2.2.1)) ((m0h s.2.2.1 s.2.2.2.2.1).bind fun x2=> (a1R (x2,s.1)).bind fun y3=> cond (!y3) (some (.inr (Sum.inr ((6,[],()))))) ((y0m a4z (s.1,s.2.1,x2,s.2.2.1,s.2.2.2.1,s.2.2.2.2.1,s.2.1,0,s.2.2.2.2.2.1,())).bind fun w4=> some (.inl (w4.1,w4.2.1,w4.2.2.1,w4.2.2.2.1,wrap .i64 (w4.2.2.2.2.1+1),w4.2.2.2.2.2.1,())))) (some (.inr (Sum.inl (s.2.2.2.2.2.1,()))))
def a9t(x:((List Int)×Int)):Option ((List Int)×Int):= (show Option Z16 from cond (decide (x.2<4)) (some (x.1,x.2,true,())) (some (x.1,x.2,decide (x.2 > 24),()))).bind fun z1=> cond z1.2.2.1 (some ([],1)) ((y0m a6G (z1.2.1,wrap .i64 (a07 (wrap .i64 (z1.2.1+7)) 8),z1.1,(z1.1.length:Int),0,[],())).bind fun w5=> match w5 with |.inl a6=>some (a6.1,0) |.inr b7=>some (b7.2.1,b7.1))
def b6v:FSem:=⟨[.v QL,.v QI],[.o (.int .u8),.v QI],a9t⟩
def d6p:Hints:=⟨[(250,[.sv 1 QI,.sv 6 QI,.sv 20 QL,.sv 21 QI,.sv 22 QI,.own 7 7 (.int .u8)],[(.exit 0,[.own 7 7 (.int .u8)]),(.ret,[.sv 5 QI,.own 4 4 (.int .u8)])]),(128206,[.sv 1 QI,.sv 6 QI,.sv 9 QI,.sv 20 QL,.sv 21 QI,.sv 22 QI,.sv 30 QI,.sv 31 QI,.own 7 7 (.int .u8)],[(.exit 2,[.sv 1 QI,.sv 6 QI,.sv 20 QL,.sv 21 QI,.sv 22 QI,.own 7 7 (.int .u8)])])],[(6,[(.normal,[.sv 0 QL,.sv 1 QI,.sv 16 .bool])])],[]⟩
def b0J(x:Z10):Option ((List Int)×Int):= (a4e x).bind fun y1=> cond (!y1) (some ([],1)) ((a7e x).bind fun y2=> (a9t (y2,x.1)).bind fun y3=> some (y3.1,y3.2))
def b6R:FSem:=⟨[.v Q15],[.o (.int .u8),.v QI],b0J⟩
def d6q:Hints:=⟨[],[],[(3,[.v,.q,.v,.v,.x,.q,.q,.x,.x])]⟩
def a7N(s:Z7):Option (Z7 ⊕ (Int×Unit)):= cond (decide (s.1 > 0)) ((show Option Z7 from cond ((a05 s.1 2)==1) ((a5J (s.2.1,s.2.2.1,0)).bind fun y1=> some (s.1,y1,s.2.2.1,())) (some (s.1,s.2.1,s.2.2.1,()))).bind fun z2=> (a5J (z2.2.2.1,z2.2.2.1,0)).bind fun y3=> some (.inl (wrap .i64 (a07 z2.1 2),z2.2.1,y3,()))) (some (.inr (s.2.1,())))
def b0K(x:Int):Option Int:= (y0m a7N (v0m x 0,1,1000003,())).bind fun w4=> some w4.1
def b6S:FSem:=⟨[.v QI],[.v (.int .u64)],b0K⟩
def d6r:Hints:=⟨[(58,[.sv 0 QI,.sv 3 (.int .u64),.sv 4 (.int .u64)],[(.exit 0,[.sv 3 (.int .u64)])])],[(932,[(.normal,[.sv 0 QI,.sv 3 (.int .u64),.sv 4 (.int .u64)])])],[]⟩
def b1Q(x:(Int×Int×Int)):Option (Int×Bool):= (show Option Z21 from cond (decide (x.1≥2305843009213693951)) (some (x.1,x.2.1,x.2.2,true,())) (cond (decide (x.2.1≥2305843009213693951)) (some (x.1,x.2.1,x.2.2,true,())) (some (x.1,x.2.1,x.2.2,decide (x.2.2<0),())))).bind fun z1=> cond z1.2.2.2.1 (some (0,false)) ((b0K z1.2.2.1).bind fun y2=> (a5J (z1.1,y2,z1.2.1)).bind fun y3=> some (y3,true))
def b7T:FSem:=⟨[.v (.int .u64),.v (.int .u64),.v QI],[.v (.int .u64),.v .bool],b1Q⟩
def d6s:Hints:=⟨[],[(6,[(.normal,[.sv 0 (.int .u64),.sv 1 (.int .u64),.sv 2 QI,.sv 17 .bool])])],[]⟩
def a4r(x:Z26):Option (Int×Bool):= (b0J x.2).bind fun y1=> cond (y1.2 != 0) (some (0,false)) ((a6e y1.1).bind fun y2=> (b1Q (x.1,y2,(y1.1.length:Int))).bind fun y3=> some (y3.1,y3.2))
def a8y:FSem:=⟨[.v (.int .u64),.v Q15],[.v (.int .u64),.v .bool],a4r⟩
def H97:Hints:=⟨[],[],[]⟩
def a8z(s:(Int×Int×Int×b8H×Int×Int×c5x)):Option ((Int×Int×Int×b8H×Int×Int×c5x) ⊕ ((Int×Int×c5x) ⊕ (Bool×((List (List Int))×Z42)))):= cond (decide (s.2.2.2.2.2.1<s.2.2.2.2.1)) ((m0h s.2.2.2.1 s.2.2.2.2.2.1).bind fun x3=> (show Option (Int×(Int×(Int×(Int×(b8H×(Int×(Int×(Bool×((List (List Int))×(Z22×a3r×b3r))))))))))from cond (!(eqT Q12 x3.2.2.1 s.2.2.2.2.2.2.2.2.1.1)) (some (s.1,s.2.1,s.2.2.1,s.2.2.2.2.2.1,s.2.2.2.1,s.2.2.2.2.1,s.2.2.2.2.2.1,true,s.2.2.2.2.2.2.1,s.2.2.2.2.2.2.2.1,x3,s.2.2.2.2.2.2.2.2.1,())) (some (s.1,s.2.1,s.2.2.1,s.2.2.2.2.2.1,s.2.2.2.1,s.2.2.2.2.1,s.2.2.2.2.2.1,x3.1 != s.1,s.2.2.2.2.2.2.1,s.2.2.2.2.2.2.2.1,x3,s.2.2.2.2.2.2.2.2.1,()))).bind fun z4=> cond z4.2.2.2.2.2.2.2.1 (some (.inr (Sum.inr ((false,([]:(List (List Int))),[],()))))) ((show Option (Int×(Int×(Int×(b8H×(Int×(Int×(Bool×((List (List Int))×(Z22×a3r×b3r)))))))))from(m0h z4.2.2.2.2.2.2.2.2.2.2.2.1.2.2.2.1 z4.2.2.2.1).bind fun x5=> cond (x5.1 != z4.1) (some (z4.1,z4.2.1,z4.2.2.1,z4.2.2.2.2.1,z4.2.2.2.2.2.1,z4.2.2.2.2.2.2.1,true,z4.2.2.2.2.2.2.2.2.1,z4.2.2.2.2.2.2.2.2.2.1,z4.2.2.2.2.2.2.2.2.2.2.1,z4.2.2.2.2.2.2.2.2.2.2.2.1,())) ((m0h z4.2.2.2.2.2.2.2.2.2.2.2.1.2.2.2.1 z4.2.2.2.1).bind fun x6=> some (z4.1,z4.2.1,z4.2.2.1,z4.2.2.2.2.1,z4.2.2.2.2.2.1,z4.2.2.2.2.2.2.1,x6.2.1 != z4.2.1,z4.2.2.2.2.2.2.2.2.1,z4.2.2.2.2.2.2.2.2.2.1,z4.2.2.2.2.2.2.2.2.2.2.1,z4.2.2.2.2.2.2.2.2.2.2.2.1,()))).bind fun z7=> cond z7.2.2.2.2.2.2.1 (some (.inr (Sum.inr ((false,([]:(List (List Int))),[],()))))) ((a3K z7.2.2.2.2.2.2.2.2.2.1).bind fun y8=> cond (y8.2 != 0) (some (.inr (Sum.inr ((false,([]:(List (List Int))),[],()))))) ((a5I z7.2.2.2.2.2.2.2.2.2.1).bind fun y9=> cond (y9.2 != 0) (some (.inr (Sum.inr ((false,([]:(List (List Int))),[],()))))) ((a4r (z7.2.2.1,y8.1)).bind fun y10=> cond (!y10.2) (some (.inr (Sum.inr ((false,([]:(List (List Int))),[],()))))) (cond (lim ((a01 z7.2.2.2.2.2.2.2.1)+1)) (cond (lim ((a01 z7.2.2.2.2.2.2.2.2.1)+1)) (some (.inl (wrap .i64 (z7.1+z7.2.2.2.2.2.2.2.2.2.1.2.1),wrap .i64 (z7.2.1+(y9.1.length:Int)),y10.1,z7.2.2.2.1,z7.2.2.2.2.1,wrap .i64 (z7.2.2.2.2.2.1+1),a03 z7.2.2.2.2.2.2.2.1 ([y9.1]:List (List Int)),a03 z7.2.2.2.2.2.2.2.2.1 ([y8.1]:List Z10),z7.2.2.2.2.2.2.2.2.2.2.1,()))) none) none)))))) (some (.inr (Sum.inl (s.1,s.2.2.1,s.2.2.2.2.2.2.1,s.2.2.2.2.2.2.2.1,s.2.2.2.2.2.2.2.2.1,()))))
def a7x(x:b1o):Option ((List (List Int))×(Z22×Bool)):= (show Option (Bool×c5x)from(a1S x.1).bind fun y1=> cond (!y1) (some (true,([]:(List (List Int))),[],x,())) (cond (decide ((x.2.2.2.2.1.length:Int) > 4096)) (some (true,([]:(List (List Int))),[],x,())) (some ((x.2.2.2.1.length:Int) != (x.2.2.2.2.1.length:Int),([]:(List (List Int))),[],x,())))).bind fun z2=> cond z2.1 (some (([]:(List (List Int))),[],false)) ((y0m a8z (0,0,0,z2.2.2.2.1.2.2.2.2.1,(z2.2.2.2.1.2.2.2.2.1.length:Int),0,z2.2.1,z2.2.2.1,z2.2.2.2.1,())).bind fun w11=> match w11 with |.inl a12=>((show Option (Bool×((List (List Int))×Z42))from cond (a12.2.2.2.2.1.2.1 != a12.1) (some (true,a12.2.2.1,a12.2.2.2.1,())) (some (a12.2.2.2.2.1.2.2.1 != a12.2.1,a12.2.2.1,a12.2.2.2.1,()))).bind fun z14=> cond z14.1 (some (([]:(List (List Int))),[],false)) (some (z14.2.1,z14.2.2.1,true))) |.inr b13=>some (b13.2.1,b13.2.2.1,b13.1))
def b1R:FSem:=⟨[.v Q74],[.o (.list false (.int .u8)),.o Q15,.v .bool],a7x⟩
def H85:Hints:=⟨[(122,[.sv 5 QI,.sv 6 QI,.sv 7 (.int .u64),.sv 33 (.list false Q60),.sv 34 QI,.sv 35 QI,.own 2 2 (.list false (.int .u8)),.own 3 3 Q15,.vp 1 Q74],[(.exit 0,[.sv 5 QI,.sv 7 (.int .u64),.own 2 2 (.list false (.int .u8)),.own 3 3 Q15,.vp 1 Q74]),(.ret,[.sv 4 .bool,.own 2 2 (.list false (.int .u8)),.own 3 3 Q15])])],[(6,[(.normal,[.sv 31 .bool,.own 2 2 (.list false (.int .u8)),.own 3 3 Q15,.vp 1 Q74])]),(62,[(.normal,[.sv 117 .bool,.own 2 2 (.list false (.int .u8)),.own 3 3 Q15])]),(15666,[(.normal,[.sv 5 QI,.sv 6 QI,.sv 7 (.int .u64),.sv 8 QI,.sv 33 (.list false Q60),.sv 34 QI,.sv 35 QI,.sv 50 .bool,.own 2 2 (.list false (.int .u8)),.own 3 3 Q15,.box 9 Q60,.vp 1 Q74,.ptr 9 9 []])]),(31334,[(.normal,[.sv 5 QI,.sv 6 QI,.sv 7 (.int .u64),.sv 33 (.list false Q60),.sv 34 QI,.sv 35 QI,.sv 68 .bool,.own 2 2 (.list false (.int .u8)),.own 3 3 Q15,.box 9 Q60,.vp 1 Q74,.ptr 9 9 []])])],[]⟩
def a5k(s:(Int×(Int×((List Int)×Z42)))):Option ((Int×(Int×((List Int)×Z42))) ⊕ ((List Int)×Unit)):= cond (decide (s.2.1<s.1)) (cond ((decide (0≤s.2.1))&&(decide (s.2.1<(s.2.2.2.1.length:Int)))) ((a7e (a04 s.2.2.2.1 (a00 s.2.1) (0,([]:(List (List Int))),()))).bind fun y2=> cond (lim ((a01 s.2.2.1)+(a01 y2))) (some (.inl (s.1,wrap .i64 (s.2.1+1),a03 s.2.2.1 y2,s.2.2.2.1,()))) none) none) (some (.inr (s.2.2.1,())))
def a5l(x:b1o):Option ((List Int)×Int):= (a7x x).bind fun y1=> cond (!y1.2.2) (some ([],1)) ((y0m a5k ((y1.2.1.length:Int),0,[],y1.2.1,())).bind fun w3=> some (w3.1,0))
def b0L:FSem:=⟨[.v Q74],[.o QI,.v QI],a5l⟩
def H27:Hints:=⟨[(250,[.sv 19 QI,.sv 20 QI,.own 7 7 QI,.own 18 5 Q15],[(.exit 0,[.own 7 7 QI])])],[],[]⟩
def H31:Hints:=⟨[(26,[.sv 1 QI,.sv 9 (.list false Q60),.sv 10 QI,.sv 11 QI],[(.exit 0,[]),(.ret,[.sv 4 QI,.sv 5 QI])])],[],[]⟩
def b6T(x:(b1o×Int)):Option (Int×Int):=A0d (a9T [] [] [0,1,4,5,6] [2]) H31 Tryz.f31 [.v Q74,.v (.int .i64)] [.v (.int .i64),.v (.int .i64)] x
def b6U:FSem:=⟨[.v Q74,.v QI],[.v QI,.v QI],b6T⟩
def a4A(s:((List Int)×Z6)):Option (((List Int)×Z6) ⊕ Z0):= cond (decide (s.2.2.1<(s.1.length:Int))) ((m0h s.1 s.2.2.1).bind fun x1=> (m0h s.2.1 s.2.2.1).bind fun x2=> cond (x1 != x2) (some (.inr (Sum.inr ((false,()))))) (some (.inl (s.1,s.2.1,wrap .i64 (s.2.2.1+1),())))) (some (.inr (Sum.inl ())))
def a5b(x:((List Int)×(List Int))):Option Bool:= cond ((x.1.length:Int) != (x.2.length:Int)) (some false) ((y0m a4A (x.1,x.2,0,())).bind fun w3=> match w3 with |.inl a4=>some true |.inr b5=>some b5.1)
def b2F:FSem:=⟨[.v QL,.v QL],[.v .bool],a5b⟩
def H35:Hints:=⟨[(58,[.sv 0 QL,.sv 1 QL,.sv 5 QI],[(.exit 0,[]),(.ret,[.sv 4 .bool])])],[],[(6,[.v,.v,.v,.v,.v,.v,.v,.v,.x])]⟩
def a8a(s:(Z12×Z26)):Option ((Z12×Z26) ⊕ (Z1 ⊕ ((List (List Int))×(Int×Unit)))):= cond (decide (s.2.2.1<s.2.1)) ((m0h s.1 s.2.2.1).bind fun x5=> (a7Y (s.2.2.2.1,x5,1)).bind fun y6=> cond (!y6.1) (some (.inr (Sum.inr ((([]:(List (List Int))),6,()))))) (some (.inl (s.1,s.2.1,wrap .i64 (s.2.2.1+1),y6.2,())))) (some (.inr (Sum.inl (s.2.2.2.1,()))))
def b2l(x:((List (List Int))×Z12)):Option ((List (List Int))×Int):= (show Option ((List (List Int))×(Z12×Bool×Unit))from(a7u x.1).bind fun y1=> cond (!y1) (some (x.1,x.2,true,())) ((a8o (x.2,(x.1.length:Int))).bind fun y2=> some (x.1,x.2,!y2,()))).bind fun z3=> cond z3.2.2.1 (some (([]:(List (List Int))),1)) ((a7a z3.1).bind fun y4=> (y0m a8a (z3.2.1,(z3.2.1.length:Int),0,y4,())).bind fun w7=> match w7 with |.inl a8=>some (a8.1,0) |.inr b9=>some (b9.1,b9.2.1))
def b6V:FSem:=⟨[.v (.list false QL),.v (.list false Q12)],[.v (.list false QL),.v QI],b2l⟩
def H59:Hints:=⟨[(122,[.sv 21 (.list false Q12),.sv 22 QI,.sv 23 QI,.own 6 6 (.list true QI)],[(.exit 0,[.own 6 6 (.list true QI)]),(.ret,[.sv 4 (.list false QL),.sv 5 QI])])],[(6,[(.normal,[.sv 0 (.list false QL),.sv 1 (.list false Q12),.sv 18 .bool])])],[]⟩
def a6H(s:(Int×((List Int)×Z43))):Option ((Int×((List Int)×Z43)) ⊕ Z43):= cond (decide (s.2.2.1<(s.2.1.length:Int))) ((m0h s.2.1 s.2.2.1).bind fun x3=> (m0h s.2.1 (wrap .i64 (s.2.2.1-1))).bind fun x4=> (m0h s.2.1 (wrap .i64 (s.2.2.1-2))).bind fun x5=> some (.inl (wrap .i64 (s.1+(v0m (wrap .i64 ((wrap .i64 (x3-(wrap .i64 (2*x4))))+x5)) (wrap .i64 (0-(wrap .i64 ((wrap .i64 (x3-(wrap .i64 (2*x4))))+x5)))))),s.2.1,wrap .i64 (s.2.2.1+1),s.2.2.2.1,s.2.2.2.2.1,s.2.2.2.2.2.1,()))) (some (.inr (s.1,s.2.2.2.1,s.2.2.2.2.1,s.2.2.2.2.2.1,())))
def a6I(s:Z43):Option (Z43 ⊕ (Int×Unit)):= cond (decide (s.2.2.2.1<s.2.2.1)) ((m0h s.2.1 s.2.2.2.1).bind fun x2=> (y0m a6H (s.1,x2,2,s.2.1,s.2.2.1,s.2.2.2.1,())).bind fun w6=> some (.inl (w6.1,w6.2.1,w6.2.2.1,wrap .i64 (w6.2.2.2.1+1),()))) (some (.inr (s.1,())))
def a7g(x:(List (List Int))):Option Int:= (a7u x).bind fun y1=> cond (!y1) (some 0) ((y0m a6I (0,x,(x.length:Int),0,())).bind fun w7=> some w7.1)
def b6w:FSem:=⟨[.v (.list false QL)],[.v QI],a7g⟩
def d6t:Hints:=⟨[(122,[.sv 3 QI,.sv 11 (.list false QL),.sv 12 QI,.sv 13 QI],[(.exit 0,[.sv 3 QI])]),(31334,[.sv 3 QI,.sv 5 QL,.sv 6 QI,.sv 11 (.list false QL),.sv 12 QI,.sv 13 QI],[(.exit 2,[.sv 3 QI,.sv 11 (.list false QL),.sv 12 QI,.sv 13 QI])])],[],[(10,[.v,.v,.v,.v,.v,.v,.v,.v,.v,.v,.v,.v,.v,.v,.v,.v,.x,.x])]⟩
def b0M(x:Int):Option Z12:= cond (x==1) (some ([(0,1,(-256),())]:List Z7)) (cond (x==2) (some ([(1,0,(-256),())]:List Z7)) (cond (x==3) (some ([(1,0,(-256),()),(0,1,128,())]:List Z7)) (cond (x==4) (some ([(1,0,(-106),()),(0,1,181,()),(1,0,(-106),())]:List Z7)) (some []))))
def b6W:FSem:=⟨[.v QI],[.o Q12],b0M⟩
def d6u:Hints:=⟨[],[],[]⟩
def a6f(s:((List (List Int))×Z7)):Option (((List (List Int))×Z7) ⊕ (Int×Unit)):= cond (decide (s.2.2.2.1<5)) ((b0M s.2.2.2.1).bind fun y2=> (b2l (s.1,y2)).bind fun y3=> cond (y3.2 != 0) (some (.inl (s.1,s.2.1,s.2.2.1,wrap .i64 (s.2.2.2.1+1),()))) ((a7g y3.1).bind fun y4=> cond (decide (y4<s.2.2.1)) (some (.inl (s.1,s.2.2.2.1,y4,wrap .i64 (s.2.2.2.1+1),()))) (some (.inl (s.1,s.2.1,s.2.2.1,wrap .i64 (s.2.2.2.1+1),()))))) (some (.inr (s.2.1,())))
def b1S(x:(List (List Int))):Option Z12:= (a7g x).bind fun y1=> (y0m a6f (x,0,y1,1,())).bind fun w5=> (b0M w5.1).bind fun y6=> some y6
def b7U:FSem:=⟨[.v (.list false QL)],[.o Q12],b1S⟩
def d6v:Hints:=⟨[(58,[.sv 0 (.list false QL),.sv 3 QI,.sv 4 QI,.sv 5 QI],[(.exit 0,[.sv 3 QI])])],[],[]⟩
def a6g(s:(Int×Int×Int×Z12×Z91)):Option ((Int×Int×Int×Z12×Z91) ⊕ (Int×Z91)):= cond (decide (s.2.2.1<s.2.1)) (cond ((decide (0≤s.2.2.1))&&(decide (s.2.2.1<(s.2.2.2.2.1.length:Int)))) (cond (lim ((a01 s.2.2.2.1)+1)) (some (.inl (s.1,s.2.1,wrap .i64 (s.2.2.1+1),a03 s.2.2.2.1 ([(wrap .i64 (((a04 s.2.2.2.2.1 (a00 s.2.2.1) (0,0,0,())).1)+s.1),wrap .i64 ((((a04 s.2.2.2.2.1 (a00 s.2.2.1) (0,0,0,())).2).1)+s.1),(((a04 s.2.2.2.2.1 (a00 s.2.2.1) (0,0,0,())).2).2).1,())]:List Z7),s.2.2.2.2.1,s.2.2.2.2.2.1,()))) none) none) (some (.inr (s.1,s.2.2.2.1,s.2.2.2.2.2.1,())))
def a8A(s:(Int×Z91)):Option ((Int×Z91) ⊕ (Z12×Unit)):= cond (decide ((wrap .i64 (s.1+1))<(s.2.2.1.2.1.length:Int))) (cond ((decide (0≤(wrap .i64 (s.1+2))))&&(decide ((wrap .i64 (s.1+2))≤(s.2.2.1.2.1.length:Int)))) (cond ((decide (0≤s.1))&&(decide (s.1≤((a00 (wrap .i64 (s.1+2)):Nat):Int)))) ((b1S (a20 (a00 s.1) (a06 (a00 (wrap .i64 (s.1+2))) s.2.2.1.2.1))).bind fun y2=> (y0m a6g (s.1,(y2.length:Int),0,s.2.1,y2,s.2.2.1,())).bind fun w3=> some (.inl (wrap .i64 (w3.1+2),w3.2.1,w3.2.2.1,()))) none) none) (some (.inr (s.2.1,())))
def a7y(x:Z10):Option Z12:= (a4e x).bind fun y1=> cond (!y1) (some []) ((y0m a8A (0,[],x,())).bind fun w4=> some w4.1)
def b7V:FSem:=⟨[.v Q15],[.o Q12],a7y⟩
def H58:Hints:=⟨[(122,[.sv 4 QI,.own 3 3 Q12,.vp 1 Q15],[(.exit 0,[.own 3 3 Q12])]),(7826,[.sv 4 QI,.sv 25 QI,.sv 26 QI,.own 3 3 Q12,.own 24 1024 Q12,.vp 1 Q15],[(.exit 2,[.sv 4 QI,.own 3 3 Q12,.vp 1 Q15])])],[],[]⟩
def a6J(s:Z57):Option (Z57 ⊕ Z47):= cond (decide (s.2.2.2.1<s.2.2.1)) ((m0h s.2.1 s.2.2.2.1).bind fun x2=> (show Option (Int×(Int×((List Int)×(Int×(Int×(Bool×((List Int)×Unit)))))))from(a4Z x2).bind fun y3=> cond (!y3) (some (s.1,x2,s.2.1,s.2.2.1,s.2.2.2.1,true,s.2.2.2.2.1,())) (cond (decide (s.1<0)) none (cond ((A0h .i64 1 s.1)==0) none (some (s.1,x2,s.2.1,s.2.2.1,s.2.2.2.1,(a05 x2 (A0h .i64 1 s.1)) != 0,s.2.2.2.2.1,()))))).bind fun z4=> cond z4.2.2.2.2.2.1 (some (.inr (Sum.inr ((6,[],()))))) (cond (decide (z4.1<0)) none (cond (lim ((a01 z4.2.2.2.2.2.2.1)+1)) (some (.inl (z4.1,z4.2.2.1,z4.2.2.2.1,wrap .i64 (z4.2.2.2.2.1+1),a03 z4.2.2.2.2.2.2.1 [A0i .i64 z4.2.1 z4.1],()))) none))) (some (.inr (Sum.inl (s.2.2.2.2.1,()))))
def a7h(x:((List Int)×Int)):Option ((List Int)×Int):= (show Option Z16 from cond (decide (x.2<0)) (some (x.1,x.2,true,())) (some (x.1,x.2,decide (x.2 > 30),()))).bind fun z1=> cond z1.2.2.1 (some ([],1)) ((y0m a6J (z1.2.1,z1.1,(z1.1.length:Int),0,[],())).bind fun w5=> match w5 with |.inl a6=>some (a6.1,0) |.inr b7=>some (b7.2.1,b7.1))
def b2G:FSem:=⟨[.v QL,.v QI],[.o QI,.v QI],a7h⟩
def d6w:Hints:=⟨[(122,[.sv 1 QI,.sv 15 QL,.sv 16 QI,.sv 17 QI,.own 6 6 QI],[(.exit 0,[.own 6 6 QI]),(.ret,[.sv 5 QI,.own 4 4 QI])])],[(6,[(.normal,[.sv 0 QL,.sv 1 QI,.sv 14 .bool])]),(15666,[(.normal,[.sv 1 QI,.sv 8 QI,.sv 15 QL,.sv 16 QI,.sv 17 QI,.sv 30 .bool,.own 6 6 QI])])],[]⟩
def a1y(x:Int):Option Int:= cond (x==0) (some 64) ((m0h b1E (A0i .u64 (wrap .u64 ((bits .u64 .and x (wrap .u64 (0-x)))*285870213051353865)) 58)).bind fun x1=> some (wrap .i64 x1))
def a1g:FSem:=⟨[.v (.int .u64)],[.v QI],a1y⟩
def c0X:Hints:=⟨[],[],[]⟩
def b0N:Cx:=a9T [] [] [0,2] []
theorem b7W{ρ:Type}{cx:Cx}{ops:List Oper}:∀(l1 l2:List (Md×Oper)) (Γ:AE) (K:AE→Rs ρ),h0m cx ops (l1++l2) Γ K=h0m cx ops l1 Γ fun Γ'=>h0m cx ops l2 Γ' K
 | [],_,_,_=>rfl
 |(md,o)::l1,l2,Γ,K=>by
  simp only[a22,h0m];congr 1;funext Γ';exact b7W l1 l2 Γ' K
theorem b6X{ρ:Type}{cx:Cx}{H:Hints}{a b:Code}{p:Nat}(h:find H.cuts p=none)(Γ:AE)(K:Ex→AE→Rs ρ):c0n cx H (.seq a b) p Γ K=c0n cx H a (2*p) Γ fun e Γ'=>match e with
   |.normal=>c0n cx H b (2*p+1) Γ' K
   |e=>K e Γ':=by
 simp only[c0n,h];rfl
theorem c2V{ρ:Type}{cx:Cx}{H:Hints}{id:Nat}{ops:Array Oper}{p:Nat}(Γ:AE)(K:Ex→AE→Rs ρ):c0n cx H (.region id ops false) p Γ K=h0m cx ops.toList (ops.toList.map fun o=>(.x,o)) Γ fun Γ'=>K .normal Γ':=by
 simp only[c0n,cF]
def a9N:Code:=match Tryz.f191.body with
 |some c=>c
 |none=>.skip
def c0Y:Code→Code
 |.seq a _=>a
 |c=>c
def c5z:Code→Code
 |.seq _ b=>b
 |c=>c
def c6U:Code→Array Oper
 |.region _ ops _=>ops
 |_=>#[]
def c4Z:Code:=c5z (c5z a9N)
def b3z:List Oper:=(c6U (c0Y c4Z)).toList
def Γ191(x:Int):AE:=(((ini [.v (.int .u64)] x).set 2 (.val QI (0:Int))).set 3 (.val (.int .u64) x)).set 4 (.val .bool (x==(0:Int)))
def Γ191r(x:Int):AE:=(Γ191 x).set 2 (.val QI (64:Int))
def c2W(e:Ex)(Γ:AE):Option Int:=match e,Γ.pd with
  |.exit _,_=>none
  |_,some _=>none
  |_,none=>(Γ.upto Tryz.f191.ntmps).outs b0N [] Tryz.f191.ntmps [.v QI] (Tryz.f191.results.toList.map .inl) fun y _=>some y
def Γ191b(x a b c i:Int):AE:=((((((Γ191 x).set 5 (.val (.int .u64) x)).set 6 (.val (.int .u64) x)).set 7 (.val (.int .u64) a)).set 8 (.val (.int .u64) b)).set 9 (.val (.int .u64) c)).set 10 (.val (.int .u64) i)
set_option maxRecDepth 100000
theorem c8e:a9N=.seq (c0Y a9N) (.seq (c0Y (c5z a9N)) (.seq (.region 3 (c6U (c0Y c4Z)) false) .ret)):=by kernel_rfl
theorem d0M(x:Int):A0d b0N c0X Tryz.f191 a1g.ps a1g.rs x=c0n b0N c0X a9N 1 (ini [.v (.int .u64)] x) c2W:=rfl
theorem d0N(x:Int)(K:Ex→AE→Option Int):c0n b0N c0X (c0Y a9N) 2 (ini [.v (.int .u64)] x) K=K .normal ((ini [.v (.int .u64)] x).set 2 (.val (.int .i64) (0:Int))):=by kernel_rfl
theorem d0O(x:Int)(K:Ex→AE→Option Int):c0n b0N c0X (c0Y (c5z a9N)) 6 ((ini [.v (.int .u64)] x).set 2 (.val (.int .i64) (0:Int))) K=bif x==(0:Int)then K .ret (Γ191r x)else K .normal (Γ191 x):=by kernel_rfl
theorem d0P(x:Int):c2W .ret (Γ191r x)=some (64:Int):=by kernel_rfl
theorem d0Q(x:Int)(K:AE→Option Int):h0m b0N b3z ((b3z.map fun o=>(Md.x,o)).take 6) (Γ191 x) K =
  K (Γ191b x (wrap .u64 (0-x)) (bits .u64 .and x (wrap .u64 (0-x))) (wrap .u64 ((bits .u64 .and x (wrap .u64 (0-x)))*(285870213051353865:Int))) (A0i .u64 (wrap .u64 ((bits .u64 .and x (wrap .u64 (0-x)))*(285870213051353865:Int))) (58:Int))):=by kernel_rfl
theorem d0R(x a b c i:Int):h0m b0N b3z ((b3z.map fun o=>(Md.x,o)).drop 6) (Γ191b x a b c i) (fun Γ=>c2W .ret Γ)=(m0h b1E i).bind fun h=>some (wrap .i64 h):=by kernel_rfl
theorem d0S(x:Int):h0m b0N b3z (b3z.map fun o=>(Md.x,o)) (Γ191 x) (fun Γ=>c2W .ret Γ)=(m0h b1E (A0i .u64 (wrap .u64 ((bits .u64 .and x (wrap .u64 (0-x)))*(285870213051353865:Int))) (58:Int))).bind fun h=>some (wrap .i64 h):=by
 rw[←List.take_append_drop 6 (b3z.map fun o=>(Md.x,o)),b7W,d0Q,d0R]
theorem d1N(x:Int):c0n b0N c0X a9N 1 (ini [.v (.int .u64)] x) c2W=a1y x:=by
 rw[c8e,b6X rfl,d0N];simp only[];rw[b6X rfl,d0O];simp only[];rw[b6X rfl,c2V];simp only[c0n];rw[d0P];exact congrArg (fun z=>bif x==(0:Int)then some (64:Int)else z) (d0S x)
theorem d2P(x):A0d b0N c0X Tryz.f191 a1g.ps a1g.rs x=a1g.F x:=(d0M x).trans (d1N x)
def a5m(s:Z29):Option Z64:= cond (decide (s.2.2.2.1<s.2.2.1)) ((m0h s.2.1 s.2.2.2.1).bind fun x1=> some (.inl (bits .i64 .or s.1 x1,s.2.1,s.2.2.1,wrap .i64 (s.2.2.2.1+1),()))) (some (.inr (s.1,())))
def a3A(x:(List Int)):Option Int:= (y0m a5m (0,x,(x.length:Int),0,())).bind fun w2=> cond (w2.1==0) (some 0) ((a1y (wrap .u64 w2.1)).bind fun y3=> some (v0n y3 30))
def b0O:FSem:=⟨[.v QL],[.v QI],a3A⟩
def d6x:Hints:=⟨[(58,[.sv 3 QI,.sv 6 QL,.sv 7 QI,.sv 8 QI],[(.exit 0,[.sv 3 QI])])],[],[]⟩
def a5n(s:Z31):Option (Z31 ⊕ Z14):= cond (decide ((wrap .i64 (s.1+1))<(s.2.2.2.1.length:Int))) (cond ((decide (0≤(wrap .i64 (s.1+1))))&&(decide ((wrap .i64 (s.1+1))<(s.2.2.2.1.length:Int)))) (cond ((decide (0≤s.1))&&(decide (s.1<(s.2.2.2.1.length:Int)))) (cond ((decide (0≤s.1))&&(decide (s.1<(s.2.2.2.1.length:Int)))) (some (.inl (wrap .i64 (s.1+1),s.2.1,s.2.2.1,a19 s.2.2.2.1 (a00 s.1) (wrap .i64 ((a04 s.2.2.2.1 (a00 (wrap .i64 (s.1+1))) 0)-(a04 s.2.2.2.1 (a00 s.1) 0))),()))) none) none) none) (some (.inr (s.2.1,s.2.2.1,s.2.2.2.1,())))
def a7O(s:Z14):Option (Z14 ⊕ ((List Int)×Unit)):= cond (decide (s.2.1<s.1)) ((y0m a5n (0,s.1,s.2.1,s.2.2.1,())).bind fun w3=> cond ((decide (0≤(wrap .i64 ((w3.2.2.1.length:Int)-1))))&&(decide ((wrap .i64 ((w3.2.2.1.length:Int)-1))≤(w3.2.2.1.length:Int)))) (cond (decide ((a00 (wrap .i64 ((w3.2.2.1.length:Int)-1)))≤(a01 w3.2.2.1))) (some (.inl (w3.1,wrap .i64 (w3.2.1+1),a06 (a00 (wrap .i64 ((w3.2.2.1.length:Int)-1))) w3.2.2.1,()))) none) none) (some (.inr (s.2.2.1,())))
def a4B(x:((List Int)×Int)):Option ((List Int)×Int):= (show Option Z16 from cond (decide (x.2<0)) (some (x.1,x.2,true,())) (cond (decide (x.2 > 4)) (some (x.1,x.2,true,())) (some (x.1,x.2,decide ((x.1.length:Int)<x.2),())))).bind fun z1=> cond z1.2.2.1 (some ([],1)) ((a2G z1.1).bind fun y2=> cond (!y2) (some ([],6)) (cond (lim (a01 z1.1)) ((y0m a7O (z1.2.1,0,z1.1,())).bind fun w4=> (a2G w4.1).bind fun y5=> cond (!y5) (some ([],6)) (some (w4.1,0))) none))
def b3A:FSem:=⟨[.v QL,.v QI],[.o QI,.v QI],a4B⟩
def d6y:Hints:=⟨[(250,[.sv 25 QI,.sv 26 QI,.own 6 6 QI],[(.exit 0,[.own 6 6 QI])]),(64098,[.sv 7 QI,.sv 25 QI,.sv 26 QI,.own 6 6 QI],[(.exit 2,[.sv 25 QI,.sv 26 QI,.own 6 6 QI])])],[(6,[(.normal,[.sv 0 QL,.sv 1 QI,.sv 19 .bool])])],[(11,[.q,.v,.q,.v,.v,.q,.q,.q,.v,.q,.q,.v,.x,.x])]⟩
def a4C(s:Z49):Option (Z49 ⊕ (Int×Unit)):= cond (decide (s.2.2.2.2.1<s.2.2.2.1)) ((m0h s.2.2.1 s.2.2.2.2.1).bind fun x1=> cond (decide ((wrap .i64 (s.2.2.2.2.1+s.1))≥4)) (some (.inl (s.1,wrap .i64 (s.2.1+(v0m x1 (wrap .i64 (0-x1)))),s.2.2.1,s.2.2.2.1,wrap .i64 (s.2.2.2.2.1+1),()))) (some (.inl (s.1,s.2.1,s.2.2.1,s.2.2.2.1,wrap .i64 (s.2.2.2.2.1+1),())))) (some (.inr (s.2.1,())))
def a9u(x:((List Int)×Int)):Option Int:= (y0m a4C (x.2,0,x.1,(x.1.length:Int),0,())).bind fun w2=> some w2.1
def b6x:FSem:=⟨[.v QL,.v QI],[.v QI],a9u⟩
def d6z:Hints:=⟨[(58,[.sv 1 QI,.sv 5 QI,.sv 8 QL,.sv 9 QI,.sv 10 QI],[(.exit 0,[.sv 5 QI])])],[],[]⟩
def a2I(s:Z30):Option (Z30 ⊕ (Int×Unit)):= cond (decide (s.2.2.2.1≤4)) ((a4B (s.1,s.2.2.2.1)).bind fun y1=> cond (y1.2 != 0) (some (.inl (s.1,s.2.1,s.2.2.1,wrap .i64 (s.2.2.2.1+1),()))) ((a9u (y1.1,s.2.2.2.1)).bind fun y2=> (show Option ((List Int)×(Int×Z21))from cond (decide (s.2.2.1<0)) (some (s.1,s.2.1,s.2.2.1,s.2.2.2.1,y2,true,())) (some (s.1,s.2.1,s.2.2.1,s.2.2.2.1,y2,decide (y2<s.2.2.1),()))).bind fun z3=> cond z3.2.2.2.2.2.1 (some (.inl (z3.1,z3.2.2.2.1,z3.2.2.2.2.1,wrap .i64 (z3.2.2.2.1+1),()))) (some (.inl (z3.1,z3.2.1,z3.2.2.1,wrap .i64 (z3.2.2.2.1+1),()))))) (some (.inr (s.2.1,())))
def a6h(x:(List Int)):Option Int:= (y0m a2I (x,0,(-1),0,())).bind fun w4=> some w4.1
def b6Y:FSem:=⟨[.v QL],[.v QI],a6h⟩
def d6A:Hints:=⟨[(58,[.sv 0 QL,.sv 3 QI,.sv 4 QI,.sv 5 QI],[(.exit 0,[.sv 3 QI])])],[(7463,[(.normal,[.sv 0 QL,.sv 3 QI,.sv 4 QI,.sv 5 QI,.sv 8 QI,.sv 30 .bool])])],[]⟩
def a2A(x:Int):Option Int:= some (v0n (v0m x (-1048576)) 1048575)
def b1r:FSem:=⟨[.v QI],[.v QI],a2A⟩
def d6B:Hints:=⟨[],[],[]⟩
def a3t(s:Z72):Option (Z72 ⊕ Z59):= cond (decide (s.2.1<0)) none ((a2A (A0i .i64 s.2.2.1 s.2.1)).bind fun y2=> cond (decide (s.2.1<0)) none (cond (y2 != (A0i .i64 s.2.2.1 s.2.1)) (some (.inl (s.1,wrap .i64 (s.2.1+1),s.2.2.1,s.2.2.2.1,s.2.2.2.2.1,s.2.2.2.2.2.1,()))) (some (.inr (s.1,s.2.1,s.2.2.2.1,s.2.2.2.2.1,s.2.2.2.2.2.1,())))))
def a5o(s:Z59):Option (Z59 ⊕ Z6):= cond (decide (s.2.2.2.2.1<s.2.2.2.1)) ((m0h s.2.2.1 s.2.2.2.2.1).bind fun x1=> (y0m a3t (s.1,s.2.1,x1,s.2.2.1,s.2.2.2.1,s.2.2.2.2.1,())).bind fun w3=> some (.inl (w3.1,w3.2.1,w3.2.2.1,w3.2.2.2.1,wrap .i64 (w3.2.2.2.2.1+1),()))) (some (.inr (s.1,s.2.1,())))
def a5p(s:Z57):Option (Z57 ⊕ ((List Int)×Unit)):= cond (decide (s.2.2.2.1<s.2.2.1)) ((m0h s.2.1 s.2.2.2.1).bind fun x5=> cond (decide (s.1<0)) none (cond ((decide (0≤s.2.2.2.1))&&(decide (s.2.2.2.1<(s.2.2.2.2.1.length:Int)))) (some (.inl (s.1,s.2.1,s.2.2.1,wrap .i64 (s.2.2.2.1+1),a19 s.2.2.2.2.1 (a00 s.2.2.2.1) (A0i .i64 x5 s.1),()))) none)) (some (.inr (s.2.2.2.2.1,())))
def a7P(x:(List Int)):Option (List Int):= (y0m a5o (x,0,x,(x.length:Int),0,())).bind fun w4=> cond ((decide (0≤(w4.1.length:Int)))&&((decide ((w4.1.length:Int)≤(w4.1.length:Int)))&&(lim (a00 (w4.1.length:Int))))) ((y0m a5p (w4.2.1,w4.1,(w4.1.length:Int),0,a02 (a00 (w4.1.length:Int)) 0,())).bind fun w6=> some w6.1) none
def b4d:FSem:=⟨[.v QL],[.o QI],a7P⟩
def d6C:Hints:=⟨[(58,[.sv 0 QL,.sv 3 QI,.sv 9 QL,.sv 10 QI,.sv 11 QI],[(.exit 0,[.sv 0 QL,.sv 3 QI])]),(250,[.sv 3 QI,.sv 29 QL,.sv 30 QI,.sv 31 QI,.own 6 6 QI],[(.exit 4,[.own 6 6 QI])]),(7474,[.sv 0 QL,.sv 3 QI,.sv 5 QI,.sv 9 QL,.sv 10 QI,.sv 11 QI],[(.exit 2,[.sv 0 QL,.sv 3 QI,.sv 9 QL,.sv 10 QI,.sv 11 QI])])],[],[(5,[.v,.v,.v,.v,.v,.v,.v,.x])]⟩
def a3m(s:Z60):Option (Z60 ⊕ (Int×Int×Unit)):= cond (decide (s.2.2.2.2.1<(s.1.length:Int))) ((m0h s.1 s.2.2.2.2.1).bind fun x1=> (m0h s.2.1 (wrap .i64 (s.2.2.2.2.1-1))).bind fun x2=> (m0h s.1 s.2.2.2.2.1).bind fun x3=> (m0h s.1 s.2.2.2.2.1).bind fun x4=> (m0h s.2.1 (wrap .i64 (s.2.2.2.2.1-1))).bind fun x5=> (m0h s.2.1 (wrap .i64 (s.2.2.2.2.1-1))).bind fun x6=> some (.inl (s.1,s.2.1,wrap .i64 (s.2.2.1+(wrap .i64 (x1*x2))),wrap .i64 (s.2.2.2.1+(wrap .i64 ((wrap .i64 (x3*x4))+(wrap .i64 (x5*x6))))),wrap .i64 (s.2.2.2.2.1+1),()))) (some (.inr (s.2.2.1,s.2.2.2.1,())))
def a3n(s:(Int×Int×Unit)):Option ((Int×Int×Unit) ⊕ (Int×Int×Unit)):= cond (decide (s.2.1≥1099511627776)) (some (.inl (A0i .i64 s.1 1,A0i .i64 s.2.1 1,()))) (some (.inr (s.1,s.2.1,())))
def a4N(x:Z9):Option Int:= (y0m a3m (x.1,x.2.1,0,0,x.2.2,())).bind fun w7=> (y0m a3n (w7.1,w7.2.1,())).bind fun w8=> cond (w8.2.1==0) (some 0) (cond (w8.2.1==0) none ((show Option (Int×Unit)from cond (w8.2.1==0) none (cond (decide ((a05 (A0h .i64 w8.1 15) w8.2.1)<0)) (some (wrap .i64 ((wrap .i64 (a07 (A0h .i64 w8.1 15) w8.2.1))-1),())) (some (wrap .i64 (a07 (A0h .i64 w8.1 15) w8.2.1),())))).bind fun z9=> some (v0n (v0m z9.1 (-16383)) 16383)))
def b1k:FSem:=⟨[.v QL,.v QL,.v QI],[.v QI],a4N⟩
def d6D:Hints:=⟨[(58,[.sv 0 QL,.sv 1 QL,.sv 7 QI,.sv 8 QI,.sv 9 QI],[(.exit 0,[.sv 7 QI,.sv 8 QI])]),(60,[.sv 7 QI,.sv 8 QI],[(.exit 2,[.sv 7 QI,.sv 8 QI])])],[(255,[(.normal,[.sv 10 QI])])],[(5,[.v,.v,.v,.v,.v,.v,.v,.v,.v,.v,.v,.x,.x]),(6,[.v,.v,.v,.v,.v,.v,.v,.v,.v,.v,.v,.v,.v,.v,.v,.v,.v,.v,.v,.v,.v,.v,.x,.x])]⟩
def a3b(s:(Int×Int×Z70)):Option ((Int×Int×Z70) ⊕ Z70):= cond (decide (s.2.2.2.1≥s.2.1)) (cond ((decide (0≤s.2.2.2.1))&&(decide (s.2.2.2.1<(s.2.2.2.2.1.length:Int)))) (cond ((decide (0≤(wrap .i64 (s.2.2.2.1-1))))&&(decide ((wrap .i64 (s.2.2.2.1-1))<(s.2.2.2.2.2.1.length:Int)))) ((a2A (wrap .i64 ((a04 s.2.2.2.2.1 (a00 s.2.2.2.1) 0)-(A0i .i64 (wrap .i64 (s.2.2.1*(a04 s.2.2.2.2.2.1 (a00 (wrap .i64 (s.2.2.2.1-1))) 0))) 14)))).bind fun y6=> cond ((decide (0≤s.2.2.2.1))&&(decide (s.2.2.2.1<(s.2.2.2.2.1.length:Int)))) ((a2A (wrap .i64 ((a04 s.2.2.2.2.2.1 (a00 (wrap .i64 (s.2.2.2.1-1))) 0)-(A0i .i64 (wrap .i64 (s.2.2.1*(a04 s.2.2.2.2.1 (a00 s.2.2.2.1) 0))) 14)))).bind fun y7=> cond ((decide (0≤s.2.2.2.1))&&(decide (s.2.2.2.1<(s.2.2.2.2.2.1.length:Int)))) (some (.inl (s.1,s.2.1,s.2.2.1,wrap .i64 (s.2.2.2.1-1),a19 s.2.2.2.2.1 (a00 s.2.2.2.1) y6,a19 s.2.2.2.2.2.1 (a00 s.2.2.2.1) y7,s.2.2.2.2.2.2.1,()))) none) none) none) none) (some (.inr (s.1,s.2.1,s.2.2.2.2.1,s.2.2.2.2.2.1,s.2.2.2.2.2.2.1,())))
def a3c(s:Z70):Option (Z70 ⊕ ((List Int)×Unit)):= cond (decide (s.2.1≤s.1)) ((a4N (s.2.2.1,s.2.2.2.1,s.2.1)).bind fun y5=> cond (lim ((a01 s.2.2.2.2.1)+1)) ((y0m a3b (s.1,s.2.1,y5,wrap .i64 ((s.2.2.1.length:Int)-1),s.2.2.1,s.2.2.2.1,a03 s.2.2.2.2.1 [y5],())).bind fun w8=> some (.inl (w8.1,wrap .i64 (w8.2.1+1),w8.2.2.1,w8.2.2.2.1,w8.2.2.2.2.1,()))) none) (some (.inr (s.2.2.2.2.1,())))
def a6K(x:((List Int)×Int)):Option ((List Int)×Int):= (show Option Z16 from cond (decide (x.2<1)) (some (x.1,x.2,true,())) (cond (decide (x.2 > 32)) (some (x.1,x.2,true,())) (some (x.1,x.2,decide ((x.1.length:Int) > 4096),())))).bind fun z1=> cond z1.2.2.1 (some ([],1)) ((a2x z1.1).bind fun y2=> cond (!y2) (some ([],6)) ((a7P z1.1).bind fun y3=> (a1c y3).bind fun y4=> cond ((decide (0≤z1.2.1))&&(lim (a00 z1.2.1))) ((y0m a3c (z1.2.1,1,y3,y4,[],())).bind fun w9=> some (w9.1,0)) none))
def b3B:FSem:=⟨[.v QL,.v QI],[.o QI,.v QI],a6K⟩
def d6E:Hints:=⟨[(1018,[.sv 1 QI,.sv 9 QI,.own 6 6 QI,.own 7 7 QI,.own 8 8 QI],[(.exit 0,[.own 8 8 QI])]),(260686,[.sv 1 QI,.sv 9 QI,.sv 10 QI,.sv 11 QI,.own 6 6 QI,.own 7 7 QI,.own 8 8 QI],[(.exit 2,[.sv 1 QI,.sv 9 QI,.own 6 6 QI,.own 7 7 QI,.own 8 8 QI])])],[(6,[(.normal,[.sv 0 QL,.sv 1 QI,.sv 24 .bool])])],[(16,[.q,.v,.q,.q,.q,.v,.v,.q,.q,.v,.x])]⟩
def a2d(s:Z44):Option (Z44 ⊕ (((List Int)×Unit) ⊕ Z6)):= cond (decide (s.2.2.2.1<s.2.2.1)) ((m0h s.2.1 s.2.2.2.1).bind fun x2=> (show Option ((List Int)×Z33)from cond (decide (x2<(-16383))) (some (s.1,s.2.1,s.2.2.1,s.2.2.2.1,true,())) (some (s.1,s.2.1,s.2.2.1,s.2.2.2.1,decide (x2 > 16383),()))).bind fun z3=> cond z3.2.2.2.2.1 (some (.inr (Sum.inr (([],1,()))))) (some (.inl (z3.1,z3.2.1,z3.2.2.1,wrap .i64 (z3.2.2.2.1+1),())))) (some (.inr (Sum.inl (s.1,()))))
def a3T(s:((List Int)×(Int×(Int×((List Int)×Z75))))):Option (((List Int)×(Int×(Int×((List Int)×Z75)))) ⊕ Z57):= cond (decide (s.2.2.2.2.2.2.2.2.1<s.2.2.2.2.2.2.2.1)) ((m0h s.2.2.2.2.2.2.1 s.2.2.2.2.2.2.2.2.1).bind fun x8=> (m0h s.1 (wrap .i64 ((wrap .i64 (s.2.1-1))-s.2.2.2.2.2.2.2.2.1))).bind fun x9=> cond (lim ((a01 s.2.2.2.2.2.2.2.2.2.1)+1)) (some (.inl (s.1,s.2.1,s.2.2.1,s.2.2.2.1,s.2.2.2.2.1,s.2.2.2.2.2.1,s.2.2.2.2.2.2.1,s.2.2.2.2.2.2.2.1,wrap .i64 (s.2.2.2.2.2.2.2.2.1+1),a03 s.2.2.2.2.2.2.2.2.2.1 [wrap .i64 (x8-(A0i .i64 (wrap .i64 (s.2.2.1*x9)) 14))],()))) none) (some (.inr (s.2.2.1,s.2.2.2.1,s.2.2.2.2.1,s.2.2.2.2.2.1,s.2.2.2.2.2.2.2.2.2.1,())))
def a5U(s:Z44):Option (Z44 ⊕ ((List Int)×Unit)):= cond (decide (s.2.2.2.1<s.2.2.1)) ((m0h s.2.1 s.2.2.2.1).bind fun x7=> cond ((decide (0≤(wrap .i64 (s.2.2.2.1+1))))&&(lim (a00 (wrap .i64 (s.2.2.2.1+1))))) ((y0m a3T (s.1,s.2.2.2.1,x7,s.2.1,s.2.2.1,s.2.2.2.1,s.1,(s.1.length:Int),0,[],())).bind fun w10=> cond (lim ((a01 w10.2.2.2.2.1)+1)) (some (.inl (a03 w10.2.2.2.2.1 [w10.1],w10.2.1,w10.2.2.1,wrap .i64 (w10.2.2.2.1+1),()))) none) none) (some (.inr (s.1,())))
def a8B(x:(List Int)):Option ((List Int)×Int):= (show Option ((List Int)×(Bool×Unit))from cond (decide ((x.length:Int)<1)) (some (x,true,())) (some (x,decide ((x.length:Int) > 32),()))).bind fun z1=> cond z1.2.1 (some ([],1)) ((y0m a2d (z1.1,z1.1,(z1.1.length:Int),0,())).bind fun w4=> match w4 with |.inl a5=>((y0m a5U ([],a5.1,(a5.1.length:Int),0,())).bind fun w11=> some (w11.1,0)) |.inr b6=>some (b6.1,b6.2.1))
def b5a:FSem:=⟨[.v QL],[.v QL,.v QI],a8B⟩
def d6F:Hints:=⟨[(58,[.sv 0 QL,.sv 20 QL,.sv 21 QI,.sv 22 QI],[(.exit 0,[.sv 0 QL]),(.ret,[.sv 2 QL,.sv 3 QI])]),(250,[.sv 6 QL,.sv 34 QL,.sv 35 QI,.sv 36 QI],[(.exit 2,[.sv 6 QL])]),(256410,[.sv 6 QL,.sv 7 QI,.sv 8 QI,.sv 34 QL,.sv 35 QI,.sv 36 QI,.sv 44 QL,.sv 45 QI,.sv 46 QI,.own 9 9 QI],[(.exit 4,[.sv 8 QI,.sv 34 QL,.sv 35 QI,.sv 36 QI,.own 9 9 QI])])],[(6,[(.normal,[.sv 0 QL,.sv 19 .bool])]),(3737,[(.normal,[.sv 0 QL,.sv 20 QL,.sv 21 QI,.sv 22 QI,.sv 31 .bool])])],[]⟩
def a2e(s:Z59):Option (Z59 ⊕ (Z6 ⊕ Z14)):= cond (decide (s.2.2.2.2.1<s.2.2.2.1)) ((m0h s.2.2.1 s.2.2.2.2.1).bind fun x2=> (show Option ((List Int)×(Int×Z33))from cond (decide (x2<(-35184372088832))) (some (s.1,s.2.1,s.2.2.1,s.2.2.2.1,s.2.2.2.2.1,true,())) (some (s.1,s.2.1,s.2.2.1,s.2.2.2.1,s.2.2.2.2.1,decide (x2 > 35184372088832),()))).bind fun z3=> cond z3.2.2.2.2.2.1 (some (.inr (Sum.inr ((0,1,[],()))))) (some (.inl (z3.1,z3.2.1,z3.2.2.1,z3.2.2.2.1,wrap .i64 (z3.2.2.2.2.1+1),())))) (some (.inr (Sum.inl (s.1,s.2.1,()))))
def a2f(s:((List Int)×(Int×Z75))):Option (((List Int)×(Int×Z75)) ⊕ Z40):= cond (decide (s.2.2.2.2.2.2.1<s.2.2.2.2.2.1)) ((m0h s.2.2.2.2.1 s.2.2.2.2.2.2.1).bind fun x8=> cond (decide (s.2.2.1<0)) none ((a1R (A0i .i64 (wrap .i64 (x8+s.2.2.2.1)) s.2.2.1,s.2.1)).bind fun y9=> cond (!y9) (some (.inr (s.1,s.2.1,s.2.2.1,s.2.2.2.2.2.2.2.1,()))) (cond (lim ((a01 s.2.2.2.2.2.2.2.1)+1)) (some (.inl (s.1,s.2.1,s.2.2.1,s.2.2.2.1,s.2.2.2.2.1,s.2.2.2.2.2.1,wrap .i64 (s.2.2.2.2.2.2.1+1),a03 s.2.2.2.2.2.2.2.1 [A0i .i64 (wrap .i64 (x8+s.2.2.2.1)) s.2.2.1],()))) none))) (some (.inr (s.1,s.2.1,s.2.2.1,s.2.2.2.2.2.2.2.1,())))
def a2g(s:Z13):Option (Z13 ⊕ (Unit ⊕ Z14)):= cond (decide (s.2.2.1≤14)) ((show Option Z30 from cond (decide (s.2.2.1 > 0)) (cond (decide ((wrap .i64 (s.2.2.1-1))<0)) none (some (s.1,s.2.1,s.2.2.1,A0h .i64 1 (wrap .i64 (s.2.2.1-1)),()))) (some (s.1,s.2.1,s.2.2.1,0,()))).bind fun z7=> cond ((decide (0≤(z7.1.length:Int)))&&(lim (a00 (z7.1.length:Int)))) ((y0m a2f (z7.1,z7.2.1,z7.2.2.1,z7.2.2.2.1,z7.1,(z7.1.length:Int),0,[],())).bind fun w10=> cond ((w10.2.2.2.1.length:Int)==(w10.1.length:Int)) (some (.inr (Sum.inr ((wrap .i64 (14-w10.2.2.1),0,w10.2.2.2.1,()))))) (some (.inl (w10.1,w10.2.1,wrap .i64 (w10.2.2.1+1),())))) none) (some (.inr (Sum.inl ())))
def a8C(x:((List Int)×Int)):Option Z3:= (show Option Z16 from cond (decide ((x.1.length:Int)<1)) (some (x.1,x.2,true,())) (cond (decide ((x.1.length:Int) > 32)) (some (x.1,x.2,true,())) (cond (decide (x.2<2)) (some (x.1,x.2,true,())) (some (x.1,x.2,decide (x.2 > 16),()))))).bind fun z1=> cond z1.2.2.1 (some ([],0,1)) ((y0m a2e (z1.1,z1.2.1,z1.1,(z1.1.length:Int),0,())).bind fun w4=> match w4 with |.inl a5=>((y0m a2g (a5.1,a5.2.1,0,())).bind fun w11=> match w11 with |.inl a12=>some ([],0,6) |.inr b13=>some (b13.2.2.1,b13.1,b13.2.1)) |.inr b6=>some (b6.2.2.1,b6.1,b6.2.1))
def b5b:FSem:=⟨[.v QL,.v QI],[.o QI,.v QI,.v QI],a8C⟩
def d6G:Hints:=⟨[(58,[.sv 0 QL,.sv 1 QI,.sv 31 QL,.sv 32 QI,.sv 33 QI],[(.exit 0,[.sv 0 QL,.sv 1 QI]),(.ret,[.sv 5 QI,.sv 6 QI,.own 4 4 QI])]),(122,[.sv 0 QL,.sv 1 QI,.sv 9 QI],[(.exit 2,[]),(.ret,[.sv 5 QI,.sv 6 QI,.own 4 11 QI])]),(125242,[.sv 0 QL,.sv 1 QI,.sv 9 QI,.sv 10 QI,.sv 56 QL,.sv 57 QI,.sv 58 QI,.own 11 11 QI],[(.exit 4,[.sv 0 QL,.sv 1 QI,.sv 9 QI,.own 11 11 QI])])],[(6,[(.normal,[.sv 0 QL,.sv 1 QI,.sv 30 .bool])]),(3737,[(.normal,[.sv 0 QL,.sv 1 QI,.sv 31 QL,.sv 32 QI,.sv 33 QI,.sv 42 .bool])]),(3913,[(.normal,[.sv 0 QL,.sv 1 QI,.sv 9 QI,.sv 10 QI])])],[]⟩
def a3N(x:Z3):Option Z3:= (a6K (x.1,x.2.1)).bind fun y1=> cond (y1.2 != 0) (some ([],0,y1.2)) ((a8B y1.1).bind fun y2=> cond (y2.2 != 0) (some ([],0,y2.2)) ((a8C (y2.1,x.2.2)).bind fun y3=> some (y3.1,y3.2.1,y3.2.2)))
def b2H:FSem:=⟨[.v QL,.v QI,.v QI],[.o QI,.v QI,.v QI],a3N⟩
def d6H:Hints:=⟨[],[],[]⟩
def c0Z(s:((List Int)×Z65)):Option (((List Int)×Z65) ⊕ ((List Int)×Z53)):= cond (decide (s.2.2.2.2.2.2.2.1<(s.1.length:Int))) ((m0h s.1 s.2.2.2.2.2.2.2.1).bind fun x3=> (m0h s.1 (wrap .i64 (s.2.2.2.2.2.2.2.1-s.2.2.2.2.2.1))).bind fun x4=> some (.inl (s.1,s.2.1,s.2.2.1,s.2.2.2.1,s.2.2.2.2.1,s.2.2.2.2.2.1,wrap .i64 (s.2.2.2.2.2.2.1+(v0m (wrap .i64 (x3-x4)) (wrap .i64 (0-(wrap .i64 (x3-x4)))))),wrap .i64 (s.2.2.2.2.2.2.2.1+1),()))) (some (.inr (s.1,s.2.1,s.2.2.1,s.2.2.2.1,s.2.2.2.2.1,s.2.2.2.2.2.1,s.2.2.2.2.2.2.1,())))
def c1a(s:((List Int)×Z35)):Option (((List Int)×Z35) ⊕ (Int×Unit)):= cond (decide (s.2.2.2.2.2.1≤s.2.2.1)) ((y0m c0Z (s.1,s.2.1,s.2.2.1,s.2.2.2.1,s.2.2.2.2.1,s.2.2.2.2.2.1,0,s.2.2.1,())).bind fun w5=> (show Option ((List Int)×(Int×Int×Int×Z21))from cond (w5.2.2.2.2.2.1==w5.2.1) (some (w5.1,w5.2.1,w5.2.2.1,w5.2.2.2.1,w5.2.2.2.2.1,w5.2.2.2.2.2.1,w5.2.2.2.2.2.2.1,true,())) (some (w5.1,w5.2.1,w5.2.2.1,w5.2.2.2.1,w5.2.2.2.2.1,w5.2.2.2.2.2.1,w5.2.2.2.2.2.2.1,decide (w5.2.2.2.2.2.2.1<w5.2.2.2.2.1),()))).bind fun z6=> cond z6.2.2.2.2.2.2.2.1 (some (.inl (z6.1,z6.2.1,z6.2.2.1,z6.2.2.2.2.2.1,z6.2.2.2.2.2.2.1,wrap .i64 (z6.2.2.2.2.2.1+1),()))) (some (.inl (z6.1,z6.2.1,z6.2.2.1,z6.2.2.2.1,z6.2.2.2.2.1,wrap .i64 (z6.2.2.2.2.2.1+1),())))) (some (.inr (s.2.2.2.1,())))
def b1T(x:Z3):Option (Int×Int):= (show Option Z33 from cond (decide (x.2.1<2)) (some (x.1,x.2.1,x.2.2,true,())) (cond (decide (x.2.1 > x.2.2)) (some (x.1,x.2.1,x.2.2,true,())) (cond (decide (x.2.2 > 1024)) (some (x.1,x.2.1,x.2.2,true,())) (some (x.1,x.2.1,x.2.2,decide ((x.1.length:Int) > 4096),()))))).bind fun z1=> cond z1.2.2.2.1 (some (0,1)) (cond (decide ((z1.1.length:Int)≤z1.2.2.1)) (some (0,7)) ((a4m z1.1).bind fun y2=> cond (!y2) (some (0,6)) ((y0m c1a (z1.1,z1.2.1,z1.2.2.1,0,0,z1.2.1,())).bind fun w7=> some (w7.1,0))))
def b7X:FSem:=⟨[.v QL,.v QI,.v QI],[.v QI,.v QI],b1T⟩
def d6I:Hints:=⟨[(506,[.sv 0 QL,.sv 1 QI,.sv 2 QI,.sv 8 QI,.sv 9 QI,.sv 10 QI],[(.exit 0,[.sv 8 QI])]),(129610,[.sv 0 QL,.sv 1 QI,.sv 2 QI,.sv 8 QI,.sv 9 QI,.sv 10 QI,.sv 11 QI,.sv 12 QI],[(.exit 2,[.sv 0 QL,.sv 1 QI,.sv 2 QI,.sv 8 QI,.sv 9 QI,.sv 10 QI,.sv 11 QI])])],[(6,[(.normal,[.sv 0 QL,.sv 1 QI,.sv 2 QI,.sv 29 .bool])]),(32403,[(.normal,[.sv 0 QL,.sv 1 QI,.sv 2 QI,.sv 8 QI,.sv 9 QI,.sv 10 QI,.sv 11 QI,.sv 74 .bool])])],[(15,[.v,.v,.v,.v,.v,.v,.v,.v,.v,.v,.x,.x])]⟩
def a6i(s:((List Int)×Z83)):Option (((List Int)×Z83) ⊕ Z47):= cond (decide (s.2.2.2.2.1<s.2.2.2.1)) ((m0h s.2.2.1 s.2.2.2.2.1).bind fun x3=> (a4n (s.1,s.2.2.2.2.1,s.2.1,s.2.2.2.2.2.2.1)).bind fun y4=> (a7t (wrap .i64 (x3-y4))).bind fun y5=> cond (!y5) (some (.inr (Sum.inr ((6,[],()))))) (cond (lim ((a01 s.2.2.2.2.2.1)+1)) (some (.inl (s.1,s.2.1,s.2.2.1,s.2.2.2.1,wrap .i64 (s.2.2.2.2.1+1),a03 s.2.2.2.2.2.1 [wrap .i64 (x3-y4)],s.2.2.2.2.2.2.1,()))) none)) (some (.inr (Sum.inl (s.2.2.2.2.2.1,()))))
def a9h(x:((List Int)×(Int×(List Int)))):Option ((List Int)×Int):= (a8p (x.2.1,x.2.2)).bind fun y1=> cond (!y1) (some ([],1)) ((a4m x.1).bind fun y2=> cond (!y2) (some ([],6)) (cond ((decide (0≤(x.1.length:Int)))&&(lim (a00 (x.1.length:Int)))) ((y0m a6i (x.1,x.2.1,x.1,(x.1.length:Int),0,[],x.2.2,())).bind fun w6=> match w6 with |.inl a7=>some (a7.1,0) |.inr b8=>some (b8.2.1,b8.1)) none))
def a9i:FSem:=⟨[.v QL,.v QI,.v (.arr 3 QI)],[.o QI,.v QI],a9h⟩
def d6J:Hints:=⟨[(250,[.sv 0 QL,.sv 1 QI,.sv 22 QL,.sv 23 QI,.sv 24 QI,.own 8 8 QI,.vp 5 (.arr 3 QI)],[(.exit 0,[.own 8 8 QI]),(.ret,[.sv 7 QI,.own 6 6 QI])])],[],[]⟩
def d1O:Hints:=⟨[],[],[]⟩
def c2X(x:Unit):Option (List (List Int)):=A0d (a9T [] [] [0] []) d1O Tryz.f305 [] [.o (.arr 3 (.int .i64))] x
def b3C:FSem:=⟨[],[.o (.arr 3 QI)],c2X⟩
def d1P:Hints:=⟨[(122,[.sv 0 QL,.sv 1 QI,.sv 7 QI,.sv 8 .bool,.sv 25 QI,.sv 26 QI,.own 24 1024 (.arr 3 QI),.box 4 (.arr 3 QI),.box 6 (.arr 3 QI),.ptr 4 4 [],.ptr 6 6 []],[(.exit 0,[.sv 8 .bool,.box 4 (.arr 3 QI),.box 6 (.arr 3 QI),.ptr 4 4 [],.ptr 6 6 []])]),(501370,[.sv 0 QL,.sv 1 QI,.sv 7 QI,.sv 8 .bool,.sv 13 QI,.sv 25 QI,.sv 26 QI,.sv 40 QI,.sv 41 QI,.own 24 1024 (.arr 3 QI),.own 39 11 QI,.box 4 (.arr 3 QI),.box 6 (.arr 3 QI),.box 10 (.arr 3 QI),.ptr 4 4 [],.ptr 6 6 [],.ptr 10 10 []],[(.exit 2,[.sv 0 QL,.sv 1 QI,.sv 7 QI,.sv 8 .bool,.sv 13 QI,.sv 25 QI,.sv 26 QI,.own 24 1024 (.arr 3 QI),.box 4 (.arr 3 QI),.box 6 (.arr 3 QI),.box 10 (.arr 3 QI),.ptr 4 4 [],.ptr 6 6 [],.ptr 10 10 []])])],[(6,[(.normal,[.sv 0 QL,.sv 1 QI,.sv 21 .bool,.box 4 (.arr 3 QI),.ptr 4 4 []])]),(125343,[(.normal,[.sv 0 QL,.sv 1 QI,.sv 7 QI,.sv 8 .bool,.sv 13 QI,.sv 25 QI,.sv 26 QI,.sv 58 .bool,.own 24 1024 (.arr 3 QI),.box 4 (.arr 3 QI),.box 6 (.arr 3 QI),.box 10 (.arr 3 QI),.ptr 4 4 [],.ptr 6 6 [],.ptr 10 10 []])])],[]⟩
def b7Y(x:((List Int)×Int)):Option ((List Int)×Int):=A0d (a9T [(250,a9i),(305,b3C)] [] [0,1,5,7,8,11,12,13,15] []) d1P Tryz.f249 [.v (.list false (.int .i64)),.v (.int .i64)] [.v (.arr 3 (.int .i64)),.v (.int .i64)] x
def b7Z:FSem:=⟨[.v QL,.v QI],[.v (.arr 3 QI),.v QI],b7Y⟩
def a3u(x:(List Int)):Option (a1U×Bool):= (b1T (x,16,256)).bind fun y1=> cond (y1.2 != 0) (some ((0,0,0,0,0,[],a02 3 0,[],[],(0,[],()),[],()),false)) ((b7Y (x,y1.1)).bind fun y2=> cond (y2.2 != 0) (some ((0,0,0,0,0,[],a02 3 0,[],[],(0,[],()),[],()),false)) ((a9h (x,y1.1,y2.1)).bind fun y3=> cond (y3.2 != 0) (some ((0,0,0,0,0,[],a02 3 0,[],[],(0,[],()),[],()),false)) ((a3N (y3.1,4,12)).bind fun y4=> cond (y4.2.2 != 0) (some ((0,0,0,0,0,[],a02 3 0,[],[],(0,[],()),[],()),false)) (some ((4,0,0,y4.2.1,y1.1,y4.1,y2.1,[],[],(0,[],()),[],()),true)))))
def b6Z:FSem:=⟨[.v QL],[.v Q42,.v .bool],a3u⟩
def d6K:Hints:=⟨[],[],[]⟩
def a0Q(x:(Int×(Int×((List Int)×b2v)))):Option ((List Int)×b2v):= (a3N (x.2.2.1,x.1,x.2.1)).bind fun y1=> cond (y1.2.2==0) (cond (lim ((a01 x.2.2.2)+1)) (some (x.2.2.1,a03 x.2.2.2 ([(3,0,0,y1.2.1,0,y1.1,a02 3 0,[],[],(0,[],()),[],())]:List a1U))) none) (some (x.2.2.1,x.2.2.2))
def b2m:FSem:=⟨[.v QI,.v QI,.r false (.b QL),.r false (.b (.list true Q42))],[],a0Q⟩
def d6L:Hints:=⟨[],[],[]⟩
def a2p(s:(Int×c5t)):Option ((Int×c5t) ⊕ c5t):= cond (decide (s.1<5)) (cond (lim ((a01 s.2.1)+1)) (some (.inl (wrap .i64 (s.1+1),a03 s.2.1 ([(2,0,s.1,0,0,[],a02 3 0,[],[],(0,[],()),[],())]:List a1U),s.2.2.1,()))) none) (some (.inr (s.2.1,s.2.2.1,())))
def a6L(x:((List Int)×Int)):Option b2v:= (a6h x.1).bind fun y1=> (show Option (Int×((List Int)×c8c))from cond (decide (x.2≥1)) ((a0Q (4,12,x.1,([(0,0,0,0,0,[],a02 3 0,[],[],(0,[],()),[],()),(1,0,0,0,0,[],a02 3 0,[],[],(0,[],()),[],()),(2,0,y1,0,0,[],a02 3 0,[],[],(0,[],()),[],())]:List a1U))).bind fun y2=> (a0Q (8,12,y2.1,y2.2)).bind fun y3=> some (x.2,y3.1,y3.2,())) (some (x.2,x.1,([(0,0,0,0,0,[],a02 3 0,[],[],(0,[],()),[],()),(1,0,0,0,0,[],a02 3 0,[],[],(0,[],()),[],()),(2,0,y1,0,0,[],a02 3 0,[],[],(0,[],()),[],())]:List a1U),()))).bind fun z4=> (show Option (Int×c5t)from cond (decide (z4.1≥2)) (cond (lim ((a01 z4.2.2.1)+1)) (cond (lim ((a01 (a03 z4.2.2.1 ([(5,0,0,0,0,[],a02 3 0,([(16,4,())]:List (Int×Int×Unit)),[],(0,[],()),[],())]:List a1U)))+1)) ((a3u z4.2.1).bind fun y5=> cond y5.2 (cond (lim ((a01 (a03 (a03 z4.2.2.1 ([(5,0,0,0,0,[],a02 3 0,([(16,4,())]:List (Int×Int×Unit)),[],(0,[],()),[],())]:List a1U)) ([(5,0,0,0,0,[],a02 3 0,([(32,3,()),(16,5,())]:List (Int×Int×Unit)),[],(0,[],()),[],())]:List a1U)))+1)) (some (z4.1,a03 (a03 (a03 z4.2.2.1 ([(5,0,0,0,0,[],a02 3 0,([(16,4,())]:List (Int×Int×Unit)),[],(0,[],()),[],())]:List a1U)) ([(5,0,0,0,0,[],a02 3 0,([(32,3,()),(16,5,())]:List (Int×Int×Unit)),[],(0,[],()),[],())]:List a1U)) ([y5.1]:List a1U),z4.2.1,())) none) (some (z4.1,a03 (a03 z4.2.2.1 ([(5,0,0,0,0,[],a02 3 0,([(16,4,())]:List (Int×Int×Unit)),[],(0,[],()),[],())]:List a1U)) ([(5,0,0,0,0,[],a02 3 0,([(32,3,()),(16,5,())]:List (Int×Int×Unit)),[],(0,[],()),[],())]:List a1U),z4.2.1,()))) none) none) (some (z4.1,z4.2.2.1,z4.2.1,()))).bind fun z6=> (show Option c8c from cond (decide (z6.1≥3)) ((y0m a2p (0,z6.2.1,z6.2.2.1,())).bind fun w7=> (a0Q (1,12,w7.2.1,w7.1)).bind fun y8=> (a0Q (2,12,y8.1,y8.2)).bind fun y9=> (a0Q (12,14,y9.1,y9.2)).bind fun y10=> (a0Q (16,14,y10.1,y10.2)).bind fun y11=> some (y11.2,())) (some (z6.2.1,()))).bind fun z12=> some z12.1
def b3D:FSem:=⟨[.v QL,.v QI],[.v (.list false Q42)],a6L⟩
def d6M:Hints:=⟨[(4050,[.sv 50 QI,.box 5 (.list true Q42),.box 2 QL,.ptr 5 5 [],.clo 6 193 [2,5]],[(.exit 0,[.box 5 (.list true Q42),.box 2 QL,.ptr 5 5 [],.clo 6 193 [2,5]])])],[(15,[(.normal,[.sv 1 QI,.box 2 QL,.box 5 (.list true Q42),.ptr 2 2 [],.ptr 5 5 [],.clo 6 193 [2,5]])]),(31,[(.normal,[.sv 1 QI,.box 5 (.list true Q42),.box 2 QL,.ptr 5 5 [],.clo 6 193 [2,5]])]),(63,[(.normal,[.box 5 (.list true Q42),.ptr 5 5 []])])],[]⟩
def a4D(s:((List Int)×Z40)):Option (((List Int)×Z40) ⊕ Z47):= cond (decide (s.2.2.2.1<(s.1.length:Int))) ((m0h s.1 s.2.2.2.1).bind fun x4=> cond ((decide (0≤s.2.2.2.1))&&(decide (s.2.2.2.1≤(s.1.length:Int)))) ((a4w (a06 (a00 s.2.2.2.1) s.1,s.2.1,s.2.2.1)).bind fun y5=> (a4Y (wrap .i64 (x4-y5))).bind fun y6=> cond (!y6) (some (.inr (Sum.inr ((6,[],()))))) (cond (lim ((a01 s.2.2.2.2.1)+1)) (some (.inl (s.1,s.2.1,s.2.2.1,wrap .i64 (s.2.2.2.1+1),a03 s.2.2.2.2.1 [wrap .i64 (x4-y5)],()))) none)) none) (some (.inr (Sum.inl (s.2.2.2.2.1,()))))
def a7i(x:Z9):Option ((List Int)×Int):= (show Option Z48 from(a4u (x.2.1,x.2.2)).bind fun y1=> cond (!y1) (some (x.1,x.2.1,x.2.2,true,())) (some (x.1,x.2.1,x.2.2,decide ((x.1.length:Int)<(x.2.1.length:Int)),()))).bind fun z2=> cond z2.2.2.2.1 (some ([],1)) ((a2x z2.1).bind fun y3=> cond (!y3) (some ([],6)) (cond ((decide (0≤(wrap .i64 ((z2.1.length:Int)-(z2.2.1.length:Int)))))&&(lim (a00 (wrap .i64 ((z2.1.length:Int)-(z2.2.1.length:Int)))))) ((y0m a4D (z2.1,z2.2.1,z2.2.2.1,(z2.2.1.length:Int),[],())).bind fun w7=> match w7 with |.inl a8=>some (a8.1,0) |.inr b9=>some (b9.2.1,b9.1)) none))
def b6y:FSem:=⟨[.v QL,.v QL,.v QI],[.o QI,.v QI],a7i⟩
def d6N:Hints:=⟨[(250,[.sv 0 QL,.sv 1 QL,.sv 2 QI,.sv 9 QI,.own 8 8 QI],[(.exit 0,[.own 8 8 QI]),(.ret,[.sv 7 QI,.own 6 6 QI])])],[(6,[(.normal,[.sv 0 QL,.sv 1 QL,.sv 2 QI,.sv 21 .bool])])],[(9,[.v,.v,.v,.v,.v,.v,.v,.v,.v,.v,.x,.x])]⟩
def a5q(s:(Z4×Int×Int×Int×Z84)):Option ((Z4×Int×Int×Int×Z84) ⊕ ((Z4×Z14) ⊕ Z5)):= cond (decide (s.2.2.2.2.1<s.2.2.2.1)) (cond ((decide (0≤s.2.2.2.2.1))&&(decide (s.2.2.2.2.1<(s.2.2.2.2.2.1.length:Int)))) ((a1V s.2.2.2.2.2.2.1).bind fun y6=> (a6c (wrap .i64 ((a04 s.2.2.2.2.2.1 (a00 s.2.2.2.2.1) 0)-y6.1))).bind fun y7=> cond (!y7) (some (.inr (Sum.inr ((6,[],()))))) ((a3a (y6.2,a04 s.2.2.2.2.2.1 (a00 s.2.2.2.2.1) 0)).bind fun y8=> cond ((decide (0≤s.2.2.2.2.1))&&(decide (s.2.2.2.2.1<(s.2.2.2.2.2.1.length:Int)))) (some (.inl (s.1,s.2.1,s.2.2.1,s.2.2.2.1,wrap .i64 (s.2.2.2.2.1+1),a19 s.2.2.2.2.2.1 (a00 s.2.2.2.2.1) (wrap .i64 ((a04 s.2.2.2.2.2.1 (a00 s.2.2.2.2.1) 0)-y6.1)),y8,()))) none)) none) (some (.inr (Sum.inl (s.1,s.2.1,s.2.2.1,s.2.2.2.2.2.1,()))))
def a5r(s:(Z4×Z14)):Option ((Z4×Z14) ⊕ Z47):= cond (decide (s.2.2.1<s.2.1)) ((m0h s.1 s.2.2.1).bind fun x4=> (a9b x4).bind fun y5=> cond (y5.2 != 0) (some (.inr (Sum.inr ((y5.2,[],()))))) ((y0m a5q (s.1,s.2.1,s.2.2.1,(s.2.2.2.1.length:Int),0,s.2.2.2.1,y5.1,())).bind fun w9=> match w9 with |.inl a10=>some (.inl (a10.1,a10.2.1,wrap .i64 (a10.2.2.1+1),a10.2.2.2.1,())) |.inr b11=>some (.inr (Sum.inr ((b11.1,b11.2.1,())))))) (some (.inr (Sum.inl (s.2.2.2.1,()))))
def b0P(x:((List Int)×Z4)):Option ((List Int)×Int):= (a7r x.2).bind fun y1=> cond (!y1) (some ([],1)) ((a5g x.1).bind fun y2=> cond (!y2) (some ([],6)) ((a1c x.1).bind fun y3=> (y0m a5r (x.2,(x.2.length:Int),0,y3,())).bind fun w12=> match w12 with |.inl a13=>some (a13.1,0) |.inr b14=>some (b14.2.1,b14.1)))
def b7a:FSem:=⟨[.v QL,.v (.list false Q3)],[.o QI,.v QI],b0P⟩
def d6O:Hints:=⟨[(250,[.sv 22 (.list false Q3),.sv 23 QI,.sv 24 QI,.own 6 6 QI],[(.exit 0,[.own 6 6 QI]),(.ret,[.sv 5 QI,.own 4 4 QI])]),(256414,[.sv 22 (.list false Q3),.sv 23 QI,.sv 24 QI,.sv 37 QI,.sv 38 QI,.own 6 6 QI,.box 1030 Q17,.ptr 9 1030 [],.ref 36 6 []],[(.exit 2,[.sv 22 (.list false Q3),.sv 23 QI,.sv 24 QI,.own 6 6 QI]),(.ret,[.sv 5 QI,.own 4 4 QI])])],[],[]⟩
def b1U(x:(a1U×(List Int))):Option (Int×a1U):= (show Option ((List Int)×((List Int)×(Int×b5C)))from cond (x.1.1==2) ((a4B (x.2,x.1.2.2.1)).bind fun y1=> some (x.2,y1.1,y1.2,x.1,())) (cond (x.1.1==3) ((a7i (x.2,x.1.2.2.2.2.2.1,x.1.2.2.2.1)).bind fun y2=> some (x.2,y2.1,y2.2,x.1,())) (cond (x.1.1==4) ((a9h (x.2,x.1.2.2.2.2.1,x.1.2.2.2.2.2.2.1)).bind fun y3=> cond (y3.2==0) ((a7i (y3.1,x.1.2.2.2.2.2.1,x.1.2.2.2.1)).bind fun y4=> some (y3.1,y4.1,y4.2,x.1,())) (some (y3.1,[],y3.2,x.1,()))) (cond (x.1.1==5) ((b0P (x.2,x.1.2.2.2.2.2.2.2.1)).bind fun y5=> some (x.2,y5.1,y5.2,x.1,())) (some (x.2,[],0,x.1,())))))).bind fun z6=> cond (z6.2.2.1 != 0) (some (z6.2.2.1,z6.2.2.2.1)) ((a4v (z6.2.2.2.1,(z6.1.length:Int))).bind fun y7=> cond ((decide (0≤y7))&&(decide (y7≤(z6.1.length:Int)))) ((a1c (a06 (a00 y7) z6.1)).bind fun y8=> some (0,z6.2.2.2.1.1,z6.2.2.2.1.2.1,z6.2.2.2.1.2.2.1,z6.2.2.2.1.2.2.2.1,z6.2.2.2.1.2.2.2.2.1,z6.2.2.2.1.2.2.2.2.2.1,z6.2.2.2.1.2.2.2.2.2.2.1,z6.2.2.2.1.2.2.2.2.2.2.2.1,y8,z6.2.2.2.1.2.2.2.2.2.2.2.2.2.1,z6.2.1,z6.2.2.2.1.2.2.2.2.2.2.2.2.2.2.2)) none)
def b8a:FSem:=⟨[.r false (.b Q42),.v QL],[.v QI],b1U⟩
def d6P:Hints:=⟨[],[(15,[(.normal,[.sv 1 QL,.sv 5 QL,.sv 6 QI,.box pinned Q42,.ptr 0 pinned []])])],[(7,[.v,.p,.p,.q,.q,.p,.p,.q,.q,.x,.x,.q,.q,.q,.x]),(9,[.v,.p,.p,.q,.q,.p,.p,.q,.q,.x,.x,.q,.q,.q,.x]),(11,[.q,.p,.p,.q,.q,.p,.p,.q,.q,.x,.x,.q,.q,.q,.x])]⟩
def a8D(s:Z30):Option (Z30 ⊕ (Int×Unit)):= cond (decide (s.2.2.2.1≤25)) ((a3j (s.2.2.2.1,s.1)).bind fun y2=> cond (decide (y2<s.2.2.1)) (some (.inl (s.1,s.2.2.2.1,y2,wrap .i64 (s.2.2.2.1+1),()))) (some (.inl (s.1,s.2.1,s.2.2.1,wrap .i64 (s.2.2.2.1+1),())))) (some (.inr (s.2.1,())))
def b1V(x:(List Int)):Option Int:= (a3j (0,x)).bind fun y1=> (y0m a8D (x,0,y1,1,())).bind fun w3=> some w3.1
def b8b:FSem:=⟨[.v QL],[.v QI],b1V⟩
def d6Q:Hints:=⟨[(58,[.sv 0 QL,.sv 3 QI,.sv 4 QI,.sv 5 QI],[(.exit 0,[.sv 3 QI])])],[],[]⟩
def a8E(x:(List Int)):Option Int:= (b1V x).bind fun y1=> (a5H x).bind fun y2=> (a3j (y1,x)).bind fun y3=> cond (decide (y2<y3)) (some 31) (some y1)
def b5c:FSem:=⟨[.v QL],[.v QI],a8E⟩
def d6R:Hints:=⟨[],[],[]⟩
def a7Q(s:(Int×(Int×(Int×((List Int)×(Int×(Int×((List Int)×(Int×(Int×((List Int)×Z97))))))))))):Option ((Int×(Int×(Int×((List Int)×(Int×(Int×((List Int)×(Int×(Int×((List Int)×Z97)))))))))) ⊕ (Int×(Int×(Int×((List Int)×(Int×Int×Z97)))))):= cond (decide (s.2.2.2.2.2.2.2.2.1<s.2.2.2.2.2.2.2.1)) (cond ((decide (0≤s.2.2.2.2.2.2.2.2.1))&&(decide (s.2.2.2.2.2.2.2.2.1<(s.2.2.2.2.2.2.2.2.2.1.length:Int)))) (cond ((decide (0≤(a04 s.2.2.2.2.2.2.2.2.2.1 (a00 s.2.2.2.2.2.2.2.2.1) 0)))&&(decide ((a04 s.2.2.2.2.2.2.2.2.2.1 (a00 s.2.2.2.2.2.2.2.2.1) 0)≤(s.2.2.2.2.2.2.1.length:Int)))) ((a8E (a06 (a00 (a04 s.2.2.2.2.2.2.2.2.2.1 (a00 s.2.2.2.2.2.2.2.2.1) 0)) s.2.2.2.2.2.2.1)).bind fun y3=> cond (lim ((a01 s.2.2.2.2.2.2.2.2.2.2.2.2.1.2.1)+1)) (cond ((decide (0≤(a04 s.2.2.2.2.2.2.2.2.2.1 (a00 s.2.2.2.2.2.2.2.2.1) 0)))&&(decide ((a04 s.2.2.2.2.2.2.2.2.2.1 (a00 s.2.2.2.2.2.2.2.2.1) 0)≤(s.2.2.2.2.2.2.1.length:Int)))) (some (.inl (s.1,s.2.1,s.2.2.1,s.2.2.2.1,s.2.2.2.2.1,s.2.2.2.2.2.1,a20 (a00 (a04 s.2.2.2.2.2.2.2.2.2.1 (a00 s.2.2.2.2.2.2.2.2.1) 0)) (a06 (a01 s.2.2.2.2.2.2.1) s.2.2.2.2.2.2.1),s.2.2.2.2.2.2.2.1,wrap .i64 (s.2.2.2.2.2.2.2.2.1+1),s.2.2.2.2.2.2.2.2.2.1,s.2.2.2.2.2.2.2.2.2.2.1,s.2.2.2.2.2.2.2.2.2.2.2.1,(s.2.2.2.2.2.2.2.2.2.2.2.2.1.1,a03 s.2.2.2.2.2.2.2.2.2.2.2.2.1.2.1 [y3],s.2.2.2.2.2.2.2.2.2.2.2.2.1.2.2),()))) none) none) none) none) (some (.inr (s.1,s.2.1,s.2.2.1,s.2.2.2.1,s.2.2.2.2.1,s.2.2.2.2.2.1,s.2.2.2.2.2.2.2.2.2.2.1,s.2.2.2.2.2.2.2.2.2.2.2.1,s.2.2.2.2.2.2.2.2.2.2.2.2.1,())))
def a3B(s:(Int×(Int×(Int×((List Int)×(Int×Int×Z81)))))):Option ((Int×(Int×(Int×((List Int)×(Int×Int×Z81))))) ⊕ Z81):= cond (decide (s.2.2.2.2.2.1≤(v0n (v0m s.2.2.1 0) 8))) ((a2R (s.2.2.2.2.2.1,s.1,s.2.1)).bind fun y2=> cond ((y2.length:Int)==0) (some (.inl (s.1,s.2.1,s.2.2.1,s.2.2.2.1,s.2.2.2.2.1,wrap .i64 (s.2.2.2.2.2.1+1),s.2.2.2.2.2.2.1,s.2.2.2.2.2.2.2.1,()))) ((y0m a7Q (s.1,s.2.1,s.2.2.1,s.2.2.2.1,s.2.2.2.2.1,s.2.2.2.2.2.1,s.2.2.2.1,(y2.length:Int),0,y2,s.2.2.2.2.2.2.1,s.2.2.2.2.2.2.2.1,(s.2.2.2.2.2.1,[],()),())).bind fun w4=> (a4y (w4.2.2.2.2.2.2.2.2.1,w4.1,w4.2.1,w4.2.2.2.1)).bind fun y5=> (show Option (Int×(Int×(Int×((List Int)×(Int×Int×Int×Bool×Z97)))))from cond (w4.2.2.2.2.1==0) (some (w4.1,w4.2.1,w4.2.2.1,w4.2.2.2.1,w4.2.2.2.2.1,w4.2.2.2.2.2.1,y5,true,w4.2.2.2.2.2.2.1,w4.2.2.2.2.2.2.2.1,w4.2.2.2.2.2.2.2.2.1,())) (some (w4.1,w4.2.1,w4.2.2.1,w4.2.2.2.1,w4.2.2.2.2.1,w4.2.2.2.2.2.1,y5,decide (y5<w4.2.2.2.2.1),w4.2.2.2.2.2.2.1,w4.2.2.2.2.2.2.2.1,w4.2.2.2.2.2.2.2.2.1,()))).bind fun z6=> cond z6.2.2.2.2.2.2.2.1 (some (.inl (z6.1,z6.2.1,z6.2.2.1,z6.2.2.2.1,z6.2.2.2.2.2.2.1,wrap .i64 (z6.2.2.2.2.2.1+1),z6.2.2.2.2.2.2.2.2.1,z6.2.2.2.2.2.2.2.2.2.2.1,()))) (some (.inl (z6.1,z6.2.1,z6.2.2.1,z6.2.2.2.1,z6.2.2.2.2.1,wrap .i64 (z6.2.2.2.2.2.1+1),z6.2.2.2.2.2.2.2.2.1,z6.2.2.2.2.2.2.2.2.2.1,()))))) (some (.inr (s.2.2.2.2.2.2.1,s.2.2.2.2.2.2.2.1,())))
def b0Q(x:(Int×Z2)):Option (Z5×Int):= (a7b (x.1,x.2.1,x.2.2.2)).bind fun y1=> cond (!y1) (some ((0,[],()),1)) ((y0m a3B (x.1,x.2.1,x.2.2.1,x.2.2.2,0,0,(0,[],()),(0,[],()),())).bind fun w7=> some (w7.2.1,0))
def b7b:FSem:=⟨[.v QI,.v QI,.v QI,.v QL],[.v Q11,.v QI],b0Q⟩
def d6S:Hints:=⟨[(250,[.sv 0 QI,.sv 1 QI,.sv 2 QI,.sv 3 QL,.sv 11 QI,.sv 12 QI,.box 8 Q11,.box 10 Q11,.ptr 8 8 [],.ptr 10 10 []],[(.exit 0,[.box 8 Q11,.box 10 Q11,.ptr 8 8 [],.ptr 10 10 []])]),(512634,[.sv 0 QI,.sv 1 QI,.sv 2 QI,.sv 3 QL,.sv 11 QI,.sv 12 QI,.sv 15 QL,.sv 43 QI,.sv 44 QI,.own 42 13 QI,.box 8 Q11,.box 10 Q11,.box 14 Q10,.ptr 8 8 [],.ptr 10 10 [],.ptr 14 14 []],[(.exit 2,[.sv 0 QI,.sv 1 QI,.sv 2 QI,.sv 3 QL,.sv 11 QI,.sv 12 QI,.box 8 Q11,.box 10 Q11,.box 14 Q10,.ptr 8 8 [],.ptr 10 10 [],.ptr 14 14 []])])],[(256319,[(.normal,[.sv 0 QI,.sv 1 QI,.sv 2 QI,.sv 3 QL,.sv 11 QI,.sv 12 QI,.sv 18 QI,.sv 72 .bool,.box 8 Q11,.box 10 Q11,.box 14 Q11,.ptr 8 8 [],.ptr 10 10 [],.ptr 14 14 []])])],[(15,[.q,.q,.v,.v,.v,.v,.q,.x,.x,.x])]⟩
def a5c(s:((List Int)×((List Int)×c5w))):Option (((List Int)×((List Int)×c5w)) ⊕ (((List Int)×b2w) ⊕ (Int×b5C))):= cond (decide (s.2.2.2.1<s.2.2.1)) ((m0h s.2.1 s.2.2.2.1).bind fun x5=> (m0h s.1 0).bind fun x6=> cond (x5 != x6) (some (.inr (Sum.inr ((7,(0,0,0,0,0,[],a02 3 0,[],[],(0,[],()),[],()),()))))) (some (.inl (s.1,s.2.1,s.2.2.1,wrap .i64 (s.2.2.2.1+1),s.2.2.2.2.1,s.2.2.2.2.2.1,())))) (some (.inr (Sum.inl (s.1,s.2.2.2.2.1,s.2.2.2.2.2.1,()))))
def b2V(x:(Int×((List Int)×a1U))):Option b4y:= (show Option (Int×((List Int)×(Int×Bool×b2w)))from cond (decide ((x.2.1.length:Int)<1)) (some (x.1,x.2.1,(x.2.1.length:Int),true,(0,0,0,0,0,[],a02 3 0,[],[],(0,[],()),[],()),x.2.2,())) (cond (decide ((x.2.1.length:Int) > 4096)) (some (x.1,x.2.1,(x.2.1.length:Int),true,(0,0,0,0,0,[],a02 3 0,[],[],(0,[],()),[],()),x.2.2,())) ((a7W (x.1,x.2.2,(x.2.1.length:Int))).bind fun y1=> some (x.1,x.2.1,(x.2.1.length:Int),!y1,(0,0,0,0,0,[],a02 3 0,[],[],(0,[],()),[],()),x.2.2,())))).bind fun z2=> cond z2.2.2.2.1 (some ((0,0,0,0,0,[],a02 3 0,[],[],(0,[],()),[],()),1)) ((a2t z2.2.1).bind fun y3=> cond (!y3) (some ((0,0,0,0,0,[],a02 3 0,[],[],(0,[],()),[],()),6)) ((a6b (z2.1,z2.2.2.2.2.2.1)).bind fun y4=> cond (z2.1==0) ((y0m a5c (z2.2.1,z2.2.1,(z2.2.1.length:Int),0,z2.2.2.2.2.1,y4,())).bind fun w7=> match w7 with |.inl a8=>((m0h a8.1 0).bind fun x10=> some ((a8.2.2.1.1,a8.2.2.1.2.1,a8.2.2.1.2.2.1,a8.2.2.1.2.2.2.1,a8.2.2.1.2.2.2.2.1,a8.2.2.1.2.2.2.2.2.1,a8.2.2.1.2.2.2.2.2.2.1,a8.2.2.1.2.2.2.2.2.2.2.1,[x10],a8.2.2.1.2.2.2.2.2.2.2.2.2),0)) |.inr b9=>some (b9.2.1,b9.1)) ((a3A z2.2.1).bind fun y11=> (a7h (z2.2.1,y11)).bind fun y12=> cond (y12.2 != 0) (some ((0,0,0,0,0,[],a02 3 0,[],[],(0,[],()),[],()),6)) (cond (z2.1==1) (some ((y4.1,y11,y4.2.2.1,y4.2.2.2.1,y4.2.2.2.2.1,y4.2.2.2.2.2.1,y4.2.2.2.2.2.2.1,y4.2.2.2.2.2.2.2.1,y12.1,y4.2.2.2.2.2.2.2.2.2),0)) ((b1U ((y4.1,y11,y4.2.2),y12.1)).bind fun y13=> cond (y13.1 != 0) (some ((0,0,0,0,0,[],a02 3 0,[],[],(0,[],()),[],()),6)) ((b0Q (z2.2.2.1,(y13.2.2.2.2.2.2.2.2.2.1.length:Int),6,y13.2.2.2.2.2.2.2.2.2.2.2.1)).bind fun y14=> cond (y14.2 != 0) (some ((0,0,0,0,0,[],a02 3 0,[],[],(0,[],()),[],()),6)) (some ((y13.2.1,y13.2.2.1,y13.2.2.2.1,y13.2.2.2.2.1,y13.2.2.2.2.2.1,y13.2.2.2.2.2.2.1,y13.2.2.2.2.2.2.2.1,y13.2.2.2.2.2.2.2.2.1,y13.2.2.2.2.2.2.2.2.2.1,y14.1,y13.2.2.2.2.2.2.2.2.2.2.2),0))))))))
def b9i:FSem:=⟨[.v QI,.v QL,.v Q42],[.v Q42,.v QI],b2V⟩
def d6T:Hints:=⟨[(4050,[.sv 1 QL,.sv 39 QL,.sv 40 QI,.sv 41 QI,.box 6 Q42,.box 9 Q42,.ptr 6 6 [],.ptr 9 9 []],[(.exit 0,[.sv 1 QL,.box 6 Q42,.box 9 Q42,.ptr 6 6 [],.ptr 9 9 []]),(.ret,[.sv 7 QI,.box 6 Q42,.ptr 6 6 []])])],[(14,[(.normal,[.sv 0 QI,.sv 1 QL,.sv 8 QI,.sv 28 .bool,.box 6 Q42,.vp 5 Q42,.ptr 6 6 []])])],[]⟩
def a8T(x:Z6):Option Z15:= some (x.2.1,x)
def b2O:FSem:=⟨[.r false (.b Q9)],[.v QI],a8T⟩
def d6U:Hints:=⟨[],[],[]⟩
def a5s(x:b4y):Option Int:= (a9M (([],0,()),x.1,x.2)).bind fun y1=> cond (y1.1 != 0) (some 0) ((a8T y1.2).bind fun y2=> some y2.1)
def b9j:FSem:=⟨[.v Q42,.v QI],[.v QI],a5s⟩
def d6V:Hints:=⟨[],[],[]⟩
def a7j(s:((List Int)×(Int×Bool×b2v×c5w))):Option (((List Int)×(Int×Bool×b2v×c5w)) ⊕ b2w):= cond (decide (s.2.2.2.2.2.1<s.2.2.2.2.1)) ((m0h s.2.2.2.1 s.2.2.2.2.2.1).bind fun x6=> (b2V (x6.1,s.1,x6)).bind fun y7=> cond (y7.2 != 0) (some (.inl (s.1,s.2.1,s.2.2.1,s.2.2.2.1,s.2.2.2.2.1,wrap .i64 (s.2.2.2.2.2.1+1),s.2.2.2.2.2.2.1,s.2.2.2.2.2.2.2.1,()))) ((a5s (y7.1,(s.1.length:Int))).bind fun y8=> (show Option ((List Int)×(Int×Bool×Int×b2v×Int×Int×Bool×a1U×b2w))from cond (!s.2.2.1) (some (s.1,s.2.1,s.2.2.1,y8,s.2.2.2.1,s.2.2.2.2.1,s.2.2.2.2.2.1,true,s.2.2.2.2.2.2.1,s.2.2.2.2.2.2.2.1,y7.1,())) (some (s.1,s.2.1,s.2.2.1,y8,s.2.2.2.1,s.2.2.2.2.1,s.2.2.2.2.2.1,decide (y8<s.2.1),s.2.2.2.2.2.2.1,s.2.2.2.2.2.2.2.1,y7.1,()))).bind fun z9=> cond z9.2.2.2.2.2.2.2.1 (some (.inl (z9.1,z9.2.2.2.1,true,z9.2.2.2.2.1,z9.2.2.2.2.2.1,wrap .i64 (z9.2.2.2.2.2.2.1+1),z9.2.2.2.2.2.2.2.2.1,z9.2.2.2.2.2.2.2.2.2.2.1,()))) (some (.inl (z9.1,z9.2.1,z9.2.2.1,z9.2.2.2.2.1,z9.2.2.2.2.2.1,wrap .i64 (z9.2.2.2.2.2.2.1+1),z9.2.2.2.2.2.2.2.2.1,z9.2.2.2.2.2.2.2.2.2.1,()))))) (some (.inr (s.2.2.2.2.2.2.1,s.2.2.2.2.2.2.2.1,())))
def a5t(x:((List Int)×Int)):Option b4y:= (show Option ((List Int)×c2S)from cond (decide ((x.1.length:Int)<1)) (some (x.1,x.2,true,(0,0,0,0,0,[],a02 3 0,[],[],(0,[],()),[],()),())) (cond (decide ((x.1.length:Int) > 4096)) (some (x.1,x.2,true,(0,0,0,0,0,[],a02 3 0,[],[],(0,[],()),[],()),())) (cond (decide (x.2<0)) (some (x.1,x.2,true,(0,0,0,0,0,[],a02 3 0,[],[],(0,[],()),[],()),())) (some (x.1,x.2,decide (x.2 > 3),(0,0,0,0,0,[],a02 3 0,[],[],(0,[],()),[],()),()))))).bind fun z1=> cond z1.2.2.1 (some ((0,0,0,0,0,[],a02 3 0,[],[],(0,[],()),[],()),1)) ((a2t z1.1).bind fun y2=> cond (!y2) (some ((0,0,0,0,0,[],a02 3 0,[],[],(0,[],()),[],()),6)) ((a3A z1.1).bind fun y3=> (a7h (z1.1,y3)).bind fun y4=> cond (y4.2 != 0) (some ((0,0,0,0,0,[],a02 3 0,[],[],(0,[],()),[],()),y4.2)) ((a6L (y4.1,z1.2.1)).bind fun y5=> (y0m a7j (z1.1,0,false,y5,(y5.length:Int),0,z1.2.2.2.1,(0,0,0,0,0,[],a02 3 0,[],[],(0,[],()),[],()),())).bind fun w10=> some (w10.2.1,0))))
def b9k:FSem:=⟨[.v QL,.v QI],[.v Q42,.v QI],a5t⟩
def H60:Hints:=⟨[(2042,[.sv 0 QL,.sv 9 QI,.sv 10 .bool,.sv 50 (.list false Q42),.sv 51 QI,.sv 52 QI,.box 4 Q42,.box 8 Q42,.ptr 4 4 [],.ptr 8 8 []],[(.exit 0,[.box 4 Q42,.box 8 Q42,.ptr 4 4 [],.ptr 8 8 []])])],[(6,[(.normal,[.sv 0 QL,.sv 1 QI,.sv 31 .bool,.box 4 Q42,.ptr 4 4 []])]),(1045711,[(.normal,[.sv 0 QL,.sv 9 QI,.sv 10 .bool,.sv 15 QI,.sv 50 (.list false Q42),.sv 51 QI,.sv 52 QI,.sv 76 .bool,.box 4 Q42,.box 8 Q42,.box 13 Q42,.ptr 4 4 [],.ptr 8 8 [],.ptr 13 13 []])])],[]⟩
def a5u(s:(Int×((List (List Int))×(Int×Int×a3r×b4A)))):Option ((Int×((List (List Int))×(Int×Int×a3r×b4A))) ⊕ ((a3r×b4A) ⊕ (Int×b4A))):= cond (decide (s.2.2.2.1<s.2.2.1)) ((m0h s.2.1 s.2.2.2.1).bind fun x8=> (a5t (x8,s.1)).bind fun y9=> cond (y9.2 != 0) (some (.inr (Sum.inr ((y9.2,(0,0,(0,0,0,()),[],[],()),()))))) (cond (lim ((a01 s.2.2.2.2.2.1.2.2.2.2.1)+1)) (some (.inl (s.1,s.2.1,s.2.2.1,wrap .i64 (s.2.2.2.1+1),s.2.2.2.2.1,(s.2.2.2.2.2.1.1,s.2.2.2.2.2.1.2.1,s.2.2.2.2.2.1.2.2.1,s.2.2.2.2.2.1.2.2.2.1,a03 s.2.2.2.2.2.1.2.2.2.2.1 ([y9.1]:List a1U),s.2.2.2.2.2.1.2.2.2.2.2),()))) none)) (some (.inr (Sum.inl (s.2.2.2.2.1,s.2.2.2.2.2.1,()))))
def a4E(x:(Z10×Z7×Int×Int)):Option (a3r×Int):= (show Option (Int×Int×Bool×a3r×Z10×Z20)from(a4e x.1).bind fun y1=> cond (!y1) (some (x.2.2.1,x.2.2.2,true,(0,0,(0,0,0,()),[],[],()),x.1,x.2.1,())) ((a1S x.2.1).bind fun y2=> cond (!y2) (some (x.2.2.1,x.2.2.2,true,(0,0,(0,0,0,()),[],[],()),x.1,x.2.1,())) (cond (x.1.1 != x.2.1.2.2.1) (some (x.2.2.1,x.2.2.2,true,(0,0,(0,0,0,()),[],[],()),x.1,x.2.1,())) (cond ((x.1.2.1.length:Int) != x.2.1.2.1) (some (x.2.2.1,x.2.2.2,true,(0,0,(0,0,0,()),[],[],()),x.1,x.2.1,())) (cond (decide (x.2.2.2<0)) (some (x.2.2.1,x.2.2.2,true,(0,0,(0,0,0,()),[],[],()),x.1,x.2.1,())) (cond (decide (x.2.2.2 > 3)) (some (x.2.2.1,x.2.2.2,true,(0,0,(0,0,0,()),[],[],()),x.1,x.2.1,())) (some (x.2.2.1,x.2.2.2,decide (x.2.2.1<0),(0,0,(0,0,0,()),[],[],()),x.1,x.2.1,())))))))).bind fun z3=> cond z3.2.2.1 (some ((0,0,(0,0,0,()),[],[],()),1)) ((a4d z3.2.2.2.2.1).bind fun y4=> cond (decide (z3.1 > (wrap .i64 (4194304-y4)))) (some ((0,0,(0,0,0,()),[],[],()),4)) ((show Option (Int×a3r×a3r×Z28)from cond (decide (z3.2.1 > 0)) ((a7y z3.2.2.2.2.1).bind fun y5=> some (z3.2.1,z3.2.2.2.1,(z3.1,y4,z3.2.2.2.2.2.1,y5,[],()),z3.2.2.2.2.1,())) (some (z3.2.1,z3.2.2.2.1,(z3.1,y4,z3.2.2.2.2.2.1,[],[],()),z3.2.2.2.2.1,()))).bind fun z6=> (b2l (z6.2.2.2.1.2.1,z6.2.2.1.2.2.2.1)).bind fun y7=> cond (y7.2 != 0) (some ((0,0,(0,0,0,()),[],[],()),y7.2)) ((y0m a5u (z6.1,y7.1,(y7.1.length:Int),0,z6.2.1,z6.2.2.1,())).bind fun w10=> match w10 with |.inl a11=>some (a11.2.1,0) |.inr b12=>some (b12.2.1,b12.1))))
def b7c:FSem:=⟨[.v Q15,.v Q12,.v QI,.v QI],[.v Q60,.v QI],a4E⟩
def H18:Hints:=⟨[(2042,[.sv 3 QI,.sv 81 (.list false QL),.sv 82 QI,.sv 83 QI,.box 8 Q60,.box 10 Q59,.ptr 8 8 [],.ptr 10 10 []],[(.exit 0,[.box 8 Q60,.box 10 Q59,.ptr 8 8 [],.ptr 10 10 []]),(.ret,[.sv 9 QI,.box 8 Q60,.ptr 8 8 []])])],[(6,[(.normal,[.sv 2 QI,.sv 3 QI,.sv 51 .bool,.box 8 Q60,.vp 4 Q15,.vp 5 Q12,.ptr 8 8 []])]),(31,[(.normal,[.sv 3 QI,.box 8 Q60,.box 10 Q59,.vp 4 Q15,.ptr 8 8 [],.ptr 10 10 []])])],[(3,[.v,.v,.v,.v,.v,.q,.x])]⟩
def a7D(s:Z51):Option (Z51 ⊕ Z29):= cond (decide (s.2.2.2.2.1<8)) (cond ((bits .u32 .and s.1 1)==1) (some (.inl (bits .u32 .xor (A0i .u32 s.1 1) 3988292384,s.2.1,s.2.2.1,s.2.2.2.1,wrap .i64 (s.2.2.2.2.1+1),()))) (some (.inl (A0i .u32 s.1 1,s.2.1,s.2.2.1,s.2.2.2.1,wrap .i64 (s.2.2.2.2.1+1),())))) (some (.inr (s.1,s.2.1,s.2.2.1,s.2.2.2.1,())))
def a4O(s:Z29):Option Z64:= cond (decide (s.2.2.2.1<s.2.2.1)) ((m0h s.2.1 s.2.2.2.1).bind fun x1=> (y0m a7D (bits .u32 .xor s.1 (wrap .u32 x1),s.2.1,s.2.2.1,s.2.2.2.1,0,())).bind fun w2=> some (.inl (w2.1,w2.2.1,w2.2.2.1,wrap .i64 (w2.2.2.2.1+1),()))) (some (.inr (s.1,())))
def a4F(x:(List Int)):Option Int:= (y0m a4O (4294967295,x,(x.length:Int),0,())).bind fun w3=> some (bits .u32 .xor (IntKind.max .u32) w3.1)
def a9E:FSem:=⟨[.v (.list false (.int .u8))],[.v (.int .u32)],a4F⟩
def H89:Hints:=⟨[(58,[.sv 3 (.int .u32),.sv 7 (.list false (.int .u8)),.sv 8 QI,.sv 9 QI],[(.exit 0,[.sv 3 (.int .u32)])]),(29902,[.sv 3 (.int .u32),.sv 7 (.list false (.int .u8)),.sv 8 QI,.sv 9 QI,.sv 17 QI],[(.exit 2,[.sv 3 (.int .u32),.sv 7 (.list false (.int .u8)),.sv 8 QI,.sv 9 QI])])],[],[]⟩
def a8F(s:(b8H×(Int×(Int×((List (List Int))×((List Int)×b3r)))))):Option ((b8H×(Int×(Int×((List (List Int))×((List Int)×b3r))))) ⊕ ((List (List Int))×((List Int)×b3r))):= cond (decide (s.2.2.1<s.2.1)) ((m0h s.1 s.2.2.1).bind fun x2=> cond ((decide (0≤s.2.2.1))&&(decide (s.2.2.1<(s.2.2.2.1.length:Int)))) (cond (lim ((a01 s.2.2.2.2.1)+2)) (some (.inl (s.1,s.2.1,wrap .i64 (s.2.2.1+1),s.2.2.2.1,a03 s.2.2.2.2.1 ([wrap .u64 ((a01 (a04 s.2.2.2.1 (a00 s.2.2.1) []):Nat):Int),wrap .u64 x2.2.1]:List Int),s.2.2.2.2.2.1,()))) none) none) (some (.inr (s.2.2.2.1,s.2.2.2.2.1,s.2.2.2.2.2.1,())))
def a8G(s:(Int×(Int×((List Int)×Z1)))):Option ((Int×(Int×((List Int)×Z1))) ⊕ ((List Int)×Unit)):= cond (decide (s.2.1<s.1)) (cond ((decide (0≤s.2.1))&&(decide (s.2.1<(s.2.2.2.1.length:Int)))) (cond (lim ((a01 s.2.2.1)+(a01 (a04 s.2.2.2.1 (a00 s.2.1) [])))) (some (.inl (s.1,wrap .i64 (s.2.1+1),a03 s.2.2.1 (a04 s.2.2.2.1 (a00 s.2.1) []),s.2.2.2.1,()))) none) none) (some (.inr (s.2.2.1,())))
def a9j(x:b1o):Option ((List Int)×Int):= (a7x x).bind fun y1=> cond (!y1.2.2) (some ([],1)) ((y0m a8F (x.2.2.2.2.1,(x.2.2.2.2.1.length:Int),0,y1.1,([wrap .u64 x.1.1,wrap .u64 x.1.2.1,wrap .u64 x.1.2.2.1,wrap .u64 (x.2.2.2.2.1.length:Int)]:List Int),x,())).bind fun w3=> (a9g w3.2.1).bind fun y4=> cond (lim (4+(a01 y4))) ((a4h (w3.2.2.1.2.2.1,8)).bind fun y5=> cond (lim ((a01 (a03 [75,78,83,68] y4))+(a01 y5))) ((a4F (a03 (a03 [75,78,83,68] y4) y5)).bind fun y6=> (a4h (wrap .u64 y6,4)).bind fun y7=> cond (lim ((a01 (a03 (a03 [75,78,83,68] y4) y5))+(a01 y7))) ((y0m a8G ((w3.1.length:Int),0,a03 (a03 (a03 [75,78,83,68] y4) y5) y7,w3.1,())).bind fun w8=> some (w8.1,0)) none) none) none)
def b4K:FSem:=⟨[.v Q74],[.o (.int .u8),.v QI],a9j⟩
def H29:Hints:=⟨[(250,[.sv 39 (.list false Q60),.sv 40 QI,.sv 41 QI,.own 4 4 (.list false (.int .u8)),.own 7 7 (.int .u64),.vp 1 Q74],[(.exit 0,[.own 4 4 (.list false (.int .u8)),.own 7 7 (.int .u64),.vp 1 Q74])]),(4090,[.sv 76 QI,.sv 77 QI,.own 10 10 (.int .u8),.own 75 4 (.list false (.int .u8))],[(.exit 2,[.own 10 10 (.int .u8)])])],[],[(8,[.q,.q,.v,.q,.q,.v,.v,.q,.q,.v,.q,.x,.x])]⟩
def a7R(s:((List Int)×(Int×Int×Z10×Z10×Z20))):Option (((List Int)×(Int×Int×Z10×Z10×Z20)) ⊕ ((Z10×Z28) ⊕ Z45)):= cond (decide (s.2.2.1<s.2.1)) ((m0h s.1 s.2.2.1).bind fun x2=> (a1R (x2,s.2.2.2.2.2.1.2.2.1)).bind fun y3=> cond (!y3) (some (.inr (Sum.inr ((6,(0,([]:(List (List Int))),()),()))))) (cond (s.2.2.2.2.2.1.2.1==0) none (cond ((decide (0≤(a05 s.2.2.1 s.2.2.2.2.2.1.2.1)))&&(decide ((a05 s.2.2.1 s.2.2.2.2.2.1.2.1)<(s.2.2.2.2.1.2.1.length:Int)))) (cond (lim ((a01 (a04 s.2.2.2.2.1.2.1 (a00 (a05 s.2.2.1 s.2.2.2.2.2.1.2.1)) []))+1)) (cond ((decide (0≤(a05 s.2.2.1 s.2.2.2.2.2.1.2.1)))&&(decide ((a05 s.2.2.1 s.2.2.2.2.2.1.2.1)<((a01 (a19 s.2.2.2.2.1.2.1 (a00 (a05 s.2.2.1 s.2.2.2.2.2.1.2.1)) (a03 (a04 s.2.2.2.2.1.2.1 (a00 (a05 s.2.2.1 s.2.2.2.2.2.1.2.1)) []) [x2])):Nat):Int)))) (cond (((a00 (a05 s.2.2.1 s.2.2.2.2.2.1.2.1))==(a00 (a05 s.2.2.1 s.2.2.2.2.2.1.2.1)))&&true) (cond (((a00 (a05 s.2.2.1 s.2.2.2.2.2.1.2.1))==(a00 (a05 s.2.2.1 s.2.2.2.2.2.1.2.1)))&&true) (some (.inl (s.1,s.2.1,wrap .i64 (s.2.2.1+1),s.2.2.2.1,(s.2.2.2.2.1.1,a19 s.2.2.2.2.1.2.1 (a00 (a05 s.2.2.1 s.2.2.2.2.2.1.2.1)) (a03 (a04 s.2.2.2.2.1.2.1 (a00 (a05 s.2.2.1 s.2.2.2.2.2.1.2.1)) []) [x2]),s.2.2.2.2.1.2.2),s.2.2.2.2.2.1,()))) none) none) none) none) none))) (some (.inr (Sum.inl (s.2.2.2.1,s.2.2.2.2.1,()))))
def b0R(x:Z30):Option Z27:= (a1S x.2).bind fun y1=> cond (!y1) (some ((0,([]:(List (List Int))),()),1)) (cond ((x.1.length:Int)==0) (some ((0,([]:(List (List Int))),()),7)) (cond (x.2.2.1==0) none (cond ((a05 (x.1.length:Int) x.2.2.1) != 0) (some ((0,([]:(List (List Int))),()),3)) (cond (x.2.2.1==0) none (cond (decide ((wrap .i64 (a07 (x.1.length:Int) x.2.2.1)) > 4096)) (some ((0,([]:(List (List Int))),()),4)) (cond ((decide (0≤x.2.2.1))&&((decide (x.2.2.1≤x.2.2.1))&&(lim (a00 x.2.2.1)))) ((y0m a7R (x.1,(x.1.length:Int),0,(0,([]:(List (List Int))),()),(x.2.2.2.1,a02 (a00 x.2.2.1) [],()),x.2,())).bind fun w4=> match w4 with |.inl a5=>some (a5.2.1,0) |.inr b6=>some (b6.2.1,b6.1)) none))))))
def b7d:FSem:=⟨[.v QL,.v Q12],[.v Q15,.v QI],b0R⟩
def H96:Hints:=⟨[(1018,[.sv 38 QL,.sv 39 QI,.sv 40 QI,.box 4 Q15,.box 6 (.pair QI Q6),.vp 3 Q12,.ptr 4 4 [],.ptr 6 6 []],[(.exit 0,[.box 4 Q15,.box 6 (.pair QI Q6),.ptr 4 4 [],.ptr 6 6 []]),(.ret,[.sv 5 QI,.box 4 Q15,.ptr 4 4 []])])],[],[(9,[.v,.v,.v,.v,.q,.q,.q,.x]),(16,[.s,.s,.s,.q,.q,.v,.q,.q,.v,.q,.b [6,64,65],.x,.x])]⟩
def a5V(s:((List Int)×(Int×(Int×(Int×((List Int)×(Int×Z37))))))):Option (((List Int)×(Int×(Int×(Int×((List Int)×(Int×Z37)))))) ⊕ (((List Int)×(Int×Int×Z37)) ⊕ Z5)):= cond (decide (s.2.2.2.2.2.2.1<s.2.2.2.2.2.1)) ((m0h s.2.2.2.2.1 s.2.2.2.2.2.2.1).bind fun x4=> (a1R (x4,s.2.2.2.2.2.2.2.1.2.2.1)).bind fun y5=> cond (!y5) (some (.inr (Sum.inr ((6,[],()))))) (some (.inl (s.1,s.2.1,s.2.2.1,s.2.2.2.1,s.2.2.2.2.1,s.2.2.2.2.2.1,wrap .i64 (s.2.2.2.2.2.2.1+1),s.2.2.2.2.2.2.2.1,())))) (some (.inr (Sum.inl (s.1,s.2.1,s.2.2.1,s.2.2.2.1,s.2.2.2.2.2.2.2.1,()))))
def a3U(s:((List Int)×(Int×Int×Int×Int×Int×b1o×Z20))):Option (((List Int)×(Int×Int×Int×Int×Int×b1o×Z20)) ⊕ (b3r ⊕ Z5)):= cond (decide (s.2.2.2.2.2.1<s.2.2.2.1)) (cond ((decide (0≤(wrap .i64 ((v0n (wrap .i64 (s.2.2.2.2.2.1+s.2.1)) s.2.2.2.1)*s.2.2.2.2.2.2.2.1.2.1))))&&(decide ((wrap .i64 ((v0n (wrap .i64 (s.2.2.2.2.2.1+s.2.1)) s.2.2.2.1)*s.2.2.2.2.2.2.2.1.2.1))≤(s.1.length:Int)))) (cond ((decide (0≤(wrap .i64 (s.2.2.2.2.2.1*s.2.2.2.2.2.2.2.1.2.1))))&&(decide ((wrap .i64 (s.2.2.2.2.2.1*s.2.2.2.2.2.2.2.1.2.1))≤((a00 (wrap .i64 ((v0n (wrap .i64 (s.2.2.2.2.2.1+s.2.1)) s.2.2.2.1)*s.2.2.2.2.2.2.2.1.2.1)):Nat):Int)))) ((b0R (a20 (a00 (wrap .i64 (s.2.2.2.2.2.1*s.2.2.2.2.2.2.2.1.2.1))) (a06 (a00 (wrap .i64 ((v0n (wrap .i64 (s.2.2.2.2.2.1+s.2.1)) s.2.2.2.1)*s.2.2.2.2.2.2.2.1.2.1))) s.1),s.2.2.2.2.2.2.2.1)).bind fun y9=> cond (y9.2 != 0) (some (.inr (Sum.inr ((y9.2,[],()))))) ((a4E (y9.1,s.2.2.2.2.2.2.2.1,s.2.2.2.2.2.1,s.2.2.1)).bind fun y10=> cond (y10.2 != 0) (some (.inr (Sum.inr ((y10.2,[],()))))) ((a5I y10.1).bind fun y11=> cond (y11.2 != 0) (some (.inr (Sum.inr ((y11.2,[],()))))) ((a4r (s.2.2.2.2.2.2.1.2.2.1,y9.1)).bind fun y12=> cond (lim ((a01 s.2.2.2.2.2.2.1.2.2.2.1)+1)) (cond (lim ((a01 s.2.2.2.2.2.2.1.2.2.2.2.1)+1)) (some (.inl (s.1,s.2.1,s.2.2.1,s.2.2.2.1,wrap .i64 (s.2.2.2.2.1+(y11.1.length:Int)),wrap .i64 (s.2.2.2.2.2.1+s.2.1),(s.2.2.2.2.2.2.1.1,s.2.2.2.2.2.2.1.2.1,y12.1,a03 s.2.2.2.2.2.2.1.2.2.2.1 ([(s.2.2.2.2.2.1,s.2.2.2.2.1,())]:List (Int×Int×Unit)),a03 s.2.2.2.2.2.2.1.2.2.2.2.1 ([y10.1]:List a3r),s.2.2.2.2.2.2.1.2.2.2.2.2),s.2.2.2.2.2.2.2.1,()))) none) none)))) none) none) (some (.inr (Sum.inl (s.2.2.2.2.2.2.1,()))))
def a6j(x:(Z7×Z3)):Option ((List Int)×Int):= (show Option ((List Int)×(Int×Int×Z38))from(a1S x.1).bind fun y1=> cond (!y1) (some (x.2.1,x.2.2.1,x.2.2.2,true,x.1,())) (cond (decide (x.2.2.1<1)) (some (x.2.1,x.2.2.1,x.2.2.2,true,x.1,())) (cond (decide (x.2.2.1 > 4096)) (some (x.2.1,x.2.2.1,x.2.2.2,true,x.1,())) (cond (decide (x.2.2.2<0)) (some (x.2.1,x.2.2.1,x.2.2.2,true,x.1,())) (some (x.2.1,x.2.2.1,x.2.2.2,decide (x.2.2.2 > 3),x.1,())))))).bind fun z2=> cond z2.2.2.2.1 (some ([],1)) (cond (z2.2.2.2.2.1.2.1==0) none (cond ((a05 (z2.1.length:Int) z2.2.2.2.2.1.2.1) != 0) (some ([],3)) (cond (z2.2.2.2.2.1.2.1==0) none ((show Option ((List Int)×(Int×Int×Int×Z38))from cond (decide ((wrap .i64 (a07 (z2.1.length:Int) z2.2.2.2.2.1.2.1)) > 4194304)) (some (z2.1,z2.2.1,z2.2.2.1,wrap .i64 (a07 (z2.1.length:Int) z2.2.2.2.2.1.2.1),true,z2.2.2.2.2.1,())) (cond (z2.2.1==0) none (some (z2.1,z2.2.1,z2.2.2.1,wrap .i64 (a07 (z2.1.length:Int) z2.2.2.2.2.1.2.1),decide ((wrap .i64 (a07 (wrap .i64 ((wrap .i64 ((wrap .i64 (a07 (z2.1.length:Int) z2.2.2.2.2.1.2.1))+z2.2.1))-1)) z2.2.1)) > 4096),z2.2.2.2.2.1,())))).bind fun z3=> cond z3.2.2.2.2.1 (some ([],4)) ((y0m a5V (z3.1,z3.2.1,z3.2.2.1,z3.2.2.2.1,z3.1,(z3.1.length:Int),0,z3.2.2.2.2.2.1,())).bind fun w6=> match w6 with |.inl a7=>((y0m a3U (a7.1,a7.2.1,a7.2.2.1,a7.2.2.2.1,0,0,(a7.2.2.2.2.1,a7.2.2.2.1,0,[],[],()),a7.2.2.2.2.1,())).bind fun w13=> match w13 with |.inl a14=>((a9j a14.1).bind fun y16=> some (y16.1,y16.2)) |.inr b15=>some (b15.2.1,b15.1)) |.inr b8=>some (b8.2.1,b8.1))))))
def b1s:FSem:=⟨[.v Q12,.v QL,.v QI,.v QI],[.o (.int .u8),.v QI],a6j⟩
def H37:Hints:=⟨[(506,[.sv 1 QL,.sv 2 QI,.sv 3 QI,.sv 10 QI,.sv 62 QL,.sv 63 QI,.sv 64 QI,.vp 4 Q12],[(.exit 0,[.sv 1 QL,.sv 2 QI,.sv 3 QI,.sv 10 QI,.vp 4 Q12]),(.ret,[.sv 9 QI,.own 8 8 (.int .u8)])]),(4090,[.sv 1 QL,.sv 2 QI,.sv 3 QI,.sv 10 QI,.sv 14 QI,.sv 15 QI,.box 13 Q73,.vp 4 Q12,.ptr 13 13 []],[(.exit 2,[.box 13 Q73,.ptr 13 13 []]),(.ret,[.sv 9 QI,.own 8 8 (.int .u8)])])],[(6,[(.normal,[.sv 1 QL,.sv 2 QI,.sv 3 QI,.sv 39 .bool,.vp 4 Q12])]),(62,[(.normal,[.sv 1 QL,.sv 2 QI,.sv 3 QI,.sv 10 QI,.sv 61 .bool,.vp 4 Q12])])],[(20,[.v,.v,.v,.v,.v,.v,.v,.v,.v,.v,.v,.v,.v,.v,.v,.q,.w [0,17],.x])]⟩
def a5K(x:(List Int)):Option Z13:= cond (lim (a01 x)) (some (x,0,0,())) none
def b4L:FSem:=⟨[.v (.list false (.int .u8))],[.b Q16],a5K⟩
def d6W:Hints:=⟨[],[],[]⟩
def a5W(s:Z29):Option (Z29 ⊕ (Unit ⊕ Z7)):= cond (decide (s.2.2.2.1<s.2.2.1)) ((m0h s.2.1 s.2.2.2.1).bind fun x1=> (show Option (Int×Int×Int×Z33)from cond (s.2.2.2.1==9) (cond (decide (x1 > 1)) (some (s.1,s.2.2.2.1,x1,s.2.1,s.2.2.1,s.2.2.2.1,true,())) (cond (decide (s.2.2.2.1 > 0)) (some (s.1,s.2.2.2.1,x1,s.2.1,s.2.2.1,s.2.2.2.1,x1==0,())) (some (s.1,s.2.2.2.1,x1,s.2.1,s.2.2.1,s.2.2.2.1,false,())))) (cond (decide (s.2.2.2.1 > 0)) (some (s.1,s.2.2.2.1,x1,s.2.1,s.2.2.1,s.2.2.2.1,x1==0,())) (some (s.1,s.2.2.2.1,x1,s.2.1,s.2.2.1,s.2.2.2.1,false,())))).bind fun z2=> cond z2.2.2.2.2.2.2.1 (some (.inr (Sum.inr ((0,0,2,()))))) (cond (decide ((wrap .i64 (7*z2.2.1))<0)) none (cond (decide (z2.2.2.1<128)) (some (.inr (Sum.inr ((bits .u64 .or z2.1 (A0h .u64 (wrap .u64 (a05 z2.2.2.1 128)) (wrap .i64 (7*z2.2.1))),wrap .i64 (z2.2.1+1),0,()))))) (some (.inl (bits .u64 .or z2.1 (A0h .u64 (wrap .u64 (a05 z2.2.2.1 128)) (wrap .i64 (7*z2.2.1))),z2.2.2.2.1,z2.2.2.2.2.1,wrap .i64 (z2.2.2.2.2.2.1+1),())))))) (some (.inr (Sum.inl ())))
def a8H(x:(List Int)):Option (Int×Int×Int):= (y0m a5W (0,x,(x.length:Int),0,())).bind fun w3=> match w3 with |.inl a4=>some (0,0,3) |.inr b5=>some (b5.1,b5.2.1,b5.2.2.1)
def b5d:FSem:=⟨[.v (.list false (.int .u8))],[.v (.int .u64),.v QI,.v QI],a8H⟩
def d6X:Hints:=⟨[(58,[.sv 5 (.int .u64),.sv 8 (.list false (.int .u8)),.sv 9 QI,.sv 10 QI],[(.exit 0,[]),(.ret,[.sv 2 (.int .u64),.sv 3 QI,.sv 4 QI])])],[(7474,[(.normal,[.sv 5 (.int .u64),.sv 6 QI,.sv 7 (.int .u8),.sv 8 (.list false (.int .u8)),.sv 9 QI,.sv 10 QI,.sv 28 .bool])])],[]⟩
def a0R(x:Z32):Option Z29:= cond (x.1.2.2.1 != 0) (some (0,x.1)) (cond ((decide (0≤x.1.2.1))&&(decide (x.1.2.1≤(x.1.1.length:Int)))) ((a8H (a20 (a00 x.1.2.1) (a06 (a01 x.1.1) x.1.1))).bind fun y1=> (show Option Z82 from cond (y1.2.2==0) (cond (decide (y1.1 > x.2)) (some (y1.1,y1.2.1,4,x.1,())) (some (y1.1,y1.2.1,y1.2.2,x.1,()))) (some (y1.1,y1.2.1,y1.2.2,x.1,()))).bind fun z2=> cond (z2.2.2.1 != 0) (some (0,z2.2.2.2.1.1,z2.2.2.2.1.2.1,z2.2.2.1,z2.2.2.2.1.2.2.2)) (some (z2.1,z2.2.2.2.1.1,wrap .i64 (z2.2.2.2.1.2.1+z2.2.1),z2.2.2.2.1.2.2))) none)
def a8b:FSem:=⟨[.r false (.b Q16),.v (.int .u64)],[.v (.int .u64)],a0R⟩
def d6Y:Hints:=⟨[],[(15,[(.normal,[.sv 5 (.int .u64),.sv 6 QI,.sv 7 QI,.box pinned Q16,.ptr 0 pinned []])])],[(3,[.p,.p,.q,.q,.p,.p,.q,.q,.x,.x,.x,.v,.v,.v,.v,.v,.x])]⟩
def a3v(x:Z13):Option Z29:= some (x.2.2.1,x)
def a8c:FSem:=⟨[.r false (.b Q16)],[.v QI],a3v⟩
def d6Z:Hints:=⟨[],[],[]⟩
def a1E(x:Z13):Option Z29:= some (wrap .i64 ((x.1.length:Int)-x.2.1),x)
def a4P:FSem:=⟨[.r false (.b Q16)],[.v QI],a1E⟩
def d7a:Hints:=⟨[],[],[(1,[.p,.p,.q,.q,.v,.p,.p,.q,.q,.x,.x])]⟩
def a3V(x:Z13):Option Z29:= some (x.2.1,x)
def a8U:FSem:=⟨[.r false (.b Q16)],[.v QI],a3V⟩
def d7b:Hints:=⟨[],[],[]⟩
def a4Q(x:Z32):Option Z44:= cond (x.1.2.2.1 != 0) (some ([],x.1)) ((a1E x.1).bind fun y1=> cond (decide ((v0m x.2 0) > y1.1)) (some ([],y1.2.1,y1.2.2.1,3,y1.2.2.2.2)) (cond ((decide (0≤(wrap .i64 (y1.2.2.1+(v0m x.2 0)))))&&(decide ((wrap .i64 (y1.2.2.1+(v0m x.2 0)))≤(y1.2.1.length:Int)))) (cond ((decide (0≤y1.2.2.1))&&(decide (y1.2.2.1≤((a00 (wrap .i64 (y1.2.2.1+(v0m x.2 0))):Nat):Int)))) (cond (lim (a01 (a20 (a00 y1.2.2.1) (a06 (a00 (wrap .i64 (y1.2.2.1+(v0m x.2 0)))) y1.2.1)))) (some (a20 (a00 y1.2.2.1) (a06 (a00 (wrap .i64 (y1.2.2.1+(v0m x.2 0)))) y1.2.1),y1.2.1,wrap .i64 (y1.2.2.1+(v0m x.2 0)),y1.2.2.2)) none) none) none))
def b1l:FSem:=⟨[.r false (.b Q16),.v QI],[.o (.int .u8)],a4Q⟩
def d7c:Hints:=⟨[],[],[(7,[.p,.p,.q,.q,.p,.p,.q,.q,.p,.p,.q,.q,.v,.v,.x,.x,.x])]⟩
def a3C(s:Z92):Option (Z92 ⊕ Z54):= cond (decide (s.2.2.1<s.2.1)) (cond ((decide (0≤s.2.2.1))&&(decide (s.2.2.1<(s.2.2.2.1.length:Int)))) (some (.inl (wrap .u64 ((wrap .u64 (s.1*256))+(wrap .u64 (a04 s.2.2.2.1 (a00 s.2.2.1) 0))),s.2.1,wrap .i64 (s.2.2.1+1),s.2.2.2.1,s.2.2.2.2.1,()))) none) (some (.inr (s.1,s.2.2.2.2.1,())))
def a3w(x:Z32):Option Z29:= (a2S x.2).bind fun y1=> (a4Q (x.1,y1)).bind fun y2=> (y0m a3C (0,(y2.1.length:Int),0,y2.1,y2.2,())).bind fun w3=> some (w3.1,w3.2.1)
end Go.Ab
namespace Go.Ab
open IntKind(wrap)
open Go.Proofs
set_option maxRecDepth 100000
set_option linter.unusedVariables false
def b2n:FSem:=⟨[.r false (.b Q16),.v QI],[.v (.int .u64)],a3w⟩
def d7d:Hints:=⟨[(58,[.sv 5 (.int .u64),.sv 12 QI,.sv 13 QI,.own 11 1011 (.int .u8),.box pinned Q16],[(.exit 0,[.sv 5 (.int .u64),.box pinned Q16])])],[],[]⟩
def a5v(s:((List Int)×(Int×Int×Z94×Z94×Z36))):Option (((List Int)×(Int×Int×Z94×Z94×Z36)) ⊕ ((List Int)×(Z94×Z94×Z36))):= cond (decide (s.2.2.1<s.2.1)) ((a0R (s.2.2.2.2.2.1,1048704)).bind fun y6=> cond (lim ((a01 s.2.2.2.2.1.2.1)+1)) ((a0R (y6.2,4096)).bind fun y7=> cond (lim ((a01 s.2.2.2.2.1.2.2.1)+1)) (some (.inl (s.1,s.2.1,wrap .u64 (s.2.2.1+1),s.2.2.2.1,(s.2.2.2.2.1.1,a03 s.2.2.2.2.1.2.1 [wrap .i64 y6.1],a03 s.2.2.2.2.1.2.2.1 [wrap .i64 y7.1],s.2.2.2.2.1.2.2.2),y7.2,()))) none) none) (some (.inr (s.1,s.2.2.2.1,s.2.2.2.2.1,s.2.2.2.2.2.1,())))
def a5w(s:(Int×Int×Z94×Z98)):Option ((Int×Int×Z94×Z98) ⊕ ((Z94×Z98) ⊕ (Int×Z98))):= cond (decide (s.2.1<s.1)) (cond ((decide (0≤s.2.1))&&(decide (s.2.1<(s.2.2.2.1.2.2.1.length:Int)))) (cond ((a04 s.2.2.2.1.2.2.1 (a00 s.2.1) 0)==0) (some (.inr (Sum.inr ((2,((0,0,0,()),[],[],0,0,0,()),()))))) (some (.inl (s.1,wrap .i64 (s.2.1+1),s.2.2.1,(s.2.2.2.1.1,s.2.2.2.1.2.1,s.2.2.2.1.2.2.1,wrap .i64 (s.2.2.2.1.2.2.2.1+(a04 s.2.2.2.1.2.2.1 (a00 s.2.1) 0)),s.2.2.2.1.2.2.2.2),())))) none) (some (.inr (Sum.inl (s.2.2.1,s.2.2.2.1,()))))
def a5x(x:(List Int)):Option (Z94×Int):= cond (decide ((x.length:Int)<4)) (some (((0,0,0,()),[],[],0,0,0,()),3)) (cond (decide (4≤(x.length:Int))) (cond ((b2s (a06 4 x)) != [75,78,83,68]) (some (((0,0,0,()),[],[],0,0,0,()),2)) (cond (decide (4≤(x.length:Int))) ((a5K (a20 4 (a06 (a01 x) x))).bind fun y1=> (a0R (y1,1048576)).bind fun y2=> (a0R (y2.2,8)).bind fun y3=> (a0R (y3.2,24)).bind fun y4=> (a0R (y4.2,4096)).bind fun y5=> (y0m a5v (x,y5.1,0,((0,0,0,()),[],[],0,0,0,()),((wrap .i64 y2.1,wrap .i64 y3.1,wrap .i64 y4.1,()),[],[],0,0,0,()),y5.2,())).bind fun w8=> (a3v w8.2.2.2.1).bind fun y9=> cond (y9.1 != 0) (some (((0,0,0,()),[],[],0,0,0,()),y9.1)) ((a1E y9.2).bind fun y10=> cond (decide (y10.1<12)) (some (((0,0,0,()),[],[],0,0,0,()),3)) ((a3w (y10.2,8)).bind fun y11=> (a3V y11.2).bind fun y12=> cond ((decide (0≤(wrap .i64 (4+y12.1))))&&(decide ((wrap .i64 (4+y12.1))≤(w8.1.length:Int)))) ((a4F (a06 (a00 (wrap .i64 (4+y12.1))) w8.1)).bind fun y13=> (a3w (y12.2,4)).bind fun y14=> cond ((wrap .u64 y13) != y14.1) (some (((0,0,0,()),[],[],0,0,0,()),5)) ((a1S w8.2.2.1.1).bind fun y15=> cond (!y15) (some (((0,0,0,()),[],[],0,0,0,()),2)) ((y0m a5w ((w8.2.2.1.2.2.1.length:Int),0,w8.2.1,(w8.2.2.1.1,w8.2.2.1.2.1,w8.2.2.1.2.2.1,w8.2.2.1.2.2.2.1,y11.1,wrap .i64 ((wrap .i64 (4+y12.1))+4),w8.2.2.1.2.2.2.2.2.2),())).bind fun w16=> match w16 with |.inl a17=>(cond (decide (a17.2.1.2.2.2.1 > 4194304)) (some (((0,0,0,()),[],[],0,0,0,()),2)) (some (a17.2.1,0))) |.inr b18=>some (b18.2.1,b18.1)))) none))) none)) none)
def a7S:FSem:=⟨[.v (.list false (.int .u8))],[.v Q27,.v QI],a5x⟩
def d7e:Hints:=⟨[(4090,[.sv 0 (.list false (.int .u8)),.sv 38 (.int .u64),.sv 39 (.int .u64),.box 2 Q27,.box 4 Q26,.box 1021 Q16,.ptr 2 2 [],.ptr 4 4 [],.ptr 5 1021 []],[(.exit 0,[.sv 0 (.list false (.int .u8)),.box 2 Q27,.box 4 Q26,.box 1021 Q16,.ptr 2 2 [],.ptr 4 4 [],.ptr 5 1021 []])]),(1048570,[.sv 93 QI,.sv 94 QI,.box 2 Q27,.box 4 Q26,.ptr 2 2 [],.ptr 4 4 [],.ref 92 4 [.snd,.snd,.fst]],[(.exit 2,[.box 2 Q27,.box 4 Q26,.ptr 2 2 [],.ptr 4 4 []]),(.ret,[.sv 3 QI,.box 2 Q27,.ptr 2 2 []])])],[],[(12,[.r [4,41],.r [4,42],.q,.w [44,1021,1044],.v,.q,.x,.x,.x]),(13,[.r [4,49],.r [4,50],.q,.w [52,1021,1052],.v,.q,.x,.x,.x])]⟩
def b1W(x:Int):Option Int:= cond ((a05 x 2)==0) (some (wrap .i64 (wrap .u64 (a07 x 2)))) (some (wrap .i64 ((wrap .i64 (0-(wrap .i64 (wrap .u64 (a07 x 2)))))-1)))
def b8c:FSem:=⟨[.v (.int .u64)],[.v QI],b1W⟩
def d7f:Hints:=⟨[],[],[]⟩
def a5y(s:((List Int)×(Int×Int×c0W))):Option (((List Int)×(Int×Int×c0W)) ⊕ ((List Int)×c0W)):= cond (decide (s.2.2.1<s.2.1)) ((a0R (s.2.2.2.2.1,7)).bind fun y11=> (a0R (y11.2,7)).bind fun y12=> (a0R (y12.2,2048)).bind fun y13=> (b1W y13.1).bind fun y14=> cond (lim ((a01 s.2.2.2.1.2.2.2.1)+1)) (some (.inl (s.1,s.2.1,wrap .u64 (s.2.2.1+1),(s.2.2.2.1.1,s.2.2.2.1.2.1,s.2.2.2.1.2.2.1,a03 s.2.2.2.1.2.2.2.1 ([(wrap .i64 y11.1,wrap .i64 y12.1,y14,())]:List Z7),s.2.2.2.1.2.2.2.2),y13.2,()))) none) (some (.inr (s.1,s.2.2.2.1,s.2.2.2.2.1,())))
def a7T(x:(List Int)):Option (a3r×Int×Int×Int):= cond (decide ((x.length:Int)<2)) (some ((0,0,(0,0,0,()),[],[],()),0,0,3)) ((show Option ((List Int)×(Bool×b4A))from(m0h x 0).bind fun x1=> cond (x1 != 245) (some (x,true,(0,0,(0,0,0,()),[],[],()),())) ((m0h x 1).bind fun x2=> some (x,x2 != 75,(0,0,(0,0,0,()),[],[],()),()))).bind fun z3=> cond z3.2.1 (some ((0,0,(0,0,0,()),[],[],()),0,0,2)) (cond (decide (2≤(z3.1.length:Int))) ((a5K (a20 2 (a06 (a01 z3.1) z3.1))).bind fun y4=> (a0R (y4,4194304)).bind fun y5=> (a0R (y5.2,4096)).bind fun y6=> (a0R (y6.2,1048576)).bind fun y7=> (a0R (y7.2,8)).bind fun y8=> (a0R (y8.2,24)).bind fun y9=> (a0R (y9.2,16)).bind fun y10=> (y0m a5y (z3.1,y10.1,0,(wrap .i64 y5.1,wrap .i64 y6.1,(wrap .i64 y7.1,wrap .i64 y8.1,wrap .i64 y9.1,z3.2.2.1.2.2.1.2.2.2),z3.2.2.1.2.2.2),y10.2,())).bind fun w15=> (a0R (w15.2.2.1,1048576)).bind fun y16=> (a3v y16.2).bind fun y17=> cond (y17.1 != 0) (some ((0,0,(0,0,0,()),[],[],()),0,0,y17.1)) ((a1E y17.2).bind fun y18=> cond (decide (y18.1<1)) (some ((0,0,(0,0,0,()),[],[],()),0,0,3)) ((a3V y18.2).bind fun y19=> cond ((decide (0≤(wrap .i64 (2+y19.1))))&&(decide ((wrap .i64 (2+y19.1))≤(w15.1.length:Int)))) ((a7Z (a06 (a00 (wrap .i64 (2+y19.1))) w15.1)).bind fun y20=> (m0h w15.1 (wrap .i64 (2+y19.1))).bind fun x21=> cond (y20 != x21) (some ((0,0,(0,0,0,()),[],[],()),0,0,5)) ((a6V w15.2.1).bind fun y22=> cond (!y22) (some ((0,0,(0,0,0,()),[],[],()),0,0,2)) (some (w15.2.1,wrap .i64 ((wrap .i64 (2+y19.1))+1),wrap .i64 y16.1,0)))) none))) none))
def b4e:FSem:=⟨[.v (.list false (.int .u8))],[.v (.pair QI (.pair QI (.pair Q12 (.pair (.list false Q12) Q43)))),.v QI,.v QI,.v QI],a7T⟩
def H71:Hints:=⟨[(8186,[.sv 0 (.list false (.int .u8)),.sv 54 (.int .u64),.sv 55 (.int .u64),.box 2 Q58,.box 1029 Q16,.ptr 2 2 [],.ptr 6 1029 []],[(.exit 0,[.sv 0 (.list false (.int .u8)),.box 2 Q58,.box 1029 Q16,.ptr 2 2 [],.ptr 6 1029 []])])],[(14,[(.normal,[.sv 0 (.list false (.int .u8)),.sv 25 .bool,.box 2 Q58,.ptr 2 2 []])])],[(25,[.v,.v,.v,.v,.v,.v,.v,.v,.x])]⟩
def b2W(x:(List Int)):Option Z13:= cond (lim (a01 x)) (some (x,0,0,())) none
def b9l:FSem:=⟨[.v (.list false (.int .u8))],[.b Q16],b2W⟩
def H72:Hints:=⟨[],[],[]⟩
def a0N(x:Z13):Option Z29:= some (x.2.2.1,x)
def a2h:FSem:=⟨[.r false (.b Q16)],[.v QI],a0N⟩
def H76:Hints:=⟨[],[],[]⟩
def a2B(x:Z13):Option Z29:= some (wrap .i64 ((wrap .i64 (8*(x.1.length:Int)))-x.2.1),x)
def a8d:FSem:=⟨[.r false (.b Q16)],[.v QI],a2B⟩
def H74:Hints:=⟨[],[],[(1,[.p,.p,.q,.q,.v,.v,.p,.p,.q,.q,.x,.x])]⟩
def a1z(x:Z32):Option Z29:= (m0h x.1.1 (wrap .i64 (a07 x.2 8))).bind fun x1=> cond (decide ((wrap .i64 (7-(a05 x.2 8)))<0)) none (some (bits .u8 .and (A0i .u8 x1 (wrap .i64 (7-(a05 x.2 8)))) 1,x.1))
def a5z:FSem:=⟨[.r false (.b Q16),.v QI],[.v (.int .u8)],a1z⟩
def d7g:Hints:=⟨[],[],[]⟩
def a3Z(s:Z82):Option (Z82 ⊕ Z54):= cond (decide (s.2.2.1<s.2.1)) ((a1z (s.2.2.2.1,s.2.2.2.1.2.1)).bind fun y3=> some (.inl (bits .u64 .or (A0h .u64 s.1 1) (wrap .u64 y3.1),s.2.1,wrap .i64 (s.2.2.1+1),(y3.2.1,wrap .i64 (y3.2.2.1+1),y3.2.2.2),()))) (some (.inr (s.1,s.2.2.2.1,())))
def a0G(x:Z32):Option Z29:= cond (x.1.2.2.1 != 0) (some (0,x.1)) ((show Option Z67 from cond (decide (x.2<0)) (some (x.2,true,x.1,())) (some (x.2,decide (x.2 > 64),x.1,()))).bind fun z1=> cond z1.2.1 (some (0,z1.2.2.1.1,z1.2.2.1.2.1,1,z1.2.2.1.2.2.2)) ((a2B z1.2.2.1).bind fun y2=> cond (decide (z1.1 > y2.1)) (some (0,y2.2.1,y2.2.2.1,3,y2.2.2.2.2)) ((y0m a3Z (0,z1.1,0,y2.2,())).bind fun w4=> some (w4.1,w4.2.1))))
def a2i:FSem:=⟨[.r false (.b Q16),.v QI],[.v (.int .u64)],a0G⟩
def d7h:Hints:=⟨[(506,[.sv 5 (.int .u64),.sv 27 QI,.sv 28 QI,.box pinned Q16,.ptr 0 pinned []],[(.exit 0,[.sv 5 (.int .u64),.box pinned Q16])])],[(14,[(.normal,[.sv 1 QI,.sv 16 .bool,.box pinned Q16,.ptr 0 pinned []])])],[]⟩
def a1a(x:Z32):Option Z29:= (a0G (x.1,x.2)).bind fun y1=> (show Option (Int×Z67)from cond (y1.2.2.2.1 != 0) (some (x.2,y1.1,true,y1.2,())) (some (x.2,y1.1,x.2==0,y1.2,()))).bind fun z2=> cond z2.2.2.1 (some (0,z2.2.2.2.1)) (cond (decide ((wrap .i64 (64-z2.1))<0)) none (cond (decide ((wrap .i64 (64-z2.1))<0)) none (some (A0i .i64 (wrap .i64 (A0h .u64 z2.2.1 (wrap .i64 (64-z2.1)))) (wrap .i64 (64-z2.1)),z2.2.2.2.1))))
def a2J:FSem:=⟨[.r false (.b Q16),.v QI],[.v QI],a1a⟩
def d7i:Hints:=⟨[],[(14,[(.normal,[.sv 1 QI,.sv 5 (.int .u64),.sv 17 .bool,.box pinned Q16])])],[]⟩
def a5X(s:(Int×c0V)):Option ((Int×c0V) ⊕ (Int×c5v)):= cond (decide (s.2.2.1<s.2.1)) ((a1a (s.2.2.2.1,s.1)).bind fun y4=> cond (lim ((a01 s.2.2.2.2.1.2.2.2.2.2.1)+1)) (some (.inl (s.1,s.2.1,wrap .i64 (s.2.2.1+1),y4.2,(s.2.2.2.2.1.1,s.2.2.2.2.1.2.1,s.2.2.2.2.1.2.2.1,s.2.2.2.2.1.2.2.2.1,s.2.2.2.2.1.2.2.2.2.1,a03 s.2.2.2.2.1.2.2.2.2.2.1 [y4.1],s.2.2.2.2.1.2.2.2.2.2.2),()))) none) (some (.inr (s.1,s.2.2.2.2.1,s.2.2.2.1,())))
def a8I(x:(Z13×a1U)):Option (Bool×Z13×a1U):= (a0G (x.1,5)).bind fun y1=> (a0G (y1.2,4)).bind fun y2=> (a0G (y2.2,5)).bind fun y3=> (y0m a5X (wrap .i64 y3.1,wrap .i64 ((wrap .i64 y1.1)+1),0,y3.2,(x.2.1,x.2.2.1,x.2.2.2.1,wrap .i64 y2.1,x.2.2.2.2.2),())).bind fun w5=> (a1r w5.2.1.2.2.2.2.2.1).bind fun y6=> some (y6==w5.1,w5.2.2.1,w5.2.1)
def b5e:FSem:=⟨[.r false (.b Q16),.r false (.b Q41)],[.v .bool],a8I⟩
def d7j:Hints:=⟨[(250,[.sv 6 QI,.sv 20 QI,.sv 21 QI,.box pinned Q16,.box 1000001 Q41,.ptr 0 pinned [],.ptr 1 1000001 []],[(.exit 0,[.sv 6 QI,.box 1000001 Q41,.box pinned Q16,.ptr 1 1000001 []])])],[],[(6,[.p,.p,.p,.r [26,1000001],.r [27,1000001],.p,.v,.w [30,1030,pinned],.q,.a [31,32,1000001],.x,.x,.x])]⟩
def a3h(s:c0V):Option (c0V ⊕ c8d):= cond (decide (s.2.1<3)) ((a1a (s.2.2.1,8)).bind fun y6=> cond ((decide (0≤s.2.1))&&(decide (s.2.1<3))) (some (.inl (s.1,wrap .i64 (s.2.1+1),y6.2,(s.2.2.2.1.1,s.2.2.2.1.2.1,s.2.2.2.1.2.2.1,s.2.2.2.1.2.2.2.1,s.2.2.2.1.2.2.2.2.1,s.2.2.2.1.2.2.2.2.2.1,a19 s.2.2.2.1.2.2.2.2.2.2.1 (a00 s.2.1) y6.1,s.2.2.2.1.2.2.2.2.2.2.2),()))) none) (some (.inr (s.1,s.2.2.1,s.2.2.2.1,())))
def a6M(s:(Int×Bool×c0V)):Option ((Int×Bool×c0V) ⊕ (Int×Bool×c5v)):= cond (decide (s.2.2.2.1<s.2.2.1)) ((a0G (s.2.2.2.2.1,5)).bind fun y15=> (a0G (y15.2,4)).bind fun y16=> cond (lim ((a01 s.2.2.2.2.2.1.2.2.2.2.2.2.2.1)+1)) (some (.inl (s.1,s.2.1,s.2.2.1,wrap .u64 (s.2.2.2.1+1),y16.2,(s.2.2.2.2.2.1.1,s.2.2.2.2.2.1.2.1,s.2.2.2.2.2.1.2.2.1,s.2.2.2.2.2.1.2.2.2.1,s.2.2.2.2.2.1.2.2.2.2.1,s.2.2.2.2.2.1.2.2.2.2.2.1,s.2.2.2.2.2.1.2.2.2.2.2.2.1,a03 s.2.2.2.2.2.1.2.2.2.2.2.2.2.1 ([(wrap .i64 ((wrap .i64 y15.1)+1),wrap .i64 y16.1,())]:List (Int×Int×Unit)),s.2.2.2.2.2.1.2.2.2.2.2.2.2.2),()))) none) (some (.inr (s.1,s.2.1,s.2.2.2.2.2.1,s.2.2.2.2.1,())))
def a9v(x:Z13):Option (a1U×Int×Bool×Z13):= (a0G (x,3)).bind fun y1=> (a0G (y1.2,5)).bind fun y2=> (a0G (y2.2,5)).bind fun y3=> (show Option (Int×Bool×c5v)from(show Option (c8d ⊕ ((Int×Bool×c5v) ⊕ (Int×Bool×d1H)))from cond ((wrap .i64 y1.1)==2) ((a0G (y3.2,3)).bind fun y4=> some (Sum.inr (Sum.inl (wrap .i64 y3.1,true,(wrap .i64 y1.1,wrap .i64 y2.1,wrap .i64 y4.1,0,0,[],a02 3 0,[],[],(0,[],()),[],()),y4.2,())))) (cond ((wrap .i64 y1.1)==4) ((a0G (y3.2,10)).bind fun y5=> (y0m a3h (wrap .i64 y3.1,0,y5.2,(wrap .i64 y1.1,wrap .i64 y2.1,0,0,wrap .i64 ((wrap .i64 y5.1)+1),[],a02 3 0,[],[],(0,[],()),[],()),())).bind fun w7=> some (Sum.inl (w7.1,w7.2.1,w7.2.2.1,()))) (cond ((wrap .i64 y1.1)==3) (some (Sum.inl (wrap .i64 y3.1,y3.2,(wrap .i64 y1.1,wrap .i64 y2.1,0,0,0,[],a02 3 0,[],[],(0,[],()),[],()),()))) (cond ((wrap .i64 y1.1)==5) (some (Sum.inr (Sum.inr ((wrap .i64 y3.1,true,y3.2,(wrap .i64 y1.1,wrap .i64 y2.1,0,0,0,[],a02 3 0,[],[],(0,[],()),[],()),()))))) (some (Sum.inr (Sum.inl (wrap .i64 y3.1,true,(wrap .i64 y1.1,wrap .i64 y2.1,0,0,0,[],a02 3 0,[],[],(0,[],()),[],()),y3.2,())))))))).bind fun z8=> match z8 with |.inl a9=>((a8I (a9.2.1,a9.2.2.1)).bind fun y11=> some (a9.1,y11.1,y11.2.2,y11.2.1,())) |.inr b10=>(match b10 with |.inl a12=>some (a12.1,a12.2.1,a12.2.2.1,a12.2.2.2.1,()) |.inr b13=>((a0G (b13.2.2.1,2)).bind fun y14=> (y0m a6M (b13.1,b13.2.1,y14.1,0,y14.2,b13.2.2.2.1,())).bind fun w17=> some (w17.1,w17.2.1,w17.2.2.1,w17.2.2.2.1,())))).bind fun z18=> some (z18.2.2.1,z18.1,z18.2.1,z18.2.2.2.1)
def b6z:FSem:=⟨[.r false (.b Q16)],[.v (.pair QI (.pair QI (.pair QI (.pair QI (.pair QI (.pair QL (.pair (.arr 3 QI) (.pair (.list false Q3) Q23)))))))),.v QI,.v .bool],a9v⟩
def d7k:Hints:=⟨[(8106,[.sv 3 QI,.sv 4 .bool,.sv 50 (.int .u64),.sv 51 (.int .u64),.box pinned Q16,.box 2 Q41,.ptr 0 pinned [],.ptr 2 2 []],[(.exit 7,[.sv 3 QI,.sv 4 .bool,.box 2 Q41,.box pinned Q16,.ptr 2 2 []])]),(129550,[.sv 3 QI,.sv 38 QI,.box pinned Q16,.box 2 Q41,.ptr 0 pinned [],.ptr 2 2 []],[(.exit 5,[.sv 3 QI,.box pinned Q16,.box 2 Q41,.ptr 0 pinned [],.ptr 2 2 []])])],[(63,[(.normal,[.sv 3 QI,.sv 4 .bool,.box 2 Q41,.box pinned Q16,.ptr 2 2 []])]),(2024,[(.normal,[.sv 3 QI,.box pinned Q16,.box 2 Q41,.ptr 0 pinned [],.ptr 2 2 []]),(.exit 0,[.sv 3 QI,.sv 4 .bool,.box 2 Q41,.box pinned Q16,.ptr 2 2 []]),(.exit 4,[.sv 3 QI,.sv 4 .bool,.box pinned Q16,.box 2 Q41,.ptr 0 pinned [],.ptr 2 2 []])])],[]⟩
def a3o(s:Z82):Option (Z82 ⊕ Z54):= cond (s.2.2.1==(wrap .i64 (8*(s.2.2.2.1.1.length:Int)))) (some (.inr (0,(s.2.2.2.1.1,s.2.2.2.1.2.1,3,s.2.2.2.1.2.2.2),()))) ((a1z (s.2.2.2.1,s.2.2.1)).bind fun y2=> cond (y2.1==1) (some (.inr (s.2.1,(y2.2.1,wrap .i64 (s.2.2.1+1),y2.2.2.2),()))) (cond (s.2.1==s.1) (some (.inr (0,(y2.2.1,y2.2.2.1,2,y2.2.2.2.2),()))) (some (.inl (s.1,wrap .i64 (s.2.1+1),wrap .i64 (s.2.2.1+1),y2.2,())))))
def a1F(x:Z32):Option Z29:= cond (x.1.2.2.1 != 0) (some (0,x.1)) ((y0m a3o (v0m x.2 0,0,x.1.2.1,x.1,())).bind fun w3=> some (w3.1,w3.2.1))
def b1m:FSem:=⟨[.r false (.b Q16),.v QI],[.v QI],a1F⟩
def d7l:Hints:=⟨[(62,[.sv 1 QI,.sv 5 QI,.sv 6 QI,.box pinned Q16,.ptr 0 pinned []],[(.ret,[.sv 4 QI,.box pinned Q16])])],[],[(4,[.p,.p,.q,.q,.v,.x])]⟩
def a7k(x:Int):Option Int:= cond (decide (x≥2147483648)) (some 0) (cond ((a05 x 2)==0) (some (wrap .i64 (wrap .u64 (a07 x 2)))) (some (wrap .i64 ((wrap .i64 (0-(wrap .i64 (wrap .u64 (a07 x 2)))))-1))))
def b6A:FSem:=⟨[.v (.int .u64)],[.v QI],a7k⟩
def d7m:Hints:=⟨[],[],[]⟩
def b2X(x:Z32):Option Z49:= (a1F (x.1,32)).bind fun y1=> (a0N y1.2).bind fun y2=> cond (y2.1 != 0) ((a0N y2.2).bind fun y3=> some (0,y3.1,y3.2)) (cond (decide ((wrap .u64 y1.1)<32)) ((a0G (y2.2,x.2)).bind fun y4=> cond (decide (x.2<0)) none ((a7k (wrap .u64 ((A0h .u64 (wrap .u64 y1.1) x.2)+y4.1))).bind fun y5=> (a0N y4.2).bind fun y6=> some (y5,y6.1,y6.2))) ((a0G (y2.2,32)).bind fun y7=> (a0N y7.2).bind fun y8=> cond (y8.1 != 0) ((a0N y8.2).bind fun y9=> some (0,y9.1,y9.2)) ((show Option Z67 from cond (decide (y7.1≥2147483648)) (some (y7.1,true,y8.2,())) (cond (decide (x.2<0)) none (some (y7.1,decide ((A0i .u64 y7.1 x.2)<32),y8.2,())))).bind fun z10=> cond z10.2.1 (some (0,2,z10.2.2.1)) ((a7k z10.1).bind fun y11=> some (y11,0,z10.2.2.1)))))
def b9m:FSem:=⟨[.r false (.b Q16),.v QI],[.v QI,.v QI],b2X⟩
def d7n:Hints:=⟨[],[(254,[(.normal,[.sv 8 (.int .u64),.sv 44 .bool,.box pinned Q16])])],[]⟩
def a9w(s:Z92):Option (Z92 ⊕ (Z63 ⊕ Z78)):= cond (decide (s.2.2.1<s.2.1)) ((b2X (s.2.2.2.2.1,s.1)).bind fun y5=> cond (y5.2.1 != 0) (some (.inr (Sum.inr ((y5.2.1,[],y5.2.2,()))))) (cond (lim ((a01 s.2.2.2.1)+1)) (some (.inl (s.1,s.2.1,wrap .i64 (s.2.2.1+1),a03 s.2.2.2.1 [y5.1],y5.2.2,()))) none)) (some (.inr (Sum.inl (s.2.2.2.1,s.2.2.2.2.1,()))))
def b2Y(x:(Z13×Int×Int)):Option Z59:= (show Option (Int×Z67)from(a1N x.2.1).bind fun y1=> cond (!y1) (some (x.2.1,x.2.2,true,x.1,())) (cond (decide (x.2.2<0)) (some (x.2.1,x.2.2,true,x.1,())) (some (x.2.1,x.2.2,decide (x.2.2 > 4194304),x.1,())))).bind fun z2=> cond z2.2.2.1 (some ([],1,z2.2.2.2.1)) ((a0N z2.2.2.2.1).bind fun y3=> cond (y3.1 != 0) ((a0N y3.2).bind fun y4=> some ([],y4.1,y4.2)) ((y0m a9w (z2.1,z2.2.1,0,[],y3.2,())).bind fun w6=> match w6 with |.inl a7=>some (a7.1,0,a7.2.1) |.inr b8=>some (b8.2.1,b8.1,b8.2.2.1)))
def b9n:FSem:=⟨[.r false (.b Q16),.v QI,.v QI],[.o QI,.v QI],b2Y⟩
def d7o:Hints:=⟨[(250,[.sv 1 QI,.sv 27 QI,.sv 28 QI,.own 8 8 QI,.box pinned Q16,.ptr 0 pinned []],[(.exit 0,[.own 8 8 QI,.box pinned Q16]),(.ret,[.sv 7 QI,.own 6 6 QI,.box pinned Q16])])],[(6,[(.normal,[.sv 1 QI,.sv 2 QI,.sv 21 .bool,.box pinned Q16,.ptr 0 pinned []])])],[]⟩
def a8J(s:(Int×Z92)):Option ((Int×Z92) ⊕ Z88):= cond (decide (s.2.2.2.1<s.2.2.1)) ((a1a (s.2.2.2.2.2.1,s.2.1)).bind fun y6=> cond (lim ((a01 s.2.2.2.2.1)+1)) (some (.inl (s.1,s.2.1,s.2.2.1,wrap .i64 (s.2.2.2.1+1),a03 s.2.2.2.2.1 [y6.1],y6.2,()))) none) (some (.inr (s.1,s.2.1,s.2.2.2.2.1,s.2.2.2.2.2.1,())))
def b1X(x:Z32):Option (Int×Z59):= (a0G (x.1,5)).bind fun y1=> (a0N y1.2).bind fun y2=> cond (y2.1 != 0) ((a0N y2.2).bind fun y3=> some (0,[],y3.1,y3.2)) (cond (decide ((wrap .i64 y1.1)≤25)) ((b2Y (y2.2,wrap .i64 y1.1,x.2)).bind fun y4=> some (wrap .i64 y1.1,y4.1,y4.2.1,y4.2.2)) (cond ((wrap .i64 y1.1) != 31) (some (0,[],2,y2.2)) ((a0G (y2.2,5)).bind fun y5=> (y0m a8J (wrap .i64 y1.1,wrap .i64 y5.1,x.2,0,[],y5.2,())).bind fun w7=> (a0N w7.2.2.2.1).bind fun y8=> cond (y8.1 != 0) ((a0N y8.2).bind fun y9=> some (0,[],y9.1,y9.2)) ((a1r w7.2.2.1).bind fun y10=> cond (y10 != w7.2.1) (some (0,[],2,y8.2)) (some (w7.1,w7.2.2.1,0,y8.2))))))
def b8d:FSem:=⟨[.r false (.b Q16),.v QI],[.v QI,.o QI,.v QI],b1X⟩
def d7p:Hints:=⟨[(2042,[.sv 7 QI,.sv 10 QI,.sv 37 QI,.sv 38 QI,.own 11 11 QI,.box pinned Q16,.ptr 0 pinned []],[(.exit 0,[.sv 7 QI,.sv 10 QI,.own 11 11 QI,.box pinned Q16,.ptr 0 pinned []])])],[],[]⟩
def a8K(s:(Int×(Int×((List Int)×((List Int)×(Z13×Z81)))))):Option ((Int×(Int×((List Int)×((List Int)×(Z13×Z81))))) ⊕ (((List Int)×(Z5×Z5×Z36)) ⊕ (Int×((List Int)×(Z5×Z36))))):= cond (decide (s.2.1<s.1)) (cond ((decide (0≤s.2.1))&&(decide (s.2.1<(s.2.2.2.1.length:Int)))) ((b1X (s.2.2.2.2.1,a04 s.2.2.2.1 (a00 s.2.1) 0)).bind fun y6=> cond (y6.2.2.1 != 0) (some (.inr (Sum.inr ((y6.2.2.1,[],(0,[],()),y6.2.2.2,()))))) (cond (lim ((a01 s.2.2.2.2.2.2.1.2.1)+1)) (cond (lim ((a01 s.2.2.1)+(a01 y6.2.1))) (some (.inl (s.1,wrap .i64 (s.2.1+1),a03 s.2.2.1 y6.2.1,s.2.2.2.1,y6.2.2.2,s.2.2.2.2.2.1,(s.2.2.2.2.2.2.1.1,a03 s.2.2.2.2.2.2.1.2.1 [y6.1],s.2.2.2.2.2.2.1.2.2),()))) none) none)) none) (some (.inr (Sum.inl (s.2.2.1,s.2.2.2.2.2.1,s.2.2.2.2.2.2.1,s.2.2.2.2.1,()))))
def b1Y(x:(Z13×Int×Int)):Option (Z5×Z59):= (a7s (x.2.1,x.2.2)).bind fun y1=> cond (!y1) (some ((0,[],()),[],1,x.1)) ((a0G (x.1,4)).bind fun y2=> (a0N y2.2).bind fun y3=> cond (y3.1 != 0) ((a0N y3.2).bind fun y4=> some ((0,[],()),[],y4.1,y4.2)) ((a2R (wrap .i64 y2.1,x.2.1,x.2.2)).bind fun y5=> cond ((y5.length:Int)==0) (some ((0,[],()),[],2,y3.2)) ((y0m a8K ((y5.length:Int),0,[],y5,y3.2,(0,[],()),(wrap .i64 y2.1,[],()),())).bind fun w7=> match w7 with |.inl a8=>some (a8.2.2.1,a8.1,0,a8.2.2.2.1) |.inr b9=>some (b9.2.2.1,b9.2.1,b9.1,b9.2.2.2.1))))
def b8e:FSem:=⟨[.r false (.b Q16),.v QI,.v QI],[.v Q11,.o QI,.v QI],b1Y⟩
def d7q:Hints:=⟨[(4090,[.sv 43 QI,.sv 44 QI,.own 12 12 QI,.own 42 10 QI,.box pinned Q16,.box 6 Q11,.box 11 Q10,.ptr 0 pinned [],.ptr 6 6 [],.ptr 11 11 []],[(.exit 0,[.own 12 12 QI,.box 6 Q11,.box 11 Q10,.box pinned Q16,.ptr 6 6 [],.ptr 11 11 []]),(.ret,[.sv 8 QI,.own 7 7 QI,.box 6 Q11,.box pinned Q16,.ptr 6 6 []])])],[],[]⟩
def b0S(s:(Int×Int×Bool×Int×Int×Z13×b2w)):Option ((Int×Int×Bool×Int×Int×Z13×b2w) ⊕ (Int×Int×Bool×Z13×b2w)):= cond (decide (s.2.2.2.2.1<s.2.2.2.1)) ((a1a (s.2.2.2.2.2.1,s.2.1)).bind fun y7=> cond (lim ((a01 s.2.2.2.2.2.2.2.1.2.2.2.2.2.2.2.2.1)+1)) (some (.inl (s.1,s.2.1,s.2.2.1,s.2.2.2.1,wrap .i64 (s.2.2.2.2.1+1),y7.2,s.2.2.2.2.2.2.1,(s.2.2.2.2.2.2.2.1.1,s.2.2.2.2.2.2.2.1.2.1,s.2.2.2.2.2.2.2.1.2.2.1,s.2.2.2.2.2.2.2.1.2.2.2.1,s.2.2.2.2.2.2.2.1.2.2.2.2.1,s.2.2.2.2.2.2.2.1.2.2.2.2.2.1,s.2.2.2.2.2.2.2.1.2.2.2.2.2.2.1,s.2.2.2.2.2.2.2.1.2.2.2.2.2.2.2.1,a03 s.2.2.2.2.2.2.2.1.2.2.2.2.2.2.2.2.1 [y7.1],s.2.2.2.2.2.2.2.1.2.2.2.2.2.2.2.2.2),()))) none) (some (.inr (s.1,s.2.1,s.2.2.1,s.2.2.2.2.2.1,s.2.2.2.2.2.2.1,s.2.2.2.2.2.2.2.1,())))
def b2o(x:Z32):Option (a1U×Z29):= cond (decide (x.2<1)) (some ((0,0,0,0,0,[],a02 3 0,[],[],(0,[],()),[],()),1,x.1)) (cond (decide (x.2 > 4096)) (some ((0,0,0,0,0,[],a02 3 0,[],[],(0,[],()),[],()),1,x.1)) ((a0N x.1).bind fun y1=> cond (y1.1 != 0) (some ((0,0,0,0,0,[],a02 3 0,[],[],(0,[],()),[],()),y1.1,y1.2)) ((a9v y1.2).bind fun y2=> (a0N y2.2.2.2).bind fun y3=> cond (y3.1 != 0) (some ((0,0,0,0,0,[],a02 3 0,[],[],(0,[],()),[],()),y3.1,y3.2)) ((a7W (y2.1.1,y2.1,x.2)).bind fun y4=> cond (!y4) (some ((0,0,0,0,0,[],a02 3 0,[],[],(0,[],()),[],()),2,y3.2)) ((a4v (y2.1,x.2)).bind fun y5=> (y0m b0S (x.2,y2.2.1,y2.2.2.1,y5,0,y3.2,(0,0,0,0,0,[],a02 3 0,[],[],(0,[],()),[],()),y2.1,())).bind fun w8=> (a0N w8.2.2.2.1).bind fun y9=> cond (y9.1 != 0) (some ((0,0,0,0,0,[],a02 3 0,[],[],(0,[],()),[],()),y9.1,y9.2)) ((a5Z w8.2.2.2.2.2.1.1).bind fun y10=> cond y10 ((b1Y (y9.2,w8.1,(w8.2.2.2.2.2.1.2.2.2.2.2.2.2.2.1.length:Int))).bind fun y11=> cond (y11.2.2.1 != 0) (some ((0,0,0,0,0,[],a02 3 0,[],[],(0,[],()),[],()),y11.2.2.1,y11.2.2.2)) (cond (!w8.2.2.1) (some ((0,0,0,0,0,[],a02 3 0,[],[],(0,[],()),[],()),2,y11.2.2.2)) ((a1r w8.2.2.2.2.2.1.2.2.2.2.2.2.2.2.1).bind fun y12=> cond (y12 != w8.2.1) (some ((0,0,0,0,0,[],a02 3 0,[],[],(0,[],()),[],()),2,y11.2.2.2)) ((a9L ((w8.2.2.2.2.2.1.1,w8.2.2.2.2.2.1.2.1,w8.2.2.2.2.2.1.2.2.1,w8.2.2.2.2.2.1.2.2.2.1,w8.2.2.2.2.2.1.2.2.2.2.1,w8.2.2.2.2.2.1.2.2.2.2.2.1,w8.2.2.2.2.2.1.2.2.2.2.2.2.1,w8.2.2.2.2.2.1.2.2.2.2.2.2.2.1,w8.2.2.2.2.2.1.2.2.2.2.2.2.2.2.1,y11.1,y11.2.1,w8.2.2.2.2.2.1.2.2.2.2.2.2.2.2.2.2.2),w8.1)).bind fun y13=> cond (!y13) (some ((0,0,0,0,0,[],a02 3 0,[],[],(0,[],()),[],()),2,y11.2.2.2)) (some ((w8.2.2.2.2.2.1.1,w8.2.2.2.2.2.1.2.1,w8.2.2.2.2.2.1.2.2.1,w8.2.2.2.2.2.1.2.2.2.1,w8.2.2.2.2.2.1.2.2.2.2.1,w8.2.2.2.2.2.1.2.2.2.2.2.1,w8.2.2.2.2.2.1.2.2.2.2.2.2.1,w8.2.2.2.2.2.1.2.2.2.2.2.2.2.1,w8.2.2.2.2.2.1.2.2.2.2.2.2.2.2.1,y11.1,y11.2.1,w8.2.2.2.2.2.1.2.2.2.2.2.2.2.2.2.2.2),0,y11.2.2.2)))))) (cond (!w8.2.2.1) (some ((0,0,0,0,0,[],a02 3 0,[],[],(0,[],()),[],()),2,y9.2)) ((a1r w8.2.2.2.2.2.1.2.2.2.2.2.2.2.2.1).bind fun y14=> cond (y14 != w8.2.1) (some ((0,0,0,0,0,[],a02 3 0,[],[],(0,[],()),[],()),2,y9.2)) ((a9L (w8.2.2.2.2.2.1,w8.1)).bind fun y15=> cond (!y15) (some ((0,0,0,0,0,[],a02 3 0,[],[],(0,[],()),[],()),2,y9.2)) (some (w8.2.2.2.2.2.1,0,y9.2)))))))))))
def c1C:FSem:=⟨[.r false (.b Q16),.v QI],[.v Q42,.v QI],b2o⟩
def H73:Hints:=⟨[(1018,[.sv 1 QI,.sv 8 QI,.sv 9 .bool,.sv 47 QI,.sv 48 QI,.box pinned Q16,.box 4 Q42,.box 7 (.pair QI (.pair QI (.pair QI (.pair QI (.pair QI (.pair QL (.pair (.arr 3 QI) (.pair (.list false Q3) (.pair (.list true QI) Q20))))))))),.ptr 0 pinned [],.ptr 4 4 [],.ptr 7 7 []],[(.exit 0,[.sv 1 QI,.sv 8 QI,.sv 9 .bool,.box pinned Q16,.box 4 Q42,.box 7 (.pair QI (.pair QI (.pair QI (.pair QI (.pair QI (.pair QL (.pair (.arr 3 QI) (.pair (.list false Q3) (.pair (.list true QI) Q20))))))))),.ptr 0 pinned [],.ptr 4 4 [],.ptr 7 7 []])])],[],[(14,[.r [7,50],.r [7,51],.p,.v,.w [54,1054,pinned],.q,.x,.x,.x])]⟩
def a3p(s:Z66):Option (Z66 ⊕ (Z54 ⊕ Z36)):= cond (decide (s.2.1<s.1)) ((a1z (s.2.2.1,s.2.1)).bind fun y1=> cond (y1.1==1) (some (.inr (Sum.inr (((y1.2.1,y1.2.2.1,2,y1.2.2.2.2),()))))) (some (.inl (s.1,wrap .i64 (s.2.1+1),y1.2,())))) (some (.inr (Sum.inl (s.1,s.2.2.1,()))))
def a4R(x:Z13):Option Z13:= cond (x.2.2.1 != 0) (some x) ((y0m a3p (wrap .i64 ((wrap .i64 (a07 (wrap .i64 (x.2.1+7)) 8))*8),x.2.1,x,())).bind fun w2=> match w2 with |.inl a3=>some (a3.2.1.1,a3.1,a3.2.1.2.2) |.inr b4=>some b4.1)
def b1n:FSem:=⟨[.r false (.b Q16)],[],a4R⟩
def H75:Hints:=⟨[(58,[.sv 2 QI,.sv 3 QI,.box pinned Q16,.ptr 0 pinned []],[(.exit 0,[.sv 2 QI,.box pinned Q16,.ptr 0 pinned []]),(.ret,[.box pinned Q16])])],[],[]⟩
def a7U(s:(Int×Int×Int×a3r×c0W)):Option ((Int×Int×Int×a3r×c0W) ⊕ ((Int×a3r×c0W) ⊕ (Int×Int×b4A))):= cond (decide (s.2.2.1<s.2.1)) ((b2o (s.2.2.2.2.2.1,s.2.2.2.2.1.2.1)).bind fun y7=> cond (y7.2.1 != 0) (some (.inr (Sum.inr ((0,2,(0,0,(0,0,0,()),[],[],()),()))))) (cond (lim ((a01 s.2.2.2.2.1.2.2.2.2.1)+1)) (some (.inl (s.1,s.2.1,wrap .i64 (s.2.2.1+1),s.2.2.2.1,(s.2.2.2.2.1.1,s.2.2.2.2.1.2.1,s.2.2.2.2.1.2.2.1,s.2.2.2.2.1.2.2.2.1,a03 s.2.2.2.2.1.2.2.2.2.1 ([y7.1]:List a1U),s.2.2.2.2.1.2.2.2.2.2),y7.2.2,()))) none)) (some (.inr (Sum.inl (s.1,s.2.2.2.1,s.2.2.2.2.1,s.2.2.2.2.2.1,()))))
def a6k(x:(List Int)):Option (a3r×Int×Int):= (a7T x).bind fun y1=> cond (y1.2.2.2 != 0) (some ((0,0,(0,0,0,()),[],[],()),0,y1.2.2.2)) (cond (decide ((x.length:Int)<(wrap .i64 ((wrap .i64 (y1.2.1+y1.2.2.1))+2)))) (some ((0,0,(0,0,0,()),[],[],()),0,3)) (cond ((decide (0≤(wrap .i64 (y1.2.1+y1.2.2.1))))&&(decide ((wrap .i64 (y1.2.1+y1.2.2.1))≤(x.length:Int)))) ((a6d (a06 (a00 (wrap .i64 (y1.2.1+y1.2.2.1))) x)).bind fun y2=> (m0h x (wrap .i64 (y1.2.1+y1.2.2.1))).bind fun x3=> (m0h x (wrap .i64 ((wrap .i64 (y1.2.1+y1.2.2.1))+1))).bind fun x4=> cond (y2 != (bits .u16 .or (A0h .u16 (wrap .u16 x3) 8) (wrap .u16 x4))) (some ((0,0,(0,0,0,()),[],[],()),0,5)) (cond ((decide (0≤(wrap .i64 (y1.2.1+y1.2.2.1))))&&(decide ((wrap .i64 (y1.2.1+y1.2.2.1))≤(x.length:Int)))) (cond ((decide (0≤y1.2.1))&&(decide (y1.2.1≤((a00 (wrap .i64 (y1.2.1+y1.2.2.1)):Nat):Int)))) ((b2W (a20 (a00 y1.2.1) (a06 (a00 (wrap .i64 (y1.2.1+y1.2.2.1))) x))).bind fun y5=> (y0m a7U (wrap .i64 (y1.2.1+y1.2.2.1),y1.1.2.2.1.2.1,0,(0,0,(0,0,0,()),[],[],()),y1.1,y5,())).bind fun w8=> match w8 with |.inl a9=>((a2B a9.2.2.2.1).bind fun y11=> cond (decide (y11.1≥8)) (some ((0,0,(0,0,0,()),[],[],()),0,2)) ((a4R y11.2).bind fun y12=> (a0N y12).bind fun y13=> cond (y13.1 != 0) (some ((0,0,(0,0,0,()),[],[],()),0,2)) ((a4g a9.2.2.1).bind fun y14=> cond (!y14) (some ((0,0,(0,0,0,()),[],[],()),0,2)) (some (a9.2.2.1,wrap .i64 (a9.1+2),0))))) |.inr b10=>some (b10.2.2.1,b10.1,b10.2.1)) none) none)) none))
def b7e:FSem:=⟨[.v (.list false (.int .u8))],[.v Q60,.v QI,.v QI],a6k⟩
def H21:Hints:=⟨[(2042,[.sv 9 QI,.sv 59 QI,.sv 60 QI,.box 2 Q60,.box 5 Q59,.box 1056 Q16,.ptr 2 2 [],.ptr 5 5 [],.ptr 10 1056 []],[(.exit 0,[.sv 9 QI,.box 2 Q60,.box 5 Q59,.box 1056 Q16,.ptr 2 2 [],.ptr 5 5 [],.ptr 10 1056 []]),(.ret,[.sv 3 QI,.sv 4 QI,.box 2 Q60,.ptr 2 2 []])])],[],[(7,[.v,.v,.v,.v,.v,.v,.v,.v,.v,.v,.v,.v,.v,.v,.v,.v,.v,.x])]⟩
def a6N(x:((List Int)×(Z94×Int×Int×Int))):Option (a3r×Z27):= (m0h x.2.1.2.1 x.2.2.1).bind fun x1=> cond (decide ((wrap .i64 ((x.1.length:Int)-x.2.2.2.1))<x1)) (some ((0,0,(0,0,0,()),[],[],()),(0,([]:(List (List Int))),()),3)) (cond ((decide (0≤(wrap .i64 (x.2.2.2.1+x1))))&&(decide ((wrap .i64 (x.2.2.2.1+x1))≤(x.1.length:Int)))) (cond ((decide (0≤x.2.2.2.1))&&(decide (x.2.2.2.1≤((a00 (wrap .i64 (x.2.2.2.1+x1)):Nat):Int)))) ((a6k (a20 (a00 x.2.2.2.1) (a06 (a00 (wrap .i64 (x.2.2.2.1+x1))) x.1))).bind fun y2=> cond (y2.2.2 != 0) (some ((0,0,(0,0,0,()),[],[],()),(0,([]:(List (List Int))),()),y2.2.2)) ((show Option (Bool×a3r×c2T)from cond (decide (y2.2.1<x1)) (some (true,(0,0,(0,0,0,()),[],[],()),(0,([]:(List (List Int))),()),y2.1,())) (cond (!(eqT Q12 y2.1.2.2.1 x.2.1.1)) (some (true,(0,0,(0,0,0,()),[],[],()),(0,([]:(List (List Int))),()),y2.1,())) (cond (y2.1.1 != x.2.2.2.2) (some (true,(0,0,(0,0,0,()),[],[],()),(0,([]:(List (List Int))),()),y2.1,())) ((m0h x.2.1.2.2.1 x.2.2.1).bind fun x3=> some (y2.1.2.1 != x3,(0,0,(0,0,0,()),[],[],()),(0,([]:(List (List Int))),()),y2.1,()))))).bind fun z4=> cond z4.1 (some ((0,0,(0,0,0,()),[],[],()),(0,([]:(List (List Int))),()),2)) ((a3K z4.2.2.2.1).bind fun y5=> cond (y5.2 != 0) (some ((0,0,(0,0,0,()),[],[],()),(0,([]:(List (List Int))),()),y5.2)) (some (z4.2.2.2.1,y5.1,0))))) none) none)
def a6O:FSem:=⟨[.v (.list false (.int .u8)),.v Q27,.v QI,.v QI,.v QI],[.v Q60,.v Q15,.v QI],a6N⟩
def d7r:Hints:=⟨[],[(126,[(.normal,[.sv 72 .bool,.box 10 Q60,.box 11 Q15,.box 14 Q60,.ptr 10 10 [],.ptr 11 11 [],.ptr 14 14 []])])],[(7,[.v,.v,.x,.x,.q,.q,.v,.v,.x,.x,.x,.q,.q,.v,.x,.x,.x,.q,.q,.v,.v,.v,.v,.v,.x,.x]),(12,[.q,.r [17,86],.w [0,10],.x,.x])]⟩
def d1Q:Hints:=⟨[(250,[.sv 35 (.list false QL),.sv 36 QI,.sv 37 QI,.box 4 Q15,.box 6 (.pair QI Q7),.vp 3 Q3,.ptr 4 4 [],.ptr 6 6 []],[(.exit 0,[.box 4 Q15,.box 6 (.pair QI Q7),.ptr 4 4 [],.ptr 6 6 []])])],[(14,[(.normal,[.sv 29 .bool,.box 4 Q15,.vp 2 Q15,.vp 3 Q3,.ptr 4 4 []])])],[(3,[.x,.x,.x,.x,.v,.v,.v,.v,.x,.x,.x,.v,.v,.v,.v,.x,.x]),(9,[.q,.q,.v,.v,.v,.v,.v,.v,.v,.q,.x,.x,.x])]⟩
def c4x(x:(Z10×Int×Int×Unit)):Option Z27:=A0d (a9T [(22,a7q),(56,a4f),(183,a1j)] [(6,.pair (.int .i64) Q7),(12,.pair (.int .i64) Q5),(30,.pair (.int .i64) Q5),(33,.pair (.int .i64) Q5)] [0,1,5,8] [2,3]) d1Q Tryz.f104 [.v Q15,.v Q3] [.v Q15,.v (.int .i64)] x
def b4M:FSem:=⟨[.v Q15,.v Q3],[.v Q15,.v QI],c4x⟩
def H43:Hints:=⟨[(1018,[.sv 0 (.list false (.int .u8)),.sv 9 QI,.sv 10 QI,.sv 48 QL,.sv 49 QI,.sv 50 QI,.own 8 8 QI,.box 6 Q27,.vp 3 Q3,.ptr 6 6 []],[(.exit 0,[.own 8 8 QI]),(.ret,[.sv 5 QI,.own 4 4 QI])])],[(30,[(.normal,[.sv 0 (.list false (.int .u8)),.sv 44 .bool,.box 6 Q27,.vp 3 Q3,.ptr 6 6 []])]),(260711,[(.normal,[.sv 0 (.list false (.int .u8)),.sv 9 QI,.sv 12 QI,.sv 13 QI,.sv 48 QL,.sv 49 QI,.sv 50 QI,.own 8 8 QI,.box 6 Q27,.vp 3 Q3,.ptr 6 6 []]),(.ret,[.sv 5 QI,.own 4 4 QI])])],[(12,[.v,.v,.v,.v,.v,.v,.v,.v,.v,.x])]⟩
def b7f(x:Z13):Option ((List Int)×Int):=A0d (a9T [(86,a7f),(102,a7S),(103,a6O),(104,b4M)] [] [0,1,4,5,7,8,9,10,11,12,13,14,15,18] [3]) H43 Tryz.f43 [.v (.list false (.int .u8)),.v Q3] [.o (.int .i64),.v (.int .i64)] x
def b7g:FSem:=⟨[.v (.list false (.int .u8)),.v Q3],[.o QI,.v QI],b7f⟩
def a3D(s:((List Int)×(Int×((List Int)×(Int×Int×b1o×Z94×b3r))))):Option (((List Int)×(Int×((List Int)×(Int×Int×b1o×Z94×b3r)))) ⊕ (((List Int)×(Int×b1o×Z94×b3r)) ⊕ (Int×b3r))):= cond (decide (s.2.2.2.2.1<s.2.2.2.1)) ((m0h s.2.2.1 s.2.2.2.2.1).bind fun x2=> (a6N (s.1,s.2.2.2.2.2.2.1,s.2.2.2.2.1,s.2.1,s.2.2.2.2.2.2.2.1.2.1)).bind fun y3=> cond (y3.2.2 != 0) (some (.inr (Sum.inr ((y3.2.2,((0,0,0,()),0,0,[],[],()),()))))) ((a4r (s.2.2.2.2.2.2.2.1.2.2.1,y3.2.1)).bind fun y4=> cond (lim ((a01 s.2.2.2.2.2.2.2.1.2.2.2.1)+1)) (cond (lim ((a01 s.2.2.2.2.2.2.2.1.2.2.2.2.1)+1)) (some (.inl (s.1,wrap .i64 (s.2.1+x2),s.2.2.1,s.2.2.2.1,wrap .i64 (s.2.2.2.2.1+1),s.2.2.2.2.2.1,s.2.2.2.2.2.2.1,(s.2.2.2.2.2.2.2.1.1,wrap .i64 (s.2.2.2.2.2.2.2.1.2.1+y3.1.2.1),y4.1,a03 s.2.2.2.2.2.2.2.1.2.2.2.1 ([(s.2.2.2.2.2.2.2.1.2.1,wrap .i64 (s.2.1-s.2.2.2.2.2.2.1.2.2.2.2.2.1),())]:List (Int×Int×Unit)),a03 s.2.2.2.2.2.2.2.1.2.2.2.2.1 ([y3.1]:List a3r),s.2.2.2.2.2.2.2.1.2.2.2.2.2),()))) none) none)) (some (.inr (Sum.inl (s.1,s.2.1,s.2.2.2.2.2.1,s.2.2.2.2.2.2.1,s.2.2.2.2.2.2.2.1,()))))
def a8e(x:(List Int)):Option (b1o×Int):= (a5x x).bind fun y1=> cond (y1.2 != 0) (some (((0,0,0,()),0,0,[],[],()),y1.2)) ((y0m a3D (x,y1.1.2.2.2.2.2.1,y1.1.2.1,(y1.1.2.1.length:Int),0,((0,0,0,()),0,0,[],[],()),y1.1,(y1.1.1,0,0,[],[],()),())).bind fun w5=> match w5 with |.inl a6=>(cond (decide (a6.2.1<(a6.1.length:Int))) (some (((0,0,0,()),0,0,[],[],()),2)) (cond (a6.2.2.2.2.1.2.2.1 != a6.2.2.2.1.2.2.2.2.1) (some (((0,0,0,()),0,0,[],[],()),5)) (some (a6.2.2.2.2.1,0)))) |.inr b7=>some (b7.2.1,b7.1))
def b3E:FSem:=⟨[.v (.list false (.int .u8))],[.v Q74,.v QI],a8e⟩
def H44:Hints:=⟨[(506,[.sv 0 (.list false (.int .u8)),.sv 7 QI,.sv 28 QL,.sv 29 QI,.sv 30 QI,.box 2 Q74,.box 4 Q27,.box 6 Q73,.ptr 2 2 [],.ptr 4 4 [],.ptr 6 6 []],[(.exit 0,[.sv 0 (.list false (.int .u8)),.sv 7 QI,.box 2 Q74,.box 4 Q27,.box 6 Q73,.ptr 2 2 [],.ptr 4 4 [],.ptr 6 6 []]),(.ret,[.sv 3 QI,.box 2 Q74,.ptr 2 2 []])])],[],[]⟩
def b4N(x:Unit):Option Bool:= (a6j ((8000,1,8,()),[1,2,3],2,0)).bind fun y1=> (a8e y1.1).bind fun y2=> (a5l y2.1).bind fun y3=> (b7f (y1.1,1,3,())).bind fun y4=> (b6T (y2.1,2)).bind fun y5=> cond (y1.2==0) (cond (y2.2==0) (cond (y3.2==0) (cond (y4.2==0) (cond (y5.2==0) (cond ((y2.1.2.2.2.2.1.length:Int)==2) ((a5b (y3.1,[1,2,3])).bind fun y6=> cond y6 ((a5b (y4.1,[2,3])).bind fun y7=> cond y7 (cond (y5.1==1) ((a6e [1,2,3]).bind fun y8=> some (y2.1.2.2.1==y8)) (some false)) (some false)) (some false)) (some false)) (some false)) (some false)) (some false)) (some false)) (some false)
def b8f:FSem:=⟨[],[.v .bool],b4N⟩
def H25:Hints:=⟨[],[],[(7,[.x,.x,.x,.x,.x,.x,.x,.x,.x,.x,.x,.x,.x,.x,.x,.x,.x,.x,.x,.x,.x,.x,.x,.x,.x,.q,.q,.x,.x,.x,.q,.q,.x,.x,.x,.x,.x,.x,.x,.q,.q,.q,.q,.x,.x,.x])]⟩
def b1Z(x:b1o):Option Bool:= (a7x x).bind fun y1=> some y1.2.2
def b8g:FSem:=⟨[.v Q74],[.v .bool],b1Z⟩
def H33:Hints:=⟨[],[],[]⟩
def b4f(x:((List Int)×(List Int))):Option Bool:= some ((b2s x.1)==(b2s x.2))
def c1D:FSem:=⟨[.v (.list false (.int .u8)),.v (.list false (.int .u8))],[.v .bool],b4f⟩
def H36:Hints:=⟨[],[],[]⟩
def b8I(x:Int):Option Int:= (show Option (Int×Bool×Unit)from cond (decide (x<1)) (some (x,true,())) (some (x,decide (x > 31),()))).bind fun z1=> cond z1.2.1 (some 0) (cond (decide ((wrap .u64 (wrap .i64 (z1.1-1)))<0)) none (some (A0h .i64 (-1) (wrap .u64 (wrap .i64 (z1.1-1))))))
def c2Y:FSem:=⟨[.v QI],[.v QI],b8I⟩
def d7s:Hints:=⟨[],[(6,[(.normal,[.sv 0 QI,.sv 8 .bool])])],[]⟩
def b7h(x:Int):Option Int:= (show Option (Int×Bool×Unit)from cond (decide (x<1)) (some (x,true,())) (some (x,decide (x > 31),()))).bind fun z1=> cond z1.2.1 (some 0) (cond (decide ((wrap .u64 (wrap .i64 (z1.1-1)))<0)) none (some (wrap .i64 ((A0h .i64 1 (wrap .u64 (wrap .i64 (z1.1-1))))-1))))
def c1E:FSem:=⟨[.v QI],[.v QI],b7h⟩
def d7t:Hints:=⟨[],[(6,[(.normal,[.sv 0 QI,.sv 8 .bool])])],[]⟩
def a9O(x:(Int×Int)):Option Bool:= cond (decide (x.2≥1)) (cond (decide (x.2≤31)) ((b8I x.2).bind fun y1=> cond (decide (x.1≥y1)) ((b7h x.2).bind fun y2=> some (decide (x.1≤y2))) (some false)) (some false)) (some false)
def b7i:FSem:=⟨[.v QI,.v QI],[.v .bool],a9O⟩
def H55:Hints:=⟨[],[],[]⟩
def b2a(x:Z7):Option Bool:= cond (decide (x.1≥1)) (cond (decide (x.1≤1048576)) (cond (decide (x.2.1≥1)) (cond (decide (x.2.1≤8)) (cond (decide (x.2.2.1≥4)) (some (decide (x.2.2.1≤24))) (some false)) (some false)) (some false)) (some false)) (some false)
def b8h:FSem:=⟨[.v Q12],[.v .bool],b2a⟩
def H77:Hints:=⟨[],[],[]⟩
def a7l(s:((List Int)×Z37)):Option (((List Int)×Z37) ⊕ Z0):= cond (decide (s.2.1<(s.1.length:Int))) ((m0h s.1 s.2.1).bind fun x3=> (a9O (x3,s.2.2.1.2.2.1)).bind fun y4=> cond (!y4) (some (.inr (Sum.inr ((false,()))))) (some (.inl (s.1,wrap .i64 (s.2.1+1),s.2.2.1,())))) (some (.inr (Sum.inl ())))
def b2Z(x:(Z7×((List Int)×Int))):Option Bool:= (show Option ((List Int)×Z38)from(b2a x.1).bind fun y1=> cond (!y1) (some (x.2.1,true,x.1,())) (cond (decide ((x.2.1.length:Int) > x.2.2)) (some (x.2.1,true,x.1,())) (cond (x.1.2.1==0) none (some (x.2.1,(a05 (x.2.1.length:Int) x.1.2.1) != 0,x.1,()))))).bind fun z2=> cond z2.2.1 (some false) ((y0m a7l (z2.1,0,z2.2.2.1,())).bind fun w5=> match w5 with |.inl a6=>some true |.inr b7=>some b7.1)
def b9o:FSem:=⟨[.v Q12,.v QL,.v QI],[.v .bool],b2Z⟩
def H39:Hints:=⟨[(58,[.sv 1 QL,.sv 7 QI,.vp 3 Q12],[(.exit 0,[]),(.ret,[.sv 6 .bool])])],[(6,[(.normal,[.sv 1 QL,.sv 24 .bool,.vp 3 Q12])])],[(6,[.v,.v,.v,.v,.v,.v,.x,.x])]⟩
def b3a(x:(Z7×Z3)):Option ((List Int)×(b1o×Bool)):= (a6j (x.1,x.2.1,wrap .i64 (1+(bits .i64 .and x.2.2.1 63)),bits .i64 .and x.2.2.2 3)).bind fun y1=> (a8e y1.1).bind fun y2=> cond (y1.2==0) (some (y1.1,y2.1,y2.2==0)) (some (y1.1,y2.1,false))
def b9p:FSem:=⟨[.v Q12,.v QL,.v QI,.v QI],[.v (.list false (.int .u8)),.v Q74,.v .bool],b3a⟩
def H40:Hints:=⟨[],[],[(3,[.v,.q,.v,.v,.v,.v,.v,.v,.v,.w [0,9],.x])]⟩
def b3b(x:Int):Option Bool:= cond (decide (x≥4)) (some (decide (x≤24))) (some false)
def b9q:FSem:=⟨[.v QI],[.v .bool],b3b⟩
def H99:Hints:=⟨[],[],[]⟩
def a9x(s:Z31):Option (Z31 ⊕ ((List Int)×Unit)):= cond (decide (s.2.2.1<s.2.1)) (cond (decide (s.2.2.1<8)) (cond (decide ((wrap .u64 (wrap .i64 (8*s.2.2.1)))<0)) none (cond (lim ((a01 s.2.2.2.1)+1)) (some (.inl (s.1,s.2.1,wrap .i64 (s.2.2.1+1),a03 s.2.2.2.1 [wrap .u8 (A0i .u64 s.1 (wrap .u64 (wrap .i64 (8*s.2.2.1))))],()))) none)) (some (.inr (s.2.2.2.1,())))) (some (.inr (s.2.2.2.1,())))
def b0T(x:(Int×Int)):Option (List Int):= (y0m a9x (x.1,x.2,0,[],())).bind fun w1=> some w1.1
def b9r:FSem:=⟨[.v (.int .u64),.v QI],[.o (.int .u8)],b0T⟩
def d7u:Hints:=⟨[(58,[.sv 0 (.int .u64),.sv 1 QI,.sv 6 QI,.own 5 5 (.int .u8)],[(.exit 0,[.own 5 5 (.int .u8)])])],[],[]⟩
def b0U(s:Z40):Option (Z40 ⊕ Z47):= cond (decide (s.2.2.1<(s.1.length:Int))) ((m0h s.1 s.2.2.1).bind fun x2=> (a9O (x2,s.2.1)).bind fun y3=> cond (!y3) (some (.inr (Sum.inr ((6,[],()))))) ((m0h s.1 s.2.2.1).bind fun x4=> (b0T (wrap .u64 x4,wrap .i64 (a07 (wrap .i64 (s.2.1+7)) 8))).bind fun y5=> cond (lim ((a01 s.2.2.2.1)+(a01 y5))) (some (.inl (s.1,s.2.1,wrap .i64 (s.2.2.1+1),a03 s.2.2.2.1 y5,()))) none)) (some (.inr (Sum.inl (s.2.2.2.1,()))))
def b4g(x:((List Int)×Int)):Option ((List Int)×Int):= (b3b x.2).bind fun y1=> cond (!y1) (some ([],1)) ((y0m b0U (x.1,x.2,0,[],())).bind fun w6=> match w6 with |.inl a7=>some (a7.1,0) |.inr b8=>some (b8.2.1,b8.1))
def c1F:FSem:=⟨[.v QL,.v QI],[.o (.int .u8),.v QI],b4g⟩
def H41:Hints:=⟨[(122,[.sv 0 QL,.sv 1 QI,.sv 7 QI,.own 6 6 (.int .u8)],[(.exit 0,[.own 6 6 (.int .u8)]),(.ret,[.sv 5 QI,.own 4 4 (.int .u8)])])],[],[]⟩
def b0V(x:(Z7×Z3)):Option Bool:= (b4N ()).bind fun y1=> cond (!y1) (some false) ((b2Z (x.1,x.2.1,200)).bind fun y2=> cond (!y2) (some true) ((b3a (x.1,x.2.1,x.2.2.1,x.2.2.2)).bind fun y3=> cond (!y3.2.2) (some false) ((a5l y3.2.1).bind fun y4=> (a9j y3.2.1).bind fun y5=> (b4g (x.2.1,x.1.2.2.1)).bind fun y6=> cond (y4.2==0) (cond (y5.2==0) (cond (y6.2==0) ((b1Z y3.2.1).bind fun y7=> cond y7 ((a5b (x.2.1,y4.1)).bind fun y8=> cond y8 ((b4f (y3.1,y5.1)).bind fun y9=> cond y9 ((a6e y6.1).bind fun y10=> cond (y3.2.1.2.2.1==y10) (cond (eqT Q12 y3.2.1.1 x.1) (cond (x.1.2.1==0) none (cond (y3.2.1.2.1==(wrap .i64 (a07 (x.2.1.length:Int) x.1.2.1))) (some ((y3.2.1.2.2.2.1.length:Int)==(y3.2.1.2.2.2.2.1.length:Int))) (some false))) (some false)) (some false)) (some false)) (some false)) (some false)) (some false)) (some false)) (some false))))
def b0W:FSem:=⟨[.v Q12,.v QL,.v QI,.v QI],[.v .bool],b0V⟩
def H8:Hints:=⟨[],[],[(11,[.x,.x,.x,.x,.x,.x,.x,.x,.x,.x,.x,.x,.x,.x,.x,.v,.q,.x,.x,.x,.v,.q,.x,.x,.x,.q,.q,.q,.q,.x,.x,.x,.q,.q,.v,.x,.x,.x,.q,.q,.v,.v,.v,.v,.v,.x,.x,.x,.q,.q,.v,.q,.q,.v,.x,.x,.x])]⟩
end Go.Ab
namespace Go.Ab
open Go.Proofs
set_option maxRecDepth 100000
theorem b4h:Tryz.prog.follows .mixedOrders=true:=by kernel_rfl
theorem d7v:A0x Tryz.prog c2K=true:=by kernel_rfl
theorem d7w:A0v Tryz.prog c2U=true:=by kernel_rfl
theorem d7x:A0s Tryz.prog c2K c5y=true:=by kernel_rfl
theorem laidOut:laidOutB Tryz.prog=true:=by kernel_rfl
@[reducible] def Ok0(n:Nat)(s:FSem):Prop:=i0v Tryz.prog G0 n s∧l0u Tryz.prog n
theorem cxo{a:List (Nat×FSem)}{b:List (Nat×Ty)}{c d:List Nat}(h:∀p∈a,FOk Tryz.prog G0 p.1 p.2):CxOk Tryz.prog (a9T a b c d):=
 CxOk.of (CxTy.of (tab:=c2K) (l:=c5y) (q:=c2U) (fun _=>rfl) (fun _=>rfl) (fun _=>rfl) d7v d7w d7x) (fun _=>rfl) h
theorem fo (a : List (Nat × FSem)) (b : List (Nat × Ty)) (c d : List Nat) (H : Hints) {n : Nat} {fn : Func} {e : Code} {s : FSem} (h : ∀ p ∈ a, FOk Tryz.prog G0 p.1 p.2) (hf : Tryz.prog.funcs[n]? = some fn) (hb : fn.body = some e := by rfl) (hk : A0g fn e H s = true := by kernel_rfl) (hn : (fn.name == "runtime.NumGoroutine") = false := by kernel_rfl) (hq : ∀ x, A0d (a9T a b c d) H fn s.ps s.rs x = s.F x := by intro x; kernel_rfl) : Ok0 n s :=
 ⟨i0v.of (cxo h) b4h hf hb hk hq,⟨_,_,hf,hb,hn⟩⟩
theorem c5A:Ok0 22 a7q:=
 fo [] [] [0,2] [1] H22 a0 Tryz.func22
theorem d2Q:Ok0 175 b6L:=
 fo [] [] [0,2] [] d4T a0 Tryz.func175
theorem d2R:Ok0 176 b6r:=
 fo [] [] [0,2] [] d4U a0 Tryz.func176
theorem c1b:Ok0 95 a3H:=
 fo [(175,b6L),(176,b6r)] [] [0,1,4] [] H95 (a1 d2Q (a1 d2R a0)) Tryz.func95
theorem c9r:Ok0 111 b2y:=
 fo [] [] [0,2] [] d4V a0 Tryz.func111
theorem c1c:Ok0 56 a4f:=
 fo [(22,a7q),(95,a3H),(111,b2y)] [] [0,2,4,6] [1] H56 (a1 c5A (a1 c1b (a1 c9r a0))) Tryz.func56
theorem c1d:Ok0 57 a3I:=
 fo [(111,b2y)] [] [0,2] [1] H57 (a1 c9r a0) Tryz.func57
theorem c5B:Ok0 114 b2Q:=
 fo [] [] [0,1,4] [] d4W a0 Tryz.func114
theorem c9s:Ok0 105 b2z:=
 fo [(57,a3I),(114,b2Q)] [] [0,2] [1] d4X (a1 c1d (a1 c5B a0)) Tryz.func105
theorem c5C:Ok0 117 a9o:=
 fo [] [] [0,2,4] [] d4Y a0 Tryz.func117
theorem c5D:Ok0 128 a9U:=
 fo [] [] [0,2] [] d4Z a0 Tryz.func128
theorem c5E:Ok0 211 a9V:=
 fo [] [] [0,1,4,6] [] d5a a0 Tryz.func211
theorem c5F:Ok0 212 b2R:=
 fo [] [] [0,1,4,6] [3] d5b a0 Tryz.func212
theorem c9t:Ok0 271 b2A:=
 fo [] [] [0,2] [1] d5c a0 Tryz.func271
theorem c5G:Ok0 213 b1F:=
 fo [(271,b2A)] [] [0,2] [] d5d (a1 c9t a0) Tryz.func213
theorem c5H:Ok0 150 b3Z:=
 fo [(211,a9V),(212,b2R),(213,b1F)] [] [0,1,2,6,8,11,27,41,62] [4] d5e (a1 c5E (a1 c5F (a1 c5G a0))) Tryz.func150
theorem c5I:Ok0 151 a9W:=
 fo [] [] [0,1,4,7,9,12,16] [2] d5f a0 Tryz.func151
theorem b9s:Ok0 183 a0Z:=
 ⟨i0v.of (cx:=c9o) (cxo a0) b4h Tryz.func183 rfl (by kernel_rfl) d2K,⟨_,_,Tryz.func183,rfl,by kernel_rfl⟩⟩
theorem c6V:Ok0 183 a1j:=
 ⟨i0v.of (cx:=c6S) (cxo a0) b4h Tryz.func183 rfl (by kernel_rfl) d1I,⟨_,_,Tryz.func183,rfl,by kernel_rfl⟩⟩
theorem d1R:Ok0 251 a1b:=
 ⟨i0v.of (cx:=c6T) (cxo a0) b4h Tryz.func251 rfl (by kernel_rfl) d1J,⟨_,_,Tryz.func251,rfl,by kernel_rfl⟩⟩
theorem c9u:Ok0 196 b3t:=
 fo [(183,a1j),(251,a1b)] [] [0,1,9,11,13,15] [3] d5h (a1 c6V (a1 d1R a0)) Tryz.func196
theorem d2S:Ok0 235 b7N:=
 fo [(196,b3t)] [] [0,2] [1] d5i (a1 c9u a0) Tryz.func235
theorem c5J:Ok0 214 b1H:=
 fo [] [] [0,1,4] [] d5j a0 Tryz.func214
theorem b9t:Ok0 201 a4X:=
 fo [(214,b1H)] [] [0,1,2,6,7,8] [] d5k (a1 c5J a0) Tryz.func201
theorem c9v:Ok0 236 b4B:=
 fo [(201,a4X)] [] [0,1,2,6,7,9] [3] d5l (a1 b9t a0) Tryz.func236
theorem d2T:Ok0 184 b6M:=
 fo [(117,a9o),(128,a9U),(150,b3Z),(151,a9W),(235,b7N),(236,b4B)] [] [0,1,4,5] [2] d5m (a1 c5C (a1 c5D (a1 c5H (a1 c5I (a1 d2S (a1 c9v a0)))))) Tryz.func184
theorem c9w:Ok0 288 b3u:=
 fo [] [] [0,2,4] [] d5n a0 Tryz.func288
theorem d2U:Ok0 325 b4b:=
 fo [] [] [0,1,3] [] d5o a0 Tryz.func325
theorem d2V:Ok0 289 b6s:=
 fo [(325,b4b)] [] [0,1,4,5,8,12,20,32] [] d5p (a1 d2U a0) Tryz.func289
theorem d2W:Ok0 237 b6N:=
 fo [(288,b3u),(289,b6s)] [] [0,1,2,6,7,8,10,11] [] d5q (a1 c9w (a1 d2V a0)) Tryz.func237
theorem c5K:Ok0 292 a9q:=
 fo [] [] [0,2] [] d5r a0 Tryz.func292
theorem c5L:Ok0 290 a6A:=
 fo [(292,a9q)] [] [0,2,4] [] d5s (a1 c5K a0) Tryz.func290
theorem c9x:Ok0 291 a9D:=
 fo [] [] [0,1,2,6,7,8,9,10] [] d5t a0 Tryz.func291
theorem d2X:Ok0 238 b6t:=
 fo [(211,a9V),(290,a6A),(291,a9D),(292,a9q)] [] [0,1,2,3,8,9,10,12,13] [] d5u (a1 c5E (a1 c5L (a1 c9x (a1 c5K a0)))) Tryz.func238
theorem c5M:Ok0 295 b1I:=
 fo [] [] [0,2] [] d5v a0 Tryz.func295
theorem c5N:Ok0 293 a8q:=
 fo [(295,b1I)] [] [0,2,4] [] d5w (a1 c5M a0) Tryz.func293
theorem c9y:Ok0 294 b1p:=
 fo [] [] [0,1,2,3,8,9,10,11,12] [7] d5x a0 Tryz.func294
theorem d2Y:Ok0 239 b7O:=
 fo [(212,b2R),(293,a8q),(294,b1p),(295,b1I)] [] [0,1,2,6,7,8,9,10,11] [5] d5y (a1 c5F (a1 c5N (a1 c9y (a1 c5M a0)))) Tryz.func239
theorem c5O:Ok0 300 a9Z:=
 fo [] [] [0,2] [] d5z a0 Tryz.func300
theorem c9z:Ok0 296 b0A:=
 fo [(300,a9Z)] [] [0,2,4] [] d5A (a1 c5O a0) Tryz.func296
theorem c9A:Ok0 298 b4C:=
 fo [(271,b2A)] [(15,.pair QI Q14),(16,.pair QI Q14)] [0,2,3] [1] d5B (a1 c9t a0) Tryz.func298
theorem c9B:Ok0 327 b0B:=
 fo [] [] [0,2] [] d5C a0 Tryz.func327
theorem c5P:Ok0 299 a3X:=
 fo [(327,b0B)] [] [0,2,3,4,5] [] d5D (a1 c9B a0) Tryz.func299
theorem c9C:Ok0 301 a7C:=
 fo [(299,a3X),(327,b0B)] [] [0,1,4,5,6,7,8,13,22] [] d5E (a1 c5P (a1 c9B a0)) Tryz.func301
theorem d2Z:Ok0 240 a7X:=
 ⟨i0v.ofR (cx:=c9p) (cxo (a1 b9s (a1 c5G (a1 c9z (a1 c9A (a1 c5P (a1 c5O (a1 c9C a0)))))))) b4h (r:=d1K) ⟨d0I,d0J⟩ Tryz.func240 rfl (by kernel_rfl) d2N,⟨_,_,Tryz.func240,rfl,by kernel_rfl⟩⟩
theorem c9D:Ok0 190 b2B:=
 fo [] [] [0,2] [] d5G a0 Tryz.func190
theorem d3a:Ok0 241 b7P:=
 fo [(190,b2B)] [] [0,1,4,5,6,8] [] d5H (a1 c9D a0) Tryz.func241
theorem d3b:Ok0 185 b9g:=
 fo [(237,b6N),(238,b6t),(239,b7O),(240,a7X),(241,b7P)] [] [0,1,4,5,6,7,10,24,28,40,54,79] [2] d5I (a1 d2W (a1 d2X (a1 d2Y (a1 d2Z (a1 d3a a0))))) Tryz.func185
theorem c9E:Ok0 106 b6O:=
 fo [(184,b6M),(185,b9g)] [] [0,1,4,5,6,7] [2] d5J (a1 d2T (a1 d3b a0)) Tryz.func106
theorem c9F:Ok0 189 b4D:=
 fo [] [] [0,2] [] d5K a0 Tryz.func189
theorem c5Q:Ok0 113 b1K:=
 fo [(189,b4D)] [] [0,2,4,6] [] d5L (a1 c9F a0) Tryz.func113
theorem c9G:Ok0 115 b2C:=
 fo [(183,a0Z)] [(15,.list true (.list true QI))] [0,2,3,5] [] d5M (a1 b9s a0) Tryz.func115
theorem c9H:Ok0 116 b3v:=
 fo [(189,b4D)] [] [0,1,2,6,7,8,9] [4] d5N (a1 c9F a0) Tryz.func116
theorem d3c:Ok0 107 a9e:=
 ⟨i0v.ofR (cx:=c9q) (cxo (a1 c5Q (a1 c5B (a1 c9G (a1 c9H a0))))) b4h (r:=d1L) ⟨d0K,d0L⟩ Tryz.func107 rfl (by kernel_rfl) d2O,⟨_,_,Tryz.func107,rfl,by kernel_rfl⟩⟩
theorem c8f:Ok0 50 a9r:=
 fo [(56,a4f),(105,b2z),(106,b6O),(107,a9e)] [] [0,3,4,7,8,9,10] [1] H50 (a1 c1c (a1 c9s (a1 c9E (a1 d3c a0)))) Tryz.func50
theorem d1S:Ok0 61 b4E:=
 fo [(50,a9r)] [] [0,2,4] [1] H61 (a1 c8f a0) Tryz.func61
theorem c9I:Ok0 123 b6P:=
 fo [(106,b6O)] [] [0,1,4,5,6] [2] d5P (a1 c9E a0) Tryz.func123
theorem b5D:Ok0 124 a2z:=
 fo [(95,a3H)] [] [0,2,3,5] [] d5Q (a1 c1b a0) Tryz.func124
theorem c5R:Ok0 130 a5Q:=
 fo [] [] [0,1] [] d5R a0 Tryz.func130
theorem b9u:Ok0 125 a2O:=
 fo [(130,a5Q)] [] [0,1,2,6,7] [] d5S (a1 c5R a0) Tryz.func125
theorem c9J:Ok0 126 b0D:=
 fo [(125,a2O)] [] [0,1,2] [] d5T (a1 b9u a0) Tryz.func126
theorem d3d:Ok0 127 b4Z:=
 fo [(124,a2z),(125,a2O),(126,b0D)] [] [0,1,4,6] [3] d5U (a1 b5D (a1 b9u (a1 c9J a0))) Tryz.func127
theorem c9K:Ok0 254 b2D:=
 fo [(214,b1H)] [] [0,1,2,6,8] [] d5V (a1 c5J a0) Tryz.func254
theorem c9L:Ok0 256 b4F:=
 fo [(124,a2z)] [] [0,2] [] d5W (a1 b5D a0) Tryz.func256
theorem c5S:Ok0 258 a6D:=
 fo [] [] [0,2] [] d5X a0 Tryz.func258
theorem c5T:Ok0 259 b1M:=
 fo [] [] [0,2] [] d5Y a0 Tryz.func259
theorem c9M:Ok0 260 b4G:=
 fo [(259,b1M)] [] [0,2,3,7] [] d5Z (a1 c5T a0) Tryz.func260
theorem d3e:Ok0 307 b7Q:=
 fo [(258,a6D),(259,b1M),(260,b4G)] [] [0,1,4,5] [] d6a (a1 c5S (a1 c5T (a1 c9M a0))) Tryz.func307
theorem c5U:Ok0 257 b2T:=
 fo [(307,b7Q)] [] [0,1,4,5,7] [] d6b (a1 d3e a0) Tryz.func257
theorem c9N:Ok0 200 b3x:=
 fo [(201,a4X),(236,b4B),(254,b2D),(256,b4F),(257,b2T)] [] [0,1,2,3,8,9,10,11,12] [4] d6c (a1 b9t (a1 c9v (a1 c9K (a1 c9L (a1 c5U a0))))) Tryz.func200
theorem d3f:Ok0 261 b1h:=
 fo [(130,a5Q)] [] [0,1,4] [] d6d (a1 c5R a0) Tryz.func261
theorem d3g:Ok0 202 b9h:=
 fo [(125,a2O),(258,a6D),(259,b1M),(260,b4G),(261,b1h)] [] [0,1,2,6,8,10,11,12] [] d6e (a1 b9u (a1 c5S (a1 c5T (a1 c9M (a1 d3f a0))))) Tryz.func202
theorem d3h:Ok0 129 b7R:=
 fo [(124,a2z),(125,a2O),(200,b3x),(201,a4X),(202,b9h)] [] [0,1,2,3,4,10,11,12,13,14,16] [6] d6f (a1 b5D (a1 b9u (a1 c9N (a1 b9t (a1 d3g a0))))) Tryz.func129
theorem d1T:Ok0 62 b6Q:=
 fo [(123,b6P),(124,a2z),(125,a2O),(126,b0D),(127,b4Z),(128,a9U),(129,b7R)] [] [0,1,2,6,7,9,13,37,39,41,43] [4] H62 (a1 c9I (a1 b5D (a1 b9u (a1 c9J (a1 d3d (a1 c5D (a1 d3h a0))))))) Tryz.func62
theorem d7y:Ok0 63 b1i:=
 fo [(130,a5Q)] [] [0] [] H63 (a1 c5R a0) Tryz.func63
theorem d7z:Ok0 64 b1j:=
 fo [] [] [0,2] [] H64 a0 Tryz.func64
theorem d1U:Ok0 88 b4H:=
 fo [] [] [0,2,3,5] [] H88 a0 Tryz.func88
theorem d3i:Ok0 131 b7S:=
 fo [] [] [0,2] [] d6g a0 Tryz.func131
theorem c9O:Ok0 132 b3y:=
 fo [] [] [0,2,3,5,6] [] d6h a0 Tryz.func132
theorem d7A:Ok0 65 b4c:=
 fo [(88,b4H),(131,b7S),(132,b3y)] [] [0,1,4,5,8] [2] H65 (a1 d1U (a1 d3i (a1 c9O a0))) Tryz.func65
theorem c9P:Ok0 203 b2E:=
 fo [] [] [0,2] [] d6i a0 Tryz.func203
theorem d3j:Ok0 133 b6u:=
 fo [(203,b2E)] [] [0,1,4,5] [] d6j (a1 c9P a0) Tryz.func133
theorem d3k:Ok0 134 a5O:=⟨c7Y _,⟨_,_,Tryz.func134,rfl,by kernel_rfl⟩⟩
theorem d1V:Ok0 66 b4I:=
 fo [(133,b6u),(134,a5O)] [] [0,1,4,5] [] H66 (a1 d3j (a1 d3k a0)) Tryz.func66
theorem d1W:Ok0 67 b1q:=
 fo [] [] [0,2,3,5,6] [] H67 a0 Tryz.func67
theorem d1X:Ok0 19 b4J:=
 fo [(61,b4E),(62,b6Q),(63,b1i),(64,b1j),(65,b4c),(66,b4I),(67,b1q)] [(4,.pair (.list true (.int .u8)) Q0)] [0,2,3,7,8,9] [1] H19 (a1 d1S (a1 d1T (a1 d7y (a1 d7z (a1 d7A (a1 d1V (a1 d1W a0))))))) Tryz.func19
theorem d3l:Ok0 179 b2I:=
 fo [] [] [0,1,4,5,6,7,8,9,10,11,12,13] [] d6k a0 Tryz.func179
theorem d3m:z0z Tryz.prog G0 180 b2J:=c7Z _
theorem d3n:Ok0 324 b2L:=
 fo [] [] [0,2] [] d1M a0 Tryz.func324
theorem d3o:Ok0 287 a7d:=
 fo [(324,b2L)] [] [0,2] [] d6l (a1 d3n a0) Tryz.func287
theorem d3p:Ok0 233 b2M:=
 fo [(287,a7d)] [] [0,1,2,6,7,8,9,10,11,12,13,14,15,16,17,18] [] d6m (a1 d3o a0) Tryz.func233
theorem d3q:Ok0 181 b2N:=
 fo [(233,b2M)] [] [0,1,2,6,7,8] [] d6n (a1 d3p a0) Tryz.func181
theorem c5V:Ok0 101 b1P:=
 fo [(179,b2I),(180,b2J),(181,b2N)] [] [0,1,2,6,7,8,9] [] d6o (a1 d3l (B0a d3m (a1 d3q a0))) Tryz.func101
theorem c8g:Ok0 42 b0I:=
 fo [(101,b1P)] [] [0,2,3,5] [] H42 (a1 c5V a0) Tryz.func42
theorem c8h:Ok0 86 a7f:=
 fo [(22,a7q),(56,a4f)] [] [0,2,3,4,6] [1] H86 (a1 c5A (a1 c1c a0)) Tryz.func86
theorem d3r:Ok0 231 b6v:=
 fo [(95,a3H)] [] [0,1,4,5,6,7,9,10] [] d6p (a1 c1b a0) Tryz.func231
theorem d3s:Ok0 177 b6R:=
 fo [(56,a4f),(86,a7f),(231,b6v)] [] [0,2,3] [1] d6q (a1 c1c (a1 c8h (a1 d3r a0))) Tryz.func177
theorem d3t:Ok0 232 b6S:=
 fo [(101,b1P)] [] [0,2,3,4] [] d6r (a1 c5V a0) Tryz.func232
theorem d3u:Ok0 178 b7T:=
 fo [(101,b1P),(232,b6S)] [] [0,1,2,6,7] [] d6s (a1 c5V (a1 d3t a0)) Tryz.func178
theorem c8i:Ok0 97 a8y:=
 fo [(42,b0I),(177,b6R),(178,b7T)] [] [0,1,4,5,6,7] [3] H97 (a1 c8g (a1 d3s (a1 d3u a0))) Tryz.func97
theorem c8j:Ok0 85 b1R:=
 fo [(19,b4J),(50,a9r),(57,a3I),(97,a8y)] [] [0,2,3,4,5,6,7,8,11,12] [1] H85 (a1 d1X (a1 c8f (a1 c1d (a1 c8i a0)))) Tryz.func85
theorem d1Y:Ok0 27 b0L:=
 fo [(85,b1R),(86,a7f)] [] [0,2,3,4,5,6,7] [1] H27 (a1 c8j (a1 c8h a0)) Tryz.func27
theorem d7B:Ok0 31 b6U:=
 fo [] [] [0,1,4,5,6] [2] H31 a0 Tryz.func31
theorem d1Z:Ok0 35 b2F:=
 fo [] [] [0,1,4,5] [] H35 a0 Tryz.func35
theorem d2a:Ok0 59 b6V:=
 fo [(113,b1K),(114,b2Q),(115,b2C),(116,b3v)] [] [0,1,4,5,6] [] H59 (a1 c5Q (a1 c5B (a1 c9G (a1 c9H a0)))) Tryz.func59
theorem d3v:Ok0 187 b6w:=
 fo [(113,b1K)] [] [0,2,3,5,6,7] [] d6t (a1 c5Q a0) Tryz.func187
theorem d3w:Ok0 188 b6W:=
 fo [] [] [0,2,4,8,12,17] [] d6u a0 Tryz.func188
theorem d3x:Ok0 112 b7U:=
 fo [(59,b6V),(187,b6w),(188,b6W)] [] [0,2,3,4,5,6,7,8] [] d6v (a1 d2a (a1 d3v (a1 d3w a0))) Tryz.func112
theorem d7C:Ok0 58 b7V:=
 fo [(56,a4f),(112,b7U)] [] [0,2,3,4] [1] H58 (a1 c1c (a1 d3x a0)) Tryz.func58
theorem c9Q:Ok0 118 b2G:=
 fo [(190,b2B)] [] [0,1,4,5,6,8] [] d6w (a1 c9D a0) Tryz.func118
theorem d3y:Ok0 191 a1g:=
 ⟨i0v.of (cx:=b0N) (cxo a0) b4h Tryz.func191 rfl (by kernel_rfl) d2P,⟨_,_,Tryz.func191,rfl,by kernel_rfl⟩⟩
theorem c9R:Ok0 119 b0O:=
 fo [(191,a1g)] [] [0,2,3,5] [] d6x (a1 d3y a0) Tryz.func119
theorem c9S:Ok0 243 b3A:=
 fo [(288,b3u)] [] [0,1,4,5,6,7] [] d6y (a1 c9w a0) Tryz.func243
theorem d3z:Ok0 244 b6x:=
 fo [] [] [0,1,4,5,6,7] [] d6z a0 Tryz.func244
theorem d3A:Ok0 192 b6Y:=
 fo [(243,b3A),(244,b6x)] [] [0,2,3,4,5,6,7,8] [] d6A (a1 c9S (a1 d3z a0)) Tryz.func192
theorem c9T:Ok0 304 b1r:=
 fo [] [] [0,2] [] d6B a0 Tryz.func304
theorem d3B:Ok0 302 b4d:=
 fo [(304,b1r)] [] [0,2,3,5,6,7,8] [] d6C (a1 c9T a0) Tryz.func302
theorem d3C:Ok0 303 b1k:=
 fo [] [] [0,1,2,6,7,8,9,10] [] d6D a0 Tryz.func303
theorem d3D:Ok0 245 b3B:=
 fo [(183,a0Z),(290,a6A),(302,b4d),(303,b1k),(304,b1r)] [] [0,1,4,5,6,7,8,9,10,11,12,13] [] d6E (a1 b9s (a1 c5L (a1 d3B (a1 d3C (a1 c9T a0))))) Tryz.func245
theorem d3E:Ok0 246 b5a:=
 fo [] [] [0,2,3,5,6,7,8,9,10,11] [] d6F a0 Tryz.func246
theorem d3F:Ok0 247 b5b:=
 fo [(95,a3H)] [] [0,1,4,5,6,8,9,10,11,13,14] [] d6G (a1 c1b a0) Tryz.func247
theorem c9U:Ok0 194 b2H:=
 fo [(245,b3B),(246,b5a),(247,b5b)] [] [0,1,2,6,7,8,9,10,11] [] d6H (a1 d3D (a1 d3E (a1 d3F a0))) Tryz.func194
theorem d3G:Ok0 248 b7X:=
 fo [(293,a8q)] [] [0,1,2,6,7,8,9,10,11,12,13] [] d6I (a1 c5N a0) Tryz.func248
theorem c5W:Ok0 250 a9i:=
 fo [(212,b2R),(293,a8q),(294,b1p),(295,b1I)] [] [0,1,2,6,7,8,9,10,11] [5] d6J (a1 c5F (a1 c5N (a1 c9y (a1 c5M a0)))) Tryz.func250
theorem d3H:Ok0 305 b3C:=
 fo [] [] [0] [] d1O a0 Tryz.func305
theorem d3I:Ok0 249 b7Z:=
 fo [(250,a9i),(305,b3C)] [] [0,1,5,7,8,11,12,13,15] [] d1P (a1 c5W (a1 d3H a0)) Tryz.func249
theorem d3J:Ok0 195 b6Z:=
 fo [(194,b2H),(248,b7X),(249,b7Z),(250,a9i)] [] [0,3,4,5,7,8,9] [] d6K (a1 c9U (a1 d3G (a1 d3I (a1 c5W a0)))) Tryz.func195
theorem d3K:Ok0 193 b2m:=
 fo [(194,b2H)] [] [0,1,2,3,6,7,8] [] d6L (a1 c9U a0) Tryz.func193
theorem d3L:Ok0 120 b3D:=
 fo [(192,b6Y),(193,b2m),(195,b6Z)] [(5,.list true Q42)] [0,1,4,6,8,9] [67] d6M (a1 d3A (a1 d3K (a1 d3J a0))) Tryz.func120
theorem d3M:Ok0 252 b6y:=
 fo [(211,a9V),(290,a6A),(291,a9D),(292,a9q)] [] [0,1,2,6,7,8,9,10] [] d6N (a1 c5E (a1 c5L (a1 c9x (a1 c5K a0)))) Tryz.func252
theorem d3N:Ok0 253 b7a:=
 fo [(183,a0Z),(213,b1F),(296,b0A),(298,b4C),(299,a3X),(300,a9Z),(301,a7C)] [] [0,1,4,5,6,9,10,11,12,13] [] d6O (a1 b9s (a1 c5G (a1 c9z (a1 c9A (a1 c5P (a1 c5O (a1 c9C a0))))))) Tryz.func253
theorem d3O:Ok0 197 b8a:=
 fo [(151,a9W),(183,a0Z),(243,b3A),(250,a9i),(252,b6y),(253,b7a)] [] [0,1,4,5,6,11,22,37,67] [] d6P (a1 c5I (a1 b9s (a1 c9S (a1 c5W (a1 d3M (a1 d3N a0)))))) Tryz.func197
theorem d3P:Ok0 306 b8b:=
 fo [(257,b2T)] [] [0,2,3,4,5,6] [] d6Q (a1 c5U a0) Tryz.func306
theorem d3Q:Ok0 255 b5c:=
 fo [(256,b4F),(257,b2T),(306,b8b)] [] [0,2,3] [] d6R (a1 c9L (a1 c5U (a1 d3P a0))) Tryz.func255
theorem d3R:Ok0 198 b7b:=
 fo [(200,b3x),(201,a4X),(254,b2D),(255,b5c)] [(14,.pair QI Q1),(40,.pair QI Q1)] [0,1,2,3,9,11,12,13,15,17,18] [] d6S (a1 c9N (a1 b9t (a1 c9K (a1 d3Q a0)))) Tryz.func198
theorem d3S:Ok0 121 b9i:=
 fo [(117,a9o),(118,b2G),(119,b0O),(150,b3Z),(196,b3t),(197,b8a),(198,b7b)] [] [0,1,2,7,8,11,12,13] [5] d6T (a1 c5C (a1 c9Q (a1 c9R (a1 c5H (a1 c9u (a1 d3O (a1 d3R a0))))))) Tryz.func121
theorem d3T:Ok0 199 b2O:=
 fo [] [] [0,2] [] d6U a0 Tryz.func199
theorem d3U:Ok0 122 b9j:=
 fo [(62,b6Q),(199,b2O)] [(5,.pair (.list true (.int .u8)) Q0)] [0,1,4] [2] d6V (a1 d1T (a1 d3T a0)) Tryz.func122
theorem d7D:Ok0 60 b9k:=
 fo [(117,a9o),(118,b2G),(119,b0O),(120,b3D),(121,b9i),(122,b9j)] [] [0,1,5,6,7,9,10,14,15] [] H60 (a1 c5C (a1 c9Q (a1 c9R (a1 d3L (a1 d3S (a1 d3U a0)))))) Tryz.func60
theorem d7E:Ok0 18 b7c:=
 fo [(22,a7q),(56,a4f),(57,a3I),(58,b7V),(59,b6V),(60,b9k)] [(10,.pair QI Q56),(52,.pair QI Q54),(57,.pair QI Q54),(63,.pair QI Q54),(79,.pair QI Q54),(95,.pair QI Q54)] [0,1,2,3,9,11,12,14,16] [4,5] H18 (a1 c5A (a1 c1c (a1 c1d (a1 d7C (a1 d2a (a1 d7D a0)))))) Tryz.func18
theorem d2b:Ok0 89 a9E:=
 fo [] [] [0,2,3,5,6] [] H89 a0 Tryz.func89
theorem d2c:Ok0 29 b4K:=
 fo [(66,b4I),(85,b1R),(88,b4H),(89,a9E)] [] [0,2,3,4,5,6,7,8,10,12] [1] H29 (a1 d1V (a1 c8j (a1 d1U (a1 d2b a0)))) Tryz.func29
theorem d7F:Ok0 96 b7d:=
 fo [(57,a3I),(95,a3H)] [(6,.pair QI Q6),(36,.list true (.list true QI)),(37,.pair QI Q6)] [0,1,5,7,8,9] [3] H96 (a1 c1d (a1 c1b a0)) Tryz.func96
theorem d2d:Ok0 37 b1s:=
 fo [(18,b7c),(19,b4J),(29,b4K),(57,a3I),(95,a3H),(96,b7d),(97,a8y)] [(13,.pair Q12 Q71),(76,.pair Q12 Q70)] [0,1,2,3,8,9,10,12,14,15,16,18,20] [4] H37 (a1 d7E (a1 d1X (a1 d2c (a1 c1d (a1 c1b (a1 d7F (a1 c8i a0))))))) Tryz.func37
theorem c9V:Ok0 143 b4L:=
 fo [] [] [0,2] [] d6W a0 Tryz.func143
theorem d3V:Ok0 208 b5d:=
 fo [] [] [0,2,3,4,5,6,7] [] d6X a0 Tryz.func208
theorem c9W:Ok0 144 a8b:=
 fo [(208,b5d)] [] [0,1,4,5,6,7] [] d6Y (a1 d3V a0) Tryz.func144
theorem c9X:Ok0 146 a8c:=
 fo [] [] [0,2] [] d6Z a0 Tryz.func146
theorem c5X:Ok0 147 a4P:=
 fo [] [] [0,2] [] d7a a0 Tryz.func147
theorem c9Y:Ok0 148 a8U:=
 fo [] [] [0,2] [] d7b a0 Tryz.func148
theorem d3W:Ok0 234 b1l:=
 fo [(147,a4P)] [] [0,1,4,5] [] d7c (a1 c5X a0) Tryz.func234
theorem d3X:Ok0 182 b2n:=
 fo [(203,b2E),(234,b1l)] [] [0,1,4,5,7] [] d7d (a1 c9P (a1 d3W a0)) Tryz.func182
theorem c9Z:Ok0 102 a7S:=
 fo [(57,a3I),(89,a9E),(143,b4L),(144,a8b),(146,a8c),(147,a4P),(148,a8U),(182,b2n)] [(4,.pair Q12 Q21)] [0,3,5,6,7,9] [] d7e (a1 c1d (a1 d2b (a1 c9V (a1 c9W (a1 c9X (a1 c5X (a1 c9Y (a1 d3X a0)))))))) Tryz.func102
theorem d3Y:Ok0 145 b8c:=
 fo [] [] [0,2,3] [] d7f a0 Tryz.func145
theorem d7G:Ok0 71 b4e:=
 fo [(105,b2z),(132,b3y),(143,b4L),(144,a8b),(145,b8c),(146,a8c),(147,a4P),(148,a8U)] [(2,.pair QI Q55),(15,.pair QI Q54),(26,.pair QI Q54),(83,.pair QI Q54),(88,.pair QI Q54),(101,.pair QI Q54),(105,.pair QI Q54)] [0,3,4,5,6,7,8,9,10,11] [] H71 (a1 c9s (a1 c9O (a1 c9V (a1 c9W (a1 d3Y (a1 c9X (a1 c5X (a1 c9Y a0)))))))) Tryz.func71
theorem d7H:Ok0 72 b9l:=
 fo [] [] [0,2] [] H72 a0 Tryz.func72
theorem c1e:Ok0 76 a2h:=
 fo [] [] [0,2] [] H76 a0 Tryz.func76
theorem d2e:Ok0 74 a8d:=
 fo [] [] [0,2] [] H74 a0 Tryz.func74
theorem c5Y:Ok0 154 a5z:=
 fo [] [] [0,1,4] [] d7g a0 Tryz.func154
theorem b7E:Ok0 209 a2i:=
 fo [(74,a8d),(154,a5z)] [] [0,1,4,5] [] d7h (a1 d2e (a1 c5Y a0)) Tryz.func209
theorem c2L:Ok0 152 a2J:=
 fo [(209,a2i)] [] [0,1,4,5] [] d7i (a1 b7E a0) Tryz.func152
theorem d3Z:Ok0 210 b5e:=
 fo [(124,a2z),(152,a2J),(209,a2i)] [] [0,1,4,5,6] [] d7j (a1 b5D (a1 c2L (a1 b7E a0))) Tryz.func210
theorem d4a:Ok0 149 b6z:=
 fo [(152,a2J),(209,a2i),(210,b5e)] [(2,.pair QI Q39)] [0,3,4,5,6,7,21,23,25,27] [] d7k (a1 c2L (a1 b7E (a1 d3Z a0))) Tryz.func149
theorem d4b:Ok0 330 b1m:=
 fo [(154,a5z)] [] [0,1,4,5,6] [] d7l (a1 c5Y a0) Tryz.func330
theorem d4c:Ok0 331 b6A:=
 fo [] [] [0,2,3,6] [] d7m a0 Tryz.func331
theorem d4d:Ok0 313 b9m:=
 fo [(76,a2h),(209,a2i),(330,b1m),(331,b6A)] [] [0,1,4,5,6,7,8] [] d7n (a1 c1e (a1 b7E (a1 d4b (a1 d4c a0)))) Tryz.func313
theorem d4e:Ok0 272 b9n:=
 fo [(76,a2h),(258,a6D),(313,b9m)] [] [0,1,2,6,7,8,9,10] [] d7o (a1 c1e (a1 c5S (a1 d4d a0))) Tryz.func272
theorem d4f:Ok0 215 b8d:=
 fo [(76,a2h),(124,a2z),(152,a2J),(209,a2i),(272,b9n)] [] [0,1,4,5,6,7,8,9,10,11] [] d7p (a1 c1e (a1 b5D (a1 c2L (a1 b7E (a1 d4e a0))))) Tryz.func215
theorem d4g:Ok0 153 b8e:=
 fo [(76,a2h),(201,a4X),(209,a2i),(214,b1H),(215,b8d)] [(11,.pair QI Q1),(41,.pair QI Q1)] [0,1,2,7,8,9,10,12,14,15,16,17] [] d7q (a1 c1e (a1 b9t (a1 b7E (a1 c5J (a1 d4f a0))))) Tryz.func153
theorem d7I:Ok0 73 c1C:=
 fo [(76,a2h),(123,b6P),(124,a2z),(128,a9U),(149,b6z),(150,b3Z),(151,a9W),(152,a2J),(153,b8e)] [(7,.pair QI (.pair QI (.pair QI (.pair QI (.pair QI (.pair QL (.pair (.arr 3 QI) (.pair (.list false Q3) Q23))))))))] [0,1,5,6,8,9,10,11,12] [] H73 (a1 c1e (a1 c9I (a1 b5D (a1 c5D (a1 d4a (a1 c5H (a1 c5I (a1 c2L (a1 d4g a0))))))))) Tryz.func73
theorem d7J:Ok0 75 b1n:=
 fo [(154,a5z)] [] [0,2,3] [] H75 (a1 c5Y a0) Tryz.func75
theorem d7K:Ok0 21 b7e:=
 fo [(61,b4E),(67,b1q),(71,b4e),(72,b9l),(73,c1C),(74,a8d),(75,b1n),(76,a2h)] [(5,.pair QI Q56)] [0,3,4,6,7,8,9,10,12] [] H21 (a1 d1S (a1 d1W (a1 d7G (a1 d7H (a1 d7I (a1 d2e (a1 d7J (a1 c1e a0)))))))) Tryz.func21
theorem d0A:Ok0 103 a6O:=
 fo [(21,b7e),(50,a9r)] [] [0,1,2,3,4,12,13,15,16] [6] d7r (a1 d7K (a1 c8f a0)) Tryz.func103
theorem d4h:Ok0 104 b4M:=
 fo [(22,a7q),(56,a4f),(183,a1j)] [(6,.pair QI Q7),(12,.pair QI Q5),(30,.pair QI Q5),(33,.pair QI Q5)] [0,1,5,8] [2,3] d1Q (a1 c5A (a1 c1c (a1 c6V a0))) Tryz.func104
theorem d7L:Ok0 43 b7g:=
 fo [(86,a7f),(102,a7S),(103,a6O),(104,b4M)] [] [0,1,4,5,7,8,9,10,11,12,13,14,15,18] [3] H43 (a1 c8h (a1 c9Z (a1 d0A (a1 d4h a0)))) Tryz.func43
theorem d2f:Ok0 44 b3E:=
 fo [(97,a8y),(102,a7S),(103,a6O)] [(6,.pair Q12 Q71),(20,.pair Q12 Q70),(24,.pair Q12 Q70),(48,.pair Q12 Q70),(90,.pair Q12 Q70),(96,.pair Q12 Q70)] [0,3,5,7,8,9,12] [] H44 (a1 c8i (a1 c9Z (a1 d0A a0))) Tryz.func44
theorem d7M:Ok0 25 b8f:=
 fo [(27,b0L),(31,b6U),(35,b2F),(37,b1s),(42,b0I),(43,b7g),(44,b3E)] [] [0,2,3,5,6,7,8,9,10,11] [] H25 (a1 d1Y (a1 d7B (a1 d1Z (a1 d2d (a1 c8g (a1 d7L (a1 d2f a0))))))) Tryz.func25
theorem d7N:Ok0 33 b8g:=
 fo [(85,b1R)] [] [0,2,3,4,5] [1] H33 (a1 c8j a0) Tryz.func33
theorem d7O:Ok0 36 c1D:=
 fo [] [] [0,1,4] [] H36 a0 Tryz.func36
theorem d4i:Ok0 109 c2Y:=
 fo [] [] [0,2] [] d7s a0 Tryz.func109
theorem d4j:Ok0 110 c1E:=
 fo [] [] [0,2] [] d7t a0 Tryz.func110
theorem d2g:Ok0 55 b7i:=
 fo [(109,c2Y),(110,c1E)] [] [0,1,4] [] H55 (a1 d4i (a1 d4j a0)) Tryz.func55
theorem d7P:Ok0 77 b8h:=
 fo [] [] [0,2] [1] H77 a0 Tryz.func77
theorem d7Q:Ok0 39 b9o:=
 fo [(55,b7i),(77,b8h)] [] [0,1,2,6,7] [3] H39 (a1 d2g (a1 d7P a0)) Tryz.func39
theorem d7R:Ok0 40 b9p:=
 fo [(37,b1s),(44,b3E)] [] [0,1,2,3,8,10,11,12,14] [4] H40 (a1 d2d (a1 d2f a0)) Tryz.func40
theorem d7S:Ok0 99 b9q:=
 fo [] [] [0,2] [] H99 a0 Tryz.func99
theorem d4k:Ok0 100 b9r:=
 fo [] [] [0,1,4,5,6] [] d7u a0 Tryz.func100
theorem d7T:Ok0 41 c1F:=
 fo [(55,b7i),(99,b9q),(100,b9r)] [] [0,1,4,5,6,7] [] H41 (a1 d2g (a1 d7S (a1 d4k a0))) Tryz.func41
theorem fs8:Ok0 8 b0W:=
 fo [(25,b8f),(27,b0L),(29,b4K),(33,b8g),(35,b2F),(36,c1D),(39,b9o),(40,b9p),(41,c1F),(42,b0I)] [] [0,1,2,3,8,9,11,12,13,14,15,16,17] [4] H8 (a1 d7M (a1 d1Y (a1 d2c (a1 d7N (a1 d1Z (a1 d7O (a1 d7Q (a1 d7R (a1 d7T (a1 c8g a0)))))))))) Tryz.func8
end Go.Ab
namespace Go.Ab
open IntKind(wrap)
section
variable {σ β:Type} {f:σ→Option (σ ⊕ β)}
theorem b5E:∀(n m:Nat)(s:σ){b:β},j0w f n s=some b→j0w f (n+m) s=some b
 |0,_,s,b,h=>by simp[j0w]at h
 |n+1,m,s,b,h=>by
  rw[show n+1+m=n+m+1 from by omega];simp only[j0w]at h⊢
  split at h
  cases h;rename_i s' g;exact b5E n m s' h;exact h
theorem c1G{n m:Nat}{s:σ}{b b':β}(h:j0w f n s=some b)(k:j0w f m s=some b'):b=b':=by
 have a:=b5E n m s h;have g:=b5E m n s k;rw[Nat.add_comm,a]at g;exact Option.some.inj g
theorem c8k{n:Nat}{s:σ}{b:β}(h:j0w f n s=some b):v0q f s=some b:=by
 unfold v0q;have g:∃n b,j0w f n s=some b:=⟨n,b,h⟩;rw[dif_pos g];exact congrArg some (c1G g.choose_spec.choose_spec h)
theorem c1f{n:Nat}{s:σ}{b:β}(h:j0w f n s=some b):y0m f s=some b:=by
 unfold y0m;split;rename_i g hb;rw[c1G hb h];exact c8k h
theorem c1H{s:σ}(h:∀n,j0w f n s=none):y0m f s=none:=by
 unfold y0m;rw[h 400];show v0q f s=none;unfold v0q;rw[dif_neg]
 rintro⟨n,b,g⟩
 rw[h n]at g;cases g
theorem a0E{s:σ}{b:β}(h:f s=some (.inr b)):y0m f s=some b:=c1f (n:=1) (by simp[j0w,h])
theorem a0F{s s':σ}(h:f s=some (.inl s')):y0m f s=y0m f s':=by
 by_cases hx:∃n b,j0w f n s'=some b
 obtain⟨n,b,hb⟩:=hx;rw[c1f hb];exact c1f (n:=n+1) (by simp[j0w,h,hb])
 ·have g:∀n,j0w f n s'=none:=fun n=>by
   cases hn:j0w f n s' with
   |none=>rfl
   |some b=>exact absurd ⟨n,b,hn⟩ hx
  rw[c1H g];refine c1H fun n=>?_
  cases n with
  |zero=>rfl
  |succ n=>simp[j0w,h,g n]
theorem c5a(S:Nat→σ)(n:Nat){b:β}(g:∀i,i<n→f (S i)=some (.inl (S (i+1))))(h:f (S n)=some (.inr b)):∀(k:Nat),k≤n→y0m f (S (n-k))=some b
 |0,_=>a0E h
 |k+1,hk=>by
  rw[a0F (g (n-(k+1)) (by omega)),show n-(k+1)+1=n-k from by omega];exact c5a S n g h k (by omega)
theorem a1w(S:Nat→σ)(n:Nat){b:β}(g:∀i,i<n→f (S i)=some (.inl (S (i+1))))(h:f (S n)=some (.inr b)):y0m f (S 0)=some b:=by
 have:=c5a S n g h n (a33 _)
 rwa [a37]at this
end
theorem a0C{n:Int}(h:-9223372036854775808≤n∧n≤9223372036854775807):wrap .i64 n=n:=by
 simp only[wrap,IntKind.bits,IntKind.signed]
 simp
 split<;>omega
theorem a0K{n:Int}(h:0≤n∧n<18446744073709551616):wrap .u64 n=n:=by
 simp only[wrap,IntKind.bits,IntKind.signed]
 simp
 omega
theorem a7m(n:Int):wrap .u8 n=n%256:=by
 simp[wrap,IntKind.bits,IntKind.signed]
def leB:Nat→Nat→List Int
 |0,_=>[]
 |k+1,n=>((n%256:Nat):Int)::leB k (n / 256)
theorem a8L:∀k n,(leB k n).length=k
 |0,_=>rfl
 |k+1,n=>by simp[leB,a8L k]
theorem b5F:∀(k n:Nat),leB (k+1) n=leB k n++[((n / 256^k%256:Nat):Int)]
 |0,n=>by simp[leB]
 |k+1,n=>by
  rw[leB,b5F k (n / 256),leB,Nat.div_div_eq_div_mul,Nat.pow_succ,Nat.mul_comm (256^k)];rfl
theorem b5f(x y:Int):v0n x y=min x y:=by
 simp only[v0n,cond_eq_ite,dT]
 split<;>omega
theorem b5g(x y:Int):v0m x y=max x y:=by
 simp only[v0m,cond_eq_ite,dT]
 split<;>omega
theorem a0S{n:Nat}(h:n<2147483648):lim n=true:=by simp[lim,h]
section
variable {α A σ β:Type}
def a2K(g:A→α→A ⊕ β):List α→A→A ⊕ β
 | [],a=>.inl a
 |x::r,a=>match g a x with
  |.inl a'=>a2K g r a'
  |.inr b=>.inr b
def a8V(fin:A→β):A ⊕ β→β
 |.inl a=>fin a
 |.inr b=>b
theorem b5h{f:σ→Option (σ ⊕ β)}(l:List α)(S:Nat→A→σ)(g:A→α→A ⊕ β)(I:Nat→A→Prop)(e:A→β)
  (d:∀i (h:i<l.length) a,I i a→(∀a',g a l[i]=.inl a'→f (S i a)=some (.inl (S (i+1) a'))∧I (i+1) a')∧(∀b,g a l[i]=.inr b→f (S i a)=some (.inr b)))
  (c:∀a,I l.length a→f (S l.length a)=some (.inr (e a))):∀(k i:Nat)(a:A),i+k=l.length→I i a→y0m f (S i a)=some (a8V e (a2K g (l.drop i) a))
 |0,i,a,hi,ha=>by
  obtain rfl:i=l.length:=by omega
  rw[a32];exact a0E (c a ha)
 |k+1,i,a,hi,ha=>by
  have j:i<l.length:=by omega
  rw[a08 j];obtain⟨m,n⟩:=d i j a ha;simp only[a2K];cases hg:g a l[i]with
  |inl a'=>
   obtain⟨o,p⟩:=m a' hg;rw[a0F o];exact b5h l S g I e d c k (i+1) a' (by omega) p
  |inr b=>exact a0E (n b hg)
theorem a1P{f:σ→Option (σ ⊕ β)}(l:List α)(S:Nat→A→σ)(g:A→α→A ⊕ β)(I:Nat→A→Prop)(k:A→β)
  (d:∀i (h:i<l.length) a,I i a→(∀a',g a l[i]=.inl a'→f (S i a)=some (.inl (S (i+1) a'))∧I (i+1) a')∧(∀b,g a l[i]=.inr b→f (S i a)=some (.inr b)))
  (c:∀a,I l.length a→f (S l.length a)=some (.inr (k a))){a:A}(e:I 0 a):y0m f (S 0 a)=some (a8V k (a2K g l a)):=by
 have:=b5h l S g I k d c l.length 0 a (by omega) e
 rwa [a39]at this
theorem a1Q{f:σ→Option (σ ⊕ β)}(l:List α)(S:Nat→σ)(p:α→Bool){bt bf:β}
  (k:∀i (h:i<l.length),p l[i]=true→f (S i)=some (.inl (S (i+1))))(c:∀i (h:i<l.length),p l[i]=false→f (S i)=some (.inr bf))
  (g:f (S l.length)=some (.inr bt)):y0m f (S 0)=some (bif l.all p then bt else bf):=by
 have h:=a1P (A:=Unit) l (fun i _=>S i) (fun _ x=>bif p x then .inl ()else .inr bf) (fun _ _=>True) (fun _=>bt) (fun i h a _=>?_) (fun _ _=>g) (a:=()) trivial
 ·rw[h];congr 1;clear h k c g
  induction l with
  |nil=>rfl
  |cons x l ih=>
   simp only[a2K,List.all_cons];cases p x with
   |true=>simpa using ih
   |false=>rfl
 ·cases hp:p l[i]with
  |true=>exact⟨fun d _=>⟨k i h hp,trivial⟩,fun b hb=>by simp[hp]at hb⟩
  |false=>exact⟨fun d e=>by simp[hp]at e,fun b hb=>by simp[hp]at hb;rw[←hb];exact c i h hp⟩
end
theorem a0D{α:Type}{l:List α}{i:Nat}(h:i<l.length):m0h l (i:Int)=some l[i]:=by
 unfold m0h;rw[if_pos (Int.natCast_nonneg i),tN,lG h]
def a0A(x:Int):Bool:=decide (-1073741824≤x)&&decide (x<1073741824)
theorem a1D{x:Int}:a0A x=true↔-1073741824≤x∧x<1073741824:=by simp[a0A]
def short{α:Type}(l:List α):Prop:=l.length<1000000
theorem a0B{i:Nat}(h:i<1000000):wrap .i64 ((i:Int)+1)=((i+1:Nat):Int):=by
 rw[a0C (by omega)];omega
theorem dlt{i n:Nat}(h:i<n):decide ((i:Int)<(n:Int))=true:=by simp;omega
theorem dge(n:Nat):decide ((n:Int)<(n:Int))=false:=by simp
theorem a4s{l:List Int}(a:short l):a2t l=some (l.all a0A):=by
 unfold a2t
 have:=a1Q (f:=a2w) l (fun i=>(l,(l.length:Int),(i:Int),())) a0A (bt:=Sum.inl ()) (bf:=Sum.inr (false,()))
  (fun i h hp=>by
   have hp:=a1D.1 hp;have g:decide (l[i] < -1073741824)=false:=by simp;omega
   have k:decide (l[i]≥1073741824)=false:=by simp;omega
   simp only[a2w,dlt h,cT,a0D h,oB,g,k,cF,a0B (a30 h a)])
  (fun i h hp=>by
   simp only[a2w,dlt h,cT,a0D h,oB]
   by_cases g:l[i] < -1073741824
   simp[g];have k:l[i]≥1073741824:=by
    simp only[a0A,Bool.and_eq_false_iff,decide_eq_false_iff_not]at hp;omega
   simp[g,k])
  (by simp[a2w])
 simp only[nZ]at this;rw[this];cases l.all a0A<;>rfl
theorem a6l(x:Int):a4Y x=some (a0A x):=by
 grind[a4Y,a0A]
theorem a8f(x:Int):a7t x=some (a0A x):=by
 grind[a7t,a0A]
theorem a5d(x:Int):a6c x=some (a0A x):=by
 grind[a6c,a0A]
theorem b5i(x:Int):a4Z x=some (a0A x):=by
 grind[a4Z,a0A]
theorem a5Y{l:List Int}(g:short l):a2x l=some (l.all a0A):=by
 unfold a2x
 have:=a1Q (f:=a2Y) l (fun i=>(l,(l.length:Int),(i:Int),())) a0A (bt:=Sum.inl ()) (bf:=Sum.inr (false,()))
  (fun i h hp=>by simp[a2Y,a0D h,a6l,hp,a0B (a30 h g),h])
  (fun i h hp=>by simp_all[a2Y,a0D,a6l])
  (by simp[a2Y])
 grind
theorem b4i{l:List Int}(g:short l):a4m l=some (l.all a0A):=by
 unfold a4m
 have:=a1Q (f:=a3R) l (fun i=>(l,(l.length:Int),(i:Int),())) a0A (bt:=Sum.inl ()) (bf:=Sum.inr (false,()))
  (fun i h hp=>by simp[a3R,a0D h,a8f,hp,a0B (a30 h g),h])
  (fun i h hp=>by simp_all[a3R,a0D,a8f])
  (by simp[a3R])
 grind
theorem b3F{l:List Int}(g:short l):a5g l=some (l.all a0A):=by
 unfold a5g
 have:=a1Q (f:=a3s) l (fun i=>(l,(l.length:Int),(i:Int),())) a0A (bt:=Sum.inl ()) (bf:=Sum.inr (false,()))
  (fun i h hp=>by simp[a3s,a0D h,a5d,hp,a0B (a30 h g),h])
  (fun i h hp=>by simp_all[a3s,a0D,a5d])
  (by simp[a3s])
 grind
theorem a7n{l:List Int}(h:short l):a2G l=some (l.all a0A):=by
 have e:b4a=a2w:=rfl
 have:a2G l=a2t l:=by rfl
 simp_all[a4s]
def b9v(x:Int):Bool:=decide (-32768≤x)&&decide (x<32768)
def a9F(c:List Int)(s:Int):Bool:=decide (1≤c.length)&&(decide (c.length≤32)&&(decide (0≤s)&&(decide (s≤15)&&c.all b9v)))
theorem a9y{c:List Int}{s:Int}(a:short c):a4u (c,s)=some (a9F c s):=by
 have:=a1Q (f:=a5f) c (fun i=>(c,(c.length:Int),(i:Int),())) b9v (bt:=Sum.inl ()) (bf:=Sum.inr (false,()))
  (fun i h hp=>by
   simp[b9v]at hp;have g:¬ c[i] < -32768:=by omega
   have k:¬ c[i]≥32768:=by omega
   simp[a5f,a0D h,a0B (a30 h a),h,g,k])
  (fun i h hp=>by
   grind[b9v,a5f,a0D])
  (by simp[a5f])
 simp at this;unfold a4u a9F
 grind
def b5G(x:Int):Bool:=decide (-64≤x)&&decide (x≤64)
def b2b(lag:Int)(t:List Int):Bool:=decide (2≤lag)&&(decide (lag≤1024)&&t.all b5G)
theorem b4O{t:List Int}{lag:Int}(g:t.length=3):a8p (lag,t)=some (b2b lag t):=by
 have:=a1Q (f:=a6W) t (fun i=>(t,(i:Int),())) b5G (bt:=Sum.inl ()) (bf:=Sum.inr (false,()))
  (fun i h hp=>by
   simp[b5G]at hp
   grind[a6W,a0D,a0B])
  (fun i h hp=>by
   grind[b5G,a6W,a0D])
  (by simp_all[a6W])
 simp at this;unfold a8p b2b
 grind
def stageB(s:Int×(Int×Unit)):Bool:=decide (1≤s.1)&&(decide (s.1≤32)&&(decide (0≤s.2.1)&&decide (s.2.1≤8)))
def a9k(l:List (Int×Int×Unit)):Bool:=decide (l.length≤3)&&l.all stageB
theorem b1t(s:Int×(Int×Unit)):a6X s=some (stageB s):=by
 grind[a6X,stageB]
theorem b3G{l:List (Int×Int×Unit)}(g:short l):a7r l=some (a9k l):=by
 have:=a1Q (f:=a6a) l (fun i=>(l,(l.length:Int),(i:Int),())) stageB (bt:=Sum.inl ()) (bf:=Sum.inr (false,()))
  (fun i h hp=>by simp[a6a,a0D h,b1t,hp,a0B (a30 h g),h])
  (fun i h hp=>by simp_all[a6a,a0D,b1t])
  (by simp[a6a])
 simp at this;unfold a7r a9k
 grind
@[reducible] def W(n:Int):Int:=wrap .i64 n
theorem a8g(n:Int):wrap .i64 n=Int.bmod n 18446744073709551616:=by
 grind[wrap,IntKind.bits,IntKind.signed]
theorem b7j{n:Int}(h:a0A n=true):W n=n:=by
 grind[a1D,a0C]
def a4a(guess:List Int→Int):List Int→List Int→Option (List Int)
 | [],out=>some out
 |x::r,out=>bif a0A (W (x+guess out))then a4a guess r (out++[W (x+guess out)])else none
def b4j{β:Type}(guess:List Int→Int)(bad:β)(out:List Int)(x:Int):List Int ⊕ β:=bif a0A (W (x+guess out))then .inl (out++[W (x+guess out)])else .inr bad
theorem b3c{β:Type}(h:List Int→Int)(g:β)(f:List Int→β):∀(l out:List Int),a8V f (a2K (b4j h g) l out)=match a4a h l out with|some r=>f r|none=>g
 | [],out=>rfl
 |x::l,out=>by
  simp[a2K,b4j,a4a];cases a0A (W (x+h out))with
  |true=>simp_all[b3c]
  |false=>rfl
theorem b3d(g:List Int→Int):∀(l out r:List Int),out.all a0A=true→a4a g l out=some r→r.all a0A=true∧r.length=out.length+l.length
 | [],out,r,h,e=>by simp_all[a4a]
 |x::l,out,r,h,e=>by
  simp[a4a]at e;cases hw:a0A (W (x+g out))with
  |true=>
   rw[hw]at e;obtain⟨f,k⟩:=b3d g l _ r (by simp_all) e
   grind
  |false=>simp_all
def a4V:Option (List Int)→List Int×Int
 |some r=>(r,0)
 |none=>([],6)
def atB(out:List Int)(i:Nat):Int:=out.getD (out.length-i) 0
def a4G(o:Nat)(out:List Int):Int:=match o with
 | 1=>atB out 1
 | 2=>2*atB out 1-atB out 2
 | 3=>3*atB out 1-3*atB out 2+atB out 3
 | 4=>4*atB out 1-6*atB out 2+4*atB out 3-atB out 4
 |_=>0
theorem b3e{out:List Int}{i:Nat}(hi:1≤i)(h:i≤out.length)(g:short out):a1i ((i:Int),out)=some (atB out i,out):=by
 unfold a1i;have g:out.length<1000000:=g
 grind[a0C,a0D,atB]
theorem c1g{out:List Int}{o:Nat}(e:o≤4)(h:o≤out.length)(a:short out):∃g,a9p (out,(o:Int))=some g∧∀x,W (x+g)=W (x+a4G o out):=by
 have f:=fun(h':1≤out.length)=>b3e (i:=1) (by omega) h' a;have k:=fun(h':2≤out.length)=>b3e (i:=2) (by omega) h' a;have b:=fun(h':3≤out.length)=>b3e (i:=3) (by omega) h' a;have c:=fun(h':4≤out.length)=>b3e (i:=4) (by omega) h' a;simp at f k b c;unfold a9p;have d:o=0∨o=1∨o=2∨o=3∨o=4:=by omega
 rcases d with rfl|rfl|rfl|rfl|rfl;exact⟨0,rfl,fun x=>rfl⟩;exact⟨_,by simp[f (by omega)];rfl,fun x=>rfl⟩;refine⟨_,by simp[f (by omega),k (by omega)];rfl,fun x=>?_⟩;simp_all[a8g,a4G];refine⟨_,by simp[f (by omega),k (by omega),b (by omega)];rfl,fun x=>?_⟩;simp_all[a8g,a4G];refine⟨_,by simp[f (by omega),k (by omega),b (by omega),c (by omega)];rfl,fun x=>?_⟩;simp_all[a8g,a4G]
theorem a0U{n:Nat}(h:n<1000000):lim n=true:=a0S (by omega)
theorem c2u{warm rest:List Int}{o:Nat}(u:o≤4)(x:warm.length=o)(w:rest.length<100000):
  a9Y (warm,rest,(o:Int))=some (a4V (bif warm.all a0A&&rest.all a0A then a4a (a4G o) rest warm else none)):=by
 have c:short warm:=by unfold short;omega
 have m:short rest:=by unfold short;omega
 unfold a9Y;have p:¬ (o:Int)<0:=by omega
 have q:¬ (o:Int) > 4:=by omega
 have r:(((warm.length:Nat):Int) != (o:Int))=false:=by simp_all
 simp only[p,q,r,decide_false,cF,oB,a7n c,a7n m];cases hw1:warm.all a0A with
 |false=>rfl
 |true=>
  simp only[bT,cF,oB,a35];cases hw2:rest.all a0A with
  |false=>rfl
  |true=>
   simp[a0U c]
   have:=a1P (f:=a7I) rest (fun i out=>((o:Int),rest,(rest.length:Int),(i:Int),out,())) (b4j (a4G o) (Sum.inr ((6:Int),([]:List Int),())))
    (fun i out=>o≤out.length∧out.length≤o+i) (fun out=>Sum.inl (out,()))
    (fun i h out s=>by
     have j:i<1000000:=by omega
     have l:short out:=by unfold short;omega
     obtain⟨g,t,d⟩:=c1g u s.1 l;have e:wrap .i64 (rest[i]+g)=W (rest[i]+a4G o out):=d _;have k:a2G [W (rest[i]+a4G o out)]=some (a0A (W (rest[i]+a4G o out))):=by rw[a7n (by simp[short])];simp
     simp only[a7I,dlt h,cT,a0D h,oB,t,e,k,b4j];cases hb:a0A (W (rest[i]+a4G o out))with
     |true=>
      simp only[cT,bT,cF,a0U (show out.length+1<1000000 by omega),a0B j];refine⟨fun v n=>?_,fun b hb=>(by grind)⟩;simp at n;subst n;exact⟨rfl,by grind,by grind⟩
     |false=>
      simp)
    (fun out _=>by simp[a7I]) (a:=warm) ⟨by omega,by omega⟩
   simp[b3c]at this;rw[this];cases a4a (a4G o) rest warm<;>rfl
def c2Z(out:List Int):List Int→Nat→Int→Int
 | [],_,acc=>acc
 |c::r,i,acc=>bif decide (i<out.length)then c2Z out r (i+1) (W (acc+W (c*atB out (i+1))))else acc
def b1u(c:List Int)(s:Int)(out:List Int):Int:=A0i .i64 (c2Z out c 0 0) s
theorem d2h{out:List Int}{i:Nat}(h:i<out.length)(g:short out):m0h out (wrap .i64 (wrap .i64 (((out.length:Nat):Int)-1)-(i:Int)))=some (atB out (i+1)):=by
 have g:out.length<1000000:=g;have f:wrap .i64 (((out.length:Nat):Int)-1)=((out.length-1:Nat):Int):=by rw[a0C (by omega)];omega
 have k:wrap .i64 (((out.length-1:Nat):Int)-(i:Int))=((out.length-(i+1):Nat):Int):=by rw[a0C (by omega)];omega
 rw[f,k,a0D (show out.length-(i+1)<out.length by omega),atB,lD,lG (by omega)];rfl
theorem b7k{out c:List Int}{s:Int}(a:short out)(e:short c):∀(k i:Nat)(acc:Int),i+k=c.length→
  y0m a2Z (out,s,acc,c,(c.length:Int),(i:Int),())=some (s,c2Z out (c.drop i) i acc,())
 |0,i,acc,h=>by
  obtain rfl:i=c.length:=by omega
  rw[a32];exact a0E (by simp[a2Z,c2Z])
 |k+1,i,acc,h=>by
  have g:i<c.length:=by omega
  have l:out.length<1000000:=a;have j:c.length<1000000:=e;rw[a08 g,c2Z];have b:wrap .i64 (((out.length:Nat):Int)-1)=((out.length:Nat):Int)-1:=a0C (by omega);have d:wrap .i64 (((out.length:Nat):Int)-1-(i:Int))=((out.length:Nat):Int)-1-(i:Int):=a0C (by omega)
  by_cases hi:i<out.length
  have f:decide (wrap .i64 (wrap .i64 (((out.length:Nat):Int)-1)-(i:Int))<0)=false:=by rw[b,d];simp;omega
  simp only[hi,decide_true,cT];rw[a0F (s':=(out,s,W (acc+W (c[i]*atB out (i+1))),c,(c.length:Int),((i+1:Nat):Int),())) (by
   simp only[a2Z,dlt g,cT,a0D g,oB,f,cF,d2h hi a,a0B (show i<1000000 by omega)])]
  exact b7k a e k (i+1) _ (by omega);have f:decide (wrap .i64 (wrap .i64 (((out.length:Nat):Int)-1)-(i:Int))<0)=true:=by rw[b,d];simp;omega
  simp only[hi,decide_false,cF];exact a0E (by simp only[a2Z,dlt g,cT,a0D g,oB,f])
theorem b5H{out c:List Int}{s:Int}(g:short out)(h:short c)(f:0≤s):a4w (out,c,s)=some (b1u c s out):=by
 have:=b7k (s:=s) g h c.length 0 0 (by omega)
 simp only[nZ,a39]at this;unfold a4w;simp only[this,oB]
 have:¬ s<0:=by omega
 simp[this,b1u]
def b3H(warm rest c:List Int)(s:Int):Option (List Int):=bif warm.all a0A&&rest.all a0A then a4a (b1u c s) rest warm else none
theorem b5j{warm rest c:List Int}{s:Int}(o:a9F c s=true)(w:warm.length=c.length)(v:rest.length<100000):
  a6Y (warm,rest,c,s)=some (a4V (b3H warm rest c s)):=by
 have g:=o;simp only[a9F,bA,dT]at g;have k:short c:=by unfold short;omega
 have n:short warm:=by unfold short;omega
 have m:short rest:=by unfold short;omega
 unfold a6Y;have r:(((warm.length:Nat):Int) != ((c.length:Nat):Int))=false:=by simp;omega
 simp only[a9y k,o,oB,bT,cF,r,a5Y n,a5Y m,b3H];cases hw1:warm.all a0A with
 |false=>rfl
 |true=>
  simp only[bT,cF,oB,a35];cases hw2:rest.all a0A with
  |false=>rfl
  |true=>
   have q:wrap .i64 (((warm.length:Nat):Int)+((rest.length:Nat):Int))=((warm.length+rest.length:Nat):Int):=by rw[a0C (by omega)];omega
   have t:(0:Int)≤((warm.length+rest.length:Nat):Int):=by omega
   simp only[bT,cF,cT,q,t,decide_true,tN,a0U (show warm.length+rest.length<1000000 by omega),a0U (show 0+warm.length<1000000 by omega),a09,List.append_eq,a23]
   have:=a1P (f:=a6B) rest (fun i out=>(c,s,rest,(rest.length:Int),(i:Int),out,())) (b4j (b1u c s) (Sum.inr ((6:Int),([]:List Int),())))
    (fun i out=>out.length≤warm.length+i) (fun out=>Sum.inl (out,()))
    (fun i h out u=>by
     have j:i<1000000:=by omega
     have l:short out:=by unfold short;omega
     have e:wrap .i64 (b1u c s out+rest[i])=W (rest[i]+b1u c s out):=by rw[Int.add_comm]
     simp only[a6B,dlt h,cT,a0D h,oB,b5H l k g.2.2.1,e,a6l,b4j];cases hb:a0A (W (rest[i]+b1u c s out))with
     |true=>
      simp only[cT,bT,cF,a0U (show out.length+1<1000000 by omega),a0B j];refine⟨fun p d=>?_,fun b hb=>(by cases hb)⟩;simp only[Sum.inl.injEq]at d;subst d;exact⟨rfl,by simp;omega⟩
     |false=>
      refine⟨fun p d=>(by cases d),fun b hb=>?_⟩;simp only[cF,Sum.inr.injEq]at hb;subst hb;rfl)
    (fun out _=>by simp[a6B]) (a:=warm) (by omega)
   simp only[nZ,b3c]at this;rw[this];cases a4a (b1u c s) rest warm<;>rfl
def c3a(out:List Int)(lag:Int):List Int→Nat→Int→Int
 | [],_,acc=>acc
 |t::r,i,acc=>c3a out lag r (i+1) (bif decide (0≤(out.length:Int)-lag-1+i)then W (acc+W (t*out.getD ((out.length:Int)-lag-1+i).toNat 0))else acc)
def a9z(lag:Int)(t:List Int)(out:List Int):Int:=A0i .i64 (c3a out lag t 0 0) 6
theorem c3b{out:List Int}{j:Int}(g:0≤j)(h:j<out.length):m0h out j=some (out.getD j.toNat 0):=by
 obtain⟨n,rfl⟩:=Int.eq_ofNat_of_zero_le g;simp_all[a0D]
theorem d0T{n i:Nat}{lag:Int}(h:2≤lag)(g:lag≤1024)(f:n<1000000)(hi:i<3):
  wrap .i64 (wrap .i64 (wrap .i64 ((n:Int)-lag)-1)+(i:Int))=(n:Int)-lag-1+i:=by
 grind[a0C]
theorem c6W{l:List Int}{n j:Nat}(h:j<n):(l.take n).getD j 0=l.getD j 0:=by
 simp_all
theorem a8W{l t:List Int}{lag:Int}{n:Nat}(m:n≤l.length)(j:short l)(o:t.length=3)(a:2≤lag)(b:lag≤1024):∀(k i:Nat)(acc:Int),i+k=3→
  y0m a3S (l,(n:Int),lag,acc,t,(i:Int),())=some (c3a (l.take n) lag (t.drop i) i acc,())
 |0,i,acc,h=>by
  obtain rfl:i=t.length:=by omega
  grind[a0E,a3S,c3a]
 |k+1,i,acc,h=>by
  have g:i<t.length:=by omega
  have f:decide ((i:Int)<3)=true:=by grind
  have p:l.length<1000000:=j;have d:(l.take n).length=n:=by simp_all
  have e:=d0T (n:=n) (i:=i) a b (by omega) (by omega);rw[a08 g,c3a,d]
  by_cases hp:0≤(n:Int)-lag-1+i
  have c:decide ((n:Int)-lag-1+i≥0)=true:=by simp_all
  simp only[hp,decide_true,cT];rw[c6W (show((n:Int)-lag-1+i).toNat<n by omega),a0F (s':=(l,(n:Int),lag,W (acc+W (t[i]*l.getD ((n:Int)-lag-1+i).toNat 0)),t,((i+1:Nat):Int),())) (by
   simp only[a3S,f,cT,a0D g,oB,e,c,c3b hp (show(n:Int)-lag-1+(i:Int)<(l.length:Int)by omega),a0B (show i<1000000 by omega)])]
  exact a8W m j o a b k (i+1) _ (by omega);have c:decide ((n:Int)-lag-1+i≥0)=false:=by simp_all
  simp[hp];rw[a0F (s':=(l,(n:Int),lag,acc,t,((i+1:Nat):Int),())) (by
   simp only[a3S,f,cT,a0D g,oB,e,c,cF,a0B (show i<1000000 by omega)])]
  exact a8W m j o a b k (i+1) _ (by omega)
theorem b4k{l t:List Int}{lag:Int}{n:Nat}(f:n≤l.length)(k:short l)(a:t.length=3)(h:2≤lag)(g:lag≤1024):
  a4n (l,(n:Int),lag,t)=some (a9z lag t (l.take n)):=by
 have:=a8W (t:=t) f k a h g 3 0 0 (by rfl)
 simp_all[a4n,a9z]
theorem b9w{out t:List Int}{lag:Int}(f:short out)(k:t.length=3)(h:2≤lag)(g:lag≤1024):a4n (out,(out.length:Int),lag,t)=some (a9z lag t out):=by
 simp_all[b4k]
def b4l(rest:List Int)(lag:Int)(t:List Int):Option (List Int):=bif rest.all a0A then a4a (a9z lag t) rest []else none
theorem c3c{rest t:List Int}{lag:Int}(d:b2b lag t=true)(e:t.length=3)(m:rest.length<100000):b1J (rest,lag,t)=some (a4V (b4l rest lag t)):=by
 have g:=d;simp only[b2b,bA,dT]at g;have k:short rest:=by unfold short;omega
 unfold b1J;simp only[b4O e,d,oB,bT,cF,b4i k,b4l];cases hw2:rest.all a0A with
 |false=>rfl
 |true=>
  have l:(0:Int)≤((rest.length:Nat):Int):=by omega
  simp[a0U k]
  have:=a1P (f:=a8r) rest (fun i out=>(lag,rest,(rest.length:Int),(i:Int),out,t,())) (b4j (a9z lag t) (Sum.inr ((6:Int),([]:List Int),())))
   (fun i out=>out.length=i) (fun out=>Sum.inl (out,()))
   (fun i h out j=>by
    have b:i<1000000:=by omega
    have c:short out:=by unfold short;omega
    have hp:=b9w (out:=out) (t:=t) (lag:=lag) c e g.1 g.2.1;rw[j]at hp;simp only[a8r,dlt h,cT,a0D h,oB,hp,a8f,b4j];cases hb:a0A (W (rest[i]+a9z lag t out))with
    |true=>
     simp only[cT,bT,cF,a0U (show out.length+1<1000000 by omega),a0B b];simp_all
    |false=>
     simp)
   (fun out _=>by simp[a8r]) (a:=[]) rfl
  simp[b3c]at this;rw[this];cases a4a (a9z lag t) rest []<;>rfl
def b9x{β:Type}(n:Int)(bad:β)(out:List Int)(x:Int):List Int ⊕ β:=bif a0A x&&a0A (A0h .i64 x n)then .inl (out++[A0h .i64 x n])else .inr bad
def upO(n:Int)(l:List Int):Option (List Int):=bif l.all (fun x=>a0A x&&a0A (A0h .i64 x n))then some (l.map fun x=>A0h .i64 x n)else none
theorem b8i{β:Type}(n:Int)(h:β)(g:List Int→β):∀(l out:List Int),a8V g (a2K (b9x n h) l out)=match upO n l with|some r=>g (out++r)|none=>h
 | [],out=>by simp[a2K,a8V,upO]
 |x::l,out=>by
  simp only[a2K,b9x,upO,List.all_cons];cases hx:(a0A x&&a0A (A0h .i64 x n))with
  |true=>
   simp only[cT,a35];rw[b8i n h g l _];simp only[upO];cases l.all (fun x=>a0A x&&a0A (A0h .i64 x n))with
   |true=>simp
   |false=>rfl
  |false=>rfl
theorem c3d{l:List Int}{n:Int}(d:0≤n)(e:n≤30)(m:l.length<100000):a9c (l,n)=some (a4V (upO n l)):=by
 have c:short l:=by unfold short;omega
 have g:¬ n<0:=by omega
 have b:¬ n > 30:=by omega
 unfold a9c;simp[g,b]
 have:=a1P (f:=a8s) l (fun i out=>(n,l,(l.length:Int),(i:Int),out,())) (b9x n (Sum.inr ((6:Int),([]:List Int),())))
  (fun i out=>out.length=i) (fun out=>Sum.inl (out,()))
  (fun i h out j=>by
   have k:i<1000000:=by omega
   simp only[a8s,dlt h,cT,a0D h,oB,b5i,b9x,g,decide_false,cF];cases hb:a0A l[i]with
   |true=>
    cases hb2:a0A (A0h .i64 l[i] n)with
    |true=>
     simp only[cT,bT,cF,oB,g,decide_false,a0U (show out.length+1<1000000 by omega),a0B k,a09];simp_all
    |false=>
     simp
   |false=>
    simp)
  (fun out _=>by simp[a8s]) (a:=[]) rfl
 simp[b8i]at this;rw[this];cases upO n l<;>rfl
@[reducible] def Fil:Type:=Int×((List Int)×((List Int)×Unit))
def a2r(x:Int):Int:=v0n (v0m x (-1073741824)) 1073741823
def b9y(x:Int):Int:=v0n (v0m x (-1048576)) 1048576
theorem c3e(x:Int):-1048576≤b9y x∧b9y x≤1048576:=by
 grind[b9y,b5f,b5g]
def c5Z:List Int→List Int→Int→Int
 |a::w,b::h,acc=>c5Z w h (W (acc+W (a*b)))
 |_,_,acc=>acc
def a1h(f:Fil):Int:=a2r (A0i .i64 (c5Z f.2.1 f.2.2.1 0) 16)
structure FilOk (f:Fil):Prop where
 len:f.2.1.length=f.2.2.1.length
 pos:1≤f.2.1.length
 most:f.2.1.length≤32
 rate:0≤f.1∧f.1≤8
 small:∀x∈f.2.1,-1048576≤x∧x≤1048576
theorem b8J{l:List Int}{i:Nat}(h:i<l.length):a04 l i 0=l[i]:=by
 simp_all
theorem b3I{f:Fil}(c:FilOk f):∀(k i:Nat)(acc:Int),i+k=f.2.1.length→
  y0m a2W (acc,(f.2.1.length:Int),(i:Int),f,())=some (c5Z (f.2.1.drop i) (f.2.2.1.drop i) acc,f,())
 |0,i,acc,h=>by
  obtain rfl:i=f.2.1.length:=by omega
  rw[a32,a0E (b:=(acc,f,())) (by simp[a2W])];rfl
 |k+1,i,acc,h=>by
  have g:i<f.2.1.length:=by omega
  have a:i<f.2.2.1.length:=by rw[←c.len];omega
  have e:=c.most;rw[a08 g,a08 a,c5Z];have d:decide ((0:Int)≤(i:Int))=true:=by simp
  rw[a0F (s':=(W (acc+W (f.2.1[i]*f.2.2.1[i])),(f.2.1.length:Int),((i+1:Nat):Int),f,())) (by
   simp only[a2W,dlt g,dlt a,d,cT,a09,tN,b8J g,b8J a,a0B (show i<1000000 by omega)])]
  exact b3I c k (i+1) _ (by omega)
theorem a6m{f:Fil}(h:FilOk f):a1V f=some (a1h f,f):=by
 have:=b3I h f.2.1.length 0 0 (by omega)
 simp at this;unfold a1V;simp only[this,oB,a5h];rfl
def b7F(x:Int):Int:=if 0<x then 1 else if x<0 then -1 else 0
def b2c(r:Int)(x g:Int):Int:=b7F (x-g)*2^r.toNat
def b5I(st:Int)(w h:Int):Int:=b9y (W (w+b7F h*st))
def b3f(f:Fil)(x:Int):Fil:=
 (f.1,a26 (b5I (b2c f.1 (a2r x) (a1h f))) f.2.1 f.2.2.1,a2r x::f.2.2.1.take (f.2.2.1.length-1),f.2.2.2)
theorem c3f{f:Fil}(k:FilOk f)(x:Int):FilOk (b3f f x):=by
 obtain⟨a,b,c,g,d⟩:=k;have e:(a26 (b5I (b2c f.1 (a2r x) (a1h f))) f.2.1 f.2.2.1).length=f.2.1.length:=by simp_all
 refine⟨?_,?_,?_,g,?_⟩;show(a26 _ _ _).length=(a2r x::f.2.2.1.take (f.2.2.1.length-1)).length;simp_all;show 1≤(a26 _ _ _).length;omega;show(a26 _ _ _).length≤32;omega;intro y h;have h:y∈a26 (b5I (b2c f.1 (a2r x) (a1h f))) f.2.1 f.2.2.1:=h;obtain⟨i,hi,rfl⟩:=List.mem_iff_getElem.1 h
 simp
 exact c3e _
theorem b4P(x:Int):(0<x∧b7F x=1)∨(x<0∧b7F x=-1)∨(x=0∧b7F x=0):=by
 unfold b7F;omega
theorem b8K{r:Int}(h:0≤r∧r≤8):(2:Int)^r.toNat≤256∧1≤(2:Int)^r.toNat:=by
 have:r.toNat=0∨r.toNat=1∨r.toNat=2∨r.toNat=3∨r.toNat=4∨r.toNat=5∨r.toNat=6∨r.toNat=7∨r.toNat=8:=by omega
 rcases this with e|e|e|e|e|e|e|e|e<;>rw[e]<;>decide
theorem c6X{r:Int}(h:0≤r∧r≤8){x:Int}(g:-1≤x∧x≤1):A0h .i64 x r=x*2^r.toNat:=by
 have hp:=b8K h;have hb:min r.toNat 64=r.toNat:=by omega
 unfold A0h;show wrap .i64 (x*2^(min r.toNat 64))=_;rw[hb]
 have:x=-1∨x=0∨x=1:=by omega
 rcases this with rfl|rfl|rfl
 all_goals grind[a0C]
theorem c2v{f:Fil}(a:FilOk f)(x:Int):
  (bif decide (a2r x > a1h f)then bif decide (f.1<0)then(none:Option (Int×Int×Fil×Unit))else some (a2r x,A0h .i64 (1:Int) f.1,f,())
   else bif decide (a2r x<a1h f)then bif decide (f.1<0)then none else some (a2r x,wrap .i64 (0-(A0h .i64 (1:Int) f.1)),f,())
   else some (a2r x,(0:Int),f,()))=some (a2r x,b2c f.1 (a2r x) (a1h f),f,()):=by
 have d:¬ f.1<0:=by have:=a.rate;omega
 have hp:=b8K a.rate;have b:=c6X a.rate (x:=1) (by omega);rw[Int.one_mul]at b;rcases b4P (a2r x-a1h f)with⟨c,h⟩|⟨c,h⟩|⟨c,h⟩;have g:a2r x > a1h f:=by omega
 simp only[g,d,decide_true,decide_false,cT,cF,b2c,h,Int.one_mul,b];have g:¬ a2r x > a1h f:=by omega
 have k:a2r x<a1h f:=by omega
 simp only[g,k,d,decide_true,decide_false,cT,cF,b2c,h,b]
 grind[a0C]
 have g:¬ a2r x > a1h f:=by omega
 have k:¬ a2r x<a1h f:=by omega
 simp only[g,k,decide_false,cF,b2c,h,Int.zero_mul]
theorem c8l{l z:List Int}{i:Nat}(hi:i<l.length)(f:z.length=l.length):(z.take i++l.drop i).set i (z[i]'(by omega))=z.take (i+1)++l.drop (i+1):=by
 have h:(z.take i).length=i:=by grind
 have g:z.take (i+1)=z.take i++[z[i]'(by omega)]:=by simp
 rw[a34 _ _ (by omega),h,a37,a08 hi,a36,g,aA];rfl
theorem c8m{l z:List Int}{i:Nat}(hi:i<l.length)(h:z.length=l.length):a04 (z.take i++l.drop i) i 0=l[i]:=by
 grind
theorem c6Y{f:Fil}(g:FilOk f){i:Nat}(h:i<f.2.1.length):-1048576≤f.2.1[i]∧f.2.1[i]≤1048576:=g.small _ (a38 h)
theorem b9z{f:Fil}(n:FilOk f){x1 st:Int}(t:-256≤st∧st≤256):
  y0m a2q (x1,st,(f.2.2.1.length:Int),(0:Int),f,())=some (x1,(f.1,a26 (b5I st) f.2.1 f.2.2.1,f.2.2),()):=by
 obtain⟨z,v⟩:∃z,a26 (b5I st) f.2.1 f.2.2.1=z:=⟨_,rfl⟩;have p:=n.len;have d:z.length=f.2.1.length:=by grind
 have u:=n.most
 have:=a1w (f:=a2q) (fun i=>(x1,st,(f.2.2.1.length:Int),(i:Int),(f.1,z.take i++f.2.1.drop i,f.2.2),()))
  f.2.2.1.length (b:=(x1,(f.1,z,f.2.2),())) (fun i hi=>by
   have k:i<f.2.1.length:=by omega
   have j:decide ((0:Int)≤(i:Int))=true:=by simp
   have r:(z.take i++f.2.1.drop i).length=f.2.1.length:=by grind
   have g:decide ((i:Int)<((z.take i++f.2.1.drop i).length:Int))=true:=by simp_all
   have o:z[i]'(by omega)=b5I st f.2.1[i] f.2.2.1[i]:=by grind
   have s:=c6Y n k;have h:=c8l k d;rw[o]at h;simp only[a2q,dlt hi,j,g,cT,a09,tN,b8J hi,c8m k d];rcases b4P f.2.2.1[i]with⟨m,a⟩|⟨m,a⟩|⟨m,a⟩;have c:f.2.2.1[i] > 0:=m;simp[b5I,a]at h;simp only[c,decide_true,cT,oB,j,g,a09,tN,a0B (show i<1000000 by omega)];exact congrArg (fun l=>some (Sum.inl (x1,st,(f.2.2.1.length:Int),((i+1:Nat):Int),(f.1,l,f.2.2),()))) h;have c:¬ f.2.2.1[i] > 0:=by omega
   have e:f.2.1[i]+-1*st=f.2.1[i]-st:=by omega
   simp only[b5I,a,e]at h;simp only[c,m,decide_true,decide_false,cT,cF,oB,j,g,a09,tN,a0B (show i<1000000 by omega)];exact congrArg (fun l=>some (Sum.inl (x1,st,(f.2.2.1.length:Int),((i+1:Nat):Int),(f.1,l,f.2.2),()))) h;have c:¬ f.2.2.1[i] > 0:=by omega
   have q:¬ f.2.2.1[i]<0:=by omega
   have e:W (f.2.1[i]+0*st)=f.2.1[i]:=by rw[Int.zero_mul,Int.add_zero];exact a0C (by omega)
   simp only[b5I,a,e]at h;simp only[c,q,decide_false,cF,oB,j,g,cT,a09,tN,a0B (show i<1000000 by omega)];exact congrArg (fun l=>some (Sum.inl (x1,st,(f.2.2.1.length:Int),((i+1:Nat):Int),(f.1,l,f.2.2),()))) h)
  (by
   simp_all[List.take_of_length_le,a2q])
 simp_all
theorem c4y{f:Fil}(k:FilOk f)(x g:Int):-256≤b2c f.1 x g∧b2c f.1 x g≤256:=by
 have hp:=b8K k.rate;unfold b2c;rcases b4P (x-g)with⟨-,h⟩|⟨-,h⟩|⟨-,h⟩<;>rw[h]<;>omega
theorem b6B{f:Fil}(h:FilOk f)(x:Int):a3a (f,x)=some (b3f f x):=by
 unfold a3a;have d:=c2v h x;simp only[a5h,oB,a6m h];have g:(bif decide (v0n (v0m x (-1073741824)) 1073741823 > a1h f)then bif decide (f.1<0)then(none:Option (Int×Int×Fil×Unit))else some (v0n (v0m x (-1073741824)) 1073741823,A0h .i64 (1:Int) f.1,f,())
   else bif decide (v0n (v0m x (-1073741824)) 1073741823<a1h f)then bif decide (f.1<0)then none else some (v0n (v0m x (-1073741824)) 1073741823,wrap .i64 (0-(A0h .i64 (1:Int) f.1)),f,())
   else some (v0n (v0m x (-1073741824)) 1073741823,(0:Int),f,()))=_:=d
 rw[g];simp only[oB,b9z h (c4y h _ _)];have i:f.2.2.1.length≥1:=by have:=h.pos;have:=h.len;omega
 have b:decide ((1:Int)≤((f.2.2.1.length:Nat):Int))=true:=by grind
 have e:p0b f.2.2.1 1 (f.2.2.1.length-1) f.2.2.1=f.2.2.1.take 1++f.2.2.1.take (f.2.2.1.length-1):=by
  simp_all[p0b]
 have j:(f.2.2.1.take 1++f.2.2.1.take (f.2.2.1.length-1)).length=f.2.2.1.length:=by simp_all
 have c:decide ((0:Int)<(((f.2.2.1.take 1++f.2.2.1.take (f.2.2.1.length-1)).length:Nat):Int))=true:=by grind
 simp only[b,cT,e,c];congr 1;have k:(f.2.2.1.take 1++f.2.2.1.take (f.2.2.1.length-1)).set 0 (a2r x)=a2r x::f.2.2.1.take (f.2.2.1.length-1):=by
  cases hc:f.2.2.1 with
  |nil=>simp_all
  |cons a l=>simp
 rw[k];rfl
@[reducible] def Stg:Type:=Int×(Int×Unit)
theorem a8h{l:List Int}(h:short l):a1c l=some l:=by
 have g:lim (0+l.length)=true:=a0U (by unfold short at h;omega);simp_all[a1c,w0z]
def b1v(s:Stg):Fil:=(s.2.1,a02 s.1.toNat 0,a02 s.1.toNat 0,())
theorem c5b{s:Stg}(h:stageB s=true):FilOk (b1v s):=by
 simp[stageB]at h;refine⟨by rfl,by simp[b1v];omega,by simp[b1v];omega,⟨h.2.2.1,h.2.2.2⟩,fun x g=>?_⟩;simp_all[b1v]
theorem b3J{s:Stg}(h:stageB s=true):a9b s=some (b1v s,0):=by
 have g:=h;simp[stageB]at g;unfold a9b;have f:decide ((0:Int)≤s.1)=true:=by grind
 have k:decide (s.1≤s.1)=true:=by simp
 have a:lim s.1.toNat=true:=a0U (by omega);simp only[b1t,h,oB,bT,cF,f,k,a,a09,cT];rfl
def stO:List Int→List Int→Fil→Option (List Int)
 | [],done,_=>some done
 |r::rs,done,f=>bif a0A (W (a1h f+r))then stO rs (done++[W (a1h f+r)]) (b3f f (W (a1h f+r)))else none
theorem b5J:∀(l done:List Int)(f:Fil){r},stO l done f=some r→r.length=done.length+l.length
 | [],done,f,r,h=>by simp_all[stO]
 |x::l,done,f,r,h=>by
  simp[stO]at h;cases hw:a0A (W (a1h f+x))with
  |true=>rw[hw]at h;rw[b5J l _ _ h];grind
  |false=>simp_all
theorem b4m{done row:List Int}{i:Nat}(g:done.length=i)(h:i<row.length):a04 (done++row.drop i) i 0=row[i]:=by
 grind
theorem c3g{done row:List Int}{i:Nat}(g:done.length=i)(h:i<row.length)(y:Int):(done++row.drop i).set i y=(done++[y])++row.drop (i+1):=by
 rw[a34 _ _ (by omega),g,a37,a08 h,a36,aA];rfl
theorem b4n{row b4:List Int}{b5:Int}(d:short row):∀(k i:Nat)(done:List Int)(f:Fil),i+k=row.length→done.length=i→FilOk f→
  ∃z,y0m a5i ((row.length:Int),(i:Int),b4,b5,done++row.drop i,f,())=some z∧
   match stO (row.drop i) done f with
   |some r=>z=.inl (b4,b5,r,())
   |none=>∃q,z=.inr (([]:List Int),(6:Int),q,())
 |0,i,done,f,h,hd,hf=>by
  obtain rfl:i=row.length:=by omega
  rw[a32,List.append_nil];exact⟨_,a0E (b:=Sum.inl (b4,b5,done,())) (by simp[a5i]),rfl⟩
 |k+1,i,done,f,h,hd,hf=>by
  have hi:i<row.length:=by omega
  have e:row.length<1000000:=d;have a:decide ((0:Int)≤(i:Int))=true:=by simp
  have j:(done++row.drop i).length=row.length:=by grind
  have c:decide ((i:Int)<(((done++row.drop i).length:Nat):Int))=true:=by simp_all
  have g:stO (row.drop i) done f=bif a0A (W (a1h f+row[i]))then stO (row.drop (i+1)) (done++[W (a1h f+row[i])]) (b3f f (W (a1h f+row[i])))else none:=by
   rw[a08 hi];rfl
  rw[g];cases hw:a0A (W (a1h f+row[i]))with
  |true=>
   rw[a0F (s':=((row.length:Int),((i+1:Nat):Int),b4,b5,(done++[W (a1h f+row[i])])++row.drop (i+1),b3f f (W (a1h f+row[i])),())) (by
    simp only[a5i,dlt hi,a,c,cT,a09,a6m hf,oB,tN,b4m hd hi,a5d,hw,bT,cF,b6B hf,c3g hd hi,a0B (show i<1000000 by omega)])]
   exact b4n d k (i+1) _ _ (by omega) (by simp_all) (c3f hf _)
  |false=>
   exact⟨_,a0E (b:=Sum.inr (([]:List Int),(6:Int),done++row.drop i,())) (by
    simp only[a5i,dlt hi,a,c,cT,a09,a6m hf,oB,tN,b4m hd hi,a5d,hw,Bool.not_false]),_,rfl⟩
def lO:List Stg→List Int→Option (List Int)
 | [],row=>some row
 |s::r,row=>match stO row [] (b1v s)with
  |some row'=>lO r row'
  |none=>none
theorem c4z{st:List Stg}{s:Stg}{k:Int}{b4:List Int}{row:List Int}(h:stageB s=true)(b:short row):
  ∃z,a7J k s (st,b4,(0:Int),row,())=some z∧match stO row [] (b1v s)with
   |some r=>z=.inl (st,b4,(0:Int),r,())
   |none=>∃q,z=.inr (.ret,st,([]:List Int),(6:Int),q,()):=by
 obtain⟨z,g,f⟩:=b4n (b4:=b4) (b5:=0) b row.length 0 [] (b1v s) (by omega) rfl (c5b h);simp at g f;unfold a7J;have a:((0:Int) != 0)=false:=rfl;simp[b3J h,g];cases hst:stO row [] (b1v s)with
 |some r=>
  simp_all
 |none=>
  grind
theorem b8j{st l:List Stg}{b4:List Int}(f:∀s∈l,stageB s=true):∀(n:Nat)(row:List Int),n≤l.length→short row→
  ∃z,l0b a7J l n (st,b4,(0:Int),row,())=some z∧match lO (l.take n).reverse row with
   |some r=>z=.inl (st,b4,(0:Int),r,())
   |none=>∃q,z=.inr (.ret,st,([]:List Int),(6:Int),q,())
 |0,row,_,_=>⟨_,rfl,rfl⟩
 |n+1,row,hn,hs=>by
  have h:n<l.length:=by omega
  obtain⟨z,a,g⟩:=c4z (st:=st) (k:=(n:Int)) (b4:=b4) (f _ (a38 h)) hs;have b:(l.take (n+1)).reverse=l[n]::(l.take n).reverse:=by simp
  simp[l0b,lG h,a,b,lO];cases hst:stO row [] (b1v l[n])with
  |some r=>
   rw[hst]at g;simp at g;subst g;exact b8j f n r (by omega) (by have:=b5J _ _ _ hst;unfold short at hs⊢;simp_all)
  |none=>
   grind
def b2p(rest:List Int)(st:List Stg):Option (List Int):=bif rest.all a0A then lO st.reverse rest else none
theorem c2w{rest:List Int}{st:List Stg}(a:a9k st=true)(c:rest.length<100000):b0C (rest,st)=some (a4V (b2p rest st)):=by
 have f:=a;simp only[a9k,bA,dT]at f;have k:short st:=by unfold short;omega
 have h:short rest:=by unfold short;omega
 unfold b0C;simp only[b3G k,a,oB,bT,cF,b3F h,b2p];cases hw:rest.all a0A with
 |false=>rfl
 |true=>
  obtain⟨z,b,g⟩:=b8j (st:=st) (b4:=[]) (lA.1 f.2) st.length rest (a33 _) h;rw[List.take_length]at g;simp[a8h h,a0U k,b];cases hst:lO st.reverse rest with
  |some r=>
   rw[hst]at g;simp at g;subst g;rfl
  |none=>
   rw[hst]at g;obtain⟨q,rfl⟩:=g;rfl
end Go.Ab
