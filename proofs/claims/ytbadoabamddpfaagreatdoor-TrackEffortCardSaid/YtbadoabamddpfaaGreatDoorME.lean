/- Part of the proof: It. Conditions: as each statement tells. -/
import Derived.RangeFuncBound
import Derived.RangeFuncCalls
import Derived.RangeFuncBox
import Derived.WalkKit
import Derived.OwnWalkIn
import Derived.TacticsInMore
import Derived.LoopNIn
import Derived.LoopIn
import Derived.Test.YtbadoabamddpfaaGreatDoorProg
import Derived.KernelRfl
import Derived.Test.YtbadoabamddpfaaGreatDoorMD
noncomputable section
set_option linter.unusedSimpArgs false
set_option linter.unusedVariables false
open Array renaming replicate_succ→a18,replicate_zero→a19
open Bool renaming and_self→a09,true_and→a33
open Int renaming toNat→a00,tmod→a05,tdiv→a07,eq_ofNat_of_zero_le→a31
open List renaming replicate→a01,length→a02,append→a03,getD→a04,take→a06,drop_eq_getElem_cons→a08,cons_append→a16,set→a20,drop→a21,append_toArray→a22,nil_append→a23,size_toArray→a24,push_toArray→a25,zipWith→a27,length_nil→a28,drop_length→a34,set_append_right→a36,set_cons_zero→a37,getElem_mem→a39,append_eq→a40
open Nat renaming lt_trans→a26,reduceAdd→a29,reduceSub→a30,le_refl→a35,sub_self→a38
open Option renaming getD_some→a32
namespace Go.Ab
open Go.Proofs Go.RowKit
attribute [local go_sem] Oper.semAt_some
set_option maxHeartbeats 1000000 in
theorem c9X:A0d Tryz.prog 297 326:=by
 refine⟨⟨_,_,Tryz.func297,rfl,by kernel_rfl⟩,fun A len cap w=>(callsIn_wide (n:=3)).1 ?_⟩
 refine callsIn_of_wp Tryz.func297 rfl trivial ?_
 simp only[Tryz.ntmps297,a24,lC,a28,a29,a30,a18,a19,a25,a22,a23,a16]
 gi_wp2
 go_ret
 exact⟨rfl,_,rfl⟩
@[reducible] def b3h:Ty:=.pair (.int .i64) (.pair (.int .i64) .unit)
set_option maxRecDepth 100000 in
set_option maxHeartbeats 2000000 in
theorem c7T (l Bs b off len cap:Nat) (p q:Nat→Int) (J:Nat→World→Prop) (Jx:World→Prop) (W:World)
  (hJ:∀k W',J k W'→W'.cell? ⟨Bs,0,none⟩=some (.slice (some ⟨b,off,none⟩) len cap))
  (hlen:len<2147483648)
  (hcs:∀k W',k<len→J (k+1) W'→W'.cell? ⟨b,off+k*2,none⟩=some (.int .i64 (p k))∧W'.cell? ⟨b,off+k*2+1,none⟩=some (.int .i64 (q k)))
  (hY:∀n W',n<len→J (n+1) W'→YieldAt (Fr none) 0 Tryz.prog l #[.int .i64 (n:Int),.agg #[.int .i64 (p n),.int .i64 (q n)]] W' fun en W''=>(en=.returned (.bool true)∧J n W'')∨(en=.returned (.bool false)∧Jx W''))
  (h0:J len W):
  CallsIn (Fr none) 0 Tryz.prog 326 #[.func (.yield l) #[] #[],.pointer (some ⟨Bs,0,none⟩)] W fun en W'=>(∃v,en=.returned v)∧(J 0 W'∨Jx W'):=by
 refine callsIn_of_wp Tryz.func326 rfl trivial ?_
 simp only[Tryz.ntmps326,a24,lC,a28,a29,a30,a18,a19,a25,a22,a23,a16]
 have hBs:=hJ _ _ h0
 gi_wp2
 gi_loopw [3] (fun i wr=>∃k:Nat,k≤len∧i=.int .i64 ((k:Int)-1)∧J k wr) (fun i _=>(intOf i+1).toNat)
 case atStart=>exact⟨len,a35 _,rfl,h0⟩
 case round=>
  obtain⟨k,hk,rfl,hJs⟩:=hrel
  cases k with
  |succ n=>
   obtain⟨fn,tmps,assign,body,hy,hR⟩:=hY n wr (by omega) hJs
   have hcx:=hJ _ _ hJs
   obtain⟨hc0,hc1⟩:=hcs n wr (by omega) hJs
   gi_wp2
   refine hR.mono ?_
   rintro e W3 (⟨rfl,hJ3⟩|⟨rfl,hJx3⟩)
   ·gi_wp2
    go_roundw
    case rel=>exact⟨n,by omega,by simp,hJ3⟩
    case measure=>simp[intOf]
   ·gi_wp2
    refine bodyPost_ret (results_none rfl _ _ _) rfl ?_
    exact⟨⟨_,rfl⟩,.inr hJx3⟩
  |zero=>
   gi_wp2
   go_end0
   exact⟨⟨_,rfl⟩,.inl hJs⟩
set_option maxRecDepth 100000 in
set_option maxHeartbeats 2000000 in
theorem c6H (l Bs:Nat) (A:Option Addr) (c:Nat) (J:Nat→World→Prop) (W:World) (hBs:W.cell? ⟨Bs,0,none⟩=some (.slice A 0 c)) (h0:J 0 W):
  CallsIn (Fr none) 0 Tryz.prog 326 #[.func (.yield l) #[] #[],.pointer (some ⟨Bs,0,none⟩)] W fun en W'=>(∃v,en=.returned v)∧J 0 W':=by
 refine callsIn_of_wp Tryz.func326 rfl trivial ?_
 simp only[Tryz.ntmps326,a24,lC,a28,a29,a30,a18,a19,a25,a22,a23,a16]
 gi_wp2
 gi_loopw [3] (fun i wr=>i=.int .i64 (-1)∧J 0 wr) (fun _ _=>0)
 case atStart=>exact⟨rfl,h0⟩
 case round=>
  obtain⟨rfl,hJs⟩:=hrel
  gi_wp2
  go_end0
  exact⟨⟨_,rfl⟩,hJs⟩
theorem c1A{m:Mem}{Sh:Nat→Prop}{b o:Nat}{x:b3h.den}{R}(h:dec m b3h ((Src.at b o).rd m)=some (x,[],R)):
  m b o=some (.int .i64 x.1)∧m b (o+1)=some (.int .i64 x.2.1)∧VOk m Sh b3h x (.agg #[.int .i64 x.1,.int .i64 x.2.1]):=by
 obtain⟨p,q,u⟩:=x;simp only[b3h,dec,Src.rd,Ty.cells,Nat.add_zero]at h
 split at h
 cases h;rename_i r o1 j g
 split at g
 rename_i n c
 split at g
 rename_i e;subst e;simp only[sj]at g;obtain⟨rfl,rfl,rfl⟩:=g
 split at h
 cases h;rename_i s o2 r2 k
 split at k
 cases k;rename_i t i l f
 split at f
 rename_i d a
 split at f
 rename_i e;subst e;simp only[sj]at f k h;obtain⟨rfl,rfl,rfl⟩:=f;obtain⟨rfl,rfl,rfl⟩:=k;obtain⟨⟨rfl,rfl,rfl⟩,-,-⟩:=h;exact⟨c,a,fun _=>⟨_,rfl,rfl⟩,fun h=>(by cases h),[],rfl,by simp⟩;cases f;cases f;cases g;cases g
theorem b6m {P:Program} {f:FuncId} (hb:l0u P f) (args:Array Value) (w:World):(callFunc f args).run P w=.ok (.enter f args) w:=by
 obtain ⟨fn,c',h1,h2,h3⟩:=hb;have h4 : ¬ fn.name = "runtime.NumGoroutine" := by simpa using h3
 simp [callFunc,program,Sem.run,h1,h2,h4,Result.andThen]
theorem c9Y:w0j Tryz.prog 326 b3h:=by
 refine⟨fun args w=>b6m ⟨_,_,Tryz.func326,rfl,by kernel_rfl⟩ args w,fun l Bs sv f J D W i t L o=>?_⟩;obtain⟨z,Sh,y⟩:=t _ _ o;obtain⟨A,n,c,rfl,rfl,N,v,j⟩:=y.header
 by_cases hx0:f.length=0
 rw[hx0]at o z;exact(c6H l Bs A c J W z o).mono fun e g h=>⟨h.1,.inl h.2⟩;cases A with
 |none=>have:=j rfl;omega
 |some A=>
  obtain⟨b,off,B⟩:=A
  have:=(v _ rfl).resolve_left (by omega)
  simp only at this;subst this;have u:∀k g,k<f.length→J (k+1) g→∃x,f[k]?=some x∧g.cell? ⟨b,off+k*2,none⟩=some (.int .i64 x.1)∧g.cell? ⟨b,off+k*2+1,none⟩=some (.int .i64 x.2.1):=by
   intro k g p d;obtain⟨-,a,hv⟩:=t _ _ d;obtain⟨C,O,E,R,e,F,G,H,s,I,K⟩:=hv.elem rfl (lG p);simp only[Value.slice.injEq,sj]at e;obtain⟨rfl,rfl,rfl⟩:=e;obtain⟨q,r,-⟩:=c1A (Sh:=a) s;exact⟨_,lG p,q,r⟩
  refine c7T l Bs b off f.length c (fun k=>((f[k]?).getD b3h.dflt).1) (fun k=>((f[k]?).getD b3h.dflt).2.1) J D W (fun k g d=>(t k g d).1) i (fun k g p d=>?_) (fun n g M d=>?_) o;obtain⟨x,m,q,r⟩:=u k g p d;simp only[m,a32];exact⟨q,r⟩;have m:f[n]?=some f[n]:=lG M;simp only[m,a32];refine L n _ _ g m d fun a hv=>?_
  obtain⟨C,O,E,R,e,F,G,H,s,I,K⟩:=hv.elem rfl m;exact(c1A (Sh:=a) s).2.2
set_option maxHeartbeats 1000000 in
theorem c9Z:A0d Tryz.prog 186 242:=by
 refine⟨⟨_,_,Tryz.func186,rfl,by kernel_rfl⟩,fun A len cap w=>(callsIn_wide (n:=3)).1 ?_⟩
 refine callsIn_of_wp Tryz.func186 rfl trivial ?_
 simp only[Tryz.ntmps186,a24,lC,a28,a29,a30,a18,a19,a25,a22,a23,a16]
 gi_wp2
 go_ret
 exact⟨rfl,_,rfl⟩
@[reducible] def b5u:Ty:=.pair (.int .i64) (.pair (.int .i64) (.pair (.int .i64) .unit))
set_option maxRecDepth 100000 in
set_option maxHeartbeats 2000000 in
theorem c7U (l Bs b off len cap:Nat) (p q r:Nat→Int) (J:Nat→World→Prop) (Jx:World→Prop) (W:World)
  (hJ:∀k W',J k W'→W'.cell? ⟨Bs,0,none⟩=some (.slice (some ⟨b,off,none⟩) len cap))
  (hlen:len<2147483648)
  (hcs:∀k W',k<len→J (k+1) W'→W'.cell? ⟨b,off+k*3,none⟩=some (.int .i64 (p k))∧W'.cell? ⟨b,off+k*3+1,none⟩=some (.int .i64 (q k))∧W'.cell? ⟨b,off+k*3+2,none⟩=some (.int .i64 (r k)))
  (hY:∀n W',n<len→J (n+1) W'→YieldAt (Fr none) 0 Tryz.prog l #[.int .i64 (n:Int),.agg #[.int .i64 (p n),.int .i64 (q n),.int .i64 (r n)]] W' fun en W''=>(en=.returned (.bool true)∧J n W'')∨(en=.returned (.bool false)∧Jx W''))
  (h0:J len W):
  CallsIn (Fr none) 0 Tryz.prog 242 #[.func (.yield l) #[] #[],.pointer (some ⟨Bs,0,none⟩)] W fun en W'=>(∃v,en=.returned v)∧(J 0 W'∨Jx W'):=by
 refine callsIn_of_wp Tryz.func242 rfl trivial ?_
 simp only[Tryz.ntmps242,a24,lC,a28,a29,a30,a18,a19,a25,a22,a23,a16]
 have hBs:=hJ _ _ h0
 gi_wp2
 gi_loopw [3] (fun i wr=>∃k:Nat,k≤len∧i=.int .i64 ((k:Int)-1)∧J k wr) (fun i _=>(intOf i+1).toNat)
 case atStart=>exact⟨len,a35 _,rfl,h0⟩
 case round=>
  obtain⟨k,hk,rfl,hJs⟩:=hrel
  cases k with
  |succ n=>
   obtain⟨fn,tmps,assign,body,hy,hR⟩:=hY n wr (by omega) hJs
   have hcx:=hJ _ _ hJs
   obtain⟨hc0,hc1,hc2⟩:=hcs n wr (by omega) hJs
   gi_wp2
   refine hR.mono ?_
   rintro e W3 (⟨rfl,hJ3⟩|⟨rfl,hJx3⟩)
   ·gi_wp2
    go_roundw
    case rel=>exact⟨n,by omega,by simp,hJ3⟩
    case measure=>simp[intOf]
   ·gi_wp2
    refine bodyPost_ret (results_none rfl _ _ _) rfl ?_
    exact⟨⟨_,rfl⟩,.inr hJx3⟩
  |zero=>
   gi_wp2
   go_end0
   exact⟨⟨_,rfl⟩,.inl hJs⟩
set_option maxRecDepth 100000 in
set_option maxHeartbeats 2000000 in
theorem c6I (l Bs:Nat) (A:Option Addr) (c:Nat) (J:Nat→World→Prop) (W:World) (hBs:W.cell? ⟨Bs,0,none⟩=some (.slice A 0 c)) (h0:J 0 W):
  CallsIn (Fr none) 0 Tryz.prog 242 #[.func (.yield l) #[] #[],.pointer (some ⟨Bs,0,none⟩)] W fun en W'=>(∃v,en=.returned v)∧J 0 W':=by
 refine callsIn_of_wp Tryz.func242 rfl trivial ?_
 simp only[Tryz.ntmps242,a24,lC,a28,a29,a30,a18,a19,a25,a22,a23,a16]
 gi_wp2
 gi_loopw [3] (fun i wr=>i=.int .i64 (-1)∧J 0 wr) (fun _ _=>0)
 case atStart=>exact⟨rfl,h0⟩
 case round=>
  obtain⟨rfl,hJs⟩:=hrel
  gi_wp2
  go_end0
  exact⟨⟨_,rfl⟩,hJs⟩
theorem c0V{m:Mem}{rd:Nat→Option Value}{x o r}(h:dec m (.int .i64) rd=some (x,o,r)):rd 0=some (.int .i64 x)∧o=[]∧r=[]:=by
 simp only[dec]at h
 split at h
 rename_i k n g
 split at h
 rename_i e;subst e;simp only[sj,pJ]at h;obtain⟨rfl,rfl,rfl⟩:=h;exact⟨g,rfl,rfl⟩;cases h;cases h
theorem b8F{m:Mem}{a b:Ty}{rd:Nat→Option Value}{x o r}(h:dec m (.pair a b) rd=some (x,o,r)):∃o1 g o2 r2,dec m a rd=some (x.1,o1,g)∧dec m b (fun j=>rd (a.cells+j))=some (x.2,o2,r2)∧o=o1++o2∧r=g++r2:=by
 simp only[dec]at h
 split at h
 cases h;rename_i c o1 g f
 split at h
 cases h;rename_i d o2 r2 k;simp only[sj,pJ]at h;obtain⟨rfl,rfl,rfl⟩:=h;exact⟨_,_,_,_,f,k,rfl,rfl⟩
theorem c2M{m:Mem}{Sh:Nat→Prop}{b o:Nat}{x:b5u.den}{R}(h:dec m b5u ((Src.at b o).rd m)=some (x,[],R)):
  m b o=some (.int .i64 x.1)∧m b (o+1)=some (.int .i64 x.2.1)∧m b (o+2)=some (.int .i64 x.2.2.1)∧VOk m Sh b5u x (.agg #[.int .i64 x.1,.int .i64 x.2.1,.int .i64 x.2.2.1]):=by
 obtain⟨_,_,_,_,g,f,-,-⟩:=b8F h;obtain⟨_,_,_,_,k,a,-,-⟩:=b8F f;obtain⟨_,_,_,_,c,-,-,-⟩:=b8F a;exact⟨(c0V g).1,(c0V k).1,(c0V c).1,fun _=>⟨_,rfl,rfl⟩,fun h=>(by cases h),[],rfl,by simp⟩
theorem d0A:w0j Tryz.prog 242 b5u:=by
 refine⟨fun args w=>b6m ⟨_,_,Tryz.func242,rfl,by kernel_rfl⟩ args w,fun l Bs sv f J E W i u M o=>?_⟩;obtain⟨B,Sh,z⟩:=u _ _ o;obtain⟨A,n,c,rfl,rfl,O,y,j⟩:=z.header
 by_cases hx0:f.length=0
 rw[hx0]at o B;exact(c6I l Bs A c J W B o).mono fun e g h=>⟨h.1,.inl h.2⟩;cases A with
 |none=>have:=j rfl;omega
 |some A=>
  obtain⟨b,off,C⟩:=A
  have:=(y _ rfl).resolve_left (by omega)
  simp only at this;subst this;have v:∀k g,k<f.length→J (k+1) g→∃x,f[k]?=some x∧g.cell? ⟨b,off+k*3,none⟩=some (.int .i64 x.1)∧g.cell? ⟨b,off+k*3+1,none⟩=some (.int .i64 x.2.1)∧g.cell? ⟨b,off+k*3+2,none⟩=some (.int .i64 x.2.2.1):=by
   intro k g p d;obtain⟨-,a,hv⟩:=u _ _ d;obtain⟨D,P,F,R,e,G,H,I,t,K,L⟩:=hv.elem rfl (lG p);simp only[Value.slice.injEq,sj]at e;obtain⟨rfl,rfl,rfl⟩:=e;obtain⟨q,r,s,-⟩:=c2M (Sh:=a) t;exact⟨_,lG p,q,r,s⟩
  refine c7U l Bs b off f.length c (fun k=>((f[k]?).getD b5u.dflt).1) (fun k=>((f[k]?).getD b5u.dflt).2.1) (fun k=>((f[k]?).getD b5u.dflt).2.2.1) J E W (fun k g d=>(u k g d).1) i (fun k g p d=>?_) (fun n g N d=>?_) o;obtain⟨x,m,q,r,s⟩:=v k g p d;simp only[m,a32];exact⟨q,r,s⟩;have m:f[n]?=some f[n]:=lG N;simp only[m,a32];refine M n _ _ g m d fun a hv=>?_
  obtain⟨D,P,F,R,e,G,H,I,t,K,L⟩:=hv.elem rfl m;exact(c2M (Sh:=a) t).2.2.2
end Go.Ab
namespace Go.Ab
open IntKind(wrap)
open Go.Proofs
set_option maxRecDepth 100000
set_option linter.unusedVariables false
@[reducible] def QI:Ty:=.int .i64
@[reducible] def QL:Ty:=.list false QI
@[reducible] def Z0:Type:=(Unit ⊕ (Bool×Unit))
@[reducible] def Z1:Type:=((List (List Int))×Unit)
@[reducible] def Z2:Type:=(Int×(Int×(List Int)))
@[reducible] def Z3:Type:=((List Int)×(Int×Int))
@[reducible] def Z4:Type:=(List (Int×(Int×Unit)))
@[reducible] def Z5:Type:=(Int×((List Int)×Unit))
@[reducible] def Z6:Type:=((List Int)×(Int×Unit))
@[reducible] def Z7:Type:=(Int×(Int×(Int×Unit)))
@[reducible] def Z8:Type:=(Int×(Int×(Bool×Unit)))
@[reducible] def Z9:Type:=((List Int)×((List Int)×Int))
@[reducible] def Z10:Type:=(Int×Z1)
@[reducible] def Z11:Type:=((List Int)×((List Int)×Unit))
@[reducible] def Z12:Type:=(List Z7)
@[reducible] def Z13:Type:=((List Int)×(Int×(Int×Unit)))
@[reducible] def Z14:Type:=(Int×Z5)
@[reducible] def Z15:Type:=(Int×Z6)
@[reducible] def Z16:Type:=((List Int)×(Int×(Bool×Unit)))
@[reducible] def Z17:Type:=(Z5×Unit)
@[reducible] def Z18:Type:=(Z6×Unit)
@[reducible] def Z19:Type:=(Int×Z7)
@[reducible] def Z20:Type:=(Z7×Unit)
@[reducible] def Z21:Type:=(Int×Z8)
@[reducible] def Z22:Type:=(List Z10)
@[reducible] def Z23:Type:=(Int×Z11)
@[reducible] def Z24:Type:=((List Int)×Z5)
@[reducible] def Z25:Type:=((List (List Int))×(Int×(Int×Unit)))
@[reducible] def Z26:Type:=(Int×Z10)
@[reducible] def Z27:Type:=(Z10×Int)
@[reducible] def Z28:Type:=(Z10×Unit)
@[reducible] def Z29:Type:=(Int×Z13)
@[reducible] def Z30:Type:=((List Int)×Z7)
@[reducible] def Z31:Type:=(Int×Z14)
@[reducible] def Z32:Type:=(Z13×Int)
@[reducible] def Z33:Type:=((List Int)×Z8)
@[reducible] def Z34:Type:=(Int×Z18)
@[reducible] def Z35:Type:=(Int×Z19)
@[reducible] def Z36:Type:=(Z13×Unit)
@[reducible] def Z37:Type:=(Int×Z20)
@[reducible] def Z38:Type:=(Bool×Z20)
@[reducible] def Z39:Type:=((List Int)×Z11)
@[reducible] def Z40:Type:=((List Int)×Z14)
@[reducible] def Z41:Type:=(Int×Z23)
@[reducible] def Z42:Type:=(Z22×Unit)
@[reducible] def Z43:Type:=(Int×Z25)
@[reducible] def Z44:Type:=((List Int)×Z13)
@[reducible] def Z45:Type:=(Int×Z28)
@[reducible] def Z46:Type:=(Z5×((List Int)×Unit))
@[reducible] def Z47:Type:=(((List Int)×Unit) ⊕ Z5)
@[reducible] def Z48:Type:=((List Int)×Z16)
@[reducible] def Z49:Type:=(Int×Z29)
@[reducible] def Z50:Type:=(Z23×Unit)
@[reducible] def Z51:Type:=(Int×Z30)
@[reducible] def Z52:Type:=(Int×Z34)
@[reducible] def Z53:Type:=(Int×Z35)
@[reducible] def Z54:Type:=(Int×Z36)
@[reducible] def Z55:Type:=(Bool×Z36)
@[reducible] def Z56:Type:=(Int×Z39)
@[reducible] def Z57:Type:=(Int×Z40)
@[reducible] def Z58:Type:=((List Int)×Z28)
@[reducible] def Z59:Type:=((List Int)×Z29)
@[reducible] def Z60:Type:=((List Int)×Z30)
@[reducible] def Z61:Type:=(Int×Z45)
@[reducible] def Z62:Type:=(Int×Z50)
@[reducible] def Z63:Type:=((List Int)×Z36)
@[reducible] def Z64:Type:=(Z29 ⊕ (Int×Unit))
@[reducible] def Z65:Type:=(Int×Z53)
@[reducible] def Z66:Type:=(Int×Z54)
@[reducible] def Z67:Type:=(Int×Z55)
@[reducible] def Z68:Type:=(Z13 ⊕ Z0)
@[reducible] def Z69:Type:=((List Int)×Z41)
@[reducible] def Z70:Type:=(Int×Z56)
@[reducible] def Z71:Type:=((List Int)×Z46)
@[reducible] def Z72:Type:=((List Int)×Z49)
@[reducible] def Z73:Type:=((List Int)×Z50)
@[reducible] def Z74:Type:=(Int×Z58)
@[reducible] def Z75:Type:=(Int×Z57)
@[reducible] def Z76:Type:=(Int×Z62)
@[reducible] def Z77:Type:=((List Int)×Z52)
@[reducible] def Z78:Type:=(Int×Z63)
@[reducible] def Z79:Type:=(Z6×Z17)
@[reducible] def Z80:Type:=(Int×Z65)
@[reducible] def Z81:Type:=(Z5×Z17)
@[reducible] def Z82:Type:=(Int×Z66)
@[reducible] def Z83:Type:=(Int×Z69)
@[reducible] def Z84:Type:=(Int×Z73)
@[reducible] def Z85:Type:=(Int×Z74)
@[reducible] def Z86:Type:=(Int×Z76)
@[reducible] def Z87:Type:=(Int×Z77)
@[reducible] def Z88:Type:=(Int×Z78)
@[reducible] def Z89:Type:=(Int×Z80)
@[reducible] def Z90:Type:=((List Int)×Z79)
@[reducible] def Z91:Type:=(Z12×Z28)
@[reducible] def Z92:Type:=(Int×Z88)
@[reducible] def Z93:Type:=(Int×Z90)
@[reducible] def Z94:Type:=(Z7×Z60)
@[reducible] def Z95:Type:=(Z4×Z71)
@[reducible] def Z96:Type:=(Int×Z93)
@[reducible] def Z97:Type:=(Z5×Z81)
@[reducible] def Z98:Type:=(Z94×Unit)
@[reducible] def Z99:Type:=((List Int)×Z95)
@[reducible] def c2N:Type:=((List Int)×Z96)
@[reducible] def d4n:Type:=((List Int)×Z99)
@[reducible] def d4o:Type:=(Int×d4n)
@[reducible] def d4p:Type:=(Int×d4o)
@[reducible] def d4q:Type:=(Int×d4p)
@[reducible] def d4r:Type:=(Int×d4q)
@[reducible] def a1R:Type:=(Int×d4r)
@[reducible] def b2o:Type:=(List a1R)
@[reducible] def b4p:Type:=(a1R×Int)
@[reducible] def b5v:Type:=(a1R×Unit)
@[reducible] def c7V:Type:=(b2o×Unit)
@[reducible] def d1t:Type:=(Bool×b5v)
@[reducible] def c2O:Type:=(Int×d1t)
@[reducible] def c5m:Type:=(b2o×((List Int)×Unit))
@[reducible] def d4s:Type:=(Z6×b5v)
@[reducible] def c5n:Type:=(Int×d4s)
@[reducible] def d1u:Type:=(Z13×b5v)
@[reducible] def c5o:Type:=(a1R×Z36)
@[reducible] def d4t:Type:=(Z12×c7V)
@[reducible] def b4q:Type:=(Int×c5n)
@[reducible] def c7W:Type:=(Int×d1u)
@[reducible] def c0W:Type:=(Int×c7W)
@[reducible] def d4u:Type:=(Z7×d4t)
@[reducible] def d4v:Type:=(Int×d4u)
@[reducible] def a3w:Type:=(Int×d4v)
@[reducible] def b8G:Type:=(List a3w)
@[reducible] def b4r:Type:=(a3w×Unit)
@[reducible] def d4w:Type:=(b8G×Unit)
@[reducible] def c2P:Type:=(Z10×b4r)
@[reducible] def d4x:Type:=(Z4×d4w)
@[reducible] def c0X:Type:=(a3w×Z36)
@[reducible] def d4y:Type:=(Int×d4x)
@[reducible] def d4z:Type:=(Int×d4y)
@[reducible] def b2p:Type:=(a1R×b5v)
@[reducible] def d4A:Type:=(Int×b2p)
@[reducible] def c5p:Type:=(Int×d4A)
@[reducible] def b2q:Type:=(Z7×d4z)
@[reducible] def b3i:Type:=(b2q×Unit)
@[reducible] def d4B:Type:=(Z22×b3i)
@[reducible] def c5q:Type:=((List (List Int))×d4B)
@[reducible] def Q0:Ty:=(.pair QI .unit)
@[reducible] def Q1:Ty:=(.pair (.list true QI) .unit)
@[reducible] def Q2:Ty:=(.pair QL .unit)
@[reducible] def Q3:Ty:=(.pair QI Q0)
@[reducible] def Q4:Ty:=(.pair (.int .u64) Q0)
@[reducible] def Q5:Ty:=(.pair (.nl QL) .unit)
@[reducible] def Q6:Ty:=(.pair (.list true (.list true QI)) .unit)
@[reducible] def Q7:Ty:=(.pair (.list true QL) .unit)
@[reducible] def Q8:Ty:=(.pair (.list false QL) .unit)
@[reducible] def Q9:Ty:=(.pair (.list true (.int .u8)) Q0)
@[reducible] def Q10:Ty:=(.pair QI Q1)
@[reducible] def Q11:Ty:=(.pair QI Q2)
@[reducible] def Q12:Ty:=(.pair QI Q3)
@[reducible] def Q13:Ty:=(.pair QI Q4)
@[reducible] def Q14:Ty:=(.pair (.list true QI) Q1)
@[reducible] def Q15:Ty:=(.pair QI Q8)
@[reducible] def Q16:Ty:=(.pair (.list false (.int .u8)) Q3)
@[reducible] def Q17:Ty:=(.pair QI Q14)
@[reducible] def Q18:Ty:=(.pair (.list true QI) Q13)
@[reducible] def Q19:Ty:=(.pair QL Q13)
@[reducible] def Q20:Ty:=(.pair Q11 Q2)
@[reducible] def Q21:Ty:=(.pair (.list true QI) Q18)
@[reducible] def Q22:Ty:=(.pair QL Q19)
@[reducible] def Q23:Ty:=(.pair (.nl QI) Q20)
@[reducible] def Q24:Ty:=(.pair QL Q20)
@[reducible] def Q25:Ty:=(.pair (.list true Q3) Q23)
@[reducible] def Q26:Ty:=(.pair Q12 Q21)
@[reducible] def Q27:Ty:=(.pair Q12 Q22)
@[reducible] def Q28:Ty:=(.pair (.list false Q3) Q24)
@[reducible] def Q29:Ty:=(.pair (.arr 3 QI) Q25)
@[reducible] def Q30:Ty:=(.pair (.arr 3 QI) Q28)
@[reducible] def Q31:Ty:=(.pair (.list true QI) Q29)
@[reducible] def Q32:Ty:=(.pair QL Q30)
@[reducible] def Q33:Ty:=(.pair QI Q31)
@[reducible] def Q34:Ty:=(.pair QI Q32)
@[reducible] def Q35:Ty:=(.pair QI Q33)
@[reducible] def Q36:Ty:=(.pair QI Q34)
@[reducible] def Q37:Ty:=(.pair QI Q35)
@[reducible] def Q38:Ty:=(.pair QI Q36)
@[reducible] def Q39:Ty:=(.pair QI Q37)
@[reducible] def Q40:Ty:=(.pair QI Q38)
@[reducible] def Q41:Ty:=(.pair QI Q39)
@[reducible] def Q42:Ty:=(.pair QI Q40)
@[reducible] def Q43:Ty:=(.pair (.nl Q42) .unit)
@[reducible] def Q44:Ty:=(.pair (.list true Q42) .unit)
@[reducible] def Q45:Ty:=(.pair (.list false Q42) .unit)
@[reducible] def Q46:Ty:=(.pair (.nl Q12) Q43)
@[reducible] def Q47:Ty:=(.pair (.list true Q12) Q43)
@[reducible] def Q48:Ty:=(.pair (.list false Q12) Q44)
@[reducible] def Q49:Ty:=(.pair (.list false Q12) Q45)
@[reducible] def Q50:Ty:=(.pair Q12 Q46)
@[reducible] def Q51:Ty:=(.pair Q12 Q47)
@[reducible] def Q52:Ty:=(.pair Q12 Q48)
@[reducible] def Q53:Ty:=(.pair Q12 Q49)
@[reducible] def Q54:Ty:=(.pair QI Q50)
@[reducible] def Q55:Ty:=(.pair QI Q51)
@[reducible] def Q56:Ty:=(.pair QI Q52)
@[reducible] def Q57:Ty:=(.pair QI Q53)
@[reducible] def Q58:Ty:=(.pair QI Q55)
@[reducible] def Q59:Ty:=(.pair QI Q56)
@[reducible] def Q60:Ty:=(.pair QI Q57)
@[reducible] def Q61:Ty:=(.pair (.nl Q60) .unit)
@[reducible] def Q62:Ty:=(.pair (.list true Q60) .unit)
@[reducible] def Q63:Ty:=(.pair (.list false Q60) .unit)
@[reducible] def Q64:Ty:=(.pair (.nl Q3) Q61)
@[reducible] def Q65:Ty:=(.pair (.list true Q3) Q62)
@[reducible] def Q66:Ty:=(.pair (.list false Q3) Q63)
@[reducible] def Q67:Ty:=(.pair (.int .u64) Q64)
@[reducible] def Q68:Ty:=(.pair (.int .u64) Q65)
@[reducible] def Q69:Ty:=(.pair (.int .u64) Q66)
@[reducible] def Q70:Ty:=(.pair QI Q67)
@[reducible] def Q71:Ty:=(.pair QI Q68)
@[reducible] def Q72:Ty:=(.pair QI Q69)
@[reducible] def Q73:Ty:=(.pair Q12 Q71)
@[reducible] def Q74:Ty:=(.pair Q12 Q72)
def c2H:List (Nat×Ty):=[(2,.int .i64),(3,.int .i64),(5,.int .u8),(9,.str),(22,.list false QL),(24,.pair QI Q8),(25,.int .u16),(30,.pair QI Q3),(31,.list false Q12),(32,.list false Q42),(34,.pair QI Q57),(35,.int .i64),(38,.list false (.int .u8)),(42,.int .u64),(49,.int .u64),(50,.list false Q3),(51,.list false Q60),(53,.pair Q12 Q72),(55,.list false QI),(74,.pair QI Q0),(76,.pair QI Q0),(103,.arr 3 QI),(104,.list false Q3),(106,.pair QI Q2),(108,.pair QI Q40),(113,.pair (.list false (.int .u8)) Q0),(134,.list false (.list false (.int .u8))),(135,.list false Q15),(141,.list false (.int .u64)),(143,.int .u32),(153,.pair Q12 Q22),(164,.pair QI Q3),(178,.pair QI Q0),(192,.pair (.list false (.int .u8)) Q3),(236,.pair (.list false (.int .u8)) Q3),(256,.arr 64 (.int .u8)),(285,.list false (.arr 3 QI)),(295,.pair QI (.pair QL Q2))]
def T0:Nat→Option Ty:=fun t=>find c2H t
def c5r:List Nat:=[30,103]
def d4C:Nat→Bool:=fun t=>c5r.contains t
def c2Q:List Nat:=[]
def d4D:Nat→Bool:=fun t=>c2Q.contains t
def b1x:(List Int):=[0,1,56,2,57,49,28,3,61,58,42,50,38,29,17,4,62,47,59,36,45,43,51,22,53,39,33,30,24,18,12,5,63,55,48,27,60,41,37,16,46,35,44,21,52,32,23,11,54,26,40,15,34,20,31,10,25,14,19,9,13,8,7,6]
def G0:Nat→Option ((t:Ty)×t.den):=fun g=>find ([(0,⟨.arr 64 (.int .u8),b1x⟩)]:List (Nat×((t:Ty)×t.den))) g
@[reducible] def a9P(a:List (Nat×FSem))(b:List (Nat×Ty))(c d:List Nat):Cx:=⟨d4D,d4C,T0,fun f=>find a f,fun n=>find b n,fun i=>c.contains i,fun i=>d.contains i,G0⟩
def a4h(x:Z10):Option Int:= cond ((x.2.1.length:Int)==0) (some 0) ((m0h x.2.1 0).bind fun x1=> some (x1.length:Int))
def a7o:FSem:=⟨[.v Q15],[.v QI],a4h⟩
def H22:Hints:=⟨[],[],[]⟩
def b3j(x:Int):Option Int:= (show Option (Int×Bool×Unit)from cond (decide (x<1)) (some (x,true,())) (some (x,decide (x > 31),()))).bind fun z1=> cond z1.2.1 (some 0) (cond (decide ((wrap .i64 (z1.1-1))<0)) none (some (A0j .i64 (-1) (wrap .i64 (z1.1-1)))))
def b6G:FSem:=⟨[.v QI],[.v QI],b3j⟩
def d4E:Hints:=⟨[],[(6,[(.normal,[.sv 0 QI,.sv 8 .bool])])],[]⟩
def b2r(x:Int):Option Int:= (show Option (Int×Bool×Unit)from cond (decide (x<1)) (some (x,true,())) (some (x,decide (x > 31),()))).bind fun z1=> cond z1.2.1 (some 0) (cond (decide ((wrap .i64 (z1.1-1))<0)) none (some (wrap .i64 ((A0j .i64 1 (wrap .i64 (z1.1-1)))-1))))
def b6n:FSem:=⟨[.v QI],[.v QI],b2r⟩
def d4F:Hints:=⟨[],[(6,[(.normal,[.sv 0 QI,.sv 8 .bool])])],[]⟩
def a1O(x:(Int×Int)):Option Bool:= cond (decide (x.2≥1)) (cond (decide (x.2≤31)) ((b3j x.2).bind fun y1=> cond (decide (y1≤x.1)) ((b2r x.2).bind fun y2=> some (decide (x.1≤y2))) (some false)) (some false)) (some false)
def a3P:FSem:=⟨[.v QI,.v QI],[.v .bool],a1O⟩
def H95:Hints:=⟨[],[],[]⟩
def a6R(x:Int):Option Bool:= cond (decide (4≤x)) (some (decide (x≤24))) (some false)
def b2t:FSem:=⟨[.v QI],[.v .bool],a6R⟩
def d4G:Hints:=⟨[],[],[]⟩
def a4n(s:((List (List Int))×(Int×(Int×((List Int)×Z61))))):Option (((List (List Int))×(Int×(Int×((List Int)×Z61)))) ⊕ (((List (List Int))×Z61) ⊕ (Bool×Unit))):= cond (decide (s.2.2.2.2.2.1<s.2.2.2.2.1)) ((m0h s.2.2.2.1 s.2.2.2.2.2.1).bind fun x8=> (a1O (x8,s.2.2.2.2.2.2.1.1)).bind fun y9=> cond (!y9) (some (.inr (Sum.inr ((false,()))))) (some (.inl (s.1,s.2.1,s.2.2.1,s.2.2.2.1,s.2.2.2.2.1,wrap .i64 (s.2.2.2.2.2.1+1),s.2.2.2.2.2.2.1,())))) (some (.inr (Sum.inl (s.1,s.2.1,s.2.2.1,s.2.2.2.2.2.2.1,()))))
def a4o(s:((List (List Int))×Z61)):Option (((List (List Int))×Z61) ⊕ Z0):= cond (decide (s.2.2.1<s.2.1)) ((m0h s.1 s.2.2.1).bind fun x6=> (a4h s.2.2.2.1).bind fun y7=> cond ((x6.length:Int) != y7) (some (.inr (Sum.inr ((false,()))))) ((y0o a4n (s.1,s.2.1,s.2.2.1,x6,(x6.length:Int),0,s.2.2.2.1,())).bind fun w10=> match w10 with |.inl a11=>some (.inl (a11.1,a11.2.1,wrap .i64 (a11.2.2.1+1),a11.2.2.2.1,())) |.inr b12=>some (.inr (Sum.inr ((b12.1,())))))) (some (.inr (Sum.inl ())))
def a4i(x:Z10):Option Bool:= (show Option (Bool×Z28)from(a6R x.1).bind fun y1=> cond (!y1) (some (true,x,())) (cond (decide ((x.2.1.length:Int)<1)) (some (true,x,())) (some (decide ((x.2.1.length:Int) > 8),x,())))).bind fun z2=> cond z2.1 (some false) ((show Option (Bool×Z28)from(a4h z2.2.1).bind fun y3=> cond (decide (y3<1)) (some (true,z2.2.1,())) ((a4h z2.2.1).bind fun y4=> some (decide (y4 > 4096),z2.2.1,()))).bind fun z5=> cond z5.1 (some false) ((y0o a4o (z5.2.1.2.1,(z5.2.1.2.1.length:Int),0,z5.2.1,())).bind fun w13=> match w13 with |.inl a14=>some true |.inr b15=>some b15.1))
def a4j:FSem:=⟨[.v Q15],[.v .bool],a4i⟩
def H56:Hints:=⟨[(122,[.sv 32 (.list false QL),.sv 33 QI,.sv 34 QI,.vp 1 Q15],[(.exit 0,[]),(.ret,[.sv 2 .bool])]),(62670,[.sv 32 (.list false QL),.sv 33 QI,.sv 34 QI,.sv 43 QL,.sv 44 QI,.sv 45 QI,.vp 1 Q15],[(.exit 2,[.sv 32 (.list false QL),.sv 33 QI,.sv 34 QI,.vp 1 Q15]),(.ret,[.sv 2 .bool])])],[(6,[(.normal,[.sv 22 .bool,.vp 1 Q15])]),(14,[(.normal,[.sv 30 .bool,.vp 1 Q15])])],[]⟩
def a1P(x:Z7):Option Bool:= cond (decide (1≤x.1)) (cond (decide (x.1≤1048576)) (cond (decide (1≤x.2.1)) (cond (decide (x.2.1≤8)) ((a6R x.2.2.1).bind fun y1=> some y1) (some false)) (some false)) (some false)) (some false)
def a3Q:FSem:=⟨[.v Q12],[.v .bool],a1P⟩
def H57:Hints:=⟨[],[],[]⟩
def a6S(s:(Int×Z12×Int×Int×Unit)):Option ((Int×Z12×Int×Int×Unit) ⊕ Z0):= cond (decide (s.2.2.2.1<s.2.2.1)) ((m0h s.2.1 s.2.2.2.1).bind fun x2=> (show Option (Int×Z12×Int×Int×Z38)from cond (decide (x2.1<0)) (some (s.1,s.2.1,s.2.2.1,s.2.2.2.1,true,x2,())) (cond (decide (x2.1≥s.1)) (some (s.1,s.2.1,s.2.2.1,s.2.2.2.1,true,x2,())) (cond (decide (x2.2.1<0)) (some (s.1,s.2.1,s.2.2.1,s.2.2.2.1,true,x2,())) (cond (decide (x2.2.1≥s.1)) (some (s.1,s.2.1,s.2.2.1,s.2.2.2.1,true,x2,())) (some (s.1,s.2.1,s.2.2.1,s.2.2.2.1,x2.1==x2.2.1,x2,())))))).bind fun z3=> cond z3.2.2.2.2.1 (some (.inr (Sum.inr ((false,()))))) ((show Option (Int×Z12×Z8)from cond (decide (z3.2.2.2.2.2.1.2.2.1<(-1024))) (some (z3.1,z3.2.1,z3.2.2.1,z3.2.2.2.1,true,())) (some (z3.1,z3.2.1,z3.2.2.1,z3.2.2.2.1,decide (z3.2.2.2.2.2.1.2.2.1 > 1024),()))).bind fun z4=> cond z4.2.2.2.2.1 (some (.inr (Sum.inr ((false,()))))) (some (.inl (z4.1,z4.2.1,z4.2.2.1,wrap .i64 (z4.2.2.2.1+1),()))))) (some (.inr (Sum.inl ())))
def a8m(x:(Z12×Int)):Option Bool:= (show Option (Z12×Int×Bool×Unit)from cond (decide (x.2<1)) (some (x.1,x.2,true,())) (cond (decide (x.2 > 8)) (some (x.1,x.2,true,())) (some (x.1,x.2,decide ((x.1.length:Int) > 16),())))).bind fun z1=> cond z1.2.2.1 (some false) ((y0o a6S (z1.2.1,z1.1,(z1.1.length:Int),0,())).bind fun w5=> match w5 with |.inl a6=>some true |.inr b7=>some b7.1)
def b2L:FSem:=⟨[.v (.list false Q12),.v QI],[.v .bool],a8m⟩
def d4H:Hints:=⟨[(58,[.sv 1 QI,.sv 18 (.list false Q12),.sv 19 QI,.sv 20 QI],[(.exit 0,[]),(.ret,[.sv 4 .bool])])],[(6,[(.normal,[.sv 0 (.list false Q12),.sv 1 QI,.sv 17 .bool])]),(7474,[(.normal,[.sv 1 QI,.sv 18 (.list false Q12),.sv 19 QI,.sv 20 QI,.sv 50 .bool,.box 6 Q12,.ptr 6 6 []])]),(7475,[(.normal,[.sv 1 QI,.sv 18 (.list false Q12),.sv 19 QI,.sv 20 QI,.sv 58 .bool])])],[]⟩
def a6T(x:a3w):Option Bool:= (a1P x.2.2.1).bind fun y1=> cond y1 (cond (decide (x.2.1≥1)) (cond (decide (x.2.1≤4096)) (cond (decide (x.1≥0)) (cond (decide (x.1≤(wrap .i64 (4194304-x.2.1)))) ((a8m (x.2.2.2.1,x.2.2.1.2.1)).bind fun y2=> some y2) (some false)) (some false)) (some false)) (some false)) (some false)
def b2u:FSem:=⟨[.v Q60],[.v .bool],a6T⟩
def d4I:Hints:=⟨[],[],[]⟩
def a2u(s:Z13):Option Z68:= cond (decide (s.2.2.1<s.2.1)) ((m0h s.1 s.2.2.1).bind fun x1=> (show Option Z33 from cond (decide (x1<(-1073741824))) (some (s.1,s.2.1,s.2.2.1,true,())) (some (s.1,s.2.1,s.2.2.1,decide (x1≥1073741824),()))).bind fun z2=> cond z2.2.2.2.1 (some (.inr (Sum.inr ((false,()))))) (some (.inl (z2.1,z2.2.1,wrap .i64 (z2.2.2.1+1),())))) (some (.inr (Sum.inl ())))
def a2o(x:(List Int)):Option Bool:= (y0o a2u (x,(x.length:Int),0,())).bind fun w3=> match w3 with |.inl a4=>some true |.inr b5=>some b5.1
def a9n:FSem:=⟨[.v QL],[.v .bool],a2o⟩
def d4J:Hints:=⟨[(26,[.sv 5 QL,.sv 6 QI,.sv 7 QI],[(.exit 0,[]),(.ret,[.sv 2 .bool])])],[(1689,[(.normal,[.sv 5 QL,.sv 6 QI,.sv 7 QI,.sv 16 .bool])])],[]⟩
def a5Y(x:Int):Option Bool:= cond (x != 0) (some (x != 1)) (some false)
def a9Q:FSem:=⟨[.v QI],[.v .bool],a5Y⟩
def d4K:Hints:=⟨[],[],[]⟩
def a5h(s:Z13):Option Z68:= cond (decide (s.2.2.1<s.2.1)) ((m0h s.1 s.2.2.1).bind fun x2=> (show Option Z33 from cond (decide (x2<(-32768))) (some (s.1,s.2.1,s.2.2.1,true,())) (some (s.1,s.2.1,s.2.2.1,decide (x2≥32768),()))).bind fun z3=> cond z3.2.2.2.1 (some (.inr (Sum.inr ((false,()))))) (some (.inl (z3.1,z3.2.1,wrap .i64 (z3.2.2.1+1),())))) (some (.inr (Sum.inl ())))
def a4y(x:((List Int)×Int)):Option Bool:= (show Option ((List Int)×(Bool×Unit))from cond (decide ((x.1.length:Int)<1)) (some (x.1,true,())) (cond (decide ((x.1.length:Int) > 32)) (some (x.1,true,())) (cond (decide (x.2<0)) (some (x.1,true,())) (some (x.1,decide (x.2 > 15),()))))).bind fun z1=> cond z1.2.1 (some false) ((y0o a5h (z1.1,(z1.1.length:Int),0,())).bind fun w4=> match w4 with |.inl a5=>some true |.inr b6=>some b6.1)
def a9R:FSem:=⟨[.v QL,.v QI],[.v .bool],a4y⟩
def d4L:Hints:=⟨[(58,[.sv 23 QL,.sv 24 QI,.sv 25 QI],[(.exit 0,[]),(.ret,[.sv 4 .bool])])],[(6,[(.normal,[.sv 0 QL,.sv 22 .bool])]),(3737,[(.normal,[.sv 23 QL,.sv 24 QI,.sv 25 QI,.sv 34 .bool])])],[]⟩
def a6U(s:Z6):Option (Z6 ⊕ Z0):= cond (decide (s.2.1<3)) ((m0h s.1 s.2.1).bind fun x2=> (show Option Z16 from cond (decide (x2<(-64))) (some (s.1,s.2.1,true,())) (some (s.1,s.2.1,decide (x2 > 64),()))).bind fun z3=> cond z3.2.2.1 (some (.inr (Sum.inr ((false,()))))) (some (.inl (z3.1,wrap .i64 (z3.2.1+1),())))) (some (.inr (Sum.inl ())))
def a8n(x:(Int×(List Int))):Option Bool:= (show Option (Bool×((List Int)×Unit))from cond (decide (x.1<2)) (some (true,x.2,())) (some (decide (x.1 > 1024),x.2,()))).bind fun z1=> cond z1.1 (some false) ((y0o a6U (z1.2.1,0,())).bind fun w4=> match w4 with |.inl a5=>some true |.inr b6=>some b6.1)
def b2M:FSem:=⟨[.v QI,.v (.arr 3 QI)],[.v .bool],a8n⟩
def d4M:Hints:=⟨[(58,[.sv 13 (.arr 3 QI),.sv 14 QI],[(.exit 0,[]),(.ret,[.sv 4 .bool])])],[(6,[(.normal,[.sv 12 .bool,.vp 3 (.arr 3 QI)])]),(3737,[(.normal,[.sv 13 (.arr 3 QI),.sv 14 QI,.sv 22 .bool])])],[]⟩
def a6V(x:(Int×Int×Unit)):Option Bool:= cond (decide (x.1≥1)) (cond (decide (x.1≤32)) (cond (decide (x.2.1≥0)) (some (decide (x.2.1≤8))) (some false)) (some false)) (some false)
def b2v:FSem:=⟨[.v Q3],[.v .bool],a6V⟩
def d4N:Hints:=⟨[],[],[]⟩
def a5Z(s:(Z4×Int×Int×Unit)):Option ((Z4×Int×Int×Unit) ⊕ Z0):= cond (decide (s.2.2.1<s.2.1)) ((m0h s.1 s.2.2.1).bind fun x1=> (a6V x1).bind fun y2=> cond (!y2) (some (.inr (Sum.inr ((false,()))))) (some (.inl (s.1,s.2.1,wrap .i64 (s.2.2.1+1),())))) (some (.inr (Sum.inl ())))
def a7p(x:Z4):Option Bool:= cond (decide ((x.length:Int) > 3)) (some false) ((y0o a5Z (x,(x.length:Int),0,())).bind fun w3=> match w3 with |.inl a4=>some true |.inr b5=>some b5.1)
def b1y:FSem:=⟨[.v (.list false Q3)],[.v .bool],a7p⟩
def d4O:Hints:=⟨[(58,[.sv 8 (.list false Q3),.sv 9 QI,.sv 10 QI],[(.exit 0,[]),(.ret,[.sv 2 .bool])])],[],[]⟩
def a7Q(x:(Int×b4p)):Option Bool:= (show Option (Int×c2O)from cond (x.1==0) (some (x.2.2,x.1,x.1==0,x.2.1,())) (some (x.2.2,x.1,x.1==1,x.2.1,()))).bind fun z1=> cond z1.2.2.1 (some true) (cond (z1.2.1==2) (cond (decide (z1.2.2.2.1.2.2.1≥0)) (cond (decide (z1.2.2.2.1.2.2.1≤4)) (some (decide (z1.2.2.2.1.2.2.1≤z1.1))) (some false)) (some false)) (cond (z1.2.1==3) ((a4y (z1.2.2.2.1.2.2.2.2.2.1,z1.2.2.2.1.2.2.2.1)).bind fun y2=> cond y2 (some (decide ((z1.2.2.2.1.2.2.2.2.2.1.length:Int)≤z1.1))) (some false)) (cond (z1.2.1==4) ((a4y (z1.2.2.2.1.2.2.2.2.2.1,z1.2.2.2.1.2.2.2.1)).bind fun y3=> cond y3 (cond (decide ((z1.2.2.2.1.2.2.2.2.2.1.length:Int)≤z1.1)) ((a8n (z1.2.2.2.1.2.2.2.2.1,z1.2.2.2.1.2.2.2.2.2.2.1)).bind fun y4=> some y4) (some false)) (some false)) (cond (z1.2.1==5) (cond (decide ((z1.2.2.2.1.2.2.2.2.2.2.2.1.length:Int) > 0)) ((a7p z1.2.2.2.1.2.2.2.2.2.2.2.1).bind fun y5=> some y5) (some false)) (some false)))))
def b3R:FSem:=⟨[.v QI,.v Q42,.v QI],[.v .bool],a7Q⟩
def d4P:Hints:=⟨[],[(26,[(.normal,[.sv 2 QI,.sv 7 QI,.sv 8 .bool,.vp 4 Q42])])],[]⟩
def a4z(x:b4p):Option Int:= cond (x.1.1==0) (some 1) (cond (x.1.1==1) (some x.2) (cond (x.1.1==2) (some x.1.2.2.1) ((show Option d1t from cond (x.1.1==3) (some (x.1.1==3,x.1,())) (some (x.1.1==4,x.1,()))).bind fun z1=> cond z1.1 (some (z1.2.1.2.2.2.2.2.1.length:Int)) (some 0))))
def a9S:FSem:=⟨[.v Q42,.v QI],[.v QI],a4z⟩
def d4Q:Hints:=⟨[],[(1727,[(.normal,[.sv 16 .bool,.vp 2 Q42])])],[]⟩
def a1d(x:(List Int)):Option (List Int):= x0a x
def a0Z:FSem:=⟨[.v QL],[.o QI],a1d⟩
def d4R:Hints:=⟨[],[],[]⟩
def c9e:Cx:=a9P [] [] [0,2] []
theorem d2x(x):A0f c9e d4R Tryz.f183 a0Z.ps a0Z.rs x=a0Z.F x:=Eq.trans (show _=w0q x by kernel_rfl) (A0t x)
def a3R(x:(List Int)):Option (List Int):= x0a x
def a1j:FSem:=⟨[.v QL],[.v QL],a3R⟩
def d2y:Hints:=⟨[],[],[]⟩
def c6J:Cx:=a9P [] [] [0,2] []
theorem d1v(x):A0f c6J d2y Tryz.f183 a1j.ps a1j.rs x=a1j.F x:=Eq.trans (show _=w0q x by kernel_rfl) (A0t x)
def a1n(x:Z4):Option Z4:= x0a x
def a1c:FSem:=⟨[.v (.list false Q3)],[.v (.list false Q3)],a1n⟩
def d2z:Hints:=⟨[],[],[]⟩
def c6K:Cx:=a9P [] [] [0,2] []
theorem d1w(x):A0f c6K d2z Tryz.f251 a1c.ps a1c.rs x=a1c.F x:=Eq.trans (show _=w0q x by kernel_rfl) (A0t x)
def a6a(x:(Int×a1R)):Option a1R:= (show Option b2p from(show Option ((a1R×b2p) ⊕ (b2p ⊕ (a1R×b2p)))from cond (x.1==2) (some (Sum.inr (Sum.inl ((0,0,0,0,0,[],a01 3 0,[],[],(0,[],()),[],()),(x.1,0,x.2.2.2.1,0,0,[],a01 3 0,[],[],(0,[],()),[],()),())))) (cond (x.1==4) (some (Sum.inl ((0,0,0,0,0,[],a01 3 0,[],[],(0,[],()),[],()),(x.1,0,0,0,x.2.2.2.2.2.1,[],x.2.2.2.2.2.2.2.1,[],[],(0,[],()),[],()),x.2,()))) (cond (x.1==3) (some (Sum.inl ((0,0,0,0,0,[],a01 3 0,[],[],(0,[],()),[],()),(x.1,0,0,0,0,[],a01 3 0,[],[],(0,[],()),[],()),x.2,()))) (cond (x.1==5) (some (Sum.inr (Sum.inr (((0,0,0,0,0,[],a01 3 0,[],[],(0,[],()),[],()),(x.1,0,0,0,0,[],a01 3 0,[],[],(0,[],()),[],()),x.2,()))))) (some (Sum.inr (Sum.inl ((0,0,0,0,0,[],a01 3 0,[],[],(0,[],()),[],()),(x.1,0,0,0,0,[],a01 3 0,[],[],(0,[],()),[],()),())))))))).bind fun z1=> match z1 with |.inl a2=>((a3R a2.2.2.1.2.2.2.2.2.1).bind fun y4=> some (a2.1,(a2.2.1.1,a2.2.1.2.1,a2.2.1.2.2.1,a2.2.2.1.2.2.2.1,a2.2.1.2.2.2.2.1,y4,a2.2.1.2.2.2.2.2.2),())) |.inr b3=>(match b3 with |.inl a5=>some (a5.1,a5.2.1,()) |.inr b6=>((a1n b6.2.2.1.2.2.2.2.2.2.2.1).bind fun y7=> some (b6.1,(b6.2.1.1,b6.2.1.2.1,b6.2.1.2.2.1,b6.2.1.2.2.2.1,b6.2.1.2.2.2.2.1,b6.2.1.2.2.2.2.2.1,b6.2.1.2.2.2.2.2.2.1,y7,b6.2.1.2.2.2.2.2.2.2.2),())))).bind fun z8=> some z8.2.1
def b3k:FSem:=⟨[.v QI,.v Q42],[.v Q42],a6a⟩
def d4S:Hints:=⟨[],[(7,[(.normal,[.box 4 Q42,.box 5 Q42,.ptr 4 4 [],.ptr 5 5 []])]),(232,[(.normal,[.box 4 Q42,.box 5 Q42,.vp 3 Q42,.ptr 4 4 [],.ptr 5 5 []]),(.exit 0,[.box 4 Q42,.box 5 Q42,.ptr 4 4 [],.ptr 5 5 []]),(.exit 4,[.box 4 Q42,.box 5 Q42,.vp 3 Q42,.ptr 4 4 [],.ptr 5 5 []])])],[(8,[.v,.v,.v,.v,.q,.w [0,5],.x,.x]),(9,[.v,.v,.v,.v,.v,.q,.w [0,5],.x,.x])]⟩
def b1z(x:a1R):Option Bool:= (a6a (x.1,x)).bind fun y1=> cond (x.2.2.1==y1.2.2.1) (cond (x.2.2.2.1==y1.2.2.2.1) (cond (x.2.2.2.2.1==y1.2.2.2.2.1) (cond (eqT (.arr 3 (.int .i64)) x.2.2.2.2.2.2.1 y1.2.2.2.2.2.2.1) (cond ((x.2.2.2.2.2.1.length:Int)==(y1.2.2.2.2.2.1.length:Int)) (some ((x.2.2.2.2.2.2.2.1.length:Int)==(y1.2.2.2.2.2.2.2.1.length:Int))) (some false)) (some false)) (some false)) (some false)) (some false)
def b7L:FSem:=⟨[.v Q42],[.v .bool],b1z⟩
def d4T:Hints:=⟨[],[],[]⟩
def a7q(x:(Int×Int)):Option Bool:= cond (decide (1≤x.1)) (cond (decide (x.1≤4096)) (cond (decide (0≤x.2)) (some (decide (x.2≤x.1))) (some false)) (some false)) (some false)
def b1A:FSem:=⟨[.v QI,.v QI],[.v .bool],a7q⟩
def d4U:Hints:=⟨[],[],[]⟩
def a6x(s:Z14):Option (Z14 ⊕ ((List Int)×Unit)):= cond (decide (s.1<0)) none (cond (decide ((s.2.2.1.length:Int)<(A0j .i64 1 s.1))) (cond (lim ((a02 s.2.2.1)+1)) (some (.inl (s.1,s.2.1,a03 s.2.2.1 [s.2.1],()))) none) (some (.inr (s.2.2.1,()))))
def a2T(x:(Int×Int×Int)):Option (List Int):= (show Option Z21 from(a7q (x.2.1,x.2.2)).bind fun y1=> cond (!y1) (some (x.1,x.2.1,x.2.2,true,())) (cond (decide (x.1<0)) (some (x.1,x.2.1,x.2.2,true,())) (some (x.1,x.2.1,x.2.2,decide (x.1 > 8),())))).bind fun z2=> cond z2.2.2.2.1 (some []) (cond (decide (z2.1<0)) none ((show Option Z21 from cond (decide (z2.1<0)) none (cond ((A0j .i64 (A0k .i64 z2.2.1 z2.1) z2.1) != z2.2.1) (some (z2.1,z2.2.2.1,A0k .i64 z2.2.1 z2.1,true,())) (some (z2.1,z2.2.2.1,A0k .i64 z2.2.1 z2.1,decide ((A0k .i64 z2.2.1 z2.1)<z2.2.2.1),())))).bind fun z3=> cond z3.2.2.2.1 (some []) ((y0o a6x (z3.1,z3.2.2.1,[wrap .i64 (z3.2.2.1-z3.2.1)],())).bind fun w4=> some w4.1)))
def a4Z:FSem:=⟨[.v QI,.v QI,.v QI],[.o QI],a2T⟩
def d4V:Hints:=⟨[(252,[.sv 0 QI,.sv 7 QI,.own 8 8 QI],[(.exit 0,[.own 8 8 QI])])],[(6,[(.normal,[.sv 0 QI,.sv 1 QI,.sv 2 QI,.sv 20 .bool])]),(30,[(.normal,[.sv 0 QI,.sv 2 QI,.sv 7 QI,.sv 33 .bool])])],[]⟩
def a4p(s:Z13):Option Z68:= cond (decide (s.2.2.1<s.2.1)) ((m0h s.1 s.2.2.1).bind fun x3=> (show Option Z33 from cond (decide (x3<0)) (some (s.1,s.2.1,s.2.2.1,x3 != 31,())) (cond (decide (x3 > 25)) (some (s.1,s.2.1,s.2.2.1,x3 != 31,())) (some (s.1,s.2.1,s.2.2.1,false,())))).bind fun z4=> cond z4.2.2.2.1 (some (.inr (Sum.inr ((false,()))))) (some (.inl (z4.1,z4.2.1,wrap .i64 (z4.2.2.1+1),())))) (some (.inr (Sum.inl ())))
def a8Z(x:(Z5×Int×Int)):Option Bool:= (a2T (x.1.1,x.2.1,x.2.2)).bind fun y1=> (show Option (Bool×Z17)from cond ((y1.length:Int)==0) (some (true,x.1,())) (some ((x.1.2.1.length:Int) != (y1.length:Int),x.1,()))).bind fun z2=> cond z2.1 (some false) ((y0o a4p (z2.2.1.2.1,(z2.2.1.2.1.length:Int),0,())).bind fun w5=> match w5 with |.inl a6=>some true |.inr b7=>some b7.1)
def b4s:FSem:=⟨[.v Q11,.v QI,.v QI],[.v .bool],a8Z⟩
def d4W:Hints:=⟨[(122,[.sv 27 QL,.sv 28 QI,.sv 29 QI],[(.exit 0,[]),(.ret,[.sv 6 .bool])])],[(14,[(.normal,[.sv 25 .bool,.vp 3 Q11])]),(7833,[(.normal,[.sv 27 QL,.sv 28 QI,.sv 29 QI,.sv 42 .bool])])],[]⟩
def a9T(x:b4p):Option Bool:= (show Option c2O from cond (decide (x.2<1)) (some (x.2,true,x.1,())) (cond (decide (x.2 > 4096)) (some (x.2,true,x.1,())) ((a7Q (x.1.1,x.1,x.2)).bind fun y1=> cond (!y1) (some (x.2,true,x.1,())) ((b1z x.1).bind fun y2=> some (x.2,!y2,x.1,()))))).bind fun z3=> cond z3.2.1 (some false) ((show Option c2O from cond (decide (z3.2.2.1.2.1<0)) (some (z3.1,true,z3.2.2.1,())) (cond (decide (z3.2.2.1.2.1 > 30)) (some (z3.1,true,z3.2.2.1,())) (cond (z3.2.2.1.1==0) (some (z3.1,z3.2.2.1.2.1 != 0,z3.2.2.1,())) (some (z3.1,false,z3.2.2.1,()))))).bind fun z4=> cond z4.2.1 (some false) ((a4z (z4.2.2.1,z4.1)).bind fun y5=> (show Option (Int×c2O)from cond ((z4.2.2.1.2.2.2.2.2.2.2.2.1.length:Int) != y5) (some (z4.1,y5,true,z4.2.2.1,())) ((a2o z4.2.2.1.2.2.2.2.2.2.2.2.1).bind fun y6=> cond (!y6) (some (z4.1,y5,true,z4.2.2.1,())) ((a2o z4.2.2.1.2.2.2.2.2.2.2.2.2.2.1).bind fun y7=> some (z4.1,y5,!y7,z4.2.2.1,())))).bind fun z8=> cond z8.2.2.1 (some false) ((a5Y z8.2.2.2.1.1).bind fun y9=> cond (!y9) (cond ((z8.2.2.2.1.2.2.2.2.2.2.2.2.2.2.1.length:Int)==0) (cond (z8.2.2.2.1.2.2.2.2.2.2.2.2.2.1.1==0) (some ((z8.2.2.2.1.2.2.2.2.2.2.2.2.2.1.2.1.length:Int)==0)) (some false)) (some false)) (cond ((z8.2.2.2.1.2.2.2.2.2.2.2.2.2.2.1.length:Int)==(wrap .i64 (z8.1-z8.2.1))) ((a8Z (z8.2.2.2.1.2.2.2.2.2.2.2.2.2.1,z8.1,z8.2.1)).bind fun y10=> some y10) (some false)))))
def b6H:FSem:=⟨[.v Q42,.v QI],[.v .bool],a9T⟩
def d4X:Hints:=⟨[],[(6,[(.normal,[.sv 1 QI,.sv 24 .bool,.vp 2 Q42])]),(14,[(.normal,[.sv 1 QI,.sv 42 .bool,.vp 2 Q42])]),(62,[(.normal,[.sv 1 QI,.sv 5 QI,.sv 62 .bool,.vp 2 Q42])])],[]⟩
def b3S(s:Z13):Option Z68:= cond (decide (s.2.2.1<s.2.1)) ((m0h s.1 s.2.2.1).bind fun x1=> (show Option Z33 from cond (decide (x1<(-1073741824))) (some (s.1,s.2.1,s.2.2.1,true,())) (some (s.1,s.2.1,s.2.2.1,decide (x1≥1073741824),()))).bind fun z2=> cond z2.2.2.2.1 (some (.inr (Sum.inr ((false,()))))) (some (.inl (z2.1,z2.2.1,wrap .i64 (z2.2.2.1+1),())))) (some (.inr (Sum.inl ())))
def a2E(x:(List Int)):Option Bool:= (y0o b3S (x,(x.length:Int),0,())).bind fun w3=> match w3 with |.inl a4=>some true |.inr b5=>some b5.1
def b3l:FSem:=⟨[.v QL],[.v .bool],a2E⟩
def d4Y:Hints:=⟨[(26,[.sv 5 QL,.sv 6 QI,.sv 7 QI],[(.exit 0,[]),(.ret,[.sv 2 .bool])])],[(1689,[(.normal,[.sv 5 QL,.sv 6 QI,.sv 7 QI,.sv 16 .bool])])],[]⟩
def a1h(x:(Int×(List Int))):Option (Int×(List Int)):= (m0h x.2 (wrap .i64 ((x.2.length:Int)-x.1))).bind fun x1=> some (x1,x.2)
def b3T:FSem:=⟨[.v QI,.r false (.b QL)],[.v QI],a1h⟩
def d4Z:Hints:=⟨[],[],[]⟩
def a9o(x:((List Int)×Int)):Option Int:= cond (x.2==1) ((a1h (1,x.1)).bind fun y1=> some y1.1) (cond (x.2==2) ((a1h (1,x.1)).bind fun y2=> (a1h (2,y2.2)).bind fun y3=> some (wrap .i64 ((wrap .i64 (2*y2.1))-y3.1))) (cond (x.2==3) ((a1h (1,x.1)).bind fun y4=> (a1h (2,y4.2)).bind fun y5=> (a1h (3,y5.2)).bind fun y6=> some (wrap .i64 ((wrap .i64 ((wrap .i64 (3*y4.1))-(wrap .i64 (3*y5.1))))+y6.1))) (cond (x.2==4) ((a1h (1,x.1)).bind fun y7=> (a1h (2,y7.2)).bind fun y8=> (a1h (3,y8.2)).bind fun y9=> (a1h (4,y9.2)).bind fun y10=> some (wrap .i64 ((wrap .i64 ((wrap .i64 ((wrap .i64 (4*y7.1))-(wrap .i64 (6*y8.1))))+(wrap .i64 (4*y9.1))))-y10.1))) (some 0))))
def b6o:FSem:=⟨[.v QL,.v QI],[.v QI],a9o⟩
def d5a:Hints:=⟨[],[],[]⟩
def a7D(s:Z57):Option (Z57 ⊕ Z47):= cond (decide (s.2.2.2.1<s.2.2.1)) ((m0h s.2.1 s.2.2.2.1).bind fun x5=> (a9o (s.2.2.2.2.1,s.1)).bind fun y6=> (a2E [wrap .i64 (x5+y6)]).bind fun y7=> cond (!y7) (some (.inr (Sum.inr ((6,[],()))))) (cond (lim ((a02 s.2.2.2.2.1)+1)) (some (.inl (s.1,s.2.1,s.2.2.1,wrap .i64 (s.2.2.2.1+1),a03 s.2.2.2.2.1 [wrap .i64 (x5+y6)],()))) none)) (some (.inr (Sum.inl (s.2.2.2.2.1,()))))
def a9U(x:Z9):Option ((List Int)×Int):= (show Option Z48 from cond (decide (x.2.2<0)) (some (x.1,x.2.1,x.2.2,true,())) (cond (decide (x.2.2 > 4)) (some (x.1,x.2.1,x.2.2,true,())) (some (x.1,x.2.1,x.2.2,(x.1.length:Int) != x.2.2,())))).bind fun z1=> cond z1.2.2.2.1 (some ([],1)) ((show Option Z48 from(a2E z1.1).bind fun y2=> cond (!y2) (some (z1.1,z1.2.1,z1.2.2.1,true,())) ((a2E z1.2.1).bind fun y3=> some (z1.1,z1.2.1,z1.2.2.1,!y3,()))).bind fun z4=> cond z4.2.2.2.1 (some ([],6)) (cond (lim (a02 z4.1)) ((y0o a7D (z4.2.2.1,z4.2.1,(z4.2.1.length:Int),0,z4.1,())).bind fun w8=> match w8 with |.inl a9=>some (a9.1,0) |.inr b10=>some (b10.2.1,b10.1)) none))
def b6I:FSem:=⟨[.v QL,.v QL,.v QI],[.o QI,.v QI],a9U⟩
def d5b:Hints:=⟨[(250,[.sv 2 QI,.sv 34 QL,.sv 35 QI,.sv 36 QI,.own 8 8 QI],[(.exit 0,[.own 8 8 QI]),(.ret,[.sv 7 QI,.own 6 6 QI])])],[(6,[(.normal,[.sv 0 QL,.sv 1 QL,.sv 2 QI,.sv 23 .bool])]),(14,[(.normal,[.sv 0 QL,.sv 1 QL,.sv 2 QI,.sv 31 .bool])])],[]⟩
def a5a(x:Int):Option Bool:= cond (decide (x≥(-1073741824))) (some (decide (x<1073741824))) (some false)
def a9p:FSem:=⟨[.v QI],[.v .bool],a5a⟩
def d5c:Hints:=⟨[],[],[]⟩
def a3a(s:Z13):Option Z68:= cond (decide (s.2.2.1<s.2.1)) ((m0h s.1 s.2.2.1).bind fun x1=> (a5a x1).bind fun y2=> cond (!y2) (some (.inr (Sum.inr ((false,()))))) (some (.inl (s.1,s.2.1,wrap .i64 (s.2.2.1+1),())))) (some (.inr (Sum.inl ())))
def a2v(x:(List Int)):Option Bool:= (y0o a3a (x,(x.length:Int),0,())).bind fun w3=> match w3 with |.inl a4=>some true |.inr b5=>some b5.1
def a6y:FSem:=⟨[.v QL],[.v .bool],a2v⟩
def d5d:Hints:=⟨[(26,[.sv 5 QL,.sv 6 QI,.sv 7 QI],[(.exit 0,[]),(.ret,[.sv 2 .bool])])],[],[]⟩
def a3b(s:Z72):Option (Z72 ⊕ (Int×Int×Unit)):= cond (decide (s.2.2.2.2.2.1<s.2.2.2.2.1)) ((m0h s.2.2.2.1 s.2.2.2.2.2.1).bind fun x1=> cond (decide ((wrap .i64 ((wrap .i64 ((s.1.length:Int)-1))-s.2.2.2.2.2.1))<0)) (some (.inr (s.2.1,s.2.2.1,()))) ((m0h s.1 (wrap .i64 ((wrap .i64 ((s.1.length:Int)-1))-s.2.2.2.2.2.1))).bind fun x2=> some (.inl (s.1,s.2.1,wrap .i64 (s.2.2.1+(wrap .i64 (x1*x2))),s.2.2.2.1,s.2.2.2.2.1,wrap .i64 (s.2.2.2.2.2.1+1),())))) (some (.inr (s.2.1,s.2.2.1,())))
def a4A(x:Z9):Option Int:= (y0o a3b (x.1,x.2.2,0,x.2.1,(x.2.1.length:Int),0,())).bind fun w3=> cond (decide (w3.1<0)) none (some (A0k .i64 w3.2.1 w3.1))
def a9B:FSem:=⟨[.v QL,.v QL,.v QI],[.v QI],a4A⟩
def d5e:Hints:=⟨[(58,[.sv 0 QL,.sv 2 QI,.sv 7 QI,.sv 11 QL,.sv 12 QI,.sv 13 QI],[(.exit 0,[.sv 2 QI,.sv 7 QI])])],[],[]⟩
def a6z(s:((List Int)×Z57)):Option (((List Int)×Z57) ⊕ Z47):= cond (decide (s.2.2.2.2.1<s.2.2.2.1)) ((m0h s.2.2.1 s.2.2.2.2.1).bind fun x6=> (a4A (s.2.2.2.2.2.1,s.1,s.2.1)).bind fun y7=> (a5a (wrap .i64 (y7+x6))).bind fun y8=> cond (!y8) (some (.inr (Sum.inr ((6,[],()))))) (cond (lim ((a02 s.2.2.2.2.2.1)+1)) (some (.inl (s.1,s.2.1,s.2.2.1,s.2.2.2.1,wrap .i64 (s.2.2.2.2.1+1),a03 s.2.2.2.2.2.1 [wrap .i64 (y7+x6)],()))) none)) (some (.inr (Sum.inl (s.2.2.2.2.2.1,()))))
def a6W(x:((List Int)×Z9)):Option ((List Int)×Int):= (show Option ((List Int)×Z48)from(a4y (x.2.2.1,x.2.2.2)).bind fun y1=> cond (!y1) (some (x.1,x.2.1,x.2.2.1,x.2.2.2,true,())) (some (x.1,x.2.1,x.2.2.1,x.2.2.2,(x.1.length:Int) != (x.2.2.1.length:Int),()))).bind fun z2=> cond z2.2.2.2.2.1 (some ([],1)) ((show Option ((List Int)×Z48)from(a2v z2.1).bind fun y3=> cond (!y3) (some (z2.1,z2.2.1,z2.2.2.1,z2.2.2.2.1,true,())) ((a2v z2.2.1).bind fun y4=> some (z2.1,z2.2.1,z2.2.2.1,z2.2.2.2.1,!y4,()))).bind fun z5=> cond z5.2.2.2.2.1 (some ([],6)) (cond ((decide (0≤(wrap .i64 ((z5.1.length:Int)+(z5.2.1.length:Int)))))&&(lim (a00 (wrap .i64 ((z5.1.length:Int)+(z5.2.1.length:Int)))))) (cond (lim (0+(a02 z5.1))) ((y0o a6z (z5.2.2.1,z5.2.2.2.1,z5.2.1,(z5.2.1.length:Int),0,a03 [] z5.1,())).bind fun w9=> match w9 with |.inl a10=>some (a10.1,0) |.inr b11=>some (b11.2.1,b11.1)) none) none))
def b6p:FSem:=⟨[.v QL,.v QL,.v QL,.v QI],[.o QI,.v QI],a6W⟩
def d5f:Hints:=⟨[(506,[.sv 2 QL,.sv 3 QI,.sv 42 QL,.sv 43 QI,.sv 44 QI,.own 10 10 QI],[(.exit 0,[.own 10 10 QI]),(.ret,[.sv 9 QI,.own 8 8 QI])])],[(6,[(.normal,[.sv 0 QL,.sv 1 QL,.sv 2 QL,.sv 3 QI,.sv 24 .bool])]),(14,[(.normal,[.sv 0 QL,.sv 1 QL,.sv 2 QL,.sv 3 QI,.sv 32 .bool])])],[]⟩
def a7r(x:Int):Option Bool:= cond (decide (x≥(-1073741824))) (some (decide (x<1073741824))) (some false)
def b1B:FSem:=⟨[.v QI],[.v .bool],a7r⟩
def d5g:Hints:=⟨[],[],[]⟩
def a3X(s:Z13):Option Z68:= cond (decide (s.2.2.1<s.2.1)) ((m0h s.1 s.2.2.1).bind fun x1=> (a7r x1).bind fun y2=> cond (!y2) (some (.inr (Sum.inr ((false,()))))) (some (.inl (s.1,s.2.1,wrap .i64 (s.2.2.1+1),())))) (some (.inr (Sum.inl ())))
def a4q(x:(List Int)):Option Bool:= (y0o a3X (x,(x.length:Int),0,())).bind fun w3=> match w3 with |.inl a4=>some true |.inr b5=>some b5.1
def a8o:FSem:=⟨[.v QL],[.v .bool],a4q⟩
def d5h:Hints:=⟨[(26,[.sv 5 QL,.sv 6 QI,.sv 7 QI],[(.exit 0,[]),(.ret,[.sv 2 .bool])])],[],[]⟩
def a3Y(s:((List Int)×(Int×Int×Z15))):Option (((List Int)×(Int×Int×Z15)) ⊕ (Int×Unit)):= cond (decide (s.2.2.2.2.2.1<3)) ((m0h s.2.2.2.2.1 s.2.2.2.2.2.1).bind fun x1=> cond (decide ((wrap .i64 ((wrap .i64 ((wrap .i64 (s.2.1-s.2.2.1))-1))+s.2.2.2.2.2.1))≥0)) ((m0h s.1 (wrap .i64 ((wrap .i64 ((wrap .i64 (s.2.1-s.2.2.1))-1))+s.2.2.2.2.2.1))).bind fun x2=> some (.inl (s.1,s.2.1,s.2.2.1,wrap .i64 (s.2.2.2.1+(wrap .i64 (x1*x2))),s.2.2.2.2.1,wrap .i64 (s.2.2.2.2.2.1+1),()))) (some (.inl (s.1,s.2.1,s.2.2.1,s.2.2.2.1,s.2.2.2.2.1,wrap .i64 (s.2.2.2.2.2.1+1),())))) (some (.inr (s.2.2.2.1,())))
def a4r(x:((List Int)×Z2)):Option Int:= (y0o a3Y (x.1,x.2.1,x.2.2.1,0,x.2.2.2,0,())).bind fun w3=> some (A0k .i64 w3.1 6)
def b1f:FSem:=⟨[.v QL,.v QI,.v QI,.v (.arr 3 QI)],[.v QI],a4r⟩
def d5i:Hints:=⟨[(58,[.sv 0 QL,.sv 1 QI,.sv 2 QI,.sv 9 QI,.sv 13 (.arr 3 QI),.sv 14 QI],[(.exit 0,[.sv 9 QI])])],[],[]⟩
def a8p(s:Z83):Option (Z83 ⊕ Z47):= cond (decide (s.2.2.2.1<s.2.2.1)) ((m0h s.2.1 s.2.2.2.1).bind fun x3=> (a4r (s.2.2.2.2.1,s.2.2.2.1,s.1,s.2.2.2.2.2.1)).bind fun y4=> (a7r (wrap .i64 (x3+y4))).bind fun y5=> cond (!y5) (some (.inr (Sum.inr ((6,[],()))))) (cond (lim ((a02 s.2.2.2.2.1)+1)) (some (.inl (s.1,s.2.1,s.2.2.1,wrap .i64 (s.2.2.2.1+1),a03 s.2.2.2.2.1 [wrap .i64 (x3+y4)],s.2.2.2.2.2.1,()))) none)) (some (.inr (Sum.inl (s.2.2.2.2.1,()))))
def b1C(x:((List Int)×(Int×(List Int)))):Option ((List Int)×Int):= (a8n (x.2.1,x.2.2)).bind fun y1=> cond (!y1) (some ([],1)) ((a4q x.1).bind fun y2=> cond (!y2) (some ([],6)) (cond ((decide (0≤(x.1.length:Int)))&&(lim (a00 (x.1.length:Int)))) ((y0o a8p (x.2.1,x.1,(x.1.length:Int),0,[],x.2.2,())).bind fun w6=> match w6 with |.inl a7=>some (a7.1,0) |.inr b8=>some (b8.2.1,b8.1)) none))
def b7M:FSem:=⟨[.v QL,.v QI,.v (.arr 3 QI)],[.o QI,.v QI],b1C⟩
def d5j:Hints:=⟨[(250,[.sv 1 QI,.sv 22 QL,.sv 23 QI,.sv 24 QI,.own 8 8 QI,.vp 5 (.arr 3 QI)],[(.exit 0,[.own 8 8 QI]),(.ret,[.sv 7 QI,.own 6 6 QI])])],[],[]⟩
def a6b(x:Int):Option Bool:= cond (decide (x≥(-1073741824))) (some (decide (x<1073741824))) (some false)
def a9V:FSem:=⟨[.v QI],[.v .bool],a6b⟩
def d5k:Hints:=⟨[],[],[]⟩
def a3x(s:Z13):Option Z68:= cond (decide (s.2.2.1<s.2.1)) ((m0h s.1 s.2.2.1).bind fun x1=> (a6b x1).bind fun y2=> cond (!y2) (some (.inr (Sum.inr ((false,()))))) (some (.inl (s.1,s.2.1,wrap .i64 (s.2.2.1+1),())))) (some (.inr (Sum.inl ())))
def a5i(x:(List Int)):Option Bool:= (y0o a3x (x,(x.length:Int),0,())).bind fun w3=> match w3 with |.inl a4=>some true |.inr b5=>some b5.1
def a9W:FSem:=⟨[.v QL],[.v .bool],a5i⟩
def d5l:Hints:=⟨[(26,[.sv 5 QL,.sv 6 QI,.sv 7 QI],[(.exit 0,[]),(.ret,[.sv 2 .bool])])],[],[]⟩
def a9a(x:(Int×Int×Unit)):Option (Z23×Int):= (a6V x).bind fun y1=> cond (!y1) none (cond ((decide (0≤x.1))&&((decide (x.1≤x.1))&&(lim (a00 x.1)))) (cond ((decide (0≤x.1))&&((decide (x.1≤x.1))&&(lim (a00 x.1)))) (some ((x.2.1,a01 (a00 x.1) 0,a01 (a00 x.1) 0,()),0)) none) none)
def b4t:FSem:=⟨[.v Q3],[.b Q17,.v QI],a9a⟩
def d5m:Hints:=⟨[],[],[(3,[.v,.v,.v,.v,.q,.v,.v,.q,.x,.x,.x,.x])]⟩
def a5j(x:Int):Option Int:= some (v0o (v0n x (-1073741824)) 1073741823)
def a9X:FSem:=⟨[.v QI],[.v QI],a5j⟩
def d5n:Hints:=⟨[],[],[]⟩
def a2Y(s:Z86):Option (Z86 ⊕ Z62):= cond (decide (s.2.2.1<s.2.1)) (cond ((decide (0≤s.2.2.1))&&(decide (s.2.2.1<(s.2.2.2.1.2.1.length:Int)))) (cond ((decide (0≤s.2.2.1))&&(decide (s.2.2.1<(s.2.2.2.1.2.2.1.length:Int)))) (some (.inl (wrap .i64 (s.1+(wrap .i64 ((a04 s.2.2.2.1.2.1 (a00 s.2.2.1) 0)*(a04 s.2.2.2.1.2.2.1 (a00 s.2.2.1) 0)))),s.2.1,wrap .i64 (s.2.2.1+1),s.2.2.2.1,()))) none) none) (some (.inr (s.1,s.2.2.2.1,())))
def a1S(x:Z23):Option Z41:= (y0o a2Y (0,(x.2.1.length:Int),0,x,())).bind fun w1=> (a5j (A0k .i64 w1.1 16)).bind fun y2=> some (y2,w1.2.1)
def a4c:FSem:=⟨[.r false (.b Q17)],[.v QI],a1S⟩
def d5o:Hints:=⟨[(58,[.sv 3 QI,.sv 10 QI,.sv 11 QI,.box pinned Q17,.ptr 0 pinned [],.ref 9 pinned [.snd,.fst]],[(.exit 0,[.sv 3 QI,.box pinned Q17])])],[],[]⟩
def a2m(s:(Int×Z86)):Option ((Int×Z86) ⊕ Z62):= cond (decide (s.2.2.2.1<s.2.2.1)) (cond ((decide (0≤s.2.2.2.1))&&(decide (s.2.2.2.1<(s.2.2.2.2.1.2.2.1.length:Int)))) (cond ((decide (0≤s.2.2.2.1))&&(decide (s.2.2.2.1<(s.2.2.2.2.1.2.1.length:Int)))) ((show Option (Int×Int×Int×Z86)from cond (decide ((a04 s.2.2.2.2.1.2.2.1 (a00 s.2.2.2.1) 0) > 0)) (some (s.1,s.2.1,s.2.2.2.1,wrap .i64 ((a04 s.2.2.2.2.1.2.1 (a00 s.2.2.2.1) 0)+s.2.1),s.2.2.1,s.2.2.2.1,s.2.2.2.2.1,())) (cond (decide ((a04 s.2.2.2.2.1.2.2.1 (a00 s.2.2.2.1) 0)<0)) (some (s.1,s.2.1,s.2.2.2.1,wrap .i64 ((a04 s.2.2.2.2.1.2.1 (a00 s.2.2.2.1) 0)-s.2.1),s.2.2.1,s.2.2.2.1,s.2.2.2.2.1,())) (some (s.1,s.2.1,s.2.2.2.1,a04 s.2.2.2.2.1.2.1 (a00 s.2.2.2.1) 0,s.2.2.1,s.2.2.2.1,s.2.2.2.2.1,())))).bind fun z4=> cond ((decide (0≤z4.2.2.1))&&(decide (z4.2.2.1<(z4.2.2.2.2.2.2.1.2.1.length:Int)))) (some (.inl (z4.1,z4.2.1,z4.2.2.2.2.1,wrap .i64 (z4.2.2.2.2.2.1+1),(z4.2.2.2.2.2.2.1.1,a20 z4.2.2.2.2.2.2.1.2.1 (a00 z4.2.2.1) (v0o (v0n z4.2.2.2.1 (-1048576)) 1048576),z4.2.2.2.2.2.2.1.2.2),()))) none) none) none) (some (.inr (s.1,s.2.2.2.2.1,())))
def a3c(x:(Z23×Int)):Option Z23:= (a5j x.2).bind fun y1=> (show Option Z76 from(a1S x.1).bind fun y2=> cond (decide (y1 > y2.1)) (cond (decide (y2.2.1<0)) none (some (y1,A0j .i64 1 y2.2.1,y2.2,()))) (cond (decide (y1<y2.1)) (cond (decide (y2.2.1<0)) none (some (y1,wrap .i64 (0-(A0j .i64 1 y2.2.1)),y2.2,()))) (some (y1,0,y2.2,())))).bind fun z3=> (y0o a2m (z3.1,z3.2.1,(z3.2.2.1.2.2.1.length:Int),0,z3.2.2.1,())).bind fun w5=> cond (decide (1≤(w5.2.1.2.2.1.length:Int))) (cond (decide (0<(a02 (p0b w5.2.1.2.2.1 1 ((a02 w5.2.1.2.2.1)-1) w5.2.1.2.2.1):Int))) (some (w5.2.1.1,w5.2.1.2.1,a20 (p0b w5.2.1.2.2.1 1 ((a02 w5.2.1.2.2.1)-1) w5.2.1.2.2.1) 0 w5.1,w5.2.1.2.2.2)) none) none
def a7A:FSem:=⟨[.r false (.b Q17),.v QI],[],a3c⟩
def d5p:Hints:=⟨[(122,[.sv 1 QI,.sv 4 QI,.sv 36 QI,.sv 37 QI,.box pinned Q17,.ptr 0 pinned [],.ref 35 pinned [.snd,.snd,.fst]],[(.exit 1,[.sv 1 QI,.box pinned Q17,.ptr 0 pinned []])])],[(7,[(.normal,[.sv 1 QI,.sv 4 QI,.box pinned Q17,.ptr 0 pinned []])]),(15667,[(.normal,[.sv 1 QI,.sv 4 QI,.sv 6 QI,.sv 8 QI,.sv 36 QI,.sv 37 QI,.box pinned Q17,.ptr 0 pinned [],.ref 35 pinned [.snd,.snd,.fst]])])],[(17,[.p,.p,.q,.q,.q,.p,.p,.q,.q,.x])]⟩
def a5k(s:(Int×(Int×((List Int)×Z84)))):Option ((Int×(Int×((List Int)×Z84))) ⊕ (Z24 ⊕ Z24)):= cond (decide (s.2.1<s.1)) (cond ((decide (0≤s.2.1))&&(decide (s.2.1<(s.2.2.2.2.1.length:Int)))) ((a1S s.2.2.2.2.2.1).bind fun y6=> (a6b (wrap .i64 (y6.1+(a04 s.2.2.2.2.1 (a00 s.2.1) 0)))).bind fun y7=> cond (!y7) (some (.inr (Sum.inr (([],6,s.2.2.2.2.1,()))))) ((a3c (y6.2,wrap .i64 (y6.1+(a04 s.2.2.2.2.1 (a00 s.2.1) 0)))).bind fun y8=> cond ((decide (0≤s.2.1))&&(decide (s.2.1<(s.2.2.2.2.1.length:Int)))) (some (.inl (s.1,wrap .i64 (s.2.1+1),s.2.2.1,s.2.2.2.1,a20 s.2.2.2.2.1 (a00 s.2.1) (wrap .i64 (y6.1+(a04 s.2.2.2.2.1 (a00 s.2.1) 0))),y8,()))) none)) none) (some (.inr (Sum.inl (s.2.2.1,s.2.2.2.1,s.2.2.2.2.1,()))))
def a7E(k:Int)(v:(Int×Int×Unit))(s:(Z4×Z24)):Option ((Z4×Z24) ⊕ (Ex×Z4×Z24)):= (a9a v).bind fun y4=> cond (y4.2 != 0) (some (.inr (.ret,s.1,[],y4.2,s.2.2.2.1,()))) ((y0o a5k ((s.2.2.2.1.length:Int),0,s.2.1,s.2.2.1,s.2.2.2.1,y4.1,())).bind fun w9=> match w9 with |.inl a10=>some (.inl (s.1,a10.1,a10.2.1,a10.2.2.1,())) |.inr b11=>some (.inr (.ret,s.1,b11.1,b11.2.1,b11.2.2.1,())))
def a9Y(x:((List Int)×Z4)):Option ((List Int)×Int):= (a7p x.2).bind fun y1=> cond (!y1) (some ([],1)) ((a5i x.1).bind fun y2=> cond (!y2) (some ([],6)) ((a1d x.1).bind fun y3=> cond (lim (a02 x.2)) ((l0b a7E x.2 (a02 x.2) (x.2,[],0,y3,())).bind fun w12=> match w12 with |.inl a13=>some (a13.2.2.2.1,0) |.inr (.normal,a14)=>some (a14.2.2.2.1,0) |.inr (.exit e15,a14)=>(cond (e15==0) (some (a14.2.2.2.1,0)) none) |.inr (.ret,a14)=>some (a14.2.1,a14.2.2.1)) none))
def a7R:FSem:=⟨[.v QL,.v (.list false Q3)],[.v QL,.v QI],a9Y⟩
def d5q:Hints:=⟨[(8046,[.sv 35 QI,.sv 36 QI,.box 1001004 QL,.box 1001005 QI,.box 1001006 (.list true QI),.box 1028 Q17,.ptr 4 1001004 [],.ptr 5 1001005 [],.ptr 6 1001006 [],.ptr 9 1028 [],.ref 34 1001006 []],[(.exit 2,[.box 1001004 QL,.box 1001005 QI,.box 1001006 (.list true QI),.ptr 4 1001004 [],.ptr 5 1001005 [],.ptr 6 1001006 []]),(.ret,[.box 1001004 QL,.box 1001005 QI,.box 1001006 (.list true QI),.ptr 4 1001004 [],.ptr 5 1001005 [],.ptr 6 1001006 []])])],[],[]⟩
def c9f:Cx:=a9P [(183,a0Z),(213,b1y),(296,a9W),(298,b4t),(299,a4c),(300,a9V),(301,a7A)] [(6,.list true QI)] [0,1,9,10,11,12,13] [56]
def d1x:HintR:=⟨22,Q3,297,326,[4,5,6],[.sv 22 (.list false Q3),.box 1001004 QL,.box 1001005 QI,.box 1001006 (.list true QI),.ptr 4 1001004 [],.ptr 5 1001005 [],.ptr 6 1001006 []]⟩
theorem d2A(x):z0d c9f d5q d1x Tryz.f240 a7R.ps a7R.rs x=a7R.F x:=by kernel_rfl
def a5b(x:Int):Option Bool:= cond (decide ((-1073741824)≤x)) (some (decide (x<1073741824))) (some false)
def b2w:FSem:=⟨[.v QI],[.v .bool],a5b⟩
def d5r:Hints:=⟨[],[],[]⟩
def a8q(s:Z57):Option (Z57 ⊕ Z47):= cond (decide (s.2.2.2.1<s.2.2.1)) ((m0h s.2.1 s.2.2.2.1).bind fun x2=> (show Option (Int×(Int×((List Int)×(Int×(Int×(Bool×((List Int)×Unit)))))))from(a5b x2).bind fun y3=> cond (!y3) (some (s.1,x2,s.2.1,s.2.2.1,s.2.2.2.1,true,s.2.2.2.2.1,())) (cond (decide (s.1<0)) none ((a5b (A0j .i64 x2 s.1)).bind fun y4=> some (s.1,x2,s.2.1,s.2.2.1,s.2.2.2.1,!y4,s.2.2.2.2.1,())))).bind fun z5=> cond z5.2.2.2.2.2.1 (some (.inr (Sum.inr ((6,[],()))))) (cond (decide (z5.1<0)) none (cond (lim ((a02 z5.2.2.2.2.2.2.1)+1)) (some (.inl (z5.1,z5.2.2.1,z5.2.2.2.1,wrap .i64 (z5.2.2.2.2.1+1),a03 z5.2.2.2.2.2.2.1 [A0j .i64 z5.2.1 z5.1],()))) none))) (some (.inr (Sum.inl (s.2.2.2.2.1,()))))
def a9b(x:((List Int)×Int)):Option ((List Int)×Int):= (show Option Z16 from cond (decide (x.2<0)) (some (x.1,x.2,true,())) (some (x.1,x.2,decide (x.2 > 30),()))).bind fun z1=> cond z1.2.2.1 (some ([],1)) ((y0o a8q (z1.2.1,z1.1,(z1.1.length:Int),0,[],())).bind fun w6=> match w6 with |.inl a7=>some (a7.1,0) |.inr b8=>some (b8.2.1,b8.1))
def b7N:FSem:=⟨[.v QL,.v QI],[.o QI,.v QI],a9b⟩
def d5s:Hints:=⟨[(122,[.sv 1 QI,.sv 15 QL,.sv 16 QI,.sv 17 QI,.own 6 6 QI],[(.exit 0,[.own 6 6 QI]),(.ret,[.sv 5 QI,.own 4 4 QI])])],[(6,[(.normal,[.sv 0 QL,.sv 1 QI,.sv 14 .bool])]),(15666,[(.normal,[.sv 1 QI,.sv 8 QI,.sv 15 QL,.sv 16 QI,.sv 17 QI,.sv 30 .bool,.own 6 6 QI])])],[]⟩
def a6X(s:(Int×(Int×((List Int)×b5v)))):Option ((Int×(Int×((List Int)×b5v))) ⊕ ((List Int)×Unit)):= cond (decide (s.2.1<s.1)) ((m0h s.2.2.2.1.2.2.2.2.2.2.2.2.1 0).bind fun x1=> cond (lim ((a02 s.2.2.1)+1)) (some (.inl (s.1,wrap .i64 (s.2.1+1),a03 s.2.2.1 [x1],s.2.2.2.1,()))) none) (some (.inr (s.2.2.1,())))
def b2N(x:b4p):Option ((List Int)×Int):= (show Option (((List Int)×(Int×b5v)) ⊕ Z5)from cond (x.1.1==0) ((y0o a6X (x.2,0,[],x.1,())).bind fun w2=> some (Sum.inr ((0,w2.1,())))) (cond (x.1.1==1) (some (Sum.inl (x.1.2.2.2.2.2.2.2.2.1,0,x.1,()))) (cond (x.1.1==2) ((a9U (x.1.2.2.2.2.2.2.2.2.1,x.1.2.2.2.2.2.2.2.2.2.2.1,x.1.2.2.1)).bind fun y3=> some (Sum.inl (y3.1,y3.2,x.1,()))) (cond (x.1.1==3) ((a6W (x.1.2.2.2.2.2.2.2.2.1,x.1.2.2.2.2.2.2.2.2.2.2.1,x.1.2.2.2.2.2.1,x.1.2.2.2.1)).bind fun y4=> some (Sum.inl (y4.1,y4.2,x.1,()))) (cond (x.1.1==4) ((a6W (x.1.2.2.2.2.2.2.2.2.1,x.1.2.2.2.2.2.2.2.2.2.2.1,x.1.2.2.2.2.2.1,x.1.2.2.2.1)).bind fun y5=> cond (y5.2==0) ((b1C (y5.1,x.1.2.2.2.2.1,x.1.2.2.2.2.2.2.1)).bind fun y6=> some (Sum.inl (y6.1,y6.2,x.1,()))) (some (Sum.inl (y5.1,y5.2,x.1,())))) (cond (x.1.1==5) ((a9Y (x.1.2.2.2.2.2.2.2.2.2.2.1,x.1.2.2.2.2.2.2.2.1)).bind fun y7=> some (Sum.inl (y7.1,y7.2,x.1,()))) (some (Sum.inl ([],0,x.1,()))))))))).bind fun z8=> match z8 with |.inl a9=>(cond (a9.2.1 != 0) (some ([],a9.2.1)) ((a9b (a9.1,a9.2.2.1.2.1)).bind fun y11=> some (y11.1,y11.2))) |.inr b10=>some (b10.2.1,b10.1)
def b9h:FSem:=⟨[.v Q42,.v QI],[.o QI,.v QI],b2N⟩
def d5t:Hints:=⟨[(3922,[.sv 12 QI,.sv 13 QI,.own 6 6 QI,.vp 2 Q42],[(.exit 1,[.own 6 6 QI])])],[(15,[(.normal,[.sv 6 QL,.sv 7 QI,.vp 2 Q42]),(.ret,[.sv 5 QI,.own 4 6 QI])])],[]⟩
def b2b(x:b4p):Option ((List Int)×Int):= (a9T (x.1,x.2)).bind fun y1=> cond (!y1) (some ([],1)) ((b2N (x.1,x.2)).bind fun y2=> cond (y2.2 != 0) (some ([],1)) (some (y2.1,0)))
def b6J:FSem:=⟨[.v Q42,.v QI],[.o QI,.v QI],b2b⟩
def d5u:Hints:=⟨[],[],[]⟩
def a9c(x:Int):Option Bool:= cond (decide ((-1073741824)≤x)) (some (decide (x<1073741824))) (some false)
def b4u:FSem:=⟨[.v QI],[.v .bool],a9c⟩
def d5v:Hints:=⟨[],[],[]⟩
def a4s(s:((List (List Int))×((List (List Int))×Z49))):Option (((List (List Int))×((List (List Int))×Z49)) ⊕ (((List (List Int))×Z25) ⊕ (Bool×Unit))):= cond (decide (s.2.2.2.2.2.2.1<s.2.2.2.2.2.1)) ((m0h s.2.2.2.2.1 s.2.2.2.2.2.2.1).bind fun x5=> (a9c x5).bind fun y6=> cond (!y6) (some (.inr (Sum.inr ((false,()))))) (some (.inl (s.1,s.2.1,s.2.2.1,s.2.2.2.1,s.2.2.2.2.1,s.2.2.2.2.2.1,wrap .i64 (s.2.2.2.2.2.2.1+1),())))) (some (.inr (Sum.inl (s.1,s.2.1,s.2.2.1,s.2.2.2.1,()))))
def a4t(s:((List (List Int))×Z25)):Option (((List (List Int))×Z25) ⊕ Z0):= cond (decide (s.2.2.2.1<s.2.2.1)) ((m0h s.2.1 s.2.2.2.1).bind fun x3=> (m0h s.1 0).bind fun x4=> cond ((x3.length:Int) != (x4.length:Int)) (some (.inr (Sum.inr ((false,()))))) ((y0o a4s (s.1,s.2.1,s.2.2.1,s.2.2.2.1,x3,(x3.length:Int),0,())).bind fun w7=> match w7 with |.inl a8=>some (.inl (a8.1,a8.2.1,a8.2.2.1,wrap .i64 (a8.2.2.2.1+1),())) |.inr b9=>some (.inr (Sum.inr ((b9.1,())))))) (some (.inr (Sum.inl ())))
def a7s(x:(List (List Int))):Option Bool:= (show Option ((List (List Int))×(Bool×Unit))from cond (decide ((x.length:Int)<1)) (some (x,true,())) (cond (decide ((x.length:Int) > 8)) (some (x,true,())) ((m0h x 0).bind fun x1=> some (x,decide ((x1.length:Int) > 4096),())))).bind fun z2=> cond z2.2.1 (some false) ((y0o a4t (z2.1,z2.1,(z2.1.length:Int),0,())).bind fun w10=> match w10 with |.inl a11=>some true |.inr b12=>some b12.1)
def b1D:FSem:=⟨[.v (.list false QL)],[.v .bool],a7s⟩
def d5w:Hints:=⟨[(58,[.sv 0 (.list false QL),.sv 22 (.list false QL),.sv 23 QI,.sv 24 QI],[(.exit 0,[]),(.ret,[.sv 2 .bool])]),(29902,[.sv 0 (.list false QL),.sv 22 (.list false QL),.sv 23 QI,.sv 24 QI,.sv 35 QL,.sv 36 QI,.sv 37 QI],[(.exit 2,[.sv 0 (.list false QL),.sv 22 (.list false QL),.sv 23 QI,.sv 24 QI]),(.ret,[.sv 2 .bool])])],[(6,[(.normal,[.sv 0 (.list false QL),.sv 21 .bool])])],[]⟩
def a6A(s:((List (List Int))×Z26)):Option (((List (List Int))×Z26) ⊕ Z1):= cond (decide (s.2.2.1<s.2.1)) ((m0h s.1 s.2.2.1).bind fun x1=> (a1d x1).bind fun y2=> cond (lim ((a02 s.2.2.2.1)+(a02 (a20 ([[]]:List (List Int)) 0 y2)))) (some (.inl (s.1,s.2.1,wrap .i64 (s.2.2.1+1),a03 s.2.2.2.1 (a20 ([[]]:List (List Int)) 0 y2),()))) none) (some (.inr (s.2.2.2.1,())))
def a6Y(x:(List (List Int))):Option (List (List Int)):= (y0o a6A (x,(x.length:Int),0,([]:(List (List Int))),())).bind fun w3=> some w3.1
def b2x:FSem:=⟨[.v (.list false QL)],[.o (.list true QI)],a6Y⟩
def d5x:Hints:=⟨[(58,[.sv 6 (.list false QL),.sv 7 QI,.sv 8 QI,.own 3 3 (.list true QI)],[(.exit 0,[.own 3 3 (.list true QI)])])],[],[]⟩
def a3G(s:(Int×(Int×(Int×((List (List Int))×(Z7×Int×Unit)))))):Option ((Int×(Int×(Int×((List (List Int))×(Z7×Int×Unit))))) ⊕ (Z1 ⊕ (Bool×Z1))):= cond (decide (s.2.2.1<s.2.1)) (cond ((decide (0≤s.2.2.1))&&(decide (s.2.2.1<((a02 (a04 s.2.2.2.1 (a00 s.2.2.2.2.2.1) []):Nat):Int)))) (cond ((decide (0≤s.2.2.2.2.1.2.1))&&(decide (s.2.2.2.2.1.2.1<(s.2.2.2.1.length:Int)))) (cond ((decide (0≤s.2.2.1))&&(decide (s.2.2.1<((a02 (a04 s.2.2.2.1 (a00 s.2.2.2.2.1.2.1) []):Nat):Int)))) ((a9c (wrap .i64 ((a04 (a04 s.2.2.2.1 (a00 s.2.2.2.2.1.2.1) []) (a00 s.2.2.1) 0)+(wrap .i64 (s.1*(A0k .i64 (wrap .i64 (s.2.2.2.2.1.2.2.1*(a04 (a04 s.2.2.2.1 (a00 s.2.2.2.2.2.1) []) (a00 s.2.2.1) 0))) 8)))))).bind fun y1=> cond (!y1) (some (.inr (Sum.inr ((false,s.2.2.2.1,()))))) (cond ((decide (0≤s.2.2.2.2.1.2.1))&&(decide (s.2.2.2.2.1.2.1<(s.2.2.2.1.length:Int)))) (cond ((decide (0≤s.2.2.1))&&(decide (s.2.2.1<((a02 (a04 s.2.2.2.1 (a00 s.2.2.2.2.1.2.1) []):Nat):Int)))) (some (.inl (s.1,s.2.1,wrap .i64 (s.2.2.1+1),a20 s.2.2.2.1 (a00 s.2.2.2.2.1.2.1) (a20 (a04 s.2.2.2.1 (a00 s.2.2.2.2.1.2.1) []) (a00 s.2.2.1) (wrap .i64 ((a04 (a04 s.2.2.2.1 (a00 s.2.2.2.2.1.2.1) []) (a00 s.2.2.1) 0)+(wrap .i64 (s.1*(A0k .i64 (wrap .i64 (s.2.2.2.2.1.2.2.1*(a04 (a04 s.2.2.2.1 (a00 s.2.2.2.2.2.1) []) (a00 s.2.2.1) 0))) 8)))))),s.2.2.2.2.1,((a00 s.2.2.2.2.2.1:Nat):Int),()))) none) none)) none) none) none) (some (.inr (Sum.inl (s.2.2.2.1,()))))
def a7S(x:((List (List Int))×(Z7×Int))):Option (Bool×(List (List Int))):= cond ((decide (0≤x.2.1.1))&&(decide (x.2.1.1<(x.1.length:Int)))) ((y0o a3G (x.2.2,((a02 (a04 x.1 (a00 x.2.1.1) []):Nat):Int),0,x.1,x.2.1,((a00 x.2.1.1:Nat):Int),())).bind fun w2=> match w2 with |.inl a3=>some (true,a3.1) |.inr b4=>some (b4.1,b4.2.1)) none
def b3m:FSem:=⟨[.r false (.o (.list true QI)),.v Q12,.v QI],[.v .bool],a7S⟩
def d5y:Hints:=⟨[(26,[.sv 2 QI,.sv 15 QI,.sv 16 QI,.own 0 pinned (.list true QI),.vp 4 Q12,.rfi 14 pinned],[(.exit 0,[.own 0 pinned (.list true QI)]),(.ret,[.sv 6 .bool,.own 0 pinned (.list true QI)])])],[],[(4,[.q,.v,.v,.q,.q,.v,.q,.q,.v,.v,.v,.v,.v,.v,.v,.x,.x])]⟩
def a6c(k:Int)(v:Z7)(s:(Z12×((List (List Int))×Z10))):Option ((Z12×((List (List Int))×Z10)) ⊕ (Ex×(Z12×((List (List Int))×Z10)))):= (a7S (s.2.2.2.1,v,(-1))).bind fun y5=> cond (!y5.1) (some (.inr (.ret,s.1,([]:(List (List Int))),6,y5.2,()))) (some (.inl (s.1,s.2.1,s.2.2.1,y5.2,())))
def b1E(x:((List (List Int))×Z12)):Option ((List (List Int))×Int):= (show Option ((List (List Int))×(Z12×(Bool×((List (List Int))×(Int×Unit)))))from(a7s x.1).bind fun y1=> cond (!y1) (some (x.1,x.2,true,([]:(List (List Int))),0,())) ((a8m (x.2,(x.1.length:Int))).bind fun y2=> some (x.1,x.2,!y2,([]:(List (List Int))),0,()))).bind fun z3=> cond z3.2.2.1 (some (([]:(List (List Int))),1)) ((a6Y z3.1).bind fun y4=> cond (lim (a02 z3.2.1)) ((l0b a6c z3.2.1 (a02 z3.2.1) (z3.2.1,z3.2.2.2.1,z3.2.2.2.2.1,y4,())).bind fun w6=> match w6 with |.inl a7=>some (a7.2.2.2.1,0) |.inr (.normal,a8)=>some (a8.2.2.2.1,0) |.inr (.exit e9,a8)=>(cond (e9==0) (some (a8.2.2.2.1,0)) none) |.inr (.ret,a8)=>some (a8.2.1,a8.2.2.1)) none)
def a9d:FSem:=⟨[.v (.list false QL),.v (.list false Q12)],[.v (.list false QL),.v QI],b1E⟩
def d5z:Hints:=⟨[],[(6,[(.normal,[.sv 0 (.list false QL),.sv 1 (.list false Q12),.sv 18 .bool,.box 4 (.list false QL),.box 5 QI,.ptr 4 4 [],.ptr 5 5 []])])],[]⟩
def c9g:Cx:=a9P [(113,b1D),(114,b2L),(115,b2x),(116,b3m)] [(6,.list true (.list true QI))] [0,1] [29]
def d1y:HintR:=⟨21,Q12,186,242,[4,5,6],[.sv 21 (.list false Q12),.box 1001004 (.list false QL),.box 1001005 QI,.box 1001006 (.list true (.list true QI)),.ptr 4 1001004 [],.ptr 5 1001005 [],.ptr 6 1001006 []]⟩
theorem d2B(x):z0d c9g d5z d1y Tryz.f107 a9d.ps a9d.rs x=a9d.F x:=by kernel_rfl
def a4B(s:(b2o×(Int×(Int×((List (List Int))×c2P))))):Option ((b2o×(Int×(Int×((List (List Int))×c2P)))) ⊕ (((List (List Int))×c2P) ⊕ Z45)):= cond (decide (s.2.2.1<s.2.1)) ((m0h s.1 s.2.2.1).bind fun x3=> (b2b (x3,s.2.2.2.2.2.1.2.1)).bind fun y4=> cond (y4.2 != 0) (some (.inr (Sum.inr ((1,(0,([]:(List (List Int))),()),()))))) (cond (lim ((a02 s.2.2.2.1)+1)) (some (.inl (s.1,s.2.1,wrap .i64 (s.2.2.1+1),a03 s.2.2.2.1 ([y4.1]:List (List Int)),s.2.2.2.2.1,s.2.2.2.2.2.1,()))) none)) (some (.inr (Sum.inl (s.2.2.2.1,s.2.2.2.2.1,s.2.2.2.2.2.1,()))))
def a2p(x:a3w):Option Z27:= (show Option (Bool×c2P)from(a6T x).bind fun y1=> cond (!y1) (some (true,(0,([]:(List (List Int))),()),x,())) (some ((x.2.2.2.2.1.length:Int) != x.2.2.1.2.1,(0,([]:(List (List Int))),()),x,()))).bind fun z2=> cond z2.1 (some ((0,([]:(List (List Int))),()),1)) (cond ((decide (0≤(z2.2.2.1.2.2.2.2.1.length:Int)))&&(lim (a00 (z2.2.2.1.2.2.2.2.1.length:Int)))) ((y0o a4B (z2.2.2.1.2.2.2.2.1,(z2.2.2.1.2.2.2.2.1.length:Int),0,([]:(List (List Int))),z2.2.1,z2.2.2.1,())).bind fun w5=> match w5 with |.inl a6=>((b1E (a6.1,a6.2.2.1.2.2.2.1)).bind fun y8=> cond (y8.2 != 0) (some ((0,([]:(List (List Int))),()),1)) ((a4i (a6.2.2.1.2.2.1.2.2.1,y8.1,())).bind fun y9=> cond (!y9) (some ((0,([]:(List (List Int))),()),1)) (some ((a6.2.2.1.2.2.1.2.2.1,y8.1,()),0)))) |.inr b7=>some (b7.2.1,b7.1)) none)
def a9q:FSem:=⟨[.v Q60],[.v Q15,.v QI],a2p⟩
def H50:Hints:=⟨[(122,[.sv 30 (.list false Q42),.sv 31 QI,.sv 32 QI,.own 4 4 QL,.box 2 Q15,.vp 1 Q60,.ptr 2 2 []],[(.exit 0,[.own 4 4 QL,.box 2 Q15,.vp 1 Q60,.ptr 2 2 []]),(.ret,[.sv 3 QI,.box 2 Q15,.ptr 2 2 []])])],[(6,[(.normal,[.sv 23 .bool,.box 2 Q15,.vp 1 Q60,.ptr 2 2 []])])],[]⟩
def a4k(x:a3w):Option Bool:= (a2p x).bind fun y1=> some (y1.2==0)
def b4v:FSem:=⟨[.v Q60],[.v .bool],a4k⟩
def H61:Hints:=⟨[],[],[]⟩
def a9I(x:b4p):Option Bool:= (b2b (x.1,x.2)).bind fun y1=> some (y1.2==0)
def b6K:FSem:=⟨[.v Q42,.v QI],[.v .bool],a9I⟩
def d5A:Hints:=⟨[],[],[]⟩
def a2P(s:Z49):Option (Z49 ⊕ Z29):= cond (s.2.1 != 0) (cond (decide (s.1<32)) ((a1O (s.2.1,s.1)).bind fun y2=> cond (!y2) (some (.inl (wrap .i64 (s.1+1),s.2.1,s.2.2.1,s.2.2.2.1,s.2.2.2.2.1,()))) (some (.inr (s.1,s.2.2.1,s.2.2.2.1,s.2.2.2.2.1,())))) (some (.inr (s.1,s.2.2.1,s.2.2.2.1,s.2.2.2.2.1,())))) (some (.inr (s.1,s.2.2.1,s.2.2.2.1,s.2.2.2.2.1,())))
def a5O(s:Z29):Option Z64:= cond (decide (s.2.2.2.1<s.2.2.1)) ((m0h s.2.1 s.2.2.2.1).bind fun x1=> (y0o a2P (s.1,x1,s.2.1,s.2.2.1,s.2.2.2.1,())).bind fun w3=> some (.inl (w3.1,w3.2.1,w3.2.2.1,wrap .i64 (w3.2.2.2.1+1),()))) (some (.inr (s.1,())))
def a1r(x:(List Int)):Option Int:= (y0o a5O (0,x,(x.length:Int),0,())).bind fun w4=> some w4.1
def a2w:FSem:=⟨[.v QL],[.v QI],a1r⟩
def d5B:Hints:=⟨[(58,[.sv 3 QI,.sv 6 QL,.sv 7 QI,.sv 8 QI],[(.exit 0,[.sv 3 QI])]),(7474,[.sv 3 QI,.sv 5 QI,.sv 6 QL,.sv 7 QI,.sv 8 QI],[(.exit 2,[.sv 3 QI,.sv 6 QL,.sv 7 QI,.sv 8 QI])])],[],[]⟩
def a1Y(x:(Z6×Int)):Option Z6:= (show Option Z34 from cond ((a05 x.1.2.1 8)==0) (cond (lim ((a02 x.1.1)+1)) (some (x.2,(a03 x.1.1 [0],x.1.2),())) none) (some (x.2,x.1,()))).bind fun z1=> cond ((decide (0≤(wrap .i64 (a07 z1.2.1.2.1 8))))&&(decide ((wrap .i64 (a07 z1.2.1.2.1 8))<(z1.2.1.1.length:Int)))) (cond (decide ((wrap .i64 (7-(a05 z1.2.1.2.1 8)))<0)) none (cond ((decide (0≤(wrap .i64 (a07 z1.2.1.2.1 8))))&&(decide ((wrap .i64 (a07 z1.2.1.2.1 8))<(z1.2.1.1.length:Int)))) (some (a20 z1.2.1.1 (a00 (wrap .i64 (a07 z1.2.1.2.1 8))) (bits .u8 .or (a04 z1.2.1.1 (a00 (wrap .i64 (a07 z1.2.1.2.1 8))) 0) (A0j .u8 z1.1 (wrap .i64 (7-(a05 z1.2.1.2.1 8))))),wrap .i64 (z1.2.1.2.1+1),z1.2.1.2.2)) none)) none
def a5P:FSem:=⟨[.r false (.b Q9),.v (.int .u8)],[],a1Y⟩
def d5C:Hints:=⟨[],[(1,[(.normal,[.sv 1 (.int .u8),.box pinned Q9,.ptr 0 pinned []])])],[(2,[.p,.p,.q,.q,.p,.p,.q,.q,.v,.q,.q,.v,.p,.p,.q,.q,.v,.v,.v,.x,.x,.x])]⟩
def a4d(s:Z52):Option (Z52 ⊕ Z18):= cond (decide (s.2.1≥0)) (cond (decide (s.2.1<0)) none ((a1Y (s.2.2.1,wrap .u8 (bits .u64 .and (A0k .u64 s.1 s.2.1) 1))).bind fun y2=> some (.inl (s.1,wrap .i64 (s.2.1-1),y2,())))) (some (.inr (s.2.2.1,())))
def a0G(x:(Z6×Int×Int)):Option Z15:= (show Option (Int×Int×Bool×Z18)from cond (decide (x.2.2<0)) (some (x.2.1,x.2.2,true,x.1,())) (cond (decide (x.2.2 > 64)) (some (x.2.1,x.2.2,true,x.1,())) (cond (decide (x.2.2<0)) none (some (x.2.1,x.2.2,(A0k .u64 x.2.1 x.2.2) != 0,x.1,()))))).bind fun z1=> cond z1.2.2.1 (some (1,z1.2.2.2.1)) ((y0o a4d (z1.1,wrap .i64 (z1.2.1-1),z1.2.2.2.1,())).bind fun w3=> some (0,w3.1))
def a2Q:FSem:=⟨[.r false (.b Q9),.v (.int .u64),.v QI],[.v QI],a0G⟩
def d5D:Hints:=⟨[(58,[.sv 1 (.int .u64),.sv 7 QI,.box pinned Q9,.ptr 0 pinned []],[(.exit 0,[.box pinned Q9])])],[(6,[(.normal,[.sv 1 (.int .u64),.sv 2 QI,.sv 19 .bool,.box pinned Q9,.ptr 0 pinned []])])],[]⟩
def a2F(x:(Z6×Int×Int)):Option Z6:= cond (decide (x.2.2<0)) none ((a0G (x.1,bits .u64 .and (wrap .u64 x.2.1) (wrap .u64 ((A0j .u64 1 x.2.2)-1)),x.2.2)).bind fun y1=> some y1.2)
def a9Z:FSem:=⟨[.r false (.b Q9),.v QI,.v QI],[],a2F⟩
def d5E:Hints:=⟨[],[],[]⟩
def a5Q(s:Z87):Option (Z87 ⊕ Z18):= cond (decide (s.2.2.2.1<s.2.2.1)) ((m0h s.2.1 s.2.2.2.1).bind fun x6=> (a2F (s.2.2.2.2.1,x6,s.1)).bind fun y7=> some (.inl (s.1,s.2.1,s.2.2.1,wrap .i64 (s.2.2.2.1+1),y7,()))) (some (.inr (s.2.2.2.2.1,())))
def a8r(x:(Z6×a1R)):Option Z6:= (a0G (x.1,wrap .u64 (wrap .i64 ((x.2.2.2.2.2.2.1.length:Int)-1)),5)).bind fun y1=> (a0G (y1.2,wrap .u64 x.2.2.2.2.1,4)).bind fun y2=> (a1r x.2.2.2.2.2.2.1).bind fun y3=> (a0G (y2.2,wrap .u64 y3,5)).bind fun y4=> (y0o a5Q (y3,x.2.2.2.2.2.2.1,(x.2.2.2.2.2.2.1.length:Int),0,y4.2,())).bind fun w8=> some w8.1
def b4S:FSem:=⟨[.r false (.b Q9),.v Q42],[],a8r⟩
def d5F:Hints:=⟨[(254,[.sv 4 QI,.sv 27 QL,.sv 28 QI,.sv 29 QI,.box pinned Q9,.ptr 0 pinned []],[(.exit 0,[.box pinned Q9])])],[],[]⟩
def b3n(s:Z13):Option Z68:= cond (decide (s.2.2.1<s.2.1)) ((m0h s.1 s.2.2.1).bind fun x3=> (show Option Z33 from cond (decide (x3<(-1073741824))) (some (s.1,s.2.1,s.2.2.1,true,())) (some (s.1,s.2.1,s.2.2.1,decide (x3≥1073741824),()))).bind fun z4=> cond z4.2.2.2.1 (some (.inr (Sum.inr ((false,()))))) (some (.inl (z4.1,z4.2.1,wrap .i64 (z4.2.2.1+1),())))) (some (.inr (Sum.inl ())))
def a6Z(x:Z2):Option Bool:= (show Option ((List Int)×(Bool×Unit))from(a7q (x.1,x.2.1)).bind fun y1=> cond (!y1) (some (x.2.2,true,())) (some (x.2.2,(x.2.2.length:Int) != (wrap .i64 (x.1-x.2.1)),()))).bind fun z2=> cond z2.2.1 (some false) ((y0o b3n (z2.1,(z2.1.length:Int),0,())).bind fun w5=> match w5 with |.inl a6=>some true |.inr b7=>some b7.1)
def b2y:FSem:=⟨[.v QI,.v QI,.v QL],[.v .bool],a6Z⟩
def d5G:Hints:=⟨[(58,[.sv 21 QL,.sv 22 QI,.sv 23 QI],[(.exit 0,[]),(.ret,[.sv 6 .bool])])],[(6,[(.normal,[.sv 2 QL,.sv 20 .bool])]),(3737,[(.normal,[.sv 21 QL,.sv 22 QI,.sv 23 QI,.sv 32 .bool])])],[]⟩
def a5H(x:(List Int)):Option Int:= (a1r x).bind fun y1=> some (wrap .i64 (5+(wrap .i64 (y1*(x.length:Int)))))
def b4w:FSem:=⟨[.v QL],[.v QI],a5H⟩
def d5H:Hints:=⟨[],[],[]⟩
def a1K(x:Int):Option Bool:= cond (decide (0≤x)) (some (decide (x≤25))) (some false)
def a6B:FSem:=⟨[.v QI],[.v .bool],a1K⟩
def d5I:Hints:=⟨[],[],[]⟩
def a7t(x:Int):Option Bool:= cond (decide ((-1073741824)≤x)) (some (decide (x<1073741824))) (some false)
def b1F:FSem:=⟨[.v QI],[.v .bool],a7t⟩
def d5J:Hints:=⟨[],[],[]⟩
def a9e(x:Int):Option Int:= (a7t x).bind fun y1=> cond (!y1) (some 0) (cond (decide (x≥0)) (some (wrap .u64 (wrap .i64 (2*x)))) (some (wrap .u64 (wrap .i64 ((wrap .i64 ((-2)*x))-1)))))
def b4x:FSem:=⟨[.v QI],[.v (.int .u64)],a9e⟩
def d5K:Hints:=⟨[],[],[]⟩
def a7u(x:(Int×Int)):Option Int:= (show Option Z8 from(a1K x.1).bind fun y1=> cond (!y1) (some (x.1,x.2,true,())) ((a7t x.2).bind fun y2=> some (x.1,x.2,!y2,()))).bind fun z3=> cond z3.2.2.1 (some 0) ((a9e z3.2.1).bind fun y4=> cond (decide (z3.1<0)) none (cond (decide ((wrap .i64 (A0k .u64 y4 z3.1))<32)) (some (wrap .i64 ((wrap .i64 ((wrap .i64 (A0k .u64 y4 z3.1))+1))+z3.1))) (some 65)))
def b7O:FSem:=⟨[.v QI,.v QI],[.v QI],a7u⟩
def d5L:Hints:=⟨[],[(6,[(.normal,[.sv 0 QI,.sv 1 QI,.sv 13 .bool])])],[]⟩
def a3S(s:Z49):Option (Z49 ⊕ (Int×Unit)):= cond (decide (s.2.2.2.2.1<s.2.2.2.1)) ((m0h s.2.2.1 s.2.2.2.2.1).bind fun x1=> (a7u (s.1,x1)).bind fun y2=> some (.inl (s.1,wrap .i64 (s.2.1+y2),s.2.2.1,s.2.2.2.1,wrap .i64 (s.2.2.2.2.1+1),()))) (some (.inr (s.2.1,())))
def a3m(x:(Int×(List Int))):Option Int:= (y0o a3S (x.1,0,x.2,(x.2.length:Int),0,())).bind fun w3=> some w3.1
def b2O:FSem:=⟨[.v QI,.v QL],[.v QI],a3m⟩
def d5M:Hints:=⟨[(58,[.sv 0 QI,.sv 5 QI,.sv 8 QL,.sv 9 QI,.sv 10 QI],[(.exit 0,[.sv 5 QI])])],[],[]⟩
def a1t(s:((List Int)×(Int×(Int×(Int×((List Int)×Z17)))))):Option (((List Int)×(Int×(Int×(Int×((List Int)×Z17))))) ⊕ (Int×Unit)):= cond (decide (s.2.2.2.1<s.2.2.1)) (cond ((decide (0≤s.2.2.2.1))&&(decide (s.2.2.2.1<(s.2.2.2.2.1.length:Int)))) (cond ((decide (0≤(a04 s.2.2.2.2.1 (a00 s.2.2.2.1) 0)))&&(decide ((a04 s.2.2.2.2.1 (a00 s.2.2.2.1) 0)≤(s.1.length:Int)))) (cond ((decide (0≤(a04 s.2.2.2.2.1 (a00 s.2.2.2.1) 0)))&&(decide ((a04 s.2.2.2.2.1 (a00 s.2.2.2.1) 0)≤(s.1.length:Int)))) ((m0h s.2.2.2.2.2.1.2.1 s.2.2.2.1).bind fun x5=> cond (x5==31) ((a5H (a06 (a00 (a04 s.2.2.2.2.1 (a00 s.2.2.2.1) 0)) s.1)).bind fun y6=> some (.inl (a21 (a00 (a04 s.2.2.2.2.1 (a00 s.2.2.2.1) 0)) (a06 (a02 s.1) s.1),wrap .i64 (s.2.1+(wrap .i64 (5+y6))),s.2.2.1,wrap .i64 (s.2.2.2.1+1),s.2.2.2.2.1,s.2.2.2.2.2.1,()))) ((m0h s.2.2.2.2.2.1.2.1 s.2.2.2.1).bind fun x7=> (a3m (x7,a06 (a00 (a04 s.2.2.2.2.1 (a00 s.2.2.2.1) 0)) s.1)).bind fun y8=> some (.inl (a21 (a00 (a04 s.2.2.2.2.1 (a00 s.2.2.2.1) 0)) (a06 (a02 s.1) s.1),wrap .i64 (s.2.1+(wrap .i64 (5+y8))),s.2.2.1,wrap .i64 (s.2.2.2.1+1),s.2.2.2.2.1,s.2.2.2.2.2.1,())))) none) none) none) (some (.inr (s.2.1,())))
def a4C(x:(Z5×Z2)):Option Int:= (show Option (Int×(Int×((List Int)×(Bool×Z17))))from(a8Z (x.1,x.2.1,x.2.2.1)).bind fun y1=> cond (!y1) (some (x.2.1,x.2.2.1,x.2.2.2,true,x.1,())) ((a6Z (x.2.1,x.2.2.1,x.2.2.2)).bind fun y2=> some (x.2.1,x.2.2.1,x.2.2.2,!y2,x.1,()))).bind fun z3=> cond z3.2.2.2.1 (some 0) ((a2T (z3.2.2.2.2.1.1,z3.1,z3.2.1)).bind fun y4=> (y0o a1t (z3.2.2.1,4,(y4.length:Int),0,y4,z3.2.2.2.2.1,())).bind fun w9=> some w9.1)
def b3o:FSem:=⟨[.v Q11,.v QI,.v QI,.v QL],[.v QI],a4C⟩
def d5N:Hints:=⟨[(122,[.sv 3 QL,.sv 9 QI,.sv 30 QI,.sv 31 QI,.own 29 1029 QI,.vp 4 Q11],[(.exit 0,[.sv 9 QI])])],[(6,[(.normal,[.sv 1 QI,.sv 2 QI,.sv 3 QL,.sv 24 .bool,.vp 4 Q11])])],[]⟩
def a3n(s:Z52):Option (Z52 ⊕ Z18):= cond (decide (s.2.1<s.1)) ((a1Y (s.2.2.1,0)).bind fun y2=> some (.inl (s.1,wrap .i64 (s.2.1+1),y2,()))) (some (.inr (s.2.2.1,())))
def a2k(x:(Z6×Int)):Option Z15:= (show Option (Int×Bool×Z18)from cond (decide (x.2<0)) (some (x.2,true,x.1,())) (some (x.2,decide (x.2 > 4096),x.1,()))).bind fun z1=> cond z1.2.1 (some (1,z1.2.2.1)) ((y0o a3n (z1.1,0,z1.2.2.1,())).bind fun w3=> (a1Y (w3.1,1)).bind fun y4=> some (0,y4))
def b0Y:FSem:=⟨[.r false (.b Q9),.v QI],[.v QI],a2k⟩
def d5O:Hints:=⟨[(58,[.sv 11 QI,.sv 12 QI,.box pinned Q9,.ptr 0 pinned []],[(.exit 0,[.box pinned Q9,.ptr 0 pinned []])])],[(6,[(.normal,[.sv 1 QI,.sv 10 .bool,.box pinned Q9,.ptr 0 pinned []])])],[]⟩
def a9r(s:(Int×((List Int)×Z77))):Option ((Int×((List Int)×Z77)) ⊕ ((Int×((List Int)×Z18)) ⊕ Z34)):= cond (decide (s.2.2.2.2.1<s.2.2.2.1)) ((m0h s.2.2.1 s.2.2.2.2.1).bind fun x2=> (a7t x2).bind fun y3=> cond (!y3) (some (.inr (Sum.inr ((1,s.2.2.2.2.2.1,()))))) (some (.inl (s.1,s.2.1,s.2.2.1,s.2.2.2.1,wrap .i64 (s.2.2.2.2.1+1),s.2.2.2.2.2.1,())))) (some (.inr (Sum.inl (s.1,s.2.1,s.2.2.2.2.2.1,()))))
def a7a(s:Z87):Option (Z87 ⊕ Z18):= cond (decide (s.2.2.2.1<s.2.2.1)) ((m0h s.2.1 s.2.2.2.1).bind fun x7=> (a9e x7).bind fun y8=> cond (decide (s.1<0)) none (cond (decide ((A0k .u64 y8 s.1)<32)) ((a2k (s.2.2.2.2.1,wrap .i64 (A0k .u64 y8 s.1))).bind fun y9=> cond (decide (s.1<0)) none ((a0G (y9.2,wrap .u64 (y8-(A0j .u64 (A0k .u64 y8 s.1) s.1)),s.1)).bind fun y10=> some (.inl (s.1,s.2.1,s.2.2.1,wrap .i64 (s.2.2.2.1+1),y10.2,())))) ((a2k (s.2.2.2.2.1,32)).bind fun y11=> (a0G (y11.2,y8,32)).bind fun y12=> some (.inl (s.1,s.2.1,s.2.2.1,wrap .i64 (s.2.2.2.1+1),y12.2,()))))) (some (.inr (s.2.2.2.2.1,())))
def b2P(x:(Z6×(Int×(List Int)))):Option Z15:= (a1K x.2.1).bind fun y1=> cond (!y1) (some (1,x.1)) ((y0o a9r (x.2.1,x.2.2,x.2.2,(x.2.2.length:Int),0,x.1,())).bind fun w4=> match w4 with |.inl a5=>((y0o a7a (a5.1,a5.2.1,(a5.2.1.length:Int),0,a5.2.2.1,())).bind fun w13=> some (0,w13.1)) |.inr b6=>some (b6.1,b6.2.1))
def b9i:FSem:=⟨[.r false (.b Q9),.v QI,.v QL],[.v QI],b2P⟩
def d5P:Hints:=⟨[(58,[.sv 1 QI,.sv 2 QL,.sv 16 QL,.sv 17 QI,.sv 18 QI,.box pinned Q9,.ptr 0 pinned []],[(.exit 0,[.sv 1 QI,.sv 2 QL,.box pinned Q9,.ptr 0 pinned []]),(.ret,[.sv 6 QI,.box pinned Q9])]),(122,[.sv 1 QI,.sv 26 QL,.sv 27 QI,.sv 28 QI,.box pinned Q9,.ptr 0 pinned []],[(.exit 2,[.box pinned Q9])])],[],[]⟩
def a8s(s:((List Int)×(Int×Int×Int×c2N))):Option (((List Int)×(Int×Int×Int×c2N)) ⊕ c2N):= cond (decide (s.2.2.2.2.2.2.1<s.2.2.2.2.2.1)) ((m0h s.2.2.2.2.1 s.2.2.2.2.2.2.1).bind fun x11=> cond (decide (s.2.1<0)) none ((a0G (s.2.2.2.2.2.2.2.2.1,bits .u64 .and (wrap .u64 x11) (wrap .u64 ((A0j .u64 1 s.2.1)-1)),s.2.1)).bind fun y12=> some (.inl (s.1,s.2.1,s.2.2.1,s.2.2.2.1,s.2.2.2.2.1,s.2.2.2.2.2.1,wrap .i64 (s.2.2.2.2.2.2.1+1),s.2.2.2.2.2.2.2.1,y12.2,s.2.2.2.2.2.2.2.2.2.1,())))) (some (.inr (s.1,s.2.2.1,s.2.2.2.1,s.2.2.2.2.2.2.2.1,s.2.2.2.2.2.2.2.2.1,s.2.2.2.2.2.2.2.2.2.1,())))
def a4u(s:c2N):Option (c2N ⊕ Z18):= cond (decide (s.2.2.1<s.2.1)) (cond ((decide (0≤s.2.2.1))&&(decide (s.2.2.1<(s.2.2.2.1.length:Int)))) (cond ((decide (0≤(a04 s.2.2.2.1 (a00 s.2.2.1) 0)))&&(decide ((a04 s.2.2.2.1 (a00 s.2.2.1) 0)≤(s.1.length:Int)))) (cond ((decide (0≤(a04 s.2.2.2.1 (a00 s.2.2.1) 0)))&&(decide ((a04 s.2.2.2.1 (a00 s.2.2.1) 0)≤(s.1.length:Int)))) ((m0h s.2.2.2.2.2.1.2.1 s.2.2.1).bind fun x4=> (a0G (s.2.2.2.2.1,wrap .u64 x4,5)).bind fun y5=> (m0h s.2.2.2.2.2.1.2.1 s.2.2.1).bind fun x6=> cond (x6 != 31) ((m0h s.2.2.2.2.2.1.2.1 s.2.2.1).bind fun x7=> (b2P (y5.2,x7,a06 (a00 (a04 s.2.2.2.1 (a00 s.2.2.1) 0)) s.1)).bind fun y8=> some (.inl (a21 (a00 (a04 s.2.2.2.1 (a00 s.2.2.1) 0)) (a06 (a02 s.1) s.1),s.2.1,wrap .i64 (s.2.2.1+1),s.2.2.2.1,y8.2,s.2.2.2.2.2.1,()))) ((a1r (a06 (a00 (a04 s.2.2.2.1 (a00 s.2.2.1) 0)) s.1)).bind fun y9=> (a0G (y5.2,wrap .u64 y9,5)).bind fun y10=> (y0o a8s (a21 (a00 (a04 s.2.2.2.1 (a00 s.2.2.1) 0)) (a06 (a02 s.1) s.1),y9,s.2.1,s.2.2.1,a06 (a00 (a04 s.2.2.2.1 (a00 s.2.2.1) 0)) s.1,((a02 (a06 (a00 (a04 s.2.2.2.1 (a00 s.2.2.1) 0)) s.1):Nat):Int),0,s.2.2.2.1,y10.2,s.2.2.2.2.2.1,())).bind fun w13=> some (.inl (w13.1,w13.2.1,wrap .i64 (w13.2.2.1+1),w13.2.2.2.1,w13.2.2.2.2.1,w13.2.2.2.2.2.1,())))) none) none) none) (some (.inr (s.2.2.2.2.1,())))
def b1G(x:(Z6×Z5×Z2)):Option Z15:= (a4C (x.2.1,x.2.2.1,x.2.2.2.1,x.2.2.2.2)).bind fun y1=> cond (y1==0) (some (1,x.1)) ((a0G (x.1,wrap .u64 x.2.1.1,4)).bind fun y2=> (a2T (x.2.1.1,x.2.2.1,x.2.2.2.1)).bind fun y3=> (y0o a4u (x.2.2.2.2,(y3.length:Int),0,y3,y2.2,x.2.1,())).bind fun w14=> some (0,w14.1))
def b7P:FSem:=⟨[.r false (.b Q9),.v Q11,.v QI,.v QI,.v QL],[.v QI],b1G⟩
def d5Q:Hints:=⟨[(122,[.sv 4 QL,.sv 33 QI,.sv 34 QI,.own 32 1032 QI,.box pinned Q9,.ptr 0 pinned [],.vp 6 Q11],[(.exit 0,[.box pinned Q9])]),(2005502,[.sv 4 QL,.sv 14 QI,.sv 33 QI,.sv 34 QI,.sv 73 QL,.sv 74 QI,.sv 75 QI,.own 32 1032 QI,.box pinned Q9,.ptr 0 pinned [],.vp 6 Q11],[(.exit 2,[.sv 4 QL,.sv 33 QI,.sv 34 QI,.own 32 1032 QI,.box pinned Q9,.ptr 0 pinned [],.vp 6 Q11])])],[],[]⟩
def b0A(s:(Int×(Int×((List Int)×c5n)))):Option ((Int×(Int×((List Int)×c5n))) ⊕ b4q):= cond (decide (s.2.2.2.1<3)) ((m0h s.2.2.1 s.2.2.2.1).bind fun x8=> (a2F (s.2.2.2.2.1,x8,8)).bind fun y9=> some (.inl (s.1,s.2.1,s.2.2.1,wrap .i64 (s.2.2.2.1+1),y9,s.2.2.2.2.2.1,()))) (some (.inr (s.1,s.2.1,s.2.2.2.2.1,s.2.2.2.2.2.1,())))
def b0B(s:(Int×Int×Z4×b4q)):Option ((Int×Int×Z4×b4q) ⊕ b4q):= cond (decide (s.2.2.2.2.1<s.2.2.2.1)) ((m0h s.2.2.1 s.2.2.2.2.1).bind fun x18=> (a0G (s.2.2.2.2.2.1,wrap .u64 (wrap .i64 (x18.1-1)),5)).bind fun y19=> (a0G (y19.2,wrap .u64 x18.2.1,4)).bind fun y20=> some (.inl (s.1,s.2.1,s.2.2.1,s.2.2.2.1,wrap .i64 (s.2.2.2.2.1+1),y20.2,s.2.2.2.2.2.2.1,()))) (some (.inr (s.1,s.2.1,s.2.2.2.2.2.1,s.2.2.2.2.2.2.1,())))
def b0C(s:(Int×(Int×((List Int)×b4q)))):Option ((Int×(Int×((List Int)×b4q))) ⊕ c5n):= cond (decide (s.2.2.2.2.1<s.2.2.2.1)) ((m0h s.2.2.1 s.2.2.2.2.1).bind fun x23=> (a2F (s.2.2.2.2.2.1,x23,s.2.1)).bind fun y24=> some (.inl (s.1,s.2.1,s.2.2.1,s.2.2.2.1,wrap .i64 (s.2.2.2.2.1+1),y24,s.2.2.2.2.2.2.1,()))) (some (.inr (s.1,s.2.2.2.2.2.1,s.2.2.2.2.2.2.1,())))
def a9J(x:(Z6×b4p)):Option Z15:= (a9I (x.2.1,x.2.2)).bind fun y1=> cond (!y1) (some (1,x.1)) ((a1r x.2.1.2.2.2.2.2.2.2.2.1).bind fun y2=> (a0G (x.1,wrap .u64 x.2.1.1,3)).bind fun y3=> (a0G (y3.2,wrap .u64 x.2.1.2.1,5)).bind fun y4=> (a0G (y4.2,wrap .u64 y2,5)).bind fun y5=> (show Option b4q from(show Option (b4q ⊕ (b4q ⊕ b4q))from cond (x.2.1.1==2) ((a0G (y5.2,wrap .u64 x.2.1.2.2.1,3)).bind fun y6=> some (Sum.inr (Sum.inl (x.2.2,y2,y6.2,x.2.1,())))) (cond (x.2.1.1==4) ((a0G (y5.2,wrap .u64 (wrap .i64 (x.2.1.2.2.2.2.1-1)),10)).bind fun y7=> (y0o b0A (x.2.2,y2,x.2.1.2.2.2.2.2.2.1,0,y7.2,x.2.1,())).bind fun w10=> some (Sum.inl (w10.1,w10.2.1,w10.2.2.1,w10.2.2.2.1,()))) (cond (x.2.1.1==3) (some (Sum.inl (x.2.2,y2,y5.2,x.2.1,()))) (cond (x.2.1.1==5) (some (Sum.inr (Sum.inr ((x.2.2,y2,y5.2,x.2.1,()))))) (some (Sum.inr (Sum.inl (x.2.2,y2,y5.2,x.2.1,())))))))).bind fun z11=> match z11 with |.inl a12=>((a8r (a12.2.2.1,a12.2.2.2.1)).bind fun y14=> some (a12.1,a12.2.1,y14,a12.2.2.2.1,())) |.inr b13=>(match b13 with |.inl a15=>some (a15.1,a15.2.1,a15.2.2.1,a15.2.2.2.1,()) |.inr b16=>((a0G (b16.2.2.1,wrap .u64 (b16.2.2.2.1.2.2.2.2.2.2.2.1.length:Int),2)).bind fun y17=> (y0o b0B (b16.1,b16.2.1,b16.2.2.2.1.2.2.2.2.2.2.2.1,(b16.2.2.2.1.2.2.2.2.2.2.2.1.length:Int),0,y17.2,b16.2.2.2.1,())).bind fun w21=> some (w21.1,w21.2.1,w21.2.2.1,w21.2.2.2.1,())))).bind fun z22=> (y0o b0C (z22.1,z22.2.1,z22.2.2.2.1.2.2.2.2.2.2.2.2.1,(z22.2.2.2.1.2.2.2.2.2.2.2.2.1.length:Int),0,z22.2.2.1,z22.2.2.2.1,())).bind fun w25=> (a5Y w25.2.2.1.1).bind fun y26=> cond (!y26) (some (0,w25.2.1)) ((b1G (w25.2.1,w25.2.2.1.2.2.2.2.2.2.2.2.2.1,w25.1,(w25.2.2.1.2.2.2.2.2.2.2.2.1.length:Int),w25.2.2.1.2.2.2.2.2.2.2.2.2.2.1)).bind fun y27=> some (y27.1,y27.2)))
def b6L:FSem:=⟨[.r false (.b Q9),.v Q42,.v QI],[.v QI],a9J⟩
def H62:Hints:=⟨[(2042,[.sv 2 QI,.sv 7 QI,.sv 94 QL,.sv 95 QI,.sv 96 QI,.box pinned Q9,.ptr 0 pinned [],.vp 4 Q42],[(.exit 9,[.sv 2 QI,.box pinned Q9,.ptr 0 pinned [],.vp 4 Q42])]),(32598,[.sv 2 QI,.sv 7 QI,.sv 75 (.list false Q3),.sv 76 QI,.sv 77 QI,.box pinned Q9,.ptr 0 pinned [],.vp 4 Q42],[(.exit 7,[.sv 2 QI,.sv 7 QI,.box pinned Q9,.ptr 0 pinned [],.vp 4 Q42])]),(260622,[.sv 2 QI,.sv 7 QI,.sv 57 (.arr 3 QI),.sv 58 QI,.box pinned Q9,.ptr 0 pinned [],.vp 4 Q42],[(.exit 5,[.sv 2 QI,.sv 7 QI,.box pinned Q9,.ptr 0 pinned [],.vp 4 Q42])])],[(127,[(.normal,[.sv 2 QI,.sv 7 QI,.box pinned Q9,.ptr 0 pinned [],.vp 4 Q42])]),(4072,[(.normal,[.sv 2 QI,.sv 7 QI,.box pinned Q9,.ptr 0 pinned [],.vp 4 Q42]),(.exit 0,[.sv 2 QI,.sv 7 QI,.box pinned Q9,.ptr 0 pinned [],.vp 4 Q42]),(.exit 4,[.sv 2 QI,.sv 7 QI,.box pinned Q9,.ptr 0 pinned [],.vp 4 Q42])])],[]⟩
def a3o(s:Z18):Option (Z18 ⊕ Z18):= cond ((a05 s.1.2.1 8) != 0) ((a1Y (s.1,0)).bind fun y2=> some (.inl (y2,()))) (some (.inr (s.1,())))
def a4P(x:Z6):Option Z6:= (y0o a3o (x,())).bind fun w3=> some w3.1
def b0Z:FSem:=⟨[.r false (.b Q9)],[],a4P⟩
def H63:Hints:=⟨[(2,[.box pinned Q9,.ptr 0 pinned []],[(.exit 0,[.box pinned Q9])])],[],[]⟩
def a4Q(x:Z6):Option ((List Int)×Z6):= cond (lim (a02 x.1)) (some (x.1,x)) none
def b1a:FSem:=⟨[.r false (.b Q9)],[.o (.int .u8)],a4Q⟩
def H64:Hints:=⟨[],[],[]⟩
def a8t(s:Z57):Option (Z57 ⊕ Z57):= cond (decide (s.1≥128)) (cond (lim ((a02 s.2.2.2.2.1)+1)) (some (.inl (wrap .u64 (a07 s.1 128),s.2.1,s.2.2.1,s.2.2.2.1,a03 s.2.2.2.2.1 [wrap .u8 ((wrap .u8 (a05 s.1 128))+128)],()))) none) (some (.inr (s.1,s.2.1,s.2.2.1,s.2.2.2.1,s.2.2.2.2.1,())))
def a8u(s:Z40):Option (Z40 ⊕ ((List Int)×Unit)):= cond (decide (s.2.2.1<s.2.1)) ((m0h s.1 s.2.2.1).bind fun x1=> (y0o a8t (x1,s.1,s.2.1,s.2.2.1,s.2.2.2.1,())).bind fun w2=> cond (lim ((a02 w2.2.2.2.2.1)+1)) (some (.inl (w2.2.1,w2.2.2.1,wrap .i64 (w2.2.2.2.1+1),a03 w2.2.2.2.2.1 [wrap .u8 w2.1],()))) none) (some (.inr (s.2.2.2.1,())))
def a9f(x:(List Int)):Option (List Int):= (y0o a8u (x,(x.length:Int),0,[],())).bind fun w3=> some w3.1
def b4y:FSem:=⟨[.v (.list false (.int .u64))],[.o (.int .u8)],a9f⟩
def H88:Hints:=⟨[(58,[.sv 6 (.list false (.int .u64)),.sv 7 QI,.sv 8 QI,.own 3 3 (.int .u8)],[(.exit 0,[.own 3 3 (.int .u8)])]),(14948,[.sv 5 (.int .u64),.sv 6 (.list false (.int .u64)),.sv 7 QI,.sv 8 QI,.own 3 3 (.int .u8)],[(.exit 2,[.sv 5 (.int .u64),.sv 6 (.list false (.int .u64)),.sv 7 QI,.sv 8 QI,.own 3 3 (.int .u8)])])],[],[]⟩
def b1H(x:Int):Option Int:= cond (decide (x≥0)) (some (wrap .u64 (2*(wrap .u64 x)))) (some (wrap .u64 ((wrap .u64 (2*(wrap .u64 (wrap .i64 (0-(wrap .i64 (x+1)))))))+1)))
def b7Q:FSem:=⟨[.v QI],[.v (.int .u64)],b1H⟩
def d5R:Hints:=⟨[],[],[]⟩
def b0D(s:Z51):Option (Z51 ⊕ Z29):= cond (decide (s.2.2.2.2.1<8)) (cond ((A0k .u8 s.1 7)==1) (some (.inl (bits .u8 .xor (A0j .u8 s.1 1) 7,s.2.1,s.2.2.1,s.2.2.2.1,wrap .i64 (s.2.2.2.2.1+1),()))) (some (.inl (A0j .u8 s.1 1,s.2.1,s.2.2.1,s.2.2.2.1,wrap .i64 (s.2.2.2.2.1+1),())))) (some (.inr (s.1,s.2.1,s.2.2.1,s.2.2.2.1,())))
def a7F(s:Z29):Option Z64:= cond (decide (s.2.2.2.1<s.2.2.1)) ((m0h s.2.1 s.2.2.2.1).bind fun x1=> (y0o b0D (bits .u8 .xor s.1 x1,s.2.1,s.2.2.1,s.2.2.2.1,0,())).bind fun w2=> some (.inl (w2.1,w2.2.1,w2.2.2.1,wrap .i64 (w2.2.2.2.1+1),()))) (some (.inr (s.1,())))
def a7T(x:(List Int)):Option Int:= (y0o a7F (0,x,(x.length:Int),0,())).bind fun w3=> some w3.1
def b3p:FSem:=⟨[.v (.list false (.int .u8))],[.v (.int .u8)],a7T⟩
def d5S:Hints:=⟨[(58,[.sv 3 (.int .u8),.sv 7 (.list false (.int .u8)),.sv 8 QI,.sv 9 QI],[(.exit 0,[.sv 3 (.int .u8)])]),(29902,[.sv 3 (.int .u8),.sv 7 (.list false (.int .u8)),.sv 8 QI,.sv 9 QI,.sv 16 QI],[(.exit 2,[.sv 3 (.int .u8),.sv 7 (.list false (.int .u8)),.sv 8 QI,.sv 9 QI])])],[],[]⟩
def a5l(s:(Int×Z12×Z14)):Option ((Int×Z12×Z14) ⊕ Z5):= cond (decide (s.2.2.2.1<s.2.2.1)) ((m0h s.2.1 s.2.2.2.1).bind fun x1=> (b1H x1.2.2.1).bind fun y2=> cond (lim ((a02 s.2.2.2.2.1)+3)) (some (.inl (s.1,s.2.1,s.2.2.1,wrap .i64 (s.2.2.2.1+1),a03 s.2.2.2.2.1 [wrap .u64 x1.1,wrap .u64 x1.2.1,y2],()))) none) (some (.inr (s.1,s.2.2.2.2.1,())))
def a7G(x:(a3w×Int)):Option (List Int):= (y0o a5l (x.2,x.1.2.2.2.1,(x.1.2.2.2.1.length:Int),0,([wrap .u64 x.1.1,wrap .u64 x.1.2.1,wrap .u64 x.1.2.2.1.1,wrap .u64 x.1.2.2.1.2.1,wrap .u64 x.1.2.2.1.2.2.1,wrap .u64 (x.1.2.2.2.1.length:Int)]:List Int),())).bind fun w3=> cond (lim ((a02 w3.2.1)+1)) ((a9f (a03 w3.2.1 [wrap .u64 w3.1])).bind fun y4=> cond (lim (2+(a02 y4))) ((a7T (a03 [245,75] y4)).bind fun y5=> cond (lim ((a02 (a03 [245,75] y4))+1)) (some (a03 (a03 [245,75] y4) [y5])) none) none) none
def b3U:FSem:=⟨[.v Q60,.v QI],[.o (.int .u8)],a7G⟩
def H65:Hints:=⟨[(58,[.sv 1 QI,.sv 33 (.list false Q12),.sv 34 QI,.sv 35 QI,.own 5 5 (.int .u64)],[(.exit 0,[.sv 1 QI,.own 5 5 (.int .u64)])])],[],[(5,[.q,.q,.q,.v,.q,.q,.v,.q,.q,.v,.q,.x,.x])]⟩
def a2U(x:Int):Option Int:= some (v0o (v0n x 0) 8)
def b2z:FSem:=⟨[.v QI],[.v QI],a2U⟩
def d5T:Hints:=⟨[],[],[]⟩
def a1L(s:Z31):Option (Z31 ⊕ ((List Int)×Unit)):= cond (decide (s.2.2.1<s.2.1)) (cond (lim ((a02 s.2.2.2.1)+1)) (some (.inl (wrap .u64 (a07 s.1 256),s.2.1,wrap .i64 (s.2.2.1+1),a03 s.2.2.2.1 [wrap .u8 (a05 s.1 256)],()))) none) (some (.inr (s.2.2.2.1,())))
def a5c(x:(Int×Int)):Option (List Int):= (a2U x.2).bind fun y1=> (y0o a1L (x.1,y1,0,[],())).bind fun w2=> some w2.1
def b6q:FSem:=⟨[.v (.int .u64),.v QI],[.o (.int .u8)],a5c⟩
def d5U:Hints:=⟨[(58,[.sv 0 (.int .u64),.sv 7 QI,.sv 8 QI,.own 5 5 (.int .u8)],[(.exit 0,[.own 5 5 (.int .u8)])])],[],[]⟩
def a1J(x:(List Int)):Option (List Int):= cond (decide (a02 x<2147483648)) (some (List.reverse x)) none
def a5N:FSem:=⟨[.r false (.o (.int .u8))],[],a1J⟩
def a4l(x:(Int×Int)):Option (List Int):= (a5c (x.1,x.2)).bind fun y1=> (a1J y1).bind fun y2=> some y2
def b4z:FSem:=⟨[.v (.int .u64),.v QI],[.o (.int .u8)],a4l⟩
def H66:Hints:=⟨[],[],[]⟩
def a8O(s:Z51):Option (Z51 ⊕ Z29):= cond (decide (s.2.2.2.2.1<8)) (cond ((A0k .u16 s.1 15)==1) (some (.inl (bits .u16 .xor (A0j .u16 s.1 1) 32773,s.2.1,s.2.2.1,s.2.2.2.1,wrap .i64 (s.2.2.2.2.1+1),()))) (some (.inl (A0j .u16 s.1 1,s.2.1,s.2.2.1,s.2.2.2.1,wrap .i64 (s.2.2.2.2.1+1),())))) (some (.inr (s.1,s.2.1,s.2.2.1,s.2.2.2.1,())))
def a5R(s:Z29):Option Z64:= cond (decide (s.2.2.2.1<s.2.2.1)) ((m0h s.2.1 s.2.2.2.1).bind fun x1=> (y0o a8O (bits .u16 .xor s.1 (A0j .u16 (wrap .u16 x1) 8),s.2.1,s.2.2.1,s.2.2.2.1,0,())).bind fun w2=> some (.inl (w2.1,w2.2.1,w2.2.2.1,wrap .i64 (w2.2.2.2.1+1),()))) (some (.inr (s.1,())))
def a6d(x:(List Int)):Option Int:= (y0o a5R (0,x,(x.length:Int),0,())).bind fun w3=> some w3.1
def b1g:FSem:=⟨[.v (.list false (.int .u8))],[.v (.int .u16)],a6d⟩
def H67:Hints:=⟨[(58,[.sv 3 (.int .u16),.sv 7 (.list false (.int .u8)),.sv 8 QI,.sv 9 QI],[(.exit 0,[.sv 3 (.int .u16)])]),(29902,[.sv 3 (.int .u16),.sv 7 (.list false (.int .u8)),.sv 8 QI,.sv 9 QI,.sv 18 QI],[(.exit 2,[.sv 3 (.int .u16),.sv 7 (.list false (.int .u8)),.sv 8 QI,.sv 9 QI])])],[],[]⟩
def a8v(s:(b2o×Int×Int×Z6×b4r)):Option ((b2o×Int×Int×Z6×b4r) ⊕ ((Z6×b4r) ⊕ Z5)):= cond (decide (s.2.2.1<s.2.1)) ((m0h s.1 s.2.2.1).bind fun x2=> (a9J (s.2.2.2.1,x2,s.2.2.2.2.1.2.1)).bind fun y3=> cond (y3.1 != 0) (some (.inr (Sum.inr ((y3.1,[],()))))) (some (.inl (s.1,s.2.1,wrap .i64 (s.2.2.1+1),y3.2,s.2.2.2.2.1,())))) (some (.inr (Sum.inl (s.2.2.2.1,s.2.2.2.2.1,()))))
def a3p(x:a3w):Option ((List Int)×Int):= (a4k x).bind fun y1=> cond (!y1) (some ([],1)) ((y0o a8v (x.2.2.2.2.1,(x.2.2.2.2.1.length:Int),0,([],0,()),x,())).bind fun w4=> match w4 with |.inl a5=>((a4P a5.1).bind fun y7=> (a4Q y7).bind fun y8=> (a7G (a5.2.1,(y8.1.length:Int))).bind fun y9=> cond (lim ((a02 y9)+(a02 y8.1))) ((a6d (a03 y9 y8.1)).bind fun y10=> (a4l (wrap .u64 y10,2)).bind fun y11=> cond (lim ((a02 (a03 y9 y8.1))+(a02 y11))) (some (a03 (a03 y9 y8.1) y11,0)) none) none) |.inr b6=>some (b6.2.1,b6.1))
def b4A:FSem:=⟨[.v Q60],[.o (.int .u8),.v QI],a3p⟩
def H19:Hints:=⟨[(122,[.sv 14 (.list false Q42),.sv 15 QI,.sv 16 QI,.box 4 Q9,.vp 1 Q60,.ptr 4 4 []],[(.exit 0,[.box 4 Q9,.vp 1 Q60,.ptr 4 4 []]),(.ret,[.sv 3 QI,.own 2 2 (.int .u8)])])],[],[]⟩
def a5S(x:(Int×Int)):Option (Int×Int):= some (wrap .u64 ((wrap .u64 ((wrap .u64 ((A0k .u64 x.1 32)*(A0k .u64 x.2 32)))+(A0k .u64 (wrap .u64 ((wrap .u64 ((A0k .u64 x.1 32)*(bits .u64 .and x.2 4294967295)))+(A0k .u64 (wrap .u64 ((bits .u64 .and x.1 4294967295)*(bits .u64 .and x.2 4294967295))) 32))) 32)))+(A0k .u64 (wrap .u64 ((bits .u64 .and (wrap .u64 ((wrap .u64 ((A0k .u64 x.1 32)*(bits .u64 .and x.2 4294967295)))+(A0k .u64 (wrap .u64 ((bits .u64 .and x.1 4294967295)*(bits .u64 .and x.2 4294967295))) 32))) 4294967295)+(wrap .u64 ((bits .u64 .and x.1 4294967295)*(A0k .u64 x.2 32))))) 32)),wrap .u64 (x.1*x.2))
def b2D:FSem:=⟨[.v (.int .u64),.v (.int .u64)],[.v (.int .u64),.v (.int .u64)],a5S⟩
def d5V:Hints:=⟨[],[],[]⟩
def a8P(x:(Int×Int×Int)):Option (Int×Int):= cond (decide (x.2.2.toNat≤1)) (some ((((x.1.toNat+x.2.1.toNat+x.2.2.toNat)%18446744073709551616:Nat):Int),(((x.1.toNat+x.2.1.toNat+x.2.2.toNat) / 18446744073709551616:Nat):Int))) none
def b2E:FSem:=⟨[.v (.int .u64),.v (.int .u64),.v (.int .u64)],[.v (.int .u64),.v (.int .u64)],a8P⟩
def d1z:Hints:=⟨[],[(3,[(.normal,[.sv 0 (.int .u64),.sv 2 QI])]),(7,[(.normal,[.sv 0 (.int .u64),.sv 2 QI])]),(15,[(.normal,[.sv 0 (.int .u64),.sv 2 QI])])],[]⟩
def b2F(x:Int):Option Int:=A0f (a9P [] [] [0,2] []) d1z Tryz.f324 [.v (.int .u64)] [.v (.int .i64)] x
def b2G:FSem:=⟨[.v (.int .u64)],[.v QI],b2F⟩
def a3T(x:Int):Option Int:= (b2F x).bind fun y1=> some (wrap .i64 (64-y1))
def a7b:FSem:=⟨[.v (.int .u64)],[.v QI],a3T⟩
def d5W:Hints:=⟨[],[],[]⟩
def a1T(s:Z89):Option (Z89 ⊕ Z80):= (show Option (Z89 ⊕ Z80)from cond (decide (s.2.2.2.2.2.2.2.1≥4294967296)) (some (Sum.inl (s.1,s.2.1,s.2.2.1,s.2.2.2.1,s.2.2.2.2.1,s.2.2.2.2.2.1,s.2.2.2.2.2.2.1,s.2.2.2.2.2.2.2.1,s.2.2.2.2.2.2.2.2.1,()))) (cond (decide ((wrap .u64 (s.2.2.2.2.2.2.2.1*s.2.2.2.1)) > (wrap .u64 ((wrap .u64 (4294967296*s.2.2.2.2.2.2.2.2.1))+s.2.2.2.2.2.1)))) (some (Sum.inl (s.1,s.2.1,s.2.2.1,s.2.2.2.1,s.2.2.2.2.1,s.2.2.2.2.2.1,s.2.2.2.2.2.2.1,s.2.2.2.2.2.2.2.1,s.2.2.2.2.2.2.2.2.1,()))) (some (Sum.inr ((s.1,s.2.1,s.2.2.1,s.2.2.2.1,s.2.2.2.2.1,s.2.2.2.2.2.1,s.2.2.2.2.2.2.1,s.2.2.2.2.2.2.2.1,())))))).bind fun z2=> match z2 with |.inl a3=>(cond (decide ((wrap .u64 (a3.2.2.2.2.2.2.2.2.1+a3.2.2.1))≥4294967296)) (some (.inr (a3.1,a3.2.1,a3.2.2.1,a3.2.2.2.1,a3.2.2.2.2.1,a3.2.2.2.2.2.1,a3.2.2.2.2.2.2.1,wrap .u64 (a3.2.2.2.2.2.2.2.1-1),()))) (some (.inl (a3.1,a3.2.1,a3.2.2.1,a3.2.2.2.1,a3.2.2.2.2.1,a3.2.2.2.2.2.1,a3.2.2.2.2.2.2.1,wrap .u64 (a3.2.2.2.2.2.2.2.1-1),wrap .u64 (a3.2.2.2.2.2.2.2.2.1+a3.2.2.1),())))) |.inr b4=>some (.inr (b4.1,b4.2.1,b4.2.2.1,b4.2.2.2.1,b4.2.2.2.2.1,b4.2.2.2.2.2.1,b4.2.2.2.2.2.2.1,b4.2.2.2.2.2.2.2.1,()))
end Go.Ab
namespace Go.Ab
open IntKind(wrap)
open Go.Proofs
set_option maxRecDepth 100000
set_option linter.unusedVariables false
def a1U(s:Z89):Option (Z89 ⊕ Z53):= (show Option (Z89 ⊕ Z53)from cond (decide (s.2.2.2.2.2.2.2.2.1≥4294967296)) (some (Sum.inl (s.1,s.2.1,s.2.2.1,s.2.2.2.1,s.2.2.2.2.1,s.2.2.2.2.2.1,s.2.2.2.2.2.2.1,s.2.2.2.2.2.2.2.1,s.2.2.2.2.2.2.2.2.1,()))) (cond (decide ((wrap .u64 (s.2.2.2.2.2.2.2.2.1*s.2.2.2.1)) > (wrap .u64 ((wrap .u64 (4294967296*s.2.2.2.2.2.2.1))+s.2.2.2.2.1)))) (some (Sum.inl (s.1,s.2.1,s.2.2.1,s.2.2.2.1,s.2.2.2.2.1,s.2.2.2.2.2.1,s.2.2.2.2.2.2.1,s.2.2.2.2.2.2.2.1,s.2.2.2.2.2.2.2.2.1,()))) (some (Sum.inr ((s.1,s.2.1,s.2.2.2.2.1,s.2.2.2.2.2.1,s.2.2.2.2.2.2.2.1,s.2.2.2.2.2.2.2.2.1,())))))).bind fun z6=> match z6 with |.inl a7=>(cond (decide ((wrap .u64 (a7.2.2.2.2.2.2.1+a7.2.2.1))≥4294967296)) (some (.inr (a7.1,a7.2.1,a7.2.2.2.2.1,a7.2.2.2.2.2.1,a7.2.2.2.2.2.2.2.1,wrap .u64 (a7.2.2.2.2.2.2.2.2.1-1),()))) (some (.inl (a7.1,a7.2.1,a7.2.2.1,a7.2.2.2.1,a7.2.2.2.2.1,a7.2.2.2.2.2.1,wrap .u64 (a7.2.2.2.2.2.2.1+a7.2.2.1),a7.2.2.2.2.2.2.2.1,wrap .u64 (a7.2.2.2.2.2.2.2.2.1-1),())))) |.inr b8=>some (.inr (b8.1,b8.2.1,b8.2.2.1,b8.2.2.2.1,b8.2.2.2.2.1,b8.2.2.2.2.2.1,()))
def a1Z(x:(Int×Int×Int)):Option (Int×Int):= cond (x.2.2==0) none (cond (decide (x.2.2≤x.1)) none (cond (x.1==0) (cond (x.2.2==0) none (cond (x.2.2==0) none (some (wrap .u64 (a07 x.2.1 x.2.2),a05 x.2.1 x.2.2)))) ((a3T x.2.2).bind fun y1=> cond (decide ((wrap .u64 y1)<0)) none (cond (decide ((wrap .u64 y1)<0)) none (cond (decide ((wrap .u64 (64-(wrap .u64 y1)))<0)) none (cond (decide ((wrap .u64 y1)<0)) none (cond ((A0k .u64 (A0j .u64 x.2.2 (wrap .u64 y1)) 32)==0) none ((y0o a1T (A0j .u64 x.2.2 (wrap .u64 y1),wrap .u64 y1,A0k .u64 (A0j .u64 x.2.2 (wrap .u64 y1)) 32,bits .u64 .and (A0j .u64 x.2.2 (wrap .u64 y1)) 4294967295,bits .u64 .or (A0j .u64 x.1 (wrap .u64 y1)) (A0k .u64 x.2.1 (wrap .u64 (64-(wrap .u64 y1)))),A0k .u64 (A0j .u64 x.2.1 (wrap .u64 y1)) 32,bits .u64 .and (A0j .u64 x.2.1 (wrap .u64 y1)) 4294967295,wrap .u64 (a07 (bits .u64 .or (A0j .u64 x.1 (wrap .u64 y1)) (A0k .u64 x.2.1 (wrap .u64 (64-(wrap .u64 y1))))) (A0k .u64 (A0j .u64 x.2.2 (wrap .u64 y1)) 32)),wrap .u64 ((bits .u64 .or (A0j .u64 x.1 (wrap .u64 y1)) (A0k .u64 x.2.1 (wrap .u64 (64-(wrap .u64 y1)))))-(wrap .u64 ((wrap .u64 (a07 (bits .u64 .or (A0j .u64 x.1 (wrap .u64 y1)) (A0k .u64 x.2.1 (wrap .u64 (64-(wrap .u64 y1))))) (A0k .u64 (A0j .u64 x.2.2 (wrap .u64 y1)) 32)))*(A0k .u64 (A0j .u64 x.2.2 (wrap .u64 y1)) 32)))),())).bind fun w5=> cond (w5.2.2.1==0) none ((y0o a1U (w5.1,w5.2.1,w5.2.2.1,w5.2.2.2.1,w5.2.2.2.2.2.2.1,w5.2.2.2.2.2.2.2.1,wrap .u64 ((wrap .u64 ((wrap .u64 ((wrap .u64 (w5.2.2.2.2.1*4294967296))+w5.2.2.2.2.2.1))-(wrap .u64 (w5.2.2.2.2.2.2.2.1*w5.1))))-(wrap .u64 ((wrap .u64 (a07 (wrap .u64 ((wrap .u64 ((wrap .u64 (w5.2.2.2.2.1*4294967296))+w5.2.2.2.2.2.1))-(wrap .u64 (w5.2.2.2.2.2.2.2.1*w5.1)))) w5.2.2.1))*w5.2.2.1))),wrap .u64 ((wrap .u64 ((wrap .u64 (w5.2.2.2.2.1*4294967296))+w5.2.2.2.2.2.1))-(wrap .u64 (w5.2.2.2.2.2.2.2.1*w5.1))),wrap .u64 (a07 (wrap .u64 ((wrap .u64 ((wrap .u64 (w5.2.2.2.2.1*4294967296))+w5.2.2.2.2.2.1))-(wrap .u64 (w5.2.2.2.2.2.2.2.1*w5.1)))) w5.2.2.1),())).bind fun w9=> cond (decide (w9.2.1<0)) none (some (wrap .u64 ((wrap .u64 (w9.2.2.2.1*4294967296))+w9.2.2.2.2.2.1),A0k .u64 (wrap .u64 ((wrap .u64 ((wrap .u64 (w9.2.2.2.2.1*4294967296))+w9.2.2.1))-(wrap .u64 (w9.2.2.2.2.2.1*w9.1)))) w9.2.1)))))))))))
def b2H:FSem:=⟨[.v (.int .u64),.v (.int .u64),.v (.int .u64)],[.v (.int .u64),.v (.int .u64)],a1Z⟩
def d5X:Hints:=⟨[(131068,[.sv 2 (.int .u64),.sv 8 (.int .u64),.sv 9 (.int .u64),.sv 10 (.int .u64),.sv 11 (.int .u64),.sv 13 (.int .u64),.sv 14 (.int .u64),.sv 15 (.int .u64),.sv 16 (.int .u64)],[(.exit 0,[.sv 2 (.int .u64),.sv 8 (.int .u64),.sv 9 (.int .u64),.sv 10 (.int .u64),.sv 11 (.int .u64),.sv 13 (.int .u64),.sv 14 (.int .u64),.sv 15 (.int .u64)])]),(2097148,[.sv 2 (.int .u64),.sv 8 (.int .u64),.sv 9 (.int .u64),.sv 10 (.int .u64),.sv 14 (.int .u64),.sv 15 (.int .u64),.sv 16 (.int .u64),.sv 17 (.int .u64),.sv 18 (.int .u64)],[(.exit 2,[.sv 2 (.int .u64),.sv 8 (.int .u64),.sv 14 (.int .u64),.sv 15 (.int .u64),.sv 17 (.int .u64),.sv 18 (.int .u64)])])],[(262136,[(.normal,[.sv 2 (.int .u64),.sv 8 (.int .u64),.sv 9 (.int .u64),.sv 10 (.int .u64),.sv 11 (.int .u64),.sv 13 (.int .u64),.sv 14 (.int .u64),.sv 15 (.int .u64),.sv 16 (.int .u64)]),(.exit 0,[.sv 2 (.int .u64),.sv 8 (.int .u64),.sv 9 (.int .u64),.sv 10 (.int .u64),.sv 11 (.int .u64),.sv 13 (.int .u64),.sv 14 (.int .u64),.sv 15 (.int .u64)])]),(4194296,[(.normal,[.sv 2 (.int .u64),.sv 8 (.int .u64),.sv 9 (.int .u64),.sv 10 (.int .u64),.sv 14 (.int .u64),.sv 15 (.int .u64),.sv 16 (.int .u64),.sv 17 (.int .u64),.sv 18 (.int .u64)]),(.exit 2,[.sv 2 (.int .u64),.sv 8 (.int .u64),.sv 14 (.int .u64),.sv 15 (.int .u64),.sv 17 (.int .u64),.sv 18 (.int .u64)])])],[(6,[.v,.v,.v,.v,.v,.v,.v,.x])]⟩
def a8Q(x:(Int×Int×Int)):Option Int:= cond (x.2.2==0) none ((a1Z (a05 x.1 x.2.2,x.2.1,x.2.2)).bind fun y1=> some y1.2)
def b2I:FSem:=⟨[.v (.int .u64),.v (.int .u64),.v (.int .u64)],[.v (.int .u64)],a8Q⟩
def d5Y:Hints:=⟨[],[],[]⟩
def a5I(x:(Int×Int×Int)):Option Int:= (a5S (x.1,x.2.1)).bind fun y1=> (a8P (y1.2,x.2.2,0)).bind fun y2=> (a8Q (wrap .u64 (y1.1+y2.2),y2.1,2305843009213693951)).bind fun y3=> some y3
def b1I:FSem:=⟨[.v (.int .u64),.v (.int .u64),.v (.int .u64)],[.v (.int .u64)],a5I⟩
def d5Z:Hints:=⟨[],[],[]⟩
def a7H(s:Z29):Option Z64:= cond (decide (s.2.2.2.1<s.2.2.1)) ((m0h s.2.1 s.2.2.2.1).bind fun x1=> (a5I (s.1,1000003,wrap .u64 ((wrap .u64 x1)+1))).bind fun y2=> some (.inl (y2,s.2.1,s.2.2.1,wrap .i64 (s.2.2.2.1+1),()))) (some (.inr (s.1,())))
def a7U(x:(List Int)):Option Int:= (y0o a7H (0,x,(x.length:Int),0,())).bind fun w3=> some w3.1
def b3q:FSem:=⟨[.v (.list false (.int .u8))],[.v (.int .u64)],a7U⟩
def H42:Hints:=⟨[(58,[.sv 3 (.int .u64),.sv 6 (.list false (.int .u8)),.sv 7 QI,.sv 8 QI],[(.exit 0,[.sv 3 (.int .u64)])])],[],[]⟩
def a6C(s:(Int×(Int×(Int×((List (List Int))×Z85))))):Option ((Int×(Int×(Int×((List (List Int))×Z85)))) ⊕ Z85):= cond (decide (s.2.2.2.2.2.1<s.2.2.2.2.1)) ((m0h s.2.2.2.1 s.2.2.2.2.2.1).bind fun x3=> (m0h x3 s.1).bind fun x4=> cond (lim ((a02 s.2.2.2.2.2.2.1)+1)) (some (.inl (s.1,s.2.1,s.2.2.1,s.2.2.2.1,s.2.2.2.2.1,wrap .i64 (s.2.2.2.2.2.1+1),a03 s.2.2.2.2.2.2.1 [x4],s.2.2.2.2.2.2.2.1,()))) none) (some (.inr (s.2.1,s.2.2.1,s.2.2.2.2.2.2.1,s.2.2.2.2.2.2.2.1,())))
def a6D(s:Z85):Option (Z85 ⊕ ((List Int)×Unit)):= cond (decide (s.2.1<s.1)) ((y0o a6C (s.2.1,s.1,s.2.1,s.2.2.2.1.2.1,(s.2.2.2.1.2.1.length:Int),0,s.2.2.1,s.2.2.2.1,())).bind fun w5=> some (.inl (w5.1,wrap .i64 (w5.2.1+1),w5.2.2.1,w5.2.2.2.1,()))) (some (.inr (s.2.2.1,())))
def a7c(x:Z10):Option (List Int):= (a4i x).bind fun y1=> cond (!y1) (some []) ((a4h x).bind fun y2=> (y0o a6D (y2,0,[],x,())).bind fun w6=> some w6.1)
def a7d:FSem:=⟨[.v Q15],[.o QI],a7c⟩
def H86:Hints:=⟨[(122,[.sv 11 QI,.sv 12 QI,.own 3 3 QI,.vp 1 Q15],[(.exit 0,[.own 3 3 QI])]),(31334,[.sv 4 QI,.sv 11 QI,.sv 12 QI,.sv 16 (.list false QL),.sv 17 QI,.sv 18 QI,.own 3 3 QI,.vp 1 Q15],[(.exit 2,[.sv 11 QI,.sv 12 QI,.own 3 3 QI,.vp 1 Q15])])],[],[]⟩
def a4D(s:(Int×(Int×(Int×((List Int)×(Int×Z31)))))):Option ((Int×(Int×(Int×((List Int)×(Int×Z31))))) ⊕ Z75):= cond (decide (s.2.2.2.2.2.2.2.1<s.2.2.2.2.2.2.1)) (cond (decide ((wrap .i64 (8*s.2.2.2.2.2.2.2.1))<0)) none (cond (lim ((a02 s.2.2.2.2.2.2.2.2.1)+1)) (some (.inl (s.1,s.2.1,s.2.2.1,s.2.2.2.1,s.2.2.2.2.1,s.2.2.2.2.2.1,s.2.2.2.2.2.2.1,wrap .i64 (s.2.2.2.2.2.2.2.1+1),a03 s.2.2.2.2.2.2.2.2.1 [wrap .u8 (bits .i64 .and (A0k .i64 s.2.2.1 (wrap .i64 (8*s.2.2.2.2.2.2.2.1))) 255)],()))) none)) (some (.inr (s.1,s.2.1,s.2.2.2.1,s.2.2.2.2.1,s.2.2.2.2.2.1,s.2.2.2.2.2.2.2.2.1,())))
def a6E(s:Z75):Option (Z75 ⊕ Z47):= cond (decide (s.2.2.2.2.1<s.2.2.2.1)) ((m0h s.2.2.1 s.2.2.2.2.1).bind fun x2=> (a1O (x2,s.1)).bind fun y3=> cond (!y3) (some (.inr (Sum.inr ((6,[],()))))) ((y0o a4D (s.1,s.2.1,x2,s.2.2.1,s.2.2.2.1,s.2.2.2.2.1,s.2.1,0,s.2.2.2.2.2.1,())).bind fun w4=> some (.inl (w4.1,w4.2.1,w4.2.2.1,w4.2.2.2.1,wrap .i64 (w4.2.2.2.2.1+1),w4.2.2.2.2.2.1,())))) (some (.inr (Sum.inl (s.2.2.2.2.2.1,()))))
def a9s(x:((List Int)×Int)):Option ((List Int)×Int):= (show Option Z16 from cond (decide (x.2<4)) (some (x.1,x.2,true,())) (some (x.1,x.2,decide (x.2 > 24),()))).bind fun z1=> cond z1.2.2.1 (some ([],1)) ((y0o a6E (z1.2.1,wrap .i64 (a07 (wrap .i64 (z1.2.1+7)) 8),z1.1,(z1.1.length:Int),0,[],())).bind fun w5=> match w5 with |.inl a6=>some (a6.1,0) |.inr b7=>some (b7.2.1,b7.1))
def b6r:FSem:=⟨[.v QL,.v QI],[.o (.int .u8),.v QI],a9s⟩
def d6a:Hints:=⟨[(250,[.sv 1 QI,.sv 6 QI,.sv 20 QL,.sv 21 QI,.sv 22 QI,.own 7 7 (.int .u8)],[(.exit 0,[.own 7 7 (.int .u8)]),(.ret,[.sv 5 QI,.own 4 4 (.int .u8)])]),(128206,[.sv 1 QI,.sv 6 QI,.sv 9 QI,.sv 20 QL,.sv 21 QI,.sv 22 QI,.sv 30 QI,.sv 31 QI,.own 7 7 (.int .u8)],[(.exit 2,[.sv 1 QI,.sv 6 QI,.sv 20 QL,.sv 21 QI,.sv 22 QI,.own 7 7 (.int .u8)])])],[(6,[(.normal,[.sv 0 QL,.sv 1 QI,.sv 16 .bool])])],[]⟩
def b0E(x:Z10):Option ((List Int)×Int):= (a4i x).bind fun y1=> cond (!y1) (some ([],1)) ((a7c x).bind fun y2=> (a9s (y2,x.1)).bind fun y3=> some (y3.1,y3.2))
def b6M:FSem:=⟨[.v Q15],[.o (.int .u8),.v QI],b0E⟩
def d6b:Hints:=⟨[],[],[(3,[.v,.q,.v,.v,.x,.q,.q,.x,.x])]⟩
def a7I(s:Z7):Option (Z7 ⊕ (Int×Unit)):= cond (decide (s.1 > 0)) ((show Option Z7 from cond ((a05 s.1 2)==1) ((a5I (s.2.1,s.2.2.1,0)).bind fun y1=> some (s.1,y1,s.2.2.1,())) (some (s.1,s.2.1,s.2.2.1,()))).bind fun z2=> (a5I (z2.2.2.1,z2.2.2.1,0)).bind fun y3=> some (.inl (wrap .i64 (a07 z2.1 2),z2.2.1,y3,()))) (some (.inr (s.2.1,())))
def b0F(x:Int):Option Int:= (y0o a7I (v0n x 0,1,1000003,())).bind fun w4=> some w4.1
def b6N:FSem:=⟨[.v QI],[.v (.int .u64)],b0F⟩
def d6c:Hints:=⟨[(58,[.sv 0 QI,.sv 3 (.int .u64),.sv 4 (.int .u64)],[(.exit 0,[.sv 3 (.int .u64)])])],[(932,[(.normal,[.sv 0 QI,.sv 3 (.int .u64),.sv 4 (.int .u64)])])],[]⟩
def b1J(x:(Int×Int×Int)):Option (Int×Bool):= (show Option Z21 from cond (decide (x.1≥2305843009213693951)) (some (x.1,x.2.1,x.2.2,true,())) (cond (decide (x.2.1≥2305843009213693951)) (some (x.1,x.2.1,x.2.2,true,())) (some (x.1,x.2.1,x.2.2,decide (x.2.2<0),())))).bind fun z1=> cond z1.2.2.2.1 (some (0,false)) ((b0F z1.2.2.1).bind fun y2=> (a5I (z1.1,y2,z1.2.1)).bind fun y3=> some (y3,true))
def b7R:FSem:=⟨[.v (.int .u64),.v (.int .u64),.v QI],[.v (.int .u64),.v .bool],b1J⟩
def d6d:Hints:=⟨[],[(6,[(.normal,[.sv 0 (.int .u64),.sv 1 (.int .u64),.sv 2 QI,.sv 17 .bool])])],[]⟩
def a4v(x:Z26):Option (Int×Bool):= (b0E x.2).bind fun y1=> cond (y1.2 != 0) (some (0,false)) ((a7U y1.1).bind fun y2=> (b1J (x.1,y2,(y1.1.length:Int))).bind fun y3=> some (y3.1,y3.2))
def a8w:FSem:=⟨[.v (.int .u64),.v Q15],[.v (.int .u64),.v .bool],a4v⟩
def H97:Hints:=⟨[],[],[]⟩
def a8x(s:(Int×Int×Int×b8G×Int×Int×c5q)):Option ((Int×Int×Int×b8G×Int×Int×c5q) ⊕ ((Int×Int×c5q) ⊕ (Bool×((List (List Int))×Z42)))):= cond (decide (s.2.2.2.2.2.1<s.2.2.2.2.1)) ((m0h s.2.2.2.1 s.2.2.2.2.2.1).bind fun x3=> (show Option (Int×(Int×(Int×(Int×(b8G×(Int×(Int×(Bool×((List (List Int))×(Z22×a3w×b3i))))))))))from cond (!(eqT Q12 x3.2.2.1 s.2.2.2.2.2.2.2.2.1.1)) (some (s.1,s.2.1,s.2.2.1,s.2.2.2.2.2.1,s.2.2.2.1,s.2.2.2.2.1,s.2.2.2.2.2.1,true,s.2.2.2.2.2.2.1,s.2.2.2.2.2.2.2.1,x3,s.2.2.2.2.2.2.2.2.1,())) (some (s.1,s.2.1,s.2.2.1,s.2.2.2.2.2.1,s.2.2.2.1,s.2.2.2.2.1,s.2.2.2.2.2.1,x3.1 != s.1,s.2.2.2.2.2.2.1,s.2.2.2.2.2.2.2.1,x3,s.2.2.2.2.2.2.2.2.1,()))).bind fun z4=> cond z4.2.2.2.2.2.2.2.1 (some (.inr (Sum.inr ((false,([]:(List (List Int))),[],()))))) ((show Option (Int×(Int×(Int×(b8G×(Int×(Int×(Bool×((List (List Int))×(Z22×a3w×b3i)))))))))from(m0h z4.2.2.2.2.2.2.2.2.2.2.2.1.2.2.2.1 z4.2.2.2.1).bind fun x5=> cond (x5.1 != z4.1) (some (z4.1,z4.2.1,z4.2.2.1,z4.2.2.2.2.1,z4.2.2.2.2.2.1,z4.2.2.2.2.2.2.1,true,z4.2.2.2.2.2.2.2.2.1,z4.2.2.2.2.2.2.2.2.2.1,z4.2.2.2.2.2.2.2.2.2.2.1,z4.2.2.2.2.2.2.2.2.2.2.2.1,())) ((m0h z4.2.2.2.2.2.2.2.2.2.2.2.1.2.2.2.1 z4.2.2.2.1).bind fun x6=> some (z4.1,z4.2.1,z4.2.2.1,z4.2.2.2.2.1,z4.2.2.2.2.2.1,z4.2.2.2.2.2.2.1,x6.2.1 != z4.2.1,z4.2.2.2.2.2.2.2.2.1,z4.2.2.2.2.2.2.2.2.2.1,z4.2.2.2.2.2.2.2.2.2.2.1,z4.2.2.2.2.2.2.2.2.2.2.2.1,()))).bind fun z7=> cond z7.2.2.2.2.2.2.1 (some (.inr (Sum.inr ((false,([]:(List (List Int))),[],()))))) ((a2p z7.2.2.2.2.2.2.2.2.2.1).bind fun y8=> cond (y8.2 != 0) (some (.inr (Sum.inr ((false,([]:(List (List Int))),[],()))))) ((a3p z7.2.2.2.2.2.2.2.2.2.1).bind fun y9=> cond (y9.2 != 0) (some (.inr (Sum.inr ((false,([]:(List (List Int))),[],()))))) ((a4v (z7.2.2.1,y8.1)).bind fun y10=> cond (!y10.2) (some (.inr (Sum.inr ((false,([]:(List (List Int))),[],()))))) (cond (lim ((a02 z7.2.2.2.2.2.2.2.1)+1)) (cond (lim ((a02 z7.2.2.2.2.2.2.2.2.1)+1)) (some (.inl (wrap .i64 (z7.1+z7.2.2.2.2.2.2.2.2.2.1.2.1),wrap .i64 (z7.2.1+(y9.1.length:Int)),y10.1,z7.2.2.2.1,z7.2.2.2.2.1,wrap .i64 (z7.2.2.2.2.2.1+1),a03 z7.2.2.2.2.2.2.2.1 ([y9.1]:List (List Int)),a03 z7.2.2.2.2.2.2.2.2.1 ([y8.1]:List Z10),z7.2.2.2.2.2.2.2.2.2.2.1,()))) none) none)))))) (some (.inr (Sum.inl (s.1,s.2.2.1,s.2.2.2.2.2.2.1,s.2.2.2.2.2.2.2.1,s.2.2.2.2.2.2.2.2.1,()))))
def a9g(x:b2q):Option ((List (List Int))×(Z22×Bool)):= (show Option (Bool×c5q)from(a1P x.1).bind fun y1=> cond (!y1) (some (true,([]:(List (List Int))),[],x,())) (cond (decide ((x.2.2.2.2.1.length:Int) > 4096)) (some (true,([]:(List (List Int))),[],x,())) (some ((x.2.2.2.1.length:Int) != (x.2.2.2.2.1.length:Int),([]:(List (List Int))),[],x,())))).bind fun z2=> cond z2.1 (some (([]:(List (List Int))),[],false)) ((y0o a8x (0,0,0,z2.2.2.2.1.2.2.2.2.1,(z2.2.2.2.1.2.2.2.2.1.length:Int),0,z2.2.1,z2.2.2.1,z2.2.2.2.1,())).bind fun w11=> match w11 with |.inl a12=>((show Option (Bool×((List (List Int))×Z42))from cond (a12.2.2.2.2.1.2.1 != a12.1) (some (true,a12.2.2.1,a12.2.2.2.1,())) (some (a12.2.2.2.2.1.2.2.1 != a12.2.1,a12.2.2.1,a12.2.2.2.1,()))).bind fun z14=> cond z14.1 (some (([]:(List (List Int))),[],false)) (some (z14.2.1,z14.2.2.1,true))) |.inr b13=>some (b13.2.1,b13.2.2.1,b13.1))
def b4B:FSem:=⟨[.v Q74],[.o (.list false (.int .u8)),.o Q15,.v .bool],a9g⟩
def H85:Hints:=⟨[(122,[.sv 5 QI,.sv 6 QI,.sv 7 (.int .u64),.sv 33 (.list false Q60),.sv 34 QI,.sv 35 QI,.own 2 2 (.list false (.int .u8)),.own 3 3 Q15,.vp 1 Q74],[(.exit 0,[.sv 5 QI,.sv 7 (.int .u64),.own 2 2 (.list false (.int .u8)),.own 3 3 Q15,.vp 1 Q74]),(.ret,[.sv 4 .bool,.own 2 2 (.list false (.int .u8)),.own 3 3 Q15])])],[(6,[(.normal,[.sv 31 .bool,.own 2 2 (.list false (.int .u8)),.own 3 3 Q15,.vp 1 Q74])]),(62,[(.normal,[.sv 117 .bool,.own 2 2 (.list false (.int .u8)),.own 3 3 Q15])]),(15666,[(.normal,[.sv 5 QI,.sv 6 QI,.sv 7 (.int .u64),.sv 8 QI,.sv 33 (.list false Q60),.sv 34 QI,.sv 35 QI,.sv 50 .bool,.own 2 2 (.list false (.int .u8)),.own 3 3 Q15,.box 9 Q60,.vp 1 Q74,.ptr 9 9 []])]),(31334,[(.normal,[.sv 5 QI,.sv 6 QI,.sv 7 (.int .u64),.sv 33 (.list false Q60),.sv 34 QI,.sv 35 QI,.sv 68 .bool,.own 2 2 (.list false (.int .u8)),.own 3 3 Q15,.box 9 Q60,.vp 1 Q74,.ptr 9 9 []])])],[]⟩
def a5m(s:(Int×(Int×((List Int)×Z42)))):Option ((Int×(Int×((List Int)×Z42))) ⊕ ((List Int)×Unit)):= cond (decide (s.2.1<s.1)) (cond ((decide (0≤s.2.1))&&(decide (s.2.1<(s.2.2.2.1.length:Int)))) ((a7c (a04 s.2.2.2.1 (a00 s.2.1) (0,([]:(List (List Int))),()))).bind fun y2=> cond (lim ((a02 s.2.2.1)+(a02 y2))) (some (.inl (s.1,wrap .i64 (s.2.1+1),a03 s.2.2.1 y2,s.2.2.2.1,()))) none) none) (some (.inr (s.2.2.1,())))
def a3H(x:b2q):Option ((List Int)×Int):= (a9g x).bind fun y1=> cond (!y1.2.2) (some ([],1)) ((y0o a5m ((y1.2.1.length:Int),0,[],y1.2.1,())).bind fun w3=> some (w3.1,0))
def b0G:FSem:=⟨[.v Q74],[.o QI,.v QI],a3H⟩
def H27:Hints:=⟨[(250,[.sv 19 QI,.sv 20 QI,.own 7 7 QI,.own 18 5 Q15],[(.exit 0,[.own 7 7 QI])])],[],[]⟩
def H31:Hints:=⟨[(26,[.sv 1 QI,.sv 9 (.list false Q60),.sv 10 QI,.sv 11 QI],[(.exit 0,[]),(.ret,[.sv 4 QI,.sv 5 QI])])],[],[]⟩
def b6O(x:(b2q×Int)):Option (Int×Int):=A0f (a9P [] [] [0,1,4,5,6] [2]) H31 Tryz.f31 [.v Q74,.v (.int .i64)] [.v (.int .i64),.v (.int .i64)] x
def b6P:FSem:=⟨[.v Q74,.v QI],[.v QI,.v QI],b6O⟩
def a4E(s:((List Int)×Z6)):Option (((List Int)×Z6) ⊕ Z0):= cond (decide (s.2.2.1<(s.1.length:Int))) ((m0h s.1 s.2.2.1).bind fun x1=> (m0h s.2.1 s.2.2.1).bind fun x2=> cond (x1 != x2) (some (.inr (Sum.inr ((false,()))))) (some (.inl (s.1,s.2.1,wrap .i64 (s.2.2.1+1),())))) (some (.inr (Sum.inl ())))
def a5d(x:((List Int)×(List Int))):Option Bool:= cond ((x.1.length:Int) != (x.2.length:Int)) (some false) ((y0o a4E (x.1,x.2,0,())).bind fun w3=> match w3 with |.inl a4=>some true |.inr b5=>some b5.1)
def b2A:FSem:=⟨[.v QL,.v QL],[.v .bool],a5d⟩
def H35:Hints:=⟨[(58,[.sv 0 QL,.sv 1 QL,.sv 5 QI],[(.exit 0,[]),(.ret,[.sv 4 .bool])])],[],[(6,[.v,.v,.v,.v,.v,.v,.v,.v,.x])]⟩
def a7V(s:(Z12×Z26)):Option ((Z12×Z26) ⊕ (Z1 ⊕ ((List (List Int))×(Int×Unit)))):= cond (decide (s.2.2.1<s.2.1)) ((m0h s.1 s.2.2.1).bind fun x5=> (a7S (s.2.2.2.1,x5,1)).bind fun y6=> cond (!y6.1) (some (.inr (Sum.inr ((([]:(List (List Int))),6,()))))) (some (.inl (s.1,s.2.1,wrap .i64 (s.2.2.1+1),y6.2,())))) (some (.inr (Sum.inl (s.2.2.2.1,()))))
def b2c(x:((List (List Int))×Z12)):Option ((List (List Int))×Int):= (show Option ((List (List Int))×(Z12×Bool×Unit))from(a7s x.1).bind fun y1=> cond (!y1) (some (x.1,x.2,true,())) ((a8m (x.2,(x.1.length:Int))).bind fun y2=> some (x.1,x.2,!y2,()))).bind fun z3=> cond z3.2.2.1 (some (([]:(List (List Int))),1)) ((a6Y z3.1).bind fun y4=> (y0o a7V (z3.2.1,(z3.2.1.length:Int),0,y4,())).bind fun w7=> match w7 with |.inl a8=>some (a8.1,0) |.inr b9=>some (b9.1,b9.2.1))
def b6Q:FSem:=⟨[.v (.list false QL),.v (.list false Q12)],[.v (.list false QL),.v QI],b2c⟩
def H59:Hints:=⟨[(122,[.sv 21 (.list false Q12),.sv 22 QI,.sv 23 QI,.own 6 6 (.list true QI)],[(.exit 0,[.own 6 6 (.list true QI)]),(.ret,[.sv 4 (.list false QL),.sv 5 QI])])],[(6,[(.normal,[.sv 0 (.list false QL),.sv 1 (.list false Q12),.sv 18 .bool])])],[]⟩
def a6F(s:(Int×((List Int)×Z43))):Option ((Int×((List Int)×Z43)) ⊕ Z43):= cond (decide (s.2.2.1<(s.2.1.length:Int))) ((m0h s.2.1 s.2.2.1).bind fun x3=> (m0h s.2.1 (wrap .i64 (s.2.2.1-1))).bind fun x4=> (m0h s.2.1 (wrap .i64 (s.2.2.1-2))).bind fun x5=> some (.inl (wrap .i64 (s.1+(v0n (wrap .i64 ((wrap .i64 (x3-(wrap .i64 (2*x4))))+x5)) (wrap .i64 (0-(wrap .i64 ((wrap .i64 (x3-(wrap .i64 (2*x4))))+x5)))))),s.2.1,wrap .i64 (s.2.2.1+1),s.2.2.2.1,s.2.2.2.2.1,s.2.2.2.2.2.1,()))) (some (.inr (s.1,s.2.2.2.1,s.2.2.2.2.1,s.2.2.2.2.2.1,())))
def a6G(s:Z43):Option (Z43 ⊕ (Int×Unit)):= cond (decide (s.2.2.2.1<s.2.2.1)) ((m0h s.2.1 s.2.2.2.1).bind fun x2=> (y0o a6F (s.1,x2,2,s.2.1,s.2.2.1,s.2.2.2.1,())).bind fun w6=> some (.inl (w6.1,w6.2.1,w6.2.2.1,wrap .i64 (w6.2.2.2.1+1),()))) (some (.inr (s.1,())))
def a7e(x:(List (List Int))):Option Int:= (a7s x).bind fun y1=> cond (!y1) (some 0) ((y0o a6G (0,x,(x.length:Int),0,())).bind fun w7=> some w7.1)
def b6s:FSem:=⟨[.v (.list false QL)],[.v QI],a7e⟩
def d6e:Hints:=⟨[(122,[.sv 3 QI,.sv 11 (.list false QL),.sv 12 QI,.sv 13 QI],[(.exit 0,[.sv 3 QI])]),(31334,[.sv 3 QI,.sv 5 QL,.sv 6 QI,.sv 11 (.list false QL),.sv 12 QI,.sv 13 QI],[(.exit 2,[.sv 3 QI,.sv 11 (.list false QL),.sv 12 QI,.sv 13 QI])])],[],[(10,[.v,.v,.v,.v,.v,.v,.v,.v,.v,.v,.v,.v,.v,.v,.v,.v,.x,.x])]⟩
def b0H(x:Int):Option Z12:= cond (x==1) (some ([(0,1,(-256),())]:List Z7)) (cond (x==2) (some ([(1,0,(-256),())]:List Z7)) (cond (x==3) (some ([(1,0,(-256),()),(0,1,128,())]:List Z7)) (cond (x==4) (some ([(1,0,(-106),()),(0,1,181,()),(1,0,(-106),())]:List Z7)) (some []))))
def b6R:FSem:=⟨[.v QI],[.o Q12],b0H⟩
def d6f:Hints:=⟨[],[],[]⟩
def a6e(s:((List (List Int))×Z7)):Option (((List (List Int))×Z7) ⊕ (Int×Unit)):= cond (decide (s.2.2.2.1<5)) ((b0H s.2.2.2.1).bind fun y2=> (b2c (s.1,y2)).bind fun y3=> cond (y3.2 != 0) (some (.inl (s.1,s.2.1,s.2.2.1,wrap .i64 (s.2.2.2.1+1),()))) ((a7e y3.1).bind fun y4=> cond (decide (y4<s.2.2.1)) (some (.inl (s.1,s.2.2.2.1,y4,wrap .i64 (s.2.2.2.1+1),()))) (some (.inl (s.1,s.2.1,s.2.2.1,wrap .i64 (s.2.2.2.1+1),()))))) (some (.inr (s.2.1,())))
def b1K(x:(List (List Int))):Option Z12:= (a7e x).bind fun y1=> (y0o a6e (x,0,y1,1,())).bind fun w5=> (b0H w5.1).bind fun y6=> some y6
def b7S:FSem:=⟨[.v (.list false QL)],[.o Q12],b1K⟩
def d6g:Hints:=⟨[(58,[.sv 0 (.list false QL),.sv 3 QI,.sv 4 QI,.sv 5 QI],[(.exit 0,[.sv 3 QI])])],[],[]⟩
def a6f(s:(Int×Int×Int×Z12×Z91)):Option ((Int×Int×Int×Z12×Z91) ⊕ (Int×Z91)):= cond (decide (s.2.2.1<s.2.1)) (cond ((decide (0≤s.2.2.1))&&(decide (s.2.2.1<(s.2.2.2.2.1.length:Int)))) (cond (lim ((a02 s.2.2.2.1)+1)) (some (.inl (s.1,s.2.1,wrap .i64 (s.2.2.1+1),a03 s.2.2.2.1 ([(wrap .i64 (((a04 s.2.2.2.2.1 (a00 s.2.2.1) (0,0,0,())).1)+s.1),wrap .i64 ((((a04 s.2.2.2.2.1 (a00 s.2.2.1) (0,0,0,())).2).1)+s.1),(((a04 s.2.2.2.2.1 (a00 s.2.2.1) (0,0,0,())).2).2).1,())]:List Z7),s.2.2.2.2.1,s.2.2.2.2.2.1,()))) none) none) (some (.inr (s.1,s.2.2.2.1,s.2.2.2.2.2.1,())))
def a8y(s:(Int×Z91)):Option ((Int×Z91) ⊕ (Z12×Unit)):= cond (decide ((wrap .i64 (s.1+1))<(s.2.2.1.2.1.length:Int))) (cond ((decide (0≤(wrap .i64 (s.1+2))))&&(decide ((wrap .i64 (s.1+2))≤(s.2.2.1.2.1.length:Int)))) (cond ((decide (0≤s.1))&&(decide (s.1≤((a00 (wrap .i64 (s.1+2)):Nat):Int)))) ((b1K (a21 (a00 s.1) (a06 (a00 (wrap .i64 (s.1+2))) s.2.2.1.2.1))).bind fun y2=> (y0o a6f (s.1,(y2.length:Int),0,s.2.1,y2,s.2.2.1,())).bind fun w3=> some (.inl (wrap .i64 (w3.1+2),w3.2.1,w3.2.2.1,()))) none) none) (some (.inr (s.2.1,())))
def a7v(x:Z10):Option Z12:= (a4i x).bind fun y1=> cond (!y1) (some []) ((y0o a8y (0,[],x,())).bind fun w4=> some w4.1)
def b7T:FSem:=⟨[.v Q15],[.o Q12],a7v⟩
def H58:Hints:=⟨[(122,[.sv 4 QI,.own 3 3 Q12,.vp 1 Q15],[(.exit 0,[.own 3 3 Q12])]),(7826,[.sv 4 QI,.sv 25 QI,.sv 26 QI,.own 3 3 Q12,.own 24 1024 Q12,.vp 1 Q15],[(.exit 2,[.sv 4 QI,.own 3 3 Q12,.vp 1 Q15])])],[],[]⟩
def a6H(s:Z57):Option (Z57 ⊕ Z47):= cond (decide (s.2.2.2.1<s.2.2.1)) ((m0h s.2.1 s.2.2.2.1).bind fun x2=> (show Option (Int×(Int×((List Int)×(Int×(Int×(Bool×((List Int)×Unit)))))))from(a5b x2).bind fun y3=> cond (!y3) (some (s.1,x2,s.2.1,s.2.2.1,s.2.2.2.1,true,s.2.2.2.2.1,())) (cond (decide (s.1<0)) none (cond ((A0j .i64 1 s.1)==0) none (some (s.1,x2,s.2.1,s.2.2.1,s.2.2.2.1,(a05 x2 (A0j .i64 1 s.1)) != 0,s.2.2.2.2.1,()))))).bind fun z4=> cond z4.2.2.2.2.2.1 (some (.inr (Sum.inr ((6,[],()))))) (cond (decide (z4.1<0)) none (cond (lim ((a02 z4.2.2.2.2.2.2.1)+1)) (some (.inl (z4.1,z4.2.2.1,z4.2.2.2.1,wrap .i64 (z4.2.2.2.2.1+1),a03 z4.2.2.2.2.2.2.1 [A0k .i64 z4.2.1 z4.1],()))) none))) (some (.inr (Sum.inl (s.2.2.2.2.1,()))))
def a7f(x:((List Int)×Int)):Option ((List Int)×Int):= (show Option Z16 from cond (decide (x.2<0)) (some (x.1,x.2,true,())) (some (x.1,x.2,decide (x.2 > 30),()))).bind fun z1=> cond z1.2.2.1 (some ([],1)) ((y0o a6H (z1.2.1,z1.1,(z1.1.length:Int),0,[],())).bind fun w5=> match w5 with |.inl a6=>some (a6.1,0) |.inr b7=>some (b7.2.1,b7.1))
def b2B:FSem:=⟨[.v QL,.v QI],[.o QI,.v QI],a7f⟩
def d6h:Hints:=⟨[(122,[.sv 1 QI,.sv 15 QL,.sv 16 QI,.sv 17 QI,.own 6 6 QI],[(.exit 0,[.own 6 6 QI]),(.ret,[.sv 5 QI,.own 4 4 QI])])],[(6,[(.normal,[.sv 0 QL,.sv 1 QI,.sv 14 .bool])]),(15666,[(.normal,[.sv 1 QI,.sv 8 QI,.sv 15 QL,.sv 16 QI,.sv 17 QI,.sv 30 .bool,.own 6 6 QI])])],[]⟩
def a1w(x:Int):Option Int:= cond (x==0) (some 64) ((m0h b1x (A0k .u64 (wrap .u64 ((bits .u64 .and x (wrap .u64 (0-x)))*285870213051353865)) 58)).bind fun x1=> some (wrap .i64 x1))
def a1f:FSem:=⟨[.v (.int .u64)],[.v QI],a1w⟩
def c0Y:Hints:=⟨[],[],[]⟩
def b0I:Cx:=a9P [] [] [0,2] []
theorem b7U{ρ:Type}{cx:Cx}{ops:List Oper}:∀(l1 l2:List (Md×Oper)) (Γ:AE) (K:AE→Rs ρ),h0m cx ops (l1++l2) Γ K=h0m cx ops l1 Γ fun Γ'=>h0m cx ops l2 Γ' K
 | [],_,_,_=>rfl
 |(md,o)::l1,l2,Γ,K=>by
  simp only[a16,h0m];congr 1;funext Γ';exact b7U l1 l2 Γ' K
theorem b6S{ρ:Type}{cx:Cx}{H:Hints}{a b:Code}{p:Nat}(h:find H.cuts p=none)(Γ:AE)(K:Ex→AE→Rs ρ):c0n cx H (.seq a b) p Γ K=c0n cx H a (2*p) Γ fun e Γ'=>match e with
   |.normal=>c0n cx H b (2*p+1) Γ' K
   |e=>K e Γ':=by
 simp only[c0n,h];rfl
theorem c2R{ρ:Type}{cx:Cx}{H:Hints}{id:Nat}{ops:Array Oper}{p:Nat}(Γ:AE)(K:Ex→AE→Rs ρ):c0n cx H (.region id ops false) p Γ K=h0m cx ops.toList (ops.toList.map fun o=>(.x,o)) Γ fun Γ'=>K .normal Γ':=by
 simp only[c0n,cF]
def a9K:Code:=match Tryz.f191.body with
 |some c=>c
 |none=>.skip
def c0Z:Code→Code
 |.seq a _=>a
 |c=>c
def c5s:Code→Code
 |.seq _ b=>b
 |c=>c
def c6L:Code→Array Oper
 |.region _ ops _=>ops
 |_=>#[]
def c4T:Code:=c5s (c5s a9K)
def b3r:List Oper:=(c6L (c0Z c4T)).toList
def Γ191(x:Int):AE:=(((ini [.v (.int .u64)] x).set 2 (.val QI (0:Int))).set 3 (.val (.int .u64) x)).set 4 (.val .bool (x==(0:Int)))
def Γ191r(x:Int):AE:=(Γ191 x).set 2 (.val QI (64:Int))
def c2S(e:Ex)(Γ:AE):Option Int:=match e,Γ.pd with
  |.exit _,_=>none
  |_,some _=>none
  |_,none=>(Γ.upto Tryz.f191.ntmps).outs b0I [] Tryz.f191.ntmps [.v QI] (Tryz.f191.results.toList.map .inl) fun y _=>some y
def Γ191b(x a b c i:Int):AE:=((((((Γ191 x).set 5 (.val (.int .u64) x)).set 6 (.val (.int .u64) x)).set 7 (.val (.int .u64) a)).set 8 (.val (.int .u64) b)).set 9 (.val (.int .u64) c)).set 10 (.val (.int .u64) i)
set_option maxRecDepth 100000
theorem c7X:a9K=.seq (c0Z a9K) (.seq (c0Z (c5s a9K)) (.seq (.region 3 (c6L (c0Z c4T)) false) .ret)):=by kernel_rfl
theorem d0B(x:Int):A0f b0I c0Y Tryz.f191 a1f.ps a1f.rs x=c0n b0I c0Y a9K 1 (ini [.v (.int .u64)] x) c2S:=rfl
theorem d0C(x:Int)(K:Ex→AE→Option Int):c0n b0I c0Y (c0Z a9K) 2 (ini [.v (.int .u64)] x) K=K .normal ((ini [.v (.int .u64)] x).set 2 (.val (.int .i64) (0:Int))):=by kernel_rfl
theorem d0D(x:Int)(K:Ex→AE→Option Int):c0n b0I c0Y (c0Z (c5s a9K)) 6 ((ini [.v (.int .u64)] x).set 2 (.val (.int .i64) (0:Int))) K=bif x==(0:Int)then K .ret (Γ191r x)else K .normal (Γ191 x):=by kernel_rfl
theorem d0E(x:Int):c2S .ret (Γ191r x)=some (64:Int):=by kernel_rfl
theorem d0F(x:Int)(K:AE→Option Int):h0m b0I b3r ((b3r.map fun o=>(Md.x,o)).take 6) (Γ191 x) K =
  K (Γ191b x (wrap .u64 (0-x)) (bits .u64 .and x (wrap .u64 (0-x))) (wrap .u64 ((bits .u64 .and x (wrap .u64 (0-x)))*(285870213051353865:Int))) (A0k .u64 (wrap .u64 ((bits .u64 .and x (wrap .u64 (0-x)))*(285870213051353865:Int))) (58:Int))):=by kernel_rfl
theorem d0G(x a b c i:Int):h0m b0I b3r ((b3r.map fun o=>(Md.x,o)).drop 6) (Γ191b x a b c i) (fun Γ=>c2S .ret Γ)=(m0h b1x i).bind fun h=>some (wrap .i64 h):=by kernel_rfl
theorem d0H(x:Int):h0m b0I b3r (b3r.map fun o=>(Md.x,o)) (Γ191 x) (fun Γ=>c2S .ret Γ)=(m0h b1x (A0k .u64 (wrap .u64 ((bits .u64 .and x (wrap .u64 (0-x)))*(285870213051353865:Int))) (58:Int))).bind fun h=>some (wrap .i64 h):=by
 rw[←List.take_append_drop 6 (b3r.map fun o=>(Md.x,o)),b7U,d0F,d0G]
theorem d1A(x:Int):c0n b0I c0Y a9K 1 (ini [.v (.int .u64)] x) c2S=a1w x:=by
 rw[c7X,b6S rfl,d0C];simp only[];rw[b6S rfl,d0D];simp only[];rw[b6S rfl,c2R];simp only[c0n];rw[d0E];exact congrArg (fun z=>bif x==(0:Int)then some (64:Int)else z) (d0H x)
theorem d2C(x):A0f b0I c0Y Tryz.f191 a1f.ps a1f.rs x=a1f.F x:=(d0B x).trans (d1A x)
def a5n(s:Z29):Option Z64:= cond (decide (s.2.2.2.1<s.2.2.1)) ((m0h s.2.1 s.2.2.2.1).bind fun x1=> some (.inl (bits .i64 .or s.1 x1,s.2.1,s.2.2.1,wrap .i64 (s.2.2.2.1+1),()))) (some (.inr (s.1,())))
def a3I(x:(List Int)):Option Int:= (y0o a5n (0,x,(x.length:Int),0,())).bind fun w2=> cond (w2.1==0) (some 0) ((a1w (wrap .u64 w2.1)).bind fun y3=> some (v0o y3 30))
def b0J:FSem:=⟨[.v QL],[.v QI],a3I⟩
def d6i:Hints:=⟨[(58,[.sv 3 QI,.sv 6 QL,.sv 7 QI,.sv 8 QI],[(.exit 0,[.sv 3 QI])])],[],[]⟩
def a5o(s:Z31):Option (Z31 ⊕ Z14):= cond (decide ((wrap .i64 (s.1+1))<(s.2.2.2.1.length:Int))) (cond ((decide (0≤(wrap .i64 (s.1+1))))&&(decide ((wrap .i64 (s.1+1))<(s.2.2.2.1.length:Int)))) (cond ((decide (0≤s.1))&&(decide (s.1<(s.2.2.2.1.length:Int)))) (cond ((decide (0≤s.1))&&(decide (s.1<(s.2.2.2.1.length:Int)))) (some (.inl (wrap .i64 (s.1+1),s.2.1,s.2.2.1,a20 s.2.2.2.1 (a00 s.1) (wrap .i64 ((a04 s.2.2.2.1 (a00 (wrap .i64 (s.1+1))) 0)-(a04 s.2.2.2.1 (a00 s.1) 0))),()))) none) none) none) (some (.inr (s.2.1,s.2.2.1,s.2.2.2.1,())))
def a7J(s:Z14):Option (Z14 ⊕ ((List Int)×Unit)):= cond (decide (s.2.1<s.1)) ((y0o a5o (0,s.1,s.2.1,s.2.2.1,())).bind fun w3=> cond ((decide (0≤(wrap .i64 ((w3.2.2.1.length:Int)-1))))&&(decide ((wrap .i64 ((w3.2.2.1.length:Int)-1))≤(w3.2.2.1.length:Int)))) (cond (decide ((a00 (wrap .i64 ((w3.2.2.1.length:Int)-1)))≤(a02 w3.2.2.1))) (some (.inl (w3.1,wrap .i64 (w3.2.1+1),a06 (a00 (wrap .i64 ((w3.2.2.1.length:Int)-1))) w3.2.2.1,()))) none) none) (some (.inr (s.2.2.1,())))
def a4F(x:((List Int)×Int)):Option ((List Int)×Int):= (show Option Z16 from cond (decide (x.2<0)) (some (x.1,x.2,true,())) (cond (decide (x.2 > 4)) (some (x.1,x.2,true,())) (some (x.1,x.2,decide ((x.1.length:Int)<x.2),())))).bind fun z1=> cond z1.2.2.1 (some ([],1)) ((a2E z1.1).bind fun y2=> cond (!y2) (some ([],6)) (cond (lim (a02 z1.1)) ((y0o a7J (z1.2.1,0,z1.1,())).bind fun w4=> (a2E w4.1).bind fun y5=> cond (!y5) (some ([],6)) (some (w4.1,0))) none))
def b3s:FSem:=⟨[.v QL,.v QI],[.o QI,.v QI],a4F⟩
def d6j:Hints:=⟨[(250,[.sv 25 QI,.sv 26 QI,.own 6 6 QI],[(.exit 0,[.own 6 6 QI])]),(64098,[.sv 7 QI,.sv 25 QI,.sv 26 QI,.own 6 6 QI],[(.exit 2,[.sv 25 QI,.sv 26 QI,.own 6 6 QI])])],[(6,[(.normal,[.sv 0 QL,.sv 1 QI,.sv 19 .bool])])],[(11,[.q,.v,.q,.v,.v,.q,.q,.q,.v,.q,.q,.v,.x,.x])]⟩
def a4G(s:Z49):Option (Z49 ⊕ (Int×Unit)):= cond (decide (s.2.2.2.2.1<s.2.2.2.1)) ((m0h s.2.2.1 s.2.2.2.2.1).bind fun x1=> cond (decide ((wrap .i64 (s.2.2.2.2.1+s.1))≥4)) (some (.inl (s.1,wrap .i64 (s.2.1+(v0n x1 (wrap .i64 (0-x1)))),s.2.2.1,s.2.2.2.1,wrap .i64 (s.2.2.2.2.1+1),()))) (some (.inl (s.1,s.2.1,s.2.2.1,s.2.2.2.1,wrap .i64 (s.2.2.2.2.1+1),())))) (some (.inr (s.2.1,())))
def a9t(x:((List Int)×Int)):Option Int:= (y0o a4G (x.2,0,x.1,(x.1.length:Int),0,())).bind fun w2=> some w2.1
def b6t:FSem:=⟨[.v QL,.v QI],[.v QI],a9t⟩
def d6k:Hints:=⟨[(58,[.sv 1 QI,.sv 5 QI,.sv 8 QL,.sv 9 QI,.sv 10 QI],[(.exit 0,[.sv 5 QI])])],[],[]⟩
def a3J(s:Z30):Option (Z30 ⊕ (Int×Unit)):= cond (decide (s.2.2.2.1≤4)) ((a4F (s.1,s.2.2.2.1)).bind fun y1=> cond (y1.2 != 0) (some (.inl (s.1,s.2.1,s.2.2.1,wrap .i64 (s.2.2.2.1+1),()))) ((a9t (y1.1,s.2.2.2.1)).bind fun y2=> (show Option ((List Int)×(Int×Z21))from cond (decide (s.2.2.1<0)) (some (s.1,s.2.1,s.2.2.1,s.2.2.2.1,y2,true,())) (some (s.1,s.2.1,s.2.2.1,s.2.2.2.1,y2,decide (y2<s.2.2.1),()))).bind fun z3=> cond z3.2.2.2.2.2.1 (some (.inl (z3.1,z3.2.2.2.1,z3.2.2.2.2.1,wrap .i64 (z3.2.2.2.1+1),()))) (some (.inl (z3.1,z3.2.1,z3.2.2.1,wrap .i64 (z3.2.2.2.1+1),()))))) (some (.inr (s.2.1,())))
def a6g(x:(List Int)):Option Int:= (y0o a3J (x,0,(-1),0,())).bind fun w4=> some w4.1
def b6T:FSem:=⟨[.v QL],[.v QI],a6g⟩
def d6l:Hints:=⟨[(58,[.sv 0 QL,.sv 3 QI,.sv 4 QI,.sv 5 QI],[(.exit 0,[.sv 3 QI])])],[(7463,[(.normal,[.sv 0 QL,.sv 3 QI,.sv 4 QI,.sv 5 QI,.sv 8 QI,.sv 30 .bool])])],[]⟩
def a2x(x:Int):Option Int:= some (v0o (v0n x (-1048576)) 1048575)
def b1h:FSem:=⟨[.v QI],[.v QI],a2x⟩
def d6m:Hints:=⟨[],[],[]⟩
def a3y(s:Z72):Option (Z72 ⊕ Z59):= cond (decide (s.2.1<0)) none ((a2x (A0k .i64 s.2.2.1 s.2.1)).bind fun y2=> cond (decide (s.2.1<0)) none (cond (y2 != (A0k .i64 s.2.2.1 s.2.1)) (some (.inl (s.1,wrap .i64 (s.2.1+1),s.2.2.1,s.2.2.2.1,s.2.2.2.2.1,s.2.2.2.2.2.1,()))) (some (.inr (s.1,s.2.1,s.2.2.2.1,s.2.2.2.2.1,s.2.2.2.2.2.1,())))))
def a5p(s:Z59):Option (Z59 ⊕ Z6):= cond (decide (s.2.2.2.2.1<s.2.2.2.1)) ((m0h s.2.2.1 s.2.2.2.2.1).bind fun x1=> (y0o a3y (s.1,s.2.1,x1,s.2.2.1,s.2.2.2.1,s.2.2.2.2.1,())).bind fun w3=> some (.inl (w3.1,w3.2.1,w3.2.2.1,w3.2.2.2.1,wrap .i64 (w3.2.2.2.2.1+1),()))) (some (.inr (s.1,s.2.1,())))
def a5q(s:Z57):Option (Z57 ⊕ ((List Int)×Unit)):= cond (decide (s.2.2.2.1<s.2.2.1)) ((m0h s.2.1 s.2.2.2.1).bind fun x5=> cond (decide (s.1<0)) none (cond ((decide (0≤s.2.2.2.1))&&(decide (s.2.2.2.1<(s.2.2.2.2.1.length:Int)))) (some (.inl (s.1,s.2.1,s.2.2.1,wrap .i64 (s.2.2.2.1+1),a20 s.2.2.2.2.1 (a00 s.2.2.2.1) (A0k .i64 x5 s.1),()))) none)) (some (.inr (s.2.2.2.2.1,())))
def a7K(x:(List Int)):Option (List Int):= (y0o a5p (x,0,x,(x.length:Int),0,())).bind fun w4=> cond ((decide (0≤(w4.1.length:Int)))&&((decide ((w4.1.length:Int)≤(w4.1.length:Int)))&&(lim (a00 (w4.1.length:Int))))) ((y0o a5q (w4.2.1,w4.1,(w4.1.length:Int),0,a01 (a00 (w4.1.length:Int)) 0,())).bind fun w6=> some w6.1) none
def b3V:FSem:=⟨[.v QL],[.o QI],a7K⟩
def d6n:Hints:=⟨[(58,[.sv 0 QL,.sv 3 QI,.sv 9 QL,.sv 10 QI,.sv 11 QI],[(.exit 0,[.sv 0 QL,.sv 3 QI])]),(250,[.sv 3 QI,.sv 29 QL,.sv 30 QI,.sv 31 QI,.own 6 6 QI],[(.exit 4,[.own 6 6 QI])]),(7474,[.sv 0 QL,.sv 3 QI,.sv 5 QI,.sv 9 QL,.sv 10 QI,.sv 11 QI],[(.exit 2,[.sv 0 QL,.sv 3 QI,.sv 9 QL,.sv 10 QI,.sv 11 QI])])],[],[(5,[.v,.v,.v,.v,.v,.v,.v,.x])]⟩
def a3q(s:Z60):Option (Z60 ⊕ (Int×Int×Unit)):= cond (decide (s.2.2.2.2.1<(s.1.length:Int))) ((m0h s.1 s.2.2.2.2.1).bind fun x1=> (m0h s.2.1 (wrap .i64 (s.2.2.2.2.1-1))).bind fun x2=> (m0h s.1 s.2.2.2.2.1).bind fun x3=> (m0h s.1 s.2.2.2.2.1).bind fun x4=> (m0h s.2.1 (wrap .i64 (s.2.2.2.2.1-1))).bind fun x5=> (m0h s.2.1 (wrap .i64 (s.2.2.2.2.1-1))).bind fun x6=> some (.inl (s.1,s.2.1,wrap .i64 (s.2.2.1+(wrap .i64 (x1*x2))),wrap .i64 (s.2.2.2.1+(wrap .i64 ((wrap .i64 (x3*x4))+(wrap .i64 (x5*x6))))),wrap .i64 (s.2.2.2.2.1+1),()))) (some (.inr (s.2.2.1,s.2.2.2.1,())))
def a3r(s:(Int×Int×Unit)):Option ((Int×Int×Unit) ⊕ (Int×Int×Unit)):= cond (decide (s.2.1≥1099511627776)) (some (.inl (A0k .i64 s.1 1,A0k .i64 s.2.1 1,()))) (some (.inr (s.1,s.2.1,())))
def a4R(x:Z9):Option Int:= (y0o a3q (x.1,x.2.1,0,0,x.2.2,())).bind fun w7=> (y0o a3r (w7.1,w7.2.1,())).bind fun w8=> cond (w8.2.1==0) (some 0) (cond (w8.2.1==0) none ((show Option (Int×Unit)from cond (w8.2.1==0) none (cond (decide ((a05 (A0j .i64 w8.1 15) w8.2.1)<0)) (some (wrap .i64 ((wrap .i64 (a07 (A0j .i64 w8.1 15) w8.2.1))-1),())) (some (wrap .i64 (a07 (A0j .i64 w8.1 15) w8.2.1),())))).bind fun z9=> some (v0o (v0n z9.1 (-16383)) 16383)))
def b1b:FSem:=⟨[.v QL,.v QL,.v QI],[.v QI],a4R⟩
def d6o:Hints:=⟨[(58,[.sv 0 QL,.sv 1 QL,.sv 7 QI,.sv 8 QI,.sv 9 QI],[(.exit 0,[.sv 7 QI,.sv 8 QI])]),(60,[.sv 7 QI,.sv 8 QI],[(.exit 2,[.sv 7 QI,.sv 8 QI])])],[(255,[(.normal,[.sv 10 QI])])],[(5,[.v,.v,.v,.v,.v,.v,.v,.v,.v,.v,.v,.x,.x]),(6,[.v,.v,.v,.v,.v,.v,.v,.v,.v,.v,.v,.v,.v,.v,.v,.v,.v,.v,.v,.v,.v,.v,.x,.x])]⟩
def a3d(s:(Int×Int×Z70)):Option ((Int×Int×Z70) ⊕ Z70):= cond (decide (s.2.2.2.1≥s.2.1)) (cond ((decide (0≤s.2.2.2.1))&&(decide (s.2.2.2.1<(s.2.2.2.2.1.length:Int)))) (cond ((decide (0≤(wrap .i64 (s.2.2.2.1-1))))&&(decide ((wrap .i64 (s.2.2.2.1-1))<(s.2.2.2.2.2.1.length:Int)))) ((a2x (wrap .i64 ((a04 s.2.2.2.2.1 (a00 s.2.2.2.1) 0)-(A0k .i64 (wrap .i64 (s.2.2.1*(a04 s.2.2.2.2.2.1 (a00 (wrap .i64 (s.2.2.2.1-1))) 0))) 14)))).bind fun y6=> cond ((decide (0≤s.2.2.2.1))&&(decide (s.2.2.2.1<(s.2.2.2.2.1.length:Int)))) ((a2x (wrap .i64 ((a04 s.2.2.2.2.2.1 (a00 (wrap .i64 (s.2.2.2.1-1))) 0)-(A0k .i64 (wrap .i64 (s.2.2.1*(a04 s.2.2.2.2.1 (a00 s.2.2.2.1) 0))) 14)))).bind fun y7=> cond ((decide (0≤s.2.2.2.1))&&(decide (s.2.2.2.1<(s.2.2.2.2.2.1.length:Int)))) (some (.inl (s.1,s.2.1,s.2.2.1,wrap .i64 (s.2.2.2.1-1),a20 s.2.2.2.2.1 (a00 s.2.2.2.1) y6,a20 s.2.2.2.2.2.1 (a00 s.2.2.2.1) y7,s.2.2.2.2.2.2.1,()))) none) none) none) none) (some (.inr (s.1,s.2.1,s.2.2.2.2.1,s.2.2.2.2.2.1,s.2.2.2.2.2.2.1,())))
def a3e(s:Z70):Option (Z70 ⊕ ((List Int)×Unit)):= cond (decide (s.2.1≤s.1)) ((a4R (s.2.2.1,s.2.2.2.1,s.2.1)).bind fun y5=> cond (lim ((a02 s.2.2.2.2.1)+1)) ((y0o a3d (s.1,s.2.1,y5,wrap .i64 ((s.2.2.1.length:Int)-1),s.2.2.1,s.2.2.2.1,a03 s.2.2.2.2.1 [y5],())).bind fun w8=> some (.inl (w8.1,wrap .i64 (w8.2.1+1),w8.2.2.1,w8.2.2.2.1,w8.2.2.2.2.1,()))) none) (some (.inr (s.2.2.2.2.1,())))
def a6I(x:((List Int)×Int)):Option ((List Int)×Int):= (show Option Z16 from cond (decide (x.2<1)) (some (x.1,x.2,true,())) (cond (decide (x.2 > 32)) (some (x.1,x.2,true,())) (some (x.1,x.2,decide ((x.1.length:Int) > 4096),())))).bind fun z1=> cond z1.2.2.1 (some ([],1)) ((a2v z1.1).bind fun y2=> cond (!y2) (some ([],6)) ((a7K z1.1).bind fun y3=> (a1d y3).bind fun y4=> cond ((decide (0≤z1.2.1))&&(lim (a00 z1.2.1))) ((y0o a3e (z1.2.1,1,y3,y4,[],())).bind fun w9=> some (w9.1,0)) none))
def b3t:FSem:=⟨[.v QL,.v QI],[.o QI,.v QI],a6I⟩
def d6p:Hints:=⟨[(1018,[.sv 1 QI,.sv 9 QI,.own 6 6 QI,.own 7 7 QI,.own 8 8 QI],[(.exit 0,[.own 8 8 QI])]),(260686,[.sv 1 QI,.sv 9 QI,.sv 10 QI,.sv 11 QI,.own 6 6 QI,.own 7 7 QI,.own 8 8 QI],[(.exit 2,[.sv 1 QI,.sv 9 QI,.own 6 6 QI,.own 7 7 QI,.own 8 8 QI])])],[(6,[(.normal,[.sv 0 QL,.sv 1 QI,.sv 24 .bool])])],[(16,[.q,.v,.q,.q,.q,.v,.v,.q,.q,.v,.x])]⟩
def a2a(s:Z44):Option (Z44 ⊕ (((List Int)×Unit) ⊕ Z6)):= cond (decide (s.2.2.2.1<s.2.2.1)) ((m0h s.2.1 s.2.2.2.1).bind fun x2=> (show Option ((List Int)×Z33)from cond (decide (x2<(-16383))) (some (s.1,s.2.1,s.2.2.1,s.2.2.2.1,true,())) (some (s.1,s.2.1,s.2.2.1,s.2.2.2.1,decide (x2 > 16383),()))).bind fun z3=> cond z3.2.2.2.2.1 (some (.inr (Sum.inr (([],1,()))))) (some (.inl (z3.1,z3.2.1,z3.2.2.1,wrap .i64 (z3.2.2.2.1+1),())))) (some (.inr (Sum.inl (s.1,()))))
def a3Z(s:((List Int)×(Int×(Int×((List Int)×Z75))))):Option (((List Int)×(Int×(Int×((List Int)×Z75)))) ⊕ Z57):= cond (decide (s.2.2.2.2.2.2.2.2.1<s.2.2.2.2.2.2.2.1)) ((m0h s.2.2.2.2.2.2.1 s.2.2.2.2.2.2.2.2.1).bind fun x8=> (m0h s.1 (wrap .i64 ((wrap .i64 (s.2.1-1))-s.2.2.2.2.2.2.2.2.1))).bind fun x9=> cond (lim ((a02 s.2.2.2.2.2.2.2.2.2.1)+1)) (some (.inl (s.1,s.2.1,s.2.2.1,s.2.2.2.1,s.2.2.2.2.1,s.2.2.2.2.2.1,s.2.2.2.2.2.2.1,s.2.2.2.2.2.2.2.1,wrap .i64 (s.2.2.2.2.2.2.2.2.1+1),a03 s.2.2.2.2.2.2.2.2.2.1 [wrap .i64 (x8-(A0k .i64 (wrap .i64 (s.2.2.1*x9)) 14))],()))) none) (some (.inr (s.2.2.1,s.2.2.2.1,s.2.2.2.2.1,s.2.2.2.2.2.1,s.2.2.2.2.2.2.2.2.2.1,())))
def a5T(s:Z44):Option (Z44 ⊕ ((List Int)×Unit)):= cond (decide (s.2.2.2.1<s.2.2.1)) ((m0h s.2.1 s.2.2.2.1).bind fun x7=> cond ((decide (0≤(wrap .i64 (s.2.2.2.1+1))))&&(lim (a00 (wrap .i64 (s.2.2.2.1+1))))) ((y0o a3Z (s.1,s.2.2.2.1,x7,s.2.1,s.2.2.1,s.2.2.2.1,s.1,(s.1.length:Int),0,[],())).bind fun w10=> cond (lim ((a02 w10.2.2.2.2.1)+1)) (some (.inl (a03 w10.2.2.2.2.1 [w10.1],w10.2.1,w10.2.2.1,wrap .i64 (w10.2.2.2.1+1),()))) none) none) (some (.inr (s.1,())))
def a8z(x:(List Int)):Option ((List Int)×Int):= (show Option ((List Int)×(Bool×Unit))from cond (decide ((x.length:Int)<1)) (some (x,true,())) (some (x,decide ((x.length:Int) > 32),()))).bind fun z1=> cond z1.2.1 (some ([],1)) ((y0o a2a (z1.1,z1.1,(z1.1.length:Int),0,())).bind fun w4=> match w4 with |.inl a5=>((y0o a5T ([],a5.1,(a5.1.length:Int),0,())).bind fun w11=> some (w11.1,0)) |.inr b6=>some (b6.1,b6.2.1))
def b4T:FSem:=⟨[.v QL],[.v QL,.v QI],a8z⟩
def d6q:Hints:=⟨[(58,[.sv 0 QL,.sv 20 QL,.sv 21 QI,.sv 22 QI],[(.exit 0,[.sv 0 QL]),(.ret,[.sv 2 QL,.sv 3 QI])]),(250,[.sv 6 QL,.sv 34 QL,.sv 35 QI,.sv 36 QI],[(.exit 2,[.sv 6 QL])]),(256410,[.sv 6 QL,.sv 7 QI,.sv 8 QI,.sv 34 QL,.sv 35 QI,.sv 36 QI,.sv 44 QL,.sv 45 QI,.sv 46 QI,.own 9 9 QI],[(.exit 4,[.sv 8 QI,.sv 34 QL,.sv 35 QI,.sv 36 QI,.own 9 9 QI])])],[(6,[(.normal,[.sv 0 QL,.sv 19 .bool])]),(3737,[(.normal,[.sv 0 QL,.sv 20 QL,.sv 21 QI,.sv 22 QI,.sv 31 .bool])])],[]⟩
def a2b(s:Z59):Option (Z59 ⊕ (Z6 ⊕ Z14)):= cond (decide (s.2.2.2.2.1<s.2.2.2.1)) ((m0h s.2.2.1 s.2.2.2.2.1).bind fun x2=> (show Option ((List Int)×(Int×Z33))from cond (decide (x2<(-35184372088832))) (some (s.1,s.2.1,s.2.2.1,s.2.2.2.1,s.2.2.2.2.1,true,())) (some (s.1,s.2.1,s.2.2.1,s.2.2.2.1,s.2.2.2.2.1,decide (x2 > 35184372088832),()))).bind fun z3=> cond z3.2.2.2.2.2.1 (some (.inr (Sum.inr ((0,1,[],()))))) (some (.inl (z3.1,z3.2.1,z3.2.2.1,z3.2.2.2.1,wrap .i64 (z3.2.2.2.2.1+1),())))) (some (.inr (Sum.inl (s.1,s.2.1,()))))
def a2c(s:((List Int)×(Int×Z75))):Option (((List Int)×(Int×Z75)) ⊕ Z40):= cond (decide (s.2.2.2.2.2.2.1<s.2.2.2.2.2.1)) ((m0h s.2.2.2.2.1 s.2.2.2.2.2.2.1).bind fun x8=> cond (decide (s.2.2.1<0)) none ((a1O (A0k .i64 (wrap .i64 (x8+s.2.2.2.1)) s.2.2.1,s.2.1)).bind fun y9=> cond (!y9) (some (.inr (s.1,s.2.1,s.2.2.1,s.2.2.2.2.2.2.2.1,()))) (cond (lim ((a02 s.2.2.2.2.2.2.2.1)+1)) (some (.inl (s.1,s.2.1,s.2.2.1,s.2.2.2.1,s.2.2.2.2.1,s.2.2.2.2.2.1,wrap .i64 (s.2.2.2.2.2.2.1+1),a03 s.2.2.2.2.2.2.2.1 [A0k .i64 (wrap .i64 (x8+s.2.2.2.1)) s.2.2.1],()))) none))) (some (.inr (s.1,s.2.1,s.2.2.1,s.2.2.2.2.2.2.2.1,())))
def a2R(s:Z13):Option (Z13 ⊕ (Unit ⊕ Z14)):= cond (decide (s.2.2.1≤14)) ((show Option Z30 from cond (decide (s.2.2.1 > 0)) (cond (decide ((wrap .i64 (s.2.2.1-1))<0)) none (some (s.1,s.2.1,s.2.2.1,A0j .i64 1 (wrap .i64 (s.2.2.1-1)),()))) (some (s.1,s.2.1,s.2.2.1,0,()))).bind fun z7=> cond ((decide (0≤(z7.1.length:Int)))&&(lim (a00 (z7.1.length:Int)))) ((y0o a2c (z7.1,z7.2.1,z7.2.2.1,z7.2.2.2.1,z7.1,(z7.1.length:Int),0,[],())).bind fun w10=> cond ((w10.2.2.2.1.length:Int)==(w10.1.length:Int)) (some (.inr (Sum.inr ((wrap .i64 (14-w10.2.2.1),0,w10.2.2.2.1,()))))) (some (.inl (w10.1,w10.2.1,wrap .i64 (w10.2.2.1+1),())))) none) (some (.inr (Sum.inl ())))
def a8A(x:((List Int)×Int)):Option Z3:= (show Option Z16 from cond (decide ((x.1.length:Int)<1)) (some (x.1,x.2,true,())) (cond (decide ((x.1.length:Int) > 32)) (some (x.1,x.2,true,())) (cond (decide (x.2<2)) (some (x.1,x.2,true,())) (some (x.1,x.2,decide (x.2 > 16),()))))).bind fun z1=> cond z1.2.2.1 (some ([],0,1)) ((y0o a2b (z1.1,z1.2.1,z1.1,(z1.1.length:Int),0,())).bind fun w4=> match w4 with |.inl a5=>((y0o a2R (a5.1,a5.2.1,0,())).bind fun w11=> match w11 with |.inl a12=>some ([],0,6) |.inr b13=>some (b13.2.2.1,b13.1,b13.2.1)) |.inr b6=>some (b6.2.2.1,b6.1,b6.2.1))
def b4U:FSem:=⟨[.v QL,.v QI],[.o QI,.v QI,.v QI],a8A⟩
def d6r:Hints:=⟨[(58,[.sv 0 QL,.sv 1 QI,.sv 31 QL,.sv 32 QI,.sv 33 QI],[(.exit 0,[.sv 0 QL,.sv 1 QI]),(.ret,[.sv 5 QI,.sv 6 QI,.own 4 4 QI])]),(122,[.sv 0 QL,.sv 1 QI,.sv 9 QI],[(.exit 2,[]),(.ret,[.sv 5 QI,.sv 6 QI,.own 4 11 QI])]),(125242,[.sv 0 QL,.sv 1 QI,.sv 9 QI,.sv 10 QI,.sv 56 QL,.sv 57 QI,.sv 58 QI,.own 11 11 QI],[(.exit 4,[.sv 0 QL,.sv 1 QI,.sv 9 QI,.own 11 11 QI])])],[(6,[(.normal,[.sv 0 QL,.sv 1 QI,.sv 30 .bool])]),(3737,[(.normal,[.sv 0 QL,.sv 1 QI,.sv 31 QL,.sv 32 QI,.sv 33 QI,.sv 42 .bool])]),(3913,[(.normal,[.sv 0 QL,.sv 1 QI,.sv 9 QI,.sv 10 QI])])],[]⟩
def a3U(x:Z3):Option Z3:= (a6I (x.1,x.2.1)).bind fun y1=> cond (y1.2 != 0) (some ([],0,y1.2)) ((a8z y1.1).bind fun y2=> cond (y2.2 != 0) (some ([],0,y2.2)) ((a8A (y2.1,x.2.2)).bind fun y3=> some (y3.1,y3.2.1,y3.2.2)))
def b2C:FSem:=⟨[.v QL,.v QI,.v QI],[.o QI,.v QI,.v QI],a3U⟩
def d6s:Hints:=⟨[],[],[]⟩
def c1a(s:((List Int)×Z65)):Option (((List Int)×Z65) ⊕ ((List Int)×Z53)):= cond (decide (s.2.2.2.2.2.2.2.1<(s.1.length:Int))) ((m0h s.1 s.2.2.2.2.2.2.2.1).bind fun x3=> (m0h s.1 (wrap .i64 (s.2.2.2.2.2.2.2.1-s.2.2.2.2.2.1))).bind fun x4=> some (.inl (s.1,s.2.1,s.2.2.1,s.2.2.2.1,s.2.2.2.2.1,s.2.2.2.2.2.1,wrap .i64 (s.2.2.2.2.2.2.1+(v0n (wrap .i64 (x3-x4)) (wrap .i64 (0-(wrap .i64 (x3-x4)))))),wrap .i64 (s.2.2.2.2.2.2.2.1+1),()))) (some (.inr (s.1,s.2.1,s.2.2.1,s.2.2.2.1,s.2.2.2.2.1,s.2.2.2.2.2.1,s.2.2.2.2.2.2.1,())))
def c1b(s:((List Int)×Z35)):Option (((List Int)×Z35) ⊕ (Int×Unit)):= cond (decide (s.2.2.2.2.2.1≤s.2.2.1)) ((y0o c1a (s.1,s.2.1,s.2.2.1,s.2.2.2.1,s.2.2.2.2.1,s.2.2.2.2.2.1,0,s.2.2.1,())).bind fun w5=> (show Option ((List Int)×(Int×Int×Int×Z21))from cond (w5.2.2.2.2.2.1==w5.2.1) (some (w5.1,w5.2.1,w5.2.2.1,w5.2.2.2.1,w5.2.2.2.2.1,w5.2.2.2.2.2.1,w5.2.2.2.2.2.2.1,true,())) (some (w5.1,w5.2.1,w5.2.2.1,w5.2.2.2.1,w5.2.2.2.2.1,w5.2.2.2.2.2.1,w5.2.2.2.2.2.2.1,decide (w5.2.2.2.2.2.2.1<w5.2.2.2.2.1),()))).bind fun z6=> cond z6.2.2.2.2.2.2.2.1 (some (.inl (z6.1,z6.2.1,z6.2.2.1,z6.2.2.2.2.2.1,z6.2.2.2.2.2.2.1,wrap .i64 (z6.2.2.2.2.2.1+1),()))) (some (.inl (z6.1,z6.2.1,z6.2.2.1,z6.2.2.2.1,z6.2.2.2.2.1,wrap .i64 (z6.2.2.2.2.2.1+1),())))) (some (.inr (s.2.2.2.1,())))
def b1L(x:Z3):Option (Int×Int):= (show Option Z33 from cond (decide (x.2.1<2)) (some (x.1,x.2.1,x.2.2,true,())) (cond (decide (x.2.1 > x.2.2)) (some (x.1,x.2.1,x.2.2,true,())) (cond (decide (x.2.2 > 1024)) (some (x.1,x.2.1,x.2.2,true,())) (some (x.1,x.2.1,x.2.2,decide ((x.1.length:Int) > 4096),()))))).bind fun z1=> cond z1.2.2.2.1 (some (0,1)) (cond (decide ((z1.1.length:Int)≤z1.2.2.1)) (some (0,7)) ((a4q z1.1).bind fun y2=> cond (!y2) (some (0,6)) ((y0o c1b (z1.1,z1.2.1,z1.2.2.1,0,0,z1.2.1,())).bind fun w7=> some (w7.1,0))))
def b7V:FSem:=⟨[.v QL,.v QI,.v QI],[.v QI,.v QI],b1L⟩
def d6t:Hints:=⟨[(506,[.sv 0 QL,.sv 1 QI,.sv 2 QI,.sv 8 QI,.sv 9 QI,.sv 10 QI],[(.exit 0,[.sv 8 QI])]),(129610,[.sv 0 QL,.sv 1 QI,.sv 2 QI,.sv 8 QI,.sv 9 QI,.sv 10 QI,.sv 11 QI,.sv 12 QI],[(.exit 2,[.sv 0 QL,.sv 1 QI,.sv 2 QI,.sv 8 QI,.sv 9 QI,.sv 10 QI,.sv 11 QI])])],[(6,[(.normal,[.sv 0 QL,.sv 1 QI,.sv 2 QI,.sv 29 .bool])]),(32403,[(.normal,[.sv 0 QL,.sv 1 QI,.sv 2 QI,.sv 8 QI,.sv 9 QI,.sv 10 QI,.sv 11 QI,.sv 74 .bool])])],[(15,[.v,.v,.v,.v,.v,.v,.v,.v,.v,.v,.x,.x])]⟩
def a6h(s:((List Int)×Z83)):Option (((List Int)×Z83) ⊕ Z47):= cond (decide (s.2.2.2.2.1<s.2.2.2.1)) ((m0h s.2.2.1 s.2.2.2.2.1).bind fun x3=> (a4r (s.1,s.2.2.2.2.1,s.2.1,s.2.2.2.2.2.2.1)).bind fun y4=> (a7r (wrap .i64 (x3-y4))).bind fun y5=> cond (!y5) (some (.inr (Sum.inr ((6,[],()))))) (cond (lim ((a02 s.2.2.2.2.2.1)+1)) (some (.inl (s.1,s.2.1,s.2.2.1,s.2.2.2.1,wrap .i64 (s.2.2.2.2.1+1),a03 s.2.2.2.2.2.1 [wrap .i64 (x3-y4)],s.2.2.2.2.2.2.1,()))) none)) (some (.inr (Sum.inl (s.2.2.2.2.2.1,()))))
def a9h(x:((List Int)×(Int×(List Int)))):Option ((List Int)×Int):= (a8n (x.2.1,x.2.2)).bind fun y1=> cond (!y1) (some ([],1)) ((a4q x.1).bind fun y2=> cond (!y2) (some ([],6)) (cond ((decide (0≤(x.1.length:Int)))&&(lim (a00 (x.1.length:Int)))) ((y0o a6h (x.1,x.2.1,x.1,(x.1.length:Int),0,[],x.2.2,())).bind fun w6=> match w6 with |.inl a7=>some (a7.1,0) |.inr b8=>some (b8.2.1,b8.1)) none))
def a9i:FSem:=⟨[.v QL,.v QI,.v (.arr 3 QI)],[.o QI,.v QI],a9h⟩
def d6u:Hints:=⟨[(250,[.sv 0 QL,.sv 1 QI,.sv 22 QL,.sv 23 QI,.sv 24 QI,.own 8 8 QI,.vp 5 (.arr 3 QI)],[(.exit 0,[.own 8 8 QI]),(.ret,[.sv 7 QI,.own 6 6 QI])])],[],[]⟩
def d1B:Hints:=⟨[],[],[]⟩
def c2T(x:Unit):Option (List (List Int)):=A0f (a9P [] [] [0] []) d1B Tryz.f305 [] [.o (.arr 3 (.int .i64))] x
def b3u:FSem:=⟨[],[.o (.arr 3 QI)],c2T⟩
def d1C:Hints:=⟨[(122,[.sv 0 QL,.sv 1 QI,.sv 7 QI,.sv 8 .bool,.sv 25 QI,.sv 26 QI,.own 24 1024 (.arr 3 QI),.box 4 (.arr 3 QI),.box 6 (.arr 3 QI),.ptr 4 4 [],.ptr 6 6 []],[(.exit 0,[.sv 8 .bool,.box 4 (.arr 3 QI),.box 6 (.arr 3 QI),.ptr 4 4 [],.ptr 6 6 []])]),(501370,[.sv 0 QL,.sv 1 QI,.sv 7 QI,.sv 8 .bool,.sv 13 QI,.sv 25 QI,.sv 26 QI,.sv 40 QI,.sv 41 QI,.own 24 1024 (.arr 3 QI),.own 39 11 QI,.box 4 (.arr 3 QI),.box 6 (.arr 3 QI),.box 10 (.arr 3 QI),.ptr 4 4 [],.ptr 6 6 [],.ptr 10 10 []],[(.exit 2,[.sv 0 QL,.sv 1 QI,.sv 7 QI,.sv 8 .bool,.sv 13 QI,.sv 25 QI,.sv 26 QI,.own 24 1024 (.arr 3 QI),.box 4 (.arr 3 QI),.box 6 (.arr 3 QI),.box 10 (.arr 3 QI),.ptr 4 4 [],.ptr 6 6 [],.ptr 10 10 []])])],[(6,[(.normal,[.sv 0 QL,.sv 1 QI,.sv 21 .bool,.box 4 (.arr 3 QI),.ptr 4 4 []])]),(125343,[(.normal,[.sv 0 QL,.sv 1 QI,.sv 7 QI,.sv 8 .bool,.sv 13 QI,.sv 25 QI,.sv 26 QI,.sv 58 .bool,.own 24 1024 (.arr 3 QI),.box 4 (.arr 3 QI),.box 6 (.arr 3 QI),.box 10 (.arr 3 QI),.ptr 4 4 [],.ptr 6 6 [],.ptr 10 10 []])])],[]⟩
def b7W(x:((List Int)×Int)):Option ((List Int)×Int):=A0f (a9P [(250,a9i),(305,b3u)] [] [0,1,5,7,8,11,12,13,15] []) d1C Tryz.f249 [.v (.list false (.int .i64)),.v (.int .i64)] [.v (.arr 3 (.int .i64)),.v (.int .i64)] x
def b7X:FSem:=⟨[.v QL,.v QI],[.v (.arr 3 QI),.v QI],b7W⟩
def a3z(x:(List Int)):Option (a1R×Bool):= (b1L (x,16,256)).bind fun y1=> cond (y1.2 != 0) (some ((0,0,0,0,0,[],a01 3 0,[],[],(0,[],()),[],()),false)) ((b7W (x,y1.1)).bind fun y2=> cond (y2.2 != 0) (some ((0,0,0,0,0,[],a01 3 0,[],[],(0,[],()),[],()),false)) ((a9h (x,y1.1,y2.1)).bind fun y3=> cond (y3.2 != 0) (some ((0,0,0,0,0,[],a01 3 0,[],[],(0,[],()),[],()),false)) ((a3U (y3.1,4,12)).bind fun y4=> cond (y4.2.2 != 0) (some ((0,0,0,0,0,[],a01 3 0,[],[],(0,[],()),[],()),false)) (some ((4,0,0,y4.2.1,y1.1,y4.1,y2.1,[],[],(0,[],()),[],()),true)))))
def b6U:FSem:=⟨[.v QL],[.v Q42,.v .bool],a3z⟩
def d6v:Hints:=⟨[],[],[]⟩
def a0P(x:(Int×(Int×((List Int)×b2o)))):Option ((List Int)×b2o):= (a3U (x.2.2.1,x.1,x.2.1)).bind fun y1=> cond (y1.2.2==0) (cond (lim ((a02 x.2.2.2)+1)) (some (x.2.2.1,a03 x.2.2.2 ([(3,0,0,y1.2.1,0,y1.1,a01 3 0,[],[],(0,[],()),[],())]:List a1R))) none) (some (x.2.2.1,x.2.2.2))
def b2d:FSem:=⟨[.v QI,.v QI,.r false (.b QL),.r false (.b (.list true Q42))],[],a0P⟩
def d6w:Hints:=⟨[],[],[]⟩
def a2l(s:(Int×c5m)):Option ((Int×c5m) ⊕ c5m):= cond (decide (s.1<5)) (cond (lim ((a02 s.2.1)+1)) (some (.inl (wrap .i64 (s.1+1),a03 s.2.1 ([(2,0,s.1,0,0,[],a01 3 0,[],[],(0,[],()),[],())]:List a1R),s.2.2.1,()))) none) (some (.inr (s.2.1,s.2.2.1,())))
def a6J(x:((List Int)×Int)):Option b2o:= (a6g x.1).bind fun y1=> (show Option (Int×((List Int)×c7V))from cond (decide (x.2≥1)) ((a0P (4,12,x.1,([(0,0,0,0,0,[],a01 3 0,[],[],(0,[],()),[],()),(1,0,0,0,0,[],a01 3 0,[],[],(0,[],()),[],()),(2,0,y1,0,0,[],a01 3 0,[],[],(0,[],()),[],())]:List a1R))).bind fun y2=> (a0P (8,12,y2.1,y2.2)).bind fun y3=> some (x.2,y3.1,y3.2,())) (some (x.2,x.1,([(0,0,0,0,0,[],a01 3 0,[],[],(0,[],()),[],()),(1,0,0,0,0,[],a01 3 0,[],[],(0,[],()),[],()),(2,0,y1,0,0,[],a01 3 0,[],[],(0,[],()),[],())]:List a1R),()))).bind fun z4=> (show Option (Int×c5m)from cond (decide (z4.1≥2)) (cond (lim ((a02 z4.2.2.1)+1)) (cond (lim ((a02 (a03 z4.2.2.1 ([(5,0,0,0,0,[],a01 3 0,([(16,4,())]:List (Int×Int×Unit)),[],(0,[],()),[],())]:List a1R)))+1)) ((a3z z4.2.1).bind fun y5=> cond y5.2 (cond (lim ((a02 (a03 (a03 z4.2.2.1 ([(5,0,0,0,0,[],a01 3 0,([(16,4,())]:List (Int×Int×Unit)),[],(0,[],()),[],())]:List a1R)) ([(5,0,0,0,0,[],a01 3 0,([(32,3,()),(16,5,())]:List (Int×Int×Unit)),[],(0,[],()),[],())]:List a1R)))+1)) (some (z4.1,a03 (a03 (a03 z4.2.2.1 ([(5,0,0,0,0,[],a01 3 0,([(16,4,())]:List (Int×Int×Unit)),[],(0,[],()),[],())]:List a1R)) ([(5,0,0,0,0,[],a01 3 0,([(32,3,()),(16,5,())]:List (Int×Int×Unit)),[],(0,[],()),[],())]:List a1R)) ([y5.1]:List a1R),z4.2.1,())) none) (some (z4.1,a03 (a03 z4.2.2.1 ([(5,0,0,0,0,[],a01 3 0,([(16,4,())]:List (Int×Int×Unit)),[],(0,[],()),[],())]:List a1R)) ([(5,0,0,0,0,[],a01 3 0,([(32,3,()),(16,5,())]:List (Int×Int×Unit)),[],(0,[],()),[],())]:List a1R),z4.2.1,()))) none) none) (some (z4.1,z4.2.2.1,z4.2.1,()))).bind fun z6=> (show Option c7V from cond (decide (z6.1≥3)) ((y0o a2l (0,z6.2.1,z6.2.2.1,())).bind fun w7=> (a0P (1,12,w7.2.1,w7.1)).bind fun y8=> (a0P (2,12,y8.1,y8.2)).bind fun y9=> (a0P (12,14,y9.1,y9.2)).bind fun y10=> (a0P (16,14,y10.1,y10.2)).bind fun y11=> some (y11.2,())) (some (z6.2.1,()))).bind fun z12=> some z12.1
def b3v:FSem:=⟨[.v QL,.v QI],[.v (.list false Q42)],a6J⟩
def d6x:Hints:=⟨[(4050,[.sv 50 QI,.box 5 (.list true Q42),.box 2 QL,.ptr 5 5 [],.clo 6 193 [2,5]],[(.exit 0,[.box 5 (.list true Q42),.box 2 QL,.ptr 5 5 [],.clo 6 193 [2,5]])])],[(15,[(.normal,[.sv 1 QI,.box 2 QL,.box 5 (.list true Q42),.ptr 2 2 [],.ptr 5 5 [],.clo 6 193 [2,5]])]),(31,[(.normal,[.sv 1 QI,.box 5 (.list true Q42),.box 2 QL,.ptr 5 5 [],.clo 6 193 [2,5]])]),(63,[(.normal,[.box 5 (.list true Q42),.ptr 5 5 []])])],[]⟩
def a4H(s:((List Int)×Z40)):Option (((List Int)×Z40) ⊕ Z47):= cond (decide (s.2.2.2.1<(s.1.length:Int))) ((m0h s.1 s.2.2.2.1).bind fun x4=> cond ((decide (0≤s.2.2.2.1))&&(decide (s.2.2.2.1≤(s.1.length:Int)))) ((a4A (a06 (a00 s.2.2.2.1) s.1,s.2.1,s.2.2.1)).bind fun y5=> (a5a (wrap .i64 (x4-y5))).bind fun y6=> cond (!y6) (some (.inr (Sum.inr ((6,[],()))))) (cond (lim ((a02 s.2.2.2.2.1)+1)) (some (.inl (s.1,s.2.1,s.2.2.1,wrap .i64 (s.2.2.2.1+1),a03 s.2.2.2.2.1 [wrap .i64 (x4-y5)],()))) none)) none) (some (.inr (Sum.inl (s.2.2.2.2.1,()))))
def a7g(x:Z9):Option ((List Int)×Int):= (show Option Z48 from(a4y (x.2.1,x.2.2)).bind fun y1=> cond (!y1) (some (x.1,x.2.1,x.2.2,true,())) (some (x.1,x.2.1,x.2.2,decide ((x.1.length:Int)<(x.2.1.length:Int)),()))).bind fun z2=> cond z2.2.2.2.1 (some ([],1)) ((a2v z2.1).bind fun y3=> cond (!y3) (some ([],6)) (cond ((decide (0≤(wrap .i64 ((z2.1.length:Int)-(z2.2.1.length:Int)))))&&(lim (a00 (wrap .i64 ((z2.1.length:Int)-(z2.2.1.length:Int)))))) ((y0o a4H (z2.1,z2.2.1,z2.2.2.1,(z2.2.1.length:Int),[],())).bind fun w7=> match w7 with |.inl a8=>some (a8.1,0) |.inr b9=>some (b9.2.1,b9.1)) none))
def b6u:FSem:=⟨[.v QL,.v QL,.v QI],[.o QI,.v QI],a7g⟩
def d6y:Hints:=⟨[(250,[.sv 0 QL,.sv 1 QL,.sv 2 QI,.sv 9 QI,.own 8 8 QI],[(.exit 0,[.own 8 8 QI]),(.ret,[.sv 7 QI,.own 6 6 QI])])],[(6,[(.normal,[.sv 0 QL,.sv 1 QL,.sv 2 QI,.sv 21 .bool])])],[(9,[.v,.v,.v,.v,.v,.v,.v,.v,.v,.v,.x,.x])]⟩
def a5r(s:(Z4×Int×Int×Int×Z84)):Option ((Z4×Int×Int×Int×Z84) ⊕ ((Z4×Z14) ⊕ Z5)):= cond (decide (s.2.2.2.2.1<s.2.2.2.1)) (cond ((decide (0≤s.2.2.2.2.1))&&(decide (s.2.2.2.2.1<(s.2.2.2.2.2.1.length:Int)))) ((a1S s.2.2.2.2.2.2.1).bind fun y6=> (a6b (wrap .i64 ((a04 s.2.2.2.2.2.1 (a00 s.2.2.2.2.1) 0)-y6.1))).bind fun y7=> cond (!y7) (some (.inr (Sum.inr ((6,[],()))))) ((a3c (y6.2,a04 s.2.2.2.2.2.1 (a00 s.2.2.2.2.1) 0)).bind fun y8=> cond ((decide (0≤s.2.2.2.2.1))&&(decide (s.2.2.2.2.1<(s.2.2.2.2.2.1.length:Int)))) (some (.inl (s.1,s.2.1,s.2.2.1,s.2.2.2.1,wrap .i64 (s.2.2.2.2.1+1),a20 s.2.2.2.2.2.1 (a00 s.2.2.2.2.1) (wrap .i64 ((a04 s.2.2.2.2.2.1 (a00 s.2.2.2.2.1) 0)-y6.1)),y8,()))) none)) none) (some (.inr (Sum.inl (s.1,s.2.1,s.2.2.1,s.2.2.2.2.2.1,()))))
def a5s(s:(Z4×Z14)):Option ((Z4×Z14) ⊕ Z47):= cond (decide (s.2.2.1<s.2.1)) ((m0h s.1 s.2.2.1).bind fun x4=> (a9a x4).bind fun y5=> cond (y5.2 != 0) (some (.inr (Sum.inr ((y5.2,[],()))))) ((y0o a5r (s.1,s.2.1,s.2.2.1,(s.2.2.2.1.length:Int),0,s.2.2.2.1,y5.1,())).bind fun w9=> match w9 with |.inl a10=>some (.inl (a10.1,a10.2.1,wrap .i64 (a10.2.2.1+1),a10.2.2.2.1,())) |.inr b11=>some (.inr (Sum.inr ((b11.1,b11.2.1,())))))) (some (.inr (Sum.inl (s.2.2.2.1,()))))
def b0K(x:((List Int)×Z4)):Option ((List Int)×Int):= (a7p x.2).bind fun y1=> cond (!y1) (some ([],1)) ((a5i x.1).bind fun y2=> cond (!y2) (some ([],6)) ((a1d x.1).bind fun y3=> (y0o a5s (x.2,(x.2.length:Int),0,y3,())).bind fun w12=> match w12 with |.inl a13=>some (a13.1,0) |.inr b14=>some (b14.2.1,b14.1)))
def b6V:FSem:=⟨[.v QL,.v (.list false Q3)],[.o QI,.v QI],b0K⟩
def d6z:Hints:=⟨[(250,[.sv 22 (.list false Q3),.sv 23 QI,.sv 24 QI,.own 6 6 QI],[(.exit 0,[.own 6 6 QI]),(.ret,[.sv 5 QI,.own 4 4 QI])]),(256414,[.sv 22 (.list false Q3),.sv 23 QI,.sv 24 QI,.sv 37 QI,.sv 38 QI,.own 6 6 QI,.box 1030 Q17,.ptr 9 1030 [],.ref 36 6 []],[(.exit 2,[.sv 22 (.list false Q3),.sv 23 QI,.sv 24 QI,.own 6 6 QI]),(.ret,[.sv 5 QI,.own 4 4 QI])])],[],[]⟩
def b1M(x:(a1R×(List Int))):Option (Int×a1R):= (show Option ((List Int)×((List Int)×(Int×b5v)))from cond (x.1.1==2) ((a4F (x.2,x.1.2.2.1)).bind fun y1=> some (x.2,y1.1,y1.2,x.1,())) (cond (x.1.1==3) ((a7g (x.2,x.1.2.2.2.2.2.1,x.1.2.2.2.1)).bind fun y2=> some (x.2,y2.1,y2.2,x.1,())) (cond (x.1.1==4) ((a9h (x.2,x.1.2.2.2.2.1,x.1.2.2.2.2.2.2.1)).bind fun y3=> cond (y3.2==0) ((a7g (y3.1,x.1.2.2.2.2.2.1,x.1.2.2.2.1)).bind fun y4=> some (y3.1,y4.1,y4.2,x.1,())) (some (y3.1,[],y3.2,x.1,()))) (cond (x.1.1==5) ((b0K (x.2,x.1.2.2.2.2.2.2.2.1)).bind fun y5=> some (x.2,y5.1,y5.2,x.1,())) (some (x.2,[],0,x.1,())))))).bind fun z6=> cond (z6.2.2.1 != 0) (some (z6.2.2.1,z6.2.2.2.1)) ((a4z (z6.2.2.2.1,(z6.1.length:Int))).bind fun y7=> cond ((decide (0≤y7))&&(decide (y7≤(z6.1.length:Int)))) ((a1d (a06 (a00 y7) z6.1)).bind fun y8=> some (0,z6.2.2.2.1.1,z6.2.2.2.1.2.1,z6.2.2.2.1.2.2.1,z6.2.2.2.1.2.2.2.1,z6.2.2.2.1.2.2.2.2.1,z6.2.2.2.1.2.2.2.2.2.1,z6.2.2.2.1.2.2.2.2.2.2.1,z6.2.2.2.1.2.2.2.2.2.2.2.1,y8,z6.2.2.2.1.2.2.2.2.2.2.2.2.2.1,z6.2.1,z6.2.2.2.1.2.2.2.2.2.2.2.2.2.2.2)) none)
def b7Y:FSem:=⟨[.r false (.b Q42),.v QL],[.v QI],b1M⟩
def d6A:Hints:=⟨[],[(15,[(.normal,[.sv 1 QL,.sv 5 QL,.sv 6 QI,.box pinned Q42,.ptr 0 pinned []])])],[(7,[.v,.p,.p,.q,.q,.p,.p,.q,.q,.x,.x,.q,.q,.q,.x]),(9,[.v,.p,.p,.q,.q,.p,.p,.q,.q,.x,.x,.q,.q,.q,.x]),(11,[.q,.p,.p,.q,.q,.p,.p,.q,.q,.x,.x,.q,.q,.q,.x])]⟩
def a8B(s:Z30):Option (Z30 ⊕ (Int×Unit)):= cond (decide (s.2.2.2.1≤25)) ((a3m (s.2.2.2.1,s.1)).bind fun y2=> cond (decide (y2<s.2.2.1)) (some (.inl (s.1,s.2.2.2.1,y2,wrap .i64 (s.2.2.2.1+1),()))) (some (.inl (s.1,s.2.1,s.2.2.1,wrap .i64 (s.2.2.2.1+1),())))) (some (.inr (s.2.1,())))
def b1N(x:(List Int)):Option Int:= (a3m (0,x)).bind fun y1=> (y0o a8B (x,0,y1,1,())).bind fun w3=> some w3.1
def b7Z:FSem:=⟨[.v QL],[.v QI],b1N⟩
def d6B:Hints:=⟨[(58,[.sv 0 QL,.sv 3 QI,.sv 4 QI,.sv 5 QI],[(.exit 0,[.sv 3 QI])])],[],[]⟩
def a8C(x:(List Int)):Option Int:= (b1N x).bind fun y1=> (a5H x).bind fun y2=> (a3m (y1,x)).bind fun y3=> cond (decide (y2<y3)) (some 31) (some y1)
def b4V:FSem:=⟨[.v QL],[.v QI],a8C⟩
def d6C:Hints:=⟨[],[],[]⟩
def a7L(s:(Int×(Int×(Int×((List Int)×(Int×(Int×((List Int)×(Int×(Int×((List Int)×Z97))))))))))):Option ((Int×(Int×(Int×((List Int)×(Int×(Int×((List Int)×(Int×(Int×((List Int)×Z97)))))))))) ⊕ (Int×(Int×(Int×((List Int)×(Int×Int×Z97)))))):= cond (decide (s.2.2.2.2.2.2.2.2.1<s.2.2.2.2.2.2.2.1)) (cond ((decide (0≤s.2.2.2.2.2.2.2.2.1))&&(decide (s.2.2.2.2.2.2.2.2.1<(s.2.2.2.2.2.2.2.2.2.1.length:Int)))) (cond ((decide (0≤(a04 s.2.2.2.2.2.2.2.2.2.1 (a00 s.2.2.2.2.2.2.2.2.1) 0)))&&(decide ((a04 s.2.2.2.2.2.2.2.2.2.1 (a00 s.2.2.2.2.2.2.2.2.1) 0)≤(s.2.2.2.2.2.2.1.length:Int)))) ((a8C (a06 (a00 (a04 s.2.2.2.2.2.2.2.2.2.1 (a00 s.2.2.2.2.2.2.2.2.1) 0)) s.2.2.2.2.2.2.1)).bind fun y3=> cond (lim ((a02 s.2.2.2.2.2.2.2.2.2.2.2.2.1.2.1)+1)) (cond ((decide (0≤(a04 s.2.2.2.2.2.2.2.2.2.1 (a00 s.2.2.2.2.2.2.2.2.1) 0)))&&(decide ((a04 s.2.2.2.2.2.2.2.2.2.1 (a00 s.2.2.2.2.2.2.2.2.1) 0)≤(s.2.2.2.2.2.2.1.length:Int)))) (some (.inl (s.1,s.2.1,s.2.2.1,s.2.2.2.1,s.2.2.2.2.1,s.2.2.2.2.2.1,a21 (a00 (a04 s.2.2.2.2.2.2.2.2.2.1 (a00 s.2.2.2.2.2.2.2.2.1) 0)) (a06 (a02 s.2.2.2.2.2.2.1) s.2.2.2.2.2.2.1),s.2.2.2.2.2.2.2.1,wrap .i64 (s.2.2.2.2.2.2.2.2.1+1),s.2.2.2.2.2.2.2.2.2.1,s.2.2.2.2.2.2.2.2.2.2.1,s.2.2.2.2.2.2.2.2.2.2.2.1,(s.2.2.2.2.2.2.2.2.2.2.2.2.1.1,a03 s.2.2.2.2.2.2.2.2.2.2.2.2.1.2.1 [y3],s.2.2.2.2.2.2.2.2.2.2.2.2.1.2.2),()))) none) none) none) none) (some (.inr (s.1,s.2.1,s.2.2.1,s.2.2.2.1,s.2.2.2.2.1,s.2.2.2.2.2.1,s.2.2.2.2.2.2.2.2.2.2.1,s.2.2.2.2.2.2.2.2.2.2.2.1,s.2.2.2.2.2.2.2.2.2.2.2.2.1,())))
def a3K(s:(Int×(Int×(Int×((List Int)×(Int×Int×Z81)))))):Option ((Int×(Int×(Int×((List Int)×(Int×Int×Z81))))) ⊕ Z81):= cond (decide (s.2.2.2.2.2.1≤(v0o (v0n s.2.2.1 0) 8))) ((a2T (s.2.2.2.2.2.1,s.1,s.2.1)).bind fun y2=> cond ((y2.length:Int)==0) (some (.inl (s.1,s.2.1,s.2.2.1,s.2.2.2.1,s.2.2.2.2.1,wrap .i64 (s.2.2.2.2.2.1+1),s.2.2.2.2.2.2.1,s.2.2.2.2.2.2.2.1,()))) ((y0o a7L (s.1,s.2.1,s.2.2.1,s.2.2.2.1,s.2.2.2.2.1,s.2.2.2.2.2.1,s.2.2.2.1,(y2.length:Int),0,y2,s.2.2.2.2.2.2.1,s.2.2.2.2.2.2.2.1,(s.2.2.2.2.2.1,[],()),())).bind fun w4=> (a4C (w4.2.2.2.2.2.2.2.2.1,w4.1,w4.2.1,w4.2.2.2.1)).bind fun y5=> (show Option (Int×(Int×(Int×((List Int)×(Int×Int×Int×Bool×Z97)))))from cond (w4.2.2.2.2.1==0) (some (w4.1,w4.2.1,w4.2.2.1,w4.2.2.2.1,w4.2.2.2.2.1,w4.2.2.2.2.2.1,y5,true,w4.2.2.2.2.2.2.1,w4.2.2.2.2.2.2.2.1,w4.2.2.2.2.2.2.2.2.1,())) (some (w4.1,w4.2.1,w4.2.2.1,w4.2.2.2.1,w4.2.2.2.2.1,w4.2.2.2.2.2.1,y5,decide (y5<w4.2.2.2.2.1),w4.2.2.2.2.2.2.1,w4.2.2.2.2.2.2.2.1,w4.2.2.2.2.2.2.2.2.1,()))).bind fun z6=> cond z6.2.2.2.2.2.2.2.1 (some (.inl (z6.1,z6.2.1,z6.2.2.1,z6.2.2.2.1,z6.2.2.2.2.2.2.1,wrap .i64 (z6.2.2.2.2.2.1+1),z6.2.2.2.2.2.2.2.2.1,z6.2.2.2.2.2.2.2.2.2.2.1,()))) (some (.inl (z6.1,z6.2.1,z6.2.2.1,z6.2.2.2.1,z6.2.2.2.2.1,wrap .i64 (z6.2.2.2.2.2.1+1),z6.2.2.2.2.2.2.2.2.1,z6.2.2.2.2.2.2.2.2.2.1,()))))) (some (.inr (s.2.2.2.2.2.2.1,s.2.2.2.2.2.2.2.1,())))
def b0L(x:(Int×Z2)):Option (Z5×Int):= (a6Z (x.1,x.2.1,x.2.2.2)).bind fun y1=> cond (!y1) (some ((0,[],()),1)) ((y0o a3K (x.1,x.2.1,x.2.2.1,x.2.2.2,0,0,(0,[],()),(0,[],()),())).bind fun w7=> some (w7.2.1,0))
def b6W:FSem:=⟨[.v QI,.v QI,.v QI,.v QL],[.v Q11,.v QI],b0L⟩
def d6D:Hints:=⟨[(250,[.sv 0 QI,.sv 1 QI,.sv 2 QI,.sv 3 QL,.sv 11 QI,.sv 12 QI,.box 8 Q11,.box 10 Q11,.ptr 8 8 [],.ptr 10 10 []],[(.exit 0,[.box 8 Q11,.box 10 Q11,.ptr 8 8 [],.ptr 10 10 []])]),(512634,[.sv 0 QI,.sv 1 QI,.sv 2 QI,.sv 3 QL,.sv 11 QI,.sv 12 QI,.sv 15 QL,.sv 43 QI,.sv 44 QI,.own 42 13 QI,.box 8 Q11,.box 10 Q11,.box 14 Q10,.ptr 8 8 [],.ptr 10 10 [],.ptr 14 14 []],[(.exit 2,[.sv 0 QI,.sv 1 QI,.sv 2 QI,.sv 3 QL,.sv 11 QI,.sv 12 QI,.box 8 Q11,.box 10 Q11,.box 14 Q10,.ptr 8 8 [],.ptr 10 10 [],.ptr 14 14 []])])],[(256319,[(.normal,[.sv 0 QI,.sv 1 QI,.sv 2 QI,.sv 3 QL,.sv 11 QI,.sv 12 QI,.sv 18 QI,.sv 72 .bool,.box 8 Q11,.box 10 Q11,.box 14 Q11,.ptr 8 8 [],.ptr 10 10 [],.ptr 14 14 []])])],[(15,[.q,.q,.v,.v,.v,.v,.q,.x,.x,.x])]⟩
def a5e(s:((List Int)×((List Int)×c5p))):Option (((List Int)×((List Int)×c5p)) ⊕ (((List Int)×b2p) ⊕ (Int×b5v))):= cond (decide (s.2.2.2.1<s.2.2.1)) ((m0h s.2.1 s.2.2.2.1).bind fun x5=> (m0h s.1 0).bind fun x6=> cond (x5 != x6) (some (.inr (Sum.inr ((7,(0,0,0,0,0,[],a01 3 0,[],[],(0,[],()),[],()),()))))) (some (.inl (s.1,s.2.1,s.2.2.1,wrap .i64 (s.2.2.2.1+1),s.2.2.2.2.1,s.2.2.2.2.2.1,())))) (some (.inr (Sum.inl (s.1,s.2.2.2.2.1,s.2.2.2.2.2.1,()))))
def b2Q(x:(Int×((List Int)×a1R))):Option b4p:= (show Option (Int×((List Int)×(Int×Bool×b2p)))from cond (decide ((x.2.1.length:Int)<1)) (some (x.1,x.2.1,(x.2.1.length:Int),true,(0,0,0,0,0,[],a01 3 0,[],[],(0,[],()),[],()),x.2.2,())) (cond (decide ((x.2.1.length:Int) > 4096)) (some (x.1,x.2.1,(x.2.1.length:Int),true,(0,0,0,0,0,[],a01 3 0,[],[],(0,[],()),[],()),x.2.2,())) ((a7Q (x.1,x.2.2,(x.2.1.length:Int))).bind fun y1=> some (x.1,x.2.1,(x.2.1.length:Int),!y1,(0,0,0,0,0,[],a01 3 0,[],[],(0,[],()),[],()),x.2.2,())))).bind fun z2=> cond z2.2.2.2.1 (some ((0,0,0,0,0,[],a01 3 0,[],[],(0,[],()),[],()),1)) ((a2o z2.2.1).bind fun y3=> cond (!y3) (some ((0,0,0,0,0,[],a01 3 0,[],[],(0,[],()),[],()),6)) ((a6a (z2.1,z2.2.2.2.2.2.1)).bind fun y4=> cond (z2.1==0) ((y0o a5e (z2.2.1,z2.2.1,(z2.2.1.length:Int),0,z2.2.2.2.2.1,y4,())).bind fun w7=> match w7 with |.inl a8=>((m0h a8.1 0).bind fun x10=> some ((a8.2.2.1.1,a8.2.2.1.2.1,a8.2.2.1.2.2.1,a8.2.2.1.2.2.2.1,a8.2.2.1.2.2.2.2.1,a8.2.2.1.2.2.2.2.2.1,a8.2.2.1.2.2.2.2.2.2.1,a8.2.2.1.2.2.2.2.2.2.2.1,[x10],a8.2.2.1.2.2.2.2.2.2.2.2.2),0)) |.inr b9=>some (b9.2.1,b9.1)) ((a3I z2.2.1).bind fun y11=> (a7f (z2.2.1,y11)).bind fun y12=> cond (y12.2 != 0) (some ((0,0,0,0,0,[],a01 3 0,[],[],(0,[],()),[],()),6)) (cond (z2.1==1) (some ((y4.1,y11,y4.2.2.1,y4.2.2.2.1,y4.2.2.2.2.1,y4.2.2.2.2.2.1,y4.2.2.2.2.2.2.1,y4.2.2.2.2.2.2.2.1,y12.1,y4.2.2.2.2.2.2.2.2.2),0)) ((b1M ((y4.1,y11,y4.2.2),y12.1)).bind fun y13=> cond (y13.1 != 0) (some ((0,0,0,0,0,[],a01 3 0,[],[],(0,[],()),[],()),6)) ((b0L (z2.2.2.1,(y13.2.2.2.2.2.2.2.2.2.1.length:Int),6,y13.2.2.2.2.2.2.2.2.2.2.2.1)).bind fun y14=> cond (y14.2 != 0) (some ((0,0,0,0,0,[],a01 3 0,[],[],(0,[],()),[],()),6)) (some ((y13.2.1,y13.2.2.1,y13.2.2.2.1,y13.2.2.2.2.1,y13.2.2.2.2.2.1,y13.2.2.2.2.2.2.1,y13.2.2.2.2.2.2.2.1,y13.2.2.2.2.2.2.2.2.1,y13.2.2.2.2.2.2.2.2.2.1,y14.1,y13.2.2.2.2.2.2.2.2.2.2.2),0))))))))
def b9j:FSem:=⟨[.v QI,.v QL,.v Q42],[.v Q42,.v QI],b2Q⟩
def d6E:Hints:=⟨[(4050,[.sv 1 QL,.sv 39 QL,.sv 40 QI,.sv 41 QI,.box 6 Q42,.box 9 Q42,.ptr 6 6 [],.ptr 9 9 []],[(.exit 0,[.sv 1 QL,.box 6 Q42,.box 9 Q42,.ptr 6 6 [],.ptr 9 9 []]),(.ret,[.sv 7 QI,.box 6 Q42,.ptr 6 6 []])])],[(14,[(.normal,[.sv 0 QI,.sv 1 QL,.sv 8 QI,.sv 28 .bool,.box 6 Q42,.vp 5 Q42,.ptr 6 6 []])])],[]⟩
def a8R(x:Z6):Option Z15:= some (x.2.1,x)
def b2J:FSem:=⟨[.r false (.b Q9)],[.v QI],a8R⟩
def d6F:Hints:=⟨[],[],[]⟩
def a2G(x:b4p):Option Int:= (a9J (([],0,()),x.1,x.2)).bind fun y1=> cond (y1.1 != 0) (some 0) ((a8R y1.2).bind fun y2=> some y2.1)
def b9k:FSem:=⟨[.v Q42,.v QI],[.v QI],a2G⟩
def d6G:Hints:=⟨[],[],[]⟩
def a7h(s:((List Int)×(Int×Bool×b2o×c5p))):Option (((List Int)×(Int×Bool×b2o×c5p)) ⊕ b2p):= cond (decide (s.2.2.2.2.2.1<s.2.2.2.2.1)) ((m0h s.2.2.2.1 s.2.2.2.2.2.1).bind fun x6=> (b2Q (x6.1,s.1,x6)).bind fun y7=> cond (y7.2 != 0) (some (.inl (s.1,s.2.1,s.2.2.1,s.2.2.2.1,s.2.2.2.2.1,wrap .i64 (s.2.2.2.2.2.1+1),s.2.2.2.2.2.2.1,s.2.2.2.2.2.2.2.1,()))) ((a2G (y7.1,(s.1.length:Int))).bind fun y8=> (show Option ((List Int)×(Int×Bool×Int×b2o×Int×Int×Bool×a1R×b2p))from cond (!s.2.2.1) (some (s.1,s.2.1,s.2.2.1,y8,s.2.2.2.1,s.2.2.2.2.1,s.2.2.2.2.2.1,true,s.2.2.2.2.2.2.1,s.2.2.2.2.2.2.2.1,y7.1,())) (some (s.1,s.2.1,s.2.2.1,y8,s.2.2.2.1,s.2.2.2.2.1,s.2.2.2.2.2.1,decide (y8<s.2.1),s.2.2.2.2.2.2.1,s.2.2.2.2.2.2.2.1,y7.1,()))).bind fun z9=> cond z9.2.2.2.2.2.2.2.1 (some (.inl (z9.1,z9.2.2.2.1,true,z9.2.2.2.2.1,z9.2.2.2.2.2.1,wrap .i64 (z9.2.2.2.2.2.2.1+1),z9.2.2.2.2.2.2.2.2.1,z9.2.2.2.2.2.2.2.2.2.2.1,()))) (some (.inl (z9.1,z9.2.1,z9.2.2.1,z9.2.2.2.2.1,z9.2.2.2.2.2.1,wrap .i64 (z9.2.2.2.2.2.2.1+1),z9.2.2.2.2.2.2.2.2.1,z9.2.2.2.2.2.2.2.2.2.1,()))))) (some (.inr (s.2.2.2.2.2.2.1,s.2.2.2.2.2.2.2.1,())))
def a2q(x:((List Int)×Int)):Option b4p:= (show Option ((List Int)×c2O)from cond (decide ((x.1.length:Int)<1)) (some (x.1,x.2,true,(0,0,0,0,0,[],a01 3 0,[],[],(0,[],()),[],()),())) (cond (decide ((x.1.length:Int) > 4096)) (some (x.1,x.2,true,(0,0,0,0,0,[],a01 3 0,[],[],(0,[],()),[],()),())) (cond (decide (x.2<0)) (some (x.1,x.2,true,(0,0,0,0,0,[],a01 3 0,[],[],(0,[],()),[],()),())) (some (x.1,x.2,decide (x.2 > 3),(0,0,0,0,0,[],a01 3 0,[],[],(0,[],()),[],()),()))))).bind fun z1=> cond z1.2.2.1 (some ((0,0,0,0,0,[],a01 3 0,[],[],(0,[],()),[],()),1)) ((a2o z1.1).bind fun y2=> cond (!y2) (some ((0,0,0,0,0,[],a01 3 0,[],[],(0,[],()),[],()),6)) ((a3I z1.1).bind fun y3=> (a7f (z1.1,y3)).bind fun y4=> cond (y4.2 != 0) (some ((0,0,0,0,0,[],a01 3 0,[],[],(0,[],()),[],()),y4.2)) ((a6J (y4.1,z1.2.1)).bind fun y5=> (y0o a7h (z1.1,0,false,y5,(y5.length:Int),0,z1.2.2.2.1,(0,0,0,0,0,[],a01 3 0,[],[],(0,[],()),[],()),())).bind fun w10=> some (w10.2.1,0))))
def b9l:FSem:=⟨[.v QL,.v QI],[.v Q42,.v QI],a2q⟩
def H60:Hints:=⟨[(2042,[.sv 0 QL,.sv 9 QI,.sv 10 .bool,.sv 50 (.list false Q42),.sv 51 QI,.sv 52 QI,.box 4 Q42,.box 8 Q42,.ptr 4 4 [],.ptr 8 8 []],[(.exit 0,[.box 4 Q42,.box 8 Q42,.ptr 4 4 [],.ptr 8 8 []])])],[(6,[(.normal,[.sv 0 QL,.sv 1 QI,.sv 31 .bool,.box 4 Q42,.ptr 4 4 []])]),(1045711,[(.normal,[.sv 0 QL,.sv 9 QI,.sv 10 .bool,.sv 15 QI,.sv 50 (.list false Q42),.sv 51 QI,.sv 52 QI,.sv 76 .bool,.box 4 Q42,.box 8 Q42,.box 13 Q42,.ptr 4 4 [],.ptr 8 8 [],.ptr 13 13 []])])],[]⟩
def a5t(s:(Int×((List (List Int))×(Int×Int×a3w×b4r)))):Option ((Int×((List (List Int))×(Int×Int×a3w×b4r))) ⊕ ((a3w×b4r) ⊕ (Int×b4r))):= cond (decide (s.2.2.2.1<s.2.2.1)) ((m0h s.2.1 s.2.2.2.1).bind fun x8=> (a2q (x8,s.1)).bind fun y9=> cond (y9.2 != 0) (some (.inr (Sum.inr ((y9.2,(0,0,(0,0,0,()),[],[],()),()))))) (cond (lim ((a02 s.2.2.2.2.2.1.2.2.2.2.1)+1)) (some (.inl (s.1,s.2.1,s.2.2.1,wrap .i64 (s.2.2.2.1+1),s.2.2.2.2.1,(s.2.2.2.2.2.1.1,s.2.2.2.2.2.1.2.1,s.2.2.2.2.2.1.2.2.1,s.2.2.2.2.2.1.2.2.2.1,a03 s.2.2.2.2.2.1.2.2.2.2.1 ([y9.1]:List a1R),s.2.2.2.2.2.1.2.2.2.2.2),()))) none)) (some (.inr (Sum.inl (s.2.2.2.2.1,s.2.2.2.2.2.1,()))))
def a2H(x:(Z10×Z7×Int×Int)):Option (a3w×Int):= (show Option (Int×Int×Bool×a3w×Z10×Z20)from(a4i x.1).bind fun y1=> cond (!y1) (some (x.2.2.1,x.2.2.2,true,(0,0,(0,0,0,()),[],[],()),x.1,x.2.1,())) ((a1P x.2.1).bind fun y2=> cond (!y2) (some (x.2.2.1,x.2.2.2,true,(0,0,(0,0,0,()),[],[],()),x.1,x.2.1,())) (cond (x.1.1 != x.2.1.2.2.1) (some (x.2.2.1,x.2.2.2,true,(0,0,(0,0,0,()),[],[],()),x.1,x.2.1,())) (cond ((x.1.2.1.length:Int) != x.2.1.2.1) (some (x.2.2.1,x.2.2.2,true,(0,0,(0,0,0,()),[],[],()),x.1,x.2.1,())) (cond (decide (x.2.2.2<0)) (some (x.2.2.1,x.2.2.2,true,(0,0,(0,0,0,()),[],[],()),x.1,x.2.1,())) (cond (decide (x.2.2.2 > 3)) (some (x.2.2.1,x.2.2.2,true,(0,0,(0,0,0,()),[],[],()),x.1,x.2.1,())) (some (x.2.2.1,x.2.2.2,decide (x.2.2.1<0),(0,0,(0,0,0,()),[],[],()),x.1,x.2.1,())))))))).bind fun z3=> cond z3.2.2.1 (some ((0,0,(0,0,0,()),[],[],()),1)) ((a4h z3.2.2.2.2.1).bind fun y4=> cond (decide (z3.1 > (wrap .i64 (4194304-y4)))) (some ((0,0,(0,0,0,()),[],[],()),4)) ((show Option (Int×a3w×a3w×Z28)from cond (decide (z3.2.1 > 0)) ((a7v z3.2.2.2.2.1).bind fun y5=> some (z3.2.1,z3.2.2.2.1,(z3.1,y4,z3.2.2.2.2.2.1,y5,[],()),z3.2.2.2.2.1,())) (some (z3.2.1,z3.2.2.2.1,(z3.1,y4,z3.2.2.2.2.2.1,[],[],()),z3.2.2.2.2.1,()))).bind fun z6=> (b2c (z6.2.2.2.1.2.1,z6.2.2.1.2.2.2.1)).bind fun y7=> cond (y7.2 != 0) (some ((0,0,(0,0,0,()),[],[],()),y7.2)) ((y0o a5t (z6.1,y7.1,(y7.1.length:Int),0,z6.2.1,z6.2.2.1,())).bind fun w10=> match w10 with |.inl a11=>some (a11.2.1,0) |.inr b12=>some (b12.2.1,b12.1))))
def b6X:FSem:=⟨[.v Q15,.v Q12,.v QI,.v QI],[.v Q60,.v QI],a2H⟩
def H18:Hints:=⟨[(2042,[.sv 3 QI,.sv 81 (.list false QL),.sv 82 QI,.sv 83 QI,.box 8 Q60,.box 10 Q59,.ptr 8 8 [],.ptr 10 10 []],[(.exit 0,[.box 8 Q60,.box 10 Q59,.ptr 8 8 [],.ptr 10 10 []]),(.ret,[.sv 9 QI,.box 8 Q60,.ptr 8 8 []])])],[(6,[(.normal,[.sv 2 QI,.sv 3 QI,.sv 51 .bool,.box 8 Q60,.vp 4 Q15,.vp 5 Q12,.ptr 8 8 []])]),(31,[(.normal,[.sv 3 QI,.box 8 Q60,.box 10 Q59,.vp 4 Q15,.ptr 8 8 [],.ptr 10 10 []])])],[(3,[.v,.v,.v,.v,.v,.q,.x])]⟩
def a7B(s:Z51):Option (Z51 ⊕ Z29):= cond (decide (s.2.2.2.2.1<8)) (cond ((bits .u32 .and s.1 1)==1) (some (.inl (bits .u32 .xor (A0k .u32 s.1 1) 3988292384,s.2.1,s.2.2.1,s.2.2.2.1,wrap .i64 (s.2.2.2.2.1+1),()))) (some (.inl (A0k .u32 s.1 1,s.2.1,s.2.2.1,s.2.2.2.1,wrap .i64 (s.2.2.2.2.1+1),())))) (some (.inr (s.1,s.2.1,s.2.2.1,s.2.2.2.1,())))
def a4S(s:Z29):Option Z64:= cond (decide (s.2.2.2.1<s.2.2.1)) ((m0h s.2.1 s.2.2.2.1).bind fun x1=> (y0o a7B (bits .u32 .xor s.1 (wrap .u32 x1),s.2.1,s.2.2.1,s.2.2.2.1,0,())).bind fun w2=> some (.inl (w2.1,w2.2.1,w2.2.2.1,wrap .i64 (w2.2.2.2.1+1),()))) (some (.inr (s.1,())))
def a4I(x:(List Int)):Option Int:= (y0o a4S (4294967295,x,(x.length:Int),0,())).bind fun w3=> some (bits .u32 .xor (IntKind.max .u32) w3.1)
def a9C:FSem:=⟨[.v (.list false (.int .u8))],[.v (.int .u32)],a4I⟩
def H89:Hints:=⟨[(58,[.sv 3 (.int .u32),.sv 7 (.list false (.int .u8)),.sv 8 QI,.sv 9 QI],[(.exit 0,[.sv 3 (.int .u32)])]),(29902,[.sv 3 (.int .u32),.sv 7 (.list false (.int .u8)),.sv 8 QI,.sv 9 QI,.sv 17 QI],[(.exit 2,[.sv 3 (.int .u32),.sv 7 (.list false (.int .u8)),.sv 8 QI,.sv 9 QI])])],[],[]⟩
def a8D(s:(b8G×(Int×(Int×((List (List Int))×((List Int)×b3i)))))):Option ((b8G×(Int×(Int×((List (List Int))×((List Int)×b3i))))) ⊕ ((List (List Int))×((List Int)×b3i))):= cond (decide (s.2.2.1<s.2.1)) ((m0h s.1 s.2.2.1).bind fun x2=> cond ((decide (0≤s.2.2.1))&&(decide (s.2.2.1<(s.2.2.2.1.length:Int)))) (cond (lim ((a02 s.2.2.2.2.1)+2)) (some (.inl (s.1,s.2.1,wrap .i64 (s.2.2.1+1),s.2.2.2.1,a03 s.2.2.2.2.1 ([wrap .u64 ((a02 (a04 s.2.2.2.1 (a00 s.2.2.1) []):Nat):Int),wrap .u64 x2.2.1]:List Int),s.2.2.2.2.2.1,()))) none) none) (some (.inr (s.2.2.2.1,s.2.2.2.2.1,s.2.2.2.2.2.1,())))
def a8E(s:(Int×(Int×((List Int)×Z1)))):Option ((Int×(Int×((List Int)×Z1))) ⊕ ((List Int)×Unit)):= cond (decide (s.2.1<s.1)) (cond ((decide (0≤s.2.1))&&(decide (s.2.1<(s.2.2.2.1.length:Int)))) (cond (lim ((a02 s.2.2.1)+(a02 (a04 s.2.2.2.1 (a00 s.2.1) [])))) (some (.inl (s.1,wrap .i64 (s.2.1+1),a03 s.2.2.1 (a04 s.2.2.2.1 (a00 s.2.1) []),s.2.2.2.1,()))) none) none) (some (.inr (s.2.2.1,())))
def b1O(x:b2q):Option ((List Int)×Int):= (a9g x).bind fun y1=> cond (!y1.2.2) (some ([],1)) ((y0o a8D (x.2.2.2.2.1,(x.2.2.2.2.1.length:Int),0,y1.1,([wrap .u64 x.1.1,wrap .u64 x.1.2.1,wrap .u64 x.1.2.2.1,wrap .u64 (x.2.2.2.2.1.length:Int)]:List Int),x,())).bind fun w3=> (a9f w3.2.1).bind fun y4=> cond (lim (4+(a02 y4))) ((a4l (w3.2.2.1.2.2.1,8)).bind fun y5=> cond (lim ((a02 (a03 [75,78,83,68] y4))+(a02 y5))) ((a4I (a03 (a03 [75,78,83,68] y4) y5)).bind fun y6=> (a4l (wrap .u64 y6,4)).bind fun y7=> cond (lim ((a02 (a03 (a03 [75,78,83,68] y4) y5))+(a02 y7))) ((y0o a8E ((w3.1.length:Int),0,a03 (a03 (a03 [75,78,83,68] y4) y5) y7,w3.1,())).bind fun w8=> some (w8.1,0)) none) none) none)
def b8a:FSem:=⟨[.v Q74],[.o (.int .u8),.v QI],b1O⟩
def H29:Hints:=⟨[(250,[.sv 39 (.list false Q60),.sv 40 QI,.sv 41 QI,.own 4 4 (.list false (.int .u8)),.own 7 7 (.int .u64),.vp 1 Q74],[(.exit 0,[.own 4 4 (.list false (.int .u8)),.own 7 7 (.int .u64),.vp 1 Q74])]),(4090,[.sv 76 QI,.sv 77 QI,.own 10 10 (.int .u8),.own 75 4 (.list false (.int .u8))],[(.exit 2,[.own 10 10 (.int .u8)])])],[],[(8,[.q,.q,.v,.q,.q,.v,.v,.q,.q,.v,.q,.x,.x])]⟩
def a7M(s:((List Int)×(Int×Int×Z10×Z10×Z20))):Option (((List Int)×(Int×Int×Z10×Z10×Z20)) ⊕ ((Z10×Z28) ⊕ Z45)):= cond (decide (s.2.2.1<s.2.1)) ((m0h s.1 s.2.2.1).bind fun x2=> (a1O (x2,s.2.2.2.2.2.1.2.2.1)).bind fun y3=> cond (!y3) (some (.inr (Sum.inr ((6,(0,([]:(List (List Int))),()),()))))) (cond (s.2.2.2.2.2.1.2.1==0) none (cond ((decide (0≤(a05 s.2.2.1 s.2.2.2.2.2.1.2.1)))&&(decide ((a05 s.2.2.1 s.2.2.2.2.2.1.2.1)<(s.2.2.2.2.1.2.1.length:Int)))) (cond (lim ((a02 (a04 s.2.2.2.2.1.2.1 (a00 (a05 s.2.2.1 s.2.2.2.2.2.1.2.1)) []))+1)) (cond ((decide (0≤(a05 s.2.2.1 s.2.2.2.2.2.1.2.1)))&&(decide ((a05 s.2.2.1 s.2.2.2.2.2.1.2.1)<((a02 (a20 s.2.2.2.2.1.2.1 (a00 (a05 s.2.2.1 s.2.2.2.2.2.1.2.1)) (a03 (a04 s.2.2.2.2.1.2.1 (a00 (a05 s.2.2.1 s.2.2.2.2.2.1.2.1)) []) [x2])):Nat):Int)))) (cond (((a00 (a05 s.2.2.1 s.2.2.2.2.2.1.2.1))==(a00 (a05 s.2.2.1 s.2.2.2.2.2.1.2.1)))&&true) (cond (((a00 (a05 s.2.2.1 s.2.2.2.2.2.1.2.1))==(a00 (a05 s.2.2.1 s.2.2.2.2.2.1.2.1)))&&true) (some (.inl (s.1,s.2.1,wrap .i64 (s.2.2.1+1),s.2.2.2.1,(s.2.2.2.2.1.1,a20 s.2.2.2.2.1.2.1 (a00 (a05 s.2.2.1 s.2.2.2.2.2.1.2.1)) (a03 (a04 s.2.2.2.2.1.2.1 (a00 (a05 s.2.2.1 s.2.2.2.2.2.1.2.1)) []) [x2]),s.2.2.2.2.1.2.2),s.2.2.2.2.2.1,()))) none) none) none) none) none))) (some (.inr (Sum.inl (s.2.2.2.1,s.2.2.2.2.1,()))))
def b0M(x:Z30):Option Z27:= (a1P x.2).bind fun y1=> cond (!y1) (some ((0,([]:(List (List Int))),()),1)) (cond ((x.1.length:Int)==0) (some ((0,([]:(List (List Int))),()),7)) (cond (x.2.2.1==0) none (cond ((a05 (x.1.length:Int) x.2.2.1) != 0) (some ((0,([]:(List (List Int))),()),3)) (cond (x.2.2.1==0) none (cond (decide ((wrap .i64 (a07 (x.1.length:Int) x.2.2.1)) > 4096)) (some ((0,([]:(List (List Int))),()),4)) (cond ((decide (0≤x.2.2.1))&&((decide (x.2.2.1≤x.2.2.1))&&(lim (a00 x.2.2.1)))) ((y0o a7M (x.1,(x.1.length:Int),0,(0,([]:(List (List Int))),()),(x.2.2.2.1,a01 (a00 x.2.2.1) [],()),x.2,())).bind fun w4=> match w4 with |.inl a5=>some (a5.2.1,0) |.inr b6=>some (b6.2.1,b6.1)) none))))))
def b6Y:FSem:=⟨[.v QL,.v Q12],[.v Q15,.v QI],b0M⟩
def H96:Hints:=⟨[(1018,[.sv 38 QL,.sv 39 QI,.sv 40 QI,.box 4 Q15,.box 6 (.pair QI Q6),.vp 3 Q12,.ptr 4 4 [],.ptr 6 6 []],[(.exit 0,[.box 4 Q15,.box 6 (.pair QI Q6),.ptr 4 4 [],.ptr 6 6 []]),(.ret,[.sv 5 QI,.box 4 Q15,.ptr 4 4 []])])],[],[(9,[.v,.v,.v,.v,.q,.q,.q,.x]),(16,[.s,.s,.s,.q,.q,.v,.q,.q,.v,.q,.b [6,64,65],.x,.x])]⟩
def a5U(s:((List Int)×(Int×(Int×(Int×((List Int)×(Int×Z37))))))):Option (((List Int)×(Int×(Int×(Int×((List Int)×(Int×Z37)))))) ⊕ (((List Int)×(Int×Int×Z37)) ⊕ Z5)):= cond (decide (s.2.2.2.2.2.2.1<s.2.2.2.2.2.1)) ((m0h s.2.2.2.2.1 s.2.2.2.2.2.2.1).bind fun x4=> (a1O (x4,s.2.2.2.2.2.2.2.1.2.2.1)).bind fun y5=> cond (!y5) (some (.inr (Sum.inr ((6,[],()))))) (some (.inl (s.1,s.2.1,s.2.2.1,s.2.2.2.1,s.2.2.2.2.1,s.2.2.2.2.2.1,wrap .i64 (s.2.2.2.2.2.2.1+1),s.2.2.2.2.2.2.2.1,())))) (some (.inr (Sum.inl (s.1,s.2.1,s.2.2.1,s.2.2.2.1,s.2.2.2.2.2.2.2.1,()))))
def a4a(s:((List Int)×(Int×Int×Int×Int×Int×b2q×Z20))):Option (((List Int)×(Int×Int×Int×Int×Int×b2q×Z20)) ⊕ (b3i ⊕ Z5)):= cond (decide (s.2.2.2.2.2.1<s.2.2.2.1)) (cond ((decide (0≤(wrap .i64 ((v0o (wrap .i64 (s.2.2.2.2.2.1+s.2.1)) s.2.2.2.1)*s.2.2.2.2.2.2.2.1.2.1))))&&(decide ((wrap .i64 ((v0o (wrap .i64 (s.2.2.2.2.2.1+s.2.1)) s.2.2.2.1)*s.2.2.2.2.2.2.2.1.2.1))≤(s.1.length:Int)))) (cond ((decide (0≤(wrap .i64 (s.2.2.2.2.2.1*s.2.2.2.2.2.2.2.1.2.1))))&&(decide ((wrap .i64 (s.2.2.2.2.2.1*s.2.2.2.2.2.2.2.1.2.1))≤((a00 (wrap .i64 ((v0o (wrap .i64 (s.2.2.2.2.2.1+s.2.1)) s.2.2.2.1)*s.2.2.2.2.2.2.2.1.2.1)):Nat):Int)))) ((b0M (a21 (a00 (wrap .i64 (s.2.2.2.2.2.1*s.2.2.2.2.2.2.2.1.2.1))) (a06 (a00 (wrap .i64 ((v0o (wrap .i64 (s.2.2.2.2.2.1+s.2.1)) s.2.2.2.1)*s.2.2.2.2.2.2.2.1.2.1))) s.1),s.2.2.2.2.2.2.2.1)).bind fun y9=> cond (y9.2 != 0) (some (.inr (Sum.inr ((y9.2,[],()))))) ((a2H (y9.1,s.2.2.2.2.2.2.2.1,s.2.2.2.2.2.1,s.2.2.1)).bind fun y10=> cond (y10.2 != 0) (some (.inr (Sum.inr ((y10.2,[],()))))) ((a3p y10.1).bind fun y11=> cond (y11.2 != 0) (some (.inr (Sum.inr ((y11.2,[],()))))) ((a4v (s.2.2.2.2.2.2.1.2.2.1,y9.1)).bind fun y12=> cond (lim ((a02 s.2.2.2.2.2.2.1.2.2.2.1)+1)) (cond (lim ((a02 s.2.2.2.2.2.2.1.2.2.2.2.1)+1)) (some (.inl (s.1,s.2.1,s.2.2.1,s.2.2.2.1,wrap .i64 (s.2.2.2.2.1+(y11.1.length:Int)),wrap .i64 (s.2.2.2.2.2.1+s.2.1),(s.2.2.2.2.2.2.1.1,s.2.2.2.2.2.2.1.2.1,y12.1,a03 s.2.2.2.2.2.2.1.2.2.2.1 ([(s.2.2.2.2.2.1,s.2.2.2.2.1,())]:List (Int×Int×Unit)),a03 s.2.2.2.2.2.2.1.2.2.2.2.1 ([y10.1]:List a3w),s.2.2.2.2.2.2.1.2.2.2.2.2),s.2.2.2.2.2.2.2.1,()))) none) none)))) none) none) (some (.inr (Sum.inl (s.2.2.2.2.2.2.1,()))))
def a6i(x:(Z7×Z3)):Option ((List Int)×Int):= (show Option ((List Int)×(Int×Int×Z38))from(a1P x.1).bind fun y1=> cond (!y1) (some (x.2.1,x.2.2.1,x.2.2.2,true,x.1,())) (cond (decide (x.2.2.1<1)) (some (x.2.1,x.2.2.1,x.2.2.2,true,x.1,())) (cond (decide (x.2.2.1 > 4096)) (some (x.2.1,x.2.2.1,x.2.2.2,true,x.1,())) (cond (decide (x.2.2.2<0)) (some (x.2.1,x.2.2.1,x.2.2.2,true,x.1,())) (some (x.2.1,x.2.2.1,x.2.2.2,decide (x.2.2.2 > 3),x.1,())))))).bind fun z2=> cond z2.2.2.2.1 (some ([],1)) (cond (z2.2.2.2.2.1.2.1==0) none (cond ((a05 (z2.1.length:Int) z2.2.2.2.2.1.2.1) != 0) (some ([],3)) (cond (z2.2.2.2.2.1.2.1==0) none ((show Option ((List Int)×(Int×Int×Int×Z38))from cond (decide ((wrap .i64 (a07 (z2.1.length:Int) z2.2.2.2.2.1.2.1)) > 4194304)) (some (z2.1,z2.2.1,z2.2.2.1,wrap .i64 (a07 (z2.1.length:Int) z2.2.2.2.2.1.2.1),true,z2.2.2.2.2.1,())) (cond (z2.2.1==0) none (some (z2.1,z2.2.1,z2.2.2.1,wrap .i64 (a07 (z2.1.length:Int) z2.2.2.2.2.1.2.1),decide ((wrap .i64 (a07 (wrap .i64 ((wrap .i64 ((wrap .i64 (a07 (z2.1.length:Int) z2.2.2.2.2.1.2.1))+z2.2.1))-1)) z2.2.1)) > 4096),z2.2.2.2.2.1,())))).bind fun z3=> cond z3.2.2.2.2.1 (some ([],4)) ((y0o a5U (z3.1,z3.2.1,z3.2.2.1,z3.2.2.2.1,z3.1,(z3.1.length:Int),0,z3.2.2.2.2.2.1,())).bind fun w6=> match w6 with |.inl a7=>((y0o a4a (a7.1,a7.2.1,a7.2.2.1,a7.2.2.2.1,0,0,(a7.2.2.2.2.1,a7.2.2.2.1,0,[],[],()),a7.2.2.2.2.1,())).bind fun w13=> match w13 with |.inl a14=>((b1O a14.1).bind fun y16=> some (y16.1,y16.2)) |.inr b15=>some (b15.2.1,b15.1)) |.inr b8=>some (b8.2.1,b8.1))))))
def b1i:FSem:=⟨[.v Q12,.v QL,.v QI,.v QI],[.o (.int .u8),.v QI],a6i⟩
def H37:Hints:=⟨[(506,[.sv 1 QL,.sv 2 QI,.sv 3 QI,.sv 10 QI,.sv 62 QL,.sv 63 QI,.sv 64 QI,.vp 4 Q12],[(.exit 0,[.sv 1 QL,.sv 2 QI,.sv 3 QI,.sv 10 QI,.vp 4 Q12]),(.ret,[.sv 9 QI,.own 8 8 (.int .u8)])]),(4090,[.sv 1 QL,.sv 2 QI,.sv 3 QI,.sv 10 QI,.sv 14 QI,.sv 15 QI,.box 13 Q73,.vp 4 Q12,.ptr 13 13 []],[(.exit 2,[.box 13 Q73,.ptr 13 13 []]),(.ret,[.sv 9 QI,.own 8 8 (.int .u8)])])],[(6,[(.normal,[.sv 1 QL,.sv 2 QI,.sv 3 QI,.sv 39 .bool,.vp 4 Q12])]),(62,[(.normal,[.sv 1 QL,.sv 2 QI,.sv 3 QI,.sv 10 QI,.sv 61 .bool,.vp 4 Q12])])],[(20,[.v,.v,.v,.v,.v,.v,.v,.v,.v,.v,.v,.v,.v,.v,.v,.q,.w [0,17],.x])]⟩
def a5J(x:(List Int)):Option Z13:= cond (lim (a02 x)) (some (x,0,0,())) none
def b4C:FSem:=⟨[.v (.list false (.int .u8))],[.b Q16],a5J⟩
def d6H:Hints:=⟨[],[],[]⟩
def a5V(s:Z29):Option (Z29 ⊕ (Unit ⊕ Z7)):= cond (decide (s.2.2.2.1<s.2.2.1)) ((m0h s.2.1 s.2.2.2.1).bind fun x1=> (show Option (Int×Int×Int×Z33)from cond (s.2.2.2.1==9) (cond (decide (x1 > 1)) (some (s.1,s.2.2.2.1,x1,s.2.1,s.2.2.1,s.2.2.2.1,true,())) (cond (decide (s.2.2.2.1 > 0)) (some (s.1,s.2.2.2.1,x1,s.2.1,s.2.2.1,s.2.2.2.1,x1==0,())) (some (s.1,s.2.2.2.1,x1,s.2.1,s.2.2.1,s.2.2.2.1,false,())))) (cond (decide (s.2.2.2.1 > 0)) (some (s.1,s.2.2.2.1,x1,s.2.1,s.2.2.1,s.2.2.2.1,x1==0,())) (some (s.1,s.2.2.2.1,x1,s.2.1,s.2.2.1,s.2.2.2.1,false,())))).bind fun z2=> cond z2.2.2.2.2.2.2.1 (some (.inr (Sum.inr ((0,0,2,()))))) (cond (decide ((wrap .i64 (7*z2.2.1))<0)) none (cond (decide (z2.2.2.1<128)) (some (.inr (Sum.inr ((bits .u64 .or z2.1 (A0j .u64 (wrap .u64 (a05 z2.2.2.1 128)) (wrap .i64 (7*z2.2.1))),wrap .i64 (z2.2.1+1),0,()))))) (some (.inl (bits .u64 .or z2.1 (A0j .u64 (wrap .u64 (a05 z2.2.2.1 128)) (wrap .i64 (7*z2.2.1))),z2.2.2.2.1,z2.2.2.2.2.1,wrap .i64 (z2.2.2.2.2.2.1+1),())))))) (some (.inr (Sum.inl ())))
def a8F(x:(List Int)):Option (Int×Int×Int):= (y0o a5V (0,x,(x.length:Int),0,())).bind fun w3=> match w3 with |.inl a4=>some (0,0,3) |.inr b5=>some (b5.1,b5.2.1,b5.2.2.1)
def b4W:FSem:=⟨[.v (.list false (.int .u8))],[.v (.int .u64),.v QI,.v QI],a8F⟩
def d6I:Hints:=⟨[(58,[.sv 5 (.int .u64),.sv 8 (.list false (.int .u8)),.sv 9 QI,.sv 10 QI],[(.exit 0,[]),(.ret,[.sv 2 (.int .u64),.sv 3 QI,.sv 4 QI])])],[(7474,[(.normal,[.sv 5 (.int .u64),.sv 6 QI,.sv 7 (.int .u8),.sv 8 (.list false (.int .u8)),.sv 9 QI,.sv 10 QI,.sv 28 .bool])])],[]⟩
def a0R(x:Z32):Option Z29:= cond (x.1.2.2.1 != 0) (some (0,x.1)) (cond ((decide (0≤x.1.2.1))&&(decide (x.1.2.1≤(x.1.1.length:Int)))) ((a8F (a21 (a00 x.1.2.1) (a06 (a02 x.1.1) x.1.1))).bind fun y1=> (show Option Z82 from cond (y1.2.2==0) (cond (decide (y1.1 > x.2)) (some (y1.1,y1.2.1,4,x.1,())) (some (y1.1,y1.2.1,y1.2.2,x.1,()))) (some (y1.1,y1.2.1,y1.2.2,x.1,()))).bind fun z2=> cond (z2.2.2.1 != 0) (some (0,z2.2.2.2.1.1,z2.2.2.2.1.2.1,z2.2.2.1,z2.2.2.2.1.2.2.2)) (some (z2.1,z2.2.2.2.1.1,wrap .i64 (z2.2.2.2.1.2.1+z2.2.1),z2.2.2.2.1.2.2))) none)
def a7W:FSem:=⟨[.r false (.b Q16),.v (.int .u64)],[.v (.int .u64)],a0R⟩
def d6J:Hints:=⟨[],[(15,[(.normal,[.sv 5 (.int .u64),.sv 6 QI,.sv 7 QI,.box pinned Q16,.ptr 0 pinned []])])],[(3,[.p,.p,.q,.q,.p,.p,.q,.q,.x,.x,.x,.v,.v,.v,.v,.v,.x])]⟩
def a3A(x:Z13):Option Z29:= some (x.2.2.1,x)
def a7X:FSem:=⟨[.r false (.b Q16)],[.v QI],a3A⟩
def d6K:Hints:=⟨[],[],[]⟩
def a1E(x:Z13):Option Z29:= some (wrap .i64 ((x.1.length:Int)-x.2.1),x)
def a4T:FSem:=⟨[.r false (.b Q16)],[.v QI],a1E⟩
def d6L:Hints:=⟨[],[],[(1,[.p,.p,.q,.q,.v,.p,.p,.q,.q,.x,.x])]⟩
def a4b(x:Z13):Option Z29:= some (x.2.1,x)
def a8S:FSem:=⟨[.r false (.b Q16)],[.v QI],a4b⟩
def d6M:Hints:=⟨[],[],[]⟩
def a4U(x:Z32):Option Z44:= cond (x.1.2.2.1 != 0) (some ([],x.1)) ((a1E x.1).bind fun y1=> cond (decide ((v0n x.2 0) > y1.1)) (some ([],y1.2.1,y1.2.2.1,3,y1.2.2.2.2)) (cond ((decide (0≤(wrap .i64 (y1.2.2.1+(v0n x.2 0)))))&&(decide ((wrap .i64 (y1.2.2.1+(v0n x.2 0)))≤(y1.2.1.length:Int)))) (cond ((decide (0≤y1.2.2.1))&&(decide (y1.2.2.1≤((a00 (wrap .i64 (y1.2.2.1+(v0n x.2 0))):Nat):Int)))) (cond (lim (a02 (a21 (a00 y1.2.2.1) (a06 (a00 (wrap .i64 (y1.2.2.1+(v0n x.2 0)))) y1.2.1)))) (some (a21 (a00 y1.2.2.1) (a06 (a00 (wrap .i64 (y1.2.2.1+(v0n x.2 0)))) y1.2.1),y1.2.1,wrap .i64 (y1.2.2.1+(v0n x.2 0)),y1.2.2.2)) none) none) none))
def b1c:FSem:=⟨[.r false (.b Q16),.v QI],[.o (.int .u8)],a4U⟩
def d6N:Hints:=⟨[],[],[(7,[.p,.p,.q,.q,.p,.p,.q,.q,.p,.p,.q,.q,.v,.v,.x,.x,.x])]⟩
def a3L(s:Z92):Option (Z92 ⊕ Z54):= cond (decide (s.2.2.1<s.2.1)) (cond ((decide (0≤s.2.2.1))&&(decide (s.2.2.1<(s.2.2.2.1.length:Int)))) (some (.inl (wrap .u64 ((wrap .u64 (s.1*256))+(wrap .u64 (a04 s.2.2.2.1 (a00 s.2.2.1) 0))),s.2.1,wrap .i64 (s.2.2.1+1),s.2.2.2.1,s.2.2.2.2.1,()))) none) (some (.inr (s.1,s.2.2.2.2.1,())))
def a3B(x:Z32):Option Z29:= (a2U x.2).bind fun y1=> (a4U (x.1,y1)).bind fun y2=> (y0o a3L (0,(y2.1.length:Int),0,y2.1,y2.2,())).bind fun w3=> some (w3.1,w3.2.1)
end Go.Ab
namespace Go.Ab
open IntKind(wrap)
open Go.Proofs
set_option maxRecDepth 100000
set_option linter.unusedVariables false
def b2e:FSem:=⟨[.r false (.b Q16),.v QI],[.v (.int .u64)],a3B⟩
def d6O:Hints:=⟨[(58,[.sv 5 (.int .u64),.sv 12 QI,.sv 13 QI,.own 11 1011 (.int .u8),.box pinned Q16],[(.exit 0,[.sv 5 (.int .u64),.box pinned Q16])])],[],[]⟩
def a5u(s:((List Int)×(Int×Int×Z94×Z94×Z36))):Option (((List Int)×(Int×Int×Z94×Z94×Z36)) ⊕ ((List Int)×(Z94×Z94×Z36))):= cond (decide (s.2.2.1<s.2.1)) ((a0R (s.2.2.2.2.2.1,1048704)).bind fun y6=> cond (lim ((a02 s.2.2.2.2.1.2.1)+1)) ((a0R (y6.2,4096)).bind fun y7=> cond (lim ((a02 s.2.2.2.2.1.2.2.1)+1)) (some (.inl (s.1,s.2.1,wrap .u64 (s.2.2.1+1),s.2.2.2.1,(s.2.2.2.2.1.1,a03 s.2.2.2.2.1.2.1 [wrap .i64 y6.1],a03 s.2.2.2.2.1.2.2.1 [wrap .i64 y7.1],s.2.2.2.2.1.2.2.2),y7.2,()))) none) none) (some (.inr (s.1,s.2.2.2.1,s.2.2.2.2.1,s.2.2.2.2.2.1,())))
def a5v(s:(Int×Int×Z94×Z98)):Option ((Int×Int×Z94×Z98) ⊕ ((Z94×Z98) ⊕ (Int×Z98))):= cond (decide (s.2.1<s.1)) (cond ((decide (0≤s.2.1))&&(decide (s.2.1<(s.2.2.2.1.2.2.1.length:Int)))) (cond ((a04 s.2.2.2.1.2.2.1 (a00 s.2.1) 0)==0) (some (.inr (Sum.inr ((2,((0,0,0,()),[],[],0,0,0,()),()))))) (some (.inl (s.1,wrap .i64 (s.2.1+1),s.2.2.1,(s.2.2.2.1.1,s.2.2.2.1.2.1,s.2.2.2.1.2.2.1,wrap .i64 (s.2.2.2.1.2.2.2.1+(a04 s.2.2.2.1.2.2.1 (a00 s.2.1) 0)),s.2.2.2.1.2.2.2.2),())))) none) (some (.inr (Sum.inl (s.2.2.1,s.2.2.2.1,()))))
def a5w(x:(List Int)):Option (Z94×Int):= cond (decide ((x.length:Int)<4)) (some (((0,0,0,()),[],[],0,0,0,()),3)) (cond (decide (4≤(x.length:Int))) (cond ((b2s (a06 4 x)) != [75,78,83,68]) (some (((0,0,0,()),[],[],0,0,0,()),2)) (cond (decide (4≤(x.length:Int))) ((a5J (a21 4 (a06 (a02 x) x))).bind fun y1=> (a0R (y1,1048576)).bind fun y2=> (a0R (y2.2,8)).bind fun y3=> (a0R (y3.2,24)).bind fun y4=> (a0R (y4.2,4096)).bind fun y5=> (y0o a5u (x,y5.1,0,((0,0,0,()),[],[],0,0,0,()),((wrap .i64 y2.1,wrap .i64 y3.1,wrap .i64 y4.1,()),[],[],0,0,0,()),y5.2,())).bind fun w8=> (a3A w8.2.2.2.1).bind fun y9=> cond (y9.1 != 0) (some (((0,0,0,()),[],[],0,0,0,()),y9.1)) ((a1E y9.2).bind fun y10=> cond (decide (y10.1<12)) (some (((0,0,0,()),[],[],0,0,0,()),3)) ((a3B (y10.2,8)).bind fun y11=> (a4b y11.2).bind fun y12=> cond ((decide (0≤(wrap .i64 (4+y12.1))))&&(decide ((wrap .i64 (4+y12.1))≤(w8.1.length:Int)))) ((a4I (a06 (a00 (wrap .i64 (4+y12.1))) w8.1)).bind fun y13=> (a3B (y12.2,4)).bind fun y14=> cond ((wrap .u64 y13) != y14.1) (some (((0,0,0,()),[],[],0,0,0,()),5)) ((a1P w8.2.2.1.1).bind fun y15=> cond (!y15) (some (((0,0,0,()),[],[],0,0,0,()),2)) ((y0o a5v ((w8.2.2.1.2.2.1.length:Int),0,w8.2.1,(w8.2.2.1.1,w8.2.2.1.2.1,w8.2.2.1.2.2.1,w8.2.2.1.2.2.2.1,y11.1,wrap .i64 ((wrap .i64 (4+y12.1))+4),w8.2.2.1.2.2.2.2.2.2),())).bind fun w16=> match w16 with |.inl a17=>(cond (decide (a17.2.1.2.2.2.1 > 4194304)) (some (((0,0,0,()),[],[],0,0,0,()),2)) (some (a17.2.1,0))) |.inr b18=>some (b18.2.1,b18.1)))) none))) none)) none)
def a7N:FSem:=⟨[.v (.list false (.int .u8))],[.v Q27,.v QI],a5w⟩
def d6P:Hints:=⟨[(4090,[.sv 0 (.list false (.int .u8)),.sv 38 (.int .u64),.sv 39 (.int .u64),.box 2 Q27,.box 4 Q26,.box 1021 Q16,.ptr 2 2 [],.ptr 4 4 [],.ptr 5 1021 []],[(.exit 0,[.sv 0 (.list false (.int .u8)),.box 2 Q27,.box 4 Q26,.box 1021 Q16,.ptr 2 2 [],.ptr 4 4 [],.ptr 5 1021 []])]),(1048570,[.sv 93 QI,.sv 94 QI,.box 2 Q27,.box 4 Q26,.ptr 2 2 [],.ptr 4 4 [],.ref 92 4 [.snd,.snd,.fst]],[(.exit 2,[.box 2 Q27,.box 4 Q26,.ptr 2 2 [],.ptr 4 4 []]),(.ret,[.sv 3 QI,.box 2 Q27,.ptr 2 2 []])])],[],[(12,[.r [4,41],.r [4,42],.q,.w [44,1021,1044],.v,.q,.x,.x,.x]),(13,[.r [4,49],.r [4,50],.q,.w [52,1021,1052],.v,.q,.x,.x,.x])]⟩
def b1P(x:Int):Option Int:= cond ((a05 x 2)==0) (some (wrap .i64 (wrap .u64 (a07 x 2)))) (some (wrap .i64 ((wrap .i64 (0-(wrap .i64 (wrap .u64 (a07 x 2)))))-1)))
def b8b:FSem:=⟨[.v (.int .u64)],[.v QI],b1P⟩
def d6Q:Hints:=⟨[],[],[]⟩
def a5x(s:((List Int)×(Int×Int×c0X))):Option (((List Int)×(Int×Int×c0X)) ⊕ ((List Int)×c0X)):= cond (decide (s.2.2.1<s.2.1)) ((a0R (s.2.2.2.2.1,7)).bind fun y11=> (a0R (y11.2,7)).bind fun y12=> (a0R (y12.2,2048)).bind fun y13=> (b1P y13.1).bind fun y14=> cond (lim ((a02 s.2.2.2.1.2.2.2.1)+1)) (some (.inl (s.1,s.2.1,wrap .u64 (s.2.2.1+1),(s.2.2.2.1.1,s.2.2.2.1.2.1,s.2.2.2.1.2.2.1,a03 s.2.2.2.1.2.2.2.1 ([(wrap .i64 y11.1,wrap .i64 y12.1,y14,())]:List Z7),s.2.2.2.1.2.2.2.2),y13.2,()))) none) (some (.inr (s.1,s.2.2.2.1,s.2.2.2.2.1,())))
def a7O(x:(List Int)):Option (a3w×Int×Int×Int):= cond (decide ((x.length:Int)<2)) (some ((0,0,(0,0,0,()),[],[],()),0,0,3)) ((show Option ((List Int)×(Bool×b4r))from(m0h x 0).bind fun x1=> cond (x1 != 245) (some (x,true,(0,0,(0,0,0,()),[],[],()),())) ((m0h x 1).bind fun x2=> some (x,x2 != 75,(0,0,(0,0,0,()),[],[],()),()))).bind fun z3=> cond z3.2.1 (some ((0,0,(0,0,0,()),[],[],()),0,0,2)) (cond (decide (2≤(z3.1.length:Int))) ((a5J (a21 2 (a06 (a02 z3.1) z3.1))).bind fun y4=> (a0R (y4,4194304)).bind fun y5=> (a0R (y5.2,4096)).bind fun y6=> (a0R (y6.2,1048576)).bind fun y7=> (a0R (y7.2,8)).bind fun y8=> (a0R (y8.2,24)).bind fun y9=> (a0R (y9.2,16)).bind fun y10=> (y0o a5x (z3.1,y10.1,0,(wrap .i64 y5.1,wrap .i64 y6.1,(wrap .i64 y7.1,wrap .i64 y8.1,wrap .i64 y9.1,z3.2.2.1.2.2.1.2.2.2),z3.2.2.1.2.2.2),y10.2,())).bind fun w15=> (a0R (w15.2.2.1,1048576)).bind fun y16=> (a3A y16.2).bind fun y17=> cond (y17.1 != 0) (some ((0,0,(0,0,0,()),[],[],()),0,0,y17.1)) ((a1E y17.2).bind fun y18=> cond (decide (y18.1<1)) (some ((0,0,(0,0,0,()),[],[],()),0,0,3)) ((a4b y18.2).bind fun y19=> cond ((decide (0≤(wrap .i64 (2+y19.1))))&&(decide ((wrap .i64 (2+y19.1))≤(w15.1.length:Int)))) ((a7T (a06 (a00 (wrap .i64 (2+y19.1))) w15.1)).bind fun y20=> (m0h w15.1 (wrap .i64 (2+y19.1))).bind fun x21=> cond (y20 != x21) (some ((0,0,(0,0,0,()),[],[],()),0,0,5)) ((a6T w15.2.1).bind fun y22=> cond (!y22) (some ((0,0,(0,0,0,()),[],[],()),0,0,2)) (some (w15.2.1,wrap .i64 ((wrap .i64 (2+y19.1))+1),wrap .i64 y16.1,0)))) none))) none))
def b3W:FSem:=⟨[.v (.list false (.int .u8))],[.v (.pair QI (.pair QI (.pair Q12 (.pair (.list false Q12) Q43)))),.v QI,.v QI,.v QI],a7O⟩
def H71:Hints:=⟨[(8186,[.sv 0 (.list false (.int .u8)),.sv 54 (.int .u64),.sv 55 (.int .u64),.box 2 Q58,.box 1029 Q16,.ptr 2 2 [],.ptr 6 1029 []],[(.exit 0,[.sv 0 (.list false (.int .u8)),.box 2 Q58,.box 1029 Q16,.ptr 2 2 [],.ptr 6 1029 []])])],[(14,[(.normal,[.sv 0 (.list false (.int .u8)),.sv 25 .bool,.box 2 Q58,.ptr 2 2 []])])],[(25,[.v,.v,.v,.v,.v,.v,.v,.v,.x])]⟩
def b2R(x:(List Int)):Option Z13:= cond (lim (a02 x)) (some (x,0,0,())) none
def b9m:FSem:=⟨[.v (.list false (.int .u8))],[.b Q16],b2R⟩
def H72:Hints:=⟨[],[],[]⟩
def a0N(x:Z13):Option Z29:= some (x.2.2.1,x)
def a2d:FSem:=⟨[.r false (.b Q16)],[.v QI],a0N⟩
def H76:Hints:=⟨[],[],[]⟩
def a2y(x:Z13):Option Z29:= some (wrap .i64 ((wrap .i64 (8*(x.1.length:Int)))-x.2.1),x)
def a7Y:FSem:=⟨[.r false (.b Q16)],[.v QI],a2y⟩
def H74:Hints:=⟨[],[],[(1,[.p,.p,.q,.q,.v,.v,.p,.p,.q,.q,.x,.x])]⟩
def a1x(x:Z32):Option Z29:= (m0h x.1.1 (wrap .i64 (a07 x.2 8))).bind fun x1=> cond (decide ((wrap .i64 (7-(a05 x.2 8)))<0)) none (some (bits .u8 .and (A0k .u8 x1 (wrap .i64 (7-(a05 x.2 8)))) 1,x.1))
def a5y:FSem:=⟨[.r false (.b Q16),.v QI],[.v (.int .u8)],a1x⟩
def d6R:Hints:=⟨[],[],[]⟩
def a4e(s:Z82):Option (Z82 ⊕ Z54):= cond (decide (s.2.2.1<s.2.1)) ((a1x (s.2.2.2.1,s.2.2.2.1.2.1)).bind fun y3=> some (.inl (bits .u64 .or (A0j .u64 s.1 1) (wrap .u64 y3.1),s.2.1,wrap .i64 (s.2.2.1+1),(y3.2.1,wrap .i64 (y3.2.2.1+1),y3.2.2.2),()))) (some (.inr (s.1,s.2.2.2.1,())))
def a0H(x:Z32):Option Z29:= cond (x.1.2.2.1 != 0) (some (0,x.1)) ((show Option Z67 from cond (decide (x.2<0)) (some (x.2,true,x.1,())) (some (x.2,decide (x.2 > 64),x.1,()))).bind fun z1=> cond z1.2.1 (some (0,z1.2.2.1.1,z1.2.2.1.2.1,1,z1.2.2.1.2.2.2)) ((a2y z1.2.2.1).bind fun y2=> cond (decide (z1.1 > y2.1)) (some (0,y2.2.1,y2.2.2.1,3,y2.2.2.2.2)) ((y0o a4e (0,z1.1,0,y2.2,())).bind fun w4=> some (w4.1,w4.2.1))))
def a2e:FSem:=⟨[.r false (.b Q16),.v QI],[.v (.int .u64)],a0H⟩
def d6S:Hints:=⟨[(506,[.sv 5 (.int .u64),.sv 27 QI,.sv 28 QI,.box pinned Q16,.ptr 0 pinned []],[(.exit 0,[.sv 5 (.int .u64),.box pinned Q16])])],[(14,[(.normal,[.sv 1 QI,.sv 16 .bool,.box pinned Q16,.ptr 0 pinned []])])],[]⟩
def a1a(x:Z32):Option Z29:= (a0H (x.1,x.2)).bind fun y1=> (show Option (Int×Z67)from cond (y1.2.2.2.1 != 0) (some (x.2,y1.1,true,y1.2,())) (some (x.2,y1.1,x.2==0,y1.2,()))).bind fun z2=> cond z2.2.2.1 (some (0,z2.2.2.2.1)) (cond (decide ((wrap .i64 (64-z2.1))<0)) none (cond (decide ((wrap .i64 (64-z2.1))<0)) none (some (A0k .i64 (wrap .i64 (A0j .u64 z2.2.1 (wrap .i64 (64-z2.1)))) (wrap .i64 (64-z2.1)),z2.2.2.2.1))))
def a2I:FSem:=⟨[.r false (.b Q16),.v QI],[.v QI],a1a⟩
def d6T:Hints:=⟨[],[(14,[(.normal,[.sv 1 QI,.sv 5 (.int .u64),.sv 17 .bool,.box pinned Q16])])],[]⟩
def a5W(s:(Int×c0W)):Option ((Int×c0W) ⊕ (Int×c5o)):= cond (decide (s.2.2.1<s.2.1)) ((a1a (s.2.2.2.1,s.1)).bind fun y4=> cond (lim ((a02 s.2.2.2.2.1.2.2.2.2.2.1)+1)) (some (.inl (s.1,s.2.1,wrap .i64 (s.2.2.1+1),y4.2,(s.2.2.2.2.1.1,s.2.2.2.2.1.2.1,s.2.2.2.2.1.2.2.1,s.2.2.2.2.1.2.2.2.1,s.2.2.2.2.1.2.2.2.2.1,a03 s.2.2.2.2.1.2.2.2.2.2.1 [y4.1],s.2.2.2.2.1.2.2.2.2.2.2),()))) none) (some (.inr (s.1,s.2.2.2.2.1,s.2.2.2.1,())))
def a8G(x:(Z13×a1R)):Option (Bool×Z13×a1R):= (a0H (x.1,5)).bind fun y1=> (a0H (y1.2,4)).bind fun y2=> (a0H (y2.2,5)).bind fun y3=> (y0o a5W (wrap .i64 y3.1,wrap .i64 ((wrap .i64 y1.1)+1),0,y3.2,(x.2.1,x.2.2.1,x.2.2.2.1,wrap .i64 y2.1,x.2.2.2.2.2),())).bind fun w5=> (a1r w5.2.1.2.2.2.2.2.1).bind fun y6=> some (y6==w5.1,w5.2.2.1,w5.2.1)
def b4X:FSem:=⟨[.r false (.b Q16),.r false (.b Q41)],[.v .bool],a8G⟩
def d6U:Hints:=⟨[(250,[.sv 6 QI,.sv 20 QI,.sv 21 QI,.box pinned Q16,.box 1000001 Q41,.ptr 0 pinned [],.ptr 1 1000001 []],[(.exit 0,[.sv 6 QI,.box 1000001 Q41,.box pinned Q16,.ptr 1 1000001 []])])],[],[(6,[.p,.p,.p,.r [26,1000001],.r [27,1000001],.p,.v,.w [30,1030,pinned],.q,.a [31,32,1000001],.x,.x,.x])]⟩
def a3i(s:c0W):Option (c0W ⊕ c7W):= cond (decide (s.2.1<3)) ((a1a (s.2.2.1,8)).bind fun y6=> cond ((decide (0≤s.2.1))&&(decide (s.2.1<3))) (some (.inl (s.1,wrap .i64 (s.2.1+1),y6.2,(s.2.2.2.1.1,s.2.2.2.1.2.1,s.2.2.2.1.2.2.1,s.2.2.2.1.2.2.2.1,s.2.2.2.1.2.2.2.2.1,s.2.2.2.1.2.2.2.2.2.1,a20 s.2.2.2.1.2.2.2.2.2.2.1 (a00 s.2.1) y6.1,s.2.2.2.1.2.2.2.2.2.2.2),()))) none) (some (.inr (s.1,s.2.2.1,s.2.2.2.1,())))
def a6K(s:(Int×Bool×c0W)):Option ((Int×Bool×c0W) ⊕ (Int×Bool×c5o)):= cond (decide (s.2.2.2.1<s.2.2.1)) ((a0H (s.2.2.2.2.1,5)).bind fun y15=> (a0H (y15.2,4)).bind fun y16=> cond (lim ((a02 s.2.2.2.2.2.1.2.2.2.2.2.2.2.1)+1)) (some (.inl (s.1,s.2.1,s.2.2.1,wrap .u64 (s.2.2.2.1+1),y16.2,(s.2.2.2.2.2.1.1,s.2.2.2.2.2.1.2.1,s.2.2.2.2.2.1.2.2.1,s.2.2.2.2.2.1.2.2.2.1,s.2.2.2.2.2.1.2.2.2.2.1,s.2.2.2.2.2.1.2.2.2.2.2.1,s.2.2.2.2.2.1.2.2.2.2.2.2.1,a03 s.2.2.2.2.2.1.2.2.2.2.2.2.2.1 ([(wrap .i64 ((wrap .i64 y15.1)+1),wrap .i64 y16.1,())]:List (Int×Int×Unit)),s.2.2.2.2.2.1.2.2.2.2.2.2.2.2),()))) none) (some (.inr (s.1,s.2.1,s.2.2.2.2.2.1,s.2.2.2.2.1,())))
def a9u(x:Z13):Option (a1R×Int×Bool×Z13):= (a0H (x,3)).bind fun y1=> (a0H (y1.2,5)).bind fun y2=> (a0H (y2.2,5)).bind fun y3=> (show Option (Int×Bool×c5o)from(show Option (c7W ⊕ ((Int×Bool×c5o) ⊕ (Int×Bool×d1u)))from cond ((wrap .i64 y1.1)==2) ((a0H (y3.2,3)).bind fun y4=> some (Sum.inr (Sum.inl (wrap .i64 y3.1,true,(wrap .i64 y1.1,wrap .i64 y2.1,wrap .i64 y4.1,0,0,[],a01 3 0,[],[],(0,[],()),[],()),y4.2,())))) (cond ((wrap .i64 y1.1)==4) ((a0H (y3.2,10)).bind fun y5=> (y0o a3i (wrap .i64 y3.1,0,y5.2,(wrap .i64 y1.1,wrap .i64 y2.1,0,0,wrap .i64 ((wrap .i64 y5.1)+1),[],a01 3 0,[],[],(0,[],()),[],()),())).bind fun w7=> some (Sum.inl (w7.1,w7.2.1,w7.2.2.1,()))) (cond ((wrap .i64 y1.1)==3) (some (Sum.inl (wrap .i64 y3.1,y3.2,(wrap .i64 y1.1,wrap .i64 y2.1,0,0,0,[],a01 3 0,[],[],(0,[],()),[],()),()))) (cond ((wrap .i64 y1.1)==5) (some (Sum.inr (Sum.inr ((wrap .i64 y3.1,true,y3.2,(wrap .i64 y1.1,wrap .i64 y2.1,0,0,0,[],a01 3 0,[],[],(0,[],()),[],()),()))))) (some (Sum.inr (Sum.inl (wrap .i64 y3.1,true,(wrap .i64 y1.1,wrap .i64 y2.1,0,0,0,[],a01 3 0,[],[],(0,[],()),[],()),y3.2,())))))))).bind fun z8=> match z8 with |.inl a9=>((a8G (a9.2.1,a9.2.2.1)).bind fun y11=> some (a9.1,y11.1,y11.2.2,y11.2.1,())) |.inr b10=>(match b10 with |.inl a12=>some (a12.1,a12.2.1,a12.2.2.1,a12.2.2.2.1,()) |.inr b13=>((a0H (b13.2.2.1,2)).bind fun y14=> (y0o a6K (b13.1,b13.2.1,y14.1,0,y14.2,b13.2.2.2.1,())).bind fun w17=> some (w17.1,w17.2.1,w17.2.2.1,w17.2.2.2.1,())))).bind fun z18=> some (z18.2.2.1,z18.1,z18.2.1,z18.2.2.2.1)
def b6v:FSem:=⟨[.r false (.b Q16)],[.v (.pair QI (.pair QI (.pair QI (.pair QI (.pair QI (.pair QL (.pair (.arr 3 QI) (.pair (.list false Q3) Q23)))))))),.v QI,.v .bool],a9u⟩
def d6V:Hints:=⟨[(8106,[.sv 3 QI,.sv 4 .bool,.sv 50 (.int .u64),.sv 51 (.int .u64),.box pinned Q16,.box 2 Q41,.ptr 0 pinned [],.ptr 2 2 []],[(.exit 7,[.sv 3 QI,.sv 4 .bool,.box 2 Q41,.box pinned Q16,.ptr 2 2 []])]),(129550,[.sv 3 QI,.sv 38 QI,.box pinned Q16,.box 2 Q41,.ptr 0 pinned [],.ptr 2 2 []],[(.exit 5,[.sv 3 QI,.box pinned Q16,.box 2 Q41,.ptr 0 pinned [],.ptr 2 2 []])])],[(63,[(.normal,[.sv 3 QI,.sv 4 .bool,.box 2 Q41,.box pinned Q16,.ptr 2 2 []])]),(2024,[(.normal,[.sv 3 QI,.box pinned Q16,.box 2 Q41,.ptr 0 pinned [],.ptr 2 2 []]),(.exit 0,[.sv 3 QI,.sv 4 .bool,.box 2 Q41,.box pinned Q16,.ptr 2 2 []]),(.exit 4,[.sv 3 QI,.sv 4 .bool,.box pinned Q16,.box 2 Q41,.ptr 0 pinned [],.ptr 2 2 []])])],[]⟩
def a3s(s:Z82):Option (Z82 ⊕ Z54):= cond (s.2.2.1==(wrap .i64 (8*(s.2.2.2.1.1.length:Int)))) (some (.inr (0,(s.2.2.2.1.1,s.2.2.2.1.2.1,3,s.2.2.2.1.2.2.2),()))) ((a1x (s.2.2.2.1,s.2.2.1)).bind fun y2=> cond (y2.1==1) (some (.inr (s.2.1,(y2.2.1,wrap .i64 (s.2.2.1+1),y2.2.2.2),()))) (cond (s.2.1==s.1) (some (.inr (0,(y2.2.1,y2.2.2.1,2,y2.2.2.2.2),()))) (some (.inl (s.1,wrap .i64 (s.2.1+1),wrap .i64 (s.2.2.1+1),y2.2,())))))
def a3f(x:Z32):Option Z29:= cond (x.1.2.2.1 != 0) (some (0,x.1)) ((y0o a3s (v0n x.2 0,0,x.1.2.1,x.1,())).bind fun w3=> some (w3.1,w3.2.1))
def b1d:FSem:=⟨[.r false (.b Q16),.v QI],[.v QI],a3f⟩
def d6W:Hints:=⟨[(62,[.sv 1 QI,.sv 5 QI,.sv 6 QI,.box pinned Q16,.ptr 0 pinned []],[(.ret,[.sv 4 QI,.box pinned Q16])])],[],[(4,[.p,.p,.q,.q,.v,.x])]⟩
def a7i(x:Int):Option Int:= cond (decide (x≥2147483648)) (some 0) (cond ((a05 x 2)==0) (some (wrap .i64 (wrap .u64 (a07 x 2)))) (some (wrap .i64 ((wrap .i64 (0-(wrap .i64 (wrap .u64 (a07 x 2)))))-1))))
def b6w:FSem:=⟨[.v (.int .u64)],[.v QI],a7i⟩
def d6X:Hints:=⟨[],[],[]⟩
def b2S(x:Z32):Option Z49:= (a3f (x.1,32)).bind fun y1=> (a0N y1.2).bind fun y2=> cond (y2.1 != 0) ((a0N y2.2).bind fun y3=> some (0,y3.1,y3.2)) (cond (decide ((wrap .u64 y1.1)<32)) ((a0H (y2.2,x.2)).bind fun y4=> cond (decide (x.2<0)) none ((a7i (wrap .u64 ((A0j .u64 (wrap .u64 y1.1) x.2)+y4.1))).bind fun y5=> (a0N y4.2).bind fun y6=> some (y5,y6.1,y6.2))) ((a0H (y2.2,32)).bind fun y7=> (a0N y7.2).bind fun y8=> cond (y8.1 != 0) ((a0N y8.2).bind fun y9=> some (0,y9.1,y9.2)) ((show Option Z67 from cond (decide (y7.1≥2147483648)) (some (y7.1,true,y8.2,())) (cond (decide (x.2<0)) none (some (y7.1,decide ((A0k .u64 y7.1 x.2)<32),y8.2,())))).bind fun z10=> cond z10.2.1 (some (0,2,z10.2.2.1)) ((a7i z10.1).bind fun y11=> some (y11,0,z10.2.2.1)))))
def b9n:FSem:=⟨[.r false (.b Q16),.v QI],[.v QI,.v QI],b2S⟩
def d6Y:Hints:=⟨[],[(254,[(.normal,[.sv 8 (.int .u64),.sv 44 .bool,.box pinned Q16])])],[]⟩
def a9v(s:Z92):Option (Z92 ⊕ (Z63 ⊕ Z78)):= cond (decide (s.2.2.1<s.2.1)) ((b2S (s.2.2.2.2.1,s.1)).bind fun y5=> cond (y5.2.1 != 0) (some (.inr (Sum.inr ((y5.2.1,[],y5.2.2,()))))) (cond (lim ((a02 s.2.2.2.1)+1)) (some (.inl (s.1,s.2.1,wrap .i64 (s.2.2.1+1),a03 s.2.2.2.1 [y5.1],y5.2.2,()))) none)) (some (.inr (Sum.inl (s.2.2.2.1,s.2.2.2.2.1,()))))
def b2T(x:(Z13×Int×Int)):Option Z59:= (show Option (Int×Z67)from(a1K x.2.1).bind fun y1=> cond (!y1) (some (x.2.1,x.2.2,true,x.1,())) (cond (decide (x.2.2<0)) (some (x.2.1,x.2.2,true,x.1,())) (some (x.2.1,x.2.2,decide (x.2.2 > 4194304),x.1,())))).bind fun z2=> cond z2.2.2.1 (some ([],1,z2.2.2.2.1)) ((a0N z2.2.2.2.1).bind fun y3=> cond (y3.1 != 0) ((a0N y3.2).bind fun y4=> some ([],y4.1,y4.2)) ((y0o a9v (z2.1,z2.2.1,0,[],y3.2,())).bind fun w6=> match w6 with |.inl a7=>some (a7.1,0,a7.2.1) |.inr b8=>some (b8.2.1,b8.1,b8.2.2.1)))
def b9o:FSem:=⟨[.r false (.b Q16),.v QI,.v QI],[.o QI,.v QI],b2T⟩
def d6Z:Hints:=⟨[(250,[.sv 1 QI,.sv 27 QI,.sv 28 QI,.own 8 8 QI,.box pinned Q16,.ptr 0 pinned []],[(.exit 0,[.own 8 8 QI,.box pinned Q16]),(.ret,[.sv 7 QI,.own 6 6 QI,.box pinned Q16])])],[(6,[(.normal,[.sv 1 QI,.sv 2 QI,.sv 21 .bool,.box pinned Q16,.ptr 0 pinned []])])],[]⟩
def a8H(s:(Int×Z92)):Option ((Int×Z92) ⊕ Z88):= cond (decide (s.2.2.2.1<s.2.2.1)) ((a1a (s.2.2.2.2.2.1,s.2.1)).bind fun y6=> cond (lim ((a02 s.2.2.2.2.1)+1)) (some (.inl (s.1,s.2.1,s.2.2.1,wrap .i64 (s.2.2.2.1+1),a03 s.2.2.2.2.1 [y6.1],y6.2,()))) none) (some (.inr (s.1,s.2.1,s.2.2.2.2.1,s.2.2.2.2.2.1,())))
def b1Q(x:Z32):Option (Int×Z59):= (a0H (x.1,5)).bind fun y1=> (a0N y1.2).bind fun y2=> cond (y2.1 != 0) ((a0N y2.2).bind fun y3=> some (0,[],y3.1,y3.2)) (cond (decide ((wrap .i64 y1.1)≤25)) ((b2T (y2.2,wrap .i64 y1.1,x.2)).bind fun y4=> some (wrap .i64 y1.1,y4.1,y4.2.1,y4.2.2)) (cond ((wrap .i64 y1.1) != 31) (some (0,[],2,y2.2)) ((a0H (y2.2,5)).bind fun y5=> (y0o a8H (wrap .i64 y1.1,wrap .i64 y5.1,x.2,0,[],y5.2,())).bind fun w7=> (a0N w7.2.2.2.1).bind fun y8=> cond (y8.1 != 0) ((a0N y8.2).bind fun y9=> some (0,[],y9.1,y9.2)) ((a1r w7.2.2.1).bind fun y10=> cond (y10 != w7.2.1) (some (0,[],2,y8.2)) (some (w7.1,w7.2.2.1,0,y8.2))))))
def b8c:FSem:=⟨[.r false (.b Q16),.v QI],[.v QI,.o QI,.v QI],b1Q⟩
def d7a:Hints:=⟨[(2042,[.sv 7 QI,.sv 10 QI,.sv 37 QI,.sv 38 QI,.own 11 11 QI,.box pinned Q16,.ptr 0 pinned []],[(.exit 0,[.sv 7 QI,.sv 10 QI,.own 11 11 QI,.box pinned Q16,.ptr 0 pinned []])])],[],[]⟩
def a8I(s:(Int×(Int×((List Int)×((List Int)×(Z13×Z81)))))):Option ((Int×(Int×((List Int)×((List Int)×(Z13×Z81))))) ⊕ (((List Int)×(Z5×Z5×Z36)) ⊕ (Int×((List Int)×(Z5×Z36))))):= cond (decide (s.2.1<s.1)) (cond ((decide (0≤s.2.1))&&(decide (s.2.1<(s.2.2.2.1.length:Int)))) ((b1Q (s.2.2.2.2.1,a04 s.2.2.2.1 (a00 s.2.1) 0)).bind fun y6=> cond (y6.2.2.1 != 0) (some (.inr (Sum.inr ((y6.2.2.1,[],(0,[],()),y6.2.2.2,()))))) (cond (lim ((a02 s.2.2.2.2.2.2.1.2.1)+1)) (cond (lim ((a02 s.2.2.1)+(a02 y6.2.1))) (some (.inl (s.1,wrap .i64 (s.2.1+1),a03 s.2.2.1 y6.2.1,s.2.2.2.1,y6.2.2.2,s.2.2.2.2.2.1,(s.2.2.2.2.2.2.1.1,a03 s.2.2.2.2.2.2.1.2.1 [y6.1],s.2.2.2.2.2.2.1.2.2),()))) none) none)) none) (some (.inr (Sum.inl (s.2.2.1,s.2.2.2.2.2.1,s.2.2.2.2.2.2.1,s.2.2.2.2.1,()))))
def b1R(x:(Z13×Int×Int)):Option (Z5×Z59):= (a7q (x.2.1,x.2.2)).bind fun y1=> cond (!y1) (some ((0,[],()),[],1,x.1)) ((a0H (x.1,4)).bind fun y2=> (a0N y2.2).bind fun y3=> cond (y3.1 != 0) ((a0N y3.2).bind fun y4=> some ((0,[],()),[],y4.1,y4.2)) ((a2T (wrap .i64 y2.1,x.2.1,x.2.2)).bind fun y5=> cond ((y5.length:Int)==0) (some ((0,[],()),[],2,y3.2)) ((y0o a8I ((y5.length:Int),0,[],y5,y3.2,(0,[],()),(wrap .i64 y2.1,[],()),())).bind fun w7=> match w7 with |.inl a8=>some (a8.2.2.1,a8.1,0,a8.2.2.2.1) |.inr b9=>some (b9.2.2.1,b9.2.1,b9.1,b9.2.2.2.1))))
def b8d:FSem:=⟨[.r false (.b Q16),.v QI,.v QI],[.v Q11,.o QI,.v QI],b1R⟩
def d7b:Hints:=⟨[(4090,[.sv 43 QI,.sv 44 QI,.own 12 12 QI,.own 42 10 QI,.box pinned Q16,.box 6 Q11,.box 11 Q10,.ptr 0 pinned [],.ptr 6 6 [],.ptr 11 11 []],[(.exit 0,[.own 12 12 QI,.box 6 Q11,.box 11 Q10,.box pinned Q16,.ptr 6 6 [],.ptr 11 11 []]),(.ret,[.sv 8 QI,.own 7 7 QI,.box 6 Q11,.box pinned Q16,.ptr 6 6 []])])],[],[]⟩
def b0N(s:(Int×Int×Bool×Int×Int×Z13×b2p)):Option ((Int×Int×Bool×Int×Int×Z13×b2p) ⊕ (Int×Int×Bool×Z13×b2p)):= cond (decide (s.2.2.2.2.1<s.2.2.2.1)) ((a1a (s.2.2.2.2.2.1,s.2.1)).bind fun y7=> cond (lim ((a02 s.2.2.2.2.2.2.2.1.2.2.2.2.2.2.2.2.1)+1)) (some (.inl (s.1,s.2.1,s.2.2.1,s.2.2.2.1,wrap .i64 (s.2.2.2.2.1+1),y7.2,s.2.2.2.2.2.2.1,(s.2.2.2.2.2.2.2.1.1,s.2.2.2.2.2.2.2.1.2.1,s.2.2.2.2.2.2.2.1.2.2.1,s.2.2.2.2.2.2.2.1.2.2.2.1,s.2.2.2.2.2.2.2.1.2.2.2.2.1,s.2.2.2.2.2.2.2.1.2.2.2.2.2.1,s.2.2.2.2.2.2.2.1.2.2.2.2.2.2.1,s.2.2.2.2.2.2.2.1.2.2.2.2.2.2.2.1,a03 s.2.2.2.2.2.2.2.1.2.2.2.2.2.2.2.2.1 [y7.1],s.2.2.2.2.2.2.2.1.2.2.2.2.2.2.2.2.2),()))) none) (some (.inr (s.1,s.2.1,s.2.2.1,s.2.2.2.2.2.1,s.2.2.2.2.2.2.1,s.2.2.2.2.2.2.2.1,())))
def b2f(x:Z32):Option (a1R×Z29):= cond (decide (x.2<1)) (some ((0,0,0,0,0,[],a01 3 0,[],[],(0,[],()),[],()),1,x.1)) (cond (decide (x.2 > 4096)) (some ((0,0,0,0,0,[],a01 3 0,[],[],(0,[],()),[],()),1,x.1)) ((a0N x.1).bind fun y1=> cond (y1.1 != 0) (some ((0,0,0,0,0,[],a01 3 0,[],[],(0,[],()),[],()),y1.1,y1.2)) ((a9u y1.2).bind fun y2=> (a0N y2.2.2.2).bind fun y3=> cond (y3.1 != 0) (some ((0,0,0,0,0,[],a01 3 0,[],[],(0,[],()),[],()),y3.1,y3.2)) ((a7Q (y2.1.1,y2.1,x.2)).bind fun y4=> cond (!y4) (some ((0,0,0,0,0,[],a01 3 0,[],[],(0,[],()),[],()),2,y3.2)) ((a4z (y2.1,x.2)).bind fun y5=> (y0o b0N (x.2,y2.2.1,y2.2.2.1,y5,0,y3.2,(0,0,0,0,0,[],a01 3 0,[],[],(0,[],()),[],()),y2.1,())).bind fun w8=> (a0N w8.2.2.2.1).bind fun y9=> cond (y9.1 != 0) (some ((0,0,0,0,0,[],a01 3 0,[],[],(0,[],()),[],()),y9.1,y9.2)) ((a5Y w8.2.2.2.2.2.1.1).bind fun y10=> cond y10 ((b1R (y9.2,w8.1,(w8.2.2.2.2.2.1.2.2.2.2.2.2.2.2.1.length:Int))).bind fun y11=> cond (y11.2.2.1 != 0) (some ((0,0,0,0,0,[],a01 3 0,[],[],(0,[],()),[],()),y11.2.2.1,y11.2.2.2)) (cond (!w8.2.2.1) (some ((0,0,0,0,0,[],a01 3 0,[],[],(0,[],()),[],()),2,y11.2.2.2)) ((a1r w8.2.2.2.2.2.1.2.2.2.2.2.2.2.2.1).bind fun y12=> cond (y12 != w8.2.1) (some ((0,0,0,0,0,[],a01 3 0,[],[],(0,[],()),[],()),2,y11.2.2.2)) ((a9I ((w8.2.2.2.2.2.1.1,w8.2.2.2.2.2.1.2.1,w8.2.2.2.2.2.1.2.2.1,w8.2.2.2.2.2.1.2.2.2.1,w8.2.2.2.2.2.1.2.2.2.2.1,w8.2.2.2.2.2.1.2.2.2.2.2.1,w8.2.2.2.2.2.1.2.2.2.2.2.2.1,w8.2.2.2.2.2.1.2.2.2.2.2.2.2.1,w8.2.2.2.2.2.1.2.2.2.2.2.2.2.2.1,y11.1,y11.2.1,w8.2.2.2.2.2.1.2.2.2.2.2.2.2.2.2.2.2),w8.1)).bind fun y13=> cond (!y13) (some ((0,0,0,0,0,[],a01 3 0,[],[],(0,[],()),[],()),2,y11.2.2.2)) (some ((w8.2.2.2.2.2.1.1,w8.2.2.2.2.2.1.2.1,w8.2.2.2.2.2.1.2.2.1,w8.2.2.2.2.2.1.2.2.2.1,w8.2.2.2.2.2.1.2.2.2.2.1,w8.2.2.2.2.2.1.2.2.2.2.2.1,w8.2.2.2.2.2.1.2.2.2.2.2.2.1,w8.2.2.2.2.2.1.2.2.2.2.2.2.2.1,w8.2.2.2.2.2.1.2.2.2.2.2.2.2.2.1,y11.1,y11.2.1,w8.2.2.2.2.2.1.2.2.2.2.2.2.2.2.2.2.2),0,y11.2.2.2)))))) (cond (!w8.2.2.1) (some ((0,0,0,0,0,[],a01 3 0,[],[],(0,[],()),[],()),2,y9.2)) ((a1r w8.2.2.2.2.2.1.2.2.2.2.2.2.2.2.1).bind fun y14=> cond (y14 != w8.2.1) (some ((0,0,0,0,0,[],a01 3 0,[],[],(0,[],()),[],()),2,y9.2)) ((a9I (w8.2.2.2.2.2.1,w8.1)).bind fun y15=> cond (!y15) (some ((0,0,0,0,0,[],a01 3 0,[],[],(0,[],()),[],()),2,y9.2)) (some (w8.2.2.2.2.2.1,0,y9.2)))))))))))
def c1B:FSem:=⟨[.r false (.b Q16),.v QI],[.v Q42,.v QI],b2f⟩
def H73:Hints:=⟨[(1018,[.sv 1 QI,.sv 8 QI,.sv 9 .bool,.sv 47 QI,.sv 48 QI,.box pinned Q16,.box 4 Q42,.box 7 (.pair QI (.pair QI (.pair QI (.pair QI (.pair QI (.pair QL (.pair (.arr 3 QI) (.pair (.list false Q3) (.pair (.list true QI) Q20))))))))),.ptr 0 pinned [],.ptr 4 4 [],.ptr 7 7 []],[(.exit 0,[.sv 1 QI,.sv 8 QI,.sv 9 .bool,.box pinned Q16,.box 4 Q42,.box 7 (.pair QI (.pair QI (.pair QI (.pair QI (.pair QI (.pair QL (.pair (.arr 3 QI) (.pair (.list false Q3) (.pair (.list true QI) Q20))))))))),.ptr 0 pinned [],.ptr 4 4 [],.ptr 7 7 []])])],[],[(14,[.r [7,50],.r [7,51],.p,.v,.w [54,1054,pinned],.q,.x,.x,.x])]⟩
def a3t(s:Z66):Option (Z66 ⊕ (Z54 ⊕ Z36)):= cond (decide (s.2.1<s.1)) ((a1x (s.2.2.1,s.2.1)).bind fun y1=> cond (y1.1==1) (some (.inr (Sum.inr (((y1.2.1,y1.2.2.1,2,y1.2.2.2.2),()))))) (some (.inl (s.1,wrap .i64 (s.2.1+1),y1.2,())))) (some (.inr (Sum.inl (s.1,s.2.2.1,()))))
def a4V(x:Z13):Option Z13:= cond (x.2.2.1 != 0) (some x) ((y0o a3t (wrap .i64 ((wrap .i64 (a07 (wrap .i64 (x.2.1+7)) 8))*8),x.2.1,x,())).bind fun w2=> match w2 with |.inl a3=>some (a3.2.1.1,a3.1,a3.2.1.2.2) |.inr b4=>some b4.1)
def b1e:FSem:=⟨[.r false (.b Q16)],[],a4V⟩
def H75:Hints:=⟨[(58,[.sv 2 QI,.sv 3 QI,.box pinned Q16,.ptr 0 pinned []],[(.exit 0,[.sv 2 QI,.box pinned Q16,.ptr 0 pinned []]),(.ret,[.box pinned Q16])])],[],[]⟩
def a7P(s:(Int×Int×Int×a3w×c0X)):Option ((Int×Int×Int×a3w×c0X) ⊕ ((Int×a3w×c0X) ⊕ (Int×Int×b4r))):= cond (decide (s.2.2.1<s.2.1)) ((b2f (s.2.2.2.2.2.1,s.2.2.2.2.1.2.1)).bind fun y7=> cond (y7.2.1 != 0) (some (.inr (Sum.inr ((0,2,(0,0,(0,0,0,()),[],[],()),()))))) (cond (lim ((a02 s.2.2.2.2.1.2.2.2.2.1)+1)) (some (.inl (s.1,s.2.1,wrap .i64 (s.2.2.1+1),s.2.2.2.1,(s.2.2.2.2.1.1,s.2.2.2.2.1.2.1,s.2.2.2.2.1.2.2.1,s.2.2.2.2.1.2.2.2.1,a03 s.2.2.2.2.1.2.2.2.2.1 ([y7.1]:List a1R),s.2.2.2.2.1.2.2.2.2.2),y7.2.2,()))) none)) (some (.inr (Sum.inl (s.1,s.2.2.2.1,s.2.2.2.2.1,s.2.2.2.2.2.1,()))))
def a6j(x:(List Int)):Option (a3w×Int×Int):= (a7O x).bind fun y1=> cond (y1.2.2.2 != 0) (some ((0,0,(0,0,0,()),[],[],()),0,y1.2.2.2)) (cond (decide ((x.length:Int)<(wrap .i64 ((wrap .i64 (y1.2.1+y1.2.2.1))+2)))) (some ((0,0,(0,0,0,()),[],[],()),0,3)) (cond ((decide (0≤(wrap .i64 (y1.2.1+y1.2.2.1))))&&(decide ((wrap .i64 (y1.2.1+y1.2.2.1))≤(x.length:Int)))) ((a6d (a06 (a00 (wrap .i64 (y1.2.1+y1.2.2.1))) x)).bind fun y2=> (m0h x (wrap .i64 (y1.2.1+y1.2.2.1))).bind fun x3=> (m0h x (wrap .i64 ((wrap .i64 (y1.2.1+y1.2.2.1))+1))).bind fun x4=> cond (y2 != (bits .u16 .or (A0j .u16 (wrap .u16 x3) 8) (wrap .u16 x4))) (some ((0,0,(0,0,0,()),[],[],()),0,5)) (cond ((decide (0≤(wrap .i64 (y1.2.1+y1.2.2.1))))&&(decide ((wrap .i64 (y1.2.1+y1.2.2.1))≤(x.length:Int)))) (cond ((decide (0≤y1.2.1))&&(decide (y1.2.1≤((a00 (wrap .i64 (y1.2.1+y1.2.2.1)):Nat):Int)))) ((b2R (a21 (a00 y1.2.1) (a06 (a00 (wrap .i64 (y1.2.1+y1.2.2.1))) x))).bind fun y5=> (y0o a7P (wrap .i64 (y1.2.1+y1.2.2.1),y1.1.2.2.1.2.1,0,(0,0,(0,0,0,()),[],[],()),y1.1,y5,())).bind fun w8=> match w8 with |.inl a9=>((a2y a9.2.2.2.1).bind fun y11=> cond (decide (y11.1≥8)) (some ((0,0,(0,0,0,()),[],[],()),0,2)) ((a4V y11.2).bind fun y12=> (a0N y12).bind fun y13=> cond (y13.1 != 0) (some ((0,0,(0,0,0,()),[],[],()),0,2)) ((a4k a9.2.2.1).bind fun y14=> cond (!y14) (some ((0,0,(0,0,0,()),[],[],()),0,2)) (some (a9.2.2.1,wrap .i64 (a9.1+2),0))))) |.inr b10=>some (b10.2.2.1,b10.1,b10.2.1)) none) none)) none))
def b6Z:FSem:=⟨[.v (.list false (.int .u8))],[.v Q60,.v QI,.v QI],a6j⟩
def H21:Hints:=⟨[(2042,[.sv 9 QI,.sv 59 QI,.sv 60 QI,.box 2 Q60,.box 5 Q59,.box 1056 Q16,.ptr 2 2 [],.ptr 5 5 [],.ptr 10 1056 []],[(.exit 0,[.sv 9 QI,.box 2 Q60,.box 5 Q59,.box 1056 Q16,.ptr 2 2 [],.ptr 5 5 [],.ptr 10 1056 []]),(.ret,[.sv 3 QI,.sv 4 QI,.box 2 Q60,.ptr 2 2 []])])],[],[(7,[.v,.v,.v,.v,.v,.v,.v,.v,.v,.v,.v,.v,.v,.v,.v,.v,.v,.x])]⟩
def a6L(x:((List Int)×(Z94×Int×Int×Int))):Option (a3w×Z27):= (m0h x.2.1.2.1 x.2.2.1).bind fun x1=> cond (decide ((wrap .i64 ((x.1.length:Int)-x.2.2.2.1))<x1)) (some ((0,0,(0,0,0,()),[],[],()),(0,([]:(List (List Int))),()),3)) (cond ((decide (0≤(wrap .i64 (x.2.2.2.1+x1))))&&(decide ((wrap .i64 (x.2.2.2.1+x1))≤(x.1.length:Int)))) (cond ((decide (0≤x.2.2.2.1))&&(decide (x.2.2.2.1≤((a00 (wrap .i64 (x.2.2.2.1+x1)):Nat):Int)))) ((a6j (a21 (a00 x.2.2.2.1) (a06 (a00 (wrap .i64 (x.2.2.2.1+x1))) x.1))).bind fun y2=> cond (y2.2.2 != 0) (some ((0,0,(0,0,0,()),[],[],()),(0,([]:(List (List Int))),()),y2.2.2)) ((show Option (Bool×a3w×c2P)from cond (decide (y2.2.1<x1)) (some (true,(0,0,(0,0,0,()),[],[],()),(0,([]:(List (List Int))),()),y2.1,())) (cond (!(eqT Q12 y2.1.2.2.1 x.2.1.1)) (some (true,(0,0,(0,0,0,()),[],[],()),(0,([]:(List (List Int))),()),y2.1,())) (cond (y2.1.1 != x.2.2.2.2) (some (true,(0,0,(0,0,0,()),[],[],()),(0,([]:(List (List Int))),()),y2.1,())) ((m0h x.2.1.2.2.1 x.2.2.1).bind fun x3=> some (y2.1.2.1 != x3,(0,0,(0,0,0,()),[],[],()),(0,([]:(List (List Int))),()),y2.1,()))))).bind fun z4=> cond z4.1 (some ((0,0,(0,0,0,()),[],[],()),(0,([]:(List (List Int))),()),2)) ((a2p z4.2.2.2.1).bind fun y5=> cond (y5.2 != 0) (some ((0,0,(0,0,0,()),[],[],()),(0,([]:(List (List Int))),()),y5.2)) (some (z4.2.2.2.1,y5.1,0))))) none) none)
def a6M:FSem:=⟨[.v (.list false (.int .u8)),.v Q27,.v QI,.v QI,.v QI],[.v Q60,.v Q15,.v QI],a6L⟩
def d7c:Hints:=⟨[],[(126,[(.normal,[.sv 72 .bool,.box 10 Q60,.box 11 Q15,.box 14 Q60,.ptr 10 10 [],.ptr 11 11 [],.ptr 14 14 []])])],[(7,[.v,.v,.x,.x,.q,.q,.v,.v,.x,.x,.x,.q,.q,.v,.x,.x,.x,.q,.q,.v,.v,.v,.v,.v,.x,.x]),(12,[.q,.r [17,86],.w [0,10],.x,.x])]⟩
def d1D:Hints:=⟨[(250,[.sv 35 (.list false QL),.sv 36 QI,.sv 37 QI,.box 4 Q15,.box 6 (.pair QI Q7),.vp 3 Q3,.ptr 4 4 [],.ptr 6 6 []],[(.exit 0,[.box 4 Q15,.box 6 (.pair QI Q7),.ptr 4 4 [],.ptr 6 6 []])])],[(14,[(.normal,[.sv 29 .bool,.box 4 Q15,.vp 2 Q15,.vp 3 Q3,.ptr 4 4 []])])],[(3,[.x,.x,.x,.x,.v,.v,.v,.v,.x,.x,.x,.v,.v,.v,.v,.x,.x]),(9,[.q,.q,.v,.v,.v,.v,.v,.v,.v,.q,.x,.x,.x])]⟩
def c4s(x:(Z10×Int×Int×Unit)):Option Z27:=A0f (a9P [(22,a7o),(56,a4j),(183,a1j)] [(6,.pair (.int .i64) Q7),(12,.pair (.int .i64) Q5),(30,.pair (.int .i64) Q5),(33,.pair (.int .i64) Q5)] [0,1,5,8] [2,3]) d1D Tryz.f104 [.v Q15,.v Q3] [.v Q15,.v (.int .i64)] x
def b4D:FSem:=⟨[.v Q15,.v Q3],[.v Q15,.v QI],c4s⟩
def H43:Hints:=⟨[(1018,[.sv 0 (.list false (.int .u8)),.sv 9 QI,.sv 10 QI,.sv 48 QL,.sv 49 QI,.sv 50 QI,.own 8 8 QI,.box 6 Q27,.vp 3 Q3,.ptr 6 6 []],[(.exit 0,[.own 8 8 QI]),(.ret,[.sv 5 QI,.own 4 4 QI])])],[(30,[(.normal,[.sv 0 (.list false (.int .u8)),.sv 44 .bool,.box 6 Q27,.vp 3 Q3,.ptr 6 6 []])]),(260711,[(.normal,[.sv 0 (.list false (.int .u8)),.sv 9 QI,.sv 12 QI,.sv 13 QI,.sv 48 QL,.sv 49 QI,.sv 50 QI,.own 8 8 QI,.box 6 Q27,.vp 3 Q3,.ptr 6 6 []]),(.ret,[.sv 5 QI,.own 4 4 QI])])],[(12,[.v,.v,.v,.v,.v,.v,.v,.v,.v,.x])]⟩
def b7a(x:Z13):Option ((List Int)×Int):=A0f (a9P [(86,a7d),(102,a7N),(103,a6M),(104,b4D)] [] [0,1,4,5,7,8,9,10,11,12,13,14,15,18] [3]) H43 Tryz.f43 [.v (.list false (.int .u8)),.v Q3] [.o (.int .i64),.v (.int .i64)] x
def b7b:FSem:=⟨[.v (.list false (.int .u8)),.v Q3],[.o QI,.v QI],b7a⟩
def a3M(s:((List Int)×(Int×((List Int)×(Int×Int×b2q×Z94×b3i))))):Option (((List Int)×(Int×((List Int)×(Int×Int×b2q×Z94×b3i)))) ⊕ (((List Int)×(Int×b2q×Z94×b3i)) ⊕ (Int×b3i))):= cond (decide (s.2.2.2.2.1<s.2.2.2.1)) ((m0h s.2.2.1 s.2.2.2.2.1).bind fun x2=> (a6L (s.1,s.2.2.2.2.2.2.1,s.2.2.2.2.1,s.2.1,s.2.2.2.2.2.2.2.1.2.1)).bind fun y3=> cond (y3.2.2 != 0) (some (.inr (Sum.inr ((y3.2.2,((0,0,0,()),0,0,[],[],()),()))))) ((a4v (s.2.2.2.2.2.2.2.1.2.2.1,y3.2.1)).bind fun y4=> cond (lim ((a02 s.2.2.2.2.2.2.2.1.2.2.2.1)+1)) (cond (lim ((a02 s.2.2.2.2.2.2.2.1.2.2.2.2.1)+1)) (some (.inl (s.1,wrap .i64 (s.2.1+x2),s.2.2.1,s.2.2.2.1,wrap .i64 (s.2.2.2.2.1+1),s.2.2.2.2.2.1,s.2.2.2.2.2.2.1,(s.2.2.2.2.2.2.2.1.1,wrap .i64 (s.2.2.2.2.2.2.2.1.2.1+y3.1.2.1),y4.1,a03 s.2.2.2.2.2.2.2.1.2.2.2.1 ([(s.2.2.2.2.2.2.2.1.2.1,wrap .i64 (s.2.1-s.2.2.2.2.2.2.1.2.2.2.2.2.1),())]:List (Int×Int×Unit)),a03 s.2.2.2.2.2.2.2.1.2.2.2.2.1 ([y3.1]:List a3w),s.2.2.2.2.2.2.2.1.2.2.2.2.2),()))) none) none)) (some (.inr (Sum.inl (s.1,s.2.1,s.2.2.2.2.2.1,s.2.2.2.2.2.2.1,s.2.2.2.2.2.2.2.1,()))))
def a7Z(x:(List Int)):Option (b2q×Int):= (a5w x).bind fun y1=> cond (y1.2 != 0) (some (((0,0,0,()),0,0,[],[],()),y1.2)) ((y0o a3M (x,y1.1.2.2.2.2.2.1,y1.1.2.1,(y1.1.2.1.length:Int),0,((0,0,0,()),0,0,[],[],()),y1.1,(y1.1.1,0,0,[],[],()),())).bind fun w5=> match w5 with |.inl a6=>(cond (decide (a6.2.1<(a6.1.length:Int))) (some (((0,0,0,()),0,0,[],[],()),2)) (cond (a6.2.2.2.2.1.2.2.1 != a6.2.2.2.1.2.2.2.2.1) (some (((0,0,0,()),0,0,[],[],()),5)) (some (a6.2.2.2.2.1,0)))) |.inr b7=>some (b7.2.1,b7.1))
def b3w:FSem:=⟨[.v (.list false (.int .u8))],[.v Q74,.v QI],a7Z⟩
def H44:Hints:=⟨[(506,[.sv 0 (.list false (.int .u8)),.sv 7 QI,.sv 28 QL,.sv 29 QI,.sv 30 QI,.box 2 Q74,.box 4 Q27,.box 6 Q73,.ptr 2 2 [],.ptr 4 4 [],.ptr 6 6 []],[(.exit 0,[.sv 0 (.list false (.int .u8)),.sv 7 QI,.box 2 Q74,.box 4 Q27,.box 6 Q73,.ptr 2 2 [],.ptr 4 4 [],.ptr 6 6 []]),(.ret,[.sv 3 QI,.box 2 Q74,.ptr 2 2 []])])],[],[]⟩
def b4E(x:Unit):Option Bool:= (a6i ((8000,1,8,()),[1,2,3],2,0)).bind fun y1=> (a7Z y1.1).bind fun y2=> (a3H y2.1).bind fun y3=> (b7a (y1.1,1,3,())).bind fun y4=> (b6O (y2.1,2)).bind fun y5=> cond (y1.2==0) (cond (y2.2==0) (cond (y3.2==0) (cond (y4.2==0) (cond (y5.2==0) (cond ((y2.1.2.2.2.2.1.length:Int)==2) ((a5d (y3.1,[1,2,3])).bind fun y6=> cond y6 ((a5d (y4.1,[2,3])).bind fun y7=> cond y7 (cond (y5.1==1) ((a7U [1,2,3]).bind fun y8=> some (y2.1.2.2.1==y8)) (some false)) (some false)) (some false)) (some false)) (some false)) (some false)) (some false)) (some false)) (some false)
def b8e:FSem:=⟨[],[.v .bool],b4E⟩
def H25:Hints:=⟨[],[],[(7,[.x,.x,.x,.x,.x,.x,.x,.x,.x,.x,.x,.x,.x,.x,.x,.x,.x,.x,.x,.x,.x,.x,.x,.x,.x,.q,.q,.x,.x,.x,.q,.q,.x,.x,.x,.x,.x,.x,.x,.q,.q,.q,.q,.x,.x,.x])]⟩
def b8H(x:Int):Option Int:= (show Option (Int×Bool×Unit)from cond (decide (x<1)) (some (x,true,())) (some (x,decide (x > 31),()))).bind fun z1=> cond z1.2.1 (some 0) (cond (decide ((wrap .u64 (wrap .i64 (z1.1-1)))<0)) none (some (A0j .i64 (-1) (wrap .u64 (wrap .i64 (z1.1-1))))))
def c2U:FSem:=⟨[.v QI],[.v QI],b8H⟩
def d7d:Hints:=⟨[],[(6,[(.normal,[.sv 0 QI,.sv 8 .bool])])],[]⟩
def b7c(x:Int):Option Int:= (show Option (Int×Bool×Unit)from cond (decide (x<1)) (some (x,true,())) (some (x,decide (x > 31),()))).bind fun z1=> cond z1.2.1 (some 0) (cond (decide ((wrap .u64 (wrap .i64 (z1.1-1)))<0)) none (some (wrap .i64 ((A0j .i64 1 (wrap .u64 (wrap .i64 (z1.1-1))))-1))))
def c1C:FSem:=⟨[.v QI],[.v QI],b7c⟩
def d7e:Hints:=⟨[],[(6,[(.normal,[.sv 0 QI,.sv 8 .bool])])],[]⟩
def b2g(x:(Int×Int)):Option Bool:= cond (decide (x.2≥1)) (cond (decide (x.2≤31)) ((b8H x.2).bind fun y1=> cond (decide (x.1≥y1)) ((b7c x.2).bind fun y2=> some (decide (x.1≤y2))) (some false)) (some false)) (some false)
def c1D:FSem:=⟨[.v QI,.v QI],[.v .bool],b2g⟩
def H55:Hints:=⟨[],[],[]⟩
def b1S(x:Z7):Option Bool:= cond (decide (x.1≥1)) (cond (decide (x.1≤1048576)) (cond (decide (x.2.1≥1)) (cond (decide (x.2.1≤8)) (cond (decide (x.2.2.1≥4)) (some (decide (x.2.2.1≤24))) (some false)) (some false)) (some false)) (some false)) (some false)
def b8f:FSem:=⟨[.v Q12],[.v .bool],b1S⟩
def H77:Hints:=⟨[],[],[]⟩
def a7j(s:((List Int)×Z37)):Option (((List Int)×Z37) ⊕ Z0):= cond (decide (s.2.1<(s.1.length:Int))) ((m0h s.1 s.2.1).bind fun x3=> (b2g (x3,s.2.2.1.2.2.1)).bind fun y4=> cond (!y4) (some (.inr (Sum.inr ((false,()))))) (some (.inl (s.1,wrap .i64 (s.2.1+1),s.2.2.1,())))) (some (.inr (Sum.inl ())))
def b2U(x:(Z7×((List Int)×Int))):Option Bool:= (show Option ((List Int)×Z38)from(b1S x.1).bind fun y1=> cond (!y1) (some (x.2.1,true,x.1,())) (cond (decide ((x.2.1.length:Int) > x.2.2)) (some (x.2.1,true,x.1,())) (cond (x.1.2.1==0) none (some (x.2.1,(a05 (x.2.1.length:Int) x.1.2.1) != 0,x.1,()))))).bind fun z2=> cond z2.2.1 (some false) ((y0o a7j (z2.1,0,z2.2.2.1,())).bind fun w5=> match w5 with |.inl a6=>some true |.inr b7=>some b7.1)
def b9p:FSem:=⟨[.v Q12,.v QL,.v QI],[.v .bool],b2U⟩
def H39:Hints:=⟨[(58,[.sv 1 QL,.sv 7 QI,.vp 3 Q12],[(.exit 0,[]),(.ret,[.sv 6 .bool])])],[(6,[(.normal,[.sv 1 QL,.sv 24 .bool,.vp 3 Q12])])],[(6,[.v,.v,.v,.v,.v,.v,.x,.x])]⟩
def a6N(x:(Z7×Z3)):Option ((List Int)×(b2q×Bool)):= (a6i (x.1,x.2.1,wrap .i64 (1+(bits .i64 .and x.2.2.1 63)),bits .i64 .and x.2.2.2 3)).bind fun y1=> (a7Z y1.1).bind fun y2=> cond (y1.2==0) (some (y1.1,y2.1,y2.2==0)) (some (y1.1,y2.1,false))
def b9q:FSem:=⟨[.v Q12,.v QL,.v QI,.v QI],[.v (.list false (.int .u8)),.v Q74,.v .bool],a6N⟩
def H40:Hints:=⟨[],[],[(3,[.v,.q,.v,.v,.v,.v,.v,.v,.v,.w [0,9],.x])]⟩
def a8T(x:(Z7×Z3)):Option Bool:= (b4E ()).bind fun y1=> cond (!y1) (some false) ((b2U (x.1,x.2.1,60)).bind fun y2=> cond (!y2) (some true) ((a6N (x.1,x.2.1,x.2.2.1,1)).bind fun y3=> (a6N (x.1,x.2.1,x.2.2.1,2)).bind fun y4=> (a6N (x.1,x.2.1,x.2.2.1,3)).bind fun y5=> (a6N (x.1,x.2.1,x.2.2.2,0)).bind fun y6=> (a3H y5.2.1).bind fun y7=> (a3H y6.2.1).bind fun y8=> cond y3.2.2 (cond y4.2.2 (cond y5.2.2 (cond y6.2.2 (cond (y7.2==0) (cond (y8.2==0) (cond (decide ((y4.1.length:Int)≤(y3.1.length:Int))) (cond (decide ((y5.1.length:Int)≤(y4.1.length:Int))) (cond (y3.2.1.2.2.1==y4.2.1.2.2.1) (cond (y4.2.1.2.2.1==y5.2.1.2.2.1) (cond (y5.2.1.2.2.1==y6.2.1.2.2.1) ((a5d (y7.1,y8.1)).bind fun y9=> some y9) (some false)) (some false)) (some false)) (some false)) (some false)) (some false)) (some false)) (some false)) (some false)) (some false)) (some false)))
def a8U:FSem:=⟨[.v Q12,.v QL,.v QI,.v QI],[.v .bool],a8T⟩
def H12:Hints:=⟨[],[],[]⟩
end Go.Ab
namespace Go.Ab
open Go.Proofs
set_option maxRecDepth 100000
theorem b3X:Tryz.prog.follows .mixedOrders=true:=by kernel_rfl
theorem d7f:A0z Tryz.prog c2H=true:=by kernel_rfl
theorem d7g:A0x Tryz.prog c2Q=true:=by kernel_rfl
theorem d7h:A0u Tryz.prog c2H c5r=true:=by kernel_rfl
theorem laidOut:laidOutB Tryz.prog=true:=by kernel_rfl
@[reducible] def Ok0(n:Nat)(s:FSem):Prop:=i0w Tryz.prog G0 n s∧l0u Tryz.prog n
theorem cxo{a:List (Nat×FSem)}{b:List (Nat×Ty)}{c d:List Nat}(h:∀p∈a,FOk Tryz.prog G0 p.1 p.2):CxOk Tryz.prog (a9P a b c d):=
 CxOk.of (CxTy.of (tab:=c2H) (l:=c5r) (q:=c2Q) (fun _=>rfl) (fun _=>rfl) (fun _=>rfl) d7f d7g d7h) (fun _=>rfl) h
theorem fo (a : List (Nat × FSem)) (b : List (Nat × Ty)) (c d : List Nat) (H : Hints) {n : Nat} {fn : Func} {e : Code} {s : FSem} (h : ∀ p ∈ a, FOk Tryz.prog G0 p.1 p.2) (hf : Tryz.prog.funcs[n]? = some fn) (hb : fn.body = some e := by rfl) (hk : A0i fn e H s = true := by kernel_rfl) (hn : (fn.name == "runtime.NumGoroutine") = false := by kernel_rfl) (hq : ∀ x, A0f (a9P a b c d) H fn s.ps s.rs x = s.F x := by intro x; kernel_rfl) : Ok0 n s :=
 ⟨i0w.of (cxo h) b3X hf hb hk hq,⟨_,_,hf,hb,hn⟩⟩
theorem c5t:Ok0 22 a7o:=
 fo [] [] [0,2] [1] H22 a0 Tryz.func22
theorem d2D:Ok0 175 b6G:=
 fo [] [] [0,2] [] d4E a0 Tryz.func175
theorem d2E:Ok0 176 b6n:=
 fo [] [] [0,2] [] d4F a0 Tryz.func176
theorem c1c:Ok0 95 a3P:=
 fo [(175,b6G),(176,b6n)] [] [0,1,4] [] H95 (a1 d2D (a1 d2E a0)) Tryz.func95
theorem c9h:Ok0 111 b2t:=
 fo [] [] [0,2] [] d4G a0 Tryz.func111
theorem c1d:Ok0 56 a4j:=
 fo [(22,a7o),(95,a3P),(111,b2t)] [] [0,2,4,6] [1] H56 (a1 c5t (a1 c1c (a1 c9h a0))) Tryz.func56
theorem c1e:Ok0 57 a3Q:=
 fo [(111,b2t)] [] [0,2] [1] H57 (a1 c9h a0) Tryz.func57
theorem c5u:Ok0 114 b2L:=
 fo [] [] [0,1,4] [] d4H a0 Tryz.func114
theorem c9i:Ok0 105 b2u:=
 fo [(57,a3Q),(114,b2L)] [] [0,2] [1] d4I (a1 c1e (a1 c5u a0)) Tryz.func105
theorem c5v:Ok0 117 a9n:=
 fo [] [] [0,2,4] [] d4J a0 Tryz.func117
theorem c5w:Ok0 128 a9Q:=
 fo [] [] [0,2] [] d4K a0 Tryz.func128
theorem c5x:Ok0 211 a9R:=
 fo [] [] [0,1,4,6] [] d4L a0 Tryz.func211
theorem c5y:Ok0 212 b2M:=
 fo [] [] [0,1,4,6] [3] d4M a0 Tryz.func212
theorem c9j:Ok0 271 b2v:=
 fo [] [] [0,2] [1] d4N a0 Tryz.func271
theorem c5z:Ok0 213 b1y:=
 fo [(271,b2v)] [] [0,2] [] d4O (a1 c9j a0) Tryz.func213
theorem c5A:Ok0 150 b3R:=
 fo [(211,a9R),(212,b2M),(213,b1y)] [] [0,1,2,6,8,11,27,41,62] [4] d4P (a1 c5x (a1 c5y (a1 c5z a0))) Tryz.func150
theorem c5B:Ok0 151 a9S:=
 fo [] [] [0,1,4,7,9,12,16] [2] d4Q a0 Tryz.func151
theorem b9r:Ok0 183 a0Z:=
 ⟨i0w.of (cx:=c9e) (cxo a0) b3X Tryz.func183 rfl (by kernel_rfl) d2x,⟨_,_,Tryz.func183,rfl,by kernel_rfl⟩⟩
theorem c6M:Ok0 183 a1j:=
 ⟨i0w.of (cx:=c6J) (cxo a0) b3X Tryz.func183 rfl (by kernel_rfl) d1v,⟨_,_,Tryz.func183,rfl,by kernel_rfl⟩⟩
theorem d1E:Ok0 251 a1c:=
 ⟨i0w.of (cx:=c6K) (cxo a0) b3X Tryz.func251 rfl (by kernel_rfl) d1w,⟨_,_,Tryz.func251,rfl,by kernel_rfl⟩⟩
theorem c9k:Ok0 196 b3k:=
 fo [(183,a1j),(251,a1c)] [] [0,1,9,11,13,15] [3] d4S (a1 c6M (a1 d1E a0)) Tryz.func196
theorem d2F:Ok0 235 b7L:=
 fo [(196,b3k)] [] [0,2] [1] d4T (a1 c9k a0) Tryz.func235
theorem c5C:Ok0 214 b1A:=
 fo [] [] [0,1,4] [] d4U a0 Tryz.func214
theorem b9s:Ok0 201 a4Z:=
 fo [(214,b1A)] [] [0,1,2,6,7,8] [] d4V (a1 c5C a0) Tryz.func201
theorem c9l:Ok0 236 b4s:=
 fo [(201,a4Z)] [] [0,1,2,6,7,9] [3] d4W (a1 b9s a0) Tryz.func236
theorem d2G:Ok0 184 b6H:=
 fo [(117,a9n),(128,a9Q),(150,b3R),(151,a9S),(235,b7L),(236,b4s)] [] [0,1,4,5] [2] d4X (a1 c5v (a1 c5w (a1 c5A (a1 c5B (a1 d2F (a1 c9l a0)))))) Tryz.func184
theorem c9m:Ok0 288 b3l:=
 fo [] [] [0,2,4] [] d4Y a0 Tryz.func288
theorem d2H:Ok0 325 b3T:=
 fo [] [] [0,1,3] [] d4Z a0 Tryz.func325
theorem d2I:Ok0 289 b6o:=
 fo [(325,b3T)] [] [0,1,4,5,8,12,20,32] [] d5a (a1 d2H a0) Tryz.func289
theorem d2J:Ok0 237 b6I:=
 fo [(288,b3l),(289,b6o)] [] [0,1,2,6,7,8,10,11] [] d5b (a1 c9m (a1 d2I a0)) Tryz.func237
theorem c5D:Ok0 292 a9p:=
 fo [] [] [0,2] [] d5c a0 Tryz.func292
theorem c5E:Ok0 290 a6y:=
 fo [(292,a9p)] [] [0,2,4] [] d5d (a1 c5D a0) Tryz.func290
theorem c9n:Ok0 291 a9B:=
 fo [] [] [0,1,2,6,7,8,9,10] [] d5e a0 Tryz.func291
theorem d2K:Ok0 238 b6p:=
 fo [(211,a9R),(290,a6y),(291,a9B),(292,a9p)] [] [0,1,2,3,8,9,10,12,13] [] d5f (a1 c5x (a1 c5E (a1 c9n (a1 c5D a0)))) Tryz.func238
theorem c5F:Ok0 295 b1B:=
 fo [] [] [0,2] [] d5g a0 Tryz.func295
theorem c5G:Ok0 293 a8o:=
 fo [(295,b1B)] [] [0,2,4] [] d5h (a1 c5F a0) Tryz.func293
theorem c9o:Ok0 294 b1f:=
 fo [] [] [0,1,2,3,8,9,10,11,12] [7] d5i a0 Tryz.func294
theorem d2L:Ok0 239 b7M:=
 fo [(212,b2M),(293,a8o),(294,b1f),(295,b1B)] [] [0,1,2,6,7,8,9,10,11] [5] d5j (a1 c5y (a1 c5G (a1 c9o (a1 c5F a0)))) Tryz.func239
theorem c5H:Ok0 300 a9V:=
 fo [] [] [0,2] [] d5k a0 Tryz.func300
theorem c9p:Ok0 296 a9W:=
 fo [(300,a9V)] [] [0,2,4] [] d5l (a1 c5H a0) Tryz.func296
theorem c9q:Ok0 298 b4t:=
 fo [(271,b2v)] [(15,.pair QI Q14),(16,.pair QI Q14)] [0,2,3] [1] d5m (a1 c9j a0) Tryz.func298
theorem c9r:Ok0 327 a9X:=
 fo [] [] [0,2] [] d5n a0 Tryz.func327
theorem c5I:Ok0 299 a4c:=
 fo [(327,a9X)] [] [0,2,3,4,5] [] d5o (a1 c9r a0) Tryz.func299
theorem c9s:Ok0 301 a7A:=
 fo [(299,a4c),(327,a9X)] [] [0,1,4,5,6,7,8,13,22] [] d5p (a1 c5I (a1 c9r a0)) Tryz.func301
theorem d2M:Ok0 240 a7R:=
 ⟨i0w.ofR (cx:=c9f) (cxo (a1 b9r (a1 c5z (a1 c9p (a1 c9q (a1 c5I (a1 c5H (a1 c9s a0)))))))) b3X (r:=d1x) ⟨c9X,c9Y⟩ Tryz.func240 rfl (by kernel_rfl) d2A,⟨_,_,Tryz.func240,rfl,by kernel_rfl⟩⟩
theorem c9t:Ok0 190 b2w:=
 fo [] [] [0,2] [] d5r a0 Tryz.func190
theorem d2N:Ok0 241 b7N:=
 fo [(190,b2w)] [] [0,1,4,5,6,8] [] d5s (a1 c9t a0) Tryz.func241
theorem d2O:Ok0 185 b9h:=
 fo [(237,b6I),(238,b6p),(239,b7M),(240,a7R),(241,b7N)] [] [0,1,4,5,6,7,10,24,28,40,54,79] [2] d5t (a1 d2J (a1 d2K (a1 d2L (a1 d2M (a1 d2N a0))))) Tryz.func185
theorem c9u:Ok0 106 b6J:=
 fo [(184,b6H),(185,b9h)] [] [0,1,4,5,6,7] [2] d5u (a1 d2G (a1 d2O a0)) Tryz.func106
theorem c9v:Ok0 189 b4u:=
 fo [] [] [0,2] [] d5v a0 Tryz.func189
theorem c5J:Ok0 113 b1D:=
 fo [(189,b4u)] [] [0,2,4,6] [] d5w (a1 c9v a0) Tryz.func113
theorem c9w:Ok0 115 b2x:=
 fo [(183,a0Z)] [(15,.list true (.list true QI))] [0,2,3,5] [] d5x (a1 b9r a0) Tryz.func115
theorem c9x:Ok0 116 b3m:=
 fo [(189,b4u)] [] [0,1,2,6,7,8,9] [4] d5y (a1 c9v a0) Tryz.func116
theorem d2P:Ok0 107 a9d:=
 ⟨i0w.ofR (cx:=c9g) (cxo (a1 c5J (a1 c5u (a1 c9w (a1 c9x a0))))) b3X (r:=d1y) ⟨c9Z,d0A⟩ Tryz.func107 rfl (by kernel_rfl) d2B,⟨_,_,Tryz.func107,rfl,by kernel_rfl⟩⟩
theorem c7Y:Ok0 50 a9q:=
 fo [(56,a4j),(105,b2u),(106,b6J),(107,a9d)] [] [0,3,4,7,8,9,10] [1] H50 (a1 c1d (a1 c9i (a1 c9u (a1 d2P a0)))) Tryz.func50
theorem d1F:Ok0 61 b4v:=
 fo [(50,a9q)] [] [0,2,4] [1] H61 (a1 c7Y a0) Tryz.func61
theorem c9y:Ok0 123 b6K:=
 fo [(106,b6J)] [] [0,1,4,5,6] [2] d5A (a1 c9u a0) Tryz.func123
theorem b5w:Ok0 124 a2w:=
 fo [(95,a3P)] [] [0,2,3,5] [] d5B (a1 c1c a0) Tryz.func124
theorem c5K:Ok0 130 a5P:=
 fo [] [] [0,1] [] d5C a0 Tryz.func130
theorem b9t:Ok0 125 a2Q:=
 fo [(130,a5P)] [] [0,1,2,6,7] [] d5D (a1 c5K a0) Tryz.func125
theorem c9z:Ok0 126 a9Z:=
 fo [(125,a2Q)] [] [0,1,2] [] d5E (a1 b9t a0) Tryz.func126
theorem d2Q:Ok0 127 b4S:=
 fo [(124,a2w),(125,a2Q),(126,a9Z)] [] [0,1,4,6] [3] d5F (a1 b5w (a1 b9t (a1 c9z a0))) Tryz.func127
theorem c9A:Ok0 254 b2y:=
 fo [(214,b1A)] [] [0,1,2,6,8] [] d5G (a1 c5C a0) Tryz.func254
theorem c9B:Ok0 256 b4w:=
 fo [(124,a2w)] [] [0,2] [] d5H (a1 b5w a0) Tryz.func256
theorem c5L:Ok0 258 a6B:=
 fo [] [] [0,2] [] d5I a0 Tryz.func258
theorem c5M:Ok0 259 b1F:=
 fo [] [] [0,2] [] d5J a0 Tryz.func259
theorem c9C:Ok0 260 b4x:=
 fo [(259,b1F)] [] [0,2,3,7] [] d5K (a1 c5M a0) Tryz.func260
theorem d2R:Ok0 307 b7O:=
 fo [(258,a6B),(259,b1F),(260,b4x)] [] [0,1,4,5] [] d5L (a1 c5L (a1 c5M (a1 c9C a0))) Tryz.func307
theorem c5N:Ok0 257 b2O:=
 fo [(307,b7O)] [] [0,1,4,5,7] [] d5M (a1 d2R a0) Tryz.func257
theorem c9D:Ok0 200 b3o:=
 fo [(201,a4Z),(236,b4s),(254,b2y),(256,b4w),(257,b2O)] [] [0,1,2,3,8,9,10,11,12] [4] d5N (a1 b9s (a1 c9l (a1 c9A (a1 c9B (a1 c5N a0))))) Tryz.func200
theorem d2S:Ok0 261 b0Y:=
 fo [(130,a5P)] [] [0,1,4] [] d5O (a1 c5K a0) Tryz.func261
theorem d2T:Ok0 202 b9i:=
 fo [(125,a2Q),(258,a6B),(259,b1F),(260,b4x),(261,b0Y)] [] [0,1,2,6,8,10,11,12] [] d5P (a1 b9t (a1 c5L (a1 c5M (a1 c9C (a1 d2S a0))))) Tryz.func202
theorem d2U:Ok0 129 b7P:=
 fo [(124,a2w),(125,a2Q),(200,b3o),(201,a4Z),(202,b9i)] [] [0,1,2,3,4,10,11,12,13,14,16] [6] d5Q (a1 b5w (a1 b9t (a1 c9D (a1 b9s (a1 d2T a0))))) Tryz.func129
theorem d1G:Ok0 62 b6L:=
 fo [(123,b6K),(124,a2w),(125,a2Q),(126,a9Z),(127,b4S),(128,a9Q),(129,b7P)] [] [0,1,2,6,7,9,13,37,39,41,43] [4] H62 (a1 c9y (a1 b5w (a1 b9t (a1 c9z (a1 d2Q (a1 c5w (a1 d2U a0))))))) Tryz.func62
theorem d7i:Ok0 63 b0Z:=
 fo [(130,a5P)] [] [0] [] H63 (a1 c5K a0) Tryz.func63
theorem d7j:Ok0 64 b1a:=
 fo [] [] [0,2] [] H64 a0 Tryz.func64
theorem d1H:Ok0 88 b4y:=
 fo [] [] [0,2,3,5] [] H88 a0 Tryz.func88
theorem d2V:Ok0 131 b7Q:=
 fo [] [] [0,2] [] d5R a0 Tryz.func131
theorem c9E:Ok0 132 b3p:=
 fo [] [] [0,2,3,5,6] [] d5S a0 Tryz.func132
theorem d7k:Ok0 65 b3U:=
 fo [(88,b4y),(131,b7Q),(132,b3p)] [] [0,1,4,5,8] [2] H65 (a1 d1H (a1 d2V (a1 c9E a0))) Tryz.func65
theorem c9F:Ok0 203 b2z:=
 fo [] [] [0,2] [] d5T a0 Tryz.func203
theorem d2W:Ok0 133 b6q:=
 fo [(203,b2z)] [] [0,1,4,5] [] d5U (a1 c9F a0) Tryz.func133
theorem d2X:Ok0 134 a5N:=⟨c7R _,⟨_,_,Tryz.func134,rfl,by kernel_rfl⟩⟩
theorem d1I:Ok0 66 b4z:=
 fo [(133,b6q),(134,a5N)] [] [0,1,4,5] [] H66 (a1 d2W (a1 d2X a0)) Tryz.func66
theorem d1J:Ok0 67 b1g:=
 fo [] [] [0,2,3,5,6] [] H67 a0 Tryz.func67
theorem d1K:Ok0 19 b4A:=
 fo [(61,b4v),(62,b6L),(63,b0Z),(64,b1a),(65,b3U),(66,b4z),(67,b1g)] [(4,.pair (.list true (.int .u8)) Q0)] [0,2,3,7,8,9] [1] H19 (a1 d1F (a1 d1G (a1 d7i (a1 d7j (a1 d7k (a1 d1I (a1 d1J a0))))))) Tryz.func19
theorem d2Y:Ok0 179 b2D:=
 fo [] [] [0,1,4,5,6,7,8,9,10,11,12,13] [] d5V a0 Tryz.func179
theorem d2Z:A0b Tryz.prog G0 180 b2E:=c7S _
theorem d3a:Ok0 324 b2G:=
 fo [] [] [0,2] [] d1z a0 Tryz.func324
theorem d3b:Ok0 287 a7b:=
 fo [(324,b2G)] [] [0,2] [] d5W (a1 d3a a0) Tryz.func287
theorem d3c:Ok0 233 b2H:=
 fo [(287,a7b)] [] [0,1,2,6,7,8,9,10,11,12,13,14,15,16,17,18] [] d5X (a1 d3b a0) Tryz.func233
theorem d3d:Ok0 181 b2I:=
 fo [(233,b2H)] [] [0,1,2,6,7,8] [] d5Y (a1 d3c a0) Tryz.func181
theorem c5O:Ok0 101 b1I:=
 fo [(179,b2D),(180,b2E),(181,b2I)] [] [0,1,2,6,7,8,9] [] d5Z (a1 d2Y (B0c d2Z (a1 d3d a0))) Tryz.func101
theorem d1L:Ok0 42 b3q:=
 fo [(101,b1I)] [] [0,2,3,5] [] H42 (a1 c5O a0) Tryz.func42
theorem c7Z:Ok0 86 a7d:=
 fo [(22,a7o),(56,a4j)] [] [0,2,3,4,6] [1] H86 (a1 c5t (a1 c1d a0)) Tryz.func86
theorem d3e:Ok0 231 b6r:=
 fo [(95,a3P)] [] [0,1,4,5,6,7,9,10] [] d6a (a1 c1c a0) Tryz.func231
theorem d3f:Ok0 177 b6M:=
 fo [(56,a4j),(86,a7d),(231,b6r)] [] [0,2,3] [1] d6b (a1 c1d (a1 c7Z (a1 d3e a0))) Tryz.func177
theorem d3g:Ok0 232 b6N:=
 fo [(101,b1I)] [] [0,2,3,4] [] d6c (a1 c5O a0) Tryz.func232
theorem d3h:Ok0 178 b7R:=
 fo [(101,b1I),(232,b6N)] [] [0,1,2,6,7] [] d6d (a1 c5O (a1 d3g a0)) Tryz.func178
theorem c8a:Ok0 97 a8w:=
 fo [(42,b3q),(177,b6M),(178,b7R)] [] [0,1,4,5,6,7] [3] H97 (a1 d1L (a1 d3f (a1 d3h a0))) Tryz.func97
theorem d1M:Ok0 85 b4B:=
 fo [(19,b4A),(50,a9q),(57,a3Q),(97,a8w)] [] [0,2,3,4,5,6,7,8,11,12] [1] H85 (a1 d1K (a1 c7Y (a1 c1e (a1 c8a a0)))) Tryz.func85
theorem d1N:Ok0 27 b0G:=
 fo [(85,b4B),(86,a7d)] [] [0,2,3,4,5,6,7] [1] H27 (a1 d1M (a1 c7Z a0)) Tryz.func27
theorem d7l:Ok0 31 b6P:=
 fo [] [] [0,1,4,5,6] [2] H31 a0 Tryz.func31
theorem d1O:Ok0 35 b2A:=
 fo [] [] [0,1,4,5] [] H35 a0 Tryz.func35
theorem d1P:Ok0 59 b6Q:=
 fo [(113,b1D),(114,b2L),(115,b2x),(116,b3m)] [] [0,1,4,5,6] [] H59 (a1 c5J (a1 c5u (a1 c9w (a1 c9x a0)))) Tryz.func59
theorem d3i:Ok0 187 b6s:=
 fo [(113,b1D)] [] [0,2,3,5,6,7] [] d6e (a1 c5J a0) Tryz.func187
theorem d3j:Ok0 188 b6R:=
 fo [] [] [0,2,4,8,12,17] [] d6f a0 Tryz.func188
theorem d3k:Ok0 112 b7S:=
 fo [(59,b6Q),(187,b6s),(188,b6R)] [] [0,2,3,4,5,6,7,8] [] d6g (a1 d1P (a1 d3i (a1 d3j a0))) Tryz.func112
theorem d7m:Ok0 58 b7T:=
 fo [(56,a4j),(112,b7S)] [] [0,2,3,4] [1] H58 (a1 c1d (a1 d3k a0)) Tryz.func58
theorem c9G:Ok0 118 b2B:=
 fo [(190,b2w)] [] [0,1,4,5,6,8] [] d6h (a1 c9t a0) Tryz.func118
theorem d3l:Ok0 191 a1f:=
 ⟨i0w.of (cx:=b0I) (cxo a0) b3X Tryz.func191 rfl (by kernel_rfl) d2C,⟨_,_,Tryz.func191,rfl,by kernel_rfl⟩⟩
theorem c9H:Ok0 119 b0J:=
 fo [(191,a1f)] [] [0,2,3,5] [] d6i (a1 d3l a0) Tryz.func119
theorem c9I:Ok0 243 b3s:=
 fo [(288,b3l)] [] [0,1,4,5,6,7] [] d6j (a1 c9m a0) Tryz.func243
theorem d3m:Ok0 244 b6t:=
 fo [] [] [0,1,4,5,6,7] [] d6k a0 Tryz.func244
theorem d3n:Ok0 192 b6T:=
 fo [(243,b3s),(244,b6t)] [] [0,2,3,4,5,6,7,8] [] d6l (a1 c9I (a1 d3m a0)) Tryz.func192
theorem c9J:Ok0 304 b1h:=
 fo [] [] [0,2] [] d6m a0 Tryz.func304
theorem d3o:Ok0 302 b3V:=
 fo [(304,b1h)] [] [0,2,3,5,6,7,8] [] d6n (a1 c9J a0) Tryz.func302
theorem d3p:Ok0 303 b1b:=
 fo [] [] [0,1,2,6,7,8,9,10] [] d6o a0 Tryz.func303
theorem d3q:Ok0 245 b3t:=
 fo [(183,a0Z),(290,a6y),(302,b3V),(303,b1b),(304,b1h)] [] [0,1,4,5,6,7,8,9,10,11,12,13] [] d6p (a1 b9r (a1 c5E (a1 d3o (a1 d3p (a1 c9J a0))))) Tryz.func245
theorem d3r:Ok0 246 b4T:=
 fo [] [] [0,2,3,5,6,7,8,9,10,11] [] d6q a0 Tryz.func246
theorem d3s:Ok0 247 b4U:=
 fo [(95,a3P)] [] [0,1,4,5,6,8,9,10,11,13,14] [] d6r (a1 c1c a0) Tryz.func247
theorem c9K:Ok0 194 b2C:=
 fo [(245,b3t),(246,b4T),(247,b4U)] [] [0,1,2,6,7,8,9,10,11] [] d6s (a1 d3q (a1 d3r (a1 d3s a0))) Tryz.func194
theorem d3t:Ok0 248 b7V:=
 fo [(293,a8o)] [] [0,1,2,6,7,8,9,10,11,12,13] [] d6t (a1 c5G a0) Tryz.func248
theorem c5P:Ok0 250 a9i:=
 fo [(212,b2M),(293,a8o),(294,b1f),(295,b1B)] [] [0,1,2,6,7,8,9,10,11] [5] d6u (a1 c5y (a1 c5G (a1 c9o (a1 c5F a0)))) Tryz.func250
theorem d3u:Ok0 305 b3u:=
 fo [] [] [0] [] d1B a0 Tryz.func305
theorem d3v:Ok0 249 b7X:=
 fo [(250,a9i),(305,b3u)] [] [0,1,5,7,8,11,12,13,15] [] d1C (a1 c5P (a1 d3u a0)) Tryz.func249
theorem d3w:Ok0 195 b6U:=
 fo [(194,b2C),(248,b7V),(249,b7X),(250,a9i)] [] [0,3,4,5,7,8,9] [] d6v (a1 c9K (a1 d3t (a1 d3v (a1 c5P a0)))) Tryz.func195
theorem d3x:Ok0 193 b2d:=
 fo [(194,b2C)] [] [0,1,2,3,6,7,8] [] d6w (a1 c9K a0) Tryz.func193
theorem d3y:Ok0 120 b3v:=
 fo [(192,b6T),(193,b2d),(195,b6U)] [(5,.list true Q42)] [0,1,4,6,8,9] [67] d6x (a1 d3n (a1 d3x (a1 d3w a0))) Tryz.func120
theorem d3z:Ok0 252 b6u:=
 fo [(211,a9R),(290,a6y),(291,a9B),(292,a9p)] [] [0,1,2,6,7,8,9,10] [] d6y (a1 c5x (a1 c5E (a1 c9n (a1 c5D a0)))) Tryz.func252
theorem d3A:Ok0 253 b6V:=
 fo [(183,a0Z),(213,b1y),(296,a9W),(298,b4t),(299,a4c),(300,a9V),(301,a7A)] [] [0,1,4,5,6,9,10,11,12,13] [] d6z (a1 b9r (a1 c5z (a1 c9p (a1 c9q (a1 c5I (a1 c5H (a1 c9s a0))))))) Tryz.func253
theorem d3B:Ok0 197 b7Y:=
 fo [(151,a9S),(183,a0Z),(243,b3s),(250,a9i),(252,b6u),(253,b6V)] [] [0,1,4,5,6,11,22,37,67] [] d6A (a1 c5B (a1 b9r (a1 c9I (a1 c5P (a1 d3z (a1 d3A a0)))))) Tryz.func197
theorem d3C:Ok0 306 b7Z:=
 fo [(257,b2O)] [] [0,2,3,4,5,6] [] d6B (a1 c5N a0) Tryz.func306
theorem d3D:Ok0 255 b4V:=
 fo [(256,b4w),(257,b2O),(306,b7Z)] [] [0,2,3] [] d6C (a1 c9B (a1 c5N (a1 d3C a0))) Tryz.func255
theorem d3E:Ok0 198 b6W:=
 fo [(200,b3o),(201,a4Z),(254,b2y),(255,b4V)] [(14,.pair QI Q1),(40,.pair QI Q1)] [0,1,2,3,9,11,12,13,15,17,18] [] d6D (a1 c9D (a1 b9s (a1 c9A (a1 d3D a0)))) Tryz.func198
theorem d3F:Ok0 121 b9j:=
 fo [(117,a9n),(118,b2B),(119,b0J),(150,b3R),(196,b3k),(197,b7Y),(198,b6W)] [] [0,1,2,7,8,11,12,13] [5] d6E (a1 c5v (a1 c9G (a1 c9H (a1 c5A (a1 c9k (a1 d3B (a1 d3E a0))))))) Tryz.func121
theorem d3G:Ok0 199 b2J:=
 fo [] [] [0,2] [] d6F a0 Tryz.func199
theorem d3H:Ok0 122 b9k:=
 fo [(62,b6L),(199,b2J)] [(5,.pair (.list true (.int .u8)) Q0)] [0,1,4] [2] d6G (a1 d1G (a1 d3G a0)) Tryz.func122
theorem d7n:Ok0 60 b9l:=
 fo [(117,a9n),(118,b2B),(119,b0J),(120,b3v),(121,b9j),(122,b9k)] [] [0,1,5,6,7,9,10,14,15] [] H60 (a1 c5v (a1 c9G (a1 c9H (a1 d3y (a1 d3F (a1 d3H a0)))))) Tryz.func60
theorem d7o:Ok0 18 b6X:=
 fo [(22,a7o),(56,a4j),(57,a3Q),(58,b7T),(59,b6Q),(60,b9l)] [(10,.pair QI Q56),(52,.pair QI Q54),(57,.pair QI Q54),(63,.pair QI Q54),(79,.pair QI Q54),(95,.pair QI Q54)] [0,1,2,3,9,11,12,14,16] [4,5] H18 (a1 c5t (a1 c1d (a1 c1e (a1 d7m (a1 d1P (a1 d7n a0)))))) Tryz.func18
theorem d1Q:Ok0 89 a9C:=
 fo [] [] [0,2,3,5,6] [] H89 a0 Tryz.func89
theorem d7p:Ok0 29 b8a:=
 fo [(66,b4z),(85,b4B),(88,b4y),(89,a9C)] [] [0,2,3,4,5,6,7,8,10,12] [1] H29 (a1 d1I (a1 d1M (a1 d1H (a1 d1Q a0)))) Tryz.func29
theorem d7q:Ok0 96 b6Y:=
 fo [(57,a3Q),(95,a3P)] [(6,.pair QI Q6),(36,.list true (.list true QI)),(37,.pair QI Q6)] [0,1,5,7,8,9] [3] H96 (a1 c1e (a1 c1c a0)) Tryz.func96
theorem d1R:Ok0 37 b1i:=
 fo [(18,b6X),(19,b4A),(29,b8a),(57,a3Q),(95,a3P),(96,b6Y),(97,a8w)] [(13,.pair Q12 Q71),(76,.pair Q12 Q70)] [0,1,2,3,8,9,10,12,14,15,16,18,20] [4] H37 (a1 d7o (a1 d1K (a1 d7p (a1 c1e (a1 c1c (a1 d7q (a1 c8a a0))))))) Tryz.func37
theorem c9L:Ok0 143 b4C:=
 fo [] [] [0,2] [] d6H a0 Tryz.func143
theorem d3I:Ok0 208 b4W:=
 fo [] [] [0,2,3,4,5,6,7] [] d6I a0 Tryz.func208
theorem c9M:Ok0 144 a7W:=
 fo [(208,b4W)] [] [0,1,4,5,6,7] [] d6J (a1 d3I a0) Tryz.func144
theorem c9N:Ok0 146 a7X:=
 fo [] [] [0,2] [] d6K a0 Tryz.func146
theorem c5Q:Ok0 147 a4T:=
 fo [] [] [0,2] [] d6L a0 Tryz.func147
theorem c9O:Ok0 148 a8S:=
 fo [] [] [0,2] [] d6M a0 Tryz.func148
theorem d3J:Ok0 234 b1c:=
 fo [(147,a4T)] [] [0,1,4,5] [] d6N (a1 c5Q a0) Tryz.func234
theorem d3K:Ok0 182 b2e:=
 fo [(203,b2z),(234,b1c)] [] [0,1,4,5,7] [] d6O (a1 c9F (a1 d3J a0)) Tryz.func182
theorem c9P:Ok0 102 a7N:=
 fo [(57,a3Q),(89,a9C),(143,b4C),(144,a7W),(146,a7X),(147,a4T),(148,a8S),(182,b2e)] [(4,.pair Q12 Q21)] [0,3,5,6,7,9] [] d6P (a1 c1e (a1 d1Q (a1 c9L (a1 c9M (a1 c9N (a1 c5Q (a1 c9O (a1 d3K a0)))))))) Tryz.func102
theorem d3L:Ok0 145 b8b:=
 fo [] [] [0,2,3] [] d6Q a0 Tryz.func145
theorem d7r:Ok0 71 b3W:=
 fo [(105,b2u),(132,b3p),(143,b4C),(144,a7W),(145,b8b),(146,a7X),(147,a4T),(148,a8S)] [(2,.pair QI Q55),(15,.pair QI Q54),(26,.pair QI Q54),(83,.pair QI Q54),(88,.pair QI Q54),(101,.pair QI Q54),(105,.pair QI Q54)] [0,3,4,5,6,7,8,9,10,11] [] H71 (a1 c9i (a1 c9E (a1 c9L (a1 c9M (a1 d3L (a1 c9N (a1 c5Q (a1 c9O a0)))))))) Tryz.func71
theorem d7s:Ok0 72 b9m:=
 fo [] [] [0,2] [] H72 a0 Tryz.func72
theorem c1f:Ok0 76 a2d:=
 fo [] [] [0,2] [] H76 a0 Tryz.func76
theorem d1S:Ok0 74 a7Y:=
 fo [] [] [0,2] [] H74 a0 Tryz.func74
theorem c5R:Ok0 154 a5y:=
 fo [] [] [0,1,4] [] d6R a0 Tryz.func154
theorem b7y:Ok0 209 a2e:=
 fo [(74,a7Y),(154,a5y)] [] [0,1,4,5] [] d6S (a1 d1S (a1 c5R a0)) Tryz.func209
theorem c2I:Ok0 152 a2I:=
 fo [(209,a2e)] [] [0,1,4,5] [] d6T (a1 b7y a0) Tryz.func152
theorem d3M:Ok0 210 b4X:=
 fo [(124,a2w),(152,a2I),(209,a2e)] [] [0,1,4,5,6] [] d6U (a1 b5w (a1 c2I (a1 b7y a0))) Tryz.func210
theorem d3N:Ok0 149 b6v:=
 fo [(152,a2I),(209,a2e),(210,b4X)] [(2,.pair QI Q39)] [0,3,4,5,6,7,21,23,25,27] [] d6V (a1 c2I (a1 b7y (a1 d3M a0))) Tryz.func149
theorem d3O:Ok0 330 b1d:=
 fo [(154,a5y)] [] [0,1,4,5,6] [] d6W (a1 c5R a0) Tryz.func330
theorem d3P:Ok0 331 b6w:=
 fo [] [] [0,2,3,6] [] d6X a0 Tryz.func331
theorem d3Q:Ok0 313 b9n:=
 fo [(76,a2d),(209,a2e),(330,b1d),(331,b6w)] [] [0,1,4,5,6,7,8] [] d6Y (a1 c1f (a1 b7y (a1 d3O (a1 d3P a0)))) Tryz.func313
theorem d3R:Ok0 272 b9o:=
 fo [(76,a2d),(258,a6B),(313,b9n)] [] [0,1,2,6,7,8,9,10] [] d6Z (a1 c1f (a1 c5L (a1 d3Q a0))) Tryz.func272
theorem d3S:Ok0 215 b8c:=
 fo [(76,a2d),(124,a2w),(152,a2I),(209,a2e),(272,b9o)] [] [0,1,4,5,6,7,8,9,10,11] [] d7a (a1 c1f (a1 b5w (a1 c2I (a1 b7y (a1 d3R a0))))) Tryz.func215
theorem d3T:Ok0 153 b8d:=
 fo [(76,a2d),(201,a4Z),(209,a2e),(214,b1A),(215,b8c)] [(11,.pair QI Q1),(41,.pair QI Q1)] [0,1,2,7,8,9,10,12,14,15,16,17] [] d7b (a1 c1f (a1 b9s (a1 b7y (a1 c5C (a1 d3S a0))))) Tryz.func153
theorem d7t:Ok0 73 c1B:=
 fo [(76,a2d),(123,b6K),(124,a2w),(128,a9Q),(149,b6v),(150,b3R),(151,a9S),(152,a2I),(153,b8d)] [(7,.pair QI (.pair QI (.pair QI (.pair QI (.pair QI (.pair QL (.pair (.arr 3 QI) (.pair (.list false Q3) Q23))))))))] [0,1,5,6,8,9,10,11,12] [] H73 (a1 c1f (a1 c9y (a1 b5w (a1 c5w (a1 d3N (a1 c5A (a1 c5B (a1 c2I (a1 d3T a0))))))))) Tryz.func73
theorem d7u:Ok0 75 b1e:=
 fo [(154,a5y)] [] [0,2,3] [] H75 (a1 c5R a0) Tryz.func75
theorem d7v:Ok0 21 b6Z:=
 fo [(61,b4v),(67,b1g),(71,b3W),(72,b9m),(73,c1B),(74,a7Y),(75,b1e),(76,a2d)] [(5,.pair QI Q56)] [0,3,4,6,7,8,9,10,12] [] H21 (a1 d1F (a1 d1J (a1 d7r (a1 d7s (a1 d7t (a1 d1S (a1 d7u (a1 c1f a0)))))))) Tryz.func21
theorem c9Q:Ok0 103 a6M:=
 fo [(21,b6Z),(50,a9q)] [] [0,1,2,3,4,12,13,15,16] [6] d7c (a1 d7v (a1 c7Y a0)) Tryz.func103
theorem d3U:Ok0 104 b4D:=
 fo [(22,a7o),(56,a4j),(183,a1j)] [(6,.pair QI Q7),(12,.pair QI Q5),(30,.pair QI Q5),(33,.pair QI Q5)] [0,1,5,8] [2,3] d1D (a1 c5t (a1 c1d (a1 c6M a0))) Tryz.func104
theorem d7w:Ok0 43 b7b:=
 fo [(86,a7d),(102,a7N),(103,a6M),(104,b4D)] [] [0,1,4,5,7,8,9,10,11,12,13,14,15,18] [3] H43 (a1 c7Z (a1 c9P (a1 c9Q (a1 d3U a0)))) Tryz.func43
theorem d1T:Ok0 44 b3w:=
 fo [(97,a8w),(102,a7N),(103,a6M)] [(6,.pair Q12 Q71),(20,.pair Q12 Q70),(24,.pair Q12 Q70),(48,.pair Q12 Q70),(90,.pair Q12 Q70),(96,.pair Q12 Q70)] [0,3,5,7,8,9,12] [] H44 (a1 c8a (a1 c9P (a1 c9Q a0))) Tryz.func44
theorem d7x:Ok0 25 b8e:=
 fo [(27,b0G),(31,b6P),(35,b2A),(37,b1i),(42,b3q),(43,b7b),(44,b3w)] [] [0,2,3,5,6,7,8,9,10,11] [] H25 (a1 d1N (a1 d7l (a1 d1O (a1 d1R (a1 d1L (a1 d7w (a1 d1T a0))))))) Tryz.func25
theorem d3V:Ok0 109 c2U:=
 fo [] [] [0,2] [] d7d a0 Tryz.func109
theorem d3W:Ok0 110 c1C:=
 fo [] [] [0,2] [] d7e a0 Tryz.func110
theorem d7y:Ok0 55 c1D:=
 fo [(109,c2U),(110,c1C)] [] [0,1,4] [] H55 (a1 d3V (a1 d3W a0)) Tryz.func55
theorem d7z:Ok0 77 b8f:=
 fo [] [] [0,2] [1] H77 a0 Tryz.func77
theorem d7A:Ok0 39 b9p:=
 fo [(55,c1D),(77,b8f)] [] [0,1,2,6,7] [3] H39 (a1 d7y (a1 d7z a0)) Tryz.func39
theorem d7B:Ok0 40 b9q:=
 fo [(37,b1i),(44,b3w)] [] [0,1,2,3,8,10,11,12,14] [4] H40 (a1 d1R (a1 d1T a0)) Tryz.func40
theorem d7C:Ok0 12 a8U:=
 fo [(25,b8e),(27,b0G),(35,b2A),(39,b9p),(40,b9q)] [] [0,1,2,3,8,9,11,12,14,15,17,18,20,21,22,23,24] [4] H12 (a1 d7x (a1 d1N (a1 d1O (a1 d7A (a1 d7B a0))))) Tryz.func12
end Go.Ab
namespace Go.Ab
open IntKind(wrap)
section
variable {σ β:Type} {f:σ→Option (σ ⊕ β)}
theorem b5x:∀(n m:Nat)(s:σ){b:β},j0x f n s=some b→j0x f (n+m) s=some b
 |0,_,s,b,h=>by simp[j0x]at h
 |n+1,m,s,b,h=>by
  rw[show n+1+m=n+m+1 from by omega];simp only[j0x]at h⊢
  split at h
  cases h;rename_i s' g;exact b5x n m s' h;exact h
theorem c1E{n m:Nat}{s:σ}{b b':β}(h:j0x f n s=some b)(k:j0x f m s=some b'):b=b':=by
 have a:=b5x n m s h;have g:=b5x m n s k;rw[Nat.add_comm,a]at g;exact Option.some.inj g
theorem c8b{n:Nat}{s:σ}{b:β}(h:j0x f n s=some b):v0r f s=some b:=by
 unfold v0r;have g:∃n b,j0x f n s=some b:=⟨n,b,h⟩;rw[dif_pos g];exact congrArg some (c1E g.choose_spec.choose_spec h)
theorem c1g{n:Nat}{s:σ}{b:β}(h:j0x f n s=some b):y0o f s=some b:=by
 unfold y0o;split;rename_i g hb;rw[c1E hb h];exact c8b h
theorem c1F{s:σ}(h:∀n,j0x f n s=none):y0o f s=none:=by
 unfold y0o;rw[h 400];show v0r f s=none;unfold v0r;rw[dif_neg]
 rintro⟨n,b,g⟩
 rw[h n]at g;cases g
theorem a0E{s:σ}{b:β}(h:f s=some (.inr b)):y0o f s=some b:=c1g (n:=1) (by simp[j0x,h])
theorem a0F{s s':σ}(h:f s=some (.inl s')):y0o f s=y0o f s':=by
 by_cases hx:∃n b,j0x f n s'=some b
 obtain⟨n,b,hb⟩:=hx;rw[c1g hb];exact c1g (n:=n+1) (by simp[j0x,h,hb])
 ·have g:∀n,j0x f n s'=none:=fun n=>by
   cases hn:j0x f n s' with
   |none=>rfl
   |some b=>exact absurd ⟨n,b,hn⟩ hx
  rw[c1F g];refine c1F fun n=>?_
  cases n with
  |zero=>rfl
  |succ n=>simp[j0x,h,g n]
theorem c4U(S:Nat→σ)(n:Nat){b:β}(g:∀i,i<n→f (S i)=some (.inl (S (i+1))))(h:f (S n)=some (.inr b)):∀(k:Nat),k≤n→y0o f (S (n-k))=some b
 |0,_=>a0E h
 |k+1,hk=>by
  rw[a0F (g (n-(k+1)) (by omega)),show n-(k+1)+1=n-k from by omega];exact c4U S n g h k (by omega)
theorem a1B(S:Nat→σ)(n:Nat){b:β}(g:∀i,i<n→f (S i)=some (.inl (S (i+1))))(h:f (S n)=some (.inr b)):y0o f (S 0)=some b:=by
 have:=c4U S n g h n (a35 _)
 rwa [a38]at this
end
theorem a0C{n:Int}(h:-9223372036854775808≤n∧n≤9223372036854775807):wrap .i64 n=n:=by
 simp only[wrap,IntKind.bits,IntKind.signed]
 simp
 split<;>omega
theorem a0L{n:Int}(h:0≤n∧n<18446744073709551616):wrap .u64 n=n:=by
 simp only[wrap,IntKind.bits,IntKind.signed]
 simp
 omega
theorem a8a(n:Int):wrap .u8 n=n%256:=by
 simp[wrap,IntKind.bits,IntKind.signed]
def leB:Nat→Nat→List Int
 |0,_=>[]
 |k+1,n=>((n%256:Nat):Int)::leB k (n / 256)
theorem b0O:∀k n,(leB k n).length=k
 |0,_=>rfl
 |k+1,n=>by simp[leB,b0O k]
theorem b8I:∀(k n:Nat),leB (k+1) n=leB k n++[((n / 256^k%256:Nat):Int)]
 |0,n=>by simp[leB]
 |k+1,n=>by
  rw[leB,b8I k (n / 256),leB,Nat.div_div_eq_div_mul,Nat.pow_succ,Nat.mul_comm (256^k)];rfl
theorem b4Y(x y:Int):v0o x y=min x y:=by
 simp only[v0o,cond_eq_ite,dT]
 split<;>omega
theorem b4Z(x y:Int):v0n x y=max x y:=by
 simp only[v0n,cond_eq_ite,dT]
 split<;>omega
theorem a0T{n:Nat}(h:n<2147483648):lim n=true:=by simp[lim,h]
section
variable {α A σ β:Type}
def a2J(g:A→α→A ⊕ β):List α→A→A ⊕ β
 | [],a=>.inl a
 |x::r,a=>match g a x with
  |.inl a'=>a2J g r a'
  |.inr b=>.inr b
def a8V(fin:A→β):A ⊕ β→β
 |.inl a=>fin a
 |.inr b=>b
theorem b5a{f:σ→Option (σ ⊕ β)}(l:List α)(S:Nat→A→σ)(g:A→α→A ⊕ β)(I:Nat→A→Prop)(e:A→β)
  (d:∀i (h:i<l.length) a,I i a→(∀a',g a l[i]=.inl a'→f (S i a)=some (.inl (S (i+1) a'))∧I (i+1) a')∧(∀b,g a l[i]=.inr b→f (S i a)=some (.inr b)))
  (c:∀a,I l.length a→f (S l.length a)=some (.inr (e a))):∀(k i:Nat)(a:A),i+k=l.length→I i a→y0o f (S i a)=some (a8V e (a2J g (l.drop i) a))
 |0,i,a,hi,ha=>by
  obtain rfl:i=l.length:=by omega
  rw[a34];exact a0E (c a ha)
 |k+1,i,a,hi,ha=>by
  have j:i<l.length:=by omega
  rw[a08 j];obtain⟨m,n⟩:=d i j a ha;simp[a2J];cases hg:g a l[i]with
  |inl a'=>
   obtain⟨o,p⟩:=m a' hg;rw[a0F o];exact b5a l S g I e d c k (i+1) a' (by omega) p
  |inr b=>exact a0E (n b hg)
theorem a1M{f:σ→Option (σ ⊕ β)}(l:List α)(S:Nat→A→σ)(g:A→α→A ⊕ β)(I:Nat→A→Prop)(k:A→β)
  (d:∀i (h:i<l.length) a,I i a→(∀a',g a l[i]=.inl a'→f (S i a)=some (.inl (S (i+1) a'))∧I (i+1) a')∧(∀b,g a l[i]=.inr b→f (S i a)=some (.inr b)))
  (c:∀a,I l.length a→f (S l.length a)=some (.inr (k a))){a:A}(e:I 0 a):y0o f (S 0 a)=some (a8V k (a2J g l a)):=by
 have:=b5a l S g I k d c l.length 0 a (by omega) e
 simp_all
theorem a1N{f:σ→Option (σ ⊕ β)}(l:List α)(S:Nat→σ)(p:α→Bool){bt bf:β}
  (k:∀i (h:i<l.length),p l[i]=true→f (S i)=some (.inl (S (i+1))))(b:∀i (h:i<l.length),p l[i]=false→f (S i)=some (.inr bf))
  (g:f (S l.length)=some (.inr bt)):y0o f (S 0)=some (bif l.all p then bt else bf):=by
 have h:=a1M (A:=Unit) l (fun i _=>S i) (fun _ x=>bif p x then .inl ()else .inr bf) (fun _ _=>True) (fun _=>bt) (fun i h a _=>?_) (fun _ _=>g) (a:=()) trivial
 ·rw[h];congr 1;clear h k b g
  induction l with
  |nil=>rfl
  |cons x l ih=>
   simp[a2J];cases p x with
   |true=>simp_all
   |false=>rfl
 grind
end
theorem a0D{α:Type}{l:List α}{i:Nat}(h:i<l.length):m0h l (i:Int)=some l[i]:=by
 simp_all[m0h]
def a0A(x:Int):Bool:=decide (-1073741824≤x)&&decide (x<1073741824)
theorem a1D{x:Int}:a0A x=true↔-1073741824≤x∧x<1073741824:=by simp[a0A]
def short{α:Type}(l:List α):Prop:=l.length<1000000
theorem a0B{i:Nat}(h:i<1000000):wrap .i64 ((i:Int)+1)=((i+1:Nat):Int):=by
 grind[a0C]
theorem dlt{i n:Nat}(h:i<n):decide ((i:Int)<(n:Int))=true:=by simp_all
theorem dge(n:Nat):decide ((n:Int)<(n:Int))=false:=by simp
theorem a4w{l:List Int}(a:short l):a2o l=some (l.all a0A):=by
 unfold a2o
 have:=a1N (f:=a2u) l (fun i=>(l,(l.length:Int),(i:Int),())) a0A (bt:=Sum.inl ()) (bf:=Sum.inr (false,()))
  (fun i h hp=>by
   have hp:=a1D.1 hp;have g:decide (l[i] < -1073741824)=false:=by simp_all
   have k:decide (l[i]≥1073741824)=false:=by simp_all
   simp only[a2u,dlt h,cT,a0D h,oB,g,k,cF,a0B (a26 h a)])
  (fun i h hp=>by
   simp only[a2u,dlt h,cT,a0D h,oB]
   grind[a0A])
  (by simp[a2u])
 grind
theorem a6k(x:Int):a5a x=some (a0A x):=by
 grind[a5a,a0A]
theorem a8b(x:Int):a7r x=some (a0A x):=by
 grind[a7r,a0A]
theorem a5f(x:Int):a6b x=some (a0A x):=by
 grind[a6b,a0A]
theorem b5b(x:Int):a5b x=some (a0A x):=by
 grind[a5b,a0A]
theorem a5X{l:List Int}(g:short l):a2v l=some (l.all a0A):=by
 unfold a2v
 have:=a1N (f:=a3a) l (fun i=>(l,(l.length:Int),(i:Int),())) a0A (bt:=Sum.inl ()) (bf:=Sum.inr (false,()))
  (fun i h hp=>by simp[a3a,a0D h,a6k,hp,a0B (a26 h g),h])
  (fun i h hp=>by simp_all[a3a,a0D,a6k])
  (by simp[a3a])
 grind
theorem b3Y{l:List Int}(g:short l):a4q l=some (l.all a0A):=by
 unfold a4q
 have:=a1N (f:=a3X) l (fun i=>(l,(l.length:Int),(i:Int),())) a0A (bt:=Sum.inl ()) (bf:=Sum.inr (false,()))
  (fun i h hp=>by simp[a3X,a0D h,a8b,hp,a0B (a26 h g),h])
  (fun i h hp=>by simp_all[a3X,a0D,a8b])
  (by simp[a3X])
 grind
theorem b3x{l:List Int}(g:short l):a5i l=some (l.all a0A):=by
 unfold a5i
 have:=a1N (f:=a3x) l (fun i=>(l,(l.length:Int),(i:Int),())) a0A (bt:=Sum.inl ()) (bf:=Sum.inr (false,()))
  (fun i h hp=>by simp[a3x,a0D h,a5f,hp,a0B (a26 h g),h])
  (fun i h hp=>by simp_all[a3x,a0D,a5f])
  (by simp[a3x])
 grind
theorem a7k{l:List Int}(h:short l):a2E l=some (l.all a0A):=by
 have e:b3S=a2u:=rfl
 have:a2E l=a2o l:=by rfl
 simp_all[a4w]
def b9u(x:Int):Bool:=decide (-32768≤x)&&decide (x<32768)
def a9D(c:List Int)(s:Int):Bool:=decide (1≤c.length)&&(decide (c.length≤32)&&(decide (0≤s)&&(decide (s≤15)&&c.all b9u)))
theorem a9w{c:List Int}{s:Int}(a:short c):a4y (c,s)=some (a9D c s):=by
 have:=a1N (f:=a5h) c (fun i=>(c,(c.length:Int),(i:Int),())) b9u (bt:=Sum.inl ()) (bf:=Sum.inr (false,()))
  (fun i h hp=>by
   simp[b9u]at hp;have g:¬ c[i] < -32768:=by omega
   have k:¬ c[i]≥32768:=by omega
   simp[a5h,a0D h,a0B (a26 h a),h,g,k])
  (fun i h hp=>by
   grind[b9u,a5h,a0D])
  (by simp[a5h])
 simp at this;unfold a4y a9D
 grind
def b5y(x:Int):Bool:=decide (-64≤x)&&decide (x≤64)
def b1T(lag:Int)(t:List Int):Bool:=decide (2≤lag)&&(decide (lag≤1024)&&t.all b5y)
theorem b4F{t:List Int}{lag:Int}(g:t.length=3):a8n (lag,t)=some (b1T lag t):=by
 have:=a1N (f:=a6U) t (fun i=>(t,(i:Int),())) b5y (bt:=Sum.inl ()) (bf:=Sum.inr (false,()))
  (fun i h hp=>by
   simp[b5y]at hp
   grind[a6U,a0D,a0B])
  (fun i h hp=>by
   grind[b5y,a6U,a0D])
  (by simp_all[a6U])
 simp at this;unfold a8n b1T
 grind
def stageB(s:Int×(Int×Unit)):Bool:=decide (1≤s.1)&&(decide (s.1≤32)&&(decide (0≤s.2.1)&&decide (s.2.1≤8)))
def a9j(l:List (Int×Int×Unit)):Bool:=decide (l.length≤3)&&l.all stageB
theorem b1j(s:Int×(Int×Unit)):a6V s=some (stageB s):=by
 grind[a6V,stageB]
theorem b3y{l:List (Int×Int×Unit)}(g:short l):a7p l=some (a9j l):=by
 have:=a1N (f:=a5Z) l (fun i=>(l,(l.length:Int),(i:Int),())) stageB (bt:=Sum.inl ()) (bf:=Sum.inr (false,()))
  (fun i h hp=>by simp[a5Z,a0D h,b1j,hp,a0B (a26 h g),h])
  (fun i h hp=>by simp_all[a5Z,a0D,b1j])
  (by simp[a5Z])
 simp at this;unfold a7p a9j
 grind
@[reducible] def W(n:Int):Int:=wrap .i64 n
theorem a8c(n:Int):wrap .i64 n=Int.bmod n 18446744073709551616:=by
 grind[wrap,IntKind.bits,IntKind.signed]
theorem b7d{n:Int}(h:a0A n=true):W n=n:=by
 grind[a1D,a0C]
def a4f(guess:List Int→Int):List Int→List Int→Option (List Int)
 | [],out=>some out
 |x::r,out=>bif a0A (W (x+guess out))then a4f guess r (out++[W (x+guess out)])else none
def b3Z{β:Type}(guess:List Int→Int)(bad:β)(out:List Int)(x:Int):List Int ⊕ β:=bif a0A (W (x+guess out))then .inl (out++[W (x+guess out)])else .inr bad
theorem b2V{β:Type}(h:List Int→Int)(g:β)(f:List Int→β):∀(l out:List Int),a8V f (a2J (b3Z h g) l out)=match a4f h l out with|some r=>f r|none=>g
 | [],out=>rfl
 |x::l,out=>by
  simp[a2J,b3Z,a4f];cases a0A (W (x+h out))with
  |true=>simp_all[b2V]
  |false=>rfl
theorem b2W(g:List Int→Int):∀(l out r:List Int),out.all a0A=true→a4f g l out=some r→r.all a0A=true∧r.length=out.length+l.length
 | [],out,r,h,e=>by simp_all[a4f]
 |x::l,out,r,h,e=>by
  simp[a4f]at e;cases hw:a0A (W (x+g out))with
  |true=>
   rw[hw]at e;obtain⟨f,k⟩:=b2W g l _ r (by simp_all) e
   grind
  |false=>simp_all
def a4X:Option (List Int)→List Int×Int
 |some r=>(r,0)
 |none=>([],6)
def atB(out:List Int)(i:Nat):Int:=out.getD (out.length-i) 0
def a6l(o:Nat)(out:List Int):Int:=match o with
 | 1=>atB out 1
 | 2=>2*atB out 1-atB out 2
 | 3=>3*atB out 1-3*atB out 2+atB out 3
 | 4=>4*atB out 1-6*atB out 2+4*atB out 3-atB out 4
 |_=>0
theorem b2X{out:List Int}{i:Nat}(hi:1≤i)(h:i≤out.length)(g:short out):a1h ((i:Int),out)=some (atB out i,out):=by
 unfold a1h;have g:out.length<1000000:=g
 grind[a0C,a0D,atB]
theorem c1h{out:List Int}{o:Nat}(e:o≤4)(h:o≤out.length)(a:short out):∃g,a9o (out,(o:Int))=some g∧∀x,W (x+g)=W (x+a6l o out):=by
 have f:=fun(h':1≤out.length)=>b2X (i:=1) (by omega) h' a;have k:=fun(h':2≤out.length)=>b2X (i:=2) (by omega) h' a;have b:=fun(h':3≤out.length)=>b2X (i:=3) (by omega) h' a;have c:=fun(h':4≤out.length)=>b2X (i:=4) (by omega) h' a;simp at f k b c;unfold a9o;have d:o=0∨o=1∨o=2∨o=3∨o=4:=by omega
 rcases d with rfl|rfl|rfl|rfl|rfl;exact⟨0,rfl,fun x=>rfl⟩;exact⟨_,by simp[f (by omega)];rfl,fun x=>rfl⟩;refine⟨_,by simp[f (by omega),k (by omega)];rfl,fun x=>?_⟩;simp_all[a8c,a6l];refine⟨_,by simp[f (by omega),k (by omega),b (by omega)];rfl,fun x=>?_⟩;simp_all[a8c,a6l];refine⟨_,by simp[f (by omega),k (by omega),b (by omega),c (by omega)];rfl,fun x=>?_⟩;simp_all[a8c,a6l]
theorem a0S{n:Nat}(h:n<1000000):lim n=true:=a0T (by omega)
theorem c2s{warm rest:List Int}{o:Nat}(u:o≤4)(x:warm.length=o)(w:rest.length<100000):
  a9U (warm,rest,(o:Int))=some (a4X (bif warm.all a0A&&rest.all a0A then a4f (a6l o) rest warm else none)):=by
 have c:short warm:=by unfold short;omega
 have m:short rest:=by unfold short;omega
 unfold a9U;have p:¬ (o:Int)<0:=by omega
 have q:¬ (o:Int) > 4:=by omega
 have r:(((warm.length:Nat):Int) != (o:Int))=false:=by simp_all
 simp only[p,q,r,decide_false,cF,oB,a7k c,a7k m];cases hw1:warm.all a0A with
 |false=>rfl
 |true=>
  simp only[bT,cF,oB,a33];cases hw2:rest.all a0A with
  |false=>rfl
  |true=>
   simp[a0S c]
   have:=a1M (f:=a7D) rest (fun i out=>((o:Int),rest,(rest.length:Int),(i:Int),out,())) (b3Z (a6l o) (Sum.inr ((6:Int),([]:List Int),())))
    (fun i out=>o≤out.length∧out.length≤o+i) (fun out=>Sum.inl (out,()))
    (fun i h out s=>by
     have j:i<1000000:=by omega
     have l:short out:=by unfold short;omega
     obtain⟨g,t,d⟩:=c1h u s.1 l;have e:wrap .i64 (rest[i]+g)=W (rest[i]+a6l o out):=d _;have k:a2E [W (rest[i]+a6l o out)]=some (a0A (W (rest[i]+a6l o out))):=by rw[a7k (by simp[short])];simp
     simp only[a7D,dlt h,cT,a0D h,oB,t,e,k,b3Z];cases hb:a0A (W (rest[i]+a6l o out))with
     |true=>
      simp only[cT,bT,cF,a0S (show out.length+1<1000000 by omega),a0B j];refine⟨fun v n=>?_,fun b hb=>(by grind)⟩;simp at n;subst n;exact⟨rfl,by grind,by grind⟩
     |false=>
      simp)
    (fun out _=>by simp[a7D]) (a:=warm) ⟨by omega,by omega⟩
   simp[b2V]at this;rw[this];cases a4f (a6l o) rest warm<;>rfl
def c2V(out:List Int):List Int→Nat→Int→Int
 | [],_,acc=>acc
 |c::r,i,acc=>bif decide (i<out.length)then c2V out r (i+1) (W (acc+W (c*atB out (i+1))))else acc
def b1k(c:List Int)(s:Int)(out:List Int):Int:=A0k .i64 (c2V out c 0 0) s
theorem d1U{out:List Int}{i:Nat}(h:i<out.length)(g:short out):m0h out (wrap .i64 (wrap .i64 (((out.length:Nat):Int)-1)-(i:Int)))=some (atB out (i+1)):=by
 have g:out.length<1000000:=g
 grind[a0C,a0D,atB]
theorem b7e{out c:List Int}{s:Int}(f:short out)(a:short c):∀(k i:Nat)(acc:Int),i+k=c.length→
  y0o a3b (out,s,acc,c,(c.length:Int),(i:Int),())=some (s,c2V out (c.drop i) i acc,())
 |0,i,acc,h=>by
  obtain rfl:i=c.length:=by omega
  simp_all[a0E,a3b,c2V]
 |k+1,i,acc,h=>by
  have g:i<c.length:=by omega
  have e:out.length<1000000:=f;have d:c.length<1000000:=a;rw[a08 g,c2V];have j:wrap .i64 (((out.length:Nat):Int)-1)=((out.length:Nat):Int)-1:=a0C (by omega);have l:wrap .i64 (((out.length:Nat):Int)-1-(i:Int))=((out.length:Nat):Int)-1-(i:Int):=a0C (by omega)
  by_cases hi:i<out.length
  have b:decide (wrap .i64 (wrap .i64 (((out.length:Nat):Int)-1)-(i:Int))<0)=false:=by grind
  simp[hi];rw[a0F (s':=(out,s,W (acc+W (c[i]*atB out (i+1))),c,(c.length:Int),((i+1:Nat):Int),())) (by
   simp only[a3b,dlt g,cT,a0D g,oB,b,cF,d1U hi f,a0B (show i<1000000 by omega)])]
  exact b7e f a k (i+1) _ (by omega);have b:decide (wrap .i64 (wrap .i64 (((out.length:Nat):Int)-1)-(i:Int))<0)=true:=by grind
  simp[hi];simp_all[a0E,a3b,a0D]
theorem b5z{out c:List Int}{s:Int}(g:short out)(h:short c)(f:0≤s):a4A (out,c,s)=some (b1k c s out):=by
 have:=b7e (s:=s) g h c.length 0 0 (by omega)
 grind[a4A,b1k]
def b3z(warm rest c:List Int)(s:Int):Option (List Int):=bif warm.all a0A&&rest.all a0A then a4f (b1k c s) rest warm else none
theorem b5c{warm rest c:List Int}{s:Int}(o:a9D c s=true)(w:warm.length=c.length)(v:rest.length<100000):
  a6W (warm,rest,c,s)=some (a4X (b3z warm rest c s)):=by
 have g:=o;simp only[a9D,bA,dT]at g;have k:short c:=by unfold short;omega
 have m:short warm:=by unfold short;omega
 have l:short rest:=by unfold short;omega
 unfold a6W;have q:(((warm.length:Nat):Int) != ((c.length:Nat):Int))=false:=by simp_all
 simp only[a9w k,o,oB,bT,cF,q,a5X m,a5X l,b3z];cases hw1:warm.all a0A with
 |false=>rfl
 |true=>
  simp only[bT,cF,oB,a33];cases hw2:rest.all a0A with
  |false=>rfl
  |true=>
   have p:wrap .i64 (((warm.length:Nat):Int)+((rest.length:Nat):Int))=((warm.length+rest.length:Nat):Int):=by grind[a0C]
   have r:(0:Int)≤((warm.length+rest.length:Nat):Int):=by omega
   simp only[bT,cF,cT,p,r,decide_true,tN,a0S (show warm.length+rest.length<1000000 by omega),a0S (show 0+warm.length<1000000 by omega),a09,a40,a23]
   have:=a1M (f:=a6z) rest (fun i out=>(c,s,rest,(rest.length:Int),(i:Int),out,())) (b3Z (b1k c s) (Sum.inr ((6:Int),([]:List Int),())))
    (fun i out=>out.length≤warm.length+i) (fun out=>Sum.inl (out,()))
    (fun i h out u=>by
     have d:i<1000000:=by omega
     have j:short out:=by unfold short;omega
     have e:wrap .i64 (b1k c s out+rest[i])=W (rest[i]+b1k c s out):=by grind
     simp only[a6z,dlt h,cT,a0D h,oB,b5z j k g.2.2.1,e,a6k,b3Z];cases hb:a0A (W (rest[i]+b1k c s out))with
     |true=>
      simp only[cT,bT,cF,a0S (show out.length+1<1000000 by omega),a0B d];refine⟨fun t n=>?_,fun b hb=>(by grind)⟩;simp at n;subst n;exact⟨rfl,by grind⟩
     |false=>
      simp)
    (fun out _=>by simp[a6z]) (a:=warm) (by omega)
   simp[b2V]at this;rw[this];cases a4f (b1k c s) rest warm<;>rfl
def c2W(out:List Int)(lag:Int):List Int→Nat→Int→Int
 | [],_,acc=>acc
 |t::r,i,acc=>c2W out lag r (i+1) (bif decide (0≤(out.length:Int)-lag-1+i)then W (acc+W (t*out.getD ((out.length:Int)-lag-1+i).toNat 0))else acc)
def a9x(lag:Int)(t:List Int)(out:List Int):Int:=A0k .i64 (c2W out lag t 0 0) 6
theorem c2X{out:List Int}{j:Int}(g:0≤j)(h:j<out.length):m0h out j=some (out.getD j.toNat 0):=by
 obtain⟨n,rfl⟩:=a31 g;simp_all[a0D]
theorem d0I{n i:Nat}{lag:Int}(h:2≤lag)(g:lag≤1024)(f:n<1000000)(hi:i<3):
  wrap .i64 (wrap .i64 (wrap .i64 ((n:Int)-lag)-1)+(i:Int))=(n:Int)-lag-1+i:=by
 grind[a0C]
theorem c6N{l:List Int}{n j:Nat}(h:j<n):(l.take n).getD j 0=l.getD j 0:=by
 simp_all
theorem a8W{l t:List Int}{lag:Int}{n:Nat}(m:n≤l.length)(j:short l)(o:t.length=3)(a:2≤lag)(b:lag≤1024):∀(k i:Nat)(acc:Int),i+k=3→
  y0o a3Y (l,(n:Int),lag,acc,t,(i:Int),())=some (c2W (l.take n) lag (t.drop i) i acc,())
 |0,i,acc,h=>by
  obtain rfl:i=t.length:=by omega
  grind[a0E,a3Y,c2W]
 |k+1,i,acc,h=>by
  have g:i<t.length:=by omega
  have f:decide ((i:Int)<3)=true:=by grind
  have p:l.length<1000000:=j;have d:(l.take n).length=n:=by simp_all
  have e:=d0I (n:=n) (i:=i) a b (by omega) (by omega);rw[a08 g,c2W,d]
  by_cases hp:0≤(n:Int)-lag-1+i
  have c:decide ((n:Int)-lag-1+i≥0)=true:=by simp_all
  simp only[hp,decide_true,cT];rw[c6N (show((n:Int)-lag-1+i).toNat<n by omega),a0F (s':=(l,(n:Int),lag,W (acc+W (t[i]*l.getD ((n:Int)-lag-1+i).toNat 0)),t,((i+1:Nat):Int),())) (by
   simp only[a3Y,f,cT,a0D g,oB,e,c,c2X hp (show(n:Int)-lag-1+(i:Int)<(l.length:Int)by omega),a0B (show i<1000000 by omega)])]
  exact a8W m j o a b k (i+1) _ (by omega);have c:decide ((n:Int)-lag-1+i≥0)=false:=by simp_all
  simp[hp];rw[a0F (s':=(l,(n:Int),lag,acc,t,((i+1:Nat):Int),())) (by
   simp only[a3Y,f,cT,a0D g,oB,e,c,cF,a0B (show i<1000000 by omega)])]
  exact a8W m j o a b k (i+1) _ (by omega)
theorem b4a{l t:List Int}{lag:Int}{n:Nat}(f:n≤l.length)(k:short l)(a:t.length=3)(h:2≤lag)(g:lag≤1024):
  a4r (l,(n:Int),lag,t)=some (a9x lag t (l.take n)):=by
 have:=a8W (t:=t) f k a h g 3 0 0 (by rfl)
 simp_all[a4r,a9x]
theorem b9v{out t:List Int}{lag:Int}(f:short out)(k:t.length=3)(h:2≤lag)(g:lag≤1024):a4r (out,(out.length:Int),lag,t)=some (a9x lag t out):=by
 simp_all[b4a]
def b4b(rest:List Int)(lag:Int)(t:List Int):Option (List Int):=bif rest.all a0A then a4f (a9x lag t) rest []else none
theorem c2Y{rest t:List Int}{lag:Int}(d:b1T lag t=true)(e:t.length=3)(m:rest.length<100000):b1C (rest,lag,t)=some (a4X (b4b rest lag t)):=by
 have g:=d;simp only[b1T,bA,dT]at g;have k:short rest:=by unfold short;omega
 unfold b1C;simp only[b4F e,d,oB,bT,cF,b3Y k,b4b];cases hw2:rest.all a0A with
 |false=>rfl
 |true=>
  have l:(0:Int)≤((rest.length:Nat):Int):=by omega
  simp[a0S k]
  have:=a1M (f:=a8p) rest (fun i out=>(lag,rest,(rest.length:Int),(i:Int),out,t,())) (b3Z (a9x lag t) (Sum.inr ((6:Int),([]:List Int),())))
   (fun i out=>out.length=i) (fun out=>Sum.inl (out,()))
   (fun i h out j=>by
    have b:i<1000000:=by omega
    have c:short out:=by unfold short;omega
    have hp:=b9v (out:=out) (t:=t) (lag:=lag) c e g.1 g.2.1;rw[j]at hp;simp only[a8p,dlt h,cT,a0D h,oB,hp,a8b,b3Z];cases hb:a0A (W (rest[i]+a9x lag t out))with
    |true=>
     simp only[cT,bT,cF,a0S (show out.length+1<1000000 by omega),a0B b];simp_all
    |false=>
     simp)
   (fun out _=>by simp[a8p]) (a:=[]) rfl
  simp[b2V]at this;rw[this];cases a4f (a9x lag t) rest []<;>rfl
def b9w{β:Type}(n:Int)(bad:β)(out:List Int)(x:Int):List Int ⊕ β:=bif a0A x&&a0A (A0j .i64 x n)then .inl (out++[A0j .i64 x n])else .inr bad
def upO(n:Int)(l:List Int):Option (List Int):=bif l.all (fun x=>a0A x&&a0A (A0j .i64 x n))then some (l.map fun x=>A0j .i64 x n)else none
theorem b8g{β:Type}(n:Int)(h:β)(g:List Int→β):∀(l out:List Int),a8V g (a2J (b9w n h) l out)=match upO n l with|some r=>g (out++r)|none=>h
 | [],out=>by simp[a2J,a8V,upO]
 |x::l,out=>by
  simp only[a2J,b9w,upO,List.all_cons];cases hx:(a0A x&&a0A (A0j .i64 x n))with
  |true=>
   simp only[cT,a33];rw[b8g n h g l _];simp only[upO];cases l.all (fun x=>a0A x&&a0A (A0j .i64 x n))with
   |true=>simp
   |false=>rfl
  |false=>rfl
theorem c2Z{l:List Int}{n:Int}(d:0≤n)(e:n≤30)(m:l.length<100000):a9b (l,n)=some (a4X (upO n l)):=by
 have c:short l:=by unfold short;omega
 have g:¬ n<0:=by omega
 have b:¬ n > 30:=by omega
 unfold a9b;simp[g,b]
 have:=a1M (f:=a8q) l (fun i out=>(n,l,(l.length:Int),(i:Int),out,())) (b9w n (Sum.inr ((6:Int),([]:List Int),())))
  (fun i out=>out.length=i) (fun out=>Sum.inl (out,()))
  (fun i h out j=>by
   have k:i<1000000:=by omega
   simp only[a8q,dlt h,cT,a0D h,oB,b5b,b9w,g,decide_false,cF];cases hb:a0A l[i]with
   |true=>
    cases hb2:a0A (A0j .i64 l[i] n)with
    |true=>
     simp only[cT,bT,cF,oB,g,decide_false,a0S (show out.length+1<1000000 by omega),a0B k,a09];simp_all
    |false=>
     simp
   |false=>
    simp)
  (fun out _=>by simp[a8q]) (a:=[]) rfl
 simp[b8g]at this;rw[this];cases upO n l<;>rfl
@[reducible] def Fil:Type:=Int×((List Int)×((List Int)×Unit))
def a2n(x:Int):Int:=v0o (v0n x (-1073741824)) 1073741823
def b9x(x:Int):Int:=v0o (v0n x (-1048576)) 1048576
theorem c3a(x:Int):-1048576≤b9x x∧b9x x≤1048576:=by
 grind[b9x,b4Y,b4Z]
def c5S:List Int→List Int→Int→Int
 |a::w,b::h,acc=>c5S w h (W (acc+W (a*b)))
 |_,_,acc=>acc
def a1g(f:Fil):Int:=a2n (A0k .i64 (c5S f.2.1 f.2.2.1 0) 16)
structure FilOk (f:Fil):Prop where
 len:f.2.1.length=f.2.2.1.length
 pos:1≤f.2.1.length
 most:f.2.1.length≤32
 rate:0≤f.1∧f.1≤8
 small:∀x∈f.2.1,-1048576≤x∧x≤1048576
theorem b8J{l:List Int}{i:Nat}(h:i<l.length):a04 l i 0=l[i]:=by
 simp_all
theorem b3A{f:Fil}(c:FilOk f):∀(k i:Nat)(acc:Int),i+k=f.2.1.length→
  y0o a2Y (acc,(f.2.1.length:Int),(i:Int),f,())=some (c5S (f.2.1.drop i) (f.2.2.1.drop i) acc,f,())
 |0,i,acc,h=>by
  obtain rfl:i=f.2.1.length:=by omega
  rw[a34,a0E (b:=(acc,f,())) (by simp[a2Y])];rfl
 |k+1,i,acc,h=>by
  have g:i<f.2.1.length:=by omega
  have a:i<f.2.2.1.length:=by rw[←c.len];omega
  have e:=c.most;rw[a08 g,a08 a,c5S];have d:decide ((0:Int)≤(i:Int))=true:=by simp
  rw[a0F (s':=(W (acc+W (f.2.1[i]*f.2.2.1[i])),(f.2.1.length:Int),((i+1:Nat):Int),f,())) (by
   simp only[a2Y,dlt g,dlt a,d,cT,a09,tN,b8J g,b8J a,a0B (show i<1000000 by omega)])]
  exact b3A c k (i+1) _ (by omega)
theorem a6m{f:Fil}(h:FilOk f):a1S f=some (a1g f,f):=by
 have:=b3A h f.2.1.length 0 0 (by omega)
 simp at this;unfold a1S;simp only[this,oB,a5j];rfl
def b7z(x:Int):Int:=if 0<x then 1 else if x<0 then -1 else 0
def b1U(r:Int)(x g:Int):Int:=b7z (x-g)*2^r.toNat
def b5A(st:Int)(w h:Int):Int:=b9x (W (w+b7z h*st))
def b2Y(f:Fil)(x:Int):Fil:=
 (f.1,a27 (b5A (b1U f.1 (a2n x) (a1g f))) f.2.1 f.2.2.1,a2n x::f.2.2.1.take (f.2.2.1.length-1),f.2.2.2)
theorem c3b{f:Fil}(k:FilOk f)(x:Int):FilOk (b2Y f x):=by
 obtain⟨a,b,c,g,d⟩:=k;have e:(a27 (b5A (b1U f.1 (a2n x) (a1g f))) f.2.1 f.2.2.1).length=f.2.1.length:=by simp_all
 refine⟨?_,?_,?_,g,?_⟩;show(a27 _ _ _).length=(a2n x::f.2.2.1.take (f.2.2.1.length-1)).length;simp_all;show 1≤(a27 _ _ _).length;omega;show(a27 _ _ _).length≤32;omega;intro y h;have h:y∈a27 (b5A (b1U f.1 (a2n x) (a1g f))) f.2.1 f.2.2.1:=h;obtain⟨i,hi,rfl⟩:=List.mem_iff_getElem.1 h
 simp
 exact c3a _
theorem b4G(x:Int):(0<x∧b7z x=1)∨(x<0∧b7z x=-1)∨(x=0∧b7z x=0):=by
 unfold b7z;omega
theorem b8K{r:Int}(h:0≤r∧r≤8):(2:Int)^r.toNat≤256∧1≤(2:Int)^r.toNat:=by
 have:r.toNat=0∨r.toNat=1∨r.toNat=2∨r.toNat=3∨r.toNat=4∨r.toNat=5∨r.toNat=6∨r.toNat=7∨r.toNat=8:=by omega
 rcases this with e|e|e|e|e|e|e|e|e<;>rw[e]<;>decide
theorem c6O{r:Int}(h:0≤r∧r≤8){x:Int}(g:-1≤x∧x≤1):A0j .i64 x r=x*2^r.toNat:=by
 have hp:=b8K h;have hb:min r.toNat 64=r.toNat:=by omega
 unfold A0j;show wrap .i64 (x*2^(min r.toNat 64))=_;rw[hb]
 have:x=-1∨x=0∨x=1:=by omega
 rcases this with rfl|rfl|rfl
 all_goals grind[a0C]
theorem c2t{f:Fil}(a:FilOk f)(x:Int):
  (bif decide (a2n x > a1g f)then bif decide (f.1<0)then(none:Option (Int×Int×Fil×Unit))else some (a2n x,A0j .i64 (1:Int) f.1,f,())
   else bif decide (a2n x<a1g f)then bif decide (f.1<0)then none else some (a2n x,wrap .i64 (0-(A0j .i64 (1:Int) f.1)),f,())
   else some (a2n x,(0:Int),f,()))=some (a2n x,b1U f.1 (a2n x) (a1g f),f,()):=by
 have d:¬ f.1<0:=by have:=a.rate;omega
 have hp:=b8K a.rate;have b:=c6O a.rate (x:=1) (by omega);rw[Int.one_mul]at b;rcases b4G (a2n x-a1g f)with⟨c,h⟩|⟨c,h⟩|⟨c,h⟩;have g:a2n x > a1g f:=by omega
 simp only[g,d,decide_true,decide_false,cT,cF,b1U,h,Int.one_mul,b];have g:¬ a2n x > a1g f:=by omega
 have k:a2n x<a1g f:=by omega
 simp only[g,k,d,decide_true,decide_false,cT,cF,b1U,h,b]
 grind[a0C]
 have g:¬ a2n x > a1g f:=by omega
 have k:¬ a2n x<a1g f:=by omega
 simp only[g,k,decide_false,cF,b1U,h,Int.zero_mul]
theorem c8c{l z:List Int}{i:Nat}(hi:i<l.length)(f:z.length=l.length):(z.take i++l.drop i).set i (z[i]'(by omega))=z.take (i+1)++l.drop (i+1):=by
 have h:(z.take i).length=i:=by grind
 have g:z.take (i+1)=z.take i++[z[i]'(by omega)]:=by simp
 rw[a36 _ _ (by omega),h,a38,a08 hi,a37,g,aA];rfl
theorem c8d{l z:List Int}{i:Nat}(hi:i<l.length)(h:z.length=l.length):a04 (z.take i++l.drop i) i 0=l[i]:=by
 grind
theorem c6P{f:Fil}(g:FilOk f){i:Nat}(h:i<f.2.1.length):-1048576≤f.2.1[i]∧f.2.1[i]≤1048576:=g.small _ (a39 h)
theorem b9y{f:Fil}(n:FilOk f){x1 st:Int}(t:-256≤st∧st≤256):
  y0o a2m (x1,st,(f.2.2.1.length:Int),(0:Int),f,())=some (x1,(f.1,a27 (b5A st) f.2.1 f.2.2.1,f.2.2),()):=by
 obtain⟨z,v⟩:∃z,a27 (b5A st) f.2.1 f.2.2.1=z:=⟨_,rfl⟩;have p:=n.len;have d:z.length=f.2.1.length:=by grind
 have u:=n.most
 have:=a1B (f:=a2m) (fun i=>(x1,st,(f.2.2.1.length:Int),(i:Int),(f.1,z.take i++f.2.1.drop i,f.2.2),()))
  f.2.2.1.length (b:=(x1,(f.1,z,f.2.2),())) (fun i hi=>by
   have k:i<f.2.1.length:=by omega
   have j:decide ((0:Int)≤(i:Int))=true:=by simp
   have r:(z.take i++f.2.1.drop i).length=f.2.1.length:=by grind
   have g:decide ((i:Int)<((z.take i++f.2.1.drop i).length:Int))=true:=by simp_all
   have o:z[i]'(by omega)=b5A st f.2.1[i] f.2.2.1[i]:=by grind
   have s:=c6P n k;have h:=c8c k d;rw[o]at h;simp only[a2m,dlt hi,j,g,cT,a09,tN,b8J hi,c8d k d];rcases b4G f.2.2.1[i]with⟨m,a⟩|⟨m,a⟩|⟨m,a⟩;have c:f.2.2.1[i] > 0:=m;simp[b5A,a]at h;simp only[c,decide_true,cT,oB,j,g,a09,tN,a0B (show i<1000000 by omega)];exact congrArg (fun l=>some (Sum.inl (x1,st,(f.2.2.1.length:Int),((i+1:Nat):Int),(f.1,l,f.2.2),()))) h;have c:¬ f.2.2.1[i] > 0:=by omega
   have e:f.2.1[i]+-1*st=f.2.1[i]-st:=by omega
   simp only[b5A,a,e]at h;simp only[c,m,decide_true,decide_false,cT,cF,oB,j,g,a09,tN,a0B (show i<1000000 by omega)];exact congrArg (fun l=>some (Sum.inl (x1,st,(f.2.2.1.length:Int),((i+1:Nat):Int),(f.1,l,f.2.2),()))) h;have c:¬ f.2.2.1[i] > 0:=by omega
   have q:¬ f.2.2.1[i]<0:=by omega
   have e:W (f.2.1[i]+0*st)=f.2.1[i]:=by rw[Int.zero_mul,Int.add_zero];exact a0C (by omega)
   simp only[b5A,a,e]at h;simp only[c,q,decide_false,cF,oB,j,g,cT,a09,tN,a0B (show i<1000000 by omega)];exact congrArg (fun l=>some (Sum.inl (x1,st,(f.2.2.1.length:Int),((i+1:Nat):Int),(f.1,l,f.2.2),()))) h)
  (by
   simp_all[List.take_of_length_le,a2m])
 simp_all
theorem c4t{f:Fil}(k:FilOk f)(x g:Int):-256≤b1U f.1 x g∧b1U f.1 x g≤256:=by
 have hp:=b8K k.rate;unfold b1U;rcases b4G (x-g)with⟨-,h⟩|⟨-,h⟩|⟨-,h⟩<;>rw[h]<;>omega
theorem b6x{f:Fil}(h:FilOk f)(x:Int):a3c (f,x)=some (b2Y f x):=by
 unfold a3c;have d:=c2t h x;simp only[a5j,oB,a6m h];have g:(bif decide (v0o (v0n x (-1073741824)) 1073741823 > a1g f)then bif decide (f.1<0)then(none:Option (Int×Int×Fil×Unit))else some (v0o (v0n x (-1073741824)) 1073741823,A0j .i64 (1:Int) f.1,f,())
   else bif decide (v0o (v0n x (-1073741824)) 1073741823<a1g f)then bif decide (f.1<0)then none else some (v0o (v0n x (-1073741824)) 1073741823,wrap .i64 (0-(A0j .i64 (1:Int) f.1)),f,())
   else some (v0o (v0n x (-1073741824)) 1073741823,(0:Int),f,()))=_:=d
 rw[g];simp only[oB,b9y h (c4t h _ _)];have i:f.2.2.1.length≥1:=by have:=h.pos;have:=h.len;omega
 have b:decide ((1:Int)≤((f.2.2.1.length:Nat):Int))=true:=by grind
 have e:p0b f.2.2.1 1 (f.2.2.1.length-1) f.2.2.1=f.2.2.1.take 1++f.2.2.1.take (f.2.2.1.length-1):=by
  simp_all[p0b]
 have j:(f.2.2.1.take 1++f.2.2.1.take (f.2.2.1.length-1)).length=f.2.2.1.length:=by simp_all
 have c:decide ((0:Int)<(((f.2.2.1.take 1++f.2.2.1.take (f.2.2.1.length-1)).length:Nat):Int))=true:=by grind
 simp only[b,cT,e,c];congr 1;have k:(f.2.2.1.take 1++f.2.2.1.take (f.2.2.1.length-1)).set 0 (a2n x)=a2n x::f.2.2.1.take (f.2.2.1.length-1):=by
  cases hc:f.2.2.1 with
  |nil=>simp_all
  |cons a l=>simp
 rw[k];rfl
@[reducible] def Stg:Type:=Int×(Int×Unit)
theorem a8d{l:List Int}(h:short l):a1d l=some l:=by
 have g:lim (0+l.length)=true:=a0S (by unfold short at h;omega);simp_all[a1d,x0a]
def b1l(s:Stg):Fil:=(s.2.1,a01 s.1.toNat 0,a01 s.1.toNat 0,())
theorem c4V{s:Stg}(h:stageB s=true):FilOk (b1l s):=by
 simp[stageB]at h;refine⟨by rfl,by simp[b1l];omega,by simp[b1l];omega,⟨h.2.2.1,h.2.2.2⟩,fun x g=>?_⟩;simp_all[b1l]
theorem b3B{s:Stg}(h:stageB s=true):a9a s=some (b1l s,0):=by
 have g:=h;simp[stageB]at g;unfold a9a;have f:decide ((0:Int)≤s.1)=true:=by grind
 have k:decide (s.1≤s.1)=true:=by simp
 have a:lim s.1.toNat=true:=a0S (by omega);simp only[b1j,h,oB,bT,cF,f,k,a,a09,cT];rfl
def stO:List Int→List Int→Fil→Option (List Int)
 | [],done,_=>some done
 |r::rs,done,f=>bif a0A (W (a1g f+r))then stO rs (done++[W (a1g f+r)]) (b2Y f (W (a1g f+r)))else none
theorem b5B:∀(l done:List Int)(f:Fil){r},stO l done f=some r→r.length=done.length+l.length
 | [],done,f,r,h=>by simp_all[stO]
 |x::l,done,f,r,h=>by
  simp[stO]at h;cases hw:a0A (W (a1g f+x))with
  |true=>rw[hw]at h;rw[b5B l _ _ h];grind
  |false=>simp_all
theorem b4c{done row:List Int}{i:Nat}(g:done.length=i)(h:i<row.length):a04 (done++row.drop i) i 0=row[i]:=by
 grind
theorem c3c{done row:List Int}{i:Nat}(g:done.length=i)(h:i<row.length)(y:Int):(done++row.drop i).set i y=(done++[y])++row.drop (i+1):=by
 rw[a36 _ _ (by omega),g,a38,a08 h,a37,aA];rfl
theorem b4d{row b4:List Int}{b5:Int}(d:short row):∀(k i:Nat)(done:List Int)(f:Fil),i+k=row.length→done.length=i→FilOk f→
  ∃z,y0o a5k ((row.length:Int),(i:Int),b4,b5,done++row.drop i,f,())=some z∧
   match stO (row.drop i) done f with
   |some r=>z=.inl (b4,b5,r,())
   |none=>∃q,z=.inr (([]:List Int),(6:Int),q,())
 |0,i,done,f,h,hd,hf=>by
  obtain rfl:i=row.length:=by omega
  rw[a34,List.append_nil];exact⟨_,a0E (b:=Sum.inl (b4,b5,done,())) (by simp[a5k]),rfl⟩
 |k+1,i,done,f,h,hd,hf=>by
  have hi:i<row.length:=by omega
  have e:row.length<1000000:=d;have a:decide ((0:Int)≤(i:Int))=true:=by simp
  have j:(done++row.drop i).length=row.length:=by grind
  have c:decide ((i:Int)<(((done++row.drop i).length:Nat):Int))=true:=by simp_all
  have g:stO (row.drop i) done f=bif a0A (W (a1g f+row[i]))then stO (row.drop (i+1)) (done++[W (a1g f+row[i])]) (b2Y f (W (a1g f+row[i])))else none:=by
   rw[a08 hi];rfl
  rw[g];cases hw:a0A (W (a1g f+row[i]))with
  |true=>
   rw[a0F (s':=((row.length:Int),((i+1:Nat):Int),b4,b5,(done++[W (a1g f+row[i])])++row.drop (i+1),b2Y f (W (a1g f+row[i])),())) (by
    simp only[a5k,dlt hi,a,c,cT,a09,a6m hf,oB,tN,b4c hd hi,a5f,hw,bT,cF,b6x hf,c3c hd hi,a0B (show i<1000000 by omega)])]
   exact b4d d k (i+1) _ _ (by omega) (by simp_all) (c3b hf _)
  |false=>
   exact⟨_,a0E (b:=Sum.inr (([]:List Int),(6:Int),done++row.drop i,())) (by
    simp only[a5k,dlt hi,a,c,cT,a09,a6m hf,oB,tN,b4c hd hi,a5f,hw,Bool.not_false]),_,rfl⟩
def lO:List Stg→List Int→Option (List Int)
 | [],row=>some row
 |s::r,row=>match stO row [] (b1l s)with
  |some row'=>lO r row'
  |none=>none
theorem c4u{st:List Stg}{s:Stg}{k:Int}{b4:List Int}{row:List Int}(h:stageB s=true)(b:short row):
  ∃z,a7E k s (st,b4,(0:Int),row,())=some z∧match stO row [] (b1l s)with
   |some r=>z=.inl (st,b4,(0:Int),r,())
   |none=>∃q,z=.inr (.ret,st,([]:List Int),(6:Int),q,()):=by
 obtain⟨z,g,f⟩:=b4d (b4:=b4) (b5:=0) b row.length 0 [] (b1l s) (by omega) rfl (c4V h);simp at g f;unfold a7E;have a:((0:Int) != 0)=false:=rfl;simp[b3B h,g];cases hst:stO row [] (b1l s)with
 |some r=>
  simp_all
 |none=>
  grind
theorem b8h{st l:List Stg}{b4:List Int}(f:∀s∈l,stageB s=true):∀(n:Nat)(row:List Int),n≤l.length→short row→
  ∃z,l0b a7E l n (st,b4,(0:Int),row,())=some z∧match lO (l.take n).reverse row with
   |some r=>z=.inl (st,b4,(0:Int),r,())
   |none=>∃q,z=.inr (.ret,st,([]:List Int),(6:Int),q,())
 |0,row,_,_=>⟨_,rfl,rfl⟩
 |n+1,row,hn,hs=>by
  have h:n<l.length:=by omega
  obtain⟨z,a,g⟩:=c4u (st:=st) (k:=(n:Int)) (b4:=b4) (f _ (a39 h)) hs;have b:(l.take (n+1)).reverse=l[n]::(l.take n).reverse:=by simp
  simp[l0b,lG h,a,b,lO];cases hst:stO row [] (b1l l[n])with
  |some r=>
   rw[hst]at g;simp at g;subst g;exact b8h f n r (by omega) (by have:=b5B _ _ _ hst;unfold short at hs⊢;simp_all)
  |none=>
   grind
def b2h(rest:List Int)(st:List Stg):Option (List Int):=bif rest.all a0A then lO st.reverse rest else none
theorem c2u{rest:List Int}{st:List Stg}(a:a9j st=true)(c:rest.length<100000):a9Y (rest,st)=some (a4X (b2h rest st)):=by
 have f:=a;simp only[a9j,bA,dT]at f;have k:short st:=by unfold short;omega
 have h:short rest:=by unfold short;omega
 unfold a9Y;simp only[b3y k,a,oB,bT,cF,b3x h,b2h];cases hw:rest.all a0A with
 |false=>rfl
 |true=>
  obtain⟨z,b,g⟩:=b8h (st:=st) (b4:=[]) (lA.1 f.2) st.length rest (a35 _) h;rw[List.take_length]at g;simp[a8d h,a0S k,b];cases hst:lO st.reverse rest with
  |some r=>
   rw[hst]at g;simp at g;subst g;rfl
  |none=>
   rw[hst]at g;obtain⟨q,rfl⟩:=g;rfl
def a6n(n warm:Int):Bool:=decide (1≤n)&&(decide (n≤4096)&&(decide (0≤warm)&&decide (warm≤n)))
theorem b3C(n warm:Int):a7q (n,warm)=some (a6n n warm):=by
 grind[a7q,a6n]
theorem d1V{o:Nat}(h:o≤8):1≤2^o∧2^o≤256:=by
 have:o=0∨o=1∨o=2∨o=3∨o=4∨o=5∨o=6∨o=7∨o=8:=by omega
 grind
theorem c3d{N o:Nat}(h:o≤64):A0k .i64 (N:Int) (o:Int)=((N / 2^o:Nat):Int):=by
 unfold A0k;show Int.fdiv (N:Int) (2^(min (o:Int).toNat 64))=_
 grind
theorem b8L{N o:Nat}(h:o≤64)(g:N*2^o<9223372036854775808):A0j .i64 (N:Int) (o:Int)=((N*2^o:Nat):Int):=by
 unfold A0j;show wrap .i64 ((N:Int)*2^(min (o:Int).toNat 64))=_
 grind[a0C]
def b5d(o N:Nat)(warm:Int):List Int:=
 if N%2^o=0∧warm≤((N / 2^o:Nat):Int)then(((N / 2^o:Nat):Int)-warm)::a01 (2^o-1) ((N / 2^o:Nat):Int)else[]
def a1F(order n warm:Int):List Int:=bif a6n n warm&&(decide (0≤order)&&decide (order≤8))then b5d order.toNat n.toNat warm else[]
theorem a1V(order n warm:Int):a2T (order,n,warm)=some (a1F order n warm):=by
 unfold a2T a1F;simp only[b3C,oB];cases hr:a6n n warm with
 |false=>rfl
 |true=>
  simp[a6n]at hr;simp only[bT,cF,a33]
  by_cases h1:order<0
  grind
  by_cases h2:order > 8
  grind
  obtain⟨o,rfl⟩:=a31 (show 0≤order by omega);obtain⟨N,rfl⟩:=a31 (show 0≤n by omega);have p:o≤8:=by omega
  have q:N≤4096:=by omega
  have hp:=d1V p;have m:N / 2^o*2^o≤N:=Nat.div_mul_le_self N _;have l:(0:Int)≤(o:Int):=by omega
  have g8:(o:Int)≤8:=by omega
  simp only[h1,h2,l,g8,decide_true,decide_false,cF,cT,a09,oB,c3d (N:=N) (show o≤64 by omega),b8L (N:=N / 2^o) (show o≤64 by omega) (by omega),tN];have g:=Nat.div_add_mod N (2^o);rw[Nat.mul_comm]at g
  by_cases hm:N%2^o=0
  have k:(((N / 2^o*2^o:Nat):Int) != (N:Int))=false:=by simp_all
  by_cases hw:warm≤((N / 2^o:Nat):Int)
  have c:decide (((N / 2^o:Nat):Int)<warm)=false:=decide_eq_false (Int.not_lt.2 hw);have e:wrap .i64 (((N / 2^o:Nat):Int)-warm)=((N / 2^o:Nat):Int)-warm:=a0C (by have:=Nat.div_le_self N (2^o);omega);simp only[k,c,e,cF,oB,b5d,hm,hw,and_self,if_true];have d:A0j .i64 (1:Int) (o:Int)=((2^o:Nat):Int):=by have:=b8L (N:=1) (show o≤64 by omega) (by omega);simp_all
  have:=a1B (f:=a6x) (fun i=>((o:Int),((N / 2^o:Nat):Int),(((N / 2^o:Nat):Int)-warm)::a01 i ((N / 2^o:Nat):Int),())) (2^o-1)
   (b:=((((N / 2^o:Nat):Int)-warm)::a01 (2^o-1) ((N / 2^o:Nat):Int),())) (fun i hi=>by
    have a:decide ((((((N / 2^o:Nat):Int)-warm)::a01 i ((N / 2^o:Nat):Int)).length:Int)<((2^o:Nat):Int))=true:=by
     grind
    have h:lim (((((N / 2^o:Nat):Int)-warm)::a01 i ((N / 2^o:Nat):Int)).length+1)=true:=a0S (by grind);have j:a01 i ((N / 2^o:Nat):Int)++[((N / 2^o:Nat):Int)]=a01 (i+1) ((N / 2^o:Nat):Int):=by grind[List.replicate_succ']
    simp only[a6x,h1,decide_false,cF,d,a,cT,h,a40,a16,j])
   (by
    have a:decide ((((((N / 2^o:Nat):Int)-warm)::a01 (2^o-1) ((N / 2^o:Nat):Int)).length:Int)<((2^o:Nat):Int))=false:=by
     simp_all
    simp only[a6x,h1,decide_false,cF,d,a])
  simp_all;have c:decide (((N / 2^o:Nat):Int)<warm)=true:=decide_eq_true (Int.not_le.1 hw);simp_all[b5d];have k:(((N / 2^o*2^o:Nat):Int) != (N:Int))=true:=by grind
  simp only[k,cT,oB,b5d,hm,false_and,if_false]
@[reducible] def Prt:Type:=Int×((List Int)×Unit)
def kB(k:Int):Bool:=(decide (0≤k)&&decide (k≤25)) || (k==31)
def a5z(p:Prt)(n warm:Int):Bool:=!((a1F p.1 n warm).length==0)&&((a1F p.1 n warm).length==p.2.1.length&&p.2.1.all kB)
theorem b3D{p:Prt}{n warm:Int}(g:short p.2.1):a8Z (p,n,warm)=some (a5z p n warm):=by
 have:=a1N (f:=a4p) p.2.1 (fun i=>(p.2.1,(p.2.1.length:Int),(i:Int),())) kB (bt:=Sum.inl ()) (bf:=Sum.inr (false,()))
  (fun i h hp=>by
   simp[kB]at hp
   by_cases h1:p.2.1[i]<0
   omega
   by_cases h2:p.2.1[i] > 25
   have b:p.2.1[i]=31:=by omega
   have a:(p.2.1[i] != 31)=false:=by simp_all
   simp[a4p,a0D h,h,h1,h2,a,a0B (a26 h g)];simp[a4p,a0D h,h,h1,h2,a0B (a26 h g)])
  (fun i h hp=>by
   have hp:¬ (kB p.2.1[i]=true):=by simp_all
   simp only[kB,Bool.or_eq_true,bA,dT,beq_iff_eq]at hp
   grind[a4p,a0D])
  (by simp[a4p])
 simp at this;unfold a8Z a5z;simp[a1V]
 by_cases h0:(a1F p.1 n warm).length=0
 simp_all
 ·have e:((((a1F p.1 n warm).length:Nat):Int)==0)=false:=by simp_all
  have k:((a1F p.1 n warm).length==0)=false:=by simp_all
  simp[e,k]
  by_cases h1:(a1F p.1 n warm).length=p.2.1.length
  all_goals grind
end Go.Ab
