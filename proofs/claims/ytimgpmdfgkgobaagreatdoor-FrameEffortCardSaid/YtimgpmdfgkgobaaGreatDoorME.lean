/- Part of the proof: F, It, PA, QA, QB, QC, QD, QE, QF, QG, QH, QI, QJ, QL, QM, S. Conditions: as each statement tells. -/
import Derived.RangeFuncBound
import Derived.RangeFuncCalls
import Derived.RangeFuncBox
import Derived.WalkKit
import Derived.OwnWalkIn
import Derived.TacticsInMore
import Derived.LoopNIn
import Derived.LoopIn
import Derived.Test.YtimgpmdfgkgobaaGreatDoorProg
import Derived.KernelRfl
import Derived.Test.YtimgpmdfgkgobaaGreatDoorMD
noncomputable section
set_option linter.unusedSimpArgs false
set_option linter.unusedVariables false
open Array renaming replicate_succ→a18,replicate_zero→a19
open Bool renaming and_self→a08,true_and→a27,not_false→a30,and_eq_false_iff→a35,and_eq_true_iff→a46,eq_iff_iff→a53
open Int renaming toNat→a01,tdiv→a17,eq_ofNat_of_zero_le→a20,tmod→a22,add_bmod_bmod→a41,sub_bmod_bmod→a42,bmod_sub_bmod→a43,bmod_add_bmod→a48
open List renaming replicate→a00,length→a02,getD→a03,append→a04,set→a05,drop_eq_getElem_cons→a06,take→a07,nil_append→a09,cons_append→a16,append_toArray→a21,zipWith→a24,size_toArray→a25,push_toArray→a26,length_nil→a28,drop→a29,drop_length→a31,replicate_succ'→a36,drop_zero→a37,append_eq→a38,all_cons→a40,set_append_right→a45,set_cons_zero→a47,take_length→a49,getElem_mem→a50,getElem_zip→a51,append_nil→a52
open Nat renaming lt_trans→a23,reduceAdd→a32,reduceSub→a33,le_refl→a39,sub_self→a44
open Option renaming getD_some→a34
namespace Go.Ab
open Go.Proofs Go.RowKit
attribute [local go_sem] Oper.semAt_some
set_option maxHeartbeats 1000000 in
theorem d6D:c8b Tryz.prog 260 295:=by
 refine⟨⟨_,_,Tryz.func260,rfl,by kernel_rfl⟩,fun A len cap w=>(callsIn_wide (n:=3)).1 ?_⟩
 refine callsIn_of_wp Tryz.func260 rfl trivial ?_
 simp only[Tryz.ntmps260,a25,lC,a28,a32,a33,a18,a19,a26,a21,a09,a16]
 gi_wp2
 go_ret
 exact⟨rfl,_,rfl⟩
@[reducible] def b5q:Ty:=.pair (.int .i64) (.pair (.int .i64) .unit)
set_option maxRecDepth 100000 in
set_option maxHeartbeats 2000000 in
theorem d4O (l Bs b off len cap:Nat) (p q:Nat→Int) (J:Nat→World→Prop) (Jx:World→Prop) (W:World)
  (hJ:∀k W',J k W'→W'.cell? ⟨Bs,0,none⟩=some (.slice (some ⟨b,off,none⟩) len cap))
  (hlen:len<2147483648)
  (hcs:∀k W',k<len→J (k+1) W'→W'.cell? ⟨b,off+k*2,none⟩=some (.int .i64 (p k))∧W'.cell? ⟨b,off+k*2+1,none⟩=some (.int .i64 (q k)))
  (hY:∀n W',n<len→J (n+1) W'→YieldAt (Fr none) 0 Tryz.prog l #[.int .i64 (n:Int),.agg #[.int .i64 (p n),.int .i64 (q n)]] W' fun en W''=>(en=.returned (.bool true)∧J n W'')∨(en=.returned (.bool false)∧Jx W''))
  (h0:J len W):
  CallsIn (Fr none) 0 Tryz.prog 295 #[.func (.yield l) #[] #[],.pointer (some ⟨Bs,0,none⟩)] W fun en W'=>(∃v,en=.returned v)∧(J 0 W'∨Jx W'):=by
 refine callsIn_of_wp Tryz.func295 rfl trivial ?_
 simp only[Tryz.ntmps295,a25,lC,a28,a32,a33,a18,a19,a26,a21,a09,a16]
 have hBs:=hJ _ _ h0
 gi_wp2
 gi_loopw [3] (fun i wr=>∃k:Nat,k≤len∧i=.int .i64 ((k:Int)-1)∧J k wr) (fun i _=>(intOf i+1).toNat)
 case atStart=>exact⟨len,a39 _,rfl,h0⟩
 case round=>
  obtain⟨k,hk,rfl,hJs⟩:=hrel
  cases k with
  |succ n=>
   obtain⟨fn,tmps,assign,body,hy,hR⟩:=hY n wr (by omega) hJs
   have hcx:=hJ _ _ hJs
   obtain⟨hc0,hc1⟩:=hcs n wr (by omega) hJs
   gi_wp2
   refine hR.mono ?_
   rintro e W3 (⟨rfl,hJ3⟩|⟨rfl,hJx3⟩)
   ·gi_wp2
    go_roundw
    case rel=>exact⟨n,by omega,by simp,hJ3⟩
    case measure=>simp[intOf]
   ·gi_wp2
    refine bodyPost_ret (results_none rfl _ _ _) rfl ?_
    exact⟨⟨_,rfl⟩,.inr hJx3⟩
  |zero=>
   gi_wp2
   go_end0
   exact⟨⟨_,rfl⟩,.inl hJs⟩
set_option maxRecDepth 100000 in
set_option maxHeartbeats 2000000 in
theorem d3r (l Bs:Nat) (A:Option Addr) (c:Nat) (J:Nat→World→Prop) (W:World) (hBs:W.cell? ⟨Bs,0,none⟩=some (.slice A 0 c)) (h0:J 0 W):
  CallsIn (Fr none) 0 Tryz.prog 295 #[.func (.yield l) #[] #[],.pointer (some ⟨Bs,0,none⟩)] W fun en W'=>(∃v,en=.returned v)∧J 0 W':=by
 refine callsIn_of_wp Tryz.func295 rfl trivial ?_
 simp only[Tryz.ntmps295,a25,lC,a28,a32,a33,a18,a19,a26,a21,a09,a16]
 gi_wp2
 gi_loopw [3] (fun i wr=>i=.int .i64 (-1)∧J 0 wr) (fun _ _=>0)
 case atStart=>exact⟨rfl,h0⟩
 case round=>
  obtain⟨rfl,hJs⟩:=hrel
  gi_wp2
  go_end0
  exact⟨⟨_,rfl⟩,hJs⟩
theorem c5X{m:Mem}{Sh:Nat→Prop}{b o:Nat}{x:b5q.den}{R}(h:dec m b5q ((Src.at b o).rd m)=some (x,[],R)):
  m b o=some (.int .i64 x.1)∧m b (o+1)=some (.int .i64 x.2.1)∧VOk m Sh b5q x (.agg #[.int .i64 x.1,.int .i64 x.2.1]):=by
 obtain⟨p,q,u⟩:=x;simp only[b5q,dec,Src.rd,Ty.cells,Nat.add_zero]at h
 split at h
 cases h;rename_i x1 o1 r1 h1
 split at h1
 rename_i n hn
 split at h1
 rename_i e;subst e;simp only[sj]at h1;obtain⟨rfl,rfl,rfl⟩:=h1
 split at h
 cases h;rename_i x2 o2 r2 h2
 split at h2
 cases h2;rename_i x3 o3 r3 h3
 split at h3
 rename_i n' hn'
 split at h3
 rename_i e;subst e;simp only[sj]at h3 h2 h;obtain⟨rfl,rfl,rfl⟩:=h3;obtain⟨rfl,rfl,rfl⟩:=h2;obtain⟨⟨rfl,rfl,rfl⟩,-,-⟩:=h;exact⟨hn,hn',fun _=>⟨_,rfl,rfl⟩,fun h=>(by cases h),[],rfl,by simp⟩;cases h3;cases h3;cases h1;cases h1
theorem b9p {P:Program} {f:FuncId} (hb:b1D P f) (args:Array Value) (w:World):(callFunc f args).run P w=.ok (.enter f args) w:=by
 obtain ⟨fn,c',h1,h2,h3⟩:=hb;have h4 : ¬ fn.name = "runtime.NumGoroutine" := by simpa using h3
 simp [callFunc,program,Sem.run,h1,h2,h4,Result.andThen]
theorem d6E:c3z Tryz.prog 295 b5q:=by
 refine⟨fun args w=>b9p ⟨_,_,Tryz.func295,rfl,by kernel_rfl⟩ args w,fun l Bs sv xs J Jx W hlen hJ hY h0=>?_⟩;obtain⟨hc,Sh,hsv⟩:=hJ _ _ h0;obtain⟨A,n,c,rfl,rfl,hnc,hsp,hnil⟩:=hsv.header
 by_cases hx0:xs.length=0
 rw[hx0]at h0 hc;exact(d3r l Bs A c J W hc h0).mono fun e W' h=>⟨h.1,.inl h.2⟩;cases A with
 |none=>have:=hnil rfl;omega
 |some A=>
  obtain⟨b,off,spot⟩:=A
  have:=(hsp _ rfl).resolve_left (by omega)
  simp only at this;subst this;have hel:∀k W',k<xs.length→J (k+1) W'→∃x,xs[k]?=some x∧W'.cell? ⟨b,off+k*2,none⟩=some (.int .i64 x.1)∧W'.cell? ⟨b,off+k*2+1,none⟩=some (.int .i64 x.2.1):=by
   intro k W' hk hj;obtain⟨-,Sh',hv⟩:=hJ _ _ hj;obtain⟨A',n',c',R,e,h1,h2,h3,h4,h5,h6⟩:=hv.elem rfl (lG hk);simp only[Value.slice.injEq,sj]at e;obtain⟨rfl,rfl,rfl⟩:=e;obtain⟨g1,g2,-⟩:=c5X (Sh:=Sh') h4;exact⟨_,lG hk,g1,g2⟩
  refine d4O l Bs b off xs.length c (fun k=>((xs[k]?).getD b5q.dflt).1) (fun k=>((xs[k]?).getD b5q.dflt).2.1) J Jx W (fun k W' hj=>(hJ k W' hj).1) hlen (fun k W' hk hj=>?_) (fun n W' hn hj=>?_) h0;obtain⟨x,hx,g1,g2⟩:=hel k W' hk hj;simp only[hx,a34];exact⟨g1,g2⟩;have hx:xs[n]?=some xs[n]:=lG hn;simp only[hx,a34];refine hY n _ _ W' hx hj fun Sh' hv=>?_
  obtain⟨A',n',c',R,e,h1,h2,h3,h4,h5,h6⟩:=hv.elem rfl hx;exact(c5X (Sh:=Sh') h4).2.2
set_option maxHeartbeats 1000000 in
theorem d6F:c8b Tryz.prog 107 196:=by
 refine⟨⟨_,_,Tryz.func107,rfl,by kernel_rfl⟩,fun A len cap w=>(callsIn_wide (n:=3)).1 ?_⟩
 refine callsIn_of_wp Tryz.func107 rfl trivial ?_
 simp only[Tryz.ntmps107,a25,lC,a28,a32,a33,a18,a19,a26,a21,a09,a16]
 gi_wp2
 go_ret
 exact⟨rfl,_,rfl⟩
@[reducible] def b8C:Ty:=.pair (.int .i64) (.pair (.int .i64) (.pair (.int .i64) .unit))
set_option maxRecDepth 100000 in
set_option maxHeartbeats 2000000 in
theorem d4P (l Bs b off len cap:Nat) (p q r:Nat→Int) (J:Nat→World→Prop) (Jx:World→Prop) (W:World)
  (hJ:∀k W',J k W'→W'.cell? ⟨Bs,0,none⟩=some (.slice (some ⟨b,off,none⟩) len cap))
  (hlen:len<2147483648)
  (hcs:∀k W',k<len→J (k+1) W'→W'.cell? ⟨b,off+k*3,none⟩=some (.int .i64 (p k))∧W'.cell? ⟨b,off+k*3+1,none⟩=some (.int .i64 (q k))∧W'.cell? ⟨b,off+k*3+2,none⟩=some (.int .i64 (r k)))
  (hY:∀n W',n<len→J (n+1) W'→YieldAt (Fr none) 0 Tryz.prog l #[.int .i64 (n:Int),.agg #[.int .i64 (p n),.int .i64 (q n),.int .i64 (r n)]] W' fun en W''=>(en=.returned (.bool true)∧J n W'')∨(en=.returned (.bool false)∧Jx W''))
  (h0:J len W):
  CallsIn (Fr none) 0 Tryz.prog 196 #[.func (.yield l) #[] #[],.pointer (some ⟨Bs,0,none⟩)] W fun en W'=>(∃v,en=.returned v)∧(J 0 W'∨Jx W'):=by
 refine callsIn_of_wp Tryz.func196 rfl trivial ?_
 simp only[Tryz.ntmps196,a25,lC,a28,a32,a33,a18,a19,a26,a21,a09,a16]
 have hBs:=hJ _ _ h0
 gi_wp2
 gi_loopw [3] (fun i wr=>∃k:Nat,k≤len∧i=.int .i64 ((k:Int)-1)∧J k wr) (fun i _=>(intOf i+1).toNat)
 case atStart=>exact⟨len,a39 _,rfl,h0⟩
 case round=>
  obtain⟨k,hk,rfl,hJs⟩:=hrel
  cases k with
  |succ n=>
   obtain⟨fn,tmps,assign,body,hy,hR⟩:=hY n wr (by omega) hJs
   have hcx:=hJ _ _ hJs
   obtain⟨hc0,hc1,hc2⟩:=hcs n wr (by omega) hJs
   gi_wp2
   refine hR.mono ?_
   rintro e W3 (⟨rfl,hJ3⟩|⟨rfl,hJx3⟩)
   ·gi_wp2
    go_roundw
    case rel=>exact⟨n,by omega,by simp,hJ3⟩
    case measure=>simp[intOf]
   ·gi_wp2
    refine bodyPost_ret (results_none rfl _ _ _) rfl ?_
    exact⟨⟨_,rfl⟩,.inr hJx3⟩
  |zero=>
   gi_wp2
   go_end0
   exact⟨⟨_,rfl⟩,.inl hJs⟩
set_option maxRecDepth 100000 in
set_option maxHeartbeats 2000000 in
theorem d3s (l Bs:Nat) (A:Option Addr) (c:Nat) (J:Nat→World→Prop) (W:World) (hBs:W.cell? ⟨Bs,0,none⟩=some (.slice A 0 c)) (h0:J 0 W):
  CallsIn (Fr none) 0 Tryz.prog 196 #[.func (.yield l) #[] #[],.pointer (some ⟨Bs,0,none⟩)] W fun en W'=>(∃v,en=.returned v)∧J 0 W':=by
 refine callsIn_of_wp Tryz.func196 rfl trivial ?_
 simp only[Tryz.ntmps196,a25,lC,a28,a32,a33,a18,a19,a26,a21,a09,a16]
 gi_wp2
 gi_loopw [3] (fun i wr=>i=.int .i64 (-1)∧J 0 wr) (fun _ _=>0)
 case atStart=>exact⟨rfl,h0⟩
 case round=>
  obtain⟨rfl,hJs⟩:=hrel
  gi_wp2
  go_end0
  exact⟨⟨_,rfl⟩,hJs⟩
theorem c4X{m:Mem}{rd:Nat→Option Value}{x o r}(h:dec m (.int .i64) rd=some (x,o,r)):rd 0=some (.int .i64 x)∧o=[]∧r=[]:=by
 simp only[dec]at h
 split at h
 rename_i k n hn
 split at h
 rename_i e;subst e;simp only[sj,pJ]at h;obtain⟨rfl,rfl,rfl⟩:=h;exact⟨hn,rfl,rfl⟩;cases h;cases h
theorem c2C{m:Mem}{a b:Ty}{rd:Nat→Option Value}{x o r}(h:dec m (.pair a b) rd=some (x,o,r)):∃o1 r1 o2 r2,dec m a rd=some (x.1,o1,r1)∧dec m b (fun j=>rd (a.cells+j))=some (x.2,o2,r2)∧o=o1++o2∧r=r1++r2:=by
 simp only[dec]at h
 split at h
 cases h;rename_i x1 o1 r1 h1
 split at h
 cases h;rename_i x2 o2 r2 h2;simp only[sj,pJ]at h;obtain⟨rfl,rfl,rfl⟩:=h;exact⟨_,_,_,_,h1,h2,rfl,rfl⟩
theorem c8f{m:Mem}{Sh:Nat→Prop}{b o:Nat}{x:b8C.den}{R}(h:dec m b8C ((Src.at b o).rd m)=some (x,[],R)):
  m b o=some (.int .i64 x.1)∧m b (o+1)=some (.int .i64 x.2.1)∧m b (o+2)=some (.int .i64 x.2.2.1)∧VOk m Sh b8C x (.agg #[.int .i64 x.1,.int .i64 x.2.1,.int .i64 x.2.2.1]):=by
 obtain⟨_,_,_,_,h1,h2,-,-⟩:=c2C h;obtain⟨_,_,_,_,h3,h4,-,-⟩:=c2C h2;obtain⟨_,_,_,_,h5,-,-,-⟩:=c2C h4;exact⟨(c4X h1).1,(c4X h3).1,(c4X h5).1,fun _=>⟨_,rfl,rfl⟩,fun h=>(by cases h),[],rfl,by simp⟩
theorem d6G:c3z Tryz.prog 196 b8C:=by
 refine⟨fun args w=>b9p ⟨_,_,Tryz.func196,rfl,by kernel_rfl⟩ args w,fun l Bs sv xs J Jx W hlen hJ hY h0=>?_⟩;obtain⟨hc,Sh,hsv⟩:=hJ _ _ h0;obtain⟨A,n,c,rfl,rfl,hnc,hsp,hnil⟩:=hsv.header
 by_cases hx0:xs.length=0
 rw[hx0]at h0 hc;exact(d3s l Bs A c J W hc h0).mono fun e W' h=>⟨h.1,.inl h.2⟩;cases A with
 |none=>have:=hnil rfl;omega
 |some A=>
  obtain⟨b,off,spot⟩:=A
  have:=(hsp _ rfl).resolve_left (by omega)
  simp only at this;subst this;have hel:∀k W',k<xs.length→J (k+1) W'→∃x,xs[k]?=some x∧W'.cell? ⟨b,off+k*3,none⟩=some (.int .i64 x.1)∧W'.cell? ⟨b,off+k*3+1,none⟩=some (.int .i64 x.2.1)∧W'.cell? ⟨b,off+k*3+2,none⟩=some (.int .i64 x.2.2.1):=by
   intro k W' hk hj;obtain⟨-,Sh',hv⟩:=hJ _ _ hj;obtain⟨A',n',c',R,e,h1,h2,h3,h4,h5,h6⟩:=hv.elem rfl (lG hk);simp only[Value.slice.injEq,sj]at e;obtain⟨rfl,rfl,rfl⟩:=e;obtain⟨g1,g2,g3,-⟩:=c8f (Sh:=Sh') h4;exact⟨_,lG hk,g1,g2,g3⟩
  refine d4P l Bs b off xs.length c (fun k=>((xs[k]?).getD b8C.dflt).1) (fun k=>((xs[k]?).getD b8C.dflt).2.1) (fun k=>((xs[k]?).getD b8C.dflt).2.2.1) J Jx W (fun k W' hj=>(hJ k W' hj).1) hlen (fun k W' hk hj=>?_) (fun n W' hn hj=>?_) h0;obtain⟨x,hx,g1,g2,g3⟩:=hel k W' hk hj;simp only[hx,a34];exact⟨g1,g2,g3⟩;have hx:xs[n]?=some xs[n]:=lG hn;simp only[hx,a34];refine hY n _ _ W' hx hj fun Sh' hv=>?_
  obtain⟨A',n',c',R,e,h1,h2,h3,h4,h5,h6⟩:=hv.elem rfl hx;exact(c8f (Sh:=Sh') h4).2.2.2
end Go.Ab
namespace Go.Ab
open IntKind(wrap)
open Go.Proofs
set_option maxRecDepth 100000
set_option linter.unusedVariables false
@[reducible] def QI:Ty:=.int .i64
@[reducible] def QL:Ty:=.list false QI
@[reducible] def Z0:Type:=(Unit ⊕ (Bool×Unit))
@[reducible] def Z1:Type:=(Int×(Int×(List Int)))
@[reducible] def Z2:Type:=((List (List Int))×Unit)
@[reducible] def Z3:Type:=((List Int)×(Int×Int))
@[reducible] def Z4:Type:=(List (Int×(Int×Unit)))
@[reducible] def Z5:Type:=(Int×((List Int)×Unit))
@[reducible] def Z6:Type:=((List Int)×(Int×Unit))
@[reducible] def Z7:Type:=(Int×(Int×(Int×Unit)))
@[reducible] def Z8:Type:=(Bool×((List Int)×Unit))
@[reducible] def Z9:Type:=(Int×(Int×(Bool×Unit)))
@[reducible] def Z10:Type:=((List Int)×((List Int)×Int))
@[reducible] def Z11:Type:=((List Int)×((List Int)×Unit))
@[reducible] def Z12:Type:=(Int×Z2)
@[reducible] def Z13:Type:=((List (List Int))×(Int×Unit))
@[reducible] def Z14:Type:=(List Z7)
@[reducible] def Z15:Type:=((List Int)×(Int×(Int×Unit)))
@[reducible] def Z16:Type:=(Int×Z5)
@[reducible] def Z17:Type:=(Int×Z6)
@[reducible] def Z18:Type:=((List Int)×(Int×(Bool×Unit)))
@[reducible] def Z19:Type:=(Z5×Unit)
@[reducible] def Z20:Type:=(Z6×Unit)
@[reducible] def Z21:Type:=(Int×Z7)
@[reducible] def Z22:Type:=(Int×Z9)
@[reducible] def Z23:Type:=(Int×Z11)
@[reducible] def Z24:Type:=((List Int)×Z5)
@[reducible] def Z25:Type:=((List (List Int))×(Int×(Int×Unit)))
@[reducible] def Z26:Type:=(Int×Z12)
@[reducible] def Z27:Type:=(Int×Z15)
@[reducible] def Z28:Type:=(Z12×Unit)
@[reducible] def Z29:Type:=((List Int)×Z7)
@[reducible] def Z30:Type:=(Int×Z16)
@[reducible] def Z31:Type:=(Z15×Int)
@[reducible] def Z32:Type:=((List Int)×Z9)
@[reducible] def Z33:Type:=(Int×Z20)
@[reducible] def Z34:Type:=(Z15×Unit)
@[reducible] def Z35:Type:=(Int×Z21)
@[reducible] def Z36:Type:=((List Int)×Z11)
@[reducible] def Z37:Type:=((List Int)×Z16)
@[reducible] def Z38:Type:=(Int×Z23)
@[reducible] def Z39:Type:=((List Int)×Z15)
@[reducible] def Z40:Type:=(Int×Z25)
@[reducible] def Z41:Type:=(Z5×((List Int)×Unit))
@[reducible] def Z42:Type:=(((List Int)×Unit) ⊕ Z5)
@[reducible] def Z43:Type:=((List Int)×Z18)
@[reducible] def Z44:Type:=(Int×Z27)
@[reducible] def Z45:Type:=(Z23×Unit)
@[reducible] def Z46:Type:=(Int×Z28)
@[reducible] def Z47:Type:=(Int×Z29)
@[reducible] def Z48:Type:=(Bool×Z28)
@[reducible] def Z49:Type:=(Int×Z33)
@[reducible] def Z50:Type:=(Int×Z34)
@[reducible] def Z51:Type:=(Bool×Z34)
@[reducible] def Z52:Type:=(Int×Z36)
@[reducible] def Z53:Type:=(Int×Z37)
@[reducible] def Z54:Type:=((List Int)×Z27)
@[reducible] def Z55:Type:=(Int×Z45)
@[reducible] def Z56:Type:=(Int×Z46)
@[reducible] def Z57:Type:=((List Int)×Z34)
@[reducible] def Z58:Type:=(Z27 ⊕ (Int×Unit))
@[reducible] def Z59:Type:=(Int×Z50)
@[reducible] def Z60:Type:=(Int×Z51)
@[reducible] def Z61:Type:=(Z15 ⊕ Z0)
@[reducible] def Z62:Type:=((List Int)×Z38)
@[reducible] def Z63:Type:=(Int×Z52)
@[reducible] def Z64:Type:=((List Int)×Z41)
@[reducible] def Z65:Type:=((List Int)×Z44)
@[reducible] def Z66:Type:=((List Int)×Z45)
@[reducible] def Z67:Type:=(Int×Z53)
@[reducible] def Z68:Type:=(Int×Z55)
@[reducible] def Z69:Type:=((List Int)×Z49)
@[reducible] def Z70:Type:=(Int×Z57)
@[reducible] def Z71:Type:=(Z6×Z19)
@[reducible] def Z72:Type:=(Int×Z59)
@[reducible] def Z73:Type:=(Z5×Z19)
@[reducible] def Z74:Type:=(Int×Z62)
@[reducible] def Z75:Type:=(Int×Z66)
@[reducible] def Z76:Type:=(Int×Z68)
@[reducible] def Z77:Type:=(Int×Z69)
@[reducible] def Z78:Type:=(Int×Z70)
@[reducible] def Z79:Type:=(Z7×Z28)
@[reducible] def Z80:Type:=((List Int)×Z71)
@[reducible] def Z81:Type:=(Int×Z78)
@[reducible] def Z82:Type:=(Z14×Z28)
@[reducible] def Z83:Type:=(Int×Z80)
@[reducible] def Z84:Type:=(Z4×Z64)
@[reducible] def Z85:Type:=(Int×Z83)
@[reducible] def Z86:Type:=(Z5×Z73)
@[reducible] def Z87:Type:=((List Int)×Z84)
@[reducible] def Z88:Type:=((List Int)×Z85)
@[reducible] def Z89:Type:=((List Int)×Z87)
@[reducible] def Z90:Type:=(Int×Z89)
@[reducible] def Z91:Type:=(Int×Z90)
@[reducible] def Z92:Type:=(Int×Z91)
@[reducible] def Z93:Type:=(Int×Z92)
@[reducible] def Z94:Type:=(Int×Z93)
@[reducible] def Z95:Type:=(List Z94)
@[reducible] def Z96:Type:=(Z94×Int)
@[reducible] def Z97:Type:=(Z94×Unit)
@[reducible] def Z98:Type:=(Z95×Unit)
@[reducible] def Z99:Type:=(Bool×Z97)
@[reducible] def c8g:Type:=(Int×Z99)
@[reducible] def d1z:Type:=(Z95×((List Int)×Unit))
@[reducible] def d9D:Type:=(Z6×Z97)
@[reducible] def d1A:Type:=(Int×d9D)
@[reducible] def d7r:Type:=(Z15×Z97)
@[reducible] def d1B:Type:=(Z94×Z34)
@[reducible] def d9E:Type:=(Z14×Z98)
@[reducible] def b6X:Type:=(Int×d1A)
@[reducible] def d4Q:Type:=(Int×d7r)
@[reducible] def c4Y:Type:=(Int×d4Q)
@[reducible] def d9F:Type:=(Z7×d9E)
@[reducible] def d9G:Type:=(Int×d9F)
@[reducible] def a7E:Type:=(Int×d9G)
@[reducible] def c0o:Type:=(a7E×Unit)
@[reducible] def d1C:Type:=(Z12×c0o)
@[reducible] def c4Z:Type:=(a7E×Z34)
@[reducible] def b4c:Type:=(Z94×Z97)
@[reducible] def d9H:Type:=(Int×b4c)
@[reducible] def d1D:Type:=(Int×d9H)
@[reducible] def d4R:Type:=(a7E×c0o)
@[reducible] def d1E:Type:=(Int×d4R)
@[reducible] def Q0:Ty:=(.pair QI .unit)
@[reducible] def Q1:Ty:=(.pair (.list true QI) .unit)
@[reducible] def Q2:Ty:=(.pair QL .unit)
@[reducible] def Q3:Ty:=(.pair QI Q0)
@[reducible] def Q4:Ty:=(.pair (.list false QL) .unit)
@[reducible] def Q5:Ty:=(.pair (.list true (.int .u8)) Q0)
@[reducible] def Q6:Ty:=(.pair QI Q1)
@[reducible] def Q7:Ty:=(.pair QI Q2)
@[reducible] def Q8:Ty:=(.pair QI Q3)
@[reducible] def Q9:Ty:=(.pair (.list true QI) Q1)
@[reducible] def Q10:Ty:=(.pair QI Q4)
@[reducible] def Q11:Ty:=(.pair (.list false (.int .u8)) Q3)
@[reducible] def Q12:Ty:=(.pair QI Q9)
@[reducible] def Q13:Ty:=(.pair Q7 Q2)
@[reducible] def Q14:Ty:=(.pair (.nl QI) Q13)
@[reducible] def Q15:Ty:=(.pair QL Q13)
@[reducible] def Q16:Ty:=(.pair (.list true Q3) Q14)
@[reducible] def Q17:Ty:=(.pair (.list false Q3) Q15)
@[reducible] def Q18:Ty:=(.pair (.arr 3 QI) Q16)
@[reducible] def Q19:Ty:=(.pair (.arr 3 QI) Q17)
@[reducible] def Q20:Ty:=(.pair (.list true QI) Q18)
@[reducible] def Q21:Ty:=(.pair QL Q19)
@[reducible] def Q22:Ty:=(.pair QI Q20)
@[reducible] def Q23:Ty:=(.pair QI Q21)
@[reducible] def Q24:Ty:=(.pair QI Q22)
@[reducible] def Q25:Ty:=(.pair QI Q23)
@[reducible] def Q26:Ty:=(.pair QI Q24)
@[reducible] def Q27:Ty:=(.pair QI Q25)
@[reducible] def Q28:Ty:=(.pair QI Q26)
@[reducible] def Q29:Ty:=(.pair QI Q27)
@[reducible] def Q30:Ty:=(.pair QI Q28)
@[reducible] def Q31:Ty:=(.pair QI Q29)
@[reducible] def Q32:Ty:=(.pair (.nl Q31) .unit)
@[reducible] def Q33:Ty:=(.pair (.list true Q31) .unit)
@[reducible] def Q34:Ty:=(.pair (.list false Q31) .unit)
@[reducible] def Q35:Ty:=(.pair (.nl Q8) Q32)
@[reducible] def Q36:Ty:=(.pair (.list true Q8) Q32)
@[reducible] def Q37:Ty:=(.pair (.list false Q8) Q33)
@[reducible] def Q38:Ty:=(.pair (.list false Q8) Q34)
@[reducible] def Q39:Ty:=(.pair Q8 Q35)
@[reducible] def Q40:Ty:=(.pair Q8 Q36)
@[reducible] def Q41:Ty:=(.pair Q8 Q37)
@[reducible] def Q42:Ty:=(.pair Q8 Q38)
@[reducible] def Q43:Ty:=(.pair QI Q39)
@[reducible] def Q44:Ty:=(.pair QI Q40)
@[reducible] def Q45:Ty:=(.pair QI Q41)
@[reducible] def Q46:Ty:=(.pair QI Q42)
@[reducible] def Q47:Ty:=(.pair QI Q44)
@[reducible] def Q48:Ty:=(.pair QI Q45)
@[reducible] def Q49:Ty:=(.pair QI Q46)
def c7n:List (Nat×Ty):=[(2,.int .i64),(3,.int .i64),(5,.int .u8),(23,.pair QI Q3),(24,.list false Q8),(25,.list false Q31),(27,.pair QI Q46),(30,.list false QL),(32,.pair QI Q4),(33,.int .i64),(38,.list false (.int .u8)),(56,.list false QI),(57,.arr 3 QI),(58,.list false Q3),(60,.pair QI Q2),(62,.pair QI Q29),(68,.int .u16),(70,.int .u64),(90,.pair (.list false (.int .u8)) Q0),(96,.int .u64),(137,.pair QI Q3),(148,.pair QI Q0),(151,.list false (.int .u64)),(163,.pair (.list false (.int .u8)) Q3),(211,.pair (.list false (.int .u8)) Q3),(220,.arr 64 (.int .u8)),(248,.list false (.arr 3 QI)),(252,.pair QI (.pair QL Q2))]
def T0:Nat→Option Ty:=fun t=>find c7n t
def d1F:List Nat:=[23,57,137,148]
def d9I:Nat→Bool:=fun t=>d1F.contains t
def c8h:List Nat:=[]
def d9J:Nat→Bool:=fun t=>c8h.contains t
def b3a:(List Int):=[0,1,56,2,57,49,28,3,61,58,42,50,38,29,17,4,62,47,59,36,45,43,51,22,53,39,33,30,24,18,12,5,63,55,48,27,60,41,37,16,46,35,44,21,52,32,23,11,54,26,40,15,34,20,31,10,25,14,19,9,13,8,7,6]
def G0:Nat→Option ((t:Ty)×t.den):=fun g=>find ([(0,⟨.arr 64 (.int .u8),b3a⟩)]:List (Nat×((t:Ty)×t.den))) g
@[reducible] def c0p(a:List (Nat×FSem))(b:List (Nat×Ty))(c d:List Nat):Cx:=⟨d9J,d9I,T0,fun f=>find a f,fun n=>find b n,fun i=>c.contains i,fun i=>d.contains i,G0⟩
def a7Y(x:Int):Option Bool:= cond (decide (4≤x)) (some (decide (x≤24))) (some false)
def b4d:FSem:=⟨[.v QI],[.v .bool],a7Y⟩
def d9K:Hints:=⟨[],[],[]⟩
def a7Z(x:Z7):Option Bool:= cond (decide (1≤x.1)) (cond (decide (x.1≤1048576)) (cond (decide (1≤x.2.1)) (cond (decide (x.2.1≤8)) ((a7Y x.2.2.1).bind fun y1=> some y1) (some false)) (some false)) (some false)) (some false)
def b4e:FSem:=⟨[.v Q8],[.v .bool],a7Z⟩
def H77:Hints:=⟨[],[],[]⟩
def a8a(s:(Int×Z14×Int×Int×Unit)):Option ((Int×Z14×Int×Int×Unit) ⊕ Z0):= cond (decide (s.2.2.2.1<s.2.2.1)) ((a0q s.2.1 s.2.2.2.1).bind fun x2=> (show Option (Int×Z14×Int×Int×Bool×Z7×Unit)from cond (decide (x2.1<0)) (some (s.1,s.2.1,s.2.2.1,s.2.2.2.1,true,x2,())) (cond (decide (x2.1≥s.1)) (some (s.1,s.2.1,s.2.2.1,s.2.2.2.1,true,x2,())) (cond (decide (x2.2.1<0)) (some (s.1,s.2.1,s.2.2.1,s.2.2.2.1,true,x2,())) (cond (decide (x2.2.1≥s.1)) (some (s.1,s.2.1,s.2.2.1,s.2.2.2.1,true,x2,())) (some (s.1,s.2.1,s.2.2.1,s.2.2.2.1,x2.1==x2.2.1,x2,())))))).bind fun z3=> cond z3.2.2.2.2.1 (some (.inr (Sum.inr ((false,()))))) ((show Option (Int×Z14×Z9)from cond (decide (z3.2.2.2.2.2.1.2.2.1<(-1024))) (some (z3.1,z3.2.1,z3.2.2.1,z3.2.2.2.1,true,())) (some (z3.1,z3.2.1,z3.2.2.1,z3.2.2.2.1,decide (z3.2.2.2.2.2.1.2.2.1 > 1024),()))).bind fun z4=> cond z4.2.2.2.2.1 (some (.inr (Sum.inr ((false,()))))) (some (.inl (z4.1,z4.2.1,z4.2.2.1,wrap .i64 (z4.2.2.2.1+1),()))))) (some (.inr (Sum.inl ())))
def a9D(x:(Z14×Int)):Option Bool:= (show Option (Z14×Int×Bool×Unit)from cond (decide (x.2<1)) (some (x.1,x.2,true,())) (cond (decide (x.2 > 8)) (some (x.1,x.2,true,())) (some (x.1,x.2,decide ((x.1.length:Int) > 16),())))).bind fun z1=> cond z1.2.2.1 (some false) ((a0h a8a (z1.2.1,z1.1,(z1.1.length:Int),0,())).bind fun w5=> match w5 with |.inl a6=>some true |.inr b7=>some b7.1)
def b4z:FSem:=⟨[.v (.list false Q8),.v QI],[.v .bool],a9D⟩
def d9L:Hints:=⟨[(58,[.sv 1 QI,.sv 18 (.list false Q8),.sv 19 QI,.sv 20 QI],[(.exit 0,[]),(.ret,[.sv 4 .bool])])],[(6,[(.normal,[.sv 0 (.list false Q8),.sv 1 QI,.sv 17 .bool])]),(7474,[(.normal,[.sv 1 QI,.sv 18 (.list false Q8),.sv 19 QI,.sv 20 QI,.sv 50 .bool,.box 6 Q8,.ptr 6 6 []])]),(7475,[(.normal,[.sv 1 QI,.sv 18 (.list false Q8),.sv 19 QI,.sv 20 QI,.sv 58 .bool])])],[]⟩
def a8b(x:a7E):Option Bool:= (a7Z x.2.2.1).bind fun y1=> cond y1 (cond (decide (x.2.1≥1)) (cond (decide (x.2.1≤4096)) (cond (decide (x.1≥0)) (cond (decide (x.1≤(wrap .i64 (4194304-x.2.1)))) ((a9D (x.2.2.2.1,x.2.2.1.2.1)).bind fun y2=> some y2) (some false)) (some false)) (some false)) (some false)) (some false)
def b4f:FSem:=⟨[.v Q49],[.v .bool],a8b⟩
def H44:Hints:=⟨[],[],[]⟩
def a3c(s:Z15):Option Z61:= cond (decide (s.2.2.1<s.2.1)) ((a0q s.1 s.2.2.1).bind fun x1=> (show Option Z32 from cond (decide (x1<(-1073741824))) (some (s.1,s.2.1,s.2.2.1,true,())) (some (s.1,s.2.1,s.2.2.1,decide (x1≥1073741824),()))).bind fun z2=> cond z2.2.2.2.1 (some (.inr (Sum.inr ((false,()))))) (some (.inl (z2.1,z2.2.1,wrap .i64 (z2.2.2.1+1),())))) (some (.inr (Sum.inl ())))
def a2w(x:(List Int)):Option Bool:= (a0h a3c (x,(x.length:Int),0,())).bind fun w3=> match w3 with |.inl a4=>some true |.inr b5=>some b5.1
def b0G:FSem:=⟨[.v QL],[.v .bool],a2w⟩
def H90:Hints:=⟨[(26,[.sv 5 QL,.sv 6 QI,.sv 7 QI],[(.exit 0,[]),(.ret,[.sv 2 .bool])])],[(1689,[(.normal,[.sv 5 QL,.sv 6 QI,.sv 7 QI,.sv 16 .bool])])],[]⟩
def a7d(x:Int):Option Bool:= cond (x != 0) (some (x != 1)) (some false)
def b1J:FSem:=⟨[.v QI],[.v .bool],a7d⟩
def d9M:Hints:=⟨[],[],[]⟩
def a4C(s:Z15):Option Z61:= cond (decide (s.2.2.1<s.2.1)) ((a0q s.1 s.2.2.1).bind fun x2=> (show Option Z32 from cond (decide (x2<(-32768))) (some (s.1,s.2.1,s.2.2.1,true,())) (some (s.1,s.2.1,s.2.2.1,decide (x2≥32768),()))).bind fun z3=> cond z3.2.2.2.1 (some (.inr (Sum.inr ((false,()))))) (some (.inl (z3.1,z3.2.1,wrap .i64 (z3.2.2.1+1),())))) (some (.inr (Sum.inl ())))
def a5x(x:((List Int)×Int)):Option Bool:= (show Option ((List Int)×(Bool×Unit))from cond (decide ((x.1.length:Int)<1)) (some (x.1,true,())) (cond (decide ((x.1.length:Int) > 32)) (some (x.1,true,())) (cond (decide (x.2<0)) (some (x.1,true,())) (some (x.1,decide (x.2 > 15),()))))).bind fun z1=> cond z1.2.1 (some false) ((a0h a4C (z1.1,(z1.1.length:Int),0,())).bind fun w4=> match w4 with |.inl a5=>some true |.inr b6=>some b6.1)
def b1K:FSem:=⟨[.v QL,.v QI],[.v .bool],a5x⟩
def d9N:Hints:=⟨[(58,[.sv 23 QL,.sv 24 QI,.sv 25 QI],[(.exit 0,[]),(.ret,[.sv 4 .bool])])],[(6,[(.normal,[.sv 0 QL,.sv 22 .bool])]),(3737,[(.normal,[.sv 23 QL,.sv 24 QI,.sv 25 QI,.sv 34 .bool])])],[]⟩
def a5Z(s:Z6):Option (Z6 ⊕ Z0):= cond (decide (s.2.1<3)) ((a0q s.1 s.2.1).bind fun x2=> (show Option Z18 from cond (decide (x2<(-64))) (some (s.1,s.2.1,true,())) (some (s.1,s.2.1,decide (x2 > 64),()))).bind fun z3=> cond z3.2.2.1 (some (.inr (Sum.inr ((false,()))))) (some (.inl (z3.1,wrap .i64 (z3.2.1+1),())))) (some (.inr (Sum.inl ())))
def a9E(x:(Int×(List Int))):Option Bool:= (show Option Z8 from cond (decide (x.1<2)) (some (true,x.2,())) (some (decide (x.1 > 1024),x.2,()))).bind fun z1=> cond z1.1 (some false) ((a0h a5Z (z1.2.1,0,())).bind fun w4=> match w4 with |.inl a5=>some true |.inr b6=>some b6.1)
def b4A:FSem:=⟨[.v QI,.v (.arr 3 QI)],[.v .bool],a9E⟩
def d9O:Hints:=⟨[(58,[.sv 13 (.arr 3 QI),.sv 14 QI],[(.exit 0,[]),(.ret,[.sv 4 .bool])])],[(6,[(.normal,[.sv 12 .bool,.vp 3 (.arr 3 QI)])]),(3737,[(.normal,[.sv 13 (.arr 3 QI),.sv 14 QI,.sv 22 .bool])])],[]⟩
def a8c(x:(Int×Int×Unit)):Option Bool:= cond (decide (x.1≥1)) (cond (decide (x.1≤32)) (cond (decide (x.2.1≥0)) (some (decide (x.2.1≤8))) (some false)) (some false)) (some false)
def b4g:FSem:=⟨[.v Q3],[.v .bool],a8c⟩
def d9P:Hints:=⟨[],[],[]⟩
def a7e(s:(Z4×Int×Int×Unit)):Option ((Z4×Int×Int×Unit) ⊕ Z0):= cond (decide (s.2.2.1<s.2.1)) ((a0q s.1 s.2.2.1).bind fun x1=> (a8c x1).bind fun y2=> cond (!y2) (some (.inr (Sum.inr ((false,()))))) (some (.inl (s.1,s.2.1,wrap .i64 (s.2.2.1+1),())))) (some (.inr (Sum.inl ())))
def a8v(x:Z4):Option Bool:= cond (decide ((x.length:Int) > 3)) (some false) ((a0h a7e (x,(x.length:Int),0,())).bind fun w3=> match w3 with |.inl a4=>some true |.inr b5=>some b5.1)
def b3b:FSem:=⟨[.v (.list false Q3)],[.v .bool],a8v⟩
def d9Q:Hints:=⟨[(58,[.sv 8 (.list false Q3),.sv 9 QI,.sv 10 QI],[(.exit 0,[]),(.ret,[.sv 2 .bool])])],[],[]⟩
def a9i(x:(Int×Z96)):Option Bool:= (show Option (Int×c8g)from cond (x.1==0) (some (x.2.2,x.1,x.1==0,x.2.1,())) (some (x.2.2,x.1,x.1==1,x.2.1,()))).bind fun z1=> cond z1.2.2.1 (some true) (cond (z1.2.1==2) (cond (decide (z1.2.2.2.1.2.2.1≥0)) (cond (decide (z1.2.2.2.1.2.2.1≤4)) (some (decide (z1.2.2.2.1.2.2.1≤z1.1))) (some false)) (some false)) (cond (z1.2.1==3) ((a5x (z1.2.2.2.1.2.2.2.2.2.1,z1.2.2.2.1.2.2.2.1)).bind fun y2=> cond y2 (some (decide ((z1.2.2.2.1.2.2.2.2.2.1.length:Int)≤z1.1))) (some false)) (cond (z1.2.1==4) ((a5x (z1.2.2.2.1.2.2.2.2.2.1,z1.2.2.2.1.2.2.2.1)).bind fun y3=> cond y3 (cond (decide ((z1.2.2.2.1.2.2.2.2.2.1.length:Int)≤z1.1)) ((a9E (z1.2.2.2.1.2.2.2.2.1,z1.2.2.2.1.2.2.2.2.2.2.1)).bind fun y4=> some y4) (some false)) (some false)) (cond (z1.2.1==5) (cond (decide ((z1.2.2.2.1.2.2.2.2.2.2.2.1.length:Int) > 0)) ((a8v z1.2.2.2.1.2.2.2.2.2.2.2.1).bind fun y5=> some y5) (some false)) (some false)))))
def b6k:FSem:=⟨[.v QI,.v Q31,.v QI],[.v .bool],a9i⟩
def d9R:Hints:=⟨[],[(26,[(.normal,[.sv 2 QI,.sv 7 QI,.sv 8 .bool,.vp 4 Q31])])],[]⟩
def a5y(x:Z96):Option Int:= cond (x.1.1==0) (some 1) (cond (x.1.1==1) (some x.2) (cond (x.1.1==2) (some x.1.2.2.1) ((show Option Z99 from cond (x.1.1==3) (some (x.1.1==3,x.1,())) (some (x.1.1==4,x.1,()))).bind fun z1=> cond z1.1 (some (z1.2.1.2.2.2.2.2.1.length:Int)) (some 0))))
def b1L:FSem:=⟨[.v Q31,.v QI],[.v QI],a5y⟩
def d9S:Hints:=⟨[],[(1727,[(.normal,[.sv 16 .bool,.vp 2 Q31])])],[]⟩
def a1h(x:(List Int)):Option (List Int):= b5m x
def a0Y:FSem:=⟨[.v QL],[.o QI],a1h⟩
def H87:Hints:=⟨[],[],[]⟩
def d7s:Cx:=c0p [] [] [0,2] []
theorem d9T(x):b9P d7s H87 Tryz.f87 a0Y.ps a0Y.rs x=a0Y.F x:=Eq.trans (show _=c0n x by kernel_rfl) (b8B x)
def a4J(x:(List Int)):Option (List Int):= b5m x
def a2e:FSem:=⟨[.v QL],[.v QL],a4J⟩
def d9U:Hints:=⟨[],[],[]⟩
def d5N:Cx:=c0p [] [] [0,2] []
theorem d8f(x):b9P d5N d9U Tryz.f87 a2e.ps a2e.rs x=a2e.F x:=Eq.trans (show _=c0n x by kernel_rfl) (b8B x)
def a1v(x:Z4):Option Z4:= b5m x
def a1g:FSem:=⟨[.v (.list false Q3)],[.v (.list false Q3)],a1v⟩
def d8g:Hints:=⟨[],[],[]⟩
def d3t:Cx:=c0p [] [] [0,2] []
theorem d7t(x):b9P d3t d8g Tryz.f229 a1g.ps a1g.rs x=a1g.F x:=Eq.trans (show _=c0n x by kernel_rfl) (b8B x)
def a7f(x:(Int×Z94)):Option Z94:= (show Option b4c from(show Option ((Z94×b4c) ⊕ (b4c ⊕ (Z94×b4c)))from cond (x.1==2) (some (Sum.inr (Sum.inl ((0,0,0,0,0,[],a00 3 0,[],[],(0,[],()),[],()),(x.1,0,x.2.2.2.1,0,0,[],a00 3 0,[],[],(0,[],()),[],()),())))) (cond (x.1==4) (some (Sum.inl ((0,0,0,0,0,[],a00 3 0,[],[],(0,[],()),[],()),(x.1,0,0,0,x.2.2.2.2.2.1,[],x.2.2.2.2.2.2.2.1,[],[],(0,[],()),[],()),x.2,()))) (cond (x.1==3) (some (Sum.inl ((0,0,0,0,0,[],a00 3 0,[],[],(0,[],()),[],()),(x.1,0,0,0,0,[],a00 3 0,[],[],(0,[],()),[],()),x.2,()))) (cond (x.1==5) (some (Sum.inr (Sum.inr (((0,0,0,0,0,[],a00 3 0,[],[],(0,[],()),[],()),(x.1,0,0,0,0,[],a00 3 0,[],[],(0,[],()),[],()),x.2,()))))) (some (Sum.inr (Sum.inl ((0,0,0,0,0,[],a00 3 0,[],[],(0,[],()),[],()),(x.1,0,0,0,0,[],a00 3 0,[],[],(0,[],()),[],()),())))))))).bind fun z1=> match z1 with |.inl a2=>((a4J a2.2.2.1.2.2.2.2.2.1).bind fun y4=> some (a2.1,(a2.2.1.1,a2.2.1.2.1,a2.2.1.2.2.1,a2.2.2.1.2.2.2.1,a2.2.1.2.2.2.2.1,y4,a2.2.1.2.2.2.2.2.2),())) |.inr b3=>(match b3 with |.inl a5=>some (a5.1,a5.2.1,()) |.inr b6=>((a1v b6.2.2.1.2.2.2.2.2.2.2.1).bind fun y7=> some (b6.1,(b6.2.1.1,b6.2.1.2.1,b6.2.1.2.2.1,b6.2.1.2.2.2.1,b6.2.1.2.2.2.2.1,b6.2.1.2.2.2.2.2.1,b6.2.1.2.2.2.2.2.2.1,y7,b6.2.1.2.2.2.2.2.2.2.2),())))).bind fun z8=> some z8.2.1
def b5r:FSem:=⟨[.v QI,.v Q31],[.v Q31],a7f⟩
def d9V:Hints:=⟨[],[(7,[(.normal,[.box 4 Q31,.box 5 Q31,.ptr 4 4 [],.ptr 5 5 []])]),(232,[(.normal,[.box 4 Q31,.box 5 Q31,.vp 3 Q31,.ptr 4 4 [],.ptr 5 5 []]),(.exit 0,[.box 4 Q31,.box 5 Q31,.ptr 4 4 [],.ptr 5 5 []]),(.exit 4,[.box 4 Q31,.box 5 Q31,.vp 3 Q31,.ptr 4 4 [],.ptr 5 5 []])])],[(8,[.v,.v,.v,.v,.q,.w [0,5],.x,.x]),(9,[.v,.v,.v,.v,.v,.q,.w [0,5],.x,.x])]⟩
def b3c(x:Z94):Option Bool:= (a7f (x.1,x)).bind fun y1=> cond (x.2.2.1==y1.2.2.1) (cond (x.2.2.2.1==y1.2.2.2.1) (cond (x.2.2.2.2.1==y1.2.2.2.2.1) (cond (eqT (.arr 3 (.int .i64)) x.2.2.2.2.2.2.1 y1.2.2.2.2.2.2.1) (cond ((x.2.2.2.2.2.1.length:Int)==(y1.2.2.2.2.2.1.length:Int)) (some ((x.2.2.2.2.2.2.2.1.length:Int)==(y1.2.2.2.2.2.2.2.1.length:Int))) (some false)) (some false)) (some false)) (some false)) (some false)
def c1B:FSem:=⟨[.v Q31],[.v .bool],b3c⟩
def d9W:Hints:=⟨[],[],[]⟩
def a8w(x:(Int×Int)):Option Bool:= cond (decide (1≤x.1)) (cond (decide (x.1≤4096)) (cond (decide (0≤x.2)) (some (decide (x.2≤x.1))) (some false)) (some false)) (some false)
def b3d:FSem:=⟨[.v QI,.v QI],[.v .bool],a8w⟩
def d9X:Hints:=⟨[],[],[]⟩
def a7F(s:Z16):Option (Z16 ⊕ ((List Int)×Unit)):= cond (decide (s.1<0)) none (cond (decide ((s.2.2.1.length:Int)<(a0A .i64 1 s.1))) (cond (lim ((a02 s.2.2.1)+1)) (some (.inl (s.1,s.2.1,a04 s.2.2.1 [s.2.1],()))) none) (some (.inr (s.2.2.1,()))))
def a3N(x:(Int×Int×Int)):Option (List Int):= (show Option Z22 from(a8w (x.2.1,x.2.2)).bind fun y1=> cond (!y1) (some (x.1,x.2.1,x.2.2,true,())) (cond (decide (x.1<0)) (some (x.1,x.2.1,x.2.2,true,())) (some (x.1,x.2.1,x.2.2,decide (x.1 > 8),())))).bind fun z2=> cond z2.2.2.2.1 (some []) (cond (decide (z2.1<0)) none ((show Option Z22 from cond (decide (z2.1<0)) none (cond ((a0A .i64 (a0D .i64 z2.2.1 z2.1) z2.1) != z2.2.1) (some (z2.1,z2.2.2.1,a0D .i64 z2.2.1 z2.1,true,())) (some (z2.1,z2.2.2.1,a0D .i64 z2.2.1 z2.1,decide ((a0D .i64 z2.2.1 z2.1)<z2.2.2.1),())))).bind fun z3=> cond z3.2.2.2.1 (some []) ((a0h a7F (z3.1,z3.2.2.1,[wrap .i64 (z3.2.2.1-z3.2.1)],())).bind fun w4=> some w4.1)))
def a6a:FSem:=⟨[.v QI,.v QI,.v QI],[.o QI],a3N⟩
def d9Y:Hints:=⟨[(252,[.sv 0 QI,.sv 7 QI,.own 8 8 QI],[(.exit 0,[.own 8 8 QI])])],[(6,[(.normal,[.sv 0 QI,.sv 1 QI,.sv 2 QI,.sv 20 .bool])]),(30,[(.normal,[.sv 0 QI,.sv 2 QI,.sv 7 QI,.sv 33 .bool])])],[]⟩
def a5n(s:Z15):Option Z61:= cond (decide (s.2.2.1<s.2.1)) ((a0q s.1 s.2.2.1).bind fun x3=> (show Option Z32 from cond (decide (x3<0)) (some (s.1,s.2.1,s.2.2.1,x3 != 31,())) (cond (decide (x3 > 25)) (some (s.1,s.2.1,s.2.2.1,x3 != 31,())) (some (s.1,s.2.1,s.2.2.1,false,())))).bind fun z4=> cond z4.2.2.2.1 (some (.inr (Sum.inr ((false,()))))) (some (.inl (z4.1,z4.2.1,wrap .i64 (z4.2.2.1+1),())))) (some (.inr (Sum.inl ())))
def b0n(x:(Z5×Int×Int)):Option Bool:= (a3N (x.1.1,x.2.1,x.2.2)).bind fun y1=> (show Option (Bool×Z19)from cond ((y1.length:Int)==0) (some (true,x.1,())) (some ((x.1.2.1.length:Int) != (y1.length:Int),x.1,()))).bind fun z2=> cond z2.1 (some false) ((a0h a5n (z2.2.1.2.1,(z2.2.1.2.1.length:Int),0,())).bind fun w5=> match w5 with |.inl a6=>some true |.inr b7=>some b7.1)
def b6Y:FSem:=⟨[.v Q7,.v QI,.v QI],[.v .bool],b0n⟩
def d9Z:Hints:=⟨[(122,[.sv 27 QL,.sv 28 QI,.sv 29 QI],[(.exit 0,[]),(.ret,[.sv 6 .bool])])],[(14,[(.normal,[.sv 25 .bool,.vp 3 Q7])]),(7833,[(.normal,[.sv 27 QL,.sv 28 QI,.sv 29 QI,.sv 42 .bool])])],[]⟩
def b1M(x:Z96):Option Bool:= (show Option c8g from cond (decide (x.2<1)) (some (x.2,true,x.1,())) (cond (decide (x.2 > 4096)) (some (x.2,true,x.1,())) ((a9i (x.1.1,x.1,x.2)).bind fun y1=> cond (!y1) (some (x.2,true,x.1,())) ((b3c x.1).bind fun y2=> some (x.2,!y2,x.1,()))))).bind fun z3=> cond z3.2.1 (some false) ((show Option c8g from cond (decide (z3.2.2.1.2.1<0)) (some (z3.1,true,z3.2.2.1,())) (cond (decide (z3.2.2.1.2.1 > 30)) (some (z3.1,true,z3.2.2.1,())) (cond (z3.2.2.1.1==0) (some (z3.1,z3.2.2.1.2.1 != 0,z3.2.2.1,())) (some (z3.1,false,z3.2.2.1,()))))).bind fun z4=> cond z4.2.1 (some false) ((a5y (z4.2.2.1,z4.1)).bind fun y5=> (show Option (Int×c8g)from cond ((z4.2.2.1.2.2.2.2.2.2.2.2.1.length:Int) != y5) (some (z4.1,y5,true,z4.2.2.1,())) ((a2w z4.2.2.1.2.2.2.2.2.2.2.2.1).bind fun y6=> cond (!y6) (some (z4.1,y5,true,z4.2.2.1,())) ((a2w z4.2.2.1.2.2.2.2.2.2.2.2.2.2.1).bind fun y7=> some (z4.1,y5,!y7,z4.2.2.1,())))).bind fun z8=> cond z8.2.2.1 (some false) ((a7d z8.2.2.2.1.1).bind fun y9=> cond (!y9) (cond ((z8.2.2.2.1.2.2.2.2.2.2.2.2.2.2.1.length:Int)==0) (cond (z8.2.2.2.1.2.2.2.2.2.2.2.2.2.1.1==0) (some ((z8.2.2.2.1.2.2.2.2.2.2.2.2.2.1.2.1.length:Int)==0)) (some false)) (some false)) (cond ((z8.2.2.2.1.2.2.2.2.2.2.2.2.2.2.1.length:Int)==(wrap .i64 (z8.1-z8.2.1))) ((b0n (z8.2.2.2.1.2.2.2.2.2.2.2.2.2.1,z8.1,z8.2.1)).bind fun y10=> some y10) (some false)))))
def c0q:FSem:=⟨[.v Q31,.v QI],[.v .bool],b1M⟩
def e0a:Hints:=⟨[],[(6,[(.normal,[.sv 1 QI,.sv 24 .bool,.vp 2 Q31])]),(14,[(.normal,[.sv 1 QI,.sv 42 .bool,.vp 2 Q31])]),(62,[(.normal,[.sv 1 QI,.sv 5 QI,.sv 62 .bool,.vp 2 Q31])])],[]⟩
def b6l(s:Z15):Option Z61:= cond (decide (s.2.2.1<s.2.1)) ((a0q s.1 s.2.2.1).bind fun x1=> (show Option Z32 from cond (decide (x1<(-1073741824))) (some (s.1,s.2.1,s.2.2.1,true,())) (some (s.1,s.2.1,s.2.2.1,decide (x1≥1073741824),()))).bind fun z2=> cond z2.2.2.2.1 (some (.inr (Sum.inr ((false,()))))) (some (.inl (z2.1,z2.2.1,wrap .i64 (z2.2.2.1+1),())))) (some (.inr (Sum.inl ())))
def a2W(x:(List Int)):Option Bool:= (a0h b6l (x,(x.length:Int),0,())).bind fun w3=> match w3 with |.inl a4=>some true |.inr b5=>some b5.1
def b5s:FSem:=⟨[.v QL],[.v .bool],a2W⟩
def e0b:Hints:=⟨[(26,[.sv 5 QL,.sv 6 QI,.sv 7 QI],[(.exit 0,[]),(.ret,[.sv 2 .bool])])],[(1689,[(.normal,[.sv 5 QL,.sv 6 QI,.sv 7 QI,.sv 16 .bool])])],[]⟩
def a1o(x:(Int×(List Int))):Option (Int×(List Int)):= (a0q x.2 (wrap .i64 ((x.2.length:Int)-x.1))).bind fun x1=> some (x1,x.2)
def b6m:FSem:=⟨[.v QI,.r false (.b QL)],[.v QI],a1o⟩
def e0c:Hints:=⟨[],[],[]⟩
def b0H(x:((List Int)×Int)):Option Int:= cond (x.2==1) ((a1o (1,x.1)).bind fun y1=> some y1.1) (cond (x.2==2) ((a1o (1,x.1)).bind fun y2=> (a1o (2,y2.2)).bind fun y3=> some (wrap .i64 ((wrap .i64 (2*y2.1))-y3.1))) (cond (x.2==3) ((a1o (1,x.1)).bind fun y4=> (a1o (2,y4.2)).bind fun y5=> (a1o (3,y5.2)).bind fun y6=> some (wrap .i64 ((wrap .i64 ((wrap .i64 (3*y4.1))-(wrap .i64 (3*y5.1))))+y6.1))) (cond (x.2==4) ((a1o (1,x.1)).bind fun y7=> (a1o (2,y7.2)).bind fun y8=> (a1o (3,y8.2)).bind fun y9=> (a1o (4,y9.2)).bind fun y10=> some (wrap .i64 ((wrap .i64 ((wrap .i64 ((wrap .i64 (4*y7.1))-(wrap .i64 (6*y8.1))))+(wrap .i64 (4*y9.1))))-y10.1))) (some 0))))
def b9q:FSem:=⟨[.v QL,.v QI],[.v QI],b0H⟩
def e0d:Hints:=⟨[],[],[]⟩
def a8N(s:Z53):Option (Z53 ⊕ Z42):= cond (decide (s.2.2.2.1<s.2.2.1)) ((a0q s.2.1 s.2.2.2.1).bind fun x5=> (b0H (s.2.2.2.2.1,s.1)).bind fun y6=> (a2W [wrap .i64 (x5+y6)]).bind fun y7=> cond (!y7) (some (.inr (Sum.inr ((6,[],()))))) (cond (lim ((a02 s.2.2.2.2.1)+1)) (some (.inl (s.1,s.2.1,s.2.2.1,wrap .i64 (s.2.2.2.1+1),a04 s.2.2.2.2.1 [wrap .i64 (x5+y6)],()))) none)) (some (.inr (Sum.inl (s.2.2.2.2.1,()))))
def b1N(x:Z10):Option ((List Int)×Int):= (show Option Z43 from cond (decide (x.2.2<0)) (some (x.1,x.2.1,x.2.2,true,())) (cond (decide (x.2.2 > 4)) (some (x.1,x.2.1,x.2.2,true,())) (some (x.1,x.2.1,x.2.2,(x.1.length:Int) != x.2.2,())))).bind fun z1=> cond z1.2.2.2.1 (some ([],1)) ((show Option Z43 from(a2W z1.1).bind fun y2=> cond (!y2) (some (z1.1,z1.2.1,z1.2.2.1,true,())) ((a2W z1.2.1).bind fun y3=> some (z1.1,z1.2.1,z1.2.2.1,!y3,()))).bind fun z4=> cond z4.2.2.2.1 (some ([],6)) (cond (lim (a02 z4.1)) ((a0h a8N (z4.2.2.1,z4.2.1,(z4.2.1.length:Int),0,z4.1,())).bind fun w8=> match w8 with |.inl a9=>some (a9.1,0) |.inr b10=>some (b10.2.1,b10.1)) none))
def c0r:FSem:=⟨[.v QL,.v QL,.v QI],[.o QI,.v QI],b1N⟩
def e0e:Hints:=⟨[(250,[.sv 2 QI,.sv 34 QL,.sv 35 QI,.sv 36 QI,.own 8 8 QI],[(.exit 0,[.own 8 8 QI]),(.ret,[.sv 7 QI,.own 6 6 QI])])],[(6,[(.normal,[.sv 0 QL,.sv 1 QL,.sv 2 QI,.sv 23 .bool])]),(14,[(.normal,[.sv 0 QL,.sv 1 QL,.sv 2 QI,.sv 31 .bool])])],[]⟩
def a6b(x:Int):Option Bool:= cond (decide (x≥(-1073741824))) (some (decide (x<1073741824))) (some false)
def b0I:FSem:=⟨[.v QI],[.v .bool],a6b⟩
def e0f:Hints:=⟨[],[],[]⟩
def a3W(s:Z15):Option Z61:= cond (decide (s.2.2.1<s.2.1)) ((a0q s.1 s.2.2.1).bind fun x1=> (a6b x1).bind fun y2=> cond (!y2) (some (.inr (Sum.inr ((false,()))))) (some (.inl (s.1,s.2.1,wrap .i64 (s.2.2.1+1),())))) (some (.inr (Sum.inl ())))
def a3d(x:(List Int)):Option Bool:= (a0h a3W (x,(x.length:Int),0,())).bind fun w3=> match w3 with |.inl a4=>some true |.inr b5=>some b5.1
def a7G:FSem:=⟨[.v QL],[.v .bool],a3d⟩
def e0g:Hints:=⟨[(26,[.sv 5 QL,.sv 6 QI,.sv 7 QI],[(.exit 0,[]),(.ret,[.sv 2 .bool])])],[],[]⟩
def a3X(s:Z65):Option (Z65 ⊕ (Int×Int×Unit)):= cond (decide (s.2.2.2.2.2.1<s.2.2.2.2.1)) ((a0q s.2.2.2.1 s.2.2.2.2.2.1).bind fun x1=> cond (decide ((wrap .i64 ((wrap .i64 ((s.1.length:Int)-1))-s.2.2.2.2.2.1))<0)) (some (.inr (s.2.1,s.2.2.1,()))) ((a0q s.1 (wrap .i64 ((wrap .i64 ((s.1.length:Int)-1))-s.2.2.2.2.2.1))).bind fun x2=> some (.inl (s.1,s.2.1,wrap .i64 (s.2.2.1+(wrap .i64 (x1*x2))),s.2.2.2.1,s.2.2.2.2.1,wrap .i64 (s.2.2.2.2.2.1+1),())))) (some (.inr (s.2.1,s.2.2.1,())))
def a5z(x:Z10):Option Int:= (a0h a3X (x.1,x.2.2,0,x.2.1,(x.2.1.length:Int),0,())).bind fun w3=> cond (decide (w3.1<0)) none (some (a0D .i64 w3.2.1 w3.1))
def b1g:FSem:=⟨[.v QL,.v QL,.v QI],[.v QI],a5z⟩
def e0h:Hints:=⟨[(58,[.sv 0 QL,.sv 2 QI,.sv 7 QI,.sv 11 QL,.sv 12 QI,.sv 13 QI],[(.exit 0,[.sv 2 QI,.sv 7 QI])])],[],[]⟩
def a7H(s:((List Int)×Z53)):Option (((List Int)×Z53) ⊕ Z42):= cond (decide (s.2.2.2.2.1<s.2.2.2.1)) ((a0q s.2.2.1 s.2.2.2.2.1).bind fun x6=> (a5z (s.2.2.2.2.2.1,s.1,s.2.1)).bind fun y7=> (a6b (wrap .i64 (y7+x6))).bind fun y8=> cond (!y8) (some (.inr (Sum.inr ((6,[],()))))) (cond (lim ((a02 s.2.2.2.2.2.1)+1)) (some (.inl (s.1,s.2.1,s.2.2.1,s.2.2.2.1,wrap .i64 (s.2.2.2.2.1+1),a04 s.2.2.2.2.2.1 [wrap .i64 (y7+x6)],()))) none)) (some (.inr (Sum.inl (s.2.2.2.2.2.1,()))))
def a8d(x:((List Int)×Z10)):Option ((List Int)×Int):= (show Option ((List Int)×Z43)from(a5x (x.2.2.1,x.2.2.2)).bind fun y1=> cond (!y1) (some (x.1,x.2.1,x.2.2.1,x.2.2.2,true,())) (some (x.1,x.2.1,x.2.2.1,x.2.2.2,(x.1.length:Int) != (x.2.2.1.length:Int),()))).bind fun z2=> cond z2.2.2.2.2.1 (some ([],1)) ((show Option ((List Int)×Z43)from(a3d z2.1).bind fun y3=> cond (!y3) (some (z2.1,z2.2.1,z2.2.2.1,z2.2.2.2.1,true,())) ((a3d z2.2.1).bind fun y4=> some (z2.1,z2.2.1,z2.2.2.1,z2.2.2.2.1,!y4,()))).bind fun z5=> cond z5.2.2.2.2.1 (some ([],6)) (cond ((decide (0≤(wrap .i64 ((z5.1.length:Int)+(z5.2.1.length:Int)))))&&(lim (a01 (wrap .i64 ((z5.1.length:Int)+(z5.2.1.length:Int)))))) (cond (lim (0+(a02 z5.1))) ((a0h a7H (z5.2.2.1,z5.2.2.2.1,z5.2.1,(z5.2.1.length:Int),0,a04 [] z5.1,())).bind fun w9=> match w9 with |.inl a10=>some (a10.1,0) |.inr b11=>some (b11.2.1,b11.1)) none) none))
def b9r:FSem:=⟨[.v QL,.v QL,.v QL,.v QI],[.o QI,.v QI],a8d⟩
def e0i:Hints:=⟨[(506,[.sv 2 QL,.sv 3 QI,.sv 42 QL,.sv 43 QI,.sv 44 QI,.own 10 10 QI],[(.exit 0,[.own 10 10 QI]),(.ret,[.sv 9 QI,.own 8 8 QI])])],[(6,[(.normal,[.sv 0 QL,.sv 1 QL,.sv 2 QL,.sv 3 QI,.sv 24 .bool])]),(14,[(.normal,[.sv 0 QL,.sv 1 QL,.sv 2 QL,.sv 3 QI,.sv 32 .bool])])],[]⟩
def a8x(x:Int):Option Bool:= cond (decide (x≥(-1073741824))) (some (decide (x<1073741824))) (some false)
def b3e:FSem:=⟨[.v QI],[.v .bool],a8x⟩
def e0j:Hints:=⟨[],[],[]⟩
def a4S(s:Z15):Option Z61:= cond (decide (s.2.2.1<s.2.1)) ((a0q s.1 s.2.2.1).bind fun x1=> (a8x x1).bind fun y2=> cond (!y2) (some (.inr (Sum.inr ((false,()))))) (some (.inl (s.1,s.2.1,wrap .i64 (s.2.2.1+1),())))) (some (.inr (Sum.inl ())))
def a5o(x:(List Int)):Option Bool:= (a0h a4S (x,(x.length:Int),0,())).bind fun w3=> match w3 with |.inl a4=>some true |.inr b5=>some b5.1
def a9F:FSem:=⟨[.v QL],[.v .bool],a5o⟩
def e0k:Hints:=⟨[(26,[.sv 5 QL,.sv 6 QI,.sv 7 QI],[(.exit 0,[]),(.ret,[.sv 2 .bool])])],[],[]⟩
def a4T(s:((List Int)×(Int×Int×Z17))):Option (((List Int)×(Int×Int×Z17)) ⊕ (Int×Unit)):= cond (decide (s.2.2.2.2.2.1<3)) ((a0q s.2.2.2.2.1 s.2.2.2.2.2.1).bind fun x1=> cond (decide ((wrap .i64 ((wrap .i64 ((wrap .i64 (s.2.1-s.2.2.1))-1))+s.2.2.2.2.2.1))≥0)) ((a0q s.1 (wrap .i64 ((wrap .i64 ((wrap .i64 (s.2.1-s.2.2.1))-1))+s.2.2.2.2.2.1))).bind fun x2=> some (.inl (s.1,s.2.1,s.2.2.1,wrap .i64 (s.2.2.2.1+(wrap .i64 (x1*x2))),s.2.2.2.2.1,wrap .i64 (s.2.2.2.2.2.1+1),()))) (some (.inl (s.1,s.2.1,s.2.2.1,s.2.2.2.1,s.2.2.2.2.1,wrap .i64 (s.2.2.2.2.2.1+1),())))) (some (.inr (s.2.2.2.1,())))
def a5p(x:((List Int)×Z1)):Option Int:= (a0h a4T (x.1,x.2.1,x.2.2.1,0,x.2.2.2,0,())).bind fun w3=> some (a0D .i64 w3.1 6)
def b2I:FSem:=⟨[.v QL,.v QI,.v QI,.v (.arr 3 QI)],[.v QI],a5p⟩
def e0l:Hints:=⟨[(58,[.sv 0 QL,.sv 1 QI,.sv 2 QI,.sv 9 QI,.sv 13 (.arr 3 QI),.sv 14 QI],[(.exit 0,[.sv 9 QI])])],[],[]⟩
def a9G(s:Z74):Option (Z74 ⊕ Z42):= cond (decide (s.2.2.2.1<s.2.2.1)) ((a0q s.2.1 s.2.2.2.1).bind fun x3=> (a5p (s.2.2.2.2.1,s.2.2.2.1,s.1,s.2.2.2.2.2.1)).bind fun y4=> (a8x (wrap .i64 (x3+y4))).bind fun y5=> cond (!y5) (some (.inr (Sum.inr ((6,[],()))))) (cond (lim ((a02 s.2.2.2.2.1)+1)) (some (.inl (s.1,s.2.1,s.2.2.1,wrap .i64 (s.2.2.2.1+1),a04 s.2.2.2.2.1 [wrap .i64 (x3+y4)],s.2.2.2.2.2.1,()))) none)) (some (.inr (Sum.inl (s.2.2.2.2.1,()))))
def b3f(x:((List Int)×(Int×(List Int)))):Option ((List Int)×Int):= (a9E (x.2.1,x.2.2)).bind fun y1=> cond (!y1) (some ([],1)) ((a5o x.1).bind fun y2=> cond (!y2) (some ([],6)) (cond ((decide (0≤(x.1.length:Int)))&&(lim (a01 (x.1.length:Int)))) ((a0h a9G (x.2.1,x.1,(x.1.length:Int),0,[],x.2.2,())).bind fun w6=> match w6 with |.inl a7=>some (a7.1,0) |.inr b8=>some (b8.2.1,b8.1)) none))
def c1C:FSem:=⟨[.v QL,.v QI,.v (.arr 3 QI)],[.o QI,.v QI],b3f⟩
def e0m:Hints:=⟨[(250,[.sv 1 QI,.sv 22 QL,.sv 23 QI,.sv 24 QI,.own 8 8 QI,.vp 5 (.arr 3 QI)],[(.exit 0,[.own 8 8 QI]),(.ret,[.sv 7 QI,.own 6 6 QI])])],[],[]⟩
def a7g(x:Int):Option Bool:= cond (decide (x≥(-1073741824))) (some (decide (x<1073741824))) (some false)
def b1O:FSem:=⟨[.v QI],[.v .bool],a7g⟩
def e0n:Hints:=⟨[],[],[]⟩
def a4w(s:Z15):Option Z61:= cond (decide (s.2.2.1<s.2.1)) ((a0q s.1 s.2.2.1).bind fun x1=> (a7g x1).bind fun y2=> cond (!y2) (some (.inr (Sum.inr ((false,()))))) (some (.inl (s.1,s.2.1,wrap .i64 (s.2.2.1+1),())))) (some (.inr (Sum.inl ())))
def a6m(x:(List Int)):Option Bool:= (a0h a4w (x,(x.length:Int),0,())).bind fun w3=> match w3 with |.inl a4=>some true |.inr b5=>some b5.1
def b1P:FSem:=⟨[.v QL],[.v .bool],a6m⟩
def e0o:Hints:=⟨[(26,[.sv 5 QL,.sv 6 QI,.sv 7 QI],[(.exit 0,[]),(.ret,[.sv 2 .bool])])],[],[]⟩
def b0o(x:(Int×Int×Unit)):Option (Z23×Int):= (a8c x).bind fun y1=> cond (!y1) none (cond ((decide (0≤x.1))&&((decide (x.1≤x.1))&&(lim (a01 x.1)))) (cond ((decide (0≤x.1))&&((decide (x.1≤x.1))&&(lim (a01 x.1)))) (some ((x.2.1,a00 (a01 x.1) 0,a00 (a01 x.1) 0,()),0)) none) none)
def b6Z:FSem:=⟨[.v Q3],[.b Q12,.v QI],b0o⟩
def e0p:Hints:=⟨[],[],[(3,[.v,.v,.v,.v,.q,.v,.v,.q,.x,.x,.x,.x])]⟩
def a6n(x:Int):Option Int:= some (a4d (a2y x (-1073741824)) 1073741823)
def b1Q:FSem:=⟨[.v QI],[.v QI],a6n⟩
def e0q:Hints:=⟨[],[],[]⟩
def a3T(s:Z76):Option (Z76 ⊕ Z55):= cond (decide (s.2.2.1<s.2.1)) (cond ((decide (0≤s.2.2.1))&&(decide (s.2.2.1<(s.2.2.2.1.2.1.length:Int)))) (cond ((decide (0≤s.2.2.1))&&(decide (s.2.2.1<(s.2.2.2.1.2.2.1.length:Int)))) (some (.inl (wrap .i64 (s.1+(wrap .i64 ((a03 s.2.2.2.1.2.1 (a01 s.2.2.1) 0)*(a03 s.2.2.2.1.2.2.1 (a01 s.2.2.1) 0)))),s.2.1,wrap .i64 (s.2.2.1+1),s.2.2.2.1,()))) none) none) (some (.inr (s.1,s.2.2.2.1,())))
def a2A(x:Z23):Option Z38:= (a0h a3T (0,(x.2.1.length:Int),0,x,())).bind fun w1=> (a6n (a0D .i64 w1.1 16)).bind fun y2=> some (y2,w1.2.1)
def a4Z:FSem:=⟨[.r false (.b Q12)],[.v QI],a2A⟩
def e0r:Hints:=⟨[(58,[.sv 3 QI,.sv 10 QI,.sv 11 QI,.box pinned Q12,.ptr 0 pinned [],.ref 9 pinned [.snd,.fst]],[(.exit 0,[.sv 3 QI,.box pinned Q12])])],[],[]⟩
def a2X(s:(Int×Z76)):Option ((Int×Z76) ⊕ Z55):= cond (decide (s.2.2.2.1<s.2.2.1)) (cond ((decide (0≤s.2.2.2.1))&&(decide (s.2.2.2.1<(s.2.2.2.2.1.2.2.1.length:Int)))) (cond ((decide (0≤s.2.2.2.1))&&(decide (s.2.2.2.1<(s.2.2.2.2.1.2.1.length:Int)))) ((show Option (Int×Int×Int×Z76)from cond (decide ((a03 s.2.2.2.2.1.2.2.1 (a01 s.2.2.2.1) 0) > 0)) (some (s.1,s.2.1,s.2.2.2.1,wrap .i64 ((a03 s.2.2.2.2.1.2.1 (a01 s.2.2.2.1) 0)+s.2.1),s.2.2.1,s.2.2.2.1,s.2.2.2.2.1,())) (cond (decide ((a03 s.2.2.2.2.1.2.2.1 (a01 s.2.2.2.1) 0)<0)) (some (s.1,s.2.1,s.2.2.2.1,wrap .i64 ((a03 s.2.2.2.2.1.2.1 (a01 s.2.2.2.1) 0)-s.2.1),s.2.2.1,s.2.2.2.1,s.2.2.2.2.1,())) (some (s.1,s.2.1,s.2.2.2.1,a03 s.2.2.2.2.1.2.1 (a01 s.2.2.2.1) 0,s.2.2.1,s.2.2.2.1,s.2.2.2.2.1,())))).bind fun z4=> cond ((decide (0≤z4.2.2.1))&&(decide (z4.2.2.1<(z4.2.2.2.2.2.2.1.2.1.length:Int)))) (some (.inl (z4.1,z4.2.1,z4.2.2.2.2.1,wrap .i64 (z4.2.2.2.2.2.1+1),(z4.2.2.2.2.2.2.1.1,a05 z4.2.2.2.2.2.2.1.2.1 (a01 z4.2.2.1) (a4d (a2y z4.2.2.2.1 (-1048576)) 1048576),z4.2.2.2.2.2.2.1.2.2),()))) none) none) none) (some (.inr (s.1,s.2.2.2.2.1,())))
def a3Y(x:(Z23×Int)):Option Z23:= (a6n x.2).bind fun y1=> (show Option Z68 from(a2A x.1).bind fun y2=> cond (decide (y1 > y2.1)) (cond (decide (y2.2.1<0)) none (some (y1,a0A .i64 1 y2.2.1,y2.2,()))) (cond (decide (y1<y2.1)) (cond (decide (y2.2.1<0)) none (some (y1,wrap .i64 (0-(a0A .i64 1 y2.2.1)),y2.2,()))) (some (y1,0,y2.2,())))).bind fun z3=> (a0h a2X (z3.1,z3.2.1,(z3.2.2.1.2.2.1.length:Int),0,z3.2.2.1,())).bind fun w5=> cond (decide (1≤(w5.2.1.2.2.1.length:Int))) (cond (decide (0<(a02 (b4s w5.2.1.2.2.1 1 ((a02 w5.2.1.2.2.1)-1) w5.2.1.2.2.1):Int))) (some (w5.2.1.1,w5.2.1.2.1,a05 (b4s w5.2.1.2.2.1 1 ((a02 w5.2.1.2.2.1)-1) w5.2.1.2.2.1) 0 w5.1,w5.2.1.2.2.2)) none) none
def a8I:FSem:=⟨[.r false (.b Q12),.v QI],[],a3Y⟩
def e0s:Hints:=⟨[(122,[.sv 1 QI,.sv 4 QI,.sv 36 QI,.sv 37 QI,.box pinned Q12,.ptr 0 pinned [],.ref 35 pinned [.snd,.snd,.fst]],[(.exit 1,[.sv 1 QI,.box pinned Q12,.ptr 0 pinned []])])],[(7,[(.normal,[.sv 1 QI,.sv 4 QI,.box pinned Q12,.ptr 0 pinned []])]),(15667,[(.normal,[.sv 1 QI,.sv 4 QI,.sv 6 QI,.sv 8 QI,.sv 36 QI,.sv 37 QI,.box pinned Q12,.ptr 0 pinned [],.ref 35 pinned [.snd,.snd,.fst]])])],[(17,[.p,.p,.q,.q,.q,.p,.p,.q,.q,.x])]⟩
def a6o(s:(Int×(Int×((List Int)×Z75)))):Option ((Int×(Int×((List Int)×Z75))) ⊕ (Z24 ⊕ Z24)):= cond (decide (s.2.1<s.1)) (cond ((decide (0≤s.2.1))&&(decide (s.2.1<(s.2.2.2.2.1.length:Int)))) ((a2A s.2.2.2.2.2.1).bind fun y6=> (a7g (wrap .i64 (y6.1+(a03 s.2.2.2.2.1 (a01 s.2.1) 0)))).bind fun y7=> cond (!y7) (some (.inr (Sum.inr (([],6,s.2.2.2.2.1,()))))) ((a3Y (y6.2,wrap .i64 (y6.1+(a03 s.2.2.2.2.1 (a01 s.2.1) 0)))).bind fun y8=> cond ((decide (0≤s.2.1))&&(decide (s.2.1<(s.2.2.2.2.1.length:Int)))) (some (.inl (s.1,wrap .i64 (s.2.1+1),s.2.2.1,s.2.2.2.1,a05 s.2.2.2.2.1 (a01 s.2.1) (wrap .i64 (y6.1+(a03 s.2.2.2.2.1 (a01 s.2.1) 0))),y8,()))) none)) none) (some (.inr (Sum.inl (s.2.2.1,s.2.2.2.1,s.2.2.2.2.1,()))))
def a8O(k:Int)(v:(Int×Int×Unit))(s:(Z4×Z24)):Option ((Z4×Z24) ⊕ (Ex×Z4×Z24)):= (b0o v).bind fun y4=> cond (y4.2 != 0) (some (.inr (.ret,s.1,[],y4.2,s.2.2.2.1,()))) ((a0h a6o ((s.2.2.2.1.length:Int),0,s.2.1,s.2.2.1,s.2.2.2.1,y4.1,())).bind fun w9=> match w9 with |.inl a10=>some (.inl (s.1,a10.1,a10.2.1,a10.2.2.1,())) |.inr b11=>some (.inr (.ret,s.1,b11.1,b11.2.1,b11.2.2.1,())))
def b1R(x:((List Int)×Z4)):Option ((List Int)×Int):= (a8v x.2).bind fun y1=> cond (!y1) (some ([],1)) ((a6m x.1).bind fun y2=> cond (!y2) (some ([],6)) ((a1h x.1).bind fun y3=> cond (lim (a02 x.2)) ((a6l a8O x.2 (a02 x.2) (x.2,[],0,y3,())).bind fun w12=> match w12 with |.inl a13=>some (a13.2.2.2.1,0) |.inr (.normal,a14)=>some (a14.2.2.2.1,0) |.inr (.exit e15,a14)=>(cond (e15==0) (some (a14.2.2.2.1,0)) none) |.inr (.ret,a14)=>some (a14.2.1,a14.2.2.1)) none))
def a9j:FSem:=⟨[.v QL,.v (.list false Q3)],[.v QL,.v QI],b1R⟩
def e0t:Hints:=⟨[(8046,[.sv 35 QI,.sv 36 QI,.box 1001004 QL,.box 1001005 QI,.box 1001006 (.list true QI),.box 1028 Q12,.ptr 4 1001004 [],.ptr 5 1001005 [],.ptr 6 1001006 [],.ptr 9 1028 [],.ref 34 1001006 []],[(.exit 2,[.box 1001004 QL,.box 1001005 QI,.box 1001006 (.list true QI),.ptr 4 1001004 [],.ptr 5 1001005 [],.ptr 6 1001006 []]),(.ret,[.box 1001004 QL,.box 1001005 QI,.box 1001006 (.list true QI),.ptr 4 1001004 [],.ptr 5 1001005 [],.ptr 6 1001006 []])])],[],[]⟩
def d5O:Cx:=c0p [(87,a0Y),(219,b3b),(259,b1P),(261,b6Z),(262,a4Z),(263,b1O),(264,a8I)] [(6,.list true QI)] [0,1,9,10,11,12,13] [56]
def d7u:HintR:=⟨22,Q3,260,295,[4,5,6],[.sv 22 (.list false Q3),.box 1001004 QL,.box 1001005 QI,.box 1001006 (.list true QI),.ptr 4 1001004 [],.ptr 5 1001005 [],.ptr 6 1001006 []]⟩
theorem d8h(x):c7m d5O e0t d7u Tryz.f193 a9j.ps a9j.rs x=a9j.F x:=by kernel_rfl
def a6c(x:Int):Option Bool:= cond (decide ((-1073741824)≤x)) (some (decide (x<1073741824))) (some false)
def b4h:FSem:=⟨[.v QI],[.v .bool],a6c⟩
def e0u:Hints:=⟨[],[],[]⟩
def a9H(s:Z53):Option (Z53 ⊕ Z42):= cond (decide (s.2.2.2.1<s.2.2.1)) ((a0q s.2.1 s.2.2.2.1).bind fun x2=> (show Option (Int×(Int×((List Int)×(Int×Int×Z8))))from(a6c x2).bind fun y3=> cond (!y3) (some (s.1,x2,s.2.1,s.2.2.1,s.2.2.2.1,true,s.2.2.2.2.1,())) (cond (decide (s.1<0)) none ((a6c (a0A .i64 x2 s.1)).bind fun y4=> some (s.1,x2,s.2.1,s.2.2.1,s.2.2.2.1,!y4,s.2.2.2.2.1,())))).bind fun z5=> cond z5.2.2.2.2.2.1 (some (.inr (Sum.inr ((6,[],()))))) (cond (decide (z5.1<0)) none (cond (lim ((a02 z5.2.2.2.2.2.2.1)+1)) (some (.inl (z5.1,z5.2.2.1,z5.2.2.2.1,wrap .i64 (z5.2.2.2.2.1+1),a04 z5.2.2.2.2.2.2.1 [a0A .i64 z5.2.1 z5.1],()))) none))) (some (.inr (Sum.inl (s.2.2.2.2.1,()))))
def b0p(x:((List Int)×Int)):Option ((List Int)×Int):= (show Option Z18 from cond (decide (x.2<0)) (some (x.1,x.2,true,())) (some (x.1,x.2,decide (x.2 > 30),()))).bind fun z1=> cond z1.2.2.1 (some ([],1)) ((a0h a9H (z1.2.1,z1.1,(z1.1.length:Int),0,[],())).bind fun w6=> match w6 with |.inl a7=>some (a7.1,0) |.inr b8=>some (b8.2.1,b8.1))
def c1D:FSem:=⟨[.v QL,.v QI],[.o QI,.v QI],b0p⟩
def e0v:Hints:=⟨[(122,[.sv 1 QI,.sv 15 QL,.sv 16 QI,.sv 17 QI,.own 6 6 QI],[(.exit 0,[.own 6 6 QI]),(.ret,[.sv 5 QI,.own 4 4 QI])])],[(6,[(.normal,[.sv 0 QL,.sv 1 QI,.sv 14 .bool])]),(15666,[(.normal,[.sv 1 QI,.sv 8 QI,.sv 15 QL,.sv 16 QI,.sv 17 QI,.sv 30 .bool,.own 6 6 QI])])],[]⟩
def a8e(s:(Int×(Int×((List Int)×Z97)))):Option ((Int×(Int×((List Int)×Z97))) ⊕ ((List Int)×Unit)):= cond (decide (s.2.1<s.1)) ((a0q s.2.2.2.1.2.2.2.2.2.2.2.2.1 0).bind fun x1=> cond (lim ((a02 s.2.2.1)+1)) (some (.inl (s.1,wrap .i64 (s.2.1+1),a04 s.2.2.1 [x1],s.2.2.2.1,()))) none) (some (.inr (s.2.2.1,())))
def b4B(x:Z96):Option ((List Int)×Int):= (show Option (((List Int)×(Int×Z97)) ⊕ Z5)from cond (x.1.1==0) ((a0h a8e (x.2,0,[],x.1,())).bind fun w2=> some (Sum.inr ((0,w2.1,())))) (cond (x.1.1==1) (some (Sum.inl (x.1.2.2.2.2.2.2.2.2.1,0,x.1,()))) (cond (x.1.1==2) ((b1N (x.1.2.2.2.2.2.2.2.2.1,x.1.2.2.2.2.2.2.2.2.2.2.1,x.1.2.2.1)).bind fun y3=> some (Sum.inl (y3.1,y3.2,x.1,()))) (cond (x.1.1==3) ((a8d (x.1.2.2.2.2.2.2.2.2.1,x.1.2.2.2.2.2.2.2.2.2.2.1,x.1.2.2.2.2.2.1,x.1.2.2.2.1)).bind fun y4=> some (Sum.inl (y4.1,y4.2,x.1,()))) (cond (x.1.1==4) ((a8d (x.1.2.2.2.2.2.2.2.2.1,x.1.2.2.2.2.2.2.2.2.2.2.1,x.1.2.2.2.2.2.1,x.1.2.2.2.1)).bind fun y5=> cond (y5.2==0) ((b3f (y5.1,x.1.2.2.2.2.1,x.1.2.2.2.2.2.2.1)).bind fun y6=> some (Sum.inl (y6.1,y6.2,x.1,()))) (some (Sum.inl (y5.1,y5.2,x.1,())))) (cond (x.1.1==5) ((b1R (x.1.2.2.2.2.2.2.2.2.2.2.1,x.1.2.2.2.2.2.2.2.1)).bind fun y7=> some (Sum.inl (y7.1,y7.2,x.1,()))) (some (Sum.inl ([],0,x.1,()))))))))).bind fun z8=> match z8 with |.inl a9=>(cond (a9.2.1 != 0) (some ([],a9.2.1)) ((b0p (a9.1,a9.2.2.1.2.1)).bind fun y11=> some (y11.1,y11.2))) |.inr b10=>some (b10.2.1,b10.1)
def c3A:FSem:=⟨[.v Q31,.v QI],[.o QI,.v QI],b4B⟩
def e0w:Hints:=⟨[(3922,[.sv 12 QI,.sv 13 QI,.own 6 6 QI,.vp 2 Q31],[(.exit 1,[.own 6 6 QI])])],[(15,[(.normal,[.sv 6 QL,.sv 7 QI,.vp 2 Q31]),(.ret,[.sv 5 QI,.own 4 6 QI])])],[]⟩
def b3O(x:Z96):Option ((List Int)×Int):= (b1M (x.1,x.2)).bind fun y1=> cond (!y1) (some ([],1)) ((b4B (x.1,x.2)).bind fun y2=> cond (y2.2 != 0) (some ([],1)) (some (y2.1,0)))
def c0s:FSem:=⟨[.v Q31,.v QI],[.o QI,.v QI],b3O⟩
def H45:Hints:=⟨[],[],[]⟩
def b0q(x:Int):Option Bool:= cond (decide ((-1073741824)≤x)) (some (decide (x<1073741824))) (some false)
def b7a:FSem:=⟨[.v QI],[.v .bool],b0q⟩
def e0x:Hints:=⟨[],[],[]⟩
def a5q(s:((List (List Int))×((List (List Int))×Z44))):Option (((List (List Int))×((List (List Int))×Z44)) ⊕ (((List (List Int))×Z25) ⊕ (Bool×Unit))):= cond (decide (s.2.2.2.2.2.2.1<s.2.2.2.2.2.1)) ((a0q s.2.2.2.2.1 s.2.2.2.2.2.2.1).bind fun x5=> (b0q x5).bind fun y6=> cond (!y6) (some (.inr (Sum.inr ((false,()))))) (some (.inl (s.1,s.2.1,s.2.2.1,s.2.2.2.1,s.2.2.2.2.1,s.2.2.2.2.2.1,wrap .i64 (s.2.2.2.2.2.2.1+1),())))) (some (.inr (Sum.inl (s.1,s.2.1,s.2.2.1,s.2.2.2.1,()))))
def a5r(s:((List (List Int))×Z25)):Option (((List (List Int))×Z25) ⊕ Z0):= cond (decide (s.2.2.2.1<s.2.2.1)) ((a0q s.2.1 s.2.2.2.1).bind fun x3=> (a0q s.1 0).bind fun x4=> cond ((x3.length:Int) != (x4.length:Int)) (some (.inr (Sum.inr ((false,()))))) ((a0h a5q (s.1,s.2.1,s.2.2.1,s.2.2.2.1,x3,(x3.length:Int),0,())).bind fun w7=> match w7 with |.inl a8=>some (.inl (a8.1,a8.2.1,a8.2.2.1,wrap .i64 (a8.2.2.2.1+1),())) |.inr b9=>some (.inr (Sum.inr ((b9.1,())))))) (some (.inr (Sum.inl ())))
def a8y(x:(List (List Int))):Option Bool:= (show Option ((List (List Int))×(Bool×Unit))from cond (decide ((x.length:Int)<1)) (some (x,true,())) (cond (decide ((x.length:Int) > 8)) (some (x,true,())) ((a0q x 0).bind fun x1=> some (x,decide ((x1.length:Int) > 4096),())))).bind fun z2=> cond z2.2.1 (some false) ((a0h a5r (z2.1,z2.1,(z2.1.length:Int),0,())).bind fun w10=> match w10 with |.inl a11=>some true |.inr b12=>some b12.1)
def b3g:FSem:=⟨[.v (.list false QL)],[.v .bool],a8y⟩
def e0y:Hints:=⟨[(58,[.sv 0 (.list false QL),.sv 22 (.list false QL),.sv 23 QI,.sv 24 QI],[(.exit 0,[]),(.ret,[.sv 2 .bool])]),(29902,[.sv 0 (.list false QL),.sv 22 (.list false QL),.sv 23 QI,.sv 24 QI,.sv 35 QL,.sv 36 QI,.sv 37 QI],[(.exit 2,[.sv 0 (.list false QL),.sv 22 (.list false QL),.sv 23 QI,.sv 24 QI]),(.ret,[.sv 2 .bool])])],[(6,[(.normal,[.sv 0 (.list false QL),.sv 21 .bool])])],[]⟩
def a7I(s:((List (List Int))×Z26)):Option (((List (List Int))×Z26) ⊕ Z2):= cond (decide (s.2.2.1<s.2.1)) ((a0q s.1 s.2.2.1).bind fun x1=> (a1h x1).bind fun y2=> cond (lim ((a02 s.2.2.2.1)+(a02 (a05 ([[]]:List (List Int)) 0 y2)))) (some (.inl (s.1,s.2.1,wrap .i64 (s.2.2.1+1),a04 s.2.2.2.1 (a05 ([[]]:List (List Int)) 0 y2),()))) none) (some (.inr (s.2.2.2.1,())))
def a8f(x:(List (List Int))):Option (List (List Int)):= (a0h a7I (x,(x.length:Int),0,([]:(List (List Int))),())).bind fun w3=> some w3.1
def b4i:FSem:=⟨[.v (.list false QL)],[.o (.list true QI)],a8f⟩
def e0z:Hints:=⟨[(58,[.sv 6 (.list false QL),.sv 7 QI,.sv 8 QI,.own 3 3 (.list true QI)],[(.exit 0,[.own 3 3 (.list true QI)])])],[],[]⟩
def a4D(s:(Int×(Int×(Int×((List (List Int))×(Z7×Int×Unit)))))):Option ((Int×(Int×(Int×((List (List Int))×(Z7×Int×Unit))))) ⊕ (Z2 ⊕ (Bool×Z2))):= cond (decide (s.2.2.1<s.2.1)) (cond ((decide (0≤s.2.2.1))&&(decide (s.2.2.1<((a02 (a03 s.2.2.2.1 (a01 s.2.2.2.2.2.1) []):Nat):Int)))) (cond ((decide (0≤s.2.2.2.2.1.2.1))&&(decide (s.2.2.2.2.1.2.1<(s.2.2.2.1.length:Int)))) (cond ((decide (0≤s.2.2.1))&&(decide (s.2.2.1<((a02 (a03 s.2.2.2.1 (a01 s.2.2.2.2.1.2.1) []):Nat):Int)))) ((b0q (wrap .i64 ((a03 (a03 s.2.2.2.1 (a01 s.2.2.2.2.1.2.1) []) (a01 s.2.2.1) 0)+(wrap .i64 (s.1*(a0D .i64 (wrap .i64 (s.2.2.2.2.1.2.2.1*(a03 (a03 s.2.2.2.1 (a01 s.2.2.2.2.2.1) []) (a01 s.2.2.1) 0))) 8)))))).bind fun y1=> cond (!y1) (some (.inr (Sum.inr ((false,s.2.2.2.1,()))))) (cond ((decide (0≤s.2.2.2.2.1.2.1))&&(decide (s.2.2.2.2.1.2.1<(s.2.2.2.1.length:Int)))) (cond ((decide (0≤s.2.2.1))&&(decide (s.2.2.1<((a02 (a03 s.2.2.2.1 (a01 s.2.2.2.2.1.2.1) []):Nat):Int)))) (some (.inl (s.1,s.2.1,wrap .i64 (s.2.2.1+1),a05 s.2.2.2.1 (a01 s.2.2.2.2.1.2.1) (a05 (a03 s.2.2.2.1 (a01 s.2.2.2.2.1.2.1) []) (a01 s.2.2.1) (wrap .i64 ((a03 (a03 s.2.2.2.1 (a01 s.2.2.2.2.1.2.1) []) (a01 s.2.2.1) 0)+(wrap .i64 (s.1*(a0D .i64 (wrap .i64 (s.2.2.2.2.1.2.2.1*(a03 (a03 s.2.2.2.1 (a01 s.2.2.2.2.2.1) []) (a01 s.2.2.1) 0))) 8)))))),s.2.2.2.2.1,((a01 s.2.2.2.2.2.1:Nat):Int),()))) none) none)) none) none) none) (some (.inr (Sum.inl (s.2.2.2.1,()))))
def a9k(x:((List (List Int))×(Z7×Int))):Option (Bool×(List (List Int))):= cond ((decide (0≤x.2.1.1))&&(decide (x.2.1.1<(x.1.length:Int)))) ((a0h a4D (x.2.2,((a02 (a03 x.1 (a01 x.2.1.1) []):Nat):Int),0,x.1,x.2.1,((a01 x.2.1.1:Nat):Int),())).bind fun w2=> match w2 with |.inl a3=>some (true,a3.1) |.inr b4=>some (b4.1,b4.2.1)) none
def b5t:FSem:=⟨[.r false (.o (.list true QI)),.v Q8,.v QI],[.v .bool],a9k⟩
def e0A:Hints:=⟨[(26,[.sv 2 QI,.sv 15 QI,.sv 16 QI,.own 0 pinned (.list true QI),.vp 4 Q8,.rfi 14 pinned],[(.exit 0,[.own 0 pinned (.list true QI)]),(.ret,[.sv 6 .bool,.own 0 pinned (.list true QI)])])],[],[(4,[.q,.v,.v,.q,.q,.v,.q,.q,.v,.v,.v,.v,.v,.v,.v,.x,.x])]⟩
def a4h(k:Int)(v:Z7)(s:(Z14×((List (List Int))×Z12))):Option ((Z14×((List (List Int))×Z12)) ⊕ (Ex×(Z14×((List (List Int))×Z12)))):= (a9k (s.2.2.2.1,v,(-1))).bind fun y5=> cond (!y5.1) (some (.inr (.ret,s.1,([]:(List (List Int))),6,y5.2,()))) (some (.inl (s.1,s.2.1,s.2.2.1,y5.2,())))
def b3h(x:((List (List Int))×Z14)):Option ((List (List Int))×Int):= (show Option ((List (List Int))×(Z14×Bool×Z13))from(a8y x.1).bind fun y1=> cond (!y1) (some (x.1,x.2,true,([]:(List (List Int))),0,())) ((a9D (x.2,(x.1.length:Int))).bind fun y2=> some (x.1,x.2,!y2,([]:(List (List Int))),0,()))).bind fun z3=> cond z3.2.2.1 (some (([]:(List (List Int))),1)) ((a8f z3.1).bind fun y4=> cond (lim (a02 z3.2.1)) ((a6l a4h z3.2.1 (a02 z3.2.1) (z3.2.1,z3.2.2.2.1,z3.2.2.2.2.1,y4,())).bind fun w6=> match w6 with |.inl a7=>some (a7.2.2.2.1,0) |.inr (.normal,a8)=>some (a8.2.2.2.1,0) |.inr (.exit e9,a8)=>(cond (e9==0) (some (a8.2.2.2.1,0)) none) |.inr (.ret,a8)=>some (a8.2.1,a8.2.2.1)) none)
def b0r:FSem:=⟨[.v (.list false QL),.v (.list false Q8)],[.v (.list false QL),.v QI],b3h⟩
def H46:Hints:=⟨[],[(6,[(.normal,[.sv 0 (.list false QL),.sv 1 (.list false Q8),.sv 18 .bool,.box 4 (.list false QL),.box 5 QI,.ptr 4 4 [],.ptr 5 5 []])])],[]⟩
def d7v:Cx:=c0p [(102,b4z),(105,b3g),(106,b4i),(108,b5t)] [(6,.list true (.list true QI))] [0,1] [29]
def R46:HintR:=⟨21,Q8,107,196,[4,5,6],[.sv 21 (.list false Q8),.box 1001004 (.list false QL),.box 1001005 QI,.box 1001006 (.list true (.list true QI)),.ptr 4 1001004 [],.ptr 5 1001005 [],.ptr 6 1001006 []]⟩
theorem e0B(x):c7m d7v H46 R46 Tryz.f46 b0r.ps b0r.rs x=b0r.F x:=by kernel_rfl
def a6I(x:Z12):Option Int:= cond ((x.2.1.length:Int)==0) (some 0) ((a0q x.2.1 0).bind fun x1=> some (x1.length:Int))
def b7b:FSem:=⟨[.v Q10],[.v QI],a6I⟩
def H35:Hints:=⟨[],[],[]⟩
def b5u(x:Int):Option Int:= (show Option (Int×Bool×Unit)from cond (decide (x<1)) (some (x,true,())) (some (x,decide (x > 31),()))).bind fun z1=> cond z1.2.1 (some 0) (cond (decide ((wrap .i64 (z1.1-1))<0)) none (some (a0A .i64 (-1) (wrap .i64 (z1.1-1)))))
def c0t:FSem:=⟨[.v QI],[.v QI],b5u⟩
def e0C:Hints:=⟨[],[(6,[(.normal,[.sv 0 QI,.sv 8 .bool])])],[]⟩
def b4j(x:Int):Option Int:= (show Option (Int×Bool×Unit)from cond (decide (x<1)) (some (x,true,())) (some (x,decide (x > 31),()))).bind fun z1=> cond z1.2.1 (some 0) (cond (decide ((wrap .i64 (z1.1-1))<0)) none (some (wrap .i64 ((a0A .i64 1 (wrap .i64 (z1.1-1)))-1))))
def b9s:FSem:=⟨[.v QI],[.v QI],b4j⟩
def e0D:Hints:=⟨[],[(6,[(.normal,[.sv 0 QI,.sv 8 .bool])])],[]⟩
def a4K(x:(Int×Int)):Option Bool:= cond (decide (x.2≥1)) (cond (decide (x.2≤31)) ((b5u x.2).bind fun y1=> cond (decide (y1≤x.1)) ((b4j x.2).bind fun y2=> some (decide (x.1≤y2))) (some false)) (some false)) (some false)
def b0J:FSem:=⟨[.v QI,.v QI],[.v .bool],a4K⟩
def e0E:Hints:=⟨[],[],[]⟩
def a5s(s:((List (List Int))×(Int×(Int×((List Int)×Z56))))):Option (((List (List Int))×(Int×(Int×((List Int)×Z56)))) ⊕ (((List (List Int))×Z56) ⊕ (Bool×Unit))):= cond (decide (s.2.2.2.2.2.1<s.2.2.2.2.1)) ((a0q s.2.2.2.1 s.2.2.2.2.2.1).bind fun x8=> (a4K (x8,s.2.2.2.2.2.2.1.1)).bind fun y9=> cond (!y9) (some (.inr (Sum.inr ((false,()))))) (some (.inl (s.1,s.2.1,s.2.2.1,s.2.2.2.1,s.2.2.2.2.1,wrap .i64 (s.2.2.2.2.2.1+1),s.2.2.2.2.2.2.1,())))) (some (.inr (Sum.inl (s.1,s.2.1,s.2.2.1,s.2.2.2.2.2.2.1,()))))
def a5t(s:((List (List Int))×Z56)):Option (((List (List Int))×Z56) ⊕ Z0):= cond (decide (s.2.2.1<s.2.1)) ((a0q s.1 s.2.2.1).bind fun x6=> (a6I s.2.2.2.1).bind fun y7=> cond ((x6.length:Int) != y7) (some (.inr (Sum.inr ((false,()))))) ((a0h a5s (s.1,s.2.1,s.2.2.1,x6,(x6.length:Int),0,s.2.2.2.1,())).bind fun w10=> match w10 with |.inl a11=>some (.inl (a11.1,a11.2.1,wrap .i64 (a11.2.2.1+1),a11.2.2.2.1,())) |.inr b12=>some (.inr (Sum.inr ((b12.1,())))))) (some (.inr (Sum.inl ())))
def a8z(x:Z12):Option Bool:= (show Option Z48 from(a7Y x.1).bind fun y1=> cond (!y1) (some (true,x,())) (cond (decide ((x.2.1.length:Int)<1)) (some (true,x,())) (some (decide ((x.2.1.length:Int) > 8),x,())))).bind fun z2=> cond z2.1 (some false) ((show Option Z48 from(a6I z2.2.1).bind fun y3=> cond (decide (y3<1)) (some (true,z2.2.1,())) ((a6I z2.2.1).bind fun y4=> some (decide (y4 > 4096),z2.2.1,()))).bind fun z5=> cond z5.1 (some false) ((a0h a5t (z5.2.1.2.1,(z5.2.1.2.1.length:Int),0,z5.2.1,())).bind fun w13=> match w13 with |.inl a14=>some true |.inr b15=>some b15.1))
def b3i:FSem:=⟨[.v Q10],[.v .bool],a8z⟩
def H47:Hints:=⟨[(122,[.sv 32 (.list false QL),.sv 33 QI,.sv 34 QI,.vp 1 Q10],[(.exit 0,[]),(.ret,[.sv 2 .bool])]),(62670,[.sv 32 (.list false QL),.sv 33 QI,.sv 34 QI,.sv 43 QL,.sv 44 QI,.sv 45 QI,.vp 1 Q10],[(.exit 2,[.sv 32 (.list false QL),.sv 33 QI,.sv 34 QI,.vp 1 Q10]),(.ret,[.sv 2 .bool])])],[(6,[(.normal,[.sv 22 .bool,.vp 1 Q10])]),(14,[(.normal,[.sv 30 .bool,.vp 1 Q10])])],[]⟩
def a5A(s:(Z95×(Int×(Int×((List (List Int))×d1C))))):Option ((Z95×(Int×(Int×((List (List Int))×d1C)))) ⊕ (((List (List Int))×d1C) ⊕ Z46)):= cond (decide (s.2.2.1<s.2.1)) ((a0q s.1 s.2.2.1).bind fun x3=> (b3O (x3,s.2.2.2.2.2.1.2.1)).bind fun y4=> cond (y4.2 != 0) (some (.inr (Sum.inr ((1,(0,([]:(List (List Int))),()),()))))) (cond (lim ((a02 s.2.2.2.1)+1)) (some (.inl (s.1,s.2.1,wrap .i64 (s.2.2.1+1),a04 s.2.2.2.1 ([y4.1]:List (List Int)),s.2.2.2.2.1,s.2.2.2.2.2.1,()))) none)) (some (.inr (Sum.inl (s.2.2.2.1,s.2.2.2.2.1,s.2.2.2.2.2.1,()))))
def a3O(x:a7E):Option (Z12×Int):= (show Option (Bool×d1C)from(a8b x).bind fun y1=> cond (!y1) (some (true,(0,([]:(List (List Int))),()),x,())) (some ((x.2.2.2.2.1.length:Int) != x.2.2.1.2.1,(0,([]:(List (List Int))),()),x,()))).bind fun z2=> cond z2.1 (some ((0,([]:(List (List Int))),()),1)) (cond ((decide (0≤(z2.2.2.1.2.2.2.2.1.length:Int)))&&(lim (a01 (z2.2.2.1.2.2.2.2.1.length:Int)))) ((a0h a5A (z2.2.2.1.2.2.2.2.1,(z2.2.2.1.2.2.2.2.1.length:Int),0,([]:(List (List Int))),z2.2.1,z2.2.2.1,())).bind fun w5=> match w5 with |.inl a6=>((b3h (a6.1,a6.2.2.1.2.2.2.1)).bind fun y8=> cond (y8.2 != 0) (some ((0,([]:(List (List Int))),()),1)) ((a8z (a6.2.2.1.2.2.1.2.2.1,y8.1,())).bind fun y9=> cond (!y9) (some ((0,([]:(List (List Int))),()),1)) (some ((a6.2.2.1.2.2.1.2.2.1,y8.1,()),0)))) |.inr b7=>some (b7.2.1,b7.1)) none)
def b0K:FSem:=⟨[.v Q49],[.v Q10,.v QI],a3O⟩
def H17:Hints:=⟨[(122,[.sv 30 (.list false Q31),.sv 31 QI,.sv 32 QI,.own 4 4 QL,.box 2 Q10,.vp 1 Q49,.ptr 2 2 []],[(.exit 0,[.own 4 4 QL,.box 2 Q10,.vp 1 Q49,.ptr 2 2 []]),(.ret,[.sv 3 QI,.box 2 Q10,.ptr 2 2 []])])],[(6,[(.normal,[.sv 23 .bool,.box 2 Q10,.vp 1 Q49,.ptr 2 2 []])])],[]⟩
def a5f(x:a7E):Option Bool:= (a3O x).bind fun y1=> some (y1.2==0)
def b7c:FSem:=⟨[.v Q49],[.v .bool],a5f⟩
def H21:Hints:=⟨[],[],[]⟩
def b1p(x:Z96):Option Bool:= (b3O (x.1,x.2)).bind fun y1=> some (y1.2==0)
def c0u:FSem:=⟨[.v Q31,.v QI],[.v .bool],b1p⟩
def e0F:Hints:=⟨[],[],[]⟩
def a3J(s:Z44):Option (Z44 ⊕ Z27):= cond (s.2.1 != 0) (cond (decide (s.1<32)) ((a4K (s.2.1,s.1)).bind fun y2=> cond (!y2) (some (.inl (wrap .i64 (s.1+1),s.2.1,s.2.2.1,s.2.2.2.1,s.2.2.2.2.1,()))) (some (.inr (s.1,s.2.2.1,s.2.2.2.1,s.2.2.2.2.1,())))) (some (.inr (s.1,s.2.2.1,s.2.2.2.1,s.2.2.2.2.1,())))) (some (.inr (s.1,s.2.2.1,s.2.2.2.1,s.2.2.2.2.1,())))
def a6P(s:Z27):Option Z58:= cond (decide (s.2.2.2.1<s.2.2.1)) ((a0q s.2.1 s.2.2.2.1).bind fun x1=> (a0h a3J (s.1,x1,s.2.1,s.2.2.1,s.2.2.2.1,())).bind fun w3=> some (.inl (w3.1,w3.2.1,w3.2.2.1,wrap .i64 (w3.2.2.2.1+1),()))) (some (.inr (s.1,())))
def a1C(x:(List Int)):Option Int:= (a0h a6P (0,x,(x.length:Int),0,())).bind fun w4=> some w4.1
def a3f:FSem:=⟨[.v QL],[.v QI],a1C⟩
def e0G:Hints:=⟨[(58,[.sv 3 QI,.sv 6 QL,.sv 7 QI,.sv 8 QI],[(.exit 0,[.sv 3 QI])]),(7474,[.sv 3 QI,.sv 5 QI,.sv 6 QL,.sv 7 QI,.sv 8 QI],[(.exit 2,[.sv 3 QI,.sv 6 QL,.sv 7 QI,.sv 8 QI])])],[],[]⟩
def a2F(x:(Z6×Int)):Option Z6:= (show Option Z33 from cond ((a22 x.1.2.1 8)==0) (cond (lim ((a02 x.1.1)+1)) (some (x.2,(a04 x.1.1 [0],x.1.2),())) none) (some (x.2,x.1,()))).bind fun z1=> cond ((decide (0≤(wrap .i64 (a17 z1.2.1.2.1 8))))&&(decide ((wrap .i64 (a17 z1.2.1.2.1 8))<(z1.2.1.1.length:Int)))) (cond (decide ((wrap .i64 (7-(a22 z1.2.1.2.1 8)))<0)) none (cond ((decide (0≤(wrap .i64 (a17 z1.2.1.2.1 8))))&&(decide ((wrap .i64 (a17 z1.2.1.2.1 8))<(z1.2.1.1.length:Int)))) (some (a05 z1.2.1.1 (a01 (wrap .i64 (a17 z1.2.1.2.1 8))) (bits .u8 .or (a03 z1.2.1.1 (a01 (wrap .i64 (a17 z1.2.1.2.1 8))) 0) (a0A .u8 z1.1 (wrap .i64 (7-(a22 z1.2.1.2.1 8))))),wrap .i64 (z1.2.1.2.1+1),z1.2.1.2.2)) none)) none
def a6Q:FSem:=⟨[.r false (.b Q5),.v (.int .u8)],[],a2F⟩
def e0H:Hints:=⟨[],[(1,[(.normal,[.sv 1 (.int .u8),.box pinned Q5,.ptr 0 pinned []])])],[(2,[.p,.p,.q,.q,.p,.p,.q,.q,.v,.q,.q,.v,.p,.p,.q,.q,.v,.v,.v,.x,.x,.x])]⟩
def a5a(s:Z49):Option (Z49 ⊕ Z20):= cond (decide (s.2.1≥0)) (cond (decide (s.2.1<0)) none ((a2F (s.2.2.1,wrap .u8 (bits .u64 .and (a0D .u64 s.1 s.2.1) 1))).bind fun y2=> some (.inl (s.1,wrap .i64 (s.2.1-1),y2,())))) (some (.inr (s.2.2.1,())))
def a0m(x:(Z6×Int×Int)):Option Z17:= (show Option (Int×Int×Bool×Z20)from cond (decide (x.2.2<0)) (some (x.2.1,x.2.2,true,x.1,())) (cond (decide (x.2.2 > 64)) (some (x.2.1,x.2.2,true,x.1,())) (cond (decide (x.2.2<0)) none (some (x.2.1,x.2.2,(a0D .u64 x.2.1 x.2.2) != 0,x.1,()))))).bind fun z1=> cond z1.2.2.1 (some (1,z1.2.2.2.1)) ((a0h a5a (z1.1,wrap .i64 (z1.2.1-1),z1.2.2.2.1,())).bind fun w3=> some (0,w3.1))
def a3K:FSem:=⟨[.r false (.b Q5),.v (.int .u64),.v QI],[.v QI],a0m⟩
def e0I:Hints:=⟨[(58,[.sv 1 (.int .u64),.sv 7 QI,.box pinned Q5,.ptr 0 pinned []],[(.exit 0,[.box pinned Q5])])],[(6,[(.normal,[.sv 1 (.int .u64),.sv 2 QI,.sv 19 .bool,.box pinned Q5,.ptr 0 pinned []])])],[]⟩
def a3x(x:(Z6×Int×Int)):Option Z6:= cond (decide (x.2.2<0)) none ((a0m (x.1,bits .u64 .and (wrap .u64 x.2.1) (wrap .u64 ((a0A .u64 1 x.2.2)-1)),x.2.2)).bind fun y1=> some y1.2)
def b1S:FSem:=⟨[.r false (.b Q5),.v QI,.v QI],[],a3x⟩
def e0J:Hints:=⟨[],[],[]⟩
def a6R(s:Z77):Option (Z77 ⊕ Z20):= cond (decide (s.2.2.2.1<s.2.2.1)) ((a0q s.2.1 s.2.2.2.1).bind fun x6=> (a3x (s.2.2.2.2.1,x6,s.1)).bind fun y7=> some (.inl (s.1,s.2.1,s.2.2.1,wrap .i64 (s.2.2.2.1+1),y7,()))) (some (.inr (s.2.2.2.2.1,())))
def a9I(x:(Z6×Z94)):Option Z6:= (a0m (x.1,wrap .u64 (wrap .i64 ((x.2.2.2.2.2.2.1.length:Int)-1)),5)).bind fun y1=> (a0m (y1.2,wrap .u64 x.2.2.2.2.1,4)).bind fun y2=> (a1C x.2.2.2.2.2.2.1).bind fun y3=> (a0m (y2.2,wrap .u64 y3,5)).bind fun y4=> (a0h a6R (y3,x.2.2.2.2.2.2.1,(x.2.2.2.2.2.2.1.length:Int),0,y4.2,())).bind fun w8=> some w8.1
def b7I:FSem:=⟨[.r false (.b Q5),.v Q31],[],a9I⟩
def e0K:Hints:=⟨[(254,[.sv 4 QI,.sv 27 QL,.sv 28 QI,.sv 29 QI,.box pinned Q5,.ptr 0 pinned []],[(.exit 0,[.box pinned Q5])])],[],[]⟩
def b5v(s:Z15):Option Z61:= cond (decide (s.2.2.1<s.2.1)) ((a0q s.1 s.2.2.1).bind fun x3=> (show Option Z32 from cond (decide (x3<(-1073741824))) (some (s.1,s.2.1,s.2.2.1,true,())) (some (s.1,s.2.1,s.2.2.1,decide (x3≥1073741824),()))).bind fun z4=> cond z4.2.2.2.1 (some (.inr (Sum.inr ((false,()))))) (some (.inl (z4.1,z4.2.1,wrap .i64 (z4.2.2.1+1),())))) (some (.inr (Sum.inl ())))
def a8g(x:Z1):Option Bool:= (show Option ((List Int)×(Bool×Unit))from(a8w (x.1,x.2.1)).bind fun y1=> cond (!y1) (some (x.2.2,true,())) (some (x.2.2,(x.2.2.length:Int) != (wrap .i64 (x.1-x.2.1)),()))).bind fun z2=> cond z2.2.1 (some false) ((a0h b5v (z2.1,(z2.1.length:Int),0,())).bind fun w5=> match w5 with |.inl a6=>some true |.inr b7=>some b7.1)
def b4k:FSem:=⟨[.v QI,.v QI,.v QL],[.v .bool],a8g⟩
def e0L:Hints:=⟨[(58,[.sv 21 QL,.sv 22 QI,.sv 23 QI],[(.exit 0,[]),(.ret,[.sv 6 .bool])])],[(6,[(.normal,[.sv 2 QL,.sv 20 .bool])]),(3737,[(.normal,[.sv 21 QL,.sv 22 QI,.sv 23 QI,.sv 32 .bool])])],[]⟩
def a6J(x:(List Int)):Option Int:= (a1C x).bind fun y1=> some (wrap .i64 (5+(wrap .i64 (y1*(x.length:Int)))))
def b7d:FSem:=⟨[.v QL],[.v QI],a6J⟩
def e0M:Hints:=⟨[],[],[]⟩
def a2s(x:Int):Option Bool:= cond (decide (0≤x)) (some (decide (x≤25))) (some false)
def a7J:FSem:=⟨[.v QI],[.v .bool],a2s⟩
def e0N:Hints:=⟨[],[],[]⟩
def a8A(x:Int):Option Bool:= cond (decide ((-1073741824)≤x)) (some (decide (x<1073741824))) (some false)
def b3j:FSem:=⟨[.v QI],[.v .bool],a8A⟩
def e0O:Hints:=⟨[],[],[]⟩
def b0s(x:Int):Option Int:= (a8A x).bind fun y1=> cond (!y1) (some 0) (cond (decide (x≥0)) (some (wrap .u64 (wrap .i64 (2*x)))) (some (wrap .u64 (wrap .i64 ((wrap .i64 ((-2)*x))-1)))))
def b7e:FSem:=⟨[.v QI],[.v (.int .u64)],b0s⟩
def e0P:Hints:=⟨[],[],[]⟩
def a8B(x:(Int×Int)):Option Int:= (show Option Z9 from(a2s x.1).bind fun y1=> cond (!y1) (some (x.1,x.2,true,())) ((a8A x.2).bind fun y2=> some (x.1,x.2,!y2,()))).bind fun z3=> cond z3.2.2.1 (some 0) ((b0s z3.2.1).bind fun y4=> cond (decide (z3.1<0)) none (cond (decide ((wrap .i64 (a0D .u64 y4 z3.1))<32)) (some (wrap .i64 ((wrap .i64 ((wrap .i64 (a0D .u64 y4 z3.1))+1))+z3.1))) (some 65)))
def c1E:FSem:=⟨[.v QI,.v QI],[.v QI],a8B⟩
def e0Q:Hints:=⟨[],[(6,[(.normal,[.sv 0 QI,.sv 1 QI,.sv 13 .bool])])],[]⟩
def a4L(s:Z44):Option (Z44 ⊕ (Int×Unit)):= cond (decide (s.2.2.2.2.1<s.2.2.2.1)) ((a0q s.2.2.1 s.2.2.2.2.1).bind fun x1=> (a8B (s.1,x1)).bind fun y2=> some (.inl (s.1,wrap .i64 (s.2.1+y2),s.2.2.1,s.2.2.2.1,wrap .i64 (s.2.2.2.2.1+1),()))) (some (.inr (s.2.1,())))
def a4m(x:(Int×(List Int))):Option Int:= (a0h a4L (x.1,0,x.2,(x.2.length:Int),0,())).bind fun w3=> some w3.1
def b4C:FSem:=⟨[.v QI,.v QL],[.v QI],a4m⟩
def e0R:Hints:=⟨[(58,[.sv 0 QI,.sv 5 QI,.sv 8 QL,.sv 9 QI,.sv 10 QI],[(.exit 0,[.sv 5 QI])])],[],[]⟩
def a1F(s:((List Int)×(Int×(Int×(Int×((List Int)×Z19)))))):Option (((List Int)×(Int×(Int×(Int×((List Int)×Z19))))) ⊕ (Int×Unit)):= cond (decide (s.2.2.2.1<s.2.2.1)) (cond ((decide (0≤s.2.2.2.1))&&(decide (s.2.2.2.1<(s.2.2.2.2.1.length:Int)))) (cond ((decide (0≤(a03 s.2.2.2.2.1 (a01 s.2.2.2.1) 0)))&&(decide ((a03 s.2.2.2.2.1 (a01 s.2.2.2.1) 0)≤(s.1.length:Int)))) (cond ((decide (0≤(a03 s.2.2.2.2.1 (a01 s.2.2.2.1) 0)))&&(decide ((a03 s.2.2.2.2.1 (a01 s.2.2.2.1) 0)≤(s.1.length:Int)))) ((a0q s.2.2.2.2.2.1.2.1 s.2.2.2.1).bind fun x5=> cond (x5==31) ((a6J (a07 (a01 (a03 s.2.2.2.2.1 (a01 s.2.2.2.1) 0)) s.1)).bind fun y6=> some (.inl (a29 (a01 (a03 s.2.2.2.2.1 (a01 s.2.2.2.1) 0)) (a07 (a02 s.1) s.1),wrap .i64 (s.2.1+(wrap .i64 (5+y6))),s.2.2.1,wrap .i64 (s.2.2.2.1+1),s.2.2.2.2.1,s.2.2.2.2.2.1,()))) ((a0q s.2.2.2.2.2.1.2.1 s.2.2.2.1).bind fun x7=> (a4m (x7,a07 (a01 (a03 s.2.2.2.2.1 (a01 s.2.2.2.1) 0)) s.1)).bind fun y8=> some (.inl (a29 (a01 (a03 s.2.2.2.2.1 (a01 s.2.2.2.1) 0)) (a07 (a02 s.1) s.1),wrap .i64 (s.2.1+(wrap .i64 (5+y8))),s.2.2.1,wrap .i64 (s.2.2.2.1+1),s.2.2.2.2.1,s.2.2.2.2.2.1,())))) none) none) none) (some (.inr (s.2.1,())))
def a5B(x:(Z5×Z1)):Option Int:= (show Option (Int×(Int×((List Int)×(Bool×Z19))))from(b0n (x.1,x.2.1,x.2.2.1)).bind fun y1=> cond (!y1) (some (x.2.1,x.2.2.1,x.2.2.2,true,x.1,())) ((a8g (x.2.1,x.2.2.1,x.2.2.2)).bind fun y2=> some (x.2.1,x.2.2.1,x.2.2.2,!y2,x.1,()))).bind fun z3=> cond z3.2.2.2.1 (some 0) ((a3N (z3.2.2.2.2.1.1,z3.1,z3.2.1)).bind fun y4=> (a0h a1F (z3.2.2.1,4,(y4.length:Int),0,y4,z3.2.2.2.2.1,())).bind fun w9=> some w9.1)
def b5w:FSem:=⟨[.v Q7,.v QI,.v QI,.v QL],[.v QI],a5B⟩
def e0S:Hints:=⟨[(122,[.sv 3 QL,.sv 9 QI,.sv 30 QI,.sv 31 QI,.own 29 1029 QI,.vp 4 Q7],[(.exit 0,[.sv 9 QI])])],[(6,[(.normal,[.sv 1 QI,.sv 2 QI,.sv 3 QL,.sv 24 .bool,.vp 4 Q7])])],[]⟩
def a4n(s:Z49):Option (Z49 ⊕ Z20):= cond (decide (s.2.1<s.1)) ((a2F (s.2.2.1,0)).bind fun y2=> some (.inl (s.1,wrap .i64 (s.2.1+1),y2,()))) (some (.inr (s.2.2.1,())))
def a2U(x:(Z6×Int)):Option Z17:= (show Option (Int×Bool×Z20)from cond (decide (x.2<0)) (some (x.2,true,x.1,())) (some (x.2,decide (x.2 > 4096),x.1,()))).bind fun z1=> cond z1.2.1 (some (1,z1.2.2.1)) ((a0h a4n (z1.1,0,z1.2.2.1,())).bind fun w3=> (a2F (w3.1,1)).bind fun y4=> some (0,y4))
def b2r:FSem:=⟨[.r false (.b Q5),.v QI],[.v QI],a2U⟩
def e0T:Hints:=⟨[(58,[.sv 11 QI,.sv 12 QI,.box pinned Q5,.ptr 0 pinned []],[(.exit 0,[.box pinned Q5,.ptr 0 pinned []])])],[(6,[(.normal,[.sv 1 QI,.sv 10 .bool,.box pinned Q5,.ptr 0 pinned []])])],[]⟩
def b0L(s:(Int×((List Int)×Z69))):Option ((Int×((List Int)×Z69)) ⊕ ((Int×((List Int)×Z20)) ⊕ Z33)):= cond (decide (s.2.2.2.2.1<s.2.2.2.1)) ((a0q s.2.2.1 s.2.2.2.2.1).bind fun x2=> (a8A x2).bind fun y3=> cond (!y3) (some (.inr (Sum.inr ((1,s.2.2.2.2.2.1,()))))) (some (.inl (s.1,s.2.1,s.2.2.1,s.2.2.2.1,wrap .i64 (s.2.2.2.2.1+1),s.2.2.2.2.2.1,())))) (some (.inr (Sum.inl (s.1,s.2.1,s.2.2.2.2.2.1,()))))
def a8h(s:Z77):Option (Z77 ⊕ Z20):= cond (decide (s.2.2.2.1<s.2.2.1)) ((a0q s.2.1 s.2.2.2.1).bind fun x7=> (b0s x7).bind fun y8=> cond (decide (s.1<0)) none (cond (decide ((a0D .u64 y8 s.1)<32)) ((a2U (s.2.2.2.2.1,wrap .i64 (a0D .u64 y8 s.1))).bind fun y9=> cond (decide (s.1<0)) none ((a0m (y9.2,wrap .u64 (y8-(a0A .u64 (a0D .u64 y8 s.1) s.1)),s.1)).bind fun y10=> some (.inl (s.1,s.2.1,s.2.2.1,wrap .i64 (s.2.2.2.1+1),y10.2,())))) ((a2U (s.2.2.2.2.1,32)).bind fun y11=> (a0m (y11.2,y8,32)).bind fun y12=> some (.inl (s.1,s.2.1,s.2.2.1,wrap .i64 (s.2.2.2.1+1),y12.2,()))))) (some (.inr (s.2.2.2.2.1,())))
def b4D(x:(Z6×(Int×(List Int)))):Option Z17:= (a2s x.2.1).bind fun y1=> cond (!y1) (some (1,x.1)) ((a0h b0L (x.2.1,x.2.2,x.2.2,(x.2.2.length:Int),0,x.1,())).bind fun w4=> match w4 with |.inl a5=>((a0h a8h (a5.1,a5.2.1,(a5.2.1.length:Int),0,a5.2.2.1,())).bind fun w13=> some (0,w13.1)) |.inr b6=>some (b6.1,b6.2.1))
def c3B:FSem:=⟨[.r false (.b Q5),.v QI,.v QL],[.v QI],b4D⟩
def e0U:Hints:=⟨[(58,[.sv 1 QI,.sv 2 QL,.sv 16 QL,.sv 17 QI,.sv 18 QI,.box pinned Q5,.ptr 0 pinned []],[(.exit 0,[.sv 1 QI,.sv 2 QL,.box pinned Q5,.ptr 0 pinned []]),(.ret,[.sv 6 QI,.box pinned Q5])]),(122,[.sv 1 QI,.sv 26 QL,.sv 27 QI,.sv 28 QI,.box pinned Q5,.ptr 0 pinned []],[(.exit 2,[.box pinned Q5])])],[],[]⟩
def a9J(s:((List Int)×(Int×Int×Int×Z88))):Option (((List Int)×(Int×Int×Int×Z88)) ⊕ Z88):= cond (decide (s.2.2.2.2.2.2.1<s.2.2.2.2.2.1)) ((a0q s.2.2.2.2.1 s.2.2.2.2.2.2.1).bind fun x11=> cond (decide (s.2.1<0)) none ((a0m (s.2.2.2.2.2.2.2.2.1,bits .u64 .and (wrap .u64 x11) (wrap .u64 ((a0A .u64 1 s.2.1)-1)),s.2.1)).bind fun y12=> some (.inl (s.1,s.2.1,s.2.2.1,s.2.2.2.1,s.2.2.2.2.1,s.2.2.2.2.2.1,wrap .i64 (s.2.2.2.2.2.2.1+1),s.2.2.2.2.2.2.2.1,y12.2,s.2.2.2.2.2.2.2.2.2.1,())))) (some (.inr (s.1,s.2.2.1,s.2.2.2.1,s.2.2.2.2.2.2.2.1,s.2.2.2.2.2.2.2.2.1,s.2.2.2.2.2.2.2.2.2.1,())))
def a5u(s:Z88):Option (Z88 ⊕ Z20):= cond (decide (s.2.2.1<s.2.1)) (cond ((decide (0≤s.2.2.1))&&(decide (s.2.2.1<(s.2.2.2.1.length:Int)))) (cond ((decide (0≤(a03 s.2.2.2.1 (a01 s.2.2.1) 0)))&&(decide ((a03 s.2.2.2.1 (a01 s.2.2.1) 0)≤(s.1.length:Int)))) (cond ((decide (0≤(a03 s.2.2.2.1 (a01 s.2.2.1) 0)))&&(decide ((a03 s.2.2.2.1 (a01 s.2.2.1) 0)≤(s.1.length:Int)))) ((a0q s.2.2.2.2.2.1.2.1 s.2.2.1).bind fun x4=> (a0m (s.2.2.2.2.1,wrap .u64 x4,5)).bind fun y5=> (a0q s.2.2.2.2.2.1.2.1 s.2.2.1).bind fun x6=> cond (x6 != 31) ((a0q s.2.2.2.2.2.1.2.1 s.2.2.1).bind fun x7=> (b4D (y5.2,x7,a07 (a01 (a03 s.2.2.2.1 (a01 s.2.2.1) 0)) s.1)).bind fun y8=> some (.inl (a29 (a01 (a03 s.2.2.2.1 (a01 s.2.2.1) 0)) (a07 (a02 s.1) s.1),s.2.1,wrap .i64 (s.2.2.1+1),s.2.2.2.1,y8.2,s.2.2.2.2.2.1,()))) ((a1C (a07 (a01 (a03 s.2.2.2.1 (a01 s.2.2.1) 0)) s.1)).bind fun y9=> (a0m (y5.2,wrap .u64 y9,5)).bind fun y10=> (a0h a9J (a29 (a01 (a03 s.2.2.2.1 (a01 s.2.2.1) 0)) (a07 (a02 s.1) s.1),y9,s.2.1,s.2.2.1,a07 (a01 (a03 s.2.2.2.1 (a01 s.2.2.1) 0)) s.1,((a02 (a07 (a01 (a03 s.2.2.2.1 (a01 s.2.2.1) 0)) s.1):Nat):Int),0,s.2.2.2.1,y10.2,s.2.2.2.2.2.1,())).bind fun w13=> some (.inl (w13.1,w13.2.1,wrap .i64 (w13.2.2.1+1),w13.2.2.2.1,w13.2.2.2.2.1,w13.2.2.2.2.2.1,())))) none) none) none) (some (.inr (s.2.2.2.2.1,())))
def b3k(x:(Z6×Z5×Z1)):Option Z17:= (a5B (x.2.1,x.2.2.1,x.2.2.2.1,x.2.2.2.2)).bind fun y1=> cond (y1==0) (some (1,x.1)) ((a0m (x.1,wrap .u64 x.2.1.1,4)).bind fun y2=> (a3N (x.2.1.1,x.2.2.1,x.2.2.2.1)).bind fun y3=> (a0h a5u (x.2.2.2.2,(y3.length:Int),0,y3,y2.2,x.2.1,())).bind fun w14=> some (0,w14.1))
def c1F:FSem:=⟨[.r false (.b Q5),.v Q7,.v QI,.v QI,.v QL],[.v QI],b3k⟩
def e0V:Hints:=⟨[(122,[.sv 4 QL,.sv 33 QI,.sv 34 QI,.own 32 1032 QI,.box pinned Q5,.ptr 0 pinned [],.vp 6 Q7],[(.exit 0,[.box pinned Q5])]),(2005502,[.sv 4 QL,.sv 14 QI,.sv 33 QI,.sv 34 QI,.sv 73 QL,.sv 74 QI,.sv 75 QI,.own 32 1032 QI,.box pinned Q5,.ptr 0 pinned [],.vp 6 Q7],[(.exit 2,[.sv 4 QL,.sv 33 QI,.sv 34 QI,.own 32 1032 QI,.box pinned Q5,.ptr 0 pinned [],.vp 6 Q7])])],[],[]⟩
def b1T(s:(Int×(Int×((List Int)×d1A)))):Option ((Int×(Int×((List Int)×d1A))) ⊕ b6X):= cond (decide (s.2.2.2.1<3)) ((a0q s.2.2.1 s.2.2.2.1).bind fun x8=> (a3x (s.2.2.2.2.1,x8,8)).bind fun y9=> some (.inl (s.1,s.2.1,s.2.2.1,wrap .i64 (s.2.2.2.1+1),y9,s.2.2.2.2.2.1,()))) (some (.inr (s.1,s.2.1,s.2.2.2.2.1,s.2.2.2.2.2.1,())))
def b1U(s:(Int×Int×Z4×b6X)):Option ((Int×Int×Z4×b6X) ⊕ b6X):= cond (decide (s.2.2.2.2.1<s.2.2.2.1)) ((a0q s.2.2.1 s.2.2.2.2.1).bind fun x18=> (a0m (s.2.2.2.2.2.1,wrap .u64 (wrap .i64 (x18.1-1)),5)).bind fun y19=> (a0m (y19.2,wrap .u64 x18.2.1,4)).bind fun y20=> some (.inl (s.1,s.2.1,s.2.2.1,s.2.2.2.1,wrap .i64 (s.2.2.2.2.1+1),y20.2,s.2.2.2.2.2.2.1,()))) (some (.inr (s.1,s.2.1,s.2.2.2.2.2.1,s.2.2.2.2.2.2.1,())))
def b1V(s:(Int×(Int×((List Int)×b6X)))):Option ((Int×(Int×((List Int)×b6X))) ⊕ d1A):= cond (decide (s.2.2.2.2.1<s.2.2.2.1)) ((a0q s.2.2.1 s.2.2.2.2.1).bind fun x23=> (a3x (s.2.2.2.2.2.1,x23,s.2.1)).bind fun y24=> some (.inl (s.1,s.2.1,s.2.2.1,s.2.2.2.1,wrap .i64 (s.2.2.2.2.1+1),y24,s.2.2.2.2.2.2.1,()))) (some (.inr (s.1,s.2.2.2.2.2.1,s.2.2.2.2.2.2.1,())))
def b1q(x:(Z6×Z96)):Option Z17:= (b1p (x.2.1,x.2.2)).bind fun y1=> cond (!y1) (some (1,x.1)) ((a1C x.2.1.2.2.2.2.2.2.2.2.1).bind fun y2=> (a0m (x.1,wrap .u64 x.2.1.1,3)).bind fun y3=> (a0m (y3.2,wrap .u64 x.2.1.2.1,5)).bind fun y4=> (a0m (y4.2,wrap .u64 y2,5)).bind fun y5=> (show Option b6X from(show Option (b6X ⊕ (b6X ⊕ b6X))from cond (x.2.1.1==2) ((a0m (y5.2,wrap .u64 x.2.1.2.2.1,3)).bind fun y6=> some (Sum.inr (Sum.inl (x.2.2,y2,y6.2,x.2.1,())))) (cond (x.2.1.1==4) ((a0m (y5.2,wrap .u64 (wrap .i64 (x.2.1.2.2.2.2.1-1)),10)).bind fun y7=> (a0h b1T (x.2.2,y2,x.2.1.2.2.2.2.2.2.1,0,y7.2,x.2.1,())).bind fun w10=> some (Sum.inl (w10.1,w10.2.1,w10.2.2.1,w10.2.2.2.1,()))) (cond (x.2.1.1==3) (some (Sum.inl (x.2.2,y2,y5.2,x.2.1,()))) (cond (x.2.1.1==5) (some (Sum.inr (Sum.inr ((x.2.2,y2,y5.2,x.2.1,()))))) (some (Sum.inr (Sum.inl (x.2.2,y2,y5.2,x.2.1,())))))))).bind fun z11=> match z11 with |.inl a12=>((a9I (a12.2.2.1,a12.2.2.2.1)).bind fun y14=> some (a12.1,a12.2.1,y14,a12.2.2.2.1,())) |.inr b13=>(match b13 with |.inl a15=>some (a15.1,a15.2.1,a15.2.2.1,a15.2.2.2.1,()) |.inr b16=>((a0m (b16.2.2.1,wrap .u64 (b16.2.2.2.1.2.2.2.2.2.2.2.1.length:Int),2)).bind fun y17=> (a0h b1U (b16.1,b16.2.1,b16.2.2.2.1.2.2.2.2.2.2.2.1,(b16.2.2.2.1.2.2.2.2.2.2.2.1.length:Int),0,y17.2,b16.2.2.2.1,())).bind fun w21=> some (w21.1,w21.2.1,w21.2.2.1,w21.2.2.2.1,())))).bind fun z22=> (a0h b1V (z22.1,z22.2.1,z22.2.2.2.1.2.2.2.2.2.2.2.2.1,(z22.2.2.2.1.2.2.2.2.2.2.2.2.1.length:Int),0,z22.2.2.1,z22.2.2.2.1,())).bind fun w25=> (a7d w25.2.2.1.1).bind fun y26=> cond (!y26) (some (0,w25.2.1)) ((b3k (w25.2.1,w25.2.2.1.2.2.2.2.2.2.2.2.2.1,w25.1,(w25.2.2.1.2.2.2.2.2.2.2.2.1.length:Int),w25.2.2.1.2.2.2.2.2.2.2.2.2.2.1)).bind fun y27=> some (y27.1,y27.2)))
def c0v:FSem:=⟨[.r false (.b Q5),.v Q31,.v QI],[.v QI],b1q⟩
def H51:Hints:=⟨[(2042,[.sv 2 QI,.sv 7 QI,.sv 94 QL,.sv 95 QI,.sv 96 QI,.box pinned Q5,.ptr 0 pinned [],.vp 4 Q31],[(.exit 9,[.sv 2 QI,.box pinned Q5,.ptr 0 pinned [],.vp 4 Q31])]),(32598,[.sv 2 QI,.sv 7 QI,.sv 75 (.list false Q3),.sv 76 QI,.sv 77 QI,.box pinned Q5,.ptr 0 pinned [],.vp 4 Q31],[(.exit 7,[.sv 2 QI,.sv 7 QI,.box pinned Q5,.ptr 0 pinned [],.vp 4 Q31])]),(260622,[.sv 2 QI,.sv 7 QI,.sv 57 (.arr 3 QI),.sv 58 QI,.box pinned Q5,.ptr 0 pinned [],.vp 4 Q31],[(.exit 5,[.sv 2 QI,.sv 7 QI,.box pinned Q5,.ptr 0 pinned [],.vp 4 Q31])])],[(127,[(.normal,[.sv 2 QI,.sv 7 QI,.box pinned Q5,.ptr 0 pinned [],.vp 4 Q31])]),(4072,[(.normal,[.sv 2 QI,.sv 7 QI,.box pinned Q5,.ptr 0 pinned [],.vp 4 Q31]),(.exit 0,[.sv 2 QI,.sv 7 QI,.box pinned Q5,.ptr 0 pinned [],.vp 4 Q31]),(.exit 4,[.sv 2 QI,.sv 7 QI,.box pinned Q5,.ptr 0 pinned [],.vp 4 Q31])])],[]⟩
def a4o(s:Z20):Option (Z20 ⊕ Z20):= cond ((a22 s.1.2.1 8) != 0) ((a2F (s.1,0)).bind fun y2=> some (.inl (y2,()))) (some (.inr (s.1,())))
def a5M(x:Z6):Option Z6:= (a0h a4o (x,())).bind fun w3=> some w3.1
def b2t:FSem:=⟨[.r false (.b Q5)],[],a5M⟩
def H52:Hints:=⟨[(2,[.box pinned Q5,.ptr 0 pinned []],[(.exit 0,[.box pinned Q5])])],[],[]⟩
def a5N(x:Z6):Option ((List Int)×Z6):= cond (lim (a02 x.1)) (some (x.1,x)) none
def b2u:FSem:=⟨[.r false (.b Q5)],[.o (.int .u8)],a5N⟩
def H53:Hints:=⟨[],[],[]⟩
def b3l(x:Int):Option Int:= cond (decide (x≥0)) (some (wrap .u64 (2*(wrap .u64 x)))) (some (wrap .u64 ((wrap .u64 (2*(wrap .u64 (wrap .i64 (0-(wrap .i64 (x+1)))))))+1)))
def c1G:FSem:=⟨[.v QI],[.v (.int .u64)],b3l⟩
def e0W:Hints:=⟨[],[],[]⟩
def a9K(s:Z53):Option (Z53 ⊕ Z53):= cond (decide (s.1≥128)) (cond (lim ((a02 s.2.2.2.2.1)+1)) (some (.inl (wrap .u64 (a17 s.1 128),s.2.1,s.2.2.1,s.2.2.2.1,a04 s.2.2.2.2.1 [wrap .u8 ((wrap .u8 (a22 s.1 128))+128)],()))) none) (some (.inr (s.1,s.2.1,s.2.2.1,s.2.2.2.1,s.2.2.2.2.1,())))
def a9L(s:Z37):Option (Z37 ⊕ ((List Int)×Unit)):= cond (decide (s.2.2.1<s.2.1)) ((a0q s.1 s.2.2.1).bind fun x1=> (a0h a9K (x1,s.1,s.2.1,s.2.2.1,s.2.2.2.1,())).bind fun w2=> cond (lim ((a02 w2.2.2.2.2.1)+1)) (some (.inl (w2.2.1,w2.2.2.1,wrap .i64 (w2.2.2.2.1+1),a04 w2.2.2.2.2.1 [wrap .u8 w2.1],()))) none) (some (.inr (s.2.2.2.1,())))
def b3m(x:(List Int)):Option (List Int):= (a0h a9L (x,(x.length:Int),0,[],())).bind fun w3=> some w3.1
def c1H:FSem:=⟨[.v (.list false (.int .u64))],[.o (.int .u8)],b3m⟩
def e0X:Hints:=⟨[(58,[.sv 6 (.list false (.int .u64)),.sv 7 QI,.sv 8 QI,.own 3 3 (.int .u8)],[(.exit 0,[.own 3 3 (.int .u8)])]),(14948,[.sv 5 (.int .u64),.sv 6 (.list false (.int .u64)),.sv 7 QI,.sv 8 QI,.own 3 3 (.int .u8)],[(.exit 2,[.sv 5 (.int .u64),.sv 6 (.list false (.int .u64)),.sv 7 QI,.sv 8 QI,.own 3 3 (.int .u8)])])],[],[]⟩
def b1W(s:Z47):Option (Z47 ⊕ Z27):= cond (decide (s.2.2.2.2.1<8)) (cond ((a0D .u8 s.1 7)==1) (some (.inl (bits .u8 .xor (a0A .u8 s.1 1) 7,s.2.1,s.2.2.1,s.2.2.2.1,wrap .i64 (s.2.2.2.2.1+1),()))) (some (.inl (a0A .u8 s.1 1,s.2.1,s.2.2.1,s.2.2.2.1,wrap .i64 (s.2.2.2.2.1+1),())))) (some (.inr (s.1,s.2.1,s.2.2.1,s.2.2.2.1,())))
def a8P(s:Z27):Option Z58:= cond (decide (s.2.2.2.1<s.2.2.1)) ((a0q s.2.1 s.2.2.2.1).bind fun x1=> (a0h b1W (bits .u8 .xor s.1 x1,s.2.1,s.2.2.1,s.2.2.2.1,0,())).bind fun w2=> some (.inl (w2.1,w2.2.1,w2.2.2.1,wrap .i64 (w2.2.2.2.1+1),()))) (some (.inr (s.1,())))
def a9l(x:(List Int)):Option Int:= (a0h a8P (0,x,(x.length:Int),0,())).bind fun w3=> some w3.1
def b5x:FSem:=⟨[.v (.list false (.int .u8))],[.v (.int .u8)],a9l⟩
def e0Y:Hints:=⟨[(58,[.sv 3 (.int .u8),.sv 7 (.list false (.int .u8)),.sv 8 QI,.sv 9 QI],[(.exit 0,[.sv 3 (.int .u8)])]),(29902,[.sv 3 (.int .u8),.sv 7 (.list false (.int .u8)),.sv 8 QI,.sv 9 QI,.sv 16 QI],[(.exit 2,[.sv 3 (.int .u8),.sv 7 (.list false (.int .u8)),.sv 8 QI,.sv 9 QI])])],[],[]⟩
def a6p(s:(Int×Z14×Z16)):Option ((Int×Z14×Z16) ⊕ Z5):= cond (decide (s.2.2.2.1<s.2.2.1)) ((a0q s.2.1 s.2.2.2.1).bind fun x1=> (b3l x1.2.2.1).bind fun y2=> cond (lim ((a02 s.2.2.2.2.1)+3)) (some (.inl (s.1,s.2.1,s.2.2.1,wrap .i64 (s.2.2.2.1+1),a04 s.2.2.2.2.1 [wrap .u64 x1.1,wrap .u64 x1.2.1,y2],()))) none) (some (.inr (s.1,s.2.2.2.2.1,())))
def a8Q(x:(a7E×Int)):Option (List Int):= (a0h a6p (x.2,x.1.2.2.2.1,(x.1.2.2.2.1.length:Int),0,([wrap .u64 x.1.1,wrap .u64 x.1.2.1,wrap .u64 x.1.2.2.1.1,wrap .u64 x.1.2.2.1.2.1,wrap .u64 x.1.2.2.1.2.2.1,wrap .u64 (x.1.2.2.2.1.length:Int)]:List Int),())).bind fun w3=> cond (lim ((a02 w3.2.1)+1)) ((b3m (a04 w3.2.1 [wrap .u64 w3.1])).bind fun y4=> cond (lim (2+(a02 y4))) ((a9l (a04 [245,75] y4)).bind fun y5=> cond (lim ((a02 (a04 [245,75] y4))+1)) (some (a04 (a04 [245,75] y4) [y5])) none) none) none
def b6n:FSem:=⟨[.v Q49,.v QI],[.o (.int .u8)],a8Q⟩
def H54:Hints:=⟨[(58,[.sv 1 QI,.sv 33 (.list false Q8),.sv 34 QI,.sv 35 QI,.own 5 5 (.int .u64)],[(.exit 0,[.sv 1 QI,.own 5 5 (.int .u64)])])],[],[(5,[.q,.q,.q,.v,.q,.q,.v,.q,.q,.v,.q,.x,.x])]⟩
def b4l(x:Int):Option Int:= some (a4d (a2y x 0) 8)
def b9t:FSem:=⟨[.v QI],[.v QI],b4l⟩
def e0Z:Hints:=⟨[],[],[]⟩
def a5C(s:Z30):Option (Z30 ⊕ ((List Int)×Unit)):= cond (decide (s.2.2.1<s.2.1)) (cond (lim ((a02 s.2.2.2.1)+1)) (some (.inl (wrap .u64 (a17 s.1 256),s.2.1,wrap .i64 (s.2.2.1+1),a04 s.2.2.2.1 [wrap .u8 (a22 s.1 256)],()))) none) (some (.inr (s.2.2.2.1,())))
def b0M(x:(Int×Int)):Option (List Int):= (b4l x.2).bind fun y1=> (a0h a5C (x.1,y1,0,[],())).bind fun w2=> some w2.1
def b9u:FSem:=⟨[.v (.int .u64),.v QI],[.o (.int .u8)],b0M⟩
def e1a:Hints:=⟨[(58,[.sv 0 (.int .u64),.sv 7 QI,.sv 8 QI,.own 5 5 (.int .u8)],[(.exit 0,[.own 5 5 (.int .u8)])])],[],[]⟩
def a3R(x:(List Int)):Option (List Int):= cond (decide (a02 x<2147483648)) (some (List.reverse x)) none
def a6O:FSem:=⟨[.r false (.o (.int .u8))],[],a3R⟩
def b3n(x:(Int×Int)):Option (List Int):= (b0M (x.1,x.2)).bind fun y1=> (a3R y1).bind fun y2=> some y2
def c1I:FSem:=⟨[.v (.int .u64),.v QI],[.o (.int .u8)],b3n⟩
def H55:Hints:=⟨[],[],[]⟩
def b0a(s:Z47):Option (Z47 ⊕ Z27):= cond (decide (s.2.2.2.2.1<8)) (cond ((a0D .u16 s.1 15)==1) (some (.inl (bits .u16 .xor (a0A .u16 s.1 1) 32773,s.2.1,s.2.2.1,s.2.2.2.1,wrap .i64 (s.2.2.2.2.1+1),()))) (some (.inl (a0A .u16 s.1 1,s.2.1,s.2.2.1,s.2.2.2.1,wrap .i64 (s.2.2.2.2.1+1),())))) (some (.inr (s.1,s.2.1,s.2.2.1,s.2.2.2.1,())))
def a6S(s:Z27):Option Z58:= cond (decide (s.2.2.2.1<s.2.2.1)) ((a0q s.2.1 s.2.2.2.1).bind fun x1=> (a0h b0a (bits .u16 .xor s.1 (a0A .u16 (wrap .u16 x1) 8),s.2.1,s.2.2.1,s.2.2.2.1,0,())).bind fun w2=> some (.inl (w2.1,w2.2.1,w2.2.2.1,wrap .i64 (w2.2.2.2.1+1),()))) (some (.inr (s.1,())))
def a7h(x:(List Int)):Option Int:= (a0h a6S (0,x,(x.length:Int),0,())).bind fun w3=> some w3.1
def b2J:FSem:=⟨[.v (.list false (.int .u8))],[.v (.int .u16)],a7h⟩
def H56:Hints:=⟨[(58,[.sv 3 (.int .u16),.sv 7 (.list false (.int .u8)),.sv 8 QI,.sv 9 QI],[(.exit 0,[.sv 3 (.int .u16)])]),(29902,[.sv 3 (.int .u16),.sv 7 (.list false (.int .u8)),.sv 8 QI,.sv 9 QI,.sv 18 QI],[(.exit 2,[.sv 3 (.int .u16),.sv 7 (.list false (.int .u8)),.sv 8 QI,.sv 9 QI])])],[],[]⟩
def a9M(s:(Z95×Int×Int×Z6×c0o)):Option ((Z95×Int×Int×Z6×c0o) ⊕ ((Z6×c0o) ⊕ Z5)):= cond (decide (s.2.2.1<s.2.1)) ((a0q s.1 s.2.2.1).bind fun x2=> (b1q (s.2.2.2.1,x2,s.2.2.2.2.1.2.1)).bind fun y3=> cond (y3.1 != 0) (some (.inr (Sum.inr ((y3.1,[],()))))) (some (.inl (s.1,s.2.1,wrap .i64 (s.2.2.1+1),y3.2,s.2.2.2.2.1,())))) (some (.inr (Sum.inl (s.2.2.2.1,s.2.2.2.2.1,()))))
def a5g(x:a7E):Option ((List Int)×Int):= (a5f x).bind fun y1=> cond (!y1) (some ([],1)) ((a0h a9M (x.2.2.2.2.1,(x.2.2.2.2.1.length:Int),0,([],0,()),x,())).bind fun w4=> match w4 with |.inl a5=>((a5M a5.1).bind fun y7=> (a5N y7).bind fun y8=> (a8Q (a5.2.1,(y8.1.length:Int))).bind fun y9=> cond (lim ((a02 y9)+(a02 y8.1))) ((a7h (a04 y9 y8.1)).bind fun y10=> (b3n (wrap .u64 y10,2)).bind fun y11=> cond (lim ((a02 (a04 y9 y8.1))+(a02 y11))) (some (a04 (a04 y9 y8.1) y11,0)) none) none) |.inr b6=>some (b6.2.1,b6.1))
def b7f:FSem:=⟨[.v Q49],[.o (.int .u8),.v QI],a5g⟩
def H19:Hints:=⟨[(122,[.sv 14 (.list false Q31),.sv 15 QI,.sv 16 QI,.box 4 Q5,.vp 1 Q49,.ptr 4 4 []],[(.exit 0,[.box 4 Q5,.vp 1 Q49,.ptr 4 4 []]),(.ret,[.sv 3 QI,.own 2 2 (.int .u8)])])],[],[]⟩
def a5D(s:((List Int)×Z6)):Option (((List Int)×Z6) ⊕ Z0):= cond (decide (s.2.2.1<(s.1.length:Int))) ((a0q s.1 s.2.2.1).bind fun x1=> (a0q s.2.1 s.2.2.1).bind fun x2=> cond (x1 != x2) (some (.inr (Sum.inr ((false,()))))) (some (.inl (s.1,s.2.1,wrap .i64 (s.2.2.1+1),())))) (some (.inr (Sum.inl ())))
def a3P(x:((List Int)×(List Int))):Option Bool:= cond ((x.1.length:Int) != (x.2.length:Int)) (some false) ((a0h a5D (x.1,x.2,0,())).bind fun w3=> match w3 with |.inl a4=>some true |.inr b5=>some b5.1)
def b0N:FSem:=⟨[.v QL,.v QL],[.v .bool],a3P⟩
def H88:Hints:=⟨[(58,[.sv 0 QL,.sv 1 QL,.sv 5 QI],[(.exit 0,[]),(.ret,[.sv 4 .bool])])],[],[(6,[.v,.v,.v,.v,.v,.v,.v,.v,.x])]⟩
def a6T(s:((List (List Int))×Z13)):Option (((List (List Int))×Z13) ⊕ Z0):= cond (decide (s.2.2.1<(s.1.length:Int))) ((a0q s.1 s.2.2.1).bind fun x1=> (a0q s.2.1 s.2.2.1).bind fun x2=> (a3P (x1,x2)).bind fun y3=> cond (!y3) (some (.inr (Sum.inr ((false,()))))) (some (.inl (s.1,s.2.1,wrap .i64 (s.2.2.1+1),())))) (some (.inr (Sum.inl ())))
def a9N(x:((List (List Int))×(List (List Int)))):Option Bool:= cond ((x.1.length:Int) != (x.2.length:Int)) (some false) ((a0h a6T (x.1,x.2,0,())).bind fun w4=> match w4 with |.inl a5=>some true |.inr b6=>some b6.1)
def b7J:FSem:=⟨[.v (.list false QL),.v (.list false QL)],[.v .bool],a9N⟩
def H64:Hints:=⟨[(58,[.sv 0 (.list false QL),.sv 1 (.list false QL),.sv 5 QI],[(.exit 0,[]),(.ret,[.sv 4 .bool])])],[],[(6,[.v,.v,.v,.v,.v,.v,.v,.v,.x,.x])]⟩
def a6q(x:(Z12×Z12)):Option Bool:= cond (x.1.1==x.2.1) ((a9N (x.1.2.1,x.2.2.1)).bind fun y1=> some y1) (some false)
def b1X:FSem:=⟨[.v Q10,.v Q10],[.v .bool],a6q⟩
def H23:Hints:=⟨[],[],[]⟩
def b3o(x:(List Int)):Option Z15:= cond (lim (a02 x)) (some (x,0,0,())) none
def c1J:FSem:=⟨[.v (.list false (.int .u8))],[.b Q11],b3o⟩
def e1b:Hints:=⟨[],[],[]⟩
def a6U(s:Z27):Option (Z27 ⊕ (Unit ⊕ Z7)):= cond (decide (s.2.2.2.1<s.2.2.1)) ((a0q s.2.1 s.2.2.2.1).bind fun x1=> (show Option (Int×Int×Int×Z32)from cond (s.2.2.2.1==9) (cond (decide (x1 > 1)) (some (s.1,s.2.2.2.1,x1,s.2.1,s.2.2.1,s.2.2.2.1,true,())) (cond (decide (s.2.2.2.1 > 0)) (some (s.1,s.2.2.2.1,x1,s.2.1,s.2.2.1,s.2.2.2.1,x1==0,())) (some (s.1,s.2.2.2.1,x1,s.2.1,s.2.2.1,s.2.2.2.1,false,())))) (cond (decide (s.2.2.2.1 > 0)) (some (s.1,s.2.2.2.1,x1,s.2.1,s.2.2.1,s.2.2.2.1,x1==0,())) (some (s.1,s.2.2.2.1,x1,s.2.1,s.2.2.1,s.2.2.2.1,false,())))).bind fun z2=> cond z2.2.2.2.2.2.2.1 (some (.inr (Sum.inr ((0,0,2,()))))) (cond (decide ((wrap .i64 (7*z2.2.1))<0)) none (cond (decide (z2.2.2.1<128)) (some (.inr (Sum.inr ((bits .u64 .or z2.1 (a0A .u64 (wrap .u64 (a22 z2.2.2.1 128)) (wrap .i64 (7*z2.2.1))),wrap .i64 (z2.2.1+1),0,()))))) (some (.inl (bits .u64 .or z2.1 (a0A .u64 (wrap .u64 (a22 z2.2.2.1 128)) (wrap .i64 (7*z2.2.1))),z2.2.2.2.1,z2.2.2.2.2.1,wrap .i64 (z2.2.2.2.2.2.1+1),())))))) (some (.inr (Sum.inl ())))
def a9O(x:(List Int)):Option (Int×Int×Int):= (a0h a6U (0,x,(x.length:Int),0,())).bind fun w3=> match w3 with |.inl a4=>some (0,0,3) |.inr b5=>some (b5.1,b5.2.1,b5.2.2.1)
def b7K:FSem:=⟨[.v (.list false (.int .u8))],[.v (.int .u64),.v QI,.v QI],a9O⟩
def e1c:Hints:=⟨[(58,[.sv 5 (.int .u64),.sv 8 (.list false (.int .u8)),.sv 9 QI,.sv 10 QI],[(.exit 0,[]),(.ret,[.sv 2 (.int .u64),.sv 3 QI,.sv 4 QI])])],[(7474,[(.normal,[.sv 5 (.int .u64),.sv 6 QI,.sv 7 (.int .u8),.sv 8 (.list false (.int .u8)),.sv 9 QI,.sv 10 QI,.sv 28 .bool])])],[]⟩
def a0X(x:Z31):Option Z27:= cond (x.1.2.2.1 != 0) (some (0,x.1)) (cond ((decide (0≤x.1.2.1))&&(decide (x.1.2.1≤(x.1.1.length:Int)))) ((a9O (a29 (a01 x.1.2.1) (a07 (a02 x.1.1) x.1.1))).bind fun y1=> (show Option Z72 from cond (y1.2.2==0) (cond (decide (y1.1 > x.2)) (some (y1.1,y1.2.1,4,x.1,())) (some (y1.1,y1.2.1,y1.2.2,x.1,()))) (some (y1.1,y1.2.1,y1.2.2,x.1,()))).bind fun z2=> cond (z2.2.2.1 != 0) (some (0,z2.2.2.2.1.1,z2.2.2.2.1.2.1,z2.2.2.1,z2.2.2.2.1.2.2.2)) (some (z2.1,z2.2.2.2.1.1,wrap .i64 (z2.2.2.2.1.2.1+z2.2.1),z2.2.2.2.1.2.2))) none)
def b3P:FSem:=⟨[.r false (.b Q11),.v (.int .u64)],[.v (.int .u64)],a0X⟩
def e1d:Hints:=⟨[],[(15,[(.normal,[.sv 5 (.int .u64),.sv 6 QI,.sv 7 QI,.box pinned Q11,.ptr 0 pinned []])])],[(3,[.p,.p,.q,.q,.p,.p,.q,.q,.x,.x,.x,.v,.v,.v,.v,.v,.x])]⟩
def b3p(x:Int):Option Int:= cond ((a22 x 2)==0) (some (wrap .i64 (wrap .u64 (a17 x 2)))) (some (wrap .i64 ((wrap .i64 (0-(wrap .i64 (wrap .u64 (a17 x 2)))))-1)))
end Go.Ab
namespace Go.Ab
open IntKind(wrap)
open Go.Proofs
set_option maxRecDepth 100000
set_option linter.unusedVariables false
def c1K:FSem:=⟨[.v (.int .u64)],[.v QI],b3p⟩
def e1e:Hints:=⟨[],[],[]⟩
def a9m(x:Z15):Option Z27:= some (x.2.2.1,x)
def b3Q:FSem:=⟨[.r false (.b Q11)],[.v QI],a9m⟩
def e1f:Hints:=⟨[],[],[]⟩
def a8J(x:Z15):Option Z27:= some (wrap .i64 ((x.1.length:Int)-x.2.1),x)
def b2v:FSem:=⟨[.r false (.b Q11)],[.v QI],a8J⟩
def e1g:Hints:=⟨[],[],[(1,[.p,.p,.q,.q,.v,.p,.p,.q,.q,.x,.x])]⟩
def b0b(x:Z15):Option Z27:= some (x.2.1,x)
def b4o:FSem:=⟨[.r false (.b Q11)],[.v QI],b0b⟩
def e1h:Hints:=⟨[],[],[]⟩
def a6r(s:((List Int)×(Int×Int×c4Z))):Option (((List Int)×(Int×Int×c4Z)) ⊕ ((List Int)×c4Z)):= cond (decide (s.2.2.1<s.2.1)) ((a0X (s.2.2.2.2.1,7)).bind fun y11=> (a0X (y11.2,7)).bind fun y12=> (a0X (y12.2,2048)).bind fun y13=> (b3p y13.1).bind fun y14=> cond (lim ((a02 s.2.2.2.1.2.2.2.1)+1)) (some (.inl (s.1,s.2.1,wrap .u64 (s.2.2.1+1),(s.2.2.2.1.1,s.2.2.2.1.2.1,s.2.2.2.1.2.2.1,a04 s.2.2.2.1.2.2.2.1 ([(wrap .i64 y11.1,wrap .i64 y12.1,y14,())]:List Z7),s.2.2.2.1.2.2.2.2),y13.2,()))) none) (some (.inr (s.1,s.2.2.2.1,s.2.2.2.2.1,())))
def a6s(x:(List Int)):Option (a7E×Int×Int×Int):= cond (decide ((x.length:Int)<2)) (some ((0,0,(0,0,0,()),[],[],()),0,0,3)) ((show Option ((List Int)×(Bool×c0o))from(a0q x 0).bind fun x1=> cond (x1 != 245) (some (x,true,(0,0,(0,0,0,()),[],[],()),())) ((a0q x 1).bind fun x2=> some (x,x2 != 75,(0,0,(0,0,0,()),[],[],()),()))).bind fun z3=> cond z3.2.1 (some ((0,0,(0,0,0,()),[],[],()),0,0,2)) (cond (decide (2≤(z3.1.length:Int))) ((b3o (a29 2 (a07 (a02 z3.1) z3.1))).bind fun y4=> (a0X (y4,4194304)).bind fun y5=> (a0X (y5.2,4096)).bind fun y6=> (a0X (y6.2,1048576)).bind fun y7=> (a0X (y7.2,8)).bind fun y8=> (a0X (y8.2,24)).bind fun y9=> (a0X (y9.2,16)).bind fun y10=> (a0h a6r (z3.1,y10.1,0,(wrap .i64 y5.1,wrap .i64 y6.1,(wrap .i64 y7.1,wrap .i64 y8.1,wrap .i64 y9.1,z3.2.2.1.2.2.1.2.2.2),z3.2.2.1.2.2.2),y10.2,())).bind fun w15=> (a0X (w15.2.2.1,1048576)).bind fun y16=> (a9m y16.2).bind fun y17=> cond (y17.1 != 0) (some ((0,0,(0,0,0,()),[],[],()),0,0,y17.1)) ((a8J y17.2).bind fun y18=> cond (decide (y18.1<1)) (some ((0,0,(0,0,0,()),[],[],()),0,0,3)) ((b0b y18.2).bind fun y19=> cond ((decide (0≤(wrap .i64 (2+y19.1))))&&(decide ((wrap .i64 (2+y19.1))≤(w15.1.length:Int)))) ((a9l (a07 (a01 (wrap .i64 (2+y19.1))) w15.1)).bind fun y20=> (a0q w15.1 (wrap .i64 (2+y19.1))).bind fun x21=> cond (y20 != x21) (some ((0,0,(0,0,0,()),[],[],()),0,0,5)) ((a8b w15.2.1).bind fun y22=> cond (!y22) (some ((0,0,(0,0,0,()),[],[],()),0,0,2)) (some (w15.2.1,wrap .i64 ((wrap .i64 (2+y19.1))+1),wrap .i64 y16.1,0)))) none))) none))
def b1Y:FSem:=⟨[.v (.list false (.int .u8))],[.v (.pair QI (.pair QI (.pair Q8 (.pair (.list false Q8) Q32)))),.v QI,.v QI,.v QI],a6s⟩
def H65:Hints:=⟨[(8186,[.sv 0 (.list false (.int .u8)),.sv 54 (.int .u64),.sv 55 (.int .u64),.box 2 Q47,.box 1029 Q11,.ptr 2 2 [],.ptr 6 1029 []],[(.exit 0,[.sv 0 (.list false (.int .u8)),.box 2 Q47,.box 1029 Q11,.ptr 2 2 [],.ptr 6 1029 []])])],[(14,[(.normal,[.sv 0 (.list false (.int .u8)),.sv 25 .bool,.box 2 Q47,.ptr 2 2 []])])],[(25,[.v,.v,.v,.v,.v,.v,.v,.v,.x])]⟩
def b4E(x:(List Int)):Option Z15:= cond (lim (a02 x)) (some (x,0,0,())) none
def c3C:FSem:=⟨[.v (.list false (.int .u8))],[.b Q11],b4E⟩
def H66:Hints:=⟨[],[],[]⟩
def a0v(x:Z15):Option Z27:= some (x.2.2.1,x)
def a2G:FSem:=⟨[.r false (.b Q11)],[.v QI],a0v⟩
def H70:Hints:=⟨[],[],[]⟩
def a3g(x:Z15):Option Z27:= some (wrap .i64 ((wrap .i64 (8*(x.1.length:Int)))-x.2.1),x)
def a9n:FSem:=⟨[.r false (.b Q11)],[.v QI],a3g⟩
def H68:Hints:=⟨[],[],[(1,[.p,.p,.q,.q,.v,.v,.p,.p,.q,.q,.x,.x])]⟩
def a1X(x:Z31):Option Z27:= (a0q x.1.1 (wrap .i64 (a17 x.2 8))).bind fun x1=> cond (decide ((wrap .i64 (7-(a22 x.2 8)))<0)) none (some (bits .u8 .and (a0D .u8 x1 (wrap .i64 (7-(a22 x.2 8)))) 1,x.1))
def a6t:FSem:=⟨[.r false (.b Q11),.v QI],[.v (.int .u8)],a1X⟩
def e1i:Hints:=⟨[],[],[]⟩
def a5b(s:Z72):Option (Z72 ⊕ Z50):= cond (decide (s.2.2.1<s.2.1)) ((a1X (s.2.2.2.1,s.2.2.2.1.2.1)).bind fun y3=> some (.inl (bits .u64 .or (a0A .u64 s.1 1) (wrap .u64 y3.1),s.2.1,wrap .i64 (s.2.2.1+1),(y3.2.1,wrap .i64 (y3.2.2.1+1),y3.2.2.2),()))) (some (.inr (s.1,s.2.2.2.1,())))
def a0k(x:Z31):Option Z27:= cond (x.1.2.2.1 != 0) (some (0,x.1)) ((show Option Z60 from cond (decide (x.2<0)) (some (x.2,true,x.1,())) (some (x.2,decide (x.2 > 64),x.1,()))).bind fun z1=> cond z1.2.1 (some (0,z1.2.2.1.1,z1.2.2.1.2.1,1,z1.2.2.1.2.2.2)) ((a3g z1.2.2.1).bind fun y2=> cond (decide (z1.1 > y2.1)) (some (0,y2.2.1,y2.2.2.1,3,y2.2.2.2.2)) ((a0h a5b (0,z1.1,0,y2.2,())).bind fun w4=> some (w4.1,w4.2.1))))
def a2H:FSem:=⟨[.r false (.b Q11),.v QI],[.v (.int .u64)],a0k⟩
def e1j:Hints:=⟨[(506,[.sv 5 (.int .u64),.sv 27 QI,.sv 28 QI,.box pinned Q11,.ptr 0 pinned []],[(.exit 0,[.sv 5 (.int .u64),.box pinned Q11])])],[(14,[(.normal,[.sv 1 QI,.sv 16 .bool,.box pinned Q11,.ptr 0 pinned []])])],[]⟩
def a1c(x:Z31):Option Z27:= (a0k (x.1,x.2)).bind fun y1=> (show Option (Int×Z60)from cond (y1.2.2.2.1 != 0) (some (x.2,y1.1,true,y1.2,())) (some (x.2,y1.1,x.2==0,y1.2,()))).bind fun z2=> cond z2.2.2.1 (some (0,z2.2.2.2.1)) (cond (decide ((wrap .i64 (64-z2.1))<0)) none (cond (decide ((wrap .i64 (64-z2.1))<0)) none (some (a0D .i64 (wrap .i64 (a0A .u64 z2.2.1 (wrap .i64 (64-z2.1)))) (wrap .i64 (64-z2.1)),z2.2.2.2.1))))
def a3y:FSem:=⟨[.r false (.b Q11),.v QI],[.v QI],a1c⟩
def e1k:Hints:=⟨[],[(14,[(.normal,[.sv 1 QI,.sv 5 (.int .u64),.sv 17 .bool,.box pinned Q11])])],[]⟩
def a6V(s:(Int×c4Y)):Option ((Int×c4Y) ⊕ (Int×d1B)):= cond (decide (s.2.2.1<s.2.1)) ((a1c (s.2.2.2.1,s.1)).bind fun y4=> cond (lim ((a02 s.2.2.2.2.1.2.2.2.2.2.1)+1)) (some (.inl (s.1,s.2.1,wrap .i64 (s.2.2.1+1),y4.2,(s.2.2.2.2.1.1,s.2.2.2.2.1.2.1,s.2.2.2.2.1.2.2.1,s.2.2.2.2.1.2.2.2.1,s.2.2.2.2.1.2.2.2.2.1,a04 s.2.2.2.2.1.2.2.2.2.2.1 [y4.1],s.2.2.2.2.1.2.2.2.2.2.2),()))) none) (some (.inr (s.1,s.2.2.2.2.1,s.2.2.2.1,())))
def a9P(x:(Z15×Z94)):Option (Bool×Z15×Z94):= (a0k (x.1,5)).bind fun y1=> (a0k (y1.2,4)).bind fun y2=> (a0k (y2.2,5)).bind fun y3=> (a0h a6V (wrap .i64 y3.1,wrap .i64 ((wrap .i64 y1.1)+1),0,y3.2,(x.2.1,x.2.2.1,x.2.2.2.1,wrap .i64 y2.1,x.2.2.2.2.2),())).bind fun w5=> (a1C w5.2.1.2.2.2.2.2.1).bind fun y6=> some (y6==w5.1,w5.2.2.1,w5.2.1)
def b7L:FSem:=⟨[.r false (.b Q11),.r false (.b Q30)],[.v .bool],a9P⟩
def e1l:Hints:=⟨[(250,[.sv 6 QI,.sv 20 QI,.sv 21 QI,.box pinned Q11,.box 1000001 Q30,.ptr 0 pinned [],.ptr 1 1000001 []],[(.exit 0,[.sv 6 QI,.box 1000001 Q30,.box pinned Q11,.ptr 1 1000001 []])])],[],[(6,[.p,.p,.p,.r [26,1000001],.r [27,1000001],.p,.v,.w [30,1030,pinned],.q,.a [31,32,1000001],.x,.x,.x])]⟩
def a4i(s:c4Y):Option (c4Y ⊕ d4Q):= cond (decide (s.2.1<3)) ((a1c (s.2.2.1,8)).bind fun y6=> cond ((decide (0≤s.2.1))&&(decide (s.2.1<3))) (some (.inl (s.1,wrap .i64 (s.2.1+1),y6.2,(s.2.2.2.1.1,s.2.2.2.1.2.1,s.2.2.2.1.2.2.1,s.2.2.2.1.2.2.2.1,s.2.2.2.1.2.2.2.2.1,s.2.2.2.1.2.2.2.2.2.1,a05 s.2.2.2.1.2.2.2.2.2.2.1 (a01 s.2.1) y6.1,s.2.2.2.1.2.2.2.2.2.2.2),()))) none) (some (.inr (s.1,s.2.2.1,s.2.2.2.1,())))
def a7K(s:(Int×Bool×c4Y)):Option ((Int×Bool×c4Y) ⊕ (Int×Bool×d1B)):= cond (decide (s.2.2.2.1<s.2.2.1)) ((a0k (s.2.2.2.2.1,5)).bind fun y15=> (a0k (y15.2,4)).bind fun y16=> cond (lim ((a02 s.2.2.2.2.2.1.2.2.2.2.2.2.2.1)+1)) (some (.inl (s.1,s.2.1,s.2.2.1,wrap .u64 (s.2.2.2.1+1),y16.2,(s.2.2.2.2.2.1.1,s.2.2.2.2.2.1.2.1,s.2.2.2.2.2.1.2.2.1,s.2.2.2.2.2.1.2.2.2.1,s.2.2.2.2.2.1.2.2.2.2.1,s.2.2.2.2.2.1.2.2.2.2.2.1,s.2.2.2.2.2.1.2.2.2.2.2.2.1,a04 s.2.2.2.2.2.1.2.2.2.2.2.2.2.1 ([(wrap .i64 ((wrap .i64 y15.1)+1),wrap .i64 y16.1,())]:List (Int×Int×Unit)),s.2.2.2.2.2.1.2.2.2.2.2.2.2.2),()))) none) (some (.inr (s.1,s.2.1,s.2.2.2.2.2.1,s.2.2.2.2.1,())))
def b0O(x:Z15):Option (Z94×Int×Bool×Z15):= (a0k (x,3)).bind fun y1=> (a0k (y1.2,5)).bind fun y2=> (a0k (y2.2,5)).bind fun y3=> (show Option (Int×Bool×d1B)from(show Option (d4Q ⊕ ((Int×Bool×d1B) ⊕ (Int×Bool×d7r)))from cond ((wrap .i64 y1.1)==2) ((a0k (y3.2,3)).bind fun y4=> some (Sum.inr (Sum.inl (wrap .i64 y3.1,true,(wrap .i64 y1.1,wrap .i64 y2.1,wrap .i64 y4.1,0,0,[],a00 3 0,[],[],(0,[],()),[],()),y4.2,())))) (cond ((wrap .i64 y1.1)==4) ((a0k (y3.2,10)).bind fun y5=> (a0h a4i (wrap .i64 y3.1,0,y5.2,(wrap .i64 y1.1,wrap .i64 y2.1,0,0,wrap .i64 ((wrap .i64 y5.1)+1),[],a00 3 0,[],[],(0,[],()),[],()),())).bind fun w7=> some (Sum.inl (w7.1,w7.2.1,w7.2.2.1,()))) (cond ((wrap .i64 y1.1)==3) (some (Sum.inl (wrap .i64 y3.1,y3.2,(wrap .i64 y1.1,wrap .i64 y2.1,0,0,0,[],a00 3 0,[],[],(0,[],()),[],()),()))) (cond ((wrap .i64 y1.1)==5) (some (Sum.inr (Sum.inr ((wrap .i64 y3.1,true,y3.2,(wrap .i64 y1.1,wrap .i64 y2.1,0,0,0,[],a00 3 0,[],[],(0,[],()),[],()),()))))) (some (Sum.inr (Sum.inl (wrap .i64 y3.1,true,(wrap .i64 y1.1,wrap .i64 y2.1,0,0,0,[],a00 3 0,[],[],(0,[],()),[],()),y3.2,())))))))).bind fun z8=> match z8 with |.inl a9=>((a9P (a9.2.1,a9.2.2.1)).bind fun y11=> some (a9.1,y11.1,y11.2.2,y11.2.1,())) |.inr b10=>(match b10 with |.inl a12=>some (a12.1,a12.2.1,a12.2.2.1,a12.2.2.2.1,()) |.inr b13=>((a0k (b13.2.2.1,2)).bind fun y14=> (a0h a7K (b13.1,b13.2.1,y14.1,0,y14.2,b13.2.2.2.1,())).bind fun w17=> some (w17.1,w17.2.1,w17.2.2.1,w17.2.2.2.1,())))).bind fun z18=> some (z18.2.2.1,z18.1,z18.2.1,z18.2.2.2.1)
def b9v:FSem:=⟨[.r false (.b Q11)],[.v (.pair QI (.pair QI (.pair QI (.pair QI (.pair QI (.pair QL (.pair (.arr 3 QI) (.pair (.list false Q3) Q14)))))))),.v QI,.v .bool],b0O⟩
def e1m:Hints:=⟨[(8106,[.sv 3 QI,.sv 4 .bool,.sv 50 (.int .u64),.sv 51 (.int .u64),.box pinned Q11,.box 2 Q30,.ptr 0 pinned [],.ptr 2 2 []],[(.exit 7,[.sv 3 QI,.sv 4 .bool,.box 2 Q30,.box pinned Q11,.ptr 2 2 []])]),(129550,[.sv 3 QI,.sv 38 QI,.box pinned Q11,.box 2 Q30,.ptr 0 pinned [],.ptr 2 2 []],[(.exit 5,[.sv 3 QI,.box pinned Q11,.box 2 Q30,.ptr 0 pinned [],.ptr 2 2 []])])],[(63,[(.normal,[.sv 3 QI,.sv 4 .bool,.box 2 Q30,.box pinned Q11,.ptr 2 2 []])]),(2024,[(.normal,[.sv 3 QI,.box pinned Q11,.box 2 Q30,.ptr 0 pinned [],.ptr 2 2 []]),(.exit 0,[.sv 3 QI,.sv 4 .bool,.box 2 Q30,.box pinned Q11,.ptr 2 2 []]),(.exit 4,[.sv 3 QI,.sv 4 .bool,.box pinned Q11,.box 2 Q30,.ptr 0 pinned [],.ptr 2 2 []])])],[]⟩
def a4p(s:Z72):Option (Z72 ⊕ Z50):= cond (s.2.2.1==(wrap .i64 (8*(s.2.2.2.1.1.length:Int)))) (some (.inr (0,(s.2.2.2.1.1,s.2.2.2.1.2.1,3,s.2.2.2.1.2.2.2),()))) ((a1X (s.2.2.2.1,s.2.2.1)).bind fun y2=> cond (y2.1==1) (some (.inr (s.2.1,(y2.2.1,wrap .i64 (s.2.2.1+1),y2.2.2.2),()))) (cond (s.2.1==s.1) (some (.inr (0,(y2.2.1,y2.2.2.1,2,y2.2.2.2.2),()))) (some (.inl (s.1,wrap .i64 (s.2.1+1),wrap .i64 (s.2.2.1+1),y2.2,())))))
def a2i(x:Z31):Option Z27:= cond (x.1.2.2.1 != 0) (some (0,x.1)) ((a0h a4p (a2y x.2 0,0,x.1.2.1,x.1,())).bind fun w3=> some (w3.1,w3.2.1))
def b2w:FSem:=⟨[.r false (.b Q11),.v QI],[.v QI],a2i⟩
def e1n:Hints:=⟨[(62,[.sv 1 QI,.sv 5 QI,.sv 6 QI,.box pinned Q11,.ptr 0 pinned []],[(.ret,[.sv 4 QI,.box pinned Q11])])],[],[(4,[.p,.p,.q,.q,.v,.x])]⟩
def a8i(x:Int):Option Int:= cond (decide (x≥2147483648)) (some 0) (cond ((a22 x 2)==0) (some (wrap .i64 (wrap .u64 (a17 x 2)))) (some (wrap .i64 ((wrap .i64 (0-(wrap .i64 (wrap .u64 (a17 x 2)))))-1))))
def b9w:FSem:=⟨[.v (.int .u64)],[.v QI],a8i⟩
def e1o:Hints:=⟨[],[],[]⟩
def b4F(x:Z31):Option Z44:= (a2i (x.1,32)).bind fun y1=> (a0v y1.2).bind fun y2=> cond (y2.1 != 0) ((a0v y2.2).bind fun y3=> some (0,y3.1,y3.2)) (cond (decide ((wrap .u64 y1.1)<32)) ((a0k (y2.2,x.2)).bind fun y4=> cond (decide (x.2<0)) none ((a8i (wrap .u64 ((a0A .u64 (wrap .u64 y1.1) x.2)+y4.1))).bind fun y5=> (a0v y4.2).bind fun y6=> some (y5,y6.1,y6.2))) ((a0k (y2.2,32)).bind fun y7=> (a0v y7.2).bind fun y8=> cond (y8.1 != 0) ((a0v y8.2).bind fun y9=> some (0,y9.1,y9.2)) ((show Option Z60 from cond (decide (y7.1≥2147483648)) (some (y7.1,true,y8.2,())) (cond (decide (x.2<0)) none (some (y7.1,decide ((a0D .u64 y7.1 x.2)<32),y8.2,())))).bind fun z10=> cond z10.2.1 (some (0,2,z10.2.2.1)) ((a8i z10.1).bind fun y11=> some (y11,0,z10.2.2.1)))))
def c3D:FSem:=⟨[.r false (.b Q11),.v QI],[.v QI,.v QI],b4F⟩
def e1p:Hints:=⟨[],[(254,[(.normal,[.sv 8 (.int .u64),.sv 44 .bool,.box pinned Q11])])],[]⟩
def b0P(s:Z81):Option (Z81 ⊕ (Z57 ⊕ Z70)):= cond (decide (s.2.2.1<s.2.1)) ((b4F (s.2.2.2.2.1,s.1)).bind fun y5=> cond (y5.2.1 != 0) (some (.inr (Sum.inr ((y5.2.1,[],y5.2.2,()))))) (cond (lim ((a02 s.2.2.2.1)+1)) (some (.inl (s.1,s.2.1,wrap .i64 (s.2.2.1+1),a04 s.2.2.2.1 [y5.1],y5.2.2,()))) none)) (some (.inr (Sum.inl (s.2.2.2.1,s.2.2.2.2.1,()))))
def b4G(x:(Z15×Int×Int)):Option Z54:= (show Option (Int×Z60)from(a2s x.2.1).bind fun y1=> cond (!y1) (some (x.2.1,x.2.2,true,x.1,())) (cond (decide (x.2.2<0)) (some (x.2.1,x.2.2,true,x.1,())) (some (x.2.1,x.2.2,decide (x.2.2 > 4194304),x.1,())))).bind fun z2=> cond z2.2.2.1 (some ([],1,z2.2.2.2.1)) ((a0v z2.2.2.2.1).bind fun y3=> cond (y3.1 != 0) ((a0v y3.2).bind fun y4=> some ([],y4.1,y4.2)) ((a0h b0P (z2.1,z2.2.1,0,[],y3.2,())).bind fun w6=> match w6 with |.inl a7=>some (a7.1,0,a7.2.1) |.inr b8=>some (b8.2.1,b8.1,b8.2.2.1)))
def c3E:FSem:=⟨[.r false (.b Q11),.v QI,.v QI],[.o QI,.v QI],b4G⟩
def e1q:Hints:=⟨[(250,[.sv 1 QI,.sv 27 QI,.sv 28 QI,.own 8 8 QI,.box pinned Q11,.ptr 0 pinned []],[(.exit 0,[.own 8 8 QI,.box pinned Q11]),(.ret,[.sv 7 QI,.own 6 6 QI,.box pinned Q11])])],[(6,[(.normal,[.sv 1 QI,.sv 2 QI,.sv 21 .bool,.box pinned Q11,.ptr 0 pinned []])])],[]⟩
def a9Q(s:(Int×Z81)):Option ((Int×Z81) ⊕ Z78):= cond (decide (s.2.2.2.1<s.2.2.1)) ((a1c (s.2.2.2.2.2.1,s.2.1)).bind fun y6=> cond (lim ((a02 s.2.2.2.2.1)+1)) (some (.inl (s.1,s.2.1,s.2.2.1,wrap .i64 (s.2.2.2.1+1),a04 s.2.2.2.2.1 [y6.1],y6.2,()))) none) (some (.inr (s.1,s.2.1,s.2.2.2.2.1,s.2.2.2.2.2.1,())))
def b3q(x:Z31):Option (Int×Z54):= (a0k (x.1,5)).bind fun y1=> (a0v y1.2).bind fun y2=> cond (y2.1 != 0) ((a0v y2.2).bind fun y3=> some (0,[],y3.1,y3.2)) (cond (decide ((wrap .i64 y1.1)≤25)) ((b4G (y2.2,wrap .i64 y1.1,x.2)).bind fun y4=> some (wrap .i64 y1.1,y4.1,y4.2.1,y4.2.2)) (cond ((wrap .i64 y1.1) != 31) (some (0,[],2,y2.2)) ((a0k (y2.2,5)).bind fun y5=> (a0h a9Q (wrap .i64 y1.1,wrap .i64 y5.1,x.2,0,[],y5.2,())).bind fun w7=> (a0v w7.2.2.2.1).bind fun y8=> cond (y8.1 != 0) ((a0v y8.2).bind fun y9=> some (0,[],y9.1,y9.2)) ((a1C w7.2.2.1).bind fun y10=> cond (y10 != w7.2.1) (some (0,[],2,y8.2)) (some (w7.1,w7.2.2.1,0,y8.2))))))
def c1L:FSem:=⟨[.r false (.b Q11),.v QI],[.v QI,.o QI,.v QI],b3q⟩
def e1r:Hints:=⟨[(2042,[.sv 7 QI,.sv 10 QI,.sv 37 QI,.sv 38 QI,.own 11 11 QI,.box pinned Q11,.ptr 0 pinned []],[(.exit 0,[.sv 7 QI,.sv 10 QI,.own 11 11 QI,.box pinned Q11,.ptr 0 pinned []])])],[],[]⟩
def a9R(s:(Int×(Int×((List Int)×((List Int)×(Z15×Z73)))))):Option ((Int×(Int×((List Int)×((List Int)×(Z15×Z73))))) ⊕ (((List Int)×(Z5×Z5×Z34)) ⊕ (Int×((List Int)×(Z5×Z34))))):= cond (decide (s.2.1<s.1)) (cond ((decide (0≤s.2.1))&&(decide (s.2.1<(s.2.2.2.1.length:Int)))) ((b3q (s.2.2.2.2.1,a03 s.2.2.2.1 (a01 s.2.1) 0)).bind fun y6=> cond (y6.2.2.1 != 0) (some (.inr (Sum.inr ((y6.2.2.1,[],(0,[],()),y6.2.2.2,()))))) (cond (lim ((a02 s.2.2.2.2.2.2.1.2.1)+1)) (cond (lim ((a02 s.2.2.1)+(a02 y6.2.1))) (some (.inl (s.1,wrap .i64 (s.2.1+1),a04 s.2.2.1 y6.2.1,s.2.2.2.1,y6.2.2.2,s.2.2.2.2.2.1,(s.2.2.2.2.2.2.1.1,a04 s.2.2.2.2.2.2.1.2.1 [y6.1],s.2.2.2.2.2.2.1.2.2),()))) none) none)) none) (some (.inr (Sum.inl (s.2.2.1,s.2.2.2.2.2.1,s.2.2.2.2.2.2.1,s.2.2.2.2.1,()))))
def b3r(x:(Z15×Int×Int)):Option (Z5×Z54):= (a8w (x.2.1,x.2.2)).bind fun y1=> cond (!y1) (some ((0,[],()),[],1,x.1)) ((a0k (x.1,4)).bind fun y2=> (a0v y2.2).bind fun y3=> cond (y3.1 != 0) ((a0v y3.2).bind fun y4=> some ((0,[],()),[],y4.1,y4.2)) ((a3N (wrap .i64 y2.1,x.2.1,x.2.2)).bind fun y5=> cond ((y5.length:Int)==0) (some ((0,[],()),[],2,y3.2)) ((a0h a9R ((y5.length:Int),0,[],y5,y3.2,(0,[],()),(wrap .i64 y2.1,[],()),())).bind fun w7=> match w7 with |.inl a8=>some (a8.2.2.1,a8.1,0,a8.2.2.2.1) |.inr b9=>some (b9.2.2.1,b9.2.1,b9.1,b9.2.2.2.1))))
def c1M:FSem:=⟨[.r false (.b Q11),.v QI,.v QI],[.v Q7,.o QI,.v QI],b3r⟩
def e1s:Hints:=⟨[(4090,[.sv 43 QI,.sv 44 QI,.own 12 12 QI,.own 42 10 QI,.box pinned Q11,.box 6 Q7,.box 11 Q6,.ptr 0 pinned [],.ptr 6 6 [],.ptr 11 11 []],[(.exit 0,[.own 12 12 QI,.box 6 Q7,.box 11 Q6,.box pinned Q11,.ptr 6 6 [],.ptr 11 11 []]),(.ret,[.sv 8 QI,.own 7 7 QI,.box 6 Q7,.box pinned Q11,.ptr 6 6 []])])],[],[]⟩
def b1Z(s:(Int×Int×Bool×Int×Int×Z15×b4c)):Option ((Int×Int×Bool×Int×Int×Z15×b4c) ⊕ (Int×Int×Bool×Z15×b4c)):= cond (decide (s.2.2.2.2.1<s.2.2.2.1)) ((a1c (s.2.2.2.2.2.1,s.2.1)).bind fun y7=> cond (lim ((a02 s.2.2.2.2.2.2.2.1.2.2.2.2.2.2.2.2.1)+1)) (some (.inl (s.1,s.2.1,s.2.2.1,s.2.2.2.1,wrap .i64 (s.2.2.2.2.1+1),y7.2,s.2.2.2.2.2.2.1,(s.2.2.2.2.2.2.2.1.1,s.2.2.2.2.2.2.2.1.2.1,s.2.2.2.2.2.2.2.1.2.2.1,s.2.2.2.2.2.2.2.1.2.2.2.1,s.2.2.2.2.2.2.2.1.2.2.2.2.1,s.2.2.2.2.2.2.2.1.2.2.2.2.2.1,s.2.2.2.2.2.2.2.1.2.2.2.2.2.2.1,s.2.2.2.2.2.2.2.1.2.2.2.2.2.2.2.1,a04 s.2.2.2.2.2.2.2.1.2.2.2.2.2.2.2.2.1 [y7.1],s.2.2.2.2.2.2.2.1.2.2.2.2.2.2.2.2.2),()))) none) (some (.inr (s.1,s.2.1,s.2.2.1,s.2.2.2.2.2.1,s.2.2.2.2.2.2.1,s.2.2.2.2.2.2.2.1,())))
def b3R(x:Z31):Option (Z94×Z27):= cond (decide (x.2<1)) (some ((0,0,0,0,0,[],a00 3 0,[],[],(0,[],()),[],()),1,x.1)) (cond (decide (x.2 > 4096)) (some ((0,0,0,0,0,[],a00 3 0,[],[],(0,[],()),[],()),1,x.1)) ((a0v x.1).bind fun y1=> cond (y1.1 != 0) (some ((0,0,0,0,0,[],a00 3 0,[],[],(0,[],()),[],()),y1.1,y1.2)) ((b0O y1.2).bind fun y2=> (a0v y2.2.2.2).bind fun y3=> cond (y3.1 != 0) (some ((0,0,0,0,0,[],a00 3 0,[],[],(0,[],()),[],()),y3.1,y3.2)) ((a9i (y2.1.1,y2.1,x.2)).bind fun y4=> cond (!y4) (some ((0,0,0,0,0,[],a00 3 0,[],[],(0,[],()),[],()),2,y3.2)) ((a5y (y2.1,x.2)).bind fun y5=> (a0h b1Z (x.2,y2.2.1,y2.2.2.1,y5,0,y3.2,(0,0,0,0,0,[],a00 3 0,[],[],(0,[],()),[],()),y2.1,())).bind fun w8=> (a0v w8.2.2.2.1).bind fun y9=> cond (y9.1 != 0) (some ((0,0,0,0,0,[],a00 3 0,[],[],(0,[],()),[],()),y9.1,y9.2)) ((a7d w8.2.2.2.2.2.1.1).bind fun y10=> cond y10 ((b3r (y9.2,w8.1,(w8.2.2.2.2.2.1.2.2.2.2.2.2.2.2.1.length:Int))).bind fun y11=> cond (y11.2.2.1 != 0) (some ((0,0,0,0,0,[],a00 3 0,[],[],(0,[],()),[],()),y11.2.2.1,y11.2.2.2)) (cond (!w8.2.2.1) (some ((0,0,0,0,0,[],a00 3 0,[],[],(0,[],()),[],()),2,y11.2.2.2)) ((a1C w8.2.2.2.2.2.1.2.2.2.2.2.2.2.2.1).bind fun y12=> cond (y12 != w8.2.1) (some ((0,0,0,0,0,[],a00 3 0,[],[],(0,[],()),[],()),2,y11.2.2.2)) ((b1p ((w8.2.2.2.2.2.1.1,w8.2.2.2.2.2.1.2.1,w8.2.2.2.2.2.1.2.2.1,w8.2.2.2.2.2.1.2.2.2.1,w8.2.2.2.2.2.1.2.2.2.2.1,w8.2.2.2.2.2.1.2.2.2.2.2.1,w8.2.2.2.2.2.1.2.2.2.2.2.2.1,w8.2.2.2.2.2.1.2.2.2.2.2.2.2.1,w8.2.2.2.2.2.1.2.2.2.2.2.2.2.2.1,y11.1,y11.2.1,w8.2.2.2.2.2.1.2.2.2.2.2.2.2.2.2.2.2),w8.1)).bind fun y13=> cond (!y13) (some ((0,0,0,0,0,[],a00 3 0,[],[],(0,[],()),[],()),2,y11.2.2.2)) (some ((w8.2.2.2.2.2.1.1,w8.2.2.2.2.2.1.2.1,w8.2.2.2.2.2.1.2.2.1,w8.2.2.2.2.2.1.2.2.2.1,w8.2.2.2.2.2.1.2.2.2.2.1,w8.2.2.2.2.2.1.2.2.2.2.2.1,w8.2.2.2.2.2.1.2.2.2.2.2.2.1,w8.2.2.2.2.2.1.2.2.2.2.2.2.2.1,w8.2.2.2.2.2.1.2.2.2.2.2.2.2.2.1,y11.1,y11.2.1,w8.2.2.2.2.2.1.2.2.2.2.2.2.2.2.2.2.2),0,y11.2.2.2)))))) (cond (!w8.2.2.1) (some ((0,0,0,0,0,[],a00 3 0,[],[],(0,[],()),[],()),2,y9.2)) ((a1C w8.2.2.2.2.2.1.2.2.2.2.2.2.2.2.1).bind fun y14=> cond (y14 != w8.2.1) (some ((0,0,0,0,0,[],a00 3 0,[],[],(0,[],()),[],()),2,y9.2)) ((b1p (w8.2.2.2.2.2.1,w8.1)).bind fun y15=> cond (!y15) (some ((0,0,0,0,0,[],a00 3 0,[],[],(0,[],()),[],()),2,y9.2)) (some (w8.2.2.2.2.2.1,0,y9.2)))))))))))
def c5Y:FSem:=⟨[.r false (.b Q11),.v QI],[.v Q31,.v QI],b3R⟩
def H67:Hints:=⟨[(1018,[.sv 1 QI,.sv 8 QI,.sv 9 .bool,.sv 47 QI,.sv 48 QI,.box pinned Q11,.box 4 Q31,.box 7 (.pair QI (.pair QI (.pair QI (.pair QI (.pair QI (.pair QL (.pair (.arr 3 QI) (.pair (.list false Q3) (.pair (.list true QI) Q13))))))))),.ptr 0 pinned [],.ptr 4 4 [],.ptr 7 7 []],[(.exit 0,[.sv 1 QI,.sv 8 QI,.sv 9 .bool,.box pinned Q11,.box 4 Q31,.box 7 (.pair QI (.pair QI (.pair QI (.pair QI (.pair QI (.pair QL (.pair (.arr 3 QI) (.pair (.list false Q3) (.pair (.list true QI) Q13))))))))),.ptr 0 pinned [],.ptr 4 4 [],.ptr 7 7 []])])],[],[(14,[.r [7,50],.r [7,51],.p,.v,.w [54,1054,pinned],.q,.x,.x,.x])]⟩
def a4q(s:Z59):Option (Z59 ⊕ (Z50 ⊕ Z34)):= cond (decide (s.2.1<s.1)) ((a1X (s.2.2.1,s.2.1)).bind fun y1=> cond (y1.1==1) (some (.inr (Sum.inr (((y1.2.1,y1.2.2.1,2,y1.2.2.2.2),()))))) (some (.inl (s.1,wrap .i64 (s.2.1+1),y1.2,())))) (some (.inr (Sum.inl (s.1,s.2.2.1,()))))
def a5O(x:Z15):Option Z15:= cond (x.2.2.1 != 0) (some x) ((a0h a4q (wrap .i64 ((wrap .i64 (a17 (wrap .i64 (x.2.1+7)) 8))*8),x.2.1,x,())).bind fun w2=> match w2 with |.inl a3=>some (a3.2.1.1,a3.1,a3.2.1.2.2) |.inr b4=>some b4.1)
def b2x:FSem:=⟨[.r false (.b Q11)],[],a5O⟩
def H69:Hints:=⟨[(58,[.sv 2 QI,.sv 3 QI,.box pinned Q11,.ptr 0 pinned []],[(.exit 0,[.sv 2 QI,.box pinned Q11,.ptr 0 pinned []]),(.ret,[.box pinned Q11])])],[],[]⟩
def a8R(s:(Int×Int×Int×a7E×c4Z)):Option ((Int×Int×Int×a7E×c4Z) ⊕ ((Int×a7E×c4Z) ⊕ (Int×Int×c0o))):= cond (decide (s.2.2.1<s.2.1)) ((b3R (s.2.2.2.2.2.1,s.2.2.2.2.1.2.1)).bind fun y7=> cond (y7.2.1 != 0) (some (.inr (Sum.inr ((0,2,(0,0,(0,0,0,()),[],[],()),()))))) (cond (lim ((a02 s.2.2.2.2.1.2.2.2.2.1)+1)) (some (.inl (s.1,s.2.1,wrap .i64 (s.2.2.1+1),s.2.2.2.1,(s.2.2.2.2.1.1,s.2.2.2.2.1.2.1,s.2.2.2.2.1.2.2.1,s.2.2.2.2.1.2.2.2.1,a04 s.2.2.2.2.1.2.2.2.2.1 ([y7.1]:List Z94),s.2.2.2.2.1.2.2.2.2.2),y7.2.2,()))) none)) (some (.inr (Sum.inl (s.1,s.2.2.2.1,s.2.2.2.2.1,s.2.2.2.2.2.1,()))))
def a7i(x:(List Int)):Option (a7E×Int×Int):= (a6s x).bind fun y1=> cond (y1.2.2.2 != 0) (some ((0,0,(0,0,0,()),[],[],()),0,y1.2.2.2)) (cond (decide ((x.length:Int)<(wrap .i64 ((wrap .i64 (y1.2.1+y1.2.2.1))+2)))) (some ((0,0,(0,0,0,()),[],[],()),0,3)) (cond ((decide (0≤(wrap .i64 (y1.2.1+y1.2.2.1))))&&(decide ((wrap .i64 (y1.2.1+y1.2.2.1))≤(x.length:Int)))) ((a7h (a07 (a01 (wrap .i64 (y1.2.1+y1.2.2.1))) x)).bind fun y2=> (a0q x (wrap .i64 (y1.2.1+y1.2.2.1))).bind fun x3=> (a0q x (wrap .i64 ((wrap .i64 (y1.2.1+y1.2.2.1))+1))).bind fun x4=> cond (y2 != (bits .u16 .or (a0A .u16 (wrap .u16 x3) 8) (wrap .u16 x4))) (some ((0,0,(0,0,0,()),[],[],()),0,5)) (cond ((decide (0≤(wrap .i64 (y1.2.1+y1.2.2.1))))&&(decide ((wrap .i64 (y1.2.1+y1.2.2.1))≤(x.length:Int)))) (cond ((decide (0≤y1.2.1))&&(decide (y1.2.1≤((a01 (wrap .i64 (y1.2.1+y1.2.2.1)):Nat):Int)))) ((b4E (a29 (a01 y1.2.1) (a07 (a01 (wrap .i64 (y1.2.1+y1.2.2.1))) x))).bind fun y5=> (a0h a8R (wrap .i64 (y1.2.1+y1.2.2.1),y1.1.2.2.1.2.1,0,(0,0,(0,0,0,()),[],[],()),y1.1,y5,())).bind fun w8=> match w8 with |.inl a9=>((a3g a9.2.2.2.1).bind fun y11=> cond (decide (y11.1≥8)) (some ((0,0,(0,0,0,()),[],[],()),0,2)) ((a5O y11.2).bind fun y12=> (a0v y12).bind fun y13=> cond (y13.1 != 0) (some ((0,0,(0,0,0,()),[],[],()),0,2)) ((a5f a9.2.2.1).bind fun y14=> cond (!y14) (some ((0,0,(0,0,0,()),[],[],()),0,2)) (some (a9.2.2.1,wrap .i64 (a9.1+2),0))))) |.inr b10=>some (b10.2.2.1,b10.1,b10.2.1)) none) none)) none))
def b5y:FSem:=⟨[.v (.list false (.int .u8))],[.v Q49,.v QI,.v QI],a7i⟩
def H24:Hints:=⟨[(2042,[.sv 9 QI,.sv 59 QI,.sv 60 QI,.box 2 Q49,.box 5 Q48,.box 1056 Q11,.ptr 2 2 [],.ptr 5 5 [],.ptr 10 1056 []],[(.exit 0,[.sv 9 QI,.box 2 Q49,.box 5 Q48,.box 1056 Q11,.ptr 2 2 [],.ptr 5 5 [],.ptr 10 1056 []]),(.ret,[.sv 3 QI,.sv 4 QI,.box 2 Q49,.ptr 2 2 []])])],[],[(7,[.v,.v,.v,.v,.v,.v,.v,.v,.v,.v,.v,.v,.v,.v,.v,.v,.v,.x])]⟩
def a9o(x:(List Int)):Option (Z7×Int×Int×Int):= (a6s x).bind fun y1=> cond (y1.2.2.2 != 0) (some ((0,0,0,()),0,0,y1.2.2.2)) (some (y1.1.2.2.1,y1.1.1,y1.1.2.1,0))
def c0w:FSem:=⟨[.v (.list false (.int .u8))],[.v Q8,.v QI,.v QI,.v QI],a9o⟩
def H26:Hints:=⟨[],[],[(4,[.q,.q,.r [6,23],.r [6,24],.r [6,25],.r [6,26],.w [0,2],.v,.x,.x])]⟩
def b9L(s:(Z4×Z4×Int×Unit)):Option ((Z4×Z4×Int×Unit) ⊕ Z0):= cond (decide (s.2.2.1<(s.1.length:Int))) ((a0q s.1 s.2.2.1).bind fun x1=> (a0q s.2.1 s.2.2.1).bind fun x2=> cond (!(eqT Q3 x1 x2)) (some (.inr (Sum.inr ((false,()))))) (some (.inl (s.1,s.2.1,wrap .i64 (s.2.2.1+1),())))) (some (.inr (Sum.inl ())))
def b5z(x:(Z4×Z4)):Option Bool:= cond ((x.1.length:Int) != (x.2.length:Int)) (some false) ((a0h b9L (x.1,x.2,0,())).bind fun w3=> match w3 with |.inl a4=>some true |.inr b5=>some b5.1)
def b5A:FSem:=⟨[.v (.list false Q3),.v (.list false Q3)],[.v .bool],b5z⟩
def e1t:Hints:=⟨[(58,[.sv 0 (.list false Q3),.sv 1 (.list false Q3),.sv 5 QI],[(.exit 0,[]),(.ret,[.sv 4 .bool])])],[],[(6,[.v,.v,.v,.v,.v,.v,.v,.v,.x])]⟩
def b7M(x:(Z5×Z5)):Option Bool:= cond (x.1.1==x.2.1) ((a3P (x.1.2.1,x.2.2.1)).bind fun y1=> some y1) (some false)
def b7N:FSem:=⟨[.v Q7,.v Q7],[.v .bool],b7M⟩
def e1u:Hints:=⟨[],[],[]⟩
def b9x(x:(Z94×Z94)):Option Bool:= cond (x.1.1==x.2.1) (cond (x.1.2.1==x.2.2.1) (cond (x.1.2.2.1==x.2.2.2.1) (cond (x.1.2.2.2.1==x.2.2.2.2.1) (cond (x.1.2.2.2.2.1==x.2.2.2.2.2.1) ((a3P (x.1.2.2.2.2.2.1,x.2.2.2.2.2.2.1)).bind fun y1=> cond y1 (cond (eqT (.arr 3 (.int .i64)) x.1.2.2.2.2.2.2.1 x.2.2.2.2.2.2.2.1) ((b5z (x.1.2.2.2.2.2.2.2.1,x.2.2.2.2.2.2.2.2.1)).bind fun y2=> cond y2 ((a3P (x.1.2.2.2.2.2.2.2.2.1,x.2.2.2.2.2.2.2.2.2.1)).bind fun y3=> cond y3 ((b7M (x.1.2.2.2.2.2.2.2.2.2.1,x.2.2.2.2.2.2.2.2.2.2.1)).bind fun y4=> cond y4 ((a3P (x.1.2.2.2.2.2.2.2.2.2.2.1,x.2.2.2.2.2.2.2.2.2.2.2.1)).bind fun y5=> some y5) (some false)) (some false)) (some false)) (some false)) (some false)) (some false)) (some false)) (some false)) (some false)) (some false)
def b9y:FSem:=⟨[.v Q31,.v Q31],[.v .bool],b9x⟩
def H42:Hints:=⟨[],[],[]⟩
def c0x(s:(Z14×Z14×Int×Unit)):Option ((Z14×Z14×Int×Unit) ⊕ Z0):= cond (decide (s.2.2.1<(s.1.length:Int))) ((a0q s.1 s.2.2.1).bind fun x1=> (a0q s.2.1 s.2.2.1).bind fun x2=> cond (!(eqT Q8 x1 x2)) (some (.inr (Sum.inr ((false,()))))) (some (.inl (s.1,s.2.1,wrap .i64 (s.2.2.1+1),())))) (some (.inr (Sum.inl ())))
def b6o(x:(Z14×Z14)):Option Bool:= cond ((x.1.length:Int) != (x.2.length:Int)) (some false) ((a0h c0x (x.1,x.2,0,())).bind fun w3=> match w3 with |.inl a4=>some true |.inr b5=>some b5.1)
def b6p:FSem:=⟨[.v (.list false Q8),.v (.list false Q8)],[.v .bool],b6o⟩
def H76:Hints:=⟨[(58,[.sv 0 (.list false Q8),.sv 1 (.list false Q8),.sv 5 QI],[(.exit 0,[]),(.ret,[.sv 4 .bool])])],[],[(6,[.v,.v,.v,.v,.v,.v,.v,.v,.x])]⟩
def c0y(s:d1E):Option (d1E ⊕ Z0):= cond (decide (s.1<(s.2.1.2.2.2.2.1.length:Int))) ((a0q s.2.1.2.2.2.2.1 s.1).bind fun x3=> (a0q s.2.2.1.2.2.2.2.1 s.1).bind fun x4=> (b9x (x3,x4)).bind fun y5=> cond (!y5) (some (.inr (Sum.inr ((false,()))))) (some (.inl (wrap .i64 (s.1+1),s.2.1,s.2.2.1,())))) (some (.inr (Sum.inl ())))
def b6q(x:(a7E×a7E)):Option Bool:= (show Option (Bool×d4R)from cond (x.1.1 != x.2.1) (some (true,x.1,x.2,())) (cond (x.1.2.1 != x.2.2.1) (some (true,x.1,x.2,())) (cond (!(eqT Q8 x.1.2.2.1 x.2.2.2.1)) (some (true,x.1,x.2,())) ((b6o (x.1.2.2.2.1,x.2.2.2.2.1)).bind fun y1=> cond (!y1) (some (true,x.1,x.2,())) (some ((x.1.2.2.2.2.1.length:Int) != (x.2.2.2.2.2.1.length:Int),x.1,x.2,())))))).bind fun z2=> cond z2.1 (some false) ((a0h c0y (0,z2.2.1,z2.2.2.1,())).bind fun w6=> match w6 with |.inl a7=>some true |.inr b8=>some b8.1)
def b6r:FSem:=⟨[.v Q49,.v Q49],[.v .bool],b6q⟩
def H28:Hints:=⟨[(58,[.sv 5 QI,.vp 2 Q49,.vp 3 Q49],[(.exit 0,[]),(.ret,[.sv 4 .bool])])],[(6,[(.normal,[.sv 41 .bool,.vp 2 Q49,.vp 3 Q49])])],[(6,[.v,.v,.v,.v,.v,.v,.v,.v,.v,.v,.x,.x])]⟩
def a7L(s:Z53):Option (Z53 ⊕ Z42):= cond (decide (s.2.2.2.1<s.2.2.1)) ((a0q s.2.1 s.2.2.2.1).bind fun x2=> (show Option (Int×(Int×((List Int)×(Int×Int×Z8))))from(a6c x2).bind fun y3=> cond (!y3) (some (s.1,x2,s.2.1,s.2.2.1,s.2.2.2.1,true,s.2.2.2.2.1,())) (cond (decide (s.1<0)) none (cond ((a0A .i64 1 s.1)==0) none (some (s.1,x2,s.2.1,s.2.2.1,s.2.2.2.1,(a22 x2 (a0A .i64 1 s.1)) != 0,s.2.2.2.2.1,()))))).bind fun z4=> cond z4.2.2.2.2.2.1 (some (.inr (Sum.inr ((6,[],()))))) (cond (decide (z4.1<0)) none (cond (lim ((a02 z4.2.2.2.2.2.2.1)+1)) (some (.inl (z4.1,z4.2.2.1,z4.2.2.2.1,wrap .i64 (z4.2.2.2.2.1+1),a04 z4.2.2.2.2.2.2.1 [a0D .i64 z4.2.1 z4.1],()))) none))) (some (.inr (Sum.inl (s.2.2.2.2.1,()))))
def a8j(x:((List Int)×Int)):Option ((List Int)×Int):= (show Option Z18 from cond (decide (x.2<0)) (some (x.1,x.2,true,())) (some (x.1,x.2,decide (x.2 > 30),()))).bind fun z1=> cond z1.2.2.1 (some ([],1)) ((a0h a7L (z1.2.1,z1.1,(z1.1.length:Int),0,[],())).bind fun w5=> match w5 with |.inl a6=>some (a6.1,0) |.inr b7=>some (b7.2.1,b7.1))
def b4m:FSem:=⟨[.v QL,.v QI],[.o QI,.v QI],a8j⟩
def H91:Hints:=⟨[(122,[.sv 1 QI,.sv 15 QL,.sv 16 QI,.sv 17 QI,.own 6 6 QI],[(.exit 0,[.own 6 6 QI]),(.ret,[.sv 5 QI,.own 4 4 QI])])],[(6,[(.normal,[.sv 0 QL,.sv 1 QI,.sv 14 .bool])]),(15666,[(.normal,[.sv 1 QI,.sv 8 QI,.sv 15 QL,.sv 16 QI,.sv 17 QI,.sv 30 .bool,.own 6 6 QI])])],[]⟩
def a1Y(x:Int):Option Int:= cond (x==0) (some 64) ((a0q b3a (a0D .u64 (wrap .u64 ((bits .u64 .and x (wrap .u64 (0-x)))*285870213051353865)) 58)).bind fun x1=> some (wrap .i64 x1))
def a1k:FSem:=⟨[.v (.int .u64)],[.v QI],a1Y⟩
def c5a:Hints:=⟨[],[],[]⟩
def b2a:Cx:=c0p [] [] [0,2] []
theorem c1N{ρ:Type}{cx:Cx}{ops:List Oper}:∀(l1 l2:List (Md×Oper)) (Γ:AE) (K:AE→Rs ρ),a6F cx ops (l1++l2) Γ K=a6F cx ops l1 Γ fun Γ'=>a6F cx ops l2 Γ' K
 | [],_,_,_=>rfl
 |(md,o)::l1,l2,Γ,K=>by
  simp only[a16,a6F];congr 1;funext Γ';exact c1N l1 l2 Γ' K
theorem c0z{ρ:Type}{cx:Cx}{H:Hints}{a b:Code}{p:Nat}(h:find H.cuts p=none)(Γ:AE)(K:Ex→AE→Rs ρ):a1y cx H (.seq a b) p Γ K=a1y cx H a (2*p) Γ fun e Γ'=>match e with
   |.normal=>a1y cx H b (2*p+1) Γ' K
   |e=>K e Γ':=by
 simp only[a1y,h];rfl
theorem c8i{ρ:Type}{cx:Cx}{H:Hints}{id:Nat}{ops:Array Oper}{p:Nat}(Γ:AE)(K:Ex→AE→Rs ρ):a1y cx H (.region id ops false) p Γ K=a6F cx ops.toList (ops.toList.map fun o=>(.x,o)) Γ fun Γ'=>K .normal Γ':=by
 simp only[a1y,cF]
def b1r:Code:=match Tryz.f174.body with
 |some c=>c
 |none=>.skip
def c5b:Code→Code
 |.seq a _=>a
 |c=>c
def d1G:Code→Code
 |.seq _ b=>b
 |c=>c
def d3u:Code→Array Oper
 |.region _ ops _=>ops
 |_=>#[]
def d0x:Code:=d1G (d1G b1r)
def b5B:List Oper:=(d3u (c5b d0x)).toList
def Γ174(x:Int):AE:=(((ini [.v (.int .u64)] x).set 2 (.val QI (0:Int))).set 3 (.val (.int .u64) x)).set 4 (.val .bool (x==(0:Int)))
def Γ174r(x:Int):AE:=(Γ174 x).set 2 (.val QI (64:Int))
def c8j(e:Ex)(Γ:AE):Option Int:=match e,Γ.pd with
  |.exit _,_=>none
  |_,some _=>none
  |_,none=>(Γ.upto Tryz.f174.ntmps).outs b2a [] Tryz.f174.ntmps [.v QI] (Tryz.f174.results.toList.map .inl) fun y _=>some y
def Γ174b(x a b c i:Int):AE:=((((((Γ174 x).set 5 (.val (.int .u64) x)).set 6 (.val (.int .u64) x)).set 7 (.val (.int .u64) a)).set 8 (.val (.int .u64) b)).set 9 (.val (.int .u64) c)).set 10 (.val (.int .u64) i)
set_option maxRecDepth 100000
theorem d4S:b1r=.seq (c5b b1r) (.seq (c5b (d1G b1r)) (.seq (.region 3 (d3u (c5b d0x)) false) .ret)):=by kernel_rfl
theorem d6H(x:Int):b9P b2a c5a Tryz.f174 a1k.ps a1k.rs x=a1y b2a c5a b1r 1 (ini [.v (.int .u64)] x) c8j:=rfl
theorem d6I(x:Int)(K:Ex→AE→Option Int):a1y b2a c5a (c5b b1r) 2 (ini [.v (.int .u64)] x) K=K .normal ((ini [.v (.int .u64)] x).set 2 (.val (.int .i64) (0:Int))):=by kernel_rfl
theorem d6J(x:Int)(K:Ex→AE→Option Int):a1y b2a c5a (c5b (d1G b1r)) 6 ((ini [.v (.int .u64)] x).set 2 (.val (.int .i64) (0:Int))) K=bif x==(0:Int)then K .ret (Γ174r x)else K .normal (Γ174 x):=by kernel_rfl
theorem d6K(x:Int):c8j .ret (Γ174r x)=some (64:Int):=by kernel_rfl
theorem d6L(x:Int)(K:AE→Option Int):a6F b2a b5B ((b5B.map fun o=>(Md.x,o)).take 6) (Γ174 x) K =
  K (Γ174b x (wrap .u64 (0-x)) (bits .u64 .and x (wrap .u64 (0-x))) (wrap .u64 ((bits .u64 .and x (wrap .u64 (0-x)))*(285870213051353865:Int))) (a0D .u64 (wrap .u64 ((bits .u64 .and x (wrap .u64 (0-x)))*(285870213051353865:Int))) (58:Int))):=by kernel_rfl
theorem d6M(x a b c i:Int):a6F b2a b5B ((b5B.map fun o=>(Md.x,o)).drop 6) (Γ174b x a b c i) (fun Γ=>c8j .ret Γ)=(a0q b3a i).bind fun x1=>some (wrap .i64 x1):=by kernel_rfl
theorem d6N(x:Int):a6F b2a b5B (b5B.map fun o=>(Md.x,o)) (Γ174 x) (fun Γ=>c8j .ret Γ)=(a0q b3a (a0D .u64 (wrap .u64 ((bits .u64 .and x (wrap .u64 (0-x)))*(285870213051353865:Int))) (58:Int))).bind fun x1=>some (wrap .i64 x1):=by
 rw[←List.take_append_drop 6 (b5B.map fun o=>(Md.x,o)),c1N,d6L,d6M]
theorem d7w(x:Int):a1y b2a c5a b1r 1 (ini [.v (.int .u64)] x) c8j=a1Y x:=by
 rw[d4S,c0z rfl,d6I];simp only[];rw[c0z rfl,d6J];simp only[];rw[c0z rfl,c8i];simp only[a1y];rw[d6K];exact congrArg (fun z=>bif x==(0:Int)then some (64:Int)else z) (d6N x)
theorem d8i(x):b9P b2a c5a Tryz.f174 a1k.ps a1k.rs x=a1k.F x:=(d6H x).trans (d7w x)
def a6u(s:Z27):Option Z58:= cond (decide (s.2.2.2.1<s.2.2.1)) ((a0q s.2.1 s.2.2.2.1).bind fun x1=> some (.inl (bits .i64 .or s.1 x1,s.2.1,s.2.2.1,wrap .i64 (s.2.2.2.1+1),()))) (some (.inr (s.1,())))
def a4E(x:(List Int)):Option Int:= (a0h a6u (0,x,(x.length:Int),0,())).bind fun w2=> cond (w2.1==0) (some 0) ((a1Y (wrap .u64 w2.1)).bind fun y3=> some (a4d y3 30))
def b2b:FSem:=⟨[.v QL],[.v QI],a4E⟩
def H92:Hints:=⟨[(58,[.sv 3 QI,.sv 6 QL,.sv 7 QI,.sv 8 QI],[(.exit 0,[.sv 3 QI])])],[],[]⟩
def a6v(s:Z30):Option (Z30 ⊕ Z16):= cond (decide ((wrap .i64 (s.1+1))<(s.2.2.2.1.length:Int))) (cond ((decide (0≤(wrap .i64 (s.1+1))))&&(decide ((wrap .i64 (s.1+1))<(s.2.2.2.1.length:Int)))) (cond ((decide (0≤s.1))&&(decide (s.1<(s.2.2.2.1.length:Int)))) (cond ((decide (0≤s.1))&&(decide (s.1<(s.2.2.2.1.length:Int)))) (some (.inl (wrap .i64 (s.1+1),s.2.1,s.2.2.1,a05 s.2.2.2.1 (a01 s.1) (wrap .i64 ((a03 s.2.2.2.1 (a01 (wrap .i64 (s.1+1))) 0)-(a03 s.2.2.2.1 (a01 s.1) 0))),()))) none) none) none) (some (.inr (s.2.1,s.2.2.1,s.2.2.2.1,())))
def a8S(s:Z16):Option (Z16 ⊕ ((List Int)×Unit)):= cond (decide (s.2.1<s.1)) ((a0h a6v (0,s.1,s.2.1,s.2.2.1,())).bind fun w3=> cond ((decide (0≤(wrap .i64 ((w3.2.2.1.length:Int)-1))))&&(decide ((wrap .i64 ((w3.2.2.1.length:Int)-1))≤(w3.2.2.1.length:Int)))) (cond (decide ((a01 (wrap .i64 ((w3.2.2.1.length:Int)-1)))≤(a02 w3.2.2.1))) (some (.inl (w3.1,wrap .i64 (w3.2.1+1),a07 (a01 (wrap .i64 ((w3.2.2.1.length:Int)-1))) w3.2.2.1,()))) none) none) (some (.inr (s.2.2.1,())))
def a5E(x:((List Int)×Int)):Option ((List Int)×Int):= (show Option Z18 from cond (decide (x.2<0)) (some (x.1,x.2,true,())) (cond (decide (x.2 > 4)) (some (x.1,x.2,true,())) (some (x.1,x.2,decide ((x.1.length:Int)<x.2),())))).bind fun z1=> cond z1.2.2.1 (some ([],1)) ((a2W z1.1).bind fun y2=> cond (!y2) (some ([],6)) (cond (lim (a02 z1.1)) ((a0h a8S (z1.2.1,0,z1.1,())).bind fun w4=> (a2W w4.1).bind fun y5=> cond (!y5) (some ([],6)) (some (w4.1,0))) none))
def b5C:FSem:=⟨[.v QL,.v QI],[.o QI,.v QI],a5E⟩
def e1v:Hints:=⟨[(250,[.sv 25 QI,.sv 26 QI,.own 6 6 QI],[(.exit 0,[.own 6 6 QI])]),(64098,[.sv 7 QI,.sv 25 QI,.sv 26 QI,.own 6 6 QI],[(.exit 2,[.sv 25 QI,.sv 26 QI,.own 6 6 QI])])],[(6,[(.normal,[.sv 0 QL,.sv 1 QI,.sv 19 .bool])])],[(11,[.q,.v,.q,.v,.v,.q,.q,.q,.v,.q,.q,.v,.x,.x])]⟩
def a5F(s:((List Int)×Z37)):Option (((List Int)×Z37) ⊕ Z42):= cond (decide (s.2.2.2.1<(s.1.length:Int))) ((a0q s.1 s.2.2.2.1).bind fun x4=> cond ((decide (0≤s.2.2.2.1))&&(decide (s.2.2.2.1≤(s.1.length:Int)))) ((a5z (a07 (a01 s.2.2.2.1) s.1,s.2.1,s.2.2.1)).bind fun y5=> (a6b (wrap .i64 (x4-y5))).bind fun y6=> cond (!y6) (some (.inr (Sum.inr ((6,[],()))))) (cond (lim ((a02 s.2.2.2.2.1)+1)) (some (.inl (s.1,s.2.1,s.2.2.1,wrap .i64 (s.2.2.2.1+1),a04 s.2.2.2.2.1 [wrap .i64 (x4-y5)],()))) none)) none) (some (.inr (Sum.inl (s.2.2.2.2.1,()))))
def a8k(x:Z10):Option ((List Int)×Int):= (show Option Z43 from(a5x (x.2.1,x.2.2)).bind fun y1=> cond (!y1) (some (x.1,x.2.1,x.2.2,true,())) (some (x.1,x.2.1,x.2.2,decide ((x.1.length:Int)<(x.2.1.length:Int)),()))).bind fun z2=> cond z2.2.2.2.1 (some ([],1)) ((a3d z2.1).bind fun y3=> cond (!y3) (some ([],6)) (cond ((decide (0≤(wrap .i64 ((z2.1.length:Int)-(z2.2.1.length:Int)))))&&(lim (a01 (wrap .i64 ((z2.1.length:Int)-(z2.2.1.length:Int)))))) ((a0h a5F (z2.1,z2.2.1,z2.2.2.1,(z2.2.1.length:Int),[],())).bind fun w7=> match w7 with |.inl a8=>some (a8.1,0) |.inr b9=>some (b9.2.1,b9.1)) none))
def b9z:FSem:=⟨[.v QL,.v QL,.v QI],[.o QI,.v QI],a8k⟩
def e1w:Hints:=⟨[(250,[.sv 0 QL,.sv 1 QL,.sv 2 QI,.sv 9 QI,.own 8 8 QI],[(.exit 0,[.own 8 8 QI]),(.ret,[.sv 7 QI,.own 6 6 QI])])],[(6,[(.normal,[.sv 0 QL,.sv 1 QL,.sv 2 QI,.sv 21 .bool])])],[(9,[.v,.v,.v,.v,.v,.v,.v,.v,.v,.v,.x,.x])]⟩
def a7j(s:((List Int)×Z74)):Option (((List Int)×Z74) ⊕ Z42):= cond (decide (s.2.2.2.2.1<s.2.2.2.1)) ((a0q s.2.2.1 s.2.2.2.2.1).bind fun x3=> (a5p (s.1,s.2.2.2.2.1,s.2.1,s.2.2.2.2.2.2.1)).bind fun y4=> (a8x (wrap .i64 (x3-y4))).bind fun y5=> cond (!y5) (some (.inr (Sum.inr ((6,[],()))))) (cond (lim ((a02 s.2.2.2.2.2.1)+1)) (some (.inl (s.1,s.2.1,s.2.2.1,s.2.2.2.1,wrap .i64 (s.2.2.2.2.1+1),a04 s.2.2.2.2.2.1 [wrap .i64 (x3-y4)],s.2.2.2.2.2.2.1,()))) none)) (some (.inr (Sum.inl (s.2.2.2.2.2.1,()))))
def a8C(x:((List Int)×(Int×(List Int)))):Option ((List Int)×Int):= (a9E (x.2.1,x.2.2)).bind fun y1=> cond (!y1) (some ([],1)) ((a5o x.1).bind fun y2=> cond (!y2) (some ([],6)) (cond ((decide (0≤(x.1.length:Int)))&&(lim (a01 (x.1.length:Int)))) ((a0h a7j (x.1,x.2.1,x.1,(x.1.length:Int),0,[],x.2.2,())).bind fun w6=> match w6 with |.inl a7=>some (a7.1,0) |.inr b8=>some (b8.2.1,b8.1)) none))
def b3s:FSem:=⟨[.v QL,.v QI,.v (.arr 3 QI)],[.o QI,.v QI],a8C⟩
def e1x:Hints:=⟨[(250,[.sv 0 QL,.sv 1 QI,.sv 22 QL,.sv 23 QI,.sv 24 QI,.own 8 8 QI,.vp 5 (.arr 3 QI)],[(.exit 0,[.own 8 8 QI]),(.ret,[.sv 7 QI,.own 6 6 QI])])],[],[]⟩
def a6w(s:(Z4×Int×Int×Int×Z75)):Option ((Z4×Int×Int×Int×Z75) ⊕ ((Z4×Z16) ⊕ Z5)):= cond (decide (s.2.2.2.2.1<s.2.2.2.1)) (cond ((decide (0≤s.2.2.2.2.1))&&(decide (s.2.2.2.2.1<(s.2.2.2.2.2.1.length:Int)))) ((a2A s.2.2.2.2.2.2.1).bind fun y6=> (a7g (wrap .i64 ((a03 s.2.2.2.2.2.1 (a01 s.2.2.2.2.1) 0)-y6.1))).bind fun y7=> cond (!y7) (some (.inr (Sum.inr ((6,[],()))))) ((a3Y (y6.2,a03 s.2.2.2.2.2.1 (a01 s.2.2.2.2.1) 0)).bind fun y8=> cond ((decide (0≤s.2.2.2.2.1))&&(decide (s.2.2.2.2.1<(s.2.2.2.2.2.1.length:Int)))) (some (.inl (s.1,s.2.1,s.2.2.1,s.2.2.2.1,wrap .i64 (s.2.2.2.2.1+1),a05 s.2.2.2.2.2.1 (a01 s.2.2.2.2.1) (wrap .i64 ((a03 s.2.2.2.2.2.1 (a01 s.2.2.2.2.1) 0)-y6.1)),y8,()))) none)) none) (some (.inr (Sum.inl (s.1,s.2.1,s.2.2.1,s.2.2.2.2.2.1,()))))
def a6x(s:(Z4×Z16)):Option ((Z4×Z16) ⊕ Z42):= cond (decide (s.2.2.1<s.2.1)) ((a0q s.1 s.2.2.1).bind fun x4=> (b0o x4).bind fun y5=> cond (y5.2 != 0) (some (.inr (Sum.inr ((y5.2,[],()))))) ((a0h a6w (s.1,s.2.1,s.2.2.1,(s.2.2.2.1.length:Int),0,s.2.2.2.1,y5.1,())).bind fun w9=> match w9 with |.inl a10=>some (.inl (a10.1,a10.2.1,wrap .i64 (a10.2.2.1+1),a10.2.2.2.1,())) |.inr b11=>some (.inr (Sum.inr ((b11.1,b11.2.1,())))))) (some (.inr (Sum.inl (s.2.2.2.1,()))))
def b2c(x:((List Int)×Z4)):Option ((List Int)×Int):= (a8v x.2).bind fun y1=> cond (!y1) (some ([],1)) ((a6m x.1).bind fun y2=> cond (!y2) (some ([],6)) ((a1h x.1).bind fun y3=> (a0h a6x (x.2,(x.2.length:Int),0,y3,())).bind fun w12=> match w12 with |.inl a13=>some (a13.1,0) |.inr b14=>some (b14.2.1,b14.1)))
def c0A:FSem:=⟨[.v QL,.v (.list false Q3)],[.o QI,.v QI],b2c⟩
def e1y:Hints:=⟨[(250,[.sv 22 (.list false Q3),.sv 23 QI,.sv 24 QI,.own 6 6 QI],[(.exit 0,[.own 6 6 QI]),(.ret,[.sv 5 QI,.own 4 4 QI])]),(256414,[.sv 22 (.list false Q3),.sv 23 QI,.sv 24 QI,.sv 37 QI,.sv 38 QI,.own 6 6 QI,.box 1030 Q12,.ptr 9 1030 [],.ref 36 6 []],[(.exit 2,[.sv 22 (.list false Q3),.sv 23 QI,.sv 24 QI,.own 6 6 QI]),(.ret,[.sv 5 QI,.own 4 4 QI])])],[],[]⟩
def b3t(x:(Z94×(List Int))):Option (Int×Z94):= (show Option ((List Int)×((List Int)×(Int×Z97)))from cond (x.1.1==2) ((a5E (x.2,x.1.2.2.1)).bind fun y1=> some (x.2,y1.1,y1.2,x.1,())) (cond (x.1.1==3) ((a8k (x.2,x.1.2.2.2.2.2.1,x.1.2.2.2.1)).bind fun y2=> some (x.2,y2.1,y2.2,x.1,())) (cond (x.1.1==4) ((a8C (x.2,x.1.2.2.2.2.1,x.1.2.2.2.2.2.2.1)).bind fun y3=> cond (y3.2==0) ((a8k (y3.1,x.1.2.2.2.2.2.1,x.1.2.2.2.1)).bind fun y4=> some (y3.1,y4.1,y4.2,x.1,())) (some (y3.1,[],y3.2,x.1,()))) (cond (x.1.1==5) ((b2c (x.2,x.1.2.2.2.2.2.2.2.1)).bind fun y5=> some (x.2,y5.1,y5.2,x.1,())) (some (x.2,[],0,x.1,())))))).bind fun z6=> cond (z6.2.2.1 != 0) (some (z6.2.2.1,z6.2.2.2.1)) ((a5y (z6.2.2.2.1,(z6.1.length:Int))).bind fun y7=> cond ((decide (0≤y7))&&(decide (y7≤(z6.1.length:Int)))) ((a1h (a07 (a01 y7) z6.1)).bind fun y8=> some (0,z6.2.2.2.1.1,z6.2.2.2.1.2.1,z6.2.2.2.1.2.2.1,z6.2.2.2.1.2.2.2.1,z6.2.2.2.1.2.2.2.2.1,z6.2.2.2.1.2.2.2.2.2.1,z6.2.2.2.1.2.2.2.2.2.2.1,z6.2.2.2.1.2.2.2.2.2.2.2.1,y8,z6.2.2.2.1.2.2.2.2.2.2.2.2.2.1,z6.2.1,z6.2.2.2.1.2.2.2.2.2.2.2.2.2.2.2)) none)
def c1O:FSem:=⟨[.r false (.b Q31),.v QL],[.v QI],b3t⟩
def e1z:Hints:=⟨[],[(15,[(.normal,[.sv 1 QL,.sv 5 QL,.sv 6 QI,.box pinned Q31,.ptr 0 pinned []])])],[(7,[.v,.p,.p,.q,.q,.p,.p,.q,.q,.x,.x,.q,.q,.q,.x]),(9,[.v,.p,.p,.q,.q,.p,.p,.q,.q,.x,.x,.q,.q,.q,.x]),(11,[.q,.p,.p,.q,.q,.p,.p,.q,.q,.x,.x,.q,.q,.q,.x])]⟩
def a9S(s:Z29):Option (Z29 ⊕ (Int×Unit)):= cond (decide (s.2.2.2.1≤25)) ((a4m (s.2.2.2.1,s.1)).bind fun y2=> cond (decide (y2<s.2.2.1)) (some (.inl (s.1,s.2.2.2.1,y2,wrap .i64 (s.2.2.2.1+1),()))) (some (.inl (s.1,s.2.1,s.2.2.1,wrap .i64 (s.2.2.2.1+1),())))) (some (.inr (s.2.1,())))
def b3u(x:(List Int)):Option Int:= (a4m (0,x)).bind fun y1=> (a0h a9S (x,0,y1,1,())).bind fun w3=> some w3.1
def c1P:FSem:=⟨[.v QL],[.v QI],b3u⟩
def e1A:Hints:=⟨[(58,[.sv 0 QL,.sv 3 QI,.sv 4 QI,.sv 5 QI],[(.exit 0,[.sv 3 QI])])],[],[]⟩
def a9T(x:(List Int)):Option Int:= (b3u x).bind fun y1=> (a6J x).bind fun y2=> (a4m (y1,x)).bind fun y3=> cond (decide (y2<y3)) (some 31) (some y1)
def b7O:FSem:=⟨[.v QL],[.v QI],a9T⟩
def e1B:Hints:=⟨[],[],[]⟩
def a8T(s:(Int×(Int×(Int×((List Int)×(Int×(Int×((List Int)×(Int×(Int×((List Int)×Z86))))))))))):Option ((Int×(Int×(Int×((List Int)×(Int×(Int×((List Int)×(Int×(Int×((List Int)×Z86)))))))))) ⊕ (Int×(Int×(Int×((List Int)×(Int×Int×Z86)))))):= cond (decide (s.2.2.2.2.2.2.2.2.1<s.2.2.2.2.2.2.2.1)) (cond ((decide (0≤s.2.2.2.2.2.2.2.2.1))&&(decide (s.2.2.2.2.2.2.2.2.1<(s.2.2.2.2.2.2.2.2.2.1.length:Int)))) (cond ((decide (0≤(a03 s.2.2.2.2.2.2.2.2.2.1 (a01 s.2.2.2.2.2.2.2.2.1) 0)))&&(decide ((a03 s.2.2.2.2.2.2.2.2.2.1 (a01 s.2.2.2.2.2.2.2.2.1) 0)≤(s.2.2.2.2.2.2.1.length:Int)))) ((a9T (a07 (a01 (a03 s.2.2.2.2.2.2.2.2.2.1 (a01 s.2.2.2.2.2.2.2.2.1) 0)) s.2.2.2.2.2.2.1)).bind fun y3=> cond (lim ((a02 s.2.2.2.2.2.2.2.2.2.2.2.2.1.2.1)+1)) (cond ((decide (0≤(a03 s.2.2.2.2.2.2.2.2.2.1 (a01 s.2.2.2.2.2.2.2.2.1) 0)))&&(decide ((a03 s.2.2.2.2.2.2.2.2.2.1 (a01 s.2.2.2.2.2.2.2.2.1) 0)≤(s.2.2.2.2.2.2.1.length:Int)))) (some (.inl (s.1,s.2.1,s.2.2.1,s.2.2.2.1,s.2.2.2.2.1,s.2.2.2.2.2.1,a29 (a01 (a03 s.2.2.2.2.2.2.2.2.2.1 (a01 s.2.2.2.2.2.2.2.2.1) 0)) (a07 (a02 s.2.2.2.2.2.2.1) s.2.2.2.2.2.2.1),s.2.2.2.2.2.2.2.1,wrap .i64 (s.2.2.2.2.2.2.2.2.1+1),s.2.2.2.2.2.2.2.2.2.1,s.2.2.2.2.2.2.2.2.2.2.1,s.2.2.2.2.2.2.2.2.2.2.2.1,(s.2.2.2.2.2.2.2.2.2.2.2.2.1.1,a04 s.2.2.2.2.2.2.2.2.2.2.2.2.1.2.1 [y3],s.2.2.2.2.2.2.2.2.2.2.2.2.1.2.2),()))) none) none) none) none) (some (.inr (s.1,s.2.1,s.2.2.1,s.2.2.2.1,s.2.2.2.2.1,s.2.2.2.2.2.1,s.2.2.2.2.2.2.2.2.2.2.1,s.2.2.2.2.2.2.2.2.2.2.2.1,s.2.2.2.2.2.2.2.2.2.2.2.2.1,())))
def a4F(s:(Int×(Int×(Int×((List Int)×(Int×Int×Z73)))))):Option ((Int×(Int×(Int×((List Int)×(Int×Int×Z73))))) ⊕ Z73):= cond (decide (s.2.2.2.2.2.1≤(a4d (a2y s.2.2.1 0) 8))) ((a3N (s.2.2.2.2.2.1,s.1,s.2.1)).bind fun y2=> cond ((y2.length:Int)==0) (some (.inl (s.1,s.2.1,s.2.2.1,s.2.2.2.1,s.2.2.2.2.1,wrap .i64 (s.2.2.2.2.2.1+1),s.2.2.2.2.2.2.1,s.2.2.2.2.2.2.2.1,()))) ((a0h a8T (s.1,s.2.1,s.2.2.1,s.2.2.2.1,s.2.2.2.2.1,s.2.2.2.2.2.1,s.2.2.2.1,(y2.length:Int),0,y2,s.2.2.2.2.2.2.1,s.2.2.2.2.2.2.2.1,(s.2.2.2.2.2.1,[],()),())).bind fun w4=> (a5B (w4.2.2.2.2.2.2.2.2.1,w4.1,w4.2.1,w4.2.2.2.1)).bind fun y5=> (show Option (Int×(Int×(Int×((List Int)×(Int×Int×Int×Bool×Z86)))))from cond (w4.2.2.2.2.1==0) (some (w4.1,w4.2.1,w4.2.2.1,w4.2.2.2.1,w4.2.2.2.2.1,w4.2.2.2.2.2.1,y5,true,w4.2.2.2.2.2.2.1,w4.2.2.2.2.2.2.2.1,w4.2.2.2.2.2.2.2.2.1,())) (some (w4.1,w4.2.1,w4.2.2.1,w4.2.2.2.1,w4.2.2.2.2.1,w4.2.2.2.2.2.1,y5,decide (y5<w4.2.2.2.2.1),w4.2.2.2.2.2.2.1,w4.2.2.2.2.2.2.2.1,w4.2.2.2.2.2.2.2.2.1,()))).bind fun z6=> cond z6.2.2.2.2.2.2.2.1 (some (.inl (z6.1,z6.2.1,z6.2.2.1,z6.2.2.2.1,z6.2.2.2.2.2.2.1,wrap .i64 (z6.2.2.2.2.2.1+1),z6.2.2.2.2.2.2.2.2.1,z6.2.2.2.2.2.2.2.2.2.2.1,()))) (some (.inl (z6.1,z6.2.1,z6.2.2.1,z6.2.2.2.1,z6.2.2.2.2.1,wrap .i64 (z6.2.2.2.2.2.1+1),z6.2.2.2.2.2.2.2.2.1,z6.2.2.2.2.2.2.2.2.2.1,()))))) (some (.inr (s.2.2.2.2.2.2.1,s.2.2.2.2.2.2.2.1,())))
def b2d(x:(Int×Z1)):Option (Z5×Int):= (a8g (x.1,x.2.1,x.2.2.2)).bind fun y1=> cond (!y1) (some ((0,[],()),1)) ((a0h a4F (x.1,x.2.1,x.2.2.1,x.2.2.2,0,0,(0,[],()),(0,[],()),())).bind fun w7=> some (w7.2.1,0))
def c0B:FSem:=⟨[.v QI,.v QI,.v QI,.v QL],[.v Q7,.v QI],b2d⟩
def e1C:Hints:=⟨[(250,[.sv 0 QI,.sv 1 QI,.sv 2 QI,.sv 3 QL,.sv 11 QI,.sv 12 QI,.box 8 Q7,.box 10 Q7,.ptr 8 8 [],.ptr 10 10 []],[(.exit 0,[.box 8 Q7,.box 10 Q7,.ptr 8 8 [],.ptr 10 10 []])]),(512634,[.sv 0 QI,.sv 1 QI,.sv 2 QI,.sv 3 QL,.sv 11 QI,.sv 12 QI,.sv 15 QL,.sv 43 QI,.sv 44 QI,.own 42 13 QI,.box 8 Q7,.box 10 Q7,.box 14 Q6,.ptr 8 8 [],.ptr 10 10 [],.ptr 14 14 []],[(.exit 2,[.sv 0 QI,.sv 1 QI,.sv 2 QI,.sv 3 QL,.sv 11 QI,.sv 12 QI,.box 8 Q7,.box 10 Q7,.box 14 Q6,.ptr 8 8 [],.ptr 10 10 [],.ptr 14 14 []])])],[(256319,[(.normal,[.sv 0 QI,.sv 1 QI,.sv 2 QI,.sv 3 QL,.sv 11 QI,.sv 12 QI,.sv 18 QI,.sv 72 .bool,.box 8 Q7,.box 10 Q7,.box 14 Q7,.ptr 8 8 [],.ptr 10 10 [],.ptr 14 14 []])])],[(15,[.q,.q,.v,.v,.v,.v,.q,.x,.x,.x])]⟩
def a6d(s:((List Int)×((List Int)×d1D))):Option (((List Int)×((List Int)×d1D)) ⊕ (((List Int)×b4c) ⊕ (Int×Z97))):= cond (decide (s.2.2.2.1<s.2.2.1)) ((a0q s.2.1 s.2.2.2.1).bind fun x5=> (a0q s.1 0).bind fun x6=> cond (x5 != x6) (some (.inr (Sum.inr ((7,(0,0,0,0,0,[],a00 3 0,[],[],(0,[],()),[],()),()))))) (some (.inl (s.1,s.2.1,s.2.2.1,wrap .i64 (s.2.2.2.1+1),s.2.2.2.2.1,s.2.2.2.2.2.1,())))) (some (.inr (Sum.inl (s.1,s.2.2.2.2.1,s.2.2.2.2.2.1,()))))
def b4H(x:(Int×((List Int)×Z94))):Option Z96:= (show Option (Int×((List Int)×(Int×Bool×b4c)))from cond (decide ((x.2.1.length:Int)<1)) (some (x.1,x.2.1,(x.2.1.length:Int),true,(0,0,0,0,0,[],a00 3 0,[],[],(0,[],()),[],()),x.2.2,())) (cond (decide ((x.2.1.length:Int) > 4096)) (some (x.1,x.2.1,(x.2.1.length:Int),true,(0,0,0,0,0,[],a00 3 0,[],[],(0,[],()),[],()),x.2.2,())) ((a9i (x.1,x.2.2,(x.2.1.length:Int))).bind fun y1=> some (x.1,x.2.1,(x.2.1.length:Int),!y1,(0,0,0,0,0,[],a00 3 0,[],[],(0,[],()),[],()),x.2.2,())))).bind fun z2=> cond z2.2.2.2.1 (some ((0,0,0,0,0,[],a00 3 0,[],[],(0,[],()),[],()),1)) ((a2w z2.2.1).bind fun y3=> cond (!y3) (some ((0,0,0,0,0,[],a00 3 0,[],[],(0,[],()),[],()),6)) ((a7f (z2.1,z2.2.2.2.2.2.1)).bind fun y4=> cond (z2.1==0) ((a0h a6d (z2.2.1,z2.2.1,(z2.2.1.length:Int),0,z2.2.2.2.2.1,y4,())).bind fun w7=> match w7 with |.inl a8=>((a0q a8.1 0).bind fun x10=> some ((a8.2.2.1.1,a8.2.2.1.2.1,a8.2.2.1.2.2.1,a8.2.2.1.2.2.2.1,a8.2.2.1.2.2.2.2.1,a8.2.2.1.2.2.2.2.2.1,a8.2.2.1.2.2.2.2.2.2.1,a8.2.2.1.2.2.2.2.2.2.2.1,[x10],a8.2.2.1.2.2.2.2.2.2.2.2.2),0)) |.inr b9=>some (b9.2.1,b9.1)) ((a4E z2.2.1).bind fun y11=> (a8j (z2.2.1,y11)).bind fun y12=> cond (y12.2 != 0) (some ((0,0,0,0,0,[],a00 3 0,[],[],(0,[],()),[],()),6)) (cond (z2.1==1) (some ((y4.1,y11,y4.2.2.1,y4.2.2.2.1,y4.2.2.2.2.1,y4.2.2.2.2.2.1,y4.2.2.2.2.2.2.1,y4.2.2.2.2.2.2.2.1,y12.1,y4.2.2.2.2.2.2.2.2.2),0)) ((b3t ((y4.1,y11,y4.2.2),y12.1)).bind fun y13=> cond (y13.1 != 0) (some ((0,0,0,0,0,[],a00 3 0,[],[],(0,[],()),[],()),6)) ((b2d (z2.2.2.1,(y13.2.2.2.2.2.2.2.2.2.1.length:Int),6,y13.2.2.2.2.2.2.2.2.2.2.2.1)).bind fun y14=> cond (y14.2 != 0) (some ((0,0,0,0,0,[],a00 3 0,[],[],(0,[],()),[],()),6)) (some ((y13.2.1,y13.2.2.1,y13.2.2.2.1,y13.2.2.2.2.1,y13.2.2.2.2.2.1,y13.2.2.2.2.2.2.1,y13.2.2.2.2.2.2.2.1,y13.2.2.2.2.2.2.2.2.1,y13.2.2.2.2.2.2.2.2.2.1,y14.1,y13.2.2.2.2.2.2.2.2.2.2.2),0))))))))
def c3F:FSem:=⟨[.v QI,.v QL,.v Q31],[.v Q31,.v QI],b4H⟩
def H86:Hints:=⟨[(4050,[.sv 1 QL,.sv 39 QL,.sv 40 QI,.sv 41 QI,.box 6 Q31,.box 9 Q31,.ptr 6 6 [],.ptr 9 9 []],[(.exit 0,[.sv 1 QL,.box 6 Q31,.box 9 Q31,.ptr 6 6 [],.ptr 9 9 []]),(.ret,[.sv 7 QI,.box 6 Q31,.ptr 6 6 []])])],[(14,[(.normal,[.sv 0 QI,.sv 1 QL,.sv 8 QI,.sv 28 .bool,.box 6 Q31,.vp 5 Q31,.ptr 6 6 []])])],[]⟩
def b0c(x:Z6):Option Z17:= some (x.2.1,x)
def b4p:FSem:=⟨[.r false (.b Q5)],[.v QI],b0c⟩
def e1D:Hints:=⟨[],[],[]⟩
def a3z(x:Z96):Option Int:= (b1q (([],0,()),x.1,x.2)).bind fun y1=> cond (y1.1 != 0) (some 0) ((b0c y1.2).bind fun y2=> some y2.1)
def c3G:FSem:=⟨[.v Q31,.v QI],[.v QI],a3z⟩
def H89:Hints:=⟨[],[],[]⟩
def a5G(s:Z44):Option (Z44 ⊕ (Int×Unit)):= cond (decide (s.2.2.2.2.1<s.2.2.2.1)) ((a0q s.2.2.1 s.2.2.2.2.1).bind fun x1=> cond (decide ((wrap .i64 (s.2.2.2.2.1+s.1))≥4)) (some (.inl (s.1,wrap .i64 (s.2.1+(a2y x1 (wrap .i64 (0-x1)))),s.2.2.1,s.2.2.2.1,wrap .i64 (s.2.2.2.2.1+1),()))) (some (.inl (s.1,s.2.1,s.2.2.1,s.2.2.2.1,wrap .i64 (s.2.2.2.2.1+1),())))) (some (.inr (s.2.1,())))
def b0Q(x:((List Int)×Int)):Option Int:= (a0h a5G (x.2,0,x.1,(x.1.length:Int),0,())).bind fun w2=> some w2.1
def b9A:FSem:=⟨[.v QL,.v QI],[.v QI],b0Q⟩
def e1E:Hints:=⟨[(58,[.sv 1 QI,.sv 5 QI,.sv 8 QL,.sv 9 QI,.sv 10 QI],[(.exit 0,[.sv 5 QI])])],[],[]⟩
def a3A(s:Z29):Option (Z29 ⊕ (Int×Unit)):= cond (decide (s.2.2.2.1≤4)) ((a5E (s.1,s.2.2.2.1)).bind fun y1=> cond (y1.2 != 0) (some (.inl (s.1,s.2.1,s.2.2.1,wrap .i64 (s.2.2.2.1+1),()))) ((b0Q (y1.1,s.2.2.2.1)).bind fun y2=> (show Option ((List Int)×(Int×Z22))from cond (decide (s.2.2.1<0)) (some (s.1,s.2.1,s.2.2.1,s.2.2.2.1,y2,true,())) (some (s.1,s.2.1,s.2.2.1,s.2.2.2.1,y2,decide (y2<s.2.2.1),()))).bind fun z3=> cond z3.2.2.2.2.2.1 (some (.inl (z3.1,z3.2.2.2.1,z3.2.2.2.2.1,wrap .i64 (z3.2.2.2.1+1),()))) (some (.inl (z3.1,z3.2.1,z3.2.2.1,wrap .i64 (z3.2.2.2.1+1),()))))) (some (.inr (s.2.1,())))
def a7k(x:(List Int)):Option Int:= (a0h a3A (x,0,(-1),0,())).bind fun w4=> some w4.1
def c0C:FSem:=⟨[.v QL],[.v QI],a7k⟩
def e1F:Hints:=⟨[(58,[.sv 0 QL,.sv 3 QI,.sv 4 QI,.sv 5 QI],[(.exit 0,[.sv 3 QI])])],[(7463,[(.normal,[.sv 0 QL,.sv 3 QI,.sv 4 QI,.sv 5 QI,.sv 8 QI,.sv 30 .bool])])],[]⟩
def a3h(x:Int):Option Int:= some (a4d (a2y x (-1048576)) 1048575)
def b2K:FSem:=⟨[.v QI],[.v QI],a3h⟩
def e1G:Hints:=⟨[],[],[]⟩
def a4x(s:Z65):Option (Z65 ⊕ Z54):= cond (decide (s.2.1<0)) none ((a3h (a0D .i64 s.2.2.1 s.2.1)).bind fun y2=> cond (decide (s.2.1<0)) none (cond (y2 != (a0D .i64 s.2.2.1 s.2.1)) (some (.inl (s.1,wrap .i64 (s.2.1+1),s.2.2.1,s.2.2.2.1,s.2.2.2.2.1,s.2.2.2.2.2.1,()))) (some (.inr (s.1,s.2.1,s.2.2.2.1,s.2.2.2.2.1,s.2.2.2.2.2.1,())))))
def a6y(s:Z54):Option (Z54 ⊕ Z6):= cond (decide (s.2.2.2.2.1<s.2.2.2.1)) ((a0q s.2.2.1 s.2.2.2.2.1).bind fun x1=> (a0h a4x (s.1,s.2.1,x1,s.2.2.1,s.2.2.2.1,s.2.2.2.2.1,())).bind fun w3=> some (.inl (w3.1,w3.2.1,w3.2.2.1,w3.2.2.2.1,wrap .i64 (w3.2.2.2.2.1+1),()))) (some (.inr (s.1,s.2.1,())))
def a6z(s:Z53):Option (Z53 ⊕ ((List Int)×Unit)):= cond (decide (s.2.2.2.1<s.2.2.1)) ((a0q s.2.1 s.2.2.2.1).bind fun x5=> cond (decide (s.1<0)) none (cond ((decide (0≤s.2.2.2.1))&&(decide (s.2.2.2.1<(s.2.2.2.2.1.length:Int)))) (some (.inl (s.1,s.2.1,s.2.2.1,wrap .i64 (s.2.2.2.1+1),a05 s.2.2.2.2.1 (a01 s.2.2.2.1) (a0D .i64 x5 s.1),()))) none)) (some (.inr (s.2.2.2.2.1,())))
def a8U(x:(List Int)):Option (List Int):= (a0h a6y (x,0,x,(x.length:Int),0,())).bind fun w4=> cond ((decide (0≤(w4.1.length:Int)))&&((decide ((w4.1.length:Int)≤(w4.1.length:Int)))&&(lim (a01 (w4.1.length:Int))))) ((a0h a6z (w4.2.1,w4.1,(w4.1.length:Int),0,a00 (a01 (w4.1.length:Int)) 0,())).bind fun w6=> some w6.1) none
def b6s:FSem:=⟨[.v QL],[.o QI],a8U⟩
def e1H:Hints:=⟨[(58,[.sv 0 QL,.sv 3 QI,.sv 9 QL,.sv 10 QI,.sv 11 QI],[(.exit 0,[.sv 0 QL,.sv 3 QI])]),(250,[.sv 3 QI,.sv 29 QL,.sv 30 QI,.sv 31 QI,.own 6 6 QI],[(.exit 4,[.own 6 6 QI])]),(7474,[.sv 0 QL,.sv 3 QI,.sv 5 QI,.sv 9 QL,.sv 10 QI,.sv 11 QI],[(.exit 2,[.sv 0 QL,.sv 3 QI,.sv 9 QL,.sv 10 QI,.sv 11 QI])])],[],[(5,[.v,.v,.v,.v,.v,.v,.v,.x])]⟩
def a4r(s:((List Int)×Z29)):Option (((List Int)×Z29) ⊕ (Int×Int×Unit)):= cond (decide (s.2.2.2.2.1<(s.1.length:Int))) ((a0q s.1 s.2.2.2.2.1).bind fun x1=> (a0q s.2.1 (wrap .i64 (s.2.2.2.2.1-1))).bind fun x2=> (a0q s.1 s.2.2.2.2.1).bind fun x3=> (a0q s.1 s.2.2.2.2.1).bind fun x4=> (a0q s.2.1 (wrap .i64 (s.2.2.2.2.1-1))).bind fun x5=> (a0q s.2.1 (wrap .i64 (s.2.2.2.2.1-1))).bind fun x6=> some (.inl (s.1,s.2.1,wrap .i64 (s.2.2.1+(wrap .i64 (x1*x2))),wrap .i64 (s.2.2.2.1+(wrap .i64 ((wrap .i64 (x3*x4))+(wrap .i64 (x5*x6))))),wrap .i64 (s.2.2.2.2.1+1),()))) (some (.inr (s.2.2.1,s.2.2.2.1,())))
def a4s(s:(Int×Int×Unit)):Option ((Int×Int×Unit) ⊕ (Int×Int×Unit)):= cond (decide (s.2.1≥1099511627776)) (some (.inl (a0D .i64 s.1 1,a0D .i64 s.2.1 1,()))) (some (.inr (s.1,s.2.1,())))
def a5P(x:Z10):Option Int:= (a0h a4r (x.1,x.2.1,0,0,x.2.2,())).bind fun w7=> (a0h a4s (w7.1,w7.2.1,())).bind fun w8=> cond (w8.2.1==0) (some 0) (cond (w8.2.1==0) none ((show Option (Int×Unit)from cond (w8.2.1==0) none (cond (decide ((a22 (a0A .i64 w8.1 15) w8.2.1)<0)) (some (wrap .i64 ((wrap .i64 (a17 (a0A .i64 w8.1 15) w8.2.1))-1),())) (some (wrap .i64 (a17 (a0A .i64 w8.1 15) w8.2.1),())))).bind fun z9=> some (a4d (a2y z9.1 (-16383)) 16383)))
def b2y:FSem:=⟨[.v QL,.v QL,.v QI],[.v QI],a5P⟩
def e1I:Hints:=⟨[(58,[.sv 0 QL,.sv 1 QL,.sv 7 QI,.sv 8 QI,.sv 9 QI],[(.exit 0,[.sv 7 QI,.sv 8 QI])]),(60,[.sv 7 QI,.sv 8 QI],[(.exit 2,[.sv 7 QI,.sv 8 QI])])],[(255,[(.normal,[.sv 10 QI])])],[(5,[.v,.v,.v,.v,.v,.v,.v,.v,.v,.v,.v,.x,.x]),(6,[.v,.v,.v,.v,.v,.v,.v,.v,.v,.v,.v,.v,.v,.v,.v,.v,.v,.v,.v,.v,.v,.v,.x,.x])]⟩
def a3Z(s:(Int×Int×Z63)):Option ((Int×Int×Z63) ⊕ Z63):= cond (decide (s.2.2.2.1≥s.2.1)) (cond ((decide (0≤s.2.2.2.1))&&(decide (s.2.2.2.1<(s.2.2.2.2.1.length:Int)))) (cond ((decide (0≤(wrap .i64 (s.2.2.2.1-1))))&&(decide ((wrap .i64 (s.2.2.2.1-1))<(s.2.2.2.2.2.1.length:Int)))) ((a3h (wrap .i64 ((a03 s.2.2.2.2.1 (a01 s.2.2.2.1) 0)-(a0D .i64 (wrap .i64 (s.2.2.1*(a03 s.2.2.2.2.2.1 (a01 (wrap .i64 (s.2.2.2.1-1))) 0))) 14)))).bind fun y6=> cond ((decide (0≤s.2.2.2.1))&&(decide (s.2.2.2.1<(s.2.2.2.2.1.length:Int)))) ((a3h (wrap .i64 ((a03 s.2.2.2.2.2.1 (a01 (wrap .i64 (s.2.2.2.1-1))) 0)-(a0D .i64 (wrap .i64 (s.2.2.1*(a03 s.2.2.2.2.1 (a01 s.2.2.2.1) 0))) 14)))).bind fun y7=> cond ((decide (0≤s.2.2.2.1))&&(decide (s.2.2.2.1<(s.2.2.2.2.2.1.length:Int)))) (some (.inl (s.1,s.2.1,s.2.2.1,wrap .i64 (s.2.2.2.1-1),a05 s.2.2.2.2.1 (a01 s.2.2.2.1) y6,a05 s.2.2.2.2.2.1 (a01 s.2.2.2.1) y7,s.2.2.2.2.2.2.1,()))) none) none) none) none) (some (.inr (s.1,s.2.1,s.2.2.2.2.1,s.2.2.2.2.2.1,s.2.2.2.2.2.2.1,())))
def a4a(s:Z63):Option (Z63 ⊕ ((List Int)×Unit)):= cond (decide (s.2.1≤s.1)) ((a5P (s.2.2.1,s.2.2.2.1,s.2.1)).bind fun y5=> cond (lim ((a02 s.2.2.2.2.1)+1)) ((a0h a3Z (s.1,s.2.1,y5,wrap .i64 ((s.2.2.1.length:Int)-1),s.2.2.1,s.2.2.2.1,a04 s.2.2.2.2.1 [y5],())).bind fun w8=> some (.inl (w8.1,wrap .i64 (w8.2.1+1),w8.2.2.1,w8.2.2.2.1,w8.2.2.2.2.1,()))) none) (some (.inr (s.2.2.2.2.1,())))
def a7M(x:((List Int)×Int)):Option ((List Int)×Int):= (show Option Z18 from cond (decide (x.2<1)) (some (x.1,x.2,true,())) (cond (decide (x.2 > 32)) (some (x.1,x.2,true,())) (some (x.1,x.2,decide ((x.1.length:Int) > 4096),())))).bind fun z1=> cond z1.2.2.1 (some ([],1)) ((a3d z1.1).bind fun y2=> cond (!y2) (some ([],6)) ((a8U z1.1).bind fun y3=> (a1h y3).bind fun y4=> cond ((decide (0≤z1.2.1))&&(lim (a01 z1.2.1))) ((a0h a4a (z1.2.1,1,y3,y4,[],())).bind fun w9=> some (w9.1,0)) none))
def b5D:FSem:=⟨[.v QL,.v QI],[.o QI,.v QI],a7M⟩
def e1J:Hints:=⟨[(1018,[.sv 1 QI,.sv 9 QI,.own 6 6 QI,.own 7 7 QI,.own 8 8 QI],[(.exit 0,[.own 8 8 QI])]),(260686,[.sv 1 QI,.sv 9 QI,.sv 10 QI,.sv 11 QI,.own 6 6 QI,.own 7 7 QI,.own 8 8 QI],[(.exit 2,[.sv 1 QI,.sv 9 QI,.own 6 6 QI,.own 7 7 QI,.own 8 8 QI])])],[(6,[(.normal,[.sv 0 QL,.sv 1 QI,.sv 24 .bool])])],[(16,[.q,.v,.q,.q,.q,.v,.v,.q,.q,.v,.x])]⟩
def a2I(s:Z39):Option (Z39 ⊕ (((List Int)×Unit) ⊕ Z6)):= cond (decide (s.2.2.2.1<s.2.2.1)) ((a0q s.2.1 s.2.2.2.1).bind fun x2=> (show Option ((List Int)×Z32)from cond (decide (x2<(-16383))) (some (s.1,s.2.1,s.2.2.1,s.2.2.2.1,true,())) (some (s.1,s.2.1,s.2.2.1,s.2.2.2.1,decide (x2 > 16383),()))).bind fun z3=> cond z3.2.2.2.2.1 (some (.inr (Sum.inr (([],1,()))))) (some (.inl (z3.1,z3.2.1,z3.2.2.1,wrap .i64 (z3.2.2.2.1+1),())))) (some (.inr (Sum.inl (s.1,()))))
def a4U(s:((List Int)×(Int×(Int×((List Int)×Z67))))):Option (((List Int)×(Int×(Int×((List Int)×Z67)))) ⊕ Z53):= cond (decide (s.2.2.2.2.2.2.2.2.1<s.2.2.2.2.2.2.2.1)) ((a0q s.2.2.2.2.2.2.1 s.2.2.2.2.2.2.2.2.1).bind fun x8=> (a0q s.1 (wrap .i64 ((wrap .i64 (s.2.1-1))-s.2.2.2.2.2.2.2.2.1))).bind fun x9=> cond (lim ((a02 s.2.2.2.2.2.2.2.2.2.1)+1)) (some (.inl (s.1,s.2.1,s.2.2.1,s.2.2.2.1,s.2.2.2.2.1,s.2.2.2.2.2.1,s.2.2.2.2.2.2.1,s.2.2.2.2.2.2.2.1,wrap .i64 (s.2.2.2.2.2.2.2.2.1+1),a04 s.2.2.2.2.2.2.2.2.2.1 [wrap .i64 (x8-(a0D .i64 (wrap .i64 (s.2.2.1*x9)) 14))],()))) none) (some (.inr (s.2.2.1,s.2.2.2.1,s.2.2.2.2.1,s.2.2.2.2.2.1,s.2.2.2.2.2.2.2.2.2.1,())))
def a6W(s:Z39):Option (Z39 ⊕ ((List Int)×Unit)):= cond (decide (s.2.2.2.1<s.2.2.1)) ((a0q s.2.1 s.2.2.2.1).bind fun x7=> cond ((decide (0≤(wrap .i64 (s.2.2.2.1+1))))&&(lim (a01 (wrap .i64 (s.2.2.2.1+1))))) ((a0h a4U (s.1,s.2.2.2.1,x7,s.2.1,s.2.2.1,s.2.2.2.1,s.1,(s.1.length:Int),0,[],())).bind fun w10=> cond (lim ((a02 w10.2.2.2.2.1)+1)) (some (.inl (a04 w10.2.2.2.2.1 [w10.1],w10.2.1,w10.2.2.1,wrap .i64 (w10.2.2.2.1+1),()))) none) none) (some (.inr (s.1,())))
def a9U(x:(List Int)):Option ((List Int)×Int):= (show Option ((List Int)×(Bool×Unit))from cond (decide ((x.length:Int)<1)) (some (x,true,())) (some (x,decide ((x.length:Int) > 32),()))).bind fun z1=> cond z1.2.1 (some ([],1)) ((a0h a2I (z1.1,z1.1,(z1.1.length:Int),0,())).bind fun w4=> match w4 with |.inl a5=>((a0h a6W ([],a5.1,(a5.1.length:Int),0,())).bind fun w11=> some (w11.1,0)) |.inr b6=>some (b6.1,b6.2.1))
def b7P:FSem:=⟨[.v QL],[.v QL,.v QI],a9U⟩
def e1K:Hints:=⟨[(58,[.sv 0 QL,.sv 20 QL,.sv 21 QI,.sv 22 QI],[(.exit 0,[.sv 0 QL]),(.ret,[.sv 2 QL,.sv 3 QI])]),(250,[.sv 6 QL,.sv 34 QL,.sv 35 QI,.sv 36 QI],[(.exit 2,[.sv 6 QL])]),(256410,[.sv 6 QL,.sv 7 QI,.sv 8 QI,.sv 34 QL,.sv 35 QI,.sv 36 QI,.sv 44 QL,.sv 45 QI,.sv 46 QI,.own 9 9 QI],[(.exit 4,[.sv 8 QI,.sv 34 QL,.sv 35 QI,.sv 36 QI,.own 9 9 QI])])],[(6,[(.normal,[.sv 0 QL,.sv 19 .bool])]),(3737,[(.normal,[.sv 0 QL,.sv 20 QL,.sv 21 QI,.sv 22 QI,.sv 31 .bool])])],[]⟩
def a2J(s:Z54):Option (Z54 ⊕ (Z6 ⊕ Z16)):= cond (decide (s.2.2.2.2.1<s.2.2.2.1)) ((a0q s.2.2.1 s.2.2.2.2.1).bind fun x2=> (show Option ((List Int)×(Int×Z32))from cond (decide (x2<(-35184372088832))) (some (s.1,s.2.1,s.2.2.1,s.2.2.2.1,s.2.2.2.2.1,true,())) (some (s.1,s.2.1,s.2.2.1,s.2.2.2.1,s.2.2.2.2.1,decide (x2 > 35184372088832),()))).bind fun z3=> cond z3.2.2.2.2.2.1 (some (.inr (Sum.inr ((0,1,[],()))))) (some (.inl (z3.1,z3.2.1,z3.2.2.1,z3.2.2.2.1,wrap .i64 (z3.2.2.2.2.1+1),())))) (some (.inr (Sum.inl (s.1,s.2.1,()))))
def a2K(s:((List Int)×(Int×Z67))):Option (((List Int)×(Int×Z67)) ⊕ Z37):= cond (decide (s.2.2.2.2.2.2.1<s.2.2.2.2.2.1)) ((a0q s.2.2.2.2.1 s.2.2.2.2.2.2.1).bind fun x8=> cond (decide (s.2.2.1<0)) none ((a4K (a0D .i64 (wrap .i64 (x8+s.2.2.2.1)) s.2.2.1,s.2.1)).bind fun y9=> cond (!y9) (some (.inr (s.1,s.2.1,s.2.2.1,s.2.2.2.2.2.2.2.1,()))) (cond (lim ((a02 s.2.2.2.2.2.2.2.1)+1)) (some (.inl (s.1,s.2.1,s.2.2.1,s.2.2.2.1,s.2.2.2.2.1,s.2.2.2.2.2.1,wrap .i64 (s.2.2.2.2.2.2.1+1),a04 s.2.2.2.2.2.2.2.1 [a0D .i64 (wrap .i64 (x8+s.2.2.2.1)) s.2.2.1],()))) none))) (some (.inr (s.1,s.2.1,s.2.2.1,s.2.2.2.2.2.2.2.1,())))
def a2L(s:Z15):Option (Z15 ⊕ (Unit ⊕ Z16)):= cond (decide (s.2.2.1≤14)) ((show Option Z29 from cond (decide (s.2.2.1 > 0)) (cond (decide ((wrap .i64 (s.2.2.1-1))<0)) none (some (s.1,s.2.1,s.2.2.1,a0A .i64 1 (wrap .i64 (s.2.2.1-1)),()))) (some (s.1,s.2.1,s.2.2.1,0,()))).bind fun z7=> cond ((decide (0≤(z7.1.length:Int)))&&(lim (a01 (z7.1.length:Int)))) ((a0h a2K (z7.1,z7.2.1,z7.2.2.1,z7.2.2.2.1,z7.1,(z7.1.length:Int),0,[],())).bind fun w10=> cond ((w10.2.2.2.1.length:Int)==(w10.1.length:Int)) (some (.inr (Sum.inr ((wrap .i64 (14-w10.2.2.1),0,w10.2.2.2.1,()))))) (some (.inl (w10.1,w10.2.1,wrap .i64 (w10.2.2.1+1),())))) none) (some (.inr (Sum.inl ())))
def a9V(x:((List Int)×Int)):Option Z3:= (show Option Z18 from cond (decide ((x.1.length:Int)<1)) (some (x.1,x.2,true,())) (cond (decide ((x.1.length:Int) > 32)) (some (x.1,x.2,true,())) (cond (decide (x.2<2)) (some (x.1,x.2,true,())) (some (x.1,x.2,decide (x.2 > 16),()))))).bind fun z1=> cond z1.2.2.1 (some ([],0,1)) ((a0h a2J (z1.1,z1.2.1,z1.1,(z1.1.length:Int),0,())).bind fun w4=> match w4 with |.inl a5=>((a0h a2L (a5.1,a5.2.1,0,())).bind fun w11=> match w11 with |.inl a12=>some ([],0,6) |.inr b13=>some (b13.2.2.1,b13.1,b13.2.1)) |.inr b6=>some (b6.2.2.1,b6.1,b6.2.1))
def b7Q:FSem:=⟨[.v QL,.v QI],[.o QI,.v QI,.v QI],a9V⟩
def e1L:Hints:=⟨[(58,[.sv 0 QL,.sv 1 QI,.sv 31 QL,.sv 32 QI,.sv 33 QI],[(.exit 0,[.sv 0 QL,.sv 1 QI]),(.ret,[.sv 5 QI,.sv 6 QI,.own 4 4 QI])]),(122,[.sv 0 QL,.sv 1 QI,.sv 9 QI],[(.exit 2,[]),(.ret,[.sv 5 QI,.sv 6 QI,.own 4 11 QI])]),(125242,[.sv 0 QL,.sv 1 QI,.sv 9 QI,.sv 10 QI,.sv 56 QL,.sv 57 QI,.sv 58 QI,.own 11 11 QI],[(.exit 4,[.sv 0 QL,.sv 1 QI,.sv 9 QI,.own 11 11 QI])])],[(6,[(.normal,[.sv 0 QL,.sv 1 QI,.sv 30 .bool])]),(3737,[(.normal,[.sv 0 QL,.sv 1 QI,.sv 31 QL,.sv 32 QI,.sv 33 QI,.sv 42 .bool])]),(3913,[(.normal,[.sv 0 QL,.sv 1 QI,.sv 9 QI,.sv 10 QI])])],[]⟩
def a4M(x:Z3):Option Z3:= (a7M (x.1,x.2.1)).bind fun y1=> cond (y1.2 != 0) (some ([],0,y1.2)) ((a9U y1.1).bind fun y2=> cond (y2.2 != 0) (some ([],0,y2.2)) ((a9V (y2.1,x.2.2)).bind fun y3=> some (y3.1,y3.2.1,y3.2.2)))
def b4n:FSem:=⟨[.v QL,.v QI,.v QI],[.o QI,.v QI,.v QI],a4M⟩
def e1M:Hints:=⟨[],[],[]⟩
def c5c(s:((List Int)×(Int×Int×Z35))):Option (((List Int)×(Int×Int×Z35)) ⊕ ((List Int)×(Int×Z35))):= cond (decide (s.2.2.2.2.2.2.2.1<(s.1.length:Int))) ((a0q s.1 s.2.2.2.2.2.2.2.1).bind fun x3=> (a0q s.1 (wrap .i64 (s.2.2.2.2.2.2.2.1-s.2.2.2.2.2.1))).bind fun x4=> some (.inl (s.1,s.2.1,s.2.2.1,s.2.2.2.1,s.2.2.2.2.1,s.2.2.2.2.2.1,wrap .i64 (s.2.2.2.2.2.2.1+(a2y (wrap .i64 (x3-x4)) (wrap .i64 (0-(wrap .i64 (x3-x4)))))),wrap .i64 (s.2.2.2.2.2.2.2.1+1),()))) (some (.inr (s.1,s.2.1,s.2.2.1,s.2.2.2.1,s.2.2.2.2.1,s.2.2.2.2.2.1,s.2.2.2.2.2.2.1,())))
def c5d(s:((List Int)×Z35)):Option (((List Int)×Z35) ⊕ (Int×Unit)):= cond (decide (s.2.2.2.2.2.1≤s.2.2.1)) ((a0h c5c (s.1,s.2.1,s.2.2.1,s.2.2.2.1,s.2.2.2.2.1,s.2.2.2.2.2.1,0,s.2.2.1,())).bind fun w5=> (show Option ((List Int)×(Int×Int×Int×Z22))from cond (w5.2.2.2.2.2.1==w5.2.1) (some (w5.1,w5.2.1,w5.2.2.1,w5.2.2.2.1,w5.2.2.2.2.1,w5.2.2.2.2.2.1,w5.2.2.2.2.2.2.1,true,())) (some (w5.1,w5.2.1,w5.2.2.1,w5.2.2.2.1,w5.2.2.2.2.1,w5.2.2.2.2.2.1,w5.2.2.2.2.2.2.1,decide (w5.2.2.2.2.2.2.1<w5.2.2.2.2.1),()))).bind fun z6=> cond z6.2.2.2.2.2.2.2.1 (some (.inl (z6.1,z6.2.1,z6.2.2.1,z6.2.2.2.2.2.1,z6.2.2.2.2.2.2.1,wrap .i64 (z6.2.2.2.2.2.1+1),()))) (some (.inl (z6.1,z6.2.1,z6.2.2.1,z6.2.2.2.1,z6.2.2.2.2.1,wrap .i64 (z6.2.2.2.2.2.1+1),())))) (some (.inr (s.2.2.2.1,())))
def b3v(x:Z3):Option (Int×Int):= (show Option Z32 from cond (decide (x.2.1<2)) (some (x.1,x.2.1,x.2.2,true,())) (cond (decide (x.2.1 > x.2.2)) (some (x.1,x.2.1,x.2.2,true,())) (cond (decide (x.2.2 > 1024)) (some (x.1,x.2.1,x.2.2,true,())) (some (x.1,x.2.1,x.2.2,decide ((x.1.length:Int) > 4096),()))))).bind fun z1=> cond z1.2.2.2.1 (some (0,1)) (cond (decide ((z1.1.length:Int)≤z1.2.2.1)) (some (0,7)) ((a5o z1.1).bind fun y2=> cond (!y2) (some (0,6)) ((a0h c5d (z1.1,z1.2.1,z1.2.2.1,0,0,z1.2.1,())).bind fun w7=> some (w7.1,0))))
def c1Q:FSem:=⟨[.v QL,.v QI,.v QI],[.v QI,.v QI],b3v⟩
def e1N:Hints:=⟨[(506,[.sv 0 QL,.sv 1 QI,.sv 2 QI,.sv 8 QI,.sv 9 QI,.sv 10 QI],[(.exit 0,[.sv 8 QI])]),(129610,[.sv 0 QL,.sv 1 QI,.sv 2 QI,.sv 8 QI,.sv 9 QI,.sv 10 QI,.sv 11 QI,.sv 12 QI],[(.exit 2,[.sv 0 QL,.sv 1 QI,.sv 2 QI,.sv 8 QI,.sv 9 QI,.sv 10 QI,.sv 11 QI])])],[(6,[(.normal,[.sv 0 QL,.sv 1 QI,.sv 2 QI,.sv 29 .bool])]),(32403,[(.normal,[.sv 0 QL,.sv 1 QI,.sv 2 QI,.sv 8 QI,.sv 9 QI,.sv 10 QI,.sv 11 QI,.sv 74 .bool])])],[(15,[.v,.v,.v,.v,.v,.v,.v,.v,.v,.v,.x,.x])]⟩
def c0D(x:Unit):Option (List (List Int)):= some ([a05 (a05 (a05 (a00 3 0) 0 0) 1 0) 2 0,a05 (a05 (a05 (a00 3 0) 0 0) 1 64) 2 0,a05 (a05 (a05 (a00 3 0) 0 0) 1 32) 2 0,a05 (a05 (a05 (a00 3 0) 0 16) 1 32) 2 16,a05 (a05 (a05 (a00 3 0) 0 21) 1 22) 2 21,a05 (a05 (a05 (a00 3 0) 0 0) 1 48) 2 0,a05 (a05 (a05 (a00 3 0) 0 (-8)) 1 64) 2 (-8),a05 (a05 (a05 (a00 3 0) 0 32) 1 32) 2 0,a05 (a05 (a05 (a00 3 0) 0 0) 1 32) 2 32]:List (List Int))
def c0E:FSem:=⟨[],[.o (.arr 3 QI)],c0D⟩
def e1O:Hints:=⟨[],[],[]⟩
def c5e(s:((List Int)×(Int×(Int×(Bool×(Int×(Int×(Int×(Int×(Int×((List (List Int))×((List Int)×Z36)))))))))))):Option (((List Int)×(Int×(Int×(Bool×(Int×(Int×(Int×(Int×(Int×((List (List Int))×((List Int)×Z36))))))))))) ⊕ ((List Int)×(Int×(Int×(Bool×(Int×(Int×(Int×((List (List Int))×Z36))))))))):= cond (decide (s.2.2.2.2.2.2.2.2.1<s.2.2.2.2.2.2.2.1)) (cond ((decide (0≤s.2.2.2.2.2.2.2.2.1))&&(decide (s.2.2.2.2.2.2.2.2.1<(s.2.2.2.2.2.2.2.2.2.2.1.length:Int)))) (some (.inl (s.1,s.2.1,s.2.2.1,s.2.2.2.1,wrap .i64 (s.2.2.2.2.1+(a2y (a03 s.2.2.2.2.2.2.2.2.2.2.1 (a01 s.2.2.2.2.2.2.2.2.1) 0) (wrap .i64 (0-(a03 s.2.2.2.2.2.2.2.2.2.2.1 (a01 s.2.2.2.2.2.2.2.2.1) 0))))),s.2.2.2.2.2.1,s.2.2.2.2.2.2.1,s.2.2.2.2.2.2.2.1,wrap .i64 (s.2.2.2.2.2.2.2.2.1+1),s.2.2.2.2.2.2.2.2.2.1,s.2.2.2.2.2.2.2.2.2.2.1,s.2.2.2.2.2.2.2.2.2.2.2.1,s.2.2.2.2.2.2.2.2.2.2.2.2.1,s.2.2.2.2.2.2.2.2.2.2.2.2.2.1,()))) none) (some (.inr (s.1,s.2.1,s.2.2.1,s.2.2.2.1,s.2.2.2.2.1,s.2.2.2.2.2.1,s.2.2.2.2.2.2.1,s.2.2.2.2.2.2.2.2.2.1,s.2.2.2.2.2.2.2.2.2.2.2.1,s.2.2.2.2.2.2.2.2.2.2.2.2.1,s.2.2.2.2.2.2.2.2.2.2.2.2.2.1,())))
def c5f(s:((List Int)×(Int×(Int×(Bool×(Int×(Int×((List (List Int))×Z11)))))))):Option (((List Int)×(Int×(Int×(Bool×(Int×(Int×((List (List Int))×Z11))))))) ⊕ (Bool×Z11)):= cond (decide (s.2.2.2.2.2.1<s.2.2.2.2.1)) (cond ((decide (0≤s.2.2.2.2.2.1))&&(decide (s.2.2.2.2.2.1<(s.2.2.2.2.2.2.1.length:Int)))) ((a8C (s.1,s.2.1,a03 s.2.2.2.2.2.2.1 (a01 s.2.2.2.2.2.1) (a00 3 0))).bind fun y3=> cond (y3.2 != 0) (some (.inl (s.1,s.2.1,s.2.2.1,s.2.2.2.1,s.2.2.2.2.1,wrap .i64 (s.2.2.2.2.2.1+1),s.2.2.2.2.2.2.1,s.2.2.2.2.2.2.2.1,s.2.2.2.2.2.2.2.2.1,()))) ((a0h c5e (s.1,s.2.1,s.2.2.1,s.2.2.2.1,0,s.2.2.2.2.1,s.2.2.2.2.2.1,(y3.1.length:Int),0,s.2.2.2.2.2.2.1,y3.1,s.2.2.2.2.2.2.2.1,s.2.2.2.2.2.2.2.2.1,a03 s.2.2.2.2.2.2.1 (a01 s.2.2.2.2.2.1) (a00 3 0),())).bind fun w4=> (show Option ((List Int)×(Int×(Int×(Bool×(Int×(Int×(Int×(Bool×((List (List Int))×Z36)))))))))from cond (!w4.2.2.2.1) (some (w4.1,w4.2.1,w4.2.2.1,w4.2.2.2.1,w4.2.2.2.2.1,w4.2.2.2.2.2.1,w4.2.2.2.2.2.2.1,true,w4.2.2.2.2.2.2.2.1,w4.2.2.2.2.2.2.2.2.1,w4.2.2.2.2.2.2.2.2.2.1,w4.2.2.2.2.2.2.2.2.2.2.1,())) (some (w4.1,w4.2.1,w4.2.2.1,w4.2.2.2.1,w4.2.2.2.2.1,w4.2.2.2.2.2.1,w4.2.2.2.2.2.2.1,decide (w4.2.2.2.2.1<w4.2.2.1),w4.2.2.2.2.2.2.2.1,w4.2.2.2.2.2.2.2.2.1,w4.2.2.2.2.2.2.2.2.2.1,w4.2.2.2.2.2.2.2.2.2.2.1,()))).bind fun z5=> cond z5.2.2.2.2.2.2.2.1 (some (.inl (z5.1,z5.2.1,z5.2.2.2.2.1,true,z5.2.2.2.2.2.1,wrap .i64 (z5.2.2.2.2.2.2.1+1),z5.2.2.2.2.2.2.2.2.1,z5.2.2.2.2.2.2.2.2.2.1,z5.2.2.2.2.2.2.2.2.2.2.2.1,()))) (some (.inl (z5.1,z5.2.1,z5.2.2.1,z5.2.2.2.1,z5.2.2.2.2.2.1,wrap .i64 (z5.2.2.2.2.2.2.1+1),z5.2.2.2.2.2.2.2.2.1,z5.2.2.2.2.2.2.2.2.2.1,z5.2.2.2.2.2.2.2.2.2.2.1,()))))) none) (some (.inr (s.2.2.2.1,s.2.2.2.2.2.2.2.1,s.2.2.2.2.2.2.2.2.1,())))
def c1R(x:((List Int)×Int)):Option ((List Int)×Int):= (show Option ((List Int)×(Int×Z8))from cond (decide (x.2<2)) (some (x.1,x.2,true,a00 3 0,())) (some (x.1,x.2,decide (x.2 > 1024),a00 3 0,()))).bind fun z1=> cond z1.2.2.1 (some (a00 3 0,1)) ((c0D ()).bind fun y2=> (a0h c5f (z1.1,z1.2.1,0,false,(y2.length:Int),0,y2,z1.2.2.2.1,a00 3 0,())).bind fun w6=> cond (!w6.1) (some (a00 3 0,6)) (some (w6.2.2.1,0)))
def c1S:FSem:=⟨[.v QL,.v QI],[.v (.arr 3 QI),.v QI],c1R⟩
def e1P:Hints:=⟨[(122,[.sv 0 QL,.sv 1 QI,.sv 7 QI,.sv 8 .bool,.sv 25 QI,.sv 26 QI,.own 24 1024 (.arr 3 QI),.box 4 (.arr 3 QI),.box 6 (.arr 3 QI),.ptr 4 4 [],.ptr 6 6 []],[(.exit 0,[.sv 8 .bool,.box 4 (.arr 3 QI),.box 6 (.arr 3 QI),.ptr 4 4 [],.ptr 6 6 []])]),(501370,[.sv 0 QL,.sv 1 QI,.sv 7 QI,.sv 8 .bool,.sv 13 QI,.sv 25 QI,.sv 26 QI,.sv 40 QI,.sv 41 QI,.own 24 1024 (.arr 3 QI),.own 39 11 QI,.box 4 (.arr 3 QI),.box 6 (.arr 3 QI),.box 10 (.arr 3 QI),.ptr 4 4 [],.ptr 6 6 [],.ptr 10 10 []],[(.exit 2,[.sv 0 QL,.sv 1 QI,.sv 7 QI,.sv 8 .bool,.sv 13 QI,.sv 25 QI,.sv 26 QI,.own 24 1024 (.arr 3 QI),.box 4 (.arr 3 QI),.box 6 (.arr 3 QI),.box 10 (.arr 3 QI),.ptr 4 4 [],.ptr 6 6 [],.ptr 10 10 []])])],[(6,[(.normal,[.sv 0 QL,.sv 1 QI,.sv 21 .bool,.box 4 (.arr 3 QI),.ptr 4 4 []])]),(125343,[(.normal,[.sv 0 QL,.sv 1 QI,.sv 7 QI,.sv 8 .bool,.sv 13 QI,.sv 25 QI,.sv 26 QI,.sv 58 .bool,.own 24 1024 (.arr 3 QI),.box 4 (.arr 3 QI),.box 6 (.arr 3 QI),.box 10 (.arr 3 QI),.ptr 4 4 [],.ptr 6 6 [],.ptr 10 10 []])])],[]⟩
def a4y(x:(List Int)):Option (Z94×Bool):= (b3v (x,16,256)).bind fun y1=> cond (y1.2 != 0) (some ((0,0,0,0,0,[],a00 3 0,[],[],(0,[],()),[],()),false)) ((c1R (x,y1.1)).bind fun y2=> cond (y2.2 != 0) (some ((0,0,0,0,0,[],a00 3 0,[],[],(0,[],()),[],()),false)) ((a8C (x,y1.1,y2.1)).bind fun y3=> cond (y3.2 != 0) (some ((0,0,0,0,0,[],a00 3 0,[],[],(0,[],()),[],()),false)) ((a4M (y3.1,4,12)).bind fun y4=> cond (y4.2.2 != 0) (some ((0,0,0,0,0,[],a00 3 0,[],[],(0,[],()),[],()),false)) (some ((4,0,0,y4.2.1,y1.1,y4.1,y2.1,[],[],(0,[],()),[],()),true)))))
def c0F:FSem:=⟨[.v QL],[.v Q31,.v .bool],a4y⟩
def e1Q:Hints:=⟨[],[],[]⟩
def a0z(x:(Int×(Int×((List Int)×Z95)))):Option ((List Int)×Z95):= (a4M (x.2.2.1,x.1,x.2.1)).bind fun y1=> cond (y1.2.2==0) (cond (lim ((a02 x.2.2.2)+1)) (some (x.2.2.1,a04 x.2.2.2 ([(3,0,0,y1.2.1,0,y1.1,a00 3 0,[],[],(0,[],()),[],())]:List Z94))) none) (some (x.2.2.1,x.2.2.2))
def b3S:FSem:=⟨[.v QI,.v QI,.r false (.b QL),.r false (.b (.list true Q31))],[],a0z⟩
def e1R:Hints:=⟨[],[],[]⟩
def a2V(s:(Int×d1z)):Option ((Int×d1z) ⊕ d1z):= cond (decide (s.1<5)) (cond (lim ((a02 s.2.1)+1)) (some (.inl (wrap .i64 (s.1+1),a04 s.2.1 ([(2,0,s.1,0,0,[],a00 3 0,[],[],(0,[],()),[],())]:List Z94),s.2.2.1,()))) none) (some (.inr (s.2.1,s.2.2.1,())))
def a7N(x:((List Int)×Int)):Option Z95:= (a7k x.1).bind fun y1=> (show Option (Int×((List Int)×Z98))from cond (decide (x.2≥1)) ((a0z (4,12,x.1,([(0,0,0,0,0,[],a00 3 0,[],[],(0,[],()),[],()),(1,0,0,0,0,[],a00 3 0,[],[],(0,[],()),[],()),(2,0,y1,0,0,[],a00 3 0,[],[],(0,[],()),[],())]:List Z94))).bind fun y2=> (a0z (8,12,y2.1,y2.2)).bind fun y3=> some (x.2,y3.1,y3.2,())) (some (x.2,x.1,([(0,0,0,0,0,[],a00 3 0,[],[],(0,[],()),[],()),(1,0,0,0,0,[],a00 3 0,[],[],(0,[],()),[],()),(2,0,y1,0,0,[],a00 3 0,[],[],(0,[],()),[],())]:List Z94),()))).bind fun z4=> (show Option (Int×d1z)from cond (decide (z4.1≥2)) (cond (lim ((a02 z4.2.2.1)+1)) (cond (lim ((a02 (a04 z4.2.2.1 ([(5,0,0,0,0,[],a00 3 0,([(16,4,())]:List (Int×Int×Unit)),[],(0,[],()),[],())]:List Z94)))+1)) ((a4y z4.2.1).bind fun y5=> cond y5.2 (cond (lim ((a02 (a04 (a04 z4.2.2.1 ([(5,0,0,0,0,[],a00 3 0,([(16,4,())]:List (Int×Int×Unit)),[],(0,[],()),[],())]:List Z94)) ([(5,0,0,0,0,[],a00 3 0,([(32,3,()),(16,5,())]:List (Int×Int×Unit)),[],(0,[],()),[],())]:List Z94)))+1)) (some (z4.1,a04 (a04 (a04 z4.2.2.1 ([(5,0,0,0,0,[],a00 3 0,([(16,4,())]:List (Int×Int×Unit)),[],(0,[],()),[],())]:List Z94)) ([(5,0,0,0,0,[],a00 3 0,([(32,3,()),(16,5,())]:List (Int×Int×Unit)),[],(0,[],()),[],())]:List Z94)) ([y5.1]:List Z94),z4.2.1,())) none) (some (z4.1,a04 (a04 z4.2.2.1 ([(5,0,0,0,0,[],a00 3 0,([(16,4,())]:List (Int×Int×Unit)),[],(0,[],()),[],())]:List Z94)) ([(5,0,0,0,0,[],a00 3 0,([(32,3,()),(16,5,())]:List (Int×Int×Unit)),[],(0,[],()),[],())]:List Z94),z4.2.1,()))) none) none) (some (z4.1,z4.2.2.1,z4.2.1,()))).bind fun z6=> (show Option Z98 from cond (decide (z6.1≥3)) ((a0h a2V (0,z6.2.1,z6.2.2.1,())).bind fun w7=> (a0z (1,12,w7.2.1,w7.1)).bind fun y8=> (a0z (2,12,y8.1,y8.2)).bind fun y9=> (a0z (12,14,y9.1,y9.2)).bind fun y10=> (a0z (16,14,y10.1,y10.2)).bind fun y11=> some (y11.2,())) (some (z6.2.1,()))).bind fun z12=> some z12.1
def b5E:FSem:=⟨[.v QL,.v QI],[.v (.list false Q31)],a7N⟩
def H93:Hints:=⟨[(4050,[.sv 50 QI,.box 5 (.list true Q31),.box 2 QL,.ptr 5 5 [],.clo 6 176 [2,5]],[(.exit 0,[.box 5 (.list true Q31),.box 2 QL,.ptr 5 5 [],.clo 6 176 [2,5]])])],[(15,[(.normal,[.sv 1 QI,.box 2 QL,.box 5 (.list true Q31),.ptr 2 2 [],.ptr 5 5 [],.clo 6 176 [2,5]])]),(31,[(.normal,[.sv 1 QI,.box 5 (.list true Q31),.box 2 QL,.ptr 5 5 [],.clo 6 176 [2,5]])]),(63,[(.normal,[.box 5 (.list true Q31),.ptr 5 5 []])])],[]⟩
def a8l(s:((List Int)×(Int×Bool×Z95×d1D))):Option (((List Int)×(Int×Bool×Z95×d1D)) ⊕ b4c):= cond (decide (s.2.2.2.2.2.1<s.2.2.2.2.1)) ((a0q s.2.2.2.1 s.2.2.2.2.2.1).bind fun x6=> (b4H (x6.1,s.1,x6)).bind fun y7=> cond (y7.2 != 0) (some (.inl (s.1,s.2.1,s.2.2.1,s.2.2.2.1,s.2.2.2.2.1,wrap .i64 (s.2.2.2.2.2.1+1),s.2.2.2.2.2.2.1,s.2.2.2.2.2.2.2.1,()))) ((a3z (y7.1,(s.1.length:Int))).bind fun y8=> (show Option ((List Int)×(Int×Bool×Int×Z95×Int×Int×Bool×Z94×b4c))from cond (!s.2.2.1) (some (s.1,s.2.1,s.2.2.1,y8,s.2.2.2.1,s.2.2.2.2.1,s.2.2.2.2.2.1,true,s.2.2.2.2.2.2.1,s.2.2.2.2.2.2.2.1,y7.1,())) (some (s.1,s.2.1,s.2.2.1,y8,s.2.2.2.1,s.2.2.2.2.1,s.2.2.2.2.2.1,decide (y8<s.2.1),s.2.2.2.2.2.2.1,s.2.2.2.2.2.2.2.1,y7.1,()))).bind fun z9=> cond z9.2.2.2.2.2.2.2.1 (some (.inl (z9.1,z9.2.2.2.1,true,z9.2.2.2.2.1,z9.2.2.2.2.2.1,wrap .i64 (z9.2.2.2.2.2.2.1+1),z9.2.2.2.2.2.2.2.2.1,z9.2.2.2.2.2.2.2.2.2.2.1,()))) (some (.inl (z9.1,z9.2.1,z9.2.2.1,z9.2.2.2.2.1,z9.2.2.2.2.2.1,wrap .i64 (z9.2.2.2.2.2.2.1+1),z9.2.2.2.2.2.2.2.2.1,z9.2.2.2.2.2.2.2.2.2.1,()))))) (some (.inr (s.2.2.2.2.2.2.1,s.2.2.2.2.2.2.2.1,())))
def a3a(x:((List Int)×Int)):Option Z96:= (show Option ((List Int)×c8g)from cond (decide ((x.1.length:Int)<1)) (some (x.1,x.2,true,(0,0,0,0,0,[],a00 3 0,[],[],(0,[],()),[],()),())) (cond (decide ((x.1.length:Int) > 4096)) (some (x.1,x.2,true,(0,0,0,0,0,[],a00 3 0,[],[],(0,[],()),[],()),())) (cond (decide (x.2<0)) (some (x.1,x.2,true,(0,0,0,0,0,[],a00 3 0,[],[],(0,[],()),[],()),())) (some (x.1,x.2,decide (x.2 > 3),(0,0,0,0,0,[],a00 3 0,[],[],(0,[],()),[],()),()))))).bind fun z1=> cond z1.2.2.1 (some ((0,0,0,0,0,[],a00 3 0,[],[],(0,[],()),[],()),1)) ((a2w z1.1).bind fun y2=> cond (!y2) (some ((0,0,0,0,0,[],a00 3 0,[],[],(0,[],()),[],()),6)) ((a4E z1.1).bind fun y3=> (a8j (z1.1,y3)).bind fun y4=> cond (y4.2 != 0) (some ((0,0,0,0,0,[],a00 3 0,[],[],(0,[],()),[],()),y4.2)) ((a7N (y4.1,z1.2.1)).bind fun y5=> (a0h a8l (z1.1,0,false,y5,(y5.length:Int),0,z1.2.2.2.1,(0,0,0,0,0,[],a00 3 0,[],[],(0,[],()),[],()),())).bind fun w10=> some (w10.2.1,0))))
def c3H:FSem:=⟨[.v QL,.v QI],[.v Q31,.v QI],a3a⟩
def H40:Hints:=⟨[(2042,[.sv 0 QL,.sv 9 QI,.sv 10 .bool,.sv 50 (.list false Q31),.sv 51 QI,.sv 52 QI,.box 4 Q31,.box 8 Q31,.ptr 4 4 [],.ptr 8 8 []],[(.exit 0,[.box 4 Q31,.box 8 Q31,.ptr 4 4 [],.ptr 8 8 []])])],[(6,[(.normal,[.sv 0 QL,.sv 1 QI,.sv 31 .bool,.box 4 Q31,.ptr 4 4 []])]),(1045711,[(.normal,[.sv 0 QL,.sv 9 QI,.sv 10 .bool,.sv 15 QI,.sv 50 (.list false Q31),.sv 51 QI,.sv 52 QI,.sv 76 .bool,.box 4 Q31,.box 8 Q31,.box 13 Q31,.ptr 4 4 [],.ptr 8 8 [],.ptr 13 13 []])])],[]⟩
def a9p(s:(Z14×Z26)):Option ((Z14×Z26) ⊕ (Z2 ⊕ Z13)):= cond (decide (s.2.2.1<s.2.1)) ((a0q s.1 s.2.2.1).bind fun x5=> (a9k (s.2.2.2.1,x5,1)).bind fun y6=> cond (!y6.1) (some (.inr (Sum.inr ((([]:(List (List Int))),6,()))))) (some (.inl (s.1,s.2.1,wrap .i64 (s.2.2.1+1),y6.2,())))) (some (.inr (Sum.inl (s.2.2.2.1,()))))
def b3T(x:((List (List Int))×Z14)):Option ((List (List Int))×Int):= (show Option ((List (List Int))×(Z14×Bool×Unit))from(a8y x.1).bind fun y1=> cond (!y1) (some (x.1,x.2,true,())) ((a9D (x.2,(x.1.length:Int))).bind fun y2=> some (x.1,x.2,!y2,()))).bind fun z3=> cond z3.2.2.1 (some (([]:(List (List Int))),1)) ((a8f z3.1).bind fun y4=> (a0h a9p (z3.2.1,(z3.2.1.length:Int),0,y4,())).bind fun w7=> match w7 with |.inl a8=>some (a8.1,0) |.inr b9=>some (b9.1,b9.2.1))
def c0G:FSem:=⟨[.v (.list false QL),.v (.list false Q8)],[.v (.list false QL),.v QI],b3T⟩
def H79:Hints:=⟨[(122,[.sv 21 (.list false Q8),.sv 22 QI,.sv 23 QI,.own 6 6 (.list true QI)],[(.exit 0,[.own 6 6 (.list true QI)]),(.ret,[.sv 4 (.list false QL),.sv 5 QI])])],[(6,[(.normal,[.sv 0 (.list false QL),.sv 1 (.list false Q8),.sv 18 .bool])])],[]⟩
def a7O(s:(Int×((List Int)×Z40))):Option ((Int×((List Int)×Z40)) ⊕ Z40):= cond (decide (s.2.2.1<(s.2.1.length:Int))) ((a0q s.2.1 s.2.2.1).bind fun x3=> (a0q s.2.1 (wrap .i64 (s.2.2.1-1))).bind fun x4=> (a0q s.2.1 (wrap .i64 (s.2.2.1-2))).bind fun x5=> some (.inl (wrap .i64 (s.1+(a2y (wrap .i64 ((wrap .i64 (x3-(wrap .i64 (2*x4))))+x5)) (wrap .i64 (0-(wrap .i64 ((wrap .i64 (x3-(wrap .i64 (2*x4))))+x5)))))),s.2.1,wrap .i64 (s.2.2.1+1),s.2.2.2.1,s.2.2.2.2.1,s.2.2.2.2.2.1,()))) (some (.inr (s.1,s.2.2.2.1,s.2.2.2.2.1,s.2.2.2.2.2.1,())))
def a7P(s:Z40):Option (Z40 ⊕ (Int×Unit)):= cond (decide (s.2.2.2.1<s.2.2.1)) ((a0q s.2.1 s.2.2.2.1).bind fun x2=> (a0h a7O (s.1,x2,2,s.2.1,s.2.2.1,s.2.2.2.1,())).bind fun w6=> some (.inl (w6.1,w6.2.1,w6.2.2.1,wrap .i64 (w6.2.2.2.1+1),()))) (some (.inr (s.1,())))
def a8m(x:(List (List Int))):Option Int:= (a8y x).bind fun y1=> cond (!y1) (some 0) ((a0h a7P (0,x,(x.length:Int),0,())).bind fun w7=> some w7.1)
def b9B:FSem:=⟨[.v (.list false QL)],[.v QI],a8m⟩
def e1S:Hints:=⟨[(122,[.sv 3 QI,.sv 11 (.list false QL),.sv 12 QI,.sv 13 QI],[(.exit 0,[.sv 3 QI])]),(31334,[.sv 3 QI,.sv 5 QL,.sv 6 QI,.sv 11 (.list false QL),.sv 12 QI,.sv 13 QI],[(.exit 2,[.sv 3 QI,.sv 11 (.list false QL),.sv 12 QI,.sv 13 QI])])],[],[(10,[.v,.v,.v,.v,.v,.v,.v,.v,.v,.v,.v,.v,.v,.v,.v,.v,.x,.x])]⟩
def b2e(x:Int):Option Z14:= cond (x==1) (some ([(0,1,(-256),())]:List Z7)) (cond (x==2) (some ([(1,0,(-256),())]:List Z7)) (cond (x==3) (some ([(1,0,(-256),()),(0,1,128,())]:List Z7)) (cond (x==4) (some ([(1,0,(-106),()),(0,1,181,()),(1,0,(-106),())]:List Z7)) (some []))))
def c0H:FSem:=⟨[.v QI],[.o Q8],b2e⟩
def e1T:Hints:=⟨[],[],[]⟩
def a7l(s:((List (List Int))×Z7)):Option (((List (List Int))×Z7) ⊕ (Int×Unit)):= cond (decide (s.2.2.2.1<5)) ((b2e s.2.2.2.1).bind fun y2=> (b3T (s.1,y2)).bind fun y3=> cond (y3.2 != 0) (some (.inl (s.1,s.2.1,s.2.2.1,wrap .i64 (s.2.2.2.1+1),()))) ((a8m y3.1).bind fun y4=> cond (decide (y4<s.2.2.1)) (some (.inl (s.1,s.2.2.2.1,y4,wrap .i64 (s.2.2.2.1+1),()))) (some (.inl (s.1,s.2.1,s.2.2.1,wrap .i64 (s.2.2.2.1+1),()))))) (some (.inr (s.2.1,())))
def b3w(x:(List (List Int))):Option Z14:= (a8m x).bind fun y1=> (a0h a7l (x,0,y1,1,())).bind fun w5=> (b2e w5.1).bind fun y6=> some y6
def c1T:FSem:=⟨[.v (.list false QL)],[.o Q8],b3w⟩
def e1U:Hints:=⟨[(58,[.sv 0 (.list false QL),.sv 3 QI,.sv 4 QI,.sv 5 QI],[(.exit 0,[.sv 3 QI])])],[],[]⟩
def a7m(s:(Int×Int×Int×Z14×Z82)):Option ((Int×Int×Int×Z14×Z82) ⊕ (Int×Z82)):= cond (decide (s.2.2.1<s.2.1)) (cond ((decide (0≤s.2.2.1))&&(decide (s.2.2.1<(s.2.2.2.2.1.length:Int)))) (cond (lim ((a02 s.2.2.2.1)+1)) (some (.inl (s.1,s.2.1,wrap .i64 (s.2.2.1+1),a04 s.2.2.2.1 ([(wrap .i64 (((a03 s.2.2.2.2.1 (a01 s.2.2.1) (0,0,0,())).1)+s.1),wrap .i64 ((((a03 s.2.2.2.2.1 (a01 s.2.2.1) (0,0,0,())).2).1)+s.1),(((a03 s.2.2.2.2.1 (a01 s.2.2.1) (0,0,0,())).2).2).1,())]:List Z7),s.2.2.2.2.1,s.2.2.2.2.2.1,()))) none) none) (some (.inr (s.1,s.2.2.2.1,s.2.2.2.2.2.1,())))
def a9W(s:(Int×Z82)):Option ((Int×Z82) ⊕ (Z14×Unit)):= cond (decide ((wrap .i64 (s.1+1))<(s.2.2.1.2.1.length:Int))) (cond ((decide (0≤(wrap .i64 (s.1+2))))&&(decide ((wrap .i64 (s.1+2))≤(s.2.2.1.2.1.length:Int)))) (cond ((decide (0≤s.1))&&(decide (s.1≤((a01 (wrap .i64 (s.1+2)):Nat):Int)))) ((b3w (a29 (a01 s.1) (a07 (a01 (wrap .i64 (s.1+2))) s.2.2.1.2.1))).bind fun y2=> (a0h a7m (s.1,(y2.length:Int),0,s.2.1,y2,s.2.2.1,())).bind fun w3=> some (.inl (wrap .i64 (w3.1+2),w3.2.1,w3.2.2.1,()))) none) none) (some (.inr (s.2.1,())))
def a8D(x:Z12):Option Z14:= (a8z x).bind fun y1=> cond (!y1) (some []) ((a0h a9W (0,[],x,())).bind fun w4=> some w4.1)
def c1U:FSem:=⟨[.v Q10],[.o Q8],a8D⟩
def H78:Hints:=⟨[(122,[.sv 4 QI,.own 3 3 Q8,.vp 1 Q10],[(.exit 0,[.own 3 3 Q8])]),(7826,[.sv 4 QI,.sv 25 QI,.sv 26 QI,.own 3 3 Q8,.own 24 1024 Q8,.vp 1 Q10],[(.exit 2,[.sv 4 QI,.own 3 3 Q8,.vp 1 Q10])])],[],[]⟩
def a6A(s:(Int×((List (List Int))×(Int×d1E)))):Option ((Int×((List (List Int))×(Int×d1E))) ⊕ (d4R ⊕ (Int×c0o))):= cond (decide (s.2.2.2.1<s.2.2.1)) ((a0q s.2.1 s.2.2.2.1).bind fun x8=> (a3a (x8,s.1)).bind fun y9=> cond (y9.2 != 0) (some (.inr (Sum.inr ((y9.2,(0,0,(0,0,0,()),[],[],()),()))))) (cond (lim ((a02 s.2.2.2.2.2.1.2.2.2.2.1)+1)) (some (.inl (s.1,s.2.1,s.2.2.1,wrap .i64 (s.2.2.2.1+1),s.2.2.2.2.1,(s.2.2.2.2.2.1.1,s.2.2.2.2.2.1.2.1,s.2.2.2.2.2.1.2.2.1,s.2.2.2.2.2.1.2.2.2.1,a04 s.2.2.2.2.2.1.2.2.2.2.1 ([y9.1]:List Z94),s.2.2.2.2.2.1.2.2.2.2.2),()))) none)) (some (.inr (Sum.inl (s.2.2.2.2.1,s.2.2.2.2.2.1,()))))
def a4z(x:(Z12×Z7×Int×Int)):Option (a7E×Int):= (show Option (Int×Int×Bool×a7E×Z12×Z7×Unit)from(a8z x.1).bind fun y1=> cond (!y1) (some (x.2.2.1,x.2.2.2,true,(0,0,(0,0,0,()),[],[],()),x.1,x.2.1,())) ((a7Z x.2.1).bind fun y2=> cond (!y2) (some (x.2.2.1,x.2.2.2,true,(0,0,(0,0,0,()),[],[],()),x.1,x.2.1,())) (cond (x.1.1 != x.2.1.2.2.1) (some (x.2.2.1,x.2.2.2,true,(0,0,(0,0,0,()),[],[],()),x.1,x.2.1,())) (cond ((x.1.2.1.length:Int) != x.2.1.2.1) (some (x.2.2.1,x.2.2.2,true,(0,0,(0,0,0,()),[],[],()),x.1,x.2.1,())) (cond (decide (x.2.2.2<0)) (some (x.2.2.1,x.2.2.2,true,(0,0,(0,0,0,()),[],[],()),x.1,x.2.1,())) (cond (decide (x.2.2.2 > 3)) (some (x.2.2.1,x.2.2.2,true,(0,0,(0,0,0,()),[],[],()),x.1,x.2.1,())) (some (x.2.2.1,x.2.2.2,decide (x.2.2.1<0),(0,0,(0,0,0,()),[],[],()),x.1,x.2.1,())))))))).bind fun z3=> cond z3.2.2.1 (some ((0,0,(0,0,0,()),[],[],()),1)) ((a6I z3.2.2.2.2.1).bind fun y4=> cond (decide (z3.1 > (wrap .i64 (4194304-y4)))) (some ((0,0,(0,0,0,()),[],[],()),4)) ((show Option (Int×a7E×a7E×Z28)from cond (decide (z3.2.1 > 0)) ((a8D z3.2.2.2.2.1).bind fun y5=> some (z3.2.1,z3.2.2.2.1,(z3.1,y4,z3.2.2.2.2.2.1,y5,[],()),z3.2.2.2.2.1,())) (some (z3.2.1,z3.2.2.2.1,(z3.1,y4,z3.2.2.2.2.2.1,[],[],()),z3.2.2.2.2.1,()))).bind fun z6=> (b3T (z6.2.2.2.1.2.1,z6.2.2.1.2.2.2.1)).bind fun y7=> cond (y7.2 != 0) (some ((0,0,(0,0,0,()),[],[],()),y7.2)) ((a0h a6A (z6.1,y7.1,(y7.1.length:Int),0,z6.2.1,z6.2.2.1,())).bind fun w10=> match w10 with |.inl a11=>some (a11.2.1,0) |.inr b12=>some (b12.2.1,b12.1))))
def b5F:FSem:=⟨[.v Q10,.v Q8,.v QI,.v QI],[.v Q49,.v QI],a4z⟩
def H30:Hints:=⟨[(2042,[.sv 3 QI,.sv 81 (.list false QL),.sv 82 QI,.sv 83 QI,.box 8 Q49,.box 10 Q48,.ptr 8 8 [],.ptr 10 10 []],[(.exit 0,[.box 8 Q49,.box 10 Q48,.ptr 8 8 [],.ptr 10 10 []]),(.ret,[.sv 9 QI,.box 8 Q49,.ptr 8 8 []])])],[(6,[(.normal,[.sv 2 QI,.sv 3 QI,.sv 51 .bool,.box 8 Q49,.vp 4 Q10,.vp 5 Q8,.ptr 8 8 []])]),(31,[(.normal,[.sv 3 QI,.box 8 Q49,.box 10 Q48,.vp 4 Q10,.ptr 8 8 [],.ptr 10 10 []])])],[(3,[.v,.v,.v,.v,.v,.q,.x])]⟩
def c3I(s:Z6):Option (Z6 ⊕ (Unit ⊕ (Int×Unit))):= cond (decide (s.2.1<(s.1.length:Int))) (cond ((decide (0≤s.2.1))&&(decide (s.2.1≤(s.1.length:Int)))) ((a7i (a29 (a01 s.2.1) (a07 (a02 s.1) s.1))).bind fun y1=> cond (y1.2.2==0) (some (.inr (Sum.inr ((s.2.1,()))))) (some (.inl (s.1,wrap .i64 (s.2.1+1),())))) none) (some (.inr (Sum.inl ())))
end Go.Ab
namespace Go.Ab
open IntKind(wrap)
open Go.Proofs
set_option maxRecDepth 100000
set_option linter.unusedVariables false
def c0I(x:((List Int)×Int)):Option Int:= (a0h c3I (x.1,a2y x.2 0,())).bind fun w2=> match w2 with |.inl a3=>some (-1) |.inr b4=>some b4.1
def c0J:FSem:=⟨[.v (.list false (.int .u8)),.v QI],[.v QI],c0I⟩
def H43:Hints:=⟨[(26,[.sv 0 (.list false (.int .u8)),.sv 5 QI],[(.exit 0,[]),(.ret,[.sv 4 QI])])],[],[]⟩
def b7g(x:Unit):Option Bool:= (a4z ((8,([[3,3],[3,3]]:List (List Int)),()),(8000,2,8,()),5,0)).bind fun y1=> (a5g y1.1).bind fun y2=> (a7i y2.1).bind fun y3=> (a3O y3.1).bind fun y4=> (a9o y2.1).bind fun y5=> cond (y1.2==0) (cond (y2.2==0) (cond (y3.2.2==0) (cond (y4.2==0) (cond (y5.2.2.2==0) (cond (y3.2.1==(y2.1.length:Int)) ((b6q (y1.1,y3.1)).bind fun y6=> cond y6 ((a6q ((8,([[3,3],[3,3]]:List (List Int)),()),y4.1)).bind fun y7=> cond y7 (cond (eqT Q8 y5.1 ((8000: Int),(2: Int),(8: Int),())) (cond (y5.2.1==5) (cond (y5.2.2.1==2) (cond (lim (2+(a02 y2.1))) ((c0I (a04 [1,245] y2.1,0)).bind fun y8=> cond (y8==2) (cond (decide ((y2.1.length:Int) > 2)) ((a0q y2.1 0).bind fun x9=> cond (x9==245) ((a0q y2.1 1).bind fun x10=> some (x10==75)) (some false)) (some false)) (some false)) none) (some false)) (some false)) (some false)) (some false)) (some false)) (some false)) (some false)) (some false)) (some false)) (some false)) (some false)
def c1V:FSem:=⟨[],[.v .bool],b7g⟩
def H15:Hints:=⟨[],[],[]⟩
def a8n(s:Z56):Option (Z56 ⊕ Z0):= cond (decide (s.2.1<(s.2.2.1.2.1.length:Int))) ((a0q s.2.2.1.2.1 s.2.1).bind fun x1=> cond (decide ((x1.length:Int) > s.1)) (some (.inr (Sum.inr ((false,()))))) (some (.inl (s.1,wrap .i64 (s.2.1+1),s.2.2.1,())))) (some (.inr (Sum.inl ())))
def b4I(x:(Z12×Int)):Option Bool:= cond (decide ((x.1.2.1.length:Int) > 12)) (some false) ((a0h a8n (x.2,0,x.1,())).bind fun w2=> match w2 with |.inl a3=>some true |.inr b4=>some b4.1)
def c3J:FSem:=⟨[.v Q10,.v QI],[.v .bool],b4I⟩
def H29:Hints:=⟨[(58,[.sv 1 QI,.sv 5 QI,.vp 2 Q10],[(.exit 0,[]),(.ret,[.sv 4 .bool])])],[],[]⟩
def a7n(s:Z13):Option (Z13 ⊕ Z0):= cond (decide (s.2.1<(s.1.length:Int))) ((a0q s.1 s.2.1).bind fun x2=> (a0q s.1 0).bind fun x3=> cond ((x2.length:Int) != (x3.length:Int)) (some (.inr (Sum.inr ((false,()))))) (some (.inl (s.1,wrap .i64 (s.2.1+1),())))) (some (.inr (Sum.inl ())))
def b3x(x:(List (List Int))):Option Bool:= (show Option ((List (List Int))×(Bool×Unit))from cond (decide ((x.length:Int)<1)) (some (x,true,())) (some (x,decide ((x.length:Int) > 8),()))).bind fun z1=> cond z1.2.1 (some false) ((a0h a7n (z1.1,0,())).bind fun w4=> match w4 with |.inl a5=>some true |.inr b6=>some b6.1)
def c1W:FSem:=⟨[.v (.list false QL)],[.v .bool],b3x⟩
def H84:Hints:=⟨[(58,[.sv 0 (.list false QL),.sv 3 QI],[(.exit 0,[]),(.ret,[.sv 2 .bool])])],[(6,[(.normal,[.sv 0 (.list false QL),.sv 11 .bool])])],[(6,[.v,.v,.v,.v,.v,.v,.v,.v,.v,.x])]⟩
def c2D(x:Int):Option Int:= (show Option (Int×Bool×Unit)from cond (decide (x<1)) (some (x,true,())) (some (x,decide (x > 31),()))).bind fun z1=> cond z1.2.1 (some 0) (cond (decide ((wrap .u64 (wrap .i64 (z1.1-1)))<0)) none (some (a0A .i64 (-1) (wrap .u64 (wrap .i64 (z1.1-1))))))
def c8k:FSem:=⟨[.v QI],[.v QI],c2D⟩
def e1V:Hints:=⟨[],[(6,[(.normal,[.sv 0 QI,.sv 8 .bool])])],[]⟩
def c0K(x:Int):Option Int:= (show Option (Int×Bool×Unit)from cond (decide (x<1)) (some (x,true,())) (some (x,decide (x > 31),()))).bind fun z1=> cond z1.2.1 (some 0) (cond (decide ((wrap .u64 (wrap .i64 (z1.1-1)))<0)) none (some (wrap .i64 ((a0A .i64 1 (wrap .u64 (wrap .i64 (z1.1-1))))-1))))
def c5Z:FSem:=⟨[.v QI],[.v QI],c0K⟩
def e1W:Hints:=⟨[],[(6,[(.normal,[.sv 0 QI,.sv 8 .bool])])],[]⟩
def b3U(x:(Int×Int)):Option Bool:= cond (decide (x.2≥1)) (cond (decide (x.2≤31)) ((c2D x.2).bind fun y1=> cond (decide (x.1≥y1)) ((c0K x.2).bind fun y2=> some (decide (x.1≤y2))) (some false)) (some false)) (some false)
def c6a:FSem:=⟨[.v QI,.v QI],[.v .bool],b3U⟩
def H85:Hints:=⟨[],[],[]⟩
def a3L(s:Z56):Option (Z56 ⊕ (Z46 ⊕ (Bool×Unit))):= (a0q s.2.2.1.2.1 s.1).bind fun x5=> cond (decide (s.2.1<(x5.length:Int))) ((a0q s.2.2.1.2.1 s.1).bind fun x6=> (a0q x6 s.2.1).bind fun x7=> (b3U (x7,s.2.2.1.1)).bind fun y8=> cond (!y8) (some (.inr (Sum.inr ((false,()))))) (some (.inl (s.1,wrap .i64 (s.2.1+1),s.2.2.1,())))) (some (.inr (Sum.inl (s.1,s.2.2.1,()))))
def a4V(s:Z46):Option (Z46 ⊕ Z0):= cond (decide (s.1<(s.2.1.2.1.length:Int))) ((a0h a3L (s.1,0,s.2.1,())).bind fun w9=> match w9 with |.inl a10=>some (.inl (wrap .i64 (a10.1+1),a10.2.1,())) |.inr b11=>some (.inr (Sum.inr ((b11.1,()))))) (some (.inr (Sum.inl ())))
def a7o(x:Z12):Option Bool:= (show Option Z48 from cond (decide (x.1<4)) (some (true,x,())) (cond (decide (x.1 > 24)) (some (true,x,())) ((b3x x.2.1).bind fun y1=> cond (!y1) (some (true,x,())) ((a0q x.2.1 0).bind fun x2=> cond (decide ((x2.length:Int)<1)) (some (true,x,())) ((a0q x.2.1 0).bind fun x3=> some (decide ((x3.length:Int) > 4096),x,())))))).bind fun z4=> cond z4.1 (some false) ((a0h a4V (0,z4.2.1,())).bind fun w12=> match w12 with |.inl a13=>some true |.inr b14=>some b14.1)
def b7R:FSem:=⟨[.v Q10],[.v .bool],a7o⟩
def H32:Hints:=⟨[(58,[.sv 3 QI,.vp 1 Q10],[(.exit 0,[]),(.ret,[.sv 2 .bool])]),(3730,[.sv 3 QI,.sv 4 QI,.vp 1 Q10],[(.exit 2,[.sv 3 QI,.vp 1 Q10]),(.ret,[.sv 2 .bool])])],[(6,[(.normal,[.sv 34 .bool,.vp 1 Q10])])],[(9,[.v,.v,.v,.v,.v,.v,.v,.v,.v,.v,.x,.x])]⟩
def a3B(s:(Int×Int×Int×Z79)):Option ((Int×Int×Int×Z79) ⊕ Z0):= cond (decide (s.2.2.1≤3)) ((a4z (s.2.2.2.2.1,s.2.2.2.1,bits .i64 .and s.1 65535,s.2.2.1)).bind fun y5=> (a5g y5.1).bind fun y6=> (a3O y5.1).bind fun y7=> (show Option (Int×(Int×(Int×(Bool×((List Int)×Z79)))))from cond (y5.2 != 0) (some (s.1,s.2.1,s.2.2.1,true,y6.1,s.2.2.2.1,s.2.2.2.2.1,())) (cond (y6.2 != 0) (some (s.1,s.2.1,s.2.2.1,true,y6.1,s.2.2.2.1,s.2.2.2.2.1,())) (cond (y7.2 != 0) (some (s.1,s.2.1,s.2.2.1,true,y6.1,s.2.2.2.1,s.2.2.2.2.1,())) ((a6q (s.2.2.2.2.1,y7.1)).bind fun y8=> some (s.1,s.2.1,s.2.2.1,!y8,y6.1,s.2.2.2.1,s.2.2.2.2.1,()))))).bind fun z9=> cond z9.2.2.2.1 (some (.inr (Sum.inr ((false,()))))) ((show Option (Int×(Int×(Bool×((List Int)×Z79))))from cond (decide (z9.2.2.1 > 1)) (some (z9.1,z9.2.2.1,decide ((z9.2.2.2.2.1.length:Int) > z9.2.1),z9.2.2.2.2.1,z9.2.2.2.2.2.1,z9.2.2.2.2.2.2.1,())) (some (z9.1,z9.2.2.1,false,z9.2.2.2.2.1,z9.2.2.2.2.2.1,z9.2.2.2.2.2.2.1,()))).bind fun z10=> cond z10.2.2.1 (some (.inr (Sum.inr ((false,()))))) (some (.inl (z10.1,(z10.2.2.2.1.length:Int),wrap .i64 (z10.2.1+1),z10.2.2.2.2.1,z10.2.2.2.2.2.1,()))))) (some (.inr (Sum.inl ())))
def b0d(x:(Z12×Int)):Option Bool:= (b7g ()).bind fun y1=> cond (!y1) (some false) ((show Option (Int×Z48)from(b4I (x.1,40)).bind fun y2=> cond (!y2) (some (x.2,true,x.1,())) ((a7o x.1).bind fun y3=> some (x.2,!y3,x.1,()))).bind fun z4=> cond z4.2.1 (some true) ((a0h a3B (z4.1,0,0,(48000,(z4.2.2.1.2.1.length:Int),z4.2.2.1.1,()),z4.2.2.1,())).bind fun w11=> match w11 with |.inl a12=>some true |.inr b13=>some b13.1))
def b4q:FSem:=⟨[.v Q10,.v QI],[.v .bool],b0d⟩
def H10:Hints:=⟨[(506,[.sv 1 QI,.sv 6 QI,.sv 7 QI,.box 5 Q8,.vp 2 Q10,.ptr 5 5 []],[(.exit 0,[]),(.ret,[.sv 4 .bool])])],[(14,[(.normal,[.sv 1 QI,.sv 23 .bool,.vp 2 Q10])]),(129614,[(.normal,[.sv 1 QI,.sv 6 QI,.sv 7 QI,.sv 68 .bool,.own 10 10 (.int .u8),.box 5 Q8,.vp 2 Q10,.ptr 5 5 []])]),(259230,[(.normal,[.sv 1 QI,.sv 7 QI,.sv 76 .bool,.own 10 10 (.int .u8),.box 5 Q8,.vp 2 Q10,.ptr 5 5 []])])],[]⟩
end Go.Ab
namespace Go.Ab
open Go.Proofs
set_option maxRecDepth 100000
theorem b6t:Tryz.prog.follows .mixedOrders=true:=by kernel_rfl
theorem e1X:d5J Tryz.prog c7n=true:=by kernel_rfl
theorem e1Y:d5K Tryz.prog c8h=true:=by kernel_rfl
theorem e1Z:d5L Tryz.prog c7n d1F=true:=by kernel_rfl
theorem laidOut:laidOutB Tryz.prog=true:=by kernel_rfl
@[reducible] def Ok0(n:Nat)(s:FSem):Prop:=a3r Tryz.prog G0 n s∧b1D Tryz.prog n
theorem cxo{a:List (Nat×FSem)}{b:List (Nat×Ty)}{c d:List Nat}(h:∀p∈a,Ok0 p.1 p.2):CxOk Tryz.prog (c0p a b c d):=
 CxOk.of (CxTy.of (tab:=c7n) (l:=d1F) (q:=c8h) (fun _=>rfl) (fun _=>rfl) (fun _=>rfl) e1X e1Y e1Z) (fun _=>rfl) h
theorem fo (a : List (Nat × FSem)) (b : List (Nat × Ty)) (c d : List Nat) (H : Hints) {n : Nat} {fn : Func} {e : Code} {s : FSem} (h : ∀ p ∈ a, Ok0 p.1 p.2) (hf : Tryz.prog.funcs[n]? = some fn) (hb : fn.body = some e := by rfl) (hk : d4J fn e H s = true := by kernel_rfl) (hn : (fn.name == "runtime.NumGoroutine") = false := by kernel_rfl) (hq : ∀ x, b9P (c0p a b c d) H fn s.ps s.rs x = s.F x := by intro x; kernel_rfl) : Ok0 n s :=
 ⟨a3r.of (cxo h) b6t hf hb hk hq,⟨_,_,hf,hb,hn⟩⟩
theorem d5P:Ok0 109 b4d:=
 fo [] [] [0,2] [] d9K a0 Tryz.func109
theorem d7x:Ok0 77 b4e:=
 fo [(109,b4d)] [] [0,2] [1] H77 (a1 d5P a0) Tryz.func77
theorem d1H:Ok0 102 b4z:=
 fo [] [] [0,1,4] [] d9L a0 Tryz.func102
theorem d7y:Ok0 44 b4f:=
 fo [(77,b4e),(102,b4z)] [] [0,2] [1] H44 (a1 d7x (a1 d1H a0)) Tryz.func44
theorem d4T:Ok0 90 b0G:=
 fo [] [] [0,2,4] [] H90 a0 Tryz.func90
theorem d1I:Ok0 126 b1J:=
 fo [] [] [0,2] [] d9M a0 Tryz.func126
theorem d1J:Ok0 217 b1K:=
 fo [] [] [0,1,4,6] [] d9N a0 Tryz.func217
theorem d1K:Ok0 218 b4A:=
 fo [] [] [0,1,4,6] [3] d9O a0 Tryz.func218
theorem d5Q:Ok0 281 b4g:=
 fo [] [] [0,2] [1] d9P a0 Tryz.func281
theorem d1L:Ok0 219 b3b:=
 fo [(281,b4g)] [] [0,2] [] d9Q (a1 d5Q a0) Tryz.func219
theorem d1M:Ok0 149 b6k:=
 fo [(217,b1K),(218,b4A),(219,b3b)] [] [0,1,2,6,8,11,27,41,62] [4] d9R (a1 d1J (a1 d1K (a1 d1L a0))) Tryz.func149
theorem d1N:Ok0 150 b1L:=
 fo [] [] [0,1,4,7,9,12,16] [2] d9S a0 Tryz.func150
theorem c8l:Ok0 87 a0Y:=
 ⟨a3r.of (cx:=d7s) (cxo a0) b6t Tryz.func87 rfl (by kernel_rfl) d9T,⟨_,_,Tryz.func87,rfl,by kernel_rfl⟩⟩
theorem d8j:Ok0 87 a2e:=
 ⟨a3r.of (cx:=d5N) (cxo a0) b6t Tryz.func87 rfl (by kernel_rfl) d8f,⟨_,_,Tryz.func87,rfl,by kernel_rfl⟩⟩
theorem d7z:Ok0 229 a1g:=
 ⟨a3r.of (cx:=d3t) (cxo a0) b6t Tryz.func229 rfl (by kernel_rfl) d7t,⟨_,_,Tryz.func229,rfl,by kernel_rfl⟩⟩
theorem d5R:Ok0 169 b5r:=
 fo [(87,a2e),(229,a1g)] [] [0,1,9,11,13,15] [3] d9V (a1 d8j (a1 d7z a0)) Tryz.func169
theorem d8k:Ok0 188 c1B:=
 fo [(169,b5r)] [] [0,2] [1] d9W (a1 d5R a0) Tryz.func188
theorem d1O:Ok0 220 b3d:=
 fo [] [] [0,1,4] [] d9X a0 Tryz.func220
theorem c3K:Ok0 209 a6a:=
 fo [(220,b3d)] [] [0,1,2,6,7,8] [] d9Y (a1 d1O a0) Tryz.func209
theorem d5S:Ok0 189 b6Y:=
 fo [(209,a6a)] [] [0,1,2,6,7,9] [3] d9Z (a1 c3K a0) Tryz.func189
theorem d8l:Ok0 103 c0q:=
 fo [(90,b0G),(126,b1J),(149,b6k),(150,b1L),(188,c1B),(189,b6Y)] [] [0,1,4,5] [2] e0a (a1 d4T (a1 d1I (a1 d1M (a1 d1N (a1 d8k (a1 d5S a0)))))) Tryz.func103
theorem d5T:Ok0 251 b5s:=
 fo [] [] [0,2,4] [] e0b a0 Tryz.func251
theorem d8m:Ok0 294 b6m:=
 fo [] [] [0,1,3] [] e0c a0 Tryz.func294
theorem d8n:Ok0 252 b9q:=
 fo [(294,b6m)] [] [0,1,4,5,8,12,20,32] [] e0d (a1 d8m a0) Tryz.func252
theorem d8o:Ok0 190 c0r:=
 fo [(251,b5s),(252,b9q)] [] [0,1,2,6,7,8,10,11] [] e0e (a1 d5T (a1 d8n a0)) Tryz.func190
theorem d1P:Ok0 255 b0I:=
 fo [] [] [0,2] [] e0f a0 Tryz.func255
theorem d1Q:Ok0 253 a7G:=
 fo [(255,b0I)] [] [0,2,4] [] e0g (a1 d1P a0) Tryz.func253
theorem d5U:Ok0 254 b1g:=
 fo [] [] [0,1,2,6,7,8,9,10] [] e0h a0 Tryz.func254
theorem d8p:Ok0 191 b9r:=
 fo [(217,b1K),(253,a7G),(254,b1g),(255,b0I)] [] [0,1,2,3,8,9,10,12,13] [] e0i (a1 d1J (a1 d1Q (a1 d5U (a1 d1P a0)))) Tryz.func191
theorem d1R:Ok0 258 b3e:=
 fo [] [] [0,2] [] e0j a0 Tryz.func258
theorem d1S:Ok0 256 a9F:=
 fo [(258,b3e)] [] [0,2,4] [] e0k (a1 d1R a0) Tryz.func256
theorem d5V:Ok0 257 b2I:=
 fo [] [] [0,1,2,3,8,9,10,11,12] [7] e0l a0 Tryz.func257
theorem d8q:Ok0 192 c1C:=
 fo [(218,b4A),(256,a9F),(257,b2I),(258,b3e)] [] [0,1,2,6,7,8,9,10,11] [5] e0m (a1 d1K (a1 d1S (a1 d5V (a1 d1R a0)))) Tryz.func192
theorem d1T:Ok0 263 b1O:=
 fo [] [] [0,2] [] e0n a0 Tryz.func263
theorem d5W:Ok0 259 b1P:=
 fo [(263,b1O)] [] [0,2,4] [] e0o (a1 d1T a0) Tryz.func259
theorem d5X:Ok0 261 b6Z:=
 fo [(281,b4g)] [(15,.pair QI Q9),(16,.pair QI Q9)] [0,2,3] [1] e0p (a1 d5Q a0) Tryz.func261
theorem d5Y:Ok0 296 b1Q:=
 fo [] [] [0,2] [] e0q a0 Tryz.func296
theorem d1U:Ok0 262 a4Z:=
 fo [(296,b1Q)] [] [0,2,3,4,5] [] e0r (a1 d5Y a0) Tryz.func262
theorem d5Z:Ok0 264 a8I:=
 fo [(262,a4Z),(296,b1Q)] [] [0,1,4,5,6,7,8,13,22] [] e0s (a1 d1U (a1 d5Y a0)) Tryz.func264
theorem d8r:Ok0 193 a9j:=
 ⟨a3r.ofR (cx:=d5O) (cxo (a1 c8l (a1 d1L (a1 d5W (a1 d5X (a1 d1U (a1 d1T (a1 d5Z a0)))))))) b6t (r:=d7u) ⟨d6D,d6E⟩ Tryz.func193 rfl (by kernel_rfl) d8h,⟨_,_,Tryz.func193,rfl,by kernel_rfl⟩⟩
theorem d6a:Ok0 173 b4h:=
 fo [] [] [0,2] [] e0u a0 Tryz.func173
theorem d8s:Ok0 194 c1D:=
 fo [(173,b4h)] [] [0,1,4,5,6,8] [] e0v (a1 d6a a0) Tryz.func194
theorem d8t:Ok0 104 c3A:=
 fo [(190,c0r),(191,b9r),(192,c1C),(193,a9j),(194,c1D)] [] [0,1,4,5,6,7,10,24,28,40,54,79] [2] e0w (a1 d8o (a1 d8p (a1 d8q (a1 d8r (a1 d8s a0))))) Tryz.func104
theorem d7A:Ok0 45 c0s:=
 fo [(103,c0q),(104,c3A)] [] [0,1,4,5,6,7] [2] H45 (a1 d8l (a1 d8t a0)) Tryz.func45
theorem d6b:Ok0 195 b7a:=
 fo [] [] [0,2] [] e0x a0 Tryz.func195
theorem d1V:Ok0 105 b3g:=
 fo [(195,b7a)] [] [0,2,4,6] [] e0y (a1 d6b a0) Tryz.func105
theorem d6c:Ok0 106 b4i:=
 fo [(87,a0Y)] [(15,.list true (.list true QI))] [0,2,3,5] [] e0z (a1 c8l a0) Tryz.func106
theorem d6d:Ok0 108 b5t:=
 fo [(195,b7a)] [] [0,1,2,6,7,8,9] [4] e0A (a1 d6b a0) Tryz.func108
theorem e2a:Ok0 46 b0r:=
 ⟨a3r.ofR (cx:=d7v) (cxo (a1 d1H (a1 d1V (a1 d6c (a1 d6d a0))))) b6t (r:=R46) ⟨d6F,d6G⟩ Tryz.func46 rfl (by kernel_rfl) e0B,⟨_,_,Tryz.func46,rfl,by kernel_rfl⟩⟩
theorem d7B:Ok0 35 b7b:=
 fo [] [] [0,2] [1] H35 a0 Tryz.func35
theorem d8u:Ok0 197 c0t:=
 fo [] [] [0,2] [] e0C a0 Tryz.func197
theorem d8v:Ok0 198 b9s:=
 fo [] [] [0,2] [] e0D a0 Tryz.func198
theorem d1W:Ok0 110 b0J:=
 fo [(197,c0t),(198,b9s)] [] [0,1,4] [] e0E (a1 d8u (a1 d8v a0)) Tryz.func110
theorem d4U:Ok0 47 b3i:=
 fo [(35,b7b),(109,b4d),(110,b0J)] [] [0,2,4,6] [1] H47 (a1 d7B (a1 d5P (a1 d1W a0))) Tryz.func47
theorem d4V:Ok0 17 b0K:=
 fo [(44,b4f),(45,c0s),(46,b0r),(47,b3i)] [] [0,3,4,7,8,9,10] [1] H17 (a1 d7y (a1 d7A (a1 e2a (a1 d4U a0)))) Tryz.func17
theorem d7C:Ok0 21 b7c:=
 fo [(17,b0K)] [] [0,2,4] [1] H21 (a1 d4V a0) Tryz.func21
theorem d6e:Ok0 121 c0u:=
 fo [(45,c0s)] [] [0,1,4,5,6] [2] e0F (a1 d7A a0) Tryz.func121
theorem b8D:Ok0 122 a3f:=
 fo [(110,b0J)] [] [0,2,3,5] [] e0G (a1 d1W a0) Tryz.func122
theorem d1X:Ok0 128 a6Q:=
 fo [] [] [0,1] [] e0H a0 Tryz.func128
theorem c3L:Ok0 123 a3K:=
 fo [(128,a6Q)] [] [0,1,2,6,7] [] e0I (a1 d1X a0) Tryz.func123
theorem d6f:Ok0 124 b1S:=
 fo [(123,a3K)] [] [0,1,2] [] e0J (a1 c3L a0) Tryz.func124
theorem d8w:Ok0 125 b7I:=
 fo [(122,a3f),(123,a3K),(124,b1S)] [] [0,1,4,6] [3] e0K (a1 b8D (a1 c3L (a1 d6f a0))) Tryz.func125
theorem d6g:Ok0 234 b4k:=
 fo [(220,b3d)] [] [0,1,2,6,8] [] e0L (a1 d1O a0) Tryz.func234
theorem d6h:Ok0 272 b7d:=
 fo [(122,a3f)] [] [0,2] [] e0M (a1 b8D a0) Tryz.func272
theorem d1Y:Ok0 274 a7J:=
 fo [] [] [0,2] [] e0N a0 Tryz.func274
theorem d1Z:Ok0 275 b3j:=
 fo [] [] [0,2] [] e0O a0 Tryz.func275
theorem d6i:Ok0 276 b7e:=
 fo [(275,b3j)] [] [0,2,3,7] [] e0P (a1 d1Z a0) Tryz.func276
theorem d8x:Ok0 299 c1E:=
 fo [(274,a7J),(275,b3j),(276,b7e)] [] [0,1,4,5] [] e0Q (a1 d1Y (a1 d1Z (a1 d6i a0))) Tryz.func299
theorem d2a:Ok0 273 b4C:=
 fo [(299,c1E)] [] [0,1,4,5,7] [] e0R (a1 d8x a0) Tryz.func273
theorem d6j:Ok0 208 b5w:=
 fo [(189,b6Y),(209,a6a),(234,b4k),(272,b7d),(273,b4C)] [] [0,1,2,3,8,9,10,11,12] [4] e0S (a1 d5S (a1 c3K (a1 d6g (a1 d6h (a1 d2a a0))))) Tryz.func208
theorem d8y:Ok0 277 b2r:=
 fo [(128,a6Q)] [] [0,1,4] [] e0T (a1 d1X a0) Tryz.func277
theorem d8z:Ok0 210 c3B:=
 fo [(123,a3K),(274,a7J),(275,b3j),(276,b7e),(277,b2r)] [] [0,1,2,6,8,10,11,12] [] e0U (a1 c3L (a1 d1Y (a1 d1Z (a1 d6i (a1 d8y a0))))) Tryz.func210
theorem d8A:Ok0 127 c1F:=
 fo [(122,a3f),(123,a3K),(208,b5w),(209,a6a),(210,c3B)] [] [0,1,2,3,4,10,11,12,13,14,16] [6] e0V (a1 b8D (a1 c3L (a1 d6j (a1 c3K (a1 d8z a0))))) Tryz.func127
theorem d7D:Ok0 51 c0v:=
 fo [(121,c0u),(122,a3f),(123,a3K),(124,b1S),(125,b7I),(126,b1J),(127,c1F)] [] [0,1,2,6,7,9,13,37,39,41,43] [4] H51 (a1 d6e (a1 b8D (a1 c3L (a1 d6f (a1 d8w (a1 d1I (a1 d8A a0))))))) Tryz.func51
theorem e2b:Ok0 52 b2t:=
 fo [(128,a6Q)] [] [0] [] H52 (a1 d1X a0) Tryz.func52
theorem e2c:Ok0 53 b2u:=
 fo [] [] [0,2] [] H53 a0 Tryz.func53
theorem d8B:Ok0 129 c1G:=
 fo [] [] [0,2] [] e0W a0 Tryz.func129
theorem d8C:Ok0 130 c1H:=
 fo [] [] [0,2,3,5] [] e0X a0 Tryz.func130
theorem d6k:Ok0 131 b5x:=
 fo [] [] [0,2,3,5,6] [] e0Y a0 Tryz.func131
theorem e2d:Ok0 54 b6n:=
 fo [(129,c1G),(130,c1H),(131,b5x)] [] [0,1,4,5,8] [2] H54 (a1 d8B (a1 d8C (a1 d6k a0))) Tryz.func54
theorem d8D:Ok0 211 b9t:=
 fo [] [] [0,2] [] e0Z a0 Tryz.func211
theorem d8E:Ok0 132 b9u:=
 fo [(211,b9t)] [] [0,1,4,5] [] e1a (a1 d8D a0) Tryz.func132
theorem d8F:Ok0 133 a6O:=⟨d4N _,⟨_,_,Tryz.func133,rfl,by kernel_rfl⟩⟩
theorem e2e:Ok0 55 c1I:=
 fo [(132,b9u),(133,a6O)] [] [0,1,4,5] [] H55 (a1 d8E (a1 d8F a0)) Tryz.func55
theorem d7E:Ok0 56 b2J:=
 fo [] [] [0,2,3,5,6] [] H56 a0 Tryz.func56
theorem d7F:Ok0 19 b7f:=
 fo [(21,b7c),(51,c0v),(52,b2t),(53,b2u),(54,b6n),(55,c1I),(56,b2J)] [(4,.pair (.list true (.int .u8)) Q0)] [0,2,3,7,8,9] [1] H19 (a1 d7C (a1 d7D (a1 e2b (a1 e2c (a1 e2d (a1 e2e (a1 d7E a0))))))) Tryz.func19
theorem d4W:Ok0 88 b0N:=
 fo [] [] [0,1,4,5] [] H88 a0 Tryz.func88
theorem e2f:Ok0 64 b7J:=
 fo [(88,b0N)] [] [0,1,4,5] [] H64 (a1 d4W a0) Tryz.func64
theorem d7G:Ok0 23 b1X:=
 fo [(64,b7J)] [] [0,1,4] [2,3] H23 (a1 e2f a0) Tryz.func23
theorem d8G:Ok0 142 c1J:=
 fo [] [] [0,2] [] e1b a0 Tryz.func142
theorem d8H:Ok0 214 b7K:=
 fo [] [] [0,2,3,4,5,6,7] [] e1c a0 Tryz.func214
theorem d8I:Ok0 143 b3P:=
 fo [(214,b7K)] [] [0,1,4,5,6,7] [] e1d (a1 d8H a0) Tryz.func143
theorem d8J:Ok0 144 c1K:=
 fo [] [] [0,2,3] [] e1e a0 Tryz.func144
theorem d8K:Ok0 145 b3Q:=
 fo [] [] [0,2] [] e1f a0 Tryz.func145
theorem d8L:Ok0 146 b2v:=
 fo [] [] [0,2] [] e1g a0 Tryz.func146
theorem d8M:Ok0 147 b4o:=
 fo [] [] [0,2] [] e1h a0 Tryz.func147
theorem d7H:Ok0 65 b1Y:=
 fo [(44,b4f),(131,b5x),(142,c1J),(143,b3P),(144,c1K),(145,b3Q),(146,b2v),(147,b4o)] [(2,.pair QI Q44),(15,.pair QI Q43),(26,.pair QI Q43),(83,.pair QI Q43),(88,.pair QI Q43),(101,.pair QI Q43),(105,.pair QI Q43)] [0,3,4,5,6,7,8,9,10,11] [] H65 (a1 d7y (a1 d6k (a1 d8G (a1 d8I (a1 d8J (a1 d8K (a1 d8L (a1 d8M a0)))))))) Tryz.func65
theorem e2g:Ok0 66 c3C:=
 fo [] [] [0,2] [] H66 a0 Tryz.func66
theorem c5g:Ok0 70 a2G:=
 fo [] [] [0,2] [] H70 a0 Tryz.func70
theorem d7I:Ok0 68 a9n:=
 fo [] [] [0,2] [] H68 a0 Tryz.func68
theorem d2b:Ok0 153 a6t:=
 fo [] [] [0,1,4] [] e1i a0 Tryz.func153
theorem c1d:Ok0 215 a2H:=
 fo [(68,a9n),(153,a6t)] [] [0,1,4,5] [] e1j (a1 d7I (a1 d2b a0)) Tryz.func215
theorem c7o:Ok0 151 a3y:=
 fo [(215,a2H)] [] [0,1,4,5] [] e1k (a1 c1d a0) Tryz.func151
theorem d8N:Ok0 216 b7L:=
 fo [(122,a3f),(151,a3y),(215,a2H)] [] [0,1,4,5,6] [] e1l (a1 b8D (a1 c7o (a1 c1d a0))) Tryz.func216
theorem d8O:Ok0 148 b9v:=
 fo [(151,a3y),(215,a2H),(216,b7L)] [(2,.pair QI Q28)] [0,3,4,5,6,7,21,23,25,27] [] e1m (a1 c7o (a1 c1d (a1 d8N a0))) Tryz.func148
theorem d8P:Ok0 307 b2w:=
 fo [(153,a6t)] [] [0,1,4,5,6] [] e1n (a1 d2b a0) Tryz.func307
theorem d8Q:Ok0 308 b9w:=
 fo [] [] [0,2,3,6] [] e1o a0 Tryz.func308
theorem d8R:Ok0 300 c3D:=
 fo [(70,a2G),(215,a2H),(307,b2w),(308,b9w)] [] [0,1,4,5,6,7,8] [] e1p (a1 c5g (a1 c1d (a1 d8P (a1 d8Q a0)))) Tryz.func300
theorem d8S:Ok0 282 c3E:=
 fo [(70,a2G),(274,a7J),(300,c3D)] [] [0,1,2,6,7,8,9,10] [] e1q (a1 c5g (a1 d1Y (a1 d8R a0))) Tryz.func282
theorem d8T:Ok0 221 c1L:=
 fo [(70,a2G),(122,a3f),(151,a3y),(215,a2H),(282,c3E)] [] [0,1,4,5,6,7,8,9,10,11] [] e1r (a1 c5g (a1 b8D (a1 c7o (a1 c1d (a1 d8S a0))))) Tryz.func221
theorem d8U:Ok0 152 c1M:=
 fo [(70,a2G),(209,a6a),(215,a2H),(220,b3d),(221,c1L)] [(11,.pair QI Q1),(41,.pair QI Q1)] [0,1,2,7,8,9,10,12,14,15,16,17] [] e1s (a1 c5g (a1 c3K (a1 c1d (a1 d1O (a1 d8T a0))))) Tryz.func152
theorem e2h:Ok0 67 c5Y:=
 fo [(70,a2G),(121,c0u),(122,a3f),(126,b1J),(148,b9v),(149,b6k),(150,b1L),(151,a3y),(152,c1M)] [(7,.pair QI (.pair QI (.pair QI (.pair QI (.pair QI (.pair QL (.pair (.arr 3 QI) (.pair (.list false Q3) Q14))))))))] [0,1,5,6,8,9,10,11,12] [] H67 (a1 c5g (a1 d6e (a1 b8D (a1 d1I (a1 d8O (a1 d1M (a1 d1N (a1 c7o (a1 d8U a0))))))))) Tryz.func67
theorem e2i:Ok0 69 b2x:=
 fo [(153,a6t)] [] [0,2,3] [] H69 (a1 d2b a0) Tryz.func69
theorem d7J:Ok0 24 b5y:=
 fo [(21,b7c),(56,b2J),(65,b1Y),(66,c3C),(67,c5Y),(68,a9n),(69,b2x),(70,a2G)] [(5,.pair QI Q45)] [0,3,4,6,7,8,9,10,12] [] H24 (a1 d7C (a1 d7E (a1 d7H (a1 e2g (a1 e2h (a1 d7I (a1 e2i (a1 c5g a0)))))))) Tryz.func24
theorem e2j:Ok0 26 c0w:=
 fo [(65,b1Y)] [] [0,3,4,5,7,8,9] [] H26 (a1 d7H a0) Tryz.func26
theorem d8V:Ok0 100 b5A:=
 fo [] [] [0,1,4,5] [] e1t a0 Tryz.func100
theorem d8W:Ok0 101 b7N:=
 fo [(88,b0N)] [] [0,1,4] [2,3] e1u (a1 d4W a0) Tryz.func101
theorem e2k:Ok0 42 b9y:=
 fo [(88,b0N),(100,b5A),(101,b7N)] [] [0,1,4] [2,3] H42 (a1 d4W (a1 d8V (a1 d8W a0))) Tryz.func42
theorem e2l:Ok0 76 b6p:=
 fo [] [] [0,1,4,5] [] H76 a0 Tryz.func76
theorem e2m:Ok0 28 b6r:=
 fo [(42,b9y),(76,b6p)] [] [0,1,4,5] [2,3] H28 (a1 e2k (a1 e2l a0)) Tryz.func28
theorem d7K:Ok0 91 b4m:=
 fo [(173,b4h)] [] [0,1,4,5,6,8] [] H91 (a1 d6a a0) Tryz.func91
theorem d8X:Ok0 174 a1k:=
 ⟨a3r.of (cx:=b2a) (cxo a0) b6t Tryz.func174 rfl (by kernel_rfl) d8i,⟨_,_,Tryz.func174,rfl,by kernel_rfl⟩⟩
theorem d7L:Ok0 92 b2b:=
 fo [(174,a1k)] [] [0,2,3,5] [] H92 (a1 d8X a0) Tryz.func92
theorem d6l:Ok0 230 b5C:=
 fo [(251,b5s)] [] [0,1,4,5,6,7] [] e1v (a1 d5T a0) Tryz.func230
theorem d8Y:Ok0 231 b9z:=
 fo [(217,b1K),(253,a7G),(254,b1g),(255,b0I)] [] [0,1,2,6,7,8,9,10] [] e1w (a1 d1J (a1 d1Q (a1 d5U (a1 d1P a0)))) Tryz.func231
theorem d2c:Ok0 232 b3s:=
 fo [(218,b4A),(256,a9F),(257,b2I),(258,b3e)] [] [0,1,2,6,7,8,9,10,11] [5] e1x (a1 d1K (a1 d1S (a1 d5V (a1 d1R a0)))) Tryz.func232
theorem d8Z:Ok0 233 c0A:=
 fo [(87,a0Y),(219,b3b),(259,b1P),(261,b6Z),(262,a4Z),(263,b1O),(264,a8I)] [] [0,1,4,5,6,9,10,11,12,13] [] e1y (a1 c8l (a1 d1L (a1 d5W (a1 d5X (a1 d1U (a1 d1T (a1 d5Z a0))))))) Tryz.func233
theorem d9a:Ok0 170 c1O:=
 fo [(87,a0Y),(150,b1L),(230,b5C),(231,b9z),(232,b3s),(233,c0A)] [] [0,1,4,5,6,11,22,37,67] [] e1z (a1 c8l (a1 d1N (a1 d6l (a1 d8Y (a1 d2c (a1 d8Z a0)))))) Tryz.func170
theorem d9b:Ok0 284 c1P:=
 fo [(273,b4C)] [] [0,2,3,4,5,6] [] e1A (a1 d2a a0) Tryz.func284
theorem d9c:Ok0 235 b7O:=
 fo [(272,b7d),(273,b4C),(284,c1P)] [] [0,2,3] [] e1B (a1 d6h (a1 d2a (a1 d9b a0))) Tryz.func235
theorem d9d:Ok0 171 c0B:=
 fo [(208,b5w),(209,a6a),(234,b4k),(235,b7O)] [(14,.pair QI Q1),(40,.pair QI Q1)] [0,1,2,3,9,11,12,13,15,17,18] [] e1C (a1 d6j (a1 c3K (a1 d6g (a1 d9c a0)))) Tryz.func171
theorem e2n:Ok0 86 c3F:=
 fo [(90,b0G),(91,b4m),(92,b2b),(149,b6k),(169,b5r),(170,c1O),(171,c0B)] [] [0,1,2,7,8,11,12,13] [5] H86 (a1 d4T (a1 d7K (a1 d7L (a1 d1M (a1 d5R (a1 d9a (a1 d9d a0))))))) Tryz.func86
theorem d9e:Ok0 172 b4p:=
 fo [] [] [0,2] [] e1D a0 Tryz.func172
theorem e2o:Ok0 89 c3G:=
 fo [(51,c0v),(172,b4p)] [(5,.pair (.list true (.int .u8)) Q0)] [0,1,4] [2] H89 (a1 d7D (a1 d9e a0)) Tryz.func89
theorem d9f:Ok0 236 b9A:=
 fo [] [] [0,1,4,5,6,7] [] e1E a0 Tryz.func236
theorem d9g:Ok0 175 c0C:=
 fo [(230,b5C),(236,b9A)] [] [0,2,3,4,5,6,7,8] [] e1F (a1 d6l (a1 d9f a0)) Tryz.func175
theorem d6m:Ok0 287 b2K:=
 fo [] [] [0,2] [] e1G a0 Tryz.func287
theorem d9h:Ok0 285 b6s:=
 fo [(287,b2K)] [] [0,2,3,5,6,7,8] [] e1H (a1 d6m a0) Tryz.func285
theorem d9i:Ok0 286 b2y:=
 fo [] [] [0,1,2,6,7,8,9,10] [] e1I a0 Tryz.func286
theorem d9j:Ok0 237 b5D:=
 fo [(87,a0Y),(253,a7G),(285,b6s),(286,b2y),(287,b2K)] [] [0,1,4,5,6,7,8,9,10,11,12,13] [] e1J (a1 c8l (a1 d1Q (a1 d9h (a1 d9i (a1 d6m a0))))) Tryz.func237
theorem d9k:Ok0 238 b7P:=
 fo [] [] [0,2,3,5,6,7,8,9,10,11] [] e1K a0 Tryz.func238
theorem d9l:Ok0 239 b7Q:=
 fo [(110,b0J)] [] [0,1,4,5,6,8,9,10,11,13,14] [] e1L (a1 d1W a0) Tryz.func239
theorem d6n:Ok0 177 b4n:=
 fo [(237,b5D),(238,b7P),(239,b7Q)] [] [0,1,2,6,7,8,9,10,11] [] e1M (a1 d9j (a1 d9k (a1 d9l a0))) Tryz.func177
theorem d9m:Ok0 240 c1Q:=
 fo [(256,a9F)] [] [0,1,2,6,7,8,9,10,11,12,13] [] e1N (a1 d1S a0) Tryz.func240
theorem d9n:Ok0 288 c0E:=
 fo [] [] [0] [] e1O a0 Tryz.func288
theorem d9o:Ok0 241 c1S:=
 fo [(232,b3s),(288,c0E)] [] [0,1,5,7,8,11,12,13,15] [] e1P (a1 d2c (a1 d9n a0)) Tryz.func241
theorem d9p:Ok0 178 c0F:=
 fo [(177,b4n),(232,b3s),(240,c1Q),(241,c1S)] [] [0,3,4,5,7,8,9] [] e1Q (a1 d6n (a1 d2c (a1 d9m (a1 d9o a0)))) Tryz.func178
theorem d9q:Ok0 176 b3S:=
 fo [(177,b4n)] [] [0,1,2,3,6,7,8] [] e1R (a1 d6n a0) Tryz.func176
theorem e2p:Ok0 93 b5E:=
 fo [(175,c0C),(176,b3S),(178,c0F)] [(5,.list true Q31)] [0,1,4,6,8,9] [67] H93 (a1 d9g (a1 d9q (a1 d9p a0))) Tryz.func93
theorem e2q:Ok0 40 c3H:=
 fo [(86,c3F),(89,c3G),(90,b0G),(91,b4m),(92,b2b),(93,b5E)] [] [0,1,5,6,7,9,10,14,15] [] H40 (a1 e2n (a1 e2o (a1 d4T (a1 d7K (a1 d7L (a1 e2p a0)))))) Tryz.func40
theorem d7M:Ok0 79 c0G:=
 fo [(102,b4z),(105,b3g),(106,b4i),(108,b5t)] [] [0,1,4,5,6] [] H79 (a1 d1H (a1 d1V (a1 d6c (a1 d6d a0)))) Tryz.func79
theorem d9r:Ok0 226 b9B:=
 fo [(105,b3g)] [] [0,2,3,5,6,7] [] e1S (a1 d1V a0) Tryz.func226
theorem d9s:Ok0 227 c0H:=
 fo [] [] [0,2,4,8,12,17] [] e1T a0 Tryz.func227
theorem d9t:Ok0 164 c1T:=
 fo [(79,c0G),(226,b9B),(227,c0H)] [] [0,2,3,4,5,6,7,8] [] e1U (a1 d7M (a1 d9r (a1 d9s a0))) Tryz.func164
theorem e2r:Ok0 78 c1U:=
 fo [(47,b3i),(164,c1T)] [] [0,2,3,4] [1] H78 (a1 d4U (a1 d9t a0)) Tryz.func78
theorem d7N:Ok0 30 b5F:=
 fo [(35,b7b),(40,c3H),(47,b3i),(77,b4e),(78,c1U),(79,c0G)] [(10,.pair QI Q45),(52,.pair QI Q43),(57,.pair QI Q43),(63,.pair QI Q43),(79,.pair QI Q43),(95,.pair QI Q43)] [0,1,2,3,9,11,12,14,16] [4,5] H30 (a1 d7B (a1 e2q (a1 d4U (a1 d7x (a1 e2r (a1 d7M a0)))))) Tryz.func30
theorem e2s:Ok0 43 c0J:=
 fo [(24,b5y)] [] [0,1,4,5,7,8] [] H43 (a1 d7J a0) Tryz.func43
theorem e2t:Ok0 15 c1V:=
 fo [(17,b0K),(19,b7f),(23,b1X),(24,b5y),(26,c0w),(28,b6r),(30,b5F),(43,c0J)] [] [0,4,5,6,8,9,11,13,14,15] [] H15 (a1 d4V (a1 d7F (a1 d7G (a1 d7J (a1 e2j (a1 e2m (a1 d7N (a1 e2s a0)))))))) Tryz.func15
theorem e2u:Ok0 29 c3J:=
 fo [] [] [0,1,4,5] [2] H29 a0 Tryz.func29
theorem e2v:Ok0 84 c1W:=
 fo [] [] [0,2,3] [] H84 a0 Tryz.func84
theorem d9u:Ok0 167 c8k:=
 fo [] [] [0,2] [] e1V a0 Tryz.func167
theorem d9v:Ok0 168 c5Z:=
 fo [] [] [0,2] [] e1W a0 Tryz.func168
theorem e2w:Ok0 85 c6a:=
 fo [(167,c8k),(168,c5Z)] [] [0,1,4] [] H85 (a1 d9u (a1 d9v a0)) Tryz.func85
theorem e2x:Ok0 32 b7R:=
 fo [(84,c1W),(85,c6a)] [] [0,2,3,4] [1] H32 (a1 e2v (a1 e2w a0)) Tryz.func32
theorem e2y:Ok0 10 b4q:=
 fo [(15,c1V),(17,b0K),(19,b7f),(23,b1X),(29,c3J),(30,b5F),(32,b7R)] [] [0,1,4,6,7,9,10,11,13] [2] H10 (a1 e2t (a1 d4V (a1 d7F (a1 d7G (a1 e2u (a1 d7N (a1 e2x a0))))))) Tryz.func10
end Go.Ab
namespace Go.Ab
open IntKind(wrap)
section
variable {σ β:Type} {f:σ→Option (σ ⊕ β)}
theorem b8E:∀(n m:Nat)(s:σ){b:β},a3k f n s=some b→a3k f (n+m) s=some b
 |0,_,s,b,h=>by simp[a3k]at h
 |n+1,m,s,b,h=>by
  rw[show n+1+m=n+m+1 from by omega];simp only[a3k]at h⊢
  split at h
  cases h;rename_i s' hs;exact b8E n m s' h;exact h
theorem c6b{n m:Nat}{s:σ}{b b':β}(h:a3k f n s=some b)(h':a3k f m s=some b'):b=b':=by
 have h1:=b8E n m s h;have h2:=b8E m n s h';rw[Nat.add_comm,h1]at h2;exact Option.some.inj h2
theorem d4X{n:Nat}{s:σ}{b:β}(h:a3k f n s=some b):b8n f s=some b:=by
 unfold b8n;have hx:∃n b,a3k f n s=some b:=⟨n,b,h⟩;rw[dif_pos hx];exact congrArg some (c6b hx.choose_spec.choose_spec h)
theorem c5h{n:Nat}{s:σ}{b:β}(h:a3k f n s=some b):a0h f s=some b:=by
 unfold a0h;split;rename_i b' hb;rw[c6b hb h];exact d4X h
theorem c6c{s:σ}(h:∀n,a3k f n s=none):a0h f s=none:=by
 unfold a0h;rw[h 400];show b8n f s=none;unfold b8n;rw[dif_neg]
 rintro⟨n,b,hn⟩
 rw[h n]at hn;cases hn
theorem a0o{s:σ}{b:β}(h:f s=some (.inr b)):a0h f s=some b:=c5h (n:=1) (by simp[a3k,h])
theorem a0p{s s':σ}(h:f s=some (.inl s')):a0h f s=a0h f s':=by
 by_cases hx:∃n b,a3k f n s'=some b
 obtain⟨n,b,hb⟩:=hx;rw[c5h hb];exact c5h (n:=n+1) (by simp[a3k,h,hb])
 ·have h':∀n,a3k f n s'=none:=fun n=>by
   cases hn:a3k f n s' with
   |none=>rfl
   |some b=>exact absurd ⟨n,b,hn⟩ hx
  rw[c6c h'];refine c6c fun n=>?_
  cases n with
  |zero=>rfl
  |succ n=>simp[a3k,h,h' n]
theorem d0y(S:Nat→σ)(n:Nat){b:β}(hstep:∀i,i<n→f (S i)=some (.inl (S (i+1))))(hexit:f (S n)=some (.inr b)):∀(k:Nat),k≤n→a0h f (S (n-k))=some b
 |0,_=>a0o hexit
 |k+1,hk=>by
  rw[a0p (hstep (n-(k+1)) (by omega)),show n-(k+1)+1=n-k from by omega];exact d0y S n hstep hexit k (by omega)
theorem a3C(S:Nat→σ)(n:Nat){b:β}(hstep:∀i,i<n→f (S i)=some (.inl (S (i+1))))(hexit:f (S n)=some (.inr b)):a0h f (S 0)=some b:=by
 have:=d0y S n hstep hexit n (a39 _)
 rwa [a44]at this
end
theorem a0g{n:Int}(h:-9223372036854775808≤n∧n≤9223372036854775807):wrap .i64 n=n:=by
 simp only[wrap,IntKind.bits,IntKind.signed]
 simp
 split<;>omega
theorem a0F{n:Int}(h:0≤n∧n<18446744073709551616):wrap .u64 n=n:=by
 simp only[wrap,IntKind.bits,IntKind.signed]
 simp
 omega
theorem b2f(n:Int):wrap .u8 n=n%256:=by
 simp[wrap,IntKind.bits,IntKind.signed]
theorem d0z(x y:Int):a4d x y=min x y:=by
 simp only[a4d,cond_eq_ite,dT]
 split<;>omega
theorem d6O(x y:Int):a2y x y=max x y:=by
 simp only[a2y,cond_eq_ite,dT]
 split<;>omega
theorem a1t{n:Nat}(h:n<2147483648):lim n=true:=by simp[lim,h]
end Go.Ab
namespace Go.Ab
open IntKind(wrap)
section
variable {α A σ β:Type}
def a3D(g:A→α→A ⊕ β):List α→A→A ⊕ β
 | [],a=>.inl a
 |x::r,a=>match g a x with
  |.inl a'=>a3D g r a'
  |.inr b=>.inr b
def b0e(fin:A→β):A ⊕ β→β
 |.inl a=>fin a
 |.inr b=>b
theorem b7S{f:σ→Option (σ ⊕ β)}(l:List α)(S:Nat→A→σ)(g:A→α→A ⊕ β)(I:Nat→A→Prop)(fin:A→β)
  (hstep:∀i (h:i<l.length) a,I i a→(∀a',g a l[i]=.inl a'→f (S i a)=some (.inl (S (i+1) a'))∧I (i+1) a')∧(∀b,g a l[i]=.inr b→f (S i a)=some (.inr b)))
  (hexit:∀a,I l.length a→f (S l.length a)=some (.inr (fin a))):∀(k i:Nat)(a:A),i+k=l.length→I i a→a0h f (S i a)=some (b0e fin (a3D g (l.drop i) a))
 |0,i,a,hi,ha=>by
  obtain rfl:i=l.length:=by omega
  rw[a31];exact a0o (hexit a ha)
 |k+1,i,a,hi,ha=>by
  have hlt:i<l.length:=by omega
  rw[a06 hlt];obtain⟨h1,h2⟩:=hstep i hlt a ha;simp only[a3D];cases hg:g a l[i]with
  |inl a'=>
   obtain⟨h3,h4⟩:=h1 a' hg;rw[a0p h3];exact b7S l S g I fin hstep hexit k (i+1) a' (by omega) h4
  |inr b=>exact a0o (h2 b hg)
theorem a2t{f:σ→Option (σ ⊕ β)}(l:List α)(S:Nat→A→σ)(g:A→α→A ⊕ β)(I:Nat→A→Prop)(fin:A→β)
  (hstep:∀i (h:i<l.length) a,I i a→(∀a',g a l[i]=.inl a'→f (S i a)=some (.inl (S (i+1) a'))∧I (i+1) a')∧(∀b,g a l[i]=.inr b→f (S i a)=some (.inr b)))
  (hexit:∀a,I l.length a→f (S l.length a)=some (.inr (fin a))){a:A}(ha:I 0 a):a0h f (S 0 a)=some (b0e fin (a3D g l a)):=by
 have:=b7S l S g I fin hstep hexit l.length 0 a (by omega) ha
 rwa [a37]at this
theorem a1K{f:σ→Option (σ ⊕ β)}(l:List α)(S:Nat→σ)(p:α→Bool){bt bf:β}
  (hgood:∀i (h:i<l.length),p l[i]=true→f (S i)=some (.inl (S (i+1))))(hbad:∀i (h:i<l.length),p l[i]=false→f (S i)=some (.inr bf))
  (hexit:f (S l.length)=some (.inr bt)):a0h f (S 0)=some (bif l.all p then bt else bf):=by
 have h:=a2t (A:=Unit) l (fun i _=>S i) (fun _ x=>bif p x then .inl ()else .inr bf) (fun _ _=>True) (fun _=>bt) (fun i h a _=>?_) (fun _ _=>hexit) (a:=()) trivial
 ·rw[h];congr 1;clear h hgood hbad hexit
  induction l with
  |nil=>rfl
  |cons x l ih=>
   simp only[a3D,a40];cases p x with
   |true=>simpa using ih
   |false=>rfl
 ·cases hp:p l[i]with
  |true=>exact⟨fun a' _=>⟨hgood i h hp,trivial⟩,fun b hb=>by simp[hp]at hb⟩
  |false=>exact⟨fun a' ha=>by simp[hp]at ha,fun b hb=>by simp[hp]at hb;rw[←hb];exact hbad i h hp⟩
end
theorem a0c{α:Type}{l:List α}{i:Nat}(h:i<l.length):a0q l (i:Int)=some l[i]:=by
 unfold a0q;rw[if_pos (Int.natCast_nonneg i),tN,lG h]
def a0b(x:Int):Bool:=decide (-1073741824≤x)&&decide (x<1073741824)
theorem a2h{x:Int}:a0b x=true↔-1073741824≤x∧x<1073741824:=by simp[a0b]
def short{α:Type}(l:List α):Prop:=l.length<1000000
theorem a0d{i:Nat}(h:i<1000000):wrap .i64 ((i:Int)+1)=((i+1:Nat):Int):=by
 rw[a0g (by omega)];omega
theorem dlt{i n:Nat}(h:i<n):decide ((i:Int)<(n:Int))=true:=by simp;omega
theorem dge(n:Nat):decide ((n:Int)<(n:Int))=false:=by simp
theorem a5v{l:List Int}(hl:short l):a2w l=some (l.all a0b):=by
 unfold a2w
 have:=a1K (f:=a3c) l (fun i=>(l,(l.length:Int),(i:Int),())) a0b (bt:=Sum.inl ()) (bf:=Sum.inr (false,()))
  (fun i h hp=>by
   have hp:=a2h.1 hp;have h1:decide (l[i] < -1073741824)=false:=by simp;omega
   have h2:decide (l[i]≥1073741824)=false:=by simp;omega
   simp only[a3c,dlt h,cT,a0c h,oB,h1,h2,cF,a0d (a23 h hl)])
  (fun i h hp=>by
   simp only[a3c,dlt h,cT,a0c h,oB]
   by_cases h1:l[i] < -1073741824
   simp[h1];have h2:l[i]≥1073741824:=by
    simp only[a0b,a35,decide_eq_false_iff_not]at hp;omega
   simp[h1,h2])
  (by simp[a3c])
 simp only[nZ]at this;rw[this];cases l.all a0b<;>rfl
end Go.Ab
namespace Go.Ab
theorem a7p(x:Int):a6b x=some (a0b x):=by
 unfold a6b a0b
 by_cases h:-1073741824≤x<;>simp[h]
theorem a9q(x:Int):a8x x=some (a0b x):=by
 unfold a8x a0b
 by_cases h:-1073741824≤x<;>simp[h]
theorem a6e(x:Int):a7g x=some (a0b x):=by
 unfold a7g a0b
 by_cases h:-1073741824≤x<;>simp[h]
theorem b7T(x:Int):a6c x=some (a0b x):=by
 unfold a6c a0b
 by_cases h:-1073741824≤x<;>simp[h]
theorem a6X{l:List Int}(hl:short l):a3d l=some (l.all a0b):=by
 unfold a3d
 have:=a1K (f:=a3W) l (fun i=>(l,(l.length:Int),(i:Int),())) a0b (bt:=Sum.inl ()) (bf:=Sum.inr (false,()))
  (fun i h hp=>by simp[a3W,a0c h,a7p,hp,a0d (a23 h hl),h])
  (fun i h hp=>by simp[a3W,a0c h,a7p,hp,h])
  (by simp[a3W])
 simp only[nZ]at this;rw[this];cases l.all a0b<;>rfl
theorem b6u{l:List Int}(hl:short l):a5o l=some (l.all a0b):=by
 unfold a5o
 have:=a1K (f:=a4S) l (fun i=>(l,(l.length:Int),(i:Int),())) a0b (bt:=Sum.inl ()) (bf:=Sum.inr (false,()))
  (fun i h hp=>by simp[a4S,a0c h,a9q,hp,a0d (a23 h hl),h])
  (fun i h hp=>by simp[a4S,a0c h,a9q,hp,h])
  (by simp[a4S])
 simp only[nZ]at this;rw[this];cases l.all a0b<;>rfl
theorem b5G{l:List Int}(hl:short l):a6m l=some (l.all a0b):=by
 unfold a6m
 have:=a1K (f:=a4w) l (fun i=>(l,(l.length:Int),(i:Int),())) a0b (bt:=Sum.inl ()) (bf:=Sum.inr (false,()))
  (fun i h hp=>by simp[a4w,a0c h,a6e,hp,a0d (a23 h hl),h])
  (fun i h hp=>by simp[a4w,a0c h,a6e,hp,h])
  (by simp[a4w])
 simp only[nZ]at this;rw[this];cases l.all a0b<;>rfl
theorem a8o{l:List Int}(hl:short l):a2W l=some (l.all a0b):=by
 have e:b6l=a3c:=rfl
 have:a2W l=a2w l:=by unfold a2W a2w;rw[e]
 rw[this,a5v hl]
def c1e(x:Int):Bool:=decide (-32768≤x)&&decide (x<32768)
def b0f(c:List Int)(s:Int):Bool:=decide (1≤c.length)&&(decide (c.length≤32)&&(decide (0≤s)&&(decide (s≤15)&&c.all c1e)))
theorem b0R{c:List Int}{s:Int}(hl:short c):a5x (c,s)=some (b0f c s):=by
 have:=a1K (f:=a4C) c (fun i=>(c,(c.length:Int),(i:Int),())) c1e (bt:=Sum.inl ()) (bf:=Sum.inr (false,()))
  (fun i h hp=>by
   simp only[c1e,bA,dT]at hp;have h1:¬ c[i] < -32768:=by omega
   have h2:¬ c[i]≥32768:=by omega
   simp[a4C,a0c h,a0d (a23 h hl),h,h1,h2])
  (fun i h hp=>by
   simp only[c1e,a35,decide_eq_false_iff_not]at hp
   by_cases h1:c[i] < -32768
   simp[a4C,a0c h,h,h1];have h2:c[i]≥32768:=by omega
   simp[a4C,a0c h,h,h1,h2])
  (by simp[a4C])
 simp only[nZ]at this;unfold a5x b0f
 by_cases h1:c.length<1
 have:((c.length:Nat):Int)<1:=by omega
 have:¬ 1≤c.length:=by omega
 simp[*]
 by_cases h2:c.length > 32
 have:((c.length:Nat):Int) > 32:=by omega
 have:¬ ((c.length:Nat):Int)<1:=by omega
 have:¬ c.length≤32:=by omega
 simp[*]
 by_cases h3:s<0
 have:¬ ((c.length:Nat):Int) > 32:=by omega
 have:¬ ((c.length:Nat):Int)<1:=by omega
 have:¬ 0≤s:=by omega
 simp[*]
 by_cases h4:s > 15
 have:¬ ((c.length:Nat):Int) > 32:=by omega
 have:¬ ((c.length:Nat):Int)<1:=by omega
 have:¬ s≤15:=by omega
 simp[*];have g1:¬ ((c.length:Nat):Int) > 32:=by omega
 have g2:¬ ((c.length:Nat):Int)<1:=by omega
 simp only[g1,g2,h3,h4,decide_false,cF,oB,this];have g3:1≤c.length:=by omega
 have g4:c.length≤32:=by omega
 have g5:0≤s:=by omega
 have g6:s≤15:=by omega
 simp only[g3,g4,g5,g6,decide_true,a27];cases c.all c1e<;>rfl
def b7h(x:Int):Bool:=decide (-64≤x)&&decide (x≤64)
def b3y(lag:Int)(t:List Int):Bool:=decide (2≤lag)&&(decide (lag≤1024)&&t.all b7h)
theorem b7i{t:List Int}{lag:Int}(ht:t.length=3):a9E (lag,t)=some (b3y lag t):=by
 have:=a1K (f:=a5Z) t (fun i=>(t,(i:Int),())) b7h (bt:=Sum.inl ()) (bf:=Sum.inr (false,()))
  (fun i h hp=>by
   simp only[b7h,bA,dT]at hp;have h0:(i:Int)<3:=by omega
   have h1:¬ t[i] < -64:=by omega
   have h2:¬ t[i] > 64:=by omega
   simp[a5Z,a0c h,a0d (show i<1000000 by omega),h0,h1,h2])
  (fun i h hp=>by
   simp only[b7h,a35,decide_eq_false_iff_not]at hp;have h0:(i:Int)<3:=by omega
   by_cases h1:t[i] < -64
   simp[a5Z,a0c h,h0,h1];have h2:t[i] > 64:=by omega
   simp[a5Z,a0c h,h0,h1,h2])
  (by rw[ht];simp[a5Z])
 simp only[nZ]at this;unfold a9E b3y
 by_cases h1:lag<2
 have:¬ 2≤lag:=by omega
 simp[*]
 by_cases h2:lag > 1024
 have:¬ lag≤1024:=by omega
 simp[*];have g1:2≤lag:=by omega
 have g2:lag≤1024:=by omega
 simp only[h1,h2,g1,g2,decide_false,decide_true,cF,oB,this,a27];cases t.all b7h<;>rfl
def stageB(s:Int×(Int×Unit)):Bool:=decide (1≤s.1)&&(decide (s.1≤32)&&(decide (0≤s.2.1)&&decide (s.2.1≤8)))
def b0t(l:List (Int×Int×Unit)):Bool:=decide (l.length≤3)&&l.all stageB
theorem b2L(s:Int×(Int×Unit)):a8c s=some (stageB s):=by
 unfold a8c stageB
 by_cases h1:1≤s.1<;>by_cases h2:s.1≤32<;>by_cases h3:0≤s.2.1<;>simp[h1,h2,h3]
theorem b5H{l:List (Int×Int×Unit)}(hl:short l):a8v l=some (b0t l):=by
 have:=a1K (f:=a7e) l (fun i=>(l,(l.length:Int),(i:Int),())) stageB (bt:=Sum.inl ()) (bf:=Sum.inr (false,()))
  (fun i h hp=>by simp[a7e,a0c h,b2L,hp,a0d (a23 h hl),h])
  (fun i h hp=>by simp[a7e,a0c h,b2L,hp,h])
  (by simp[a7e])
 simp only[nZ]at this;unfold a8v b0t
 by_cases h:l.length≤3
 have g:¬ ((l.length:Nat):Int) > 3:=by omega
 simp only[g,h,decide_false,decide_true,cF,this,oB,a27];cases l.all stageB<;>rfl;have g:((l.length:Nat):Int) > 3:=by omega
 simp[g,h]
end Go.Ab
namespace Go.Ab
open IntKind(wrap)
@[reducible] def W(n:Int):Int:=wrap .i64 n
theorem a9r(n:Int):wrap .i64 n=Int.bmod n 18446744073709551616:=by
 simp only[wrap,IntKind.bits,IntKind.signed,Int.bmod]
 simp
 split<;>split<;>omega
theorem c0L{n:Int}(h:a0b n=true):W n=n:=by
 have:=a2h.1 h
 exact a0g (by omega)
def a5c(guess:List Int→Int):List Int→List Int→Option (List Int)
 | [],out=>some out
 |x::r,out=>bif a0b (W (x+guess out))then a5c guess r (out++[W (x+guess out)])else none
def b6v{β:Type}(guess:List Int→Int)(bad:β)(out:List Int)(x:Int):List Int ⊕ β:=bif a0b (W (x+guess out))then .inl (out++[W (x+guess out)])else .inr bad
theorem b4J{β:Type}(guess:List Int→Int)(bad:β)(fin:List Int→β):∀(l out:List Int),b0e fin (a3D (b6v guess bad) l out)=match a5c guess l out with|some r=>fin r|none=>bad
 | [],out=>rfl
 |x::l,out=>by
  simp only[a3D,b6v,a5c];cases a0b (W (x+guess out))with
  |true=>exact b4J guess bad fin l _
  |false=>rfl
theorem b4K(guess:List Int→Int):∀(l out r:List Int),out.all a0b=true→a5c guess l out=some r→r.all a0b=true∧r.length=out.length+l.length
 | [],out,r,h,e=>by simp only[a5c,sj]at e;subst e;exact⟨h,by simp⟩
 |x::l,out,r,h,e=>by
  simp only[a5c]at e;cases hw:a0b (W (x+guess out))with
  |true=>
   rw[hw]at e;obtain⟨h1,h2⟩:=b4K guess l _ r (by simp[h,hw]) e;exact⟨h1,by rw[h2];simp;omega⟩
  |false=>rw[hw]at e;cases e
def a5T:Option (List Int)→List Int×Int
 |some r=>(r,0)
 |none=>([],6)
def atB(out:List Int)(i:Nat):Int:=out.getD (out.length-i) 0
def a5H(o:Nat)(out:List Int):Int:=match o with
 | 1=>atB out 1
 | 2=>2*atB out 1-atB out 2
 | 3=>3*atB out 1-3*atB out 2+atB out 3
 | 4=>4*atB out 1-6*atB out 2+4*atB out 3-atB out 4
 |_=>0
theorem b4L{out:List Int}{i:Nat}(hi:1≤i)(h:i≤out.length)(hs:short out):a1o ((i:Int),out)=some (atB out i,out):=by
 unfold a1o;have hs:out.length<1000000:=hs;have e:wrap .i64 (((out.length:Nat):Int)-(i:Int))=((out.length-i:Nat):Int):=by rw[a0g (by omega)];omega
 simp only[e,a0c (show out.length-i<out.length by omega),oB,atB];rw[lD,lG (by omega)];rfl
theorem c5i{out:List Int}{o:Nat}(ho:o≤4)(h:o≤out.length)(hs:short out):∃g,b0H (out,(o:Int))=some g∧∀x,W (x+g)=W (x+a5H o out):=by
 have g1:=fun(h':1≤out.length)=>b4L (i:=1) (by omega) h' hs;have g2:=fun(h':2≤out.length)=>b4L (i:=2) (by omega) h' hs;have g3:=fun(h':3≤out.length)=>b4L (i:=3) (by omega) h' hs;have g4:=fun(h':4≤out.length)=>b4L (i:=4) (by omega) h' hs;simp only[Int.natCast_one,Int.cast_ofNat_Int]at g1 g2 g3 g4;unfold b0H;have h5:o=0∨o=1∨o=2∨o=3∨o=4:=by omega
 rcases h5 with rfl|rfl|rfl|rfl|rfl;exact⟨0,rfl,fun x=>rfl⟩;exact⟨_,by simp[g1 (by omega)];rfl,fun x=>rfl⟩;refine⟨_,by simp[g1 (by omega),g2 (by omega)];rfl,fun x=>?_⟩;simp only[W,a9r,a5H,a41,a42,a43];refine⟨_,by simp[g1 (by omega),g2 (by omega),g3 (by omega)];rfl,fun x=>?_⟩;simp only[W,a9r,a5H,a41,a42,a43,a48];refine⟨_,by simp[g1 (by omega),g2 (by omega),g3 (by omega),g4 (by omega)];rfl,fun x=>?_⟩;simp only[W,a9r,a5H,a41,a42,a43,a48]
theorem a0H{n:Nat}(h:n<1000000):lim n=true:=a1t (by omega)
theorem c6P{warm rest:List Int}{o:Nat}(ho:o≤4)(hw:warm.length=o)(hr:rest.length<100000):
  b1N (warm,rest,(o:Int))=some (a5T (bif warm.all a0b&&rest.all a0b then a5c (a5H o) rest warm else none)):=by
 have hsw:short warm:=by unfold short;omega
 have hsr:short rest:=by unfold short;omega
 unfold b1N;have h1:¬ (o:Int)<0:=by omega
 have h2:¬ (o:Int) > 4:=by omega
 have h3:(((warm.length:Nat):Int) != (o:Int))=false:=by simp;omega
 simp only[h1,h2,h3,decide_false,cF,oB,a8o hsw,a8o hsr];cases hw1:warm.all a0b with
 |false=>rfl
 |true=>
  simp only[bT,cF,oB,a27];cases hw2:rest.all a0b with
  |false=>rfl
  |true=>
   simp only[bT,cF,cT,a0H hsw]
   have:=a2t (f:=a8N) rest (fun i out=>((o:Int),rest,(rest.length:Int),(i:Int),out,())) (b6v (a5H o) (Sum.inr ((6:Int),([]:List Int),())))
    (fun i out=>o≤out.length∧out.length≤o+i) (fun out=>Sum.inl (out,()))
    (fun i h out hI=>by
     have hlt:i<1000000:=by omega
     have hso:short out:=by unfold short;omega
     obtain⟨g,hg,hgw⟩:=c5i ho hI.1 hso;have e:wrap .i64 (rest[i]+g)=W (rest[i]+a5H o out):=hgw _;have hone:a2W [W (rest[i]+a5H o out)]=some (a0b (W (rest[i]+a5H o out))):=by rw[a8o (by simp[short])];simp
     simp only[a8N,dlt h,cT,a0c h,oB,hg,e,hone,b6v];cases hb:a0b (W (rest[i]+a5H o out))with
     |true=>
      simp only[cT,bT,cF,a0H (show out.length+1<1000000 by omega),a0d hlt];refine⟨fun a' ha=>?_,fun b hb=>(by cases hb)⟩;simp only[Sum.inl.injEq]at ha;subst ha;exact⟨rfl,by simp;omega,by simp;omega⟩
     |false=>
      refine⟨fun a' ha=>(by cases ha),fun b hb=>?_⟩;simp only[cF,Sum.inr.injEq]at hb;subst hb;rfl)
    (fun out _=>by simp[a8N]) (a:=warm) ⟨by omega,by omega⟩
   simp only[nZ,b4J]at this;rw[this];cases a5c (a5H o) rest warm<;>rfl
end Go.Ab
namespace Go.Ab
open IntKind(wrap)
def c8m(out:List Int):List Int→Nat→Int→Int
 | [],_,acc=>acc
 |c::r,i,acc=>bif decide (i<out.length)then c8m out r (i+1) (W (acc+W (c*atB out (i+1))))else acc
def b2M(c:List Int)(s:Int)(out:List Int):Int:=a0D .i64 (c8m out c 0 0) s
theorem d7O{out:List Int}{i:Nat}(h:i<out.length)(hs:short out):a0q out (wrap .i64 (wrap .i64 (((out.length:Nat):Int)-1)-(i:Int)))=some (atB out (i+1)):=by
 have hs:out.length<1000000:=hs;have e1:wrap .i64 (((out.length:Nat):Int)-1)=((out.length-1:Nat):Int):=by rw[a0g (by omega)];omega
 have e2:wrap .i64 (((out.length-1:Nat):Int)-(i:Int))=((out.length-(i+1):Nat):Int):=by rw[a0g (by omega)];omega
 rw[e1,e2,a0c (show out.length-(i+1)<out.length by omega),atB,lD,lG (by omega)];rfl
theorem c0M{out c:List Int}{s:Int}(hs:short out)(hc:short c):∀(k i:Nat)(acc:Int),i+k=c.length→
  a0h a3X (out,s,acc,c,(c.length:Int),(i:Int),())=some (s,c8m out (c.drop i) i acc,())
 |0,i,acc,h=>by
  obtain rfl:i=c.length:=by omega
  rw[a31];exact a0o (by simp[a3X,c8m])
 |k+1,i,acc,h=>by
  have hlt:i<c.length:=by omega
  have hs':out.length<1000000:=hs;have hc':c.length<1000000:=hc;rw[a06 hlt,c8m];have e1:wrap .i64 (((out.length:Nat):Int)-1)=((out.length:Nat):Int)-1:=a0g (by omega);have e2:wrap .i64 (((out.length:Nat):Int)-1-(i:Int))=((out.length:Nat):Int)-1-(i:Int):=a0g (by omega)
  by_cases hi:i<out.length
  have hd:decide (wrap .i64 (wrap .i64 (((out.length:Nat):Int)-1)-(i:Int))<0)=false:=by rw[e1,e2];simp;omega
  simp only[hi,decide_true,cT];rw[a0p (s':=(out,s,W (acc+W (c[i]*atB out (i+1))),c,(c.length:Int),((i+1:Nat):Int),())) (by
   simp only[a3X,dlt hlt,cT,a0c hlt,oB,hd,cF,d7O hi hs,a0d (show i<1000000 by omega)])]
  exact c0M hs hc k (i+1) _ (by omega);have hd:decide (wrap .i64 (wrap .i64 (((out.length:Nat):Int)-1)-(i:Int))<0)=true:=by rw[e1,e2];simp;omega
  simp only[hi,decide_false,cF];exact a0o (by simp only[a3X,dlt hlt,cT,a0c hlt,oB,hd])
theorem b8F{out c:List Int}{s:Int}(hs:short out)(hc:short c)(h0:0≤s):a5z (out,c,s)=some (b2M c s out):=by
 have:=c0M (s:=s) hs hc c.length 0 0 (by omega)
 simp only[nZ,a37]at this;unfold a5z;simp only[this,oB]
 have:¬ s<0:=by omega
 simp[this,b2M]
def b5I(warm rest c:List Int)(s:Int):Option (List Int):=bif warm.all a0b&&rest.all a0b then a5c (b2M c s) rest warm else none
theorem b7U{warm rest c:List Int}{s:Int}(hl:b0f c s=true)(hw:warm.length=c.length)(hr:rest.length<100000):
  a8d (warm,rest,c,s)=some (a5T (b5I warm rest c s)):=by
 have hl':=hl;simp only[b0f,bA,dT]at hl';have hsc:short c:=by unfold short;omega
 have hsw:short warm:=by unfold short;omega
 have hsr:short rest:=by unfold short;omega
 unfold a8d;have h3:(((warm.length:Nat):Int) != ((c.length:Nat):Int))=false:=by simp;omega
 simp only[b0R hsc,hl,oB,bT,cF,h3,a6X hsw,a6X hsr,b5I];cases hw1:warm.all a0b with
 |false=>rfl
 |true=>
  simp only[bT,cF,oB,a27];cases hw2:rest.all a0b with
  |false=>rfl
  |true=>
   have e1:wrap .i64 (((warm.length:Nat):Int)+((rest.length:Nat):Int))=((warm.length+rest.length:Nat):Int):=by rw[a0g (by omega)];omega
   have h4:(0:Int)≤((warm.length+rest.length:Nat):Int):=by omega
   simp only[bT,cF,cT,e1,h4,decide_true,tN,a0H (show warm.length+rest.length<1000000 by omega),a0H (show 0+warm.length<1000000 by omega),a08,a38,a09]
   have:=a2t (f:=a7H) rest (fun i out=>(c,s,rest,(rest.length:Int),(i:Int),out,())) (b6v (b2M c s) (Sum.inr ((6:Int),([]:List Int),())))
    (fun i out=>out.length≤warm.length+i) (fun out=>Sum.inl (out,()))
    (fun i h out hI=>by
     have hlt:i<1000000:=by omega
     have hso:short out:=by unfold short;omega
     have e:wrap .i64 (b2M c s out+rest[i])=W (rest[i]+b2M c s out):=by rw[Int.add_comm]
     simp only[a7H,dlt h,cT,a0c h,oB,b8F hso hsc hl'.2.2.1,e,a7p,b6v];cases hb:a0b (W (rest[i]+b2M c s out))with
     |true=>
      simp only[cT,bT,cF,a0H (show out.length+1<1000000 by omega),a0d hlt];refine⟨fun a' ha=>?_,fun b hb=>(by cases hb)⟩;simp only[Sum.inl.injEq]at ha;subst ha;exact⟨rfl,by simp;omega⟩
     |false=>
      refine⟨fun a' ha=>(by cases ha),fun b hb=>?_⟩;simp only[cF,Sum.inr.injEq]at hb;subst hb;rfl)
    (fun out _=>by simp[a7H]) (a:=warm) (by omega)
   simp only[nZ,b4J]at this;rw[this];cases a5c (b2M c s) rest warm<;>rfl
end Go.Ab
namespace Go.Ab
open IntKind(wrap)
def c8n(out:List Int)(lag:Int):List Int→Nat→Int→Int
 | [],_,acc=>acc
 |t::r,i,acc=>c8n out lag r (i+1) (bif decide (0≤(out.length:Int)-lag-1+i)then W (acc+W (t*out.getD ((out.length:Int)-lag-1+i).toNat 0))else acc)
def b0S(lag:Int)(t:List Int)(out:List Int):Int:=a0D .i64 (c8n out lag t 0 0) 6
theorem c8o{out:List Int}{j:Int}(h0:0≤j)(h:j<out.length):a0q out j=some (out.getD j.toNat 0):=by
 obtain⟨n,rfl⟩:=a20 h0;have hn:n<out.length:=by omega
 rw[a0c hn,tN,lD,lG hn];rfl
theorem d6P{n i:Nat}{lag:Int}(h1:2≤lag)(h2:lag≤1024)(hn:n<1000000)(hi:i<3):
  wrap .i64 (wrap .i64 (wrap .i64 ((n:Int)-lag)-1)+(i:Int))=(n:Int)-lag-1+i:=by
 rw[a0g (n:=(n:Int)-lag) (by omega),a0g (n:=(n:Int)-lag-1) (by omega),a0g (by omega)]
theorem d3v{l:List Int}{n j:Nat}(h:j<n):(l.take n).getD j 0=l.getD j 0:=by
 simp only[lD,List.getElem?_take,h,if_true]
theorem b0g{l t:List Int}{lag:Int}{n:Nat}(hn:n≤l.length)(hs:short l)(ht:t.length=3)(h1:2≤lag)(h2:lag≤1024):∀(k i:Nat)(acc:Int),i+k=3→
  a0h a4T (l,(n:Int),lag,acc,t,(i:Int),())=some (c8n (l.take n) lag (t.drop i) i acc,())
 |0,i,acc,h=>by
  obtain rfl:i=t.length:=by omega
  rw[a31];exact a0o (by rw[ht];simp[a4T,c8n])
 |k+1,i,acc,h=>by
  have hlt:i<t.length:=by omega
  have hi3:decide ((i:Int)<3)=true:=by simp;omega
  have hs':l.length<1000000:=hs;have hln:(l.take n).length=n:=by rw[List.length_take];omega
  have e:=d6P (n:=n) (i:=i) h1 h2 (by omega) (by omega);rw[a06 hlt,c8n,hln]
  by_cases hp:0≤(n:Int)-lag-1+i
  have hd:decide ((n:Int)-lag-1+i≥0)=true:=by simp;omega
  simp only[hp,decide_true,cT];rw[d3v (show((n:Int)-lag-1+i).toNat<n by omega),a0p (s':=(l,(n:Int),lag,W (acc+W (t[i]*l.getD ((n:Int)-lag-1+i).toNat 0)),t,((i+1:Nat):Int),())) (by
   simp only[a4T,hi3,cT,a0c hlt,oB,e,hd,c8o hp (show(n:Int)-lag-1+(i:Int)<(l.length:Int)by omega),a0d (show i<1000000 by omega)])]
  exact b0g hn hs ht h1 h2 k (i+1) _ (by omega);have hd:decide ((n:Int)-lag-1+i≥0)=false:=by simp;omega
  simp only[hp,decide_false,cF];rw[a0p (s':=(l,(n:Int),lag,acc,t,((i+1:Nat):Int),())) (by
   simp only[a4T,hi3,cT,a0c hlt,oB,e,hd,cF,a0d (show i<1000000 by omega)])]
  exact b0g hn hs ht h1 h2 k (i+1) _ (by omega)
theorem b6w{l t:List Int}{lag:Int}{n:Nat}(hn:n≤l.length)(hs:short l)(ht:t.length=3)(h1:2≤lag)(h2:lag≤1024):
  a5p (l,(n:Int),lag,t)=some (b0S lag t (l.take n)):=by
 have:=b0g (t:=t) hn hs ht h1 h2 3 0 0 (by omega)
 simp only[nZ,a37]at this;unfold a5p;simp only[this,oB,b0S]
theorem c3M{out t:List Int}{lag:Int}(hs:short out)(ht:t.length=3)(h1:2≤lag)(h2:lag≤1024):a5p (out,(out.length:Int),lag,t)=some (b0S lag t out):=by
 rw[b6w (a39 _) hs ht h1 h2,a49]
def b6x(rest:List Int)(lag:Int)(t:List Int):Option (List Int):=bif rest.all a0b then a5c (b0S lag t) rest []else none
theorem c8p{rest t:List Int}{lag:Int}(hl:b3y lag t=true)(ht:t.length=3)(hr:rest.length<100000):b3f (rest,lag,t)=some (a5T (b6x rest lag t)):=by
 have hl':=hl;simp only[b3y,bA,dT]at hl';have hsr:short rest:=by unfold short;omega
 unfold b3f;simp only[b7i ht,hl,oB,bT,cF,b6u hsr,b6x];cases hw2:rest.all a0b with
 |false=>rfl
 |true=>
  have h4:(0:Int)≤((rest.length:Nat):Int):=by omega
  simp only[bT,cF,cT,h4,decide_true,tN,a0H hsr,a08]
  have:=a2t (f:=a9G) rest (fun i out=>(lag,rest,(rest.length:Int),(i:Int),out,t,())) (b6v (b0S lag t) (Sum.inr ((6:Int),([]:List Int),())))
   (fun i out=>out.length=i) (fun out=>Sum.inl (out,()))
   (fun i h out hI=>by
    have hlt:i<1000000:=by omega
    have hso:short out:=by unfold short;omega
    have hp:=c3M (out:=out) (t:=t) (lag:=lag) hso ht hl'.1 hl'.2.1;rw[hI]at hp;simp only[a9G,dlt h,cT,a0c h,oB,hp,a9q,b6v];cases hb:a0b (W (rest[i]+b0S lag t out))with
    |true=>
     simp only[cT,bT,cF,a0H (show out.length+1<1000000 by omega),a0d hlt];refine⟨fun a' ha=>?_,fun b hb=>(by cases hb)⟩;simp only[Sum.inl.injEq]at ha;subst ha;exact⟨rfl,by simp;omega⟩
    |false=>
     refine⟨fun a' ha=>(by cases ha),fun b hb=>?_⟩;simp only[cF,Sum.inr.injEq]at hb;subst hb;rfl)
   (fun out _=>by simp[a9G]) (a:=[]) rfl
  simp only[nZ,b4J]at this;rw[this];cases a5c (b0S lag t) rest []<;>rfl
def c3N{β:Type}(n:Int)(bad:β)(out:List Int)(x:Int):List Int ⊕ β:=bif a0b x&&a0b (a0A .i64 x n)then .inl (out++[a0A .i64 x n])else .inr bad
def upO(n:Int)(l:List Int):Option (List Int):=bif l.all (fun x=>a0b x&&a0b (a0A .i64 x n))then some (l.map fun x=>a0A .i64 x n)else none
theorem c1X{β:Type}(n:Int)(bad:β)(fin:List Int→β):∀(l out:List Int),b0e fin (a3D (c3N n bad) l out)=match upO n l with|some r=>fin (out++r)|none=>bad
 | [],out=>by simp[a3D,b0e,upO]
 |x::l,out=>by
  simp only[a3D,c3N,upO,a40];cases hx:(a0b x&&a0b (a0A .i64 x n))with
  |true=>
   simp only[cT,a27];rw[c1X n bad fin l _];simp only[upO];cases l.all (fun x=>a0b x&&a0b (a0A .i64 x n))with
   |true=>simp
   |false=>rfl
  |false=>rfl
theorem c8q{l:List Int}{n:Int}(h0:0≤n)(h1:n≤30)(hr:l.length<100000):b0p (l,n)=some (a5T (upO n l)):=by
 have hsr:short l:=by unfold short;omega
 have g1:¬ n<0:=by omega
 have g2:¬ n > 30:=by omega
 unfold b0p;simp only[g1,g2,decide_false,cF,oB]
 have:=a2t (f:=a9H) l (fun i out=>(n,l,(l.length:Int),(i:Int),out,())) (c3N n (Sum.inr ((6:Int),([]:List Int),())))
  (fun i out=>out.length=i) (fun out=>Sum.inl (out,()))
  (fun i h out hI=>by
   have hlt:i<1000000:=by omega
   simp only[a9H,dlt h,cT,a0c h,oB,b7T,c3N,g1,decide_false,cF];cases hb:a0b l[i]with
   |true=>
    cases hb2:a0b (a0A .i64 l[i] n)with
    |true=>
     simp only[cT,bT,cF,oB,g1,decide_false,a0H (show out.length+1<1000000 by omega),a0d hlt,a08];refine⟨fun a' ha=>?_,fun b hb=>(by cases hb)⟩;simp only[Sum.inl.injEq]at ha;subst ha;exact⟨rfl,by simp;omega⟩
    |false=>
     refine⟨fun a' ha=>(by cases ha),fun b hb=>?_⟩;simp only[a27,cF,Sum.inr.injEq]at hb;subst hb;rfl
   |false=>
    refine⟨fun a' ha=>(by cases ha),fun b hb=>?_⟩;simp only[Bool.false_and,cF,Sum.inr.injEq]at hb;subst hb;rfl)
  (fun out _=>by simp[a9H]) (a:=[]) rfl
 simp only[nZ,c1X,a09]at this;rw[this];cases upO n l<;>rfl
end Go.Ab
namespace Go.Ab
open IntKind(wrap)
@[reducible] def Fil:Type:=Int×((List Int)×((List Int)×Unit))
def a2Y(x:Int):Int:=a4d (a2y x (-1073741824)) 1073741823
def c3O(x:Int):Int:=a4d (a2y x (-1048576)) 1048576
theorem c8r(x:Int):-1048576≤c3O x∧c3O x≤1048576:=by
 grind[c3O,d0z,d6O]
def d2d:List Int→List Int→Int→Int
 |a::w,b::h,acc=>d2d w h (W (acc+W (a*b)))
 |_,_,acc=>acc
def a1l(f:Fil):Int:=a2Y (a0D .i64 (d2d f.2.1 f.2.2.1 0) 16)
structure FilOk (f:Fil):Prop where
 len:f.2.1.length=f.2.2.1.length
 pos:1≤f.2.1.length
 most:f.2.1.length≤32
 rate:0≤f.1∧f.1≤8
 small:∀x∈f.2.1,-1048576≤x∧x≤1048576
theorem b8G{l:List Int}{i:Nat}(h:i<l.length):a03 l i 0=l[i]:=by
 simp_all
theorem b5J{f:Fil}(hf:FilOk f):∀(k i:Nat)(acc:Int),i+k=f.2.1.length→
  a0h a3T (acc,(f.2.1.length:Int),(i:Int),f,())=some (d2d (f.2.1.drop i) (f.2.2.1.drop i) acc,f,())
 |0,i,acc,h=>by
  obtain rfl:i=f.2.1.length:=by omega
  rw[a31,a0o (b:=(acc,f,())) (by simp[a3T])];rfl
 |k+1,i,acc,h=>by
  have h1:i<f.2.1.length:=by omega
  have h2:i<f.2.2.1.length:=by rw[←hf.len];omega
  have hm:=hf.most;rw[a06 h1,a06 h2,d2d];have h0:decide ((0:Int)≤(i:Int))=true:=by simp
  rw[a0p (s':=(W (acc+W (f.2.1[i]*f.2.2.1[i])),(f.2.1.length:Int),((i+1:Nat):Int),f,())) (by
   simp only[a3T,dlt h1,dlt h2,h0,cT,a08,tN,b8G h1,b8G h2,a0d (show i<1000000 by omega)])]
  exact b5J hf k (i+1) _ (by omega)
theorem a7q{f:Fil}(hf:FilOk f):a2A f=some (a1l f,f):=by
 have:=b5J hf f.2.1.length 0 0 (by omega)
 simp at this;unfold a2A;simp only[this,oB,a6n];rfl
def c1f(x:Int):Int:=if 0<x then 1 else if x<0 then -1 else 0
def b3z(r:Int)(x g:Int):Int:=c1f (x-g)*2^r.toNat
def b8H(st:Int)(w h:Int):Int:=c3O (W (w+c1f h*st))
def b4M(f:Fil)(x:Int):Fil:=
 (f.1,a24 (b8H (b3z f.1 (a2Y x) (a1l f))) f.2.1 f.2.2.1,a2Y x::f.2.2.1.take (f.2.2.1.length-1),f.2.2.2)
theorem c8s{f:Fil}(hf:FilOk f)(x:Int):FilOk (b4M f x):=by
 obtain⟨h1,h2,h3,h4,h5⟩:=hf;have e:(a24 (b8H (b3z f.1 (a2Y x) (a1l f))) f.2.1 f.2.2.1).length=f.2.1.length:=by simp_all
 refine⟨?_,?_,?_,h4,?_⟩;show(a24 _ _ _).length=(a2Y x::f.2.2.1.take (f.2.2.1.length-1)).length;simp_all;show 1≤(a24 _ _ _).length;omega;show(a24 _ _ _).length≤32;omega;intro y hy;have hy:y∈a24 (b8H (b3z f.1 (a2Y x) (a1l f))) f.2.1 f.2.2.1:=hy;obtain⟨i,hi,rfl⟩:=List.mem_iff_getElem.1 hy
 simp
 exact c8r _
theorem b7j(x:Int):(0<x∧c1f x=1)∨(x<0∧c1f x=-1)∨(x=0∧c1f x=0):=by
 unfold c1f;omega
theorem c2E{r:Int}(h:0≤r∧r≤8):(2:Int)^r.toNat≤256∧1≤(2:Int)^r.toNat:=by
 have:r.toNat=0∨r.toNat=1∨r.toNat=2∨r.toNat=3∨r.toNat=4∨r.toNat=5∨r.toNat=6∨r.toNat=7∨r.toNat=8:=by omega
 rcases this with e|e|e|e|e|e|e|e|e<;>rw[e]<;>decide
theorem d3w{r:Int}(h:0≤r∧r≤8){x:Int}(hx:-1≤x∧x≤1):a0A .i64 x r=x*2^r.toNat:=by
 have hp:=c2E h;have hb:min r.toNat 64=r.toNat:=by omega
 unfold a0A;show wrap .i64 (x*2^(min r.toNat 64))=_;rw[hb]
 have:x=-1∨x=0∨x=1:=by omega
 rcases this with rfl|rfl|rfl
 all_goals grind[a0g]
theorem c6Q{f:Fil}(hf:FilOk f)(x:Int):
  (bif decide (a2Y x > a1l f)then bif decide (f.1<0)then(none:Option (Int×Int×Fil×Unit))else some (a2Y x,a0A .i64 (1:Int) f.1,f,())
   else bif decide (a2Y x<a1l f)then bif decide (f.1<0)then none else some (a2Y x,wrap .i64 (0-(a0A .i64 (1:Int) f.1)),f,())
   else some (a2Y x,(0:Int),f,()))=some (a2Y x,b3z f.1 (a2Y x) (a1l f),f,()):=by
 have hr:¬ f.1<0:=by have:=hf.rate;omega
 have hp:=c2E hf.rate;have hg:=d3w hf.rate (x:=1) (by omega);rw[Int.one_mul]at hg;rcases b7j (a2Y x-a1l f)with⟨h1,h2⟩|⟨h1,h2⟩|⟨h1,h2⟩;have h3:a2Y x > a1l f:=by omega
 simp only[h3,hr,decide_true,decide_false,cT,cF,b3z,h2,Int.one_mul,hg];have h3:¬ a2Y x > a1l f:=by omega
 have h4:a2Y x<a1l f:=by omega
 simp only[h3,h4,hr,decide_true,decide_false,cT,cF,b3z,h2,hg]
 grind[a0g]
 have h3:¬ a2Y x > a1l f:=by omega
 have h4:¬ a2Y x<a1l f:=by omega
 simp only[h3,h4,decide_false,cF,b3z,h2,Int.zero_mul]
theorem d4Y{l z:List Int}{i:Nat}(hi:i<l.length)(hz:z.length=l.length):(z.take i++l.drop i).set i (z[i]'(by omega))=z.take (i+1)++l.drop (i+1):=by
 have h1:(z.take i).length=i:=by grind
 have h2:z.take (i+1)=z.take i++[z[i]'(by omega)]:=by simp
 rw[a45 _ _ (by omega),h1,a44,a06 hi,a47,h2,aA];rfl
theorem d4Z{l z:List Int}{i:Nat}(hi:i<l.length)(hz:z.length=l.length):a03 (z.take i++l.drop i) i 0=l[i]:=by
 grind
theorem d3x{f:Fil}(hf:FilOk f){i:Nat}(h:i<f.2.1.length):-1048576≤f.2.1[i]∧f.2.1[i]≤1048576:=hf.small _ (a50 h)
theorem c3P{f:Fil}(hf:FilOk f){x1 st:Int}(hst:-256≤st∧st≤256):
  a0h a2X (x1,st,(f.2.2.1.length:Int),(0:Int),f,())=some (x1,(f.1,a24 (b8H st) f.2.1 f.2.2.1,f.2.2),()):=by
 obtain⟨z,hz⟩:∃z,a24 (b8H st) f.2.1 f.2.2.1=z:=⟨_,rfl⟩;have hlen:=hf.len;have hzl:z.length=f.2.1.length:=by grind
 have hm:=hf.most
 have:=a3C (f:=a2X) (fun i=>(x1,st,(f.2.2.1.length:Int),(i:Int),(f.1,z.take i++f.2.1.drop i,f.2.2),()))
  f.2.2.1.length (b:=(x1,(f.1,z,f.2.2),())) (fun i hi=>by
   have hi1:i<f.2.1.length:=by omega
   have h0:decide ((0:Int)≤(i:Int))=true:=by simp
   have hl1:(z.take i++f.2.1.drop i).length=f.2.1.length:=by grind
   have hl2:decide ((i:Int)<((z.take i++f.2.1.drop i).length:Int))=true:=by simp_all
   have hzi:z[i]'(by omega)=b8H st f.2.1[i] f.2.2.1[i]:=by grind
   have hsm:=d3x hf hi1;have hset:=d4Y hi1 hzl;rw[hzi]at hset;simp only[a2X,dlt hi,h0,hl2,cT,a08,tN,b8G hi,d4Z hi1 hzl];rcases b7j f.2.2.1[i]with⟨h1,h2⟩|⟨h1,h2⟩|⟨h1,h2⟩;have h3:f.2.2.1[i] > 0:=h1;simp[b8H,h2]at hset;simp only[h3,decide_true,cT,oB,h0,hl2,a08,tN,a0d (show i<1000000 by omega)];exact congrArg (fun l=>some (Sum.inl (x1,st,(f.2.2.1.length:Int),((i+1:Nat):Int),(f.1,l,f.2.2),()))) hset;have h3:¬ f.2.2.1[i] > 0:=by omega
   have e:f.2.1[i]+-1*st=f.2.1[i]-st:=by omega
   simp only[b8H,h2,e]at hset;simp only[h3,h1,decide_true,decide_false,cT,cF,oB,h0,hl2,a08,tN,a0d (show i<1000000 by omega)];exact congrArg (fun l=>some (Sum.inl (x1,st,(f.2.2.1.length:Int),((i+1:Nat):Int),(f.1,l,f.2.2),()))) hset;have h3:¬ f.2.2.1[i] > 0:=by omega
   have h4:¬ f.2.2.1[i]<0:=by omega
   have e:W (f.2.1[i]+0*st)=f.2.1[i]:=by rw[Int.zero_mul,Int.add_zero];exact a0g (by omega)
   simp only[b8H,h2,e]at hset;simp only[h3,h4,decide_false,cF,oB,h0,hl2,cT,a08,tN,a0d (show i<1000000 by omega)];exact congrArg (fun l=>some (Sum.inl (x1,st,(f.2.2.1.length:Int),((i+1:Nat):Int),(f.1,l,f.2.2),()))) hset)
  (by
   simp_all[List.take_of_length_le,a2X])
 simp_all
theorem c9M{f:Fil}(hf:FilOk f)(x g:Int):-256≤b3z f.1 x g∧b3z f.1 x g≤256:=by
 have hp:=c2E hf.rate;unfold b3z;rcases b7j (x-g)with⟨-,h2⟩|⟨-,h2⟩|⟨-,h2⟩<;>rw[h2]<;>omega
theorem b9C{f:Fil}(hf:FilOk f)(x:Int):a3Y (f,x)=some (b4M f x):=by
 unfold a3Y;have hs:=c6Q hf x;simp only[a6n,oB,a7q hf];have hs':(bif decide (a4d (a2y x (-1073741824)) 1073741823 > a1l f)then bif decide (f.1<0)then(none:Option (Int×Int×Fil×Unit))else some (a4d (a2y x (-1073741824)) 1073741823,a0A .i64 (1:Int) f.1,f,())
   else bif decide (a4d (a2y x (-1073741824)) 1073741823<a1l f)then bif decide (f.1<0)then none else some (a4d (a2y x (-1073741824)) 1073741823,wrap .i64 (0-(a0A .i64 (1:Int) f.1)),f,())
   else some (a4d (a2y x (-1073741824)) 1073741823,(0:Int),f,()))=_:=hs
 rw[hs'];simp only[oB,c3P hf (c9M hf _ _)];have h1:f.2.2.1.length≥1:=by have:=hf.pos;have:=hf.len;omega
 have h2:decide ((1:Int)≤((f.2.2.1.length:Nat):Int))=true:=by grind
 have e:b4s f.2.2.1 1 (f.2.2.1.length-1) f.2.2.1=f.2.2.1.take 1++f.2.2.1.take (f.2.2.1.length-1):=by
  simp_all[b4s]
 have hl:(f.2.2.1.take 1++f.2.2.1.take (f.2.2.1.length-1)).length=f.2.2.1.length:=by simp_all
 have h3:decide ((0:Int)<(((f.2.2.1.take 1++f.2.2.1.take (f.2.2.1.length-1)).length:Nat):Int))=true:=by grind
 simp only[h2,cT,e,h3];congr 1;have e2:(f.2.2.1.take 1++f.2.2.1.take (f.2.2.1.length-1)).set 0 (a2Y x)=a2Y x::f.2.2.1.take (f.2.2.1.length-1):=by
  cases hc:f.2.2.1 with
  |nil=>simp_all
  |cons a l=>simp
 rw[e2];rfl
end Go.Ab
namespace Go.Ab
@[reducible] def Stg:Type:=Int×(Int×Unit)
theorem a9s{l:List Int}(h:short l):a1h l=some l:=by
 have h1:lim (0+l.length)=true:=a0H (by unfold short at h;omega);unfold a1h b5m;rw[h1,cT]
def b2g(s:Stg):Fil:=(s.2.1,a00 s.1.toNat 0,a00 s.1.toNat 0,())
theorem d0A{s:Stg}(h:stageB s=true):FilOk (b2g s):=by
 simp only[stageB,bA,dT]at h;refine⟨by simp[b2g],by simp[b2g];omega,by simp[b2g];omega,⟨h.2.2.1,h.2.2.2⟩,fun x hx=>?_⟩;simp only[b2g,List.mem_replicate]at hx;omega
theorem b5K{s:Stg}(h:stageB s=true):b0o s=some (b2g s,0):=by
 have h':=h;simp only[stageB,bA,dT]at h';unfold b0o;have h1:decide ((0:Int)≤s.1)=true:=by simp;omega
 have h2:decide (s.1≤s.1)=true:=by simp
 have h3:lim s.1.toNat=true:=a0H (by omega);simp only[b2L,h,oB,bT,cF,h1,h2,h3,a08,cT];rfl
def stO:List Int→List Int→Fil→Option (List Int)
 | [],done,_=>some done
 |r::rs,done,f=>bif a0b (W (a1l f+r))then stO rs (done++[W (a1l f+r)]) (b4M f (W (a1l f+r)))else none
theorem b8I:∀(l done:List Int)(f:Fil){r},stO l done f=some r→r.length=done.length+l.length
 | [],done,f,r,h=>by simp only[stO,sj]at h;rw[←h];simp
 |x::l,done,f,r,h=>by
  simp only[stO]at h;cases hw:a0b (W (a1l f+x))with
  |true=>rw[hw]at h;rw[b8I l _ _ h];simp;omega
  |false=>rw[hw]at h;cases h
theorem b6y{done row:List Int}{i:Nat}(hd:done.length=i)(h:i<row.length):a03 (done++row.drop i) i 0=row[i]:=by
 rw[lD,List.getElem?_append_right (by omega),hd,a44,List.getElem?_drop,Nat.add_zero,lG h];rfl
theorem c8t{done row:List Int}{i:Nat}(hd:done.length=i)(h:i<row.length)(y:Int):(done++row.drop i).set i y=(done++[y])++row.drop (i+1):=by
 rw[a45 _ _ (by omega),hd,a44,a06 h,a47,aA];rfl
theorem b6z{row b4:List Int}{b5:Int}(hs:short row):∀(k i:Nat)(done:List Int)(f:Fil),i+k=row.length→done.length=i→FilOk f→
  ∃z,a0h a6o ((row.length:Int),(i:Int),b4,b5,done++row.drop i,f,())=some z∧
   match stO (row.drop i) done f with
   |some r=>z=.inl (b4,b5,r,())
   |none=>∃q,z=.inr (([]:List Int),(6:Int),q,())
 |0,i,done,f,h,hd,hf=>by
  obtain rfl:i=row.length:=by omega
  rw[a31,a52];exact⟨_,a0o (b:=Sum.inl (b4,b5,done,())) (by simp[a6o]),rfl⟩
 |k+1,i,done,f,h,hd,hf=>by
  have hi:i<row.length:=by omega
  have hs':row.length<1000000:=hs;have h0:decide ((0:Int)≤(i:Int))=true:=by simp
  have hl:(done++row.drop i).length=row.length:=by simp;omega
  have h1:decide ((i:Int)<(((done++row.drop i).length:Nat):Int))=true:=by rw[hl];simp;omega
  have hst:stO (row.drop i) done f=bif a0b (W (a1l f+row[i]))then stO (row.drop (i+1)) (done++[W (a1l f+row[i])]) (b4M f (W (a1l f+row[i])))else none:=by
   rw[a06 hi];rfl
  rw[hst];cases hw:a0b (W (a1l f+row[i]))with
  |true=>
   rw[a0p (s':=((row.length:Int),((i+1:Nat):Int),b4,b5,(done++[W (a1l f+row[i])])++row.drop (i+1),b4M f (W (a1l f+row[i])),())) (by
    simp only[a6o,dlt hi,h0,h1,cT,a08,a7q hf,oB,tN,b6y hd hi,a6e,hw,bT,cF,b9C hf,c8t hd hi,a0d (show i<1000000 by omega)])]
   exact b6z hs k (i+1) _ _ (by omega) (by simp;omega) (c8s hf _)
  |false=>
   exact⟨_,a0o (b:=Sum.inr (([]:List Int),(6:Int),done++row.drop i,())) (by
    simp only[a6o,dlt hi,h0,h1,cT,a08,a7q hf,oB,tN,b6y hd hi,a6e,hw,a30]),_,rfl⟩
def lO:List Stg→List Int→Option (List Int)
 | [],row=>some row
 |s::r,row=>match stO row [] (b2g s)with
  |some row'=>lO r row'
  |none=>none
theorem c9N{st:List Stg}{s:Stg}{k:Int}{b4:List Int}{row:List Int}(h:stageB s=true)(hs:short row):
  ∃z,a8O k s (st,b4,(0:Int),row,())=some z∧match stO row [] (b2g s)with
   |some r=>z=.inl (st,b4,(0:Int),r,())
   |none=>∃q,z=.inr (.ret,st,([]:List Int),(6:Int),q,()):=by
 obtain⟨z,h1,h2⟩:=b6z (b4:=b4) (b5:=0) hs row.length 0 [] (b2g s) (by omega) rfl (d0A h);simp only[nZ,a37,a09]at h1 h2;unfold a8O;have hne:((0:Int) != 0)=false:=rfl;simp only[b5K h,oB,hne,cF,h1];cases hst:stO row [] (b2g s)with
 |some r=>
  rw[hst]at h2;simp only[]at h2;subst h2;exact⟨_,rfl,rfl⟩
 |none=>
  rw[hst]at h2;obtain⟨q,rfl⟩:=h2;exact⟨_,rfl,q,rfl⟩
theorem c1Y{st l:List Stg}{b4:List Int}(hl:∀s∈l,stageB s=true):∀(n:Nat)(row:List Int),n≤l.length→short row→
  ∃z,a6l a8O l n (st,b4,(0:Int),row,())=some z∧match lO (l.take n).reverse row with
   |some r=>z=.inl (st,b4,(0:Int),r,())
   |none=>∃q,z=.inr (.ret,st,([]:List Int),(6:Int),q,())
 |0,row,_,_=>⟨_,rfl,rfl⟩
 |n+1,row,hn,hs=>by
  have hlt:n<l.length:=by omega
  obtain⟨z,h1,h2⟩:=c9N (st:=st) (k:=(n:Int)) (b4:=b4) (hl _ (a50 hlt)) hs;have ht:(l.take (n+1)).reverse=l[n]::(l.take n).reverse:=by rw[List.take_add_one,lG hlt];simp
  simp only[a6l,lG hlt,h1,ht,lO];cases hst:stO row [] (b2g l[n])with
  |some r=>
   rw[hst]at h2;simp only[]at h2;subst h2;exact c1Y hl n r (by omega) (by have:=b8I _ _ _ hst;unfold short at hs⊢;simp at this;omega)
  |none=>
   rw[hst]at h2;obtain⟨q,rfl⟩:=h2;exact⟨_,rfl,q,rfl⟩
def b3V(rest:List Int)(st:List Stg):Option (List Int):=bif rest.all a0b then lO st.reverse rest else none
theorem c6R{rest:List Int}{st:List Stg}(hl:b0t st=true)(hr:rest.length<100000):b1R (rest,st)=some (a5T (b3V rest st)):=by
 have hl':=hl;simp only[b0t,bA,dT]at hl';have hss:short st:=by unfold short;omega
 have hsr:short rest:=by unfold short;omega
 unfold b1R;simp only[b5H hss,hl,oB,bT,cF,b5G hsr,b3V];cases hw:rest.all a0b with
 |false=>rfl
 |true=>
  obtain⟨z,h1,h2⟩:=c1Y (st:=st) (b4:=[]) (lA.1 hl'.2) st.length rest (a39 _) hsr;rw[a49]at h2;simp only[bT,cF,cT,a9s hsr,oB,a0H hss,h1];cases hst:lO st.reverse rest with
  |some r=>
   rw[hst]at h2;simp only[]at h2;subst h2;rfl
  |none=>
   rw[hst]at h2;obtain⟨q,rfl⟩:=h2;rfl
end Go.Ab
namespace Go.Ab
open IntKind(wrap)
def a7r(n warm:Int):Bool:=decide (1≤n)&&(decide (n≤4096)&&(decide (0≤warm)&&decide (warm≤n)))
theorem b5L(n warm:Int):a8w (n,warm)=some (a7r n warm):=by
 grind[a8w,a7r]
theorem d7P{o:Nat}(h:o≤8):1≤2^o∧2^o≤256:=by
 have:o=0∨o=1∨o=2∨o=3∨o=4∨o=5∨o=6∨o=7∨o=8:=by omega
 grind
theorem c8u{N o:Nat}(h:o≤64):a0D .i64 (N:Int) (o:Int)=((N / 2^o:Nat):Int):=by
 unfold a0D;show Int.fdiv (N:Int) (2^(min (o:Int).toNat 64))=_
 grind
theorem c2F{N o:Nat}(h:o≤64)(hs:N*2^o<9223372036854775808):a0A .i64 (N:Int) (o:Int)=((N*2^o:Nat):Int):=by
 unfold a0A;show wrap .i64 ((N:Int)*2^(min (o:Int).toNat 64))=_
 grind[a0g]
def b7V(o N:Nat)(warm:Int):List Int:=
 if N%2^o=0∧warm≤((N / 2^o:Nat):Int)then(((N / 2^o:Nat):Int)-warm)::a00 (2^o-1) ((N / 2^o:Nat):Int)else[]
def a2k(order n warm:Int):List Int:=bif a7r n warm&&(decide (0≤order)&&decide (order≤8))then b7V order.toNat n.toNat warm else[]
theorem a2B(order n warm:Int):a3N (order,n,warm)=some (a2k order n warm):=by
 unfold a3N a2k;simp only[b5L,oB];cases hr:a7r n warm with
 |false=>rfl
 |true=>
  simp[a7r]at hr;simp only[bT,cF,a27]
  by_cases h1:order<0
  grind
  by_cases h2:order > 8
  grind
  obtain⟨o,rfl⟩:=a20 (show 0≤order by omega);obtain⟨N,rfl⟩:=a20 (show 0≤n by omega);have ho:o≤8:=by omega
  have hN:N≤4096:=by omega
  have hp:=d7P ho;have hle:N / 2^o*2^o≤N:=Nat.div_mul_le_self N _;have g0:(0:Int)≤(o:Int):=by omega
  have g8:(o:Int)≤8:=by omega
  simp only[h1,h2,g0,g8,decide_true,decide_false,cF,cT,a08,oB,c8u (N:=N) (show o≤64 by omega),c2F (N:=N / 2^o) (show o≤64 by omega) (by omega),tN];have hmod:=Nat.div_add_mod N (2^o);rw[Nat.mul_comm]at hmod
  by_cases hm:N%2^o=0
  have e1:(((N / 2^o*2^o:Nat):Int) != (N:Int))=false:=by simp_all
  by_cases hw:warm≤((N / 2^o:Nat):Int)
  have e2:decide (((N / 2^o:Nat):Int)<warm)=false:=decide_eq_false (Int.not_lt.2 hw);have e3:wrap .i64 (((N / 2^o:Nat):Int)-warm)=((N / 2^o:Nat):Int)-warm:=a0g (by have:=Nat.div_le_self N (2^o);omega);simp only[e1,e2,e3,cF,oB,b7V,hm,hw,and_self,if_true];have hg:a0A .i64 (1:Int) (o:Int)=((2^o:Nat):Int):=by have:=c2F (N:=1) (show o≤64 by omega) (by omega);simp_all
  have:=a3C (f:=a7F) (fun i=>((o:Int),((N / 2^o:Nat):Int),(((N / 2^o:Nat):Int)-warm)::a00 i ((N / 2^o:Nat):Int),())) (2^o-1)
   (b:=((((N / 2^o:Nat):Int)-warm)::a00 (2^o-1) ((N / 2^o:Nat):Int),())) (fun i hi=>by
    have hd:decide ((((((N / 2^o:Nat):Int)-warm)::a00 i ((N / 2^o:Nat):Int)).length:Int)<((2^o:Nat):Int))=true:=by
     grind
    have hlim:lim (((((N / 2^o:Nat):Int)-warm)::a00 i ((N / 2^o:Nat):Int)).length+1)=true:=a0H (by grind);have ea:a00 i ((N / 2^o:Nat):Int)++[((N / 2^o:Nat):Int)]=a00 (i+1) ((N / 2^o:Nat):Int):=by grind[a36]
    simp only[a7F,h1,decide_false,cF,hg,hd,cT,hlim,a38,a16,ea])
   (by
    have hd:decide ((((((N / 2^o:Nat):Int)-warm)::a00 (2^o-1) ((N / 2^o:Nat):Int)).length:Int)<((2^o:Nat):Int))=false:=by
     simp_all
    simp only[a7F,h1,decide_false,cF,hg,hd])
  simp_all;have e2:decide (((N / 2^o:Nat):Int)<warm)=true:=decide_eq_true (Int.not_le.1 hw);simp_all[b7V];have e1:(((N / 2^o*2^o:Nat):Int) != (N:Int))=true:=by grind
  simp only[e1,cT,oB,b7V,hm,false_and,if_false]
@[reducible] def Prt:Type:=Int×((List Int)×Unit)
def kB(k:Int):Bool:=(decide (0≤k)&&decide (k≤25)) || (k==31)
def a6B(p:Prt)(n warm:Int):Bool:=!((a2k p.1 n warm).length==0)&&((a2k p.1 n warm).length==p.2.1.length&&p.2.1.all kB)
theorem b5M{p:Prt}{n warm:Int}(hk:short p.2.1):b0n (p,n,warm)=some (a6B p n warm):=by
 have:=a1K (f:=a5n) p.2.1 (fun i=>(p.2.1,(p.2.1.length:Int),(i:Int),())) kB (bt:=Sum.inl ()) (bf:=Sum.inr (false,()))
  (fun i h hp=>by
   simp[kB]at hp
   by_cases h1:p.2.1[i]<0
   omega
   by_cases h2:p.2.1[i] > 25
   have h3:p.2.1[i]=31:=by omega
   have h4:(p.2.1[i] != 31)=false:=by simp_all
   simp[a5n,a0c h,h,h1,h2,h4,a0d (a23 h hk)];simp[a5n,a0c h,h,h1,h2,a0d (a23 h hk)])
  (fun i h hp=>by
   have hp:¬ (kB p.2.1[i]=true):=by simp_all
   simp only[kB,Bool.or_eq_true,bA,dT,beq_iff_eq]at hp
   grind[a5n,a0c])
  (by simp[a5n])
 simp at this;unfold b0n a6B;simp[a2B]
 by_cases h0:(a2k p.1 n warm).length=0
 simp_all
 ·have e:((((a2k p.1 n warm).length:Nat):Int)==0)=false:=by simp_all
  have e':((a2k p.1 n warm).length==0)=false:=by simp_all
  simp[e,e']
  by_cases h1:(a2k p.1 n warm).length=p.2.1.length
  all_goals grind
end Go.Ab
namespace Go.Ab
open IntKind(wrap)
@[reducible] def Sub:Type:=Int×(Int×(Int×(Int×(Int×((List Int)×((List Int)×((List Stg)×((List Int)×(Prt×((List Int)×Unit))))))))))
structure SmallS (s:Sub):Prop where
 coefs:s.2.2.2.2.2.1.length≤40
 taps:s.2.2.2.2.2.2.1.length=3
 stages:s.2.2.2.2.2.2.2.1.length≤6
 warm:s.2.2.2.2.2.2.2.2.1.length≤5000
 rest:s.2.2.2.2.2.2.2.2.2.2.1.length≤5000
 ks:s.2.2.2.2.2.2.2.2.2.1.2.1.length≤300
theorem b5N(x y:List Int):eqT (.arr 3 (.int .i64)) x y=decide (x=y):=by
 show((a24 (fun(a b:Int)=>a==b) x y).all id&&x.length==y.length)=_
 induction x generalizing y with
 |nil=>cases y<;>simp
 |cons a x ih=>
  cases y with
  |nil=>simp
  |cons b y=>
   have:=ih y
   simp only[List.zipWith_cons_cons,a40,lC,id];rw[Bool.and_assoc,show((x.length+1==y.length+1):Bool)=(x.length==y.length)from by simp,this]
   by_cases h1:a=b<;>by_cases h2:x=y<;>simp[h1,h2]
theorem b8J{l:List Int}(h:short l):a4J l=some l:=a9s h
theorem c1Z{l:List Stg}(h:short l):a1v l=some l:=by
 have h1:lim (0+l.length)=true:=a0H (by unfold short at h;omega);unfold a1v b5m;rw[h1,cT]
def a4N(k:Int)(s:Sub)(n:Int):Prop:=
 k=0∨k=1∨(k=2∧0≤s.2.2.1∧s.2.2.1≤4∧s.2.2.1≤n)∨(k=3∧b0f s.2.2.2.2.2.1 s.2.2.2.1=true∧(s.2.2.2.2.2.1.length:Int)≤n)∨
  (k=4∧b0f s.2.2.2.2.2.1 s.2.2.2.1=true∧(s.2.2.2.2.2.1.length:Int)≤n∧b3y s.2.2.2.2.1 s.2.2.2.2.2.2.1=true)∨
  (k=5∧0<s.2.2.2.2.2.2.2.1.length∧b0t s.2.2.2.2.2.2.2.1=true)
open Classical in
def b5O (k:Int) (s:Sub) (n:Int):Bool:=decide (a4N k s n)
theorem b7W{s:Sub}(h:SmallS s)(k n:Int):a9i (k,s,n)=some (b5O k s n):=by
 have hc:short s.2.2.2.2.2.1:=by have:=h.coefs;unfold short;omega
 have hst:short s.2.2.2.2.2.2.2.1:=by have:=h.stages;unfold short;omega
 unfold a9i b5O a4N
 by_cases k0:k=0
 subst k0;simp
 by_cases k1:k=1
 subst k1;simp;have e0:(k==0)=false:=by simp[k0]
 have e1:(k==1)=false:=by simp[k1]
 simp only[e0,e1,cF,oB]
 by_cases k2:k=2
 subst k2
 by_cases h1:0≤s.2.2.1<;>by_cases h2:s.2.2.1≤4<;>simp[h1,h2]
 by_cases k3:k=3
 subst k3;cases hl:b0f s.2.2.2.2.2.1 s.2.2.2.1<;>simp[b0R hc,hl]
 by_cases k4:k=4
 subst k4;cases hl:b0f s.2.2.2.2.2.1 s.2.2.2.1<;>by_cases h2:(s.2.2.2.2.2.1.length:Int)≤n<;>simp[b0R hc,b7i h.taps,hl,h2]
 by_cases k5:k=5
 subst k5
 by_cases h1:0<s.2.2.2.2.2.2.2.1.length
 simp[b5H hst,h1];simp[h1];have e2:(k==2)=false:=by simp[k2]
 have e3:(k==3)=false:=by simp[k3]
 have e4:(k==4)=false:=by simp[k4]
 have e5:(k==5)=false:=by simp[k5]
 simp only[e2,e3,e4,e5,cF];simp[k0,k1,k2,k3,k4,k5]
def a2P(s:Sub)(n:Int):Int:=if s.1=0 then 1 else if s.1=1 then n else if s.1=2 then s.2.2.1 else if s.1=3∨s.1=4 then(s.2.2.2.2.2.1.length:Int)else 0
theorem b3W(s:Sub)(n:Int):a5y (s,n)=some (a2P s n):=by
 obtain⟨k,s⟩:=s;unfold a5y a2P
 by_cases k0:k=0
 subst k0;simp
 by_cases k1:k=1
 subst k1;simp
 by_cases k2:k=2
 subst k2;simp
 by_cases k3:k=3
 subst k3;simp
 by_cases k4:k=4
 subst k4;simp;have e0:(k==0)=false:=by simp[k0]
 have e1:(k==1)=false:=by simp[k1]
 have e2:(k==2)=false:=by simp[k2]
 have e3:(k==3)=false:=by simp[k3]
 have e4:(k==4)=false:=by simp[k4]
 simp[k0,k1,k2,k3,k4,e0,e1,e2,e3,e4]
def b7X(s:Sub):Prop:=
 (s.1≠2→s.2.2.1=0)∧(s.1≠3∧s.1≠4→s.2.2.2.1=0)∧(s.1≠4→s.2.2.2.2.1=0)∧(s.1≠4→s.2.2.2.2.2.2.1=[0,0,0])∧(s.1≠3∧s.1≠4→s.2.2.2.2.2.1=[])∧(s.1≠5→s.2.2.2.2.2.2.2.1=[])
open Classical in
def b7Y (s:Sub):Bool:=decide (b7X s)
theorem b2N{c x:Bool}:(bif c then some x else some false)=some (c&&x):=by cases c<;>rfl
theorem c5j{α:Type}(l:List α):(((l.length:Nat):Int)==0)=decide (l=[]):=by
 cases l with
 |nil=>rfl
 |cons a l=>simp;omega
theorem c5k(x:Int):(x==0)=decide (x=0):=rfl
theorem c8v{s:Sub}(h:SmallS s):b3c s=some (b7Y s):=by
 have hc:short s.2.2.2.2.2.1:=by have:=h.coefs;unfold short;omega
 have hst:short s.2.2.2.2.2.2.2.1:=by have:=h.stages;unfold short;omega
 obtain⟨k,w,o,sh,lag,c,t,st,wm,p,r,u⟩:=s;simp only at hc hst;unfold b3c a7f b7Y b7X;have ht:(a00 3 (0:Int))=[0,0,0]:=rfl
 by_cases k2:k=2
 subst k2;simp[b5N,ht,b2N,c5j,c5k]
 by_cases k4:k=4
 subst k4;simp[b5N,ht,b2N,c5j,c5k,b8J hc]
 by_cases k3:k=3
 subst k3;simp[b5N,ht,b2N,c5j,c5k,b8J hc]
 by_cases k5:k=5
 subst k5;simp[b5N,ht,b2N,c5j,c5k,c1Z hst];have e2:(k==2)=false:=by simp[k2]
 have e3:(k==3)=false:=by simp[k3]
 have e4:(k==4)=false:=by simp[k4]
 have e5:(k==5)=false:=by simp[k5]
 simp[e2,e3,e4,e5,k2,k3,k4,k5,b5N,ht,b2N,c5j,c5k]
theorem a7y(k:Int):a7d k=some (decide (k≠0∧k≠1)):=by
 unfold a7d
 by_cases h0:k=0
 subst h0;rfl
 by_cases h1:k=1
 subst h1;rfl;have e:(k != 0)=true:=by simp[h0]
 simp[e,h0,h1]
def a1D(s:Sub)(n:Int):Prop:=
 1≤n∧n≤4096∧a4N s.1 s n∧b7X s∧0≤s.2.1∧s.2.1≤30∧(s.1=0→s.2.1=0)∧(s.2.2.2.2.2.2.2.2.1.length:Int)=a2P s n∧s.2.2.2.2.2.2.2.2.1.all a0b=true∧s.2.2.2.2.2.2.2.2.2.2.1.all a0b=true∧
  (s.1=0∨s.1=1→s.2.2.2.2.2.2.2.2.2.2.1=[]∧s.2.2.2.2.2.2.2.2.2.1.1=0∧s.2.2.2.2.2.2.2.2.2.1.2.1=[])∧
  (s.1≠0∧s.1≠1→(s.2.2.2.2.2.2.2.2.2.2.1.length:Int)=n-a2P s n∧a6B s.2.2.2.2.2.2.2.2.2.1 n (a2P s n)=true)
theorem c9O{s:Sub}(h:SmallS s){n:Int}(h1:1≤n)(h2:n≤4096)(hf:a4N s.1 s n):0≤a2P s n∧a2P s n≤4096:=by
 have hc:=h.coefs;unfold a2P;rcases hf with k|k|⟨k,h3⟩|⟨k,h3⟩|⟨k,h3⟩|⟨k,h3⟩<;>simp[k]<;>omega
open Classical in
theorem d3y {s:Sub} (h:SmallS s) (n:Int):b1M (s,n)=some (decide (a1D s n)):=by
 have hw:short s.2.2.2.2.2.2.2.2.1:=by have:=h.warm;unfold short;omega
 have hr:short s.2.2.2.2.2.2.2.2.2.2.1:=by have:=h.rest;unfold short;omega
 have hk:short s.2.2.2.2.2.2.2.2.2.1.2.1:=by have:=h.ks;unfold short;omega
 unfold b1M
 by_cases h1:1≤n
 rotate_left
 ·have e1:decide (n<1)=true:=by simp;omega
  have:¬ a1D s n:=fun hp=>h1 hp.1
  simp only[e1,cT,oB,this,decide_false]
 have e1:decide (n<1)=false:=by simp;omega
 by_cases h2:n≤4096
 rotate_left
 ·have e2:decide (n > 4096)=true:=by simp;omega
  have:¬ a1D s n:=fun hp=>h2 hp.2.1
  simp only[e1,e2,cT,cF,oB,this,decide_false]
 have e2:decide (n > 4096)=false:=by simp;omega
 by_cases h3:a4N s.1 s n
 rotate_left
 ·have e3:b5O s.1 s n=false:=by simp[b5O,h3]
  have:¬ a1D s n:=fun hp=>h3 hp.2.2.1
  simp only[e1,e2,b7W h,e3,cT,cF,a30,oB,this,decide_false]
 have e3:b5O s.1 s n=true:=by simp[b5O,h3]
 by_cases h4:b7X s
 rotate_left
 ·have e4:b7Y s=false:=by simp[b7Y,h4]
  have:¬ a1D s n:=fun hp=>h4 hp.2.2.2.1
  simp only[e1,e2,b7W h,e3,c8v h,e4,cT,cF,a30,bT,oB,this,decide_false]
 have e4:b7Y s=true:=by simp[b7Y,h4]
 simp only[e1,e2,b7W h,e3,c8v h,e4,cF,bT,oB]
 by_cases h5:0≤s.2.1
 rotate_left
 ·have e5:decide (s.2.1<0)=true:=by simp;omega
  have:¬ a1D s n:=fun hp=>h5 hp.2.2.2.2.1
  simp only[e5,cT,oB,this,decide_false]
 have e5:decide (s.2.1<0)=false:=by simp;omega
 by_cases h6:s.2.1≤30
 rotate_left
 ·have e6:decide (s.2.1 > 30)=true:=by simp;omega
  have:¬ a1D s n:=fun hp=>h6 hp.2.2.2.2.2.1
  simp only[e5,e6,cT,cF,oB,this,decide_false]
 have e6:decide (s.2.1 > 30)=false:=by simp;omega
 simp only[e5,e6,cF]
 by_cases h7:s.1=0→s.2.1=0
 rotate_left
 ·have h7a:s.1=0:=Classical.byContradiction fun hc=>h7 fun e=>absurd e hc
  have h7b:(s.2.1 != 0)=true:=by
   simp only[bne_iff_ne,ne_eq];intro e;exact h7 fun _=>e
  have e7:(s.1==0)=true:=by simp[h7a]
  have:¬ a1D s n:=fun hp=>h7 hp.2.2.2.2.2.2.1
  simp only[e7,h7b,cT,oB,this,decide_false]
 have e7:(bif s.1==0 then some (n,(s.2.1 != 0,(s,())))else some (n,(false,(s,()))))=some (n,(false,(s,()))):=by
  by_cases k0:s.1=0
  ·simp[k0,h7 k0]
  ·have:(s.1==0)=false:=by simp[k0]
   rw[this];rfl
 simp only[e7,oB,cF,b3W]
 by_cases h8:(s.2.2.2.2.2.2.2.2.1.length:Int)=a2P s n
 rotate_left
 ·have e8:(((s.2.2.2.2.2.2.2.2.1.length:Nat):Int) != a2P s n)=true:=by simp only[bne_iff_ne,ne_eq];exact h8
  have:¬ a1D s n:=fun hp=>h8 hp.2.2.2.2.2.2.2.1
  simp only[e8,cT,oB,this,decide_false]
 have e8:(((s.2.2.2.2.2.2.2.2.1.length:Nat):Int) != a2P s n)=false:=by rw[h8];simp
 simp only[e8,cF,a5v hw,a5v hr,oB]
 cases h9:s.2.2.2.2.2.2.2.2.1.all a0b with
 |false=>
  have:¬ a1D s n:=fun hp=>by rw[hp.2.2.2.2.2.2.2.2.1]at h9;cases h9
  simp only[a30,cT,oB,this,decide_false]
 |true=>
  cases h10:s.2.2.2.2.2.2.2.2.2.2.1.all a0b with
  |false=>
   have:¬ a1D s n:=fun hp=>by rw[hp.2.2.2.2.2.2.2.2.2.1]at h10;cases h10
   simp only[a30,bT,cT,cF,oB,this,decide_false]
  |true=>
   simp only[bT,cF,oB,a7y]
   have hwr:=c9O h h1 h2 h3
   by_cases k01:s.1≠0∧s.1≠1
   ·have e11:wrap .i64 (n-a2P s n)=n-a2P s n:=a0g (by omega)
    simp only[k01,ne_eq,not_false_eq_true,and_self,decide_true,bT,cF,e11,b5M hk,oB]
    by_cases h11:(s.2.2.2.2.2.2.2.2.2.2.1.length:Int)=n-a2P s n
    ·have e12:(((s.2.2.2.2.2.2.2.2.2.2.1.length:Nat):Int)==n-a2P s n)=true:=by simp[h11]
     simp only[e12,cT]
     congr 1
     rw[a53,dT]
     constructor
     ·intro hp
      exact⟨h1,h2,h3,h4,h5,h6,h7,h8,h9,h10,fun hc=>absurd hc (by omega),fun _=>⟨h11,hp⟩⟩
     ·intro hp;exact(hp.2.2.2.2.2.2.2.2.2.2.2 k01).2
    ·have e12:(((s.2.2.2.2.2.2.2.2.2.2.1.length:Nat):Int)==n-a2P s n)=false:=by simp only[beq_eq_false_iff_ne,ne_eq];exact h11
     have:¬ a1D s n:=fun hp=>h11 (hp.2.2.2.2.2.2.2.2.2.2.2 k01).1
     simp only[e12,cF,this,decide_false]
   ·have k01':s.1=0∨s.1=1:=by omega
    simp only[k01,decide_false,a30,cT,c5j]
    simp only[c5k,b2N]
    congr 1
    rw[a53,dT]
    simp only[bA,dT]
    constructor
    ·rintro⟨g1,g2,g3⟩
     exact⟨h1,h2,h3,h4,h5,h6,h7,h8,h9,h10,fun _=>⟨g1,g2,g3⟩,fun hc=>absurd hc k01⟩
    ·intro hp;exact hp.2.2.2.2.2.2.2.2.2.2.1 k01'
end Go.Ab
namespace Go.Ab
theorem c3Q{α:Type}[DecidableEq α](q:α→α→Bool)(hq:∀a b,q a b=decide (a=b)):∀(x y:List α),x.length=y.length→((x.zip y).all fun p=>q p.1 p.2)=decide (x=y)
 | [],[],_=>by simp
 |a::x,b::y,h=>by
  have ih:=c3Q q hq x y (by simpa using h);simp only[List.zip_cons_cons,a40];rw[ih,hq]
  by_cases h1:a=b<;>by_cases h2:x=y<;>simp[h1,h2]
theorem c9P{x y:List Int}(h:short x):a3P (x,y)=some (decide (x=y)):=by
 unfold a3P
 by_cases hl:x.length=y.length
 have e:(((x.length:Nat):Int) != ((y.length:Nat):Int))=false:=by rw[hl];simp
 have hz:(x.zip y).length=x.length:=by rw[List.length_zip];omega
 have:=a1K (f:=a5D) (x.zip y) (fun i=>(x,y,(i:Int),())) (fun p=>p.1==p.2) (bt:=Sum.inl ()) (bf:=Sum.inr (false,()))
  (fun i hi hp=>by
   have h1:i<x.length:=by omega
   have h2:i<y.length:=by omega
   rw[a51]at hp;have hp:x[i]=y[i]:=by simpa using hp
   have hne:(x[i] != y[i])=false:=by rw[hp];simp
   simp only[a5D,dlt h1,cT,a0c h1,a0c h2,oB,hne,cF,a0d (a23 h1 h)])
  (fun i hi hp=>by
   have h1:i<x.length:=by omega
   have h2:i<y.length:=by omega
   rw[a51]at hp;have hne:(x[i] != y[i])=true:=by simpa using hp
   simp only[a5D,dlt h1,cT,a0c h1,a0c h2,oB,hne])
  (by rw[hz];simp[a5D])
 simp only[nZ]at this;simp only[e,cF,this,c3Q (fun(a b:Int)=>a==b) (fun _ _=>rfl) x y hl];cases decide (x=y)<;>rfl;have e:(((x.length:Nat):Int) != ((y.length:Nat):Int))=true:=by simp only[bne_iff_ne,ne_eq];omega
 have:¬ x=y:=fun hc=>hl (by rw[hc])
 simp only[e,cT,this,decide_false]
theorem d3z{k:Int}{s:Sub}{n:Int}(h:a4N k s n):k=0∨k=1∨k=2∨k=3∨k=4∨k=5:=by
 unfold a4N at h;omega
end Go.Ab
namespace Go.Ab
def c2G(warm rest:List Int)(o:Int):Option (List Int):=bif warm.all a0b&&rest.all a0b then a5c (a5H o.toNat) rest warm else none
def backP(s:Sub):Option (List Int):=
 if s.1=1 then some s.2.2.2.2.2.2.2.2.1
 else if s.1=2 then c2G s.2.2.2.2.2.2.2.2.1 s.2.2.2.2.2.2.2.2.2.2.1 s.2.2.1
 else if s.1=3 then b5I s.2.2.2.2.2.2.2.2.1 s.2.2.2.2.2.2.2.2.2.2.1 s.2.2.2.2.2.1 s.2.2.2.1
 else if s.1=4 then(b5I s.2.2.2.2.2.2.2.2.1 s.2.2.2.2.2.2.2.2.2.2.1 s.2.2.2.2.2.1 s.2.2.2.1).bind fun l=>b6x l s.2.2.2.2.1 s.2.2.2.2.2.2.1
 else b3V s.2.2.2.2.2.2.2.2.2.2.1 s.2.2.2.2.2.2.2.1
def c8w(s:Sub)(n:Int):Option (List Int):=
 if s.1=0 then some (a00 n.toNat (s.2.2.2.2.2.2.2.2.1.getD 0 0))else(backP s).bind (upO s.2.1)
theorem b7k{w r c:List Int}{s:Int}{l}(h:b5I w r c s=some l):l.length=w.length+r.length:=by
 unfold b5I at h;cases hc:(w.all a0b&&r.all a0b)with
 |false=>simp_all
 |true=>
  rw[hc]at h;exact(b4K _ r w l (a46.1 hc).1 h).2
theorem c9Q{w r:List Int}{o:Int}{l}(h:c2G w r o=some l):l.length=w.length+r.length:=by
 unfold c2G at h;cases hc:(w.all a0b&&r.all a0b)with
 |false=>simp_all
 |true=>
  rw[hc]at h;exact(b4K _ r w l (a46.1 hc).1 h).2
theorem c8x{r t:List Int}{lag:Int}{l}(h:b6x r lag t=some l):l.length=r.length:=by
 unfold b6x at h;cases hc:r.all a0b with
 |false=>simp_all
 |true=>
  rw[hc]at h
  have:=(b4K _ r [] l rfl h).2
  simp_all
theorem c6d:∀(st:List Stg)(r:List Int){l},lO st r=some l→l.length=r.length
 | [],r,l,h=>by simp_all[lO]
 |s::st,r,l,h=>by
  simp only[lO]at h
  split at h
  rename_i r' hr;rw[c6d st r' h,b8I _ _ _ hr];simp;cases h
theorem c6S{r:List Int}{st:List Stg}{l}(h:b3V r st=some l):l.length=r.length:=by
 grind[b3V,c6d]
theorem c8y{s:Sub}(h:SmallS s){l}(hl:backP s=some l):l.length<100000:=by
 have hw:=h.warm;have hr:=h.rest;unfold backP at hl
 split at hl
 grind
 split at hl
 grind[c9Q]
 split at hl
 grind[b7k]
 split at hl
 obtain⟨l1,h1,h2⟩:=Option.bind_eq_some_iff.1 hl;rw[c8x h2,b7k h1];omega
 grind[c6S]
theorem d3A{s:Sub}{n:Int}(h1:1≤n)(h2:n≤4096)(hw:s.2.2.2.2.2.2.2.2.1.length=1):
  a0h a8e (n,(0:Int),([]:List Int),s,())=some (a00 n.toNat (s.2.2.2.2.2.2.2.2.1.getD 0 0),()):=by
 obtain⟨N,rfl⟩:=a20 (show 0≤n by omega);have hg:a0q s.2.2.2.2.2.2.2.2.1 (0:Int)=some (s.2.2.2.2.2.2.2.2.1.getD 0 0):=c8o (by omega) (by omega)
 have:=a3C (f:=a8e) (fun i=>((N:Int),(i:Int),a00 i (s.2.2.2.2.2.2.2.2.1.getD 0 0),s,())) N
  (b:=(a00 N (s.2.2.2.2.2.2.2.2.1.getD 0 0),())) (fun i hi=>by
   have hlim:lim ((a00 i (s.2.2.2.2.2.2.2.2.1.getD 0 0)).length+1)=true:=a0H (by grind);have ea:a00 i (s.2.2.2.2.2.2.2.2.1.getD 0 0)++[s.2.2.2.2.2.2.2.2.1.getD 0 0]=a00 (i+1) (s.2.2.2.2.2.2.2.2.1.getD 0 0):=by grind[a36]
   simp only[a8e,dlt hi,cT,hg,oB,hlim,a38,ea,a0d (show i<1000000 by omega)])
  (by simp[a8e])
 simp_all
theorem c9R{s:Sub}(h:SmallS s){n:Int}(hp:a1D s n):b4B (s,n)=some (a5T (c8w s n)):=by
 have hbl:=fun l (hl:backP s=some l)=>c8y h hl;obtain⟨h1,h2,hf,-,hw0,hw30,-,hlen,hw,hr,-⟩:=hp;have hsr:=h.rest;have hsw:=h.warm;have ht:=h.taps;have hfl:=d3A (s:=s) h1 h2;obtain⟨k,w,o,sh,lag,c,t,st,wm,p,r,u⟩:=s;simp only at *;have up:∀l,l.length<100000→b0p (l,w)=some (a5T (upO w l)):=fun l hl=>c8q hw0 hw30 hl;unfold b4B c8w;rcases hf with k0|k0|⟨k0,g1,g2,g3⟩|⟨k0,g1,g2⟩|⟨k0,g1,g2,g3⟩|⟨k0,g1,g2⟩
 grind[a2P,a5T]
 simp_all[backP]
 ·subst k0;obtain⟨O,rfl⟩:=a20 g1;have g2:(O:Int)≤4:=g2;simp only[a2P]at hlen;have hO:wm.length=O:=by grind
  have h5:=c6P (warm:=wm) (rest:=r) (o:=O) (by omega) hO (by omega);simp only[backP]at hbl⊢;simp[h5];have e:(bif wm.all a0b&&r.all a0b then a5c (a5H O) r wm else none)=c2G wm r (O:Int):=rfl;rw[e];cases hl:c2G wm r (O:Int)with
  |none=>rfl
  |some l=>simp_all[a5T]
 ·subst k0;simp only[a2P]at hlen;have hO:wm.length=c.length:=by grind
  have h5:=b7U (rest:=r) g1 hO (by omega);simp only[backP]at hbl⊢;simp[h5];cases hl:b5I wm r c sh with
  |none=>rfl
  |some l=>simp_all[a5T]
 ·subst k0;simp only[a2P]at hlen;have hO:wm.length=c.length:=by grind
  have h5:=b7U (rest:=r) g1 hO (by omega);simp only[backP]at hbl⊢;simp[h5];cases hl:b5I wm r c sh with
  |none=>rfl
  |some l=>
   have hll:=b7k hl;have h6:=c8p (rest:=l) g3 ht (by omega);simp[a5T,h6]
   grind[a5T]
 ·subst k0;have h5:=c6R (rest:=r) g2 (by omega);simp only[backP]at hbl⊢;simp[h5];cases hl:b3V r st with
  |none=>rfl
  |some l=>simp_all[a5T]
open Classical in
def a2M (s:Sub) (n:Int):Option (List Int):=if a1D s n then c8w s n else none
theorem c3R{s:Sub}(h:SmallS s)(n:Int):b3O (s,n)=some (match a2M s n with|some r=>(r,0)|none=>([],1)):=by
 unfold b3O a2M;simp only[d3y h,oB]
 by_cases hp:a1D s n
 simp[hp,c9R h hp]
 grind[a5T]
 simp_all
theorem c3S{s:Sub}(h:SmallS s)(n:Int):b1p (s,n)=some (a2M s n).isSome:=by
 unfold b1p;simp only[c3R h,oB];cases a2M s n<;>rfl
end Go.Ab
namespace Go.Ab
open IntKind(wrap)
@[reducible] def Wr:Type:=(List Int)×(Int×Unit)
def c5l(w:Wr)(b:Int):Wr:=
 let bs:=if w.2.1%8=0 then w.1++[0]else w.1
 (bs.set (w.2.1 / 8).toNat (bits .u8 .or (bs.getD (w.2.1 / 8).toNat 0) (a0A .u8 b (7-w.2.1%8))),w.2.1+1,())
def wL(L:List Int):Wr:=L.foldl c5l ([],0,())
theorem c5m(L:List Int)(b:Int):wL (L++[b])=c5l (wL L) b:=by simp[wL]
theorem c3T:∀(n:Nat)(L:List Int),L.length=n→(wL L).2.1=L.length∧(wL L).1.length=(L.length+7) / 8
 |0,L,h=>by
  rw[List.length_eq_zero_iff.1 h];exact⟨rfl,rfl⟩
 |n+1,L,h=>by
  obtain⟨L',b,rfl⟩:∃L' b,L=L'++[b]:=by
   rcases List.eq_nil_or_concat L with rfl|⟨L',b,e⟩;simp at h;exact⟨L',b,by rw[e,List.concat_eq_append]⟩
  obtain⟨h1,h2⟩:=c3T n L' (by simpa using h);rw[c5m];simp only[c5l,List.length_set,lN,List.length_singleton,h1];refine⟨by omega,?_⟩
  by_cases h:(L'.length:Int)%8=0
  rw[if_pos h];simp;omega;rw[if_neg h];omega
theorem a6K(L:List Int):(wL L).2.1=L.length∧(wL L).1.length=(L.length+7) / 8:=c3T _ L rfl
theorem c3U{L:List Int}(hL:L.length<1000000000)(b:Int):a2F (wL L,b)=some (wL (L++[b])):=by
 obtain⟨h1,h2⟩:=a6K L;have ht:a22 ((L.length:Nat):Int) 8=((L.length:Nat):Int)%8:=Int.tmod_eq_emod_of_nonneg (by omega);have hd:a17 ((L.length:Nat):Int) 8=((L.length:Nat):Int) / 8:=Int.tdiv_eq_ediv_of_nonneg (by omega);have e1:wrap .i64 (((L.length:Nat):Int) / 8)=((L.length:Nat):Int) / 8:=a0g (by omega);have e2:wrap .i64 (7-((L.length:Nat):Int)%8)=7-((L.length:Nat):Int)%8:=a0g (by omega);have e3:wrap .i64 (((L.length:Nat):Int)+1)=((L.length:Nat):Int)+1:=a0g (by omega);have g0:decide ((0:Int)≤((L.length:Nat):Int) / 8)=true:=by simp;omega
 have g1:decide (7-((L.length:Nat):Int)%8<0)=false:=by simp;omega
 rw[c5m];generalize wL L=wr at h1 h2⊢;obtain⟨bs,n,u⟩:=wr;have h1:n=((L.length:Nat):Int):=h1;have h2:bs.length=(L.length+7) / 8:=h2;subst h1;unfold a2F c5l
 by_cases h:((L.length:Nat):Int)%8=0
 have hb:(((L.length:Nat):Int)%8==0)=true:=by simp[h]
 have hl:lim (bs.length+1)=true:=a1t (by omega);have hlt:decide (((L.length:Nat):Int) / 8<(((bs++[0]).length:Nat):Int))=true:=by simp;omega
 simp only[hb,cT,hl,oB,hd,e1,e2,e3,ht,g0,g1,a38,hlt,a08,cF,if_pos h];have hb:(((L.length:Nat):Int)%8==0)=false:=by simp only[beq_eq_false_iff_ne,ne_eq];exact h
 have hlt:decide (((L.length:Nat):Int) / 8<((bs.length:Nat):Int))=true:=by simp;omega
 simp only[hb,cF,oB,hd,e1,e2,e3,ht,g0,g1,hlt,a08,cT,if_neg h]
def a7Q(v:Int)(i:Nat):Int:=wrap .u8 (bits .u64 .and (a0D .u64 v (i:Int)) 1)
def pb(v:Int):Nat→List Int
 |0=>[]
 |i+1=>a7Q v i::pb v i
theorem b6A(v:Int):∀n,(pb v n).length=n
 |0=>rfl
 |n+1=>by simp[pb,b6A v n]
def a0x(v:Int)(n:Nat)(L:List Int):List Int:=bif a0D .u64 v (n:Int) != 0 then L else L++pb v n
theorem a0J(v:Int)(n:Nat)(L:List Int):L.length≤(a0x v n L).length∧(a0x v n L).length≤L.length+n:=by
 unfold a0x;cases (a0D .u64 v (n:Int) != 0)<;>simp[b6A]
def a9t(v:Int)(n:Nat):Int:=bif a0D .u64 v (n:Int) != 0 then 1 else 0
theorem c8z{v:Int}:∀(n:Nat)(L:List Int),L.length+n<1000000000→a0h a5a (v,(n:Int)-1,wL L,())=some (wL (L++pb v n),())
 |0,L,_=>by rw[a0o (b:=(wL L,())) (by simp[a5a])];simp[pb]
 |n+1,L,h=>by
  have e:((n+1:Nat):Int)-1=(n:Int):=by omega
  have e1:wrap .i64 ((n:Int)-1)=(n:Int)-1:=a0g (by omega);have h1:decide ((n:Int)≥0)=true:=by simp
  have h2:decide ((n:Int)<0)=false:=by simp
  rw[e,a0p (s':=(v,(n:Int)-1,wL (L++[a7Q v n]),())) (by
   simp only[a5a,h1,h2,cT,cF,show wrap .u8 (bits .u64 .and (a0D .u64 v (n:Int)) 1)=a7Q v n from rfl,c3U (show L.length<1000000000 by omega),oB,e1])]
  rw[c8z n (L++[a7Q v n]) (by simp;omega),pb]
  simp
theorem a4b{L:List Int}{v:Int}{n:Nat}(hn:n≤63)(hL:L.length<999999000):a0m (wL L,v,(n:Int))=some (a9t v n,wL (a0x v n L)):=by
 unfold a0m a9t a0x;have h1:decide ((n:Int)<0)=false:=by simp
 have h2:decide ((n:Int) > 64)=false:=by simp;omega
 have e1:wrap .i64 ((n:Int)-1)=(n:Int)-1:=a0g (by omega);simp only[h1,h2,cF,oB];cases (a0D .u64 v (n:Int) != 0)with
 |true=>rfl
 |false=>simp only[cF,e1,c8z n L (by omega),oB]
def unL(n:Nat)(L:List Int):List Int:=L++a00 n 0++[1]
theorem c8A{L:List Int}{n:Nat}(hn:n≤4096)(hL:L.length<999990000):a2U (wL L,(n:Int))=some (0,wL (unL n L)):=by
 unfold a2U unL;have h1:decide ((n:Int)<0)=false:=by simp
 have h2:decide ((n:Int) > 4096)=false:=by simp;omega
 simp only[h1,h2,cF,oB]
 have:=a3C (f:=a4n) (fun i=>((n:Int),(i:Int),wL (L++a00 i 0),())) n (b:=(wL (L++a00 n 0),())) (fun i hi=>by
   have ea:L++a00 i (0:Int)++[0]=L++a00 (i+1) 0:=by rw[aA,←a36]
   simp only[a4n,dlt hi,cT,c3U (show(L++a00 i (0:Int)).length<1000000000 by simp;omega),oB,ea,a0d (show i<1000000 by omega)])
  (by simp[a4n])
 simp only[nZ,List.replicate_zero,a52]at this;simp only[this,oB,c3U (show(L++a00 n (0:Int)).length<1000000000 by simp;omega)]
theorem b2h(n:Nat)(L:List Int):(unL n L).length=L.length+n+1:=by simp[unL];omega
def a0G(x:Int)(n:Nat):Int:=bits .u64 .and (wrap .u64 x) (wrap .u64 ((a0A .u64 1 (n:Int))-1))
def a1O(n:Nat)(l:List Int)(L:List Int):List Int:=l.foldl (fun L x=>a0x (a0G x n) n L) L
theorem a7s(n:Nat):∀(l L:List Int),L.length≤(a1O n l L).length∧(a1O n l L).length≤L.length+n*l.length
 | [],L=>by simp[a1O]
 |x::l,L=>by
  have h1:=a0J (a0G x n) n L;have h2:=a7s n l (a0x (a0G x n) n L);have e:a1O n (x::l) L=a1O n l (a0x (a0G x n) n L):=rfl;rw[e,lC,Nat.mul_add,Nat.mul_one];omega
theorem b5P{L:List Int}{x:Int}{n:Nat}(hn:n≤63)(hL:L.length<999999000):a3x (wL L,x,(n:Int))=some (wL (a0x (a0G x n) n L)):=by
 unfold a3x;have h1:decide ((n:Int)<0)=false:=by simp
 simp only[h1,cF,show bits .u64 .and (wrap .u64 x) (wrap .u64 ((a0A .u64 1 (n:Int))-1))=a0G x n from rfl,a4b hn hL,oB]
end Go.Ab
