/- Part of the proof: F, It, PA, QA, QB, QC, QD, QE, QF, QG, QH, QI, QJ, QL, S. Conditions: as each statement tells. -/
import Derived.RangeFuncBound
import Derived.RangeFuncCalls
import Derived.RangeFuncBox
import Derived.WalkKit
import Derived.OwnWalkIn
import Derived.TacticsInMore
import Derived.LoopNIn
import Derived.LoopIn
import Derived.Test.YtimgpmdfgkgobaaGreatDoorProg
import Derived.KernelRfl
import Derived.Test.YtimgpmdfgkgobaaGreatDoorME
noncomputable section
set_option linter.unusedSimpArgs false
set_option linter.unusedVariables false
open Array renaming replicate_succ→a19,replicate_zero→a20
open Bool renaming and_self→a08,true_and→a17,not_false→a18,and_eq_false_iff→a37,eq_iff_iff→a49,and_eq_true_iff→a54,or_eq_true→a65,false_and→a67
open Int renaming toNat→a01,tdiv→a21,eq_ofNat_of_zero_le→a23,tmod→a26,add_bmod_bmod→a43,sub_bmod_bmod→a44,bmod_sub_bmod→a45,bmod_add_bmod→a58,one_mul→a61,natCast_pow→a64
open List renaming replicate→a00,length→a02,getD→a03,append→a04,set→a05,drop_eq_getElem_cons→a06,take→a07,nil_append→a09,cons_append→a16,append_toArray→a24,zipWith→a25,size_toArray→a27,push_toArray→a28,length_nil→a29,drop→a30,length_replicate→a31,drop_zero→a32,drop_length→a33,getElem_zip→a38,getElem?_append_right→a41,all_cons→a42,length_take→a46,drop_eq_nil_of_le→a47,set_append_right→a50,append_eq→a51,getElem_zipWith→a52,replicate_succ'→a53,set_cons_zero→a55,getElem?_drop→a56,take_add_one→a59,take_length→a60,getElem_mem→a62,append_nil→a63,length_zip→a66
open Nat renaming lt_trans→a22,reduceAdd→a34,reduceSub→a35,sub_self→a39,le_refl→a40,min_eq_left→a48,add_zero→a57
open Option renaming getD_some→a36
namespace Go.Ab
open Go.Proofs Go.RowKit
attribute [local go_sem] Oper.semAt_some
set_option maxHeartbeats 1000000 in
theorem d5e:c7c Tryz.prog 260 295:=by
 refine⟨⟨_,_,Tryz.func260,rfl,by kernel_rfl⟩,fun A len cap w=>(callsIn_wide (n:=3)).1 ?_⟩
 refine callsIn_of_wp Tryz.func260 rfl trivial ?_
 simp only[Tryz.ntmps260,a27,lC,a29,a34,a35,a19,a20,a28,a24,a09,a16]
 gi_wp2
 go_ret
 exact⟨rfl,_,rfl⟩
@[reducible] def b4E:Ty:=.pair (.int .i64) (.pair (.int .i64) .unit)
set_option maxRecDepth 100000 in
set_option maxHeartbeats 2000000 in
theorem d3n (l Bs b off len cap:Nat) (p q:Nat→Int) (J:Nat→World→Prop) (Jx:World→Prop) (W:World)
  (hJ:∀k W',J k W'→W'.cell? ⟨Bs,0,none⟩=some (.slice (some ⟨b,off,none⟩) len cap))
  (hlen:len<2147483648)
  (hcs:∀k W',k<len→J (k+1) W'→W'.cell? ⟨b,off+k*2,none⟩=some (.int .i64 (p k))∧W'.cell? ⟨b,off+k*2+1,none⟩=some (.int .i64 (q k)))
  (hY:∀n W',n<len→J (n+1) W'→YieldAt (Fr none) 0 Tryz.prog l #[.int .i64 (n:Int),.agg #[.int .i64 (p n),.int .i64 (q n)]] W' fun en W''=>(en=.returned (.bool true)∧J n W'')∨(en=.returned (.bool false)∧Jx W''))
  (h0:J len W):
  CallsIn (Fr none) 0 Tryz.prog 295 #[.func (.yield l) #[] #[],.pointer (some ⟨Bs,0,none⟩)] W fun en W'=>(∃v,en=.returned v)∧(J 0 W'∨Jx W'):=by
 refine callsIn_of_wp Tryz.func295 rfl trivial ?_
 simp only[Tryz.ntmps295,a27,lC,a29,a34,a35,a19,a20,a28,a24,a09,a16]
 have hBs:=hJ _ _ h0
 gi_wp2
 gi_loopw [3] (fun i wr=>∃k:Nat,k≤len∧i=.int .i64 ((k:Int)-1)∧J k wr) (fun i _=>(intOf i+1).toNat)
 case atStart=>exact⟨len,a40 _,rfl,h0⟩
 case round=>
  obtain⟨k,hk,rfl,hJs⟩:=hrel
  cases k with
  |succ n=>
   obtain⟨fn,tmps,assign,body,hy,hR⟩:=hY n wr (by omega) hJs
   have hcx:=hJ _ _ hJs
   obtain⟨hc0,hc1⟩:=hcs n wr (by omega) hJs
   gi_wp2
   refine hR.mono ?_
   rintro e W3 (⟨rfl,hJ3⟩|⟨rfl,hJx3⟩)
   ·gi_wp2
    go_roundw
    case rel=>exact⟨n,by omega,by simp,hJ3⟩
    case measure=>simp[intOf]
   ·gi_wp2
    refine bodyPost_ret (results_none rfl _ _ _) rfl ?_
    exact⟨⟨_,rfl⟩,.inr hJx3⟩
  |zero=>
   gi_wp2
   go_end0
   exact⟨⟨_,rfl⟩,.inl hJs⟩
set_option maxRecDepth 100000 in
set_option maxHeartbeats 2000000 in
theorem d1X (l Bs:Nat) (A:Option Addr) (c:Nat) (J:Nat→World→Prop) (W:World) (hBs:W.cell? ⟨Bs,0,none⟩=some (.slice A 0 c)) (h0:J 0 W):
  CallsIn (Fr none) 0 Tryz.prog 295 #[.func (.yield l) #[] #[],.pointer (some ⟨Bs,0,none⟩)] W fun en W'=>(∃v,en=.returned v)∧J 0 W':=by
 refine callsIn_of_wp Tryz.func295 rfl trivial ?_
 simp only[Tryz.ntmps295,a27,lC,a29,a34,a35,a19,a20,a28,a24,a09,a16]
 gi_wp2
 gi_loopw [3] (fun i wr=>i=.int .i64 (-1)∧J 0 wr) (fun _ _=>0)
 case atStart=>exact⟨rfl,h0⟩
 case round=>
  obtain⟨rfl,hJs⟩:=hrel
  gi_wp2
  go_end0
  exact⟨⟨_,rfl⟩,hJs⟩
theorem c5i{m:Mem}{Sh:Nat→Prop}{b o:Nat}{x:b4E.den}{R}(h:dec m b4E ((Src.at b o).rd m)=some (x,[],R)):
  m b o=some (.int .i64 x.1)∧m b (o+1)=some (.int .i64 x.2.1)∧VOk m Sh b4E x (.agg #[.int .i64 x.1,.int .i64 x.2.1]):=by
 obtain⟨p,q,u⟩:=x;simp only[b4E,dec,Src.rd,Ty.cells,a57]at h
 split at h
 cases h;rename_i x1 o1 r1 h1
 split at h1
 rename_i n hn
 split at h1
 rename_i e;subst e;simp only[sj]at h1;obtain⟨rfl,rfl,rfl⟩:=h1
 split at h
 cases h;rename_i x2 o2 r2 h2
 split at h2
 cases h2;rename_i x3 o3 r3 h3
 split at h3
 rename_i n' hn'
 split at h3
 rename_i e;subst e;simp only[sj]at h3 h2 h;obtain⟨rfl,rfl,rfl⟩:=h3;obtain⟨rfl,rfl,rfl⟩:=h2;obtain⟨⟨rfl,rfl,rfl⟩,-,-⟩:=h;exact⟨hn,hn',fun _=>⟨_,rfl,rfl⟩,fun h=>(by cases h),[],rfl,by simp⟩;cases h3;cases h3;cases h1;cases h1
theorem b8m {P:Program} {f:FuncId} (hb:b0O P f) (args:Array Value) (w:World):(callFunc f args).run P w=.ok (.enter f args) w:=by
 obtain ⟨fn,c',h1,h2,h3⟩:=hb;have h4 : ¬ fn.name = "runtime.NumGoroutine" := by simpa using h3
 simp [callFunc,program,Sem.run,h1,h2,h4,Result.andThen]
theorem d5f:c2N Tryz.prog 295 b4E:=by
 refine⟨fun args w=>b8m ⟨_,_,Tryz.func295,rfl,by kernel_rfl⟩ args w,fun l Bs sv xs J Jx W hlen hJ hY h0=>?_⟩;obtain⟨hc,Sh,hsv⟩:=hJ _ _ h0;obtain⟨A,n,c,rfl,rfl,hnc,hsp,hnil⟩:=hsv.header
 by_cases hx0:xs.length=0
 rw[hx0]at h0 hc;exact(d1X l Bs A c J W hc h0).mono fun e W' h=>⟨h.1,.inl h.2⟩;cases A with
 |none=>have:=hnil rfl;omega
 |some A=>
  obtain⟨b,off,spot⟩:=A
  have:=(hsp _ rfl).resolve_left (by omega)
  simp only at this;subst this;have hel:∀k W',k<xs.length→J (k+1) W'→∃x,xs[k]?=some x∧W'.cell? ⟨b,off+k*2,none⟩=some (.int .i64 x.1)∧W'.cell? ⟨b,off+k*2+1,none⟩=some (.int .i64 x.2.1):=by
   intro k W' hk hj;obtain⟨-,Sh',hv⟩:=hJ _ _ hj;obtain⟨A',n',c',R,e,h1,h2,h3,h4,h5,h6⟩:=hv.elem rfl (lG hk);simp only[Value.slice.injEq,sj]at e;obtain⟨rfl,rfl,rfl⟩:=e;obtain⟨g1,g2,-⟩:=c5i (Sh:=Sh') h4;exact⟨_,lG hk,g1,g2⟩
  refine d3n l Bs b off xs.length c (fun k=>((xs[k]?).getD b4E.dflt).1) (fun k=>((xs[k]?).getD b4E.dflt).2.1) J Jx W (fun k W' hj=>(hJ k W' hj).1) hlen (fun k W' hk hj=>?_) (fun n W' hn hj=>?_) h0;obtain⟨x,hx,g1,g2⟩:=hel k W' hk hj;simp only[hx,a36];exact⟨g1,g2⟩;have hx:xs[n]?=some xs[n]:=lG hn;simp only[hx,a36];refine hY n _ _ W' hx hj fun Sh' hv=>?_
  obtain⟨A',n',c',R,e,h1,h2,h3,h4,h5,h6⟩:=hv.elem rfl hx;exact(c5i (Sh:=Sh') h4).2.2
set_option maxHeartbeats 1000000 in
theorem d5g:c7c Tryz.prog 107 196:=by
 refine⟨⟨_,_,Tryz.func107,rfl,by kernel_rfl⟩,fun A len cap w=>(callsIn_wide (n:=3)).1 ?_⟩
 refine callsIn_of_wp Tryz.func107 rfl trivial ?_
 simp only[Tryz.ntmps107,a27,lC,a29,a34,a35,a19,a20,a28,a24,a09,a16]
 gi_wp2
 go_ret
 exact⟨rfl,_,rfl⟩
@[reducible] def b7K:Ty:=.pair (.int .i64) (.pair (.int .i64) (.pair (.int .i64) .unit))
set_option maxRecDepth 100000 in
set_option maxHeartbeats 2000000 in
theorem d3o (l Bs b off len cap:Nat) (p q r:Nat→Int) (J:Nat→World→Prop) (Jx:World→Prop) (W:World)
  (hJ:∀k W',J k W'→W'.cell? ⟨Bs,0,none⟩=some (.slice (some ⟨b,off,none⟩) len cap))
  (hlen:len<2147483648)
  (hcs:∀k W',k<len→J (k+1) W'→W'.cell? ⟨b,off+k*3,none⟩=some (.int .i64 (p k))∧W'.cell? ⟨b,off+k*3+1,none⟩=some (.int .i64 (q k))∧W'.cell? ⟨b,off+k*3+2,none⟩=some (.int .i64 (r k)))
  (hY:∀n W',n<len→J (n+1) W'→YieldAt (Fr none) 0 Tryz.prog l #[.int .i64 (n:Int),.agg #[.int .i64 (p n),.int .i64 (q n),.int .i64 (r n)]] W' fun en W''=>(en=.returned (.bool true)∧J n W'')∨(en=.returned (.bool false)∧Jx W''))
  (h0:J len W):
  CallsIn (Fr none) 0 Tryz.prog 196 #[.func (.yield l) #[] #[],.pointer (some ⟨Bs,0,none⟩)] W fun en W'=>(∃v,en=.returned v)∧(J 0 W'∨Jx W'):=by
 refine callsIn_of_wp Tryz.func196 rfl trivial ?_
 simp only[Tryz.ntmps196,a27,lC,a29,a34,a35,a19,a20,a28,a24,a09,a16]
 have hBs:=hJ _ _ h0
 gi_wp2
 gi_loopw [3] (fun i wr=>∃k:Nat,k≤len∧i=.int .i64 ((k:Int)-1)∧J k wr) (fun i _=>(intOf i+1).toNat)
 case atStart=>exact⟨len,a40 _,rfl,h0⟩
 case round=>
  obtain⟨k,hk,rfl,hJs⟩:=hrel
  cases k with
  |succ n=>
   obtain⟨fn,tmps,assign,body,hy,hR⟩:=hY n wr (by omega) hJs
   have hcx:=hJ _ _ hJs
   obtain⟨hc0,hc1,hc2⟩:=hcs n wr (by omega) hJs
   gi_wp2
   refine hR.mono ?_
   rintro e W3 (⟨rfl,hJ3⟩|⟨rfl,hJx3⟩)
   ·gi_wp2
    go_roundw
    case rel=>exact⟨n,by omega,by simp,hJ3⟩
    case measure=>simp[intOf]
   ·gi_wp2
    refine bodyPost_ret (results_none rfl _ _ _) rfl ?_
    exact⟨⟨_,rfl⟩,.inr hJx3⟩
  |zero=>
   gi_wp2
   go_end0
   exact⟨⟨_,rfl⟩,.inl hJs⟩
set_option maxRecDepth 100000 in
set_option maxHeartbeats 2000000 in
theorem d1Y (l Bs:Nat) (A:Option Addr) (c:Nat) (J:Nat→World→Prop) (W:World) (hBs:W.cell? ⟨Bs,0,none⟩=some (.slice A 0 c)) (h0:J 0 W):
  CallsIn (Fr none) 0 Tryz.prog 196 #[.func (.yield l) #[] #[],.pointer (some ⟨Bs,0,none⟩)] W fun en W'=>(∃v,en=.returned v)∧J 0 W':=by
 refine callsIn_of_wp Tryz.func196 rfl trivial ?_
 simp only[Tryz.ntmps196,a27,lC,a29,a34,a35,a19,a20,a28,a24,a09,a16]
 gi_wp2
 gi_loopw [3] (fun i wr=>i=.int .i64 (-1)∧J 0 wr) (fun _ _=>0)
 case atStart=>exact⟨rfl,h0⟩
 case round=>
  obtain⟨rfl,hJs⟩:=hrel
  gi_wp2
  go_end0
  exact⟨⟨_,rfl⟩,hJs⟩
theorem c4b{m:Mem}{rd:Nat→Option Value}{x o r}(h:dec m (.int .i64) rd=some (x,o,r)):rd 0=some (.int .i64 x)∧o=[]∧r=[]:=by
 simp only[dec]at h
 split at h
 rename_i k n hn
 split at h
 rename_i e;subst e;simp only[sj,pJ]at h;obtain⟨rfl,rfl,rfl⟩:=h;exact⟨hn,rfl,rfl⟩;cases h;cases h
theorem c1R{m:Mem}{a b:Ty}{rd:Nat→Option Value}{x o r}(h:dec m (.pair a b) rd=some (x,o,r)):∃o1 r1 o2 r2,dec m a rd=some (x.1,o1,r1)∧dec m b (fun j=>rd (a.cells+j))=some (x.2,o2,r2)∧o=o1++o2∧r=r1++r2:=by
 simp only[dec]at h
 split at h
 cases h;rename_i x1 o1 r1 h1
 split at h
 cases h;rename_i x2 o2 r2 h2;simp only[sj,pJ]at h;obtain⟨rfl,rfl,rfl⟩:=h;exact⟨_,_,_,_,h1,h2,rfl,rfl⟩
theorem c7g{m:Mem}{Sh:Nat→Prop}{b o:Nat}{x:b7K.den}{R}(h:dec m b7K ((Src.at b o).rd m)=some (x,[],R)):
  m b o=some (.int .i64 x.1)∧m b (o+1)=some (.int .i64 x.2.1)∧m b (o+2)=some (.int .i64 x.2.2.1)∧VOk m Sh b7K x (.agg #[.int .i64 x.1,.int .i64 x.2.1,.int .i64 x.2.2.1]):=by
 obtain⟨_,_,_,_,h1,h2,-,-⟩:=c1R h;obtain⟨_,_,_,_,h3,h4,-,-⟩:=c1R h2;obtain⟨_,_,_,_,h5,-,-,-⟩:=c1R h4;exact⟨(c4b h1).1,(c4b h3).1,(c4b h5).1,fun _=>⟨_,rfl,rfl⟩,fun h=>(by cases h),[],rfl,by simp⟩
theorem d5h:c2N Tryz.prog 196 b7K:=by
 refine⟨fun args w=>b8m ⟨_,_,Tryz.func196,rfl,by kernel_rfl⟩ args w,fun l Bs sv xs J Jx W hlen hJ hY h0=>?_⟩;obtain⟨hc,Sh,hsv⟩:=hJ _ _ h0;obtain⟨A,n,c,rfl,rfl,hnc,hsp,hnil⟩:=hsv.header
 by_cases hx0:xs.length=0
 rw[hx0]at h0 hc;exact(d1Y l Bs A c J W hc h0).mono fun e W' h=>⟨h.1,.inl h.2⟩;cases A with
 |none=>have:=hnil rfl;omega
 |some A=>
  obtain⟨b,off,spot⟩:=A
  have:=(hsp _ rfl).resolve_left (by omega)
  simp only at this;subst this;have hel:∀k W',k<xs.length→J (k+1) W'→∃x,xs[k]?=some x∧W'.cell? ⟨b,off+k*3,none⟩=some (.int .i64 x.1)∧W'.cell? ⟨b,off+k*3+1,none⟩=some (.int .i64 x.2.1)∧W'.cell? ⟨b,off+k*3+2,none⟩=some (.int .i64 x.2.2.1):=by
   intro k W' hk hj;obtain⟨-,Sh',hv⟩:=hJ _ _ hj;obtain⟨A',n',c',R,e,h1,h2,h3,h4,h5,h6⟩:=hv.elem rfl (lG hk);simp only[Value.slice.injEq,sj]at e;obtain⟨rfl,rfl,rfl⟩:=e;obtain⟨g1,g2,g3,-⟩:=c7g (Sh:=Sh') h4;exact⟨_,lG hk,g1,g2,g3⟩
  refine d3o l Bs b off xs.length c (fun k=>((xs[k]?).getD b7K.dflt).1) (fun k=>((xs[k]?).getD b7K.dflt).2.1) (fun k=>((xs[k]?).getD b7K.dflt).2.2.1) J Jx W (fun k W' hj=>(hJ k W' hj).1) hlen (fun k W' hk hj=>?_) (fun n W' hn hj=>?_) h0;obtain⟨x,hx,g1,g2,g3⟩:=hel k W' hk hj;simp only[hx,a36];exact⟨g1,g2,g3⟩;have hx:xs[n]?=some xs[n]:=lG hn;simp only[hx,a36];refine hY n _ _ W' hx hj fun Sh' hv=>?_
  obtain⟨A',n',c',R,e,h1,h2,h3,h4,h5,h6⟩:=hv.elem rfl hx;exact(c7g (Sh:=Sh') h4).2.2.2
end Go.Ab
namespace Go.Ab
open IntKind(wrap)
open Go.Proofs
set_option maxRecDepth 100000
set_option linter.unusedVariables false
@[reducible] def QI:Ty:=.int .i64
@[reducible] def QL:Ty:=.list false QI
@[reducible] def Z0:Type:=(Unit ⊕ (Bool×Unit))
@[reducible] def Z1:Type:=(Int×(Int×(List Int)))
@[reducible] def Z2:Type:=((List (List Int))×Unit)
@[reducible] def Z3:Type:=((List Int)×(Int×Int))
@[reducible] def Z4:Type:=(List (Int×(Int×Unit)))
@[reducible] def Z5:Type:=(Int×((List Int)×Unit))
@[reducible] def Z6:Type:=((List Int)×(Int×Unit))
@[reducible] def Z7:Type:=(Int×(Int×(Int×Unit)))
@[reducible] def Z8:Type:=(Bool×((List Int)×Unit))
@[reducible] def Z9:Type:=(Int×(Int×(Bool×Unit)))
@[reducible] def Z10:Type:=((List Int)×((List Int)×Int))
@[reducible] def Z11:Type:=((List Int)×((List Int)×Unit))
@[reducible] def Z12:Type:=(Int×Z2)
@[reducible] def Z13:Type:=((List (List Int))×(Int×Unit))
@[reducible] def Z14:Type:=(List Z7)
@[reducible] def Z15:Type:=((List Int)×(Int×(Int×Unit)))
@[reducible] def Z16:Type:=(Int×Z5)
@[reducible] def Z17:Type:=(Int×Z6)
@[reducible] def Z18:Type:=((List Int)×(Int×(Bool×Unit)))
@[reducible] def Z19:Type:=(Z5×Unit)
@[reducible] def Z20:Type:=(Z6×Unit)
@[reducible] def Z21:Type:=(Int×Z7)
@[reducible] def Z22:Type:=(Int×Z9)
@[reducible] def Z23:Type:=(Int×Z11)
@[reducible] def Z24:Type:=((List Int)×Z5)
@[reducible] def Z25:Type:=((List (List Int))×(Int×(Int×Unit)))
@[reducible] def Z26:Type:=(Int×Z12)
@[reducible] def Z27:Type:=(Int×Z15)
@[reducible] def Z28:Type:=(Z12×Unit)
@[reducible] def Z29:Type:=((List Int)×Z7)
@[reducible] def Z30:Type:=(Int×Z16)
@[reducible] def Z31:Type:=(Z15×Int)
@[reducible] def Z32:Type:=((List Int)×Z9)
@[reducible] def Z33:Type:=(Int×Z20)
@[reducible] def Z34:Type:=(Z15×Unit)
@[reducible] def Z35:Type:=(Int×Z21)
@[reducible] def Z36:Type:=((List Int)×Z11)
@[reducible] def Z37:Type:=((List Int)×Z16)
@[reducible] def Z38:Type:=(Int×Z23)
@[reducible] def Z39:Type:=((List Int)×Z15)
@[reducible] def Z40:Type:=(Int×Z25)
@[reducible] def Z41:Type:=(Z5×((List Int)×Unit))
@[reducible] def Z42:Type:=(((List Int)×Unit) ⊕ Z5)
@[reducible] def Z43:Type:=((List Int)×Z18)
@[reducible] def Z44:Type:=(Int×Z27)
@[reducible] def Z45:Type:=(Z23×Unit)
@[reducible] def Z46:Type:=(Int×Z28)
@[reducible] def Z47:Type:=(Int×Z29)
@[reducible] def Z48:Type:=(Bool×Z28)
@[reducible] def Z49:Type:=(Int×Z33)
@[reducible] def Z50:Type:=(Int×Z34)
@[reducible] def Z51:Type:=(Bool×Z34)
@[reducible] def Z52:Type:=(Int×Z36)
@[reducible] def Z53:Type:=(Int×Z37)
@[reducible] def Z54:Type:=((List Int)×Z27)
@[reducible] def Z55:Type:=(Int×Z45)
@[reducible] def Z56:Type:=(Int×Z46)
@[reducible] def Z57:Type:=((List Int)×Z34)
@[reducible] def Z58:Type:=(Z27 ⊕ (Int×Unit))
@[reducible] def Z59:Type:=(Int×Z50)
@[reducible] def Z60:Type:=(Int×Z51)
@[reducible] def Z61:Type:=(Z15 ⊕ Z0)
@[reducible] def Z62:Type:=((List Int)×Z38)
@[reducible] def Z63:Type:=(Int×Z52)
@[reducible] def Z64:Type:=((List Int)×Z41)
@[reducible] def Z65:Type:=((List Int)×Z44)
@[reducible] def Z66:Type:=((List Int)×Z45)
@[reducible] def Z67:Type:=(Int×Z53)
@[reducible] def Z68:Type:=(Int×Z55)
@[reducible] def Z69:Type:=((List Int)×Z49)
@[reducible] def Z70:Type:=(Int×Z57)
@[reducible] def Z71:Type:=(Z6×Z19)
@[reducible] def Z72:Type:=(Int×Z59)
@[reducible] def Z73:Type:=(Z5×Z19)
@[reducible] def Z74:Type:=(Int×Z62)
@[reducible] def Z75:Type:=(Int×Z66)
@[reducible] def Z76:Type:=(Int×Z68)
@[reducible] def Z77:Type:=(Int×Z69)
@[reducible] def Z78:Type:=(Int×Z70)
@[reducible] def Z79:Type:=((List Int)×Z71)
@[reducible] def Z80:Type:=(Int×Z78)
@[reducible] def Z81:Type:=(Z14×Z28)
@[reducible] def Z82:Type:=(Int×Z79)
@[reducible] def Z83:Type:=(Z4×Z64)
@[reducible] def Z84:Type:=(Int×Z82)
@[reducible] def Z85:Type:=(Z5×Z73)
@[reducible] def Z86:Type:=((List Int)×Z83)
@[reducible] def Z87:Type:=((List Int)×Z84)
@[reducible] def Z88:Type:=((List Int)×Z86)
@[reducible] def Z89:Type:=(Int×Z88)
@[reducible] def Z90:Type:=(Int×Z89)
@[reducible] def Z91:Type:=(Int×Z90)
@[reducible] def Z92:Type:=(Int×Z91)
@[reducible] def Z93:Type:=(Int×Z92)
@[reducible] def Z94:Type:=(List Z93)
@[reducible] def Z95:Type:=(Z93×Int)
@[reducible] def Z96:Type:=(Z93×Unit)
@[reducible] def Z97:Type:=(Z94×Unit)
@[reducible] def Z98:Type:=(Bool×Z96)
@[reducible] def Z99:Type:=(Int×Z98)
@[reducible] def d0m:Type:=(Z94×((List Int)×Unit))
@[reducible] def d7W:Type:=(Z6×Z96)
@[reducible] def d0n:Type:=(Int×d7W)
@[reducible] def d5Q:Type:=(Z15×Z96)
@[reducible] def d0o:Type:=(Z93×Z34)
@[reducible] def d7X:Type:=(Z14×Z97)
@[reducible] def b6g:Type:=(Int×d0n)
@[reducible] def d3p:Type:=(Int×d5Q)
@[reducible] def c4c:Type:=(Int×d3p)
@[reducible] def d7Y:Type:=(Z7×d7X)
@[reducible] def d7Z:Type:=(Int×d7Y)
@[reducible] def a5W:Type:=(Int×d7Z)
@[reducible] def b7L:Type:=(a5W×Unit)
@[reducible] def d0p:Type:=(Z12×b7L)
@[reducible] def c4d:Type:=(a5W×Z34)
@[reducible] def b3n:Type:=(Z93×Z96)
@[reducible] def d8a:Type:=(Int×b3n)
@[reducible] def d0q:Type:=(Int×d8a)
@[reducible] def d0r:Type:=(a5W×b7L)
@[reducible] def c4e:Type:=(Int×d0r)
@[reducible] def Q0:Ty:=(.pair QI .unit)
@[reducible] def Q1:Ty:=(.pair (.list true QI) .unit)
@[reducible] def Q2:Ty:=(.pair QL .unit)
@[reducible] def Q3:Ty:=(.pair QI Q0)
@[reducible] def Q4:Ty:=(.pair (.list false QL) .unit)
@[reducible] def Q5:Ty:=(.pair (.list true (.int .u8)) Q0)
@[reducible] def Q6:Ty:=(.pair QI Q1)
@[reducible] def Q7:Ty:=(.pair QI Q2)
@[reducible] def Q8:Ty:=(.pair QI Q3)
@[reducible] def Q9:Ty:=(.pair (.list true QI) Q1)
@[reducible] def Q10:Ty:=(.pair QI Q4)
@[reducible] def Q11:Ty:=(.pair (.list false (.int .u8)) Q3)
@[reducible] def Q12:Ty:=(.pair QI Q9)
@[reducible] def Q13:Ty:=(.pair Q7 Q2)
@[reducible] def Q14:Ty:=(.pair (.nl QI) Q13)
@[reducible] def Q15:Ty:=(.pair QL Q13)
@[reducible] def Q16:Ty:=(.pair (.list true Q3) Q14)
@[reducible] def Q17:Ty:=(.pair (.list false Q3) Q15)
@[reducible] def Q18:Ty:=(.pair (.arr 3 QI) Q16)
@[reducible] def Q19:Ty:=(.pair (.arr 3 QI) Q17)
@[reducible] def Q20:Ty:=(.pair (.list true QI) Q18)
@[reducible] def Q21:Ty:=(.pair QL Q19)
@[reducible] def Q22:Ty:=(.pair QI Q20)
@[reducible] def Q23:Ty:=(.pair QI Q21)
@[reducible] def Q24:Ty:=(.pair QI Q22)
@[reducible] def Q25:Ty:=(.pair QI Q23)
@[reducible] def Q26:Ty:=(.pair QI Q24)
@[reducible] def Q27:Ty:=(.pair QI Q25)
@[reducible] def Q28:Ty:=(.pair QI Q26)
@[reducible] def Q29:Ty:=(.pair QI Q27)
@[reducible] def Q30:Ty:=(.pair QI Q28)
@[reducible] def Q31:Ty:=(.pair QI Q29)
@[reducible] def Q32:Ty:=(.pair (.nl Q31) .unit)
@[reducible] def Q33:Ty:=(.pair (.list true Q31) .unit)
@[reducible] def Q34:Ty:=(.pair (.list false Q31) .unit)
@[reducible] def Q35:Ty:=(.pair (.nl Q8) Q32)
@[reducible] def Q36:Ty:=(.pair (.list true Q8) Q32)
@[reducible] def Q37:Ty:=(.pair (.list false Q8) Q33)
@[reducible] def Q38:Ty:=(.pair (.list false Q8) Q34)
@[reducible] def Q39:Ty:=(.pair Q8 Q35)
@[reducible] def Q40:Ty:=(.pair Q8 Q36)
@[reducible] def Q41:Ty:=(.pair Q8 Q37)
@[reducible] def Q42:Ty:=(.pair Q8 Q38)
@[reducible] def Q43:Ty:=(.pair QI Q39)
@[reducible] def Q44:Ty:=(.pair QI Q40)
@[reducible] def Q45:Ty:=(.pair QI Q41)
@[reducible] def Q46:Ty:=(.pair QI Q42)
@[reducible] def Q47:Ty:=(.pair QI Q44)
@[reducible] def Q48:Ty:=(.pair QI Q45)
@[reducible] def Q49:Ty:=(.pair QI Q46)
def c6r:List (Nat×Ty):=[(2,.int .i64),(3,.int .i64),(5,.int .u8),(23,.pair QI Q3),(24,.list false Q8),(25,.list false Q31),(27,.pair QI Q46),(30,.list false QL),(32,.pair QI Q4),(33,.int .i64),(38,.list false (.int .u8)),(56,.list false QI),(57,.arr 3 QI),(58,.list false Q3),(60,.pair QI Q2),(62,.pair QI Q29),(68,.int .u16),(70,.int .u64),(90,.pair (.list false (.int .u8)) Q0),(96,.int .u64),(137,.pair QI Q3),(148,.pair QI Q0),(151,.list false (.int .u64)),(163,.pair (.list false (.int .u8)) Q3),(211,.pair (.list false (.int .u8)) Q3),(220,.arr 64 (.int .u8)),(248,.list false (.arr 3 QI)),(252,.pair QI (.pair QL Q2))]
def T0:Nat→Option Ty:=fun t=>find c6r t
def d0s:List Nat:=[23,57,137,148]
def d8b:Nat→Bool:=fun t=>d0s.contains t
def c7h:List Nat:=[]
def d8c:Nat→Bool:=fun t=>c7h.contains t
def b2m:(List Int):=[0,1,56,2,57,49,28,3,61,58,42,50,38,29,17,4,62,47,59,36,45,43,51,22,53,39,33,30,24,18,12,5,63,55,48,27,60,41,37,16,46,35,44,21,52,32,23,11,54,26,40,15,34,20,31,10,25,14,19,9,13,8,7,6]
def G0:Nat→Option ((t:Ty)×t.den):=fun g=>find ([(0,⟨.arr 64 (.int .u8),b2m⟩)]:List (Nat×((t:Ty)×t.den))) g
def a7d(x:Int):Option Bool:= cond (decide (4≤x)) (some (decide (x≤24))) (some false)
def b3o:FSem:=⟨[.v QI],[.v .bool],a7d⟩
def d8d:Hints:=⟨[],[],[]⟩
def a7e(x:Z7):Option Bool:= cond (decide (1≤x.1)) (cond (decide (x.1≤1048576)) (cond (decide (1≤x.2.1)) (cond (decide (x.2.1≤8)) ((a7d x.2.2.1).bind fun y1=> some y1) (some false)) (some false)) (some false)) (some false)
def b3p:FSem:=⟨[.v Q8],[.v .bool],a7e⟩
def H77:Hints:=⟨[],[],[]⟩
def a7f(s:(Int×Z14×Int×Int×Unit)):Option ((Int×Z14×Int×Int×Unit) ⊕ Z0):= cond (decide (s.2.2.2.1<s.2.2.1)) ((a0o s.2.1 s.2.2.2.1).bind fun x2=> (show Option (Int×Z14×Int×Int×Bool×Z7×Unit)from cond (decide (x2.1<0)) (some (s.1,s.2.1,s.2.2.1,s.2.2.2.1,true,x2,())) (cond (decide (x2.1≥s.1)) (some (s.1,s.2.1,s.2.2.1,s.2.2.2.1,true,x2,())) (cond (decide (x2.2.1<0)) (some (s.1,s.2.1,s.2.2.1,s.2.2.2.1,true,x2,())) (cond (decide (x2.2.1≥s.1)) (some (s.1,s.2.1,s.2.2.1,s.2.2.2.1,true,x2,())) (some (s.1,s.2.1,s.2.2.1,s.2.2.2.1,x2.1==x2.2.1,x2,())))))).bind fun z3=> cond z3.2.2.2.2.1 (some (.inr (Sum.inr ((false,()))))) ((show Option (Int×Z14×Z9)from cond (decide (z3.2.2.2.2.2.1.2.2.1<(-1024))) (some (z3.1,z3.2.1,z3.2.2.1,z3.2.2.2.1,true,())) (some (z3.1,z3.2.1,z3.2.2.1,z3.2.2.2.1,decide (z3.2.2.2.2.2.1.2.2.1 > 1024),()))).bind fun z4=> cond z4.2.2.2.2.1 (some (.inr (Sum.inr ((false,()))))) (some (.inl (z4.1,z4.2.1,z4.2.2.1,wrap .i64 (z4.2.2.2.1+1),()))))) (some (.inr (Sum.inl ())))
def a8Q(x:(Z14×Int)):Option Bool:= (show Option (Z14×Int×Bool×Unit)from cond (decide (x.2<1)) (some (x.1,x.2,true,())) (cond (decide (x.2 > 8)) (some (x.1,x.2,true,())) (some (x.1,x.2,decide ((x.1.length:Int) > 16),())))).bind fun z1=> cond z1.2.2.1 (some false) ((a0j a7f (z1.2.1,z1.1,(z1.1.length:Int),0,())).bind fun w5=> match w5 with |.inl a6=>some true |.inr b7=>some b7.1)
def b3M:FSem:=⟨[.v (.list false Q8),.v QI],[.v .bool],a8Q⟩
def d8e:Hints:=⟨[(58,[.sv 1 QI,.sv 18 (.list false Q8),.sv 19 QI,.sv 20 QI],[(.exit 0,[]),(.ret,[.sv 4 .bool])])],[(6,[(.normal,[.sv 0 (.list false Q8),.sv 1 QI,.sv 17 .bool])]),(7474,[(.normal,[.sv 1 QI,.sv 18 (.list false Q8),.sv 19 QI,.sv 20 QI,.sv 50 .bool,.box 6 Q8,.ptr 6 6 []])]),(7475,[(.normal,[.sv 1 QI,.sv 18 (.list false Q8),.sv 19 QI,.sv 20 QI,.sv 58 .bool])])],[]⟩
def a7g(x:a5W):Option Bool:= (a7e x.2.2.1).bind fun y1=> cond y1 (cond (decide (x.2.1≥1)) (cond (decide (x.2.1≤4096)) (cond (decide (x.1≥0)) (cond (decide (x.1≤(wrap .i64 (4194304-x.2.1)))) ((a8Q (x.2.2.2.1,x.2.2.1.2.1)).bind fun y2=> some y2) (some false)) (some false)) (some false)) (some false)) (some false)
def b3q:FSem:=⟨[.v Q49],[.v .bool],a7g⟩
def H44:Hints:=⟨[],[],[]⟩
def a2X(s:Z15):Option Z61:= cond (decide (s.2.2.1<s.2.1)) ((a0o s.1 s.2.2.1).bind fun x1=> (show Option Z32 from cond (decide (x1<(-1073741824))) (some (s.1,s.2.1,s.2.2.1,true,())) (some (s.1,s.2.1,s.2.2.1,decide (x1≥1073741824),()))).bind fun z2=> cond z2.2.2.2.1 (some (.inr (Sum.inr ((false,()))))) (some (.inl (z2.1,z2.2.1,wrap .i64 (z2.2.2.1+1),())))) (some (.inr (Sum.inl ())))
def a2q(x:(List Int)):Option Bool:= (a0j a2X (x,(x.length:Int),0,())).bind fun w3=> match w3 with |.inl a4=>some true |.inr b5=>some b5.1
def a9Q:FSem:=⟨[.v QL],[.v .bool],a2q⟩
def H90:Hints:=⟨[(26,[.sv 5 QL,.sv 6 QI,.sv 7 QI],[(.exit 0,[]),(.ret,[.sv 2 .bool])])],[(1689,[(.normal,[.sv 5 QL,.sv 6 QI,.sv 7 QI,.sv 16 .bool])])],[]⟩
def a6q(x:Int):Option Bool:= cond (x != 0) (some (x != 1)) (some false)
def b0V:FSem:=⟨[.v QI],[.v .bool],a6q⟩
def d8f:Hints:=⟨[],[],[]⟩
def a4d(s:Z15):Option Z61:= cond (decide (s.2.2.1<s.2.1)) ((a0o s.1 s.2.2.1).bind fun x2=> (show Option Z32 from cond (decide (x2<(-32768))) (some (s.1,s.2.1,s.2.2.1,true,())) (some (s.1,s.2.1,s.2.2.1,decide (x2≥32768),()))).bind fun z3=> cond z3.2.2.2.1 (some (.inr (Sum.inr ((false,()))))) (some (.inl (z3.1,z3.2.1,wrap .i64 (z3.2.2.1+1),())))) (some (.inr (Sum.inl ())))
def a4S(x:((List Int)×Int)):Option Bool:= (show Option ((List Int)×(Bool×Unit))from cond (decide ((x.1.length:Int)<1)) (some (x.1,true,())) (cond (decide ((x.1.length:Int) > 32)) (some (x.1,true,())) (cond (decide (x.2<0)) (some (x.1,true,())) (some (x.1,decide (x.2 > 15),()))))).bind fun z1=> cond z1.2.1 (some false) ((a0j a4d (z1.1,(z1.1.length:Int),0,())).bind fun w4=> match w4 with |.inl a5=>some true |.inr b6=>some b6.1)
def b0W:FSem:=⟨[.v QL,.v QI],[.v .bool],a4S⟩
def d8g:Hints:=⟨[(58,[.sv 23 QL,.sv 24 QI,.sv 25 QI],[(.exit 0,[]),(.ret,[.sv 4 .bool])])],[(6,[(.normal,[.sv 0 QL,.sv 22 .bool])]),(3737,[(.normal,[.sv 23 QL,.sv 24 QI,.sv 25 QI,.sv 34 .bool])])],[]⟩
def a5o(s:Z6):Option (Z6 ⊕ Z0):= cond (decide (s.2.1<3)) ((a0o s.1 s.2.1).bind fun x2=> (show Option Z18 from cond (decide (x2<(-64))) (some (s.1,s.2.1,true,())) (some (s.1,s.2.1,decide (x2 > 64),()))).bind fun z3=> cond z3.2.2.1 (some (.inr (Sum.inr ((false,()))))) (some (.inl (z3.1,wrap .i64 (z3.2.1+1),())))) (some (.inr (Sum.inl ())))
def a8R(x:(Int×(List Int))):Option Bool:= (show Option Z8 from cond (decide (x.1<2)) (some (true,x.2,())) (some (decide (x.1 > 1024),x.2,()))).bind fun z1=> cond z1.1 (some false) ((a0j a5o (z1.2.1,0,())).bind fun w4=> match w4 with |.inl a5=>some true |.inr b6=>some b6.1)
def b3N:FSem:=⟨[.v QI,.v (.arr 3 QI)],[.v .bool],a8R⟩
def d8h:Hints:=⟨[(58,[.sv 13 (.arr 3 QI),.sv 14 QI],[(.exit 0,[]),(.ret,[.sv 4 .bool])])],[(6,[(.normal,[.sv 12 .bool,.vp 3 (.arr 3 QI)])]),(3737,[(.normal,[.sv 13 (.arr 3 QI),.sv 14 QI,.sv 22 .bool])])],[]⟩
def a7h(x:(Int×Int×Unit)):Option Bool:= cond (decide (x.1≥1)) (cond (decide (x.1≤32)) (cond (decide (x.2.1≥0)) (some (decide (x.2.1≤8))) (some false)) (some false)) (some false)
def b3r:FSem:=⟨[.v Q3],[.v .bool],a7h⟩
def d8i:Hints:=⟨[],[],[]⟩
def a6r(s:(Z4×Int×Int×Unit)):Option ((Z4×Int×Int×Unit) ⊕ Z0):= cond (decide (s.2.2.1<s.2.1)) ((a0o s.1 s.2.2.1).bind fun x1=> (a7h x1).bind fun y2=> cond (!y2) (some (.inr (Sum.inr ((false,()))))) (some (.inl (s.1,s.2.1,wrap .i64 (s.2.2.1+1),())))) (some (.inr (Sum.inl ())))
def a7z(x:Z4):Option Bool:= cond (decide ((x.length:Int) > 3)) (some false) ((a0j a6r (x,(x.length:Int),0,())).bind fun w3=> match w3 with |.inl a4=>some true |.inr b5=>some b5.1)
def b2n:FSem:=⟨[.v (.list false Q3)],[.v .bool],a7z⟩
def d8j:Hints:=⟨[(58,[.sv 8 (.list false Q3),.sv 9 QI,.sv 10 QI],[(.exit 0,[]),(.ret,[.sv 2 .bool])])],[],[]⟩
def a8p(x:(Int×Z95)):Option Bool:= (show Option (Int×Z99)from cond (x.1==0) (some (x.2.2,x.1,x.1==0,x.2.1,())) (some (x.2.2,x.1,x.1==1,x.2.1,()))).bind fun z1=> cond z1.2.2.1 (some true) (cond (z1.2.1==2) (cond (decide (z1.2.2.2.1.2.2.1≥0)) (cond (decide (z1.2.2.2.1.2.2.1≤4)) (some (decide (z1.2.2.2.1.2.2.1≤z1.1))) (some false)) (some false)) (cond (z1.2.1==3) ((a4S (z1.2.2.2.1.2.2.2.2.2.1,z1.2.2.2.1.2.2.2.1)).bind fun y2=> cond y2 (some (decide ((z1.2.2.2.1.2.2.2.2.2.1.length:Int)≤z1.1))) (some false)) (cond (z1.2.1==4) ((a4S (z1.2.2.2.1.2.2.2.2.2.1,z1.2.2.2.1.2.2.2.1)).bind fun y3=> cond y3 (cond (decide ((z1.2.2.2.1.2.2.2.2.2.1.length:Int)≤z1.1)) ((a8R (z1.2.2.2.1.2.2.2.2.1,z1.2.2.2.1.2.2.2.2.2.2.1)).bind fun y4=> some y4) (some false)) (some false)) (cond (z1.2.1==5) (cond (decide ((z1.2.2.2.1.2.2.2.2.2.2.2.1.length:Int) > 0)) ((a7z z1.2.2.2.1.2.2.2.2.2.2.2.1).bind fun y5=> some y5) (some false)) (some false)))))
def b5q:FSem:=⟨[.v QI,.v Q31,.v QI],[.v .bool],a8p⟩
def d8k:Hints:=⟨[],[(26,[(.normal,[.sv 2 QI,.sv 7 QI,.sv 8 .bool,.vp 4 Q31])])],[]⟩
def a4T(x:Z95):Option Int:= cond (x.1.1==0) (some 1) (cond (x.1.1==1) (some x.2) (cond (x.1.1==2) (some x.1.2.2.1) ((show Option Z98 from cond (x.1.1==3) (some (x.1.1==3,x.1,())) (some (x.1.1==4,x.1,()))).bind fun z1=> cond z1.1 (some (z1.2.1.2.2.2.2.2.1.length:Int)) (some 0))))
def b0X:FSem:=⟨[.v Q31,.v QI],[.v QI],a4T⟩
def d8l:Hints:=⟨[],[(1727,[(.normal,[.sv 16 .bool,.vp 2 Q31])])],[]⟩
def a1f(x:(List Int)):Option (List Int):= b4A x
def a0X:FSem:=⟨[.v QL],[.o QI],a1f⟩
def H87:Hints:=⟨[],[],[]⟩
@[reducible] def b9r(a:List (Nat×FSem))(b:List (Nat×Ty))(c d:List Nat):Cx:=⟨d8c,d8b,T0,fun f=>find a f,fun n=>find b n,fun i=>c.contains i,fun i=>d.contains i,G0⟩
def d5R:Cx:=b9r [] [] [0,2] []
theorem d8m(x):b8Q d5R H87 Tryz.f87 a0X.ps a0X.rs x=a0X.F x:=Eq.trans (show _=b9q x by kernel_rfl) (b7J x)
def a4h(x:(List Int)):Option (List Int):= b4A x
def a2a:FSem:=⟨[.v QL],[.v QL],a4h⟩
def d8n:Hints:=⟨[],[],[]⟩
def d4m:Cx:=b9r [] [] [0,2] []
theorem d6z(x):b8Q d4m d8n Tryz.f87 a2a.ps a2a.rs x=a2a.F x:=Eq.trans (show _=b9q x by kernel_rfl) (b7J x)
def a1t(x:Z4):Option Z4:= b4A x
def a1d:FSem:=⟨[.v (.list false Q3)],[.v (.list false Q3)],a1t⟩
def d6A:Hints:=⟨[],[],[]⟩
def d1Z:Cx:=b9r [] [] [0,2] []
theorem d5S(x):b8Q d1Z d6A Tryz.f229 a1d.ps a1d.rs x=a1d.F x:=Eq.trans (show _=b9q x by kernel_rfl) (b7J x)
def a6s(x:(Int×Z93)):Option Z93:= (show Option b3n from(show Option ((Z93×b3n) ⊕ (b3n ⊕ (Z93×b3n)))from cond (x.1==2) (some (Sum.inr (Sum.inl ((0,0,0,0,0,[],a00 3 0,[],[],(0,[],()),[],()),(x.1,0,x.2.2.2.1,0,0,[],a00 3 0,[],[],(0,[],()),[],()),())))) (cond (x.1==4) (some (Sum.inl ((0,0,0,0,0,[],a00 3 0,[],[],(0,[],()),[],()),(x.1,0,0,0,x.2.2.2.2.2.1,[],x.2.2.2.2.2.2.2.1,[],[],(0,[],()),[],()),x.2,()))) (cond (x.1==3) (some (Sum.inl ((0,0,0,0,0,[],a00 3 0,[],[],(0,[],()),[],()),(x.1,0,0,0,0,[],a00 3 0,[],[],(0,[],()),[],()),x.2,()))) (cond (x.1==5) (some (Sum.inr (Sum.inr (((0,0,0,0,0,[],a00 3 0,[],[],(0,[],()),[],()),(x.1,0,0,0,0,[],a00 3 0,[],[],(0,[],()),[],()),x.2,()))))) (some (Sum.inr (Sum.inl ((0,0,0,0,0,[],a00 3 0,[],[],(0,[],()),[],()),(x.1,0,0,0,0,[],a00 3 0,[],[],(0,[],()),[],()),())))))))).bind fun z1=> match z1 with |.inl a2=>((a4h a2.2.2.1.2.2.2.2.2.1).bind fun y4=> some (a2.1,(a2.2.1.1,a2.2.1.2.1,a2.2.1.2.2.1,a2.2.2.1.2.2.2.1,a2.2.1.2.2.2.2.1,y4,a2.2.1.2.2.2.2.2.2),())) |.inr b3=>(match b3 with |.inl a5=>some (a5.1,a5.2.1,()) |.inr b6=>((a1t b6.2.2.1.2.2.2.2.2.2.2.1).bind fun y7=> some (b6.1,(b6.2.1.1,b6.2.1.2.1,b6.2.1.2.2.1,b6.2.1.2.2.2.1,b6.2.1.2.2.2.2.1,b6.2.1.2.2.2.2.2.1,b6.2.1.2.2.2.2.2.2.1,y7,b6.2.1.2.2.2.2.2.2.2.2),())))).bind fun z8=> some z8.2.1
def b4F:FSem:=⟨[.v QI,.v Q31],[.v Q31],a6s⟩
def d8o:Hints:=⟨[],[(7,[(.normal,[.box 4 Q31,.box 5 Q31,.ptr 4 4 [],.ptr 5 5 []])]),(232,[(.normal,[.box 4 Q31,.box 5 Q31,.vp 3 Q31,.ptr 4 4 [],.ptr 5 5 []]),(.exit 0,[.box 4 Q31,.box 5 Q31,.ptr 4 4 [],.ptr 5 5 []]),(.exit 4,[.box 4 Q31,.box 5 Q31,.vp 3 Q31,.ptr 4 4 [],.ptr 5 5 []])])],[(8,[.v,.v,.v,.v,.q,.w [0,5],.x,.x]),(9,[.v,.v,.v,.v,.v,.q,.w [0,5],.x,.x])]⟩
def b2o(x:Z93):Option Bool:= (a6s (x.1,x)).bind fun y1=> cond (x.2.2.1==y1.2.2.1) (cond (x.2.2.2.1==y1.2.2.2.1) (cond (x.2.2.2.2.1==y1.2.2.2.2.1) (cond (eqT (.arr 3 (.int .i64)) x.2.2.2.2.2.2.1 y1.2.2.2.2.2.2.1) (cond ((x.2.2.2.2.2.1.length:Int)==(y1.2.2.2.2.2.1.length:Int)) (some ((x.2.2.2.2.2.2.2.1.length:Int)==(y1.2.2.2.2.2.2.2.1.length:Int))) (some false)) (some false)) (some false)) (some false)) (some false)
def c0K:FSem:=⟨[.v Q31],[.v .bool],b2o⟩
def d8p:Hints:=⟨[],[],[]⟩
def a7A(x:(Int×Int)):Option Bool:= cond (decide (1≤x.1)) (cond (decide (x.1≤4096)) (cond (decide (0≤x.2)) (some (decide (x.2≤x.1))) (some false)) (some false)) (some false)
def b2p:FSem:=⟨[.v QI,.v QI],[.v .bool],a7A⟩
def d8q:Hints:=⟨[],[],[]⟩
def a6M(s:Z16):Option (Z16 ⊕ ((List Int)×Unit)):= cond (decide (s.1<0)) none (cond (decide ((s.2.2.1.length:Int)<(a0y .i64 1 s.1))) (cond (lim ((a02 s.2.2.1)+1)) (some (.inl (s.1,s.2.1,a04 s.2.2.1 [s.2.1],()))) none) (some (.inr (s.2.2.1,()))))
def a3x(x:(Int×Int×Int)):Option (List Int):= (show Option Z22 from(a7A (x.2.1,x.2.2)).bind fun y1=> cond (!y1) (some (x.1,x.2.1,x.2.2,true,())) (cond (decide (x.1<0)) (some (x.1,x.2.1,x.2.2,true,())) (some (x.1,x.2.1,x.2.2,decide (x.1 > 8),())))).bind fun z2=> cond z2.2.2.2.1 (some []) (cond (decide (z2.1<0)) none ((show Option Z22 from cond (decide (z2.1<0)) none (cond ((a0y .i64 (a0F .i64 z2.2.1 z2.1) z2.1) != z2.2.1) (some (z2.1,z2.2.2.1,a0F .i64 z2.2.1 z2.1,true,())) (some (z2.1,z2.2.2.1,a0F .i64 z2.2.1 z2.1,decide ((a0F .i64 z2.2.1 z2.1)<z2.2.2.1),())))).bind fun z3=> cond z3.2.2.2.1 (some []) ((a0j a6M (z3.1,z3.2.2.1,[wrap .i64 (z3.2.2.1-z3.2.1)],())).bind fun w4=> some w4.1)))
def a5p:FSem:=⟨[.v QI,.v QI,.v QI],[.o QI],a3x⟩
def d8r:Hints:=⟨[(252,[.sv 0 QI,.sv 7 QI,.own 8 8 QI],[(.exit 0,[.own 8 8 QI])])],[(6,[(.normal,[.sv 0 QI,.sv 1 QI,.sv 2 QI,.sv 20 .bool])]),(30,[(.normal,[.sv 0 QI,.sv 2 QI,.sv 7 QI,.sv 33 .bool])])],[]⟩
def a3M(s:Z15):Option Z61:= cond (decide (s.2.2.1<s.2.1)) ((a0o s.1 s.2.2.1).bind fun x3=> (show Option Z32 from cond (decide (x3<0)) (some (s.1,s.2.1,s.2.2.1,x3 != 31,())) (cond (decide (x3 > 25)) (some (s.1,s.2.1,s.2.2.1,x3 != 31,())) (some (s.1,s.2.1,s.2.2.1,false,())))).bind fun z4=> cond z4.2.2.2.1 (some (.inr (Sum.inr ((false,()))))) (some (.inl (z4.1,z4.2.1,wrap .i64 (z4.2.2.1+1),())))) (some (.inr (Sum.inl ())))
def a9x(x:(Z5×Int×Int)):Option Bool:= (a3x (x.1.1,x.2.1,x.2.2)).bind fun y1=> (show Option (Bool×Z19)from cond ((y1.length:Int)==0) (some (true,x.1,())) (some ((x.1.2.1.length:Int) != (y1.length:Int),x.1,()))).bind fun z2=> cond z2.1 (some false) ((a0j a3M (z2.2.1.2.1,(z2.2.1.2.1.length:Int),0,())).bind fun w5=> match w5 with |.inl a6=>some true |.inr b7=>some b7.1)
def b6h:FSem:=⟨[.v Q7,.v QI,.v QI],[.v .bool],a9x⟩
def d8s:Hints:=⟨[(122,[.sv 27 QL,.sv 28 QI,.sv 29 QI],[(.exit 0,[]),(.ret,[.sv 6 .bool])])],[(14,[(.normal,[.sv 25 .bool,.vp 3 Q7])]),(7833,[(.normal,[.sv 27 QL,.sv 28 QI,.sv 29 QI,.sv 42 .bool])])],[]⟩
def b0Y(x:Z95):Option Bool:= (show Option Z99 from cond (decide (x.2<1)) (some (x.2,true,x.1,())) (cond (decide (x.2 > 4096)) (some (x.2,true,x.1,())) ((a8p (x.1.1,x.1,x.2)).bind fun y1=> cond (!y1) (some (x.2,true,x.1,())) ((b2o x.1).bind fun y2=> some (x.2,!y2,x.1,()))))).bind fun z3=> cond z3.2.1 (some false) ((show Option Z99 from cond (decide (z3.2.2.1.2.1<0)) (some (z3.1,true,z3.2.2.1,())) (cond (decide (z3.2.2.1.2.1 > 30)) (some (z3.1,true,z3.2.2.1,())) (cond (z3.2.2.1.1==0) (some (z3.1,z3.2.2.1.2.1 != 0,z3.2.2.1,())) (some (z3.1,false,z3.2.2.1,()))))).bind fun z4=> cond z4.2.1 (some false) ((a4T (z4.2.2.1,z4.1)).bind fun y5=> (show Option (Int×Z99)from cond ((z4.2.2.1.2.2.2.2.2.2.2.2.1.length:Int) != y5) (some (z4.1,y5,true,z4.2.2.1,())) ((a2q z4.2.2.1.2.2.2.2.2.2.2.2.1).bind fun y6=> cond (!y6) (some (z4.1,y5,true,z4.2.2.1,())) ((a2q z4.2.2.1.2.2.2.2.2.2.2.2.2.2.1).bind fun y7=> some (z4.1,y5,!y7,z4.2.2.1,())))).bind fun z8=> cond z8.2.2.1 (some false) ((a6q z8.2.2.2.1.1).bind fun y9=> cond (!y9) (cond ((z8.2.2.2.1.2.2.2.2.2.2.2.2.2.2.1.length:Int)==0) (cond (z8.2.2.2.1.2.2.2.2.2.2.2.2.2.1.1==0) (some ((z8.2.2.2.1.2.2.2.2.2.2.2.2.2.1.2.1.length:Int)==0)) (some false)) (some false)) (cond ((z8.2.2.2.1.2.2.2.2.2.2.2.2.2.2.1.length:Int)==(wrap .i64 (z8.1-z8.2.1))) ((a9x (z8.2.2.2.1.2.2.2.2.2.2.2.2.2.1,z8.1,z8.2.1)).bind fun y10=> some y10) (some false)))))
def b9s:FSem:=⟨[.v Q31,.v QI],[.v .bool],b0Y⟩
def d8t:Hints:=⟨[],[(6,[(.normal,[.sv 1 QI,.sv 24 .bool,.vp 2 Q31])]),(14,[(.normal,[.sv 1 QI,.sv 42 .bool,.vp 2 Q31])]),(62,[(.normal,[.sv 1 QI,.sv 5 QI,.sv 62 .bool,.vp 2 Q31])])],[]⟩
def b5r(s:Z15):Option Z61:= cond (decide (s.2.2.1<s.2.1)) ((a0o s.1 s.2.2.1).bind fun x1=> (show Option Z32 from cond (decide (x1<(-1073741824))) (some (s.1,s.2.1,s.2.2.1,true,())) (some (s.1,s.2.1,s.2.2.1,decide (x1≥1073741824),()))).bind fun z2=> cond z2.2.2.2.1 (some (.inr (Sum.inr ((false,()))))) (some (.inl (z2.1,z2.2.1,wrap .i64 (z2.2.2.1+1),())))) (some (.inr (Sum.inl ())))
def a2M(x:(List Int)):Option Bool:= (a0j b5r (x,(x.length:Int),0,())).bind fun w3=> match w3 with |.inl a4=>some true |.inr b5=>some b5.1
def b4G:FSem:=⟨[.v QL],[.v .bool],a2M⟩
def d8u:Hints:=⟨[(26,[.sv 5 QL,.sv 6 QI,.sv 7 QI],[(.exit 0,[]),(.ret,[.sv 2 .bool])])],[(1689,[(.normal,[.sv 5 QL,.sv 6 QI,.sv 7 QI,.sv 16 .bool])])],[]⟩
def a1k(x:(Int×(List Int))):Option (Int×(List Int)):= (a0o x.2 (wrap .i64 ((x.2.length:Int)-x.1))).bind fun x1=> some (x1,x.2)
def b5s:FSem:=⟨[.v QI,.r false (.b QL)],[.v QI],a1k⟩
def d8v:Hints:=⟨[],[],[]⟩
def a9R(x:((List Int)×Int)):Option Int:= cond (x.2==1) ((a1k (1,x.1)).bind fun y1=> some y1.1) (cond (x.2==2) ((a1k (1,x.1)).bind fun y2=> (a1k (2,y2.2)).bind fun y3=> some (wrap .i64 ((wrap .i64 (2*y2.1))-y3.1))) (cond (x.2==3) ((a1k (1,x.1)).bind fun y4=> (a1k (2,y4.2)).bind fun y5=> (a1k (3,y5.2)).bind fun y6=> some (wrap .i64 ((wrap .i64 ((wrap .i64 (3*y4.1))-(wrap .i64 (3*y5.1))))+y6.1))) (cond (x.2==4) ((a1k (1,x.1)).bind fun y7=> (a1k (2,y7.2)).bind fun y8=> (a1k (3,y8.2)).bind fun y9=> (a1k (4,y9.2)).bind fun y10=> some (wrap .i64 ((wrap .i64 ((wrap .i64 ((wrap .i64 (4*y7.1))-(wrap .i64 (6*y8.1))))+(wrap .i64 (4*y9.1))))-y10.1))) (some 0))))
def b8n:FSem:=⟨[.v QL,.v QI],[.v QI],a9R⟩
def d8w:Hints:=⟨[],[],[]⟩
def a7T(s:Z53):Option (Z53 ⊕ Z42):= cond (decide (s.2.2.2.1<s.2.2.1)) ((a0o s.2.1 s.2.2.2.1).bind fun x5=> (a9R (s.2.2.2.2.1,s.1)).bind fun y6=> (a2M [wrap .i64 (x5+y6)]).bind fun y7=> cond (!y7) (some (.inr (Sum.inr ((6,[],()))))) (cond (lim ((a02 s.2.2.2.2.1)+1)) (some (.inl (s.1,s.2.1,s.2.2.1,wrap .i64 (s.2.2.2.1+1),a04 s.2.2.2.2.1 [wrap .i64 (x5+y6)],()))) none)) (some (.inr (Sum.inl (s.2.2.2.2.1,()))))
def b0Z(x:Z10):Option ((List Int)×Int):= (show Option Z43 from cond (decide (x.2.2<0)) (some (x.1,x.2.1,x.2.2,true,())) (cond (decide (x.2.2 > 4)) (some (x.1,x.2.1,x.2.2,true,())) (some (x.1,x.2.1,x.2.2,(x.1.length:Int) != x.2.2,())))).bind fun z1=> cond z1.2.2.2.1 (some ([],1)) ((show Option Z43 from(a2M z1.1).bind fun y2=> cond (!y2) (some (z1.1,z1.2.1,z1.2.2.1,true,())) ((a2M z1.2.1).bind fun y3=> some (z1.1,z1.2.1,z1.2.2.1,!y3,()))).bind fun z4=> cond z4.2.2.2.1 (some ([],6)) (cond (lim (a02 z4.1)) ((a0j a7T (z4.2.2.1,z4.2.1,(z4.2.1.length:Int),0,z4.1,())).bind fun w8=> match w8 with |.inl a9=>some (a9.1,0) |.inr b10=>some (b10.2.1,b10.1)) none))
def b9t:FSem:=⟨[.v QL,.v QL,.v QI],[.o QI,.v QI],b0Z⟩
def d8x:Hints:=⟨[(250,[.sv 2 QI,.sv 34 QL,.sv 35 QI,.sv 36 QI,.own 8 8 QI],[(.exit 0,[.own 8 8 QI]),(.ret,[.sv 7 QI,.own 6 6 QI])])],[(6,[(.normal,[.sv 0 QL,.sv 1 QL,.sv 2 QI,.sv 23 .bool])]),(14,[(.normal,[.sv 0 QL,.sv 1 QL,.sv 2 QI,.sv 31 .bool])])],[]⟩
def a5q(x:Int):Option Bool:= cond (decide (x≥(-1073741824))) (some (decide (x<1073741824))) (some false)
def a9S:FSem:=⟨[.v QI],[.v .bool],a5q⟩
def d8y:Hints:=⟨[],[],[]⟩
def a3F(s:Z15):Option Z61:= cond (decide (s.2.2.1<s.2.1)) ((a0o s.1 s.2.2.1).bind fun x1=> (a5q x1).bind fun y2=> cond (!y2) (some (.inr (Sum.inr ((false,()))))) (some (.inl (s.1,s.2.1,wrap .i64 (s.2.2.1+1),())))) (some (.inr (Sum.inl ())))
def a2Y(x:(List Int)):Option Bool:= (a0j a3F (x,(x.length:Int),0,())).bind fun w3=> match w3 with |.inl a4=>some true |.inr b5=>some b5.1
def a6N:FSem:=⟨[.v QL],[.v .bool],a2Y⟩
def d8z:Hints:=⟨[(26,[.sv 5 QL,.sv 6 QI,.sv 7 QI],[(.exit 0,[]),(.ret,[.sv 2 .bool])])],[],[]⟩
def a3G(s:Z65):Option (Z65 ⊕ (Int×Int×Unit)):= cond (decide (s.2.2.2.2.2.1<s.2.2.2.2.1)) ((a0o s.2.2.2.1 s.2.2.2.2.2.1).bind fun x1=> cond (decide ((wrap .i64 ((wrap .i64 ((s.1.length:Int)-1))-s.2.2.2.2.2.1))<0)) (some (.inr (s.2.1,s.2.2.1,()))) ((a0o s.1 (wrap .i64 ((wrap .i64 ((s.1.length:Int)-1))-s.2.2.2.2.2.1))).bind fun x2=> some (.inl (s.1,s.2.1,wrap .i64 (s.2.2.1+(wrap .i64 (x1*x2))),s.2.2.2.1,s.2.2.2.2.1,wrap .i64 (s.2.2.2.2.2.1+1),())))) (some (.inr (s.2.1,s.2.2.1,())))
def a4U(x:Z10):Option Int:= (a0j a3G (x.1,x.2.2,0,x.2.1,(x.2.1.length:Int),0,())).bind fun w3=> cond (decide (w3.1<0)) none (some (a0F .i64 w3.2.1 w3.1))
def b0o:FSem:=⟨[.v QL,.v QL,.v QI],[.v QI],a4U⟩
def d8A:Hints:=⟨[(58,[.sv 0 QL,.sv 2 QI,.sv 7 QI,.sv 11 QL,.sv 12 QI,.sv 13 QI],[(.exit 0,[.sv 2 QI,.sv 7 QI])])],[],[]⟩
def a6O(s:((List Int)×Z53)):Option (((List Int)×Z53) ⊕ Z42):= cond (decide (s.2.2.2.2.1<s.2.2.2.1)) ((a0o s.2.2.1 s.2.2.2.2.1).bind fun x6=> (a4U (s.2.2.2.2.2.1,s.1,s.2.1)).bind fun y7=> (a5q (wrap .i64 (y7+x6))).bind fun y8=> cond (!y8) (some (.inr (Sum.inr ((6,[],()))))) (cond (lim ((a02 s.2.2.2.2.2.1)+1)) (some (.inl (s.1,s.2.1,s.2.2.1,s.2.2.2.1,wrap .i64 (s.2.2.2.2.1+1),a04 s.2.2.2.2.2.1 [wrap .i64 (y7+x6)],()))) none)) (some (.inr (Sum.inl (s.2.2.2.2.2.1,()))))
def a7i(x:((List Int)×Z10)):Option ((List Int)×Int):= (show Option ((List Int)×Z43)from(a4S (x.2.2.1,x.2.2.2)).bind fun y1=> cond (!y1) (some (x.1,x.2.1,x.2.2.1,x.2.2.2,true,())) (some (x.1,x.2.1,x.2.2.1,x.2.2.2,(x.1.length:Int) != (x.2.2.1.length:Int),()))).bind fun z2=> cond z2.2.2.2.2.1 (some ([],1)) ((show Option ((List Int)×Z43)from(a2Y z2.1).bind fun y3=> cond (!y3) (some (z2.1,z2.2.1,z2.2.2.1,z2.2.2.2.1,true,())) ((a2Y z2.2.1).bind fun y4=> some (z2.1,z2.2.1,z2.2.2.1,z2.2.2.2.1,!y4,()))).bind fun z5=> cond z5.2.2.2.2.1 (some ([],6)) (cond ((decide (0≤(wrap .i64 ((z5.1.length:Int)+(z5.2.1.length:Int)))))&&(lim (a01 (wrap .i64 ((z5.1.length:Int)+(z5.2.1.length:Int)))))) (cond (lim (0+(a02 z5.1))) ((a0j a6O (z5.2.2.1,z5.2.2.2.1,z5.2.1,(z5.2.1.length:Int),0,a04 [] z5.1,())).bind fun w9=> match w9 with |.inl a10=>some (a10.1,0) |.inr b11=>some (b11.2.1,b11.1)) none) none))
def b8o:FSem:=⟨[.v QL,.v QL,.v QL,.v QI],[.o QI,.v QI],a7i⟩
def d8B:Hints:=⟨[(506,[.sv 2 QL,.sv 3 QI,.sv 42 QL,.sv 43 QI,.sv 44 QI,.own 10 10 QI],[(.exit 0,[.own 10 10 QI]),(.ret,[.sv 9 QI,.own 8 8 QI])])],[(6,[(.normal,[.sv 0 QL,.sv 1 QL,.sv 2 QL,.sv 3 QI,.sv 24 .bool])]),(14,[(.normal,[.sv 0 QL,.sv 1 QL,.sv 2 QL,.sv 3 QI,.sv 32 .bool])])],[]⟩
def a7B(x:Int):Option Bool:= cond (decide (x≥(-1073741824))) (some (decide (x<1073741824))) (some false)
def b2q:FSem:=⟨[.v QI],[.v .bool],a7B⟩
def d8C:Hints:=⟨[],[],[]⟩
def a4p(s:Z15):Option Z61:= cond (decide (s.2.2.1<s.2.1)) ((a0o s.1 s.2.2.1).bind fun x1=> (a7B x1).bind fun y2=> cond (!y2) (some (.inr (Sum.inr ((false,()))))) (some (.inl (s.1,s.2.1,wrap .i64 (s.2.2.1+1),())))) (some (.inr (Sum.inl ())))
def a4K(x:(List Int)):Option Bool:= (a0j a4p (x,(x.length:Int),0,())).bind fun w3=> match w3 with |.inl a4=>some true |.inr b5=>some b5.1
def a8S:FSem:=⟨[.v QL],[.v .bool],a4K⟩
def d8D:Hints:=⟨[(26,[.sv 5 QL,.sv 6 QI,.sv 7 QI],[(.exit 0,[]),(.ret,[.sv 2 .bool])])],[],[]⟩
def a4q(s:((List Int)×(Int×Int×Z17))):Option (((List Int)×(Int×Int×Z17)) ⊕ (Int×Unit)):= cond (decide (s.2.2.2.2.2.1<3)) ((a0o s.2.2.2.2.1 s.2.2.2.2.2.1).bind fun x1=> cond (decide ((wrap .i64 ((wrap .i64 ((wrap .i64 (s.2.1-s.2.2.1))-1))+s.2.2.2.2.2.1))≥0)) ((a0o s.1 (wrap .i64 ((wrap .i64 ((wrap .i64 (s.2.1-s.2.2.1))-1))+s.2.2.2.2.2.1))).bind fun x2=> some (.inl (s.1,s.2.1,s.2.2.1,wrap .i64 (s.2.2.2.1+(wrap .i64 (x1*x2))),s.2.2.2.2.1,wrap .i64 (s.2.2.2.2.2.1+1),()))) (some (.inl (s.1,s.2.1,s.2.2.1,s.2.2.2.1,s.2.2.2.2.1,wrap .i64 (s.2.2.2.2.2.1+1),())))) (some (.inr (s.2.2.2.1,())))
def a4L(x:((List Int)×Z1)):Option Int:= (a0j a4q (x.1,x.2.1,x.2.2.1,0,x.2.2.2,0,())).bind fun w3=> some (a0F .i64 w3.1 6)
def b1T:FSem:=⟨[.v QL,.v QI,.v QI,.v (.arr 3 QI)],[.v QI],a4L⟩
def d8E:Hints:=⟨[(58,[.sv 0 QL,.sv 1 QI,.sv 2 QI,.sv 9 QI,.sv 13 (.arr 3 QI),.sv 14 QI],[(.exit 0,[.sv 9 QI])])],[],[]⟩
def a8T(s:Z74):Option (Z74 ⊕ Z42):= cond (decide (s.2.2.2.1<s.2.2.1)) ((a0o s.2.1 s.2.2.2.1).bind fun x3=> (a4L (s.2.2.2.2.1,s.2.2.2.1,s.1,s.2.2.2.2.2.1)).bind fun y4=> (a7B (wrap .i64 (x3+y4))).bind fun y5=> cond (!y5) (some (.inr (Sum.inr ((6,[],()))))) (cond (lim ((a02 s.2.2.2.2.1)+1)) (some (.inl (s.1,s.2.1,s.2.2.1,wrap .i64 (s.2.2.2.1+1),a04 s.2.2.2.2.1 [wrap .i64 (x3+y4)],s.2.2.2.2.2.1,()))) none)) (some (.inr (Sum.inl (s.2.2.2.2.1,()))))
def b2r(x:((List Int)×(Int×(List Int)))):Option ((List Int)×Int):= (a8R (x.2.1,x.2.2)).bind fun y1=> cond (!y1) (some ([],1)) ((a4K x.1).bind fun y2=> cond (!y2) (some ([],6)) (cond ((decide (0≤(x.1.length:Int)))&&(lim (a01 (x.1.length:Int)))) ((a0j a8T (x.2.1,x.1,(x.1.length:Int),0,[],x.2.2,())).bind fun w6=> match w6 with |.inl a7=>some (a7.1,0) |.inr b8=>some (b8.2.1,b8.1)) none))
def c0L:FSem:=⟨[.v QL,.v QI,.v (.arr 3 QI)],[.o QI,.v QI],b2r⟩
def d8F:Hints:=⟨[(250,[.sv 1 QI,.sv 22 QL,.sv 23 QI,.sv 24 QI,.own 8 8 QI,.vp 5 (.arr 3 QI)],[(.exit 0,[.own 8 8 QI]),(.ret,[.sv 7 QI,.own 6 6 QI])])],[],[]⟩
def a6t(x:Int):Option Bool:= cond (decide (x≥(-1073741824))) (some (decide (x<1073741824))) (some false)
def b1a:FSem:=⟨[.v QI],[.v .bool],a6t⟩
def d8G:Hints:=⟨[],[],[]⟩
def a4b(s:Z15):Option Z61:= cond (decide (s.2.2.1<s.2.1)) ((a0o s.1 s.2.2.1).bind fun x1=> (a6t x1).bind fun y2=> cond (!y2) (some (.inr (Sum.inr ((false,()))))) (some (.inl (s.1,s.2.1,wrap .i64 (s.2.2.1+1),())))) (some (.inr (Sum.inl ())))
def a5B(x:(List Int)):Option Bool:= (a0j a4b (x,(x.length:Int),0,())).bind fun w3=> match w3 with |.inl a4=>some true |.inr b5=>some b5.1
def b1b:FSem:=⟨[.v QL],[.v .bool],a5B⟩
def d8H:Hints:=⟨[(26,[.sv 5 QL,.sv 6 QI,.sv 7 QI],[(.exit 0,[]),(.ret,[.sv 2 .bool])])],[],[]⟩
def a9y(x:(Int×Int×Unit)):Option (Z23×Int):= (a7h x).bind fun y1=> cond (!y1) none (cond ((decide (0≤x.1))&&((decide (x.1≤x.1))&&(lim (a01 x.1)))) (cond ((decide (0≤x.1))&&((decide (x.1≤x.1))&&(lim (a01 x.1)))) (some ((x.2.1,a00 (a01 x.1) 0,a00 (a01 x.1) 0,()),0)) none) none)
def b6i:FSem:=⟨[.v Q3],[.b Q12,.v QI],a9y⟩
def d8I:Hints:=⟨[],[],[(3,[.v,.v,.v,.v,.q,.v,.v,.q,.x,.x,.x,.x])]⟩
def a5C(x:Int):Option Int:= some (a3Z (a2K x (-1073741824)) 1073741823)
def b1c:FSem:=⟨[.v QI],[.v QI],a5C⟩
def d8J:Hints:=⟨[],[],[]⟩
def a3B(s:Z76):Option (Z76 ⊕ Z55):= cond (decide (s.2.2.1<s.2.1)) (cond ((decide (0≤s.2.2.1))&&(decide (s.2.2.1<(s.2.2.2.1.2.1.length:Int)))) (cond ((decide (0≤s.2.2.1))&&(decide (s.2.2.1<(s.2.2.2.1.2.2.1.length:Int)))) (some (.inl (wrap .i64 (s.1+(wrap .i64 ((a03 s.2.2.2.1.2.1 (a01 s.2.2.1) 0)*(a03 s.2.2.2.1.2.2.1 (a01 s.2.2.1) 0)))),s.2.1,wrap .i64 (s.2.2.1+1),s.2.2.2.1,()))) none) none) (some (.inr (s.1,s.2.2.2.1,())))
def a2s(x:Z23):Option Z38:= (a0j a3B (0,(x.2.1.length:Int),0,x,())).bind fun w1=> (a5C (a0F .i64 w1.1 16)).bind fun y2=> some (y2,w1.2.1)
def a4v:FSem:=⟨[.r false (.b Q12)],[.v QI],a2s⟩
def d8K:Hints:=⟨[(58,[.sv 3 QI,.sv 10 QI,.sv 11 QI,.box pinned Q12,.ptr 0 pinned [],.ref 9 pinned [.snd,.fst]],[(.exit 0,[.sv 3 QI,.box pinned Q12])])],[],[]⟩
def a2N(s:(Int×Z76)):Option ((Int×Z76) ⊕ Z55):= cond (decide (s.2.2.2.1<s.2.2.1)) (cond ((decide (0≤s.2.2.2.1))&&(decide (s.2.2.2.1<(s.2.2.2.2.1.2.2.1.length:Int)))) (cond ((decide (0≤s.2.2.2.1))&&(decide (s.2.2.2.1<(s.2.2.2.2.1.2.1.length:Int)))) ((show Option (Int×Int×Int×Z76)from cond (decide ((a03 s.2.2.2.2.1.2.2.1 (a01 s.2.2.2.1) 0) > 0)) (some (s.1,s.2.1,s.2.2.2.1,wrap .i64 ((a03 s.2.2.2.2.1.2.1 (a01 s.2.2.2.1) 0)+s.2.1),s.2.2.1,s.2.2.2.1,s.2.2.2.2.1,())) (cond (decide ((a03 s.2.2.2.2.1.2.2.1 (a01 s.2.2.2.1) 0)<0)) (some (s.1,s.2.1,s.2.2.2.1,wrap .i64 ((a03 s.2.2.2.2.1.2.1 (a01 s.2.2.2.1) 0)-s.2.1),s.2.2.1,s.2.2.2.1,s.2.2.2.2.1,())) (some (s.1,s.2.1,s.2.2.2.1,a03 s.2.2.2.2.1.2.1 (a01 s.2.2.2.1) 0,s.2.2.1,s.2.2.2.1,s.2.2.2.2.1,())))).bind fun z4=> cond ((decide (0≤z4.2.2.1))&&(decide (z4.2.2.1<(z4.2.2.2.2.2.2.1.2.1.length:Int)))) (some (.inl (z4.1,z4.2.1,z4.2.2.2.2.1,wrap .i64 (z4.2.2.2.2.2.1+1),(z4.2.2.2.2.2.2.1.1,a05 z4.2.2.2.2.2.2.1.2.1 (a01 z4.2.2.1) (a3Z (a2K z4.2.2.2.1 (-1048576)) 1048576),z4.2.2.2.2.2.2.1.2.2),()))) none) none) none) (some (.inr (s.1,s.2.2.2.2.1,())))
def a3H(x:(Z23×Int)):Option Z23:= (a5C x.2).bind fun y1=> (show Option Z68 from(a2s x.1).bind fun y2=> cond (decide (y1 > y2.1)) (cond (decide (y2.2.1<0)) none (some (y1,a0y .i64 1 y2.2.1,y2.2,()))) (cond (decide (y1<y2.1)) (cond (decide (y2.2.1<0)) none (some (y1,wrap .i64 (0-(a0y .i64 1 y2.2.1)),y2.2,()))) (some (y1,0,y2.2,())))).bind fun z3=> (a0j a2N (z3.1,z3.2.1,(z3.2.2.1.2.2.1.length:Int),0,z3.2.2.1,())).bind fun w5=> cond (decide (1≤(w5.2.1.2.2.1.length:Int))) (cond (decide (0<(a02 (b3F w5.2.1.2.2.1 1 ((a02 w5.2.1.2.2.1)-1) w5.2.1.2.2.1):Int))) (some (w5.2.1.1,w5.2.1.2.1,a05 (b3F w5.2.1.2.2.1 1 ((a02 w5.2.1.2.2.1)-1) w5.2.1.2.2.1) 0 w5.1,w5.2.1.2.2.2)) none) none
def a7N:FSem:=⟨[.r false (.b Q12),.v QI],[],a3H⟩
def d8L:Hints:=⟨[(122,[.sv 1 QI,.sv 4 QI,.sv 36 QI,.sv 37 QI,.box pinned Q12,.ptr 0 pinned [],.ref 35 pinned [.snd,.snd,.fst]],[(.exit 1,[.sv 1 QI,.box pinned Q12,.ptr 0 pinned []])])],[(7,[(.normal,[.sv 1 QI,.sv 4 QI,.box pinned Q12,.ptr 0 pinned []])]),(15667,[(.normal,[.sv 1 QI,.sv 4 QI,.sv 6 QI,.sv 8 QI,.sv 36 QI,.sv 37 QI,.box pinned Q12,.ptr 0 pinned [],.ref 35 pinned [.snd,.snd,.fst]])])],[(17,[.p,.p,.q,.q,.q,.p,.p,.q,.q,.x])]⟩
def a5D(s:(Int×(Int×((List Int)×Z75)))):Option ((Int×(Int×((List Int)×Z75))) ⊕ (Z24 ⊕ Z24)):= cond (decide (s.2.1<s.1)) (cond ((decide (0≤s.2.1))&&(decide (s.2.1<(s.2.2.2.2.1.length:Int)))) ((a2s s.2.2.2.2.2.1).bind fun y6=> (a6t (wrap .i64 (y6.1+(a03 s.2.2.2.2.1 (a01 s.2.1) 0)))).bind fun y7=> cond (!y7) (some (.inr (Sum.inr (([],6,s.2.2.2.2.1,()))))) ((a3H (y6.2,wrap .i64 (y6.1+(a03 s.2.2.2.2.1 (a01 s.2.1) 0)))).bind fun y8=> cond ((decide (0≤s.2.1))&&(decide (s.2.1<(s.2.2.2.2.1.length:Int)))) (some (.inl (s.1,wrap .i64 (s.2.1+1),s.2.2.1,s.2.2.2.1,a05 s.2.2.2.2.1 (a01 s.2.1) (wrap .i64 (y6.1+(a03 s.2.2.2.2.1 (a01 s.2.1) 0))),y8,()))) none)) none) (some (.inr (Sum.inl (s.2.2.1,s.2.2.2.1,s.2.2.2.2.1,()))))
def a7U(k:Int)(v:(Int×Int×Unit))(s:(Z4×Z24)):Option ((Z4×Z24) ⊕ (Ex×Z4×Z24)):= (a9y v).bind fun y4=> cond (y4.2 != 0) (some (.inr (.ret,s.1,[],y4.2,s.2.2.2.1,()))) ((a0j a5D ((s.2.2.2.1.length:Int),0,s.2.1,s.2.2.1,s.2.2.2.1,y4.1,())).bind fun w9=> match w9 with |.inl a10=>some (.inl (s.1,a10.1,a10.2.1,a10.2.2.1,())) |.inr b11=>some (.inr (.ret,s.1,b11.1,b11.2.1,b11.2.2.1,())))
def b1d(x:((List Int)×Z4)):Option ((List Int)×Int):= (a7z x.2).bind fun y1=> cond (!y1) (some ([],1)) ((a5B x.1).bind fun y2=> cond (!y2) (some ([],6)) ((a1f x.1).bind fun y3=> cond (lim (a02 x.2)) ((a5A a7U x.2 (a02 x.2) (x.2,[],0,y3,())).bind fun w12=> match w12 with |.inl a13=>some (a13.2.2.2.1,0) |.inr (.normal,a14)=>some (a14.2.2.2.1,0) |.inr (.exit e15,a14)=>(cond (e15==0) (some (a14.2.2.2.1,0)) none) |.inr (.ret,a14)=>some (a14.2.1,a14.2.2.1)) none))
def a8q:FSem:=⟨[.v QL,.v (.list false Q3)],[.v QL,.v QI],b1d⟩
def d8M:Hints:=⟨[(8046,[.sv 35 QI,.sv 36 QI,.box 1001004 QL,.box 1001005 QI,.box 1001006 (.list true QI),.box 1028 Q12,.ptr 4 1001004 [],.ptr 5 1001005 [],.ptr 6 1001006 [],.ptr 9 1028 [],.ref 34 1001006 []],[(.exit 2,[.box 1001004 QL,.box 1001005 QI,.box 1001006 (.list true QI),.ptr 4 1001004 [],.ptr 5 1001005 [],.ptr 6 1001006 []]),(.ret,[.box 1001004 QL,.box 1001005 QI,.box 1001006 (.list true QI),.ptr 4 1001004 [],.ptr 5 1001005 [],.ptr 6 1001006 []])])],[],[]⟩
def d4n:Cx:=b9r [(87,a0X),(219,b2n),(259,b1b),(261,b6i),(262,a4v),(263,b1a),(264,a7N)] [(6,.list true QI)] [0,1,9,10,11,12,13] [56]
def d5T:HintR:=⟨22,Q3,260,295,[4,5,6],[.sv 22 (.list false Q3),.box 1001004 QL,.box 1001005 QI,.box 1001006 (.list true QI),.ptr 4 1001004 [],.ptr 5 1001005 [],.ptr 6 1001006 []]⟩
theorem d6B(x):c6q d4n d8M d5T Tryz.f193 a8q.ps a8q.rs x=a8q.F x:=by kernel_rfl
def a5r(x:Int):Option Bool:= cond (decide ((-1073741824)≤x)) (some (decide (x<1073741824))) (some false)
def b3s:FSem:=⟨[.v QI],[.v .bool],a5r⟩
def d8N:Hints:=⟨[],[],[]⟩
def a8U(s:Z53):Option (Z53 ⊕ Z42):= cond (decide (s.2.2.2.1<s.2.2.1)) ((a0o s.2.1 s.2.2.2.1).bind fun x2=> (show Option (Int×(Int×((List Int)×(Int×Int×Z8))))from(a5r x2).bind fun y3=> cond (!y3) (some (s.1,x2,s.2.1,s.2.2.1,s.2.2.2.1,true,s.2.2.2.2.1,())) (cond (decide (s.1<0)) none ((a5r (a0y .i64 x2 s.1)).bind fun y4=> some (s.1,x2,s.2.1,s.2.2.1,s.2.2.2.1,!y4,s.2.2.2.2.1,())))).bind fun z5=> cond z5.2.2.2.2.2.1 (some (.inr (Sum.inr ((6,[],()))))) (cond (decide (z5.1<0)) none (cond (lim ((a02 z5.2.2.2.2.2.2.1)+1)) (some (.inl (z5.1,z5.2.2.1,z5.2.2.2.1,wrap .i64 (z5.2.2.2.2.1+1),a04 z5.2.2.2.2.2.2.1 [a0y .i64 z5.2.1 z5.1],()))) none))) (some (.inr (Sum.inl (s.2.2.2.2.1,()))))
def a9z(x:((List Int)×Int)):Option ((List Int)×Int):= (show Option Z18 from cond (decide (x.2<0)) (some (x.1,x.2,true,())) (some (x.1,x.2,decide (x.2 > 30),()))).bind fun z1=> cond z1.2.2.1 (some ([],1)) ((a0j a8U (z1.2.1,z1.1,(z1.1.length:Int),0,[],())).bind fun w6=> match w6 with |.inl a7=>some (a7.1,0) |.inr b8=>some (b8.2.1,b8.1))
def c0M:FSem:=⟨[.v QL,.v QI],[.o QI,.v QI],a9z⟩
def d8O:Hints:=⟨[(122,[.sv 1 QI,.sv 15 QL,.sv 16 QI,.sv 17 QI,.own 6 6 QI],[(.exit 0,[.own 6 6 QI]),(.ret,[.sv 5 QI,.own 4 4 QI])])],[(6,[(.normal,[.sv 0 QL,.sv 1 QI,.sv 14 .bool])]),(15666,[(.normal,[.sv 1 QI,.sv 8 QI,.sv 15 QL,.sv 16 QI,.sv 17 QI,.sv 30 .bool,.own 6 6 QI])])],[]⟩
def a7j(s:(Int×(Int×((List Int)×Z96)))):Option ((Int×(Int×((List Int)×Z96))) ⊕ ((List Int)×Unit)):= cond (decide (s.2.1<s.1)) ((a0o s.2.2.2.1.2.2.2.2.2.2.2.2.1 0).bind fun x1=> cond (lim ((a02 s.2.2.1)+1)) (some (.inl (s.1,wrap .i64 (s.2.1+1),a04 s.2.2.1 [x1],s.2.2.2.1,()))) none) (some (.inr (s.2.2.1,())))
def b3O(x:Z95):Option ((List Int)×Int):= (show Option (((List Int)×(Int×Z96)) ⊕ Z5)from cond (x.1.1==0) ((a0j a7j (x.2,0,[],x.1,())).bind fun w2=> some (Sum.inr ((0,w2.1,())))) (cond (x.1.1==1) (some (Sum.inl (x.1.2.2.2.2.2.2.2.2.1,0,x.1,()))) (cond (x.1.1==2) ((b0Z (x.1.2.2.2.2.2.2.2.2.1,x.1.2.2.2.2.2.2.2.2.2.2.1,x.1.2.2.1)).bind fun y3=> some (Sum.inl (y3.1,y3.2,x.1,()))) (cond (x.1.1==3) ((a7i (x.1.2.2.2.2.2.2.2.2.1,x.1.2.2.2.2.2.2.2.2.2.2.1,x.1.2.2.2.2.2.1,x.1.2.2.2.1)).bind fun y4=> some (Sum.inl (y4.1,y4.2,x.1,()))) (cond (x.1.1==4) ((a7i (x.1.2.2.2.2.2.2.2.2.1,x.1.2.2.2.2.2.2.2.2.2.2.1,x.1.2.2.2.2.2.1,x.1.2.2.2.1)).bind fun y5=> cond (y5.2==0) ((b2r (y5.1,x.1.2.2.2.2.1,x.1.2.2.2.2.2.2.1)).bind fun y6=> some (Sum.inl (y6.1,y6.2,x.1,()))) (some (Sum.inl (y5.1,y5.2,x.1,())))) (cond (x.1.1==5) ((b1d (x.1.2.2.2.2.2.2.2.2.2.2.1,x.1.2.2.2.2.2.2.2.1)).bind fun y7=> some (Sum.inl (y7.1,y7.2,x.1,()))) (some (Sum.inl ([],0,x.1,()))))))))).bind fun z8=> match z8 with |.inl a9=>(cond (a9.2.1 != 0) (some ([],a9.2.1)) ((a9z (a9.1,a9.2.2.1.2.1)).bind fun y11=> some (y11.1,y11.2))) |.inr b10=>some (b10.2.1,b10.1)
def c2O:FSem:=⟨[.v Q31,.v QI],[.o QI,.v QI],b3O⟩
def d8P:Hints:=⟨[(3922,[.sv 12 QI,.sv 13 QI,.own 6 6 QI,.vp 2 Q31],[(.exit 1,[.own 6 6 QI])])],[(15,[(.normal,[.sv 6 QL,.sv 7 QI,.vp 2 Q31]),(.ret,[.sv 5 QI,.own 4 6 QI])])],[]⟩
def b3c(x:Z95):Option ((List Int)×Int):= (b0Y (x.1,x.2)).bind fun y1=> cond (!y1) (some ([],1)) ((b3O (x.1,x.2)).bind fun y2=> cond (y2.2 != 0) (some ([],1)) (some (y2.1,0)))
def b9u:FSem:=⟨[.v Q31,.v QI],[.o QI,.v QI],b3c⟩
def H45:Hints:=⟨[],[],[]⟩
def a9A(x:Int):Option Bool:= cond (decide ((-1073741824)≤x)) (some (decide (x<1073741824))) (some false)
def b6j:FSem:=⟨[.v QI],[.v .bool],a9A⟩
def d8Q:Hints:=⟨[],[],[]⟩
def a4M(s:((List (List Int))×((List (List Int))×Z44))):Option (((List (List Int))×((List (List Int))×Z44)) ⊕ (((List (List Int))×Z25) ⊕ (Bool×Unit))):= cond (decide (s.2.2.2.2.2.2.1<s.2.2.2.2.2.1)) ((a0o s.2.2.2.2.1 s.2.2.2.2.2.2.1).bind fun x5=> (a9A x5).bind fun y6=> cond (!y6) (some (.inr (Sum.inr ((false,()))))) (some (.inl (s.1,s.2.1,s.2.2.1,s.2.2.2.1,s.2.2.2.2.1,s.2.2.2.2.2.1,wrap .i64 (s.2.2.2.2.2.2.1+1),())))) (some (.inr (Sum.inl (s.1,s.2.1,s.2.2.1,s.2.2.2.1,()))))
def a4N(s:((List (List Int))×Z25)):Option (((List (List Int))×Z25) ⊕ Z0):= cond (decide (s.2.2.2.1<s.2.2.1)) ((a0o s.2.1 s.2.2.2.1).bind fun x3=> (a0o s.1 0).bind fun x4=> cond ((x3.length:Int) != (x4.length:Int)) (some (.inr (Sum.inr ((false,()))))) ((a0j a4M (s.1,s.2.1,s.2.2.1,s.2.2.2.1,x3,(x3.length:Int),0,())).bind fun w7=> match w7 with |.inl a8=>some (.inl (a8.1,a8.2.1,a8.2.2.1,wrap .i64 (a8.2.2.2.1+1),())) |.inr b9=>some (.inr (Sum.inr ((b9.1,())))))) (some (.inr (Sum.inl ())))
def a7C(x:(List (List Int))):Option Bool:= (show Option ((List (List Int))×(Bool×Unit))from cond (decide ((x.length:Int)<1)) (some (x,true,())) (cond (decide ((x.length:Int) > 8)) (some (x,true,())) ((a0o x 0).bind fun x1=> some (x,decide ((x1.length:Int) > 4096),())))).bind fun z2=> cond z2.2.1 (some false) ((a0j a4N (z2.1,z2.1,(z2.1.length:Int),0,())).bind fun w10=> match w10 with |.inl a11=>some true |.inr b12=>some b12.1)
def b2t:FSem:=⟨[.v (.list false QL)],[.v .bool],a7C⟩
def d8R:Hints:=⟨[(58,[.sv 0 (.list false QL),.sv 22 (.list false QL),.sv 23 QI,.sv 24 QI],[(.exit 0,[]),(.ret,[.sv 2 .bool])]),(29902,[.sv 0 (.list false QL),.sv 22 (.list false QL),.sv 23 QI,.sv 24 QI,.sv 35 QL,.sv 36 QI,.sv 37 QI],[(.exit 2,[.sv 0 (.list false QL),.sv 22 (.list false QL),.sv 23 QI,.sv 24 QI]),(.ret,[.sv 2 .bool])])],[(6,[(.normal,[.sv 0 (.list false QL),.sv 21 .bool])])],[]⟩
def a6P(s:((List (List Int))×Z26)):Option (((List (List Int))×Z26) ⊕ Z2):= cond (decide (s.2.2.1<s.2.1)) ((a0o s.1 s.2.2.1).bind fun x1=> (a1f x1).bind fun y2=> cond (lim ((a02 s.2.2.2.1)+(a02 (a05 ([[]]:List (List Int)) 0 y2)))) (some (.inl (s.1,s.2.1,wrap .i64 (s.2.2.1+1),a04 s.2.2.2.1 (a05 ([[]]:List (List Int)) 0 y2),()))) none) (some (.inr (s.2.2.2.1,())))
def a7k(x:(List (List Int))):Option (List (List Int)):= (a0j a6P (x,(x.length:Int),0,([]:(List (List Int))),())).bind fun w3=> some w3.1
def b3t:FSem:=⟨[.v (.list false QL)],[.o (.list true QI)],a7k⟩
def d8S:Hints:=⟨[(58,[.sv 6 (.list false QL),.sv 7 QI,.sv 8 QI,.own 3 3 (.list true QI)],[(.exit 0,[.own 3 3 (.list true QI)])])],[],[]⟩
def a4e(s:(Int×(Int×(Int×((List (List Int))×(Z7×Int×Unit)))))):Option ((Int×(Int×(Int×((List (List Int))×(Z7×Int×Unit))))) ⊕ (Z2 ⊕ (Bool×Z2))):= cond (decide (s.2.2.1<s.2.1)) (cond ((decide (0≤s.2.2.1))&&(decide (s.2.2.1<((a02 (a03 s.2.2.2.1 (a01 s.2.2.2.2.2.1) []):Nat):Int)))) (cond ((decide (0≤s.2.2.2.2.1.2.1))&&(decide (s.2.2.2.2.1.2.1<(s.2.2.2.1.length:Int)))) (cond ((decide (0≤s.2.2.1))&&(decide (s.2.2.1<((a02 (a03 s.2.2.2.1 (a01 s.2.2.2.2.1.2.1) []):Nat):Int)))) ((a9A (wrap .i64 ((a03 (a03 s.2.2.2.1 (a01 s.2.2.2.2.1.2.1) []) (a01 s.2.2.1) 0)+(wrap .i64 (s.1*(a0F .i64 (wrap .i64 (s.2.2.2.2.1.2.2.1*(a03 (a03 s.2.2.2.1 (a01 s.2.2.2.2.2.1) []) (a01 s.2.2.1) 0))) 8)))))).bind fun y1=> cond (!y1) (some (.inr (Sum.inr ((false,s.2.2.2.1,()))))) (cond ((decide (0≤s.2.2.2.2.1.2.1))&&(decide (s.2.2.2.2.1.2.1<(s.2.2.2.1.length:Int)))) (cond ((decide (0≤s.2.2.1))&&(decide (s.2.2.1<((a02 (a03 s.2.2.2.1 (a01 s.2.2.2.2.1.2.1) []):Nat):Int)))) (some (.inl (s.1,s.2.1,wrap .i64 (s.2.2.1+1),a05 s.2.2.2.1 (a01 s.2.2.2.2.1.2.1) (a05 (a03 s.2.2.2.1 (a01 s.2.2.2.2.1.2.1) []) (a01 s.2.2.1) (wrap .i64 ((a03 (a03 s.2.2.2.1 (a01 s.2.2.2.2.1.2.1) []) (a01 s.2.2.1) 0)+(wrap .i64 (s.1*(a0F .i64 (wrap .i64 (s.2.2.2.2.1.2.2.1*(a03 (a03 s.2.2.2.1 (a01 s.2.2.2.2.2.1) []) (a01 s.2.2.1) 0))) 8)))))),s.2.2.2.2.1,((a01 s.2.2.2.2.2.1:Nat):Int),()))) none) none)) none) none) none) (some (.inr (Sum.inl (s.2.2.2.1,()))))
def a8r(x:((List (List Int))×(Z7×Int))):Option (Bool×(List (List Int))):= cond ((decide (0≤x.2.1.1))&&(decide (x.2.1.1<(x.1.length:Int)))) ((a0j a4e (x.2.2,((a02 (a03 x.1 (a01 x.2.1.1) []):Nat):Int),0,x.1,x.2.1,((a01 x.2.1.1:Nat):Int),())).bind fun w2=> match w2 with |.inl a3=>some (true,a3.1) |.inr b4=>some (b4.1,b4.2.1)) none
def b4H:FSem:=⟨[.r false (.o (.list true QI)),.v Q8,.v QI],[.v .bool],a8r⟩
def d8T:Hints:=⟨[(26,[.sv 2 QI,.sv 15 QI,.sv 16 QI,.own 0 pinned (.list true QI),.vp 4 Q8,.rfi 14 pinned],[(.exit 0,[.own 0 pinned (.list true QI)]),(.ret,[.sv 6 .bool,.own 0 pinned (.list true QI)])])],[],[(4,[.q,.v,.v,.q,.q,.v,.q,.q,.v,.v,.v,.v,.v,.v,.v,.x,.x])]⟩
def a3N(k:Int)(v:Z7)(s:(Z14×((List (List Int))×Z12))):Option ((Z14×((List (List Int))×Z12)) ⊕ (Ex×(Z14×((List (List Int))×Z12)))):= (a8r (s.2.2.2.1,v,(-1))).bind fun y5=> cond (!y5.1) (some (.inr (.ret,s.1,([]:(List (List Int))),6,y5.2,()))) (some (.inl (s.1,s.2.1,s.2.2.1,y5.2,())))
def b2u(x:((List (List Int))×Z14)):Option ((List (List Int))×Int):= (show Option ((List (List Int))×(Z14×Bool×Z13))from(a7C x.1).bind fun y1=> cond (!y1) (some (x.1,x.2,true,([]:(List (List Int))),0,())) ((a8Q (x.2,(x.1.length:Int))).bind fun y2=> some (x.1,x.2,!y2,([]:(List (List Int))),0,()))).bind fun z3=> cond z3.2.2.1 (some (([]:(List (List Int))),1)) ((a7k z3.1).bind fun y4=> cond (lim (a02 z3.2.1)) ((a5A a3N z3.2.1 (a02 z3.2.1) (z3.2.1,z3.2.2.2.1,z3.2.2.2.2.1,y4,())).bind fun w6=> match w6 with |.inl a7=>some (a7.2.2.2.1,0) |.inr (.normal,a8)=>some (a8.2.2.2.1,0) |.inr (.exit e9,a8)=>(cond (e9==0) (some (a8.2.2.2.1,0)) none) |.inr (.ret,a8)=>some (a8.2.1,a8.2.2.1)) none)
def a9B:FSem:=⟨[.v (.list false QL),.v (.list false Q8)],[.v (.list false QL),.v QI],b2u⟩
def H46:Hints:=⟨[],[(6,[(.normal,[.sv 0 (.list false QL),.sv 1 (.list false Q8),.sv 18 .bool,.box 4 (.list false QL),.box 5 QI,.ptr 4 4 [],.ptr 5 5 []])])],[]⟩
def d5U:Cx:=b9r [(102,b3M),(105,b2t),(106,b3t),(108,b4H)] [(6,.list true (.list true QI))] [0,1] [29]
def R46:HintR:=⟨21,Q8,107,196,[4,5,6],[.sv 21 (.list false Q8),.box 1001004 (.list false QL),.box 1001005 QI,.box 1001006 (.list true (.list true QI)),.ptr 4 1001004 [],.ptr 5 1001005 [],.ptr 6 1001006 []]⟩
theorem d8U(x):c6q d5U H46 R46 Tryz.f46 a9B.ps a9B.rs x=a9B.F x:=by kernel_rfl
def a4C(x:Z12):Option Int:= cond ((x.2.1.length:Int)==0) (some 0) ((a0o x.2.1 0).bind fun x1=> some (x1.length:Int))
def b2v:FSem:=⟨[.v Q10],[.v QI],a4C⟩
def H35:Hints:=⟨[],[],[]⟩
def b4I(x:Int):Option Int:= (show Option (Int×Bool×Unit)from cond (decide (x<1)) (some (x,true,())) (some (x,decide (x > 31),()))).bind fun z1=> cond z1.2.1 (some 0) (cond (decide ((wrap .i64 (z1.1-1))<0)) none (some (a0y .i64 (-1) (wrap .i64 (z1.1-1)))))
def b9v:FSem:=⟨[.v QI],[.v QI],b4I⟩
def d8V:Hints:=⟨[],[(6,[(.normal,[.sv 0 QI,.sv 8 .bool])])],[]⟩
def b3u(x:Int):Option Int:= (show Option (Int×Bool×Unit)from cond (decide (x<1)) (some (x,true,())) (some (x,decide (x > 31),()))).bind fun z1=> cond z1.2.1 (some 0) (cond (decide ((wrap .i64 (z1.1-1))<0)) none (some (wrap .i64 ((a0y .i64 1 (wrap .i64 (z1.1-1)))-1))))
def b8p:FSem:=⟨[.v QI],[.v QI],b3u⟩
def d8W:Hints:=⟨[],[(6,[(.normal,[.sv 0 QI,.sv 8 .bool])])],[]⟩
def a4i(x:(Int×Int)):Option Bool:= cond (decide (x.2≥1)) (cond (decide (x.2≤31)) ((b4I x.2).bind fun y1=> cond (decide (y1≤x.1)) ((b3u x.2).bind fun y2=> some (decide (x.1≤y2))) (some false)) (some false)) (some false)
def a9T:FSem:=⟨[.v QI,.v QI],[.v .bool],a4i⟩
def d8X:Hints:=⟨[],[],[]⟩
def a4O(s:((List (List Int))×(Int×(Int×((List Int)×Z56))))):Option (((List (List Int))×(Int×(Int×((List Int)×Z56)))) ⊕ (((List (List Int))×Z56) ⊕ (Bool×Unit))):= cond (decide (s.2.2.2.2.2.1<s.2.2.2.2.1)) ((a0o s.2.2.2.1 s.2.2.2.2.2.1).bind fun x8=> (a4i (x8,s.2.2.2.2.2.2.1.1)).bind fun y9=> cond (!y9) (some (.inr (Sum.inr ((false,()))))) (some (.inl (s.1,s.2.1,s.2.2.1,s.2.2.2.1,s.2.2.2.2.1,wrap .i64 (s.2.2.2.2.2.1+1),s.2.2.2.2.2.2.1,())))) (some (.inr (Sum.inl (s.1,s.2.1,s.2.2.1,s.2.2.2.2.2.2.1,()))))
def a4P(s:((List (List Int))×Z56)):Option (((List (List Int))×Z56) ⊕ Z0):= cond (decide (s.2.2.1<s.2.1)) ((a0o s.1 s.2.2.1).bind fun x6=> (a4C s.2.2.2.1).bind fun y7=> cond ((x6.length:Int) != y7) (some (.inr (Sum.inr ((false,()))))) ((a0j a4O (s.1,s.2.1,s.2.2.1,x6,(x6.length:Int),0,s.2.2.2.1,())).bind fun w10=> match w10 with |.inl a11=>some (.inl (a11.1,a11.2.1,wrap .i64 (a11.2.2.1+1),a11.2.2.2.1,())) |.inr b12=>some (.inr (Sum.inr ((b12.1,())))))) (some (.inr (Sum.inl ())))
def a7D(x:Z12):Option Bool:= (show Option Z48 from(a7d x.1).bind fun y1=> cond (!y1) (some (true,x,())) (cond (decide ((x.2.1.length:Int)<1)) (some (true,x,())) (some (decide ((x.2.1.length:Int) > 8),x,())))).bind fun z2=> cond z2.1 (some false) ((show Option Z48 from(a4C z2.2.1).bind fun y3=> cond (decide (y3<1)) (some (true,z2.2.1,())) ((a4C z2.2.1).bind fun y4=> some (decide (y4 > 4096),z2.2.1,()))).bind fun z5=> cond z5.1 (some false) ((a0j a4P (z5.2.1.2.1,(z5.2.1.2.1.length:Int),0,z5.2.1,())).bind fun w13=> match w13 with |.inl a14=>some true |.inr b15=>some b15.1))
def b2w:FSem:=⟨[.v Q10],[.v .bool],a7D⟩
def H47:Hints:=⟨[(122,[.sv 32 (.list false QL),.sv 33 QI,.sv 34 QI,.vp 1 Q10],[(.exit 0,[]),(.ret,[.sv 2 .bool])]),(62670,[.sv 32 (.list false QL),.sv 33 QI,.sv 34 QI,.sv 43 QL,.sv 44 QI,.sv 45 QI,.vp 1 Q10],[(.exit 2,[.sv 32 (.list false QL),.sv 33 QI,.sv 34 QI,.vp 1 Q10]),(.ret,[.sv 2 .bool])])],[(6,[(.normal,[.sv 22 .bool,.vp 1 Q10])]),(14,[(.normal,[.sv 30 .bool,.vp 1 Q10])])],[]⟩
def a4V(s:(Z94×(Int×(Int×((List (List Int))×d0p))))):Option ((Z94×(Int×(Int×((List (List Int))×d0p)))) ⊕ (((List (List Int))×d0p) ⊕ Z46)):= cond (decide (s.2.2.1<s.2.1)) ((a0o s.1 s.2.2.1).bind fun x3=> (b3c (x3,s.2.2.2.2.2.1.2.1)).bind fun y4=> cond (y4.2 != 0) (some (.inr (Sum.inr ((1,(0,([]:(List (List Int))),()),()))))) (cond (lim ((a02 s.2.2.2.1)+1)) (some (.inl (s.1,s.2.1,wrap .i64 (s.2.2.1+1),a04 s.2.2.2.1 ([y4.1]:List (List Int)),s.2.2.2.2.1,s.2.2.2.2.2.1,()))) none)) (some (.inr (Sum.inl (s.2.2.2.1,s.2.2.2.2.1,s.2.2.2.2.2.1,()))))
def a5s(x:a5W):Option (Z12×Int):= (show Option (Bool×d0p)from(a7g x).bind fun y1=> cond (!y1) (some (true,(0,([]:(List (List Int))),()),x,())) (some ((x.2.2.2.2.1.length:Int) != x.2.2.1.2.1,(0,([]:(List (List Int))),()),x,()))).bind fun z2=> cond z2.1 (some ((0,([]:(List (List Int))),()),1)) (cond ((decide (0≤(z2.2.2.1.2.2.2.2.1.length:Int)))&&(lim (a01 (z2.2.2.1.2.2.2.2.1.length:Int)))) ((a0j a4V (z2.2.2.1.2.2.2.2.1,(z2.2.2.1.2.2.2.2.1.length:Int),0,([]:(List (List Int))),z2.2.1,z2.2.2.1,())).bind fun w5=> match w5 with |.inl a6=>((b2u (a6.1,a6.2.2.1.2.2.2.1)).bind fun y8=> cond (y8.2 != 0) (some ((0,([]:(List (List Int))),()),1)) ((a7D (a6.2.2.1.2.2.1.2.2.1,y8.1,())).bind fun y9=> cond (!y9) (some ((0,([]:(List (List Int))),()),1)) (some ((a6.2.2.1.2.2.1.2.2.1,y8.1,()),0)))) |.inr b7=>some (b7.2.1,b7.1)) none)
def a9U:FSem:=⟨[.v Q49],[.v Q10,.v QI],a5s⟩
def H17:Hints:=⟨[(122,[.sv 30 (.list false Q31),.sv 31 QI,.sv 32 QI,.own 4 4 QL,.box 2 Q10,.vp 1 Q49,.ptr 2 2 []],[(.exit 0,[.own 4 4 QL,.box 2 Q10,.vp 1 Q49,.ptr 2 2 []]),(.ret,[.sv 3 QI,.box 2 Q10,.ptr 2 2 []])])],[(6,[(.normal,[.sv 23 .bool,.box 2 Q10,.vp 1 Q49,.ptr 2 2 []])])],[]⟩
def a3Q(x:a5W):Option Bool:= (a5s x).bind fun y1=> some (y1.2==0)
def b2x:FSem:=⟨[.v Q49],[.v .bool],a3Q⟩
def H21:Hints:=⟨[],[],[]⟩
def b0z(x:Z95):Option Bool:= (b3c (x.1,x.2)).bind fun y1=> some (y1.2==0)
def b9w:FSem:=⟨[.v Q31,.v QI],[.v .bool],b0z⟩
def d8Y:Hints:=⟨[],[],[]⟩
def a3u(s:Z44):Option (Z44 ⊕ Z27):= cond (s.2.1 != 0) (cond (decide (s.1<32)) ((a4i (s.2.1,s.1)).bind fun y2=> cond (!y2) (some (.inl (wrap .i64 (s.1+1),s.2.1,s.2.2.1,s.2.2.2.1,s.2.2.2.2.1,()))) (some (.inr (s.1,s.2.2.1,s.2.2.2.1,s.2.2.2.2.1,())))) (some (.inr (s.1,s.2.2.1,s.2.2.2.1,s.2.2.2.2.1,())))) (some (.inr (s.1,s.2.2.1,s.2.2.2.1,s.2.2.2.2.1,())))
def a6d(s:Z27):Option Z58:= cond (decide (s.2.2.2.1<s.2.2.1)) ((a0o s.2.1 s.2.2.2.1).bind fun x1=> (a0j a3u (s.1,x1,s.2.1,s.2.2.1,s.2.2.2.1,())).bind fun w3=> some (.inl (w3.1,w3.2.1,w3.2.2.1,wrap .i64 (w3.2.2.2.1+1),()))) (some (.inr (s.1,())))
def a1E(x:(List Int)):Option Int:= (a0j a6d (0,x,(x.length:Int),0,())).bind fun w4=> some w4.1
def a3a:FSem:=⟨[.v QL],[.v QI],a1E⟩
def d8Z:Hints:=⟨[(58,[.sv 3 QI,.sv 6 QL,.sv 7 QI,.sv 8 QI],[(.exit 0,[.sv 3 QI])]),(7474,[.sv 3 QI,.sv 5 QI,.sv 6 QL,.sv 7 QI,.sv 8 QI],[(.exit 2,[.sv 3 QI,.sv 6 QL,.sv 7 QI,.sv 8 QI])])],[],[]⟩
def a2A(x:(Z6×Int)):Option Z6:= (show Option Z33 from cond ((a26 x.1.2.1 8)==0) (cond (lim ((a02 x.1.1)+1)) (some (x.2,(a04 x.1.1 [0],x.1.2),())) none) (some (x.2,x.1,()))).bind fun z1=> cond ((decide (0≤(wrap .i64 (a21 z1.2.1.2.1 8))))&&(decide ((wrap .i64 (a21 z1.2.1.2.1 8))<(z1.2.1.1.length:Int)))) (cond (decide ((wrap .i64 (7-(a26 z1.2.1.2.1 8)))<0)) none (cond ((decide (0≤(wrap .i64 (a21 z1.2.1.2.1 8))))&&(decide ((wrap .i64 (a21 z1.2.1.2.1 8))<(z1.2.1.1.length:Int)))) (some (a05 z1.2.1.1 (a01 (wrap .i64 (a21 z1.2.1.2.1 8))) (bits .u8 .or (a03 z1.2.1.1 (a01 (wrap .i64 (a21 z1.2.1.2.1 8))) 0) (a0y .u8 z1.1 (wrap .i64 (7-(a26 z1.2.1.2.1 8))))),wrap .i64 (z1.2.1.2.1+1),z1.2.1.2.2)) none)) none
def a6e:FSem:=⟨[.r false (.b Q5),.v (.int .u8)],[],a2A⟩
def d9a:Hints:=⟨[],[(1,[(.normal,[.sv 1 (.int .u8),.box pinned Q5,.ptr 0 pinned []])])],[(2,[.p,.p,.q,.q,.p,.p,.q,.q,.v,.q,.q,.v,.p,.p,.q,.q,.v,.v,.v,.x,.x,.x])]⟩
def a4w(s:Z49):Option (Z49 ⊕ Z20):= cond (decide (s.2.1≥0)) (cond (decide (s.2.1<0)) none ((a2A (s.2.2.1,wrap .u8 (bits .u64 .and (a0F .u64 s.1 s.2.1) 1))).bind fun y2=> some (.inl (s.1,wrap .i64 (s.2.1-1),y2,())))) (some (.inr (s.2.2.1,())))
def a0l(x:(Z6×Int×Int)):Option Z17:= (show Option (Int×Int×Bool×Z20)from cond (decide (x.2.2<0)) (some (x.2.1,x.2.2,true,x.1,())) (cond (decide (x.2.2 > 64)) (some (x.2.1,x.2.2,true,x.1,())) (cond (decide (x.2.2<0)) none (some (x.2.1,x.2.2,(a0F .u64 x.2.1 x.2.2) != 0,x.1,()))))).bind fun z1=> cond z1.2.2.1 (some (1,z1.2.2.2.1)) ((a0j a4w (z1.1,wrap .i64 (z1.2.1-1),z1.2.2.2.1,())).bind fun w3=> some (0,w3.1))
def a3v:FSem:=⟨[.r false (.b Q5),.v (.int .u64),.v QI],[.v QI],a0l⟩
def d9b:Hints:=⟨[(58,[.sv 1 (.int .u64),.sv 7 QI,.box pinned Q5,.ptr 0 pinned []],[(.exit 0,[.box pinned Q5])])],[(6,[(.normal,[.sv 1 (.int .u64),.sv 2 QI,.sv 19 .bool,.box pinned Q5,.ptr 0 pinned []])])],[]⟩
def a3m(x:(Z6×Int×Int)):Option Z6:= cond (decide (x.2.2<0)) none ((a0l (x.1,bits .u64 .and (wrap .u64 x.2.1) (wrap .u64 ((a0y .u64 1 x.2.2)-1)),x.2.2)).bind fun y1=> some y1.2)
def b1e:FSem:=⟨[.r false (.b Q5),.v QI,.v QI],[],a3m⟩
def d9c:Hints:=⟨[],[],[]⟩
def a6f(s:Z77):Option (Z77 ⊕ Z20):= cond (decide (s.2.2.2.1<s.2.2.1)) ((a0o s.2.1 s.2.2.2.1).bind fun x6=> (a3m (s.2.2.2.2.1,x6,s.1)).bind fun y7=> some (.inl (s.1,s.2.1,s.2.2.1,wrap .i64 (s.2.2.2.1+1),y7,()))) (some (.inr (s.2.2.2.2.1,())))
def a8V(x:(Z6×Z93)):Option Z6:= (a0l (x.1,wrap .u64 (wrap .i64 ((x.2.2.2.2.2.2.1.length:Int)-1)),5)).bind fun y1=> (a0l (y1.2,wrap .u64 x.2.2.2.2.1,4)).bind fun y2=> (a1E x.2.2.2.2.2.2.1).bind fun y3=> (a0l (y2.2,wrap .u64 y3,5)).bind fun y4=> (a0j a6f (y3,x.2.2.2.2.2.2.1,(x.2.2.2.2.2.2.1.length:Int),0,y4.2,())).bind fun w8=> some w8.1
def b6N:FSem:=⟨[.r false (.b Q5),.v Q31],[],a8V⟩
def d9d:Hints:=⟨[(254,[.sv 4 QI,.sv 27 QL,.sv 28 QI,.sv 29 QI,.box pinned Q5,.ptr 0 pinned []],[(.exit 0,[.box pinned Q5])])],[],[]⟩
def b4J(s:Z15):Option Z61:= cond (decide (s.2.2.1<s.2.1)) ((a0o s.1 s.2.2.1).bind fun x3=> (show Option Z32 from cond (decide (x3<(-1073741824))) (some (s.1,s.2.1,s.2.2.1,true,())) (some (s.1,s.2.1,s.2.2.1,decide (x3≥1073741824),()))).bind fun z4=> cond z4.2.2.2.1 (some (.inr (Sum.inr ((false,()))))) (some (.inl (z4.1,z4.2.1,wrap .i64 (z4.2.2.1+1),())))) (some (.inr (Sum.inl ())))
def a7l(x:Z1):Option Bool:= (show Option ((List Int)×(Bool×Unit))from(a7A (x.1,x.2.1)).bind fun y1=> cond (!y1) (some (x.2.2,true,())) (some (x.2.2,(x.2.2.length:Int) != (wrap .i64 (x.1-x.2.1)),()))).bind fun z2=> cond z2.2.1 (some false) ((a0j b4J (z2.1,(z2.1.length:Int),0,())).bind fun w5=> match w5 with |.inl a6=>some true |.inr b7=>some b7.1)
def b3v:FSem:=⟨[.v QI,.v QI,.v QL],[.v .bool],a7l⟩
def d9e:Hints:=⟨[(58,[.sv 21 QL,.sv 22 QI,.sv 23 QI],[(.exit 0,[]),(.ret,[.sv 6 .bool])])],[(6,[(.normal,[.sv 2 QL,.sv 20 .bool])]),(3737,[(.normal,[.sv 21 QL,.sv 22 QI,.sv 23 QI,.sv 32 .bool])])],[]⟩
def a5X(x:(List Int)):Option Int:= (a1E x).bind fun y1=> some (wrap .i64 (5+(wrap .i64 (y1*(x.length:Int)))))
def b6k:FSem:=⟨[.v QL],[.v QI],a5X⟩
def d9f:Hints:=⟨[],[],[]⟩
def a2m(x:Int):Option Bool:= cond (decide (0≤x)) (some (decide (x≤25))) (some false)
def a6Q:FSem:=⟨[.v QI],[.v .bool],a2m⟩
def d9g:Hints:=⟨[],[],[]⟩
def a7E(x:Int):Option Bool:= cond (decide ((-1073741824)≤x)) (some (decide (x<1073741824))) (some false)
def b2y:FSem:=⟨[.v QI],[.v .bool],a7E⟩
def d9h:Hints:=⟨[],[],[]⟩
def a9C(x:Int):Option Int:= (a7E x).bind fun y1=> cond (!y1) (some 0) (cond (decide (x≥0)) (some (wrap .u64 (wrap .i64 (2*x)))) (some (wrap .u64 (wrap .i64 ((wrap .i64 ((-2)*x))-1)))))
def b6l:FSem:=⟨[.v QI],[.v (.int .u64)],a9C⟩
def d9i:Hints:=⟨[],[],[]⟩
def a7F(x:(Int×Int)):Option Int:= (show Option Z9 from(a2m x.1).bind fun y1=> cond (!y1) (some (x.1,x.2,true,())) ((a7E x.2).bind fun y2=> some (x.1,x.2,!y2,()))).bind fun z3=> cond z3.2.2.1 (some 0) ((a9C z3.2.1).bind fun y4=> cond (decide (z3.1<0)) none (cond (decide ((wrap .i64 (a0F .u64 y4 z3.1))<32)) (some (wrap .i64 ((wrap .i64 ((wrap .i64 (a0F .u64 y4 z3.1))+1))+z3.1))) (some 65)))
def c0N:FSem:=⟨[.v QI,.v QI],[.v QI],a7F⟩
def d9j:Hints:=⟨[],[(6,[(.normal,[.sv 0 QI,.sv 1 QI,.sv 13 .bool])])],[]⟩
def a4j(s:Z44):Option (Z44 ⊕ (Int×Unit)):= cond (decide (s.2.2.2.2.1<s.2.2.2.1)) ((a0o s.2.2.1 s.2.2.2.2.1).bind fun x1=> (a7F (s.1,x1)).bind fun y2=> some (.inl (s.1,wrap .i64 (s.2.1+y2),s.2.2.1,s.2.2.2.1,wrap .i64 (s.2.2.2.2.1+1),()))) (some (.inr (s.2.1,())))
def a3R(x:(Int×(List Int))):Option Int:= (a0j a4j (x.1,0,x.2,(x.2.length:Int),0,())).bind fun w3=> some w3.1
def b3P:FSem:=⟨[.v QI,.v QL],[.v QI],a3R⟩
def d9k:Hints:=⟨[(58,[.sv 0 QI,.sv 5 QI,.sv 8 QL,.sv 9 QI,.sv 10 QI],[(.exit 0,[.sv 5 QI])])],[],[]⟩
def a1H(s:((List Int)×(Int×(Int×(Int×((List Int)×Z19)))))):Option (((List Int)×(Int×(Int×(Int×((List Int)×Z19))))) ⊕ (Int×Unit)):= cond (decide (s.2.2.2.1<s.2.2.1)) (cond ((decide (0≤s.2.2.2.1))&&(decide (s.2.2.2.1<(s.2.2.2.2.1.length:Int)))) (cond ((decide (0≤(a03 s.2.2.2.2.1 (a01 s.2.2.2.1) 0)))&&(decide ((a03 s.2.2.2.2.1 (a01 s.2.2.2.1) 0)≤(s.1.length:Int)))) (cond ((decide (0≤(a03 s.2.2.2.2.1 (a01 s.2.2.2.1) 0)))&&(decide ((a03 s.2.2.2.2.1 (a01 s.2.2.2.1) 0)≤(s.1.length:Int)))) ((a0o s.2.2.2.2.2.1.2.1 s.2.2.2.1).bind fun x5=> cond (x5==31) ((a5X (a07 (a01 (a03 s.2.2.2.2.1 (a01 s.2.2.2.1) 0)) s.1)).bind fun y6=> some (.inl (a30 (a01 (a03 s.2.2.2.2.1 (a01 s.2.2.2.1) 0)) (a07 (a02 s.1) s.1),wrap .i64 (s.2.1+(wrap .i64 (5+y6))),s.2.2.1,wrap .i64 (s.2.2.2.1+1),s.2.2.2.2.1,s.2.2.2.2.2.1,()))) ((a0o s.2.2.2.2.2.1.2.1 s.2.2.2.1).bind fun x7=> (a3R (x7,a07 (a01 (a03 s.2.2.2.2.1 (a01 s.2.2.2.1) 0)) s.1)).bind fun y8=> some (.inl (a30 (a01 (a03 s.2.2.2.2.1 (a01 s.2.2.2.1) 0)) (a07 (a02 s.1) s.1),wrap .i64 (s.2.1+(wrap .i64 (5+y8))),s.2.2.1,wrap .i64 (s.2.2.2.1+1),s.2.2.2.2.1,s.2.2.2.2.2.1,())))) none) none) none) (some (.inr (s.2.1,())))
def a4W(x:(Z5×Z1)):Option Int:= (show Option (Int×(Int×((List Int)×(Bool×Z19))))from(a9x (x.1,x.2.1,x.2.2.1)).bind fun y1=> cond (!y1) (some (x.2.1,x.2.2.1,x.2.2.2,true,x.1,())) ((a7l (x.2.1,x.2.2.1,x.2.2.2)).bind fun y2=> some (x.2.1,x.2.2.1,x.2.2.2,!y2,x.1,()))).bind fun z3=> cond z3.2.2.2.1 (some 0) ((a3x (z3.2.2.2.2.1.1,z3.1,z3.2.1)).bind fun y4=> (a0j a1H (z3.2.2.1,4,(y4.length:Int),0,y4,z3.2.2.2.2.1,())).bind fun w9=> some w9.1)
def b4K:FSem:=⟨[.v Q7,.v QI,.v QI,.v QL],[.v QI],a4W⟩
def d9l:Hints:=⟨[(122,[.sv 3 QL,.sv 9 QI,.sv 30 QI,.sv 31 QI,.own 29 1029 QI,.vp 4 Q7],[(.exit 0,[.sv 9 QI])])],[(6,[(.normal,[.sv 1 QI,.sv 2 QI,.sv 3 QL,.sv 24 .bool,.vp 4 Q7])])],[]⟩
def a3S(s:Z49):Option (Z49 ⊕ Z20):= cond (decide (s.2.1<s.1)) ((a2A (s.2.2.1,0)).bind fun y2=> some (.inl (s.1,wrap .i64 (s.2.1+1),y2,()))) (some (.inr (s.2.2.1,())))
def a2J(x:(Z6×Int)):Option Z17:= (show Option (Int×Bool×Z20)from cond (decide (x.2<0)) (some (x.2,true,x.1,())) (some (x.2,decide (x.2 > 4096),x.1,()))).bind fun z1=> cond z1.2.1 (some (1,z1.2.2.1)) ((a0j a3S (z1.1,0,z1.2.2.1,())).bind fun w3=> (a2A (w3.1,1)).bind fun y4=> some (0,y4))
def b1D:FSem:=⟨[.r false (.b Q5),.v QI],[.v QI],a2J⟩
def d9m:Hints:=⟨[(58,[.sv 11 QI,.sv 12 QI,.box pinned Q5,.ptr 0 pinned []],[(.exit 0,[.box pinned Q5,.ptr 0 pinned []])])],[(6,[(.normal,[.sv 1 QI,.sv 10 .bool,.box pinned Q5,.ptr 0 pinned []])])],[]⟩
def a9V(s:(Int×((List Int)×Z69))):Option ((Int×((List Int)×Z69)) ⊕ ((Int×((List Int)×Z20)) ⊕ Z33)):= cond (decide (s.2.2.2.2.1<s.2.2.2.1)) ((a0o s.2.2.1 s.2.2.2.2.1).bind fun x2=> (a7E x2).bind fun y3=> cond (!y3) (some (.inr (Sum.inr ((1,s.2.2.2.2.2.1,()))))) (some (.inl (s.1,s.2.1,s.2.2.1,s.2.2.2.1,wrap .i64 (s.2.2.2.2.1+1),s.2.2.2.2.2.1,())))) (some (.inr (Sum.inl (s.1,s.2.1,s.2.2.2.2.2.1,()))))
def a7m(s:Z77):Option (Z77 ⊕ Z20):= cond (decide (s.2.2.2.1<s.2.2.1)) ((a0o s.2.1 s.2.2.2.1).bind fun x7=> (a9C x7).bind fun y8=> cond (decide (s.1<0)) none (cond (decide ((a0F .u64 y8 s.1)<32)) ((a2J (s.2.2.2.2.1,wrap .i64 (a0F .u64 y8 s.1))).bind fun y9=> cond (decide (s.1<0)) none ((a0l (y9.2,wrap .u64 (y8-(a0y .u64 (a0F .u64 y8 s.1) s.1)),s.1)).bind fun y10=> some (.inl (s.1,s.2.1,s.2.2.1,wrap .i64 (s.2.2.2.1+1),y10.2,())))) ((a2J (s.2.2.2.2.1,32)).bind fun y11=> (a0l (y11.2,y8,32)).bind fun y12=> some (.inl (s.1,s.2.1,s.2.2.1,wrap .i64 (s.2.2.2.1+1),y12.2,()))))) (some (.inr (s.2.2.2.2.1,())))
def b3Q(x:(Z6×(Int×(List Int)))):Option Z17:= (a2m x.2.1).bind fun y1=> cond (!y1) (some (1,x.1)) ((a0j a9V (x.2.1,x.2.2,x.2.2,(x.2.2.length:Int),0,x.1,())).bind fun w4=> match w4 with |.inl a5=>((a0j a7m (a5.1,a5.2.1,(a5.2.1.length:Int),0,a5.2.2.1,())).bind fun w13=> some (0,w13.1)) |.inr b6=>some (b6.1,b6.2.1))
def c2P:FSem:=⟨[.r false (.b Q5),.v QI,.v QL],[.v QI],b3Q⟩
def d9n:Hints:=⟨[(58,[.sv 1 QI,.sv 2 QL,.sv 16 QL,.sv 17 QI,.sv 18 QI,.box pinned Q5,.ptr 0 pinned []],[(.exit 0,[.sv 1 QI,.sv 2 QL,.box pinned Q5,.ptr 0 pinned []]),(.ret,[.sv 6 QI,.box pinned Q5])]),(122,[.sv 1 QI,.sv 26 QL,.sv 27 QI,.sv 28 QI,.box pinned Q5,.ptr 0 pinned []],[(.exit 2,[.box pinned Q5])])],[],[]⟩
def a8W(s:((List Int)×(Int×Int×Int×Z87))):Option (((List Int)×(Int×Int×Int×Z87)) ⊕ Z87):= cond (decide (s.2.2.2.2.2.2.1<s.2.2.2.2.2.1)) ((a0o s.2.2.2.2.1 s.2.2.2.2.2.2.1).bind fun x11=> cond (decide (s.2.1<0)) none ((a0l (s.2.2.2.2.2.2.2.2.1,bits .u64 .and (wrap .u64 x11) (wrap .u64 ((a0y .u64 1 s.2.1)-1)),s.2.1)).bind fun y12=> some (.inl (s.1,s.2.1,s.2.2.1,s.2.2.2.1,s.2.2.2.2.1,s.2.2.2.2.2.1,wrap .i64 (s.2.2.2.2.2.2.1+1),s.2.2.2.2.2.2.2.1,y12.2,s.2.2.2.2.2.2.2.2.2.1,())))) (some (.inr (s.1,s.2.2.1,s.2.2.2.1,s.2.2.2.2.2.2.2.1,s.2.2.2.2.2.2.2.2.1,s.2.2.2.2.2.2.2.2.2.1,())))
def a4Q(s:Z87):Option (Z87 ⊕ Z20):= cond (decide (s.2.2.1<s.2.1)) (cond ((decide (0≤s.2.2.1))&&(decide (s.2.2.1<(s.2.2.2.1.length:Int)))) (cond ((decide (0≤(a03 s.2.2.2.1 (a01 s.2.2.1) 0)))&&(decide ((a03 s.2.2.2.1 (a01 s.2.2.1) 0)≤(s.1.length:Int)))) (cond ((decide (0≤(a03 s.2.2.2.1 (a01 s.2.2.1) 0)))&&(decide ((a03 s.2.2.2.1 (a01 s.2.2.1) 0)≤(s.1.length:Int)))) ((a0o s.2.2.2.2.2.1.2.1 s.2.2.1).bind fun x4=> (a0l (s.2.2.2.2.1,wrap .u64 x4,5)).bind fun y5=> (a0o s.2.2.2.2.2.1.2.1 s.2.2.1).bind fun x6=> cond (x6 != 31) ((a0o s.2.2.2.2.2.1.2.1 s.2.2.1).bind fun x7=> (b3Q (y5.2,x7,a07 (a01 (a03 s.2.2.2.1 (a01 s.2.2.1) 0)) s.1)).bind fun y8=> some (.inl (a30 (a01 (a03 s.2.2.2.1 (a01 s.2.2.1) 0)) (a07 (a02 s.1) s.1),s.2.1,wrap .i64 (s.2.2.1+1),s.2.2.2.1,y8.2,s.2.2.2.2.2.1,()))) ((a1E (a07 (a01 (a03 s.2.2.2.1 (a01 s.2.2.1) 0)) s.1)).bind fun y9=> (a0l (y5.2,wrap .u64 y9,5)).bind fun y10=> (a0j a8W (a30 (a01 (a03 s.2.2.2.1 (a01 s.2.2.1) 0)) (a07 (a02 s.1) s.1),y9,s.2.1,s.2.2.1,a07 (a01 (a03 s.2.2.2.1 (a01 s.2.2.1) 0)) s.1,((a02 (a07 (a01 (a03 s.2.2.2.1 (a01 s.2.2.1) 0)) s.1):Nat):Int),0,s.2.2.2.1,y10.2,s.2.2.2.2.2.1,())).bind fun w13=> some (.inl (w13.1,w13.2.1,wrap .i64 (w13.2.2.1+1),w13.2.2.2.1,w13.2.2.2.2.1,w13.2.2.2.2.2.1,())))) none) none) none) (some (.inr (s.2.2.2.2.1,())))
def b2z(x:(Z6×Z5×Z1)):Option Z17:= (a4W (x.2.1,x.2.2.1,x.2.2.2.1,x.2.2.2.2)).bind fun y1=> cond (y1==0) (some (1,x.1)) ((a0l (x.1,wrap .u64 x.2.1.1,4)).bind fun y2=> (a3x (x.2.1.1,x.2.2.1,x.2.2.2.1)).bind fun y3=> (a0j a4Q (x.2.2.2.2,(y3.length:Int),0,y3,y2.2,x.2.1,())).bind fun w14=> some (0,w14.1))
def c0O:FSem:=⟨[.r false (.b Q5),.v Q7,.v QI,.v QI,.v QL],[.v QI],b2z⟩
def d9o:Hints:=⟨[(122,[.sv 4 QL,.sv 33 QI,.sv 34 QI,.own 32 1032 QI,.box pinned Q5,.ptr 0 pinned [],.vp 6 Q7],[(.exit 0,[.box pinned Q5])]),(2005502,[.sv 4 QL,.sv 14 QI,.sv 33 QI,.sv 34 QI,.sv 73 QL,.sv 74 QI,.sv 75 QI,.own 32 1032 QI,.box pinned Q5,.ptr 0 pinned [],.vp 6 Q7],[(.exit 2,[.sv 4 QL,.sv 33 QI,.sv 34 QI,.own 32 1032 QI,.box pinned Q5,.ptr 0 pinned [],.vp 6 Q7])])],[],[]⟩
def b1f(s:(Int×(Int×((List Int)×d0n)))):Option ((Int×(Int×((List Int)×d0n))) ⊕ b6g):= cond (decide (s.2.2.2.1<3)) ((a0o s.2.2.1 s.2.2.2.1).bind fun x8=> (a3m (s.2.2.2.2.1,x8,8)).bind fun y9=> some (.inl (s.1,s.2.1,s.2.2.1,wrap .i64 (s.2.2.2.1+1),y9,s.2.2.2.2.2.1,()))) (some (.inr (s.1,s.2.1,s.2.2.2.2.1,s.2.2.2.2.2.1,())))
def b1g(s:(Int×Int×Z4×b6g)):Option ((Int×Int×Z4×b6g) ⊕ b6g):= cond (decide (s.2.2.2.2.1<s.2.2.2.1)) ((a0o s.2.2.1 s.2.2.2.2.1).bind fun x18=> (a0l (s.2.2.2.2.2.1,wrap .u64 (wrap .i64 (x18.1-1)),5)).bind fun y19=> (a0l (y19.2,wrap .u64 x18.2.1,4)).bind fun y20=> some (.inl (s.1,s.2.1,s.2.2.1,s.2.2.2.1,wrap .i64 (s.2.2.2.2.1+1),y20.2,s.2.2.2.2.2.2.1,()))) (some (.inr (s.1,s.2.1,s.2.2.2.2.2.1,s.2.2.2.2.2.2.1,())))
def b1h(s:(Int×(Int×((List Int)×b6g)))):Option ((Int×(Int×((List Int)×b6g))) ⊕ d0n):= cond (decide (s.2.2.2.2.1<s.2.2.2.1)) ((a0o s.2.2.1 s.2.2.2.2.1).bind fun x23=> (a3m (s.2.2.2.2.2.1,x23,s.2.1)).bind fun y24=> some (.inl (s.1,s.2.1,s.2.2.1,s.2.2.2.1,wrap .i64 (s.2.2.2.2.1+1),y24,s.2.2.2.2.2.2.1,()))) (some (.inr (s.1,s.2.2.2.2.2.1,s.2.2.2.2.2.2.1,())))
def b0A(x:(Z6×Z95)):Option Z17:= (b0z (x.2.1,x.2.2)).bind fun y1=> cond (!y1) (some (1,x.1)) ((a1E x.2.1.2.2.2.2.2.2.2.2.1).bind fun y2=> (a0l (x.1,wrap .u64 x.2.1.1,3)).bind fun y3=> (a0l (y3.2,wrap .u64 x.2.1.2.1,5)).bind fun y4=> (a0l (y4.2,wrap .u64 y2,5)).bind fun y5=> (show Option b6g from(show Option (b6g ⊕ (b6g ⊕ b6g))from cond (x.2.1.1==2) ((a0l (y5.2,wrap .u64 x.2.1.2.2.1,3)).bind fun y6=> some (Sum.inr (Sum.inl (x.2.2,y2,y6.2,x.2.1,())))) (cond (x.2.1.1==4) ((a0l (y5.2,wrap .u64 (wrap .i64 (x.2.1.2.2.2.2.1-1)),10)).bind fun y7=> (a0j b1f (x.2.2,y2,x.2.1.2.2.2.2.2.2.1,0,y7.2,x.2.1,())).bind fun w10=> some (Sum.inl (w10.1,w10.2.1,w10.2.2.1,w10.2.2.2.1,()))) (cond (x.2.1.1==3) (some (Sum.inl (x.2.2,y2,y5.2,x.2.1,()))) (cond (x.2.1.1==5) (some (Sum.inr (Sum.inr ((x.2.2,y2,y5.2,x.2.1,()))))) (some (Sum.inr (Sum.inl (x.2.2,y2,y5.2,x.2.1,())))))))).bind fun z11=> match z11 with |.inl a12=>((a8V (a12.2.2.1,a12.2.2.2.1)).bind fun y14=> some (a12.1,a12.2.1,y14,a12.2.2.2.1,())) |.inr b13=>(match b13 with |.inl a15=>some (a15.1,a15.2.1,a15.2.2.1,a15.2.2.2.1,()) |.inr b16=>((a0l (b16.2.2.1,wrap .u64 (b16.2.2.2.1.2.2.2.2.2.2.2.1.length:Int),2)).bind fun y17=> (a0j b1g (b16.1,b16.2.1,b16.2.2.2.1.2.2.2.2.2.2.2.1,(b16.2.2.2.1.2.2.2.2.2.2.2.1.length:Int),0,y17.2,b16.2.2.2.1,())).bind fun w21=> some (w21.1,w21.2.1,w21.2.2.1,w21.2.2.2.1,())))).bind fun z22=> (a0j b1h (z22.1,z22.2.1,z22.2.2.2.1.2.2.2.2.2.2.2.2.1,(z22.2.2.2.1.2.2.2.2.2.2.2.2.1.length:Int),0,z22.2.2.1,z22.2.2.2.1,())).bind fun w25=> (a6q w25.2.2.1.1).bind fun y26=> cond (!y26) (some (0,w25.2.1)) ((b2z (w25.2.1,w25.2.2.1.2.2.2.2.2.2.2.2.2.1,w25.1,(w25.2.2.1.2.2.2.2.2.2.2.2.1.length:Int),w25.2.2.1.2.2.2.2.2.2.2.2.2.2.1)).bind fun y27=> some (y27.1,y27.2)))
def b9x:FSem:=⟨[.r false (.b Q5),.v Q31,.v QI],[.v QI],b0A⟩
def H51:Hints:=⟨[(2042,[.sv 2 QI,.sv 7 QI,.sv 94 QL,.sv 95 QI,.sv 96 QI,.box pinned Q5,.ptr 0 pinned [],.vp 4 Q31],[(.exit 9,[.sv 2 QI,.box pinned Q5,.ptr 0 pinned [],.vp 4 Q31])]),(32598,[.sv 2 QI,.sv 7 QI,.sv 75 (.list false Q3),.sv 76 QI,.sv 77 QI,.box pinned Q5,.ptr 0 pinned [],.vp 4 Q31],[(.exit 7,[.sv 2 QI,.sv 7 QI,.box pinned Q5,.ptr 0 pinned [],.vp 4 Q31])]),(260622,[.sv 2 QI,.sv 7 QI,.sv 57 (.arr 3 QI),.sv 58 QI,.box pinned Q5,.ptr 0 pinned [],.vp 4 Q31],[(.exit 5,[.sv 2 QI,.sv 7 QI,.box pinned Q5,.ptr 0 pinned [],.vp 4 Q31])])],[(127,[(.normal,[.sv 2 QI,.sv 7 QI,.box pinned Q5,.ptr 0 pinned [],.vp 4 Q31])]),(4072,[(.normal,[.sv 2 QI,.sv 7 QI,.box pinned Q5,.ptr 0 pinned [],.vp 4 Q31]),(.exit 0,[.sv 2 QI,.sv 7 QI,.box pinned Q5,.ptr 0 pinned [],.vp 4 Q31]),(.exit 4,[.sv 2 QI,.sv 7 QI,.box pinned Q5,.ptr 0 pinned [],.vp 4 Q31])])],[]⟩
def a3T(s:Z20):Option (Z20 ⊕ Z20):= cond ((a26 s.1.2.1 8) != 0) ((a2A (s.1,0)).bind fun y2=> some (.inl (y2,()))) (some (.inr (s.1,())))
def a5e(x:Z6):Option Z6:= (a0j a3T (x,())).bind fun w3=> some w3.1
def b1E:FSem:=⟨[.r false (.b Q5)],[],a5e⟩
def H52:Hints:=⟨[(2,[.box pinned Q5,.ptr 0 pinned []],[(.exit 0,[.box pinned Q5])])],[],[]⟩
def a5f(x:Z6):Option ((List Int)×Z6):= cond (lim (a02 x.1)) (some (x.1,x)) none
def b1F:FSem:=⟨[.r false (.b Q5)],[.o (.int .u8)],a5f⟩
def H53:Hints:=⟨[],[],[]⟩
def b2A(x:Int):Option Int:= cond (decide (x≥0)) (some (wrap .u64 (2*(wrap .u64 x)))) (some (wrap .u64 ((wrap .u64 (2*(wrap .u64 (wrap .i64 (0-(wrap .i64 (x+1)))))))+1)))
def c0P:FSem:=⟨[.v QI],[.v (.int .u64)],b2A⟩
def d9p:Hints:=⟨[],[],[]⟩
def a8X(s:Z53):Option (Z53 ⊕ Z53):= cond (decide (s.1≥128)) (cond (lim ((a02 s.2.2.2.2.1)+1)) (some (.inl (wrap .u64 (a21 s.1 128),s.2.1,s.2.2.1,s.2.2.2.1,a04 s.2.2.2.2.1 [wrap .u8 ((wrap .u8 (a26 s.1 128))+128)],()))) none) (some (.inr (s.1,s.2.1,s.2.2.1,s.2.2.2.1,s.2.2.2.2.1,())))
def a8Y(s:Z37):Option (Z37 ⊕ ((List Int)×Unit)):= cond (decide (s.2.2.1<s.2.1)) ((a0o s.1 s.2.2.1).bind fun x1=> (a0j a8X (x1,s.1,s.2.1,s.2.2.1,s.2.2.2.1,())).bind fun w2=> cond (lim ((a02 w2.2.2.2.2.1)+1)) (some (.inl (w2.2.1,w2.2.2.1,wrap .i64 (w2.2.2.2.1+1),a04 w2.2.2.2.2.1 [wrap .u8 w2.1],()))) none) (some (.inr (s.2.2.2.1,())))
def b2B(x:(List Int)):Option (List Int):= (a0j a8Y (x,(x.length:Int),0,[],())).bind fun w3=> some w3.1
def c0Q:FSem:=⟨[.v (.list false (.int .u64))],[.o (.int .u8)],b2B⟩
def d9q:Hints:=⟨[(58,[.sv 6 (.list false (.int .u64)),.sv 7 QI,.sv 8 QI,.own 3 3 (.int .u8)],[(.exit 0,[.own 3 3 (.int .u8)])]),(14948,[.sv 5 (.int .u64),.sv 6 (.list false (.int .u64)),.sv 7 QI,.sv 8 QI,.own 3 3 (.int .u8)],[(.exit 2,[.sv 5 (.int .u64),.sv 6 (.list false (.int .u64)),.sv 7 QI,.sv 8 QI,.own 3 3 (.int .u8)])])],[],[]⟩
def b1i(s:Z47):Option (Z47 ⊕ Z27):= cond (decide (s.2.2.2.2.1<8)) (cond ((a0F .u8 s.1 7)==1) (some (.inl (bits .u8 .xor (a0y .u8 s.1 1) 7,s.2.1,s.2.2.1,s.2.2.2.1,wrap .i64 (s.2.2.2.2.1+1),()))) (some (.inl (a0y .u8 s.1 1,s.2.1,s.2.2.1,s.2.2.2.1,wrap .i64 (s.2.2.2.2.1+1),())))) (some (.inr (s.1,s.2.1,s.2.2.1,s.2.2.2.1,())))
def a7V(s:Z27):Option Z58:= cond (decide (s.2.2.2.1<s.2.2.1)) ((a0o s.2.1 s.2.2.2.1).bind fun x1=> (a0j b1i (bits .u8 .xor s.1 x1,s.2.1,s.2.2.1,s.2.2.2.1,0,())).bind fun w2=> some (.inl (w2.1,w2.2.1,w2.2.2.1,wrap .i64 (w2.2.2.2.1+1),()))) (some (.inr (s.1,())))
def a8s(x:(List Int)):Option Int:= (a0j a7V (0,x,(x.length:Int),0,())).bind fun w3=> some w3.1
def b4L:FSem:=⟨[.v (.list false (.int .u8))],[.v (.int .u8)],a8s⟩
def d9r:Hints:=⟨[(58,[.sv 3 (.int .u8),.sv 7 (.list false (.int .u8)),.sv 8 QI,.sv 9 QI],[(.exit 0,[.sv 3 (.int .u8)])]),(29902,[.sv 3 (.int .u8),.sv 7 (.list false (.int .u8)),.sv 8 QI,.sv 9 QI,.sv 16 QI],[(.exit 2,[.sv 3 (.int .u8),.sv 7 (.list false (.int .u8)),.sv 8 QI,.sv 9 QI])])],[],[]⟩
def a5E(s:(Int×Z14×Z16)):Option ((Int×Z14×Z16) ⊕ Z5):= cond (decide (s.2.2.2.1<s.2.2.1)) ((a0o s.2.1 s.2.2.2.1).bind fun x1=> (b2A x1.2.2.1).bind fun y2=> cond (lim ((a02 s.2.2.2.2.1)+3)) (some (.inl (s.1,s.2.1,s.2.2.1,wrap .i64 (s.2.2.2.1+1),a04 s.2.2.2.2.1 [wrap .u64 x1.1,wrap .u64 x1.2.1,y2],()))) none) (some (.inr (s.1,s.2.2.2.2.1,())))
def a7W(x:(a5W×Int)):Option (List Int):= (a0j a5E (x.2,x.1.2.2.2.1,(x.1.2.2.2.1.length:Int),0,([wrap .u64 x.1.1,wrap .u64 x.1.2.1,wrap .u64 x.1.2.2.1.1,wrap .u64 x.1.2.2.1.2.1,wrap .u64 x.1.2.2.1.2.2.1,wrap .u64 (x.1.2.2.2.1.length:Int)]:List Int),())).bind fun w3=> cond (lim ((a02 w3.2.1)+1)) ((b2B (a04 w3.2.1 [wrap .u64 w3.1])).bind fun y4=> cond (lim (2+(a02 y4))) ((a8s (a04 [245,75] y4)).bind fun y5=> cond (lim ((a02 (a04 [245,75] y4))+1)) (some (a04 (a04 [245,75] y4) [y5])) none) none) none
def b5t:FSem:=⟨[.v Q49,.v QI],[.o (.int .u8)],a7W⟩
def H54:Hints:=⟨[(58,[.sv 1 QI,.sv 33 (.list false Q8),.sv 34 QI,.sv 35 QI,.own 5 5 (.int .u64)],[(.exit 0,[.sv 1 QI,.own 5 5 (.int .u64)])])],[],[(5,[.q,.q,.q,.v,.q,.q,.v,.q,.q,.v,.q,.x,.x])]⟩
def b3w(x:Int):Option Int:= some (a3Z (a2K x 0) 8)
def b8q:FSem:=⟨[.v QI],[.v QI],b3w⟩
def d9s:Hints:=⟨[],[],[]⟩
def a4X(s:Z30):Option (Z30 ⊕ ((List Int)×Unit)):= cond (decide (s.2.2.1<s.2.1)) (cond (lim ((a02 s.2.2.2.1)+1)) (some (.inl (wrap .u64 (a21 s.1 256),s.2.1,wrap .i64 (s.2.2.1+1),a04 s.2.2.2.1 [wrap .u8 (a26 s.1 256)],()))) none) (some (.inr (s.2.2.2.1,())))
def a9W(x:(Int×Int)):Option (List Int):= (b3w x.2).bind fun y1=> (a0j a4X (x.1,y1,0,[],())).bind fun w2=> some w2.1
def b8r:FSem:=⟨[.v (.int .u64),.v QI],[.o (.int .u8)],a9W⟩
def d9t:Hints:=⟨[(58,[.sv 0 (.int .u64),.sv 7 QI,.sv 8 QI,.own 5 5 (.int .u8)],[(.exit 0,[.own 5 5 (.int .u8)])])],[],[]⟩
def a3z(x:(List Int)):Option (List Int):= cond (decide (a02 x<2147483648)) (some (List.reverse x)) none
def a6c:FSem:=⟨[.r false (.o (.int .u8))],[],a3z⟩
def b2C(x:(Int×Int)):Option (List Int):= (a9W (x.1,x.2)).bind fun y1=> (a3z y1).bind fun y2=> some y2
def c0R:FSem:=⟨[.v (.int .u64),.v QI],[.o (.int .u8)],b2C⟩
def H55:Hints:=⟨[],[],[]⟩
def a9l(s:Z47):Option (Z47 ⊕ Z27):= cond (decide (s.2.2.2.2.1<8)) (cond ((a0F .u16 s.1 15)==1) (some (.inl (bits .u16 .xor (a0y .u16 s.1 1) 32773,s.2.1,s.2.2.1,s.2.2.2.1,wrap .i64 (s.2.2.2.2.1+1),()))) (some (.inl (a0y .u16 s.1 1,s.2.1,s.2.2.1,s.2.2.2.1,wrap .i64 (s.2.2.2.2.1+1),())))) (some (.inr (s.1,s.2.1,s.2.2.1,s.2.2.2.1,())))
def a6g(s:Z27):Option Z58:= cond (decide (s.2.2.2.1<s.2.2.1)) ((a0o s.2.1 s.2.2.2.1).bind fun x1=> (a0j a9l (bits .u16 .xor s.1 (a0y .u16 (wrap .u16 x1) 8),s.2.1,s.2.2.1,s.2.2.2.1,0,())).bind fun w2=> some (.inl (w2.1,w2.2.1,w2.2.2.1,wrap .i64 (w2.2.2.2.1+1),()))) (some (.inr (s.1,())))
def a6u(x:(List Int)):Option Int:= (a0j a6g (0,x,(x.length:Int),0,())).bind fun w3=> some w3.1
def b1U:FSem:=⟨[.v (.list false (.int .u8))],[.v (.int .u16)],a6u⟩
def H56:Hints:=⟨[(58,[.sv 3 (.int .u16),.sv 7 (.list false (.int .u8)),.sv 8 QI,.sv 9 QI],[(.exit 0,[.sv 3 (.int .u16)])]),(29902,[.sv 3 (.int .u16),.sv 7 (.list false (.int .u8)),.sv 8 QI,.sv 9 QI,.sv 18 QI],[(.exit 2,[.sv 3 (.int .u16),.sv 7 (.list false (.int .u8)),.sv 8 QI,.sv 9 QI])])],[],[]⟩
def a8Z(s:(Z94×Int×Int×Z6×b7L)):Option ((Z94×Int×Int×Z6×b7L) ⊕ ((Z6×b7L) ⊕ Z5)):= cond (decide (s.2.2.1<s.2.1)) ((a0o s.1 s.2.2.1).bind fun x2=> (b0A (s.2.2.2.1,x2,s.2.2.2.2.1.2.1)).bind fun y3=> cond (y3.1 != 0) (some (.inr (Sum.inr ((y3.1,[],()))))) (some (.inl (s.1,s.2.1,wrap .i64 (s.2.2.1+1),y3.2,s.2.2.2.2.1,())))) (some (.inr (Sum.inl (s.2.2.2.1,s.2.2.2.2.1,()))))
def a7G(x:a5W):Option ((List Int)×Int):= (a3Q x).bind fun y1=> cond (!y1) (some ([],1)) ((a0j a8Z (x.2.2.2.2.1,(x.2.2.2.2.1.length:Int),0,([],0,()),x,())).bind fun w4=> match w4 with |.inl a5=>((a5e a5.1).bind fun y7=> (a5f y7).bind fun y8=> (a7W (a5.2.1,(y8.1.length:Int))).bind fun y9=> cond (lim ((a02 y9)+(a02 y8.1))) ((a6u (a04 y9 y8.1)).bind fun y10=> (b2C (wrap .u64 y10,2)).bind fun y11=> cond (lim ((a02 (a04 y9 y8.1))+(a02 y11))) (some (a04 (a04 y9 y8.1) y11,0)) none) none) |.inr b6=>some (b6.2.1,b6.1))
def b6m:FSem:=⟨[.v Q49],[.o (.int .u8),.v QI],a7G⟩
def H19:Hints:=⟨[(122,[.sv 14 (.list false Q31),.sv 15 QI,.sv 16 QI,.box 4 Q5,.vp 1 Q49,.ptr 4 4 []],[(.exit 0,[.box 4 Q5,.vp 1 Q49,.ptr 4 4 []]),(.ret,[.sv 3 QI,.own 2 2 (.int .u8)])])],[],[]⟩
def a4Y(s:((List Int)×Z6)):Option (((List Int)×Z6) ⊕ Z0):= cond (decide (s.2.2.1<(s.1.length:Int))) ((a0o s.1 s.2.2.1).bind fun x1=> (a0o s.2.1 s.2.2.1).bind fun x2=> cond (x1 != x2) (some (.inr (Sum.inr ((false,()))))) (some (.inl (s.1,s.2.1,wrap .i64 (s.2.2.1+1),())))) (some (.inr (Sum.inl ())))
def a3y(x:((List Int)×(List Int))):Option Bool:= cond ((x.1.length:Int) != (x.2.length:Int)) (some false) ((a0j a4Y (x.1,x.2,0,())).bind fun w3=> match w3 with |.inl a4=>some true |.inr b5=>some b5.1)
def a9X:FSem:=⟨[.v QL,.v QL],[.v .bool],a3y⟩
def H88:Hints:=⟨[(58,[.sv 0 QL,.sv 1 QL,.sv 5 QI],[(.exit 0,[]),(.ret,[.sv 4 .bool])])],[],[(6,[.v,.v,.v,.v,.v,.v,.v,.v,.x])]⟩
def a6h(s:((List (List Int))×Z13)):Option (((List (List Int))×Z13) ⊕ Z0):= cond (decide (s.2.2.1<(s.1.length:Int))) ((a0o s.1 s.2.2.1).bind fun x1=> (a0o s.2.1 s.2.2.1).bind fun x2=> (a3y (x1,x2)).bind fun y3=> cond (!y3) (some (.inr (Sum.inr ((false,()))))) (some (.inl (s.1,s.2.1,wrap .i64 (s.2.2.1+1),())))) (some (.inr (Sum.inl ())))
def a9a(x:((List (List Int))×(List (List Int)))):Option Bool:= cond ((x.1.length:Int) != (x.2.length:Int)) (some false) ((a0j a6h (x.1,x.2,0,())).bind fun w4=> match w4 with |.inl a5=>some true |.inr b6=>some b6.1)
def b6O:FSem:=⟨[.v (.list false QL),.v (.list false QL)],[.v .bool],a9a⟩
def H64:Hints:=⟨[(58,[.sv 0 (.list false QL),.sv 1 (.list false QL),.sv 5 QI],[(.exit 0,[]),(.ret,[.sv 4 .bool])])],[],[(6,[.v,.v,.v,.v,.v,.v,.v,.v,.x,.x])]⟩
def a5F(x:(Z12×Z12)):Option Bool:= cond (x.1.1==x.2.1) ((a9a (x.1.2.1,x.2.2.1)).bind fun y1=> some y1) (some false)
def b1j:FSem:=⟨[.v Q10,.v Q10],[.v .bool],a5F⟩
def H23:Hints:=⟨[],[],[]⟩
def b2D(x:(List Int)):Option Z15:= cond (lim (a02 x)) (some (x,0,0,())) none
def c0S:FSem:=⟨[.v (.list false (.int .u8))],[.b Q11],b2D⟩
def d9u:Hints:=⟨[],[],[]⟩
def a6i(s:Z27):Option (Z27 ⊕ (Unit ⊕ Z7)):= cond (decide (s.2.2.2.1<s.2.2.1)) ((a0o s.2.1 s.2.2.2.1).bind fun x1=> (show Option (Int×Int×Int×Z32)from cond (s.2.2.2.1==9) (cond (decide (x1 > 1)) (some (s.1,s.2.2.2.1,x1,s.2.1,s.2.2.1,s.2.2.2.1,true,())) (cond (decide (s.2.2.2.1 > 0)) (some (s.1,s.2.2.2.1,x1,s.2.1,s.2.2.1,s.2.2.2.1,x1==0,())) (some (s.1,s.2.2.2.1,x1,s.2.1,s.2.2.1,s.2.2.2.1,false,())))) (cond (decide (s.2.2.2.1 > 0)) (some (s.1,s.2.2.2.1,x1,s.2.1,s.2.2.1,s.2.2.2.1,x1==0,())) (some (s.1,s.2.2.2.1,x1,s.2.1,s.2.2.1,s.2.2.2.1,false,())))).bind fun z2=> cond z2.2.2.2.2.2.2.1 (some (.inr (Sum.inr ((0,0,2,()))))) (cond (decide ((wrap .i64 (7*z2.2.1))<0)) none (cond (decide (z2.2.2.1<128)) (some (.inr (Sum.inr ((bits .u64 .or z2.1 (a0y .u64 (wrap .u64 (a26 z2.2.2.1 128)) (wrap .i64 (7*z2.2.1))),wrap .i64 (z2.2.1+1),0,()))))) (some (.inl (bits .u64 .or z2.1 (a0y .u64 (wrap .u64 (a26 z2.2.2.1 128)) (wrap .i64 (7*z2.2.1))),z2.2.2.2.1,z2.2.2.2.2.1,wrap .i64 (z2.2.2.2.2.2.1+1),())))))) (some (.inr (Sum.inl ())))
def a9b(x:(List Int)):Option (Int×Int×Int):= (a0j a6i (0,x,(x.length:Int),0,())).bind fun w3=> match w3 with |.inl a4=>some (0,0,3) |.inr b5=>some (b5.1,b5.2.1,b5.2.2.1)
def b6P:FSem:=⟨[.v (.list false (.int .u8))],[.v (.int .u64),.v QI,.v QI],a9b⟩
def d9v:Hints:=⟨[(58,[.sv 5 (.int .u64),.sv 8 (.list false (.int .u8)),.sv 9 QI,.sv 10 QI],[(.exit 0,[]),(.ret,[.sv 2 (.int .u64),.sv 3 QI,.sv 4 QI])])],[(7474,[(.normal,[.sv 5 (.int .u64),.sv 6 QI,.sv 7 (.int .u8),.sv 8 (.list false (.int .u8)),.sv 9 QI,.sv 10 QI,.sv 28 .bool])])],[]⟩
def a0W(x:Z31):Option Z27:= cond (x.1.2.2.1 != 0) (some (0,x.1)) (cond ((decide (0≤x.1.2.1))&&(decide (x.1.2.1≤(x.1.1.length:Int)))) ((a9b (a30 (a01 x.1.2.1) (a07 (a02 x.1.1) x.1.1))).bind fun y1=> (show Option Z72 from cond (y1.2.2==0) (cond (decide (y1.1 > x.2)) (some (y1.1,y1.2.1,4,x.1,())) (some (y1.1,y1.2.1,y1.2.2,x.1,()))) (some (y1.1,y1.2.1,y1.2.2,x.1,()))).bind fun z2=> cond (z2.2.2.1 != 0) (some (0,z2.2.2.2.1.1,z2.2.2.2.1.2.1,z2.2.2.1,z2.2.2.2.1.2.2.2)) (some (z2.1,z2.2.2.2.1.1,wrap .i64 (z2.2.2.2.1.2.1+z2.2.1),z2.2.2.2.1.2.2))) none)
def b3d:FSem:=⟨[.r false (.b Q11),.v (.int .u64)],[.v (.int .u64)],a0W⟩
def d9w:Hints:=⟨[],[(15,[(.normal,[.sv 5 (.int .u64),.sv 6 QI,.sv 7 QI,.box pinned Q11,.ptr 0 pinned []])])],[(3,[.p,.p,.q,.q,.p,.p,.q,.q,.x,.x,.x,.v,.v,.v,.v,.v,.x])]⟩
def b2E(x:Int):Option Int:= cond ((a26 x 2)==0) (some (wrap .i64 (wrap .u64 (a21 x 2)))) (some (wrap .i64 ((wrap .i64 (0-(wrap .i64 (wrap .u64 (a21 x 2)))))-1)))
end Go.Ab
namespace Go.Ab
open IntKind(wrap)
open Go.Proofs
set_option maxRecDepth 100000
set_option linter.unusedVariables false
def c0T:FSem:=⟨[.v (.int .u64)],[.v QI],b2E⟩
def d9x:Hints:=⟨[],[],[]⟩
def a8t(x:Z15):Option Z27:= some (x.2.2.1,x)
def b3e:FSem:=⟨[.r false (.b Q11)],[.v QI],a8t⟩
def d9y:Hints:=⟨[],[],[]⟩
def a7O(x:Z15):Option Z27:= some (wrap .i64 ((x.1.length:Int)-x.2.1),x)
def b1G:FSem:=⟨[.r false (.b Q11)],[.v QI],a7O⟩
def d9z:Hints:=⟨[],[],[(1,[.p,.p,.q,.q,.v,.p,.p,.q,.q,.x,.x])]⟩
def a9m(x:Z15):Option Z27:= some (x.2.1,x)
def b3C:FSem:=⟨[.r false (.b Q11)],[.v QI],a9m⟩
def d9A:Hints:=⟨[],[],[]⟩
def a5G(s:((List Int)×(Int×Int×c4d))):Option (((List Int)×(Int×Int×c4d)) ⊕ ((List Int)×c4d)):= cond (decide (s.2.2.1<s.2.1)) ((a0W (s.2.2.2.2.1,7)).bind fun y11=> (a0W (y11.2,7)).bind fun y12=> (a0W (y12.2,2048)).bind fun y13=> (b2E y13.1).bind fun y14=> cond (lim ((a02 s.2.2.2.1.2.2.2.1)+1)) (some (.inl (s.1,s.2.1,wrap .u64 (s.2.2.1+1),(s.2.2.2.1.1,s.2.2.2.1.2.1,s.2.2.2.1.2.2.1,a04 s.2.2.2.1.2.2.2.1 ([(wrap .i64 y11.1,wrap .i64 y12.1,y14,())]:List Z7),s.2.2.2.1.2.2.2.2),y13.2,()))) none) (some (.inr (s.1,s.2.2.2.1,s.2.2.2.2.1,())))
def a5H(x:(List Int)):Option (a5W×Int×Int×Int):= cond (decide ((x.length:Int)<2)) (some ((0,0,(0,0,0,()),[],[],()),0,0,3)) ((show Option ((List Int)×(Bool×b7L))from(a0o x 0).bind fun x1=> cond (x1 != 245) (some (x,true,(0,0,(0,0,0,()),[],[],()),())) ((a0o x 1).bind fun x2=> some (x,x2 != 75,(0,0,(0,0,0,()),[],[],()),()))).bind fun z3=> cond z3.2.1 (some ((0,0,(0,0,0,()),[],[],()),0,0,2)) (cond (decide (2≤(z3.1.length:Int))) ((b2D (a30 2 (a07 (a02 z3.1) z3.1))).bind fun y4=> (a0W (y4,4194304)).bind fun y5=> (a0W (y5.2,4096)).bind fun y6=> (a0W (y6.2,1048576)).bind fun y7=> (a0W (y7.2,8)).bind fun y8=> (a0W (y8.2,24)).bind fun y9=> (a0W (y9.2,16)).bind fun y10=> (a0j a5G (z3.1,y10.1,0,(wrap .i64 y5.1,wrap .i64 y6.1,(wrap .i64 y7.1,wrap .i64 y8.1,wrap .i64 y9.1,z3.2.2.1.2.2.1.2.2.2),z3.2.2.1.2.2.2),y10.2,())).bind fun w15=> (a0W (w15.2.2.1,1048576)).bind fun y16=> (a8t y16.2).bind fun y17=> cond (y17.1 != 0) (some ((0,0,(0,0,0,()),[],[],()),0,0,y17.1)) ((a7O y17.2).bind fun y18=> cond (decide (y18.1<1)) (some ((0,0,(0,0,0,()),[],[],()),0,0,3)) ((a9m y18.2).bind fun y19=> cond ((decide (0≤(wrap .i64 (2+y19.1))))&&(decide ((wrap .i64 (2+y19.1))≤(w15.1.length:Int)))) ((a8s (a07 (a01 (wrap .i64 (2+y19.1))) w15.1)).bind fun y20=> (a0o w15.1 (wrap .i64 (2+y19.1))).bind fun x21=> cond (y20 != x21) (some ((0,0,(0,0,0,()),[],[],()),0,0,5)) ((a7g w15.2.1).bind fun y22=> cond (!y22) (some ((0,0,(0,0,0,()),[],[],()),0,0,2)) (some (w15.2.1,wrap .i64 ((wrap .i64 (2+y19.1))+1),wrap .i64 y16.1,0)))) none))) none))
def b1k:FSem:=⟨[.v (.list false (.int .u8))],[.v (.pair QI (.pair QI (.pair Q8 (.pair (.list false Q8) Q32)))),.v QI,.v QI,.v QI],a5H⟩
def H65:Hints:=⟨[(8186,[.sv 0 (.list false (.int .u8)),.sv 54 (.int .u64),.sv 55 (.int .u64),.box 2 Q47,.box 1029 Q11,.ptr 2 2 [],.ptr 6 1029 []],[(.exit 0,[.sv 0 (.list false (.int .u8)),.box 2 Q47,.box 1029 Q11,.ptr 2 2 [],.ptr 6 1029 []])])],[(14,[(.normal,[.sv 0 (.list false (.int .u8)),.sv 25 .bool,.box 2 Q47,.ptr 2 2 []])])],[(25,[.v,.v,.v,.v,.v,.v,.v,.v,.x])]⟩
def b3R(x:(List Int)):Option Z15:= cond (lim (a02 x)) (some (x,0,0,())) none
def c2Q:FSem:=⟨[.v (.list false (.int .u8))],[.b Q11],b3R⟩
def H66:Hints:=⟨[],[],[]⟩
def a0w(x:Z15):Option Z27:= some (x.2.2.1,x)
def a2B:FSem:=⟨[.r false (.b Q11)],[.v QI],a0w⟩
def H70:Hints:=⟨[],[],[]⟩
def a3b(x:Z15):Option Z27:= some (wrap .i64 ((wrap .i64 (8*(x.1.length:Int)))-x.2.1),x)
def a8u:FSem:=⟨[.r false (.b Q11)],[.v QI],a3b⟩
def H68:Hints:=⟨[],[],[(1,[.p,.p,.q,.q,.v,.v,.p,.p,.q,.q,.x,.x])]⟩
def a1T(x:Z31):Option Z27:= (a0o x.1.1 (wrap .i64 (a21 x.2 8))).bind fun x1=> cond (decide ((wrap .i64 (7-(a26 x.2 8)))<0)) none (some (bits .u8 .and (a0F .u8 x1 (wrap .i64 (7-(a26 x.2 8)))) 1,x.1))
def a5I:FSem:=⟨[.r false (.b Q11),.v QI],[.v (.int .u8)],a1T⟩
def d9B:Hints:=⟨[],[],[]⟩
def a4x(s:Z72):Option (Z72 ⊕ Z50):= cond (decide (s.2.2.1<s.2.1)) ((a1T (s.2.2.2.1,s.2.2.2.1.2.1)).bind fun y3=> some (.inl (bits .u64 .or (a0y .u64 s.1 1) (wrap .u64 y3.1),s.2.1,wrap .i64 (s.2.2.1+1),(y3.2.1,wrap .i64 (y3.2.2.1+1),y3.2.2.2),()))) (some (.inr (s.1,s.2.2.2.1,())))
def a0k(x:Z31):Option Z27:= cond (x.1.2.2.1 != 0) (some (0,x.1)) ((show Option Z60 from cond (decide (x.2<0)) (some (x.2,true,x.1,())) (some (x.2,decide (x.2 > 64),x.1,()))).bind fun z1=> cond z1.2.1 (some (0,z1.2.2.1.1,z1.2.2.1.2.1,1,z1.2.2.1.2.2.2)) ((a3b z1.2.2.1).bind fun y2=> cond (decide (z1.1 > y2.1)) (some (0,y2.2.1,y2.2.2.1,3,y2.2.2.2.2)) ((a0j a4x (0,z1.1,0,y2.2,())).bind fun w4=> some (w4.1,w4.2.1))))
def a2C:FSem:=⟨[.r false (.b Q11),.v QI],[.v (.int .u64)],a0k⟩
def d9C:Hints:=⟨[(506,[.sv 5 (.int .u64),.sv 27 QI,.sv 28 QI,.box pinned Q11,.ptr 0 pinned []],[(.exit 0,[.sv 5 (.int .u64),.box pinned Q11])])],[(14,[(.normal,[.sv 1 QI,.sv 16 .bool,.box pinned Q11,.ptr 0 pinned []])])],[]⟩
def a1c(x:Z31):Option Z27:= (a0k (x.1,x.2)).bind fun y1=> (show Option (Int×Z60)from cond (y1.2.2.2.1 != 0) (some (x.2,y1.1,true,y1.2,())) (some (x.2,y1.1,x.2==0,y1.2,()))).bind fun z2=> cond z2.2.2.1 (some (0,z2.2.2.2.1)) (cond (decide ((wrap .i64 (64-z2.1))<0)) none (cond (decide ((wrap .i64 (64-z2.1))<0)) none (some (a0F .i64 (wrap .i64 (a0y .u64 z2.2.1 (wrap .i64 (64-z2.1)))) (wrap .i64 (64-z2.1)),z2.2.2.2.1))))
def a3n:FSem:=⟨[.r false (.b Q11),.v QI],[.v QI],a1c⟩
def d9D:Hints:=⟨[],[(14,[(.normal,[.sv 1 QI,.sv 5 (.int .u64),.sv 17 .bool,.box pinned Q11])])],[]⟩
def a6j(s:(Int×c4c)):Option ((Int×c4c) ⊕ (Int×d0o)):= cond (decide (s.2.2.1<s.2.1)) ((a1c (s.2.2.2.1,s.1)).bind fun y4=> cond (lim ((a02 s.2.2.2.2.1.2.2.2.2.2.1)+1)) (some (.inl (s.1,s.2.1,wrap .i64 (s.2.2.1+1),y4.2,(s.2.2.2.2.1.1,s.2.2.2.2.1.2.1,s.2.2.2.2.1.2.2.1,s.2.2.2.2.1.2.2.2.1,s.2.2.2.2.1.2.2.2.2.1,a04 s.2.2.2.2.1.2.2.2.2.2.1 [y4.1],s.2.2.2.2.1.2.2.2.2.2.2),()))) none) (some (.inr (s.1,s.2.2.2.2.1,s.2.2.2.1,())))
def a9c(x:(Z15×Z93)):Option (Bool×Z15×Z93):= (a0k (x.1,5)).bind fun y1=> (a0k (y1.2,4)).bind fun y2=> (a0k (y2.2,5)).bind fun y3=> (a0j a6j (wrap .i64 y3.1,wrap .i64 ((wrap .i64 y1.1)+1),0,y3.2,(x.2.1,x.2.2.1,x.2.2.2.1,wrap .i64 y2.1,x.2.2.2.2.2),())).bind fun w5=> (a1E w5.2.1.2.2.2.2.2.1).bind fun y6=> some (y6==w5.1,w5.2.2.1,w5.2.1)
def b6Q:FSem:=⟨[.r false (.b Q11),.r false (.b Q30)],[.v .bool],a9c⟩
def d9E:Hints:=⟨[(250,[.sv 6 QI,.sv 20 QI,.sv 21 QI,.box pinned Q11,.box 1000001 Q30,.ptr 0 pinned [],.ptr 1 1000001 []],[(.exit 0,[.sv 6 QI,.box 1000001 Q30,.box pinned Q11,.ptr 1 1000001 []])])],[],[(6,[.p,.p,.p,.r [26,1000001],.r [27,1000001],.p,.v,.w [30,1030,pinned],.q,.a [31,32,1000001],.x,.x,.x])]⟩
def a3O(s:c4c):Option (c4c ⊕ d3p):= cond (decide (s.2.1<3)) ((a1c (s.2.2.1,8)).bind fun y6=> cond ((decide (0≤s.2.1))&&(decide (s.2.1<3))) (some (.inl (s.1,wrap .i64 (s.2.1+1),y6.2,(s.2.2.2.1.1,s.2.2.2.1.2.1,s.2.2.2.1.2.2.1,s.2.2.2.1.2.2.2.1,s.2.2.2.1.2.2.2.2.1,s.2.2.2.1.2.2.2.2.2.1,a05 s.2.2.2.1.2.2.2.2.2.2.1 (a01 s.2.1) y6.1,s.2.2.2.1.2.2.2.2.2.2.2),()))) none) (some (.inr (s.1,s.2.2.1,s.2.2.2.1,())))
def a6R(s:(Int×Bool×c4c)):Option ((Int×Bool×c4c) ⊕ (Int×Bool×d0o)):= cond (decide (s.2.2.2.1<s.2.2.1)) ((a0k (s.2.2.2.2.1,5)).bind fun y15=> (a0k (y15.2,4)).bind fun y16=> cond (lim ((a02 s.2.2.2.2.2.1.2.2.2.2.2.2.2.1)+1)) (some (.inl (s.1,s.2.1,s.2.2.1,wrap .u64 (s.2.2.2.1+1),y16.2,(s.2.2.2.2.2.1.1,s.2.2.2.2.2.1.2.1,s.2.2.2.2.2.1.2.2.1,s.2.2.2.2.2.1.2.2.2.1,s.2.2.2.2.2.1.2.2.2.2.1,s.2.2.2.2.2.1.2.2.2.2.2.1,s.2.2.2.2.2.1.2.2.2.2.2.2.1,a04 s.2.2.2.2.2.1.2.2.2.2.2.2.2.1 ([(wrap .i64 ((wrap .i64 y15.1)+1),wrap .i64 y16.1,())]:List (Int×Int×Unit)),s.2.2.2.2.2.1.2.2.2.2.2.2.2.2),()))) none) (some (.inr (s.1,s.2.1,s.2.2.2.2.2.1,s.2.2.2.2.1,())))
def a9Y(x:Z15):Option (Z93×Int×Bool×Z15):= (a0k (x,3)).bind fun y1=> (a0k (y1.2,5)).bind fun y2=> (a0k (y2.2,5)).bind fun y3=> (show Option (Int×Bool×d0o)from(show Option (d3p ⊕ ((Int×Bool×d0o) ⊕ (Int×Bool×d5Q)))from cond ((wrap .i64 y1.1)==2) ((a0k (y3.2,3)).bind fun y4=> some (Sum.inr (Sum.inl (wrap .i64 y3.1,true,(wrap .i64 y1.1,wrap .i64 y2.1,wrap .i64 y4.1,0,0,[],a00 3 0,[],[],(0,[],()),[],()),y4.2,())))) (cond ((wrap .i64 y1.1)==4) ((a0k (y3.2,10)).bind fun y5=> (a0j a3O (wrap .i64 y3.1,0,y5.2,(wrap .i64 y1.1,wrap .i64 y2.1,0,0,wrap .i64 ((wrap .i64 y5.1)+1),[],a00 3 0,[],[],(0,[],()),[],()),())).bind fun w7=> some (Sum.inl (w7.1,w7.2.1,w7.2.2.1,()))) (cond ((wrap .i64 y1.1)==3) (some (Sum.inl (wrap .i64 y3.1,y3.2,(wrap .i64 y1.1,wrap .i64 y2.1,0,0,0,[],a00 3 0,[],[],(0,[],()),[],()),()))) (cond ((wrap .i64 y1.1)==5) (some (Sum.inr (Sum.inr ((wrap .i64 y3.1,true,y3.2,(wrap .i64 y1.1,wrap .i64 y2.1,0,0,0,[],a00 3 0,[],[],(0,[],()),[],()),()))))) (some (Sum.inr (Sum.inl (wrap .i64 y3.1,true,(wrap .i64 y1.1,wrap .i64 y2.1,0,0,0,[],a00 3 0,[],[],(0,[],()),[],()),y3.2,())))))))).bind fun z8=> match z8 with |.inl a9=>((a9c (a9.2.1,a9.2.2.1)).bind fun y11=> some (a9.1,y11.1,y11.2.2,y11.2.1,())) |.inr b10=>(match b10 with |.inl a12=>some (a12.1,a12.2.1,a12.2.2.1,a12.2.2.2.1,()) |.inr b13=>((a0k (b13.2.2.1,2)).bind fun y14=> (a0j a6R (b13.1,b13.2.1,y14.1,0,y14.2,b13.2.2.2.1,())).bind fun w17=> some (w17.1,w17.2.1,w17.2.2.1,w17.2.2.2.1,())))).bind fun z18=> some (z18.2.2.1,z18.1,z18.2.1,z18.2.2.2.1)
def b8s:FSem:=⟨[.r false (.b Q11)],[.v (.pair QI (.pair QI (.pair QI (.pair QI (.pair QI (.pair QL (.pair (.arr 3 QI) (.pair (.list false Q3) Q14)))))))),.v QI,.v .bool],a9Y⟩
def d9F:Hints:=⟨[(8106,[.sv 3 QI,.sv 4 .bool,.sv 50 (.int .u64),.sv 51 (.int .u64),.box pinned Q11,.box 2 Q30,.ptr 0 pinned [],.ptr 2 2 []],[(.exit 7,[.sv 3 QI,.sv 4 .bool,.box 2 Q30,.box pinned Q11,.ptr 2 2 []])]),(129550,[.sv 3 QI,.sv 38 QI,.box pinned Q11,.box 2 Q30,.ptr 0 pinned [],.ptr 2 2 []],[(.exit 5,[.sv 3 QI,.box pinned Q11,.box 2 Q30,.ptr 0 pinned [],.ptr 2 2 []])])],[(63,[(.normal,[.sv 3 QI,.sv 4 .bool,.box 2 Q30,.box pinned Q11,.ptr 2 2 []])]),(2024,[(.normal,[.sv 3 QI,.box pinned Q11,.box 2 Q30,.ptr 0 pinned [],.ptr 2 2 []]),(.exit 0,[.sv 3 QI,.sv 4 .bool,.box 2 Q30,.box pinned Q11,.ptr 2 2 []]),(.exit 4,[.sv 3 QI,.sv 4 .bool,.box pinned Q11,.box 2 Q30,.ptr 0 pinned [],.ptr 2 2 []])])],[]⟩
def a3U(s:Z72):Option (Z72 ⊕ Z50):= cond (s.2.2.1==(wrap .i64 (8*(s.2.2.2.1.1.length:Int)))) (some (.inr (0,(s.2.2.2.1.1,s.2.2.2.1.2.1,3,s.2.2.2.1.2.2.2),()))) ((a1T (s.2.2.2.1,s.2.2.1)).bind fun y2=> cond (y2.1==1) (some (.inr (s.2.1,(y2.2.1,wrap .i64 (s.2.2.1+1),y2.2.2.2),()))) (cond (s.2.1==s.1) (some (.inr (0,(y2.2.1,y2.2.2.1,2,y2.2.2.2.2),()))) (some (.inl (s.1,wrap .i64 (s.2.1+1),wrap .i64 (s.2.2.1+1),y2.2,())))))
def a2f(x:Z31):Option Z27:= cond (x.1.2.2.1 != 0) (some (0,x.1)) ((a0j a3U (a2K x.2 0,0,x.1.2.1,x.1,())).bind fun w3=> some (w3.1,w3.2.1))
def b1H:FSem:=⟨[.r false (.b Q11),.v QI],[.v QI],a2f⟩
def d9G:Hints:=⟨[(62,[.sv 1 QI,.sv 5 QI,.sv 6 QI,.box pinned Q11,.ptr 0 pinned []],[(.ret,[.sv 4 QI,.box pinned Q11])])],[],[(4,[.p,.p,.q,.q,.v,.x])]⟩
def a7n(x:Int):Option Int:= cond (decide (x≥2147483648)) (some 0) (cond ((a26 x 2)==0) (some (wrap .i64 (wrap .u64 (a21 x 2)))) (some (wrap .i64 ((wrap .i64 (0-(wrap .i64 (wrap .u64 (a21 x 2)))))-1))))
def b8t:FSem:=⟨[.v (.int .u64)],[.v QI],a7n⟩
def d9H:Hints:=⟨[],[],[]⟩
def b3S(x:Z31):Option Z44:= (a2f (x.1,32)).bind fun y1=> (a0w y1.2).bind fun y2=> cond (y2.1 != 0) ((a0w y2.2).bind fun y3=> some (0,y3.1,y3.2)) (cond (decide ((wrap .u64 y1.1)<32)) ((a0k (y2.2,x.2)).bind fun y4=> cond (decide (x.2<0)) none ((a7n (wrap .u64 ((a0y .u64 (wrap .u64 y1.1) x.2)+y4.1))).bind fun y5=> (a0w y4.2).bind fun y6=> some (y5,y6.1,y6.2))) ((a0k (y2.2,32)).bind fun y7=> (a0w y7.2).bind fun y8=> cond (y8.1 != 0) ((a0w y8.2).bind fun y9=> some (0,y9.1,y9.2)) ((show Option Z60 from cond (decide (y7.1≥2147483648)) (some (y7.1,true,y8.2,())) (cond (decide (x.2<0)) none (some (y7.1,decide ((a0F .u64 y7.1 x.2)<32),y8.2,())))).bind fun z10=> cond z10.2.1 (some (0,2,z10.2.2.1)) ((a7n z10.1).bind fun y11=> some (y11,0,z10.2.2.1)))))
def c2R:FSem:=⟨[.r false (.b Q11),.v QI],[.v QI,.v QI],b3S⟩
def d9I:Hints:=⟨[],[(254,[(.normal,[.sv 8 (.int .u64),.sv 44 .bool,.box pinned Q11])])],[]⟩
def a9Z(s:Z80):Option (Z80 ⊕ (Z57 ⊕ Z70)):= cond (decide (s.2.2.1<s.2.1)) ((b3S (s.2.2.2.2.1,s.1)).bind fun y5=> cond (y5.2.1 != 0) (some (.inr (Sum.inr ((y5.2.1,[],y5.2.2,()))))) (cond (lim ((a02 s.2.2.2.1)+1)) (some (.inl (s.1,s.2.1,wrap .i64 (s.2.2.1+1),a04 s.2.2.2.1 [y5.1],y5.2.2,()))) none)) (some (.inr (Sum.inl (s.2.2.2.1,s.2.2.2.2.1,()))))
def b3T(x:(Z15×Int×Int)):Option Z54:= (show Option (Int×Z60)from(a2m x.2.1).bind fun y1=> cond (!y1) (some (x.2.1,x.2.2,true,x.1,())) (cond (decide (x.2.2<0)) (some (x.2.1,x.2.2,true,x.1,())) (some (x.2.1,x.2.2,decide (x.2.2 > 4194304),x.1,())))).bind fun z2=> cond z2.2.2.1 (some ([],1,z2.2.2.2.1)) ((a0w z2.2.2.2.1).bind fun y3=> cond (y3.1 != 0) ((a0w y3.2).bind fun y4=> some ([],y4.1,y4.2)) ((a0j a9Z (z2.1,z2.2.1,0,[],y3.2,())).bind fun w6=> match w6 with |.inl a7=>some (a7.1,0,a7.2.1) |.inr b8=>some (b8.2.1,b8.1,b8.2.2.1)))
def c2S:FSem:=⟨[.r false (.b Q11),.v QI,.v QI],[.o QI,.v QI],b3T⟩
def d9J:Hints:=⟨[(250,[.sv 1 QI,.sv 27 QI,.sv 28 QI,.own 8 8 QI,.box pinned Q11,.ptr 0 pinned []],[(.exit 0,[.own 8 8 QI,.box pinned Q11]),(.ret,[.sv 7 QI,.own 6 6 QI,.box pinned Q11])])],[(6,[(.normal,[.sv 1 QI,.sv 2 QI,.sv 21 .bool,.box pinned Q11,.ptr 0 pinned []])])],[]⟩
def a9d(s:(Int×Z80)):Option ((Int×Z80) ⊕ Z78):= cond (decide (s.2.2.2.1<s.2.2.1)) ((a1c (s.2.2.2.2.2.1,s.2.1)).bind fun y6=> cond (lim ((a02 s.2.2.2.2.1)+1)) (some (.inl (s.1,s.2.1,s.2.2.1,wrap .i64 (s.2.2.2.1+1),a04 s.2.2.2.2.1 [y6.1],y6.2,()))) none) (some (.inr (s.1,s.2.1,s.2.2.2.2.1,s.2.2.2.2.2.1,())))
def b2F(x:Z31):Option (Int×Z54):= (a0k (x.1,5)).bind fun y1=> (a0w y1.2).bind fun y2=> cond (y2.1 != 0) ((a0w y2.2).bind fun y3=> some (0,[],y3.1,y3.2)) (cond (decide ((wrap .i64 y1.1)≤25)) ((b3T (y2.2,wrap .i64 y1.1,x.2)).bind fun y4=> some (wrap .i64 y1.1,y4.1,y4.2.1,y4.2.2)) (cond ((wrap .i64 y1.1) != 31) (some (0,[],2,y2.2)) ((a0k (y2.2,5)).bind fun y5=> (a0j a9d (wrap .i64 y1.1,wrap .i64 y5.1,x.2,0,[],y5.2,())).bind fun w7=> (a0w w7.2.2.2.1).bind fun y8=> cond (y8.1 != 0) ((a0w y8.2).bind fun y9=> some (0,[],y9.1,y9.2)) ((a1E w7.2.2.1).bind fun y10=> cond (y10 != w7.2.1) (some (0,[],2,y8.2)) (some (w7.1,w7.2.2.1,0,y8.2))))))
def c0U:FSem:=⟨[.r false (.b Q11),.v QI],[.v QI,.o QI,.v QI],b2F⟩
def d9K:Hints:=⟨[(2042,[.sv 7 QI,.sv 10 QI,.sv 37 QI,.sv 38 QI,.own 11 11 QI,.box pinned Q11,.ptr 0 pinned []],[(.exit 0,[.sv 7 QI,.sv 10 QI,.own 11 11 QI,.box pinned Q11,.ptr 0 pinned []])])],[],[]⟩
def a9e(s:(Int×(Int×((List Int)×((List Int)×(Z15×Z73)))))):Option ((Int×(Int×((List Int)×((List Int)×(Z15×Z73))))) ⊕ (((List Int)×(Z5×Z5×Z34)) ⊕ (Int×((List Int)×(Z5×Z34))))):= cond (decide (s.2.1<s.1)) (cond ((decide (0≤s.2.1))&&(decide (s.2.1<(s.2.2.2.1.length:Int)))) ((b2F (s.2.2.2.2.1,a03 s.2.2.2.1 (a01 s.2.1) 0)).bind fun y6=> cond (y6.2.2.1 != 0) (some (.inr (Sum.inr ((y6.2.2.1,[],(0,[],()),y6.2.2.2,()))))) (cond (lim ((a02 s.2.2.2.2.2.2.1.2.1)+1)) (cond (lim ((a02 s.2.2.1)+(a02 y6.2.1))) (some (.inl (s.1,wrap .i64 (s.2.1+1),a04 s.2.2.1 y6.2.1,s.2.2.2.1,y6.2.2.2,s.2.2.2.2.2.1,(s.2.2.2.2.2.2.1.1,a04 s.2.2.2.2.2.2.1.2.1 [y6.1],s.2.2.2.2.2.2.1.2.2),()))) none) none)) none) (some (.inr (Sum.inl (s.2.2.1,s.2.2.2.2.2.1,s.2.2.2.2.2.2.1,s.2.2.2.2.1,()))))
def b2G(x:(Z15×Int×Int)):Option (Z5×Z54):= (a7A (x.2.1,x.2.2)).bind fun y1=> cond (!y1) (some ((0,[],()),[],1,x.1)) ((a0k (x.1,4)).bind fun y2=> (a0w y2.2).bind fun y3=> cond (y3.1 != 0) ((a0w y3.2).bind fun y4=> some ((0,[],()),[],y4.1,y4.2)) ((a3x (wrap .i64 y2.1,x.2.1,x.2.2)).bind fun y5=> cond ((y5.length:Int)==0) (some ((0,[],()),[],2,y3.2)) ((a0j a9e ((y5.length:Int),0,[],y5,y3.2,(0,[],()),(wrap .i64 y2.1,[],()),())).bind fun w7=> match w7 with |.inl a8=>some (a8.2.2.1,a8.1,0,a8.2.2.2.1) |.inr b9=>some (b9.2.2.1,b9.2.1,b9.1,b9.2.2.2.1))))
def c0V:FSem:=⟨[.r false (.b Q11),.v QI,.v QI],[.v Q7,.o QI,.v QI],b2G⟩
def d9L:Hints:=⟨[(4090,[.sv 43 QI,.sv 44 QI,.own 12 12 QI,.own 42 10 QI,.box pinned Q11,.box 6 Q7,.box 11 Q6,.ptr 0 pinned [],.ptr 6 6 [],.ptr 11 11 []],[(.exit 0,[.own 12 12 QI,.box 6 Q7,.box 11 Q6,.box pinned Q11,.ptr 6 6 [],.ptr 11 11 []]),(.ret,[.sv 8 QI,.own 7 7 QI,.box 6 Q7,.box pinned Q11,.ptr 6 6 []])])],[],[]⟩
def b1l(s:(Int×Int×Bool×Int×Int×Z15×b3n)):Option ((Int×Int×Bool×Int×Int×Z15×b3n) ⊕ (Int×Int×Bool×Z15×b3n)):= cond (decide (s.2.2.2.2.1<s.2.2.2.1)) ((a1c (s.2.2.2.2.2.1,s.2.1)).bind fun y7=> cond (lim ((a02 s.2.2.2.2.2.2.2.1.2.2.2.2.2.2.2.2.1)+1)) (some (.inl (s.1,s.2.1,s.2.2.1,s.2.2.2.1,wrap .i64 (s.2.2.2.2.1+1),y7.2,s.2.2.2.2.2.2.1,(s.2.2.2.2.2.2.2.1.1,s.2.2.2.2.2.2.2.1.2.1,s.2.2.2.2.2.2.2.1.2.2.1,s.2.2.2.2.2.2.2.1.2.2.2.1,s.2.2.2.2.2.2.2.1.2.2.2.2.1,s.2.2.2.2.2.2.2.1.2.2.2.2.2.1,s.2.2.2.2.2.2.2.1.2.2.2.2.2.2.1,s.2.2.2.2.2.2.2.1.2.2.2.2.2.2.2.1,a04 s.2.2.2.2.2.2.2.1.2.2.2.2.2.2.2.2.1 [y7.1],s.2.2.2.2.2.2.2.1.2.2.2.2.2.2.2.2.2),()))) none) (some (.inr (s.1,s.2.1,s.2.2.1,s.2.2.2.2.2.1,s.2.2.2.2.2.2.1,s.2.2.2.2.2.2.2.1,())))
def b3f(x:Z31):Option (Z93×Z27):= cond (decide (x.2<1)) (some ((0,0,0,0,0,[],a00 3 0,[],[],(0,[],()),[],()),1,x.1)) (cond (decide (x.2 > 4096)) (some ((0,0,0,0,0,[],a00 3 0,[],[],(0,[],()),[],()),1,x.1)) ((a0w x.1).bind fun y1=> cond (y1.1 != 0) (some ((0,0,0,0,0,[],a00 3 0,[],[],(0,[],()),[],()),y1.1,y1.2)) ((a9Y y1.2).bind fun y2=> (a0w y2.2.2.2).bind fun y3=> cond (y3.1 != 0) (some ((0,0,0,0,0,[],a00 3 0,[],[],(0,[],()),[],()),y3.1,y3.2)) ((a8p (y2.1.1,y2.1,x.2)).bind fun y4=> cond (!y4) (some ((0,0,0,0,0,[],a00 3 0,[],[],(0,[],()),[],()),2,y3.2)) ((a4T (y2.1,x.2)).bind fun y5=> (a0j b1l (x.2,y2.2.1,y2.2.2.1,y5,0,y3.2,(0,0,0,0,0,[],a00 3 0,[],[],(0,[],()),[],()),y2.1,())).bind fun w8=> (a0w w8.2.2.2.1).bind fun y9=> cond (y9.1 != 0) (some ((0,0,0,0,0,[],a00 3 0,[],[],(0,[],()),[],()),y9.1,y9.2)) ((a6q w8.2.2.2.2.2.1.1).bind fun y10=> cond y10 ((b2G (y9.2,w8.1,(w8.2.2.2.2.2.1.2.2.2.2.2.2.2.2.1.length:Int))).bind fun y11=> cond (y11.2.2.1 != 0) (some ((0,0,0,0,0,[],a00 3 0,[],[],(0,[],()),[],()),y11.2.2.1,y11.2.2.2)) (cond (!w8.2.2.1) (some ((0,0,0,0,0,[],a00 3 0,[],[],(0,[],()),[],()),2,y11.2.2.2)) ((a1E w8.2.2.2.2.2.1.2.2.2.2.2.2.2.2.1).bind fun y12=> cond (y12 != w8.2.1) (some ((0,0,0,0,0,[],a00 3 0,[],[],(0,[],()),[],()),2,y11.2.2.2)) ((b0z ((w8.2.2.2.2.2.1.1,w8.2.2.2.2.2.1.2.1,w8.2.2.2.2.2.1.2.2.1,w8.2.2.2.2.2.1.2.2.2.1,w8.2.2.2.2.2.1.2.2.2.2.1,w8.2.2.2.2.2.1.2.2.2.2.2.1,w8.2.2.2.2.2.1.2.2.2.2.2.2.1,w8.2.2.2.2.2.1.2.2.2.2.2.2.2.1,w8.2.2.2.2.2.1.2.2.2.2.2.2.2.2.1,y11.1,y11.2.1,w8.2.2.2.2.2.1.2.2.2.2.2.2.2.2.2.2.2),w8.1)).bind fun y13=> cond (!y13) (some ((0,0,0,0,0,[],a00 3 0,[],[],(0,[],()),[],()),2,y11.2.2.2)) (some ((w8.2.2.2.2.2.1.1,w8.2.2.2.2.2.1.2.1,w8.2.2.2.2.2.1.2.2.1,w8.2.2.2.2.2.1.2.2.2.1,w8.2.2.2.2.2.1.2.2.2.2.1,w8.2.2.2.2.2.1.2.2.2.2.2.1,w8.2.2.2.2.2.1.2.2.2.2.2.2.1,w8.2.2.2.2.2.1.2.2.2.2.2.2.2.1,w8.2.2.2.2.2.1.2.2.2.2.2.2.2.2.1,y11.1,y11.2.1,w8.2.2.2.2.2.1.2.2.2.2.2.2.2.2.2.2.2),0,y11.2.2.2)))))) (cond (!w8.2.2.1) (some ((0,0,0,0,0,[],a00 3 0,[],[],(0,[],()),[],()),2,y9.2)) ((a1E w8.2.2.2.2.2.1.2.2.2.2.2.2.2.2.1).bind fun y14=> cond (y14 != w8.2.1) (some ((0,0,0,0,0,[],a00 3 0,[],[],(0,[],()),[],()),2,y9.2)) ((b0z (w8.2.2.2.2.2.1,w8.1)).bind fun y15=> cond (!y15) (some ((0,0,0,0,0,[],a00 3 0,[],[],(0,[],()),[],()),2,y9.2)) (some (w8.2.2.2.2.2.1,0,y9.2)))))))))))
def c5j:FSem:=⟨[.r false (.b Q11),.v QI],[.v Q31,.v QI],b3f⟩
def H67:Hints:=⟨[(1018,[.sv 1 QI,.sv 8 QI,.sv 9 .bool,.sv 47 QI,.sv 48 QI,.box pinned Q11,.box 4 Q31,.box 7 (.pair QI (.pair QI (.pair QI (.pair QI (.pair QI (.pair QL (.pair (.arr 3 QI) (.pair (.list false Q3) (.pair (.list true QI) Q13))))))))),.ptr 0 pinned [],.ptr 4 4 [],.ptr 7 7 []],[(.exit 0,[.sv 1 QI,.sv 8 QI,.sv 9 .bool,.box pinned Q11,.box 4 Q31,.box 7 (.pair QI (.pair QI (.pair QI (.pair QI (.pair QI (.pair QL (.pair (.arr 3 QI) (.pair (.list false Q3) (.pair (.list true QI) Q13))))))))),.ptr 0 pinned [],.ptr 4 4 [],.ptr 7 7 []])])],[],[(14,[.r [7,50],.r [7,51],.p,.v,.w [54,1054,pinned],.q,.x,.x,.x])]⟩
def a3V(s:Z59):Option (Z59 ⊕ (Z50 ⊕ Z34)):= cond (decide (s.2.1<s.1)) ((a1T (s.2.2.1,s.2.1)).bind fun y1=> cond (y1.1==1) (some (.inr (Sum.inr (((y1.2.1,y1.2.2.1,2,y1.2.2.2.2),()))))) (some (.inl (s.1,wrap .i64 (s.2.1+1),y1.2,())))) (some (.inr (Sum.inl (s.1,s.2.2.1,()))))
def a5g(x:Z15):Option Z15:= cond (x.2.2.1 != 0) (some x) ((a0j a3V (wrap .i64 ((wrap .i64 (a21 (wrap .i64 (x.2.1+7)) 8))*8),x.2.1,x,())).bind fun w2=> match w2 with |.inl a3=>some (a3.2.1.1,a3.1,a3.2.1.2.2) |.inr b4=>some b4.1)
def b1I:FSem:=⟨[.r false (.b Q11)],[],a5g⟩
def H69:Hints:=⟨[(58,[.sv 2 QI,.sv 3 QI,.box pinned Q11,.ptr 0 pinned []],[(.exit 0,[.sv 2 QI,.box pinned Q11,.ptr 0 pinned []]),(.ret,[.box pinned Q11])])],[],[]⟩
def a7X(s:(Int×Int×Int×a5W×c4d)):Option ((Int×Int×Int×a5W×c4d) ⊕ ((Int×a5W×c4d) ⊕ (Int×Int×b7L))):= cond (decide (s.2.2.1<s.2.1)) ((b3f (s.2.2.2.2.2.1,s.2.2.2.2.1.2.1)).bind fun y7=> cond (y7.2.1 != 0) (some (.inr (Sum.inr ((0,2,(0,0,(0,0,0,()),[],[],()),()))))) (cond (lim ((a02 s.2.2.2.2.1.2.2.2.2.1)+1)) (some (.inl (s.1,s.2.1,wrap .i64 (s.2.2.1+1),s.2.2.2.1,(s.2.2.2.2.1.1,s.2.2.2.2.1.2.1,s.2.2.2.2.1.2.2.1,s.2.2.2.2.1.2.2.2.1,a04 s.2.2.2.2.1.2.2.2.2.1 ([y7.1]:List Z93),s.2.2.2.2.1.2.2.2.2.2),y7.2.2,()))) none)) (some (.inr (Sum.inl (s.1,s.2.2.2.1,s.2.2.2.2.1,s.2.2.2.2.2.1,()))))
def a4Z(x:(List Int)):Option (a5W×Int×Int):= (a5H x).bind fun y1=> cond (y1.2.2.2 != 0) (some ((0,0,(0,0,0,()),[],[],()),0,y1.2.2.2)) (cond (decide ((x.length:Int)<(wrap .i64 ((wrap .i64 (y1.2.1+y1.2.2.1))+2)))) (some ((0,0,(0,0,0,()),[],[],()),0,3)) (cond ((decide (0≤(wrap .i64 (y1.2.1+y1.2.2.1))))&&(decide ((wrap .i64 (y1.2.1+y1.2.2.1))≤(x.length:Int)))) ((a6u (a07 (a01 (wrap .i64 (y1.2.1+y1.2.2.1))) x)).bind fun y2=> (a0o x (wrap .i64 (y1.2.1+y1.2.2.1))).bind fun x3=> (a0o x (wrap .i64 ((wrap .i64 (y1.2.1+y1.2.2.1))+1))).bind fun x4=> cond (y2 != (bits .u16 .or (a0y .u16 (wrap .u16 x3) 8) (wrap .u16 x4))) (some ((0,0,(0,0,0,()),[],[],()),0,5)) (cond ((decide (0≤(wrap .i64 (y1.2.1+y1.2.2.1))))&&(decide ((wrap .i64 (y1.2.1+y1.2.2.1))≤(x.length:Int)))) (cond ((decide (0≤y1.2.1))&&(decide (y1.2.1≤((a01 (wrap .i64 (y1.2.1+y1.2.2.1)):Nat):Int)))) ((b3R (a30 (a01 y1.2.1) (a07 (a01 (wrap .i64 (y1.2.1+y1.2.2.1))) x))).bind fun y5=> (a0j a7X (wrap .i64 (y1.2.1+y1.2.2.1),y1.1.2.2.1.2.1,0,(0,0,(0,0,0,()),[],[],()),y1.1,y5,())).bind fun w8=> match w8 with |.inl a9=>((a3b a9.2.2.2.1).bind fun y11=> cond (decide (y11.1≥8)) (some ((0,0,(0,0,0,()),[],[],()),0,2)) ((a5g y11.2).bind fun y12=> (a0w y12).bind fun y13=> cond (y13.1 != 0) (some ((0,0,(0,0,0,()),[],[],()),0,2)) ((a3Q a9.2.2.1).bind fun y14=> cond (!y14) (some ((0,0,(0,0,0,()),[],[],()),0,2)) (some (a9.2.2.1,wrap .i64 (a9.1+2),0))))) |.inr b10=>some (b10.2.2.1,b10.1,b10.2.1)) none) none)) none))
def b1m:FSem:=⟨[.v (.list false (.int .u8))],[.v Q49,.v QI,.v QI],a4Z⟩
def H24:Hints:=⟨[(2042,[.sv 9 QI,.sv 59 QI,.sv 60 QI,.box 2 Q49,.box 5 Q48,.box 1056 Q11,.ptr 2 2 [],.ptr 5 5 [],.ptr 10 1056 []],[(.exit 0,[.sv 9 QI,.box 2 Q49,.box 5 Q48,.box 1056 Q11,.ptr 2 2 [],.ptr 5 5 [],.ptr 10 1056 []]),(.ret,[.sv 3 QI,.sv 4 QI,.box 2 Q49,.ptr 2 2 []])])],[],[(7,[.v,.v,.v,.v,.v,.v,.v,.v,.v,.v,.v,.v,.v,.v,.v,.v,.v,.x])]⟩
def a8v(x:(List Int)):Option (Z7×Int×Int×Int):= (a5H x).bind fun y1=> cond (y1.2.2.2 != 0) (some ((0,0,0,()),0,0,y1.2.2.2)) (some (y1.1.2.2.1,y1.1.1,y1.1.2.1,0))
def b9y:FSem:=⟨[.v (.list false (.int .u8))],[.v Q8,.v QI,.v QI,.v QI],a8v⟩
def H26:Hints:=⟨[],[],[(4,[.q,.q,.r [6,23],.r [6,24],.r [6,25],.r [6,26],.w [0,2],.v,.x,.x])]⟩
def a3I(s:(Z4×Z4×Int×Unit)):Option ((Z4×Z4×Int×Unit) ⊕ Z0):= cond (decide (s.2.2.1<(s.1.length:Int))) ((a0o s.1 s.2.2.1).bind fun x1=> (a0o s.2.1 s.2.2.1).bind fun x2=> cond (!(eqT Q3 x1 x2)) (some (.inr (Sum.inr ((false,()))))) (some (.inl (s.1,s.2.1,wrap .i64 (s.2.2.1+1),())))) (some (.inr (Sum.inl ())))
def a6S(x:(Z4×Z4)):Option Bool:= cond ((x.1.length:Int) != (x.2.length:Int)) (some false) ((a0j a3I (x.1,x.2,0,())).bind fun w3=> match w3 with |.inl a4=>some true |.inr b5=>some b5.1)
def b4M:FSem:=⟨[.v (.list false Q3),.v (.list false Q3)],[.v .bool],a6S⟩
def d9M:Hints:=⟨[(58,[.sv 0 (.list false Q3),.sv 1 (.list false Q3),.sv 5 QI],[(.exit 0,[]),(.ret,[.sv 4 .bool])])],[],[(6,[.v,.v,.v,.v,.v,.v,.v,.v,.x])]⟩
def b1V(x:(Z5×Z5)):Option Bool:= cond (x.1.1==x.2.1) ((a3y (x.1.2.1,x.2.2.1)).bind fun y1=> some y1) (some false)
def b6R:FSem:=⟨[.v Q7,.v Q7],[.v .bool],b1V⟩
def d9N:Hints:=⟨[],[],[]⟩
def b0a(x:(Z93×Z93)):Option Bool:= cond (x.1.1==x.2.1) (cond (x.1.2.1==x.2.2.1) (cond (x.1.2.2.1==x.2.2.2.1) (cond (x.1.2.2.2.1==x.2.2.2.2.1) (cond (x.1.2.2.2.2.1==x.2.2.2.2.2.1) ((a3y (x.1.2.2.2.2.2.1,x.2.2.2.2.2.2.1)).bind fun y1=> cond y1 (cond (eqT (.arr 3 (.int .i64)) x.1.2.2.2.2.2.2.1 x.2.2.2.2.2.2.2.1) ((a6S (x.1.2.2.2.2.2.2.2.1,x.2.2.2.2.2.2.2.2.1)).bind fun y2=> cond y2 ((a3y (x.1.2.2.2.2.2.2.2.2.1,x.2.2.2.2.2.2.2.2.2.1)).bind fun y3=> cond y3 ((b1V (x.1.2.2.2.2.2.2.2.2.2.1,x.2.2.2.2.2.2.2.2.2.2.1)).bind fun y4=> cond y4 ((a3y (x.1.2.2.2.2.2.2.2.2.2.2.1,x.2.2.2.2.2.2.2.2.2.2.2.1)).bind fun y5=> some y5) (some false)) (some false)) (some false)) (some false)) (some false)) (some false)) (some false)) (some false)) (some false)) (some false)
def b8u:FSem:=⟨[.v Q31,.v Q31],[.v .bool],b0a⟩
def H42:Hints:=⟨[],[],[]⟩
def a5J(s:(Z14×Z14×Int×Unit)):Option ((Z14×Z14×Int×Unit) ⊕ Z0):= cond (decide (s.2.2.1<(s.1.length:Int))) ((a0o s.1 s.2.2.1).bind fun x1=> (a0o s.2.1 s.2.2.1).bind fun x2=> cond (!(eqT Q8 x1 x2)) (some (.inr (Sum.inr ((false,()))))) (some (.inl (s.1,s.2.1,wrap .i64 (s.2.2.1+1),())))) (some (.inr (Sum.inl ())))
def a7Y(x:(Z14×Z14)):Option Bool:= cond ((x.1.length:Int) != (x.2.length:Int)) (some false) ((a0j a5J (x.1,x.2,0,())).bind fun w3=> match w3 with |.inl a4=>some true |.inr b5=>some b5.1)
def b5u:FSem:=⟨[.v (.list false Q8),.v (.list false Q8)],[.v .bool],a7Y⟩
def H76:Hints:=⟨[(58,[.sv 0 (.list false Q8),.sv 1 (.list false Q8),.sv 5 QI],[(.exit 0,[]),(.ret,[.sv 4 .bool])])],[],[(6,[.v,.v,.v,.v,.v,.v,.v,.v,.x])]⟩
def a5K(s:c4e):Option (c4e ⊕ Z0):= cond (decide (s.1<(s.2.1.2.2.2.2.1.length:Int))) ((a0o s.2.1.2.2.2.2.1 s.1).bind fun x3=> (a0o s.2.2.1.2.2.2.2.1 s.1).bind fun x4=> (b0a (x3,x4)).bind fun y5=> cond (!y5) (some (.inr (Sum.inr ((false,()))))) (some (.inl (wrap .i64 (s.1+1),s.2.1,s.2.2.1,())))) (some (.inr (Sum.inl ())))
def a5L(x:(a5W×a5W)):Option Bool:= (show Option (Bool×d0r)from cond (x.1.1 != x.2.1) (some (true,x.1,x.2,())) (cond (x.1.2.1 != x.2.2.1) (some (true,x.1,x.2,())) (cond (!(eqT Q8 x.1.2.2.1 x.2.2.2.1)) (some (true,x.1,x.2,())) ((a7Y (x.1.2.2.2.1,x.2.2.2.2.1)).bind fun y1=> cond (!y1) (some (true,x.1,x.2,())) (some ((x.1.2.2.2.2.1.length:Int) != (x.2.2.2.2.2.1.length:Int),x.1,x.2,())))))).bind fun z2=> cond z2.1 (some false) ((a0j a5K (0,z2.2.1,z2.2.2.1,())).bind fun w6=> match w6 with |.inl a7=>some true |.inr b8=>some b8.1)
def b1n:FSem:=⟨[.v Q49,.v Q49],[.v .bool],a5L⟩
def H28:Hints:=⟨[(58,[.sv 5 QI,.vp 2 Q49,.vp 3 Q49],[(.exit 0,[]),(.ret,[.sv 4 .bool])])],[(6,[(.normal,[.sv 41 .bool,.vp 2 Q49,.vp 3 Q49])])],[(6,[.v,.v,.v,.v,.v,.v,.v,.v,.v,.v,.x,.x])]⟩
def a6T(s:Z53):Option (Z53 ⊕ Z42):= cond (decide (s.2.2.2.1<s.2.2.1)) ((a0o s.2.1 s.2.2.2.1).bind fun x2=> (show Option (Int×(Int×((List Int)×(Int×Int×Z8))))from(a5r x2).bind fun y3=> cond (!y3) (some (s.1,x2,s.2.1,s.2.2.1,s.2.2.2.1,true,s.2.2.2.2.1,())) (cond (decide (s.1<0)) none (cond ((a0y .i64 1 s.1)==0) none (some (s.1,x2,s.2.1,s.2.2.1,s.2.2.2.1,(a26 x2 (a0y .i64 1 s.1)) != 0,s.2.2.2.2.1,()))))).bind fun z4=> cond z4.2.2.2.2.2.1 (some (.inr (Sum.inr ((6,[],()))))) (cond (decide (z4.1<0)) none (cond (lim ((a02 z4.2.2.2.2.2.2.1)+1)) (some (.inl (z4.1,z4.2.2.1,z4.2.2.2.1,wrap .i64 (z4.2.2.2.2.1+1),a04 z4.2.2.2.2.2.2.1 [a0F .i64 z4.2.1 z4.1],()))) none))) (some (.inr (Sum.inl (s.2.2.2.2.1,()))))
def a7o(x:((List Int)×Int)):Option ((List Int)×Int):= (show Option Z18 from cond (decide (x.2<0)) (some (x.1,x.2,true,())) (some (x.1,x.2,decide (x.2 > 30),()))).bind fun z1=> cond z1.2.2.1 (some ([],1)) ((a0j a6T (z1.2.1,z1.1,(z1.1.length:Int),0,[],())).bind fun w5=> match w5 with |.inl a6=>some (a6.1,0) |.inr b7=>some (b7.2.1,b7.1))
def b3x:FSem:=⟨[.v QL,.v QI],[.o QI,.v QI],a7o⟩
def H91:Hints:=⟨[(122,[.sv 1 QI,.sv 15 QL,.sv 16 QI,.sv 17 QI,.own 6 6 QI],[(.exit 0,[.own 6 6 QI]),(.ret,[.sv 5 QI,.own 4 4 QI])])],[(6,[(.normal,[.sv 0 QL,.sv 1 QI,.sv 14 .bool])]),(15666,[(.normal,[.sv 1 QI,.sv 8 QI,.sv 15 QL,.sv 16 QI,.sv 17 QI,.sv 30 .bool,.own 6 6 QI])])],[]⟩
def a1U(x:Int):Option Int:= cond (x==0) (some 64) ((a0o b2m (a0F .u64 (wrap .u64 ((bits .u64 .and x (wrap .u64 (0-x)))*285870213051353865)) 58)).bind fun x1=> some (wrap .i64 x1))
def a1g:FSem:=⟨[.v (.int .u64)],[.v QI],a1U⟩
def c4f:Hints:=⟨[],[],[]⟩
def b1o:Cx:=b9r [] [] [0,2] []
theorem c0W{ρ:Type}{cx:Cx}{ops:List Oper}:∀(l1 l2:List (Md×Oper)) (Γ:AE) (K:AE→Rs ρ),a5T cx ops (l1++l2) Γ K=a5T cx ops l1 Γ fun Γ'=>a5T cx ops l2 Γ' K
 | [],_,_,_=>rfl
 |(md,o)::l1,l2,Γ,K=>by
  simp only[a16,a5T];congr 1;funext Γ';exact c0W l1 l2 Γ' K
theorem b9z{ρ:Type}{cx:Cx}{H:Hints}{a b:Code}{p:Nat}(h:find H.cuts p=none)(Γ:AE)(K:Ex→AE→Rs ρ):a1B cx H (.seq a b) p Γ K=a1B cx H a (2*p) Γ fun e Γ'=>match e with
   |.normal=>a1B cx H b (2*p+1) Γ' K
   |e=>K e Γ':=by
 simp only[a1B,h];rfl
theorem c7i{ρ:Type}{cx:Cx}{H:Hints}{id:Nat}{ops:Array Oper}{p:Nat}(Γ:AE)(K:Ex→AE→Rs ρ):a1B cx H (.region id ops false) p Γ K=a5T cx ops.toList (ops.toList.map fun o=>(.x,o)) Γ fun Γ'=>K .normal Γ':=by
 simp only[a1B,cF]
def b0B:Code:=match Tryz.f174.body with
 |some c=>c
 |none=>.skip
def c4g:Code→Code
 |.seq a _=>a
 |c=>c
def d0t:Code→Code
 |.seq _ b=>b
 |c=>c
def d2a:Code→Array Oper
 |.region _ ops _=>ops
 |_=>#[]
def c9j:Code:=d0t (d0t b0B)
def b4N:List Oper:=(d2a (c4g c9j)).toList
def Γ174(x:Int):AE:=(((ini [.v (.int .u64)] x).set 2 (.val QI (0:Int))).set 3 (.val (.int .u64) x)).set 4 (.val .bool (x==(0:Int)))
def Γ174r(x:Int):AE:=(Γ174 x).set 2 (.val QI (64:Int))
def c7j(e:Ex)(Γ:AE):Option Int:=match e,Γ.pd with
  |.exit _,_=>none
  |_,some _=>none
  |_,none=>(Γ.upto Tryz.f174.ntmps).outs b1o [] Tryz.f174.ntmps [.v QI] (Tryz.f174.results.toList.map .inl) fun y _=>some y
def Γ174b(x a b c i:Int):AE:=((((((Γ174 x).set 5 (.val (.int .u64) x)).set 6 (.val (.int .u64) x)).set 7 (.val (.int .u64) a)).set 8 (.val (.int .u64) b)).set 9 (.val (.int .u64) c)).set 10 (.val (.int .u64) i)
set_option maxRecDepth 100000
theorem d3q:b0B=.seq (c4g b0B) (.seq (c4g (d0t b0B)) (.seq (.region 3 (d2a (c4g c9j)) false) .ret)):=by kernel_rfl
theorem d5i(x:Int):b8Q b1o c4f Tryz.f174 a1g.ps a1g.rs x=a1B b1o c4f b0B 1 (ini [.v (.int .u64)] x) c7j:=rfl
theorem d5j(x:Int)(K:Ex→AE→Option Int):a1B b1o c4f (c4g b0B) 2 (ini [.v (.int .u64)] x) K=K .normal ((ini [.v (.int .u64)] x).set 2 (.val (.int .i64) (0:Int))):=by kernel_rfl
theorem d5k(x:Int)(K:Ex→AE→Option Int):a1B b1o c4f (c4g (d0t b0B)) 6 ((ini [.v (.int .u64)] x).set 2 (.val (.int .i64) (0:Int))) K=bif x==(0:Int)then K .ret (Γ174r x)else K .normal (Γ174 x):=by kernel_rfl
theorem d5l(x:Int):c7j .ret (Γ174r x)=some (64:Int):=by kernel_rfl
theorem d5m(x:Int)(K:AE→Option Int):a5T b1o b4N ((b4N.map fun o=>(Md.x,o)).take 6) (Γ174 x) K =
  K (Γ174b x (wrap .u64 (0-x)) (bits .u64 .and x (wrap .u64 (0-x))) (wrap .u64 ((bits .u64 .and x (wrap .u64 (0-x)))*(285870213051353865:Int))) (a0F .u64 (wrap .u64 ((bits .u64 .and x (wrap .u64 (0-x)))*(285870213051353865:Int))) (58:Int))):=by kernel_rfl
theorem d5n(x a b c i:Int):a5T b1o b4N ((b4N.map fun o=>(Md.x,o)).drop 6) (Γ174b x a b c i) (fun Γ=>c7j .ret Γ)=(a0o b2m i).bind fun x1=>some (wrap .i64 x1):=by kernel_rfl
theorem d5o(x:Int):a5T b1o b4N (b4N.map fun o=>(Md.x,o)) (Γ174 x) (fun Γ=>c7j .ret Γ)=(a0o b2m (a0F .u64 (wrap .u64 ((bits .u64 .and x (wrap .u64 (0-x)))*(285870213051353865:Int))) (58:Int))).bind fun x1=>some (wrap .i64 x1):=by
 rw[←List.take_append_drop 6 (b4N.map fun o=>(Md.x,o)),c0W,d5m,d5n]
theorem d5V(x:Int):a1B b1o c4f b0B 1 (ini [.v (.int .u64)] x) c7j=a1U x:=by
 rw[d3q,b9z rfl,d5j];simp only[];rw[b9z rfl,d5k];simp only[];rw[b9z rfl,c7i];simp only[a1B];rw[d5l];exact congrArg (fun z=>bif x==(0:Int)then some (64:Int)else z) (d5o x)
theorem d6C(x):b8Q b1o c4f Tryz.f174 a1g.ps a1g.rs x=a1g.F x:=(d5i x).trans (d5V x)
def a5M(s:Z27):Option Z58:= cond (decide (s.2.2.2.1<s.2.2.1)) ((a0o s.2.1 s.2.2.2.1).bind fun x1=> some (.inl (bits .i64 .or s.1 x1,s.2.1,s.2.2.1,wrap .i64 (s.2.2.2.1+1),()))) (some (.inr (s.1,())))
def a4f(x:(List Int)):Option Int:= (a0j a5M (0,x,(x.length:Int),0,())).bind fun w2=> cond (w2.1==0) (some 0) ((a1U (wrap .u64 w2.1)).bind fun y3=> some (a3Z y3 30))
def b1p:FSem:=⟨[.v QL],[.v QI],a4f⟩
def H92:Hints:=⟨[(58,[.sv 3 QI,.sv 6 QL,.sv 7 QI,.sv 8 QI],[(.exit 0,[.sv 3 QI])])],[],[]⟩
def a5N(s:Z30):Option (Z30 ⊕ Z16):= cond (decide ((wrap .i64 (s.1+1))<(s.2.2.2.1.length:Int))) (cond ((decide (0≤(wrap .i64 (s.1+1))))&&(decide ((wrap .i64 (s.1+1))<(s.2.2.2.1.length:Int)))) (cond ((decide (0≤s.1))&&(decide (s.1<(s.2.2.2.1.length:Int)))) (cond ((decide (0≤s.1))&&(decide (s.1<(s.2.2.2.1.length:Int)))) (some (.inl (wrap .i64 (s.1+1),s.2.1,s.2.2.1,a05 s.2.2.2.1 (a01 s.1) (wrap .i64 ((a03 s.2.2.2.1 (a01 (wrap .i64 (s.1+1))) 0)-(a03 s.2.2.2.1 (a01 s.1) 0))),()))) none) none) none) (some (.inr (s.2.1,s.2.2.1,s.2.2.2.1,())))
def a7Z(s:Z16):Option (Z16 ⊕ ((List Int)×Unit)):= cond (decide (s.2.1<s.1)) ((a0j a5N (0,s.1,s.2.1,s.2.2.1,())).bind fun w3=> cond ((decide (0≤(wrap .i64 ((w3.2.2.1.length:Int)-1))))&&(decide ((wrap .i64 ((w3.2.2.1.length:Int)-1))≤(w3.2.2.1.length:Int)))) (cond (decide ((a01 (wrap .i64 ((w3.2.2.1.length:Int)-1)))≤(a02 w3.2.2.1))) (some (.inl (w3.1,wrap .i64 (w3.2.1+1),a07 (a01 (wrap .i64 ((w3.2.2.1.length:Int)-1))) w3.2.2.1,()))) none) none) (some (.inr (s.2.2.1,())))
def a8w(x:((List Int)×Int)):Option ((List Int)×Int):= (show Option Z18 from cond (decide (x.2<0)) (some (x.1,x.2,true,())) (cond (decide (x.2 > 4)) (some (x.1,x.2,true,())) (some (x.1,x.2,decide ((x.1.length:Int)<x.2),())))).bind fun z1=> cond z1.2.2.1 (some ([],1)) ((a2M z1.1).bind fun y2=> cond (!y2) (some ([],6)) (cond (lim (a02 z1.1)) ((a0j a7Z (z1.2.1,0,z1.1,())).bind fun w4=> (a2M w4.1).bind fun y5=> cond (!y5) (some ([],6)) (some (w4.1,0))) none))
def b4O:FSem:=⟨[.v QL,.v QI],[.o QI,.v QI],a8w⟩
def d9O:Hints:=⟨[(250,[.sv 25 QI,.sv 26 QI,.own 6 6 QI],[(.exit 0,[.own 6 6 QI])]),(64098,[.sv 7 QI,.sv 25 QI,.sv 26 QI,.own 6 6 QI],[(.exit 2,[.sv 25 QI,.sv 26 QI,.own 6 6 QI])])],[(6,[(.normal,[.sv 0 QL,.sv 1 QI,.sv 19 .bool])])],[(11,[.q,.v,.q,.v,.v,.q,.q,.q,.v,.q,.q,.v,.x,.x])]⟩
def a5a(s:((List Int)×Z37)):Option (((List Int)×Z37) ⊕ Z42):= cond (decide (s.2.2.2.1<(s.1.length:Int))) ((a0o s.1 s.2.2.2.1).bind fun x4=> cond ((decide (0≤s.2.2.2.1))&&(decide (s.2.2.2.1≤(s.1.length:Int)))) ((a4U (a07 (a01 s.2.2.2.1) s.1,s.2.1,s.2.2.1)).bind fun y5=> (a5q (wrap .i64 (x4-y5))).bind fun y6=> cond (!y6) (some (.inr (Sum.inr ((6,[],()))))) (cond (lim ((a02 s.2.2.2.2.1)+1)) (some (.inl (s.1,s.2.1,s.2.2.1,wrap .i64 (s.2.2.2.1+1),a04 s.2.2.2.2.1 [wrap .i64 (x4-y5)],()))) none)) none) (some (.inr (Sum.inl (s.2.2.2.2.1,()))))
def a7p(x:Z10):Option ((List Int)×Int):= (show Option Z43 from(a4S (x.2.1,x.2.2)).bind fun y1=> cond (!y1) (some (x.1,x.2.1,x.2.2,true,())) (some (x.1,x.2.1,x.2.2,decide ((x.1.length:Int)<(x.2.1.length:Int)),()))).bind fun z2=> cond z2.2.2.2.1 (some ([],1)) ((a2Y z2.1).bind fun y3=> cond (!y3) (some ([],6)) (cond ((decide (0≤(wrap .i64 ((z2.1.length:Int)-(z2.2.1.length:Int)))))&&(lim (a01 (wrap .i64 ((z2.1.length:Int)-(z2.2.1.length:Int)))))) ((a0j a5a (z2.1,z2.2.1,z2.2.2.1,(z2.2.1.length:Int),[],())).bind fun w7=> match w7 with |.inl a8=>some (a8.1,0) |.inr b9=>some (b9.2.1,b9.1)) none))
def b8v:FSem:=⟨[.v QL,.v QL,.v QI],[.o QI,.v QI],a7p⟩
def d9P:Hints:=⟨[(250,[.sv 0 QL,.sv 1 QL,.sv 2 QI,.sv 9 QI,.own 8 8 QI],[(.exit 0,[.own 8 8 QI]),(.ret,[.sv 7 QI,.own 6 6 QI])])],[(6,[(.normal,[.sv 0 QL,.sv 1 QL,.sv 2 QI,.sv 21 .bool])])],[(9,[.v,.v,.v,.v,.v,.v,.v,.v,.v,.v,.x,.x])]⟩
def a6v(s:((List Int)×Z74)):Option (((List Int)×Z74) ⊕ Z42):= cond (decide (s.2.2.2.2.1<s.2.2.2.1)) ((a0o s.2.2.1 s.2.2.2.2.1).bind fun x3=> (a4L (s.1,s.2.2.2.2.1,s.2.1,s.2.2.2.2.2.2.1)).bind fun y4=> (a7B (wrap .i64 (x3-y4))).bind fun y5=> cond (!y5) (some (.inr (Sum.inr ((6,[],()))))) (cond (lim ((a02 s.2.2.2.2.2.1)+1)) (some (.inl (s.1,s.2.1,s.2.2.1,s.2.2.2.1,wrap .i64 (s.2.2.2.2.1+1),a04 s.2.2.2.2.2.1 [wrap .i64 (x3-y4)],s.2.2.2.2.2.2.1,()))) none)) (some (.inr (Sum.inl (s.2.2.2.2.2.1,()))))
def a7H(x:((List Int)×(Int×(List Int)))):Option ((List Int)×Int):= (a8R (x.2.1,x.2.2)).bind fun y1=> cond (!y1) (some ([],1)) ((a4K x.1).bind fun y2=> cond (!y2) (some ([],6)) (cond ((decide (0≤(x.1.length:Int)))&&(lim (a01 (x.1.length:Int)))) ((a0j a6v (x.1,x.2.1,x.1,(x.1.length:Int),0,[],x.2.2,())).bind fun w6=> match w6 with |.inl a7=>some (a7.1,0) |.inr b8=>some (b8.2.1,b8.1)) none))
def b2H:FSem:=⟨[.v QL,.v QI,.v (.arr 3 QI)],[.o QI,.v QI],a7H⟩
def d9Q:Hints:=⟨[(250,[.sv 0 QL,.sv 1 QI,.sv 22 QL,.sv 23 QI,.sv 24 QI,.own 8 8 QI,.vp 5 (.arr 3 QI)],[(.exit 0,[.own 8 8 QI]),(.ret,[.sv 7 QI,.own 6 6 QI])])],[],[]⟩
def a5O(s:(Z4×Int×Int×Int×Z75)):Option ((Z4×Int×Int×Int×Z75) ⊕ ((Z4×Z16) ⊕ Z5)):= cond (decide (s.2.2.2.2.1<s.2.2.2.1)) (cond ((decide (0≤s.2.2.2.2.1))&&(decide (s.2.2.2.2.1<(s.2.2.2.2.2.1.length:Int)))) ((a2s s.2.2.2.2.2.2.1).bind fun y6=> (a6t (wrap .i64 ((a03 s.2.2.2.2.2.1 (a01 s.2.2.2.2.1) 0)-y6.1))).bind fun y7=> cond (!y7) (some (.inr (Sum.inr ((6,[],()))))) ((a3H (y6.2,a03 s.2.2.2.2.2.1 (a01 s.2.2.2.2.1) 0)).bind fun y8=> cond ((decide (0≤s.2.2.2.2.1))&&(decide (s.2.2.2.2.1<(s.2.2.2.2.2.1.length:Int)))) (some (.inl (s.1,s.2.1,s.2.2.1,s.2.2.2.1,wrap .i64 (s.2.2.2.2.1+1),a05 s.2.2.2.2.2.1 (a01 s.2.2.2.2.1) (wrap .i64 ((a03 s.2.2.2.2.2.1 (a01 s.2.2.2.2.1) 0)-y6.1)),y8,()))) none)) none) (some (.inr (Sum.inl (s.1,s.2.1,s.2.2.1,s.2.2.2.2.2.1,()))))
def a5P(s:(Z4×Z16)):Option ((Z4×Z16) ⊕ Z42):= cond (decide (s.2.2.1<s.2.1)) ((a0o s.1 s.2.2.1).bind fun x4=> (a9y x4).bind fun y5=> cond (y5.2 != 0) (some (.inr (Sum.inr ((y5.2,[],()))))) ((a0j a5O (s.1,s.2.1,s.2.2.1,(s.2.2.2.1.length:Int),0,s.2.2.2.1,y5.1,())).bind fun w9=> match w9 with |.inl a10=>some (.inl (a10.1,a10.2.1,wrap .i64 (a10.2.2.1+1),a10.2.2.2.1,())) |.inr b11=>some (.inr (Sum.inr ((b11.1,b11.2.1,())))))) (some (.inr (Sum.inl (s.2.2.2.1,()))))
def b1q(x:((List Int)×Z4)):Option ((List Int)×Int):= (a7z x.2).bind fun y1=> cond (!y1) (some ([],1)) ((a5B x.1).bind fun y2=> cond (!y2) (some ([],6)) ((a1f x.1).bind fun y3=> (a0j a5P (x.2,(x.2.length:Int),0,y3,())).bind fun w12=> match w12 with |.inl a13=>some (a13.1,0) |.inr b14=>some (b14.2.1,b14.1)))
def b9A:FSem:=⟨[.v QL,.v (.list false Q3)],[.o QI,.v QI],b1q⟩
def d9R:Hints:=⟨[(250,[.sv 22 (.list false Q3),.sv 23 QI,.sv 24 QI,.own 6 6 QI],[(.exit 0,[.own 6 6 QI]),(.ret,[.sv 5 QI,.own 4 4 QI])]),(256414,[.sv 22 (.list false Q3),.sv 23 QI,.sv 24 QI,.sv 37 QI,.sv 38 QI,.own 6 6 QI,.box 1030 Q12,.ptr 9 1030 [],.ref 36 6 []],[(.exit 2,[.sv 22 (.list false Q3),.sv 23 QI,.sv 24 QI,.own 6 6 QI]),(.ret,[.sv 5 QI,.own 4 4 QI])])],[],[]⟩
def b2I(x:(Z93×(List Int))):Option (Int×Z93):= (show Option ((List Int)×((List Int)×(Int×Z96)))from cond (x.1.1==2) ((a8w (x.2,x.1.2.2.1)).bind fun y1=> some (x.2,y1.1,y1.2,x.1,())) (cond (x.1.1==3) ((a7p (x.2,x.1.2.2.2.2.2.1,x.1.2.2.2.1)).bind fun y2=> some (x.2,y2.1,y2.2,x.1,())) (cond (x.1.1==4) ((a7H (x.2,x.1.2.2.2.2.1,x.1.2.2.2.2.2.2.1)).bind fun y3=> cond (y3.2==0) ((a7p (y3.1,x.1.2.2.2.2.2.1,x.1.2.2.2.1)).bind fun y4=> some (y3.1,y4.1,y4.2,x.1,())) (some (y3.1,[],y3.2,x.1,()))) (cond (x.1.1==5) ((b1q (x.2,x.1.2.2.2.2.2.2.2.1)).bind fun y5=> some (x.2,y5.1,y5.2,x.1,())) (some (x.2,[],0,x.1,())))))).bind fun z6=> cond (z6.2.2.1 != 0) (some (z6.2.2.1,z6.2.2.2.1)) ((a4T (z6.2.2.2.1,(z6.1.length:Int))).bind fun y7=> cond ((decide (0≤y7))&&(decide (y7≤(z6.1.length:Int)))) ((a1f (a07 (a01 y7) z6.1)).bind fun y8=> some (0,z6.2.2.2.1.1,z6.2.2.2.1.2.1,z6.2.2.2.1.2.2.1,z6.2.2.2.1.2.2.2.1,z6.2.2.2.1.2.2.2.2.1,z6.2.2.2.1.2.2.2.2.2.1,z6.2.2.2.1.2.2.2.2.2.2.1,z6.2.2.2.1.2.2.2.2.2.2.2.1,y8,z6.2.2.2.1.2.2.2.2.2.2.2.2.2.1,z6.2.1,z6.2.2.2.1.2.2.2.2.2.2.2.2.2.2.2)) none)
def c0X:FSem:=⟨[.r false (.b Q31),.v QL],[.v QI],b2I⟩
def d9S:Hints:=⟨[],[(15,[(.normal,[.sv 1 QL,.sv 5 QL,.sv 6 QI,.box pinned Q31,.ptr 0 pinned []])])],[(7,[.v,.p,.p,.q,.q,.p,.p,.q,.q,.x,.x,.q,.q,.q,.x]),(9,[.v,.p,.p,.q,.q,.p,.p,.q,.q,.x,.x,.q,.q,.q,.x]),(11,[.q,.p,.p,.q,.q,.p,.p,.q,.q,.x,.x,.q,.q,.q,.x])]⟩
def a6w(s:Z29):Option (Z29 ⊕ (Int×Unit)):= cond (decide (s.2.2.2.1≤25)) ((a3R (s.2.2.2.1,s.1)).bind fun y2=> cond (decide (y2<s.2.2.1)) (some (.inl (s.1,s.2.2.2.1,y2,wrap .i64 (s.2.2.2.1+1),()))) (some (.inl (s.1,s.2.1,s.2.2.1,wrap .i64 (s.2.2.2.1+1),())))) (some (.inr (s.2.1,())))
def b2J(x:(List Int)):Option Int:= (a3R (0,x)).bind fun y1=> (a0j a6w (x,0,y1,1,())).bind fun w3=> some w3.1
def c0Y:FSem:=⟨[.v QL],[.v QI],b2J⟩
def d9T:Hints:=⟨[(58,[.sv 0 QL,.sv 3 QI,.sv 4 QI,.sv 5 QI],[(.exit 0,[.sv 3 QI])])],[],[]⟩
def a9f(x:(List Int)):Option Int:= (b2J x).bind fun y1=> (a5X x).bind fun y2=> (a3R (y1,x)).bind fun y3=> cond (decide (y2<y3)) (some 31) (some y1)
def b6S:FSem:=⟨[.v QL],[.v QI],a9f⟩
def d9U:Hints:=⟨[],[],[]⟩
def a8a(s:(Int×(Int×(Int×((List Int)×(Int×(Int×((List Int)×(Int×(Int×((List Int)×Z85))))))))))):Option ((Int×(Int×(Int×((List Int)×(Int×(Int×((List Int)×(Int×(Int×((List Int)×Z85)))))))))) ⊕ (Int×(Int×(Int×((List Int)×(Int×Int×Z85)))))):= cond (decide (s.2.2.2.2.2.2.2.2.1<s.2.2.2.2.2.2.2.1)) (cond ((decide (0≤s.2.2.2.2.2.2.2.2.1))&&(decide (s.2.2.2.2.2.2.2.2.1<(s.2.2.2.2.2.2.2.2.2.1.length:Int)))) (cond ((decide (0≤(a03 s.2.2.2.2.2.2.2.2.2.1 (a01 s.2.2.2.2.2.2.2.2.1) 0)))&&(decide ((a03 s.2.2.2.2.2.2.2.2.2.1 (a01 s.2.2.2.2.2.2.2.2.1) 0)≤(s.2.2.2.2.2.2.1.length:Int)))) ((a9f (a07 (a01 (a03 s.2.2.2.2.2.2.2.2.2.1 (a01 s.2.2.2.2.2.2.2.2.1) 0)) s.2.2.2.2.2.2.1)).bind fun y3=> cond (lim ((a02 s.2.2.2.2.2.2.2.2.2.2.2.2.1.2.1)+1)) (cond ((decide (0≤(a03 s.2.2.2.2.2.2.2.2.2.1 (a01 s.2.2.2.2.2.2.2.2.1) 0)))&&(decide ((a03 s.2.2.2.2.2.2.2.2.2.1 (a01 s.2.2.2.2.2.2.2.2.1) 0)≤(s.2.2.2.2.2.2.1.length:Int)))) (some (.inl (s.1,s.2.1,s.2.2.1,s.2.2.2.1,s.2.2.2.2.1,s.2.2.2.2.2.1,a30 (a01 (a03 s.2.2.2.2.2.2.2.2.2.1 (a01 s.2.2.2.2.2.2.2.2.1) 0)) (a07 (a02 s.2.2.2.2.2.2.1) s.2.2.2.2.2.2.1),s.2.2.2.2.2.2.2.1,wrap .i64 (s.2.2.2.2.2.2.2.2.1+1),s.2.2.2.2.2.2.2.2.2.1,s.2.2.2.2.2.2.2.2.2.2.1,s.2.2.2.2.2.2.2.2.2.2.2.1,(s.2.2.2.2.2.2.2.2.2.2.2.2.1.1,a04 s.2.2.2.2.2.2.2.2.2.2.2.2.1.2.1 [y3],s.2.2.2.2.2.2.2.2.2.2.2.2.1.2.2),()))) none) none) none) none) (some (.inr (s.1,s.2.1,s.2.2.1,s.2.2.2.1,s.2.2.2.2.1,s.2.2.2.2.2.1,s.2.2.2.2.2.2.2.2.2.2.1,s.2.2.2.2.2.2.2.2.2.2.2.1,s.2.2.2.2.2.2.2.2.2.2.2.2.1,())))
def a3o(s:(Int×(Int×(Int×((List Int)×(Int×Int×Z73)))))):Option ((Int×(Int×(Int×((List Int)×(Int×Int×Z73))))) ⊕ Z73):= cond (decide (s.2.2.2.2.2.1≤(a3Z (a2K s.2.2.1 0) 8))) ((a3x (s.2.2.2.2.2.1,s.1,s.2.1)).bind fun y2=> cond ((y2.length:Int)==0) (some (.inl (s.1,s.2.1,s.2.2.1,s.2.2.2.1,s.2.2.2.2.1,wrap .i64 (s.2.2.2.2.2.1+1),s.2.2.2.2.2.2.1,s.2.2.2.2.2.2.2.1,()))) ((a0j a8a (s.1,s.2.1,s.2.2.1,s.2.2.2.1,s.2.2.2.2.1,s.2.2.2.2.2.1,s.2.2.2.1,(y2.length:Int),0,y2,s.2.2.2.2.2.2.1,s.2.2.2.2.2.2.2.1,(s.2.2.2.2.2.1,[],()),())).bind fun w4=> (a4W (w4.2.2.2.2.2.2.2.2.1,w4.1,w4.2.1,w4.2.2.2.1)).bind fun y5=> (show Option (Int×(Int×(Int×((List Int)×(Int×Int×Int×Bool×Z85)))))from cond (w4.2.2.2.2.1==0) (some (w4.1,w4.2.1,w4.2.2.1,w4.2.2.2.1,w4.2.2.2.2.1,w4.2.2.2.2.2.1,y5,true,w4.2.2.2.2.2.2.1,w4.2.2.2.2.2.2.2.1,w4.2.2.2.2.2.2.2.2.1,())) (some (w4.1,w4.2.1,w4.2.2.1,w4.2.2.2.1,w4.2.2.2.2.1,w4.2.2.2.2.2.1,y5,decide (y5<w4.2.2.2.2.1),w4.2.2.2.2.2.2.1,w4.2.2.2.2.2.2.2.1,w4.2.2.2.2.2.2.2.2.1,()))).bind fun z6=> cond z6.2.2.2.2.2.2.2.1 (some (.inl (z6.1,z6.2.1,z6.2.2.1,z6.2.2.2.1,z6.2.2.2.2.2.2.1,wrap .i64 (z6.2.2.2.2.2.1+1),z6.2.2.2.2.2.2.2.2.1,z6.2.2.2.2.2.2.2.2.2.2.1,()))) (some (.inl (z6.1,z6.2.1,z6.2.2.1,z6.2.2.2.1,z6.2.2.2.2.1,wrap .i64 (z6.2.2.2.2.2.1+1),z6.2.2.2.2.2.2.2.2.1,z6.2.2.2.2.2.2.2.2.2.1,()))))) (some (.inr (s.2.2.2.2.2.2.1,s.2.2.2.2.2.2.2.1,())))
def b1r(x:(Int×Z1)):Option (Z5×Int):= (a7l (x.1,x.2.1,x.2.2.2)).bind fun y1=> cond (!y1) (some ((0,[],()),1)) ((a0j a3o (x.1,x.2.1,x.2.2.1,x.2.2.2,0,0,(0,[],()),(0,[],()),())).bind fun w7=> some (w7.2.1,0))
def b9B:FSem:=⟨[.v QI,.v QI,.v QI,.v QL],[.v Q7,.v QI],b1r⟩
def d9V:Hints:=⟨[(250,[.sv 0 QI,.sv 1 QI,.sv 2 QI,.sv 3 QL,.sv 11 QI,.sv 12 QI,.box 8 Q7,.box 10 Q7,.ptr 8 8 [],.ptr 10 10 []],[(.exit 0,[.box 8 Q7,.box 10 Q7,.ptr 8 8 [],.ptr 10 10 []])]),(512634,[.sv 0 QI,.sv 1 QI,.sv 2 QI,.sv 3 QL,.sv 11 QI,.sv 12 QI,.sv 15 QL,.sv 43 QI,.sv 44 QI,.own 42 13 QI,.box 8 Q7,.box 10 Q7,.box 14 Q6,.ptr 8 8 [],.ptr 10 10 [],.ptr 14 14 []],[(.exit 2,[.sv 0 QI,.sv 1 QI,.sv 2 QI,.sv 3 QL,.sv 11 QI,.sv 12 QI,.box 8 Q7,.box 10 Q7,.box 14 Q6,.ptr 8 8 [],.ptr 10 10 [],.ptr 14 14 []])])],[(256319,[(.normal,[.sv 0 QI,.sv 1 QI,.sv 2 QI,.sv 3 QL,.sv 11 QI,.sv 12 QI,.sv 18 QI,.sv 72 .bool,.box 8 Q7,.box 10 Q7,.box 14 Q7,.ptr 8 8 [],.ptr 10 10 [],.ptr 14 14 []])])],[(15,[.q,.q,.v,.v,.v,.v,.q,.x,.x,.x])]⟩
def a5t(s:((List Int)×((List Int)×d0q))):Option (((List Int)×((List Int)×d0q)) ⊕ (((List Int)×b3n) ⊕ (Int×Z96))):= cond (decide (s.2.2.2.1<s.2.2.1)) ((a0o s.2.1 s.2.2.2.1).bind fun x5=> (a0o s.1 0).bind fun x6=> cond (x5 != x6) (some (.inr (Sum.inr ((7,(0,0,0,0,0,[],a00 3 0,[],[],(0,[],()),[],()),()))))) (some (.inl (s.1,s.2.1,s.2.2.1,wrap .i64 (s.2.2.2.1+1),s.2.2.2.2.1,s.2.2.2.2.2.1,())))) (some (.inr (Sum.inl (s.1,s.2.2.2.2.1,s.2.2.2.2.2.1,()))))
def b1s(x:(Int×((List Int)×Z93))):Option Z95:= (show Option (Int×((List Int)×(Int×Bool×b3n)))from cond (decide ((x.2.1.length:Int)<1)) (some (x.1,x.2.1,(x.2.1.length:Int),true,(0,0,0,0,0,[],a00 3 0,[],[],(0,[],()),[],()),x.2.2,())) (cond (decide ((x.2.1.length:Int) > 4096)) (some (x.1,x.2.1,(x.2.1.length:Int),true,(0,0,0,0,0,[],a00 3 0,[],[],(0,[],()),[],()),x.2.2,())) ((a8p (x.1,x.2.2,(x.2.1.length:Int))).bind fun y1=> some (x.1,x.2.1,(x.2.1.length:Int),!y1,(0,0,0,0,0,[],a00 3 0,[],[],(0,[],()),[],()),x.2.2,())))).bind fun z2=> cond z2.2.2.2.1 (some ((0,0,0,0,0,[],a00 3 0,[],[],(0,[],()),[],()),1)) ((a2q z2.2.1).bind fun y3=> cond (!y3) (some ((0,0,0,0,0,[],a00 3 0,[],[],(0,[],()),[],()),6)) ((a6s (z2.1,z2.2.2.2.2.2.1)).bind fun y4=> cond (z2.1==0) ((a0j a5t (z2.2.1,z2.2.1,(z2.2.1.length:Int),0,z2.2.2.2.2.1,y4,())).bind fun w7=> match w7 with |.inl a8=>((a0o a8.1 0).bind fun x10=> some ((a8.2.2.1.1,a8.2.2.1.2.1,a8.2.2.1.2.2.1,a8.2.2.1.2.2.2.1,a8.2.2.1.2.2.2.2.1,a8.2.2.1.2.2.2.2.2.1,a8.2.2.1.2.2.2.2.2.2.1,a8.2.2.1.2.2.2.2.2.2.2.1,[x10],a8.2.2.1.2.2.2.2.2.2.2.2.2),0)) |.inr b9=>some (b9.2.1,b9.1)) ((a4f z2.2.1).bind fun y11=> (a7o (z2.2.1,y11)).bind fun y12=> cond (y12.2 != 0) (some ((0,0,0,0,0,[],a00 3 0,[],[],(0,[],()),[],()),6)) (cond (z2.1==1) (some ((y4.1,y11,y4.2.2.1,y4.2.2.2.1,y4.2.2.2.2.1,y4.2.2.2.2.2.1,y4.2.2.2.2.2.2.1,y4.2.2.2.2.2.2.2.1,y12.1,y4.2.2.2.2.2.2.2.2.2),0)) ((b2I ((y4.1,y11,y4.2.2),y12.1)).bind fun y13=> cond (y13.1 != 0) (some ((0,0,0,0,0,[],a00 3 0,[],[],(0,[],()),[],()),6)) ((b1r (z2.2.2.1,(y13.2.2.2.2.2.2.2.2.2.1.length:Int),6,y13.2.2.2.2.2.2.2.2.2.2.2.1)).bind fun y14=> cond (y14.2 != 0) (some ((0,0,0,0,0,[],a00 3 0,[],[],(0,[],()),[],()),6)) (some ((y13.2.1,y13.2.2.1,y13.2.2.2.1,y13.2.2.2.2.1,y13.2.2.2.2.2.1,y13.2.2.2.2.2.2.1,y13.2.2.2.2.2.2.2.1,y13.2.2.2.2.2.2.2.2.1,y13.2.2.2.2.2.2.2.2.2.1,y14.1,y13.2.2.2.2.2.2.2.2.2.2.2),0))))))))
def b7M:FSem:=⟨[.v QI,.v QL,.v Q31],[.v Q31,.v QI],b1s⟩
def H86:Hints:=⟨[(4050,[.sv 1 QL,.sv 39 QL,.sv 40 QI,.sv 41 QI,.box 6 Q31,.box 9 Q31,.ptr 6 6 [],.ptr 9 9 []],[(.exit 0,[.sv 1 QL,.box 6 Q31,.box 9 Q31,.ptr 6 6 [],.ptr 9 9 []]),(.ret,[.sv 7 QI,.box 6 Q31,.ptr 6 6 []])])],[(14,[(.normal,[.sv 0 QI,.sv 1 QL,.sv 8 QI,.sv 28 .bool,.box 6 Q31,.vp 5 Q31,.ptr 6 6 []])])],[]⟩
def a9n(x:Z6):Option Z17:= some (x.2.1,x)
def b3D:FSem:=⟨[.r false (.b Q5)],[.v QI],a9n⟩
def d9W:Hints:=⟨[],[],[]⟩
def a4y(x:Z95):Option Int:= (b0A (([],0,()),x.1,x.2)).bind fun y1=> cond (y1.1 != 0) (some 0) ((a9n y1.2).bind fun y2=> some y2.1)
def c2T:FSem:=⟨[.v Q31,.v QI],[.v QI],a4y⟩
def H89:Hints:=⟨[],[],[]⟩
def c1S(s:Z44):Option (Z44 ⊕ (Int×Unit)):= cond (decide (s.2.2.2.2.1<s.2.2.2.1)) ((a0o s.2.2.1 s.2.2.2.2.1).bind fun x1=> cond (decide ((wrap .i64 (s.2.2.2.2.1+s.1))≥4)) (some (.inl (s.1,wrap .i64 (s.2.1+(a2K x1 (wrap .i64 (0-x1)))),s.2.2.1,s.2.2.2.1,wrap .i64 (s.2.2.2.2.1+1),()))) (some (.inl (s.1,s.2.1,s.2.2.1,s.2.2.2.1,wrap .i64 (s.2.2.2.2.1+1),())))) (some (.inr (s.2.1,())))
def b8w(x:((List Int)×Int)):Option Int:= (a0j c1S (x.2,0,x.1,(x.1.length:Int),0,())).bind fun w2=> some w2.1
def b8x:FSem:=⟨[.v QL,.v QI],[.v QI],b8w⟩
def d9X:Hints:=⟨[(58,[.sv 1 QI,.sv 5 QI,.sv 8 QL,.sv 9 QI,.sv 10 QI],[(.exit 0,[.sv 5 QI])])],[],[]⟩
def c2U(s:Z29):Option (Z29 ⊕ (Int×Unit)):= cond (decide (s.2.2.2.1≤4)) ((a8w (s.1,s.2.2.2.1)).bind fun y1=> cond (y1.2 != 0) (some (.inl (s.1,s.2.1,s.2.2.1,wrap .i64 (s.2.2.2.1+1),()))) ((b8w (y1.1,s.2.2.2.1)).bind fun y2=> (show Option ((List Int)×(Int×Z22))from cond (decide (s.2.2.1<0)) (some (s.1,s.2.1,s.2.2.1,s.2.2.2.1,y2,true,())) (some (s.1,s.2.1,s.2.2.1,s.2.2.2.1,y2,decide (y2<s.2.2.1),()))).bind fun z3=> cond z3.2.2.2.2.2.1 (some (.inl (z3.1,z3.2.2.2.1,z3.2.2.2.2.1,wrap .i64 (z3.2.2.2.1+1),()))) (some (.inl (z3.1,z3.2.1,z3.2.2.1,wrap .i64 (z3.2.2.2.1+1),()))))) (some (.inr (s.2.1,())))
def b9C(x:(List Int)):Option Int:= (a0j c2U (x,0,(-1),0,())).bind fun w4=> some w4.1
def b9D:FSem:=⟨[.v QL],[.v QI],b9C⟩
def d9Y:Hints:=⟨[(58,[.sv 0 QL,.sv 3 QI,.sv 4 QI,.sv 5 QI],[(.exit 0,[.sv 3 QI])])],[(7463,[(.normal,[.sv 0 QL,.sv 3 QI,.sv 4 QI,.sv 5 QI,.sv 8 QI,.sv 30 .bool])])],[]⟩
def a9g(x:Int):Option Int:= some (a3Z (a2K x (-1048576)) 1048575)
def b1W:FSem:=⟨[.v QI],[.v QI],a9g⟩
def d9Z:Hints:=⟨[],[],[]⟩
def b9E(s:Z65):Option (Z65 ⊕ Z54):= cond (decide (s.2.1<0)) none ((a9g (a0F .i64 s.2.2.1 s.2.1)).bind fun y2=> cond (decide (s.2.1<0)) none (cond (y2 != (a0F .i64 s.2.2.1 s.2.1)) (some (.inl (s.1,wrap .i64 (s.2.1+1),s.2.2.1,s.2.2.2.1,s.2.2.2.2.1,s.2.2.2.2.2.1,()))) (some (.inr (s.1,s.2.1,s.2.2.2.1,s.2.2.2.2.1,s.2.2.2.2.2.1,())))))
def b9F(s:Z54):Option (Z54 ⊕ Z6):= cond (decide (s.2.2.2.2.1<s.2.2.2.1)) ((a0o s.2.2.1 s.2.2.2.2.1).bind fun x1=> (a0j b9E (s.1,s.2.1,x1,s.2.2.1,s.2.2.2.1,s.2.2.2.2.1,())).bind fun w3=> some (.inl (w3.1,w3.2.1,w3.2.2.1,w3.2.2.2.1,wrap .i64 (w3.2.2.2.2.1+1),()))) (some (.inr (s.1,s.2.1,())))
def b9G(s:Z53):Option (Z53 ⊕ ((List Int)×Unit)):= cond (decide (s.2.2.2.1<s.2.2.1)) ((a0o s.2.1 s.2.2.2.1).bind fun x5=> cond (decide (s.1<0)) none (cond ((decide (0≤s.2.2.2.1))&&(decide (s.2.2.2.1<(s.2.2.2.2.1.length:Int)))) (some (.inl (s.1,s.2.1,s.2.2.1,wrap .i64 (s.2.2.2.1+1),a05 s.2.2.2.2.1 (a01 s.2.2.2.1) (a0F .i64 x5 s.1),()))) none)) (some (.inr (s.2.2.2.2.1,())))
def b5v(x:(List Int)):Option (List Int):= (a0j b9F (x,0,x,(x.length:Int),0,())).bind fun w4=> cond ((decide (0≤(w4.1.length:Int)))&&((decide ((w4.1.length:Int)≤(w4.1.length:Int)))&&(lim (a01 (w4.1.length:Int))))) ((a0j b9G (w4.2.1,w4.1,(w4.1.length:Int),0,a00 (a01 (w4.1.length:Int)) 0,())).bind fun w6=> some w6.1) none
def b5w:FSem:=⟨[.v QL],[.o QI],b5v⟩
def e0a:Hints:=⟨[(58,[.sv 0 QL,.sv 3 QI,.sv 9 QL,.sv 10 QI,.sv 11 QI],[(.exit 0,[.sv 0 QL,.sv 3 QI])]),(250,[.sv 3 QI,.sv 29 QL,.sv 30 QI,.sv 31 QI,.own 6 6 QI],[(.exit 4,[.own 6 6 QI])]),(7474,[.sv 0 QL,.sv 3 QI,.sv 5 QI,.sv 9 QL,.sv 10 QI,.sv 11 QI],[(.exit 2,[.sv 0 QL,.sv 3 QI,.sv 9 QL,.sv 10 QI,.sv 11 QI])])],[],[(5,[.v,.v,.v,.v,.v,.v,.v,.x])]⟩
def b6n(s:((List Int)×Z29)):Option (((List Int)×Z29) ⊕ (Int×Int×Unit)):= cond (decide (s.2.2.2.2.1<(s.1.length:Int))) ((a0o s.1 s.2.2.2.2.1).bind fun x1=> (a0o s.2.1 (wrap .i64 (s.2.2.2.2.1-1))).bind fun x2=> (a0o s.1 s.2.2.2.2.1).bind fun x3=> (a0o s.1 s.2.2.2.2.1).bind fun x4=> (a0o s.2.1 (wrap .i64 (s.2.2.2.2.1-1))).bind fun x5=> (a0o s.2.1 (wrap .i64 (s.2.2.2.2.1-1))).bind fun x6=> some (.inl (s.1,s.2.1,wrap .i64 (s.2.2.1+(wrap .i64 (x1*x2))),wrap .i64 (s.2.2.2.1+(wrap .i64 ((wrap .i64 (x3*x4))+(wrap .i64 (x5*x6))))),wrap .i64 (s.2.2.2.2.1+1),()))) (some (.inr (s.2.2.1,s.2.2.2.1,())))
def b6o(s:(Int×Int×Unit)):Option ((Int×Int×Unit) ⊕ (Int×Int×Unit)):= cond (decide (s.2.1≥1099511627776)) (some (.inl (a0F .i64 s.1 1,a0F .i64 s.2.1 1,()))) (some (.inr (s.1,s.2.1,())))
def b1J(x:Z10):Option Int:= (a0j b6n (x.1,x.2.1,0,0,x.2.2,())).bind fun w7=> (a0j b6o (w7.1,w7.2.1,())).bind fun w8=> cond (w8.2.1==0) (some 0) (cond (w8.2.1==0) none ((show Option (Int×Unit)from cond (w8.2.1==0) none (cond (decide ((a26 (a0y .i64 w8.1 15) w8.2.1)<0)) (some (wrap .i64 ((wrap .i64 (a21 (a0y .i64 w8.1 15) w8.2.1))-1),())) (some (wrap .i64 (a21 (a0y .i64 w8.1 15) w8.2.1),())))).bind fun z9=> some (a3Z (a2K z9.1 (-16383)) 16383)))
def b1K:FSem:=⟨[.v QL,.v QL,.v QI],[.v QI],b1J⟩
def e0b:Hints:=⟨[(58,[.sv 0 QL,.sv 1 QL,.sv 7 QI,.sv 8 QI,.sv 9 QI],[(.exit 0,[.sv 7 QI,.sv 8 QI])]),(60,[.sv 7 QI,.sv 8 QI],[(.exit 2,[.sv 7 QI,.sv 8 QI])])],[(255,[(.normal,[.sv 10 QI])])],[(5,[.v,.v,.v,.v,.v,.v,.v,.v,.v,.v,.v,.x,.x]),(6,[.v,.v,.v,.v,.v,.v,.v,.v,.v,.v,.v,.v,.v,.v,.v,.v,.v,.v,.v,.v,.v,.v,.x,.x])]⟩
def b8J(s:(Int×Int×Z63)):Option ((Int×Int×Z63) ⊕ Z63):= cond (decide (s.2.2.2.1≥s.2.1)) (cond ((decide (0≤s.2.2.2.1))&&(decide (s.2.2.2.1<(s.2.2.2.2.1.length:Int)))) (cond ((decide (0≤(wrap .i64 (s.2.2.2.1-1))))&&(decide ((wrap .i64 (s.2.2.2.1-1))<(s.2.2.2.2.2.1.length:Int)))) ((a9g (wrap .i64 ((a03 s.2.2.2.2.1 (a01 s.2.2.2.1) 0)-(a0F .i64 (wrap .i64 (s.2.2.1*(a03 s.2.2.2.2.2.1 (a01 (wrap .i64 (s.2.2.2.1-1))) 0))) 14)))).bind fun y6=> cond ((decide (0≤s.2.2.2.1))&&(decide (s.2.2.2.1<(s.2.2.2.2.1.length:Int)))) ((a9g (wrap .i64 ((a03 s.2.2.2.2.2.1 (a01 (wrap .i64 (s.2.2.2.1-1))) 0)-(a0F .i64 (wrap .i64 (s.2.2.1*(a03 s.2.2.2.2.1 (a01 s.2.2.2.1) 0))) 14)))).bind fun y7=> cond ((decide (0≤s.2.2.2.1))&&(decide (s.2.2.2.1<(s.2.2.2.2.2.1.length:Int)))) (some (.inl (s.1,s.2.1,s.2.2.1,wrap .i64 (s.2.2.2.1-1),a05 s.2.2.2.2.1 (a01 s.2.2.2.1) y6,a05 s.2.2.2.2.2.1 (a01 s.2.2.2.1) y7,s.2.2.2.2.2.2.1,()))) none) none) none) none) (some (.inr (s.1,s.2.1,s.2.2.2.2.1,s.2.2.2.2.2.1,s.2.2.2.2.2.2.1,())))
def b8K(s:Z63):Option (Z63 ⊕ ((List Int)×Unit)):= cond (decide (s.2.1≤s.1)) ((b1J (s.2.2.1,s.2.2.2.1,s.2.1)).bind fun y5=> cond (lim ((a02 s.2.2.2.2.1)+1)) ((a0j b8J (s.1,s.2.1,y5,wrap .i64 ((s.2.2.1.length:Int)-1),s.2.2.1,s.2.2.2.1,a04 s.2.2.2.2.1 [y5],())).bind fun w8=> some (.inl (w8.1,wrap .i64 (w8.2.1+1),w8.2.2.1,w8.2.2.2.1,w8.2.2.2.2.1,()))) none) (some (.inr (s.2.2.2.2.1,())))
def b4P(x:((List Int)×Int)):Option ((List Int)×Int):= (show Option Z18 from cond (decide (x.2<1)) (some (x.1,x.2,true,())) (cond (decide (x.2 > 32)) (some (x.1,x.2,true,())) (some (x.1,x.2,decide ((x.1.length:Int) > 4096),())))).bind fun z1=> cond z1.2.2.1 (some ([],1)) ((a2Y z1.1).bind fun y2=> cond (!y2) (some ([],6)) ((b5v z1.1).bind fun y3=> (a1f y3).bind fun y4=> cond ((decide (0≤z1.2.1))&&(lim (a01 z1.2.1))) ((a0j b8K (z1.2.1,1,y3,y4,[],())).bind fun w9=> some (w9.1,0)) none))
def b4Q:FSem:=⟨[.v QL,.v QI],[.o QI,.v QI],b4P⟩
def e0c:Hints:=⟨[(1018,[.sv 1 QI,.sv 9 QI,.own 6 6 QI,.own 7 7 QI,.own 8 8 QI],[(.exit 0,[.own 8 8 QI])]),(260686,[.sv 1 QI,.sv 9 QI,.sv 10 QI,.sv 11 QI,.own 6 6 QI,.own 7 7 QI,.own 8 8 QI],[(.exit 2,[.sv 1 QI,.sv 9 QI,.own 6 6 QI,.own 7 7 QI,.own 8 8 QI])])],[(6,[(.normal,[.sv 0 QL,.sv 1 QI,.sv 24 .bool])])],[(16,[.q,.v,.q,.q,.q,.v,.v,.q,.q,.v,.x])]⟩
def c0q(s:Z39):Option (Z39 ⊕ (((List Int)×Unit) ⊕ Z6)):= cond (decide (s.2.2.2.1<s.2.2.1)) ((a0o s.2.1 s.2.2.2.1).bind fun x2=> (show Option ((List Int)×Z32)from cond (decide (x2<(-16383))) (some (s.1,s.2.1,s.2.2.1,s.2.2.2.1,true,())) (some (s.1,s.2.1,s.2.2.1,s.2.2.2.1,decide (x2 > 16383),()))).bind fun z3=> cond z3.2.2.2.2.1 (some (.inr (Sum.inr (([],1,()))))) (some (.inl (z3.1,z3.2.1,z3.2.2.1,wrap .i64 (z3.2.2.2.1+1),())))) (some (.inr (Sum.inl (s.1,()))))
def c0r(s:((List Int)×(Int×(Int×((List Int)×Z67))))):Option (((List Int)×(Int×(Int×((List Int)×Z67)))) ⊕ Z53):= cond (decide (s.2.2.2.2.2.2.2.2.1<s.2.2.2.2.2.2.2.1)) ((a0o s.2.2.2.2.2.2.1 s.2.2.2.2.2.2.2.2.1).bind fun x8=> (a0o s.1 (wrap .i64 ((wrap .i64 (s.2.1-1))-s.2.2.2.2.2.2.2.2.1))).bind fun x9=> cond (lim ((a02 s.2.2.2.2.2.2.2.2.2.1)+1)) (some (.inl (s.1,s.2.1,s.2.2.1,s.2.2.2.1,s.2.2.2.2.1,s.2.2.2.2.2.1,s.2.2.2.2.2.2.1,s.2.2.2.2.2.2.2.1,wrap .i64 (s.2.2.2.2.2.2.2.2.1+1),a04 s.2.2.2.2.2.2.2.2.2.1 [wrap .i64 (x8-(a0F .i64 (wrap .i64 (s.2.2.1*x9)) 14))],()))) none) (some (.inr (s.2.2.1,s.2.2.2.1,s.2.2.2.2.1,s.2.2.2.2.2.1,s.2.2.2.2.2.2.2.2.2.1,())))
def c0s(s:Z39):Option (Z39 ⊕ ((List Int)×Unit)):= cond (decide (s.2.2.2.1<s.2.2.1)) ((a0o s.2.1 s.2.2.2.1).bind fun x7=> cond ((decide (0≤(wrap .i64 (s.2.2.2.1+1))))&&(lim (a01 (wrap .i64 (s.2.2.2.1+1))))) ((a0j c0r (s.1,s.2.2.2.1,x7,s.2.1,s.2.2.1,s.2.2.2.1,s.1,(s.1.length:Int),0,[],())).bind fun w10=> cond (lim ((a02 w10.2.2.2.2.1)+1)) (some (.inl (a04 w10.2.2.2.2.1 [w10.1],w10.2.1,w10.2.2.1,wrap .i64 (w10.2.2.2.1+1),()))) none) none) (some (.inr (s.1,())))
def b6T(x:(List Int)):Option ((List Int)×Int):= (show Option ((List Int)×(Bool×Unit))from cond (decide ((x.length:Int)<1)) (some (x,true,())) (some (x,decide ((x.length:Int) > 32),()))).bind fun z1=> cond z1.2.1 (some ([],1)) ((a0j c0q (z1.1,z1.1,(z1.1.length:Int),0,())).bind fun w4=> match w4 with |.inl a5=>((a0j c0s ([],a5.1,(a5.1.length:Int),0,())).bind fun w11=> some (w11.1,0)) |.inr b6=>some (b6.1,b6.2.1))
def b6U:FSem:=⟨[.v QL],[.v QL,.v QI],b6T⟩
def e0d:Hints:=⟨[(58,[.sv 0 QL,.sv 20 QL,.sv 21 QI,.sv 22 QI],[(.exit 0,[.sv 0 QL]),(.ret,[.sv 2 QL,.sv 3 QI])]),(250,[.sv 6 QL,.sv 34 QL,.sv 35 QI,.sv 36 QI],[(.exit 2,[.sv 6 QL])]),(256410,[.sv 6 QL,.sv 7 QI,.sv 8 QI,.sv 34 QL,.sv 35 QI,.sv 36 QI,.sv 44 QL,.sv 45 QI,.sv 46 QI,.own 9 9 QI],[(.exit 4,[.sv 8 QI,.sv 34 QL,.sv 35 QI,.sv 36 QI,.own 9 9 QI])])],[(6,[(.normal,[.sv 0 QL,.sv 19 .bool])]),(3737,[(.normal,[.sv 0 QL,.sv 20 QL,.sv 21 QI,.sv 22 QI,.sv 31 .bool])])],[]⟩
def c0t(s:Z54):Option (Z54 ⊕ (Z6 ⊕ Z16)):= cond (decide (s.2.2.2.2.1<s.2.2.2.1)) ((a0o s.2.2.1 s.2.2.2.2.1).bind fun x2=> (show Option ((List Int)×(Int×Z32))from cond (decide (x2<(-35184372088832))) (some (s.1,s.2.1,s.2.2.1,s.2.2.2.1,s.2.2.2.2.1,true,())) (some (s.1,s.2.1,s.2.2.1,s.2.2.2.1,s.2.2.2.2.1,decide (x2 > 35184372088832),()))).bind fun z3=> cond z3.2.2.2.2.2.1 (some (.inr (Sum.inr ((0,1,[],()))))) (some (.inl (z3.1,z3.2.1,z3.2.2.1,z3.2.2.2.1,wrap .i64 (z3.2.2.2.2.1+1),())))) (some (.inr (Sum.inl (s.1,s.2.1,()))))
def c0u(s:((List Int)×(Int×Z67))):Option (((List Int)×(Int×Z67)) ⊕ Z37):= cond (decide (s.2.2.2.2.2.2.1<s.2.2.2.2.2.1)) ((a0o s.2.2.2.2.1 s.2.2.2.2.2.2.1).bind fun x8=> cond (decide (s.2.2.1<0)) none ((a4i (a0F .i64 (wrap .i64 (x8+s.2.2.2.1)) s.2.2.1,s.2.1)).bind fun y9=> cond (!y9) (some (.inr (s.1,s.2.1,s.2.2.1,s.2.2.2.2.2.2.2.1,()))) (cond (lim ((a02 s.2.2.2.2.2.2.2.1)+1)) (some (.inl (s.1,s.2.1,s.2.2.1,s.2.2.2.1,s.2.2.2.2.1,s.2.2.2.2.2.1,wrap .i64 (s.2.2.2.2.2.2.1+1),a04 s.2.2.2.2.2.2.2.1 [a0F .i64 (wrap .i64 (x8+s.2.2.2.1)) s.2.2.1],()))) none))) (some (.inr (s.1,s.2.1,s.2.2.1,s.2.2.2.2.2.2.2.1,())))
def c0v(s:Z15):Option (Z15 ⊕ (Unit ⊕ Z16)):= cond (decide (s.2.2.1≤14)) ((show Option Z29 from cond (decide (s.2.2.1 > 0)) (cond (decide ((wrap .i64 (s.2.2.1-1))<0)) none (some (s.1,s.2.1,s.2.2.1,a0y .i64 1 (wrap .i64 (s.2.2.1-1)),()))) (some (s.1,s.2.1,s.2.2.1,0,()))).bind fun z7=> cond ((decide (0≤(z7.1.length:Int)))&&(lim (a01 (z7.1.length:Int)))) ((a0j c0u (z7.1,z7.2.1,z7.2.2.1,z7.2.2.2.1,z7.1,(z7.1.length:Int),0,[],())).bind fun w10=> cond ((w10.2.2.2.1.length:Int)==(w10.1.length:Int)) (some (.inr (Sum.inr ((wrap .i64 (14-w10.2.2.1),0,w10.2.2.2.1,()))))) (some (.inl (w10.1,w10.2.1,wrap .i64 (w10.2.2.1+1),())))) none) (some (.inr (Sum.inl ())))
def b6V(x:((List Int)×Int)):Option Z3:= (show Option Z18 from cond (decide ((x.1.length:Int)<1)) (some (x.1,x.2,true,())) (cond (decide ((x.1.length:Int) > 32)) (some (x.1,x.2,true,())) (cond (decide (x.2<2)) (some (x.1,x.2,true,())) (some (x.1,x.2,decide (x.2 > 16),()))))).bind fun z1=> cond z1.2.2.1 (some ([],0,1)) ((a0j c0t (z1.1,z1.2.1,z1.1,(z1.1.length:Int),0,())).bind fun w4=> match w4 with |.inl a5=>((a0j c0v (a5.1,a5.2.1,0,())).bind fun w11=> match w11 with |.inl a12=>some ([],0,6) |.inr b13=>some (b13.2.2.1,b13.1,b13.2.1)) |.inr b6=>some (b6.2.2.1,b6.1,b6.2.1))
def b6W:FSem:=⟨[.v QL,.v QI],[.o QI,.v QI,.v QI],b6V⟩
def e0e:Hints:=⟨[(58,[.sv 0 QL,.sv 1 QI,.sv 31 QL,.sv 32 QI,.sv 33 QI],[(.exit 0,[.sv 0 QL,.sv 1 QI]),(.ret,[.sv 5 QI,.sv 6 QI,.own 4 4 QI])]),(122,[.sv 0 QL,.sv 1 QI,.sv 9 QI],[(.exit 2,[]),(.ret,[.sv 5 QI,.sv 6 QI,.own 4 11 QI])]),(125242,[.sv 0 QL,.sv 1 QI,.sv 9 QI,.sv 10 QI,.sv 56 QL,.sv 57 QI,.sv 58 QI,.own 11 11 QI],[(.exit 4,[.sv 0 QL,.sv 1 QI,.sv 9 QI,.own 11 11 QI])])],[(6,[(.normal,[.sv 0 QL,.sv 1 QI,.sv 30 .bool])]),(3737,[(.normal,[.sv 0 QL,.sv 1 QI,.sv 31 QL,.sv 32 QI,.sv 33 QI,.sv 42 .bool])]),(3913,[(.normal,[.sv 0 QL,.sv 1 QI,.sv 9 QI,.sv 10 QI])])],[]⟩
def b3y(x:Z3):Option Z3:= (b4P (x.1,x.2.1)).bind fun y1=> cond (y1.2 != 0) (some ([],0,y1.2)) ((b6T y1.1).bind fun y2=> cond (y2.2 != 0) (some ([],0,y2.2)) ((b6V (y2.1,x.2.2)).bind fun y3=> some (y3.1,y3.2.1,y3.2.2)))
def b3z:FSem:=⟨[.v QL,.v QI,.v QI],[.o QI,.v QI,.v QI],b3y⟩
def e0f:Hints:=⟨[],[],[]⟩
def c4h(s:((List Int)×(Int×Int×Z35))):Option (((List Int)×(Int×Int×Z35)) ⊕ ((List Int)×(Int×Z35))):= cond (decide (s.2.2.2.2.2.2.2.1<(s.1.length:Int))) ((a0o s.1 s.2.2.2.2.2.2.2.1).bind fun x3=> (a0o s.1 (wrap .i64 (s.2.2.2.2.2.2.2.1-s.2.2.2.2.2.1))).bind fun x4=> some (.inl (s.1,s.2.1,s.2.2.1,s.2.2.2.1,s.2.2.2.2.1,s.2.2.2.2.2.1,wrap .i64 (s.2.2.2.2.2.2.1+(a2K (wrap .i64 (x3-x4)) (wrap .i64 (0-(wrap .i64 (x3-x4)))))),wrap .i64 (s.2.2.2.2.2.2.2.1+1),()))) (some (.inr (s.1,s.2.1,s.2.2.1,s.2.2.2.1,s.2.2.2.2.1,s.2.2.2.2.2.1,s.2.2.2.2.2.2.1,())))
def c4i(s:((List Int)×Z35)):Option (((List Int)×Z35) ⊕ (Int×Unit)):= cond (decide (s.2.2.2.2.2.1≤s.2.2.1)) ((a0j c4h (s.1,s.2.1,s.2.2.1,s.2.2.2.1,s.2.2.2.2.1,s.2.2.2.2.2.1,0,s.2.2.1,())).bind fun w5=> (show Option ((List Int)×(Int×Int×Int×Z22))from cond (w5.2.2.2.2.2.1==w5.2.1) (some (w5.1,w5.2.1,w5.2.2.1,w5.2.2.2.1,w5.2.2.2.2.1,w5.2.2.2.2.2.1,w5.2.2.2.2.2.2.1,true,())) (some (w5.1,w5.2.1,w5.2.2.1,w5.2.2.2.1,w5.2.2.2.2.1,w5.2.2.2.2.2.1,w5.2.2.2.2.2.2.1,decide (w5.2.2.2.2.2.2.1<w5.2.2.2.2.1),()))).bind fun z6=> cond z6.2.2.2.2.2.2.2.1 (some (.inl (z6.1,z6.2.1,z6.2.2.1,z6.2.2.2.2.2.1,z6.2.2.2.2.2.2.1,wrap .i64 (z6.2.2.2.2.2.1+1),()))) (some (.inl (z6.1,z6.2.1,z6.2.2.1,z6.2.2.2.1,z6.2.2.2.2.1,wrap .i64 (z6.2.2.2.2.2.1+1),())))) (some (.inr (s.2.2.2.1,())))
def c0Z(x:Z3):Option (Int×Int):= (show Option Z32 from cond (decide (x.2.1<2)) (some (x.1,x.2.1,x.2.2,true,())) (cond (decide (x.2.1 > x.2.2)) (some (x.1,x.2.1,x.2.2,true,())) (cond (decide (x.2.2 > 1024)) (some (x.1,x.2.1,x.2.2,true,())) (some (x.1,x.2.1,x.2.2,decide ((x.1.length:Int) > 4096),()))))).bind fun z1=> cond z1.2.2.2.1 (some (0,1)) (cond (decide ((z1.1.length:Int)≤z1.2.2.1)) (some (0,7)) ((a4K z1.1).bind fun y2=> cond (!y2) (some (0,6)) ((a0j c4i (z1.1,z1.2.1,z1.2.2.1,0,0,z1.2.1,())).bind fun w7=> some (w7.1,0))))
def c1a:FSem:=⟨[.v QL,.v QI,.v QI],[.v QI,.v QI],c0Z⟩
def e0g:Hints:=⟨[(506,[.sv 0 QL,.sv 1 QI,.sv 2 QI,.sv 8 QI,.sv 9 QI,.sv 10 QI],[(.exit 0,[.sv 8 QI])]),(129610,[.sv 0 QL,.sv 1 QI,.sv 2 QI,.sv 8 QI,.sv 9 QI,.sv 10 QI,.sv 11 QI,.sv 12 QI],[(.exit 2,[.sv 0 QL,.sv 1 QI,.sv 2 QI,.sv 8 QI,.sv 9 QI,.sv 10 QI,.sv 11 QI])])],[(6,[(.normal,[.sv 0 QL,.sv 1 QI,.sv 2 QI,.sv 29 .bool])]),(32403,[(.normal,[.sv 0 QL,.sv 1 QI,.sv 2 QI,.sv 8 QI,.sv 9 QI,.sv 10 QI,.sv 11 QI,.sv 74 .bool])])],[(15,[.v,.v,.v,.v,.v,.v,.v,.v,.v,.v,.x,.x])]⟩
def b9H(x:Unit):Option (List (List Int)):= some ([a05 (a05 (a05 (a00 3 0) 0 0) 1 0) 2 0,a05 (a05 (a05 (a00 3 0) 0 0) 1 64) 2 0,a05 (a05 (a05 (a00 3 0) 0 0) 1 32) 2 0,a05 (a05 (a05 (a00 3 0) 0 16) 1 32) 2 16,a05 (a05 (a05 (a00 3 0) 0 21) 1 22) 2 21,a05 (a05 (a05 (a00 3 0) 0 0) 1 48) 2 0,a05 (a05 (a05 (a00 3 0) 0 (-8)) 1 64) 2 (-8),a05 (a05 (a05 (a00 3 0) 0 32) 1 32) 2 0,a05 (a05 (a05 (a00 3 0) 0 0) 1 32) 2 32]:List (List Int))
def b9I:FSem:=⟨[],[.o (.arr 3 QI)],b9H⟩
def e0h:Hints:=⟨[],[],[]⟩
def c4j(s:((List Int)×(Int×(Int×(Bool×(Int×(Int×(Int×(Int×(Int×((List (List Int))×((List Int)×Z36)))))))))))):Option (((List Int)×(Int×(Int×(Bool×(Int×(Int×(Int×(Int×(Int×((List (List Int))×((List Int)×Z36))))))))))) ⊕ ((List Int)×(Int×(Int×(Bool×(Int×(Int×(Int×((List (List Int))×Z36))))))))):= cond (decide (s.2.2.2.2.2.2.2.2.1<s.2.2.2.2.2.2.2.1)) (cond ((decide (0≤s.2.2.2.2.2.2.2.2.1))&&(decide (s.2.2.2.2.2.2.2.2.1<(s.2.2.2.2.2.2.2.2.2.2.1.length:Int)))) (some (.inl (s.1,s.2.1,s.2.2.1,s.2.2.2.1,wrap .i64 (s.2.2.2.2.1+(a2K (a03 s.2.2.2.2.2.2.2.2.2.2.1 (a01 s.2.2.2.2.2.2.2.2.1) 0) (wrap .i64 (0-(a03 s.2.2.2.2.2.2.2.2.2.2.1 (a01 s.2.2.2.2.2.2.2.2.1) 0))))),s.2.2.2.2.2.1,s.2.2.2.2.2.2.1,s.2.2.2.2.2.2.2.1,wrap .i64 (s.2.2.2.2.2.2.2.2.1+1),s.2.2.2.2.2.2.2.2.2.1,s.2.2.2.2.2.2.2.2.2.2.1,s.2.2.2.2.2.2.2.2.2.2.2.1,s.2.2.2.2.2.2.2.2.2.2.2.2.1,s.2.2.2.2.2.2.2.2.2.2.2.2.2.1,()))) none) (some (.inr (s.1,s.2.1,s.2.2.1,s.2.2.2.1,s.2.2.2.2.1,s.2.2.2.2.2.1,s.2.2.2.2.2.2.1,s.2.2.2.2.2.2.2.2.2.1,s.2.2.2.2.2.2.2.2.2.2.2.1,s.2.2.2.2.2.2.2.2.2.2.2.2.1,s.2.2.2.2.2.2.2.2.2.2.2.2.2.1,())))
def c4k(s:((List Int)×(Int×(Int×(Bool×(Int×(Int×((List (List Int))×Z11)))))))):Option (((List Int)×(Int×(Int×(Bool×(Int×(Int×((List (List Int))×Z11))))))) ⊕ (Bool×Z11)):= cond (decide (s.2.2.2.2.2.1<s.2.2.2.2.1)) (cond ((decide (0≤s.2.2.2.2.2.1))&&(decide (s.2.2.2.2.2.1<(s.2.2.2.2.2.2.1.length:Int)))) ((a7H (s.1,s.2.1,a03 s.2.2.2.2.2.2.1 (a01 s.2.2.2.2.2.1) (a00 3 0))).bind fun y3=> cond (y3.2 != 0) (some (.inl (s.1,s.2.1,s.2.2.1,s.2.2.2.1,s.2.2.2.2.1,wrap .i64 (s.2.2.2.2.2.1+1),s.2.2.2.2.2.2.1,s.2.2.2.2.2.2.2.1,s.2.2.2.2.2.2.2.2.1,()))) ((a0j c4j (s.1,s.2.1,s.2.2.1,s.2.2.2.1,0,s.2.2.2.2.1,s.2.2.2.2.2.1,(y3.1.length:Int),0,s.2.2.2.2.2.2.1,y3.1,s.2.2.2.2.2.2.2.1,s.2.2.2.2.2.2.2.2.1,a03 s.2.2.2.2.2.2.1 (a01 s.2.2.2.2.2.1) (a00 3 0),())).bind fun w4=> (show Option ((List Int)×(Int×(Int×(Bool×(Int×(Int×(Int×(Bool×((List (List Int))×Z36)))))))))from cond (!w4.2.2.2.1) (some (w4.1,w4.2.1,w4.2.2.1,w4.2.2.2.1,w4.2.2.2.2.1,w4.2.2.2.2.2.1,w4.2.2.2.2.2.2.1,true,w4.2.2.2.2.2.2.2.1,w4.2.2.2.2.2.2.2.2.1,w4.2.2.2.2.2.2.2.2.2.1,w4.2.2.2.2.2.2.2.2.2.2.1,())) (some (w4.1,w4.2.1,w4.2.2.1,w4.2.2.2.1,w4.2.2.2.2.1,w4.2.2.2.2.2.1,w4.2.2.2.2.2.2.1,decide (w4.2.2.2.2.1<w4.2.2.1),w4.2.2.2.2.2.2.2.1,w4.2.2.2.2.2.2.2.2.1,w4.2.2.2.2.2.2.2.2.2.1,w4.2.2.2.2.2.2.2.2.2.2.1,()))).bind fun z5=> cond z5.2.2.2.2.2.2.2.1 (some (.inl (z5.1,z5.2.1,z5.2.2.2.2.1,true,z5.2.2.2.2.2.1,wrap .i64 (z5.2.2.2.2.2.2.1+1),z5.2.2.2.2.2.2.2.2.1,z5.2.2.2.2.2.2.2.2.2.1,z5.2.2.2.2.2.2.2.2.2.2.2.1,()))) (some (.inl (z5.1,z5.2.1,z5.2.2.1,z5.2.2.2.1,z5.2.2.2.2.2.1,wrap .i64 (z5.2.2.2.2.2.2.1+1),z5.2.2.2.2.2.2.2.2.1,z5.2.2.2.2.2.2.2.2.2.1,z5.2.2.2.2.2.2.2.2.2.2.1,()))))) none) (some (.inr (s.2.2.2.1,s.2.2.2.2.2.2.2.1,s.2.2.2.2.2.2.2.2.1,())))
def c1b(x:((List Int)×Int)):Option ((List Int)×Int):= (show Option ((List Int)×(Int×Z8))from cond (decide (x.2<2)) (some (x.1,x.2,true,a00 3 0,())) (some (x.1,x.2,decide (x.2 > 1024),a00 3 0,()))).bind fun z1=> cond z1.2.2.1 (some (a00 3 0,1)) ((b9H ()).bind fun y2=> (a0j c4k (z1.1,z1.2.1,0,false,(y2.length:Int),0,y2,z1.2.2.2.1,a00 3 0,())).bind fun w6=> cond (!w6.1) (some (a00 3 0,6)) (some (w6.2.2.1,0)))
def c1c:FSem:=⟨[.v QL,.v QI],[.v (.arr 3 QI),.v QI],c1b⟩
def e0i:Hints:=⟨[(122,[.sv 0 QL,.sv 1 QI,.sv 7 QI,.sv 8 .bool,.sv 25 QI,.sv 26 QI,.own 24 1024 (.arr 3 QI),.box 4 (.arr 3 QI),.box 6 (.arr 3 QI),.ptr 4 4 [],.ptr 6 6 []],[(.exit 0,[.sv 8 .bool,.box 4 (.arr 3 QI),.box 6 (.arr 3 QI),.ptr 4 4 [],.ptr 6 6 []])]),(501370,[.sv 0 QL,.sv 1 QI,.sv 7 QI,.sv 8 .bool,.sv 13 QI,.sv 25 QI,.sv 26 QI,.sv 40 QI,.sv 41 QI,.own 24 1024 (.arr 3 QI),.own 39 11 QI,.box 4 (.arr 3 QI),.box 6 (.arr 3 QI),.box 10 (.arr 3 QI),.ptr 4 4 [],.ptr 6 6 [],.ptr 10 10 []],[(.exit 2,[.sv 0 QL,.sv 1 QI,.sv 7 QI,.sv 8 .bool,.sv 13 QI,.sv 25 QI,.sv 26 QI,.own 24 1024 (.arr 3 QI),.box 4 (.arr 3 QI),.box 6 (.arr 3 QI),.box 10 (.arr 3 QI),.ptr 4 4 [],.ptr 6 6 [],.ptr 10 10 []])])],[(6,[(.normal,[.sv 0 QL,.sv 1 QI,.sv 21 .bool,.box 4 (.arr 3 QI),.ptr 4 4 []])]),(125343,[(.normal,[.sv 0 QL,.sv 1 QI,.sv 7 QI,.sv 8 .bool,.sv 13 QI,.sv 25 QI,.sv 26 QI,.sv 58 .bool,.own 24 1024 (.arr 3 QI),.box 4 (.arr 3 QI),.box 6 (.arr 3 QI),.box 10 (.arr 3 QI),.ptr 4 4 [],.ptr 6 6 [],.ptr 10 10 []])])],[]⟩
def b9J(x:(List Int)):Option (Z93×Bool):= (c0Z (x,16,256)).bind fun y1=> cond (y1.2 != 0) (some ((0,0,0,0,0,[],a00 3 0,[],[],(0,[],()),[],()),false)) ((c1b (x,y1.1)).bind fun y2=> cond (y2.2 != 0) (some ((0,0,0,0,0,[],a00 3 0,[],[],(0,[],()),[],()),false)) ((a7H (x,y1.1,y2.1)).bind fun y3=> cond (y3.2 != 0) (some ((0,0,0,0,0,[],a00 3 0,[],[],(0,[],()),[],()),false)) ((b3y (y3.1,4,12)).bind fun y4=> cond (y4.2.2 != 0) (some ((0,0,0,0,0,[],a00 3 0,[],[],(0,[],()),[],()),false)) (some ((4,0,0,y4.2.1,y1.1,y4.1,y2.1,[],[],(0,[],()),[],()),true)))))
def b9K:FSem:=⟨[.v QL],[.v Q31,.v .bool],b9J⟩
def e0j:Hints:=⟨[],[],[]⟩
def a2n(x:(Int×(Int×((List Int)×Z94)))):Option ((List Int)×Z94):= (b3y (x.2.2.1,x.1,x.2.1)).bind fun y1=> cond (y1.2.2==0) (cond (lim ((a02 x.2.2.2)+1)) (some (x.2.2.1,a04 x.2.2.2 ([(3,0,0,y1.2.1,0,y1.1,a00 3 0,[],[],(0,[],()),[],())]:List Z93))) none) (some (x.2.2.1,x.2.2.2))
def b3g:FSem:=⟨[.v QI,.v QI,.r false (.b QL),.r false (.b (.list true Q31))],[],a2n⟩
def e0k:Hints:=⟨[],[],[]⟩
def b8L(s:(Int×d0m)):Option ((Int×d0m) ⊕ d0m):= cond (decide (s.1<5)) (cond (lim ((a02 s.2.1)+1)) (some (.inl (wrap .i64 (s.1+1),a04 s.2.1 ([(2,0,s.1,0,0,[],a00 3 0,[],[],(0,[],()),[],())]:List Z93),s.2.2.1,()))) none) (some (.inr (s.2.1,s.2.2.1,())))
def b4R(x:((List Int)×Int)):Option Z94:= (b9C x.1).bind fun y1=> (show Option (Int×((List Int)×Z97))from cond (decide (x.2≥1)) ((a2n (4,12,x.1,([(0,0,0,0,0,[],a00 3 0,[],[],(0,[],()),[],()),(1,0,0,0,0,[],a00 3 0,[],[],(0,[],()),[],()),(2,0,y1,0,0,[],a00 3 0,[],[],(0,[],()),[],())]:List Z93))).bind fun y2=> (a2n (8,12,y2.1,y2.2)).bind fun y3=> some (x.2,y3.1,y3.2,())) (some (x.2,x.1,([(0,0,0,0,0,[],a00 3 0,[],[],(0,[],()),[],()),(1,0,0,0,0,[],a00 3 0,[],[],(0,[],()),[],()),(2,0,y1,0,0,[],a00 3 0,[],[],(0,[],()),[],())]:List Z93),()))).bind fun z4=> (show Option (Int×d0m)from cond (decide (z4.1≥2)) (cond (lim ((a02 z4.2.2.1)+1)) (cond (lim ((a02 (a04 z4.2.2.1 ([(5,0,0,0,0,[],a00 3 0,([(16,4,())]:List (Int×Int×Unit)),[],(0,[],()),[],())]:List Z93)))+1)) ((b9J z4.2.1).bind fun y5=> cond y5.2 (cond (lim ((a02 (a04 (a04 z4.2.2.1 ([(5,0,0,0,0,[],a00 3 0,([(16,4,())]:List (Int×Int×Unit)),[],(0,[],()),[],())]:List Z93)) ([(5,0,0,0,0,[],a00 3 0,([(32,3,()),(16,5,())]:List (Int×Int×Unit)),[],(0,[],()),[],())]:List Z93)))+1)) (some (z4.1,a04 (a04 (a04 z4.2.2.1 ([(5,0,0,0,0,[],a00 3 0,([(16,4,())]:List (Int×Int×Unit)),[],(0,[],()),[],())]:List Z93)) ([(5,0,0,0,0,[],a00 3 0,([(32,3,()),(16,5,())]:List (Int×Int×Unit)),[],(0,[],()),[],())]:List Z93)) ([y5.1]:List Z93),z4.2.1,())) none) (some (z4.1,a04 (a04 z4.2.2.1 ([(5,0,0,0,0,[],a00 3 0,([(16,4,())]:List (Int×Int×Unit)),[],(0,[],()),[],())]:List Z93)) ([(5,0,0,0,0,[],a00 3 0,([(32,3,()),(16,5,())]:List (Int×Int×Unit)),[],(0,[],()),[],())]:List Z93),z4.2.1,()))) none) none) (some (z4.1,z4.2.2.1,z4.2.1,()))).bind fun z6=> (show Option Z97 from cond (decide (z6.1≥3)) ((a0j b8L (0,z6.2.1,z6.2.2.1,())).bind fun w7=> (a2n (1,12,w7.2.1,w7.1)).bind fun y8=> (a2n (2,12,y8.1,y8.2)).bind fun y9=> (a2n (12,14,y9.1,y9.2)).bind fun y10=> (a2n (16,14,y10.1,y10.2)).bind fun y11=> some (y11.2,())) (some (z6.2.1,()))).bind fun z12=> some z12.1
def b4S:FSem:=⟨[.v QL,.v QI],[.v (.list false Q31)],b4R⟩
def H93:Hints:=⟨[(4050,[.sv 50 QI,.box 5 (.list true Q31),.box 2 QL,.ptr 5 5 [],.clo 6 176 [2,5]],[(.exit 0,[.box 5 (.list true Q31),.box 2 QL,.ptr 5 5 [],.clo 6 176 [2,5]])])],[(15,[(.normal,[.sv 1 QI,.box 2 QL,.box 5 (.list true Q31),.ptr 2 2 [],.ptr 5 5 [],.clo 6 176 [2,5]])]),(31,[(.normal,[.sv 1 QI,.box 5 (.list true Q31),.box 2 QL,.ptr 5 5 [],.clo 6 176 [2,5]])]),(63,[(.normal,[.box 5 (.list true Q31),.ptr 5 5 []])])],[]⟩
def c5U(s:((List Int)×(Int×Bool×Z94×d0q))):Option (((List Int)×(Int×Bool×Z94×d0q)) ⊕ b3n):= cond (decide (s.2.2.2.2.2.1<s.2.2.2.2.1)) ((a0o s.2.2.2.1 s.2.2.2.2.2.1).bind fun x6=> (b1s (x6.1,s.1,x6)).bind fun y7=> cond (y7.2 != 0) (some (.inl (s.1,s.2.1,s.2.2.1,s.2.2.2.1,s.2.2.2.2.1,wrap .i64 (s.2.2.2.2.2.1+1),s.2.2.2.2.2.2.1,s.2.2.2.2.2.2.2.1,()))) ((a4y (y7.1,(s.1.length:Int))).bind fun y8=> (show Option ((List Int)×(Int×Bool×Int×Z94×Int×Int×Bool×Z93×b3n))from cond (!s.2.2.1) (some (s.1,s.2.1,s.2.2.1,y8,s.2.2.2.1,s.2.2.2.2.1,s.2.2.2.2.2.1,true,s.2.2.2.2.2.2.1,s.2.2.2.2.2.2.2.1,y7.1,())) (some (s.1,s.2.1,s.2.2.1,y8,s.2.2.2.1,s.2.2.2.2.1,s.2.2.2.2.2.1,decide (y8<s.2.1),s.2.2.2.2.2.2.1,s.2.2.2.2.2.2.2.1,y7.1,()))).bind fun z9=> cond z9.2.2.2.2.2.2.2.1 (some (.inl (z9.1,z9.2.2.2.1,true,z9.2.2.2.2.1,z9.2.2.2.2.2.1,wrap .i64 (z9.2.2.2.2.2.2.1+1),z9.2.2.2.2.2.2.2.2.1,z9.2.2.2.2.2.2.2.2.2.2.1,()))) (some (.inl (z9.1,z9.2.1,z9.2.2.1,z9.2.2.2.2.1,z9.2.2.2.2.2.1,wrap .i64 (z9.2.2.2.2.2.2.1+1),z9.2.2.2.2.2.2.2.2.1,z9.2.2.2.2.2.2.2.2.2.1,()))))) (some (.inr (s.2.2.2.2.2.2.1,s.2.2.2.2.2.2.2.1,())))
def c2V(x:((List Int)×Int)):Option Z95:= (show Option ((List Int)×Z99)from cond (decide ((x.1.length:Int)<1)) (some (x.1,x.2,true,(0,0,0,0,0,[],a00 3 0,[],[],(0,[],()),[],()),())) (cond (decide ((x.1.length:Int) > 4096)) (some (x.1,x.2,true,(0,0,0,0,0,[],a00 3 0,[],[],(0,[],()),[],()),())) (cond (decide (x.2<0)) (some (x.1,x.2,true,(0,0,0,0,0,[],a00 3 0,[],[],(0,[],()),[],()),())) (some (x.1,x.2,decide (x.2 > 3),(0,0,0,0,0,[],a00 3 0,[],[],(0,[],()),[],()),()))))).bind fun z1=> cond z1.2.2.1 (some ((0,0,0,0,0,[],a00 3 0,[],[],(0,[],()),[],()),1)) ((a2q z1.1).bind fun y2=> cond (!y2) (some ((0,0,0,0,0,[],a00 3 0,[],[],(0,[],()),[],()),6)) ((a4f z1.1).bind fun y3=> (a7o (z1.1,y3)).bind fun y4=> cond (y4.2 != 0) (some ((0,0,0,0,0,[],a00 3 0,[],[],(0,[],()),[],()),y4.2)) ((b4R (y4.1,z1.2.1)).bind fun y5=> (a0j c5U (z1.1,0,false,y5,(y5.length:Int),0,z1.2.2.2.1,(0,0,0,0,0,[],a00 3 0,[],[],(0,[],()),[],()),())).bind fun w10=> some (w10.2.1,0))))
def c2W:FSem:=⟨[.v QL,.v QI],[.v Q31,.v QI],c2V⟩
def H40:Hints:=⟨[(2042,[.sv 0 QL,.sv 9 QI,.sv 10 .bool,.sv 50 (.list false Q31),.sv 51 QI,.sv 52 QI,.box 4 Q31,.box 8 Q31,.ptr 4 4 [],.ptr 8 8 []],[(.exit 0,[.box 4 Q31,.box 8 Q31,.ptr 4 4 [],.ptr 8 8 []])])],[(6,[(.normal,[.sv 0 QL,.sv 1 QI,.sv 31 .bool,.box 4 Q31,.ptr 4 4 []])]),(1045711,[(.normal,[.sv 0 QL,.sv 9 QI,.sv 10 .bool,.sv 15 QI,.sv 50 (.list false Q31),.sv 51 QI,.sv 52 QI,.sv 76 .bool,.box 4 Q31,.box 8 Q31,.box 13 Q31,.ptr 4 4 [],.ptr 8 8 [],.ptr 13 13 []])])],[]⟩
def a8x(s:(Z14×Z26)):Option ((Z14×Z26) ⊕ (Z2 ⊕ Z13)):= cond (decide (s.2.2.1<s.2.1)) ((a0o s.1 s.2.2.1).bind fun x5=> (a8r (s.2.2.2.1,x5,1)).bind fun y6=> cond (!y6.1) (some (.inr (Sum.inr ((([]:(List (List Int))),6,()))))) (some (.inl (s.1,s.2.1,wrap .i64 (s.2.2.1+1),y6.2,())))) (some (.inr (Sum.inl (s.2.2.2.1,()))))
def b0C(x:((List (List Int))×Z14)):Option ((List (List Int))×Int):= (show Option ((List (List Int))×(Z14×Bool×Unit))from(a7C x.1).bind fun y1=> cond (!y1) (some (x.1,x.2,true,())) ((a8Q (x.2,(x.1.length:Int))).bind fun y2=> some (x.1,x.2,!y2,()))).bind fun z3=> cond z3.2.2.1 (some (([]:(List (List Int))),1)) ((a7k z3.1).bind fun y4=> (a0j a8x (z3.2.1,(z3.2.1.length:Int),0,y4,())).bind fun w7=> match w7 with |.inl a8=>some (a8.1,0) |.inr b9=>some (b9.1,b9.2.1))
def b5x:FSem:=⟨[.v (.list false QL),.v (.list false Q8)],[.v (.list false QL),.v QI],b0C⟩
def H79:Hints:=⟨[(122,[.sv 21 (.list false Q8),.sv 22 QI,.sv 23 QI,.own 6 6 (.list true QI)],[(.exit 0,[.own 6 6 (.list true QI)]),(.ret,[.sv 4 (.list false QL),.sv 5 QI])])],[(6,[(.normal,[.sv 0 (.list false QL),.sv 1 (.list false Q8),.sv 18 .bool])])],[]⟩
def c1T(s:(Int×((List Int)×Z40))):Option ((Int×((List Int)×Z40)) ⊕ Z40):= cond (decide (s.2.2.1<(s.2.1.length:Int))) ((a0o s.2.1 s.2.2.1).bind fun x3=> (a0o s.2.1 (wrap .i64 (s.2.2.1-1))).bind fun x4=> (a0o s.2.1 (wrap .i64 (s.2.2.1-2))).bind fun x5=> some (.inl (wrap .i64 (s.1+(a2K (wrap .i64 ((wrap .i64 (x3-(wrap .i64 (2*x4))))+x5)) (wrap .i64 (0-(wrap .i64 ((wrap .i64 (x3-(wrap .i64 (2*x4))))+x5)))))),s.2.1,wrap .i64 (s.2.2.1+1),s.2.2.2.1,s.2.2.2.2.1,s.2.2.2.2.2.1,()))) (some (.inr (s.1,s.2.2.2.1,s.2.2.2.2.1,s.2.2.2.2.2.1,())))
def c1U(s:Z40):Option (Z40 ⊕ (Int×Unit)):= cond (decide (s.2.2.2.1<s.2.2.1)) ((a0o s.2.1 s.2.2.2.1).bind fun x2=> (a0j c1T (s.1,x2,2,s.2.1,s.2.2.1,s.2.2.2.1,())).bind fun w6=> some (.inl (w6.1,w6.2.1,w6.2.2.1,wrap .i64 (w6.2.2.2.1+1),()))) (some (.inr (s.1,())))
def b3A(x:(List (List Int))):Option Int:= (a7C x).bind fun y1=> cond (!y1) (some 0) ((a0j c1U (0,x,(x.length:Int),0,())).bind fun w7=> some w7.1)
def b8y:FSem:=⟨[.v (.list false QL)],[.v QI],b3A⟩
def e0l:Hints:=⟨[(122,[.sv 3 QI,.sv 11 (.list false QL),.sv 12 QI,.sv 13 QI],[(.exit 0,[.sv 3 QI])]),(31334,[.sv 3 QI,.sv 5 QL,.sv 6 QI,.sv 11 (.list false QL),.sv 12 QI,.sv 13 QI],[(.exit 2,[.sv 3 QI,.sv 11 (.list false QL),.sv 12 QI,.sv 13 QI])])],[],[(10,[.v,.v,.v,.v,.v,.v,.v,.v,.v,.v,.v,.v,.v,.v,.v,.v,.x,.x])]⟩
def b4T(x:Int):Option Z14:= cond (x==1) (some ([(0,1,(-256),())]:List Z7)) (cond (x==2) (some ([(1,0,(-256),())]:List Z7)) (cond (x==3) (some ([(1,0,(-256),()),(0,1,128,())]:List Z7)) (cond (x==4) (some ([(1,0,(-106),()),(0,1,181,()),(1,0,(-106),())]:List Z7)) (some []))))
def b9L:FSem:=⟨[.v QI],[.o Q8],b4T⟩
def e0m:Hints:=⟨[],[],[]⟩
def c4l(s:((List (List Int))×Z7)):Option (((List (List Int))×Z7) ⊕ (Int×Unit)):= cond (decide (s.2.2.2.1<5)) ((b4T s.2.2.2.1).bind fun y2=> (b0C (s.1,y2)).bind fun y3=> cond (y3.2 != 0) (some (.inl (s.1,s.2.1,s.2.2.1,wrap .i64 (s.2.2.2.1+1),()))) ((b3A y3.1).bind fun y4=> cond (decide (y4<s.2.2.1)) (some (.inl (s.1,s.2.2.2.1,y4,wrap .i64 (s.2.2.2.1+1),()))) (some (.inl (s.1,s.2.1,s.2.2.1,wrap .i64 (s.2.2.2.1+1),()))))) (some (.inr (s.2.1,())))
def c1d(x:(List (List Int))):Option Z14:= (b3A x).bind fun y1=> (a0j c4l (x,0,y1,1,())).bind fun w5=> (b4T w5.1).bind fun y6=> some y6
def c1e:FSem:=⟨[.v (.list false QL)],[.o Q8],c1d⟩
def e0n:Hints:=⟨[(58,[.sv 0 (.list false QL),.sv 3 QI,.sv 4 QI,.sv 5 QI],[(.exit 0,[.sv 3 QI])])],[],[]⟩
def c4m(s:(Int×Int×Int×Z14×Z81)):Option ((Int×Int×Int×Z14×Z81) ⊕ (Int×Z81)):= cond (decide (s.2.2.1<s.2.1)) (cond ((decide (0≤s.2.2.1))&&(decide (s.2.2.1<(s.2.2.2.2.1.length:Int)))) (cond (lim ((a02 s.2.2.2.1)+1)) (some (.inl (s.1,s.2.1,wrap .i64 (s.2.2.1+1),a04 s.2.2.2.1 ([(wrap .i64 (((a03 s.2.2.2.2.1 (a01 s.2.2.1) (0,0,0,())).1)+s.1),wrap .i64 ((((a03 s.2.2.2.2.1 (a01 s.2.2.1) (0,0,0,())).2).1)+s.1),(((a03 s.2.2.2.2.1 (a01 s.2.2.1) (0,0,0,())).2).2).1,())]:List Z7),s.2.2.2.2.1,s.2.2.2.2.2.1,()))) none) none) (some (.inr (s.1,s.2.2.2.1,s.2.2.2.2.2.1,())))
def c4n(s:(Int×Z81)):Option ((Int×Z81) ⊕ (Z14×Unit)):= cond (decide ((wrap .i64 (s.1+1))<(s.2.2.1.2.1.length:Int))) (cond ((decide (0≤(wrap .i64 (s.1+2))))&&(decide ((wrap .i64 (s.1+2))≤(s.2.2.1.2.1.length:Int)))) (cond ((decide (0≤s.1))&&(decide (s.1≤((a01 (wrap .i64 (s.1+2)):Nat):Int)))) ((c1d (a30 (a01 s.1) (a07 (a01 (wrap .i64 (s.1+2))) s.2.2.1.2.1))).bind fun y2=> (a0j c4m (s.1,(y2.length:Int),0,s.2.1,y2,s.2.2.1,())).bind fun w3=> some (.inl (wrap .i64 (w3.1+2),w3.2.1,w3.2.2.1,()))) none) none) (some (.inr (s.2.1,())))
def c1f(x:Z12):Option Z14:= (a7D x).bind fun y1=> cond (!y1) (some []) ((a0j c4n (0,[],x,())).bind fun w4=> some w4.1)
def c1g:FSem:=⟨[.v Q10],[.o Q8],c1f⟩
def H78:Hints:=⟨[(122,[.sv 4 QI,.own 3 3 Q8,.vp 1 Q10],[(.exit 0,[.own 3 3 Q8])]),(7826,[.sv 4 QI,.sv 25 QI,.sv 26 QI,.own 3 3 Q8,.own 24 1024 Q8,.vp 1 Q10],[(.exit 2,[.sv 4 QI,.own 3 3 Q8,.vp 1 Q10])])],[],[]⟩
def c2X(s:(Int×((List (List Int))×(Int×c4e)))):Option ((Int×((List (List Int))×(Int×c4e))) ⊕ (d0r ⊕ (Int×b7L))):= cond (decide (s.2.2.2.1<s.2.2.1)) ((a0o s.2.1 s.2.2.2.1).bind fun x8=> (c2V (x8,s.1)).bind fun y9=> cond (y9.2 != 0) (some (.inr (Sum.inr ((y9.2,(0,0,(0,0,0,()),[],[],()),()))))) (cond (lim ((a02 s.2.2.2.2.2.1.2.2.2.2.1)+1)) (some (.inl (s.1,s.2.1,s.2.2.1,wrap .i64 (s.2.2.2.1+1),s.2.2.2.2.1,(s.2.2.2.2.2.1.1,s.2.2.2.2.2.1.2.1,s.2.2.2.2.2.1.2.2.1,s.2.2.2.2.2.1.2.2.2.1,a04 s.2.2.2.2.2.1.2.2.2.2.1 ([y9.1]:List Z93),s.2.2.2.2.2.1.2.2.2.2.2),()))) none)) (some (.inr (Sum.inl (s.2.2.2.2.1,s.2.2.2.2.2.1,()))))
def b9M(x:(Z12×Z7×Int×Int)):Option (a5W×Int):= (show Option (Int×Int×Bool×a5W×Z12×Z7×Unit)from(a7D x.1).bind fun y1=> cond (!y1) (some (x.2.2.1,x.2.2.2,true,(0,0,(0,0,0,()),[],[],()),x.1,x.2.1,())) ((a7e x.2.1).bind fun y2=> cond (!y2) (some (x.2.2.1,x.2.2.2,true,(0,0,(0,0,0,()),[],[],()),x.1,x.2.1,())) (cond (x.1.1 != x.2.1.2.2.1) (some (x.2.2.1,x.2.2.2,true,(0,0,(0,0,0,()),[],[],()),x.1,x.2.1,())) (cond ((x.1.2.1.length:Int) != x.2.1.2.1) (some (x.2.2.1,x.2.2.2,true,(0,0,(0,0,0,()),[],[],()),x.1,x.2.1,())) (cond (decide (x.2.2.2<0)) (some (x.2.2.1,x.2.2.2,true,(0,0,(0,0,0,()),[],[],()),x.1,x.2.1,())) (cond (decide (x.2.2.2 > 3)) (some (x.2.2.1,x.2.2.2,true,(0,0,(0,0,0,()),[],[],()),x.1,x.2.1,())) (some (x.2.2.1,x.2.2.2,decide (x.2.2.1<0),(0,0,(0,0,0,()),[],[],()),x.1,x.2.1,())))))))).bind fun z3=> cond z3.2.2.1 (some ((0,0,(0,0,0,()),[],[],()),1)) ((a4C z3.2.2.2.2.1).bind fun y4=> cond (decide (z3.1 > (wrap .i64 (4194304-y4)))) (some ((0,0,(0,0,0,()),[],[],()),4)) ((show Option (Int×a5W×a5W×Z28)from cond (decide (z3.2.1 > 0)) ((c1f z3.2.2.2.2.1).bind fun y5=> some (z3.2.1,z3.2.2.2.1,(z3.1,y4,z3.2.2.2.2.2.1,y5,[],()),z3.2.2.2.2.1,())) (some (z3.2.1,z3.2.2.2.1,(z3.1,y4,z3.2.2.2.2.2.1,[],[],()),z3.2.2.2.2.1,()))).bind fun z6=> (b0C (z6.2.2.2.1.2.1,z6.2.2.1.2.2.2.1)).bind fun y7=> cond (y7.2 != 0) (some ((0,0,(0,0,0,()),[],[],()),y7.2)) ((a0j c2X (z6.1,y7.1,(y7.1.length:Int),0,z6.2.1,z6.2.2.1,())).bind fun w10=> match w10 with |.inl a11=>some (a11.2.1,0) |.inr b12=>some (b12.2.1,b12.1))))
def b9N:FSem:=⟨[.v Q10,.v Q8,.v QI,.v QI],[.v Q49,.v QI],b9M⟩
def H30:Hints:=⟨[(2042,[.sv 3 QI,.sv 81 (.list false QL),.sv 82 QI,.sv 83 QI,.box 8 Q49,.box 10 Q48,.ptr 8 8 [],.ptr 10 10 []],[(.exit 0,[.box 8 Q49,.box 10 Q48,.ptr 8 8 [],.ptr 10 10 []]),(.ret,[.sv 9 QI,.box 8 Q49,.ptr 8 8 []])])],[(6,[(.normal,[.sv 2 QI,.sv 3 QI,.sv 51 .bool,.box 8 Q49,.vp 4 Q10,.vp 5 Q8,.ptr 8 8 []])]),(31,[(.normal,[.sv 3 QI,.box 8 Q49,.box 10 Q48,.vp 4 Q10,.ptr 8 8 [],.ptr 10 10 []])])],[(3,[.v,.v,.v,.v,.v,.q,.x])]⟩
def c2Y(s:Z6):Option (Z6 ⊕ (Unit ⊕ (Int×Unit))):= cond (decide (s.2.1<(s.1.length:Int))) (cond ((decide (0≤s.2.1))&&(decide (s.2.1≤(s.1.length:Int)))) ((a4Z (a30 (a01 s.2.1) (a07 (a02 s.1) s.1))).bind fun y1=> cond (y1.2.2==0) (some (.inr (Sum.inr ((s.2.1,()))))) (some (.inl (s.1,wrap .i64 (s.2.1+1),())))) none) (some (.inr (Sum.inl ())))
end Go.Ab
namespace Go.Ab
open IntKind(wrap)
open Go.Proofs
set_option maxRecDepth 100000
set_option linter.unusedVariables false
def b9O(x:((List Int)×Int)):Option Int:= (a0j c2Y (x.1,a2K x.2 0,())).bind fun w2=> match w2 with |.inl a3=>some (-1) |.inr b4=>some b4.1
def b9P:FSem:=⟨[.v (.list false (.int .u8)),.v QI],[.v QI],b9O⟩
def H43:Hints:=⟨[(26,[.sv 0 (.list false (.int .u8)),.sv 5 QI],[(.exit 0,[]),(.ret,[.sv 4 QI])])],[],[]⟩
def b6p(x:Unit):Option Bool:= (b9M ((8,([[3,3],[3,3]]:List (List Int)),()),(8000,2,8,()),5,0)).bind fun y1=> (a7G y1.1).bind fun y2=> (a4Z y2.1).bind fun y3=> (a5s y3.1).bind fun y4=> (a8v y2.1).bind fun y5=> cond (y1.2==0) (cond (y2.2==0) (cond (y3.2.2==0) (cond (y4.2==0) (cond (y5.2.2.2==0) (cond (y3.2.1==(y2.1.length:Int)) ((a5L (y1.1,y3.1)).bind fun y6=> cond y6 ((a5F ((8,([[3,3],[3,3]]:List (List Int)),()),y4.1)).bind fun y7=> cond y7 (cond (eqT Q8 y5.1 ((8000: Int),(2: Int),(8: Int),())) (cond (y5.2.1==5) (cond (y5.2.2.1==2) (cond (lim (2+(a02 y2.1))) ((b9O (a04 [1,245] y2.1,0)).bind fun y8=> cond (y8==2) (cond (decide ((y2.1.length:Int) > 2)) ((a0o y2.1 0).bind fun x9=> cond (x9==245) ((a0o y2.1 1).bind fun x10=> some (x10==75)) (some false)) (some false)) (some false)) none) (some false)) (some false)) (some false)) (some false)) (some false)) (some false)) (some false)) (some false)) (some false)) (some false)) (some false)
def c1h:FSem:=⟨[],[.v .bool],b6p⟩
def H15:Hints:=⟨[],[],[]⟩
def a7q(s:Z56):Option (Z56 ⊕ Z0):= cond (decide (s.2.1<(s.2.2.1.2.1.length:Int))) ((a0o s.2.2.1.2.1 s.2.1).bind fun x1=> cond (decide ((x1.length:Int) > s.1)) (some (.inr (Sum.inr ((false,()))))) (some (.inl (s.1,wrap .i64 (s.2.1+1),s.2.2.1,())))) (some (.inr (Sum.inl ())))
def b3U(x:(Z12×Int)):Option Bool:= cond (decide ((x.1.2.1.length:Int) > 12)) (some false) ((a0j a7q (x.2,0,x.1,())).bind fun w2=> match w2 with |.inl a3=>some true |.inr b4=>some b4.1)
def c2Z:FSem:=⟨[.v Q10,.v QI],[.v .bool],b3U⟩
def H29:Hints:=⟨[(58,[.sv 1 QI,.sv 5 QI,.vp 2 Q10],[(.exit 0,[]),(.ret,[.sv 4 .bool])])],[],[]⟩
def a6x(s:Z13):Option (Z13 ⊕ Z0):= cond (decide (s.2.1<(s.1.length:Int))) ((a0o s.1 s.2.1).bind fun x2=> (a0o s.1 0).bind fun x3=> cond ((x2.length:Int) != (x3.length:Int)) (some (.inr (Sum.inr ((false,()))))) (some (.inl (s.1,wrap .i64 (s.2.1+1),())))) (some (.inr (Sum.inl ())))
def b2K(x:(List (List Int))):Option Bool:= (show Option ((List (List Int))×(Bool×Unit))from cond (decide ((x.length:Int)<1)) (some (x,true,())) (some (x,decide ((x.length:Int) > 8),()))).bind fun z1=> cond z1.2.1 (some false) ((a0j a6x (z1.1,0,())).bind fun w4=> match w4 with |.inl a5=>some true |.inr b6=>some b6.1)
def c1i:FSem:=⟨[.v (.list false QL)],[.v .bool],b2K⟩
def H84:Hints:=⟨[(58,[.sv 0 (.list false QL),.sv 3 QI],[(.exit 0,[]),(.ret,[.sv 2 .bool])])],[(6,[(.normal,[.sv 0 (.list false QL),.sv 11 .bool])])],[(6,[.v,.v,.v,.v,.v,.v,.v,.v,.v,.x])]⟩
def c1V(x:Int):Option Int:= (show Option (Int×Bool×Unit)from cond (decide (x<1)) (some (x,true,())) (some (x,decide (x > 31),()))).bind fun z1=> cond z1.2.1 (some 0) (cond (decide ((wrap .u64 (wrap .i64 (z1.1-1)))<0)) none (some (a0y .i64 (-1) (wrap .u64 (wrap .i64 (z1.1-1))))))
def c7k:FSem:=⟨[.v QI],[.v QI],c1V⟩
def e0o:Hints:=⟨[],[(6,[(.normal,[.sv 0 QI,.sv 8 .bool])])],[]⟩
def b9Q(x:Int):Option Int:= (show Option (Int×Bool×Unit)from cond (decide (x<1)) (some (x,true,())) (some (x,decide (x > 31),()))).bind fun z1=> cond z1.2.1 (some 0) (cond (decide ((wrap .u64 (wrap .i64 (z1.1-1)))<0)) none (some (wrap .i64 ((a0y .i64 1 (wrap .u64 (wrap .i64 (z1.1-1))))-1))))
def c5k:FSem:=⟨[.v QI],[.v QI],b9Q⟩
def e0p:Hints:=⟨[],[(6,[(.normal,[.sv 0 QI,.sv 8 .bool])])],[]⟩
def b3h(x:(Int×Int)):Option Bool:= cond (decide (x.2≥1)) (cond (decide (x.2≤31)) ((c1V x.2).bind fun y1=> cond (decide (x.1≥y1)) ((b9Q x.2).bind fun y2=> some (decide (x.1≤y2))) (some false)) (some false)) (some false)
def c5l:FSem:=⟨[.v QI,.v QI],[.v .bool],b3h⟩
def H85:Hints:=⟨[],[],[]⟩
def a3w(s:Z56):Option (Z56 ⊕ (Z46 ⊕ (Bool×Unit))):= (a0o s.2.2.1.2.1 s.1).bind fun x5=> cond (decide (s.2.1<(x5.length:Int))) ((a0o s.2.2.1.2.1 s.1).bind fun x6=> (a0o x6 s.2.1).bind fun x7=> (b3h (x7,s.2.2.1.1)).bind fun y8=> cond (!y8) (some (.inr (Sum.inr ((false,()))))) (some (.inl (s.1,wrap .i64 (s.2.1+1),s.2.2.1,())))) (some (.inr (Sum.inl (s.1,s.2.2.1,()))))
def a4r(s:Z46):Option (Z46 ⊕ Z0):= cond (decide (s.1<(s.2.1.2.1.length:Int))) ((a0j a3w (s.1,0,s.2.1,())).bind fun w9=> match w9 with |.inl a10=>some (.inl (wrap .i64 (a10.1+1),a10.2.1,())) |.inr b11=>some (.inr (Sum.inr ((b11.1,()))))) (some (.inr (Sum.inl ())))
def a9h(x:Z12):Option Bool:= (show Option Z48 from cond (decide (x.1<4)) (some (true,x,())) (cond (decide (x.1 > 24)) (some (true,x,())) ((b2K x.2.1).bind fun y1=> cond (!y1) (some (true,x,())) ((a0o x.2.1 0).bind fun x2=> cond (decide ((x2.length:Int)<1)) (some (true,x,())) ((a0o x.2.1 0).bind fun x3=> some (decide ((x3.length:Int) > 4096),x,())))))).bind fun z4=> cond z4.1 (some false) ((a0j a4r (0,z4.2.1,())).bind fun w12=> match w12 with |.inl a13=>some true |.inr b14=>some b14.1)
def b6X:FSem:=⟨[.v Q10],[.v .bool],a9h⟩
def H32:Hints:=⟨[(58,[.sv 3 QI,.vp 1 Q10],[(.exit 0,[]),(.ret,[.sv 2 .bool])]),(3730,[.sv 3 QI,.sv 4 QI,.vp 1 Q10],[(.exit 2,[.sv 3 QI,.vp 1 Q10]),(.ret,[.sv 2 .bool])])],[(6,[(.normal,[.sv 34 .bool,.vp 1 Q10])])],[(9,[.v,.v,.v,.v,.v,.v,.v,.v,.v,.v,.x,.x])]⟩
def a5Y(x:Z95):Option Bool:= cond (decide ((x.1.2.2.2.2.2.1.length:Int)≤40)) (cond (decide ((x.1.2.2.2.2.2.2.2.1.length:Int)≤6)) (cond (decide ((x.1.2.2.2.2.2.2.2.2.1.length:Int)≤x.2)) (cond (decide ((x.1.2.2.2.2.2.2.2.2.2.2.1.length:Int)≤x.2)) (some (decide ((x.1.2.2.2.2.2.2.2.2.2.1.2.1.length:Int)≤300))) (some false)) (some false)) (some false)) (some false)
def c1j:FSem:=⟨[.v Q31,.v QI],[.v .bool],a5Y⟩
def H33:Hints:=⟨[],[],[]⟩
def a2D(s:(Z94×((List (List Int))×c4e))):Option ((Z94×((List (List Int))×c4e)) ⊕ (d0r ⊕ (Bool×b7L))):= cond (decide (s.2.2.1<(s.2.1.length:Int))) ((a0o s.1 s.2.2.1).bind fun x4=> (a0o s.2.1 s.2.2.1).bind fun x5=> (a0o s.1 s.2.2.1).bind fun x6=> (b1s (x4.1,x5,x6)).bind fun y7=> cond (y7.2 != 0) (some (.inr (Sum.inr ((false,(0,0,(0,0,0,()),[],[],()),()))))) (cond (lim ((a02 s.2.2.2.2.1.2.2.2.2.1)+1)) (some (.inl (s.1,s.2.1,wrap .i64 (s.2.2.1+1),s.2.2.2.1,(s.2.2.2.2.1.1,s.2.2.2.2.1.2.1,s.2.2.2.2.1.2.2.1,s.2.2.2.2.1.2.2.2.1,a04 s.2.2.2.2.1.2.2.2.2.1 ([y7.1]:List Z93),s.2.2.2.2.1.2.2.2.2.2),()))) none)) (some (.inr (Sum.inl (s.2.2.2.1,s.2.2.2.2.1,()))))
def a9i(x:(Z12×Z7×Z14×Z94)):Option (a5W×Bool):= (b0C (x.1.2.1,x.2.2.1)).bind fun y1=> (show Option (Z14×(Z94×((List (List Int))×(Bool×a5W×Z12×Z7×Unit))))from cond (y1.2 != 0) (some (x.2.2.1,x.2.2.2,y1.1,true,(0,0,(0,0,0,()),[],[],()),x.1,x.2.1,())) (some (x.2.2.1,x.2.2.2,y1.1,decide ((x.2.2.2.length:Int)<(y1.1.length:Int)),(0,0,(0,0,0,()),[],[],()),x.1,x.2.1,()))).bind fun z2=> cond z2.2.2.2.1 (some ((0,0,(0,0,0,()),[],[],()),false)) ((a4C z2.2.2.2.2.2.1).bind fun y3=> (a0j a2D (z2.2.1,z2.2.2.1,0,z2.2.2.2.2.1,(0,y3,z2.2.2.2.2.2.2.1,z2.1,[],()),())).bind fun w8=> match w8 with |.inl a9=>some (a9.2.1,true) |.inr b10=>some (b10.2.1,b10.1))
def b6Y:FSem:=⟨[.v Q10,.v Q8,.v (.list false Q8),.v (.list false Q31)],[.v Q49,.v .bool],a9i⟩
def H34:Hints:=⟨[(250,[.sv 3 (.list false Q31),.sv 10 (.list false QL),.sv 13 QI,.box 8 Q49,.box 12 Q48,.ptr 8 8 [],.ptr 12 12 []],[(.exit 0,[.box 8 Q49,.box 12 Q48,.ptr 8 8 [],.ptr 12 12 []]),(.ret,[.sv 9 .bool,.box 8 Q49,.ptr 8 8 []])])],[(14,[(.normal,[.sv 2 (.list false Q8),.sv 3 (.list false Q31),.sv 10 (.list false QL),.sv 31 .bool,.box 8 Q49,.vp 4 Q10,.vp 5 Q8,.ptr 8 8 []])])],[(4,[.v,.v,.v,.v,.v,.q,.x]),(8,[.v,.v,.v,.v,.v,.v,.v,.v,.v,.v,.v,.v,.v,.v,.v,.v,.v,.q,.w [0,14],.x])]⟩
def a4s(s:(Int×Z14×Z94×Z46)):Option ((Int×Z14×Z94×Z46) ⊕ ((Int×Z14×Z94×Z28) ⊕ (Bool×Unit))):= cond (decide (s.2.2.2.1<(s.2.2.1.length:Int))) ((a0o s.2.2.1 s.2.2.2.1).bind fun x5=> (a5Y (x5,100)).bind fun y6=> cond (!y6) (some (.inr (Sum.inr ((true,()))))) (some (.inl (s.1,s.2.1,s.2.2.1,wrap .i64 (s.2.2.2.1+1),s.2.2.2.2.1,())))) (some (.inr (Sum.inl (s.1,s.2.1,s.2.2.1,s.2.2.2.2.1,()))))
def b1X(x:(Z12×Int×Z14×Z94)):Option Bool:= (b6p ()).bind fun y1=> cond (!y1) (some false) ((show Option (Int×Z14×Z94×Z48)from(b3U (x.1,80)).bind fun y2=> cond (!y2) (some (x.2.1,x.2.2.1,x.2.2.2,true,x.1,())) ((a9h x.1).bind fun y3=> cond (!y3) (some (x.2.1,x.2.2.1,x.2.2.2,true,x.1,())) (cond (decide ((x.2.2.1.length:Int) > 16)) (some (x.2.1,x.2.2.1,x.2.2.2,true,x.1,())) (some (x.2.1,x.2.2.1,x.2.2.2,decide ((x.2.2.2.length:Int) > 10),x.1,()))))).bind fun z4=> cond z4.2.2.2.1 (some true) ((a0j a4s (z4.1,z4.2.1,z4.2.2.1,0,z4.2.2.2.2.1,())).bind fun w7=> match w7 with |.inl a8=>((a9i (a8.2.2.2.1,(wrap .i64 ((bits .i64 .and a8.1 65535)+1),(a8.2.2.2.1.2.1.length:Int),a8.2.2.2.1.1,()),a8.2.1,a8.2.2.1)).bind fun y10=> cond (!y10.2) (some true) ((a7G y10.1).bind fun y11=> (a4Z y11.1).bind fun y12=> (a5s y12.1).bind fun y13=> (a3Q y10.1).bind fun y14=> cond y14 (cond (y11.2==0) (cond (y12.2.2==0) (cond (y13.2==0) (cond (y12.2.1==(y11.1.length:Int)) ((a5L (y10.1,y12.1)).bind fun y15=> cond y15 ((a5F (a8.2.2.2.1,y13.1)).bind fun y16=> some y16) (some false)) (some false)) (some false)) (some false)) (some false)) (some false))) |.inr b9=>some b9.1))
def b6Z:FSem:=⟨[.v Q10,.v QI,.v (.list false Q8),.v (.list false Q31)],[.v .bool],b1X⟩
def H6:Hints:=⟨[(122,[.sv 1 QI,.sv 2 (.list false Q8),.sv 3 (.list false Q31),.sv 9 QI,.vp 4 Q10],[(.exit 0,[.sv 1 QI,.sv 2 (.list false Q8),.sv 3 (.list false Q31),.vp 4 Q10]),(.ret,[.sv 8 .bool])])],[(14,[(.normal,[.sv 1 QI,.sv 2 (.list false Q8),.sv 3 (.list false Q31),.sv 38 .bool,.vp 4 Q10])])],[]⟩
end Go.Ab
namespace Go.Ab
open Go.Proofs
set_option maxRecDepth 100000
theorem b5y:Tryz.prog.follows .mixedOrders=true:=by kernel_rfl
theorem e0q:d4i Tryz.prog c6r=true:=by kernel_rfl
theorem e0r:d4j Tryz.prog c7h=true:=by kernel_rfl
theorem e0s:d4k Tryz.prog c6r d0s=true:=by kernel_rfl
theorem laidOut:laidOutB Tryz.prog=true:=by kernel_rfl
@[reducible] def Ok0(n:Nat)(s:FSem):Prop:=a3i Tryz.prog G0 n s∧b0O Tryz.prog n
theorem cxo{a:List (Nat×FSem)}{b:List (Nat×Ty)}{c d:List Nat}(h:∀p∈a,Ok0 p.1 p.2):CxOk Tryz.prog (b9r a b c d):=
 CxOk.of (CxTy.of (tab:=c6r) (l:=d0s) (q:=c7h) (fun _=>rfl) (fun _=>rfl) (fun _=>rfl) e0q e0r e0s) (fun _=>rfl) h
theorem fo (a : List (Nat × FSem)) (b : List (Nat × Ty)) (c d : List Nat) (H : Hints) {n : Nat} {fn : Func} {e : Code} {s : FSem} (h : ∀ p ∈ a, Ok0 p.1 p.2) (hf : Tryz.prog.funcs[n]? = some fn) (hb : fn.body = some e := by rfl) (hk : d3i fn e H s = true := by kernel_rfl) (hn : (fn.name == "runtime.NumGoroutine") = false := by kernel_rfl) (hq : ∀ x, b8Q (b9r a b c d) H fn s.ps s.rs x = s.F x := by intro x; kernel_rfl) : Ok0 n s :=
 ⟨a3i.of (cxo h) b5y hf hb hk hq,⟨_,_,hf,hb,hn⟩⟩
theorem d4o:Ok0 109 b3o:=
 fo [] [] [0,2] [] d8d a0 Tryz.func109
theorem d5W:Ok0 77 b3p:=
 fo [(109,b3o)] [] [0,2] [1] H77 (a1 d4o a0) Tryz.func77
theorem d0u:Ok0 102 b3M:=
 fo [] [] [0,1,4] [] d8e a0 Tryz.func102
theorem d5X:Ok0 44 b3q:=
 fo [(77,b3p),(102,b3M)] [] [0,2] [1] H44 (a1 d5W (a1 d0u a0)) Tryz.func44
theorem d3r:Ok0 90 a9Q:=
 fo [] [] [0,2,4] [] H90 a0 Tryz.func90
theorem d0v:Ok0 126 b0V:=
 fo [] [] [0,2] [] d8f a0 Tryz.func126
theorem d0w:Ok0 217 b0W:=
 fo [] [] [0,1,4,6] [] d8g a0 Tryz.func217
theorem d0x:Ok0 218 b3N:=
 fo [] [] [0,1,4,6] [3] d8h a0 Tryz.func218
theorem d4p:Ok0 281 b3r:=
 fo [] [] [0,2] [1] d8i a0 Tryz.func281
theorem d0y:Ok0 219 b2n:=
 fo [(281,b3r)] [] [0,2] [] d8j (a1 d4p a0) Tryz.func219
theorem d0z:Ok0 149 b5q:=
 fo [(217,b0W),(218,b3N),(219,b2n)] [] [0,1,2,6,8,11,27,41,62] [4] d8k (a1 d0w (a1 d0x (a1 d0y a0))) Tryz.func149
theorem d0A:Ok0 150 b0X:=
 fo [] [] [0,1,4,7,9,12,16] [2] d8l a0 Tryz.func150
theorem c7l:Ok0 87 a0X:=
 ⟨a3i.of (cx:=d5R) (cxo a0) b5y Tryz.func87 rfl (by kernel_rfl) d8m,⟨_,_,Tryz.func87,rfl,by kernel_rfl⟩⟩
theorem d6D:Ok0 87 a2a:=
 ⟨a3i.of (cx:=d4m) (cxo a0) b5y Tryz.func87 rfl (by kernel_rfl) d6z,⟨_,_,Tryz.func87,rfl,by kernel_rfl⟩⟩
theorem d5Y:Ok0 229 a1d:=
 ⟨a3i.of (cx:=d1Z) (cxo a0) b5y Tryz.func229 rfl (by kernel_rfl) d5S,⟨_,_,Tryz.func229,rfl,by kernel_rfl⟩⟩
theorem d4q:Ok0 169 b4F:=
 fo [(87,a2a),(229,a1d)] [] [0,1,9,11,13,15] [3] d8o (a1 d6D (a1 d5Y a0)) Tryz.func169
theorem d6E:Ok0 188 c0K:=
 fo [(169,b4F)] [] [0,2] [1] d8p (a1 d4q a0) Tryz.func188
theorem d0B:Ok0 220 b2p:=
 fo [] [] [0,1,4] [] d8q a0 Tryz.func220
theorem c3a:Ok0 209 a5p:=
 fo [(220,b2p)] [] [0,1,2,6,7,8] [] d8r (a1 d0B a0) Tryz.func209
theorem d4r:Ok0 189 b6h:=
 fo [(209,a5p)] [] [0,1,2,6,7,9] [3] d8s (a1 c3a a0) Tryz.func189
theorem d6F:Ok0 103 b9s:=
 fo [(90,a9Q),(126,b0V),(149,b5q),(150,b0X),(188,c0K),(189,b6h)] [] [0,1,4,5] [2] d8t (a1 d3r (a1 d0v (a1 d0z (a1 d0A (a1 d6E (a1 d4r a0)))))) Tryz.func103
theorem d4s:Ok0 251 b4G:=
 fo [] [] [0,2,4] [] d8u a0 Tryz.func251
theorem d6G:Ok0 294 b5s:=
 fo [] [] [0,1,3] [] d8v a0 Tryz.func294
theorem d6H:Ok0 252 b8n:=
 fo [(294,b5s)] [] [0,1,4,5,8,12,20,32] [] d8w (a1 d6G a0) Tryz.func252
theorem d6I:Ok0 190 b9t:=
 fo [(251,b4G),(252,b8n)] [] [0,1,2,6,7,8,10,11] [] d8x (a1 d4s (a1 d6H a0)) Tryz.func190
theorem d0C:Ok0 255 a9S:=
 fo [] [] [0,2] [] d8y a0 Tryz.func255
theorem d0D:Ok0 253 a6N:=
 fo [(255,a9S)] [] [0,2,4] [] d8z (a1 d0C a0) Tryz.func253
theorem d4t:Ok0 254 b0o:=
 fo [] [] [0,1,2,6,7,8,9,10] [] d8A a0 Tryz.func254
theorem d6J:Ok0 191 b8o:=
 fo [(217,b0W),(253,a6N),(254,b0o),(255,a9S)] [] [0,1,2,3,8,9,10,12,13] [] d8B (a1 d0w (a1 d0D (a1 d4t (a1 d0C a0)))) Tryz.func191
theorem d0E:Ok0 258 b2q:=
 fo [] [] [0,2] [] d8C a0 Tryz.func258
theorem d0F:Ok0 256 a8S:=
 fo [(258,b2q)] [] [0,2,4] [] d8D (a1 d0E a0) Tryz.func256
theorem d4u:Ok0 257 b1T:=
 fo [] [] [0,1,2,3,8,9,10,11,12] [7] d8E a0 Tryz.func257
theorem d6K:Ok0 192 c0L:=
 fo [(218,b3N),(256,a8S),(257,b1T),(258,b2q)] [] [0,1,2,6,7,8,9,10,11] [5] d8F (a1 d0x (a1 d0F (a1 d4u (a1 d0E a0)))) Tryz.func192
theorem d0G:Ok0 263 b1a:=
 fo [] [] [0,2] [] d8G a0 Tryz.func263
theorem d4v:Ok0 259 b1b:=
 fo [(263,b1a)] [] [0,2,4] [] d8H (a1 d0G a0) Tryz.func259
theorem d4w:Ok0 261 b6i:=
 fo [(281,b3r)] [(15,.pair QI Q9),(16,.pair QI Q9)] [0,2,3] [1] d8I (a1 d4p a0) Tryz.func261
theorem d4x:Ok0 296 b1c:=
 fo [] [] [0,2] [] d8J a0 Tryz.func296
theorem d0H:Ok0 262 a4v:=
 fo [(296,b1c)] [] [0,2,3,4,5] [] d8K (a1 d4x a0) Tryz.func262
theorem d4y:Ok0 264 a7N:=
 fo [(262,a4v),(296,b1c)] [] [0,1,4,5,6,7,8,13,22] [] d8L (a1 d0H (a1 d4x a0)) Tryz.func264
theorem d6L:Ok0 193 a8q:=
 ⟨a3i.ofR (cx:=d4n) (cxo (a1 c7l (a1 d0y (a1 d4v (a1 d4w (a1 d0H (a1 d0G (a1 d4y a0)))))))) b5y (r:=d5T) ⟨d5e,d5f⟩ Tryz.func193 rfl (by kernel_rfl) d6B,⟨_,_,Tryz.func193,rfl,by kernel_rfl⟩⟩
theorem d4z:Ok0 173 b3s:=
 fo [] [] [0,2] [] d8N a0 Tryz.func173
theorem d6M:Ok0 194 c0M:=
 fo [(173,b3s)] [] [0,1,4,5,6,8] [] d8O (a1 d4z a0) Tryz.func194
theorem d6N:Ok0 104 c2O:=
 fo [(190,b9t),(191,b8o),(192,c0L),(193,a8q),(194,c0M)] [] [0,1,4,5,6,7,10,24,28,40,54,79] [2] d8P (a1 d6I (a1 d6J (a1 d6K (a1 d6L (a1 d6M a0))))) Tryz.func104
theorem d5Z:Ok0 45 b9u:=
 fo [(103,b9s),(104,c2O)] [] [0,1,4,5,6,7] [2] H45 (a1 d6F (a1 d6N a0)) Tryz.func45
theorem d4A:Ok0 195 b6j:=
 fo [] [] [0,2] [] d8Q a0 Tryz.func195
theorem d0I:Ok0 105 b2t:=
 fo [(195,b6j)] [] [0,2,4,6] [] d8R (a1 d4A a0) Tryz.func105
theorem d4B:Ok0 106 b3t:=
 fo [(87,a0X)] [(15,.list true (.list true QI))] [0,2,3,5] [] d8S (a1 c7l a0) Tryz.func106
theorem d4C:Ok0 108 b4H:=
 fo [(195,b6j)] [] [0,1,2,6,7,8,9] [4] d8T (a1 d4A a0) Tryz.func108
theorem e0t:Ok0 46 a9B:=
 ⟨a3i.ofR (cx:=d5U) (cxo (a1 d0u (a1 d0I (a1 d4B (a1 d4C a0))))) b5y (r:=R46) ⟨d5g,d5h⟩ Tryz.func46 rfl (by kernel_rfl) d8U,⟨_,_,Tryz.func46,rfl,by kernel_rfl⟩⟩
theorem d3s:Ok0 35 b2v:=
 fo [] [] [0,2] [1] H35 a0 Tryz.func35
theorem d6O:Ok0 197 b9v:=
 fo [] [] [0,2] [] d8V a0 Tryz.func197
theorem d6P:Ok0 198 b8p:=
 fo [] [] [0,2] [] d8W a0 Tryz.func198
theorem d0J:Ok0 110 a9T:=
 fo [(197,b9v),(198,b8p)] [] [0,1,4] [] d8X (a1 d6O (a1 d6P a0)) Tryz.func110
theorem d3t:Ok0 47 b2w:=
 fo [(35,b2v),(109,b3o),(110,a9T)] [] [0,2,4,6] [1] H47 (a1 d3s (a1 d4o (a1 d0J a0))) Tryz.func47
theorem d3u:Ok0 17 a9U:=
 fo [(44,b3q),(45,b9u),(46,a9B),(47,b2w)] [] [0,3,4,7,8,9,10] [1] H17 (a1 d5X (a1 d5Z (a1 e0t (a1 d3t a0)))) Tryz.func17
theorem d3v:Ok0 21 b2x:=
 fo [(17,a9U)] [] [0,2,4] [1] H21 (a1 d3u a0) Tryz.func21
theorem d4D:Ok0 121 b9w:=
 fo [(45,b9u)] [] [0,1,4,5,6] [2] d8Y (a1 d5Z a0) Tryz.func121
theorem b7N:Ok0 122 a3a:=
 fo [(110,a9T)] [] [0,2,3,5] [] d8Z (a1 d0J a0) Tryz.func122
theorem d0K:Ok0 128 a6e:=
 fo [] [] [0,1] [] d9a a0 Tryz.func128
theorem c3b:Ok0 123 a3v:=
 fo [(128,a6e)] [] [0,1,2,6,7] [] d9b (a1 d0K a0) Tryz.func123
theorem d4E:Ok0 124 b1e:=
 fo [(123,a3v)] [] [0,1,2] [] d9c (a1 c3b a0) Tryz.func124
theorem d6Q:Ok0 125 b6N:=
 fo [(122,a3a),(123,a3v),(124,b1e)] [] [0,1,4,6] [3] d9d (a1 b7N (a1 c3b (a1 d4E a0))) Tryz.func125
theorem d4F:Ok0 234 b3v:=
 fo [(220,b2p)] [] [0,1,2,6,8] [] d9e (a1 d0B a0) Tryz.func234
theorem d4G:Ok0 272 b6k:=
 fo [(122,a3a)] [] [0,2] [] d9f (a1 b7N a0) Tryz.func272
theorem d0L:Ok0 274 a6Q:=
 fo [] [] [0,2] [] d9g a0 Tryz.func274
theorem d0M:Ok0 275 b2y:=
 fo [] [] [0,2] [] d9h a0 Tryz.func275
theorem d4H:Ok0 276 b6l:=
 fo [(275,b2y)] [] [0,2,3,7] [] d9i (a1 d0M a0) Tryz.func276
theorem d6R:Ok0 299 c0N:=
 fo [(274,a6Q),(275,b2y),(276,b6l)] [] [0,1,4,5] [] d9j (a1 d0L (a1 d0M (a1 d4H a0))) Tryz.func299
theorem d0N:Ok0 273 b3P:=
 fo [(299,c0N)] [] [0,1,4,5,7] [] d9k (a1 d6R a0) Tryz.func273
theorem d4I:Ok0 208 b4K:=
 fo [(189,b6h),(209,a5p),(234,b3v),(272,b6k),(273,b3P)] [] [0,1,2,3,8,9,10,11,12] [4] d9l (a1 d4r (a1 c3a (a1 d4F (a1 d4G (a1 d0N a0))))) Tryz.func208
theorem d6S:Ok0 277 b1D:=
 fo [(128,a6e)] [] [0,1,4] [] d9m (a1 d0K a0) Tryz.func277
theorem d6T:Ok0 210 c2P:=
 fo [(123,a3v),(274,a6Q),(275,b2y),(276,b6l),(277,b1D)] [] [0,1,2,6,8,10,11,12] [] d9n (a1 c3b (a1 d0L (a1 d0M (a1 d4H (a1 d6S a0))))) Tryz.func210
theorem d6U:Ok0 127 c0O:=
 fo [(122,a3a),(123,a3v),(208,b4K),(209,a5p),(210,c2P)] [] [0,1,2,3,4,10,11,12,13,14,16] [6] d9o (a1 b7N (a1 c3b (a1 d4I (a1 c3a (a1 d6T a0))))) Tryz.func127
theorem d6a:Ok0 51 b9x:=
 fo [(121,b9w),(122,a3a),(123,a3v),(124,b1e),(125,b6N),(126,b0V),(127,c0O)] [] [0,1,2,6,7,9,13,37,39,41,43] [4] H51 (a1 d4D (a1 b7N (a1 c3b (a1 d4E (a1 d6Q (a1 d0v (a1 d6U a0))))))) Tryz.func51
theorem e0u:Ok0 52 b1E:=
 fo [(128,a6e)] [] [0] [] H52 (a1 d0K a0) Tryz.func52
theorem e0v:Ok0 53 b1F:=
 fo [] [] [0,2] [] H53 a0 Tryz.func53
theorem d6V:Ok0 129 c0P:=
 fo [] [] [0,2] [] d9p a0 Tryz.func129
theorem d6W:Ok0 130 c0Q:=
 fo [] [] [0,2,3,5] [] d9q a0 Tryz.func130
theorem d4J:Ok0 131 b4L:=
 fo [] [] [0,2,3,5,6] [] d9r a0 Tryz.func131
theorem e0w:Ok0 54 b5t:=
 fo [(129,c0P),(130,c0Q),(131,b4L)] [] [0,1,4,5,8] [2] H54 (a1 d6V (a1 d6W (a1 d4J a0))) Tryz.func54
theorem d6X:Ok0 211 b8q:=
 fo [] [] [0,2] [] d9s a0 Tryz.func211
theorem d6Y:Ok0 132 b8r:=
 fo [(211,b8q)] [] [0,1,4,5] [] d9t (a1 d6X a0) Tryz.func132
theorem d6Z:Ok0 133 a6c:=⟨d3m _,⟨_,_,Tryz.func133,rfl,by kernel_rfl⟩⟩
theorem e0x:Ok0 55 c0R:=
 fo [(132,b8r),(133,a6c)] [] [0,1,4,5] [] H55 (a1 d6Y (a1 d6Z a0)) Tryz.func55
theorem d6b:Ok0 56 b1U:=
 fo [] [] [0,2,3,5,6] [] H56 a0 Tryz.func56
theorem d6c:Ok0 19 b6m:=
 fo [(21,b2x),(51,b9x),(52,b1E),(53,b1F),(54,b5t),(55,c0R),(56,b1U)] [(4,.pair (.list true (.int .u8)) Q0)] [0,2,3,7,8,9] [1] H19 (a1 d3v (a1 d6a (a1 e0u (a1 e0v (a1 e0w (a1 e0x (a1 d6b a0))))))) Tryz.func19
theorem d3w:Ok0 88 a9X:=
 fo [] [] [0,1,4,5] [] H88 a0 Tryz.func88
theorem e0y:Ok0 64 b6O:=
 fo [(88,a9X)] [] [0,1,4,5] [] H64 (a1 d3w a0) Tryz.func64
theorem d6d:Ok0 23 b1j:=
 fo [(64,b6O)] [] [0,1,4] [2,3] H23 (a1 e0y a0) Tryz.func23
theorem d7a:Ok0 142 c0S:=
 fo [] [] [0,2] [] d9u a0 Tryz.func142
theorem d7b:Ok0 214 b6P:=
 fo [] [] [0,2,3,4,5,6,7] [] d9v a0 Tryz.func214
theorem d7c:Ok0 143 b3d:=
 fo [(214,b6P)] [] [0,1,4,5,6,7] [] d9w (a1 d7b a0) Tryz.func143
theorem d7d:Ok0 144 c0T:=
 fo [] [] [0,2,3] [] d9x a0 Tryz.func144
theorem d7e:Ok0 145 b3e:=
 fo [] [] [0,2] [] d9y a0 Tryz.func145
theorem d7f:Ok0 146 b1G:=
 fo [] [] [0,2] [] d9z a0 Tryz.func146
theorem d7g:Ok0 147 b3C:=
 fo [] [] [0,2] [] d9A a0 Tryz.func147
theorem d6e:Ok0 65 b1k:=
 fo [(44,b3q),(131,b4L),(142,c0S),(143,b3d),(144,c0T),(145,b3e),(146,b1G),(147,b3C)] [(2,.pair QI Q44),(15,.pair QI Q43),(26,.pair QI Q43),(83,.pair QI Q43),(88,.pair QI Q43),(101,.pair QI Q43),(105,.pair QI Q43)] [0,3,4,5,6,7,8,9,10,11] [] H65 (a1 d5X (a1 d4J (a1 d7a (a1 d7c (a1 d7d (a1 d7e (a1 d7f (a1 d7g a0)))))))) Tryz.func65
theorem e0z:Ok0 66 c2Q:=
 fo [] [] [0,2] [] H66 a0 Tryz.func66
theorem c4o:Ok0 70 a2B:=
 fo [] [] [0,2] [] H70 a0 Tryz.func70
theorem d6f:Ok0 68 a8u:=
 fo [] [] [0,2] [] H68 a0 Tryz.func68
theorem d0O:Ok0 153 a5I:=
 fo [] [] [0,1,4] [] d9B a0 Tryz.func153
theorem c0l:Ok0 215 a2C:=
 fo [(68,a8u),(153,a5I)] [] [0,1,4,5] [] d9C (a1 d6f (a1 d0O a0)) Tryz.func215
theorem c6s:Ok0 151 a3n:=
 fo [(215,a2C)] [] [0,1,4,5] [] d9D (a1 c0l a0) Tryz.func151
theorem d7h:Ok0 216 b6Q:=
 fo [(122,a3a),(151,a3n),(215,a2C)] [] [0,1,4,5,6] [] d9E (a1 b7N (a1 c6s (a1 c0l a0))) Tryz.func216
theorem d7i:Ok0 148 b8s:=
 fo [(151,a3n),(215,a2C),(216,b6Q)] [(2,.pair QI Q28)] [0,3,4,5,6,7,21,23,25,27] [] d9F (a1 c6s (a1 c0l (a1 d7h a0))) Tryz.func148
theorem d7j:Ok0 307 b1H:=
 fo [(153,a5I)] [] [0,1,4,5,6] [] d9G (a1 d0O a0) Tryz.func307
theorem d7k:Ok0 308 b8t:=
 fo [] [] [0,2,3,6] [] d9H a0 Tryz.func308
theorem d7l:Ok0 300 c2R:=
 fo [(70,a2B),(215,a2C),(307,b1H),(308,b8t)] [] [0,1,4,5,6,7,8] [] d9I (a1 c4o (a1 c0l (a1 d7j (a1 d7k a0)))) Tryz.func300
theorem d7m:Ok0 282 c2S:=
 fo [(70,a2B),(274,a6Q),(300,c2R)] [] [0,1,2,6,7,8,9,10] [] d9J (a1 c4o (a1 d0L (a1 d7l a0))) Tryz.func282
theorem d7n:Ok0 221 c0U:=
 fo [(70,a2B),(122,a3a),(151,a3n),(215,a2C),(282,c2S)] [] [0,1,4,5,6,7,8,9,10,11] [] d9K (a1 c4o (a1 b7N (a1 c6s (a1 c0l (a1 d7m a0))))) Tryz.func221
theorem d7o:Ok0 152 c0V:=
 fo [(70,a2B),(209,a5p),(215,a2C),(220,b2p),(221,c0U)] [(11,.pair QI Q1),(41,.pair QI Q1)] [0,1,2,7,8,9,10,12,14,15,16,17] [] d9L (a1 c4o (a1 c3a (a1 c0l (a1 d0B (a1 d7n a0))))) Tryz.func152
theorem e0A:Ok0 67 c5j:=
 fo [(70,a2B),(121,b9w),(122,a3a),(126,b0V),(148,b8s),(149,b5q),(150,b0X),(151,a3n),(152,c0V)] [(7,.pair QI (.pair QI (.pair QI (.pair QI (.pair QI (.pair QL (.pair (.arr 3 QI) (.pair (.list false Q3) Q14))))))))] [0,1,5,6,8,9,10,11,12] [] H67 (a1 c4o (a1 d4D (a1 b7N (a1 d0v (a1 d7i (a1 d0z (a1 d0A (a1 c6s (a1 d7o a0))))))))) Tryz.func67
theorem e0B:Ok0 69 b1I:=
 fo [(153,a5I)] [] [0,2,3] [] H69 (a1 d0O a0) Tryz.func69
theorem d3x:Ok0 24 b1m:=
 fo [(21,b2x),(56,b1U),(65,b1k),(66,c2Q),(67,c5j),(68,a8u),(69,b1I),(70,a2B)] [(5,.pair QI Q45)] [0,3,4,6,7,8,9,10,12] [] H24 (a1 d3v (a1 d6b (a1 d6e (a1 e0z (a1 e0A (a1 d6f (a1 e0B (a1 c4o a0)))))))) Tryz.func24
theorem e0C:Ok0 26 b9y:=
 fo [(65,b1k)] [] [0,3,4,5,7,8,9] [] H26 (a1 d6e a0) Tryz.func26
theorem d7p:Ok0 100 b4M:=
 fo [] [] [0,1,4,5] [] d9M a0 Tryz.func100
theorem d7q:Ok0 101 b6R:=
 fo [(88,a9X)] [] [0,1,4] [2,3] d9N (a1 d3w a0) Tryz.func101
theorem e0D:Ok0 42 b8u:=
 fo [(88,a9X),(100,b4M),(101,b6R)] [] [0,1,4] [2,3] H42 (a1 d3w (a1 d7p (a1 d7q a0))) Tryz.func42
theorem e0E:Ok0 76 b5u:=
 fo [] [] [0,1,4,5] [] H76 a0 Tryz.func76
theorem d6g:Ok0 28 b1n:=
 fo [(42,b8u),(76,b5u)] [] [0,1,4,5] [2,3] H28 (a1 e0D (a1 e0E a0)) Tryz.func28
theorem d6h:Ok0 91 b3x:=
 fo [(173,b3s)] [] [0,1,4,5,6,8] [] H91 (a1 d4z a0) Tryz.func91
theorem d7r:Ok0 174 a1g:=
 ⟨a3i.of (cx:=b1o) (cxo a0) b5y Tryz.func174 rfl (by kernel_rfl) d6C,⟨_,_,Tryz.func174,rfl,by kernel_rfl⟩⟩
theorem d6i:Ok0 92 b1p:=
 fo [(174,a1g)] [] [0,2,3,5] [] H92 (a1 d7r a0) Tryz.func92
theorem d4K:Ok0 230 b4O:=
 fo [(251,b4G)] [] [0,1,4,5,6,7] [] d9O (a1 d4s a0) Tryz.func230
theorem d7s:Ok0 231 b8v:=
 fo [(217,b0W),(253,a6N),(254,b0o),(255,a9S)] [] [0,1,2,6,7,8,9,10] [] d9P (a1 d0w (a1 d0D (a1 d4t (a1 d0C a0)))) Tryz.func231
theorem d0P:Ok0 232 b2H:=
 fo [(218,b3N),(256,a8S),(257,b1T),(258,b2q)] [] [0,1,2,6,7,8,9,10,11] [5] d9Q (a1 d0x (a1 d0F (a1 d4u (a1 d0E a0)))) Tryz.func232
theorem d7t:Ok0 233 b9A:=
 fo [(87,a0X),(219,b2n),(259,b1b),(261,b6i),(262,a4v),(263,b1a),(264,a7N)] [] [0,1,4,5,6,9,10,11,12,13] [] d9R (a1 c7l (a1 d0y (a1 d4v (a1 d4w (a1 d0H (a1 d0G (a1 d4y a0))))))) Tryz.func233
theorem d7u:Ok0 170 c0X:=
 fo [(87,a0X),(150,b0X),(230,b4O),(231,b8v),(232,b2H),(233,b9A)] [] [0,1,4,5,6,11,22,37,67] [] d9S (a1 c7l (a1 d0A (a1 d4K (a1 d7s (a1 d0P (a1 d7t a0)))))) Tryz.func170
theorem d7v:Ok0 284 c0Y:=
 fo [(273,b3P)] [] [0,2,3,4,5,6] [] d9T (a1 d0N a0) Tryz.func284
theorem d7w:Ok0 235 b6S:=
 fo [(272,b6k),(273,b3P),(284,c0Y)] [] [0,2,3] [] d9U (a1 d4G (a1 d0N (a1 d7v a0))) Tryz.func235
theorem d7x:Ok0 171 b9B:=
 fo [(208,b4K),(209,a5p),(234,b3v),(235,b6S)] [(14,.pair QI Q1),(40,.pair QI Q1)] [0,1,2,3,9,11,12,13,15,17,18] [] d9V (a1 d4I (a1 c3a (a1 d4F (a1 d7w a0)))) Tryz.func171
theorem d6j:Ok0 86 b7M:=
 fo [(90,a9Q),(91,b3x),(92,b1p),(149,b5q),(169,b4F),(170,c0X),(171,b9B)] [] [0,1,2,7,8,11,12,13] [5] H86 (a1 d3r (a1 d6h (a1 d6i (a1 d0z (a1 d4q (a1 d7u (a1 d7x a0))))))) Tryz.func86
theorem d7y:Ok0 172 b3D:=
 fo [] [] [0,2] [] d9W a0 Tryz.func172
theorem e0F:Ok0 89 c2T:=
 fo [(51,b9x),(172,b3D)] [(5,.pair (.list true (.int .u8)) Q0)] [0,1,4] [2] H89 (a1 d6a (a1 d7y a0)) Tryz.func89
theorem d7z:Ok0 236 b8x:=
 fo [] [] [0,1,4,5,6,7] [] d9X a0 Tryz.func236
theorem d7A:Ok0 175 b9D:=
 fo [(230,b4O),(236,b8x)] [] [0,2,3,4,5,6,7,8] [] d9Y (a1 d4K (a1 d7z a0)) Tryz.func175
theorem d4L:Ok0 287 b1W:=
 fo [] [] [0,2] [] d9Z a0 Tryz.func287
theorem d7B:Ok0 285 b5w:=
 fo [(287,b1W)] [] [0,2,3,5,6,7,8] [] e0a (a1 d4L a0) Tryz.func285
theorem d7C:Ok0 286 b1K:=
 fo [] [] [0,1,2,6,7,8,9,10] [] e0b a0 Tryz.func286
theorem d7D:Ok0 237 b4Q:=
 fo [(87,a0X),(253,a6N),(285,b5w),(286,b1K),(287,b1W)] [] [0,1,4,5,6,7,8,9,10,11,12,13] [] e0c (a1 c7l (a1 d0D (a1 d7B (a1 d7C (a1 d4L a0))))) Tryz.func237
theorem d7E:Ok0 238 b6U:=
 fo [] [] [0,2,3,5,6,7,8,9,10,11] [] e0d a0 Tryz.func238
theorem d7F:Ok0 239 b6W:=
 fo [(110,a9T)] [] [0,1,4,5,6,8,9,10,11,13,14] [] e0e (a1 d0J a0) Tryz.func239
theorem d4M:Ok0 177 b3z:=
 fo [(237,b4Q),(238,b6U),(239,b6W)] [] [0,1,2,6,7,8,9,10,11] [] e0f (a1 d7D (a1 d7E (a1 d7F a0))) Tryz.func177
theorem d7G:Ok0 240 c1a:=
 fo [(256,a8S)] [] [0,1,2,6,7,8,9,10,11,12,13] [] e0g (a1 d0F a0) Tryz.func240
theorem d7H:Ok0 288 b9I:=
 fo [] [] [0] [] e0h a0 Tryz.func288
theorem d7I:Ok0 241 c1c:=
 fo [(232,b2H),(288,b9I)] [] [0,1,5,7,8,11,12,13,15] [] e0i (a1 d0P (a1 d7H a0)) Tryz.func241
theorem d7J:Ok0 178 b9K:=
 fo [(177,b3z),(232,b2H),(240,c1a),(241,c1c)] [] [0,3,4,5,7,8,9] [] e0j (a1 d4M (a1 d0P (a1 d7G (a1 d7I a0)))) Tryz.func178
theorem d7K:Ok0 176 b3g:=
 fo [(177,b3z)] [] [0,1,2,3,6,7,8] [] e0k (a1 d4M a0) Tryz.func176
theorem e0G:Ok0 93 b4S:=
 fo [(175,b9D),(176,b3g),(178,b9K)] [(5,.list true Q31)] [0,1,4,6,8,9] [67] H93 (a1 d7A (a1 d7K (a1 d7J a0))) Tryz.func93
theorem e0H:Ok0 40 c2W:=
 fo [(86,b7M),(89,c2T),(90,a9Q),(91,b3x),(92,b1p),(93,b4S)] [] [0,1,5,6,7,9,10,14,15] [] H40 (a1 d6j (a1 e0F (a1 d3r (a1 d6h (a1 d6i (a1 e0G a0)))))) Tryz.func40
theorem d3y:Ok0 79 b5x:=
 fo [(102,b3M),(105,b2t),(106,b3t),(108,b4H)] [] [0,1,4,5,6] [] H79 (a1 d0u (a1 d0I (a1 d4B (a1 d4C a0)))) Tryz.func79
theorem d7L:Ok0 226 b8y:=
 fo [(105,b2t)] [] [0,2,3,5,6,7] [] e0l (a1 d0I a0) Tryz.func226
theorem d7M:Ok0 227 b9L:=
 fo [] [] [0,2,4,8,12,17] [] e0m a0 Tryz.func227
theorem d7N:Ok0 164 c1e:=
 fo [(79,b5x),(226,b8y),(227,b9L)] [] [0,2,3,4,5,6,7,8] [] e0n (a1 d3y (a1 d7L (a1 d7M a0))) Tryz.func164
theorem e0I:Ok0 78 c1g:=
 fo [(47,b2w),(164,c1e)] [] [0,2,3,4] [1] H78 (a1 d3t (a1 d7N a0)) Tryz.func78
theorem e0J:Ok0 30 b9N:=
 fo [(35,b2v),(40,c2W),(47,b2w),(77,b3p),(78,c1g),(79,b5x)] [(10,.pair QI Q45),(52,.pair QI Q43),(57,.pair QI Q43),(63,.pair QI Q43),(79,.pair QI Q43),(95,.pair QI Q43)] [0,1,2,3,9,11,12,14,16] [4,5] H30 (a1 d3s (a1 e0H (a1 d3t (a1 d5W (a1 e0I (a1 d3y a0)))))) Tryz.func30
theorem e0K:Ok0 43 b9P:=
 fo [(24,b1m)] [] [0,1,4,5,7,8] [] H43 (a1 d3x a0) Tryz.func43
theorem e0L:Ok0 15 c1h:=
 fo [(17,a9U),(19,b6m),(23,b1j),(24,b1m),(26,b9y),(28,b1n),(30,b9N),(43,b9P)] [] [0,4,5,6,8,9,11,13,14,15] [] H15 (a1 d3u (a1 d6c (a1 d6d (a1 d3x (a1 e0C (a1 d6g (a1 e0J (a1 e0K a0)))))))) Tryz.func15
theorem e0M:Ok0 29 c2Z:=
 fo [] [] [0,1,4,5] [2] H29 a0 Tryz.func29
theorem e0N:Ok0 84 c1i:=
 fo [] [] [0,2,3] [] H84 a0 Tryz.func84
theorem d7O:Ok0 167 c7k:=
 fo [] [] [0,2] [] e0o a0 Tryz.func167
theorem d7P:Ok0 168 c5k:=
 fo [] [] [0,2] [] e0p a0 Tryz.func168
theorem e0O:Ok0 85 c5l:=
 fo [(167,c7k),(168,c5k)] [] [0,1,4] [] H85 (a1 d7O (a1 d7P a0)) Tryz.func85
theorem e0P:Ok0 32 b6X:=
 fo [(84,c1i),(85,c5l)] [] [0,2,3,4] [1] H32 (a1 e0N (a1 e0O a0)) Tryz.func32
theorem e0Q:Ok0 33 c1j:=
 fo [] [] [0,1,4] [2] H33 a0 Tryz.func33
theorem e0R:Ok0 34 b6Y:=
 fo [(35,b2v),(79,b5x),(86,b7M)] [(12,.pair QI Q45),(32,.pair QI Q43),(37,.pair QI (.pair QI (.pair Q8 (.pair (.list false Q8) Q32)))),(63,.pair QI Q43)] [0,1,2,3,9,10,11,13,15] [4,5] H34 (a1 d3s (a1 d3y (a1 d6j a0))) Tryz.func34
theorem fs6:Ok0 6 b6Z:=
 fo [(15,c1h),(17,a9U),(19,b6m),(21,b2x),(23,b1j),(24,b1m),(28,b1n),(29,c2Z),(32,b6X),(33,c1j),(34,b6Y)] [] [0,1,2,3,8,9,11,12,13,15,16,18] [4] H6 (a1 e0L (a1 d3u (a1 d6c (a1 d3v (a1 d6d (a1 d3x (a1 d6g (a1 e0M (a1 e0P (a1 e0Q (a1 e0R a0))))))))))) Tryz.func6
end Go.Ab
namespace Go.Ab
open IntKind(wrap)
section
variable {σ β:Type} {f:σ→Option (σ ⊕ β)}
theorem b7O:∀(n m:Nat)(s:σ){b:β},a2R f n s=some b→a2R f (n+m) s=some b
 |0,_,s,b,h=>by simp[a2R]at h
 |n+1,m,s,b,h=>by
  rw[show n+1+m=n+m+1 from by omega];simp only[a2R]at h⊢
  split at h
  cases h;rename_i s' hs;exact b7O n m s' h;exact h
theorem c5m{n m:Nat}{s:σ}{b b':β}(h:a2R f n s=some b)(h':a2R f m s=some b'):b=b':=by
 have h1:=b7O n m s h;have h2:=b7O m n s h';rw[Nat.add_comm,h1]at h2;exact Option.some.inj h2
theorem d3z{n:Nat}{s:σ}{b:β}(h:a2R f n s=some b):b7u f s=some b:=by
 unfold b7u;have hx:∃n b,a2R f n s=some b:=⟨n,b,h⟩;rw[dif_pos hx];exact congrArg some (c5m hx.choose_spec.choose_spec h)
theorem c4p{n:Nat}{s:σ}{b:β}(h:a2R f n s=some b):a0j f s=some b:=by
 unfold a0j;split;rename_i b' hb;rw[c5m hb h];exact d3z h
theorem c5n{s:σ}(h:∀n,a2R f n s=none):a0j f s=none:=by
 unfold a0j;rw[h 400];show b7u f s=none;unfold b7u;rw[dif_neg]
 rintro⟨n,b,hn⟩
 rw[h n]at hn;cases hn
theorem a0q{s:σ}{b:β}(h:f s=some (.inr b)):a0j f s=some b:=c4p (n:=1) (by simp[a2R,h])
theorem a0t{s s':σ}(h:f s=some (.inl s')):a0j f s=a0j f s':=by
 by_cases hx:∃n b,a2R f n s'=some b
 obtain⟨n,b,hb⟩:=hx;rw[c4p hb];exact c4p (n:=n+1) (by simp[a2R,h,hb])
 ·have h':∀n,a2R f n s'=none:=fun n=>by
   cases hn:a2R f n s' with
   |none=>rfl
   |some b=>exact absurd ⟨n,b,hn⟩ hx
  rw[c5n h'];refine c5n fun n=>?_
  cases n with
  |zero=>rfl
  |succ n=>simp[a2R,h,h' n]
theorem c9k(S:Nat→σ)(n:Nat){b:β}(hstep:∀i,i<n→f (S i)=some (.inl (S (i+1))))(hexit:f (S n)=some (.inr b)):∀(k:Nat),k≤n→a0j f (S (n-k))=some b
 |0,_=>a0q hexit
 |k+1,hk=>by
  rw[a0t (hstep (n-(k+1)) (by omega)),show n-(k+1)+1=n-k from by omega];exact c9k S n hstep hexit k (by omega)
theorem a3W(S:Nat→σ)(n:Nat){b:β}(hstep:∀i,i<n→f (S i)=some (.inl (S (i+1))))(hexit:f (S n)=some (.inr b)):a0j f (S 0)=some b:=by
 have:=c9k S n hstep hexit n (a40 _)
 rwa [a39]at this
end
theorem a0g{n:Int}(h:-9223372036854775808≤n∧n≤9223372036854775807):wrap .i64 n=n:=by
 simp only[wrap,IntKind.bits,IntKind.signed]
 simp
 split<;>omega
theorem a0E{n:Int}(h:0≤n∧n<18446744073709551616):wrap .u64 n=n:=by
 simp only[wrap,IntKind.bits,IntKind.signed]
 simp
 omega
theorem b1t(n:Int):wrap .u8 n=n%256:=by
 simp[wrap,IntKind.bits,IntKind.signed]
theorem c9l(x y:Int):a3Z x y=min x y:=by
 simp only[a3Z,cond_eq_ite,dT]
 split<;>omega
theorem d5p(x y:Int):a2K x y=max x y:=by
 simp only[a2K,cond_eq_ite,dT]
 split<;>omega
theorem a1y{n:Nat}(h:n<2147483648):lim n=true:=by simp[lim,h]
end Go.Ab
namespace Go.Ab
open IntKind(wrap)
section
variable {α A σ β:Type}
def a3p(g:A→α→A ⊕ β):List α→A→A ⊕ β
 | [],a=>.inl a
 |x::r,a=>match g a x with
  |.inl a'=>a3p g r a'
  |.inr b=>.inr b
def b0p(fin:A→β):A ⊕ β→β
 |.inl a=>fin a
 |.inr b=>b
theorem b7a{f:σ→Option (σ ⊕ β)}(l:List α)(S:Nat→A→σ)(g:A→α→A ⊕ β)(I:Nat→A→Prop)(fin:A→β)
  (hstep:∀i (h:i<l.length) a,I i a→(∀a',g a l[i]=.inl a'→f (S i a)=some (.inl (S (i+1) a'))∧I (i+1) a')∧(∀b,g a l[i]=.inr b→f (S i a)=some (.inr b)))
  (hexit:∀a,I l.length a→f (S l.length a)=some (.inr (fin a))):∀(k i:Nat)(a:A),i+k=l.length→I i a→a0j f (S i a)=some (b0p fin (a3p g (l.drop i) a))
 |0,i,a,hi,ha=>by
  obtain rfl:i=l.length:=by omega
  rw[a33];exact a0q (hexit a ha)
 |k+1,i,a,hi,ha=>by
  have hlt:i<l.length:=by omega
  rw[a06 hlt];obtain⟨h1,h2⟩:=hstep i hlt a ha;simp only[a3p];cases hg:g a l[i]with
  |inl a'=>
   obtain⟨h3,h4⟩:=h1 a' hg;rw[a0t h3];exact b7a l S g I fin hstep hexit k (i+1) a' (by omega) h4
  |inr b=>exact a0q (h2 b hg)
theorem a3c{f:σ→Option (σ ⊕ β)}(l:List α)(S:Nat→A→σ)(g:A→α→A ⊕ β)(I:Nat→A→Prop)(fin:A→β)
  (hstep:∀i (h:i<l.length) a,I i a→(∀a',g a l[i]=.inl a'→f (S i a)=some (.inl (S (i+1) a'))∧I (i+1) a')∧(∀b,g a l[i]=.inr b→f (S i a)=some (.inr b)))
  (hexit:∀a,I l.length a→f (S l.length a)=some (.inr (fin a))){a:A}(ha:I 0 a):a0j f (S 0 a)=some (b0p fin (a3p g l a)):=by
 have:=b7a l S g I fin hstep hexit l.length 0 a (by omega) ha
 rwa [a32]at this
theorem a1l{f:σ→Option (σ ⊕ β)}(l:List α)(S:Nat→σ)(p:α→Bool){bt bf:β}
  (hgood:∀i (h:i<l.length),p l[i]=true→f (S i)=some (.inl (S (i+1))))(hbad:∀i (h:i<l.length),p l[i]=false→f (S i)=some (.inr bf))
  (hexit:f (S l.length)=some (.inr bt)):a0j f (S 0)=some (bif l.all p then bt else bf):=by
 have h:=a3c (A:=Unit) l (fun i _=>S i) (fun _ x=>bif p x then .inl ()else .inr bf) (fun _ _=>True) (fun _=>bt) (fun i h a _=>?_) (fun _ _=>hexit) (a:=()) trivial
 ·rw[h];congr 1;clear h hgood hbad hexit
  induction l with
  |nil=>rfl
  |cons x l ih=>
   simp only[a3p,a42];cases p x with
   |true=>simpa using ih
   |false=>rfl
 ·cases hp:p l[i]with
  |true=>exact⟨fun a' _=>⟨hgood i h hp,trivial⟩,fun b hb=>by simp[hp]at hb⟩
  |false=>exact⟨fun a' ha=>by simp[hp]at ha,fun b hb=>by simp[hp]at hb;rw[←hb];exact hbad i h hp⟩
end
theorem a0c{α:Type}{l:List α}{i:Nat}(h:i<l.length):a0o l (i:Int)=some l[i]:=by
 unfold a0o;rw[if_pos (Int.natCast_nonneg i),tN,lG h]
def a0b(x:Int):Bool:=decide (-1073741824≤x)&&decide (x<1073741824)
theorem a2o{x:Int}:a0b x=true↔-1073741824≤x∧x<1073741824:=by simp[a0b]
def short{α:Type}(l:List α):Prop:=l.length<1000000
theorem a0h{i:Nat}(h:i<1000000):wrap .i64 ((i:Int)+1)=((i+1:Nat):Int):=by
 rw[a0g (by omega)];omega
theorem dlt{i n:Nat}(h:i<n):decide ((i:Int)<(n:Int))=true:=by simp;omega
theorem dge(n:Nat):decide ((n:Int)<(n:Int))=false:=by simp
theorem a6y{l:List Int}(hl:short l):a2q l=some (l.all a0b):=by
 unfold a2q
 have:=a1l (f:=a2X) l (fun i=>(l,(l.length:Int),(i:Int),())) a0b (bt:=Sum.inl ()) (bf:=Sum.inr (false,()))
  (fun i h hp=>by
   have hp:=a2o.1 hp;have h1:decide (l[i] < -1073741824)=false:=by simp;omega
   have h2:decide (l[i]≥1073741824)=false:=by simp;omega
   simp only[a2X,dlt h,cT,a0c h,oB,h1,h2,cF,a0h (a22 h hl)])
  (fun i h hp=>by
   simp only[a2X,dlt h,cT,a0c h,oB]
   by_cases h1:l[i] < -1073741824
   simp[h1];have h2:l[i]≥1073741824:=by
    simp only[a0b,a37,decide_eq_false_iff_not]at hp;omega
   simp[h1,h2])
  (by simp[a2X])
 simp only[nZ]at this;rw[this];cases l.all a0b<;>rfl
end Go.Ab
namespace Go.Ab
theorem a6z(x:Int):a5q x=some (a0b x):=by
 unfold a5q a0b
 by_cases h:-1073741824≤x<;>simp[h]
theorem a8y(x:Int):a7B x=some (a0b x):=by
 unfold a7B a0b
 by_cases h:-1073741824≤x<;>simp[h]
theorem a5u(x:Int):a6t x=some (a0b x):=by
 unfold a6t a0b
 by_cases h:-1073741824≤x<;>simp[h]
theorem b7b(x:Int):a5r x=some (a0b x):=by
 unfold a5r a0b
 by_cases h:-1073741824≤x<;>simp[h]
theorem a9o{l:List Int}(hl:short l):a2Y l=some (l.all a0b):=by
 unfold a2Y
 have:=a1l (f:=a3F) l (fun i=>(l,(l.length:Int),(i:Int),())) a0b (bt:=Sum.inl ()) (bf:=Sum.inr (false,()))
  (fun i h hp=>by simp[a3F,a0c h,a6z,hp,a0h (a22 h hl),h])
  (fun i h hp=>by simp[a3F,a0c h,a6z,hp,h])
  (by simp[a3F])
 simp only[nZ]at this;rw[this];cases l.all a0b<;>rfl
theorem b5z{l:List Int}(hl:short l):a4K l=some (l.all a0b):=by
 unfold a4K
 have:=a1l (f:=a4p) l (fun i=>(l,(l.length:Int),(i:Int),())) a0b (bt:=Sum.inl ()) (bf:=Sum.inr (false,()))
  (fun i h hp=>by simp[a4p,a0c h,a8y,hp,a0h (a22 h hl),h])
  (fun i h hp=>by simp[a4p,a0c h,a8y,hp,h])
  (by simp[a4p])
 simp only[nZ]at this;rw[this];cases l.all a0b<;>rfl
theorem b4U{l:List Int}(hl:short l):a5B l=some (l.all a0b):=by
 unfold a5B
 have:=a1l (f:=a4b) l (fun i=>(l,(l.length:Int),(i:Int),())) a0b (bt:=Sum.inl ()) (bf:=Sum.inr (false,()))
  (fun i h hp=>by simp[a4b,a0c h,a5u,hp,a0h (a22 h hl),h])
  (fun i h hp=>by simp[a4b,a0c h,a5u,hp,h])
  (by simp[a4b])
 simp only[nZ]at this;rw[this];cases l.all a0b<;>rfl
theorem a7r{l:List Int}(hl:short l):a2M l=some (l.all a0b):=by
 have e:b5r=a2X:=rfl
 have:a2M l=a2q l:=by unfold a2M a2q;rw[e]
 rw[this,a6y hl]
def c0m(x:Int):Bool:=decide (-32768≤x)&&decide (x<32768)
def a9p(c:List Int)(s:Int):Bool:=decide (1≤c.length)&&(decide (c.length≤32)&&(decide (0≤s)&&(decide (s≤15)&&c.all c0m)))
theorem b0b{c:List Int}{s:Int}(hl:short c):a4S (c,s)=some (a9p c s):=by
 have:=a1l (f:=a4d) c (fun i=>(c,(c.length:Int),(i:Int),())) c0m (bt:=Sum.inl ()) (bf:=Sum.inr (false,()))
  (fun i h hp=>by
   simp only[c0m,bA,dT]at hp;have h1:¬ c[i] < -32768:=by omega
   have h2:¬ c[i]≥32768:=by omega
   simp[a4d,a0c h,a0h (a22 h hl),h,h1,h2])
  (fun i h hp=>by
   simp only[c0m,a37,decide_eq_false_iff_not]at hp
   by_cases h1:c[i] < -32768
   simp[a4d,a0c h,h,h1];have h2:c[i]≥32768:=by omega
   simp[a4d,a0c h,h,h1,h2])
  (by simp[a4d])
 simp only[nZ]at this;unfold a4S a9p
 by_cases h1:c.length<1
 have:((c.length:Nat):Int)<1:=by omega
 have:¬ 1≤c.length:=by omega
 simp[*]
 by_cases h2:c.length > 32
 have:((c.length:Nat):Int) > 32:=by omega
 have:¬ ((c.length:Nat):Int)<1:=by omega
 have:¬ c.length≤32:=by omega
 simp[*]
 by_cases h3:s<0
 have:¬ ((c.length:Nat):Int) > 32:=by omega
 have:¬ ((c.length:Nat):Int)<1:=by omega
 have:¬ 0≤s:=by omega
 simp[*]
 by_cases h4:s > 15
 have:¬ ((c.length:Nat):Int) > 32:=by omega
 have:¬ ((c.length:Nat):Int)<1:=by omega
 have:¬ s≤15:=by omega
 simp[*];have g1:¬ ((c.length:Nat):Int) > 32:=by omega
 have g2:¬ ((c.length:Nat):Int)<1:=by omega
 simp only[g1,g2,h3,h4,decide_false,cF,oB,this];have g3:1≤c.length:=by omega
 have g4:c.length≤32:=by omega
 have g5:0≤s:=by omega
 have g6:s≤15:=by omega
 simp only[g3,g4,g5,g6,decide_true,a17];cases c.all c0m<;>rfl
def b6q(x:Int):Bool:=decide (-64≤x)&&decide (x≤64)
def b2L(lag:Int)(t:List Int):Bool:=decide (2≤lag)&&(decide (lag≤1024)&&t.all b6q)
theorem b6r{t:List Int}{lag:Int}(ht:t.length=3):a8R (lag,t)=some (b2L lag t):=by
 have:=a1l (f:=a5o) t (fun i=>(t,(i:Int),())) b6q (bt:=Sum.inl ()) (bf:=Sum.inr (false,()))
  (fun i h hp=>by
   simp only[b6q,bA,dT]at hp;have h0:(i:Int)<3:=by omega
   have h1:¬ t[i] < -64:=by omega
   have h2:¬ t[i] > 64:=by omega
   simp[a5o,a0c h,a0h (show i<1000000 by omega),h0,h1,h2])
  (fun i h hp=>by
   simp only[b6q,a37,decide_eq_false_iff_not]at hp;have h0:(i:Int)<3:=by omega
   by_cases h1:t[i] < -64
   simp[a5o,a0c h,h0,h1];have h2:t[i] > 64:=by omega
   simp[a5o,a0c h,h0,h1,h2])
  (by rw[ht];simp[a5o])
 simp only[nZ]at this;unfold a8R b2L
 by_cases h1:lag<2
 have:¬ 2≤lag:=by omega
 simp[*]
 by_cases h2:lag > 1024
 have:¬ lag≤1024:=by omega
 simp[*];have g1:2≤lag:=by omega
 have g2:lag≤1024:=by omega
 simp only[h1,h2,g1,g2,decide_false,decide_true,cF,oB,this,a17];cases t.all b6q<;>rfl
def stageB(s:Int×(Int×Unit)):Bool:=decide (1≤s.1)&&(decide (s.1≤32)&&(decide (0≤s.2.1)&&decide (s.2.1≤8)))
def a9D(l:List (Int×Int×Unit)):Bool:=decide (l.length≤3)&&l.all stageB
theorem b1Y(s:Int×(Int×Unit)):a7h s=some (stageB s):=by
 unfold a7h stageB
 by_cases h1:1≤s.1<;>by_cases h2:s.1≤32<;>by_cases h3:0≤s.2.1<;>simp[h1,h2,h3]
theorem b4V{l:List (Int×Int×Unit)}(hl:short l):a7z l=some (a9D l):=by
 have:=a1l (f:=a6r) l (fun i=>(l,(l.length:Int),(i:Int),())) stageB (bt:=Sum.inl ()) (bf:=Sum.inr (false,()))
  (fun i h hp=>by simp[a6r,a0c h,b1Y,hp,a0h (a22 h hl),h])
  (fun i h hp=>by simp[a6r,a0c h,b1Y,hp,h])
  (by simp[a6r])
 simp only[nZ]at this;unfold a7z a9D
 by_cases h:l.length≤3
 have g:¬ ((l.length:Nat):Int) > 3:=by omega
 simp only[g,h,decide_false,decide_true,cF,this,oB,a17];cases l.all stageB<;>rfl;have g:((l.length:Nat):Int) > 3:=by omega
 simp[g,h]
end Go.Ab
namespace Go.Ab
open IntKind(wrap)
@[reducible] def W(n:Int):Int:=wrap .i64 n
theorem a8z(n:Int):wrap .i64 n=Int.bmod n 18446744073709551616:=by
 simp only[wrap,IntKind.bits,IntKind.signed,Int.bmod]
 simp
 split<;>split<;>omega
theorem b9R{n:Int}(h:a0b n=true):W n=n:=by
 have:=a2o.1 h
 exact a0g (by omega)
def a4z(guess:List Int→Int):List Int→List Int→Option (List Int)
 | [],out=>some out
 |x::r,out=>bif a0b (W (x+guess out))then a4z guess r (out++[W (x+guess out)])else none
def b5A{β:Type}(guess:List Int→Int)(bad:β)(out:List Int)(x:Int):List Int ⊕ β:=bif a0b (W (x+guess out))then .inl (out++[W (x+guess out)])else .inr bad
theorem b3V{β:Type}(guess:List Int→Int)(bad:β)(fin:List Int→β):∀(l out:List Int),b0p fin (a3p (b5A guess bad) l out)=match a4z guess l out with|some r=>fin r|none=>bad
 | [],out=>rfl
 |x::l,out=>by
  simp only[a3p,b5A,a4z];cases a0b (W (x+guess out))with
  |true=>exact b3V guess bad fin l _
  |false=>rfl
theorem b3W(guess:List Int→Int):∀(l out r:List Int),out.all a0b=true→a4z guess l out=some r→r.all a0b=true∧r.length=out.length+l.length
 | [],out,r,h,e=>by simp only[a4z,sj]at e;subst e;exact⟨h,by simp⟩
 |x::l,out,r,h,e=>by
  simp only[a4z]at e;cases hw:a0b (W (x+guess out))with
  |true=>
   rw[hw]at e;obtain⟨h1,h2⟩:=b3W guess l _ r (by simp[h,hw]) e;exact⟨h1,by rw[h2];simp;omega⟩
  |false=>rw[hw]at e;cases e
def a3e:Option (List Int)→List Int×Int
 |some r=>(r,0)
 |none=>([],6)
def atB(out:List Int)(i:Nat):Int:=out.getD (out.length-i) 0
def a5b(o:Nat)(out:List Int):Int:=match o with
 | 1=>atB out 1
 | 2=>2*atB out 1-atB out 2
 | 3=>3*atB out 1-3*atB out 2+atB out 3
 | 4=>4*atB out 1-6*atB out 2+4*atB out 3-atB out 4
 |_=>0
theorem b3X{out:List Int}{i:Nat}(hi:1≤i)(h:i≤out.length)(hs:short out):a1k ((i:Int),out)=some (atB out i,out):=by
 unfold a1k;have hs:out.length<1000000:=hs;have e:wrap .i64 (((out.length:Nat):Int)-(i:Int))=((out.length-i:Nat):Int):=by rw[a0g (by omega)];omega
 simp only[e,a0c (show out.length-i<out.length by omega),oB,atB];rw[lD,lG (by omega)];rfl
theorem c4q{out:List Int}{o:Nat}(ho:o≤4)(h:o≤out.length)(hs:short out):∃g,a9R (out,(o:Int))=some g∧∀x,W (x+g)=W (x+a5b o out):=by
 have g1:=fun(h':1≤out.length)=>b3X (i:=1) (by omega) h' hs;have g2:=fun(h':2≤out.length)=>b3X (i:=2) (by omega) h' hs;have g3:=fun(h':3≤out.length)=>b3X (i:=3) (by omega) h' hs;have g4:=fun(h':4≤out.length)=>b3X (i:=4) (by omega) h' hs;simp only[Int.natCast_one,Int.cast_ofNat_Int]at g1 g2 g3 g4;unfold a9R;have h5:o=0∨o=1∨o=2∨o=3∨o=4:=by omega
 rcases h5 with rfl|rfl|rfl|rfl|rfl;exact⟨0,rfl,fun x=>rfl⟩;exact⟨_,by simp[g1 (by omega)];rfl,fun x=>rfl⟩;refine⟨_,by simp[g1 (by omega),g2 (by omega)];rfl,fun x=>?_⟩;simp only[W,a8z,a5b,a43,a44,a45];refine⟨_,by simp[g1 (by omega),g2 (by omega),g3 (by omega)];rfl,fun x=>?_⟩;simp only[W,a8z,a5b,a43,a44,a45,a58];refine⟨_,by simp[g1 (by omega),g2 (by omega),g3 (by omega),g4 (by omega)];rfl,fun x=>?_⟩;simp only[W,a8z,a5b,a43,a44,a45,a58]
theorem a1u{n:Nat}(h:n<1000000):lim n=true:=a1y (by omega)
theorem c5V{warm rest:List Int}{o:Nat}(ho:o≤4)(hw:warm.length=o)(hr:rest.length<100000):
  b0Z (warm,rest,(o:Int))=some (a3e (bif warm.all a0b&&rest.all a0b then a4z (a5b o) rest warm else none)):=by
 have hsw:short warm:=by unfold short;omega
 have hsr:short rest:=by unfold short;omega
 unfold b0Z;have h1:¬ (o:Int)<0:=by omega
 have h2:¬ (o:Int) > 4:=by omega
 have h3:(((warm.length:Nat):Int) != (o:Int))=false:=by simp;omega
 simp only[h1,h2,h3,decide_false,cF,oB,a7r hsw,a7r hsr];cases hw1:warm.all a0b with
 |false=>rfl
 |true=>
  simp only[bT,cF,oB,a17];cases hw2:rest.all a0b with
  |false=>rfl
  |true=>
   simp only[bT,cF,cT,a1u hsw]
   have:=a3c (f:=a7T) rest (fun i out=>((o:Int),rest,(rest.length:Int),(i:Int),out,())) (b5A (a5b o) (Sum.inr ((6:Int),([]:List Int),())))
    (fun i out=>o≤out.length∧out.length≤o+i) (fun out=>Sum.inl (out,()))
    (fun i h out hI=>by
     have hlt:i<1000000:=by omega
     have hso:short out:=by unfold short;omega
     obtain⟨g,hg,hgw⟩:=c4q ho hI.1 hso;have e:wrap .i64 (rest[i]+g)=W (rest[i]+a5b o out):=hgw _;have hone:a2M [W (rest[i]+a5b o out)]=some (a0b (W (rest[i]+a5b o out))):=by rw[a7r (by simp[short])];simp
     simp only[a7T,dlt h,cT,a0c h,oB,hg,e,hone,b5A];cases hb:a0b (W (rest[i]+a5b o out))with
     |true=>
      simp only[cT,bT,cF,a1u (show out.length+1<1000000 by omega),a0h hlt];refine⟨fun a' ha=>?_,fun b hb=>(by cases hb)⟩;simp only[Sum.inl.injEq]at ha;subst ha;exact⟨rfl,by simp;omega,by simp;omega⟩
     |false=>
      refine⟨fun a' ha=>(by cases ha),fun b hb=>?_⟩;simp only[cF,Sum.inr.injEq]at hb;subst hb;rfl)
    (fun out _=>by simp[a7T]) (a:=warm) ⟨by omega,by omega⟩
   simp only[nZ,b3V]at this;rw[this];cases a4z (a5b o) rest warm<;>rfl
end Go.Ab
namespace Go.Ab
open IntKind(wrap)
def c7m(out:List Int):List Int→Nat→Int→Int
 | [],_,acc=>acc
 |c::r,i,acc=>bif decide (i<out.length)then c7m out r (i+1) (W (acc+W (c*atB out (i+1))))else acc
def b1Z(c:List Int)(s:Int)(out:List Int):Int:=a0F .i64 (c7m out c 0 0) s
theorem d6k{out:List Int}{i:Nat}(h:i<out.length)(hs:short out):a0o out (wrap .i64 (wrap .i64 (((out.length:Nat):Int)-1)-(i:Int)))=some (atB out (i+1)):=by
 have hs:out.length<1000000:=hs;have e1:wrap .i64 (((out.length:Nat):Int)-1)=((out.length-1:Nat):Int):=by rw[a0g (by omega)];omega
 have e2:wrap .i64 (((out.length-1:Nat):Int)-(i:Int))=((out.length-(i+1):Nat):Int):=by rw[a0g (by omega)];omega
 rw[e1,e2,a0c (show out.length-(i+1)<out.length by omega),atB,lD,lG (by omega)];rfl
theorem b9S{out c:List Int}{s:Int}(hs:short out)(hc:short c):∀(k i:Nat)(acc:Int),i+k=c.length→
  a0j a3G (out,s,acc,c,(c.length:Int),(i:Int),())=some (s,c7m out (c.drop i) i acc,())
 |0,i,acc,h=>by
  obtain rfl:i=c.length:=by omega
  rw[a33];exact a0q (by simp[a3G,c7m])
 |k+1,i,acc,h=>by
  have hlt:i<c.length:=by omega
  have hs':out.length<1000000:=hs;have hc':c.length<1000000:=hc;rw[a06 hlt,c7m];have e1:wrap .i64 (((out.length:Nat):Int)-1)=((out.length:Nat):Int)-1:=a0g (by omega);have e2:wrap .i64 (((out.length:Nat):Int)-1-(i:Int))=((out.length:Nat):Int)-1-(i:Int):=a0g (by omega)
  by_cases hi:i<out.length
  have hd:decide (wrap .i64 (wrap .i64 (((out.length:Nat):Int)-1)-(i:Int))<0)=false:=by rw[e1,e2];simp;omega
  simp only[hi,decide_true,cT];rw[a0t (s':=(out,s,W (acc+W (c[i]*atB out (i+1))),c,(c.length:Int),((i+1:Nat):Int),())) (by
   simp only[a3G,dlt hlt,cT,a0c hlt,oB,hd,cF,d6k hi hs,a0h (show i<1000000 by omega)])]
  exact b9S hs hc k (i+1) _ (by omega);have hd:decide (wrap .i64 (wrap .i64 (((out.length:Nat):Int)-1)-(i:Int))<0)=true:=by rw[e1,e2];simp;omega
  simp only[hi,decide_false,cF];exact a0q (by simp only[a3G,dlt hlt,cT,a0c hlt,oB,hd])
theorem b7P{out c:List Int}{s:Int}(hs:short out)(hc:short c)(h0:0≤s):a4U (out,c,s)=some (b1Z c s out):=by
 have:=b9S (s:=s) hs hc c.length 0 0 (by omega)
 simp only[nZ,a32]at this;unfold a4U;simp only[this,oB]
 have:¬ s<0:=by omega
 simp[this,b1Z]
def b4W(warm rest c:List Int)(s:Int):Option (List Int):=bif warm.all a0b&&rest.all a0b then a4z (b1Z c s) rest warm else none
theorem b7c{warm rest c:List Int}{s:Int}(hl:a9p c s=true)(hw:warm.length=c.length)(hr:rest.length<100000):
  a7i (warm,rest,c,s)=some (a3e (b4W warm rest c s)):=by
 have hl':=hl;simp only[a9p,bA,dT]at hl';have hsc:short c:=by unfold short;omega
 have hsw:short warm:=by unfold short;omega
 have hsr:short rest:=by unfold short;omega
 unfold a7i;have h3:(((warm.length:Nat):Int) != ((c.length:Nat):Int))=false:=by simp;omega
 simp only[b0b hsc,hl,oB,bT,cF,h3,a9o hsw,a9o hsr,b4W];cases hw1:warm.all a0b with
 |false=>rfl
 |true=>
  simp only[bT,cF,oB,a17];cases hw2:rest.all a0b with
  |false=>rfl
  |true=>
   have e1:wrap .i64 (((warm.length:Nat):Int)+((rest.length:Nat):Int))=((warm.length+rest.length:Nat):Int):=by rw[a0g (by omega)];omega
   have h4:(0:Int)≤((warm.length+rest.length:Nat):Int):=by omega
   simp only[bT,cF,cT,e1,h4,decide_true,tN,a1u (show warm.length+rest.length<1000000 by omega),a1u (show 0+warm.length<1000000 by omega),a08,a51,a09]
   have:=a3c (f:=a6O) rest (fun i out=>(c,s,rest,(rest.length:Int),(i:Int),out,())) (b5A (b1Z c s) (Sum.inr ((6:Int),([]:List Int),())))
    (fun i out=>out.length≤warm.length+i) (fun out=>Sum.inl (out,()))
    (fun i h out hI=>by
     have hlt:i<1000000:=by omega
     have hso:short out:=by unfold short;omega
     have e:wrap .i64 (b1Z c s out+rest[i])=W (rest[i]+b1Z c s out):=by rw[Int.add_comm]
     simp only[a6O,dlt h,cT,a0c h,oB,b7P hso hsc hl'.2.2.1,e,a6z,b5A];cases hb:a0b (W (rest[i]+b1Z c s out))with
     |true=>
      simp only[cT,bT,cF,a1u (show out.length+1<1000000 by omega),a0h hlt];refine⟨fun a' ha=>?_,fun b hb=>(by cases hb)⟩;simp only[Sum.inl.injEq]at ha;subst ha;exact⟨rfl,by simp;omega⟩
     |false=>
      refine⟨fun a' ha=>(by cases ha),fun b hb=>?_⟩;simp only[cF,Sum.inr.injEq]at hb;subst hb;rfl)
    (fun out _=>by simp[a6O]) (a:=warm) (by omega)
   simp only[nZ,b3V]at this;rw[this];cases a4z (b1Z c s) rest warm<;>rfl
end Go.Ab
namespace Go.Ab
open IntKind(wrap)
def c7n(out:List Int)(lag:Int):List Int→Nat→Int→Int
 | [],_,acc=>acc
 |t::r,i,acc=>c7n out lag r (i+1) (bif decide (0≤(out.length:Int)-lag-1+i)then W (acc+W (t*out.getD ((out.length:Int)-lag-1+i).toNat 0))else acc)
def b0c(lag:Int)(t:List Int)(out:List Int):Int:=a0F .i64 (c7n out lag t 0 0) 6
theorem c7o{out:List Int}{j:Int}(h0:0≤j)(h:j<out.length):a0o out j=some (out.getD j.toNat 0):=by
 obtain⟨n,rfl⟩:=a23 h0;have hn:n<out.length:=by omega
 rw[a0c hn,tN,lD,lG hn];rfl
theorem d5q{n i:Nat}{lag:Int}(h1:2≤lag)(h2:lag≤1024)(hn:n<1000000)(hi:i<3):
  wrap .i64 (wrap .i64 (wrap .i64 ((n:Int)-lag)-1)+(i:Int))=(n:Int)-lag-1+i:=by
 rw[a0g (n:=(n:Int)-lag) (by omega),a0g (n:=(n:Int)-lag-1) (by omega),a0g (by omega)]
theorem d2b{l:List Int}{n j:Nat}(h:j<n):(l.take n).getD j 0=l.getD j 0:=by
 simp only[lD,List.getElem?_take,h,if_true]
theorem a9q{l t:List Int}{lag:Int}{n:Nat}(hn:n≤l.length)(hs:short l)(ht:t.length=3)(h1:2≤lag)(h2:lag≤1024):∀(k i:Nat)(acc:Int),i+k=3→
  a0j a4q (l,(n:Int),lag,acc,t,(i:Int),())=some (c7n (l.take n) lag (t.drop i) i acc,())
 |0,i,acc,h=>by
  obtain rfl:i=t.length:=by omega
  rw[a33];exact a0q (by rw[ht];simp[a4q,c7n])
 |k+1,i,acc,h=>by
  have hlt:i<t.length:=by omega
  have hi3:decide ((i:Int)<3)=true:=by simp;omega
  have hs':l.length<1000000:=hs;have hln:(l.take n).length=n:=by rw[a46];omega
  have e:=d5q (n:=n) (i:=i) h1 h2 (by omega) (by omega);rw[a06 hlt,c7n,hln]
  by_cases hp:0≤(n:Int)-lag-1+i
  have hd:decide ((n:Int)-lag-1+i≥0)=true:=by simp;omega
  simp only[hp,decide_true,cT];rw[d2b (show((n:Int)-lag-1+i).toNat<n by omega),a0t (s':=(l,(n:Int),lag,W (acc+W (t[i]*l.getD ((n:Int)-lag-1+i).toNat 0)),t,((i+1:Nat):Int),())) (by
   simp only[a4q,hi3,cT,a0c hlt,oB,e,hd,c7o hp (show(n:Int)-lag-1+(i:Int)<(l.length:Int)by omega),a0h (show i<1000000 by omega)])]
  exact a9q hn hs ht h1 h2 k (i+1) _ (by omega);have hd:decide ((n:Int)-lag-1+i≥0)=false:=by simp;omega
  simp only[hp,decide_false,cF];rw[a0t (s':=(l,(n:Int),lag,acc,t,((i+1:Nat):Int),())) (by
   simp only[a4q,hi3,cT,a0c hlt,oB,e,hd,cF,a0h (show i<1000000 by omega)])]
  exact a9q hn hs ht h1 h2 k (i+1) _ (by omega)
theorem b5B{l t:List Int}{lag:Int}{n:Nat}(hn:n≤l.length)(hs:short l)(ht:t.length=3)(h1:2≤lag)(h2:lag≤1024):
  a4L (l,(n:Int),lag,t)=some (b0c lag t (l.take n)):=by
 have:=a9q (t:=t) hn hs ht h1 h2 3 0 0 (by omega)
 simp only[nZ,a32]at this;unfold a4L;simp only[this,oB,b0c]
theorem c3c{out t:List Int}{lag:Int}(hs:short out)(ht:t.length=3)(h1:2≤lag)(h2:lag≤1024):a4L (out,(out.length:Int),lag,t)=some (b0c lag t out):=by
 rw[b5B (a40 _) hs ht h1 h2,a60]
def b3Y(rest:List Int)(lag:Int)(t:List Int):Option (List Int):=bif rest.all a0b then a4z (b0c lag t) rest []else none
theorem c7p{rest t:List Int}{lag:Int}(hl:b2L lag t=true)(ht:t.length=3)(hr:rest.length<100000):b2r (rest,lag,t)=some (a3e (b3Y rest lag t)):=by
 have hl':=hl;simp only[b2L,bA,dT]at hl';have hsr:short rest:=by unfold short;omega
 unfold b2r;simp only[b6r ht,hl,oB,bT,cF,b5z hsr,b3Y];cases hw2:rest.all a0b with
 |false=>rfl
 |true=>
  have h4:(0:Int)≤((rest.length:Nat):Int):=by omega
  simp only[bT,cF,cT,h4,decide_true,tN,a1u hsr,a08]
  have:=a3c (f:=a8T) rest (fun i out=>(lag,rest,(rest.length:Int),(i:Int),out,t,())) (b5A (b0c lag t) (Sum.inr ((6:Int),([]:List Int),())))
   (fun i out=>out.length=i) (fun out=>Sum.inl (out,()))
   (fun i h out hI=>by
    have hlt:i<1000000:=by omega
    have hso:short out:=by unfold short;omega
    have hp:=c3c (out:=out) (t:=t) (lag:=lag) hso ht hl'.1 hl'.2.1;rw[hI]at hp;simp only[a8T,dlt h,cT,a0c h,oB,hp,a8y,b5A];cases hb:a0b (W (rest[i]+b0c lag t out))with
    |true=>
     simp only[cT,bT,cF,a1u (show out.length+1<1000000 by omega),a0h hlt];refine⟨fun a' ha=>?_,fun b hb=>(by cases hb)⟩;simp only[Sum.inl.injEq]at ha;subst ha;exact⟨rfl,by simp;omega⟩
    |false=>
     refine⟨fun a' ha=>(by cases ha),fun b hb=>?_⟩;simp only[cF,Sum.inr.injEq]at hb;subst hb;rfl)
   (fun out _=>by simp[a8T]) (a:=[]) rfl
  simp only[nZ,b3V]at this;rw[this];cases a4z (b0c lag t) rest []<;>rfl
def c3d{β:Type}(n:Int)(bad:β)(out:List Int)(x:Int):List Int ⊕ β:=bif a0b x&&a0b (a0y .i64 x n)then .inl (out++[a0y .i64 x n])else .inr bad
def upO(n:Int)(l:List Int):Option (List Int):=bif l.all (fun x=>a0b x&&a0b (a0y .i64 x n))then some (l.map fun x=>a0y .i64 x n)else none
theorem c1k{β:Type}(n:Int)(bad:β)(fin:List Int→β):∀(l out:List Int),b0p fin (a3p (c3d n bad) l out)=match upO n l with|some r=>fin (out++r)|none=>bad
 | [],out=>by simp[a3p,b0p,upO]
 |x::l,out=>by
  simp only[a3p,c3d,upO,a42];cases hx:(a0b x&&a0b (a0y .i64 x n))with
  |true=>
   simp only[cT,a17];rw[c1k n bad fin l _];simp only[upO];cases l.all (fun x=>a0b x&&a0b (a0y .i64 x n))with
   |true=>simp
   |false=>rfl
  |false=>rfl
theorem c7q{l:List Int}{n:Int}(h0:0≤n)(h1:n≤30)(hr:l.length<100000):a9z (l,n)=some (a3e (upO n l)):=by
 have hsr:short l:=by unfold short;omega
 have g1:¬ n<0:=by omega
 have g2:¬ n > 30:=by omega
 unfold a9z;simp only[g1,g2,decide_false,cF,oB]
 have:=a3c (f:=a8U) l (fun i out=>(n,l,(l.length:Int),(i:Int),out,())) (c3d n (Sum.inr ((6:Int),([]:List Int),())))
  (fun i out=>out.length=i) (fun out=>Sum.inl (out,()))
  (fun i h out hI=>by
   have hlt:i<1000000:=by omega
   simp only[a8U,dlt h,cT,a0c h,oB,b7b,c3d,g1,decide_false,cF];cases hb:a0b l[i]with
   |true=>
    cases hb2:a0b (a0y .i64 l[i] n)with
    |true=>
     simp only[cT,bT,cF,oB,g1,decide_false,a1u (show out.length+1<1000000 by omega),a0h hlt,a08];refine⟨fun a' ha=>?_,fun b hb=>(by cases hb)⟩;simp only[Sum.inl.injEq]at ha;subst ha;exact⟨rfl,by simp;omega⟩
    |false=>
     refine⟨fun a' ha=>(by cases ha),fun b hb=>?_⟩;simp only[a17,cF,Sum.inr.injEq]at hb;subst hb;rfl
   |false=>
    refine⟨fun a' ha=>(by cases ha),fun b hb=>?_⟩;simp only[a67,cF,Sum.inr.injEq]at hb;subst hb;rfl)
  (fun out _=>by simp[a8U]) (a:=[]) rfl
 simp only[nZ,c1k,a09]at this;rw[this];cases upO n l<;>rfl
end Go.Ab
namespace Go.Ab
open IntKind(wrap)
@[reducible] def Fil:Type:=Int×((List Int)×((List Int)×Unit))
def a2O(x:Int):Int:=a3Z (a2K x (-1073741824)) 1073741823
def c3e(x:Int):Int:=a3Z (a2K x (-1048576)) 1048576
theorem c7r(x:Int):-1048576≤c3e x∧c3e x≤1048576:=by
 simp only[c3e,c9l,d5p];omega
def d0Q:List Int→List Int→Int→Int
 |a::w,b::h,acc=>d0Q w h (W (acc+W (a*b)))
 |_,_,acc=>acc
def a1h(f:Fil):Int:=a2O (a0F .i64 (d0Q f.2.1 f.2.2.1 0) 16)
structure FilOk (f:Fil):Prop where
 len:f.2.1.length=f.2.2.1.length
 pos:1≤f.2.1.length
 most:f.2.1.length≤32
 rate:0≤f.1∧f.1≤8
 small:∀x∈f.2.1,-1048576≤x∧x≤1048576
theorem b7Q{l:List Int}{i:Nat}(h:i<l.length):a03 l i 0=l[i]:=by
 rw[lD,lG h];rfl
theorem b4X{f:Fil}(hf:FilOk f):∀(k i:Nat)(acc:Int),i+k=f.2.1.length→
  a0j a3B (acc,(f.2.1.length:Int),(i:Int),f,())=some (d0Q (f.2.1.drop i) (f.2.2.1.drop i) acc,f,())
 |0,i,acc,h=>by
  obtain rfl:i=f.2.1.length:=by omega
  rw[a33,a0q (b:=(acc,f,())) (by simp[a3B])];rfl
 |k+1,i,acc,h=>by
  have h1:i<f.2.1.length:=by omega
  have h2:i<f.2.2.1.length:=by rw[←hf.len];exact h1
  have hm:=hf.most;rw[a06 h1,a06 h2,d0Q];have h0:decide ((0:Int)≤(i:Int))=true:=by simp
  rw[a0t (s':=(W (acc+W (f.2.1[i]*f.2.2.1[i])),(f.2.1.length:Int),((i+1:Nat):Int),f,())) (by
   simp only[a3B,dlt h1,dlt h2,h0,cT,a08,tN,b7Q h1,b7Q h2,a0h (show i<1000000 by omega)])]
  exact b4X hf k (i+1) _ (by omega)
theorem a6A{f:Fil}(hf:FilOk f):a2s f=some (a1h f,f):=by
 have:=b4X hf f.2.1.length 0 0 (by omega)
 simp only[nZ,a32]at this;unfold a2s;simp only[this,oB,a5C];rfl
def c0n(x:Int):Int:=if 0<x then 1 else if x<0 then -1 else 0
def b2M(r:Int)(x g:Int):Int:=c0n (x-g)*2^r.toNat
def b7R(st:Int)(w h:Int):Int:=c3e (W (w+c0n h*st))
def b3Z(f:Fil)(x:Int):Fil:=
 (f.1,a25 (b7R (b2M f.1 (a2O x) (a1h f))) f.2.1 f.2.2.1,a2O x::f.2.2.1.take (f.2.2.1.length-1),f.2.2.2)
theorem c7s{f:Fil}(hf:FilOk f)(x:Int):FilOk (b3Z f x):=by
 obtain⟨h1,h2,h3,h4,h5⟩:=hf;have e:(a25 (b7R (b2M f.1 (a2O x) (a1h f))) f.2.1 f.2.2.1).length=f.2.1.length:=by simp;omega
 refine⟨?_,?_,?_,h4,?_⟩;show(a25 _ _ _).length=(a2O x::f.2.2.1.take (f.2.2.1.length-1)).length;rw[e];simp;omega;show 1≤(a25 _ _ _).length;rw[e];exact h2;show(a25 _ _ _).length≤32;rw[e];exact h3;intro y hy;have hy:y∈a25 (b7R (b2M f.1 (a2O x) (a1h f))) f.2.1 f.2.2.1:=hy;obtain⟨i,hi,rfl⟩:=List.mem_iff_getElem.1 hy;simp only[a52];exact c7r _
theorem b6s(x:Int):(0<x∧c0n x=1)∨(x<0∧c0n x=-1)∨(x=0∧c0n x=0):=by
 unfold c0n
 by_cases h:0<x
 exact .inl ⟨h,by rw[if_pos h]⟩
 by_cases h':x<0
 exact .inr (.inl ⟨h',by rw[if_neg h,if_pos h']⟩);exact .inr (.inr ⟨by omega,by rw[if_neg h,if_neg h']⟩)
theorem c1W{r:Int}(h:0≤r∧r≤8):(2:Int)^r.toNat≤256∧1≤(2:Int)^r.toNat:=by
 have:r.toNat=0∨r.toNat=1∨r.toNat=2∨r.toNat=3∨r.toNat=4∨r.toNat=5∨r.toNat=6∨r.toNat=7∨r.toNat=8:=by omega
 rcases this with e|e|e|e|e|e|e|e|e<;>rw[e]<;>decide
theorem d2c{r:Int}(h:0≤r∧r≤8){x:Int}(hx:-1≤x∧x≤1):a0y .i64 x r=x*2^r.toNat:=by
 have hp:=c1W h;have hb:min r.toNat 64=r.toNat:=by omega
 unfold a0y;show wrap .i64 (x*2^(min r.toNat 64))=_;rw[hb]
 have:x=-1∨x=0∨x=1:=by omega
 rcases this with rfl|rfl|rfl;exact a0g (by omega);exact a0g (by omega);exact a0g (by omega)
theorem c5W{f:Fil}(hf:FilOk f)(x:Int):
  (bif decide (a2O x > a1h f)then bif decide (f.1<0)then(none:Option (Int×Int×Fil×Unit))else some (a2O x,a0y .i64 (1:Int) f.1,f,())
   else bif decide (a2O x<a1h f)then bif decide (f.1<0)then none else some (a2O x,wrap .i64 (0-(a0y .i64 (1:Int) f.1)),f,())
   else some (a2O x,(0:Int),f,()))=some (a2O x,b2M f.1 (a2O x) (a1h f),f,()):=by
 have hr:¬ f.1<0:=by have:=hf.rate;omega
 have hp:=c1W hf.rate;have hg:=d2c hf.rate (x:=1) (by omega);rw[a61]at hg;rcases b6s (a2O x-a1h f)with⟨h1,h2⟩|⟨h1,h2⟩|⟨h1,h2⟩;have h3:a2O x > a1h f:=by omega
 simp only[h3,hr,decide_true,decide_false,cT,cF,b2M,h2,a61,hg];have h3:¬ a2O x > a1h f:=by omega
 have h4:a2O x<a1h f:=by omega
 simp only[h3,h4,hr,decide_true,decide_false,cT,cF,b2M,h2,hg];rw[a0g (by omega)];congr 3;omega;have h3:¬ a2O x > a1h f:=by omega
 have h4:¬ a2O x<a1h f:=by omega
 simp only[h3,h4,decide_false,cF,b2M,h2,Int.zero_mul]
theorem d3A{l z:List Int}{i:Nat}(hi:i<l.length)(hz:z.length=l.length):(z.take i++l.drop i).set i (z[i]'(by omega))=z.take (i+1)++l.drop (i+1):=by
 have h1:(z.take i).length=i:=by rw[a46];omega
 have h2:z.take (i+1)=z.take i++[z[i]'(by omega)]:=by rw[a59,lG (show i<z.length by omega)];rfl
 rw[a50 _ _ (by omega),h1,a39,a06 hi,a55,h2,aA];rfl
theorem d3B{l z:List Int}{i:Nat}(hi:i<l.length)(hz:z.length=l.length):a03 (z.take i++l.drop i) i 0=l[i]:=by
 have h1:(z.take i).length=i:=by rw[a46];omega
 rw[lD,a41 (by omega),h1,a39,a56,a57,lG hi];rfl
theorem d2d{f:Fil}(hf:FilOk f){i:Nat}(h:i<f.2.1.length):-1048576≤f.2.1[i]∧f.2.1[i]≤1048576:=hf.small _ (a62 h)
theorem c3f{f:Fil}(hf:FilOk f){x1 st:Int}(hst:-256≤st∧st≤256):
  a0j a2N (x1,st,(f.2.2.1.length:Int),(0:Int),f,())=some (x1,(f.1,a25 (b7R st) f.2.1 f.2.2.1,f.2.2),()):=by
 obtain⟨z,hz⟩:∃z,a25 (b7R st) f.2.1 f.2.2.1=z:=⟨_,rfl⟩;have hlen:=hf.len;have hzl:z.length=f.2.1.length:=by rw[←hz];simp;omega
 have hm:=hf.most
 have:=a3W (f:=a2N) (fun i=>(x1,st,(f.2.2.1.length:Int),(i:Int),(f.1,z.take i++f.2.1.drop i,f.2.2),()))
  f.2.2.1.length (b:=(x1,(f.1,z,f.2.2),())) (fun i hi=>by
   have hi1:i<f.2.1.length:=by omega
   have h0:decide ((0:Int)≤(i:Int))=true:=by simp
   have hl1:(z.take i++f.2.1.drop i).length=f.2.1.length:=by simp;omega
   have hl2:decide ((i:Int)<((z.take i++f.2.1.drop i).length:Int))=true:=by rw[hl1];simp;omega
   have hzi:z[i]'(by omega)=b7R st f.2.1[i] f.2.2.1[i]:=by simp only[←hz,a52]
   have hsm:=d2d hf hi1;have hset:=d3A hi1 hzl;rw[hzi]at hset;simp only[a2N,dlt hi,h0,hl2,cT,a08,tN,b7Q hi,d3B hi1 hzl];rcases b6s f.2.2.1[i]with⟨h1,h2⟩|⟨h1,h2⟩|⟨h1,h2⟩;have h3:f.2.2.1[i] > 0:=h1;simp only[b7R,h2,a61]at hset;simp only[h3,decide_true,cT,oB,h0,hl2,a08,tN,a0h (show i<1000000 by omega)];exact congrArg (fun l=>some (Sum.inl (x1,st,(f.2.2.1.length:Int),((i+1:Nat):Int),(f.1,l,f.2.2),()))) hset;have h3:¬ f.2.2.1[i] > 0:=by omega
   have e:f.2.1[i]+-1*st=f.2.1[i]-st:=by omega
   simp only[b7R,h2,e]at hset;simp only[h3,h1,decide_true,decide_false,cT,cF,oB,h0,hl2,a08,tN,a0h (show i<1000000 by omega)];exact congrArg (fun l=>some (Sum.inl (x1,st,(f.2.2.1.length:Int),((i+1:Nat):Int),(f.1,l,f.2.2),()))) hset;have h3:¬ f.2.2.1[i] > 0:=by omega
   have h4:¬ f.2.2.1[i]<0:=by omega
   have e:W (f.2.1[i]+0*st)=f.2.1[i]:=by rw[Int.zero_mul,Int.add_zero];exact a0g (by omega)
   simp only[b7R,h2,e]at hset;simp only[h3,h4,decide_false,cF,oB,h0,hl2,cT,a08,tN,a0h (show i<1000000 by omega)];exact congrArg (fun l=>some (Sum.inl (x1,st,(f.2.2.1.length:Int),((i+1:Nat):Int),(f.1,l,f.2.2),()))) hset)
  (by
   have e1:z.take f.2.2.1.length=z:=List.take_of_length_le (by omega);have e2:f.2.1.drop f.2.2.1.length=[]:=a47 (by omega);simp[a2N,e1,e2])
 simp only[nZ,List.take_zero,a32,a09]at this;rw[hz];exact this
theorem c8I{f:Fil}(hf:FilOk f)(x g:Int):-256≤b2M f.1 x g∧b2M f.1 x g≤256:=by
 have hp:=c1W hf.rate;unfold b2M;rcases b6s (x-g)with⟨-,h2⟩|⟨-,h2⟩|⟨-,h2⟩<;>rw[h2]<;>omega
theorem b8z{f:Fil}(hf:FilOk f)(x:Int):a3H (f,x)=some (b3Z f x):=by
 unfold a3H;have hs:=c5W hf x;simp only[a5C,oB,a6A hf];have hs':(bif decide (a3Z (a2K x (-1073741824)) 1073741823 > a1h f)then bif decide (f.1<0)then(none:Option (Int×Int×Fil×Unit))else some (a3Z (a2K x (-1073741824)) 1073741823,a0y .i64 (1:Int) f.1,f,())
   else bif decide (a3Z (a2K x (-1073741824)) 1073741823<a1h f)then bif decide (f.1<0)then none else some (a3Z (a2K x (-1073741824)) 1073741823,wrap .i64 (0-(a0y .i64 (1:Int) f.1)),f,())
   else some (a3Z (a2K x (-1073741824)) 1073741823,(0:Int),f,()))=_:=hs
 rw[hs'];simp only[oB,c3f hf (c8I hf _ _)];have h1:f.2.2.1.length≥1:=by have:=hf.pos;have:=hf.len;omega
 have h2:decide ((1:Int)≤((f.2.2.1.length:Nat):Int))=true:=by simp;omega
 have e:b3F f.2.2.1 1 (f.2.2.1.length-1) f.2.2.1=f.2.2.1.take 1++f.2.2.1.take (f.2.2.1.length-1):=by
  unfold b3F;rw[a48 (by omega),a47 (by omega),a63]
 have hl:(f.2.2.1.take 1++f.2.2.1.take (f.2.2.1.length-1)).length=f.2.2.1.length:=by simp;omega
 have h3:decide ((0:Int)<(((f.2.2.1.take 1++f.2.2.1.take (f.2.2.1.length-1)).length:Nat):Int))=true:=by rw[hl];simp;omega
 simp only[h2,cT,e,h3];congr 1;have e2:(f.2.2.1.take 1++f.2.2.1.take (f.2.2.1.length-1)).set 0 (a2O x)=a2O x::f.2.2.1.take (f.2.2.1.length-1):=by
  cases hc:f.2.2.1 with
  |nil=>rw[hc]at h1;simp at h1
  |cons a l=>simp
 rw[e2];rfl
end Go.Ab
namespace Go.Ab
@[reducible] def Stg:Type:=Int×(Int×Unit)
theorem a8A{l:List Int}(h:short l):a1f l=some l:=by
 have h1:lim (0+l.length)=true:=a1u (by unfold short at h;omega);unfold a1f b4A;rw[h1,cT]
def b1u(s:Stg):Fil:=(s.2.1,a00 s.1.toNat 0,a00 s.1.toNat 0,())
theorem c9m{s:Stg}(h:stageB s=true):FilOk (b1u s):=by
 simp only[stageB,bA,dT]at h;refine⟨by simp[b1u],by simp[b1u];omega,by simp[b1u];omega,⟨h.2.2.1,h.2.2.2⟩,fun x hx=>?_⟩;simp only[b1u,List.mem_replicate]at hx;omega
theorem b4Y{s:Stg}(h:stageB s=true):a9y s=some (b1u s,0):=by
 have h':=h;simp only[stageB,bA,dT]at h';unfold a9y;have h1:decide ((0:Int)≤s.1)=true:=by simp;omega
 have h2:decide (s.1≤s.1)=true:=by simp
 have h3:lim s.1.toNat=true:=a1u (by omega);simp only[b1Y,h,oB,bT,cF,h1,h2,h3,a08,cT];rfl
def stO:List Int→List Int→Fil→Option (List Int)
 | [],done,_=>some done
 |r::rs,done,f=>bif a0b (W (a1h f+r))then stO rs (done++[W (a1h f+r)]) (b3Z f (W (a1h f+r)))else none
theorem b7S:∀(l done:List Int)(f:Fil){r},stO l done f=some r→r.length=done.length+l.length
 | [],done,f,r,h=>by simp only[stO,sj]at h;rw[←h];simp
 |x::l,done,f,r,h=>by
  simp only[stO]at h;cases hw:a0b (W (a1h f+x))with
  |true=>rw[hw]at h;rw[b7S l _ _ h];simp;omega
  |false=>rw[hw]at h;cases h
theorem b5C{done row:List Int}{i:Nat}(hd:done.length=i)(h:i<row.length):a03 (done++row.drop i) i 0=row[i]:=by
 rw[lD,a41 (by omega),hd,a39,a56,a57,lG h];rfl
theorem c7t{done row:List Int}{i:Nat}(hd:done.length=i)(h:i<row.length)(y:Int):(done++row.drop i).set i y=(done++[y])++row.drop (i+1):=by
 rw[a50 _ _ (by omega),hd,a39,a06 h,a55,aA];rfl
theorem b5D{row b4:List Int}{b5:Int}(hs:short row):∀(k i:Nat)(done:List Int)(f:Fil),i+k=row.length→done.length=i→FilOk f→
  ∃z,a0j a5D ((row.length:Int),(i:Int),b4,b5,done++row.drop i,f,())=some z∧
   match stO (row.drop i) done f with
   |some r=>z=.inl (b4,b5,r,())
   |none=>∃q,z=.inr (([]:List Int),(6:Int),q,())
 |0,i,done,f,h,hd,hf=>by
  obtain rfl:i=row.length:=by omega
  rw[a33,a63];exact⟨_,a0q (b:=Sum.inl (b4,b5,done,())) (by simp[a5D]),rfl⟩
 |k+1,i,done,f,h,hd,hf=>by
  have hi:i<row.length:=by omega
  have hs':row.length<1000000:=hs;have h0:decide ((0:Int)≤(i:Int))=true:=by simp
  have hl:(done++row.drop i).length=row.length:=by simp;omega
  have h1:decide ((i:Int)<(((done++row.drop i).length:Nat):Int))=true:=by rw[hl];simp;omega
  have hst:stO (row.drop i) done f=bif a0b (W (a1h f+row[i]))then stO (row.drop (i+1)) (done++[W (a1h f+row[i])]) (b3Z f (W (a1h f+row[i])))else none:=by
   rw[a06 hi];rfl
  rw[hst];cases hw:a0b (W (a1h f+row[i]))with
  |true=>
   rw[a0t (s':=((row.length:Int),((i+1:Nat):Int),b4,b5,(done++[W (a1h f+row[i])])++row.drop (i+1),b3Z f (W (a1h f+row[i])),())) (by
    simp only[a5D,dlt hi,h0,h1,cT,a08,a6A hf,oB,tN,b5C hd hi,a5u,hw,bT,cF,b8z hf,c7t hd hi,a0h (show i<1000000 by omega)])]
   exact b5D hs k (i+1) _ _ (by omega) (by simp;omega) (c7s hf _)
  |false=>
   exact⟨_,a0q (b:=Sum.inr (([]:List Int),(6:Int),done++row.drop i,())) (by
    simp only[a5D,dlt hi,h0,h1,cT,a08,a6A hf,oB,tN,b5C hd hi,a5u,hw,a18]),_,rfl⟩
def lO:List Stg→List Int→Option (List Int)
 | [],row=>some row
 |s::r,row=>match stO row [] (b1u s)with
  |some row'=>lO r row'
  |none=>none
theorem c8J{st:List Stg}{s:Stg}{k:Int}{b4:List Int}{row:List Int}(h:stageB s=true)(hs:short row):
  ∃z,a7U k s (st,b4,(0:Int),row,())=some z∧match stO row [] (b1u s)with
   |some r=>z=.inl (st,b4,(0:Int),r,())
   |none=>∃q,z=.inr (.ret,st,([]:List Int),(6:Int),q,()):=by
 obtain⟨z,h1,h2⟩:=b5D (b4:=b4) (b5:=0) hs row.length 0 [] (b1u s) (by omega) rfl (c9m h);simp only[nZ,a32,a09]at h1 h2;unfold a7U;have hne:((0:Int) != 0)=false:=rfl;simp only[b4Y h,oB,hne,cF,h1];cases hst:stO row [] (b1u s)with
 |some r=>
  rw[hst]at h2;simp only[]at h2;subst h2;exact⟨_,rfl,rfl⟩
 |none=>
  rw[hst]at h2;obtain⟨q,rfl⟩:=h2;exact⟨_,rfl,q,rfl⟩
theorem c1l{st l:List Stg}{b4:List Int}(hl:∀s∈l,stageB s=true):∀(n:Nat)(row:List Int),n≤l.length→short row→
  ∃z,a5A a7U l n (st,b4,(0:Int),row,())=some z∧match lO (l.take n).reverse row with
   |some r=>z=.inl (st,b4,(0:Int),r,())
   |none=>∃q,z=.inr (.ret,st,([]:List Int),(6:Int),q,())
 |0,row,_,_=>⟨_,rfl,rfl⟩
 |n+1,row,hn,hs=>by
  have hlt:n<l.length:=by omega
  obtain⟨z,h1,h2⟩:=c8J (st:=st) (k:=(n:Int)) (b4:=b4) (hl _ (a62 hlt)) hs;have ht:(l.take (n+1)).reverse=l[n]::(l.take n).reverse:=by rw[a59,lG hlt];simp
  simp only[a5A,lG hlt,h1,ht,lO];cases hst:stO row [] (b1u l[n])with
  |some r=>
   rw[hst]at h2;simp only[]at h2;subst h2;exact c1l hl n r (by omega) (by have:=b7S _ _ _ hst;unfold short at hs⊢;simp at this;omega)
  |none=>
   rw[hst]at h2;obtain⟨q,rfl⟩:=h2;exact⟨_,rfl,q,rfl⟩
def b3i(rest:List Int)(st:List Stg):Option (List Int):=bif rest.all a0b then lO st.reverse rest else none
theorem c5X{rest:List Int}{st:List Stg}(hl:a9D st=true)(hr:rest.length<100000):b1d (rest,st)=some (a3e (b3i rest st)):=by
 have hl':=hl;simp only[a9D,bA,dT]at hl';have hss:short st:=by unfold short;omega
 have hsr:short rest:=by unfold short;omega
 unfold b1d;simp only[b4V hss,hl,oB,bT,cF,b4U hsr,b3i];cases hw:rest.all a0b with
 |false=>rfl
 |true=>
  obtain⟨z,h1,h2⟩:=c1l (st:=st) (b4:=[]) (lA.1 hl'.2) st.length rest (a40 _) hsr;rw[a60]at h2;simp only[bT,cF,cT,a8A hsr,oB,a1u hss,h1];cases hst:lO st.reverse rest with
  |some r=>
   rw[hst]at h2;simp only[]at h2;subst h2;rfl
  |none=>
   rw[hst]at h2;obtain⟨q,rfl⟩:=h2;rfl
end Go.Ab
namespace Go.Ab
open IntKind(wrap)
def a5Z(n warm:Int):Bool:=decide (1≤n)&&(decide (n≤4096)&&(decide (0≤warm)&&decide (warm≤n)))
theorem b4Z(n warm:Int):a7A (n,warm)=some (a5Z n warm):=by
 unfold a7A a5Z
 by_cases h1:1≤n<;>by_cases h2:n≤4096<;>by_cases h3:0≤warm<;>simp[h1,h2,h3]
theorem d6l{o:Nat}(h:o≤8):1≤2^o∧2^o≤256:=by
 have:o=0∨o=1∨o=2∨o=3∨o=4∨o=5∨o=6∨o=7∨o=8:=by omega
 rcases this with e|e|e|e|e|e|e|e|e<;>rw[e]<;>decide
theorem c7u{N o:Nat}(h:o≤64):a0F .i64 (N:Int) (o:Int)=((N / 2^o:Nat):Int):=by
 unfold a0F;show Int.fdiv (N:Int) (2^(min (o:Int).toNat 64))=_;rw[tN,a48 h,Int.fdiv_eq_ediv_of_nonneg _ (Int.le_of_lt (Int.pow_pos (by decide))),Int.natCast_ediv,a64];rfl
theorem c1X{N o:Nat}(h:o≤64)(hs:N*2^o<9223372036854775808):a0y .i64 (N:Int) (o:Int)=((N*2^o:Nat):Int):=by
 unfold a0y;show wrap .i64 ((N:Int)*2^(min (o:Int).toNat 64))=_;rw[tN,a48 h];have e:(N:Int)*2^o=((N*2^o:Nat):Int):=by rw[Int.natCast_mul,a64];rfl
 rw[e];exact a0g (by omega)
def b7d(o N:Nat)(warm:Int):List Int:=
 if N%2^o=0∧warm≤((N / 2^o:Nat):Int)then(((N / 2^o:Nat):Int)-warm)::a00 (2^o-1) ((N / 2^o:Nat):Int)else[]
def a1z(order n warm:Int):List Int:=bif a5Z n warm&&(decide (0≤order)&&decide (order≤8))then b7d order.toNat n.toNat warm else[]
theorem a2t(order n warm:Int):a3x (order,n,warm)=some (a1z order n warm):=by
 unfold a3x a1z;simp only[b4Z,oB];cases hr:a5Z n warm with
 |false=>rfl
 |true=>
  simp only[a5Z,bA,dT]at hr;simp only[bT,cF,a17]
  by_cases h1:order<0
  have:¬ 0≤order:=by omega
  simp[h1,this]
  by_cases h2:order > 8
  have:¬ order≤8:=by omega
  simp[h1,h2,this];obtain⟨o,rfl⟩:=a23 (show 0≤order by omega);obtain⟨N,rfl⟩:=a23 (show 0≤n by omega);have ho:o≤8:=by omega
  have hN:N≤4096:=by omega
  have hp:=d6l ho;have hle:N / 2^o*2^o≤N:=Nat.div_mul_le_self N _;have g0:(0:Int)≤(o:Int):=by omega
  have g8:(o:Int)≤8:=by omega
  simp only[h1,h2,g0,g8,decide_true,decide_false,cF,cT,a08,oB,c7u (N:=N) (show o≤64 by omega),c1X (N:=N / 2^o) (show o≤64 by omega) (by omega),tN];have hmod:=Nat.div_add_mod N (2^o);rw[Nat.mul_comm]at hmod
  by_cases hm:N%2^o=0
  have e1:(((N / 2^o*2^o:Nat):Int) != (N:Int))=false:=by rw[show N / 2^o*2^o=N by omega];simp
  by_cases hw:warm≤((N / 2^o:Nat):Int)
  have e2:decide (((N / 2^o:Nat):Int)<warm)=false:=decide_eq_false (Int.not_lt.2 hw);have e3:wrap .i64 (((N / 2^o:Nat):Int)-warm)=((N / 2^o:Nat):Int)-warm:=a0g (by have:=Nat.div_le_self N (2^o);omega);simp only[e1,e2,e3,cF,oB,b7d,hm,hw,and_self,if_true];have hg:a0y .i64 (1:Int) (o:Int)=((2^o:Nat):Int):=by have:=c1X (N:=1) (show o≤64 by omega) (by omega);simpa using this
  have:=a3W (f:=a6M) (fun i=>((o:Int),((N / 2^o:Nat):Int),(((N / 2^o:Nat):Int)-warm)::a00 i ((N / 2^o:Nat):Int),())) (2^o-1)
   (b:=((((N / 2^o:Nat):Int)-warm)::a00 (2^o-1) ((N / 2^o:Nat):Int),())) (fun i hi=>by
    have hd:decide ((((((N / 2^o:Nat):Int)-warm)::a00 i ((N / 2^o:Nat):Int)).length:Int)<((2^o:Nat):Int))=true:=by
     rw[lC,a31];simp only[dT];omega
    have hlim:lim (((((N / 2^o:Nat):Int)-warm)::a00 i ((N / 2^o:Nat):Int)).length+1)=true:=a1u (by rw[lC,a31];omega);have ea:a00 i ((N / 2^o:Nat):Int)++[((N / 2^o:Nat):Int)]=a00 (i+1) ((N / 2^o:Nat):Int):=by rw[←a53]
    simp only[a6M,h1,decide_false,cF,hg,hd,cT,hlim,a51,a16,ea])
   (by
    have hd:decide ((((((N / 2^o:Nat):Int)-warm)::a00 (2^o-1) ((N / 2^o:Nat):Int)).length:Int)<((2^o:Nat):Int))=false:=by
     rw[lC,a31];simp only[decide_eq_false_iff_not];omega
    simp only[a6M,h1,decide_false,cF,hg,hd])
  simp only[List.replicate_zero]at this;simp only[this,oB];have e2:decide (((N / 2^o:Nat):Int)<warm)=true:=decide_eq_true (Int.not_le.1 hw);simp only[e1,e2,cF,cT,oB,b7d,hw,and_false,if_false];have e1:(((N / 2^o*2^o:Nat):Int) != (N:Int))=true:=by simp only[bne_iff_ne,ne_eq];intro hc;have:=Int.ofNat.inj hc;omega
  simp only[e1,cT,oB,b7d,hm,false_and,if_false]
@[reducible] def Prt:Type:=Int×((List Int)×Unit)
def kB(k:Int):Bool:=(decide (0≤k)&&decide (k≤25)) || (k==31)
def a5Q(p:Prt)(n warm:Int):Bool:=!((a1z p.1 n warm).length==0)&&((a1z p.1 n warm).length==p.2.1.length&&p.2.1.all kB)
theorem b5a{p:Prt}{n warm:Int}(hk:short p.2.1):a9x (p,n,warm)=some (a5Q p n warm):=by
 have:=a1l (f:=a3M) p.2.1 (fun i=>(p.2.1,(p.2.1.length:Int),(i:Int),())) kB (bt:=Sum.inl ()) (bf:=Sum.inr (false,()))
  (fun i h hp=>by
   simp only[kB,a65,bA,dT,beq_iff_eq]at hp
   by_cases h1:p.2.1[i]<0
   omega
   by_cases h2:p.2.1[i] > 25
   have h3:p.2.1[i]=31:=by omega
   have h4:(p.2.1[i] != 31)=false:=by rw[h3];rfl
   simp[a3M,a0c h,h,h1,h2,h4,a0h (a22 h hk)];simp[a3M,a0c h,h,h1,h2,a0h (a22 h hk)])
  (fun i h hp=>by
   have hp:¬ (kB p.2.1[i]=true):=by rw[hp];simp
   simp only[kB,a65,bA,dT,beq_iff_eq]at hp;have h3:p.2.1[i]≠31:=fun e=>hp (.inr e);have h4:(p.2.1[i] != 31)=true:=by simp[h3]
   by_cases h1:p.2.1[i]<0
   simp[a3M,a0c h,h,h1,h4];have h2:p.2.1[i] > 25:=by omega
   simp[a3M,a0c h,h,h1,h2,h4])
  (by simp[a3M])
 simp only[nZ]at this;unfold a9x a5Q;simp only[a2t,oB]
 by_cases h0:(a1z p.1 n warm).length=0
 have e:((((a1z p.1 n warm).length:Nat):Int)==0)=true:=by simp[h0]
 simp[e,h0];have e:((((a1z p.1 n warm).length:Nat):Int)==0)=false:=by simp only[beq_eq_false_iff_ne,ne_eq];omega
 have e':((a1z p.1 n warm).length==0)=false:=by simp only[beq_eq_false_iff_ne,ne_eq];omega
 simp only[e,e',cF,oB,a18,a17]
 by_cases h1:(a1z p.1 n warm).length=p.2.1.length
 have e1:(((p.2.1.length:Nat):Int) != (((a1z p.1 n warm).length:Nat):Int))=false:=by simp[h1]
 have e2:((a1z p.1 n warm).length==p.2.1.length)=true:=by simp[h1]
 simp only[e1,e2,cF,this,oB,a17];cases p.2.1.all kB<;>rfl;have e1:(((p.2.1.length:Nat):Int) != (((a1z p.1 n warm).length:Nat):Int))=true:=by simp only[bne_iff_ne,ne_eq];omega
 have e2:((a1z p.1 n warm).length==p.2.1.length)=false:=by simp only[beq_eq_false_iff_ne,ne_eq];exact h1
 simp only[e1,e2,cT,a67]
end Go.Ab
namespace Go.Ab
open IntKind(wrap)
@[reducible] def Sub:Type:=Int×(Int×(Int×(Int×(Int×((List Int)×((List Int)×((List Stg)×((List Int)×(Prt×((List Int)×Unit))))))))))
structure SmallS (s:Sub):Prop where
 coefs:s.2.2.2.2.2.1.length≤40
 taps:s.2.2.2.2.2.2.1.length=3
 stages:s.2.2.2.2.2.2.2.1.length≤6
 warm:s.2.2.2.2.2.2.2.2.1.length≤5000
 rest:s.2.2.2.2.2.2.2.2.2.2.1.length≤5000
 ks:s.2.2.2.2.2.2.2.2.2.1.2.1.length≤300
theorem b2a(x y:List Int):eqT (.arr 3 (.int .i64)) x y=decide (x=y):=by
 show((a25 (fun(a b:Int)=>a==b) x y).all id&&x.length==y.length)=_
 induction x generalizing y with
 |nil=>cases y<;>simp
 |cons a x ih=>
  cases y with
  |nil=>simp
  |cons b y=>
   have:=ih y
   simp only[List.zipWith_cons_cons,a42,lC,id];rw[Bool.and_assoc,show((x.length+1==y.length+1):Bool)=(x.length==y.length)from by simp,this]
   by_cases h1:a=b<;>by_cases h2:x=y<;>simp[h1,h2]
theorem b4a{l:List Int}(h:short l):a4h l=some l:=a8A h
theorem c1m{l:List Stg}(h:short l):a1t l=some l:=by
 have h1:lim (0+l.length)=true:=a1u (by unfold short at h;omega);unfold a1t b4A;rw[h1,cT]
def a4k(k:Int)(s:Sub)(n:Int):Prop:=
 k=0∨k=1∨(k=2∧0≤s.2.2.1∧s.2.2.1≤4∧s.2.2.1≤n)∨(k=3∧a9p s.2.2.2.2.2.1 s.2.2.2.1=true∧(s.2.2.2.2.2.1.length:Int)≤n)∨
  (k=4∧a9p s.2.2.2.2.2.1 s.2.2.2.1=true∧(s.2.2.2.2.2.1.length:Int)≤n∧b2L s.2.2.2.2.1 s.2.2.2.2.2.2.1=true)∨
  (k=5∧0<s.2.2.2.2.2.2.2.1.length∧a9D s.2.2.2.2.2.2.2.1=true)
open Classical in
def b5b (k:Int) (s:Sub) (n:Int):Bool:=decide (a4k k s n)
theorem b7e{s:Sub}(h:SmallS s)(k n:Int):a8p (k,s,n)=some (b5b k s n):=by
 have hc:short s.2.2.2.2.2.1:=by have:=h.coefs;unfold short;omega
 have hst:short s.2.2.2.2.2.2.2.1:=by have:=h.stages;unfold short;omega
 unfold a8p b5b a4k
 by_cases k0:k=0
 subst k0;simp
 by_cases k1:k=1
 subst k1;simp;have e0:(k==0)=false:=by simp[k0]
 have e1:(k==1)=false:=by simp[k1]
 simp only[e0,e1,cF,oB]
 by_cases k2:k=2
 subst k2
 by_cases h1:0≤s.2.2.1<;>by_cases h2:s.2.2.1≤4<;>simp[h1,h2]
 by_cases k3:k=3
 subst k3;cases hl:a9p s.2.2.2.2.2.1 s.2.2.2.1<;>simp[b0b hc,hl]
 by_cases k4:k=4
 subst k4;cases hl:a9p s.2.2.2.2.2.1 s.2.2.2.1<;>by_cases h2:(s.2.2.2.2.2.1.length:Int)≤n<;>simp[b0b hc,b6r h.taps,hl,h2]
 by_cases k5:k=5
 subst k5
 by_cases h1:0<s.2.2.2.2.2.2.2.1.length
 simp[b4V hst,h1];simp[h1];have e2:(k==2)=false:=by simp[k2]
 have e3:(k==3)=false:=by simp[k3]
 have e4:(k==4)=false:=by simp[k4]
 have e5:(k==5)=false:=by simp[k5]
 simp only[e2,e3,e4,e5,cF];simp[k0,k1,k2,k3,k4,k5]
def a2u(s:Sub)(n:Int):Int:=if s.1=0 then 1 else if s.1=1 then n else if s.1=2 then s.2.2.1 else if s.1=3∨s.1=4 then(s.2.2.2.2.2.1.length:Int)else 0
theorem b0D(s:Sub)(n:Int):a4T (s,n)=some (a2u s n):=by
 obtain⟨k,s⟩:=s;unfold a4T a2u
 by_cases k0:k=0
 subst k0;simp
 by_cases k1:k=1
 subst k1;simp
 by_cases k2:k=2
 subst k2;simp
 by_cases k3:k=3
 subst k3;simp
 by_cases k4:k=4
 subst k4;simp;have e0:(k==0)=false:=by simp[k0]
 have e1:(k==1)=false:=by simp[k1]
 have e2:(k==2)=false:=by simp[k2]
 have e3:(k==3)=false:=by simp[k3]
 have e4:(k==4)=false:=by simp[k4]
 simp[k0,k1,k2,k3,k4,e0,e1,e2,e3,e4]
def b7f(s:Sub):Prop:=
 (s.1≠2→s.2.2.1=0)∧(s.1≠3∧s.1≠4→s.2.2.2.1=0)∧(s.1≠4→s.2.2.2.2.1=0)∧(s.1≠4→s.2.2.2.2.2.2.1=[0,0,0])∧(s.1≠3∧s.1≠4→s.2.2.2.2.2.1=[])∧(s.1≠5→s.2.2.2.2.2.2.2.1=[])
open Classical in
def b7g (s:Sub):Bool:=decide (b7f s)
theorem b0q{c x:Bool}:(bif c then some x else some false)=some (c&&x):=by cases c<;>rfl
theorem c4r{α:Type}(l:List α):(((l.length:Nat):Int)==0)=decide (l=[]):=by
 cases l with
 |nil=>rfl
 |cons a l=>simp;omega
theorem c4s(x:Int):(x==0)=decide (x=0):=rfl
theorem c7v{s:Sub}(h:SmallS s):b2o s=some (b7g s):=by
 have hc:short s.2.2.2.2.2.1:=by have:=h.coefs;unfold short;omega
 have hst:short s.2.2.2.2.2.2.2.1:=by have:=h.stages;unfold short;omega
 obtain⟨k,w,o,sh,lag,c,t,st,wm,p,r,u⟩:=s;simp only at hc hst;unfold b2o a6s b7g b7f;have ht:(a00 3 (0:Int))=[0,0,0]:=rfl
 by_cases k2:k=2
 subst k2;simp[b2a,ht,b0q,c4r,c4s]
 by_cases k4:k=4
 subst k4;simp[b2a,ht,b0q,c4r,c4s,b4a hc]
 by_cases k3:k=3
 subst k3;simp[b2a,ht,b0q,c4r,c4s,b4a hc]
 by_cases k5:k=5
 subst k5;simp[b2a,ht,b0q,c4r,c4s,c1m hst];have e2:(k==2)=false:=by simp[k2]
 have e3:(k==3)=false:=by simp[k3]
 have e4:(k==4)=false:=by simp[k4]
 have e5:(k==5)=false:=by simp[k5]
 simp[e2,e3,e4,e5,k2,k3,k4,k5,b2a,ht,b0q,c4r,c4s]
theorem a6G(k:Int):a6q k=some (decide (k≠0∧k≠1)):=by
 unfold a6q
 by_cases h0:k=0
 subst h0;rfl
 by_cases h1:k=1
 subst h1;rfl;have e:(k != 0)=true:=by simp[h0]
 simp[e,h0,h1]
def a1F(s:Sub)(n:Int):Prop:=
 1≤n∧n≤4096∧a4k s.1 s n∧b7f s∧0≤s.2.1∧s.2.1≤30∧(s.1=0→s.2.1=0)∧(s.2.2.2.2.2.2.2.2.1.length:Int)=a2u s n∧s.2.2.2.2.2.2.2.2.1.all a0b=true∧s.2.2.2.2.2.2.2.2.2.2.1.all a0b=true∧
  (s.1=0∨s.1=1→s.2.2.2.2.2.2.2.2.2.2.1=[]∧s.2.2.2.2.2.2.2.2.2.1.1=0∧s.2.2.2.2.2.2.2.2.2.1.2.1=[])∧
  (s.1≠0∧s.1≠1→(s.2.2.2.2.2.2.2.2.2.2.1.length:Int)=n-a2u s n∧a5Q s.2.2.2.2.2.2.2.2.2.1 n (a2u s n)=true)
theorem c8K{s:Sub}(h:SmallS s){n:Int}(h1:1≤n)(h2:n≤4096)(hf:a4k s.1 s n):0≤a2u s n∧a2u s n≤4096:=by
 have hc:=h.coefs;unfold a2u;rcases hf with k|k|⟨k,h3⟩|⟨k,h3⟩|⟨k,h3⟩|⟨k,h3⟩<;>simp[k]<;>omega
open Classical in
theorem d2e {s:Sub} (h:SmallS s) (n:Int):b0Y (s,n)=some (decide (a1F s n)):=by
 have hw:short s.2.2.2.2.2.2.2.2.1:=by have:=h.warm;unfold short;omega
 have hr:short s.2.2.2.2.2.2.2.2.2.2.1:=by have:=h.rest;unfold short;omega
 have hk:short s.2.2.2.2.2.2.2.2.2.1.2.1:=by have:=h.ks;unfold short;omega
 unfold b0Y
 by_cases h1:1≤n
 rotate_left
 ·have e1:decide (n<1)=true:=by simp;omega
  have:¬ a1F s n:=fun hp=>h1 hp.1
  simp only[e1,cT,oB,this,decide_false]
 have e1:decide (n<1)=false:=by simp;omega
 by_cases h2:n≤4096
 rotate_left
 ·have e2:decide (n > 4096)=true:=by simp;omega
  have:¬ a1F s n:=fun hp=>h2 hp.2.1
  simp only[e1,e2,cT,cF,oB,this,decide_false]
 have e2:decide (n > 4096)=false:=by simp;omega
 by_cases h3:a4k s.1 s n
 rotate_left
 ·have e3:b5b s.1 s n=false:=by simp[b5b,h3]
  have:¬ a1F s n:=fun hp=>h3 hp.2.2.1
  simp only[e1,e2,b7e h,e3,cT,cF,a18,oB,this,decide_false]
 have e3:b5b s.1 s n=true:=by simp[b5b,h3]
 by_cases h4:b7f s
 rotate_left
 ·have e4:b7g s=false:=by simp[b7g,h4]
  have:¬ a1F s n:=fun hp=>h4 hp.2.2.2.1
  simp only[e1,e2,b7e h,e3,c7v h,e4,cT,cF,a18,bT,oB,this,decide_false]
 have e4:b7g s=true:=by simp[b7g,h4]
 simp only[e1,e2,b7e h,e3,c7v h,e4,cF,bT,oB]
 by_cases h5:0≤s.2.1
 rotate_left
 ·have e5:decide (s.2.1<0)=true:=by simp;omega
  have:¬ a1F s n:=fun hp=>h5 hp.2.2.2.2.1
  simp only[e5,cT,oB,this,decide_false]
 have e5:decide (s.2.1<0)=false:=by simp;omega
 by_cases h6:s.2.1≤30
 rotate_left
 ·have e6:decide (s.2.1 > 30)=true:=by simp;omega
  have:¬ a1F s n:=fun hp=>h6 hp.2.2.2.2.2.1
  simp only[e5,e6,cT,cF,oB,this,decide_false]
 have e6:decide (s.2.1 > 30)=false:=by simp;omega
 simp only[e5,e6,cF]
 by_cases h7:s.1=0→s.2.1=0
 rotate_left
 ·have h7a:s.1=0:=Classical.byContradiction fun hc=>h7 fun e=>absurd e hc
  have h7b:(s.2.1 != 0)=true:=by
   simp only[bne_iff_ne,ne_eq];intro e;exact h7 fun _=>e
  have e7:(s.1==0)=true:=by simp[h7a]
  have:¬ a1F s n:=fun hp=>h7 hp.2.2.2.2.2.2.1
  simp only[e7,h7b,cT,oB,this,decide_false]
 have e7:(bif s.1==0 then some (n,(s.2.1 != 0,(s,())))else some (n,(false,(s,()))))=some (n,(false,(s,()))):=by
  by_cases k0:s.1=0
  ·simp[k0,h7 k0]
  ·have:(s.1==0)=false:=by simp[k0]
   rw[this];rfl
 simp only[e7,oB,cF,b0D]
 by_cases h8:(s.2.2.2.2.2.2.2.2.1.length:Int)=a2u s n
 rotate_left
 ·have e8:(((s.2.2.2.2.2.2.2.2.1.length:Nat):Int) != a2u s n)=true:=by simp only[bne_iff_ne,ne_eq];exact h8
  have:¬ a1F s n:=fun hp=>h8 hp.2.2.2.2.2.2.2.1
  simp only[e8,cT,oB,this,decide_false]
 have e8:(((s.2.2.2.2.2.2.2.2.1.length:Nat):Int) != a2u s n)=false:=by rw[h8];simp
 simp only[e8,cF,a6y hw,a6y hr,oB]
 cases h9:s.2.2.2.2.2.2.2.2.1.all a0b with
 |false=>
  have:¬ a1F s n:=fun hp=>by rw[hp.2.2.2.2.2.2.2.2.1]at h9;cases h9
  simp only[a18,cT,oB,this,decide_false]
 |true=>
  cases h10:s.2.2.2.2.2.2.2.2.2.2.1.all a0b with
  |false=>
   have:¬ a1F s n:=fun hp=>by rw[hp.2.2.2.2.2.2.2.2.2.1]at h10;cases h10
   simp only[a18,bT,cT,cF,oB,this,decide_false]
  |true=>
   simp only[bT,cF,oB,a6G]
   have hwr:=c8K h h1 h2 h3
   by_cases k01:s.1≠0∧s.1≠1
   ·have e11:wrap .i64 (n-a2u s n)=n-a2u s n:=a0g (by omega)
    simp only[k01,ne_eq,not_false_eq_true,and_self,decide_true,bT,cF,e11,b5a hk,oB]
    by_cases h11:(s.2.2.2.2.2.2.2.2.2.2.1.length:Int)=n-a2u s n
    ·have e12:(((s.2.2.2.2.2.2.2.2.2.2.1.length:Nat):Int)==n-a2u s n)=true:=by simp[h11]
     simp only[e12,cT]
     congr 1
     rw[a49,dT]
     constructor
     ·intro hp
      exact⟨h1,h2,h3,h4,h5,h6,h7,h8,h9,h10,fun hc=>absurd hc (by omega),fun _=>⟨h11,hp⟩⟩
     ·intro hp;exact(hp.2.2.2.2.2.2.2.2.2.2.2 k01).2
    ·have e12:(((s.2.2.2.2.2.2.2.2.2.2.1.length:Nat):Int)==n-a2u s n)=false:=by simp only[beq_eq_false_iff_ne,ne_eq];exact h11
     have:¬ a1F s n:=fun hp=>h11 (hp.2.2.2.2.2.2.2.2.2.2.2 k01).1
     simp only[e12,cF,this,decide_false]
   ·have k01':s.1=0∨s.1=1:=by omega
    simp only[k01,decide_false,a18,cT,c4r]
    simp only[c4s,b0q]
    congr 1
    rw[a49,dT]
    simp only[bA,dT]
    constructor
    ·rintro⟨g1,g2,g3⟩
     exact⟨h1,h2,h3,h4,h5,h6,h7,h8,h9,h10,fun _=>⟨g1,g2,g3⟩,fun hc=>absurd hc k01⟩
    ·intro hp;exact hp.2.2.2.2.2.2.2.2.2.2.1 k01'
end Go.Ab
namespace Go.Ab
theorem b7T{α:Type}[DecidableEq α](q:α→α→Bool)(hq:∀a b,q a b=decide (a=b)):∀(x y:List α),x.length=y.length→((x.zip y).all fun p=>q p.1 p.2)=decide (x=y)
 | [],[],_=>by simp
 |a::x,b::y,h=>by
  have ih:=b7T q hq x y (by simpa using h);simp only[List.zip_cons_cons,a42];rw[ih,hq]
  by_cases h1:a=b<;>by_cases h2:x=y<;>simp[h1,h2]
theorem a9E{x y:List Int}(h:short x):a3y (x,y)=some (decide (x=y)):=by
 unfold a3y
 by_cases hl:x.length=y.length
 have e:(((x.length:Nat):Int) != ((y.length:Nat):Int))=false:=by rw[hl];simp
 have hz:(x.zip y).length=x.length:=by rw[a66];omega
 have:=a1l (f:=a4Y) (x.zip y) (fun i=>(x,y,(i:Int),())) (fun p=>p.1==p.2) (bt:=Sum.inl ()) (bf:=Sum.inr (false,()))
  (fun i hi hp=>by
   have h1:i<x.length:=by omega
   have h2:i<y.length:=by omega
   rw[a38]at hp;have hp:x[i]=y[i]:=by simpa using hp
   have hne:(x[i] != y[i])=false:=by rw[hp];simp
   simp only[a4Y,dlt h1,cT,a0c h1,a0c h2,oB,hne,cF,a0h (a22 h1 h)])
  (fun i hi hp=>by
   have h1:i<x.length:=by omega
   have h2:i<y.length:=by omega
   rw[a38]at hp;have hne:(x[i] != y[i])=true:=by simpa using hp
   simp only[a4Y,dlt h1,cT,a0c h1,a0c h2,oB,hne])
  (by rw[hz];simp[a4Y])
 simp only[nZ]at this;simp only[e,cF,this,b7T (fun(a b:Int)=>a==b) (fun _ _=>rfl) x y hl];cases decide (x=y)<;>rfl;have e:(((x.length:Nat):Int) != ((y.length:Nat):Int))=true:=by simp only[bne_iff_ne,ne_eq];omega
 have:¬ x=y:=fun hc=>hl (by rw[hc])
 simp only[e,cT,this,decide_false]
theorem c5Y{x y:List Stg}(h:short x):a6S (x,y)=some (decide (x=y)):=by
 have heq:∀a b:Stg,eqT (.pair (.int .i64) (.pair (.int .i64) .unit)) a b=decide (a=b):=by
  rintro⟨a1,a2,⟨⟩⟩ ⟨b1,b2,⟨⟩⟩
  show((a1==b1)&&((a2==b2)&&true))=_
  by_cases h1:a1=b1<;>by_cases h2:a2=b2<;>simp[h1,h2]
 unfold a6S
 by_cases hl:x.length=y.length
 have e:(((x.length:Nat):Int) != ((y.length:Nat):Int))=false:=by rw[hl];simp
 have hz:(x.zip y).length=x.length:=by rw[a66];omega
 have:=a1l (f:=a3I) (x.zip y) (fun i=>(x,y,(i:Int),())) (fun p=>decide (p.1=p.2)) (bt:=Sum.inl ()) (bf:=Sum.inr (false,()))
  (fun i hi hp=>by
   have h1:i<x.length:=by omega
   have h2:i<y.length:=by omega
   rw[a38]at hp;simp only[a3I,dlt h1,cT,a0c h1,a0c h2,oB,heq,hp,bT,cF,a0h (a22 h1 h)])
  (fun i hi hp=>by
   have h1:i<x.length:=by omega
   have h2:i<y.length:=by omega
   rw[a38]at hp;simp only[a3I,dlt h1,cT,a0c h1,a0c h2,oB,heq,hp,a18])
  (by rw[hz];simp[a3I])
 simp only[nZ]at this;simp only[e,cF,this,b7T (fun(a b:Stg)=>decide (a=b)) (fun _ _=>rfl) x y hl];cases decide (x=y)<;>rfl;have e:(((x.length:Nat):Int) != ((y.length:Nat):Int))=true:=by simp only[bne_iff_ne,ne_eq];omega
 have:¬ x=y:=fun hc=>hl (by rw[hc])
 simp only[e,cT,this,decide_false]
open Classical in
theorem d0R {a b:Sub} (h:SmallS a):b0a (a,b)=some (decide (a=b)):=by
 have hc:short a.2.2.2.2.2.1:=by have:=h.coefs;unfold short;omega
 have hst:short a.2.2.2.2.2.2.2.1:=by have:=h.stages;unfold short;omega
 have hw:short a.2.2.2.2.2.2.2.2.1:=by have:=h.warm;unfold short;omega
 have hr:short a.2.2.2.2.2.2.2.2.2.2.1:=by have:=h.rest;unfold short;omega
 have hk:short a.2.2.2.2.2.2.2.2.2.1.2.1:=by have:=h.ks;unfold short;omega
 unfold b0a b1V
 simp only[a9E hc,a9E hw,a9E hr,a9E hk,c5Y hst,b2a,oB,b0q]
 congr 1
 obtain⟨k,w,o,sh,lag,c,t,st,wm,⟨po,ks,⟨⟩⟩,r,⟨⟩⟩:=a
 obtain⟨k',w',o',sh',lag',c',t',st',wm',⟨po',ks',⟨⟩⟩,r',⟨⟩⟩:=b
 rw[a49]
 simp only[bA,dT,beq_iff_eq,pJ,and_true,and_assoc]
theorem d2f{k:Int}{s:Sub}{n:Int}(h:a4k k s n):k=0∨k=1∨k=2∨k=3∨k=4∨k=5:=by
 unfold a4k at h;omega
end Go.Ab
namespace Go.Ab
def c1Y(warm rest:List Int)(o:Int):Option (List Int):=bif warm.all a0b&&rest.all a0b then a4z (a5b o.toNat) rest warm else none
def backP(s:Sub):Option (List Int):=
 if s.1=1 then some s.2.2.2.2.2.2.2.2.1
 else if s.1=2 then c1Y s.2.2.2.2.2.2.2.2.1 s.2.2.2.2.2.2.2.2.2.2.1 s.2.2.1
 else if s.1=3 then b4W s.2.2.2.2.2.2.2.2.1 s.2.2.2.2.2.2.2.2.2.2.1 s.2.2.2.2.2.1 s.2.2.2.1
 else if s.1=4 then(b4W s.2.2.2.2.2.2.2.2.1 s.2.2.2.2.2.2.2.2.2.2.1 s.2.2.2.2.2.1 s.2.2.2.1).bind fun l=>b3Y l s.2.2.2.2.1 s.2.2.2.2.2.2.1
 else b3i s.2.2.2.2.2.2.2.2.2.2.1 s.2.2.2.2.2.2.2.1
def c4t(s:Sub)(n:Int):Option (List Int):=
 if s.1=0 then some (a00 n.toNat (s.2.2.2.2.2.2.2.2.1.getD 0 0))else(backP s).bind (upO s.2.1)
theorem b2N{w r c:List Int}{s:Int}{l}(h:b4W w r c s=some l):l.length=w.length+r.length:=by
 unfold b4W at h;cases hc:(w.all a0b&&r.all a0b)with
 |false=>rw[hc]at h;cases h
 |true=>
  rw[hc]at h;exact(b3W _ r w l (a54.1 hc).1 h).2
theorem c1n{w r:List Int}{o:Int}{l}(h:c1Y w r o=some l):l.length=w.length+r.length:=by
 unfold c1Y at h;cases hc:(w.all a0b&&r.all a0b)with
 |false=>rw[hc]at h;cases h
 |true=>
  rw[hc]at h;exact(b3W _ r w l (a54.1 hc).1 h).2
theorem b9T{r t:List Int}{lag:Int}{l}(h:b3Y r lag t=some l):l.length=r.length:=by
 unfold b3Y at h;cases hc:r.all a0b with
 |false=>rw[hc]at h;cases h
 |true=>
  rw[hc]at h
  have:=(b3W _ r [] l rfl h).2
  simpa using this
theorem c5o:∀(st:List Stg)(r:List Int){l},lO st r=some l→l.length=r.length
 | [],r,l,h=>by simp only[lO,sj]at h;rw[h]
 |s::st,r,l,h=>by
  simp only[lO]at h
  split at h
  rename_i r' hr;rw[c5o st r' h,b7S _ _ _ hr];simp;cases h
theorem b8A{r:List Int}{st:List Stg}{l}(h:b3i r st=some l):l.length=r.length:=by
 unfold b3i at h;cases hc:r.all a0b with
 |false=>rw[hc]at h;cases h
 |true=>rw[hc]at h;exact c5o _ _ h
theorem c7w{s:Sub}(h:SmallS s){l}(hl:backP s=some l):l.length<100000:=by
 have hw:=h.warm;have hr:=h.rest;unfold backP at hl
 split at hl
 simp only[sj]at hl;rw[←hl];omega
 split at hl
 rw[c1n hl];omega
 split at hl
 rw[b2N hl];omega
 split at hl
 obtain⟨l1,h1,h2⟩:=Option.bind_eq_some_iff.1 hl;rw[b9T h2,b2N h1];omega;rw[b8A hl];omega
theorem d2g{s:Sub}{n:Int}(h1:1≤n)(h2:n≤4096)(hw:s.2.2.2.2.2.2.2.2.1.length=1):
  a0j a7j (n,(0:Int),([]:List Int),s,())=some (a00 n.toNat (s.2.2.2.2.2.2.2.2.1.getD 0 0),()):=by
 obtain⟨N,rfl⟩:=a23 (show 0≤n by omega);have hg:a0o s.2.2.2.2.2.2.2.2.1 (0:Int)=some (s.2.2.2.2.2.2.2.2.1.getD 0 0):=c7o (by omega) (by omega)
 have:=a3W (f:=a7j) (fun i=>((N:Int),(i:Int),a00 i (s.2.2.2.2.2.2.2.2.1.getD 0 0),s,())) N
  (b:=(a00 N (s.2.2.2.2.2.2.2.2.1.getD 0 0),())) (fun i hi=>by
   have hlim:lim ((a00 i (s.2.2.2.2.2.2.2.2.1.getD 0 0)).length+1)=true:=a1u (by rw[a31];omega);have ea:a00 i (s.2.2.2.2.2.2.2.2.1.getD 0 0)++[s.2.2.2.2.2.2.2.2.1.getD 0 0]=a00 (i+1) (s.2.2.2.2.2.2.2.2.1.getD 0 0):=by rw[←a53]
   simp only[a7j,dlt hi,cT,hg,oB,hlim,a51,ea,a0h (show i<1000000 by omega)])
  (by simp[a7j])
 simpa using this
theorem d3C(o:Option (List Int)):((a3e o).1,(a3e o).2)=a3e o:=by cases o<;>rfl
theorem c8L{s:Sub}(h:SmallS s){n:Int}(hp:a1F s n):b3O (s,n)=some (a3e (c4t s n)):=by
 have hbl:=fun l (hl:backP s=some l)=>c7w h hl;obtain⟨h1,h2,hf,-,hw0,hw30,-,hlen,hw,hr,-⟩:=hp;have hsr:=h.rest;have hsw:=h.warm;have ht:=h.taps;have hfl:=d2g (s:=s) h1 h2;obtain⟨k,w,o,sh,lag,c,t,st,wm,p,r,u⟩:=s;simp only at *;have up:∀l,l.length<100000→a9z (l,w)=some (a3e (upO w l)):=fun l hl=>c7q hw0 hw30 hl;unfold b3O c4t;rcases hf with k0|k0|⟨k0,g1,g2,g3⟩|⟨k0,g1,g2⟩|⟨k0,g1,g2,g3⟩|⟨k0,g1,g2⟩;subst k0;simp only[a2u]at hlen
 have:=hfl (by simp at hlen;omega)
 simp[this,a3e];subst k0;simp only[backP]at hbl⊢
 have:=up wm (by omega)
 simp[this,d3C]
 ·subst k0;obtain⟨O,rfl⟩:=a23 g1;have g2:(O:Int)≤4:=g2;simp only[a2u]at hlen;have hO:wm.length=O:=by simp at hlen;omega
  have h5:=c5V (warm:=wm) (rest:=r) (o:=O) (by omega) hO (by omega);simp only[backP]at hbl⊢;simp[h5];have e:(bif wm.all a0b&&r.all a0b then a4z (a5b O) r wm else none)=c1Y wm r (O:Int):=rfl;rw[e];cases hl:c1Y wm r (O:Int)with
  |none=>simp[a3e]
  |some l=>simp[a3e,up l (by rw[c1n hl];omega)]
 ·subst k0;simp only[a2u]at hlen;have hO:wm.length=c.length:=by simp at hlen;omega
  have h5:=b7c (rest:=r) g1 hO (by omega);simp only[backP]at hbl⊢;simp[h5];cases hl:b4W wm r c sh with
  |none=>simp[a3e]
  |some l=>simp[a3e,up l (by rw[b2N hl];omega)]
 ·subst k0;simp only[a2u]at hlen;have hO:wm.length=c.length:=by simp at hlen;omega
  have h5:=b7c (rest:=r) g1 hO (by omega);simp only[backP]at hbl⊢;simp[h5];cases hl:b4W wm r c sh with
  |none=>simp[a3e]
  |some l=>
   have hll:=b2N hl;have h6:=c7p (rest:=l) g3 ht (by omega);simp[a3e,h6];cases hl2:b3Y l lag t with
   |none=>simp
   |some l2=>simp[up l2 (by rw[b9T hl2];omega)];cases upO w l2<;>simp[a3e]
 ·subst k0;have h5:=c5X (rest:=r) g2 (by omega);simp only[backP]at hbl⊢;simp[h5];cases hl:b3i r st with
  |none=>simp[a3e]
  |some l=>simp[a3e,up l (by rw[b8A hl];omega)]
open Classical in
def a3q (s:Sub) (n:Int):Option (List Int):=if a1F s n then c4t s n else none
theorem c3g{s:Sub}(h:SmallS s)(n:Int):b3c (s,n)=some (match a3q s n with|some r=>(r,0)|none=>([],1)):=by
 unfold b3c a3q;simp only[d2e h,oB]
 by_cases hp:a1F s n
 simp only[hp,decide_true,bT,cF,c8L h hp,oB,if_true];cases c4t s n<;>simp[a3e];simp only[hp,decide_false,a18,cT,if_false]
theorem c3h{s:Sub}(h:SmallS s)(n:Int):b0z (s,n)=some (a3q s n).isSome:=by
 unfold b0z;simp only[c3g h,oB];cases a3q s n<;>rfl
end Go.Ab
