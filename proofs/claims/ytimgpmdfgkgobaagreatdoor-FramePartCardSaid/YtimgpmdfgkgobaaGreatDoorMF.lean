/- Part of the proof: F, It, PA, QA, QB, QC, QD, QE, QF, QG, QH, QI, QJ, QL, QM, S. Conditions: as each statement tells. -/
import Derived.RangeFuncBound
import Derived.RangeFuncCalls
import Derived.RangeFuncBox
import Derived.WalkKit
import Derived.OwnWalkIn
import Derived.TacticsInMore
import Derived.LoopNIn
import Derived.LoopIn
import Derived.Test.YtimgpmdfgkgobaaGreatDoorProg
import Derived.KernelRfl
import Derived.Test.YtimgpmdfgkgobaaGreatDoorME
noncomputable section
set_option linter.unusedSimpArgs false
set_option linter.unusedVariables false
open Array renaming replicate_succ→a20,replicate_zero→a21
open Bool renaming and_self→a09,true_and→a18,not_false→a24,and_eq_false_iff→a37,and_eq_true_iff→a53,or_eq_true→a65,eq_iff_iff→a66,false_and→a67
open Int renaming toNat→a01,tmod→a08,tdiv→a19,eq_ofNat_of_zero_le→a22,add_bmod_bmod→a44,sub_bmod_bmod→a45,bmod_sub_bmod→a46,bmod_add_bmod→a58,one_mul→a61,natCast_pow→a64
open List renaming replicate→a00,length→a02,getD→a03,append→a04,set→a05,drop_eq_getElem_cons→a06,take→a07,nil_append→a16,cons_append→a17,append_toArray→a23,zipWith→a26,size_toArray→a27,push_toArray→a28,drop→a29,length_nil→a30,length_replicate→a31,drop_zero→a32,drop_length→a33,replicate_succ'→a38,append_eq→a40,getElem?_append_right→a42,all_cons→a43,length_take→a47,drop_eq_nil_of_le→a48,append_nil→a50,set_append_right→a51,getElem_zipWith→a52,replicate_zero→a54,set_cons_zero→a55,getElem?_drop→a56,take_add_one→a59,take_length→a60,getElem_mem→a62,getElem_zip→a63
open Nat renaming lt_trans→a25,reduceAdd→a34,reduceSub→a35,sub_self→a39,le_refl→a41,min_eq_left→a49,add_zero→a57
open Option renaming getD_some→a36
namespace Go.Ab
open Go.Proofs Go.RowKit
attribute [local go_sem] Oper.semAt_some
set_option maxHeartbeats 1000000 in
theorem d3Y:c6e Tryz.prog 260 295:=by
 refine⟨⟨_,_,Tryz.func260,rfl,by kernel_rfl⟩,fun A len cap w=>(callsIn_wide (n:=3)).1 ?_⟩
 refine callsIn_of_wp Tryz.func260 rfl trivial ?_
 simp only[Tryz.ntmps260,a27,lC,a30,a34,a35,a20,a21,a28,a23,a16,a17]
 gi_wp2
 go_ret
 exact⟨rfl,_,rfl⟩
@[reducible] def b3S:Ty:=.pair (.int .i64) (.pair (.int .i64) .unit)
set_option maxRecDepth 100000 in
set_option maxHeartbeats 2000000 in
theorem d2k (l Bs b off len cap:Nat) (p q:Nat→Int) (J:Nat→World→Prop) (Jx:World→Prop) (W:World)
  (hJ:∀k W',J k W'→W'.cell? ⟨Bs,0,none⟩=some (.slice (some ⟨b,off,none⟩) len cap))
  (hlen:len<2147483648)
  (hcs:∀k W',k<len→J (k+1) W'→W'.cell? ⟨b,off+k*2,none⟩=some (.int .i64 (p k))∧W'.cell? ⟨b,off+k*2+1,none⟩=some (.int .i64 (q k)))
  (hY:∀n W',n<len→J (n+1) W'→YieldAt (Fr none) 0 Tryz.prog l #[.int .i64 (n:Int),.agg #[.int .i64 (p n),.int .i64 (q n)]] W' fun en W''=>(en=.returned (.bool true)∧J n W'')∨(en=.returned (.bool false)∧Jx W''))
  (h0:J len W):
  CallsIn (Fr none) 0 Tryz.prog 295 #[.func (.yield l) #[] #[],.pointer (some ⟨Bs,0,none⟩)] W fun en W'=>(∃v,en=.returned v)∧(J 0 W'∨Jx W'):=by
 refine callsIn_of_wp Tryz.func295 rfl trivial ?_
 simp only[Tryz.ntmps295,a27,lC,a30,a34,a35,a20,a21,a28,a23,a16,a17]
 have hBs:=hJ _ _ h0
 gi_wp2
 gi_loopw [3] (fun i wr=>∃k:Nat,k≤len∧i=.int .i64 ((k:Int)-1)∧J k wr) (fun i _=>(intOf i+1).toNat)
 case atStart=>exact⟨len,a41 _,rfl,h0⟩
 case round=>
  obtain⟨k,hk,rfl,hJs⟩:=hrel
  cases k with
  |succ n=>
   obtain⟨fn,tmps,assign,body,hy,hR⟩:=hY n wr (by omega) hJs
   have hcx:=hJ _ _ hJs
   obtain⟨hc0,hc1⟩:=hcs n wr (by omega) hJs
   gi_wp2
   refine hR.mono ?_
   rintro e W3 (⟨rfl,hJ3⟩|⟨rfl,hJx3⟩)
   ·gi_wp2
    go_roundw
    case rel=>exact⟨n,by omega,by simp,hJ3⟩
    case measure=>simp[intOf]
   ·gi_wp2
    refine bodyPost_ret (results_none rfl _ _ _) rfl ?_
    exact⟨⟨_,rfl⟩,.inr hJx3⟩
  |zero=>
   gi_wp2
   go_end0
   exact⟨⟨_,rfl⟩,.inl hJs⟩
set_option maxRecDepth 100000 in
set_option maxHeartbeats 2000000 in
theorem d1j (l Bs:Nat) (A:Option Addr) (c:Nat) (J:Nat→World→Prop) (W:World) (hBs:W.cell? ⟨Bs,0,none⟩=some (.slice A 0 c)) (h0:J 0 W):
  CallsIn (Fr none) 0 Tryz.prog 295 #[.func (.yield l) #[] #[],.pointer (some ⟨Bs,0,none⟩)] W fun en W'=>(∃v,en=.returned v)∧J 0 W':=by
 refine callsIn_of_wp Tryz.func295 rfl trivial ?_
 simp only[Tryz.ntmps295,a27,lC,a30,a34,a35,a20,a21,a28,a23,a16,a17]
 gi_wp2
 gi_loopw [3] (fun i wr=>i=.int .i64 (-1)∧J 0 wr) (fun _ _=>0)
 case atStart=>exact⟨rfl,h0⟩
 case round=>
  obtain⟨rfl,hJs⟩:=hrel
  gi_wp2
  go_end0
  exact⟨⟨_,rfl⟩,hJs⟩
theorem c4o{m:Mem}{Sh:Nat→Prop}{b o:Nat}{x:b3S.den}{R}(h:dec m b3S ((Src.at b o).rd m)=some (x,[],R)):
  m b o=some (.int .i64 x.1)∧m b (o+1)=some (.int .i64 x.2.1)∧VOk m Sh b3S x (.agg #[.int .i64 x.1,.int .i64 x.2.1]):=by
 obtain⟨p,q,u⟩:=x;simp only[b3S,dec,Src.rd,Ty.cells,a57]at h
 split at h
 cases h;rename_i x1 o1 r1 h1
 split at h1
 rename_i n hn
 split at h1
 rename_i e;subst e;simp only[sj]at h1;obtain⟨rfl,rfl,rfl⟩:=h1
 split at h
 cases h;rename_i x2 o2 r2 h2
 split at h2
 cases h2;rename_i x3 o3 r3 h3
 split at h3
 rename_i n' hn'
 split at h3
 rename_i e;subst e;simp only[sj]at h3 h2 h;obtain⟨rfl,rfl,rfl⟩:=h3;obtain⟨rfl,rfl,rfl⟩:=h2;obtain⟨⟨rfl,rfl,rfl⟩,-,-⟩:=h;exact⟨hn,hn',fun _=>⟨_,rfl,rfl⟩,fun h=>(by cases h),[],rfl,by simp⟩;cases h3;cases h3;cases h1;cases h1
theorem b7z {P:Program} {f:FuncId} (hb:b0d P f) (args:Array Value) (w:World):(callFunc f args).run P w=.ok (.enter f args) w:=by
 obtain ⟨fn,c',h1,h2,h3⟩:=hb;have h4 : ¬ fn.name = "runtime.NumGoroutine" := by simpa using h3
 simp [callFunc,program,Sem.run,h1,h2,h4,Result.andThen]
theorem d3Z:c1Z Tryz.prog 295 b3S:=by
 refine⟨fun args w=>b7z ⟨_,_,Tryz.func295,rfl,by kernel_rfl⟩ args w,fun l Bs sv xs J Jx W hlen hJ hY h0=>?_⟩;obtain⟨hc,Sh,hsv⟩:=hJ _ _ h0;obtain⟨A,n,c,rfl,rfl,hnc,hsp,hnil⟩:=hsv.header
 by_cases hx0:xs.length=0
 rw[hx0]at h0 hc;exact(d1j l Bs A c J W hc h0).mono fun e W' h=>⟨h.1,.inl h.2⟩;cases A with
 |none=>have:=hnil rfl;omega
 |some A=>
  obtain⟨b,off,spot⟩:=A
  have:=(hsp _ rfl).resolve_left (by omega)
  simp only at this;subst this;have hel:∀k W',k<xs.length→J (k+1) W'→∃x,xs[k]?=some x∧W'.cell? ⟨b,off+k*2,none⟩=some (.int .i64 x.1)∧W'.cell? ⟨b,off+k*2+1,none⟩=some (.int .i64 x.2.1):=by
   intro k W' hk hj;obtain⟨-,Sh',hv⟩:=hJ _ _ hj;obtain⟨A',n',c',R,e,h1,h2,h3,h4,h5,h6⟩:=hv.elem rfl (lG hk);simp only[Value.slice.injEq,sj]at e;obtain⟨rfl,rfl,rfl⟩:=e;obtain⟨g1,g2,-⟩:=c4o (Sh:=Sh') h4;exact⟨_,lG hk,g1,g2⟩
  refine d2k l Bs b off xs.length c (fun k=>((xs[k]?).getD b3S.dflt).1) (fun k=>((xs[k]?).getD b3S.dflt).2.1) J Jx W (fun k W' hj=>(hJ k W' hj).1) hlen (fun k W' hk hj=>?_) (fun n W' hn hj=>?_) h0;obtain⟨x,hx,g1,g2⟩:=hel k W' hk hj;simp only[hx,a36];exact⟨g1,g2⟩;have hx:xs[n]?=some xs[n]:=lG hn;simp only[hx,a36];refine hY n _ _ W' hx hj fun Sh' hv=>?_
  obtain⟨A',n',c',R,e,h1,h2,h3,h4,h5,h6⟩:=hv.elem rfl hx;exact(c4o (Sh:=Sh') h4).2.2
set_option maxHeartbeats 1000000 in
theorem d4a:c6e Tryz.prog 107 196:=by
 refine⟨⟨_,_,Tryz.func107,rfl,by kernel_rfl⟩,fun A len cap w=>(callsIn_wide (n:=3)).1 ?_⟩
 refine callsIn_of_wp Tryz.func107 rfl trivial ?_
 simp only[Tryz.ntmps107,a27,lC,a30,a34,a35,a20,a21,a28,a23,a16,a17]
 gi_wp2
 go_ret
 exact⟨rfl,_,rfl⟩
@[reducible] def b6Y:Ty:=.pair (.int .i64) (.pair (.int .i64) (.pair (.int .i64) .unit))
set_option maxRecDepth 100000 in
set_option maxHeartbeats 2000000 in
theorem d2l (l Bs b off len cap:Nat) (p q r:Nat→Int) (J:Nat→World→Prop) (Jx:World→Prop) (W:World)
  (hJ:∀k W',J k W'→W'.cell? ⟨Bs,0,none⟩=some (.slice (some ⟨b,off,none⟩) len cap))
  (hlen:len<2147483648)
  (hcs:∀k W',k<len→J (k+1) W'→W'.cell? ⟨b,off+k*3,none⟩=some (.int .i64 (p k))∧W'.cell? ⟨b,off+k*3+1,none⟩=some (.int .i64 (q k))∧W'.cell? ⟨b,off+k*3+2,none⟩=some (.int .i64 (r k)))
  (hY:∀n W',n<len→J (n+1) W'→YieldAt (Fr none) 0 Tryz.prog l #[.int .i64 (n:Int),.agg #[.int .i64 (p n),.int .i64 (q n),.int .i64 (r n)]] W' fun en W''=>(en=.returned (.bool true)∧J n W'')∨(en=.returned (.bool false)∧Jx W''))
  (h0:J len W):
  CallsIn (Fr none) 0 Tryz.prog 196 #[.func (.yield l) #[] #[],.pointer (some ⟨Bs,0,none⟩)] W fun en W'=>(∃v,en=.returned v)∧(J 0 W'∨Jx W'):=by
 refine callsIn_of_wp Tryz.func196 rfl trivial ?_
 simp only[Tryz.ntmps196,a27,lC,a30,a34,a35,a20,a21,a28,a23,a16,a17]
 have hBs:=hJ _ _ h0
 gi_wp2
 gi_loopw [3] (fun i wr=>∃k:Nat,k≤len∧i=.int .i64 ((k:Int)-1)∧J k wr) (fun i _=>(intOf i+1).toNat)
 case atStart=>exact⟨len,a41 _,rfl,h0⟩
 case round=>
  obtain⟨k,hk,rfl,hJs⟩:=hrel
  cases k with
  |succ n=>
   obtain⟨fn,tmps,assign,body,hy,hR⟩:=hY n wr (by omega) hJs
   have hcx:=hJ _ _ hJs
   obtain⟨hc0,hc1,hc2⟩:=hcs n wr (by omega) hJs
   gi_wp2
   refine hR.mono ?_
   rintro e W3 (⟨rfl,hJ3⟩|⟨rfl,hJx3⟩)
   ·gi_wp2
    go_roundw
    case rel=>exact⟨n,by omega,by simp,hJ3⟩
    case measure=>simp[intOf]
   ·gi_wp2
    refine bodyPost_ret (results_none rfl _ _ _) rfl ?_
    exact⟨⟨_,rfl⟩,.inr hJx3⟩
  |zero=>
   gi_wp2
   go_end0
   exact⟨⟨_,rfl⟩,.inl hJs⟩
set_option maxRecDepth 100000 in
set_option maxHeartbeats 2000000 in
theorem d1k (l Bs:Nat) (A:Option Addr) (c:Nat) (J:Nat→World→Prop) (W:World) (hBs:W.cell? ⟨Bs,0,none⟩=some (.slice A 0 c)) (h0:J 0 W):
  CallsIn (Fr none) 0 Tryz.prog 196 #[.func (.yield l) #[] #[],.pointer (some ⟨Bs,0,none⟩)] W fun en W'=>(∃v,en=.returned v)∧J 0 W':=by
 refine callsIn_of_wp Tryz.func196 rfl trivial ?_
 simp only[Tryz.ntmps196,a27,lC,a30,a34,a35,a20,a21,a28,a23,a16,a17]
 gi_wp2
 gi_loopw [3] (fun i wr=>i=.int .i64 (-1)∧J 0 wr) (fun _ _=>0)
 case atStart=>exact⟨rfl,h0⟩
 case round=>
  obtain⟨rfl,hJs⟩:=hrel
  gi_wp2
  go_end0
  exact⟨⟨_,rfl⟩,hJs⟩
theorem c3o{m:Mem}{rd:Nat→Option Value}{x o r}(h:dec m (.int .i64) rd=some (x,o,r)):rd 0=some (.int .i64 x)∧o=[]∧r=[]:=by
 simp only[dec]at h
 split at h
 rename_i k n hn
 split at h
 rename_i e;subst e;simp only[sj,pJ]at h;obtain⟨rfl,rfl,rfl⟩:=h;exact⟨hn,rfl,rfl⟩;cases h;cases h
theorem c1a{m:Mem}{a b:Ty}{rd:Nat→Option Value}{x o r}(h:dec m (.pair a b) rd=some (x,o,r)):∃o1 r1 o2 r2,dec m a rd=some (x.1,o1,r1)∧dec m b (fun j=>rd (a.cells+j))=some (x.2,o2,r2)∧o=o1++o2∧r=r1++r2:=by
 simp only[dec]at h
 split at h
 cases h;rename_i x1 o1 r1 h1
 split at h
 cases h;rename_i x2 o2 r2 h2;simp only[sj,pJ]at h;obtain⟨rfl,rfl,rfl⟩:=h;exact⟨_,_,_,_,h1,h2,rfl,rfl⟩
theorem c6i{m:Mem}{Sh:Nat→Prop}{b o:Nat}{x:b6Y.den}{R}(h:dec m b6Y ((Src.at b o).rd m)=some (x,[],R)):
  m b o=some (.int .i64 x.1)∧m b (o+1)=some (.int .i64 x.2.1)∧m b (o+2)=some (.int .i64 x.2.2.1)∧VOk m Sh b6Y x (.agg #[.int .i64 x.1,.int .i64 x.2.1,.int .i64 x.2.2.1]):=by
 obtain⟨_,_,_,_,h1,h2,-,-⟩:=c1a h;obtain⟨_,_,_,_,h3,h4,-,-⟩:=c1a h2;obtain⟨_,_,_,_,h5,-,-,-⟩:=c1a h4;exact⟨(c3o h1).1,(c3o h3).1,(c3o h5).1,fun _=>⟨_,rfl,rfl⟩,fun h=>(by cases h),[],rfl,by simp⟩
theorem d4b:c1Z Tryz.prog 196 b6Y:=by
 refine⟨fun args w=>b7z ⟨_,_,Tryz.func196,rfl,by kernel_rfl⟩ args w,fun l Bs sv xs J Jx W hlen hJ hY h0=>?_⟩;obtain⟨hc,Sh,hsv⟩:=hJ _ _ h0;obtain⟨A,n,c,rfl,rfl,hnc,hsp,hnil⟩:=hsv.header
 by_cases hx0:xs.length=0
 rw[hx0]at h0 hc;exact(d1k l Bs A c J W hc h0).mono fun e W' h=>⟨h.1,.inl h.2⟩;cases A with
 |none=>have:=hnil rfl;omega
 |some A=>
  obtain⟨b,off,spot⟩:=A
  have:=(hsp _ rfl).resolve_left (by omega)
  simp only at this;subst this;have hel:∀k W',k<xs.length→J (k+1) W'→∃x,xs[k]?=some x∧W'.cell? ⟨b,off+k*3,none⟩=some (.int .i64 x.1)∧W'.cell? ⟨b,off+k*3+1,none⟩=some (.int .i64 x.2.1)∧W'.cell? ⟨b,off+k*3+2,none⟩=some (.int .i64 x.2.2.1):=by
   intro k W' hk hj;obtain⟨-,Sh',hv⟩:=hJ _ _ hj;obtain⟨A',n',c',R,e,h1,h2,h3,h4,h5,h6⟩:=hv.elem rfl (lG hk);simp only[Value.slice.injEq,sj]at e;obtain⟨rfl,rfl,rfl⟩:=e;obtain⟨g1,g2,g3,-⟩:=c6i (Sh:=Sh') h4;exact⟨_,lG hk,g1,g2,g3⟩
  refine d2l l Bs b off xs.length c (fun k=>((xs[k]?).getD b6Y.dflt).1) (fun k=>((xs[k]?).getD b6Y.dflt).2.1) (fun k=>((xs[k]?).getD b6Y.dflt).2.2.1) J Jx W (fun k W' hj=>(hJ k W' hj).1) hlen (fun k W' hk hj=>?_) (fun n W' hn hj=>?_) h0;obtain⟨x,hx,g1,g2,g3⟩:=hel k W' hk hj;simp only[hx,a36];exact⟨g1,g2,g3⟩;have hx:xs[n]?=some xs[n]:=lG hn;simp only[hx,a36];refine hY n _ _ W' hx hj fun Sh' hv=>?_
  obtain⟨A',n',c',R,e,h1,h2,h3,h4,h5,h6⟩:=hv.elem rfl hx;exact(c6i (Sh:=Sh') h4).2.2.2
end Go.Ab
namespace Go.Ab
open IntKind(wrap)
open Go.Proofs
set_option maxRecDepth 100000
set_option linter.unusedVariables false
@[reducible] def QI:Ty:=.int .i64
@[reducible] def QL:Ty:=.list false QI
@[reducible] def Z0:Type:=(Unit ⊕ (Bool×Unit))
@[reducible] def Z1:Type:=(Int×(Int×(List Int)))
@[reducible] def Z2:Type:=((List (List Int))×Unit)
@[reducible] def Z3:Type:=((List Int)×(Int×Int))
@[reducible] def Z4:Type:=(List (Int×(Int×Unit)))
@[reducible] def Z5:Type:=(Int×((List Int)×Unit))
@[reducible] def Z6:Type:=((List Int)×(Int×Unit))
@[reducible] def Z7:Type:=(Int×(Int×(Int×Unit)))
@[reducible] def Z8:Type:=(Bool×((List Int)×Unit))
@[reducible] def Z9:Type:=(Int×(Int×(Bool×Unit)))
@[reducible] def Z10:Type:=((List Int)×((List Int)×Int))
@[reducible] def Z11:Type:=((List Int)×((List Int)×Unit))
@[reducible] def Z12:Type:=(Int×Z2)
@[reducible] def Z13:Type:=((List (List Int))×(Int×Unit))
@[reducible] def Z14:Type:=(List Z7)
@[reducible] def Z15:Type:=((List Int)×(Int×(Int×Unit)))
@[reducible] def Z16:Type:=(Int×Z5)
@[reducible] def Z17:Type:=(Int×Z6)
@[reducible] def Z18:Type:=((List Int)×(Int×(Bool×Unit)))
@[reducible] def Z19:Type:=(Z5×Unit)
@[reducible] def Z20:Type:=(Z6×Unit)
@[reducible] def Z21:Type:=(Int×Z7)
@[reducible] def Z22:Type:=(Int×Z9)
@[reducible] def Z23:Type:=(Int×Z11)
@[reducible] def Z24:Type:=((List Int)×Z5)
@[reducible] def Z25:Type:=((List (List Int))×(Int×(Int×Unit)))
@[reducible] def Z26:Type:=(Int×Z12)
@[reducible] def Z27:Type:=(Int×Z15)
@[reducible] def Z28:Type:=(Z12×Unit)
@[reducible] def Z29:Type:=((List Int)×Z7)
@[reducible] def Z30:Type:=(Int×Z16)
@[reducible] def Z31:Type:=(Z15×Int)
@[reducible] def Z32:Type:=((List Int)×Z9)
@[reducible] def Z33:Type:=(Int×Z20)
@[reducible] def Z34:Type:=(Z15×Unit)
@[reducible] def Z35:Type:=(Int×Z21)
@[reducible] def Z36:Type:=((List Int)×Z11)
@[reducible] def Z37:Type:=((List Int)×Z16)
@[reducible] def Z38:Type:=(Int×Z23)
@[reducible] def Z39:Type:=((List Int)×Z15)
@[reducible] def Z40:Type:=(Int×Z25)
@[reducible] def Z41:Type:=(Z5×((List Int)×Unit))
@[reducible] def Z42:Type:=(((List Int)×Unit) ⊕ Z5)
@[reducible] def Z43:Type:=((List Int)×Z18)
@[reducible] def Z44:Type:=(Int×Z27)
@[reducible] def Z45:Type:=(Z23×Unit)
@[reducible] def Z46:Type:=(Int×Z28)
@[reducible] def Z47:Type:=(Int×Z29)
@[reducible] def Z48:Type:=(Bool×Z28)
@[reducible] def Z49:Type:=(Int×Z33)
@[reducible] def Z50:Type:=(Int×Z34)
@[reducible] def Z51:Type:=(Bool×Z34)
@[reducible] def Z52:Type:=(Int×Z36)
@[reducible] def Z53:Type:=(Int×Z37)
@[reducible] def Z54:Type:=((List Int)×Z27)
@[reducible] def Z55:Type:=(Int×Z45)
@[reducible] def Z56:Type:=(Int×Z46)
@[reducible] def Z57:Type:=((List Int)×Z34)
@[reducible] def Z58:Type:=(Z27 ⊕ (Int×Unit))
@[reducible] def Z59:Type:=(Int×Z50)
@[reducible] def Z60:Type:=(Int×Z51)
@[reducible] def Z61:Type:=(Z15 ⊕ Z0)
@[reducible] def Z62:Type:=((List Int)×Z38)
@[reducible] def Z63:Type:=(Int×Z52)
@[reducible] def Z64:Type:=((List Int)×Z41)
@[reducible] def Z65:Type:=((List Int)×Z44)
@[reducible] def Z66:Type:=((List Int)×Z45)
@[reducible] def Z67:Type:=(Int×Z53)
@[reducible] def Z68:Type:=(Int×Z55)
@[reducible] def Z69:Type:=((List Int)×Z49)
@[reducible] def Z70:Type:=(Int×Z57)
@[reducible] def Z71:Type:=(Z6×Z19)
@[reducible] def Z72:Type:=(Int×Z59)
@[reducible] def Z73:Type:=(Z5×Z19)
@[reducible] def Z74:Type:=(Int×Z62)
@[reducible] def Z75:Type:=(Int×Z66)
@[reducible] def Z76:Type:=(Int×Z68)
@[reducible] def Z77:Type:=(Int×Z69)
@[reducible] def Z78:Type:=(Int×Z70)
@[reducible] def Z79:Type:=((List Int)×Z71)
@[reducible] def Z80:Type:=(Int×Z78)
@[reducible] def Z81:Type:=(Z14×Z28)
@[reducible] def Z82:Type:=(Int×Z79)
@[reducible] def Z83:Type:=(Z4×Z64)
@[reducible] def Z84:Type:=(Int×Z82)
@[reducible] def Z85:Type:=(Z5×Z73)
@[reducible] def Z86:Type:=((List Int)×Z83)
@[reducible] def Z87:Type:=((List Int)×Z84)
@[reducible] def Z88:Type:=((List Int)×Z86)
@[reducible] def Z89:Type:=(Int×Z88)
@[reducible] def Z90:Type:=(Int×Z89)
@[reducible] def Z91:Type:=(Int×Z90)
@[reducible] def Z92:Type:=(Int×Z91)
@[reducible] def Z93:Type:=(Int×Z92)
@[reducible] def Z94:Type:=(List Z93)
@[reducible] def Z95:Type:=(Z93×Int)
@[reducible] def Z96:Type:=(Z93×Unit)
@[reducible] def Z97:Type:=(Z94×Unit)
@[reducible] def Z98:Type:=(Bool×Z96)
@[reducible] def Z99:Type:=(Int×Z98)
@[reducible] def c9p:Type:=(Z94×((List Int)×Unit))
@[reducible] def d6R:Type:=(Z6×Z96)
@[reducible] def c9q:Type:=(Int×d6R)
@[reducible] def d4K:Type:=(Z15×Z96)
@[reducible] def c9r:Type:=(Z93×Z34)
@[reducible] def d6S:Type:=(Z14×Z97)
@[reducible] def b5z:Type:=(Int×c9q)
@[reducible] def d2m:Type:=(Int×d4K)
@[reducible] def c3p:Type:=(Int×d2m)
@[reducible] def d6T:Type:=(Z7×d6S)
@[reducible] def d6U:Type:=(Int×d6T)
@[reducible] def a6E:Type:=(Int×d6U)
@[reducible] def b8F:Type:=(a6E×Unit)
@[reducible] def c9s:Type:=(Z12×b8F)
@[reducible] def c3q:Type:=(a6E×Z34)
@[reducible] def b2G:Type:=(Z93×Z96)
@[reducible] def d6V:Type:=(Int×b2G)
@[reducible] def c9t:Type:=(Int×d6V)
@[reducible] def d2n:Type:=(a6E×b8F)
@[reducible] def c9u:Type:=(Int×d2n)
@[reducible] def Q0:Ty:=(.pair QI .unit)
@[reducible] def Q1:Ty:=(.pair (.list true QI) .unit)
@[reducible] def Q2:Ty:=(.pair QL .unit)
@[reducible] def Q3:Ty:=(.pair QI Q0)
@[reducible] def Q4:Ty:=(.pair (.nl QL) .unit)
@[reducible] def Q5:Ty:=(.pair (.list true QL) .unit)
@[reducible] def Q6:Ty:=(.pair (.list false QL) .unit)
@[reducible] def Q7:Ty:=(.pair (.list true (.int .u8)) Q0)
@[reducible] def Q8:Ty:=(.pair QI Q1)
@[reducible] def Q9:Ty:=(.pair QI Q2)
@[reducible] def Q10:Ty:=(.pair QI Q3)
@[reducible] def Q11:Ty:=(.pair (.list true QI) Q1)
@[reducible] def Q12:Ty:=(.pair QI Q6)
@[reducible] def Q13:Ty:=(.pair (.list false (.int .u8)) Q3)
@[reducible] def Q14:Ty:=(.pair QI Q11)
@[reducible] def Q15:Ty:=(.pair Q9 Q2)
@[reducible] def Q16:Ty:=(.pair (.nl QI) Q15)
@[reducible] def Q17:Ty:=(.pair QL Q15)
@[reducible] def Q18:Ty:=(.pair (.list true Q3) Q16)
@[reducible] def Q19:Ty:=(.pair (.list false Q3) Q17)
@[reducible] def Q20:Ty:=(.pair (.arr 3 QI) Q18)
@[reducible] def Q21:Ty:=(.pair (.arr 3 QI) Q19)
@[reducible] def Q22:Ty:=(.pair (.list true QI) Q20)
@[reducible] def Q23:Ty:=(.pair QL Q21)
@[reducible] def Q24:Ty:=(.pair QI Q22)
@[reducible] def Q25:Ty:=(.pair QI Q23)
@[reducible] def Q26:Ty:=(.pair QI Q24)
@[reducible] def Q27:Ty:=(.pair QI Q25)
@[reducible] def Q28:Ty:=(.pair QI Q26)
@[reducible] def Q29:Ty:=(.pair QI Q27)
@[reducible] def Q30:Ty:=(.pair QI Q28)
@[reducible] def Q31:Ty:=(.pair QI Q29)
@[reducible] def Q32:Ty:=(.pair QI Q30)
@[reducible] def Q33:Ty:=(.pair QI Q31)
@[reducible] def Q34:Ty:=(.pair (.nl Q33) .unit)
@[reducible] def Q35:Ty:=(.pair (.list true Q33) .unit)
@[reducible] def Q36:Ty:=(.pair (.list false Q33) .unit)
@[reducible] def Q37:Ty:=(.pair (.nl Q10) Q34)
@[reducible] def Q38:Ty:=(.pair (.list true Q10) Q34)
@[reducible] def Q39:Ty:=(.pair (.list false Q10) Q35)
@[reducible] def Q40:Ty:=(.pair (.list false Q10) Q36)
@[reducible] def Q41:Ty:=(.pair Q10 Q37)
@[reducible] def Q42:Ty:=(.pair Q10 Q38)
@[reducible] def Q43:Ty:=(.pair Q10 Q39)
@[reducible] def Q44:Ty:=(.pair Q10 Q40)
@[reducible] def Q45:Ty:=(.pair QI Q41)
@[reducible] def Q46:Ty:=(.pair QI Q42)
@[reducible] def Q47:Ty:=(.pair QI Q43)
@[reducible] def Q48:Ty:=(.pair QI Q44)
@[reducible] def Q49:Ty:=(.pair QI Q46)
@[reducible] def Q50:Ty:=(.pair QI Q47)
@[reducible] def Q51:Ty:=(.pair QI Q48)
def c5p:List (Nat×Ty):=[(2,.int .i64),(3,.int .i64),(5,.int .u8),(23,.pair QI Q3),(24,.list false Q10),(25,.list false Q33),(27,.pair QI Q48),(30,.list false QL),(32,.pair QI Q6),(33,.int .i64),(38,.list false (.int .u8)),(56,.list false QI),(57,.arr 3 QI),(58,.list false Q3),(60,.pair QI Q2),(62,.pair QI Q31),(68,.int .u16),(70,.int .u64),(74,.pair QI Q0),(90,.pair (.list false (.int .u8)) Q0),(96,.int .u64),(137,.pair QI Q3),(148,.pair QI Q0),(151,.list false (.int .u64)),(163,.pair (.list false (.int .u8)) Q3),(211,.pair (.list false (.int .u8)) Q3),(220,.arr 64 (.int .u8)),(248,.list false (.arr 3 QI)),(252,.pair QI (.pair QL Q2))]
def T0:Nat→Option Ty:=fun t=>find c5p t
def c9v:List Nat:=[23,57,137,148]
def d6W:Nat→Bool:=fun t=>c9v.contains t
def c6j:List Nat:=[]
def d6X:Nat→Bool:=fun t=>c6j.contains t
def b1F:(List Int):=[0,1,56,2,57,49,28,3,61,58,42,50,38,29,17,4,62,47,59,36,45,43,51,22,53,39,33,30,24,18,12,5,63,55,48,27,60,41,37,16,46,35,44,21,52,32,23,11,54,26,40,15,34,20,31,10,25,14,19,9,13,8,7,6]
def G0:Nat→Option ((t:Ty)×t.den):=fun g=>find ([(0,⟨.arr 64 (.int .u8),b1F⟩)]:List (Nat×((t:Ty)×t.den))) g
def a6Y(x:Int):Option Bool:= cond (decide (4≤x)) (some (decide (x≤24))) (some false)
def b2H:FSem:=⟨[.v QI],[.v .bool],a6Y⟩
def d6Y:Hints:=⟨[],[],[]⟩
def a6Z(x:Z7):Option Bool:= cond (decide (1≤x.1)) (cond (decide (x.1≤1048576)) (cond (decide (1≤x.2.1)) (cond (decide (x.2.1≤8)) ((a6Y x.2.2.1).bind fun y1=> some y1) (some false)) (some false)) (some false)) (some false)
def b2I:FSem:=⟨[.v Q10],[.v .bool],a6Z⟩
def H77:Hints:=⟨[],[],[]⟩
def a7a(s:(Int×Z14×Int×Int×Unit)):Option ((Int×Z14×Int×Int×Unit) ⊕ Z0):= cond (decide (s.2.2.2.1<s.2.2.1)) ((a0m s.2.1 s.2.2.2.1).bind fun x2=> (show Option (Int×Z14×Int×Int×Bool×Z7×Unit)from cond (decide (x2.1<0)) (some (s.1,s.2.1,s.2.2.1,s.2.2.2.1,true,x2,())) (cond (decide (x2.1≥s.1)) (some (s.1,s.2.1,s.2.2.1,s.2.2.2.1,true,x2,())) (cond (decide (x2.2.1<0)) (some (s.1,s.2.1,s.2.2.1,s.2.2.2.1,true,x2,())) (cond (decide (x2.2.1≥s.1)) (some (s.1,s.2.1,s.2.2.1,s.2.2.2.1,true,x2,())) (some (s.1,s.2.1,s.2.2.1,s.2.2.2.1,x2.1==x2.2.1,x2,())))))).bind fun z3=> cond z3.2.2.2.2.1 (some (.inr (Sum.inr ((false,()))))) ((show Option (Int×Z14×Z9)from cond (decide (z3.2.2.2.2.2.1.2.2.1<(-1024))) (some (z3.1,z3.2.1,z3.2.2.1,z3.2.2.2.1,true,())) (some (z3.1,z3.2.1,z3.2.2.1,z3.2.2.2.1,decide (z3.2.2.2.2.2.1.2.2.1 > 1024),()))).bind fun z4=> cond z4.2.2.2.2.1 (some (.inr (Sum.inr ((false,()))))) (some (.inl (z4.1,z4.2.1,z4.2.2.1,wrap .i64 (z4.2.2.2.1+1),()))))) (some (.inr (Sum.inl ())))
def a8y(x:(Z14×Int)):Option Bool:= (show Option (Z14×Int×Bool×Unit)from cond (decide (x.2<1)) (some (x.1,x.2,true,())) (cond (decide (x.2 > 8)) (some (x.1,x.2,true,())) (some (x.1,x.2,decide ((x.1.length:Int) > 16),())))).bind fun z1=> cond z1.2.2.1 (some false) ((a0h a7a (z1.2.1,z1.1,(z1.1.length:Int),0,())).bind fun w5=> match w5 with |.inl a6=>some true |.inr b7=>some b7.1)
def b3e:FSem:=⟨[.v (.list false Q10),.v QI],[.v .bool],a8y⟩
def d6Z:Hints:=⟨[(58,[.sv 1 QI,.sv 18 (.list false Q10),.sv 19 QI,.sv 20 QI],[(.exit 0,[]),(.ret,[.sv 4 .bool])])],[(6,[(.normal,[.sv 0 (.list false Q10),.sv 1 QI,.sv 17 .bool])]),(7474,[(.normal,[.sv 1 QI,.sv 18 (.list false Q10),.sv 19 QI,.sv 20 QI,.sv 50 .bool,.box 6 Q10,.ptr 6 6 []])]),(7475,[(.normal,[.sv 1 QI,.sv 18 (.list false Q10),.sv 19 QI,.sv 20 QI,.sv 58 .bool])])],[]⟩
def a7b(x:a6E):Option Bool:= (a6Z x.2.2.1).bind fun y1=> cond y1 (cond (decide (x.2.1≥1)) (cond (decide (x.2.1≤4096)) (cond (decide (x.1≥0)) (cond (decide (x.1≤(wrap .i64 (4194304-x.2.1)))) ((a8y (x.2.2.2.1,x.2.2.1.2.1)).bind fun y2=> some y2) (some false)) (some false)) (some false)) (some false)) (some false)
def b2J:FSem:=⟨[.v Q51],[.v .bool],a7b⟩
def H44:Hints:=⟨[],[],[]⟩
def a2O(s:Z15):Option Z61:= cond (decide (s.2.2.1<s.2.1)) ((a0m s.1 s.2.2.1).bind fun x1=> (show Option Z32 from cond (decide (x1<(-1073741824))) (some (s.1,s.2.1,s.2.2.1,true,())) (some (s.1,s.2.1,s.2.2.1,decide (x1≥1073741824),()))).bind fun z2=> cond z2.2.2.2.1 (some (.inr (Sum.inr ((false,()))))) (some (.inl (z2.1,z2.2.1,wrap .i64 (z2.2.2.1+1),())))) (some (.inr (Sum.inl ())))
def a2j(x:(List Int)):Option Bool:= (a0h a2O (x,(x.length:Int),0,())).bind fun w3=> match w3 with |.inl a4=>some true |.inr b5=>some b5.1
def a9p:FSem:=⟨[.v QL],[.v .bool],a2j⟩
def H90:Hints:=⟨[(26,[.sv 5 QL,.sv 6 QI,.sv 7 QI],[(.exit 0,[]),(.ret,[.sv 2 .bool])])],[(1689,[(.normal,[.sv 5 QL,.sv 6 QI,.sv 7 QI,.sv 16 .bool])])],[]⟩
def a6f(x:Int):Option Bool:= cond (x != 0) (some (x != 1)) (some false)
def b0k:FSem:=⟨[.v QI],[.v .bool],a6f⟩
def d7a:Hints:=⟨[],[],[]⟩
def a3X(s:Z15):Option Z61:= cond (decide (s.2.2.1<s.2.1)) ((a0m s.1 s.2.2.1).bind fun x2=> (show Option Z32 from cond (decide (x2<(-32768))) (some (s.1,s.2.1,s.2.2.1,true,())) (some (s.1,s.2.1,s.2.2.1,decide (x2≥32768),()))).bind fun z3=> cond z3.2.2.2.1 (some (.inr (Sum.inr ((false,()))))) (some (.inl (z3.1,z3.2.1,wrap .i64 (z3.2.2.1+1),())))) (some (.inr (Sum.inl ())))
def a4L(x:((List Int)×Int)):Option Bool:= (show Option ((List Int)×(Bool×Unit))from cond (decide ((x.1.length:Int)<1)) (some (x.1,true,())) (cond (decide ((x.1.length:Int) > 32)) (some (x.1,true,())) (cond (decide (x.2<0)) (some (x.1,true,())) (some (x.1,decide (x.2 > 15),()))))).bind fun z1=> cond z1.2.1 (some false) ((a0h a3X (z1.1,(z1.1.length:Int),0,())).bind fun w4=> match w4 with |.inl a5=>some true |.inr b6=>some b6.1)
def b0l:FSem:=⟨[.v QL,.v QI],[.v .bool],a4L⟩
def d7b:Hints:=⟨[(58,[.sv 23 QL,.sv 24 QI,.sv 25 QI],[(.exit 0,[]),(.ret,[.sv 4 .bool])])],[(6,[(.normal,[.sv 0 QL,.sv 22 .bool])]),(3737,[(.normal,[.sv 23 QL,.sv 24 QI,.sv 25 QI,.sv 34 .bool])])],[]⟩
def a5h(s:Z6):Option (Z6 ⊕ Z0):= cond (decide (s.2.1<3)) ((a0m s.1 s.2.1).bind fun x2=> (show Option Z18 from cond (decide (x2<(-64))) (some (s.1,s.2.1,true,())) (some (s.1,s.2.1,decide (x2 > 64),()))).bind fun z3=> cond z3.2.2.1 (some (.inr (Sum.inr ((false,()))))) (some (.inl (z3.1,wrap .i64 (z3.2.1+1),())))) (some (.inr (Sum.inl ())))
def a8z(x:(Int×(List Int))):Option Bool:= (show Option Z8 from cond (decide (x.1<2)) (some (true,x.2,())) (some (decide (x.1 > 1024),x.2,()))).bind fun z1=> cond z1.1 (some false) ((a0h a5h (z1.2.1,0,())).bind fun w4=> match w4 with |.inl a5=>some true |.inr b6=>some b6.1)
def b3f:FSem:=⟨[.v QI,.v (.arr 3 QI)],[.v .bool],a8z⟩
def d7c:Hints:=⟨[(58,[.sv 13 (.arr 3 QI),.sv 14 QI],[(.exit 0,[]),(.ret,[.sv 4 .bool])])],[(6,[(.normal,[.sv 12 .bool,.vp 3 (.arr 3 QI)])]),(3737,[(.normal,[.sv 13 (.arr 3 QI),.sv 14 QI,.sv 22 .bool])])],[]⟩
def a7c(x:(Int×Int×Unit)):Option Bool:= cond (decide (x.1≥1)) (cond (decide (x.1≤32)) (cond (decide (x.2.1≥0)) (some (decide (x.2.1≤8))) (some false)) (some false)) (some false)
def b2K:FSem:=⟨[.v Q3],[.v .bool],a7c⟩
def d7d:Hints:=⟨[],[],[]⟩
def a6g(s:(Z4×Int×Int×Unit)):Option ((Z4×Int×Int×Unit) ⊕ Z0):= cond (decide (s.2.2.1<s.2.1)) ((a0m s.1 s.2.2.1).bind fun x1=> (a7c x1).bind fun y2=> cond (!y2) (some (.inr (Sum.inr ((false,()))))) (some (.inl (s.1,s.2.1,wrap .i64 (s.2.2.1+1),())))) (some (.inr (Sum.inl ())))
def a7t(x:Z4):Option Bool:= cond (decide ((x.length:Int) > 3)) (some false) ((a0h a6g (x,(x.length:Int),0,())).bind fun w3=> match w3 with |.inl a4=>some true |.inr b5=>some b5.1)
def b1G:FSem:=⟨[.v (.list false Q3)],[.v .bool],a7t⟩
def d7e:Hints:=⟨[(58,[.sv 8 (.list false Q3),.sv 9 QI,.sv 10 QI],[(.exit 0,[]),(.ret,[.sv 2 .bool])])],[],[]⟩
def a9S(x:(Int×Z95)):Option Bool:= (show Option (Int×Z99)from cond (x.1==0) (some (x.2.2,x.1,x.1==0,x.2.1,())) (some (x.2.2,x.1,x.1==1,x.2.1,()))).bind fun z1=> cond z1.2.2.1 (some true) (cond (z1.2.1==2) (cond (decide (z1.2.2.2.1.2.2.1≥0)) (cond (decide (z1.2.2.2.1.2.2.1≤4)) (some (decide (z1.2.2.2.1.2.2.1≤z1.1))) (some false)) (some false)) (cond (z1.2.1==3) ((a4L (z1.2.2.2.1.2.2.2.2.2.1,z1.2.2.2.1.2.2.2.1)).bind fun y2=> cond y2 (some (decide ((z1.2.2.2.1.2.2.2.2.2.1.length:Int)≤z1.1))) (some false)) (cond (z1.2.1==4) ((a4L (z1.2.2.2.1.2.2.2.2.2.1,z1.2.2.2.1.2.2.2.1)).bind fun y3=> cond y3 (cond (decide ((z1.2.2.2.1.2.2.2.2.2.1.length:Int)≤z1.1)) ((a8z (z1.2.2.2.1.2.2.2.2.1,z1.2.2.2.1.2.2.2.2.2.2.1)).bind fun y4=> some y4) (some false)) (some false)) (cond (z1.2.1==5) (cond (decide ((z1.2.2.2.1.2.2.2.2.2.2.2.1.length:Int) > 0)) ((a7t z1.2.2.2.1.2.2.2.2.2.2.2.1).bind fun y5=> some y5) (some false)) (some false)))))
def b4J:FSem:=⟨[.v QI,.v Q33,.v QI],[.v .bool],a9S⟩
def d7f:Hints:=⟨[],[(26,[(.normal,[.sv 2 QI,.sv 7 QI,.sv 8 .bool,.vp 4 Q33])])],[]⟩
def a6h(x:Z95):Option Int:= cond (x.1.1==0) (some 1) (cond (x.1.1==1) (some x.2) (cond (x.1.1==2) (some x.1.2.2.1) ((show Option Z98 from cond (x.1.1==3) (some (x.1.1==3,x.1,())) (some (x.1.1==4,x.1,()))).bind fun z1=> cond z1.1 (some (z1.2.1.2.2.2.2.2.1.length:Int)) (some 0))))
def b0m:FSem:=⟨[.v Q33,.v QI],[.v QI],a6h⟩
def d7g:Hints:=⟨[],[(1727,[(.normal,[.sv 16 .bool,.vp 2 Q33])])],[]⟩
def a1d(x:(List Int)):Option (List Int):= b3O x
def a0V:FSem:=⟨[.v QL],[.o QI],a1d⟩
def H87:Hints:=⟨[],[],[]⟩
@[reducible] def b8G(a:List (Nat×FSem))(b:List (Nat×Ty))(c d:List Nat):Cx:=⟨d6X,d6W,T0,fun f=>find a f,fun n=>find b n,fun i=>c.contains i,fun i=>d.contains i,G0⟩
def d4L:Cx:=b8G [] [] [0,2] []
theorem d7h(x):b8e d4L H87 Tryz.f87 a0V.ps a0V.rs x=a0V.F x:=Eq.trans (show _=b8E x by kernel_rfl) (b6X x)
def a2K(x:(List Int)):Option (List Int):= b3O x
def a1A:FSem:=⟨[.v QL],[.v QL],a2K⟩
def d7i:Hints:=⟨[],[],[]⟩
def d3f:Cx:=b8G [] [] [0,2] []
theorem d5u(x):b8e d3f d7i Tryz.f87 a1A.ps a1A.rs x=a1A.F x:=Eq.trans (show _=b8E x by kernel_rfl) (b6X x)
def a1r(x:Z4):Option Z4:= b3O x
def a1b:FSem:=⟨[.v (.list false Q3)],[.v (.list false Q3)],a1r⟩
def d5v:Hints:=⟨[],[],[]⟩
def d1l:Cx:=b8G [] [] [0,2] []
theorem d4M(x):b8e d1l d5v Tryz.f229 a1b.ps a1b.rs x=a1b.F x:=Eq.trans (show _=b8E x by kernel_rfl) (b6X x)
def a6i(x:(Int×Z93)):Option Z93:= (show Option b2G from(show Option ((Z93×b2G) ⊕ (b2G ⊕ (Z93×b2G)))from cond (x.1==2) (some (Sum.inr (Sum.inl ((0,0,0,0,0,[],a00 3 0,[],[],(0,[],()),[],()),(x.1,0,x.2.2.2.1,0,0,[],a00 3 0,[],[],(0,[],()),[],()),())))) (cond (x.1==4) (some (Sum.inl ((0,0,0,0,0,[],a00 3 0,[],[],(0,[],()),[],()),(x.1,0,0,0,x.2.2.2.2.2.1,[],x.2.2.2.2.2.2.2.1,[],[],(0,[],()),[],()),x.2,()))) (cond (x.1==3) (some (Sum.inl ((0,0,0,0,0,[],a00 3 0,[],[],(0,[],()),[],()),(x.1,0,0,0,0,[],a00 3 0,[],[],(0,[],()),[],()),x.2,()))) (cond (x.1==5) (some (Sum.inr (Sum.inr (((0,0,0,0,0,[],a00 3 0,[],[],(0,[],()),[],()),(x.1,0,0,0,0,[],a00 3 0,[],[],(0,[],()),[],()),x.2,()))))) (some (Sum.inr (Sum.inl ((0,0,0,0,0,[],a00 3 0,[],[],(0,[],()),[],()),(x.1,0,0,0,0,[],a00 3 0,[],[],(0,[],()),[],()),())))))))).bind fun z1=> match z1 with |.inl a2=>((a2K a2.2.2.1.2.2.2.2.2.1).bind fun y4=> some (a2.1,(a2.2.1.1,a2.2.1.2.1,a2.2.1.2.2.1,a2.2.2.1.2.2.2.1,a2.2.1.2.2.2.2.1,y4,a2.2.1.2.2.2.2.2.2),())) |.inr b3=>(match b3 with |.inl a5=>some (a5.1,a5.2.1,()) |.inr b6=>((a1r b6.2.2.1.2.2.2.2.2.2.2.1).bind fun y7=> some (b6.1,(b6.2.1.1,b6.2.1.2.1,b6.2.1.2.2.1,b6.2.1.2.2.2.1,b6.2.1.2.2.2.2.1,b6.2.1.2.2.2.2.2.1,b6.2.1.2.2.2.2.2.2.1,y7,b6.2.1.2.2.2.2.2.2.2.2),())))).bind fun z8=> some z8.2.1
def b3T:FSem:=⟨[.v QI,.v Q33],[.v Q33],a6i⟩
def d7j:Hints:=⟨[],[(7,[(.normal,[.box 4 Q33,.box 5 Q33,.ptr 4 4 [],.ptr 5 5 []])]),(232,[(.normal,[.box 4 Q33,.box 5 Q33,.vp 3 Q33,.ptr 4 4 [],.ptr 5 5 []]),(.exit 0,[.box 4 Q33,.box 5 Q33,.ptr 4 4 [],.ptr 5 5 []]),(.exit 4,[.box 4 Q33,.box 5 Q33,.vp 3 Q33,.ptr 4 4 [],.ptr 5 5 []])])],[(8,[.v,.v,.v,.v,.q,.w [0,5],.x,.x]),(9,[.v,.v,.v,.v,.v,.q,.w [0,5],.x,.x])]⟩
def b1H(x:Z93):Option Bool:= (a6i (x.1,x)).bind fun y1=> cond (x.2.2.1==y1.2.2.1) (cond (x.2.2.2.1==y1.2.2.2.1) (cond (x.2.2.2.2.1==y1.2.2.2.2.1) (cond (eqT (.arr 3 (.int .i64)) x.2.2.2.2.2.2.1 y1.2.2.2.2.2.2.1) (cond ((x.2.2.2.2.2.1.length:Int)==(y1.2.2.2.2.2.1.length:Int)) (some ((x.2.2.2.2.2.2.2.1.length:Int)==(y1.2.2.2.2.2.2.2.1.length:Int))) (some false)) (some false)) (some false)) (some false)) (some false)
def b9X:FSem:=⟨[.v Q33],[.v .bool],b1H⟩
def d7k:Hints:=⟨[],[],[]⟩
def a7u(x:(Int×Int)):Option Bool:= cond (decide (1≤x.1)) (cond (decide (x.1≤4096)) (cond (decide (0≤x.2)) (some (decide (x.2≤x.1))) (some false)) (some false)) (some false)
def b1I:FSem:=⟨[.v QI,.v QI],[.v .bool],a7u⟩
def d7l:Hints:=⟨[],[],[]⟩
def a6F(s:Z16):Option (Z16 ⊕ ((List Int)×Unit)):= cond (decide (s.1<0)) none (cond (decide ((s.2.2.1.length:Int)<(a0z .i64 1 s.1))) (cond (lim ((a02 s.2.2.1)+1)) (some (.inl (s.1,s.2.1,a04 s.2.2.1 [s.2.1],()))) none) (some (.inr (s.2.2.1,()))))
def a3r(x:(Int×Int×Int)):Option (List Int):= (show Option Z22 from(a7u (x.2.1,x.2.2)).bind fun y1=> cond (!y1) (some (x.1,x.2.1,x.2.2,true,())) (cond (decide (x.1<0)) (some (x.1,x.2.1,x.2.2,true,())) (some (x.1,x.2.1,x.2.2,decide (x.1 > 8),())))).bind fun z2=> cond z2.2.2.2.1 (some []) (cond (decide (z2.1<0)) none ((show Option Z22 from cond (decide (z2.1<0)) none (cond ((a0z .i64 (a0A .i64 z2.2.1 z2.1) z2.1) != z2.2.1) (some (z2.1,z2.2.2.1,a0A .i64 z2.2.1 z2.1,true,())) (some (z2.1,z2.2.2.1,a0A .i64 z2.2.1 z2.1,decide ((a0A .i64 z2.2.1 z2.1)<z2.2.2.1),())))).bind fun z3=> cond z3.2.2.2.1 (some []) ((a0h a6F (z3.1,z3.2.2.1,[wrap .i64 (z3.2.2.1-z3.2.1)],())).bind fun w4=> some w4.1)))
def a5i:FSem:=⟨[.v QI,.v QI,.v QI],[.o QI],a3r⟩
def d7m:Hints:=⟨[(252,[.sv 0 QI,.sv 7 QI,.own 8 8 QI],[(.exit 0,[.own 8 8 QI])])],[(6,[(.normal,[.sv 0 QI,.sv 1 QI,.sv 2 QI,.sv 20 .bool])]),(30,[(.normal,[.sv 0 QI,.sv 2 QI,.sv 7 QI,.sv 33 .bool])])],[]⟩
def a3H(s:Z15):Option Z61:= cond (decide (s.2.2.1<s.2.1)) ((a0m s.1 s.2.2.1).bind fun x3=> (show Option Z32 from cond (decide (x3<0)) (some (s.1,s.2.1,s.2.2.1,x3 != 31,())) (cond (decide (x3 > 25)) (some (s.1,s.2.1,s.2.2.1,x3 != 31,())) (some (s.1,s.2.1,s.2.2.1,false,())))).bind fun z4=> cond z4.2.2.2.1 (some (.inr (Sum.inr ((false,()))))) (some (.inl (z4.1,z4.2.1,wrap .i64 (z4.2.2.1+1),())))) (some (.inr (Sum.inl ())))
def a8X(x:(Z5×Int×Int)):Option Bool:= (a3r (x.1.1,x.2.1,x.2.2)).bind fun y1=> (show Option (Bool×Z19)from cond ((y1.length:Int)==0) (some (true,x.1,())) (some ((x.1.2.1.length:Int) != (y1.length:Int),x.1,()))).bind fun z2=> cond z2.1 (some false) ((a0h a3H (z2.2.1.2.1,(z2.2.1.2.1.length:Int),0,())).bind fun w5=> match w5 with |.inl a6=>some true |.inr b7=>some b7.1)
def b5A:FSem:=⟨[.v Q9,.v QI,.v QI],[.v .bool],a8X⟩
def d7n:Hints:=⟨[(122,[.sv 27 QL,.sv 28 QI,.sv 29 QI],[(.exit 0,[]),(.ret,[.sv 6 .bool])])],[(14,[(.normal,[.sv 25 .bool,.vp 3 Q9])]),(7833,[(.normal,[.sv 27 QL,.sv 28 QI,.sv 29 QI,.sv 42 .bool])])],[]⟩
def b0n(x:Z95):Option Bool:= (show Option Z99 from cond (decide (x.2<1)) (some (x.2,true,x.1,())) (cond (decide (x.2 > 4096)) (some (x.2,true,x.1,())) ((a9S (x.1.1,x.1,x.2)).bind fun y1=> cond (!y1) (some (x.2,true,x.1,())) ((b1H x.1).bind fun y2=> some (x.2,!y2,x.1,()))))).bind fun z3=> cond z3.2.1 (some false) ((show Option Z99 from cond (decide (z3.2.2.1.2.1<0)) (some (z3.1,true,z3.2.2.1,())) (cond (decide (z3.2.2.1.2.1 > 30)) (some (z3.1,true,z3.2.2.1,())) (cond (z3.2.2.1.1==0) (some (z3.1,z3.2.2.1.2.1 != 0,z3.2.2.1,())) (some (z3.1,false,z3.2.2.1,()))))).bind fun z4=> cond z4.2.1 (some false) ((a6h (z4.2.2.1,z4.1)).bind fun y5=> (show Option (Int×Z99)from cond ((z4.2.2.1.2.2.2.2.2.2.2.2.1.length:Int) != y5) (some (z4.1,y5,true,z4.2.2.1,())) ((a2j z4.2.2.1.2.2.2.2.2.2.2.2.1).bind fun y6=> cond (!y6) (some (z4.1,y5,true,z4.2.2.1,())) ((a2j z4.2.2.1.2.2.2.2.2.2.2.2.2.2.1).bind fun y7=> some (z4.1,y5,!y7,z4.2.2.1,())))).bind fun z8=> cond z8.2.2.1 (some false) ((a6f z8.2.2.2.1.1).bind fun y9=> cond (!y9) (cond ((z8.2.2.2.1.2.2.2.2.2.2.2.2.2.2.1.length:Int)==0) (cond (z8.2.2.2.1.2.2.2.2.2.2.2.2.2.1.1==0) (some ((z8.2.2.2.1.2.2.2.2.2.2.2.2.2.1.2.1.length:Int)==0)) (some false)) (some false)) (cond ((z8.2.2.2.1.2.2.2.2.2.2.2.2.2.2.1.length:Int)==(wrap .i64 (z8.1-z8.2.1))) ((a8X (z8.2.2.2.1.2.2.2.2.2.2.2.2.2.1,z8.1,z8.2.1)).bind fun y10=> some y10) (some false)))))
def b8H:FSem:=⟨[.v Q33,.v QI],[.v .bool],b0n⟩
def d7o:Hints:=⟨[],[(6,[(.normal,[.sv 1 QI,.sv 24 .bool,.vp 2 Q33])]),(14,[(.normal,[.sv 1 QI,.sv 42 .bool,.vp 2 Q33])]),(62,[(.normal,[.sv 1 QI,.sv 5 QI,.sv 62 .bool,.vp 2 Q33])])],[]⟩
def b4K(s:Z15):Option Z61:= cond (decide (s.2.2.1<s.2.1)) ((a0m s.1 s.2.2.1).bind fun x1=> (show Option Z32 from cond (decide (x1<(-1073741824))) (some (s.1,s.2.1,s.2.2.1,true,())) (some (s.1,s.2.1,s.2.2.1,decide (x1≥1073741824),()))).bind fun z2=> cond z2.2.2.2.1 (some (.inr (Sum.inr ((false,()))))) (some (.inl (z2.1,z2.2.1,wrap .i64 (z2.2.2.1+1),())))) (some (.inr (Sum.inl ())))
def a2E(x:(List Int)):Option Bool:= (a0h b4K (x,(x.length:Int),0,())).bind fun w3=> match w3 with |.inl a4=>some true |.inr b5=>some b5.1
def b3U:FSem:=⟨[.v QL],[.v .bool],a2E⟩
def d7p:Hints:=⟨[(26,[.sv 5 QL,.sv 6 QI,.sv 7 QI],[(.exit 0,[]),(.ret,[.sv 2 .bool])])],[(1689,[(.normal,[.sv 5 QL,.sv 6 QI,.sv 7 QI,.sv 16 .bool])])],[]⟩
def a1k(x:(Int×(List Int))):Option (Int×(List Int)):= (a0m x.2 (wrap .i64 ((x.2.length:Int)-x.1))).bind fun x1=> some (x1,x.2)
def b4L:FSem:=⟨[.v QI,.r false (.b QL)],[.v QI],a1k⟩
def d7q:Hints:=⟨[],[],[]⟩
def a9q(x:((List Int)×Int)):Option Int:= cond (x.2==1) ((a1k (1,x.1)).bind fun y1=> some y1.1) (cond (x.2==2) ((a1k (1,x.1)).bind fun y2=> (a1k (2,y2.2)).bind fun y3=> some (wrap .i64 ((wrap .i64 (2*y2.1))-y3.1))) (cond (x.2==3) ((a1k (1,x.1)).bind fun y4=> (a1k (2,y4.2)).bind fun y5=> (a1k (3,y5.2)).bind fun y6=> some (wrap .i64 ((wrap .i64 ((wrap .i64 (3*y4.1))-(wrap .i64 (3*y5.1))))+y6.1))) (cond (x.2==4) ((a1k (1,x.1)).bind fun y7=> (a1k (2,y7.2)).bind fun y8=> (a1k (3,y8.2)).bind fun y9=> (a1k (4,y9.2)).bind fun y10=> some (wrap .i64 ((wrap .i64 ((wrap .i64 ((wrap .i64 (4*y7.1))-(wrap .i64 (6*y8.1))))+(wrap .i64 (4*y9.1))))-y10.1))) (some 0))))
def b7A:FSem:=⟨[.v QL,.v QI],[.v QI],a9q⟩
def d7r:Hints:=⟨[],[],[]⟩
def a7J(s:Z53):Option (Z53 ⊕ Z42):= cond (decide (s.2.2.2.1<s.2.2.1)) ((a0m s.2.1 s.2.2.2.1).bind fun x5=> (a9q (s.2.2.2.2.1,s.1)).bind fun y6=> (a2E [wrap .i64 (x5+y6)]).bind fun y7=> cond (!y7) (some (.inr (Sum.inr ((6,[],()))))) (cond (lim ((a02 s.2.2.2.2.1)+1)) (some (.inl (s.1,s.2.1,s.2.2.1,wrap .i64 (s.2.2.2.1+1),a04 s.2.2.2.2.1 [wrap .i64 (x5+y6)],()))) none)) (some (.inr (Sum.inl (s.2.2.2.2.1,()))))
def b0o(x:Z10):Option ((List Int)×Int):= (show Option Z43 from cond (decide (x.2.2<0)) (some (x.1,x.2.1,x.2.2,true,())) (cond (decide (x.2.2 > 4)) (some (x.1,x.2.1,x.2.2,true,())) (some (x.1,x.2.1,x.2.2,(x.1.length:Int) != x.2.2,())))).bind fun z1=> cond z1.2.2.2.1 (some ([],1)) ((show Option Z43 from(a2E z1.1).bind fun y2=> cond (!y2) (some (z1.1,z1.2.1,z1.2.2.1,true,())) ((a2E z1.2.1).bind fun y3=> some (z1.1,z1.2.1,z1.2.2.1,!y3,()))).bind fun z4=> cond z4.2.2.2.1 (some ([],6)) (cond (lim (a02 z4.1)) ((a0h a7J (z4.2.2.1,z4.2.1,(z4.2.1.length:Int),0,z4.1,())).bind fun w8=> match w8 with |.inl a9=>some (a9.1,0) |.inr b10=>some (b10.2.1,b10.1)) none))
def b8I:FSem:=⟨[.v QL,.v QL,.v QI],[.o QI,.v QI],b0o⟩
def d7s:Hints:=⟨[(250,[.sv 2 QI,.sv 34 QL,.sv 35 QI,.sv 36 QI,.own 8 8 QI],[(.exit 0,[.own 8 8 QI]),(.ret,[.sv 7 QI,.own 6 6 QI])])],[(6,[(.normal,[.sv 0 QL,.sv 1 QL,.sv 2 QI,.sv 23 .bool])]),(14,[(.normal,[.sv 0 QL,.sv 1 QL,.sv 2 QI,.sv 31 .bool])])],[]⟩
def a5j(x:Int):Option Bool:= cond (decide (x≥(-1073741824))) (some (decide (x<1073741824))) (some false)
def a9r:FSem:=⟨[.v QI],[.v .bool],a5j⟩
def d7t:Hints:=⟨[],[],[]⟩
def a3A(s:Z15):Option Z61:= cond (decide (s.2.2.1<s.2.1)) ((a0m s.1 s.2.2.1).bind fun x1=> (a5j x1).bind fun y2=> cond (!y2) (some (.inr (Sum.inr ((false,()))))) (some (.inl (s.1,s.2.1,wrap .i64 (s.2.2.1+1),())))) (some (.inr (Sum.inl ())))
def a2P(x:(List Int)):Option Bool:= (a0h a3A (x,(x.length:Int),0,())).bind fun w3=> match w3 with |.inl a4=>some true |.inr b5=>some b5.1
def a6G:FSem:=⟨[.v QL],[.v .bool],a2P⟩
def d7u:Hints:=⟨[(26,[.sv 5 QL,.sv 6 QI,.sv 7 QI],[(.exit 0,[]),(.ret,[.sv 2 .bool])])],[],[]⟩
def a3B(s:Z65):Option (Z65 ⊕ (Int×Int×Unit)):= cond (decide (s.2.2.2.2.2.1<s.2.2.2.2.1)) ((a0m s.2.2.2.1 s.2.2.2.2.2.1).bind fun x1=> cond (decide ((wrap .i64 ((wrap .i64 ((s.1.length:Int)-1))-s.2.2.2.2.2.1))<0)) (some (.inr (s.2.1,s.2.2.1,()))) ((a0m s.1 (wrap .i64 ((wrap .i64 ((s.1.length:Int)-1))-s.2.2.2.2.2.1))).bind fun x2=> some (.inl (s.1,s.2.1,wrap .i64 (s.2.2.1+(wrap .i64 (x1*x2))),s.2.2.2.1,s.2.2.2.2.1,wrap .i64 (s.2.2.2.2.2.1+1),())))) (some (.inr (s.2.1,s.2.2.1,())))
def a4M(x:Z10):Option Int:= (a0h a3B (x.1,x.2.2,0,x.2.1,(x.2.1.length:Int),0,())).bind fun w3=> cond (decide (w3.1<0)) none (some (a0A .i64 w3.2.1 w3.1))
def a9J:FSem:=⟨[.v QL,.v QL,.v QI],[.v QI],a4M⟩
def d7v:Hints:=⟨[(58,[.sv 0 QL,.sv 2 QI,.sv 7 QI,.sv 11 QL,.sv 12 QI,.sv 13 QI],[(.exit 0,[.sv 2 QI,.sv 7 QI])])],[],[]⟩
def a6H(s:((List Int)×Z53)):Option (((List Int)×Z53) ⊕ Z42):= cond (decide (s.2.2.2.2.1<s.2.2.2.1)) ((a0m s.2.2.1 s.2.2.2.2.1).bind fun x6=> (a4M (s.2.2.2.2.2.1,s.1,s.2.1)).bind fun y7=> (a5j (wrap .i64 (y7+x6))).bind fun y8=> cond (!y8) (some (.inr (Sum.inr ((6,[],()))))) (cond (lim ((a02 s.2.2.2.2.2.1)+1)) (some (.inl (s.1,s.2.1,s.2.2.1,s.2.2.2.1,wrap .i64 (s.2.2.2.2.1+1),a04 s.2.2.2.2.2.1 [wrap .i64 (y7+x6)],()))) none)) (some (.inr (Sum.inl (s.2.2.2.2.2.1,()))))
def a7d(x:((List Int)×Z10)):Option ((List Int)×Int):= (show Option ((List Int)×Z43)from(a4L (x.2.2.1,x.2.2.2)).bind fun y1=> cond (!y1) (some (x.1,x.2.1,x.2.2.1,x.2.2.2,true,())) (some (x.1,x.2.1,x.2.2.1,x.2.2.2,(x.1.length:Int) != (x.2.2.1.length:Int),()))).bind fun z2=> cond z2.2.2.2.2.1 (some ([],1)) ((show Option ((List Int)×Z43)from(a2P z2.1).bind fun y3=> cond (!y3) (some (z2.1,z2.2.1,z2.2.2.1,z2.2.2.2.1,true,())) ((a2P z2.2.1).bind fun y4=> some (z2.1,z2.2.1,z2.2.2.1,z2.2.2.2.1,!y4,()))).bind fun z5=> cond z5.2.2.2.2.1 (some ([],6)) (cond ((decide (0≤(wrap .i64 ((z5.1.length:Int)+(z5.2.1.length:Int)))))&&(lim (a01 (wrap .i64 ((z5.1.length:Int)+(z5.2.1.length:Int)))))) (cond (lim (0+(a02 z5.1))) ((a0h a6H (z5.2.2.1,z5.2.2.2.1,z5.2.1,(z5.2.1.length:Int),0,a04 [] z5.1,())).bind fun w9=> match w9 with |.inl a10=>some (a10.1,0) |.inr b11=>some (b11.2.1,b11.1)) none) none))
def b7B:FSem:=⟨[.v QL,.v QL,.v QL,.v QI],[.o QI,.v QI],a7d⟩
def d7w:Hints:=⟨[(506,[.sv 2 QL,.sv 3 QI,.sv 42 QL,.sv 43 QI,.sv 44 QI,.own 10 10 QI],[(.exit 0,[.own 10 10 QI]),(.ret,[.sv 9 QI,.own 8 8 QI])])],[(6,[(.normal,[.sv 0 QL,.sv 1 QL,.sv 2 QL,.sv 3 QI,.sv 24 .bool])]),(14,[(.normal,[.sv 0 QL,.sv 1 QL,.sv 2 QL,.sv 3 QI,.sv 32 .bool])])],[]⟩
def a7v(x:Int):Option Bool:= cond (decide (x≥(-1073741824))) (some (decide (x<1073741824))) (some false)
def b1J:FSem:=⟨[.v QI],[.v .bool],a7v⟩
def d7x:Hints:=⟨[],[],[]⟩
def a4k(s:Z15):Option Z61:= cond (decide (s.2.2.1<s.2.1)) ((a0m s.1 s.2.2.1).bind fun x1=> (a7v x1).bind fun y2=> cond (!y2) (some (.inr (Sum.inr ((false,()))))) (some (.inl (s.1,s.2.1,wrap .i64 (s.2.2.1+1),())))) (some (.inr (Sum.inl ())))
def a4B(x:(List Int)):Option Bool:= (a0h a4k (x,(x.length:Int),0,())).bind fun w3=> match w3 with |.inl a4=>some true |.inr b5=>some b5.1
def a8A:FSem:=⟨[.v QL],[.v .bool],a4B⟩
def d7y:Hints:=⟨[(26,[.sv 5 QL,.sv 6 QI,.sv 7 QI],[(.exit 0,[]),(.ret,[.sv 2 .bool])])],[],[]⟩
def a4l(s:((List Int)×(Int×Int×Z17))):Option (((List Int)×(Int×Int×Z17)) ⊕ (Int×Unit)):= cond (decide (s.2.2.2.2.2.1<3)) ((a0m s.2.2.2.2.1 s.2.2.2.2.2.1).bind fun x1=> cond (decide ((wrap .i64 ((wrap .i64 ((wrap .i64 (s.2.1-s.2.2.1))-1))+s.2.2.2.2.2.1))≥0)) ((a0m s.1 (wrap .i64 ((wrap .i64 ((wrap .i64 (s.2.1-s.2.2.1))-1))+s.2.2.2.2.2.1))).bind fun x2=> some (.inl (s.1,s.2.1,s.2.2.1,wrap .i64 (s.2.2.2.1+(wrap .i64 (x1*x2))),s.2.2.2.2.1,wrap .i64 (s.2.2.2.2.2.1+1),()))) (some (.inl (s.1,s.2.1,s.2.2.1,s.2.2.2.1,s.2.2.2.2.1,wrap .i64 (s.2.2.2.2.2.1+1),())))) (some (.inr (s.2.2.2.1,())))
def a4C(x:((List Int)×Z1)):Option Int:= (a0h a4l (x.1,x.2.1,x.2.2.1,0,x.2.2.2,0,())).bind fun w3=> some (a0A .i64 w3.1 6)
def b1k:FSem:=⟨[.v QL,.v QI,.v QI,.v (.arr 3 QI)],[.v QI],a4C⟩
def d7z:Hints:=⟨[(58,[.sv 0 QL,.sv 1 QI,.sv 2 QI,.sv 9 QI,.sv 13 (.arr 3 QI),.sv 14 QI],[(.exit 0,[.sv 9 QI])])],[],[]⟩
def a8B(s:Z74):Option (Z74 ⊕ Z42):= cond (decide (s.2.2.2.1<s.2.2.1)) ((a0m s.2.1 s.2.2.2.1).bind fun x3=> (a4C (s.2.2.2.2.1,s.2.2.2.1,s.1,s.2.2.2.2.2.1)).bind fun y4=> (a7v (wrap .i64 (x3+y4))).bind fun y5=> cond (!y5) (some (.inr (Sum.inr ((6,[],()))))) (cond (lim ((a02 s.2.2.2.2.1)+1)) (some (.inl (s.1,s.2.1,s.2.2.1,wrap .i64 (s.2.2.2.1+1),a04 s.2.2.2.2.1 [wrap .i64 (x3+y4)],s.2.2.2.2.2.1,()))) none)) (some (.inr (Sum.inl (s.2.2.2.2.1,()))))
def b1K(x:((List Int)×(Int×(List Int)))):Option ((List Int)×Int):= (a8z (x.2.1,x.2.2)).bind fun y1=> cond (!y1) (some ([],1)) ((a4B x.1).bind fun y2=> cond (!y2) (some ([],6)) (cond ((decide (0≤(x.1.length:Int)))&&(lim (a01 (x.1.length:Int)))) ((a0h a8B (x.2.1,x.1,(x.1.length:Int),0,[],x.2.2,())).bind fun w6=> match w6 with |.inl a7=>some (a7.1,0) |.inr b8=>some (b8.2.1,b8.1)) none))
def b9Y:FSem:=⟨[.v QL,.v QI,.v (.arr 3 QI)],[.o QI,.v QI],b1K⟩
def d7A:Hints:=⟨[(250,[.sv 1 QI,.sv 22 QL,.sv 23 QI,.sv 24 QI,.own 8 8 QI,.vp 5 (.arr 3 QI)],[(.exit 0,[.own 8 8 QI]),(.ret,[.sv 7 QI,.own 6 6 QI])])],[],[]⟩
def a6j(x:Int):Option Bool:= cond (decide (x≥(-1073741824))) (some (decide (x<1073741824))) (some false)
def b0p:FSem:=⟨[.v QI],[.v .bool],a6j⟩
def d7B:Hints:=⟨[],[],[]⟩
def a3U(s:Z15):Option Z61:= cond (decide (s.2.2.1<s.2.1)) ((a0m s.1 s.2.2.1).bind fun x1=> (a6j x1).bind fun y2=> cond (!y2) (some (.inr (Sum.inr ((false,()))))) (some (.inl (s.1,s.2.1,wrap .i64 (s.2.2.1+1),())))) (some (.inr (Sum.inl ())))
def a5u(x:(List Int)):Option Bool:= (a0h a3U (x,(x.length:Int),0,())).bind fun w3=> match w3 with |.inl a4=>some true |.inr b5=>some b5.1
def b0q:FSem:=⟨[.v QL],[.v .bool],a5u⟩
def d7C:Hints:=⟨[(26,[.sv 5 QL,.sv 6 QI,.sv 7 QI],[(.exit 0,[]),(.ret,[.sv 2 .bool])])],[],[]⟩
def a8Y(x:(Int×Int×Unit)):Option (Z23×Int):= (a7c x).bind fun y1=> cond (!y1) none (cond ((decide (0≤x.1))&&((decide (x.1≤x.1))&&(lim (a01 x.1)))) (cond ((decide (0≤x.1))&&((decide (x.1≤x.1))&&(lim (a01 x.1)))) (some ((x.2.1,a00 (a01 x.1) 0,a00 (a01 x.1) 0,()),0)) none) none)
def b5B:FSem:=⟨[.v Q3],[.b Q14,.v QI],a8Y⟩
def d7D:Hints:=⟨[],[],[(3,[.v,.v,.v,.v,.q,.v,.v,.q,.x,.x,.x,.x])]⟩
def a5v(x:Int):Option Int:= some (a3u (a2m x (-1073741824)) 1073741823)
def b0r:FSem:=⟨[.v QI],[.v QI],a5v⟩
def d7E:Hints:=⟨[],[],[]⟩
def a3x(s:Z76):Option (Z76 ⊕ Z55):= cond (decide (s.2.2.1<s.2.1)) (cond ((decide (0≤s.2.2.1))&&(decide (s.2.2.1<(s.2.2.2.1.2.1.length:Int)))) (cond ((decide (0≤s.2.2.1))&&(decide (s.2.2.1<(s.2.2.2.1.2.2.1.length:Int)))) (some (.inl (wrap .i64 (s.1+(wrap .i64 ((a03 s.2.2.2.1.2.1 (a01 s.2.2.1) 0)*(a03 s.2.2.2.1.2.2.1 (a01 s.2.2.1) 0)))),s.2.1,wrap .i64 (s.2.2.1+1),s.2.2.2.1,()))) none) none) (some (.inr (s.1,s.2.2.2.1,())))
def a2l(x:Z23):Option Z38:= (a0h a3x (0,(x.2.1.length:Int),0,x,())).bind fun w1=> (a5v (a0A .i64 w1.1 16)).bind fun y2=> some (y2,w1.2.1)
def a4q:FSem:=⟨[.r false (.b Q14)],[.v QI],a2l⟩
def d7F:Hints:=⟨[(58,[.sv 3 QI,.sv 10 QI,.sv 11 QI,.box pinned Q14,.ptr 0 pinned [],.ref 9 pinned [.snd,.fst]],[(.exit 0,[.sv 3 QI,.box pinned Q14])])],[],[]⟩
def a2F(s:(Int×Z76)):Option ((Int×Z76) ⊕ Z55):= cond (decide (s.2.2.2.1<s.2.2.1)) (cond ((decide (0≤s.2.2.2.1))&&(decide (s.2.2.2.1<(s.2.2.2.2.1.2.2.1.length:Int)))) (cond ((decide (0≤s.2.2.2.1))&&(decide (s.2.2.2.1<(s.2.2.2.2.1.2.1.length:Int)))) ((show Option (Int×Int×Int×Z76)from cond (decide ((a03 s.2.2.2.2.1.2.2.1 (a01 s.2.2.2.1) 0) > 0)) (some (s.1,s.2.1,s.2.2.2.1,wrap .i64 ((a03 s.2.2.2.2.1.2.1 (a01 s.2.2.2.1) 0)+s.2.1),s.2.2.1,s.2.2.2.1,s.2.2.2.2.1,())) (cond (decide ((a03 s.2.2.2.2.1.2.2.1 (a01 s.2.2.2.1) 0)<0)) (some (s.1,s.2.1,s.2.2.2.1,wrap .i64 ((a03 s.2.2.2.2.1.2.1 (a01 s.2.2.2.1) 0)-s.2.1),s.2.2.1,s.2.2.2.1,s.2.2.2.2.1,())) (some (s.1,s.2.1,s.2.2.2.1,a03 s.2.2.2.2.1.2.1 (a01 s.2.2.2.1) 0,s.2.2.1,s.2.2.2.1,s.2.2.2.2.1,())))).bind fun z4=> cond ((decide (0≤z4.2.2.1))&&(decide (z4.2.2.1<(z4.2.2.2.2.2.2.1.2.1.length:Int)))) (some (.inl (z4.1,z4.2.1,z4.2.2.2.2.1,wrap .i64 (z4.2.2.2.2.2.1+1),(z4.2.2.2.2.2.2.1.1,a05 z4.2.2.2.2.2.2.1.2.1 (a01 z4.2.2.1) (a3u (a2m z4.2.2.2.1 (-1048576)) 1048576),z4.2.2.2.2.2.2.1.2.2),()))) none) none) none) (some (.inr (s.1,s.2.2.2.2.1,())))
def a3C(x:(Z23×Int)):Option Z23:= (a5v x.2).bind fun y1=> (show Option Z68 from(a2l x.1).bind fun y2=> cond (decide (y1 > y2.1)) (cond (decide (y2.2.1<0)) none (some (y1,a0z .i64 1 y2.2.1,y2.2,()))) (cond (decide (y1<y2.1)) (cond (decide (y2.2.1<0)) none (some (y1,wrap .i64 (0-(a0z .i64 1 y2.2.1)),y2.2,()))) (some (y1,0,y2.2,())))).bind fun z3=> (a0h a2F (z3.1,z3.2.1,(z3.2.2.1.2.2.1.length:Int),0,z3.2.2.1,())).bind fun w5=> cond (decide (1≤(w5.2.1.2.2.1.length:Int))) (cond (decide (0<(a02 (b2X w5.2.1.2.2.1 1 ((a02 w5.2.1.2.2.1)-1) w5.2.1.2.2.1):Int))) (some (w5.2.1.1,w5.2.1.2.1,a05 (b2X w5.2.1.2.2.1 1 ((a02 w5.2.1.2.2.1)-1) w5.2.1.2.2.1) 0 w5.1,w5.2.1.2.2.2)) none) none
def a7G:FSem:=⟨[.r false (.b Q14),.v QI],[],a3C⟩
def d7G:Hints:=⟨[(122,[.sv 1 QI,.sv 4 QI,.sv 36 QI,.sv 37 QI,.box pinned Q14,.ptr 0 pinned [],.ref 35 pinned [.snd,.snd,.fst]],[(.exit 1,[.sv 1 QI,.box pinned Q14,.ptr 0 pinned []])])],[(7,[(.normal,[.sv 1 QI,.sv 4 QI,.box pinned Q14,.ptr 0 pinned []])]),(15667,[(.normal,[.sv 1 QI,.sv 4 QI,.sv 6 QI,.sv 8 QI,.sv 36 QI,.sv 37 QI,.box pinned Q14,.ptr 0 pinned [],.ref 35 pinned [.snd,.snd,.fst]])])],[(17,[.p,.p,.q,.q,.q,.p,.p,.q,.q,.x])]⟩
def a5w(s:(Int×(Int×((List Int)×Z75)))):Option ((Int×(Int×((List Int)×Z75))) ⊕ (Z24 ⊕ Z24)):= cond (decide (s.2.1<s.1)) (cond ((decide (0≤s.2.1))&&(decide (s.2.1<(s.2.2.2.2.1.length:Int)))) ((a2l s.2.2.2.2.2.1).bind fun y6=> (a6j (wrap .i64 (y6.1+(a03 s.2.2.2.2.1 (a01 s.2.1) 0)))).bind fun y7=> cond (!y7) (some (.inr (Sum.inr (([],6,s.2.2.2.2.1,()))))) ((a3C (y6.2,wrap .i64 (y6.1+(a03 s.2.2.2.2.1 (a01 s.2.1) 0)))).bind fun y8=> cond ((decide (0≤s.2.1))&&(decide (s.2.1<(s.2.2.2.2.1.length:Int)))) (some (.inl (s.1,wrap .i64 (s.2.1+1),s.2.2.1,s.2.2.2.1,a05 s.2.2.2.2.1 (a01 s.2.1) (wrap .i64 (y6.1+(a03 s.2.2.2.2.1 (a01 s.2.1) 0))),y8,()))) none)) none) (some (.inr (Sum.inl (s.2.2.1,s.2.2.2.1,s.2.2.2.2.1,()))))
def a7K(k:Int)(v:(Int×Int×Unit))(s:(Z4×Z24)):Option ((Z4×Z24) ⊕ (Ex×Z4×Z24)):= (a8Y v).bind fun y4=> cond (y4.2 != 0) (some (.inr (.ret,s.1,[],y4.2,s.2.2.2.1,()))) ((a0h a5w ((s.2.2.2.1.length:Int),0,s.2.1,s.2.2.1,s.2.2.2.1,y4.1,())).bind fun w9=> match w9 with |.inl a10=>some (.inl (s.1,a10.1,a10.2.1,a10.2.2.1,())) |.inr b11=>some (.inr (.ret,s.1,b11.1,b11.2.1,b11.2.2.1,())))
def b0s(x:((List Int)×Z4)):Option ((List Int)×Int):= (a7t x.2).bind fun y1=> cond (!y1) (some ([],1)) ((a5u x.1).bind fun y2=> cond (!y2) (some ([],6)) ((a1d x.1).bind fun y3=> cond (lim (a02 x.2)) ((a5t a7K x.2 (a02 x.2) (x.2,[],0,y3,())).bind fun w12=> match w12 with |.inl a13=>some (a13.2.2.2.1,0) |.inr (.normal,a14)=>some (a14.2.2.2.1,0) |.inr (.exit e15,a14)=>(cond (e15==0) (some (a14.2.2.2.1,0)) none) |.inr (.ret,a14)=>some (a14.2.1,a14.2.2.1)) none))
def a8b:FSem:=⟨[.v QL,.v (.list false Q3)],[.v QL,.v QI],b0s⟩
def d7H:Hints:=⟨[(8046,[.sv 35 QI,.sv 36 QI,.box 1001004 QL,.box 1001005 QI,.box 1001006 (.list true QI),.box 1028 Q14,.ptr 4 1001004 [],.ptr 5 1001005 [],.ptr 6 1001006 [],.ptr 9 1028 [],.ref 34 1001006 []],[(.exit 2,[.box 1001004 QL,.box 1001005 QI,.box 1001006 (.list true QI),.ptr 4 1001004 [],.ptr 5 1001005 [],.ptr 6 1001006 []]),(.ret,[.box 1001004 QL,.box 1001005 QI,.box 1001006 (.list true QI),.ptr 4 1001004 [],.ptr 5 1001005 [],.ptr 6 1001006 []])])],[],[]⟩
def d3g:Cx:=b8G [(87,a0V),(219,b1G),(259,b0q),(261,b5B),(262,a4q),(263,b0p),(264,a7G)] [(6,.list true QI)] [0,1,9,10,11,12,13] [56]
def d4N:HintR:=⟨22,Q3,260,295,[4,5,6],[.sv 22 (.list false Q3),.box 1001004 QL,.box 1001005 QI,.box 1001006 (.list true QI),.ptr 4 1001004 [],.ptr 5 1001005 [],.ptr 6 1001006 []]⟩
theorem d5w(x):c5o d3g d7H d4N Tryz.f193 a8b.ps a8b.rs x=a8b.F x:=by kernel_rfl
def a5k(x:Int):Option Bool:= cond (decide ((-1073741824)≤x)) (some (decide (x<1073741824))) (some false)
def b2L:FSem:=⟨[.v QI],[.v .bool],a5k⟩
def d7I:Hints:=⟨[],[],[]⟩
def a8C(s:Z53):Option (Z53 ⊕ Z42):= cond (decide (s.2.2.2.1<s.2.2.1)) ((a0m s.2.1 s.2.2.2.1).bind fun x2=> (show Option (Int×(Int×((List Int)×(Int×Int×Z8))))from(a5k x2).bind fun y3=> cond (!y3) (some (s.1,x2,s.2.1,s.2.2.1,s.2.2.2.1,true,s.2.2.2.2.1,())) (cond (decide (s.1<0)) none ((a5k (a0z .i64 x2 s.1)).bind fun y4=> some (s.1,x2,s.2.1,s.2.2.1,s.2.2.2.1,!y4,s.2.2.2.2.1,())))).bind fun z5=> cond z5.2.2.2.2.2.1 (some (.inr (Sum.inr ((6,[],()))))) (cond (decide (z5.1<0)) none (cond (lim ((a02 z5.2.2.2.2.2.2.1)+1)) (some (.inl (z5.1,z5.2.2.1,z5.2.2.2.1,wrap .i64 (z5.2.2.2.2.1+1),a04 z5.2.2.2.2.2.2.1 [a0z .i64 z5.2.1 z5.1],()))) none))) (some (.inr (Sum.inl (s.2.2.2.2.1,()))))
def a8Z(x:((List Int)×Int)):Option ((List Int)×Int):= (show Option Z18 from cond (decide (x.2<0)) (some (x.1,x.2,true,())) (some (x.1,x.2,decide (x.2 > 30),()))).bind fun z1=> cond z1.2.2.1 (some ([],1)) ((a0h a8C (z1.2.1,z1.1,(z1.1.length:Int),0,[],())).bind fun w6=> match w6 with |.inl a7=>some (a7.1,0) |.inr b8=>some (b8.2.1,b8.1))
def b9Z:FSem:=⟨[.v QL,.v QI],[.o QI,.v QI],a8Z⟩
def d7J:Hints:=⟨[(122,[.sv 1 QI,.sv 15 QL,.sv 16 QI,.sv 17 QI,.own 6 6 QI],[(.exit 0,[.own 6 6 QI]),(.ret,[.sv 5 QI,.own 4 4 QI])])],[(6,[(.normal,[.sv 0 QL,.sv 1 QI,.sv 14 .bool])]),(15666,[(.normal,[.sv 1 QI,.sv 8 QI,.sv 15 QL,.sv 16 QI,.sv 17 QI,.sv 30 .bool,.own 6 6 QI])])],[]⟩
def a7e(s:(Int×(Int×((List Int)×Z96)))):Option ((Int×(Int×((List Int)×Z96))) ⊕ ((List Int)×Unit)):= cond (decide (s.2.1<s.1)) ((a0m s.2.2.2.1.2.2.2.2.2.2.2.2.1 0).bind fun x1=> cond (lim ((a02 s.2.2.1)+1)) (some (.inl (s.1,wrap .i64 (s.2.1+1),a04 s.2.2.1 [x1],s.2.2.2.1,()))) none) (some (.inr (s.2.2.1,())))
def b3g(x:Z95):Option ((List Int)×Int):= (show Option (((List Int)×(Int×Z96)) ⊕ Z5)from cond (x.1.1==0) ((a0h a7e (x.2,0,[],x.1,())).bind fun w2=> some (Sum.inr ((0,w2.1,())))) (cond (x.1.1==1) (some (Sum.inl (x.1.2.2.2.2.2.2.2.2.1,0,x.1,()))) (cond (x.1.1==2) ((b0o (x.1.2.2.2.2.2.2.2.2.1,x.1.2.2.2.2.2.2.2.2.2.2.1,x.1.2.2.1)).bind fun y3=> some (Sum.inl (y3.1,y3.2,x.1,()))) (cond (x.1.1==3) ((a7d (x.1.2.2.2.2.2.2.2.2.1,x.1.2.2.2.2.2.2.2.2.2.2.1,x.1.2.2.2.2.2.1,x.1.2.2.2.1)).bind fun y4=> some (Sum.inl (y4.1,y4.2,x.1,()))) (cond (x.1.1==4) ((a7d (x.1.2.2.2.2.2.2.2.2.1,x.1.2.2.2.2.2.2.2.2.2.2.1,x.1.2.2.2.2.2.1,x.1.2.2.2.1)).bind fun y5=> cond (y5.2==0) ((b1K (y5.1,x.1.2.2.2.2.1,x.1.2.2.2.2.2.2.1)).bind fun y6=> some (Sum.inl (y6.1,y6.2,x.1,()))) (some (Sum.inl (y5.1,y5.2,x.1,())))) (cond (x.1.1==5) ((b0s (x.1.2.2.2.2.2.2.2.2.2.2.1,x.1.2.2.2.2.2.2.2.1)).bind fun y7=> some (Sum.inl (y7.1,y7.2,x.1,()))) (some (Sum.inl ([],0,x.1,()))))))))).bind fun z8=> match z8 with |.inl a9=>(cond (a9.2.1 != 0) (some ([],a9.2.1)) ((a8Z (a9.1,a9.2.2.1.2.1)).bind fun y11=> some (y11.1,y11.2))) |.inr b10=>some (b10.2.1,b10.1)
def c2a:FSem:=⟨[.v Q33,.v QI],[.o QI,.v QI],b3g⟩
def d7K:Hints:=⟨[(3922,[.sv 12 QI,.sv 13 QI,.own 6 6 QI,.vp 2 Q33],[(.exit 1,[.own 6 6 QI])])],[(15,[(.normal,[.sv 6 QL,.sv 7 QI,.vp 2 Q33]),(.ret,[.sv 5 QI,.own 4 6 QI])])],[]⟩
def b2q(x:Z95):Option ((List Int)×Int):= (b0n (x.1,x.2)).bind fun y1=> cond (!y1) (some ([],1)) ((b3g (x.1,x.2)).bind fun y2=> cond (y2.2 != 0) (some ([],1)) (some (y2.1,0)))
def b8J:FSem:=⟨[.v Q33,.v QI],[.o QI,.v QI],b2q⟩
def H45:Hints:=⟨[],[],[]⟩
def a9a(x:Int):Option Bool:= cond (decide ((-1073741824)≤x)) (some (decide (x<1073741824))) (some false)
def b5C:FSem:=⟨[.v QI],[.v .bool],a9a⟩
def d7L:Hints:=⟨[],[],[]⟩
def a4D(s:((List (List Int))×((List (List Int))×Z44))):Option (((List (List Int))×((List (List Int))×Z44)) ⊕ (((List (List Int))×Z25) ⊕ (Bool×Unit))):= cond (decide (s.2.2.2.2.2.2.1<s.2.2.2.2.2.1)) ((a0m s.2.2.2.2.1 s.2.2.2.2.2.2.1).bind fun x5=> (a9a x5).bind fun y6=> cond (!y6) (some (.inr (Sum.inr ((false,()))))) (some (.inl (s.1,s.2.1,s.2.2.1,s.2.2.2.1,s.2.2.2.2.1,s.2.2.2.2.2.1,wrap .i64 (s.2.2.2.2.2.2.1+1),())))) (some (.inr (Sum.inl (s.1,s.2.1,s.2.2.1,s.2.2.2.1,()))))
def a4E(s:((List (List Int))×Z25)):Option (((List (List Int))×Z25) ⊕ Z0):= cond (decide (s.2.2.2.1<s.2.2.1)) ((a0m s.2.1 s.2.2.2.1).bind fun x3=> (a0m s.1 0).bind fun x4=> cond ((x3.length:Int) != (x4.length:Int)) (some (.inr (Sum.inr ((false,()))))) ((a0h a4D (s.1,s.2.1,s.2.2.1,s.2.2.2.1,x3,(x3.length:Int),0,())).bind fun w7=> match w7 with |.inl a8=>some (.inl (a8.1,a8.2.1,a8.2.2.1,wrap .i64 (a8.2.2.2.1+1),())) |.inr b9=>some (.inr (Sum.inr ((b9.1,())))))) (some (.inr (Sum.inl ())))
def a7w(x:(List (List Int))):Option Bool:= (show Option ((List (List Int))×(Bool×Unit))from cond (decide ((x.length:Int)<1)) (some (x,true,())) (cond (decide ((x.length:Int) > 8)) (some (x,true,())) ((a0m x 0).bind fun x1=> some (x,decide ((x1.length:Int) > 4096),())))).bind fun z2=> cond z2.2.1 (some false) ((a0h a4E (z2.1,z2.1,(z2.1.length:Int),0,())).bind fun w10=> match w10 with |.inl a11=>some true |.inr b12=>some b12.1)
def b1L:FSem:=⟨[.v (.list false QL)],[.v .bool],a7w⟩
def d7M:Hints:=⟨[(58,[.sv 0 (.list false QL),.sv 22 (.list false QL),.sv 23 QI,.sv 24 QI],[(.exit 0,[]),(.ret,[.sv 2 .bool])]),(29902,[.sv 0 (.list false QL),.sv 22 (.list false QL),.sv 23 QI,.sv 24 QI,.sv 35 QL,.sv 36 QI,.sv 37 QI],[(.exit 2,[.sv 0 (.list false QL),.sv 22 (.list false QL),.sv 23 QI,.sv 24 QI]),(.ret,[.sv 2 .bool])])],[(6,[(.normal,[.sv 0 (.list false QL),.sv 21 .bool])])],[]⟩
def a6I(s:((List (List Int))×Z26)):Option (((List (List Int))×Z26) ⊕ Z2):= cond (decide (s.2.2.1<s.2.1)) ((a0m s.1 s.2.2.1).bind fun x1=> (a1d x1).bind fun y2=> cond (lim ((a02 s.2.2.2.1)+(a02 (a05 ([[]]:List (List Int)) 0 y2)))) (some (.inl (s.1,s.2.1,wrap .i64 (s.2.2.1+1),a04 s.2.2.2.1 (a05 ([[]]:List (List Int)) 0 y2),()))) none) (some (.inr (s.2.2.2.1,())))
def a7f(x:(List (List Int))):Option (List (List Int)):= (a0h a6I (x,(x.length:Int),0,([]:(List (List Int))),())).bind fun w3=> some w3.1
def b2M:FSem:=⟨[.v (.list false QL)],[.o (.list true QI)],a7f⟩
def d7N:Hints:=⟨[(58,[.sv 6 (.list false QL),.sv 7 QI,.sv 8 QI,.own 3 3 (.list true QI)],[(.exit 0,[.own 3 3 (.list true QI)])])],[],[]⟩
def a3Y(s:(Int×(Int×(Int×((List (List Int))×(Z7×Int×Unit)))))):Option ((Int×(Int×(Int×((List (List Int))×(Z7×Int×Unit))))) ⊕ (Z2 ⊕ (Bool×Z2))):= cond (decide (s.2.2.1<s.2.1)) (cond ((decide (0≤s.2.2.1))&&(decide (s.2.2.1<((a02 (a03 s.2.2.2.1 (a01 s.2.2.2.2.2.1) []):Nat):Int)))) (cond ((decide (0≤s.2.2.2.2.1.2.1))&&(decide (s.2.2.2.2.1.2.1<(s.2.2.2.1.length:Int)))) (cond ((decide (0≤s.2.2.1))&&(decide (s.2.2.1<((a02 (a03 s.2.2.2.1 (a01 s.2.2.2.2.1.2.1) []):Nat):Int)))) ((a9a (wrap .i64 ((a03 (a03 s.2.2.2.1 (a01 s.2.2.2.2.1.2.1) []) (a01 s.2.2.1) 0)+(wrap .i64 (s.1*(a0A .i64 (wrap .i64 (s.2.2.2.2.1.2.2.1*(a03 (a03 s.2.2.2.1 (a01 s.2.2.2.2.2.1) []) (a01 s.2.2.1) 0))) 8)))))).bind fun y1=> cond (!y1) (some (.inr (Sum.inr ((false,s.2.2.2.1,()))))) (cond ((decide (0≤s.2.2.2.2.1.2.1))&&(decide (s.2.2.2.2.1.2.1<(s.2.2.2.1.length:Int)))) (cond ((decide (0≤s.2.2.1))&&(decide (s.2.2.1<((a02 (a03 s.2.2.2.1 (a01 s.2.2.2.2.1.2.1) []):Nat):Int)))) (some (.inl (s.1,s.2.1,wrap .i64 (s.2.2.1+1),a05 s.2.2.2.1 (a01 s.2.2.2.2.1.2.1) (a05 (a03 s.2.2.2.1 (a01 s.2.2.2.2.1.2.1) []) (a01 s.2.2.1) (wrap .i64 ((a03 (a03 s.2.2.2.1 (a01 s.2.2.2.2.1.2.1) []) (a01 s.2.2.1) 0)+(wrap .i64 (s.1*(a0A .i64 (wrap .i64 (s.2.2.2.2.1.2.2.1*(a03 (a03 s.2.2.2.1 (a01 s.2.2.2.2.2.1) []) (a01 s.2.2.1) 0))) 8)))))),s.2.2.2.2.1,((a01 s.2.2.2.2.2.1:Nat):Int),()))) none) none)) none) none) none) (some (.inr (Sum.inl (s.2.2.2.1,()))))
def a8c(x:((List (List Int))×(Z7×Int))):Option (Bool×(List (List Int))):= cond ((decide (0≤x.2.1.1))&&(decide (x.2.1.1<(x.1.length:Int)))) ((a0h a3Y (x.2.2,((a02 (a03 x.1 (a01 x.2.1.1) []):Nat):Int),0,x.1,x.2.1,((a01 x.2.1.1:Nat):Int),())).bind fun w2=> match w2 with |.inl a3=>some (true,a3.1) |.inr b4=>some (b4.1,b4.2.1)) none
def b3V:FSem:=⟨[.r false (.o (.list true QI)),.v Q10,.v QI],[.v .bool],a8c⟩
def d7O:Hints:=⟨[(26,[.sv 2 QI,.sv 15 QI,.sv 16 QI,.own 0 pinned (.list true QI),.vp 4 Q10,.rfi 14 pinned],[(.exit 0,[.own 0 pinned (.list true QI)]),(.ret,[.sv 6 .bool,.own 0 pinned (.list true QI)])])],[],[(4,[.q,.v,.v,.q,.q,.v,.q,.q,.v,.v,.v,.v,.v,.v,.v,.x,.x])]⟩
def a3I(k:Int)(v:Z7)(s:(Z14×((List (List Int))×Z12))):Option ((Z14×((List (List Int))×Z12)) ⊕ (Ex×(Z14×((List (List Int))×Z12)))):= (a8c (s.2.2.2.1,v,(-1))).bind fun y5=> cond (!y5.1) (some (.inr (.ret,s.1,([]:(List (List Int))),6,y5.2,()))) (some (.inl (s.1,s.2.1,s.2.2.1,y5.2,())))
def b1M(x:((List (List Int))×Z14)):Option ((List (List Int))×Int):= (show Option ((List (List Int))×(Z14×Bool×Z13))from(a7w x.1).bind fun y1=> cond (!y1) (some (x.1,x.2,true,([]:(List (List Int))),0,())) ((a8y (x.2,(x.1.length:Int))).bind fun y2=> some (x.1,x.2,!y2,([]:(List (List Int))),0,()))).bind fun z3=> cond z3.2.2.1 (some (([]:(List (List Int))),1)) ((a7f z3.1).bind fun y4=> cond (lim (a02 z3.2.1)) ((a5t a3I z3.2.1 (a02 z3.2.1) (z3.2.1,z3.2.2.2.1,z3.2.2.2.2.1,y4,())).bind fun w6=> match w6 with |.inl a7=>some (a7.2.2.2.1,0) |.inr (.normal,a8)=>some (a8.2.2.2.1,0) |.inr (.exit e9,a8)=>(cond (e9==0) (some (a8.2.2.2.1,0)) none) |.inr (.ret,a8)=>some (a8.2.1,a8.2.2.1)) none)
def a9b:FSem:=⟨[.v (.list false QL),.v (.list false Q10)],[.v (.list false QL),.v QI],b1M⟩
def H46:Hints:=⟨[],[(6,[(.normal,[.sv 0 (.list false QL),.sv 1 (.list false Q10),.sv 18 .bool,.box 4 (.list false QL),.box 5 QI,.ptr 4 4 [],.ptr 5 5 []])])],[]⟩
def d4O:Cx:=b8G [(102,b3e),(105,b1L),(106,b2M),(108,b3V)] [(6,.list true (.list true QI))] [0,1] [29]
def R46:HintR:=⟨21,Q10,107,196,[4,5,6],[.sv 21 (.list false Q10),.box 1001004 (.list false QL),.box 1001005 QI,.box 1001006 (.list true (.list true QI)),.ptr 4 1001004 [],.ptr 5 1001005 [],.ptr 6 1001006 []]⟩
theorem d7P(x):c5o d4O H46 R46 Tryz.f46 a9b.ps a9b.rs x=a9b.F x:=by kernel_rfl
def a3M(x:Z12):Option Int:= cond ((x.2.1.length:Int)==0) (some 0) ((a0m x.2.1 0).bind fun x1=> some (x1.length:Int))
def a9c:FSem:=⟨[.v Q12],[.v QI],a3M⟩
def H35:Hints:=⟨[],[],[]⟩
def b3W(x:Int):Option Int:= (show Option (Int×Bool×Unit)from cond (decide (x<1)) (some (x,true,())) (some (x,decide (x > 31),()))).bind fun z1=> cond z1.2.1 (some 0) (cond (decide ((wrap .i64 (z1.1-1))<0)) none (some (a0z .i64 (-1) (wrap .i64 (z1.1-1)))))
def b8K:FSem:=⟨[.v QI],[.v QI],b3W⟩
def d7Q:Hints:=⟨[],[(6,[(.normal,[.sv 0 QI,.sv 8 .bool])])],[]⟩
def b2N(x:Int):Option Int:= (show Option (Int×Bool×Unit)from cond (decide (x<1)) (some (x,true,())) (some (x,decide (x > 31),()))).bind fun z1=> cond z1.2.1 (some 0) (cond (decide ((wrap .i64 (z1.1-1))<0)) none (some (wrap .i64 ((a0z .i64 1 (wrap .i64 (z1.1-1)))-1))))
def b7C:FSem:=⟨[.v QI],[.v QI],b2N⟩
def d7R:Hints:=⟨[],[(6,[(.normal,[.sv 0 QI,.sv 8 .bool])])],[]⟩
def a4d(x:(Int×Int)):Option Bool:= cond (decide (x.2≥1)) (cond (decide (x.2≤31)) ((b3W x.2).bind fun y1=> cond (decide (y1≤x.1)) ((b2N x.2).bind fun y2=> some (decide (x.1≤y2))) (some false)) (some false)) (some false)
def a9s:FSem:=⟨[.v QI,.v QI],[.v .bool],a4d⟩
def d7S:Hints:=⟨[],[],[]⟩
def a4F(s:((List (List Int))×(Int×(Int×((List Int)×Z56))))):Option (((List (List Int))×(Int×(Int×((List Int)×Z56)))) ⊕ (((List (List Int))×Z56) ⊕ (Bool×Unit))):= cond (decide (s.2.2.2.2.2.1<s.2.2.2.2.1)) ((a0m s.2.2.2.1 s.2.2.2.2.2.1).bind fun x8=> (a4d (x8,s.2.2.2.2.2.2.1.1)).bind fun y9=> cond (!y9) (some (.inr (Sum.inr ((false,()))))) (some (.inl (s.1,s.2.1,s.2.2.1,s.2.2.2.1,s.2.2.2.2.1,wrap .i64 (s.2.2.2.2.2.1+1),s.2.2.2.2.2.2.1,())))) (some (.inr (Sum.inl (s.1,s.2.1,s.2.2.1,s.2.2.2.2.2.2.1,()))))
def a4G(s:((List (List Int))×Z56)):Option (((List (List Int))×Z56) ⊕ Z0):= cond (decide (s.2.2.1<s.2.1)) ((a0m s.1 s.2.2.1).bind fun x6=> (a3M s.2.2.2.1).bind fun y7=> cond ((x6.length:Int) != y7) (some (.inr (Sum.inr ((false,()))))) ((a0h a4F (s.1,s.2.1,s.2.2.1,x6,(x6.length:Int),0,s.2.2.2.1,())).bind fun w10=> match w10 with |.inl a11=>some (.inl (a11.1,a11.2.1,wrap .i64 (a11.2.2.1+1),a11.2.2.2.1,())) |.inr b12=>some (.inr (Sum.inr ((b12.1,())))))) (some (.inr (Sum.inl ())))
def a5N(x:Z12):Option Bool:= (show Option Z48 from(a6Y x.1).bind fun y1=> cond (!y1) (some (true,x,())) (cond (decide ((x.2.1.length:Int)<1)) (some (true,x,())) (some (decide ((x.2.1.length:Int) > 8),x,())))).bind fun z2=> cond z2.1 (some false) ((show Option Z48 from(a3M z2.2.1).bind fun y3=> cond (decide (y3<1)) (some (true,z2.2.1,())) ((a3M z2.2.1).bind fun y4=> some (decide (y4 > 4096),z2.2.1,()))).bind fun z5=> cond z5.1 (some false) ((a0h a4G (z5.2.1.2.1,(z5.2.1.2.1.length:Int),0,z5.2.1,())).bind fun w13=> match w13 with |.inl a14=>some true |.inr b15=>some b15.1))
def a9d:FSem:=⟨[.v Q12],[.v .bool],a5N⟩
def H47:Hints:=⟨[(122,[.sv 32 (.list false QL),.sv 33 QI,.sv 34 QI,.vp 1 Q12],[(.exit 0,[]),(.ret,[.sv 2 .bool])]),(62670,[.sv 32 (.list false QL),.sv 33 QI,.sv 34 QI,.sv 43 QL,.sv 44 QI,.sv 45 QI,.vp 1 Q12],[(.exit 2,[.sv 32 (.list false QL),.sv 33 QI,.sv 34 QI,.vp 1 Q12]),(.ret,[.sv 2 .bool])])],[(6,[(.normal,[.sv 22 .bool,.vp 1 Q12])]),(14,[(.normal,[.sv 30 .bool,.vp 1 Q12])])],[]⟩
def a4N(s:(Z94×(Int×(Int×((List (List Int))×c9s))))):Option ((Z94×(Int×(Int×((List (List Int))×c9s)))) ⊕ (((List (List Int))×c9s) ⊕ Z46)):= cond (decide (s.2.2.1<s.2.1)) ((a0m s.1 s.2.2.1).bind fun x3=> (b2q (x3,s.2.2.2.2.2.1.2.1)).bind fun y4=> cond (y4.2 != 0) (some (.inr (Sum.inr ((1,(0,([]:(List (List Int))),()),()))))) (cond (lim ((a02 s.2.2.2.1)+1)) (some (.inl (s.1,s.2.1,wrap .i64 (s.2.2.1+1),a04 s.2.2.2.1 ([y4.1]:List (List Int)),s.2.2.2.2.1,s.2.2.2.2.2.1,()))) none)) (some (.inr (Sum.inl (s.2.2.2.1,s.2.2.2.2.1,s.2.2.2.2.2.1,()))))
def a4e(x:a6E):Option (Z12×Int):= (show Option (Bool×c9s)from(a7b x).bind fun y1=> cond (!y1) (some (true,(0,([]:(List (List Int))),()),x,())) (some ((x.2.2.2.2.1.length:Int) != x.2.2.1.2.1,(0,([]:(List (List Int))),()),x,()))).bind fun z2=> cond z2.1 (some ((0,([]:(List (List Int))),()),1)) (cond ((decide (0≤(z2.2.2.1.2.2.2.2.1.length:Int)))&&(lim (a01 (z2.2.2.1.2.2.2.2.1.length:Int)))) ((a0h a4N (z2.2.2.1.2.2.2.2.1,(z2.2.2.1.2.2.2.2.1.length:Int),0,([]:(List (List Int))),z2.2.1,z2.2.2.1,())).bind fun w5=> match w5 with |.inl a6=>((b1M (a6.1,a6.2.2.1.2.2.2.1)).bind fun y8=> cond (y8.2 != 0) (some ((0,([]:(List (List Int))),()),1)) ((a5N (a6.2.2.1.2.2.1.2.2.1,y8.1,())).bind fun y9=> cond (!y9) (some ((0,([]:(List (List Int))),()),1)) (some ((a6.2.2.1.2.2.1.2.2.1,y8.1,()),0)))) |.inr b7=>some (b7.2.1,b7.1)) none)
def a9t:FSem:=⟨[.v Q51],[.v Q12,.v QI],a4e⟩
def H17:Hints:=⟨[(122,[.sv 30 (.list false Q33),.sv 31 QI,.sv 32 QI,.own 4 4 QL,.box 2 Q12,.vp 1 Q51,.ptr 2 2 []],[(.exit 0,[.own 4 4 QL,.box 2 Q12,.vp 1 Q51,.ptr 2 2 []]),(.ret,[.sv 3 QI,.box 2 Q12,.ptr 2 2 []])])],[(6,[(.normal,[.sv 23 .bool,.box 2 Q12,.vp 1 Q51,.ptr 2 2 []])])],[]⟩
def b5D(x:a6E):Option Bool:= (a4e x).bind fun y1=> some (y1.2==0)
def b5E:FSem:=⟨[.v Q51],[.v .bool],b5D⟩
def H21:Hints:=⟨[],[],[]⟩
def a9T(x:Z95):Option Bool:= (b2q (x.1,x.2)).bind fun y1=> some (y1.2==0)
def b8L:FSem:=⟨[.v Q33,.v QI],[.v .bool],a9T⟩
def d7T:Hints:=⟨[],[],[]⟩
def a3o(s:Z44):Option (Z44 ⊕ Z27):= cond (s.2.1 != 0) (cond (decide (s.1<32)) ((a4d (s.2.1,s.1)).bind fun y2=> cond (!y2) (some (.inl (wrap .i64 (s.1+1),s.2.1,s.2.2.1,s.2.2.2.1,s.2.2.2.2.1,()))) (some (.inr (s.1,s.2.2.1,s.2.2.2.1,s.2.2.2.2.1,())))) (some (.inr (s.1,s.2.2.1,s.2.2.2.1,s.2.2.2.2.1,())))) (some (.inr (s.1,s.2.2.1,s.2.2.2.1,s.2.2.2.2.1,())))
def a5U(s:Z27):Option Z58:= cond (decide (s.2.2.2.1<s.2.2.1)) ((a0m s.2.1 s.2.2.2.1).bind fun x1=> (a0h a3o (s.1,x1,s.2.1,s.2.2.1,s.2.2.2.1,())).bind fun w3=> some (.inl (w3.1,w3.2.1,w3.2.2.1,wrap .i64 (w3.2.2.2.1+1),()))) (some (.inr (s.1,())))
def a1L(x:(List Int)):Option Int:= (a0h a5U (0,x,(x.length:Int),0,())).bind fun w4=> some w4.1
def a2S:FSem:=⟨[.v QL],[.v QI],a1L⟩
def d7U:Hints:=⟨[(58,[.sv 3 QI,.sv 6 QL,.sv 7 QI,.sv 8 QI],[(.exit 0,[.sv 3 QI])]),(7474,[.sv 3 QI,.sv 5 QI,.sv 6 QL,.sv 7 QI,.sv 8 QI],[(.exit 2,[.sv 3 QI,.sv 6 QL,.sv 7 QI,.sv 8 QI])])],[],[]⟩
def a2p(x:(Z6×Int)):Option Z6:= (show Option Z33 from cond ((a08 x.1.2.1 8)==0) (cond (lim ((a02 x.1.1)+1)) (some (x.2,(a04 x.1.1 [0],x.1.2),())) none) (some (x.2,x.1,()))).bind fun z1=> cond ((decide (0≤(wrap .i64 (a19 z1.2.1.2.1 8))))&&(decide ((wrap .i64 (a19 z1.2.1.2.1 8))<(z1.2.1.1.length:Int)))) (cond (decide ((wrap .i64 (7-(a08 z1.2.1.2.1 8)))<0)) none (cond ((decide (0≤(wrap .i64 (a19 z1.2.1.2.1 8))))&&(decide ((wrap .i64 (a19 z1.2.1.2.1 8))<(z1.2.1.1.length:Int)))) (some (a05 z1.2.1.1 (a01 (wrap .i64 (a19 z1.2.1.2.1 8))) (bits .u8 .or (a03 z1.2.1.1 (a01 (wrap .i64 (a19 z1.2.1.2.1 8))) 0) (a0z .u8 z1.1 (wrap .i64 (7-(a08 z1.2.1.2.1 8))))),wrap .i64 (z1.2.1.2.1+1),z1.2.1.2.2)) none)) none
def a5V:FSem:=⟨[.r false (.b Q7),.v (.int .u8)],[],a2p⟩
def d7V:Hints:=⟨[],[(1,[(.normal,[.sv 1 (.int .u8),.box pinned Q7,.ptr 0 pinned []])])],[(2,[.p,.p,.q,.q,.p,.p,.q,.q,.v,.q,.q,.v,.p,.p,.q,.q,.v,.v,.v,.x,.x,.x])]⟩
def a4r(s:Z49):Option (Z49 ⊕ Z20):= cond (decide (s.2.1≥0)) (cond (decide (s.2.1<0)) none ((a2p (s.2.2.1,wrap .u8 (bits .u64 .and (a0A .u64 s.1 s.2.1) 1))).bind fun y2=> some (.inl (s.1,wrap .i64 (s.2.1-1),y2,())))) (some (.inr (s.2.2.1,())))
def a0j(x:(Z6×Int×Int)):Option Z17:= (show Option (Int×Int×Bool×Z20)from cond (decide (x.2.2<0)) (some (x.2.1,x.2.2,true,x.1,())) (cond (decide (x.2.2 > 64)) (some (x.2.1,x.2.2,true,x.1,())) (cond (decide (x.2.2<0)) none (some (x.2.1,x.2.2,(a0A .u64 x.2.1 x.2.2) != 0,x.1,()))))).bind fun z1=> cond z1.2.2.1 (some (1,z1.2.2.2.1)) ((a0h a4r (z1.1,wrap .i64 (z1.2.1-1),z1.2.2.2.1,())).bind fun w3=> some (0,w3.1))
def a3p:FSem:=⟨[.r false (.b Q7),.v (.int .u64),.v QI],[.v QI],a0j⟩
def d7W:Hints:=⟨[(58,[.sv 1 (.int .u64),.sv 7 QI,.box pinned Q7,.ptr 0 pinned []],[(.exit 0,[.box pinned Q7])])],[(6,[(.normal,[.sv 1 (.int .u64),.sv 2 QI,.sv 19 .bool,.box pinned Q7,.ptr 0 pinned []])])],[]⟩
def a3f(x:(Z6×Int×Int)):Option Z6:= cond (decide (x.2.2<0)) none ((a0j (x.1,bits .u64 .and (wrap .u64 x.2.1) (wrap .u64 ((a0z .u64 1 x.2.2)-1)),x.2.2)).bind fun y1=> some y1.2)
def b0t:FSem:=⟨[.r false (.b Q7),.v QI,.v QI],[],a3f⟩
def d7X:Hints:=⟨[],[],[]⟩
def a5W(s:Z77):Option (Z77 ⊕ Z20):= cond (decide (s.2.2.2.1<s.2.2.1)) ((a0m s.2.1 s.2.2.2.1).bind fun x6=> (a3f (s.2.2.2.2.1,x6,s.1)).bind fun y7=> some (.inl (s.1,s.2.1,s.2.2.1,wrap .i64 (s.2.2.2.1+1),y7,()))) (some (.inr (s.2.2.2.2.1,())))
def a8D(x:(Z6×Z93)):Option Z6:= (a0j (x.1,wrap .u64 (wrap .i64 ((x.2.2.2.2.2.2.1.length:Int)-1)),5)).bind fun y1=> (a0j (y1.2,wrap .u64 x.2.2.2.2.1,4)).bind fun y2=> (a1L x.2.2.2.2.2.2.1).bind fun y3=> (a0j (y2.2,wrap .u64 y3,5)).bind fun y4=> (a0h a5W (y3,x.2.2.2.2.2.2.1,(x.2.2.2.2.2.2.1.length:Int),0,y4.2,())).bind fun w8=> some w8.1
def b6f:FSem:=⟨[.r false (.b Q7),.v Q33],[],a8D⟩
def d7Y:Hints:=⟨[(254,[.sv 4 QI,.sv 27 QL,.sv 28 QI,.sv 29 QI,.box pinned Q7,.ptr 0 pinned []],[(.exit 0,[.box pinned Q7])])],[],[]⟩
def b3X(s:Z15):Option Z61:= cond (decide (s.2.2.1<s.2.1)) ((a0m s.1 s.2.2.1).bind fun x3=> (show Option Z32 from cond (decide (x3<(-1073741824))) (some (s.1,s.2.1,s.2.2.1,true,())) (some (s.1,s.2.1,s.2.2.1,decide (x3≥1073741824),()))).bind fun z4=> cond z4.2.2.2.1 (some (.inr (Sum.inr ((false,()))))) (some (.inl (z4.1,z4.2.1,wrap .i64 (z4.2.2.1+1),())))) (some (.inr (Sum.inl ())))
def a7g(x:Z1):Option Bool:= (show Option ((List Int)×(Bool×Unit))from(a7u (x.1,x.2.1)).bind fun y1=> cond (!y1) (some (x.2.2,true,())) (some (x.2.2,(x.2.2.length:Int) != (wrap .i64 (x.1-x.2.1)),()))).bind fun z2=> cond z2.2.1 (some false) ((a0h b3X (z2.1,(z2.1.length:Int),0,())).bind fun w5=> match w5 with |.inl a6=>some true |.inr b7=>some b7.1)
def b2O:FSem:=⟨[.v QI,.v QI,.v QL],[.v .bool],a7g⟩
def d7Z:Hints:=⟨[(58,[.sv 21 QL,.sv 22 QI,.sv 23 QI],[(.exit 0,[]),(.ret,[.sv 6 .bool])])],[(6,[(.normal,[.sv 2 QL,.sv 20 .bool])]),(3737,[(.normal,[.sv 21 QL,.sv 22 QI,.sv 23 QI,.sv 32 .bool])])],[]⟩
def a5O(x:(List Int)):Option Int:= (a1L x).bind fun y1=> some (wrap .i64 (5+(wrap .i64 (y1*(x.length:Int)))))
def b5F:FSem:=⟨[.v QL],[.v QI],a5O⟩
def d8a:Hints:=⟨[],[],[]⟩
def a3J(x:Int):Option Bool:= cond (decide (0≤x)) (some (decide (x≤25))) (some false)
def a6J:FSem:=⟨[.v QI],[.v .bool],a3J⟩
def d8b:Hints:=⟨[],[],[]⟩
def a7x(x:Int):Option Bool:= cond (decide ((-1073741824)≤x)) (some (decide (x<1073741824))) (some false)
def b1N:FSem:=⟨[.v QI],[.v .bool],a7x⟩
def d8c:Hints:=⟨[],[],[]⟩
def a9e(x:Int):Option Int:= (a7x x).bind fun y1=> cond (!y1) (some 0) (cond (decide (x≥0)) (some (wrap .u64 (wrap .i64 (2*x)))) (some (wrap .u64 (wrap .i64 ((wrap .i64 ((-2)*x))-1)))))
def b5G:FSem:=⟨[.v QI],[.v (.int .u64)],a9e⟩
def d8d:Hints:=⟨[],[],[]⟩
def a7y(x:(Int×Int)):Option Int:= (show Option Z9 from(a3J x.1).bind fun y1=> cond (!y1) (some (x.1,x.2,true,())) ((a7x x.2).bind fun y2=> some (x.1,x.2,!y2,()))).bind fun z3=> cond z3.2.2.1 (some 0) ((a9e z3.2.1).bind fun y4=> cond (decide (z3.1<0)) none (cond (decide ((wrap .i64 (a0A .u64 y4 z3.1))<32)) (some (wrap .i64 ((wrap .i64 ((wrap .i64 (a0A .u64 y4 z3.1))+1))+z3.1))) (some 65)))
def c0a:FSem:=⟨[.v QI,.v QI],[.v QI],a7y⟩
def d8e:Hints:=⟨[],[(6,[(.normal,[.sv 0 QI,.sv 1 QI,.sv 13 .bool])])],[]⟩
def a4f(s:Z44):Option (Z44 ⊕ (Int×Unit)):= cond (decide (s.2.2.2.2.1<s.2.2.2.1)) ((a0m s.2.2.1 s.2.2.2.2.1).bind fun x1=> (a7y (s.1,x1)).bind fun y2=> some (.inl (s.1,wrap .i64 (s.2.1+y2),s.2.2.1,s.2.2.2.1,wrap .i64 (s.2.2.2.2.1+1),()))) (some (.inr (s.2.1,())))
def a3N(x:(Int×(List Int))):Option Int:= (a0h a4f (x.1,0,x.2,(x.2.length:Int),0,())).bind fun w3=> some w3.1
def b3h:FSem:=⟨[.v QI,.v QL],[.v QI],a3N⟩
def d8f:Hints:=⟨[(58,[.sv 0 QI,.sv 5 QI,.sv 8 QL,.sv 9 QI,.sv 10 QI],[(.exit 0,[.sv 5 QI])])],[],[]⟩
def a1C(s:((List Int)×(Int×(Int×(Int×((List Int)×Z19)))))):Option (((List Int)×(Int×(Int×(Int×((List Int)×Z19))))) ⊕ (Int×Unit)):= cond (decide (s.2.2.2.1<s.2.2.1)) (cond ((decide (0≤s.2.2.2.1))&&(decide (s.2.2.2.1<(s.2.2.2.2.1.length:Int)))) (cond ((decide (0≤(a03 s.2.2.2.2.1 (a01 s.2.2.2.1) 0)))&&(decide ((a03 s.2.2.2.2.1 (a01 s.2.2.2.1) 0)≤(s.1.length:Int)))) (cond ((decide (0≤(a03 s.2.2.2.2.1 (a01 s.2.2.2.1) 0)))&&(decide ((a03 s.2.2.2.2.1 (a01 s.2.2.2.1) 0)≤(s.1.length:Int)))) ((a0m s.2.2.2.2.2.1.2.1 s.2.2.2.1).bind fun x5=> cond (x5==31) ((a5O (a07 (a01 (a03 s.2.2.2.2.1 (a01 s.2.2.2.1) 0)) s.1)).bind fun y6=> some (.inl (a29 (a01 (a03 s.2.2.2.2.1 (a01 s.2.2.2.1) 0)) (a07 (a02 s.1) s.1),wrap .i64 (s.2.1+(wrap .i64 (5+y6))),s.2.2.1,wrap .i64 (s.2.2.2.1+1),s.2.2.2.2.1,s.2.2.2.2.2.1,()))) ((a0m s.2.2.2.2.2.1.2.1 s.2.2.2.1).bind fun x7=> (a3N (x7,a07 (a01 (a03 s.2.2.2.2.1 (a01 s.2.2.2.1) 0)) s.1)).bind fun y8=> some (.inl (a29 (a01 (a03 s.2.2.2.2.1 (a01 s.2.2.2.1) 0)) (a07 (a02 s.1) s.1),wrap .i64 (s.2.1+(wrap .i64 (5+y8))),s.2.2.1,wrap .i64 (s.2.2.2.1+1),s.2.2.2.2.1,s.2.2.2.2.2.1,())))) none) none) none) (some (.inr (s.2.1,())))
def a4O(x:(Z5×Z1)):Option Int:= (show Option (Int×(Int×((List Int)×(Bool×Z19))))from(a8X (x.1,x.2.1,x.2.2.1)).bind fun y1=> cond (!y1) (some (x.2.1,x.2.2.1,x.2.2.2,true,x.1,())) ((a7g (x.2.1,x.2.2.1,x.2.2.2)).bind fun y2=> some (x.2.1,x.2.2.1,x.2.2.2,!y2,x.1,()))).bind fun z3=> cond z3.2.2.2.1 (some 0) ((a3r (z3.2.2.2.2.1.1,z3.1,z3.2.1)).bind fun y4=> (a0h a1C (z3.2.2.1,4,(y4.length:Int),0,y4,z3.2.2.2.2.1,())).bind fun w9=> some w9.1)
def b3Y:FSem:=⟨[.v Q9,.v QI,.v QI,.v QL],[.v QI],a4O⟩
def d8g:Hints:=⟨[(122,[.sv 3 QL,.sv 9 QI,.sv 30 QI,.sv 31 QI,.own 29 1029 QI,.vp 4 Q9],[(.exit 0,[.sv 9 QI])])],[(6,[(.normal,[.sv 1 QI,.sv 2 QI,.sv 3 QL,.sv 24 .bool,.vp 4 Q9])])],[]⟩
def a3O(s:Z49):Option (Z49 ⊕ Z20):= cond (decide (s.2.1<s.1)) ((a2p (s.2.2.1,0)).bind fun y2=> some (.inl (s.1,wrap .i64 (s.2.1+1),y2,()))) (some (.inr (s.2.2.1,())))
def a2C(x:(Z6×Int)):Option Z17:= (show Option (Int×Bool×Z20)from cond (decide (x.2<0)) (some (x.2,true,x.1,())) (some (x.2,decide (x.2 > 4096),x.1,()))).bind fun z1=> cond z1.2.1 (some (1,z1.2.2.1)) ((a0h a3O (z1.1,0,z1.2.2.1,())).bind fun w3=> (a2p (w3.1,1)).bind fun y4=> some (0,y4))
def b0Q:FSem:=⟨[.r false (.b Q7),.v QI],[.v QI],a2C⟩
def d8h:Hints:=⟨[(58,[.sv 11 QI,.sv 12 QI,.box pinned Q7,.ptr 0 pinned []],[(.exit 0,[.box pinned Q7,.ptr 0 pinned []])])],[(6,[(.normal,[.sv 1 QI,.sv 10 .bool,.box pinned Q7,.ptr 0 pinned []])])],[]⟩
def a9u(s:(Int×((List Int)×Z69))):Option ((Int×((List Int)×Z69)) ⊕ ((Int×((List Int)×Z20)) ⊕ Z33)):= cond (decide (s.2.2.2.2.1<s.2.2.2.1)) ((a0m s.2.2.1 s.2.2.2.2.1).bind fun x2=> (a7x x2).bind fun y3=> cond (!y3) (some (.inr (Sum.inr ((1,s.2.2.2.2.2.1,()))))) (some (.inl (s.1,s.2.1,s.2.2.1,s.2.2.2.1,wrap .i64 (s.2.2.2.2.1+1),s.2.2.2.2.2.1,())))) (some (.inr (Sum.inl (s.1,s.2.1,s.2.2.2.2.2.1,()))))
def a7h(s:Z77):Option (Z77 ⊕ Z20):= cond (decide (s.2.2.2.1<s.2.2.1)) ((a0m s.2.1 s.2.2.2.1).bind fun x7=> (a9e x7).bind fun y8=> cond (decide (s.1<0)) none (cond (decide ((a0A .u64 y8 s.1)<32)) ((a2C (s.2.2.2.2.1,wrap .i64 (a0A .u64 y8 s.1))).bind fun y9=> cond (decide (s.1<0)) none ((a0j (y9.2,wrap .u64 (y8-(a0z .u64 (a0A .u64 y8 s.1) s.1)),s.1)).bind fun y10=> some (.inl (s.1,s.2.1,s.2.2.1,wrap .i64 (s.2.2.2.1+1),y10.2,())))) ((a2C (s.2.2.2.2.1,32)).bind fun y11=> (a0j (y11.2,y8,32)).bind fun y12=> some (.inl (s.1,s.2.1,s.2.2.1,wrap .i64 (s.2.2.2.1+1),y12.2,()))))) (some (.inr (s.2.2.2.2.1,())))
def b3i(x:(Z6×(Int×(List Int)))):Option Z17:= (a3J x.2.1).bind fun y1=> cond (!y1) (some (1,x.1)) ((a0h a9u (x.2.1,x.2.2,x.2.2,(x.2.2.length:Int),0,x.1,())).bind fun w4=> match w4 with |.inl a5=>((a0h a7h (a5.1,a5.2.1,(a5.2.1.length:Int),0,a5.2.2.1,())).bind fun w13=> some (0,w13.1)) |.inr b6=>some (b6.1,b6.2.1))
def c2b:FSem:=⟨[.r false (.b Q7),.v QI,.v QL],[.v QI],b3i⟩
def d8i:Hints:=⟨[(58,[.sv 1 QI,.sv 2 QL,.sv 16 QL,.sv 17 QI,.sv 18 QI,.box pinned Q7,.ptr 0 pinned []],[(.exit 0,[.sv 1 QI,.sv 2 QL,.box pinned Q7,.ptr 0 pinned []]),(.ret,[.sv 6 QI,.box pinned Q7])]),(122,[.sv 1 QI,.sv 26 QL,.sv 27 QI,.sv 28 QI,.box pinned Q7,.ptr 0 pinned []],[(.exit 2,[.box pinned Q7])])],[],[]⟩
def a8E(s:((List Int)×(Int×Int×Int×Z87))):Option (((List Int)×(Int×Int×Int×Z87)) ⊕ Z87):= cond (decide (s.2.2.2.2.2.2.1<s.2.2.2.2.2.1)) ((a0m s.2.2.2.2.1 s.2.2.2.2.2.2.1).bind fun x11=> cond (decide (s.2.1<0)) none ((a0j (s.2.2.2.2.2.2.2.2.1,bits .u64 .and (wrap .u64 x11) (wrap .u64 ((a0z .u64 1 s.2.1)-1)),s.2.1)).bind fun y12=> some (.inl (s.1,s.2.1,s.2.2.1,s.2.2.2.1,s.2.2.2.2.1,s.2.2.2.2.2.1,wrap .i64 (s.2.2.2.2.2.2.1+1),s.2.2.2.2.2.2.2.1,y12.2,s.2.2.2.2.2.2.2.2.2.1,())))) (some (.inr (s.1,s.2.2.1,s.2.2.2.1,s.2.2.2.2.2.2.2.1,s.2.2.2.2.2.2.2.2.1,s.2.2.2.2.2.2.2.2.2.1,())))
def a4H(s:Z87):Option (Z87 ⊕ Z20):= cond (decide (s.2.2.1<s.2.1)) (cond ((decide (0≤s.2.2.1))&&(decide (s.2.2.1<(s.2.2.2.1.length:Int)))) (cond ((decide (0≤(a03 s.2.2.2.1 (a01 s.2.2.1) 0)))&&(decide ((a03 s.2.2.2.1 (a01 s.2.2.1) 0)≤(s.1.length:Int)))) (cond ((decide (0≤(a03 s.2.2.2.1 (a01 s.2.2.1) 0)))&&(decide ((a03 s.2.2.2.1 (a01 s.2.2.1) 0)≤(s.1.length:Int)))) ((a0m s.2.2.2.2.2.1.2.1 s.2.2.1).bind fun x4=> (a0j (s.2.2.2.2.1,wrap .u64 x4,5)).bind fun y5=> (a0m s.2.2.2.2.2.1.2.1 s.2.2.1).bind fun x6=> cond (x6 != 31) ((a0m s.2.2.2.2.2.1.2.1 s.2.2.1).bind fun x7=> (b3i (y5.2,x7,a07 (a01 (a03 s.2.2.2.1 (a01 s.2.2.1) 0)) s.1)).bind fun y8=> some (.inl (a29 (a01 (a03 s.2.2.2.1 (a01 s.2.2.1) 0)) (a07 (a02 s.1) s.1),s.2.1,wrap .i64 (s.2.2.1+1),s.2.2.2.1,y8.2,s.2.2.2.2.2.1,()))) ((a1L (a07 (a01 (a03 s.2.2.2.1 (a01 s.2.2.1) 0)) s.1)).bind fun y9=> (a0j (y5.2,wrap .u64 y9,5)).bind fun y10=> (a0h a8E (a29 (a01 (a03 s.2.2.2.1 (a01 s.2.2.1) 0)) (a07 (a02 s.1) s.1),y9,s.2.1,s.2.2.1,a07 (a01 (a03 s.2.2.2.1 (a01 s.2.2.1) 0)) s.1,((a02 (a07 (a01 (a03 s.2.2.2.1 (a01 s.2.2.1) 0)) s.1):Nat):Int),0,s.2.2.2.1,y10.2,s.2.2.2.2.2.1,())).bind fun w13=> some (.inl (w13.1,w13.2.1,wrap .i64 (w13.2.2.1+1),w13.2.2.2.1,w13.2.2.2.2.1,w13.2.2.2.2.2.1,())))) none) none) none) (some (.inr (s.2.2.2.2.1,())))
def b1O(x:(Z6×Z5×Z1)):Option Z17:= (a4O (x.2.1,x.2.2.1,x.2.2.2.1,x.2.2.2.2)).bind fun y1=> cond (y1==0) (some (1,x.1)) ((a0j (x.1,wrap .u64 x.2.1.1,4)).bind fun y2=> (a3r (x.2.1.1,x.2.2.1,x.2.2.2.1)).bind fun y3=> (a0h a4H (x.2.2.2.2,(y3.length:Int),0,y3,y2.2,x.2.1,())).bind fun w14=> some (0,w14.1))
def c0b:FSem:=⟨[.r false (.b Q7),.v Q9,.v QI,.v QI,.v QL],[.v QI],b1O⟩
def d8j:Hints:=⟨[(122,[.sv 4 QL,.sv 33 QI,.sv 34 QI,.own 32 1032 QI,.box pinned Q7,.ptr 0 pinned [],.vp 6 Q9],[(.exit 0,[.box pinned Q7])]),(2005502,[.sv 4 QL,.sv 14 QI,.sv 33 QI,.sv 34 QI,.sv 73 QL,.sv 74 QI,.sv 75 QI,.own 32 1032 QI,.box pinned Q7,.ptr 0 pinned [],.vp 6 Q9],[(.exit 2,[.sv 4 QL,.sv 33 QI,.sv 34 QI,.own 32 1032 QI,.box pinned Q7,.ptr 0 pinned [],.vp 6 Q9])])],[],[]⟩
def b0u(s:(Int×(Int×((List Int)×c9q)))):Option ((Int×(Int×((List Int)×c9q))) ⊕ b5z):= cond (decide (s.2.2.2.1<3)) ((a0m s.2.2.1 s.2.2.2.1).bind fun x8=> (a3f (s.2.2.2.2.1,x8,8)).bind fun y9=> some (.inl (s.1,s.2.1,s.2.2.1,wrap .i64 (s.2.2.2.1+1),y9,s.2.2.2.2.2.1,()))) (some (.inr (s.1,s.2.1,s.2.2.2.2.1,s.2.2.2.2.2.1,())))
def b0v(s:(Int×Int×Z4×b5z)):Option ((Int×Int×Z4×b5z) ⊕ b5z):= cond (decide (s.2.2.2.2.1<s.2.2.2.1)) ((a0m s.2.2.1 s.2.2.2.2.1).bind fun x18=> (a0j (s.2.2.2.2.2.1,wrap .u64 (wrap .i64 (x18.1-1)),5)).bind fun y19=> (a0j (y19.2,wrap .u64 x18.2.1,4)).bind fun y20=> some (.inl (s.1,s.2.1,s.2.2.1,s.2.2.2.1,wrap .i64 (s.2.2.2.2.1+1),y20.2,s.2.2.2.2.2.2.1,()))) (some (.inr (s.1,s.2.1,s.2.2.2.2.2.1,s.2.2.2.2.2.2.1,())))
def b0w(s:(Int×(Int×((List Int)×b5z)))):Option ((Int×(Int×((List Int)×b5z))) ⊕ c9q):= cond (decide (s.2.2.2.2.1<s.2.2.2.1)) ((a0m s.2.2.1 s.2.2.2.2.1).bind fun x23=> (a3f (s.2.2.2.2.2.1,x23,s.2.1)).bind fun y24=> some (.inl (s.1,s.2.1,s.2.2.1,s.2.2.2.1,wrap .i64 (s.2.2.2.2.1+1),y24,s.2.2.2.2.2.2.1,()))) (some (.inr (s.1,s.2.2.2.2.2.1,s.2.2.2.2.2.2.1,())))
def b2r(x:(Z6×Z95)):Option Z17:= (a9T (x.2.1,x.2.2)).bind fun y1=> cond (!y1) (some (1,x.1)) ((a1L x.2.1.2.2.2.2.2.2.2.2.1).bind fun y2=> (a0j (x.1,wrap .u64 x.2.1.1,3)).bind fun y3=> (a0j (y3.2,wrap .u64 x.2.1.2.1,5)).bind fun y4=> (a0j (y4.2,wrap .u64 y2,5)).bind fun y5=> (show Option b5z from(show Option (b5z ⊕ (b5z ⊕ b5z))from cond (x.2.1.1==2) ((a0j (y5.2,wrap .u64 x.2.1.2.2.1,3)).bind fun y6=> some (Sum.inr (Sum.inl (x.2.2,y2,y6.2,x.2.1,())))) (cond (x.2.1.1==4) ((a0j (y5.2,wrap .u64 (wrap .i64 (x.2.1.2.2.2.2.1-1)),10)).bind fun y7=> (a0h b0u (x.2.2,y2,x.2.1.2.2.2.2.2.2.1,0,y7.2,x.2.1,())).bind fun w10=> some (Sum.inl (w10.1,w10.2.1,w10.2.2.1,w10.2.2.2.1,()))) (cond (x.2.1.1==3) (some (Sum.inl (x.2.2,y2,y5.2,x.2.1,()))) (cond (x.2.1.1==5) (some (Sum.inr (Sum.inr ((x.2.2,y2,y5.2,x.2.1,()))))) (some (Sum.inr (Sum.inl (x.2.2,y2,y5.2,x.2.1,())))))))).bind fun z11=> match z11 with |.inl a12=>((a8D (a12.2.2.1,a12.2.2.2.1)).bind fun y14=> some (a12.1,a12.2.1,y14,a12.2.2.2.1,())) |.inr b13=>(match b13 with |.inl a15=>some (a15.1,a15.2.1,a15.2.2.1,a15.2.2.2.1,()) |.inr b16=>((a0j (b16.2.2.1,wrap .u64 (b16.2.2.2.1.2.2.2.2.2.2.2.1.length:Int),2)).bind fun y17=> (a0h b0v (b16.1,b16.2.1,b16.2.2.2.1.2.2.2.2.2.2.2.1,(b16.2.2.2.1.2.2.2.2.2.2.2.1.length:Int),0,y17.2,b16.2.2.2.1,())).bind fun w21=> some (w21.1,w21.2.1,w21.2.2.1,w21.2.2.2.1,())))).bind fun z22=> (a0h b0w (z22.1,z22.2.1,z22.2.2.2.1.2.2.2.2.2.2.2.2.1,(z22.2.2.2.1.2.2.2.2.2.2.2.2.1.length:Int),0,z22.2.2.1,z22.2.2.2.1,())).bind fun w25=> (a6f w25.2.2.1.1).bind fun y26=> cond (!y26) (some (0,w25.2.1)) ((b1O (w25.2.1,w25.2.2.1.2.2.2.2.2.2.2.2.2.1,w25.1,(w25.2.2.1.2.2.2.2.2.2.2.2.1.length:Int),w25.2.2.1.2.2.2.2.2.2.2.2.2.2.1)).bind fun y27=> some (y27.1,y27.2)))
def b8M:FSem:=⟨[.r false (.b Q7),.v Q33,.v QI],[.v QI],b2r⟩
def H51:Hints:=⟨[(2042,[.sv 2 QI,.sv 7 QI,.sv 94 QL,.sv 95 QI,.sv 96 QI,.box pinned Q7,.ptr 0 pinned [],.vp 4 Q33],[(.exit 9,[.sv 2 QI,.box pinned Q7,.ptr 0 pinned [],.vp 4 Q33])]),(32598,[.sv 2 QI,.sv 7 QI,.sv 75 (.list false Q3),.sv 76 QI,.sv 77 QI,.box pinned Q7,.ptr 0 pinned [],.vp 4 Q33],[(.exit 7,[.sv 2 QI,.sv 7 QI,.box pinned Q7,.ptr 0 pinned [],.vp 4 Q33])]),(260622,[.sv 2 QI,.sv 7 QI,.sv 57 (.arr 3 QI),.sv 58 QI,.box pinned Q7,.ptr 0 pinned [],.vp 4 Q33],[(.exit 5,[.sv 2 QI,.sv 7 QI,.box pinned Q7,.ptr 0 pinned [],.vp 4 Q33])])],[(127,[(.normal,[.sv 2 QI,.sv 7 QI,.box pinned Q7,.ptr 0 pinned [],.vp 4 Q33])]),(4072,[(.normal,[.sv 2 QI,.sv 7 QI,.box pinned Q7,.ptr 0 pinned [],.vp 4 Q33]),(.exit 0,[.sv 2 QI,.sv 7 QI,.box pinned Q7,.ptr 0 pinned [],.vp 4 Q33]),(.exit 4,[.sv 2 QI,.sv 7 QI,.box pinned Q7,.ptr 0 pinned [],.vp 4 Q33])])],[]⟩
def b5H(s:Z20):Option (Z20 ⊕ Z20):= cond ((a08 s.1.2.1 8) != 0) ((a2p (s.1,0)).bind fun y2=> some (.inl (y2,()))) (some (.inr (s.1,())))
def b0R(x:Z6):Option Z6:= (a0h b5H (x,())).bind fun w3=> some w3.1
def b0S:FSem:=⟨[.r false (.b Q7)],[],b0R⟩
def H52:Hints:=⟨[(2,[.box pinned Q7,.ptr 0 pinned []],[(.exit 0,[.box pinned Q7])])],[],[]⟩
def b0T(x:Z6):Option ((List Int)×Z6):= cond (lim (a02 x.1)) (some (x.1,x)) none
def b0U:FSem:=⟨[.r false (.b Q7)],[.o (.int .u8)],b0T⟩
def H53:Hints:=⟨[],[],[]⟩
def c0c(x:Int):Option Int:= cond (decide (x≥0)) (some (wrap .u64 (2*(wrap .u64 x)))) (some (wrap .u64 ((wrap .u64 (2*(wrap .u64 (wrap .i64 (0-(wrap .i64 (x+1)))))))+1)))
def c0d:FSem:=⟨[.v QI],[.v (.int .u64)],c0c⟩
def d8k:Hints:=⟨[],[],[]⟩
def c3r(s:Z53):Option (Z53 ⊕ Z53):= cond (decide (s.1≥128)) (cond (lim ((a02 s.2.2.2.2.1)+1)) (some (.inl (wrap .u64 (a19 s.1 128),s.2.1,s.2.2.1,s.2.2.2.1,a04 s.2.2.2.2.1 [wrap .u8 ((wrap .u8 (a08 s.1 128))+128)],()))) none) (some (.inr (s.1,s.2.1,s.2.2.1,s.2.2.2.1,s.2.2.2.2.1,())))
def c3s(s:Z37):Option (Z37 ⊕ ((List Int)×Unit)):= cond (decide (s.2.2.1<s.2.1)) ((a0m s.1 s.2.2.1).bind fun x1=> (a0h c3r (x1,s.1,s.2.1,s.2.2.1,s.2.2.2.1,())).bind fun w2=> cond (lim ((a02 w2.2.2.2.2.1)+1)) (some (.inl (w2.2.1,w2.2.2.1,wrap .i64 (w2.2.2.2.1+1),a04 w2.2.2.2.2.1 [wrap .u8 w2.1],()))) none) (some (.inr (s.2.2.2.1,())))
def c0e(x:(List Int)):Option (List Int):= (a0h c3s (x,(x.length:Int),0,[],())).bind fun w3=> some w3.1
def c0f:FSem:=⟨[.v (.list false (.int .u64))],[.o (.int .u8)],c0e⟩
def d8l:Hints:=⟨[(58,[.sv 6 (.list false (.int .u64)),.sv 7 QI,.sv 8 QI,.own 3 3 (.int .u8)],[(.exit 0,[.own 3 3 (.int .u8)])]),(14948,[.sv 5 (.int .u64),.sv 6 (.list false (.int .u64)),.sv 7 QI,.sv 8 QI,.own 3 3 (.int .u8)],[(.exit 2,[.sv 5 (.int .u64),.sv 6 (.list false (.int .u64)),.sv 7 QI,.sv 8 QI,.own 3 3 (.int .u8)])])],[],[]⟩
def c2c(s:Z47):Option (Z47 ⊕ Z27):= cond (decide (s.2.2.2.2.1<8)) (cond ((a0A .u8 s.1 7)==1) (some (.inl (bits .u8 .xor (a0z .u8 s.1 1) 7,s.2.1,s.2.2.1,s.2.2.2.1,wrap .i64 (s.2.2.2.2.1+1),()))) (some (.inl (a0z .u8 s.1 1,s.2.1,s.2.2.1,s.2.2.2.1,wrap .i64 (s.2.2.2.2.1+1),())))) (some (.inr (s.1,s.2.1,s.2.2.1,s.2.2.2.1,())))
def c2d(s:Z27):Option Z58:= cond (decide (s.2.2.2.1<s.2.2.1)) ((a0m s.2.1 s.2.2.2.1).bind fun x1=> (a0h c2c (bits .u8 .xor s.1 x1,s.2.1,s.2.2.1,s.2.2.2.1,0,())).bind fun w2=> some (.inl (w2.1,w2.2.1,w2.2.2.1,wrap .i64 (w2.2.2.2.1+1),()))) (some (.inr (s.1,())))
def b3Z(x:(List Int)):Option Int:= (a0h c2d (0,x,(x.length:Int),0,())).bind fun w3=> some w3.1
def b4a:FSem:=⟨[.v (.list false (.int .u8))],[.v (.int .u8)],b3Z⟩
def d8m:Hints:=⟨[(58,[.sv 3 (.int .u8),.sv 7 (.list false (.int .u8)),.sv 8 QI,.sv 9 QI],[(.exit 0,[.sv 3 (.int .u8)])]),(29902,[.sv 3 (.int .u8),.sv 7 (.list false (.int .u8)),.sv 8 QI,.sv 9 QI,.sv 16 QI],[(.exit 2,[.sv 3 (.int .u8),.sv 7 (.list false (.int .u8)),.sv 8 QI,.sv 9 QI])])],[],[]⟩
def b8N(s:(Int×Z14×Z16)):Option ((Int×Z14×Z16) ⊕ Z5):= cond (decide (s.2.2.2.1<s.2.2.1)) ((a0m s.2.1 s.2.2.2.1).bind fun x1=> (c0c x1.2.2.1).bind fun y2=> cond (lim ((a02 s.2.2.2.2.1)+3)) (some (.inl (s.1,s.2.1,s.2.2.1,wrap .i64 (s.2.2.2.1+1),a04 s.2.2.2.2.1 [wrap .u64 x1.1,wrap .u64 x1.2.1,y2],()))) none) (some (.inr (s.1,s.2.2.2.2.1,())))
def b4M(x:(a6E×Int)):Option (List Int):= (a0h b8N (x.2,x.1.2.2.2.1,(x.1.2.2.2.1.length:Int),0,([wrap .u64 x.1.1,wrap .u64 x.1.2.1,wrap .u64 x.1.2.2.1.1,wrap .u64 x.1.2.2.1.2.1,wrap .u64 x.1.2.2.1.2.2.1,wrap .u64 (x.1.2.2.2.1.length:Int)]:List Int),())).bind fun w3=> cond (lim ((a02 w3.2.1)+1)) ((c0e (a04 w3.2.1 [wrap .u64 w3.1])).bind fun y4=> cond (lim (2+(a02 y4))) ((b3Z (a04 [245,75] y4)).bind fun y5=> cond (lim ((a02 (a04 [245,75] y4))+1)) (some (a04 (a04 [245,75] y4) [y5])) none) none) none
def b4N:FSem:=⟨[.v Q51,.v QI],[.o (.int .u8)],b4M⟩
def H54:Hints:=⟨[(58,[.sv 1 QI,.sv 33 (.list false Q10),.sv 34 QI,.sv 35 QI,.own 5 5 (.int .u64)],[(.exit 0,[.sv 1 QI,.own 5 5 (.int .u64)])])],[],[(5,[.q,.q,.q,.v,.q,.q,.v,.q,.q,.v,.q,.x,.x])]⟩
def b7D(x:Int):Option Int:= some (a3u (a2m x 0) 8)
def b7E:FSem:=⟨[.v QI],[.v QI],b7D⟩
def d8n:Hints:=⟨[],[],[]⟩
def c1b(s:Z30):Option (Z30 ⊕ ((List Int)×Unit)):= cond (decide (s.2.2.1<s.2.1)) (cond (lim ((a02 s.2.2.2.1)+1)) (some (.inl (wrap .u64 (a19 s.1 256),s.2.1,wrap .i64 (s.2.2.1+1),a04 s.2.2.2.1 [wrap .u8 (a08 s.1 256)],()))) none) (some (.inr (s.2.2.2.1,())))
def b7F(x:(Int×Int)):Option (List Int):= (b7D x.2).bind fun y1=> (a0h c1b (x.1,y1,0,[],())).bind fun w2=> some w2.1
def b7G:FSem:=⟨[.v (.int .u64),.v QI],[.o (.int .u8)],b7F⟩
def d8o:Hints:=⟨[(58,[.sv 0 (.int .u64),.sv 7 QI,.sv 8 QI,.own 5 5 (.int .u8)],[(.exit 0,[.own 5 5 (.int .u8)])])],[],[]⟩
def a5S(x:(List Int)):Option (List Int):= cond (decide (a02 x<2147483648)) (some (List.reverse x)) none
def a5T:FSem:=⟨[.r false (.o (.int .u8))],[],a5S⟩
def c0g(x:(Int×Int)):Option (List Int):= (b7F (x.1,x.2)).bind fun y1=> (a5S y1).bind fun y2=> some y2
def c0h:FSem:=⟨[.v (.int .u64),.v QI],[.o (.int .u8)],c0g⟩
def H55:Hints:=⟨[],[],[]⟩
def b9F(s:Z47):Option (Z47 ⊕ Z27):= cond (decide (s.2.2.2.2.1<8)) (cond ((a0A .u16 s.1 15)==1) (some (.inl (bits .u16 .xor (a0z .u16 s.1 1) 32773,s.2.1,s.2.2.1,s.2.2.2.1,wrap .i64 (s.2.2.2.2.1+1),()))) (some (.inl (a0z .u16 s.1 1,s.2.1,s.2.2.1,s.2.2.2.1,wrap .i64 (s.2.2.2.2.1+1),())))) (some (.inr (s.1,s.2.1,s.2.2.1,s.2.2.2.1,())))
def b9G(s:Z27):Option Z58:= cond (decide (s.2.2.2.1<s.2.2.1)) ((a0m s.2.1 s.2.2.2.1).bind fun x1=> (a0h b9F (bits .u16 .xor s.1 (a0z .u16 (wrap .u16 x1) 8),s.2.1,s.2.2.1,s.2.2.2.1,0,())).bind fun w2=> some (.inl (w2.1,w2.2.1,w2.2.2.1,wrap .i64 (w2.2.2.2.1+1),()))) (some (.inr (s.1,())))
def b1l(x:(List Int)):Option Int:= (a0h b9G (0,x,(x.length:Int),0,())).bind fun w3=> some w3.1
def b1m:FSem:=⟨[.v (.list false (.int .u8))],[.v (.int .u16)],b1l⟩
def H56:Hints:=⟨[(58,[.sv 3 (.int .u16),.sv 7 (.list false (.int .u8)),.sv 8 QI,.sv 9 QI],[(.exit 0,[.sv 3 (.int .u16)])]),(29902,[.sv 3 (.int .u16),.sv 7 (.list false (.int .u8)),.sv 8 QI,.sv 9 QI,.sv 18 QI],[(.exit 2,[.sv 3 (.int .u16),.sv 7 (.list false (.int .u8)),.sv 8 QI,.sv 9 QI])])],[],[]⟩
def c3t(s:(Z94×Int×Int×Z6×b8F)):Option ((Z94×Int×Int×Z6×b8F) ⊕ ((Z6×b8F) ⊕ Z5)):= cond (decide (s.2.2.1<s.2.1)) ((a0m s.1 s.2.2.1).bind fun x2=> (b2r (s.2.2.2.1,x2,s.2.2.2.2.1.2.1)).bind fun y3=> cond (y3.1 != 0) (some (.inr (Sum.inr ((y3.1,[],()))))) (some (.inl (s.1,s.2.1,wrap .i64 (s.2.2.1+1),y3.2,s.2.2.2.2.1,())))) (some (.inr (Sum.inl (s.2.2.2.1,s.2.2.2.2.1,()))))
def c0i(x:a6E):Option ((List Int)×Int):= (b5D x).bind fun y1=> cond (!y1) (some ([],1)) ((a0h c3t (x.2.2.2.2.1,(x.2.2.2.2.1.length:Int),0,([],0,()),x,())).bind fun w4=> match w4 with |.inl a5=>((b0R a5.1).bind fun y7=> (b0T y7).bind fun y8=> (b4M (a5.2.1,(y8.1.length:Int))).bind fun y9=> cond (lim ((a02 y9)+(a02 y8.1))) ((b1l (a04 y9 y8.1)).bind fun y10=> (c0g (wrap .u64 y10,2)).bind fun y11=> cond (lim ((a02 (a04 y9 y8.1))+(a02 y11))) (some (a04 (a04 y9 y8.1) y11,0)) none) none) |.inr b6=>some (b6.2.1,b6.1))
def c0j:FSem:=⟨[.v Q51],[.o (.int .u8),.v QI],c0i⟩
def H19:Hints:=⟨[(122,[.sv 14 (.list false Q33),.sv 15 QI,.sv 16 QI,.box 4 Q7,.vp 1 Q51,.ptr 4 4 []],[(.exit 0,[.box 4 Q7,.vp 1 Q51,.ptr 4 4 []]),(.ret,[.sv 3 QI,.own 2 2 (.int .u8)])])],[],[]⟩
def a4P(s:((List Int)×Z6)):Option (((List Int)×Z6) ⊕ Z0):= cond (decide (s.2.2.1<(s.1.length:Int))) ((a0m s.1 s.2.2.1).bind fun x1=> (a0m s.2.1 s.2.2.1).bind fun x2=> cond (x1 != x2) (some (.inr (Sum.inr ((false,()))))) (some (.inl (s.1,s.2.1,wrap .i64 (s.2.2.1+1),())))) (some (.inr (Sum.inl ())))
def a3s(x:((List Int)×(List Int))):Option Bool:= cond ((x.1.length:Int) != (x.2.length:Int)) (some false) ((a0h a4P (x.1,x.2,0,())).bind fun w3=> match w3 with |.inl a4=>some true |.inr b5=>some b5.1)
def a9v:FSem:=⟨[.v QL,.v QL],[.v .bool],a3s⟩
def H88:Hints:=⟨[(58,[.sv 0 QL,.sv 1 QL,.sv 5 QI],[(.exit 0,[]),(.ret,[.sv 4 .bool])])],[],[(6,[.v,.v,.v,.v,.v,.v,.v,.v,.x])]⟩
def a5X(s:((List (List Int))×Z13)):Option (((List (List Int))×Z13) ⊕ Z0):= cond (decide (s.2.2.1<(s.1.length:Int))) ((a0m s.1 s.2.2.1).bind fun x1=> (a0m s.2.1 s.2.2.1).bind fun x2=> (a3s (x1,x2)).bind fun y3=> cond (!y3) (some (.inr (Sum.inr ((false,()))))) (some (.inl (s.1,s.2.1,wrap .i64 (s.2.2.1+1),())))) (some (.inr (Sum.inl ())))
def a8F(x:((List (List Int))×(List (List Int)))):Option Bool:= cond ((x.1.length:Int) != (x.2.length:Int)) (some false) ((a0h a5X (x.1,x.2,0,())).bind fun w4=> match w4 with |.inl a5=>some true |.inr b6=>some b6.1)
def b6g:FSem:=⟨[.v (.list false QL),.v (.list false QL)],[.v .bool],a8F⟩
def H64:Hints:=⟨[(58,[.sv 0 (.list false QL),.sv 1 (.list false QL),.sv 5 QI],[(.exit 0,[]),(.ret,[.sv 4 .bool])])],[],[(6,[.v,.v,.v,.v,.v,.v,.v,.v,.x,.x])]⟩
def a5x(x:(Z12×Z12)):Option Bool:= cond (x.1.1==x.2.1) ((a8F (x.1.2.1,x.2.2.1)).bind fun y1=> some y1) (some false)
def b0x:FSem:=⟨[.v Q12,.v Q12],[.v .bool],a5x⟩
def H23:Hints:=⟨[],[],[]⟩
def c0k(x:(List Int)):Option Z15:= cond (lim (a02 x)) (some (x,0,0,())) none
def c0l:FSem:=⟨[.v (.list false (.int .u8))],[.b Q13],c0k⟩
def d8p:Hints:=⟨[],[],[]⟩
def b9H(s:Z27):Option (Z27 ⊕ (Unit ⊕ Z7)):= cond (decide (s.2.2.2.1<s.2.2.1)) ((a0m s.2.1 s.2.2.2.1).bind fun x1=> (show Option (Int×Int×Int×Z32)from cond (s.2.2.2.1==9) (cond (decide (x1 > 1)) (some (s.1,s.2.2.2.1,x1,s.2.1,s.2.2.1,s.2.2.2.1,true,())) (cond (decide (s.2.2.2.1 > 0)) (some (s.1,s.2.2.2.1,x1,s.2.1,s.2.2.1,s.2.2.2.1,x1==0,())) (some (s.1,s.2.2.2.1,x1,s.2.1,s.2.2.1,s.2.2.2.1,false,())))) (cond (decide (s.2.2.2.1 > 0)) (some (s.1,s.2.2.2.1,x1,s.2.1,s.2.2.1,s.2.2.2.1,x1==0,())) (some (s.1,s.2.2.2.1,x1,s.2.1,s.2.2.1,s.2.2.2.1,false,())))).bind fun z2=> cond z2.2.2.2.2.2.2.1 (some (.inr (Sum.inr ((0,0,2,()))))) (cond (decide ((wrap .i64 (7*z2.2.1))<0)) none (cond (decide (z2.2.2.1<128)) (some (.inr (Sum.inr ((bits .u64 .or z2.1 (a0z .u64 (wrap .u64 (a08 z2.2.2.1 128)) (wrap .i64 (7*z2.2.1))),wrap .i64 (z2.2.1+1),0,()))))) (some (.inl (bits .u64 .or z2.1 (a0z .u64 (wrap .u64 (a08 z2.2.2.1 128)) (wrap .i64 (7*z2.2.1))),z2.2.2.2.1,z2.2.2.2.2.1,wrap .i64 (z2.2.2.2.2.2.1+1),())))))) (some (.inr (Sum.inl ())))
def b6h(x:(List Int)):Option (Int×Int×Int):= (a0h b9H (0,x,(x.length:Int),0,())).bind fun w3=> match w3 with |.inl a4=>some (0,0,3) |.inr b5=>some (b5.1,b5.2.1,b5.2.2.1)
def b6i:FSem:=⟨[.v (.list false (.int .u8))],[.v (.int .u64),.v QI,.v QI],b6h⟩
def d8q:Hints:=⟨[(58,[.sv 5 (.int .u64),.sv 8 (.list false (.int .u8)),.sv 9 QI,.sv 10 QI],[(.exit 0,[]),(.ret,[.sv 2 (.int .u64),.sv 3 QI,.sv 4 QI])])],[(7474,[(.normal,[.sv 5 (.int .u64),.sv 6 QI,.sv 7 (.int .u8),.sv 8 (.list false (.int .u8)),.sv 9 QI,.sv 10 QI,.sv 28 .bool])])],[]⟩
def a1f(x:Z31):Option Z27:= cond (x.1.2.2.1 != 0) (some (0,x.1)) (cond ((decide (0≤x.1.2.1))&&(decide (x.1.2.1≤(x.1.1.length:Int)))) ((b6h (a29 (a01 x.1.2.1) (a07 (a02 x.1.1) x.1.1))).bind fun y1=> (show Option Z72 from cond (y1.2.2==0) (cond (decide (y1.1 > x.2)) (some (y1.1,y1.2.1,4,x.1,())) (some (y1.1,y1.2.1,y1.2.2,x.1,()))) (some (y1.1,y1.2.1,y1.2.2,x.1,()))).bind fun z2=> cond (z2.2.2.1 != 0) (some (0,z2.2.2.2.1.1,z2.2.2.2.1.2.1,z2.2.2.1,z2.2.2.2.1.2.2.2)) (some (z2.1,z2.2.2.2.1.1,wrap .i64 (z2.2.2.2.1.2.1+z2.2.1),z2.2.2.2.1.2.2))) none)
def b2t:FSem:=⟨[.r false (.b Q13),.v (.int .u64)],[.v (.int .u64)],a1f⟩
def d8r:Hints:=⟨[],[(15,[(.normal,[.sv 5 (.int .u64),.sv 6 QI,.sv 7 QI,.box pinned Q13,.ptr 0 pinned []])])],[(3,[.p,.p,.q,.q,.p,.p,.q,.q,.x,.x,.x,.v,.v,.v,.v,.v,.x])]⟩
def c0m(x:Int):Option Int:= cond ((a08 x 2)==0) (some (wrap .i64 (wrap .u64 (a19 x 2)))) (some (wrap .i64 ((wrap .i64 (0-(wrap .i64 (wrap .u64 (a19 x 2)))))-1)))
end Go.Ab
namespace Go.Ab
open IntKind(wrap)
open Go.Proofs
set_option maxRecDepth 100000
set_option linter.unusedVariables false
def c0n:FSem:=⟨[.v (.int .u64)],[.v QI],c0m⟩
def d8s:Hints:=⟨[],[],[]⟩
def b2u(x:Z15):Option Z27:= some (x.2.2.1,x)
def b2v:FSem:=⟨[.r false (.b Q13)],[.v QI],b2u⟩
def d8t:Hints:=⟨[],[],[]⟩
def b0V(x:Z15):Option Z27:= some (wrap .i64 ((x.1.length:Int)-x.2.1),x)
def b0W:FSem:=⟨[.r false (.b Q13)],[.v QI],b0V⟩
def d8u:Hints:=⟨[],[],[(1,[.p,.p,.q,.q,.v,.p,.p,.q,.q,.x,.x])]⟩
def b2T(x:Z15):Option Z27:= some (x.2.1,x)
def b2U:FSem:=⟨[.r false (.b Q13)],[.v QI],b2T⟩
def d8v:Hints:=⟨[],[],[]⟩
def b8O(s:((List Int)×(Int×Int×c3q))):Option (((List Int)×(Int×Int×c3q)) ⊕ ((List Int)×c3q)):= cond (decide (s.2.2.1<s.2.1)) ((a1f (s.2.2.2.2.1,7)).bind fun y11=> (a1f (y11.2,7)).bind fun y12=> (a1f (y12.2,2048)).bind fun y13=> (c0m y13.1).bind fun y14=> cond (lim ((a02 s.2.2.2.1.2.2.2.1)+1)) (some (.inl (s.1,s.2.1,wrap .u64 (s.2.2.1+1),(s.2.2.2.1.1,s.2.2.2.1.2.1,s.2.2.2.1.2.2.1,a04 s.2.2.2.1.2.2.2.1 ([(wrap .i64 y11.1,wrap .i64 y12.1,y14,())]:List Z7),s.2.2.2.1.2.2.2.2),y13.2,()))) none) (some (.inr (s.1,s.2.2.2.1,s.2.2.2.2.1,())))
def b0y(x:(List Int)):Option (a6E×Int×Int×Int):= cond (decide ((x.length:Int)<2)) (some ((0,0,(0,0,0,()),[],[],()),0,0,3)) ((show Option ((List Int)×(Bool×b8F))from(a0m x 0).bind fun x1=> cond (x1 != 245) (some (x,true,(0,0,(0,0,0,()),[],[],()),())) ((a0m x 1).bind fun x2=> some (x,x2 != 75,(0,0,(0,0,0,()),[],[],()),()))).bind fun z3=> cond z3.2.1 (some ((0,0,(0,0,0,()),[],[],()),0,0,2)) (cond (decide (2≤(z3.1.length:Int))) ((c0k (a29 2 (a07 (a02 z3.1) z3.1))).bind fun y4=> (a1f (y4,4194304)).bind fun y5=> (a1f (y5.2,4096)).bind fun y6=> (a1f (y6.2,1048576)).bind fun y7=> (a1f (y7.2,8)).bind fun y8=> (a1f (y8.2,24)).bind fun y9=> (a1f (y9.2,16)).bind fun y10=> (a0h b8O (z3.1,y10.1,0,(wrap .i64 y5.1,wrap .i64 y6.1,(wrap .i64 y7.1,wrap .i64 y8.1,wrap .i64 y9.1,z3.2.2.1.2.2.1.2.2.2),z3.2.2.1.2.2.2),y10.2,())).bind fun w15=> (a1f (w15.2.2.1,1048576)).bind fun y16=> (b2u y16.2).bind fun y17=> cond (y17.1 != 0) (some ((0,0,(0,0,0,()),[],[],()),0,0,y17.1)) ((b0V y17.2).bind fun y18=> cond (decide (y18.1<1)) (some ((0,0,(0,0,0,()),[],[],()),0,0,3)) ((b2T y18.2).bind fun y19=> cond ((decide (0≤(wrap .i64 (2+y19.1))))&&(decide ((wrap .i64 (2+y19.1))≤(w15.1.length:Int)))) ((b3Z (a07 (a01 (wrap .i64 (2+y19.1))) w15.1)).bind fun y20=> (a0m w15.1 (wrap .i64 (2+y19.1))).bind fun x21=> cond (y20 != x21) (some ((0,0,(0,0,0,()),[],[],()),0,0,5)) ((a7b w15.2.1).bind fun y22=> cond (!y22) (some ((0,0,(0,0,0,()),[],[],()),0,0,2)) (some (w15.2.1,wrap .i64 ((wrap .i64 (2+y19.1))+1),wrap .i64 y16.1,0)))) none))) none))
def b0z:FSem:=⟨[.v (.list false (.int .u8))],[.v (.pair QI (.pair QI (.pair Q10 (.pair (.list false Q10) Q34)))),.v QI,.v QI,.v QI],b0y⟩
def H65:Hints:=⟨[(8186,[.sv 0 (.list false (.int .u8)),.sv 54 (.int .u64),.sv 55 (.int .u64),.box 2 Q49,.box 1029 Q13,.ptr 2 2 [],.ptr 6 1029 []],[(.exit 0,[.sv 0 (.list false (.int .u8)),.box 2 Q49,.box 1029 Q13,.ptr 2 2 [],.ptr 6 1029 []])])],[(14,[(.normal,[.sv 0 (.list false (.int .u8)),.sv 25 .bool,.box 2 Q49,.ptr 2 2 []])])],[(25,[.v,.v,.v,.v,.v,.v,.v,.v,.x])]⟩
def c2e(x:(List Int)):Option Z15:= cond (lim (a02 x)) (some (x,0,0,())) none
def c2f:FSem:=⟨[.v (.list false (.int .u8))],[.b Q13],c2e⟩
def H66:Hints:=⟨[],[],[]⟩
def a0B(x:Z15):Option Z27:= some (x.2.2.1,x)
def a2q:FSem:=⟨[.r false (.b Q13)],[.v QI],a0B⟩
def H70:Hints:=⟨[],[],[]⟩
def a8d(x:Z15):Option Z27:= some (wrap .i64 ((wrap .i64 (8*(x.1.length:Int)))-x.2.1),x)
def a8e:FSem:=⟨[.r false (.b Q13)],[.v QI],a8d⟩
def H68:Hints:=⟨[],[],[(1,[.p,.p,.q,.q,.v,.v,.p,.p,.q,.q,.x,.x])]⟩
def a5y(x:Z31):Option Z27:= (a0m x.1.1 (wrap .i64 (a19 x.2 8))).bind fun x1=> cond (decide ((wrap .i64 (7-(a08 x.2 8)))<0)) none (some (bits .u8 .and (a0A .u8 x1 (wrap .i64 (7-(a08 x.2 8)))) 1,x.1))
def a5z:FSem:=⟨[.r false (.b Q13),.v QI],[.v (.int .u8)],a5y⟩
def d8w:Hints:=⟨[],[],[]⟩
def b6Z(s:Z72):Option (Z72 ⊕ Z50):= cond (decide (s.2.2.1<s.2.1)) ((a5y (s.2.2.2.1,s.2.2.2.1.2.1)).bind fun y3=> some (.inl (bits .u64 .or (a0z .u64 s.1 1) (wrap .u64 y3.1),s.2.1,wrap .i64 (s.2.2.1+1),(y3.2.1,wrap .i64 (y3.2.2.1+1),y3.2.2.2),()))) (some (.inr (s.1,s.2.2.2.1,())))
def a0C(x:Z31):Option Z27:= cond (x.1.2.2.1 != 0) (some (0,x.1)) ((show Option Z60 from cond (decide (x.2<0)) (some (x.2,true,x.1,())) (some (x.2,decide (x.2 > 64),x.1,()))).bind fun z1=> cond z1.2.1 (some (0,z1.2.2.1.1,z1.2.2.1.2.1,1,z1.2.2.1.2.2.2)) ((a8d z1.2.2.1).bind fun y2=> cond (decide (z1.1 > y2.1)) (some (0,y2.2.1,y2.2.2.1,3,y2.2.2.2.2)) ((a0h b6Z (0,z1.1,0,y2.2,())).bind fun w4=> some (w4.1,w4.2.1))))
def a2r:FSem:=⟨[.r false (.b Q13),.v QI],[.v (.int .u64)],a0C⟩
def d8x:Hints:=⟨[(506,[.sv 5 (.int .u64),.sv 27 QI,.sv 28 QI,.box pinned Q13,.ptr 0 pinned []],[(.exit 0,[.sv 5 (.int .u64),.box pinned Q13])])],[(14,[(.normal,[.sv 1 QI,.sv 16 .bool,.box pinned Q13,.ptr 0 pinned []])])],[]⟩
def a3g(x:Z31):Option Z27:= (a0C (x.1,x.2)).bind fun y1=> (show Option (Int×Z60)from cond (y1.2.2.2.1 != 0) (some (x.2,y1.1,true,y1.2,())) (some (x.2,y1.1,x.2==0,y1.2,()))).bind fun z2=> cond z2.2.2.1 (some (0,z2.2.2.2.1)) (cond (decide ((wrap .i64 (64-z2.1))<0)) none (cond (decide ((wrap .i64 (64-z2.1))<0)) none (some (a0A .i64 (wrap .i64 (a0z .u64 z2.2.1 (wrap .i64 (64-z2.1)))) (wrap .i64 (64-z2.1)),z2.2.2.2.1))))
def a3h:FSem:=⟨[.r false (.b Q13),.v QI],[.v QI],a3g⟩
def d8y:Hints:=⟨[],[(14,[(.normal,[.sv 1 QI,.sv 5 (.int .u64),.sv 17 .bool,.box pinned Q13])])],[]⟩
def b9I(s:(Int×c3p)):Option ((Int×c3p) ⊕ (Int×c9r)):= cond (decide (s.2.2.1<s.2.1)) ((a3g (s.2.2.2.1,s.1)).bind fun y4=> cond (lim ((a02 s.2.2.2.2.1.2.2.2.2.2.1)+1)) (some (.inl (s.1,s.2.1,wrap .i64 (s.2.2.1+1),y4.2,(s.2.2.2.2.1.1,s.2.2.2.2.1.2.1,s.2.2.2.2.1.2.2.1,s.2.2.2.2.1.2.2.2.1,s.2.2.2.2.1.2.2.2.2.1,a04 s.2.2.2.2.1.2.2.2.2.2.1 [y4.1],s.2.2.2.2.1.2.2.2.2.2.2),()))) none) (some (.inr (s.1,s.2.2.2.2.1,s.2.2.2.1,())))
def b6j(x:(Z15×Z93)):Option (Bool×Z15×Z93):= (a0C (x.1,5)).bind fun y1=> (a0C (y1.2,4)).bind fun y2=> (a0C (y2.2,5)).bind fun y3=> (a0h b9I (wrap .i64 y3.1,wrap .i64 ((wrap .i64 y1.1)+1),0,y3.2,(x.2.1,x.2.2.1,x.2.2.2.1,wrap .i64 y2.1,x.2.2.2.2.2),())).bind fun w5=> (a1L w5.2.1.2.2.2.2.2.1).bind fun y6=> some (y6==w5.1,w5.2.2.1,w5.2.1)
def b6k:FSem:=⟨[.r false (.b Q13),.r false (.b Q32)],[.v .bool],b6j⟩
def d8z:Hints:=⟨[(250,[.sv 6 QI,.sv 20 QI,.sv 21 QI,.box pinned Q13,.box 1000001 Q32,.ptr 0 pinned [],.ptr 1 1000001 []],[(.exit 0,[.sv 6 QI,.box 1000001 Q32,.box pinned Q13,.ptr 1 1000001 []])])],[],[(6,[.p,.p,.p,.r [26,1000001],.r [27,1000001],.p,.v,.w [30,1030,pinned],.q,.a [31,32,1000001],.x,.x,.x])]⟩
def c1c(s:c3p):Option (c3p ⊕ d2m):= cond (decide (s.2.1<3)) ((a3g (s.2.2.1,8)).bind fun y6=> cond ((decide (0≤s.2.1))&&(decide (s.2.1<3))) (some (.inl (s.1,wrap .i64 (s.2.1+1),y6.2,(s.2.2.2.1.1,s.2.2.2.1.2.1,s.2.2.2.1.2.2.1,s.2.2.2.1.2.2.2.1,s.2.2.2.1.2.2.2.2.1,s.2.2.2.1.2.2.2.2.2.1,a05 s.2.2.2.1.2.2.2.2.2.2.1 (a01 s.2.1) y6.1,s.2.2.2.1.2.2.2.2.2.2.2),()))) none) (some (.inr (s.1,s.2.2.1,s.2.2.2.1,())))
def c1d(s:(Int×Bool×c3p)):Option ((Int×Bool×c3p) ⊕ (Int×Bool×c9r)):= cond (decide (s.2.2.2.1<s.2.2.1)) ((a0C (s.2.2.2.2.1,5)).bind fun y15=> (a0C (y15.2,4)).bind fun y16=> cond (lim ((a02 s.2.2.2.2.2.1.2.2.2.2.2.2.2.1)+1)) (some (.inl (s.1,s.2.1,s.2.2.1,wrap .u64 (s.2.2.2.1+1),y16.2,(s.2.2.2.2.2.1.1,s.2.2.2.2.2.1.2.1,s.2.2.2.2.2.1.2.2.1,s.2.2.2.2.2.1.2.2.2.1,s.2.2.2.2.2.1.2.2.2.2.1,s.2.2.2.2.2.1.2.2.2.2.2.1,s.2.2.2.2.2.1.2.2.2.2.2.2.1,a04 s.2.2.2.2.2.1.2.2.2.2.2.2.2.1 ([(wrap .i64 ((wrap .i64 y15.1)+1),wrap .i64 y16.1,())]:List (Int×Int×Unit)),s.2.2.2.2.2.1.2.2.2.2.2.2.2.2),()))) none) (some (.inr (s.1,s.2.1,s.2.2.2.2.2.1,s.2.2.2.2.1,())))
def b7H(x:Z15):Option (Z93×Int×Bool×Z15):= (a0C (x,3)).bind fun y1=> (a0C (y1.2,5)).bind fun y2=> (a0C (y2.2,5)).bind fun y3=> (show Option (Int×Bool×c9r)from(show Option (d2m ⊕ ((Int×Bool×c9r) ⊕ (Int×Bool×d4K)))from cond ((wrap .i64 y1.1)==2) ((a0C (y3.2,3)).bind fun y4=> some (Sum.inr (Sum.inl (wrap .i64 y3.1,true,(wrap .i64 y1.1,wrap .i64 y2.1,wrap .i64 y4.1,0,0,[],a00 3 0,[],[],(0,[],()),[],()),y4.2,())))) (cond ((wrap .i64 y1.1)==4) ((a0C (y3.2,10)).bind fun y5=> (a0h c1c (wrap .i64 y3.1,0,y5.2,(wrap .i64 y1.1,wrap .i64 y2.1,0,0,wrap .i64 ((wrap .i64 y5.1)+1),[],a00 3 0,[],[],(0,[],()),[],()),())).bind fun w7=> some (Sum.inl (w7.1,w7.2.1,w7.2.2.1,()))) (cond ((wrap .i64 y1.1)==3) (some (Sum.inl (wrap .i64 y3.1,y3.2,(wrap .i64 y1.1,wrap .i64 y2.1,0,0,0,[],a00 3 0,[],[],(0,[],()),[],()),()))) (cond ((wrap .i64 y1.1)==5) (some (Sum.inr (Sum.inr ((wrap .i64 y3.1,true,y3.2,(wrap .i64 y1.1,wrap .i64 y2.1,0,0,0,[],a00 3 0,[],[],(0,[],()),[],()),()))))) (some (Sum.inr (Sum.inl (wrap .i64 y3.1,true,(wrap .i64 y1.1,wrap .i64 y2.1,0,0,0,[],a00 3 0,[],[],(0,[],()),[],()),y3.2,())))))))).bind fun z8=> match z8 with |.inl a9=>((b6j (a9.2.1,a9.2.2.1)).bind fun y11=> some (a9.1,y11.1,y11.2.2,y11.2.1,())) |.inr b10=>(match b10 with |.inl a12=>some (a12.1,a12.2.1,a12.2.2.1,a12.2.2.2.1,()) |.inr b13=>((a0C (b13.2.2.1,2)).bind fun y14=> (a0h c1d (b13.1,b13.2.1,y14.1,0,y14.2,b13.2.2.2.1,())).bind fun w17=> some (w17.1,w17.2.1,w17.2.2.1,w17.2.2.2.1,())))).bind fun z18=> some (z18.2.2.1,z18.1,z18.2.1,z18.2.2.2.1)
def b7I:FSem:=⟨[.r false (.b Q13)],[.v (.pair QI (.pair QI (.pair QI (.pair QI (.pair QI (.pair QL (.pair (.arr 3 QI) (.pair (.list false Q3) Q16)))))))),.v QI,.v .bool],b7H⟩
def d8A:Hints:=⟨[(8106,[.sv 3 QI,.sv 4 .bool,.sv 50 (.int .u64),.sv 51 (.int .u64),.box pinned Q13,.box 2 Q32,.ptr 0 pinned [],.ptr 2 2 []],[(.exit 7,[.sv 3 QI,.sv 4 .bool,.box 2 Q32,.box pinned Q13,.ptr 2 2 []])]),(129550,[.sv 3 QI,.sv 38 QI,.box pinned Q13,.box 2 Q32,.ptr 0 pinned [],.ptr 2 2 []],[(.exit 5,[.sv 3 QI,.box pinned Q13,.box 2 Q32,.ptr 0 pinned [],.ptr 2 2 []])])],[(63,[(.normal,[.sv 3 QI,.sv 4 .bool,.box 2 Q32,.box pinned Q13,.ptr 2 2 []])]),(2024,[(.normal,[.sv 3 QI,.box pinned Q13,.box 2 Q32,.ptr 0 pinned [],.ptr 2 2 []]),(.exit 0,[.sv 3 QI,.sv 4 .bool,.box 2 Q32,.box pinned Q13,.ptr 2 2 []]),(.exit 4,[.sv 3 QI,.sv 4 .bool,.box pinned Q13,.box 2 Q32,.ptr 0 pinned [],.ptr 2 2 []])])],[]⟩
def b5I(s:Z72):Option (Z72 ⊕ Z50):= cond (s.2.2.1==(wrap .i64 (8*(s.2.2.2.1.1.length:Int)))) (some (.inr (0,(s.2.2.2.1.1,s.2.2.2.1.2.1,3,s.2.2.2.1.2.2.2),()))) ((a5y (s.2.2.2.1,s.2.2.1)).bind fun y2=> cond (y2.1==1) (some (.inr (s.2.1,(y2.2.1,wrap .i64 (s.2.2.1+1),y2.2.2.2),()))) (cond (s.2.1==s.1) (some (.inr (0,(y2.2.1,y2.2.2.1,2,y2.2.2.2.2),()))) (some (.inl (s.1,wrap .i64 (s.2.1+1),wrap .i64 (s.2.2.1+1),y2.2,())))))
def b0X(x:Z31):Option Z27:= cond (x.1.2.2.1 != 0) (some (0,x.1)) ((a0h b5I (a2m x.2 0,0,x.1.2.1,x.1,())).bind fun w3=> some (w3.1,w3.2.1))
def b0Y:FSem:=⟨[.r false (.b Q13),.v QI],[.v QI],b0X⟩
def d8B:Hints:=⟨[(62,[.sv 1 QI,.sv 5 QI,.sv 6 QI,.box pinned Q13,.ptr 0 pinned []],[(.ret,[.sv 4 QI,.box pinned Q13])])],[],[(4,[.p,.p,.q,.q,.v,.x])]⟩
def b2P(x:Int):Option Int:= cond (decide (x≥2147483648)) (some 0) (cond ((a08 x 2)==0) (some (wrap .i64 (wrap .u64 (a19 x 2)))) (some (wrap .i64 ((wrap .i64 (0-(wrap .i64 (wrap .u64 (a19 x 2)))))-1))))
def b7J:FSem:=⟨[.v (.int .u64)],[.v QI],b2P⟩
def d8C:Hints:=⟨[],[],[]⟩
def c2g(x:Z31):Option Z44:= (b0X (x.1,32)).bind fun y1=> (a0B y1.2).bind fun y2=> cond (y2.1 != 0) ((a0B y2.2).bind fun y3=> some (0,y3.1,y3.2)) (cond (decide ((wrap .u64 y1.1)<32)) ((a0C (y2.2,x.2)).bind fun y4=> cond (decide (x.2<0)) none ((b2P (wrap .u64 ((a0z .u64 (wrap .u64 y1.1) x.2)+y4.1))).bind fun y5=> (a0B y4.2).bind fun y6=> some (y5,y6.1,y6.2))) ((a0C (y2.2,32)).bind fun y7=> (a0B y7.2).bind fun y8=> cond (y8.1 != 0) ((a0B y8.2).bind fun y9=> some (0,y9.1,y9.2)) ((show Option Z60 from cond (decide (y7.1≥2147483648)) (some (y7.1,true,y8.2,())) (cond (decide (x.2<0)) none (some (y7.1,decide ((a0A .u64 y7.1 x.2)<32),y8.2,())))).bind fun z10=> cond z10.2.1 (some (0,2,z10.2.2.1)) ((b2P z10.1).bind fun y11=> some (y11,0,z10.2.2.1)))))
def c2h:FSem:=⟨[.r false (.b Q13),.v QI],[.v QI,.v QI],c2g⟩
def d8D:Hints:=⟨[],[(254,[(.normal,[.sv 8 (.int .u64),.sv 44 .bool,.box pinned Q13])])],[]⟩
def c4U(s:Z80):Option (Z80 ⊕ (Z57 ⊕ Z70)):= cond (decide (s.2.2.1<s.2.1)) ((c2g (s.2.2.2.2.1,s.1)).bind fun y5=> cond (y5.2.1 != 0) (some (.inr (Sum.inr ((y5.2.1,[],y5.2.2,()))))) (cond (lim ((a02 s.2.2.2.1)+1)) (some (.inl (s.1,s.2.1,wrap .i64 (s.2.2.1+1),a04 s.2.2.2.1 [y5.1],y5.2.2,()))) none)) (some (.inr (Sum.inl (s.2.2.2.1,s.2.2.2.2.1,()))))
def c2i(x:(Z15×Int×Int)):Option Z54:= (show Option (Int×Z60)from(a3J x.2.1).bind fun y1=> cond (!y1) (some (x.2.1,x.2.2,true,x.1,())) (cond (decide (x.2.2<0)) (some (x.2.1,x.2.2,true,x.1,())) (some (x.2.1,x.2.2,decide (x.2.2 > 4194304),x.1,())))).bind fun z2=> cond z2.2.2.1 (some ([],1,z2.2.2.2.1)) ((a0B z2.2.2.2.1).bind fun y3=> cond (y3.1 != 0) ((a0B y3.2).bind fun y4=> some ([],y4.1,y4.2)) ((a0h c4U (z2.1,z2.2.1,0,[],y3.2,())).bind fun w6=> match w6 with |.inl a7=>some (a7.1,0,a7.2.1) |.inr b8=>some (b8.2.1,b8.1,b8.2.2.1)))
def c2j:FSem:=⟨[.r false (.b Q13),.v QI,.v QI],[.o QI,.v QI],c2i⟩
def d8E:Hints:=⟨[(250,[.sv 1 QI,.sv 27 QI,.sv 28 QI,.own 8 8 QI,.box pinned Q13,.ptr 0 pinned []],[(.exit 0,[.own 8 8 QI,.box pinned Q13]),(.ret,[.sv 7 QI,.own 6 6 QI,.box pinned Q13])])],[(6,[(.normal,[.sv 1 QI,.sv 2 QI,.sv 21 .bool,.box pinned Q13,.ptr 0 pinned []])])],[]⟩
def c3u(s:(Int×Z80)):Option ((Int×Z80) ⊕ Z78):= cond (decide (s.2.2.2.1<s.2.2.1)) ((a3g (s.2.2.2.2.2.1,s.2.1)).bind fun y6=> cond (lim ((a02 s.2.2.2.2.1)+1)) (some (.inl (s.1,s.2.1,s.2.2.1,wrap .i64 (s.2.2.2.1+1),a04 s.2.2.2.2.1 [y6.1],y6.2,()))) none) (some (.inr (s.1,s.2.1,s.2.2.2.2.1,s.2.2.2.2.2.1,())))
def c0o(x:Z31):Option (Int×Z54):= (a0C (x.1,5)).bind fun y1=> (a0B y1.2).bind fun y2=> cond (y2.1 != 0) ((a0B y2.2).bind fun y3=> some (0,[],y3.1,y3.2)) (cond (decide ((wrap .i64 y1.1)≤25)) ((c2i (y2.2,wrap .i64 y1.1,x.2)).bind fun y4=> some (wrap .i64 y1.1,y4.1,y4.2.1,y4.2.2)) (cond ((wrap .i64 y1.1) != 31) (some (0,[],2,y2.2)) ((a0C (y2.2,5)).bind fun y5=> (a0h c3u (wrap .i64 y1.1,wrap .i64 y5.1,x.2,0,[],y5.2,())).bind fun w7=> (a0B w7.2.2.2.1).bind fun y8=> cond (y8.1 != 0) ((a0B y8.2).bind fun y9=> some (0,[],y9.1,y9.2)) ((a1L w7.2.2.1).bind fun y10=> cond (y10 != w7.2.1) (some (0,[],2,y8.2)) (some (w7.1,w7.2.2.1,0,y8.2))))))
def c0p:FSem:=⟨[.r false (.b Q13),.v QI],[.v QI,.o QI,.v QI],c0o⟩
def d8F:Hints:=⟨[(2042,[.sv 7 QI,.sv 10 QI,.sv 37 QI,.sv 38 QI,.own 11 11 QI,.box pinned Q13,.ptr 0 pinned []],[(.exit 0,[.sv 7 QI,.sv 10 QI,.own 11 11 QI,.box pinned Q13,.ptr 0 pinned []])])],[],[]⟩
def c3v(s:(Int×(Int×((List Int)×((List Int)×(Z15×Z73)))))):Option ((Int×(Int×((List Int)×((List Int)×(Z15×Z73))))) ⊕ (((List Int)×(Z5×Z5×Z34)) ⊕ (Int×((List Int)×(Z5×Z34))))):= cond (decide (s.2.1<s.1)) (cond ((decide (0≤s.2.1))&&(decide (s.2.1<(s.2.2.2.1.length:Int)))) ((c0o (s.2.2.2.2.1,a03 s.2.2.2.1 (a01 s.2.1) 0)).bind fun y6=> cond (y6.2.2.1 != 0) (some (.inr (Sum.inr ((y6.2.2.1,[],(0,[],()),y6.2.2.2,()))))) (cond (lim ((a02 s.2.2.2.2.2.2.1.2.1)+1)) (cond (lim ((a02 s.2.2.1)+(a02 y6.2.1))) (some (.inl (s.1,wrap .i64 (s.2.1+1),a04 s.2.2.1 y6.2.1,s.2.2.2.1,y6.2.2.2,s.2.2.2.2.2.1,(s.2.2.2.2.2.2.1.1,a04 s.2.2.2.2.2.2.1.2.1 [y6.1],s.2.2.2.2.2.2.1.2.2),()))) none) none)) none) (some (.inr (Sum.inl (s.2.2.1,s.2.2.2.2.2.1,s.2.2.2.2.2.2.1,s.2.2.2.2.1,()))))
def c0q(x:(Z15×Int×Int)):Option (Z5×Z54):= (a7u (x.2.1,x.2.2)).bind fun y1=> cond (!y1) (some ((0,[],()),[],1,x.1)) ((a0C (x.1,4)).bind fun y2=> (a0B y2.2).bind fun y3=> cond (y3.1 != 0) ((a0B y3.2).bind fun y4=> some ((0,[],()),[],y4.1,y4.2)) ((a3r (wrap .i64 y2.1,x.2.1,x.2.2)).bind fun y5=> cond ((y5.length:Int)==0) (some ((0,[],()),[],2,y3.2)) ((a0h c3v ((y5.length:Int),0,[],y5,y3.2,(0,[],()),(wrap .i64 y2.1,[],()),())).bind fun w7=> match w7 with |.inl a8=>some (a8.2.2.1,a8.1,0,a8.2.2.2.1) |.inr b9=>some (b9.2.2.1,b9.2.1,b9.1,b9.2.2.2.1))))
def c0r:FSem:=⟨[.r false (.b Q13),.v QI,.v QI],[.v Q9,.o QI,.v QI],c0q⟩
def d8G:Hints:=⟨[(4090,[.sv 43 QI,.sv 44 QI,.own 12 12 QI,.own 42 10 QI,.box pinned Q13,.box 6 Q9,.box 11 Q8,.ptr 0 pinned [],.ptr 6 6 [],.ptr 11 11 []],[(.exit 0,[.own 12 12 QI,.box 6 Q9,.box 11 Q8,.box pinned Q13,.ptr 6 6 [],.ptr 11 11 []]),(.ret,[.sv 8 QI,.own 7 7 QI,.box 6 Q9,.box pinned Q13,.ptr 6 6 []])])],[],[]⟩
def c6k(s:(Int×Int×Bool×Int×Int×Z15×b2G)):Option ((Int×Int×Bool×Int×Int×Z15×b2G) ⊕ (Int×Int×Bool×Z15×b2G)):= cond (decide (s.2.2.2.2.1<s.2.2.2.1)) ((a3g (s.2.2.2.2.2.1,s.2.1)).bind fun y7=> cond (lim ((a02 s.2.2.2.2.2.2.2.1.2.2.2.2.2.2.2.2.1)+1)) (some (.inl (s.1,s.2.1,s.2.2.1,s.2.2.2.1,wrap .i64 (s.2.2.2.2.1+1),y7.2,s.2.2.2.2.2.2.1,(s.2.2.2.2.2.2.2.1.1,s.2.2.2.2.2.2.2.1.2.1,s.2.2.2.2.2.2.2.1.2.2.1,s.2.2.2.2.2.2.2.1.2.2.2.1,s.2.2.2.2.2.2.2.1.2.2.2.2.1,s.2.2.2.2.2.2.2.1.2.2.2.2.2.1,s.2.2.2.2.2.2.2.1.2.2.2.2.2.2.1,s.2.2.2.2.2.2.2.1.2.2.2.2.2.2.2.1,a04 s.2.2.2.2.2.2.2.1.2.2.2.2.2.2.2.2.1 [y7.1],s.2.2.2.2.2.2.2.1.2.2.2.2.2.2.2.2.2),()))) none) (some (.inr (s.1,s.2.1,s.2.2.1,s.2.2.2.2.2.1,s.2.2.2.2.2.2.1,s.2.2.2.2.2.2.2.1,())))
def c4p(x:Z31):Option (Z93×Z27):= cond (decide (x.2<1)) (some ((0,0,0,0,0,[],a00 3 0,[],[],(0,[],()),[],()),1,x.1)) (cond (decide (x.2 > 4096)) (some ((0,0,0,0,0,[],a00 3 0,[],[],(0,[],()),[],()),1,x.1)) ((a0B x.1).bind fun y1=> cond (y1.1 != 0) (some ((0,0,0,0,0,[],a00 3 0,[],[],(0,[],()),[],()),y1.1,y1.2)) ((b7H y1.2).bind fun y2=> (a0B y2.2.2.2).bind fun y3=> cond (y3.1 != 0) (some ((0,0,0,0,0,[],a00 3 0,[],[],(0,[],()),[],()),y3.1,y3.2)) ((a9S (y2.1.1,y2.1,x.2)).bind fun y4=> cond (!y4) (some ((0,0,0,0,0,[],a00 3 0,[],[],(0,[],()),[],()),2,y3.2)) ((a6h (y2.1,x.2)).bind fun y5=> (a0h c6k (x.2,y2.2.1,y2.2.2.1,y5,0,y3.2,(0,0,0,0,0,[],a00 3 0,[],[],(0,[],()),[],()),y2.1,())).bind fun w8=> (a0B w8.2.2.2.1).bind fun y9=> cond (y9.1 != 0) (some ((0,0,0,0,0,[],a00 3 0,[],[],(0,[],()),[],()),y9.1,y9.2)) ((a6f w8.2.2.2.2.2.1.1).bind fun y10=> cond y10 ((c0q (y9.2,w8.1,(w8.2.2.2.2.2.1.2.2.2.2.2.2.2.2.1.length:Int))).bind fun y11=> cond (y11.2.2.1 != 0) (some ((0,0,0,0,0,[],a00 3 0,[],[],(0,[],()),[],()),y11.2.2.1,y11.2.2.2)) (cond (!w8.2.2.1) (some ((0,0,0,0,0,[],a00 3 0,[],[],(0,[],()),[],()),2,y11.2.2.2)) ((a1L w8.2.2.2.2.2.1.2.2.2.2.2.2.2.2.1).bind fun y12=> cond (y12 != w8.2.1) (some ((0,0,0,0,0,[],a00 3 0,[],[],(0,[],()),[],()),2,y11.2.2.2)) ((a9T ((w8.2.2.2.2.2.1.1,w8.2.2.2.2.2.1.2.1,w8.2.2.2.2.2.1.2.2.1,w8.2.2.2.2.2.1.2.2.2.1,w8.2.2.2.2.2.1.2.2.2.2.1,w8.2.2.2.2.2.1.2.2.2.2.2.1,w8.2.2.2.2.2.1.2.2.2.2.2.2.1,w8.2.2.2.2.2.1.2.2.2.2.2.2.2.1,w8.2.2.2.2.2.1.2.2.2.2.2.2.2.2.1,y11.1,y11.2.1,w8.2.2.2.2.2.1.2.2.2.2.2.2.2.2.2.2.2),w8.1)).bind fun y13=> cond (!y13) (some ((0,0,0,0,0,[],a00 3 0,[],[],(0,[],()),[],()),2,y11.2.2.2)) (some ((w8.2.2.2.2.2.1.1,w8.2.2.2.2.2.1.2.1,w8.2.2.2.2.2.1.2.2.1,w8.2.2.2.2.2.1.2.2.2.1,w8.2.2.2.2.2.1.2.2.2.2.1,w8.2.2.2.2.2.1.2.2.2.2.2.1,w8.2.2.2.2.2.1.2.2.2.2.2.2.1,w8.2.2.2.2.2.1.2.2.2.2.2.2.2.1,w8.2.2.2.2.2.1.2.2.2.2.2.2.2.2.1,y11.1,y11.2.1,w8.2.2.2.2.2.1.2.2.2.2.2.2.2.2.2.2.2),0,y11.2.2.2)))))) (cond (!w8.2.2.1) (some ((0,0,0,0,0,[],a00 3 0,[],[],(0,[],()),[],()),2,y9.2)) ((a1L w8.2.2.2.2.2.1.2.2.2.2.2.2.2.2.1).bind fun y14=> cond (y14 != w8.2.1) (some ((0,0,0,0,0,[],a00 3 0,[],[],(0,[],()),[],()),2,y9.2)) ((a9T (w8.2.2.2.2.2.1,w8.1)).bind fun y15=> cond (!y15) (some ((0,0,0,0,0,[],a00 3 0,[],[],(0,[],()),[],()),2,y9.2)) (some (w8.2.2.2.2.2.1,0,y9.2)))))))))))
def c4q:FSem:=⟨[.r false (.b Q13),.v QI],[.v Q33,.v QI],c4p⟩
def H67:Hints:=⟨[(1018,[.sv 1 QI,.sv 8 QI,.sv 9 .bool,.sv 47 QI,.sv 48 QI,.box pinned Q13,.box 4 Q33,.box 7 (.pair QI (.pair QI (.pair QI (.pair QI (.pair QI (.pair QL (.pair (.arr 3 QI) (.pair (.list false Q3) (.pair (.list true QI) Q15))))))))),.ptr 0 pinned [],.ptr 4 4 [],.ptr 7 7 []],[(.exit 0,[.sv 1 QI,.sv 8 QI,.sv 9 .bool,.box pinned Q13,.box 4 Q33,.box 7 (.pair QI (.pair QI (.pair QI (.pair QI (.pair QI (.pair QL (.pair (.arr 3 QI) (.pair (.list false Q3) (.pair (.list true QI) Q15))))))))),.ptr 0 pinned [],.ptr 4 4 [],.ptr 7 7 []])])],[],[(14,[.r [7,50],.r [7,51],.p,.v,.w [54,1054,pinned],.q,.x,.x,.x])]⟩
def b5J(s:Z59):Option (Z59 ⊕ (Z50 ⊕ Z34)):= cond (decide (s.2.1<s.1)) ((a5y (s.2.2.1,s.2.1)).bind fun y1=> cond (y1.1==1) (some (.inr (Sum.inr (((y1.2.1,y1.2.2.1,2,y1.2.2.2.2),()))))) (some (.inl (s.1,wrap .i64 (s.2.1+1),y1.2,())))) (some (.inr (Sum.inl (s.1,s.2.2.1,()))))
def b0Z(x:Z15):Option Z15:= cond (x.2.2.1 != 0) (some x) ((a0h b5J (wrap .i64 ((wrap .i64 (a19 (wrap .i64 (x.2.1+7)) 8))*8),x.2.1,x,())).bind fun w2=> match w2 with |.inl a3=>some (a3.2.1.1,a3.1,a3.2.1.2.2) |.inr b4=>some b4.1)
def b1a:FSem:=⟨[.r false (.b Q13)],[],b0Z⟩
def H69:Hints:=⟨[(58,[.sv 2 QI,.sv 3 QI,.box pinned Q13,.ptr 0 pinned []],[(.exit 0,[.sv 2 QI,.box pinned Q13,.ptr 0 pinned []]),(.ret,[.box pinned Q13])])],[],[]⟩
def c2k(s:(Int×Int×Int×a6E×c3q)):Option ((Int×Int×Int×a6E×c3q) ⊕ ((Int×a6E×c3q) ⊕ (Int×Int×b8F))):= cond (decide (s.2.2.1<s.2.1)) ((c4p (s.2.2.2.2.2.1,s.2.2.2.2.1.2.1)).bind fun y7=> cond (y7.2.1 != 0) (some (.inr (Sum.inr ((0,2,(0,0,(0,0,0,()),[],[],()),()))))) (cond (lim ((a02 s.2.2.2.2.1.2.2.2.2.1)+1)) (some (.inl (s.1,s.2.1,wrap .i64 (s.2.2.1+1),s.2.2.2.1,(s.2.2.2.2.1.1,s.2.2.2.2.1.2.1,s.2.2.2.2.1.2.2.1,s.2.2.2.2.1.2.2.2.1,a04 s.2.2.2.2.1.2.2.2.2.1 ([y7.1]:List Z93),s.2.2.2.2.1.2.2.2.2.2),y7.2.2,()))) none)) (some (.inr (Sum.inl (s.1,s.2.2.2.1,s.2.2.2.2.1,s.2.2.2.2.2.1,()))))
def b4b(x:(List Int)):Option (a6E×Int×Int):= (b0y x).bind fun y1=> cond (y1.2.2.2 != 0) (some ((0,0,(0,0,0,()),[],[],()),0,y1.2.2.2)) (cond (decide ((x.length:Int)<(wrap .i64 ((wrap .i64 (y1.2.1+y1.2.2.1))+2)))) (some ((0,0,(0,0,0,()),[],[],()),0,3)) (cond ((decide (0≤(wrap .i64 (y1.2.1+y1.2.2.1))))&&(decide ((wrap .i64 (y1.2.1+y1.2.2.1))≤(x.length:Int)))) ((b1l (a07 (a01 (wrap .i64 (y1.2.1+y1.2.2.1))) x)).bind fun y2=> (a0m x (wrap .i64 (y1.2.1+y1.2.2.1))).bind fun x3=> (a0m x (wrap .i64 ((wrap .i64 (y1.2.1+y1.2.2.1))+1))).bind fun x4=> cond (y2 != (bits .u16 .or (a0z .u16 (wrap .u16 x3) 8) (wrap .u16 x4))) (some ((0,0,(0,0,0,()),[],[],()),0,5)) (cond ((decide (0≤(wrap .i64 (y1.2.1+y1.2.2.1))))&&(decide ((wrap .i64 (y1.2.1+y1.2.2.1))≤(x.length:Int)))) (cond ((decide (0≤y1.2.1))&&(decide (y1.2.1≤((a01 (wrap .i64 (y1.2.1+y1.2.2.1)):Nat):Int)))) ((c2e (a29 (a01 y1.2.1) (a07 (a01 (wrap .i64 (y1.2.1+y1.2.2.1))) x))).bind fun y5=> (a0h c2k (wrap .i64 (y1.2.1+y1.2.2.1),y1.1.2.2.1.2.1,0,(0,0,(0,0,0,()),[],[],()),y1.1,y5,())).bind fun w8=> match w8 with |.inl a9=>((a8d a9.2.2.2.1).bind fun y11=> cond (decide (y11.1≥8)) (some ((0,0,(0,0,0,()),[],[],()),0,2)) ((b0Z y11.2).bind fun y12=> (a0B y12).bind fun y13=> cond (y13.1 != 0) (some ((0,0,(0,0,0,()),[],[],()),0,2)) ((b5D a9.2.2.1).bind fun y14=> cond (!y14) (some ((0,0,(0,0,0,()),[],[],()),0,2)) (some (a9.2.2.1,wrap .i64 (a9.1+2),0))))) |.inr b10=>some (b10.2.2.1,b10.1,b10.2.1)) none) none)) none))
def b4c:FSem:=⟨[.v (.list false (.int .u8))],[.v Q51,.v QI,.v QI],b4b⟩
def H24:Hints:=⟨[(2042,[.sv 9 QI,.sv 59 QI,.sv 60 QI,.box 2 Q51,.box 5 Q50,.box 1056 Q13,.ptr 2 2 [],.ptr 5 5 [],.ptr 10 1056 []],[(.exit 0,[.sv 9 QI,.box 2 Q51,.box 5 Q50,.box 1056 Q13,.ptr 2 2 [],.ptr 5 5 [],.ptr 10 1056 []]),(.ret,[.sv 3 QI,.sv 4 QI,.box 2 Q51,.ptr 2 2 []])])],[],[(7,[.v,.v,.v,.v,.v,.v,.v,.v,.v,.v,.v,.v,.v,.v,.v,.v,.v,.x])]⟩
def b8P(x:(List Int)):Option (Z7×Int×Int×Int):= (b0y x).bind fun y1=> cond (y1.2.2.2 != 0) (some ((0,0,0,()),0,0,y1.2.2.2)) (some (y1.1.2.2.1,y1.1.1,y1.1.2.1,0))
def b8Q:FSem:=⟨[.v (.list false (.int .u8))],[.v Q10,.v QI,.v QI,.v QI],b8P⟩
def H26:Hints:=⟨[],[],[(4,[.q,.q,.r [6,23],.r [6,24],.r [6,25],.r [6,26],.w [0,2],.v,.x,.x])]⟩
def b7Z(s:(Z4×Z4×Int×Unit)):Option ((Z4×Z4×Int×Unit) ⊕ Z0):= cond (decide (s.2.2.1<(s.1.length:Int))) ((a0m s.1 s.2.2.1).bind fun x1=> (a0m s.2.1 s.2.2.1).bind fun x2=> cond (!(eqT Q3 x1 x2)) (some (.inr (Sum.inr ((false,()))))) (some (.inl (s.1,s.2.1,wrap .i64 (s.2.2.1+1),())))) (some (.inr (Sum.inl ())))
def b4d(x:(Z4×Z4)):Option Bool:= cond ((x.1.length:Int) != (x.2.length:Int)) (some false) ((a0h b7Z (x.1,x.2,0,())).bind fun w3=> match w3 with |.inl a4=>some true |.inr b5=>some b5.1)
def b4e:FSem:=⟨[.v (.list false Q3),.v (.list false Q3)],[.v .bool],b4d⟩
def d8H:Hints:=⟨[(58,[.sv 0 (.list false Q3),.sv 1 (.list false Q3),.sv 5 QI],[(.exit 0,[]),(.ret,[.sv 4 .bool])])],[],[(6,[.v,.v,.v,.v,.v,.v,.v,.v,.x])]⟩
def b6l(x:(Z5×Z5)):Option Bool:= cond (x.1.1==x.2.1) ((a3s (x.1.2.1,x.2.2.1)).bind fun y1=> some y1) (some false)
def b6m:FSem:=⟨[.v Q9,.v Q9],[.v .bool],b6l⟩
def d8I:Hints:=⟨[],[],[]⟩
def b7K(x:(Z93×Z93)):Option Bool:= cond (x.1.1==x.2.1) (cond (x.1.2.1==x.2.2.1) (cond (x.1.2.2.1==x.2.2.2.1) (cond (x.1.2.2.2.1==x.2.2.2.2.1) (cond (x.1.2.2.2.2.1==x.2.2.2.2.2.1) ((a3s (x.1.2.2.2.2.2.1,x.2.2.2.2.2.2.1)).bind fun y1=> cond y1 (cond (eqT (.arr 3 (.int .i64)) x.1.2.2.2.2.2.2.1 x.2.2.2.2.2.2.2.1) ((b4d (x.1.2.2.2.2.2.2.2.1,x.2.2.2.2.2.2.2.2.1)).bind fun y2=> cond y2 ((a3s (x.1.2.2.2.2.2.2.2.2.1,x.2.2.2.2.2.2.2.2.2.1)).bind fun y3=> cond y3 ((b6l (x.1.2.2.2.2.2.2.2.2.2.1,x.2.2.2.2.2.2.2.2.2.2.1)).bind fun y4=> cond y4 ((a3s (x.1.2.2.2.2.2.2.2.2.2.2.1,x.2.2.2.2.2.2.2.2.2.2.2.1)).bind fun y5=> some y5) (some false)) (some false)) (some false)) (some false)) (some false)) (some false)) (some false)) (some false)) (some false)) (some false)
def b7L:FSem:=⟨[.v Q33,.v Q33],[.v .bool],b7K⟩
def H42:Hints:=⟨[],[],[]⟩
def b8R(s:(Z14×Z14×Int×Unit)):Option ((Z14×Z14×Int×Unit) ⊕ Z0):= cond (decide (s.2.2.1<(s.1.length:Int))) ((a0m s.1 s.2.2.1).bind fun x1=> (a0m s.2.1 s.2.2.1).bind fun x2=> cond (!(eqT Q10 x1 x2)) (some (.inr (Sum.inr ((false,()))))) (some (.inl (s.1,s.2.1,wrap .i64 (s.2.2.1+1),())))) (some (.inr (Sum.inl ())))
def b4O(x:(Z14×Z14)):Option Bool:= cond ((x.1.length:Int) != (x.2.length:Int)) (some false) ((a0h b8R (x.1,x.2,0,())).bind fun w3=> match w3 with |.inl a4=>some true |.inr b5=>some b5.1)
def b4P:FSem:=⟨[.v (.list false Q10),.v (.list false Q10)],[.v .bool],b4O⟩
def H76:Hints:=⟨[(58,[.sv 0 (.list false Q10),.sv 1 (.list false Q10),.sv 5 QI],[(.exit 0,[]),(.ret,[.sv 4 .bool])])],[],[(6,[.v,.v,.v,.v,.v,.v,.v,.v,.x])]⟩
def b8S(s:c9u):Option (c9u ⊕ Z0):= cond (decide (s.1<(s.2.1.2.2.2.2.1.length:Int))) ((a0m s.2.1.2.2.2.2.1 s.1).bind fun x3=> (a0m s.2.2.1.2.2.2.2.1 s.1).bind fun x4=> (b7K (x3,x4)).bind fun y5=> cond (!y5) (some (.inr (Sum.inr ((false,()))))) (some (.inl (wrap .i64 (s.1+1),s.2.1,s.2.2.1,())))) (some (.inr (Sum.inl ())))
def b4Q(x:(a6E×a6E)):Option Bool:= (show Option (Bool×d2n)from cond (x.1.1 != x.2.1) (some (true,x.1,x.2,())) (cond (x.1.2.1 != x.2.2.1) (some (true,x.1,x.2,())) (cond (!(eqT Q10 x.1.2.2.1 x.2.2.2.1)) (some (true,x.1,x.2,())) ((b4O (x.1.2.2.2.1,x.2.2.2.2.1)).bind fun y1=> cond (!y1) (some (true,x.1,x.2,())) (some ((x.1.2.2.2.2.1.length:Int) != (x.2.2.2.2.2.1.length:Int),x.1,x.2,())))))).bind fun z2=> cond z2.1 (some false) ((a0h b8S (0,z2.2.1,z2.2.2.1,())).bind fun w6=> match w6 with |.inl a7=>some true |.inr b8=>some b8.1)
def b4R:FSem:=⟨[.v Q51,.v Q51],[.v .bool],b4Q⟩
def H28:Hints:=⟨[(58,[.sv 5 QI,.vp 2 Q51,.vp 3 Q51],[(.exit 0,[]),(.ret,[.sv 4 .bool])])],[(6,[(.normal,[.sv 41 .bool,.vp 2 Q51,.vp 3 Q51])])],[(6,[.v,.v,.v,.v,.v,.v,.v,.v,.v,.v,.x,.x])]⟩
def a6K(s:Z53):Option (Z53 ⊕ Z42):= cond (decide (s.2.2.2.1<s.2.2.1)) ((a0m s.2.1 s.2.2.2.1).bind fun x2=> (show Option (Int×(Int×((List Int)×(Int×Int×Z8))))from(a5k x2).bind fun y3=> cond (!y3) (some (s.1,x2,s.2.1,s.2.2.1,s.2.2.2.1,true,s.2.2.2.2.1,())) (cond (decide (s.1<0)) none (cond ((a0z .i64 1 s.1)==0) none (some (s.1,x2,s.2.1,s.2.2.1,s.2.2.2.1,(a08 x2 (a0z .i64 1 s.1)) != 0,s.2.2.2.2.1,()))))).bind fun z4=> cond z4.2.2.2.2.2.1 (some (.inr (Sum.inr ((6,[],()))))) (cond (decide (z4.1<0)) none (cond (lim ((a02 z4.2.2.2.2.2.2.1)+1)) (some (.inl (z4.1,z4.2.2.1,z4.2.2.2.1,wrap .i64 (z4.2.2.2.2.1+1),a04 z4.2.2.2.2.2.2.1 [a0A .i64 z4.2.1 z4.1],()))) none))) (some (.inr (Sum.inl (s.2.2.2.2.1,()))))
def a7i(x:((List Int)×Int)):Option ((List Int)×Int):= (show Option Z18 from cond (decide (x.2<0)) (some (x.1,x.2,true,())) (some (x.1,x.2,decide (x.2 > 30),()))).bind fun z1=> cond z1.2.2.1 (some ([],1)) ((a0h a6K (z1.2.1,z1.1,(z1.1.length:Int),0,[],())).bind fun w5=> match w5 with |.inl a6=>some (a6.1,0) |.inr b7=>some (b7.2.1,b7.1))
def b2Q:FSem:=⟨[.v QL,.v QI],[.o QI,.v QI],a7i⟩
def H91:Hints:=⟨[(122,[.sv 1 QI,.sv 15 QL,.sv 16 QI,.sv 17 QI,.own 6 6 QI],[(.exit 0,[.own 6 6 QI]),(.ret,[.sv 5 QI,.own 4 4 QI])])],[(6,[(.normal,[.sv 0 QL,.sv 1 QI,.sv 14 .bool])]),(15666,[(.normal,[.sv 1 QI,.sv 8 QI,.sv 15 QL,.sv 16 QI,.sv 17 QI,.sv 30 .bool,.own 6 6 QI])])],[]⟩
def a1P(x:Int):Option Int:= cond (x==0) (some 64) ((a0m b1F (a0A .u64 (wrap .u64 ((bits .u64 .and x (wrap .u64 (0-x)))*285870213051353865)) 58)).bind fun x1=> some (wrap .i64 x1))
def a1g:FSem:=⟨[.v (.int .u64)],[.v QI],a1P⟩
def c3w:Hints:=⟨[],[],[]⟩
def b0A:Cx:=b8G [] [] [0,2] []
theorem c0s{ρ:Type}{cx:Cx}{ops:List Oper}:∀(l1 l2:List (Md×Oper)) (Γ:AE) (K:AE→Rs ρ),a5K cx ops (l1++l2) Γ K=a5K cx ops l1 Γ fun Γ'=>a5K cx ops l2 Γ' K
 | [],_,_,_=>rfl
 |(md,o)::l1,l2,Γ,K=>by
  simp only[a17,a5K];congr 1;funext Γ';exact c0s l1 l2 Γ' K
theorem b8T{ρ:Type}{cx:Cx}{H:Hints}{a b:Code}{p:Nat}(h:find H.cuts p=none)(Γ:AE)(K:Ex→AE→Rs ρ):a1x cx H (.seq a b) p Γ K=a1x cx H a (2*p) Γ fun e Γ'=>match e with
   |.normal=>a1x cx H b (2*p+1) Γ' K
   |e=>K e Γ':=by
 simp only[a1x,h];rfl
theorem c6l{ρ:Type}{cx:Cx}{H:Hints}{id:Nat}{ops:Array Oper}{p:Nat}(Γ:AE)(K:Ex→AE→Rs ρ):a1x cx H (.region id ops false) p Γ K=a5K cx ops.toList (ops.toList.map fun o=>(.x,o)) Γ fun Γ'=>K .normal Γ':=by
 simp only[a1x,cF]
def a9U:Code:=match Tryz.f174.body with
 |some c=>c
 |none=>.skip
def c3x:Code→Code
 |.seq a _=>a
 |c=>c
def c9w:Code→Code
 |.seq _ b=>b
 |c=>c
def d1m:Code→Array Oper
 |.region _ ops _=>ops
 |_=>#[]
def c8o:Code:=c9w (c9w a9U)
def b4f:List Oper:=(d1m (c3x c8o)).toList
def Γ174(x:Int):AE:=(((ini [.v (.int .u64)] x).set 2 (.val QI (0:Int))).set 3 (.val (.int .u64) x)).set 4 (.val .bool (x==(0:Int)))
def Γ174r(x:Int):AE:=(Γ174 x).set 2 (.val QI (64:Int))
def c6m(e:Ex)(Γ:AE):Option Int:=match e,Γ.pd with
  |.exit _,_=>none
  |_,some _=>none
  |_,none=>(Γ.upto Tryz.f174.ntmps).outs b0A [] Tryz.f174.ntmps [.v QI] (Tryz.f174.results.toList.map .inl) fun y _=>some y
def Γ174b(x a b c i:Int):AE:=((((((Γ174 x).set 5 (.val (.int .u64) x)).set 6 (.val (.int .u64) x)).set 7 (.val (.int .u64) a)).set 8 (.val (.int .u64) b)).set 9 (.val (.int .u64) c)).set 10 (.val (.int .u64) i)
set_option maxRecDepth 100000
theorem d2o:a9U=.seq (c3x a9U) (.seq (c3x (c9w a9U)) (.seq (.region 3 (d1m (c3x c8o)) false) .ret)):=by kernel_rfl
theorem d4c(x:Int):b8e b0A c3w Tryz.f174 a1g.ps a1g.rs x=a1x b0A c3w a9U 1 (ini [.v (.int .u64)] x) c6m:=rfl
theorem d4d(x:Int)(K:Ex→AE→Option Int):a1x b0A c3w (c3x a9U) 2 (ini [.v (.int .u64)] x) K=K .normal ((ini [.v (.int .u64)] x).set 2 (.val (.int .i64) (0:Int))):=by kernel_rfl
theorem d4e(x:Int)(K:Ex→AE→Option Int):a1x b0A c3w (c3x (c9w a9U)) 6 ((ini [.v (.int .u64)] x).set 2 (.val (.int .i64) (0:Int))) K=bif x==(0:Int)then K .ret (Γ174r x)else K .normal (Γ174 x):=by kernel_rfl
theorem d4f(x:Int):c6m .ret (Γ174r x)=some (64:Int):=by kernel_rfl
theorem d4g(x:Int)(K:AE→Option Int):a5K b0A b4f ((b4f.map fun o=>(Md.x,o)).take 6) (Γ174 x) K =
  K (Γ174b x (wrap .u64 (0-x)) (bits .u64 .and x (wrap .u64 (0-x))) (wrap .u64 ((bits .u64 .and x (wrap .u64 (0-x)))*(285870213051353865:Int))) (a0A .u64 (wrap .u64 ((bits .u64 .and x (wrap .u64 (0-x)))*(285870213051353865:Int))) (58:Int))):=by kernel_rfl
theorem d4h(x a b c i:Int):a5K b0A b4f ((b4f.map fun o=>(Md.x,o)).drop 6) (Γ174b x a b c i) (fun Γ=>c6m .ret Γ)=(a0m b1F i).bind fun x1=>some (wrap .i64 x1):=by kernel_rfl
theorem d4i(x:Int):a5K b0A b4f (b4f.map fun o=>(Md.x,o)) (Γ174 x) (fun Γ=>c6m .ret Γ)=(a0m b1F (a0A .u64 (wrap .u64 ((bits .u64 .and x (wrap .u64 (0-x)))*(285870213051353865:Int))) (58:Int))).bind fun x1=>some (wrap .i64 x1):=by
 rw[←List.take_append_drop 6 (b4f.map fun o=>(Md.x,o)),c0s,d4g,d4h]
theorem d4P(x:Int):a1x b0A c3w a9U 1 (ini [.v (.int .u64)] x) c6m=a1P x:=by
 rw[d2o,b8T rfl,d4d];simp only[];rw[b8T rfl,d4e];simp only[];rw[b8T rfl,c6l];simp only[a1x];rw[d4f];exact congrArg (fun z=>bif x==(0:Int)then some (64:Int)else z) (d4i x)
theorem d5x(x):b8e b0A c3w Tryz.f174 a1g.ps a1g.rs x=a1g.F x:=(d4c x).trans (d4P x)
def a5A(s:Z27):Option Z58:= cond (decide (s.2.2.2.1<s.2.2.1)) ((a0m s.2.1 s.2.2.2.1).bind fun x1=> some (.inl (bits .i64 .or s.1 x1,s.2.1,s.2.2.1,wrap .i64 (s.2.2.2.1+1),()))) (some (.inr (s.1,())))
def a3Z(x:(List Int)):Option Int:= (a0h a5A (0,x,(x.length:Int),0,())).bind fun w2=> cond (w2.1==0) (some 0) ((a1P (wrap .u64 w2.1)).bind fun y3=> some (a3u y3 30))
def b0B:FSem:=⟨[.v QL],[.v QI],a3Z⟩
def H92:Hints:=⟨[(58,[.sv 3 QI,.sv 6 QL,.sv 7 QI,.sv 8 QI],[(.exit 0,[.sv 3 QI])])],[],[]⟩
def a5B(s:Z30):Option (Z30 ⊕ Z16):= cond (decide ((wrap .i64 (s.1+1))<(s.2.2.2.1.length:Int))) (cond ((decide (0≤(wrap .i64 (s.1+1))))&&(decide ((wrap .i64 (s.1+1))<(s.2.2.2.1.length:Int)))) (cond ((decide (0≤s.1))&&(decide (s.1<(s.2.2.2.1.length:Int)))) (cond ((decide (0≤s.1))&&(decide (s.1<(s.2.2.2.1.length:Int)))) (some (.inl (wrap .i64 (s.1+1),s.2.1,s.2.2.1,a05 s.2.2.2.1 (a01 s.1) (wrap .i64 ((a03 s.2.2.2.1 (a01 (wrap .i64 (s.1+1))) 0)-(a03 s.2.2.2.1 (a01 s.1) 0))),()))) none) none) none) (some (.inr (s.2.1,s.2.2.1,s.2.2.2.1,())))
def a7L(s:Z16):Option (Z16 ⊕ ((List Int)×Unit)):= cond (decide (s.2.1<s.1)) ((a0h a5B (0,s.1,s.2.1,s.2.2.1,())).bind fun w3=> cond ((decide (0≤(wrap .i64 ((w3.2.2.1.length:Int)-1))))&&(decide ((wrap .i64 ((w3.2.2.1.length:Int)-1))≤(w3.2.2.1.length:Int)))) (cond (decide ((a01 (wrap .i64 ((w3.2.2.1.length:Int)-1)))≤(a02 w3.2.2.1))) (some (.inl (w3.1,wrap .i64 (w3.2.1+1),a07 (a01 (wrap .i64 ((w3.2.2.1.length:Int)-1))) w3.2.2.1,()))) none) none) (some (.inr (s.2.2.1,())))
def a4Q(x:((List Int)×Int)):Option ((List Int)×Int):= (show Option Z18 from cond (decide (x.2<0)) (some (x.1,x.2,true,())) (cond (decide (x.2 > 4)) (some (x.1,x.2,true,())) (some (x.1,x.2,decide ((x.1.length:Int)<x.2),())))).bind fun z1=> cond z1.2.2.1 (some ([],1)) ((a2E z1.1).bind fun y2=> cond (!y2) (some ([],6)) (cond (lim (a02 z1.1)) ((a0h a7L (z1.2.1,0,z1.1,())).bind fun w4=> (a2E w4.1).bind fun y5=> cond (!y5) (some ([],6)) (some (w4.1,0))) none))
def b4g:FSem:=⟨[.v QL,.v QI],[.o QI,.v QI],a4Q⟩
def d8J:Hints:=⟨[(250,[.sv 25 QI,.sv 26 QI,.own 6 6 QI],[(.exit 0,[.own 6 6 QI])]),(64098,[.sv 7 QI,.sv 25 QI,.sv 26 QI,.own 6 6 QI],[(.exit 2,[.sv 25 QI,.sv 26 QI,.own 6 6 QI])])],[(6,[(.normal,[.sv 0 QL,.sv 1 QI,.sv 19 .bool])])],[(11,[.q,.v,.q,.v,.v,.q,.q,.q,.v,.q,.q,.v,.x,.x])]⟩
def a4R(s:((List Int)×Z37)):Option (((List Int)×Z37) ⊕ Z42):= cond (decide (s.2.2.2.1<(s.1.length:Int))) ((a0m s.1 s.2.2.2.1).bind fun x4=> cond ((decide (0≤s.2.2.2.1))&&(decide (s.2.2.2.1≤(s.1.length:Int)))) ((a4M (a07 (a01 s.2.2.2.1) s.1,s.2.1,s.2.2.1)).bind fun y5=> (a5j (wrap .i64 (x4-y5))).bind fun y6=> cond (!y6) (some (.inr (Sum.inr ((6,[],()))))) (cond (lim ((a02 s.2.2.2.2.1)+1)) (some (.inl (s.1,s.2.1,s.2.2.1,wrap .i64 (s.2.2.2.1+1),a04 s.2.2.2.2.1 [wrap .i64 (x4-y5)],()))) none)) none) (some (.inr (Sum.inl (s.2.2.2.2.1,()))))
def a7j(x:Z10):Option ((List Int)×Int):= (show Option Z43 from(a4L (x.2.1,x.2.2)).bind fun y1=> cond (!y1) (some (x.1,x.2.1,x.2.2,true,())) (some (x.1,x.2.1,x.2.2,decide ((x.1.length:Int)<(x.2.1.length:Int)),()))).bind fun z2=> cond z2.2.2.2.1 (some ([],1)) ((a2P z2.1).bind fun y3=> cond (!y3) (some ([],6)) (cond ((decide (0≤(wrap .i64 ((z2.1.length:Int)-(z2.2.1.length:Int)))))&&(lim (a01 (wrap .i64 ((z2.1.length:Int)-(z2.2.1.length:Int)))))) ((a0h a4R (z2.1,z2.2.1,z2.2.2.1,(z2.2.1.length:Int),[],())).bind fun w7=> match w7 with |.inl a8=>some (a8.1,0) |.inr b9=>some (b9.2.1,b9.1)) none))
def b7M:FSem:=⟨[.v QL,.v QL,.v QI],[.o QI,.v QI],a7j⟩
def d8K:Hints:=⟨[(250,[.sv 0 QL,.sv 1 QL,.sv 2 QI,.sv 9 QI,.own 8 8 QI],[(.exit 0,[.own 8 8 QI]),(.ret,[.sv 7 QI,.own 6 6 QI])])],[(6,[(.normal,[.sv 0 QL,.sv 1 QL,.sv 2 QI,.sv 21 .bool])])],[(9,[.v,.v,.v,.v,.v,.v,.v,.v,.v,.v,.x,.x])]⟩
def a6k(s:((List Int)×Z74)):Option (((List Int)×Z74) ⊕ Z42):= cond (decide (s.2.2.2.2.1<s.2.2.2.1)) ((a0m s.2.2.1 s.2.2.2.2.1).bind fun x3=> (a4C (s.1,s.2.2.2.2.1,s.2.1,s.2.2.2.2.2.2.1)).bind fun y4=> (a7v (wrap .i64 (x3-y4))).bind fun y5=> cond (!y5) (some (.inr (Sum.inr ((6,[],()))))) (cond (lim ((a02 s.2.2.2.2.2.1)+1)) (some (.inl (s.1,s.2.1,s.2.2.1,s.2.2.2.1,wrap .i64 (s.2.2.2.2.1+1),a04 s.2.2.2.2.2.1 [wrap .i64 (x3-y4)],s.2.2.2.2.2.2.1,()))) none)) (some (.inr (Sum.inl (s.2.2.2.2.2.1,()))))
def a7z(x:((List Int)×(Int×(List Int)))):Option ((List Int)×Int):= (a8z (x.2.1,x.2.2)).bind fun y1=> cond (!y1) (some ([],1)) ((a4B x.1).bind fun y2=> cond (!y2) (some ([],6)) (cond ((decide (0≤(x.1.length:Int)))&&(lim (a01 (x.1.length:Int)))) ((a0h a6k (x.1,x.2.1,x.1,(x.1.length:Int),0,[],x.2.2,())).bind fun w6=> match w6 with |.inl a7=>some (a7.1,0) |.inr b8=>some (b8.2.1,b8.1)) none))
def b1P:FSem:=⟨[.v QL,.v QI,.v (.arr 3 QI)],[.o QI,.v QI],a7z⟩
def d8L:Hints:=⟨[(250,[.sv 0 QL,.sv 1 QI,.sv 22 QL,.sv 23 QI,.sv 24 QI,.own 8 8 QI,.vp 5 (.arr 3 QI)],[(.exit 0,[.own 8 8 QI]),(.ret,[.sv 7 QI,.own 6 6 QI])])],[],[]⟩
def a5C(s:(Z4×Int×Int×Int×Z75)):Option ((Z4×Int×Int×Int×Z75) ⊕ ((Z4×Z16) ⊕ Z5)):= cond (decide (s.2.2.2.2.1<s.2.2.2.1)) (cond ((decide (0≤s.2.2.2.2.1))&&(decide (s.2.2.2.2.1<(s.2.2.2.2.2.1.length:Int)))) ((a2l s.2.2.2.2.2.2.1).bind fun y6=> (a6j (wrap .i64 ((a03 s.2.2.2.2.2.1 (a01 s.2.2.2.2.1) 0)-y6.1))).bind fun y7=> cond (!y7) (some (.inr (Sum.inr ((6,[],()))))) ((a3C (y6.2,a03 s.2.2.2.2.2.1 (a01 s.2.2.2.2.1) 0)).bind fun y8=> cond ((decide (0≤s.2.2.2.2.1))&&(decide (s.2.2.2.2.1<(s.2.2.2.2.2.1.length:Int)))) (some (.inl (s.1,s.2.1,s.2.2.1,s.2.2.2.1,wrap .i64 (s.2.2.2.2.1+1),a05 s.2.2.2.2.2.1 (a01 s.2.2.2.2.1) (wrap .i64 ((a03 s.2.2.2.2.2.1 (a01 s.2.2.2.2.1) 0)-y6.1)),y8,()))) none)) none) (some (.inr (Sum.inl (s.1,s.2.1,s.2.2.1,s.2.2.2.2.2.1,()))))
def a5D(s:(Z4×Z16)):Option ((Z4×Z16) ⊕ Z42):= cond (decide (s.2.2.1<s.2.1)) ((a0m s.1 s.2.2.1).bind fun x4=> (a8Y x4).bind fun y5=> cond (y5.2 != 0) (some (.inr (Sum.inr ((y5.2,[],()))))) ((a0h a5C (s.1,s.2.1,s.2.2.1,(s.2.2.2.1.length:Int),0,s.2.2.2.1,y5.1,())).bind fun w9=> match w9 with |.inl a10=>some (.inl (a10.1,a10.2.1,wrap .i64 (a10.2.2.1+1),a10.2.2.2.1,())) |.inr b11=>some (.inr (Sum.inr ((b11.1,b11.2.1,())))))) (some (.inr (Sum.inl (s.2.2.2.1,()))))
def b0C(x:((List Int)×Z4)):Option ((List Int)×Int):= (a7t x.2).bind fun y1=> cond (!y1) (some ([],1)) ((a5u x.1).bind fun y2=> cond (!y2) (some ([],6)) ((a1d x.1).bind fun y3=> (a0h a5D (x.2,(x.2.length:Int),0,y3,())).bind fun w12=> match w12 with |.inl a13=>some (a13.1,0) |.inr b14=>some (b14.2.1,b14.1)))
def b8U:FSem:=⟨[.v QL,.v (.list false Q3)],[.o QI,.v QI],b0C⟩
def d8M:Hints:=⟨[(250,[.sv 22 (.list false Q3),.sv 23 QI,.sv 24 QI,.own 6 6 QI],[(.exit 0,[.own 6 6 QI]),(.ret,[.sv 5 QI,.own 4 4 QI])]),(256414,[.sv 22 (.list false Q3),.sv 23 QI,.sv 24 QI,.sv 37 QI,.sv 38 QI,.own 6 6 QI,.box 1030 Q14,.ptr 9 1030 [],.ref 36 6 []],[(.exit 2,[.sv 22 (.list false Q3),.sv 23 QI,.sv 24 QI,.own 6 6 QI]),(.ret,[.sv 5 QI,.own 4 4 QI])])],[],[]⟩
def b1Q(x:(Z93×(List Int))):Option (Int×Z93):= (show Option ((List Int)×((List Int)×(Int×Z96)))from cond (x.1.1==2) ((a4Q (x.2,x.1.2.2.1)).bind fun y1=> some (x.2,y1.1,y1.2,x.1,())) (cond (x.1.1==3) ((a7j (x.2,x.1.2.2.2.2.2.1,x.1.2.2.2.1)).bind fun y2=> some (x.2,y2.1,y2.2,x.1,())) (cond (x.1.1==4) ((a7z (x.2,x.1.2.2.2.2.1,x.1.2.2.2.2.2.2.1)).bind fun y3=> cond (y3.2==0) ((a7j (y3.1,x.1.2.2.2.2.2.1,x.1.2.2.2.1)).bind fun y4=> some (y3.1,y4.1,y4.2,x.1,())) (some (y3.1,[],y3.2,x.1,()))) (cond (x.1.1==5) ((b0C (x.2,x.1.2.2.2.2.2.2.2.1)).bind fun y5=> some (x.2,y5.1,y5.2,x.1,())) (some (x.2,[],0,x.1,())))))).bind fun z6=> cond (z6.2.2.1 != 0) (some (z6.2.2.1,z6.2.2.2.1)) ((a6h (z6.2.2.2.1,(z6.1.length:Int))).bind fun y7=> cond ((decide (0≤y7))&&(decide (y7≤(z6.1.length:Int)))) ((a1d (a07 (a01 y7) z6.1)).bind fun y8=> some (0,z6.2.2.2.1.1,z6.2.2.2.1.2.1,z6.2.2.2.1.2.2.1,z6.2.2.2.1.2.2.2.1,z6.2.2.2.1.2.2.2.2.1,z6.2.2.2.1.2.2.2.2.2.1,z6.2.2.2.1.2.2.2.2.2.2.1,z6.2.2.2.1.2.2.2.2.2.2.2.1,y8,z6.2.2.2.1.2.2.2.2.2.2.2.2.2.1,z6.2.1,z6.2.2.2.1.2.2.2.2.2.2.2.2.2.2.2)) none)
def c0t:FSem:=⟨[.r false (.b Q33),.v QL],[.v QI],b1Q⟩
def d8N:Hints:=⟨[],[(15,[(.normal,[.sv 1 QL,.sv 5 QL,.sv 6 QI,.box pinned Q33,.ptr 0 pinned []])])],[(7,[.v,.p,.p,.q,.q,.p,.p,.q,.q,.x,.x,.q,.q,.q,.x]),(9,[.v,.p,.p,.q,.q,.p,.p,.q,.q,.x,.x,.q,.q,.q,.x]),(11,[.q,.p,.p,.q,.q,.p,.p,.q,.q,.x,.x,.q,.q,.q,.x])]⟩
def a6l(s:Z29):Option (Z29 ⊕ (Int×Unit)):= cond (decide (s.2.2.2.1≤25)) ((a3N (s.2.2.2.1,s.1)).bind fun y2=> cond (decide (y2<s.2.2.1)) (some (.inl (s.1,s.2.2.2.1,y2,wrap .i64 (s.2.2.2.1+1),()))) (some (.inl (s.1,s.2.1,s.2.2.1,wrap .i64 (s.2.2.2.1+1),())))) (some (.inr (s.2.1,())))
def b1R(x:(List Int)):Option Int:= (a3N (0,x)).bind fun y1=> (a0h a6l (x,0,y1,1,())).bind fun w3=> some w3.1
def c0u:FSem:=⟨[.v QL],[.v QI],b1R⟩
def d8O:Hints:=⟨[(58,[.sv 0 QL,.sv 3 QI,.sv 4 QI,.sv 5 QI],[(.exit 0,[.sv 3 QI])])],[],[]⟩
def a8G(x:(List Int)):Option Int:= (b1R x).bind fun y1=> (a5O x).bind fun y2=> (a3N (y1,x)).bind fun y3=> cond (decide (y2<y3)) (some 31) (some y1)
def b6n:FSem:=⟨[.v QL],[.v QI],a8G⟩
def d8P:Hints:=⟨[],[],[]⟩
def a7M(s:(Int×(Int×(Int×((List Int)×(Int×(Int×((List Int)×(Int×(Int×((List Int)×Z85))))))))))):Option ((Int×(Int×(Int×((List Int)×(Int×(Int×((List Int)×(Int×(Int×((List Int)×Z85)))))))))) ⊕ (Int×(Int×(Int×((List Int)×(Int×Int×Z85)))))):= cond (decide (s.2.2.2.2.2.2.2.2.1<s.2.2.2.2.2.2.2.1)) (cond ((decide (0≤s.2.2.2.2.2.2.2.2.1))&&(decide (s.2.2.2.2.2.2.2.2.1<(s.2.2.2.2.2.2.2.2.2.1.length:Int)))) (cond ((decide (0≤(a03 s.2.2.2.2.2.2.2.2.2.1 (a01 s.2.2.2.2.2.2.2.2.1) 0)))&&(decide ((a03 s.2.2.2.2.2.2.2.2.2.1 (a01 s.2.2.2.2.2.2.2.2.1) 0)≤(s.2.2.2.2.2.2.1.length:Int)))) ((a8G (a07 (a01 (a03 s.2.2.2.2.2.2.2.2.2.1 (a01 s.2.2.2.2.2.2.2.2.1) 0)) s.2.2.2.2.2.2.1)).bind fun y3=> cond (lim ((a02 s.2.2.2.2.2.2.2.2.2.2.2.2.1.2.1)+1)) (cond ((decide (0≤(a03 s.2.2.2.2.2.2.2.2.2.1 (a01 s.2.2.2.2.2.2.2.2.1) 0)))&&(decide ((a03 s.2.2.2.2.2.2.2.2.2.1 (a01 s.2.2.2.2.2.2.2.2.1) 0)≤(s.2.2.2.2.2.2.1.length:Int)))) (some (.inl (s.1,s.2.1,s.2.2.1,s.2.2.2.1,s.2.2.2.2.1,s.2.2.2.2.2.1,a29 (a01 (a03 s.2.2.2.2.2.2.2.2.2.1 (a01 s.2.2.2.2.2.2.2.2.1) 0)) (a07 (a02 s.2.2.2.2.2.2.1) s.2.2.2.2.2.2.1),s.2.2.2.2.2.2.2.1,wrap .i64 (s.2.2.2.2.2.2.2.2.1+1),s.2.2.2.2.2.2.2.2.2.1,s.2.2.2.2.2.2.2.2.2.2.1,s.2.2.2.2.2.2.2.2.2.2.2.1,(s.2.2.2.2.2.2.2.2.2.2.2.2.1.1,a04 s.2.2.2.2.2.2.2.2.2.2.2.2.1.2.1 [y3],s.2.2.2.2.2.2.2.2.2.2.2.2.1.2.2),()))) none) none) none) none) (some (.inr (s.1,s.2.1,s.2.2.1,s.2.2.2.1,s.2.2.2.2.1,s.2.2.2.2.2.1,s.2.2.2.2.2.2.2.2.2.2.1,s.2.2.2.2.2.2.2.2.2.2.2.1,s.2.2.2.2.2.2.2.2.2.2.2.2.1,())))
def a3i(s:(Int×(Int×(Int×((List Int)×(Int×Int×Z73)))))):Option ((Int×(Int×(Int×((List Int)×(Int×Int×Z73))))) ⊕ Z73):= cond (decide (s.2.2.2.2.2.1≤(a3u (a2m s.2.2.1 0) 8))) ((a3r (s.2.2.2.2.2.1,s.1,s.2.1)).bind fun y2=> cond ((y2.length:Int)==0) (some (.inl (s.1,s.2.1,s.2.2.1,s.2.2.2.1,s.2.2.2.2.1,wrap .i64 (s.2.2.2.2.2.1+1),s.2.2.2.2.2.2.1,s.2.2.2.2.2.2.2.1,()))) ((a0h a7M (s.1,s.2.1,s.2.2.1,s.2.2.2.1,s.2.2.2.2.1,s.2.2.2.2.2.1,s.2.2.2.1,(y2.length:Int),0,y2,s.2.2.2.2.2.2.1,s.2.2.2.2.2.2.2.1,(s.2.2.2.2.2.1,[],()),())).bind fun w4=> (a4O (w4.2.2.2.2.2.2.2.2.1,w4.1,w4.2.1,w4.2.2.2.1)).bind fun y5=> (show Option (Int×(Int×(Int×((List Int)×(Int×Int×Int×Bool×Z85)))))from cond (w4.2.2.2.2.1==0) (some (w4.1,w4.2.1,w4.2.2.1,w4.2.2.2.1,w4.2.2.2.2.1,w4.2.2.2.2.2.1,y5,true,w4.2.2.2.2.2.2.1,w4.2.2.2.2.2.2.2.1,w4.2.2.2.2.2.2.2.2.1,())) (some (w4.1,w4.2.1,w4.2.2.1,w4.2.2.2.1,w4.2.2.2.2.1,w4.2.2.2.2.2.1,y5,decide (y5<w4.2.2.2.2.1),w4.2.2.2.2.2.2.1,w4.2.2.2.2.2.2.2.1,w4.2.2.2.2.2.2.2.2.1,()))).bind fun z6=> cond z6.2.2.2.2.2.2.2.1 (some (.inl (z6.1,z6.2.1,z6.2.2.1,z6.2.2.2.1,z6.2.2.2.2.2.2.1,wrap .i64 (z6.2.2.2.2.2.1+1),z6.2.2.2.2.2.2.2.2.1,z6.2.2.2.2.2.2.2.2.2.2.1,()))) (some (.inl (z6.1,z6.2.1,z6.2.2.1,z6.2.2.2.1,z6.2.2.2.2.1,wrap .i64 (z6.2.2.2.2.2.1+1),z6.2.2.2.2.2.2.2.2.1,z6.2.2.2.2.2.2.2.2.2.1,()))))) (some (.inr (s.2.2.2.2.2.2.1,s.2.2.2.2.2.2.2.1,())))
def b0D(x:(Int×Z1)):Option (Z5×Int):= (a7g (x.1,x.2.1,x.2.2.2)).bind fun y1=> cond (!y1) (some ((0,[],()),1)) ((a0h a3i (x.1,x.2.1,x.2.2.1,x.2.2.2,0,0,(0,[],()),(0,[],()),())).bind fun w7=> some (w7.2.1,0))
def b8V:FSem:=⟨[.v QI,.v QI,.v QI,.v QL],[.v Q9,.v QI],b0D⟩
def d8Q:Hints:=⟨[(250,[.sv 0 QI,.sv 1 QI,.sv 2 QI,.sv 3 QL,.sv 11 QI,.sv 12 QI,.box 8 Q9,.box 10 Q9,.ptr 8 8 [],.ptr 10 10 []],[(.exit 0,[.box 8 Q9,.box 10 Q9,.ptr 8 8 [],.ptr 10 10 []])]),(512634,[.sv 0 QI,.sv 1 QI,.sv 2 QI,.sv 3 QL,.sv 11 QI,.sv 12 QI,.sv 15 QL,.sv 43 QI,.sv 44 QI,.own 42 13 QI,.box 8 Q9,.box 10 Q9,.box 14 Q8,.ptr 8 8 [],.ptr 10 10 [],.ptr 14 14 []],[(.exit 2,[.sv 0 QI,.sv 1 QI,.sv 2 QI,.sv 3 QL,.sv 11 QI,.sv 12 QI,.box 8 Q9,.box 10 Q9,.box 14 Q8,.ptr 8 8 [],.ptr 10 10 [],.ptr 14 14 []])])],[(256319,[(.normal,[.sv 0 QI,.sv 1 QI,.sv 2 QI,.sv 3 QL,.sv 11 QI,.sv 12 QI,.sv 18 QI,.sv 72 .bool,.box 8 Q9,.box 10 Q9,.box 14 Q9,.ptr 8 8 [],.ptr 10 10 [],.ptr 14 14 []])])],[(15,[.q,.q,.v,.v,.v,.v,.q,.x,.x,.x])]⟩
def a5l(s:((List Int)×((List Int)×c9t))):Option (((List Int)×((List Int)×c9t)) ⊕ (((List Int)×b2G) ⊕ (Int×Z96))):= cond (decide (s.2.2.2.1<s.2.2.1)) ((a0m s.2.1 s.2.2.2.1).bind fun x5=> (a0m s.1 0).bind fun x6=> cond (x5 != x6) (some (.inr (Sum.inr ((7,(0,0,0,0,0,[],a00 3 0,[],[],(0,[],()),[],()),()))))) (some (.inl (s.1,s.2.1,s.2.2.1,wrap .i64 (s.2.2.2.1+1),s.2.2.2.2.1,s.2.2.2.2.2.1,())))) (some (.inr (Sum.inl (s.1,s.2.2.2.2.1,s.2.2.2.2.2.1,()))))
def b3j(x:(Int×((List Int)×Z93))):Option Z95:= (show Option (Int×((List Int)×(Int×Bool×b2G)))from cond (decide ((x.2.1.length:Int)<1)) (some (x.1,x.2.1,(x.2.1.length:Int),true,(0,0,0,0,0,[],a00 3 0,[],[],(0,[],()),[],()),x.2.2,())) (cond (decide ((x.2.1.length:Int) > 4096)) (some (x.1,x.2.1,(x.2.1.length:Int),true,(0,0,0,0,0,[],a00 3 0,[],[],(0,[],()),[],()),x.2.2,())) ((a9S (x.1,x.2.2,(x.2.1.length:Int))).bind fun y1=> some (x.1,x.2.1,(x.2.1.length:Int),!y1,(0,0,0,0,0,[],a00 3 0,[],[],(0,[],()),[],()),x.2.2,())))).bind fun z2=> cond z2.2.2.2.1 (some ((0,0,0,0,0,[],a00 3 0,[],[],(0,[],()),[],()),1)) ((a2j z2.2.1).bind fun y3=> cond (!y3) (some ((0,0,0,0,0,[],a00 3 0,[],[],(0,[],()),[],()),6)) ((a6i (z2.1,z2.2.2.2.2.2.1)).bind fun y4=> cond (z2.1==0) ((a0h a5l (z2.2.1,z2.2.1,(z2.2.1.length:Int),0,z2.2.2.2.2.1,y4,())).bind fun w7=> match w7 with |.inl a8=>((a0m a8.1 0).bind fun x10=> some ((a8.2.2.1.1,a8.2.2.1.2.1,a8.2.2.1.2.2.1,a8.2.2.1.2.2.2.1,a8.2.2.1.2.2.2.2.1,a8.2.2.1.2.2.2.2.2.1,a8.2.2.1.2.2.2.2.2.2.1,a8.2.2.1.2.2.2.2.2.2.2.1,[x10],a8.2.2.1.2.2.2.2.2.2.2.2.2),0)) |.inr b9=>some (b9.2.1,b9.1)) ((a3Z z2.2.1).bind fun y11=> (a7i (z2.2.1,y11)).bind fun y12=> cond (y12.2 != 0) (some ((0,0,0,0,0,[],a00 3 0,[],[],(0,[],()),[],()),6)) (cond (z2.1==1) (some ((y4.1,y11,y4.2.2.1,y4.2.2.2.1,y4.2.2.2.2.1,y4.2.2.2.2.2.1,y4.2.2.2.2.2.2.1,y4.2.2.2.2.2.2.2.1,y12.1,y4.2.2.2.2.2.2.2.2.2),0)) ((b1Q ((y4.1,y11,y4.2.2),y12.1)).bind fun y13=> cond (y13.1 != 0) (some ((0,0,0,0,0,[],a00 3 0,[],[],(0,[],()),[],()),6)) ((b0D (z2.2.2.1,(y13.2.2.2.2.2.2.2.2.2.1.length:Int),6,y13.2.2.2.2.2.2.2.2.2.2.2.1)).bind fun y14=> cond (y14.2 != 0) (some ((0,0,0,0,0,[],a00 3 0,[],[],(0,[],()),[],()),6)) (some ((y13.2.1,y13.2.2.1,y13.2.2.2.1,y13.2.2.2.2.1,y13.2.2.2.2.2.1,y13.2.2.2.2.2.2.1,y13.2.2.2.2.2.2.2.1,y13.2.2.2.2.2.2.2.2.1,y13.2.2.2.2.2.2.2.2.2.1,y14.1,y13.2.2.2.2.2.2.2.2.2.2.2),0))))))))
def c2l:FSem:=⟨[.v QI,.v QL,.v Q33],[.v Q33,.v QI],b3j⟩
def H86:Hints:=⟨[(4050,[.sv 1 QL,.sv 39 QL,.sv 40 QI,.sv 41 QI,.box 6 Q33,.box 9 Q33,.ptr 6 6 [],.ptr 9 9 []],[(.exit 0,[.sv 1 QL,.box 6 Q33,.box 9 Q33,.ptr 6 6 [],.ptr 9 9 []]),(.ret,[.sv 7 QI,.box 6 Q33,.ptr 6 6 []])])],[(14,[(.normal,[.sv 0 QI,.sv 1 QL,.sv 8 QI,.sv 28 .bool,.box 6 Q33,.vp 5 Q33,.ptr 6 6 []])])],[]⟩
def a8P(x:Z6):Option Z17:= some (x.2.1,x)
def b2V:FSem:=⟨[.r false (.b Q7)],[.v QI],a8P⟩
def d8R:Hints:=⟨[],[],[]⟩
def b3k(x:Z95):Option Int:= (b2r (([],0,()),x.1,x.2)).bind fun y1=> cond (y1.1 != 0) (some 0) ((a8P y1.2).bind fun y2=> some y2.1)
def c2m:FSem:=⟨[.v Q33,.v QI],[.v QI],b3k⟩
def H89:Hints:=⟨[],[],[]⟩
def a4S(s:Z44):Option (Z44 ⊕ (Int×Unit)):= cond (decide (s.2.2.2.2.1<s.2.2.2.1)) ((a0m s.2.2.1 s.2.2.2.2.1).bind fun x1=> cond (decide ((wrap .i64 (s.2.2.2.2.1+s.1))≥4)) (some (.inl (s.1,wrap .i64 (s.2.1+(a2m x1 (wrap .i64 (0-x1)))),s.2.2.1,s.2.2.2.1,wrap .i64 (s.2.2.2.2.1+1),()))) (some (.inl (s.1,s.2.1,s.2.2.1,s.2.2.2.1,wrap .i64 (s.2.2.2.2.1+1),())))) (some (.inr (s.2.1,())))
def a9w(x:((List Int)×Int)):Option Int:= (a0h a4S (x.2,0,x.1,(x.1.length:Int),0,())).bind fun w2=> some w2.1
def b7N:FSem:=⟨[.v QL,.v QI],[.v QI],a9w⟩
def d8S:Hints:=⟨[(58,[.sv 1 QI,.sv 5 QI,.sv 8 QL,.sv 9 QI,.sv 10 QI],[(.exit 0,[.sv 5 QI])])],[],[]⟩
def a3j(s:Z29):Option (Z29 ⊕ (Int×Unit)):= cond (decide (s.2.2.2.1≤4)) ((a4Q (s.1,s.2.2.2.1)).bind fun y1=> cond (y1.2 != 0) (some (.inl (s.1,s.2.1,s.2.2.1,wrap .i64 (s.2.2.2.1+1),()))) ((a9w (y1.1,s.2.2.2.1)).bind fun y2=> (show Option ((List Int)×(Int×Z22))from cond (decide (s.2.2.1<0)) (some (s.1,s.2.1,s.2.2.1,s.2.2.2.1,y2,true,())) (some (s.1,s.2.1,s.2.2.1,s.2.2.2.1,y2,decide (y2<s.2.2.1),()))).bind fun z3=> cond z3.2.2.2.2.2.1 (some (.inl (z3.1,z3.2.2.2.1,z3.2.2.2.2.1,wrap .i64 (z3.2.2.2.1+1),()))) (some (.inl (z3.1,z3.2.1,z3.2.2.1,wrap .i64 (z3.2.2.2.1+1),()))))) (some (.inr (s.2.1,())))
def a6m(x:(List Int)):Option Int:= (a0h a3j (x,0,(-1),0,())).bind fun w4=> some w4.1
def b8W:FSem:=⟨[.v QL],[.v QI],a6m⟩
def d8T:Hints:=⟨[(58,[.sv 0 QL,.sv 3 QI,.sv 4 QI,.sv 5 QI],[(.exit 0,[.sv 3 QI])])],[(7463,[(.normal,[.sv 0 QL,.sv 3 QI,.sv 4 QI,.sv 5 QI,.sv 8 QI,.sv 30 .bool])])],[]⟩
def a2T(x:Int):Option Int:= some (a3u (a2m x (-1048576)) 1048575)
def b1n:FSem:=⟨[.v QI],[.v QI],a2T⟩
def d8U:Hints:=⟨[],[],[]⟩
def a3V(s:Z65):Option (Z65 ⊕ Z54):= cond (decide (s.2.1<0)) none ((a2T (a0A .i64 s.2.2.1 s.2.1)).bind fun y2=> cond (decide (s.2.1<0)) none (cond (y2 != (a0A .i64 s.2.2.1 s.2.1)) (some (.inl (s.1,wrap .i64 (s.2.1+1),s.2.2.1,s.2.2.2.1,s.2.2.2.2.1,s.2.2.2.2.2.1,()))) (some (.inr (s.1,s.2.1,s.2.2.2.1,s.2.2.2.2.1,s.2.2.2.2.2.1,())))))
def a5E(s:Z54):Option (Z54 ⊕ Z6):= cond (decide (s.2.2.2.2.1<s.2.2.2.1)) ((a0m s.2.2.1 s.2.2.2.2.1).bind fun x1=> (a0h a3V (s.1,s.2.1,x1,s.2.2.1,s.2.2.2.1,s.2.2.2.2.1,())).bind fun w3=> some (.inl (w3.1,w3.2.1,w3.2.2.1,w3.2.2.2.1,wrap .i64 (w3.2.2.2.2.1+1),()))) (some (.inr (s.1,s.2.1,())))
def a5F(s:Z53):Option (Z53 ⊕ ((List Int)×Unit)):= cond (decide (s.2.2.2.1<s.2.2.1)) ((a0m s.2.1 s.2.2.2.1).bind fun x5=> cond (decide (s.1<0)) none (cond ((decide (0≤s.2.2.2.1))&&(decide (s.2.2.2.1<(s.2.2.2.2.1.length:Int)))) (some (.inl (s.1,s.2.1,s.2.2.1,wrap .i64 (s.2.2.2.1+1),a05 s.2.2.2.2.1 (a01 s.2.2.2.1) (a0A .i64 x5 s.1),()))) none)) (some (.inr (s.2.2.2.2.1,())))
def a7N(x:(List Int)):Option (List Int):= (a0h a5E (x,0,x,(x.length:Int),0,())).bind fun w4=> cond ((decide (0≤(w4.1.length:Int)))&&((decide ((w4.1.length:Int)≤(w4.1.length:Int)))&&(lim (a01 (w4.1.length:Int))))) ((a0h a5F (w4.2.1,w4.1,(w4.1.length:Int),0,a00 (a01 (w4.1.length:Int)) 0,())).bind fun w6=> some w6.1) none
def b4S:FSem:=⟨[.v QL],[.o QI],a7N⟩
def d8V:Hints:=⟨[(58,[.sv 0 QL,.sv 3 QI,.sv 9 QL,.sv 10 QI,.sv 11 QI],[(.exit 0,[.sv 0 QL,.sv 3 QI])]),(250,[.sv 3 QI,.sv 29 QL,.sv 30 QI,.sv 31 QI,.own 6 6 QI],[(.exit 4,[.own 6 6 QI])]),(7474,[.sv 0 QL,.sv 3 QI,.sv 5 QI,.sv 9 QL,.sv 10 QI,.sv 11 QI],[(.exit 2,[.sv 0 QL,.sv 3 QI,.sv 9 QL,.sv 10 QI,.sv 11 QI])])],[],[(5,[.v,.v,.v,.v,.v,.v,.v,.x])]⟩
def a3P(s:((List Int)×Z29)):Option (((List Int)×Z29) ⊕ (Int×Int×Unit)):= cond (decide (s.2.2.2.2.1<(s.1.length:Int))) ((a0m s.1 s.2.2.2.2.1).bind fun x1=> (a0m s.2.1 (wrap .i64 (s.2.2.2.2.1-1))).bind fun x2=> (a0m s.1 s.2.2.2.2.1).bind fun x3=> (a0m s.1 s.2.2.2.2.1).bind fun x4=> (a0m s.2.1 (wrap .i64 (s.2.2.2.2.1-1))).bind fun x5=> (a0m s.2.1 (wrap .i64 (s.2.2.2.2.1-1))).bind fun x6=> some (.inl (s.1,s.2.1,wrap .i64 (s.2.2.1+(wrap .i64 (x1*x2))),wrap .i64 (s.2.2.2.1+(wrap .i64 ((wrap .i64 (x3*x4))+(wrap .i64 (x5*x6))))),wrap .i64 (s.2.2.2.2.1+1),()))) (some (.inr (s.2.2.1,s.2.2.2.1,())))
def a3Q(s:(Int×Int×Unit)):Option ((Int×Int×Unit) ⊕ (Int×Int×Unit)):= cond (decide (s.2.1≥1099511627776)) (some (.inl (a0A .i64 s.1 1,a0A .i64 s.2.1 1,()))) (some (.inr (s.1,s.2.1,())))
def a5a(x:Z10):Option Int:= (a0h a3P (x.1,x.2.1,0,0,x.2.2,())).bind fun w7=> (a0h a3Q (w7.1,w7.2.1,())).bind fun w8=> cond (w8.2.1==0) (some 0) (cond (w8.2.1==0) none ((show Option (Int×Unit)from cond (w8.2.1==0) none (cond (decide ((a08 (a0z .i64 w8.1 15) w8.2.1)<0)) (some (wrap .i64 ((wrap .i64 (a19 (a0z .i64 w8.1 15) w8.2.1))-1),())) (some (wrap .i64 (a19 (a0z .i64 w8.1 15) w8.2.1),())))).bind fun z9=> some (a3u (a2m z9.1 (-16383)) 16383)))
def b1b:FSem:=⟨[.v QL,.v QL,.v QI],[.v QI],a5a⟩
def d8W:Hints:=⟨[(58,[.sv 0 QL,.sv 1 QL,.sv 7 QI,.sv 8 QI,.sv 9 QI],[(.exit 0,[.sv 7 QI,.sv 8 QI])]),(60,[.sv 7 QI,.sv 8 QI],[(.exit 2,[.sv 7 QI,.sv 8 QI])])],[(255,[(.normal,[.sv 10 QI])])],[(5,[.v,.v,.v,.v,.v,.v,.v,.v,.v,.v,.v,.x,.x]),(6,[.v,.v,.v,.v,.v,.v,.v,.v,.v,.v,.v,.v,.v,.v,.v,.v,.v,.v,.v,.v,.v,.v,.x,.x])]⟩
def a3D(s:(Int×Int×Z63)):Option ((Int×Int×Z63) ⊕ Z63):= cond (decide (s.2.2.2.1≥s.2.1)) (cond ((decide (0≤s.2.2.2.1))&&(decide (s.2.2.2.1<(s.2.2.2.2.1.length:Int)))) (cond ((decide (0≤(wrap .i64 (s.2.2.2.1-1))))&&(decide ((wrap .i64 (s.2.2.2.1-1))<(s.2.2.2.2.2.1.length:Int)))) ((a2T (wrap .i64 ((a03 s.2.2.2.2.1 (a01 s.2.2.2.1) 0)-(a0A .i64 (wrap .i64 (s.2.2.1*(a03 s.2.2.2.2.2.1 (a01 (wrap .i64 (s.2.2.2.1-1))) 0))) 14)))).bind fun y6=> cond ((decide (0≤s.2.2.2.1))&&(decide (s.2.2.2.1<(s.2.2.2.2.1.length:Int)))) ((a2T (wrap .i64 ((a03 s.2.2.2.2.2.1 (a01 (wrap .i64 (s.2.2.2.1-1))) 0)-(a0A .i64 (wrap .i64 (s.2.2.1*(a03 s.2.2.2.2.1 (a01 s.2.2.2.1) 0))) 14)))).bind fun y7=> cond ((decide (0≤s.2.2.2.1))&&(decide (s.2.2.2.1<(s.2.2.2.2.2.1.length:Int)))) (some (.inl (s.1,s.2.1,s.2.2.1,wrap .i64 (s.2.2.2.1-1),a05 s.2.2.2.2.1 (a01 s.2.2.2.1) y6,a05 s.2.2.2.2.2.1 (a01 s.2.2.2.1) y7,s.2.2.2.2.2.2.1,()))) none) none) none) none) (some (.inr (s.1,s.2.1,s.2.2.2.2.1,s.2.2.2.2.2.1,s.2.2.2.2.2.2.1,())))
def a3E(s:Z63):Option (Z63 ⊕ ((List Int)×Unit)):= cond (decide (s.2.1≤s.1)) ((a5a (s.2.2.1,s.2.2.2.1,s.2.1)).bind fun y5=> cond (lim ((a02 s.2.2.2.2.1)+1)) ((a0h a3D (s.1,s.2.1,y5,wrap .i64 ((s.2.2.1.length:Int)-1),s.2.2.1,s.2.2.2.1,a04 s.2.2.2.2.1 [y5],())).bind fun w8=> some (.inl (w8.1,wrap .i64 (w8.2.1+1),w8.2.2.1,w8.2.2.2.1,w8.2.2.2.2.1,()))) none) (some (.inr (s.2.2.2.2.1,())))
def a6L(x:((List Int)×Int)):Option ((List Int)×Int):= (show Option Z18 from cond (decide (x.2<1)) (some (x.1,x.2,true,())) (cond (decide (x.2 > 32)) (some (x.1,x.2,true,())) (some (x.1,x.2,decide ((x.1.length:Int) > 4096),())))).bind fun z1=> cond z1.2.2.1 (some ([],1)) ((a2P z1.1).bind fun y2=> cond (!y2) (some ([],6)) ((a7N z1.1).bind fun y3=> (a1d y3).bind fun y4=> cond ((decide (0≤z1.2.1))&&(lim (a01 z1.2.1))) ((a0h a3E (z1.2.1,1,y3,y4,[],())).bind fun w9=> some (w9.1,0)) none))
def b4h:FSem:=⟨[.v QL,.v QI],[.o QI,.v QI],a6L⟩
def d8X:Hints:=⟨[(1018,[.sv 1 QI,.sv 9 QI,.own 6 6 QI,.own 7 7 QI,.own 8 8 QI],[(.exit 0,[.own 8 8 QI])]),(260686,[.sv 1 QI,.sv 9 QI,.sv 10 QI,.sv 11 QI,.own 6 6 QI,.own 7 7 QI,.own 8 8 QI],[(.exit 2,[.sv 1 QI,.sv 9 QI,.own 6 6 QI,.own 7 7 QI,.own 8 8 QI])])],[(6,[(.normal,[.sv 0 QL,.sv 1 QI,.sv 24 .bool])])],[(16,[.q,.v,.q,.q,.q,.v,.v,.q,.q,.v,.x])]⟩
def a2s(s:Z39):Option (Z39 ⊕ (((List Int)×Unit) ⊕ Z6)):= cond (decide (s.2.2.2.1<s.2.2.1)) ((a0m s.2.1 s.2.2.2.1).bind fun x2=> (show Option ((List Int)×Z32)from cond (decide (x2<(-16383))) (some (s.1,s.2.1,s.2.2.1,s.2.2.2.1,true,())) (some (s.1,s.2.1,s.2.2.1,s.2.2.2.1,decide (x2 > 16383),()))).bind fun z3=> cond z3.2.2.2.2.1 (some (.inr (Sum.inr (([],1,()))))) (some (.inl (z3.1,z3.2.1,z3.2.2.1,wrap .i64 (z3.2.2.2.1+1),())))) (some (.inr (Sum.inl (s.1,()))))
def a4m(s:((List Int)×(Int×(Int×((List Int)×Z67))))):Option (((List Int)×(Int×(Int×((List Int)×Z67)))) ⊕ Z53):= cond (decide (s.2.2.2.2.2.2.2.2.1<s.2.2.2.2.2.2.2.1)) ((a0m s.2.2.2.2.2.2.1 s.2.2.2.2.2.2.2.2.1).bind fun x8=> (a0m s.1 (wrap .i64 ((wrap .i64 (s.2.1-1))-s.2.2.2.2.2.2.2.2.1))).bind fun x9=> cond (lim ((a02 s.2.2.2.2.2.2.2.2.2.1)+1)) (some (.inl (s.1,s.2.1,s.2.2.1,s.2.2.2.1,s.2.2.2.2.1,s.2.2.2.2.2.1,s.2.2.2.2.2.2.1,s.2.2.2.2.2.2.2.1,wrap .i64 (s.2.2.2.2.2.2.2.2.1+1),a04 s.2.2.2.2.2.2.2.2.2.1 [wrap .i64 (x8-(a0A .i64 (wrap .i64 (s.2.2.1*x9)) 14))],()))) none) (some (.inr (s.2.2.1,s.2.2.2.1,s.2.2.2.2.1,s.2.2.2.2.2.1,s.2.2.2.2.2.2.2.2.2.1,())))
def a5Y(s:Z39):Option (Z39 ⊕ ((List Int)×Unit)):= cond (decide (s.2.2.2.1<s.2.2.1)) ((a0m s.2.1 s.2.2.2.1).bind fun x7=> cond ((decide (0≤(wrap .i64 (s.2.2.2.1+1))))&&(lim (a01 (wrap .i64 (s.2.2.2.1+1))))) ((a0h a4m (s.1,s.2.2.2.1,x7,s.2.1,s.2.2.1,s.2.2.2.1,s.1,(s.1.length:Int),0,[],())).bind fun w10=> cond (lim ((a02 w10.2.2.2.2.1)+1)) (some (.inl (a04 w10.2.2.2.2.1 [w10.1],w10.2.1,w10.2.2.1,wrap .i64 (w10.2.2.2.1+1),()))) none) none) (some (.inr (s.1,())))
def a8H(x:(List Int)):Option ((List Int)×Int):= (show Option ((List Int)×(Bool×Unit))from cond (decide ((x.length:Int)<1)) (some (x,true,())) (some (x,decide ((x.length:Int) > 32),()))).bind fun z1=> cond z1.2.1 (some ([],1)) ((a0h a2s (z1.1,z1.1,(z1.1.length:Int),0,())).bind fun w4=> match w4 with |.inl a5=>((a0h a5Y ([],a5.1,(a5.1.length:Int),0,())).bind fun w11=> some (w11.1,0)) |.inr b6=>some (b6.1,b6.2.1))
def b6o:FSem:=⟨[.v QL],[.v QL,.v QI],a8H⟩
def d8Y:Hints:=⟨[(58,[.sv 0 QL,.sv 20 QL,.sv 21 QI,.sv 22 QI],[(.exit 0,[.sv 0 QL]),(.ret,[.sv 2 QL,.sv 3 QI])]),(250,[.sv 6 QL,.sv 34 QL,.sv 35 QI,.sv 36 QI],[(.exit 2,[.sv 6 QL])]),(256410,[.sv 6 QL,.sv 7 QI,.sv 8 QI,.sv 34 QL,.sv 35 QI,.sv 36 QI,.sv 44 QL,.sv 45 QI,.sv 46 QI,.own 9 9 QI],[(.exit 4,[.sv 8 QI,.sv 34 QL,.sv 35 QI,.sv 36 QI,.own 9 9 QI])])],[(6,[(.normal,[.sv 0 QL,.sv 19 .bool])]),(3737,[(.normal,[.sv 0 QL,.sv 20 QL,.sv 21 QI,.sv 22 QI,.sv 31 .bool])])],[]⟩
def a2t(s:Z54):Option (Z54 ⊕ (Z6 ⊕ Z16)):= cond (decide (s.2.2.2.2.1<s.2.2.2.1)) ((a0m s.2.2.1 s.2.2.2.2.1).bind fun x2=> (show Option ((List Int)×(Int×Z32))from cond (decide (x2<(-35184372088832))) (some (s.1,s.2.1,s.2.2.1,s.2.2.2.1,s.2.2.2.2.1,true,())) (some (s.1,s.2.1,s.2.2.1,s.2.2.2.1,s.2.2.2.2.1,decide (x2 > 35184372088832),()))).bind fun z3=> cond z3.2.2.2.2.2.1 (some (.inr (Sum.inr ((0,1,[],()))))) (some (.inl (z3.1,z3.2.1,z3.2.2.1,z3.2.2.2.1,wrap .i64 (z3.2.2.2.2.1+1),())))) (some (.inr (Sum.inl (s.1,s.2.1,()))))
def a2u(s:((List Int)×(Int×Z67))):Option (((List Int)×(Int×Z67)) ⊕ Z37):= cond (decide (s.2.2.2.2.2.2.1<s.2.2.2.2.2.1)) ((a0m s.2.2.2.2.1 s.2.2.2.2.2.2.1).bind fun x8=> cond (decide (s.2.2.1<0)) none ((a4d (a0A .i64 (wrap .i64 (x8+s.2.2.2.1)) s.2.2.1,s.2.1)).bind fun y9=> cond (!y9) (some (.inr (s.1,s.2.1,s.2.2.1,s.2.2.2.2.2.2.2.1,()))) (cond (lim ((a02 s.2.2.2.2.2.2.2.1)+1)) (some (.inl (s.1,s.2.1,s.2.2.1,s.2.2.2.1,s.2.2.2.2.1,s.2.2.2.2.2.1,wrap .i64 (s.2.2.2.2.2.2.1+1),a04 s.2.2.2.2.2.2.2.1 [a0A .i64 (wrap .i64 (x8+s.2.2.2.1)) s.2.2.1],()))) none))) (some (.inr (s.1,s.2.1,s.2.2.1,s.2.2.2.2.2.2.2.1,())))
def a2v(s:Z15):Option (Z15 ⊕ (Unit ⊕ Z16)):= cond (decide (s.2.2.1≤14)) ((show Option Z29 from cond (decide (s.2.2.1 > 0)) (cond (decide ((wrap .i64 (s.2.2.1-1))<0)) none (some (s.1,s.2.1,s.2.2.1,a0z .i64 1 (wrap .i64 (s.2.2.1-1)),()))) (some (s.1,s.2.1,s.2.2.1,0,()))).bind fun z7=> cond ((decide (0≤(z7.1.length:Int)))&&(lim (a01 (z7.1.length:Int)))) ((a0h a2u (z7.1,z7.2.1,z7.2.2.1,z7.2.2.2.1,z7.1,(z7.1.length:Int),0,[],())).bind fun w10=> cond ((w10.2.2.2.1.length:Int)==(w10.1.length:Int)) (some (.inr (Sum.inr ((wrap .i64 (14-w10.2.2.1),0,w10.2.2.2.1,()))))) (some (.inl (w10.1,w10.2.1,wrap .i64 (w10.2.2.1+1),())))) none) (some (.inr (Sum.inl ())))
def a8I(x:((List Int)×Int)):Option Z3:= (show Option Z18 from cond (decide ((x.1.length:Int)<1)) (some (x.1,x.2,true,())) (cond (decide ((x.1.length:Int) > 32)) (some (x.1,x.2,true,())) (cond (decide (x.2<2)) (some (x.1,x.2,true,())) (some (x.1,x.2,decide (x.2 > 16),()))))).bind fun z1=> cond z1.2.2.1 (some ([],0,1)) ((a0h a2t (z1.1,z1.2.1,z1.1,(z1.1.length:Int),0,())).bind fun w4=> match w4 with |.inl a5=>((a0h a2v (a5.1,a5.2.1,0,())).bind fun w11=> match w11 with |.inl a12=>some ([],0,6) |.inr b13=>some (b13.2.2.1,b13.1,b13.2.1)) |.inr b6=>some (b6.2.2.1,b6.1,b6.2.1))
def b6p:FSem:=⟨[.v QL,.v QI],[.o QI,.v QI,.v QI],a8I⟩
def d8Z:Hints:=⟨[(58,[.sv 0 QL,.sv 1 QI,.sv 31 QL,.sv 32 QI,.sv 33 QI],[(.exit 0,[.sv 0 QL,.sv 1 QI]),(.ret,[.sv 5 QI,.sv 6 QI,.own 4 4 QI])]),(122,[.sv 0 QL,.sv 1 QI,.sv 9 QI],[(.exit 2,[]),(.ret,[.sv 5 QI,.sv 6 QI,.own 4 11 QI])]),(125242,[.sv 0 QL,.sv 1 QI,.sv 9 QI,.sv 10 QI,.sv 56 QL,.sv 57 QI,.sv 58 QI,.own 11 11 QI],[(.exit 4,[.sv 0 QL,.sv 1 QI,.sv 9 QI,.own 11 11 QI])])],[(6,[(.normal,[.sv 0 QL,.sv 1 QI,.sv 30 .bool])]),(3737,[(.normal,[.sv 0 QL,.sv 1 QI,.sv 31 QL,.sv 32 QI,.sv 33 QI,.sv 42 .bool])]),(3913,[(.normal,[.sv 0 QL,.sv 1 QI,.sv 9 QI,.sv 10 QI])])],[]⟩
def a4g(x:Z3):Option Z3:= (a6L (x.1,x.2.1)).bind fun y1=> cond (y1.2 != 0) (some ([],0,y1.2)) ((a8H y1.1).bind fun y2=> cond (y2.2 != 0) (some ([],0,y2.2)) ((a8I (y2.1,x.2.2)).bind fun y3=> some (y3.1,y3.2.1,y3.2.2)))
def b2R:FSem:=⟨[.v QL,.v QI,.v QI],[.o QI,.v QI,.v QI],a4g⟩
def d9a:Hints:=⟨[],[],[]⟩
def c3y(s:((List Int)×(Int×Int×Z35))):Option (((List Int)×(Int×Int×Z35)) ⊕ ((List Int)×(Int×Z35))):= cond (decide (s.2.2.2.2.2.2.2.1<(s.1.length:Int))) ((a0m s.1 s.2.2.2.2.2.2.2.1).bind fun x3=> (a0m s.1 (wrap .i64 (s.2.2.2.2.2.2.2.1-s.2.2.2.2.2.1))).bind fun x4=> some (.inl (s.1,s.2.1,s.2.2.1,s.2.2.2.1,s.2.2.2.2.1,s.2.2.2.2.2.1,wrap .i64 (s.2.2.2.2.2.2.1+(a2m (wrap .i64 (x3-x4)) (wrap .i64 (0-(wrap .i64 (x3-x4)))))),wrap .i64 (s.2.2.2.2.2.2.2.1+1),()))) (some (.inr (s.1,s.2.1,s.2.2.1,s.2.2.2.1,s.2.2.2.2.1,s.2.2.2.2.2.1,s.2.2.2.2.2.2.1,())))
def c3z(s:((List Int)×Z35)):Option (((List Int)×Z35) ⊕ (Int×Unit)):= cond (decide (s.2.2.2.2.2.1≤s.2.2.1)) ((a0h c3y (s.1,s.2.1,s.2.2.1,s.2.2.2.1,s.2.2.2.2.1,s.2.2.2.2.2.1,0,s.2.2.1,())).bind fun w5=> (show Option ((List Int)×(Int×Int×Int×Z22))from cond (w5.2.2.2.2.2.1==w5.2.1) (some (w5.1,w5.2.1,w5.2.2.1,w5.2.2.2.1,w5.2.2.2.2.1,w5.2.2.2.2.2.1,w5.2.2.2.2.2.2.1,true,())) (some (w5.1,w5.2.1,w5.2.2.1,w5.2.2.2.1,w5.2.2.2.2.1,w5.2.2.2.2.2.1,w5.2.2.2.2.2.2.1,decide (w5.2.2.2.2.2.2.1<w5.2.2.2.2.1),()))).bind fun z6=> cond z6.2.2.2.2.2.2.2.1 (some (.inl (z6.1,z6.2.1,z6.2.2.1,z6.2.2.2.2.2.1,z6.2.2.2.2.2.2.1,wrap .i64 (z6.2.2.2.2.2.1+1),()))) (some (.inl (z6.1,z6.2.1,z6.2.2.1,z6.2.2.2.1,z6.2.2.2.2.1,wrap .i64 (z6.2.2.2.2.2.1+1),())))) (some (.inr (s.2.2.2.1,())))
def b1S(x:Z3):Option (Int×Int):= (show Option Z32 from cond (decide (x.2.1<2)) (some (x.1,x.2.1,x.2.2,true,())) (cond (decide (x.2.1 > x.2.2)) (some (x.1,x.2.1,x.2.2,true,())) (cond (decide (x.2.2 > 1024)) (some (x.1,x.2.1,x.2.2,true,())) (some (x.1,x.2.1,x.2.2,decide ((x.1.length:Int) > 4096),()))))).bind fun z1=> cond z1.2.2.2.1 (some (0,1)) (cond (decide ((z1.1.length:Int)≤z1.2.2.1)) (some (0,7)) ((a4B z1.1).bind fun y2=> cond (!y2) (some (0,6)) ((a0h c3z (z1.1,z1.2.1,z1.2.2.1,0,0,z1.2.1,())).bind fun w7=> some (w7.1,0))))
def c0v:FSem:=⟨[.v QL,.v QI,.v QI],[.v QI,.v QI],b1S⟩
def d9b:Hints:=⟨[(506,[.sv 0 QL,.sv 1 QI,.sv 2 QI,.sv 8 QI,.sv 9 QI,.sv 10 QI],[(.exit 0,[.sv 8 QI])]),(129610,[.sv 0 QL,.sv 1 QI,.sv 2 QI,.sv 8 QI,.sv 9 QI,.sv 10 QI,.sv 11 QI,.sv 12 QI],[(.exit 2,[.sv 0 QL,.sv 1 QI,.sv 2 QI,.sv 8 QI,.sv 9 QI,.sv 10 QI,.sv 11 QI])])],[(6,[(.normal,[.sv 0 QL,.sv 1 QI,.sv 2 QI,.sv 29 .bool])]),(32403,[(.normal,[.sv 0 QL,.sv 1 QI,.sv 2 QI,.sv 8 QI,.sv 9 QI,.sv 10 QI,.sv 11 QI,.sv 74 .bool])])],[(15,[.v,.v,.v,.v,.v,.v,.v,.v,.v,.v,.x,.x])]⟩
def b8X(x:Unit):Option (List (List Int)):= some ([a05 (a05 (a05 (a00 3 0) 0 0) 1 0) 2 0,a05 (a05 (a05 (a00 3 0) 0 0) 1 64) 2 0,a05 (a05 (a05 (a00 3 0) 0 0) 1 32) 2 0,a05 (a05 (a05 (a00 3 0) 0 16) 1 32) 2 16,a05 (a05 (a05 (a00 3 0) 0 21) 1 22) 2 21,a05 (a05 (a05 (a00 3 0) 0 0) 1 48) 2 0,a05 (a05 (a05 (a00 3 0) 0 (-8)) 1 64) 2 (-8),a05 (a05 (a05 (a00 3 0) 0 32) 1 32) 2 0,a05 (a05 (a05 (a00 3 0) 0 0) 1 32) 2 32]:List (List Int))
def b8Y:FSem:=⟨[],[.o (.arr 3 QI)],b8X⟩
def d9c:Hints:=⟨[],[],[]⟩
def c3A(s:((List Int)×(Int×(Int×(Bool×(Int×(Int×(Int×(Int×(Int×((List (List Int))×((List Int)×Z36)))))))))))):Option (((List Int)×(Int×(Int×(Bool×(Int×(Int×(Int×(Int×(Int×((List (List Int))×((List Int)×Z36))))))))))) ⊕ ((List Int)×(Int×(Int×(Bool×(Int×(Int×(Int×((List (List Int))×Z36))))))))):= cond (decide (s.2.2.2.2.2.2.2.2.1<s.2.2.2.2.2.2.2.1)) (cond ((decide (0≤s.2.2.2.2.2.2.2.2.1))&&(decide (s.2.2.2.2.2.2.2.2.1<(s.2.2.2.2.2.2.2.2.2.2.1.length:Int)))) (some (.inl (s.1,s.2.1,s.2.2.1,s.2.2.2.1,wrap .i64 (s.2.2.2.2.1+(a2m (a03 s.2.2.2.2.2.2.2.2.2.2.1 (a01 s.2.2.2.2.2.2.2.2.1) 0) (wrap .i64 (0-(a03 s.2.2.2.2.2.2.2.2.2.2.1 (a01 s.2.2.2.2.2.2.2.2.1) 0))))),s.2.2.2.2.2.1,s.2.2.2.2.2.2.1,s.2.2.2.2.2.2.2.1,wrap .i64 (s.2.2.2.2.2.2.2.2.1+1),s.2.2.2.2.2.2.2.2.2.1,s.2.2.2.2.2.2.2.2.2.2.1,s.2.2.2.2.2.2.2.2.2.2.2.1,s.2.2.2.2.2.2.2.2.2.2.2.2.1,s.2.2.2.2.2.2.2.2.2.2.2.2.2.1,()))) none) (some (.inr (s.1,s.2.1,s.2.2.1,s.2.2.2.1,s.2.2.2.2.1,s.2.2.2.2.2.1,s.2.2.2.2.2.2.1,s.2.2.2.2.2.2.2.2.2.1,s.2.2.2.2.2.2.2.2.2.2.2.1,s.2.2.2.2.2.2.2.2.2.2.2.2.1,s.2.2.2.2.2.2.2.2.2.2.2.2.2.1,())))
def c3B(s:((List Int)×(Int×(Int×(Bool×(Int×(Int×((List (List Int))×Z11)))))))):Option (((List Int)×(Int×(Int×(Bool×(Int×(Int×((List (List Int))×Z11))))))) ⊕ (Bool×Z11)):= cond (decide (s.2.2.2.2.2.1<s.2.2.2.2.1)) (cond ((decide (0≤s.2.2.2.2.2.1))&&(decide (s.2.2.2.2.2.1<(s.2.2.2.2.2.2.1.length:Int)))) ((a7z (s.1,s.2.1,a03 s.2.2.2.2.2.2.1 (a01 s.2.2.2.2.2.1) (a00 3 0))).bind fun y3=> cond (y3.2 != 0) (some (.inl (s.1,s.2.1,s.2.2.1,s.2.2.2.1,s.2.2.2.2.1,wrap .i64 (s.2.2.2.2.2.1+1),s.2.2.2.2.2.2.1,s.2.2.2.2.2.2.2.1,s.2.2.2.2.2.2.2.2.1,()))) ((a0h c3A (s.1,s.2.1,s.2.2.1,s.2.2.2.1,0,s.2.2.2.2.1,s.2.2.2.2.2.1,(y3.1.length:Int),0,s.2.2.2.2.2.2.1,y3.1,s.2.2.2.2.2.2.2.1,s.2.2.2.2.2.2.2.2.1,a03 s.2.2.2.2.2.2.1 (a01 s.2.2.2.2.2.1) (a00 3 0),())).bind fun w4=> (show Option ((List Int)×(Int×(Int×(Bool×(Int×(Int×(Int×(Bool×((List (List Int))×Z36)))))))))from cond (!w4.2.2.2.1) (some (w4.1,w4.2.1,w4.2.2.1,w4.2.2.2.1,w4.2.2.2.2.1,w4.2.2.2.2.2.1,w4.2.2.2.2.2.2.1,true,w4.2.2.2.2.2.2.2.1,w4.2.2.2.2.2.2.2.2.1,w4.2.2.2.2.2.2.2.2.2.1,w4.2.2.2.2.2.2.2.2.2.2.1,())) (some (w4.1,w4.2.1,w4.2.2.1,w4.2.2.2.1,w4.2.2.2.2.1,w4.2.2.2.2.2.1,w4.2.2.2.2.2.2.1,decide (w4.2.2.2.2.1<w4.2.2.1),w4.2.2.2.2.2.2.2.1,w4.2.2.2.2.2.2.2.2.1,w4.2.2.2.2.2.2.2.2.2.1,w4.2.2.2.2.2.2.2.2.2.2.1,()))).bind fun z5=> cond z5.2.2.2.2.2.2.2.1 (some (.inl (z5.1,z5.2.1,z5.2.2.2.2.1,true,z5.2.2.2.2.2.1,wrap .i64 (z5.2.2.2.2.2.2.1+1),z5.2.2.2.2.2.2.2.2.1,z5.2.2.2.2.2.2.2.2.2.1,z5.2.2.2.2.2.2.2.2.2.2.2.1,()))) (some (.inl (z5.1,z5.2.1,z5.2.2.1,z5.2.2.2.1,z5.2.2.2.2.2.1,wrap .i64 (z5.2.2.2.2.2.2.1+1),z5.2.2.2.2.2.2.2.2.1,z5.2.2.2.2.2.2.2.2.2.1,z5.2.2.2.2.2.2.2.2.2.2.1,()))))) none) (some (.inr (s.2.2.2.1,s.2.2.2.2.2.2.2.1,s.2.2.2.2.2.2.2.2.1,())))
def c0w(x:((List Int)×Int)):Option ((List Int)×Int):= (show Option ((List Int)×(Int×Z8))from cond (decide (x.2<2)) (some (x.1,x.2,true,a00 3 0,())) (some (x.1,x.2,decide (x.2 > 1024),a00 3 0,()))).bind fun z1=> cond z1.2.2.1 (some (a00 3 0,1)) ((b8X ()).bind fun y2=> (a0h c3B (z1.1,z1.2.1,0,false,(y2.length:Int),0,y2,z1.2.2.2.1,a00 3 0,())).bind fun w6=> cond (!w6.1) (some (a00 3 0,6)) (some (w6.2.2.1,0)))
def c0x:FSem:=⟨[.v QL,.v QI],[.v (.arr 3 QI),.v QI],c0w⟩
def d9d:Hints:=⟨[(122,[.sv 0 QL,.sv 1 QI,.sv 7 QI,.sv 8 .bool,.sv 25 QI,.sv 26 QI,.own 24 1024 (.arr 3 QI),.box 4 (.arr 3 QI),.box 6 (.arr 3 QI),.ptr 4 4 [],.ptr 6 6 []],[(.exit 0,[.sv 8 .bool,.box 4 (.arr 3 QI),.box 6 (.arr 3 QI),.ptr 4 4 [],.ptr 6 6 []])]),(501370,[.sv 0 QL,.sv 1 QI,.sv 7 QI,.sv 8 .bool,.sv 13 QI,.sv 25 QI,.sv 26 QI,.sv 40 QI,.sv 41 QI,.own 24 1024 (.arr 3 QI),.own 39 11 QI,.box 4 (.arr 3 QI),.box 6 (.arr 3 QI),.box 10 (.arr 3 QI),.ptr 4 4 [],.ptr 6 6 [],.ptr 10 10 []],[(.exit 2,[.sv 0 QL,.sv 1 QI,.sv 7 QI,.sv 8 .bool,.sv 13 QI,.sv 25 QI,.sv 26 QI,.own 24 1024 (.arr 3 QI),.box 4 (.arr 3 QI),.box 6 (.arr 3 QI),.box 10 (.arr 3 QI),.ptr 4 4 [],.ptr 6 6 [],.ptr 10 10 []])])],[(6,[(.normal,[.sv 0 QL,.sv 1 QI,.sv 21 .bool,.box 4 (.arr 3 QI),.ptr 4 4 []])]),(125343,[(.normal,[.sv 0 QL,.sv 1 QI,.sv 7 QI,.sv 8 .bool,.sv 13 QI,.sv 25 QI,.sv 26 QI,.sv 58 .bool,.own 24 1024 (.arr 3 QI),.box 4 (.arr 3 QI),.box 6 (.arr 3 QI),.box 10 (.arr 3 QI),.ptr 4 4 [],.ptr 6 6 [],.ptr 10 10 []])])],[]⟩
def a3W(x:(List Int)):Option (Z93×Bool):= (b1S (x,16,256)).bind fun y1=> cond (y1.2 != 0) (some ((0,0,0,0,0,[],a00 3 0,[],[],(0,[],()),[],()),false)) ((c0w (x,y1.1)).bind fun y2=> cond (y2.2 != 0) (some ((0,0,0,0,0,[],a00 3 0,[],[],(0,[],()),[],()),false)) ((a7z (x,y1.1,y2.1)).bind fun y3=> cond (y3.2 != 0) (some ((0,0,0,0,0,[],a00 3 0,[],[],(0,[],()),[],()),false)) ((a4g (y3.1,4,12)).bind fun y4=> cond (y4.2.2 != 0) (some ((0,0,0,0,0,[],a00 3 0,[],[],(0,[],()),[],()),false)) (some ((4,0,0,y4.2.1,y1.1,y4.1,y2.1,[],[],(0,[],()),[],()),true)))))
def b8Z:FSem:=⟨[.v QL],[.v Q33,.v .bool],a3W⟩
def d9e:Hints:=⟨[],[],[]⟩
def a0t(x:(Int×(Int×((List Int)×Z94)))):Option ((List Int)×Z94):= (a4g (x.2.2.1,x.1,x.2.1)).bind fun y1=> cond (y1.2.2==0) (cond (lim ((a02 x.2.2.2)+1)) (some (x.2.2.1,a04 x.2.2.2 ([(3,0,0,y1.2.1,0,y1.1,a00 3 0,[],[],(0,[],()),[],())]:List Z93))) none) (some (x.2.2.1,x.2.2.2))
def b2w:FSem:=⟨[.v QI,.v QI,.r false (.b QL),.r false (.b (.list true Q33))],[],a0t⟩
def d9f:Hints:=⟨[],[],[]⟩
def a1Z(s:(Int×c9p)):Option ((Int×c9p) ⊕ c9p):= cond (decide (s.1<5)) (cond (lim ((a02 s.2.1)+1)) (some (.inl (wrap .i64 (s.1+1),a04 s.2.1 ([(2,0,s.1,0,0,[],a00 3 0,[],[],(0,[],()),[],())]:List Z93),s.2.2.1,()))) none) (some (.inr (s.2.1,s.2.2.1,())))
def a6M(x:((List Int)×Int)):Option Z94:= (a6m x.1).bind fun y1=> (show Option (Int×((List Int)×Z97))from cond (decide (x.2≥1)) ((a0t (4,12,x.1,([(0,0,0,0,0,[],a00 3 0,[],[],(0,[],()),[],()),(1,0,0,0,0,[],a00 3 0,[],[],(0,[],()),[],()),(2,0,y1,0,0,[],a00 3 0,[],[],(0,[],()),[],())]:List Z93))).bind fun y2=> (a0t (8,12,y2.1,y2.2)).bind fun y3=> some (x.2,y3.1,y3.2,())) (some (x.2,x.1,([(0,0,0,0,0,[],a00 3 0,[],[],(0,[],()),[],()),(1,0,0,0,0,[],a00 3 0,[],[],(0,[],()),[],()),(2,0,y1,0,0,[],a00 3 0,[],[],(0,[],()),[],())]:List Z93),()))).bind fun z4=> (show Option (Int×c9p)from cond (decide (z4.1≥2)) (cond (lim ((a02 z4.2.2.1)+1)) (cond (lim ((a02 (a04 z4.2.2.1 ([(5,0,0,0,0,[],a00 3 0,([(16,4,())]:List (Int×Int×Unit)),[],(0,[],()),[],())]:List Z93)))+1)) ((a3W z4.2.1).bind fun y5=> cond y5.2 (cond (lim ((a02 (a04 (a04 z4.2.2.1 ([(5,0,0,0,0,[],a00 3 0,([(16,4,())]:List (Int×Int×Unit)),[],(0,[],()),[],())]:List Z93)) ([(5,0,0,0,0,[],a00 3 0,([(32,3,()),(16,5,())]:List (Int×Int×Unit)),[],(0,[],()),[],())]:List Z93)))+1)) (some (z4.1,a04 (a04 (a04 z4.2.2.1 ([(5,0,0,0,0,[],a00 3 0,([(16,4,())]:List (Int×Int×Unit)),[],(0,[],()),[],())]:List Z93)) ([(5,0,0,0,0,[],a00 3 0,([(32,3,()),(16,5,())]:List (Int×Int×Unit)),[],(0,[],()),[],())]:List Z93)) ([y5.1]:List Z93),z4.2.1,())) none) (some (z4.1,a04 (a04 z4.2.2.1 ([(5,0,0,0,0,[],a00 3 0,([(16,4,())]:List (Int×Int×Unit)),[],(0,[],()),[],())]:List Z93)) ([(5,0,0,0,0,[],a00 3 0,([(32,3,()),(16,5,())]:List (Int×Int×Unit)),[],(0,[],()),[],())]:List Z93),z4.2.1,()))) none) none) (some (z4.1,z4.2.2.1,z4.2.1,()))).bind fun z6=> (show Option Z97 from cond (decide (z6.1≥3)) ((a0h a1Z (0,z6.2.1,z6.2.2.1,())).bind fun w7=> (a0t (1,12,w7.2.1,w7.1)).bind fun y8=> (a0t (2,12,y8.1,y8.2)).bind fun y9=> (a0t (12,14,y9.1,y9.2)).bind fun y10=> (a0t (16,14,y10.1,y10.2)).bind fun y11=> some (y11.2,())) (some (z6.2.1,()))).bind fun z12=> some z12.1
def b4i:FSem:=⟨[.v QL,.v QI],[.v (.list false Q33)],a6M⟩
def H93:Hints:=⟨[(4050,[.sv 50 QI,.box 5 (.list true Q33),.box 2 QL,.ptr 5 5 [],.clo 6 176 [2,5]],[(.exit 0,[.box 5 (.list true Q33),.box 2 QL,.ptr 5 5 [],.clo 6 176 [2,5]])])],[(15,[(.normal,[.sv 1 QI,.box 2 QL,.box 5 (.list true Q33),.ptr 2 2 [],.ptr 5 5 [],.clo 6 176 [2,5]])]),(31,[(.normal,[.sv 1 QI,.box 5 (.list true Q33),.box 2 QL,.ptr 5 5 [],.clo 6 176 [2,5]])]),(63,[(.normal,[.box 5 (.list true Q33),.ptr 5 5 []])])],[]⟩
def a7k(s:((List Int)×(Int×Bool×Z94×c9t))):Option (((List Int)×(Int×Bool×Z94×c9t)) ⊕ b2G):= cond (decide (s.2.2.2.2.2.1<s.2.2.2.2.1)) ((a0m s.2.2.2.1 s.2.2.2.2.2.1).bind fun x6=> (b3j (x6.1,s.1,x6)).bind fun y7=> cond (y7.2 != 0) (some (.inl (s.1,s.2.1,s.2.2.1,s.2.2.2.1,s.2.2.2.2.1,wrap .i64 (s.2.2.2.2.2.1+1),s.2.2.2.2.2.2.1,s.2.2.2.2.2.2.2.1,()))) ((b3k (y7.1,(s.1.length:Int))).bind fun y8=> (show Option ((List Int)×(Int×Bool×Int×Z94×Int×Int×Bool×Z93×b2G))from cond (!s.2.2.1) (some (s.1,s.2.1,s.2.2.1,y8,s.2.2.2.1,s.2.2.2.2.1,s.2.2.2.2.2.1,true,s.2.2.2.2.2.2.1,s.2.2.2.2.2.2.2.1,y7.1,())) (some (s.1,s.2.1,s.2.2.1,y8,s.2.2.2.1,s.2.2.2.2.1,s.2.2.2.2.2.1,decide (y8<s.2.1),s.2.2.2.2.2.2.1,s.2.2.2.2.2.2.2.1,y7.1,()))).bind fun z9=> cond z9.2.2.2.2.2.2.2.1 (some (.inl (z9.1,z9.2.2.2.1,true,z9.2.2.2.2.1,z9.2.2.2.2.2.1,wrap .i64 (z9.2.2.2.2.2.2.1+1),z9.2.2.2.2.2.2.2.2.1,z9.2.2.2.2.2.2.2.2.2.2.1,()))) (some (.inl (z9.1,z9.2.1,z9.2.2.1,z9.2.2.2.2.1,z9.2.2.2.2.2.1,wrap .i64 (z9.2.2.2.2.2.2.1+1),z9.2.2.2.2.2.2.2.2.1,z9.2.2.2.2.2.2.2.2.2.1,()))))) (some (.inr (s.2.2.2.2.2.2.1,s.2.2.2.2.2.2.2.1,())))
def a5G(x:((List Int)×Int)):Option Z95:= (show Option ((List Int)×Z99)from cond (decide ((x.1.length:Int)<1)) (some (x.1,x.2,true,(0,0,0,0,0,[],a00 3 0,[],[],(0,[],()),[],()),())) (cond (decide ((x.1.length:Int) > 4096)) (some (x.1,x.2,true,(0,0,0,0,0,[],a00 3 0,[],[],(0,[],()),[],()),())) (cond (decide (x.2<0)) (some (x.1,x.2,true,(0,0,0,0,0,[],a00 3 0,[],[],(0,[],()),[],()),())) (some (x.1,x.2,decide (x.2 > 3),(0,0,0,0,0,[],a00 3 0,[],[],(0,[],()),[],()),()))))).bind fun z1=> cond z1.2.2.1 (some ((0,0,0,0,0,[],a00 3 0,[],[],(0,[],()),[],()),1)) ((a2j z1.1).bind fun y2=> cond (!y2) (some ((0,0,0,0,0,[],a00 3 0,[],[],(0,[],()),[],()),6)) ((a3Z z1.1).bind fun y3=> (a7i (z1.1,y3)).bind fun y4=> cond (y4.2 != 0) (some ((0,0,0,0,0,[],a00 3 0,[],[],(0,[],()),[],()),y4.2)) ((a6M (y4.1,z1.2.1)).bind fun y5=> (a0h a7k (z1.1,0,false,y5,(y5.length:Int),0,z1.2.2.2.1,(0,0,0,0,0,[],a00 3 0,[],[],(0,[],()),[],()),())).bind fun w10=> some (w10.2.1,0))))
def c2n:FSem:=⟨[.v QL,.v QI],[.v Q33,.v QI],a5G⟩
def H40:Hints:=⟨[(2042,[.sv 0 QL,.sv 9 QI,.sv 10 .bool,.sv 50 (.list false Q33),.sv 51 QI,.sv 52 QI,.box 4 Q33,.box 8 Q33,.ptr 4 4 [],.ptr 8 8 []],[(.exit 0,[.box 4 Q33,.box 8 Q33,.ptr 4 4 [],.ptr 8 8 []])])],[(6,[(.normal,[.sv 0 QL,.sv 1 QI,.sv 31 .bool,.box 4 Q33,.ptr 4 4 []])]),(1045711,[(.normal,[.sv 0 QL,.sv 9 QI,.sv 10 .bool,.sv 15 QI,.sv 50 (.list false Q33),.sv 51 QI,.sv 52 QI,.sv 76 .bool,.box 4 Q33,.box 8 Q33,.box 13 Q33,.ptr 4 4 [],.ptr 8 8 [],.ptr 13 13 []])])],[]⟩
def a8f(s:(Z14×Z26)):Option ((Z14×Z26) ⊕ (Z2 ⊕ Z13)):= cond (decide (s.2.2.1<s.2.1)) ((a0m s.1 s.2.2.1).bind fun x5=> (a8c (s.2.2.2.1,x5,1)).bind fun y6=> cond (!y6.1) (some (.inr (Sum.inr ((([]:(List (List Int))),6,()))))) (some (.inl (s.1,s.2.1,wrap .i64 (s.2.2.1+1),y6.2,())))) (some (.inr (Sum.inl (s.2.2.2.1,()))))
def b2x(x:((List (List Int))×Z14)):Option ((List (List Int))×Int):= (show Option ((List (List Int))×(Z14×Bool×Unit))from(a7w x.1).bind fun y1=> cond (!y1) (some (x.1,x.2,true,())) ((a8y (x.2,(x.1.length:Int))).bind fun y2=> some (x.1,x.2,!y2,()))).bind fun z3=> cond z3.2.2.1 (some (([]:(List (List Int))),1)) ((a7f z3.1).bind fun y4=> (a0h a8f (z3.2.1,(z3.2.1.length:Int),0,y4,())).bind fun w7=> match w7 with |.inl a8=>some (a8.1,0) |.inr b9=>some (b9.1,b9.2.1))
def b9a:FSem:=⟨[.v (.list false QL),.v (.list false Q10)],[.v (.list false QL),.v QI],b2x⟩
def H79:Hints:=⟨[(122,[.sv 21 (.list false Q10),.sv 22 QI,.sv 23 QI,.own 6 6 (.list true QI)],[(.exit 0,[.own 6 6 (.list true QI)]),(.ret,[.sv 4 (.list false QL),.sv 5 QI])])],[(6,[(.normal,[.sv 0 (.list false QL),.sv 1 (.list false Q10),.sv 18 .bool])])],[]⟩
def a6N(s:(Int×((List Int)×Z40))):Option ((Int×((List Int)×Z40)) ⊕ Z40):= cond (decide (s.2.2.1<(s.2.1.length:Int))) ((a0m s.2.1 s.2.2.1).bind fun x3=> (a0m s.2.1 (wrap .i64 (s.2.2.1-1))).bind fun x4=> (a0m s.2.1 (wrap .i64 (s.2.2.1-2))).bind fun x5=> some (.inl (wrap .i64 (s.1+(a2m (wrap .i64 ((wrap .i64 (x3-(wrap .i64 (2*x4))))+x5)) (wrap .i64 (0-(wrap .i64 ((wrap .i64 (x3-(wrap .i64 (2*x4))))+x5)))))),s.2.1,wrap .i64 (s.2.2.1+1),s.2.2.2.1,s.2.2.2.2.1,s.2.2.2.2.2.1,()))) (some (.inr (s.1,s.2.2.2.1,s.2.2.2.2.1,s.2.2.2.2.2.1,())))
def a6O(s:Z40):Option (Z40 ⊕ (Int×Unit)):= cond (decide (s.2.2.2.1<s.2.2.1)) ((a0m s.2.1 s.2.2.2.1).bind fun x2=> (a0h a6N (s.1,x2,2,s.2.1,s.2.2.1,s.2.2.2.1,())).bind fun w6=> some (.inl (w6.1,w6.2.1,w6.2.2.1,wrap .i64 (w6.2.2.2.1+1),()))) (some (.inr (s.1,())))
def a7l(x:(List (List Int))):Option Int:= (a7w x).bind fun y1=> cond (!y1) (some 0) ((a0h a6O (0,x,(x.length:Int),0,())).bind fun w7=> some w7.1)
def b7O:FSem:=⟨[.v (.list false QL)],[.v QI],a7l⟩
def d9g:Hints:=⟨[(122,[.sv 3 QI,.sv 11 (.list false QL),.sv 12 QI,.sv 13 QI],[(.exit 0,[.sv 3 QI])]),(31334,[.sv 3 QI,.sv 5 QL,.sv 6 QI,.sv 11 (.list false QL),.sv 12 QI,.sv 13 QI],[(.exit 2,[.sv 3 QI,.sv 11 (.list false QL),.sv 12 QI,.sv 13 QI])])],[],[(10,[.v,.v,.v,.v,.v,.v,.v,.v,.v,.v,.v,.v,.v,.v,.v,.v,.x,.x])]⟩
def b0E(x:Int):Option Z14:= cond (x==1) (some ([(0,1,(-256),())]:List Z7)) (cond (x==2) (some ([(1,0,(-256),())]:List Z7)) (cond (x==3) (some ([(1,0,(-256),()),(0,1,128,())]:List Z7)) (cond (x==4) (some ([(1,0,(-106),()),(0,1,181,()),(1,0,(-106),())]:List Z7)) (some []))))
def b9b:FSem:=⟨[.v QI],[.o Q10],b0E⟩
def d9h:Hints:=⟨[],[],[]⟩
def a6n(s:((List (List Int))×Z7)):Option (((List (List Int))×Z7) ⊕ (Int×Unit)):= cond (decide (s.2.2.2.1<5)) ((b0E s.2.2.2.1).bind fun y2=> (b2x (s.1,y2)).bind fun y3=> cond (y3.2 != 0) (some (.inl (s.1,s.2.1,s.2.2.1,wrap .i64 (s.2.2.2.1+1),()))) ((a7l y3.1).bind fun y4=> cond (decide (y4<s.2.2.1)) (some (.inl (s.1,s.2.2.2.1,y4,wrap .i64 (s.2.2.2.1+1),()))) (some (.inl (s.1,s.2.1,s.2.2.1,wrap .i64 (s.2.2.2.1+1),()))))) (some (.inr (s.2.1,())))
def b1T(x:(List (List Int))):Option Z14:= (a7l x).bind fun y1=> (a0h a6n (x,0,y1,1,())).bind fun w5=> (b0E w5.1).bind fun y6=> some y6
def c0y:FSem:=⟨[.v (.list false QL)],[.o Q10],b1T⟩
def d9i:Hints:=⟨[(58,[.sv 0 (.list false QL),.sv 3 QI,.sv 4 QI,.sv 5 QI],[(.exit 0,[.sv 3 QI])])],[],[]⟩
def a6o(s:(Int×Int×Int×Z14×Z81)):Option ((Int×Int×Int×Z14×Z81) ⊕ (Int×Z81)):= cond (decide (s.2.2.1<s.2.1)) (cond ((decide (0≤s.2.2.1))&&(decide (s.2.2.1<(s.2.2.2.2.1.length:Int)))) (cond (lim ((a02 s.2.2.2.1)+1)) (some (.inl (s.1,s.2.1,wrap .i64 (s.2.2.1+1),a04 s.2.2.2.1 ([(wrap .i64 (((a03 s.2.2.2.2.1 (a01 s.2.2.1) (0,0,0,())).1)+s.1),wrap .i64 ((((a03 s.2.2.2.2.1 (a01 s.2.2.1) (0,0,0,())).2).1)+s.1),(((a03 s.2.2.2.2.1 (a01 s.2.2.1) (0,0,0,())).2).2).1,())]:List Z7),s.2.2.2.2.1,s.2.2.2.2.2.1,()))) none) none) (some (.inr (s.1,s.2.2.2.1,s.2.2.2.2.2.1,())))
def a8J(s:(Int×Z81)):Option ((Int×Z81) ⊕ (Z14×Unit)):= cond (decide ((wrap .i64 (s.1+1))<(s.2.2.1.2.1.length:Int))) (cond ((decide (0≤(wrap .i64 (s.1+2))))&&(decide ((wrap .i64 (s.1+2))≤(s.2.2.1.2.1.length:Int)))) (cond ((decide (0≤s.1))&&(decide (s.1≤((a01 (wrap .i64 (s.1+2)):Nat):Int)))) ((b1T (a29 (a01 s.1) (a07 (a01 (wrap .i64 (s.1+2))) s.2.2.1.2.1))).bind fun y2=> (a0h a6o (s.1,(y2.length:Int),0,s.2.1,y2,s.2.2.1,())).bind fun w3=> some (.inl (wrap .i64 (w3.1+2),w3.2.1,w3.2.2.1,()))) none) none) (some (.inr (s.2.1,())))
def a7A(x:Z12):Option Z14:= (a5N x).bind fun y1=> cond (!y1) (some []) ((a0h a8J (0,[],x,())).bind fun w4=> some w4.1)
def c0z:FSem:=⟨[.v Q12],[.o Q10],a7A⟩
def H78:Hints:=⟨[(122,[.sv 4 QI,.own 3 3 Q10,.vp 1 Q12],[(.exit 0,[.own 3 3 Q10])]),(7826,[.sv 4 QI,.sv 25 QI,.sv 26 QI,.own 3 3 Q10,.own 24 1024 Q10,.vp 1 Q12],[(.exit 2,[.sv 4 QI,.own 3 3 Q10,.vp 1 Q12])])],[],[]⟩
def a5H(s:(Int×((List (List Int))×(Int×c9u)))):Option ((Int×((List (List Int))×(Int×c9u))) ⊕ (d2n ⊕ (Int×b8F))):= cond (decide (s.2.2.2.1<s.2.2.1)) ((a0m s.2.1 s.2.2.2.1).bind fun x8=> (a5G (x8,s.1)).bind fun y9=> cond (y9.2 != 0) (some (.inr (Sum.inr ((y9.2,(0,0,(0,0,0,()),[],[],()),()))))) (cond (lim ((a02 s.2.2.2.2.2.1.2.2.2.2.1)+1)) (some (.inl (s.1,s.2.1,s.2.2.1,wrap .i64 (s.2.2.2.1+1),s.2.2.2.2.1,(s.2.2.2.2.2.1.1,s.2.2.2.2.2.1.2.1,s.2.2.2.2.2.1.2.2.1,s.2.2.2.2.2.1.2.2.2.1,a04 s.2.2.2.2.2.1.2.2.2.2.1 ([y9.1]:List Z93),s.2.2.2.2.2.1.2.2.2.2.2),()))) none)) (some (.inr (Sum.inl (s.2.2.2.2.1,s.2.2.2.2.2.1,()))))
def a4T(x:(Z12×Z7×Int×Int)):Option (a6E×Int):= (show Option (Int×Int×Bool×a6E×Z12×Z7×Unit)from(a5N x.1).bind fun y1=> cond (!y1) (some (x.2.2.1,x.2.2.2,true,(0,0,(0,0,0,()),[],[],()),x.1,x.2.1,())) ((a6Z x.2.1).bind fun y2=> cond (!y2) (some (x.2.2.1,x.2.2.2,true,(0,0,(0,0,0,()),[],[],()),x.1,x.2.1,())) (cond (x.1.1 != x.2.1.2.2.1) (some (x.2.2.1,x.2.2.2,true,(0,0,(0,0,0,()),[],[],()),x.1,x.2.1,())) (cond ((x.1.2.1.length:Int) != x.2.1.2.1) (some (x.2.2.1,x.2.2.2,true,(0,0,(0,0,0,()),[],[],()),x.1,x.2.1,())) (cond (decide (x.2.2.2<0)) (some (x.2.2.1,x.2.2.2,true,(0,0,(0,0,0,()),[],[],()),x.1,x.2.1,())) (cond (decide (x.2.2.2 > 3)) (some (x.2.2.1,x.2.2.2,true,(0,0,(0,0,0,()),[],[],()),x.1,x.2.1,())) (some (x.2.2.1,x.2.2.2,decide (x.2.2.1<0),(0,0,(0,0,0,()),[],[],()),x.1,x.2.1,())))))))).bind fun z3=> cond z3.2.2.1 (some ((0,0,(0,0,0,()),[],[],()),1)) ((a3M z3.2.2.2.2.1).bind fun y4=> cond (decide (z3.1 > (wrap .i64 (4194304-y4)))) (some ((0,0,(0,0,0,()),[],[],()),4)) ((show Option (Int×a6E×a6E×Z28)from cond (decide (z3.2.1 > 0)) ((a7A z3.2.2.2.2.1).bind fun y5=> some (z3.2.1,z3.2.2.2.1,(z3.1,y4,z3.2.2.2.2.2.1,y5,[],()),z3.2.2.2.2.1,())) (some (z3.2.1,z3.2.2.2.1,(z3.1,y4,z3.2.2.2.2.2.1,[],[],()),z3.2.2.2.2.1,()))).bind fun z6=> (b2x (z6.2.2.2.1.2.1,z6.2.2.1.2.2.2.1)).bind fun y7=> cond (y7.2 != 0) (some ((0,0,(0,0,0,()),[],[],()),y7.2)) ((a0h a5H (z6.1,y7.1,(y7.1.length:Int),0,z6.2.1,z6.2.2.1,())).bind fun w10=> match w10 with |.inl a11=>some (a11.2.1,0) |.inr b12=>some (b12.2.1,b12.1))))
def b4j:FSem:=⟨[.v Q12,.v Q10,.v QI,.v QI],[.v Q51,.v QI],a4T⟩
def H30:Hints:=⟨[(2042,[.sv 3 QI,.sv 81 (.list false QL),.sv 82 QI,.sv 83 QI,.box 8 Q51,.box 10 Q50,.ptr 8 8 [],.ptr 10 10 []],[(.exit 0,[.box 8 Q51,.box 10 Q50,.ptr 8 8 [],.ptr 10 10 []]),(.ret,[.sv 9 QI,.box 8 Q51,.ptr 8 8 []])])],[(6,[(.normal,[.sv 2 QI,.sv 3 QI,.sv 51 .bool,.box 8 Q51,.vp 4 Q12,.vp 5 Q10,.ptr 8 8 []])]),(31,[(.normal,[.sv 3 QI,.box 8 Q51,.box 10 Q50,.vp 4 Q12,.ptr 8 8 [],.ptr 10 10 []])])],[(3,[.v,.v,.v,.v,.v,.q,.x])]⟩
def c2o(s:Z6):Option (Z6 ⊕ (Unit ⊕ (Int×Unit))):= cond (decide (s.2.1<(s.1.length:Int))) (cond ((decide (0≤s.2.1))&&(decide (s.2.1≤(s.1.length:Int)))) ((b4b (a29 (a01 s.2.1) (a07 (a02 s.1) s.1))).bind fun y1=> cond (y1.2.2==0) (some (.inr (Sum.inr ((s.2.1,()))))) (some (.inl (s.1,wrap .i64 (s.2.1+1),())))) none) (some (.inr (Sum.inl ())))
end Go.Ab
namespace Go.Ab
open IntKind(wrap)
open Go.Proofs
set_option maxRecDepth 100000
set_option linter.unusedVariables false
def b9c(x:((List Int)×Int)):Option Int:= (a0h c2o (x.1,a2m x.2 0,())).bind fun w2=> match w2 with |.inl a3=>some (-1) |.inr b4=>some b4.1
def b9d:FSem:=⟨[.v (.list false (.int .u8)),.v QI],[.v QI],b9c⟩
def H43:Hints:=⟨[(26,[.sv 0 (.list false (.int .u8)),.sv 5 QI],[(.exit 0,[]),(.ret,[.sv 4 QI])])],[],[]⟩
def b5K(x:Unit):Option Bool:= (a4T ((8,([[3,3],[3,3]]:List (List Int)),()),(8000,2,8,()),5,0)).bind fun y1=> (c0i y1.1).bind fun y2=> (b4b y2.1).bind fun y3=> (a4e y3.1).bind fun y4=> (b8P y2.1).bind fun y5=> cond (y1.2==0) (cond (y2.2==0) (cond (y3.2.2==0) (cond (y4.2==0) (cond (y5.2.2.2==0) (cond (y3.2.1==(y2.1.length:Int)) ((b4Q (y1.1,y3.1)).bind fun y6=> cond y6 ((a5x ((8,([[3,3],[3,3]]:List (List Int)),()),y4.1)).bind fun y7=> cond y7 (cond (eqT Q10 y5.1 ((8000: Int),(2: Int),(8: Int),())) (cond (y5.2.1==5) (cond (y5.2.2.1==2) (cond (lim (2+(a02 y2.1))) ((b9c (a04 [1,245] y2.1,0)).bind fun y8=> cond (y8==2) (cond (decide ((y2.1.length:Int) > 2)) ((a0m y2.1 0).bind fun x9=> cond (x9==245) ((a0m y2.1 1).bind fun x10=> some (x10==75)) (some false)) (some false)) (some false)) none) (some false)) (some false)) (some false)) (some false)) (some false)) (some false)) (some false)) (some false)) (some false)) (some false)) (some false)
def c0A:FSem:=⟨[],[.v .bool],b5K⟩
def H15:Hints:=⟨[],[],[]⟩
def a7m(s:Z56):Option (Z56 ⊕ Z0):= cond (decide (s.2.1<(s.2.2.1.2.1.length:Int))) ((a0m s.2.2.1.2.1 s.2.1).bind fun x1=> cond (decide ((x1.length:Int) > s.1)) (some (.inr (Sum.inr ((false,()))))) (some (.inl (s.1,wrap .i64 (s.2.1+1),s.2.2.1,())))) (some (.inr (Sum.inl ())))
def b3l(x:(Z12×Int)):Option Bool:= cond (decide ((x.1.2.1.length:Int) > 12)) (some false) ((a0h a7m (x.2,0,x.1,())).bind fun w2=> match w2 with |.inl a3=>some true |.inr b4=>some b4.1)
def c2p:FSem:=⟨[.v Q12,.v QI],[.v .bool],b3l⟩
def H29:Hints:=⟨[(58,[.sv 1 QI,.sv 5 QI,.vp 2 Q12],[(.exit 0,[]),(.ret,[.sv 4 .bool])])],[],[]⟩
def a6p(s:Z13):Option (Z13 ⊕ Z0):= cond (decide (s.2.1<(s.1.length:Int))) ((a0m s.1 s.2.1).bind fun x2=> (a0m s.1 0).bind fun x3=> cond ((x2.length:Int) != (x3.length:Int)) (some (.inr (Sum.inr ((false,()))))) (some (.inl (s.1,wrap .i64 (s.2.1+1),())))) (some (.inr (Sum.inl ())))
def b1U(x:(List (List Int))):Option Bool:= (show Option ((List (List Int))×(Bool×Unit))from cond (decide ((x.length:Int)<1)) (some (x,true,())) (some (x,decide ((x.length:Int) > 8),()))).bind fun z1=> cond z1.2.1 (some false) ((a0h a6p (z1.1,0,())).bind fun w4=> match w4 with |.inl a5=>some true |.inr b6=>some b6.1)
def c0B:FSem:=⟨[.v (.list false QL)],[.v .bool],b1U⟩
def H84:Hints:=⟨[(58,[.sv 0 (.list false QL),.sv 3 QI],[(.exit 0,[]),(.ret,[.sv 2 .bool])])],[(6,[(.normal,[.sv 0 (.list false QL),.sv 11 .bool])])],[(6,[.v,.v,.v,.v,.v,.v,.v,.v,.v,.x])]⟩
def c1e(x:Int):Option Int:= (show Option (Int×Bool×Unit)from cond (decide (x<1)) (some (x,true,())) (some (x,decide (x > 31),()))).bind fun z1=> cond z1.2.1 (some 0) (cond (decide ((wrap .u64 (wrap .i64 (z1.1-1)))<0)) none (some (a0z .i64 (-1) (wrap .u64 (wrap .i64 (z1.1-1))))))
def c6n:FSem:=⟨[.v QI],[.v QI],c1e⟩
def d9j:Hints:=⟨[],[(6,[(.normal,[.sv 0 QI,.sv 8 .bool])])],[]⟩
def b9e(x:Int):Option Int:= (show Option (Int×Bool×Unit)from cond (decide (x<1)) (some (x,true,())) (some (x,decide (x > 31),()))).bind fun z1=> cond z1.2.1 (some 0) (cond (decide ((wrap .u64 (wrap .i64 (z1.1-1)))<0)) none (some (wrap .i64 ((a0z .i64 1 (wrap .u64 (wrap .i64 (z1.1-1))))-1))))
def c4r:FSem:=⟨[.v QI],[.v QI],b9e⟩
def d9k:Hints:=⟨[],[(6,[(.normal,[.sv 0 QI,.sv 8 .bool])])],[]⟩
def b2y(x:(Int×Int)):Option Bool:= cond (decide (x.2≥1)) (cond (decide (x.2≤31)) ((c1e x.2).bind fun y1=> cond (decide (x.1≥y1)) ((b9e x.2).bind fun y2=> some (decide (x.1≤y2))) (some false)) (some false)) (some false)
def c4s:FSem:=⟨[.v QI,.v QI],[.v .bool],b2y⟩
def H85:Hints:=⟨[],[],[]⟩
def a3q(s:Z56):Option (Z56 ⊕ (Z46 ⊕ (Bool×Unit))):= (a0m s.2.2.1.2.1 s.1).bind fun x5=> cond (decide (s.2.1<(x5.length:Int))) ((a0m s.2.2.1.2.1 s.1).bind fun x6=> (a0m x6 s.2.1).bind fun x7=> (b2y (x7,s.2.2.1.1)).bind fun y8=> cond (!y8) (some (.inr (Sum.inr ((false,()))))) (some (.inl (s.1,wrap .i64 (s.2.1+1),s.2.2.1,())))) (some (.inr (Sum.inl (s.1,s.2.2.1,()))))
def a4n(s:Z46):Option (Z46 ⊕ Z0):= cond (decide (s.1<(s.2.1.2.1.length:Int))) ((a0h a3q (s.1,0,s.2.1,())).bind fun w9=> match w9 with |.inl a10=>some (.inl (wrap .i64 (a10.1+1),a10.2.1,())) |.inr b11=>some (.inr (Sum.inr ((b11.1,()))))) (some (.inr (Sum.inl ())))
def a8K(x:Z12):Option Bool:= (show Option Z48 from cond (decide (x.1<4)) (some (true,x,())) (cond (decide (x.1 > 24)) (some (true,x,())) ((b1U x.2.1).bind fun y1=> cond (!y1) (some (true,x,())) ((a0m x.2.1 0).bind fun x2=> cond (decide ((x2.length:Int)<1)) (some (true,x,())) ((a0m x.2.1 0).bind fun x3=> some (decide ((x3.length:Int) > 4096),x,())))))).bind fun z4=> cond z4.1 (some false) ((a0h a4n (0,z4.2.1,())).bind fun w12=> match w12 with |.inl a13=>some true |.inr b14=>some b14.1)
def b6q:FSem:=⟨[.v Q12],[.v .bool],a8K⟩
def H32:Hints:=⟨[(58,[.sv 3 QI,.vp 1 Q12],[(.exit 0,[]),(.ret,[.sv 2 .bool])]),(3730,[.sv 3 QI,.sv 4 QI,.vp 1 Q12],[(.exit 2,[.sv 3 QI,.vp 1 Q12]),(.ret,[.sv 2 .bool])])],[(6,[(.normal,[.sv 34 .bool,.vp 1 Q12])])],[(9,[.v,.v,.v,.v,.v,.v,.v,.v,.v,.v,.x,.x])]⟩
def a8L(s:((List (List Int))×(Int×Int×Z12×Z12×(Int×Int×Unit)×Unit))):Option (((List (List Int))×(Int×Int×Z12×Z12×(Int×Int×Unit)×Unit)) ⊕ (Z12×Z28)):= cond (decide (s.2.2.1<s.2.1)) ((a0m s.1 s.2.2.1).bind fun x4=> cond ((decide (0≤s.2.2.2.2.2.1.2.1))&&(decide (s.2.2.2.2.2.1.2.1≤(x4.length:Int)))) (cond ((decide (0≤s.2.2.2.2.2.1.1))&&(decide (s.2.2.2.2.2.1.1≤((a01 s.2.2.2.2.2.1.2.1:Nat):Int)))) ((a2K (a29 (a01 s.2.2.2.2.2.1.1) (a07 (a01 s.2.2.2.2.2.1.2.1) x4))).bind fun y5=> cond (lim ((a02 s.2.2.2.2.1.2.1)+1)) (some (.inl (s.1,s.2.1,wrap .i64 (s.2.2.1+1),s.2.2.2.1,(s.2.2.2.2.1.1,a04 s.2.2.2.2.1.2.1 ([y5]:List (List Int)),s.2.2.2.2.1.2.2),s.2.2.2.2.2.1,()))) none) none) none) (some (.inr (s.2.2.2.1,s.2.2.2.2.1,())))
def a9f(x:(Z12×Int×Int×Unit)):Option (Z12×Int):= (a5N x.1).bind fun y1=> cond (!y1) (some ((0,([]:(List (List Int))),()),1)) ((show Option (Bool×Z12×Z12×(Int×Int×Unit)×Unit)from cond (decide (x.2.1<0)) (some (true,(0,([]:(List (List Int))),()),x.1,x.2,())) (cond (decide (x.2.1≥x.2.2.1)) (some (true,(0,([]:(List (List Int))),()),x.1,x.2,())) ((a3M x.1).bind fun y2=> some (decide (x.2.2.1 > y2),(0,([]:(List (List Int))),()),x.1,x.2,())))).bind fun z3=> cond z3.1 (some ((0,([]:(List (List Int))),()),6)) ((a0h a8L (z3.2.2.1.2.1,(z3.2.2.1.2.1.length:Int),0,z3.2.1,(z3.2.2.1.1,([]:(List (List Int))),()),z3.2.2.2.1,())).bind fun w6=> some (w6.2.1,0)))
def c0C:FSem:=⟨[.v Q12,.v Q3],[.v Q12,.v QI],a9f⟩
def H37:Hints:=⟨[(250,[.sv 35 (.list false QL),.sv 36 QI,.sv 37 QI,.box 4 Q12,.box 6 (.pair QI Q5),.vp 3 Q3,.ptr 4 4 [],.ptr 6 6 []],[(.exit 0,[.box 4 Q12,.box 6 (.pair QI Q5),.ptr 4 4 [],.ptr 6 6 []])])],[(14,[(.normal,[.sv 29 .bool,.box 4 Q12,.vp 2 Q12,.vp 3 Q3,.ptr 4 4 []])])],[(3,[.x,.x,.x,.x,.v,.v,.v,.v,.x,.x,.x,.v,.v,.v,.v,.x,.x]),(9,[.q,.q,.v,.v,.v,.v,.v,.v,.v,.q,.x,.x,.x])]⟩
def b0F(x:(Z12×Int×Int×Int)):Option Bool:= (b5K ()).bind fun y1=> cond (!y1) (some false) ((show Option (Int×Int×Int×Z48)from(b3l (x.1,50)).bind fun y2=> cond (!y2) (some (x.2.1,x.2.2.1,x.2.2.2,true,x.1,())) ((a8K x.1).bind fun y3=> some (x.2.1,x.2.2.1,x.2.2.2,!y3,x.1,()))).bind fun z4=> cond z4.2.2.2.1 (some true) ((a3M z4.2.2.2.2.1).bind fun y5=> cond (y5==0) none (cond ((wrap .i64 (y5-(a08 (bits .i64 .and z4.2.1 65535) y5)))==0) none ((a9f (z4.2.2.2.2.1,a08 (bits .i64 .and z4.2.1 65535) y5,wrap .i64 ((wrap .i64 ((a08 (bits .i64 .and z4.2.1 65535) y5)+1))+(a08 (bits .i64 .and z4.2.2.1 65535) (wrap .i64 (y5-(a08 (bits .i64 .and z4.2.1 65535) y5))))),())).bind fun y6=> (a4T (y6.1,(44100,(z4.2.2.2.2.1.2.1.length:Int),z4.2.2.2.2.1.1,()),0,bits .i64 .and z4.1 3)).bind fun y7=> (a4T (z4.2.2.2.2.1,(44100,(z4.2.2.2.2.1.2.1.length:Int),z4.2.2.2.2.1.1,()),0,bits .i64 .and (a0A .i64 z4.1 2) 3)).bind fun y8=> (a4e y7.1).bind fun y9=> (a4e y8.1).bind fun y10=> (a9f (y10.1,a08 (bits .i64 .and z4.2.1 65535) y5,wrap .i64 ((wrap .i64 ((a08 (bits .i64 .and z4.2.1 65535) y5)+1))+(a08 (bits .i64 .and z4.2.2.1 65535) (wrap .i64 (y5-(a08 (bits .i64 .and z4.2.1 65535) y5))))),())).bind fun y11=> cond (y6.2==0) (cond (y7.2==0) (cond (y8.2==0) (cond (y9.2==0) (cond (y10.2==0) (cond (y11.2==0) ((a5x (y9.1,y11.1)).bind fun y12=> some y12) (some false)) (some false)) (some false)) (some false)) (some false)) (some false)))))
def b4T:FSem:=⟨[.v Q12,.v QI,.v QI,.v QI],[.v .bool],b0F⟩
def H12:Hints:=⟨[],[(14,[(.normal,[.sv 1 QI,.sv 2 QI,.sv 3 QI,.sv 34 .bool,.vp 4 Q12])])],[]⟩
end Go.Ab
namespace Go.Ab
open Go.Proofs
set_option maxRecDepth 100000
theorem b4U:Tryz.prog.follows .mixedOrders=true:=by kernel_rfl
theorem d9l:d3b Tryz.prog c5p=true:=by kernel_rfl
theorem d9m:d3c Tryz.prog c6j=true:=by kernel_rfl
theorem d9n:d3d Tryz.prog c5p c9v=true:=by kernel_rfl
theorem laidOut:laidOutB Tryz.prog=true:=by kernel_rfl
@[reducible] def Ok0(n:Nat)(s:FSem):Prop:=a3b Tryz.prog G0 n s∧b0d Tryz.prog n
theorem cxo{a:List (Nat×FSem)}{b:List (Nat×Ty)}{c d:List Nat}(h:∀p∈a,Ok0 p.1 p.2):CxOk Tryz.prog (b8G a b c d):=
 CxOk.of (CxTy.of (tab:=c5p) (l:=c9v) (q:=c6j) (fun _=>rfl) (fun _=>rfl) (fun _=>rfl) d9l d9m d9n) (fun _=>rfl) h
theorem fo (a : List (Nat × FSem)) (b : List (Nat × Ty)) (c d : List Nat) (H : Hints) {n : Nat} {fn : Func} {e : Code} {s : FSem} (h : ∀ p ∈ a, Ok0 p.1 p.2) (hf : Tryz.prog.funcs[n]? = some fn) (hb : fn.body = some e := by rfl) (hk : d2f fn e H s = true := by kernel_rfl) (hn : (fn.name == "runtime.NumGoroutine") = false := by kernel_rfl) (hq : ∀ x, b8e (b8G a b c d) H fn s.ps s.rs x = s.F x := by intro x; kernel_rfl) : Ok0 n s :=
 ⟨a3b.of (cxo h) b4U hf hb hk hq,⟨_,_,hf,hb,hn⟩⟩
theorem d3h:Ok0 109 b2H:=
 fo [] [] [0,2] [] d6Y a0 Tryz.func109
theorem d4Q:Ok0 77 b2I:=
 fo [(109,b2H)] [] [0,2] [1] H77 (a1 d3h a0) Tryz.func77
theorem c9x:Ok0 102 b3e:=
 fo [] [] [0,1,4] [] d6Z a0 Tryz.func102
theorem d4R:Ok0 44 b2J:=
 fo [(77,b2I),(102,b3e)] [] [0,2] [1] H44 (a1 d4Q (a1 c9x a0)) Tryz.func44
theorem d2p:Ok0 90 a9p:=
 fo [] [] [0,2,4] [] H90 a0 Tryz.func90
theorem c9y:Ok0 126 b0k:=
 fo [] [] [0,2] [] d7a a0 Tryz.func126
theorem c9z:Ok0 217 b0l:=
 fo [] [] [0,1,4,6] [] d7b a0 Tryz.func217
theorem c9A:Ok0 218 b3f:=
 fo [] [] [0,1,4,6] [3] d7c a0 Tryz.func218
theorem d3i:Ok0 281 b2K:=
 fo [] [] [0,2] [1] d7d a0 Tryz.func281
theorem c9B:Ok0 219 b1G:=
 fo [(281,b2K)] [] [0,2] [] d7e (a1 d3i a0) Tryz.func219
theorem c9C:Ok0 149 b4J:=
 fo [(217,b0l),(218,b3f),(219,b1G)] [] [0,1,2,6,8,11,27,41,62] [4] d7f (a1 c9z (a1 c9A (a1 c9B a0))) Tryz.func149
theorem c9D:Ok0 150 b0m:=
 fo [] [] [0,1,4,7,9,12,16] [2] d7g a0 Tryz.func150
theorem c6o:Ok0 87 a0V:=
 ⟨a3b.of (cx:=d4L) (cxo a0) b4U Tryz.func87 rfl (by kernel_rfl) d7h,⟨_,_,Tryz.func87,rfl,by kernel_rfl⟩⟩
theorem d3j:Ok0 87 a1A:=
 ⟨a3b.of (cx:=d3f) (cxo a0) b4U Tryz.func87 rfl (by kernel_rfl) d5u,⟨_,_,Tryz.func87,rfl,by kernel_rfl⟩⟩
theorem d4S:Ok0 229 a1b:=
 ⟨a3b.of (cx:=d1l) (cxo a0) b4U Tryz.func229 rfl (by kernel_rfl) d4M,⟨_,_,Tryz.func229,rfl,by kernel_rfl⟩⟩
theorem d3k:Ok0 169 b3T:=
 fo [(87,a1A),(229,a1b)] [] [0,1,9,11,13,15] [3] d7j (a1 d3j (a1 d4S a0)) Tryz.func169
theorem d5y:Ok0 188 b9X:=
 fo [(169,b3T)] [] [0,2] [1] d7k (a1 d3k a0) Tryz.func188
theorem c9E:Ok0 220 b1I:=
 fo [] [] [0,1,4] [] d7l a0 Tryz.func220
theorem c2q:Ok0 209 a5i:=
 fo [(220,b1I)] [] [0,1,2,6,7,8] [] d7m (a1 c9E a0) Tryz.func209
theorem d3l:Ok0 189 b5A:=
 fo [(209,a5i)] [] [0,1,2,6,7,9] [3] d7n (a1 c2q a0) Tryz.func189
theorem d5z:Ok0 103 b8H:=
 fo [(90,a9p),(126,b0k),(149,b4J),(150,b0m),(188,b9X),(189,b5A)] [] [0,1,4,5] [2] d7o (a1 d2p (a1 c9y (a1 c9C (a1 c9D (a1 d5y (a1 d3l a0)))))) Tryz.func103
theorem d3m:Ok0 251 b3U:=
 fo [] [] [0,2,4] [] d7p a0 Tryz.func251
theorem d5A:Ok0 294 b4L:=
 fo [] [] [0,1,3] [] d7q a0 Tryz.func294
theorem d5B:Ok0 252 b7A:=
 fo [(294,b4L)] [] [0,1,4,5,8,12,20,32] [] d7r (a1 d5A a0) Tryz.func252
theorem d5C:Ok0 190 b8I:=
 fo [(251,b3U),(252,b7A)] [] [0,1,2,6,7,8,10,11] [] d7s (a1 d3m (a1 d5B a0)) Tryz.func190
theorem c9F:Ok0 255 a9r:=
 fo [] [] [0,2] [] d7t a0 Tryz.func255
theorem c9G:Ok0 253 a6G:=
 fo [(255,a9r)] [] [0,2,4] [] d7u (a1 c9F a0) Tryz.func253
theorem d3n:Ok0 254 a9J:=
 fo [] [] [0,1,2,6,7,8,9,10] [] d7v a0 Tryz.func254
theorem d5D:Ok0 191 b7B:=
 fo [(217,b0l),(253,a6G),(254,a9J),(255,a9r)] [] [0,1,2,3,8,9,10,12,13] [] d7w (a1 c9z (a1 c9G (a1 d3n (a1 c9F a0)))) Tryz.func191
theorem c9H:Ok0 258 b1J:=
 fo [] [] [0,2] [] d7x a0 Tryz.func258
theorem c9I:Ok0 256 a8A:=
 fo [(258,b1J)] [] [0,2,4] [] d7y (a1 c9H a0) Tryz.func256
theorem d3o:Ok0 257 b1k:=
 fo [] [] [0,1,2,3,8,9,10,11,12] [7] d7z a0 Tryz.func257
theorem d5E:Ok0 192 b9Y:=
 fo [(218,b3f),(256,a8A),(257,b1k),(258,b1J)] [] [0,1,2,6,7,8,9,10,11] [5] d7A (a1 c9A (a1 c9I (a1 d3o (a1 c9H a0)))) Tryz.func192
theorem c9J:Ok0 263 b0p:=
 fo [] [] [0,2] [] d7B a0 Tryz.func263
theorem d3p:Ok0 259 b0q:=
 fo [(263,b0p)] [] [0,2,4] [] d7C (a1 c9J a0) Tryz.func259
theorem d3q:Ok0 261 b5B:=
 fo [(281,b2K)] [(15,.pair QI Q11),(16,.pair QI Q11)] [0,2,3] [1] d7D (a1 d3i a0) Tryz.func261
theorem d3r:Ok0 296 b0r:=
 fo [] [] [0,2] [] d7E a0 Tryz.func296
theorem c9K:Ok0 262 a4q:=
 fo [(296,b0r)] [] [0,2,3,4,5] [] d7F (a1 d3r a0) Tryz.func262
theorem d3s:Ok0 264 a7G:=
 fo [(262,a4q),(296,b0r)] [] [0,1,4,5,6,7,8,13,22] [] d7G (a1 c9K (a1 d3r a0)) Tryz.func264
theorem d5F:Ok0 193 a8b:=
 ⟨a3b.ofR (cx:=d3g) (cxo (a1 c6o (a1 c9B (a1 d3p (a1 d3q (a1 c9K (a1 c9J (a1 d3s a0)))))))) b4U (r:=d4N) ⟨d3Y,d3Z⟩ Tryz.func193 rfl (by kernel_rfl) d5w,⟨_,_,Tryz.func193,rfl,by kernel_rfl⟩⟩
theorem d3t:Ok0 173 b2L:=
 fo [] [] [0,2] [] d7I a0 Tryz.func173
theorem d5G:Ok0 194 b9Z:=
 fo [(173,b2L)] [] [0,1,4,5,6,8] [] d7J (a1 d3t a0) Tryz.func194
theorem d5H:Ok0 104 c2a:=
 fo [(190,b8I),(191,b7B),(192,b9Y),(193,a8b),(194,b9Z)] [] [0,1,4,5,6,7,10,24,28,40,54,79] [2] d7K (a1 d5C (a1 d5D (a1 d5E (a1 d5F (a1 d5G a0))))) Tryz.func104
theorem d4T:Ok0 45 b8J:=
 fo [(103,b8H),(104,c2a)] [] [0,1,4,5,6,7] [2] H45 (a1 d5z (a1 d5H a0)) Tryz.func45
theorem d3u:Ok0 195 b5C:=
 fo [] [] [0,2] [] d7L a0 Tryz.func195
theorem c9L:Ok0 105 b1L:=
 fo [(195,b5C)] [] [0,2,4,6] [] d7M (a1 d3u a0) Tryz.func105
theorem d3v:Ok0 106 b2M:=
 fo [(87,a0V)] [(15,.list true (.list true QI))] [0,2,3,5] [] d7N (a1 c6o a0) Tryz.func106
theorem d3w:Ok0 108 b3V:=
 fo [(195,b5C)] [] [0,1,2,6,7,8,9] [4] d7O (a1 d3u a0) Tryz.func108
theorem d9o:Ok0 46 a9b:=
 ⟨a3b.ofR (cx:=d4O) (cxo (a1 c9x (a1 c9L (a1 d3v (a1 d3w a0))))) b4U (r:=R46) ⟨d4a,d4b⟩ Tryz.func46 rfl (by kernel_rfl) d7P,⟨_,_,Tryz.func46,rfl,by kernel_rfl⟩⟩
theorem c9M:Ok0 35 a9c:=
 fo [] [] [0,2] [1] H35 a0 Tryz.func35
theorem d5I:Ok0 197 b8K:=
 fo [] [] [0,2] [] d7Q a0 Tryz.func197
theorem d5J:Ok0 198 b7C:=
 fo [] [] [0,2] [] d7R a0 Tryz.func198
theorem c9N:Ok0 110 a9s:=
 fo [(197,b8K),(198,b7C)] [] [0,1,4] [] d7S (a1 d5I (a1 d5J a0)) Tryz.func110
theorem c9O:Ok0 47 a9d:=
 fo [(35,a9c),(109,b2H),(110,a9s)] [] [0,2,4,6] [1] H47 (a1 c9M (a1 d3h (a1 c9N a0))) Tryz.func47
theorem d2q:Ok0 17 a9t:=
 fo [(44,b2J),(45,b8J),(46,a9b),(47,a9d)] [] [0,3,4,7,8,9,10] [1] H17 (a1 d4R (a1 d4T (a1 d9o (a1 c9O a0)))) Tryz.func17
theorem d4U:Ok0 21 b5E:=
 fo [(17,a9t)] [] [0,2,4] [1] H21 (a1 d2q a0) Tryz.func21
theorem d3x:Ok0 121 b8L:=
 fo [(45,b8J)] [] [0,1,4,5,6] [2] d7T (a1 d4T a0) Tryz.func121
theorem b7a:Ok0 122 a2S:=
 fo [(110,a9s)] [] [0,2,3,5] [] d7U (a1 c9N a0) Tryz.func122
theorem c9P:Ok0 128 a5V:=
 fo [] [] [0,1] [] d7V a0 Tryz.func128
theorem c2r:Ok0 123 a3p:=
 fo [(128,a5V)] [] [0,1,2,6,7] [] d7W (a1 c9P a0) Tryz.func123
theorem d3y:Ok0 124 b0t:=
 fo [(123,a3p)] [] [0,1,2] [] d7X (a1 c2r a0) Tryz.func124
theorem d5K:Ok0 125 b6f:=
 fo [(122,a2S),(123,a3p),(124,b0t)] [] [0,1,4,6] [3] d7Y (a1 b7a (a1 c2r (a1 d3y a0))) Tryz.func125
theorem d3z:Ok0 234 b2O:=
 fo [(220,b1I)] [] [0,1,2,6,8] [] d7Z (a1 c9E a0) Tryz.func234
theorem d3A:Ok0 272 b5F:=
 fo [(122,a2S)] [] [0,2] [] d8a (a1 b7a a0) Tryz.func272
theorem c9Q:Ok0 274 a6J:=
 fo [] [] [0,2] [] d8b a0 Tryz.func274
theorem c9R:Ok0 275 b1N:=
 fo [] [] [0,2] [] d8c a0 Tryz.func275
theorem d3B:Ok0 276 b5G:=
 fo [(275,b1N)] [] [0,2,3,7] [] d8d (a1 c9R a0) Tryz.func276
theorem d5L:Ok0 299 c0a:=
 fo [(274,a6J),(275,b1N),(276,b5G)] [] [0,1,4,5] [] d8e (a1 c9Q (a1 c9R (a1 d3B a0))) Tryz.func299
theorem c9S:Ok0 273 b3h:=
 fo [(299,c0a)] [] [0,1,4,5,7] [] d8f (a1 d5L a0) Tryz.func273
theorem d3C:Ok0 208 b3Y:=
 fo [(189,b5A),(209,a5i),(234,b2O),(272,b5F),(273,b3h)] [] [0,1,2,3,8,9,10,11,12] [4] d8g (a1 d3l (a1 c2q (a1 d3z (a1 d3A (a1 c9S a0))))) Tryz.func208
theorem d5M:Ok0 277 b0Q:=
 fo [(128,a5V)] [] [0,1,4] [] d8h (a1 c9P a0) Tryz.func277
theorem d5N:Ok0 210 c2b:=
 fo [(123,a3p),(274,a6J),(275,b1N),(276,b5G),(277,b0Q)] [] [0,1,2,6,8,10,11,12] [] d8i (a1 c2r (a1 c9Q (a1 c9R (a1 d3B (a1 d5M a0))))) Tryz.func210
theorem d5O:Ok0 127 c0b:=
 fo [(122,a2S),(123,a3p),(208,b3Y),(209,a5i),(210,c2b)] [] [0,1,2,3,4,10,11,12,13,14,16] [6] d8j (a1 b7a (a1 c2r (a1 d3C (a1 c2q (a1 d5N a0))))) Tryz.func127
theorem d4V:Ok0 51 b8M:=
 fo [(121,b8L),(122,a2S),(123,a3p),(124,b0t),(125,b6f),(126,b0k),(127,c0b)] [] [0,1,2,6,7,9,13,37,39,41,43] [4] H51 (a1 d3x (a1 b7a (a1 c2r (a1 d3y (a1 d5K (a1 c9y (a1 d5O a0))))))) Tryz.func51
theorem d9p:Ok0 52 b0S:=
 fo [(128,a5V)] [] [0] [] H52 (a1 c9P a0) Tryz.func52
theorem d9q:Ok0 53 b0U:=
 fo [] [] [0,2] [] H53 a0 Tryz.func53
theorem d5P:Ok0 129 c0d:=
 fo [] [] [0,2] [] d8k a0 Tryz.func129
theorem d5Q:Ok0 130 c0f:=
 fo [] [] [0,2,3,5] [] d8l a0 Tryz.func130
theorem d3D:Ok0 131 b4a:=
 fo [] [] [0,2,3,5,6] [] d8m a0 Tryz.func131
theorem d9r:Ok0 54 b4N:=
 fo [(129,c0d),(130,c0f),(131,b4a)] [] [0,1,4,5,8] [2] H54 (a1 d5P (a1 d5Q (a1 d3D a0))) Tryz.func54
theorem d5R:Ok0 211 b7E:=
 fo [] [] [0,2] [] d8n a0 Tryz.func211
theorem d5S:Ok0 132 b7G:=
 fo [(211,b7E)] [] [0,1,4,5] [] d8o (a1 d5R a0) Tryz.func132
theorem d5T:Ok0 133 a5T:=⟨d2j _,⟨_,_,Tryz.func133,rfl,by kernel_rfl⟩⟩
theorem d9s:Ok0 55 c0h:=
 fo [(132,b7G),(133,a5T)] [] [0,1,4,5] [] H55 (a1 d5S (a1 d5T a0)) Tryz.func55
theorem d4W:Ok0 56 b1m:=
 fo [] [] [0,2,3,5,6] [] H56 a0 Tryz.func56
theorem d9t:Ok0 19 c0j:=
 fo [(21,b5E),(51,b8M),(52,b0S),(53,b0U),(54,b4N),(55,c0h),(56,b1m)] [(4,.pair (.list true (.int .u8)) Q0)] [0,2,3,7,8,9] [1] H19 (a1 d4U (a1 d4V (a1 d9p (a1 d9q (a1 d9r (a1 d9s (a1 d4W a0))))))) Tryz.func19
theorem d2r:Ok0 88 a9v:=
 fo [] [] [0,1,4,5] [] H88 a0 Tryz.func88
theorem d9u:Ok0 64 b6g:=
 fo [(88,a9v)] [] [0,1,4,5] [] H64 (a1 d2r a0) Tryz.func64
theorem d4X:Ok0 23 b0x:=
 fo [(64,b6g)] [] [0,1,4] [2,3] H23 (a1 d9u a0) Tryz.func23
theorem d5U:Ok0 142 c0l:=
 fo [] [] [0,2] [] d8p a0 Tryz.func142
theorem d5V:Ok0 214 b6i:=
 fo [] [] [0,2,3,4,5,6,7] [] d8q a0 Tryz.func214
theorem d5W:Ok0 143 b2t:=
 fo [(214,b6i)] [] [0,1,4,5,6,7] [] d8r (a1 d5V a0) Tryz.func143
theorem d5X:Ok0 144 c0n:=
 fo [] [] [0,2,3] [] d8s a0 Tryz.func144
theorem d5Y:Ok0 145 b2v:=
 fo [] [] [0,2] [] d8t a0 Tryz.func145
theorem d5Z:Ok0 146 b0W:=
 fo [] [] [0,2] [] d8u a0 Tryz.func146
theorem d6a:Ok0 147 b2U:=
 fo [] [] [0,2] [] d8v a0 Tryz.func147
theorem d4Y:Ok0 65 b0z:=
 fo [(44,b2J),(131,b4a),(142,c0l),(143,b2t),(144,c0n),(145,b2v),(146,b0W),(147,b2U)] [(2,.pair QI Q46),(15,.pair QI Q45),(26,.pair QI Q45),(83,.pair QI Q45),(88,.pair QI Q45),(101,.pair QI Q45),(105,.pair QI Q45)] [0,3,4,5,6,7,8,9,10,11] [] H65 (a1 d4R (a1 d3D (a1 d5U (a1 d5W (a1 d5X (a1 d5Y (a1 d5Z (a1 d6a a0)))))))) Tryz.func65
theorem d9v:Ok0 66 c2f:=
 fo [] [] [0,2] [] H66 a0 Tryz.func66
theorem c3C:Ok0 70 a2q:=
 fo [] [] [0,2] [] H70 a0 Tryz.func70
theorem d4Z:Ok0 68 a8e:=
 fo [] [] [0,2] [] H68 a0 Tryz.func68
theorem c9T:Ok0 153 a5z:=
 fo [] [] [0,1,4] [] d8w a0 Tryz.func153
theorem b9D:Ok0 215 a2r:=
 fo [(68,a8e),(153,a5z)] [] [0,1,4,5] [] d8x (a1 d4Z (a1 c9T a0)) Tryz.func215
theorem c5q:Ok0 151 a3h:=
 fo [(215,a2r)] [] [0,1,4,5] [] d8y (a1 b9D a0) Tryz.func151
theorem d6b:Ok0 216 b6k:=
 fo [(122,a2S),(151,a3h),(215,a2r)] [] [0,1,4,5,6] [] d8z (a1 b7a (a1 c5q (a1 b9D a0))) Tryz.func216
theorem d6c:Ok0 148 b7I:=
 fo [(151,a3h),(215,a2r),(216,b6k)] [(2,.pair QI Q30)] [0,3,4,5,6,7,21,23,25,27] [] d8A (a1 c5q (a1 b9D (a1 d6b a0))) Tryz.func148
theorem d6d:Ok0 307 b0Y:=
 fo [(153,a5z)] [] [0,1,4,5,6] [] d8B (a1 c9T a0) Tryz.func307
theorem d6e:Ok0 308 b7J:=
 fo [] [] [0,2,3,6] [] d8C a0 Tryz.func308
theorem d6f:Ok0 300 c2h:=
 fo [(70,a2q),(215,a2r),(307,b0Y),(308,b7J)] [] [0,1,4,5,6,7,8] [] d8D (a1 c3C (a1 b9D (a1 d6d (a1 d6e a0)))) Tryz.func300
theorem d6g:Ok0 282 c2j:=
 fo [(70,a2q),(274,a6J),(300,c2h)] [] [0,1,2,6,7,8,9,10] [] d8E (a1 c3C (a1 c9Q (a1 d6f a0))) Tryz.func282
theorem d6h:Ok0 221 c0p:=
 fo [(70,a2q),(122,a2S),(151,a3h),(215,a2r),(282,c2j)] [] [0,1,4,5,6,7,8,9,10,11] [] d8F (a1 c3C (a1 b7a (a1 c5q (a1 b9D (a1 d6g a0))))) Tryz.func221
theorem d6i:Ok0 152 c0r:=
 fo [(70,a2q),(209,a5i),(215,a2r),(220,b1I),(221,c0p)] [(11,.pair QI Q1),(41,.pair QI Q1)] [0,1,2,7,8,9,10,12,14,15,16,17] [] d8G (a1 c3C (a1 c2q (a1 b9D (a1 c9E (a1 d6h a0))))) Tryz.func152
theorem d9w:Ok0 67 c4q:=
 fo [(70,a2q),(121,b8L),(122,a2S),(126,b0k),(148,b7I),(149,b4J),(150,b0m),(151,a3h),(152,c0r)] [(7,.pair QI (.pair QI (.pair QI (.pair QI (.pair QI (.pair QL (.pair (.arr 3 QI) (.pair (.list false Q3) Q16))))))))] [0,1,5,6,8,9,10,11,12] [] H67 (a1 c3C (a1 d3x (a1 b7a (a1 c9y (a1 d6c (a1 c9C (a1 c9D (a1 c5q (a1 d6i a0))))))))) Tryz.func67
theorem d9x:Ok0 69 b1a:=
 fo [(153,a5z)] [] [0,2,3] [] H69 (a1 c9T a0) Tryz.func69
theorem d5a:Ok0 24 b4c:=
 fo [(21,b5E),(56,b1m),(65,b0z),(66,c2f),(67,c4q),(68,a8e),(69,b1a),(70,a2q)] [(5,.pair QI Q47)] [0,3,4,6,7,8,9,10,12] [] H24 (a1 d4U (a1 d4W (a1 d4Y (a1 d9v (a1 d9w (a1 d4Z (a1 d9x (a1 c3C a0)))))))) Tryz.func24
theorem d9y:Ok0 26 b8Q:=
 fo [(65,b0z)] [] [0,3,4,5,7,8,9] [] H26 (a1 d4Y a0) Tryz.func26
theorem d6j:Ok0 100 b4e:=
 fo [] [] [0,1,4,5] [] d8H a0 Tryz.func100
theorem d6k:Ok0 101 b6m:=
 fo [(88,a9v)] [] [0,1,4] [2,3] d8I (a1 d2r a0) Tryz.func101
theorem d9z:Ok0 42 b7L:=
 fo [(88,a9v),(100,b4e),(101,b6m)] [] [0,1,4] [2,3] H42 (a1 d2r (a1 d6j (a1 d6k a0))) Tryz.func42
theorem d9A:Ok0 76 b4P:=
 fo [] [] [0,1,4,5] [] H76 a0 Tryz.func76
theorem d9B:Ok0 28 b4R:=
 fo [(42,b7L),(76,b4P)] [] [0,1,4,5] [2,3] H28 (a1 d9z (a1 d9A a0)) Tryz.func28
theorem d5b:Ok0 91 b2Q:=
 fo [(173,b2L)] [] [0,1,4,5,6,8] [] H91 (a1 d3t a0) Tryz.func91
theorem d6l:Ok0 174 a1g:=
 ⟨a3b.of (cx:=b0A) (cxo a0) b4U Tryz.func174 rfl (by kernel_rfl) d5x,⟨_,_,Tryz.func174,rfl,by kernel_rfl⟩⟩
theorem d5c:Ok0 92 b0B:=
 fo [(174,a1g)] [] [0,2,3,5] [] H92 (a1 d6l a0) Tryz.func92
theorem d3E:Ok0 230 b4g:=
 fo [(251,b3U)] [] [0,1,4,5,6,7] [] d8J (a1 d3m a0) Tryz.func230
theorem d6m:Ok0 231 b7M:=
 fo [(217,b0l),(253,a6G),(254,a9J),(255,a9r)] [] [0,1,2,6,7,8,9,10] [] d8K (a1 c9z (a1 c9G (a1 d3n (a1 c9F a0)))) Tryz.func231
theorem c9U:Ok0 232 b1P:=
 fo [(218,b3f),(256,a8A),(257,b1k),(258,b1J)] [] [0,1,2,6,7,8,9,10,11] [5] d8L (a1 c9A (a1 c9I (a1 d3o (a1 c9H a0)))) Tryz.func232
theorem d6n:Ok0 233 b8U:=
 fo [(87,a0V),(219,b1G),(259,b0q),(261,b5B),(262,a4q),(263,b0p),(264,a7G)] [] [0,1,4,5,6,9,10,11,12,13] [] d8M (a1 c6o (a1 c9B (a1 d3p (a1 d3q (a1 c9K (a1 c9J (a1 d3s a0))))))) Tryz.func233
theorem d6o:Ok0 170 c0t:=
 fo [(87,a0V),(150,b0m),(230,b4g),(231,b7M),(232,b1P),(233,b8U)] [] [0,1,4,5,6,11,22,37,67] [] d8N (a1 c6o (a1 c9D (a1 d3E (a1 d6m (a1 c9U (a1 d6n a0)))))) Tryz.func170
theorem d6p:Ok0 284 c0u:=
 fo [(273,b3h)] [] [0,2,3,4,5,6] [] d8O (a1 c9S a0) Tryz.func284
theorem d6q:Ok0 235 b6n:=
 fo [(272,b5F),(273,b3h),(284,c0u)] [] [0,2,3] [] d8P (a1 d3A (a1 c9S (a1 d6p a0))) Tryz.func235
theorem d6r:Ok0 171 b8V:=
 fo [(208,b3Y),(209,a5i),(234,b2O),(235,b6n)] [(14,.pair QI Q1),(40,.pair QI Q1)] [0,1,2,3,9,11,12,13,15,17,18] [] d8Q (a1 d3C (a1 c2q (a1 d3z (a1 d6q a0)))) Tryz.func171
theorem d9C:Ok0 86 c2l:=
 fo [(90,a9p),(91,b2Q),(92,b0B),(149,b4J),(169,b3T),(170,c0t),(171,b8V)] [] [0,1,2,7,8,11,12,13] [5] H86 (a1 d2p (a1 d5b (a1 d5c (a1 c9C (a1 d3k (a1 d6o (a1 d6r a0))))))) Tryz.func86
theorem d6s:Ok0 172 b2V:=
 fo [] [] [0,2] [] d8R a0 Tryz.func172
theorem d9D:Ok0 89 c2m:=
 fo [(51,b8M),(172,b2V)] [(5,.pair (.list true (.int .u8)) Q0)] [0,1,4] [2] H89 (a1 d4V (a1 d6s a0)) Tryz.func89
theorem d6t:Ok0 236 b7N:=
 fo [] [] [0,1,4,5,6,7] [] d8S a0 Tryz.func236
theorem d6u:Ok0 175 b8W:=
 fo [(230,b4g),(236,b7N)] [] [0,2,3,4,5,6,7,8] [] d8T (a1 d3E (a1 d6t a0)) Tryz.func175
theorem d3F:Ok0 287 b1n:=
 fo [] [] [0,2] [] d8U a0 Tryz.func287
theorem d6v:Ok0 285 b4S:=
 fo [(287,b1n)] [] [0,2,3,5,6,7,8] [] d8V (a1 d3F a0) Tryz.func285
theorem d6w:Ok0 286 b1b:=
 fo [] [] [0,1,2,6,7,8,9,10] [] d8W a0 Tryz.func286
theorem d6x:Ok0 237 b4h:=
 fo [(87,a0V),(253,a6G),(285,b4S),(286,b1b),(287,b1n)] [] [0,1,4,5,6,7,8,9,10,11,12,13] [] d8X (a1 c6o (a1 c9G (a1 d6v (a1 d6w (a1 d3F a0))))) Tryz.func237
theorem d6y:Ok0 238 b6o:=
 fo [] [] [0,2,3,5,6,7,8,9,10,11] [] d8Y a0 Tryz.func238
theorem d6z:Ok0 239 b6p:=
 fo [(110,a9s)] [] [0,1,4,5,6,8,9,10,11,13,14] [] d8Z (a1 c9N a0) Tryz.func239
theorem d3G:Ok0 177 b2R:=
 fo [(237,b4h),(238,b6o),(239,b6p)] [] [0,1,2,6,7,8,9,10,11] [] d9a (a1 d6x (a1 d6y (a1 d6z a0))) Tryz.func177
theorem d6A:Ok0 240 c0v:=
 fo [(256,a8A)] [] [0,1,2,6,7,8,9,10,11,12,13] [] d9b (a1 c9I a0) Tryz.func240
theorem d6B:Ok0 288 b8Y:=
 fo [] [] [0] [] d9c a0 Tryz.func288
theorem d6C:Ok0 241 c0x:=
 fo [(232,b1P),(288,b8Y)] [] [0,1,5,7,8,11,12,13,15] [] d9d (a1 c9U (a1 d6B a0)) Tryz.func241
theorem d6D:Ok0 178 b8Z:=
 fo [(177,b2R),(232,b1P),(240,c0v),(241,c0x)] [] [0,3,4,5,7,8,9] [] d9e (a1 d3G (a1 c9U (a1 d6A (a1 d6C a0)))) Tryz.func178
theorem d6E:Ok0 176 b2w:=
 fo [(177,b2R)] [] [0,1,2,3,6,7,8] [] d9f (a1 d3G a0) Tryz.func176
theorem d9E:Ok0 93 b4i:=
 fo [(175,b8W),(176,b2w),(178,b8Z)] [(5,.list true Q33)] [0,1,4,6,8,9] [67] H93 (a1 d6u (a1 d6E (a1 d6D a0))) Tryz.func93
theorem d9F:Ok0 40 c2n:=
 fo [(86,c2l),(89,c2m),(90,a9p),(91,b2Q),(92,b0B),(93,b4i)] [] [0,1,5,6,7,9,10,14,15] [] H40 (a1 d9C (a1 d9D (a1 d2p (a1 d5b (a1 d5c (a1 d9E a0)))))) Tryz.func40
theorem d5d:Ok0 79 b9a:=
 fo [(102,b3e),(105,b1L),(106,b2M),(108,b3V)] [] [0,1,4,5,6] [] H79 (a1 c9x (a1 c9L (a1 d3v (a1 d3w a0)))) Tryz.func79
theorem d6F:Ok0 226 b7O:=
 fo [(105,b1L)] [] [0,2,3,5,6,7] [] d9g (a1 c9L a0) Tryz.func226
theorem d6G:Ok0 227 b9b:=
 fo [] [] [0,2,4,8,12,17] [] d9h a0 Tryz.func227
theorem d6H:Ok0 164 c0y:=
 fo [(79,b9a),(226,b7O),(227,b9b)] [] [0,2,3,4,5,6,7,8] [] d9i (a1 d5d (a1 d6F (a1 d6G a0))) Tryz.func164
theorem d9G:Ok0 78 c0z:=
 fo [(47,a9d),(164,c0y)] [] [0,2,3,4] [1] H78 (a1 c9O (a1 d6H a0)) Tryz.func78
theorem d5e:Ok0 30 b4j:=
 fo [(35,a9c),(40,c2n),(47,a9d),(77,b2I),(78,c0z),(79,b9a)] [(10,.pair QI Q47),(52,.pair QI Q45),(57,.pair QI Q45),(63,.pair QI Q45),(79,.pair QI Q45),(95,.pair QI Q45)] [0,1,2,3,9,11,12,14,16] [4,5] H30 (a1 c9M (a1 d9F (a1 c9O (a1 d4Q (a1 d9G (a1 d5d a0)))))) Tryz.func30
theorem d9H:Ok0 43 b9d:=
 fo [(24,b4c)] [] [0,1,4,5,7,8] [] H43 (a1 d5a a0) Tryz.func43
theorem d9I:Ok0 15 c0A:=
 fo [(17,a9t),(19,c0j),(23,b0x),(24,b4c),(26,b8Q),(28,b4R),(30,b4j),(43,b9d)] [] [0,4,5,6,8,9,11,13,14,15] [] H15 (a1 d2q (a1 d9t (a1 d4X (a1 d5a (a1 d9y (a1 d9B (a1 d5e (a1 d9H a0)))))))) Tryz.func15
theorem d9J:Ok0 29 c2p:=
 fo [] [] [0,1,4,5] [2] H29 a0 Tryz.func29
theorem d9K:Ok0 84 c0B:=
 fo [] [] [0,2,3] [] H84 a0 Tryz.func84
theorem d6I:Ok0 167 c6n:=
 fo [] [] [0,2] [] d9j a0 Tryz.func167
theorem d6J:Ok0 168 c4r:=
 fo [] [] [0,2] [] d9k a0 Tryz.func168
theorem d9L:Ok0 85 c4s:=
 fo [(167,c6n),(168,c4r)] [] [0,1,4] [] H85 (a1 d6I (a1 d6J a0)) Tryz.func85
theorem d9M:Ok0 32 b6q:=
 fo [(84,c0B),(85,c4s)] [] [0,2,3,4] [1] H32 (a1 d9K (a1 d9L a0)) Tryz.func32
theorem d9N:Ok0 37 c0C:=
 fo [(35,a9c),(47,a9d),(87,a1A)] [(6,.pair QI Q5),(12,.pair QI Q4),(30,.pair QI Q4),(33,.pair QI Q4)] [0,1,5,8] [2,3] H37 (a1 c9M (a1 c9O (a1 d3j a0))) Tryz.func37
theorem d9O:Ok0 12 b4T:=
 fo [(15,c0A),(17,a9t),(23,b0x),(29,c2p),(30,b4j),(32,b6q),(35,a9c),(37,c0C)] [] [0,1,2,3,8,10,11,14,16,18,20,22,24] [4] H12 (a1 d9I (a1 d2q (a1 d4X (a1 d9J (a1 d5e (a1 d9M (a1 c9M (a1 d9N a0)))))))) Tryz.func12
end Go.Ab
namespace Go.Ab
open IntKind(wrap)
section
variable {σ β:Type} {f:σ→Option (σ ⊕ β)}
theorem b7b:∀(n m:Nat)(s:σ){b:β},a2H f n s=some b→a2H f (n+m) s=some b
 |0,_,s,b,h=>by simp[a2H]at h
 |n+1,m,s,b,h=>by
  rw[show n+1+m=n+m+1 from by omega];simp only[a2H]at h⊢
  split at h
  cases h;rename_i s' hs;exact b7b n m s' h;exact h
theorem c4t{n m:Nat}{s:σ}{b b':β}(h:a2H f n s=some b)(h':a2H f m s=some b'):b=b':=by
 have h1:=b7b n m s h;have h2:=b7b m n s h';rw[Nat.add_comm,h1]at h2;exact Option.some.inj h2
theorem d2s{n:Nat}{s:σ}{b:β}(h:a2H f n s=some b):b6I f s=some b:=by
 unfold b6I;have hx:∃n b,a2H f n s=some b:=⟨n,b,h⟩;rw[dif_pos hx];exact congrArg some (c4t hx.choose_spec.choose_spec h)
theorem c3D{n:Nat}{s:σ}{b:β}(h:a2H f n s=some b):a0h f s=some b:=by
 unfold a0h;split;rename_i b' hb;rw[c4t hb h];exact d2s h
theorem c4u{s:σ}(h:∀n,a2H f n s=none):a0h f s=none:=by
 unfold a0h;rw[h 400];show b6I f s=none;unfold b6I;rw[dif_neg]
 rintro⟨n,b,hn⟩
 rw[h n]at hn;cases hn
theorem a0q{s:σ}{b:β}(h:f s=some (.inr b)):a0h f s=some b:=c3D (n:=1) (by simp[a2H,h])
theorem a0x{s s':σ}(h:f s=some (.inl s')):a0h f s=a0h f s':=by
 by_cases hx:∃n b,a2H f n s'=some b
 obtain⟨n,b,hb⟩:=hx;rw[c3D hb];exact c3D (n:=n+1) (by simp[a2H,h,hb])
 ·have h':∀n,a2H f n s'=none:=fun n=>by
   cases hn:a2H f n s' with
   |none=>rfl
   |some b=>exact absurd ⟨n,b,hn⟩ hx
  rw[c4u h'];refine c4u fun n=>?_
  cases n with
  |zero=>rfl
  |succ n=>simp[a2H,h,h' n]
theorem c8p(S:Nat→σ)(n:Nat){b:β}(hstep:∀i,i<n→f (S i)=some (.inl (S (i+1))))(hexit:f (S n)=some (.inr b)):∀(k:Nat),k≤n→a0h f (S (n-k))=some b
 |0,_=>a0q hexit
 |k+1,hk=>by
  rw[a0x (hstep (n-(k+1)) (by omega)),show n-(k+1)+1=n-k from by omega];exact c8p S n hstep hexit k (by omega)
theorem a3R(S:Nat→σ)(n:Nat){b:β}(hstep:∀i,i<n→f (S i)=some (.inl (S (i+1))))(hexit:f (S n)=some (.inr b)):a0h f (S 0)=some b:=by
 have:=c8p S n hstep hexit n (a41 _)
 rwa [a39]at this
end
theorem a0n{n:Int}(h:-9223372036854775808≤n∧n≤9223372036854775807):wrap .i64 n=n:=by
 simp only[wrap,IntKind.bits,IntKind.signed]
 simp
 split<;>omega
theorem a5m{n:Int}(h:0≤n∧n<18446744073709551616):wrap .u64 n=n:=by
 simp only[wrap,IntKind.bits,IntKind.signed]
 simp
 omega
theorem c8q(x y:Int):a3u x y=min x y:=by
 simp only[a3u,cond_eq_ite,dT]
 split<;>omega
theorem d4j(x y:Int):a2m x y=max x y:=by
 simp only[a2m,cond_eq_ite,dT]
 split<;>omega
theorem a9g{n:Nat}(h:n<2147483648):lim n=true:=by simp[lim,h]
end Go.Ab
namespace Go.Ab
open IntKind(wrap)
section
variable {α A σ β:Type}
def a3k(g:A→α→A ⊕ β):List α→A→A ⊕ β
 | [],a=>.inl a
 |x::r,a=>match g a x with
  |.inl a'=>a3k g r a'
  |.inr b=>.inr b
def a9K(fin:A→β):A ⊕ β→β
 |.inl a=>fin a
 |.inr b=>b
theorem b6r{f:σ→Option (σ ⊕ β)}(l:List α)(S:Nat→A→σ)(g:A→α→A ⊕ β)(I:Nat→A→Prop)(fin:A→β)
  (hstep:∀i (h:i<l.length) a,I i a→(∀a',g a l[i]=.inl a'→f (S i a)=some (.inl (S (i+1) a'))∧I (i+1) a')∧(∀b,g a l[i]=.inr b→f (S i a)=some (.inr b)))
  (hexit:∀a,I l.length a→f (S l.length a)=some (.inr (fin a))):∀(k i:Nat)(a:A),i+k=l.length→I i a→a0h f (S i a)=some (a9K fin (a3k g (l.drop i) a))
 |0,i,a,hi,ha=>by
  obtain rfl:i=l.length:=by omega
  rw[a33];exact a0q (hexit a ha)
 |k+1,i,a,hi,ha=>by
  have hlt:i<l.length:=by omega
  rw[a06 hlt];obtain⟨h1,h2⟩:=hstep i hlt a ha;simp only[a3k];cases hg:g a l[i]with
  |inl a'=>
   obtain⟨h3,h4⟩:=h1 a' hg;rw[a0x h3];exact b6r l S g I fin hstep hexit k (i+1) a' (by omega) h4
  |inr b=>exact a0q (h2 b hg)
theorem a3t{f:σ→Option (σ ⊕ β)}(l:List α)(S:Nat→A→σ)(g:A→α→A ⊕ β)(I:Nat→A→Prop)(fin:A→β)
  (hstep:∀i (h:i<l.length) a,I i a→(∀a',g a l[i]=.inl a'→f (S i a)=some (.inl (S (i+1) a'))∧I (i+1) a')∧(∀b,g a l[i]=.inr b→f (S i a)=some (.inr b)))
  (hexit:∀a,I l.length a→f (S l.length a)=some (.inr (fin a))){a:A}(ha:I 0 a):a0h f (S 0 a)=some (a9K fin (a3k g l a)):=by
 have:=b6r l S g I fin hstep hexit l.length 0 a (by omega) ha
 rwa [a32]at this
theorem a1E{f:σ→Option (σ ⊕ β)}(l:List α)(S:Nat→σ)(p:α→Bool){bt bf:β}
  (hgood:∀i (h:i<l.length),p l[i]=true→f (S i)=some (.inl (S (i+1))))(hbad:∀i (h:i<l.length),p l[i]=false→f (S i)=some (.inr bf))
  (hexit:f (S l.length)=some (.inr bt)):a0h f (S 0)=some (bif l.all p then bt else bf):=by
 have h:=a3t (A:=Unit) l (fun i _=>S i) (fun _ x=>bif p x then .inl ()else .inr bf) (fun _ _=>True) (fun _=>bt) (fun i h a _=>?_) (fun _ _=>hexit) (a:=()) trivial
 ·rw[h];congr 1;clear h hgood hbad hexit
  induction l with
  |nil=>rfl
  |cons x l ih=>
   simp only[a3k,a43];cases p x with
   |true=>simpa using ih
   |false=>rfl
 ·cases hp:p l[i]with
  |true=>exact⟨fun a' _=>⟨hgood i h hp,trivial⟩,fun b hb=>by simp[hp]at hb⟩
  |false=>exact⟨fun a' ha=>by simp[hp]at ha,fun b hb=>by simp[hp]at hb;rw[←hb];exact hbad i h hp⟩
end
theorem a0c{α:Type}{l:List α}{i:Nat}(h:i<l.length):a0m l (i:Int)=some l[i]:=by
 unfold a0m;rw[if_pos (Int.natCast_nonneg i),tN,lG h]
def a0b(x:Int):Bool:=decide (-1073741824≤x)&&decide (x<1073741824)
theorem a2z{x:Int}:a0b x=true↔-1073741824≤x∧x<1073741824:=by simp[a0b]
def short{α:Type}(l:List α):Prop:=l.length<1000000
theorem a0f{i:Nat}(h:i<1000000):wrap .i64 ((i:Int)+1)=((i+1:Nat):Int):=by
 rw[a0n (by omega)];omega
theorem dlt{i n:Nat}(h:i<n):decide ((i:Int)<(n:Int))=true:=by simp;omega
theorem dge(n:Nat):decide ((n:Int)<(n:Int))=false:=by simp
theorem a4I{l:List Int}(hl:short l):a2j l=some (l.all a0b):=by
 unfold a2j
 have:=a1E (f:=a2O) l (fun i=>(l,(l.length:Int),(i:Int),())) a0b (bt:=Sum.inl ()) (bf:=Sum.inr (false,()))
  (fun i h hp=>by
   have hp:=a2z.1 hp;have h1:decide (l[i] < -1073741824)=false:=by simp;omega
   have h2:decide (l[i]≥1073741824)=false:=by simp;omega
   simp only[a2O,dlt h,cT,a0c h,oB,h1,h2,cF,a0f (a25 h hl)])
  (fun i h hp=>by
   simp only[a2O,dlt h,cT,a0c h,oB]
   by_cases h1:l[i] < -1073741824
   simp[h1];have h2:l[i]≥1073741824:=by
    simp only[a0b,a37,decide_eq_false_iff_not]at hp;omega
   simp[h1,h2])
  (by simp[a2O])
 simp only[nZ]at this;rw[this];cases l.all a0b<;>rfl
end Go.Ab
namespace Go.Ab
theorem a6q(x:Int):a5j x=some (a0b x):=by
 unfold a5j a0b
 by_cases h:-1073741824≤x<;>simp[h]
theorem a8g(x:Int):a7v x=some (a0b x):=by
 unfold a7v a0b
 by_cases h:-1073741824≤x<;>simp[h]
theorem a5n(x:Int):a6j x=some (a0b x):=by
 unfold a6j a0b
 by_cases h:-1073741824≤x<;>simp[h]
theorem b6s(x:Int):a5k x=some (a0b x):=by
 unfold a5k a0b
 by_cases h:-1073741824≤x<;>simp[h]
theorem a5Z{l:List Int}(hl:short l):a2P l=some (l.all a0b):=by
 unfold a2P
 have:=a1E (f:=a3A) l (fun i=>(l,(l.length:Int),(i:Int),())) a0b (bt:=Sum.inl ()) (bf:=Sum.inr (false,()))
  (fun i h hp=>by simp[a3A,a0c h,a6q,hp,a0f (a25 h hl),h])
  (fun i h hp=>by simp[a3A,a0c h,a6q,hp,h])
  (by simp[a3A])
 simp only[nZ]at this;rw[this];cases l.all a0b<;>rfl
theorem b4V{l:List Int}(hl:short l):a4B l=some (l.all a0b):=by
 unfold a4B
 have:=a1E (f:=a4k) l (fun i=>(l,(l.length:Int),(i:Int),())) a0b (bt:=Sum.inl ()) (bf:=Sum.inr (false,()))
  (fun i h hp=>by simp[a4k,a0c h,a8g,hp,a0f (a25 h hl),h])
  (fun i h hp=>by simp[a4k,a0c h,a8g,hp,h])
  (by simp[a4k])
 simp only[nZ]at this;rw[this];cases l.all a0b<;>rfl
theorem b4k{l:List Int}(hl:short l):a5u l=some (l.all a0b):=by
 unfold a5u
 have:=a1E (f:=a3U) l (fun i=>(l,(l.length:Int),(i:Int),())) a0b (bt:=Sum.inl ()) (bf:=Sum.inr (false,()))
  (fun i h hp=>by simp[a3U,a0c h,a5n,hp,a0f (a25 h hl),h])
  (fun i h hp=>by simp[a3U,a0c h,a5n,hp,h])
  (by simp[a3U])
 simp only[nZ]at this;rw[this];cases l.all a0b<;>rfl
theorem a7n{l:List Int}(hl:short l):a2E l=some (l.all a0b):=by
 have e:b4K=a2O:=rfl
 have:a2E l=a2j l:=by unfold a2E a2j;rw[e]
 rw[this,a4I hl]
def c2s(x:Int):Bool:=decide (-32768≤x)&&decide (x<32768)
def b2S(c:List Int)(s:Int):Bool:=decide (1≤c.length)&&(decide (c.length≤32)&&(decide (0≤s)&&(decide (s≤15)&&c.all c2s)))
theorem a9x{c:List Int}{s:Int}(hl:short c):a4L (c,s)=some (b2S c s):=by
 have:=a1E (f:=a3X) c (fun i=>(c,(c.length:Int),(i:Int),())) c2s (bt:=Sum.inl ()) (bf:=Sum.inr (false,()))
  (fun i h hp=>by
   simp only[c2s,bA,dT]at hp;have h1:¬ c[i] < -32768:=by omega
   have h2:¬ c[i]≥32768:=by omega
   simp[a3X,a0c h,a0f (a25 h hl),h,h1,h2])
  (fun i h hp=>by
   simp only[c2s,a37,decide_eq_false_iff_not]at hp
   by_cases h1:c[i] < -32768
   simp[a3X,a0c h,h,h1];have h2:c[i]≥32768:=by omega
   simp[a3X,a0c h,h,h1,h2])
  (by simp[a3X])
 simp only[nZ]at this;unfold a4L b2S
 by_cases h1:c.length<1
 have:((c.length:Nat):Int)<1:=by omega
 have:¬ 1≤c.length:=by omega
 simp[*]
 by_cases h2:c.length > 32
 have:((c.length:Nat):Int) > 32:=by omega
 have:¬ ((c.length:Nat):Int)<1:=by omega
 have:¬ c.length≤32:=by omega
 simp[*]
 by_cases h3:s<0
 have:¬ ((c.length:Nat):Int) > 32:=by omega
 have:¬ ((c.length:Nat):Int)<1:=by omega
 have:¬ 0≤s:=by omega
 simp[*]
 by_cases h4:s > 15
 have:¬ ((c.length:Nat):Int) > 32:=by omega
 have:¬ ((c.length:Nat):Int)<1:=by omega
 have:¬ s≤15:=by omega
 simp[*];have g1:¬ ((c.length:Nat):Int) > 32:=by omega
 have g2:¬ ((c.length:Nat):Int)<1:=by omega
 simp only[g1,g2,h3,h4,decide_false,cF,oB,this];have g3:1≤c.length:=by omega
 have g4:c.length≤32:=by omega
 have g5:0≤s:=by omega
 have g6:s≤15:=by omega
 simp only[g3,g4,g5,g6,decide_true,a18];cases c.all c2s<;>rfl
def c6p(x:Int):Bool:=decide (-64≤x)&&decide (x≤64)
def b4W(lag:Int)(t:List Int):Bool:=decide (2≤lag)&&(decide (lag≤1024)&&t.all c6p)
theorem b5L{t:List Int}{lag:Int}(ht:t.length=3):a8z (lag,t)=some (b4W lag t):=by
 have:=a1E (f:=a5h) t (fun i=>(t,(i:Int),())) c6p (bt:=Sum.inl ()) (bf:=Sum.inr (false,()))
  (fun i h hp=>by
   simp only[c6p,bA,dT]at hp;have h0:(i:Int)<3:=by omega
   have h1:¬ t[i] < -64:=by omega
   have h2:¬ t[i] > 64:=by omega
   simp[a5h,a0c h,a0f (show i<1000000 by omega),h0,h1,h2])
  (fun i h hp=>by
   simp only[c6p,a37,decide_eq_false_iff_not]at hp;have h0:(i:Int)<3:=by omega
   by_cases h1:t[i] < -64
   simp[a5h,a0c h,h0,h1];have h2:t[i] > 64:=by omega
   simp[a5h,a0c h,h0,h1,h2])
  (by rw[ht];simp[a5h])
 simp only[nZ]at this;unfold a8z b4W
 by_cases h1:lag<2
 have:¬ 2≤lag:=by omega
 simp[*]
 by_cases h2:lag > 1024
 have:¬ lag≤1024:=by omega
 simp[*];have g1:2≤lag:=by omega
 have g2:lag≤1024:=by omega
 simp only[h1,h2,g1,g2,decide_false,decide_true,cF,oB,this,a18];cases t.all c6p<;>rfl
def a7o(s:Int×(Int×Unit)):Bool:=decide (1≤s.1)&&(decide (s.1≤32)&&(decide (0≤s.2.1)&&decide (s.2.1≤8)))
def b2z(l:List (Int×Int×Unit)):Bool:=decide (l.length≤3)&&l.all a7o
theorem b1o(s:Int×(Int×Unit)):a7c s=some (a7o s):=by
 unfold a7c a7o
 by_cases h1:1≤s.1<;>by_cases h2:s.1≤32<;>by_cases h3:0≤s.2.1<;>simp[h1,h2,h3]
theorem b4l{l:List (Int×Int×Unit)}(hl:short l):a7t l=some (b2z l):=by
 have:=a1E (f:=a6g) l (fun i=>(l,(l.length:Int),(i:Int),())) a7o (bt:=Sum.inl ()) (bf:=Sum.inr (false,()))
  (fun i h hp=>by simp[a6g,a0c h,b1o,hp,a0f (a25 h hl),h])
  (fun i h hp=>by simp[a6g,a0c h,b1o,hp,h])
  (by simp[a6g])
 simp only[nZ]at this;unfold a7t b2z
 by_cases h:l.length≤3
 have g:¬ ((l.length:Nat):Int) > 3:=by omega
 simp only[g,h,decide_false,decide_true,cF,this,oB,a18];cases l.all a7o<;>rfl;have g:((l.length:Nat):Int) > 3:=by omega
 simp[g,h]
end Go.Ab
namespace Go.Ab
open IntKind(wrap)
@[reducible] def W(n:Int):Int:=wrap .i64 n
theorem a8h(n:Int):wrap .i64 n=Int.bmod n 18446744073709551616:=by
 simp only[wrap,IntKind.bits,IntKind.signed,Int.bmod]
 simp
 split<;>split<;>omega
theorem b9f{n:Int}(h:a0b n=true):W n=n:=by
 have:=a2z.1 h
 exact a0n (by omega)
def a4s(guess:List Int→Int):List Int→List Int→Option (List Int)
 | [],out=>some out
 |x::r,out=>bif a0b (W (x+guess out))then a4s guess r (out++[W (x+guess out)])else none
def b4X{β:Type}(guess:List Int→Int)(bad:β)(out:List Int)(x:Int):List Int ⊕ β:=bif a0b (W (x+guess out))then .inl (out++[W (x+guess out)])else .inr bad
theorem b3m{β:Type}(guess:List Int→Int)(bad:β)(fin:List Int→β):∀(l out:List Int),a9K fin (a3k (b4X guess bad) l out)=match a4s guess l out with|some r=>fin r|none=>bad
 | [],out=>rfl
 |x::l,out=>by
  simp only[a3k,b4X,a4s];cases a0b (W (x+guess out))with
  |true=>exact b3m guess bad fin l _
  |false=>rfl
theorem b3n(guess:List Int→Int):∀(l out r:List Int),out.all a0b=true→a4s guess l out=some r→r.all a0b=true∧r.length=out.length+l.length
 | [],out,r,h,e=>by simp only[a4s,sj]at e;subst e;exact⟨h,by simp⟩
 |x::l,out,r,h,e=>by
  simp only[a4s]at e;cases hw:a0b (W (x+guess out))with
  |true=>
   rw[hw]at e;obtain⟨h1,h2⟩:=b3n guess l _ r (by simp[h,hw]) e;exact⟨h1,by rw[h2];simp;omega⟩
  |false=>rw[hw]at e;cases e
def a2Q:Option (List Int)→List Int×Int
 |some r=>(r,0)
 |none=>([],6)
def atB(out:List Int)(i:Nat):Int:=out.getD (out.length-i) 0
def a4U(o:Nat)(out:List Int):Int:=match o with
 | 1=>atB out 1
 | 2=>2*atB out 1-atB out 2
 | 3=>3*atB out 1-3*atB out 2+atB out 3
 | 4=>4*atB out 1-6*atB out 2+4*atB out 3-atB out 4
 |_=>0
theorem b3o{out:List Int}{i:Nat}(hi:1≤i)(h:i≤out.length)(hs:short out):a1k ((i:Int),out)=some (atB out i,out):=by
 unfold a1k;have hs:out.length<1000000:=hs;have e:wrap .i64 (((out.length:Nat):Int)-(i:Int))=((out.length-i:Nat):Int):=by rw[a0n (by omega)];omega
 simp only[e,a0c (show out.length-i<out.length by omega),oB,atB];rw[lD,lG (by omega)];rfl
theorem c3E{out:List Int}{o:Nat}(ho:o≤4)(h:o≤out.length)(hs:short out):∃g,a9q (out,(o:Int))=some g∧∀x,W (x+g)=W (x+a4U o out):=by
 have g1:=fun(h':1≤out.length)=>b3o (i:=1) (by omega) h' hs;have g2:=fun(h':2≤out.length)=>b3o (i:=2) (by omega) h' hs;have g3:=fun(h':3≤out.length)=>b3o (i:=3) (by omega) h' hs;have g4:=fun(h':4≤out.length)=>b3o (i:=4) (by omega) h' hs;simp only[Int.natCast_one,Int.cast_ofNat_Int]at g1 g2 g3 g4;unfold a9q;have h5:o=0∨o=1∨o=2∨o=3∨o=4:=by omega
 rcases h5 with rfl|rfl|rfl|rfl|rfl;exact⟨0,rfl,fun x=>rfl⟩;exact⟨_,by simp[g1 (by omega)];rfl,fun x=>rfl⟩;refine⟨_,by simp[g1 (by omega),g2 (by omega)];rfl,fun x=>?_⟩;simp only[W,a8h,a4U,a44,a45,a46];refine⟨_,by simp[g1 (by omega),g2 (by omega),g3 (by omega)];rfl,fun x=>?_⟩;simp only[W,a8h,a4U,a44,a45,a46,a58];refine⟨_,by simp[g1 (by omega),g2 (by omega),g3 (by omega),g4 (by omega)];rfl,fun x=>?_⟩;simp only[W,a8h,a4U,a44,a45,a46,a58]
theorem a0D{n:Nat}(h:n<1000000):lim n=true:=a9g (by omega)
theorem c4V{warm rest:List Int}{o:Nat}(ho:o≤4)(hw:warm.length=o)(hr:rest.length<100000):
  b0o (warm,rest,(o:Int))=some (a2Q (bif warm.all a0b&&rest.all a0b then a4s (a4U o) rest warm else none)):=by
 have hsw:short warm:=by unfold short;omega
 have hsr:short rest:=by unfold short;omega
 unfold b0o;have h1:¬ (o:Int)<0:=by omega
 have h2:¬ (o:Int) > 4:=by omega
 have h3:(((warm.length:Nat):Int) != (o:Int))=false:=by simp;omega
 simp only[h1,h2,h3,decide_false,cF,oB,a7n hsw,a7n hsr];cases hw1:warm.all a0b with
 |false=>rfl
 |true=>
  simp only[bT,cF,oB,a18];cases hw2:rest.all a0b with
  |false=>rfl
  |true=>
   simp only[bT,cF,cT,a0D hsw]
   have:=a3t (f:=a7J) rest (fun i out=>((o:Int),rest,(rest.length:Int),(i:Int),out,())) (b4X (a4U o) (Sum.inr ((6:Int),([]:List Int),())))
    (fun i out=>o≤out.length∧out.length≤o+i) (fun out=>Sum.inl (out,()))
    (fun i h out hI=>by
     have hlt:i<1000000:=by omega
     have hso:short out:=by unfold short;omega
     obtain⟨g,hg,hgw⟩:=c3E ho hI.1 hso;have e:wrap .i64 (rest[i]+g)=W (rest[i]+a4U o out):=hgw _;have hone:a2E [W (rest[i]+a4U o out)]=some (a0b (W (rest[i]+a4U o out))):=by rw[a7n (by simp[short])];simp
     simp only[a7J,dlt h,cT,a0c h,oB,hg,e,hone,b4X];cases hb:a0b (W (rest[i]+a4U o out))with
     |true=>
      simp only[cT,bT,cF,a0D (show out.length+1<1000000 by omega),a0f hlt];refine⟨fun a' ha=>?_,fun b hb=>(by cases hb)⟩;simp only[Sum.inl.injEq]at ha;subst ha;exact⟨rfl,by simp;omega,by simp;omega⟩
     |false=>
      refine⟨fun a' ha=>(by cases ha),fun b hb=>?_⟩;simp only[cF,Sum.inr.injEq]at hb;subst hb;rfl)
    (fun out _=>by simp[a7J]) (a:=warm) ⟨by omega,by omega⟩
   simp only[nZ,b3m]at this;rw[this];cases a4s (a4U o) rest warm<;>rfl
end Go.Ab
namespace Go.Ab
open IntKind(wrap)
def c6q(out:List Int):List Int→Nat→Int→Int
 | [],_,acc=>acc
 |c::r,i,acc=>bif decide (i<out.length)then c6q out r (i+1) (W (acc+W (c*atB out (i+1))))else acc
def b1p(c:List Int)(s:Int)(out:List Int):Int:=a0A .i64 (c6q out c 0 0) s
theorem d5f{out:List Int}{i:Nat}(h:i<out.length)(hs:short out):a0m out (wrap .i64 (wrap .i64 (((out.length:Nat):Int)-1)-(i:Int)))=some (atB out (i+1)):=by
 have hs:out.length<1000000:=hs;have e1:wrap .i64 (((out.length:Nat):Int)-1)=((out.length-1:Nat):Int):=by rw[a0n (by omega)];omega
 have e2:wrap .i64 (((out.length-1:Nat):Int)-(i:Int))=((out.length-(i+1):Nat):Int):=by rw[a0n (by omega)];omega
 rw[e1,e2,a0c (show out.length-(i+1)<out.length by omega),atB,lD,lG (by omega)];rfl
theorem b9g{out c:List Int}{s:Int}(hs:short out)(hc:short c):∀(k i:Nat)(acc:Int),i+k=c.length→
  a0h a3B (out,s,acc,c,(c.length:Int),(i:Int),())=some (s,c6q out (c.drop i) i acc,())
 |0,i,acc,h=>by
  obtain rfl:i=c.length:=by omega
  rw[a33];exact a0q (by simp[a3B,c6q])
 |k+1,i,acc,h=>by
  have hlt:i<c.length:=by omega
  have hs':out.length<1000000:=hs;have hc':c.length<1000000:=hc;rw[a06 hlt,c6q];have e1:wrap .i64 (((out.length:Nat):Int)-1)=((out.length:Nat):Int)-1:=a0n (by omega);have e2:wrap .i64 (((out.length:Nat):Int)-1-(i:Int))=((out.length:Nat):Int)-1-(i:Int):=a0n (by omega)
  by_cases hi:i<out.length
  have hd:decide (wrap .i64 (wrap .i64 (((out.length:Nat):Int)-1)-(i:Int))<0)=false:=by rw[e1,e2];simp;omega
  simp only[hi,decide_true,cT];rw[a0x (s':=(out,s,W (acc+W (c[i]*atB out (i+1))),c,(c.length:Int),((i+1:Nat):Int),())) (by
   simp only[a3B,dlt hlt,cT,a0c hlt,oB,hd,cF,d5f hi hs,a0f (show i<1000000 by omega)])]
  exact b9g hs hc k (i+1) _ (by omega);have hd:decide (wrap .i64 (wrap .i64 (((out.length:Nat):Int)-1)-(i:Int))<0)=true:=by rw[e1,e2];simp;omega
  simp only[hi,decide_false,cF];exact a0q (by simp only[a3B,dlt hlt,cT,a0c hlt,oB,hd])
theorem b7c{out c:List Int}{s:Int}(hs:short out)(hc:short c)(h0:0≤s):a4M (out,c,s)=some (b1p c s out):=by
 have:=b9g (s:=s) hs hc c.length 0 0 (by omega)
 simp only[nZ,a32]at this;unfold a4M;simp only[this,oB]
 have:¬ s<0:=by omega
 simp[this,b1p]
def b4m(warm rest c:List Int)(s:Int):Option (List Int):=bif warm.all a0b&&rest.all a0b then a4s (b1p c s) rest warm else none
theorem b6t{warm rest c:List Int}{s:Int}(hl:b2S c s=true)(hw:warm.length=c.length)(hr:rest.length<100000):
  a7d (warm,rest,c,s)=some (a2Q (b4m warm rest c s)):=by
 have hl':=hl;simp only[b2S,bA,dT]at hl';have hsc:short c:=by unfold short;omega
 have hsw:short warm:=by unfold short;omega
 have hsr:short rest:=by unfold short;omega
 unfold a7d;have h3:(((warm.length:Nat):Int) != ((c.length:Nat):Int))=false:=by simp;omega
 simp only[a9x hsc,hl,oB,bT,cF,h3,a5Z hsw,a5Z hsr,b4m];cases hw1:warm.all a0b with
 |false=>rfl
 |true=>
  simp only[bT,cF,oB,a18];cases hw2:rest.all a0b with
  |false=>rfl
  |true=>
   have e1:wrap .i64 (((warm.length:Nat):Int)+((rest.length:Nat):Int))=((warm.length+rest.length:Nat):Int):=by rw[a0n (by omega)];omega
   have h4:(0:Int)≤((warm.length+rest.length:Nat):Int):=by omega
   simp only[bT,cF,cT,e1,h4,decide_true,tN,a0D (show warm.length+rest.length<1000000 by omega),a0D (show 0+warm.length<1000000 by omega),a09,a40,a16]
   have:=a3t (f:=a6H) rest (fun i out=>(c,s,rest,(rest.length:Int),(i:Int),out,())) (b4X (b1p c s) (Sum.inr ((6:Int),([]:List Int),())))
    (fun i out=>out.length≤warm.length+i) (fun out=>Sum.inl (out,()))
    (fun i h out hI=>by
     have hlt:i<1000000:=by omega
     have hso:short out:=by unfold short;omega
     have e:wrap .i64 (b1p c s out+rest[i])=W (rest[i]+b1p c s out):=by rw[Int.add_comm]
     simp only[a6H,dlt h,cT,a0c h,oB,b7c hso hsc hl'.2.2.1,e,a6q,b4X];cases hb:a0b (W (rest[i]+b1p c s out))with
     |true=>
      simp only[cT,bT,cF,a0D (show out.length+1<1000000 by omega),a0f hlt];refine⟨fun a' ha=>?_,fun b hb=>(by cases hb)⟩;simp only[Sum.inl.injEq]at ha;subst ha;exact⟨rfl,by simp;omega⟩
     |false=>
      refine⟨fun a' ha=>(by cases ha),fun b hb=>?_⟩;simp only[cF,Sum.inr.injEq]at hb;subst hb;rfl)
    (fun out _=>by simp[a6H]) (a:=warm) (by omega)
   simp only[nZ,b3m]at this;rw[this];cases a4s (b1p c s) rest warm<;>rfl
end Go.Ab
namespace Go.Ab
open IntKind(wrap)
def c6r(out:List Int)(lag:Int):List Int→Nat→Int→Int
 | [],_,acc=>acc
 |t::r,i,acc=>c6r out lag r (i+1) (bif decide (0≤(out.length:Int)-lag-1+i)then W (acc+W (t*out.getD ((out.length:Int)-lag-1+i).toNat 0))else acc)
def a9y(lag:Int)(t:List Int)(out:List Int):Int:=a0A .i64 (c6r out lag t 0 0) 6
theorem c6s{out:List Int}{j:Int}(h0:0≤j)(h:j<out.length):a0m out j=some (out.getD j.toNat 0):=by
 obtain⟨n,rfl⟩:=a22 h0;have hn:n<out.length:=by omega
 rw[a0c hn,tN,lD,lG hn];rfl
theorem d4k{n i:Nat}{lag:Int}(h1:2≤lag)(h2:lag≤1024)(hn:n<1000000)(hi:i<3):
  wrap .i64 (wrap .i64 (wrap .i64 ((n:Int)-lag)-1)+(i:Int))=(n:Int)-lag-1+i:=by
 rw[a0n (n:=(n:Int)-lag) (by omega),a0n (n:=(n:Int)-lag-1) (by omega),a0n (by omega)]
theorem d1n{l:List Int}{n j:Nat}(h:j<n):(l.take n).getD j 0=l.getD j 0:=by
 simp only[lD,List.getElem?_take,h,if_true]
theorem a8Q{l t:List Int}{lag:Int}{n:Nat}(hn:n≤l.length)(hs:short l)(ht:t.length=3)(h1:2≤lag)(h2:lag≤1024):∀(k i:Nat)(acc:Int),i+k=3→
  a0h a4l (l,(n:Int),lag,acc,t,(i:Int),())=some (c6r (l.take n) lag (t.drop i) i acc,())
 |0,i,acc,h=>by
  obtain rfl:i=t.length:=by omega
  rw[a33];exact a0q (by rw[ht];simp[a4l,c6r])
 |k+1,i,acc,h=>by
  have hlt:i<t.length:=by omega
  have hi3:decide ((i:Int)<3)=true:=by simp;omega
  have hs':l.length<1000000:=hs;have hln:(l.take n).length=n:=by rw[a47];omega
  have e:=d4k (n:=n) (i:=i) h1 h2 (by omega) (by omega);rw[a06 hlt,c6r,hln]
  by_cases hp:0≤(n:Int)-lag-1+i
  have hd:decide ((n:Int)-lag-1+i≥0)=true:=by simp;omega
  simp only[hp,decide_true,cT];rw[d1n (show((n:Int)-lag-1+i).toNat<n by omega),a0x (s':=(l,(n:Int),lag,W (acc+W (t[i]*l.getD ((n:Int)-lag-1+i).toNat 0)),t,((i+1:Nat):Int),())) (by
   simp only[a4l,hi3,cT,a0c hlt,oB,e,hd,c6s hp (show(n:Int)-lag-1+(i:Int)<(l.length:Int)by omega),a0f (show i<1000000 by omega)])]
  exact a8Q hn hs ht h1 h2 k (i+1) _ (by omega);have hd:decide ((n:Int)-lag-1+i≥0)=false:=by simp;omega
  simp only[hp,decide_false,cF];rw[a0x (s':=(l,(n:Int),lag,acc,t,((i+1:Nat):Int),())) (by
   simp only[a4l,hi3,cT,a0c hlt,oB,e,hd,cF,a0f (show i<1000000 by omega)])]
  exact a8Q hn hs ht h1 h2 k (i+1) _ (by omega)
theorem b4Y{l t:List Int}{lag:Int}{n:Nat}(hn:n≤l.length)(hs:short l)(ht:t.length=3)(h1:2≤lag)(h2:lag≤1024):
  a4C (l,(n:Int),lag,t)=some (a9y lag t (l.take n)):=by
 have:=a8Q (t:=t) hn hs ht h1 h2 3 0 0 (by omega)
 simp only[nZ,a32]at this;unfold a4C;simp only[this,oB,a9y]
theorem c2t{out t:List Int}{lag:Int}(hs:short out)(ht:t.length=3)(h1:2≤lag)(h2:lag≤1024):a4C (out,(out.length:Int),lag,t)=some (a9y lag t out):=by
 rw[b4Y (a41 _) hs ht h1 h2,a60]
def b3p(rest:List Int)(lag:Int)(t:List Int):Option (List Int):=bif rest.all a0b then a4s (a9y lag t) rest []else none
theorem c6t{rest t:List Int}{lag:Int}(hl:b4W lag t=true)(ht:t.length=3)(hr:rest.length<100000):b1K (rest,lag,t)=some (a2Q (b3p rest lag t)):=by
 have hl':=hl;simp only[b4W,bA,dT]at hl';have hsr:short rest:=by unfold short;omega
 unfold b1K;simp only[b5L ht,hl,oB,bT,cF,b4V hsr,b3p];cases hw2:rest.all a0b with
 |false=>rfl
 |true=>
  have h4:(0:Int)≤((rest.length:Nat):Int):=by omega
  simp only[bT,cF,cT,h4,decide_true,tN,a0D hsr,a09]
  have:=a3t (f:=a8B) rest (fun i out=>(lag,rest,(rest.length:Int),(i:Int),out,t,())) (b4X (a9y lag t) (Sum.inr ((6:Int),([]:List Int),())))
   (fun i out=>out.length=i) (fun out=>Sum.inl (out,()))
   (fun i h out hI=>by
    have hlt:i<1000000:=by omega
    have hso:short out:=by unfold short;omega
    have hp:=c2t (out:=out) (t:=t) (lag:=lag) hso ht hl'.1 hl'.2.1;rw[hI]at hp;simp only[a8B,dlt h,cT,a0c h,oB,hp,a8g,b4X];cases hb:a0b (W (rest[i]+a9y lag t out))with
    |true=>
     simp only[cT,bT,cF,a0D (show out.length+1<1000000 by omega),a0f hlt];refine⟨fun a' ha=>?_,fun b hb=>(by cases hb)⟩;simp only[Sum.inl.injEq]at ha;subst ha;exact⟨rfl,by simp;omega⟩
    |false=>
     refine⟨fun a' ha=>(by cases ha),fun b hb=>?_⟩;simp only[cF,Sum.inr.injEq]at hb;subst hb;rfl)
   (fun out _=>by simp[a8B]) (a:=[]) rfl
  simp only[nZ,b3m]at this;rw[this];cases a4s (a9y lag t) rest []<;>rfl
def c2u{β:Type}(n:Int)(bad:β)(out:List Int)(x:Int):List Int ⊕ β:=bif a0b x&&a0b (a0z .i64 x n)then .inl (out++[a0z .i64 x n])else .inr bad
def upO(n:Int)(l:List Int):Option (List Int):=bif l.all (fun x=>a0b x&&a0b (a0z .i64 x n))then some (l.map fun x=>a0z .i64 x n)else none
theorem c0D{β:Type}(n:Int)(bad:β)(fin:List Int→β):∀(l out:List Int),a9K fin (a3k (c2u n bad) l out)=match upO n l with|some r=>fin (out++r)|none=>bad
 | [],out=>by simp[a3k,a9K,upO]
 |x::l,out=>by
  simp only[a3k,c2u,upO,a43];cases hx:(a0b x&&a0b (a0z .i64 x n))with
  |true=>
   simp only[cT,a18];rw[c0D n bad fin l _];simp only[upO];cases l.all (fun x=>a0b x&&a0b (a0z .i64 x n))with
   |true=>simp
   |false=>rfl
  |false=>rfl
theorem c6u{l:List Int}{n:Int}(h0:0≤n)(h1:n≤30)(hr:l.length<100000):a8Z (l,n)=some (a2Q (upO n l)):=by
 have hsr:short l:=by unfold short;omega
 have g1:¬ n<0:=by omega
 have g2:¬ n > 30:=by omega
 unfold a8Z;simp only[g1,g2,decide_false,cF,oB]
 have:=a3t (f:=a8C) l (fun i out=>(n,l,(l.length:Int),(i:Int),out,())) (c2u n (Sum.inr ((6:Int),([]:List Int),())))
  (fun i out=>out.length=i) (fun out=>Sum.inl (out,()))
  (fun i h out hI=>by
   have hlt:i<1000000:=by omega
   simp only[a8C,dlt h,cT,a0c h,oB,b6s,c2u,g1,decide_false,cF];cases hb:a0b l[i]with
   |true=>
    cases hb2:a0b (a0z .i64 l[i] n)with
    |true=>
     simp only[cT,bT,cF,oB,g1,decide_false,a0D (show out.length+1<1000000 by omega),a0f hlt,a09];refine⟨fun a' ha=>?_,fun b hb=>(by cases hb)⟩;simp only[Sum.inl.injEq]at ha;subst ha;exact⟨rfl,by simp;omega⟩
    |false=>
     refine⟨fun a' ha=>(by cases ha),fun b hb=>?_⟩;simp only[a18,cF,Sum.inr.injEq]at hb;subst hb;rfl
   |false=>
    refine⟨fun a' ha=>(by cases ha),fun b hb=>?_⟩;simp only[a67,cF,Sum.inr.injEq]at hb;subst hb;rfl)
  (fun out _=>by simp[a8C]) (a:=[]) rfl
 simp only[nZ,c0D,a16]at this;rw[this];cases upO n l<;>rfl
end Go.Ab
namespace Go.Ab
open IntKind(wrap)
@[reducible] def Fil:Type:=Int×((List Int)×((List Int)×Unit))
def a2G(x:Int):Int:=a3u (a2m x (-1073741824)) 1073741823
def c2v(x:Int):Int:=a3u (a2m x (-1048576)) 1048576
theorem c6v(x:Int):-1048576≤c2v x∧c2v x≤1048576:=by
 simp only[c2v,c8q,d4j];omega
def c9V:List Int→List Int→Int→Int
 |a::w,b::h,acc=>c9V w h (W (acc+W (a*b)))
 |_,_,acc=>acc
def a1h(f:Fil):Int:=a2G (a0A .i64 (c9V f.2.1 f.2.2.1 0) 16)
structure FilOk (f:Fil):Prop where
 len:f.2.1.length=f.2.2.1.length
 pos:1≤f.2.1.length
 most:f.2.1.length≤32
 rate:0≤f.1∧f.1≤8
 small:∀x∈f.2.1,-1048576≤x∧x≤1048576
theorem b7d{l:List Int}{i:Nat}(h:i<l.length):a03 l i 0=l[i]:=by
 rw[lD,lG h];rfl
theorem b4n{f:Fil}(hf:FilOk f):∀(k i:Nat)(acc:Int),i+k=f.2.1.length→
  a0h a3x (acc,(f.2.1.length:Int),(i:Int),f,())=some (c9V (f.2.1.drop i) (f.2.2.1.drop i) acc,f,())
 |0,i,acc,h=>by
  obtain rfl:i=f.2.1.length:=by omega
  rw[a33,a0q (b:=(acc,f,())) (by simp[a3x])];rfl
 |k+1,i,acc,h=>by
  have h1:i<f.2.1.length:=by omega
  have h2:i<f.2.2.1.length:=by rw[←hf.len];exact h1
  have hm:=hf.most;rw[a06 h1,a06 h2,c9V];have h0:decide ((0:Int)≤(i:Int))=true:=by simp
  rw[a0x (s':=(W (acc+W (f.2.1[i]*f.2.2.1[i])),(f.2.1.length:Int),((i+1:Nat):Int),f,())) (by
   simp only[a3x,dlt h1,dlt h2,h0,cT,a09,tN,b7d h1,b7d h2,a0f (show i<1000000 by omega)])]
  exact b4n hf k (i+1) _ (by omega)
theorem a6r{f:Fil}(hf:FilOk f):a2l f=some (a1h f,f):=by
 have:=b4n hf f.2.1.length 0 0 (by omega)
 simp only[nZ,a32]at this;unfold a2l;simp only[this,oB,a5v];rfl
def b9E(x:Int):Int:=if 0<x then 1 else if x<0 then -1 else 0
def b1V(r:Int)(x g:Int):Int:=b9E (x-g)*2^r.toNat
def b7e(st:Int)(w h:Int):Int:=c2v (W (w+b9E h*st))
def b3q(f:Fil)(x:Int):Fil:=
 (f.1,a26 (b7e (b1V f.1 (a2G x) (a1h f))) f.2.1 f.2.2.1,a2G x::f.2.2.1.take (f.2.2.1.length-1),f.2.2.2)
theorem c6w{f:Fil}(hf:FilOk f)(x:Int):FilOk (b3q f x):=by
 obtain⟨h1,h2,h3,h4,h5⟩:=hf;have e:(a26 (b7e (b1V f.1 (a2G x) (a1h f))) f.2.1 f.2.2.1).length=f.2.1.length:=by simp;omega
 refine⟨?_,?_,?_,h4,?_⟩;show(a26 _ _ _).length=(a2G x::f.2.2.1.take (f.2.2.1.length-1)).length;rw[e];simp;omega;show 1≤(a26 _ _ _).length;rw[e];exact h2;show(a26 _ _ _).length≤32;rw[e];exact h3;intro y hy;have hy:y∈a26 (b7e (b1V f.1 (a2G x) (a1h f))) f.2.1 f.2.2.1:=hy;obtain⟨i,hi,rfl⟩:=List.mem_iff_getElem.1 hy;simp only[a52];exact c6v _
theorem b5M(x:Int):(0<x∧b9E x=1)∨(x<0∧b9E x=-1)∨(x=0∧b9E x=0):=by
 unfold b9E
 by_cases h:0<x
 exact .inl ⟨h,by rw[if_pos h]⟩
 by_cases h':x<0
 exact .inr (.inl ⟨h',by rw[if_neg h,if_pos h']⟩);exact .inr (.inr ⟨by omega,by rw[if_neg h,if_neg h']⟩)
theorem c1f{r:Int}(h:0≤r∧r≤8):(2:Int)^r.toNat≤256∧1≤(2:Int)^r.toNat:=by
 have:r.toNat=0∨r.toNat=1∨r.toNat=2∨r.toNat=3∨r.toNat=4∨r.toNat=5∨r.toNat=6∨r.toNat=7∨r.toNat=8:=by omega
 rcases this with e|e|e|e|e|e|e|e|e<;>rw[e]<;>decide
theorem d1o{r:Int}(h:0≤r∧r≤8){x:Int}(hx:-1≤x∧x≤1):a0z .i64 x r=x*2^r.toNat:=by
 have hp:=c1f h;have hb:min r.toNat 64=r.toNat:=by omega
 unfold a0z;show wrap .i64 (x*2^(min r.toNat 64))=_;rw[hb]
 have:x=-1∨x=0∨x=1:=by omega
 rcases this with rfl|rfl|rfl;exact a0n (by omega);exact a0n (by omega);exact a0n (by omega)
theorem c4W{f:Fil}(hf:FilOk f)(x:Int):
  (bif decide (a2G x > a1h f)then bif decide (f.1<0)then(none:Option (Int×Int×Fil×Unit))else some (a2G x,a0z .i64 (1:Int) f.1,f,())
   else bif decide (a2G x<a1h f)then bif decide (f.1<0)then none else some (a2G x,wrap .i64 (0-(a0z .i64 (1:Int) f.1)),f,())
   else some (a2G x,(0:Int),f,()))=some (a2G x,b1V f.1 (a2G x) (a1h f),f,()):=by
 have hr:¬ f.1<0:=by have:=hf.rate;omega
 have hp:=c1f hf.rate;have hg:=d1o hf.rate (x:=1) (by omega);rw[a61]at hg;rcases b5M (a2G x-a1h f)with⟨h1,h2⟩|⟨h1,h2⟩|⟨h1,h2⟩;have h3:a2G x > a1h f:=by omega
 simp only[h3,hr,decide_true,decide_false,cT,cF,b1V,h2,a61,hg];have h3:¬ a2G x > a1h f:=by omega
 have h4:a2G x<a1h f:=by omega
 simp only[h3,h4,hr,decide_true,decide_false,cT,cF,b1V,h2,hg];rw[a0n (by omega)];congr 3;omega;have h3:¬ a2G x > a1h f:=by omega
 have h4:¬ a2G x<a1h f:=by omega
 simp only[h3,h4,decide_false,cF,b1V,h2,Int.zero_mul]
theorem d2t{l z:List Int}{i:Nat}(hi:i<l.length)(hz:z.length=l.length):(z.take i++l.drop i).set i (z[i]'(by omega))=z.take (i+1)++l.drop (i+1):=by
 have h1:(z.take i).length=i:=by rw[a47];omega
 have h2:z.take (i+1)=z.take i++[z[i]'(by omega)]:=by rw[a59,lG (show i<z.length by omega)];rfl
 rw[a51 _ _ (by omega),h1,a39,a06 hi,a55,h2,aA];rfl
theorem d2u{l z:List Int}{i:Nat}(hi:i<l.length)(hz:z.length=l.length):a03 (z.take i++l.drop i) i 0=l[i]:=by
 have h1:(z.take i).length=i:=by rw[a47];omega
 rw[lD,a42 (by omega),h1,a39,a56,a57,lG hi];rfl
theorem d1p{f:Fil}(hf:FilOk f){i:Nat}(h:i<f.2.1.length):-1048576≤f.2.1[i]∧f.2.1[i]≤1048576:=hf.small _ (a62 h)
theorem c2w{f:Fil}(hf:FilOk f){x1 st:Int}(hst:-256≤st∧st≤256):
  a0h a2F (x1,st,(f.2.2.1.length:Int),(0:Int),f,())=some (x1,(f.1,a26 (b7e st) f.2.1 f.2.2.1,f.2.2),()):=by
 obtain⟨z,hz⟩:∃z,a26 (b7e st) f.2.1 f.2.2.1=z:=⟨_,rfl⟩;have hlen:=hf.len;have hzl:z.length=f.2.1.length:=by rw[←hz];simp;omega
 have hm:=hf.most
 have:=a3R (f:=a2F) (fun i=>(x1,st,(f.2.2.1.length:Int),(i:Int),(f.1,z.take i++f.2.1.drop i,f.2.2),()))
  f.2.2.1.length (b:=(x1,(f.1,z,f.2.2),())) (fun i hi=>by
   have hi1:i<f.2.1.length:=by omega
   have h0:decide ((0:Int)≤(i:Int))=true:=by simp
   have hl1:(z.take i++f.2.1.drop i).length=f.2.1.length:=by simp;omega
   have hl2:decide ((i:Int)<((z.take i++f.2.1.drop i).length:Int))=true:=by rw[hl1];simp;omega
   have hzi:z[i]'(by omega)=b7e st f.2.1[i] f.2.2.1[i]:=by simp only[←hz,a52]
   have hsm:=d1p hf hi1;have hset:=d2t hi1 hzl;rw[hzi]at hset;simp only[a2F,dlt hi,h0,hl2,cT,a09,tN,b7d hi,d2u hi1 hzl];rcases b5M f.2.2.1[i]with⟨h1,h2⟩|⟨h1,h2⟩|⟨h1,h2⟩;have h3:f.2.2.1[i] > 0:=h1;simp only[b7e,h2,a61]at hset;simp only[h3,decide_true,cT,oB,h0,hl2,a09,tN,a0f (show i<1000000 by omega)];exact congrArg (fun l=>some (Sum.inl (x1,st,(f.2.2.1.length:Int),((i+1:Nat):Int),(f.1,l,f.2.2),()))) hset;have h3:¬ f.2.2.1[i] > 0:=by omega
   have e:f.2.1[i]+-1*st=f.2.1[i]-st:=by omega
   simp only[b7e,h2,e]at hset;simp only[h3,h1,decide_true,decide_false,cT,cF,oB,h0,hl2,a09,tN,a0f (show i<1000000 by omega)];exact congrArg (fun l=>some (Sum.inl (x1,st,(f.2.2.1.length:Int),((i+1:Nat):Int),(f.1,l,f.2.2),()))) hset;have h3:¬ f.2.2.1[i] > 0:=by omega
   have h4:¬ f.2.2.1[i]<0:=by omega
   have e:W (f.2.1[i]+0*st)=f.2.1[i]:=by rw[Int.zero_mul,Int.add_zero];exact a0n (by omega)
   simp only[b7e,h2,e]at hset;simp only[h3,h4,decide_false,cF,oB,h0,hl2,cT,a09,tN,a0f (show i<1000000 by omega)];exact congrArg (fun l=>some (Sum.inl (x1,st,(f.2.2.1.length:Int),((i+1:Nat):Int),(f.1,l,f.2.2),()))) hset)
  (by
   have e1:z.take f.2.2.1.length=z:=List.take_of_length_le (by omega);have e2:f.2.1.drop f.2.2.1.length=[]:=a48 (by omega);simp[a2F,e1,e2])
 simp only[nZ,List.take_zero,a32,a16]at this;rw[hz];exact this
theorem c7G{f:Fil}(hf:FilOk f)(x g:Int):-256≤b1V f.1 x g∧b1V f.1 x g≤256:=by
 have hp:=c1f hf.rate;unfold b1V;rcases b5M (x-g)with⟨-,h2⟩|⟨-,h2⟩|⟨-,h2⟩<;>rw[h2]<;>omega
theorem b7P{f:Fil}(hf:FilOk f)(x:Int):a3C (f,x)=some (b3q f x):=by
 unfold a3C;have hs:=c4W hf x;simp only[a5v,oB,a6r hf];have hs':(bif decide (a3u (a2m x (-1073741824)) 1073741823 > a1h f)then bif decide (f.1<0)then(none:Option (Int×Int×Fil×Unit))else some (a3u (a2m x (-1073741824)) 1073741823,a0z .i64 (1:Int) f.1,f,())
   else bif decide (a3u (a2m x (-1073741824)) 1073741823<a1h f)then bif decide (f.1<0)then none else some (a3u (a2m x (-1073741824)) 1073741823,wrap .i64 (0-(a0z .i64 (1:Int) f.1)),f,())
   else some (a3u (a2m x (-1073741824)) 1073741823,(0:Int),f,()))=_:=hs
 rw[hs'];simp only[oB,c2w hf (c7G hf _ _)];have h1:f.2.2.1.length≥1:=by have:=hf.pos;have:=hf.len;omega
 have h2:decide ((1:Int)≤((f.2.2.1.length:Nat):Int))=true:=by simp;omega
 have e:b2X f.2.2.1 1 (f.2.2.1.length-1) f.2.2.1=f.2.2.1.take 1++f.2.2.1.take (f.2.2.1.length-1):=by
  unfold b2X;rw[a49 (by omega),a48 (by omega),a50]
 have hl:(f.2.2.1.take 1++f.2.2.1.take (f.2.2.1.length-1)).length=f.2.2.1.length:=by simp;omega
 have h3:decide ((0:Int)<(((f.2.2.1.take 1++f.2.2.1.take (f.2.2.1.length-1)).length:Nat):Int))=true:=by rw[hl];simp;omega
 simp only[h2,cT,e,h3];congr 1;have e2:(f.2.2.1.take 1++f.2.2.1.take (f.2.2.1.length-1)).set 0 (a2G x)=a2G x::f.2.2.1.take (f.2.2.1.length-1):=by
  cases hc:f.2.2.1 with
  |nil=>rw[hc]at h1;simp at h1
  |cons a l=>simp
 rw[e2];rfl
end Go.Ab
namespace Go.Ab
@[reducible] def Stg:Type:=Int×(Int×Unit)
theorem a6P{l:List Int}(h:short l):a1d l=some l:=by
 have h1:lim (0+l.length)=true:=a0D (by unfold short at h;omega);unfold a1d b3O;rw[h1,cT]
def b0G(s:Stg):Fil:=(s.2.1,a00 s.1.toNat 0,a00 s.1.toNat 0,())
theorem c8r{s:Stg}(h:a7o s=true):FilOk (b0G s):=by
 simp only[a7o,bA,dT]at h;refine⟨by simp[b0G],by simp[b0G];omega,by simp[b0G];omega,⟨h.2.2.1,h.2.2.2⟩,fun x hx=>?_⟩;simp only[b0G,List.mem_replicate]at hx;omega
theorem b4o{s:Stg}(h:a7o s=true):a8Y s=some (b0G s,0):=by
 have h':=h;simp only[a7o,bA,dT]at h';unfold a8Y;have h1:decide ((0:Int)≤s.1)=true:=by simp;omega
 have h2:decide (s.1≤s.1)=true:=by simp
 have h3:lim s.1.toNat=true:=a0D (by omega);simp only[b1o,h,oB,bT,cF,h1,h2,h3,a09,cT];rfl
def stO:List Int→List Int→Fil→Option (List Int)
 | [],done,_=>some done
 |r::rs,done,f=>bif a0b (W (a1h f+r))then stO rs (done++[W (a1h f+r)]) (b3q f (W (a1h f+r)))else none
theorem b7f:∀(l done:List Int)(f:Fil){r},stO l done f=some r→r.length=done.length+l.length
 | [],done,f,r,h=>by simp only[stO,sj]at h;rw[←h];simp
 |x::l,done,f,r,h=>by
  simp only[stO]at h;cases hw:a0b (W (a1h f+x))with
  |true=>rw[hw]at h;rw[b7f l _ _ h];simp;omega
  |false=>rw[hw]at h;cases h
theorem b4Z{done row:List Int}{i:Nat}(hd:done.length=i)(h:i<row.length):a03 (done++row.drop i) i 0=row[i]:=by
 rw[lD,a42 (by omega),hd,a39,a56,a57,lG h];rfl
theorem c6x{done row:List Int}{i:Nat}(hd:done.length=i)(h:i<row.length)(y:Int):(done++row.drop i).set i y=(done++[y])++row.drop (i+1):=by
 rw[a51 _ _ (by omega),hd,a39,a06 h,a55,aA];rfl
theorem b5a{row b4:List Int}{b5:Int}(hs:short row):∀(k i:Nat)(done:List Int)(f:Fil),i+k=row.length→done.length=i→FilOk f→
  ∃z,a0h a5w ((row.length:Int),(i:Int),b4,b5,done++row.drop i,f,())=some z∧
   match stO (row.drop i) done f with
   |some r=>z=.inl (b4,b5,r,())
   |none=>∃q,z=.inr (([]:List Int),(6:Int),q,())
 |0,i,done,f,h,hd,hf=>by
  obtain rfl:i=row.length:=by omega
  rw[a33,a50];exact⟨_,a0q (b:=Sum.inl (b4,b5,done,())) (by simp[a5w]),rfl⟩
 |k+1,i,done,f,h,hd,hf=>by
  have hi:i<row.length:=by omega
  have hs':row.length<1000000:=hs;have h0:decide ((0:Int)≤(i:Int))=true:=by simp
  have hl:(done++row.drop i).length=row.length:=by simp;omega
  have h1:decide ((i:Int)<(((done++row.drop i).length:Nat):Int))=true:=by rw[hl];simp;omega
  have hst:stO (row.drop i) done f=bif a0b (W (a1h f+row[i]))then stO (row.drop (i+1)) (done++[W (a1h f+row[i])]) (b3q f (W (a1h f+row[i])))else none:=by
   rw[a06 hi];rfl
  rw[hst];cases hw:a0b (W (a1h f+row[i]))with
  |true=>
   rw[a0x (s':=((row.length:Int),((i+1:Nat):Int),b4,b5,(done++[W (a1h f+row[i])])++row.drop (i+1),b3q f (W (a1h f+row[i])),())) (by
    simp only[a5w,dlt hi,h0,h1,cT,a09,a6r hf,oB,tN,b4Z hd hi,a5n,hw,bT,cF,b7P hf,c6x hd hi,a0f (show i<1000000 by omega)])]
   exact b5a hs k (i+1) _ _ (by omega) (by simp;omega) (c6w hf _)
  |false=>
   exact⟨_,a0q (b:=Sum.inr (([]:List Int),(6:Int),done++row.drop i,())) (by
    simp only[a5w,dlt hi,h0,h1,cT,a09,a6r hf,oB,tN,b4Z hd hi,a5n,hw,a24]),_,rfl⟩
def lO:List Stg→List Int→Option (List Int)
 | [],row=>some row
 |s::r,row=>match stO row [] (b0G s)with
  |some row'=>lO r row'
  |none=>none
theorem c7H{st:List Stg}{s:Stg}{k:Int}{b4:List Int}{row:List Int}(h:a7o s=true)(hs:short row):
  ∃z,a7K k s (st,b4,(0:Int),row,())=some z∧match stO row [] (b0G s)with
   |some r=>z=.inl (st,b4,(0:Int),r,())
   |none=>∃q,z=.inr (.ret,st,([]:List Int),(6:Int),q,()):=by
 obtain⟨z,h1,h2⟩:=b5a (b4:=b4) (b5:=0) hs row.length 0 [] (b0G s) (by omega) rfl (c8r h);simp only[nZ,a32,a16]at h1 h2;unfold a7K;have hne:((0:Int) != 0)=false:=rfl;simp only[b4o h,oB,hne,cF,h1];cases hst:stO row [] (b0G s)with
 |some r=>
  rw[hst]at h2;simp only[]at h2;subst h2;exact⟨_,rfl,rfl⟩
 |none=>
  rw[hst]at h2;obtain⟨q,rfl⟩:=h2;exact⟨_,rfl,q,rfl⟩
theorem c0E{st l:List Stg}{b4:List Int}(hl:∀s∈l,a7o s=true):∀(n:Nat)(row:List Int),n≤l.length→short row→
  ∃z,a5t a7K l n (st,b4,(0:Int),row,())=some z∧match lO (l.take n).reverse row with
   |some r=>z=.inl (st,b4,(0:Int),r,())
   |none=>∃q,z=.inr (.ret,st,([]:List Int),(6:Int),q,())
 |0,row,_,_=>⟨_,rfl,rfl⟩
 |n+1,row,hn,hs=>by
  have hlt:n<l.length:=by omega
  obtain⟨z,h1,h2⟩:=c7H (st:=st) (k:=(n:Int)) (b4:=b4) (hl _ (a62 hlt)) hs;have ht:(l.take (n+1)).reverse=l[n]::(l.take n).reverse:=by rw[a59,lG hlt];simp
  simp only[a5t,lG hlt,h1,ht,lO];cases hst:stO row [] (b0G l[n])with
  |some r=>
   rw[hst]at h2;simp only[]at h2;subst h2;exact c0E hl n r (by omega) (by have:=b7f _ _ _ hst;unfold short at hs⊢;simp at this;omega)
  |none=>
   rw[hst]at h2;obtain⟨q,rfl⟩:=h2;exact⟨_,rfl,q,rfl⟩
def b2A(rest:List Int)(st:List Stg):Option (List Int):=bif rest.all a0b then lO st.reverse rest else none
theorem c4X{rest:List Int}{st:List Stg}(hl:b2z st=true)(hr:rest.length<100000):b0s (rest,st)=some (a2Q (b2A rest st)):=by
 have hl':=hl;simp only[b2z,bA,dT]at hl';have hss:short st:=by unfold short;omega
 have hsr:short rest:=by unfold short;omega
 unfold b0s;simp only[b4l hss,hl,oB,bT,cF,b4k hsr,b2A];cases hw:rest.all a0b with
 |false=>rfl
 |true=>
  obtain⟨z,h1,h2⟩:=c0E (st:=st) (b4:=[]) (lA.1 hl'.2) st.length rest (a41 _) hsr;rw[a60]at h2;simp only[bT,cF,cT,a6P hsr,oB,a0D hss,h1];cases hst:lO st.reverse rest with
  |some r=>
   rw[hst]at h2;simp only[]at h2;subst h2;rfl
  |none=>
   rw[hst]at h2;obtain⟨q,rfl⟩:=h2;rfl
end Go.Ab
namespace Go.Ab
open IntKind(wrap)
def a5P(n warm:Int):Bool:=decide (1≤n)&&(decide (n≤4096)&&(decide (0≤warm)&&decide (warm≤n)))
theorem b9h(n warm:Int):a7u (n,warm)=some (a5P n warm):=by
 unfold a7u a5P
 by_cases h1:1≤n<;>by_cases h2:n≤4096<;>by_cases h3:0≤warm<;>simp[h1,h2,h3]
theorem d5g{o:Nat}(h:o≤8):1≤2^o∧2^o≤256:=by
 have:o=0∨o=1∨o=2∨o=3∨o=4∨o=5∨o=6∨o=7∨o=8:=by omega
 rcases this with e|e|e|e|e|e|e|e|e<;>rw[e]<;>decide
theorem c6y{N o:Nat}(h:o≤64):a0A .i64 (N:Int) (o:Int)=((N / 2^o:Nat):Int):=by
 unfold a0A;show Int.fdiv (N:Int) (2^(min (o:Int).toNat 64))=_;rw[tN,a49 h,Int.fdiv_eq_ediv_of_nonneg _ (Int.le_of_lt (Int.pow_pos (by decide))),Int.natCast_ediv,a64];rfl
theorem c1g{N o:Nat}(h:o≤64)(hs:N*2^o<9223372036854775808):a0z .i64 (N:Int) (o:Int)=((N*2^o:Nat):Int):=by
 unfold a0z;show wrap .i64 ((N:Int)*2^(min (o:Int).toNat 64))=_;rw[tN,a49 h];have e:(N:Int)*2^o=((N*2^o:Nat):Int):=by rw[Int.natCast_mul,a64];rfl
 rw[e];exact a0n (by omega)
def b6u(o N:Nat)(warm:Int):List Int:=
 if N%2^o=0∧warm≤((N / 2^o:Nat):Int)then(((N / 2^o:Nat):Int)-warm)::a00 (2^o-1) ((N / 2^o:Nat):Int)else[]
def a1w(order n warm:Int):List Int:=bif a5P n warm&&(decide (0≤order)&&decide (order≤8))then b6u order.toNat n.toNat warm else[]
theorem a2U(order n warm:Int):a3r (order,n,warm)=some (a1w order n warm):=by
 unfold a3r a1w;simp only[b9h,oB];cases hr:a5P n warm with
 |false=>rfl
 |true=>
  simp only[a5P,bA,dT]at hr;simp only[bT,cF,a18]
  by_cases h1:order<0
  have:¬ 0≤order:=by omega
  simp[h1,this]
  by_cases h2:order > 8
  have:¬ order≤8:=by omega
  simp[h1,h2,this];obtain⟨o,rfl⟩:=a22 (show 0≤order by omega);obtain⟨N,rfl⟩:=a22 (show 0≤n by omega);have ho:o≤8:=by omega
  have hN:N≤4096:=by omega
  have hp:=d5g ho;have hle:N / 2^o*2^o≤N:=Nat.div_mul_le_self N _;have g0:(0:Int)≤(o:Int):=by omega
  have g8:(o:Int)≤8:=by omega
  simp only[h1,h2,g0,g8,decide_true,decide_false,cF,cT,a09,oB,c6y (N:=N) (show o≤64 by omega),c1g (N:=N / 2^o) (show o≤64 by omega) (by omega),tN];have hmod:=Nat.div_add_mod N (2^o);rw[Nat.mul_comm]at hmod
  by_cases hm:N%2^o=0
  have e1:(((N / 2^o*2^o:Nat):Int) != (N:Int))=false:=by rw[show N / 2^o*2^o=N by omega];simp
  by_cases hw:warm≤((N / 2^o:Nat):Int)
  have e2:decide (((N / 2^o:Nat):Int)<warm)=false:=decide_eq_false (Int.not_lt.2 hw);have e3:wrap .i64 (((N / 2^o:Nat):Int)-warm)=((N / 2^o:Nat):Int)-warm:=a0n (by have:=Nat.div_le_self N (2^o);omega);simp only[e1,e2,e3,cF,oB,b6u,hm,hw,and_self,if_true];have hg:a0z .i64 (1:Int) (o:Int)=((2^o:Nat):Int):=by have:=c1g (N:=1) (show o≤64 by omega) (by omega);simpa using this
  have:=a3R (f:=a6F) (fun i=>((o:Int),((N / 2^o:Nat):Int),(((N / 2^o:Nat):Int)-warm)::a00 i ((N / 2^o:Nat):Int),())) (2^o-1)
   (b:=((((N / 2^o:Nat):Int)-warm)::a00 (2^o-1) ((N / 2^o:Nat):Int),())) (fun i hi=>by
    have hd:decide ((((((N / 2^o:Nat):Int)-warm)::a00 i ((N / 2^o:Nat):Int)).length:Int)<((2^o:Nat):Int))=true:=by
     rw[lC,a31];simp only[dT];omega
    have hlim:lim (((((N / 2^o:Nat):Int)-warm)::a00 i ((N / 2^o:Nat):Int)).length+1)=true:=a0D (by rw[lC,a31];omega);have ea:a00 i ((N / 2^o:Nat):Int)++[((N / 2^o:Nat):Int)]=a00 (i+1) ((N / 2^o:Nat):Int):=by rw[←a38]
    simp only[a6F,h1,decide_false,cF,hg,hd,cT,hlim,a40,a17,ea])
   (by
    have hd:decide ((((((N / 2^o:Nat):Int)-warm)::a00 (2^o-1) ((N / 2^o:Nat):Int)).length:Int)<((2^o:Nat):Int))=false:=by
     rw[lC,a31];simp only[decide_eq_false_iff_not];omega
    simp only[a6F,h1,decide_false,cF,hg,hd])
  simp only[a54]at this;simp only[this,oB];have e2:decide (((N / 2^o:Nat):Int)<warm)=true:=decide_eq_true (Int.not_le.1 hw);simp only[e1,e2,cF,cT,oB,b6u,hw,and_false,if_false];have e1:(((N / 2^o*2^o:Nat):Int) != (N:Int))=true:=by simp only[bne_iff_ne,ne_eq];intro hc;have:=Int.ofNat.inj hc;omega
  simp only[e1,cT,oB,b6u,hm,false_and,if_false]
@[reducible] def Prt:Type:=Int×((List Int)×Unit)
def kB(k:Int):Bool:=(decide (0≤k)&&decide (k≤25)) || (k==31)
def a6s(p:Prt)(n warm:Int):Bool:=!((a1w p.1 n warm).length==0)&&((a1w p.1 n warm).length==p.2.1.length&&p.2.1.all kB)
theorem b4p{p:Prt}{n warm:Int}(hk:short p.2.1):a8X (p,n,warm)=some (a6s p n warm):=by
 have:=a1E (f:=a3H) p.2.1 (fun i=>(p.2.1,(p.2.1.length:Int),(i:Int),())) kB (bt:=Sum.inl ()) (bf:=Sum.inr (false,()))
  (fun i h hp=>by
   simp only[kB,a65,bA,dT,beq_iff_eq]at hp
   by_cases h1:p.2.1[i]<0
   omega
   by_cases h2:p.2.1[i] > 25
   have h3:p.2.1[i]=31:=by omega
   have h4:(p.2.1[i] != 31)=false:=by rw[h3];rfl
   simp[a3H,a0c h,h,h1,h2,h4,a0f (a25 h hk)];simp[a3H,a0c h,h,h1,h2,a0f (a25 h hk)])
  (fun i h hp=>by
   have hp:¬ (kB p.2.1[i]=true):=by rw[hp];simp
   simp only[kB,a65,bA,dT,beq_iff_eq]at hp;have h3:p.2.1[i]≠31:=fun e=>hp (.inr e);have h4:(p.2.1[i] != 31)=true:=by simp[h3]
   by_cases h1:p.2.1[i]<0
   simp[a3H,a0c h,h,h1,h4];have h2:p.2.1[i] > 25:=by omega
   simp[a3H,a0c h,h,h1,h2,h4])
  (by simp[a3H])
 simp only[nZ]at this;unfold a8X a6s;simp only[a2U,oB]
 by_cases h0:(a1w p.1 n warm).length=0
 have e:((((a1w p.1 n warm).length:Nat):Int)==0)=true:=by simp[h0]
 simp[e,h0];have e:((((a1w p.1 n warm).length:Nat):Int)==0)=false:=by simp only[beq_eq_false_iff_ne,ne_eq];omega
 have e':((a1w p.1 n warm).length==0)=false:=by simp only[beq_eq_false_iff_ne,ne_eq];omega
 simp only[e,e',cF,oB,a24,a18]
 by_cases h1:(a1w p.1 n warm).length=p.2.1.length
 have e1:(((p.2.1.length:Nat):Int) != (((a1w p.1 n warm).length:Nat):Int))=false:=by simp[h1]
 have e2:((a1w p.1 n warm).length==p.2.1.length)=true:=by simp[h1]
 simp only[e1,e2,cF,this,oB,a18];cases p.2.1.all kB<;>rfl;have e1:(((p.2.1.length:Nat):Int) != (((a1w p.1 n warm).length:Nat):Int))=true:=by simp only[bne_iff_ne,ne_eq];omega
 have e2:((a1w p.1 n warm).length==p.2.1.length)=false:=by simp only[beq_eq_false_iff_ne,ne_eq];exact h1
 simp only[e1,e2,cT,a67]
end Go.Ab
namespace Go.Ab
open IntKind(wrap)
@[reducible] def Sub:Type:=Int×(Int×(Int×(Int×(Int×((List Int)×((List Int)×((List Stg)×((List Int)×(Prt×((List Int)×Unit))))))))))
structure SmallS (s:Sub):Prop where
 coefs:s.2.2.2.2.2.1.length≤40
 taps:s.2.2.2.2.2.2.1.length=3
 stages:s.2.2.2.2.2.2.2.1.length≤6
 warm:s.2.2.2.2.2.2.2.2.1.length≤5000
 rest:s.2.2.2.2.2.2.2.2.2.2.1.length≤5000
 ks:s.2.2.2.2.2.2.2.2.2.1.2.1.length≤300
theorem b4q(x y:List Int):eqT (.arr 3 (.int .i64)) x y=decide (x=y):=by
 show((a26 (fun(a b:Int)=>a==b) x y).all id&&x.length==y.length)=_
 induction x generalizing y with
 |nil=>cases y<;>simp
 |cons a x ih=>
  cases y with
  |nil=>simp
  |cons b y=>
   have:=ih y
   simp only[List.zipWith_cons_cons,a43,lC,id];rw[Bool.and_assoc,show((x.length+1==y.length+1):Bool)=(x.length==y.length)from by simp,this]
   by_cases h1:a=b<;>by_cases h2:x=y<;>simp[h1,h2]
theorem b0H{l:List Int}(h:short l):a2K l=some l:=a6P h
theorem c0F{l:List Stg}(h:short l):a1r l=some l:=by
 have h1:lim (0+l.length)=true:=a0D (by unfold short at h;omega);unfold a1r b3O;rw[h1,cT]
def a4V(k:Int)(s:Sub)(n:Int):Prop:=
 k=0∨k=1∨(k=2∧0≤s.2.2.1∧s.2.2.1≤4∧s.2.2.1≤n)∨(k=3∧b2S s.2.2.2.2.2.1 s.2.2.2.1=true∧(s.2.2.2.2.2.1.length:Int)≤n)∨
  (k=4∧b2S s.2.2.2.2.2.1 s.2.2.2.1=true∧(s.2.2.2.2.2.1.length:Int)≤n∧b4W s.2.2.2.2.1 s.2.2.2.2.2.2.1=true)∨
  (k=5∧0<s.2.2.2.2.2.2.2.1.length∧b2z s.2.2.2.2.2.2.2.1=true)
open Classical in
def b5N (k:Int) (s:Sub) (n:Int):Bool:=decide (a4V k s n)
theorem b9i{s:Sub}(h:SmallS s)(k n:Int):a9S (k,s,n)=some (b5N k s n):=by
 have hc:short s.2.2.2.2.2.1:=by have:=h.coefs;unfold short;omega
 have hst:short s.2.2.2.2.2.2.2.1:=by have:=h.stages;unfold short;omega
 unfold a9S b5N a4V
 by_cases k0:k=0
 subst k0;simp
 by_cases k1:k=1
 subst k1;simp;have e0:(k==0)=false:=by simp[k0]
 have e1:(k==1)=false:=by simp[k1]
 simp only[e0,e1,cF,oB]
 by_cases k2:k=2
 subst k2
 by_cases h1:0≤s.2.2.1<;>by_cases h2:s.2.2.1≤4<;>simp[h1,h2]
 by_cases k3:k=3
 subst k3;cases hl:b2S s.2.2.2.2.2.1 s.2.2.2.1<;>simp[a9x hc,hl]
 by_cases k4:k=4
 subst k4;cases hl:b2S s.2.2.2.2.2.1 s.2.2.2.1<;>by_cases h2:(s.2.2.2.2.2.1.length:Int)≤n<;>simp[a9x hc,b5L h.taps,hl,h2]
 by_cases k5:k=5
 subst k5
 by_cases h1:0<s.2.2.2.2.2.2.2.1.length
 simp[b4l hst,h1];simp[h1];have e2:(k==2)=false:=by simp[k2]
 have e3:(k==3)=false:=by simp[k3]
 have e4:(k==4)=false:=by simp[k4]
 have e5:(k==5)=false:=by simp[k5]
 simp only[e2,e3,e4,e5,cF];simp[k0,k1,k2,k3,k4,k5]
def a2L(s:Sub)(n:Int):Int:=if s.1=0 then 1 else if s.1=1 then n else if s.1=2 then s.2.2.1 else if s.1=3∨s.1=4 then(s.2.2.2.2.2.1.length:Int)else 0
theorem b2B(s:Sub)(n:Int):a6h (s,n)=some (a2L s n):=by
 obtain⟨k,s⟩:=s;unfold a6h a2L
 by_cases k0:k=0
 subst k0;simp
 by_cases k1:k=1
 subst k1;simp
 by_cases k2:k=2
 subst k2;simp
 by_cases k3:k=3
 subst k3;simp
 by_cases k4:k=4
 subst k4;simp;have e0:(k==0)=false:=by simp[k0]
 have e1:(k==1)=false:=by simp[k1]
 have e2:(k==2)=false:=by simp[k2]
 have e3:(k==3)=false:=by simp[k3]
 have e4:(k==4)=false:=by simp[k4]
 simp[k0,k1,k2,k3,k4,e0,e1,e2,e3,e4]
def b6v(s:Sub):Prop:=
 (s.1≠2→s.2.2.1=0)∧(s.1≠3∧s.1≠4→s.2.2.2.1=0)∧(s.1≠4→s.2.2.2.2.1=0)∧(s.1≠4→s.2.2.2.2.2.2.1=[0,0,0])∧(s.1≠3∧s.1≠4→s.2.2.2.2.2.1=[])∧(s.1≠5→s.2.2.2.2.2.2.2.1=[])
open Classical in
def b6w (s:Sub):Bool:=decide (b6v s)
theorem b1q{c x:Bool}:(bif c then some x else some false)=some (c&&x):=by cases c<;>rfl
theorem c3F{α:Type}(l:List α):(((l.length:Nat):Int)==0)=decide (l=[]):=by
 cases l with
 |nil=>rfl
 |cons a l=>simp;omega
theorem c3G(x:Int):(x==0)=decide (x=0):=rfl
theorem c6z{s:Sub}(h:SmallS s):b1H s=some (b6w s):=by
 have hc:short s.2.2.2.2.2.1:=by have:=h.coefs;unfold short;omega
 have hst:short s.2.2.2.2.2.2.2.1:=by have:=h.stages;unfold short;omega
 obtain⟨k,w,o,sh,lag,c,t,st,wm,p,r,u⟩:=s;simp only at hc hst;unfold b1H a6i b6w b6v;have ht:(a00 3 (0:Int))=[0,0,0]:=rfl
 by_cases k2:k=2
 subst k2;simp[b4q,ht,b1q,c3F,c3G]
 by_cases k4:k=4
 subst k4;simp[b4q,ht,b1q,c3F,c3G,b0H hc]
 by_cases k3:k=3
 subst k3;simp[b4q,ht,b1q,c3F,c3G,b0H hc]
 by_cases k5:k=5
 subst k5;simp[b4q,ht,b1q,c3F,c3G,c0F hst];have e2:(k==2)=false:=by simp[k2]
 have e3:(k==3)=false:=by simp[k3]
 have e4:(k==4)=false:=by simp[k4]
 have e5:(k==5)=false:=by simp[k5]
 simp[e2,e3,e4,e5,k2,k3,k4,k5,b4q,ht,b1q,c3F,c3G]
theorem a8i(k:Int):a6f k=some (decide (k≠0∧k≠1)):=by
 unfold a6f
 by_cases h0:k=0
 subst h0;rfl
 by_cases h1:k=1
 subst h1;rfl;have e:(k != 0)=true:=by simp[h0]
 simp[e,h0,h1]
def a1M(s:Sub)(n:Int):Prop:=
 1≤n∧n≤4096∧a4V s.1 s n∧b6v s∧0≤s.2.1∧s.2.1≤30∧(s.1=0→s.2.1=0)∧(s.2.2.2.2.2.2.2.2.1.length:Int)=a2L s n∧s.2.2.2.2.2.2.2.2.1.all a0b=true∧s.2.2.2.2.2.2.2.2.2.2.1.all a0b=true∧
  (s.1=0∨s.1=1→s.2.2.2.2.2.2.2.2.2.2.1=[]∧s.2.2.2.2.2.2.2.2.2.1.1=0∧s.2.2.2.2.2.2.2.2.2.1.2.1=[])∧
  (s.1≠0∧s.1≠1→(s.2.2.2.2.2.2.2.2.2.2.1.length:Int)=n-a2L s n∧a6s s.2.2.2.2.2.2.2.2.2.1 n (a2L s n)=true)
theorem c7I{s:Sub}(h:SmallS s){n:Int}(h1:1≤n)(h2:n≤4096)(hf:a4V s.1 s n):0≤a2L s n∧a2L s n≤4096:=by
 have hc:=h.coefs;unfold a2L;rcases hf with k|k|⟨k,h3⟩|⟨k,h3⟩|⟨k,h3⟩|⟨k,h3⟩<;>simp[k]<;>omega
open Classical in
theorem d1q {s:Sub} (h:SmallS s) (n:Int):b0n (s,n)=some (decide (a1M s n)):=by
 have hw:short s.2.2.2.2.2.2.2.2.1:=by have:=h.warm;unfold short;omega
 have hr:short s.2.2.2.2.2.2.2.2.2.2.1:=by have:=h.rest;unfold short;omega
 have hk:short s.2.2.2.2.2.2.2.2.2.1.2.1:=by have:=h.ks;unfold short;omega
 unfold b0n
 by_cases h1:1≤n
 rotate_left
 ·have e1:decide (n<1)=true:=by simp;omega
  have:¬ a1M s n:=fun hp=>h1 hp.1
  simp only[e1,cT,oB,this,decide_false]
 have e1:decide (n<1)=false:=by simp;omega
 by_cases h2:n≤4096
 rotate_left
 ·have e2:decide (n > 4096)=true:=by simp;omega
  have:¬ a1M s n:=fun hp=>h2 hp.2.1
  simp only[e1,e2,cT,cF,oB,this,decide_false]
 have e2:decide (n > 4096)=false:=by simp;omega
 by_cases h3:a4V s.1 s n
 rotate_left
 ·have e3:b5N s.1 s n=false:=by simp[b5N,h3]
  have:¬ a1M s n:=fun hp=>h3 hp.2.2.1
  simp only[e1,e2,b9i h,e3,cT,cF,a24,oB,this,decide_false]
 have e3:b5N s.1 s n=true:=by simp[b5N,h3]
 by_cases h4:b6v s
 rotate_left
 ·have e4:b6w s=false:=by simp[b6w,h4]
  have:¬ a1M s n:=fun hp=>h4 hp.2.2.2.1
  simp only[e1,e2,b9i h,e3,c6z h,e4,cT,cF,a24,bT,oB,this,decide_false]
 have e4:b6w s=true:=by simp[b6w,h4]
 simp only[e1,e2,b9i h,e3,c6z h,e4,cF,bT,oB]
 by_cases h5:0≤s.2.1
 rotate_left
 ·have e5:decide (s.2.1<0)=true:=by simp;omega
  have:¬ a1M s n:=fun hp=>h5 hp.2.2.2.2.1
  simp only[e5,cT,oB,this,decide_false]
 have e5:decide (s.2.1<0)=false:=by simp;omega
 by_cases h6:s.2.1≤30
 rotate_left
 ·have e6:decide (s.2.1 > 30)=true:=by simp;omega
  have:¬ a1M s n:=fun hp=>h6 hp.2.2.2.2.2.1
  simp only[e5,e6,cT,cF,oB,this,decide_false]
 have e6:decide (s.2.1 > 30)=false:=by simp;omega
 simp only[e5,e6,cF]
 by_cases h7:s.1=0→s.2.1=0
 rotate_left
 ·have h7a:s.1=0:=Classical.byContradiction fun hc=>h7 fun e=>absurd e hc
  have h7b:(s.2.1 != 0)=true:=by
   simp only[bne_iff_ne,ne_eq];intro e;exact h7 fun _=>e
  have e7:(s.1==0)=true:=by simp[h7a]
  have:¬ a1M s n:=fun hp=>h7 hp.2.2.2.2.2.2.1
  simp only[e7,h7b,cT,oB,this,decide_false]
 have e7:(bif s.1==0 then some (n,(s.2.1 != 0,(s,())))else some (n,(false,(s,()))))=some (n,(false,(s,()))):=by
  by_cases k0:s.1=0
  ·simp[k0,h7 k0]
  ·have:(s.1==0)=false:=by simp[k0]
   rw[this];rfl
 simp only[e7,oB,cF,b2B]
 by_cases h8:(s.2.2.2.2.2.2.2.2.1.length:Int)=a2L s n
 rotate_left
 ·have e8:(((s.2.2.2.2.2.2.2.2.1.length:Nat):Int) != a2L s n)=true:=by simp only[bne_iff_ne,ne_eq];exact h8
  have:¬ a1M s n:=fun hp=>h8 hp.2.2.2.2.2.2.2.1
  simp only[e8,cT,oB,this,decide_false]
 have e8:(((s.2.2.2.2.2.2.2.2.1.length:Nat):Int) != a2L s n)=false:=by rw[h8];simp
 simp only[e8,cF,a4I hw,a4I hr,oB]
 cases h9:s.2.2.2.2.2.2.2.2.1.all a0b with
 |false=>
  have:¬ a1M s n:=fun hp=>by rw[hp.2.2.2.2.2.2.2.2.1]at h9;cases h9
  simp only[a24,cT,oB,this,decide_false]
 |true=>
  cases h10:s.2.2.2.2.2.2.2.2.2.2.1.all a0b with
  |false=>
   have:¬ a1M s n:=fun hp=>by rw[hp.2.2.2.2.2.2.2.2.2.1]at h10;cases h10
   simp only[a24,bT,cT,cF,oB,this,decide_false]
  |true=>
   simp only[bT,cF,oB,a8i]
   have hwr:=c7I h h1 h2 h3
   by_cases k01:s.1≠0∧s.1≠1
   ·have e11:wrap .i64 (n-a2L s n)=n-a2L s n:=a0n (by omega)
    simp only[k01,ne_eq,not_false_eq_true,and_self,decide_true,bT,cF,e11,b4p hk,oB]
    by_cases h11:(s.2.2.2.2.2.2.2.2.2.2.1.length:Int)=n-a2L s n
    ·have e12:(((s.2.2.2.2.2.2.2.2.2.2.1.length:Nat):Int)==n-a2L s n)=true:=by simp[h11]
     simp only[e12,cT]
     congr 1
     rw[a66,dT]
     constructor
     ·intro hp
      exact⟨h1,h2,h3,h4,h5,h6,h7,h8,h9,h10,fun hc=>absurd hc (by omega),fun _=>⟨h11,hp⟩⟩
     ·intro hp;exact(hp.2.2.2.2.2.2.2.2.2.2.2 k01).2
    ·have e12:(((s.2.2.2.2.2.2.2.2.2.2.1.length:Nat):Int)==n-a2L s n)=false:=by simp only[beq_eq_false_iff_ne,ne_eq];exact h11
     have:¬ a1M s n:=fun hp=>h11 (hp.2.2.2.2.2.2.2.2.2.2.2 k01).1
     simp only[e12,cF,this,decide_false]
   ·have k01':s.1=0∨s.1=1:=by omega
    simp only[k01,decide_false,a24,cT,c3F]
    simp only[c3G,b1q]
    congr 1
    rw[a66,dT]
    simp only[bA,dT]
    constructor
    ·rintro⟨g1,g2,g3⟩
     exact⟨h1,h2,h3,h4,h5,h6,h7,h8,h9,h10,fun _=>⟨g1,g2,g3⟩,fun hc=>absurd hc k01⟩
    ·intro hp;exact hp.2.2.2.2.2.2.2.2.2.2.1 k01'
end Go.Ab
namespace Go.Ab
theorem c2x{α:Type}[DecidableEq α](q:α→α→Bool)(hq:∀a b,q a b=decide (a=b)):∀(x y:List α),x.length=y.length→((x.zip y).all fun p=>q p.1 p.2)=decide (x=y)
 | [],[],_=>by simp
 |a::x,b::y,h=>by
  have ih:=c2x q hq x y (by simpa using h);simp only[List.zip_cons_cons,a43];rw[ih,hq]
  by_cases h1:a=b<;>by_cases h2:x=y<;>simp[h1,h2]
theorem c7J{x y:List Int}(h:short x):a3s (x,y)=some (decide (x=y)):=by
 unfold a3s
 by_cases hl:x.length=y.length
 have e:(((x.length:Nat):Int) != ((y.length:Nat):Int))=false:=by rw[hl];simp
 have hz:(x.zip y).length=x.length:=by rw[List.length_zip];omega
 have:=a1E (f:=a4P) (x.zip y) (fun i=>(x,y,(i:Int),())) (fun p=>p.1==p.2) (bt:=Sum.inl ()) (bf:=Sum.inr (false,()))
  (fun i hi hp=>by
   have h1:i<x.length:=by omega
   have h2:i<y.length:=by omega
   rw[a63]at hp;have hp:x[i]=y[i]:=by simpa using hp
   have hne:(x[i] != y[i])=false:=by rw[hp];simp
   simp only[a4P,dlt h1,cT,a0c h1,a0c h2,oB,hne,cF,a0f (a25 h1 h)])
  (fun i hi hp=>by
   have h1:i<x.length:=by omega
   have h2:i<y.length:=by omega
   rw[a63]at hp;have hne:(x[i] != y[i])=true:=by simpa using hp
   simp only[a4P,dlt h1,cT,a0c h1,a0c h2,oB,hne])
  (by rw[hz];simp[a4P])
 simp only[nZ]at this;simp only[e,cF,this,c2x (fun(a b:Int)=>a==b) (fun _ _=>rfl) x y hl];cases decide (x=y)<;>rfl;have e:(((x.length:Nat):Int) != ((y.length:Nat):Int))=true:=by simp only[bne_iff_ne,ne_eq];omega
 have:¬ x=y:=fun hc=>hl (by rw[hc])
 simp only[e,cT,this,decide_false]
theorem d1r{k:Int}{s:Sub}{n:Int}(h:a4V k s n):k=0∨k=1∨k=2∨k=3∨k=4∨k=5:=by
 unfold a4V at h;omega
end Go.Ab
namespace Go.Ab
def c1h(warm rest:List Int)(o:Int):Option (List Int):=bif warm.all a0b&&rest.all a0b then a4s (a4U o.toNat) rest warm else none
def backP(s:Sub):Option (List Int):=
 if s.1=1 then some s.2.2.2.2.2.2.2.2.1
 else if s.1=2 then c1h s.2.2.2.2.2.2.2.2.1 s.2.2.2.2.2.2.2.2.2.2.1 s.2.2.1
 else if s.1=3 then b4m s.2.2.2.2.2.2.2.2.1 s.2.2.2.2.2.2.2.2.2.2.1 s.2.2.2.2.2.1 s.2.2.2.1
 else if s.1=4 then(b4m s.2.2.2.2.2.2.2.2.1 s.2.2.2.2.2.2.2.2.2.2.1 s.2.2.2.2.2.1 s.2.2.2.1).bind fun l=>b3p l s.2.2.2.2.1 s.2.2.2.2.2.2.1
 else b2A s.2.2.2.2.2.2.2.2.2.2.1 s.2.2.2.2.2.2.2.1
def c3H(s:Sub)(n:Int):Option (List Int):=
 if s.1=0 then some (a00 n.toNat (s.2.2.2.2.2.2.2.2.1.getD 0 0))else(backP s).bind (upO s.2.1)
theorem b1W{w r c:List Int}{s:Int}{l}(h:b4m w r c s=some l):l.length=w.length+r.length:=by
 unfold b4m at h;cases hc:(w.all a0b&&r.all a0b)with
 |false=>rw[hc]at h;cases h
 |true=>
  rw[hc]at h;exact(b3n _ r w l (a53.1 hc).1 h).2
theorem c0G{w r:List Int}{o:Int}{l}(h:c1h w r o=some l):l.length=w.length+r.length:=by
 unfold c1h at h;cases hc:(w.all a0b&&r.all a0b)with
 |false=>rw[hc]at h;cases h
 |true=>
  rw[hc]at h;exact(b3n _ r w l (a53.1 hc).1 h).2
theorem b9j{r t:List Int}{lag:Int}{l}(h:b3p r lag t=some l):l.length=r.length:=by
 unfold b3p at h;cases hc:r.all a0b with
 |false=>rw[hc]at h;cases h
 |true=>
  rw[hc]at h
  have:=(b3n _ r [] l rfl h).2
  simpa using this
theorem c4v:∀(st:List Stg)(r:List Int){l},lO st r=some l→l.length=r.length
 | [],r,l,h=>by simp only[lO,sj]at h;rw[h]
 |s::st,r,l,h=>by
  simp only[lO]at h
  split at h
  rename_i r' hr;rw[c4v st r' h,b7f _ _ _ hr];simp;cases h
theorem b7Q{r:List Int}{st:List Stg}{l}(h:b2A r st=some l):l.length=r.length:=by
 unfold b2A at h;cases hc:r.all a0b with
 |false=>rw[hc]at h;cases h
 |true=>rw[hc]at h;exact c4v _ _ h
theorem c6A{s:Sub}(h:SmallS s){l}(hl:backP s=some l):l.length<100000:=by
 have hw:=h.warm;have hr:=h.rest;unfold backP at hl
 split at hl
 simp only[sj]at hl;rw[←hl];omega
 split at hl
 rw[c0G hl];omega
 split at hl
 rw[b1W hl];omega
 split at hl
 obtain⟨l1,h1,h2⟩:=Option.bind_eq_some_iff.1 hl;rw[b9j h2,b1W h1];omega;rw[b7Q hl];omega
theorem d1s{s:Sub}{n:Int}(h1:1≤n)(h2:n≤4096)(hw:s.2.2.2.2.2.2.2.2.1.length=1):
  a0h a7e (n,(0:Int),([]:List Int),s,())=some (a00 n.toNat (s.2.2.2.2.2.2.2.2.1.getD 0 0),()):=by
 obtain⟨N,rfl⟩:=a22 (show 0≤n by omega);have hg:a0m s.2.2.2.2.2.2.2.2.1 (0:Int)=some (s.2.2.2.2.2.2.2.2.1.getD 0 0):=c6s (by omega) (by omega)
 have:=a3R (f:=a7e) (fun i=>((N:Int),(i:Int),a00 i (s.2.2.2.2.2.2.2.2.1.getD 0 0),s,())) N
  (b:=(a00 N (s.2.2.2.2.2.2.2.2.1.getD 0 0),())) (fun i hi=>by
   have hlim:lim ((a00 i (s.2.2.2.2.2.2.2.2.1.getD 0 0)).length+1)=true:=a0D (by rw[a31];omega);have ea:a00 i (s.2.2.2.2.2.2.2.2.1.getD 0 0)++[s.2.2.2.2.2.2.2.2.1.getD 0 0]=a00 (i+1) (s.2.2.2.2.2.2.2.2.1.getD 0 0):=by rw[←a38]
   simp only[a7e,dlt hi,cT,hg,oB,hlim,a40,ea,a0f (show i<1000000 by omega)])
  (by simp[a7e])
 simpa using this
theorem d2v(o:Option (List Int)):((a2Q o).1,(a2Q o).2)=a2Q o:=by cases o<;>rfl
theorem c7K{s:Sub}(h:SmallS s){n:Int}(hp:a1M s n):b3g (s,n)=some (a2Q (c3H s n)):=by
 have hbl:=fun l (hl:backP s=some l)=>c6A h hl;obtain⟨h1,h2,hf,-,hw0,hw30,-,hlen,hw,hr,-⟩:=hp;have hsr:=h.rest;have hsw:=h.warm;have ht:=h.taps;have hfl:=d1s (s:=s) h1 h2;obtain⟨k,w,o,sh,lag,c,t,st,wm,p,r,u⟩:=s;simp only at *;have up:∀l,l.length<100000→a8Z (l,w)=some (a2Q (upO w l)):=fun l hl=>c6u hw0 hw30 hl;unfold b3g c3H;rcases hf with k0|k0|⟨k0,g1,g2,g3⟩|⟨k0,g1,g2⟩|⟨k0,g1,g2,g3⟩|⟨k0,g1,g2⟩;subst k0;simp only[a2L]at hlen
 have:=hfl (by simp at hlen;omega)
 simp[this,a2Q];subst k0;simp only[backP]at hbl⊢
 have:=up wm (by omega)
 simp[this,d2v]
 ·subst k0;obtain⟨O,rfl⟩:=a22 g1;have g2:(O:Int)≤4:=g2;simp only[a2L]at hlen;have hO:wm.length=O:=by simp at hlen;omega
  have h5:=c4V (warm:=wm) (rest:=r) (o:=O) (by omega) hO (by omega);simp only[backP]at hbl⊢;simp[h5];have e:(bif wm.all a0b&&r.all a0b then a4s (a4U O) r wm else none)=c1h wm r (O:Int):=rfl;rw[e];cases hl:c1h wm r (O:Int)with
  |none=>simp[a2Q]
  |some l=>simp[a2Q,up l (by rw[c0G hl];omega)]
 ·subst k0;simp only[a2L]at hlen;have hO:wm.length=c.length:=by simp at hlen;omega
  have h5:=b6t (rest:=r) g1 hO (by omega);simp only[backP]at hbl⊢;simp[h5];cases hl:b4m wm r c sh with
  |none=>simp[a2Q]
  |some l=>simp[a2Q,up l (by rw[b1W hl];omega)]
 ·subst k0;simp only[a2L]at hlen;have hO:wm.length=c.length:=by simp at hlen;omega
  have h5:=b6t (rest:=r) g1 hO (by omega);simp only[backP]at hbl⊢;simp[h5];cases hl:b4m wm r c sh with
  |none=>simp[a2Q]
  |some l=>
   have hll:=b1W hl;have h6:=c6t (rest:=l) g3 ht (by omega);simp[a2Q,h6];cases hl2:b3p l lag t with
   |none=>simp
   |some l2=>simp[up l2 (by rw[b9j hl2];omega)];cases upO w l2<;>simp[a2Q]
 ·subst k0;have h5:=c4X (rest:=r) g2 (by omega);simp only[backP]at hbl⊢;simp[h5];cases hl:b2A r st with
  |none=>simp[a2Q]
  |some l=>simp[a2Q,up l (by rw[b7Q hl];omega)]
open Classical in
def a3K (s:Sub) (n:Int):Option (List Int):=if a1M s n then c3H s n else none
theorem c2y{s:Sub}(h:SmallS s)(n:Int):b2q (s,n)=some (match a3K s n with|some r=>(r,0)|none=>([],1)):=by
 unfold b2q a3K;simp only[d1q h,oB]
 by_cases hp:a1M s n
 simp only[hp,decide_true,bT,cF,c7K h hp,oB,if_true];cases c3H s n<;>simp[a2Q];simp only[hp,decide_false,a24,cT,if_false]
theorem c9W{s:Sub}(h:SmallS s)(n:Int):a9T (s,n)=some (a3K s n).isSome:=by
 unfold a9T;simp only[c2y h,oB];cases a3K s n<;>rfl
end Go.Ab
namespace Go.Ab
open IntKind(wrap)
@[reducible] def Wr:Type:=(List Int)×(Int×Unit)
def c9X(w:Wr)(b:Int):Wr:=
 let bs:=if w.2.1%8=0 then w.1++[0]else w.1
 (bs.set (w.2.1 / 8).toNat (bits .u8 .or (bs.getD (w.2.1 / 8).toNat 0) (a0z .u8 b (7-w.2.1%8))),w.2.1+1,())
def wL(L:List Int):Wr:=L.foldl c9X ([],0,())
theorem c8s(L:List Int)(b:Int):wL (L++[b])=c9X (wL L) b:=by simp[wL]
theorem c2z:∀(n:Nat)(L:List Int),L.length=n→(wL L).2.1=L.length∧(wL L).1.length=(L.length+7) / 8
 |0,L,h=>by
  rw[List.length_eq_zero_iff.1 h];exact⟨rfl,rfl⟩
 |n+1,L,h=>by
  obtain⟨L',b,rfl⟩:∃L' b,L=L'++[b]:=by
   rcases List.eq_nil_or_concat L with rfl|⟨L',b,e⟩;simp at h;exact⟨L',b,by rw[e,List.concat_eq_append]⟩
  obtain⟨h1,h2⟩:=c2z n L' (by simpa using h);rw[c8s];simp only[c9X,List.length_set,lN,List.length_singleton,h1];refine⟨by omega,?_⟩
  by_cases h:(L'.length:Int)%8=0
  rw[if_pos h];simp;omega;rw[if_neg h];omega
theorem c6B(L:List Int):(wL L).2.1=L.length∧(wL L).1.length=(L.length+7) / 8:=c2z _ L rfl
theorem c6C{L:List Int}(hL:L.length<1000000000)(b:Int):a2p (wL L,b)=some (wL (L++[b])):=by
 obtain⟨h1,h2⟩:=c6B L;have ht:a08 ((L.length:Nat):Int) 8=((L.length:Nat):Int)%8:=Int.tmod_eq_emod_of_nonneg (by omega);have hd:a19 ((L.length:Nat):Int) 8=((L.length:Nat):Int) / 8:=Int.tdiv_eq_ediv_of_nonneg (by omega);have e1:wrap .i64 (((L.length:Nat):Int) / 8)=((L.length:Nat):Int) / 8:=a0n (by omega);have e2:wrap .i64 (7-((L.length:Nat):Int)%8)=7-((L.length:Nat):Int)%8:=a0n (by omega);have e3:wrap .i64 (((L.length:Nat):Int)+1)=((L.length:Nat):Int)+1:=a0n (by omega);have g0:decide ((0:Int)≤((L.length:Nat):Int) / 8)=true:=by simp;omega
 have g1:decide (7-((L.length:Nat):Int)%8<0)=false:=by simp;omega
 rw[c8s];generalize wL L=wr at h1 h2⊢;obtain⟨bs,n,u⟩:=wr;have h1:n=((L.length:Nat):Int):=h1;have h2:bs.length=(L.length+7) / 8:=h2;subst h1;unfold a2p c9X
 by_cases h:((L.length:Nat):Int)%8=0
 have hb:(((L.length:Nat):Int)%8==0)=true:=by simp[h]
 have hl:lim (bs.length+1)=true:=a9g (by omega);have hlt:decide (((L.length:Nat):Int) / 8<(((bs++[0]).length:Nat):Int))=true:=by simp;omega
 simp only[hb,cT,hl,oB,hd,e1,e2,e3,ht,g0,g1,a40,hlt,a09,cF,if_pos h];have hb:(((L.length:Nat):Int)%8==0)=false:=by simp only[beq_eq_false_iff_ne,ne_eq];exact h
 have hlt:decide (((L.length:Nat):Int) / 8<((bs.length:Nat):Int))=true:=by simp;omega
 simp only[hb,cF,oB,hd,e1,e2,e3,ht,g0,g1,hlt,a09,cT,if_neg h]
def c5r(v:Int)(i:Nat):Int:=wrap .u8 (bits .u64 .and (a0A .u64 v (i:Int)) 1)
def pb(v:Int):Nat→List Int
 |0=>[]
 |i+1=>c5r v i::pb v i
theorem b9k(v:Int):∀n,(pb v n).length=n
 |0=>rfl
 |n+1=>by simp[pb,b9k v n]
def a0s(v:Int)(n:Nat)(L:List Int):List Int:=bif a0A .u64 v (n:Int) != 0 then L else L++pb v n
theorem a0y(v:Int)(n:Nat)(L:List Int):L.length≤(a0s v n L).length∧(a0s v n L).length≤L.length+n:=by
 unfold a0s;cases (a0A .u64 v (n:Int) != 0)<;>simp[b9k]
def a8j(v:Int)(n:Nat):Int:=bif a0A .u64 v (n:Int) != 0 then 1 else 0
theorem c6D{v:Int}:∀(n:Nat)(L:List Int),L.length+n<1000000000→a0h a4r (v,(n:Int)-1,wL L,())=some (wL (L++pb v n),())
 |0,L,_=>by rw[a0q (b:=(wL L,())) (by simp[a4r])];simp[pb]
 |n+1,L,h=>by
  have e:((n+1:Nat):Int)-1=(n:Int):=by omega
  have e1:wrap .i64 ((n:Int)-1)=(n:Int)-1:=a0n (by omega);have h1:decide ((n:Int)≥0)=true:=by simp
  have h2:decide ((n:Int)<0)=false:=by simp
  rw[e,a0x (s':=(v,(n:Int)-1,wL (L++[c5r v n]),())) (by
   simp only[a4r,h1,h2,cT,cF,show wrap .u8 (bits .u64 .and (a0A .u64 v (n:Int)) 1)=c5r v n from rfl,c6C (show L.length<1000000000 by omega),oB,e1])]
  rw[c6D n (L++[c5r v n]) (by simp;omega),pb]
  simp
theorem a3F{L:List Int}{v:Int}{n:Nat}(hn:n≤63)(hL:L.length<999999000):a0j (wL L,v,(n:Int))=some (a8j v n,wL (a0s v n L)):=by
 unfold a0j a8j a0s;have h1:decide ((n:Int)<0)=false:=by simp
 have h2:decide ((n:Int) > 64)=false:=by simp;omega
 have e1:wrap .i64 ((n:Int)-1)=(n:Int)-1:=a0n (by omega);simp only[h1,h2,cF,oB];cases (a0A .u64 v (n:Int) != 0)with
 |true=>rfl
 |false=>simp only[cF,e1,c6D n L (by omega),oB]
def unL(n:Nat)(L:List Int):List Int:=L++a00 n 0++[1]
theorem c6E{L:List Int}{n:Nat}(hn:n≤4096)(hL:L.length<999990000):a2C (wL L,(n:Int))=some (0,wL (unL n L)):=by
 unfold a2C unL;have h1:decide ((n:Int)<0)=false:=by simp
 have h2:decide ((n:Int) > 4096)=false:=by simp;omega
 simp only[h1,h2,cF,oB]
 have:=a3R (f:=a3O) (fun i=>((n:Int),(i:Int),wL (L++a00 i 0),())) n (b:=(wL (L++a00 n 0),())) (fun i hi=>by
   have ea:L++a00 i (0:Int)++[0]=L++a00 (i+1) 0:=by rw[aA,←a38]
   simp only[a3O,dlt hi,cT,c6C (show(L++a00 i (0:Int)).length<1000000000 by simp;omega),oB,ea,a0f (show i<1000000 by omega)])
  (by simp[a3O])
 simp only[nZ,a54,a50]at this;simp only[this,oB,c6C (show(L++a00 n (0:Int)).length<1000000000 by simp;omega)]
theorem a8M(n:Nat)(L:List Int):(unL n L).length=L.length+n+1:=by simp[unL];omega
def a3y(x:Int)(n:Nat):Int:=bits .u64 .and (wrap .u64 x) (wrap .u64 ((a0z .u64 1 (n:Int))-1))
def a1T(n:Nat)(l:List Int)(L:List Int):List Int:=l.foldl (fun L x=>a0s (a3y x n) n L) L
theorem a6t(n:Nat):∀(l L:List Int),L.length≤(a1T n l L).length∧(a1T n l L).length≤L.length+n*l.length
 | [],L=>by simp[a1T]
 |x::l,L=>by
  have h1:=a0y (a3y x n) n L;have h2:=a6t n l (a0s (a3y x n) n L);have e:a1T n (x::l) L=a1T n l (a0s (a3y x n) n L):=rfl;rw[e,lC,Nat.mul_add,Nat.mul_one];omega
theorem b4r{L:List Int}{x:Int}{n:Nat}(hn:n≤63)(hL:L.length<999999000):a3f (wL L,x,(n:Int))=some (wL (a0s (a3y x n) n L)):=by
 unfold a3f;have h1:decide ((n:Int)<0)=false:=by simp
 simp only[h1,cF,show bits .u64 .and (wrap .u64 x) (wrap .u64 ((a0z .u64 1 (n:Int))-1))=a3y x n from rfl,a3F hn hL,oB]
end Go.Ab
