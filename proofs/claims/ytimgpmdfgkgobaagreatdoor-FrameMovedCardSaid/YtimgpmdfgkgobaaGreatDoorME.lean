/- Part of the proof: It. Conditions: as each statement tells. -/
import Derived.RangeFuncBound
import Derived.RangeFuncCalls
import Derived.RangeFuncBox
import Derived.WalkKit
import Derived.OwnWalkIn
import Derived.TacticsInMore
import Derived.LoopNIn
import Derived.LoopIn
import Derived.Test.YtimgpmdfgkgobaaGreatDoorProg
import Derived.KernelRfl
import Derived.Test.YtimgpmdfgkgobaaGreatDoorMD
noncomputable section
set_option linter.unusedSimpArgs false
set_option linter.unusedVariables false
open Array renaming replicate_succ→a20,replicate_zero→a21
open Bool renaming and_self→a08,true_and→a17,not_false→a19,and_eq_false_iff→a37,eq_iff_iff→a52,and_eq_true_iff→a55,or_eq_true→a66,false_and→a68
open Int renaming toNat→a01,tdiv→a18,eq_ofNat_of_zero_le→a23,tmod→a25,add_bmod_bmod→a45,sub_bmod_bmod→a46,bmod_sub_bmod→a47,bmod_add_bmod→a60,one_mul→a63,natCast_pow→a65
open List renaming replicate→a00,length→a02,getD→a03,append→a04,set→a05,drop_eq_getElem_cons→a06,take→a07,nil_append→a09,cons_append→a16,append_toArray→a24,zipWith→a26,size_toArray→a27,push_toArray→a28,length_nil→a29,drop→a30,length_replicate→a31,drop_zero→a32,drop_length→a33,getElem_zip→a38,replicate_succ'→a39,append_eq→a41,getElem?_append_right→a43,all_cons→a44,length_take→a48,drop_eq_nil_of_le→a49,append_nil→a51,set_append_right→a53,getElem_zipWith→a54,replicate_zero→a56,set_cons_zero→a57,getElem?_drop→a58,take_add_one→a61,take_length→a62,getElem_mem→a64,length_zip→a67
open Nat renaming lt_trans→a22,reduceAdd→a34,reduceSub→a35,sub_self→a40,le_refl→a42,min_eq_left→a50,add_zero→a59
open Option renaming getD_some→a36
namespace Go.Ab
open Go.Proofs Go.RowKit
attribute [local go_sem] Oper.semAt_some
set_option maxHeartbeats 1000000 in
theorem d6J:c8b Tryz.prog 260 295:=by
 refine⟨⟨_,_,Tryz.func260,rfl,by kernel_rfl⟩,fun A len cap w=>(callsIn_wide (n:=3)).1 ?_⟩
 refine callsIn_of_wp Tryz.func260 rfl trivial ?_
 simp only[Tryz.ntmps260,a27,lC,a29,a34,a35,a20,a21,a28,a24,a09,a16]
 gi_wp2
 go_ret
 exact⟨rfl,_,rfl⟩
@[reducible] def b5I:Ty:=.pair (.int .i64) (.pair (.int .i64) .unit)
set_option maxRecDepth 100000 in
set_option maxHeartbeats 2000000 in
theorem d4N (l Bs b off len cap:Nat) (p q:Nat→Int) (J:Nat→World→Prop) (Jx:World→Prop) (W:World)
  (hJ:∀k W',J k W'→W'.cell? ⟨Bs,0,none⟩=some (.slice (some ⟨b,off,none⟩) len cap))
  (hlen:len<2147483648)
  (hcs:∀k W',k<len→J (k+1) W'→W'.cell? ⟨b,off+k*2,none⟩=some (.int .i64 (p k))∧W'.cell? ⟨b,off+k*2+1,none⟩=some (.int .i64 (q k)))
  (hY:∀n W',n<len→J (n+1) W'→YieldAt (Fr none) 0 Tryz.prog l #[.int .i64 (n:Int),.agg #[.int .i64 (p n),.int .i64 (q n)]] W' fun en W''=>(en=.returned (.bool true)∧J n W'')∨(en=.returned (.bool false)∧Jx W''))
  (h0:J len W):
  CallsIn (Fr none) 0 Tryz.prog 295 #[.func (.yield l) #[] #[],.pointer (some ⟨Bs,0,none⟩)] W fun en W'=>(∃v,en=.returned v)∧(J 0 W'∨Jx W'):=by
 refine callsIn_of_wp Tryz.func295 rfl trivial ?_
 simp only[Tryz.ntmps295,a27,lC,a29,a34,a35,a20,a21,a28,a24,a09,a16]
 have hBs:=hJ _ _ h0
 gi_wp2
 gi_loopw [3] (fun i wr=>∃k:Nat,k≤len∧i=.int .i64 ((k:Int)-1)∧J k wr) (fun i _=>(intOf i+1).toNat)
 case atStart=>exact⟨len,a42 _,rfl,h0⟩
 case round=>
  obtain⟨k,hk,rfl,hJs⟩:=hrel
  cases k with
  |succ n=>
   obtain⟨fn,tmps,assign,body,hy,hR⟩:=hY n wr (by omega) hJs
   have hcx:=hJ _ _ hJs
   obtain⟨hc0,hc1⟩:=hcs n wr (by omega) hJs
   gi_wp2
   refine hR.mono ?_
   rintro e W3 (⟨rfl,hJ3⟩|⟨rfl,hJx3⟩)
   ·gi_wp2
    go_roundw
    case rel=>exact⟨n,by omega,by simp,hJ3⟩
    case measure=>simp[intOf]
   ·gi_wp2
    refine bodyPost_ret (results_none rfl _ _ _) rfl ?_
    exact⟨⟨_,rfl⟩,.inr hJx3⟩
  |zero=>
   gi_wp2
   go_end0
   exact⟨⟨_,rfl⟩,.inl hJs⟩
set_option maxRecDepth 100000 in
set_option maxHeartbeats 2000000 in
theorem d3t (l Bs:Nat) (A:Option Addr) (c:Nat) (J:Nat→World→Prop) (W:World) (hBs:W.cell? ⟨Bs,0,none⟩=some (.slice A 0 c)) (h0:J 0 W):
  CallsIn (Fr none) 0 Tryz.prog 295 #[.func (.yield l) #[] #[],.pointer (some ⟨Bs,0,none⟩)] W fun en W'=>(∃v,en=.returned v)∧J 0 W':=by
 refine callsIn_of_wp Tryz.func295 rfl trivial ?_
 simp only[Tryz.ntmps295,a27,lC,a29,a34,a35,a20,a21,a28,a24,a09,a16]
 gi_wp2
 gi_loopw [3] (fun i wr=>i=.int .i64 (-1)∧J 0 wr) (fun _ _=>0)
 case atStart=>exact⟨rfl,h0⟩
 case round=>
  obtain⟨rfl,hJs⟩:=hrel
  gi_wp2
  go_end0
  exact⟨⟨_,rfl⟩,hJs⟩
theorem c6a{m:Mem}{Sh:Nat→Prop}{b o:Nat}{x:b5I.den}{R}(h:dec m b5I ((Src.at b o).rd m)=some (x,[],R)):
  m b o=some (.int .i64 x.1)∧m b (o+1)=some (.int .i64 x.2.1)∧VOk m Sh b5I x (.agg #[.int .i64 x.1,.int .i64 x.2.1]):=by
 obtain⟨p,q,u⟩:=x;simp only[b5I,dec,Src.rd,Ty.cells,a59]at h
 split at h
 cases h;rename_i x1 o1 r1 h1
 split at h1
 rename_i n hn
 split at h1
 rename_i e;subst e;simp only[sj]at h1;obtain⟨rfl,rfl,rfl⟩:=h1
 split at h
 cases h;rename_i x2 o2 r2 h2
 split at h2
 cases h2;rename_i x3 o3 r3 h3
 split at h3
 rename_i n' hn'
 split at h3
 rename_i e;subst e;simp only[sj]at h3 h2 h;obtain⟨rfl,rfl,rfl⟩:=h3;obtain⟨rfl,rfl,rfl⟩:=h2;obtain⟨⟨rfl,rfl,rfl⟩,-,-⟩:=h;exact⟨hn,hn',fun _=>⟨_,rfl,rfl⟩,fun h=>(by cases h),[],rfl,by simp⟩;cases h3;cases h3;cases h1;cases h1
theorem b9s {P:Program} {f:FuncId} (hb:b1L P f) (args:Array Value) (w:World):(callFunc f args).run P w=.ok (.enter f args) w:=by
 obtain ⟨fn,c',h1,h2,h3⟩:=hb;have h4 : ¬ fn.name = "runtime.NumGoroutine" := by simpa using h3
 simp [callFunc,program,Sem.run,h1,h2,h4,Result.andThen]
theorem d6K:c3C Tryz.prog 295 b5I:=by
 refine⟨fun args w=>b9s ⟨_,_,Tryz.func295,rfl,by kernel_rfl⟩ args w,fun l Bs sv xs J Jx W hlen hJ hY h0=>?_⟩;obtain⟨hc,Sh,hsv⟩:=hJ _ _ h0;obtain⟨A,n,c,rfl,rfl,hnc,hsp,hnil⟩:=hsv.header
 by_cases hx0:xs.length=0
 rw[hx0]at h0 hc;exact(d3t l Bs A c J W hc h0).mono fun e W' h=>⟨h.1,.inl h.2⟩;cases A with
 |none=>have:=hnil rfl;omega
 |some A=>
  obtain⟨b,off,spot⟩:=A
  have:=(hsp _ rfl).resolve_left (by omega)
  simp only at this;subst this;have hel:∀k W',k<xs.length→J (k+1) W'→∃x,xs[k]?=some x∧W'.cell? ⟨b,off+k*2,none⟩=some (.int .i64 x.1)∧W'.cell? ⟨b,off+k*2+1,none⟩=some (.int .i64 x.2.1):=by
   intro k W' hk hj;obtain⟨-,Sh',hv⟩:=hJ _ _ hj;obtain⟨A',n',c',R,e,h1,h2,h3,h4,h5,h6⟩:=hv.elem rfl (lG hk);simp only[Value.slice.injEq,sj]at e;obtain⟨rfl,rfl,rfl⟩:=e;obtain⟨g1,g2,-⟩:=c6a (Sh:=Sh') h4;exact⟨_,lG hk,g1,g2⟩
  refine d4N l Bs b off xs.length c (fun k=>((xs[k]?).getD b5I.dflt).1) (fun k=>((xs[k]?).getD b5I.dflt).2.1) J Jx W (fun k W' hj=>(hJ k W' hj).1) hlen (fun k W' hk hj=>?_) (fun n W' hn hj=>?_) h0;obtain⟨x,hx,g1,g2⟩:=hel k W' hk hj;simp only[hx,a36];exact⟨g1,g2⟩;have hx:xs[n]?=some xs[n]:=lG hn;simp only[hx,a36];refine hY n _ _ W' hx hj fun Sh' hv=>?_
  obtain⟨A',n',c',R,e,h1,h2,h3,h4,h5,h6⟩:=hv.elem rfl hx;exact(c6a (Sh:=Sh') h4).2.2
set_option maxHeartbeats 1000000 in
theorem d6L:c8b Tryz.prog 107 196:=by
 refine⟨⟨_,_,Tryz.func107,rfl,by kernel_rfl⟩,fun A len cap w=>(callsIn_wide (n:=3)).1 ?_⟩
 refine callsIn_of_wp Tryz.func107 rfl trivial ?_
 simp only[Tryz.ntmps107,a27,lC,a29,a34,a35,a20,a21,a28,a24,a09,a16]
 gi_wp2
 go_ret
 exact⟨rfl,_,rfl⟩
@[reducible] def b8L:Ty:=.pair (.int .i64) (.pair (.int .i64) (.pair (.int .i64) .unit))
set_option maxRecDepth 100000 in
set_option maxHeartbeats 2000000 in
theorem d4O (l Bs b off len cap:Nat) (p q r:Nat→Int) (J:Nat→World→Prop) (Jx:World→Prop) (W:World)
  (hJ:∀k W',J k W'→W'.cell? ⟨Bs,0,none⟩=some (.slice (some ⟨b,off,none⟩) len cap))
  (hlen:len<2147483648)
  (hcs:∀k W',k<len→J (k+1) W'→W'.cell? ⟨b,off+k*3,none⟩=some (.int .i64 (p k))∧W'.cell? ⟨b,off+k*3+1,none⟩=some (.int .i64 (q k))∧W'.cell? ⟨b,off+k*3+2,none⟩=some (.int .i64 (r k)))
  (hY:∀n W',n<len→J (n+1) W'→YieldAt (Fr none) 0 Tryz.prog l #[.int .i64 (n:Int),.agg #[.int .i64 (p n),.int .i64 (q n),.int .i64 (r n)]] W' fun en W''=>(en=.returned (.bool true)∧J n W'')∨(en=.returned (.bool false)∧Jx W''))
  (h0:J len W):
  CallsIn (Fr none) 0 Tryz.prog 196 #[.func (.yield l) #[] #[],.pointer (some ⟨Bs,0,none⟩)] W fun en W'=>(∃v,en=.returned v)∧(J 0 W'∨Jx W'):=by
 refine callsIn_of_wp Tryz.func196 rfl trivial ?_
 simp only[Tryz.ntmps196,a27,lC,a29,a34,a35,a20,a21,a28,a24,a09,a16]
 have hBs:=hJ _ _ h0
 gi_wp2
 gi_loopw [3] (fun i wr=>∃k:Nat,k≤len∧i=.int .i64 ((k:Int)-1)∧J k wr) (fun i _=>(intOf i+1).toNat)
 case atStart=>exact⟨len,a42 _,rfl,h0⟩
 case round=>
  obtain⟨k,hk,rfl,hJs⟩:=hrel
  cases k with
  |succ n=>
   obtain⟨fn,tmps,assign,body,hy,hR⟩:=hY n wr (by omega) hJs
   have hcx:=hJ _ _ hJs
   obtain⟨hc0,hc1,hc2⟩:=hcs n wr (by omega) hJs
   gi_wp2
   refine hR.mono ?_
   rintro e W3 (⟨rfl,hJ3⟩|⟨rfl,hJx3⟩)
   ·gi_wp2
    go_roundw
    case rel=>exact⟨n,by omega,by simp,hJ3⟩
    case measure=>simp[intOf]
   ·gi_wp2
    refine bodyPost_ret (results_none rfl _ _ _) rfl ?_
    exact⟨⟨_,rfl⟩,.inr hJx3⟩
  |zero=>
   gi_wp2
   go_end0
   exact⟨⟨_,rfl⟩,.inl hJs⟩
set_option maxRecDepth 100000 in
set_option maxHeartbeats 2000000 in
theorem d3u (l Bs:Nat) (A:Option Addr) (c:Nat) (J:Nat→World→Prop) (W:World) (hBs:W.cell? ⟨Bs,0,none⟩=some (.slice A 0 c)) (h0:J 0 W):
  CallsIn (Fr none) 0 Tryz.prog 196 #[.func (.yield l) #[] #[],.pointer (some ⟨Bs,0,none⟩)] W fun en W'=>(∃v,en=.returned v)∧J 0 W':=by
 refine callsIn_of_wp Tryz.func196 rfl trivial ?_
 simp only[Tryz.ntmps196,a27,lC,a29,a34,a35,a20,a21,a28,a24,a09,a16]
 gi_wp2
 gi_loopw [3] (fun i wr=>i=.int .i64 (-1)∧J 0 wr) (fun _ _=>0)
 case atStart=>exact⟨rfl,h0⟩
 case round=>
  obtain⟨rfl,hJs⟩:=hrel
  gi_wp2
  go_end0
  exact⟨⟨_,rfl⟩,hJs⟩
theorem c4X{m:Mem}{rd:Nat→Option Value}{x o r}(h:dec m (.int .i64) rd=some (x,o,r)):rd 0=some (.int .i64 x)∧o=[]∧r=[]:=by
 simp only[dec]at h
 split at h
 rename_i k n hn
 split at h
 rename_i e;subst e;simp only[sj,pJ]at h;obtain⟨rfl,rfl,rfl⟩:=h;exact⟨hn,rfl,rfl⟩;cases h;cases h
theorem c2H{m:Mem}{a b:Ty}{rd:Nat→Option Value}{x o r}(h:dec m (.pair a b) rd=some (x,o,r)):∃o1 r1 o2 r2,dec m a rd=some (x.1,o1,r1)∧dec m b (fun j=>rd (a.cells+j))=some (x.2,o2,r2)∧o=o1++o2∧r=r1++r2:=by
 simp only[dec]at h
 split at h
 cases h;rename_i x1 o1 r1 h1
 split at h
 cases h;rename_i x2 o2 r2 h2;simp only[sj,pJ]at h;obtain⟨rfl,rfl,rfl⟩:=h;exact⟨_,_,_,_,h1,h2,rfl,rfl⟩
theorem c8f{m:Mem}{Sh:Nat→Prop}{b o:Nat}{x:b8L.den}{R}(h:dec m b8L ((Src.at b o).rd m)=some (x,[],R)):
  m b o=some (.int .i64 x.1)∧m b (o+1)=some (.int .i64 x.2.1)∧m b (o+2)=some (.int .i64 x.2.2.1)∧VOk m Sh b8L x (.agg #[.int .i64 x.1,.int .i64 x.2.1,.int .i64 x.2.2.1]):=by
 obtain⟨_,_,_,_,h1,h2,-,-⟩:=c2H h;obtain⟨_,_,_,_,h3,h4,-,-⟩:=c2H h2;obtain⟨_,_,_,_,h5,-,-,-⟩:=c2H h4;exact⟨(c4X h1).1,(c4X h3).1,(c4X h5).1,fun _=>⟨_,rfl,rfl⟩,fun h=>(by cases h),[],rfl,by simp⟩
theorem d6M:c3C Tryz.prog 196 b8L:=by
 refine⟨fun args w=>b9s ⟨_,_,Tryz.func196,rfl,by kernel_rfl⟩ args w,fun l Bs sv xs J Jx W hlen hJ hY h0=>?_⟩;obtain⟨hc,Sh,hsv⟩:=hJ _ _ h0;obtain⟨A,n,c,rfl,rfl,hnc,hsp,hnil⟩:=hsv.header
 by_cases hx0:xs.length=0
 rw[hx0]at h0 hc;exact(d3u l Bs A c J W hc h0).mono fun e W' h=>⟨h.1,.inl h.2⟩;cases A with
 |none=>have:=hnil rfl;omega
 |some A=>
  obtain⟨b,off,spot⟩:=A
  have:=(hsp _ rfl).resolve_left (by omega)
  simp only at this;subst this;have hel:∀k W',k<xs.length→J (k+1) W'→∃x,xs[k]?=some x∧W'.cell? ⟨b,off+k*3,none⟩=some (.int .i64 x.1)∧W'.cell? ⟨b,off+k*3+1,none⟩=some (.int .i64 x.2.1)∧W'.cell? ⟨b,off+k*3+2,none⟩=some (.int .i64 x.2.2.1):=by
   intro k W' hk hj;obtain⟨-,Sh',hv⟩:=hJ _ _ hj;obtain⟨A',n',c',R,e,h1,h2,h3,h4,h5,h6⟩:=hv.elem rfl (lG hk);simp only[Value.slice.injEq,sj]at e;obtain⟨rfl,rfl,rfl⟩:=e;obtain⟨g1,g2,g3,-⟩:=c8f (Sh:=Sh') h4;exact⟨_,lG hk,g1,g2,g3⟩
  refine d4O l Bs b off xs.length c (fun k=>((xs[k]?).getD b8L.dflt).1) (fun k=>((xs[k]?).getD b8L.dflt).2.1) (fun k=>((xs[k]?).getD b8L.dflt).2.2.1) J Jx W (fun k W' hj=>(hJ k W' hj).1) hlen (fun k W' hk hj=>?_) (fun n W' hn hj=>?_) h0;obtain⟨x,hx,g1,g2,g3⟩:=hel k W' hk hj;simp only[hx,a36];exact⟨g1,g2,g3⟩;have hx:xs[n]?=some xs[n]:=lG hn;simp only[hx,a36];refine hY n _ _ W' hx hj fun Sh' hv=>?_
  obtain⟨A',n',c',R,e,h1,h2,h3,h4,h5,h6⟩:=hv.elem rfl hx;exact(c8f (Sh:=Sh') h4).2.2.2
end Go.Ab
namespace Go.Ab
open IntKind(wrap)
open Go.Proofs
set_option maxRecDepth 100000
set_option linter.unusedVariables false
@[reducible] def QI:Ty:=.int .i64
@[reducible] def QL:Ty:=.list false QI
@[reducible] def Z0:Type:=(Unit ⊕ (Bool×Unit))
@[reducible] def Z1:Type:=(Int×(Int×(List Int)))
@[reducible] def Z2:Type:=((List (List Int))×Unit)
@[reducible] def Z3:Type:=((List Int)×(Int×Int))
@[reducible] def Z4:Type:=(List (Int×(Int×Unit)))
@[reducible] def Z5:Type:=(Int×((List Int)×Unit))
@[reducible] def Z6:Type:=((List Int)×(Int×Unit))
@[reducible] def Z7:Type:=(Int×(Int×(Int×Unit)))
@[reducible] def Z8:Type:=(Bool×((List Int)×Unit))
@[reducible] def Z9:Type:=(Int×(Int×(Bool×Unit)))
@[reducible] def Z10:Type:=((List Int)×((List Int)×Int))
@[reducible] def Z11:Type:=((List Int)×((List Int)×Unit))
@[reducible] def Z12:Type:=(Int×Z2)
@[reducible] def Z13:Type:=((List (List Int))×(Int×Unit))
@[reducible] def Z14:Type:=(List Z7)
@[reducible] def Z15:Type:=((List Int)×(Int×(Int×Unit)))
@[reducible] def Z16:Type:=(Int×Z5)
@[reducible] def Z17:Type:=(Int×Z6)
@[reducible] def Z18:Type:=((List Int)×(Int×(Bool×Unit)))
@[reducible] def Z19:Type:=(Z5×Unit)
@[reducible] def Z20:Type:=(Z6×Unit)
@[reducible] def Z21:Type:=(Int×Z7)
@[reducible] def Z22:Type:=(Int×Z9)
@[reducible] def Z23:Type:=(Int×Z11)
@[reducible] def Z24:Type:=((List Int)×Z5)
@[reducible] def Z25:Type:=((List (List Int))×(Int×(Int×Unit)))
@[reducible] def Z26:Type:=(Int×Z12)
@[reducible] def Z27:Type:=(Int×Z15)
@[reducible] def Z28:Type:=(Z12×Unit)
@[reducible] def Z29:Type:=((List Int)×Z7)
@[reducible] def Z30:Type:=(Int×Z16)
@[reducible] def Z31:Type:=(Z15×Int)
@[reducible] def Z32:Type:=((List Int)×Z9)
@[reducible] def Z33:Type:=(Int×Z20)
@[reducible] def Z34:Type:=(Z15×Unit)
@[reducible] def Z35:Type:=(Int×Z21)
@[reducible] def Z36:Type:=((List Int)×Z11)
@[reducible] def Z37:Type:=((List Int)×Z16)
@[reducible] def Z38:Type:=(Int×Z23)
@[reducible] def Z39:Type:=((List Int)×Z15)
@[reducible] def Z40:Type:=(Int×Z25)
@[reducible] def Z41:Type:=(Z5×((List Int)×Unit))
@[reducible] def Z42:Type:=(((List Int)×Unit) ⊕ Z5)
@[reducible] def Z43:Type:=((List Int)×Z18)
@[reducible] def Z44:Type:=(Int×Z27)
@[reducible] def Z45:Type:=(Z23×Unit)
@[reducible] def Z46:Type:=(Int×Z28)
@[reducible] def Z47:Type:=(Int×Z29)
@[reducible] def Z48:Type:=(Bool×Z28)
@[reducible] def Z49:Type:=(Int×Z33)
@[reducible] def Z50:Type:=(Int×Z34)
@[reducible] def Z51:Type:=(Bool×Z34)
@[reducible] def Z52:Type:=(Int×Z36)
@[reducible] def Z53:Type:=(Int×Z37)
@[reducible] def Z54:Type:=((List Int)×Z27)
@[reducible] def Z55:Type:=(Int×Z45)
@[reducible] def Z56:Type:=(Int×Z46)
@[reducible] def Z57:Type:=((List Int)×Z34)
@[reducible] def Z58:Type:=(Z27 ⊕ (Int×Unit))
@[reducible] def Z59:Type:=(Int×Z50)
@[reducible] def Z60:Type:=(Int×Z51)
@[reducible] def Z61:Type:=(Z15 ⊕ Z0)
@[reducible] def Z62:Type:=((List Int)×Z38)
@[reducible] def Z63:Type:=(Int×Z52)
@[reducible] def Z64:Type:=((List Int)×Z41)
@[reducible] def Z65:Type:=((List Int)×Z44)
@[reducible] def Z66:Type:=((List Int)×Z45)
@[reducible] def Z67:Type:=(Int×Z53)
@[reducible] def Z68:Type:=(Int×Z55)
@[reducible] def Z69:Type:=((List Int)×Z49)
@[reducible] def Z70:Type:=(Int×Z57)
@[reducible] def Z71:Type:=(Z6×Z19)
@[reducible] def Z72:Type:=(Int×Z59)
@[reducible] def Z73:Type:=(Z5×Z19)
@[reducible] def Z74:Type:=(Int×Z62)
@[reducible] def Z75:Type:=(Int×Z66)
@[reducible] def Z76:Type:=(Int×Z68)
@[reducible] def Z77:Type:=(Int×Z69)
@[reducible] def Z78:Type:=(Int×Z70)
@[reducible] def Z79:Type:=((List Int)×Z71)
@[reducible] def Z80:Type:=(Int×Z78)
@[reducible] def Z81:Type:=(Z14×Z28)
@[reducible] def Z82:Type:=(Int×Z79)
@[reducible] def Z83:Type:=(Z4×Z64)
@[reducible] def Z84:Type:=(Int×Z82)
@[reducible] def Z85:Type:=(Z5×Z73)
@[reducible] def Z86:Type:=((List Int)×Z83)
@[reducible] def Z87:Type:=((List Int)×Z84)
@[reducible] def Z88:Type:=((List Int)×Z86)
@[reducible] def Z89:Type:=(Int×Z88)
@[reducible] def Z90:Type:=(Int×Z89)
@[reducible] def Z91:Type:=(Int×Z90)
@[reducible] def Z92:Type:=(Int×Z91)
@[reducible] def Z93:Type:=(Int×Z92)
@[reducible] def Z94:Type:=(List Z93)
@[reducible] def Z95:Type:=(Z93×Int)
@[reducible] def Z96:Type:=(Z93×Unit)
@[reducible] def Z97:Type:=(Z94×Unit)
@[reducible] def Z98:Type:=(Bool×Z96)
@[reducible] def Z99:Type:=(Int×Z98)
@[reducible] def d1v:Type:=(Z94×((List Int)×Unit))
@[reducible] def d9I:Type:=(Z6×Z96)
@[reducible] def d1w:Type:=(Int×d9I)
@[reducible] def d7y:Type:=(Z15×Z96)
@[reducible] def d1x:Type:=(Z93×Z34)
@[reducible] def d9J:Type:=(Z14×Z97)
@[reducible] def b7j:Type:=(Int×d1w)
@[reducible] def d4P:Type:=(Int×d7y)
@[reducible] def c4Y:Type:=(Int×d4P)
@[reducible] def d9K:Type:=(Z7×d9J)
@[reducible] def d9L:Type:=(Int×d9K)
@[reducible] def a7C:Type:=(Int×d9L)
@[reducible] def c0u:Type:=(a7C×Unit)
@[reducible] def d1y:Type:=(Z12×c0u)
@[reducible] def c4Z:Type:=(a7C×Z34)
@[reducible] def b4s:Type:=(Z93×Z96)
@[reducible] def d9M:Type:=(Int×b4s)
@[reducible] def d1z:Type:=(Int×d9M)
@[reducible] def d4Q:Type:=(a7C×c0u)
@[reducible] def d1A:Type:=(Int×d4Q)
@[reducible] def Q0:Ty:=(.pair QI .unit)
@[reducible] def Q1:Ty:=(.pair (.list true QI) .unit)
@[reducible] def Q2:Ty:=(.pair QL .unit)
@[reducible] def Q3:Ty:=(.pair QI Q0)
@[reducible] def Q4:Ty:=(.pair (.list false QL) .unit)
@[reducible] def Q5:Ty:=(.pair (.list true (.int .u8)) Q0)
@[reducible] def Q6:Ty:=(.pair QI Q1)
@[reducible] def Q7:Ty:=(.pair QI Q2)
@[reducible] def Q8:Ty:=(.pair QI Q3)
@[reducible] def Q9:Ty:=(.pair (.list true QI) Q1)
@[reducible] def Q10:Ty:=(.pair QI Q4)
@[reducible] def Q11:Ty:=(.pair (.list false (.int .u8)) Q3)
@[reducible] def Q12:Ty:=(.pair QI Q9)
@[reducible] def Q13:Ty:=(.pair Q7 Q2)
@[reducible] def Q14:Ty:=(.pair (.nl QI) Q13)
@[reducible] def Q15:Ty:=(.pair QL Q13)
@[reducible] def Q16:Ty:=(.pair (.list true Q3) Q14)
@[reducible] def Q17:Ty:=(.pair (.list false Q3) Q15)
@[reducible] def Q18:Ty:=(.pair (.arr 3 QI) Q16)
@[reducible] def Q19:Ty:=(.pair (.arr 3 QI) Q17)
@[reducible] def Q20:Ty:=(.pair (.list true QI) Q18)
@[reducible] def Q21:Ty:=(.pair QL Q19)
@[reducible] def Q22:Ty:=(.pair QI Q20)
@[reducible] def Q23:Ty:=(.pair QI Q21)
@[reducible] def Q24:Ty:=(.pair QI Q22)
@[reducible] def Q25:Ty:=(.pair QI Q23)
@[reducible] def Q26:Ty:=(.pair QI Q24)
@[reducible] def Q27:Ty:=(.pair QI Q25)
@[reducible] def Q28:Ty:=(.pair QI Q26)
@[reducible] def Q29:Ty:=(.pair QI Q27)
@[reducible] def Q30:Ty:=(.pair QI Q28)
@[reducible] def Q31:Ty:=(.pair QI Q29)
@[reducible] def Q32:Ty:=(.pair (.nl Q31) .unit)
@[reducible] def Q33:Ty:=(.pair (.list true Q31) .unit)
@[reducible] def Q34:Ty:=(.pair (.list false Q31) .unit)
@[reducible] def Q35:Ty:=(.pair (.nl Q8) Q32)
@[reducible] def Q36:Ty:=(.pair (.list true Q8) Q32)
@[reducible] def Q37:Ty:=(.pair (.list false Q8) Q33)
@[reducible] def Q38:Ty:=(.pair (.list false Q8) Q34)
@[reducible] def Q39:Ty:=(.pair Q8 Q35)
@[reducible] def Q40:Ty:=(.pair Q8 Q36)
@[reducible] def Q41:Ty:=(.pair Q8 Q37)
@[reducible] def Q42:Ty:=(.pair Q8 Q38)
@[reducible] def Q43:Ty:=(.pair QI Q39)
@[reducible] def Q44:Ty:=(.pair QI Q40)
@[reducible] def Q45:Ty:=(.pair QI Q41)
@[reducible] def Q46:Ty:=(.pair QI Q42)
@[reducible] def Q47:Ty:=(.pair QI Q44)
@[reducible] def Q48:Ty:=(.pair QI Q45)
@[reducible] def Q49:Ty:=(.pair QI Q46)
def c7n:List (Nat×Ty):=[(2,.int .i64),(3,.int .i64),(5,.int .u8),(9,.str),(23,.pair QI Q3),(24,.list false Q8),(25,.list false Q31),(27,.pair QI Q46),(30,.list false QL),(32,.pair QI Q4),(33,.int .i64),(38,.list false (.int .u8)),(56,.list false QI),(57,.arr 3 QI),(58,.list false Q3),(60,.pair QI Q2),(62,.pair QI Q29),(68,.int .u16),(70,.int .u64),(90,.pair (.list false (.int .u8)) Q0),(96,.int .u64),(137,.pair QI Q3),(148,.pair QI Q0),(151,.list false (.int .u64)),(163,.pair (.list false (.int .u8)) Q3),(211,.pair (.list false (.int .u8)) Q3),(220,.arr 64 (.int .u8)),(248,.list false (.arr 3 QI)),(252,.pair QI (.pair QL Q2))]
def T0:Nat→Option Ty:=fun t=>find c7n t
def d1B:List Nat:=[23,57,137,148]
def d9N:Nat→Bool:=fun t=>d1B.contains t
def c8g:List Nat:=[]
def d9O:Nat→Bool:=fun t=>c8g.contains t
def b3j:(List Int):=[0,1,56,2,57,49,28,3,61,58,42,50,38,29,17,4,62,47,59,36,45,43,51,22,53,39,33,30,24,18,12,5,63,55,48,27,60,41,37,16,46,35,44,21,52,32,23,11,54,26,40,15,34,20,31,10,25,14,19,9,13,8,7,6]
def G0:Nat→Option ((t:Ty)×t.den):=fun g=>find ([(0,⟨.arr 64 (.int .u8),b3j⟩)]:List (Nat×((t:Ty)×t.den))) g
def a8a(x:Int):Option Bool:= cond (decide (4≤x)) (some (decide (x≤24))) (some false)
def b4t:FSem:=⟨[.v QI],[.v .bool],a8a⟩
def d9P:Hints:=⟨[],[],[]⟩
def a8b(x:Z7):Option Bool:= cond (decide (1≤x.1)) (cond (decide (x.1≤1048576)) (cond (decide (1≤x.2.1)) (cond (decide (x.2.1≤8)) ((a8a x.2.2.1).bind fun y1=> some y1) (some false)) (some false)) (some false)) (some false)
def b4u:FSem:=⟨[.v Q8],[.v .bool],a8b⟩
def H77:Hints:=⟨[],[],[]⟩
def a8c(s:(Int×Z14×Int×Int×Unit)):Option ((Int×Z14×Int×Int×Unit) ⊕ Z0):= cond (decide (s.2.2.2.1<s.2.2.1)) ((a0p s.2.1 s.2.2.2.1).bind fun x2=> (show Option (Int×Z14×Int×Int×Bool×Z7×Unit)from cond (decide (x2.1<0)) (some (s.1,s.2.1,s.2.2.1,s.2.2.2.1,true,x2,())) (cond (decide (x2.1≥s.1)) (some (s.1,s.2.1,s.2.2.1,s.2.2.2.1,true,x2,())) (cond (decide (x2.2.1<0)) (some (s.1,s.2.1,s.2.2.1,s.2.2.2.1,true,x2,())) (cond (decide (x2.2.1≥s.1)) (some (s.1,s.2.1,s.2.2.1,s.2.2.2.1,true,x2,())) (some (s.1,s.2.1,s.2.2.1,s.2.2.2.1,x2.1==x2.2.1,x2,())))))).bind fun z3=> cond z3.2.2.2.2.1 (some (.inr (Sum.inr ((false,()))))) ((show Option (Int×Z14×Z9)from cond (decide (z3.2.2.2.2.2.1.2.2.1<(-1024))) (some (z3.1,z3.2.1,z3.2.2.1,z3.2.2.2.1,true,())) (some (z3.1,z3.2.1,z3.2.2.1,z3.2.2.2.1,decide (z3.2.2.2.2.2.1.2.2.1 > 1024),()))).bind fun z4=> cond z4.2.2.2.2.1 (some (.inr (Sum.inr ((false,()))))) (some (.inl (z4.1,z4.2.1,z4.2.2.1,wrap .i64 (z4.2.2.2.1+1),()))))) (some (.inr (Sum.inl ())))
def a9O(x:(Z14×Int)):Option Bool:= (show Option (Z14×Int×Bool×Unit)from cond (decide (x.2<1)) (some (x.1,x.2,true,())) (cond (decide (x.2 > 8)) (some (x.1,x.2,true,())) (some (x.1,x.2,decide ((x.1.length:Int) > 16),())))).bind fun z1=> cond z1.2.2.1 (some false) ((a0h a8c (z1.2.1,z1.1,(z1.1.length:Int),0,())).bind fun w5=> match w5 with |.inl a6=>some true |.inr b7=>some b7.1)
def b4P:FSem:=⟨[.v (.list false Q8),.v QI],[.v .bool],a9O⟩
def d9Q:Hints:=⟨[(58,[.sv 1 QI,.sv 18 (.list false Q8),.sv 19 QI,.sv 20 QI],[(.exit 0,[]),(.ret,[.sv 4 .bool])])],[(6,[(.normal,[.sv 0 (.list false Q8),.sv 1 QI,.sv 17 .bool])]),(7474,[(.normal,[.sv 1 QI,.sv 18 (.list false Q8),.sv 19 QI,.sv 20 QI,.sv 50 .bool,.box 6 Q8,.ptr 6 6 []])]),(7475,[(.normal,[.sv 1 QI,.sv 18 (.list false Q8),.sv 19 QI,.sv 20 QI,.sv 58 .bool])])],[]⟩
def a8d(x:a7C):Option Bool:= (a8b x.2.2.1).bind fun y1=> cond y1 (cond (decide (x.2.1≥1)) (cond (decide (x.2.1≤4096)) (cond (decide (x.1≥0)) (cond (decide (x.1≤(wrap .i64 (4194304-x.2.1)))) ((a9O (x.2.2.2.1,x.2.2.1.2.1)).bind fun y2=> some y2) (some false)) (some false)) (some false)) (some false)) (some false)
def b4v:FSem:=⟨[.v Q49],[.v .bool],a8d⟩
def H44:Hints:=⟨[],[],[]⟩
def a3j(s:Z15):Option Z61:= cond (decide (s.2.2.1<s.2.1)) ((a0p s.1 s.2.2.1).bind fun x1=> (show Option Z32 from cond (decide (x1<(-1073741824))) (some (s.1,s.2.1,s.2.2.1,true,())) (some (s.1,s.2.1,s.2.2.1,decide (x1≥1073741824),()))).bind fun z2=> cond z2.2.2.2.1 (some (.inr (Sum.inr ((false,()))))) (some (.inl (z2.1,z2.2.1,wrap .i64 (z2.2.2.1+1),())))) (some (.inr (Sum.inl ())))
def a2A(x:(List Int)):Option Bool:= (a0h a3j (x,(x.length:Int),0,())).bind fun w3=> match w3 with |.inl a4=>some true |.inr b5=>some b5.1
def b0O:FSem:=⟨[.v QL],[.v .bool],a2A⟩
def H90:Hints:=⟨[(26,[.sv 5 QL,.sv 6 QI,.sv 7 QI],[(.exit 0,[]),(.ret,[.sv 2 .bool])])],[(1689,[(.normal,[.sv 5 QL,.sv 6 QI,.sv 7 QI,.sv 16 .bool])])],[]⟩
def a7b(x:Int):Option Bool:= cond (x != 0) (some (x != 1)) (some false)
def b1S:FSem:=⟨[.v QI],[.v .bool],a7b⟩
def d9R:Hints:=⟨[],[],[]⟩
def a4A(s:Z15):Option Z61:= cond (decide (s.2.2.1<s.2.1)) ((a0p s.1 s.2.2.1).bind fun x2=> (show Option Z32 from cond (decide (x2<(-32768))) (some (s.1,s.2.1,s.2.2.1,true,())) (some (s.1,s.2.1,s.2.2.1,decide (x2≥32768),()))).bind fun z3=> cond z3.2.2.2.1 (some (.inr (Sum.inr ((false,()))))) (some (.inl (z3.1,z3.2.1,wrap .i64 (z3.2.2.1+1),())))) (some (.inr (Sum.inl ())))
def a5x(x:((List Int)×Int)):Option Bool:= (show Option ((List Int)×(Bool×Unit))from cond (decide ((x.1.length:Int)<1)) (some (x.1,true,())) (cond (decide ((x.1.length:Int) > 32)) (some (x.1,true,())) (cond (decide (x.2<0)) (some (x.1,true,())) (some (x.1,decide (x.2 > 15),()))))).bind fun z1=> cond z1.2.1 (some false) ((a0h a4A (z1.1,(z1.1.length:Int),0,())).bind fun w4=> match w4 with |.inl a5=>some true |.inr b6=>some b6.1)
def b1T:FSem:=⟨[.v QL,.v QI],[.v .bool],a5x⟩
def d9S:Hints:=⟨[(58,[.sv 23 QL,.sv 24 QI,.sv 25 QI],[(.exit 0,[]),(.ret,[.sv 4 .bool])])],[(6,[(.normal,[.sv 0 QL,.sv 22 .bool])]),(3737,[(.normal,[.sv 23 QL,.sv 24 QI,.sv 25 QI,.sv 34 .bool])])],[]⟩
def a5W(s:Z6):Option (Z6 ⊕ Z0):= cond (decide (s.2.1<3)) ((a0p s.1 s.2.1).bind fun x2=> (show Option Z18 from cond (decide (x2<(-64))) (some (s.1,s.2.1,true,())) (some (s.1,s.2.1,decide (x2 > 64),()))).bind fun z3=> cond z3.2.2.1 (some (.inr (Sum.inr ((false,()))))) (some (.inl (z3.1,wrap .i64 (z3.2.1+1),())))) (some (.inr (Sum.inl ())))
def a9P(x:(Int×(List Int))):Option Bool:= (show Option Z8 from cond (decide (x.1<2)) (some (true,x.2,())) (some (decide (x.1 > 1024),x.2,()))).bind fun z1=> cond z1.1 (some false) ((a0h a5W (z1.2.1,0,())).bind fun w4=> match w4 with |.inl a5=>some true |.inr b6=>some b6.1)
def b4Q:FSem:=⟨[.v QI,.v (.arr 3 QI)],[.v .bool],a9P⟩
def d9T:Hints:=⟨[(58,[.sv 13 (.arr 3 QI),.sv 14 QI],[(.exit 0,[]),(.ret,[.sv 4 .bool])])],[(6,[(.normal,[.sv 12 .bool,.vp 3 (.arr 3 QI)])]),(3737,[(.normal,[.sv 13 (.arr 3 QI),.sv 14 QI,.sv 22 .bool])])],[]⟩
def a8e(x:(Int×Int×Unit)):Option Bool:= cond (decide (x.1≥1)) (cond (decide (x.1≤32)) (cond (decide (x.2.1≥0)) (some (decide (x.2.1≤8))) (some false)) (some false)) (some false)
def b4w:FSem:=⟨[.v Q3],[.v .bool],a8e⟩
def d9U:Hints:=⟨[],[],[]⟩
def a7c(s:(Z4×Int×Int×Unit)):Option ((Z4×Int×Int×Unit) ⊕ Z0):= cond (decide (s.2.2.1<s.2.1)) ((a0p s.1 s.2.2.1).bind fun x1=> (a8e x1).bind fun y2=> cond (!y2) (some (.inr (Sum.inr ((false,()))))) (some (.inl (s.1,s.2.1,wrap .i64 (s.2.2.1+1),())))) (some (.inr (Sum.inl ())))
def a8y(x:Z4):Option Bool:= cond (decide ((x.length:Int) > 3)) (some false) ((a0h a7c (x,(x.length:Int),0,())).bind fun w3=> match w3 with |.inl a4=>some true |.inr b5=>some b5.1)
def b3k:FSem:=⟨[.v (.list false Q3)],[.v .bool],a8y⟩
def d9V:Hints:=⟨[(58,[.sv 8 (.list false Q3),.sv 9 QI,.sv 10 QI],[(.exit 0,[]),(.ret,[.sv 2 .bool])])],[],[]⟩
def a9q(x:(Int×Z95)):Option Bool:= (show Option (Int×Z99)from cond (x.1==0) (some (x.2.2,x.1,x.1==0,x.2.1,())) (some (x.2.2,x.1,x.1==1,x.2.1,()))).bind fun z1=> cond z1.2.2.1 (some true) (cond (z1.2.1==2) (cond (decide (z1.2.2.2.1.2.2.1≥0)) (cond (decide (z1.2.2.2.1.2.2.1≤4)) (some (decide (z1.2.2.2.1.2.2.1≤z1.1))) (some false)) (some false)) (cond (z1.2.1==3) ((a5x (z1.2.2.2.1.2.2.2.2.2.1,z1.2.2.2.1.2.2.2.1)).bind fun y2=> cond y2 (some (decide ((z1.2.2.2.1.2.2.2.2.2.1.length:Int)≤z1.1))) (some false)) (cond (z1.2.1==4) ((a5x (z1.2.2.2.1.2.2.2.2.2.1,z1.2.2.2.1.2.2.2.1)).bind fun y3=> cond y3 (cond (decide ((z1.2.2.2.1.2.2.2.2.2.1.length:Int)≤z1.1)) ((a9P (z1.2.2.2.1.2.2.2.2.1,z1.2.2.2.1.2.2.2.2.2.2.1)).bind fun y4=> some y4) (some false)) (some false)) (cond (z1.2.1==5) (cond (decide ((z1.2.2.2.1.2.2.2.2.2.2.2.1.length:Int) > 0)) ((a8y z1.2.2.2.1.2.2.2.2.2.2.2.1).bind fun y5=> some y5) (some false)) (some false)))))
def b6x:FSem:=⟨[.v QI,.v Q31,.v QI],[.v .bool],a9q⟩
def d9W:Hints:=⟨[],[(26,[(.normal,[.sv 2 QI,.sv 7 QI,.sv 8 .bool,.vp 4 Q31])])],[]⟩
def a5y(x:Z95):Option Int:= cond (x.1.1==0) (some 1) (cond (x.1.1==1) (some x.2) (cond (x.1.1==2) (some x.1.2.2.1) ((show Option Z98 from cond (x.1.1==3) (some (x.1.1==3,x.1,())) (some (x.1.1==4,x.1,()))).bind fun z1=> cond z1.1 (some (z1.2.1.2.2.2.2.2.1.length:Int)) (some 0))))
def b1U:FSem:=⟨[.v Q31,.v QI],[.v QI],a5y⟩
def d9X:Hints:=⟨[],[(1727,[(.normal,[.sv 16 .bool,.vp 2 Q31])])],[]⟩
def a1j(x:(List Int)):Option (List Int):= b5E x
def a0Z:FSem:=⟨[.v QL],[.o QI],a1j⟩
def H87:Hints:=⟨[],[],[]⟩
@[reducible] def c0v(a:List (Nat×FSem))(b:List (Nat×Ty))(c d:List Nat):Cx:=⟨d9O,d9N,T0,fun f=>find a f,fun n=>find b n,fun i=>c.contains i,fun i=>d.contains i,G0⟩
def d7z:Cx:=c0v [] [] [0,2] []
theorem d9Y(x):b9T d7z H87 Tryz.f87 a0Z.ps a0Z.rs x=a0Z.F x:=Eq.trans (show _=c0t x by kernel_rfl) (b8K x)
def a4G(x:(List Int)):Option (List Int):= b5E x
def a2g:FSem:=⟨[.v QL],[.v QL],a4G⟩
def d9Z:Hints:=⟨[],[],[]⟩
def d5R:Cx:=c0v [] [] [0,2] []
theorem d8k(x):b9T d5R d9Z Tryz.f87 a2g.ps a2g.rs x=a2g.F x:=Eq.trans (show _=c0t x by kernel_rfl) (b8K x)
def a1x(x:Z4):Option Z4:= b5E x
def a1h:FSem:=⟨[.v (.list false Q3)],[.v (.list false Q3)],a1x⟩
def d8l:Hints:=⟨[],[],[]⟩
def d3v:Cx:=c0v [] [] [0,2] []
theorem d7A(x):b9T d3v d8l Tryz.f229 a1h.ps a1h.rs x=a1h.F x:=Eq.trans (show _=c0t x by kernel_rfl) (b8K x)
def a7d(x:(Int×Z93)):Option Z93:= (show Option b4s from(show Option ((Z93×b4s) ⊕ (b4s ⊕ (Z93×b4s)))from cond (x.1==2) (some (Sum.inr (Sum.inl ((0,0,0,0,0,[],a00 3 0,[],[],(0,[],()),[],()),(x.1,0,x.2.2.2.1,0,0,[],a00 3 0,[],[],(0,[],()),[],()),())))) (cond (x.1==4) (some (Sum.inl ((0,0,0,0,0,[],a00 3 0,[],[],(0,[],()),[],()),(x.1,0,0,0,x.2.2.2.2.2.1,[],x.2.2.2.2.2.2.2.1,[],[],(0,[],()),[],()),x.2,()))) (cond (x.1==3) (some (Sum.inl ((0,0,0,0,0,[],a00 3 0,[],[],(0,[],()),[],()),(x.1,0,0,0,0,[],a00 3 0,[],[],(0,[],()),[],()),x.2,()))) (cond (x.1==5) (some (Sum.inr (Sum.inr (((0,0,0,0,0,[],a00 3 0,[],[],(0,[],()),[],()),(x.1,0,0,0,0,[],a00 3 0,[],[],(0,[],()),[],()),x.2,()))))) (some (Sum.inr (Sum.inl ((0,0,0,0,0,[],a00 3 0,[],[],(0,[],()),[],()),(x.1,0,0,0,0,[],a00 3 0,[],[],(0,[],()),[],()),())))))))).bind fun z1=> match z1 with |.inl a2=>((a4G a2.2.2.1.2.2.2.2.2.1).bind fun y4=> some (a2.1,(a2.2.1.1,a2.2.1.2.1,a2.2.1.2.2.1,a2.2.2.1.2.2.2.1,a2.2.1.2.2.2.2.1,y4,a2.2.1.2.2.2.2.2.2),())) |.inr b3=>(match b3 with |.inl a5=>some (a5.1,a5.2.1,()) |.inr b6=>((a1x b6.2.2.1.2.2.2.2.2.2.2.1).bind fun y7=> some (b6.1,(b6.2.1.1,b6.2.1.2.1,b6.2.1.2.2.1,b6.2.1.2.2.2.1,b6.2.1.2.2.2.2.1,b6.2.1.2.2.2.2.2.1,b6.2.1.2.2.2.2.2.2.1,y7,b6.2.1.2.2.2.2.2.2.2.2),())))).bind fun z8=> some z8.2.1
def b5J:FSem:=⟨[.v QI,.v Q31],[.v Q31],a7d⟩
def e0a:Hints:=⟨[],[(7,[(.normal,[.box 4 Q31,.box 5 Q31,.ptr 4 4 [],.ptr 5 5 []])]),(232,[(.normal,[.box 4 Q31,.box 5 Q31,.vp 3 Q31,.ptr 4 4 [],.ptr 5 5 []]),(.exit 0,[.box 4 Q31,.box 5 Q31,.ptr 4 4 [],.ptr 5 5 []]),(.exit 4,[.box 4 Q31,.box 5 Q31,.vp 3 Q31,.ptr 4 4 [],.ptr 5 5 []])])],[(8,[.v,.v,.v,.v,.q,.w [0,5],.x,.x]),(9,[.v,.v,.v,.v,.v,.q,.w [0,5],.x,.x])]⟩
def b3l(x:Z93):Option Bool:= (a7d (x.1,x)).bind fun y1=> cond (x.2.2.1==y1.2.2.1) (cond (x.2.2.2.1==y1.2.2.2.1) (cond (x.2.2.2.2.1==y1.2.2.2.2.1) (cond (eqT (.arr 3 (.int .i64)) x.2.2.2.2.2.2.1 y1.2.2.2.2.2.2.1) (cond ((x.2.2.2.2.2.1.length:Int)==(y1.2.2.2.2.2.1.length:Int)) (some ((x.2.2.2.2.2.2.2.1.length:Int)==(y1.2.2.2.2.2.2.2.1.length:Int))) (some false)) (some false)) (some false)) (some false)) (some false)
def c1G:FSem:=⟨[.v Q31],[.v .bool],b3l⟩
def e0b:Hints:=⟨[],[],[]⟩
def a8z(x:(Int×Int)):Option Bool:= cond (decide (1≤x.1)) (cond (decide (x.1≤4096)) (cond (decide (0≤x.2)) (some (decide (x.2≤x.1))) (some false)) (some false)) (some false)
def b3m:FSem:=⟨[.v QI,.v QI],[.v .bool],a8z⟩
def e0c:Hints:=⟨[],[],[]⟩
def a7D(s:Z16):Option (Z16 ⊕ ((List Int)×Unit)):= cond (decide (s.1<0)) none (cond (decide ((s.2.2.1.length:Int)<(a0z .i64 1 s.1))) (cond (lim ((a02 s.2.2.1)+1)) (some (.inl (s.1,s.2.1,a04 s.2.2.1 [s.2.1],()))) none) (some (.inr (s.2.2.1,()))))
def a3P(x:(Int×Int×Int)):Option (List Int):= (show Option Z22 from(a8z (x.2.1,x.2.2)).bind fun y1=> cond (!y1) (some (x.1,x.2.1,x.2.2,true,())) (cond (decide (x.1<0)) (some (x.1,x.2.1,x.2.2,true,())) (some (x.1,x.2.1,x.2.2,decide (x.1 > 8),())))).bind fun z2=> cond z2.2.2.2.1 (some []) (cond (decide (z2.1<0)) none ((show Option Z22 from cond (decide (z2.1<0)) none (cond ((a0z .i64 (a0C .i64 z2.2.1 z2.1) z2.1) != z2.2.1) (some (z2.1,z2.2.2.1,a0C .i64 z2.2.1 z2.1,true,())) (some (z2.1,z2.2.2.1,a0C .i64 z2.2.1 z2.1,decide ((a0C .i64 z2.2.1 z2.1)<z2.2.2.1),())))).bind fun z3=> cond z3.2.2.2.1 (some []) ((a0h a7D (z3.1,z3.2.2.1,[wrap .i64 (z3.2.2.1-z3.2.1)],())).bind fun w4=> some w4.1)))
def a5X:FSem:=⟨[.v QI,.v QI,.v QI],[.o QI],a3P⟩
def e0d:Hints:=⟨[(252,[.sv 0 QI,.sv 7 QI,.own 8 8 QI],[(.exit 0,[.own 8 8 QI])])],[(6,[(.normal,[.sv 0 QI,.sv 1 QI,.sv 2 QI,.sv 20 .bool])]),(30,[(.normal,[.sv 0 QI,.sv 2 QI,.sv 7 QI,.sv 33 .bool])])],[]⟩
def a4i(s:Z15):Option Z61:= cond (decide (s.2.2.1<s.2.1)) ((a0p s.1 s.2.2.1).bind fun x3=> (show Option Z32 from cond (decide (x3<0)) (some (s.1,s.2.1,s.2.2.1,x3 != 31,())) (cond (decide (x3 > 25)) (some (s.1,s.2.1,s.2.2.1,x3 != 31,())) (some (s.1,s.2.1,s.2.2.1,false,())))).bind fun z4=> cond z4.2.2.2.1 (some (.inr (Sum.inr ((false,()))))) (some (.inl (z4.1,z4.2.1,wrap .i64 (z4.2.2.1+1),())))) (some (.inr (Sum.inl ())))
def b0w(x:(Z5×Int×Int)):Option Bool:= (a3P (x.1.1,x.2.1,x.2.2)).bind fun y1=> (show Option (Bool×Z19)from cond ((y1.length:Int)==0) (some (true,x.1,())) (some ((x.1.2.1.length:Int) != (y1.length:Int),x.1,()))).bind fun z2=> cond z2.1 (some false) ((a0h a4i (z2.2.1.2.1,(z2.2.1.2.1.length:Int),0,())).bind fun w5=> match w5 with |.inl a6=>some true |.inr b7=>some b7.1)
def b7k:FSem:=⟨[.v Q7,.v QI,.v QI],[.v .bool],b0w⟩
def e0e:Hints:=⟨[(122,[.sv 27 QL,.sv 28 QI,.sv 29 QI],[(.exit 0,[]),(.ret,[.sv 6 .bool])])],[(14,[(.normal,[.sv 25 .bool,.vp 3 Q7])]),(7833,[(.normal,[.sv 27 QL,.sv 28 QI,.sv 29 QI,.sv 42 .bool])])],[]⟩
def b1V(x:Z95):Option Bool:= (show Option Z99 from cond (decide (x.2<1)) (some (x.2,true,x.1,())) (cond (decide (x.2 > 4096)) (some (x.2,true,x.1,())) ((a9q (x.1.1,x.1,x.2)).bind fun y1=> cond (!y1) (some (x.2,true,x.1,())) ((b3l x.1).bind fun y2=> some (x.2,!y2,x.1,()))))).bind fun z3=> cond z3.2.1 (some false) ((show Option Z99 from cond (decide (z3.2.2.1.2.1<0)) (some (z3.1,true,z3.2.2.1,())) (cond (decide (z3.2.2.1.2.1 > 30)) (some (z3.1,true,z3.2.2.1,())) (cond (z3.2.2.1.1==0) (some (z3.1,z3.2.2.1.2.1 != 0,z3.2.2.1,())) (some (z3.1,false,z3.2.2.1,()))))).bind fun z4=> cond z4.2.1 (some false) ((a5y (z4.2.2.1,z4.1)).bind fun y5=> (show Option (Int×Z99)from cond ((z4.2.2.1.2.2.2.2.2.2.2.2.1.length:Int) != y5) (some (z4.1,y5,true,z4.2.2.1,())) ((a2A z4.2.2.1.2.2.2.2.2.2.2.2.1).bind fun y6=> cond (!y6) (some (z4.1,y5,true,z4.2.2.1,())) ((a2A z4.2.2.1.2.2.2.2.2.2.2.2.2.2.1).bind fun y7=> some (z4.1,y5,!y7,z4.2.2.1,())))).bind fun z8=> cond z8.2.2.1 (some false) ((a7b z8.2.2.2.1.1).bind fun y9=> cond (!y9) (cond ((z8.2.2.2.1.2.2.2.2.2.2.2.2.2.2.1.length:Int)==0) (cond (z8.2.2.2.1.2.2.2.2.2.2.2.2.2.1.1==0) (some ((z8.2.2.2.1.2.2.2.2.2.2.2.2.2.1.2.1.length:Int)==0)) (some false)) (some false)) (cond ((z8.2.2.2.1.2.2.2.2.2.2.2.2.2.2.1.length:Int)==(wrap .i64 (z8.1-z8.2.1))) ((b0w (z8.2.2.2.1.2.2.2.2.2.2.2.2.2.1,z8.1,z8.2.1)).bind fun y10=> some y10) (some false)))))
def c0w:FSem:=⟨[.v Q31,.v QI],[.v .bool],b1V⟩
def e0f:Hints:=⟨[],[(6,[(.normal,[.sv 1 QI,.sv 24 .bool,.vp 2 Q31])]),(14,[(.normal,[.sv 1 QI,.sv 42 .bool,.vp 2 Q31])]),(62,[(.normal,[.sv 1 QI,.sv 5 QI,.sv 62 .bool,.vp 2 Q31])])],[]⟩
def b6y(s:Z15):Option Z61:= cond (decide (s.2.2.1<s.2.1)) ((a0p s.1 s.2.2.1).bind fun x1=> (show Option Z32 from cond (decide (x1<(-1073741824))) (some (s.1,s.2.1,s.2.2.1,true,())) (some (s.1,s.2.1,s.2.2.1,decide (x1≥1073741824),()))).bind fun z2=> cond z2.2.2.2.1 (some (.inr (Sum.inr ((false,()))))) (some (.inl (z2.1,z2.2.1,wrap .i64 (z2.2.2.1+1),())))) (some (.inr (Sum.inl ())))
def a3a(x:(List Int)):Option Bool:= (a0h b6y (x,(x.length:Int),0,())).bind fun w3=> match w3 with |.inl a4=>some true |.inr b5=>some b5.1
def b5K:FSem:=⟨[.v QL],[.v .bool],a3a⟩
def e0g:Hints:=⟨[(26,[.sv 5 QL,.sv 6 QI,.sv 7 QI],[(.exit 0,[]),(.ret,[.sv 2 .bool])])],[(1689,[(.normal,[.sv 5 QL,.sv 6 QI,.sv 7 QI,.sv 16 .bool])])],[]⟩
def a1o(x:(Int×(List Int))):Option (Int×(List Int)):= (a0p x.2 (wrap .i64 ((x.2.length:Int)-x.1))).bind fun x1=> some (x1,x.2)
def b6z:FSem:=⟨[.v QI,.r false (.b QL)],[.v QI],a1o⟩
def e0h:Hints:=⟨[],[],[]⟩
def b0P(x:((List Int)×Int)):Option Int:= cond (x.2==1) ((a1o (1,x.1)).bind fun y1=> some y1.1) (cond (x.2==2) ((a1o (1,x.1)).bind fun y2=> (a1o (2,y2.2)).bind fun y3=> some (wrap .i64 ((wrap .i64 (2*y2.1))-y3.1))) (cond (x.2==3) ((a1o (1,x.1)).bind fun y4=> (a1o (2,y4.2)).bind fun y5=> (a1o (3,y5.2)).bind fun y6=> some (wrap .i64 ((wrap .i64 ((wrap .i64 (3*y4.1))-(wrap .i64 (3*y5.1))))+y6.1))) (cond (x.2==4) ((a1o (1,x.1)).bind fun y7=> (a1o (2,y7.2)).bind fun y8=> (a1o (3,y8.2)).bind fun y9=> (a1o (4,y9.2)).bind fun y10=> some (wrap .i64 ((wrap .i64 ((wrap .i64 ((wrap .i64 (4*y7.1))-(wrap .i64 (6*y8.1))))+(wrap .i64 (4*y9.1))))-y10.1))) (some 0))))
def b9t:FSem:=⟨[.v QL,.v QI],[.v QI],b0P⟩
def e0i:Hints:=⟨[],[],[]⟩
def a8T(s:Z53):Option (Z53 ⊕ Z42):= cond (decide (s.2.2.2.1<s.2.2.1)) ((a0p s.2.1 s.2.2.2.1).bind fun x5=> (b0P (s.2.2.2.2.1,s.1)).bind fun y6=> (a3a [wrap .i64 (x5+y6)]).bind fun y7=> cond (!y7) (some (.inr (Sum.inr ((6,[],()))))) (cond (lim ((a02 s.2.2.2.2.1)+1)) (some (.inl (s.1,s.2.1,s.2.2.1,wrap .i64 (s.2.2.2.1+1),a04 s.2.2.2.2.1 [wrap .i64 (x5+y6)],()))) none)) (some (.inr (Sum.inl (s.2.2.2.2.1,()))))
def b1W(x:Z10):Option ((List Int)×Int):= (show Option Z43 from cond (decide (x.2.2<0)) (some (x.1,x.2.1,x.2.2,true,())) (cond (decide (x.2.2 > 4)) (some (x.1,x.2.1,x.2.2,true,())) (some (x.1,x.2.1,x.2.2,(x.1.length:Int) != x.2.2,())))).bind fun z1=> cond z1.2.2.2.1 (some ([],1)) ((show Option Z43 from(a3a z1.1).bind fun y2=> cond (!y2) (some (z1.1,z1.2.1,z1.2.2.1,true,())) ((a3a z1.2.1).bind fun y3=> some (z1.1,z1.2.1,z1.2.2.1,!y3,()))).bind fun z4=> cond z4.2.2.2.1 (some ([],6)) (cond (lim (a02 z4.1)) ((a0h a8T (z4.2.2.1,z4.2.1,(z4.2.1.length:Int),0,z4.1,())).bind fun w8=> match w8 with |.inl a9=>some (a9.1,0) |.inr b10=>some (b10.2.1,b10.1)) none))
def c0x:FSem:=⟨[.v QL,.v QL,.v QI],[.o QI,.v QI],b1W⟩
def e0j:Hints:=⟨[(250,[.sv 2 QI,.sv 34 QL,.sv 35 QI,.sv 36 QI,.own 8 8 QI],[(.exit 0,[.own 8 8 QI]),(.ret,[.sv 7 QI,.own 6 6 QI])])],[(6,[(.normal,[.sv 0 QL,.sv 1 QL,.sv 2 QI,.sv 23 .bool])]),(14,[(.normal,[.sv 0 QL,.sv 1 QL,.sv 2 QI,.sv 31 .bool])])],[]⟩
def a5Y(x:Int):Option Bool:= cond (decide (x≥(-1073741824))) (some (decide (x<1073741824))) (some false)
def b0Q:FSem:=⟨[.v QI],[.v .bool],a5Y⟩
def e0k:Hints:=⟨[],[],[]⟩
def a3Y(s:Z15):Option Z61:= cond (decide (s.2.2.1<s.2.1)) ((a0p s.1 s.2.2.1).bind fun x1=> (a5Y x1).bind fun y2=> cond (!y2) (some (.inr (Sum.inr ((false,()))))) (some (.inl (s.1,s.2.1,wrap .i64 (s.2.2.1+1),())))) (some (.inr (Sum.inl ())))
def a3k(x:(List Int)):Option Bool:= (a0h a3Y (x,(x.length:Int),0,())).bind fun w3=> match w3 with |.inl a4=>some true |.inr b5=>some b5.1
def a7E:FSem:=⟨[.v QL],[.v .bool],a3k⟩
def e0l:Hints:=⟨[(26,[.sv 5 QL,.sv 6 QI,.sv 7 QI],[(.exit 0,[]),(.ret,[.sv 2 .bool])])],[],[]⟩
def a3Z(s:Z65):Option (Z65 ⊕ (Int×Int×Unit)):= cond (decide (s.2.2.2.2.2.1<s.2.2.2.2.1)) ((a0p s.2.2.2.1 s.2.2.2.2.2.1).bind fun x1=> cond (decide ((wrap .i64 ((wrap .i64 ((s.1.length:Int)-1))-s.2.2.2.2.2.1))<0)) (some (.inr (s.2.1,s.2.2.1,()))) ((a0p s.1 (wrap .i64 ((wrap .i64 ((s.1.length:Int)-1))-s.2.2.2.2.2.1))).bind fun x2=> some (.inl (s.1,s.2.1,wrap .i64 (s.2.2.1+(wrap .i64 (x1*x2))),s.2.2.2.1,s.2.2.2.2.1,wrap .i64 (s.2.2.2.2.2.1+1),())))) (some (.inr (s.2.1,s.2.2.1,())))
def a5z(x:Z10):Option Int:= (a0h a3Z (x.1,x.2.2,0,x.2.1,(x.2.1.length:Int),0,())).bind fun w3=> cond (decide (w3.1<0)) none (some (a0C .i64 w3.2.1 w3.1))
def b1m:FSem:=⟨[.v QL,.v QL,.v QI],[.v QI],a5z⟩
def e0m:Hints:=⟨[(58,[.sv 0 QL,.sv 2 QI,.sv 7 QI,.sv 11 QL,.sv 12 QI,.sv 13 QI],[(.exit 0,[.sv 2 QI,.sv 7 QI])])],[],[]⟩
def a7F(s:((List Int)×Z53)):Option (((List Int)×Z53) ⊕ Z42):= cond (decide (s.2.2.2.2.1<s.2.2.2.1)) ((a0p s.2.2.1 s.2.2.2.2.1).bind fun x6=> (a5z (s.2.2.2.2.2.1,s.1,s.2.1)).bind fun y7=> (a5Y (wrap .i64 (y7+x6))).bind fun y8=> cond (!y8) (some (.inr (Sum.inr ((6,[],()))))) (cond (lim ((a02 s.2.2.2.2.2.1)+1)) (some (.inl (s.1,s.2.1,s.2.2.1,s.2.2.2.1,wrap .i64 (s.2.2.2.2.1+1),a04 s.2.2.2.2.2.1 [wrap .i64 (y7+x6)],()))) none)) (some (.inr (Sum.inl (s.2.2.2.2.2.1,()))))
def a8f(x:((List Int)×Z10)):Option ((List Int)×Int):= (show Option ((List Int)×Z43)from(a5x (x.2.2.1,x.2.2.2)).bind fun y1=> cond (!y1) (some (x.1,x.2.1,x.2.2.1,x.2.2.2,true,())) (some (x.1,x.2.1,x.2.2.1,x.2.2.2,(x.1.length:Int) != (x.2.2.1.length:Int),()))).bind fun z2=> cond z2.2.2.2.2.1 (some ([],1)) ((show Option ((List Int)×Z43)from(a3k z2.1).bind fun y3=> cond (!y3) (some (z2.1,z2.2.1,z2.2.2.1,z2.2.2.2.1,true,())) ((a3k z2.2.1).bind fun y4=> some (z2.1,z2.2.1,z2.2.2.1,z2.2.2.2.1,!y4,()))).bind fun z5=> cond z5.2.2.2.2.1 (some ([],6)) (cond ((decide (0≤(wrap .i64 ((z5.1.length:Int)+(z5.2.1.length:Int)))))&&(lim (a01 (wrap .i64 ((z5.1.length:Int)+(z5.2.1.length:Int)))))) (cond (lim (0+(a02 z5.1))) ((a0h a7F (z5.2.2.1,z5.2.2.2.1,z5.2.1,(z5.2.1.length:Int),0,a04 [] z5.1,())).bind fun w9=> match w9 with |.inl a10=>some (a10.1,0) |.inr b11=>some (b11.2.1,b11.1)) none) none))
def b9u:FSem:=⟨[.v QL,.v QL,.v QL,.v QI],[.o QI,.v QI],a8f⟩
def e0n:Hints:=⟨[(506,[.sv 2 QL,.sv 3 QI,.sv 42 QL,.sv 43 QI,.sv 44 QI,.own 10 10 QI],[(.exit 0,[.own 10 10 QI]),(.ret,[.sv 9 QI,.own 8 8 QI])])],[(6,[(.normal,[.sv 0 QL,.sv 1 QL,.sv 2 QL,.sv 3 QI,.sv 24 .bool])]),(14,[(.normal,[.sv 0 QL,.sv 1 QL,.sv 2 QL,.sv 3 QI,.sv 32 .bool])])],[]⟩
def a8A(x:Int):Option Bool:= cond (decide (x≥(-1073741824))) (some (decide (x<1073741824))) (some false)
def b3n:FSem:=⟨[.v QI],[.v .bool],a8A⟩
def e0o:Hints:=⟨[],[],[]⟩
def a4P(s:Z15):Option Z61:= cond (decide (s.2.2.1<s.2.1)) ((a0p s.1 s.2.2.1).bind fun x1=> (a8A x1).bind fun y2=> cond (!y2) (some (.inr (Sum.inr ((false,()))))) (some (.inl (s.1,s.2.1,wrap .i64 (s.2.2.1+1),())))) (some (.inr (Sum.inl ())))
def a5o(x:(List Int)):Option Bool:= (a0h a4P (x,(x.length:Int),0,())).bind fun w3=> match w3 with |.inl a4=>some true |.inr b5=>some b5.1
def a9Q:FSem:=⟨[.v QL],[.v .bool],a5o⟩
def e0p:Hints:=⟨[(26,[.sv 5 QL,.sv 6 QI,.sv 7 QI],[(.exit 0,[]),(.ret,[.sv 2 .bool])])],[],[]⟩
def a4Q(s:((List Int)×(Int×Int×Z17))):Option (((List Int)×(Int×Int×Z17)) ⊕ (Int×Unit)):= cond (decide (s.2.2.2.2.2.1<3)) ((a0p s.2.2.2.2.1 s.2.2.2.2.2.1).bind fun x1=> cond (decide ((wrap .i64 ((wrap .i64 ((wrap .i64 (s.2.1-s.2.2.1))-1))+s.2.2.2.2.2.1))≥0)) ((a0p s.1 (wrap .i64 ((wrap .i64 ((wrap .i64 (s.2.1-s.2.2.1))-1))+s.2.2.2.2.2.1))).bind fun x2=> some (.inl (s.1,s.2.1,s.2.2.1,wrap .i64 (s.2.2.2.1+(wrap .i64 (x1*x2))),s.2.2.2.2.1,wrap .i64 (s.2.2.2.2.2.1+1),()))) (some (.inl (s.1,s.2.1,s.2.2.1,s.2.2.2.1,s.2.2.2.2.1,wrap .i64 (s.2.2.2.2.2.1+1),())))) (some (.inr (s.2.2.2.1,())))
def a5p(x:((List Int)×Z1)):Option Int:= (a0h a4Q (x.1,x.2.1,x.2.2.1,0,x.2.2.2,0,())).bind fun w3=> some (a0C .i64 w3.1 6)
def b2O:FSem:=⟨[.v QL,.v QI,.v QI,.v (.arr 3 QI)],[.v QI],a5p⟩
def e0q:Hints:=⟨[(58,[.sv 0 QL,.sv 1 QI,.sv 2 QI,.sv 9 QI,.sv 13 (.arr 3 QI),.sv 14 QI],[(.exit 0,[.sv 9 QI])])],[],[]⟩
def a9R(s:Z74):Option (Z74 ⊕ Z42):= cond (decide (s.2.2.2.1<s.2.2.1)) ((a0p s.2.1 s.2.2.2.1).bind fun x3=> (a5p (s.2.2.2.2.1,s.2.2.2.1,s.1,s.2.2.2.2.2.1)).bind fun y4=> (a8A (wrap .i64 (x3+y4))).bind fun y5=> cond (!y5) (some (.inr (Sum.inr ((6,[],()))))) (cond (lim ((a02 s.2.2.2.2.1)+1)) (some (.inl (s.1,s.2.1,s.2.2.1,wrap .i64 (s.2.2.2.1+1),a04 s.2.2.2.2.1 [wrap .i64 (x3+y4)],s.2.2.2.2.2.1,()))) none)) (some (.inr (Sum.inl (s.2.2.2.2.1,()))))
def b3o(x:((List Int)×(Int×(List Int)))):Option ((List Int)×Int):= (a9P (x.2.1,x.2.2)).bind fun y1=> cond (!y1) (some ([],1)) ((a5o x.1).bind fun y2=> cond (!y2) (some ([],6)) (cond ((decide (0≤(x.1.length:Int)))&&(lim (a01 (x.1.length:Int)))) ((a0h a9R (x.2.1,x.1,(x.1.length:Int),0,[],x.2.2,())).bind fun w6=> match w6 with |.inl a7=>some (a7.1,0) |.inr b8=>some (b8.2.1,b8.1)) none))
def c1H:FSem:=⟨[.v QL,.v QI,.v (.arr 3 QI)],[.o QI,.v QI],b3o⟩
def e0r:Hints:=⟨[(250,[.sv 1 QI,.sv 22 QL,.sv 23 QI,.sv 24 QI,.own 8 8 QI,.vp 5 (.arr 3 QI)],[(.exit 0,[.own 8 8 QI]),(.ret,[.sv 7 QI,.own 6 6 QI])])],[],[]⟩
def a7e(x:Int):Option Bool:= cond (decide (x≥(-1073741824))) (some (decide (x<1073741824))) (some false)
def b1X:FSem:=⟨[.v QI],[.v .bool],a7e⟩
def e0s:Hints:=⟨[],[],[]⟩
def a4v(s:Z15):Option Z61:= cond (decide (s.2.2.1<s.2.1)) ((a0p s.1 s.2.2.1).bind fun x1=> (a7e x1).bind fun y2=> cond (!y2) (some (.inr (Sum.inr ((false,()))))) (some (.inl (s.1,s.2.1,wrap .i64 (s.2.2.1+1),())))) (some (.inr (Sum.inl ())))
def a6j(x:(List Int)):Option Bool:= (a0h a4v (x,(x.length:Int),0,())).bind fun w3=> match w3 with |.inl a4=>some true |.inr b5=>some b5.1
def b1Y:FSem:=⟨[.v QL],[.v .bool],a6j⟩
def e0t:Hints:=⟨[(26,[.sv 5 QL,.sv 6 QI,.sv 7 QI],[(.exit 0,[]),(.ret,[.sv 2 .bool])])],[],[]⟩
def b0x(x:(Int×Int×Unit)):Option (Z23×Int):= (a8e x).bind fun y1=> cond (!y1) none (cond ((decide (0≤x.1))&&((decide (x.1≤x.1))&&(lim (a01 x.1)))) (cond ((decide (0≤x.1))&&((decide (x.1≤x.1))&&(lim (a01 x.1)))) (some ((x.2.1,a00 (a01 x.1) 0,a00 (a01 x.1) 0,()),0)) none) none)
def b7l:FSem:=⟨[.v Q3],[.b Q12,.v QI],b0x⟩
def e0u:Hints:=⟨[],[],[(3,[.v,.v,.v,.v,.q,.v,.v,.q,.x,.x,.x,.x])]⟩
def a6k(x:Int):Option Int:= some (a3s (a2q x (-1073741824)) 1073741823)
def b1Z:FSem:=⟨[.v QI],[.v QI],a6k⟩
def e0v:Hints:=⟨[],[],[]⟩
def a3W(s:Z76):Option (Z76 ⊕ Z55):= cond (decide (s.2.2.1<s.2.1)) (cond ((decide (0≤s.2.2.1))&&(decide (s.2.2.1<(s.2.2.2.1.2.1.length:Int)))) (cond ((decide (0≤s.2.2.1))&&(decide (s.2.2.1<(s.2.2.2.1.2.2.1.length:Int)))) (some (.inl (wrap .i64 (s.1+(wrap .i64 ((a03 s.2.2.2.1.2.1 (a01 s.2.2.1) 0)*(a03 s.2.2.2.1.2.2.1 (a01 s.2.2.1) 0)))),s.2.1,wrap .i64 (s.2.2.1+1),s.2.2.2.1,()))) none) none) (some (.inr (s.1,s.2.2.2.1,())))
def a2D(x:Z23):Option Z38:= (a0h a3W (0,(x.2.1.length:Int),0,x,())).bind fun w1=> (a6k (a0C .i64 w1.1 16)).bind fun y2=> some (y2,w1.2.1)
def a4W:FSem:=⟨[.r false (.b Q12)],[.v QI],a2D⟩
def e0w:Hints:=⟨[(58,[.sv 3 QI,.sv 10 QI,.sv 11 QI,.box pinned Q12,.ptr 0 pinned [],.ref 9 pinned [.snd,.fst]],[(.exit 0,[.sv 3 QI,.box pinned Q12])])],[],[]⟩
def a3b(s:(Int×Z76)):Option ((Int×Z76) ⊕ Z55):= cond (decide (s.2.2.2.1<s.2.2.1)) (cond ((decide (0≤s.2.2.2.1))&&(decide (s.2.2.2.1<(s.2.2.2.2.1.2.2.1.length:Int)))) (cond ((decide (0≤s.2.2.2.1))&&(decide (s.2.2.2.1<(s.2.2.2.2.1.2.1.length:Int)))) ((show Option (Int×Int×Int×Z76)from cond (decide ((a03 s.2.2.2.2.1.2.2.1 (a01 s.2.2.2.1) 0) > 0)) (some (s.1,s.2.1,s.2.2.2.1,wrap .i64 ((a03 s.2.2.2.2.1.2.1 (a01 s.2.2.2.1) 0)+s.2.1),s.2.2.1,s.2.2.2.1,s.2.2.2.2.1,())) (cond (decide ((a03 s.2.2.2.2.1.2.2.1 (a01 s.2.2.2.1) 0)<0)) (some (s.1,s.2.1,s.2.2.2.1,wrap .i64 ((a03 s.2.2.2.2.1.2.1 (a01 s.2.2.2.1) 0)-s.2.1),s.2.2.1,s.2.2.2.1,s.2.2.2.2.1,())) (some (s.1,s.2.1,s.2.2.2.1,a03 s.2.2.2.2.1.2.1 (a01 s.2.2.2.1) 0,s.2.2.1,s.2.2.2.1,s.2.2.2.2.1,())))).bind fun z4=> cond ((decide (0≤z4.2.2.1))&&(decide (z4.2.2.1<(z4.2.2.2.2.2.2.1.2.1.length:Int)))) (some (.inl (z4.1,z4.2.1,z4.2.2.2.2.1,wrap .i64 (z4.2.2.2.2.2.1+1),(z4.2.2.2.2.2.2.1.1,a05 z4.2.2.2.2.2.2.1.2.1 (a01 z4.2.2.1) (a3s (a2q z4.2.2.2.1 (-1048576)) 1048576),z4.2.2.2.2.2.2.1.2.2),()))) none) none) none) (some (.inr (s.1,s.2.2.2.2.1,())))
def a4a(x:(Z23×Int)):Option Z23:= (a6k x.2).bind fun y1=> (show Option Z68 from(a2D x.1).bind fun y2=> cond (decide (y1 > y2.1)) (cond (decide (y2.2.1<0)) none (some (y1,a0z .i64 1 y2.2.1,y2.2,()))) (cond (decide (y1<y2.1)) (cond (decide (y2.2.1<0)) none (some (y1,wrap .i64 (0-(a0z .i64 1 y2.2.1)),y2.2,()))) (some (y1,0,y2.2,())))).bind fun z3=> (a0h a3b (z3.1,z3.2.1,(z3.2.2.1.2.2.1.length:Int),0,z3.2.2.1,())).bind fun w5=> cond (decide (1≤(w5.2.1.2.2.1.length:Int))) (cond (decide (0<(a02 (b4I w5.2.1.2.2.1 1 ((a02 w5.2.1.2.2.1)-1) w5.2.1.2.2.1):Int))) (some (w5.2.1.1,w5.2.1.2.1,a05 (b4I w5.2.1.2.2.1 1 ((a02 w5.2.1.2.2.1)-1) w5.2.1.2.2.1) 0 w5.1,w5.2.1.2.2.2)) none) none
def a8M:FSem:=⟨[.r false (.b Q12),.v QI],[],a4a⟩
def e0x:Hints:=⟨[(122,[.sv 1 QI,.sv 4 QI,.sv 36 QI,.sv 37 QI,.box pinned Q12,.ptr 0 pinned [],.ref 35 pinned [.snd,.snd,.fst]],[(.exit 1,[.sv 1 QI,.box pinned Q12,.ptr 0 pinned []])])],[(7,[(.normal,[.sv 1 QI,.sv 4 QI,.box pinned Q12,.ptr 0 pinned []])]),(15667,[(.normal,[.sv 1 QI,.sv 4 QI,.sv 6 QI,.sv 8 QI,.sv 36 QI,.sv 37 QI,.box pinned Q12,.ptr 0 pinned [],.ref 35 pinned [.snd,.snd,.fst]])])],[(17,[.p,.p,.q,.q,.q,.p,.p,.q,.q,.x])]⟩
def a6l(s:(Int×(Int×((List Int)×Z75)))):Option ((Int×(Int×((List Int)×Z75))) ⊕ (Z24 ⊕ Z24)):= cond (decide (s.2.1<s.1)) (cond ((decide (0≤s.2.1))&&(decide (s.2.1<(s.2.2.2.2.1.length:Int)))) ((a2D s.2.2.2.2.2.1).bind fun y6=> (a7e (wrap .i64 (y6.1+(a03 s.2.2.2.2.1 (a01 s.2.1) 0)))).bind fun y7=> cond (!y7) (some (.inr (Sum.inr (([],6,s.2.2.2.2.1,()))))) ((a4a (y6.2,wrap .i64 (y6.1+(a03 s.2.2.2.2.1 (a01 s.2.1) 0)))).bind fun y8=> cond ((decide (0≤s.2.1))&&(decide (s.2.1<(s.2.2.2.2.1.length:Int)))) (some (.inl (s.1,wrap .i64 (s.2.1+1),s.2.2.1,s.2.2.2.1,a05 s.2.2.2.2.1 (a01 s.2.1) (wrap .i64 (y6.1+(a03 s.2.2.2.2.1 (a01 s.2.1) 0))),y8,()))) none)) none) (some (.inr (Sum.inl (s.2.2.1,s.2.2.2.1,s.2.2.2.2.1,()))))
def a8U(k:Int)(v:(Int×Int×Unit))(s:(Z4×Z24)):Option ((Z4×Z24) ⊕ (Ex×Z4×Z24)):= (b0x v).bind fun y4=> cond (y4.2 != 0) (some (.inr (.ret,s.1,[],y4.2,s.2.2.2.1,()))) ((a0h a6l ((s.2.2.2.1.length:Int),0,s.2.1,s.2.2.1,s.2.2.2.1,y4.1,())).bind fun w9=> match w9 with |.inl a10=>some (.inl (s.1,a10.1,a10.2.1,a10.2.2.1,())) |.inr b11=>some (.inr (.ret,s.1,b11.1,b11.2.1,b11.2.2.1,())))
def b2a(x:((List Int)×Z4)):Option ((List Int)×Int):= (a8y x.2).bind fun y1=> cond (!y1) (some ([],1)) ((a6j x.1).bind fun y2=> cond (!y2) (some ([],6)) ((a1j x.1).bind fun y3=> cond (lim (a02 x.2)) ((a6i a8U x.2 (a02 x.2) (x.2,[],0,y3,())).bind fun w12=> match w12 with |.inl a13=>some (a13.2.2.2.1,0) |.inr (.normal,a14)=>some (a14.2.2.2.1,0) |.inr (.exit e15,a14)=>(cond (e15==0) (some (a14.2.2.2.1,0)) none) |.inr (.ret,a14)=>some (a14.2.1,a14.2.2.1)) none))
def a9r:FSem:=⟨[.v QL,.v (.list false Q3)],[.v QL,.v QI],b2a⟩
def e0y:Hints:=⟨[(8046,[.sv 35 QI,.sv 36 QI,.box 1001004 QL,.box 1001005 QI,.box 1001006 (.list true QI),.box 1028 Q12,.ptr 4 1001004 [],.ptr 5 1001005 [],.ptr 6 1001006 [],.ptr 9 1028 [],.ref 34 1001006 []],[(.exit 2,[.box 1001004 QL,.box 1001005 QI,.box 1001006 (.list true QI),.ptr 4 1001004 [],.ptr 5 1001005 [],.ptr 6 1001006 []]),(.ret,[.box 1001004 QL,.box 1001005 QI,.box 1001006 (.list true QI),.ptr 4 1001004 [],.ptr 5 1001005 [],.ptr 6 1001006 []])])],[],[]⟩
def d5S:Cx:=c0v [(87,a0Z),(219,b3k),(259,b1Y),(261,b7l),(262,a4W),(263,b1X),(264,a8M)] [(6,.list true QI)] [0,1,9,10,11,12,13] [56]
def d7B:HintR:=⟨22,Q3,260,295,[4,5,6],[.sv 22 (.list false Q3),.box 1001004 QL,.box 1001005 QI,.box 1001006 (.list true QI),.ptr 4 1001004 [],.ptr 5 1001005 [],.ptr 6 1001006 []]⟩
theorem d8m(x):c7m d5S e0y d7B Tryz.f193 a9r.ps a9r.rs x=a9r.F x:=by kernel_rfl
def a5Z(x:Int):Option Bool:= cond (decide ((-1073741824)≤x)) (some (decide (x<1073741824))) (some false)
def b4x:FSem:=⟨[.v QI],[.v .bool],a5Z⟩
def e0z:Hints:=⟨[],[],[]⟩
def a9S(s:Z53):Option (Z53 ⊕ Z42):= cond (decide (s.2.2.2.1<s.2.2.1)) ((a0p s.2.1 s.2.2.2.1).bind fun x2=> (show Option (Int×(Int×((List Int)×(Int×Int×Z8))))from(a5Z x2).bind fun y3=> cond (!y3) (some (s.1,x2,s.2.1,s.2.2.1,s.2.2.2.1,true,s.2.2.2.2.1,())) (cond (decide (s.1<0)) none ((a5Z (a0z .i64 x2 s.1)).bind fun y4=> some (s.1,x2,s.2.1,s.2.2.1,s.2.2.2.1,!y4,s.2.2.2.2.1,())))).bind fun z5=> cond z5.2.2.2.2.2.1 (some (.inr (Sum.inr ((6,[],()))))) (cond (decide (z5.1<0)) none (cond (lim ((a02 z5.2.2.2.2.2.2.1)+1)) (some (.inl (z5.1,z5.2.2.1,z5.2.2.2.1,wrap .i64 (z5.2.2.2.2.1+1),a04 z5.2.2.2.2.2.2.1 [a0z .i64 z5.2.1 z5.1],()))) none))) (some (.inr (Sum.inl (s.2.2.2.2.1,()))))
def b0y(x:((List Int)×Int)):Option ((List Int)×Int):= (show Option Z18 from cond (decide (x.2<0)) (some (x.1,x.2,true,())) (some (x.1,x.2,decide (x.2 > 30),()))).bind fun z1=> cond z1.2.2.1 (some ([],1)) ((a0h a9S (z1.2.1,z1.1,(z1.1.length:Int),0,[],())).bind fun w6=> match w6 with |.inl a7=>some (a7.1,0) |.inr b8=>some (b8.2.1,b8.1))
def c1I:FSem:=⟨[.v QL,.v QI],[.o QI,.v QI],b0y⟩
def e0A:Hints:=⟨[(122,[.sv 1 QI,.sv 15 QL,.sv 16 QI,.sv 17 QI,.own 6 6 QI],[(.exit 0,[.own 6 6 QI]),(.ret,[.sv 5 QI,.own 4 4 QI])])],[(6,[(.normal,[.sv 0 QL,.sv 1 QI,.sv 14 .bool])]),(15666,[(.normal,[.sv 1 QI,.sv 8 QI,.sv 15 QL,.sv 16 QI,.sv 17 QI,.sv 30 .bool,.own 6 6 QI])])],[]⟩
def a8g(s:(Int×(Int×((List Int)×Z96)))):Option ((Int×(Int×((List Int)×Z96))) ⊕ ((List Int)×Unit)):= cond (decide (s.2.1<s.1)) ((a0p s.2.2.2.1.2.2.2.2.2.2.2.2.1 0).bind fun x1=> cond (lim ((a02 s.2.2.1)+1)) (some (.inl (s.1,wrap .i64 (s.2.1+1),a04 s.2.2.1 [x1],s.2.2.2.1,()))) none) (some (.inr (s.2.2.1,())))
def b4R(x:Z95):Option ((List Int)×Int):= (show Option (((List Int)×(Int×Z96)) ⊕ Z5)from cond (x.1.1==0) ((a0h a8g (x.2,0,[],x.1,())).bind fun w2=> some (Sum.inr ((0,w2.1,())))) (cond (x.1.1==1) (some (Sum.inl (x.1.2.2.2.2.2.2.2.2.1,0,x.1,()))) (cond (x.1.1==2) ((b1W (x.1.2.2.2.2.2.2.2.2.1,x.1.2.2.2.2.2.2.2.2.2.2.1,x.1.2.2.1)).bind fun y3=> some (Sum.inl (y3.1,y3.2,x.1,()))) (cond (x.1.1==3) ((a8f (x.1.2.2.2.2.2.2.2.2.1,x.1.2.2.2.2.2.2.2.2.2.2.1,x.1.2.2.2.2.2.1,x.1.2.2.2.1)).bind fun y4=> some (Sum.inl (y4.1,y4.2,x.1,()))) (cond (x.1.1==4) ((a8f (x.1.2.2.2.2.2.2.2.2.1,x.1.2.2.2.2.2.2.2.2.2.2.1,x.1.2.2.2.2.2.1,x.1.2.2.2.1)).bind fun y5=> cond (y5.2==0) ((b3o (y5.1,x.1.2.2.2.2.1,x.1.2.2.2.2.2.2.1)).bind fun y6=> some (Sum.inl (y6.1,y6.2,x.1,()))) (some (Sum.inl (y5.1,y5.2,x.1,())))) (cond (x.1.1==5) ((b2a (x.1.2.2.2.2.2.2.2.2.2.2.1,x.1.2.2.2.2.2.2.2.1)).bind fun y7=> some (Sum.inl (y7.1,y7.2,x.1,()))) (some (Sum.inl ([],0,x.1,()))))))))).bind fun z8=> match z8 with |.inl a9=>(cond (a9.2.1 != 0) (some ([],a9.2.1)) ((b0y (a9.1,a9.2.2.1.2.1)).bind fun y11=> some (y11.1,y11.2))) |.inr b10=>some (b10.2.1,b10.1)
def c3D:FSem:=⟨[.v Q31,.v QI],[.o QI,.v QI],b4R⟩
def e0B:Hints:=⟨[(3922,[.sv 12 QI,.sv 13 QI,.own 6 6 QI,.vp 2 Q31],[(.exit 1,[.own 6 6 QI])])],[(15,[(.normal,[.sv 6 QL,.sv 7 QI,.vp 2 Q31]),(.ret,[.sv 5 QI,.own 4 6 QI])])],[]⟩
def b4e(x:Z95):Option ((List Int)×Int):= (b1V (x.1,x.2)).bind fun y1=> cond (!y1) (some ([],1)) ((b4R (x.1,x.2)).bind fun y2=> cond (y2.2 != 0) (some ([],1)) (some (y2.1,0)))
def c0y:FSem:=⟨[.v Q31,.v QI],[.o QI,.v QI],b4e⟩
def H45:Hints:=⟨[],[],[]⟩
def b0z(x:Int):Option Bool:= cond (decide ((-1073741824)≤x)) (some (decide (x<1073741824))) (some false)
def b7m:FSem:=⟨[.v QI],[.v .bool],b0z⟩
def e0C:Hints:=⟨[],[],[]⟩
def a5q(s:((List (List Int))×((List (List Int))×Z44))):Option (((List (List Int))×((List (List Int))×Z44)) ⊕ (((List (List Int))×Z25) ⊕ (Bool×Unit))):= cond (decide (s.2.2.2.2.2.2.1<s.2.2.2.2.2.1)) ((a0p s.2.2.2.2.1 s.2.2.2.2.2.2.1).bind fun x5=> (b0z x5).bind fun y6=> cond (!y6) (some (.inr (Sum.inr ((false,()))))) (some (.inl (s.1,s.2.1,s.2.2.1,s.2.2.2.1,s.2.2.2.2.1,s.2.2.2.2.2.1,wrap .i64 (s.2.2.2.2.2.2.1+1),())))) (some (.inr (Sum.inl (s.1,s.2.1,s.2.2.1,s.2.2.2.1,()))))
def a5r(s:((List (List Int))×Z25)):Option (((List (List Int))×Z25) ⊕ Z0):= cond (decide (s.2.2.2.1<s.2.2.1)) ((a0p s.2.1 s.2.2.2.1).bind fun x3=> (a0p s.1 0).bind fun x4=> cond ((x3.length:Int) != (x4.length:Int)) (some (.inr (Sum.inr ((false,()))))) ((a0h a5q (s.1,s.2.1,s.2.2.1,s.2.2.2.1,x3,(x3.length:Int),0,())).bind fun w7=> match w7 with |.inl a8=>some (.inl (a8.1,a8.2.1,a8.2.2.1,wrap .i64 (a8.2.2.2.1+1),())) |.inr b9=>some (.inr (Sum.inr ((b9.1,())))))) (some (.inr (Sum.inl ())))
def a8B(x:(List (List Int))):Option Bool:= (show Option ((List (List Int))×(Bool×Unit))from cond (decide ((x.length:Int)<1)) (some (x,true,())) (cond (decide ((x.length:Int) > 8)) (some (x,true,())) ((a0p x 0).bind fun x1=> some (x,decide ((x1.length:Int) > 4096),())))).bind fun z2=> cond z2.2.1 (some false) ((a0h a5r (z2.1,z2.1,(z2.1.length:Int),0,())).bind fun w10=> match w10 with |.inl a11=>some true |.inr b12=>some b12.1)
def b3p:FSem:=⟨[.v (.list false QL)],[.v .bool],a8B⟩
def e0D:Hints:=⟨[(58,[.sv 0 (.list false QL),.sv 22 (.list false QL),.sv 23 QI,.sv 24 QI],[(.exit 0,[]),(.ret,[.sv 2 .bool])]),(29902,[.sv 0 (.list false QL),.sv 22 (.list false QL),.sv 23 QI,.sv 24 QI,.sv 35 QL,.sv 36 QI,.sv 37 QI],[(.exit 2,[.sv 0 (.list false QL),.sv 22 (.list false QL),.sv 23 QI,.sv 24 QI]),(.ret,[.sv 2 .bool])])],[(6,[(.normal,[.sv 0 (.list false QL),.sv 21 .bool])])],[]⟩
def a7G(s:((List (List Int))×Z26)):Option (((List (List Int))×Z26) ⊕ Z2):= cond (decide (s.2.2.1<s.2.1)) ((a0p s.1 s.2.2.1).bind fun x1=> (a1j x1).bind fun y2=> cond (lim ((a02 s.2.2.2.1)+(a02 (a05 ([[]]:List (List Int)) 0 y2)))) (some (.inl (s.1,s.2.1,wrap .i64 (s.2.2.1+1),a04 s.2.2.2.1 (a05 ([[]]:List (List Int)) 0 y2),()))) none) (some (.inr (s.2.2.2.1,())))
def a8h(x:(List (List Int))):Option (List (List Int)):= (a0h a7G (x,(x.length:Int),0,([]:(List (List Int))),())).bind fun w3=> some w3.1
def b4y:FSem:=⟨[.v (.list false QL)],[.o (.list true QI)],a8h⟩
def e0E:Hints:=⟨[(58,[.sv 6 (.list false QL),.sv 7 QI,.sv 8 QI,.own 3 3 (.list true QI)],[(.exit 0,[.own 3 3 (.list true QI)])])],[],[]⟩
def a4B(s:(Int×(Int×(Int×((List (List Int))×(Z7×Int×Unit)))))):Option ((Int×(Int×(Int×((List (List Int))×(Z7×Int×Unit))))) ⊕ (Z2 ⊕ (Bool×Z2))):= cond (decide (s.2.2.1<s.2.1)) (cond ((decide (0≤s.2.2.1))&&(decide (s.2.2.1<((a02 (a03 s.2.2.2.1 (a01 s.2.2.2.2.2.1) []):Nat):Int)))) (cond ((decide (0≤s.2.2.2.2.1.2.1))&&(decide (s.2.2.2.2.1.2.1<(s.2.2.2.1.length:Int)))) (cond ((decide (0≤s.2.2.1))&&(decide (s.2.2.1<((a02 (a03 s.2.2.2.1 (a01 s.2.2.2.2.1.2.1) []):Nat):Int)))) ((b0z (wrap .i64 ((a03 (a03 s.2.2.2.1 (a01 s.2.2.2.2.1.2.1) []) (a01 s.2.2.1) 0)+(wrap .i64 (s.1*(a0C .i64 (wrap .i64 (s.2.2.2.2.1.2.2.1*(a03 (a03 s.2.2.2.1 (a01 s.2.2.2.2.2.1) []) (a01 s.2.2.1) 0))) 8)))))).bind fun y1=> cond (!y1) (some (.inr (Sum.inr ((false,s.2.2.2.1,()))))) (cond ((decide (0≤s.2.2.2.2.1.2.1))&&(decide (s.2.2.2.2.1.2.1<(s.2.2.2.1.length:Int)))) (cond ((decide (0≤s.2.2.1))&&(decide (s.2.2.1<((a02 (a03 s.2.2.2.1 (a01 s.2.2.2.2.1.2.1) []):Nat):Int)))) (some (.inl (s.1,s.2.1,wrap .i64 (s.2.2.1+1),a05 s.2.2.2.1 (a01 s.2.2.2.2.1.2.1) (a05 (a03 s.2.2.2.1 (a01 s.2.2.2.2.1.2.1) []) (a01 s.2.2.1) (wrap .i64 ((a03 (a03 s.2.2.2.1 (a01 s.2.2.2.2.1.2.1) []) (a01 s.2.2.1) 0)+(wrap .i64 (s.1*(a0C .i64 (wrap .i64 (s.2.2.2.2.1.2.2.1*(a03 (a03 s.2.2.2.1 (a01 s.2.2.2.2.2.1) []) (a01 s.2.2.1) 0))) 8)))))),s.2.2.2.2.1,((a01 s.2.2.2.2.2.1:Nat):Int),()))) none) none)) none) none) none) (some (.inr (Sum.inl (s.2.2.2.1,()))))
def a9s(x:((List (List Int))×(Z7×Int))):Option (Bool×(List (List Int))):= cond ((decide (0≤x.2.1.1))&&(decide (x.2.1.1<(x.1.length:Int)))) ((a0h a4B (x.2.2,((a02 (a03 x.1 (a01 x.2.1.1) []):Nat):Int),0,x.1,x.2.1,((a01 x.2.1.1:Nat):Int),())).bind fun w2=> match w2 with |.inl a3=>some (true,a3.1) |.inr b4=>some (b4.1,b4.2.1)) none
def b5L:FSem:=⟨[.r false (.o (.list true QI)),.v Q8,.v QI],[.v .bool],a9s⟩
def e0F:Hints:=⟨[(26,[.sv 2 QI,.sv 15 QI,.sv 16 QI,.own 0 pinned (.list true QI),.vp 4 Q8,.rfi 14 pinned],[(.exit 0,[.own 0 pinned (.list true QI)]),(.ret,[.sv 6 .bool,.own 0 pinned (.list true QI)])])],[],[(4,[.q,.v,.v,.q,.q,.v,.q,.q,.v,.v,.v,.v,.v,.v,.v,.x,.x])]⟩
def a4j(k:Int)(v:Z7)(s:(Z14×((List (List Int))×Z12))):Option ((Z14×((List (List Int))×Z12)) ⊕ (Ex×(Z14×((List (List Int))×Z12)))):= (a9s (s.2.2.2.1,v,(-1))).bind fun y5=> cond (!y5.1) (some (.inr (.ret,s.1,([]:(List (List Int))),6,y5.2,()))) (some (.inl (s.1,s.2.1,s.2.2.1,y5.2,())))
def b3q(x:((List (List Int))×Z14)):Option ((List (List Int))×Int):= (show Option ((List (List Int))×(Z14×Bool×Z13))from(a8B x.1).bind fun y1=> cond (!y1) (some (x.1,x.2,true,([]:(List (List Int))),0,())) ((a9O (x.2,(x.1.length:Int))).bind fun y2=> some (x.1,x.2,!y2,([]:(List (List Int))),0,()))).bind fun z3=> cond z3.2.2.1 (some (([]:(List (List Int))),1)) ((a8h z3.1).bind fun y4=> cond (lim (a02 z3.2.1)) ((a6i a4j z3.2.1 (a02 z3.2.1) (z3.2.1,z3.2.2.2.1,z3.2.2.2.2.1,y4,())).bind fun w6=> match w6 with |.inl a7=>some (a7.2.2.2.1,0) |.inr (.normal,a8)=>some (a8.2.2.2.1,0) |.inr (.exit e9,a8)=>(cond (e9==0) (some (a8.2.2.2.1,0)) none) |.inr (.ret,a8)=>some (a8.2.1,a8.2.2.1)) none)
def b0A:FSem:=⟨[.v (.list false QL),.v (.list false Q8)],[.v (.list false QL),.v QI],b3q⟩
def H46:Hints:=⟨[],[(6,[(.normal,[.sv 0 (.list false QL),.sv 1 (.list false Q8),.sv 18 .bool,.box 4 (.list false QL),.box 5 QI,.ptr 4 4 [],.ptr 5 5 []])])],[]⟩
def d7C:Cx:=c0v [(102,b4P),(105,b3p),(106,b4y),(108,b5L)] [(6,.list true (.list true QI))] [0,1] [29]
def R46:HintR:=⟨21,Q8,107,196,[4,5,6],[.sv 21 (.list false Q8),.box 1001004 (.list false QL),.box 1001005 QI,.box 1001006 (.list true (.list true QI)),.ptr 4 1001004 [],.ptr 5 1001005 [],.ptr 6 1001006 []]⟩
theorem e0G(x):c7m d7C H46 R46 Tryz.f46 b0A.ps b0A.rs x=b0A.F x:=by kernel_rfl
def a6H(x:Z12):Option Int:= cond ((x.2.1.length:Int)==0) (some 0) ((a0p x.2.1 0).bind fun x1=> some (x1.length:Int))
def b7n:FSem:=⟨[.v Q10],[.v QI],a6H⟩
def H35:Hints:=⟨[],[],[]⟩
def b5M(x:Int):Option Int:= (show Option (Int×Bool×Unit)from cond (decide (x<1)) (some (x,true,())) (some (x,decide (x > 31),()))).bind fun z1=> cond z1.2.1 (some 0) (cond (decide ((wrap .i64 (z1.1-1))<0)) none (some (a0z .i64 (-1) (wrap .i64 (z1.1-1)))))
def c0z:FSem:=⟨[.v QI],[.v QI],b5M⟩
def e0H:Hints:=⟨[],[(6,[(.normal,[.sv 0 QI,.sv 8 .bool])])],[]⟩
def b4z(x:Int):Option Int:= (show Option (Int×Bool×Unit)from cond (decide (x<1)) (some (x,true,())) (some (x,decide (x > 31),()))).bind fun z1=> cond z1.2.1 (some 0) (cond (decide ((wrap .i64 (z1.1-1))<0)) none (some (wrap .i64 ((a0z .i64 1 (wrap .i64 (z1.1-1)))-1))))
def b9v:FSem:=⟨[.v QI],[.v QI],b4z⟩
def e0I:Hints:=⟨[],[(6,[(.normal,[.sv 0 QI,.sv 8 .bool])])],[]⟩
def a4H(x:(Int×Int)):Option Bool:= cond (decide (x.2≥1)) (cond (decide (x.2≤31)) ((b5M x.2).bind fun y1=> cond (decide (y1≤x.1)) ((b4z x.2).bind fun y2=> some (decide (x.1≤y2))) (some false)) (some false)) (some false)
def b0R:FSem:=⟨[.v QI,.v QI],[.v .bool],a4H⟩
def e0J:Hints:=⟨[],[],[]⟩
def a5s(s:((List (List Int))×(Int×(Int×((List Int)×Z56))))):Option (((List (List Int))×(Int×(Int×((List Int)×Z56)))) ⊕ (((List (List Int))×Z56) ⊕ (Bool×Unit))):= cond (decide (s.2.2.2.2.2.1<s.2.2.2.2.1)) ((a0p s.2.2.2.1 s.2.2.2.2.2.1).bind fun x8=> (a4H (x8,s.2.2.2.2.2.2.1.1)).bind fun y9=> cond (!y9) (some (.inr (Sum.inr ((false,()))))) (some (.inl (s.1,s.2.1,s.2.2.1,s.2.2.2.1,s.2.2.2.2.1,wrap .i64 (s.2.2.2.2.2.1+1),s.2.2.2.2.2.2.1,())))) (some (.inr (Sum.inl (s.1,s.2.1,s.2.2.1,s.2.2.2.2.2.2.1,()))))
def a5t(s:((List (List Int))×Z56)):Option (((List (List Int))×Z56) ⊕ Z0):= cond (decide (s.2.2.1<s.2.1)) ((a0p s.1 s.2.2.1).bind fun x6=> (a6H s.2.2.2.1).bind fun y7=> cond ((x6.length:Int) != y7) (some (.inr (Sum.inr ((false,()))))) ((a0h a5s (s.1,s.2.1,s.2.2.1,x6,(x6.length:Int),0,s.2.2.2.1,())).bind fun w10=> match w10 with |.inl a11=>some (.inl (a11.1,a11.2.1,wrap .i64 (a11.2.2.1+1),a11.2.2.2.1,())) |.inr b12=>some (.inr (Sum.inr ((b12.1,())))))) (some (.inr (Sum.inl ())))
def a8C(x:Z12):Option Bool:= (show Option Z48 from(a8a x.1).bind fun y1=> cond (!y1) (some (true,x,())) (cond (decide ((x.2.1.length:Int)<1)) (some (true,x,())) (some (decide ((x.2.1.length:Int) > 8),x,())))).bind fun z2=> cond z2.1 (some false) ((show Option Z48 from(a6H z2.2.1).bind fun y3=> cond (decide (y3<1)) (some (true,z2.2.1,())) ((a6H z2.2.1).bind fun y4=> some (decide (y4 > 4096),z2.2.1,()))).bind fun z5=> cond z5.1 (some false) ((a0h a5t (z5.2.1.2.1,(z5.2.1.2.1.length:Int),0,z5.2.1,())).bind fun w13=> match w13 with |.inl a14=>some true |.inr b15=>some b15.1))
def b3r:FSem:=⟨[.v Q10],[.v .bool],a8C⟩
def H47:Hints:=⟨[(122,[.sv 32 (.list false QL),.sv 33 QI,.sv 34 QI,.vp 1 Q10],[(.exit 0,[]),(.ret,[.sv 2 .bool])]),(62670,[.sv 32 (.list false QL),.sv 33 QI,.sv 34 QI,.sv 43 QL,.sv 44 QI,.sv 45 QI,.vp 1 Q10],[(.exit 2,[.sv 32 (.list false QL),.sv 33 QI,.sv 34 QI,.vp 1 Q10]),(.ret,[.sv 2 .bool])])],[(6,[(.normal,[.sv 22 .bool,.vp 1 Q10])]),(14,[(.normal,[.sv 30 .bool,.vp 1 Q10])])],[]⟩
def a5A(s:(Z94×(Int×(Int×((List (List Int))×d1y))))):Option ((Z94×(Int×(Int×((List (List Int))×d1y)))) ⊕ (((List (List Int))×d1y) ⊕ Z46)):= cond (decide (s.2.2.1<s.2.1)) ((a0p s.1 s.2.2.1).bind fun x3=> (b4e (x3,s.2.2.2.2.2.1.2.1)).bind fun y4=> cond (y4.2 != 0) (some (.inr (Sum.inr ((1,(0,([]:(List (List Int))),()),()))))) (cond (lim ((a02 s.2.2.2.1)+1)) (some (.inl (s.1,s.2.1,wrap .i64 (s.2.2.1+1),a04 s.2.2.2.1 ([y4.1]:List (List Int)),s.2.2.2.2.1,s.2.2.2.2.2.1,()))) none)) (some (.inr (Sum.inl (s.2.2.2.1,s.2.2.2.2.1,s.2.2.2.2.2.1,()))))
def a8i(x:a7C):Option (Z12×Int):= (show Option (Bool×d1y)from(a8d x).bind fun y1=> cond (!y1) (some (true,(0,([]:(List (List Int))),()),x,())) (some ((x.2.2.2.2.1.length:Int) != x.2.2.1.2.1,(0,([]:(List (List Int))),()),x,()))).bind fun z2=> cond z2.1 (some ((0,([]:(List (List Int))),()),1)) (cond ((decide (0≤(z2.2.2.1.2.2.2.2.1.length:Int)))&&(lim (a01 (z2.2.2.1.2.2.2.2.1.length:Int)))) ((a0h a5A (z2.2.2.1.2.2.2.2.1,(z2.2.2.1.2.2.2.2.1.length:Int),0,([]:(List (List Int))),z2.2.1,z2.2.2.1,())).bind fun w5=> match w5 with |.inl a6=>((b3q (a6.1,a6.2.2.1.2.2.2.1)).bind fun y8=> cond (y8.2 != 0) (some ((0,([]:(List (List Int))),()),1)) ((a8C (a6.2.2.1.2.2.1.2.2.1,y8.1,())).bind fun y9=> cond (!y9) (some ((0,([]:(List (List Int))),()),1)) (some ((a6.2.2.1.2.2.1.2.2.1,y8.1,()),0)))) |.inr b7=>some (b7.2.1,b7.1)) none)
def b4A:FSem:=⟨[.v Q49],[.v Q10,.v QI],a8i⟩
def H17:Hints:=⟨[(122,[.sv 30 (.list false Q31),.sv 31 QI,.sv 32 QI,.own 4 4 QL,.box 2 Q10,.vp 1 Q49,.ptr 2 2 []],[(.exit 0,[.own 4 4 QL,.box 2 Q10,.vp 1 Q49,.ptr 2 2 []]),(.ret,[.sv 3 QI,.box 2 Q10,.ptr 2 2 []])])],[(6,[(.normal,[.sv 23 .bool,.box 2 Q10,.vp 1 Q49,.ptr 2 2 []])])],[]⟩
def a5g(x:a7C):Option Bool:= (a8i x).bind fun y1=> some (y1.2==0)
def b7o:FSem:=⟨[.v Q49],[.v .bool],a5g⟩
def H21:Hints:=⟨[],[],[]⟩
def b1x(x:Z95):Option Bool:= (b4e (x.1,x.2)).bind fun y1=> some (y1.2==0)
def c0A:FSem:=⟨[.v Q31,.v QI],[.v .bool],b1x⟩
def e0K:Hints:=⟨[],[],[]⟩
def a3L(s:Z44):Option (Z44 ⊕ Z27):= cond (s.2.1 != 0) (cond (decide (s.1<32)) ((a4H (s.2.1,s.1)).bind fun y2=> cond (!y2) (some (.inl (wrap .i64 (s.1+1),s.2.1,s.2.2.1,s.2.2.2.1,s.2.2.2.2.1,()))) (some (.inr (s.1,s.2.2.1,s.2.2.2.1,s.2.2.2.2.1,())))) (some (.inr (s.1,s.2.2.1,s.2.2.2.1,s.2.2.2.2.1,())))) (some (.inr (s.1,s.2.2.1,s.2.2.2.1,s.2.2.2.2.1,())))
def a6P(s:Z27):Option Z58:= cond (decide (s.2.2.2.1<s.2.2.1)) ((a0p s.2.1 s.2.2.2.1).bind fun x1=> (a0h a3L (s.1,x1,s.2.1,s.2.2.1,s.2.2.2.1,())).bind fun w3=> some (.inl (w3.1,w3.2.1,w3.2.2.1,wrap .i64 (w3.2.2.2.1+1),()))) (some (.inr (s.1,())))
def a1H(x:(List Int)):Option Int:= (a0h a6P (0,x,(x.length:Int),0,())).bind fun w4=> some w4.1
def a3n:FSem:=⟨[.v QL],[.v QI],a1H⟩
def e0L:Hints:=⟨[(58,[.sv 3 QI,.sv 6 QL,.sv 7 QI,.sv 8 QI],[(.exit 0,[.sv 3 QI])]),(7474,[.sv 3 QI,.sv 5 QI,.sv 6 QL,.sv 7 QI,.sv 8 QI],[(.exit 2,[.sv 3 QI,.sv 6 QL,.sv 7 QI,.sv 8 QI])])],[],[]⟩
def a2J(x:(Z6×Int)):Option Z6:= (show Option Z33 from cond ((a25 x.1.2.1 8)==0) (cond (lim ((a02 x.1.1)+1)) (some (x.2,(a04 x.1.1 [0],x.1.2),())) none) (some (x.2,x.1,()))).bind fun z1=> cond ((decide (0≤(wrap .i64 (a18 z1.2.1.2.1 8))))&&(decide ((wrap .i64 (a18 z1.2.1.2.1 8))<(z1.2.1.1.length:Int)))) (cond (decide ((wrap .i64 (7-(a25 z1.2.1.2.1 8)))<0)) none (cond ((decide (0≤(wrap .i64 (a18 z1.2.1.2.1 8))))&&(decide ((wrap .i64 (a18 z1.2.1.2.1 8))<(z1.2.1.1.length:Int)))) (some (a05 z1.2.1.1 (a01 (wrap .i64 (a18 z1.2.1.2.1 8))) (bits .u8 .or (a03 z1.2.1.1 (a01 (wrap .i64 (a18 z1.2.1.2.1 8))) 0) (a0z .u8 z1.1 (wrap .i64 (7-(a25 z1.2.1.2.1 8))))),wrap .i64 (z1.2.1.2.1+1),z1.2.1.2.2)) none)) none
def a6Q:FSem:=⟨[.r false (.b Q5),.v (.int .u8)],[],a2J⟩
def e0M:Hints:=⟨[],[(1,[(.normal,[.sv 1 (.int .u8),.box pinned Q5,.ptr 0 pinned []])])],[(2,[.p,.p,.q,.q,.p,.p,.q,.q,.v,.q,.q,.v,.p,.p,.q,.q,.v,.v,.v,.x,.x,.x])]⟩
def a4X(s:Z49):Option (Z49 ⊕ Z20):= cond (decide (s.2.1≥0)) (cond (decide (s.2.1<0)) none ((a2J (s.2.2.1,wrap .u8 (bits .u64 .and (a0C .u64 s.1 s.2.1) 1))).bind fun y2=> some (.inl (s.1,wrap .i64 (s.2.1-1),y2,())))) (some (.inr (s.2.2.1,())))
def a0m(x:(Z6×Int×Int)):Option Z17:= (show Option (Int×Int×Bool×Z20)from cond (decide (x.2.2<0)) (some (x.2.1,x.2.2,true,x.1,())) (cond (decide (x.2.2 > 64)) (some (x.2.1,x.2.2,true,x.1,())) (cond (decide (x.2.2<0)) none (some (x.2.1,x.2.2,(a0C .u64 x.2.1 x.2.2) != 0,x.1,()))))).bind fun z1=> cond z1.2.2.1 (some (1,z1.2.2.2.1)) ((a0h a4X (z1.1,wrap .i64 (z1.2.1-1),z1.2.2.2.1,())).bind fun w3=> some (0,w3.1))
def a3M:FSem:=⟨[.r false (.b Q5),.v (.int .u64),.v QI],[.v QI],a0m⟩
def e0N:Hints:=⟨[(58,[.sv 1 (.int .u64),.sv 7 QI,.box pinned Q5,.ptr 0 pinned []],[(.exit 0,[.box pinned Q5])])],[(6,[(.normal,[.sv 1 (.int .u64),.sv 2 QI,.sv 19 .bool,.box pinned Q5,.ptr 0 pinned []])])],[]⟩
def a3B(x:(Z6×Int×Int)):Option Z6:= cond (decide (x.2.2<0)) none ((a0m (x.1,bits .u64 .and (wrap .u64 x.2.1) (wrap .u64 ((a0z .u64 1 x.2.2)-1)),x.2.2)).bind fun y1=> some y1.2)
def b2b:FSem:=⟨[.r false (.b Q5),.v QI,.v QI],[],a3B⟩
def e0O:Hints:=⟨[],[],[]⟩
def a6R(s:Z77):Option (Z77 ⊕ Z20):= cond (decide (s.2.2.2.1<s.2.2.1)) ((a0p s.2.1 s.2.2.2.1).bind fun x6=> (a3B (s.2.2.2.2.1,x6,s.1)).bind fun y7=> some (.inl (s.1,s.2.1,s.2.2.1,wrap .i64 (s.2.2.2.1+1),y7,()))) (some (.inr (s.2.2.2.2.1,())))
def a9T(x:(Z6×Z93)):Option Z6:= (a0m (x.1,wrap .u64 (wrap .i64 ((x.2.2.2.2.2.2.1.length:Int)-1)),5)).bind fun y1=> (a0m (y1.2,wrap .u64 x.2.2.2.2.1,4)).bind fun y2=> (a1H x.2.2.2.2.2.2.1).bind fun y3=> (a0m (y2.2,wrap .u64 y3,5)).bind fun y4=> (a0h a6R (y3,x.2.2.2.2.2.2.1,(x.2.2.2.2.2.2.1.length:Int),0,y4.2,())).bind fun w8=> some w8.1
def b7P:FSem:=⟨[.r false (.b Q5),.v Q31],[],a9T⟩
def e0P:Hints:=⟨[(254,[.sv 4 QI,.sv 27 QL,.sv 28 QI,.sv 29 QI,.box pinned Q5,.ptr 0 pinned []],[(.exit 0,[.box pinned Q5])])],[],[]⟩
def b5N(s:Z15):Option Z61:= cond (decide (s.2.2.1<s.2.1)) ((a0p s.1 s.2.2.1).bind fun x3=> (show Option Z32 from cond (decide (x3<(-1073741824))) (some (s.1,s.2.1,s.2.2.1,true,())) (some (s.1,s.2.1,s.2.2.1,decide (x3≥1073741824),()))).bind fun z4=> cond z4.2.2.2.1 (some (.inr (Sum.inr ((false,()))))) (some (.inl (z4.1,z4.2.1,wrap .i64 (z4.2.2.1+1),())))) (some (.inr (Sum.inl ())))
def a8j(x:Z1):Option Bool:= (show Option ((List Int)×(Bool×Unit))from(a8z (x.1,x.2.1)).bind fun y1=> cond (!y1) (some (x.2.2,true,())) (some (x.2.2,(x.2.2.length:Int) != (wrap .i64 (x.1-x.2.1)),()))).bind fun z2=> cond z2.2.1 (some false) ((a0h b5N (z2.1,(z2.1.length:Int),0,())).bind fun w5=> match w5 with |.inl a6=>some true |.inr b7=>some b7.1)
def b4B:FSem:=⟨[.v QI,.v QI,.v QL],[.v .bool],a8j⟩
def e0Q:Hints:=⟨[(58,[.sv 21 QL,.sv 22 QI,.sv 23 QI],[(.exit 0,[]),(.ret,[.sv 6 .bool])])],[(6,[(.normal,[.sv 2 QL,.sv 20 .bool])]),(3737,[(.normal,[.sv 21 QL,.sv 22 QI,.sv 23 QI,.sv 32 .bool])])],[]⟩
def a6I(x:(List Int)):Option Int:= (a1H x).bind fun y1=> some (wrap .i64 (5+(wrap .i64 (y1*(x.length:Int)))))
def b7p:FSem:=⟨[.v QL],[.v QI],a6I⟩
def e0R:Hints:=⟨[],[],[]⟩
def a2w(x:Int):Option Bool:= cond (decide (0≤x)) (some (decide (x≤25))) (some false)
def a7H:FSem:=⟨[.v QI],[.v .bool],a2w⟩
def e0S:Hints:=⟨[],[],[]⟩
def a8D(x:Int):Option Bool:= cond (decide ((-1073741824)≤x)) (some (decide (x<1073741824))) (some false)
def b3s:FSem:=⟨[.v QI],[.v .bool],a8D⟩
def e0T:Hints:=⟨[],[],[]⟩
def b0B(x:Int):Option Int:= (a8D x).bind fun y1=> cond (!y1) (some 0) (cond (decide (x≥0)) (some (wrap .u64 (wrap .i64 (2*x)))) (some (wrap .u64 (wrap .i64 ((wrap .i64 ((-2)*x))-1)))))
def b7q:FSem:=⟨[.v QI],[.v (.int .u64)],b0B⟩
def e0U:Hints:=⟨[],[],[]⟩
def a8E(x:(Int×Int)):Option Int:= (show Option Z9 from(a2w x.1).bind fun y1=> cond (!y1) (some (x.1,x.2,true,())) ((a8D x.2).bind fun y2=> some (x.1,x.2,!y2,()))).bind fun z3=> cond z3.2.2.1 (some 0) ((b0B z3.2.1).bind fun y4=> cond (decide (z3.1<0)) none (cond (decide ((wrap .i64 (a0C .u64 y4 z3.1))<32)) (some (wrap .i64 ((wrap .i64 ((wrap .i64 (a0C .u64 y4 z3.1))+1))+z3.1))) (some 65)))
def c1J:FSem:=⟨[.v QI,.v QI],[.v QI],a8E⟩
def e0V:Hints:=⟨[],[(6,[(.normal,[.sv 0 QI,.sv 1 QI,.sv 13 .bool])])],[]⟩
def a4I(s:Z44):Option (Z44 ⊕ (Int×Unit)):= cond (decide (s.2.2.2.2.1<s.2.2.2.1)) ((a0p s.2.2.1 s.2.2.2.2.1).bind fun x1=> (a8E (s.1,x1)).bind fun y2=> some (.inl (s.1,wrap .i64 (s.2.1+y2),s.2.2.1,s.2.2.2.1,wrap .i64 (s.2.2.2.2.1+1),()))) (some (.inr (s.2.1,())))
def a4m(x:(Int×(List Int))):Option Int:= (a0h a4I (x.1,0,x.2,(x.2.length:Int),0,())).bind fun w3=> some w3.1
def b4S:FSem:=⟨[.v QI,.v QL],[.v QI],a4m⟩
def e0W:Hints:=⟨[(58,[.sv 0 QI,.sv 5 QI,.sv 8 QL,.sv 9 QI,.sv 10 QI],[(.exit 0,[.sv 5 QI])])],[],[]⟩
def a1K(s:((List Int)×(Int×(Int×(Int×((List Int)×Z19)))))):Option (((List Int)×(Int×(Int×(Int×((List Int)×Z19))))) ⊕ (Int×Unit)):= cond (decide (s.2.2.2.1<s.2.2.1)) (cond ((decide (0≤s.2.2.2.1))&&(decide (s.2.2.2.1<(s.2.2.2.2.1.length:Int)))) (cond ((decide (0≤(a03 s.2.2.2.2.1 (a01 s.2.2.2.1) 0)))&&(decide ((a03 s.2.2.2.2.1 (a01 s.2.2.2.1) 0)≤(s.1.length:Int)))) (cond ((decide (0≤(a03 s.2.2.2.2.1 (a01 s.2.2.2.1) 0)))&&(decide ((a03 s.2.2.2.2.1 (a01 s.2.2.2.1) 0)≤(s.1.length:Int)))) ((a0p s.2.2.2.2.2.1.2.1 s.2.2.2.1).bind fun x5=> cond (x5==31) ((a6I (a07 (a01 (a03 s.2.2.2.2.1 (a01 s.2.2.2.1) 0)) s.1)).bind fun y6=> some (.inl (a30 (a01 (a03 s.2.2.2.2.1 (a01 s.2.2.2.1) 0)) (a07 (a02 s.1) s.1),wrap .i64 (s.2.1+(wrap .i64 (5+y6))),s.2.2.1,wrap .i64 (s.2.2.2.1+1),s.2.2.2.2.1,s.2.2.2.2.2.1,()))) ((a0p s.2.2.2.2.2.1.2.1 s.2.2.2.1).bind fun x7=> (a4m (x7,a07 (a01 (a03 s.2.2.2.2.1 (a01 s.2.2.2.1) 0)) s.1)).bind fun y8=> some (.inl (a30 (a01 (a03 s.2.2.2.2.1 (a01 s.2.2.2.1) 0)) (a07 (a02 s.1) s.1),wrap .i64 (s.2.1+(wrap .i64 (5+y8))),s.2.2.1,wrap .i64 (s.2.2.2.1+1),s.2.2.2.2.1,s.2.2.2.2.2.1,())))) none) none) none) (some (.inr (s.2.1,())))
def a5B(x:(Z5×Z1)):Option Int:= (show Option (Int×(Int×((List Int)×(Bool×Z19))))from(b0w (x.1,x.2.1,x.2.2.1)).bind fun y1=> cond (!y1) (some (x.2.1,x.2.2.1,x.2.2.2,true,x.1,())) ((a8j (x.2.1,x.2.2.1,x.2.2.2)).bind fun y2=> some (x.2.1,x.2.2.1,x.2.2.2,!y2,x.1,()))).bind fun z3=> cond z3.2.2.2.1 (some 0) ((a3P (z3.2.2.2.2.1.1,z3.1,z3.2.1)).bind fun y4=> (a0h a1K (z3.2.2.1,4,(y4.length:Int),0,y4,z3.2.2.2.2.1,())).bind fun w9=> some w9.1)
def b5O:FSem:=⟨[.v Q7,.v QI,.v QI,.v QL],[.v QI],a5B⟩
def e0X:Hints:=⟨[(122,[.sv 3 QL,.sv 9 QI,.sv 30 QI,.sv 31 QI,.own 29 1029 QI,.vp 4 Q7],[(.exit 0,[.sv 9 QI])])],[(6,[(.normal,[.sv 1 QI,.sv 2 QI,.sv 3 QL,.sv 24 .bool,.vp 4 Q7])])],[]⟩
def a4n(s:Z49):Option (Z49 ⊕ Z20):= cond (decide (s.2.1<s.1)) ((a2J (s.2.2.1,0)).bind fun y2=> some (.inl (s.1,wrap .i64 (s.2.1+1),y2,()))) (some (.inr (s.2.2.1,())))
def a2Y(x:(Z6×Int)):Option Z17:= (show Option (Int×Bool×Z20)from cond (decide (x.2<0)) (some (x.2,true,x.1,())) (some (x.2,decide (x.2 > 4096),x.1,()))).bind fun z1=> cond z1.2.1 (some (1,z1.2.2.1)) ((a0h a4n (z1.1,0,z1.2.2.1,())).bind fun w3=> (a2J (w3.1,1)).bind fun y4=> some (0,y4))
def b2z:FSem:=⟨[.r false (.b Q5),.v QI],[.v QI],a2Y⟩
def e0Y:Hints:=⟨[(58,[.sv 11 QI,.sv 12 QI,.box pinned Q5,.ptr 0 pinned []],[(.exit 0,[.box pinned Q5,.ptr 0 pinned []])])],[(6,[(.normal,[.sv 1 QI,.sv 10 .bool,.box pinned Q5,.ptr 0 pinned []])])],[]⟩
def b0S(s:(Int×((List Int)×Z69))):Option ((Int×((List Int)×Z69)) ⊕ ((Int×((List Int)×Z20)) ⊕ Z33)):= cond (decide (s.2.2.2.2.1<s.2.2.2.1)) ((a0p s.2.2.1 s.2.2.2.2.1).bind fun x2=> (a8D x2).bind fun y3=> cond (!y3) (some (.inr (Sum.inr ((1,s.2.2.2.2.2.1,()))))) (some (.inl (s.1,s.2.1,s.2.2.1,s.2.2.2.1,wrap .i64 (s.2.2.2.2.1+1),s.2.2.2.2.2.1,())))) (some (.inr (Sum.inl (s.1,s.2.1,s.2.2.2.2.2.1,()))))
def a8k(s:Z77):Option (Z77 ⊕ Z20):= cond (decide (s.2.2.2.1<s.2.2.1)) ((a0p s.2.1 s.2.2.2.1).bind fun x7=> (b0B x7).bind fun y8=> cond (decide (s.1<0)) none (cond (decide ((a0C .u64 y8 s.1)<32)) ((a2Y (s.2.2.2.2.1,wrap .i64 (a0C .u64 y8 s.1))).bind fun y9=> cond (decide (s.1<0)) none ((a0m (y9.2,wrap .u64 (y8-(a0z .u64 (a0C .u64 y8 s.1) s.1)),s.1)).bind fun y10=> some (.inl (s.1,s.2.1,s.2.2.1,wrap .i64 (s.2.2.2.1+1),y10.2,())))) ((a2Y (s.2.2.2.2.1,32)).bind fun y11=> (a0m (y11.2,y8,32)).bind fun y12=> some (.inl (s.1,s.2.1,s.2.2.1,wrap .i64 (s.2.2.2.1+1),y12.2,()))))) (some (.inr (s.2.2.2.2.1,())))
def b4T(x:(Z6×(Int×(List Int)))):Option Z17:= (a2w x.2.1).bind fun y1=> cond (!y1) (some (1,x.1)) ((a0h b0S (x.2.1,x.2.2,x.2.2,(x.2.2.length:Int),0,x.1,())).bind fun w4=> match w4 with |.inl a5=>((a0h a8k (a5.1,a5.2.1,(a5.2.1.length:Int),0,a5.2.2.1,())).bind fun w13=> some (0,w13.1)) |.inr b6=>some (b6.1,b6.2.1))
def c3E:FSem:=⟨[.r false (.b Q5),.v QI,.v QL],[.v QI],b4T⟩
def e0Z:Hints:=⟨[(58,[.sv 1 QI,.sv 2 QL,.sv 16 QL,.sv 17 QI,.sv 18 QI,.box pinned Q5,.ptr 0 pinned []],[(.exit 0,[.sv 1 QI,.sv 2 QL,.box pinned Q5,.ptr 0 pinned []]),(.ret,[.sv 6 QI,.box pinned Q5])]),(122,[.sv 1 QI,.sv 26 QL,.sv 27 QI,.sv 28 QI,.box pinned Q5,.ptr 0 pinned []],[(.exit 2,[.box pinned Q5])])],[],[]⟩
def a9U(s:((List Int)×(Int×Int×Int×Z87))):Option (((List Int)×(Int×Int×Int×Z87)) ⊕ Z87):= cond (decide (s.2.2.2.2.2.2.1<s.2.2.2.2.2.1)) ((a0p s.2.2.2.2.1 s.2.2.2.2.2.2.1).bind fun x11=> cond (decide (s.2.1<0)) none ((a0m (s.2.2.2.2.2.2.2.2.1,bits .u64 .and (wrap .u64 x11) (wrap .u64 ((a0z .u64 1 s.2.1)-1)),s.2.1)).bind fun y12=> some (.inl (s.1,s.2.1,s.2.2.1,s.2.2.2.1,s.2.2.2.2.1,s.2.2.2.2.2.1,wrap .i64 (s.2.2.2.2.2.2.1+1),s.2.2.2.2.2.2.2.1,y12.2,s.2.2.2.2.2.2.2.2.2.1,())))) (some (.inr (s.1,s.2.2.1,s.2.2.2.1,s.2.2.2.2.2.2.2.1,s.2.2.2.2.2.2.2.2.1,s.2.2.2.2.2.2.2.2.2.1,())))
def a5u(s:Z87):Option (Z87 ⊕ Z20):= cond (decide (s.2.2.1<s.2.1)) (cond ((decide (0≤s.2.2.1))&&(decide (s.2.2.1<(s.2.2.2.1.length:Int)))) (cond ((decide (0≤(a03 s.2.2.2.1 (a01 s.2.2.1) 0)))&&(decide ((a03 s.2.2.2.1 (a01 s.2.2.1) 0)≤(s.1.length:Int)))) (cond ((decide (0≤(a03 s.2.2.2.1 (a01 s.2.2.1) 0)))&&(decide ((a03 s.2.2.2.1 (a01 s.2.2.1) 0)≤(s.1.length:Int)))) ((a0p s.2.2.2.2.2.1.2.1 s.2.2.1).bind fun x4=> (a0m (s.2.2.2.2.1,wrap .u64 x4,5)).bind fun y5=> (a0p s.2.2.2.2.2.1.2.1 s.2.2.1).bind fun x6=> cond (x6 != 31) ((a0p s.2.2.2.2.2.1.2.1 s.2.2.1).bind fun x7=> (b4T (y5.2,x7,a07 (a01 (a03 s.2.2.2.1 (a01 s.2.2.1) 0)) s.1)).bind fun y8=> some (.inl (a30 (a01 (a03 s.2.2.2.1 (a01 s.2.2.1) 0)) (a07 (a02 s.1) s.1),s.2.1,wrap .i64 (s.2.2.1+1),s.2.2.2.1,y8.2,s.2.2.2.2.2.1,()))) ((a1H (a07 (a01 (a03 s.2.2.2.1 (a01 s.2.2.1) 0)) s.1)).bind fun y9=> (a0m (y5.2,wrap .u64 y9,5)).bind fun y10=> (a0h a9U (a30 (a01 (a03 s.2.2.2.1 (a01 s.2.2.1) 0)) (a07 (a02 s.1) s.1),y9,s.2.1,s.2.2.1,a07 (a01 (a03 s.2.2.2.1 (a01 s.2.2.1) 0)) s.1,((a02 (a07 (a01 (a03 s.2.2.2.1 (a01 s.2.2.1) 0)) s.1):Nat):Int),0,s.2.2.2.1,y10.2,s.2.2.2.2.2.1,())).bind fun w13=> some (.inl (w13.1,w13.2.1,wrap .i64 (w13.2.2.1+1),w13.2.2.2.1,w13.2.2.2.2.1,w13.2.2.2.2.2.1,())))) none) none) none) (some (.inr (s.2.2.2.2.1,())))
def b3t(x:(Z6×Z5×Z1)):Option Z17:= (a5B (x.2.1,x.2.2.1,x.2.2.2.1,x.2.2.2.2)).bind fun y1=> cond (y1==0) (some (1,x.1)) ((a0m (x.1,wrap .u64 x.2.1.1,4)).bind fun y2=> (a3P (x.2.1.1,x.2.2.1,x.2.2.2.1)).bind fun y3=> (a0h a5u (x.2.2.2.2,(y3.length:Int),0,y3,y2.2,x.2.1,())).bind fun w14=> some (0,w14.1))
def c1K:FSem:=⟨[.r false (.b Q5),.v Q7,.v QI,.v QI,.v QL],[.v QI],b3t⟩
def e1a:Hints:=⟨[(122,[.sv 4 QL,.sv 33 QI,.sv 34 QI,.own 32 1032 QI,.box pinned Q5,.ptr 0 pinned [],.vp 6 Q7],[(.exit 0,[.box pinned Q5])]),(2005502,[.sv 4 QL,.sv 14 QI,.sv 33 QI,.sv 34 QI,.sv 73 QL,.sv 74 QI,.sv 75 QI,.own 32 1032 QI,.box pinned Q5,.ptr 0 pinned [],.vp 6 Q7],[(.exit 2,[.sv 4 QL,.sv 33 QI,.sv 34 QI,.own 32 1032 QI,.box pinned Q5,.ptr 0 pinned [],.vp 6 Q7])])],[],[]⟩
def b2c(s:(Int×(Int×((List Int)×d1w)))):Option ((Int×(Int×((List Int)×d1w))) ⊕ b7j):= cond (decide (s.2.2.2.1<3)) ((a0p s.2.2.1 s.2.2.2.1).bind fun x8=> (a3B (s.2.2.2.2.1,x8,8)).bind fun y9=> some (.inl (s.1,s.2.1,s.2.2.1,wrap .i64 (s.2.2.2.1+1),y9,s.2.2.2.2.2.1,()))) (some (.inr (s.1,s.2.1,s.2.2.2.2.1,s.2.2.2.2.2.1,())))
def b2d(s:(Int×Int×Z4×b7j)):Option ((Int×Int×Z4×b7j) ⊕ b7j):= cond (decide (s.2.2.2.2.1<s.2.2.2.1)) ((a0p s.2.2.1 s.2.2.2.2.1).bind fun x18=> (a0m (s.2.2.2.2.2.1,wrap .u64 (wrap .i64 (x18.1-1)),5)).bind fun y19=> (a0m (y19.2,wrap .u64 x18.2.1,4)).bind fun y20=> some (.inl (s.1,s.2.1,s.2.2.1,s.2.2.2.1,wrap .i64 (s.2.2.2.2.1+1),y20.2,s.2.2.2.2.2.2.1,()))) (some (.inr (s.1,s.2.1,s.2.2.2.2.2.1,s.2.2.2.2.2.2.1,())))
def b2e(s:(Int×(Int×((List Int)×b7j)))):Option ((Int×(Int×((List Int)×b7j))) ⊕ d1w):= cond (decide (s.2.2.2.2.1<s.2.2.2.1)) ((a0p s.2.2.1 s.2.2.2.2.1).bind fun x23=> (a3B (s.2.2.2.2.2.1,x23,s.2.1)).bind fun y24=> some (.inl (s.1,s.2.1,s.2.2.1,s.2.2.2.1,wrap .i64 (s.2.2.2.2.1+1),y24,s.2.2.2.2.2.2.1,()))) (some (.inr (s.1,s.2.2.2.2.2.1,s.2.2.2.2.2.2.1,())))
def b1y(x:(Z6×Z95)):Option Z17:= (b1x (x.2.1,x.2.2)).bind fun y1=> cond (!y1) (some (1,x.1)) ((a1H x.2.1.2.2.2.2.2.2.2.2.1).bind fun y2=> (a0m (x.1,wrap .u64 x.2.1.1,3)).bind fun y3=> (a0m (y3.2,wrap .u64 x.2.1.2.1,5)).bind fun y4=> (a0m (y4.2,wrap .u64 y2,5)).bind fun y5=> (show Option b7j from(show Option (b7j ⊕ (b7j ⊕ b7j))from cond (x.2.1.1==2) ((a0m (y5.2,wrap .u64 x.2.1.2.2.1,3)).bind fun y6=> some (Sum.inr (Sum.inl (x.2.2,y2,y6.2,x.2.1,())))) (cond (x.2.1.1==4) ((a0m (y5.2,wrap .u64 (wrap .i64 (x.2.1.2.2.2.2.1-1)),10)).bind fun y7=> (a0h b2c (x.2.2,y2,x.2.1.2.2.2.2.2.2.1,0,y7.2,x.2.1,())).bind fun w10=> some (Sum.inl (w10.1,w10.2.1,w10.2.2.1,w10.2.2.2.1,()))) (cond (x.2.1.1==3) (some (Sum.inl (x.2.2,y2,y5.2,x.2.1,()))) (cond (x.2.1.1==5) (some (Sum.inr (Sum.inr ((x.2.2,y2,y5.2,x.2.1,()))))) (some (Sum.inr (Sum.inl (x.2.2,y2,y5.2,x.2.1,())))))))).bind fun z11=> match z11 with |.inl a12=>((a9T (a12.2.2.1,a12.2.2.2.1)).bind fun y14=> some (a12.1,a12.2.1,y14,a12.2.2.2.1,())) |.inr b13=>(match b13 with |.inl a15=>some (a15.1,a15.2.1,a15.2.2.1,a15.2.2.2.1,()) |.inr b16=>((a0m (b16.2.2.1,wrap .u64 (b16.2.2.2.1.2.2.2.2.2.2.2.1.length:Int),2)).bind fun y17=> (a0h b2d (b16.1,b16.2.1,b16.2.2.2.1.2.2.2.2.2.2.2.1,(b16.2.2.2.1.2.2.2.2.2.2.2.1.length:Int),0,y17.2,b16.2.2.2.1,())).bind fun w21=> some (w21.1,w21.2.1,w21.2.2.1,w21.2.2.2.1,())))).bind fun z22=> (a0h b2e (z22.1,z22.2.1,z22.2.2.2.1.2.2.2.2.2.2.2.2.1,(z22.2.2.2.1.2.2.2.2.2.2.2.2.1.length:Int),0,z22.2.2.1,z22.2.2.2.1,())).bind fun w25=> (a7b w25.2.2.1.1).bind fun y26=> cond (!y26) (some (0,w25.2.1)) ((b3t (w25.2.1,w25.2.2.1.2.2.2.2.2.2.2.2.2.1,w25.1,(w25.2.2.1.2.2.2.2.2.2.2.2.1.length:Int),w25.2.2.1.2.2.2.2.2.2.2.2.2.2.1)).bind fun y27=> some (y27.1,y27.2)))
def c0B:FSem:=⟨[.r false (.b Q5),.v Q31,.v QI],[.v QI],b1y⟩
def H51:Hints:=⟨[(2042,[.sv 2 QI,.sv 7 QI,.sv 94 QL,.sv 95 QI,.sv 96 QI,.box pinned Q5,.ptr 0 pinned [],.vp 4 Q31],[(.exit 9,[.sv 2 QI,.box pinned Q5,.ptr 0 pinned [],.vp 4 Q31])]),(32598,[.sv 2 QI,.sv 7 QI,.sv 75 (.list false Q3),.sv 76 QI,.sv 77 QI,.box pinned Q5,.ptr 0 pinned [],.vp 4 Q31],[(.exit 7,[.sv 2 QI,.sv 7 QI,.box pinned Q5,.ptr 0 pinned [],.vp 4 Q31])]),(260622,[.sv 2 QI,.sv 7 QI,.sv 57 (.arr 3 QI),.sv 58 QI,.box pinned Q5,.ptr 0 pinned [],.vp 4 Q31],[(.exit 5,[.sv 2 QI,.sv 7 QI,.box pinned Q5,.ptr 0 pinned [],.vp 4 Q31])])],[(127,[(.normal,[.sv 2 QI,.sv 7 QI,.box pinned Q5,.ptr 0 pinned [],.vp 4 Q31])]),(4072,[(.normal,[.sv 2 QI,.sv 7 QI,.box pinned Q5,.ptr 0 pinned [],.vp 4 Q31]),(.exit 0,[.sv 2 QI,.sv 7 QI,.box pinned Q5,.ptr 0 pinned [],.vp 4 Q31]),(.exit 4,[.sv 2 QI,.sv 7 QI,.box pinned Q5,.ptr 0 pinned [],.vp 4 Q31])])],[]⟩
def a4o(s:Z20):Option (Z20 ⊕ Z20):= cond ((a25 s.1.2.1 8) != 0) ((a2J (s.1,0)).bind fun y2=> some (.inl (y2,()))) (some (.inr (s.1,())))
def a5L(x:Z6):Option Z6:= (a0h a4o (x,())).bind fun w3=> some w3.1
def b2A:FSem:=⟨[.r false (.b Q5)],[],a5L⟩
def H52:Hints:=⟨[(2,[.box pinned Q5,.ptr 0 pinned []],[(.exit 0,[.box pinned Q5])])],[],[]⟩
def a5M(x:Z6):Option ((List Int)×Z6):= cond (lim (a02 x.1)) (some (x.1,x)) none
def b2B:FSem:=⟨[.r false (.b Q5)],[.o (.int .u8)],a5M⟩
def H53:Hints:=⟨[],[],[]⟩
def b3u(x:Int):Option Int:= cond (decide (x≥0)) (some (wrap .u64 (2*(wrap .u64 x)))) (some (wrap .u64 ((wrap .u64 (2*(wrap .u64 (wrap .i64 (0-(wrap .i64 (x+1)))))))+1)))
def c1L:FSem:=⟨[.v QI],[.v (.int .u64)],b3u⟩
def e1b:Hints:=⟨[],[],[]⟩
def a9V(s:Z53):Option (Z53 ⊕ Z53):= cond (decide (s.1≥128)) (cond (lim ((a02 s.2.2.2.2.1)+1)) (some (.inl (wrap .u64 (a18 s.1 128),s.2.1,s.2.2.1,s.2.2.2.1,a04 s.2.2.2.2.1 [wrap .u8 ((wrap .u8 (a25 s.1 128))+128)],()))) none) (some (.inr (s.1,s.2.1,s.2.2.1,s.2.2.2.1,s.2.2.2.2.1,())))
def a9W(s:Z37):Option (Z37 ⊕ ((List Int)×Unit)):= cond (decide (s.2.2.1<s.2.1)) ((a0p s.1 s.2.2.1).bind fun x1=> (a0h a9V (x1,s.1,s.2.1,s.2.2.1,s.2.2.2.1,())).bind fun w2=> cond (lim ((a02 w2.2.2.2.2.1)+1)) (some (.inl (w2.2.1,w2.2.2.1,wrap .i64 (w2.2.2.2.1+1),a04 w2.2.2.2.2.1 [wrap .u8 w2.1],()))) none) (some (.inr (s.2.2.2.1,())))
def b3v(x:(List Int)):Option (List Int):= (a0h a9W (x,(x.length:Int),0,[],())).bind fun w3=> some w3.1
def c1M:FSem:=⟨[.v (.list false (.int .u64))],[.o (.int .u8)],b3v⟩
def e1c:Hints:=⟨[(58,[.sv 6 (.list false (.int .u64)),.sv 7 QI,.sv 8 QI,.own 3 3 (.int .u8)],[(.exit 0,[.own 3 3 (.int .u8)])]),(14948,[.sv 5 (.int .u64),.sv 6 (.list false (.int .u64)),.sv 7 QI,.sv 8 QI,.own 3 3 (.int .u8)],[(.exit 2,[.sv 5 (.int .u64),.sv 6 (.list false (.int .u64)),.sv 7 QI,.sv 8 QI,.own 3 3 (.int .u8)])])],[],[]⟩
def b2f(s:Z47):Option (Z47 ⊕ Z27):= cond (decide (s.2.2.2.2.1<8)) (cond ((a0C .u8 s.1 7)==1) (some (.inl (bits .u8 .xor (a0z .u8 s.1 1) 7,s.2.1,s.2.2.1,s.2.2.2.1,wrap .i64 (s.2.2.2.2.1+1),()))) (some (.inl (a0z .u8 s.1 1,s.2.1,s.2.2.1,s.2.2.2.1,wrap .i64 (s.2.2.2.2.1+1),())))) (some (.inr (s.1,s.2.1,s.2.2.1,s.2.2.2.1,())))
def a8V(s:Z27):Option Z58:= cond (decide (s.2.2.2.1<s.2.2.1)) ((a0p s.2.1 s.2.2.2.1).bind fun x1=> (a0h b2f (bits .u8 .xor s.1 x1,s.2.1,s.2.2.1,s.2.2.2.1,0,())).bind fun w2=> some (.inl (w2.1,w2.2.1,w2.2.2.1,wrap .i64 (w2.2.2.2.1+1),()))) (some (.inr (s.1,())))
def a9t(x:(List Int)):Option Int:= (a0h a8V (0,x,(x.length:Int),0,())).bind fun w3=> some w3.1
def b5P:FSem:=⟨[.v (.list false (.int .u8))],[.v (.int .u8)],a9t⟩
def e1d:Hints:=⟨[(58,[.sv 3 (.int .u8),.sv 7 (.list false (.int .u8)),.sv 8 QI,.sv 9 QI],[(.exit 0,[.sv 3 (.int .u8)])]),(29902,[.sv 3 (.int .u8),.sv 7 (.list false (.int .u8)),.sv 8 QI,.sv 9 QI,.sv 16 QI],[(.exit 2,[.sv 3 (.int .u8),.sv 7 (.list false (.int .u8)),.sv 8 QI,.sv 9 QI])])],[],[]⟩
def a6m(s:(Int×Z14×Z16)):Option ((Int×Z14×Z16) ⊕ Z5):= cond (decide (s.2.2.2.1<s.2.2.1)) ((a0p s.2.1 s.2.2.2.1).bind fun x1=> (b3u x1.2.2.1).bind fun y2=> cond (lim ((a02 s.2.2.2.2.1)+3)) (some (.inl (s.1,s.2.1,s.2.2.1,wrap .i64 (s.2.2.2.1+1),a04 s.2.2.2.2.1 [wrap .u64 x1.1,wrap .u64 x1.2.1,y2],()))) none) (some (.inr (s.1,s.2.2.2.2.1,())))
def a8W(x:(a7C×Int)):Option (List Int):= (a0h a6m (x.2,x.1.2.2.2.1,(x.1.2.2.2.1.length:Int),0,([wrap .u64 x.1.1,wrap .u64 x.1.2.1,wrap .u64 x.1.2.2.1.1,wrap .u64 x.1.2.2.1.2.1,wrap .u64 x.1.2.2.1.2.2.1,wrap .u64 (x.1.2.2.2.1.length:Int)]:List Int),())).bind fun w3=> cond (lim ((a02 w3.2.1)+1)) ((b3v (a04 w3.2.1 [wrap .u64 w3.1])).bind fun y4=> cond (lim (2+(a02 y4))) ((a9t (a04 [245,75] y4)).bind fun y5=> cond (lim ((a02 (a04 [245,75] y4))+1)) (some (a04 (a04 [245,75] y4) [y5])) none) none) none
def b6A:FSem:=⟨[.v Q49,.v QI],[.o (.int .u8)],a8W⟩
def H54:Hints:=⟨[(58,[.sv 1 QI,.sv 33 (.list false Q8),.sv 34 QI,.sv 35 QI,.own 5 5 (.int .u64)],[(.exit 0,[.sv 1 QI,.own 5 5 (.int .u64)])])],[],[(5,[.q,.q,.q,.v,.q,.q,.v,.q,.q,.v,.q,.x,.x])]⟩
def b4C(x:Int):Option Int:= some (a3s (a2q x 0) 8)
def b9w:FSem:=⟨[.v QI],[.v QI],b4C⟩
def e1e:Hints:=⟨[],[],[]⟩
def a5C(s:Z30):Option (Z30 ⊕ ((List Int)×Unit)):= cond (decide (s.2.2.1<s.2.1)) (cond (lim ((a02 s.2.2.2.1)+1)) (some (.inl (wrap .u64 (a18 s.1 256),s.2.1,wrap .i64 (s.2.2.1+1),a04 s.2.2.2.1 [wrap .u8 (a25 s.1 256)],()))) none) (some (.inr (s.2.2.2.1,())))
def b0T(x:(Int×Int)):Option (List Int):= (b4C x.2).bind fun y1=> (a0h a5C (x.1,y1,0,[],())).bind fun w2=> some w2.1
def b9x:FSem:=⟨[.v (.int .u64),.v QI],[.o (.int .u8)],b0T⟩
def e1f:Hints:=⟨[(58,[.sv 0 (.int .u64),.sv 7 QI,.sv 8 QI,.own 5 5 (.int .u8)],[(.exit 0,[.own 5 5 (.int .u8)])])],[],[]⟩
def a3S(x:(List Int)):Option (List Int):= cond (decide (a02 x<2147483648)) (some (List.reverse x)) none
def a6O:FSem:=⟨[.r false (.o (.int .u8))],[],a3S⟩
def b3w(x:(Int×Int)):Option (List Int):= (b0T (x.1,x.2)).bind fun y1=> (a3S y1).bind fun y2=> some y2
def c1N:FSem:=⟨[.v (.int .u64),.v QI],[.o (.int .u8)],b3w⟩
def H55:Hints:=⟨[],[],[]⟩
def b0k(s:Z47):Option (Z47 ⊕ Z27):= cond (decide (s.2.2.2.2.1<8)) (cond ((a0C .u16 s.1 15)==1) (some (.inl (bits .u16 .xor (a0z .u16 s.1 1) 32773,s.2.1,s.2.2.1,s.2.2.2.1,wrap .i64 (s.2.2.2.2.1+1),()))) (some (.inl (a0z .u16 s.1 1,s.2.1,s.2.2.1,s.2.2.2.1,wrap .i64 (s.2.2.2.2.1+1),())))) (some (.inr (s.1,s.2.1,s.2.2.1,s.2.2.2.1,())))
def a6S(s:Z27):Option Z58:= cond (decide (s.2.2.2.1<s.2.2.1)) ((a0p s.2.1 s.2.2.2.1).bind fun x1=> (a0h b0k (bits .u16 .xor s.1 (a0z .u16 (wrap .u16 x1) 8),s.2.1,s.2.2.1,s.2.2.2.1,0,())).bind fun w2=> some (.inl (w2.1,w2.2.1,w2.2.2.1,wrap .i64 (w2.2.2.2.1+1),()))) (some (.inr (s.1,())))
def a7f(x:(List Int)):Option Int:= (a0h a6S (0,x,(x.length:Int),0,())).bind fun w3=> some w3.1
def b2P:FSem:=⟨[.v (.list false (.int .u8))],[.v (.int .u16)],a7f⟩
def H56:Hints:=⟨[(58,[.sv 3 (.int .u16),.sv 7 (.list false (.int .u8)),.sv 8 QI,.sv 9 QI],[(.exit 0,[.sv 3 (.int .u16)])]),(29902,[.sv 3 (.int .u16),.sv 7 (.list false (.int .u8)),.sv 8 QI,.sv 9 QI,.sv 18 QI],[(.exit 2,[.sv 3 (.int .u16),.sv 7 (.list false (.int .u8)),.sv 8 QI,.sv 9 QI])])],[],[]⟩
def a9X(s:(Z94×Int×Int×Z6×c0u)):Option ((Z94×Int×Int×Z6×c0u) ⊕ ((Z6×c0u) ⊕ Z5)):= cond (decide (s.2.2.1<s.2.1)) ((a0p s.1 s.2.2.1).bind fun x2=> (b1y (s.2.2.2.1,x2,s.2.2.2.2.1.2.1)).bind fun y3=> cond (y3.1 != 0) (some (.inr (Sum.inr ((y3.1,[],()))))) (some (.inl (s.1,s.2.1,wrap .i64 (s.2.2.1+1),y3.2,s.2.2.2.2.1,())))) (some (.inr (Sum.inl (s.2.2.2.1,s.2.2.2.2.1,()))))
def a5h(x:a7C):Option ((List Int)×Int):= (a5g x).bind fun y1=> cond (!y1) (some ([],1)) ((a0h a9X (x.2.2.2.2.1,(x.2.2.2.2.1.length:Int),0,([],0,()),x,())).bind fun w4=> match w4 with |.inl a5=>((a5L a5.1).bind fun y7=> (a5M y7).bind fun y8=> (a8W (a5.2.1,(y8.1.length:Int))).bind fun y9=> cond (lim ((a02 y9)+(a02 y8.1))) ((a7f (a04 y9 y8.1)).bind fun y10=> (b3w (wrap .u64 y10,2)).bind fun y11=> cond (lim ((a02 (a04 y9 y8.1))+(a02 y11))) (some (a04 (a04 y9 y8.1) y11,0)) none) none) |.inr b6=>some (b6.2.1,b6.1))
def b3x:FSem:=⟨[.v Q49],[.o (.int .u8),.v QI],a5h⟩
def H19:Hints:=⟨[(122,[.sv 14 (.list false Q31),.sv 15 QI,.sv 16 QI,.box 4 Q5,.vp 1 Q49,.ptr 4 4 []],[(.exit 0,[.box 4 Q5,.vp 1 Q49,.ptr 4 4 []]),(.ret,[.sv 3 QI,.own 2 2 (.int .u8)])])],[],[]⟩
def a5D(s:((List Int)×Z6)):Option (((List Int)×Z6) ⊕ Z0):= cond (decide (s.2.2.1<(s.1.length:Int))) ((a0p s.1 s.2.2.1).bind fun x1=> (a0p s.2.1 s.2.2.1).bind fun x2=> cond (x1 != x2) (some (.inr (Sum.inr ((false,()))))) (some (.inl (s.1,s.2.1,wrap .i64 (s.2.2.1+1),())))) (some (.inr (Sum.inl ())))
def a3Q(x:((List Int)×(List Int))):Option Bool:= cond ((x.1.length:Int) != (x.2.length:Int)) (some false) ((a0h a5D (x.1,x.2,0,())).bind fun w3=> match w3 with |.inl a4=>some true |.inr b5=>some b5.1)
def b0U:FSem:=⟨[.v QL,.v QL],[.v .bool],a3Q⟩
def H88:Hints:=⟨[(58,[.sv 0 QL,.sv 1 QL,.sv 5 QI],[(.exit 0,[]),(.ret,[.sv 4 .bool])])],[],[(6,[.v,.v,.v,.v,.v,.v,.v,.v,.x])]⟩
def c1s(s:((List (List Int))×Z13)):Option (((List (List Int))×Z13) ⊕ Z0):= cond (decide (s.2.2.1<(s.1.length:Int))) ((a0p s.1 s.2.2.1).bind fun x1=> (a0p s.2.1 s.2.2.1).bind fun x2=> (a3Q (x1,x2)).bind fun y3=> cond (!y3) (some (.inr (Sum.inr ((false,()))))) (some (.inl (s.1,s.2.1,wrap .i64 (s.2.2.1+1),())))) (some (.inr (Sum.inl ())))
def b7Q(x:((List (List Int))×(List (List Int)))):Option Bool:= cond ((x.1.length:Int) != (x.2.length:Int)) (some false) ((a0h c1s (x.1,x.2,0,())).bind fun w4=> match w4 with |.inl a5=>some true |.inr b6=>some b6.1)
def b7R:FSem:=⟨[.v (.list false QL),.v (.list false QL)],[.v .bool],b7Q⟩
def H64:Hints:=⟨[(58,[.sv 0 (.list false QL),.sv 1 (.list false QL),.sv 5 QI],[(.exit 0,[]),(.ret,[.sv 4 .bool])])],[],[(6,[.v,.v,.v,.v,.v,.v,.v,.v,.x,.x])]⟩
def b6B(x:(Z12×Z12)):Option Bool:= cond (x.1.1==x.2.1) ((b7Q (x.1.2.1,x.2.2.1)).bind fun y1=> some y1) (some false)
def b6C:FSem:=⟨[.v Q10,.v Q10],[.v .bool],b6B⟩
def H23:Hints:=⟨[],[],[]⟩
def b3y(x:(List Int)):Option Z15:= cond (lim (a02 x)) (some (x,0,0,())) none
def c1O:FSem:=⟨[.v (.list false (.int .u8))],[.b Q11],b3y⟩
def e1g:Hints:=⟨[],[],[]⟩
def a6T(s:Z27):Option (Z27 ⊕ (Unit ⊕ Z7)):= cond (decide (s.2.2.2.1<s.2.2.1)) ((a0p s.2.1 s.2.2.2.1).bind fun x1=> (show Option (Int×Int×Int×Z32)from cond (s.2.2.2.1==9) (cond (decide (x1 > 1)) (some (s.1,s.2.2.2.1,x1,s.2.1,s.2.2.1,s.2.2.2.1,true,())) (cond (decide (s.2.2.2.1 > 0)) (some (s.1,s.2.2.2.1,x1,s.2.1,s.2.2.1,s.2.2.2.1,x1==0,())) (some (s.1,s.2.2.2.1,x1,s.2.1,s.2.2.1,s.2.2.2.1,false,())))) (cond (decide (s.2.2.2.1 > 0)) (some (s.1,s.2.2.2.1,x1,s.2.1,s.2.2.1,s.2.2.2.1,x1==0,())) (some (s.1,s.2.2.2.1,x1,s.2.1,s.2.2.1,s.2.2.2.1,false,())))).bind fun z2=> cond z2.2.2.2.2.2.2.1 (some (.inr (Sum.inr ((0,0,2,()))))) (cond (decide ((wrap .i64 (7*z2.2.1))<0)) none (cond (decide (z2.2.2.1<128)) (some (.inr (Sum.inr ((bits .u64 .or z2.1 (a0z .u64 (wrap .u64 (a25 z2.2.2.1 128)) (wrap .i64 (7*z2.2.1))),wrap .i64 (z2.2.1+1),0,()))))) (some (.inl (bits .u64 .or z2.1 (a0z .u64 (wrap .u64 (a25 z2.2.2.1 128)) (wrap .i64 (7*z2.2.1))),z2.2.2.2.1,z2.2.2.2.2.1,wrap .i64 (z2.2.2.2.2.2.1+1),())))))) (some (.inr (Sum.inl ())))
def a9Y(x:(List Int)):Option (Int×Int×Int):= (a0h a6T (0,x,(x.length:Int),0,())).bind fun w3=> match w3 with |.inl a4=>some (0,0,3) |.inr b5=>some (b5.1,b5.2.1,b5.2.2.1)
def b7S:FSem:=⟨[.v (.list false (.int .u8))],[.v (.int .u64),.v QI,.v QI],a9Y⟩
def e1h:Hints:=⟨[(58,[.sv 5 (.int .u64),.sv 8 (.list false (.int .u8)),.sv 9 QI,.sv 10 QI],[(.exit 0,[]),(.ret,[.sv 2 (.int .u64),.sv 3 QI,.sv 4 QI])])],[(7474,[(.normal,[.sv 5 (.int .u64),.sv 6 QI,.sv 7 (.int .u8),.sv 8 (.list false (.int .u8)),.sv 9 QI,.sv 10 QI,.sv 28 .bool])])],[]⟩
def a0Y(x:Z31):Option Z27:= cond (x.1.2.2.1 != 0) (some (0,x.1)) (cond ((decide (0≤x.1.2.1))&&(decide (x.1.2.1≤(x.1.1.length:Int)))) ((a9Y (a30 (a01 x.1.2.1) (a07 (a02 x.1.1) x.1.1))).bind fun y1=> (show Option Z72 from cond (y1.2.2==0) (cond (decide (y1.1 > x.2)) (some (y1.1,y1.2.1,4,x.1,())) (some (y1.1,y1.2.1,y1.2.2,x.1,()))) (some (y1.1,y1.2.1,y1.2.2,x.1,()))).bind fun z2=> cond (z2.2.2.1 != 0) (some (0,z2.2.2.2.1.1,z2.2.2.2.1.2.1,z2.2.2.1,z2.2.2.2.1.2.2.2)) (some (z2.1,z2.2.2.2.1.1,wrap .i64 (z2.2.2.2.1.2.1+z2.2.1),z2.2.2.2.1.2.2))) none)
def b4f:FSem:=⟨[.r false (.b Q11),.v (.int .u64)],[.v (.int .u64)],a0Y⟩
def e1i:Hints:=⟨[],[(15,[(.normal,[.sv 5 (.int .u64),.sv 6 QI,.sv 7 QI,.box pinned Q11,.ptr 0 pinned []])])],[(3,[.p,.p,.q,.q,.p,.p,.q,.q,.x,.x,.x,.v,.v,.v,.v,.v,.x])]⟩
def b3z(x:Int):Option Int:= cond ((a25 x 2)==0) (some (wrap .i64 (wrap .u64 (a18 x 2)))) (some (wrap .i64 ((wrap .i64 (0-(wrap .i64 (wrap .u64 (a18 x 2)))))-1)))
end Go.Ab
namespace Go.Ab
open IntKind(wrap)
open Go.Proofs
set_option maxRecDepth 100000
set_option linter.unusedVariables false
def c1P:FSem:=⟨[.v (.int .u64)],[.v QI],b3z⟩
def e1j:Hints:=⟨[],[],[]⟩
def a9u(x:Z15):Option Z27:= some (x.2.2.1,x)
def b4g:FSem:=⟨[.r false (.b Q11)],[.v QI],a9u⟩
def e1k:Hints:=⟨[],[],[]⟩
def a8N(x:Z15):Option Z27:= some (wrap .i64 ((x.1.length:Int)-x.2.1),x)
def b2C:FSem:=⟨[.r false (.b Q11)],[.v QI],a8N⟩
def e1l:Hints:=⟨[],[],[(1,[.p,.p,.q,.q,.v,.p,.p,.q,.q,.x,.x])]⟩
def b0l(x:Z15):Option Z27:= some (x.2.1,x)
def b4F:FSem:=⟨[.r false (.b Q11)],[.v QI],b0l⟩
def e1m:Hints:=⟨[],[],[]⟩
def a6n(s:((List Int)×(Int×Int×c4Z))):Option (((List Int)×(Int×Int×c4Z)) ⊕ ((List Int)×c4Z)):= cond (decide (s.2.2.1<s.2.1)) ((a0Y (s.2.2.2.2.1,7)).bind fun y11=> (a0Y (y11.2,7)).bind fun y12=> (a0Y (y12.2,2048)).bind fun y13=> (b3z y13.1).bind fun y14=> cond (lim ((a02 s.2.2.2.1.2.2.2.1)+1)) (some (.inl (s.1,s.2.1,wrap .u64 (s.2.2.1+1),(s.2.2.2.1.1,s.2.2.2.1.2.1,s.2.2.2.1.2.2.1,a04 s.2.2.2.1.2.2.2.1 ([(wrap .i64 y11.1,wrap .i64 y12.1,y14,())]:List Z7),s.2.2.2.1.2.2.2.2),y13.2,()))) none) (some (.inr (s.1,s.2.2.2.1,s.2.2.2.2.1,())))
def a6o(x:(List Int)):Option (a7C×Int×Int×Int):= cond (decide ((x.length:Int)<2)) (some ((0,0,(0,0,0,()),[],[],()),0,0,3)) ((show Option ((List Int)×(Bool×c0u))from(a0p x 0).bind fun x1=> cond (x1 != 245) (some (x,true,(0,0,(0,0,0,()),[],[],()),())) ((a0p x 1).bind fun x2=> some (x,x2 != 75,(0,0,(0,0,0,()),[],[],()),()))).bind fun z3=> cond z3.2.1 (some ((0,0,(0,0,0,()),[],[],()),0,0,2)) (cond (decide (2≤(z3.1.length:Int))) ((b3y (a30 2 (a07 (a02 z3.1) z3.1))).bind fun y4=> (a0Y (y4,4194304)).bind fun y5=> (a0Y (y5.2,4096)).bind fun y6=> (a0Y (y6.2,1048576)).bind fun y7=> (a0Y (y7.2,8)).bind fun y8=> (a0Y (y8.2,24)).bind fun y9=> (a0Y (y9.2,16)).bind fun y10=> (a0h a6n (z3.1,y10.1,0,(wrap .i64 y5.1,wrap .i64 y6.1,(wrap .i64 y7.1,wrap .i64 y8.1,wrap .i64 y9.1,z3.2.2.1.2.2.1.2.2.2),z3.2.2.1.2.2.2),y10.2,())).bind fun w15=> (a0Y (w15.2.2.1,1048576)).bind fun y16=> (a9u y16.2).bind fun y17=> cond (y17.1 != 0) (some ((0,0,(0,0,0,()),[],[],()),0,0,y17.1)) ((a8N y17.2).bind fun y18=> cond (decide (y18.1<1)) (some ((0,0,(0,0,0,()),[],[],()),0,0,3)) ((b0l y18.2).bind fun y19=> cond ((decide (0≤(wrap .i64 (2+y19.1))))&&(decide ((wrap .i64 (2+y19.1))≤(w15.1.length:Int)))) ((a9t (a07 (a01 (wrap .i64 (2+y19.1))) w15.1)).bind fun y20=> (a0p w15.1 (wrap .i64 (2+y19.1))).bind fun x21=> cond (y20 != x21) (some ((0,0,(0,0,0,()),[],[],()),0,0,5)) ((a8d w15.2.1).bind fun y22=> cond (!y22) (some ((0,0,(0,0,0,()),[],[],()),0,0,2)) (some (w15.2.1,wrap .i64 ((wrap .i64 (2+y19.1))+1),wrap .i64 y16.1,0)))) none))) none))
def b2g:FSem:=⟨[.v (.list false (.int .u8))],[.v (.pair QI (.pair QI (.pair Q8 (.pair (.list false Q8) Q32)))),.v QI,.v QI,.v QI],a6o⟩
def H65:Hints:=⟨[(8186,[.sv 0 (.list false (.int .u8)),.sv 54 (.int .u64),.sv 55 (.int .u64),.box 2 Q47,.box 1029 Q11,.ptr 2 2 [],.ptr 6 1029 []],[(.exit 0,[.sv 0 (.list false (.int .u8)),.box 2 Q47,.box 1029 Q11,.ptr 2 2 [],.ptr 6 1029 []])])],[(14,[(.normal,[.sv 0 (.list false (.int .u8)),.sv 25 .bool,.box 2 Q47,.ptr 2 2 []])])],[(25,[.v,.v,.v,.v,.v,.v,.v,.v,.x])]⟩
def b4U(x:(List Int)):Option Z15:= cond (lim (a02 x)) (some (x,0,0,())) none
def c3F:FSem:=⟨[.v (.list false (.int .u8))],[.b Q11],b4U⟩
def H66:Hints:=⟨[],[],[]⟩
def a0x(x:Z15):Option Z27:= some (x.2.2.1,x)
def a2K:FSem:=⟨[.r false (.b Q11)],[.v QI],a0x⟩
def H70:Hints:=⟨[],[],[]⟩
def a3o(x:Z15):Option Z27:= some (wrap .i64 ((wrap .i64 (8*(x.1.length:Int)))-x.2.1),x)
def a9v:FSem:=⟨[.r false (.b Q11)],[.v QI],a3o⟩
def H68:Hints:=⟨[],[],[(1,[.p,.p,.q,.q,.v,.v,.p,.p,.q,.q,.x,.x])]⟩
def a1Z(x:Z31):Option Z27:= (a0p x.1.1 (wrap .i64 (a18 x.2 8))).bind fun x1=> cond (decide ((wrap .i64 (7-(a25 x.2 8)))<0)) none (some (bits .u8 .and (a0C .u8 x1 (wrap .i64 (7-(a25 x.2 8)))) 1,x.1))
def a6p:FSem:=⟨[.r false (.b Q11),.v QI],[.v (.int .u8)],a1Z⟩
def e1n:Hints:=⟨[],[],[]⟩
def a4Y(s:Z72):Option (Z72 ⊕ Z50):= cond (decide (s.2.2.1<s.2.1)) ((a1Z (s.2.2.2.1,s.2.2.2.1.2.1)).bind fun y3=> some (.inl (bits .u64 .or (a0z .u64 s.1 1) (wrap .u64 y3.1),s.2.1,wrap .i64 (s.2.2.1+1),(y3.2.1,wrap .i64 (y3.2.2.1+1),y3.2.2.2),()))) (some (.inr (s.1,s.2.2.2.1,())))
def a0k(x:Z31):Option Z27:= cond (x.1.2.2.1 != 0) (some (0,x.1)) ((show Option Z60 from cond (decide (x.2<0)) (some (x.2,true,x.1,())) (some (x.2,decide (x.2 > 64),x.1,()))).bind fun z1=> cond z1.2.1 (some (0,z1.2.2.1.1,z1.2.2.1.2.1,1,z1.2.2.1.2.2.2)) ((a3o z1.2.2.1).bind fun y2=> cond (decide (z1.1 > y2.1)) (some (0,y2.2.1,y2.2.2.1,3,y2.2.2.2.2)) ((a0h a4Y (0,z1.1,0,y2.2,())).bind fun w4=> some (w4.1,w4.2.1))))
def a2L:FSem:=⟨[.r false (.b Q11),.v QI],[.v (.int .u64)],a0k⟩
def e1o:Hints:=⟨[(506,[.sv 5 (.int .u64),.sv 27 QI,.sv 28 QI,.box pinned Q11,.ptr 0 pinned []],[(.exit 0,[.sv 5 (.int .u64),.box pinned Q11])])],[(14,[(.normal,[.sv 1 QI,.sv 16 .bool,.box pinned Q11,.ptr 0 pinned []])])],[]⟩
def a1f(x:Z31):Option Z27:= (a0k (x.1,x.2)).bind fun y1=> (show Option (Int×Z60)from cond (y1.2.2.2.1 != 0) (some (x.2,y1.1,true,y1.2,())) (some (x.2,y1.1,x.2==0,y1.2,()))).bind fun z2=> cond z2.2.2.1 (some (0,z2.2.2.2.1)) (cond (decide ((wrap .i64 (64-z2.1))<0)) none (cond (decide ((wrap .i64 (64-z2.1))<0)) none (some (a0C .i64 (wrap .i64 (a0z .u64 z2.2.1 (wrap .i64 (64-z2.1)))) (wrap .i64 (64-z2.1)),z2.2.2.2.1))))
def a3C:FSem:=⟨[.r false (.b Q11),.v QI],[.v QI],a1f⟩
def e1p:Hints:=⟨[],[(14,[(.normal,[.sv 1 QI,.sv 5 (.int .u64),.sv 17 .bool,.box pinned Q11])])],[]⟩
def a6U(s:(Int×c4Y)):Option ((Int×c4Y) ⊕ (Int×d1x)):= cond (decide (s.2.2.1<s.2.1)) ((a1f (s.2.2.2.1,s.1)).bind fun y4=> cond (lim ((a02 s.2.2.2.2.1.2.2.2.2.2.1)+1)) (some (.inl (s.1,s.2.1,wrap .i64 (s.2.2.1+1),y4.2,(s.2.2.2.2.1.1,s.2.2.2.2.1.2.1,s.2.2.2.2.1.2.2.1,s.2.2.2.2.1.2.2.2.1,s.2.2.2.2.1.2.2.2.2.1,a04 s.2.2.2.2.1.2.2.2.2.2.1 [y4.1],s.2.2.2.2.1.2.2.2.2.2.2),()))) none) (some (.inr (s.1,s.2.2.2.2.1,s.2.2.2.1,())))
def a9Z(x:(Z15×Z93)):Option (Bool×Z15×Z93):= (a0k (x.1,5)).bind fun y1=> (a0k (y1.2,4)).bind fun y2=> (a0k (y2.2,5)).bind fun y3=> (a0h a6U (wrap .i64 y3.1,wrap .i64 ((wrap .i64 y1.1)+1),0,y3.2,(x.2.1,x.2.2.1,x.2.2.2.1,wrap .i64 y2.1,x.2.2.2.2.2),())).bind fun w5=> (a1H w5.2.1.2.2.2.2.2.1).bind fun y6=> some (y6==w5.1,w5.2.2.1,w5.2.1)
def b7T:FSem:=⟨[.r false (.b Q11),.r false (.b Q30)],[.v .bool],a9Z⟩
def e1q:Hints:=⟨[(250,[.sv 6 QI,.sv 20 QI,.sv 21 QI,.box pinned Q11,.box 1000001 Q30,.ptr 0 pinned [],.ptr 1 1000001 []],[(.exit 0,[.sv 6 QI,.box 1000001 Q30,.box pinned Q11,.ptr 1 1000001 []])])],[],[(6,[.p,.p,.p,.r [26,1000001],.r [27,1000001],.p,.v,.w [30,1030,pinned],.q,.a [31,32,1000001],.x,.x,.x])]⟩
def a4k(s:c4Y):Option (c4Y ⊕ d4P):= cond (decide (s.2.1<3)) ((a1f (s.2.2.1,8)).bind fun y6=> cond ((decide (0≤s.2.1))&&(decide (s.2.1<3))) (some (.inl (s.1,wrap .i64 (s.2.1+1),y6.2,(s.2.2.2.1.1,s.2.2.2.1.2.1,s.2.2.2.1.2.2.1,s.2.2.2.1.2.2.2.1,s.2.2.2.1.2.2.2.2.1,s.2.2.2.1.2.2.2.2.2.1,a05 s.2.2.2.1.2.2.2.2.2.2.1 (a01 s.2.1) y6.1,s.2.2.2.1.2.2.2.2.2.2.2),()))) none) (some (.inr (s.1,s.2.2.1,s.2.2.2.1,())))
def a7I(s:(Int×Bool×c4Y)):Option ((Int×Bool×c4Y) ⊕ (Int×Bool×d1x)):= cond (decide (s.2.2.2.1<s.2.2.1)) ((a0k (s.2.2.2.2.1,5)).bind fun y15=> (a0k (y15.2,4)).bind fun y16=> cond (lim ((a02 s.2.2.2.2.2.1.2.2.2.2.2.2.2.1)+1)) (some (.inl (s.1,s.2.1,s.2.2.1,wrap .u64 (s.2.2.2.1+1),y16.2,(s.2.2.2.2.2.1.1,s.2.2.2.2.2.1.2.1,s.2.2.2.2.2.1.2.2.1,s.2.2.2.2.2.1.2.2.2.1,s.2.2.2.2.2.1.2.2.2.2.1,s.2.2.2.2.2.1.2.2.2.2.2.1,s.2.2.2.2.2.1.2.2.2.2.2.2.1,a04 s.2.2.2.2.2.1.2.2.2.2.2.2.2.1 ([(wrap .i64 ((wrap .i64 y15.1)+1),wrap .i64 y16.1,())]:List (Int×Int×Unit)),s.2.2.2.2.2.1.2.2.2.2.2.2.2.2),()))) none) (some (.inr (s.1,s.2.1,s.2.2.2.2.2.1,s.2.2.2.2.1,())))
def b0V(x:Z15):Option (Z93×Int×Bool×Z15):= (a0k (x,3)).bind fun y1=> (a0k (y1.2,5)).bind fun y2=> (a0k (y2.2,5)).bind fun y3=> (show Option (Int×Bool×d1x)from(show Option (d4P ⊕ ((Int×Bool×d1x) ⊕ (Int×Bool×d7y)))from cond ((wrap .i64 y1.1)==2) ((a0k (y3.2,3)).bind fun y4=> some (Sum.inr (Sum.inl (wrap .i64 y3.1,true,(wrap .i64 y1.1,wrap .i64 y2.1,wrap .i64 y4.1,0,0,[],a00 3 0,[],[],(0,[],()),[],()),y4.2,())))) (cond ((wrap .i64 y1.1)==4) ((a0k (y3.2,10)).bind fun y5=> (a0h a4k (wrap .i64 y3.1,0,y5.2,(wrap .i64 y1.1,wrap .i64 y2.1,0,0,wrap .i64 ((wrap .i64 y5.1)+1),[],a00 3 0,[],[],(0,[],()),[],()),())).bind fun w7=> some (Sum.inl (w7.1,w7.2.1,w7.2.2.1,()))) (cond ((wrap .i64 y1.1)==3) (some (Sum.inl (wrap .i64 y3.1,y3.2,(wrap .i64 y1.1,wrap .i64 y2.1,0,0,0,[],a00 3 0,[],[],(0,[],()),[],()),()))) (cond ((wrap .i64 y1.1)==5) (some (Sum.inr (Sum.inr ((wrap .i64 y3.1,true,y3.2,(wrap .i64 y1.1,wrap .i64 y2.1,0,0,0,[],a00 3 0,[],[],(0,[],()),[],()),()))))) (some (Sum.inr (Sum.inl (wrap .i64 y3.1,true,(wrap .i64 y1.1,wrap .i64 y2.1,0,0,0,[],a00 3 0,[],[],(0,[],()),[],()),y3.2,())))))))).bind fun z8=> match z8 with |.inl a9=>((a9Z (a9.2.1,a9.2.2.1)).bind fun y11=> some (a9.1,y11.1,y11.2.2,y11.2.1,())) |.inr b10=>(match b10 with |.inl a12=>some (a12.1,a12.2.1,a12.2.2.1,a12.2.2.2.1,()) |.inr b13=>((a0k (b13.2.2.1,2)).bind fun y14=> (a0h a7I (b13.1,b13.2.1,y14.1,0,y14.2,b13.2.2.2.1,())).bind fun w17=> some (w17.1,w17.2.1,w17.2.2.1,w17.2.2.2.1,())))).bind fun z18=> some (z18.2.2.1,z18.1,z18.2.1,z18.2.2.2.1)
def b9y:FSem:=⟨[.r false (.b Q11)],[.v (.pair QI (.pair QI (.pair QI (.pair QI (.pair QI (.pair QL (.pair (.arr 3 QI) (.pair (.list false Q3) Q14)))))))),.v QI,.v .bool],b0V⟩
def e1r:Hints:=⟨[(8106,[.sv 3 QI,.sv 4 .bool,.sv 50 (.int .u64),.sv 51 (.int .u64),.box pinned Q11,.box 2 Q30,.ptr 0 pinned [],.ptr 2 2 []],[(.exit 7,[.sv 3 QI,.sv 4 .bool,.box 2 Q30,.box pinned Q11,.ptr 2 2 []])]),(129550,[.sv 3 QI,.sv 38 QI,.box pinned Q11,.box 2 Q30,.ptr 0 pinned [],.ptr 2 2 []],[(.exit 5,[.sv 3 QI,.box pinned Q11,.box 2 Q30,.ptr 0 pinned [],.ptr 2 2 []])])],[(63,[(.normal,[.sv 3 QI,.sv 4 .bool,.box 2 Q30,.box pinned Q11,.ptr 2 2 []])]),(2024,[(.normal,[.sv 3 QI,.box pinned Q11,.box 2 Q30,.ptr 0 pinned [],.ptr 2 2 []]),(.exit 0,[.sv 3 QI,.sv 4 .bool,.box 2 Q30,.box pinned Q11,.ptr 2 2 []]),(.exit 4,[.sv 3 QI,.sv 4 .bool,.box pinned Q11,.box 2 Q30,.ptr 0 pinned [],.ptr 2 2 []])])],[]⟩
def a4p(s:Z72):Option (Z72 ⊕ Z50):= cond (s.2.2.1==(wrap .i64 (8*(s.2.2.2.1.1.length:Int)))) (some (.inr (0,(s.2.2.2.1.1,s.2.2.2.1.2.1,3,s.2.2.2.1.2.2.2),()))) ((a1Z (s.2.2.2.1,s.2.2.1)).bind fun y2=> cond (y2.1==1) (some (.inr (s.2.1,(y2.2.1,wrap .i64 (s.2.2.1+1),y2.2.2.2),()))) (cond (s.2.1==s.1) (some (.inr (0,(y2.2.1,y2.2.2.1,2,y2.2.2.2.2),()))) (some (.inl (s.1,wrap .i64 (s.2.1+1),wrap .i64 (s.2.2.1+1),y2.2,())))))
def a2k(x:Z31):Option Z27:= cond (x.1.2.2.1 != 0) (some (0,x.1)) ((a0h a4p (a2q x.2 0,0,x.1.2.1,x.1,())).bind fun w3=> some (w3.1,w3.2.1))
def b2D:FSem:=⟨[.r false (.b Q11),.v QI],[.v QI],a2k⟩
def e1s:Hints:=⟨[(62,[.sv 1 QI,.sv 5 QI,.sv 6 QI,.box pinned Q11,.ptr 0 pinned []],[(.ret,[.sv 4 QI,.box pinned Q11])])],[],[(4,[.p,.p,.q,.q,.v,.x])]⟩
def a8l(x:Int):Option Int:= cond (decide (x≥2147483648)) (some 0) (cond ((a25 x 2)==0) (some (wrap .i64 (wrap .u64 (a18 x 2)))) (some (wrap .i64 ((wrap .i64 (0-(wrap .i64 (wrap .u64 (a18 x 2)))))-1))))
def b9z:FSem:=⟨[.v (.int .u64)],[.v QI],a8l⟩
def e1t:Hints:=⟨[],[],[]⟩
def b4V(x:Z31):Option Z44:= (a2k (x.1,32)).bind fun y1=> (a0x y1.2).bind fun y2=> cond (y2.1 != 0) ((a0x y2.2).bind fun y3=> some (0,y3.1,y3.2)) (cond (decide ((wrap .u64 y1.1)<32)) ((a0k (y2.2,x.2)).bind fun y4=> cond (decide (x.2<0)) none ((a8l (wrap .u64 ((a0z .u64 (wrap .u64 y1.1) x.2)+y4.1))).bind fun y5=> (a0x y4.2).bind fun y6=> some (y5,y6.1,y6.2))) ((a0k (y2.2,32)).bind fun y7=> (a0x y7.2).bind fun y8=> cond (y8.1 != 0) ((a0x y8.2).bind fun y9=> some (0,y9.1,y9.2)) ((show Option Z60 from cond (decide (y7.1≥2147483648)) (some (y7.1,true,y8.2,())) (cond (decide (x.2<0)) none (some (y7.1,decide ((a0C .u64 y7.1 x.2)<32),y8.2,())))).bind fun z10=> cond z10.2.1 (some (0,2,z10.2.2.1)) ((a8l z10.1).bind fun y11=> some (y11,0,z10.2.2.1)))))
def c3G:FSem:=⟨[.r false (.b Q11),.v QI],[.v QI,.v QI],b4V⟩
def e1u:Hints:=⟨[],[(254,[(.normal,[.sv 8 (.int .u64),.sv 44 .bool,.box pinned Q11])])],[]⟩
def b0W(s:Z80):Option (Z80 ⊕ (Z57 ⊕ Z70)):= cond (decide (s.2.2.1<s.2.1)) ((b4V (s.2.2.2.2.1,s.1)).bind fun y5=> cond (y5.2.1 != 0) (some (.inr (Sum.inr ((y5.2.1,[],y5.2.2,()))))) (cond (lim ((a02 s.2.2.2.1)+1)) (some (.inl (s.1,s.2.1,wrap .i64 (s.2.2.1+1),a04 s.2.2.2.1 [y5.1],y5.2.2,()))) none)) (some (.inr (Sum.inl (s.2.2.2.1,s.2.2.2.2.1,()))))
def b4W(x:(Z15×Int×Int)):Option Z54:= (show Option (Int×Z60)from(a2w x.2.1).bind fun y1=> cond (!y1) (some (x.2.1,x.2.2,true,x.1,())) (cond (decide (x.2.2<0)) (some (x.2.1,x.2.2,true,x.1,())) (some (x.2.1,x.2.2,decide (x.2.2 > 4194304),x.1,())))).bind fun z2=> cond z2.2.2.1 (some ([],1,z2.2.2.2.1)) ((a0x z2.2.2.2.1).bind fun y3=> cond (y3.1 != 0) ((a0x y3.2).bind fun y4=> some ([],y4.1,y4.2)) ((a0h b0W (z2.1,z2.2.1,0,[],y3.2,())).bind fun w6=> match w6 with |.inl a7=>some (a7.1,0,a7.2.1) |.inr b8=>some (b8.2.1,b8.1,b8.2.2.1)))
def c3H:FSem:=⟨[.r false (.b Q11),.v QI,.v QI],[.o QI,.v QI],b4W⟩
def e1v:Hints:=⟨[(250,[.sv 1 QI,.sv 27 QI,.sv 28 QI,.own 8 8 QI,.box pinned Q11,.ptr 0 pinned []],[(.exit 0,[.own 8 8 QI,.box pinned Q11]),(.ret,[.sv 7 QI,.own 6 6 QI,.box pinned Q11])])],[(6,[(.normal,[.sv 1 QI,.sv 2 QI,.sv 21 .bool,.box pinned Q11,.ptr 0 pinned []])])],[]⟩
def b0a(s:(Int×Z80)):Option ((Int×Z80) ⊕ Z78):= cond (decide (s.2.2.2.1<s.2.2.1)) ((a1f (s.2.2.2.2.2.1,s.2.1)).bind fun y6=> cond (lim ((a02 s.2.2.2.2.1)+1)) (some (.inl (s.1,s.2.1,s.2.2.1,wrap .i64 (s.2.2.2.1+1),a04 s.2.2.2.2.1 [y6.1],y6.2,()))) none) (some (.inr (s.1,s.2.1,s.2.2.2.2.1,s.2.2.2.2.2.1,())))
def b3A(x:Z31):Option (Int×Z54):= (a0k (x.1,5)).bind fun y1=> (a0x y1.2).bind fun y2=> cond (y2.1 != 0) ((a0x y2.2).bind fun y3=> some (0,[],y3.1,y3.2)) (cond (decide ((wrap .i64 y1.1)≤25)) ((b4W (y2.2,wrap .i64 y1.1,x.2)).bind fun y4=> some (wrap .i64 y1.1,y4.1,y4.2.1,y4.2.2)) (cond ((wrap .i64 y1.1) != 31) (some (0,[],2,y2.2)) ((a0k (y2.2,5)).bind fun y5=> (a0h b0a (wrap .i64 y1.1,wrap .i64 y5.1,x.2,0,[],y5.2,())).bind fun w7=> (a0x w7.2.2.2.1).bind fun y8=> cond (y8.1 != 0) ((a0x y8.2).bind fun y9=> some (0,[],y9.1,y9.2)) ((a1H w7.2.2.1).bind fun y10=> cond (y10 != w7.2.1) (some (0,[],2,y8.2)) (some (w7.1,w7.2.2.1,0,y8.2))))))
def c1Q:FSem:=⟨[.r false (.b Q11),.v QI],[.v QI,.o QI,.v QI],b3A⟩
def e1w:Hints:=⟨[(2042,[.sv 7 QI,.sv 10 QI,.sv 37 QI,.sv 38 QI,.own 11 11 QI,.box pinned Q11,.ptr 0 pinned []],[(.exit 0,[.sv 7 QI,.sv 10 QI,.own 11 11 QI,.box pinned Q11,.ptr 0 pinned []])])],[],[]⟩
def b0b(s:(Int×(Int×((List Int)×((List Int)×(Z15×Z73)))))):Option ((Int×(Int×((List Int)×((List Int)×(Z15×Z73))))) ⊕ (((List Int)×(Z5×Z5×Z34)) ⊕ (Int×((List Int)×(Z5×Z34))))):= cond (decide (s.2.1<s.1)) (cond ((decide (0≤s.2.1))&&(decide (s.2.1<(s.2.2.2.1.length:Int)))) ((b3A (s.2.2.2.2.1,a03 s.2.2.2.1 (a01 s.2.1) 0)).bind fun y6=> cond (y6.2.2.1 != 0) (some (.inr (Sum.inr ((y6.2.2.1,[],(0,[],()),y6.2.2.2,()))))) (cond (lim ((a02 s.2.2.2.2.2.2.1.2.1)+1)) (cond (lim ((a02 s.2.2.1)+(a02 y6.2.1))) (some (.inl (s.1,wrap .i64 (s.2.1+1),a04 s.2.2.1 y6.2.1,s.2.2.2.1,y6.2.2.2,s.2.2.2.2.2.1,(s.2.2.2.2.2.2.1.1,a04 s.2.2.2.2.2.2.1.2.1 [y6.1],s.2.2.2.2.2.2.1.2.2),()))) none) none)) none) (some (.inr (Sum.inl (s.2.2.1,s.2.2.2.2.2.1,s.2.2.2.2.2.2.1,s.2.2.2.2.1,()))))
def b3B(x:(Z15×Int×Int)):Option (Z5×Z54):= (a8z (x.2.1,x.2.2)).bind fun y1=> cond (!y1) (some ((0,[],()),[],1,x.1)) ((a0k (x.1,4)).bind fun y2=> (a0x y2.2).bind fun y3=> cond (y3.1 != 0) ((a0x y3.2).bind fun y4=> some ((0,[],()),[],y4.1,y4.2)) ((a3P (wrap .i64 y2.1,x.2.1,x.2.2)).bind fun y5=> cond ((y5.length:Int)==0) (some ((0,[],()),[],2,y3.2)) ((a0h b0b ((y5.length:Int),0,[],y5,y3.2,(0,[],()),(wrap .i64 y2.1,[],()),())).bind fun w7=> match w7 with |.inl a8=>some (a8.2.2.1,a8.1,0,a8.2.2.2.1) |.inr b9=>some (b9.2.2.1,b9.2.1,b9.1,b9.2.2.2.1))))
def c1R:FSem:=⟨[.r false (.b Q11),.v QI,.v QI],[.v Q7,.o QI,.v QI],b3B⟩
def e1x:Hints:=⟨[(4090,[.sv 43 QI,.sv 44 QI,.own 12 12 QI,.own 42 10 QI,.box pinned Q11,.box 6 Q7,.box 11 Q6,.ptr 0 pinned [],.ptr 6 6 [],.ptr 11 11 []],[(.exit 0,[.own 12 12 QI,.box 6 Q7,.box 11 Q6,.box pinned Q11,.ptr 6 6 [],.ptr 11 11 []]),(.ret,[.sv 8 QI,.own 7 7 QI,.box 6 Q7,.box pinned Q11,.ptr 6 6 []])])],[],[]⟩
def b2h(s:(Int×Int×Bool×Int×Int×Z15×b4s)):Option ((Int×Int×Bool×Int×Int×Z15×b4s) ⊕ (Int×Int×Bool×Z15×b4s)):= cond (decide (s.2.2.2.2.1<s.2.2.2.1)) ((a1f (s.2.2.2.2.2.1,s.2.1)).bind fun y7=> cond (lim ((a02 s.2.2.2.2.2.2.2.1.2.2.2.2.2.2.2.2.1)+1)) (some (.inl (s.1,s.2.1,s.2.2.1,s.2.2.2.1,wrap .i64 (s.2.2.2.2.1+1),y7.2,s.2.2.2.2.2.2.1,(s.2.2.2.2.2.2.2.1.1,s.2.2.2.2.2.2.2.1.2.1,s.2.2.2.2.2.2.2.1.2.2.1,s.2.2.2.2.2.2.2.1.2.2.2.1,s.2.2.2.2.2.2.2.1.2.2.2.2.1,s.2.2.2.2.2.2.2.1.2.2.2.2.2.1,s.2.2.2.2.2.2.2.1.2.2.2.2.2.2.1,s.2.2.2.2.2.2.2.1.2.2.2.2.2.2.2.1,a04 s.2.2.2.2.2.2.2.1.2.2.2.2.2.2.2.2.1 [y7.1],s.2.2.2.2.2.2.2.1.2.2.2.2.2.2.2.2.2),()))) none) (some (.inr (s.1,s.2.1,s.2.2.1,s.2.2.2.2.2.1,s.2.2.2.2.2.2.1,s.2.2.2.2.2.2.2.1,())))
def b4h(x:Z31):Option (Z93×Z27):= cond (decide (x.2<1)) (some ((0,0,0,0,0,[],a00 3 0,[],[],(0,[],()),[],()),1,x.1)) (cond (decide (x.2 > 4096)) (some ((0,0,0,0,0,[],a00 3 0,[],[],(0,[],()),[],()),1,x.1)) ((a0x x.1).bind fun y1=> cond (y1.1 != 0) (some ((0,0,0,0,0,[],a00 3 0,[],[],(0,[],()),[],()),y1.1,y1.2)) ((b0V y1.2).bind fun y2=> (a0x y2.2.2.2).bind fun y3=> cond (y3.1 != 0) (some ((0,0,0,0,0,[],a00 3 0,[],[],(0,[],()),[],()),y3.1,y3.2)) ((a9q (y2.1.1,y2.1,x.2)).bind fun y4=> cond (!y4) (some ((0,0,0,0,0,[],a00 3 0,[],[],(0,[],()),[],()),2,y3.2)) ((a5y (y2.1,x.2)).bind fun y5=> (a0h b2h (x.2,y2.2.1,y2.2.2.1,y5,0,y3.2,(0,0,0,0,0,[],a00 3 0,[],[],(0,[],()),[],()),y2.1,())).bind fun w8=> (a0x w8.2.2.2.1).bind fun y9=> cond (y9.1 != 0) (some ((0,0,0,0,0,[],a00 3 0,[],[],(0,[],()),[],()),y9.1,y9.2)) ((a7b w8.2.2.2.2.2.1.1).bind fun y10=> cond y10 ((b3B (y9.2,w8.1,(w8.2.2.2.2.2.1.2.2.2.2.2.2.2.2.1.length:Int))).bind fun y11=> cond (y11.2.2.1 != 0) (some ((0,0,0,0,0,[],a00 3 0,[],[],(0,[],()),[],()),y11.2.2.1,y11.2.2.2)) (cond (!w8.2.2.1) (some ((0,0,0,0,0,[],a00 3 0,[],[],(0,[],()),[],()),2,y11.2.2.2)) ((a1H w8.2.2.2.2.2.1.2.2.2.2.2.2.2.2.1).bind fun y12=> cond (y12 != w8.2.1) (some ((0,0,0,0,0,[],a00 3 0,[],[],(0,[],()),[],()),2,y11.2.2.2)) ((b1x ((w8.2.2.2.2.2.1.1,w8.2.2.2.2.2.1.2.1,w8.2.2.2.2.2.1.2.2.1,w8.2.2.2.2.2.1.2.2.2.1,w8.2.2.2.2.2.1.2.2.2.2.1,w8.2.2.2.2.2.1.2.2.2.2.2.1,w8.2.2.2.2.2.1.2.2.2.2.2.2.1,w8.2.2.2.2.2.1.2.2.2.2.2.2.2.1,w8.2.2.2.2.2.1.2.2.2.2.2.2.2.2.1,y11.1,y11.2.1,w8.2.2.2.2.2.1.2.2.2.2.2.2.2.2.2.2.2),w8.1)).bind fun y13=> cond (!y13) (some ((0,0,0,0,0,[],a00 3 0,[],[],(0,[],()),[],()),2,y11.2.2.2)) (some ((w8.2.2.2.2.2.1.1,w8.2.2.2.2.2.1.2.1,w8.2.2.2.2.2.1.2.2.1,w8.2.2.2.2.2.1.2.2.2.1,w8.2.2.2.2.2.1.2.2.2.2.1,w8.2.2.2.2.2.1.2.2.2.2.2.1,w8.2.2.2.2.2.1.2.2.2.2.2.2.1,w8.2.2.2.2.2.1.2.2.2.2.2.2.2.1,w8.2.2.2.2.2.1.2.2.2.2.2.2.2.2.1,y11.1,y11.2.1,w8.2.2.2.2.2.1.2.2.2.2.2.2.2.2.2.2.2),0,y11.2.2.2)))))) (cond (!w8.2.2.1) (some ((0,0,0,0,0,[],a00 3 0,[],[],(0,[],()),[],()),2,y9.2)) ((a1H w8.2.2.2.2.2.1.2.2.2.2.2.2.2.2.1).bind fun y14=> cond (y14 != w8.2.1) (some ((0,0,0,0,0,[],a00 3 0,[],[],(0,[],()),[],()),2,y9.2)) ((b1x (w8.2.2.2.2.2.1,w8.1)).bind fun y15=> cond (!y15) (some ((0,0,0,0,0,[],a00 3 0,[],[],(0,[],()),[],()),2,y9.2)) (some (w8.2.2.2.2.2.1,0,y9.2)))))))))))
def c6b:FSem:=⟨[.r false (.b Q11),.v QI],[.v Q31,.v QI],b4h⟩
def H67:Hints:=⟨[(1018,[.sv 1 QI,.sv 8 QI,.sv 9 .bool,.sv 47 QI,.sv 48 QI,.box pinned Q11,.box 4 Q31,.box 7 (.pair QI (.pair QI (.pair QI (.pair QI (.pair QI (.pair QL (.pair (.arr 3 QI) (.pair (.list false Q3) (.pair (.list true QI) Q13))))))))),.ptr 0 pinned [],.ptr 4 4 [],.ptr 7 7 []],[(.exit 0,[.sv 1 QI,.sv 8 QI,.sv 9 .bool,.box pinned Q11,.box 4 Q31,.box 7 (.pair QI (.pair QI (.pair QI (.pair QI (.pair QI (.pair QL (.pair (.arr 3 QI) (.pair (.list false Q3) (.pair (.list true QI) Q13))))))))),.ptr 0 pinned [],.ptr 4 4 [],.ptr 7 7 []])])],[],[(14,[.r [7,50],.r [7,51],.p,.v,.w [54,1054,pinned],.q,.x,.x,.x])]⟩
def a4q(s:Z59):Option (Z59 ⊕ (Z50 ⊕ Z34)):= cond (decide (s.2.1<s.1)) ((a1Z (s.2.2.1,s.2.1)).bind fun y1=> cond (y1.1==1) (some (.inr (Sum.inr (((y1.2.1,y1.2.2.1,2,y1.2.2.2.2),()))))) (some (.inl (s.1,wrap .i64 (s.2.1+1),y1.2,())))) (some (.inr (Sum.inl (s.1,s.2.2.1,()))))
def a5N(x:Z15):Option Z15:= cond (x.2.2.1 != 0) (some x) ((a0h a4q (wrap .i64 ((wrap .i64 (a18 (wrap .i64 (x.2.1+7)) 8))*8),x.2.1,x,())).bind fun w2=> match w2 with |.inl a3=>some (a3.2.1.1,a3.1,a3.2.1.2.2) |.inr b4=>some b4.1)
def b2E:FSem:=⟨[.r false (.b Q11)],[],a5N⟩
def H69:Hints:=⟨[(58,[.sv 2 QI,.sv 3 QI,.box pinned Q11,.ptr 0 pinned []],[(.exit 0,[.sv 2 QI,.box pinned Q11,.ptr 0 pinned []]),(.ret,[.box pinned Q11])])],[],[]⟩
def a8X(s:(Int×Int×Int×a7C×c4Z)):Option ((Int×Int×Int×a7C×c4Z) ⊕ ((Int×a7C×c4Z) ⊕ (Int×Int×c0u))):= cond (decide (s.2.2.1<s.2.1)) ((b4h (s.2.2.2.2.2.1,s.2.2.2.2.1.2.1)).bind fun y7=> cond (y7.2.1 != 0) (some (.inr (Sum.inr ((0,2,(0,0,(0,0,0,()),[],[],()),()))))) (cond (lim ((a02 s.2.2.2.2.1.2.2.2.2.1)+1)) (some (.inl (s.1,s.2.1,wrap .i64 (s.2.2.1+1),s.2.2.2.1,(s.2.2.2.2.1.1,s.2.2.2.2.1.2.1,s.2.2.2.2.1.2.2.1,s.2.2.2.2.1.2.2.2.1,a04 s.2.2.2.2.1.2.2.2.2.1 ([y7.1]:List Z93),s.2.2.2.2.1.2.2.2.2.2),y7.2.2,()))) none)) (some (.inr (Sum.inl (s.1,s.2.2.2.1,s.2.2.2.2.1,s.2.2.2.2.2.1,()))))
def a3D(x:(List Int)):Option (a7C×Int×Int):= (a6o x).bind fun y1=> cond (y1.2.2.2 != 0) (some ((0,0,(0,0,0,()),[],[],()),0,y1.2.2.2)) (cond (decide ((x.length:Int)<(wrap .i64 ((wrap .i64 (y1.2.1+y1.2.2.1))+2)))) (some ((0,0,(0,0,0,()),[],[],()),0,3)) (cond ((decide (0≤(wrap .i64 (y1.2.1+y1.2.2.1))))&&(decide ((wrap .i64 (y1.2.1+y1.2.2.1))≤(x.length:Int)))) ((a7f (a07 (a01 (wrap .i64 (y1.2.1+y1.2.2.1))) x)).bind fun y2=> (a0p x (wrap .i64 (y1.2.1+y1.2.2.1))).bind fun x3=> (a0p x (wrap .i64 ((wrap .i64 (y1.2.1+y1.2.2.1))+1))).bind fun x4=> cond (y2 != (bits .u16 .or (a0z .u16 (wrap .u16 x3) 8) (wrap .u16 x4))) (some ((0,0,(0,0,0,()),[],[],()),0,5)) (cond ((decide (0≤(wrap .i64 (y1.2.1+y1.2.2.1))))&&(decide ((wrap .i64 (y1.2.1+y1.2.2.1))≤(x.length:Int)))) (cond ((decide (0≤y1.2.1))&&(decide (y1.2.1≤((a01 (wrap .i64 (y1.2.1+y1.2.2.1)):Nat):Int)))) ((b4U (a30 (a01 y1.2.1) (a07 (a01 (wrap .i64 (y1.2.1+y1.2.2.1))) x))).bind fun y5=> (a0h a8X (wrap .i64 (y1.2.1+y1.2.2.1),y1.1.2.2.1.2.1,0,(0,0,(0,0,0,()),[],[],()),y1.1,y5,())).bind fun w8=> match w8 with |.inl a9=>((a3o a9.2.2.2.1).bind fun y11=> cond (decide (y11.1≥8)) (some ((0,0,(0,0,0,()),[],[],()),0,2)) ((a5N y11.2).bind fun y12=> (a0x y12).bind fun y13=> cond (y13.1 != 0) (some ((0,0,(0,0,0,()),[],[],()),0,2)) ((a5g a9.2.2.1).bind fun y14=> cond (!y14) (some ((0,0,(0,0,0,()),[],[],()),0,2)) (some (a9.2.2.1,wrap .i64 (a9.1+2),0))))) |.inr b10=>some (b10.2.2.1,b10.1,b10.2.1)) none) none)) none))
def a9w:FSem:=⟨[.v (.list false (.int .u8))],[.v Q49,.v QI,.v QI],a3D⟩
def H24:Hints:=⟨[(2042,[.sv 9 QI,.sv 59 QI,.sv 60 QI,.box 2 Q49,.box 5 Q48,.box 1056 Q11,.ptr 2 2 [],.ptr 5 5 [],.ptr 10 1056 []],[(.exit 0,[.sv 9 QI,.box 2 Q49,.box 5 Q48,.box 1056 Q11,.ptr 2 2 [],.ptr 5 5 [],.ptr 10 1056 []]),(.ret,[.sv 3 QI,.sv 4 QI,.box 2 Q49,.ptr 2 2 []])])],[],[(7,[.v,.v,.v,.v,.v,.v,.v,.v,.v,.v,.v,.v,.v,.v,.v,.v,.v,.x])]⟩
def a9x(x:(List Int)):Option (Z7×Int×Int×Int):= (a6o x).bind fun y1=> cond (y1.2.2.2 != 0) (some ((0,0,0,()),0,0,y1.2.2.2)) (some (y1.1.2.2.1,y1.1.1,y1.1.2.1,0))
def c0C:FSem:=⟨[.v (.list false (.int .u8))],[.v Q8,.v QI,.v QI,.v QI],a9x⟩
def H26:Hints:=⟨[],[],[(4,[.q,.q,.r [6,23],.r [6,24],.r [6,25],.r [6,26],.w [0,2],.v,.x,.x])]⟩
def a4b(s:(Z4×Z4×Int×Unit)):Option ((Z4×Z4×Int×Unit) ⊕ Z0):= cond (decide (s.2.2.1<(s.1.length:Int))) ((a0p s.1 s.2.2.1).bind fun x1=> (a0p s.2.1 s.2.2.1).bind fun x2=> cond (!(eqT Q3 x1 x2)) (some (.inr (Sum.inr ((false,()))))) (some (.inl (s.1,s.2.1,wrap .i64 (s.2.2.1+1),())))) (some (.inr (Sum.inl ())))
def a7J(x:(Z4×Z4)):Option Bool:= cond ((x.1.length:Int) != (x.2.length:Int)) (some false) ((a0h a4b (x.1,x.2,0,())).bind fun w3=> match w3 with |.inl a4=>some true |.inr b5=>some b5.1)
def b5Q:FSem:=⟨[.v (.list false Q3),.v (.list false Q3)],[.v .bool],a7J⟩
def e1y:Hints:=⟨[(58,[.sv 0 (.list false Q3),.sv 1 (.list false Q3),.sv 5 QI],[(.exit 0,[]),(.ret,[.sv 4 .bool])])],[],[(6,[.v,.v,.v,.v,.v,.v,.v,.v,.x])]⟩
def b2Q(x:(Z5×Z5)):Option Bool:= cond (x.1.1==x.2.1) ((a3Q (x.1.2.1,x.2.2.1)).bind fun y1=> some y1) (some false)
def b7U:FSem:=⟨[.v Q7,.v Q7],[.v .bool],b2Q⟩
def e1z:Hints:=⟨[],[],[]⟩
def b0X(x:(Z93×Z93)):Option Bool:= cond (x.1.1==x.2.1) (cond (x.1.2.1==x.2.2.1) (cond (x.1.2.2.1==x.2.2.2.1) (cond (x.1.2.2.2.1==x.2.2.2.2.1) (cond (x.1.2.2.2.2.1==x.2.2.2.2.2.1) ((a3Q (x.1.2.2.2.2.2.1,x.2.2.2.2.2.2.1)).bind fun y1=> cond y1 (cond (eqT (.arr 3 (.int .i64)) x.1.2.2.2.2.2.2.1 x.2.2.2.2.2.2.2.1) ((a7J (x.1.2.2.2.2.2.2.2.1,x.2.2.2.2.2.2.2.2.1)).bind fun y2=> cond y2 ((a3Q (x.1.2.2.2.2.2.2.2.2.1,x.2.2.2.2.2.2.2.2.2.1)).bind fun y3=> cond y3 ((b2Q (x.1.2.2.2.2.2.2.2.2.2.1,x.2.2.2.2.2.2.2.2.2.2.1)).bind fun y4=> cond y4 ((a3Q (x.1.2.2.2.2.2.2.2.2.2.2.1,x.2.2.2.2.2.2.2.2.2.2.2.1)).bind fun y5=> some y5) (some false)) (some false)) (some false)) (some false)) (some false)) (some false)) (some false)) (some false)) (some false)) (some false)
def b9A:FSem:=⟨[.v Q31,.v Q31],[.v .bool],b0X⟩
def H42:Hints:=⟨[],[],[]⟩
def a6q(s:(Z14×Z14×Int×Unit)):Option ((Z14×Z14×Int×Unit) ⊕ Z0):= cond (decide (s.2.2.1<(s.1.length:Int))) ((a0p s.1 s.2.2.1).bind fun x1=> (a0p s.2.1 s.2.2.1).bind fun x2=> cond (!(eqT Q8 x1 x2)) (some (.inr (Sum.inr ((false,()))))) (some (.inl (s.1,s.2.1,wrap .i64 (s.2.2.1+1),())))) (some (.inr (Sum.inl ())))
def a8Y(x:(Z14×Z14)):Option Bool:= cond ((x.1.length:Int) != (x.2.length:Int)) (some false) ((a0h a6q (x.1,x.2,0,())).bind fun w3=> match w3 with |.inl a4=>some true |.inr b5=>some b5.1)
def b6D:FSem:=⟨[.v (.list false Q8),.v (.list false Q8)],[.v .bool],a8Y⟩
def H76:Hints:=⟨[(58,[.sv 0 (.list false Q8),.sv 1 (.list false Q8),.sv 5 QI],[(.exit 0,[]),(.ret,[.sv 4 .bool])])],[],[(6,[.v,.v,.v,.v,.v,.v,.v,.v,.x])]⟩
def a6r(s:d1A):Option (d1A ⊕ Z0):= cond (decide (s.1<(s.2.1.2.2.2.2.1.length:Int))) ((a0p s.2.1.2.2.2.2.1 s.1).bind fun x3=> (a0p s.2.2.1.2.2.2.2.1 s.1).bind fun x4=> (b0X (x3,x4)).bind fun y5=> cond (!y5) (some (.inr (Sum.inr ((false,()))))) (some (.inl (wrap .i64 (s.1+1),s.2.1,s.2.2.1,())))) (some (.inr (Sum.inl ())))
def a6s(x:(a7C×a7C)):Option Bool:= (show Option (Bool×d4Q)from cond (x.1.1 != x.2.1) (some (true,x.1,x.2,())) (cond (x.1.2.1 != x.2.2.1) (some (true,x.1,x.2,())) (cond (!(eqT Q8 x.1.2.2.1 x.2.2.2.1)) (some (true,x.1,x.2,())) ((a8Y (x.1.2.2.2.1,x.2.2.2.2.1)).bind fun y1=> cond (!y1) (some (true,x.1,x.2,())) (some ((x.1.2.2.2.2.1.length:Int) != (x.2.2.2.2.2.1.length:Int),x.1,x.2,())))))).bind fun z2=> cond z2.1 (some false) ((a0h a6r (0,z2.2.1,z2.2.2.1,())).bind fun w6=> match w6 with |.inl a7=>some true |.inr b8=>some b8.1)
def b2i:FSem:=⟨[.v Q49,.v Q49],[.v .bool],a6s⟩
def H28:Hints:=⟨[(58,[.sv 5 QI,.vp 2 Q49,.vp 3 Q49],[(.exit 0,[]),(.ret,[.sv 4 .bool])])],[(6,[(.normal,[.sv 41 .bool,.vp 2 Q49,.vp 3 Q49])])],[(6,[.v,.v,.v,.v,.v,.v,.v,.v,.v,.v,.x,.x])]⟩
def a7K(s:Z53):Option (Z53 ⊕ Z42):= cond (decide (s.2.2.2.1<s.2.2.1)) ((a0p s.2.1 s.2.2.2.1).bind fun x2=> (show Option (Int×(Int×((List Int)×(Int×Int×Z8))))from(a5Z x2).bind fun y3=> cond (!y3) (some (s.1,x2,s.2.1,s.2.2.1,s.2.2.2.1,true,s.2.2.2.2.1,())) (cond (decide (s.1<0)) none (cond ((a0z .i64 1 s.1)==0) none (some (s.1,x2,s.2.1,s.2.2.1,s.2.2.2.1,(a25 x2 (a0z .i64 1 s.1)) != 0,s.2.2.2.2.1,()))))).bind fun z4=> cond z4.2.2.2.2.2.1 (some (.inr (Sum.inr ((6,[],()))))) (cond (decide (z4.1<0)) none (cond (lim ((a02 z4.2.2.2.2.2.2.1)+1)) (some (.inl (z4.1,z4.2.2.1,z4.2.2.2.1,wrap .i64 (z4.2.2.2.2.1+1),a04 z4.2.2.2.2.2.2.1 [a0C .i64 z4.2.1 z4.1],()))) none))) (some (.inr (Sum.inl (s.2.2.2.2.1,()))))
def a8m(x:((List Int)×Int)):Option ((List Int)×Int):= (show Option Z18 from cond (decide (x.2<0)) (some (x.1,x.2,true,())) (some (x.1,x.2,decide (x.2 > 30),()))).bind fun z1=> cond z1.2.2.1 (some ([],1)) ((a0h a7K (z1.2.1,z1.1,(z1.1.length:Int),0,[],())).bind fun w5=> match w5 with |.inl a6=>some (a6.1,0) |.inr b7=>some (b7.2.1,b7.1))
def b4D:FSem:=⟨[.v QL,.v QI],[.o QI,.v QI],a8m⟩
def H91:Hints:=⟨[(122,[.sv 1 QI,.sv 15 QL,.sv 16 QI,.sv 17 QI,.own 6 6 QI],[(.exit 0,[.own 6 6 QI]),(.ret,[.sv 5 QI,.own 4 4 QI])])],[(6,[(.normal,[.sv 0 QL,.sv 1 QI,.sv 14 .bool])]),(15666,[(.normal,[.sv 1 QI,.sv 8 QI,.sv 15 QL,.sv 16 QI,.sv 17 QI,.sv 30 .bool,.own 6 6 QI])])],[]⟩
def a2a(x:Int):Option Int:= cond (x==0) (some 64) ((a0p b3j (a0C .u64 (wrap .u64 ((bits .u64 .and x (wrap .u64 (0-x)))*285870213051353865)) 58)).bind fun x1=> some (wrap .i64 x1))
def a1k:FSem:=⟨[.v (.int .u64)],[.v QI],a2a⟩
def c5a:Hints:=⟨[],[],[]⟩
def b2j:Cx:=c0v [] [] [0,2] []
theorem c1S{ρ:Type}{cx:Cx}{ops:List Oper}:∀(l1 l2:List (Md×Oper)) (Γ:AE) (K:AE→Rs ρ),a6E cx ops (l1++l2) Γ K=a6E cx ops l1 Γ fun Γ'=>a6E cx ops l2 Γ' K
 | [],_,_,_=>rfl
 |(md,o)::l1,l2,Γ,K=>by
  simp only[a16,a6E];congr 1;funext Γ';exact c1S l1 l2 Γ' K
theorem c0D{ρ:Type}{cx:Cx}{H:Hints}{a b:Code}{p:Nat}(h:find H.cuts p=none)(Γ:AE)(K:Ex→AE→Rs ρ):a1E cx H (.seq a b) p Γ K=a1E cx H a (2*p) Γ fun e Γ'=>match e with
   |.normal=>a1E cx H b (2*p+1) Γ' K
   |e=>K e Γ':=by
 simp only[a1E,h];rfl
theorem c8h{ρ:Type}{cx:Cx}{H:Hints}{id:Nat}{ops:Array Oper}{p:Nat}(Γ:AE)(K:Ex→AE→Rs ρ):a1E cx H (.region id ops false) p Γ K=a6E cx ops.toList (ops.toList.map fun o=>(.x,o)) Γ fun Γ'=>K .normal Γ':=by
 simp only[a1E,cF]
def b1z:Code:=match Tryz.f174.body with
 |some c=>c
 |none=>.skip
def c5b:Code→Code
 |.seq a _=>a
 |c=>c
def d1C:Code→Code
 |.seq _ b=>b
 |c=>c
def d3w:Code→Array Oper
 |.region _ ops _=>ops
 |_=>#[]
def d0s:Code:=d1C (d1C b1z)
def b5R:List Oper:=(d3w (c5b d0s)).toList
def Γ174(x:Int):AE:=(((ini [.v (.int .u64)] x).set 2 (.val QI (0:Int))).set 3 (.val (.int .u64) x)).set 4 (.val .bool (x==(0:Int)))
def Γ174r(x:Int):AE:=(Γ174 x).set 2 (.val QI (64:Int))
def c8i(e:Ex)(Γ:AE):Option Int:=match e,Γ.pd with
  |.exit _,_=>none
  |_,some _=>none
  |_,none=>(Γ.upto Tryz.f174.ntmps).outs b2j [] Tryz.f174.ntmps [.v QI] (Tryz.f174.results.toList.map .inl) fun y _=>some y
def Γ174b(x a b c i:Int):AE:=((((((Γ174 x).set 5 (.val (.int .u64) x)).set 6 (.val (.int .u64) x)).set 7 (.val (.int .u64) a)).set 8 (.val (.int .u64) b)).set 9 (.val (.int .u64) c)).set 10 (.val (.int .u64) i)
set_option maxRecDepth 100000
theorem d4R:b1z=.seq (c5b b1z) (.seq (c5b (d1C b1z)) (.seq (.region 3 (d3w (c5b d0s)) false) .ret)):=by kernel_rfl
theorem d6N(x:Int):b9T b2j c5a Tryz.f174 a1k.ps a1k.rs x=a1E b2j c5a b1z 1 (ini [.v (.int .u64)] x) c8i:=rfl
theorem d6O(x:Int)(K:Ex→AE→Option Int):a1E b2j c5a (c5b b1z) 2 (ini [.v (.int .u64)] x) K=K .normal ((ini [.v (.int .u64)] x).set 2 (.val (.int .i64) (0:Int))):=by kernel_rfl
theorem d6P(x:Int)(K:Ex→AE→Option Int):a1E b2j c5a (c5b (d1C b1z)) 6 ((ini [.v (.int .u64)] x).set 2 (.val (.int .i64) (0:Int))) K=bif x==(0:Int)then K .ret (Γ174r x)else K .normal (Γ174 x):=by kernel_rfl
theorem d6Q(x:Int):c8i .ret (Γ174r x)=some (64:Int):=by kernel_rfl
theorem d6R(x:Int)(K:AE→Option Int):a6E b2j b5R ((b5R.map fun o=>(Md.x,o)).take 6) (Γ174 x) K =
  K (Γ174b x (wrap .u64 (0-x)) (bits .u64 .and x (wrap .u64 (0-x))) (wrap .u64 ((bits .u64 .and x (wrap .u64 (0-x)))*(285870213051353865:Int))) (a0C .u64 (wrap .u64 ((bits .u64 .and x (wrap .u64 (0-x)))*(285870213051353865:Int))) (58:Int))):=by kernel_rfl
theorem d6S(x a b c i:Int):a6E b2j b5R ((b5R.map fun o=>(Md.x,o)).drop 6) (Γ174b x a b c i) (fun Γ=>c8i .ret Γ)=(a0p b3j i).bind fun x1=>some (wrap .i64 x1):=by kernel_rfl
theorem d6T(x:Int):a6E b2j b5R (b5R.map fun o=>(Md.x,o)) (Γ174 x) (fun Γ=>c8i .ret Γ)=(a0p b3j (a0C .u64 (wrap .u64 ((bits .u64 .and x (wrap .u64 (0-x)))*(285870213051353865:Int))) (58:Int))).bind fun x1=>some (wrap .i64 x1):=by
 rw[←List.take_append_drop 6 (b5R.map fun o=>(Md.x,o)),c1S,d6R,d6S]
theorem d7D(x:Int):a1E b2j c5a b1z 1 (ini [.v (.int .u64)] x) c8i=a2a x:=by
 rw[d4R,c0D rfl,d6O];simp only[];rw[c0D rfl,d6P];simp only[];rw[c0D rfl,c8h];simp only[a1E];rw[d6Q];exact congrArg (fun z=>bif x==(0:Int)then some (64:Int)else z) (d6T x)
theorem d8n(x):b9T b2j c5a Tryz.f174 a1k.ps a1k.rs x=a1k.F x:=(d6N x).trans (d7D x)
def a6t(s:Z27):Option Z58:= cond (decide (s.2.2.2.1<s.2.2.1)) ((a0p s.2.1 s.2.2.2.1).bind fun x1=> some (.inl (bits .i64 .or s.1 x1,s.2.1,s.2.2.1,wrap .i64 (s.2.2.2.1+1),()))) (some (.inr (s.1,())))
def a4C(x:(List Int)):Option Int:= (a0h a6t (0,x,(x.length:Int),0,())).bind fun w2=> cond (w2.1==0) (some 0) ((a2a (wrap .u64 w2.1)).bind fun y3=> some (a3s y3 30))
def b2k:FSem:=⟨[.v QL],[.v QI],a4C⟩
def H92:Hints:=⟨[(58,[.sv 3 QI,.sv 6 QL,.sv 7 QI,.sv 8 QI],[(.exit 0,[.sv 3 QI])])],[],[]⟩
def a6u(s:Z30):Option (Z30 ⊕ Z16):= cond (decide ((wrap .i64 (s.1+1))<(s.2.2.2.1.length:Int))) (cond ((decide (0≤(wrap .i64 (s.1+1))))&&(decide ((wrap .i64 (s.1+1))<(s.2.2.2.1.length:Int)))) (cond ((decide (0≤s.1))&&(decide (s.1<(s.2.2.2.1.length:Int)))) (cond ((decide (0≤s.1))&&(decide (s.1<(s.2.2.2.1.length:Int)))) (some (.inl (wrap .i64 (s.1+1),s.2.1,s.2.2.1,a05 s.2.2.2.1 (a01 s.1) (wrap .i64 ((a03 s.2.2.2.1 (a01 (wrap .i64 (s.1+1))) 0)-(a03 s.2.2.2.1 (a01 s.1) 0))),()))) none) none) none) (some (.inr (s.2.1,s.2.2.1,s.2.2.2.1,())))
def a8Z(s:Z16):Option (Z16 ⊕ ((List Int)×Unit)):= cond (decide (s.2.1<s.1)) ((a0h a6u (0,s.1,s.2.1,s.2.2.1,())).bind fun w3=> cond ((decide (0≤(wrap .i64 ((w3.2.2.1.length:Int)-1))))&&(decide ((wrap .i64 ((w3.2.2.1.length:Int)-1))≤(w3.2.2.1.length:Int)))) (cond (decide ((a01 (wrap .i64 ((w3.2.2.1.length:Int)-1)))≤(a02 w3.2.2.1))) (some (.inl (w3.1,wrap .i64 (w3.2.1+1),a07 (a01 (wrap .i64 ((w3.2.2.1.length:Int)-1))) w3.2.2.1,()))) none) none) (some (.inr (s.2.2.1,())))
def a5E(x:((List Int)×Int)):Option ((List Int)×Int):= (show Option Z18 from cond (decide (x.2<0)) (some (x.1,x.2,true,())) (cond (decide (x.2 > 4)) (some (x.1,x.2,true,())) (some (x.1,x.2,decide ((x.1.length:Int)<x.2),())))).bind fun z1=> cond z1.2.2.1 (some ([],1)) ((a3a z1.1).bind fun y2=> cond (!y2) (some ([],6)) (cond (lim (a02 z1.1)) ((a0h a8Z (z1.2.1,0,z1.1,())).bind fun w4=> (a3a w4.1).bind fun y5=> cond (!y5) (some ([],6)) (some (w4.1,0))) none))
def b5S:FSem:=⟨[.v QL,.v QI],[.o QI,.v QI],a5E⟩
def e1A:Hints:=⟨[(250,[.sv 25 QI,.sv 26 QI,.own 6 6 QI],[(.exit 0,[.own 6 6 QI])]),(64098,[.sv 7 QI,.sv 25 QI,.sv 26 QI,.own 6 6 QI],[(.exit 2,[.sv 25 QI,.sv 26 QI,.own 6 6 QI])])],[(6,[(.normal,[.sv 0 QL,.sv 1 QI,.sv 19 .bool])])],[(11,[.q,.v,.q,.v,.v,.q,.q,.q,.v,.q,.q,.v,.x,.x])]⟩
def a5F(s:((List Int)×Z37)):Option (((List Int)×Z37) ⊕ Z42):= cond (decide (s.2.2.2.1<(s.1.length:Int))) ((a0p s.1 s.2.2.2.1).bind fun x4=> cond ((decide (0≤s.2.2.2.1))&&(decide (s.2.2.2.1≤(s.1.length:Int)))) ((a5z (a07 (a01 s.2.2.2.1) s.1,s.2.1,s.2.2.1)).bind fun y5=> (a5Y (wrap .i64 (x4-y5))).bind fun y6=> cond (!y6) (some (.inr (Sum.inr ((6,[],()))))) (cond (lim ((a02 s.2.2.2.2.1)+1)) (some (.inl (s.1,s.2.1,s.2.2.1,wrap .i64 (s.2.2.2.1+1),a04 s.2.2.2.2.1 [wrap .i64 (x4-y5)],()))) none)) none) (some (.inr (Sum.inl (s.2.2.2.2.1,()))))
def a8n(x:Z10):Option ((List Int)×Int):= (show Option Z43 from(a5x (x.2.1,x.2.2)).bind fun y1=> cond (!y1) (some (x.1,x.2.1,x.2.2,true,())) (some (x.1,x.2.1,x.2.2,decide ((x.1.length:Int)<(x.2.1.length:Int)),()))).bind fun z2=> cond z2.2.2.2.1 (some ([],1)) ((a3k z2.1).bind fun y3=> cond (!y3) (some ([],6)) (cond ((decide (0≤(wrap .i64 ((z2.1.length:Int)-(z2.2.1.length:Int)))))&&(lim (a01 (wrap .i64 ((z2.1.length:Int)-(z2.2.1.length:Int)))))) ((a0h a5F (z2.1,z2.2.1,z2.2.2.1,(z2.2.1.length:Int),[],())).bind fun w7=> match w7 with |.inl a8=>some (a8.1,0) |.inr b9=>some (b9.2.1,b9.1)) none))
def b9B:FSem:=⟨[.v QL,.v QL,.v QI],[.o QI,.v QI],a8n⟩
def e1B:Hints:=⟨[(250,[.sv 0 QL,.sv 1 QL,.sv 2 QI,.sv 9 QI,.own 8 8 QI],[(.exit 0,[.own 8 8 QI]),(.ret,[.sv 7 QI,.own 6 6 QI])])],[(6,[(.normal,[.sv 0 QL,.sv 1 QL,.sv 2 QI,.sv 21 .bool])])],[(9,[.v,.v,.v,.v,.v,.v,.v,.v,.v,.v,.x,.x])]⟩
def a7g(s:((List Int)×Z74)):Option (((List Int)×Z74) ⊕ Z42):= cond (decide (s.2.2.2.2.1<s.2.2.2.1)) ((a0p s.2.2.1 s.2.2.2.2.1).bind fun x3=> (a5p (s.1,s.2.2.2.2.1,s.2.1,s.2.2.2.2.2.2.1)).bind fun y4=> (a8A (wrap .i64 (x3-y4))).bind fun y5=> cond (!y5) (some (.inr (Sum.inr ((6,[],()))))) (cond (lim ((a02 s.2.2.2.2.2.1)+1)) (some (.inl (s.1,s.2.1,s.2.2.1,s.2.2.2.1,wrap .i64 (s.2.2.2.2.1+1),a04 s.2.2.2.2.2.1 [wrap .i64 (x3-y4)],s.2.2.2.2.2.2.1,()))) none)) (some (.inr (Sum.inl (s.2.2.2.2.2.1,()))))
def a8F(x:((List Int)×(Int×(List Int)))):Option ((List Int)×Int):= (a9P (x.2.1,x.2.2)).bind fun y1=> cond (!y1) (some ([],1)) ((a5o x.1).bind fun y2=> cond (!y2) (some ([],6)) (cond ((decide (0≤(x.1.length:Int)))&&(lim (a01 (x.1.length:Int)))) ((a0h a7g (x.1,x.2.1,x.1,(x.1.length:Int),0,[],x.2.2,())).bind fun w6=> match w6 with |.inl a7=>some (a7.1,0) |.inr b8=>some (b8.2.1,b8.1)) none))
def b3C:FSem:=⟨[.v QL,.v QI,.v (.arr 3 QI)],[.o QI,.v QI],a8F⟩
def e1C:Hints:=⟨[(250,[.sv 0 QL,.sv 1 QI,.sv 22 QL,.sv 23 QI,.sv 24 QI,.own 8 8 QI,.vp 5 (.arr 3 QI)],[(.exit 0,[.own 8 8 QI]),(.ret,[.sv 7 QI,.own 6 6 QI])])],[],[]⟩
def a6v(s:(Z4×Int×Int×Int×Z75)):Option ((Z4×Int×Int×Int×Z75) ⊕ ((Z4×Z16) ⊕ Z5)):= cond (decide (s.2.2.2.2.1<s.2.2.2.1)) (cond ((decide (0≤s.2.2.2.2.1))&&(decide (s.2.2.2.2.1<(s.2.2.2.2.2.1.length:Int)))) ((a2D s.2.2.2.2.2.2.1).bind fun y6=> (a7e (wrap .i64 ((a03 s.2.2.2.2.2.1 (a01 s.2.2.2.2.1) 0)-y6.1))).bind fun y7=> cond (!y7) (some (.inr (Sum.inr ((6,[],()))))) ((a4a (y6.2,a03 s.2.2.2.2.2.1 (a01 s.2.2.2.2.1) 0)).bind fun y8=> cond ((decide (0≤s.2.2.2.2.1))&&(decide (s.2.2.2.2.1<(s.2.2.2.2.2.1.length:Int)))) (some (.inl (s.1,s.2.1,s.2.2.1,s.2.2.2.1,wrap .i64 (s.2.2.2.2.1+1),a05 s.2.2.2.2.2.1 (a01 s.2.2.2.2.1) (wrap .i64 ((a03 s.2.2.2.2.2.1 (a01 s.2.2.2.2.1) 0)-y6.1)),y8,()))) none)) none) (some (.inr (Sum.inl (s.1,s.2.1,s.2.2.1,s.2.2.2.2.2.1,()))))
def a6w(s:(Z4×Z16)):Option ((Z4×Z16) ⊕ Z42):= cond (decide (s.2.2.1<s.2.1)) ((a0p s.1 s.2.2.1).bind fun x4=> (b0x x4).bind fun y5=> cond (y5.2 != 0) (some (.inr (Sum.inr ((y5.2,[],()))))) ((a0h a6v (s.1,s.2.1,s.2.2.1,(s.2.2.2.1.length:Int),0,s.2.2.2.1,y5.1,())).bind fun w9=> match w9 with |.inl a10=>some (.inl (a10.1,a10.2.1,wrap .i64 (a10.2.2.1+1),a10.2.2.2.1,())) |.inr b11=>some (.inr (Sum.inr ((b11.1,b11.2.1,())))))) (some (.inr (Sum.inl (s.2.2.2.1,()))))
def b2l(x:((List Int)×Z4)):Option ((List Int)×Int):= (a8y x.2).bind fun y1=> cond (!y1) (some ([],1)) ((a6j x.1).bind fun y2=> cond (!y2) (some ([],6)) ((a1j x.1).bind fun y3=> (a0h a6w (x.2,(x.2.length:Int),0,y3,())).bind fun w12=> match w12 with |.inl a13=>some (a13.1,0) |.inr b14=>some (b14.2.1,b14.1)))
def c0E:FSem:=⟨[.v QL,.v (.list false Q3)],[.o QI,.v QI],b2l⟩
def e1D:Hints:=⟨[(250,[.sv 22 (.list false Q3),.sv 23 QI,.sv 24 QI,.own 6 6 QI],[(.exit 0,[.own 6 6 QI]),(.ret,[.sv 5 QI,.own 4 4 QI])]),(256414,[.sv 22 (.list false Q3),.sv 23 QI,.sv 24 QI,.sv 37 QI,.sv 38 QI,.own 6 6 QI,.box 1030 Q12,.ptr 9 1030 [],.ref 36 6 []],[(.exit 2,[.sv 22 (.list false Q3),.sv 23 QI,.sv 24 QI,.own 6 6 QI]),(.ret,[.sv 5 QI,.own 4 4 QI])])],[],[]⟩
def b3D(x:(Z93×(List Int))):Option (Int×Z93):= (show Option ((List Int)×((List Int)×(Int×Z96)))from cond (x.1.1==2) ((a5E (x.2,x.1.2.2.1)).bind fun y1=> some (x.2,y1.1,y1.2,x.1,())) (cond (x.1.1==3) ((a8n (x.2,x.1.2.2.2.2.2.1,x.1.2.2.2.1)).bind fun y2=> some (x.2,y2.1,y2.2,x.1,())) (cond (x.1.1==4) ((a8F (x.2,x.1.2.2.2.2.1,x.1.2.2.2.2.2.2.1)).bind fun y3=> cond (y3.2==0) ((a8n (y3.1,x.1.2.2.2.2.2.1,x.1.2.2.2.1)).bind fun y4=> some (y3.1,y4.1,y4.2,x.1,())) (some (y3.1,[],y3.2,x.1,()))) (cond (x.1.1==5) ((b2l (x.2,x.1.2.2.2.2.2.2.2.1)).bind fun y5=> some (x.2,y5.1,y5.2,x.1,())) (some (x.2,[],0,x.1,())))))).bind fun z6=> cond (z6.2.2.1 != 0) (some (z6.2.2.1,z6.2.2.2.1)) ((a5y (z6.2.2.2.1,(z6.1.length:Int))).bind fun y7=> cond ((decide (0≤y7))&&(decide (y7≤(z6.1.length:Int)))) ((a1j (a07 (a01 y7) z6.1)).bind fun y8=> some (0,z6.2.2.2.1.1,z6.2.2.2.1.2.1,z6.2.2.2.1.2.2.1,z6.2.2.2.1.2.2.2.1,z6.2.2.2.1.2.2.2.2.1,z6.2.2.2.1.2.2.2.2.2.1,z6.2.2.2.1.2.2.2.2.2.2.1,z6.2.2.2.1.2.2.2.2.2.2.2.1,y8,z6.2.2.2.1.2.2.2.2.2.2.2.2.2.1,z6.2.1,z6.2.2.2.1.2.2.2.2.2.2.2.2.2.2.2)) none)
def c1T:FSem:=⟨[.r false (.b Q31),.v QL],[.v QI],b3D⟩
def e1E:Hints:=⟨[],[(15,[(.normal,[.sv 1 QL,.sv 5 QL,.sv 6 QI,.box pinned Q31,.ptr 0 pinned []])])],[(7,[.v,.p,.p,.q,.q,.p,.p,.q,.q,.x,.x,.q,.q,.q,.x]),(9,[.v,.p,.p,.q,.q,.p,.p,.q,.q,.x,.x,.q,.q,.q,.x]),(11,[.q,.p,.p,.q,.q,.p,.p,.q,.q,.x,.x,.q,.q,.q,.x])]⟩
def a7h(s:Z29):Option (Z29 ⊕ (Int×Unit)):= cond (decide (s.2.2.2.1≤25)) ((a4m (s.2.2.2.1,s.1)).bind fun y2=> cond (decide (y2<s.2.2.1)) (some (.inl (s.1,s.2.2.2.1,y2,wrap .i64 (s.2.2.2.1+1),()))) (some (.inl (s.1,s.2.1,s.2.2.1,wrap .i64 (s.2.2.2.1+1),())))) (some (.inr (s.2.1,())))
def b3E(x:(List Int)):Option Int:= (a4m (0,x)).bind fun y1=> (a0h a7h (x,0,y1,1,())).bind fun w3=> some w3.1
def c1U:FSem:=⟨[.v QL],[.v QI],b3E⟩
def e1F:Hints:=⟨[(58,[.sv 0 QL,.sv 3 QI,.sv 4 QI,.sv 5 QI],[(.exit 0,[.sv 3 QI])])],[],[]⟩
def b0c(x:(List Int)):Option Int:= (b3E x).bind fun y1=> (a6I x).bind fun y2=> (a4m (y1,x)).bind fun y3=> cond (decide (y2<y3)) (some 31) (some y1)
def b7V:FSem:=⟨[.v QL],[.v QI],b0c⟩
def e1G:Hints:=⟨[],[],[]⟩
def a9a(s:(Int×(Int×(Int×((List Int)×(Int×(Int×((List Int)×(Int×(Int×((List Int)×Z85))))))))))):Option ((Int×(Int×(Int×((List Int)×(Int×(Int×((List Int)×(Int×(Int×((List Int)×Z85)))))))))) ⊕ (Int×(Int×(Int×((List Int)×(Int×Int×Z85)))))):= cond (decide (s.2.2.2.2.2.2.2.2.1<s.2.2.2.2.2.2.2.1)) (cond ((decide (0≤s.2.2.2.2.2.2.2.2.1))&&(decide (s.2.2.2.2.2.2.2.2.1<(s.2.2.2.2.2.2.2.2.2.1.length:Int)))) (cond ((decide (0≤(a03 s.2.2.2.2.2.2.2.2.2.1 (a01 s.2.2.2.2.2.2.2.2.1) 0)))&&(decide ((a03 s.2.2.2.2.2.2.2.2.2.1 (a01 s.2.2.2.2.2.2.2.2.1) 0)≤(s.2.2.2.2.2.2.1.length:Int)))) ((b0c (a07 (a01 (a03 s.2.2.2.2.2.2.2.2.2.1 (a01 s.2.2.2.2.2.2.2.2.1) 0)) s.2.2.2.2.2.2.1)).bind fun y3=> cond (lim ((a02 s.2.2.2.2.2.2.2.2.2.2.2.2.1.2.1)+1)) (cond ((decide (0≤(a03 s.2.2.2.2.2.2.2.2.2.1 (a01 s.2.2.2.2.2.2.2.2.1) 0)))&&(decide ((a03 s.2.2.2.2.2.2.2.2.2.1 (a01 s.2.2.2.2.2.2.2.2.1) 0)≤(s.2.2.2.2.2.2.1.length:Int)))) (some (.inl (s.1,s.2.1,s.2.2.1,s.2.2.2.1,s.2.2.2.2.1,s.2.2.2.2.2.1,a30 (a01 (a03 s.2.2.2.2.2.2.2.2.2.1 (a01 s.2.2.2.2.2.2.2.2.1) 0)) (a07 (a02 s.2.2.2.2.2.2.1) s.2.2.2.2.2.2.1),s.2.2.2.2.2.2.2.1,wrap .i64 (s.2.2.2.2.2.2.2.2.1+1),s.2.2.2.2.2.2.2.2.2.1,s.2.2.2.2.2.2.2.2.2.2.1,s.2.2.2.2.2.2.2.2.2.2.2.1,(s.2.2.2.2.2.2.2.2.2.2.2.2.1.1,a04 s.2.2.2.2.2.2.2.2.2.2.2.2.1.2.1 [y3],s.2.2.2.2.2.2.2.2.2.2.2.2.1.2.2),()))) none) none) none) none) (some (.inr (s.1,s.2.1,s.2.2.1,s.2.2.2.1,s.2.2.2.2.1,s.2.2.2.2.2.1,s.2.2.2.2.2.2.2.2.2.2.1,s.2.2.2.2.2.2.2.2.2.2.2.1,s.2.2.2.2.2.2.2.2.2.2.2.2.1,())))
def a3E(s:(Int×(Int×(Int×((List Int)×(Int×Int×Z73)))))):Option ((Int×(Int×(Int×((List Int)×(Int×Int×Z73))))) ⊕ Z73):= cond (decide (s.2.2.2.2.2.1≤(a3s (a2q s.2.2.1 0) 8))) ((a3P (s.2.2.2.2.2.1,s.1,s.2.1)).bind fun y2=> cond ((y2.length:Int)==0) (some (.inl (s.1,s.2.1,s.2.2.1,s.2.2.2.1,s.2.2.2.2.1,wrap .i64 (s.2.2.2.2.2.1+1),s.2.2.2.2.2.2.1,s.2.2.2.2.2.2.2.1,()))) ((a0h a9a (s.1,s.2.1,s.2.2.1,s.2.2.2.1,s.2.2.2.2.1,s.2.2.2.2.2.1,s.2.2.2.1,(y2.length:Int),0,y2,s.2.2.2.2.2.2.1,s.2.2.2.2.2.2.2.1,(s.2.2.2.2.2.1,[],()),())).bind fun w4=> (a5B (w4.2.2.2.2.2.2.2.2.1,w4.1,w4.2.1,w4.2.2.2.1)).bind fun y5=> (show Option (Int×(Int×(Int×((List Int)×(Int×Int×Int×Bool×Z85)))))from cond (w4.2.2.2.2.1==0) (some (w4.1,w4.2.1,w4.2.2.1,w4.2.2.2.1,w4.2.2.2.2.1,w4.2.2.2.2.2.1,y5,true,w4.2.2.2.2.2.2.1,w4.2.2.2.2.2.2.2.1,w4.2.2.2.2.2.2.2.2.1,())) (some (w4.1,w4.2.1,w4.2.2.1,w4.2.2.2.1,w4.2.2.2.2.1,w4.2.2.2.2.2.1,y5,decide (y5<w4.2.2.2.2.1),w4.2.2.2.2.2.2.1,w4.2.2.2.2.2.2.2.1,w4.2.2.2.2.2.2.2.2.1,()))).bind fun z6=> cond z6.2.2.2.2.2.2.2.1 (some (.inl (z6.1,z6.2.1,z6.2.2.1,z6.2.2.2.1,z6.2.2.2.2.2.2.1,wrap .i64 (z6.2.2.2.2.2.1+1),z6.2.2.2.2.2.2.2.2.1,z6.2.2.2.2.2.2.2.2.2.2.1,()))) (some (.inl (z6.1,z6.2.1,z6.2.2.1,z6.2.2.2.1,z6.2.2.2.2.1,wrap .i64 (z6.2.2.2.2.2.1+1),z6.2.2.2.2.2.2.2.2.1,z6.2.2.2.2.2.2.2.2.2.1,()))))) (some (.inr (s.2.2.2.2.2.2.1,s.2.2.2.2.2.2.2.1,())))
def b2m(x:(Int×Z1)):Option (Z5×Int):= (a8j (x.1,x.2.1,x.2.2.2)).bind fun y1=> cond (!y1) (some ((0,[],()),1)) ((a0h a3E (x.1,x.2.1,x.2.2.1,x.2.2.2,0,0,(0,[],()),(0,[],()),())).bind fun w7=> some (w7.2.1,0))
def c0F:FSem:=⟨[.v QI,.v QI,.v QI,.v QL],[.v Q7,.v QI],b2m⟩
def e1H:Hints:=⟨[(250,[.sv 0 QI,.sv 1 QI,.sv 2 QI,.sv 3 QL,.sv 11 QI,.sv 12 QI,.box 8 Q7,.box 10 Q7,.ptr 8 8 [],.ptr 10 10 []],[(.exit 0,[.box 8 Q7,.box 10 Q7,.ptr 8 8 [],.ptr 10 10 []])]),(512634,[.sv 0 QI,.sv 1 QI,.sv 2 QI,.sv 3 QL,.sv 11 QI,.sv 12 QI,.sv 15 QL,.sv 43 QI,.sv 44 QI,.own 42 13 QI,.box 8 Q7,.box 10 Q7,.box 14 Q6,.ptr 8 8 [],.ptr 10 10 [],.ptr 14 14 []],[(.exit 2,[.sv 0 QI,.sv 1 QI,.sv 2 QI,.sv 3 QL,.sv 11 QI,.sv 12 QI,.box 8 Q7,.box 10 Q7,.box 14 Q6,.ptr 8 8 [],.ptr 10 10 [],.ptr 14 14 []])])],[(256319,[(.normal,[.sv 0 QI,.sv 1 QI,.sv 2 QI,.sv 3 QL,.sv 11 QI,.sv 12 QI,.sv 18 QI,.sv 72 .bool,.box 8 Q7,.box 10 Q7,.box 14 Q7,.ptr 8 8 [],.ptr 10 10 [],.ptr 14 14 []])])],[(15,[.q,.q,.v,.v,.v,.v,.q,.x,.x,.x])]⟩
def a6a(s:((List Int)×((List Int)×d1z))):Option (((List Int)×((List Int)×d1z)) ⊕ (((List Int)×b4s) ⊕ (Int×Z96))):= cond (decide (s.2.2.2.1<s.2.2.1)) ((a0p s.2.1 s.2.2.2.1).bind fun x5=> (a0p s.1 0).bind fun x6=> cond (x5 != x6) (some (.inr (Sum.inr ((7,(0,0,0,0,0,[],a00 3 0,[],[],(0,[],()),[],()),()))))) (some (.inl (s.1,s.2.1,s.2.2.1,wrap .i64 (s.2.2.2.1+1),s.2.2.2.2.1,s.2.2.2.2.2.1,())))) (some (.inr (Sum.inl (s.1,s.2.2.2.2.1,s.2.2.2.2.2.1,()))))
def b4X(x:(Int×((List Int)×Z93))):Option Z95:= (show Option (Int×((List Int)×(Int×Bool×b4s)))from cond (decide ((x.2.1.length:Int)<1)) (some (x.1,x.2.1,(x.2.1.length:Int),true,(0,0,0,0,0,[],a00 3 0,[],[],(0,[],()),[],()),x.2.2,())) (cond (decide ((x.2.1.length:Int) > 4096)) (some (x.1,x.2.1,(x.2.1.length:Int),true,(0,0,0,0,0,[],a00 3 0,[],[],(0,[],()),[],()),x.2.2,())) ((a9q (x.1,x.2.2,(x.2.1.length:Int))).bind fun y1=> some (x.1,x.2.1,(x.2.1.length:Int),!y1,(0,0,0,0,0,[],a00 3 0,[],[],(0,[],()),[],()),x.2.2,())))).bind fun z2=> cond z2.2.2.2.1 (some ((0,0,0,0,0,[],a00 3 0,[],[],(0,[],()),[],()),1)) ((a2A z2.2.1).bind fun y3=> cond (!y3) (some ((0,0,0,0,0,[],a00 3 0,[],[],(0,[],()),[],()),6)) ((a7d (z2.1,z2.2.2.2.2.2.1)).bind fun y4=> cond (z2.1==0) ((a0h a6a (z2.2.1,z2.2.1,(z2.2.1.length:Int),0,z2.2.2.2.2.1,y4,())).bind fun w7=> match w7 with |.inl a8=>((a0p a8.1 0).bind fun x10=> some ((a8.2.2.1.1,a8.2.2.1.2.1,a8.2.2.1.2.2.1,a8.2.2.1.2.2.2.1,a8.2.2.1.2.2.2.2.1,a8.2.2.1.2.2.2.2.2.1,a8.2.2.1.2.2.2.2.2.2.1,a8.2.2.1.2.2.2.2.2.2.2.1,[x10],a8.2.2.1.2.2.2.2.2.2.2.2.2),0)) |.inr b9=>some (b9.2.1,b9.1)) ((a4C z2.2.1).bind fun y11=> (a8m (z2.2.1,y11)).bind fun y12=> cond (y12.2 != 0) (some ((0,0,0,0,0,[],a00 3 0,[],[],(0,[],()),[],()),6)) (cond (z2.1==1) (some ((y4.1,y11,y4.2.2.1,y4.2.2.2.1,y4.2.2.2.2.1,y4.2.2.2.2.2.1,y4.2.2.2.2.2.2.1,y4.2.2.2.2.2.2.2.1,y12.1,y4.2.2.2.2.2.2.2.2.2),0)) ((b3D ((y4.1,y11,y4.2.2),y12.1)).bind fun y13=> cond (y13.1 != 0) (some ((0,0,0,0,0,[],a00 3 0,[],[],(0,[],()),[],()),6)) ((b2m (z2.2.2.1,(y13.2.2.2.2.2.2.2.2.2.1.length:Int),6,y13.2.2.2.2.2.2.2.2.2.2.2.1)).bind fun y14=> cond (y14.2 != 0) (some ((0,0,0,0,0,[],a00 3 0,[],[],(0,[],()),[],()),6)) (some ((y13.2.1,y13.2.2.1,y13.2.2.2.1,y13.2.2.2.2.1,y13.2.2.2.2.2.1,y13.2.2.2.2.2.2.1,y13.2.2.2.2.2.2.2.1,y13.2.2.2.2.2.2.2.2.1,y13.2.2.2.2.2.2.2.2.2.1,y14.1,y13.2.2.2.2.2.2.2.2.2.2.2),0))))))))
def c3I:FSem:=⟨[.v QI,.v QL,.v Q31],[.v Q31,.v QI],b4X⟩
def H86:Hints:=⟨[(4050,[.sv 1 QL,.sv 39 QL,.sv 40 QI,.sv 41 QI,.box 6 Q31,.box 9 Q31,.ptr 6 6 [],.ptr 9 9 []],[(.exit 0,[.sv 1 QL,.box 6 Q31,.box 9 Q31,.ptr 6 6 [],.ptr 9 9 []]),(.ret,[.sv 7 QI,.box 6 Q31,.ptr 6 6 []])])],[(14,[(.normal,[.sv 0 QI,.sv 1 QL,.sv 8 QI,.sv 28 .bool,.box 6 Q31,.vp 5 Q31,.ptr 6 6 []])])],[]⟩
def b0m(x:Z6):Option Z17:= some (x.2.1,x)
def b4G:FSem:=⟨[.r false (.b Q5)],[.v QI],b0m⟩
def e1I:Hints:=⟨[],[],[]⟩
def a4Z(x:Z95):Option Int:= (b1y (([],0,()),x.1,x.2)).bind fun y1=> cond (y1.1 != 0) (some 0) ((b0m y1.2).bind fun y2=> some y2.1)
def c3J:FSem:=⟨[.v Q31,.v QI],[.v QI],a4Z⟩
def H89:Hints:=⟨[],[],[]⟩
def a5G(s:Z44):Option (Z44 ⊕ (Int×Unit)):= cond (decide (s.2.2.2.2.1<s.2.2.2.1)) ((a0p s.2.2.1 s.2.2.2.2.1).bind fun x1=> cond (decide ((wrap .i64 (s.2.2.2.2.1+s.1))≥4)) (some (.inl (s.1,wrap .i64 (s.2.1+(a2q x1 (wrap .i64 (0-x1)))),s.2.2.1,s.2.2.2.1,wrap .i64 (s.2.2.2.2.1+1),()))) (some (.inl (s.1,s.2.1,s.2.2.1,s.2.2.2.1,wrap .i64 (s.2.2.2.2.1+1),())))) (some (.inr (s.2.1,())))
def b0Y(x:((List Int)×Int)):Option Int:= (a0h a5G (x.2,0,x.1,(x.1.length:Int),0,())).bind fun w2=> some w2.1
def b9C:FSem:=⟨[.v QL,.v QI],[.v QI],b0Y⟩
def e1J:Hints:=⟨[(58,[.sv 1 QI,.sv 5 QI,.sv 8 QL,.sv 9 QI,.sv 10 QI],[(.exit 0,[.sv 5 QI])])],[],[]⟩
def a3F(s:Z29):Option (Z29 ⊕ (Int×Unit)):= cond (decide (s.2.2.2.1≤4)) ((a5E (s.1,s.2.2.2.1)).bind fun y1=> cond (y1.2 != 0) (some (.inl (s.1,s.2.1,s.2.2.1,wrap .i64 (s.2.2.2.1+1),()))) ((b0Y (y1.1,s.2.2.2.1)).bind fun y2=> (show Option ((List Int)×(Int×Z22))from cond (decide (s.2.2.1<0)) (some (s.1,s.2.1,s.2.2.1,s.2.2.2.1,y2,true,())) (some (s.1,s.2.1,s.2.2.1,s.2.2.2.1,y2,decide (y2<s.2.2.1),()))).bind fun z3=> cond z3.2.2.2.2.2.1 (some (.inl (z3.1,z3.2.2.2.1,z3.2.2.2.2.1,wrap .i64 (z3.2.2.2.1+1),()))) (some (.inl (z3.1,z3.2.1,z3.2.2.1,wrap .i64 (z3.2.2.2.1+1),()))))) (some (.inr (s.2.1,())))
def a7i(x:(List Int)):Option Int:= (a0h a3F (x,0,(-1),0,())).bind fun w4=> some w4.1
def c0G:FSem:=⟨[.v QL],[.v QI],a7i⟩
def e1K:Hints:=⟨[(58,[.sv 0 QL,.sv 3 QI,.sv 4 QI,.sv 5 QI],[(.exit 0,[.sv 3 QI])])],[(7463,[(.normal,[.sv 0 QL,.sv 3 QI,.sv 4 QI,.sv 5 QI,.sv 8 QI,.sv 30 .bool])])],[]⟩
def a3p(x:Int):Option Int:= some (a3s (a2q x (-1048576)) 1048575)
def b2R:FSem:=⟨[.v QI],[.v QI],a3p⟩
def e1L:Hints:=⟨[],[],[]⟩
def a4w(s:Z65):Option (Z65 ⊕ Z54):= cond (decide (s.2.1<0)) none ((a3p (a0C .i64 s.2.2.1 s.2.1)).bind fun y2=> cond (decide (s.2.1<0)) none (cond (y2 != (a0C .i64 s.2.2.1 s.2.1)) (some (.inl (s.1,wrap .i64 (s.2.1+1),s.2.2.1,s.2.2.2.1,s.2.2.2.2.1,s.2.2.2.2.2.1,()))) (some (.inr (s.1,s.2.1,s.2.2.2.1,s.2.2.2.2.1,s.2.2.2.2.2.1,())))))
def a6x(s:Z54):Option (Z54 ⊕ Z6):= cond (decide (s.2.2.2.2.1<s.2.2.2.1)) ((a0p s.2.2.1 s.2.2.2.2.1).bind fun x1=> (a0h a4w (s.1,s.2.1,x1,s.2.2.1,s.2.2.2.1,s.2.2.2.2.1,())).bind fun w3=> some (.inl (w3.1,w3.2.1,w3.2.2.1,w3.2.2.2.1,wrap .i64 (w3.2.2.2.2.1+1),()))) (some (.inr (s.1,s.2.1,())))
def a6y(s:Z53):Option (Z53 ⊕ ((List Int)×Unit)):= cond (decide (s.2.2.2.1<s.2.2.1)) ((a0p s.2.1 s.2.2.2.1).bind fun x5=> cond (decide (s.1<0)) none (cond ((decide (0≤s.2.2.2.1))&&(decide (s.2.2.2.1<(s.2.2.2.2.1.length:Int)))) (some (.inl (s.1,s.2.1,s.2.2.1,wrap .i64 (s.2.2.2.1+1),a05 s.2.2.2.2.1 (a01 s.2.2.2.1) (a0C .i64 x5 s.1),()))) none)) (some (.inr (s.2.2.2.2.1,())))
def a9b(x:(List Int)):Option (List Int):= (a0h a6x (x,0,x,(x.length:Int),0,())).bind fun w4=> cond ((decide (0≤(w4.1.length:Int)))&&((decide ((w4.1.length:Int)≤(w4.1.length:Int)))&&(lim (a01 (w4.1.length:Int))))) ((a0h a6y (w4.2.1,w4.1,(w4.1.length:Int),0,a00 (a01 (w4.1.length:Int)) 0,())).bind fun w6=> some w6.1) none
def b6E:FSem:=⟨[.v QL],[.o QI],a9b⟩
def e1M:Hints:=⟨[(58,[.sv 0 QL,.sv 3 QI,.sv 9 QL,.sv 10 QI,.sv 11 QI],[(.exit 0,[.sv 0 QL,.sv 3 QI])]),(250,[.sv 3 QI,.sv 29 QL,.sv 30 QI,.sv 31 QI,.own 6 6 QI],[(.exit 4,[.own 6 6 QI])]),(7474,[.sv 0 QL,.sv 3 QI,.sv 5 QI,.sv 9 QL,.sv 10 QI,.sv 11 QI],[(.exit 2,[.sv 0 QL,.sv 3 QI,.sv 9 QL,.sv 10 QI,.sv 11 QI])])],[],[(5,[.v,.v,.v,.v,.v,.v,.v,.x])]⟩
def a4r(s:((List Int)×Z29)):Option (((List Int)×Z29) ⊕ (Int×Int×Unit)):= cond (decide (s.2.2.2.2.1<(s.1.length:Int))) ((a0p s.1 s.2.2.2.2.1).bind fun x1=> (a0p s.2.1 (wrap .i64 (s.2.2.2.2.1-1))).bind fun x2=> (a0p s.1 s.2.2.2.2.1).bind fun x3=> (a0p s.1 s.2.2.2.2.1).bind fun x4=> (a0p s.2.1 (wrap .i64 (s.2.2.2.2.1-1))).bind fun x5=> (a0p s.2.1 (wrap .i64 (s.2.2.2.2.1-1))).bind fun x6=> some (.inl (s.1,s.2.1,wrap .i64 (s.2.2.1+(wrap .i64 (x1*x2))),wrap .i64 (s.2.2.2.1+(wrap .i64 ((wrap .i64 (x3*x4))+(wrap .i64 (x5*x6))))),wrap .i64 (s.2.2.2.2.1+1),()))) (some (.inr (s.2.2.1,s.2.2.2.1,())))
def a4s(s:(Int×Int×Unit)):Option ((Int×Int×Unit) ⊕ (Int×Int×Unit)):= cond (decide (s.2.1≥1099511627776)) (some (.inl (a0C .i64 s.1 1,a0C .i64 s.2.1 1,()))) (some (.inr (s.1,s.2.1,())))
def a5O(x:Z10):Option Int:= (a0h a4r (x.1,x.2.1,0,0,x.2.2,())).bind fun w7=> (a0h a4s (w7.1,w7.2.1,())).bind fun w8=> cond (w8.2.1==0) (some 0) (cond (w8.2.1==0) none ((show Option (Int×Unit)from cond (w8.2.1==0) none (cond (decide ((a25 (a0z .i64 w8.1 15) w8.2.1)<0)) (some (wrap .i64 ((wrap .i64 (a18 (a0z .i64 w8.1 15) w8.2.1))-1),())) (some (wrap .i64 (a18 (a0z .i64 w8.1 15) w8.2.1),())))).bind fun z9=> some (a3s (a2q z9.1 (-16383)) 16383)))
def b2F:FSem:=⟨[.v QL,.v QL,.v QI],[.v QI],a5O⟩
def e1N:Hints:=⟨[(58,[.sv 0 QL,.sv 1 QL,.sv 7 QI,.sv 8 QI,.sv 9 QI],[(.exit 0,[.sv 7 QI,.sv 8 QI])]),(60,[.sv 7 QI,.sv 8 QI],[(.exit 2,[.sv 7 QI,.sv 8 QI])])],[(255,[(.normal,[.sv 10 QI])])],[(5,[.v,.v,.v,.v,.v,.v,.v,.v,.v,.v,.v,.x,.x]),(6,[.v,.v,.v,.v,.v,.v,.v,.v,.v,.v,.v,.v,.v,.v,.v,.v,.v,.v,.v,.v,.v,.v,.x,.x])]⟩
def a4c(s:(Int×Int×Z63)):Option ((Int×Int×Z63) ⊕ Z63):= cond (decide (s.2.2.2.1≥s.2.1)) (cond ((decide (0≤s.2.2.2.1))&&(decide (s.2.2.2.1<(s.2.2.2.2.1.length:Int)))) (cond ((decide (0≤(wrap .i64 (s.2.2.2.1-1))))&&(decide ((wrap .i64 (s.2.2.2.1-1))<(s.2.2.2.2.2.1.length:Int)))) ((a3p (wrap .i64 ((a03 s.2.2.2.2.1 (a01 s.2.2.2.1) 0)-(a0C .i64 (wrap .i64 (s.2.2.1*(a03 s.2.2.2.2.2.1 (a01 (wrap .i64 (s.2.2.2.1-1))) 0))) 14)))).bind fun y6=> cond ((decide (0≤s.2.2.2.1))&&(decide (s.2.2.2.1<(s.2.2.2.2.1.length:Int)))) ((a3p (wrap .i64 ((a03 s.2.2.2.2.2.1 (a01 (wrap .i64 (s.2.2.2.1-1))) 0)-(a0C .i64 (wrap .i64 (s.2.2.1*(a03 s.2.2.2.2.1 (a01 s.2.2.2.1) 0))) 14)))).bind fun y7=> cond ((decide (0≤s.2.2.2.1))&&(decide (s.2.2.2.1<(s.2.2.2.2.2.1.length:Int)))) (some (.inl (s.1,s.2.1,s.2.2.1,wrap .i64 (s.2.2.2.1-1),a05 s.2.2.2.2.1 (a01 s.2.2.2.1) y6,a05 s.2.2.2.2.2.1 (a01 s.2.2.2.1) y7,s.2.2.2.2.2.2.1,()))) none) none) none) none) (some (.inr (s.1,s.2.1,s.2.2.2.2.1,s.2.2.2.2.2.1,s.2.2.2.2.2.2.1,())))
def a4d(s:Z63):Option (Z63 ⊕ ((List Int)×Unit)):= cond (decide (s.2.1≤s.1)) ((a5O (s.2.2.1,s.2.2.2.1,s.2.1)).bind fun y5=> cond (lim ((a02 s.2.2.2.2.1)+1)) ((a0h a4c (s.1,s.2.1,y5,wrap .i64 ((s.2.2.1.length:Int)-1),s.2.2.1,s.2.2.2.1,a04 s.2.2.2.2.1 [y5],())).bind fun w8=> some (.inl (w8.1,wrap .i64 (w8.2.1+1),w8.2.2.1,w8.2.2.2.1,w8.2.2.2.2.1,()))) none) (some (.inr (s.2.2.2.2.1,())))
def a7L(x:((List Int)×Int)):Option ((List Int)×Int):= (show Option Z18 from cond (decide (x.2<1)) (some (x.1,x.2,true,())) (cond (decide (x.2 > 32)) (some (x.1,x.2,true,())) (some (x.1,x.2,decide ((x.1.length:Int) > 4096),())))).bind fun z1=> cond z1.2.2.1 (some ([],1)) ((a3k z1.1).bind fun y2=> cond (!y2) (some ([],6)) ((a9b z1.1).bind fun y3=> (a1j y3).bind fun y4=> cond ((decide (0≤z1.2.1))&&(lim (a01 z1.2.1))) ((a0h a4d (z1.2.1,1,y3,y4,[],())).bind fun w9=> some (w9.1,0)) none))
def b5T:FSem:=⟨[.v QL,.v QI],[.o QI,.v QI],a7L⟩
def e1O:Hints:=⟨[(1018,[.sv 1 QI,.sv 9 QI,.own 6 6 QI,.own 7 7 QI,.own 8 8 QI],[(.exit 0,[.own 8 8 QI])]),(260686,[.sv 1 QI,.sv 9 QI,.sv 10 QI,.sv 11 QI,.own 6 6 QI,.own 7 7 QI,.own 8 8 QI],[(.exit 2,[.sv 1 QI,.sv 9 QI,.own 6 6 QI,.own 7 7 QI,.own 8 8 QI])])],[(6,[(.normal,[.sv 0 QL,.sv 1 QI,.sv 24 .bool])])],[(16,[.q,.v,.q,.q,.q,.v,.v,.q,.q,.v,.x])]⟩
def a2M(s:Z39):Option (Z39 ⊕ (((List Int)×Unit) ⊕ Z6)):= cond (decide (s.2.2.2.1<s.2.2.1)) ((a0p s.2.1 s.2.2.2.1).bind fun x2=> (show Option ((List Int)×Z32)from cond (decide (x2<(-16383))) (some (s.1,s.2.1,s.2.2.1,s.2.2.2.1,true,())) (some (s.1,s.2.1,s.2.2.1,s.2.2.2.1,decide (x2 > 16383),()))).bind fun z3=> cond z3.2.2.2.2.1 (some (.inr (Sum.inr (([],1,()))))) (some (.inl (z3.1,z3.2.1,z3.2.2.1,wrap .i64 (z3.2.2.2.1+1),())))) (some (.inr (Sum.inl (s.1,()))))
def a4R(s:((List Int)×(Int×(Int×((List Int)×Z67))))):Option (((List Int)×(Int×(Int×((List Int)×Z67)))) ⊕ Z53):= cond (decide (s.2.2.2.2.2.2.2.2.1<s.2.2.2.2.2.2.2.1)) ((a0p s.2.2.2.2.2.2.1 s.2.2.2.2.2.2.2.2.1).bind fun x8=> (a0p s.1 (wrap .i64 ((wrap .i64 (s.2.1-1))-s.2.2.2.2.2.2.2.2.1))).bind fun x9=> cond (lim ((a02 s.2.2.2.2.2.2.2.2.2.1)+1)) (some (.inl (s.1,s.2.1,s.2.2.1,s.2.2.2.1,s.2.2.2.2.1,s.2.2.2.2.2.1,s.2.2.2.2.2.2.1,s.2.2.2.2.2.2.2.1,wrap .i64 (s.2.2.2.2.2.2.2.2.1+1),a04 s.2.2.2.2.2.2.2.2.2.1 [wrap .i64 (x8-(a0C .i64 (wrap .i64 (s.2.2.1*x9)) 14))],()))) none) (some (.inr (s.2.2.1,s.2.2.2.1,s.2.2.2.2.1,s.2.2.2.2.2.1,s.2.2.2.2.2.2.2.2.2.1,())))
def a6V(s:Z39):Option (Z39 ⊕ ((List Int)×Unit)):= cond (decide (s.2.2.2.1<s.2.2.1)) ((a0p s.2.1 s.2.2.2.1).bind fun x7=> cond ((decide (0≤(wrap .i64 (s.2.2.2.1+1))))&&(lim (a01 (wrap .i64 (s.2.2.2.1+1))))) ((a0h a4R (s.1,s.2.2.2.1,x7,s.2.1,s.2.2.1,s.2.2.2.1,s.1,(s.1.length:Int),0,[],())).bind fun w10=> cond (lim ((a02 w10.2.2.2.2.1)+1)) (some (.inl (a04 w10.2.2.2.2.1 [w10.1],w10.2.1,w10.2.2.1,wrap .i64 (w10.2.2.2.1+1),()))) none) none) (some (.inr (s.1,())))
def b0d(x:(List Int)):Option ((List Int)×Int):= (show Option ((List Int)×(Bool×Unit))from cond (decide ((x.length:Int)<1)) (some (x,true,())) (some (x,decide ((x.length:Int) > 32),()))).bind fun z1=> cond z1.2.1 (some ([],1)) ((a0h a2M (z1.1,z1.1,(z1.1.length:Int),0,())).bind fun w4=> match w4 with |.inl a5=>((a0h a6V ([],a5.1,(a5.1.length:Int),0,())).bind fun w11=> some (w11.1,0)) |.inr b6=>some (b6.1,b6.2.1))
def b7W:FSem:=⟨[.v QL],[.v QL,.v QI],b0d⟩
def e1P:Hints:=⟨[(58,[.sv 0 QL,.sv 20 QL,.sv 21 QI,.sv 22 QI],[(.exit 0,[.sv 0 QL]),(.ret,[.sv 2 QL,.sv 3 QI])]),(250,[.sv 6 QL,.sv 34 QL,.sv 35 QI,.sv 36 QI],[(.exit 2,[.sv 6 QL])]),(256410,[.sv 6 QL,.sv 7 QI,.sv 8 QI,.sv 34 QL,.sv 35 QI,.sv 36 QI,.sv 44 QL,.sv 45 QI,.sv 46 QI,.own 9 9 QI],[(.exit 4,[.sv 8 QI,.sv 34 QL,.sv 35 QI,.sv 36 QI,.own 9 9 QI])])],[(6,[(.normal,[.sv 0 QL,.sv 19 .bool])]),(3737,[(.normal,[.sv 0 QL,.sv 20 QL,.sv 21 QI,.sv 22 QI,.sv 31 .bool])])],[]⟩
def a2N(s:Z54):Option (Z54 ⊕ (Z6 ⊕ Z16)):= cond (decide (s.2.2.2.2.1<s.2.2.2.1)) ((a0p s.2.2.1 s.2.2.2.2.1).bind fun x2=> (show Option ((List Int)×(Int×Z32))from cond (decide (x2<(-35184372088832))) (some (s.1,s.2.1,s.2.2.1,s.2.2.2.1,s.2.2.2.2.1,true,())) (some (s.1,s.2.1,s.2.2.1,s.2.2.2.1,s.2.2.2.2.1,decide (x2 > 35184372088832),()))).bind fun z3=> cond z3.2.2.2.2.2.1 (some (.inr (Sum.inr ((0,1,[],()))))) (some (.inl (z3.1,z3.2.1,z3.2.2.1,z3.2.2.2.1,wrap .i64 (z3.2.2.2.2.1+1),())))) (some (.inr (Sum.inl (s.1,s.2.1,()))))
def a2O(s:((List Int)×(Int×Z67))):Option (((List Int)×(Int×Z67)) ⊕ Z37):= cond (decide (s.2.2.2.2.2.2.1<s.2.2.2.2.2.1)) ((a0p s.2.2.2.2.1 s.2.2.2.2.2.2.1).bind fun x8=> cond (decide (s.2.2.1<0)) none ((a4H (a0C .i64 (wrap .i64 (x8+s.2.2.2.1)) s.2.2.1,s.2.1)).bind fun y9=> cond (!y9) (some (.inr (s.1,s.2.1,s.2.2.1,s.2.2.2.2.2.2.2.1,()))) (cond (lim ((a02 s.2.2.2.2.2.2.2.1)+1)) (some (.inl (s.1,s.2.1,s.2.2.1,s.2.2.2.1,s.2.2.2.2.1,s.2.2.2.2.2.1,wrap .i64 (s.2.2.2.2.2.2.1+1),a04 s.2.2.2.2.2.2.2.1 [a0C .i64 (wrap .i64 (x8+s.2.2.2.1)) s.2.2.1],()))) none))) (some (.inr (s.1,s.2.1,s.2.2.1,s.2.2.2.2.2.2.2.1,())))
def a2P(s:Z15):Option (Z15 ⊕ (Unit ⊕ Z16)):= cond (decide (s.2.2.1≤14)) ((show Option Z29 from cond (decide (s.2.2.1 > 0)) (cond (decide ((wrap .i64 (s.2.2.1-1))<0)) none (some (s.1,s.2.1,s.2.2.1,a0z .i64 1 (wrap .i64 (s.2.2.1-1)),()))) (some (s.1,s.2.1,s.2.2.1,0,()))).bind fun z7=> cond ((decide (0≤(z7.1.length:Int)))&&(lim (a01 (z7.1.length:Int)))) ((a0h a2O (z7.1,z7.2.1,z7.2.2.1,z7.2.2.2.1,z7.1,(z7.1.length:Int),0,[],())).bind fun w10=> cond ((w10.2.2.2.1.length:Int)==(w10.1.length:Int)) (some (.inr (Sum.inr ((wrap .i64 (14-w10.2.2.1),0,w10.2.2.2.1,()))))) (some (.inl (w10.1,w10.2.1,wrap .i64 (w10.2.2.1+1),())))) none) (some (.inr (Sum.inl ())))
def b0e(x:((List Int)×Int)):Option Z3:= (show Option Z18 from cond (decide ((x.1.length:Int)<1)) (some (x.1,x.2,true,())) (cond (decide ((x.1.length:Int) > 32)) (some (x.1,x.2,true,())) (cond (decide (x.2<2)) (some (x.1,x.2,true,())) (some (x.1,x.2,decide (x.2 > 16),()))))).bind fun z1=> cond z1.2.2.1 (some ([],0,1)) ((a0h a2N (z1.1,z1.2.1,z1.1,(z1.1.length:Int),0,())).bind fun w4=> match w4 with |.inl a5=>((a0h a2P (a5.1,a5.2.1,0,())).bind fun w11=> match w11 with |.inl a12=>some ([],0,6) |.inr b13=>some (b13.2.2.1,b13.1,b13.2.1)) |.inr b6=>some (b6.2.2.1,b6.1,b6.2.1))
def b7X:FSem:=⟨[.v QL,.v QI],[.o QI,.v QI,.v QI],b0e⟩
def e1Q:Hints:=⟨[(58,[.sv 0 QL,.sv 1 QI,.sv 31 QL,.sv 32 QI,.sv 33 QI],[(.exit 0,[.sv 0 QL,.sv 1 QI]),(.ret,[.sv 5 QI,.sv 6 QI,.own 4 4 QI])]),(122,[.sv 0 QL,.sv 1 QI,.sv 9 QI],[(.exit 2,[]),(.ret,[.sv 5 QI,.sv 6 QI,.own 4 11 QI])]),(125242,[.sv 0 QL,.sv 1 QI,.sv 9 QI,.sv 10 QI,.sv 56 QL,.sv 57 QI,.sv 58 QI,.own 11 11 QI],[(.exit 4,[.sv 0 QL,.sv 1 QI,.sv 9 QI,.own 11 11 QI])])],[(6,[(.normal,[.sv 0 QL,.sv 1 QI,.sv 30 .bool])]),(3737,[(.normal,[.sv 0 QL,.sv 1 QI,.sv 31 QL,.sv 32 QI,.sv 33 QI,.sv 42 .bool])]),(3913,[(.normal,[.sv 0 QL,.sv 1 QI,.sv 9 QI,.sv 10 QI])])],[]⟩
def a4J(x:Z3):Option Z3:= (a7L (x.1,x.2.1)).bind fun y1=> cond (y1.2 != 0) (some ([],0,y1.2)) ((b0d y1.1).bind fun y2=> cond (y2.2 != 0) (some ([],0,y2.2)) ((b0e (y2.1,x.2.2)).bind fun y3=> some (y3.1,y3.2.1,y3.2.2)))
def b4E:FSem:=⟨[.v QL,.v QI,.v QI],[.o QI,.v QI,.v QI],a4J⟩
def e1R:Hints:=⟨[],[],[]⟩
def c5c(s:((List Int)×(Int×Int×Z35))):Option (((List Int)×(Int×Int×Z35)) ⊕ ((List Int)×(Int×Z35))):= cond (decide (s.2.2.2.2.2.2.2.1<(s.1.length:Int))) ((a0p s.1 s.2.2.2.2.2.2.2.1).bind fun x3=> (a0p s.1 (wrap .i64 (s.2.2.2.2.2.2.2.1-s.2.2.2.2.2.1))).bind fun x4=> some (.inl (s.1,s.2.1,s.2.2.1,s.2.2.2.1,s.2.2.2.2.1,s.2.2.2.2.2.1,wrap .i64 (s.2.2.2.2.2.2.1+(a2q (wrap .i64 (x3-x4)) (wrap .i64 (0-(wrap .i64 (x3-x4)))))),wrap .i64 (s.2.2.2.2.2.2.2.1+1),()))) (some (.inr (s.1,s.2.1,s.2.2.1,s.2.2.2.1,s.2.2.2.2.1,s.2.2.2.2.2.1,s.2.2.2.2.2.2.1,())))
def c5d(s:((List Int)×Z35)):Option (((List Int)×Z35) ⊕ (Int×Unit)):= cond (decide (s.2.2.2.2.2.1≤s.2.2.1)) ((a0h c5c (s.1,s.2.1,s.2.2.1,s.2.2.2.1,s.2.2.2.2.1,s.2.2.2.2.2.1,0,s.2.2.1,())).bind fun w5=> (show Option ((List Int)×(Int×Int×Int×Z22))from cond (w5.2.2.2.2.2.1==w5.2.1) (some (w5.1,w5.2.1,w5.2.2.1,w5.2.2.2.1,w5.2.2.2.2.1,w5.2.2.2.2.2.1,w5.2.2.2.2.2.2.1,true,())) (some (w5.1,w5.2.1,w5.2.2.1,w5.2.2.2.1,w5.2.2.2.2.1,w5.2.2.2.2.2.1,w5.2.2.2.2.2.2.1,decide (w5.2.2.2.2.2.2.1<w5.2.2.2.2.1),()))).bind fun z6=> cond z6.2.2.2.2.2.2.2.1 (some (.inl (z6.1,z6.2.1,z6.2.2.1,z6.2.2.2.2.2.1,z6.2.2.2.2.2.2.1,wrap .i64 (z6.2.2.2.2.2.1+1),()))) (some (.inl (z6.1,z6.2.1,z6.2.2.1,z6.2.2.2.1,z6.2.2.2.2.1,wrap .i64 (z6.2.2.2.2.2.1+1),())))) (some (.inr (s.2.2.2.1,())))
def b3F(x:Z3):Option (Int×Int):= (show Option Z32 from cond (decide (x.2.1<2)) (some (x.1,x.2.1,x.2.2,true,())) (cond (decide (x.2.1 > x.2.2)) (some (x.1,x.2.1,x.2.2,true,())) (cond (decide (x.2.2 > 1024)) (some (x.1,x.2.1,x.2.2,true,())) (some (x.1,x.2.1,x.2.2,decide ((x.1.length:Int) > 4096),()))))).bind fun z1=> cond z1.2.2.2.1 (some (0,1)) (cond (decide ((z1.1.length:Int)≤z1.2.2.1)) (some (0,7)) ((a5o z1.1).bind fun y2=> cond (!y2) (some (0,6)) ((a0h c5d (z1.1,z1.2.1,z1.2.2.1,0,0,z1.2.1,())).bind fun w7=> some (w7.1,0))))
def c1V:FSem:=⟨[.v QL,.v QI,.v QI],[.v QI,.v QI],b3F⟩
def e1S:Hints:=⟨[(506,[.sv 0 QL,.sv 1 QI,.sv 2 QI,.sv 8 QI,.sv 9 QI,.sv 10 QI],[(.exit 0,[.sv 8 QI])]),(129610,[.sv 0 QL,.sv 1 QI,.sv 2 QI,.sv 8 QI,.sv 9 QI,.sv 10 QI,.sv 11 QI,.sv 12 QI],[(.exit 2,[.sv 0 QL,.sv 1 QI,.sv 2 QI,.sv 8 QI,.sv 9 QI,.sv 10 QI,.sv 11 QI])])],[(6,[(.normal,[.sv 0 QL,.sv 1 QI,.sv 2 QI,.sv 29 .bool])]),(32403,[(.normal,[.sv 0 QL,.sv 1 QI,.sv 2 QI,.sv 8 QI,.sv 9 QI,.sv 10 QI,.sv 11 QI,.sv 74 .bool])])],[(15,[.v,.v,.v,.v,.v,.v,.v,.v,.v,.v,.x,.x])]⟩
def c0H(x:Unit):Option (List (List Int)):= some ([a05 (a05 (a05 (a00 3 0) 0 0) 1 0) 2 0,a05 (a05 (a05 (a00 3 0) 0 0) 1 64) 2 0,a05 (a05 (a05 (a00 3 0) 0 0) 1 32) 2 0,a05 (a05 (a05 (a00 3 0) 0 16) 1 32) 2 16,a05 (a05 (a05 (a00 3 0) 0 21) 1 22) 2 21,a05 (a05 (a05 (a00 3 0) 0 0) 1 48) 2 0,a05 (a05 (a05 (a00 3 0) 0 (-8)) 1 64) 2 (-8),a05 (a05 (a05 (a00 3 0) 0 32) 1 32) 2 0,a05 (a05 (a05 (a00 3 0) 0 0) 1 32) 2 32]:List (List Int))
def c0I:FSem:=⟨[],[.o (.arr 3 QI)],c0H⟩
def e1T:Hints:=⟨[],[],[]⟩
def c5e(s:((List Int)×(Int×(Int×(Bool×(Int×(Int×(Int×(Int×(Int×((List (List Int))×((List Int)×Z36)))))))))))):Option (((List Int)×(Int×(Int×(Bool×(Int×(Int×(Int×(Int×(Int×((List (List Int))×((List Int)×Z36))))))))))) ⊕ ((List Int)×(Int×(Int×(Bool×(Int×(Int×(Int×((List (List Int))×Z36))))))))):= cond (decide (s.2.2.2.2.2.2.2.2.1<s.2.2.2.2.2.2.2.1)) (cond ((decide (0≤s.2.2.2.2.2.2.2.2.1))&&(decide (s.2.2.2.2.2.2.2.2.1<(s.2.2.2.2.2.2.2.2.2.2.1.length:Int)))) (some (.inl (s.1,s.2.1,s.2.2.1,s.2.2.2.1,wrap .i64 (s.2.2.2.2.1+(a2q (a03 s.2.2.2.2.2.2.2.2.2.2.1 (a01 s.2.2.2.2.2.2.2.2.1) 0) (wrap .i64 (0-(a03 s.2.2.2.2.2.2.2.2.2.2.1 (a01 s.2.2.2.2.2.2.2.2.1) 0))))),s.2.2.2.2.2.1,s.2.2.2.2.2.2.1,s.2.2.2.2.2.2.2.1,wrap .i64 (s.2.2.2.2.2.2.2.2.1+1),s.2.2.2.2.2.2.2.2.2.1,s.2.2.2.2.2.2.2.2.2.2.1,s.2.2.2.2.2.2.2.2.2.2.2.1,s.2.2.2.2.2.2.2.2.2.2.2.2.1,s.2.2.2.2.2.2.2.2.2.2.2.2.2.1,()))) none) (some (.inr (s.1,s.2.1,s.2.2.1,s.2.2.2.1,s.2.2.2.2.1,s.2.2.2.2.2.1,s.2.2.2.2.2.2.1,s.2.2.2.2.2.2.2.2.2.1,s.2.2.2.2.2.2.2.2.2.2.2.1,s.2.2.2.2.2.2.2.2.2.2.2.2.1,s.2.2.2.2.2.2.2.2.2.2.2.2.2.1,())))
def c5f(s:((List Int)×(Int×(Int×(Bool×(Int×(Int×((List (List Int))×Z11)))))))):Option (((List Int)×(Int×(Int×(Bool×(Int×(Int×((List (List Int))×Z11))))))) ⊕ (Bool×Z11)):= cond (decide (s.2.2.2.2.2.1<s.2.2.2.2.1)) (cond ((decide (0≤s.2.2.2.2.2.1))&&(decide (s.2.2.2.2.2.1<(s.2.2.2.2.2.2.1.length:Int)))) ((a8F (s.1,s.2.1,a03 s.2.2.2.2.2.2.1 (a01 s.2.2.2.2.2.1) (a00 3 0))).bind fun y3=> cond (y3.2 != 0) (some (.inl (s.1,s.2.1,s.2.2.1,s.2.2.2.1,s.2.2.2.2.1,wrap .i64 (s.2.2.2.2.2.1+1),s.2.2.2.2.2.2.1,s.2.2.2.2.2.2.2.1,s.2.2.2.2.2.2.2.2.1,()))) ((a0h c5e (s.1,s.2.1,s.2.2.1,s.2.2.2.1,0,s.2.2.2.2.1,s.2.2.2.2.2.1,(y3.1.length:Int),0,s.2.2.2.2.2.2.1,y3.1,s.2.2.2.2.2.2.2.1,s.2.2.2.2.2.2.2.2.1,a03 s.2.2.2.2.2.2.1 (a01 s.2.2.2.2.2.1) (a00 3 0),())).bind fun w4=> (show Option ((List Int)×(Int×(Int×(Bool×(Int×(Int×(Int×(Bool×((List (List Int))×Z36)))))))))from cond (!w4.2.2.2.1) (some (w4.1,w4.2.1,w4.2.2.1,w4.2.2.2.1,w4.2.2.2.2.1,w4.2.2.2.2.2.1,w4.2.2.2.2.2.2.1,true,w4.2.2.2.2.2.2.2.1,w4.2.2.2.2.2.2.2.2.1,w4.2.2.2.2.2.2.2.2.2.1,w4.2.2.2.2.2.2.2.2.2.2.1,())) (some (w4.1,w4.2.1,w4.2.2.1,w4.2.2.2.1,w4.2.2.2.2.1,w4.2.2.2.2.2.1,w4.2.2.2.2.2.2.1,decide (w4.2.2.2.2.1<w4.2.2.1),w4.2.2.2.2.2.2.2.1,w4.2.2.2.2.2.2.2.2.1,w4.2.2.2.2.2.2.2.2.2.1,w4.2.2.2.2.2.2.2.2.2.2.1,()))).bind fun z5=> cond z5.2.2.2.2.2.2.2.1 (some (.inl (z5.1,z5.2.1,z5.2.2.2.2.1,true,z5.2.2.2.2.2.1,wrap .i64 (z5.2.2.2.2.2.2.1+1),z5.2.2.2.2.2.2.2.2.1,z5.2.2.2.2.2.2.2.2.2.1,z5.2.2.2.2.2.2.2.2.2.2.2.1,()))) (some (.inl (z5.1,z5.2.1,z5.2.2.1,z5.2.2.2.1,z5.2.2.2.2.2.1,wrap .i64 (z5.2.2.2.2.2.2.1+1),z5.2.2.2.2.2.2.2.2.1,z5.2.2.2.2.2.2.2.2.2.1,z5.2.2.2.2.2.2.2.2.2.2.1,()))))) none) (some (.inr (s.2.2.2.1,s.2.2.2.2.2.2.2.1,s.2.2.2.2.2.2.2.2.1,())))
def c1W(x:((List Int)×Int)):Option ((List Int)×Int):= (show Option ((List Int)×(Int×Z8))from cond (decide (x.2<2)) (some (x.1,x.2,true,a00 3 0,())) (some (x.1,x.2,decide (x.2 > 1024),a00 3 0,()))).bind fun z1=> cond z1.2.2.1 (some (a00 3 0,1)) ((c0H ()).bind fun y2=> (a0h c5f (z1.1,z1.2.1,0,false,(y2.length:Int),0,y2,z1.2.2.2.1,a00 3 0,())).bind fun w6=> cond (!w6.1) (some (a00 3 0,6)) (some (w6.2.2.1,0)))
def c1X:FSem:=⟨[.v QL,.v QI],[.v (.arr 3 QI),.v QI],c1W⟩
def e1U:Hints:=⟨[(122,[.sv 0 QL,.sv 1 QI,.sv 7 QI,.sv 8 .bool,.sv 25 QI,.sv 26 QI,.own 24 1024 (.arr 3 QI),.box 4 (.arr 3 QI),.box 6 (.arr 3 QI),.ptr 4 4 [],.ptr 6 6 []],[(.exit 0,[.sv 8 .bool,.box 4 (.arr 3 QI),.box 6 (.arr 3 QI),.ptr 4 4 [],.ptr 6 6 []])]),(501370,[.sv 0 QL,.sv 1 QI,.sv 7 QI,.sv 8 .bool,.sv 13 QI,.sv 25 QI,.sv 26 QI,.sv 40 QI,.sv 41 QI,.own 24 1024 (.arr 3 QI),.own 39 11 QI,.box 4 (.arr 3 QI),.box 6 (.arr 3 QI),.box 10 (.arr 3 QI),.ptr 4 4 [],.ptr 6 6 [],.ptr 10 10 []],[(.exit 2,[.sv 0 QL,.sv 1 QI,.sv 7 QI,.sv 8 .bool,.sv 13 QI,.sv 25 QI,.sv 26 QI,.own 24 1024 (.arr 3 QI),.box 4 (.arr 3 QI),.box 6 (.arr 3 QI),.box 10 (.arr 3 QI),.ptr 4 4 [],.ptr 6 6 [],.ptr 10 10 []])])],[(6,[(.normal,[.sv 0 QL,.sv 1 QI,.sv 21 .bool,.box 4 (.arr 3 QI),.ptr 4 4 []])]),(125343,[(.normal,[.sv 0 QL,.sv 1 QI,.sv 7 QI,.sv 8 .bool,.sv 13 QI,.sv 25 QI,.sv 26 QI,.sv 58 .bool,.own 24 1024 (.arr 3 QI),.box 4 (.arr 3 QI),.box 6 (.arr 3 QI),.box 10 (.arr 3 QI),.ptr 4 4 [],.ptr 6 6 [],.ptr 10 10 []])])],[]⟩
def a4x(x:(List Int)):Option (Z93×Bool):= (b3F (x,16,256)).bind fun y1=> cond (y1.2 != 0) (some ((0,0,0,0,0,[],a00 3 0,[],[],(0,[],()),[],()),false)) ((c1W (x,y1.1)).bind fun y2=> cond (y2.2 != 0) (some ((0,0,0,0,0,[],a00 3 0,[],[],(0,[],()),[],()),false)) ((a8F (x,y1.1,y2.1)).bind fun y3=> cond (y3.2 != 0) (some ((0,0,0,0,0,[],a00 3 0,[],[],(0,[],()),[],()),false)) ((a4J (y3.1,4,12)).bind fun y4=> cond (y4.2.2 != 0) (some ((0,0,0,0,0,[],a00 3 0,[],[],(0,[],()),[],()),false)) (some ((4,0,0,y4.2.1,y1.1,y4.1,y2.1,[],[],(0,[],()),[],()),true)))))
def c0J:FSem:=⟨[.v QL],[.v Q31,.v .bool],a4x⟩
def e1V:Hints:=⟨[],[],[]⟩
def a0A(x:(Int×(Int×((List Int)×Z94)))):Option ((List Int)×Z94):= (a4J (x.2.2.1,x.1,x.2.1)).bind fun y1=> cond (y1.2.2==0) (cond (lim ((a02 x.2.2.2)+1)) (some (x.2.2.1,a04 x.2.2.2 ([(3,0,0,y1.2.1,0,y1.1,a00 3 0,[],[],(0,[],()),[],())]:List Z93))) none) (some (x.2.2.1,x.2.2.2))
def b4i:FSem:=⟨[.v QI,.v QI,.r false (.b QL),.r false (.b (.list true Q31))],[],a0A⟩
def e1W:Hints:=⟨[],[],[]⟩
def a2l(s:(Int×d1v)):Option ((Int×d1v) ⊕ d1v):= cond (decide (s.1<5)) (cond (lim ((a02 s.2.1)+1)) (some (.inl (wrap .i64 (s.1+1),a04 s.2.1 ([(2,0,s.1,0,0,[],a00 3 0,[],[],(0,[],()),[],())]:List Z93),s.2.2.1,()))) none) (some (.inr (s.2.1,s.2.2.1,())))
def a7M(x:((List Int)×Int)):Option Z94:= (a7i x.1).bind fun y1=> (show Option (Int×((List Int)×Z97))from cond (decide (x.2≥1)) ((a0A (4,12,x.1,([(0,0,0,0,0,[],a00 3 0,[],[],(0,[],()),[],()),(1,0,0,0,0,[],a00 3 0,[],[],(0,[],()),[],()),(2,0,y1,0,0,[],a00 3 0,[],[],(0,[],()),[],())]:List Z93))).bind fun y2=> (a0A (8,12,y2.1,y2.2)).bind fun y3=> some (x.2,y3.1,y3.2,())) (some (x.2,x.1,([(0,0,0,0,0,[],a00 3 0,[],[],(0,[],()),[],()),(1,0,0,0,0,[],a00 3 0,[],[],(0,[],()),[],()),(2,0,y1,0,0,[],a00 3 0,[],[],(0,[],()),[],())]:List Z93),()))).bind fun z4=> (show Option (Int×d1v)from cond (decide (z4.1≥2)) (cond (lim ((a02 z4.2.2.1)+1)) (cond (lim ((a02 (a04 z4.2.2.1 ([(5,0,0,0,0,[],a00 3 0,([(16,4,())]:List (Int×Int×Unit)),[],(0,[],()),[],())]:List Z93)))+1)) ((a4x z4.2.1).bind fun y5=> cond y5.2 (cond (lim ((a02 (a04 (a04 z4.2.2.1 ([(5,0,0,0,0,[],a00 3 0,([(16,4,())]:List (Int×Int×Unit)),[],(0,[],()),[],())]:List Z93)) ([(5,0,0,0,0,[],a00 3 0,([(32,3,()),(16,5,())]:List (Int×Int×Unit)),[],(0,[],()),[],())]:List Z93)))+1)) (some (z4.1,a04 (a04 (a04 z4.2.2.1 ([(5,0,0,0,0,[],a00 3 0,([(16,4,())]:List (Int×Int×Unit)),[],(0,[],()),[],())]:List Z93)) ([(5,0,0,0,0,[],a00 3 0,([(32,3,()),(16,5,())]:List (Int×Int×Unit)),[],(0,[],()),[],())]:List Z93)) ([y5.1]:List Z93),z4.2.1,())) none) (some (z4.1,a04 (a04 z4.2.2.1 ([(5,0,0,0,0,[],a00 3 0,([(16,4,())]:List (Int×Int×Unit)),[],(0,[],()),[],())]:List Z93)) ([(5,0,0,0,0,[],a00 3 0,([(32,3,()),(16,5,())]:List (Int×Int×Unit)),[],(0,[],()),[],())]:List Z93),z4.2.1,()))) none) none) (some (z4.1,z4.2.2.1,z4.2.1,()))).bind fun z6=> (show Option Z97 from cond (decide (z6.1≥3)) ((a0h a2l (0,z6.2.1,z6.2.2.1,())).bind fun w7=> (a0A (1,12,w7.2.1,w7.1)).bind fun y8=> (a0A (2,12,y8.1,y8.2)).bind fun y9=> (a0A (12,14,y9.1,y9.2)).bind fun y10=> (a0A (16,14,y10.1,y10.2)).bind fun y11=> some (y11.2,())) (some (z6.2.1,()))).bind fun z12=> some z12.1
def b5U:FSem:=⟨[.v QL,.v QI],[.v (.list false Q31)],a7M⟩
def H93:Hints:=⟨[(4050,[.sv 50 QI,.box 5 (.list true Q31),.box 2 QL,.ptr 5 5 [],.clo 6 176 [2,5]],[(.exit 0,[.box 5 (.list true Q31),.box 2 QL,.ptr 5 5 [],.clo 6 176 [2,5]])])],[(15,[(.normal,[.sv 1 QI,.box 2 QL,.box 5 (.list true Q31),.ptr 2 2 [],.ptr 5 5 [],.clo 6 176 [2,5]])]),(31,[(.normal,[.sv 1 QI,.box 5 (.list true Q31),.box 2 QL,.ptr 5 5 [],.clo 6 176 [2,5]])]),(63,[(.normal,[.box 5 (.list true Q31),.ptr 5 5 []])])],[]⟩
def a8o(s:((List Int)×(Int×Bool×Z94×d1z))):Option (((List Int)×(Int×Bool×Z94×d1z)) ⊕ b4s):= cond (decide (s.2.2.2.2.2.1<s.2.2.2.2.1)) ((a0p s.2.2.2.1 s.2.2.2.2.2.1).bind fun x6=> (b4X (x6.1,s.1,x6)).bind fun y7=> cond (y7.2 != 0) (some (.inl (s.1,s.2.1,s.2.2.1,s.2.2.2.1,s.2.2.2.2.1,wrap .i64 (s.2.2.2.2.2.1+1),s.2.2.2.2.2.2.1,s.2.2.2.2.2.2.2.1,()))) ((a4Z (y7.1,(s.1.length:Int))).bind fun y8=> (show Option ((List Int)×(Int×Bool×Int×Z94×Int×Int×Bool×Z93×b4s))from cond (!s.2.2.1) (some (s.1,s.2.1,s.2.2.1,y8,s.2.2.2.1,s.2.2.2.2.1,s.2.2.2.2.2.1,true,s.2.2.2.2.2.2.1,s.2.2.2.2.2.2.2.1,y7.1,())) (some (s.1,s.2.1,s.2.2.1,y8,s.2.2.2.1,s.2.2.2.2.1,s.2.2.2.2.2.1,decide (y8<s.2.1),s.2.2.2.2.2.2.1,s.2.2.2.2.2.2.2.1,y7.1,()))).bind fun z9=> cond z9.2.2.2.2.2.2.2.1 (some (.inl (z9.1,z9.2.2.2.1,true,z9.2.2.2.2.1,z9.2.2.2.2.2.1,wrap .i64 (z9.2.2.2.2.2.2.1+1),z9.2.2.2.2.2.2.2.2.1,z9.2.2.2.2.2.2.2.2.2.2.1,()))) (some (.inl (z9.1,z9.2.1,z9.2.2.1,z9.2.2.2.2.1,z9.2.2.2.2.2.1,wrap .i64 (z9.2.2.2.2.2.2.1+1),z9.2.2.2.2.2.2.2.2.1,z9.2.2.2.2.2.2.2.2.2.1,()))))) (some (.inr (s.2.2.2.2.2.2.1,s.2.2.2.2.2.2.2.1,())))
def a6z(x:((List Int)×Int)):Option Z95:= (show Option ((List Int)×Z99)from cond (decide ((x.1.length:Int)<1)) (some (x.1,x.2,true,(0,0,0,0,0,[],a00 3 0,[],[],(0,[],()),[],()),())) (cond (decide ((x.1.length:Int) > 4096)) (some (x.1,x.2,true,(0,0,0,0,0,[],a00 3 0,[],[],(0,[],()),[],()),())) (cond (decide (x.2<0)) (some (x.1,x.2,true,(0,0,0,0,0,[],a00 3 0,[],[],(0,[],()),[],()),())) (some (x.1,x.2,decide (x.2 > 3),(0,0,0,0,0,[],a00 3 0,[],[],(0,[],()),[],()),()))))).bind fun z1=> cond z1.2.2.1 (some ((0,0,0,0,0,[],a00 3 0,[],[],(0,[],()),[],()),1)) ((a2A z1.1).bind fun y2=> cond (!y2) (some ((0,0,0,0,0,[],a00 3 0,[],[],(0,[],()),[],()),6)) ((a4C z1.1).bind fun y3=> (a8m (z1.1,y3)).bind fun y4=> cond (y4.2 != 0) (some ((0,0,0,0,0,[],a00 3 0,[],[],(0,[],()),[],()),y4.2)) ((a7M (y4.1,z1.2.1)).bind fun y5=> (a0h a8o (z1.1,0,false,y5,(y5.length:Int),0,z1.2.2.2.1,(0,0,0,0,0,[],a00 3 0,[],[],(0,[],()),[],()),())).bind fun w10=> some (w10.2.1,0))))
def c3K:FSem:=⟨[.v QL,.v QI],[.v Q31,.v QI],a6z⟩
def H40:Hints:=⟨[(2042,[.sv 0 QL,.sv 9 QI,.sv 10 .bool,.sv 50 (.list false Q31),.sv 51 QI,.sv 52 QI,.box 4 Q31,.box 8 Q31,.ptr 4 4 [],.ptr 8 8 []],[(.exit 0,[.box 4 Q31,.box 8 Q31,.ptr 4 4 [],.ptr 8 8 []])])],[(6,[(.normal,[.sv 0 QL,.sv 1 QI,.sv 31 .bool,.box 4 Q31,.ptr 4 4 []])]),(1045711,[(.normal,[.sv 0 QL,.sv 9 QI,.sv 10 .bool,.sv 15 QI,.sv 50 (.list false Q31),.sv 51 QI,.sv 52 QI,.sv 76 .bool,.box 4 Q31,.box 8 Q31,.box 13 Q31,.ptr 4 4 [],.ptr 8 8 [],.ptr 13 13 []])])],[]⟩
def a9y(s:(Z14×Z26)):Option ((Z14×Z26) ⊕ (Z2 ⊕ Z13)):= cond (decide (s.2.2.1<s.2.1)) ((a0p s.1 s.2.2.1).bind fun x5=> (a9s (s.2.2.2.1,x5,1)).bind fun y6=> cond (!y6.1) (some (.inr (Sum.inr ((([]:(List (List Int))),6,()))))) (some (.inl (s.1,s.2.1,wrap .i64 (s.2.2.1+1),y6.2,())))) (some (.inr (Sum.inl (s.2.2.2.1,()))))
def b4j(x:((List (List Int))×Z14)):Option ((List (List Int))×Int):= (show Option ((List (List Int))×(Z14×Bool×Unit))from(a8B x.1).bind fun y1=> cond (!y1) (some (x.1,x.2,true,())) ((a9O (x.2,(x.1.length:Int))).bind fun y2=> some (x.1,x.2,!y2,()))).bind fun z3=> cond z3.2.2.1 (some (([]:(List (List Int))),1)) ((a8h z3.1).bind fun y4=> (a0h a9y (z3.2.1,(z3.2.1.length:Int),0,y4,())).bind fun w7=> match w7 with |.inl a8=>some (a8.1,0) |.inr b9=>some (b9.1,b9.2.1))
def c0K:FSem:=⟨[.v (.list false QL),.v (.list false Q8)],[.v (.list false QL),.v QI],b4j⟩
def H79:Hints:=⟨[(122,[.sv 21 (.list false Q8),.sv 22 QI,.sv 23 QI,.own 6 6 (.list true QI)],[(.exit 0,[.own 6 6 (.list true QI)]),(.ret,[.sv 4 (.list false QL),.sv 5 QI])])],[(6,[(.normal,[.sv 0 (.list false QL),.sv 1 (.list false Q8),.sv 18 .bool])])],[]⟩
def a7N(s:(Int×((List Int)×Z40))):Option ((Int×((List Int)×Z40)) ⊕ Z40):= cond (decide (s.2.2.1<(s.2.1.length:Int))) ((a0p s.2.1 s.2.2.1).bind fun x3=> (a0p s.2.1 (wrap .i64 (s.2.2.1-1))).bind fun x4=> (a0p s.2.1 (wrap .i64 (s.2.2.1-2))).bind fun x5=> some (.inl (wrap .i64 (s.1+(a2q (wrap .i64 ((wrap .i64 (x3-(wrap .i64 (2*x4))))+x5)) (wrap .i64 (0-(wrap .i64 ((wrap .i64 (x3-(wrap .i64 (2*x4))))+x5)))))),s.2.1,wrap .i64 (s.2.2.1+1),s.2.2.2.1,s.2.2.2.2.1,s.2.2.2.2.2.1,()))) (some (.inr (s.1,s.2.2.2.1,s.2.2.2.2.1,s.2.2.2.2.2.1,())))
def a7O(s:Z40):Option (Z40 ⊕ (Int×Unit)):= cond (decide (s.2.2.2.1<s.2.2.1)) ((a0p s.2.1 s.2.2.2.1).bind fun x2=> (a0h a7N (s.1,x2,2,s.2.1,s.2.2.1,s.2.2.2.1,())).bind fun w6=> some (.inl (w6.1,w6.2.1,w6.2.2.1,wrap .i64 (w6.2.2.2.1+1),()))) (some (.inr (s.1,())))
def a8p(x:(List (List Int))):Option Int:= (a8B x).bind fun y1=> cond (!y1) (some 0) ((a0h a7O (0,x,(x.length:Int),0,())).bind fun w7=> some w7.1)
def b9D:FSem:=⟨[.v (.list false QL)],[.v QI],a8p⟩
def e1X:Hints:=⟨[(122,[.sv 3 QI,.sv 11 (.list false QL),.sv 12 QI,.sv 13 QI],[(.exit 0,[.sv 3 QI])]),(31334,[.sv 3 QI,.sv 5 QL,.sv 6 QI,.sv 11 (.list false QL),.sv 12 QI,.sv 13 QI],[(.exit 2,[.sv 3 QI,.sv 11 (.list false QL),.sv 12 QI,.sv 13 QI])])],[],[(10,[.v,.v,.v,.v,.v,.v,.v,.v,.v,.v,.v,.v,.v,.v,.v,.v,.x,.x])]⟩
def b2n(x:Int):Option Z14:= cond (x==1) (some ([(0,1,(-256),())]:List Z7)) (cond (x==2) (some ([(1,0,(-256),())]:List Z7)) (cond (x==3) (some ([(1,0,(-256),()),(0,1,128,())]:List Z7)) (cond (x==4) (some ([(1,0,(-106),()),(0,1,181,()),(1,0,(-106),())]:List Z7)) (some []))))
def c0L:FSem:=⟨[.v QI],[.o Q8],b2n⟩
def e1Y:Hints:=⟨[],[],[]⟩
def a7j(s:((List (List Int))×Z7)):Option (((List (List Int))×Z7) ⊕ (Int×Unit)):= cond (decide (s.2.2.2.1<5)) ((b2n s.2.2.2.1).bind fun y2=> (b4j (s.1,y2)).bind fun y3=> cond (y3.2 != 0) (some (.inl (s.1,s.2.1,s.2.2.1,wrap .i64 (s.2.2.2.1+1),()))) ((a8p y3.1).bind fun y4=> cond (decide (y4<s.2.2.1)) (some (.inl (s.1,s.2.2.2.1,y4,wrap .i64 (s.2.2.2.1+1),()))) (some (.inl (s.1,s.2.1,s.2.2.1,wrap .i64 (s.2.2.2.1+1),()))))) (some (.inr (s.2.1,())))
def b3G(x:(List (List Int))):Option Z14:= (a8p x).bind fun y1=> (a0h a7j (x,0,y1,1,())).bind fun w5=> (b2n w5.1).bind fun y6=> some y6
def c1Y:FSem:=⟨[.v (.list false QL)],[.o Q8],b3G⟩
def e1Z:Hints:=⟨[(58,[.sv 0 (.list false QL),.sv 3 QI,.sv 4 QI,.sv 5 QI],[(.exit 0,[.sv 3 QI])])],[],[]⟩
def a7k(s:(Int×Int×Int×Z14×Z81)):Option ((Int×Int×Int×Z14×Z81) ⊕ (Int×Z81)):= cond (decide (s.2.2.1<s.2.1)) (cond ((decide (0≤s.2.2.1))&&(decide (s.2.2.1<(s.2.2.2.2.1.length:Int)))) (cond (lim ((a02 s.2.2.2.1)+1)) (some (.inl (s.1,s.2.1,wrap .i64 (s.2.2.1+1),a04 s.2.2.2.1 ([(wrap .i64 (((a03 s.2.2.2.2.1 (a01 s.2.2.1) (0,0,0,())).1)+s.1),wrap .i64 ((((a03 s.2.2.2.2.1 (a01 s.2.2.1) (0,0,0,())).2).1)+s.1),(((a03 s.2.2.2.2.1 (a01 s.2.2.1) (0,0,0,())).2).2).1,())]:List Z7),s.2.2.2.2.1,s.2.2.2.2.2.1,()))) none) none) (some (.inr (s.1,s.2.2.2.1,s.2.2.2.2.2.1,())))
def b0f(s:(Int×Z81)):Option ((Int×Z81) ⊕ (Z14×Unit)):= cond (decide ((wrap .i64 (s.1+1))<(s.2.2.1.2.1.length:Int))) (cond ((decide (0≤(wrap .i64 (s.1+2))))&&(decide ((wrap .i64 (s.1+2))≤(s.2.2.1.2.1.length:Int)))) (cond ((decide (0≤s.1))&&(decide (s.1≤((a01 (wrap .i64 (s.1+2)):Nat):Int)))) ((b3G (a30 (a01 s.1) (a07 (a01 (wrap .i64 (s.1+2))) s.2.2.1.2.1))).bind fun y2=> (a0h a7k (s.1,(y2.length:Int),0,s.2.1,y2,s.2.2.1,())).bind fun w3=> some (.inl (wrap .i64 (w3.1+2),w3.2.1,w3.2.2.1,()))) none) none) (some (.inr (s.2.1,())))
def a8G(x:Z12):Option Z14:= (a8C x).bind fun y1=> cond (!y1) (some []) ((a0h b0f (0,[],x,())).bind fun w4=> some w4.1)
def c1Z:FSem:=⟨[.v Q10],[.o Q8],a8G⟩
def H78:Hints:=⟨[(122,[.sv 4 QI,.own 3 3 Q8,.vp 1 Q10],[(.exit 0,[.own 3 3 Q8])]),(7826,[.sv 4 QI,.sv 25 QI,.sv 26 QI,.own 3 3 Q8,.own 24 1024 Q8,.vp 1 Q10],[(.exit 2,[.sv 4 QI,.own 3 3 Q8,.vp 1 Q10])])],[],[]⟩
def a6A(s:(Int×((List (List Int))×(Int×d1A)))):Option ((Int×((List (List Int))×(Int×d1A))) ⊕ (d4Q ⊕ (Int×c0u))):= cond (decide (s.2.2.2.1<s.2.2.1)) ((a0p s.2.1 s.2.2.2.1).bind fun x8=> (a6z (x8,s.1)).bind fun y9=> cond (y9.2 != 0) (some (.inr (Sum.inr ((y9.2,(0,0,(0,0,0,()),[],[],()),()))))) (cond (lim ((a02 s.2.2.2.2.2.1.2.2.2.2.1)+1)) (some (.inl (s.1,s.2.1,s.2.2.1,wrap .i64 (s.2.2.2.1+1),s.2.2.2.2.1,(s.2.2.2.2.2.1.1,s.2.2.2.2.2.1.2.1,s.2.2.2.2.2.1.2.2.1,s.2.2.2.2.2.1.2.2.2.1,a04 s.2.2.2.2.2.1.2.2.2.2.1 ([y9.1]:List Z93),s.2.2.2.2.2.1.2.2.2.2.2),()))) none)) (some (.inr (Sum.inl (s.2.2.2.2.1,s.2.2.2.2.2.1,()))))
def a7l(x:(Z12×Z7×Int×Int)):Option (a7C×Int):= (show Option (Int×Int×Bool×a7C×Z12×Z7×Unit)from(a8C x.1).bind fun y1=> cond (!y1) (some (x.2.2.1,x.2.2.2,true,(0,0,(0,0,0,()),[],[],()),x.1,x.2.1,())) ((a8b x.2.1).bind fun y2=> cond (!y2) (some (x.2.2.1,x.2.2.2,true,(0,0,(0,0,0,()),[],[],()),x.1,x.2.1,())) (cond (x.1.1 != x.2.1.2.2.1) (some (x.2.2.1,x.2.2.2,true,(0,0,(0,0,0,()),[],[],()),x.1,x.2.1,())) (cond ((x.1.2.1.length:Int) != x.2.1.2.1) (some (x.2.2.1,x.2.2.2,true,(0,0,(0,0,0,()),[],[],()),x.1,x.2.1,())) (cond (decide (x.2.2.2<0)) (some (x.2.2.1,x.2.2.2,true,(0,0,(0,0,0,()),[],[],()),x.1,x.2.1,())) (cond (decide (x.2.2.2 > 3)) (some (x.2.2.1,x.2.2.2,true,(0,0,(0,0,0,()),[],[],()),x.1,x.2.1,())) (some (x.2.2.1,x.2.2.2,decide (x.2.2.1<0),(0,0,(0,0,0,()),[],[],()),x.1,x.2.1,())))))))).bind fun z3=> cond z3.2.2.1 (some ((0,0,(0,0,0,()),[],[],()),1)) ((a6H z3.2.2.2.2.1).bind fun y4=> cond (decide (z3.1 > (wrap .i64 (4194304-y4)))) (some ((0,0,(0,0,0,()),[],[],()),4)) ((show Option (Int×a7C×a7C×Z28)from cond (decide (z3.2.1 > 0)) ((a8G z3.2.2.2.2.1).bind fun y5=> some (z3.2.1,z3.2.2.2.1,(z3.1,y4,z3.2.2.2.2.2.1,y5,[],()),z3.2.2.2.2.1,())) (some (z3.2.1,z3.2.2.2.1,(z3.1,y4,z3.2.2.2.2.2.1,[],[],()),z3.2.2.2.2.1,()))).bind fun z6=> (b4j (z6.2.2.2.1.2.1,z6.2.2.1.2.2.2.1)).bind fun y7=> cond (y7.2 != 0) (some ((0,0,(0,0,0,()),[],[],()),y7.2)) ((a0h a6A (z6.1,y7.1,(y7.1.length:Int),0,z6.2.1,z6.2.2.1,())).bind fun w10=> match w10 with |.inl a11=>some (a11.2.1,0) |.inr b12=>some (b12.2.1,b12.1))))
def b5V:FSem:=⟨[.v Q10,.v Q8,.v QI,.v QI],[.v Q49,.v QI],a7l⟩
def H30:Hints:=⟨[(2042,[.sv 3 QI,.sv 81 (.list false QL),.sv 82 QI,.sv 83 QI,.box 8 Q49,.box 10 Q48,.ptr 8 8 [],.ptr 10 10 []],[(.exit 0,[.box 8 Q49,.box 10 Q48,.ptr 8 8 [],.ptr 10 10 []]),(.ret,[.sv 9 QI,.box 8 Q49,.ptr 8 8 []])])],[(6,[(.normal,[.sv 2 QI,.sv 3 QI,.sv 51 .bool,.box 8 Q49,.vp 4 Q10,.vp 5 Q8,.ptr 8 8 []])]),(31,[(.normal,[.sv 3 QI,.box 8 Q49,.box 10 Q48,.vp 4 Q10,.ptr 8 8 [],.ptr 10 10 []])])],[(3,[.v,.v,.v,.v,.v,.q,.x])]⟩
def c3L(s:Z6):Option (Z6 ⊕ (Unit ⊕ (Int×Unit))):= cond (decide (s.2.1<(s.1.length:Int))) (cond ((decide (0≤s.2.1))&&(decide (s.2.1≤(s.1.length:Int)))) ((a3D (a30 (a01 s.2.1) (a07 (a02 s.1) s.1))).bind fun y1=> cond (y1.2.2==0) (some (.inr (Sum.inr ((s.2.1,()))))) (some (.inl (s.1,wrap .i64 (s.2.1+1),())))) none) (some (.inr (Sum.inl ())))
end Go.Ab
namespace Go.Ab
open IntKind(wrap)
open Go.Proofs
set_option maxRecDepth 100000
set_option linter.unusedVariables false
def c0M(x:((List Int)×Int)):Option Int:= (a0h c3L (x.1,a2q x.2 0,())).bind fun w2=> match w2 with |.inl a3=>some (-1) |.inr b4=>some b4.1
def c0N:FSem:=⟨[.v (.list false (.int .u8)),.v QI],[.v QI],c0M⟩
def H43:Hints:=⟨[(26,[.sv 0 (.list false (.int .u8)),.sv 5 QI],[(.exit 0,[]),(.ret,[.sv 4 QI])])],[],[]⟩
def b7r(x:Unit):Option Bool:= (a7l ((8,([[3,3],[3,3]]:List (List Int)),()),(8000,2,8,()),5,0)).bind fun y1=> (a5h y1.1).bind fun y2=> (a3D y2.1).bind fun y3=> (a8i y3.1).bind fun y4=> (a9x y2.1).bind fun y5=> cond (y1.2==0) (cond (y2.2==0) (cond (y3.2.2==0) (cond (y4.2==0) (cond (y5.2.2.2==0) (cond (y3.2.1==(y2.1.length:Int)) ((a6s (y1.1,y3.1)).bind fun y6=> cond y6 ((b6B ((8,([[3,3],[3,3]]:List (List Int)),()),y4.1)).bind fun y7=> cond y7 (cond (eqT Q8 y5.1 ((8000: Int),(2: Int),(8: Int),())) (cond (y5.2.1==5) (cond (y5.2.2.1==2) (cond (lim (2+(a02 y2.1))) ((c0M (a04 [1,245] y2.1,0)).bind fun y8=> cond (y8==2) (cond (decide ((y2.1.length:Int) > 2)) ((a0p y2.1 0).bind fun x9=> cond (x9==245) ((a0p y2.1 1).bind fun x10=> some (x10==75)) (some false)) (some false)) (some false)) none) (some false)) (some false)) (some false)) (some false)) (some false)) (some false)) (some false)) (some false)) (some false)) (some false)) (some false)
def c2a:FSem:=⟨[],[.v .bool],b7r⟩
def H15:Hints:=⟨[],[],[]⟩
def c0O(x:((List Int)×(List Int))):Option Bool:= some ((b2s x.1)==(b2s x.2))
def c6c:FSem:=⟨[.v (.list false (.int .u8)),.v (.list false (.int .u8))],[.v .bool],c0O⟩
def H22:Hints:=⟨[],[],[]⟩
def a8q(s:Z56):Option (Z56 ⊕ Z0):= cond (decide (s.2.1<(s.2.2.1.2.1.length:Int))) ((a0p s.2.2.1.2.1 s.2.1).bind fun x1=> cond (decide ((x1.length:Int) > s.1)) (some (.inr (Sum.inr ((false,()))))) (some (.inl (s.1,wrap .i64 (s.2.1+1),s.2.2.1,())))) (some (.inr (Sum.inl ())))
def b4Y(x:(Z12×Int)):Option Bool:= cond (decide ((x.1.2.1.length:Int) > 12)) (some false) ((a0h a8q (x.2,0,x.1,())).bind fun w2=> match w2 with |.inl a3=>some true |.inr b4=>some b4.1)
def c3M:FSem:=⟨[.v Q10,.v QI],[.v .bool],b4Y⟩
def H29:Hints:=⟨[(58,[.sv 1 QI,.sv 5 QI,.vp 2 Q10],[(.exit 0,[]),(.ret,[.sv 4 .bool])])],[],[]⟩
def a7m(s:Z13):Option (Z13 ⊕ Z0):= cond (decide (s.2.1<(s.1.length:Int))) ((a0p s.1 s.2.1).bind fun x2=> (a0p s.1 0).bind fun x3=> cond ((x2.length:Int) != (x3.length:Int)) (some (.inr (Sum.inr ((false,()))))) (some (.inl (s.1,wrap .i64 (s.2.1+1),())))) (some (.inr (Sum.inl ())))
def b3H(x:(List (List Int))):Option Bool:= (show Option ((List (List Int))×(Bool×Unit))from cond (decide ((x.length:Int)<1)) (some (x,true,())) (some (x,decide ((x.length:Int) > 8),()))).bind fun z1=> cond z1.2.1 (some false) ((a0h a7m (z1.1,0,())).bind fun w4=> match w4 with |.inl a5=>some true |.inr b6=>some b6.1)
def c2b:FSem:=⟨[.v (.list false QL)],[.v .bool],b3H⟩
def H84:Hints:=⟨[(58,[.sv 0 (.list false QL),.sv 3 QI],[(.exit 0,[]),(.ret,[.sv 2 .bool])])],[(6,[(.normal,[.sv 0 (.list false QL),.sv 11 .bool])])],[(6,[.v,.v,.v,.v,.v,.v,.v,.v,.v,.x])]⟩
def c2I(x:Int):Option Int:= (show Option (Int×Bool×Unit)from cond (decide (x<1)) (some (x,true,())) (some (x,decide (x > 31),()))).bind fun z1=> cond z1.2.1 (some 0) (cond (decide ((wrap .u64 (wrap .i64 (z1.1-1)))<0)) none (some (a0z .i64 (-1) (wrap .u64 (wrap .i64 (z1.1-1))))))
def c8j:FSem:=⟨[.v QI],[.v QI],c2I⟩
def e2a:Hints:=⟨[],[(6,[(.normal,[.sv 0 QI,.sv 8 .bool])])],[]⟩
def c0P(x:Int):Option Int:= (show Option (Int×Bool×Unit)from cond (decide (x<1)) (some (x,true,())) (some (x,decide (x > 31),()))).bind fun z1=> cond z1.2.1 (some 0) (cond (decide ((wrap .u64 (wrap .i64 (z1.1-1)))<0)) none (some (wrap .i64 ((a0z .i64 1 (wrap .u64 (wrap .i64 (z1.1-1))))-1))))
def c6d:FSem:=⟨[.v QI],[.v QI],c0P⟩
def e2b:Hints:=⟨[],[(6,[(.normal,[.sv 0 QI,.sv 8 .bool])])],[]⟩
def b4k(x:(Int×Int)):Option Bool:= cond (decide (x.2≥1)) (cond (decide (x.2≤31)) ((c2I x.2).bind fun y1=> cond (decide (x.1≥y1)) ((c0P x.2).bind fun y2=> some (decide (x.1≤y2))) (some false)) (some false)) (some false)
def c6e:FSem:=⟨[.v QI,.v QI],[.v .bool],b4k⟩
def H85:Hints:=⟨[],[],[]⟩
def a3N(s:Z56):Option (Z56 ⊕ (Z46 ⊕ (Bool×Unit))):= (a0p s.2.2.1.2.1 s.1).bind fun x5=> cond (decide (s.2.1<(x5.length:Int))) ((a0p s.2.2.1.2.1 s.1).bind fun x6=> (a0p x6 s.2.1).bind fun x7=> (b4k (x7,s.2.2.1.1)).bind fun y8=> cond (!y8) (some (.inr (Sum.inr ((false,()))))) (some (.inl (s.1,wrap .i64 (s.2.1+1),s.2.2.1,())))) (some (.inr (Sum.inl (s.1,s.2.2.1,()))))
def a4S(s:Z46):Option (Z46 ⊕ Z0):= cond (decide (s.1<(s.2.1.2.1.length:Int))) ((a0h a3N (s.1,0,s.2.1,())).bind fun w9=> match w9 with |.inl a10=>some (.inl (wrap .i64 (a10.1+1),a10.2.1,())) |.inr b11=>some (.inr (Sum.inr ((b11.1,()))))) (some (.inr (Sum.inl ())))
def a7n(x:Z12):Option Bool:= (show Option Z48 from cond (decide (x.1<4)) (some (true,x,())) (cond (decide (x.1 > 24)) (some (true,x,())) ((b3H x.2.1).bind fun y1=> cond (!y1) (some (true,x,())) ((a0p x.2.1 0).bind fun x2=> cond (decide ((x2.length:Int)<1)) (some (true,x,())) ((a0p x.2.1 0).bind fun x3=> some (decide ((x3.length:Int) > 4096),x,())))))).bind fun z4=> cond z4.1 (some false) ((a0h a4S (0,z4.2.1,())).bind fun w12=> match w12 with |.inl a13=>some true |.inr b14=>some b14.1)
def b7Y:FSem:=⟨[.v Q10],[.v .bool],a7n⟩
def H32:Hints:=⟨[(58,[.sv 3 QI,.vp 1 Q10],[(.exit 0,[]),(.ret,[.sv 2 .bool])]),(3730,[.sv 3 QI,.sv 4 QI,.vp 1 Q10],[(.exit 2,[.sv 3 QI,.vp 1 Q10]),(.ret,[.sv 2 .bool])])],[(6,[(.normal,[.sv 34 .bool,.vp 1 Q10])])],[(9,[.v,.v,.v,.v,.v,.v,.v,.v,.v,.v,.x,.x])]⟩
def a9z(x:((List Int)×Int)):Option ((List Int)×Int):= cond (decide (x.2<0)) (some ([],1)) ((a3D x.1).bind fun y1=> cond (y1.2.2 != 0) (some ([],y1.2.2)) (cond (decide (y1.2.1<(x.1.length:Int))) (some ([],2)) (cond (decide (x.2 > (wrap .i64 (4194304-y1.1.2.1)))) (some ([],4)) ((a5h (x.2,y1.1.2)).bind fun y2=> some (y2.1,y2.2)))))
def c0Q:FSem:=⟨[.v (.list false (.int .u8)),.v QI],[.o (.int .u8),.v QI],a9z⟩
def H38:Hints:=⟨[],[],[]⟩
def b1n(x:(Z12×Int×Int×Int)):Option Bool:= (b7r ()).bind fun y1=> cond (!y1) (some false) ((show Option (Int×Int×Int×Z48)from(b4Y (x.1,60)).bind fun y2=> cond (!y2) (some (x.2.1,x.2.2.1,x.2.2.2,true,x.1,())) ((a7n x.1).bind fun y3=> some (x.2.1,x.2.2.1,x.2.2.2,!y3,x.1,()))).bind fun z4=> cond z4.2.2.2.1 (some true) ((a7l (z4.2.2.2.2.1,(96000,(z4.2.2.2.2.1.2.1.length:Int),z4.2.2.2.2.1.1,()),bits .i64 .and z4.2.1 1048575,bits .i64 .and z4.1 3)).bind fun y5=> (a5h y5.1).bind fun y6=> (a9z (y6.1,bits .i64 .and z4.2.2.1 1048575)).bind fun y7=> (a9z (y7.1,bits .i64 .and z4.2.1 1048575)).bind fun y8=> (a3D y7.1).bind fun y9=> cond (y5.2==0) (cond (y6.2==0) (cond (y7.2==0) (cond (y8.2==0) (cond (y9.2.2==0) ((a6s ((bits .i64 .and z4.2.2.1 1048575,y5.1.2),y9.1)).bind fun y10=> cond y10 ((c0O (y6.1,y8.1)).bind fun y11=> some y11) (some false)) (some false)) (some false)) (some false)) (some false)) (some false)))
def b5W:FSem:=⟨[.v Q10,.v QI,.v QI,.v QI],[.v .bool],b1n⟩
def H13:Hints:=⟨[],[(14,[(.normal,[.sv 1 QI,.sv 2 QI,.sv 3 QI,.sv 29 .bool,.vp 4 Q10])])],[]⟩
end Go.Ab
namespace Go.Ab
open Go.Proofs
set_option maxRecDepth 100000
theorem b6F:Tryz.prog.follows .mixedOrders=true:=by kernel_rfl
theorem e2c:d5N Tryz.prog c7n=true:=by kernel_rfl
theorem e2d:d5O Tryz.prog c8g=true:=by kernel_rfl
theorem e2e:d5P Tryz.prog c7n d1B=true:=by kernel_rfl
theorem laidOut:laidOutB Tryz.prog=true:=by kernel_rfl
@[reducible] def Ok0(n:Nat)(s:FSem):Prop:=a3x Tryz.prog G0 n s∧b1L Tryz.prog n
theorem cxo{a:List (Nat×FSem)}{b:List (Nat×Ty)}{c d:List Nat}(h:∀p∈a,Ok0 p.1 p.2):CxOk Tryz.prog (c0v a b c d):=
 CxOk.of (CxTy.of (tab:=c7n) (l:=d1B) (q:=c8g) (fun _=>rfl) (fun _=>rfl) (fun _=>rfl) e2c e2d e2e) (fun _=>rfl) h
theorem fo (a : List (Nat × FSem)) (b : List (Nat × Ty)) (c d : List Nat) (H : Hints) {n : Nat} {fn : Func} {e : Code} {s : FSem} (h : ∀ p ∈ a, Ok0 p.1 p.2) (hf : Tryz.prog.funcs[n]? = some fn) (hb : fn.body = some e := by rfl) (hk : d4I fn e H s = true := by kernel_rfl) (hn : (fn.name == "runtime.NumGoroutine") = false := by kernel_rfl) (hq : ∀ x, b9T (c0v a b c d) H fn s.ps s.rs x = s.F x := by intro x; kernel_rfl) : Ok0 n s :=
 ⟨a3x.of (cxo h) b6F hf hb hk hq,⟨_,_,hf,hb,hn⟩⟩
theorem d5T:Ok0 109 b4t:=
 fo [] [] [0,2] [] d9P a0 Tryz.func109
theorem d7E:Ok0 77 b4u:=
 fo [(109,b4t)] [] [0,2] [1] H77 (a1 d5T a0) Tryz.func77
theorem d1D:Ok0 102 b4P:=
 fo [] [] [0,1,4] [] d9Q a0 Tryz.func102
theorem d7F:Ok0 44 b4v:=
 fo [(77,b4u),(102,b4P)] [] [0,2] [1] H44 (a1 d7E (a1 d1D a0)) Tryz.func44
theorem d4S:Ok0 90 b0O:=
 fo [] [] [0,2,4] [] H90 a0 Tryz.func90
theorem d1E:Ok0 126 b1S:=
 fo [] [] [0,2] [] d9R a0 Tryz.func126
theorem d1F:Ok0 217 b1T:=
 fo [] [] [0,1,4,6] [] d9S a0 Tryz.func217
theorem d1G:Ok0 218 b4Q:=
 fo [] [] [0,1,4,6] [3] d9T a0 Tryz.func218
theorem d5U:Ok0 281 b4w:=
 fo [] [] [0,2] [1] d9U a0 Tryz.func281
theorem d1H:Ok0 219 b3k:=
 fo [(281,b4w)] [] [0,2] [] d9V (a1 d5U a0) Tryz.func219
theorem d1I:Ok0 149 b6x:=
 fo [(217,b1T),(218,b4Q),(219,b3k)] [] [0,1,2,6,8,11,27,41,62] [4] d9W (a1 d1F (a1 d1G (a1 d1H a0))) Tryz.func149
theorem d1J:Ok0 150 b1U:=
 fo [] [] [0,1,4,7,9,12,16] [2] d9X a0 Tryz.func150
theorem c8k:Ok0 87 a0Z:=
 ⟨a3x.of (cx:=d7z) (cxo a0) b6F Tryz.func87 rfl (by kernel_rfl) d9Y,⟨_,_,Tryz.func87,rfl,by kernel_rfl⟩⟩
theorem d8o:Ok0 87 a2g:=
 ⟨a3x.of (cx:=d5R) (cxo a0) b6F Tryz.func87 rfl (by kernel_rfl) d8k,⟨_,_,Tryz.func87,rfl,by kernel_rfl⟩⟩
theorem d7G:Ok0 229 a1h:=
 ⟨a3x.of (cx:=d3v) (cxo a0) b6F Tryz.func229 rfl (by kernel_rfl) d7A,⟨_,_,Tryz.func229,rfl,by kernel_rfl⟩⟩
theorem d5V:Ok0 169 b5J:=
 fo [(87,a2g),(229,a1h)] [] [0,1,9,11,13,15] [3] e0a (a1 d8o (a1 d7G a0)) Tryz.func169
theorem d8p:Ok0 188 c1G:=
 fo [(169,b5J)] [] [0,2] [1] e0b (a1 d5V a0) Tryz.func188
theorem d1K:Ok0 220 b3m:=
 fo [] [] [0,1,4] [] e0c a0 Tryz.func220
theorem c3N:Ok0 209 a5X:=
 fo [(220,b3m)] [] [0,1,2,6,7,8] [] e0d (a1 d1K a0) Tryz.func209
theorem d5W:Ok0 189 b7k:=
 fo [(209,a5X)] [] [0,1,2,6,7,9] [3] e0e (a1 c3N a0) Tryz.func189
theorem d8q:Ok0 103 c0w:=
 fo [(90,b0O),(126,b1S),(149,b6x),(150,b1U),(188,c1G),(189,b7k)] [] [0,1,4,5] [2] e0f (a1 d4S (a1 d1E (a1 d1I (a1 d1J (a1 d8p (a1 d5W a0)))))) Tryz.func103
theorem d5X:Ok0 251 b5K:=
 fo [] [] [0,2,4] [] e0g a0 Tryz.func251
theorem d8r:Ok0 294 b6z:=
 fo [] [] [0,1,3] [] e0h a0 Tryz.func294
theorem d8s:Ok0 252 b9t:=
 fo [(294,b6z)] [] [0,1,4,5,8,12,20,32] [] e0i (a1 d8r a0) Tryz.func252
theorem d8t:Ok0 190 c0x:=
 fo [(251,b5K),(252,b9t)] [] [0,1,2,6,7,8,10,11] [] e0j (a1 d5X (a1 d8s a0)) Tryz.func190
theorem d1L:Ok0 255 b0Q:=
 fo [] [] [0,2] [] e0k a0 Tryz.func255
theorem d1M:Ok0 253 a7E:=
 fo [(255,b0Q)] [] [0,2,4] [] e0l (a1 d1L a0) Tryz.func253
theorem d5Y:Ok0 254 b1m:=
 fo [] [] [0,1,2,6,7,8,9,10] [] e0m a0 Tryz.func254
theorem d8u:Ok0 191 b9u:=
 fo [(217,b1T),(253,a7E),(254,b1m),(255,b0Q)] [] [0,1,2,3,8,9,10,12,13] [] e0n (a1 d1F (a1 d1M (a1 d5Y (a1 d1L a0)))) Tryz.func191
theorem d1N:Ok0 258 b3n:=
 fo [] [] [0,2] [] e0o a0 Tryz.func258
theorem d1O:Ok0 256 a9Q:=
 fo [(258,b3n)] [] [0,2,4] [] e0p (a1 d1N a0) Tryz.func256
theorem d5Z:Ok0 257 b2O:=
 fo [] [] [0,1,2,3,8,9,10,11,12] [7] e0q a0 Tryz.func257
theorem d8v:Ok0 192 c1H:=
 fo [(218,b4Q),(256,a9Q),(257,b2O),(258,b3n)] [] [0,1,2,6,7,8,9,10,11] [5] e0r (a1 d1G (a1 d1O (a1 d5Z (a1 d1N a0)))) Tryz.func192
theorem d1P:Ok0 263 b1X:=
 fo [] [] [0,2] [] e0s a0 Tryz.func263
theorem d6a:Ok0 259 b1Y:=
 fo [(263,b1X)] [] [0,2,4] [] e0t (a1 d1P a0) Tryz.func259
theorem d6b:Ok0 261 b7l:=
 fo [(281,b4w)] [(15,.pair QI Q9),(16,.pair QI Q9)] [0,2,3] [1] e0u (a1 d5U a0) Tryz.func261
theorem d6c:Ok0 296 b1Z:=
 fo [] [] [0,2] [] e0v a0 Tryz.func296
theorem d1Q:Ok0 262 a4W:=
 fo [(296,b1Z)] [] [0,2,3,4,5] [] e0w (a1 d6c a0) Tryz.func262
theorem d6d:Ok0 264 a8M:=
 fo [(262,a4W),(296,b1Z)] [] [0,1,4,5,6,7,8,13,22] [] e0x (a1 d1Q (a1 d6c a0)) Tryz.func264
theorem d8w:Ok0 193 a9r:=
 ⟨a3x.ofR (cx:=d5S) (cxo (a1 c8k (a1 d1H (a1 d6a (a1 d6b (a1 d1Q (a1 d1P (a1 d6d a0)))))))) b6F (r:=d7B) ⟨d6J,d6K⟩ Tryz.func193 rfl (by kernel_rfl) d8m,⟨_,_,Tryz.func193,rfl,by kernel_rfl⟩⟩
theorem d6e:Ok0 173 b4x:=
 fo [] [] [0,2] [] e0z a0 Tryz.func173
theorem d8x:Ok0 194 c1I:=
 fo [(173,b4x)] [] [0,1,4,5,6,8] [] e0A (a1 d6e a0) Tryz.func194
theorem d8y:Ok0 104 c3D:=
 fo [(190,c0x),(191,b9u),(192,c1H),(193,a9r),(194,c1I)] [] [0,1,4,5,6,7,10,24,28,40,54,79] [2] e0B (a1 d8t (a1 d8u (a1 d8v (a1 d8w (a1 d8x a0))))) Tryz.func104
theorem d7H:Ok0 45 c0y:=
 fo [(103,c0w),(104,c3D)] [] [0,1,4,5,6,7] [2] H45 (a1 d8q (a1 d8y a0)) Tryz.func45
theorem d6f:Ok0 195 b7m:=
 fo [] [] [0,2] [] e0C a0 Tryz.func195
theorem d1R:Ok0 105 b3p:=
 fo [(195,b7m)] [] [0,2,4,6] [] e0D (a1 d6f a0) Tryz.func105
theorem d6g:Ok0 106 b4y:=
 fo [(87,a0Z)] [(15,.list true (.list true QI))] [0,2,3,5] [] e0E (a1 c8k a0) Tryz.func106
theorem d6h:Ok0 108 b5L:=
 fo [(195,b7m)] [] [0,1,2,6,7,8,9] [4] e0F (a1 d6f a0) Tryz.func108
theorem e2f:Ok0 46 b0A:=
 ⟨a3x.ofR (cx:=d7C) (cxo (a1 d1D (a1 d1R (a1 d6g (a1 d6h a0))))) b6F (r:=R46) ⟨d6L,d6M⟩ Tryz.func46 rfl (by kernel_rfl) e0G,⟨_,_,Tryz.func46,rfl,by kernel_rfl⟩⟩
theorem d7I:Ok0 35 b7n:=
 fo [] [] [0,2] [1] H35 a0 Tryz.func35
theorem d8z:Ok0 197 c0z:=
 fo [] [] [0,2] [] e0H a0 Tryz.func197
theorem d8A:Ok0 198 b9v:=
 fo [] [] [0,2] [] e0I a0 Tryz.func198
theorem d1S:Ok0 110 b0R:=
 fo [(197,c0z),(198,b9v)] [] [0,1,4] [] e0J (a1 d8z (a1 d8A a0)) Tryz.func110
theorem d4T:Ok0 47 b3r:=
 fo [(35,b7n),(109,b4t),(110,b0R)] [] [0,2,4,6] [1] H47 (a1 d7I (a1 d5T (a1 d1S a0))) Tryz.func47
theorem d7J:Ok0 17 b4A:=
 fo [(44,b4v),(45,c0y),(46,b0A),(47,b3r)] [] [0,3,4,7,8,9,10] [1] H17 (a1 d7F (a1 d7H (a1 e2f (a1 d4T a0)))) Tryz.func17
theorem d7K:Ok0 21 b7o:=
 fo [(17,b4A)] [] [0,2,4] [1] H21 (a1 d7J a0) Tryz.func21
theorem d6i:Ok0 121 c0A:=
 fo [(45,c0y)] [] [0,1,4,5,6] [2] e0K (a1 d7H a0) Tryz.func121
theorem b8M:Ok0 122 a3n:=
 fo [(110,b0R)] [] [0,2,3,5] [] e0L (a1 d1S a0) Tryz.func122
theorem d1T:Ok0 128 a6Q:=
 fo [] [] [0,1] [] e0M a0 Tryz.func128
theorem c3O:Ok0 123 a3M:=
 fo [(128,a6Q)] [] [0,1,2,6,7] [] e0N (a1 d1T a0) Tryz.func123
theorem d6j:Ok0 124 b2b:=
 fo [(123,a3M)] [] [0,1,2] [] e0O (a1 c3O a0) Tryz.func124
theorem d8B:Ok0 125 b7P:=
 fo [(122,a3n),(123,a3M),(124,b2b)] [] [0,1,4,6] [3] e0P (a1 b8M (a1 c3O (a1 d6j a0))) Tryz.func125
theorem d6k:Ok0 234 b4B:=
 fo [(220,b3m)] [] [0,1,2,6,8] [] e0Q (a1 d1K a0) Tryz.func234
theorem d6l:Ok0 272 b7p:=
 fo [(122,a3n)] [] [0,2] [] e0R (a1 b8M a0) Tryz.func272
theorem d1U:Ok0 274 a7H:=
 fo [] [] [0,2] [] e0S a0 Tryz.func274
theorem d1V:Ok0 275 b3s:=
 fo [] [] [0,2] [] e0T a0 Tryz.func275
theorem d6m:Ok0 276 b7q:=
 fo [(275,b3s)] [] [0,2,3,7] [] e0U (a1 d1V a0) Tryz.func276
theorem d8C:Ok0 299 c1J:=
 fo [(274,a7H),(275,b3s),(276,b7q)] [] [0,1,4,5] [] e0V (a1 d1U (a1 d1V (a1 d6m a0))) Tryz.func299
theorem d1W:Ok0 273 b4S:=
 fo [(299,c1J)] [] [0,1,4,5,7] [] e0W (a1 d8C a0) Tryz.func273
theorem d6n:Ok0 208 b5O:=
 fo [(189,b7k),(209,a5X),(234,b4B),(272,b7p),(273,b4S)] [] [0,1,2,3,8,9,10,11,12] [4] e0X (a1 d5W (a1 c3N (a1 d6k (a1 d6l (a1 d1W a0))))) Tryz.func208
theorem d8D:Ok0 277 b2z:=
 fo [(128,a6Q)] [] [0,1,4] [] e0Y (a1 d1T a0) Tryz.func277
theorem d8E:Ok0 210 c3E:=
 fo [(123,a3M),(274,a7H),(275,b3s),(276,b7q),(277,b2z)] [] [0,1,2,6,8,10,11,12] [] e0Z (a1 c3O (a1 d1U (a1 d1V (a1 d6m (a1 d8D a0))))) Tryz.func210
theorem d8F:Ok0 127 c1K:=
 fo [(122,a3n),(123,a3M),(208,b5O),(209,a5X),(210,c3E)] [] [0,1,2,3,4,10,11,12,13,14,16] [6] e1a (a1 b8M (a1 c3O (a1 d6n (a1 c3N (a1 d8E a0))))) Tryz.func127
theorem d7L:Ok0 51 c0B:=
 fo [(121,c0A),(122,a3n),(123,a3M),(124,b2b),(125,b7P),(126,b1S),(127,c1K)] [] [0,1,2,6,7,9,13,37,39,41,43] [4] H51 (a1 d6i (a1 b8M (a1 c3O (a1 d6j (a1 d8B (a1 d1E (a1 d8F a0))))))) Tryz.func51
theorem e2g:Ok0 52 b2A:=
 fo [(128,a6Q)] [] [0] [] H52 (a1 d1T a0) Tryz.func52
theorem e2h:Ok0 53 b2B:=
 fo [] [] [0,2] [] H53 a0 Tryz.func53
theorem d8G:Ok0 129 c1L:=
 fo [] [] [0,2] [] e1b a0 Tryz.func129
theorem d8H:Ok0 130 c1M:=
 fo [] [] [0,2,3,5] [] e1c a0 Tryz.func130
theorem d6o:Ok0 131 b5P:=
 fo [] [] [0,2,3,5,6] [] e1d a0 Tryz.func131
theorem e2i:Ok0 54 b6A:=
 fo [(129,c1L),(130,c1M),(131,b5P)] [] [0,1,4,5,8] [2] H54 (a1 d8G (a1 d8H (a1 d6o a0))) Tryz.func54
theorem d8I:Ok0 211 b9w:=
 fo [] [] [0,2] [] e1e a0 Tryz.func211
theorem d8J:Ok0 132 b9x:=
 fo [(211,b9w)] [] [0,1,4,5] [] e1f (a1 d8I a0) Tryz.func132
theorem d8K:Ok0 133 a6O:=⟨d4M _,⟨_,_,Tryz.func133,rfl,by kernel_rfl⟩⟩
theorem e2j:Ok0 55 c1N:=
 fo [(132,b9x),(133,a6O)] [] [0,1,4,5] [] H55 (a1 d8J (a1 d8K a0)) Tryz.func55
theorem d7M:Ok0 56 b2P:=
 fo [] [] [0,2,3,5,6] [] H56 a0 Tryz.func56
theorem d4U:Ok0 19 b3x:=
 fo [(21,b7o),(51,c0B),(52,b2A),(53,b2B),(54,b6A),(55,c1N),(56,b2P)] [(4,.pair (.list true (.int .u8)) Q0)] [0,2,3,7,8,9] [1] H19 (a1 d7K (a1 d7L (a1 e2g (a1 e2h (a1 e2i (a1 e2j (a1 d7M a0))))))) Tryz.func19
theorem d4V:Ok0 88 b0U:=
 fo [] [] [0,1,4,5] [] H88 a0 Tryz.func88
theorem e2k:Ok0 64 b7R:=
 fo [(88,b0U)] [] [0,1,4,5] [] H64 (a1 d4V a0) Tryz.func64
theorem e2l:Ok0 23 b6C:=
 fo [(64,b7R)] [] [0,1,4] [2,3] H23 (a1 e2k a0) Tryz.func23
theorem d8L:Ok0 142 c1O:=
 fo [] [] [0,2] [] e1g a0 Tryz.func142
theorem d8M:Ok0 214 b7S:=
 fo [] [] [0,2,3,4,5,6,7] [] e1h a0 Tryz.func214
theorem d8N:Ok0 143 b4f:=
 fo [(214,b7S)] [] [0,1,4,5,6,7] [] e1i (a1 d8M a0) Tryz.func143
theorem d8O:Ok0 144 c1P:=
 fo [] [] [0,2,3] [] e1j a0 Tryz.func144
theorem d8P:Ok0 145 b4g:=
 fo [] [] [0,2] [] e1k a0 Tryz.func145
theorem d8Q:Ok0 146 b2C:=
 fo [] [] [0,2] [] e1l a0 Tryz.func146
theorem d8R:Ok0 147 b4F:=
 fo [] [] [0,2] [] e1m a0 Tryz.func147
theorem d7N:Ok0 65 b2g:=
 fo [(44,b4v),(131,b5P),(142,c1O),(143,b4f),(144,c1P),(145,b4g),(146,b2C),(147,b4F)] [(2,.pair QI Q44),(15,.pair QI Q43),(26,.pair QI Q43),(83,.pair QI Q43),(88,.pair QI Q43),(101,.pair QI Q43),(105,.pair QI Q43)] [0,3,4,5,6,7,8,9,10,11] [] H65 (a1 d7F (a1 d6o (a1 d8L (a1 d8N (a1 d8O (a1 d8P (a1 d8Q (a1 d8R a0)))))))) Tryz.func65
theorem e2m:Ok0 66 c3F:=
 fo [] [] [0,2] [] H66 a0 Tryz.func66
theorem c5g:Ok0 70 a2K:=
 fo [] [] [0,2] [] H70 a0 Tryz.func70
theorem d7O:Ok0 68 a9v:=
 fo [] [] [0,2] [] H68 a0 Tryz.func68
theorem d1X:Ok0 153 a6p:=
 fo [] [] [0,1,4] [] e1n a0 Tryz.func153
theorem c1n:Ok0 215 a2L:=
 fo [(68,a9v),(153,a6p)] [] [0,1,4,5] [] e1o (a1 d7O (a1 d1X a0)) Tryz.func215
theorem c7o:Ok0 151 a3C:=
 fo [(215,a2L)] [] [0,1,4,5] [] e1p (a1 c1n a0) Tryz.func151
theorem d8S:Ok0 216 b7T:=
 fo [(122,a3n),(151,a3C),(215,a2L)] [] [0,1,4,5,6] [] e1q (a1 b8M (a1 c7o (a1 c1n a0))) Tryz.func216
theorem d8T:Ok0 148 b9y:=
 fo [(151,a3C),(215,a2L),(216,b7T)] [(2,.pair QI Q28)] [0,3,4,5,6,7,21,23,25,27] [] e1r (a1 c7o (a1 c1n (a1 d8S a0))) Tryz.func148
theorem d8U:Ok0 307 b2D:=
 fo [(153,a6p)] [] [0,1,4,5,6] [] e1s (a1 d1X a0) Tryz.func307
theorem d8V:Ok0 308 b9z:=
 fo [] [] [0,2,3,6] [] e1t a0 Tryz.func308
theorem d8W:Ok0 300 c3G:=
 fo [(70,a2K),(215,a2L),(307,b2D),(308,b9z)] [] [0,1,4,5,6,7,8] [] e1u (a1 c5g (a1 c1n (a1 d8U (a1 d8V a0)))) Tryz.func300
theorem d8X:Ok0 282 c3H:=
 fo [(70,a2K),(274,a7H),(300,c3G)] [] [0,1,2,6,7,8,9,10] [] e1v (a1 c5g (a1 d1U (a1 d8W a0))) Tryz.func282
theorem d8Y:Ok0 221 c1Q:=
 fo [(70,a2K),(122,a3n),(151,a3C),(215,a2L),(282,c3H)] [] [0,1,4,5,6,7,8,9,10,11] [] e1w (a1 c5g (a1 b8M (a1 c7o (a1 c1n (a1 d8X a0))))) Tryz.func221
theorem d8Z:Ok0 152 c1R:=
 fo [(70,a2K),(209,a5X),(215,a2L),(220,b3m),(221,c1Q)] [(11,.pair QI Q1),(41,.pair QI Q1)] [0,1,2,7,8,9,10,12,14,15,16,17] [] e1x (a1 c5g (a1 c3N (a1 c1n (a1 d1K (a1 d8Y a0))))) Tryz.func152
theorem e2n:Ok0 67 c6b:=
 fo [(70,a2K),(121,c0A),(122,a3n),(126,b1S),(148,b9y),(149,b6x),(150,b1U),(151,a3C),(152,c1R)] [(7,.pair QI (.pair QI (.pair QI (.pair QI (.pair QI (.pair QL (.pair (.arr 3 QI) (.pair (.list false Q3) Q14))))))))] [0,1,5,6,8,9,10,11,12] [] H67 (a1 c5g (a1 d6i (a1 b8M (a1 d1E (a1 d8T (a1 d1I (a1 d1J (a1 c7o (a1 d8Z a0))))))))) Tryz.func67
theorem e2o:Ok0 69 b2E:=
 fo [(153,a6p)] [] [0,2,3] [] H69 (a1 d1X a0) Tryz.func69
theorem d1Y:Ok0 24 a9w:=
 fo [(21,b7o),(56,b2P),(65,b2g),(66,c3F),(67,c6b),(68,a9v),(69,b2E),(70,a2K)] [(5,.pair QI Q45)] [0,3,4,6,7,8,9,10,12] [] H24 (a1 d7K (a1 d7M (a1 d7N (a1 e2m (a1 e2n (a1 d7O (a1 e2o (a1 c5g a0)))))))) Tryz.func24
theorem e2p:Ok0 26 c0C:=
 fo [(65,b2g)] [] [0,3,4,5,7,8,9] [] H26 (a1 d7N a0) Tryz.func26
theorem d9a:Ok0 100 b5Q:=
 fo [] [] [0,1,4,5] [] e1y a0 Tryz.func100
theorem d9b:Ok0 101 b7U:=
 fo [(88,b0U)] [] [0,1,4] [2,3] e1z (a1 d4V a0) Tryz.func101
theorem e2q:Ok0 42 b9A:=
 fo [(88,b0U),(100,b5Q),(101,b7U)] [] [0,1,4] [2,3] H42 (a1 d4V (a1 d9a (a1 d9b a0))) Tryz.func42
theorem e2r:Ok0 76 b6D:=
 fo [] [] [0,1,4,5] [] H76 a0 Tryz.func76
theorem d7P:Ok0 28 b2i:=
 fo [(42,b9A),(76,b6D)] [] [0,1,4,5] [2,3] H28 (a1 e2q (a1 e2r a0)) Tryz.func28
theorem d7Q:Ok0 91 b4D:=
 fo [(173,b4x)] [] [0,1,4,5,6,8] [] H91 (a1 d6e a0) Tryz.func91
theorem d9c:Ok0 174 a1k:=
 ⟨a3x.of (cx:=b2j) (cxo a0) b6F Tryz.func174 rfl (by kernel_rfl) d8n,⟨_,_,Tryz.func174,rfl,by kernel_rfl⟩⟩
theorem d7R:Ok0 92 b2k:=
 fo [(174,a1k)] [] [0,2,3,5] [] H92 (a1 d9c a0) Tryz.func92
theorem d6p:Ok0 230 b5S:=
 fo [(251,b5K)] [] [0,1,4,5,6,7] [] e1A (a1 d5X a0) Tryz.func230
theorem d9d:Ok0 231 b9B:=
 fo [(217,b1T),(253,a7E),(254,b1m),(255,b0Q)] [] [0,1,2,6,7,8,9,10] [] e1B (a1 d1F (a1 d1M (a1 d5Y (a1 d1L a0)))) Tryz.func231
theorem d1Z:Ok0 232 b3C:=
 fo [(218,b4Q),(256,a9Q),(257,b2O),(258,b3n)] [] [0,1,2,6,7,8,9,10,11] [5] e1C (a1 d1G (a1 d1O (a1 d5Z (a1 d1N a0)))) Tryz.func232
theorem d9e:Ok0 233 c0E:=
 fo [(87,a0Z),(219,b3k),(259,b1Y),(261,b7l),(262,a4W),(263,b1X),(264,a8M)] [] [0,1,4,5,6,9,10,11,12,13] [] e1D (a1 c8k (a1 d1H (a1 d6a (a1 d6b (a1 d1Q (a1 d1P (a1 d6d a0))))))) Tryz.func233
theorem d9f:Ok0 170 c1T:=
 fo [(87,a0Z),(150,b1U),(230,b5S),(231,b9B),(232,b3C),(233,c0E)] [] [0,1,4,5,6,11,22,37,67] [] e1E (a1 c8k (a1 d1J (a1 d6p (a1 d9d (a1 d1Z (a1 d9e a0)))))) Tryz.func170
theorem d9g:Ok0 284 c1U:=
 fo [(273,b4S)] [] [0,2,3,4,5,6] [] e1F (a1 d1W a0) Tryz.func284
theorem d9h:Ok0 235 b7V:=
 fo [(272,b7p),(273,b4S),(284,c1U)] [] [0,2,3] [] e1G (a1 d6l (a1 d1W (a1 d9g a0))) Tryz.func235
theorem d9i:Ok0 171 c0F:=
 fo [(208,b5O),(209,a5X),(234,b4B),(235,b7V)] [(14,.pair QI Q1),(40,.pair QI Q1)] [0,1,2,3,9,11,12,13,15,17,18] [] e1H (a1 d6n (a1 c3N (a1 d6k (a1 d9h a0)))) Tryz.func171
theorem e2s:Ok0 86 c3I:=
 fo [(90,b0O),(91,b4D),(92,b2k),(149,b6x),(169,b5J),(170,c1T),(171,c0F)] [] [0,1,2,7,8,11,12,13] [5] H86 (a1 d4S (a1 d7Q (a1 d7R (a1 d1I (a1 d5V (a1 d9f (a1 d9i a0))))))) Tryz.func86
theorem d9j:Ok0 172 b4G:=
 fo [] [] [0,2] [] e1I a0 Tryz.func172
theorem e2t:Ok0 89 c3J:=
 fo [(51,c0B),(172,b4G)] [(5,.pair (.list true (.int .u8)) Q0)] [0,1,4] [2] H89 (a1 d7L (a1 d9j a0)) Tryz.func89
theorem d9k:Ok0 236 b9C:=
 fo [] [] [0,1,4,5,6,7] [] e1J a0 Tryz.func236
theorem d9l:Ok0 175 c0G:=
 fo [(230,b5S),(236,b9C)] [] [0,2,3,4,5,6,7,8] [] e1K (a1 d6p (a1 d9k a0)) Tryz.func175
theorem d6q:Ok0 287 b2R:=
 fo [] [] [0,2] [] e1L a0 Tryz.func287
theorem d9m:Ok0 285 b6E:=
 fo [(287,b2R)] [] [0,2,3,5,6,7,8] [] e1M (a1 d6q a0) Tryz.func285
theorem d9n:Ok0 286 b2F:=
 fo [] [] [0,1,2,6,7,8,9,10] [] e1N a0 Tryz.func286
theorem d9o:Ok0 237 b5T:=
 fo [(87,a0Z),(253,a7E),(285,b6E),(286,b2F),(287,b2R)] [] [0,1,4,5,6,7,8,9,10,11,12,13] [] e1O (a1 c8k (a1 d1M (a1 d9m (a1 d9n (a1 d6q a0))))) Tryz.func237
theorem d9p:Ok0 238 b7W:=
 fo [] [] [0,2,3,5,6,7,8,9,10,11] [] e1P a0 Tryz.func238
theorem d9q:Ok0 239 b7X:=
 fo [(110,b0R)] [] [0,1,4,5,6,8,9,10,11,13,14] [] e1Q (a1 d1S a0) Tryz.func239
theorem d6r:Ok0 177 b4E:=
 fo [(237,b5T),(238,b7W),(239,b7X)] [] [0,1,2,6,7,8,9,10,11] [] e1R (a1 d9o (a1 d9p (a1 d9q a0))) Tryz.func177
theorem d9r:Ok0 240 c1V:=
 fo [(256,a9Q)] [] [0,1,2,6,7,8,9,10,11,12,13] [] e1S (a1 d1O a0) Tryz.func240
theorem d9s:Ok0 288 c0I:=
 fo [] [] [0] [] e1T a0 Tryz.func288
theorem d9t:Ok0 241 c1X:=
 fo [(232,b3C),(288,c0I)] [] [0,1,5,7,8,11,12,13,15] [] e1U (a1 d1Z (a1 d9s a0)) Tryz.func241
theorem d9u:Ok0 178 c0J:=
 fo [(177,b4E),(232,b3C),(240,c1V),(241,c1X)] [] [0,3,4,5,7,8,9] [] e1V (a1 d6r (a1 d1Z (a1 d9r (a1 d9t a0)))) Tryz.func178
theorem d9v:Ok0 176 b4i:=
 fo [(177,b4E)] [] [0,1,2,3,6,7,8] [] e1W (a1 d6r a0) Tryz.func176
theorem e2u:Ok0 93 b5U:=
 fo [(175,c0G),(176,b4i),(178,c0J)] [(5,.list true Q31)] [0,1,4,6,8,9] [67] H93 (a1 d9l (a1 d9v (a1 d9u a0))) Tryz.func93
theorem e2v:Ok0 40 c3K:=
 fo [(86,c3I),(89,c3J),(90,b0O),(91,b4D),(92,b2k),(93,b5U)] [] [0,1,5,6,7,9,10,14,15] [] H40 (a1 e2s (a1 e2t (a1 d4S (a1 d7Q (a1 d7R (a1 e2u a0)))))) Tryz.func40
theorem d7S:Ok0 79 c0K:=
 fo [(102,b4P),(105,b3p),(106,b4y),(108,b5L)] [] [0,1,4,5,6] [] H79 (a1 d1D (a1 d1R (a1 d6g (a1 d6h a0)))) Tryz.func79
theorem d9w:Ok0 226 b9D:=
 fo [(105,b3p)] [] [0,2,3,5,6,7] [] e1X (a1 d1R a0) Tryz.func226
theorem d9x:Ok0 227 c0L:=
 fo [] [] [0,2,4,8,12,17] [] e1Y a0 Tryz.func227
theorem d9y:Ok0 164 c1Y:=
 fo [(79,c0K),(226,b9D),(227,c0L)] [] [0,2,3,4,5,6,7,8] [] e1Z (a1 d7S (a1 d9w (a1 d9x a0))) Tryz.func164
theorem e2w:Ok0 78 c1Z:=
 fo [(47,b3r),(164,c1Y)] [] [0,2,3,4] [1] H78 (a1 d4T (a1 d9y a0)) Tryz.func78
theorem d7T:Ok0 30 b5V:=
 fo [(35,b7n),(40,c3K),(47,b3r),(77,b4u),(78,c1Z),(79,c0K)] [(10,.pair QI Q45),(52,.pair QI Q43),(57,.pair QI Q43),(63,.pair QI Q43),(79,.pair QI Q43),(95,.pair QI Q43)] [0,1,2,3,9,11,12,14,16] [4,5] H30 (a1 d7I (a1 e2v (a1 d4T (a1 d7E (a1 e2w (a1 d7S a0)))))) Tryz.func30
theorem e2x:Ok0 43 c0N:=
 fo [(24,a9w)] [] [0,1,4,5,7,8] [] H43 (a1 d1Y a0) Tryz.func43
theorem e2y:Ok0 15 c2a:=
 fo [(17,b4A),(19,b3x),(23,b6C),(24,a9w),(26,c0C),(28,b2i),(30,b5V),(43,c0N)] [] [0,4,5,6,8,9,11,13,14,15] [] H15 (a1 d7J (a1 d4U (a1 e2l (a1 d1Y (a1 e2p (a1 d7P (a1 d7T (a1 e2x a0)))))))) Tryz.func15
theorem e2z:Ok0 22 c6c:=
 fo [] [] [0,1,4] [] H22 a0 Tryz.func22
theorem e2A:Ok0 29 c3M:=
 fo [] [] [0,1,4,5] [2] H29 a0 Tryz.func29
theorem e2B:Ok0 84 c2b:=
 fo [] [] [0,2,3] [] H84 a0 Tryz.func84
theorem d9z:Ok0 167 c8j:=
 fo [] [] [0,2] [] e2a a0 Tryz.func167
theorem d9A:Ok0 168 c6d:=
 fo [] [] [0,2] [] e2b a0 Tryz.func168
theorem e2C:Ok0 85 c6e:=
 fo [(167,c8j),(168,c6d)] [] [0,1,4] [] H85 (a1 d9z (a1 d9A a0)) Tryz.func85
theorem e2D:Ok0 32 b7Y:=
 fo [(84,c2b),(85,c6e)] [] [0,2,3,4] [1] H32 (a1 e2B (a1 e2C a0)) Tryz.func32
theorem e2E:Ok0 38 c0Q:=
 fo [(19,b3x),(24,a9w)] [] [0,1,4,5,7,8] [] H38 (a1 d4U (a1 d1Y a0)) Tryz.func38
theorem e2F:Ok0 13 b5W:=
 fo [(15,c2a),(19,b3x),(22,c6c),(24,a9w),(28,b2i),(29,c3M),(30,b5V),(32,b7Y),(38,c0Q)] [] [0,1,2,3,8,10,11,12,13,14,15,16,18,19] [4] H13 (a1 e2y (a1 d4U (a1 e2z (a1 d1Y (a1 d7P (a1 e2A (a1 d7T (a1 e2D (a1 e2E a0))))))))) Tryz.func13
end Go.Ab
namespace Go.Ab
open IntKind(wrap)
section
variable {σ β:Type} {f:σ→Option (σ ⊕ β)}
theorem b8N:∀(n m:Nat)(s:σ){b:β},a3e f n s=some b→a3e f (n+m) s=some b
 |0,_,s,b,h=>by simp[a3e]at h
 |n+1,m,s,b,h=>by
  rw[show n+1+m=n+m+1 from by omega];simp only[a3e]at h⊢
  split at h
  cases h;rename_i s' hs;exact b8N n m s' h;exact h
theorem c6f{n m:Nat}{s:σ}{b b':β}(h:a3e f n s=some b)(h':a3e f m s=some b'):b=b':=by
 have h1:=b8N n m s h;have h2:=b8N m n s h';rw[Nat.add_comm,h1]at h2;exact Option.some.inj h2
theorem d4W{n:Nat}{s:σ}{b:β}(h:a3e f n s=some b):b8w f s=some b:=by
 unfold b8w;have hx:∃n b,a3e f n s=some b:=⟨n,b,h⟩;rw[dif_pos hx];exact congrArg some (c6f hx.choose_spec.choose_spec h)
theorem c5h{n:Nat}{s:σ}{b:β}(h:a3e f n s=some b):a0h f s=some b:=by
 unfold a0h;split;rename_i b' hb;rw[c6f hb h];exact d4W h
theorem c6g{s:σ}(h:∀n,a3e f n s=none):a0h f s=none:=by
 unfold a0h;rw[h 400];show b8w f s=none;unfold b8w;rw[dif_neg]
 rintro⟨n,b,hn⟩
 rw[h n]at hn;cases hn
theorem a0o{s:σ}{b:β}(h:f s=some (.inr b)):a0h f s=some b:=c5h (n:=1) (by simp[a3e,h])
theorem a0q{s s':σ}(h:f s=some (.inl s')):a0h f s=a0h f s':=by
 by_cases hx:∃n b,a3e f n s'=some b
 obtain⟨n,b,hb⟩:=hx;rw[c5h hb];exact c5h (n:=n+1) (by simp[a3e,h,hb])
 ·have h':∀n,a3e f n s'=none:=fun n=>by
   cases hn:a3e f n s' with
   |none=>rfl
   |some b=>exact absurd ⟨n,b,hn⟩ hx
  rw[c6g h'];refine c6g fun n=>?_
  cases n with
  |zero=>rfl
  |succ n=>simp[a3e,h,h' n]
theorem d0t(S:Nat→σ)(n:Nat){b:β}(hstep:∀i,i<n→f (S i)=some (.inl (S (i+1))))(hexit:f (S n)=some (.inr b)):∀(k:Nat),k≤n→a0h f (S (n-k))=some b
 |0,_=>a0o hexit
 |k+1,hk=>by
  rw[a0q (hstep (n-(k+1)) (by omega)),show n-(k+1)+1=n-k from by omega];exact d0t S n hstep hexit k (by omega)
theorem a3G(S:Nat→σ)(n:Nat){b:β}(hstep:∀i,i<n→f (S i)=some (.inl (S (i+1))))(hexit:f (S n)=some (.inr b)):a0h f (S 0)=some b:=by
 have:=d0t S n hstep hexit n (a42 _)
 rwa [a40]at this
end
theorem a0f{n:Int}(h:-9223372036854775808≤n∧n≤9223372036854775807):wrap .i64 n=n:=by
 simp only[wrap,IntKind.bits,IntKind.signed]
 simp
 split<;>omega
theorem a0G{n:Int}(h:0≤n∧n<18446744073709551616):wrap .u64 n=n:=by
 simp only[wrap,IntKind.bits,IntKind.signed]
 simp
 omega
theorem b2o(n:Int):wrap .u8 n=n%256:=by
 simp[wrap,IntKind.bits,IntKind.signed]
theorem d0u(x y:Int):a3s x y=min x y:=by
 simp only[a3s,cond_eq_ite,dT]
 split<;>omega
theorem d6U(x y:Int):a2q x y=max x y:=by
 simp only[a2q,cond_eq_ite,dT]
 split<;>omega
theorem a1u{n:Nat}(h:n<2147483648):lim n=true:=by simp[lim,h]
section
variable {α A σ β:Type}
def a3H(g:A→α→A ⊕ β):List α→A→A ⊕ β
 | [],a=>.inl a
 |x::r,a=>match g a x with
  |.inl a'=>a3H g r a'
  |.inr b=>.inr b
def b0n(fin:A→β):A ⊕ β→β
 |.inl a=>fin a
 |.inr b=>b
theorem b7Z{f:σ→Option (σ ⊕ β)}(l:List α)(S:Nat→A→σ)(g:A→α→A ⊕ β)(I:Nat→A→Prop)(fin:A→β)
  (hstep:∀i (h:i<l.length) a,I i a→(∀a',g a l[i]=.inl a'→f (S i a)=some (.inl (S (i+1) a'))∧I (i+1) a')∧(∀b,g a l[i]=.inr b→f (S i a)=some (.inr b)))
  (hexit:∀a,I l.length a→f (S l.length a)=some (.inr (fin a))):∀(k i:Nat)(a:A),i+k=l.length→I i a→a0h f (S i a)=some (b0n fin (a3H g (l.drop i) a))
 |0,i,a,hi,ha=>by
  obtain rfl:i=l.length:=by omega
  rw[a33];exact a0o (hexit a ha)
 |k+1,i,a,hi,ha=>by
  have hlt:i<l.length:=by omega
  rw[a06 hlt];obtain⟨h1,h2⟩:=hstep i hlt a ha;simp only[a3H];cases hg:g a l[i]with
  |inl a'=>
   obtain⟨h3,h4⟩:=h1 a' hg;rw[a0q h3];exact b7Z l S g I fin hstep hexit k (i+1) a' (by omega) h4
  |inr b=>exact a0o (h2 b hg)
theorem a2x{f:σ→Option (σ ⊕ β)}(l:List α)(S:Nat→A→σ)(g:A→α→A ⊕ β)(I:Nat→A→Prop)(fin:A→β)
  (hstep:∀i (h:i<l.length) a,I i a→(∀a',g a l[i]=.inl a'→f (S i a)=some (.inl (S (i+1) a'))∧I (i+1) a')∧(∀b,g a l[i]=.inr b→f (S i a)=some (.inr b)))
  (hexit:∀a,I l.length a→f (S l.length a)=some (.inr (fin a))){a:A}(ha:I 0 a):a0h f (S 0 a)=some (b0n fin (a3H g l a)):=by
 have:=b7Z l S g I fin hstep hexit l.length 0 a (by omega) ha
 rwa [a32]at this
theorem a1v{f:σ→Option (σ ⊕ β)}(l:List α)(S:Nat→σ)(p:α→Bool){bt bf:β}
  (hgood:∀i (h:i<l.length),p l[i]=true→f (S i)=some (.inl (S (i+1))))(hbad:∀i (h:i<l.length),p l[i]=false→f (S i)=some (.inr bf))
  (hexit:f (S l.length)=some (.inr bt)):a0h f (S 0)=some (bif l.all p then bt else bf):=by
 have h:=a2x (A:=Unit) l (fun i _=>S i) (fun _ x=>bif p x then .inl ()else .inr bf) (fun _ _=>True) (fun _=>bt) (fun i h a _=>?_) (fun _ _=>hexit) (a:=()) trivial
 ·rw[h];congr 1;clear h hgood hbad hexit
  induction l with
  |nil=>rfl
  |cons x l ih=>
   simp only[a3H,a44];cases p x with
   |true=>simpa using ih
   |false=>rfl
 ·cases hp:p l[i]with
  |true=>exact⟨fun a' _=>⟨hgood i h hp,trivial⟩,fun b hb=>by simp[hp]at hb⟩
  |false=>exact⟨fun a' ha=>by simp[hp]at ha,fun b hb=>by simp[hp]at hb;rw[←hb];exact hbad i h hp⟩
end
theorem a0c{α:Type}{l:List α}{i:Nat}(h:i<l.length):a0p l (i:Int)=some l[i]:=by
 unfold a0p;rw[if_pos (Int.natCast_nonneg i),tN,lG h]
def a0b(x:Int):Bool:=decide (-1073741824≤x)&&decide (x<1073741824)
theorem a2j{x:Int}:a0b x=true↔-1073741824≤x∧x<1073741824:=by simp[a0b]
def short{α:Type}(l:List α):Prop:=l.length<1000000
theorem a0d{i:Nat}(h:i<1000000):wrap .i64 ((i:Int)+1)=((i+1:Nat):Int):=by
 rw[a0f (by omega)];omega
theorem dlt{i n:Nat}(h:i<n):decide ((i:Int)<(n:Int))=true:=by simp;omega
theorem dge(n:Nat):decide ((n:Int)<(n:Int))=false:=by simp
theorem a5v{l:List Int}(hl:short l):a2A l=some (l.all a0b):=by
 unfold a2A
 have:=a1v (f:=a3j) l (fun i=>(l,(l.length:Int),(i:Int),())) a0b (bt:=Sum.inl ()) (bf:=Sum.inr (false,()))
  (fun i h hp=>by
   have hp:=a2j.1 hp;have h1:decide (l[i] < -1073741824)=false:=by simp;omega
   have h2:decide (l[i]≥1073741824)=false:=by simp;omega
   simp only[a3j,dlt h,cT,a0c h,oB,h1,h2,cF,a0d (a22 h hl)])
  (fun i h hp=>by
   simp only[a3j,dlt h,cT,a0c h,oB]
   by_cases h1:l[i] < -1073741824
   simp[h1];have h2:l[i]≥1073741824:=by
    simp only[a0b,a37,decide_eq_false_iff_not]at hp;omega
   simp[h1,h2])
  (by simp[a3j])
 simp only[nZ]at this;rw[this];cases l.all a0b<;>rfl
theorem a7o(x:Int):a5Y x=some (a0b x):=by
 unfold a5Y a0b
 by_cases h:-1073741824≤x<;>simp[h]
theorem a9A(x:Int):a8A x=some (a0b x):=by
 unfold a8A a0b
 by_cases h:-1073741824≤x<;>simp[h]
theorem a6b(x:Int):a7e x=some (a0b x):=by
 unfold a7e a0b
 by_cases h:-1073741824≤x<;>simp[h]
theorem b8a(x:Int):a5Z x=some (a0b x):=by
 unfold a5Z a0b
 by_cases h:-1073741824≤x<;>simp[h]
theorem a6W{l:List Int}(hl:short l):a3k l=some (l.all a0b):=by
 unfold a3k
 have:=a1v (f:=a3Y) l (fun i=>(l,(l.length:Int),(i:Int),())) a0b (bt:=Sum.inl ()) (bf:=Sum.inr (false,()))
  (fun i h hp=>by simp[a3Y,a0c h,a7o,hp,a0d (a22 h hl),h])
  (fun i h hp=>by simp[a3Y,a0c h,a7o,hp,h])
  (by simp[a3Y])
 simp only[nZ]at this;rw[this];cases l.all a0b<;>rfl
theorem b6G{l:List Int}(hl:short l):a5o l=some (l.all a0b):=by
 unfold a5o
 have:=a1v (f:=a4P) l (fun i=>(l,(l.length:Int),(i:Int),())) a0b (bt:=Sum.inl ()) (bf:=Sum.inr (false,()))
  (fun i h hp=>by simp[a4P,a0c h,a9A,hp,a0d (a22 h hl),h])
  (fun i h hp=>by simp[a4P,a0c h,a9A,hp,h])
  (by simp[a4P])
 simp only[nZ]at this;rw[this];cases l.all a0b<;>rfl
theorem b5X{l:List Int}(hl:short l):a6j l=some (l.all a0b):=by
 unfold a6j
 have:=a1v (f:=a4v) l (fun i=>(l,(l.length:Int),(i:Int),())) a0b (bt:=Sum.inl ()) (bf:=Sum.inr (false,()))
  (fun i h hp=>by simp[a4v,a0c h,a6b,hp,a0d (a22 h hl),h])
  (fun i h hp=>by simp[a4v,a0c h,a6b,hp,h])
  (by simp[a4v])
 simp only[nZ]at this;rw[this];cases l.all a0b<;>rfl
theorem a8r{l:List Int}(hl:short l):a3a l=some (l.all a0b):=by
 have e:b6y=a3j:=rfl
 have:a3a l=a2A l:=by unfold a3a a2A;rw[e]
 rw[this,a5v hl]
def c1o(x:Int):Bool:=decide (-32768≤x)&&decide (x<32768)
def b0o(c:List Int)(s:Int):Bool:=decide (1≤c.length)&&(decide (c.length≤32)&&(decide (0≤s)&&(decide (s≤15)&&c.all c1o)))
theorem b0Z{c:List Int}{s:Int}(hl:short c):a5x (c,s)=some (b0o c s):=by
 have:=a1v (f:=a4A) c (fun i=>(c,(c.length:Int),(i:Int),())) c1o (bt:=Sum.inl ()) (bf:=Sum.inr (false,()))
  (fun i h hp=>by
   simp only[c1o,bA,dT]at hp;have h1:¬ c[i] < -32768:=by omega
   have h2:¬ c[i]≥32768:=by omega
   simp[a4A,a0c h,a0d (a22 h hl),h,h1,h2])
  (fun i h hp=>by
   simp only[c1o,a37,decide_eq_false_iff_not]at hp
   by_cases h1:c[i] < -32768
   simp[a4A,a0c h,h,h1];have h2:c[i]≥32768:=by omega
   simp[a4A,a0c h,h,h1,h2])
  (by simp[a4A])
 simp only[nZ]at this;unfold a5x b0o
 by_cases h1:c.length<1
 have:((c.length:Nat):Int)<1:=by omega
 have:¬ 1≤c.length:=by omega
 simp[*]
 by_cases h2:c.length > 32
 have:((c.length:Nat):Int) > 32:=by omega
 have:¬ ((c.length:Nat):Int)<1:=by omega
 have:¬ c.length≤32:=by omega
 simp[*]
 by_cases h3:s<0
 have:¬ ((c.length:Nat):Int) > 32:=by omega
 have:¬ ((c.length:Nat):Int)<1:=by omega
 have:¬ 0≤s:=by omega
 simp[*]
 by_cases h4:s > 15
 have:¬ ((c.length:Nat):Int) > 32:=by omega
 have:¬ ((c.length:Nat):Int)<1:=by omega
 have:¬ s≤15:=by omega
 simp[*];have g1:¬ ((c.length:Nat):Int) > 32:=by omega
 have g2:¬ ((c.length:Nat):Int)<1:=by omega
 simp only[g1,g2,h3,h4,decide_false,cF,oB,this];have g3:1≤c.length:=by omega
 have g4:c.length≤32:=by omega
 have g5:0≤s:=by omega
 have g6:s≤15:=by omega
 simp only[g3,g4,g5,g6,decide_true,a17];cases c.all c1o<;>rfl
def b7s(x:Int):Bool:=decide (-64≤x)&&decide (x≤64)
def b3I(lag:Int)(t:List Int):Bool:=decide (2≤lag)&&(decide (lag≤1024)&&t.all b7s)
theorem b7t{t:List Int}{lag:Int}(ht:t.length=3):a9P (lag,t)=some (b3I lag t):=by
 have:=a1v (f:=a5W) t (fun i=>(t,(i:Int),())) b7s (bt:=Sum.inl ()) (bf:=Sum.inr (false,()))
  (fun i h hp=>by
   simp only[b7s,bA,dT]at hp;have h0:(i:Int)<3:=by omega
   have h1:¬ t[i] < -64:=by omega
   have h2:¬ t[i] > 64:=by omega
   simp[a5W,a0c h,a0d (show i<1000000 by omega),h0,h1,h2])
  (fun i h hp=>by
   simp only[b7s,a37,decide_eq_false_iff_not]at hp;have h0:(i:Int)<3:=by omega
   by_cases h1:t[i] < -64
   simp[a5W,a0c h,h0,h1];have h2:t[i] > 64:=by omega
   simp[a5W,a0c h,h0,h1,h2])
  (by rw[ht];simp[a5W])
 simp only[nZ]at this;unfold a9P b3I
 by_cases h1:lag<2
 have:¬ 2≤lag:=by omega
 simp[*]
 by_cases h2:lag > 1024
 have:¬ lag≤1024:=by omega
 simp[*];have g1:2≤lag:=by omega
 have g2:lag≤1024:=by omega
 simp only[h1,h2,g1,g2,decide_false,decide_true,cF,oB,this,a17];cases t.all b7s<;>rfl
def stageB(s:Int×(Int×Unit)):Bool:=decide (1≤s.1)&&(decide (s.1≤32)&&(decide (0≤s.2.1)&&decide (s.2.1≤8)))
def b0C(l:List (Int×Int×Unit)):Bool:=decide (l.length≤3)&&l.all stageB
theorem b2S(s:Int×(Int×Unit)):a8e s=some (stageB s):=by
 unfold a8e stageB
 by_cases h1:1≤s.1<;>by_cases h2:s.1≤32<;>by_cases h3:0≤s.2.1<;>simp[h1,h2,h3]
theorem b5Y{l:List (Int×Int×Unit)}(hl:short l):a8y l=some (b0C l):=by
 have:=a1v (f:=a7c) l (fun i=>(l,(l.length:Int),(i:Int),())) stageB (bt:=Sum.inl ()) (bf:=Sum.inr (false,()))
  (fun i h hp=>by simp[a7c,a0c h,b2S,hp,a0d (a22 h hl),h])
  (fun i h hp=>by simp[a7c,a0c h,b2S,hp,h])
  (by simp[a7c])
 simp only[nZ]at this;unfold a8y b0C
 by_cases h:l.length≤3
 have g:¬ ((l.length:Nat):Int) > 3:=by omega
 simp only[g,h,decide_false,decide_true,cF,this,oB,a17];cases l.all stageB<;>rfl;have g:((l.length:Nat):Int) > 3:=by omega
 simp[g,h]
@[reducible] def W(n:Int):Int:=wrap .i64 n
theorem a9B(n:Int):wrap .i64 n=Int.bmod n 18446744073709551616:=by
 simp only[wrap,IntKind.bits,IntKind.signed,Int.bmod]
 simp
 split<;>split<;>omega
theorem c0R{n:Int}(h:a0b n=true):W n=n:=by
 have:=a2j.1 h
 exact a0f (by omega)
def a5a(guess:List Int→Int):List Int→List Int→Option (List Int)
 | [],out=>some out
 |x::r,out=>bif a0b (W (x+guess out))then a5a guess r (out++[W (x+guess out)])else none
def b6H{β:Type}(guess:List Int→Int)(bad:β)(out:List Int)(x:Int):List Int ⊕ β:=bif a0b (W (x+guess out))then .inl (out++[W (x+guess out)])else .inr bad
theorem b4Z{β:Type}(guess:List Int→Int)(bad:β)(fin:List Int→β):∀(l out:List Int),b0n fin (a3H (b6H guess bad) l out)=match a5a guess l out with|some r=>fin r|none=>bad
 | [],out=>rfl
 |x::l,out=>by
  simp only[a3H,b6H,a5a];cases a0b (W (x+guess out))with
  |true=>exact b4Z guess bad fin l _
  |false=>rfl
theorem b5a(guess:List Int→Int):∀(l out r:List Int),out.all a0b=true→a5a guess l out=some r→r.all a0b=true∧r.length=out.length+l.length
 | [],out,r,h,e=>by simp only[a5a,sj]at e;subst e;exact⟨h,by simp⟩
 |x::l,out,r,h,e=>by
  simp only[a5a]at e;cases hw:a0b (W (x+guess out))with
  |true=>
   rw[hw]at e;obtain⟨h1,h2⟩:=b5a guess l _ r (by simp[h,hw]) e;exact⟨h1,by rw[h2];simp;omega⟩
  |false=>rw[hw]at e;cases e
def a3l:Option (List Int)→List Int×Int
 |some r=>(r,0)
 |none=>([],6)
def atB(out:List Int)(i:Nat):Int:=out.getD (out.length-i) 0
def a5H(o:Nat)(out:List Int):Int:=match o with
 | 1=>atB out 1
 | 2=>2*atB out 1-atB out 2
 | 3=>3*atB out 1-3*atB out 2+atB out 3
 | 4=>4*atB out 1-6*atB out 2+4*atB out 3-atB out 4
 |_=>0
theorem b5b{out:List Int}{i:Nat}(hi:1≤i)(h:i≤out.length)(hs:short out):a1o ((i:Int),out)=some (atB out i,out):=by
 unfold a1o;have hs:out.length<1000000:=hs;have e:wrap .i64 (((out.length:Nat):Int)-(i:Int))=((out.length-i:Nat):Int):=by rw[a0f (by omega)];omega
 simp only[e,a0c (show out.length-i<out.length by omega),oB,atB];rw[lD,lG (by omega)];rfl
theorem c5i{out:List Int}{o:Nat}(ho:o≤4)(h:o≤out.length)(hs:short out):∃g,b0P (out,(o:Int))=some g∧∀x,W (x+g)=W (x+a5H o out):=by
 have g1:=fun(h':1≤out.length)=>b5b (i:=1) (by omega) h' hs;have g2:=fun(h':2≤out.length)=>b5b (i:=2) (by omega) h' hs;have g3:=fun(h':3≤out.length)=>b5b (i:=3) (by omega) h' hs;have g4:=fun(h':4≤out.length)=>b5b (i:=4) (by omega) h' hs;simp only[Int.natCast_one,Int.cast_ofNat_Int]at g1 g2 g3 g4;unfold b0P;have h5:o=0∨o=1∨o=2∨o=3∨o=4:=by omega
 rcases h5 with rfl|rfl|rfl|rfl|rfl;exact⟨0,rfl,fun x=>rfl⟩;exact⟨_,by simp[g1 (by omega)];rfl,fun x=>rfl⟩;refine⟨_,by simp[g1 (by omega),g2 (by omega)];rfl,fun x=>?_⟩;simp only[W,a9B,a5H,a45,a46,a47];refine⟨_,by simp[g1 (by omega),g2 (by omega),g3 (by omega)];rfl,fun x=>?_⟩;simp only[W,a9B,a5H,a45,a46,a47,a60];refine⟨_,by simp[g1 (by omega),g2 (by omega),g3 (by omega),g4 (by omega)];rfl,fun x=>?_⟩;simp only[W,a9B,a5H,a45,a46,a47,a60]
theorem a0I{n:Nat}(h:n<1000000):lim n=true:=a1u (by omega)
theorem c6R{warm rest:List Int}{o:Nat}(ho:o≤4)(hw:warm.length=o)(hr:rest.length<100000):
  b1W (warm,rest,(o:Int))=some (a3l (bif warm.all a0b&&rest.all a0b then a5a (a5H o) rest warm else none)):=by
 have hsw:short warm:=by unfold short;omega
 have hsr:short rest:=by unfold short;omega
 unfold b1W;have h1:¬ (o:Int)<0:=by omega
 have h2:¬ (o:Int) > 4:=by omega
 have h3:(((warm.length:Nat):Int) != (o:Int))=false:=by simp;omega
 simp only[h1,h2,h3,decide_false,cF,oB,a8r hsw,a8r hsr];cases hw1:warm.all a0b with
 |false=>rfl
 |true=>
  simp only[bT,cF,oB,a17];cases hw2:rest.all a0b with
  |false=>rfl
  |true=>
   simp only[bT,cF,cT,a0I hsw]
   have:=a2x (f:=a8T) rest (fun i out=>((o:Int),rest,(rest.length:Int),(i:Int),out,())) (b6H (a5H o) (Sum.inr ((6:Int),([]:List Int),())))
    (fun i out=>o≤out.length∧out.length≤o+i) (fun out=>Sum.inl (out,()))
    (fun i h out hI=>by
     have hlt:i<1000000:=by omega
     have hso:short out:=by unfold short;omega
     obtain⟨g,hg,hgw⟩:=c5i ho hI.1 hso;have e:wrap .i64 (rest[i]+g)=W (rest[i]+a5H o out):=hgw _;have hone:a3a [W (rest[i]+a5H o out)]=some (a0b (W (rest[i]+a5H o out))):=by rw[a8r (by simp[short])];simp
     simp only[a8T,dlt h,cT,a0c h,oB,hg,e,hone,b6H];cases hb:a0b (W (rest[i]+a5H o out))with
     |true=>
      simp only[cT,bT,cF,a0I (show out.length+1<1000000 by omega),a0d hlt];refine⟨fun a' ha=>?_,fun b hb=>(by cases hb)⟩;simp only[Sum.inl.injEq]at ha;subst ha;exact⟨rfl,by simp;omega,by simp;omega⟩
     |false=>
      refine⟨fun a' ha=>(by cases ha),fun b hb=>?_⟩;simp only[cF,Sum.inr.injEq]at hb;subst hb;rfl)
    (fun out _=>by simp[a8T]) (a:=warm) ⟨by omega,by omega⟩
   simp only[nZ,b4Z]at this;rw[this];cases a5a (a5H o) rest warm<;>rfl
def c8l(out:List Int):List Int→Nat→Int→Int
 | [],_,acc=>acc
 |c::r,i,acc=>bif decide (i<out.length)then c8l out r (i+1) (W (acc+W (c*atB out (i+1))))else acc
def b2T(c:List Int)(s:Int)(out:List Int):Int:=a0C .i64 (c8l out c 0 0) s
theorem d7U{out:List Int}{i:Nat}(h:i<out.length)(hs:short out):a0p out (wrap .i64 (wrap .i64 (((out.length:Nat):Int)-1)-(i:Int)))=some (atB out (i+1)):=by
 have hs:out.length<1000000:=hs;have e1:wrap .i64 (((out.length:Nat):Int)-1)=((out.length-1:Nat):Int):=by rw[a0f (by omega)];omega
 have e2:wrap .i64 (((out.length-1:Nat):Int)-(i:Int))=((out.length-(i+1):Nat):Int):=by rw[a0f (by omega)];omega
 rw[e1,e2,a0c (show out.length-(i+1)<out.length by omega),atB,lD,lG (by omega)];rfl
theorem c0S{out c:List Int}{s:Int}(hs:short out)(hc:short c):∀(k i:Nat)(acc:Int),i+k=c.length→
  a0h a3Z (out,s,acc,c,(c.length:Int),(i:Int),())=some (s,c8l out (c.drop i) i acc,())
 |0,i,acc,h=>by
  obtain rfl:i=c.length:=by omega
  rw[a33];exact a0o (by simp[a3Z,c8l])
 |k+1,i,acc,h=>by
  have hlt:i<c.length:=by omega
  have hs':out.length<1000000:=hs;have hc':c.length<1000000:=hc;rw[a06 hlt,c8l];have e1:wrap .i64 (((out.length:Nat):Int)-1)=((out.length:Nat):Int)-1:=a0f (by omega);have e2:wrap .i64 (((out.length:Nat):Int)-1-(i:Int))=((out.length:Nat):Int)-1-(i:Int):=a0f (by omega)
  by_cases hi:i<out.length
  have hd:decide (wrap .i64 (wrap .i64 (((out.length:Nat):Int)-1)-(i:Int))<0)=false:=by rw[e1,e2];simp;omega
  simp only[hi,decide_true,cT];rw[a0q (s':=(out,s,W (acc+W (c[i]*atB out (i+1))),c,(c.length:Int),((i+1:Nat):Int),())) (by
   simp only[a3Z,dlt hlt,cT,a0c hlt,oB,hd,cF,d7U hi hs,a0d (show i<1000000 by omega)])]
  exact c0S hs hc k (i+1) _ (by omega);have hd:decide (wrap .i64 (wrap .i64 (((out.length:Nat):Int)-1)-(i:Int))<0)=true:=by rw[e1,e2];simp;omega
  simp only[hi,decide_false,cF];exact a0o (by simp only[a3Z,dlt hlt,cT,a0c hlt,oB,hd])
theorem b8O{out c:List Int}{s:Int}(hs:short out)(hc:short c)(h0:0≤s):a5z (out,c,s)=some (b2T c s out):=by
 have:=c0S (s:=s) hs hc c.length 0 0 (by omega)
 simp only[nZ,a32]at this;unfold a5z;simp only[this,oB]
 have:¬ s<0:=by omega
 simp[this,b2T]
def b5Z(warm rest c:List Int)(s:Int):Option (List Int):=bif warm.all a0b&&rest.all a0b then a5a (b2T c s) rest warm else none
theorem b8b{warm rest c:List Int}{s:Int}(hl:b0o c s=true)(hw:warm.length=c.length)(hr:rest.length<100000):
  a8f (warm,rest,c,s)=some (a3l (b5Z warm rest c s)):=by
 have hl':=hl;simp only[b0o,bA,dT]at hl';have hsc:short c:=by unfold short;omega
 have hsw:short warm:=by unfold short;omega
 have hsr:short rest:=by unfold short;omega
 unfold a8f;have h3:(((warm.length:Nat):Int) != ((c.length:Nat):Int))=false:=by simp;omega
 simp only[b0Z hsc,hl,oB,bT,cF,h3,a6W hsw,a6W hsr,b5Z];cases hw1:warm.all a0b with
 |false=>rfl
 |true=>
  simp only[bT,cF,oB,a17];cases hw2:rest.all a0b with
  |false=>rfl
  |true=>
   have e1:wrap .i64 (((warm.length:Nat):Int)+((rest.length:Nat):Int))=((warm.length+rest.length:Nat):Int):=by rw[a0f (by omega)];omega
   have h4:(0:Int)≤((warm.length+rest.length:Nat):Int):=by omega
   simp only[bT,cF,cT,e1,h4,decide_true,tN,a0I (show warm.length+rest.length<1000000 by omega),a0I (show 0+warm.length<1000000 by omega),a08,a41,a09]
   have:=a2x (f:=a7F) rest (fun i out=>(c,s,rest,(rest.length:Int),(i:Int),out,())) (b6H (b2T c s) (Sum.inr ((6:Int),([]:List Int),())))
    (fun i out=>out.length≤warm.length+i) (fun out=>Sum.inl (out,()))
    (fun i h out hI=>by
     have hlt:i<1000000:=by omega
     have hso:short out:=by unfold short;omega
     have e:wrap .i64 (b2T c s out+rest[i])=W (rest[i]+b2T c s out):=by rw[Int.add_comm]
     simp only[a7F,dlt h,cT,a0c h,oB,b8O hso hsc hl'.2.2.1,e,a7o,b6H];cases hb:a0b (W (rest[i]+b2T c s out))with
     |true=>
      simp only[cT,bT,cF,a0I (show out.length+1<1000000 by omega),a0d hlt];refine⟨fun a' ha=>?_,fun b hb=>(by cases hb)⟩;simp only[Sum.inl.injEq]at ha;subst ha;exact⟨rfl,by simp;omega⟩
     |false=>
      refine⟨fun a' ha=>(by cases ha),fun b hb=>?_⟩;simp only[cF,Sum.inr.injEq]at hb;subst hb;rfl)
    (fun out _=>by simp[a7F]) (a:=warm) (by omega)
   simp only[nZ,b4Z]at this;rw[this];cases a5a (b2T c s) rest warm<;>rfl
def c8m(out:List Int)(lag:Int):List Int→Nat→Int→Int
 | [],_,acc=>acc
 |t::r,i,acc=>c8m out lag r (i+1) (bif decide (0≤(out.length:Int)-lag-1+i)then W (acc+W (t*out.getD ((out.length:Int)-lag-1+i).toNat 0))else acc)
def b1a(lag:Int)(t:List Int)(out:List Int):Int:=a0C .i64 (c8m out lag t 0 0) 6
theorem c8n{out:List Int}{j:Int}(h0:0≤j)(h:j<out.length):a0p out j=some (out.getD j.toNat 0):=by
 obtain⟨n,rfl⟩:=a23 h0;have hn:n<out.length:=by omega
 rw[a0c hn,tN,lD,lG hn];rfl
theorem d6V{n i:Nat}{lag:Int}(h1:2≤lag)(h2:lag≤1024)(hn:n<1000000)(hi:i<3):
  wrap .i64 (wrap .i64 (wrap .i64 ((n:Int)-lag)-1)+(i:Int))=(n:Int)-lag-1+i:=by
 rw[a0f (n:=(n:Int)-lag) (by omega),a0f (n:=(n:Int)-lag-1) (by omega),a0f (by omega)]
theorem d3x{l:List Int}{n j:Nat}(h:j<n):(l.take n).getD j 0=l.getD j 0:=by
 simp only[lD,List.getElem?_take,h,if_true]
theorem b0p{l t:List Int}{lag:Int}{n:Nat}(hn:n≤l.length)(hs:short l)(ht:t.length=3)(h1:2≤lag)(h2:lag≤1024):∀(k i:Nat)(acc:Int),i+k=3→
  a0h a4Q (l,(n:Int),lag,acc,t,(i:Int),())=some (c8m (l.take n) lag (t.drop i) i acc,())
 |0,i,acc,h=>by
  obtain rfl:i=t.length:=by omega
  rw[a33];exact a0o (by rw[ht];simp[a4Q,c8m])
 |k+1,i,acc,h=>by
  have hlt:i<t.length:=by omega
  have hi3:decide ((i:Int)<3)=true:=by simp;omega
  have hs':l.length<1000000:=hs;have hln:(l.take n).length=n:=by rw[a48];omega
  have e:=d6V (n:=n) (i:=i) h1 h2 (by omega) (by omega);rw[a06 hlt,c8m,hln]
  by_cases hp:0≤(n:Int)-lag-1+i
  have hd:decide ((n:Int)-lag-1+i≥0)=true:=by simp;omega
  simp only[hp,decide_true,cT];rw[d3x (show((n:Int)-lag-1+i).toNat<n by omega),a0q (s':=(l,(n:Int),lag,W (acc+W (t[i]*l.getD ((n:Int)-lag-1+i).toNat 0)),t,((i+1:Nat):Int),())) (by
   simp only[a4Q,hi3,cT,a0c hlt,oB,e,hd,c8n hp (show(n:Int)-lag-1+(i:Int)<(l.length:Int)by omega),a0d (show i<1000000 by omega)])]
  exact b0p hn hs ht h1 h2 k (i+1) _ (by omega);have hd:decide ((n:Int)-lag-1+i≥0)=false:=by simp;omega
  simp only[hp,decide_false,cF];rw[a0q (s':=(l,(n:Int),lag,acc,t,((i+1:Nat):Int),())) (by
   simp only[a4Q,hi3,cT,a0c hlt,oB,e,hd,cF,a0d (show i<1000000 by omega)])]
  exact b0p hn hs ht h1 h2 k (i+1) _ (by omega)
theorem b6I{l t:List Int}{lag:Int}{n:Nat}(hn:n≤l.length)(hs:short l)(ht:t.length=3)(h1:2≤lag)(h2:lag≤1024):
  a5p (l,(n:Int),lag,t)=some (b1a lag t (l.take n)):=by
 have:=b0p (t:=t) hn hs ht h1 h2 3 0 0 (by omega)
 simp only[nZ,a32]at this;unfold a5p;simp only[this,oB,b1a]
theorem c3P{out t:List Int}{lag:Int}(hs:short out)(ht:t.length=3)(h1:2≤lag)(h2:lag≤1024):a5p (out,(out.length:Int),lag,t)=some (b1a lag t out):=by
 rw[b6I (a42 _) hs ht h1 h2,a62]
def b5c(rest:List Int)(lag:Int)(t:List Int):Option (List Int):=bif rest.all a0b then a5a (b1a lag t) rest []else none
theorem c8o{rest t:List Int}{lag:Int}(hl:b3I lag t=true)(ht:t.length=3)(hr:rest.length<100000):b3o (rest,lag,t)=some (a3l (b5c rest lag t)):=by
 have hl':=hl;simp only[b3I,bA,dT]at hl';have hsr:short rest:=by unfold short;omega
 unfold b3o;simp only[b7t ht,hl,oB,bT,cF,b6G hsr,b5c];cases hw2:rest.all a0b with
 |false=>rfl
 |true=>
  have h4:(0:Int)≤((rest.length:Nat):Int):=by omega
  simp only[bT,cF,cT,h4,decide_true,tN,a0I hsr,a08]
  have:=a2x (f:=a9R) rest (fun i out=>(lag,rest,(rest.length:Int),(i:Int),out,t,())) (b6H (b1a lag t) (Sum.inr ((6:Int),([]:List Int),())))
   (fun i out=>out.length=i) (fun out=>Sum.inl (out,()))
   (fun i h out hI=>by
    have hlt:i<1000000:=by omega
    have hso:short out:=by unfold short;omega
    have hp:=c3P (out:=out) (t:=t) (lag:=lag) hso ht hl'.1 hl'.2.1;rw[hI]at hp;simp only[a9R,dlt h,cT,a0c h,oB,hp,a9A,b6H];cases hb:a0b (W (rest[i]+b1a lag t out))with
    |true=>
     simp only[cT,bT,cF,a0I (show out.length+1<1000000 by omega),a0d hlt];refine⟨fun a' ha=>?_,fun b hb=>(by cases hb)⟩;simp only[Sum.inl.injEq]at ha;subst ha;exact⟨rfl,by simp;omega⟩
    |false=>
     refine⟨fun a' ha=>(by cases ha),fun b hb=>?_⟩;simp only[cF,Sum.inr.injEq]at hb;subst hb;rfl)
   (fun out _=>by simp[a9R]) (a:=[]) rfl
  simp only[nZ,b4Z]at this;rw[this];cases a5a (b1a lag t) rest []<;>rfl
def c3Q{β:Type}(n:Int)(bad:β)(out:List Int)(x:Int):List Int ⊕ β:=bif a0b x&&a0b (a0z .i64 x n)then .inl (out++[a0z .i64 x n])else .inr bad
def upO(n:Int)(l:List Int):Option (List Int):=bif l.all (fun x=>a0b x&&a0b (a0z .i64 x n))then some (l.map fun x=>a0z .i64 x n)else none
theorem c2c{β:Type}(n:Int)(bad:β)(fin:List Int→β):∀(l out:List Int),b0n fin (a3H (c3Q n bad) l out)=match upO n l with|some r=>fin (out++r)|none=>bad
 | [],out=>by simp[a3H,b0n,upO]
 |x::l,out=>by
  simp only[a3H,c3Q,upO,a44];cases hx:(a0b x&&a0b (a0z .i64 x n))with
  |true=>
   simp only[cT,a17];rw[c2c n bad fin l _];simp only[upO];cases l.all (fun x=>a0b x&&a0b (a0z .i64 x n))with
   |true=>simp
   |false=>rfl
  |false=>rfl
theorem c8p{l:List Int}{n:Int}(h0:0≤n)(h1:n≤30)(hr:l.length<100000):b0y (l,n)=some (a3l (upO n l)):=by
 have hsr:short l:=by unfold short;omega
 have g1:¬ n<0:=by omega
 have g2:¬ n > 30:=by omega
 unfold b0y;simp only[g1,g2,decide_false,cF,oB]
 have:=a2x (f:=a9S) l (fun i out=>(n,l,(l.length:Int),(i:Int),out,())) (c3Q n (Sum.inr ((6:Int),([]:List Int),())))
  (fun i out=>out.length=i) (fun out=>Sum.inl (out,()))
  (fun i h out hI=>by
   have hlt:i<1000000:=by omega
   simp only[a9S,dlt h,cT,a0c h,oB,b8a,c3Q,g1,decide_false,cF];cases hb:a0b l[i]with
   |true=>
    cases hb2:a0b (a0z .i64 l[i] n)with
    |true=>
     simp only[cT,bT,cF,oB,g1,decide_false,a0I (show out.length+1<1000000 by omega),a0d hlt,a08];refine⟨fun a' ha=>?_,fun b hb=>(by cases hb)⟩;simp only[Sum.inl.injEq]at ha;subst ha;exact⟨rfl,by simp;omega⟩
    |false=>
     refine⟨fun a' ha=>(by cases ha),fun b hb=>?_⟩;simp only[a17,cF,Sum.inr.injEq]at hb;subst hb;rfl
   |false=>
    refine⟨fun a' ha=>(by cases ha),fun b hb=>?_⟩;simp only[a68,cF,Sum.inr.injEq]at hb;subst hb;rfl)
  (fun out _=>by simp[a9S]) (a:=[]) rfl
 simp only[nZ,c2c,a09]at this;rw[this];cases upO n l<;>rfl
@[reducible] def Fil:Type:=Int×((List Int)×((List Int)×Unit))
def a3c(x:Int):Int:=a3s (a2q x (-1073741824)) 1073741823
def c3R(x:Int):Int:=a3s (a2q x (-1048576)) 1048576
theorem c8q(x:Int):-1048576≤c3R x∧c3R x≤1048576:=by
 simp only[c3R,d0u,d6U];omega
def d2a:List Int→List Int→Int→Int
 |a::w,b::h,acc=>d2a w h (W (acc+W (a*b)))
 |_,_,acc=>acc
def a1l(f:Fil):Int:=a3c (a0C .i64 (d2a f.2.1 f.2.2.1 0) 16)
structure FilOk (f:Fil):Prop where
 len:f.2.1.length=f.2.2.1.length
 pos:1≤f.2.1.length
 most:f.2.1.length≤32
 rate:0≤f.1∧f.1≤8
 small:∀x∈f.2.1,-1048576≤x∧x≤1048576
theorem b8P{l:List Int}{i:Nat}(h:i<l.length):a03 l i 0=l[i]:=by
 rw[lD,lG h];rfl
theorem b6a{f:Fil}(hf:FilOk f):∀(k i:Nat)(acc:Int),i+k=f.2.1.length→
  a0h a3W (acc,(f.2.1.length:Int),(i:Int),f,())=some (d2a (f.2.1.drop i) (f.2.2.1.drop i) acc,f,())
 |0,i,acc,h=>by
  obtain rfl:i=f.2.1.length:=by omega
  rw[a33,a0o (b:=(acc,f,())) (by simp[a3W])];rfl
 |k+1,i,acc,h=>by
  have h1:i<f.2.1.length:=by omega
  have h2:i<f.2.2.1.length:=by rw[←hf.len];exact h1
  have hm:=hf.most;rw[a06 h1,a06 h2,d2a];have h0:decide ((0:Int)≤(i:Int))=true:=by simp
  rw[a0q (s':=(W (acc+W (f.2.1[i]*f.2.2.1[i])),(f.2.1.length:Int),((i+1:Nat):Int),f,())) (by
   simp only[a3W,dlt h1,dlt h2,h0,cT,a08,tN,b8P h1,b8P h2,a0d (show i<1000000 by omega)])]
  exact b6a hf k (i+1) _ (by omega)
theorem a7p{f:Fil}(hf:FilOk f):a2D f=some (a1l f,f):=by
 have:=b6a hf f.2.1.length 0 0 (by omega)
 simp only[nZ,a32]at this;unfold a2D;simp only[this,oB,a6k];rfl
def c1p(x:Int):Int:=if 0<x then 1 else if x<0 then -1 else 0
def b3J(r:Int)(x g:Int):Int:=c1p (x-g)*2^r.toNat
def b8Q(st:Int)(w h:Int):Int:=c3R (W (w+c1p h*st))
def b5d(f:Fil)(x:Int):Fil:=
 (f.1,a26 (b8Q (b3J f.1 (a3c x) (a1l f))) f.2.1 f.2.2.1,a3c x::f.2.2.1.take (f.2.2.1.length-1),f.2.2.2)
theorem c8r{f:Fil}(hf:FilOk f)(x:Int):FilOk (b5d f x):=by
 obtain⟨h1,h2,h3,h4,h5⟩:=hf;have e:(a26 (b8Q (b3J f.1 (a3c x) (a1l f))) f.2.1 f.2.2.1).length=f.2.1.length:=by simp;omega
 refine⟨?_,?_,?_,h4,?_⟩;show(a26 _ _ _).length=(a3c x::f.2.2.1.take (f.2.2.1.length-1)).length;rw[e];simp;omega;show 1≤(a26 _ _ _).length;rw[e];exact h2;show(a26 _ _ _).length≤32;rw[e];exact h3;intro y hy;have hy:y∈a26 (b8Q (b3J f.1 (a3c x) (a1l f))) f.2.1 f.2.2.1:=hy;obtain⟨i,hi,rfl⟩:=List.mem_iff_getElem.1 hy;simp only[a54];exact c8q _
theorem b7u(x:Int):(0<x∧c1p x=1)∨(x<0∧c1p x=-1)∨(x=0∧c1p x=0):=by
 unfold c1p
 by_cases h:0<x
 exact .inl ⟨h,by rw[if_pos h]⟩
 by_cases h':x<0
 exact .inr (.inl ⟨h',by rw[if_neg h,if_pos h']⟩);exact .inr (.inr ⟨by omega,by rw[if_neg h,if_neg h']⟩)
theorem c2J{r:Int}(h:0≤r∧r≤8):(2:Int)^r.toNat≤256∧1≤(2:Int)^r.toNat:=by
 have:r.toNat=0∨r.toNat=1∨r.toNat=2∨r.toNat=3∨r.toNat=4∨r.toNat=5∨r.toNat=6∨r.toNat=7∨r.toNat=8:=by omega
 rcases this with e|e|e|e|e|e|e|e|e<;>rw[e]<;>decide
theorem d3y{r:Int}(h:0≤r∧r≤8){x:Int}(hx:-1≤x∧x≤1):a0z .i64 x r=x*2^r.toNat:=by
 have hp:=c2J h;have hb:min r.toNat 64=r.toNat:=by omega
 unfold a0z;show wrap .i64 (x*2^(min r.toNat 64))=_;rw[hb]
 have:x=-1∨x=0∨x=1:=by omega
 rcases this with rfl|rfl|rfl;exact a0f (by omega);exact a0f (by omega);exact a0f (by omega)
theorem c6S{f:Fil}(hf:FilOk f)(x:Int):
  (bif decide (a3c x > a1l f)then bif decide (f.1<0)then(none:Option (Int×Int×Fil×Unit))else some (a3c x,a0z .i64 (1:Int) f.1,f,())
   else bif decide (a3c x<a1l f)then bif decide (f.1<0)then none else some (a3c x,wrap .i64 (0-(a0z .i64 (1:Int) f.1)),f,())
   else some (a3c x,(0:Int),f,()))=some (a3c x,b3J f.1 (a3c x) (a1l f),f,()):=by
 have hr:¬ f.1<0:=by have:=hf.rate;omega
 have hp:=c2J hf.rate;have hg:=d3y hf.rate (x:=1) (by omega);rw[a63]at hg;rcases b7u (a3c x-a1l f)with⟨h1,h2⟩|⟨h1,h2⟩|⟨h1,h2⟩;have h3:a3c x > a1l f:=by omega
 simp only[h3,hr,decide_true,decide_false,cT,cF,b3J,h2,a63,hg];have h3:¬ a3c x > a1l f:=by omega
 have h4:a3c x<a1l f:=by omega
 simp only[h3,h4,hr,decide_true,decide_false,cT,cF,b3J,h2,hg];rw[a0f (by omega)];congr 3;omega;have h3:¬ a3c x > a1l f:=by omega
 have h4:¬ a3c x<a1l f:=by omega
 simp only[h3,h4,decide_false,cF,b3J,h2,Int.zero_mul]
theorem d4X{l z:List Int}{i:Nat}(hi:i<l.length)(hz:z.length=l.length):(z.take i++l.drop i).set i (z[i]'(by omega))=z.take (i+1)++l.drop (i+1):=by
 have h1:(z.take i).length=i:=by rw[a48];omega
 have h2:z.take (i+1)=z.take i++[z[i]'(by omega)]:=by rw[a61,lG (show i<z.length by omega)];rfl
 rw[a53 _ _ (by omega),h1,a40,a06 hi,a57,h2,aA];rfl
theorem d4Y{l z:List Int}{i:Nat}(hi:i<l.length)(hz:z.length=l.length):a03 (z.take i++l.drop i) i 0=l[i]:=by
 have h1:(z.take i).length=i:=by rw[a48];omega
 rw[lD,a43 (by omega),h1,a40,a58,a59,lG hi];rfl
theorem d3z{f:Fil}(hf:FilOk f){i:Nat}(h:i<f.2.1.length):-1048576≤f.2.1[i]∧f.2.1[i]≤1048576:=hf.small _ (a64 h)
theorem c3S{f:Fil}(hf:FilOk f){x1 st:Int}(hst:-256≤st∧st≤256):
  a0h a3b (x1,st,(f.2.2.1.length:Int),(0:Int),f,())=some (x1,(f.1,a26 (b8Q st) f.2.1 f.2.2.1,f.2.2),()):=by
 obtain⟨z,hz⟩:∃z,a26 (b8Q st) f.2.1 f.2.2.1=z:=⟨_,rfl⟩;have hlen:=hf.len;have hzl:z.length=f.2.1.length:=by rw[←hz];simp;omega
 have hm:=hf.most
 have:=a3G (f:=a3b) (fun i=>(x1,st,(f.2.2.1.length:Int),(i:Int),(f.1,z.take i++f.2.1.drop i,f.2.2),()))
  f.2.2.1.length (b:=(x1,(f.1,z,f.2.2),())) (fun i hi=>by
   have hi1:i<f.2.1.length:=by omega
   have h0:decide ((0:Int)≤(i:Int))=true:=by simp
   have hl1:(z.take i++f.2.1.drop i).length=f.2.1.length:=by simp;omega
   have hl2:decide ((i:Int)<((z.take i++f.2.1.drop i).length:Int))=true:=by rw[hl1];simp;omega
   have hzi:z[i]'(by omega)=b8Q st f.2.1[i] f.2.2.1[i]:=by simp only[←hz,a54]
   have hsm:=d3z hf hi1;have hset:=d4X hi1 hzl;rw[hzi]at hset;simp only[a3b,dlt hi,h0,hl2,cT,a08,tN,b8P hi,d4Y hi1 hzl];rcases b7u f.2.2.1[i]with⟨h1,h2⟩|⟨h1,h2⟩|⟨h1,h2⟩;have h3:f.2.2.1[i] > 0:=h1;simp only[b8Q,h2,a63]at hset;simp only[h3,decide_true,cT,oB,h0,hl2,a08,tN,a0d (show i<1000000 by omega)];exact congrArg (fun l=>some (Sum.inl (x1,st,(f.2.2.1.length:Int),((i+1:Nat):Int),(f.1,l,f.2.2),()))) hset;have h3:¬ f.2.2.1[i] > 0:=by omega
   have e:f.2.1[i]+-1*st=f.2.1[i]-st:=by omega
   simp only[b8Q,h2,e]at hset;simp only[h3,h1,decide_true,decide_false,cT,cF,oB,h0,hl2,a08,tN,a0d (show i<1000000 by omega)];exact congrArg (fun l=>some (Sum.inl (x1,st,(f.2.2.1.length:Int),((i+1:Nat):Int),(f.1,l,f.2.2),()))) hset;have h3:¬ f.2.2.1[i] > 0:=by omega
   have h4:¬ f.2.2.1[i]<0:=by omega
   have e:W (f.2.1[i]+0*st)=f.2.1[i]:=by rw[Int.zero_mul,Int.add_zero];exact a0f (by omega)
   simp only[b8Q,h2,e]at hset;simp only[h3,h4,decide_false,cF,oB,h0,hl2,cT,a08,tN,a0d (show i<1000000 by omega)];exact congrArg (fun l=>some (Sum.inl (x1,st,(f.2.2.1.length:Int),((i+1:Nat):Int),(f.1,l,f.2.2),()))) hset)
  (by
   have e1:z.take f.2.2.1.length=z:=List.take_of_length_le (by omega);have e2:f.2.1.drop f.2.2.1.length=[]:=a49 (by omega);simp[a3b,e1,e2])
 simp only[nZ,List.take_zero,a32,a09]at this;rw[hz];exact this
theorem c9J{f:Fil}(hf:FilOk f)(x g:Int):-256≤b3J f.1 x g∧b3J f.1 x g≤256:=by
 have hp:=c2J hf.rate;unfold b3J;rcases b7u (x-g)with⟨-,h2⟩|⟨-,h2⟩|⟨-,h2⟩<;>rw[h2]<;>omega
theorem b9E{f:Fil}(hf:FilOk f)(x:Int):a4a (f,x)=some (b5d f x):=by
 unfold a4a;have hs:=c6S hf x;simp only[a6k,oB,a7p hf];have hs':(bif decide (a3s (a2q x (-1073741824)) 1073741823 > a1l f)then bif decide (f.1<0)then(none:Option (Int×Int×Fil×Unit))else some (a3s (a2q x (-1073741824)) 1073741823,a0z .i64 (1:Int) f.1,f,())
   else bif decide (a3s (a2q x (-1073741824)) 1073741823<a1l f)then bif decide (f.1<0)then none else some (a3s (a2q x (-1073741824)) 1073741823,wrap .i64 (0-(a0z .i64 (1:Int) f.1)),f,())
   else some (a3s (a2q x (-1073741824)) 1073741823,(0:Int),f,()))=_:=hs
 rw[hs'];simp only[oB,c3S hf (c9J hf _ _)];have h1:f.2.2.1.length≥1:=by have:=hf.pos;have:=hf.len;omega
 have h2:decide ((1:Int)≤((f.2.2.1.length:Nat):Int))=true:=by simp;omega
 have e:b4I f.2.2.1 1 (f.2.2.1.length-1) f.2.2.1=f.2.2.1.take 1++f.2.2.1.take (f.2.2.1.length-1):=by
  unfold b4I;rw[a50 (by omega),a49 (by omega),a51]
 have hl:(f.2.2.1.take 1++f.2.2.1.take (f.2.2.1.length-1)).length=f.2.2.1.length:=by simp;omega
 have h3:decide ((0:Int)<(((f.2.2.1.take 1++f.2.2.1.take (f.2.2.1.length-1)).length:Nat):Int))=true:=by rw[hl];simp;omega
 simp only[h2,cT,e,h3];congr 1;have e2:(f.2.2.1.take 1++f.2.2.1.take (f.2.2.1.length-1)).set 0 (a3c x)=a3c x::f.2.2.1.take (f.2.2.1.length-1):=by
  cases hc:f.2.2.1 with
  |nil=>rw[hc]at h1;simp at h1
  |cons a l=>simp
 rw[e2];rfl
@[reducible] def Stg:Type:=Int×(Int×Unit)
theorem a7P{l:List Int}(h:short l):a1j l=some l:=by
 have h1:lim (0+l.length)=true:=a0I (by unfold short at h;omega);unfold a1j b5E;rw[h1,cT]
def b2p(s:Stg):Fil:=(s.2.1,a00 s.1.toNat 0,a00 s.1.toNat 0,())
theorem d0v{s:Stg}(h:stageB s=true):FilOk (b2p s):=by
 simp only[stageB,bA,dT]at h;refine⟨by simp[b2p],by simp[b2p];omega,by simp[b2p];omega,⟨h.2.2.1,h.2.2.2⟩,fun x hx=>?_⟩;simp only[b2p,List.mem_replicate]at hx;omega
theorem b6b{s:Stg}(h:stageB s=true):b0x s=some (b2p s,0):=by
 have h':=h;simp only[stageB,bA,dT]at h';unfold b0x;have h1:decide ((0:Int)≤s.1)=true:=by simp;omega
 have h2:decide (s.1≤s.1)=true:=by simp
 have h3:lim s.1.toNat=true:=a0I (by omega);simp only[b2S,h,oB,bT,cF,h1,h2,h3,a08,cT];rfl
def stO:List Int→List Int→Fil→Option (List Int)
 | [],done,_=>some done
 |r::rs,done,f=>bif a0b (W (a1l f+r))then stO rs (done++[W (a1l f+r)]) (b5d f (W (a1l f+r)))else none
theorem b8R:∀(l done:List Int)(f:Fil){r},stO l done f=some r→r.length=done.length+l.length
 | [],done,f,r,h=>by simp only[stO,sj]at h;rw[←h];simp
 |x::l,done,f,r,h=>by
  simp only[stO]at h;cases hw:a0b (W (a1l f+x))with
  |true=>rw[hw]at h;rw[b8R l _ _ h];simp;omega
  |false=>rw[hw]at h;cases h
theorem b6J{done row:List Int}{i:Nat}(hd:done.length=i)(h:i<row.length):a03 (done++row.drop i) i 0=row[i]:=by
 rw[lD,a43 (by omega),hd,a40,a58,a59,lG h];rfl
theorem c8s{done row:List Int}{i:Nat}(hd:done.length=i)(h:i<row.length)(y:Int):(done++row.drop i).set i y=(done++[y])++row.drop (i+1):=by
 rw[a53 _ _ (by omega),hd,a40,a06 h,a57,aA];rfl
theorem b6K{row b4:List Int}{b5:Int}(hs:short row):∀(k i:Nat)(done:List Int)(f:Fil),i+k=row.length→done.length=i→FilOk f→
  ∃z,a0h a6l ((row.length:Int),(i:Int),b4,b5,done++row.drop i,f,())=some z∧
   match stO (row.drop i) done f with
   |some r=>z=.inl (b4,b5,r,())
   |none=>∃q,z=.inr (([]:List Int),(6:Int),q,())
 |0,i,done,f,h,hd,hf=>by
  obtain rfl:i=row.length:=by omega
  rw[a33,a51];exact⟨_,a0o (b:=Sum.inl (b4,b5,done,())) (by simp[a6l]),rfl⟩
 |k+1,i,done,f,h,hd,hf=>by
  have hi:i<row.length:=by omega
  have hs':row.length<1000000:=hs;have h0:decide ((0:Int)≤(i:Int))=true:=by simp
  have hl:(done++row.drop i).length=row.length:=by simp;omega
  have h1:decide ((i:Int)<(((done++row.drop i).length:Nat):Int))=true:=by rw[hl];simp;omega
  have hst:stO (row.drop i) done f=bif a0b (W (a1l f+row[i]))then stO (row.drop (i+1)) (done++[W (a1l f+row[i])]) (b5d f (W (a1l f+row[i])))else none:=by
   rw[a06 hi];rfl
  rw[hst];cases hw:a0b (W (a1l f+row[i]))with
  |true=>
   rw[a0q (s':=((row.length:Int),((i+1:Nat):Int),b4,b5,(done++[W (a1l f+row[i])])++row.drop (i+1),b5d f (W (a1l f+row[i])),())) (by
    simp only[a6l,dlt hi,h0,h1,cT,a08,a7p hf,oB,tN,b6J hd hi,a6b,hw,bT,cF,b9E hf,c8s hd hi,a0d (show i<1000000 by omega)])]
   exact b6K hs k (i+1) _ _ (by omega) (by simp;omega) (c8r hf _)
  |false=>
   exact⟨_,a0o (b:=Sum.inr (([]:List Int),(6:Int),done++row.drop i,())) (by
    simp only[a6l,dlt hi,h0,h1,cT,a08,a7p hf,oB,tN,b6J hd hi,a6b,hw,a19]),_,rfl⟩
def lO:List Stg→List Int→Option (List Int)
 | [],row=>some row
 |s::r,row=>match stO row [] (b2p s)with
  |some row'=>lO r row'
  |none=>none
theorem c9K{st:List Stg}{s:Stg}{k:Int}{b4:List Int}{row:List Int}(h:stageB s=true)(hs:short row):
  ∃z,a8U k s (st,b4,(0:Int),row,())=some z∧match stO row [] (b2p s)with
   |some r=>z=.inl (st,b4,(0:Int),r,())
   |none=>∃q,z=.inr (.ret,st,([]:List Int),(6:Int),q,()):=by
 obtain⟨z,h1,h2⟩:=b6K (b4:=b4) (b5:=0) hs row.length 0 [] (b2p s) (by omega) rfl (d0v h);simp only[nZ,a32,a09]at h1 h2;unfold a8U;have hne:((0:Int) != 0)=false:=rfl;simp only[b6b h,oB,hne,cF,h1];cases hst:stO row [] (b2p s)with
 |some r=>
  rw[hst]at h2;simp only[]at h2;subst h2;exact⟨_,rfl,rfl⟩
 |none=>
  rw[hst]at h2;obtain⟨q,rfl⟩:=h2;exact⟨_,rfl,q,rfl⟩
theorem c2d{st l:List Stg}{b4:List Int}(hl:∀s∈l,stageB s=true):∀(n:Nat)(row:List Int),n≤l.length→short row→
  ∃z,a6i a8U l n (st,b4,(0:Int),row,())=some z∧match lO (l.take n).reverse row with
   |some r=>z=.inl (st,b4,(0:Int),r,())
   |none=>∃q,z=.inr (.ret,st,([]:List Int),(6:Int),q,())
 |0,row,_,_=>⟨_,rfl,rfl⟩
 |n+1,row,hn,hs=>by
  have hlt:n<l.length:=by omega
  obtain⟨z,h1,h2⟩:=c9K (st:=st) (k:=(n:Int)) (b4:=b4) (hl _ (a64 hlt)) hs;have ht:(l.take (n+1)).reverse=l[n]::(l.take n).reverse:=by rw[a61,lG hlt];simp
  simp only[a6i,lG hlt,h1,ht,lO];cases hst:stO row [] (b2p l[n])with
  |some r=>
   rw[hst]at h2;simp only[]at h2;subst h2;exact c2d hl n r (by omega) (by have:=b8R _ _ _ hst;unfold short at hs⊢;simp at this;omega)
  |none=>
   rw[hst]at h2;obtain⟨q,rfl⟩:=h2;exact⟨_,rfl,q,rfl⟩
def b4l(rest:List Int)(st:List Stg):Option (List Int):=bif rest.all a0b then lO st.reverse rest else none
theorem c6T{rest:List Int}{st:List Stg}(hl:b0C st=true)(hr:rest.length<100000):b2a (rest,st)=some (a3l (b4l rest st)):=by
 have hl':=hl;simp only[b0C,bA,dT]at hl';have hss:short st:=by unfold short;omega
 have hsr:short rest:=by unfold short;omega
 unfold b2a;simp only[b5Y hss,hl,oB,bT,cF,b5X hsr,b4l];cases hw:rest.all a0b with
 |false=>rfl
 |true=>
  obtain⟨z,h1,h2⟩:=c2d (st:=st) (b4:=[]) (lA.1 hl'.2) st.length rest (a42 _) hsr;rw[a62]at h2;simp only[bT,cF,cT,a7P hsr,oB,a0I hss,h1];cases hst:lO st.reverse rest with
  |some r=>
   rw[hst]at h2;simp only[]at h2;subst h2;rfl
  |none=>
   rw[hst]at h2;obtain⟨q,rfl⟩:=h2;rfl
def a6J(n warm:Int):Bool:=decide (1≤n)&&(decide (n≤4096)&&(decide (0≤warm)&&decide (warm≤n)))
theorem b6c(n warm:Int):a8z (n,warm)=some (a6J n warm):=by
 unfold a8z a6J
 by_cases h1:1≤n<;>by_cases h2:n≤4096<;>by_cases h3:0≤warm<;>simp[h1,h2,h3]
theorem d7V{o:Nat}(h:o≤8):1≤2^o∧2^o≤256:=by
 have:o=0∨o=1∨o=2∨o=3∨o=4∨o=5∨o=6∨o=7∨o=8:=by omega
 rcases this with e|e|e|e|e|e|e|e|e<;>rw[e]<;>decide
theorem c8t{N o:Nat}(h:o≤64):a0C .i64 (N:Int) (o:Int)=((N / 2^o:Nat):Int):=by
 unfold a0C;show Int.fdiv (N:Int) (2^(min (o:Int).toNat 64))=_;rw[tN,a50 h,Int.fdiv_eq_ediv_of_nonneg _ (Int.le_of_lt (Int.pow_pos (by decide))),Int.natCast_ediv,a65];rfl
theorem c2K{N o:Nat}(h:o≤64)(hs:N*2^o<9223372036854775808):a0z .i64 (N:Int) (o:Int)=((N*2^o:Nat):Int):=by
 unfold a0z;show wrap .i64 ((N:Int)*2^(min (o:Int).toNat 64))=_;rw[tN,a50 h];have e:(N:Int)*2^o=((N*2^o:Nat):Int):=by rw[Int.natCast_mul,a65];rfl
 rw[e];exact a0f (by omega)
def b8c(o N:Nat)(warm:Int):List Int:=
 if N%2^o=0∧warm≤((N / 2^o:Nat):Int)then(((N / 2^o:Nat):Int)-warm)::a00 (2^o-1) ((N / 2^o:Nat):Int)else[]
def a1C(order n warm:Int):List Int:=bif a6J n warm&&(decide (0≤order)&&decide (order≤8))then b8c order.toNat n.toNat warm else[]
theorem a2E(order n warm:Int):a3P (order,n,warm)=some (a1C order n warm):=by
 unfold a3P a1C;simp only[b6c,oB];cases hr:a6J n warm with
 |false=>rfl
 |true=>
  simp only[a6J,bA,dT]at hr;simp only[bT,cF,a17]
  by_cases h1:order<0
  have:¬ 0≤order:=by omega
  simp[h1,this]
  by_cases h2:order > 8
  have:¬ order≤8:=by omega
  simp[h1,h2,this];obtain⟨o,rfl⟩:=a23 (show 0≤order by omega);obtain⟨N,rfl⟩:=a23 (show 0≤n by omega);have ho:o≤8:=by omega
  have hN:N≤4096:=by omega
  have hp:=d7V ho;have hle:N / 2^o*2^o≤N:=Nat.div_mul_le_self N _;have g0:(0:Int)≤(o:Int):=by omega
  have g8:(o:Int)≤8:=by omega
  simp only[h1,h2,g0,g8,decide_true,decide_false,cF,cT,a08,oB,c8t (N:=N) (show o≤64 by omega),c2K (N:=N / 2^o) (show o≤64 by omega) (by omega),tN];have hmod:=Nat.div_add_mod N (2^o);rw[Nat.mul_comm]at hmod
  by_cases hm:N%2^o=0
  have e1:(((N / 2^o*2^o:Nat):Int) != (N:Int))=false:=by rw[show N / 2^o*2^o=N by omega];simp
  by_cases hw:warm≤((N / 2^o:Nat):Int)
  have e2:decide (((N / 2^o:Nat):Int)<warm)=false:=decide_eq_false (Int.not_lt.2 hw);have e3:wrap .i64 (((N / 2^o:Nat):Int)-warm)=((N / 2^o:Nat):Int)-warm:=a0f (by have:=Nat.div_le_self N (2^o);omega);simp only[e1,e2,e3,cF,oB,b8c,hm,hw,and_self,if_true];have hg:a0z .i64 (1:Int) (o:Int)=((2^o:Nat):Int):=by have:=c2K (N:=1) (show o≤64 by omega) (by omega);simpa using this
  have:=a3G (f:=a7D) (fun i=>((o:Int),((N / 2^o:Nat):Int),(((N / 2^o:Nat):Int)-warm)::a00 i ((N / 2^o:Nat):Int),())) (2^o-1)
   (b:=((((N / 2^o:Nat):Int)-warm)::a00 (2^o-1) ((N / 2^o:Nat):Int),())) (fun i hi=>by
    have hd:decide ((((((N / 2^o:Nat):Int)-warm)::a00 i ((N / 2^o:Nat):Int)).length:Int)<((2^o:Nat):Int))=true:=by
     rw[lC,a31];simp only[dT];omega
    have hlim:lim (((((N / 2^o:Nat):Int)-warm)::a00 i ((N / 2^o:Nat):Int)).length+1)=true:=a0I (by rw[lC,a31];omega);have ea:a00 i ((N / 2^o:Nat):Int)++[((N / 2^o:Nat):Int)]=a00 (i+1) ((N / 2^o:Nat):Int):=by rw[←a39]
    simp only[a7D,h1,decide_false,cF,hg,hd,cT,hlim,a41,a16,ea])
   (by
    have hd:decide ((((((N / 2^o:Nat):Int)-warm)::a00 (2^o-1) ((N / 2^o:Nat):Int)).length:Int)<((2^o:Nat):Int))=false:=by
     rw[lC,a31];simp only[decide_eq_false_iff_not];omega
    simp only[a7D,h1,decide_false,cF,hg,hd])
  simp only[a56]at this;simp only[this,oB];have e2:decide (((N / 2^o:Nat):Int)<warm)=true:=decide_eq_true (Int.not_le.1 hw);simp only[e1,e2,cF,cT,oB,b8c,hw,and_false,if_false];have e1:(((N / 2^o*2^o:Nat):Int) != (N:Int))=true:=by simp only[bne_iff_ne,ne_eq];intro hc;have:=Int.ofNat.inj hc;omega
  simp only[e1,cT,oB,b8c,hm,false_and,if_false]
@[reducible] def Prt:Type:=Int×((List Int)×Unit)
def kB(k:Int):Bool:=(decide (0≤k)&&decide (k≤25)) || (k==31)
def a6B(p:Prt)(n warm:Int):Bool:=!((a1C p.1 n warm).length==0)&&((a1C p.1 n warm).length==p.2.1.length&&p.2.1.all kB)
theorem b6d{p:Prt}{n warm:Int}(hk:short p.2.1):b0w (p,n,warm)=some (a6B p n warm):=by
 have:=a1v (f:=a4i) p.2.1 (fun i=>(p.2.1,(p.2.1.length:Int),(i:Int),())) kB (bt:=Sum.inl ()) (bf:=Sum.inr (false,()))
  (fun i h hp=>by
   simp only[kB,a66,bA,dT,beq_iff_eq]at hp
   by_cases h1:p.2.1[i]<0
   omega
   by_cases h2:p.2.1[i] > 25
   have h3:p.2.1[i]=31:=by omega
   have h4:(p.2.1[i] != 31)=false:=by rw[h3];rfl
   simp[a4i,a0c h,h,h1,h2,h4,a0d (a22 h hk)];simp[a4i,a0c h,h,h1,h2,a0d (a22 h hk)])
  (fun i h hp=>by
   have hp:¬ (kB p.2.1[i]=true):=by rw[hp];simp
   simp only[kB,a66,bA,dT,beq_iff_eq]at hp;have h3:p.2.1[i]≠31:=fun e=>hp (.inr e);have h4:(p.2.1[i] != 31)=true:=by simp[h3]
   by_cases h1:p.2.1[i]<0
   simp[a4i,a0c h,h,h1,h4];have h2:p.2.1[i] > 25:=by omega
   simp[a4i,a0c h,h,h1,h2,h4])
  (by simp[a4i])
 simp only[nZ]at this;unfold b0w a6B;simp only[a2E,oB]
 by_cases h0:(a1C p.1 n warm).length=0
 have e:((((a1C p.1 n warm).length:Nat):Int)==0)=true:=by simp[h0]
 simp[e,h0];have e:((((a1C p.1 n warm).length:Nat):Int)==0)=false:=by simp only[beq_eq_false_iff_ne,ne_eq];omega
 have e':((a1C p.1 n warm).length==0)=false:=by simp only[beq_eq_false_iff_ne,ne_eq];omega
 simp only[e,e',cF,oB,a19,a17]
 by_cases h1:(a1C p.1 n warm).length=p.2.1.length
 have e1:(((p.2.1.length:Nat):Int) != (((a1C p.1 n warm).length:Nat):Int))=false:=by simp[h1]
 have e2:((a1C p.1 n warm).length==p.2.1.length)=true:=by simp[h1]
 simp only[e1,e2,cF,this,oB,a17];cases p.2.1.all kB<;>rfl;have e1:(((p.2.1.length:Nat):Int) != (((a1C p.1 n warm).length:Nat):Int))=true:=by simp only[bne_iff_ne,ne_eq];omega
 have e2:((a1C p.1 n warm).length==p.2.1.length)=false:=by simp only[beq_eq_false_iff_ne,ne_eq];exact h1
 simp only[e1,e2,cT,a68]
@[reducible] def Sub:Type:=Int×(Int×(Int×(Int×(Int×((List Int)×((List Int)×((List Stg)×((List Int)×(Prt×((List Int)×Unit))))))))))
structure SmallS (s:Sub):Prop where
 coefs:s.2.2.2.2.2.1.length≤40
 taps:s.2.2.2.2.2.2.1.length=3
 stages:s.2.2.2.2.2.2.2.1.length≤6
 warm:s.2.2.2.2.2.2.2.2.1.length≤5000
 rest:s.2.2.2.2.2.2.2.2.2.2.1.length≤5000
 ks:s.2.2.2.2.2.2.2.2.2.1.2.1.length≤300
theorem b2U(x y:List Int):eqT (.arr 3 (.int .i64)) x y=decide (x=y):=by
 show((a26 (fun(a b:Int)=>a==b) x y).all id&&x.length==y.length)=_
 induction x generalizing y with
 |nil=>cases y<;>simp
 |cons a x ih=>
  cases y with
  |nil=>simp
  |cons b y=>
   have:=ih y
   simp only[List.zipWith_cons_cons,a44,lC,id];rw[Bool.and_assoc,show((x.length+1==y.length+1):Bool)=(x.length==y.length)from by simp,this]
   by_cases h1:a=b<;>by_cases h2:x=y<;>simp[h1,h2]
theorem b5e{l:List Int}(h:short l):a4G l=some l:=a7P h
theorem c2e{l:List Stg}(h:short l):a1x l=some l:=by
 have h1:lim (0+l.length)=true:=a0I (by unfold short at h;omega);unfold a1x b5E;rw[h1,cT]
def a4K(k:Int)(s:Sub)(n:Int):Prop:=
 k=0∨k=1∨(k=2∧0≤s.2.2.1∧s.2.2.1≤4∧s.2.2.1≤n)∨(k=3∧b0o s.2.2.2.2.2.1 s.2.2.2.1=true∧(s.2.2.2.2.2.1.length:Int)≤n)∨
  (k=4∧b0o s.2.2.2.2.2.1 s.2.2.2.1=true∧(s.2.2.2.2.2.1.length:Int)≤n∧b3I s.2.2.2.2.1 s.2.2.2.2.2.2.1=true)∨
  (k=5∧0<s.2.2.2.2.2.2.2.1.length∧b0C s.2.2.2.2.2.2.2.1=true)
open Classical in
def b6e (k:Int) (s:Sub) (n:Int):Bool:=decide (a4K k s n)
theorem b8d{s:Sub}(h:SmallS s)(k n:Int):a9q (k,s,n)=some (b6e k s n):=by
 have hc:short s.2.2.2.2.2.1:=by have:=h.coefs;unfold short;omega
 have hst:short s.2.2.2.2.2.2.2.1:=by have:=h.stages;unfold short;omega
 unfold a9q b6e a4K
 by_cases k0:k=0
 subst k0;simp
 by_cases k1:k=1
 subst k1;simp;have e0:(k==0)=false:=by simp[k0]
 have e1:(k==1)=false:=by simp[k1]
 simp only[e0,e1,cF,oB]
 by_cases k2:k=2
 subst k2
 by_cases h1:0≤s.2.2.1<;>by_cases h2:s.2.2.1≤4<;>simp[h1,h2]
 by_cases k3:k=3
 subst k3;cases hl:b0o s.2.2.2.2.2.1 s.2.2.2.1<;>simp[b0Z hc,hl]
 by_cases k4:k=4
 subst k4;cases hl:b0o s.2.2.2.2.2.1 s.2.2.2.1<;>by_cases h2:(s.2.2.2.2.2.1.length:Int)≤n<;>simp[b0Z hc,b7t h.taps,hl,h2]
 by_cases k5:k=5
 subst k5
 by_cases h1:0<s.2.2.2.2.2.2.2.1.length
 simp[b5Y hst,h1];simp[h1];have e2:(k==2)=false:=by simp[k2]
 have e3:(k==3)=false:=by simp[k3]
 have e4:(k==4)=false:=by simp[k4]
 have e5:(k==5)=false:=by simp[k5]
 simp only[e2,e3,e4,e5,cF];simp[k0,k1,k2,k3,k4,k5]
def a2F(s:Sub)(n:Int):Int:=if s.1=0 then 1 else if s.1=1 then n else if s.1=2 then s.2.2.1 else if s.1=3∨s.1=4 then(s.2.2.2.2.2.1.length:Int)else 0
theorem b1A(s:Sub)(n:Int):a5y (s,n)=some (a2F s n):=by
 obtain⟨k,s⟩:=s;unfold a5y a2F
 by_cases k0:k=0
 subst k0;simp
 by_cases k1:k=1
 subst k1;simp
 by_cases k2:k=2
 subst k2;simp
 by_cases k3:k=3
 subst k3;simp
 by_cases k4:k=4
 subst k4;simp;have e0:(k==0)=false:=by simp[k0]
 have e1:(k==1)=false:=by simp[k1]
 have e2:(k==2)=false:=by simp[k2]
 have e3:(k==3)=false:=by simp[k3]
 have e4:(k==4)=false:=by simp[k4]
 simp[k0,k1,k2,k3,k4,e0,e1,e2,e3,e4]
def b8e(s:Sub):Prop:=
 (s.1≠2→s.2.2.1=0)∧(s.1≠3∧s.1≠4→s.2.2.2.1=0)∧(s.1≠4→s.2.2.2.2.1=0)∧(s.1≠4→s.2.2.2.2.2.2.1=[0,0,0])∧(s.1≠3∧s.1≠4→s.2.2.2.2.2.1=[])∧(s.1≠5→s.2.2.2.2.2.2.2.1=[])
open Classical in
def b8f (s:Sub):Bool:=decide (b8e s)
theorem b1o{c x:Bool}:(bif c then some x else some false)=some (c&&x):=by cases c<;>rfl
theorem c5j{α:Type}(l:List α):(((l.length:Nat):Int)==0)=decide (l=[]):=by
 cases l with
 |nil=>rfl
 |cons a l=>simp;omega
theorem c5k(x:Int):(x==0)=decide (x=0):=rfl
theorem c8u{s:Sub}(h:SmallS s):b3l s=some (b8f s):=by
 have hc:short s.2.2.2.2.2.1:=by have:=h.coefs;unfold short;omega
 have hst:short s.2.2.2.2.2.2.2.1:=by have:=h.stages;unfold short;omega
 obtain⟨k,w,o,sh,lag,c,t,st,wm,p,r,u⟩:=s;simp only at hc hst;unfold b3l a7d b8f b8e;have ht:(a00 3 (0:Int))=[0,0,0]:=rfl
 by_cases k2:k=2
 subst k2;simp[b2U,ht,b1o,c5j,c5k]
 by_cases k4:k=4
 subst k4;simp[b2U,ht,b1o,c5j,c5k,b5e hc]
 by_cases k3:k=3
 subst k3;simp[b2U,ht,b1o,c5j,c5k,b5e hc]
 by_cases k5:k=5
 subst k5;simp[b2U,ht,b1o,c5j,c5k,c2e hst];have e2:(k==2)=false:=by simp[k2]
 have e3:(k==3)=false:=by simp[k3]
 have e4:(k==4)=false:=by simp[k4]
 have e5:(k==5)=false:=by simp[k5]
 simp[e2,e3,e4,e5,k2,k3,k4,k5,b2U,ht,b1o,c5j,c5k]
theorem a7w(k:Int):a7b k=some (decide (k≠0∧k≠1)):=by
 unfold a7b
 by_cases h0:k=0
 subst h0;rfl
 by_cases h1:k=1
 subst h1;rfl;have e:(k != 0)=true:=by simp[h0]
 simp[e,h0,h1]
def a1I(s:Sub)(n:Int):Prop:=
 1≤n∧n≤4096∧a4K s.1 s n∧b8e s∧0≤s.2.1∧s.2.1≤30∧(s.1=0→s.2.1=0)∧(s.2.2.2.2.2.2.2.2.1.length:Int)=a2F s n∧s.2.2.2.2.2.2.2.2.1.all a0b=true∧s.2.2.2.2.2.2.2.2.2.2.1.all a0b=true∧
  (s.1=0∨s.1=1→s.2.2.2.2.2.2.2.2.2.2.1=[]∧s.2.2.2.2.2.2.2.2.2.1.1=0∧s.2.2.2.2.2.2.2.2.2.1.2.1=[])∧
  (s.1≠0∧s.1≠1→(s.2.2.2.2.2.2.2.2.2.2.1.length:Int)=n-a2F s n∧a6B s.2.2.2.2.2.2.2.2.2.1 n (a2F s n)=true)
theorem c9L{s:Sub}(h:SmallS s){n:Int}(h1:1≤n)(h2:n≤4096)(hf:a4K s.1 s n):0≤a2F s n∧a2F s n≤4096:=by
 have hc:=h.coefs;unfold a2F;rcases hf with k|k|⟨k,h3⟩|⟨k,h3⟩|⟨k,h3⟩|⟨k,h3⟩<;>simp[k]<;>omega
open Classical in
theorem d3A {s:Sub} (h:SmallS s) (n:Int):b1V (s,n)=some (decide (a1I s n)):=by
 have hw:short s.2.2.2.2.2.2.2.2.1:=by have:=h.warm;unfold short;omega
 have hr:short s.2.2.2.2.2.2.2.2.2.2.1:=by have:=h.rest;unfold short;omega
 have hk:short s.2.2.2.2.2.2.2.2.2.1.2.1:=by have:=h.ks;unfold short;omega
 unfold b1V
 by_cases h1:1≤n
 rotate_left
 ·have e1:decide (n<1)=true:=by simp;omega
  have:¬ a1I s n:=fun hp=>h1 hp.1
  simp only[e1,cT,oB,this,decide_false]
 have e1:decide (n<1)=false:=by simp;omega
 by_cases h2:n≤4096
 rotate_left
 ·have e2:decide (n > 4096)=true:=by simp;omega
  have:¬ a1I s n:=fun hp=>h2 hp.2.1
  simp only[e1,e2,cT,cF,oB,this,decide_false]
 have e2:decide (n > 4096)=false:=by simp;omega
 by_cases h3:a4K s.1 s n
 rotate_left
 ·have e3:b6e s.1 s n=false:=by simp[b6e,h3]
  have:¬ a1I s n:=fun hp=>h3 hp.2.2.1
  simp only[e1,e2,b8d h,e3,cT,cF,a19,oB,this,decide_false]
 have e3:b6e s.1 s n=true:=by simp[b6e,h3]
 by_cases h4:b8e s
 rotate_left
 ·have e4:b8f s=false:=by simp[b8f,h4]
  have:¬ a1I s n:=fun hp=>h4 hp.2.2.2.1
  simp only[e1,e2,b8d h,e3,c8u h,e4,cT,cF,a19,bT,oB,this,decide_false]
 have e4:b8f s=true:=by simp[b8f,h4]
 simp only[e1,e2,b8d h,e3,c8u h,e4,cF,bT,oB]
 by_cases h5:0≤s.2.1
 rotate_left
 ·have e5:decide (s.2.1<0)=true:=by simp;omega
  have:¬ a1I s n:=fun hp=>h5 hp.2.2.2.2.1
  simp only[e5,cT,oB,this,decide_false]
 have e5:decide (s.2.1<0)=false:=by simp;omega
 by_cases h6:s.2.1≤30
 rotate_left
 ·have e6:decide (s.2.1 > 30)=true:=by simp;omega
  have:¬ a1I s n:=fun hp=>h6 hp.2.2.2.2.2.1
  simp only[e5,e6,cT,cF,oB,this,decide_false]
 have e6:decide (s.2.1 > 30)=false:=by simp;omega
 simp only[e5,e6,cF]
 by_cases h7:s.1=0→s.2.1=0
 rotate_left
 ·have h7a:s.1=0:=Classical.byContradiction fun hc=>h7 fun e=>absurd e hc
  have h7b:(s.2.1 != 0)=true:=by
   simp only[bne_iff_ne,ne_eq];intro e;exact h7 fun _=>e
  have e7:(s.1==0)=true:=by simp[h7a]
  have:¬ a1I s n:=fun hp=>h7 hp.2.2.2.2.2.2.1
  simp only[e7,h7b,cT,oB,this,decide_false]
 have e7:(bif s.1==0 then some (n,(s.2.1 != 0,(s,())))else some (n,(false,(s,()))))=some (n,(false,(s,()))):=by
  by_cases k0:s.1=0
  ·simp[k0,h7 k0]
  ·have:(s.1==0)=false:=by simp[k0]
   rw[this];rfl
 simp only[e7,oB,cF,b1A]
 by_cases h8:(s.2.2.2.2.2.2.2.2.1.length:Int)=a2F s n
 rotate_left
 ·have e8:(((s.2.2.2.2.2.2.2.2.1.length:Nat):Int) != a2F s n)=true:=by simp only[bne_iff_ne,ne_eq];exact h8
  have:¬ a1I s n:=fun hp=>h8 hp.2.2.2.2.2.2.2.1
  simp only[e8,cT,oB,this,decide_false]
 have e8:(((s.2.2.2.2.2.2.2.2.1.length:Nat):Int) != a2F s n)=false:=by rw[h8];simp
 simp only[e8,cF,a5v hw,a5v hr,oB]
 cases h9:s.2.2.2.2.2.2.2.2.1.all a0b with
 |false=>
  have:¬ a1I s n:=fun hp=>by rw[hp.2.2.2.2.2.2.2.2.1]at h9;cases h9
  simp only[a19,cT,oB,this,decide_false]
 |true=>
  cases h10:s.2.2.2.2.2.2.2.2.2.2.1.all a0b with
  |false=>
   have:¬ a1I s n:=fun hp=>by rw[hp.2.2.2.2.2.2.2.2.2.1]at h10;cases h10
   simp only[a19,bT,cT,cF,oB,this,decide_false]
  |true=>
   simp only[bT,cF,oB,a7w]
   have hwr:=c9L h h1 h2 h3
   by_cases k01:s.1≠0∧s.1≠1
   ·have e11:wrap .i64 (n-a2F s n)=n-a2F s n:=a0f (by omega)
    simp only[k01,ne_eq,not_false_eq_true,and_self,decide_true,bT,cF,e11,b6d hk,oB]
    by_cases h11:(s.2.2.2.2.2.2.2.2.2.2.1.length:Int)=n-a2F s n
    ·have e12:(((s.2.2.2.2.2.2.2.2.2.2.1.length:Nat):Int)==n-a2F s n)=true:=by simp[h11]
     simp only[e12,cT]
     congr 1
     rw[a52,dT]
     constructor
     ·intro hp
      exact⟨h1,h2,h3,h4,h5,h6,h7,h8,h9,h10,fun hc=>absurd hc (by omega),fun _=>⟨h11,hp⟩⟩
     ·intro hp;exact(hp.2.2.2.2.2.2.2.2.2.2.2 k01).2
    ·have e12:(((s.2.2.2.2.2.2.2.2.2.2.1.length:Nat):Int)==n-a2F s n)=false:=by simp only[beq_eq_false_iff_ne,ne_eq];exact h11
     have:¬ a1I s n:=fun hp=>h11 (hp.2.2.2.2.2.2.2.2.2.2.2 k01).1
     simp only[e12,cF,this,decide_false]
   ·have k01':s.1=0∨s.1=1:=by omega
    simp only[k01,decide_false,a19,cT,c5j]
    simp only[c5k,b1o]
    congr 1
    rw[a52,dT]
    simp only[bA,dT]
    constructor
    ·rintro⟨g1,g2,g3⟩
     exact⟨h1,h2,h3,h4,h5,h6,h7,h8,h9,h10,fun _=>⟨g1,g2,g3⟩,fun hc=>absurd hc k01⟩
    ·intro hp;exact hp.2.2.2.2.2.2.2.2.2.2.1 k01'
theorem b8S{α:Type}[DecidableEq α](q:α→α→Bool)(hq:∀a b,q a b=decide (a=b)):∀(x y:List α),x.length=y.length→((x.zip y).all fun p=>q p.1 p.2)=decide (x=y)
 | [],[],_=>by simp
 |a::x,b::y,h=>by
  have ih:=b8S q hq x y (by simpa using h);simp only[List.zip_cons_cons,a44];rw[ih,hq]
  by_cases h1:a=b<;>by_cases h2:x=y<;>simp[h1,h2]
theorem b3K{x y:List Int}(h:short x):a3Q (x,y)=some (decide (x=y)):=by
 unfold a3Q
 by_cases hl:x.length=y.length
 have e:(((x.length:Nat):Int) != ((y.length:Nat):Int))=false:=by rw[hl];simp
 have hz:(x.zip y).length=x.length:=by rw[a67];omega
 have:=a1v (f:=a5D) (x.zip y) (fun i=>(x,y,(i:Int),())) (fun p=>p.1==p.2) (bt:=Sum.inl ()) (bf:=Sum.inr (false,()))
  (fun i hi hp=>by
   have h1:i<x.length:=by omega
   have h2:i<y.length:=by omega
   rw[a38]at hp;have hp:x[i]=y[i]:=by simpa using hp
   have hne:(x[i] != y[i])=false:=by rw[hp];simp
   simp only[a5D,dlt h1,cT,a0c h1,a0c h2,oB,hne,cF,a0d (a22 h1 h)])
  (fun i hi hp=>by
   have h1:i<x.length:=by omega
   have h2:i<y.length:=by omega
   rw[a38]at hp;have hne:(x[i] != y[i])=true:=by simpa using hp
   simp only[a5D,dlt h1,cT,a0c h1,a0c h2,oB,hne])
  (by rw[hz];simp[a5D])
 simp only[nZ]at this;simp only[e,cF,this,b8S (fun(a b:Int)=>a==b) (fun _ _=>rfl) x y hl];cases decide (x=y)<;>rfl;have e:(((x.length:Nat):Int) != ((y.length:Nat):Int))=true:=by simp only[bne_iff_ne,ne_eq];omega
 have:¬ x=y:=fun hc=>hl (by rw[hc])
 simp only[e,cT,this,decide_false]
theorem c6U{x y:List Stg}(h:short x):a7J (x,y)=some (decide (x=y)):=by
 have heq:∀a b:Stg,eqT (.pair (.int .i64) (.pair (.int .i64) .unit)) a b=decide (a=b):=by
  rintro⟨a1,a2,⟨⟩⟩ ⟨b1,b2,⟨⟩⟩
  show((a1==b1)&&((a2==b2)&&true))=_
  by_cases h1:a1=b1<;>by_cases h2:a2=b2<;>simp[h1,h2]
 unfold a7J
 by_cases hl:x.length=y.length
 have e:(((x.length:Nat):Int) != ((y.length:Nat):Int))=false:=by rw[hl];simp
 have hz:(x.zip y).length=x.length:=by rw[a67];omega
 have:=a1v (f:=a4b) (x.zip y) (fun i=>(x,y,(i:Int),())) (fun p=>decide (p.1=p.2)) (bt:=Sum.inl ()) (bf:=Sum.inr (false,()))
  (fun i hi hp=>by
   have h1:i<x.length:=by omega
   have h2:i<y.length:=by omega
   rw[a38]at hp;simp only[a4b,dlt h1,cT,a0c h1,a0c h2,oB,heq,hp,bT,cF,a0d (a22 h1 h)])
  (fun i hi hp=>by
   have h1:i<x.length:=by omega
   have h2:i<y.length:=by omega
   rw[a38]at hp;simp only[a4b,dlt h1,cT,a0c h1,a0c h2,oB,heq,hp,a19])
  (by rw[hz];simp[a4b])
 simp only[nZ]at this;simp only[e,cF,this,b8S (fun(a b:Stg)=>decide (a=b)) (fun _ _=>rfl) x y hl];cases decide (x=y)<;>rfl;have e:(((x.length:Nat):Int) != ((y.length:Nat):Int))=true:=by simp only[bne_iff_ne,ne_eq];omega
 have:¬ x=y:=fun hc=>hl (by rw[hc])
 simp only[e,cT,this,decide_false]
open Classical in
theorem d2b {a b:Sub} (h:SmallS a):b0X (a,b)=some (decide (a=b)):=by
 have hc:short a.2.2.2.2.2.1:=by have:=h.coefs;unfold short;omega
 have hst:short a.2.2.2.2.2.2.2.1:=by have:=h.stages;unfold short;omega
 have hw:short a.2.2.2.2.2.2.2.2.1:=by have:=h.warm;unfold short;omega
 have hr:short a.2.2.2.2.2.2.2.2.2.2.1:=by have:=h.rest;unfold short;omega
 have hk:short a.2.2.2.2.2.2.2.2.2.1.2.1:=by have:=h.ks;unfold short;omega
 unfold b0X b2Q
 simp only[b3K hc,b3K hw,b3K hr,b3K hk,c6U hst,b2U,oB,b1o]
 congr 1
 obtain⟨k,w,o,sh,lag,c,t,st,wm,⟨po,ks,⟨⟩⟩,r,⟨⟩⟩:=a
 obtain⟨k',w',o',sh',lag',c',t',st',wm',⟨po',ks',⟨⟩⟩,r',⟨⟩⟩:=b
 rw[a52]
 simp only[bA,dT,beq_iff_eq,pJ,and_true,and_assoc]
theorem d3B{k:Int}{s:Sub}{n:Int}(h:a4K k s n):k=0∨k=1∨k=2∨k=3∨k=4∨k=5:=by
 unfold a4K at h;omega
def c2L(warm rest:List Int)(o:Int):Option (List Int):=bif warm.all a0b&&rest.all a0b then a5a (a5H o.toNat) rest warm else none
def backP(s:Sub):Option (List Int):=
 if s.1=1 then some s.2.2.2.2.2.2.2.2.1
 else if s.1=2 then c2L s.2.2.2.2.2.2.2.2.1 s.2.2.2.2.2.2.2.2.2.2.1 s.2.2.1
 else if s.1=3 then b5Z s.2.2.2.2.2.2.2.2.1 s.2.2.2.2.2.2.2.2.2.2.1 s.2.2.2.2.2.1 s.2.2.2.1
 else if s.1=4 then(b5Z s.2.2.2.2.2.2.2.2.1 s.2.2.2.2.2.2.2.2.2.2.1 s.2.2.2.2.2.1 s.2.2.2.1).bind fun l=>b5c l s.2.2.2.2.1 s.2.2.2.2.2.2.1
 else b4l s.2.2.2.2.2.2.2.2.2.2.1 s.2.2.2.2.2.2.2.1
def c5l(s:Sub)(n:Int):Option (List Int):=
 if s.1=0 then some (a00 n.toNat (s.2.2.2.2.2.2.2.2.1.getD 0 0))else(backP s).bind (upO s.2.1)
theorem b3L{w r c:List Int}{s:Int}{l}(h:b5Z w r c s=some l):l.length=w.length+r.length:=by
 unfold b5Z at h;cases hc:(w.all a0b&&r.all a0b)with
 |false=>rw[hc]at h;cases h
 |true=>
  rw[hc]at h;exact(b5a _ r w l (a55.1 hc).1 h).2
theorem c2f{w r:List Int}{o:Int}{l}(h:c2L w r o=some l):l.length=w.length+r.length:=by
 unfold c2L at h;cases hc:(w.all a0b&&r.all a0b)with
 |false=>rw[hc]at h;cases h
 |true=>
  rw[hc]at h;exact(b5a _ r w l (a55.1 hc).1 h).2
theorem c0T{r t:List Int}{lag:Int}{l}(h:b5c r lag t=some l):l.length=r.length:=by
 unfold b5c at h;cases hc:r.all a0b with
 |false=>rw[hc]at h;cases h
 |true=>
  rw[hc]at h
  have:=(b5a _ r [] l rfl h).2
  simpa using this
theorem c6h:∀(st:List Stg)(r:List Int){l},lO st r=some l→l.length=r.length
 | [],r,l,h=>by simp only[lO,sj]at h;rw[h]
 |s::st,r,l,h=>by
  simp only[lO]at h
  split at h
  rename_i r' hr;rw[c6h st r' h,b8R _ _ _ hr];simp;cases h
theorem b9F{r:List Int}{st:List Stg}{l}(h:b4l r st=some l):l.length=r.length:=by
 unfold b4l at h;cases hc:r.all a0b with
 |false=>rw[hc]at h;cases h
 |true=>rw[hc]at h;exact c6h _ _ h
theorem c8v{s:Sub}(h:SmallS s){l}(hl:backP s=some l):l.length<100000:=by
 have hw:=h.warm;have hr:=h.rest;unfold backP at hl
 split at hl
 simp only[sj]at hl;rw[←hl];omega
 split at hl
 rw[c2f hl];omega
 split at hl
 rw[b3L hl];omega
 split at hl
 obtain⟨l1,h1,h2⟩:=Option.bind_eq_some_iff.1 hl;rw[c0T h2,b3L h1];omega;rw[b9F hl];omega
theorem d3C{s:Sub}{n:Int}(h1:1≤n)(h2:n≤4096)(hw:s.2.2.2.2.2.2.2.2.1.length=1):
  a0h a8g (n,(0:Int),([]:List Int),s,())=some (a00 n.toNat (s.2.2.2.2.2.2.2.2.1.getD 0 0),()):=by
 obtain⟨N,rfl⟩:=a23 (show 0≤n by omega);have hg:a0p s.2.2.2.2.2.2.2.2.1 (0:Int)=some (s.2.2.2.2.2.2.2.2.1.getD 0 0):=c8n (by omega) (by omega)
 have:=a3G (f:=a8g) (fun i=>((N:Int),(i:Int),a00 i (s.2.2.2.2.2.2.2.2.1.getD 0 0),s,())) N
  (b:=(a00 N (s.2.2.2.2.2.2.2.2.1.getD 0 0),())) (fun i hi=>by
   have hlim:lim ((a00 i (s.2.2.2.2.2.2.2.2.1.getD 0 0)).length+1)=true:=a0I (by rw[a31];omega);have ea:a00 i (s.2.2.2.2.2.2.2.2.1.getD 0 0)++[s.2.2.2.2.2.2.2.2.1.getD 0 0]=a00 (i+1) (s.2.2.2.2.2.2.2.2.1.getD 0 0):=by rw[←a39]
   simp only[a8g,dlt hi,cT,hg,oB,hlim,a41,ea,a0d (show i<1000000 by omega)])
  (by simp[a8g])
 simpa using this
theorem d4Z(o:Option (List Int)):((a3l o).1,(a3l o).2)=a3l o:=by cases o<;>rfl
theorem c9M{s:Sub}(h:SmallS s){n:Int}(hp:a1I s n):b4R (s,n)=some (a3l (c5l s n)):=by
 have hbl:=fun l (hl:backP s=some l)=>c8v h hl;obtain⟨h1,h2,hf,-,hw0,hw30,-,hlen,hw,hr,-⟩:=hp;have hsr:=h.rest;have hsw:=h.warm;have ht:=h.taps;have hfl:=d3C (s:=s) h1 h2;obtain⟨k,w,o,sh,lag,c,t,st,wm,p,r,u⟩:=s;simp only at *;have up:∀l,l.length<100000→b0y (l,w)=some (a3l (upO w l)):=fun l hl=>c8p hw0 hw30 hl;unfold b4R c5l;rcases hf with k0|k0|⟨k0,g1,g2,g3⟩|⟨k0,g1,g2⟩|⟨k0,g1,g2,g3⟩|⟨k0,g1,g2⟩;subst k0;simp only[a2F]at hlen
 have:=hfl (by simp at hlen;omega)
 simp[this,a3l];subst k0;simp only[backP]at hbl⊢
 have:=up wm (by omega)
 simp[this,d4Z]
 ·subst k0;obtain⟨O,rfl⟩:=a23 g1;have g2:(O:Int)≤4:=g2;simp only[a2F]at hlen;have hO:wm.length=O:=by simp at hlen;omega
  have h5:=c6R (warm:=wm) (rest:=r) (o:=O) (by omega) hO (by omega);simp only[backP]at hbl⊢;simp[h5];have e:(bif wm.all a0b&&r.all a0b then a5a (a5H O) r wm else none)=c2L wm r (O:Int):=rfl;rw[e];cases hl:c2L wm r (O:Int)with
  |none=>simp[a3l]
  |some l=>simp[a3l,up l (by rw[c2f hl];omega)]
 ·subst k0;simp only[a2F]at hlen;have hO:wm.length=c.length:=by simp at hlen;omega
  have h5:=b8b (rest:=r) g1 hO (by omega);simp only[backP]at hbl⊢;simp[h5];cases hl:b5Z wm r c sh with
  |none=>simp[a3l]
  |some l=>simp[a3l,up l (by rw[b3L hl];omega)]
 ·subst k0;simp only[a2F]at hlen;have hO:wm.length=c.length:=by simp at hlen;omega
  have h5:=b8b (rest:=r) g1 hO (by omega);simp only[backP]at hbl⊢;simp[h5];cases hl:b5Z wm r c sh with
  |none=>simp[a3l]
  |some l=>
   have hll:=b3L hl;have h6:=c8o (rest:=l) g3 ht (by omega);simp[a3l,h6];cases hl2:b5c l lag t with
   |none=>simp
   |some l2=>simp[up l2 (by rw[c0T hl2];omega)];cases upO w l2<;>simp[a3l]
 ·subst k0;have h5:=c6T (rest:=r) g2 (by omega);simp only[backP]at hbl⊢;simp[h5];cases hl:b4l r st with
  |none=>simp[a3l]
  |some l=>simp[a3l,up l (by rw[b9F hl];omega)]
open Classical in
def a2Q (s:Sub) (n:Int):Option (List Int):=if a1I s n then c5l s n else none
theorem c3T{s:Sub}(h:SmallS s)(n:Int):b4e (s,n)=some (match a2Q s n with|some r=>(r,0)|none=>([],1)):=by
 unfold b4e a2Q;simp only[d3A h,oB]
 by_cases hp:a1I s n
 simp only[hp,decide_true,bT,cF,c9M h hp,oB,if_true];cases c5l s n<;>simp[a3l];simp only[hp,decide_false,a19,cT,if_false]
theorem c3U{s:Sub}(h:SmallS s)(n:Int):b1x (s,n)=some (a2Q s n).isSome:=by
 unfold b1x;simp only[c3T h,oB];cases a2Q s n<;>rfl
@[reducible] def Wr:Type:=(List Int)×(Int×Unit)
def c5m(w:Wr)(b:Int):Wr:=
 let bs:=if w.2.1%8=0 then w.1++[0]else w.1
 (bs.set (w.2.1 / 8).toNat (bits .u8 .or (bs.getD (w.2.1 / 8).toNat 0) (a0z .u8 b (7-w.2.1%8))),w.2.1+1,())
def wL(L:List Int):Wr:=L.foldl c5m ([],0,())
theorem c5n(L:List Int)(b:Int):wL (L++[b])=c5m (wL L) b:=by simp[wL]
theorem c3V:∀(n:Nat)(L:List Int),L.length=n→(wL L).2.1=L.length∧(wL L).1.length=(L.length+7) / 8
 |0,L,h=>by
  rw[List.length_eq_zero_iff.1 h];exact⟨rfl,rfl⟩
 |n+1,L,h=>by
  obtain⟨L',b,rfl⟩:∃L' b,L=L'++[b]:=by
   rcases List.eq_nil_or_concat L with rfl|⟨L',b,e⟩;simp at h;exact⟨L',b,by rw[e,List.concat_eq_append]⟩
  obtain⟨h1,h2⟩:=c3V n L' (by simpa using h);rw[c5n];simp only[c5m,List.length_set,lN,List.length_singleton,h1];refine⟨by omega,?_⟩
  by_cases h:(L'.length:Int)%8=0
  rw[if_pos h];simp;omega;rw[if_neg h];omega
theorem a6K(L:List Int):(wL L).2.1=L.length∧(wL L).1.length=(L.length+7) / 8:=c3V _ L rfl
theorem c3W{L:List Int}(hL:L.length<1000000000)(b:Int):a2J (wL L,b)=some (wL (L++[b])):=by
 obtain⟨h1,h2⟩:=a6K L;have ht:a25 ((L.length:Nat):Int) 8=((L.length:Nat):Int)%8:=Int.tmod_eq_emod_of_nonneg (by omega);have hd:a18 ((L.length:Nat):Int) 8=((L.length:Nat):Int) / 8:=Int.tdiv_eq_ediv_of_nonneg (by omega);have e1:wrap .i64 (((L.length:Nat):Int) / 8)=((L.length:Nat):Int) / 8:=a0f (by omega);have e2:wrap .i64 (7-((L.length:Nat):Int)%8)=7-((L.length:Nat):Int)%8:=a0f (by omega);have e3:wrap .i64 (((L.length:Nat):Int)+1)=((L.length:Nat):Int)+1:=a0f (by omega);have g0:decide ((0:Int)≤((L.length:Nat):Int) / 8)=true:=by simp;omega
 have g1:decide (7-((L.length:Nat):Int)%8<0)=false:=by simp;omega
 rw[c5n];generalize wL L=wr at h1 h2⊢;obtain⟨bs,n,u⟩:=wr;have h1:n=((L.length:Nat):Int):=h1;have h2:bs.length=(L.length+7) / 8:=h2;subst h1;unfold a2J c5m
 by_cases h:((L.length:Nat):Int)%8=0
 have hb:(((L.length:Nat):Int)%8==0)=true:=by simp[h]
 have hl:lim (bs.length+1)=true:=a1u (by omega);have hlt:decide (((L.length:Nat):Int) / 8<(((bs++[0]).length:Nat):Int))=true:=by simp;omega
 simp only[hb,cT,hl,oB,hd,e1,e2,e3,ht,g0,g1,a41,hlt,a08,cF,if_pos h];have hb:(((L.length:Nat):Int)%8==0)=false:=by simp only[beq_eq_false_iff_ne,ne_eq];exact h
 have hlt:decide (((L.length:Nat):Int) / 8<((bs.length:Nat):Int))=true:=by simp;omega
 simp only[hb,cF,oB,hd,e1,e2,e3,ht,g0,g1,hlt,a08,cT,if_neg h]
def a7Q(v:Int)(i:Nat):Int:=wrap .u8 (bits .u64 .and (a0C .u64 v (i:Int)) 1)
def pb(v:Int):Nat→List Int
 |0=>[]
 |i+1=>a7Q v i::pb v i
theorem b4m(v:Int):∀n,(pb v n).length=n
 |0=>rfl
 |n+1=>by simp[pb,b4m v n]
def a0w(v:Int)(n:Nat)(L:List Int):List Int:=bif a0C .u64 v (n:Int) != 0 then L else L++pb v n
theorem a0F(v:Int)(n:Nat)(L:List Int):L.length≤(a0w v n L).length∧(a0w v n L).length≤L.length+n:=by
 unfold a0w;cases (a0C .u64 v (n:Int) != 0)<;>simp[b4m]
def a9C(v:Int)(n:Nat):Int:=bif a0C .u64 v (n:Int) != 0 then 1 else 0
theorem c8w{v:Int}:∀(n:Nat)(L:List Int),L.length+n<1000000000→a0h a4X (v,(n:Int)-1,wL L,())=some (wL (L++pb v n),())
 |0,L,_=>by rw[a0o (b:=(wL L,())) (by simp[a4X])];simp[pb]
 |n+1,L,h=>by
  have e:((n+1:Nat):Int)-1=(n:Int):=by omega
  have e1:wrap .i64 ((n:Int)-1)=(n:Int)-1:=a0f (by omega);have h1:decide ((n:Int)≥0)=true:=by simp
  have h2:decide ((n:Int)<0)=false:=by simp
  rw[e,a0q (s':=(v,(n:Int)-1,wL (L++[a7Q v n]),())) (by
   simp only[a4X,h1,h2,cT,cF,show wrap .u8 (bits .u64 .and (a0C .u64 v (n:Int)) 1)=a7Q v n from rfl,c3W (show L.length<1000000000 by omega),oB,e1])]
  rw[c8w n (L++[a7Q v n]) (by simp;omega),pb]
  simp
theorem a4e{L:List Int}{v:Int}{n:Nat}(hn:n≤63)(hL:L.length<999999000):a0m (wL L,v,(n:Int))=some (a9C v n,wL (a0w v n L)):=by
 unfold a0m a9C a0w;have h1:decide ((n:Int)<0)=false:=by simp
 have h2:decide ((n:Int) > 64)=false:=by simp;omega
 have e1:wrap .i64 ((n:Int)-1)=(n:Int)-1:=a0f (by omega);simp only[h1,h2,cF,oB];cases (a0C .u64 v (n:Int) != 0)with
 |true=>rfl
 |false=>simp only[cF,e1,c8w n L (by omega),oB]
def unL(n:Nat)(L:List Int):List Int:=L++a00 n 0++[1]
theorem c8x{L:List Int}{n:Nat}(hn:n≤4096)(hL:L.length<999990000):a2Y (wL L,(n:Int))=some (0,wL (unL n L)):=by
 unfold a2Y unL;have h1:decide ((n:Int)<0)=false:=by simp
 have h2:decide ((n:Int) > 4096)=false:=by simp;omega
 simp only[h1,h2,cF,oB]
 have:=a3G (f:=a4n) (fun i=>((n:Int),(i:Int),wL (L++a00 i 0),())) n (b:=(wL (L++a00 n 0),())) (fun i hi=>by
   have ea:L++a00 i (0:Int)++[0]=L++a00 (i+1) 0:=by rw[aA,←a39]
   simp only[a4n,dlt hi,cT,c3W (show(L++a00 i (0:Int)).length<1000000000 by simp;omega),oB,ea,a0d (show i<1000000 by omega)])
  (by simp[a4n])
 simp only[nZ,a56,a51]at this;simp only[this,oB,c3W (show(L++a00 n (0:Int)).length<1000000000 by simp;omega)]
theorem b0g(n:Nat)(L:List Int):(unL n L).length=L.length+n+1:=by simp[unL];omega
def a0H(x:Int)(n:Nat):Int:=bits .u64 .and (wrap .u64 x) (wrap .u64 ((a0z .u64 1 (n:Int))-1))
def a1P(n:Nat)(l:List Int)(L:List Int):List Int:=l.foldl (fun L x=>a0w (a0H x n) n L) L
theorem a7q(n:Nat):∀(l L:List Int),L.length≤(a1P n l L).length∧(a1P n l L).length≤L.length+n*l.length
 | [],L=>by simp[a1P]
 |x::l,L=>by
  have h1:=a0F (a0H x n) n L;have h2:=a7q n l (a0w (a0H x n) n L);have e:a1P n (x::l) L=a1P n l (a0w (a0H x n) n L):=rfl;rw[e,lC,Nat.mul_add,Nat.mul_one];omega
theorem b6f{L:List Int}{x:Int}{n:Nat}(hn:n≤63)(hL:L.length<999999000):a3B (wL L,x,(n:Int))=some (wL (a0w (a0H x n) n L)):=by
 unfold a3B;have h1:decide ((n:Int)<0)=false:=by simp
 simp only[h1,cF,show bits .u64 .and (wrap .u64 x) (wrap .u64 ((a0z .u64 1 (n:Int))-1))=a0H x n from rfl,a4e hn hL,oB]
end Go.Ab
