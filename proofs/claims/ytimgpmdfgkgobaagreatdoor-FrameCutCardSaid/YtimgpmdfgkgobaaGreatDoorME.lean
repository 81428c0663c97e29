/- Part of the proof: It. Conditions: as each statement tells. -/
import Derived.RangeFuncBound
import Derived.RangeFuncCalls
import Derived.RangeFuncBox
import Derived.WalkKit
import Derived.OwnWalkIn
import Derived.TacticsInMore
import Derived.LoopNIn
import Derived.LoopIn
import Derived.Test.YtimgpmdfgkgobaaGreatDoorProg
import Derived.KernelRfl
import Derived.Test.YtimgpmdfgkgobaaGreatDoorMD
noncomputable section
set_option linter.unusedSimpArgs false
set_option linter.unusedVariables false
open Array renaming replicate_succ→a19,replicate_zero→a20
open BitVec renaming ofInt_natCast→a51,toNat_ofNat→a55,ofInt→a63
open Bool renaming and_self→a07,true_and→a22,not_false→a29,and_eq_false_iff→a38,or_eq_true→a48,and_eq_true_iff→a50,eq_iff_iff→a62
open Int renaming toNat→a01,eq_ofNat_of_zero_le→a06,tmod→a16,tdiv→a18,add_bmod_bmod→a42,sub_bmod_bmod→a43,bmod_sub_bmod→a44,bmod_add_bmod→a57
open List renaming replicate→a00,length→a02,append→a03,getD→a04,drop_eq_getElem_cons→a05,take→a08,nil_append→a09,cons_append→a17,append_toArray→a21,drop_length→a23,zipWith→a25,set→a26,size_toArray→a27,push_toArray→a28,length_nil→a30,drop→a31,getElem_mem→a32,drop_zero→a35,take_length→a39,replicate_succ'→a40,append_eq→a41,length_drop→a45,set_append_right→a49,all_cons→a52,sum_cons→a53,set_cons_zero→a54,length_take→a58,append_nil→a60
open Nat renaming lt_trans→a24,reduceAdd→a33,reduceSub→a34,le_refl→a36,sub_self→a46,div_add_mod→a47,add_zero→a56,mod_eq_of_lt→a59,div_le_self→a61
open Option renaming getD_some→a37
namespace Go.Ab
open Go.Proofs Go.RowKit
attribute [local go_sem] Oper.semAt_some
set_option maxHeartbeats 1000000 in
theorem c5s:z0a Tryz.prog 260 295:=by
 refine⟨⟨_,_,Tryz.func260,rfl,by kernel_rfl⟩,fun A len cap w=>(callsIn_wide (n:=3)).1 ?_⟩
 refine callsIn_of_wp Tryz.func260 rfl trivial ?_
 simp only[Tryz.ntmps260,a27,lC,a30,a33,a34,a19,a20,a28,a21,a09,a17]
 gi_wp2
 go_ret
 exact⟨rfl,_,rfl⟩
@[reducible] def b1x:Ty:=.pair (.int .i64) (.pair (.int .i64) .unit)
set_option maxRecDepth 100000 in
set_option maxHeartbeats 2000000 in
theorem c3S (l Bs b off len cap:Nat) (p q:Nat→Int) (J:Nat→World→Prop) (Jx:World→Prop) (W:World)
  (hJ:∀k W',J k W'→W'.cell? ⟨Bs,0,none⟩=some (.slice (some ⟨b,off,none⟩) len cap))
  (hlen:len<2147483648)
  (hcs:∀k W',k<len→J (k+1) W'→W'.cell? ⟨b,off+k*2,none⟩=some (.int .i64 (p k))∧W'.cell? ⟨b,off+k*2+1,none⟩=some (.int .i64 (q k)))
  (hY:∀n W',n<len→J (n+1) W'→YieldAt (Fr none) 0 Tryz.prog l #[.int .i64 (n:Int),.agg #[.int .i64 (p n),.int .i64 (q n)]] W' fun en W''=>(en=.returned (.bool true)∧J n W'')∨(en=.returned (.bool false)∧Jx W''))
  (h0:J len W):
  CallsIn (Fr none) 0 Tryz.prog 295 #[.func (.yield l) #[] #[],.pointer (some ⟨Bs,0,none⟩)] W fun en W'=>(∃v,en=.returned v)∧(J 0 W'∨Jx W'):=by
 refine callsIn_of_wp Tryz.func295 rfl trivial ?_
 simp only[Tryz.ntmps295,a27,lC,a30,a33,a34,a19,a20,a28,a21,a09,a17]
 have hBs:=hJ _ _ h0
 gi_wp2
 gi_loopw [3] (fun i wr=>∃k:Nat,k≤len∧i=.int .i64 ((k:Int)-1)∧J k wr) (fun i _=>(intOf i+1).toNat)
 case atStart=>exact⟨len,a36 _,rfl,h0⟩
 case round=>
  obtain⟨k,hk,rfl,hJs⟩:=hrel
  cases k with
  |succ n=>
   obtain⟨fn,tmps,assign,body,hy,hR⟩:=hY n wr (by omega) hJs
   have hcx:=hJ _ _ hJs
   obtain⟨hc0,hc1⟩:=hcs n wr (by omega) hJs
   gi_wp2
   refine hR.mono ?_
   rintro e W3 (⟨rfl,hJ3⟩|⟨rfl,hJx3⟩)
   ·gi_wp2
    go_roundw
    case rel=>exact⟨n,by omega,by simp,hJ3⟩
    case measure=>simp[intOf]
   ·gi_wp2
    refine bodyPost_ret (results_none rfl _ _ _) rfl ?_
    exact⟨⟨_,rfl⟩,.inr hJx3⟩
  |zero=>
   gi_wp2
   go_end0
   exact⟨⟨_,rfl⟩,.inl hJs⟩
set_option maxRecDepth 100000 in
set_option maxHeartbeats 2000000 in
theorem c2X (l Bs:Nat) (A:Option Addr) (c:Nat) (J:Nat→World→Prop) (W:World) (hBs:W.cell? ⟨Bs,0,none⟩=some (.slice A 0 c)) (h0:J 0 W):
  CallsIn (Fr none) 0 Tryz.prog 295 #[.func (.yield l) #[] #[],.pointer (some ⟨Bs,0,none⟩)] W fun en W'=>(∃v,en=.returned v)∧J 0 W':=by
 refine callsIn_of_wp Tryz.func295 rfl trivial ?_
 simp only[Tryz.ntmps295,a27,lC,a30,a33,a34,a19,a20,a28,a21,a09,a17]
 gi_wp2
 gi_loopw [3] (fun i wr=>i=.int .i64 (-1)∧J 0 wr) (fun _ _=>0)
 case atStart=>exact⟨rfl,h0⟩
 case round=>
  obtain⟨rfl,hJs⟩:=hrel
  gi_wp2
  go_end0
  exact⟨⟨_,rfl⟩,hJs⟩
theorem b8f{m:Mem}{Sh:Nat→Prop}{b o:Nat}{x:b1x.den}{R}(h:dec m b1x ((Src.at b o).rd m)=some (x,[],R)):
  m b o=some (.int .i64 x.1)∧m b (o+1)=some (.int .i64 x.2.1)∧VOk m Sh b1x x (.agg #[.int .i64 x.1,.int .i64 x.2.1]):=by
 obtain⟨p,q,u⟩:=x;simp only[b1x,dec,Src.rd,Ty.cells,a56]at h
 split at h
 cases h;rename_i r o1 j g
 split at g
 rename_i n c
 split at g
 rename_i e;subst e;simp only[sj]at g;obtain⟨rfl,rfl,rfl⟩:=g
 split at h
 cases h;rename_i s o2 r2 k
 split at k
 cases k;rename_i t i l f
 split at f
 rename_i d a
 split at f
 rename_i e;subst e;simp only[sj]at f k h;obtain⟨rfl,rfl,rfl⟩:=f;obtain⟨rfl,rfl,rfl⟩:=k;obtain⟨⟨rfl,rfl,rfl⟩,-,-⟩:=h;exact⟨c,a,fun _=>⟨_,rfl,rfl⟩,fun h=>(by cases h),[],rfl,by simp⟩;cases f;cases f;cases g;cases g
theorem b4q {P:Program} {f:FuncId} (hb:i0o P f) (args:Array Value) (w:World):(callFunc f args).run P w=.ok (.enter f args) w:=by
 obtain ⟨fn,c',h1,h2,h3⟩:=hb;have h4 : ¬ fn.name = "runtime.NumGoroutine" := by simpa using h3
 simp [callFunc,program,Sem.run,h1,h2,h4,Result.andThen]
theorem c5t:v0q Tryz.prog 295 b1x:=by
 refine⟨fun args w=>b4q ⟨_,_,Tryz.func295,rfl,by kernel_rfl⟩ args w,fun l Bs sv f J D W i t L o=>?_⟩;obtain⟨z,Sh,y⟩:=t _ _ o;obtain⟨A,n,c,rfl,rfl,N,v,j⟩:=y.header
 by_cases hx0:f.length=0
 rw[hx0]at o z;exact(c2X l Bs A c J W z o).mono fun e g h=>⟨h.1,.inl h.2⟩;cases A with
 |none=>have:=j rfl;omega
 |some A=>
  obtain⟨b,off,B⟩:=A
  have:=(v _ rfl).resolve_left (by omega)
  simp only at this;subst this;have u:∀k g,k<f.length→J (k+1) g→∃x,f[k]?=some x∧g.cell? ⟨b,off+k*2,none⟩=some (.int .i64 x.1)∧g.cell? ⟨b,off+k*2+1,none⟩=some (.int .i64 x.2.1):=by
   intro k g p d;obtain⟨-,a,hv⟩:=t _ _ d;obtain⟨C,O,E,R,e,F,G,H,s,I,K⟩:=hv.elem rfl (lG p);simp only[Value.slice.injEq,sj]at e;obtain⟨rfl,rfl,rfl⟩:=e;obtain⟨q,r,-⟩:=b8f (Sh:=a) s;exact⟨_,lG p,q,r⟩
  refine c3S l Bs b off f.length c (fun k=>((f[k]?).getD b1x.dflt).1) (fun k=>((f[k]?).getD b1x.dflt).2.1) J D W (fun k g d=>(t k g d).1) i (fun k g p d=>?_) (fun n g M d=>?_) o;obtain⟨x,m,q,r⟩:=u k g p d;simp only[m,a37];exact⟨q,r⟩;have m:f[n]?=some f[n]:=lG M;simp only[m,a37];refine L n _ _ g m d fun a hv=>?_
  obtain⟨C,O,E,R,e,F,G,H,s,I,K⟩:=hv.elem rfl m;exact(b8f (Sh:=a) s).2.2
set_option maxHeartbeats 1000000 in
theorem c5u:z0a Tryz.prog 107 196:=by
 refine⟨⟨_,_,Tryz.func107,rfl,by kernel_rfl⟩,fun A len cap w=>(callsIn_wide (n:=3)).1 ?_⟩
 refine callsIn_of_wp Tryz.func107 rfl trivial ?_
 simp only[Tryz.ntmps107,a27,lC,a30,a33,a34,a19,a20,a28,a21,a09,a17]
 gi_wp2
 go_ret
 exact⟨rfl,_,rfl⟩
@[reducible] def b3J:Ty:=.pair (.int .i64) (.pair (.int .i64) (.pair (.int .i64) .unit))
set_option maxRecDepth 100000 in
set_option maxHeartbeats 2000000 in
theorem c3T (l Bs b off len cap:Nat) (p q r:Nat→Int) (J:Nat→World→Prop) (Jx:World→Prop) (W:World)
  (hJ:∀k W',J k W'→W'.cell? ⟨Bs,0,none⟩=some (.slice (some ⟨b,off,none⟩) len cap))
  (hlen:len<2147483648)
  (hcs:∀k W',k<len→J (k+1) W'→W'.cell? ⟨b,off+k*3,none⟩=some (.int .i64 (p k))∧W'.cell? ⟨b,off+k*3+1,none⟩=some (.int .i64 (q k))∧W'.cell? ⟨b,off+k*3+2,none⟩=some (.int .i64 (r k)))
  (hY:∀n W',n<len→J (n+1) W'→YieldAt (Fr none) 0 Tryz.prog l #[.int .i64 (n:Int),.agg #[.int .i64 (p n),.int .i64 (q n),.int .i64 (r n)]] W' fun en W''=>(en=.returned (.bool true)∧J n W'')∨(en=.returned (.bool false)∧Jx W''))
  (h0:J len W):
  CallsIn (Fr none) 0 Tryz.prog 196 #[.func (.yield l) #[] #[],.pointer (some ⟨Bs,0,none⟩)] W fun en W'=>(∃v,en=.returned v)∧(J 0 W'∨Jx W'):=by
 refine callsIn_of_wp Tryz.func196 rfl trivial ?_
 simp only[Tryz.ntmps196,a27,lC,a30,a33,a34,a19,a20,a28,a21,a09,a17]
 have hBs:=hJ _ _ h0
 gi_wp2
 gi_loopw [3] (fun i wr=>∃k:Nat,k≤len∧i=.int .i64 ((k:Int)-1)∧J k wr) (fun i _=>(intOf i+1).toNat)
 case atStart=>exact⟨len,a36 _,rfl,h0⟩
 case round=>
  obtain⟨k,hk,rfl,hJs⟩:=hrel
  cases k with
  |succ n=>
   obtain⟨fn,tmps,assign,body,hy,hR⟩:=hY n wr (by omega) hJs
   have hcx:=hJ _ _ hJs
   obtain⟨hc0,hc1,hc2⟩:=hcs n wr (by omega) hJs
   gi_wp2
   refine hR.mono ?_
   rintro e W3 (⟨rfl,hJ3⟩|⟨rfl,hJx3⟩)
   ·gi_wp2
    go_roundw
    case rel=>exact⟨n,by omega,by simp,hJ3⟩
    case measure=>simp[intOf]
   ·gi_wp2
    refine bodyPost_ret (results_none rfl _ _ _) rfl ?_
    exact⟨⟨_,rfl⟩,.inr hJx3⟩
  |zero=>
   gi_wp2
   go_end0
   exact⟨⟨_,rfl⟩,.inl hJs⟩
set_option maxRecDepth 100000 in
set_option maxHeartbeats 2000000 in
theorem c2Y (l Bs:Nat) (A:Option Addr) (c:Nat) (J:Nat→World→Prop) (W:World) (hBs:W.cell? ⟨Bs,0,none⟩=some (.slice A 0 c)) (h0:J 0 W):
  CallsIn (Fr none) 0 Tryz.prog 196 #[.func (.yield l) #[] #[],.pointer (some ⟨Bs,0,none⟩)] W fun en W'=>(∃v,en=.returned v)∧J 0 W':=by
 refine callsIn_of_wp Tryz.func196 rfl trivial ?_
 simp only[Tryz.ntmps196,a27,lC,a30,a33,a34,a19,a20,a28,a21,a09,a17]
 gi_wp2
 gi_loopw [3] (fun i wr=>i=.int .i64 (-1)∧J 0 wr) (fun _ _=>0)
 case atStart=>exact⟨rfl,h0⟩
 case round=>
  obtain⟨rfl,hJs⟩:=hrel
  gi_wp2
  go_end0
  exact⟨⟨_,rfl⟩,hJs⟩
theorem b7G{m:Mem}{rd:Nat→Option Value}{x o r}(h:dec m (.int .i64) rd=some (x,o,r)):rd 0=some (.int .i64 x)∧o=[]∧r=[]:=by
 simp only[dec]at h
 split at h
 rename_i k n g
 split at h
 rename_i e;subst e;simp only[sj,pJ]at h;obtain⟨rfl,rfl,rfl⟩:=h;exact⟨g,rfl,rfl⟩;cases h;cases h
theorem b6k{m:Mem}{a b:Ty}{rd:Nat→Option Value}{x o r}(h:dec m (.pair a b) rd=some (x,o,r)):∃o1 g o2 r2,dec m a rd=some (x.1,o1,g)∧dec m b (fun j=>rd (a.cells+j))=some (x.2,o2,r2)∧o=o1++o2∧r=g++r2:=by
 simp only[dec]at h
 split at h
 cases h;rename_i c o1 g f
 split at h
 cases h;rename_i d o2 r2 k;simp only[sj,pJ]at h;obtain⟨rfl,rfl,rfl⟩:=h;exact⟨_,_,_,_,f,k,rfl,rfl⟩
theorem b9l{m:Mem}{Sh:Nat→Prop}{b o:Nat}{x:b3J.den}{R}(h:dec m b3J ((Src.at b o).rd m)=some (x,[],R)):
  m b o=some (.int .i64 x.1)∧m b (o+1)=some (.int .i64 x.2.1)∧m b (o+2)=some (.int .i64 x.2.2.1)∧VOk m Sh b3J x (.agg #[.int .i64 x.1,.int .i64 x.2.1,.int .i64 x.2.2.1]):=by
 obtain⟨_,_,_,_,g,f,-,-⟩:=b6k h;obtain⟨_,_,_,_,k,a,-,-⟩:=b6k f;obtain⟨_,_,_,_,c,-,-,-⟩:=b6k a;exact⟨(b7G g).1,(b7G k).1,(b7G c).1,fun _=>⟨_,rfl,rfl⟩,fun h=>(by cases h),[],rfl,by simp⟩
theorem c5v:v0q Tryz.prog 196 b3J:=by
 refine⟨fun args w=>b4q ⟨_,_,Tryz.func196,rfl,by kernel_rfl⟩ args w,fun l Bs sv f J E W i u M o=>?_⟩;obtain⟨B,Sh,z⟩:=u _ _ o;obtain⟨A,n,c,rfl,rfl,O,y,j⟩:=z.header
 by_cases hx0:f.length=0
 rw[hx0]at o B;exact(c2Y l Bs A c J W B o).mono fun e g h=>⟨h.1,.inl h.2⟩;cases A with
 |none=>have:=j rfl;omega
 |some A=>
  obtain⟨b,off,C⟩:=A
  have:=(y _ rfl).resolve_left (by omega)
  simp only at this;subst this;have v:∀k g,k<f.length→J (k+1) g→∃x,f[k]?=some x∧g.cell? ⟨b,off+k*3,none⟩=some (.int .i64 x.1)∧g.cell? ⟨b,off+k*3+1,none⟩=some (.int .i64 x.2.1)∧g.cell? ⟨b,off+k*3+2,none⟩=some (.int .i64 x.2.2.1):=by
   intro k g p d;obtain⟨-,a,hv⟩:=u _ _ d;obtain⟨D,P,F,R,e,G,H,I,t,K,L⟩:=hv.elem rfl (lG p);simp only[Value.slice.injEq,sj]at e;obtain⟨rfl,rfl,rfl⟩:=e;obtain⟨q,r,s,-⟩:=b9l (Sh:=a) t;exact⟨_,lG p,q,r,s⟩
  refine c3T l Bs b off f.length c (fun k=>((f[k]?).getD b3J.dflt).1) (fun k=>((f[k]?).getD b3J.dflt).2.1) (fun k=>((f[k]?).getD b3J.dflt).2.2.1) J E W (fun k g d=>(u k g d).1) i (fun k g p d=>?_) (fun n g N d=>?_) o;obtain⟨x,m,q,r,s⟩:=v k g p d;simp only[m,a37];exact⟨q,r,s⟩;have m:f[n]?=some f[n]:=lG N;simp only[m,a37];refine M n _ _ g m d fun a hv=>?_
  obtain⟨D,P,F,R,e,G,H,I,t,K,L⟩:=hv.elem rfl m;exact(b9l (Sh:=a) t).2.2.2
end Go.Ab
namespace Go.Ab
open IntKind(wrap)
open Go.Proofs
set_option maxRecDepth 100000
set_option linter.unusedVariables false
@[reducible] def QI:Ty:=.int .i64
@[reducible] def QL:Ty:=.list false QI
@[reducible] def Z0:Type:=(Unit ⊕ (Bool×Unit))
@[reducible] def Z1:Type:=(Int×(Int×(List Int)))
@[reducible] def Z2:Type:=((List (List Int))×Unit)
@[reducible] def Z3:Type:=((List Int)×(Int×Int))
@[reducible] def Z4:Type:=(List (Int×(Int×Unit)))
@[reducible] def Z5:Type:=(Int×((List Int)×Unit))
@[reducible] def Z6:Type:=((List Int)×(Int×Unit))
@[reducible] def Z7:Type:=(Int×(Int×(Int×Unit)))
@[reducible] def Z8:Type:=(Bool×((List Int)×Unit))
@[reducible] def Z9:Type:=(Int×(Int×(Bool×Unit)))
@[reducible] def Z10:Type:=((List Int)×((List Int)×Int))
@[reducible] def Z11:Type:=((List Int)×((List Int)×Unit))
@[reducible] def Z12:Type:=(Int×Z2)
@[reducible] def Z13:Type:=((List (List Int))×(Int×Unit))
@[reducible] def Z14:Type:=(List Z7)
@[reducible] def Z15:Type:=((List Int)×(Int×(Int×Unit)))
@[reducible] def Z16:Type:=(Int×Z5)
@[reducible] def Z17:Type:=(Int×Z6)
@[reducible] def Z18:Type:=((List Int)×(Int×(Bool×Unit)))
@[reducible] def Z19:Type:=(Z5×Unit)
@[reducible] def Z20:Type:=(Z6×Unit)
@[reducible] def Z21:Type:=(Int×Z7)
@[reducible] def Z22:Type:=(Int×Z9)
@[reducible] def Z23:Type:=(Int×Z11)
@[reducible] def Z24:Type:=((List Int)×Z5)
@[reducible] def Z25:Type:=((List (List Int))×(Int×(Int×Unit)))
@[reducible] def Z26:Type:=(Int×Z12)
@[reducible] def Z27:Type:=(Int×Z15)
@[reducible] def Z28:Type:=(Z12×Unit)
@[reducible] def Z29:Type:=((List Int)×Z7)
@[reducible] def Z30:Type:=(Int×Z16)
@[reducible] def Z31:Type:=(Z15×Int)
@[reducible] def Z32:Type:=((List Int)×Z9)
@[reducible] def Z33:Type:=(Int×Z20)
@[reducible] def Z34:Type:=(Z15×Unit)
@[reducible] def Z35:Type:=(Int×Z21)
@[reducible] def Z36:Type:=((List Int)×Z11)
@[reducible] def Z37:Type:=((List Int)×Z16)
@[reducible] def Z38:Type:=(Int×Z23)
@[reducible] def Z39:Type:=((List Int)×Z15)
@[reducible] def Z40:Type:=(Int×Z25)
@[reducible] def Z41:Type:=(Z5×((List Int)×Unit))
@[reducible] def Z42:Type:=(((List Int)×Unit) ⊕ Z5)
@[reducible] def Z43:Type:=((List Int)×Z18)
@[reducible] def Z44:Type:=(Int×Z27)
@[reducible] def Z45:Type:=(Z23×Unit)
@[reducible] def Z46:Type:=(Int×Z28)
@[reducible] def Z47:Type:=(Int×Z29)
@[reducible] def Z48:Type:=(Bool×Z28)
@[reducible] def Z49:Type:=(Int×Z33)
@[reducible] def Z50:Type:=(Int×Z34)
@[reducible] def Z51:Type:=(Bool×Z34)
@[reducible] def Z52:Type:=(Int×Z36)
@[reducible] def Z53:Type:=(Int×Z37)
@[reducible] def Z54:Type:=((List Int)×Z27)
@[reducible] def Z55:Type:=(Int×Z45)
@[reducible] def Z56:Type:=(Int×Z46)
@[reducible] def Z57:Type:=((List Int)×Z34)
@[reducible] def Z58:Type:=(Z27 ⊕ (Int×Unit))
@[reducible] def Z59:Type:=(Int×Z50)
@[reducible] def Z60:Type:=(Int×Z51)
@[reducible] def Z61:Type:=(Z15 ⊕ Z0)
@[reducible] def Z62:Type:=((List Int)×Z38)
@[reducible] def Z63:Type:=(Int×Z52)
@[reducible] def Z64:Type:=((List Int)×Z41)
@[reducible] def Z65:Type:=((List Int)×Z44)
@[reducible] def Z66:Type:=((List Int)×Z45)
@[reducible] def Z67:Type:=(Int×Z53)
@[reducible] def Z68:Type:=(Int×Z55)
@[reducible] def Z69:Type:=((List Int)×Z49)
@[reducible] def Z70:Type:=(Int×Z57)
@[reducible] def Z71:Type:=(Z6×Z19)
@[reducible] def Z72:Type:=(Int×Z59)
@[reducible] def Z73:Type:=(Z5×Z19)
@[reducible] def Z74:Type:=(Int×Z62)
@[reducible] def Z75:Type:=(Int×Z66)
@[reducible] def Z76:Type:=(Int×Z68)
@[reducible] def Z77:Type:=(Int×Z69)
@[reducible] def Z78:Type:=(Int×Z70)
@[reducible] def Z79:Type:=((List Int)×Z71)
@[reducible] def Z80:Type:=(Int×Z78)
@[reducible] def Z81:Type:=(Z14×Z28)
@[reducible] def Z82:Type:=(Int×Z79)
@[reducible] def Z83:Type:=(Z4×Z64)
@[reducible] def Z84:Type:=(Int×Z82)
@[reducible] def Z85:Type:=(Z5×Z73)
@[reducible] def Z86:Type:=((List Int)×Z83)
@[reducible] def Z87:Type:=((List Int)×Z84)
@[reducible] def Z88:Type:=((List Int)×Z86)
@[reducible] def Z89:Type:=(Int×Z88)
@[reducible] def Z90:Type:=(Int×Z89)
@[reducible] def Z91:Type:=(Int×Z90)
@[reducible] def Z92:Type:=(Int×Z91)
@[reducible] def Z93:Type:=(Int×Z92)
@[reducible] def Z94:Type:=(List Z93)
@[reducible] def Z95:Type:=(Z93×Int)
@[reducible] def Z96:Type:=(Z93×Unit)
@[reducible] def Z97:Type:=(Z94×Unit)
@[reducible] def Z98:Type:=(Bool×Z96)
@[reducible] def Z99:Type:=(Int×Z98)
@[reducible] def c1M:Type:=(Z94×((List Int)×Unit))
@[reducible] def c8k:Type:=(Z6×Z96)
@[reducible] def c1N:Type:=(Int×c8k)
@[reducible] def c5X:Type:=(Z15×Z96)
@[reducible] def c1O:Type:=(Z93×Z34)
@[reducible] def c8l:Type:=(Z14×Z97)
@[reducible] def b2G:Type:=(Int×c1N)
@[reducible] def c3U:Type:=(Int×c5X)
@[reducible] def b7H:Type:=(Int×c3U)
@[reducible] def c8m:Type:=(Z7×c8l)
@[reducible] def c8n:Type:=(Int×c8m)
@[reducible] def a4R:Type:=(Int×c8n)
@[reducible] def b2H:Type:=(a4R×Unit)
@[reducible] def c1P:Type:=(Z12×b2H)
@[reducible] def b7I:Type:=(a4R×Z34)
@[reducible] def b0J:Type:=(Z93×Z96)
@[reducible] def c8o:Type:=(Int×b0J)
@[reducible] def c1Q:Type:=(Int×c8o)
@[reducible] def Q0:Ty:=(.pair QI .unit)
@[reducible] def Q1:Ty:=(.pair (.list true QI) .unit)
@[reducible] def Q2:Ty:=(.pair QL .unit)
@[reducible] def Q3:Ty:=(.pair QI Q0)
@[reducible] def Q4:Ty:=(.pair (.list false QL) .unit)
@[reducible] def Q5:Ty:=(.pair (.list true (.int .u8)) Q0)
@[reducible] def Q6:Ty:=(.pair QI Q1)
@[reducible] def Q7:Ty:=(.pair QI Q2)
@[reducible] def Q8:Ty:=(.pair QI Q3)
@[reducible] def Q9:Ty:=(.pair (.list true QI) Q1)
@[reducible] def Q10:Ty:=(.pair QI Q4)
@[reducible] def Q11:Ty:=(.pair (.list false (.int .u8)) Q3)
@[reducible] def Q12:Ty:=(.pair QI Q9)
@[reducible] def Q13:Ty:=(.pair Q7 Q2)
@[reducible] def Q14:Ty:=(.pair (.nl QI) Q13)
@[reducible] def Q15:Ty:=(.pair QL Q13)
@[reducible] def Q16:Ty:=(.pair (.list true Q3) Q14)
@[reducible] def Q17:Ty:=(.pair (.list false Q3) Q15)
@[reducible] def Q18:Ty:=(.pair (.arr 3 QI) Q16)
@[reducible] def Q19:Ty:=(.pair (.arr 3 QI) Q17)
@[reducible] def Q20:Ty:=(.pair (.list true QI) Q18)
@[reducible] def Q21:Ty:=(.pair QL Q19)
@[reducible] def Q22:Ty:=(.pair QI Q20)
@[reducible] def Q23:Ty:=(.pair QI Q21)
@[reducible] def Q24:Ty:=(.pair QI Q22)
@[reducible] def Q25:Ty:=(.pair QI Q23)
@[reducible] def Q26:Ty:=(.pair QI Q24)
@[reducible] def Q27:Ty:=(.pair QI Q25)
@[reducible] def Q28:Ty:=(.pair QI Q26)
@[reducible] def Q29:Ty:=(.pair QI Q27)
@[reducible] def Q30:Ty:=(.pair QI Q28)
@[reducible] def Q31:Ty:=(.pair QI Q29)
@[reducible] def Q32:Ty:=(.pair (.nl Q31) .unit)
@[reducible] def Q33:Ty:=(.pair (.list true Q31) .unit)
@[reducible] def Q34:Ty:=(.pair (.list false Q31) .unit)
@[reducible] def Q35:Ty:=(.pair (.nl Q8) Q32)
@[reducible] def Q36:Ty:=(.pair (.list true Q8) Q32)
@[reducible] def Q37:Ty:=(.pair (.list false Q8) Q33)
@[reducible] def Q38:Ty:=(.pair (.list false Q8) Q34)
@[reducible] def Q39:Ty:=(.pair Q8 Q35)
@[reducible] def Q40:Ty:=(.pair Q8 Q36)
@[reducible] def Q41:Ty:=(.pair Q8 Q37)
@[reducible] def Q42:Ty:=(.pair Q8 Q38)
@[reducible] def Q43:Ty:=(.pair QI Q39)
@[reducible] def Q44:Ty:=(.pair QI Q40)
@[reducible] def Q45:Ty:=(.pair QI Q41)
@[reducible] def Q46:Ty:=(.pair QI Q42)
@[reducible] def Q47:Ty:=(.pair QI Q44)
@[reducible] def Q48:Ty:=(.pair QI Q45)
@[reducible] def Q49:Ty:=(.pair QI Q46)
def b9g:List (Nat×Ty):=[(2,.int .i64),(3,.int .i64),(5,.int .u8),(23,.pair QI Q3),(24,.list false Q8),(25,.list false Q31),(27,.pair QI Q46),(30,.list false QL),(32,.pair QI Q4),(33,.int .i64),(38,.list false (.int .u8)),(56,.list false QI),(57,.arr 3 QI),(58,.list false Q3),(60,.pair QI Q2),(62,.pair QI Q29),(68,.int .u16),(70,.int .u64),(90,.pair (.list false (.int .u8)) Q0),(96,.int .u64),(137,.pair QI Q3),(148,.pair QI Q0),(151,.list false (.int .u64)),(163,.pair (.list false (.int .u8)) Q3),(211,.pair (.list false (.int .u8)) Q3),(220,.arr 64 (.int .u8)),(248,.list false (.arr 3 QI)),(252,.pair QI (.pair QL Q2))]
def T0:Nat→Option Ty:=fun t=>find b9g t
def c1R:List Nat:=[23,57,137,148]
def c8p:Nat→Bool:=fun t=>c1R.contains t
def b9m:List Nat:=[]
def c8q:Nat→Bool:=fun t=>b9m.contains t
def a9w:(List Int):=[0,1,56,2,57,49,28,3,61,58,42,50,38,29,17,4,62,47,59,36,45,43,51,22,53,39,33,30,24,18,12,5,63,55,48,27,60,41,37,16,46,35,44,21,52,32,23,11,54,26,40,15,34,20,31,10,25,14,19,9,13,8,7,6]
def G0:Nat→Option ((t:Ty)×t.den):=fun g=>find ([(0,⟨.arr 64 (.int .u8),a9w⟩)]:List (Nat×((t:Ty)×t.den))) g
@[reducible] def a7C(a:List (Nat×FSem))(b:List (Nat×Ty))(c d:List Nat):Cx:=⟨c8q,c8p,T0,fun f=>find a f,fun n=>find b n,fun i=>c.contains i,fun i=>d.contains i,G0⟩
def a5V(x:Int):Option Bool:= cond (decide (4≤x)) (some (decide (x≤24))) (some false)
def b0K:FSem:=⟨[.v QI],[.v .bool],a5V⟩
def c8r:Hints:=⟨[],[],[]⟩
def a5W(x:Z7):Option Bool:= cond (decide (1≤x.1)) (cond (decide (x.1≤1048576)) (cond (decide (1≤x.2.1)) (cond (decide (x.2.1≤8)) ((a5V x.2.2.1).bind fun y1=> some y1) (some false)) (some false)) (some false)) (some false)
def b0L:FSem:=⟨[.v Q8],[.v .bool],a5W⟩
def H77:Hints:=⟨[],[],[]⟩
def a5X(s:(Int×Z14×Int×Int×Unit)):Option ((Int×Z14×Int×Int×Unit) ⊕ Z0):= cond (decide (s.2.2.2.1<s.2.2.1)) ((l0z s.2.1 s.2.2.2.1).bind fun x2=> (show Option (Int×Z14×Int×Int×Bool×Z7×Unit)from cond (decide (x2.1<0)) (some (s.1,s.2.1,s.2.2.1,s.2.2.2.1,true,x2,())) (cond (decide (x2.1≥s.1)) (some (s.1,s.2.1,s.2.2.1,s.2.2.2.1,true,x2,())) (cond (decide (x2.2.1<0)) (some (s.1,s.2.1,s.2.2.1,s.2.2.2.1,true,x2,())) (cond (decide (x2.2.1≥s.1)) (some (s.1,s.2.1,s.2.2.1,s.2.2.2.1,true,x2,())) (some (s.1,s.2.1,s.2.2.1,s.2.2.2.1,x2.1==x2.2.1,x2,())))))).bind fun z3=> cond z3.2.2.2.2.1 (some (.inr (Sum.inr ((false,()))))) ((show Option (Int×Z14×Z9)from cond (decide (z3.2.2.2.2.2.1.2.2.1<(-1024))) (some (z3.1,z3.2.1,z3.2.2.1,z3.2.2.2.1,true,())) (some (z3.1,z3.2.1,z3.2.2.1,z3.2.2.2.1,decide (z3.2.2.2.2.2.1.2.2.1 > 1024),()))).bind fun z4=> cond z4.2.2.2.2.1 (some (.inr (Sum.inr ((false,()))))) (some (.inl (z4.1,z4.2.1,z4.2.2.1,wrap .i64 (z4.2.2.2.1+1),()))))) (some (.inr (Sum.inl ())))
def a7h(x:(Z14×Int)):Option Bool:= (show Option (Z14×Int×Bool×Unit)from cond (decide (x.2<1)) (some (x.1,x.2,true,())) (cond (decide (x.2 > 8)) (some (x.1,x.2,true,())) (some (x.1,x.2,decide ((x.1.length:Int) > 16),())))).bind fun z1=> cond z1.2.2.1 (some false) ((x0r a5X (z1.2.1,z1.1,(z1.1.length:Int),0,())).bind fun w5=> match w5 with |.inl a6=>some true |.inr b7=>some b7.1)
def b1a:FSem:=⟨[.v (.list false Q8),.v QI],[.v .bool],a7h⟩
def c8s:Hints:=⟨[(58,[.sv 1 QI,.sv 18 (.list false Q8),.sv 19 QI,.sv 20 QI],[(.exit 0,[]),(.ret,[.sv 4 .bool])])],[(6,[(.normal,[.sv 0 (.list false Q8),.sv 1 QI,.sv 17 .bool])]),(7474,[(.normal,[.sv 1 QI,.sv 18 (.list false Q8),.sv 19 QI,.sv 20 QI,.sv 50 .bool,.box 6 Q8,.ptr 6 6 []])]),(7475,[(.normal,[.sv 1 QI,.sv 18 (.list false Q8),.sv 19 QI,.sv 20 QI,.sv 58 .bool])])],[]⟩
def a5Y(x:a4R):Option Bool:= (a5W x.2.2.1).bind fun y1=> cond y1 (cond (decide (x.2.1≥1)) (cond (decide (x.2.1≤4096)) (cond (decide (x.1≥0)) (cond (decide (x.1≤(wrap .i64 (4194304-x.2.1)))) ((a7h (x.2.2.2.1,x.2.2.1.2.1)).bind fun y2=> some y2) (some false)) (some false)) (some false)) (some false)) (some false)
def b0M:FSem:=⟨[.v Q49],[.v .bool],a5Y⟩
def H44:Hints:=⟨[],[],[]⟩
def a2t(s:Z15):Option Z61:= cond (decide (s.2.2.1<s.2.1)) ((l0z s.1 s.2.2.1).bind fun x1=> (show Option Z32 from cond (decide (x1<(-1073741824))) (some (s.1,s.2.1,s.2.2.1,true,())) (some (s.1,s.2.1,s.2.2.1,decide (x1≥1073741824),()))).bind fun z2=> cond z2.2.2.2.1 (some (.inr (Sum.inr ((false,()))))) (some (.inl (z2.1,z2.2.1,wrap .i64 (z2.2.2.1+1),())))) (some (.inr (Sum.inl ())))
def a1T(x:(List Int)):Option Bool:= (x0r a2t (x,(x.length:Int),0,())).bind fun w3=> match w3 with |.inl a4=>some true |.inr b5=>some b5.1
def a7V:FSem:=⟨[.v QL],[.v .bool],a1T⟩
def H90:Hints:=⟨[(26,[.sv 5 QL,.sv 6 QI,.sv 7 QI],[(.exit 0,[]),(.ret,[.sv 2 .bool])])],[(1689,[(.normal,[.sv 5 QL,.sv 6 QI,.sv 7 QI,.sv 16 .bool])])],[]⟩
def a5g(x:Int):Option Bool:= cond (x != 0) (some (x != 1)) (some false)
def a8v:FSem:=⟨[.v QI],[.v .bool],a5g⟩
def c8t:Hints:=⟨[],[],[]⟩
def a3m(s:Z15):Option Z61:= cond (decide (s.2.2.1<s.2.1)) ((l0z s.1 s.2.2.1).bind fun x2=> (show Option Z32 from cond (decide (x2<(-32768))) (some (s.1,s.2.1,s.2.2.1,true,())) (some (s.1,s.2.1,s.2.2.1,decide (x2≥32768),()))).bind fun z3=> cond z3.2.2.2.1 (some (.inr (Sum.inr ((false,()))))) (some (.inl (z3.1,z3.2.1,wrap .i64 (z3.2.2.1+1),())))) (some (.inr (Sum.inl ())))
def a3Y(x:((List Int)×Int)):Option Bool:= (show Option ((List Int)×(Bool×Unit))from cond (decide ((x.1.length:Int)<1)) (some (x.1,true,())) (cond (decide ((x.1.length:Int) > 32)) (some (x.1,true,())) (cond (decide (x.2<0)) (some (x.1,true,())) (some (x.1,decide (x.2 > 15),()))))).bind fun z1=> cond z1.2.1 (some false) ((x0r a3m (z1.1,(z1.1.length:Int),0,())).bind fun w4=> match w4 with |.inl a5=>some true |.inr b6=>some b6.1)
def a8w:FSem:=⟨[.v QL,.v QI],[.v .bool],a3Y⟩
def c8u:Hints:=⟨[(58,[.sv 23 QL,.sv 24 QI,.sv 25 QI],[(.exit 0,[]),(.ret,[.sv 4 .bool])])],[(6,[(.normal,[.sv 0 QL,.sv 22 .bool])]),(3737,[(.normal,[.sv 23 QL,.sv 24 QI,.sv 25 QI,.sv 34 .bool])])],[]⟩
def a4v(s:Z6):Option (Z6 ⊕ Z0):= cond (decide (s.2.1<3)) ((l0z s.1 s.2.1).bind fun x2=> (show Option Z18 from cond (decide (x2<(-64))) (some (s.1,s.2.1,true,())) (some (s.1,s.2.1,decide (x2 > 64),()))).bind fun z3=> cond z3.2.2.1 (some (.inr (Sum.inr ((false,()))))) (some (.inl (z3.1,wrap .i64 (z3.2.1+1),())))) (some (.inr (Sum.inl ())))
def a7i(x:(Int×(List Int))):Option Bool:= (show Option Z8 from cond (decide (x.1<2)) (some (true,x.2,())) (some (decide (x.1 > 1024),x.2,()))).bind fun z1=> cond z1.1 (some false) ((x0r a4v (z1.2.1,0,())).bind fun w4=> match w4 with |.inl a5=>some true |.inr b6=>some b6.1)
def b1b:FSem:=⟨[.v QI,.v (.arr 3 QI)],[.v .bool],a7i⟩
def c8v:Hints:=⟨[(58,[.sv 13 (.arr 3 QI),.sv 14 QI],[(.exit 0,[]),(.ret,[.sv 4 .bool])])],[(6,[(.normal,[.sv 12 .bool,.vp 3 (.arr 3 QI)])]),(3737,[(.normal,[.sv 13 (.arr 3 QI),.sv 14 QI,.sv 22 .bool])])],[]⟩
def a5Z(x:(Int×Int×Unit)):Option Bool:= cond (decide (x.1≥1)) (cond (decide (x.1≤32)) (cond (decide (x.2.1≥0)) (some (decide (x.2.1≤8))) (some false)) (some false)) (some false)
def b0N:FSem:=⟨[.v Q3],[.v .bool],a5Z⟩
def c8w:Hints:=⟨[],[],[]⟩
def a5h(s:(Z4×Int×Int×Unit)):Option ((Z4×Int×Int×Unit) ⊕ Z0):= cond (decide (s.2.2.1<s.2.1)) ((l0z s.1 s.2.2.1).bind fun x1=> (a5Z x1).bind fun y2=> cond (!y2) (some (.inr (Sum.inr ((false,()))))) (some (.inl (s.1,s.2.1,wrap .i64 (s.2.2.1+1),())))) (some (.inr (Sum.inl ())))
def a6r(x:Z4):Option Bool:= cond (decide ((x.length:Int) > 3)) (some false) ((x0r a5h (x,(x.length:Int),0,())).bind fun w3=> match w3 with |.inl a4=>some true |.inr b5=>some b5.1)
def a9x:FSem:=⟨[.v (.list false Q3)],[.v .bool],a6r⟩
def c8x:Hints:=⟨[(58,[.sv 8 (.list false Q3),.sv 9 QI,.sv 10 QI],[(.exit 0,[]),(.ret,[.sv 2 .bool])])],[],[]⟩
def a6R(x:(Int×Z95)):Option Bool:= (show Option (Int×Z99)from cond (x.1==0) (some (x.2.2,x.1,x.1==0,x.2.1,())) (some (x.2.2,x.1,x.1==1,x.2.1,()))).bind fun z1=> cond z1.2.2.1 (some true) (cond (z1.2.1==2) (cond (decide (z1.2.2.2.1.2.2.1≥0)) (cond (decide (z1.2.2.2.1.2.2.1≤4)) (some (decide (z1.2.2.2.1.2.2.1≤z1.1))) (some false)) (some false)) (cond (z1.2.1==3) ((a3Y (z1.2.2.2.1.2.2.2.2.2.1,z1.2.2.2.1.2.2.2.1)).bind fun y2=> cond y2 (some (decide ((z1.2.2.2.1.2.2.2.2.2.1.length:Int)≤z1.1))) (some false)) (cond (z1.2.1==4) ((a3Y (z1.2.2.2.1.2.2.2.2.2.1,z1.2.2.2.1.2.2.2.1)).bind fun y3=> cond y3 (cond (decide ((z1.2.2.2.1.2.2.2.2.2.1.length:Int)≤z1.1)) ((a7i (z1.2.2.2.1.2.2.2.2.1,z1.2.2.2.1.2.2.2.2.2.2.1)).bind fun y4=> some y4) (some false)) (some false)) (cond (z1.2.1==5) (cond (decide ((z1.2.2.2.1.2.2.2.2.2.2.2.1.length:Int) > 0)) ((a6r z1.2.2.2.1.2.2.2.2.2.2.2.1).bind fun y5=> some y5) (some false)) (some false)))))
def b2g:FSem:=⟨[.v QI,.v Q31,.v QI],[.v .bool],a6R⟩
def c8y:Hints:=⟨[],[(26,[(.normal,[.sv 2 QI,.sv 7 QI,.sv 8 .bool,.vp 4 Q31])])],[]⟩
def a3Z(x:Z95):Option Int:= cond (x.1.1==0) (some 1) (cond (x.1.1==1) (some x.2) (cond (x.1.1==2) (some x.1.2.2.1) ((show Option Z98 from cond (x.1.1==3) (some (x.1.1==3,x.1,())) (some (x.1.1==4,x.1,()))).bind fun z1=> cond z1.1 (some (z1.2.1.2.2.2.2.2.1.length:Int)) (some 0))))
def a8x:FSem:=⟨[.v Q31,.v QI],[.v QI],a3Z⟩
def c8z:Hints:=⟨[],[(1727,[(.normal,[.sv 16 .bool,.vp 2 Q31])])],[]⟩
def a1d(x:(List Int)):Option (List Int):= w0g x
def a0Y:FSem:=⟨[.v QL],[.o QI],a1d⟩
def H87:Hints:=⟨[],[],[]⟩
def c5Y:Cx:=a7C [] [] [0,2] []
theorem c8A(x):z0c c5Y H87 Tryz.f87 a0Y.ps a0Y.rs x=a0Y.F x:=Eq.trans (show _=v0w x by kernel_rfl) (z0q x)
def a3s(x:(List Int)):Option (List Int):= w0g x
def a1D:FSem:=⟨[.v QL],[.v QL],a3s⟩
def c8B:Hints:=⟨[],[],[]⟩
def c4P:Cx:=a7C [] [] [0,2] []
theorem c6M(x):z0c c4P c8B Tryz.f87 a1D.ps a1D.rs x=a1D.F x:=Eq.trans (show _=v0w x by kernel_rfl) (z0q x)
def a1n(x:Z4):Option Z4:= w0g x
def a1b:FSem:=⟨[.v (.list false Q3)],[.v (.list false Q3)],a1n⟩
def c6N:Hints:=⟨[],[],[]⟩
def c2Z:Cx:=a7C [] [] [0,2] []
theorem c5Z(x):z0c c2Z c6N Tryz.f229 a1b.ps a1b.rs x=a1b.F x:=Eq.trans (show _=v0w x by kernel_rfl) (z0q x)
def a5i(x:(Int×Z93)):Option Z93:= (show Option b0J from(show Option ((Z93×b0J) ⊕ (b0J ⊕ (Z93×b0J)))from cond (x.1==2) (some (Sum.inr (Sum.inl ((0,0,0,0,0,[],a00 3 0,[],[],(0,[],()),[],()),(x.1,0,x.2.2.2.1,0,0,[],a00 3 0,[],[],(0,[],()),[],()),())))) (cond (x.1==4) (some (Sum.inl ((0,0,0,0,0,[],a00 3 0,[],[],(0,[],()),[],()),(x.1,0,0,0,x.2.2.2.2.2.1,[],x.2.2.2.2.2.2.2.1,[],[],(0,[],()),[],()),x.2,()))) (cond (x.1==3) (some (Sum.inl ((0,0,0,0,0,[],a00 3 0,[],[],(0,[],()),[],()),(x.1,0,0,0,0,[],a00 3 0,[],[],(0,[],()),[],()),x.2,()))) (cond (x.1==5) (some (Sum.inr (Sum.inr (((0,0,0,0,0,[],a00 3 0,[],[],(0,[],()),[],()),(x.1,0,0,0,0,[],a00 3 0,[],[],(0,[],()),[],()),x.2,()))))) (some (Sum.inr (Sum.inl ((0,0,0,0,0,[],a00 3 0,[],[],(0,[],()),[],()),(x.1,0,0,0,0,[],a00 3 0,[],[],(0,[],()),[],()),())))))))).bind fun z1=> match z1 with |.inl a2=>((a3s a2.2.2.1.2.2.2.2.2.1).bind fun y4=> some (a2.1,(a2.2.1.1,a2.2.1.2.1,a2.2.1.2.2.1,a2.2.2.1.2.2.2.1,a2.2.1.2.2.2.2.1,y4,a2.2.1.2.2.2.2.2.2),())) |.inr b3=>(match b3 with |.inl a5=>some (a5.1,a5.2.1,()) |.inr b6=>((a1n b6.2.2.1.2.2.2.2.2.2.2.1).bind fun y7=> some (b6.1,(b6.2.1.1,b6.2.1.2.1,b6.2.1.2.2.1,b6.2.1.2.2.2.1,b6.2.1.2.2.2.2.1,b6.2.1.2.2.2.2.2.1,b6.2.1.2.2.2.2.2.2.1,y7,b6.2.1.2.2.2.2.2.2.2.2),())))).bind fun z8=> some z8.2.1
def b1y:FSem:=⟨[.v QI,.v Q31],[.v Q31],a5i⟩
def c8C:Hints:=⟨[],[(7,[(.normal,[.box 4 Q31,.box 5 Q31,.ptr 4 4 [],.ptr 5 5 []])]),(232,[(.normal,[.box 4 Q31,.box 5 Q31,.vp 3 Q31,.ptr 4 4 [],.ptr 5 5 []]),(.exit 0,[.box 4 Q31,.box 5 Q31,.ptr 4 4 [],.ptr 5 5 []]),(.exit 4,[.box 4 Q31,.box 5 Q31,.vp 3 Q31,.ptr 4 4 [],.ptr 5 5 []])])],[(8,[.v,.v,.v,.v,.q,.w [0,5],.x,.x]),(9,[.v,.v,.v,.v,.v,.q,.w [0,5],.x,.x])]⟩
def a9y(x:Z93):Option Bool:= (a5i (x.1,x)).bind fun y1=> cond (x.2.2.1==y1.2.2.1) (cond (x.2.2.2.1==y1.2.2.2.1) (cond (x.2.2.2.2.1==y1.2.2.2.2.1) (cond (eqT (.arr 3 (.int .i64)) x.2.2.2.2.2.2.1 y1.2.2.2.2.2.2.1) (cond ((x.2.2.2.2.2.1.length:Int)==(y1.2.2.2.2.2.1.length:Int)) (some ((x.2.2.2.2.2.2.2.1.length:Int)==(y1.2.2.2.2.2.2.2.1.length:Int))) (some false)) (some false)) (some false)) (some false)) (some false)
def b5x:FSem:=⟨[.v Q31],[.v .bool],a9y⟩
def c8D:Hints:=⟨[],[],[]⟩
def a6s(x:(Int×Int)):Option Bool:= cond (decide (1≤x.1)) (cond (decide (x.1≤4096)) (cond (decide (0≤x.2)) (some (decide (x.2≤x.1))) (some false)) (some false)) (some false)
def a9z:FSem:=⟨[.v QI,.v QI],[.v .bool],a6s⟩
def c8E:Hints:=⟨[],[],[]⟩
def a5F(s:Z16):Option (Z16 ⊕ ((List Int)×Unit)):= cond (decide (s.1<0)) none (cond (decide ((s.2.2.1.length:Int)<(z0g .i64 1 s.1))) (cond (lim ((a02 s.2.2.1)+1)) (some (.inl (s.1,s.2.1,a03 s.2.2.1 [s.2.1],()))) none) (some (.inr (s.2.2.1,()))))
def a2L(x:(Int×Int×Int)):Option (List Int):= (show Option Z22 from(a6s (x.2.1,x.2.2)).bind fun y1=> cond (!y1) (some (x.1,x.2.1,x.2.2,true,())) (cond (decide (x.1<0)) (some (x.1,x.2.1,x.2.2,true,())) (some (x.1,x.2.1,x.2.2,decide (x.1 > 8),())))).bind fun z2=> cond z2.2.2.2.1 (some []) (cond (decide (z2.1<0)) none ((show Option Z22 from cond (decide (z2.1<0)) none (cond ((z0g .i64 (z0h .i64 z2.2.1 z2.1) z2.1) != z2.2.1) (some (z2.1,z2.2.2.1,z0h .i64 z2.2.1 z2.1,true,())) (some (z2.1,z2.2.2.1,z0h .i64 z2.2.1 z2.1,decide ((z0h .i64 z2.2.1 z2.1)<z2.2.2.1),())))).bind fun z3=> cond z3.2.2.2.1 (some []) ((x0r a5F (z3.1,z3.2.2.1,[wrap .i64 (z3.2.2.1-z3.2.1)],())).bind fun w4=> some w4.1)))
def a4w:FSem:=⟨[.v QI,.v QI,.v QI],[.o QI],a2L⟩
def c8F:Hints:=⟨[(252,[.sv 0 QI,.sv 7 QI,.own 8 8 QI],[(.exit 0,[.own 8 8 QI])])],[(6,[(.normal,[.sv 0 QI,.sv 1 QI,.sv 2 QI,.sv 20 .bool])]),(30,[(.normal,[.sv 0 QI,.sv 2 QI,.sv 7 QI,.sv 33 .bool])])],[]⟩
def a3O(s:Z15):Option Z61:= cond (decide (s.2.2.1<s.2.1)) ((l0z s.1 s.2.2.1).bind fun x3=> (show Option Z32 from cond (decide (x3<0)) (some (s.1,s.2.1,s.2.2.1,x3 != 31,())) (cond (decide (x3 > 25)) (some (s.1,s.2.1,s.2.2.1,x3 != 31,())) (some (s.1,s.2.1,s.2.2.1,false,())))).bind fun z4=> cond z4.2.2.2.1 (some (.inr (Sum.inr ((false,()))))) (some (.inl (z4.1,z4.2.1,wrap .i64 (z4.2.2.1+1),())))) (some (.inr (Sum.inl ())))
def a7K(x:(Z5×Int×Int)):Option Bool:= (a2L (x.1.1,x.2.1,x.2.2)).bind fun y1=> (show Option (Bool×Z19)from cond ((y1.length:Int)==0) (some (true,x.1,())) (some ((x.1.2.1.length:Int) != (y1.length:Int),x.1,()))).bind fun z2=> cond z2.1 (some false) ((x0r a3O (z2.2.1.2.1,(z2.2.1.2.1.length:Int),0,())).bind fun w5=> match w5 with |.inl a6=>some true |.inr b7=>some b7.1)
def b2I:FSem:=⟨[.v Q7,.v QI,.v QI],[.v .bool],a7K⟩
def c8G:Hints:=⟨[(122,[.sv 27 QL,.sv 28 QI,.sv 29 QI],[(.exit 0,[]),(.ret,[.sv 6 .bool])])],[(14,[(.normal,[.sv 25 .bool,.vp 3 Q7])]),(7833,[(.normal,[.sv 27 QL,.sv 28 QI,.sv 29 QI,.sv 42 .bool])])],[]⟩
def a8y(x:Z95):Option Bool:= (show Option Z99 from cond (decide (x.2<1)) (some (x.2,true,x.1,())) (cond (decide (x.2 > 4096)) (some (x.2,true,x.1,())) ((a6R (x.1.1,x.1,x.2)).bind fun y1=> cond (!y1) (some (x.2,true,x.1,())) ((a9y x.1).bind fun y2=> some (x.2,!y2,x.1,()))))).bind fun z3=> cond z3.2.1 (some false) ((show Option Z99 from cond (decide (z3.2.2.1.2.1<0)) (some (z3.1,true,z3.2.2.1,())) (cond (decide (z3.2.2.1.2.1 > 30)) (some (z3.1,true,z3.2.2.1,())) (cond (z3.2.2.1.1==0) (some (z3.1,z3.2.2.1.2.1 != 0,z3.2.2.1,())) (some (z3.1,false,z3.2.2.1,()))))).bind fun z4=> cond z4.2.1 (some false) ((a3Z (z4.2.2.1,z4.1)).bind fun y5=> (show Option (Int×Z99)from cond ((z4.2.2.1.2.2.2.2.2.2.2.2.1.length:Int) != y5) (some (z4.1,y5,true,z4.2.2.1,())) ((a1T z4.2.2.1.2.2.2.2.2.2.2.2.1).bind fun y6=> cond (!y6) (some (z4.1,y5,true,z4.2.2.1,())) ((a1T z4.2.2.1.2.2.2.2.2.2.2.2.2.2.1).bind fun y7=> some (z4.1,y5,!y7,z4.2.2.1,())))).bind fun z8=> cond z8.2.2.1 (some false) ((a5g z8.2.2.2.1.1).bind fun y9=> cond (!y9) (cond ((z8.2.2.2.1.2.2.2.2.2.2.2.2.2.2.1.length:Int)==0) (cond (z8.2.2.2.1.2.2.2.2.2.2.2.2.2.1.1==0) (some ((z8.2.2.2.1.2.2.2.2.2.2.2.2.2.1.2.1.length:Int)==0)) (some false)) (some false)) (cond ((z8.2.2.2.1.2.2.2.2.2.2.2.2.2.2.1.length:Int)==(wrap .i64 (z8.1-z8.2.1))) ((a7K (z8.2.2.2.1.2.2.2.2.2.2.2.2.2.1,z8.1,z8.2.1)).bind fun y10=> some y10) (some false)))))
def b4K:FSem:=⟨[.v Q31,.v QI],[.v .bool],a8y⟩
def c8H:Hints:=⟨[],[(6,[(.normal,[.sv 1 QI,.sv 24 .bool,.vp 2 Q31])]),(14,[(.normal,[.sv 1 QI,.sv 42 .bool,.vp 2 Q31])]),(62,[(.normal,[.sv 1 QI,.sv 5 QI,.sv 62 .bool,.vp 2 Q31])])],[]⟩
def b2h(s:Z15):Option Z61:= cond (decide (s.2.2.1<s.2.1)) ((l0z s.1 s.2.2.1).bind fun x1=> (show Option Z32 from cond (decide (x1<(-1073741824))) (some (s.1,s.2.1,s.2.2.1,true,())) (some (s.1,s.2.1,s.2.2.1,decide (x1≥1073741824),()))).bind fun z2=> cond z2.2.2.2.1 (some (.inr (Sum.inr ((false,()))))) (some (.inl (z2.1,z2.2.1,wrap .i64 (z2.2.2.1+1),())))) (some (.inr (Sum.inl ())))
def a2o(x:(List Int)):Option Bool:= (x0r b2h (x,(x.length:Int),0,())).bind fun w3=> match w3 with |.inl a4=>some true |.inr b5=>some b5.1
def b1z:FSem:=⟨[.v QL],[.v .bool],a2o⟩
def c8I:Hints:=⟨[(26,[.sv 5 QL,.sv 6 QI,.sv 7 QI],[(.exit 0,[]),(.ret,[.sv 2 .bool])])],[(1689,[(.normal,[.sv 5 QL,.sv 6 QI,.sv 7 QI,.sv 16 .bool])])],[]⟩
def a1i(x:(Int×(List Int))):Option (Int×(List Int)):= (l0z x.2 (wrap .i64 ((x.2.length:Int)-x.1))).bind fun x1=> some (x1,x.2)
def b2i:FSem:=⟨[.v QI,.r false (.b QL)],[.v QI],a1i⟩
def c8J:Hints:=⟨[],[],[]⟩
def a7W(x:((List Int)×Int)):Option Int:= cond (x.2==1) ((a1i (1,x.1)).bind fun y1=> some y1.1) (cond (x.2==2) ((a1i (1,x.1)).bind fun y2=> (a1i (2,y2.2)).bind fun y3=> some (wrap .i64 ((wrap .i64 (2*y2.1))-y3.1))) (cond (x.2==3) ((a1i (1,x.1)).bind fun y4=> (a1i (2,y4.2)).bind fun y5=> (a1i (3,y5.2)).bind fun y6=> some (wrap .i64 ((wrap .i64 ((wrap .i64 (3*y4.1))-(wrap .i64 (3*y5.1))))+y6.1))) (cond (x.2==4) ((a1i (1,x.1)).bind fun y7=> (a1i (2,y7.2)).bind fun y8=> (a1i (3,y8.2)).bind fun y9=> (a1i (4,y9.2)).bind fun y10=> some (wrap .i64 ((wrap .i64 ((wrap .i64 ((wrap .i64 (4*y7.1))-(wrap .i64 (6*y8.1))))+(wrap .i64 (4*y9.1))))-y10.1))) (some 0))))
def b4r:FSem:=⟨[.v QL,.v QI],[.v QI],a7W⟩
def c8K:Hints:=⟨[],[],[]⟩
def a6J(s:Z53):Option (Z53 ⊕ Z42):= cond (decide (s.2.2.2.1<s.2.2.1)) ((l0z s.2.1 s.2.2.2.1).bind fun x5=> (a7W (s.2.2.2.2.1,s.1)).bind fun y6=> (a2o [wrap .i64 (x5+y6)]).bind fun y7=> cond (!y7) (some (.inr (Sum.inr ((6,[],()))))) (cond (lim ((a02 s.2.2.2.2.1)+1)) (some (.inl (s.1,s.2.1,s.2.2.1,wrap .i64 (s.2.2.2.1+1),a03 s.2.2.2.2.1 [wrap .i64 (x5+y6)],()))) none)) (some (.inr (Sum.inl (s.2.2.2.2.1,()))))
def a8z(x:Z10):Option ((List Int)×Int):= (show Option Z43 from cond (decide (x.2.2<0)) (some (x.1,x.2.1,x.2.2,true,())) (cond (decide (x.2.2 > 4)) (some (x.1,x.2.1,x.2.2,true,())) (some (x.1,x.2.1,x.2.2,(x.1.length:Int) != x.2.2,())))).bind fun z1=> cond z1.2.2.2.1 (some ([],1)) ((show Option Z43 from(a2o z1.1).bind fun y2=> cond (!y2) (some (z1.1,z1.2.1,z1.2.2.1,true,())) ((a2o z1.2.1).bind fun y3=> some (z1.1,z1.2.1,z1.2.2.1,!y3,()))).bind fun z4=> cond z4.2.2.2.1 (some ([],6)) (cond (lim (a02 z4.1)) ((x0r a6J (z4.2.2.1,z4.2.1,(z4.2.1.length:Int),0,z4.1,())).bind fun w8=> match w8 with |.inl a9=>some (a9.1,0) |.inr b10=>some (b10.2.1,b10.1)) none))
def b4L:FSem:=⟨[.v QL,.v QL,.v QI],[.o QI,.v QI],a8z⟩
def c8L:Hints:=⟨[(250,[.sv 2 QI,.sv 34 QL,.sv 35 QI,.sv 36 QI,.own 8 8 QI],[(.exit 0,[.own 8 8 QI]),(.ret,[.sv 7 QI,.own 6 6 QI])])],[(6,[(.normal,[.sv 0 QL,.sv 1 QL,.sv 2 QI,.sv 23 .bool])]),(14,[(.normal,[.sv 0 QL,.sv 1 QL,.sv 2 QI,.sv 31 .bool])])],[]⟩
def a4x(x:Int):Option Bool:= cond (decide (x≥(-1073741824))) (some (decide (x<1073741824))) (some false)
def a7X:FSem:=⟨[.v QI],[.v .bool],a4x⟩
def c8M:Hints:=⟨[],[],[]⟩
def a2Q(s:Z15):Option Z61:= cond (decide (s.2.2.1<s.2.1)) ((l0z s.1 s.2.2.1).bind fun x1=> (a4x x1).bind fun y2=> cond (!y2) (some (.inr (Sum.inr ((false,()))))) (some (.inl (s.1,s.2.1,wrap .i64 (s.2.2.1+1),())))) (some (.inr (Sum.inl ())))
def a2u(x:(List Int)):Option Bool:= (x0r a2Q (x,(x.length:Int),0,())).bind fun w3=> match w3 with |.inl a4=>some true |.inr b5=>some b5.1
def a5G:FSem:=⟨[.v QL],[.v .bool],a2u⟩
def c8N:Hints:=⟨[(26,[.sv 5 QL,.sv 6 QI,.sv 7 QI],[(.exit 0,[]),(.ret,[.sv 2 .bool])])],[],[]⟩
def a2R(s:Z65):Option (Z65 ⊕ (Int×Int×Unit)):= cond (decide (s.2.2.2.2.2.1<s.2.2.2.2.1)) ((l0z s.2.2.2.1 s.2.2.2.2.2.1).bind fun x1=> cond (decide ((wrap .i64 ((wrap .i64 ((s.1.length:Int)-1))-s.2.2.2.2.2.1))<0)) (some (.inr (s.2.1,s.2.2.1,()))) ((l0z s.1 (wrap .i64 ((wrap .i64 ((s.1.length:Int)-1))-s.2.2.2.2.2.1))).bind fun x2=> some (.inl (s.1,s.2.1,wrap .i64 (s.2.2.1+(wrap .i64 (x1*x2))),s.2.2.2.1,s.2.2.2.2.1,wrap .i64 (s.2.2.2.2.2.1+1),())))) (some (.inr (s.2.1,s.2.2.1,())))
def a4a(x:Z10):Option Int:= (x0r a2R (x.1,x.2.2,0,x.2.1,(x.2.1.length:Int),0,())).bind fun w3=> cond (decide (w3.1<0)) none (some (z0h .i64 w3.2.1 w3.1))
def a8j:FSem:=⟨[.v QL,.v QL,.v QI],[.v QI],a4a⟩
def c8O:Hints:=⟨[(58,[.sv 0 QL,.sv 2 QI,.sv 7 QI,.sv 11 QL,.sv 12 QI,.sv 13 QI],[(.exit 0,[.sv 2 QI,.sv 7 QI])])],[],[]⟩
def a5H(s:((List Int)×Z53)):Option (((List Int)×Z53) ⊕ Z42):= cond (decide (s.2.2.2.2.1<s.2.2.2.1)) ((l0z s.2.2.1 s.2.2.2.2.1).bind fun x6=> (a4a (s.2.2.2.2.2.1,s.1,s.2.1)).bind fun y7=> (a4x (wrap .i64 (y7+x6))).bind fun y8=> cond (!y8) (some (.inr (Sum.inr ((6,[],()))))) (cond (lim ((a02 s.2.2.2.2.2.1)+1)) (some (.inl (s.1,s.2.1,s.2.2.1,s.2.2.2.1,wrap .i64 (s.2.2.2.2.1+1),a03 s.2.2.2.2.2.1 [wrap .i64 (y7+x6)],()))) none)) (some (.inr (Sum.inl (s.2.2.2.2.2.1,()))))
def a6a(x:((List Int)×Z10)):Option ((List Int)×Int):= (show Option ((List Int)×Z43)from(a3Y (x.2.2.1,x.2.2.2)).bind fun y1=> cond (!y1) (some (x.1,x.2.1,x.2.2.1,x.2.2.2,true,())) (some (x.1,x.2.1,x.2.2.1,x.2.2.2,(x.1.length:Int) != (x.2.2.1.length:Int),()))).bind fun z2=> cond z2.2.2.2.2.1 (some ([],1)) ((show Option ((List Int)×Z43)from(a2u z2.1).bind fun y3=> cond (!y3) (some (z2.1,z2.2.1,z2.2.2.1,z2.2.2.2.1,true,())) ((a2u z2.2.1).bind fun y4=> some (z2.1,z2.2.1,z2.2.2.1,z2.2.2.2.1,!y4,()))).bind fun z5=> cond z5.2.2.2.2.1 (some ([],6)) (cond ((decide (0≤(wrap .i64 ((z5.1.length:Int)+(z5.2.1.length:Int)))))&&(lim (a01 (wrap .i64 ((z5.1.length:Int)+(z5.2.1.length:Int)))))) (cond (lim (0+(a02 z5.1))) ((x0r a5H (z5.2.2.1,z5.2.2.2.1,z5.2.1,(z5.2.1.length:Int),0,a03 [] z5.1,())).bind fun w9=> match w9 with |.inl a10=>some (a10.1,0) |.inr b11=>some (b11.2.1,b11.1)) none) none))
def b4s:FSem:=⟨[.v QL,.v QL,.v QL,.v QI],[.o QI,.v QI],a6a⟩
def c8P:Hints:=⟨[(506,[.sv 2 QL,.sv 3 QI,.sv 42 QL,.sv 43 QI,.sv 44 QI,.own 10 10 QI],[(.exit 0,[.own 10 10 QI]),(.ret,[.sv 9 QI,.own 8 8 QI])])],[(6,[(.normal,[.sv 0 QL,.sv 1 QL,.sv 2 QL,.sv 3 QI,.sv 24 .bool])]),(14,[(.normal,[.sv 0 QL,.sv 1 QL,.sv 2 QL,.sv 3 QI,.sv 32 .bool])])],[]⟩
def a6t(x:Int):Option Bool:= cond (decide (x≥(-1073741824))) (some (decide (x<1073741824))) (some false)
def a9A:FSem:=⟨[.v QI],[.v .bool],a6t⟩
def c8Q:Hints:=⟨[],[],[]⟩
def a3z(s:Z15):Option Z61:= cond (decide (s.2.2.1<s.2.1)) ((l0z s.1 s.2.2.1).bind fun x1=> (a6t x1).bind fun y2=> cond (!y2) (some (.inr (Sum.inr ((false,()))))) (some (.inl (s.1,s.2.1,wrap .i64 (s.2.2.1+1),())))) (some (.inr (Sum.inl ())))
def a3P(x:(List Int)):Option Bool:= (x0r a3z (x,(x.length:Int),0,())).bind fun w3=> match w3 with |.inl a4=>some true |.inr b5=>some b5.1
def a7j:FSem:=⟨[.v QL],[.v .bool],a3P⟩
def c8R:Hints:=⟨[(26,[.sv 5 QL,.sv 6 QI,.sv 7 QI],[(.exit 0,[]),(.ret,[.sv 2 .bool])])],[],[]⟩
def a3A(s:((List Int)×(Int×Int×Z17))):Option (((List Int)×(Int×Int×Z17)) ⊕ (Int×Unit)):= cond (decide (s.2.2.2.2.2.1<3)) ((l0z s.2.2.2.2.1 s.2.2.2.2.2.1).bind fun x1=> cond (decide ((wrap .i64 ((wrap .i64 ((wrap .i64 (s.2.1-s.2.2.1))-1))+s.2.2.2.2.2.1))≥0)) ((l0z s.1 (wrap .i64 ((wrap .i64 ((wrap .i64 (s.2.1-s.2.2.1))-1))+s.2.2.2.2.2.1))).bind fun x2=> some (.inl (s.1,s.2.1,s.2.2.1,wrap .i64 (s.2.2.2.1+(wrap .i64 (x1*x2))),s.2.2.2.2.1,wrap .i64 (s.2.2.2.2.2.1+1),()))) (some (.inl (s.1,s.2.1,s.2.2.1,s.2.2.2.1,s.2.2.2.2.1,wrap .i64 (s.2.2.2.2.2.1+1),())))) (some (.inr (s.2.2.2.1,())))
def a3Q(x:((List Int)×Z1)):Option Int:= (x0r a3A (x.1,x.2.1,x.2.2.1,0,x.2.2.2,0,())).bind fun w3=> some (z0h .i64 w3.1 6)
def a9j:FSem:=⟨[.v QL,.v QI,.v QI,.v (.arr 3 QI)],[.v QI],a3Q⟩
def c8S:Hints:=⟨[(58,[.sv 0 QL,.sv 1 QI,.sv 2 QI,.sv 9 QI,.sv 13 (.arr 3 QI),.sv 14 QI],[(.exit 0,[.sv 9 QI])])],[],[]⟩
def a7k(s:Z74):Option (Z74 ⊕ Z42):= cond (decide (s.2.2.2.1<s.2.2.1)) ((l0z s.2.1 s.2.2.2.1).bind fun x3=> (a3Q (s.2.2.2.2.1,s.2.2.2.1,s.1,s.2.2.2.2.2.1)).bind fun y4=> (a6t (wrap .i64 (x3+y4))).bind fun y5=> cond (!y5) (some (.inr (Sum.inr ((6,[],()))))) (cond (lim ((a02 s.2.2.2.2.1)+1)) (some (.inl (s.1,s.2.1,s.2.2.1,wrap .i64 (s.2.2.2.1+1),a03 s.2.2.2.2.1 [wrap .i64 (x3+y4)],s.2.2.2.2.2.1,()))) none)) (some (.inr (Sum.inl (s.2.2.2.2.1,()))))
def a9B(x:((List Int)×(Int×(List Int)))):Option ((List Int)×Int):= (a7i (x.2.1,x.2.2)).bind fun y1=> cond (!y1) (some ([],1)) ((a3P x.1).bind fun y2=> cond (!y2) (some ([],6)) (cond ((decide (0≤(x.1.length:Int)))&&(lim (a01 (x.1.length:Int)))) ((x0r a7k (x.2.1,x.1,(x.1.length:Int),0,[],x.2.2,())).bind fun w6=> match w6 with |.inl a7=>some (a7.1,0) |.inr b8=>some (b8.2.1,b8.1)) none))
def b5y:FSem:=⟨[.v QL,.v QI,.v (.arr 3 QI)],[.o QI,.v QI],a9B⟩
def c8T:Hints:=⟨[(250,[.sv 1 QI,.sv 22 QL,.sv 23 QI,.sv 24 QI,.own 8 8 QI,.vp 5 (.arr 3 QI)],[(.exit 0,[.own 8 8 QI]),(.ret,[.sv 7 QI,.own 6 6 QI])])],[],[]⟩
def a5j(x:Int):Option Bool:= cond (decide (x≥(-1073741824))) (some (decide (x<1073741824))) (some false)
def a8A:FSem:=⟨[.v QI],[.v .bool],a5j⟩
def c8U:Hints:=⟨[],[],[]⟩
def a3h(s:Z15):Option Z61:= cond (decide (s.2.2.1<s.2.1)) ((l0z s.1 s.2.2.1).bind fun x1=> (a5j x1).bind fun y2=> cond (!y2) (some (.inr (Sum.inr ((false,()))))) (some (.inl (s.1,s.2.1,wrap .i64 (s.2.2.1+1),())))) (some (.inr (Sum.inl ())))
def a4C(x:(List Int)):Option Bool:= (x0r a3h (x,(x.length:Int),0,())).bind fun w3=> match w3 with |.inl a4=>some true |.inr b5=>some b5.1
def a8B:FSem:=⟨[.v QL],[.v .bool],a4C⟩
def c8V:Hints:=⟨[(26,[.sv 5 QL,.sv 6 QI,.sv 7 QI],[(.exit 0,[]),(.ret,[.sv 2 .bool])])],[],[]⟩
def a7L(x:(Int×Int×Unit)):Option (Z23×Int):= (a5Z x).bind fun y1=> cond (!y1) none (cond ((decide (0≤x.1))&&((decide (x.1≤x.1))&&(lim (a01 x.1)))) (cond ((decide (0≤x.1))&&((decide (x.1≤x.1))&&(lim (a01 x.1)))) (some ((x.2.1,a00 (a01 x.1) 0,a00 (a01 x.1) 0,()),0)) none) none)
def b2J:FSem:=⟨[.v Q3],[.b Q12,.v QI],a7L⟩
def c8W:Hints:=⟨[],[],[(3,[.v,.v,.v,.v,.q,.v,.v,.q,.x,.x,.x,.x])]⟩
def a4D(x:Int):Option Int:= some (v0a (u0z x (-1073741824)) 1073741823)
def a8C:FSem:=⟨[.v QI],[.v QI],a4D⟩
def c8X:Hints:=⟨[],[],[]⟩
def a2P(s:Z76):Option (Z76 ⊕ Z55):= cond (decide (s.2.2.1<s.2.1)) (cond ((decide (0≤s.2.2.1))&&(decide (s.2.2.1<(s.2.2.2.1.2.1.length:Int)))) (cond ((decide (0≤s.2.2.1))&&(decide (s.2.2.1<(s.2.2.2.1.2.2.1.length:Int)))) (some (.inl (wrap .i64 (s.1+(wrap .i64 ((a04 s.2.2.2.1.2.1 (a01 s.2.2.1) 0)*(a04 s.2.2.2.1.2.2.1 (a01 s.2.2.1) 0)))),s.2.1,wrap .i64 (s.2.2.1+1),s.2.2.2.1,()))) none) none) (some (.inr (s.1,s.2.2.2.1,())))
def a1V(x:Z23):Option Z38:= (x0r a2P (0,(x.2.1.length:Int),0,x,())).bind fun w1=> (a4D (z0h .i64 w1.1 16)).bind fun y2=> some (y2,w1.2.1)
def a3F:FSem:=⟨[.r false (.b Q12)],[.v QI],a1V⟩
def c8Y:Hints:=⟨[(58,[.sv 3 QI,.sv 10 QI,.sv 11 QI,.box pinned Q12,.ptr 0 pinned [],.ref 9 pinned [.snd,.fst]],[(.exit 0,[.sv 3 QI,.box pinned Q12])])],[],[]⟩
def a2p(s:(Int×Z76)):Option ((Int×Z76) ⊕ Z55):= cond (decide (s.2.2.2.1<s.2.2.1)) (cond ((decide (0≤s.2.2.2.1))&&(decide (s.2.2.2.1<(s.2.2.2.2.1.2.2.1.length:Int)))) (cond ((decide (0≤s.2.2.2.1))&&(decide (s.2.2.2.1<(s.2.2.2.2.1.2.1.length:Int)))) ((show Option (Int×Int×Int×Z76)from cond (decide ((a04 s.2.2.2.2.1.2.2.1 (a01 s.2.2.2.1) 0) > 0)) (some (s.1,s.2.1,s.2.2.2.1,wrap .i64 ((a04 s.2.2.2.2.1.2.1 (a01 s.2.2.2.1) 0)+s.2.1),s.2.2.1,s.2.2.2.1,s.2.2.2.2.1,())) (cond (decide ((a04 s.2.2.2.2.1.2.2.1 (a01 s.2.2.2.1) 0)<0)) (some (s.1,s.2.1,s.2.2.2.1,wrap .i64 ((a04 s.2.2.2.2.1.2.1 (a01 s.2.2.2.1) 0)-s.2.1),s.2.2.1,s.2.2.2.1,s.2.2.2.2.1,())) (some (s.1,s.2.1,s.2.2.2.1,a04 s.2.2.2.2.1.2.1 (a01 s.2.2.2.1) 0,s.2.2.1,s.2.2.2.1,s.2.2.2.2.1,())))).bind fun z4=> cond ((decide (0≤z4.2.2.1))&&(decide (z4.2.2.1<(z4.2.2.2.2.2.2.1.2.1.length:Int)))) (some (.inl (z4.1,z4.2.1,z4.2.2.2.2.1,wrap .i64 (z4.2.2.2.2.2.1+1),(z4.2.2.2.2.2.2.1.1,a26 z4.2.2.2.2.2.2.1.2.1 (a01 z4.2.2.1) (v0a (u0z z4.2.2.2.1 (-1048576)) 1048576),z4.2.2.2.2.2.2.1.2.2),()))) none) none) none) (some (.inr (s.1,s.2.2.2.2.1,())))
def a2S(x:(Z23×Int)):Option Z23:= (a4D x.2).bind fun y1=> (show Option Z68 from(a1V x.1).bind fun y2=> cond (decide (y1 > y2.1)) (cond (decide (y2.2.1<0)) none (some (y1,z0g .i64 1 y2.2.1,y2.2,()))) (cond (decide (y1<y2.1)) (cond (decide (y2.2.1<0)) none (some (y1,wrap .i64 (0-(z0g .i64 1 y2.2.1)),y2.2,()))) (some (y1,0,y2.2,())))).bind fun z3=> (x0r a2p (z3.1,z3.2.1,(z3.2.2.1.2.2.1.length:Int),0,z3.2.2.1,())).bind fun w5=> cond (decide (1≤(w5.2.1.2.2.1.length:Int))) (cond (decide (0<(a02 (o0p w5.2.1.2.2.1 1 ((a02 w5.2.1.2.2.1)-1) w5.2.1.2.2.1):Int))) (some (w5.2.1.1,w5.2.1.2.1,a26 (o0p w5.2.1.2.2.1 1 ((a02 w5.2.1.2.2.1)-1) w5.2.1.2.2.1) 0 w5.1,w5.2.1.2.2.2)) none) none
def a6F:FSem:=⟨[.r false (.b Q12),.v QI],[],a2S⟩
def c8Z:Hints:=⟨[(122,[.sv 1 QI,.sv 4 QI,.sv 36 QI,.sv 37 QI,.box pinned Q12,.ptr 0 pinned [],.ref 35 pinned [.snd,.snd,.fst]],[(.exit 1,[.sv 1 QI,.box pinned Q12,.ptr 0 pinned []])])],[(7,[(.normal,[.sv 1 QI,.sv 4 QI,.box pinned Q12,.ptr 0 pinned []])]),(15667,[(.normal,[.sv 1 QI,.sv 4 QI,.sv 6 QI,.sv 8 QI,.sv 36 QI,.sv 37 QI,.box pinned Q12,.ptr 0 pinned [],.ref 35 pinned [.snd,.snd,.fst]])])],[(17,[.p,.p,.q,.q,.q,.p,.p,.q,.q,.x])]⟩
def a4E(s:(Int×(Int×((List Int)×Z75)))):Option ((Int×(Int×((List Int)×Z75))) ⊕ (Z24 ⊕ Z24)):= cond (decide (s.2.1<s.1)) (cond ((decide (0≤s.2.1))&&(decide (s.2.1<(s.2.2.2.2.1.length:Int)))) ((a1V s.2.2.2.2.2.1).bind fun y6=> (a5j (wrap .i64 (y6.1+(a04 s.2.2.2.2.1 (a01 s.2.1) 0)))).bind fun y7=> cond (!y7) (some (.inr (Sum.inr (([],6,s.2.2.2.2.1,()))))) ((a2S (y6.2,wrap .i64 (y6.1+(a04 s.2.2.2.2.1 (a01 s.2.1) 0)))).bind fun y8=> cond ((decide (0≤s.2.1))&&(decide (s.2.1<(s.2.2.2.2.1.length:Int)))) (some (.inl (s.1,wrap .i64 (s.2.1+1),s.2.2.1,s.2.2.2.1,a26 s.2.2.2.2.1 (a01 s.2.1) (wrap .i64 (y6.1+(a04 s.2.2.2.2.1 (a01 s.2.1) 0))),y8,()))) none)) none) (some (.inr (Sum.inl (s.2.2.1,s.2.2.2.1,s.2.2.2.2.1,()))))
def a6K(k:Int)(v:(Int×Int×Unit))(s:(Z4×Z24)):Option ((Z4×Z24) ⊕ (Ex×Z4×Z24)):= (a7L v).bind fun y4=> cond (y4.2 != 0) (some (.inr (.ret,s.1,[],y4.2,s.2.2.2.1,()))) ((x0r a4E ((s.2.2.2.1.length:Int),0,s.2.1,s.2.2.1,s.2.2.2.1,y4.1,())).bind fun w9=> match w9 with |.inl a10=>some (.inl (s.1,a10.1,a10.2.1,a10.2.2.1,())) |.inr b11=>some (.inr (.ret,s.1,b11.1,b11.2.1,b11.2.2.1,())))
def a8D(x:((List Int)×Z4)):Option ((List Int)×Int):= (a6r x.2).bind fun y1=> cond (!y1) (some ([],1)) ((a4C x.1).bind fun y2=> cond (!y2) (some ([],6)) ((a1d x.1).bind fun y3=> cond (lim (a02 x.2)) ((k0w a6K x.2 (a02 x.2) (x.2,[],0,y3,())).bind fun w12=> match w12 with |.inl a13=>some (a13.2.2.2.1,0) |.inr (.normal,a14)=>some (a14.2.2.2.1,0) |.inr (.exit e15,a14)=>(cond (e15==0) (some (a14.2.2.2.1,0)) none) |.inr (.ret,a14)=>some (a14.2.1,a14.2.2.1)) none))
def a6S:FSem:=⟨[.v QL,.v (.list false Q3)],[.v QL,.v QI],a8D⟩
def c9a:Hints:=⟨[(8046,[.sv 35 QI,.sv 36 QI,.box 1001004 QL,.box 1001005 QI,.box 1001006 (.list true QI),.box 1028 Q12,.ptr 4 1001004 [],.ptr 5 1001005 [],.ptr 6 1001006 [],.ptr 9 1028 [],.ref 34 1001006 []],[(.exit 2,[.box 1001004 QL,.box 1001005 QI,.box 1001006 (.list true QI),.ptr 4 1001004 [],.ptr 5 1001005 [],.ptr 6 1001006 []]),(.ret,[.box 1001004 QL,.box 1001005 QI,.box 1001006 (.list true QI),.ptr 4 1001004 [],.ptr 5 1001005 [],.ptr 6 1001006 []])])],[],[]⟩
def c4Q:Cx:=a7C [(87,a0Y),(219,a9x),(259,a8B),(261,b2J),(262,a3F),(263,a8A),(264,a6F)] [(6,.list true QI)] [0,1,9,10,11,12,13] [56]
def c6a:HintR:=⟨22,Q3,260,295,[4,5,6],[.sv 22 (.list false Q3),.box 1001004 QL,.box 1001005 QI,.box 1001006 (.list true QI),.ptr 4 1001004 [],.ptr 5 1001005 [],.ptr 6 1001006 []]⟩
theorem c6O(x):y0f c4Q c9a c6a Tryz.f193 a6S.ps a6S.rs x=a6S.F x:=by kernel_rfl
def a4y(x:Int):Option Bool:= cond (decide ((-1073741824)≤x)) (some (decide (x<1073741824))) (some false)
def b0O:FSem:=⟨[.v QI],[.v .bool],a4y⟩
def c9b:Hints:=⟨[],[],[]⟩
def a7l(s:Z53):Option (Z53 ⊕ Z42):= cond (decide (s.2.2.2.1<s.2.2.1)) ((l0z s.2.1 s.2.2.2.1).bind fun x2=> (show Option (Int×(Int×((List Int)×(Int×Int×Z8))))from(a4y x2).bind fun y3=> cond (!y3) (some (s.1,x2,s.2.1,s.2.2.1,s.2.2.2.1,true,s.2.2.2.2.1,())) (cond (decide (s.1<0)) none ((a4y (z0g .i64 x2 s.1)).bind fun y4=> some (s.1,x2,s.2.1,s.2.2.1,s.2.2.2.1,!y4,s.2.2.2.2.1,())))).bind fun z5=> cond z5.2.2.2.2.2.1 (some (.inr (Sum.inr ((6,[],()))))) (cond (decide (z5.1<0)) none (cond (lim ((a02 z5.2.2.2.2.2.2.1)+1)) (some (.inl (z5.1,z5.2.2.1,z5.2.2.2.1,wrap .i64 (z5.2.2.2.2.1+1),a03 z5.2.2.2.2.2.2.1 [z0g .i64 z5.2.1 z5.1],()))) none))) (some (.inr (Sum.inl (s.2.2.2.2.1,()))))
def a7M(x:((List Int)×Int)):Option ((List Int)×Int):= (show Option Z18 from cond (decide (x.2<0)) (some (x.1,x.2,true,())) (some (x.1,x.2,decide (x.2 > 30),()))).bind fun z1=> cond z1.2.2.1 (some ([],1)) ((x0r a7l (z1.2.1,z1.1,(z1.1.length:Int),0,[],())).bind fun w6=> match w6 with |.inl a7=>some (a7.1,0) |.inr b8=>some (b8.2.1,b8.1))
def b5z:FSem:=⟨[.v QL,.v QI],[.o QI,.v QI],a7M⟩
def c9c:Hints:=⟨[(122,[.sv 1 QI,.sv 15 QL,.sv 16 QI,.sv 17 QI,.own 6 6 QI],[(.exit 0,[.own 6 6 QI]),(.ret,[.sv 5 QI,.own 4 4 QI])])],[(6,[(.normal,[.sv 0 QL,.sv 1 QI,.sv 14 .bool])]),(15666,[(.normal,[.sv 1 QI,.sv 8 QI,.sv 15 QL,.sv 16 QI,.sv 17 QI,.sv 30 .bool,.own 6 6 QI])])],[]⟩
def a6b(s:(Int×(Int×((List Int)×Z96)))):Option ((Int×(Int×((List Int)×Z96))) ⊕ ((List Int)×Unit)):= cond (decide (s.2.1<s.1)) ((l0z s.2.2.2.1.2.2.2.2.2.2.2.2.1 0).bind fun x1=> cond (lim ((a02 s.2.2.1)+1)) (some (.inl (s.1,wrap .i64 (s.2.1+1),a03 s.2.2.1 [x1],s.2.2.2.1,()))) none) (some (.inr (s.2.2.1,())))
def b1c(x:Z95):Option ((List Int)×Int):= (show Option (((List Int)×(Int×Z96)) ⊕ Z5)from cond (x.1.1==0) ((x0r a6b (x.2,0,[],x.1,())).bind fun w2=> some (Sum.inr ((0,w2.1,())))) (cond (x.1.1==1) (some (Sum.inl (x.1.2.2.2.2.2.2.2.2.1,0,x.1,()))) (cond (x.1.1==2) ((a8z (x.1.2.2.2.2.2.2.2.2.1,x.1.2.2.2.2.2.2.2.2.2.2.1,x.1.2.2.1)).bind fun y3=> some (Sum.inl (y3.1,y3.2,x.1,()))) (cond (x.1.1==3) ((a6a (x.1.2.2.2.2.2.2.2.2.1,x.1.2.2.2.2.2.2.2.2.2.2.1,x.1.2.2.2.2.2.1,x.1.2.2.2.1)).bind fun y4=> some (Sum.inl (y4.1,y4.2,x.1,()))) (cond (x.1.1==4) ((a6a (x.1.2.2.2.2.2.2.2.2.1,x.1.2.2.2.2.2.2.2.2.2.2.1,x.1.2.2.2.2.2.1,x.1.2.2.2.1)).bind fun y5=> cond (y5.2==0) ((a9B (y5.1,x.1.2.2.2.2.1,x.1.2.2.2.2.2.2.1)).bind fun y6=> some (Sum.inl (y6.1,y6.2,x.1,()))) (some (Sum.inl (y5.1,y5.2,x.1,())))) (cond (x.1.1==5) ((a8D (x.1.2.2.2.2.2.2.2.2.2.2.1,x.1.2.2.2.2.2.2.2.1)).bind fun y7=> some (Sum.inl (y7.1,y7.2,x.1,()))) (some (Sum.inl ([],0,x.1,()))))))))).bind fun z8=> match z8 with |.inl a9=>(cond (a9.2.1 != 0) (some ([],a9.2.1)) ((a7M (a9.1,a9.2.2.1.2.1)).bind fun y11=> some (y11.1,y11.2))) |.inr b10=>some (b10.2.1,b10.1)
def b6D:FSem:=⟨[.v Q31,.v QI],[.o QI,.v QI],b1c⟩
def c9d:Hints:=⟨[(3922,[.sv 12 QI,.sv 13 QI,.own 6 6 QI,.vp 2 Q31],[(.exit 1,[.own 6 6 QI])])],[(15,[(.normal,[.sv 6 QL,.sv 7 QI,.vp 2 Q31]),(.ret,[.sv 5 QI,.own 4 6 QI])])],[]⟩
def a9Z(x:Z95):Option ((List Int)×Int):= (a8y (x.1,x.2)).bind fun y1=> cond (!y1) (some ([],1)) ((b1c (x.1,x.2)).bind fun y2=> cond (y2.2 != 0) (some ([],1)) (some (y2.1,0)))
def b4M:FSem:=⟨[.v Q31,.v QI],[.o QI,.v QI],a9Z⟩
def H45:Hints:=⟨[],[],[]⟩
def a7N(x:Int):Option Bool:= cond (decide ((-1073741824)≤x)) (some (decide (x<1073741824))) (some false)
def b2K:FSem:=⟨[.v QI],[.v .bool],a7N⟩
def c9e:Hints:=⟨[],[],[]⟩
def a3R(s:((List (List Int))×((List (List Int))×Z44))):Option (((List (List Int))×((List (List Int))×Z44)) ⊕ (((List (List Int))×Z25) ⊕ (Bool×Unit))):= cond (decide (s.2.2.2.2.2.2.1<s.2.2.2.2.2.1)) ((l0z s.2.2.2.2.1 s.2.2.2.2.2.2.1).bind fun x5=> (a7N x5).bind fun y6=> cond (!y6) (some (.inr (Sum.inr ((false,()))))) (some (.inl (s.1,s.2.1,s.2.2.1,s.2.2.2.1,s.2.2.2.2.1,s.2.2.2.2.2.1,wrap .i64 (s.2.2.2.2.2.2.1+1),())))) (some (.inr (Sum.inl (s.1,s.2.1,s.2.2.1,s.2.2.2.1,()))))
def a3S(s:((List (List Int))×Z25)):Option (((List (List Int))×Z25) ⊕ Z0):= cond (decide (s.2.2.2.1<s.2.2.1)) ((l0z s.2.1 s.2.2.2.1).bind fun x3=> (l0z s.1 0).bind fun x4=> cond ((x3.length:Int) != (x4.length:Int)) (some (.inr (Sum.inr ((false,()))))) ((x0r a3R (s.1,s.2.1,s.2.2.1,s.2.2.2.1,x3,(x3.length:Int),0,())).bind fun w7=> match w7 with |.inl a8=>some (.inl (a8.1,a8.2.1,a8.2.2.1,wrap .i64 (a8.2.2.2.1+1),())) |.inr b9=>some (.inr (Sum.inr ((b9.1,())))))) (some (.inr (Sum.inl ())))
def a6u(x:(List (List Int))):Option Bool:= (show Option ((List (List Int))×(Bool×Unit))from cond (decide ((x.length:Int)<1)) (some (x,true,())) (cond (decide ((x.length:Int) > 8)) (some (x,true,())) ((l0z x 0).bind fun x1=> some (x,decide ((x1.length:Int) > 4096),())))).bind fun z2=> cond z2.2.1 (some false) ((x0r a3S (z2.1,z2.1,(z2.1.length:Int),0,())).bind fun w10=> match w10 with |.inl a11=>some true |.inr b12=>some b12.1)
def a9C:FSem:=⟨[.v (.list false QL)],[.v .bool],a6u⟩
def c9f:Hints:=⟨[(58,[.sv 0 (.list false QL),.sv 22 (.list false QL),.sv 23 QI,.sv 24 QI],[(.exit 0,[]),(.ret,[.sv 2 .bool])]),(29902,[.sv 0 (.list false QL),.sv 22 (.list false QL),.sv 23 QI,.sv 24 QI,.sv 35 QL,.sv 36 QI,.sv 37 QI],[(.exit 2,[.sv 0 (.list false QL),.sv 22 (.list false QL),.sv 23 QI,.sv 24 QI]),(.ret,[.sv 2 .bool])])],[(6,[(.normal,[.sv 0 (.list false QL),.sv 21 .bool])])],[]⟩
def a5I(s:((List (List Int))×Z26)):Option (((List (List Int))×Z26) ⊕ Z2):= cond (decide (s.2.2.1<s.2.1)) ((l0z s.1 s.2.2.1).bind fun x1=> (a1d x1).bind fun y2=> cond (lim ((a02 s.2.2.2.1)+(a02 (a26 ([[]]:List (List Int)) 0 y2)))) (some (.inl (s.1,s.2.1,wrap .i64 (s.2.2.1+1),a03 s.2.2.2.1 (a26 ([[]]:List (List Int)) 0 y2),()))) none) (some (.inr (s.2.2.2.1,())))
def a6c(x:(List (List Int))):Option (List (List Int)):= (x0r a5I (x,(x.length:Int),0,([]:(List (List Int))),())).bind fun w3=> some w3.1
def b0P:FSem:=⟨[.v (.list false QL)],[.o (.list true QI)],a6c⟩
def c9g:Hints:=⟨[(58,[.sv 6 (.list false QL),.sv 7 QI,.sv 8 QI,.own 3 3 (.list true QI)],[(.exit 0,[.own 3 3 (.list true QI)])])],[],[]⟩
def a3n(s:(Int×(Int×(Int×((List (List Int))×(Z7×Int×Unit)))))):Option ((Int×(Int×(Int×((List (List Int))×(Z7×Int×Unit))))) ⊕ (Z2 ⊕ (Bool×Z2))):= cond (decide (s.2.2.1<s.2.1)) (cond ((decide (0≤s.2.2.1))&&(decide (s.2.2.1<((a02 (a04 s.2.2.2.1 (a01 s.2.2.2.2.2.1) []):Nat):Int)))) (cond ((decide (0≤s.2.2.2.2.1.2.1))&&(decide (s.2.2.2.2.1.2.1<(s.2.2.2.1.length:Int)))) (cond ((decide (0≤s.2.2.1))&&(decide (s.2.2.1<((a02 (a04 s.2.2.2.1 (a01 s.2.2.2.2.1.2.1) []):Nat):Int)))) ((a7N (wrap .i64 ((a04 (a04 s.2.2.2.1 (a01 s.2.2.2.2.1.2.1) []) (a01 s.2.2.1) 0)+(wrap .i64 (s.1*(z0h .i64 (wrap .i64 (s.2.2.2.2.1.2.2.1*(a04 (a04 s.2.2.2.1 (a01 s.2.2.2.2.2.1) []) (a01 s.2.2.1) 0))) 8)))))).bind fun y1=> cond (!y1) (some (.inr (Sum.inr ((false,s.2.2.2.1,()))))) (cond ((decide (0≤s.2.2.2.2.1.2.1))&&(decide (s.2.2.2.2.1.2.1<(s.2.2.2.1.length:Int)))) (cond ((decide (0≤s.2.2.1))&&(decide (s.2.2.1<((a02 (a04 s.2.2.2.1 (a01 s.2.2.2.2.1.2.1) []):Nat):Int)))) (some (.inl (s.1,s.2.1,wrap .i64 (s.2.2.1+1),a26 s.2.2.2.1 (a01 s.2.2.2.2.1.2.1) (a26 (a04 s.2.2.2.1 (a01 s.2.2.2.2.1.2.1) []) (a01 s.2.2.1) (wrap .i64 ((a04 (a04 s.2.2.2.1 (a01 s.2.2.2.2.1.2.1) []) (a01 s.2.2.1) 0)+(wrap .i64 (s.1*(z0h .i64 (wrap .i64 (s.2.2.2.2.1.2.2.1*(a04 (a04 s.2.2.2.1 (a01 s.2.2.2.2.2.1) []) (a01 s.2.2.1) 0))) 8)))))),s.2.2.2.2.1,((a01 s.2.2.2.2.2.1:Nat):Int),()))) none) none)) none) none) none) (some (.inr (Sum.inl (s.2.2.2.1,()))))
def a6T(x:((List (List Int))×(Z7×Int))):Option (Bool×(List (List Int))):= cond ((decide (0≤x.2.1.1))&&(decide (x.2.1.1<(x.1.length:Int)))) ((x0r a3n (x.2.2,((a02 (a04 x.1 (a01 x.2.1.1) []):Nat):Int),0,x.1,x.2.1,((a01 x.2.1.1:Nat):Int),())).bind fun w2=> match w2 with |.inl a3=>some (true,a3.1) |.inr b4=>some (b4.1,b4.2.1)) none
def b1A:FSem:=⟨[.r false (.o (.list true QI)),.v Q8,.v QI],[.v .bool],a6T⟩
def c9h:Hints:=⟨[(26,[.sv 2 QI,.sv 15 QI,.sv 16 QI,.own 0 pinned (.list true QI),.vp 4 Q8,.rfi 14 pinned],[(.exit 0,[.own 0 pinned (.list true QI)]),(.ret,[.sv 6 .bool,.own 0 pinned (.list true QI)])])],[],[(4,[.q,.v,.v,.q,.q,.v,.q,.q,.v,.v,.v,.v,.v,.v,.v,.x,.x])]⟩
def a2X(k:Int)(v:Z7)(s:(Z14×((List (List Int))×Z12))):Option ((Z14×((List (List Int))×Z12)) ⊕ (Ex×(Z14×((List (List Int))×Z12)))):= (a6T (s.2.2.2.1,v,(-1))).bind fun y5=> cond (!y5.1) (some (.inr (.ret,s.1,([]:(List (List Int))),6,y5.2,()))) (some (.inl (s.1,s.2.1,s.2.2.1,y5.2,())))
def a9D(x:((List (List Int))×Z14)):Option ((List (List Int))×Int):= (show Option ((List (List Int))×(Z14×Bool×Z13))from(a6u x.1).bind fun y1=> cond (!y1) (some (x.1,x.2,true,([]:(List (List Int))),0,())) ((a7h (x.2,(x.1.length:Int))).bind fun y2=> some (x.1,x.2,!y2,([]:(List (List Int))),0,()))).bind fun z3=> cond z3.2.2.1 (some (([]:(List (List Int))),1)) ((a6c z3.1).bind fun y4=> cond (lim (a02 z3.2.1)) ((k0w a2X z3.2.1 (a02 z3.2.1) (z3.2.1,z3.2.2.2.1,z3.2.2.2.2.1,y4,())).bind fun w6=> match w6 with |.inl a7=>some (a7.2.2.2.1,0) |.inr (.normal,a8)=>some (a8.2.2.2.1,0) |.inr (.exit e9,a8)=>(cond (e9==0) (some (a8.2.2.2.1,0)) none) |.inr (.ret,a8)=>some (a8.2.1,a8.2.2.1)) none)
def a7O:FSem:=⟨[.v (.list false QL),.v (.list false Q8)],[.v (.list false QL),.v QI],a9D⟩
def H46:Hints:=⟨[],[(6,[(.normal,[.sv 0 (.list false QL),.sv 1 (.list false Q8),.sv 18 .bool,.box 4 (.list false QL),.box 5 QI,.ptr 4 4 [],.ptr 5 5 []])])],[]⟩
def c6b:Cx:=a7C [(102,b1a),(105,a9C),(106,b0P),(108,b1A)] [(6,.list true (.list true QI))] [0,1] [29]
def R46:HintR:=⟨21,Q8,107,196,[4,5,6],[.sv 21 (.list false Q8),.box 1001004 (.list false QL),.box 1001005 QI,.box 1001006 (.list true (.list true QI)),.ptr 4 1001004 [],.ptr 5 1001005 [],.ptr 6 1001006 []]⟩
theorem c9i(x):y0f c6b H46 R46 Tryz.f46 a7O.ps a7O.rs x=a7O.F x:=by kernel_rfl
def a4S(x:Z12):Option Int:= cond ((x.2.1.length:Int)==0) (some 0) ((l0z x.2.1 0).bind fun x1=> some (x1.length:Int))
def b2L:FSem:=⟨[.v Q10],[.v QI],a4S⟩
def H35:Hints:=⟨[],[],[]⟩
def b1B(x:Int):Option Int:= (show Option (Int×Bool×Unit)from cond (decide (x<1)) (some (x,true,())) (some (x,decide (x > 31),()))).bind fun z1=> cond z1.2.1 (some 0) (cond (decide ((wrap .i64 (z1.1-1))<0)) none (some (z0g .i64 (-1) (wrap .i64 (z1.1-1)))))
def b4N:FSem:=⟨[.v QI],[.v QI],b1B⟩
def c9j:Hints:=⟨[],[(6,[(.normal,[.sv 0 QI,.sv 8 .bool])])],[]⟩
def b0Q(x:Int):Option Int:= (show Option (Int×Bool×Unit)from cond (decide (x<1)) (some (x,true,())) (some (x,decide (x > 31),()))).bind fun z1=> cond z1.2.1 (some 0) (cond (decide ((wrap .i64 (z1.1-1))<0)) none (some (wrap .i64 ((z0g .i64 1 (wrap .i64 (z1.1-1)))-1))))
def b4t:FSem:=⟨[.v QI],[.v QI],b0Q⟩
def c9k:Hints:=⟨[],[(6,[(.normal,[.sv 0 QI,.sv 8 .bool])])],[]⟩
def a3t(x:(Int×Int)):Option Bool:= cond (decide (x.2≥1)) (cond (decide (x.2≤31)) ((b1B x.2).bind fun y1=> cond (decide (y1≤x.1)) ((b0Q x.2).bind fun y2=> some (decide (x.1≤y2))) (some false)) (some false)) (some false)
def a7Y:FSem:=⟨[.v QI,.v QI],[.v .bool],a3t⟩
def c9l:Hints:=⟨[],[],[]⟩
def a3T(s:((List (List Int))×(Int×(Int×((List Int)×Z56))))):Option (((List (List Int))×(Int×(Int×((List Int)×Z56)))) ⊕ (((List (List Int))×Z56) ⊕ (Bool×Unit))):= cond (decide (s.2.2.2.2.2.1<s.2.2.2.2.1)) ((l0z s.2.2.2.1 s.2.2.2.2.2.1).bind fun x8=> (a3t (x8,s.2.2.2.2.2.2.1.1)).bind fun y9=> cond (!y9) (some (.inr (Sum.inr ((false,()))))) (some (.inl (s.1,s.2.1,s.2.2.1,s.2.2.2.1,s.2.2.2.2.1,wrap .i64 (s.2.2.2.2.2.1+1),s.2.2.2.2.2.2.1,())))) (some (.inr (Sum.inl (s.1,s.2.1,s.2.2.1,s.2.2.2.2.2.2.1,()))))
def a3U(s:((List (List Int))×Z56)):Option (((List (List Int))×Z56) ⊕ Z0):= cond (decide (s.2.2.1<s.2.1)) ((l0z s.1 s.2.2.1).bind fun x6=> (a4S s.2.2.2.1).bind fun y7=> cond ((x6.length:Int) != y7) (some (.inr (Sum.inr ((false,()))))) ((x0r a3T (s.1,s.2.1,s.2.2.1,x6,(x6.length:Int),0,s.2.2.2.1,())).bind fun w10=> match w10 with |.inl a11=>some (.inl (a11.1,a11.2.1,wrap .i64 (a11.2.2.1+1),a11.2.2.2.1,())) |.inr b12=>some (.inr (Sum.inr ((b12.1,())))))) (some (.inr (Sum.inl ())))
def a6v(x:Z12):Option Bool:= (show Option Z48 from(a5V x.1).bind fun y1=> cond (!y1) (some (true,x,())) (cond (decide ((x.2.1.length:Int)<1)) (some (true,x,())) (some (decide ((x.2.1.length:Int) > 8),x,())))).bind fun z2=> cond z2.1 (some false) ((show Option Z48 from(a4S z2.2.1).bind fun y3=> cond (decide (y3<1)) (some (true,z2.2.1,())) ((a4S z2.2.1).bind fun y4=> some (decide (y4 > 4096),z2.2.1,()))).bind fun z5=> cond z5.1 (some false) ((x0r a3U (z5.2.1.2.1,(z5.2.1.2.1.length:Int),0,z5.2.1,())).bind fun w13=> match w13 with |.inl a14=>some true |.inr b15=>some b15.1))
def a9E:FSem:=⟨[.v Q10],[.v .bool],a6v⟩
def H47:Hints:=⟨[(122,[.sv 32 (.list false QL),.sv 33 QI,.sv 34 QI,.vp 1 Q10],[(.exit 0,[]),(.ret,[.sv 2 .bool])]),(62670,[.sv 32 (.list false QL),.sv 33 QI,.sv 34 QI,.sv 43 QL,.sv 44 QI,.sv 45 QI,.vp 1 Q10],[(.exit 2,[.sv 32 (.list false QL),.sv 33 QI,.sv 34 QI,.vp 1 Q10]),(.ret,[.sv 2 .bool])])],[(6,[(.normal,[.sv 22 .bool,.vp 1 Q10])]),(14,[(.normal,[.sv 30 .bool,.vp 1 Q10])])],[]⟩
def a4b(s:(Z94×(Int×(Int×((List (List Int))×c1P))))):Option ((Z94×(Int×(Int×((List (List Int))×c1P)))) ⊕ (((List (List Int))×c1P) ⊕ Z46)):= cond (decide (s.2.2.1<s.2.1)) ((l0z s.1 s.2.2.1).bind fun x3=> (a9Z (x3,s.2.2.2.2.2.1.2.1)).bind fun y4=> cond (y4.2 != 0) (some (.inr (Sum.inr ((1,(0,([]:(List (List Int))),()),()))))) (cond (lim ((a02 s.2.2.2.1)+1)) (some (.inl (s.1,s.2.1,wrap .i64 (s.2.2.1+1),a03 s.2.2.2.1 ([y4.1]:List (List Int)),s.2.2.2.2.1,s.2.2.2.2.2.1,()))) none)) (some (.inr (Sum.inl (s.2.2.2.1,s.2.2.2.2.1,s.2.2.2.2.2.1,()))))
def a6d(x:a4R):Option (Z12×Int):= (show Option (Bool×c1P)from(a5Y x).bind fun y1=> cond (!y1) (some (true,(0,([]:(List (List Int))),()),x,())) (some ((x.2.2.2.2.1.length:Int) != x.2.2.1.2.1,(0,([]:(List (List Int))),()),x,()))).bind fun z2=> cond z2.1 (some ((0,([]:(List (List Int))),()),1)) (cond ((decide (0≤(z2.2.2.1.2.2.2.2.1.length:Int)))&&(lim (a01 (z2.2.2.1.2.2.2.2.1.length:Int)))) ((x0r a4b (z2.2.2.1.2.2.2.2.1,(z2.2.2.1.2.2.2.2.1.length:Int),0,([]:(List (List Int))),z2.2.1,z2.2.2.1,())).bind fun w5=> match w5 with |.inl a6=>((a9D (a6.1,a6.2.2.1.2.2.2.1)).bind fun y8=> cond (y8.2 != 0) (some ((0,([]:(List (List Int))),()),1)) ((a6v (a6.2.2.1.2.2.1.2.2.1,y8.1,())).bind fun y9=> cond (!y9) (some ((0,([]:(List (List Int))),()),1)) (some ((a6.2.2.1.2.2.1.2.2.1,y8.1,()),0)))) |.inr b7=>some (b7.2.1,b7.1)) none)
def b0R:FSem:=⟨[.v Q49],[.v Q10,.v QI],a6d⟩
def H17:Hints:=⟨[(122,[.sv 30 (.list false Q31),.sv 31 QI,.sv 32 QI,.own 4 4 QL,.box 2 Q10,.vp 1 Q49,.ptr 2 2 []],[(.exit 0,[.own 4 4 QL,.box 2 Q10,.vp 1 Q49,.ptr 2 2 []]),(.ret,[.sv 3 QI,.box 2 Q10,.ptr 2 2 []])])],[(6,[(.normal,[.sv 23 .bool,.box 2 Q10,.vp 1 Q49,.ptr 2 2 []])])],[]⟩
def a3M(x:a4R):Option Bool:= (a6d x).bind fun y1=> some (y1.2==0)
def b2M:FSem:=⟨[.v Q49],[.v .bool],a3M⟩
def H21:Hints:=⟨[],[],[]⟩
def a8n(x:Z95):Option Bool:= (a9Z (x.1,x.2)).bind fun y1=> some (y1.2==0)
def b4O:FSem:=⟨[.v Q31,.v QI],[.v .bool],a8n⟩
def c9m:Hints:=⟨[],[],[]⟩
def a2H(s:Z44):Option (Z44 ⊕ Z27):= cond (s.2.1 != 0) (cond (decide (s.1<32)) ((a3t (s.2.1,s.1)).bind fun y2=> cond (!y2) (some (.inl (wrap .i64 (s.1+1),s.2.1,s.2.2.1,s.2.2.2.1,s.2.2.2.2.1,()))) (some (.inr (s.1,s.2.2.1,s.2.2.2.1,s.2.2.2.2.1,())))) (some (.inr (s.1,s.2.2.1,s.2.2.2.1,s.2.2.2.2.1,())))) (some (.inr (s.1,s.2.2.1,s.2.2.2.1,s.2.2.2.2.1,())))
def a4Z(s:Z27):Option Z58:= cond (decide (s.2.2.2.1<s.2.2.1)) ((l0z s.2.1 s.2.2.2.1).bind fun x1=> (x0r a2H (s.1,x1,s.2.1,s.2.2.1,s.2.2.2.1,())).bind fun w3=> some (.inl (w3.1,w3.2.1,w3.2.2.1,wrap .i64 (w3.2.2.2.1+1),()))) (some (.inr (s.1,())))
def a1q(x:(List Int)):Option Int:= (x0r a4Z (0,x,(x.length:Int),0,())).bind fun w4=> some w4.1
def a2v:FSem:=⟨[.v QL],[.v QI],a1q⟩
def c9n:Hints:=⟨[(58,[.sv 3 QI,.sv 6 QL,.sv 7 QI,.sv 8 QI],[(.exit 0,[.sv 3 QI])]),(7474,[.sv 3 QI,.sv 5 QI,.sv 6 QL,.sv 7 QI,.sv 8 QI],[(.exit 2,[.sv 3 QI,.sv 6 QL,.sv 7 QI,.sv 8 QI])])],[],[]⟩
def a1Y(x:(Z6×Int)):Option Z6:= (show Option Z33 from cond ((a16 x.1.2.1 8)==0) (cond (lim ((a02 x.1.1)+1)) (some (x.2,(a03 x.1.1 [0],x.1.2),())) none) (some (x.2,x.1,()))).bind fun z1=> cond ((decide (0≤(wrap .i64 (a18 z1.2.1.2.1 8))))&&(decide ((wrap .i64 (a18 z1.2.1.2.1 8))<(z1.2.1.1.length:Int)))) (cond (decide ((wrap .i64 (7-(a16 z1.2.1.2.1 8)))<0)) none (cond ((decide (0≤(wrap .i64 (a18 z1.2.1.2.1 8))))&&(decide ((wrap .i64 (a18 z1.2.1.2.1 8))<(z1.2.1.1.length:Int)))) (some (a26 z1.2.1.1 (a01 (wrap .i64 (a18 z1.2.1.2.1 8))) (bits .u8 .or (a04 z1.2.1.1 (a01 (wrap .i64 (a18 z1.2.1.2.1 8))) 0) (z0g .u8 z1.1 (wrap .i64 (7-(a16 z1.2.1.2.1 8))))),wrap .i64 (z1.2.1.2.1+1),z1.2.1.2.2)) none)) none
def a5a:FSem:=⟨[.r false (.b Q5),.v (.int .u8)],[],a1Y⟩
def c9o:Hints:=⟨[],[(1,[(.normal,[.sv 1 (.int .u8),.box pinned Q5,.ptr 0 pinned []])])],[(2,[.p,.p,.q,.q,.p,.p,.q,.q,.v,.q,.q,.v,.p,.p,.q,.q,.v,.v,.v,.x,.x,.x])]⟩
def a3G(s:Z49):Option (Z49 ⊕ Z20):= cond (decide (s.2.1≥0)) (cond (decide (s.2.1<0)) none ((a1Y (s.2.2.1,wrap .u8 (bits .u64 .and (z0h .u64 s.1 s.2.1) 1))).bind fun y2=> some (.inl (s.1,wrap .i64 (s.2.1-1),y2,())))) (some (.inr (s.2.2.1,())))
def a0H(x:(Z6×Int×Int)):Option Z17:= (show Option (Int×Int×Bool×Z20)from cond (decide (x.2.2<0)) (some (x.2.1,x.2.2,true,x.1,())) (cond (decide (x.2.2 > 64)) (some (x.2.1,x.2.2,true,x.1,())) (cond (decide (x.2.2<0)) none (some (x.2.1,x.2.2,(z0h .u64 x.2.1 x.2.2) != 0,x.1,()))))).bind fun z1=> cond z1.2.2.1 (some (1,z1.2.2.2.1)) ((x0r a3G (z1.1,wrap .i64 (z1.2.1-1),z1.2.2.2.1,())).bind fun w3=> some (0,w3.1))
def a2I:FSem:=⟨[.r false (.b Q5),.v (.int .u64),.v QI],[.v QI],a0H⟩
def c9p:Hints:=⟨[(58,[.sv 1 (.int .u64),.sv 7 QI,.box pinned Q5,.ptr 0 pinned []],[(.exit 0,[.box pinned Q5])])],[(6,[(.normal,[.sv 1 (.int .u64),.sv 2 QI,.sv 19 .bool,.box pinned Q5,.ptr 0 pinned []])])],[]⟩
def a2B(x:(Z6×Int×Int)):Option Z6:= cond (decide (x.2.2<0)) none ((a0H (x.1,bits .u64 .and (wrap .u64 x.2.1) (wrap .u64 ((z0g .u64 1 x.2.2)-1)),x.2.2)).bind fun y1=> some y1.2)
def a8E:FSem:=⟨[.r false (.b Q5),.v QI,.v QI],[],a2B⟩
def c9q:Hints:=⟨[],[],[]⟩
def a5b(s:Z77):Option (Z77 ⊕ Z20):= cond (decide (s.2.2.2.1<s.2.2.1)) ((l0z s.2.1 s.2.2.2.1).bind fun x6=> (a2B (s.2.2.2.2.1,x6,s.1)).bind fun y7=> some (.inl (s.1,s.2.1,s.2.2.1,wrap .i64 (s.2.2.2.1+1),y7,()))) (some (.inr (s.2.2.2.2.1,())))
def a7m(x:(Z6×Z93)):Option Z6:= (a0H (x.1,wrap .u64 (wrap .i64 ((x.2.2.2.2.2.2.1.length:Int)-1)),5)).bind fun y1=> (a0H (y1.2,wrap .u64 x.2.2.2.2.1,4)).bind fun y2=> (a1q x.2.2.2.2.2.2.1).bind fun y3=> (a0H (y2.2,wrap .u64 y3,5)).bind fun y4=> (x0r a5b (y3,x.2.2.2.2.2.2.1,(x.2.2.2.2.2.2.1.length:Int),0,y4.2,())).bind fun w8=> some w8.1
def b3c:FSem:=⟨[.r false (.b Q5),.v Q31],[],a7m⟩
def c9r:Hints:=⟨[(254,[.sv 4 QI,.sv 27 QL,.sv 28 QI,.sv 29 QI,.box pinned Q5,.ptr 0 pinned []],[(.exit 0,[.box pinned Q5])])],[],[]⟩
def b1C(s:Z15):Option Z61:= cond (decide (s.2.2.1<s.2.1)) ((l0z s.1 s.2.2.1).bind fun x3=> (show Option Z32 from cond (decide (x3<(-1073741824))) (some (s.1,s.2.1,s.2.2.1,true,())) (some (s.1,s.2.1,s.2.2.1,decide (x3≥1073741824),()))).bind fun z4=> cond z4.2.2.2.1 (some (.inr (Sum.inr ((false,()))))) (some (.inl (z4.1,z4.2.1,wrap .i64 (z4.2.2.1+1),())))) (some (.inr (Sum.inl ())))
def a6e(x:Z1):Option Bool:= (show Option ((List Int)×(Bool×Unit))from(a6s (x.1,x.2.1)).bind fun y1=> cond (!y1) (some (x.2.2,true,())) (some (x.2.2,(x.2.2.length:Int) != (wrap .i64 (x.1-x.2.1)),()))).bind fun z2=> cond z2.2.1 (some false) ((x0r b1C (z2.1,(z2.1.length:Int),0,())).bind fun w5=> match w5 with |.inl a6=>some true |.inr b7=>some b7.1)
def b0S:FSem:=⟨[.v QI,.v QI,.v QL],[.v .bool],a6e⟩
def c9s:Hints:=⟨[(58,[.sv 21 QL,.sv 22 QI,.sv 23 QI],[(.exit 0,[]),(.ret,[.sv 6 .bool])])],[(6,[(.normal,[.sv 2 QL,.sv 20 .bool])]),(3737,[(.normal,[.sv 21 QL,.sv 22 QI,.sv 23 QI,.sv 32 .bool])])],[]⟩
def a4T(x:(List Int)):Option Int:= (a1q x).bind fun y1=> some (wrap .i64 (5+(wrap .i64 (y1*(x.length:Int)))))
def b2N:FSem:=⟨[.v QL],[.v QI],a4T⟩
def c9t:Hints:=⟨[],[],[]⟩
def a1P(x:Int):Option Bool:= cond (decide (0≤x)) (some (decide (x≤25))) (some false)
def a5J:FSem:=⟨[.v QI],[.v .bool],a1P⟩
def c9u:Hints:=⟨[],[],[]⟩
def a6w(x:Int):Option Bool:= cond (decide ((-1073741824)≤x)) (some (decide (x<1073741824))) (some false)
def a9F:FSem:=⟨[.v QI],[.v .bool],a6w⟩
def c9v:Hints:=⟨[],[],[]⟩
def a7P(x:Int):Option Int:= (a6w x).bind fun y1=> cond (!y1) (some 0) (cond (decide (x≥0)) (some (wrap .u64 (wrap .i64 (2*x)))) (some (wrap .u64 (wrap .i64 ((wrap .i64 ((-2)*x))-1)))))
def b2O:FSem:=⟨[.v QI],[.v (.int .u64)],a7P⟩
def c9w:Hints:=⟨[],[],[]⟩
def a6x(x:(Int×Int)):Option Int:= (show Option Z9 from(a1P x.1).bind fun y1=> cond (!y1) (some (x.1,x.2,true,())) ((a6w x.2).bind fun y2=> some (x.1,x.2,!y2,()))).bind fun z3=> cond z3.2.2.1 (some 0) ((a7P z3.2.1).bind fun y4=> cond (decide (z3.1<0)) none (cond (decide ((wrap .i64 (z0h .u64 y4 z3.1))<32)) (some (wrap .i64 ((wrap .i64 ((wrap .i64 (z0h .u64 y4 z3.1))+1))+z3.1))) (some 65)))
def b5A:FSem:=⟨[.v QI,.v QI],[.v QI],a6x⟩
def c9x:Hints:=⟨[],[(6,[(.normal,[.sv 0 QI,.sv 1 QI,.sv 13 .bool])])],[]⟩
def a3u(s:Z44):Option (Z44 ⊕ (Int×Unit)):= cond (decide (s.2.2.2.2.1<s.2.2.2.1)) ((l0z s.2.2.1 s.2.2.2.2.1).bind fun x1=> (a6x (s.1,x1)).bind fun y2=> some (.inl (s.1,wrap .i64 (s.2.1+y2),s.2.2.1,s.2.2.2.1,wrap .i64 (s.2.2.2.2.1+1),()))) (some (.inr (s.2.1,())))
def a2Z(x:(Int×(List Int))):Option Int:= (x0r a3u (x.1,0,x.2,(x.2.length:Int),0,())).bind fun w3=> some w3.1
def b1d:FSem:=⟨[.v QI,.v QL],[.v QI],a2Z⟩
def c9y:Hints:=⟨[(58,[.sv 0 QI,.sv 5 QI,.sv 8 QL,.sv 9 QI,.sv 10 QI],[(.exit 0,[.sv 5 QI])])],[],[]⟩
def a1s(s:((List Int)×(Int×(Int×(Int×((List Int)×Z19)))))):Option (((List Int)×(Int×(Int×(Int×((List Int)×Z19))))) ⊕ (Int×Unit)):= cond (decide (s.2.2.2.1<s.2.2.1)) (cond ((decide (0≤s.2.2.2.1))&&(decide (s.2.2.2.1<(s.2.2.2.2.1.length:Int)))) (cond ((decide (0≤(a04 s.2.2.2.2.1 (a01 s.2.2.2.1) 0)))&&(decide ((a04 s.2.2.2.2.1 (a01 s.2.2.2.1) 0)≤(s.1.length:Int)))) (cond ((decide (0≤(a04 s.2.2.2.2.1 (a01 s.2.2.2.1) 0)))&&(decide ((a04 s.2.2.2.2.1 (a01 s.2.2.2.1) 0)≤(s.1.length:Int)))) ((l0z s.2.2.2.2.2.1.2.1 s.2.2.2.1).bind fun x5=> cond (x5==31) ((a4T (a08 (a01 (a04 s.2.2.2.2.1 (a01 s.2.2.2.1) 0)) s.1)).bind fun y6=> some (.inl (a31 (a01 (a04 s.2.2.2.2.1 (a01 s.2.2.2.1) 0)) (a08 (a02 s.1) s.1),wrap .i64 (s.2.1+(wrap .i64 (5+y6))),s.2.2.1,wrap .i64 (s.2.2.2.1+1),s.2.2.2.2.1,s.2.2.2.2.2.1,()))) ((l0z s.2.2.2.2.2.1.2.1 s.2.2.2.1).bind fun x7=> (a2Z (x7,a08 (a01 (a04 s.2.2.2.2.1 (a01 s.2.2.2.1) 0)) s.1)).bind fun y8=> some (.inl (a31 (a01 (a04 s.2.2.2.2.1 (a01 s.2.2.2.1) 0)) (a08 (a02 s.1) s.1),wrap .i64 (s.2.1+(wrap .i64 (5+y8))),s.2.2.1,wrap .i64 (s.2.2.2.1+1),s.2.2.2.2.1,s.2.2.2.2.2.1,())))) none) none) none) (some (.inr (s.2.1,())))
def a4c(x:(Z5×Z1)):Option Int:= (show Option (Int×(Int×((List Int)×(Bool×Z19))))from(a7K (x.1,x.2.1,x.2.2.1)).bind fun y1=> cond (!y1) (some (x.2.1,x.2.2.1,x.2.2.2,true,x.1,())) ((a6e (x.2.1,x.2.2.1,x.2.2.2)).bind fun y2=> some (x.2.1,x.2.2.1,x.2.2.2,!y2,x.1,()))).bind fun z3=> cond z3.2.2.2.1 (some 0) ((a2L (z3.2.2.2.2.1.1,z3.1,z3.2.1)).bind fun y4=> (x0r a1s (z3.2.2.1,4,(y4.length:Int),0,y4,z3.2.2.2.2.1,())).bind fun w9=> some w9.1)
def b1D:FSem:=⟨[.v Q7,.v QI,.v QI,.v QL],[.v QI],a4c⟩
def c9z:Hints:=⟨[(122,[.sv 3 QL,.sv 9 QI,.sv 30 QI,.sv 31 QI,.own 29 1029 QI,.vp 4 Q7],[(.exit 0,[.sv 9 QI])])],[(6,[(.normal,[.sv 1 QI,.sv 2 QI,.sv 3 QL,.sv 24 .bool,.vp 4 Q7])])],[]⟩
def a3a(s:Z49):Option (Z49 ⊕ Z20):= cond (decide (s.2.1<s.1)) ((a1Y (s.2.2.1,0)).bind fun y2=> some (.inl (s.1,wrap .i64 (s.2.1+1),y2,()))) (some (.inr (s.2.2.1,())))
def a2m(x:(Z6×Int)):Option Z17:= (show Option (Int×Bool×Z20)from cond (decide (x.2<0)) (some (x.2,true,x.1,())) (some (x.2,decide (x.2 > 4096),x.1,()))).bind fun z1=> cond z1.2.1 (some (1,z1.2.2.1)) ((x0r a3a (z1.1,0,z1.2.2.1,())).bind fun w3=> (a1Y (w3.1,1)).bind fun y4=> some (0,y4))
def a9c:FSem:=⟨[.r false (.b Q5),.v QI],[.v QI],a2m⟩
def c9A:Hints:=⟨[(58,[.sv 11 QI,.sv 12 QI,.box pinned Q5,.ptr 0 pinned []],[(.exit 0,[.box pinned Q5,.ptr 0 pinned []])])],[(6,[(.normal,[.sv 1 QI,.sv 10 .bool,.box pinned Q5,.ptr 0 pinned []])])],[]⟩
def a7Z(s:(Int×((List Int)×Z69))):Option ((Int×((List Int)×Z69)) ⊕ ((Int×((List Int)×Z20)) ⊕ Z33)):= cond (decide (s.2.2.2.2.1<s.2.2.2.1)) ((l0z s.2.2.1 s.2.2.2.2.1).bind fun x2=> (a6w x2).bind fun y3=> cond (!y3) (some (.inr (Sum.inr ((1,s.2.2.2.2.2.1,()))))) (some (.inl (s.1,s.2.1,s.2.2.1,s.2.2.2.1,wrap .i64 (s.2.2.2.2.1+1),s.2.2.2.2.2.1,())))) (some (.inr (Sum.inl (s.1,s.2.1,s.2.2.2.2.2.1,()))))
def a6f(s:Z77):Option (Z77 ⊕ Z20):= cond (decide (s.2.2.2.1<s.2.2.1)) ((l0z s.2.1 s.2.2.2.1).bind fun x7=> (a7P x7).bind fun y8=> cond (decide (s.1<0)) none (cond (decide ((z0h .u64 y8 s.1)<32)) ((a2m (s.2.2.2.2.1,wrap .i64 (z0h .u64 y8 s.1))).bind fun y9=> cond (decide (s.1<0)) none ((a0H (y9.2,wrap .u64 (y8-(z0g .u64 (z0h .u64 y8 s.1) s.1)),s.1)).bind fun y10=> some (.inl (s.1,s.2.1,s.2.2.1,wrap .i64 (s.2.2.2.1+1),y10.2,())))) ((a2m (s.2.2.2.2.1,32)).bind fun y11=> (a0H (y11.2,y8,32)).bind fun y12=> some (.inl (s.1,s.2.1,s.2.2.1,wrap .i64 (s.2.2.2.1+1),y12.2,()))))) (some (.inr (s.2.2.2.2.1,())))
def b1e(x:(Z6×(Int×(List Int)))):Option Z17:= (a1P x.2.1).bind fun y1=> cond (!y1) (some (1,x.1)) ((x0r a7Z (x.2.1,x.2.2,x.2.2,(x.2.2.length:Int),0,x.1,())).bind fun w4=> match w4 with |.inl a5=>((x0r a6f (a5.1,a5.2.1,(a5.2.1.length:Int),0,a5.2.2.1,())).bind fun w13=> some (0,w13.1)) |.inr b6=>some (b6.1,b6.2.1))
def b6E:FSem:=⟨[.r false (.b Q5),.v QI,.v QL],[.v QI],b1e⟩
def c9B:Hints:=⟨[(58,[.sv 1 QI,.sv 2 QL,.sv 16 QL,.sv 17 QI,.sv 18 QI,.box pinned Q5,.ptr 0 pinned []],[(.exit 0,[.sv 1 QI,.sv 2 QL,.box pinned Q5,.ptr 0 pinned []]),(.ret,[.sv 6 QI,.box pinned Q5])]),(122,[.sv 1 QI,.sv 26 QL,.sv 27 QI,.sv 28 QI,.box pinned Q5,.ptr 0 pinned []],[(.exit 2,[.box pinned Q5])])],[],[]⟩
def a7n(s:((List Int)×(Int×Int×Int×Z87))):Option (((List Int)×(Int×Int×Int×Z87)) ⊕ Z87):= cond (decide (s.2.2.2.2.2.2.1<s.2.2.2.2.2.1)) ((l0z s.2.2.2.2.1 s.2.2.2.2.2.2.1).bind fun x11=> cond (decide (s.2.1<0)) none ((a0H (s.2.2.2.2.2.2.2.2.1,bits .u64 .and (wrap .u64 x11) (wrap .u64 ((z0g .u64 1 s.2.1)-1)),s.2.1)).bind fun y12=> some (.inl (s.1,s.2.1,s.2.2.1,s.2.2.2.1,s.2.2.2.2.1,s.2.2.2.2.2.1,wrap .i64 (s.2.2.2.2.2.2.1+1),s.2.2.2.2.2.2.2.1,y12.2,s.2.2.2.2.2.2.2.2.2.1,())))) (some (.inr (s.1,s.2.2.1,s.2.2.2.1,s.2.2.2.2.2.2.2.1,s.2.2.2.2.2.2.2.2.1,s.2.2.2.2.2.2.2.2.2.1,())))
def a3V(s:Z87):Option (Z87 ⊕ Z20):= cond (decide (s.2.2.1<s.2.1)) (cond ((decide (0≤s.2.2.1))&&(decide (s.2.2.1<(s.2.2.2.1.length:Int)))) (cond ((decide (0≤(a04 s.2.2.2.1 (a01 s.2.2.1) 0)))&&(decide ((a04 s.2.2.2.1 (a01 s.2.2.1) 0)≤(s.1.length:Int)))) (cond ((decide (0≤(a04 s.2.2.2.1 (a01 s.2.2.1) 0)))&&(decide ((a04 s.2.2.2.1 (a01 s.2.2.1) 0)≤(s.1.length:Int)))) ((l0z s.2.2.2.2.2.1.2.1 s.2.2.1).bind fun x4=> (a0H (s.2.2.2.2.1,wrap .u64 x4,5)).bind fun y5=> (l0z s.2.2.2.2.2.1.2.1 s.2.2.1).bind fun x6=> cond (x6 != 31) ((l0z s.2.2.2.2.2.1.2.1 s.2.2.1).bind fun x7=> (b1e (y5.2,x7,a08 (a01 (a04 s.2.2.2.1 (a01 s.2.2.1) 0)) s.1)).bind fun y8=> some (.inl (a31 (a01 (a04 s.2.2.2.1 (a01 s.2.2.1) 0)) (a08 (a02 s.1) s.1),s.2.1,wrap .i64 (s.2.2.1+1),s.2.2.2.1,y8.2,s.2.2.2.2.2.1,()))) ((a1q (a08 (a01 (a04 s.2.2.2.1 (a01 s.2.2.1) 0)) s.1)).bind fun y9=> (a0H (y5.2,wrap .u64 y9,5)).bind fun y10=> (x0r a7n (a31 (a01 (a04 s.2.2.2.1 (a01 s.2.2.1) 0)) (a08 (a02 s.1) s.1),y9,s.2.1,s.2.2.1,a08 (a01 (a04 s.2.2.2.1 (a01 s.2.2.1) 0)) s.1,((a02 (a08 (a01 (a04 s.2.2.2.1 (a01 s.2.2.1) 0)) s.1):Nat):Int),0,s.2.2.2.1,y10.2,s.2.2.2.2.2.1,())).bind fun w13=> some (.inl (w13.1,w13.2.1,wrap .i64 (w13.2.2.1+1),w13.2.2.2.1,w13.2.2.2.2.1,w13.2.2.2.2.2.1,())))) none) none) none) (some (.inr (s.2.2.2.2.1,())))
def a9G(x:(Z6×Z5×Z1)):Option Z17:= (a4c (x.2.1,x.2.2.1,x.2.2.2.1,x.2.2.2.2)).bind fun y1=> cond (y1==0) (some (1,x.1)) ((a0H (x.1,wrap .u64 x.2.1.1,4)).bind fun y2=> (a2L (x.2.1.1,x.2.2.1,x.2.2.2.1)).bind fun y3=> (x0r a3V (x.2.2.2.2,(y3.length:Int),0,y3,y2.2,x.2.1,())).bind fun w14=> some (0,w14.1))
def b5B:FSem:=⟨[.r false (.b Q5),.v Q7,.v QI,.v QI,.v QL],[.v QI],a9G⟩
def c9C:Hints:=⟨[(122,[.sv 4 QL,.sv 33 QI,.sv 34 QI,.own 32 1032 QI,.box pinned Q5,.ptr 0 pinned [],.vp 6 Q7],[(.exit 0,[.box pinned Q5])]),(2005502,[.sv 4 QL,.sv 14 QI,.sv 33 QI,.sv 34 QI,.sv 73 QL,.sv 74 QI,.sv 75 QI,.own 32 1032 QI,.box pinned Q5,.ptr 0 pinned [],.vp 6 Q7],[(.exit 2,[.sv 4 QL,.sv 33 QI,.sv 34 QI,.own 32 1032 QI,.box pinned Q5,.ptr 0 pinned [],.vp 6 Q7])])],[],[]⟩
def a8F(s:(Int×(Int×((List Int)×c1N)))):Option ((Int×(Int×((List Int)×c1N))) ⊕ b2G):= cond (decide (s.2.2.2.1<3)) ((l0z s.2.2.1 s.2.2.2.1).bind fun x8=> (a2B (s.2.2.2.2.1,x8,8)).bind fun y9=> some (.inl (s.1,s.2.1,s.2.2.1,wrap .i64 (s.2.2.2.1+1),y9,s.2.2.2.2.2.1,()))) (some (.inr (s.1,s.2.1,s.2.2.2.2.1,s.2.2.2.2.2.1,())))
def a8G(s:(Int×Int×Z4×b2G)):Option ((Int×Int×Z4×b2G) ⊕ b2G):= cond (decide (s.2.2.2.2.1<s.2.2.2.1)) ((l0z s.2.2.1 s.2.2.2.2.1).bind fun x18=> (a0H (s.2.2.2.2.2.1,wrap .u64 (wrap .i64 (x18.1-1)),5)).bind fun y19=> (a0H (y19.2,wrap .u64 x18.2.1,4)).bind fun y20=> some (.inl (s.1,s.2.1,s.2.2.1,s.2.2.2.1,wrap .i64 (s.2.2.2.2.1+1),y20.2,s.2.2.2.2.2.2.1,()))) (some (.inr (s.1,s.2.1,s.2.2.2.2.2.1,s.2.2.2.2.2.2.1,())))
def a8H(s:(Int×(Int×((List Int)×b2G)))):Option ((Int×(Int×((List Int)×b2G))) ⊕ c1N):= cond (decide (s.2.2.2.2.1<s.2.2.2.1)) ((l0z s.2.2.1 s.2.2.2.2.1).bind fun x23=> (a2B (s.2.2.2.2.2.1,x23,s.2.1)).bind fun y24=> some (.inl (s.1,s.2.1,s.2.2.1,s.2.2.2.1,wrap .i64 (s.2.2.2.2.1+1),y24,s.2.2.2.2.2.2.1,()))) (some (.inr (s.1,s.2.2.2.2.2.1,s.2.2.2.2.2.2.1,())))
def a8o(x:(Z6×Z95)):Option Z17:= (a8n (x.2.1,x.2.2)).bind fun y1=> cond (!y1) (some (1,x.1)) ((a1q x.2.1.2.2.2.2.2.2.2.2.1).bind fun y2=> (a0H (x.1,wrap .u64 x.2.1.1,3)).bind fun y3=> (a0H (y3.2,wrap .u64 x.2.1.2.1,5)).bind fun y4=> (a0H (y4.2,wrap .u64 y2,5)).bind fun y5=> (show Option b2G from(show Option (b2G ⊕ (b2G ⊕ b2G))from cond (x.2.1.1==2) ((a0H (y5.2,wrap .u64 x.2.1.2.2.1,3)).bind fun y6=> some (Sum.inr (Sum.inl (x.2.2,y2,y6.2,x.2.1,())))) (cond (x.2.1.1==4) ((a0H (y5.2,wrap .u64 (wrap .i64 (x.2.1.2.2.2.2.1-1)),10)).bind fun y7=> (x0r a8F (x.2.2,y2,x.2.1.2.2.2.2.2.2.1,0,y7.2,x.2.1,())).bind fun w10=> some (Sum.inl (w10.1,w10.2.1,w10.2.2.1,w10.2.2.2.1,()))) (cond (x.2.1.1==3) (some (Sum.inl (x.2.2,y2,y5.2,x.2.1,()))) (cond (x.2.1.1==5) (some (Sum.inr (Sum.inr ((x.2.2,y2,y5.2,x.2.1,()))))) (some (Sum.inr (Sum.inl (x.2.2,y2,y5.2,x.2.1,())))))))).bind fun z11=> match z11 with |.inl a12=>((a7m (a12.2.2.1,a12.2.2.2.1)).bind fun y14=> some (a12.1,a12.2.1,y14,a12.2.2.2.1,())) |.inr b13=>(match b13 with |.inl a15=>some (a15.1,a15.2.1,a15.2.2.1,a15.2.2.2.1,()) |.inr b16=>((a0H (b16.2.2.1,wrap .u64 (b16.2.2.2.1.2.2.2.2.2.2.2.1.length:Int),2)).bind fun y17=> (x0r a8G (b16.1,b16.2.1,b16.2.2.2.1.2.2.2.2.2.2.2.1,(b16.2.2.2.1.2.2.2.2.2.2.2.1.length:Int),0,y17.2,b16.2.2.2.1,())).bind fun w21=> some (w21.1,w21.2.1,w21.2.2.1,w21.2.2.2.1,())))).bind fun z22=> (x0r a8H (z22.1,z22.2.1,z22.2.2.2.1.2.2.2.2.2.2.2.2.1,(z22.2.2.2.1.2.2.2.2.2.2.2.2.1.length:Int),0,z22.2.2.1,z22.2.2.2.1,())).bind fun w25=> (a5g w25.2.2.1.1).bind fun y26=> cond (!y26) (some (0,w25.2.1)) ((a9G (w25.2.1,w25.2.2.1.2.2.2.2.2.2.2.2.2.1,w25.1,(w25.2.2.1.2.2.2.2.2.2.2.2.1.length:Int),w25.2.2.1.2.2.2.2.2.2.2.2.2.2.1)).bind fun y27=> some (y27.1,y27.2)))
def b4P:FSem:=⟨[.r false (.b Q5),.v Q31,.v QI],[.v QI],a8o⟩
def H51:Hints:=⟨[(2042,[.sv 2 QI,.sv 7 QI,.sv 94 QL,.sv 95 QI,.sv 96 QI,.box pinned Q5,.ptr 0 pinned [],.vp 4 Q31],[(.exit 9,[.sv 2 QI,.box pinned Q5,.ptr 0 pinned [],.vp 4 Q31])]),(32598,[.sv 2 QI,.sv 7 QI,.sv 75 (.list false Q3),.sv 76 QI,.sv 77 QI,.box pinned Q5,.ptr 0 pinned [],.vp 4 Q31],[(.exit 7,[.sv 2 QI,.sv 7 QI,.box pinned Q5,.ptr 0 pinned [],.vp 4 Q31])]),(260622,[.sv 2 QI,.sv 7 QI,.sv 57 (.arr 3 QI),.sv 58 QI,.box pinned Q5,.ptr 0 pinned [],.vp 4 Q31],[(.exit 5,[.sv 2 QI,.sv 7 QI,.box pinned Q5,.ptr 0 pinned [],.vp 4 Q31])])],[(127,[(.normal,[.sv 2 QI,.sv 7 QI,.box pinned Q5,.ptr 0 pinned [],.vp 4 Q31])]),(4072,[(.normal,[.sv 2 QI,.sv 7 QI,.box pinned Q5,.ptr 0 pinned [],.vp 4 Q31]),(.exit 0,[.sv 2 QI,.sv 7 QI,.box pinned Q5,.ptr 0 pinned [],.vp 4 Q31]),(.exit 4,[.sv 2 QI,.sv 7 QI,.box pinned Q5,.ptr 0 pinned [],.vp 4 Q31])])],[]⟩
def a3b(s:Z20):Option (Z20 ⊕ Z20):= cond ((a16 s.1.2.1 8) != 0) ((a1Y (s.1,0)).bind fun y2=> some (.inl (y2,()))) (some (.inr (s.1,())))
def a4k(x:Z6):Option Z6:= (x0r a3b (x,())).bind fun w3=> some w3.1
def a9d:FSem:=⟨[.r false (.b Q5)],[],a4k⟩
def H52:Hints:=⟨[(2,[.box pinned Q5,.ptr 0 pinned []],[(.exit 0,[.box pinned Q5])])],[],[]⟩
def a4l(x:Z6):Option ((List Int)×Z6):= cond (lim (a02 x.1)) (some (x.1,x)) none
def a9e:FSem:=⟨[.r false (.b Q5)],[.o (.int .u8)],a4l⟩
def H53:Hints:=⟨[],[],[]⟩
def a9H(x:Int):Option Int:= cond (decide (x≥0)) (some (wrap .u64 (2*(wrap .u64 x)))) (some (wrap .u64 ((wrap .u64 (2*(wrap .u64 (wrap .i64 (0-(wrap .i64 (x+1)))))))+1)))
def b5C:FSem:=⟨[.v QI],[.v (.int .u64)],a9H⟩
def c9D:Hints:=⟨[],[],[]⟩
def a7o(s:Z53):Option (Z53 ⊕ Z53):= cond (decide (s.1≥128)) (cond (lim ((a02 s.2.2.2.2.1)+1)) (some (.inl (wrap .u64 (a18 s.1 128),s.2.1,s.2.2.1,s.2.2.2.1,a03 s.2.2.2.2.1 [wrap .u8 ((wrap .u8 (a16 s.1 128))+128)],()))) none) (some (.inr (s.1,s.2.1,s.2.2.1,s.2.2.2.1,s.2.2.2.2.1,())))
def a7p(s:Z37):Option (Z37 ⊕ ((List Int)×Unit)):= cond (decide (s.2.2.1<s.2.1)) ((l0z s.1 s.2.2.1).bind fun x1=> (x0r a7o (x1,s.1,s.2.1,s.2.2.1,s.2.2.2.1,())).bind fun w2=> cond (lim ((a02 w2.2.2.2.2.1)+1)) (some (.inl (w2.2.1,w2.2.2.1,wrap .i64 (w2.2.2.2.1+1),a03 w2.2.2.2.2.1 [wrap .u8 w2.1],()))) none) (some (.inr (s.2.2.2.1,())))
def a9I(x:(List Int)):Option (List Int):= (x0r a7p (x,(x.length:Int),0,[],())).bind fun w3=> some w3.1
def b5D:FSem:=⟨[.v (.list false (.int .u64))],[.o (.int .u8)],a9I⟩
def c9E:Hints:=⟨[(58,[.sv 6 (.list false (.int .u64)),.sv 7 QI,.sv 8 QI,.own 3 3 (.int .u8)],[(.exit 0,[.own 3 3 (.int .u8)])]),(14948,[.sv 5 (.int .u64),.sv 6 (.list false (.int .u64)),.sv 7 QI,.sv 8 QI,.own 3 3 (.int .u8)],[(.exit 2,[.sv 5 (.int .u64),.sv 6 (.list false (.int .u64)),.sv 7 QI,.sv 8 QI,.own 3 3 (.int .u8)])])],[],[]⟩
def a8I(s:Z47):Option (Z47 ⊕ Z27):= cond (decide (s.2.2.2.2.1<8)) (cond ((z0h .u8 s.1 7)==1) (some (.inl (bits .u8 .xor (z0g .u8 s.1 1) 7,s.2.1,s.2.2.1,s.2.2.2.1,wrap .i64 (s.2.2.2.2.1+1),()))) (some (.inl (z0g .u8 s.1 1,s.2.1,s.2.2.1,s.2.2.2.1,wrap .i64 (s.2.2.2.2.1+1),())))) (some (.inr (s.1,s.2.1,s.2.2.1,s.2.2.2.1,())))
def a6L(s:Z27):Option Z58:= cond (decide (s.2.2.2.1<s.2.2.1)) ((l0z s.2.1 s.2.2.2.1).bind fun x1=> (x0r a8I (bits .u8 .xor s.1 x1,s.2.1,s.2.2.1,s.2.2.2.1,0,())).bind fun w2=> some (.inl (w2.1,w2.2.1,w2.2.2.1,wrap .i64 (w2.2.2.2.1+1),()))) (some (.inr (s.1,())))
def a6U(x:(List Int)):Option Int:= (x0r a6L (0,x,(x.length:Int),0,())).bind fun w3=> some w3.1
def b1E:FSem:=⟨[.v (.list false (.int .u8))],[.v (.int .u8)],a6U⟩
def c9F:Hints:=⟨[(58,[.sv 3 (.int .u8),.sv 7 (.list false (.int .u8)),.sv 8 QI,.sv 9 QI],[(.exit 0,[.sv 3 (.int .u8)])]),(29902,[.sv 3 (.int .u8),.sv 7 (.list false (.int .u8)),.sv 8 QI,.sv 9 QI,.sv 16 QI],[(.exit 2,[.sv 3 (.int .u8),.sv 7 (.list false (.int .u8)),.sv 8 QI,.sv 9 QI])])],[],[]⟩
def a4F(s:(Int×Z14×Z16)):Option ((Int×Z14×Z16) ⊕ Z5):= cond (decide (s.2.2.2.1<s.2.2.1)) ((l0z s.2.1 s.2.2.2.1).bind fun x1=> (a9H x1.2.2.1).bind fun y2=> cond (lim ((a02 s.2.2.2.2.1)+3)) (some (.inl (s.1,s.2.1,s.2.2.1,wrap .i64 (s.2.2.2.1+1),a03 s.2.2.2.2.1 [wrap .u64 x1.1,wrap .u64 x1.2.1,y2],()))) none) (some (.inr (s.1,s.2.2.2.2.1,())))
def a6M(x:(a4R×Int)):Option (List Int):= (x0r a4F (x.2,x.1.2.2.2.1,(x.1.2.2.2.1.length:Int),0,([wrap .u64 x.1.1,wrap .u64 x.1.2.1,wrap .u64 x.1.2.2.1.1,wrap .u64 x.1.2.2.1.2.1,wrap .u64 x.1.2.2.1.2.2.1,wrap .u64 (x.1.2.2.2.1.length:Int)]:List Int),())).bind fun w3=> cond (lim ((a02 w3.2.1)+1)) ((a9I (a03 w3.2.1 [wrap .u64 w3.1])).bind fun y4=> cond (lim (2+(a02 y4))) ((a6U (a03 [245,75] y4)).bind fun y5=> cond (lim ((a02 (a03 [245,75] y4))+1)) (some (a03 (a03 [245,75] y4) [y5])) none) none) none
def b2j:FSem:=⟨[.v Q49,.v QI],[.o (.int .u8)],a6M⟩
def H54:Hints:=⟨[(58,[.sv 1 QI,.sv 33 (.list false Q8),.sv 34 QI,.sv 35 QI,.own 5 5 (.int .u64)],[(.exit 0,[.sv 1 QI,.own 5 5 (.int .u64)])])],[],[(5,[.q,.q,.q,.v,.q,.q,.v,.q,.q,.v,.q,.x,.x])]⟩
def b0T(x:Int):Option Int:= some (v0a (u0z x 0) 8)
def b4u:FSem:=⟨[.v QI],[.v QI],b0T⟩
def c9G:Hints:=⟨[],[],[]⟩
def a4d(s:Z30):Option (Z30 ⊕ ((List Int)×Unit)):= cond (decide (s.2.2.1<s.2.1)) (cond (lim ((a02 s.2.2.2.1)+1)) (some (.inl (wrap .u64 (a18 s.1 256),s.2.1,wrap .i64 (s.2.2.1+1),a03 s.2.2.2.1 [wrap .u8 (a16 s.1 256)],()))) none) (some (.inr (s.2.2.2.1,())))
def a8a(x:(Int×Int)):Option (List Int):= (b0T x.2).bind fun y1=> (x0r a4d (x.1,y1,0,[],())).bind fun w2=> some w2.1
def b4v:FSem:=⟨[.v (.int .u64),.v QI],[.o (.int .u8)],a8a⟩
def c9H:Hints:=⟨[(58,[.sv 0 (.int .u64),.sv 7 QI,.sv 8 QI,.own 5 5 (.int .u8)],[(.exit 0,[.own 5 5 (.int .u8)])])],[],[]⟩
def a2M(x:(List Int)):Option (List Int):= cond (decide (a02 x<2147483648)) (some (List.reverse x)) none
def a4Y:FSem:=⟨[.r false (.o (.int .u8))],[],a2M⟩
def a9J(x:(Int×Int)):Option (List Int):= (a8a (x.1,x.2)).bind fun y1=> (a2M y1).bind fun y2=> some y2
def b5E:FSem:=⟨[.v (.int .u64),.v QI],[.o (.int .u8)],a9J⟩
def H55:Hints:=⟨[],[],[]⟩
def a7D(s:Z47):Option (Z47 ⊕ Z27):= cond (decide (s.2.2.2.2.1<8)) (cond ((z0h .u16 s.1 15)==1) (some (.inl (bits .u16 .xor (z0g .u16 s.1 1) 32773,s.2.1,s.2.2.1,s.2.2.2.1,wrap .i64 (s.2.2.2.2.1+1),()))) (some (.inl (z0g .u16 s.1 1,s.2.1,s.2.2.1,s.2.2.2.1,wrap .i64 (s.2.2.2.2.1+1),())))) (some (.inr (s.1,s.2.1,s.2.2.1,s.2.2.2.1,())))
def a5c(s:Z27):Option Z58:= cond (decide (s.2.2.2.1<s.2.2.1)) ((l0z s.2.1 s.2.2.2.1).bind fun x1=> (x0r a7D (bits .u16 .xor s.1 (z0g .u16 (wrap .u16 x1) 8),s.2.1,s.2.2.1,s.2.2.2.1,0,())).bind fun w2=> some (.inl (w2.1,w2.2.1,w2.2.2.1,wrap .i64 (w2.2.2.2.1+1),()))) (some (.inr (s.1,())))
def a5k(x:(List Int)):Option Int:= (x0r a5c (0,x,(x.length:Int),0,())).bind fun w3=> some w3.1
def a9k:FSem:=⟨[.v (.list false (.int .u8))],[.v (.int .u16)],a5k⟩
def H56:Hints:=⟨[(58,[.sv 3 (.int .u16),.sv 7 (.list false (.int .u8)),.sv 8 QI,.sv 9 QI],[(.exit 0,[.sv 3 (.int .u16)])]),(29902,[.sv 3 (.int .u16),.sv 7 (.list false (.int .u8)),.sv 8 QI,.sv 9 QI,.sv 18 QI],[(.exit 2,[.sv 3 (.int .u16),.sv 7 (.list false (.int .u8)),.sv 8 QI,.sv 9 QI])])],[],[]⟩
def a7q(s:(Z94×Int×Int×Z6×b2H)):Option ((Z94×Int×Int×Z6×b2H) ⊕ ((Z6×b2H) ⊕ Z5)):= cond (decide (s.2.2.1<s.2.1)) ((l0z s.1 s.2.2.1).bind fun x2=> (a8o (s.2.2.2.1,x2,s.2.2.2.2.1.2.1)).bind fun y3=> cond (y3.1 != 0) (some (.inr (Sum.inr ((y3.1,[],()))))) (some (.inl (s.1,s.2.1,wrap .i64 (s.2.2.1+1),y3.2,s.2.2.2.2.1,())))) (some (.inr (Sum.inl (s.2.2.2.1,s.2.2.2.2.1,()))))
def a6y(x:a4R):Option ((List Int)×Int):= (a3M x).bind fun y1=> cond (!y1) (some ([],1)) ((x0r a7q (x.2.2.2.2.1,(x.2.2.2.2.1.length:Int),0,([],0,()),x,())).bind fun w4=> match w4 with |.inl a5=>((a4k a5.1).bind fun y7=> (a4l y7).bind fun y8=> (a6M (a5.2.1,(y8.1.length:Int))).bind fun y9=> cond (lim ((a02 y9)+(a02 y8.1))) ((a5k (a03 y9 y8.1)).bind fun y10=> (a9J (wrap .u64 y10,2)).bind fun y11=> cond (lim ((a02 (a03 y9 y8.1))+(a02 y11))) (some (a03 (a03 y9 y8.1) y11,0)) none) none) |.inr b6=>some (b6.2.1,b6.1))
def b2P:FSem:=⟨[.v Q49],[.o (.int .u8),.v QI],a6y⟩
def H19:Hints:=⟨[(122,[.sv 14 (.list false Q31),.sv 15 QI,.sv 16 QI,.box 4 Q5,.vp 1 Q49,.ptr 4 4 []],[(.exit 0,[.box 4 Q5,.vp 1 Q49,.ptr 4 4 []]),(.ret,[.sv 3 QI,.own 2 2 (.int .u8)])])],[],[]⟩
def H88:Hints:=⟨[(58,[.sv 0 QL,.sv 1 QL,.sv 5 QI],[(.exit 0,[]),(.ret,[.sv 4 .bool])])],[],[(6,[.v,.v,.v,.v,.v,.v,.v,.v,.x])]⟩
def a6g(x:((List Int)×(List Int))):Option Bool:=z0c (a7C [] [] [0,1,4,5] []) H88 Tryz.f88 [.v (.list false (.int .i64)),.v (.list false (.int .i64))] [.v .bool] x
def a6h:FSem:=⟨[.v QL,.v QL],[.v .bool],a6g⟩
def H64:Hints:=⟨[(58,[.sv 0 (.list false QL),.sv 1 (.list false QL),.sv 5 QI],[(.exit 0,[]),(.ret,[.sv 4 .bool])])],[],[(6,[.v,.v,.v,.v,.v,.v,.v,.v,.x,.x])]⟩
def b3d(x:((List (List Int))×(List (List Int)))):Option Bool:=z0c (a7C [(88,a6h)] [] [0,1,4,5] []) H64 Tryz.f64 [.v (.list false (.list false (.int .i64))),.v (.list false (.list false (.int .i64)))] [.v .bool] x
def b3e:FSem:=⟨[.v (.list false QL),.v (.list false QL)],[.v .bool],b3d⟩
def b2k(x:(Z12×Z12)):Option Bool:= cond (x.1.1==x.2.1) ((b3d (x.1.2.1,x.2.2.1)).bind fun y1=> some y1) (some false)
def b2l:FSem:=⟨[.v Q10,.v Q10],[.v .bool],b2k⟩
def H23:Hints:=⟨[],[],[]⟩
def a6z(x:(List Int)):Option Z15:= cond (lim (a02 x)) (some (x,0,0,())) none
def b5F:FSem:=⟨[.v (.list false (.int .u8))],[.b Q11],a6z⟩
def c9I:Hints:=⟨[],[],[]⟩
def a1Z(s:Z27):Option (Z27 ⊕ (Unit ⊕ Z7)):= cond (decide (s.2.2.2.1<s.2.2.1)) ((l0z s.2.1 s.2.2.2.1).bind fun x1=> (show Option (Int×Int×Int×Z32)from cond (s.2.2.2.1==9) (cond (decide (x1 > 1)) (some (s.1,s.2.2.2.1,x1,s.2.1,s.2.2.1,s.2.2.2.1,true,())) (cond (decide (s.2.2.2.1 > 0)) (some (s.1,s.2.2.2.1,x1,s.2.1,s.2.2.1,s.2.2.2.1,x1==0,())) (some (s.1,s.2.2.2.1,x1,s.2.1,s.2.2.1,s.2.2.2.1,false,())))) (cond (decide (s.2.2.2.1 > 0)) (some (s.1,s.2.2.2.1,x1,s.2.1,s.2.2.1,s.2.2.2.1,x1==0,())) (some (s.1,s.2.2.2.1,x1,s.2.1,s.2.2.1,s.2.2.2.1,false,())))).bind fun z2=> cond z2.2.2.2.2.2.2.1 (some (.inr (Sum.inr ((0,0,2,()))))) (cond (decide ((wrap .i64 (7*z2.2.1))<0)) none (cond (decide (z2.2.2.1<128)) (some (.inr (Sum.inr ((bits .u64 .or z2.1 (z0g .u64 (wrap .u64 (a16 z2.2.2.1 128)) (wrap .i64 (7*z2.2.1))),wrap .i64 (z2.2.1+1),0,()))))) (some (.inl (bits .u64 .or z2.1 (z0g .u64 (wrap .u64 (a16 z2.2.2.1 128)) (wrap .i64 (7*z2.2.1))),z2.2.2.2.1,z2.2.2.2.2.1,wrap .i64 (z2.2.2.2.2.2.1+1),())))))) (some (.inr (Sum.inl ())))
def a3W(x:(List Int)):Option (Int×Int×Int):= (x0r a1Z (0,x,(x.length:Int),0,())).bind fun w3=> match w3 with |.inl a4=>some (0,0,3) |.inr b5=>some (b5.1,b5.2.1,b5.2.2.1)
def b3f:FSem:=⟨[.v (.list false (.int .u8))],[.v (.int .u64),.v QI,.v QI],a3W⟩
def c9J:Hints:=⟨[(58,[.sv 5 (.int .u64),.sv 8 (.list false (.int .u8)),.sv 9 QI,.sv 10 QI],[(.exit 0,[]),(.ret,[.sv 2 (.int .u64),.sv 3 QI,.sv 4 QI])])],[(7474,[(.normal,[.sv 5 (.int .u64),.sv 6 QI,.sv 7 (.int .u8),.sv 8 (.list false (.int .u8)),.sv 9 QI,.sv 10 QI,.sv 28 .bool])])],[]⟩
def a0Q(x:Z31):Option Z27:= cond (x.1.2.2.1 != 0) (some (0,x.1)) (cond ((decide (0≤x.1.2.1))&&(decide (x.1.2.1≤(x.1.1.length:Int)))) ((a3W (a31 (a01 x.1.2.1) (a08 (a02 x.1.1) x.1.1))).bind fun y1=> (show Option Z72 from cond (y1.2.2==0) (cond (decide (y1.1 > x.2)) (some (y1.1,y1.2.1,4,x.1,())) (some (y1.1,y1.2.1,y1.2.2,x.1,()))) (some (y1.1,y1.2.1,y1.2.2,x.1,()))).bind fun z2=> cond (z2.2.2.1 != 0) (some (0,z2.2.2.2.1.1,z2.2.2.2.1.2.1,z2.2.2.1,z2.2.2.2.1.2.2.2)) (some (z2.1,z2.2.2.2.1.1,wrap .i64 (z2.2.2.2.1.2.1+z2.2.1),z2.2.2.2.1.2.2))) none)
def b0A:FSem:=⟨[.r false (.b Q11),.v (.int .u64)],[.v (.int .u64)],a0Q⟩
def c9K:Hints:=⟨[],[(15,[(.normal,[.sv 5 (.int .u64),.sv 6 QI,.sv 7 QI,.box pinned Q11,.ptr 0 pinned []])])],[(3,[.p,.p,.q,.q,.p,.p,.q,.q,.x,.x,.x,.v,.v,.v,.v,.v,.x])]⟩
def a6A(x:Int):Option Int:= cond ((a16 x 2)==0) (some (wrap .i64 (wrap .u64 (a18 x 2)))) (some (wrap .i64 ((wrap .i64 (0-(wrap .i64 (wrap .u64 (a18 x 2)))))-1)))
def b5G:FSem:=⟨[.v (.int .u64)],[.v QI],a6A⟩
def c9L:Hints:=⟨[],[],[]⟩
def a1a(x:Z15):Option Z27:= some (x.2.2.1,x)
def b0B:FSem:=⟨[.r false (.b Q11)],[.v QI],a1a⟩
def c9M:Hints:=⟨[],[],[]⟩
def a4m(x:Z15):Option Z27:= some (wrap .i64 ((x.1.length:Int)-x.2.1),x)
def a9f:FSem:=⟨[.r false (.b Q11)],[.v QI],a4m⟩
def c9N:Hints:=⟨[],[],[(1,[.p,.p,.q,.q,.v,.p,.p,.q,.q,.x,.x])]⟩
def a7E(x:Z15):Option Z27:= some (x.2.1,x)
def b0X:FSem:=⟨[.r false (.b Q11)],[.v QI],a7E⟩
def c9O:Hints:=⟨[],[],[]⟩
def a0R(s:((List Int)×(Int×Int×b7I))):Option (((List Int)×(Int×Int×b7I)) ⊕ ((List Int)×b7I)):= cond (decide (s.2.2.1<s.2.1)) ((a0Q (s.2.2.2.2.1,7)).bind fun y11=> (a0Q (y11.2,7)).bind fun y12=> (a0Q (y12.2,2048)).bind fun y13=> (a6A y13.1).bind fun y14=> cond (lim ((a02 s.2.2.2.1.2.2.2.1)+1)) (some (.inl (s.1,s.2.1,wrap .u64 (s.2.2.1+1),(s.2.2.2.1.1,s.2.2.2.1.2.1,s.2.2.2.1.2.2.1,a03 s.2.2.2.1.2.2.2.1 ([(wrap .i64 y11.1,wrap .i64 y12.1,y14,())]:List Z7),s.2.2.2.1.2.2.2.2),y13.2,()))) none) (some (.inr (s.1,s.2.2.2.1,s.2.2.2.2.1,())))
end Go.Ab
namespace Go.Ab
open IntKind(wrap)
open Go.Proofs
set_option maxRecDepth 100000
set_option linter.unusedVariables false
def a2h(x:(List Int)):Option (a4R×Int×Int×Int):= cond (decide ((x.length:Int)<2)) (some ((0,0,(0,0,0,()),[],[],()),0,0,3)) ((show Option ((List Int)×(Bool×b2H))from(l0z x 0).bind fun x1=> cond (x1 != 245) (some (x,true,(0,0,(0,0,0,()),[],[],()),())) ((l0z x 1).bind fun x2=> some (x,x2 != 75,(0,0,(0,0,0,()),[],[],()),()))).bind fun z3=> cond z3.2.1 (some ((0,0,(0,0,0,()),[],[],()),0,0,2)) (cond (decide (2≤(z3.1.length:Int))) ((a6z (a31 2 (a08 (a02 z3.1) z3.1))).bind fun y4=> (a0Q (y4,4194304)).bind fun y5=> (a0Q (y5.2,4096)).bind fun y6=> (a0Q (y6.2,1048576)).bind fun y7=> (a0Q (y7.2,8)).bind fun y8=> (a0Q (y8.2,24)).bind fun y9=> (a0Q (y9.2,16)).bind fun y10=> (x0r a0R (z3.1,y10.1,0,(wrap .i64 y5.1,wrap .i64 y6.1,(wrap .i64 y7.1,wrap .i64 y8.1,wrap .i64 y9.1,z3.2.2.1.2.2.1.2.2.2),z3.2.2.1.2.2.2),y10.2,())).bind fun w15=> (a0Q (w15.2.2.1,1048576)).bind fun y16=> (a1a y16.2).bind fun y17=> cond (y17.1 != 0) (some ((0,0,(0,0,0,()),[],[],()),0,0,y17.1)) ((a4m y17.2).bind fun y18=> cond (decide (y18.1<1)) (some ((0,0,(0,0,0,()),[],[],()),0,0,3)) ((a7E y18.2).bind fun y19=> cond ((decide (0≤(wrap .i64 (2+y19.1))))&&(decide ((wrap .i64 (2+y19.1))≤(w15.1.length:Int)))) ((a6U (a08 (a01 (wrap .i64 (2+y19.1))) w15.1)).bind fun y20=> (l0z w15.1 (wrap .i64 (2+y19.1))).bind fun x21=> cond (y20 != x21) (some ((0,0,(0,0,0,()),[],[],()),0,0,5)) ((a5Y w15.2.1).bind fun y22=> cond (!y22) (some ((0,0,(0,0,0,()),[],[],()),0,0,2)) (some (w15.2.1,wrap .i64 ((wrap .i64 (2+y19.1))+1),wrap .i64 y16.1,0)))) none))) none))
def a8J:FSem:=⟨[.v (.list false (.int .u8))],[.v (.pair QI (.pair QI (.pair Q8 (.pair (.list false Q8) Q32)))),.v QI,.v QI,.v QI],a2h⟩
def H65:Hints:=⟨[(8186,[.sv 0 (.list false (.int .u8)),.sv 54 (.int .u64),.sv 55 (.int .u64),.box 2 Q47,.box 1029 Q11,.ptr 2 2 [],.ptr 6 1029 []],[(.exit 0,[.sv 0 (.list false (.int .u8)),.box 2 Q47,.box 1029 Q11,.ptr 2 2 [],.ptr 6 1029 []])])],[(14,[(.normal,[.sv 0 (.list false (.int .u8)),.sv 25 .bool,.box 2 Q47,.ptr 2 2 []])])],[(25,[.v,.v,.v,.v,.v,.v,.v,.v,.x])]⟩
def b1f(x:(List Int)):Option Z15:= cond (lim (a02 x)) (some (x,0,0,())) none
def b6F:FSem:=⟨[.v (.list false (.int .u8))],[.b Q11],b1f⟩
def H66:Hints:=⟨[],[],[]⟩
def a0L(x:Z15):Option Z27:= some (x.2.2.1,x)
def a2a:FSem:=⟨[.r false (.b Q11)],[.v QI],a0L⟩
def H70:Hints:=⟨[],[],[]⟩
def a2w(x:Z15):Option Z27:= some (wrap .i64 ((wrap .i64 (8*(x.1.length:Int)))-x.2.1),x)
def a6V:FSem:=⟨[.r false (.b Q11)],[.v QI],a2w⟩
def H68:Hints:=⟨[],[],[(1,[.p,.p,.q,.q,.v,.v,.p,.p,.q,.q,.x,.x])]⟩
def a1y(x:Z31):Option Z27:= (l0z x.1.1 (wrap .i64 (a18 x.2 8))).bind fun x1=> cond (decide ((wrap .i64 (7-(a16 x.2 8)))<0)) none (some (bits .u8 .and (z0h .u8 x1 (wrap .i64 (7-(a16 x.2 8)))) 1,x.1))
def a4G:FSem:=⟨[.r false (.b Q11),.v QI],[.v (.int .u8)],a1y⟩
def c9P:Hints:=⟨[],[],[]⟩
def a3H(s:Z72):Option (Z72 ⊕ Z50):= cond (decide (s.2.2.1<s.2.1)) ((a1y (s.2.2.2.1,s.2.2.2.1.2.1)).bind fun y3=> some (.inl (bits .u64 .or (z0g .u64 s.1 1) (wrap .u64 y3.1),s.2.1,wrap .i64 (s.2.2.1+1),(y3.2.1,wrap .i64 (y3.2.2.1+1),y3.2.2.2),()))) (some (.inr (s.1,s.2.2.2.1,())))
def a0F(x:Z31):Option Z27:= cond (x.1.2.2.1 != 0) (some (0,x.1)) ((show Option Z60 from cond (decide (x.2<0)) (some (x.2,true,x.1,())) (some (x.2,decide (x.2 > 64),x.1,()))).bind fun z1=> cond z1.2.1 (some (0,z1.2.2.1.1,z1.2.2.1.2.1,1,z1.2.2.1.2.2.2)) ((a2w z1.2.2.1).bind fun y2=> cond (decide (z1.1 > y2.1)) (some (0,y2.2.1,y2.2.2.1,3,y2.2.2.2.2)) ((x0r a3H (0,z1.1,0,y2.2,())).bind fun w4=> some (w4.1,w4.2.1))))
def a2b:FSem:=⟨[.r false (.b Q11),.v QI],[.v (.int .u64)],a0F⟩
def c9Q:Hints:=⟨[(506,[.sv 5 (.int .u64),.sv 27 QI,.sv 28 QI,.box pinned Q11,.ptr 0 pinned []],[(.exit 0,[.sv 5 (.int .u64),.box pinned Q11])])],[(14,[(.normal,[.sv 1 QI,.sv 16 .bool,.box pinned Q11,.ptr 0 pinned []])])],[]⟩
def a0Z(x:Z31):Option Z27:= (a0F (x.1,x.2)).bind fun y1=> (show Option (Int×Z60)from cond (y1.2.2.2.1 != 0) (some (x.2,y1.1,true,y1.2,())) (some (x.2,y1.1,x.2==0,y1.2,()))).bind fun z2=> cond z2.2.2.1 (some (0,z2.2.2.2.1)) (cond (decide ((wrap .i64 (64-z2.1))<0)) none (cond (decide ((wrap .i64 (64-z2.1))<0)) none (some (z0h .i64 (wrap .i64 (z0g .u64 z2.2.1 (wrap .i64 (64-z2.1)))) (wrap .i64 (64-z2.1)),z2.2.2.2.1))))
def a2C:FSem:=⟨[.r false (.b Q11),.v QI],[.v QI],a0Z⟩
def c9R:Hints:=⟨[],[(14,[(.normal,[.sv 1 QI,.sv 5 (.int .u64),.sv 17 .bool,.box pinned Q11])])],[]⟩
def a5d(s:(Int×b7H)):Option ((Int×b7H) ⊕ (Int×c1O)):= cond (decide (s.2.2.1<s.2.1)) ((a0Z (s.2.2.2.1,s.1)).bind fun y4=> cond (lim ((a02 s.2.2.2.2.1.2.2.2.2.2.1)+1)) (some (.inl (s.1,s.2.1,wrap .i64 (s.2.2.1+1),y4.2,(s.2.2.2.2.1.1,s.2.2.2.2.1.2.1,s.2.2.2.2.1.2.2.1,s.2.2.2.2.1.2.2.2.1,s.2.2.2.2.1.2.2.2.2.1,a03 s.2.2.2.2.1.2.2.2.2.2.1 [y4.1],s.2.2.2.2.1.2.2.2.2.2.2),()))) none) (some (.inr (s.1,s.2.2.2.2.1,s.2.2.2.1,())))
def a7r(x:(Z15×Z93)):Option (Bool×Z15×Z93):= (a0F (x.1,5)).bind fun y1=> (a0F (y1.2,4)).bind fun y2=> (a0F (y2.2,5)).bind fun y3=> (x0r a5d (wrap .i64 y3.1,wrap .i64 ((wrap .i64 y1.1)+1),0,y3.2,(x.2.1,x.2.2.1,x.2.2.2.1,wrap .i64 y2.1,x.2.2.2.2.2),())).bind fun w5=> (a1q w5.2.1.2.2.2.2.2.1).bind fun y6=> some (y6==w5.1,w5.2.2.1,w5.2.1)
def b3g:FSem:=⟨[.r false (.b Q11),.r false (.b Q30)],[.v .bool],a7r⟩
def c9S:Hints:=⟨[(250,[.sv 6 QI,.sv 20 QI,.sv 21 QI,.box pinned Q11,.box 1000001 Q30,.ptr 0 pinned [],.ptr 1 1000001 []],[(.exit 0,[.sv 6 QI,.box 1000001 Q30,.box pinned Q11,.ptr 1 1000001 []])])],[],[(6,[.p,.p,.p,.r [26,1000001],.r [27,1000001],.p,.v,.w [30,1030,pinned],.q,.a [31,32,1000001],.x,.x,.x])]⟩
def a2Y(s:b7H):Option (b7H ⊕ c3U):= cond (decide (s.2.1<3)) ((a0Z (s.2.2.1,8)).bind fun y6=> cond ((decide (0≤s.2.1))&&(decide (s.2.1<3))) (some (.inl (s.1,wrap .i64 (s.2.1+1),y6.2,(s.2.2.2.1.1,s.2.2.2.1.2.1,s.2.2.2.1.2.2.1,s.2.2.2.1.2.2.2.1,s.2.2.2.1.2.2.2.2.1,s.2.2.2.1.2.2.2.2.2.1,a26 s.2.2.2.1.2.2.2.2.2.2.1 (a01 s.2.1) y6.1,s.2.2.2.1.2.2.2.2.2.2.2),()))) none) (some (.inr (s.1,s.2.2.1,s.2.2.2.1,())))
def a5K(s:(Int×Bool×b7H)):Option ((Int×Bool×b7H) ⊕ (Int×Bool×c1O)):= cond (decide (s.2.2.2.1<s.2.2.1)) ((a0F (s.2.2.2.2.1,5)).bind fun y15=> (a0F (y15.2,4)).bind fun y16=> cond (lim ((a02 s.2.2.2.2.2.1.2.2.2.2.2.2.2.1)+1)) (some (.inl (s.1,s.2.1,s.2.2.1,wrap .u64 (s.2.2.2.1+1),y16.2,(s.2.2.2.2.2.1.1,s.2.2.2.2.2.1.2.1,s.2.2.2.2.2.1.2.2.1,s.2.2.2.2.2.1.2.2.2.1,s.2.2.2.2.2.1.2.2.2.2.1,s.2.2.2.2.2.1.2.2.2.2.2.1,s.2.2.2.2.2.1.2.2.2.2.2.2.1,a03 s.2.2.2.2.2.1.2.2.2.2.2.2.2.1 ([(wrap .i64 ((wrap .i64 y15.1)+1),wrap .i64 y16.1,())]:List (Int×Int×Unit)),s.2.2.2.2.2.1.2.2.2.2.2.2.2.2),()))) none) (some (.inr (s.1,s.2.1,s.2.2.2.2.2.1,s.2.2.2.2.1,())))
def a8b(x:Z15):Option (Z93×Int×Bool×Z15):= (a0F (x,3)).bind fun y1=> (a0F (y1.2,5)).bind fun y2=> (a0F (y2.2,5)).bind fun y3=> (show Option (Int×Bool×c1O)from(show Option (c3U ⊕ ((Int×Bool×c1O) ⊕ (Int×Bool×c5X)))from cond ((wrap .i64 y1.1)==2) ((a0F (y3.2,3)).bind fun y4=> some (Sum.inr (Sum.inl (wrap .i64 y3.1,true,(wrap .i64 y1.1,wrap .i64 y2.1,wrap .i64 y4.1,0,0,[],a00 3 0,[],[],(0,[],()),[],()),y4.2,())))) (cond ((wrap .i64 y1.1)==4) ((a0F (y3.2,10)).bind fun y5=> (x0r a2Y (wrap .i64 y3.1,0,y5.2,(wrap .i64 y1.1,wrap .i64 y2.1,0,0,wrap .i64 ((wrap .i64 y5.1)+1),[],a00 3 0,[],[],(0,[],()),[],()),())).bind fun w7=> some (Sum.inl (w7.1,w7.2.1,w7.2.2.1,()))) (cond ((wrap .i64 y1.1)==3) (some (Sum.inl (wrap .i64 y3.1,y3.2,(wrap .i64 y1.1,wrap .i64 y2.1,0,0,0,[],a00 3 0,[],[],(0,[],()),[],()),()))) (cond ((wrap .i64 y1.1)==5) (some (Sum.inr (Sum.inr ((wrap .i64 y3.1,true,y3.2,(wrap .i64 y1.1,wrap .i64 y2.1,0,0,0,[],a00 3 0,[],[],(0,[],()),[],()),()))))) (some (Sum.inr (Sum.inl (wrap .i64 y3.1,true,(wrap .i64 y1.1,wrap .i64 y2.1,0,0,0,[],a00 3 0,[],[],(0,[],()),[],()),y3.2,())))))))).bind fun z8=> match z8 with |.inl a9=>((a7r (a9.2.1,a9.2.2.1)).bind fun y11=> some (a9.1,y11.1,y11.2.2,y11.2.1,())) |.inr b10=>(match b10 with |.inl a12=>some (a12.1,a12.2.1,a12.2.2.1,a12.2.2.2.1,()) |.inr b13=>((a0F (b13.2.2.1,2)).bind fun y14=> (x0r a5K (b13.1,b13.2.1,y14.1,0,y14.2,b13.2.2.2.1,())).bind fun w17=> some (w17.1,w17.2.1,w17.2.2.1,w17.2.2.2.1,())))).bind fun z18=> some (z18.2.2.1,z18.1,z18.2.1,z18.2.2.2.1)
def b4w:FSem:=⟨[.r false (.b Q11)],[.v (.pair QI (.pair QI (.pair QI (.pair QI (.pair QI (.pair QL (.pair (.arr 3 QI) (.pair (.list false Q3) Q14)))))))),.v QI,.v .bool],a8b⟩
def c9T:Hints:=⟨[(8106,[.sv 3 QI,.sv 4 .bool,.sv 50 (.int .u64),.sv 51 (.int .u64),.box pinned Q11,.box 2 Q30,.ptr 0 pinned [],.ptr 2 2 []],[(.exit 7,[.sv 3 QI,.sv 4 .bool,.box 2 Q30,.box pinned Q11,.ptr 2 2 []])]),(129550,[.sv 3 QI,.sv 38 QI,.box pinned Q11,.box 2 Q30,.ptr 0 pinned [],.ptr 2 2 []],[(.exit 5,[.sv 3 QI,.box pinned Q11,.box 2 Q30,.ptr 0 pinned [],.ptr 2 2 []])])],[(63,[(.normal,[.sv 3 QI,.sv 4 .bool,.box 2 Q30,.box pinned Q11,.ptr 2 2 []])]),(2024,[(.normal,[.sv 3 QI,.box pinned Q11,.box 2 Q30,.ptr 0 pinned [],.ptr 2 2 []]),(.exit 0,[.sv 3 QI,.sv 4 .bool,.box 2 Q30,.box pinned Q11,.ptr 2 2 []]),(.exit 4,[.sv 3 QI,.sv 4 .bool,.box pinned Q11,.box 2 Q30,.ptr 0 pinned [],.ptr 2 2 []])])],[]⟩
def a3c(s:Z72):Option (Z72 ⊕ Z50):= cond (s.2.2.1==(wrap .i64 (8*(s.2.2.2.1.1.length:Int)))) (some (.inr (0,(s.2.2.2.1.1,s.2.2.2.1.2.1,3,s.2.2.2.1.2.2.2),()))) ((a1y (s.2.2.2.1,s.2.2.1)).bind fun y2=> cond (y2.1==1) (some (.inr (s.2.1,(y2.2.1,wrap .i64 (s.2.2.1+1),y2.2.2.2),()))) (cond (s.2.1==s.1) (some (.inr (0,(y2.2.1,y2.2.2.1,2,y2.2.2.2.2),()))) (some (.inl (s.1,wrap .i64 (s.2.1+1),wrap .i64 (s.2.2.1+1),y2.2,())))))
def a1H(x:Z31):Option Z27:= cond (x.1.2.2.1 != 0) (some (0,x.1)) ((x0r a3c (u0z x.2 0,0,x.1.2.1,x.1,())).bind fun w3=> some (w3.1,w3.2.1))
def a9g:FSem:=⟨[.r false (.b Q11),.v QI],[.v QI],a1H⟩
def c9U:Hints:=⟨[(62,[.sv 1 QI,.sv 5 QI,.sv 6 QI,.box pinned Q11,.ptr 0 pinned []],[(.ret,[.sv 4 QI,.box pinned Q11])])],[],[(4,[.p,.p,.q,.q,.v,.x])]⟩
def a6i(x:Int):Option Int:= cond (decide (x≥2147483648)) (some 0) (cond ((a16 x 2)==0) (some (wrap .i64 (wrap .u64 (a18 x 2)))) (some (wrap .i64 ((wrap .i64 (0-(wrap .i64 (wrap .u64 (a18 x 2)))))-1))))
def b4x:FSem:=⟨[.v (.int .u64)],[.v QI],a6i⟩
def c9V:Hints:=⟨[],[],[]⟩
def b1g(x:Z31):Option Z44:= (a1H (x.1,32)).bind fun y1=> (a0L y1.2).bind fun y2=> cond (y2.1 != 0) ((a0L y2.2).bind fun y3=> some (0,y3.1,y3.2)) (cond (decide ((wrap .u64 y1.1)<32)) ((a0F (y2.2,x.2)).bind fun y4=> cond (decide (x.2<0)) none ((a6i (wrap .u64 ((z0g .u64 (wrap .u64 y1.1) x.2)+y4.1))).bind fun y5=> (a0L y4.2).bind fun y6=> some (y5,y6.1,y6.2))) ((a0F (y2.2,32)).bind fun y7=> (a0L y7.2).bind fun y8=> cond (y8.1 != 0) ((a0L y8.2).bind fun y9=> some (0,y9.1,y9.2)) ((show Option Z60 from cond (decide (y7.1≥2147483648)) (some (y7.1,true,y8.2,())) (cond (decide (x.2<0)) none (some (y7.1,decide ((z0h .u64 y7.1 x.2)<32),y8.2,())))).bind fun z10=> cond z10.2.1 (some (0,2,z10.2.2.1)) ((a6i z10.1).bind fun y11=> some (y11,0,z10.2.2.1)))))
def b6G:FSem:=⟨[.r false (.b Q11),.v QI],[.v QI,.v QI],b1g⟩
def c9W:Hints:=⟨[],[(254,[(.normal,[.sv 8 (.int .u64),.sv 44 .bool,.box pinned Q11])])],[]⟩
def a8c(s:Z80):Option (Z80 ⊕ (Z57 ⊕ Z70)):= cond (decide (s.2.2.1<s.2.1)) ((b1g (s.2.2.2.2.1,s.1)).bind fun y5=> cond (y5.2.1 != 0) (some (.inr (Sum.inr ((y5.2.1,[],y5.2.2,()))))) (cond (lim ((a02 s.2.2.2.1)+1)) (some (.inl (s.1,s.2.1,wrap .i64 (s.2.2.1+1),a03 s.2.2.2.1 [y5.1],y5.2.2,()))) none)) (some (.inr (Sum.inl (s.2.2.2.1,s.2.2.2.2.1,()))))
def b1h(x:(Z15×Int×Int)):Option Z54:= (show Option (Int×Z60)from(a1P x.2.1).bind fun y1=> cond (!y1) (some (x.2.1,x.2.2,true,x.1,())) (cond (decide (x.2.2<0)) (some (x.2.1,x.2.2,true,x.1,())) (some (x.2.1,x.2.2,decide (x.2.2 > 4194304),x.1,())))).bind fun z2=> cond z2.2.2.1 (some ([],1,z2.2.2.2.1)) ((a0L z2.2.2.2.1).bind fun y3=> cond (y3.1 != 0) ((a0L y3.2).bind fun y4=> some ([],y4.1,y4.2)) ((x0r a8c (z2.1,z2.2.1,0,[],y3.2,())).bind fun w6=> match w6 with |.inl a7=>some (a7.1,0,a7.2.1) |.inr b8=>some (b8.2.1,b8.1,b8.2.2.1)))
def b6H:FSem:=⟨[.r false (.b Q11),.v QI,.v QI],[.o QI,.v QI],b1h⟩
def c9X:Hints:=⟨[(250,[.sv 1 QI,.sv 27 QI,.sv 28 QI,.own 8 8 QI,.box pinned Q11,.ptr 0 pinned []],[(.exit 0,[.own 8 8 QI,.box pinned Q11]),(.ret,[.sv 7 QI,.own 6 6 QI,.box pinned Q11])])],[(6,[(.normal,[.sv 1 QI,.sv 2 QI,.sv 21 .bool,.box pinned Q11,.ptr 0 pinned []])])],[]⟩
def a7s(s:(Int×Z80)):Option ((Int×Z80) ⊕ Z78):= cond (decide (s.2.2.2.1<s.2.2.1)) ((a0Z (s.2.2.2.2.2.1,s.2.1)).bind fun y6=> cond (lim ((a02 s.2.2.2.2.1)+1)) (some (.inl (s.1,s.2.1,s.2.2.1,wrap .i64 (s.2.2.2.1+1),a03 s.2.2.2.2.1 [y6.1],y6.2,()))) none) (some (.inr (s.1,s.2.1,s.2.2.2.2.1,s.2.2.2.2.2.1,())))
def a9K(x:Z31):Option (Int×Z54):= (a0F (x.1,5)).bind fun y1=> (a0L y1.2).bind fun y2=> cond (y2.1 != 0) ((a0L y2.2).bind fun y3=> some (0,[],y3.1,y3.2)) (cond (decide ((wrap .i64 y1.1)≤25)) ((b1h (y2.2,wrap .i64 y1.1,x.2)).bind fun y4=> some (wrap .i64 y1.1,y4.1,y4.2.1,y4.2.2)) (cond ((wrap .i64 y1.1) != 31) (some (0,[],2,y2.2)) ((a0F (y2.2,5)).bind fun y5=> (x0r a7s (wrap .i64 y1.1,wrap .i64 y5.1,x.2,0,[],y5.2,())).bind fun w7=> (a0L w7.2.2.2.1).bind fun y8=> cond (y8.1 != 0) ((a0L y8.2).bind fun y9=> some (0,[],y9.1,y9.2)) ((a1q w7.2.2.1).bind fun y10=> cond (y10 != w7.2.1) (some (0,[],2,y8.2)) (some (w7.1,w7.2.2.1,0,y8.2))))))
def b5H:FSem:=⟨[.r false (.b Q11),.v QI],[.v QI,.o QI,.v QI],a9K⟩
def c9Y:Hints:=⟨[(2042,[.sv 7 QI,.sv 10 QI,.sv 37 QI,.sv 38 QI,.own 11 11 QI,.box pinned Q11,.ptr 0 pinned []],[(.exit 0,[.sv 7 QI,.sv 10 QI,.own 11 11 QI,.box pinned Q11,.ptr 0 pinned []])])],[],[]⟩
def a7t(s:(Int×(Int×((List Int)×((List Int)×(Z15×Z73)))))):Option ((Int×(Int×((List Int)×((List Int)×(Z15×Z73))))) ⊕ (((List Int)×(Z5×Z5×Z34)) ⊕ (Int×((List Int)×(Z5×Z34))))):= cond (decide (s.2.1<s.1)) (cond ((decide (0≤s.2.1))&&(decide (s.2.1<(s.2.2.2.1.length:Int)))) ((a9K (s.2.2.2.2.1,a04 s.2.2.2.1 (a01 s.2.1) 0)).bind fun y6=> cond (y6.2.2.1 != 0) (some (.inr (Sum.inr ((y6.2.2.1,[],(0,[],()),y6.2.2.2,()))))) (cond (lim ((a02 s.2.2.2.2.2.2.1.2.1)+1)) (cond (lim ((a02 s.2.2.1)+(a02 y6.2.1))) (some (.inl (s.1,wrap .i64 (s.2.1+1),a03 s.2.2.1 y6.2.1,s.2.2.2.1,y6.2.2.2,s.2.2.2.2.2.1,(s.2.2.2.2.2.2.1.1,a03 s.2.2.2.2.2.2.1.2.1 [y6.1],s.2.2.2.2.2.2.1.2.2),()))) none) none)) none) (some (.inr (Sum.inl (s.2.2.1,s.2.2.2.2.2.1,s.2.2.2.2.2.2.1,s.2.2.2.2.1,()))))
def a9L(x:(Z15×Int×Int)):Option (Z5×Z54):= (a6s (x.2.1,x.2.2)).bind fun y1=> cond (!y1) (some ((0,[],()),[],1,x.1)) ((a0F (x.1,4)).bind fun y2=> (a0L y2.2).bind fun y3=> cond (y3.1 != 0) ((a0L y3.2).bind fun y4=> some ((0,[],()),[],y4.1,y4.2)) ((a2L (wrap .i64 y2.1,x.2.1,x.2.2)).bind fun y5=> cond ((y5.length:Int)==0) (some ((0,[],()),[],2,y3.2)) ((x0r a7t ((y5.length:Int),0,[],y5,y3.2,(0,[],()),(wrap .i64 y2.1,[],()),())).bind fun w7=> match w7 with |.inl a8=>some (a8.2.2.1,a8.1,0,a8.2.2.2.1) |.inr b9=>some (b9.2.2.1,b9.2.1,b9.1,b9.2.2.2.1))))
def b5I:FSem:=⟨[.r false (.b Q11),.v QI,.v QI],[.v Q7,.o QI,.v QI],a9L⟩
def c9Z:Hints:=⟨[(4090,[.sv 43 QI,.sv 44 QI,.own 12 12 QI,.own 42 10 QI,.box pinned Q11,.box 6 Q7,.box 11 Q6,.ptr 0 pinned [],.ptr 6 6 [],.ptr 11 11 []],[(.exit 0,[.own 12 12 QI,.box 6 Q7,.box 11 Q6,.box pinned Q11,.ptr 6 6 [],.ptr 11 11 []]),(.ret,[.sv 8 QI,.own 7 7 QI,.box 6 Q7,.box pinned Q11,.ptr 6 6 []])])],[],[]⟩
def a8K(s:(Int×Int×Bool×Int×Int×Z15×b0J)):Option ((Int×Int×Bool×Int×Int×Z15×b0J) ⊕ (Int×Int×Bool×Z15×b0J)):= cond (decide (s.2.2.2.2.1<s.2.2.2.1)) ((a0Z (s.2.2.2.2.2.1,s.2.1)).bind fun y7=> cond (lim ((a02 s.2.2.2.2.2.2.2.1.2.2.2.2.2.2.2.2.1)+1)) (some (.inl (s.1,s.2.1,s.2.2.1,s.2.2.2.1,wrap .i64 (s.2.2.2.2.1+1),y7.2,s.2.2.2.2.2.2.1,(s.2.2.2.2.2.2.2.1.1,s.2.2.2.2.2.2.2.1.2.1,s.2.2.2.2.2.2.2.1.2.2.1,s.2.2.2.2.2.2.2.1.2.2.2.1,s.2.2.2.2.2.2.2.1.2.2.2.2.1,s.2.2.2.2.2.2.2.1.2.2.2.2.2.1,s.2.2.2.2.2.2.2.1.2.2.2.2.2.2.1,s.2.2.2.2.2.2.2.1.2.2.2.2.2.2.2.1,a03 s.2.2.2.2.2.2.2.1.2.2.2.2.2.2.2.2.1 [y7.1],s.2.2.2.2.2.2.2.1.2.2.2.2.2.2.2.2.2),()))) none) (some (.inr (s.1,s.2.1,s.2.2.1,s.2.2.2.2.2.1,s.2.2.2.2.2.2.1,s.2.2.2.2.2.2.2.1,())))
def b0C(x:Z31):Option (Z93×Z27):= cond (decide (x.2<1)) (some ((0,0,0,0,0,[],a00 3 0,[],[],(0,[],()),[],()),1,x.1)) (cond (decide (x.2 > 4096)) (some ((0,0,0,0,0,[],a00 3 0,[],[],(0,[],()),[],()),1,x.1)) ((a0L x.1).bind fun y1=> cond (y1.1 != 0) (some ((0,0,0,0,0,[],a00 3 0,[],[],(0,[],()),[],()),y1.1,y1.2)) ((a8b y1.2).bind fun y2=> (a0L y2.2.2.2).bind fun y3=> cond (y3.1 != 0) (some ((0,0,0,0,0,[],a00 3 0,[],[],(0,[],()),[],()),y3.1,y3.2)) ((a6R (y2.1.1,y2.1,x.2)).bind fun y4=> cond (!y4) (some ((0,0,0,0,0,[],a00 3 0,[],[],(0,[],()),[],()),2,y3.2)) ((a3Z (y2.1,x.2)).bind fun y5=> (x0r a8K (x.2,y2.2.1,y2.2.2.1,y5,0,y3.2,(0,0,0,0,0,[],a00 3 0,[],[],(0,[],()),[],()),y2.1,())).bind fun w8=> (a0L w8.2.2.2.1).bind fun y9=> cond (y9.1 != 0) (some ((0,0,0,0,0,[],a00 3 0,[],[],(0,[],()),[],()),y9.1,y9.2)) ((a5g w8.2.2.2.2.2.1.1).bind fun y10=> cond y10 ((a9L (y9.2,w8.1,(w8.2.2.2.2.2.1.2.2.2.2.2.2.2.2.1.length:Int))).bind fun y11=> cond (y11.2.2.1 != 0) (some ((0,0,0,0,0,[],a00 3 0,[],[],(0,[],()),[],()),y11.2.2.1,y11.2.2.2)) (cond (!w8.2.2.1) (some ((0,0,0,0,0,[],a00 3 0,[],[],(0,[],()),[],()),2,y11.2.2.2)) ((a1q w8.2.2.2.2.2.1.2.2.2.2.2.2.2.2.1).bind fun y12=> cond (y12 != w8.2.1) (some ((0,0,0,0,0,[],a00 3 0,[],[],(0,[],()),[],()),2,y11.2.2.2)) ((a8n ((w8.2.2.2.2.2.1.1,w8.2.2.2.2.2.1.2.1,w8.2.2.2.2.2.1.2.2.1,w8.2.2.2.2.2.1.2.2.2.1,w8.2.2.2.2.2.1.2.2.2.2.1,w8.2.2.2.2.2.1.2.2.2.2.2.1,w8.2.2.2.2.2.1.2.2.2.2.2.2.1,w8.2.2.2.2.2.1.2.2.2.2.2.2.2.1,w8.2.2.2.2.2.1.2.2.2.2.2.2.2.2.1,y11.1,y11.2.1,w8.2.2.2.2.2.1.2.2.2.2.2.2.2.2.2.2.2),w8.1)).bind fun y13=> cond (!y13) (some ((0,0,0,0,0,[],a00 3 0,[],[],(0,[],()),[],()),2,y11.2.2.2)) (some ((w8.2.2.2.2.2.1.1,w8.2.2.2.2.2.1.2.1,w8.2.2.2.2.2.1.2.2.1,w8.2.2.2.2.2.1.2.2.2.1,w8.2.2.2.2.2.1.2.2.2.2.1,w8.2.2.2.2.2.1.2.2.2.2.2.1,w8.2.2.2.2.2.1.2.2.2.2.2.2.1,w8.2.2.2.2.2.1.2.2.2.2.2.2.2.1,w8.2.2.2.2.2.1.2.2.2.2.2.2.2.2.1,y11.1,y11.2.1,w8.2.2.2.2.2.1.2.2.2.2.2.2.2.2.2.2.2),0,y11.2.2.2)))))) (cond (!w8.2.2.1) (some ((0,0,0,0,0,[],a00 3 0,[],[],(0,[],()),[],()),2,y9.2)) ((a1q w8.2.2.2.2.2.1.2.2.2.2.2.2.2.2.1).bind fun y14=> cond (y14 != w8.2.1) (some ((0,0,0,0,0,[],a00 3 0,[],[],(0,[],()),[],()),2,y9.2)) ((a8n (w8.2.2.2.2.2.1,w8.1)).bind fun y15=> cond (!y15) (some ((0,0,0,0,0,[],a00 3 0,[],[],(0,[],()),[],()),2,y9.2)) (some (w8.2.2.2.2.2.1,0,y9.2)))))))))))
def b8g:FSem:=⟨[.r false (.b Q11),.v QI],[.v Q31,.v QI],b0C⟩
def H67:Hints:=⟨[(1018,[.sv 1 QI,.sv 8 QI,.sv 9 .bool,.sv 47 QI,.sv 48 QI,.box pinned Q11,.box 4 Q31,.box 7 (.pair QI (.pair QI (.pair QI (.pair QI (.pair QI (.pair QL (.pair (.arr 3 QI) (.pair (.list false Q3) (.pair (.list true QI) Q13))))))))),.ptr 0 pinned [],.ptr 4 4 [],.ptr 7 7 []],[(.exit 0,[.sv 1 QI,.sv 8 QI,.sv 9 .bool,.box pinned Q11,.box 4 Q31,.box 7 (.pair QI (.pair QI (.pair QI (.pair QI (.pair QI (.pair QL (.pair (.arr 3 QI) (.pair (.list false Q3) (.pair (.list true QI) Q13))))))))),.ptr 0 pinned [],.ptr 4 4 [],.ptr 7 7 []])])],[],[(14,[.r [7,50],.r [7,51],.p,.v,.w [54,1054,pinned],.q,.x,.x,.x])]⟩
def a3d(s:Z59):Option (Z59 ⊕ (Z50 ⊕ Z34)):= cond (decide (s.2.1<s.1)) ((a1y (s.2.2.1,s.2.1)).bind fun y1=> cond (y1.1==1) (some (.inr (Sum.inr (((y1.2.1,y1.2.2.1,2,y1.2.2.2.2),()))))) (some (.inl (s.1,wrap .i64 (s.2.1+1),y1.2,())))) (some (.inr (Sum.inl (s.1,s.2.2.1,()))))
def a4n(x:Z15):Option Z15:= cond (x.2.2.1 != 0) (some x) ((x0r a3d (wrap .i64 ((wrap .i64 (a18 (wrap .i64 (x.2.1+7)) 8))*8),x.2.1,x,())).bind fun w2=> match w2 with |.inl a3=>some (a3.2.1.1,a3.1,a3.2.1.2.2) |.inr b4=>some b4.1)
def a9h:FSem:=⟨[.r false (.b Q11)],[],a4n⟩
def H69:Hints:=⟨[(58,[.sv 2 QI,.sv 3 QI,.box pinned Q11,.ptr 0 pinned []],[(.exit 0,[.sv 2 QI,.box pinned Q11,.ptr 0 pinned []]),(.ret,[.box pinned Q11])])],[],[]⟩
def a6N(s:(Int×Int×Int×a4R×b7I)):Option ((Int×Int×Int×a4R×b7I) ⊕ ((Int×a4R×b7I) ⊕ (Int×Int×b2H))):= cond (decide (s.2.2.1<s.2.1)) ((b0C (s.2.2.2.2.2.1,s.2.2.2.2.1.2.1)).bind fun y7=> cond (y7.2.1 != 0) (some (.inr (Sum.inr ((0,2,(0,0,(0,0,0,()),[],[],()),()))))) (cond (lim ((a02 s.2.2.2.2.1.2.2.2.2.1)+1)) (some (.inl (s.1,s.2.1,wrap .i64 (s.2.2.1+1),s.2.2.2.1,(s.2.2.2.2.1.1,s.2.2.2.2.1.2.1,s.2.2.2.2.1.2.2.1,s.2.2.2.2.1.2.2.2.1,a03 s.2.2.2.2.1.2.2.2.2.1 ([y7.1]:List Z93),s.2.2.2.2.1.2.2.2.2.2),y7.2.2,()))) none)) (some (.inr (Sum.inl (s.1,s.2.2.2.1,s.2.2.2.2.1,s.2.2.2.2.2.1,()))))
def a2D(x:(List Int)):Option (a4R×Int×Int):= (a2h x).bind fun y1=> cond (y1.2.2.2 != 0) (some ((0,0,(0,0,0,()),[],[],()),0,y1.2.2.2)) (cond (decide ((x.length:Int)<(wrap .i64 ((wrap .i64 (y1.2.1+y1.2.2.1))+2)))) (some ((0,0,(0,0,0,()),[],[],()),0,3)) (cond ((decide (0≤(wrap .i64 (y1.2.1+y1.2.2.1))))&&(decide ((wrap .i64 (y1.2.1+y1.2.2.1))≤(x.length:Int)))) ((a5k (a08 (a01 (wrap .i64 (y1.2.1+y1.2.2.1))) x)).bind fun y2=> (l0z x (wrap .i64 (y1.2.1+y1.2.2.1))).bind fun x3=> (l0z x (wrap .i64 ((wrap .i64 (y1.2.1+y1.2.2.1))+1))).bind fun x4=> cond (y2 != (bits .u16 .or (z0g .u16 (wrap .u16 x3) 8) (wrap .u16 x4))) (some ((0,0,(0,0,0,()),[],[],()),0,5)) (cond ((decide (0≤(wrap .i64 (y1.2.1+y1.2.2.1))))&&(decide ((wrap .i64 (y1.2.1+y1.2.2.1))≤(x.length:Int)))) (cond ((decide (0≤y1.2.1))&&(decide (y1.2.1≤((a01 (wrap .i64 (y1.2.1+y1.2.2.1)):Nat):Int)))) ((b1f (a31 (a01 y1.2.1) (a08 (a01 (wrap .i64 (y1.2.1+y1.2.2.1))) x))).bind fun y5=> (x0r a6N (wrap .i64 (y1.2.1+y1.2.2.1),y1.1.2.2.1.2.1,0,(0,0,(0,0,0,()),[],[],()),y1.1,y5,())).bind fun w8=> match w8 with |.inl a9=>((a2w a9.2.2.2.1).bind fun y11=> cond (decide (y11.1≥8)) (some ((0,0,(0,0,0,()),[],[],()),0,2)) ((a4n y11.2).bind fun y12=> (a0L y12).bind fun y13=> cond (y13.1 != 0) (some ((0,0,(0,0,0,()),[],[],()),0,2)) ((a3M a9.2.2.1).bind fun y14=> cond (!y14) (some ((0,0,(0,0,0,()),[],[],()),0,2)) (some (a9.2.2.1,wrap .i64 (a9.1+2),0))))) |.inr b10=>some (b10.2.2.1,b10.1,b10.2.1)) none) none)) none))
def a6W:FSem:=⟨[.v (.list false (.int .u8))],[.v Q49,.v QI,.v QI],a2D⟩
def H24:Hints:=⟨[(2042,[.sv 9 QI,.sv 59 QI,.sv 60 QI,.box 2 Q49,.box 5 Q48,.box 1056 Q11,.ptr 2 2 [],.ptr 5 5 [],.ptr 10 1056 []],[(.exit 0,[.sv 9 QI,.box 2 Q49,.box 5 Q48,.box 1056 Q11,.ptr 2 2 [],.ptr 5 5 [],.ptr 10 1056 []]),(.ret,[.sv 3 QI,.sv 4 QI,.box 2 Q49,.ptr 2 2 []])])],[],[(7,[.v,.v,.v,.v,.v,.v,.v,.v,.v,.v,.v,.v,.v,.v,.v,.v,.v,.x])]⟩
def a6X(x:(List Int)):Option (Z7×Int×Int×Int):= (a2h x).bind fun y1=> cond (y1.2.2.2 != 0) (some ((0,0,0,()),0,0,y1.2.2.2)) (some (y1.1.2.2.1,y1.1.1,y1.1.2.1,0))
def b4Q:FSem:=⟨[.v (.list false (.int .u8))],[.v Q8,.v QI,.v QI,.v QI],a6X⟩
def H26:Hints:=⟨[],[],[(4,[.q,.q,.r [6,23],.r [6,24],.r [6,25],.r [6,26],.w [0,2],.v,.x,.x])]⟩
def c6c:Hints:=⟨[(58,[.sv 0 (.list false Q3),.sv 1 (.list false Q3),.sv 5 QI],[(.exit 0,[]),(.ret,[.sv 4 .bool])])],[],[(6,[.v,.v,.v,.v,.v,.v,.v,.v,.x])]⟩
def b1F(x:(Z4×Z4)):Option Bool:=z0c (a7C [] [] [0,1,4,5] []) c6c Tryz.f100 [.v (.list false Q3),.v (.list false Q3)] [.v .bool] x
def b1G:FSem:=⟨[.v (.list false Q3),.v (.list false Q3)],[.v .bool],b1F⟩
def b3h(x:(Z5×Z5)):Option Bool:= cond (x.1.1==x.2.1) ((a6g (x.1.2.1,x.2.2.1)).bind fun y1=> some y1) (some false)
def b3i:FSem:=⟨[.v Q7,.v Q7],[.v .bool],b3h⟩
def d0A:Hints:=⟨[],[],[]⟩
def b8P(x:(Z93×Z93)):Option Bool:= cond (x.1.1==x.2.1) (cond (x.1.2.1==x.2.2.1) (cond (x.1.2.2.1==x.2.2.2.1) (cond (x.1.2.2.2.1==x.2.2.2.2.1) (cond (x.1.2.2.2.2.1==x.2.2.2.2.2.1) ((a6g (x.1.2.2.2.2.2.1,x.2.2.2.2.2.2.1)).bind fun y1=> cond y1 (cond (eqT (.arr 3 (.int .i64)) x.1.2.2.2.2.2.2.1 x.2.2.2.2.2.2.2.1) ((b1F (x.1.2.2.2.2.2.2.2.1,x.2.2.2.2.2.2.2.2.1)).bind fun y2=> cond y2 ((a6g (x.1.2.2.2.2.2.2.2.2.1,x.2.2.2.2.2.2.2.2.2.1)).bind fun y3=> cond y3 ((b3h (x.1.2.2.2.2.2.2.2.2.2.1,x.2.2.2.2.2.2.2.2.2.2.1)).bind fun y4=> cond y4 ((a6g (x.1.2.2.2.2.2.2.2.2.2.2.1,x.2.2.2.2.2.2.2.2.2.2.2.1)).bind fun y5=> some y5) (some false)) (some false)) (some false)) (some false)) (some false)) (some false)) (some false)) (some false)) (some false)) (some false)
def b0U:FSem:=⟨[.v Q31,.v Q31],[.v .bool],b8P⟩
def H42:Hints:=⟨[],[],[]⟩
def H76:Hints:=⟨[(58,[.sv 0 (.list false Q8),.sv 1 (.list false Q8),.sv 5 QI],[(.exit 0,[]),(.ret,[.sv 4 .bool])])],[],[(6,[.v,.v,.v,.v,.v,.v,.v,.v,.x])]⟩
def b6I(x:(Z14×Z14)):Option Bool:=z0c (a7C [] [] [0,1,4,5] []) H76 Tryz.f76 [.v (.list false Q8),.v (.list false Q8)] [.v .bool] x
def a8L:FSem:=⟨[.v (.list false Q8),.v (.list false Q8)],[.v .bool],b6I⟩
def H28:Hints:=⟨[(58,[.sv 5 QI,.vp 2 Q49,.vp 3 Q49],[(.exit 0,[]),(.ret,[.sv 4 .bool])])],[(6,[(.normal,[.sv 41 .bool,.vp 2 Q49,.vp 3 Q49])])],[(6,[.v,.v,.v,.v,.v,.v,.v,.v,.v,.v,.x,.x])]⟩
def b2m(x:(a4R×a4R)):Option Bool:=z0c (a7C [(42,b0U),(76,a8L)] [] [0,1,4,5] [2,3]) H28 Tryz.f28 [.v Q49,.v Q49] [.v .bool] x
def b2n:FSem:=⟨[.v Q49,.v Q49],[.v .bool],b2m⟩
def a5L(s:Z53):Option (Z53 ⊕ Z42):= cond (decide (s.2.2.2.1<s.2.2.1)) ((l0z s.2.1 s.2.2.2.1).bind fun x2=> (show Option (Int×(Int×((List Int)×(Int×Int×Z8))))from(a4y x2).bind fun y3=> cond (!y3) (some (s.1,x2,s.2.1,s.2.2.1,s.2.2.2.1,true,s.2.2.2.2.1,())) (cond (decide (s.1<0)) none (cond ((z0g .i64 1 s.1)==0) none (some (s.1,x2,s.2.1,s.2.2.1,s.2.2.2.1,(a16 x2 (z0g .i64 1 s.1)) != 0,s.2.2.2.2.1,()))))).bind fun z4=> cond z4.2.2.2.2.2.1 (some (.inr (Sum.inr ((6,[],()))))) (cond (decide (z4.1<0)) none (cond (lim ((a02 z4.2.2.2.2.2.2.1)+1)) (some (.inl (z4.1,z4.2.2.1,z4.2.2.2.1,wrap .i64 (z4.2.2.2.2.1+1),a03 z4.2.2.2.2.2.2.1 [z0h .i64 z4.2.1 z4.1],()))) none))) (some (.inr (Sum.inl (s.2.2.2.2.1,()))))
def a6j(x:((List Int)×Int)):Option ((List Int)×Int):= (show Option Z18 from cond (decide (x.2<0)) (some (x.1,x.2,true,())) (some (x.1,x.2,decide (x.2 > 30),()))).bind fun z1=> cond z1.2.2.1 (some ([],1)) ((x0r a5L (z1.2.1,z1.1,(z1.1.length:Int),0,[],())).bind fun w5=> match w5 with |.inl a6=>some (a6.1,0) |.inr b7=>some (b7.2.1,b7.1))
def b0V:FSem:=⟨[.v QL,.v QI],[.o QI,.v QI],a6j⟩
def H91:Hints:=⟨[(122,[.sv 1 QI,.sv 15 QL,.sv 16 QI,.sv 17 QI,.own 6 6 QI],[(.exit 0,[.own 6 6 QI]),(.ret,[.sv 5 QI,.own 4 4 QI])])],[(6,[(.normal,[.sv 0 QL,.sv 1 QI,.sv 14 .bool])]),(15666,[(.normal,[.sv 1 QI,.sv 8 QI,.sv 15 QL,.sv 16 QI,.sv 17 QI,.sv 30 .bool,.own 6 6 QI])])],[]⟩
def a1z(x:Int):Option Int:= cond (x==0) (some 64) ((l0z a9w (z0h .u64 (wrap .u64 ((bits .u64 .and x (wrap .u64 (0-x)))*285870213051353865)) 58)).bind fun x1=> some (wrap .i64 x1))
def a1g:FSem:=⟨[.v (.int .u64)],[.v QI],a1z⟩
def b7J:Hints:=⟨[],[],[]⟩
def a8M:Cx:=a7C [] [] [0,2] []
theorem b5J{ρ:Type}{cx:Cx}{ops:List Oper}:∀(l1 l2:List (Md×Oper)) (Γ:AE) (K:AE→Rs ρ),h0h cx ops (l1++l2) Γ K=h0h cx ops l1 Γ fun Γ'=>h0h cx ops l2 Γ' K
 | [],_,_,_=>rfl
 |(md,o)::l1,l2,Γ,K=>by
  simp only[a17,h0h];congr 1;funext Γ';exact b5J l1 l2 Γ' K
theorem b4R{ρ:Type}{cx:Cx}{H:Hints}{a b:Code}{p:Nat}(h:find H.cuts p=none)(Γ:AE)(K:Ex→AE→Rs ρ):c0m cx H (.seq a b) p Γ K=c0m cx H a (2*p) Γ fun e Γ'=>match e with
   |.normal=>c0m cx H b (2*p+1) Γ' K
   |e=>K e Γ':=by
 simp only[c0m,h];rfl
theorem b9n{ρ:Type}{cx:Cx}{H:Hints}{id:Nat}{ops:Array Oper}{p:Nat}(Γ:AE)(K:Ex→AE→Rs ρ):c0m cx H (.region id ops false) p Γ K=h0h cx ops.toList (ops.toList.map fun o=>(.x,o)) Γ fun Γ'=>K .normal Γ':=by
 simp only[c0m,cF]
def a8p:Code:=match Tryz.f174.body with
 |some c=>c
 |none=>.skip
def b7K:Code→Code
 |.seq a _=>a
 |c=>c
def c1S:Code→Code
 |.seq _ b=>b
 |c=>c
def c3a:Code→Array Oper
 |.region _ ops _=>ops
 |_=>#[]
def c1t:Code:=c1S (c1S a8p)
def b1H:List Oper:=(c3a (b7K c1t)).toList
def Γ174(x:Int):AE:=(((ini [.v (.int .u64)] x).set 2 (.val QI (0:Int))).set 3 (.val (.int .u64) x)).set 4 (.val .bool (x==(0:Int)))
def Γ174r(x:Int):AE:=(Γ174 x).set 2 (.val QI (64:Int))
def b9o(e:Ex)(Γ:AE):Option Int:=match e,Γ.pd with
  |.exit _,_=>none
  |_,some _=>none
  |_,none=>(Γ.upto Tryz.f174.ntmps).outs a8M [] Tryz.f174.ntmps [.v QI] (Tryz.f174.results.toList.map .inl) fun y _=>some y
def Γ174b(x a b c i:Int):AE:=((((((Γ174 x).set 5 (.val (.int .u64) x)).set 6 (.val (.int .u64) x)).set 7 (.val (.int .u64) a)).set 8 (.val (.int .u64) b)).set 9 (.val (.int .u64) c)).set 10 (.val (.int .u64) i)
set_option maxRecDepth 100000
theorem c3V:a8p=.seq (b7K a8p) (.seq (b7K (c1S a8p)) (.seq (.region 3 (c3a (b7K c1t)) false) .ret)):=by kernel_rfl
theorem c5w(x:Int):z0c a8M b7J Tryz.f174 a1g.ps a1g.rs x=c0m a8M b7J a8p 1 (ini [.v (.int .u64)] x) b9o:=rfl
theorem c5x(x:Int)(K:Ex→AE→Option Int):c0m a8M b7J (b7K a8p) 2 (ini [.v (.int .u64)] x) K=K .normal ((ini [.v (.int .u64)] x).set 2 (.val (.int .i64) (0:Int))):=by kernel_rfl
theorem c5y(x:Int)(K:Ex→AE→Option Int):c0m a8M b7J (b7K (c1S a8p)) 6 ((ini [.v (.int .u64)] x).set 2 (.val (.int .i64) (0:Int))) K=bif x==(0:Int)then K .ret (Γ174r x)else K .normal (Γ174 x):=by kernel_rfl
theorem c5z(x:Int):b9o .ret (Γ174r x)=some (64:Int):=by kernel_rfl
theorem c5A(x:Int)(K:AE→Option Int):h0h a8M b1H ((b1H.map fun o=>(Md.x,o)).take 6) (Γ174 x) K =
  K (Γ174b x (wrap .u64 (0-x)) (bits .u64 .and x (wrap .u64 (0-x))) (wrap .u64 ((bits .u64 .and x (wrap .u64 (0-x)))*(285870213051353865:Int))) (z0h .u64 (wrap .u64 ((bits .u64 .and x (wrap .u64 (0-x)))*(285870213051353865:Int))) (58:Int))):=by kernel_rfl
theorem c5B(x a b c i:Int):h0h a8M b1H ((b1H.map fun o=>(Md.x,o)).drop 6) (Γ174b x a b c i) (fun Γ=>b9o .ret Γ)=(l0z a9w i).bind fun h=>some (wrap .i64 h):=by kernel_rfl
theorem c5C(x:Int):h0h a8M b1H (b1H.map fun o=>(Md.x,o)) (Γ174 x) (fun Γ=>b9o .ret Γ)=(l0z a9w (z0h .u64 (wrap .u64 ((bits .u64 .and x (wrap .u64 (0-x)))*(285870213051353865:Int))) (58:Int))).bind fun h=>some (wrap .i64 h):=by
 rw[←List.take_append_drop 6 (b1H.map fun o=>(Md.x,o)),b5J,c5A,c5B]
theorem c6d(x:Int):c0m a8M b7J a8p 1 (ini [.v (.int .u64)] x) b9o=a1z x:=by
 rw[c3V,b4R rfl,c5x];simp only[];rw[b4R rfl,c5y];simp only[];rw[b4R rfl,b9n];simp only[c0m];rw[c5z];exact congrArg (fun z=>bif x==(0:Int)then some (64:Int)else z) (c5C x)
theorem c6P(x):z0c a8M b7J Tryz.f174 a1g.ps a1g.rs x=a1g.F x:=(c5w x).trans (c6d x)
def a4H(s:Z27):Option Z58:= cond (decide (s.2.2.2.1<s.2.2.1)) ((l0z s.2.1 s.2.2.2.1).bind fun x1=> some (.inl (bits .i64 .or s.1 x1,s.2.1,s.2.2.1,wrap .i64 (s.2.2.2.1+1),()))) (some (.inr (s.1,())))
def a3o(x:(List Int)):Option Int:= (x0r a4H (0,x,(x.length:Int),0,())).bind fun w2=> cond (w2.1==0) (some 0) ((a1z (wrap .u64 w2.1)).bind fun y3=> some (v0a y3 30))
def a8N:FSem:=⟨[.v QL],[.v QI],a3o⟩
def H92:Hints:=⟨[(58,[.sv 3 QI,.sv 6 QL,.sv 7 QI,.sv 8 QI],[(.exit 0,[.sv 3 QI])])],[],[]⟩
def a4I(s:Z30):Option (Z30 ⊕ Z16):= cond (decide ((wrap .i64 (s.1+1))<(s.2.2.2.1.length:Int))) (cond ((decide (0≤(wrap .i64 (s.1+1))))&&(decide ((wrap .i64 (s.1+1))<(s.2.2.2.1.length:Int)))) (cond ((decide (0≤s.1))&&(decide (s.1<(s.2.2.2.1.length:Int)))) (cond ((decide (0≤s.1))&&(decide (s.1<(s.2.2.2.1.length:Int)))) (some (.inl (wrap .i64 (s.1+1),s.2.1,s.2.2.1,a26 s.2.2.2.1 (a01 s.1) (wrap .i64 ((a04 s.2.2.2.1 (a01 (wrap .i64 (s.1+1))) 0)-(a04 s.2.2.2.1 (a01 s.1) 0))),()))) none) none) none) (some (.inr (s.2.1,s.2.2.1,s.2.2.2.1,())))
def a6O(s:Z16):Option (Z16 ⊕ ((List Int)×Unit)):= cond (decide (s.2.1<s.1)) ((x0r a4I (0,s.1,s.2.1,s.2.2.1,())).bind fun w3=> cond ((decide (0≤(wrap .i64 ((w3.2.2.1.length:Int)-1))))&&(decide ((wrap .i64 ((w3.2.2.1.length:Int)-1))≤(w3.2.2.1.length:Int)))) (cond (decide ((a01 (wrap .i64 ((w3.2.2.1.length:Int)-1)))≤(a02 w3.2.2.1))) (some (.inl (w3.1,wrap .i64 (w3.2.1+1),a08 (a01 (wrap .i64 ((w3.2.2.1.length:Int)-1))) w3.2.2.1,()))) none) none) (some (.inr (s.2.2.1,())))
def a4e(x:((List Int)×Int)):Option ((List Int)×Int):= (show Option Z18 from cond (decide (x.2<0)) (some (x.1,x.2,true,())) (cond (decide (x.2 > 4)) (some (x.1,x.2,true,())) (some (x.1,x.2,decide ((x.1.length:Int)<x.2),())))).bind fun z1=> cond z1.2.2.1 (some ([],1)) ((a2o z1.1).bind fun y2=> cond (!y2) (some ([],6)) (cond (lim (a02 z1.1)) ((x0r a6O (z1.2.1,0,z1.1,())).bind fun w4=> (a2o w4.1).bind fun y5=> cond (!y5) (some ([],6)) (some (w4.1,0))) none))
def b1I:FSem:=⟨[.v QL,.v QI],[.o QI,.v QI],a4e⟩
def d0B:Hints:=⟨[(250,[.sv 25 QI,.sv 26 QI,.own 6 6 QI],[(.exit 0,[.own 6 6 QI])]),(64098,[.sv 7 QI,.sv 25 QI,.sv 26 QI,.own 6 6 QI],[(.exit 2,[.sv 25 QI,.sv 26 QI,.own 6 6 QI])])],[(6,[(.normal,[.sv 0 QL,.sv 1 QI,.sv 19 .bool])])],[(11,[.q,.v,.q,.v,.v,.q,.q,.q,.v,.q,.q,.v,.x,.x])]⟩
def a4f(s:((List Int)×Z37)):Option (((List Int)×Z37) ⊕ Z42):= cond (decide (s.2.2.2.1<(s.1.length:Int))) ((l0z s.1 s.2.2.2.1).bind fun x4=> cond ((decide (0≤s.2.2.2.1))&&(decide (s.2.2.2.1≤(s.1.length:Int)))) ((a4a (a08 (a01 s.2.2.2.1) s.1,s.2.1,s.2.2.1)).bind fun y5=> (a4x (wrap .i64 (x4-y5))).bind fun y6=> cond (!y6) (some (.inr (Sum.inr ((6,[],()))))) (cond (lim ((a02 s.2.2.2.2.1)+1)) (some (.inl (s.1,s.2.1,s.2.2.1,wrap .i64 (s.2.2.2.1+1),a03 s.2.2.2.2.1 [wrap .i64 (x4-y5)],()))) none)) none) (some (.inr (Sum.inl (s.2.2.2.2.1,()))))
def a6k(x:Z10):Option ((List Int)×Int):= (show Option Z43 from(a3Y (x.2.1,x.2.2)).bind fun y1=> cond (!y1) (some (x.1,x.2.1,x.2.2,true,())) (some (x.1,x.2.1,x.2.2,decide ((x.1.length:Int)<(x.2.1.length:Int)),()))).bind fun z2=> cond z2.2.2.2.1 (some ([],1)) ((a2u z2.1).bind fun y3=> cond (!y3) (some ([],6)) (cond ((decide (0≤(wrap .i64 ((z2.1.length:Int)-(z2.2.1.length:Int)))))&&(lim (a01 (wrap .i64 ((z2.1.length:Int)-(z2.2.1.length:Int)))))) ((x0r a4f (z2.1,z2.2.1,z2.2.2.1,(z2.2.1.length:Int),[],())).bind fun w7=> match w7 with |.inl a8=>some (a8.1,0) |.inr b9=>some (b9.2.1,b9.1)) none))
def b4y:FSem:=⟨[.v QL,.v QL,.v QI],[.o QI,.v QI],a6k⟩
def d0C:Hints:=⟨[(250,[.sv 0 QL,.sv 1 QL,.sv 2 QI,.sv 9 QI,.own 8 8 QI],[(.exit 0,[.own 8 8 QI]),(.ret,[.sv 7 QI,.own 6 6 QI])])],[(6,[(.normal,[.sv 0 QL,.sv 1 QL,.sv 2 QI,.sv 21 .bool])])],[(9,[.v,.v,.v,.v,.v,.v,.v,.v,.v,.v,.x,.x])]⟩
def a5l(s:((List Int)×Z74)):Option (((List Int)×Z74) ⊕ Z42):= cond (decide (s.2.2.2.2.1<s.2.2.2.1)) ((l0z s.2.2.1 s.2.2.2.2.1).bind fun x3=> (a3Q (s.1,s.2.2.2.2.1,s.2.1,s.2.2.2.2.2.2.1)).bind fun y4=> (a6t (wrap .i64 (x3-y4))).bind fun y5=> cond (!y5) (some (.inr (Sum.inr ((6,[],()))))) (cond (lim ((a02 s.2.2.2.2.2.1)+1)) (some (.inl (s.1,s.2.1,s.2.2.1,s.2.2.2.1,wrap .i64 (s.2.2.2.2.1+1),a03 s.2.2.2.2.2.1 [wrap .i64 (x3-y4)],s.2.2.2.2.2.2.1,()))) none)) (some (.inr (Sum.inl (s.2.2.2.2.2.1,()))))
def a7Q(x:((List Int)×(Int×(List Int)))):Option ((List Int)×Int):= (a7i (x.2.1,x.2.2)).bind fun y1=> cond (!y1) (some ([],1)) ((a3P x.1).bind fun y2=> cond (!y2) (some ([],6)) (cond ((decide (0≤(x.1.length:Int)))&&(lim (a01 (x.1.length:Int)))) ((x0r a5l (x.1,x.2.1,x.1,(x.1.length:Int),0,[],x.2.2,())).bind fun w6=> match w6 with |.inl a7=>some (a7.1,0) |.inr b8=>some (b8.2.1,b8.1)) none))
def a7R:FSem:=⟨[.v QL,.v QI,.v (.arr 3 QI)],[.o QI,.v QI],a7Q⟩
def d0D:Hints:=⟨[(250,[.sv 0 QL,.sv 1 QI,.sv 22 QL,.sv 23 QI,.sv 24 QI,.own 8 8 QI,.vp 5 (.arr 3 QI)],[(.exit 0,[.own 8 8 QI]),(.ret,[.sv 7 QI,.own 6 6 QI])])],[],[]⟩
def a4J(s:(Z4×Int×Int×Int×Z75)):Option ((Z4×Int×Int×Int×Z75) ⊕ ((Z4×Z16) ⊕ Z5)):= cond (decide (s.2.2.2.2.1<s.2.2.2.1)) (cond ((decide (0≤s.2.2.2.2.1))&&(decide (s.2.2.2.2.1<(s.2.2.2.2.2.1.length:Int)))) ((a1V s.2.2.2.2.2.2.1).bind fun y6=> (a5j (wrap .i64 ((a04 s.2.2.2.2.2.1 (a01 s.2.2.2.2.1) 0)-y6.1))).bind fun y7=> cond (!y7) (some (.inr (Sum.inr ((6,[],()))))) ((a2S (y6.2,a04 s.2.2.2.2.2.1 (a01 s.2.2.2.2.1) 0)).bind fun y8=> cond ((decide (0≤s.2.2.2.2.1))&&(decide (s.2.2.2.2.1<(s.2.2.2.2.2.1.length:Int)))) (some (.inl (s.1,s.2.1,s.2.2.1,s.2.2.2.1,wrap .i64 (s.2.2.2.2.1+1),a26 s.2.2.2.2.2.1 (a01 s.2.2.2.2.1) (wrap .i64 ((a04 s.2.2.2.2.2.1 (a01 s.2.2.2.2.1) 0)-y6.1)),y8,()))) none)) none) (some (.inr (Sum.inl (s.1,s.2.1,s.2.2.1,s.2.2.2.2.2.1,()))))
def a4K(s:(Z4×Z16)):Option ((Z4×Z16) ⊕ Z42):= cond (decide (s.2.2.1<s.2.1)) ((l0z s.1 s.2.2.1).bind fun x4=> (a7L x4).bind fun y5=> cond (y5.2 != 0) (some (.inr (Sum.inr ((y5.2,[],()))))) ((x0r a4J (s.1,s.2.1,s.2.2.1,(s.2.2.2.1.length:Int),0,s.2.2.2.1,y5.1,())).bind fun w9=> match w9 with |.inl a10=>some (.inl (a10.1,a10.2.1,wrap .i64 (a10.2.2.1+1),a10.2.2.2.1,())) |.inr b11=>some (.inr (Sum.inr ((b11.1,b11.2.1,())))))) (some (.inr (Sum.inl (s.2.2.2.1,()))))
def a8O(x:((List Int)×Z4)):Option ((List Int)×Int):= (a6r x.2).bind fun y1=> cond (!y1) (some ([],1)) ((a4C x.1).bind fun y2=> cond (!y2) (some ([],6)) ((a1d x.1).bind fun y3=> (x0r a4K (x.2,(x.2.length:Int),0,y3,())).bind fun w12=> match w12 with |.inl a13=>some (a13.1,0) |.inr b14=>some (b14.2.1,b14.1)))
def b4S:FSem:=⟨[.v QL,.v (.list false Q3)],[.o QI,.v QI],a8O⟩
def d0E:Hints:=⟨[(250,[.sv 22 (.list false Q3),.sv 23 QI,.sv 24 QI,.own 6 6 QI],[(.exit 0,[.own 6 6 QI]),(.ret,[.sv 5 QI,.own 4 4 QI])]),(256414,[.sv 22 (.list false Q3),.sv 23 QI,.sv 24 QI,.sv 37 QI,.sv 38 QI,.own 6 6 QI,.box 1030 Q12,.ptr 9 1030 [],.ref 36 6 []],[(.exit 2,[.sv 22 (.list false Q3),.sv 23 QI,.sv 24 QI,.own 6 6 QI]),(.ret,[.sv 5 QI,.own 4 4 QI])])],[],[]⟩
def a9M(x:(Z93×(List Int))):Option (Int×Z93):= (show Option ((List Int)×((List Int)×(Int×Z96)))from cond (x.1.1==2) ((a4e (x.2,x.1.2.2.1)).bind fun y1=> some (x.2,y1.1,y1.2,x.1,())) (cond (x.1.1==3) ((a6k (x.2,x.1.2.2.2.2.2.1,x.1.2.2.2.1)).bind fun y2=> some (x.2,y2.1,y2.2,x.1,())) (cond (x.1.1==4) ((a7Q (x.2,x.1.2.2.2.2.1,x.1.2.2.2.2.2.2.1)).bind fun y3=> cond (y3.2==0) ((a6k (y3.1,x.1.2.2.2.2.2.1,x.1.2.2.2.1)).bind fun y4=> some (y3.1,y4.1,y4.2,x.1,())) (some (y3.1,[],y3.2,x.1,()))) (cond (x.1.1==5) ((a8O (x.2,x.1.2.2.2.2.2.2.2.1)).bind fun y5=> some (x.2,y5.1,y5.2,x.1,())) (some (x.2,[],0,x.1,())))))).bind fun z6=> cond (z6.2.2.1 != 0) (some (z6.2.2.1,z6.2.2.2.1)) ((a3Z (z6.2.2.2.1,(z6.1.length:Int))).bind fun y7=> cond ((decide (0≤y7))&&(decide (y7≤(z6.1.length:Int)))) ((a1d (a08 (a01 y7) z6.1)).bind fun y8=> some (0,z6.2.2.2.1.1,z6.2.2.2.1.2.1,z6.2.2.2.1.2.2.1,z6.2.2.2.1.2.2.2.1,z6.2.2.2.1.2.2.2.2.1,z6.2.2.2.1.2.2.2.2.2.1,z6.2.2.2.1.2.2.2.2.2.2.1,z6.2.2.2.1.2.2.2.2.2.2.2.1,y8,z6.2.2.2.1.2.2.2.2.2.2.2.2.2.1,z6.2.1,z6.2.2.2.1.2.2.2.2.2.2.2.2.2.2.2)) none)
def b5K:FSem:=⟨[.r false (.b Q31),.v QL],[.v QI],a9M⟩
def d0F:Hints:=⟨[],[(15,[(.normal,[.sv 1 QL,.sv 5 QL,.sv 6 QI,.box pinned Q31,.ptr 0 pinned []])])],[(7,[.v,.p,.p,.q,.q,.p,.p,.q,.q,.x,.x,.q,.q,.q,.x]),(9,[.v,.p,.p,.q,.q,.p,.p,.q,.q,.x,.x,.q,.q,.q,.x]),(11,[.q,.p,.p,.q,.q,.p,.p,.q,.q,.x,.x,.q,.q,.q,.x])]⟩
def a7u(s:Z29):Option (Z29 ⊕ (Int×Unit)):= cond (decide (s.2.2.2.1≤25)) ((a2Z (s.2.2.2.1,s.1)).bind fun y2=> cond (decide (y2<s.2.2.1)) (some (.inl (s.1,s.2.2.2.1,y2,wrap .i64 (s.2.2.2.1+1),()))) (some (.inl (s.1,s.2.1,s.2.2.1,wrap .i64 (s.2.2.2.1+1),())))) (some (.inr (s.2.1,())))
def a9N(x:(List Int)):Option Int:= (a2Z (0,x)).bind fun y1=> (x0r a7u (x,0,y1,1,())).bind fun w3=> some w3.1
def b5L:FSem:=⟨[.v QL],[.v QI],a9N⟩
def d0G:Hints:=⟨[(58,[.sv 0 QL,.sv 3 QI,.sv 4 QI,.sv 5 QI],[(.exit 0,[.sv 3 QI])])],[],[]⟩
def a7v(x:(List Int)):Option Int:= (a9N x).bind fun y1=> (a4T x).bind fun y2=> (a2Z (y1,x)).bind fun y3=> cond (decide (y2<y3)) (some 31) (some y1)
def b3j:FSem:=⟨[.v QL],[.v QI],a7v⟩
def d0H:Hints:=⟨[],[],[]⟩
def a6P(s:(Int×(Int×(Int×((List Int)×(Int×(Int×((List Int)×(Int×(Int×((List Int)×Z85))))))))))):Option ((Int×(Int×(Int×((List Int)×(Int×(Int×((List Int)×(Int×(Int×((List Int)×Z85)))))))))) ⊕ (Int×(Int×(Int×((List Int)×(Int×Int×Z85)))))):= cond (decide (s.2.2.2.2.2.2.2.2.1<s.2.2.2.2.2.2.2.1)) (cond ((decide (0≤s.2.2.2.2.2.2.2.2.1))&&(decide (s.2.2.2.2.2.2.2.2.1<(s.2.2.2.2.2.2.2.2.2.1.length:Int)))) (cond ((decide (0≤(a04 s.2.2.2.2.2.2.2.2.2.1 (a01 s.2.2.2.2.2.2.2.2.1) 0)))&&(decide ((a04 s.2.2.2.2.2.2.2.2.2.1 (a01 s.2.2.2.2.2.2.2.2.1) 0)≤(s.2.2.2.2.2.2.1.length:Int)))) ((a7v (a08 (a01 (a04 s.2.2.2.2.2.2.2.2.2.1 (a01 s.2.2.2.2.2.2.2.2.1) 0)) s.2.2.2.2.2.2.1)).bind fun y3=> cond (lim ((a02 s.2.2.2.2.2.2.2.2.2.2.2.2.1.2.1)+1)) (cond ((decide (0≤(a04 s.2.2.2.2.2.2.2.2.2.1 (a01 s.2.2.2.2.2.2.2.2.1) 0)))&&(decide ((a04 s.2.2.2.2.2.2.2.2.2.1 (a01 s.2.2.2.2.2.2.2.2.1) 0)≤(s.2.2.2.2.2.2.1.length:Int)))) (some (.inl (s.1,s.2.1,s.2.2.1,s.2.2.2.1,s.2.2.2.2.1,s.2.2.2.2.2.1,a31 (a01 (a04 s.2.2.2.2.2.2.2.2.2.1 (a01 s.2.2.2.2.2.2.2.2.1) 0)) (a08 (a02 s.2.2.2.2.2.2.1) s.2.2.2.2.2.2.1),s.2.2.2.2.2.2.2.1,wrap .i64 (s.2.2.2.2.2.2.2.2.1+1),s.2.2.2.2.2.2.2.2.2.1,s.2.2.2.2.2.2.2.2.2.2.1,s.2.2.2.2.2.2.2.2.2.2.2.1,(s.2.2.2.2.2.2.2.2.2.2.2.2.1.1,a03 s.2.2.2.2.2.2.2.2.2.2.2.2.1.2.1 [y3],s.2.2.2.2.2.2.2.2.2.2.2.2.1.2.2),()))) none) none) none) none) (some (.inr (s.1,s.2.1,s.2.2.1,s.2.2.2.1,s.2.2.2.2.1,s.2.2.2.2.2.1,s.2.2.2.2.2.2.2.2.2.2.1,s.2.2.2.2.2.2.2.2.2.2.2.1,s.2.2.2.2.2.2.2.2.2.2.2.2.1,())))
def a3p(s:(Int×(Int×(Int×((List Int)×(Int×Int×Z73)))))):Option ((Int×(Int×(Int×((List Int)×(Int×Int×Z73))))) ⊕ Z73):= cond (decide (s.2.2.2.2.2.1≤(v0a (u0z s.2.2.1 0) 8))) ((a2L (s.2.2.2.2.2.1,s.1,s.2.1)).bind fun y2=> cond ((y2.length:Int)==0) (some (.inl (s.1,s.2.1,s.2.2.1,s.2.2.2.1,s.2.2.2.2.1,wrap .i64 (s.2.2.2.2.2.1+1),s.2.2.2.2.2.2.1,s.2.2.2.2.2.2.2.1,()))) ((x0r a6P (s.1,s.2.1,s.2.2.1,s.2.2.2.1,s.2.2.2.2.1,s.2.2.2.2.2.1,s.2.2.2.1,(y2.length:Int),0,y2,s.2.2.2.2.2.2.1,s.2.2.2.2.2.2.2.1,(s.2.2.2.2.2.1,[],()),())).bind fun w4=> (a4c (w4.2.2.2.2.2.2.2.2.1,w4.1,w4.2.1,w4.2.2.2.1)).bind fun y5=> (show Option (Int×(Int×(Int×((List Int)×(Int×Int×Int×Bool×Z85)))))from cond (w4.2.2.2.2.1==0) (some (w4.1,w4.2.1,w4.2.2.1,w4.2.2.2.1,w4.2.2.2.2.1,w4.2.2.2.2.2.1,y5,true,w4.2.2.2.2.2.2.1,w4.2.2.2.2.2.2.2.1,w4.2.2.2.2.2.2.2.2.1,())) (some (w4.1,w4.2.1,w4.2.2.1,w4.2.2.2.1,w4.2.2.2.2.1,w4.2.2.2.2.2.1,y5,decide (y5<w4.2.2.2.2.1),w4.2.2.2.2.2.2.1,w4.2.2.2.2.2.2.2.1,w4.2.2.2.2.2.2.2.2.1,()))).bind fun z6=> cond z6.2.2.2.2.2.2.2.1 (some (.inl (z6.1,z6.2.1,z6.2.2.1,z6.2.2.2.1,z6.2.2.2.2.2.2.1,wrap .i64 (z6.2.2.2.2.2.1+1),z6.2.2.2.2.2.2.2.2.1,z6.2.2.2.2.2.2.2.2.2.2.1,()))) (some (.inl (z6.1,z6.2.1,z6.2.2.1,z6.2.2.2.1,z6.2.2.2.2.1,wrap .i64 (z6.2.2.2.2.2.1+1),z6.2.2.2.2.2.2.2.2.1,z6.2.2.2.2.2.2.2.2.2.1,()))))) (some (.inr (s.2.2.2.2.2.2.1,s.2.2.2.2.2.2.2.1,())))
def a8P(x:(Int×Z1)):Option (Z5×Int):= (a6e (x.1,x.2.1,x.2.2.2)).bind fun y1=> cond (!y1) (some ((0,[],()),1)) ((x0r a3p (x.1,x.2.1,x.2.2.1,x.2.2.2,0,0,(0,[],()),(0,[],()),())).bind fun w7=> some (w7.2.1,0))
def b4T:FSem:=⟨[.v QI,.v QI,.v QI,.v QL],[.v Q7,.v QI],a8P⟩
def d0I:Hints:=⟨[(250,[.sv 0 QI,.sv 1 QI,.sv 2 QI,.sv 3 QL,.sv 11 QI,.sv 12 QI,.box 8 Q7,.box 10 Q7,.ptr 8 8 [],.ptr 10 10 []],[(.exit 0,[.box 8 Q7,.box 10 Q7,.ptr 8 8 [],.ptr 10 10 []])]),(512634,[.sv 0 QI,.sv 1 QI,.sv 2 QI,.sv 3 QL,.sv 11 QI,.sv 12 QI,.sv 15 QL,.sv 43 QI,.sv 44 QI,.own 42 13 QI,.box 8 Q7,.box 10 Q7,.box 14 Q6,.ptr 8 8 [],.ptr 10 10 [],.ptr 14 14 []],[(.exit 2,[.sv 0 QI,.sv 1 QI,.sv 2 QI,.sv 3 QL,.sv 11 QI,.sv 12 QI,.box 8 Q7,.box 10 Q7,.box 14 Q6,.ptr 8 8 [],.ptr 10 10 [],.ptr 14 14 []])])],[(256319,[(.normal,[.sv 0 QI,.sv 1 QI,.sv 2 QI,.sv 3 QL,.sv 11 QI,.sv 12 QI,.sv 18 QI,.sv 72 .bool,.box 8 Q7,.box 10 Q7,.box 14 Q7,.ptr 8 8 [],.ptr 10 10 [],.ptr 14 14 []])])],[(15,[.q,.q,.v,.v,.v,.v,.q,.x,.x,.x])]⟩
def a4z(s:((List Int)×((List Int)×c1Q))):Option (((List Int)×((List Int)×c1Q)) ⊕ (((List Int)×b0J) ⊕ (Int×Z96))):= cond (decide (s.2.2.2.1<s.2.2.1)) ((l0z s.2.1 s.2.2.2.1).bind fun x5=> (l0z s.1 0).bind fun x6=> cond (x5 != x6) (some (.inr (Sum.inr ((7,(0,0,0,0,0,[],a00 3 0,[],[],(0,[],()),[],()),()))))) (some (.inl (s.1,s.2.1,s.2.2.1,wrap .i64 (s.2.2.2.1+1),s.2.2.2.2.1,s.2.2.2.2.2.1,())))) (some (.inr (Sum.inl (s.1,s.2.2.2.2.1,s.2.2.2.2.2.1,()))))
def b1i(x:(Int×((List Int)×Z93))):Option Z95:= (show Option (Int×((List Int)×(Int×Bool×b0J)))from cond (decide ((x.2.1.length:Int)<1)) (some (x.1,x.2.1,(x.2.1.length:Int),true,(0,0,0,0,0,[],a00 3 0,[],[],(0,[],()),[],()),x.2.2,())) (cond (decide ((x.2.1.length:Int) > 4096)) (some (x.1,x.2.1,(x.2.1.length:Int),true,(0,0,0,0,0,[],a00 3 0,[],[],(0,[],()),[],()),x.2.2,())) ((a6R (x.1,x.2.2,(x.2.1.length:Int))).bind fun y1=> some (x.1,x.2.1,(x.2.1.length:Int),!y1,(0,0,0,0,0,[],a00 3 0,[],[],(0,[],()),[],()),x.2.2,())))).bind fun z2=> cond z2.2.2.2.1 (some ((0,0,0,0,0,[],a00 3 0,[],[],(0,[],()),[],()),1)) ((a1T z2.2.1).bind fun y3=> cond (!y3) (some ((0,0,0,0,0,[],a00 3 0,[],[],(0,[],()),[],()),6)) ((a5i (z2.1,z2.2.2.2.2.2.1)).bind fun y4=> cond (z2.1==0) ((x0r a4z (z2.2.1,z2.2.1,(z2.2.1.length:Int),0,z2.2.2.2.2.1,y4,())).bind fun w7=> match w7 with |.inl a8=>((l0z a8.1 0).bind fun x10=> some ((a8.2.2.1.1,a8.2.2.1.2.1,a8.2.2.1.2.2.1,a8.2.2.1.2.2.2.1,a8.2.2.1.2.2.2.2.1,a8.2.2.1.2.2.2.2.2.1,a8.2.2.1.2.2.2.2.2.2.1,a8.2.2.1.2.2.2.2.2.2.2.1,[x10],a8.2.2.1.2.2.2.2.2.2.2.2.2),0)) |.inr b9=>some (b9.2.1,b9.1)) ((a3o z2.2.1).bind fun y11=> (a6j (z2.2.1,y11)).bind fun y12=> cond (y12.2 != 0) (some ((0,0,0,0,0,[],a00 3 0,[],[],(0,[],()),[],()),6)) (cond (z2.1==1) (some ((y4.1,y11,y4.2.2.1,y4.2.2.2.1,y4.2.2.2.2.1,y4.2.2.2.2.2.1,y4.2.2.2.2.2.2.1,y4.2.2.2.2.2.2.2.1,y12.1,y4.2.2.2.2.2.2.2.2.2),0)) ((a9M ((y4.1,y11,y4.2.2),y12.1)).bind fun y13=> cond (y13.1 != 0) (some ((0,0,0,0,0,[],a00 3 0,[],[],(0,[],()),[],()),6)) ((a8P (z2.2.2.1,(y13.2.2.2.2.2.2.2.2.2.1.length:Int),6,y13.2.2.2.2.2.2.2.2.2.2.2.1)).bind fun y14=> cond (y14.2 != 0) (some ((0,0,0,0,0,[],a00 3 0,[],[],(0,[],()),[],()),6)) (some ((y13.2.1,y13.2.2.1,y13.2.2.2.1,y13.2.2.2.2.1,y13.2.2.2.2.2.1,y13.2.2.2.2.2.2.1,y13.2.2.2.2.2.2.2.1,y13.2.2.2.2.2.2.2.2.1,y13.2.2.2.2.2.2.2.2.2.1,y14.1,y13.2.2.2.2.2.2.2.2.2.2.2),0))))))))
def b6J:FSem:=⟨[.v QI,.v QL,.v Q31],[.v Q31,.v QI],b1i⟩
def H86:Hints:=⟨[(4050,[.sv 1 QL,.sv 39 QL,.sv 40 QI,.sv 41 QI,.box 6 Q31,.box 9 Q31,.ptr 6 6 [],.ptr 9 9 []],[(.exit 0,[.sv 1 QL,.box 6 Q31,.box 9 Q31,.ptr 6 6 [],.ptr 9 9 []]),(.ret,[.sv 7 QI,.box 6 Q31,.ptr 6 6 []])])],[(14,[(.normal,[.sv 0 QI,.sv 1 QL,.sv 8 QI,.sv 28 .bool,.box 6 Q31,.vp 5 Q31,.ptr 6 6 []])])],[]⟩
def a7F(x:Z6):Option Z17:= some (x.2.1,x)
def b0Y:FSem:=⟨[.r false (.b Q5)],[.v QI],a7F⟩
def d0J:Hints:=⟨[],[],[]⟩
def a3I(x:Z95):Option Int:= (a8o (([],0,()),x.1,x.2)).bind fun y1=> cond (y1.1 != 0) (some 0) ((a7F y1.2).bind fun y2=> some y2.1)
def b6K:FSem:=⟨[.v Q31,.v QI],[.v QI],a3I⟩
def H89:Hints:=⟨[],[],[]⟩
def a4g(s:Z44):Option (Z44 ⊕ (Int×Unit)):= cond (decide (s.2.2.2.2.1<s.2.2.2.1)) ((l0z s.2.2.1 s.2.2.2.2.1).bind fun x1=> cond (decide ((wrap .i64 (s.2.2.2.2.1+s.1))≥4)) (some (.inl (s.1,wrap .i64 (s.2.1+(u0z x1 (wrap .i64 (0-x1)))),s.2.2.1,s.2.2.2.1,wrap .i64 (s.2.2.2.2.1+1),()))) (some (.inl (s.1,s.2.1,s.2.2.1,s.2.2.2.1,wrap .i64 (s.2.2.2.2.1+1),())))) (some (.inr (s.2.1,())))
def a8d(x:((List Int)×Int)):Option Int:= (x0r a4g (x.2,0,x.1,(x.1.length:Int),0,())).bind fun w2=> some w2.1
def b4z:FSem:=⟨[.v QL,.v QI],[.v QI],a8d⟩
def d0K:Hints:=⟨[(58,[.sv 1 QI,.sv 5 QI,.sv 8 QL,.sv 9 QI,.sv 10 QI],[(.exit 0,[.sv 5 QI])])],[],[]⟩
def a2E(s:Z29):Option (Z29 ⊕ (Int×Unit)):= cond (decide (s.2.2.2.1≤4)) ((a4e (s.1,s.2.2.2.1)).bind fun y1=> cond (y1.2 != 0) (some (.inl (s.1,s.2.1,s.2.2.1,wrap .i64 (s.2.2.2.1+1),()))) ((a8d (y1.1,s.2.2.2.1)).bind fun y2=> (show Option ((List Int)×(Int×Z22))from cond (decide (s.2.2.1<0)) (some (s.1,s.2.1,s.2.2.1,s.2.2.2.1,y2,true,())) (some (s.1,s.2.1,s.2.2.1,s.2.2.2.1,y2,decide (y2<s.2.2.1),()))).bind fun z3=> cond z3.2.2.2.2.2.1 (some (.inl (z3.1,z3.2.2.2.1,z3.2.2.2.2.1,wrap .i64 (z3.2.2.2.1+1),()))) (some (.inl (z3.1,z3.2.1,z3.2.2.1,wrap .i64 (z3.2.2.2.1+1),()))))) (some (.inr (s.2.1,())))
def a5m(x:(List Int)):Option Int:= (x0r a2E (x,0,(-1),0,())).bind fun w4=> some w4.1
def b4U:FSem:=⟨[.v QL],[.v QI],a5m⟩
def d0L:Hints:=⟨[(58,[.sv 0 QL,.sv 3 QI,.sv 4 QI,.sv 5 QI],[(.exit 0,[.sv 3 QI])])],[(7463,[(.normal,[.sv 0 QL,.sv 3 QI,.sv 4 QI,.sv 5 QI,.sv 8 QI,.sv 30 .bool])])],[]⟩
def a2x(x:Int):Option Int:= some (v0a (u0z x (-1048576)) 1048575)
def a9l:FSem:=⟨[.v QI],[.v QI],a2x⟩
def d0M:Hints:=⟨[],[],[]⟩
def a3i(s:Z65):Option (Z65 ⊕ Z54):= cond (decide (s.2.1<0)) none ((a2x (z0h .i64 s.2.2.1 s.2.1)).bind fun y2=> cond (decide (s.2.1<0)) none (cond (y2 != (z0h .i64 s.2.2.1 s.2.1)) (some (.inl (s.1,wrap .i64 (s.2.1+1),s.2.2.1,s.2.2.2.1,s.2.2.2.2.1,s.2.2.2.2.2.1,()))) (some (.inr (s.1,s.2.1,s.2.2.2.1,s.2.2.2.2.1,s.2.2.2.2.2.1,())))))
def a4L(s:Z54):Option (Z54 ⊕ Z6):= cond (decide (s.2.2.2.2.1<s.2.2.2.1)) ((l0z s.2.2.1 s.2.2.2.2.1).bind fun x1=> (x0r a3i (s.1,s.2.1,x1,s.2.2.1,s.2.2.2.1,s.2.2.2.2.1,())).bind fun w3=> some (.inl (w3.1,w3.2.1,w3.2.2.1,w3.2.2.2.1,wrap .i64 (w3.2.2.2.2.1+1),()))) (some (.inr (s.1,s.2.1,())))
def a4M(s:Z53):Option (Z53 ⊕ ((List Int)×Unit)):= cond (decide (s.2.2.2.1<s.2.2.1)) ((l0z s.2.1 s.2.2.2.1).bind fun x5=> cond (decide (s.1<0)) none (cond ((decide (0≤s.2.2.2.1))&&(decide (s.2.2.2.1<(s.2.2.2.2.1.length:Int)))) (some (.inl (s.1,s.2.1,s.2.2.1,wrap .i64 (s.2.2.2.1+1),a26 s.2.2.2.2.1 (a01 s.2.2.2.1) (z0h .i64 x5 s.1),()))) none)) (some (.inr (s.2.2.2.2.1,())))
def a6Q(x:(List Int)):Option (List Int):= (x0r a4L (x,0,x,(x.length:Int),0,())).bind fun w4=> cond ((decide (0≤(w4.1.length:Int)))&&((decide ((w4.1.length:Int)≤(w4.1.length:Int)))&&(lim (a01 (w4.1.length:Int))))) ((x0r a4M (w4.2.1,w4.1,(w4.1.length:Int),0,a00 (a01 (w4.1.length:Int)) 0,())).bind fun w6=> some w6.1) none
def b2o:FSem:=⟨[.v QL],[.o QI],a6Q⟩
def d0N:Hints:=⟨[(58,[.sv 0 QL,.sv 3 QI,.sv 9 QL,.sv 10 QI,.sv 11 QI],[(.exit 0,[.sv 0 QL,.sv 3 QI])]),(250,[.sv 3 QI,.sv 29 QL,.sv 30 QI,.sv 31 QI,.own 6 6 QI],[(.exit 4,[.own 6 6 QI])]),(7474,[.sv 0 QL,.sv 3 QI,.sv 5 QI,.sv 9 QL,.sv 10 QI,.sv 11 QI],[(.exit 2,[.sv 0 QL,.sv 3 QI,.sv 9 QL,.sv 10 QI,.sv 11 QI])])],[],[(5,[.v,.v,.v,.v,.v,.v,.v,.x])]⟩
def a3e(s:((List Int)×Z29)):Option (((List Int)×Z29) ⊕ (Int×Int×Unit)):= cond (decide (s.2.2.2.2.1<(s.1.length:Int))) ((l0z s.1 s.2.2.2.2.1).bind fun x1=> (l0z s.2.1 (wrap .i64 (s.2.2.2.2.1-1))).bind fun x2=> (l0z s.1 s.2.2.2.2.1).bind fun x3=> (l0z s.1 s.2.2.2.2.1).bind fun x4=> (l0z s.2.1 (wrap .i64 (s.2.2.2.2.1-1))).bind fun x5=> (l0z s.2.1 (wrap .i64 (s.2.2.2.2.1-1))).bind fun x6=> some (.inl (s.1,s.2.1,wrap .i64 (s.2.2.1+(wrap .i64 (x1*x2))),wrap .i64 (s.2.2.2.1+(wrap .i64 ((wrap .i64 (x3*x4))+(wrap .i64 (x5*x6))))),wrap .i64 (s.2.2.2.2.1+1),()))) (some (.inr (s.2.2.1,s.2.2.2.1,())))
def a3f(s:(Int×Int×Unit)):Option ((Int×Int×Unit) ⊕ (Int×Int×Unit)):= cond (decide (s.2.1≥1099511627776)) (some (.inl (z0h .i64 s.1 1,z0h .i64 s.2.1 1,()))) (some (.inr (s.1,s.2.1,())))
def a4o(x:Z10):Option Int:= (x0r a3e (x.1,x.2.1,0,0,x.2.2,())).bind fun w7=> (x0r a3f (w7.1,w7.2.1,())).bind fun w8=> cond (w8.2.1==0) (some 0) (cond (w8.2.1==0) none ((show Option (Int×Unit)from cond (w8.2.1==0) none (cond (decide ((a16 (z0g .i64 w8.1 15) w8.2.1)<0)) (some (wrap .i64 ((wrap .i64 (a18 (z0g .i64 w8.1 15) w8.2.1))-1),())) (some (wrap .i64 (a18 (z0g .i64 w8.1 15) w8.2.1),())))).bind fun z9=> some (v0a (u0z z9.1 (-16383)) 16383)))
def a9i:FSem:=⟨[.v QL,.v QL,.v QI],[.v QI],a4o⟩
def d0O:Hints:=⟨[(58,[.sv 0 QL,.sv 1 QL,.sv 7 QI,.sv 8 QI,.sv 9 QI],[(.exit 0,[.sv 7 QI,.sv 8 QI])]),(60,[.sv 7 QI,.sv 8 QI],[(.exit 2,[.sv 7 QI,.sv 8 QI])])],[(255,[(.normal,[.sv 10 QI])])],[(5,[.v,.v,.v,.v,.v,.v,.v,.v,.v,.v,.v,.x,.x]),(6,[.v,.v,.v,.v,.v,.v,.v,.v,.v,.v,.v,.v,.v,.v,.v,.v,.v,.v,.v,.v,.v,.v,.x,.x])]⟩
def a2T(s:(Int×Int×Z63)):Option ((Int×Int×Z63) ⊕ Z63):= cond (decide (s.2.2.2.1≥s.2.1)) (cond ((decide (0≤s.2.2.2.1))&&(decide (s.2.2.2.1<(s.2.2.2.2.1.length:Int)))) (cond ((decide (0≤(wrap .i64 (s.2.2.2.1-1))))&&(decide ((wrap .i64 (s.2.2.2.1-1))<(s.2.2.2.2.2.1.length:Int)))) ((a2x (wrap .i64 ((a04 s.2.2.2.2.1 (a01 s.2.2.2.1) 0)-(z0h .i64 (wrap .i64 (s.2.2.1*(a04 s.2.2.2.2.2.1 (a01 (wrap .i64 (s.2.2.2.1-1))) 0))) 14)))).bind fun y6=> cond ((decide (0≤s.2.2.2.1))&&(decide (s.2.2.2.1<(s.2.2.2.2.1.length:Int)))) ((a2x (wrap .i64 ((a04 s.2.2.2.2.2.1 (a01 (wrap .i64 (s.2.2.2.1-1))) 0)-(z0h .i64 (wrap .i64 (s.2.2.1*(a04 s.2.2.2.2.1 (a01 s.2.2.2.1) 0))) 14)))).bind fun y7=> cond ((decide (0≤s.2.2.2.1))&&(decide (s.2.2.2.1<(s.2.2.2.2.2.1.length:Int)))) (some (.inl (s.1,s.2.1,s.2.2.1,wrap .i64 (s.2.2.2.1-1),a26 s.2.2.2.2.1 (a01 s.2.2.2.1) y6,a26 s.2.2.2.2.2.1 (a01 s.2.2.2.1) y7,s.2.2.2.2.2.2.1,()))) none) none) none) none) (some (.inr (s.1,s.2.1,s.2.2.2.2.1,s.2.2.2.2.2.1,s.2.2.2.2.2.2.1,())))
def a2U(s:Z63):Option (Z63 ⊕ ((List Int)×Unit)):= cond (decide (s.2.1≤s.1)) ((a4o (s.2.2.1,s.2.2.2.1,s.2.1)).bind fun y5=> cond (lim ((a02 s.2.2.2.2.1)+1)) ((x0r a2T (s.1,s.2.1,y5,wrap .i64 ((s.2.2.1.length:Int)-1),s.2.2.1,s.2.2.2.1,a03 s.2.2.2.2.1 [y5],())).bind fun w8=> some (.inl (w8.1,wrap .i64 (w8.2.1+1),w8.2.2.1,w8.2.2.2.1,w8.2.2.2.2.1,()))) none) (some (.inr (s.2.2.2.2.1,())))
def a5M(x:((List Int)×Int)):Option ((List Int)×Int):= (show Option Z18 from cond (decide (x.2<1)) (some (x.1,x.2,true,())) (cond (decide (x.2 > 32)) (some (x.1,x.2,true,())) (some (x.1,x.2,decide ((x.1.length:Int) > 4096),())))).bind fun z1=> cond z1.2.2.1 (some ([],1)) ((a2u z1.1).bind fun y2=> cond (!y2) (some ([],6)) ((a6Q z1.1).bind fun y3=> (a1d y3).bind fun y4=> cond ((decide (0≤z1.2.1))&&(lim (a01 z1.2.1))) ((x0r a2U (z1.2.1,1,y3,y4,[],())).bind fun w9=> some (w9.1,0)) none))
def b1J:FSem:=⟨[.v QL,.v QI],[.o QI,.v QI],a5M⟩
def d0P:Hints:=⟨[(1018,[.sv 1 QI,.sv 9 QI,.own 6 6 QI,.own 7 7 QI,.own 8 8 QI],[(.exit 0,[.own 8 8 QI])]),(260686,[.sv 1 QI,.sv 9 QI,.sv 10 QI,.sv 11 QI,.own 6 6 QI,.own 7 7 QI,.own 8 8 QI],[(.exit 2,[.sv 1 QI,.sv 9 QI,.own 6 6 QI,.own 7 7 QI,.own 8 8 QI])])],[(6,[(.normal,[.sv 0 QL,.sv 1 QI,.sv 24 .bool])])],[(16,[.q,.v,.q,.q,.q,.v,.v,.q,.q,.v,.x])]⟩
def a2c(s:Z39):Option (Z39 ⊕ (((List Int)×Unit) ⊕ Z6)):= cond (decide (s.2.2.2.1<s.2.2.1)) ((l0z s.2.1 s.2.2.2.1).bind fun x2=> (show Option ((List Int)×Z32)from cond (decide (x2<(-16383))) (some (s.1,s.2.1,s.2.2.1,s.2.2.2.1,true,())) (some (s.1,s.2.1,s.2.2.1,s.2.2.2.1,decide (x2 > 16383),()))).bind fun z3=> cond z3.2.2.2.2.1 (some (.inr (Sum.inr (([],1,()))))) (some (.inl (z3.1,z3.2.1,z3.2.2.1,wrap .i64 (z3.2.2.2.1+1),())))) (some (.inr (Sum.inl (s.1,()))))
def a3B(s:((List Int)×(Int×(Int×((List Int)×Z67))))):Option (((List Int)×(Int×(Int×((List Int)×Z67)))) ⊕ Z53):= cond (decide (s.2.2.2.2.2.2.2.2.1<s.2.2.2.2.2.2.2.1)) ((l0z s.2.2.2.2.2.2.1 s.2.2.2.2.2.2.2.2.1).bind fun x8=> (l0z s.1 (wrap .i64 ((wrap .i64 (s.2.1-1))-s.2.2.2.2.2.2.2.2.1))).bind fun x9=> cond (lim ((a02 s.2.2.2.2.2.2.2.2.2.1)+1)) (some (.inl (s.1,s.2.1,s.2.2.1,s.2.2.2.1,s.2.2.2.2.1,s.2.2.2.2.2.1,s.2.2.2.2.2.2.1,s.2.2.2.2.2.2.2.1,wrap .i64 (s.2.2.2.2.2.2.2.2.1+1),a03 s.2.2.2.2.2.2.2.2.2.1 [wrap .i64 (x8-(z0h .i64 (wrap .i64 (s.2.2.1*x9)) 14))],()))) none) (some (.inr (s.2.2.1,s.2.2.2.1,s.2.2.2.2.1,s.2.2.2.2.2.1,s.2.2.2.2.2.2.2.2.2.1,())))
def a5e(s:Z39):Option (Z39 ⊕ ((List Int)×Unit)):= cond (decide (s.2.2.2.1<s.2.2.1)) ((l0z s.2.1 s.2.2.2.1).bind fun x7=> cond ((decide (0≤(wrap .i64 (s.2.2.2.1+1))))&&(lim (a01 (wrap .i64 (s.2.2.2.1+1))))) ((x0r a3B (s.1,s.2.2.2.1,x7,s.2.1,s.2.2.1,s.2.2.2.1,s.1,(s.1.length:Int),0,[],())).bind fun w10=> cond (lim ((a02 w10.2.2.2.2.1)+1)) (some (.inl (a03 w10.2.2.2.2.1 [w10.1],w10.2.1,w10.2.2.1,wrap .i64 (w10.2.2.2.1+1),()))) none) none) (some (.inr (s.1,())))
def a7w(x:(List Int)):Option ((List Int)×Int):= (show Option ((List Int)×(Bool×Unit))from cond (decide ((x.length:Int)<1)) (some (x,true,())) (some (x,decide ((x.length:Int) > 32),()))).bind fun z1=> cond z1.2.1 (some ([],1)) ((x0r a2c (z1.1,z1.1,(z1.1.length:Int),0,())).bind fun w4=> match w4 with |.inl a5=>((x0r a5e ([],a5.1,(a5.1.length:Int),0,())).bind fun w11=> some (w11.1,0)) |.inr b6=>some (b6.1,b6.2.1))
def b3k:FSem:=⟨[.v QL],[.v QL,.v QI],a7w⟩
def d0Q:Hints:=⟨[(58,[.sv 0 QL,.sv 20 QL,.sv 21 QI,.sv 22 QI],[(.exit 0,[.sv 0 QL]),(.ret,[.sv 2 QL,.sv 3 QI])]),(250,[.sv 6 QL,.sv 34 QL,.sv 35 QI,.sv 36 QI],[(.exit 2,[.sv 6 QL])]),(256410,[.sv 6 QL,.sv 7 QI,.sv 8 QI,.sv 34 QL,.sv 35 QI,.sv 36 QI,.sv 44 QL,.sv 45 QI,.sv 46 QI,.own 9 9 QI],[(.exit 4,[.sv 8 QI,.sv 34 QL,.sv 35 QI,.sv 36 QI,.own 9 9 QI])])],[(6,[(.normal,[.sv 0 QL,.sv 19 .bool])]),(3737,[(.normal,[.sv 0 QL,.sv 20 QL,.sv 21 QI,.sv 22 QI,.sv 31 .bool])])],[]⟩
def a2d(s:Z54):Option (Z54 ⊕ (Z6 ⊕ Z16)):= cond (decide (s.2.2.2.2.1<s.2.2.2.1)) ((l0z s.2.2.1 s.2.2.2.2.1).bind fun x2=> (show Option ((List Int)×(Int×Z32))from cond (decide (x2<(-35184372088832))) (some (s.1,s.2.1,s.2.2.1,s.2.2.2.1,s.2.2.2.2.1,true,())) (some (s.1,s.2.1,s.2.2.1,s.2.2.2.1,s.2.2.2.2.1,decide (x2 > 35184372088832),()))).bind fun z3=> cond z3.2.2.2.2.2.1 (some (.inr (Sum.inr ((0,1,[],()))))) (some (.inl (z3.1,z3.2.1,z3.2.2.1,z3.2.2.2.1,wrap .i64 (z3.2.2.2.2.1+1),())))) (some (.inr (Sum.inl (s.1,s.2.1,()))))
def a2e(s:((List Int)×(Int×Z67))):Option (((List Int)×(Int×Z67)) ⊕ Z37):= cond (decide (s.2.2.2.2.2.2.1<s.2.2.2.2.2.1)) ((l0z s.2.2.2.2.1 s.2.2.2.2.2.2.1).bind fun x8=> cond (decide (s.2.2.1<0)) none ((a3t (z0h .i64 (wrap .i64 (x8+s.2.2.2.1)) s.2.2.1,s.2.1)).bind fun y9=> cond (!y9) (some (.inr (s.1,s.2.1,s.2.2.1,s.2.2.2.2.2.2.2.1,()))) (cond (lim ((a02 s.2.2.2.2.2.2.2.1)+1)) (some (.inl (s.1,s.2.1,s.2.2.1,s.2.2.2.1,s.2.2.2.2.1,s.2.2.2.2.2.1,wrap .i64 (s.2.2.2.2.2.2.1+1),a03 s.2.2.2.2.2.2.2.1 [z0h .i64 (wrap .i64 (x8+s.2.2.2.1)) s.2.2.1],()))) none))) (some (.inr (s.1,s.2.1,s.2.2.1,s.2.2.2.2.2.2.2.1,())))
def a2f(s:Z15):Option (Z15 ⊕ (Unit ⊕ Z16)):= cond (decide (s.2.2.1≤14)) ((show Option Z29 from cond (decide (s.2.2.1 > 0)) (cond (decide ((wrap .i64 (s.2.2.1-1))<0)) none (some (s.1,s.2.1,s.2.2.1,z0g .i64 1 (wrap .i64 (s.2.2.1-1)),()))) (some (s.1,s.2.1,s.2.2.1,0,()))).bind fun z7=> cond ((decide (0≤(z7.1.length:Int)))&&(lim (a01 (z7.1.length:Int)))) ((x0r a2e (z7.1,z7.2.1,z7.2.2.1,z7.2.2.2.1,z7.1,(z7.1.length:Int),0,[],())).bind fun w10=> cond ((w10.2.2.2.1.length:Int)==(w10.1.length:Int)) (some (.inr (Sum.inr ((wrap .i64 (14-w10.2.2.1),0,w10.2.2.2.1,()))))) (some (.inl (w10.1,w10.2.1,wrap .i64 (w10.2.2.1+1),())))) none) (some (.inr (Sum.inl ())))
def a7x(x:((List Int)×Int)):Option Z3:= (show Option Z18 from cond (decide ((x.1.length:Int)<1)) (some (x.1,x.2,true,())) (cond (decide ((x.1.length:Int) > 32)) (some (x.1,x.2,true,())) (cond (decide (x.2<2)) (some (x.1,x.2,true,())) (some (x.1,x.2,decide (x.2 > 16),()))))).bind fun z1=> cond z1.2.2.1 (some ([],0,1)) ((x0r a2d (z1.1,z1.2.1,z1.1,(z1.1.length:Int),0,())).bind fun w4=> match w4 with |.inl a5=>((x0r a2f (a5.1,a5.2.1,0,())).bind fun w11=> match w11 with |.inl a12=>some ([],0,6) |.inr b13=>some (b13.2.2.1,b13.1,b13.2.1)) |.inr b6=>some (b6.2.2.1,b6.1,b6.2.1))
def b3l:FSem:=⟨[.v QL,.v QI],[.o QI,.v QI,.v QI],a7x⟩
def d0R:Hints:=⟨[(58,[.sv 0 QL,.sv 1 QI,.sv 31 QL,.sv 32 QI,.sv 33 QI],[(.exit 0,[.sv 0 QL,.sv 1 QI]),(.ret,[.sv 5 QI,.sv 6 QI,.own 4 4 QI])]),(122,[.sv 0 QL,.sv 1 QI,.sv 9 QI],[(.exit 2,[]),(.ret,[.sv 5 QI,.sv 6 QI,.own 4 11 QI])]),(125242,[.sv 0 QL,.sv 1 QI,.sv 9 QI,.sv 10 QI,.sv 56 QL,.sv 57 QI,.sv 58 QI,.own 11 11 QI],[(.exit 4,[.sv 0 QL,.sv 1 QI,.sv 9 QI,.own 11 11 QI])])],[(6,[(.normal,[.sv 0 QL,.sv 1 QI,.sv 30 .bool])]),(3737,[(.normal,[.sv 0 QL,.sv 1 QI,.sv 31 QL,.sv 32 QI,.sv 33 QI,.sv 42 .bool])]),(3913,[(.normal,[.sv 0 QL,.sv 1 QI,.sv 9 QI,.sv 10 QI])])],[]⟩
def a3v(x:Z3):Option Z3:= (a5M (x.1,x.2.1)).bind fun y1=> cond (y1.2 != 0) (some ([],0,y1.2)) ((a7w y1.1).bind fun y2=> cond (y2.2 != 0) (some ([],0,y2.2)) ((a7x (y2.1,x.2.2)).bind fun y3=> some (y3.1,y3.2.1,y3.2.2)))
def b0W:FSem:=⟨[.v QL,.v QI,.v QI],[.o QI,.v QI,.v QI],a3v⟩
def d0S:Hints:=⟨[],[],[]⟩
def b7L(s:((List Int)×(Int×Int×Z35))):Option (((List Int)×(Int×Int×Z35)) ⊕ ((List Int)×(Int×Z35))):= cond (decide (s.2.2.2.2.2.2.2.1<(s.1.length:Int))) ((l0z s.1 s.2.2.2.2.2.2.2.1).bind fun x3=> (l0z s.1 (wrap .i64 (s.2.2.2.2.2.2.2.1-s.2.2.2.2.2.1))).bind fun x4=> some (.inl (s.1,s.2.1,s.2.2.1,s.2.2.2.1,s.2.2.2.2.1,s.2.2.2.2.2.1,wrap .i64 (s.2.2.2.2.2.2.1+(u0z (wrap .i64 (x3-x4)) (wrap .i64 (0-(wrap .i64 (x3-x4)))))),wrap .i64 (s.2.2.2.2.2.2.2.1+1),()))) (some (.inr (s.1,s.2.1,s.2.2.1,s.2.2.2.1,s.2.2.2.2.1,s.2.2.2.2.2.1,s.2.2.2.2.2.2.1,())))
def b7M(s:((List Int)×Z35)):Option (((List Int)×Z35) ⊕ (Int×Unit)):= cond (decide (s.2.2.2.2.2.1≤s.2.2.1)) ((x0r b7L (s.1,s.2.1,s.2.2.1,s.2.2.2.1,s.2.2.2.2.1,s.2.2.2.2.2.1,0,s.2.2.1,())).bind fun w5=> (show Option ((List Int)×(Int×Int×Int×Z22))from cond (w5.2.2.2.2.2.1==w5.2.1) (some (w5.1,w5.2.1,w5.2.2.1,w5.2.2.2.1,w5.2.2.2.2.1,w5.2.2.2.2.2.1,w5.2.2.2.2.2.2.1,true,())) (some (w5.1,w5.2.1,w5.2.2.1,w5.2.2.2.1,w5.2.2.2.2.1,w5.2.2.2.2.2.1,w5.2.2.2.2.2.2.1,decide (w5.2.2.2.2.2.2.1<w5.2.2.2.2.1),()))).bind fun z6=> cond z6.2.2.2.2.2.2.2.1 (some (.inl (z6.1,z6.2.1,z6.2.2.1,z6.2.2.2.2.2.1,z6.2.2.2.2.2.2.1,wrap .i64 (z6.2.2.2.2.2.1+1),()))) (some (.inl (z6.1,z6.2.1,z6.2.2.1,z6.2.2.2.1,z6.2.2.2.2.1,wrap .i64 (z6.2.2.2.2.2.1+1),())))) (some (.inr (s.2.2.2.1,())))
def a9O(x:Z3):Option (Int×Int):= (show Option Z32 from cond (decide (x.2.1<2)) (some (x.1,x.2.1,x.2.2,true,())) (cond (decide (x.2.1 > x.2.2)) (some (x.1,x.2.1,x.2.2,true,())) (cond (decide (x.2.2 > 1024)) (some (x.1,x.2.1,x.2.2,true,())) (some (x.1,x.2.1,x.2.2,decide ((x.1.length:Int) > 4096),()))))).bind fun z1=> cond z1.2.2.2.1 (some (0,1)) (cond (decide ((z1.1.length:Int)≤z1.2.2.1)) (some (0,7)) ((a3P z1.1).bind fun y2=> cond (!y2) (some (0,6)) ((x0r b7M (z1.1,z1.2.1,z1.2.2.1,0,0,z1.2.1,())).bind fun w7=> some (w7.1,0))))
def b5M:FSem:=⟨[.v QL,.v QI,.v QI],[.v QI,.v QI],a9O⟩
def d0T:Hints:=⟨[(506,[.sv 0 QL,.sv 1 QI,.sv 2 QI,.sv 8 QI,.sv 9 QI,.sv 10 QI],[(.exit 0,[.sv 8 QI])]),(129610,[.sv 0 QL,.sv 1 QI,.sv 2 QI,.sv 8 QI,.sv 9 QI,.sv 10 QI,.sv 11 QI,.sv 12 QI],[(.exit 2,[.sv 0 QL,.sv 1 QI,.sv 2 QI,.sv 8 QI,.sv 9 QI,.sv 10 QI,.sv 11 QI])])],[(6,[(.normal,[.sv 0 QL,.sv 1 QI,.sv 2 QI,.sv 29 .bool])]),(32403,[(.normal,[.sv 0 QL,.sv 1 QI,.sv 2 QI,.sv 8 QI,.sv 9 QI,.sv 10 QI,.sv 11 QI,.sv 74 .bool])])],[(15,[.v,.v,.v,.v,.v,.v,.v,.v,.v,.v,.x,.x])]⟩
def c6e:Hints:=⟨[],[],[]⟩
def b9p(x:Unit):Option (List (List Int)):=z0c (a7C [] [] [0] []) c6e Tryz.f288 [] [.o (.arr 3 (.int .i64))] x
def b1K:FSem:=⟨[],[.o (.arr 3 QI)],b9p⟩
def c6f:Hints:=⟨[(122,[.sv 0 QL,.sv 1 QI,.sv 7 QI,.sv 8 .bool,.sv 25 QI,.sv 26 QI,.own 24 1024 (.arr 3 QI),.box 4 (.arr 3 QI),.box 6 (.arr 3 QI),.ptr 4 4 [],.ptr 6 6 []],[(.exit 0,[.sv 8 .bool,.box 4 (.arr 3 QI),.box 6 (.arr 3 QI),.ptr 4 4 [],.ptr 6 6 []])]),(501370,[.sv 0 QL,.sv 1 QI,.sv 7 QI,.sv 8 .bool,.sv 13 QI,.sv 25 QI,.sv 26 QI,.sv 40 QI,.sv 41 QI,.own 24 1024 (.arr 3 QI),.own 39 11 QI,.box 4 (.arr 3 QI),.box 6 (.arr 3 QI),.box 10 (.arr 3 QI),.ptr 4 4 [],.ptr 6 6 [],.ptr 10 10 []],[(.exit 2,[.sv 0 QL,.sv 1 QI,.sv 7 QI,.sv 8 .bool,.sv 13 QI,.sv 25 QI,.sv 26 QI,.own 24 1024 (.arr 3 QI),.box 4 (.arr 3 QI),.box 6 (.arr 3 QI),.box 10 (.arr 3 QI),.ptr 4 4 [],.ptr 6 6 [],.ptr 10 10 []])])],[(6,[(.normal,[.sv 0 QL,.sv 1 QI,.sv 21 .bool,.box 4 (.arr 3 QI),.ptr 4 4 []])]),(125343,[(.normal,[.sv 0 QL,.sv 1 QI,.sv 7 QI,.sv 8 .bool,.sv 13 QI,.sv 25 QI,.sv 26 QI,.sv 58 .bool,.own 24 1024 (.arr 3 QI),.box 4 (.arr 3 QI),.box 6 (.arr 3 QI),.box 10 (.arr 3 QI),.ptr 4 4 [],.ptr 6 6 [],.ptr 10 10 []])])],[]⟩
def b5N(x:((List Int)×Int)):Option ((List Int)×Int):=z0c (a7C [(232,a7R),(288,b1K)] [] [0,1,5,7,8,11,12,13,15] []) c6f Tryz.f241 [.v (.list false (.int .i64)),.v (.int .i64)] [.v (.arr 3 (.int .i64)),.v (.int .i64)] x
def b5O:FSem:=⟨[.v QL,.v QI],[.v (.arr 3 QI),.v QI],b5N⟩
def a3j(x:(List Int)):Option (Z93×Bool):= (a9O (x,16,256)).bind fun y1=> cond (y1.2 != 0) (some ((0,0,0,0,0,[],a00 3 0,[],[],(0,[],()),[],()),false)) ((b5N (x,y1.1)).bind fun y2=> cond (y2.2 != 0) (some ((0,0,0,0,0,[],a00 3 0,[],[],(0,[],()),[],()),false)) ((a7Q (x,y1.1,y2.1)).bind fun y3=> cond (y3.2 != 0) (some ((0,0,0,0,0,[],a00 3 0,[],[],(0,[],()),[],()),false)) ((a3v (y3.1,4,12)).bind fun y4=> cond (y4.2.2 != 0) (some ((0,0,0,0,0,[],a00 3 0,[],[],(0,[],()),[],()),false)) (some ((4,0,0,y4.2.1,y1.1,y4.1,y2.1,[],[],(0,[],()),[],()),true)))))
def b4V:FSem:=⟨[.v QL],[.v Q31,.v .bool],a3j⟩
def d0U:Hints:=⟨[],[],[]⟩
def a0O(x:(Int×(Int×((List Int)×Z94)))):Option ((List Int)×Z94):= (a3v (x.2.2.1,x.1,x.2.1)).bind fun y1=> cond (y1.2.2==0) (cond (lim ((a02 x.2.2.2)+1)) (some (x.2.2.1,a03 x.2.2.2 ([(3,0,0,y1.2.1,0,y1.1,a00 3 0,[],[],(0,[],()),[],())]:List Z93))) none) (some (x.2.2.1,x.2.2.2))
def b0D:FSem:=⟨[.v QI,.v QI,.r false (.b QL),.r false (.b (.list true Q31))],[],a0O⟩
def d0V:Hints:=⟨[],[],[]⟩
def a2n(s:(Int×c1M)):Option ((Int×c1M) ⊕ c1M):= cond (decide (s.1<5)) (cond (lim ((a02 s.2.1)+1)) (some (.inl (wrap .i64 (s.1+1),a03 s.2.1 ([(2,0,s.1,0,0,[],a00 3 0,[],[],(0,[],()),[],())]:List Z93),s.2.2.1,()))) none) (some (.inr (s.2.1,s.2.2.1,())))
def a5N(x:((List Int)×Int)):Option Z94:= (a5m x.1).bind fun y1=> (show Option (Int×((List Int)×Z97))from cond (decide (x.2≥1)) ((a0O (4,12,x.1,([(0,0,0,0,0,[],a00 3 0,[],[],(0,[],()),[],()),(1,0,0,0,0,[],a00 3 0,[],[],(0,[],()),[],()),(2,0,y1,0,0,[],a00 3 0,[],[],(0,[],()),[],())]:List Z93))).bind fun y2=> (a0O (8,12,y2.1,y2.2)).bind fun y3=> some (x.2,y3.1,y3.2,())) (some (x.2,x.1,([(0,0,0,0,0,[],a00 3 0,[],[],(0,[],()),[],()),(1,0,0,0,0,[],a00 3 0,[],[],(0,[],()),[],()),(2,0,y1,0,0,[],a00 3 0,[],[],(0,[],()),[],())]:List Z93),()))).bind fun z4=> (show Option (Int×c1M)from cond (decide (z4.1≥2)) (cond (lim ((a02 z4.2.2.1)+1)) (cond (lim ((a02 (a03 z4.2.2.1 ([(5,0,0,0,0,[],a00 3 0,([(16,4,())]:List (Int×Int×Unit)),[],(0,[],()),[],())]:List Z93)))+1)) ((a3j z4.2.1).bind fun y5=> cond y5.2 (cond (lim ((a02 (a03 (a03 z4.2.2.1 ([(5,0,0,0,0,[],a00 3 0,([(16,4,())]:List (Int×Int×Unit)),[],(0,[],()),[],())]:List Z93)) ([(5,0,0,0,0,[],a00 3 0,([(32,3,()),(16,5,())]:List (Int×Int×Unit)),[],(0,[],()),[],())]:List Z93)))+1)) (some (z4.1,a03 (a03 (a03 z4.2.2.1 ([(5,0,0,0,0,[],a00 3 0,([(16,4,())]:List (Int×Int×Unit)),[],(0,[],()),[],())]:List Z93)) ([(5,0,0,0,0,[],a00 3 0,([(32,3,()),(16,5,())]:List (Int×Int×Unit)),[],(0,[],()),[],())]:List Z93)) ([y5.1]:List Z93),z4.2.1,())) none) (some (z4.1,a03 (a03 z4.2.2.1 ([(5,0,0,0,0,[],a00 3 0,([(16,4,())]:List (Int×Int×Unit)),[],(0,[],()),[],())]:List Z93)) ([(5,0,0,0,0,[],a00 3 0,([(32,3,()),(16,5,())]:List (Int×Int×Unit)),[],(0,[],()),[],())]:List Z93),z4.2.1,()))) none) none) (some (z4.1,z4.2.2.1,z4.2.1,()))).bind fun z6=> (show Option Z97 from cond (decide (z6.1≥3)) ((x0r a2n (0,z6.2.1,z6.2.2.1,())).bind fun w7=> (a0O (1,12,w7.2.1,w7.1)).bind fun y8=> (a0O (2,12,y8.1,y8.2)).bind fun y9=> (a0O (12,14,y9.1,y9.2)).bind fun y10=> (a0O (16,14,y10.1,y10.2)).bind fun y11=> some (y11.2,())) (some (z6.2.1,()))).bind fun z12=> some z12.1
def b1L:FSem:=⟨[.v QL,.v QI],[.v (.list false Q31)],a5N⟩
def H93:Hints:=⟨[(4050,[.sv 50 QI,.box 5 (.list true Q31),.box 2 QL,.ptr 5 5 [],.clo 6 176 [2,5]],[(.exit 0,[.box 5 (.list true Q31),.box 2 QL,.ptr 5 5 [],.clo 6 176 [2,5]])])],[(15,[(.normal,[.sv 1 QI,.box 2 QL,.box 5 (.list true Q31),.ptr 2 2 [],.ptr 5 5 [],.clo 6 176 [2,5]])]),(31,[(.normal,[.sv 1 QI,.box 5 (.list true Q31),.box 2 QL,.ptr 5 5 [],.clo 6 176 [2,5]])]),(63,[(.normal,[.box 5 (.list true Q31),.ptr 5 5 []])])],[]⟩
def a6l(s:((List Int)×(Int×Bool×Z94×c1Q))):Option (((List Int)×(Int×Bool×Z94×c1Q)) ⊕ b0J):= cond (decide (s.2.2.2.2.2.1<s.2.2.2.2.1)) ((l0z s.2.2.2.1 s.2.2.2.2.2.1).bind fun x6=> (b1i (x6.1,s.1,x6)).bind fun y7=> cond (y7.2 != 0) (some (.inl (s.1,s.2.1,s.2.2.1,s.2.2.2.1,s.2.2.2.2.1,wrap .i64 (s.2.2.2.2.2.1+1),s.2.2.2.2.2.2.1,s.2.2.2.2.2.2.2.1,()))) ((a3I (y7.1,(s.1.length:Int))).bind fun y8=> (show Option ((List Int)×(Int×Bool×Int×Z94×Int×Int×Bool×Z93×b0J))from cond (!s.2.2.1) (some (s.1,s.2.1,s.2.2.1,y8,s.2.2.2.1,s.2.2.2.2.1,s.2.2.2.2.2.1,true,s.2.2.2.2.2.2.1,s.2.2.2.2.2.2.2.1,y7.1,())) (some (s.1,s.2.1,s.2.2.1,y8,s.2.2.2.1,s.2.2.2.2.1,s.2.2.2.2.2.1,decide (y8<s.2.1),s.2.2.2.2.2.2.1,s.2.2.2.2.2.2.2.1,y7.1,()))).bind fun z9=> cond z9.2.2.2.2.2.2.2.1 (some (.inl (z9.1,z9.2.2.2.1,true,z9.2.2.2.2.1,z9.2.2.2.2.2.1,wrap .i64 (z9.2.2.2.2.2.2.1+1),z9.2.2.2.2.2.2.2.2.1,z9.2.2.2.2.2.2.2.2.2.2.1,()))) (some (.inl (z9.1,z9.2.1,z9.2.2.1,z9.2.2.2.2.1,z9.2.2.2.2.2.1,wrap .i64 (z9.2.2.2.2.2.2.1+1),z9.2.2.2.2.2.2.2.2.1,z9.2.2.2.2.2.2.2.2.2.1,()))))) (some (.inr (s.2.2.2.2.2.2.1,s.2.2.2.2.2.2.2.1,())))
def a4N(x:((List Int)×Int)):Option Z95:= (show Option ((List Int)×Z99)from cond (decide ((x.1.length:Int)<1)) (some (x.1,x.2,true,(0,0,0,0,0,[],a00 3 0,[],[],(0,[],()),[],()),())) (cond (decide ((x.1.length:Int) > 4096)) (some (x.1,x.2,true,(0,0,0,0,0,[],a00 3 0,[],[],(0,[],()),[],()),())) (cond (decide (x.2<0)) (some (x.1,x.2,true,(0,0,0,0,0,[],a00 3 0,[],[],(0,[],()),[],()),())) (some (x.1,x.2,decide (x.2 > 3),(0,0,0,0,0,[],a00 3 0,[],[],(0,[],()),[],()),()))))).bind fun z1=> cond z1.2.2.1 (some ((0,0,0,0,0,[],a00 3 0,[],[],(0,[],()),[],()),1)) ((a1T z1.1).bind fun y2=> cond (!y2) (some ((0,0,0,0,0,[],a00 3 0,[],[],(0,[],()),[],()),6)) ((a3o z1.1).bind fun y3=> (a6j (z1.1,y3)).bind fun y4=> cond (y4.2 != 0) (some ((0,0,0,0,0,[],a00 3 0,[],[],(0,[],()),[],()),y4.2)) ((a5N (y4.1,z1.2.1)).bind fun y5=> (x0r a6l (z1.1,0,false,y5,(y5.length:Int),0,z1.2.2.2.1,(0,0,0,0,0,[],a00 3 0,[],[],(0,[],()),[],()),())).bind fun w10=> some (w10.2.1,0))))
def b6L:FSem:=⟨[.v QL,.v QI],[.v Q31,.v QI],a4N⟩
def H40:Hints:=⟨[(2042,[.sv 0 QL,.sv 9 QI,.sv 10 .bool,.sv 50 (.list false Q31),.sv 51 QI,.sv 52 QI,.box 4 Q31,.box 8 Q31,.ptr 4 4 [],.ptr 8 8 []],[(.exit 0,[.box 4 Q31,.box 8 Q31,.ptr 4 4 [],.ptr 8 8 []])])],[(6,[(.normal,[.sv 0 QL,.sv 1 QI,.sv 31 .bool,.box 4 Q31,.ptr 4 4 []])]),(1045711,[(.normal,[.sv 0 QL,.sv 9 QI,.sv 10 .bool,.sv 15 QI,.sv 50 (.list false Q31),.sv 51 QI,.sv 52 QI,.sv 76 .bool,.box 4 Q31,.box 8 Q31,.box 13 Q31,.ptr 4 4 [],.ptr 8 8 [],.ptr 13 13 []])])],[]⟩
def a6Y(s:(Z14×Z26)):Option ((Z14×Z26) ⊕ (Z2 ⊕ Z13)):= cond (decide (s.2.2.1<s.2.1)) ((l0z s.1 s.2.2.1).bind fun x5=> (a6T (s.2.2.2.1,x5,1)).bind fun y6=> cond (!y6.1) (some (.inr (Sum.inr ((([]:(List (List Int))),6,()))))) (some (.inl (s.1,s.2.1,wrap .i64 (s.2.2.1+1),y6.2,())))) (some (.inr (Sum.inl (s.2.2.2.1,()))))
def b0E(x:((List (List Int))×Z14)):Option ((List (List Int))×Int):= (show Option ((List (List Int))×(Z14×Bool×Unit))from(a6u x.1).bind fun y1=> cond (!y1) (some (x.1,x.2,true,())) ((a7h (x.2,(x.1.length:Int))).bind fun y2=> some (x.1,x.2,!y2,()))).bind fun z3=> cond z3.2.2.1 (some (([]:(List (List Int))),1)) ((a6c z3.1).bind fun y4=> (x0r a6Y (z3.2.1,(z3.2.1.length:Int),0,y4,())).bind fun w7=> match w7 with |.inl a8=>some (a8.1,0) |.inr b9=>some (b9.1,b9.2.1))
def b4W:FSem:=⟨[.v (.list false QL),.v (.list false Q8)],[.v (.list false QL),.v QI],b0E⟩
def H79:Hints:=⟨[(122,[.sv 21 (.list false Q8),.sv 22 QI,.sv 23 QI,.own 6 6 (.list true QI)],[(.exit 0,[.own 6 6 (.list true QI)]),(.ret,[.sv 4 (.list false QL),.sv 5 QI])])],[(6,[(.normal,[.sv 0 (.list false QL),.sv 1 (.list false Q8),.sv 18 .bool])])],[]⟩
def a5O(s:(Int×((List Int)×Z40))):Option ((Int×((List Int)×Z40)) ⊕ Z40):= cond (decide (s.2.2.1<(s.2.1.length:Int))) ((l0z s.2.1 s.2.2.1).bind fun x3=> (l0z s.2.1 (wrap .i64 (s.2.2.1-1))).bind fun x4=> (l0z s.2.1 (wrap .i64 (s.2.2.1-2))).bind fun x5=> some (.inl (wrap .i64 (s.1+(u0z (wrap .i64 ((wrap .i64 (x3-(wrap .i64 (2*x4))))+x5)) (wrap .i64 (0-(wrap .i64 ((wrap .i64 (x3-(wrap .i64 (2*x4))))+x5)))))),s.2.1,wrap .i64 (s.2.2.1+1),s.2.2.2.1,s.2.2.2.2.1,s.2.2.2.2.2.1,()))) (some (.inr (s.1,s.2.2.2.1,s.2.2.2.2.1,s.2.2.2.2.2.1,())))
def a5P(s:Z40):Option (Z40 ⊕ (Int×Unit)):= cond (decide (s.2.2.2.1<s.2.2.1)) ((l0z s.2.1 s.2.2.2.1).bind fun x2=> (x0r a5O (s.1,x2,2,s.2.1,s.2.2.1,s.2.2.2.1,())).bind fun w6=> some (.inl (w6.1,w6.2.1,w6.2.2.1,wrap .i64 (w6.2.2.2.1+1),()))) (some (.inr (s.1,())))
def a6m(x:(List (List Int))):Option Int:= (a6u x).bind fun y1=> cond (!y1) (some 0) ((x0r a5P (0,x,(x.length:Int),0,())).bind fun w7=> some w7.1)
def b4A:FSem:=⟨[.v (.list false QL)],[.v QI],a6m⟩
def d0W:Hints:=⟨[(122,[.sv 3 QI,.sv 11 (.list false QL),.sv 12 QI,.sv 13 QI],[(.exit 0,[.sv 3 QI])]),(31334,[.sv 3 QI,.sv 5 QL,.sv 6 QI,.sv 11 (.list false QL),.sv 12 QI,.sv 13 QI],[(.exit 2,[.sv 3 QI,.sv 11 (.list false QL),.sv 12 QI,.sv 13 QI])])],[],[(10,[.v,.v,.v,.v,.v,.v,.v,.v,.v,.v,.v,.v,.v,.v,.v,.v,.x,.x])]⟩
def a8Q(x:Int):Option Z14:= cond (x==1) (some ([(0,1,(-256),())]:List Z7)) (cond (x==2) (some ([(1,0,(-256),())]:List Z7)) (cond (x==3) (some ([(1,0,(-256),()),(0,1,128,())]:List Z7)) (cond (x==4) (some ([(1,0,(-106),()),(0,1,181,()),(1,0,(-106),())]:List Z7)) (some []))))
def b4X:FSem:=⟨[.v QI],[.o Q8],a8Q⟩
def d0X:Hints:=⟨[],[],[]⟩
def a5n(s:((List (List Int))×Z7)):Option (((List (List Int))×Z7) ⊕ (Int×Unit)):= cond (decide (s.2.2.2.1<5)) ((a8Q s.2.2.2.1).bind fun y2=> (b0E (s.1,y2)).bind fun y3=> cond (y3.2 != 0) (some (.inl (s.1,s.2.1,s.2.2.1,wrap .i64 (s.2.2.2.1+1),()))) ((a6m y3.1).bind fun y4=> cond (decide (y4<s.2.2.1)) (some (.inl (s.1,s.2.2.2.1,y4,wrap .i64 (s.2.2.2.1+1),()))) (some (.inl (s.1,s.2.1,s.2.2.1,wrap .i64 (s.2.2.2.1+1),()))))) (some (.inr (s.2.1,())))
def a9P(x:(List (List Int))):Option Z14:= (a6m x).bind fun y1=> (x0r a5n (x,0,y1,1,())).bind fun w5=> (a8Q w5.1).bind fun y6=> some y6
def b5P:FSem:=⟨[.v (.list false QL)],[.o Q8],a9P⟩
def d0Y:Hints:=⟨[(58,[.sv 0 (.list false QL),.sv 3 QI,.sv 4 QI,.sv 5 QI],[(.exit 0,[.sv 3 QI])])],[],[]⟩
def a5o(s:(Int×Int×Int×Z14×Z81)):Option ((Int×Int×Int×Z14×Z81) ⊕ (Int×Z81)):= cond (decide (s.2.2.1<s.2.1)) (cond ((decide (0≤s.2.2.1))&&(decide (s.2.2.1<(s.2.2.2.2.1.length:Int)))) (cond (lim ((a02 s.2.2.2.1)+1)) (some (.inl (s.1,s.2.1,wrap .i64 (s.2.2.1+1),a03 s.2.2.2.1 ([(wrap .i64 (((a04 s.2.2.2.2.1 (a01 s.2.2.1) (0,0,0,())).1)+s.1),wrap .i64 ((((a04 s.2.2.2.2.1 (a01 s.2.2.1) (0,0,0,())).2).1)+s.1),(((a04 s.2.2.2.2.1 (a01 s.2.2.1) (0,0,0,())).2).2).1,())]:List Z7),s.2.2.2.2.1,s.2.2.2.2.2.1,()))) none) none) (some (.inr (s.1,s.2.2.2.1,s.2.2.2.2.2.1,())))
def a7y(s:(Int×Z81)):Option ((Int×Z81) ⊕ (Z14×Unit)):= cond (decide ((wrap .i64 (s.1+1))<(s.2.2.1.2.1.length:Int))) (cond ((decide (0≤(wrap .i64 (s.1+2))))&&(decide ((wrap .i64 (s.1+2))≤(s.2.2.1.2.1.length:Int)))) (cond ((decide (0≤s.1))&&(decide (s.1≤((a01 (wrap .i64 (s.1+2)):Nat):Int)))) ((a9P (a31 (a01 s.1) (a08 (a01 (wrap .i64 (s.1+2))) s.2.2.1.2.1))).bind fun y2=> (x0r a5o (s.1,(y2.length:Int),0,s.2.1,y2,s.2.2.1,())).bind fun w3=> some (.inl (wrap .i64 (w3.1+2),w3.2.1,w3.2.2.1,()))) none) none) (some (.inr (s.2.1,())))
def a6B(x:Z12):Option Z14:= (a6v x).bind fun y1=> cond (!y1) (some []) ((x0r a7y (0,[],x,())).bind fun w4=> some w4.1)
def b5Q:FSem:=⟨[.v Q10],[.o Q8],a6B⟩
def H78:Hints:=⟨[(122,[.sv 4 QI,.own 3 3 Q8,.vp 1 Q10],[(.exit 0,[.own 3 3 Q8])]),(7826,[.sv 4 QI,.sv 25 QI,.sv 26 QI,.own 3 3 Q8,.own 24 1024 Q8,.vp 1 Q10],[(.exit 2,[.sv 4 QI,.own 3 3 Q8,.vp 1 Q10])])],[],[]⟩
def a4O(s:(Int×((List (List Int))×(Int×Int×a4R×b2H)))):Option ((Int×((List (List Int))×(Int×Int×a4R×b2H))) ⊕ ((a4R×b2H) ⊕ (Int×b2H))):= cond (decide (s.2.2.2.1<s.2.2.1)) ((l0z s.2.1 s.2.2.2.1).bind fun x8=> (a4N (x8,s.1)).bind fun y9=> cond (y9.2 != 0) (some (.inr (Sum.inr ((y9.2,(0,0,(0,0,0,()),[],[],()),()))))) (cond (lim ((a02 s.2.2.2.2.2.1.2.2.2.2.1)+1)) (some (.inl (s.1,s.2.1,s.2.2.1,wrap .i64 (s.2.2.2.1+1),s.2.2.2.2.1,(s.2.2.2.2.2.1.1,s.2.2.2.2.2.1.2.1,s.2.2.2.2.2.1.2.2.1,s.2.2.2.2.2.1.2.2.2.1,a03 s.2.2.2.2.2.1.2.2.2.2.1 ([y9.1]:List Z93),s.2.2.2.2.2.1.2.2.2.2.2),()))) none)) (some (.inr (Sum.inl (s.2.2.2.2.1,s.2.2.2.2.2.1,()))))
def a5p(x:(Z12×Z7×Int×Int)):Option (a4R×Int):= (show Option (Int×Int×Bool×a4R×Z12×Z7×Unit)from(a6v x.1).bind fun y1=> cond (!y1) (some (x.2.2.1,x.2.2.2,true,(0,0,(0,0,0,()),[],[],()),x.1,x.2.1,())) ((a5W x.2.1).bind fun y2=> cond (!y2) (some (x.2.2.1,x.2.2.2,true,(0,0,(0,0,0,()),[],[],()),x.1,x.2.1,())) (cond (x.1.1 != x.2.1.2.2.1) (some (x.2.2.1,x.2.2.2,true,(0,0,(0,0,0,()),[],[],()),x.1,x.2.1,())) (cond ((x.1.2.1.length:Int) != x.2.1.2.1) (some (x.2.2.1,x.2.2.2,true,(0,0,(0,0,0,()),[],[],()),x.1,x.2.1,())) (cond (decide (x.2.2.2<0)) (some (x.2.2.1,x.2.2.2,true,(0,0,(0,0,0,()),[],[],()),x.1,x.2.1,())) (cond (decide (x.2.2.2 > 3)) (some (x.2.2.1,x.2.2.2,true,(0,0,(0,0,0,()),[],[],()),x.1,x.2.1,())) (some (x.2.2.1,x.2.2.2,decide (x.2.2.1<0),(0,0,(0,0,0,()),[],[],()),x.1,x.2.1,())))))))).bind fun z3=> cond z3.2.2.1 (some ((0,0,(0,0,0,()),[],[],()),1)) ((a4S z3.2.2.2.2.1).bind fun y4=> cond (decide (z3.1 > (wrap .i64 (4194304-y4)))) (some ((0,0,(0,0,0,()),[],[],()),4)) ((show Option (Int×a4R×a4R×Z28)from cond (decide (z3.2.1 > 0)) ((a6B z3.2.2.2.2.1).bind fun y5=> some (z3.2.1,z3.2.2.2.1,(z3.1,y4,z3.2.2.2.2.2.1,y5,[],()),z3.2.2.2.2.1,())) (some (z3.2.1,z3.2.2.2.1,(z3.1,y4,z3.2.2.2.2.2.1,[],[],()),z3.2.2.2.2.1,()))).bind fun z6=> (b0E (z6.2.2.2.1.2.1,z6.2.2.1.2.2.2.1)).bind fun y7=> cond (y7.2 != 0) (some ((0,0,(0,0,0,()),[],[],()),y7.2)) ((x0r a4O (z6.1,y7.1,(y7.1.length:Int),0,z6.2.1,z6.2.2.1,())).bind fun w10=> match w10 with |.inl a11=>some (a11.2.1,0) |.inr b12=>some (b12.2.1,b12.1))))
def b1M:FSem:=⟨[.v Q10,.v Q8,.v QI,.v QI],[.v Q49,.v QI],a5p⟩
def H30:Hints:=⟨[(2042,[.sv 3 QI,.sv 81 (.list false QL),.sv 82 QI,.sv 83 QI,.box 8 Q49,.box 10 Q48,.ptr 8 8 [],.ptr 10 10 []],[(.exit 0,[.box 8 Q49,.box 10 Q48,.ptr 8 8 [],.ptr 10 10 []]),(.ret,[.sv 9 QI,.box 8 Q49,.ptr 8 8 []])])],[(6,[(.normal,[.sv 2 QI,.sv 3 QI,.sv 51 .bool,.box 8 Q49,.vp 4 Q10,.vp 5 Q8,.ptr 8 8 []])]),(31,[(.normal,[.sv 3 QI,.box 8 Q49,.box 10 Q48,.vp 4 Q10,.ptr 8 8 [],.ptr 10 10 []])])],[(3,[.v,.v,.v,.v,.v,.q,.x])]⟩
def H43:Hints:=⟨[(26,[.sv 0 (.list false (.int .u8)),.sv 5 QI],[(.exit 0,[]),(.ret,[.sv 4 QI])])],[],[]⟩
def b4Y(x:((List Int)×Int)):Option Int:=z0c (a7C [(24,a6W)] [] [0,1,4,5,7,8] []) H43 Tryz.f43 [.v (.list false (.int .u8)),.v (.int .i64)] [.v (.int .i64)] x
def b4Z:FSem:=⟨[.v (.list false (.int .u8)),.v QI],[.v QI],b4Y⟩
def b2Q(x:Unit):Option Bool:= (a5p ((8,([[3,3],[3,3]]:List (List Int)),()),(8000,2,8,()),5,0)).bind fun y1=> (a6y y1.1).bind fun y2=> (a2D y2.1).bind fun y3=> (a6d y3.1).bind fun y4=> (a6X y2.1).bind fun y5=> cond (y1.2==0) (cond (y2.2==0) (cond (y3.2.2==0) (cond (y4.2==0) (cond (y5.2.2.2==0) (cond (y3.2.1==(y2.1.length:Int)) ((b2m (y1.1,y3.1)).bind fun y6=> cond y6 ((b2k ((8,([[3,3],[3,3]]:List (List Int)),()),y4.1)).bind fun y7=> cond y7 (cond (eqT Q8 y5.1 ((8000: Int),(2: Int),(8: Int),())) (cond (y5.2.1==5) (cond (y5.2.2.1==2) (cond (lim (2+(a02 y2.1))) ((b4Y (a03 [1,245] y2.1,0)).bind fun y8=> cond (y8==2) (cond (decide ((y2.1.length:Int) > 2)) ((l0z y2.1 0).bind fun x9=> cond (x9==245) ((l0z y2.1 1).bind fun x10=> some (x10==75)) (some false)) (some false)) (some false)) none) (some false)) (some false)) (some false)) (some false)) (some false)) (some false)) (some false)) (some false)) (some false)) (some false)) (some false)
def b5R:FSem:=⟨[],[.v .bool],b2Q⟩
def H15:Hints:=⟨[],[],[]⟩
def a6n(s:Z56):Option (Z56 ⊕ Z0):= cond (decide (s.2.1<(s.2.2.1.2.1.length:Int))) ((l0z s.2.2.1.2.1 s.2.1).bind fun x1=> cond (decide ((x1.length:Int) > s.1)) (some (.inr (Sum.inr ((false,()))))) (some (.inl (s.1,wrap .i64 (s.2.1+1),s.2.2.1,())))) (some (.inr (Sum.inl ())))
def b1j(x:(Z12×Int)):Option Bool:= cond (decide ((x.1.2.1.length:Int) > 12)) (some false) ((x0r a6n (x.2,0,x.1,())).bind fun w2=> match w2 with |.inl a3=>some true |.inr b4=>some b4.1)
def b6M:FSem:=⟨[.v Q10,.v QI],[.v .bool],b1j⟩
def H29:Hints:=⟨[(58,[.sv 1 QI,.sv 5 QI,.vp 2 Q10],[(.exit 0,[]),(.ret,[.sv 4 .bool])])],[],[]⟩
def a5q(s:Z13):Option (Z13 ⊕ Z0):= cond (decide (s.2.1<(s.1.length:Int))) ((l0z s.1 s.2.1).bind fun x2=> (l0z s.1 0).bind fun x3=> cond ((x2.length:Int) != (x3.length:Int)) (some (.inr (Sum.inr ((false,()))))) (some (.inl (s.1,wrap .i64 (s.2.1+1),())))) (some (.inr (Sum.inl ())))
def a9Q(x:(List (List Int))):Option Bool:= (show Option ((List (List Int))×(Bool×Unit))from cond (decide ((x.length:Int)<1)) (some (x,true,())) (some (x,decide ((x.length:Int) > 8),()))).bind fun z1=> cond z1.2.1 (some false) ((x0r a5q (z1.1,0,())).bind fun w4=> match w4 with |.inl a5=>some true |.inr b6=>some b6.1)
def b5S:FSem:=⟨[.v (.list false QL)],[.v .bool],a9Q⟩
def H84:Hints:=⟨[(58,[.sv 0 (.list false QL),.sv 3 QI],[(.exit 0,[]),(.ret,[.sv 2 .bool])])],[(6,[(.normal,[.sv 0 (.list false QL),.sv 11 .bool])])],[(6,[.v,.v,.v,.v,.v,.v,.v,.v,.v,.x])]⟩
def b6l(x:Int):Option Int:= (show Option (Int×Bool×Unit)from cond (decide (x<1)) (some (x,true,())) (some (x,decide (x > 31),()))).bind fun z1=> cond z1.2.1 (some 0) (cond (decide ((wrap .u64 (wrap .i64 (z1.1-1)))<0)) none (some (z0g .i64 (-1) (wrap .u64 (wrap .i64 (z1.1-1))))))
def b9q:FSem:=⟨[.v QI],[.v QI],b6l⟩
def d0Z:Hints:=⟨[],[(6,[(.normal,[.sv 0 QI,.sv 8 .bool])])],[]⟩
def b5a(x:Int):Option Int:= (show Option (Int×Bool×Unit)from cond (decide (x<1)) (some (x,true,())) (some (x,decide (x > 31),()))).bind fun z1=> cond z1.2.1 (some 0) (cond (decide ((wrap .u64 (wrap .i64 (z1.1-1)))<0)) none (some (wrap .i64 ((z0g .i64 1 (wrap .u64 (wrap .i64 (z1.1-1))))-1))))
def b8h:FSem:=⟨[.v QI],[.v QI],b5a⟩
def d1a:Hints:=⟨[],[(6,[(.normal,[.sv 0 QI,.sv 8 .bool])])],[]⟩
def b0F(x:(Int×Int)):Option Bool:= cond (decide (x.2≥1)) (cond (decide (x.2≤31)) ((b6l x.2).bind fun y1=> cond (decide (x.1≥y1)) ((b5a x.2).bind fun y2=> some (decide (x.1≤y2))) (some false)) (some false)) (some false)
def b8i:FSem:=⟨[.v QI,.v QI],[.v .bool],b0F⟩
def H85:Hints:=⟨[],[],[]⟩
def a2J(s:Z56):Option (Z56 ⊕ (Z46 ⊕ (Bool×Unit))):= (l0z s.2.2.1.2.1 s.1).bind fun x5=> cond (decide (s.2.1<(x5.length:Int))) ((l0z s.2.2.1.2.1 s.1).bind fun x6=> (l0z x6 s.2.1).bind fun x7=> (b0F (x7,s.2.2.1.1)).bind fun y8=> cond (!y8) (some (.inr (Sum.inr ((false,()))))) (some (.inl (s.1,wrap .i64 (s.2.1+1),s.2.2.1,())))) (some (.inr (Sum.inl (s.1,s.2.2.1,()))))
def a3C(s:Z46):Option (Z46 ⊕ Z0):= cond (decide (s.1<(s.2.1.2.1.length:Int))) ((x0r a2J (s.1,0,s.2.1,())).bind fun w9=> match w9 with |.inl a10=>some (.inl (wrap .i64 (a10.1+1),a10.2.1,())) |.inr b11=>some (.inr (Sum.inr ((b11.1,()))))) (some (.inr (Sum.inl ())))
def a5r(x:Z12):Option Bool:= (show Option Z48 from cond (decide (x.1<4)) (some (true,x,())) (cond (decide (x.1 > 24)) (some (true,x,())) ((a9Q x.2.1).bind fun y1=> cond (!y1) (some (true,x,())) ((l0z x.2.1 0).bind fun x2=> cond (decide ((x2.length:Int)<1)) (some (true,x,())) ((l0z x.2.1 0).bind fun x3=> some (decide ((x3.length:Int) > 4096),x,())))))).bind fun z4=> cond z4.1 (some false) ((x0r a3C (0,z4.2.1,())).bind fun w12=> match w12 with |.inl a13=>some true |.inr b14=>some b14.1)
def b3m:FSem:=⟨[.v Q10],[.v .bool],a5r⟩
def H32:Hints:=⟨[(58,[.sv 3 QI,.vp 1 Q10],[(.exit 0,[]),(.ret,[.sv 2 .bool])]),(3730,[.sv 3 QI,.sv 4 QI,.vp 1 Q10],[(.exit 2,[.sv 3 QI,.vp 1 Q10]),(.ret,[.sv 2 .bool])])],[(6,[(.normal,[.sv 34 .bool,.vp 1 Q10])])],[(9,[.v,.v,.v,.v,.v,.v,.v,.v,.v,.v,.x,.x])]⟩
def a9m(x:(Z12×Int×Int)):Option Bool:= (b2Q ()).bind fun y1=> cond (!y1) (some false) ((show Option (Int×Int×Z48)from(b1j (x.1,60)).bind fun y2=> cond (!y2) (some (x.2.1,x.2.2,true,x.1,())) ((a5r x.1).bind fun y3=> some (x.2.1,x.2.2,!y3,x.1,()))).bind fun z4=> cond z4.2.2.1 (some true) ((a5p (z4.2.2.2.1,(44100,(z4.2.2.2.1.2.1.length:Int),z4.2.2.2.1.1,()),7,bits .i64 .and z4.1 3)).bind fun y5=> (a6y y5.1).bind fun y6=> (show Option (Int×Z8)from cond (y5.2 != 0) (some (z4.2.1,true,y6.1,())) (cond (y6.2 != 0) (some (z4.2.1,true,y6.1,())) (some (z4.2.1,(y6.1.length:Int)==0,y6.1,())))).bind fun z7=> cond z7.2.1 (some false) (cond ((z7.2.2.1.length:Int)==0) none (cond ((decide (0≤(a16 (bits .i64 .and z7.1 65535) (z7.2.2.1.length:Int))))&&(decide ((a16 (bits .i64 .and z7.1 65535) (z7.2.2.1.length:Int))≤(z7.2.2.1.length:Int)))) ((a2D (a08 (a01 (a16 (bits .i64 .and z7.1 65535) (z7.2.2.1.length:Int))) (a31 0 z7.2.2.1))).bind fun y8=> cond (y8.2.2==3) (some (y8.2.1==0)) (some false)) none))))
def b3n:FSem:=⟨[.v Q10,.v QI,.v QI],[.v .bool],a9m⟩
def H9:Hints:=⟨[],[(14,[(.normal,[.sv 1 QI,.sv 2 QI,.sv 23 .bool,.vp 3 Q10])]),(126,[(.normal,[.sv 2 QI,.sv 52 .bool,.own 9 9 (.int .u8)])])],[]⟩
end Go.Ab
namespace Go.Ab
open Go.Proofs
set_option maxRecDepth 100000
theorem b2p:Tryz.prog.follows .mixedOrders=true:=by kernel_rfl
theorem d1b:z0w Tryz.prog b9g=true:=by kernel_rfl
theorem d1c:z0u Tryz.prog b9m=true:=by kernel_rfl
theorem d1d:z0r Tryz.prog b9g c1R=true:=by kernel_rfl
theorem laidOut:laidOutB Tryz.prog=true:=by kernel_rfl
@[reducible] def Ok0(n:Nat)(s:FSem):Prop:=f0r Tryz.prog G0 n s∧i0o Tryz.prog n
theorem cxo{a:List (Nat×FSem)}{b:List (Nat×Ty)}{c d:List Nat}(h:∀p∈a,Ok0 p.1 p.2):CxOk Tryz.prog (a7C a b c d):=
 CxOk.of (CxTy.of (tab:=b9g) (l:=c1R) (q:=b9m) (fun _=>rfl) (fun _=>rfl) (fun _=>rfl) d1b d1c d1d) (fun _=>rfl) h
theorem fo (a : List (Nat × FSem)) (b : List (Nat × Ty)) (c d : List Nat) (H : Hints) {n : Nat} {fn : Func} {e : Code} {s : FSem} (h : ∀ p ∈ a, Ok0 p.1 p.2) (hf : Tryz.prog.funcs[n]? = some fn) (hb : fn.body = some e := by rfl) (hk : z0f fn e H s = true := by kernel_rfl) (hn : (fn.name == "runtime.NumGoroutine") = false := by kernel_rfl) (hq : ∀ x, z0c (a7C a b c d) H fn s.ps s.rs x = s.F x := by intro x; kernel_rfl) : Ok0 n s :=
 ⟨f0r.of (cxo h) b2p hf hb hk hq,⟨_,_,hf,hb,hn⟩⟩
theorem c4R:Ok0 109 b0K:=
 fo [] [] [0,2] [] c8r a0 Tryz.func109
theorem c6g:Ok0 77 b0L:=
 fo [(109,b0K)] [] [0,2] [1] H77 (a1 c4R a0) Tryz.func77
theorem c1T:Ok0 102 b1a:=
 fo [] [] [0,1,4] [] c8s a0 Tryz.func102
theorem c6h:Ok0 44 b0M:=
 fo [(77,b0L),(102,b1a)] [] [0,2] [1] H44 (a1 c6g (a1 c1T a0)) Tryz.func44
theorem c3W:Ok0 90 a7V:=
 fo [] [] [0,2,4] [] H90 a0 Tryz.func90
theorem c1U:Ok0 126 a8v:=
 fo [] [] [0,2] [] c8t a0 Tryz.func126
theorem c1V:Ok0 217 a8w:=
 fo [] [] [0,1,4,6] [] c8u a0 Tryz.func217
theorem c1W:Ok0 218 b1b:=
 fo [] [] [0,1,4,6] [3] c8v a0 Tryz.func218
theorem c4S:Ok0 281 b0N:=
 fo [] [] [0,2] [1] c8w a0 Tryz.func281
theorem c1X:Ok0 219 a9x:=
 fo [(281,b0N)] [] [0,2] [] c8x (a1 c4S a0) Tryz.func219
theorem c1Y:Ok0 149 b2g:=
 fo [(217,a8w),(218,b1b),(219,a9x)] [] [0,1,2,6,8,11,27,41,62] [4] c8y (a1 c1V (a1 c1W (a1 c1X a0))) Tryz.func149
theorem c1Z:Ok0 150 a8x:=
 fo [] [] [0,1,4,7,9,12,16] [2] c8z a0 Tryz.func150
theorem b9r:Ok0 87 a0Y:=
 ⟨f0r.of (cx:=c5Y) (cxo a0) b2p Tryz.func87 rfl (by kernel_rfl) c8A,⟨_,_,Tryz.func87,rfl,by kernel_rfl⟩⟩
theorem c6Q:Ok0 87 a1D:=
 ⟨f0r.of (cx:=c4P) (cxo a0) b2p Tryz.func87 rfl (by kernel_rfl) c6M,⟨_,_,Tryz.func87,rfl,by kernel_rfl⟩⟩
theorem c6i:Ok0 229 a1b:=
 ⟨f0r.of (cx:=c2Z) (cxo a0) b2p Tryz.func229 rfl (by kernel_rfl) c5Z,⟨_,_,Tryz.func229,rfl,by kernel_rfl⟩⟩
theorem c4T:Ok0 169 b1y:=
 fo [(87,a1D),(229,a1b)] [] [0,1,9,11,13,15] [3] c8C (a1 c6Q (a1 c6i a0)) Tryz.func169
theorem c6R:Ok0 188 b5x:=
 fo [(169,b1y)] [] [0,2] [1] c8D (a1 c4T a0) Tryz.func188
theorem c2a:Ok0 220 a9z:=
 fo [] [] [0,1,4] [] c8E a0 Tryz.func220
theorem b6N:Ok0 209 a4w:=
 fo [(220,a9z)] [] [0,1,2,6,7,8] [] c8F (a1 c2a a0) Tryz.func209
theorem c4U:Ok0 189 b2I:=
 fo [(209,a4w)] [] [0,1,2,6,7,9] [3] c8G (a1 b6N a0) Tryz.func189
theorem c6S:Ok0 103 b4K:=
 fo [(90,a7V),(126,a8v),(149,b2g),(150,a8x),(188,b5x),(189,b2I)] [] [0,1,4,5] [2] c8H (a1 c3W (a1 c1U (a1 c1Y (a1 c1Z (a1 c6R (a1 c4U a0)))))) Tryz.func103
theorem c4V:Ok0 251 b1z:=
 fo [] [] [0,2,4] [] c8I a0 Tryz.func251
theorem c6T:Ok0 294 b2i:=
 fo [] [] [0,1,3] [] c8J a0 Tryz.func294
theorem c6U:Ok0 252 b4r:=
 fo [(294,b2i)] [] [0,1,4,5,8,12,20,32] [] c8K (a1 c6T a0) Tryz.func252
theorem c6V:Ok0 190 b4L:=
 fo [(251,b1z),(252,b4r)] [] [0,1,2,6,7,8,10,11] [] c8L (a1 c4V (a1 c6U a0)) Tryz.func190
theorem c2b:Ok0 255 a7X:=
 fo [] [] [0,2] [] c8M a0 Tryz.func255
theorem c2c:Ok0 253 a5G:=
 fo [(255,a7X)] [] [0,2,4] [] c8N (a1 c2b a0) Tryz.func253
theorem c4W:Ok0 254 a8j:=
 fo [] [] [0,1,2,6,7,8,9,10] [] c8O a0 Tryz.func254
theorem c6W:Ok0 191 b4s:=
 fo [(217,a8w),(253,a5G),(254,a8j),(255,a7X)] [] [0,1,2,3,8,9,10,12,13] [] c8P (a1 c1V (a1 c2c (a1 c4W (a1 c2b a0)))) Tryz.func191
theorem c2d:Ok0 258 a9A:=
 fo [] [] [0,2] [] c8Q a0 Tryz.func258
theorem c2e:Ok0 256 a7j:=
 fo [(258,a9A)] [] [0,2,4] [] c8R (a1 c2d a0) Tryz.func256
theorem c4X:Ok0 257 a9j:=
 fo [] [] [0,1,2,3,8,9,10,11,12] [7] c8S a0 Tryz.func257
theorem c6X:Ok0 192 b5y:=
 fo [(218,b1b),(256,a7j),(257,a9j),(258,a9A)] [] [0,1,2,6,7,8,9,10,11] [5] c8T (a1 c1W (a1 c2e (a1 c4X (a1 c2d a0)))) Tryz.func192
theorem c2f:Ok0 263 a8A:=
 fo [] [] [0,2] [] c8U a0 Tryz.func263
theorem c4Y:Ok0 259 a8B:=
 fo [(263,a8A)] [] [0,2,4] [] c8V (a1 c2f a0) Tryz.func259
theorem c4Z:Ok0 261 b2J:=
 fo [(281,b0N)] [(15,.pair QI Q9),(16,.pair QI Q9)] [0,2,3] [1] c8W (a1 c4S a0) Tryz.func261
theorem c5a:Ok0 296 a8C:=
 fo [] [] [0,2] [] c8X a0 Tryz.func296
theorem c2g:Ok0 262 a3F:=
 fo [(296,a8C)] [] [0,2,3,4,5] [] c8Y (a1 c5a a0) Tryz.func262
theorem c5b:Ok0 264 a6F:=
 fo [(262,a3F),(296,a8C)] [] [0,1,4,5,6,7,8,13,22] [] c8Z (a1 c2g (a1 c5a a0)) Tryz.func264
theorem c6Y:Ok0 193 a6S:=
 ⟨f0r.ofR (cx:=c4Q) (cxo (a1 b9r (a1 c1X (a1 c4Y (a1 c4Z (a1 c2g (a1 c2f (a1 c5b a0)))))))) b2p (r:=c6a) ⟨c5s,c5t⟩ Tryz.func193 rfl (by kernel_rfl) c6O,⟨_,_,Tryz.func193,rfl,by kernel_rfl⟩⟩
theorem c5c:Ok0 173 b0O:=
 fo [] [] [0,2] [] c9b a0 Tryz.func173
theorem c6Z:Ok0 194 b5z:=
 fo [(173,b0O)] [] [0,1,4,5,6,8] [] c9c (a1 c5c a0) Tryz.func194
theorem c7a:Ok0 104 b6D:=
 fo [(190,b4L),(191,b4s),(192,b5y),(193,a6S),(194,b5z)] [] [0,1,4,5,6,7,10,24,28,40,54,79] [2] c9d (a1 c6V (a1 c6W (a1 c6X (a1 c6Y (a1 c6Z a0))))) Tryz.func104
theorem c6j:Ok0 45 b4M:=
 fo [(103,b4K),(104,b6D)] [] [0,1,4,5,6,7] [2] H45 (a1 c6S (a1 c7a a0)) Tryz.func45
theorem c5d:Ok0 195 b2K:=
 fo [] [] [0,2] [] c9e a0 Tryz.func195
theorem c2h:Ok0 105 a9C:=
 fo [(195,b2K)] [] [0,2,4,6] [] c9f (a1 c5d a0) Tryz.func105
theorem c5e:Ok0 106 b0P:=
 fo [(87,a0Y)] [(15,.list true (.list true QI))] [0,2,3,5] [] c9g (a1 b9r a0) Tryz.func106
theorem c5f:Ok0 108 b1A:=
 fo [(195,b2K)] [] [0,1,2,6,7,8,9] [4] c9h (a1 c5d a0) Tryz.func108
theorem d1e:Ok0 46 a7O:=
 ⟨f0r.ofR (cx:=c6b) (cxo (a1 c1T (a1 c2h (a1 c5e (a1 c5f a0))))) b2p (r:=R46) ⟨c5u,c5v⟩ Tryz.func46 rfl (by kernel_rfl) c9i,⟨_,_,Tryz.func46,rfl,by kernel_rfl⟩⟩
theorem c6k:Ok0 35 b2L:=
 fo [] [] [0,2] [1] H35 a0 Tryz.func35
theorem c7b:Ok0 197 b4N:=
 fo [] [] [0,2] [] c9j a0 Tryz.func197
theorem c7c:Ok0 198 b4t:=
 fo [] [] [0,2] [] c9k a0 Tryz.func198
theorem c2i:Ok0 110 a7Y:=
 fo [(197,b4N),(198,b4t)] [] [0,1,4] [] c9l (a1 c7b (a1 c7c a0)) Tryz.func110
theorem c3X:Ok0 47 a9E:=
 fo [(35,b2L),(109,b0K),(110,a7Y)] [] [0,2,4,6] [1] H47 (a1 c6k (a1 c4R (a1 c2i a0))) Tryz.func47
theorem c6l:Ok0 17 b0R:=
 fo [(44,b0M),(45,b4M),(46,a7O),(47,a9E)] [] [0,3,4,7,8,9,10] [1] H17 (a1 c6h (a1 c6j (a1 d1e (a1 c3X a0)))) Tryz.func17
theorem c6m:Ok0 21 b2M:=
 fo [(17,b0R)] [] [0,2,4] [1] H21 (a1 c6l a0) Tryz.func21
theorem c5g:Ok0 121 b4O:=
 fo [(45,b4M)] [] [0,1,4,5,6] [2] c9m (a1 c6j a0) Tryz.func121
theorem b3K:Ok0 122 a2v:=
 fo [(110,a7Y)] [] [0,2,3,5] [] c9n (a1 c2i a0) Tryz.func122
theorem c2j:Ok0 128 a5a:=
 fo [] [] [0,1] [] c9o a0 Tryz.func128
theorem b6O:Ok0 123 a2I:=
 fo [(128,a5a)] [] [0,1,2,6,7] [] c9p (a1 c2j a0) Tryz.func123
theorem c5h:Ok0 124 a8E:=
 fo [(123,a2I)] [] [0,1,2] [] c9q (a1 b6O a0) Tryz.func124
theorem c7d:Ok0 125 b3c:=
 fo [(122,a2v),(123,a2I),(124,a8E)] [] [0,1,4,6] [3] c9r (a1 b3K (a1 b6O (a1 c5h a0))) Tryz.func125
theorem c5i:Ok0 234 b0S:=
 fo [(220,a9z)] [] [0,1,2,6,8] [] c9s (a1 c2a a0) Tryz.func234
theorem c5j:Ok0 272 b2N:=
 fo [(122,a2v)] [] [0,2] [] c9t (a1 b3K a0) Tryz.func272
theorem c2k:Ok0 274 a5J:=
 fo [] [] [0,2] [] c9u a0 Tryz.func274
theorem c2l:Ok0 275 a9F:=
 fo [] [] [0,2] [] c9v a0 Tryz.func275
theorem c5k:Ok0 276 b2O:=
 fo [(275,a9F)] [] [0,2,3,7] [] c9w (a1 c2l a0) Tryz.func276
theorem c7e:Ok0 299 b5A:=
 fo [(274,a5J),(275,a9F),(276,b2O)] [] [0,1,4,5] [] c9x (a1 c2k (a1 c2l (a1 c5k a0))) Tryz.func299
theorem c2m:Ok0 273 b1d:=
 fo [(299,b5A)] [] [0,1,4,5,7] [] c9y (a1 c7e a0) Tryz.func273
theorem c5l:Ok0 208 b1D:=
 fo [(189,b2I),(209,a4w),(234,b0S),(272,b2N),(273,b1d)] [] [0,1,2,3,8,9,10,11,12] [4] c9z (a1 c4U (a1 b6N (a1 c5i (a1 c5j (a1 c2m a0))))) Tryz.func208
theorem c7f:Ok0 277 a9c:=
 fo [(128,a5a)] [] [0,1,4] [] c9A (a1 c2j a0) Tryz.func277
theorem c7g:Ok0 210 b6E:=
 fo [(123,a2I),(274,a5J),(275,a9F),(276,b2O),(277,a9c)] [] [0,1,2,6,8,10,11,12] [] c9B (a1 b6O (a1 c2k (a1 c2l (a1 c5k (a1 c7f a0))))) Tryz.func210
theorem c7h:Ok0 127 b5B:=
 fo [(122,a2v),(123,a2I),(208,b1D),(209,a4w),(210,b6E)] [] [0,1,2,3,4,10,11,12,13,14,16] [6] c9C (a1 b3K (a1 b6O (a1 c5l (a1 b6N (a1 c7g a0))))) Tryz.func127
theorem c6n:Ok0 51 b4P:=
 fo [(121,b4O),(122,a2v),(123,a2I),(124,a8E),(125,b3c),(126,a8v),(127,b5B)] [] [0,1,2,6,7,9,13,37,39,41,43] [4] H51 (a1 c5g (a1 b3K (a1 b6O (a1 c5h (a1 c7d (a1 c1U (a1 c7h a0))))))) Tryz.func51
theorem d1f:Ok0 52 a9d:=
 fo [(128,a5a)] [] [0] [] H52 (a1 c2j a0) Tryz.func52
theorem d1g:Ok0 53 a9e:=
 fo [] [] [0,2] [] H53 a0 Tryz.func53
theorem c7i:Ok0 129 b5C:=
 fo [] [] [0,2] [] c9D a0 Tryz.func129
theorem c7j:Ok0 130 b5D:=
 fo [] [] [0,2,3,5] [] c9E a0 Tryz.func130
theorem c5m:Ok0 131 b1E:=
 fo [] [] [0,2,3,5,6] [] c9F a0 Tryz.func131
theorem d1h:Ok0 54 b2j:=
 fo [(129,b5C),(130,b5D),(131,b1E)] [] [0,1,4,5,8] [2] H54 (a1 c7i (a1 c7j (a1 c5m a0))) Tryz.func54
theorem c7k:Ok0 211 b4u:=
 fo [] [] [0,2] [] c9G a0 Tryz.func211
theorem c7l:Ok0 132 b4v:=
 fo [(211,b4u)] [] [0,1,4,5] [] c9H (a1 c7k a0) Tryz.func132
theorem c7m:Ok0 133 a4Y:=⟨c3R _,⟨_,_,Tryz.func133,rfl,by kernel_rfl⟩⟩
theorem d1i:Ok0 55 b5E:=
 fo [(132,b4v),(133,a4Y)] [] [0,1,4,5] [] H55 (a1 c7l (a1 c7m a0)) Tryz.func55
theorem c6o:Ok0 56 a9k:=
 fo [] [] [0,2,3,5,6] [] H56 a0 Tryz.func56
theorem c6p:Ok0 19 b2P:=
 fo [(21,b2M),(51,b4P),(52,a9d),(53,a9e),(54,b2j),(55,b5E),(56,a9k)] [(4,.pair (.list true (.int .u8)) Q0)] [0,2,3,7,8,9] [1] H19 (a1 c6m (a1 c6n (a1 d1f (a1 d1g (a1 d1h (a1 d1i (a1 c6o a0))))))) Tryz.func19
theorem c3Y:Ok0 88 a6h:=
 fo [] [] [0,1,4,5] [] H88 a0 Tryz.func88
theorem d1j:Ok0 64 b3e:=
 fo [(88,a6h)] [] [0,1,4,5] [] H64 (a1 c3Y a0) Tryz.func64
theorem d1k:Ok0 23 b2l:=
 fo [(64,b3e)] [] [0,1,4] [2,3] H23 (a1 d1j a0) Tryz.func23
theorem c7n:Ok0 142 b5F:=
 fo [] [] [0,2] [] c9I a0 Tryz.func142
theorem c7o:Ok0 214 b3f:=
 fo [] [] [0,2,3,4,5,6,7] [] c9J a0 Tryz.func214
theorem c7p:Ok0 143 b0A:=
 fo [(214,b3f)] [] [0,1,4,5,6,7] [] c9K (a1 c7o a0) Tryz.func143
theorem c7q:Ok0 144 b5G:=
 fo [] [] [0,2,3] [] c9L a0 Tryz.func144
theorem c7r:Ok0 145 b0B:=
 fo [] [] [0,2] [] c9M a0 Tryz.func145
theorem c7s:Ok0 146 a9f:=
 fo [] [] [0,2] [] c9N a0 Tryz.func146
theorem c7t:Ok0 147 b0X:=
 fo [] [] [0,2] [] c9O a0 Tryz.func147
theorem c6q:Ok0 65 a8J:=
 fo [(44,b0M),(131,b1E),(142,b5F),(143,b0A),(144,b5G),(145,b0B),(146,a9f),(147,b0X)] [(2,.pair QI Q44),(15,.pair QI Q43),(26,.pair QI Q43),(83,.pair QI Q43),(88,.pair QI Q43),(101,.pair QI Q43),(105,.pair QI Q43)] [0,3,4,5,6,7,8,9,10,11] [] H65 (a1 c6h (a1 c5m (a1 c7n (a1 c7p (a1 c7q (a1 c7r (a1 c7s (a1 c7t a0)))))))) Tryz.func65
theorem d1l:Ok0 66 b6F:=
 fo [] [] [0,2] [] H66 a0 Tryz.func66
theorem b7N:Ok0 70 a2a:=
 fo [] [] [0,2] [] H70 a0 Tryz.func70
theorem c6r:Ok0 68 a6V:=
 fo [] [] [0,2] [] H68 a0 Tryz.func68
theorem c2n:Ok0 153 a4G:=
 fo [] [] [0,1,4] [] c9P a0 Tryz.func153
theorem b5o:Ok0 215 a2b:=
 fo [(68,a6V),(153,a4G)] [] [0,1,4,5] [] c9Q (a1 c6r (a1 c2n a0)) Tryz.func215
theorem b9h:Ok0 151 a2C:=
 fo [(215,a2b)] [] [0,1,4,5] [] c9R (a1 b5o a0) Tryz.func151
theorem c7u:Ok0 216 b3g:=
 fo [(122,a2v),(151,a2C),(215,a2b)] [] [0,1,4,5,6] [] c9S (a1 b3K (a1 b9h (a1 b5o a0))) Tryz.func216
theorem c7v:Ok0 148 b4w:=
 fo [(151,a2C),(215,a2b),(216,b3g)] [(2,.pair QI Q28)] [0,3,4,5,6,7,21,23,25,27] [] c9T (a1 b9h (a1 b5o (a1 c7u a0))) Tryz.func148
theorem c7w:Ok0 307 a9g:=
 fo [(153,a4G)] [] [0,1,4,5,6] [] c9U (a1 c2n a0) Tryz.func307
theorem c7x:Ok0 308 b4x:=
 fo [] [] [0,2,3,6] [] c9V a0 Tryz.func308
theorem c7y:Ok0 300 b6G:=
 fo [(70,a2a),(215,a2b),(307,a9g),(308,b4x)] [] [0,1,4,5,6,7,8] [] c9W (a1 b7N (a1 b5o (a1 c7w (a1 c7x a0)))) Tryz.func300
theorem c7z:Ok0 282 b6H:=
 fo [(70,a2a),(274,a5J),(300,b6G)] [] [0,1,2,6,7,8,9,10] [] c9X (a1 b7N (a1 c2k (a1 c7y a0))) Tryz.func282
theorem c7A:Ok0 221 b5H:=
 fo [(70,a2a),(122,a2v),(151,a2C),(215,a2b),(282,b6H)] [] [0,1,4,5,6,7,8,9,10,11] [] c9Y (a1 b7N (a1 b3K (a1 b9h (a1 b5o (a1 c7z a0))))) Tryz.func221
theorem c7B:Ok0 152 b5I:=
 fo [(70,a2a),(209,a4w),(215,a2b),(220,a9z),(221,b5H)] [(11,.pair QI Q1),(41,.pair QI Q1)] [0,1,2,7,8,9,10,12,14,15,16,17] [] c9Z (a1 b7N (a1 b6N (a1 b5o (a1 c2a (a1 c7A a0))))) Tryz.func152
theorem d1m:Ok0 67 b8g:=
 fo [(70,a2a),(121,b4O),(122,a2v),(126,a8v),(148,b4w),(149,b2g),(150,a8x),(151,a2C),(152,b5I)] [(7,.pair QI (.pair QI (.pair QI (.pair QI (.pair QI (.pair QL (.pair (.arr 3 QI) (.pair (.list false Q3) Q14))))))))] [0,1,5,6,8,9,10,11,12] [] H67 (a1 b7N (a1 c5g (a1 b3K (a1 c1U (a1 c7v (a1 c1Y (a1 c1Z (a1 b9h (a1 c7B a0))))))))) Tryz.func67
theorem d1n:Ok0 69 a9h:=
 fo [(153,a4G)] [] [0,2,3] [] H69 (a1 c2n a0) Tryz.func69
theorem c3Z:Ok0 24 a6W:=
 fo [(21,b2M),(56,a9k),(65,a8J),(66,b6F),(67,b8g),(68,a6V),(69,a9h),(70,a2a)] [(5,.pair QI Q45)] [0,3,4,6,7,8,9,10,12] [] H24 (a1 c6m (a1 c6o (a1 c6q (a1 d1l (a1 d1m (a1 c6r (a1 d1n (a1 b7N a0)))))))) Tryz.func24
theorem d1o:Ok0 26 b4Q:=
 fo [(65,a8J)] [] [0,3,4,5,7,8,9] [] H26 (a1 c6q a0) Tryz.func26
theorem c7C:Ok0 100 b1G:=
 fo [] [] [0,1,4,5] [] c6c a0 Tryz.func100
theorem c7D:Ok0 101 b3i:=
 fo [(88,a6h)] [] [0,1,4] [2,3] d0A (a1 c3Y a0) Tryz.func101
theorem d1p:Ok0 42 b0U:=
 fo [(88,a6h),(100,b1G),(101,b3i)] [] [0,1,4] [2,3] H42 (a1 c3Y (a1 c7C (a1 c7D a0))) Tryz.func42
theorem d1q:Ok0 76 a8L:=
 fo [] [] [0,1,4,5] [] H76 a0 Tryz.func76
theorem d1r:Ok0 28 b2n:=
 fo [(42,b0U),(76,a8L)] [] [0,1,4,5] [2,3] H28 (a1 d1p (a1 d1q a0)) Tryz.func28
theorem c6s:Ok0 91 b0V:=
 fo [(173,b0O)] [] [0,1,4,5,6,8] [] H91 (a1 c5c a0) Tryz.func91
theorem c7E:Ok0 174 a1g:=
 ⟨f0r.of (cx:=a8M) (cxo a0) b2p Tryz.func174 rfl (by kernel_rfl) c6P,⟨_,_,Tryz.func174,rfl,by kernel_rfl⟩⟩
theorem c6t:Ok0 92 a8N:=
 fo [(174,a1g)] [] [0,2,3,5] [] H92 (a1 c7E a0) Tryz.func92
theorem c5n:Ok0 230 b1I:=
 fo [(251,b1z)] [] [0,1,4,5,6,7] [] d0B (a1 c4V a0) Tryz.func230
theorem c7F:Ok0 231 b4y:=
 fo [(217,a8w),(253,a5G),(254,a8j),(255,a7X)] [] [0,1,2,6,7,8,9,10] [] d0C (a1 c1V (a1 c2c (a1 c4W (a1 c2b a0)))) Tryz.func231
theorem c2o:Ok0 232 a7R:=
 fo [(218,b1b),(256,a7j),(257,a9j),(258,a9A)] [] [0,1,2,6,7,8,9,10,11] [5] d0D (a1 c1W (a1 c2e (a1 c4X (a1 c2d a0)))) Tryz.func232
theorem c7G:Ok0 233 b4S:=
 fo [(87,a0Y),(219,a9x),(259,a8B),(261,b2J),(262,a3F),(263,a8A),(264,a6F)] [] [0,1,4,5,6,9,10,11,12,13] [] d0E (a1 b9r (a1 c1X (a1 c4Y (a1 c4Z (a1 c2g (a1 c2f (a1 c5b a0))))))) Tryz.func233
theorem c7H:Ok0 170 b5K:=
 fo [(87,a0Y),(150,a8x),(230,b1I),(231,b4y),(232,a7R),(233,b4S)] [] [0,1,4,5,6,11,22,37,67] [] d0F (a1 b9r (a1 c1Z (a1 c5n (a1 c7F (a1 c2o (a1 c7G a0)))))) Tryz.func170
theorem c7I:Ok0 284 b5L:=
 fo [(273,b1d)] [] [0,2,3,4,5,6] [] d0G (a1 c2m a0) Tryz.func284
theorem c7J:Ok0 235 b3j:=
 fo [(272,b2N),(273,b1d),(284,b5L)] [] [0,2,3] [] d0H (a1 c5j (a1 c2m (a1 c7I a0))) Tryz.func235
theorem c7K:Ok0 171 b4T:=
 fo [(208,b1D),(209,a4w),(234,b0S),(235,b3j)] [(14,.pair QI Q1),(40,.pair QI Q1)] [0,1,2,3,9,11,12,13,15,17,18] [] d0I (a1 c5l (a1 b6N (a1 c5i (a1 c7J a0)))) Tryz.func171
theorem d1s:Ok0 86 b6J:=
 fo [(90,a7V),(91,b0V),(92,a8N),(149,b2g),(169,b1y),(170,b5K),(171,b4T)] [] [0,1,2,7,8,11,12,13] [5] H86 (a1 c3W (a1 c6s (a1 c6t (a1 c1Y (a1 c4T (a1 c7H (a1 c7K a0))))))) Tryz.func86
theorem c7L:Ok0 172 b0Y:=
 fo [] [] [0,2] [] d0J a0 Tryz.func172
theorem d1t:Ok0 89 b6K:=
 fo [(51,b4P),(172,b0Y)] [(5,.pair (.list true (.int .u8)) Q0)] [0,1,4] [2] H89 (a1 c6n (a1 c7L a0)) Tryz.func89
theorem c7M:Ok0 236 b4z:=
 fo [] [] [0,1,4,5,6,7] [] d0K a0 Tryz.func236
theorem c7N:Ok0 175 b4U:=
 fo [(230,b1I),(236,b4z)] [] [0,2,3,4,5,6,7,8] [] d0L (a1 c5n (a1 c7M a0)) Tryz.func175
theorem c5o:Ok0 287 a9l:=
 fo [] [] [0,2] [] d0M a0 Tryz.func287
theorem c7O:Ok0 285 b2o:=
 fo [(287,a9l)] [] [0,2,3,5,6,7,8] [] d0N (a1 c5o a0) Tryz.func285
theorem c7P:Ok0 286 a9i:=
 fo [] [] [0,1,2,6,7,8,9,10] [] d0O a0 Tryz.func286
theorem c7Q:Ok0 237 b1J:=
 fo [(87,a0Y),(253,a5G),(285,b2o),(286,a9i),(287,a9l)] [] [0,1,4,5,6,7,8,9,10,11,12,13] [] d0P (a1 b9r (a1 c2c (a1 c7O (a1 c7P (a1 c5o a0))))) Tryz.func237
theorem c7R:Ok0 238 b3k:=
 fo [] [] [0,2,3,5,6,7,8,9,10,11] [] d0Q a0 Tryz.func238
theorem c7S:Ok0 239 b3l:=
 fo [(110,a7Y)] [] [0,1,4,5,6,8,9,10,11,13,14] [] d0R (a1 c2i a0) Tryz.func239
theorem c5p:Ok0 177 b0W:=
 fo [(237,b1J),(238,b3k),(239,b3l)] [] [0,1,2,6,7,8,9,10,11] [] d0S (a1 c7Q (a1 c7R (a1 c7S a0))) Tryz.func177
theorem c7T:Ok0 240 b5M:=
 fo [(256,a7j)] [] [0,1,2,6,7,8,9,10,11,12,13] [] d0T (a1 c2e a0) Tryz.func240
theorem c7U:Ok0 288 b1K:=
 fo [] [] [0] [] c6e a0 Tryz.func288
theorem c7V:Ok0 241 b5O:=
 fo [(232,a7R),(288,b1K)] [] [0,1,5,7,8,11,12,13,15] [] c6f (a1 c2o (a1 c7U a0)) Tryz.func241
theorem c7W:Ok0 178 b4V:=
 fo [(177,b0W),(232,a7R),(240,b5M),(241,b5O)] [] [0,3,4,5,7,8,9] [] d0U (a1 c5p (a1 c2o (a1 c7T (a1 c7V a0)))) Tryz.func178
theorem c7X:Ok0 176 b0D:=
 fo [(177,b0W)] [] [0,1,2,3,6,7,8] [] d0V (a1 c5p a0) Tryz.func176
theorem d1u:Ok0 93 b1L:=
 fo [(175,b4U),(176,b0D),(178,b4V)] [(5,.list true Q31)] [0,1,4,6,8,9] [67] H93 (a1 c7N (a1 c7X (a1 c7W a0))) Tryz.func93
theorem d1v:Ok0 40 b6L:=
 fo [(86,b6J),(89,b6K),(90,a7V),(91,b0V),(92,a8N),(93,b1L)] [] [0,1,5,6,7,9,10,14,15] [] H40 (a1 d1s (a1 d1t (a1 c3W (a1 c6s (a1 c6t (a1 d1u a0)))))) Tryz.func40
theorem c6u:Ok0 79 b4W:=
 fo [(102,b1a),(105,a9C),(106,b0P),(108,b1A)] [] [0,1,4,5,6] [] H79 (a1 c1T (a1 c2h (a1 c5e (a1 c5f a0)))) Tryz.func79
theorem c7Y:Ok0 226 b4A:=
 fo [(105,a9C)] [] [0,2,3,5,6,7] [] d0W (a1 c2h a0) Tryz.func226
theorem c7Z:Ok0 227 b4X:=
 fo [] [] [0,2,4,8,12,17] [] d0X a0 Tryz.func227
theorem c8a:Ok0 164 b5P:=
 fo [(79,b4W),(226,b4A),(227,b4X)] [] [0,2,3,4,5,6,7,8] [] d0Y (a1 c6u (a1 c7Y (a1 c7Z a0))) Tryz.func164
theorem d1w:Ok0 78 b5Q:=
 fo [(47,a9E),(164,b5P)] [] [0,2,3,4] [1] H78 (a1 c3X (a1 c8a a0)) Tryz.func78
theorem c6v:Ok0 30 b1M:=
 fo [(35,b2L),(40,b6L),(47,a9E),(77,b0L),(78,b5Q),(79,b4W)] [(10,.pair QI Q45),(52,.pair QI Q43),(57,.pair QI Q43),(63,.pair QI Q43),(79,.pair QI Q43),(95,.pair QI Q43)] [0,1,2,3,9,11,12,14,16] [4,5] H30 (a1 c6k (a1 d1v (a1 c3X (a1 c6g (a1 d1w (a1 c6u a0)))))) Tryz.func30
theorem d1x:Ok0 43 b4Z:=
 fo [(24,a6W)] [] [0,1,4,5,7,8] [] H43 (a1 c3Z a0) Tryz.func43
theorem d1y:Ok0 15 b5R:=
 fo [(17,b0R),(19,b2P),(23,b2l),(24,a6W),(26,b4Q),(28,b2n),(30,b1M),(43,b4Z)] [] [0,4,5,6,8,9,11,13,14,15] [] H15 (a1 c6l (a1 c6p (a1 d1k (a1 c3Z (a1 d1o (a1 d1r (a1 c6v (a1 d1x a0)))))))) Tryz.func15
theorem d1z:Ok0 29 b6M:=
 fo [] [] [0,1,4,5] [2] H29 a0 Tryz.func29
theorem d1A:Ok0 84 b5S:=
 fo [] [] [0,2,3] [] H84 a0 Tryz.func84
theorem c8b:Ok0 167 b9q:=
 fo [] [] [0,2] [] d0Z a0 Tryz.func167
theorem c8c:Ok0 168 b8h:=
 fo [] [] [0,2] [] d1a a0 Tryz.func168
theorem d1B:Ok0 85 b8i:=
 fo [(167,b9q),(168,b8h)] [] [0,1,4] [] H85 (a1 c8b (a1 c8c a0)) Tryz.func85
theorem d1C:Ok0 32 b3m:=
 fo [(84,b5S),(85,b8i)] [] [0,2,3,4] [1] H32 (a1 d1A (a1 d1B a0)) Tryz.func32
theorem fs9:Ok0 9 b3n:=
 fo [(15,b5R),(19,b2P),(24,a6W),(29,b6M),(30,b1M),(32,b3m)] [] [0,1,2,6,8,9,10,12,13] [3] H9 (a1 d1y (a1 c6p (a1 c3Z (a1 d1z (a1 c6v (a1 d1C a0)))))) Tryz.func9
end Go.Ab
namespace Go.Ab
open IntKind(wrap)
section
variable {σ β:Type} {f:σ→Option (σ ⊕ β)}
theorem b3L:∀(n m:Nat)(s:σ){b:β},j0o f n s=some b→j0o f (n+m) s=some b
 |0,_,s,b,h=>by simp[j0o]at h
 |n+1,m,s,b,h=>by
  rw[show n+1+m=n+m+1 from by omega];simp only[j0o]at h⊢
  split at h
  cases h;rename_i s' g;exact b3L n m s' h;exact h
theorem b8j{n m:Nat}{s:σ}{b b':β}(h:j0o f n s=some b)(k:j0o f m s=some b'):b=b':=by
 have a:=b3L n m s h;have g:=b3L m n s k;rw[Nat.add_comm,a]at g;exact Option.some.inj g
theorem c4a{n:Nat}{s:σ}{b:β}(h:j0o f n s=some b):v0d f s=some b:=by
 unfold v0d;have g:∃n b,j0o f n s=some b:=⟨n,b,h⟩;rw[dif_pos g];exact congrArg some (b8j g.choose_spec.choose_spec h)
theorem b7O{n:Nat}{s:σ}{b:β}(h:j0o f n s=some b):x0r f s=some b:=by
 unfold x0r;split;rename_i g hb;rw[b8j hb h];exact c4a h
theorem b8k{s:σ}(h:∀n,j0o f n s=none):x0r f s=none:=by
 unfold x0r;rw[h 400];show v0d f s=none;unfold v0d;rw[dif_neg]
 rintro⟨n,b,g⟩
 rw[h n]at g;cases g
theorem a0I{s:σ}{b:β}(h:f s=some (.inr b)):x0r f s=some b:=b7O (n:=1) (by simp[j0o,h])
theorem a0J{s s':σ}(h:f s=some (.inl s')):x0r f s=x0r f s':=by
 by_cases hx:∃n b,j0o f n s'=some b
 obtain⟨n,b,hb⟩:=hx;rw[b7O hb];exact b7O (n:=n+1) (by simp[j0o,h,hb])
 ·have g:∀n,j0o f n s'=none:=fun n=>by
   cases hn:j0o f n s' with
   |none=>rfl
   |some b=>exact absurd ⟨n,b,hn⟩ hx
  rw[b8k g];refine b8k fun n=>?_
  cases n with
  |zero=>rfl
  |succ n=>simp[j0o,h,g n]
theorem c1u(S:Nat→σ)(n:Nat){b:β}(g:∀i,i<n→f (S i)=some (.inl (S (i+1))))(h:f (S n)=some (.inr b)):∀(k:Nat),k≤n→x0r f (S (n-k))=some b
 |0,_=>a0I h
 |k+1,hk=>by
  rw[a0J (g (n-(k+1)) (by omega)),show n-(k+1)+1=n-k from by omega];exact c1u S n g h k (by omega)
theorem a2F(S:Nat→σ)(n:Nat){b:β}(g:∀i,i<n→f (S i)=some (.inl (S (i+1))))(h:f (S n)=some (.inr b)):x0r f (S 0)=some b:=by
 have:=c1u S n g h n (a36 _)
 rwa [a46]at this
end
theorem a0D{n:Int}(h:-9223372036854775808≤n∧n≤9223372036854775807):wrap .i64 n=n:=by
 simp only[wrap,IntKind.bits,IntKind.signed]
 simp
 split<;>omega
theorem a0P{n:Int}(h:0≤n∧n<18446744073709551616):wrap .u64 n=n:=by
 simp only[wrap,IntKind.bits,IntKind.signed]
 simp
 omega
theorem a8R(n:Int):wrap .u8 n=n%256:=by
 simp[wrap,IntKind.bits,IntKind.signed]
theorem c1v(x y:Int):v0a x y=min x y:=by
 simp only[v0a,cond_eq_ite,dT]
 split<;>omega
theorem c5D(x y:Int):u0z x y=max x y:=by
 simp only[u0z,cond_eq_ite,dT]
 split<;>omega
theorem a1c{n:Nat}(h:n<2147483648):lim n=true:=by simp[lim,h]
section
variable {α A σ β:Type}
def a2G(g:A→α→A ⊕ β):List α→A→A ⊕ β
 | [],a=>.inl a
 |x::r,a=>match g a x with
  |.inl a'=>a2G g r a'
  |.inr b=>.inr b
def a7G(fin:A→β):A ⊕ β→β
 |.inl a=>fin a
 |.inr b=>b
theorem b3o{f:σ→Option (σ ⊕ β)}(l:List α)(S:Nat→A→σ)(g:A→α→A ⊕ β)(I:Nat→A→Prop)(e:A→β)
  (d:∀i (h:i<l.length) a,I i a→(∀a',g a l[i]=.inl a'→f (S i a)=some (.inl (S (i+1) a'))∧I (i+1) a')∧(∀b,g a l[i]=.inr b→f (S i a)=some (.inr b)))
  (c:∀a,I l.length a→f (S l.length a)=some (.inr (e a))):∀(k i:Nat)(a:A),i+k=l.length→I i a→x0r f (S i a)=some (a7G e (a2G g (l.drop i) a))
 |0,i,a,hi,ha=>by
  obtain rfl:i=l.length:=by omega
  rw[a23];exact a0I (c a ha)
 |k+1,i,a,hi,ha=>by
  have j:i<l.length:=by omega
  rw[a05 j];obtain⟨m,n⟩:=d i j a ha;simp only[a2G];cases hg:g a l[i]with
  |inl a'=>
   obtain⟨o,p⟩:=m a' hg;rw[a0J o];exact b3o l S g I e d c k (i+1) a' (by omega) p
  |inr b=>exact a0I (n b hg)
theorem a1Q{f:σ→Option (σ ⊕ β)}(l:List α)(S:Nat→A→σ)(g:A→α→A ⊕ β)(I:Nat→A→Prop)(k:A→β)
  (d:∀i (h:i<l.length) a,I i a→(∀a',g a l[i]=.inl a'→f (S i a)=some (.inl (S (i+1) a'))∧I (i+1) a')∧(∀b,g a l[i]=.inr b→f (S i a)=some (.inr b)))
  (c:∀a,I l.length a→f (S l.length a)=some (.inr (k a))){a:A}(e:I 0 a):x0r f (S 0 a)=some (a7G k (a2G g l a)):=by
 have:=b3o l S g I k d c l.length 0 a (by omega) e
 rwa [a35]at this
theorem a1C{f:σ→Option (σ ⊕ β)}(l:List α)(S:Nat→σ)(p:α→Bool){bt bf:β}
  (k:∀i (h:i<l.length),p l[i]=true→f (S i)=some (.inl (S (i+1))))(c:∀i (h:i<l.length),p l[i]=false→f (S i)=some (.inr bf))
  (g:f (S l.length)=some (.inr bt)):x0r f (S 0)=some (bif l.all p then bt else bf):=by
 have h:=a1Q (A:=Unit) l (fun i _=>S i) (fun _ x=>bif p x then .inl ()else .inr bf) (fun _ _=>True) (fun _=>bt) (fun i h a _=>?_) (fun _ _=>g) (a:=()) trivial
 ·rw[h];congr 1;clear h k c g
  induction l with
  |nil=>rfl
  |cons x l ih=>
   simp only[a2G,a52];cases p x with
   |true=>simpa using ih
   |false=>rfl
 ·cases hp:p l[i]with
  |true=>exact⟨fun d _=>⟨k i h hp,trivial⟩,fun b hb=>by simp[hp]at hb⟩
  |false=>exact⟨fun d e=>by simp[hp]at e,fun b hb=>by simp[hp]at hb;rw[←hb];exact c i h hp⟩
end
theorem a0B{α:Type}{l:List α}{i:Nat}(h:i<l.length):l0z l (i:Int)=some l[i]:=by
 unfold l0z;rw[if_pos (Int.natCast_nonneg i),tN,lG h]
def a0A(x:Int):Bool:=decide (-1073741824≤x)&&decide (x<1073741824)
theorem a1G{x:Int}:a0A x=true↔-1073741824≤x∧x<1073741824:=by simp[a0A]
def short{α:Type}(l:List α):Prop:=l.length<1000000
theorem a0C{i:Nat}(h:i<1000000):wrap .i64 ((i:Int)+1)=((i+1:Nat):Int):=by
 rw[a0D (by omega)];omega
theorem dlt{i n:Nat}(h:i<n):decide ((i:Int)<(n:Int))=true:=by simp;omega
theorem dge(n:Nat):decide ((n:Int)<(n:Int))=false:=by simp
theorem a3X{l:List Int}(a:short l):a1T l=some (l.all a0A):=by
 unfold a1T
 have:=a1C (f:=a2t) l (fun i=>(l,(l.length:Int),(i:Int),())) a0A (bt:=Sum.inl ()) (bf:=Sum.inr (false,()))
  (fun i h hp=>by
   have hp:=a1G.1 hp;have g:decide (l[i] < -1073741824)=false:=by simp;omega
   have k:decide (l[i]≥1073741824)=false:=by simp;omega
   simp only[a2t,dlt h,cT,a0B h,oB,g,k,cF,a0C (a24 h a)])
  (fun i h hp=>by
   simp only[a2t,dlt h,cT,a0B h,oB]
   by_cases g:l[i] < -1073741824
   simp[g];have k:l[i]≥1073741824:=by
    simp only[a0A,a38,decide_eq_false_iff_not]at hp;omega
   simp[g,k])
  (by simp[a2t])
 simp only[nZ]at this;rw[this];cases l.all a0A<;>rfl
theorem a5s(x:Int):a4x x=some (a0A x):=by
 unfold a4x a0A
 by_cases h:-1073741824≤x<;>simp[h]
theorem a6Z(x:Int):a6t x=some (a0A x):=by
 unfold a6t a0A
 by_cases h:-1073741824≤x<;>simp[h]
theorem a4A(x:Int):a5j x=some (a0A x):=by
 unfold a5j a0A
 by_cases h:-1073741824≤x<;>simp[h]
theorem b3p(x:Int):a4y x=some (a0A x):=by
 unfold a4y a0A
 by_cases h:-1073741824≤x<;>simp[h]
theorem a5f{l:List Int}(g:short l):a2u l=some (l.all a0A):=by
 unfold a2u
 have:=a1C (f:=a2Q) l (fun i=>(l,(l.length:Int),(i:Int),())) a0A (bt:=Sum.inl ()) (bf:=Sum.inr (false,()))
  (fun i h hp=>by simp[a2Q,a0B h,a5s,hp,a0C (a24 h g),h])
  (fun i h hp=>by simp[a2Q,a0B h,a5s,hp,h])
  (by simp[a2Q])
 simp only[nZ]at this;rw[this];cases l.all a0A<;>rfl
theorem b2q{l:List Int}(g:short l):a3P l=some (l.all a0A):=by
 unfold a3P
 have:=a1C (f:=a3z) l (fun i=>(l,(l.length:Int),(i:Int),())) a0A (bt:=Sum.inl ()) (bf:=Sum.inr (false,()))
  (fun i h hp=>by simp[a3z,a0B h,a6Z,hp,a0C (a24 h g),h])
  (fun i h hp=>by simp[a3z,a0B h,a6Z,hp,h])
  (by simp[a3z])
 simp only[nZ]at this;rw[this];cases l.all a0A<;>rfl
theorem b1N{l:List Int}(g:short l):a4C l=some (l.all a0A):=by
 unfold a4C
 have:=a1C (f:=a3h) l (fun i=>(l,(l.length:Int),(i:Int),())) a0A (bt:=Sum.inl ()) (bf:=Sum.inr (false,()))
  (fun i h hp=>by simp[a3h,a0B h,a4A,hp,a0C (a24 h g),h])
  (fun i h hp=>by simp[a3h,a0B h,a4A,hp,h])
  (by simp[a3h])
 simp only[nZ]at this;rw[this];cases l.all a0A<;>rfl
theorem a6o{l:List Int}(h:short l):a2o l=some (l.all a0A):=by
 have e:b2h=a2t:=rfl
 have:a2o l=a1T l:=by unfold a2o a1T;rw[e]
 rw[this,a3X h]
def b5p(x:Int):Bool:=decide (-32768≤x)&&decide (x<32768)
def a7H(c:List Int)(s:Int):Bool:=decide (1≤c.length)&&(decide (c.length≤32)&&(decide (0≤s)&&(decide (s≤15)&&c.all b5p)))
theorem a8e{c:List Int}{s:Int}(m:short c):a3Y (c,s)=some (a7H c s):=by
 have:=a1C (f:=a3m) c (fun i=>(c,(c.length:Int),(i:Int),())) b5p (bt:=Sum.inl ()) (bf:=Sum.inr (false,()))
  (fun i h hp=>by
   simp only[b5p,bA,dT]at hp;have g:¬ c[i] < -32768:=by omega
   have k:¬ c[i]≥32768:=by omega
   simp[a3m,a0B h,a0C (a24 h m),h,g,k])
  (fun i h hp=>by
   simp only[b5p,a38,decide_eq_false_iff_not]at hp
   by_cases g:c[i] < -32768
   simp[a3m,a0B h,h,g];have k:c[i]≥32768:=by omega
   simp[a3m,a0B h,h,g,k])
  (by simp[a3m])
 simp only[nZ]at this;unfold a3Y a7H
 by_cases g:c.length<1
 have:((c.length:Nat):Int)<1:=by omega
 have:¬ 1≤c.length:=by omega
 simp[*]
 by_cases k:c.length > 32
 have:((c.length:Nat):Int) > 32:=by omega
 have:¬ ((c.length:Nat):Int)<1:=by omega
 have:¬ c.length≤32:=by omega
 simp[*]
 by_cases h3:s<0
 have:¬ ((c.length:Nat):Int) > 32:=by omega
 have:¬ ((c.length:Nat):Int)<1:=by omega
 have:¬ 0≤s:=by omega
 simp[*]
 by_cases h4:s > 15
 have:¬ ((c.length:Nat):Int) > 32:=by omega
 have:¬ ((c.length:Nat):Int)<1:=by omega
 have:¬ s≤15:=by omega
 simp[*];have a:¬ ((c.length:Nat):Int) > 32:=by omega
 have b:¬ ((c.length:Nat):Int)<1:=by omega
 simp only[a,b,h3,h4,decide_false,cF,oB,this];have d:1≤c.length:=by omega
 have e:c.length≤32:=by omega
 have j:0≤s:=by omega
 have l:s≤15:=by omega
 simp only[d,e,j,l,decide_true,a22];cases c.all b5p<;>rfl
def b2R(x:Int):Bool:=decide (-64≤x)&&decide (x≤64)
def a9R(lag:Int)(t:List Int):Bool:=decide (2≤lag)&&(decide (lag≤1024)&&t.all b2R)
theorem b2S{t:List Int}{lag:Int}(d:t.length=3):a7i (lag,t)=some (a9R lag t):=by
 have:=a1C (f:=a4v) t (fun i=>(t,(i:Int),())) b2R (bt:=Sum.inl ()) (bf:=Sum.inr (false,()))
  (fun i h hp=>by
   simp only[b2R,bA,dT]at hp;have a:(i:Int)<3:=by omega
   have g:¬ t[i] < -64:=by omega
   have k:¬ t[i] > 64:=by omega
   simp[a4v,a0B h,a0C (show i<1000000 by omega),a,g,k])
  (fun i h hp=>by
   simp only[b2R,a38,decide_eq_false_iff_not]at hp;have a:(i:Int)<3:=by omega
   by_cases g:t[i] < -64
   simp[a4v,a0B h,a,g];have k:t[i] > 64:=by omega
   simp[a4v,a0B h,a,g,k])
  (by rw[d];simp[a4v])
 simp only[nZ]at this;unfold a7i a9R
 by_cases g:lag<2
 have:¬ 2≤lag:=by omega
 simp[*]
 by_cases k:lag > 1024
 have:¬ lag≤1024:=by omega
 simp[*];have b:2≤lag:=by omega
 have c:lag≤1024:=by omega
 simp only[g,k,b,c,decide_false,decide_true,cF,oB,this,a22];cases t.all b2R<;>rfl
def stageB(s:Int×(Int×Unit)):Bool:=decide (1≤s.1)&&(decide (s.1≤32)&&(decide (0≤s.2.1)&&decide (s.2.1≤8)))
def a7S(l:List (Int×Int×Unit)):Bool:=decide (l.length≤3)&&l.all stageB
theorem a9n(s:Int×(Int×Unit)):a5Z s=some (stageB s):=by
 unfold a5Z stageB
 by_cases h1:1≤s.1<;>by_cases h2:s.1≤32<;>by_cases h3:0≤s.2.1<;>simp[h1,h2,h3]
theorem b1O{l:List (Int×Int×Unit)}(k:short l):a6r l=some (a7S l):=by
 have:=a1C (f:=a5h) l (fun i=>(l,(l.length:Int),(i:Int),())) stageB (bt:=Sum.inl ()) (bf:=Sum.inr (false,()))
  (fun i h hp=>by simp[a5h,a0B h,a9n,hp,a0C (a24 h k),h])
  (fun i h hp=>by simp[a5h,a0B h,a9n,hp,h])
  (by simp[a5h])
 simp only[nZ]at this;unfold a6r a7S
 by_cases h:l.length≤3
 have g:¬ ((l.length:Nat):Int) > 3:=by omega
 simp only[g,h,decide_false,decide_true,cF,this,oB,a22];cases l.all stageB<;>rfl;have g:((l.length:Nat):Int) > 3:=by omega
 simp[g,h]
@[reducible] def W(n:Int):Int:=wrap .i64 n
theorem a7a(n:Int):wrap .i64 n=Int.bmod n 18446744073709551616:=by
 simp only[wrap,IntKind.bits,IntKind.signed,Int.bmod]
 simp
 split<;>split<;>omega
theorem b5b{n:Int}(h:a0A n=true):W n=n:=by
 have:=a1G.1 h
 exact a0D (by omega)
def a3J(guess:List Int→Int):List Int→List Int→Option (List Int)
 | [],out=>some out
 |x::r,out=>bif a0A (W (x+guess out))then a3J guess r (out++[W (x+guess out)])else none
def b2r{β:Type}(guess:List Int→Int)(bad:β)(out:List Int)(x:Int):List Int ⊕ β:=bif a0A (W (x+guess out))then .inl (out++[W (x+guess out)])else .inr bad
theorem b1k{β:Type}(h:List Int→Int)(g:β)(f:List Int→β):∀(l out:List Int),a7G f (a2G (b2r h g) l out)=match a3J h l out with|some r=>f r|none=>g
 | [],out=>rfl
 |x::l,out=>by
  simp only[a2G,b2r,a3J];cases a0A (W (x+h out))with
  |true=>exact b1k h g f l _
  |false=>rfl
theorem b1l(g:List Int→Int):∀(l out r:List Int),out.all a0A=true→a3J g l out=some r→r.all a0A=true∧r.length=out.length+l.length
 | [],out,r,h,e=>by simp only[a3J,sj]at e;subst e;exact⟨h,by simp⟩
 |x::l,out,r,h,e=>by
  simp only[a3J]at e;cases hw:a0A (W (x+g out))with
  |true=>
   rw[hw]at e;obtain⟨f,k⟩:=b1l g l _ r (by simp[h,hw]) e;exact⟨f,by rw[k];simp;omega⟩
  |false=>rw[hw]at e;cases e
def a4t:Option (List Int)→List Int×Int
 |some r=>(r,0)
 |none=>([],6)
def atB(out:List Int)(i:Nat):Int:=out.getD (out.length-i) 0
def a4h(o:Nat)(out:List Int):Int:=match o with
 | 1=>atB out 1
 | 2=>2*atB out 1-atB out 2
 | 3=>3*atB out 1-3*atB out 2+atB out 3
 | 4=>4*atB out 1-6*atB out 2+4*atB out 3-atB out 4
 |_=>0
theorem b1m{out:List Int}{i:Nat}(f:1≤i)(h:i≤out.length)(g:short out):a1i ((i:Int),out)=some (atB out i,out):=by
 unfold a1i;have g:out.length<1000000:=g;have e:wrap .i64 (((out.length:Nat):Int)-(i:Int))=((out.length-i:Nat):Int):=by rw[a0D (by omega)];omega
 simp only[e,a0B (show out.length-i<out.length by omega),oB,atB];rw[lD,lG (by omega)];rfl
theorem b7P{out:List Int}{o:Nat}(e:o≤4)(h:o≤out.length)(a:short out):∃g,a7W (out,(o:Int))=some g∧∀x,W (x+g)=W (x+a4h o out):=by
 have f:=fun(h':1≤out.length)=>b1m (i:=1) (by omega) h' a;have k:=fun(h':2≤out.length)=>b1m (i:=2) (by omega) h' a;have b:=fun(h':3≤out.length)=>b1m (i:=3) (by omega) h' a;have c:=fun(h':4≤out.length)=>b1m (i:=4) (by omega) h' a;simp only[Int.natCast_one,Int.cast_ofNat_Int]at f k b c;unfold a7W;have d:o=0∨o=1∨o=2∨o=3∨o=4:=by omega
 rcases d with rfl|rfl|rfl|rfl|rfl;exact⟨0,rfl,fun x=>rfl⟩;exact⟨_,by simp[f (by omega)];rfl,fun x=>rfl⟩;refine⟨_,by simp[f (by omega),k (by omega)];rfl,fun x=>?_⟩;simp only[W,a7a,a4h,a42,a43,a44];refine⟨_,by simp[f (by omega),k (by omega),b (by omega)];rfl,fun x=>?_⟩;simp only[W,a7a,a4h,a42,a43,a44,a57];refine⟨_,by simp[f (by omega),k (by omega),b (by omega),c (by omega)];rfl,fun x=>?_⟩;simp only[W,a7a,a4h,a42,a43,a44,a57]
theorem a0T{n:Nat}(h:n<1000000):lim n=true:=a1c (by omega)
theorem b8Q{warm rest:List Int}{o:Nat}(v:o≤4)(x:warm.length=o)(w:rest.length<100000):
  a8z (warm,rest,(o:Int))=some (a4t (bif warm.all a0A&&rest.all a0A then a3J (a4h o) rest warm else none)):=by
 have c:short warm:=by unfold short;omega
 have n:short rest:=by unfold short;omega
 unfold a8z;have q:¬ (o:Int)<0:=by omega
 have r:¬ (o:Int) > 4:=by omega
 have s:(((warm.length:Nat):Int) != (o:Int))=false:=by simp;omega
 simp only[q,r,s,decide_false,cF,oB,a6o c,a6o n];cases hw1:warm.all a0A with
 |false=>rfl
 |true=>
  simp only[bT,cF,oB,a22];cases hw2:rest.all a0A with
  |false=>rfl
  |true=>
   simp only[bT,cF,cT,a0T c]
   have:=a1Q (f:=a6J) rest (fun i out=>((o:Int),rest,(rest.length:Int),(i:Int),out,())) (b2r (a4h o) (Sum.inr ((6:Int),([]:List Int),())))
    (fun i out=>o≤out.length∧out.length≤o+i) (fun out=>Sum.inl (out,()))
    (fun i h out t=>by
     have l:i<1000000:=by omega
     have m:short out:=by unfold short;omega
     obtain⟨g,u,j⟩:=b7P v t.1 m;have e:wrap .i64 (rest[i]+g)=W (rest[i]+a4h o out):=j _;have k:a2o [W (rest[i]+a4h o out)]=some (a0A (W (rest[i]+a4h o out))):=by rw[a6o (by simp[short])];simp
     simp only[a6J,dlt h,cT,a0B h,oB,u,e,k,b2r];cases hb:a0A (W (rest[i]+a4h o out))with
     |true=>
      simp only[cT,bT,cF,a0T (show out.length+1<1000000 by omega),a0C l];refine⟨fun p d=>?_,fun b hb=>(by cases hb)⟩;simp only[Sum.inl.injEq]at d;subst d;exact⟨rfl,by simp;omega,by simp;omega⟩
     |false=>
      refine⟨fun p d=>(by cases d),fun b hb=>?_⟩;simp only[cF,Sum.inr.injEq]at hb;subst hb;rfl)
    (fun out _=>by simp[a6J]) (a:=warm) ⟨by omega,by omega⟩
   simp only[nZ,b1k]at this;rw[this];cases a3J (a4h o) rest warm<;>rfl
def b9s(out:List Int):List Int→Nat→Int→Int
 | [],_,acc=>acc
 |c::r,i,acc=>bif decide (i<out.length)then b9s out r (i+1) (W (acc+W (c*atB out (i+1))))else acc
def a9o(c:List Int)(s:Int)(out:List Int):Int:=z0h .i64 (b9s out c 0 0) s
theorem c6w{out:List Int}{i:Nat}(h:i<out.length)(g:short out):l0z out (wrap .i64 (wrap .i64 (((out.length:Nat):Int)-1)-(i:Int)))=some (atB out (i+1)):=by
 have g:out.length<1000000:=g;have f:wrap .i64 (((out.length:Nat):Int)-1)=((out.length-1:Nat):Int):=by rw[a0D (by omega)];omega
 have k:wrap .i64 (((out.length-1:Nat):Int)-(i:Int))=((out.length-(i+1):Nat):Int):=by rw[a0D (by omega)];omega
 rw[f,k,a0B (show out.length-(i+1)<out.length by omega),atB,lD,lG (by omega)];rfl
theorem b5c{out c:List Int}{s:Int}(a:short out)(e:short c):∀(k i:Nat)(acc:Int),i+k=c.length→
  x0r a2R (out,s,acc,c,(c.length:Int),(i:Int),())=some (s,b9s out (c.drop i) i acc,())
 |0,i,acc,h=>by
  obtain rfl:i=c.length:=by omega
  rw[a23];exact a0I (by simp[a2R,b9s])
 |k+1,i,acc,h=>by
  have g:i<c.length:=by omega
  have l:out.length<1000000:=a;have j:c.length<1000000:=e;rw[a05 g,b9s];have b:wrap .i64 (((out.length:Nat):Int)-1)=((out.length:Nat):Int)-1:=a0D (by omega);have d:wrap .i64 (((out.length:Nat):Int)-1-(i:Int))=((out.length:Nat):Int)-1-(i:Int):=a0D (by omega)
  by_cases hi:i<out.length
  have f:decide (wrap .i64 (wrap .i64 (((out.length:Nat):Int)-1)-(i:Int))<0)=false:=by rw[b,d];simp;omega
  simp only[hi,decide_true,cT];rw[a0J (s':=(out,s,W (acc+W (c[i]*atB out (i+1))),c,(c.length:Int),((i+1:Nat):Int),())) (by
   simp only[a2R,dlt g,cT,a0B g,oB,f,cF,c6w hi a,a0C (show i<1000000 by omega)])]
  exact b5c a e k (i+1) _ (by omega);have f:decide (wrap .i64 (wrap .i64 (((out.length:Nat):Int)-1)-(i:Int))<0)=true:=by rw[b,d];simp;omega
  simp only[hi,decide_false,cF];exact a0I (by simp only[a2R,dlt g,cT,a0B g,oB,f])
theorem b3M{out c:List Int}{s:Int}(g:short out)(h:short c)(f:0≤s):a4a (out,c,s)=some (a9o c s out):=by
 have:=b5c (s:=s) g h c.length 0 0 (by omega)
 simp only[nZ,a35]at this;unfold a4a;simp only[this,oB]
 have:¬ s<0:=by omega
 simp[this,a9o]
def b1P(warm rest c:List Int)(s:Int):Option (List Int):=bif warm.all a0A&&rest.all a0A then a3J (a9o c s) rest warm else none
theorem b3q{warm rest c:List Int}{s:Int}(o:a7H c s=true)(w:warm.length=c.length)(v:rest.length<100000):
  a6a (warm,rest,c,s)=some (a4t (b1P warm rest c s)):=by
 have g:=o;simp only[a7H,bA,dT]at g;have k:short c:=by unfold short;omega
 have n:short warm:=by unfold short;omega
 have m:short rest:=by unfold short;omega
 unfold a6a;have r:(((warm.length:Nat):Int) != ((c.length:Nat):Int))=false:=by simp;omega
 simp only[a8e k,o,oB,bT,cF,r,a5f n,a5f m,b1P];cases hw1:warm.all a0A with
 |false=>rfl
 |true=>
  simp only[bT,cF,oB,a22];cases hw2:rest.all a0A with
  |false=>rfl
  |true=>
   have q:wrap .i64 (((warm.length:Nat):Int)+((rest.length:Nat):Int))=((warm.length+rest.length:Nat):Int):=by rw[a0D (by omega)];omega
   have t:(0:Int)≤((warm.length+rest.length:Nat):Int):=by omega
   simp only[bT,cF,cT,q,t,decide_true,tN,a0T (show warm.length+rest.length<1000000 by omega),a0T (show 0+warm.length<1000000 by omega),a07,a41,a09]
   have:=a1Q (f:=a5H) rest (fun i out=>(c,s,rest,(rest.length:Int),(i:Int),out,())) (b2r (a9o c s) (Sum.inr ((6:Int),([]:List Int),())))
    (fun i out=>out.length≤warm.length+i) (fun out=>Sum.inl (out,()))
    (fun i h out u=>by
     have j:i<1000000:=by omega
     have l:short out:=by unfold short;omega
     have e:wrap .i64 (a9o c s out+rest[i])=W (rest[i]+a9o c s out):=by rw[Int.add_comm]
     simp only[a5H,dlt h,cT,a0B h,oB,b3M l k g.2.2.1,e,a5s,b2r];cases hb:a0A (W (rest[i]+a9o c s out))with
     |true=>
      simp only[cT,bT,cF,a0T (show out.length+1<1000000 by omega),a0C j];refine⟨fun p d=>?_,fun b hb=>(by cases hb)⟩;simp only[Sum.inl.injEq]at d;subst d;exact⟨rfl,by simp;omega⟩
     |false=>
      refine⟨fun p d=>(by cases d),fun b hb=>?_⟩;simp only[cF,Sum.inr.injEq]at hb;subst hb;rfl)
    (fun out _=>by simp[a5H]) (a:=warm) (by omega)
   simp only[nZ,b1k]at this;rw[this];cases a3J (a9o c s) rest warm<;>rfl
def b9t(out:List Int)(lag:Int):List Int→Nat→Int→Int
 | [],_,acc=>acc
 |t::r,i,acc=>b9t out lag r (i+1) (bif decide (0≤(out.length:Int)-lag-1+i)then W (acc+W (t*out.getD ((out.length:Int)-lag-1+i).toNat 0))else acc)
def a8f(lag:Int)(t:List Int)(out:List Int):Int:=z0h .i64 (b9t out lag t 0 0) 6
theorem b9u{out:List Int}{j:Int}(f:0≤j)(h:j<out.length):l0z out j=some (out.getD j.toNat 0):=by
 obtain⟨n,rfl⟩:=a06 f;have g:n<out.length:=by omega
 rw[a0B g,tN,lD,lG g];rfl
theorem c5E{n i:Nat}{lag:Int}(h:2≤lag)(g:lag≤1024)(k:n<1000000)(f:i<3):
  wrap .i64 (wrap .i64 (wrap .i64 ((n:Int)-lag)-1)+(i:Int))=(n:Int)-lag-1+i:=by
 rw[a0D (n:=(n:Int)-lag) (by omega),a0D (n:=(n:Int)-lag-1) (by omega),a0D (by omega)]
theorem c3b{l:List Int}{n j:Nat}(h:j<n):(l.take n).getD j 0=l.getD j 0:=by
 simp only[lD,List.getElem?_take,h,if_true]
theorem a7I{l t:List Int}{lag:Int}{n:Nat}(o:n≤l.length)(j:short l)(m:t.length=3)(a:2≤lag)(b:lag≤1024):∀(k i:Nat)(acc:Int),i+k=3→
  x0r a3A (l,(n:Int),lag,acc,t,(i:Int),())=some (b9t (l.take n) lag (t.drop i) i acc,())
 |0,i,acc,h=>by
  obtain rfl:i=t.length:=by omega
  rw[a23];exact a0I (by rw[m];simp[a3A,b9t])
 |k+1,i,acc,h=>by
  have g:i<t.length:=by omega
  have f:decide ((i:Int)<3)=true:=by simp;omega
  have p:l.length<1000000:=j;have d:(l.take n).length=n:=by rw[a58];omega
  have e:=c5E (n:=n) (i:=i) a b (by omega) (by omega);rw[a05 g,b9t,d]
  by_cases hp:0≤(n:Int)-lag-1+i
  have c:decide ((n:Int)-lag-1+i≥0)=true:=by simp;omega
  simp only[hp,decide_true,cT];rw[c3b (show((n:Int)-lag-1+i).toNat<n by omega),a0J (s':=(l,(n:Int),lag,W (acc+W (t[i]*l.getD ((n:Int)-lag-1+i).toNat 0)),t,((i+1:Nat):Int),())) (by
   simp only[a3A,f,cT,a0B g,oB,e,c,b9u hp (show(n:Int)-lag-1+(i:Int)<(l.length:Int)by omega),a0C (show i<1000000 by omega)])]
  exact a7I o j m a b k (i+1) _ (by omega);have c:decide ((n:Int)-lag-1+i≥0)=false:=by simp;omega
  simp only[hp,decide_false,cF];rw[a0J (s':=(l,(n:Int),lag,acc,t,((i+1:Nat):Int),())) (by
   simp only[a3A,f,cT,a0B g,oB,e,c,cF,a0C (show i<1000000 by omega)])]
  exact a7I o j m a b k (i+1) _ (by omega)
theorem b2t{l t:List Int}{lag:Int}{n:Nat}(f:n≤l.length)(k:short l)(a:t.length=3)(h:2≤lag)(g:lag≤1024):
  a3Q (l,(n:Int),lag,t)=some (a8f lag t (l.take n)):=by
 have:=a7I (t:=t) f k a h g 3 0 0 (by omega)
 simp only[nZ,a35]at this;unfold a3Q;simp only[this,oB,a8f]
theorem b6P{out t:List Int}{lag:Int}(f:short out)(k:t.length=3)(h:2≤lag)(g:lag≤1024):a3Q (out,(out.length:Int),lag,t)=some (a8f lag t out):=by
 rw[b2t (a36 _) f k h g,a39]
def b2u(rest:List Int)(lag:Int)(t:List Int):Option (List Int):=bif rest.all a0A then a3J (a8f lag t) rest []else none
theorem b9v{rest t:List Int}{lag:Int}(j:a9R lag t=true)(l:t.length=3)(p:rest.length<100000):a9B (rest,lag,t)=some (a4t (b2u rest lag t)):=by
 have g:=j;simp only[a9R,bA,dT]at g;have k:short rest:=by unfold short;omega
 unfold a9B;simp only[b2S l,j,oB,bT,cF,b2q k,b2u];cases hw2:rest.all a0A with
 |false=>rfl
 |true=>
  have n:(0:Int)≤((rest.length:Nat):Int):=by omega
  simp only[bT,cF,cT,n,decide_true,tN,a0T k,a07]
  have:=a1Q (f:=a7k) rest (fun i out=>(lag,rest,(rest.length:Int),(i:Int),out,t,())) (b2r (a8f lag t) (Sum.inr ((6:Int),([]:List Int),())))
   (fun i out=>out.length=i) (fun out=>Sum.inl (out,()))
   (fun i h out o=>by
    have d:i<1000000:=by omega
    have e:short out:=by unfold short;omega
    have hp:=b6P (out:=out) (t:=t) (lag:=lag) e l g.1 g.2.1;rw[o]at hp;simp only[a7k,dlt h,cT,a0B h,oB,hp,a6Z,b2r];cases hb:a0A (W (rest[i]+a8f lag t out))with
    |true=>
     simp only[cT,bT,cF,a0T (show out.length+1<1000000 by omega),a0C d];refine⟨fun m c=>?_,fun b hb=>(by cases hb)⟩;simp only[Sum.inl.injEq]at c;subst c;exact⟨rfl,by simp;omega⟩
    |false=>
     refine⟨fun m c=>(by cases c),fun b hb=>?_⟩;simp only[cF,Sum.inr.injEq]at hb;subst hb;rfl)
   (fun out _=>by simp[a7k]) (a:=[]) rfl
  simp only[nZ,b1k]at this;rw[this];cases a3J (a8f lag t) rest []<;>rfl
def b6Q{β:Type}(n:Int)(bad:β)(out:List Int)(x:Int):List Int ⊕ β:=bif a0A x&&a0A (z0g .i64 x n)then .inl (out++[z0g .i64 x n])else .inr bad
def upO(n:Int)(l:List Int):Option (List Int):=bif l.all (fun x=>a0A x&&a0A (z0g .i64 x n))then some (l.map fun x=>z0g .i64 x n)else none
theorem b5T{β:Type}(n:Int)(h:β)(g:List Int→β):∀(l out:List Int),a7G g (a2G (b6Q n h) l out)=match upO n l with|some r=>g (out++r)|none=>h
 | [],out=>by simp[a2G,a7G,upO]
 |x::l,out=>by
  simp only[a2G,b6Q,upO,a52];cases hx:(a0A x&&a0A (z0g .i64 x n))with
  |true=>
   simp only[cT,a22];rw[b5T n h g l _];simp only[upO];cases l.all (fun x=>a0A x&&a0A (z0g .i64 x n))with
   |true=>simp
   |false=>rfl
  |false=>rfl
theorem b9w{l:List Int}{n:Int}(m:0≤n)(o:n≤30)(q:l.length<100000):a7M (l,n)=some (a4t (upO n l)):=by
 have j:short l:=by unfold short;omega
 have k:¬ n<0:=by omega
 have e:¬ n > 30:=by omega
 unfold a7M;simp only[k,e,decide_false,cF,oB]
 have:=a1Q (f:=a7l) l (fun i out=>(n,l,(l.length:Int),(i:Int),out,())) (b6Q n (Sum.inr ((6:Int),([]:List Int),())))
  (fun i out=>out.length=i) (fun out=>Sum.inl (out,()))
  (fun i h out p=>by
   have c:i<1000000:=by omega
   simp only[a7l,dlt h,cT,a0B h,oB,b3p,b6Q,k,decide_false,cF];cases hb:a0A l[i]with
   |true=>
    cases hb2:a0A (z0g .i64 l[i] n)with
    |true=>
     simp only[cT,bT,cF,oB,k,decide_false,a0T (show out.length+1<1000000 by omega),a0C c,a07];refine⟨fun d g=>?_,fun b hb=>(by cases hb)⟩;simp only[Sum.inl.injEq]at g;subst g;exact⟨rfl,by simp;omega⟩
    |false=>
     refine⟨fun d g=>(by cases g),fun b hb=>?_⟩;simp only[a22,cF,Sum.inr.injEq]at hb;subst hb;rfl
   |false=>
    refine⟨fun d g=>(by cases g),fun b hb=>?_⟩;simp only[Bool.false_and,cF,Sum.inr.injEq]at hb;subst hb;rfl)
  (fun out _=>by simp[a7l]) (a:=[]) rfl
 simp only[nZ,b5T,a09]at this;rw[this];cases upO n l<;>rfl
@[reducible] def Fil:Type:=Int×((List Int)×((List Int)×Unit))
def a2q(x:Int):Int:=v0a (u0z x (-1073741824)) 1073741823
def b6R(x:Int):Int:=v0a (u0z x (-1048576)) 1048576
theorem b9x(x:Int):-1048576≤b6R x∧b6R x≤1048576:=by
 grind[b6R,c1v,c5D]
def c2p:List Int→List Int→Int→Int
 |a::w,b::h,acc=>c2p w h (W (acc+W (a*b)))
 |_,_,acc=>acc
def a1h(f:Fil):Int:=a2q (z0h .i64 (c2p f.2.1 f.2.2.1 0) 16)
structure FilOk (f:Fil):Prop where
 len:f.2.1.length=f.2.2.1.length
 pos:1≤f.2.1.length
 most:f.2.1.length≤32
 rate:0≤f.1∧f.1≤8
 small:∀x∈f.2.1,-1048576≤x∧x≤1048576
theorem b3N{l:List Int}{i:Nat}(h:i<l.length):a04 l i 0=l[i]:=by
 simp_all
theorem b1Q{f:Fil}(c:FilOk f):∀(k i:Nat)(acc:Int),i+k=f.2.1.length→
  x0r a2P (acc,(f.2.1.length:Int),(i:Int),f,())=some (c2p (f.2.1.drop i) (f.2.2.1.drop i) acc,f,())
 |0,i,acc,h=>by
  obtain rfl:i=f.2.1.length:=by omega
  rw[a23,a0I (b:=(acc,f,())) (by simp[a2P])];rfl
 |k+1,i,acc,h=>by
  have g:i<f.2.1.length:=by omega
  have a:i<f.2.2.1.length:=by rw[←c.len];omega
  have e:=c.most;rw[a05 g,a05 a,c2p];have d:decide ((0:Int)≤(i:Int))=true:=by simp
  rw[a0J (s':=(W (acc+W (f.2.1[i]*f.2.2.1[i])),(f.2.1.length:Int),((i+1:Nat):Int),f,())) (by
   simp only[a2P,dlt g,dlt a,d,cT,a07,tN,b3N g,b3N a,a0C (show i<1000000 by omega)])]
  exact b1Q c k (i+1) _ (by omega)
theorem a5t{f:Fil}(h:FilOk f):a1V f=some (a1h f,f):=by
 have:=b1Q h f.2.1.length 0 0 (by omega)
 simp at this;unfold a1V;simp only[this,oB,a4D];rfl
def b5q(x:Int):Int:=if 0<x then 1 else if x<0 then -1 else 0
def a9S(r:Int)(x g:Int):Int:=b5q (x-g)*2^r.toNat
def b3O(st:Int)(w h:Int):Int:=b6R (W (w+b5q h*st))
def b1n(f:Fil)(x:Int):Fil:=
 (f.1,a25 (b3O (a9S f.1 (a2q x) (a1h f))) f.2.1 f.2.2.1,a2q x::f.2.2.1.take (f.2.2.1.length-1),f.2.2.2)
theorem b9y{f:Fil}(k:FilOk f)(x:Int):FilOk (b1n f x):=by
 obtain⟨a,b,c,g,d⟩:=k;have e:(a25 (b3O (a9S f.1 (a2q x) (a1h f))) f.2.1 f.2.2.1).length=f.2.1.length:=by simp_all
 refine⟨?_,?_,?_,g,?_⟩;show(a25 _ _ _).length=(a2q x::f.2.2.1.take (f.2.2.1.length-1)).length;simp_all;show 1≤(a25 _ _ _).length;omega;show(a25 _ _ _).length≤32;omega;intro y h;have h:y∈a25 (b3O (a9S f.1 (a2q x) (a1h f))) f.2.1 f.2.2.1:=h;obtain⟨i,j,rfl⟩:=List.mem_iff_getElem.1 h
 simp
 exact b9x _
theorem b2T(x:Int):(0<x∧b5q x=1)∨(x<0∧b5q x=-1)∨(x=0∧b5q x=0):=by
 unfold b5q;omega
theorem b6m{r:Int}(h:0≤r∧r≤8):(2:Int)^r.toNat≤256∧1≤(2:Int)^r.toNat:=by
 have:r.toNat=0∨r.toNat=1∨r.toNat=2∨r.toNat=3∨r.toNat=4∨r.toNat=5∨r.toNat=6∨r.toNat=7∨r.toNat=8:=by omega
 rcases this with e|e|e|e|e|e|e|e|e<;>rw[e]<;>decide
theorem c3c{r:Int}(h:0≤r∧r≤8){x:Int}(g:-1≤x∧x≤1):z0g .i64 x r=x*2^r.toNat:=by
 have hp:=b6m h;have hb:min r.toNat 64=r.toNat:=by omega
 unfold z0g;show wrap .i64 (x*2^(min r.toNat 64))=_;rw[hb]
 have:x=-1∨x=0∨x=1:=by omega
 rcases this with rfl|rfl|rfl
 all_goals grind[a0D]
theorem b8R{f:Fil}(a:FilOk f)(x:Int):
  (bif decide (a2q x > a1h f)then bif decide (f.1<0)then(none:Option (Int×Int×Fil×Unit))else some (a2q x,z0g .i64 (1:Int) f.1,f,())
   else bif decide (a2q x<a1h f)then bif decide (f.1<0)then none else some (a2q x,wrap .i64 (0-(z0g .i64 (1:Int) f.1)),f,())
   else some (a2q x,(0:Int),f,()))=some (a2q x,a9S f.1 (a2q x) (a1h f),f,()):=by
 have d:¬ f.1<0:=by have:=a.rate;omega
 have hp:=b6m a.rate;have b:=c3c a.rate (x:=1) (by omega);rw[Int.one_mul]at b;rcases b2T (a2q x-a1h f)with⟨c,h⟩|⟨c,h⟩|⟨c,h⟩;have g:a2q x > a1h f:=by omega
 simp only[g,d,decide_true,decide_false,cT,cF,a9S,h,Int.one_mul,b];have g:¬ a2q x > a1h f:=by omega
 have k:a2q x<a1h f:=by omega
 simp only[g,k,d,decide_true,decide_false,cT,cF,a9S,h,b]
 grind[a0D]
 have g:¬ a2q x > a1h f:=by omega
 have k:¬ a2q x<a1h f:=by omega
 simp only[g,k,decide_false,cF,a9S,h,Int.zero_mul]
theorem c4b{l z:List Int}{i:Nat}(f:i<l.length)(k:z.length=l.length):(z.take i++l.drop i).set i (z[i]'(by omega))=z.take (i+1)++l.drop (i+1):=by
 have h:(z.take i).length=i:=by grind
 have g:z.take (i+1)=z.take i++[z[i]'(by omega)]:=by simp
 rw[a49 _ _ (by omega),h,a46,a05 f,a54,g,aA];rfl
theorem c4c{l z:List Int}{i:Nat}(h:i<l.length)(g:z.length=l.length):a04 (z.take i++l.drop i) i 0=l[i]:=by
 grind
theorem c3d{f:Fil}(g:FilOk f){i:Nat}(h:i<f.2.1.length):-1048576≤f.2.1[i]∧f.2.1[i]≤1048576:=g.small _ (a32 h)
theorem b6S{f:Fil}(n:FilOk f){x1 st:Int}(u:-256≤st∧st≤256):
  x0r a2p (x1,st,(f.2.2.1.length:Int),(0:Int),f,())=some (x1,(f.1,a25 (b3O st) f.2.1 f.2.2.1,f.2.2),()):=by
 obtain⟨z,w⟩:∃z,a25 (b3O st) f.2.1 f.2.2.1=z:=⟨_,rfl⟩;have q:=n.len;have d:z.length=f.2.1.length:=by grind
 have v:=n.most
 have:=a2F (f:=a2p) (fun i=>(x1,st,(f.2.2.1.length:Int),(i:Int),(f.1,z.take i++f.2.1.drop i,f.2.2),()))
  f.2.2.1.length (b:=(x1,(f.1,z,f.2.2),())) (fun i p=>by
   have k:i<f.2.1.length:=by omega
   have j:decide ((0:Int)≤(i:Int))=true:=by simp
   have s:(z.take i++f.2.1.drop i).length=f.2.1.length:=by grind
   have g:decide ((i:Int)<((z.take i++f.2.1.drop i).length:Int))=true:=by simp_all
   have o:z[i]'(by omega)=b3O st f.2.1[i] f.2.2.1[i]:=by grind
   have t:=c3d n k;have h:=c4b k d;rw[o]at h;simp only[a2p,dlt p,j,g,cT,a07,tN,b3N p,c4c k d];rcases b2T f.2.2.1[i]with⟨m,a⟩|⟨m,a⟩|⟨m,a⟩;have c:f.2.2.1[i] > 0:=m;simp[b3O,a]at h;simp only[c,decide_true,cT,oB,j,g,a07,tN,a0C (show i<1000000 by omega)];exact congrArg (fun l=>some (Sum.inl (x1,st,(f.2.2.1.length:Int),((i+1:Nat):Int),(f.1,l,f.2.2),()))) h;have c:¬ f.2.2.1[i] > 0:=by omega
   have e:f.2.1[i]+-1*st=f.2.1[i]-st:=by omega
   simp only[b3O,a,e]at h;simp only[c,m,decide_true,decide_false,cT,cF,oB,j,g,a07,tN,a0C (show i<1000000 by omega)];exact congrArg (fun l=>some (Sum.inl (x1,st,(f.2.2.1.length:Int),((i+1:Nat):Int),(f.1,l,f.2.2),()))) h;have c:¬ f.2.2.1[i] > 0:=by omega
   have r:¬ f.2.2.1[i]<0:=by omega
   have e:W (f.2.1[i]+0*st)=f.2.1[i]:=by rw[Int.zero_mul,Int.add_zero];exact a0D (by omega)
   simp only[b3O,a,e]at h;simp only[c,r,decide_false,cF,oB,j,g,cT,a07,tN,a0C (show i<1000000 by omega)];exact congrArg (fun l=>some (Sum.inl (x1,st,(f.2.2.1.length:Int),((i+1:Nat):Int),(f.1,l,f.2.2),()))) h)
  (by
   simp_all[List.take_of_length_le,a2p])
 simp_all
theorem c0X{f:Fil}(k:FilOk f)(x g:Int):-256≤a9S f.1 x g∧a9S f.1 x g≤256:=by
 have hp:=b6m k.rate;unfold a9S;rcases b2T (x-g)with⟨-,h⟩|⟨-,h⟩|⟨-,h⟩<;>rw[h]<;>omega
theorem b4B{f:Fil}(h:FilOk f)(x:Int):a2S (f,x)=some (b1n f x):=by
 unfold a2S;have d:=b8R h x;simp only[a4D,oB,a5t h];have g:(bif decide (v0a (u0z x (-1073741824)) 1073741823 > a1h f)then bif decide (f.1<0)then(none:Option (Int×Int×Fil×Unit))else some (v0a (u0z x (-1073741824)) 1073741823,z0g .i64 (1:Int) f.1,f,())
   else bif decide (v0a (u0z x (-1073741824)) 1073741823<a1h f)then bif decide (f.1<0)then none else some (v0a (u0z x (-1073741824)) 1073741823,wrap .i64 (0-(z0g .i64 (1:Int) f.1)),f,())
   else some (v0a (u0z x (-1073741824)) 1073741823,(0:Int),f,()))=_:=d
 rw[g];simp only[oB,b6S h (c0X h _ _)];have i:f.2.2.1.length≥1:=by have:=h.pos;have:=h.len;omega
 have b:decide ((1:Int)≤((f.2.2.1.length:Nat):Int))=true:=by grind
 have e:o0p f.2.2.1 1 (f.2.2.1.length-1) f.2.2.1=f.2.2.1.take 1++f.2.2.1.take (f.2.2.1.length-1):=by
  simp_all[o0p]
 have j:(f.2.2.1.take 1++f.2.2.1.take (f.2.2.1.length-1)).length=f.2.2.1.length:=by simp_all
 have c:decide ((0:Int)<(((f.2.2.1.take 1++f.2.2.1.take (f.2.2.1.length-1)).length:Nat):Int))=true:=by grind
 simp only[b,cT,e,c];congr 1;have k:(f.2.2.1.take 1++f.2.2.1.take (f.2.2.1.length-1)).set 0 (a2q x)=a2q x::f.2.2.1.take (f.2.2.1.length-1):=by
  cases hc:f.2.2.1 with
  |nil=>simp_all
  |cons a l=>simp
 rw[k];rfl
@[reducible] def Stg:Type:=Int×(Int×Unit)
theorem a7b{l:List Int}(h:short l):a1d l=some l:=by
 have g:lim (0+l.length)=true:=a0T (by unfold short at h;omega);unfold a1d w0g;rw[g,cT]
def a8S(s:Stg):Fil:=(s.2.1,a00 s.1.toNat 0,a00 s.1.toNat 0,())
theorem c1w{s:Stg}(h:stageB s=true):FilOk (a8S s):=by
 simp only[stageB,bA,dT]at h;refine⟨by simp[a8S],by simp[a8S];omega,by simp[a8S];omega,⟨h.2.2.1,h.2.2.2⟩,fun x g=>?_⟩;simp only[a8S,List.mem_replicate]at g;omega
theorem b1R{s:Stg}(h:stageB s=true):a7L s=some (a8S s,0):=by
 have g:=h;simp only[stageB,bA,dT]at g;unfold a7L;have f:decide ((0:Int)≤s.1)=true:=by simp;omega
 have k:decide (s.1≤s.1)=true:=by simp
 have a:lim s.1.toNat=true:=a0T (by omega);simp only[a9n,h,oB,bT,cF,f,k,a,a07,cT];rfl
def stO:List Int→List Int→Fil→Option (List Int)
 | [],done,_=>some done
 |r::rs,done,f=>bif a0A (W (a1h f+r))then stO rs (done++[W (a1h f+r)]) (b1n f (W (a1h f+r)))else none
theorem b3P:∀(l done:List Int)(f:Fil){r},stO l done f=some r→r.length=done.length+l.length
 | [],done,f,r,h=>by simp only[stO,sj]at h;rw[←h];simp
 |x::l,done,f,r,h=>by
  simp only[stO]at h;cases hw:a0A (W (a1h f+x))with
  |true=>rw[hw]at h;rw[b3P l _ _ h];simp;omega
  |false=>rw[hw]at h;cases h
theorem b2v{done row:List Int}{i:Nat}(g:done.length=i)(h:i<row.length):a04 (done++row.drop i) i 0=row[i]:=by
 rw[lD,List.getElem?_append_right (by omega),g,a46,List.getElem?_drop,a56,lG h];rfl
theorem b9z{done row:List Int}{i:Nat}(g:done.length=i)(h:i<row.length)(y:Int):(done++row.drop i).set i y=(done++[y])++row.drop (i+1):=by
 rw[a49 _ _ (by omega),g,a46,a05 h,a54,aA];rfl
theorem b2w{row b4:List Int}{b5:Int}(e:short row):∀(k i:Nat)(done:List Int)(f:Fil),i+k=row.length→done.length=i→FilOk f→
  ∃z,x0r a4E ((row.length:Int),(i:Int),b4,b5,done++row.drop i,f,())=some z∧
   match stO (row.drop i) done f with
   |some r=>z=.inl (b4,b5,r,())
   |none=>∃q,z=.inr (([]:List Int),(6:Int),q,())
 |0,i,done,f,h,hd,hf=>by
  obtain rfl:i=row.length:=by omega
  rw[a23,a60];exact⟨_,a0I (b:=Sum.inl (b4,b5,done,())) (by simp[a4E]),rfl⟩
 |k+1,i,done,f,h,hd,hf=>by
  have g:i<row.length:=by omega
  have l:row.length<1000000:=e;have c:decide ((0:Int)≤(i:Int))=true:=by simp
  have j:(done++row.drop i).length=row.length:=by simp;omega
  have d:decide ((i:Int)<(((done++row.drop i).length:Nat):Int))=true:=by rw[j];simp;omega
  have a:stO (row.drop i) done f=bif a0A (W (a1h f+row[i]))then stO (row.drop (i+1)) (done++[W (a1h f+row[i])]) (b1n f (W (a1h f+row[i])))else none:=by
   rw[a05 g];rfl
  rw[a];cases hw:a0A (W (a1h f+row[i]))with
  |true=>
   rw[a0J (s':=((row.length:Int),((i+1:Nat):Int),b4,b5,(done++[W (a1h f+row[i])])++row.drop (i+1),b1n f (W (a1h f+row[i])),())) (by
    simp only[a4E,dlt g,c,d,cT,a07,a5t hf,oB,tN,b2v hd g,a4A,hw,bT,cF,b4B hf,b9z hd g,a0C (show i<1000000 by omega)])]
   exact b2w e k (i+1) _ _ (by omega) (by simp;omega) (b9y hf _)
  |false=>
   exact⟨_,a0I (b:=Sum.inr (([]:List Int),(6:Int),done++row.drop i,())) (by
    simp only[a4E,dlt g,c,d,cT,a07,a5t hf,oB,tN,b2v hd g,a4A,hw,a29]),_,rfl⟩
def lO:List Stg→List Int→Option (List Int)
 | [],row=>some row
 |s::r,row=>match stO row [] (a8S s)with
  |some row'=>lO r row'
  |none=>none
theorem c0Y{st:List Stg}{s:Stg}{k:Int}{b4:List Int}{row:List Int}(h:stageB s=true)(b:short row):
  ∃z,a6K k s (st,b4,(0:Int),row,())=some z∧match stO row [] (a8S s)with
   |some r=>z=.inl (st,b4,(0:Int),r,())
   |none=>∃q,z=.inr (.ret,st,([]:List Int),(6:Int),q,()):=by
 obtain⟨z,a,g⟩:=b2w (b4:=b4) (b5:=0) b row.length 0 [] (a8S s) (by omega) rfl (c1w h);simp only[nZ,a35,a09]at a g;unfold a6K;have f:((0:Int) != 0)=false:=rfl;simp only[b1R h,oB,f,cF,a];cases hst:stO row [] (a8S s)with
 |some r=>
  rw[hst]at g;simp only[]at g;subst g;exact⟨_,rfl,rfl⟩
 |none=>
  rw[hst]at g;obtain⟨q,rfl⟩:=g;exact⟨_,rfl,q,rfl⟩
theorem b5U{st l:List Stg}{b4:List Int}(f:∀s∈l,stageB s=true):∀(n:Nat)(row:List Int),n≤l.length→short row→
  ∃z,k0w a6K l n (st,b4,(0:Int),row,())=some z∧match lO (l.take n).reverse row with
   |some r=>z=.inl (st,b4,(0:Int),r,())
   |none=>∃q,z=.inr (.ret,st,([]:List Int),(6:Int),q,())
 |0,row,_,_=>⟨_,rfl,rfl⟩
 |n+1,row,hn,hs=>by
  have h:n<l.length:=by omega
  obtain⟨z,a,g⟩:=c0Y (st:=st) (k:=(n:Int)) (b4:=b4) (f _ (a32 h)) hs;have b:(l.take (n+1)).reverse=l[n]::(l.take n).reverse:=by rw[List.take_add_one,lG h];simp
  simp only[k0w,lG h,a,b,lO];cases hst:stO row [] (a8S l[n])with
  |some r=>
   rw[hst]at g;simp only[]at g;subst g;exact b5U f n r (by omega) (by have:=b3P _ _ _ hst;unfold short at hs⊢;simp at this;omega)
  |none=>
   rw[hst]at g;obtain⟨q,rfl⟩:=g;exact⟨_,rfl,q,rfl⟩
def b0G(rest:List Int)(st:List Stg):Option (List Int):=bif rest.all a0A then lO st.reverse rest else none
theorem b8S{rest:List Int}{st:List Stg}(a:a7S st=true)(c:rest.length<100000):a8D (rest,st)=some (a4t (b0G rest st)):=by
 have f:=a;simp only[a7S,bA,dT]at f;have k:short st:=by unfold short;omega
 have h:short rest:=by unfold short;omega
 unfold a8D;simp only[b1O k,a,oB,bT,cF,b1N h,b0G];cases hw:rest.all a0A with
 |false=>rfl
 |true=>
  obtain⟨z,b,g⟩:=b5U (st:=st) (b4:=[]) (lA.1 f.2) st.length rest (a36 _) h;rw[a39]at g;simp only[bT,cF,cT,a7b h,oB,a0T k,b];cases hst:lO st.reverse rest with
  |some r=>
   rw[hst]at g;simp only[]at g;subst g;rfl
  |none=>
   rw[hst]at g;obtain⟨q,rfl⟩:=g;rfl
def a5u(n warm:Int):Bool:=decide (1≤n)&&(decide (n≤4096)&&(decide (0≤warm)&&decide (warm≤n)))
theorem b1S(n warm:Int):a6s (n,warm)=some (a5u n warm):=by
 grind[a6s,a5u]
theorem c6x{o:Nat}(h:o≤8):1≤2^o∧2^o≤256:=by
 have:o=0∨o=1∨o=2∨o=3∨o=4∨o=5∨o=6∨o=7∨o=8:=by omega
 grind
theorem b9A{N o:Nat}(h:o≤64):z0h .i64 (N:Int) (o:Int)=((N / 2^o:Nat):Int):=by
 unfold z0h;show Int.fdiv (N:Int) (2^(min (o:Int).toNat 64))=_
 grind
theorem b6n{N o:Nat}(h:o≤64)(g:N*2^o<9223372036854775808):z0g .i64 (N:Int) (o:Int)=((N*2^o:Nat):Int):=by
 unfold z0g;show wrap .i64 ((N:Int)*2^(min (o:Int).toNat 64))=_
 grind[a0D]
def b3r(o N:Nat)(warm:Int):List Int:=
 if N%2^o=0∧warm≤((N / 2^o:Nat):Int)then(((N / 2^o:Nat):Int)-warm)::a00 (2^o-1) ((N / 2^o:Nat):Int)else[]
def a1I(order n warm:Int):List Int:=bif a5u n warm&&(decide (0≤order)&&decide (order≤8))then b3r order.toNat n.toNat warm else[]
theorem a1W(order n warm:Int):a2L (order,n,warm)=some (a1I order n warm):=by
 unfold a2L a1I;simp only[b1S,oB];cases hr:a5u n warm with
 |false=>rfl
 |true=>
  simp[a5u]at hr;simp only[bT,cF,a22]
  by_cases h1:order<0
  grind
  by_cases h2:order > 8
  grind
  obtain⟨o,rfl⟩:=a06 (show 0≤order by omega);obtain⟨N,rfl⟩:=a06 (show 0≤n by omega);have p:o≤8:=by omega
  have q:N≤4096:=by omega
  have hp:=c6x p;have m:N / 2^o*2^o≤N:=Nat.div_mul_le_self N _;have l:(0:Int)≤(o:Int):=by omega
  have g8:(o:Int)≤8:=by omega
  simp only[h1,h2,l,g8,decide_true,decide_false,cF,cT,a07,oB,b9A (N:=N) (show o≤64 by omega),b6n (N:=N / 2^o) (show o≤64 by omega) (by omega),tN];have g:=a47 N (2^o);rw[Nat.mul_comm]at g
  by_cases hm:N%2^o=0
  have k:(((N / 2^o*2^o:Nat):Int) != (N:Int))=false:=by simp_all
  by_cases hw:warm≤((N / 2^o:Nat):Int)
  have c:decide (((N / 2^o:Nat):Int)<warm)=false:=decide_eq_false (Int.not_lt.2 hw);have e:wrap .i64 (((N / 2^o:Nat):Int)-warm)=((N / 2^o:Nat):Int)-warm:=a0D (by have:=a61 N (2^o);omega);simp only[k,c,e,cF,oB,b3r,hm,hw,and_self,if_true];have d:z0g .i64 (1:Int) (o:Int)=((2^o:Nat):Int):=by have:=b6n (N:=1) (show o≤64 by omega) (by omega);simp_all
  have:=a2F (f:=a5F) (fun i=>((o:Int),((N / 2^o:Nat):Int),(((N / 2^o:Nat):Int)-warm)::a00 i ((N / 2^o:Nat):Int),())) (2^o-1)
   (b:=((((N / 2^o:Nat):Int)-warm)::a00 (2^o-1) ((N / 2^o:Nat):Int),())) (fun i r=>by
    have a:decide ((((((N / 2^o:Nat):Int)-warm)::a00 i ((N / 2^o:Nat):Int)).length:Int)<((2^o:Nat):Int))=true:=by
     grind
    have h:lim (((((N / 2^o:Nat):Int)-warm)::a00 i ((N / 2^o:Nat):Int)).length+1)=true:=a0T (by grind);have j:a00 i ((N / 2^o:Nat):Int)++[((N / 2^o:Nat):Int)]=a00 (i+1) ((N / 2^o:Nat):Int):=by grind[a40]
    simp only[a5F,h1,decide_false,cF,d,a,cT,h,a41,a17,j])
   (by
    have a:decide ((((((N / 2^o:Nat):Int)-warm)::a00 (2^o-1) ((N / 2^o:Nat):Int)).length:Int)<((2^o:Nat):Int))=false:=by
     simp_all
    simp only[a5F,h1,decide_false,cF,d,a])
  simp_all;have c:decide (((N / 2^o:Nat):Int)<warm)=true:=decide_eq_true (Int.not_le.1 hw);simp_all[b3r];have k:(((N / 2^o*2^o:Nat):Int) != (N:Int))=true:=by grind
  simp only[k,cT,oB,b3r,hm,false_and,if_false]
@[reducible] def Prt:Type:=Int×((List Int)×Unit)
def kB(k:Int):Bool:=(decide (0≤k)&&decide (k≤25)) || (k==31)
def a4P(p:Prt)(n warm:Int):Bool:=!((a1I p.1 n warm).length==0)&&((a1I p.1 n warm).length==p.2.1.length&&p.2.1.all kB)
theorem b1T{p:Prt}{n warm:Int}(g:short p.2.1):a7K (p,n,warm)=some (a4P p n warm):=by
 have:=a1C (f:=a3O) p.2.1 (fun i=>(p.2.1,(p.2.1.length:Int),(i:Int),())) kB (bt:=Sum.inl ()) (bf:=Sum.inr (false,()))
  (fun i h hp=>by
   simp[kB]at hp
   by_cases h1:p.2.1[i]<0
   omega
   by_cases h2:p.2.1[i] > 25
   have b:p.2.1[i]=31:=by omega
   have a:(p.2.1[i] != 31)=false:=by simp_all
   simp[a3O,a0B h,h,h1,h2,a,a0C (a24 h g)];simp[a3O,a0B h,h,h1,h2,a0C (a24 h g)])
  (fun i h hp=>by
   have hp:¬ (kB p.2.1[i]=true):=by simp_all
   simp only[kB,a48,bA,dT,beq_iff_eq]at hp
   grind[a3O,a0B])
  (by simp[a3O])
 simp at this;unfold a7K a4P;simp[a1W]
 by_cases h0:(a1I p.1 n warm).length=0
 simp_all
 ·have e:((((a1I p.1 n warm).length:Nat):Int)==0)=false:=by simp_all
  have k:((a1I p.1 n warm).length==0)=false:=by simp_all
  simp[e,k]
  by_cases h1:(a1I p.1 n warm).length=p.2.1.length
  all_goals grind
@[reducible] def Sub:Type:=Int×(Int×(Int×(Int×(Int×((List Int)×((List Int)×((List Stg)×((List Int)×(Prt×((List Int)×Unit))))))))))
structure SmallS (s:Sub):Prop where
 coefs:s.2.2.2.2.2.1.length≤40
 taps:s.2.2.2.2.2.2.1.length=3
 stages:s.2.2.2.2.2.2.2.1.length≤6
 warm:s.2.2.2.2.2.2.2.2.1.length≤5000
 rest:s.2.2.2.2.2.2.2.2.2.2.1.length≤5000
 ks:s.2.2.2.2.2.2.2.2.2.1.2.1.length≤300
theorem b1U(x y:List Int):eqT (.arr 3 (.int .i64)) x y=decide (x=y):=by
 show((a25 (fun(a b:Int)=>a==b) x y).all id&&x.length==y.length)=_
 induction x generalizing y with
 |nil=>cases y<;>simp
 |cons a x ih=>
  cases y with
  |nil=>simp
  |cons b y=>
   have:=ih y
   simp only[List.zipWith_cons_cons,a52,lC,id];rw[Bool.and_assoc,show((x.length+1==y.length+1):Bool)=(x.length==y.length)from by simp,this]
   by_cases h1:a=b<;>by_cases h2:x=y<;>simp[h1,h2]
theorem b3Q{l:List Int}(h:short l):a3s l=some l:=a7b h
theorem b5V{l:List Stg}(h:short l):a1n l=some l:=by
 have g:lim (0+l.length)=true:=a0T (by unfold short at h;omega);unfold a1n w0g;rw[g,cT]
def a3w(k:Int)(s:Sub)(n:Int):Prop:=
 k=0∨k=1∨(k=2∧0≤s.2.2.1∧s.2.2.1≤4∧s.2.2.1≤n)∨(k=3∧a7H s.2.2.2.2.2.1 s.2.2.2.1=true∧(s.2.2.2.2.2.1.length:Int)≤n)∨
  (k=4∧a7H s.2.2.2.2.2.1 s.2.2.2.1=true∧(s.2.2.2.2.2.1.length:Int)≤n∧a9R s.2.2.2.2.1 s.2.2.2.2.2.2.1=true)∨
  (k=5∧0<s.2.2.2.2.2.2.2.1.length∧a7S s.2.2.2.2.2.2.2.1=true)
open Classical in
def b1V (k:Int) (s:Sub) (n:Int):Bool:=decide (a3w k s n)
theorem b3s{s:Sub}(h:SmallS s)(k n:Int):a6R (k,s,n)=some (b1V k s n):=by
 have f:short s.2.2.2.2.2.1:=by have:=h.coefs;unfold short;omega
 have g:short s.2.2.2.2.2.2.2.1:=by have:=h.stages;unfold short;omega
 unfold a6R b1V a3w
 by_cases k0:k=0
 subst k0;simp
 by_cases k1:k=1
 subst k1;simp;have a:(k==0)=false:=by simp[k0]
 have b:(k==1)=false:=by simp[k1]
 simp only[a,b,cF,oB]
 by_cases k2:k=2
 subst k2
 by_cases h1:0≤s.2.2.1<;>by_cases h2:s.2.2.1≤4<;>simp[h1,h2]
 by_cases k3:k=3
 subst k3;cases hl:a7H s.2.2.2.2.2.1 s.2.2.2.1<;>simp[a8e f,hl]
 by_cases k4:k=4
 subst k4;cases hl:a7H s.2.2.2.2.2.1 s.2.2.2.1<;>by_cases h2:(s.2.2.2.2.2.1.length:Int)≤n<;>simp[a8e f,b2S h.taps,hl,h2]
 by_cases k5:k=5
 subst k5
 by_cases h1:0<s.2.2.2.2.2.2.2.1.length
 simp[b1O g,h1];simp[h1];have c:(k==2)=false:=by simp[k2]
 have d:(k==3)=false:=by simp[k3]
 have e:(k==4)=false:=by simp[k4]
 have i:(k==5)=false:=by simp[k5]
 simp only[c,d,e,i,cF];simp[k0,k1,k2,k3,k4,k5]
def a2i(s:Sub)(n:Int):Int:=if s.1=0 then 1 else if s.1=1 then n else if s.1=2 then s.2.2.1 else if s.1=3∨s.1=4 then(s.2.2.2.2.2.1.length:Int)else 0
theorem b0H(s:Sub)(n:Int):a3Z (s,n)=some (a2i s n):=by
 obtain⟨k,s⟩:=s;unfold a3Z a2i
 by_cases k0:k=0
 subst k0;simp
 by_cases k1:k=1
 subst k1;simp
 by_cases k2:k=2
 subst k2;simp
 by_cases k3:k=3
 subst k3;simp
 by_cases k4:k=4
 subst k4;simp;have h:(k==0)=false:=by simp[k0]
 have g:(k==1)=false:=by simp[k1]
 have f:(k==2)=false:=by simp[k2]
 have a:(k==3)=false:=by simp[k3]
 have b:(k==4)=false:=by simp[k4]
 simp[k0,k1,k2,k3,k4,h,g,f,a,b]
def b3t(s:Sub):Prop:=
 (s.1≠2→s.2.2.1=0)∧(s.1≠3∧s.1≠4→s.2.2.2.1=0)∧(s.1≠4→s.2.2.2.2.1=0)∧(s.1≠4→s.2.2.2.2.2.2.1=[0,0,0])∧(s.1≠3∧s.1≠4→s.2.2.2.2.2.1=[])∧(s.1≠5→s.2.2.2.2.2.2.2.1=[])
open Classical in
def b3u (s:Sub):Bool:=decide (b3t s)
theorem a9p{c x:Bool}:(bif c then some x else some false)=some (c&&x):=by cases c<;>rfl
theorem b7Q{α:Type}(l:List α):(((l.length:Nat):Int)==0)=decide (l=[]):=by
 cases l with
 |nil=>rfl
 |cons a l=>simp;omega
theorem b7R(x:Int):(x==0)=decide (x=0):=rfl
theorem b9B{s:Sub}(h:SmallS s):a9y s=some (b3u s):=by
 have a:short s.2.2.2.2.2.1:=by have:=h.coefs;unfold short;omega
 have g:short s.2.2.2.2.2.2.2.1:=by have:=h.stages;unfold short;omega
 obtain⟨k,w,o,sh,lag,c,t,st,j,p,r,u⟩:=s;simp only at a g;unfold a9y a5i b3u b3t;have f:(a00 3 (0:Int))=[0,0,0]:=rfl
 by_cases k2:k=2
 subst k2;simp[b1U,f,a9p,b7Q,b7R]
 by_cases k4:k=4
 subst k4;simp[b1U,f,a9p,b7Q,b7R,b3Q a]
 by_cases k3:k=3
 subst k3;simp[b1U,f,a9p,b7Q,b7R,b3Q a]
 by_cases k5:k=5
 subst k5;simp[b1U,f,a9p,b7Q,b7R,b5V g];have b:(k==2)=false:=by simp[k2]
 have d:(k==3)=false:=by simp[k3]
 have e:(k==4)=false:=by simp[k4]
 have i:(k==5)=false:=by simp[k5]
 simp[b,d,e,i,k2,k3,k4,k5,b1U,f,a9p,b7Q,b7R]
theorem a5A(k:Int):a5g k=some (decide (k≠0∧k≠1)):=by
 unfold a5g
 by_cases h0:k=0
 subst h0;rfl
 by_cases h1:k=1
 subst h1;rfl;have e:(k != 0)=true:=by simp[h0]
 simp[e,h0,h1]
def a1r(s:Sub)(n:Int):Prop:=
 1≤n∧n≤4096∧a3w s.1 s n∧b3t s∧0≤s.2.1∧s.2.1≤30∧(s.1=0→s.2.1=0)∧(s.2.2.2.2.2.2.2.2.1.length:Int)=a2i s n∧s.2.2.2.2.2.2.2.2.1.all a0A=true∧s.2.2.2.2.2.2.2.2.2.2.1.all a0A=true∧
  (s.1=0∨s.1=1→s.2.2.2.2.2.2.2.2.2.2.1=[]∧s.2.2.2.2.2.2.2.2.2.1.1=0∧s.2.2.2.2.2.2.2.2.2.1.2.1=[])∧
  (s.1≠0∧s.1≠1→(s.2.2.2.2.2.2.2.2.2.2.1.length:Int)=n-a2i s n∧a4P s.2.2.2.2.2.2.2.2.2.1 n (a2i s n)=true)
theorem c0Z{s:Sub}(h:SmallS s){n:Int}(a:1≤n)(b:n≤4096)(f:a3w s.1 s n):0≤a2i s n∧a2i s n≤4096:=by
 have c:=h.coefs;unfold a2i;rcases f with k|k|⟨k,g⟩|⟨k,g⟩|⟨k,g⟩|⟨k,g⟩<;>simp[k]<;>omega
open Classical in
theorem c3e {s:Sub} (h:SmallS s) (n:Int):a8y (s,n)=some (decide (a1r s n)):=by
 have hw:short s.2.2.2.2.2.2.2.2.1:=by have:=h.warm;unfold short;omega
 have hr:short s.2.2.2.2.2.2.2.2.2.2.1:=by have:=h.rest;unfold short;omega
 have hk:short s.2.2.2.2.2.2.2.2.2.1.2.1:=by have:=h.ks;unfold short;omega
 unfold a8y
 by_cases h1:1≤n
 rotate_left
 ·have e1:decide (n<1)=true:=by simp;omega
  have:¬ a1r s n:=fun hp=>h1 hp.1
  simp only[e1,cT,oB,this,decide_false]
 have e1:decide (n<1)=false:=by simp;omega
 by_cases h2:n≤4096
 rotate_left
 ·have e2:decide (n > 4096)=true:=by simp;omega
  have:¬ a1r s n:=fun hp=>h2 hp.2.1
  simp only[e1,e2,cT,cF,oB,this,decide_false]
 have e2:decide (n > 4096)=false:=by simp;omega
 by_cases h3:a3w s.1 s n
 rotate_left
 ·have e3:b1V s.1 s n=false:=by simp[b1V,h3]
  have:¬ a1r s n:=fun hp=>h3 hp.2.2.1
  simp only[e1,e2,b3s h,e3,cT,cF,a29,oB,this,decide_false]
 have e3:b1V s.1 s n=true:=by simp[b1V,h3]
 by_cases h4:b3t s
 rotate_left
 ·have e4:b3u s=false:=by simp[b3u,h4]
  have:¬ a1r s n:=fun hp=>h4 hp.2.2.2.1
  simp only[e1,e2,b3s h,e3,b9B h,e4,cT,cF,a29,bT,oB,this,decide_false]
 have e4:b3u s=true:=by simp[b3u,h4]
 simp only[e1,e2,b3s h,e3,b9B h,e4,cF,bT,oB]
 by_cases h5:0≤s.2.1
 rotate_left
 ·have e5:decide (s.2.1<0)=true:=by simp;omega
  have:¬ a1r s n:=fun hp=>h5 hp.2.2.2.2.1
  simp only[e5,cT,oB,this,decide_false]
 have e5:decide (s.2.1<0)=false:=by simp;omega
 by_cases h6:s.2.1≤30
 rotate_left
 ·have e6:decide (s.2.1 > 30)=true:=by simp;omega
  have:¬ a1r s n:=fun hp=>h6 hp.2.2.2.2.2.1
  simp only[e5,e6,cT,cF,oB,this,decide_false]
 have e6:decide (s.2.1 > 30)=false:=by simp;omega
 simp only[e5,e6,cF]
 by_cases h7:s.1=0→s.2.1=0
 rotate_left
 ·have h7a:s.1=0:=Classical.byContradiction fun hc=>h7 fun e=>absurd e hc
  have h7b:(s.2.1 != 0)=true:=by
   simp only[bne_iff_ne,ne_eq];intro e;exact h7 fun _=>e
  have e7:(s.1==0)=true:=by simp[h7a]
  have:¬ a1r s n:=fun hp=>h7 hp.2.2.2.2.2.2.1
  simp only[e7,h7b,cT,oB,this,decide_false]
 have e7:(bif s.1==0 then some (n,(s.2.1 != 0,(s,())))else some (n,(false,(s,()))))=some (n,(false,(s,()))):=by
  by_cases k0:s.1=0
  ·simp[k0,h7 k0]
  ·have:(s.1==0)=false:=by simp[k0]
   rw[this];rfl
 simp only[e7,oB,cF,b0H]
 by_cases h8:(s.2.2.2.2.2.2.2.2.1.length:Int)=a2i s n
 rotate_left
 ·have e8:(((s.2.2.2.2.2.2.2.2.1.length:Nat):Int) != a2i s n)=true:=by simp only[bne_iff_ne,ne_eq];exact h8
  have:¬ a1r s n:=fun hp=>h8 hp.2.2.2.2.2.2.2.1
  simp only[e8,cT,oB,this,decide_false]
 have e8:(((s.2.2.2.2.2.2.2.2.1.length:Nat):Int) != a2i s n)=false:=by rw[h8];simp
 simp only[e8,cF,a3X hw,a3X hr,oB]
 cases h9:s.2.2.2.2.2.2.2.2.1.all a0A with
 |false=>
  have:¬ a1r s n:=fun hp=>by rw[hp.2.2.2.2.2.2.2.2.1]at h9;cases h9
  simp only[a29,cT,oB,this,decide_false]
 |true=>
  cases h10:s.2.2.2.2.2.2.2.2.2.2.1.all a0A with
  |false=>
   have:¬ a1r s n:=fun hp=>by rw[hp.2.2.2.2.2.2.2.2.2.1]at h10;cases h10
   simp only[a29,bT,cT,cF,oB,this,decide_false]
  |true=>
   simp only[bT,cF,oB,a5A]
   have hwr:=c0Z h h1 h2 h3
   by_cases k01:s.1≠0∧s.1≠1
   ·have e11:wrap .i64 (n-a2i s n)=n-a2i s n:=a0D (by omega)
    simp only[k01,ne_eq,not_false_eq_true,and_self,decide_true,bT,cF,e11,b1T hk,oB]
    by_cases h11:(s.2.2.2.2.2.2.2.2.2.2.1.length:Int)=n-a2i s n
    ·have e12:(((s.2.2.2.2.2.2.2.2.2.2.1.length:Nat):Int)==n-a2i s n)=true:=by simp[h11]
     simp only[e12,cT]
     congr 1
     rw[a62,dT]
     constructor
     ·intro hp
      exact⟨h1,h2,h3,h4,h5,h6,h7,h8,h9,h10,fun hc=>absurd hc (by omega),fun _=>⟨h11,hp⟩⟩
     ·intro hp;exact(hp.2.2.2.2.2.2.2.2.2.2.2 k01).2
    ·have e12:(((s.2.2.2.2.2.2.2.2.2.2.1.length:Nat):Int)==n-a2i s n)=false:=by simp only[beq_eq_false_iff_ne,ne_eq];exact h11
     have:¬ a1r s n:=fun hp=>h11 (hp.2.2.2.2.2.2.2.2.2.2.2 k01).1
     simp only[e12,cF,this,decide_false]
   ·have k01':s.1=0∨s.1=1:=by omega
    simp only[k01,decide_false,a29,cT,b7Q]
    simp only[b7R,a9p]
    congr 1
    rw[a62,dT]
    simp only[bA,dT]
    constructor
    ·rintro⟨g1,g2,g3⟩
     exact⟨h1,h2,h3,h4,h5,h6,h7,h8,h9,h10,fun _=>⟨g1,g2,g3⟩,fun hc=>absurd hc k01⟩
    ·intro hp;exact hp.2.2.2.2.2.2.2.2.2.2.1 k01'
theorem c3f{k:Int}{s:Sub}{n:Int}(h:a3w k s n):k=0∨k=1∨k=2∨k=3∨k=4∨k=5:=by
 unfold a3w at h;omega
def b6o(warm rest:List Int)(o:Int):Option (List Int):=bif warm.all a0A&&rest.all a0A then a3J (a4h o.toNat) rest warm else none
def backP(s:Sub):Option (List Int):=
 if s.1=1 then some s.2.2.2.2.2.2.2.2.1
 else if s.1=2 then b6o s.2.2.2.2.2.2.2.2.1 s.2.2.2.2.2.2.2.2.2.2.1 s.2.2.1
 else if s.1=3 then b1P s.2.2.2.2.2.2.2.2.1 s.2.2.2.2.2.2.2.2.2.2.1 s.2.2.2.2.2.1 s.2.2.2.1
 else if s.1=4 then(b1P s.2.2.2.2.2.2.2.2.1 s.2.2.2.2.2.2.2.2.2.2.1 s.2.2.2.2.2.1 s.2.2.2.1).bind fun l=>b2u l s.2.2.2.2.1 s.2.2.2.2.2.2.1
 else b0G s.2.2.2.2.2.2.2.2.2.2.1 s.2.2.2.2.2.2.2.1
def b9C(s:Sub)(n:Int):Option (List Int):=
 if s.1=0 then some (a00 n.toNat (s.2.2.2.2.2.2.2.2.1.getD 0 0))else(backP s).bind (upO s.2.1)
theorem b2U{w r c:List Int}{s:Int}{l}(h:b1P w r c s=some l):l.length=w.length+r.length:=by
 unfold b1P at h;cases hc:(w.all a0A&&r.all a0A)with
 |false=>simp_all
 |true=>
  rw[hc]at h;exact(b1l _ r w l (a50.1 hc).1 h).2
theorem c1a{w r:List Int}{o:Int}{l}(h:b6o w r o=some l):l.length=w.length+r.length:=by
 unfold b6o at h;cases hc:(w.all a0A&&r.all a0A)with
 |false=>simp_all
 |true=>
  rw[hc]at h;exact(b1l _ r w l (a50.1 hc).1 h).2
theorem b9D{r t:List Int}{lag:Int}{l}(h:b2u r lag t=some l):l.length=r.length:=by
 unfold b2u at h;cases hc:r.all a0A with
 |false=>simp_all
 |true=>
  rw[hc]at h
  have:=(b1l _ r [] l rfl h).2
  simp_all
theorem b8l:∀(st:List Stg)(r:List Int){l},lO st r=some l→l.length=r.length
 | [],r,l,h=>by simp_all[lO]
 |s::st,r,l,h=>by
  simp only[lO]at h
  split at h
  rename_i f g;rw[b8l st f h,b3P _ _ _ g];simp;cases h
theorem b8T{r:List Int}{st:List Stg}{l}(h:b0G r st=some l):l.length=r.length:=by
 grind[b0G,b8l]
theorem b9E{s:Sub}(h:SmallS s){l}(g:backP s=some l):l.length<100000:=by
 have b:=h.warm;have a:=h.rest;unfold backP at g
 split at g
 grind
 split at g
 grind[c1a]
 split at g
 grind[b2U]
 split at g
 obtain⟨c,f,k⟩:=Option.bind_eq_some_iff.1 g;rw[b9D k,b2U f];omega
 grind[b8T]
theorem c3g{s:Sub}{n:Int}(c:1≤n)(d:n≤4096)(e:s.2.2.2.2.2.2.2.2.1.length=1):
  x0r a6b (n,(0:Int),([]:List Int),s,())=some (a00 n.toNat (s.2.2.2.2.2.2.2.2.1.getD 0 0),()):=by
 obtain⟨N,rfl⟩:=a06 (show 0≤n by omega);have k:l0z s.2.2.2.2.2.2.2.2.1 (0:Int)=some (s.2.2.2.2.2.2.2.2.1.getD 0 0):=b9u (by omega) (by omega)
 have:=a2F (f:=a6b) (fun i=>((N:Int),(i:Int),a00 i (s.2.2.2.2.2.2.2.2.1.getD 0 0),s,())) N
  (b:=(a00 N (s.2.2.2.2.2.2.2.2.1.getD 0 0),())) (fun i a=>by
   have h:lim ((a00 i (s.2.2.2.2.2.2.2.2.1.getD 0 0)).length+1)=true:=a0T (by grind);have g:a00 i (s.2.2.2.2.2.2.2.2.1.getD 0 0)++[s.2.2.2.2.2.2.2.2.1.getD 0 0]=a00 (i+1) (s.2.2.2.2.2.2.2.2.1.getD 0 0):=by grind[a40]
   simp only[a6b,dlt a,cT,k,oB,h,a41,g,a0C (show i<1000000 by omega)])
  (by simp[a6b])
 simp_all
theorem c1b{s:Sub}(h:SmallS s){n:Int}(hp:a1r s n):b1c (s,n)=some (a4t (b9C s n)):=by
 have a:=fun l (d:backP s=some l)=>b9E h d;obtain⟨z,A,C,-,x,v,-,g,K,I,-⟩:=hp;have F:=h.rest;have G:=h.warm;have H:=h.taps;have D:=c3g (s:=s) z A;obtain⟨k,w,o,sh,lag,c,t,st,f,p,r,u⟩:=s;simp only at *;have L:∀l,l.length<100000→a7M (l,w)=some (a4t (upO w l)):=fun l d=>b9w x v d;unfold b1c b9C;rcases C with b|b|⟨b,j,m,y⟩|⟨b,j,m⟩|⟨b,j,m,y⟩|⟨b,j,m⟩
 grind[a2i,a4t]
 simp_all[backP]
 ·subst b;obtain⟨O,rfl⟩:=a06 j;have m:(O:Int)≤4:=m;simp only[a2i]at g;have q:f.length=O:=by grind
  have i:=b8Q (warm:=f) (rest:=r) (o:=O) (by omega) q (by omega);simp only[backP]at a⊢;simp[i];have e:(bif f.all a0A&&r.all a0A then a3J (a4h O) r f else none)=b6o f r (O:Int):=rfl;rw[e];cases d:b6o f r (O:Int)with
  |none=>rfl
  |some l=>simp_all[a4t]
 ·subst b;simp only[a2i]at g;have q:f.length=c.length:=by grind
  have i:=b3q (rest:=r) j q (by omega);simp only[backP]at a⊢;simp[i];cases d:b1P f r c sh with
  |none=>rfl
  |some l=>simp_all[a4t]
 ·subst b;simp only[a2i]at g;have q:f.length=c.length:=by grind
  have i:=b3q (rest:=r) j q (by omega);simp only[backP]at a⊢;simp[i];cases d:b1P f r c sh with
  |none=>rfl
  |some l=>
   have E:=b2U d;have B:=b9v (rest:=l) y H (by omega);simp[a4t,B]
   grind[a4t]
 ·subst b;have i:=b8S (rest:=r) m (by omega);simp only[backP]at a⊢;simp[i];cases d:b0G r st with
  |none=>rfl
  |some l=>simp_all[a4t]
open Classical in
def a2g (s:Sub) (n:Int):Option (List Int):=if a1r s n then b9C s n else none
theorem b6T{s:Sub}(h:SmallS s)(n:Int):a9Z (s,n)=some (match a2g s n with|some r=>(r,0)|none=>([],1)):=by
 unfold a9Z a2g;simp only[c3e h,oB]
 by_cases hp:a1r s n
 simp[hp,c1b h hp]
 grind[a4t]
 simp_all
theorem b6U{s:Sub}(h:SmallS s)(n:Int):a8n (s,n)=some (a2g s n).isSome:=by
 unfold a8n;simp only[b6T h,oB];cases a2g s n<;>rfl
@[reducible] def Wr:Type:=(List Int)×(Int×Unit)
def b7S(w:Wr)(b:Int):Wr:=
 let bs:=if w.2.1%8=0 then w.1++[0]else w.1
 (bs.set (w.2.1 / 8).toNat (bits .u8 .or (bs.getD (w.2.1 / 8).toNat 0) (z0g .u8 b (7-w.2.1%8))),w.2.1+1,())
def wL(L:List Int):Wr:=L.foldl b7S ([],0,())
theorem b7T(L:List Int)(b:Int):wL (L++[b])=b7S (wL L) b:=by simp[wL]
theorem b6V:∀(n:Nat)(L:List Int),L.length=n→(wL L).2.1=L.length∧(wL L).1.length=(L.length+7) / 8
 |0,L,h=>by
  rw[List.length_eq_zero_iff.1 h];exact⟨rfl,rfl⟩
 |n+1,L,h=>by
  obtain⟨g,b,rfl⟩:∃g b,L=g++[b]:=by
   rcases List.eq_nil_or_concat L with rfl|⟨g,b,e⟩;simp at h;exact⟨g,b,by rw[e,List.concat_eq_append]⟩
  obtain⟨f,k⟩:=b6V n g (by simpa using h);rw[b7T];simp only[b7S,List.length_set,lN,List.length_singleton,f];refine⟨by omega,?_⟩
  by_cases h:(g.length:Int)%8=0
  rw[if_pos h];simp;omega;rw[if_neg h];omega
theorem a4U(L:List Int):(wL L).2.1=L.length∧(wL L).1.length=(L.length+7) / 8:=b6V _ L rfl
theorem b6W{L:List Int}(p:L.length<1000000000)(b:Int):a1Y (wL L,b)=some (wL (L++[b])):=by
 obtain⟨k,a⟩:=a4U L;have m:a16 ((L.length:Nat):Int) 8=((L.length:Nat):Int)%8:=Int.tmod_eq_emod_of_nonneg (by omega);have l:a18 ((L.length:Nat):Int) 8=((L.length:Nat):Int) / 8:=Int.tdiv_eq_ediv_of_nonneg (by omega);have c:wrap .i64 (((L.length:Nat):Int) / 8)=((L.length:Nat):Int) / 8:=a0D (by omega);have d:wrap .i64 (7-((L.length:Nat):Int)%8)=7-((L.length:Nat):Int)%8:=a0D (by omega);have e:wrap .i64 (((L.length:Nat):Int)+1)=((L.length:Nat):Int)+1:=a0D (by omega);have i:decide ((0:Int)≤((L.length:Nat):Int) / 8)=true:=by simp;omega
 have j:decide (7-((L.length:Nat):Int)%8<0)=false:=by simp;omega
 rw[b7T];generalize wL L=wr at k a⊢;obtain⟨f,n,u⟩:=wr;have k:n=((L.length:Nat):Int):=k;have a:f.length=(L.length+7) / 8:=a;subst k;unfold a1Y b7S
 by_cases h:((L.length:Nat):Int)%8=0
 have hb:(((L.length:Nat):Int)%8==0)=true:=by simp[h]
 have o:lim (f.length+1)=true:=a1c (by omega);have g:decide (((L.length:Nat):Int) / 8<(((f++[0]).length:Nat):Int))=true:=by simp;omega
 simp only[hb,cT,o,oB,l,c,d,e,m,i,j,a41,g,a07,cF,if_pos h];have hb:(((L.length:Nat):Int)%8==0)=false:=by simp only[beq_eq_false_iff_ne,ne_eq];exact h
 have g:decide (((L.length:Nat):Int) / 8<((f.length:Nat):Int))=true:=by simp;omega
 simp only[hb,cF,oB,l,c,d,e,m,i,j,g,a07,cT,if_neg h]
def a5Q(v:Int)(i:Nat):Int:=wrap .u8 (bits .u64 .and (z0h .u64 v (i:Int)) 1)
def pb(v:Int):Nat→List Int
 |0=>[]
 |i+1=>a5Q v i::pb v i
theorem b2x(v:Int):∀n,(pb v n).length=n
 |0=>rfl
 |n+1=>by simp[pb,b2x v n]
def a0M(v:Int)(n:Nat)(L:List Int):List Int:=bif z0h .u64 v (n:Int) != 0 then L else L++pb v n
theorem a0U(v:Int)(n:Nat)(L:List Int):L.length≤(a0M v n L).length∧(a0M v n L).length≤L.length+n:=by
 unfold a0M;cases (z0h .u64 v (n:Int) != 0)<;>simp[b2x]
def a7c(v:Int)(n:Nat):Int:=bif z0h .u64 v (n:Int) != 0 then 1 else 0
theorem b9F{v:Int}:∀(n:Nat)(L:List Int),L.length+n<1000000000→x0r a3G (v,(n:Int)-1,wL L,())=some (wL (L++pb v n),())
 |0,L,_=>by rw[a0I (b:=(wL L,())) (by simp[a3G])];simp[pb]
 |n+1,L,h=>by
  have e:((n+1:Nat):Int)-1=(n:Int):=by omega
  have g:wrap .i64 ((n:Int)-1)=(n:Int)-1:=a0D (by omega);have f:decide ((n:Int)≥0)=true:=by simp
  have k:decide ((n:Int)<0)=false:=by simp
  rw[e,a0J (s':=(v,(n:Int)-1,wL (L++[a5Q v n]),())) (by
   simp only[a3G,f,k,cT,cF,show wrap .u8 (bits .u64 .and (z0h .u64 v (n:Int)) 1)=a5Q v n from rfl,b6W (show L.length<1000000000 by omega),oB,g])]
  rw[b9F n (L++[a5Q v n]) (by simp;omega),pb]
  simp
theorem a2V{L:List Int}{v:Int}{n:Nat}(a:n≤63)(k:L.length<999999000):a0H (wL L,v,(n:Int))=some (a7c v n,wL (a0M v n L)):=by
 unfold a0H a7c a0M;have g:decide ((n:Int)<0)=false:=by simp
 have f:decide ((n:Int) > 64)=false:=by simp;omega
 have h:wrap .i64 ((n:Int)-1)=(n:Int)-1:=a0D (by omega);simp only[g,f,cF,oB];cases (z0h .u64 v (n:Int) != 0)with
 |true=>rfl
 |false=>simp only[cF,h,b9F n L (by omega),oB]
def unL(n:Nat)(L:List Int):List Int:=L++a00 n 0++[1]
theorem b9G{L:List Int}{n:Nat}(d:n≤4096)(c:L.length<999990000):a2m (wL L,(n:Int))=some (0,wL (unL n L)):=by
 unfold a2m unL;have g:decide ((n:Int)<0)=false:=by simp
 have k:decide ((n:Int) > 4096)=false:=by simp;omega
 simp only[g,k,cF,oB]
 have:=a2F (f:=a3a) (fun i=>((n:Int),(i:Int),wL (L++a00 i 0),())) n (b:=(wL (L++a00 n 0),())) (fun i a=>by
   have h:L++a00 i (0:Int)++[0]=L++a00 (i+1) 0:=by rw[aA,←a40]
   simp only[a3a,dlt a,cT,b6W (show(L++a00 i (0:Int)).length<1000000000 by simp;omega),oB,h,a0C (show i<1000000 by omega)])
  (by simp[a3a])
 simp only[nZ,List.replicate_zero,a60]at this;simp only[this,oB,b6W (show(L++a00 n (0:Int)).length<1000000000 by simp;omega)]
theorem a8T(n:Nat)(L:List Int):(unL n L).length=L.length+n+1:=by simp[unL];omega
def a0S(x:Int)(n:Nat):Int:=bits .u64 .and (wrap .u64 x) (wrap .u64 ((z0g .u64 1 (n:Int))-1))
def a1w(n:Nat)(l:List Int)(L:List Int):List Int:=l.foldl (fun L x=>a0M (a0S x n) n L) L
theorem a5v(n:Nat):∀(l L:List Int),L.length≤(a1w n l L).length∧(a1w n l L).length≤L.length+n*l.length
 | [],L=>by simp[a1w]
 |x::l,L=>by
  have h:=a0U (a0S x n) n L;have g:=a5v n l (a0M (a0S x n) n L);have e:a1w n (x::l) L=a1w n l (a0M (a0S x n) n L):=rfl;rw[e,lC,Nat.mul_add,Nat.mul_one];omega
theorem b1W{L:List Int}{x:Int}{n:Nat}(f:n≤63)(g:L.length<999999000):a2B (wL L,x,(n:Int))=some (wL (a0M (a0S x n) n L)):=by
 unfold a2B;have h:decide ((n:Int)<0)=false:=by simp
 simp only[h,cF,show bits .u64 .and (wrap .u64 x) (wrap .u64 ((z0g .u64 1 (n:Int))-1))=a0S x n from rfl,a2V f g,oB]
def a1x(x w:Int):Bool:=decide (1≤w)&&(decide (w≤31)&&(decide (z0g .i64 (-1) (w-1)≤x)&&decide (x≤wrap .i64 (z0g .i64 1 (w-1)-1))))
theorem a5w{x:Int}{w:Nat}(a:w≤32):a3t (x,(w:Int))=some (a1x x w):=by
 unfold a3t a1x b1B b0Q
 by_cases h1:1≤(w:Int)
 by_cases h2:(w:Int)≤31
 have h:decide ((w:Int)<1)=false:=by simp_all
 have g:decide ((w:Int) > 31)=false:=by simp_all
 have e:wrap .i64 ((w:Int)-1)=(w:Int)-1:=a0D (by omega);have f:decide ((w:Int)-1<0)=false:=by simp_all
 have k:decide ((w:Int)≥1)=true:=by simp_all
 simp[h1,h2,h,g,f,e]
 grind
 grind
 grind
theorem c1c{x:Int}{w:Nat}(b:w≤32):b0F (x,(w:Int))=some (a1x x w):=by
 unfold b0F a1x b6l b5a
 by_cases h1:1≤(w:Int)
 by_cases h2:(w:Int)≤31
 have f:decide ((w:Int)<1)=false:=by simp_all
 have k:decide ((w:Int) > 31)=false:=by simp_all
 have e:wrap .i64 ((w:Int)-1)=(w:Int)-1:=a0D (by omega);have g:wrap .u64 ((w:Int)-1)=(w:Int)-1:=a0P (by omega);have a:decide ((w:Int)-1<0)=false:=by simp_all
 have h:decide ((w:Int)≥1)=true:=by simp_all
 simp only[h,h1,h2,f,k,a,e,g,decide_true,cT,cF,oB,a22]
 grind
 grind
 grind
def a1J(x:Int):Nat→Nat→Nat
 |0,w=>w
 |k+1,w=>bif (x != 0)&&!a1x x w then a1J x k (w+1)else w
theorem b6p(x:Int):∀(k w:Nat),a1J x k w≤w+k
 |0,w=>a36 _
 |k+1,w=>by
  simp[a1J];cases (x != 0)&&!a1x x w with
  |true=>have:=b6p x k (w+1);grind
  |false=>simp
def a0G(l:List Int):Nat:=l.foldl (fun w x=>a1J x (32-w) w) 0
theorem b4C:∀(l:List Int)(w:Nat),w≤32→l.foldl (fun w x=>a1J x (32-w) w) w≤32
 | [],w,h=>h
 |x::l,w,h=>b4C l _ (show a1J x (32-w) w≤32 by grind[b6p])
theorem a5B(l:List Int):a0G l≤32:=b4C l 0 (by omega)
theorem b8m{x:Int}{l:List Int}{n i:Int}:∀(k w:Nat),w+k=32→x0r a2H ((w:Int),x,l,n,i,())=some (((a1J x k w:Nat):Int),l,n,i,())
 |0,w,h=>by
  obtain rfl:w=32:=by omega
  simp_all[a0I,a2H,a1J]
 |k+1,w,h=>by
  have g:decide ((w:Int)<32)=true:=by grind
  simp[a1J];cases hx:(x != 0)with
  |false=>simp_all[a0I,a2H]
  |true=>
   cases hf:a1x x w with
   |true=>exact a0I (by simp only[a2H,hx,g,a5w (show w≤32 by omega),hf,oB,cT,cF,bT,Bool.and_false])
   |false=>
    rw[a0J (s':=(((w+1:Nat):Int),x,l,n,i,())) (by simp only[a2H,hx,g,a5w (show w≤32 by omega),hf,oB,cT,a29,a0C (show w<1000000 by omega)])];exact b8m k (w+1) (by omega)
theorem a2j{l:List Int}(c:short l):a1q l=some ((a0G l:Nat):Int):=by
 have c:l.length<1000000:=c
 have:=a1Q (f:=a4Z) l (fun i (w:Nat)=>((w:Int),l,(l.length:Int),(i:Int),())) (fun w x=>(.inl (a1J x (32-w) w):Nat ⊕ (Int×Unit))) (fun _ w=>w≤32) (fun w=>((w:Int),()))
  (fun i h w e=>⟨fun d k=>by
   simp at k;subst k;refine⟨?_,by grind[b6p]⟩;simp only[a4Z,dlt h,cT,a0B h,oB,b8m (32-w) w (by omega),a0C (show i<1000000 by omega)],fun b hb=>(by grind)⟩)
  (fun w _=>by simp[a4Z]) (a:=0) (by omega)
 simp at this;unfold a1q;rw[this];have g:∀(l:List Int)(w:Nat),a2G (fun w x=>(.inl (a1J x (32-w) w):Nat ⊕ (Int×Unit))) l w=.inl (l.foldl (fun w x=>a1J x (32-w) w) w):=by
  intro l
  induction l with
  |nil=>intro w;rfl
  |cons x l ih=>simp_all[a2G]
 rw[g];rfl
theorem a8U(x:Int):a6w x=some (a0A x):=by
 grind[a6w,a0A]
def a0N(x:Int):Nat:=if 0≤x then(2*x).toNat else(-2*x-1).toNat
theorem a8k{x:Int}(h:a0A x=true):a0N x<2147483648:=by
 grind[a1G,a0N]
theorem a8V{x:Int}(h:a0A x=true):a7P x=some ((a0N x:Nat):Int):=by
 have f:=a1G.1 h;unfold a7P a0N;simp only[a8U,h,oB,bT,cF]
 by_cases h0:0≤x
 have g:decide (x≥0)=true:=by simp_all
 simp only[g,cT,if_pos h0]
 grind[a0D,a0P]
 have g:decide (x≥0)=false:=by simp_all
 simp only[g,cF,if_neg h0]
 grind[a0D,a0P]
theorem a5C{N o:Nat}(h:o≤64):z0h .u64 (N:Int) (o:Int)=((N / 2^o:Nat):Int):=b9A h
theorem a8q{N o:Nat}(h:o≤64)(g:N*2^o<9223372036854775808):z0g .u64 (N:Int) (o:Int)=((N*2^o:Nat):Int):=by
 unfold z0g;show wrap .u64 ((N:Int)*2^(min (o:Int).toNat 64))=_
 grind[a0P]
theorem b9H{y k:Nat}(c:y<18446744073709551616)(f:k≤62):bits .u64 .and (y:Int) (wrap .u64 (z0g .u64 1 (k:Int)-1))=((y%2^k:Nat):Int):=by
 have hp:2^k≤2^62:=Nat.pow_le_pow_right (by simp) f;have a:1≤2^k:=Nat.one_le_two_pow;have b:(2:Nat)^62=4611686018427387904:=by rfl
 have h:z0g .u64 1 (k:Int)=((2^k:Nat):Int):=by have:=a8q (N:=1) (o:=k) (by omega) (by omega);simp_all
 have g:wrap .u64 (((2^k:Nat):Int)-1)=((2^k-1:Nat):Int):=by grind[a0P]
 rw[h,g];show wrap .u64 (((a63 64 (y:Int)) &&& (a63 64 ((2^k-1:Nat):Int))).toNat:Int)=_;rw[a51,a51,BitVec.toNat_and,a55,a55,a59 c,a59 (by omega),Nat.and_two_pow_sub_one_eq_mod]
 have:y%2^k<2^k:=Nat.mod_lt _ (by omega)
 exact a0P (by omega)
theorem b1X{q:Nat}(h:q<2147483648):wrap .i64 (q:Int)=(q:Int):=a0D (by omega)
def a5R(k:Nat)(x:Int)(L:List Int):List Int:=
 if a0N x / 2^k<32 then a0M ((a0N x%2^k:Nat):Int) k (unL (a0N x / 2^k) L)else a0M ((a0N x:Nat):Int) 32 (unL 32 L)
def a3D(k:Nat)(l:List Int)(L:List Int):List Int:=l.foldl (fun L x=>a5R k x L) L
theorem b5d{k:Nat}(h:k≤25)(x:Int)(L:List Int):L.length≤(a5R k x L).length∧(a5R k x L).length≤L.length+100:=by
 grind[a5R,a0U,a8T]
theorem b4D{k:Nat}(h:k≤25):∀(l L:List Int),L.length≤(a3D k l L).length∧(a3D k l L).length≤L.length+100*l.length
 | [],L=>by simp[a3D]
 |x::l,L=>by
  have g:=b5d h x L;have f:=b4D h l (a5R k x L);have e:a3D k (x::l) L=a3D k l (a5R k x L):=rfl
  grind
theorem a7J{k:Nat}(h:k≤25):a1P (k:Int)=some true:=by
 unfold a1P
 grind
theorem c1d{k:Nat}{l L:List Int}(y:k≤25)(E:l.length<10000)(t:l.all a0A=true)(D:L.length<900000000):b1e (wL L,(k:Int),l)=some (0,wL (a3D k l L)):=by
 have B:=a1C (f:=a7Z) l (fun i=>((k:Int),l,l,(l.length:Int),(i:Int),wL L,())) (fun _=>true) (bt:=Sum.inl ((k:Int),l,wL L,())) (bf:=Sum.inl ((k:Int),l,wL L,()))
  (fun i h _=>by
   have:=lA.1 t _ (a32 h)
   simp only[a7Z,dlt h,cT,a0B h,oB,a8U,this,bT,cF,a0C (show i<1000000 by omega)])
  (fun i h hp=>by simp_all) (by simp[a7Z])
 have p:∀(j i:Nat)(g:List Int),i+j=l.length→g.length+100*j<999990000→x0r a6f ((k:Int),l,(l.length:Int),(i:Int),wL g,())=some (wL (a3D k (l.drop i) g),()):=by
  intro j
  induction j with
  |zero=>
   intro i g x _;obtain rfl:i=l.length:=by omega
   simp_all[a0I,a6f,a3D]
  |succ j ih=>
   intro i g x hb;have a:i<l.length:=by omega
   have c:=lA.1 t _ (a32 a);have A:=a8k c;have z:=b5d y l[i] g;have e:decide ((k:Int)<0)=false:=by simp
   have q:z0h .u64 ((a0N l[i]:Nat):Int) (k:Int)=((a0N l[i] / 2^k:Nat):Int):=a5C (by omega);have o:=a61 (a0N l[i]) (2^k);have r:=a47 (a0N l[i]) (2^k);have d:z0g .u64 ((a0N l[i] / 2^k:Nat):Int) (k:Int)=((a0N l[i] / 2^k*2^k:Nat):Int):=a8q (by omega) (by grind);have u:wrap .u64 (((a0N l[i]:Nat):Int)-((a0N l[i] / 2^k*2^k:Nat):Int))=((a0N l[i]%2^k:Nat):Int):=by
    rw[Nat.mul_comm (a0N l[i] / 2^k)]
    grind[a0P]
   have w:wrap .i64 ((a0N l[i] / 2^k:Nat):Int)=((a0N l[i] / 2^k:Nat):Int):=b1X (Nat.lt_of_le_of_lt o A);rw[a05 a,a0J (s':=((k:Int),l,(l.length:Int),((i+1:Nat):Int),wL (a5R k l[i] g),())) (by
    by_cases hq:a0N l[i] / 2^k<32
    have m:decide (((a0N l[i] / 2^k:Nat):Int)<32)=true:=decide_eq_true (by omega);have s:(unL (a0N l[i] / 2^k) g).length<999999000:=by
     rw[a8T];omega
    have b:=b9G (L:=g) (n:=a0N l[i] / 2^k) (Nat.le_of_lt (a24 hq (by simp))) (by omega);have hp:=a2V (L:=unL (a0N l[i] / 2^k) g) (v:=((a0N l[i]%2^k:Nat):Int)) (n:=k) (by omega) s;simp only[a6f,dlt a,cT,a0B a,oB,a8V c,e,cF,q,m,w,b,d,u,hp,a5R,if_pos hq,a0C (show i<1000000 by omega)];have m:decide (((a0N l[i] / 2^k:Nat):Int)<32)=false:=decide_eq_false (by omega);have s:=a8T 32 g;have b:a2m (wL g,(32:Int))=some (0,wL (unL 32 g)):=b9G (L:=g) (n:=32) (by omega) (by omega);have hp:a0H (wL (unL 32 g),((a0N l[i]:Nat):Int),(32:Int))=some (a7c ((a0N l[i]:Nat):Int) 32,wL (a0M ((a0N l[i]:Nat):Int) 32 (unL 32 g))):=a2V (L:=unL 32 g) (v:=((a0N l[i]:Nat):Int)) (n:=32) (by omega) (by omega);simp only[a6f,dlt a,cT,a0B a,oB,a8V c,e,cF,q,m,b,hp,a5R,if_neg hq,a0C (show i<1000000 by omega)])]
   exact ih (i+1) _ (by omega) (by omega)
 have C:=p l.length 0 L (by omega) (by omega);simp_all[b1e,a7J]
def a1m(zn:List Nat):List Int:=zn.map fun(a:Nat)=>(a:Int)
theorem b8U(n M:Nat):(a00 n M).sum=n*M:=by
 induction n with
 |zero=>simp
 |succ n ih=>rw[List.replicate_succ,a53,ih,Nat.succ_mul,Nat.add_comm]
theorem b2V{o n warm:Int}(h:(a1I o n warm).length≠0):∃zn:List Nat,a1I o n warm=a1m zn∧(zn.sum:Int)=n-warm∧zn.length≤256:=by
 unfold a1I at h⊢;cases hr:(a5u n warm&&(decide (0≤o)&&decide (o≤8)))with
 |false=>rw[hr]at h;simp at h
 |true=>
  rw[hr]at h;simp only[cT]at h⊢;simp only[a5u,bA,dT]at hr;unfold b3r at h⊢
  split at h
  rename_i g;rw[if_pos g];obtain⟨O,rfl⟩:=a06 hr.2.1;obtain⟨N,rfl⟩:=a06 (show 0≤n by omega);obtain⟨w,rfl⟩:=a06 (show 0≤warm by omega);simp only[tN]at g⊢;have hp:=c6x (o:=O) (by omega);have f:=a47 N (2^O);rw[g.1,a56]at f;have k:w≤N / 2^O:=by have:=g.2;omega
  generalize N / 2^O=M at g k f⊢;generalize 2^O=P at hp f⊢;refine⟨(M-w)::a00 (P-1) M,?_,?_,?_⟩;simp only[a1m,List.map_cons,List.map_replicate];congr 1;omega;rw[a53,b8U];obtain⟨q,rfl⟩:∃q,P=q+1:=⟨P-1,by omega⟩;rw[Nat.add_sub_cancel];rw[Nat.succ_mul]at f;omega
  simp;omega
  exact absurd rfl h
def a8g(k:Int)(part L:List Int):List Int:=
 if k=31 then a1w (a0G part) part (a0M ((a0G part:Nat):Int) 5 (a0M (wrap .u64 k) 5 L))else a3D k.toNat part (a0M (wrap .u64 k) 5 L)
def a3k:List Nat→List Int→List Int→List Int→List Int
 |z::zs,k::ks,l,L=>a3k zs ks (l.drop z) (a8g k (l.take z) L)
 |_,_,_,L=>L
theorem b5e{k:Int}(g:kB k=true)(part L:List Int):L.length≤(a8g k part L).length∧(a8g k part L).length≤L.length+10+100*part.length:=by
 unfold a8g;have b:=a0U (wrap .u64 k) 5 L;split;have c:=a0U ((a0G part:Nat):Int) 5 (a0M (wrap .u64 k) 5 L);have h:=a5v (a0G part) part (a0M ((a0G part:Nat):Int) 5 (a0M (wrap .u64 k) 5 L));have a:=a5B part
 have:a0G part*part.length≤32*part.length:=Nat.mul_le_mul_right _ a
 omega;rename_i f;simp only[kB,a48,bA,dT,beq_iff_eq]at g;have h:=b4D (k:=k.toNat) (by omega) part (a0M (wrap .u64 k) 5 L);omega
theorem a7d{zn:List Nat}{i:Nat}(h:i<zn.length):a04 (a1m zn) i 0=((zn[i]:Nat):Int):=by
 rw[b3N (by simpa[a1m]using h)];simp[a1m]
theorem a1t(h:List Nat):(a1m h).length=h.length:=by simp[a1m]
theorem b3R{zn:List Nat}{i:Nat}(h:i<zn.length):(zn.drop i).sum=zn[i]+(zn.drop (i+1)).sum:=by
 rw[a05 h,a53]
theorem b9I{part rest:List Int}{wd:Nat}{a b:Int}{z:List Int}{p:Prt}(k:wd≤32)(hp:part.length<10000):∀(j i:Nat)(L:List Int),i+j=part.length→L.length+64*j<999990000→
  x0r a7n (rest,(wd:Int),a,b,part,(part.length:Int),(i:Int),z,wL L,p,())=some (rest,a,b,z,wL (a1w wd (part.drop i) L),p,())
 |0,i,L,hi,_=>by
  obtain rfl:i=part.length:=by omega
  rw[a23];exact a0I (by simp[a7n,a1w])
 |j+1,i,L,hi,hb=>by
  have h:i<part.length:=by omega
  have g:decide ((wd:Int)<0)=false:=by simp
  have f:=a0U (a0S part[i] wd) wd L;rw[a05 h,a0J (s':=(rest,(wd:Int),a,b,part,(part.length:Int),((i+1:Nat):Int),z,wL (a0M (a0S part[i] wd) wd L),p,())) (by
   simp only[a7n,dlt h,cT,a0B h,oB,g,cF,show bits .u64 .and (wrap .u64 part[i]) (wrap .u64 ((z0g .u64 1 (wd:Int))-1))=a0S part[i] wd from rfl,a2V (show wd≤63 by omega) (show L.length<999999000 by omega),a0C (show i<1000000 by omega)])]
  exact b9I k hp j (i+1) _ (by omega) (by omega)
theorem b3v{zn:List Nat}{p:Prt}(N:p.2.1.length=zn.length)(c:p.2.1.all kB=true)(R:zn.length≤256):∀(j i:Nat)(l L:List Int),i+j=zn.length→(zn.drop i).sum=l.length→l.all a0A=true→l.length≤5000→L.length+10*j+100*l.length<800000000→
  x0r a3V (l,(zn.length:Int),(i:Int),a1m zn,wL L,p,())=some (wL (a3k (zn.drop i) (p.2.1.drop i) l L),())
 |0,i,l,L,hi,_,_,_,_=>by
  obtain rfl:i=zn.length:=by omega
  rw[a23];exact a0I (by simp[a3V,a3k])
 |j+1,i,l,L,hi,hsum,hw,hl5,hb=>by
  have h:i<zn.length:=by omega
  have f:i<p.2.1.length:=by omega
  have s:=lA.1 c _ (a32 f);rw[b3R h]at hsum;have B:decide ((0:Int)≤(i:Int))=true:=by simp
  have C:decide ((i:Int)<(((a1m zn).length:Nat):Int))=true:=by rw[a1t];simp;omega
  have D:decide ((0:Int)≤((zn[i]:Nat):Int))=true:=by simp
  have E:decide (((zn[i]:Nat):Int)≤((l.length:Nat):Int))=true:=by simp;omega
  have t:(l.take zn[i]).length=zn[i]:=by rw[a58];omega
  have q:(l.drop zn[i]).length=(zn.drop (i+1)).sum:=by rw[a45];omega
  have w:(l.take zn[i]).all a0A=true:=lA.2 fun x A=>lA.1 hw x (List.mem_of_mem_take A);have y:(l.drop zn[i]).all a0A=true:=lA.2 fun x A=>lA.1 hw x (List.mem_of_mem_drop A);have Q:=b5e s (l.take zn[i]) L;have O:=a0U (wrap .u64 p.2.1[i]) 5 L;have d:a0H (wL L,wrap .u64 p.2.1[i],(5:Int))=some (a7c (wrap .u64 p.2.1[i]) 5,wL (a0M (wrap .u64 p.2.1[i]) 5 L)):=a2V (n:=5) (by omega) (by omega);have H:zn.drop i=zn[i]::zn.drop (i+1):=a05 h;have I:p.2.1.drop i=p.2.1[i]::p.2.1.drop (i+1):=a05 f;rw[H,I,a3k];have r:a3V (l,(zn.length:Int),(i:Int),a1m zn,wL L,p,())=some (.inl (l.drop zn[i],(zn.length:Int),((i+1:Nat):Int),a1m zn,wL (a8g p.2.1[i] (l.take zn[i]) L),p,())):=by
   by_cases h31:p.2.1[i]=31
   have m:(p.2.1[i] != 31)=false:=by rw[h31];rfl
   have v:=a5B (l.take zn[i]);have u:=a2j (l:=l.take zn[i]) (by unfold short;omega);have P:=a0U ((a0G (l.take zn[i]):Nat):Int) 5 (a0M (wrap .u64 p.2.1[i]) 5 L);have M:wrap .u64 ((a0G (l.take zn[i]):Nat):Int)=((a0G (l.take zn[i]):Nat):Int):=a0P (by omega);have o:a0H (wL (a0M (wrap .u64 p.2.1[i]) 5 L),((a0G (l.take zn[i]):Nat):Int),(5:Int))=some (a7c ((a0G (l.take zn[i]):Nat):Int) 5,wL (a0M ((a0G (l.take zn[i]):Nat):Int) 5 (a0M (wrap .u64 p.2.1[i]) 5 L))):=a2V (n:=5) (by omega) (by omega);have e:=b9I (part:=l.take zn[i]) (rest:=l.drop zn[i]) (a:=(zn.length:Int)) (b:=(i:Int)) (z:=a1m zn) (p:=p) v (by omega) (l.take zn[i]).length 0 (a0M ((a0G (l.take zn[i]):Nat):Int) 5 (a0M (wrap .u64 p.2.1[i]) 5 L)) (by omega) (by omega);simp only[nZ,a35]at e;simp only[a3V,dlt h,B,C,a7d h,D,E,cT,a07,tN,a0B f,oB,d,m,cF,u,M,o,a39,e,a0C (show i<1000000 by omega),a8g,if_pos h31];have m:(p.2.1[i] != 31)=true:=by simp[h31]
   simp only[kB,a48,bA,dT,beq_iff_eq]at s;obtain⟨K,F⟩:=a06 (show 0≤p.2.1[i]by omega);have g:=c1d (k:=K) (l:=l.take zn[i]) (L:=a0M (wrap .u64 p.2.1[i]) 5 L) (by omega) (by omega) w (by omega);rw[←F]at g;have G:K=p.2.1[i].toNat:=by rw[F,tN]
   simp only[a3V,dlt h,B,C,a7d h,D,E,cT,a07,tN,a0B f,oB,d,m,g,a39,a0C (show i<1000000 by omega),a8g,if_neg h31,G]
  rw[a0J r];exact b3v N c R j (i+1) (l.drop zn[i]) _ (by omega) q.symm y (by rw[a45];omega) (by rw[a45];omega)
end Go.Ab
