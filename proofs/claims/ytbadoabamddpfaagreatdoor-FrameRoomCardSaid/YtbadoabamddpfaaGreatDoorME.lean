/- Part of the proof: It. Conditions: as each statement tells. -/
import Derived.RangeFuncBound
import Derived.RangeFuncCalls
import Derived.RangeFuncBox
import Derived.WalkKit
import Derived.OwnWalkIn
import Derived.TacticsInMore
import Derived.LoopNIn
import Derived.LoopIn
import Derived.Test.YtbadoabamddpfaaGreatDoorProg
import Derived.KernelRfl
import Derived.Test.YtbadoabamddpfaaGreatDoorMD
noncomputable section
set_option linter.unusedSimpArgs false
set_option linter.unusedVariables false
open Array renaming replicate_succ→a17,replicate_zero→a18
open BitVec renaming ofInt_natCast→a44,toNat_ofNat→a49,ofInt→a55
open Bool renaming and_self→a07,true_and→a36,and_eq_true_iff→a43,eq_iff_iff→a53,not_false→a54
open Int renaming toNat→a01,eq_ofNat_of_zero_le→a06,tdiv→a09,tmod→a20
open List renaming replicate→a00,length→a02,append→a03,getD→a04,drop_eq_getElem_cons→a05,take→a08,cons_append→a16,append_toArray→a19,getElem_mem→a21,zipWith→a23,nil_append→a24,set→a25,size_toArray→a26,push_toArray→a27,length_nil→a28,take_length→a29,drop→a32,drop_zero→a33,drop_length→a35,replicate_succ'→a37,set_append_right→a41,append_eq→a42,mem_of_mem_take→a46,mem_of_mem_drop→a47,set_cons_zero→a48
open Nat renaming lt_trans→a22,reduceAdd→a30,reduceSub→a31,le_refl→a38,div_add_mod→a39,div_le_self→a40,mul_le_mul_right→a45,lt_of_le_of_lt→a50,sub_self→a51,mod_eq_of_lt→a52
open Option renaming getD_some→a34
namespace Go.Ab
open Go.Proofs Go.RowKit
attribute [local go_sem] Oper.semAt_some
set_option maxHeartbeats 1000000 in
theorem c5o:z0a Tryz.prog 297 326:=by
 refine⟨⟨_,_,Tryz.func297,rfl,by kernel_rfl⟩,fun A len cap w=>(callsIn_wide (n:=3)).1 ?_⟩
 refine callsIn_of_wp Tryz.func297 rfl trivial ?_
 simp only[Tryz.ntmps297,a26,lC,a28,a30,a31,a17,a18,a27,a19,a24,a16]
 gi_wp2
 go_ret
 exact⟨rfl,_,rfl⟩
@[reducible] def b1v:Ty:=.pair (.int .i64) (.pair (.int .i64) .unit)
set_option maxRecDepth 100000 in
set_option maxHeartbeats 2000000 in
theorem c3L (l Bs b off len cap:Nat) (p q:Nat→Int) (J:Nat→World→Prop) (Jx:World→Prop) (W:World)
  (hJ:∀k W',J k W'→W'.cell? ⟨Bs,0,none⟩=some (.slice (some ⟨b,off,none⟩) len cap))
  (hlen:len<2147483648)
  (hcs:∀k W',k<len→J (k+1) W'→W'.cell? ⟨b,off+k*2,none⟩=some (.int .i64 (p k))∧W'.cell? ⟨b,off+k*2+1,none⟩=some (.int .i64 (q k)))
  (hY:∀n W',n<len→J (n+1) W'→YieldAt (Fr none) 0 Tryz.prog l #[.int .i64 (n:Int),.agg #[.int .i64 (p n),.int .i64 (q n)]] W' fun en W''=>(en=.returned (.bool true)∧J n W'')∨(en=.returned (.bool false)∧Jx W''))
  (h0:J len W):
  CallsIn (Fr none) 0 Tryz.prog 326 #[.func (.yield l) #[] #[],.pointer (some ⟨Bs,0,none⟩)] W fun en W'=>(∃v,en=.returned v)∧(J 0 W'∨Jx W'):=by
 refine callsIn_of_wp Tryz.func326 rfl trivial ?_
 simp only[Tryz.ntmps326,a26,lC,a28,a30,a31,a17,a18,a27,a19,a24,a16]
 have hBs:=hJ _ _ h0
 gi_wp2
 gi_loopw [3] (fun i wr=>∃k:Nat,k≤len∧i=.int .i64 ((k:Int)-1)∧J k wr) (fun i _=>(intOf i+1).toNat)
 case atStart=>exact⟨len,a38 _,rfl,h0⟩
 case round=>
  obtain⟨k,hk,rfl,hJs⟩:=hrel
  cases k with
  |succ n=>
   obtain⟨fn,tmps,assign,body,hy,hR⟩:=hY n wr (by omega) hJs
   have hcx:=hJ _ _ hJs
   obtain⟨hc0,hc1⟩:=hcs n wr (by omega) hJs
   gi_wp2
   refine hR.mono ?_
   rintro e W3 (⟨rfl,hJ3⟩|⟨rfl,hJx3⟩)
   ·gi_wp2
    go_roundw
    case rel=>exact⟨n,by omega,by simp,hJ3⟩
    case measure=>simp[intOf]
   ·gi_wp2
    refine bodyPost_ret (results_none rfl _ _ _) rfl ?_
    exact⟨⟨_,rfl⟩,.inr hJx3⟩
  |zero=>
   gi_wp2
   go_end0
   exact⟨⟨_,rfl⟩,.inl hJs⟩
set_option maxRecDepth 100000 in
set_option maxHeartbeats 2000000 in
theorem c2R (l Bs:Nat) (A:Option Addr) (c:Nat) (J:Nat→World→Prop) (W:World) (hBs:W.cell? ⟨Bs,0,none⟩=some (.slice A 0 c)) (h0:J 0 W):
  CallsIn (Fr none) 0 Tryz.prog 326 #[.func (.yield l) #[] #[],.pointer (some ⟨Bs,0,none⟩)] W fun en W'=>(∃v,en=.returned v)∧J 0 W':=by
 refine callsIn_of_wp Tryz.func326 rfl trivial ?_
 simp only[Tryz.ntmps326,a26,lC,a28,a30,a31,a17,a18,a27,a19,a24,a16]
 gi_wp2
 gi_loopw [3] (fun i wr=>i=.int .i64 (-1)∧J 0 wr) (fun _ _=>0)
 case atStart=>exact⟨rfl,h0⟩
 case round=>
  obtain⟨rfl,hJs⟩:=hrel
  gi_wp2
  go_end0
  exact⟨⟨_,rfl⟩,hJs⟩
theorem b8e{m:Mem}{Sh:Nat→Prop}{b o:Nat}{x:b1v.den}{R}(h:dec m b1v ((Src.at b o).rd m)=some (x,[],R)):
  m b o=some (.int .i64 x.1)∧m b (o+1)=some (.int .i64 x.2.1)∧VOk m Sh b1v x (.agg #[.int .i64 x.1,.int .i64 x.2.1]):=by
 obtain⟨p,q,u⟩:=x;simp only[b1v,dec,Src.rd,Ty.cells,Nat.add_zero]at h
 split at h
 cases h;rename_i r o1 j g
 split at g
 rename_i n c
 split at g
 rename_i e;subst e;simp only[sj]at g;obtain⟨rfl,rfl,rfl⟩:=g
 split at h
 cases h;rename_i s o2 r2 k
 split at k
 cases k;rename_i t i l f
 split at f
 rename_i d a
 split at f
 rename_i e;subst e;simp only[sj]at f k h;obtain⟨rfl,rfl,rfl⟩:=f;obtain⟨rfl,rfl,rfl⟩:=k;obtain⟨⟨rfl,rfl,rfl⟩,-,-⟩:=h;exact⟨c,a,fun _=>⟨_,rfl,rfl⟩,fun h=>(by cases h),[],rfl,by simp⟩;cases f;cases f;cases g;cases g
theorem b4m {P:Program} {f:FuncId} (hb:i0o P f) (args:Array Value) (w:World):(callFunc f args).run P w=.ok (.enter f args) w:=by
 obtain ⟨fn,c',h1,h2,h3⟩:=hb;have h4 : ¬ fn.name = "runtime.NumGoroutine" := by simpa using h3
 simp [callFunc,program,Sem.run,h1,h2,h4,Result.andThen]
theorem c5p:v0q Tryz.prog 326 b1v:=by
 refine⟨fun args w=>b4m ⟨_,_,Tryz.func326,rfl,by kernel_rfl⟩ args w,fun l Bs sv f J D W i t L o=>?_⟩;obtain⟨z,Sh,y⟩:=t _ _ o;obtain⟨A,n,c,rfl,rfl,N,v,j⟩:=y.header
 by_cases hx0:f.length=0
 rw[hx0]at o z;exact(c2R l Bs A c J W z o).mono fun e g h=>⟨h.1,.inl h.2⟩;cases A with
 |none=>have:=j rfl;omega
 |some A=>
  obtain⟨b,off,B⟩:=A
  have:=(v _ rfl).resolve_left (by omega)
  simp only at this;subst this;have u:∀k g,k<f.length→J (k+1) g→∃x,f[k]?=some x∧g.cell? ⟨b,off+k*2,none⟩=some (.int .i64 x.1)∧g.cell? ⟨b,off+k*2+1,none⟩=some (.int .i64 x.2.1):=by
   intro k g p d;obtain⟨-,a,hv⟩:=t _ _ d;obtain⟨C,O,E,R,e,F,G,H,s,I,K⟩:=hv.elem rfl (lG p);simp only[Value.slice.injEq,sj]at e;obtain⟨rfl,rfl,rfl⟩:=e;obtain⟨q,r,-⟩:=b8e (Sh:=a) s;exact⟨_,lG p,q,r⟩
  refine c3L l Bs b off f.length c (fun k=>((f[k]?).getD b1v.dflt).1) (fun k=>((f[k]?).getD b1v.dflt).2.1) J D W (fun k g d=>(t k g d).1) i (fun k g p d=>?_) (fun n g M d=>?_) o;obtain⟨x,m,q,r⟩:=u k g p d;simp only[m,a34];exact⟨q,r⟩;have m:f[n]?=some f[n]:=lG M;simp only[m,a34];refine L n _ _ g m d fun a hv=>?_
  obtain⟨C,O,E,R,e,F,G,H,s,I,K⟩:=hv.elem rfl m;exact(b8e (Sh:=a) s).2.2
set_option maxHeartbeats 1000000 in
theorem c5q:z0a Tryz.prog 186 242:=by
 refine⟨⟨_,_,Tryz.func186,rfl,by kernel_rfl⟩,fun A len cap w=>(callsIn_wide (n:=3)).1 ?_⟩
 refine callsIn_of_wp Tryz.func186 rfl trivial ?_
 simp only[Tryz.ntmps186,a26,lC,a28,a30,a31,a17,a18,a27,a19,a24,a16]
 gi_wp2
 go_ret
 exact⟨rfl,_,rfl⟩
@[reducible] def b3G:Ty:=.pair (.int .i64) (.pair (.int .i64) (.pair (.int .i64) .unit))
set_option maxRecDepth 100000 in
set_option maxHeartbeats 2000000 in
theorem c3M (l Bs b off len cap:Nat) (p q r:Nat→Int) (J:Nat→World→Prop) (Jx:World→Prop) (W:World)
  (hJ:∀k W',J k W'→W'.cell? ⟨Bs,0,none⟩=some (.slice (some ⟨b,off,none⟩) len cap))
  (hlen:len<2147483648)
  (hcs:∀k W',k<len→J (k+1) W'→W'.cell? ⟨b,off+k*3,none⟩=some (.int .i64 (p k))∧W'.cell? ⟨b,off+k*3+1,none⟩=some (.int .i64 (q k))∧W'.cell? ⟨b,off+k*3+2,none⟩=some (.int .i64 (r k)))
  (hY:∀n W',n<len→J (n+1) W'→YieldAt (Fr none) 0 Tryz.prog l #[.int .i64 (n:Int),.agg #[.int .i64 (p n),.int .i64 (q n),.int .i64 (r n)]] W' fun en W''=>(en=.returned (.bool true)∧J n W'')∨(en=.returned (.bool false)∧Jx W''))
  (h0:J len W):
  CallsIn (Fr none) 0 Tryz.prog 242 #[.func (.yield l) #[] #[],.pointer (some ⟨Bs,0,none⟩)] W fun en W'=>(∃v,en=.returned v)∧(J 0 W'∨Jx W'):=by
 refine callsIn_of_wp Tryz.func242 rfl trivial ?_
 simp only[Tryz.ntmps242,a26,lC,a28,a30,a31,a17,a18,a27,a19,a24,a16]
 have hBs:=hJ _ _ h0
 gi_wp2
 gi_loopw [3] (fun i wr=>∃k:Nat,k≤len∧i=.int .i64 ((k:Int)-1)∧J k wr) (fun i _=>(intOf i+1).toNat)
 case atStart=>exact⟨len,a38 _,rfl,h0⟩
 case round=>
  obtain⟨k,hk,rfl,hJs⟩:=hrel
  cases k with
  |succ n=>
   obtain⟨fn,tmps,assign,body,hy,hR⟩:=hY n wr (by omega) hJs
   have hcx:=hJ _ _ hJs
   obtain⟨hc0,hc1,hc2⟩:=hcs n wr (by omega) hJs
   gi_wp2
   refine hR.mono ?_
   rintro e W3 (⟨rfl,hJ3⟩|⟨rfl,hJx3⟩)
   ·gi_wp2
    go_roundw
    case rel=>exact⟨n,by omega,by simp,hJ3⟩
    case measure=>simp[intOf]
   ·gi_wp2
    refine bodyPost_ret (results_none rfl _ _ _) rfl ?_
    exact⟨⟨_,rfl⟩,.inr hJx3⟩
  |zero=>
   gi_wp2
   go_end0
   exact⟨⟨_,rfl⟩,.inl hJs⟩
set_option maxRecDepth 100000 in
set_option maxHeartbeats 2000000 in
theorem c2S (l Bs:Nat) (A:Option Addr) (c:Nat) (J:Nat→World→Prop) (W:World) (hBs:W.cell? ⟨Bs,0,none⟩=some (.slice A 0 c)) (h0:J 0 W):
  CallsIn (Fr none) 0 Tryz.prog 242 #[.func (.yield l) #[] #[],.pointer (some ⟨Bs,0,none⟩)] W fun en W'=>(∃v,en=.returned v)∧J 0 W':=by
 refine callsIn_of_wp Tryz.func242 rfl trivial ?_
 simp only[Tryz.ntmps242,a26,lC,a28,a30,a31,a17,a18,a27,a19,a24,a16]
 gi_wp2
 gi_loopw [3] (fun i wr=>i=.int .i64 (-1)∧J 0 wr) (fun _ _=>0)
 case atStart=>exact⟨rfl,h0⟩
 case round=>
  obtain⟨rfl,hJs⟩:=hrel
  gi_wp2
  go_end0
  exact⟨⟨_,rfl⟩,hJs⟩
theorem b7F{m:Mem}{rd:Nat→Option Value}{x o r}(h:dec m (.int .i64) rd=some (x,o,r)):rd 0=some (.int .i64 x)∧o=[]∧r=[]:=by
 simp only[dec]at h
 split at h
 rename_i k n g
 split at h
 rename_i e;subst e;simp only[sj,pJ]at h;obtain⟨rfl,rfl,rfl⟩:=h;exact⟨g,rfl,rfl⟩;cases h;cases h
theorem b6e{m:Mem}{a b:Ty}{rd:Nat→Option Value}{x o r}(h:dec m (.pair a b) rd=some (x,o,r)):∃o1 g o2 r2,dec m a rd=some (x.1,o1,g)∧dec m b (fun j=>rd (a.cells+j))=some (x.2,o2,r2)∧o=o1++o2∧r=g++r2:=by
 simp only[dec]at h
 split at h
 cases h;rename_i c o1 g f
 split at h
 cases h;rename_i d o2 r2 k;simp only[sj,pJ]at h;obtain⟨rfl,rfl,rfl⟩:=h;exact⟨_,_,_,_,f,k,rfl,rfl⟩
theorem b9k{m:Mem}{Sh:Nat→Prop}{b o:Nat}{x:b3G.den}{R}(h:dec m b3G ((Src.at b o).rd m)=some (x,[],R)):
  m b o=some (.int .i64 x.1)∧m b (o+1)=some (.int .i64 x.2.1)∧m b (o+2)=some (.int .i64 x.2.2.1)∧VOk m Sh b3G x (.agg #[.int .i64 x.1,.int .i64 x.2.1,.int .i64 x.2.2.1]):=by
 obtain⟨_,_,_,_,g,f,-,-⟩:=b6e h;obtain⟨_,_,_,_,k,a,-,-⟩:=b6e f;obtain⟨_,_,_,_,c,-,-,-⟩:=b6e a;exact⟨(b7F g).1,(b7F k).1,(b7F c).1,fun _=>⟨_,rfl,rfl⟩,fun h=>(by cases h),[],rfl,by simp⟩
theorem c5r:v0q Tryz.prog 242 b3G:=by
 refine⟨fun args w=>b4m ⟨_,_,Tryz.func242,rfl,by kernel_rfl⟩ args w,fun l Bs sv f J E W i u M o=>?_⟩;obtain⟨B,Sh,z⟩:=u _ _ o;obtain⟨A,n,c,rfl,rfl,O,y,j⟩:=z.header
 by_cases hx0:f.length=0
 rw[hx0]at o B;exact(c2S l Bs A c J W B o).mono fun e g h=>⟨h.1,.inl h.2⟩;cases A with
 |none=>have:=j rfl;omega
 |some A=>
  obtain⟨b,off,C⟩:=A
  have:=(y _ rfl).resolve_left (by omega)
  simp only at this;subst this;have v:∀k g,k<f.length→J (k+1) g→∃x,f[k]?=some x∧g.cell? ⟨b,off+k*3,none⟩=some (.int .i64 x.1)∧g.cell? ⟨b,off+k*3+1,none⟩=some (.int .i64 x.2.1)∧g.cell? ⟨b,off+k*3+2,none⟩=some (.int .i64 x.2.2.1):=by
   intro k g p d;obtain⟨-,a,hv⟩:=u _ _ d;obtain⟨D,P,F,R,e,G,H,I,t,K,L⟩:=hv.elem rfl (lG p);simp only[Value.slice.injEq,sj]at e;obtain⟨rfl,rfl,rfl⟩:=e;obtain⟨q,r,s,-⟩:=b9k (Sh:=a) t;exact⟨_,lG p,q,r,s⟩
  refine c3M l Bs b off f.length c (fun k=>((f[k]?).getD b3G.dflt).1) (fun k=>((f[k]?).getD b3G.dflt).2.1) (fun k=>((f[k]?).getD b3G.dflt).2.2.1) J E W (fun k g d=>(u k g d).1) i (fun k g p d=>?_) (fun n g N d=>?_) o;obtain⟨x,m,q,r,s⟩:=v k g p d;simp only[m,a34];exact⟨q,r,s⟩;have m:f[n]?=some f[n]:=lG N;simp only[m,a34];refine M n _ _ g m d fun a hv=>?_
  obtain⟨D,P,F,R,e,G,H,I,t,K,L⟩:=hv.elem rfl m;exact(b9k (Sh:=a) t).2.2.2
end Go.Ab
namespace Go.Ab
open IntKind(wrap)
open Go.Proofs
set_option maxRecDepth 100000
set_option linter.unusedVariables false
@[reducible] def QI:Ty:=.int .i64
@[reducible] def QL:Ty:=.list false QI
@[reducible] def Z0:Type:=(Unit ⊕ (Bool×Unit))
@[reducible] def Z1:Type:=((List (List Int))×Unit)
@[reducible] def Z2:Type:=((List Int)×(Int×Int))
@[reducible] def Z3:Type:=(Int×(Int×(List Int)))
@[reducible] def Z4:Type:=(Int×((List Int)×Unit))
@[reducible] def Z5:Type:=((List Int)×(Int×Unit))
@[reducible] def Z6:Type:=(List (Int×(Int×Unit)))
@[reducible] def Z7:Type:=(Int×(Int×(Int×Unit)))
@[reducible] def Z8:Type:=(Int×(Int×(Bool×Unit)))
@[reducible] def Z9:Type:=((List Int)×((List Int)×Int))
@[reducible] def Z10:Type:=(Int×Z1)
@[reducible] def Z11:Type:=((List (List Int))×(Int×Unit))
@[reducible] def Z12:Type:=((List Int)×((List Int)×Unit))
@[reducible] def Z13:Type:=((List Int)×(Int×(Int×Unit)))
@[reducible] def Z14:Type:=(List Z7)
@[reducible] def Z15:Type:=(Int×Z4)
@[reducible] def Z16:Type:=(Int×Z5)
@[reducible] def Z17:Type:=((List Int)×(Int×(Bool×Unit)))
@[reducible] def Z18:Type:=(Int×Z7)
@[reducible] def Z19:Type:=(Z4×Unit)
@[reducible] def Z20:Type:=(Z5×Unit)
@[reducible] def Z21:Type:=(Int×Z8)
@[reducible] def Z22:Type:=((List (List Int))×(Int×(Int×Unit)))
@[reducible] def Z23:Type:=(Int×Z10)
@[reducible] def Z24:Type:=(Int×Z12)
@[reducible] def Z25:Type:=((List Int)×Z4)
@[reducible] def Z26:Type:=(Z10×Unit)
@[reducible] def Z27:Type:=(Int×Z13)
@[reducible] def Z28:Type:=(Int×Z15)
@[reducible] def Z29:Type:=((List Int)×Z7)
@[reducible] def Z30:Type:=(Z13×Int)
@[reducible] def Z31:Type:=((List Int)×Z8)
@[reducible] def Z32:Type:=(Int×Z18)
@[reducible] def Z33:Type:=(Int×Z20)
@[reducible] def Z34:Type:=(Z13×Unit)
@[reducible] def Z35:Type:=((List Int)×Z12)
@[reducible] def Z36:Type:=(Int×Z22)
@[reducible] def Z37:Type:=((List Int)×Z15)
@[reducible] def Z38:Type:=((List Int)×Z13)
@[reducible] def Z39:Type:=(Int×Z24)
@[reducible] def Z40:Type:=(Int×Z26)
@[reducible] def Z41:Type:=(Int×Z27)
@[reducible] def Z42:Type:=(((List Int)×Unit) ⊕ Z4)
@[reducible] def Z43:Type:=(Z4×((List Int)×Unit))
@[reducible] def Z44:Type:=((List Int)×Z17)
@[reducible] def Z45:Type:=(Z24×Unit)
@[reducible] def Z46:Type:=(Int×Z29)
@[reducible] def Z47:Type:=(Bool×Z26)
@[reducible] def Z48:Type:=(Int×Z33)
@[reducible] def Z49:Type:=(Int×Z34)
@[reducible] def Z50:Type:=(Bool×Z34)
@[reducible] def Z51:Type:=(Int×Z35)
@[reducible] def Z52:Type:=(Int×Z37)
@[reducible] def Z53:Type:=((List Int)×Z27)
@[reducible] def Z54:Type:=(Int×Z40)
@[reducible] def Z55:Type:=(Int×Z45)
@[reducible] def Z56:Type:=((List Int)×Z34)
@[reducible] def Z57:Type:=(Z27 ⊕ (Int×Unit))
@[reducible] def Z58:Type:=(Int×Z49)
@[reducible] def Z59:Type:=(Int×Z50)
@[reducible] def Z60:Type:=(Z13 ⊕ Z0)
@[reducible] def Z61:Type:=(Int×Z51)
@[reducible] def Z62:Type:=((List Int)×Z39)
@[reducible] def Z63:Type:=((List Int)×Z41)
@[reducible] def Z64:Type:=(Int×Z52)
@[reducible] def Z65:Type:=((List Int)×Z43)
@[reducible] def Z66:Type:=((List Int)×Z45)
@[reducible] def Z67:Type:=(Int×Z55)
@[reducible] def Z68:Type:=((List Int)×Z48)
@[reducible] def Z69:Type:=(Int×Z56)
@[reducible] def Z70:Type:=(Z4×Z19)
@[reducible] def Z71:Type:=(Z5×Z19)
@[reducible] def Z72:Type:=(Int×Z58)
@[reducible] def Z73:Type:=(Int×Z62)
@[reducible] def Z74:Type:=(Int×Z66)
@[reducible] def Z75:Type:=(Int×Z67)
@[reducible] def Z76:Type:=(Int×Z68)
@[reducible] def Z77:Type:=(Int×Z69)
@[reducible] def Z78:Type:=(Z14×Z26)
@[reducible] def Z79:Type:=((List Int)×Z71)
@[reducible] def Z80:Type:=(Int×Z77)
@[reducible] def Z81:Type:=(Int×Z79)
@[reducible] def Z82:Type:=(Z6×Z65)
@[reducible] def Z83:Type:=(Int×Z81)
@[reducible] def Z84:Type:=(Z4×Z70)
@[reducible] def Z85:Type:=((List Int)×Z82)
@[reducible] def Z86:Type:=((List Int)×Z83)
@[reducible] def Z87:Type:=((List Int)×Z85)
@[reducible] def Z88:Type:=(Int×Z87)
@[reducible] def Z89:Type:=(Int×Z88)
@[reducible] def Z90:Type:=(Int×Z89)
@[reducible] def Z91:Type:=(Int×Z90)
@[reducible] def Z92:Type:=(Int×Z91)
@[reducible] def Z93:Type:=(List Z92)
@[reducible] def Z94:Type:=(Z92×Int)
@[reducible] def Z95:Type:=(Z92×Unit)
@[reducible] def Z96:Type:=(Z93×Unit)
@[reducible] def Z97:Type:=(Bool×Z95)
@[reducible] def Z98:Type:=(Int×Z97)
@[reducible] def Z99:Type:=(Z93×((List Int)×Unit))
@[reducible] def c8k:Type:=(Z5×Z95)
@[reducible] def c1J:Type:=(Int×c8k)
@[reducible] def c5S:Type:=(Z13×Z95)
@[reducible] def c1K:Type:=(Z92×Z34)
@[reducible] def c8l:Type:=(Z14×Z96)
@[reducible] def b2G:Type:=(Int×c1J)
@[reducible] def c3N:Type:=(Int×c5S)
@[reducible] def b7G:Type:=(Int×c3N)
@[reducible] def c8m:Type:=(Z7×c8l)
@[reducible] def c8n:Type:=(Int×c8m)
@[reducible] def a4L:Type:=(Int×c8n)
@[reducible] def b2H:Type:=(a4L×Unit)
@[reducible] def c1L:Type:=(Z10×b2H)
@[reducible] def b7H:Type:=(a4L×Z34)
@[reducible] def b0I:Type:=(Z92×Z95)
@[reducible] def c8o:Type:=(Int×b0I)
@[reducible] def c1M:Type:=(Int×c8o)
@[reducible] def Q0:Ty:=(.pair QI .unit)
@[reducible] def Q1:Ty:=(.pair (.list true QI) .unit)
@[reducible] def Q2:Ty:=(.pair QL .unit)
@[reducible] def Q3:Ty:=(.pair QI Q0)
@[reducible] def Q4:Ty:=(.pair (.list false QL) .unit)
@[reducible] def Q5:Ty:=(.pair (.list true (.int .u8)) Q0)
@[reducible] def Q6:Ty:=(.pair QI Q1)
@[reducible] def Q7:Ty:=(.pair QI Q2)
@[reducible] def Q8:Ty:=(.pair QI Q3)
@[reducible] def Q9:Ty:=(.pair (.list true QI) Q1)
@[reducible] def Q10:Ty:=(.pair QI Q4)
@[reducible] def Q11:Ty:=(.pair (.list false (.int .u8)) Q3)
@[reducible] def Q12:Ty:=(.pair QI Q9)
@[reducible] def Q13:Ty:=(.pair Q7 Q2)
@[reducible] def Q14:Ty:=(.pair (.nl QI) Q13)
@[reducible] def Q15:Ty:=(.pair QL Q13)
@[reducible] def Q16:Ty:=(.pair (.list true Q3) Q14)
@[reducible] def Q17:Ty:=(.pair (.list false Q3) Q15)
@[reducible] def Q18:Ty:=(.pair (.arr 3 QI) Q16)
@[reducible] def Q19:Ty:=(.pair (.arr 3 QI) Q17)
@[reducible] def Q20:Ty:=(.pair (.list true QI) Q18)
@[reducible] def Q21:Ty:=(.pair QL Q19)
@[reducible] def Q22:Ty:=(.pair QI Q20)
@[reducible] def Q23:Ty:=(.pair QI Q21)
@[reducible] def Q24:Ty:=(.pair QI Q22)
@[reducible] def Q25:Ty:=(.pair QI Q23)
@[reducible] def Q26:Ty:=(.pair QI Q24)
@[reducible] def Q27:Ty:=(.pair QI Q25)
@[reducible] def Q28:Ty:=(.pair QI Q26)
@[reducible] def Q29:Ty:=(.pair QI Q27)
@[reducible] def Q30:Ty:=(.pair QI Q28)
@[reducible] def Q31:Ty:=(.pair QI Q29)
@[reducible] def Q32:Ty:=(.pair (.nl Q31) .unit)
@[reducible] def Q33:Ty:=(.pair (.list true Q31) .unit)
@[reducible] def Q34:Ty:=(.pair (.list false Q31) .unit)
@[reducible] def Q35:Ty:=(.pair (.nl Q8) Q32)
@[reducible] def Q36:Ty:=(.pair (.list true Q8) Q32)
@[reducible] def Q37:Ty:=(.pair (.list false Q8) Q33)
@[reducible] def Q38:Ty:=(.pair (.list false Q8) Q34)
@[reducible] def Q39:Ty:=(.pair Q8 Q35)
@[reducible] def Q40:Ty:=(.pair Q8 Q36)
@[reducible] def Q41:Ty:=(.pair Q8 Q37)
@[reducible] def Q42:Ty:=(.pair Q8 Q38)
@[reducible] def Q43:Ty:=(.pair QI Q39)
@[reducible] def Q44:Ty:=(.pair QI Q40)
@[reducible] def Q45:Ty:=(.pair QI Q41)
@[reducible] def Q46:Ty:=(.pair QI Q42)
@[reducible] def Q47:Ty:=(.pair QI Q44)
@[reducible] def Q48:Ty:=(.pair QI Q45)
@[reducible] def Q49:Ty:=(.pair QI Q46)
def b9e:List (Nat×Ty):=[(2,.int .i64),(3,.int .i64),(5,.int .u8),(22,.list false QL),(24,.pair QI Q4),(25,.int .u16),(30,.pair QI Q3),(31,.list false Q8),(32,.list false Q31),(34,.pair QI Q46),(35,.int .i64),(38,.list false (.int .u8)),(42,.int .u64),(49,.int .u64),(55,.list false QI),(103,.arr 3 QI),(104,.list false Q3),(106,.pair QI Q2),(108,.pair QI Q29),(113,.pair (.list false (.int .u8)) Q0),(141,.list false (.int .u64)),(164,.pair QI Q3),(178,.pair QI Q0),(192,.pair (.list false (.int .u8)) Q3),(236,.pair (.list false (.int .u8)) Q3),(256,.arr 64 (.int .u8)),(285,.list false (.arr 3 QI)),(295,.pair QI (.pair QL Q2))]
def T0:Nat→Option Ty:=fun t=>find b9e t
def c1N:List Nat:=[30,103,164,178]
def c8p:Nat→Bool:=fun t=>c1N.contains t
def b9l:List Nat:=[]
def c8q:Nat→Bool:=fun t=>b9l.contains t
def a9r:(List Int):=[0,1,56,2,57,49,28,3,61,58,42,50,38,29,17,4,62,47,59,36,45,43,51,22,53,39,33,30,24,18,12,5,63,55,48,27,60,41,37,16,46,35,44,21,52,32,23,11,54,26,40,15,34,20,31,10,25,14,19,9,13,8,7,6]
def G0:Nat→Option ((t:Ty)×t.den):=fun g=>find ([(0,⟨.arr 64 (.int .u8),a9r⟩)]:List (Nat×((t:Ty)×t.den))) g
@[reducible] def a7t(a:List (Nat×FSem))(b:List (Nat×Ty))(c d:List Nat):Cx:=⟨c8q,c8p,T0,fun f=>find a f,fun n=>find b n,fun i=>c.contains i,fun i=>d.contains i,G0⟩
def a3B(x:Z10):Option Int:= cond ((x.2.1.length:Int)==0) (some 0) ((l0z x.2.1 0).bind fun x1=> some (x1.length:Int))
def a9s:FSem:=⟨[.v Q10],[.v QI],a3B⟩
def H22:Hints:=⟨[],[],[]⟩
def b1w(x:Int):Option Int:= (show Option (Int×Bool×Unit)from cond (decide (x<1)) (some (x,true,())) (some (x,decide (x > 31),()))).bind fun z1=> cond z1.2.1 (some 0) (cond (decide ((wrap .i64 (z1.1-1))<0)) none (some (z0g .i64 (-1) (wrap .i64 (z1.1-1)))))
def b4G:FSem:=⟨[.v QI],[.v QI],b1w⟩
def c8r:Hints:=⟨[],[(6,[(.normal,[.sv 0 QI,.sv 8 .bool])])],[]⟩
def b0J(x:Int):Option Int:= (show Option (Int×Bool×Unit)from cond (decide (x<1)) (some (x,true,())) (some (x,decide (x > 31),()))).bind fun z1=> cond z1.2.1 (some 0) (cond (decide ((wrap .i64 (z1.1-1))<0)) none (some (wrap .i64 ((z0g .i64 1 (wrap .i64 (z1.1-1)))-1))))
def b4n:FSem:=⟨[.v QI],[.v QI],b0J⟩
def c8s:Hints:=⟨[],[(6,[(.normal,[.sv 0 QI,.sv 8 .bool])])],[]⟩
def a3i(x:(Int×Int)):Option Bool:= cond (decide (x.2≥1)) (cond (decide (x.2≤31)) ((b1w x.2).bind fun y1=> cond (decide (y1≤x.1)) ((b0J x.2).bind fun y2=> some (decide (x.1≤y2))) (some false)) (some false)) (some false)
def a7N:FSem:=⟨[.v QI,.v QI],[.v .bool],a3i⟩
def H95:Hints:=⟨[],[],[]⟩
def a5P(x:Int):Option Bool:= cond (decide (4≤x)) (some (decide (x≤24))) (some false)
def b0K:FSem:=⟨[.v QI],[.v .bool],a5P⟩
def c8t:Hints:=⟨[],[],[]⟩
def a3F(s:((List (List Int))×(Int×(Int×((List Int)×Z54))))):Option (((List (List Int))×(Int×(Int×((List Int)×Z54)))) ⊕ (((List (List Int))×Z54) ⊕ (Bool×Unit))):= cond (decide (s.2.2.2.2.2.1<s.2.2.2.2.1)) ((l0z s.2.2.2.1 s.2.2.2.2.2.1).bind fun x8=> (a3i (x8,s.2.2.2.2.2.2.1.1)).bind fun y9=> cond (!y9) (some (.inr (Sum.inr ((false,()))))) (some (.inl (s.1,s.2.1,s.2.2.1,s.2.2.2.1,s.2.2.2.2.1,wrap .i64 (s.2.2.2.2.2.1+1),s.2.2.2.2.2.2.1,())))) (some (.inr (Sum.inl (s.1,s.2.1,s.2.2.1,s.2.2.2.2.2.2.1,()))))
def a3G(s:((List (List Int))×Z54)):Option (((List (List Int))×Z54) ⊕ Z0):= cond (decide (s.2.2.1<s.2.1)) ((l0z s.1 s.2.2.1).bind fun x6=> (a3B s.2.2.2.1).bind fun y7=> cond ((x6.length:Int) != y7) (some (.inr (Sum.inr ((false,()))))) ((x0r a3F (s.1,s.2.1,s.2.2.1,x6,(x6.length:Int),0,s.2.2.2.1,())).bind fun w10=> match w10 with |.inl a11=>some (.inl (a11.1,a11.2.1,wrap .i64 (a11.2.2.1+1),a11.2.2.2.1,())) |.inr b12=>some (.inr (Sum.inr ((b12.1,())))))) (some (.inr (Sum.inl ())))
def a6m(x:Z10):Option Bool:= (show Option Z47 from(a5P x.1).bind fun y1=> cond (!y1) (some (true,x,())) (cond (decide ((x.2.1.length:Int)<1)) (some (true,x,())) (some (decide ((x.2.1.length:Int) > 8),x,())))).bind fun z2=> cond z2.1 (some false) ((show Option Z47 from(a3B z2.2.1).bind fun y3=> cond (decide (y3<1)) (some (true,z2.2.1,())) ((a3B z2.2.1).bind fun y4=> some (decide (y4 > 4096),z2.2.1,()))).bind fun z5=> cond z5.1 (some false) ((x0r a3G (z5.2.1.2.1,(z5.2.1.2.1.length:Int),0,z5.2.1,())).bind fun w13=> match w13 with |.inl a14=>some true |.inr b15=>some b15.1))
def a9t:FSem:=⟨[.v Q10],[.v .bool],a6m⟩
def H56:Hints:=⟨[(122,[.sv 32 (.list false QL),.sv 33 QI,.sv 34 QI,.vp 1 Q10],[(.exit 0,[]),(.ret,[.sv 2 .bool])]),(62670,[.sv 32 (.list false QL),.sv 33 QI,.sv 34 QI,.sv 43 QL,.sv 44 QI,.sv 45 QI,.vp 1 Q10],[(.exit 2,[.sv 32 (.list false QL),.sv 33 QI,.sv 34 QI,.vp 1 Q10]),(.ret,[.sv 2 .bool])])],[(6,[(.normal,[.sv 22 .bool,.vp 1 Q10])]),(14,[(.normal,[.sv 30 .bool,.vp 1 Q10])])],[]⟩
def a5Q(x:Z7):Option Bool:= cond (decide (1≤x.1)) (cond (decide (x.1≤1048576)) (cond (decide (1≤x.2.1)) (cond (decide (x.2.1≤8)) ((a5P x.2.2.1).bind fun y1=> some y1) (some false)) (some false)) (some false)) (some false)
def b0L:FSem:=⟨[.v Q8],[.v .bool],a5Q⟩
def H57:Hints:=⟨[],[],[]⟩
def a7B(x:Int):Option Bool:= cond (decide ((-1073741824)≤x)) (some (decide (x<1073741824))) (some false)
def b2I:FSem:=⟨[.v QI],[.v .bool],a7B⟩
def c8u:Hints:=⟨[],[],[]⟩
def a3H(s:((List (List Int))×((List (List Int))×Z41))):Option (((List (List Int))×((List (List Int))×Z41)) ⊕ (((List (List Int))×Z22) ⊕ (Bool×Unit))):= cond (decide (s.2.2.2.2.2.2.1<s.2.2.2.2.2.1)) ((l0z s.2.2.2.2.1 s.2.2.2.2.2.2.1).bind fun x5=> (a7B x5).bind fun y6=> cond (!y6) (some (.inr (Sum.inr ((false,()))))) (some (.inl (s.1,s.2.1,s.2.2.1,s.2.2.2.1,s.2.2.2.2.1,s.2.2.2.2.2.1,wrap .i64 (s.2.2.2.2.2.2.1+1),())))) (some (.inr (Sum.inl (s.1,s.2.1,s.2.2.1,s.2.2.2.1,()))))
def a3I(s:((List (List Int))×Z22)):Option (((List (List Int))×Z22) ⊕ Z0):= cond (decide (s.2.2.2.1<s.2.2.1)) ((l0z s.2.1 s.2.2.2.1).bind fun x3=> (l0z s.1 0).bind fun x4=> cond ((x3.length:Int) != (x4.length:Int)) (some (.inr (Sum.inr ((false,()))))) ((x0r a3H (s.1,s.2.1,s.2.2.1,s.2.2.2.1,x3,(x3.length:Int),0,())).bind fun w7=> match w7 with |.inl a8=>some (.inl (a8.1,a8.2.1,a8.2.2.1,wrap .i64 (a8.2.2.2.1+1),())) |.inr b9=>some (.inr (Sum.inr ((b9.1,())))))) (some (.inr (Sum.inl ())))
def a6n(x:(List (List Int))):Option Bool:= (show Option ((List (List Int))×(Bool×Unit))from cond (decide ((x.length:Int)<1)) (some (x,true,())) (cond (decide ((x.length:Int) > 8)) (some (x,true,())) ((l0z x 0).bind fun x1=> some (x,decide ((x1.length:Int) > 4096),())))).bind fun z2=> cond z2.2.1 (some false) ((x0r a3I (z2.1,z2.1,(z2.1.length:Int),0,())).bind fun w10=> match w10 with |.inl a11=>some true |.inr b12=>some b12.1)
def a9u:FSem:=⟨[.v (.list false QL)],[.v .bool],a6n⟩
def c8v:Hints:=⟨[(58,[.sv 0 (.list false QL),.sv 22 (.list false QL),.sv 23 QI,.sv 24 QI],[(.exit 0,[]),(.ret,[.sv 2 .bool])]),(29902,[.sv 0 (.list false QL),.sv 22 (.list false QL),.sv 23 QI,.sv 24 QI,.sv 35 QL,.sv 36 QI,.sv 37 QI],[(.exit 2,[.sv 0 (.list false QL),.sv 22 (.list false QL),.sv 23 QI,.sv 24 QI]),(.ret,[.sv 2 .bool])])],[(6,[(.normal,[.sv 0 (.list false QL),.sv 21 .bool])])],[]⟩
def a5R(s:(Int×Z14×Int×Int×Unit)):Option ((Int×Z14×Int×Int×Unit) ⊕ Z0):= cond (decide (s.2.2.2.1<s.2.2.1)) ((l0z s.2.1 s.2.2.2.1).bind fun x2=> (show Option (Int×Z14×Int×Int×Bool×Z7×Unit)from cond (decide (x2.1<0)) (some (s.1,s.2.1,s.2.2.1,s.2.2.2.1,true,x2,())) (cond (decide (x2.1≥s.1)) (some (s.1,s.2.1,s.2.2.1,s.2.2.2.1,true,x2,())) (cond (decide (x2.2.1<0)) (some (s.1,s.2.1,s.2.2.1,s.2.2.2.1,true,x2,())) (cond (decide (x2.2.1≥s.1)) (some (s.1,s.2.1,s.2.2.1,s.2.2.2.1,true,x2,())) (some (s.1,s.2.1,s.2.2.1,s.2.2.2.1,x2.1==x2.2.1,x2,())))))).bind fun z3=> cond z3.2.2.2.2.1 (some (.inr (Sum.inr ((false,()))))) ((show Option (Int×Z14×Z8)from cond (decide (z3.2.2.2.2.2.1.2.2.1<(-1024))) (some (z3.1,z3.2.1,z3.2.2.1,z3.2.2.2.1,true,())) (some (z3.1,z3.2.1,z3.2.2.1,z3.2.2.2.1,decide (z3.2.2.2.2.2.1.2.2.1 > 1024),()))).bind fun z4=> cond z4.2.2.2.2.1 (some (.inr (Sum.inr ((false,()))))) (some (.inl (z4.1,z4.2.1,z4.2.2.1,wrap .i64 (z4.2.2.2.1+1),()))))) (some (.inr (Sum.inl ())))
def a6Y(x:(Z14×Int)):Option Bool:= (show Option (Z14×Int×Bool×Unit)from cond (decide (x.2<1)) (some (x.1,x.2,true,())) (cond (decide (x.2 > 8)) (some (x.1,x.2,true,())) (some (x.1,x.2,decide ((x.1.length:Int) > 16),())))).bind fun z1=> cond z1.2.2.1 (some false) ((x0r a5R (z1.2.1,z1.1,(z1.1.length:Int),0,())).bind fun w5=> match w5 with |.inl a6=>some true |.inr b7=>some b7.1)
def b0Z:FSem:=⟨[.v (.list false Q8),.v QI],[.v .bool],a6Y⟩
def c8w:Hints:=⟨[(58,[.sv 1 QI,.sv 18 (.list false Q8),.sv 19 QI,.sv 20 QI],[(.exit 0,[]),(.ret,[.sv 4 .bool])])],[(6,[(.normal,[.sv 0 (.list false Q8),.sv 1 QI,.sv 17 .bool])]),(7474,[(.normal,[.sv 1 QI,.sv 18 (.list false Q8),.sv 19 QI,.sv 20 QI,.sv 50 .bool,.box 6 Q8,.ptr 6 6 []])]),(7475,[(.normal,[.sv 1 QI,.sv 18 (.list false Q8),.sv 19 QI,.sv 20 QI,.sv 58 .bool])])],[]⟩
def a0Z(x:(List Int)):Option (List Int):= w0g x
def a0W:FSem:=⟨[.v QL],[.o QI],a0Z⟩
def c8x:Hints:=⟨[],[],[]⟩
def c4F:Cx:=a7t [] [] [0,2] []
theorem c6G(x):z0c c4F c8x Tryz.f183 a0W.ps a0W.rs x=a0W.F x:=Eq.trans (show _=v0w x by kernel_rfl) (z0q x)
def a5z(s:((List (List Int))×Z23)):Option (((List (List Int))×Z23) ⊕ Z1):= cond (decide (s.2.2.1<s.2.1)) ((l0z s.1 s.2.2.1).bind fun x1=> (a0Z x1).bind fun y2=> cond (lim ((a02 s.2.2.2.1)+(a02 (a25 ([[]]:List (List Int)) 0 y2)))) (some (.inl (s.1,s.2.1,wrap .i64 (s.2.2.1+1),a03 s.2.2.2.1 (a25 ([[]]:List (List Int)) 0 y2),()))) none) (some (.inr (s.2.2.2.1,())))
def a5S(x:(List (List Int))):Option (List (List Int)):= (x0r a5z (x,(x.length:Int),0,([]:(List (List Int))),())).bind fun w3=> some w3.1
def b0M:FSem:=⟨[.v (.list false QL)],[.o (.list true QI)],a5S⟩
def c8y:Hints:=⟨[(58,[.sv 6 (.list false QL),.sv 7 QI,.sv 8 QI,.own 3 3 (.list true QI)],[(.exit 0,[.own 3 3 (.list true QI)])])],[],[]⟩
def a3d(s:(Int×(Int×(Int×((List (List Int))×(Z7×Int×Unit)))))):Option ((Int×(Int×(Int×((List (List Int))×(Z7×Int×Unit))))) ⊕ (Z1 ⊕ (Bool×Z1))):= cond (decide (s.2.2.1<s.2.1)) (cond ((decide (0≤s.2.2.1))&&(decide (s.2.2.1<((a02 (a04 s.2.2.2.1 (a01 s.2.2.2.2.2.1) []):Nat):Int)))) (cond ((decide (0≤s.2.2.2.2.1.2.1))&&(decide (s.2.2.2.2.1.2.1<(s.2.2.2.1.length:Int)))) (cond ((decide (0≤s.2.2.1))&&(decide (s.2.2.1<((a02 (a04 s.2.2.2.1 (a01 s.2.2.2.2.1.2.1) []):Nat):Int)))) ((a7B (wrap .i64 ((a04 (a04 s.2.2.2.1 (a01 s.2.2.2.2.1.2.1) []) (a01 s.2.2.1) 0)+(wrap .i64 (s.1*(z0h .i64 (wrap .i64 (s.2.2.2.2.1.2.2.1*(a04 (a04 s.2.2.2.1 (a01 s.2.2.2.2.2.1) []) (a01 s.2.2.1) 0))) 8)))))).bind fun y1=> cond (!y1) (some (.inr (Sum.inr ((false,s.2.2.2.1,()))))) (cond ((decide (0≤s.2.2.2.2.1.2.1))&&(decide (s.2.2.2.2.1.2.1<(s.2.2.2.1.length:Int)))) (cond ((decide (0≤s.2.2.1))&&(decide (s.2.2.1<((a02 (a04 s.2.2.2.1 (a01 s.2.2.2.2.1.2.1) []):Nat):Int)))) (some (.inl (s.1,s.2.1,wrap .i64 (s.2.2.1+1),a25 s.2.2.2.1 (a01 s.2.2.2.2.1.2.1) (a25 (a04 s.2.2.2.1 (a01 s.2.2.2.2.1.2.1) []) (a01 s.2.2.1) (wrap .i64 ((a04 (a04 s.2.2.2.1 (a01 s.2.2.2.2.1.2.1) []) (a01 s.2.2.1) 0)+(wrap .i64 (s.1*(z0h .i64 (wrap .i64 (s.2.2.2.2.1.2.2.1*(a04 (a04 s.2.2.2.1 (a01 s.2.2.2.2.2.1) []) (a01 s.2.2.1) 0))) 8)))))),s.2.2.2.2.1,((a01 s.2.2.2.2.2.1:Nat):Int),()))) none) none)) none) none) none) (some (.inr (Sum.inl (s.2.2.2.1,()))))
def a6J(x:((List (List Int))×(Z7×Int))):Option (Bool×(List (List Int))):= cond ((decide (0≤x.2.1.1))&&(decide (x.2.1.1<(x.1.length:Int)))) ((x0r a3d (x.2.2,((a02 (a04 x.1 (a01 x.2.1.1) []):Nat):Int),0,x.1,x.2.1,((a01 x.2.1.1:Nat):Int),())).bind fun w2=> match w2 with |.inl a3=>some (true,a3.1) |.inr b4=>some (b4.1,b4.2.1)) none
def b1x:FSem:=⟨[.r false (.o (.list true QI)),.v Q8,.v QI],[.v .bool],a6J⟩
def c8z:Hints:=⟨[(26,[.sv 2 QI,.sv 15 QI,.sv 16 QI,.own 0 pinned (.list true QI),.vp 4 Q8,.rfi 14 pinned],[(.exit 0,[.own 0 pinned (.list true QI)]),(.ret,[.sv 6 .bool,.own 0 pinned (.list true QI)])])],[],[(4,[.q,.v,.v,.q,.q,.v,.q,.q,.v,.v,.v,.v,.v,.v,.v,.x,.x])]⟩
def a6K(s:(Z14×Z23)):Option ((Z14×Z23) ⊕ (Z1 ⊕ Z11)):= cond (decide (s.2.2.1<s.2.1)) ((l0z s.1 s.2.2.1).bind fun x5=> (a6J (s.2.2.2.1,x5,1)).bind fun y6=> cond (!y6.1) (some (.inr (Sum.inr ((([]:(List (List Int))),6,()))))) (some (.inl (s.1,s.2.1,wrap .i64 (s.2.2.1+1),y6.2,())))) (some (.inr (Sum.inl (s.2.2.2.1,()))))
def a9X(x:((List (List Int))×Z14)):Option ((List (List Int))×Int):= (show Option ((List (List Int))×(Z14×Bool×Unit))from(a6n x.1).bind fun y1=> cond (!y1) (some (x.1,x.2,true,())) ((a6Y (x.2,(x.1.length:Int))).bind fun y2=> some (x.1,x.2,!y2,()))).bind fun z3=> cond z3.2.2.1 (some (([]:(List (List Int))),1)) ((a5S z3.1).bind fun y4=> (x0r a6K (z3.2.1,(z3.2.1.length:Int),0,y4,())).bind fun w7=> match w7 with |.inl a8=>some (a8.1,0) |.inr b9=>some (b9.1,b9.2.1))
def b4H:FSem:=⟨[.v (.list false QL),.v (.list false Q8)],[.v (.list false QL),.v QI],a9X⟩
def H59:Hints:=⟨[(122,[.sv 21 (.list false Q8),.sv 22 QI,.sv 23 QI,.own 6 6 (.list true QI)],[(.exit 0,[.own 6 6 (.list true QI)]),(.ret,[.sv 4 (.list false QL),.sv 5 QI])])],[(6,[(.normal,[.sv 0 (.list false QL),.sv 1 (.list false Q8),.sv 18 .bool])])],[]⟩
def a5A(s:(Int×((List Int)×Z36))):Option ((Int×((List Int)×Z36)) ⊕ Z36):= cond (decide (s.2.2.1<(s.2.1.length:Int))) ((l0z s.2.1 s.2.2.1).bind fun x3=> (l0z s.2.1 (wrap .i64 (s.2.2.1-1))).bind fun x4=> (l0z s.2.1 (wrap .i64 (s.2.2.1-2))).bind fun x5=> some (.inl (wrap .i64 (s.1+(u0z (wrap .i64 ((wrap .i64 (x3-(wrap .i64 (2*x4))))+x5)) (wrap .i64 (0-(wrap .i64 ((wrap .i64 (x3-(wrap .i64 (2*x4))))+x5)))))),s.2.1,wrap .i64 (s.2.2.1+1),s.2.2.2.1,s.2.2.2.2.1,s.2.2.2.2.2.1,()))) (some (.inr (s.1,s.2.2.2.1,s.2.2.2.2.1,s.2.2.2.2.2.1,())))
def a5B(s:Z36):Option (Z36 ⊕ (Int×Unit)):= cond (decide (s.2.2.2.1<s.2.2.1)) ((l0z s.2.1 s.2.2.2.1).bind fun x2=> (x0r a5A (s.1,x2,2,s.2.1,s.2.2.1,s.2.2.2.1,())).bind fun w6=> some (.inl (w6.1,w6.2.1,w6.2.2.1,wrap .i64 (w6.2.2.2.1+1),()))) (some (.inr (s.1,())))
def a5T(x:(List (List Int))):Option Int:= (a6n x).bind fun y1=> cond (!y1) (some 0) ((x0r a5B (0,x,(x.length:Int),0,())).bind fun w7=> some w7.1)
def b4o:FSem:=⟨[.v (.list false QL)],[.v QI],a5T⟩
def c8A:Hints:=⟨[(122,[.sv 3 QI,.sv 11 (.list false QL),.sv 12 QI,.sv 13 QI],[(.exit 0,[.sv 3 QI])]),(31334,[.sv 3 QI,.sv 5 QL,.sv 6 QI,.sv 11 (.list false QL),.sv 12 QI,.sv 13 QI],[(.exit 2,[.sv 3 QI,.sv 11 (.list false QL),.sv 12 QI,.sv 13 QI])])],[],[(10,[.v,.v,.v,.v,.v,.v,.v,.v,.v,.v,.v,.v,.v,.v,.v,.v,.x,.x])]⟩
def a8n(x:Int):Option Z14:= cond (x==1) (some ([(0,1,(-256),())]:List Z7)) (cond (x==2) (some ([(1,0,(-256),())]:List Z7)) (cond (x==3) (some ([(1,0,(-256),()),(0,1,128,())]:List Z7)) (cond (x==4) (some ([(1,0,(-106),()),(0,1,181,()),(1,0,(-106),())]:List Z7)) (some []))))
def b4I:FSem:=⟨[.v QI],[.o Q8],a8n⟩
def c8B:Hints:=⟨[],[],[]⟩
def a5a(s:((List (List Int))×Z7)):Option (((List (List Int))×Z7) ⊕ (Int×Unit)):= cond (decide (s.2.2.2.1<5)) ((a8n s.2.2.2.1).bind fun y2=> (a9X (s.1,y2)).bind fun y3=> cond (y3.2 != 0) (some (.inl (s.1,s.2.1,s.2.2.1,wrap .i64 (s.2.2.2.1+1),()))) ((a5T y3.1).bind fun y4=> cond (decide (y4<s.2.2.1)) (some (.inl (s.1,s.2.2.2.1,y4,wrap .i64 (s.2.2.2.1+1),()))) (some (.inl (s.1,s.2.1,s.2.2.1,wrap .i64 (s.2.2.2.1+1),()))))) (some (.inr (s.2.1,())))
def a9v(x:(List (List Int))):Option Z14:= (a5T x).bind fun y1=> (x0r a5a (x,0,y1,1,())).bind fun w5=> (a8n w5.1).bind fun y6=> some y6
def b5q:FSem:=⟨[.v (.list false QL)],[.o Q8],a9v⟩
def c8C:Hints:=⟨[(58,[.sv 0 (.list false QL),.sv 3 QI,.sv 4 QI,.sv 5 QI],[(.exit 0,[.sv 3 QI])])],[],[]⟩
def a5b(s:(Int×Int×Int×Z14×Z78)):Option ((Int×Int×Int×Z14×Z78) ⊕ (Int×Z78)):= cond (decide (s.2.2.1<s.2.1)) (cond ((decide (0≤s.2.2.1))&&(decide (s.2.2.1<(s.2.2.2.2.1.length:Int)))) (cond (lim ((a02 s.2.2.2.1)+1)) (some (.inl (s.1,s.2.1,wrap .i64 (s.2.2.1+1),a03 s.2.2.2.1 ([(wrap .i64 (((a04 s.2.2.2.2.1 (a01 s.2.2.1) (0,0,0,())).1)+s.1),wrap .i64 ((((a04 s.2.2.2.2.1 (a01 s.2.2.1) (0,0,0,())).2).1)+s.1),(((a04 s.2.2.2.2.1 (a01 s.2.2.1) (0,0,0,())).2).2).1,())]:List Z7),s.2.2.2.2.1,s.2.2.2.2.2.1,()))) none) none) (some (.inr (s.1,s.2.2.2.1,s.2.2.2.2.2.1,())))
def a6Z(s:(Int×Z78)):Option ((Int×Z78) ⊕ (Z14×Unit)):= cond (decide ((wrap .i64 (s.1+1))<(s.2.2.1.2.1.length:Int))) (cond ((decide (0≤(wrap .i64 (s.1+2))))&&(decide ((wrap .i64 (s.1+2))≤(s.2.2.1.2.1.length:Int)))) (cond ((decide (0≤s.1))&&(decide (s.1≤((a01 (wrap .i64 (s.1+2)):Nat):Int)))) ((a9v (a32 (a01 s.1) (a08 (a01 (wrap .i64 (s.1+2))) s.2.2.1.2.1))).bind fun y2=> (x0r a5b (s.1,(y2.length:Int),0,s.2.1,y2,s.2.2.1,())).bind fun w3=> some (.inl (wrap .i64 (w3.1+2),w3.2.1,w3.2.2.1,()))) none) none) (some (.inr (s.2.1,())))
def a6o(x:Z10):Option Z14:= (a6m x).bind fun y1=> cond (!y1) (some []) ((x0r a6Z (0,[],x,())).bind fun w4=> some w4.1)
def b5r:FSem:=⟨[.v Q10],[.o Q8],a6o⟩
def H58:Hints:=⟨[(122,[.sv 4 QI,.own 3 3 Q8,.vp 1 Q10],[(.exit 0,[.own 3 3 Q8])]),(7826,[.sv 4 QI,.sv 25 QI,.sv 26 QI,.own 3 3 Q8,.own 24 1024 Q8,.vp 1 Q10],[(.exit 2,[.sv 4 QI,.own 3 3 Q8,.vp 1 Q10])])],[],[]⟩
def a2h(s:Z13):Option Z60:= cond (decide (s.2.2.1<s.2.1)) ((l0z s.1 s.2.2.1).bind fun x1=> (show Option Z31 from cond (decide (x1<(-1073741824))) (some (s.1,s.2.1,s.2.2.1,true,())) (some (s.1,s.2.1,s.2.2.1,decide (x1≥1073741824),()))).bind fun z2=> cond z2.2.2.2.1 (some (.inr (Sum.inr ((false,()))))) (some (.inl (z2.1,z2.2.1,wrap .i64 (z2.2.2.1+1),())))) (some (.inr (Sum.inl ())))
def a2e(x:(List Int)):Option Bool:= (x0r a2h (x,(x.length:Int),0,())).bind fun w3=> match w3 with |.inl a4=>some true |.inr b5=>some b5.1
def a7O:FSem:=⟨[.v QL],[.v .bool],a2e⟩
def c8D:Hints:=⟨[(26,[.sv 5 QL,.sv 6 QI,.sv 7 QI],[(.exit 0,[]),(.ret,[.sv 2 .bool])])],[(1689,[(.normal,[.sv 5 QL,.sv 6 QI,.sv 7 QI,.sv 16 .bool])])],[]⟩
def a4l(x:Int):Option Bool:= cond (decide ((-1073741824)≤x)) (some (decide (x<1073741824))) (some false)
def b0N:FSem:=⟨[.v QI],[.v .bool],a4l⟩
def c8E:Hints:=⟨[],[],[]⟩
def a5C(s:Z52):Option (Z52 ⊕ Z42):= cond (decide (s.2.2.2.1<s.2.2.1)) ((l0z s.2.1 s.2.2.2.1).bind fun x2=> (show Option (Int×(Int×((List Int)×(Int×(Int×(Bool×((List Int)×Unit)))))))from(a4l x2).bind fun y3=> cond (!y3) (some (s.1,x2,s.2.1,s.2.2.1,s.2.2.2.1,true,s.2.2.2.2.1,())) (cond (decide (s.1<0)) none (cond ((z0g .i64 1 s.1)==0) none (some (s.1,x2,s.2.1,s.2.2.1,s.2.2.2.1,(a20 x2 (z0g .i64 1 s.1)) != 0,s.2.2.2.2.1,()))))).bind fun z4=> cond z4.2.2.2.2.2.1 (some (.inr (Sum.inr ((6,[],()))))) (cond (decide (z4.1<0)) none (cond (lim ((a02 z4.2.2.2.2.2.2.1)+1)) (some (.inl (z4.1,z4.2.2.1,z4.2.2.2.1,wrap .i64 (z4.2.2.2.2.1+1),a03 z4.2.2.2.2.2.2.1 [z0h .i64 z4.2.1 z4.1],()))) none))) (some (.inr (Sum.inl (s.2.2.2.2.1,()))))
def a5U(x:((List Int)×Int)):Option ((List Int)×Int):= (show Option Z17 from cond (decide (x.2<0)) (some (x.1,x.2,true,())) (some (x.1,x.2,decide (x.2 > 30),()))).bind fun z1=> cond z1.2.2.1 (some ([],1)) ((x0r a5C (z1.2.1,z1.1,(z1.1.length:Int),0,[],())).bind fun w5=> match w5 with |.inl a6=>some (a6.1,0) |.inr b7=>some (b7.2.1,b7.1))
def b0O:FSem:=⟨[.v QL,.v QI],[.o QI,.v QI],a5U⟩
def c8F:Hints:=⟨[(122,[.sv 1 QI,.sv 15 QL,.sv 16 QI,.sv 17 QI,.own 6 6 QI],[(.exit 0,[.own 6 6 QI]),(.ret,[.sv 5 QI,.own 4 4 QI])])],[(6,[(.normal,[.sv 0 QL,.sv 1 QI,.sv 14 .bool])]),(15666,[(.normal,[.sv 1 QI,.sv 8 QI,.sv 15 QL,.sv 16 QI,.sv 17 QI,.sv 30 .bool,.own 6 6 QI])])],[]⟩
def a1t(x:Int):Option Int:= cond (x==0) (some 64) ((l0z a9r (z0h .u64 (wrap .u64 ((bits .u64 .and x (wrap .u64 (0-x)))*285870213051353865)) 58)).bind fun x1=> some (wrap .i64 x1))
def a1b:FSem:=⟨[.v (.int .u64)],[.v QI],a1t⟩
def b7I:Hints:=⟨[],[],[]⟩
def a8o:Cx:=a7t [] [] [0,2] []
theorem b5s{ρ:Type}{cx:Cx}{ops:List Oper}:∀(l1 l2:List (Md×Oper)) (Γ:AE) (K:AE→Rs ρ),h0h cx ops (l1++l2) Γ K=h0h cx ops l1 Γ fun Γ'=>h0h cx ops l2 Γ' K
 | [],_,_,_=>rfl
 |(md,o)::l1,l2,Γ,K=>by
  simp only[a16,h0h];congr 1;funext Γ';exact b5s l1 l2 Γ' K
theorem b4J{ρ:Type}{cx:Cx}{H:Hints}{a b:Code}{p:Nat}(h:find H.cuts p=none)(Γ:AE)(K:Ex→AE→Rs ρ):c0m cx H (.seq a b) p Γ K=c0m cx H a (2*p) Γ fun e Γ'=>match e with
   |.normal=>c0m cx H b (2*p+1) Γ' K
   |e=>K e Γ':=by
 simp only[c0m,h];rfl
theorem b9m{ρ:Type}{cx:Cx}{H:Hints}{id:Nat}{ops:Array Oper}{p:Nat}(Γ:AE)(K:Ex→AE→Rs ρ):c0m cx H (.region id ops false) p Γ K=h0h cx ops.toList (ops.toList.map fun o=>(.x,o)) Γ fun Γ'=>K .normal Γ':=by
 simp only[c0m,cF]
def a8f:Code:=match Tryz.f191.body with
 |some c=>c
 |none=>.skip
def b7J:Code→Code
 |.seq a _=>a
 |c=>c
def c1O:Code→Code
 |.seq _ b=>b
 |c=>c
def c2T:Code→Array Oper
 |.region _ ops _=>ops
 |_=>#[]
def c1r:Code:=c1O (c1O a8f)
def b1y:List Oper:=(c2T (b7J c1r)).toList
def Γ191(x:Int):AE:=(((ini [.v (.int .u64)] x).set 2 (.val QI (0:Int))).set 3 (.val (.int .u64) x)).set 4 (.val .bool (x==(0:Int)))
def Γ191r(x:Int):AE:=(Γ191 x).set 2 (.val QI (64:Int))
def b9n(e:Ex)(Γ:AE):Option Int:=match e,Γ.pd with
  |.exit _,_=>none
  |_,some _=>none
  |_,none=>(Γ.upto Tryz.f191.ntmps).outs a8o [] Tryz.f191.ntmps [.v QI] (Tryz.f191.results.toList.map .inl) fun y _=>some y
def Γ191b(x a b c i:Int):AE:=((((((Γ191 x).set 5 (.val (.int .u64) x)).set 6 (.val (.int .u64) x)).set 7 (.val (.int .u64) a)).set 8 (.val (.int .u64) b)).set 9 (.val (.int .u64) c)).set 10 (.val (.int .u64) i)
set_option maxRecDepth 100000
theorem c3O:a8f=.seq (b7J a8f) (.seq (b7J (c1O a8f)) (.seq (.region 3 (c2T (b7J c1r)) false) .ret)):=by kernel_rfl
theorem c5s(x:Int):z0c a8o b7I Tryz.f191 a1b.ps a1b.rs x=c0m a8o b7I a8f 1 (ini [.v (.int .u64)] x) b9n:=rfl
theorem c5t(x:Int)(K:Ex→AE→Option Int):c0m a8o b7I (b7J a8f) 2 (ini [.v (.int .u64)] x) K=K .normal ((ini [.v (.int .u64)] x).set 2 (.val (.int .i64) (0:Int))):=by kernel_rfl
theorem c5u(x:Int)(K:Ex→AE→Option Int):c0m a8o b7I (b7J (c1O a8f)) 6 ((ini [.v (.int .u64)] x).set 2 (.val (.int .i64) (0:Int))) K=bif x==(0:Int)then K .ret (Γ191r x)else K .normal (Γ191 x):=by kernel_rfl
theorem c5v(x:Int):b9n .ret (Γ191r x)=some (64:Int):=by kernel_rfl
theorem c5w(x:Int)(K:AE→Option Int):h0h a8o b1y ((b1y.map fun o=>(Md.x,o)).take 6) (Γ191 x) K =
  K (Γ191b x (wrap .u64 (0-x)) (bits .u64 .and x (wrap .u64 (0-x))) (wrap .u64 ((bits .u64 .and x (wrap .u64 (0-x)))*(285870213051353865:Int))) (z0h .u64 (wrap .u64 ((bits .u64 .and x (wrap .u64 (0-x)))*(285870213051353865:Int))) (58:Int))):=by kernel_rfl
theorem c5x(x a b c i:Int):h0h a8o b1y ((b1y.map fun o=>(Md.x,o)).drop 6) (Γ191b x a b c i) (fun Γ=>b9n .ret Γ)=(l0z a9r i).bind fun h=>some (wrap .i64 h):=by kernel_rfl
theorem c5y(x:Int):h0h a8o b1y (b1y.map fun o=>(Md.x,o)) (Γ191 x) (fun Γ=>b9n .ret Γ)=(l0z a9r (z0h .u64 (wrap .u64 ((bits .u64 .and x (wrap .u64 (0-x)))*(285870213051353865:Int))) (58:Int))).bind fun h=>some (wrap .i64 h):=by
 rw[←List.take_append_drop 6 (b1y.map fun o=>(Md.x,o)),b5s,c5w,c5x]
theorem c5T(x:Int):c0m a8o b7I a8f 1 (ini [.v (.int .u64)] x) b9n=a1t x:=by
 rw[c3O,b4J rfl,c5t];simp only[];rw[b4J rfl,c5u];simp only[];rw[b4J rfl,b9m];simp only[c0m];rw[c5v];exact congrArg (fun z=>bif x==(0:Int)then some (64:Int)else z) (c5y x)
theorem c6H(x):z0c a8o b7I Tryz.f191 a1b.ps a1b.rs x=a1b.F x:=(c5s x).trans (c5T x)
def a4r(s:Z27):Option Z57:= cond (decide (s.2.2.2.1<s.2.2.1)) ((l0z s.2.1 s.2.2.2.1).bind fun x1=> some (.inl (bits .i64 .or s.1 x1,s.2.1,s.2.2.1,wrap .i64 (s.2.2.2.1+1),()))) (some (.inr (s.1,())))
def a3e(x:(List Int)):Option Int:= (x0r a4r (0,x,(x.length:Int),0,())).bind fun w2=> cond (w2.1==0) (some 0) ((a1t (wrap .u64 w2.1)).bind fun y3=> some (v0a y3 30))
def a8p:FSem:=⟨[.v QL],[.v QI],a3e⟩
def c8G:Hints:=⟨[(58,[.sv 3 QI,.sv 6 QL,.sv 7 QI,.sv 8 QI],[(.exit 0,[.sv 3 QI])])],[],[]⟩
def b2f(s:Z13):Option Z60:= cond (decide (s.2.2.1<s.2.1)) ((l0z s.1 s.2.2.1).bind fun x1=> (show Option Z31 from cond (decide (x1<(-1073741824))) (some (s.1,s.2.1,s.2.2.1,true,())) (some (s.1,s.2.1,s.2.2.1,decide (x1≥1073741824),()))).bind fun z2=> cond z2.2.2.2.1 (some (.inr (Sum.inr ((false,()))))) (some (.inl (z2.1,z2.2.1,wrap .i64 (z2.2.2.1+1),())))) (some (.inr (Sum.inl ())))
def a2p(x:(List Int)):Option Bool:= (x0r b2f (x,(x.length:Int),0,())).bind fun w3=> match w3 with |.inl a4=>some true |.inr b5=>some b5.1
def b1z:FSem:=⟨[.v QL],[.v .bool],a2p⟩
def c8H:Hints:=⟨[(26,[.sv 5 QL,.sv 6 QI,.sv 7 QI],[(.exit 0,[]),(.ret,[.sv 2 .bool])])],[(1689,[(.normal,[.sv 5 QL,.sv 6 QI,.sv 7 QI,.sv 16 .bool])])],[]⟩
def a4s(s:Z28):Option (Z28 ⊕ Z15):= cond (decide ((wrap .i64 (s.1+1))<(s.2.2.2.1.length:Int))) (cond ((decide (0≤(wrap .i64 (s.1+1))))&&(decide ((wrap .i64 (s.1+1))<(s.2.2.2.1.length:Int)))) (cond ((decide (0≤s.1))&&(decide (s.1<(s.2.2.2.1.length:Int)))) (cond ((decide (0≤s.1))&&(decide (s.1<(s.2.2.2.1.length:Int)))) (some (.inl (wrap .i64 (s.1+1),s.2.1,s.2.2.1,a25 s.2.2.2.1 (a01 s.1) (wrap .i64 ((a04 s.2.2.2.1 (a01 (wrap .i64 (s.1+1))) 0)-(a04 s.2.2.2.1 (a01 s.1) 0))),()))) none) none) none) (some (.inr (s.2.1,s.2.2.1,s.2.2.2.1,())))
def a6B(s:Z15):Option (Z15 ⊕ ((List Int)×Unit)):= cond (decide (s.2.1<s.1)) ((x0r a4s (0,s.1,s.2.1,s.2.2.1,())).bind fun w3=> cond ((decide (0≤(wrap .i64 ((w3.2.2.1.length:Int)-1))))&&(decide ((wrap .i64 ((w3.2.2.1.length:Int)-1))≤(w3.2.2.1.length:Int)))) (cond (decide ((a01 (wrap .i64 ((w3.2.2.1.length:Int)-1)))≤(a02 w3.2.2.1))) (some (.inl (w3.1,wrap .i64 (w3.2.1+1),a08 (a01 (wrap .i64 ((w3.2.2.1.length:Int)-1))) w3.2.2.1,()))) none) none) (some (.inr (s.2.2.1,())))
def a3O(x:((List Int)×Int)):Option ((List Int)×Int):= (show Option Z17 from cond (decide (x.2<0)) (some (x.1,x.2,true,())) (cond (decide (x.2 > 4)) (some (x.1,x.2,true,())) (some (x.1,x.2,decide ((x.1.length:Int)<x.2),())))).bind fun z1=> cond z1.2.2.1 (some ([],1)) ((a2p z1.1).bind fun y2=> cond (!y2) (some ([],6)) (cond (lim (a02 z1.1)) ((x0r a6B (z1.2.1,0,z1.1,())).bind fun w4=> (a2p w4.1).bind fun y5=> cond (!y5) (some ([],6)) (some (w4.1,0))) none))
def b1A:FSem:=⟨[.v QL,.v QI],[.o QI,.v QI],a3O⟩
def c8I:Hints:=⟨[(250,[.sv 25 QI,.sv 26 QI,.own 6 6 QI],[(.exit 0,[.own 6 6 QI])]),(64098,[.sv 7 QI,.sv 25 QI,.sv 26 QI,.own 6 6 QI],[(.exit 2,[.sv 25 QI,.sv 26 QI,.own 6 6 QI])])],[(6,[(.normal,[.sv 0 QL,.sv 1 QI,.sv 19 .bool])])],[(11,[.q,.v,.q,.v,.v,.q,.q,.q,.v,.q,.q,.v,.x,.x])]⟩
def a3P(s:Z41):Option (Z41 ⊕ (Int×Unit)):= cond (decide (s.2.2.2.2.1<s.2.2.2.1)) ((l0z s.2.2.1 s.2.2.2.2.1).bind fun x1=> cond (decide ((wrap .i64 (s.2.2.2.2.1+s.1))≥4)) (some (.inl (s.1,wrap .i64 (s.2.1+(u0z x1 (wrap .i64 (0-x1)))),s.2.2.1,s.2.2.2.1,wrap .i64 (s.2.2.2.2.1+1),()))) (some (.inl (s.1,s.2.1,s.2.2.1,s.2.2.2.1,wrap .i64 (s.2.2.2.2.1+1),())))) (some (.inr (s.2.1,())))
def a7P(x:((List Int)×Int)):Option Int:= (x0r a3P (x.2,0,x.1,(x.1.length:Int),0,())).bind fun w2=> some w2.1
def b4p:FSem:=⟨[.v QL,.v QI],[.v QI],a7P⟩
def c8J:Hints:=⟨[(58,[.sv 1 QI,.sv 5 QI,.sv 8 QL,.sv 9 QI,.sv 10 QI],[(.exit 0,[.sv 5 QI])])],[],[]⟩
def a2q(s:Z29):Option (Z29 ⊕ (Int×Unit)):= cond (decide (s.2.2.2.1≤4)) ((a3O (s.1,s.2.2.2.1)).bind fun y1=> cond (y1.2 != 0) (some (.inl (s.1,s.2.1,s.2.2.1,wrap .i64 (s.2.2.2.1+1),()))) ((a7P (y1.1,s.2.2.2.1)).bind fun y2=> (show Option ((List Int)×(Int×Z21))from cond (decide (s.2.2.1<0)) (some (s.1,s.2.1,s.2.2.1,s.2.2.2.1,y2,true,())) (some (s.1,s.2.1,s.2.2.1,s.2.2.2.1,y2,decide (y2<s.2.2.1),()))).bind fun z3=> cond z3.2.2.2.2.2.1 (some (.inl (z3.1,z3.2.2.2.1,z3.2.2.2.2.1,wrap .i64 (z3.2.2.2.1+1),()))) (some (.inl (z3.1,z3.2.1,z3.2.2.1,wrap .i64 (z3.2.2.2.1+1),()))))) (some (.inr (s.2.1,())))
def a5c(x:(List Int)):Option Int:= (x0r a2q (x,0,(-1),0,())).bind fun w4=> some w4.1
def b4K:FSem:=⟨[.v QL],[.v QI],a5c⟩
def c8K:Hints:=⟨[(58,[.sv 0 QL,.sv 3 QI,.sv 4 QI,.sv 5 QI],[(.exit 0,[.sv 3 QI])])],[(7463,[(.normal,[.sv 0 QL,.sv 3 QI,.sv 4 QI,.sv 5 QI,.sv 8 QI,.sv 30 .bool])])],[]⟩
def a4m(x:Int):Option Bool:= cond (decide (x≥(-1073741824))) (some (decide (x<1073741824))) (some false)
def a7Q:FSem:=⟨[.v QI],[.v .bool],a4m⟩
def c8L:Hints:=⟨[],[],[]⟩
def a2G(s:Z13):Option Z60:= cond (decide (s.2.2.1<s.2.1)) ((l0z s.1 s.2.2.1).bind fun x1=> (a4m x1).bind fun y2=> cond (!y2) (some (.inr (Sum.inr ((false,()))))) (some (.inl (s.1,s.2.1,wrap .i64 (s.2.2.1+1),())))) (some (.inr (Sum.inl ())))
def a2i(x:(List Int)):Option Bool:= (x0r a2G (x,(x.length:Int),0,())).bind fun w3=> match w3 with |.inl a4=>some true |.inr b5=>some b5.1
def a5D:FSem:=⟨[.v QL],[.v .bool],a2i⟩
def c8M:Hints:=⟨[(26,[.sv 5 QL,.sv 6 QI,.sv 7 QI],[(.exit 0,[]),(.ret,[.sv 2 .bool])])],[],[]⟩
def a2k(x:Int):Option Int:= some (v0a (u0z x (-1048576)) 1048575)
def a9d:FSem:=⟨[.v QI],[.v QI],a2k⟩
def c8N:Hints:=⟨[],[],[]⟩
def a2Z(s:Z63):Option (Z63 ⊕ Z53):= cond (decide (s.2.1<0)) none ((a2k (z0h .i64 s.2.2.1 s.2.1)).bind fun y2=> cond (decide (s.2.1<0)) none (cond (y2 != (z0h .i64 s.2.2.1 s.2.1)) (some (.inl (s.1,wrap .i64 (s.2.1+1),s.2.2.1,s.2.2.2.1,s.2.2.2.2.1,s.2.2.2.2.2.1,()))) (some (.inr (s.1,s.2.1,s.2.2.2.1,s.2.2.2.2.1,s.2.2.2.2.2.1,())))))
def a4t(s:Z53):Option (Z53 ⊕ Z5):= cond (decide (s.2.2.2.2.1<s.2.2.2.1)) ((l0z s.2.2.1 s.2.2.2.2.1).bind fun x1=> (x0r a2Z (s.1,s.2.1,x1,s.2.2.1,s.2.2.2.1,s.2.2.2.2.1,())).bind fun w3=> some (.inl (w3.1,w3.2.1,w3.2.2.1,w3.2.2.2.1,wrap .i64 (w3.2.2.2.2.1+1),()))) (some (.inr (s.1,s.2.1,())))
def a4u(s:Z52):Option (Z52 ⊕ ((List Int)×Unit)):= cond (decide (s.2.2.2.1<s.2.2.1)) ((l0z s.2.1 s.2.2.2.1).bind fun x5=> cond (decide (s.1<0)) none (cond ((decide (0≤s.2.2.2.1))&&(decide (s.2.2.2.1<(s.2.2.2.2.1.length:Int)))) (some (.inl (s.1,s.2.1,s.2.2.1,wrap .i64 (s.2.2.2.1+1),a25 s.2.2.2.2.1 (a01 s.2.2.2.1) (z0h .i64 x5 s.1),()))) none)) (some (.inr (s.2.2.2.2.1,())))
def a6C(x:(List Int)):Option (List Int):= (x0r a4t (x,0,x,(x.length:Int),0,())).bind fun w4=> cond ((decide (0≤(w4.1.length:Int)))&&((decide ((w4.1.length:Int)≤(w4.1.length:Int)))&&(lim (a01 (w4.1.length:Int))))) ((x0r a4u (w4.2.1,w4.1,(w4.1.length:Int),0,a00 (a01 (w4.1.length:Int)) 0,())).bind fun w6=> some w6.1) none
def b2g:FSem:=⟨[.v QL],[.o QI],a6C⟩
def c8O:Hints:=⟨[(58,[.sv 0 QL,.sv 3 QI,.sv 9 QL,.sv 10 QI,.sv 11 QI],[(.exit 0,[.sv 0 QL,.sv 3 QI])]),(250,[.sv 3 QI,.sv 29 QL,.sv 30 QI,.sv 31 QI,.own 6 6 QI],[(.exit 4,[.own 6 6 QI])]),(7474,[.sv 0 QL,.sv 3 QI,.sv 5 QI,.sv 9 QL,.sv 10 QI,.sv 11 QI],[(.exit 2,[.sv 0 QL,.sv 3 QI,.sv 9 QL,.sv 10 QI,.sv 11 QI])])],[],[(5,[.v,.v,.v,.v,.v,.v,.v,.x])]⟩
def a2Q(s:((List Int)×Z29)):Option (((List Int)×Z29) ⊕ (Int×Int×Unit)):= cond (decide (s.2.2.2.2.1<(s.1.length:Int))) ((l0z s.1 s.2.2.2.2.1).bind fun x1=> (l0z s.2.1 (wrap .i64 (s.2.2.2.2.1-1))).bind fun x2=> (l0z s.1 s.2.2.2.2.1).bind fun x3=> (l0z s.1 s.2.2.2.2.1).bind fun x4=> (l0z s.2.1 (wrap .i64 (s.2.2.2.2.1-1))).bind fun x5=> (l0z s.2.1 (wrap .i64 (s.2.2.2.2.1-1))).bind fun x6=> some (.inl (s.1,s.2.1,wrap .i64 (s.2.2.1+(wrap .i64 (x1*x2))),wrap .i64 (s.2.2.2.1+(wrap .i64 ((wrap .i64 (x3*x4))+(wrap .i64 (x5*x6))))),wrap .i64 (s.2.2.2.2.1+1),()))) (some (.inr (s.2.2.1,s.2.2.2.1,())))
def a2R(s:(Int×Int×Unit)):Option ((Int×Int×Unit) ⊕ (Int×Int×Unit)):= cond (decide (s.2.1≥1099511627776)) (some (.inl (z0h .i64 s.1 1,z0h .i64 s.2.1 1,()))) (some (.inr (s.1,s.2.1,())))
def a4c(x:Z9):Option Int:= (x0r a2Q (x.1,x.2.1,0,0,x.2.2,())).bind fun w7=> (x0r a2R (w7.1,w7.2.1,())).bind fun w8=> cond (w8.2.1==0) (some 0) (cond (w8.2.1==0) none ((show Option (Int×Unit)from cond (w8.2.1==0) none (cond (decide ((a20 (z0g .i64 w8.1 15) w8.2.1)<0)) (some (wrap .i64 ((wrap .i64 (a09 (z0g .i64 w8.1 15) w8.2.1))-1),())) (some (wrap .i64 (a09 (z0g .i64 w8.1 15) w8.2.1),())))).bind fun z9=> some (v0a (u0z z9.1 (-16383)) 16383)))
def a8W:FSem:=⟨[.v QL,.v QL,.v QI],[.v QI],a4c⟩
def c8P:Hints:=⟨[(58,[.sv 0 QL,.sv 1 QL,.sv 7 QI,.sv 8 QI,.sv 9 QI],[(.exit 0,[.sv 7 QI,.sv 8 QI])]),(60,[.sv 7 QI,.sv 8 QI],[(.exit 2,[.sv 7 QI,.sv 8 QI])])],[(255,[(.normal,[.sv 10 QI])])],[(5,[.v,.v,.v,.v,.v,.v,.v,.v,.v,.v,.v,.x,.x]),(6,[.v,.v,.v,.v,.v,.v,.v,.v,.v,.v,.v,.v,.v,.v,.v,.v,.v,.v,.v,.v,.v,.v,.x,.x])]⟩
def a2H(s:(Int×Int×Z61)):Option ((Int×Int×Z61) ⊕ Z61):= cond (decide (s.2.2.2.1≥s.2.1)) (cond ((decide (0≤s.2.2.2.1))&&(decide (s.2.2.2.1<(s.2.2.2.2.1.length:Int)))) (cond ((decide (0≤(wrap .i64 (s.2.2.2.1-1))))&&(decide ((wrap .i64 (s.2.2.2.1-1))<(s.2.2.2.2.2.1.length:Int)))) ((a2k (wrap .i64 ((a04 s.2.2.2.2.1 (a01 s.2.2.2.1) 0)-(z0h .i64 (wrap .i64 (s.2.2.1*(a04 s.2.2.2.2.2.1 (a01 (wrap .i64 (s.2.2.2.1-1))) 0))) 14)))).bind fun y6=> cond ((decide (0≤s.2.2.2.1))&&(decide (s.2.2.2.1<(s.2.2.2.2.1.length:Int)))) ((a2k (wrap .i64 ((a04 s.2.2.2.2.2.1 (a01 (wrap .i64 (s.2.2.2.1-1))) 0)-(z0h .i64 (wrap .i64 (s.2.2.1*(a04 s.2.2.2.2.1 (a01 s.2.2.2.1) 0))) 14)))).bind fun y7=> cond ((decide (0≤s.2.2.2.1))&&(decide (s.2.2.2.1<(s.2.2.2.2.2.1.length:Int)))) (some (.inl (s.1,s.2.1,s.2.2.1,wrap .i64 (s.2.2.2.1-1),a25 s.2.2.2.2.1 (a01 s.2.2.2.1) y6,a25 s.2.2.2.2.2.1 (a01 s.2.2.2.1) y7,s.2.2.2.2.2.2.1,()))) none) none) none) none) (some (.inr (s.1,s.2.1,s.2.2.2.2.1,s.2.2.2.2.2.1,s.2.2.2.2.2.2.1,())))
def a2I(s:Z61):Option (Z61 ⊕ ((List Int)×Unit)):= cond (decide (s.2.1≤s.1)) ((a4c (s.2.2.1,s.2.2.2.1,s.2.1)).bind fun y5=> cond (lim ((a02 s.2.2.2.2.1)+1)) ((x0r a2H (s.1,s.2.1,y5,wrap .i64 ((s.2.2.1.length:Int)-1),s.2.2.1,s.2.2.2.1,a03 s.2.2.2.2.1 [y5],())).bind fun w8=> some (.inl (w8.1,wrap .i64 (w8.2.1+1),w8.2.2.1,w8.2.2.2.1,w8.2.2.2.2.1,()))) none) (some (.inr (s.2.2.2.2.1,())))
def a5E(x:((List Int)×Int)):Option ((List Int)×Int):= (show Option Z17 from cond (decide (x.2<1)) (some (x.1,x.2,true,())) (cond (decide (x.2 > 32)) (some (x.1,x.2,true,())) (some (x.1,x.2,decide ((x.1.length:Int) > 4096),())))).bind fun z1=> cond z1.2.2.1 (some ([],1)) ((a2i z1.1).bind fun y2=> cond (!y2) (some ([],6)) ((a6C z1.1).bind fun y3=> (a0Z y3).bind fun y4=> cond ((decide (0≤z1.2.1))&&(lim (a01 z1.2.1))) ((x0r a2I (z1.2.1,1,y3,y4,[],())).bind fun w9=> some (w9.1,0)) none))
def b1B:FSem:=⟨[.v QL,.v QI],[.o QI,.v QI],a5E⟩
def c8Q:Hints:=⟨[(1018,[.sv 1 QI,.sv 9 QI,.own 6 6 QI,.own 7 7 QI,.own 8 8 QI],[(.exit 0,[.own 8 8 QI])]),(260686,[.sv 1 QI,.sv 9 QI,.sv 10 QI,.sv 11 QI,.own 6 6 QI,.own 7 7 QI,.own 8 8 QI],[(.exit 2,[.sv 1 QI,.sv 9 QI,.own 6 6 QI,.own 7 7 QI,.own 8 8 QI])])],[(6,[(.normal,[.sv 0 QL,.sv 1 QI,.sv 24 .bool])])],[(16,[.q,.v,.q,.q,.q,.v,.v,.q,.q,.v,.x])]⟩
def a1N(s:Z38):Option (Z38 ⊕ (((List Int)×Unit) ⊕ Z5)):= cond (decide (s.2.2.2.1<s.2.2.1)) ((l0z s.2.1 s.2.2.2.1).bind fun x2=> (show Option ((List Int)×Z31)from cond (decide (x2<(-16383))) (some (s.1,s.2.1,s.2.2.1,s.2.2.2.1,true,())) (some (s.1,s.2.1,s.2.2.1,s.2.2.2.1,decide (x2 > 16383),()))).bind fun z3=> cond z3.2.2.2.2.1 (some (.inr (Sum.inr (([],1,()))))) (some (.inl (z3.1,z3.2.1,z3.2.2.1,wrap .i64 (z3.2.2.2.1+1),())))) (some (.inr (Sum.inl (s.1,()))))
def a3p(s:((List Int)×(Int×(Int×((List Int)×Z64))))):Option (((List Int)×(Int×(Int×((List Int)×Z64)))) ⊕ Z52):= cond (decide (s.2.2.2.2.2.2.2.2.1<s.2.2.2.2.2.2.2.1)) ((l0z s.2.2.2.2.2.2.1 s.2.2.2.2.2.2.2.2.1).bind fun x8=> (l0z s.1 (wrap .i64 ((wrap .i64 (s.2.1-1))-s.2.2.2.2.2.2.2.2.1))).bind fun x9=> cond (lim ((a02 s.2.2.2.2.2.2.2.2.2.1)+1)) (some (.inl (s.1,s.2.1,s.2.2.1,s.2.2.2.1,s.2.2.2.2.1,s.2.2.2.2.2.1,s.2.2.2.2.2.2.1,s.2.2.2.2.2.2.2.1,wrap .i64 (s.2.2.2.2.2.2.2.2.1+1),a03 s.2.2.2.2.2.2.2.2.2.1 [wrap .i64 (x8-(z0h .i64 (wrap .i64 (s.2.2.1*x9)) 14))],()))) none) (some (.inr (s.2.2.1,s.2.2.2.1,s.2.2.2.2.1,s.2.2.2.2.2.1,s.2.2.2.2.2.2.2.2.2.1,())))
def a4S(s:Z38):Option (Z38 ⊕ ((List Int)×Unit)):= cond (decide (s.2.2.2.1<s.2.2.1)) ((l0z s.2.1 s.2.2.2.1).bind fun x7=> cond ((decide (0≤(wrap .i64 (s.2.2.2.1+1))))&&(lim (a01 (wrap .i64 (s.2.2.2.1+1))))) ((x0r a3p (s.1,s.2.2.2.1,x7,s.2.1,s.2.2.1,s.2.2.2.1,s.1,(s.1.length:Int),0,[],())).bind fun w10=> cond (lim ((a02 w10.2.2.2.2.1)+1)) (some (.inl (a03 w10.2.2.2.2.1 [w10.1],w10.2.1,w10.2.2.1,wrap .i64 (w10.2.2.2.1+1),()))) none) none) (some (.inr (s.1,())))
def a7a(x:(List Int)):Option ((List Int)×Int):= (show Option ((List Int)×(Bool×Unit))from cond (decide ((x.length:Int)<1)) (some (x,true,())) (some (x,decide ((x.length:Int) > 32),()))).bind fun z1=> cond z1.2.1 (some ([],1)) ((x0r a1N (z1.1,z1.1,(z1.1.length:Int),0,())).bind fun w4=> match w4 with |.inl a5=>((x0r a4S ([],a5.1,(a5.1.length:Int),0,())).bind fun w11=> some (w11.1,0)) |.inr b6=>some (b6.1,b6.2.1))
def b2Z:FSem:=⟨[.v QL],[.v QL,.v QI],a7a⟩
def c8R:Hints:=⟨[(58,[.sv 0 QL,.sv 20 QL,.sv 21 QI,.sv 22 QI],[(.exit 0,[.sv 0 QL]),(.ret,[.sv 2 QL,.sv 3 QI])]),(250,[.sv 6 QL,.sv 34 QL,.sv 35 QI,.sv 36 QI],[(.exit 2,[.sv 6 QL])]),(256410,[.sv 6 QL,.sv 7 QI,.sv 8 QI,.sv 34 QL,.sv 35 QI,.sv 36 QI,.sv 44 QL,.sv 45 QI,.sv 46 QI,.own 9 9 QI],[(.exit 4,[.sv 8 QI,.sv 34 QL,.sv 35 QI,.sv 36 QI,.own 9 9 QI])])],[(6,[(.normal,[.sv 0 QL,.sv 19 .bool])]),(3737,[(.normal,[.sv 0 QL,.sv 20 QL,.sv 21 QI,.sv 22 QI,.sv 31 .bool])])],[]⟩
def a1O(s:Z53):Option (Z53 ⊕ (Z5 ⊕ Z15)):= cond (decide (s.2.2.2.2.1<s.2.2.2.1)) ((l0z s.2.2.1 s.2.2.2.2.1).bind fun x2=> (show Option ((List Int)×(Int×Z31))from cond (decide (x2<(-35184372088832))) (some (s.1,s.2.1,s.2.2.1,s.2.2.2.1,s.2.2.2.2.1,true,())) (some (s.1,s.2.1,s.2.2.1,s.2.2.2.1,s.2.2.2.2.1,decide (x2 > 35184372088832),()))).bind fun z3=> cond z3.2.2.2.2.2.1 (some (.inr (Sum.inr ((0,1,[],()))))) (some (.inl (z3.1,z3.2.1,z3.2.2.1,z3.2.2.2.1,wrap .i64 (z3.2.2.2.2.1+1),())))) (some (.inr (Sum.inl (s.1,s.2.1,()))))
def a1P(s:((List Int)×(Int×Z64))):Option (((List Int)×(Int×Z64)) ⊕ Z37):= cond (decide (s.2.2.2.2.2.2.1<s.2.2.2.2.2.1)) ((l0z s.2.2.2.2.1 s.2.2.2.2.2.2.1).bind fun x8=> cond (decide (s.2.2.1<0)) none ((a3i (z0h .i64 (wrap .i64 (x8+s.2.2.2.1)) s.2.2.1,s.2.1)).bind fun y9=> cond (!y9) (some (.inr (s.1,s.2.1,s.2.2.1,s.2.2.2.2.2.2.2.1,()))) (cond (lim ((a02 s.2.2.2.2.2.2.2.1)+1)) (some (.inl (s.1,s.2.1,s.2.2.1,s.2.2.2.1,s.2.2.2.2.1,s.2.2.2.2.2.1,wrap .i64 (s.2.2.2.2.2.2.1+1),a03 s.2.2.2.2.2.2.2.1 [z0h .i64 (wrap .i64 (x8+s.2.2.2.1)) s.2.2.1],()))) none))) (some (.inr (s.1,s.2.1,s.2.2.1,s.2.2.2.2.2.2.2.1,())))
def a1Q(s:Z13):Option (Z13 ⊕ (Unit ⊕ Z15)):= cond (decide (s.2.2.1≤14)) ((show Option Z29 from cond (decide (s.2.2.1 > 0)) (cond (decide ((wrap .i64 (s.2.2.1-1))<0)) none (some (s.1,s.2.1,s.2.2.1,z0g .i64 1 (wrap .i64 (s.2.2.1-1)),()))) (some (s.1,s.2.1,s.2.2.1,0,()))).bind fun z7=> cond ((decide (0≤(z7.1.length:Int)))&&(lim (a01 (z7.1.length:Int)))) ((x0r a1P (z7.1,z7.2.1,z7.2.2.1,z7.2.2.2.1,z7.1,(z7.1.length:Int),0,[],())).bind fun w10=> cond ((w10.2.2.2.1.length:Int)==(w10.1.length:Int)) (some (.inr (Sum.inr ((wrap .i64 (14-w10.2.2.1),0,w10.2.2.2.1,()))))) (some (.inl (w10.1,w10.2.1,wrap .i64 (w10.2.2.1+1),())))) none) (some (.inr (Sum.inl ())))
def a7b(x:((List Int)×Int)):Option Z2:= (show Option Z17 from cond (decide ((x.1.length:Int)<1)) (some (x.1,x.2,true,())) (cond (decide ((x.1.length:Int) > 32)) (some (x.1,x.2,true,())) (cond (decide (x.2<2)) (some (x.1,x.2,true,())) (some (x.1,x.2,decide (x.2 > 16),()))))).bind fun z1=> cond z1.2.2.1 (some ([],0,1)) ((x0r a1O (z1.1,z1.2.1,z1.1,(z1.1.length:Int),0,())).bind fun w4=> match w4 with |.inl a5=>((x0r a1Q (a5.1,a5.2.1,0,())).bind fun w11=> match w11 with |.inl a12=>some ([],0,6) |.inr b13=>some (b13.2.2.1,b13.1,b13.2.1)) |.inr b6=>some (b6.2.2.1,b6.1,b6.2.1))
def b3a:FSem:=⟨[.v QL,.v QI],[.o QI,.v QI,.v QI],a7b⟩
def c8S:Hints:=⟨[(58,[.sv 0 QL,.sv 1 QI,.sv 31 QL,.sv 32 QI,.sv 33 QI],[(.exit 0,[.sv 0 QL,.sv 1 QI]),(.ret,[.sv 5 QI,.sv 6 QI,.own 4 4 QI])]),(122,[.sv 0 QL,.sv 1 QI,.sv 9 QI],[(.exit 2,[]),(.ret,[.sv 5 QI,.sv 6 QI,.own 4 11 QI])]),(125242,[.sv 0 QL,.sv 1 QI,.sv 9 QI,.sv 10 QI,.sv 56 QL,.sv 57 QI,.sv 58 QI,.own 11 11 QI],[(.exit 4,[.sv 0 QL,.sv 1 QI,.sv 9 QI,.own 11 11 QI])])],[(6,[(.normal,[.sv 0 QL,.sv 1 QI,.sv 30 .bool])]),(3737,[(.normal,[.sv 0 QL,.sv 1 QI,.sv 31 QL,.sv 32 QI,.sv 33 QI,.sv 42 .bool])]),(3913,[(.normal,[.sv 0 QL,.sv 1 QI,.sv 9 QI,.sv 10 QI])])],[]⟩
def a3j(x:Z2):Option Z2:= (a5E (x.1,x.2.1)).bind fun y1=> cond (y1.2 != 0) (some ([],0,y1.2)) ((a7a y1.1).bind fun y2=> cond (y2.2 != 0) (some ([],0,y2.2)) ((a7b (y2.1,x.2.2)).bind fun y3=> some (y3.1,y3.2.1,y3.2.2)))
def b0P:FSem:=⟨[.v QL,.v QI,.v QI],[.o QI,.v QI,.v QI],a3j⟩
def c8T:Hints:=⟨[],[],[]⟩
def a6p(x:Int):Option Bool:= cond (decide (x≥(-1073741824))) (some (decide (x<1073741824))) (some false)
def a9w:FSem:=⟨[.v QI],[.v .bool],a6p⟩
def c8U:Hints:=⟨[],[],[]⟩
def a3q(s:Z13):Option Z60:= cond (decide (s.2.2.1<s.2.1)) ((l0z s.1 s.2.2.1).bind fun x1=> (a6p x1).bind fun y2=> cond (!y2) (some (.inr (Sum.inr ((false,()))))) (some (.inl (s.1,s.2.1,wrap .i64 (s.2.2.1+1),())))) (some (.inr (Sum.inl ())))
def a3J(x:(List Int)):Option Bool:= (x0r a3q (x,(x.length:Int),0,())).bind fun w3=> match w3 with |.inl a4=>some true |.inr b5=>some b5.1
def a7c:FSem:=⟨[.v QL],[.v .bool],a3J⟩
def c8V:Hints:=⟨[(26,[.sv 5 QL,.sv 6 QI,.sv 7 QI],[(.exit 0,[]),(.ret,[.sv 2 .bool])])],[],[]⟩
def b7K(s:((List Int)×(Int×Int×Z32))):Option (((List Int)×(Int×Int×Z32)) ⊕ ((List Int)×(Int×Z32))):= cond (decide (s.2.2.2.2.2.2.2.1<(s.1.length:Int))) ((l0z s.1 s.2.2.2.2.2.2.2.1).bind fun x3=> (l0z s.1 (wrap .i64 (s.2.2.2.2.2.2.2.1-s.2.2.2.2.2.1))).bind fun x4=> some (.inl (s.1,s.2.1,s.2.2.1,s.2.2.2.1,s.2.2.2.2.1,s.2.2.2.2.2.1,wrap .i64 (s.2.2.2.2.2.2.1+(u0z (wrap .i64 (x3-x4)) (wrap .i64 (0-(wrap .i64 (x3-x4)))))),wrap .i64 (s.2.2.2.2.2.2.2.1+1),()))) (some (.inr (s.1,s.2.1,s.2.2.1,s.2.2.2.1,s.2.2.2.2.1,s.2.2.2.2.2.1,s.2.2.2.2.2.2.1,())))
def b7L(s:((List Int)×Z32)):Option (((List Int)×Z32) ⊕ (Int×Unit)):= cond (decide (s.2.2.2.2.2.1≤s.2.2.1)) ((x0r b7K (s.1,s.2.1,s.2.2.1,s.2.2.2.1,s.2.2.2.2.1,s.2.2.2.2.2.1,0,s.2.2.1,())).bind fun w5=> (show Option ((List Int)×(Int×Int×Int×Z21))from cond (w5.2.2.2.2.2.1==w5.2.1) (some (w5.1,w5.2.1,w5.2.2.1,w5.2.2.2.1,w5.2.2.2.2.1,w5.2.2.2.2.2.1,w5.2.2.2.2.2.2.1,true,())) (some (w5.1,w5.2.1,w5.2.2.1,w5.2.2.2.1,w5.2.2.2.2.1,w5.2.2.2.2.2.1,w5.2.2.2.2.2.2.1,decide (w5.2.2.2.2.2.2.1<w5.2.2.2.2.1),()))).bind fun z6=> cond z6.2.2.2.2.2.2.2.1 (some (.inl (z6.1,z6.2.1,z6.2.2.1,z6.2.2.2.2.2.1,z6.2.2.2.2.2.2.1,wrap .i64 (z6.2.2.2.2.2.1+1),()))) (some (.inl (z6.1,z6.2.1,z6.2.2.1,z6.2.2.2.1,z6.2.2.2.2.1,wrap .i64 (z6.2.2.2.2.2.1+1),())))) (some (.inr (s.2.2.2.1,())))
def a9x(x:Z2):Option (Int×Int):= (show Option Z31 from cond (decide (x.2.1<2)) (some (x.1,x.2.1,x.2.2,true,())) (cond (decide (x.2.1 > x.2.2)) (some (x.1,x.2.1,x.2.2,true,())) (cond (decide (x.2.2 > 1024)) (some (x.1,x.2.1,x.2.2,true,())) (some (x.1,x.2.1,x.2.2,decide ((x.1.length:Int) > 4096),()))))).bind fun z1=> cond z1.2.2.2.1 (some (0,1)) (cond (decide ((z1.1.length:Int)≤z1.2.2.1)) (some (0,7)) ((a3J z1.1).bind fun y2=> cond (!y2) (some (0,6)) ((x0r b7L (z1.1,z1.2.1,z1.2.2.1,0,0,z1.2.1,())).bind fun w7=> some (w7.1,0))))
def b5t:FSem:=⟨[.v QL,.v QI,.v QI],[.v QI,.v QI],a9x⟩
def c8W:Hints:=⟨[(506,[.sv 0 QL,.sv 1 QI,.sv 2 QI,.sv 8 QI,.sv 9 QI,.sv 10 QI],[(.exit 0,[.sv 8 QI])]),(129610,[.sv 0 QL,.sv 1 QI,.sv 2 QI,.sv 8 QI,.sv 9 QI,.sv 10 QI,.sv 11 QI,.sv 12 QI],[(.exit 2,[.sv 0 QL,.sv 1 QI,.sv 2 QI,.sv 8 QI,.sv 9 QI,.sv 10 QI,.sv 11 QI])])],[(6,[(.normal,[.sv 0 QL,.sv 1 QI,.sv 2 QI,.sv 29 .bool])]),(32403,[(.normal,[.sv 0 QL,.sv 1 QI,.sv 2 QI,.sv 8 QI,.sv 9 QI,.sv 10 QI,.sv 11 QI,.sv 74 .bool])])],[(15,[.v,.v,.v,.v,.v,.v,.v,.v,.v,.v,.x,.x])]⟩
def a5V(s:Z5):Option (Z5 ⊕ Z0):= cond (decide (s.2.1<3)) ((l0z s.1 s.2.1).bind fun x2=> (show Option Z17 from cond (decide (x2<(-64))) (some (s.1,s.2.1,true,())) (some (s.1,s.2.1,decide (x2 > 64),()))).bind fun z3=> cond z3.2.2.1 (some (.inr (Sum.inr ((false,()))))) (some (.inl (z3.1,wrap .i64 (z3.2.1+1),())))) (some (.inr (Sum.inl ())))
def a7d(x:(Int×(List Int))):Option Bool:= (show Option (Bool×((List Int)×Unit))from cond (decide (x.1<2)) (some (true,x.2,())) (some (decide (x.1 > 1024),x.2,()))).bind fun z1=> cond z1.1 (some false) ((x0r a5V (z1.2.1,0,())).bind fun w4=> match w4 with |.inl a5=>some true |.inr b6=>some b6.1)
def b1a:FSem:=⟨[.v QI,.v (.arr 3 QI)],[.v .bool],a7d⟩
def c8X:Hints:=⟨[(58,[.sv 13 (.arr 3 QI),.sv 14 QI],[(.exit 0,[]),(.ret,[.sv 4 .bool])])],[(6,[(.normal,[.sv 12 .bool,.vp 3 (.arr 3 QI)])]),(3737,[(.normal,[.sv 13 (.arr 3 QI),.sv 14 QI,.sv 22 .bool])])],[]⟩
def a3r(s:((List Int)×(Int×Int×Z16))):Option (((List Int)×(Int×Int×Z16)) ⊕ (Int×Unit)):= cond (decide (s.2.2.2.2.2.1<3)) ((l0z s.2.2.2.2.1 s.2.2.2.2.2.1).bind fun x1=> cond (decide ((wrap .i64 ((wrap .i64 ((wrap .i64 (s.2.1-s.2.2.1))-1))+s.2.2.2.2.2.1))≥0)) ((l0z s.1 (wrap .i64 ((wrap .i64 ((wrap .i64 (s.2.1-s.2.2.1))-1))+s.2.2.2.2.2.1))).bind fun x2=> some (.inl (s.1,s.2.1,s.2.2.1,wrap .i64 (s.2.2.2.1+(wrap .i64 (x1*x2))),s.2.2.2.2.1,wrap .i64 (s.2.2.2.2.2.1+1),()))) (some (.inl (s.1,s.2.1,s.2.2.1,s.2.2.2.1,s.2.2.2.2.1,wrap .i64 (s.2.2.2.2.2.1+1),())))) (some (.inr (s.2.2.2.1,())))
def a3K(x:((List Int)×Z3)):Option Int:= (x0r a3r (x.1,x.2.1,x.2.2.1,0,x.2.2.2,0,())).bind fun w3=> some (z0h .i64 w3.1 6)
def a9e:FSem:=⟨[.v QL,.v QI,.v QI,.v (.arr 3 QI)],[.v QI],a3K⟩
def c8Y:Hints:=⟨[(58,[.sv 0 QL,.sv 1 QI,.sv 2 QI,.sv 9 QI,.sv 13 (.arr 3 QI),.sv 14 QI],[(.exit 0,[.sv 9 QI])])],[],[]⟩
def a5d(s:((List Int)×Z73)):Option (((List Int)×Z73) ⊕ Z42):= cond (decide (s.2.2.2.2.1<s.2.2.2.1)) ((l0z s.2.2.1 s.2.2.2.2.1).bind fun x3=> (a3K (s.1,s.2.2.2.2.1,s.2.1,s.2.2.2.2.2.2.1)).bind fun y4=> (a6p (wrap .i64 (x3-y4))).bind fun y5=> cond (!y5) (some (.inr (Sum.inr ((6,[],()))))) (cond (lim ((a02 s.2.2.2.2.2.1)+1)) (some (.inl (s.1,s.2.1,s.2.2.1,s.2.2.2.1,wrap .i64 (s.2.2.2.2.1+1),a03 s.2.2.2.2.2.1 [wrap .i64 (x3-y4)],s.2.2.2.2.2.2.1,()))) none)) (some (.inr (Sum.inl (s.2.2.2.2.2.1,()))))
def a7C(x:((List Int)×(Int×(List Int)))):Option ((List Int)×Int):= (a7d (x.2.1,x.2.2)).bind fun y1=> cond (!y1) (some ([],1)) ((a3J x.1).bind fun y2=> cond (!y2) (some ([],6)) (cond ((decide (0≤(x.1.length:Int)))&&(lim (a01 (x.1.length:Int)))) ((x0r a5d (x.1,x.2.1,x.1,(x.1.length:Int),0,[],x.2.2,())).bind fun w6=> match w6 with |.inl a7=>some (a7.1,0) |.inr b8=>some (b8.2.1,b8.1)) none))
def a7D:FSem:=⟨[.v QL,.v QI,.v (.arr 3 QI)],[.o QI,.v QI],a7C⟩
def c8Z:Hints:=⟨[(250,[.sv 0 QL,.sv 1 QI,.sv 22 QL,.sv 23 QI,.sv 24 QI,.own 8 8 QI,.vp 5 (.arr 3 QI)],[(.exit 0,[.own 8 8 QI]),(.ret,[.sv 7 QI,.own 6 6 QI])])],[],[]⟩
def c5U:Hints:=⟨[],[],[]⟩
def b9o(x:Unit):Option (List (List Int)):=z0c (a7t [] [] [0] []) c5U Tryz.f305 [] [.o (.arr 3 (.int .i64))] x
def b1C:FSem:=⟨[],[.o (.arr 3 QI)],b9o⟩
def c5V:Hints:=⟨[(122,[.sv 0 QL,.sv 1 QI,.sv 7 QI,.sv 8 .bool,.sv 25 QI,.sv 26 QI,.own 24 1024 (.arr 3 QI),.box 4 (.arr 3 QI),.box 6 (.arr 3 QI),.ptr 4 4 [],.ptr 6 6 []],[(.exit 0,[.sv 8 .bool,.box 4 (.arr 3 QI),.box 6 (.arr 3 QI),.ptr 4 4 [],.ptr 6 6 []])]),(501370,[.sv 0 QL,.sv 1 QI,.sv 7 QI,.sv 8 .bool,.sv 13 QI,.sv 25 QI,.sv 26 QI,.sv 40 QI,.sv 41 QI,.own 24 1024 (.arr 3 QI),.own 39 11 QI,.box 4 (.arr 3 QI),.box 6 (.arr 3 QI),.box 10 (.arr 3 QI),.ptr 4 4 [],.ptr 6 6 [],.ptr 10 10 []],[(.exit 2,[.sv 0 QL,.sv 1 QI,.sv 7 QI,.sv 8 .bool,.sv 13 QI,.sv 25 QI,.sv 26 QI,.own 24 1024 (.arr 3 QI),.box 4 (.arr 3 QI),.box 6 (.arr 3 QI),.box 10 (.arr 3 QI),.ptr 4 4 [],.ptr 6 6 [],.ptr 10 10 []])])],[(6,[(.normal,[.sv 0 QL,.sv 1 QI,.sv 21 .bool,.box 4 (.arr 3 QI),.ptr 4 4 []])]),(125343,[(.normal,[.sv 0 QL,.sv 1 QI,.sv 7 QI,.sv 8 .bool,.sv 13 QI,.sv 25 QI,.sv 26 QI,.sv 58 .bool,.own 24 1024 (.arr 3 QI),.box 4 (.arr 3 QI),.box 6 (.arr 3 QI),.box 10 (.arr 3 QI),.ptr 4 4 [],.ptr 6 6 [],.ptr 10 10 []])])],[]⟩
def b5u(x:((List Int)×Int)):Option ((List Int)×Int):=z0c (a7t [(250,a7D),(305,b1C)] [] [0,1,5,7,8,11,12,13,15] []) c5V Tryz.f249 [.v (.list false (.int .i64)),.v (.int .i64)] [.v (.arr 3 (.int .i64)),.v (.int .i64)] x
def b5v:FSem:=⟨[.v QL,.v QI],[.v (.arr 3 QI),.v QI],b5u⟩
def a3a(x:(List Int)):Option (Z92×Bool):= (a9x (x,16,256)).bind fun y1=> cond (y1.2 != 0) (some ((0,0,0,0,0,[],a00 3 0,[],[],(0,[],()),[],()),false)) ((b5u (x,y1.1)).bind fun y2=> cond (y2.2 != 0) (some ((0,0,0,0,0,[],a00 3 0,[],[],(0,[],()),[],()),false)) ((a7C (x,y1.1,y2.1)).bind fun y3=> cond (y3.2 != 0) (some ((0,0,0,0,0,[],a00 3 0,[],[],(0,[],()),[],()),false)) ((a3j (y3.1,4,12)).bind fun y4=> cond (y4.2.2 != 0) (some ((0,0,0,0,0,[],a00 3 0,[],[],(0,[],()),[],()),false)) (some ((4,0,0,y4.2.1,y1.1,y4.1,y2.1,[],[],(0,[],()),[],()),true)))))
def b4L:FSem:=⟨[.v QL],[.v Q31,.v .bool],a3a⟩
def c9a:Hints:=⟨[],[],[]⟩
def a0N(x:(Int×(Int×((List Int)×Z93)))):Option ((List Int)×Z93):= (a3j (x.2.2.1,x.1,x.2.1)).bind fun y1=> cond (y1.2.2==0) (cond (lim ((a02 x.2.2.2)+1)) (some (x.2.2.1,a03 x.2.2.2 ([(3,0,0,y1.2.1,0,y1.1,a00 3 0,[],[],(0,[],()),[],())]:List Z92))) none) (some (x.2.2.1,x.2.2.2))
def a9Y:FSem:=⟨[.v QI,.v QI,.r false (.b QL),.r false (.b (.list true Q31))],[],a0N⟩
def c9b:Hints:=⟨[],[],[]⟩
def a1Z(s:(Int×Z99)):Option ((Int×Z99) ⊕ Z99):= cond (decide (s.1<5)) (cond (lim ((a02 s.2.1)+1)) (some (.inl (wrap .i64 (s.1+1),a03 s.2.1 ([(2,0,s.1,0,0,[],a00 3 0,[],[],(0,[],()),[],())]:List Z92),s.2.2.1,()))) none) (some (.inr (s.2.1,s.2.2.1,())))
def a5F(x:((List Int)×Int)):Option Z93:= (a5c x.1).bind fun y1=> (show Option (Int×((List Int)×Z96))from cond (decide (x.2≥1)) ((a0N (4,12,x.1,([(0,0,0,0,0,[],a00 3 0,[],[],(0,[],()),[],()),(1,0,0,0,0,[],a00 3 0,[],[],(0,[],()),[],()),(2,0,y1,0,0,[],a00 3 0,[],[],(0,[],()),[],())]:List Z92))).bind fun y2=> (a0N (8,12,y2.1,y2.2)).bind fun y3=> some (x.2,y3.1,y3.2,())) (some (x.2,x.1,([(0,0,0,0,0,[],a00 3 0,[],[],(0,[],()),[],()),(1,0,0,0,0,[],a00 3 0,[],[],(0,[],()),[],()),(2,0,y1,0,0,[],a00 3 0,[],[],(0,[],()),[],())]:List Z92),()))).bind fun z4=> (show Option (Int×Z99)from cond (decide (z4.1≥2)) (cond (lim ((a02 z4.2.2.1)+1)) (cond (lim ((a02 (a03 z4.2.2.1 ([(5,0,0,0,0,[],a00 3 0,([(16,4,())]:List (Int×Int×Unit)),[],(0,[],()),[],())]:List Z92)))+1)) ((a3a z4.2.1).bind fun y5=> cond y5.2 (cond (lim ((a02 (a03 (a03 z4.2.2.1 ([(5,0,0,0,0,[],a00 3 0,([(16,4,())]:List (Int×Int×Unit)),[],(0,[],()),[],())]:List Z92)) ([(5,0,0,0,0,[],a00 3 0,([(32,3,()),(16,5,())]:List (Int×Int×Unit)),[],(0,[],()),[],())]:List Z92)))+1)) (some (z4.1,a03 (a03 (a03 z4.2.2.1 ([(5,0,0,0,0,[],a00 3 0,([(16,4,())]:List (Int×Int×Unit)),[],(0,[],()),[],())]:List Z92)) ([(5,0,0,0,0,[],a00 3 0,([(32,3,()),(16,5,())]:List (Int×Int×Unit)),[],(0,[],()),[],())]:List Z92)) ([y5.1]:List Z92),z4.2.1,())) none) (some (z4.1,a03 (a03 z4.2.2.1 ([(5,0,0,0,0,[],a00 3 0,([(16,4,())]:List (Int×Int×Unit)),[],(0,[],()),[],())]:List Z92)) ([(5,0,0,0,0,[],a00 3 0,([(32,3,()),(16,5,())]:List (Int×Int×Unit)),[],(0,[],()),[],())]:List Z92),z4.2.1,()))) none) none) (some (z4.1,z4.2.2.1,z4.2.1,()))).bind fun z6=> (show Option Z96 from cond (decide (z6.1≥3)) ((x0r a1Z (0,z6.2.1,z6.2.2.1,())).bind fun w7=> (a0N (1,12,w7.2.1,w7.1)).bind fun y8=> (a0N (2,12,y8.1,y8.2)).bind fun y9=> (a0N (12,14,y9.1,y9.2)).bind fun y10=> (a0N (16,14,y10.1,y10.2)).bind fun y11=> some (y11.2,())) (some (z6.2.1,()))).bind fun z12=> some z12.1
def b1D:FSem:=⟨[.v QL,.v QI],[.v (.list false Q31)],a5F⟩
def c9c:Hints:=⟨[(4050,[.sv 50 QI,.box 5 (.list true Q31),.box 2 QL,.ptr 5 5 [],.clo 6 193 [2,5]],[(.exit 0,[.box 5 (.list true Q31),.box 2 QL,.ptr 5 5 [],.clo 6 193 [2,5]])])],[(15,[(.normal,[.sv 1 QI,.box 2 QL,.box 5 (.list true Q31),.ptr 2 2 [],.ptr 5 5 [],.clo 6 193 [2,5]])]),(31,[(.normal,[.sv 1 QI,.box 5 (.list true Q31),.box 2 QL,.ptr 5 5 [],.clo 6 193 [2,5]])]),(63,[(.normal,[.box 5 (.list true Q31),.ptr 5 5 []])])],[]⟩
def a4v(s:Z13):Option Z60:= cond (decide (s.2.2.1<s.2.1)) ((l0z s.1 s.2.2.1).bind fun x2=> (show Option Z31 from cond (decide (x2<(-32768))) (some (s.1,s.2.1,s.2.2.1,true,())) (some (s.1,s.2.1,s.2.2.1,decide (x2≥32768),()))).bind fun z3=> cond z3.2.2.2.1 (some (.inr (Sum.inr ((false,()))))) (some (.inl (z3.1,z3.2.1,wrap .i64 (z3.2.2.1+1),())))) (some (.inr (Sum.inl ())))
def a3Q(x:((List Int)×Int)):Option Bool:= (show Option ((List Int)×(Bool×Unit))from cond (decide ((x.1.length:Int)<1)) (some (x.1,true,())) (cond (decide ((x.1.length:Int) > 32)) (some (x.1,true,())) (cond (decide (x.2<0)) (some (x.1,true,())) (some (x.1,decide (x.2 > 15),()))))).bind fun z1=> cond z1.2.1 (some false) ((x0r a4v (z1.1,(z1.1.length:Int),0,())).bind fun w4=> match w4 with |.inl a5=>some true |.inr b6=>some b6.1)
def a8q:FSem:=⟨[.v QL,.v QI],[.v .bool],a3Q⟩
def c9d:Hints:=⟨[(58,[.sv 23 QL,.sv 24 QI,.sv 25 QI],[(.exit 0,[]),(.ret,[.sv 4 .bool])])],[(6,[(.normal,[.sv 0 QL,.sv 22 .bool])]),(3737,[(.normal,[.sv 23 QL,.sv 24 QI,.sv 25 QI,.sv 34 .bool])])],[]⟩
def a5W(x:(Int×Int×Unit)):Option Bool:= cond (decide (x.1≥1)) (cond (decide (x.1≤32)) (cond (decide (x.2.1≥0)) (some (decide (x.2.1≤8))) (some false)) (some false)) (some false)
def b0Q:FSem:=⟨[.v Q3],[.v .bool],a5W⟩
def c9e:Hints:=⟨[],[],[]⟩
def a5e(s:(Z6×Int×Int×Unit)):Option ((Z6×Int×Int×Unit) ⊕ Z0):= cond (decide (s.2.2.1<s.2.1)) ((l0z s.1 s.2.2.1).bind fun x1=> (a5W x1).bind fun y2=> cond (!y2) (some (.inr (Sum.inr ((false,()))))) (some (.inl (s.1,s.2.1,wrap .i64 (s.2.2.1+1),())))) (some (.inr (Sum.inl ())))
def a6q(x:Z6):Option Bool:= cond (decide ((x.length:Int) > 3)) (some false) ((x0r a5e (x,(x.length:Int),0,())).bind fun w3=> match w3 with |.inl a4=>some true |.inr b5=>some b5.1)
def a9y:FSem:=⟨[.v (.list false Q3)],[.v .bool],a6q⟩
def c9f:Hints:=⟨[(58,[.sv 8 (.list false Q3),.sv 9 QI,.sv 10 QI],[(.exit 0,[]),(.ret,[.sv 2 .bool])])],[],[]⟩
def a6L(x:(Int×Z94)):Option Bool:= (show Option (Int×Z98)from cond (x.1==0) (some (x.2.2,x.1,x.1==0,x.2.1,())) (some (x.2.2,x.1,x.1==1,x.2.1,()))).bind fun z1=> cond z1.2.2.1 (some true) (cond (z1.2.1==2) (cond (decide (z1.2.2.2.1.2.2.1≥0)) (cond (decide (z1.2.2.2.1.2.2.1≤4)) (some (decide (z1.2.2.2.1.2.2.1≤z1.1))) (some false)) (some false)) (cond (z1.2.1==3) ((a3Q (z1.2.2.2.1.2.2.2.2.2.1,z1.2.2.2.1.2.2.2.1)).bind fun y2=> cond y2 (some (decide ((z1.2.2.2.1.2.2.2.2.2.1.length:Int)≤z1.1))) (some false)) (cond (z1.2.1==4) ((a3Q (z1.2.2.2.1.2.2.2.2.2.1,z1.2.2.2.1.2.2.2.1)).bind fun y3=> cond y3 (cond (decide ((z1.2.2.2.1.2.2.2.2.2.1.length:Int)≤z1.1)) ((a7d (z1.2.2.2.1.2.2.2.2.1,z1.2.2.2.1.2.2.2.2.2.2.1)).bind fun y4=> some y4) (some false)) (some false)) (cond (z1.2.1==5) (cond (decide ((z1.2.2.2.1.2.2.2.2.2.2.2.1.length:Int) > 0)) ((a6q z1.2.2.2.1.2.2.2.2.2.2.2.1).bind fun y5=> some y5) (some false)) (some false)))))
def b2h:FSem:=⟨[.v QI,.v Q31,.v QI],[.v .bool],a6L⟩
def c9g:Hints:=⟨[],[(26,[(.normal,[.sv 2 QI,.sv 7 QI,.sv 8 .bool,.vp 4 Q31])])],[]⟩
def a3k(x:(List Int)):Option (List Int):= w0g x
def a1y:FSem:=⟨[.v QL],[.v QL],a3k⟩
def c6I:Hints:=⟨[],[],[]⟩
def c2U:Cx:=a7t [] [] [0,2] []
theorem c5W(x):z0c c2U c6I Tryz.f183 a1y.ps a1y.rs x=a1y.F x:=Eq.trans (show _=v0w x by kernel_rfl) (z0q x)
def a1g(x:Z6):Option Z6:= w0g x
def a0Y:FSem:=⟨[.v (.list false Q3)],[.v (.list false Q3)],a1g⟩
def c6J:Hints:=⟨[],[],[]⟩
def c2V:Cx:=a7t [] [] [0,2] []
theorem c5X(x):z0c c2V c6J Tryz.f251 a0Y.ps a0Y.rs x=a0Y.F x:=Eq.trans (show _=v0w x by kernel_rfl) (z0q x)
def a5f(x:(Int×Z92)):Option Z92:= (show Option b0I from(show Option ((Z92×b0I) ⊕ (b0I ⊕ (Z92×b0I)))from cond (x.1==2) (some (Sum.inr (Sum.inl ((0,0,0,0,0,[],a00 3 0,[],[],(0,[],()),[],()),(x.1,0,x.2.2.2.1,0,0,[],a00 3 0,[],[],(0,[],()),[],()),())))) (cond (x.1==4) (some (Sum.inl ((0,0,0,0,0,[],a00 3 0,[],[],(0,[],()),[],()),(x.1,0,0,0,x.2.2.2.2.2.1,[],x.2.2.2.2.2.2.2.1,[],[],(0,[],()),[],()),x.2,()))) (cond (x.1==3) (some (Sum.inl ((0,0,0,0,0,[],a00 3 0,[],[],(0,[],()),[],()),(x.1,0,0,0,0,[],a00 3 0,[],[],(0,[],()),[],()),x.2,()))) (cond (x.1==5) (some (Sum.inr (Sum.inr (((0,0,0,0,0,[],a00 3 0,[],[],(0,[],()),[],()),(x.1,0,0,0,0,[],a00 3 0,[],[],(0,[],()),[],()),x.2,()))))) (some (Sum.inr (Sum.inl ((0,0,0,0,0,[],a00 3 0,[],[],(0,[],()),[],()),(x.1,0,0,0,0,[],a00 3 0,[],[],(0,[],()),[],()),())))))))).bind fun z1=> match z1 with |.inl a2=>((a3k a2.2.2.1.2.2.2.2.2.1).bind fun y4=> some (a2.1,(a2.2.1.1,a2.2.1.2.1,a2.2.1.2.2.1,a2.2.2.1.2.2.2.1,a2.2.1.2.2.2.2.1,y4,a2.2.1.2.2.2.2.2.2),())) |.inr b3=>(match b3 with |.inl a5=>some (a5.1,a5.2.1,()) |.inr b6=>((a1g b6.2.2.1.2.2.2.2.2.2.2.1).bind fun y7=> some (b6.1,(b6.2.1.1,b6.2.1.2.1,b6.2.1.2.2.1,b6.2.1.2.2.2.1,b6.2.1.2.2.2.2.1,b6.2.1.2.2.2.2.2.1,b6.2.1.2.2.2.2.2.2.1,y7,b6.2.1.2.2.2.2.2.2.2.2),())))).bind fun z8=> some z8.2.1
def b1E:FSem:=⟨[.v QI,.v Q31],[.v Q31],a5f⟩
def c9h:Hints:=⟨[],[(7,[(.normal,[.box 4 Q31,.box 5 Q31,.ptr 4 4 [],.ptr 5 5 []])]),(232,[(.normal,[.box 4 Q31,.box 5 Q31,.vp 3 Q31,.ptr 4 4 [],.ptr 5 5 []]),(.exit 0,[.box 4 Q31,.box 5 Q31,.ptr 4 4 [],.ptr 5 5 []]),(.exit 4,[.box 4 Q31,.box 5 Q31,.vp 3 Q31,.ptr 4 4 [],.ptr 5 5 []])])],[(8,[.v,.v,.v,.v,.q,.w [0,5],.x,.x]),(9,[.v,.v,.v,.v,.v,.q,.w [0,5],.x,.x])]⟩
def a3R(x:Z94):Option Int:= cond (x.1.1==0) (some 1) (cond (x.1.1==1) (some x.2) (cond (x.1.1==2) (some x.1.2.2.1) ((show Option Z97 from cond (x.1.1==3) (some (x.1.1==3,x.1,())) (some (x.1.1==4,x.1,()))).bind fun z1=> cond z1.1 (some (z1.2.1.2.2.2.2.2.1.length:Int)) (some 0))))
def a8r:FSem:=⟨[.v Q31,.v QI],[.v QI],a3R⟩
def c9i:Hints:=⟨[],[(1727,[(.normal,[.sv 16 .bool,.vp 2 Q31])])],[]⟩
def a2J(s:Z63):Option (Z63 ⊕ (Int×Int×Unit)):= cond (decide (s.2.2.2.2.2.1<s.2.2.2.2.1)) ((l0z s.2.2.2.1 s.2.2.2.2.2.1).bind fun x1=> cond (decide ((wrap .i64 ((wrap .i64 ((s.1.length:Int)-1))-s.2.2.2.2.2.1))<0)) (some (.inr (s.2.1,s.2.2.1,()))) ((l0z s.1 (wrap .i64 ((wrap .i64 ((s.1.length:Int)-1))-s.2.2.2.2.2.1))).bind fun x2=> some (.inl (s.1,s.2.1,wrap .i64 (s.2.2.1+(wrap .i64 (x1*x2))),s.2.2.2.1,s.2.2.2.2.1,wrap .i64 (s.2.2.2.2.2.1+1),())))) (some (.inr (s.2.1,s.2.2.1,())))
def a3S(x:Z9):Option Int:= (x0r a2J (x.1,x.2.2,0,x.2.1,(x.2.1.length:Int),0,())).bind fun w3=> cond (decide (w3.1<0)) none (some (z0h .i64 w3.2.1 w3.1))
def a8b:FSem:=⟨[.v QL,.v QL,.v QI],[.v QI],a3S⟩
def c9j:Hints:=⟨[(58,[.sv 0 QL,.sv 2 QI,.sv 7 QI,.sv 11 QL,.sv 12 QI,.sv 13 QI],[(.exit 0,[.sv 2 QI,.sv 7 QI])])],[],[]⟩
def a3T(s:((List Int)×Z37)):Option (((List Int)×Z37) ⊕ Z42):= cond (decide (s.2.2.2.1<(s.1.length:Int))) ((l0z s.1 s.2.2.2.1).bind fun x4=> cond ((decide (0≤s.2.2.2.1))&&(decide (s.2.2.2.1≤(s.1.length:Int)))) ((a3S (a08 (a01 s.2.2.2.1) s.1,s.2.1,s.2.2.1)).bind fun y5=> (a4m (wrap .i64 (x4-y5))).bind fun y6=> cond (!y6) (some (.inr (Sum.inr ((6,[],()))))) (cond (lim ((a02 s.2.2.2.2.1)+1)) (some (.inl (s.1,s.2.1,s.2.2.1,wrap .i64 (s.2.2.2.1+1),a03 s.2.2.2.2.1 [wrap .i64 (x4-y5)],()))) none)) none) (some (.inr (Sum.inl (s.2.2.2.2.1,()))))
def a5X(x:Z9):Option ((List Int)×Int):= (show Option Z44 from(a3Q (x.2.1,x.2.2)).bind fun y1=> cond (!y1) (some (x.1,x.2.1,x.2.2,true,())) (some (x.1,x.2.1,x.2.2,decide ((x.1.length:Int)<(x.2.1.length:Int)),()))).bind fun z2=> cond z2.2.2.2.1 (some ([],1)) ((a2i z2.1).bind fun y3=> cond (!y3) (some ([],6)) (cond ((decide (0≤(wrap .i64 ((z2.1.length:Int)-(z2.2.1.length:Int)))))&&(lim (a01 (wrap .i64 ((z2.1.length:Int)-(z2.2.1.length:Int)))))) ((x0r a3T (z2.1,z2.2.1,z2.2.2.1,(z2.2.1.length:Int),[],())).bind fun w7=> match w7 with |.inl a8=>some (a8.1,0) |.inr b9=>some (b9.2.1,b9.1)) none))
def b4q:FSem:=⟨[.v QL,.v QL,.v QI],[.o QI,.v QI],a5X⟩
def c9k:Hints:=⟨[(250,[.sv 0 QL,.sv 1 QL,.sv 2 QI,.sv 9 QI,.own 8 8 QI],[(.exit 0,[.own 8 8 QI]),(.ret,[.sv 7 QI,.own 6 6 QI])])],[(6,[(.normal,[.sv 0 QL,.sv 1 QL,.sv 2 QI,.sv 21 .bool])])],[(9,[.v,.v,.v,.v,.v,.v,.v,.v,.v,.v,.x,.x])]⟩
def a5g(x:Int):Option Bool:= cond (decide (x≥(-1073741824))) (some (decide (x<1073741824))) (some false)
def a8s:FSem:=⟨[.v QI],[.v .bool],a5g⟩
def c9l:Hints:=⟨[],[],[]⟩
def a3b(s:Z13):Option Z60:= cond (decide (s.2.2.1<s.2.1)) ((l0z s.1 s.2.2.1).bind fun x1=> (a5g x1).bind fun y2=> cond (!y2) (some (.inr (Sum.inr ((false,()))))) (some (.inl (s.1,s.2.1,wrap .i64 (s.2.2.1+1),())))) (some (.inr (Sum.inl ())))
def a4w(x:(List Int)):Option Bool:= (x0r a3b (x,(x.length:Int),0,())).bind fun w3=> match w3 with |.inl a4=>some true |.inr b5=>some b5.1
def a8t:FSem:=⟨[.v QL],[.v .bool],a4w⟩
def c9m:Hints:=⟨[(26,[.sv 5 QL,.sv 6 QI,.sv 7 QI],[(.exit 0,[]),(.ret,[.sv 2 .bool])])],[],[]⟩
def a7E(x:(Int×Int×Unit)):Option (Z24×Int):= (a5W x).bind fun y1=> cond (!y1) none (cond ((decide (0≤x.1))&&((decide (x.1≤x.1))&&(lim (a01 x.1)))) (cond ((decide (0≤x.1))&&((decide (x.1≤x.1))&&(lim (a01 x.1)))) (some ((x.2.1,a00 (a01 x.1) 0,a00 (a01 x.1) 0,()),0)) none) none)
def b2J:FSem:=⟨[.v Q3],[.b Q12,.v QI],a7E⟩
def c9n:Hints:=⟨[],[],[(3,[.v,.v,.v,.v,.q,.v,.v,.q,.x,.x,.x,.x])]⟩
def a4x(x:Int):Option Int:= some (v0a (u0z x (-1073741824)) 1073741823)
def a8u:FSem:=⟨[.v QI],[.v QI],a4x⟩
def c9o:Hints:=⟨[],[],[]⟩
def a2F(s:Z75):Option (Z75 ⊕ Z55):= cond (decide (s.2.2.1<s.2.1)) (cond ((decide (0≤s.2.2.1))&&(decide (s.2.2.1<(s.2.2.2.1.2.1.length:Int)))) (cond ((decide (0≤s.2.2.1))&&(decide (s.2.2.1<(s.2.2.2.1.2.2.1.length:Int)))) (some (.inl (wrap .i64 (s.1+(wrap .i64 ((a04 s.2.2.2.1.2.1 (a01 s.2.2.1) 0)*(a04 s.2.2.2.1.2.2.1 (a01 s.2.2.1) 0)))),s.2.1,wrap .i64 (s.2.2.1+1),s.2.2.2.1,()))) none) none) (some (.inr (s.1,s.2.2.2.1,())))
def a1K(x:Z24):Option Z39:= (x0r a2F (0,(x.2.1.length:Int),0,x,())).bind fun w1=> (a4x (z0h .i64 w1.1 16)).bind fun y2=> some (y2,w1.2.1)
def a3t:FSem:=⟨[.r false (.b Q12)],[.v QI],a1K⟩
def c9p:Hints:=⟨[(58,[.sv 3 QI,.sv 10 QI,.sv 11 QI,.box pinned Q12,.ptr 0 pinned [],.ref 9 pinned [.snd,.fst]],[(.exit 0,[.sv 3 QI,.box pinned Q12])])],[],[]⟩
def a2b(s:(Int×Z75)):Option ((Int×Z75) ⊕ Z55):= cond (decide (s.2.2.2.1<s.2.2.1)) (cond ((decide (0≤s.2.2.2.1))&&(decide (s.2.2.2.1<(s.2.2.2.2.1.2.2.1.length:Int)))) (cond ((decide (0≤s.2.2.2.1))&&(decide (s.2.2.2.1<(s.2.2.2.2.1.2.1.length:Int)))) ((show Option (Int×Int×Int×Z75)from cond (decide ((a04 s.2.2.2.2.1.2.2.1 (a01 s.2.2.2.1) 0) > 0)) (some (s.1,s.2.1,s.2.2.2.1,wrap .i64 ((a04 s.2.2.2.2.1.2.1 (a01 s.2.2.2.1) 0)+s.2.1),s.2.2.1,s.2.2.2.1,s.2.2.2.2.1,())) (cond (decide ((a04 s.2.2.2.2.1.2.2.1 (a01 s.2.2.2.1) 0)<0)) (some (s.1,s.2.1,s.2.2.2.1,wrap .i64 ((a04 s.2.2.2.2.1.2.1 (a01 s.2.2.2.1) 0)-s.2.1),s.2.2.1,s.2.2.2.1,s.2.2.2.2.1,())) (some (s.1,s.2.1,s.2.2.2.1,a04 s.2.2.2.2.1.2.1 (a01 s.2.2.2.1) 0,s.2.2.1,s.2.2.2.1,s.2.2.2.2.1,())))).bind fun z4=> cond ((decide (0≤z4.2.2.1))&&(decide (z4.2.2.1<(z4.2.2.2.2.2.2.1.2.1.length:Int)))) (some (.inl (z4.1,z4.2.1,z4.2.2.2.2.1,wrap .i64 (z4.2.2.2.2.2.1+1),(z4.2.2.2.2.2.2.1.1,a25 z4.2.2.2.2.2.2.1.2.1 (a01 z4.2.2.1) (v0a (u0z z4.2.2.2.1 (-1048576)) 1048576),z4.2.2.2.2.2.2.1.2.2),()))) none) none) none) (some (.inr (s.1,s.2.2.2.2.1,())))
def a2K(x:(Z24×Int)):Option Z24:= (a4x x.2).bind fun y1=> (show Option Z67 from(a1K x.1).bind fun y2=> cond (decide (y1 > y2.1)) (cond (decide (y2.2.1<0)) none (some (y1,z0g .i64 1 y2.2.1,y2.2,()))) (cond (decide (y1<y2.1)) (cond (decide (y2.2.1<0)) none (some (y1,wrap .i64 (0-(z0g .i64 1 y2.2.1)),y2.2,()))) (some (y1,0,y2.2,())))).bind fun z3=> (x0r a2b (z3.1,z3.2.1,(z3.2.2.1.2.2.1.length:Int),0,z3.2.2.1,())).bind fun w5=> cond (decide (1≤(w5.2.1.2.2.1.length:Int))) (cond (decide (0<(a02 (o0p w5.2.1.2.2.1 1 ((a02 w5.2.1.2.2.1)-1) w5.2.1.2.2.1):Int))) (some (w5.2.1.1,w5.2.1.2.1,a25 (o0p w5.2.1.2.2.1 1 ((a02 w5.2.1.2.2.1)-1) w5.2.1.2.2.1) 0 w5.1,w5.2.1.2.2.2)) none) none
def a6x:FSem:=⟨[.r false (.b Q12),.v QI],[],a2K⟩
def c9q:Hints:=⟨[(122,[.sv 1 QI,.sv 4 QI,.sv 36 QI,.sv 37 QI,.box pinned Q12,.ptr 0 pinned [],.ref 35 pinned [.snd,.snd,.fst]],[(.exit 1,[.sv 1 QI,.box pinned Q12,.ptr 0 pinned []])])],[(7,[(.normal,[.sv 1 QI,.sv 4 QI,.box pinned Q12,.ptr 0 pinned []])]),(15667,[(.normal,[.sv 1 QI,.sv 4 QI,.sv 6 QI,.sv 8 QI,.sv 36 QI,.sv 37 QI,.box pinned Q12,.ptr 0 pinned [],.ref 35 pinned [.snd,.snd,.fst]])])],[(17,[.p,.p,.q,.q,.q,.p,.p,.q,.q,.x])]⟩
def a4y(s:(Z6×Int×Int×Int×Z74)):Option ((Z6×Int×Int×Int×Z74) ⊕ ((Z6×Z15) ⊕ Z4)):= cond (decide (s.2.2.2.2.1<s.2.2.2.1)) (cond ((decide (0≤s.2.2.2.2.1))&&(decide (s.2.2.2.2.1<(s.2.2.2.2.2.1.length:Int)))) ((a1K s.2.2.2.2.2.2.1).bind fun y6=> (a5g (wrap .i64 ((a04 s.2.2.2.2.2.1 (a01 s.2.2.2.2.1) 0)-y6.1))).bind fun y7=> cond (!y7) (some (.inr (Sum.inr ((6,[],()))))) ((a2K (y6.2,a04 s.2.2.2.2.2.1 (a01 s.2.2.2.2.1) 0)).bind fun y8=> cond ((decide (0≤s.2.2.2.2.1))&&(decide (s.2.2.2.2.1<(s.2.2.2.2.2.1.length:Int)))) (some (.inl (s.1,s.2.1,s.2.2.1,s.2.2.2.1,wrap .i64 (s.2.2.2.2.1+1),a25 s.2.2.2.2.2.1 (a01 s.2.2.2.2.1) (wrap .i64 ((a04 s.2.2.2.2.2.1 (a01 s.2.2.2.2.1) 0)-y6.1)),y8,()))) none)) none) (some (.inr (Sum.inl (s.1,s.2.1,s.2.2.1,s.2.2.2.2.2.1,()))))
def a4z(s:(Z6×Z15)):Option ((Z6×Z15) ⊕ Z42):= cond (decide (s.2.2.1<s.2.1)) ((l0z s.1 s.2.2.1).bind fun x4=> (a7E x4).bind fun y5=> cond (y5.2 != 0) (some (.inr (Sum.inr ((y5.2,[],()))))) ((x0r a4y (s.1,s.2.1,s.2.2.1,(s.2.2.2.1.length:Int),0,s.2.2.2.1,y5.1,())).bind fun w9=> match w9 with |.inl a10=>some (.inl (a10.1,a10.2.1,wrap .i64 (a10.2.2.1+1),a10.2.2.2.1,())) |.inr b11=>some (.inr (Sum.inr ((b11.1,b11.2.1,())))))) (some (.inr (Sum.inl (s.2.2.2.1,()))))
def a8v(x:((List Int)×Z6)):Option ((List Int)×Int):= (a6q x.2).bind fun y1=> cond (!y1) (some ([],1)) ((a4w x.1).bind fun y2=> cond (!y2) (some ([],6)) ((a0Z x.1).bind fun y3=> (x0r a4z (x.2,(x.2.length:Int),0,y3,())).bind fun w12=> match w12 with |.inl a13=>some (a13.1,0) |.inr b14=>some (b14.2.1,b14.1)))
def b4M:FSem:=⟨[.v QL,.v (.list false Q3)],[.o QI,.v QI],a8v⟩
def c9r:Hints:=⟨[(250,[.sv 22 (.list false Q3),.sv 23 QI,.sv 24 QI,.own 6 6 QI],[(.exit 0,[.own 6 6 QI]),(.ret,[.sv 5 QI,.own 4 4 QI])]),(256414,[.sv 22 (.list false Q3),.sv 23 QI,.sv 24 QI,.sv 37 QI,.sv 38 QI,.own 6 6 QI,.box 1030 Q12,.ptr 9 1030 [],.ref 36 6 []],[(.exit 2,[.sv 22 (.list false Q3),.sv 23 QI,.sv 24 QI,.own 6 6 QI]),(.ret,[.sv 5 QI,.own 4 4 QI])])],[],[]⟩
def a9z(x:(Z92×(List Int))):Option (Int×Z92):= (show Option ((List Int)×((List Int)×(Int×Z95)))from cond (x.1.1==2) ((a3O (x.2,x.1.2.2.1)).bind fun y1=> some (x.2,y1.1,y1.2,x.1,())) (cond (x.1.1==3) ((a5X (x.2,x.1.2.2.2.2.2.1,x.1.2.2.2.1)).bind fun y2=> some (x.2,y2.1,y2.2,x.1,())) (cond (x.1.1==4) ((a7C (x.2,x.1.2.2.2.2.1,x.1.2.2.2.2.2.2.1)).bind fun y3=> cond (y3.2==0) ((a5X (y3.1,x.1.2.2.2.2.2.1,x.1.2.2.2.1)).bind fun y4=> some (y3.1,y4.1,y4.2,x.1,())) (some (y3.1,[],y3.2,x.1,()))) (cond (x.1.1==5) ((a8v (x.2,x.1.2.2.2.2.2.2.2.1)).bind fun y5=> some (x.2,y5.1,y5.2,x.1,())) (some (x.2,[],0,x.1,())))))).bind fun z6=> cond (z6.2.2.1 != 0) (some (z6.2.2.1,z6.2.2.2.1)) ((a3R (z6.2.2.2.1,(z6.1.length:Int))).bind fun y7=> cond ((decide (0≤y7))&&(decide (y7≤(z6.1.length:Int)))) ((a0Z (a08 (a01 y7) z6.1)).bind fun y8=> some (0,z6.2.2.2.1.1,z6.2.2.2.1.2.1,z6.2.2.2.1.2.2.1,z6.2.2.2.1.2.2.2.1,z6.2.2.2.1.2.2.2.2.1,z6.2.2.2.1.2.2.2.2.2.1,z6.2.2.2.1.2.2.2.2.2.2.1,z6.2.2.2.1.2.2.2.2.2.2.2.1,y8,z6.2.2.2.1.2.2.2.2.2.2.2.2.2.1,z6.2.1,z6.2.2.2.1.2.2.2.2.2.2.2.2.2.2.2)) none)
def b5w:FSem:=⟨[.r false (.b Q31),.v QL],[.v QI],a9z⟩
def c9s:Hints:=⟨[],[(15,[(.normal,[.sv 1 QL,.sv 5 QL,.sv 6 QI,.box pinned Q31,.ptr 0 pinned []])])],[(7,[.v,.p,.p,.q,.q,.p,.p,.q,.q,.x,.x,.q,.q,.q,.x]),(9,[.v,.p,.p,.q,.q,.p,.p,.q,.q,.x,.x,.q,.q,.q,.x]),(11,[.q,.p,.p,.q,.q,.p,.p,.q,.q,.x,.x,.q,.q,.q,.x])]⟩
def a6r(x:(Int×Int)):Option Bool:= cond (decide (1≤x.1)) (cond (decide (x.1≤4096)) (cond (decide (0≤x.2)) (some (decide (x.2≤x.1))) (some false)) (some false)) (some false)
def a9A:FSem:=⟨[.v QI,.v QI],[.v .bool],a6r⟩
def c9t:Hints:=⟨[],[],[]⟩
def a5G(s:Z15):Option (Z15 ⊕ ((List Int)×Unit)):= cond (decide (s.1<0)) none (cond (decide ((s.2.2.1.length:Int)<(z0g .i64 1 s.1))) (cond (lim ((a02 s.2.2.1)+1)) (some (.inl (s.1,s.2.1,a03 s.2.2.1 [s.2.1],()))) none) (some (.inr (s.2.2.1,()))))
def a2A(x:(Int×Int×Int)):Option (List Int):= (show Option Z21 from(a6r (x.2.1,x.2.2)).bind fun y1=> cond (!y1) (some (x.1,x.2.1,x.2.2,true,())) (cond (decide (x.1<0)) (some (x.1,x.2.1,x.2.2,true,())) (some (x.1,x.2.1,x.2.2,decide (x.1 > 8),())))).bind fun z2=> cond z2.2.2.2.1 (some []) (cond (decide (z2.1<0)) none ((show Option Z21 from cond (decide (z2.1<0)) none (cond ((z0g .i64 (z0h .i64 z2.2.1 z2.1) z2.1) != z2.2.1) (some (z2.1,z2.2.2.1,z0h .i64 z2.2.1 z2.1,true,())) (some (z2.1,z2.2.2.1,z0h .i64 z2.2.1 z2.1,decide ((z0h .i64 z2.2.1 z2.1)<z2.2.2.1),())))).bind fun z3=> cond z3.2.2.2.1 (some []) ((x0r a5G (z3.1,z3.2.2.1,[wrap .i64 (z3.2.2.1-z3.2.1)],())).bind fun w4=> some w4.1)))
def a4n:FSem:=⟨[.v QI,.v QI,.v QI],[.o QI],a2A⟩
def c9u:Hints:=⟨[(252,[.sv 0 QI,.sv 7 QI,.own 8 8 QI],[(.exit 0,[.own 8 8 QI])])],[(6,[(.normal,[.sv 0 QI,.sv 1 QI,.sv 2 QI,.sv 20 .bool])]),(30,[(.normal,[.sv 0 QI,.sv 2 QI,.sv 7 QI,.sv 33 .bool])])],[]⟩
def a3L(s:Z13):Option Z60:= cond (decide (s.2.2.1<s.2.1)) ((l0z s.1 s.2.2.1).bind fun x3=> (show Option Z31 from cond (decide (x3<0)) (some (s.1,s.2.1,s.2.2.1,x3 != 31,())) (cond (decide (x3 > 25)) (some (s.1,s.2.1,s.2.2.1,x3 != 31,())) (some (s.1,s.2.1,s.2.2.1,false,())))).bind fun z4=> cond z4.2.2.2.1 (some (.inr (Sum.inr ((false,()))))) (some (.inl (z4.1,z4.2.1,wrap .i64 (z4.2.2.1+1),())))) (some (.inr (Sum.inl ())))
def a7F(x:(Z4×Int×Int)):Option Bool:= (a2A (x.1.1,x.2.1,x.2.2)).bind fun y1=> (show Option (Bool×Z19)from cond ((y1.length:Int)==0) (some (true,x.1,())) (some ((x.1.2.1.length:Int) != (y1.length:Int),x.1,()))).bind fun z2=> cond z2.1 (some false) ((x0r a3L (z2.2.1.2.1,(z2.2.1.2.1.length:Int),0,())).bind fun w5=> match w5 with |.inl a6=>some true |.inr b7=>some b7.1)
def b2K:FSem:=⟨[.v Q7,.v QI,.v QI],[.v .bool],a7F⟩
def c9v:Hints:=⟨[(122,[.sv 27 QL,.sv 28 QI,.sv 29 QI],[(.exit 0,[]),(.ret,[.sv 6 .bool])])],[(14,[(.normal,[.sv 25 .bool,.vp 3 Q7])]),(7833,[(.normal,[.sv 27 QL,.sv 28 QI,.sv 29 QI,.sv 42 .bool])])],[]⟩
def b1F(s:Z13):Option Z60:= cond (decide (s.2.2.1<s.2.1)) ((l0z s.1 s.2.2.1).bind fun x3=> (show Option Z31 from cond (decide (x3<(-1073741824))) (some (s.1,s.2.1,s.2.2.1,true,())) (some (s.1,s.2.1,s.2.2.1,decide (x3≥1073741824),()))).bind fun z4=> cond z4.2.2.2.1 (some (.inr (Sum.inr ((false,()))))) (some (.inl (z4.1,z4.2.1,wrap .i64 (z4.2.2.1+1),())))) (some (.inr (Sum.inl ())))
def a5Y(x:Z3):Option Bool:= (show Option ((List Int)×(Bool×Unit))from(a6r (x.1,x.2.1)).bind fun y1=> cond (!y1) (some (x.2.2,true,())) (some (x.2.2,(x.2.2.length:Int) != (wrap .i64 (x.1-x.2.1)),()))).bind fun z2=> cond z2.2.1 (some false) ((x0r b1F (z2.1,(z2.1.length:Int),0,())).bind fun w5=> match w5 with |.inl a6=>some true |.inr b7=>some b7.1)
def b0R:FSem:=⟨[.v QI,.v QI,.v QL],[.v .bool],a5Y⟩
def c9w:Hints:=⟨[(58,[.sv 21 QL,.sv 22 QI,.sv 23 QI],[(.exit 0,[]),(.ret,[.sv 6 .bool])])],[(6,[(.normal,[.sv 2 QL,.sv 20 .bool])]),(3737,[(.normal,[.sv 21 QL,.sv 22 QI,.sv 23 QI,.sv 32 .bool])])],[]⟩
def a2w(s:Z41):Option (Z41 ⊕ Z27):= cond (s.2.1 != 0) (cond (decide (s.1<32)) ((a3i (s.2.1,s.1)).bind fun y2=> cond (!y2) (some (.inl (wrap .i64 (s.1+1),s.2.1,s.2.2.1,s.2.2.2.1,s.2.2.2.2.1,()))) (some (.inr (s.1,s.2.2.1,s.2.2.2.1,s.2.2.2.2.1,())))) (some (.inr (s.1,s.2.2.1,s.2.2.2.1,s.2.2.2.2.1,())))) (some (.inr (s.1,s.2.2.1,s.2.2.2.1,s.2.2.2.2.1,())))
def a4T(s:Z27):Option Z57:= cond (decide (s.2.2.2.1<s.2.2.1)) ((l0z s.2.1 s.2.2.2.1).bind fun x1=> (x0r a2w (s.1,x1,s.2.1,s.2.2.1,s.2.2.2.1,())).bind fun w3=> some (.inl (w3.1,w3.2.1,w3.2.2.1,wrap .i64 (w3.2.2.2.1+1),()))) (some (.inr (s.1,())))
def a1k(x:(List Int)):Option Int:= (x0r a4T (0,x,(x.length:Int),0,())).bind fun w4=> some w4.1
def a2l:FSem:=⟨[.v QL],[.v QI],a1k⟩
def c9x:Hints:=⟨[(58,[.sv 3 QI,.sv 6 QL,.sv 7 QI,.sv 8 QI],[(.exit 0,[.sv 3 QI])]),(7474,[.sv 3 QI,.sv 5 QI,.sv 6 QL,.sv 7 QI,.sv 8 QI],[(.exit 2,[.sv 3 QI,.sv 6 QL,.sv 7 QI,.sv 8 QI])])],[],[]⟩
def a4M(x:(List Int)):Option Int:= (a1k x).bind fun y1=> some (wrap .i64 (5+(wrap .i64 (y1*(x.length:Int)))))
def b2L:FSem:=⟨[.v QL],[.v QI],a4M⟩
def c9y:Hints:=⟨[],[],[]⟩
def a1H(x:Int):Option Bool:= cond (decide (0≤x)) (some (decide (x≤25))) (some false)
def a5H:FSem:=⟨[.v QI],[.v .bool],a1H⟩
def c9z:Hints:=⟨[],[],[]⟩
def a6s(x:Int):Option Bool:= cond (decide ((-1073741824)≤x)) (some (decide (x<1073741824))) (some false)
def a9B:FSem:=⟨[.v QI],[.v .bool],a6s⟩
def c9A:Hints:=⟨[],[],[]⟩
def a7G(x:Int):Option Int:= (a6s x).bind fun y1=> cond (!y1) (some 0) (cond (decide (x≥0)) (some (wrap .u64 (wrap .i64 (2*x)))) (some (wrap .u64 (wrap .i64 ((wrap .i64 ((-2)*x))-1)))))
def b2M:FSem:=⟨[.v QI],[.v (.int .u64)],a7G⟩
def c9B:Hints:=⟨[],[],[]⟩
def a6t(x:(Int×Int)):Option Int:= (show Option Z8 from(a1H x.1).bind fun y1=> cond (!y1) (some (x.1,x.2,true,())) ((a6s x.2).bind fun y2=> some (x.1,x.2,!y2,()))).bind fun z3=> cond z3.2.2.1 (some 0) ((a7G z3.2.1).bind fun y4=> cond (decide (z3.1<0)) none (cond (decide ((wrap .i64 (z0h .u64 y4 z3.1))<32)) (some (wrap .i64 ((wrap .i64 ((wrap .i64 (z0h .u64 y4 z3.1))+1))+z3.1))) (some 65)))
def b5x:FSem:=⟨[.v QI,.v QI],[.v QI],a6t⟩
def c9C:Hints:=⟨[],[(6,[(.normal,[.sv 0 QI,.sv 1 QI,.sv 13 .bool])])],[]⟩
def a3l(s:Z41):Option (Z41 ⊕ (Int×Unit)):= cond (decide (s.2.2.2.2.1<s.2.2.2.1)) ((l0z s.2.2.1 s.2.2.2.2.1).bind fun x1=> (a6t (s.1,x1)).bind fun y2=> some (.inl (s.1,wrap .i64 (s.2.1+y2),s.2.2.1,s.2.2.2.1,wrap .i64 (s.2.2.2.2.1+1),()))) (some (.inr (s.2.1,())))
def a2S(x:(Int×(List Int))):Option Int:= (x0r a3l (x.1,0,x.2,(x.2.length:Int),0,())).bind fun w3=> some w3.1
def b1b:FSem:=⟨[.v QI,.v QL],[.v QI],a2S⟩
def c9D:Hints:=⟨[(58,[.sv 0 QI,.sv 5 QI,.sv 8 QL,.sv 9 QI,.sv 10 QI],[(.exit 0,[.sv 5 QI])])],[],[]⟩
def a1m(s:((List Int)×(Int×(Int×(Int×((List Int)×Z19)))))):Option (((List Int)×(Int×(Int×(Int×((List Int)×Z19))))) ⊕ (Int×Unit)):= cond (decide (s.2.2.2.1<s.2.2.1)) (cond ((decide (0≤s.2.2.2.1))&&(decide (s.2.2.2.1<(s.2.2.2.2.1.length:Int)))) (cond ((decide (0≤(a04 s.2.2.2.2.1 (a01 s.2.2.2.1) 0)))&&(decide ((a04 s.2.2.2.2.1 (a01 s.2.2.2.1) 0)≤(s.1.length:Int)))) (cond ((decide (0≤(a04 s.2.2.2.2.1 (a01 s.2.2.2.1) 0)))&&(decide ((a04 s.2.2.2.2.1 (a01 s.2.2.2.1) 0)≤(s.1.length:Int)))) ((l0z s.2.2.2.2.2.1.2.1 s.2.2.2.1).bind fun x5=> cond (x5==31) ((a4M (a08 (a01 (a04 s.2.2.2.2.1 (a01 s.2.2.2.1) 0)) s.1)).bind fun y6=> some (.inl (a32 (a01 (a04 s.2.2.2.2.1 (a01 s.2.2.2.1) 0)) (a08 (a02 s.1) s.1),wrap .i64 (s.2.1+(wrap .i64 (5+y6))),s.2.2.1,wrap .i64 (s.2.2.2.1+1),s.2.2.2.2.1,s.2.2.2.2.2.1,()))) ((l0z s.2.2.2.2.2.1.2.1 s.2.2.2.1).bind fun x7=> (a2S (x7,a08 (a01 (a04 s.2.2.2.2.1 (a01 s.2.2.2.1) 0)) s.1)).bind fun y8=> some (.inl (a32 (a01 (a04 s.2.2.2.2.1 (a01 s.2.2.2.1) 0)) (a08 (a02 s.1) s.1),wrap .i64 (s.2.1+(wrap .i64 (5+y8))),s.2.2.1,wrap .i64 (s.2.2.2.1+1),s.2.2.2.2.1,s.2.2.2.2.2.1,())))) none) none) none) (some (.inr (s.2.1,())))
def a3U(x:(Z4×Z3)):Option Int:= (show Option (Int×(Int×((List Int)×(Bool×Z19))))from(a7F (x.1,x.2.1,x.2.2.1)).bind fun y1=> cond (!y1) (some (x.2.1,x.2.2.1,x.2.2.2,true,x.1,())) ((a5Y (x.2.1,x.2.2.1,x.2.2.2)).bind fun y2=> some (x.2.1,x.2.2.1,x.2.2.2,!y2,x.1,()))).bind fun z3=> cond z3.2.2.2.1 (some 0) ((a2A (z3.2.2.2.2.1.1,z3.1,z3.2.1)).bind fun y4=> (x0r a1m (z3.2.2.1,4,(y4.length:Int),0,y4,z3.2.2.2.2.1,())).bind fun w9=> some w9.1)
def b1G:FSem:=⟨[.v Q7,.v QI,.v QI,.v QL],[.v QI],a3U⟩
def c9E:Hints:=⟨[(122,[.sv 3 QL,.sv 9 QI,.sv 30 QI,.sv 31 QI,.own 29 1029 QI,.vp 4 Q7],[(.exit 0,[.sv 9 QI])])],[(6,[(.normal,[.sv 1 QI,.sv 2 QI,.sv 3 QL,.sv 24 .bool,.vp 4 Q7])])],[]⟩
def a7e(s:Z29):Option (Z29 ⊕ (Int×Unit)):= cond (decide (s.2.2.2.1≤25)) ((a2S (s.2.2.2.1,s.1)).bind fun y2=> cond (decide (y2<s.2.2.1)) (some (.inl (s.1,s.2.2.2.1,y2,wrap .i64 (s.2.2.2.1+1),()))) (some (.inl (s.1,s.2.1,s.2.2.1,wrap .i64 (s.2.2.2.1+1),())))) (some (.inr (s.2.1,())))
def a9C(x:(List Int)):Option Int:= (a2S (0,x)).bind fun y1=> (x0r a7e (x,0,y1,1,())).bind fun w3=> some w3.1
def b5y:FSem:=⟨[.v QL],[.v QI],a9C⟩
def c9F:Hints:=⟨[(58,[.sv 0 QL,.sv 3 QI,.sv 4 QI,.sv 5 QI],[(.exit 0,[.sv 3 QI])])],[],[]⟩
def a7f(x:(List Int)):Option Int:= (a9C x).bind fun y1=> (a4M x).bind fun y2=> (a2S (y1,x)).bind fun y3=> cond (decide (y2<y3)) (some 31) (some y1)
def b3b:FSem:=⟨[.v QL],[.v QI],a7f⟩
def c9G:Hints:=⟨[],[],[]⟩
def a6D(s:(Int×(Int×(Int×((List Int)×(Int×(Int×((List Int)×(Int×(Int×((List Int)×Z84))))))))))):Option ((Int×(Int×(Int×((List Int)×(Int×(Int×((List Int)×(Int×(Int×((List Int)×Z84)))))))))) ⊕ (Int×(Int×(Int×((List Int)×(Int×Int×Z84)))))):= cond (decide (s.2.2.2.2.2.2.2.2.1<s.2.2.2.2.2.2.2.1)) (cond ((decide (0≤s.2.2.2.2.2.2.2.2.1))&&(decide (s.2.2.2.2.2.2.2.2.1<(s.2.2.2.2.2.2.2.2.2.1.length:Int)))) (cond ((decide (0≤(a04 s.2.2.2.2.2.2.2.2.2.1 (a01 s.2.2.2.2.2.2.2.2.1) 0)))&&(decide ((a04 s.2.2.2.2.2.2.2.2.2.1 (a01 s.2.2.2.2.2.2.2.2.1) 0)≤(s.2.2.2.2.2.2.1.length:Int)))) ((a7f (a08 (a01 (a04 s.2.2.2.2.2.2.2.2.2.1 (a01 s.2.2.2.2.2.2.2.2.1) 0)) s.2.2.2.2.2.2.1)).bind fun y3=> cond (lim ((a02 s.2.2.2.2.2.2.2.2.2.2.2.2.1.2.1)+1)) (cond ((decide (0≤(a04 s.2.2.2.2.2.2.2.2.2.1 (a01 s.2.2.2.2.2.2.2.2.1) 0)))&&(decide ((a04 s.2.2.2.2.2.2.2.2.2.1 (a01 s.2.2.2.2.2.2.2.2.1) 0)≤(s.2.2.2.2.2.2.1.length:Int)))) (some (.inl (s.1,s.2.1,s.2.2.1,s.2.2.2.1,s.2.2.2.2.1,s.2.2.2.2.2.1,a32 (a01 (a04 s.2.2.2.2.2.2.2.2.2.1 (a01 s.2.2.2.2.2.2.2.2.1) 0)) (a08 (a02 s.2.2.2.2.2.2.1) s.2.2.2.2.2.2.1),s.2.2.2.2.2.2.2.1,wrap .i64 (s.2.2.2.2.2.2.2.2.1+1),s.2.2.2.2.2.2.2.2.2.1,s.2.2.2.2.2.2.2.2.2.2.1,s.2.2.2.2.2.2.2.2.2.2.2.1,(s.2.2.2.2.2.2.2.2.2.2.2.2.1.1,a03 s.2.2.2.2.2.2.2.2.2.2.2.2.1.2.1 [y3],s.2.2.2.2.2.2.2.2.2.2.2.2.1.2.2),()))) none) none) none) none) (some (.inr (s.1,s.2.1,s.2.2.1,s.2.2.2.1,s.2.2.2.2.1,s.2.2.2.2.2.1,s.2.2.2.2.2.2.2.2.2.2.1,s.2.2.2.2.2.2.2.2.2.2.2.1,s.2.2.2.2.2.2.2.2.2.2.2.2.1,())))
end Go.Ab
namespace Go.Ab
open IntKind(wrap)
open Go.Proofs
set_option maxRecDepth 100000
set_option linter.unusedVariables false
def a3f(s:(Int×(Int×(Int×((List Int)×(Int×Int×Z70)))))):Option ((Int×(Int×(Int×((List Int)×(Int×Int×Z70))))) ⊕ Z70):= cond (decide (s.2.2.2.2.2.1≤(v0a (u0z s.2.2.1 0) 8))) ((a2A (s.2.2.2.2.2.1,s.1,s.2.1)).bind fun y2=> cond ((y2.length:Int)==0) (some (.inl (s.1,s.2.1,s.2.2.1,s.2.2.2.1,s.2.2.2.2.1,wrap .i64 (s.2.2.2.2.2.1+1),s.2.2.2.2.2.2.1,s.2.2.2.2.2.2.2.1,()))) ((x0r a6D (s.1,s.2.1,s.2.2.1,s.2.2.2.1,s.2.2.2.2.1,s.2.2.2.2.2.1,s.2.2.2.1,(y2.length:Int),0,y2,s.2.2.2.2.2.2.1,s.2.2.2.2.2.2.2.1,(s.2.2.2.2.2.1,[],()),())).bind fun w4=> (a3U (w4.2.2.2.2.2.2.2.2.1,w4.1,w4.2.1,w4.2.2.2.1)).bind fun y5=> (show Option (Int×(Int×(Int×((List Int)×(Int×Int×Int×Bool×Z84)))))from cond (w4.2.2.2.2.1==0) (some (w4.1,w4.2.1,w4.2.2.1,w4.2.2.2.1,w4.2.2.2.2.1,w4.2.2.2.2.2.1,y5,true,w4.2.2.2.2.2.2.1,w4.2.2.2.2.2.2.2.1,w4.2.2.2.2.2.2.2.2.1,())) (some (w4.1,w4.2.1,w4.2.2.1,w4.2.2.2.1,w4.2.2.2.2.1,w4.2.2.2.2.2.1,y5,decide (y5<w4.2.2.2.2.1),w4.2.2.2.2.2.2.1,w4.2.2.2.2.2.2.2.1,w4.2.2.2.2.2.2.2.2.1,()))).bind fun z6=> cond z6.2.2.2.2.2.2.2.1 (some (.inl (z6.1,z6.2.1,z6.2.2.1,z6.2.2.2.1,z6.2.2.2.2.2.2.1,wrap .i64 (z6.2.2.2.2.2.1+1),z6.2.2.2.2.2.2.2.2.1,z6.2.2.2.2.2.2.2.2.2.2.1,()))) (some (.inl (z6.1,z6.2.1,z6.2.2.1,z6.2.2.2.1,z6.2.2.2.2.1,wrap .i64 (z6.2.2.2.2.2.1+1),z6.2.2.2.2.2.2.2.2.1,z6.2.2.2.2.2.2.2.2.2.1,()))))) (some (.inr (s.2.2.2.2.2.2.1,s.2.2.2.2.2.2.2.1,())))
def a8w(x:(Int×Z3)):Option (Z4×Int):= (a5Y (x.1,x.2.1,x.2.2.2)).bind fun y1=> cond (!y1) (some ((0,[],()),1)) ((x0r a3f (x.1,x.2.1,x.2.2.1,x.2.2.2,0,0,(0,[],()),(0,[],()),())).bind fun w7=> some (w7.2.1,0))
def b4N:FSem:=⟨[.v QI,.v QI,.v QI,.v QL],[.v Q7,.v QI],a8w⟩
def c9H:Hints:=⟨[(250,[.sv 0 QI,.sv 1 QI,.sv 2 QI,.sv 3 QL,.sv 11 QI,.sv 12 QI,.box 8 Q7,.box 10 Q7,.ptr 8 8 [],.ptr 10 10 []],[(.exit 0,[.box 8 Q7,.box 10 Q7,.ptr 8 8 [],.ptr 10 10 []])]),(512634,[.sv 0 QI,.sv 1 QI,.sv 2 QI,.sv 3 QL,.sv 11 QI,.sv 12 QI,.sv 15 QL,.sv 43 QI,.sv 44 QI,.own 42 13 QI,.box 8 Q7,.box 10 Q7,.box 14 Q6,.ptr 8 8 [],.ptr 10 10 [],.ptr 14 14 []],[(.exit 2,[.sv 0 QI,.sv 1 QI,.sv 2 QI,.sv 3 QL,.sv 11 QI,.sv 12 QI,.box 8 Q7,.box 10 Q7,.box 14 Q6,.ptr 8 8 [],.ptr 10 10 [],.ptr 14 14 []])])],[(256319,[(.normal,[.sv 0 QI,.sv 1 QI,.sv 2 QI,.sv 3 QL,.sv 11 QI,.sv 12 QI,.sv 18 QI,.sv 72 .bool,.box 8 Q7,.box 10 Q7,.box 14 Q7,.ptr 8 8 [],.ptr 10 10 [],.ptr 14 14 []])])],[(15,[.q,.q,.v,.v,.v,.v,.q,.x,.x,.x])]⟩
def a4o(s:((List Int)×((List Int)×c1M))):Option (((List Int)×((List Int)×c1M)) ⊕ (((List Int)×b0I) ⊕ (Int×Z95))):= cond (decide (s.2.2.2.1<s.2.2.1)) ((l0z s.2.1 s.2.2.2.1).bind fun x5=> (l0z s.1 0).bind fun x6=> cond (x5 != x6) (some (.inr (Sum.inr ((7,(0,0,0,0,0,[],a00 3 0,[],[],(0,[],()),[],()),()))))) (some (.inl (s.1,s.2.1,s.2.2.1,wrap .i64 (s.2.2.2.1+1),s.2.2.2.2.1,s.2.2.2.2.2.1,())))) (some (.inr (Sum.inl (s.1,s.2.2.2.2.1,s.2.2.2.2.2.1,()))))
def b1c(x:(Int×((List Int)×Z92))):Option Z94:= (show Option (Int×((List Int)×(Int×Bool×b0I)))from cond (decide ((x.2.1.length:Int)<1)) (some (x.1,x.2.1,(x.2.1.length:Int),true,(0,0,0,0,0,[],a00 3 0,[],[],(0,[],()),[],()),x.2.2,())) (cond (decide ((x.2.1.length:Int) > 4096)) (some (x.1,x.2.1,(x.2.1.length:Int),true,(0,0,0,0,0,[],a00 3 0,[],[],(0,[],()),[],()),x.2.2,())) ((a6L (x.1,x.2.2,(x.2.1.length:Int))).bind fun y1=> some (x.1,x.2.1,(x.2.1.length:Int),!y1,(0,0,0,0,0,[],a00 3 0,[],[],(0,[],()),[],()),x.2.2,())))).bind fun z2=> cond z2.2.2.2.1 (some ((0,0,0,0,0,[],a00 3 0,[],[],(0,[],()),[],()),1)) ((a2e z2.2.1).bind fun y3=> cond (!y3) (some ((0,0,0,0,0,[],a00 3 0,[],[],(0,[],()),[],()),6)) ((a5f (z2.1,z2.2.2.2.2.2.1)).bind fun y4=> cond (z2.1==0) ((x0r a4o (z2.2.1,z2.2.1,(z2.2.1.length:Int),0,z2.2.2.2.2.1,y4,())).bind fun w7=> match w7 with |.inl a8=>((l0z a8.1 0).bind fun x10=> some ((a8.2.2.1.1,a8.2.2.1.2.1,a8.2.2.1.2.2.1,a8.2.2.1.2.2.2.1,a8.2.2.1.2.2.2.2.1,a8.2.2.1.2.2.2.2.2.1,a8.2.2.1.2.2.2.2.2.2.1,a8.2.2.1.2.2.2.2.2.2.2.1,[x10],a8.2.2.1.2.2.2.2.2.2.2.2.2),0)) |.inr b9=>some (b9.2.1,b9.1)) ((a3e z2.2.1).bind fun y11=> (a5U (z2.2.1,y11)).bind fun y12=> cond (y12.2 != 0) (some ((0,0,0,0,0,[],a00 3 0,[],[],(0,[],()),[],()),6)) (cond (z2.1==1) (some ((y4.1,y11,y4.2.2.1,y4.2.2.2.1,y4.2.2.2.2.1,y4.2.2.2.2.2.1,y4.2.2.2.2.2.2.1,y4.2.2.2.2.2.2.2.1,y12.1,y4.2.2.2.2.2.2.2.2.2),0)) ((a9z ((y4.1,y11,y4.2.2),y12.1)).bind fun y13=> cond (y13.1 != 0) (some ((0,0,0,0,0,[],a00 3 0,[],[],(0,[],()),[],()),6)) ((a8w (z2.2.2.1,(y13.2.2.2.2.2.2.2.2.2.1.length:Int),6,y13.2.2.2.2.2.2.2.2.2.2.2.1)).bind fun y14=> cond (y14.2 != 0) (some ((0,0,0,0,0,[],a00 3 0,[],[],(0,[],()),[],()),6)) (some ((y13.2.1,y13.2.2.1,y13.2.2.2.1,y13.2.2.2.2.1,y13.2.2.2.2.2.1,y13.2.2.2.2.2.2.1,y13.2.2.2.2.2.2.2.1,y13.2.2.2.2.2.2.2.2.1,y13.2.2.2.2.2.2.2.2.2.1,y14.1,y13.2.2.2.2.2.2.2.2.2.2.2),0))))))))
def b6y:FSem:=⟨[.v QI,.v QL,.v Q31],[.v Q31,.v QI],b1c⟩
def c9I:Hints:=⟨[(4050,[.sv 1 QL,.sv 39 QL,.sv 40 QI,.sv 41 QI,.box 6 Q31,.box 9 Q31,.ptr 6 6 [],.ptr 9 9 []],[(.exit 0,[.sv 1 QL,.box 6 Q31,.box 9 Q31,.ptr 6 6 [],.ptr 9 9 []]),(.ret,[.sv 7 QI,.box 6 Q31,.ptr 6 6 []])])],[(14,[(.normal,[.sv 0 QI,.sv 1 QL,.sv 8 QI,.sv 28 .bool,.box 6 Q31,.vp 5 Q31,.ptr 6 6 []])])],[]⟩
def a5h(x:Int):Option Bool:= cond (x != 0) (some (x != 1)) (some false)
def a8x:FSem:=⟨[.v QI],[.v .bool],a5h⟩
def c9J:Hints:=⟨[],[],[]⟩
def a9D(x:Z92):Option Bool:= (a5f (x.1,x)).bind fun y1=> cond (x.2.2.1==y1.2.2.1) (cond (x.2.2.2.1==y1.2.2.2.1) (cond (x.2.2.2.2.1==y1.2.2.2.2.1) (cond (eqT (.arr 3 (.int .i64)) x.2.2.2.2.2.2.1 y1.2.2.2.2.2.2.1) (cond ((x.2.2.2.2.2.1.length:Int)==(y1.2.2.2.2.2.1.length:Int)) (some ((x.2.2.2.2.2.2.2.1.length:Int)==(y1.2.2.2.2.2.2.2.1.length:Int))) (some false)) (some false)) (some false)) (some false)) (some false)
def b5z:FSem:=⟨[.v Q31],[.v .bool],a9D⟩
def c9K:Hints:=⟨[],[],[]⟩
def a8y(x:Z94):Option Bool:= (show Option Z98 from cond (decide (x.2<1)) (some (x.2,true,x.1,())) (cond (decide (x.2 > 4096)) (some (x.2,true,x.1,())) ((a6L (x.1.1,x.1,x.2)).bind fun y1=> cond (!y1) (some (x.2,true,x.1,())) ((a9D x.1).bind fun y2=> some (x.2,!y2,x.1,()))))).bind fun z3=> cond z3.2.1 (some false) ((show Option Z98 from cond (decide (z3.2.2.1.2.1<0)) (some (z3.1,true,z3.2.2.1,())) (cond (decide (z3.2.2.1.2.1 > 30)) (some (z3.1,true,z3.2.2.1,())) (cond (z3.2.2.1.1==0) (some (z3.1,z3.2.2.1.2.1 != 0,z3.2.2.1,())) (some (z3.1,false,z3.2.2.1,()))))).bind fun z4=> cond z4.2.1 (some false) ((a3R (z4.2.2.1,z4.1)).bind fun y5=> (show Option (Int×Z98)from cond ((z4.2.2.1.2.2.2.2.2.2.2.2.1.length:Int) != y5) (some (z4.1,y5,true,z4.2.2.1,())) ((a2e z4.2.2.1.2.2.2.2.2.2.2.2.1).bind fun y6=> cond (!y6) (some (z4.1,y5,true,z4.2.2.1,())) ((a2e z4.2.2.1.2.2.2.2.2.2.2.2.2.2.1).bind fun y7=> some (z4.1,y5,!y7,z4.2.2.1,())))).bind fun z8=> cond z8.2.2.1 (some false) ((a5h z8.2.2.2.1.1).bind fun y9=> cond (!y9) (cond ((z8.2.2.2.1.2.2.2.2.2.2.2.2.2.2.1.length:Int)==0) (cond (z8.2.2.2.1.2.2.2.2.2.2.2.2.2.1.1==0) (some ((z8.2.2.2.1.2.2.2.2.2.2.2.2.2.1.2.1.length:Int)==0)) (some false)) (some false)) (cond ((z8.2.2.2.1.2.2.2.2.2.2.2.2.2.2.1.length:Int)==(wrap .i64 (z8.1-z8.2.1))) ((a7F (z8.2.2.2.1.2.2.2.2.2.2.2.2.2.1,z8.1,z8.2.1)).bind fun y10=> some y10) (some false)))))
def b4O:FSem:=⟨[.v Q31,.v QI],[.v .bool],a8y⟩
def c9L:Hints:=⟨[],[(6,[(.normal,[.sv 1 QI,.sv 24 .bool,.vp 2 Q31])]),(14,[(.normal,[.sv 1 QI,.sv 42 .bool,.vp 2 Q31])]),(62,[(.normal,[.sv 1 QI,.sv 5 QI,.sv 62 .bool,.vp 2 Q31])])],[]⟩
def a1d(x:(Int×(List Int))):Option (Int×(List Int)):= (l0z x.2 (wrap .i64 ((x.2.length:Int)-x.1))).bind fun x1=> some (x1,x.2)
def b2i:FSem:=⟨[.v QI,.r false (.b QL)],[.v QI],a1d⟩
def c9M:Hints:=⟨[],[],[]⟩
def a7R(x:((List Int)×Int)):Option Int:= cond (x.2==1) ((a1d (1,x.1)).bind fun y1=> some y1.1) (cond (x.2==2) ((a1d (1,x.1)).bind fun y2=> (a1d (2,y2.2)).bind fun y3=> some (wrap .i64 ((wrap .i64 (2*y2.1))-y3.1))) (cond (x.2==3) ((a1d (1,x.1)).bind fun y4=> (a1d (2,y4.2)).bind fun y5=> (a1d (3,y5.2)).bind fun y6=> some (wrap .i64 ((wrap .i64 ((wrap .i64 (3*y4.1))-(wrap .i64 (3*y5.1))))+y6.1))) (cond (x.2==4) ((a1d (1,x.1)).bind fun y7=> (a1d (2,y7.2)).bind fun y8=> (a1d (3,y8.2)).bind fun y9=> (a1d (4,y9.2)).bind fun y10=> some (wrap .i64 ((wrap .i64 ((wrap .i64 ((wrap .i64 (4*y7.1))-(wrap .i64 (6*y8.1))))+(wrap .i64 (4*y9.1))))-y10.1))) (some 0))))
def b4r:FSem:=⟨[.v QL,.v QI],[.v QI],a7R⟩
def c9N:Hints:=⟨[],[],[]⟩
def a6E(s:Z52):Option (Z52 ⊕ Z42):= cond (decide (s.2.2.2.1<s.2.2.1)) ((l0z s.2.1 s.2.2.2.1).bind fun x5=> (a7R (s.2.2.2.2.1,s.1)).bind fun y6=> (a2p [wrap .i64 (x5+y6)]).bind fun y7=> cond (!y7) (some (.inr (Sum.inr ((6,[],()))))) (cond (lim ((a02 s.2.2.2.2.1)+1)) (some (.inl (s.1,s.2.1,s.2.2.1,wrap .i64 (s.2.2.2.1+1),a03 s.2.2.2.2.1 [wrap .i64 (x5+y6)],()))) none)) (some (.inr (Sum.inl (s.2.2.2.2.1,()))))
def a8z(x:Z9):Option ((List Int)×Int):= (show Option Z44 from cond (decide (x.2.2<0)) (some (x.1,x.2.1,x.2.2,true,())) (cond (decide (x.2.2 > 4)) (some (x.1,x.2.1,x.2.2,true,())) (some (x.1,x.2.1,x.2.2,(x.1.length:Int) != x.2.2,())))).bind fun z1=> cond z1.2.2.2.1 (some ([],1)) ((show Option Z44 from(a2p z1.1).bind fun y2=> cond (!y2) (some (z1.1,z1.2.1,z1.2.2.1,true,())) ((a2p z1.2.1).bind fun y3=> some (z1.1,z1.2.1,z1.2.2.1,!y3,()))).bind fun z4=> cond z4.2.2.2.1 (some ([],6)) (cond (lim (a02 z4.1)) ((x0r a6E (z4.2.2.1,z4.2.1,(z4.2.1.length:Int),0,z4.1,())).bind fun w8=> match w8 with |.inl a9=>some (a9.1,0) |.inr b10=>some (b10.2.1,b10.1)) none))
def b4P:FSem:=⟨[.v QL,.v QL,.v QI],[.o QI,.v QI],a8z⟩
def c9O:Hints:=⟨[(250,[.sv 2 QI,.sv 34 QL,.sv 35 QI,.sv 36 QI,.own 8 8 QI],[(.exit 0,[.own 8 8 QI]),(.ret,[.sv 7 QI,.own 6 6 QI])])],[(6,[(.normal,[.sv 0 QL,.sv 1 QL,.sv 2 QI,.sv 23 .bool])]),(14,[(.normal,[.sv 0 QL,.sv 1 QL,.sv 2 QI,.sv 31 .bool])])],[]⟩
def a5I(s:((List Int)×Z52)):Option (((List Int)×Z52) ⊕ Z42):= cond (decide (s.2.2.2.2.1<s.2.2.2.1)) ((l0z s.2.2.1 s.2.2.2.2.1).bind fun x6=> (a3S (s.2.2.2.2.2.1,s.1,s.2.1)).bind fun y7=> (a4m (wrap .i64 (y7+x6))).bind fun y8=> cond (!y8) (some (.inr (Sum.inr ((6,[],()))))) (cond (lim ((a02 s.2.2.2.2.2.1)+1)) (some (.inl (s.1,s.2.1,s.2.2.1,s.2.2.2.1,wrap .i64 (s.2.2.2.2.1+1),a03 s.2.2.2.2.2.1 [wrap .i64 (y7+x6)],()))) none)) (some (.inr (Sum.inl (s.2.2.2.2.2.1,()))))
def a5Z(x:((List Int)×Z9)):Option ((List Int)×Int):= (show Option ((List Int)×Z44)from(a3Q (x.2.2.1,x.2.2.2)).bind fun y1=> cond (!y1) (some (x.1,x.2.1,x.2.2.1,x.2.2.2,true,())) (some (x.1,x.2.1,x.2.2.1,x.2.2.2,(x.1.length:Int) != (x.2.2.1.length:Int),()))).bind fun z2=> cond z2.2.2.2.2.1 (some ([],1)) ((show Option ((List Int)×Z44)from(a2i z2.1).bind fun y3=> cond (!y3) (some (z2.1,z2.2.1,z2.2.2.1,z2.2.2.2.1,true,())) ((a2i z2.2.1).bind fun y4=> some (z2.1,z2.2.1,z2.2.2.1,z2.2.2.2.1,!y4,()))).bind fun z5=> cond z5.2.2.2.2.1 (some ([],6)) (cond ((decide (0≤(wrap .i64 ((z5.1.length:Int)+(z5.2.1.length:Int)))))&&(lim (a01 (wrap .i64 ((z5.1.length:Int)+(z5.2.1.length:Int)))))) (cond (lim (0+(a02 z5.1))) ((x0r a5I (z5.2.2.1,z5.2.2.2.1,z5.2.1,(z5.2.1.length:Int),0,a03 [] z5.1,())).bind fun w9=> match w9 with |.inl a10=>some (a10.1,0) |.inr b11=>some (b11.2.1,b11.1)) none) none))
def b4s:FSem:=⟨[.v QL,.v QL,.v QL,.v QI],[.o QI,.v QI],a5Z⟩
def c9P:Hints:=⟨[(506,[.sv 2 QL,.sv 3 QI,.sv 42 QL,.sv 43 QI,.sv 44 QI,.own 10 10 QI],[(.exit 0,[.own 10 10 QI]),(.ret,[.sv 9 QI,.own 8 8 QI])])],[(6,[(.normal,[.sv 0 QL,.sv 1 QL,.sv 2 QL,.sv 3 QI,.sv 24 .bool])]),(14,[(.normal,[.sv 0 QL,.sv 1 QL,.sv 2 QL,.sv 3 QI,.sv 32 .bool])])],[]⟩
def a7g(s:Z73):Option (Z73 ⊕ Z42):= cond (decide (s.2.2.2.1<s.2.2.1)) ((l0z s.2.1 s.2.2.2.1).bind fun x3=> (a3K (s.2.2.2.2.1,s.2.2.2.1,s.1,s.2.2.2.2.2.1)).bind fun y4=> (a6p (wrap .i64 (x3+y4))).bind fun y5=> cond (!y5) (some (.inr (Sum.inr ((6,[],()))))) (cond (lim ((a02 s.2.2.2.2.1)+1)) (some (.inl (s.1,s.2.1,s.2.2.1,wrap .i64 (s.2.2.2.1+1),a03 s.2.2.2.2.1 [wrap .i64 (x3+y4)],s.2.2.2.2.2.1,()))) none)) (some (.inr (Sum.inl (s.2.2.2.2.1,()))))
def a9E(x:((List Int)×(Int×(List Int)))):Option ((List Int)×Int):= (a7d (x.2.1,x.2.2)).bind fun y1=> cond (!y1) (some ([],1)) ((a3J x.1).bind fun y2=> cond (!y2) (some ([],6)) (cond ((decide (0≤(x.1.length:Int)))&&(lim (a01 (x.1.length:Int)))) ((x0r a7g (x.2.1,x.1,(x.1.length:Int),0,[],x.2.2,())).bind fun w6=> match w6 with |.inl a7=>some (a7.1,0) |.inr b8=>some (b8.2.1,b8.1)) none))
def b5A:FSem:=⟨[.v QL,.v QI,.v (.arr 3 QI)],[.o QI,.v QI],a9E⟩
def c9Q:Hints:=⟨[(250,[.sv 1 QI,.sv 22 QL,.sv 23 QI,.sv 24 QI,.own 8 8 QI,.vp 5 (.arr 3 QI)],[(.exit 0,[.own 8 8 QI]),(.ret,[.sv 7 QI,.own 6 6 QI])])],[],[]⟩
def a4A(s:(Int×(Int×((List Int)×Z74)))):Option ((Int×(Int×((List Int)×Z74))) ⊕ (Z25 ⊕ Z25)):= cond (decide (s.2.1<s.1)) (cond ((decide (0≤s.2.1))&&(decide (s.2.1<(s.2.2.2.2.1.length:Int)))) ((a1K s.2.2.2.2.2.1).bind fun y6=> (a5g (wrap .i64 (y6.1+(a04 s.2.2.2.2.1 (a01 s.2.1) 0)))).bind fun y7=> cond (!y7) (some (.inr (Sum.inr (([],6,s.2.2.2.2.1,()))))) ((a2K (y6.2,wrap .i64 (y6.1+(a04 s.2.2.2.2.1 (a01 s.2.1) 0)))).bind fun y8=> cond ((decide (0≤s.2.1))&&(decide (s.2.1<(s.2.2.2.2.1.length:Int)))) (some (.inl (s.1,wrap .i64 (s.2.1+1),s.2.2.1,s.2.2.2.1,a25 s.2.2.2.2.1 (a01 s.2.1) (wrap .i64 (y6.1+(a04 s.2.2.2.2.1 (a01 s.2.1) 0))),y8,()))) none)) none) (some (.inr (Sum.inl (s.2.2.1,s.2.2.2.1,s.2.2.2.2.1,()))))
def a6F(k:Int)(v:(Int×Int×Unit))(s:(Z6×Z25)):Option ((Z6×Z25) ⊕ (Ex×Z6×Z25)):= (a7E v).bind fun y4=> cond (y4.2 != 0) (some (.inr (.ret,s.1,[],y4.2,s.2.2.2.1,()))) ((x0r a4A ((s.2.2.2.1.length:Int),0,s.2.1,s.2.2.1,s.2.2.2.1,y4.1,())).bind fun w9=> match w9 with |.inl a10=>some (.inl (s.1,a10.1,a10.2.1,a10.2.2.1,())) |.inr b11=>some (.inr (.ret,s.1,b11.1,b11.2.1,b11.2.2.1,())))
def a8A(x:((List Int)×Z6)):Option ((List Int)×Int):= (a6q x.2).bind fun y1=> cond (!y1) (some ([],1)) ((a4w x.1).bind fun y2=> cond (!y2) (some ([],6)) ((a0Z x.1).bind fun y3=> cond (lim (a02 x.2)) ((k0w a6F x.2 (a02 x.2) (x.2,[],0,y3,())).bind fun w12=> match w12 with |.inl a13=>some (a13.2.2.2.1,0) |.inr (.normal,a14)=>some (a14.2.2.2.1,0) |.inr (.exit e15,a14)=>(cond (e15==0) (some (a14.2.2.2.1,0)) none) |.inr (.ret,a14)=>some (a14.2.1,a14.2.2.1)) none))
def a6M:FSem:=⟨[.v QL,.v (.list false Q3)],[.v QL,.v QI],a8A⟩
def c9R:Hints:=⟨[(8046,[.sv 35 QI,.sv 36 QI,.box 1001004 QL,.box 1001005 QI,.box 1001006 (.list true QI),.box 1028 Q12,.ptr 4 1001004 [],.ptr 5 1001005 [],.ptr 6 1001006 [],.ptr 9 1028 [],.ref 34 1001006 []],[(.exit 2,[.box 1001004 QL,.box 1001005 QI,.box 1001006 (.list true QI),.ptr 4 1001004 [],.ptr 5 1001005 [],.ptr 6 1001006 []]),(.ret,[.box 1001004 QL,.box 1001005 QI,.box 1001006 (.list true QI),.ptr 4 1001004 [],.ptr 5 1001005 [],.ptr 6 1001006 []])])],[],[]⟩
def c4G:Cx:=a7t [(183,a0W),(213,a9y),(296,a8t),(298,b2J),(299,a3t),(300,a8s),(301,a6x)] [(6,.list true QI)] [0,1,9,10,11,12,13] [56]
def c5Y:HintR:=⟨22,Q3,297,326,[4,5,6],[.sv 22 (.list false Q3),.box 1001004 QL,.box 1001005 QI,.box 1001006 (.list true QI),.ptr 4 1001004 [],.ptr 5 1001005 [],.ptr 6 1001006 []]⟩
theorem c6K(x):y0f c4G c9R c5Y Tryz.f240 a6M.ps a6M.rs x=a6M.F x:=by kernel_rfl
def a7h(s:Z52):Option (Z52 ⊕ Z42):= cond (decide (s.2.2.2.1<s.2.2.1)) ((l0z s.2.1 s.2.2.2.1).bind fun x2=> (show Option (Int×(Int×((List Int)×(Int×(Int×(Bool×((List Int)×Unit)))))))from(a4l x2).bind fun y3=> cond (!y3) (some (s.1,x2,s.2.1,s.2.2.1,s.2.2.2.1,true,s.2.2.2.2.1,())) (cond (decide (s.1<0)) none ((a4l (z0g .i64 x2 s.1)).bind fun y4=> some (s.1,x2,s.2.1,s.2.2.1,s.2.2.2.1,!y4,s.2.2.2.2.1,())))).bind fun z5=> cond z5.2.2.2.2.2.1 (some (.inr (Sum.inr ((6,[],()))))) (cond (decide (z5.1<0)) none (cond (lim ((a02 z5.2.2.2.2.2.2.1)+1)) (some (.inl (z5.1,z5.2.2.1,z5.2.2.2.1,wrap .i64 (z5.2.2.2.2.1+1),a03 z5.2.2.2.2.2.2.1 [z0g .i64 z5.2.1 z5.1],()))) none))) (some (.inr (Sum.inl (s.2.2.2.2.1,()))))
def a7H(x:((List Int)×Int)):Option ((List Int)×Int):= (show Option Z17 from cond (decide (x.2<0)) (some (x.1,x.2,true,())) (some (x.1,x.2,decide (x.2 > 30),()))).bind fun z1=> cond z1.2.2.1 (some ([],1)) ((x0r a7h (z1.2.1,z1.1,(z1.1.length:Int),0,[],())).bind fun w6=> match w6 with |.inl a7=>some (a7.1,0) |.inr b8=>some (b8.2.1,b8.1))
def b5B:FSem:=⟨[.v QL,.v QI],[.o QI,.v QI],a7H⟩
def c9S:Hints:=⟨[(122,[.sv 1 QI,.sv 15 QL,.sv 16 QI,.sv 17 QI,.own 6 6 QI],[(.exit 0,[.own 6 6 QI]),(.ret,[.sv 5 QI,.own 4 4 QI])])],[(6,[(.normal,[.sv 0 QL,.sv 1 QI,.sv 14 .bool])]),(15666,[(.normal,[.sv 1 QI,.sv 8 QI,.sv 15 QL,.sv 16 QI,.sv 17 QI,.sv 30 .bool,.own 6 6 QI])])],[]⟩
def a6a(s:(Int×(Int×((List Int)×Z95)))):Option ((Int×(Int×((List Int)×Z95))) ⊕ ((List Int)×Unit)):= cond (decide (s.2.1<s.1)) ((l0z s.2.2.2.1.2.2.2.2.2.2.2.2.1 0).bind fun x1=> cond (lim ((a02 s.2.2.1)+1)) (some (.inl (s.1,wrap .i64 (s.2.1+1),a03 s.2.2.1 [x1],s.2.2.2.1,()))) none) (some (.inr (s.2.2.1,())))
def b1d(x:Z94):Option ((List Int)×Int):= (show Option (((List Int)×(Int×Z95)) ⊕ Z4)from cond (x.1.1==0) ((x0r a6a (x.2,0,[],x.1,())).bind fun w2=> some (Sum.inr ((0,w2.1,())))) (cond (x.1.1==1) (some (Sum.inl (x.1.2.2.2.2.2.2.2.2.1,0,x.1,()))) (cond (x.1.1==2) ((a8z (x.1.2.2.2.2.2.2.2.2.1,x.1.2.2.2.2.2.2.2.2.2.2.1,x.1.2.2.1)).bind fun y3=> some (Sum.inl (y3.1,y3.2,x.1,()))) (cond (x.1.1==3) ((a5Z (x.1.2.2.2.2.2.2.2.2.1,x.1.2.2.2.2.2.2.2.2.2.2.1,x.1.2.2.2.2.2.1,x.1.2.2.2.1)).bind fun y4=> some (Sum.inl (y4.1,y4.2,x.1,()))) (cond (x.1.1==4) ((a5Z (x.1.2.2.2.2.2.2.2.2.1,x.1.2.2.2.2.2.2.2.2.2.2.1,x.1.2.2.2.2.2.1,x.1.2.2.2.1)).bind fun y5=> cond (y5.2==0) ((a9E (y5.1,x.1.2.2.2.2.1,x.1.2.2.2.2.2.2.1)).bind fun y6=> some (Sum.inl (y6.1,y6.2,x.1,()))) (some (Sum.inl (y5.1,y5.2,x.1,())))) (cond (x.1.1==5) ((a8A (x.1.2.2.2.2.2.2.2.2.2.2.1,x.1.2.2.2.2.2.2.2.1)).bind fun y7=> some (Sum.inl (y7.1,y7.2,x.1,()))) (some (Sum.inl ([],0,x.1,()))))))))).bind fun z8=> match z8 with |.inl a9=>(cond (a9.2.1 != 0) (some ([],a9.2.1)) ((a7H (a9.1,a9.2.2.1.2.1)).bind fun y11=> some (y11.1,y11.2))) |.inr b10=>some (b10.2.1,b10.1)
def b6z:FSem:=⟨[.v Q31,.v QI],[.o QI,.v QI],b1d⟩
def c9T:Hints:=⟨[(3922,[.sv 12 QI,.sv 13 QI,.own 6 6 QI,.vp 2 Q31],[(.exit 1,[.own 6 6 QI])])],[(15,[(.normal,[.sv 6 QL,.sv 7 QI,.vp 2 Q31]),(.ret,[.sv 5 QI,.own 4 6 QI])])],[]⟩
def a9Z(x:Z94):Option ((List Int)×Int):= (a8y (x.1,x.2)).bind fun y1=> cond (!y1) (some ([],1)) ((b1d (x.1,x.2)).bind fun y2=> cond (y2.2 != 0) (some ([],1)) (some (y2.1,0)))
def b4Q:FSem:=⟨[.v Q31,.v QI],[.o QI,.v QI],a9Z⟩
def c9U:Hints:=⟨[],[],[]⟩
def a8g(x:Z94):Option Bool:= (a9Z (x.1,x.2)).bind fun y1=> some (y1.2==0)
def b4R:FSem:=⟨[.v Q31,.v QI],[.v .bool],a8g⟩
def c9V:Hints:=⟨[],[],[]⟩
def a1R(x:(Z5×Int)):Option Z5:= (show Option Z33 from cond ((a20 x.1.2.1 8)==0) (cond (lim ((a02 x.1.1)+1)) (some (x.2,(a03 x.1.1 [0],x.1.2),())) none) (some (x.2,x.1,()))).bind fun z1=> cond ((decide (0≤(wrap .i64 (a09 z1.2.1.2.1 8))))&&(decide ((wrap .i64 (a09 z1.2.1.2.1 8))<(z1.2.1.1.length:Int)))) (cond (decide ((wrap .i64 (7-(a20 z1.2.1.2.1 8)))<0)) none (cond ((decide (0≤(wrap .i64 (a09 z1.2.1.2.1 8))))&&(decide ((wrap .i64 (a09 z1.2.1.2.1 8))<(z1.2.1.1.length:Int)))) (some (a25 z1.2.1.1 (a01 (wrap .i64 (a09 z1.2.1.2.1 8))) (bits .u8 .or (a04 z1.2.1.1 (a01 (wrap .i64 (a09 z1.2.1.2.1 8))) 0) (z0g .u8 z1.1 (wrap .i64 (7-(a20 z1.2.1.2.1 8))))),wrap .i64 (z1.2.1.2.1+1),z1.2.1.2.2)) none)) none
def a4U:FSem:=⟨[.r false (.b Q5),.v (.int .u8)],[],a1R⟩
def c9W:Hints:=⟨[],[(1,[(.normal,[.sv 1 (.int .u8),.box pinned Q5,.ptr 0 pinned []])])],[(2,[.p,.p,.q,.q,.p,.p,.q,.q,.v,.q,.q,.v,.p,.p,.q,.q,.v,.v,.v,.x,.x,.x])]⟩
def a3u(s:Z48):Option (Z48 ⊕ Z20):= cond (decide (s.2.1≥0)) (cond (decide (s.2.1<0)) none ((a1R (s.2.2.1,wrap .u8 (bits .u64 .and (z0h .u64 s.1 s.2.1) 1))).bind fun y2=> some (.inl (s.1,wrap .i64 (s.2.1-1),y2,())))) (some (.inr (s.2.2.1,())))
def a0F(x:(Z5×Int×Int)):Option Z16:= (show Option (Int×Int×Bool×Z20)from cond (decide (x.2.2<0)) (some (x.2.1,x.2.2,true,x.1,())) (cond (decide (x.2.2 > 64)) (some (x.2.1,x.2.2,true,x.1,())) (cond (decide (x.2.2<0)) none (some (x.2.1,x.2.2,(z0h .u64 x.2.1 x.2.2) != 0,x.1,()))))).bind fun z1=> cond z1.2.2.1 (some (1,z1.2.2.2.1)) ((x0r a3u (z1.1,wrap .i64 (z1.2.1-1),z1.2.2.2.1,())).bind fun w3=> some (0,w3.1))
def a2x:FSem:=⟨[.r false (.b Q5),.v (.int .u64),.v QI],[.v QI],a0F⟩
def c9X:Hints:=⟨[(58,[.sv 1 (.int .u64),.sv 7 QI,.box pinned Q5,.ptr 0 pinned []],[(.exit 0,[.box pinned Q5])])],[(6,[(.normal,[.sv 1 (.int .u64),.sv 2 QI,.sv 19 .bool,.box pinned Q5,.ptr 0 pinned []])])],[]⟩
def a2r(x:(Z5×Int×Int)):Option Z5:= cond (decide (x.2.2<0)) none ((a0F (x.1,bits .u64 .and (wrap .u64 x.2.1) (wrap .u64 ((z0g .u64 1 x.2.2)-1)),x.2.2)).bind fun y1=> some y1.2)
def a8B:FSem:=⟨[.r false (.b Q5),.v QI,.v QI],[],a2r⟩
def c9Y:Hints:=⟨[],[],[]⟩
def a4V(s:Z76):Option (Z76 ⊕ Z20):= cond (decide (s.2.2.2.1<s.2.2.1)) ((l0z s.2.1 s.2.2.2.1).bind fun x6=> (a2r (s.2.2.2.2.1,x6,s.1)).bind fun y7=> some (.inl (s.1,s.2.1,s.2.2.1,wrap .i64 (s.2.2.2.1+1),y7,()))) (some (.inr (s.2.2.2.2.1,())))
def a7i(x:(Z5×Z92)):Option Z5:= (a0F (x.1,wrap .u64 (wrap .i64 ((x.2.2.2.2.2.2.1.length:Int)-1)),5)).bind fun y1=> (a0F (y1.2,wrap .u64 x.2.2.2.2.1,4)).bind fun y2=> (a1k x.2.2.2.2.2.2.1).bind fun y3=> (a0F (y2.2,wrap .u64 y3,5)).bind fun y4=> (x0r a4V (y3,x.2.2.2.2.2.2.1,(x.2.2.2.2.2.2.1.length:Int),0,y4.2,())).bind fun w8=> some w8.1
def b3c:FSem:=⟨[.r false (.b Q5),.v Q31],[],a7i⟩
def c9Z:Hints:=⟨[(254,[.sv 4 QI,.sv 27 QL,.sv 28 QI,.sv 29 QI,.box pinned Q5,.ptr 0 pinned []],[(.exit 0,[.box pinned Q5])])],[],[]⟩
def a2T(s:Z48):Option (Z48 ⊕ Z20):= cond (decide (s.2.1<s.1)) ((a1R (s.2.2.1,0)).bind fun y2=> some (.inl (s.1,wrap .i64 (s.2.1+1),y2,()))) (some (.inr (s.2.2.1,())))
def a2a(x:(Z5×Int)):Option Z16:= (show Option (Int×Bool×Z20)from cond (decide (x.2<0)) (some (x.2,true,x.1,())) (some (x.2,decide (x.2 > 4096),x.1,()))).bind fun z1=> cond z1.2.1 (some (1,z1.2.2.1)) ((x0r a2T (z1.1,0,z1.2.2.1,())).bind fun w3=> (a1R (w3.1,1)).bind fun y4=> some (0,y4))
def a8X:FSem:=⟨[.r false (.b Q5),.v QI],[.v QI],a2a⟩
def d0A:Hints:=⟨[(58,[.sv 11 QI,.sv 12 QI,.box pinned Q5,.ptr 0 pinned []],[(.exit 0,[.box pinned Q5,.ptr 0 pinned []])])],[(6,[(.normal,[.sv 1 QI,.sv 10 .bool,.box pinned Q5,.ptr 0 pinned []])])],[]⟩
def a7S(s:(Int×((List Int)×Z68))):Option ((Int×((List Int)×Z68)) ⊕ ((Int×((List Int)×Z20)) ⊕ Z33)):= cond (decide (s.2.2.2.2.1<s.2.2.2.1)) ((l0z s.2.2.1 s.2.2.2.2.1).bind fun x2=> (a6s x2).bind fun y3=> cond (!y3) (some (.inr (Sum.inr ((1,s.2.2.2.2.2.1,()))))) (some (.inl (s.1,s.2.1,s.2.2.1,s.2.2.2.1,wrap .i64 (s.2.2.2.2.1+1),s.2.2.2.2.2.1,())))) (some (.inr (Sum.inl (s.1,s.2.1,s.2.2.2.2.2.1,()))))
def a6b(s:Z76):Option (Z76 ⊕ Z20):= cond (decide (s.2.2.2.1<s.2.2.1)) ((l0z s.2.1 s.2.2.2.1).bind fun x7=> (a7G x7).bind fun y8=> cond (decide (s.1<0)) none (cond (decide ((z0h .u64 y8 s.1)<32)) ((a2a (s.2.2.2.2.1,wrap .i64 (z0h .u64 y8 s.1))).bind fun y9=> cond (decide (s.1<0)) none ((a0F (y9.2,wrap .u64 (y8-(z0g .u64 (z0h .u64 y8 s.1) s.1)),s.1)).bind fun y10=> some (.inl (s.1,s.2.1,s.2.2.1,wrap .i64 (s.2.2.2.1+1),y10.2,())))) ((a2a (s.2.2.2.2.1,32)).bind fun y11=> (a0F (y11.2,y8,32)).bind fun y12=> some (.inl (s.1,s.2.1,s.2.2.1,wrap .i64 (s.2.2.2.1+1),y12.2,()))))) (some (.inr (s.2.2.2.2.1,())))
def b1e(x:(Z5×(Int×(List Int)))):Option Z16:= (a1H x.2.1).bind fun y1=> cond (!y1) (some (1,x.1)) ((x0r a7S (x.2.1,x.2.2,x.2.2,(x.2.2.length:Int),0,x.1,())).bind fun w4=> match w4 with |.inl a5=>((x0r a6b (a5.1,a5.2.1,(a5.2.1.length:Int),0,a5.2.2.1,())).bind fun w13=> some (0,w13.1)) |.inr b6=>some (b6.1,b6.2.1))
def b6A:FSem:=⟨[.r false (.b Q5),.v QI,.v QL],[.v QI],b1e⟩
def d0B:Hints:=⟨[(58,[.sv 1 QI,.sv 2 QL,.sv 16 QL,.sv 17 QI,.sv 18 QI,.box pinned Q5,.ptr 0 pinned []],[(.exit 0,[.sv 1 QI,.sv 2 QL,.box pinned Q5,.ptr 0 pinned []]),(.ret,[.sv 6 QI,.box pinned Q5])]),(122,[.sv 1 QI,.sv 26 QL,.sv 27 QI,.sv 28 QI,.box pinned Q5,.ptr 0 pinned []],[(.exit 2,[.box pinned Q5])])],[],[]⟩
def a7j(s:((List Int)×(Int×Int×Int×Z86))):Option (((List Int)×(Int×Int×Int×Z86)) ⊕ Z86):= cond (decide (s.2.2.2.2.2.2.1<s.2.2.2.2.2.1)) ((l0z s.2.2.2.2.1 s.2.2.2.2.2.2.1).bind fun x11=> cond (decide (s.2.1<0)) none ((a0F (s.2.2.2.2.2.2.2.2.1,bits .u64 .and (wrap .u64 x11) (wrap .u64 ((z0g .u64 1 s.2.1)-1)),s.2.1)).bind fun y12=> some (.inl (s.1,s.2.1,s.2.2.1,s.2.2.2.1,s.2.2.2.2.1,s.2.2.2.2.2.1,wrap .i64 (s.2.2.2.2.2.2.1+1),s.2.2.2.2.2.2.2.1,y12.2,s.2.2.2.2.2.2.2.2.2.1,())))) (some (.inr (s.1,s.2.2.1,s.2.2.2.1,s.2.2.2.2.2.2.2.1,s.2.2.2.2.2.2.2.2.1,s.2.2.2.2.2.2.2.2.2.1,())))
def a3M(s:Z86):Option (Z86 ⊕ Z20):= cond (decide (s.2.2.1<s.2.1)) (cond ((decide (0≤s.2.2.1))&&(decide (s.2.2.1<(s.2.2.2.1.length:Int)))) (cond ((decide (0≤(a04 s.2.2.2.1 (a01 s.2.2.1) 0)))&&(decide ((a04 s.2.2.2.1 (a01 s.2.2.1) 0)≤(s.1.length:Int)))) (cond ((decide (0≤(a04 s.2.2.2.1 (a01 s.2.2.1) 0)))&&(decide ((a04 s.2.2.2.1 (a01 s.2.2.1) 0)≤(s.1.length:Int)))) ((l0z s.2.2.2.2.2.1.2.1 s.2.2.1).bind fun x4=> (a0F (s.2.2.2.2.1,wrap .u64 x4,5)).bind fun y5=> (l0z s.2.2.2.2.2.1.2.1 s.2.2.1).bind fun x6=> cond (x6 != 31) ((l0z s.2.2.2.2.2.1.2.1 s.2.2.1).bind fun x7=> (b1e (y5.2,x7,a08 (a01 (a04 s.2.2.2.1 (a01 s.2.2.1) 0)) s.1)).bind fun y8=> some (.inl (a32 (a01 (a04 s.2.2.2.1 (a01 s.2.2.1) 0)) (a08 (a02 s.1) s.1),s.2.1,wrap .i64 (s.2.2.1+1),s.2.2.2.1,y8.2,s.2.2.2.2.2.1,()))) ((a1k (a08 (a01 (a04 s.2.2.2.1 (a01 s.2.2.1) 0)) s.1)).bind fun y9=> (a0F (y5.2,wrap .u64 y9,5)).bind fun y10=> (x0r a7j (a32 (a01 (a04 s.2.2.2.1 (a01 s.2.2.1) 0)) (a08 (a02 s.1) s.1),y9,s.2.1,s.2.2.1,a08 (a01 (a04 s.2.2.2.1 (a01 s.2.2.1) 0)) s.1,((a02 (a08 (a01 (a04 s.2.2.2.1 (a01 s.2.2.1) 0)) s.1):Nat):Int),0,s.2.2.2.1,y10.2,s.2.2.2.2.2.1,())).bind fun w13=> some (.inl (w13.1,w13.2.1,wrap .i64 (w13.2.2.1+1),w13.2.2.2.1,w13.2.2.2.2.1,w13.2.2.2.2.2.1,())))) none) none) none) (some (.inr (s.2.2.2.2.1,())))
def a9F(x:(Z5×Z4×Z3)):Option Z16:= (a3U (x.2.1,x.2.2.1,x.2.2.2.1,x.2.2.2.2)).bind fun y1=> cond (y1==0) (some (1,x.1)) ((a0F (x.1,wrap .u64 x.2.1.1,4)).bind fun y2=> (a2A (x.2.1.1,x.2.2.1,x.2.2.2.1)).bind fun y3=> (x0r a3M (x.2.2.2.2,(y3.length:Int),0,y3,y2.2,x.2.1,())).bind fun w14=> some (0,w14.1))
def b5C:FSem:=⟨[.r false (.b Q5),.v Q7,.v QI,.v QI,.v QL],[.v QI],a9F⟩
def d0C:Hints:=⟨[(122,[.sv 4 QL,.sv 33 QI,.sv 34 QI,.own 32 1032 QI,.box pinned Q5,.ptr 0 pinned [],.vp 6 Q7],[(.exit 0,[.box pinned Q5])]),(2005502,[.sv 4 QL,.sv 14 QI,.sv 33 QI,.sv 34 QI,.sv 73 QL,.sv 74 QI,.sv 75 QI,.own 32 1032 QI,.box pinned Q5,.ptr 0 pinned [],.vp 6 Q7],[(.exit 2,[.sv 4 QL,.sv 33 QI,.sv 34 QI,.own 32 1032 QI,.box pinned Q5,.ptr 0 pinned [],.vp 6 Q7])])],[],[]⟩
def a8C(s:(Int×(Int×((List Int)×c1J)))):Option ((Int×(Int×((List Int)×c1J))) ⊕ b2G):= cond (decide (s.2.2.2.1<3)) ((l0z s.2.2.1 s.2.2.2.1).bind fun x8=> (a2r (s.2.2.2.2.1,x8,8)).bind fun y9=> some (.inl (s.1,s.2.1,s.2.2.1,wrap .i64 (s.2.2.2.1+1),y9,s.2.2.2.2.2.1,()))) (some (.inr (s.1,s.2.1,s.2.2.2.2.1,s.2.2.2.2.2.1,())))
def a8D(s:(Int×Int×Z6×b2G)):Option ((Int×Int×Z6×b2G) ⊕ b2G):= cond (decide (s.2.2.2.2.1<s.2.2.2.1)) ((l0z s.2.2.1 s.2.2.2.2.1).bind fun x18=> (a0F (s.2.2.2.2.2.1,wrap .u64 (wrap .i64 (x18.1-1)),5)).bind fun y19=> (a0F (y19.2,wrap .u64 x18.2.1,4)).bind fun y20=> some (.inl (s.1,s.2.1,s.2.2.1,s.2.2.2.1,wrap .i64 (s.2.2.2.2.1+1),y20.2,s.2.2.2.2.2.2.1,()))) (some (.inr (s.1,s.2.1,s.2.2.2.2.2.1,s.2.2.2.2.2.2.1,())))
def a8E(s:(Int×(Int×((List Int)×b2G)))):Option ((Int×(Int×((List Int)×b2G))) ⊕ c1J):= cond (decide (s.2.2.2.2.1<s.2.2.2.1)) ((l0z s.2.2.1 s.2.2.2.2.1).bind fun x23=> (a2r (s.2.2.2.2.2.1,x23,s.2.1)).bind fun y24=> some (.inl (s.1,s.2.1,s.2.2.1,s.2.2.2.1,wrap .i64 (s.2.2.2.2.1+1),y24,s.2.2.2.2.2.2.1,()))) (some (.inr (s.1,s.2.2.2.2.2.1,s.2.2.2.2.2.2.1,())))
def a8h(x:(Z5×Z94)):Option Z16:= (a8g (x.2.1,x.2.2)).bind fun y1=> cond (!y1) (some (1,x.1)) ((a1k x.2.1.2.2.2.2.2.2.2.2.1).bind fun y2=> (a0F (x.1,wrap .u64 x.2.1.1,3)).bind fun y3=> (a0F (y3.2,wrap .u64 x.2.1.2.1,5)).bind fun y4=> (a0F (y4.2,wrap .u64 y2,5)).bind fun y5=> (show Option b2G from(show Option (b2G ⊕ (b2G ⊕ b2G))from cond (x.2.1.1==2) ((a0F (y5.2,wrap .u64 x.2.1.2.2.1,3)).bind fun y6=> some (Sum.inr (Sum.inl (x.2.2,y2,y6.2,x.2.1,())))) (cond (x.2.1.1==4) ((a0F (y5.2,wrap .u64 (wrap .i64 (x.2.1.2.2.2.2.1-1)),10)).bind fun y7=> (x0r a8C (x.2.2,y2,x.2.1.2.2.2.2.2.2.1,0,y7.2,x.2.1,())).bind fun w10=> some (Sum.inl (w10.1,w10.2.1,w10.2.2.1,w10.2.2.2.1,()))) (cond (x.2.1.1==3) (some (Sum.inl (x.2.2,y2,y5.2,x.2.1,()))) (cond (x.2.1.1==5) (some (Sum.inr (Sum.inr ((x.2.2,y2,y5.2,x.2.1,()))))) (some (Sum.inr (Sum.inl (x.2.2,y2,y5.2,x.2.1,())))))))).bind fun z11=> match z11 with |.inl a12=>((a7i (a12.2.2.1,a12.2.2.2.1)).bind fun y14=> some (a12.1,a12.2.1,y14,a12.2.2.2.1,())) |.inr b13=>(match b13 with |.inl a15=>some (a15.1,a15.2.1,a15.2.2.1,a15.2.2.2.1,()) |.inr b16=>((a0F (b16.2.2.1,wrap .u64 (b16.2.2.2.1.2.2.2.2.2.2.2.1.length:Int),2)).bind fun y17=> (x0r a8D (b16.1,b16.2.1,b16.2.2.2.1.2.2.2.2.2.2.2.1,(b16.2.2.2.1.2.2.2.2.2.2.2.1.length:Int),0,y17.2,b16.2.2.2.1,())).bind fun w21=> some (w21.1,w21.2.1,w21.2.2.1,w21.2.2.2.1,())))).bind fun z22=> (x0r a8E (z22.1,z22.2.1,z22.2.2.2.1.2.2.2.2.2.2.2.2.1,(z22.2.2.2.1.2.2.2.2.2.2.2.2.1.length:Int),0,z22.2.2.1,z22.2.2.2.1,())).bind fun w25=> (a5h w25.2.2.1.1).bind fun y26=> cond (!y26) (some (0,w25.2.1)) ((a9F (w25.2.1,w25.2.2.1.2.2.2.2.2.2.2.2.2.1,w25.1,(w25.2.2.1.2.2.2.2.2.2.2.2.1.length:Int),w25.2.2.1.2.2.2.2.2.2.2.2.2.2.1)).bind fun y27=> some (y27.1,y27.2)))
def b4S:FSem:=⟨[.r false (.b Q5),.v Q31,.v QI],[.v QI],a8h⟩
def H62:Hints:=⟨[(2042,[.sv 2 QI,.sv 7 QI,.sv 94 QL,.sv 95 QI,.sv 96 QI,.box pinned Q5,.ptr 0 pinned [],.vp 4 Q31],[(.exit 9,[.sv 2 QI,.box pinned Q5,.ptr 0 pinned [],.vp 4 Q31])]),(32598,[.sv 2 QI,.sv 7 QI,.sv 75 (.list false Q3),.sv 76 QI,.sv 77 QI,.box pinned Q5,.ptr 0 pinned [],.vp 4 Q31],[(.exit 7,[.sv 2 QI,.sv 7 QI,.box pinned Q5,.ptr 0 pinned [],.vp 4 Q31])]),(260622,[.sv 2 QI,.sv 7 QI,.sv 57 (.arr 3 QI),.sv 58 QI,.box pinned Q5,.ptr 0 pinned [],.vp 4 Q31],[(.exit 5,[.sv 2 QI,.sv 7 QI,.box pinned Q5,.ptr 0 pinned [],.vp 4 Q31])])],[(127,[(.normal,[.sv 2 QI,.sv 7 QI,.box pinned Q5,.ptr 0 pinned [],.vp 4 Q31])]),(4072,[(.normal,[.sv 2 QI,.sv 7 QI,.box pinned Q5,.ptr 0 pinned [],.vp 4 Q31]),(.exit 0,[.sv 2 QI,.sv 7 QI,.box pinned Q5,.ptr 0 pinned [],.vp 4 Q31]),(.exit 4,[.sv 2 QI,.sv 7 QI,.box pinned Q5,.ptr 0 pinned [],.vp 4 Q31])])],[]⟩
def a7u(x:Z5):Option Z16:= some (x.2.1,x)
def b0W:FSem:=⟨[.r false (.b Q5)],[.v QI],a7u⟩
def d0D:Hints:=⟨[],[],[]⟩
def a2U(x:Z94):Option Int:= (a8h (([],0,()),x.1,x.2)).bind fun y1=> cond (y1.1 != 0) (some 0) ((a7u y1.2).bind fun y2=> some y2.1)
def b6B:FSem:=⟨[.v Q31,.v QI],[.v QI],a2U⟩
def d0E:Hints:=⟨[],[],[]⟩
def a6c(s:((List Int)×(Int×Bool×Z93×c1M))):Option (((List Int)×(Int×Bool×Z93×c1M)) ⊕ b0I):= cond (decide (s.2.2.2.2.2.1<s.2.2.2.2.1)) ((l0z s.2.2.2.1 s.2.2.2.2.2.1).bind fun x6=> (b1c (x6.1,s.1,x6)).bind fun y7=> cond (y7.2 != 0) (some (.inl (s.1,s.2.1,s.2.2.1,s.2.2.2.1,s.2.2.2.2.1,wrap .i64 (s.2.2.2.2.2.1+1),s.2.2.2.2.2.2.1,s.2.2.2.2.2.2.2.1,()))) ((a2U (y7.1,(s.1.length:Int))).bind fun y8=> (show Option ((List Int)×(Int×Bool×Int×Z93×Int×Int×Bool×Z92×b0I))from cond (!s.2.2.1) (some (s.1,s.2.1,s.2.2.1,y8,s.2.2.2.1,s.2.2.2.2.1,s.2.2.2.2.2.1,true,s.2.2.2.2.2.2.1,s.2.2.2.2.2.2.2.1,y7.1,())) (some (s.1,s.2.1,s.2.2.1,y8,s.2.2.2.1,s.2.2.2.2.1,s.2.2.2.2.2.1,decide (y8<s.2.1),s.2.2.2.2.2.2.1,s.2.2.2.2.2.2.2.1,y7.1,()))).bind fun z9=> cond z9.2.2.2.2.2.2.2.1 (some (.inl (z9.1,z9.2.2.2.1,true,z9.2.2.2.2.1,z9.2.2.2.2.2.1,wrap .i64 (z9.2.2.2.2.2.2.1+1),z9.2.2.2.2.2.2.2.2.1,z9.2.2.2.2.2.2.2.2.2.2.1,()))) (some (.inl (z9.1,z9.2.1,z9.2.2.1,z9.2.2.2.2.1,z9.2.2.2.2.2.1,wrap .i64 (z9.2.2.2.2.2.2.1+1),z9.2.2.2.2.2.2.2.2.1,z9.2.2.2.2.2.2.2.2.2.1,()))))) (some (.inr (s.2.2.2.2.2.2.1,s.2.2.2.2.2.2.2.1,())))
def a3v(x:((List Int)×Int)):Option Z94:= (show Option ((List Int)×Z98)from cond (decide ((x.1.length:Int)<1)) (some (x.1,x.2,true,(0,0,0,0,0,[],a00 3 0,[],[],(0,[],()),[],()),())) (cond (decide ((x.1.length:Int) > 4096)) (some (x.1,x.2,true,(0,0,0,0,0,[],a00 3 0,[],[],(0,[],()),[],()),())) (cond (decide (x.2<0)) (some (x.1,x.2,true,(0,0,0,0,0,[],a00 3 0,[],[],(0,[],()),[],()),())) (some (x.1,x.2,decide (x.2 > 3),(0,0,0,0,0,[],a00 3 0,[],[],(0,[],()),[],()),()))))).bind fun z1=> cond z1.2.2.1 (some ((0,0,0,0,0,[],a00 3 0,[],[],(0,[],()),[],()),1)) ((a2e z1.1).bind fun y2=> cond (!y2) (some ((0,0,0,0,0,[],a00 3 0,[],[],(0,[],()),[],()),6)) ((a3e z1.1).bind fun y3=> (a5U (z1.1,y3)).bind fun y4=> cond (y4.2 != 0) (some ((0,0,0,0,0,[],a00 3 0,[],[],(0,[],()),[],()),y4.2)) ((a5F (y4.1,z1.2.1)).bind fun y5=> (x0r a6c (z1.1,0,false,y5,(y5.length:Int),0,z1.2.2.2.1,(0,0,0,0,0,[],a00 3 0,[],[],(0,[],()),[],()),())).bind fun w10=> some (w10.2.1,0))))
def b6C:FSem:=⟨[.v QL,.v QI],[.v Q31,.v QI],a3v⟩
def H60:Hints:=⟨[(2042,[.sv 0 QL,.sv 9 QI,.sv 10 .bool,.sv 50 (.list false Q31),.sv 51 QI,.sv 52 QI,.box 4 Q31,.box 8 Q31,.ptr 4 4 [],.ptr 8 8 []],[(.exit 0,[.box 4 Q31,.box 8 Q31,.ptr 4 4 [],.ptr 8 8 []])])],[(6,[(.normal,[.sv 0 QL,.sv 1 QI,.sv 31 .bool,.box 4 Q31,.ptr 4 4 []])]),(1045711,[(.normal,[.sv 0 QL,.sv 9 QI,.sv 10 .bool,.sv 15 QI,.sv 50 (.list false Q31),.sv 51 QI,.sv 52 QI,.sv 76 .bool,.box 4 Q31,.box 8 Q31,.box 13 Q31,.ptr 4 4 [],.ptr 8 8 [],.ptr 13 13 []])])],[]⟩
def a4B(s:(Int×((List (List Int))×(Int×Int×a4L×b2H)))):Option ((Int×((List (List Int))×(Int×Int×a4L×b2H))) ⊕ ((a4L×b2H) ⊕ (Int×b2H))):= cond (decide (s.2.2.2.1<s.2.2.1)) ((l0z s.2.1 s.2.2.2.1).bind fun x8=> (a3v (x8,s.1)).bind fun y9=> cond (y9.2 != 0) (some (.inr (Sum.inr ((y9.2,(0,0,(0,0,0,()),[],[],()),()))))) (cond (lim ((a02 s.2.2.2.2.2.1.2.2.2.2.1)+1)) (some (.inl (s.1,s.2.1,s.2.2.1,wrap .i64 (s.2.2.2.1+1),s.2.2.2.2.1,(s.2.2.2.2.2.1.1,s.2.2.2.2.2.1.2.1,s.2.2.2.2.2.1.2.2.1,s.2.2.2.2.2.1.2.2.2.1,a03 s.2.2.2.2.2.1.2.2.2.2.1 ([y9.1]:List Z92),s.2.2.2.2.2.1.2.2.2.2.2),()))) none)) (some (.inr (Sum.inl (s.2.2.2.2.1,s.2.2.2.2.2.1,()))))
def a5i(x:(Z10×Z7×Int×Int)):Option (a4L×Int):= (show Option (Int×Int×Bool×a4L×Z10×Z7×Unit)from(a6m x.1).bind fun y1=> cond (!y1) (some (x.2.2.1,x.2.2.2,true,(0,0,(0,0,0,()),[],[],()),x.1,x.2.1,())) ((a5Q x.2.1).bind fun y2=> cond (!y2) (some (x.2.2.1,x.2.2.2,true,(0,0,(0,0,0,()),[],[],()),x.1,x.2.1,())) (cond (x.1.1 != x.2.1.2.2.1) (some (x.2.2.1,x.2.2.2,true,(0,0,(0,0,0,()),[],[],()),x.1,x.2.1,())) (cond ((x.1.2.1.length:Int) != x.2.1.2.1) (some (x.2.2.1,x.2.2.2,true,(0,0,(0,0,0,()),[],[],()),x.1,x.2.1,())) (cond (decide (x.2.2.2<0)) (some (x.2.2.1,x.2.2.2,true,(0,0,(0,0,0,()),[],[],()),x.1,x.2.1,())) (cond (decide (x.2.2.2 > 3)) (some (x.2.2.1,x.2.2.2,true,(0,0,(0,0,0,()),[],[],()),x.1,x.2.1,())) (some (x.2.2.1,x.2.2.2,decide (x.2.2.1<0),(0,0,(0,0,0,()),[],[],()),x.1,x.2.1,())))))))).bind fun z3=> cond z3.2.2.1 (some ((0,0,(0,0,0,()),[],[],()),1)) ((a3B z3.2.2.2.2.1).bind fun y4=> cond (decide (z3.1 > (wrap .i64 (4194304-y4)))) (some ((0,0,(0,0,0,()),[],[],()),4)) ((show Option (Int×a4L×a4L×Z26)from cond (decide (z3.2.1 > 0)) ((a6o z3.2.2.2.2.1).bind fun y5=> some (z3.2.1,z3.2.2.2.1,(z3.1,y4,z3.2.2.2.2.2.1,y5,[],()),z3.2.2.2.2.1,())) (some (z3.2.1,z3.2.2.2.1,(z3.1,y4,z3.2.2.2.2.2.1,[],[],()),z3.2.2.2.2.1,()))).bind fun z6=> (a9X (z6.2.2.2.1.2.1,z6.2.2.1.2.2.2.1)).bind fun y7=> cond (y7.2 != 0) (some ((0,0,(0,0,0,()),[],[],()),y7.2)) ((x0r a4B (z6.1,y7.1,(y7.1.length:Int),0,z6.2.1,z6.2.2.1,())).bind fun w10=> match w10 with |.inl a11=>some (a11.2.1,0) |.inr b12=>some (b12.2.1,b12.1))))
def b1H:FSem:=⟨[.v Q10,.v Q8,.v QI,.v QI],[.v Q49,.v QI],a5i⟩
def H18:Hints:=⟨[(2042,[.sv 3 QI,.sv 81 (.list false QL),.sv 82 QI,.sv 83 QI,.box 8 Q49,.box 10 Q48,.ptr 8 8 [],.ptr 10 10 []],[(.exit 0,[.box 8 Q49,.box 10 Q48,.ptr 8 8 [],.ptr 10 10 []]),(.ret,[.sv 9 QI,.box 8 Q49,.ptr 8 8 []])])],[(6,[(.normal,[.sv 2 QI,.sv 3 QI,.sv 51 .bool,.box 8 Q49,.vp 4 Q10,.vp 5 Q8,.ptr 8 8 []])]),(31,[(.normal,[.sv 3 QI,.box 8 Q49,.box 10 Q48,.vp 4 Q10,.ptr 8 8 [],.ptr 10 10 []])])],[(3,[.v,.v,.v,.v,.v,.q,.x])]⟩
def a6d(x:a4L):Option Bool:= (a5Q x.2.2.1).bind fun y1=> cond y1 (cond (decide (x.2.1≥1)) (cond (decide (x.2.1≤4096)) (cond (decide (x.1≥0)) (cond (decide (x.1≤(wrap .i64 (4194304-x.2.1)))) ((a6Y (x.2.2.2.1,x.2.2.1.2.1)).bind fun y2=> some y2) (some false)) (some false)) (some false)) (some false)) (some false)
def b0S:FSem:=⟨[.v Q49],[.v .bool],a6d⟩
def d0F:Hints:=⟨[],[],[]⟩
def a2O(k:Int)(v:Z7)(s:(Z14×((List (List Int))×Z10))):Option ((Z14×((List (List Int))×Z10)) ⊕ (Ex×(Z14×((List (List Int))×Z10)))):= (a6J (s.2.2.2.1,v,(-1))).bind fun y5=> cond (!y5.1) (some (.inr (.ret,s.1,([]:(List (List Int))),6,y5.2,()))) (some (.inl (s.1,s.2.1,s.2.2.1,y5.2,())))
def a9G(x:((List (List Int))×Z14)):Option ((List (List Int))×Int):= (show Option ((List (List Int))×(Z14×Bool×Z11))from(a6n x.1).bind fun y1=> cond (!y1) (some (x.1,x.2,true,([]:(List (List Int))),0,())) ((a6Y (x.2,(x.1.length:Int))).bind fun y2=> some (x.1,x.2,!y2,([]:(List (List Int))),0,()))).bind fun z3=> cond z3.2.2.1 (some (([]:(List (List Int))),1)) ((a5S z3.1).bind fun y4=> cond (lim (a02 z3.2.1)) ((k0w a2O z3.2.1 (a02 z3.2.1) (z3.2.1,z3.2.2.2.1,z3.2.2.2.2.1,y4,())).bind fun w6=> match w6 with |.inl a7=>some (a7.2.2.2.1,0) |.inr (.normal,a8)=>some (a8.2.2.2.1,0) |.inr (.exit e9,a8)=>(cond (e9==0) (some (a8.2.2.2.1,0)) none) |.inr (.ret,a8)=>some (a8.2.1,a8.2.2.1)) none)
def a7I:FSem:=⟨[.v (.list false QL),.v (.list false Q8)],[.v (.list false QL),.v QI],a9G⟩
def d0G:Hints:=⟨[],[(6,[(.normal,[.sv 0 (.list false QL),.sv 1 (.list false Q8),.sv 18 .bool,.box 4 (.list false QL),.box 5 QI,.ptr 4 4 [],.ptr 5 5 []])])],[]⟩
def c4H:Cx:=a7t [(113,a9u),(114,b0Z),(115,b0M),(116,b1x)] [(6,.list true (.list true QI))] [0,1] [29]
def c5Z:HintR:=⟨21,Q8,186,242,[4,5,6],[.sv 21 (.list false Q8),.box 1001004 (.list false QL),.box 1001005 QI,.box 1001006 (.list true (.list true QI)),.ptr 4 1001004 [],.ptr 5 1001005 [],.ptr 6 1001006 []]⟩
theorem c6L(x):y0f c4H d0G c5Z Tryz.f107 a7I.ps a7I.rs x=a7I.F x:=by kernel_rfl
def a3V(s:(Z93×(Int×(Int×((List (List Int))×c1L))))):Option ((Z93×(Int×(Int×((List (List Int))×c1L)))) ⊕ (((List (List Int))×c1L) ⊕ Z40)):= cond (decide (s.2.2.1<s.2.1)) ((l0z s.1 s.2.2.1).bind fun x3=> (a9Z (x3,s.2.2.2.2.2.1.2.1)).bind fun y4=> cond (y4.2 != 0) (some (.inr (Sum.inr ((1,(0,([]:(List (List Int))),()),()))))) (cond (lim ((a02 s.2.2.2.1)+1)) (some (.inl (s.1,s.2.1,wrap .i64 (s.2.2.1+1),a03 s.2.2.2.1 ([y4.1]:List (List Int)),s.2.2.2.2.1,s.2.2.2.2.2.1,()))) none)) (some (.inr (Sum.inl (s.2.2.2.1,s.2.2.2.2.1,s.2.2.2.2.2.1,()))))
def a6e(x:a4L):Option (Z10×Int):= (show Option (Bool×c1L)from(a6d x).bind fun y1=> cond (!y1) (some (true,(0,([]:(List (List Int))),()),x,())) (some ((x.2.2.2.2.1.length:Int) != x.2.2.1.2.1,(0,([]:(List (List Int))),()),x,()))).bind fun z2=> cond z2.1 (some ((0,([]:(List (List Int))),()),1)) (cond ((decide (0≤(z2.2.2.1.2.2.2.2.1.length:Int)))&&(lim (a01 (z2.2.2.1.2.2.2.2.1.length:Int)))) ((x0r a3V (z2.2.2.1.2.2.2.2.1,(z2.2.2.1.2.2.2.2.1.length:Int),0,([]:(List (List Int))),z2.2.1,z2.2.2.1,())).bind fun w5=> match w5 with |.inl a6=>((a9G (a6.1,a6.2.2.1.2.2.2.1)).bind fun y8=> cond (y8.2 != 0) (some ((0,([]:(List (List Int))),()),1)) ((a6m (a6.2.2.1.2.2.1.2.2.1,y8.1,())).bind fun y9=> cond (!y9) (some ((0,([]:(List (List Int))),()),1)) (some ((a6.2.2.1.2.2.1.2.2.1,y8.1,()),0)))) |.inr b7=>some (b7.2.1,b7.1)) none)
def b0T:FSem:=⟨[.v Q49],[.v Q10,.v QI],a6e⟩
def H50:Hints:=⟨[(122,[.sv 30 (.list false Q31),.sv 31 QI,.sv 32 QI,.own 4 4 QL,.box 2 Q10,.vp 1 Q49,.ptr 2 2 []],[(.exit 0,[.own 4 4 QL,.box 2 Q10,.vp 1 Q49,.ptr 2 2 []]),(.ret,[.sv 3 QI,.box 2 Q10,.ptr 2 2 []])])],[(6,[(.normal,[.sv 23 .bool,.box 2 Q10,.vp 1 Q49,.ptr 2 2 []])])],[]⟩
def a3C(x:a4L):Option Bool:= (a6e x).bind fun y1=> some (y1.2==0)
def b2N:FSem:=⟨[.v Q49],[.v .bool],a3C⟩
def H61:Hints:=⟨[],[],[]⟩
def a2V(s:Z20):Option (Z20 ⊕ Z20):= cond ((a20 s.1.2.1 8) != 0) ((a1R (s.1,0)).bind fun y2=> some (.inl (y2,()))) (some (.inr (s.1,())))
def a4d(x:Z5):Option Z5:= (x0r a2V (x,())).bind fun w3=> some w3.1
def a8Y:FSem:=⟨[.r false (.b Q5)],[],a4d⟩
def H63:Hints:=⟨[(2,[.box pinned Q5,.ptr 0 pinned []],[(.exit 0,[.box pinned Q5])])],[],[]⟩
def a4e(x:Z5):Option ((List Int)×Z5):= cond (lim (a02 x.1)) (some (x.1,x)) none
def a8Z:FSem:=⟨[.r false (.b Q5)],[.o (.int .u8)],a4e⟩
def H64:Hints:=⟨[],[],[]⟩
def a7k(s:Z52):Option (Z52 ⊕ Z52):= cond (decide (s.1≥128)) (cond (lim ((a02 s.2.2.2.2.1)+1)) (some (.inl (wrap .u64 (a09 s.1 128),s.2.1,s.2.2.1,s.2.2.2.1,a03 s.2.2.2.2.1 [wrap .u8 ((wrap .u8 (a20 s.1 128))+128)],()))) none) (some (.inr (s.1,s.2.1,s.2.2.1,s.2.2.2.1,s.2.2.2.2.1,())))
def a7l(s:Z37):Option (Z37 ⊕ ((List Int)×Unit)):= cond (decide (s.2.2.1<s.2.1)) ((l0z s.1 s.2.2.1).bind fun x1=> (x0r a7k (x1,s.1,s.2.1,s.2.2.1,s.2.2.2.1,())).bind fun w2=> cond (lim ((a02 w2.2.2.2.2.1)+1)) (some (.inl (w2.2.1,w2.2.2.1,wrap .i64 (w2.2.2.2.1+1),a03 w2.2.2.2.2.1 [wrap .u8 w2.1],()))) none) (some (.inr (s.2.2.2.1,())))
def a9H(x:(List Int)):Option (List Int):= (x0r a7l (x,(x.length:Int),0,[],())).bind fun w3=> some w3.1
def b5D:FSem:=⟨[.v (.list false (.int .u64))],[.o (.int .u8)],a9H⟩
def H88:Hints:=⟨[(58,[.sv 6 (.list false (.int .u64)),.sv 7 QI,.sv 8 QI,.own 3 3 (.int .u8)],[(.exit 0,[.own 3 3 (.int .u8)])]),(14948,[.sv 5 (.int .u64),.sv 6 (.list false (.int .u64)),.sv 7 QI,.sv 8 QI,.own 3 3 (.int .u8)],[(.exit 2,[.sv 5 (.int .u64),.sv 6 (.list false (.int .u64)),.sv 7 QI,.sv 8 QI,.own 3 3 (.int .u8)])])],[],[]⟩
def a9I(x:Int):Option Int:= cond (decide (x≥0)) (some (wrap .u64 (2*(wrap .u64 x)))) (some (wrap .u64 ((wrap .u64 (2*(wrap .u64 (wrap .i64 (0-(wrap .i64 (x+1)))))))+1)))
def b5E:FSem:=⟨[.v QI],[.v (.int .u64)],a9I⟩
def d0H:Hints:=⟨[],[],[]⟩
def a8F(s:Z46):Option (Z46 ⊕ Z27):= cond (decide (s.2.2.2.2.1<8)) (cond ((z0h .u8 s.1 7)==1) (some (.inl (bits .u8 .xor (z0g .u8 s.1 1) 7,s.2.1,s.2.2.1,s.2.2.2.1,wrap .i64 (s.2.2.2.2.1+1),()))) (some (.inl (z0g .u8 s.1 1,s.2.1,s.2.2.1,s.2.2.2.1,wrap .i64 (s.2.2.2.2.1+1),())))) (some (.inr (s.1,s.2.1,s.2.2.1,s.2.2.2.1,())))
def a6G(s:Z27):Option Z57:= cond (decide (s.2.2.2.1<s.2.2.1)) ((l0z s.2.1 s.2.2.2.1).bind fun x1=> (x0r a8F (bits .u8 .xor s.1 x1,s.2.1,s.2.2.1,s.2.2.2.1,0,())).bind fun w2=> some (.inl (w2.1,w2.2.1,w2.2.2.1,wrap .i64 (w2.2.2.2.1+1),()))) (some (.inr (s.1,())))
def a6N(x:(List Int)):Option Int:= (x0r a6G (0,x,(x.length:Int),0,())).bind fun w3=> some w3.1
def b1I:FSem:=⟨[.v (.list false (.int .u8))],[.v (.int .u8)],a6N⟩
def d0I:Hints:=⟨[(58,[.sv 3 (.int .u8),.sv 7 (.list false (.int .u8)),.sv 8 QI,.sv 9 QI],[(.exit 0,[.sv 3 (.int .u8)])]),(29902,[.sv 3 (.int .u8),.sv 7 (.list false (.int .u8)),.sv 8 QI,.sv 9 QI,.sv 16 QI],[(.exit 2,[.sv 3 (.int .u8),.sv 7 (.list false (.int .u8)),.sv 8 QI,.sv 9 QI])])],[],[]⟩
def a4C(s:(Int×Z14×Z15)):Option ((Int×Z14×Z15) ⊕ Z4):= cond (decide (s.2.2.2.1<s.2.2.1)) ((l0z s.2.1 s.2.2.2.1).bind fun x1=> (a9I x1.2.2.1).bind fun y2=> cond (lim ((a02 s.2.2.2.2.1)+3)) (some (.inl (s.1,s.2.1,s.2.2.1,wrap .i64 (s.2.2.2.1+1),a03 s.2.2.2.2.1 [wrap .u64 x1.1,wrap .u64 x1.2.1,y2],()))) none) (some (.inr (s.1,s.2.2.2.2.1,())))
def a6H(x:(a4L×Int)):Option (List Int):= (x0r a4C (x.2,x.1.2.2.2.1,(x.1.2.2.2.1.length:Int),0,([wrap .u64 x.1.1,wrap .u64 x.1.2.1,wrap .u64 x.1.2.2.1.1,wrap .u64 x.1.2.2.1.2.1,wrap .u64 x.1.2.2.1.2.2.1,wrap .u64 (x.1.2.2.2.1.length:Int)]:List Int),())).bind fun w3=> cond (lim ((a02 w3.2.1)+1)) ((a9H (a03 w3.2.1 [wrap .u64 w3.1])).bind fun y4=> cond (lim (2+(a02 y4))) ((a6N (a03 [245,75] y4)).bind fun y5=> cond (lim ((a02 (a03 [245,75] y4))+1)) (some (a03 (a03 [245,75] y4) [y5])) none) none) none
def b2j:FSem:=⟨[.v Q49,.v QI],[.o (.int .u8)],a6H⟩
def H65:Hints:=⟨[(58,[.sv 1 QI,.sv 33 (.list false Q8),.sv 34 QI,.sv 35 QI,.own 5 5 (.int .u64)],[(.exit 0,[.sv 1 QI,.own 5 5 (.int .u64)])])],[],[(5,[.q,.q,.q,.v,.q,.q,.v,.q,.q,.v,.q,.x,.x])]⟩
def b0U(x:Int):Option Int:= some (v0a (u0z x 0) 8)
def b4t:FSem:=⟨[.v QI],[.v QI],b0U⟩
def d0J:Hints:=⟨[],[],[]⟩
def a3W(s:Z28):Option (Z28 ⊕ ((List Int)×Unit)):= cond (decide (s.2.2.1<s.2.1)) (cond (lim ((a02 s.2.2.2.1)+1)) (some (.inl (wrap .u64 (a09 s.1 256),s.2.1,wrap .i64 (s.2.2.1+1),a03 s.2.2.2.1 [wrap .u8 (a20 s.1 256)],()))) none) (some (.inr (s.2.2.2.1,())))
def a7T(x:(Int×Int)):Option (List Int):= (b0U x.2).bind fun y1=> (x0r a3W (x.1,y1,0,[],())).bind fun w2=> some w2.1
def b4u:FSem:=⟨[.v (.int .u64),.v QI],[.o (.int .u8)],a7T⟩
def d0K:Hints:=⟨[(58,[.sv 0 (.int .u64),.sv 7 QI,.sv 8 QI,.own 5 5 (.int .u8)],[(.exit 0,[.own 5 5 (.int .u8)])])],[],[]⟩
def a2C(x:(List Int)):Option (List Int):= cond (decide (a02 x<2147483648)) (some (List.reverse x)) none
def a4R:FSem:=⟨[.r false (.o (.int .u8))],[],a2C⟩
def a9J(x:(Int×Int)):Option (List Int):= (a7T (x.1,x.2)).bind fun y1=> (a2C y1).bind fun y2=> some y2
def b5F:FSem:=⟨[.v (.int .u64),.v QI],[.o (.int .u8)],a9J⟩
def H66:Hints:=⟨[],[],[]⟩
def a7v(s:Z46):Option (Z46 ⊕ Z27):= cond (decide (s.2.2.2.2.1<8)) (cond ((z0h .u16 s.1 15)==1) (some (.inl (bits .u16 .xor (z0g .u16 s.1 1) 32773,s.2.1,s.2.2.1,s.2.2.2.1,wrap .i64 (s.2.2.2.2.1+1),()))) (some (.inl (z0g .u16 s.1 1,s.2.1,s.2.2.1,s.2.2.2.1,wrap .i64 (s.2.2.2.2.1+1),())))) (some (.inr (s.1,s.2.1,s.2.2.1,s.2.2.2.1,())))
def a4W(s:Z27):Option Z57:= cond (decide (s.2.2.2.1<s.2.2.1)) ((l0z s.2.1 s.2.2.2.1).bind fun x1=> (x0r a7v (bits .u16 .xor s.1 (z0g .u16 (wrap .u16 x1) 8),s.2.1,s.2.2.1,s.2.2.2.1,0,())).bind fun w2=> some (.inl (w2.1,w2.2.1,w2.2.2.1,wrap .i64 (w2.2.2.2.1+1),()))) (some (.inr (s.1,())))
def a5j(x:(List Int)):Option Int:= (x0r a4W (0,x,(x.length:Int),0,())).bind fun w3=> some w3.1
def a9f:FSem:=⟨[.v (.list false (.int .u8))],[.v (.int .u16)],a5j⟩
def H67:Hints:=⟨[(58,[.sv 3 (.int .u16),.sv 7 (.list false (.int .u8)),.sv 8 QI,.sv 9 QI],[(.exit 0,[.sv 3 (.int .u16)])]),(29902,[.sv 3 (.int .u16),.sv 7 (.list false (.int .u8)),.sv 8 QI,.sv 9 QI,.sv 18 QI],[(.exit 2,[.sv 3 (.int .u16),.sv 7 (.list false (.int .u8)),.sv 8 QI,.sv 9 QI])])],[],[]⟩
def a7m(s:(Z93×Int×Int×Z5×b2H)):Option ((Z93×Int×Int×Z5×b2H) ⊕ ((Z5×b2H) ⊕ Z4)):= cond (decide (s.2.2.1<s.2.1)) ((l0z s.1 s.2.2.1).bind fun x2=> (a8h (s.2.2.2.1,x2,s.2.2.2.2.1.2.1)).bind fun y3=> cond (y3.1 != 0) (some (.inr (Sum.inr ((y3.1,[],()))))) (some (.inl (s.1,s.2.1,wrap .i64 (s.2.2.1+1),y3.2,s.2.2.2.2.1,())))) (some (.inr (Sum.inl (s.2.2.2.1,s.2.2.2.2.1,()))))
def a6u(x:a4L):Option ((List Int)×Int):= (a3C x).bind fun y1=> cond (!y1) (some ([],1)) ((x0r a7m (x.2.2.2.2.1,(x.2.2.2.2.1.length:Int),0,([],0,()),x,())).bind fun w4=> match w4 with |.inl a5=>((a4d a5.1).bind fun y7=> (a4e y7).bind fun y8=> (a6H (a5.2.1,(y8.1.length:Int))).bind fun y9=> cond (lim ((a02 y9)+(a02 y8.1))) ((a5j (a03 y9 y8.1)).bind fun y10=> (a9J (wrap .u64 y10,2)).bind fun y11=> cond (lim ((a02 (a03 y9 y8.1))+(a02 y11))) (some (a03 (a03 y9 y8.1) y11,0)) none) none) |.inr b6=>some (b6.2.1,b6.1))
def b2O:FSem:=⟨[.v Q49],[.o (.int .u8),.v QI],a6u⟩
def H19:Hints:=⟨[(122,[.sv 14 (.list false Q31),.sv 15 QI,.sv 16 QI,.box 4 Q5,.vp 1 Q49,.ptr 4 4 []],[(.exit 0,[.box 4 Q5,.vp 1 Q49,.ptr 4 4 []]),(.ret,[.sv 3 QI,.own 2 2 (.int .u8)])])],[],[]⟩
def a9K(x:(List Int)):Option Z13:= cond (lim (a02 x)) (some (x,0,0,())) none
def b5G:FSem:=⟨[.v (.list false (.int .u8))],[.b Q11],a9K⟩
def d0L:Hints:=⟨[],[],[]⟩
def a4X(s:Z27):Option (Z27 ⊕ (Unit ⊕ Z7)):= cond (decide (s.2.2.2.1<s.2.2.1)) ((l0z s.2.1 s.2.2.2.1).bind fun x1=> (show Option (Int×Int×Int×Z31)from cond (s.2.2.2.1==9) (cond (decide (x1 > 1)) (some (s.1,s.2.2.2.1,x1,s.2.1,s.2.2.1,s.2.2.2.1,true,())) (cond (decide (s.2.2.2.1 > 0)) (some (s.1,s.2.2.2.1,x1,s.2.1,s.2.2.1,s.2.2.2.1,x1==0,())) (some (s.1,s.2.2.2.1,x1,s.2.1,s.2.2.1,s.2.2.2.1,false,())))) (cond (decide (s.2.2.2.1 > 0)) (some (s.1,s.2.2.2.1,x1,s.2.1,s.2.2.1,s.2.2.2.1,x1==0,())) (some (s.1,s.2.2.2.1,x1,s.2.1,s.2.2.1,s.2.2.2.1,false,())))).bind fun z2=> cond z2.2.2.2.2.2.2.1 (some (.inr (Sum.inr ((0,0,2,()))))) (cond (decide ((wrap .i64 (7*z2.2.1))<0)) none (cond (decide (z2.2.2.1<128)) (some (.inr (Sum.inr ((bits .u64 .or z2.1 (z0g .u64 (wrap .u64 (a20 z2.2.2.1 128)) (wrap .i64 (7*z2.2.1))),wrap .i64 (z2.2.1+1),0,()))))) (some (.inl (bits .u64 .or z2.1 (z0g .u64 (wrap .u64 (a20 z2.2.2.1 128)) (wrap .i64 (7*z2.2.1))),z2.2.2.2.1,z2.2.2.2.2.1,wrap .i64 (z2.2.2.2.2.2.1+1),())))))) (some (.inr (Sum.inl ())))
def a7n(x:(List Int)):Option (Int×Int×Int):= (x0r a4X (0,x,(x.length:Int),0,())).bind fun w3=> match w3 with |.inl a4=>some (0,0,3) |.inr b5=>some (b5.1,b5.2.1,b5.2.2.1)
def b3d:FSem:=⟨[.v (.list false (.int .u8))],[.v (.int .u64),.v QI,.v QI],a7n⟩
def d0M:Hints:=⟨[(58,[.sv 5 (.int .u64),.sv 8 (.list false (.int .u8)),.sv 9 QI,.sv 10 QI],[(.exit 0,[]),(.ret,[.sv 2 (.int .u64),.sv 3 QI,.sv 4 QI])])],[(7474,[(.normal,[.sv 5 (.int .u64),.sv 6 QI,.sv 7 (.int .u8),.sv 8 (.list false (.int .u8)),.sv 9 QI,.sv 10 QI,.sv 28 .bool])])],[]⟩
def a0V(x:Z30):Option Z27:= cond (x.1.2.2.1 != 0) (some (0,x.1)) (cond ((decide (0≤x.1.2.1))&&(decide (x.1.2.1≤(x.1.1.length:Int)))) ((a7n (a32 (a01 x.1.2.1) (a08 (a02 x.1.1) x.1.1))).bind fun y1=> (show Option Z72 from cond (y1.2.2==0) (cond (decide (y1.1 > x.2)) (some (y1.1,y1.2.1,4,x.1,())) (some (y1.1,y1.2.1,y1.2.2,x.1,()))) (some (y1.1,y1.2.1,y1.2.2,x.1,()))).bind fun z2=> cond (z2.2.2.1 != 0) (some (0,z2.2.2.2.1.1,z2.2.2.2.1.2.1,z2.2.2.1,z2.2.2.2.1.2.2.2)) (some (z2.1,z2.2.2.2.1.1,wrap .i64 (z2.2.2.2.1.2.1+z2.2.1),z2.2.2.2.1.2.2))) none)
def b0A:FSem:=⟨[.r false (.b Q11),.v (.int .u64)],[.v (.int .u64)],a0V⟩
def d0N:Hints:=⟨[],[(15,[(.normal,[.sv 5 (.int .u64),.sv 6 QI,.sv 7 QI,.box pinned Q11,.ptr 0 pinned []])])],[(3,[.p,.p,.q,.q,.p,.p,.q,.q,.x,.x,.x,.v,.v,.v,.v,.v,.x])]⟩
def a9L(x:Int):Option Int:= cond ((a20 x 2)==0) (some (wrap .i64 (wrap .u64 (a09 x 2)))) (some (wrap .i64 ((wrap .i64 (0-(wrap .i64 (wrap .u64 (a09 x 2)))))-1)))
def b5H:FSem:=⟨[.v (.int .u64)],[.v QI],a9L⟩
def d0O:Hints:=⟨[],[],[]⟩
def a6O(x:Z13):Option Z27:= some (x.2.2.1,x)
def b0B:FSem:=⟨[.r false (.b Q11)],[.v QI],a6O⟩
def d0P:Hints:=⟨[],[],[]⟩
def a6y(x:Z13):Option Z27:= some (wrap .i64 ((x.1.length:Int)-x.2.1),x)
def a9a:FSem:=⟨[.r false (.b Q11)],[.v QI],a6y⟩
def d0Q:Hints:=⟨[],[],[(1,[.p,.p,.q,.q,.v,.p,.p,.q,.q,.x,.x])]⟩
def a7w(x:Z13):Option Z27:= some (x.2.1,x)
def b0X:FSem:=⟨[.r false (.b Q11)],[.v QI],a7w⟩
def d0R:Hints:=⟨[],[],[]⟩
def a4D(s:((List Int)×(Int×Int×b7H))):Option (((List Int)×(Int×Int×b7H)) ⊕ ((List Int)×b7H)):= cond (decide (s.2.2.1<s.2.1)) ((a0V (s.2.2.2.2.1,7)).bind fun y11=> (a0V (y11.2,7)).bind fun y12=> (a0V (y12.2,2048)).bind fun y13=> (a9L y13.1).bind fun y14=> cond (lim ((a02 s.2.2.2.1.2.2.2.1)+1)) (some (.inl (s.1,s.2.1,wrap .u64 (s.2.2.1+1),(s.2.2.2.1.1,s.2.2.2.1.2.1,s.2.2.2.1.2.2.1,a03 s.2.2.2.1.2.2.2.1 ([(wrap .i64 y11.1,wrap .i64 y12.1,y14,())]:List Z7),s.2.2.2.1.2.2.2.2),y13.2,()))) none) (some (.inr (s.1,s.2.2.2.1,s.2.2.2.2.1,())))
def a4E(x:(List Int)):Option (a4L×Int×Int×Int):= cond (decide ((x.length:Int)<2)) (some ((0,0,(0,0,0,()),[],[],()),0,0,3)) ((show Option ((List Int)×(Bool×b2H))from(l0z x 0).bind fun x1=> cond (x1 != 245) (some (x,true,(0,0,(0,0,0,()),[],[],()),())) ((l0z x 1).bind fun x2=> some (x,x2 != 75,(0,0,(0,0,0,()),[],[],()),()))).bind fun z3=> cond z3.2.1 (some ((0,0,(0,0,0,()),[],[],()),0,0,2)) (cond (decide (2≤(z3.1.length:Int))) ((a9K (a32 2 (a08 (a02 z3.1) z3.1))).bind fun y4=> (a0V (y4,4194304)).bind fun y5=> (a0V (y5.2,4096)).bind fun y6=> (a0V (y6.2,1048576)).bind fun y7=> (a0V (y7.2,8)).bind fun y8=> (a0V (y8.2,24)).bind fun y9=> (a0V (y9.2,16)).bind fun y10=> (x0r a4D (z3.1,y10.1,0,(wrap .i64 y5.1,wrap .i64 y6.1,(wrap .i64 y7.1,wrap .i64 y8.1,wrap .i64 y9.1,z3.2.2.1.2.2.1.2.2.2),z3.2.2.1.2.2.2),y10.2,())).bind fun w15=> (a0V (w15.2.2.1,1048576)).bind fun y16=> (a6O y16.2).bind fun y17=> cond (y17.1 != 0) (some ((0,0,(0,0,0,()),[],[],()),0,0,y17.1)) ((a6y y17.2).bind fun y18=> cond (decide (y18.1<1)) (some ((0,0,(0,0,0,()),[],[],()),0,0,3)) ((a7w y18.2).bind fun y19=> cond ((decide (0≤(wrap .i64 (2+y19.1))))&&(decide ((wrap .i64 (2+y19.1))≤(w15.1.length:Int)))) ((a6N (a08 (a01 (wrap .i64 (2+y19.1))) w15.1)).bind fun y20=> (l0z w15.1 (wrap .i64 (2+y19.1))).bind fun x21=> cond (y20 != x21) (some ((0,0,(0,0,0,()),[],[],()),0,0,5)) ((a6d w15.2.1).bind fun y22=> cond (!y22) (some ((0,0,(0,0,0,()),[],[],()),0,0,2)) (some (w15.2.1,wrap .i64 ((wrap .i64 (2+y19.1))+1),wrap .i64 y16.1,0)))) none))) none))
def a8G:FSem:=⟨[.v (.list false (.int .u8))],[.v (.pair QI (.pair QI (.pair Q8 (.pair (.list false Q8) Q32)))),.v QI,.v QI,.v QI],a4E⟩
def H71:Hints:=⟨[(8186,[.sv 0 (.list false (.int .u8)),.sv 54 (.int .u64),.sv 55 (.int .u64),.box 2 Q47,.box 1029 Q11,.ptr 2 2 [],.ptr 6 1029 []],[(.exit 0,[.sv 0 (.list false (.int .u8)),.box 2 Q47,.box 1029 Q11,.ptr 2 2 [],.ptr 6 1029 []])])],[(14,[(.normal,[.sv 0 (.list false (.int .u8)),.sv 25 .bool,.box 2 Q47,.ptr 2 2 []])])],[(25,[.v,.v,.v,.v,.v,.v,.v,.v,.x])]⟩
def b1f(x:(List Int)):Option Z13:= cond (lim (a02 x)) (some (x,0,0,())) none
def b6D:FSem:=⟨[.v (.list false (.int .u8))],[.b Q11],b1f⟩
def H72:Hints:=⟨[],[],[]⟩
def a0K(x:Z13):Option Z27:= some (x.2.2.1,x)
def a1S:FSem:=⟨[.r false (.b Q11)],[.v QI],a0K⟩
def H76:Hints:=⟨[],[],[]⟩
def a2m(x:Z13):Option Z27:= some (wrap .i64 ((wrap .i64 (8*(x.1.length:Int)))-x.2.1),x)
def a6P:FSem:=⟨[.r false (.b Q11)],[.v QI],a2m⟩
def H74:Hints:=⟨[],[],[(1,[.p,.p,.q,.q,.v,.v,.p,.p,.q,.q,.x,.x])]⟩
def a1u(x:Z30):Option Z27:= (l0z x.1.1 (wrap .i64 (a09 x.2 8))).bind fun x1=> cond (decide ((wrap .i64 (7-(a20 x.2 8)))<0)) none (some (bits .u8 .and (z0h .u8 x1 (wrap .i64 (7-(a20 x.2 8)))) 1,x.1))
def a4F:FSem:=⟨[.r false (.b Q11),.v QI],[.v (.int .u8)],a1u⟩
def d0S:Hints:=⟨[],[],[]⟩
def a3w(s:Z72):Option (Z72 ⊕ Z49):= cond (decide (s.2.2.1<s.2.1)) ((a1u (s.2.2.2.1,s.2.2.2.1.2.1)).bind fun y3=> some (.inl (bits .u64 .or (z0g .u64 s.1 1) (wrap .u64 y3.1),s.2.1,wrap .i64 (s.2.2.1+1),(y3.2.1,wrap .i64 (y3.2.2.1+1),y3.2.2.2),()))) (some (.inr (s.1,s.2.2.2.1,())))
def a0E(x:Z30):Option Z27:= cond (x.1.2.2.1 != 0) (some (0,x.1)) ((show Option Z59 from cond (decide (x.2<0)) (some (x.2,true,x.1,())) (some (x.2,decide (x.2 > 64),x.1,()))).bind fun z1=> cond z1.2.1 (some (0,z1.2.2.1.1,z1.2.2.1.2.1,1,z1.2.2.1.2.2.2)) ((a2m z1.2.2.1).bind fun y2=> cond (decide (z1.1 > y2.1)) (some (0,y2.2.1,y2.2.2.1,3,y2.2.2.2.2)) ((x0r a3w (0,z1.1,0,y2.2,())).bind fun w4=> some (w4.1,w4.2.1))))
def a1T:FSem:=⟨[.r false (.b Q11),.v QI],[.v (.int .u64)],a0E⟩
def d0T:Hints:=⟨[(506,[.sv 5 (.int .u64),.sv 27 QI,.sv 28 QI,.box pinned Q11,.ptr 0 pinned []],[(.exit 0,[.sv 5 (.int .u64),.box pinned Q11])])],[(14,[(.normal,[.sv 1 QI,.sv 16 .bool,.box pinned Q11,.ptr 0 pinned []])])],[]⟩
def a0X(x:Z30):Option Z27:= (a0E (x.1,x.2)).bind fun y1=> (show Option (Int×Z59)from cond (y1.2.2.2.1 != 0) (some (x.2,y1.1,true,y1.2,())) (some (x.2,y1.1,x.2==0,y1.2,()))).bind fun z2=> cond z2.2.2.1 (some (0,z2.2.2.2.1)) (cond (decide ((wrap .i64 (64-z2.1))<0)) none (cond (decide ((wrap .i64 (64-z2.1))<0)) none (some (z0h .i64 (wrap .i64 (z0g .u64 z2.2.1 (wrap .i64 (64-z2.1)))) (wrap .i64 (64-z2.1)),z2.2.2.2.1))))
def a2s:FSem:=⟨[.r false (.b Q11),.v QI],[.v QI],a0X⟩
def d0U:Hints:=⟨[],[(14,[(.normal,[.sv 1 QI,.sv 5 (.int .u64),.sv 17 .bool,.box pinned Q11])])],[]⟩
def a4Y(s:(Int×b7G)):Option ((Int×b7G) ⊕ (Int×c1K)):= cond (decide (s.2.2.1<s.2.1)) ((a0X (s.2.2.2.1,s.1)).bind fun y4=> cond (lim ((a02 s.2.2.2.2.1.2.2.2.2.2.1)+1)) (some (.inl (s.1,s.2.1,wrap .i64 (s.2.2.1+1),y4.2,(s.2.2.2.2.1.1,s.2.2.2.2.1.2.1,s.2.2.2.2.1.2.2.1,s.2.2.2.2.1.2.2.2.1,s.2.2.2.2.1.2.2.2.2.1,a03 s.2.2.2.2.1.2.2.2.2.2.1 [y4.1],s.2.2.2.2.1.2.2.2.2.2.2),()))) none) (some (.inr (s.1,s.2.2.2.2.1,s.2.2.2.1,())))
def a7o(x:(Z13×Z92)):Option (Bool×Z13×Z92):= (a0E (x.1,5)).bind fun y1=> (a0E (y1.2,4)).bind fun y2=> (a0E (y2.2,5)).bind fun y3=> (x0r a4Y (wrap .i64 y3.1,wrap .i64 ((wrap .i64 y1.1)+1),0,y3.2,(x.2.1,x.2.2.1,x.2.2.2.1,wrap .i64 y2.1,x.2.2.2.2.2),())).bind fun w5=> (a1k w5.2.1.2.2.2.2.2.1).bind fun y6=> some (y6==w5.1,w5.2.2.1,w5.2.1)
def b3e:FSem:=⟨[.r false (.b Q11),.r false (.b Q30)],[.v .bool],a7o⟩
def d0V:Hints:=⟨[(250,[.sv 6 QI,.sv 20 QI,.sv 21 QI,.box pinned Q11,.box 1000001 Q30,.ptr 0 pinned [],.ptr 1 1000001 []],[(.exit 0,[.sv 6 QI,.box 1000001 Q30,.box pinned Q11,.ptr 1 1000001 []])])],[],[(6,[.p,.p,.p,.r [26,1000001],.r [27,1000001],.p,.v,.w [30,1030,pinned],.q,.a [31,32,1000001],.x,.x,.x])]⟩
def a2P(s:b7G):Option (b7G ⊕ c3N):= cond (decide (s.2.1<3)) ((a0X (s.2.2.1,8)).bind fun y6=> cond ((decide (0≤s.2.1))&&(decide (s.2.1<3))) (some (.inl (s.1,wrap .i64 (s.2.1+1),y6.2,(s.2.2.2.1.1,s.2.2.2.1.2.1,s.2.2.2.1.2.2.1,s.2.2.2.1.2.2.2.1,s.2.2.2.1.2.2.2.2.1,s.2.2.2.1.2.2.2.2.2.1,a25 s.2.2.2.1.2.2.2.2.2.2.1 (a01 s.2.1) y6.1,s.2.2.2.1.2.2.2.2.2.2.2),()))) none) (some (.inr (s.1,s.2.2.1,s.2.2.2.1,())))
def a5J(s:(Int×Bool×b7G)):Option ((Int×Bool×b7G) ⊕ (Int×Bool×c1K)):= cond (decide (s.2.2.2.1<s.2.2.1)) ((a0E (s.2.2.2.2.1,5)).bind fun y15=> (a0E (y15.2,4)).bind fun y16=> cond (lim ((a02 s.2.2.2.2.2.1.2.2.2.2.2.2.2.1)+1)) (some (.inl (s.1,s.2.1,s.2.2.1,wrap .u64 (s.2.2.2.1+1),y16.2,(s.2.2.2.2.2.1.1,s.2.2.2.2.2.1.2.1,s.2.2.2.2.2.1.2.2.1,s.2.2.2.2.2.1.2.2.2.1,s.2.2.2.2.2.1.2.2.2.2.1,s.2.2.2.2.2.1.2.2.2.2.2.1,s.2.2.2.2.2.1.2.2.2.2.2.2.1,a03 s.2.2.2.2.2.1.2.2.2.2.2.2.2.1 ([(wrap .i64 ((wrap .i64 y15.1)+1),wrap .i64 y16.1,())]:List (Int×Int×Unit)),s.2.2.2.2.2.1.2.2.2.2.2.2.2.2),()))) none) (some (.inr (s.1,s.2.1,s.2.2.2.2.2.1,s.2.2.2.2.1,())))
def a7U(x:Z13):Option (Z92×Int×Bool×Z13):= (a0E (x,3)).bind fun y1=> (a0E (y1.2,5)).bind fun y2=> (a0E (y2.2,5)).bind fun y3=> (show Option (Int×Bool×c1K)from(show Option (c3N ⊕ ((Int×Bool×c1K) ⊕ (Int×Bool×c5S)))from cond ((wrap .i64 y1.1)==2) ((a0E (y3.2,3)).bind fun y4=> some (Sum.inr (Sum.inl (wrap .i64 y3.1,true,(wrap .i64 y1.1,wrap .i64 y2.1,wrap .i64 y4.1,0,0,[],a00 3 0,[],[],(0,[],()),[],()),y4.2,())))) (cond ((wrap .i64 y1.1)==4) ((a0E (y3.2,10)).bind fun y5=> (x0r a2P (wrap .i64 y3.1,0,y5.2,(wrap .i64 y1.1,wrap .i64 y2.1,0,0,wrap .i64 ((wrap .i64 y5.1)+1),[],a00 3 0,[],[],(0,[],()),[],()),())).bind fun w7=> some (Sum.inl (w7.1,w7.2.1,w7.2.2.1,()))) (cond ((wrap .i64 y1.1)==3) (some (Sum.inl (wrap .i64 y3.1,y3.2,(wrap .i64 y1.1,wrap .i64 y2.1,0,0,0,[],a00 3 0,[],[],(0,[],()),[],()),()))) (cond ((wrap .i64 y1.1)==5) (some (Sum.inr (Sum.inr ((wrap .i64 y3.1,true,y3.2,(wrap .i64 y1.1,wrap .i64 y2.1,0,0,0,[],a00 3 0,[],[],(0,[],()),[],()),()))))) (some (Sum.inr (Sum.inl (wrap .i64 y3.1,true,(wrap .i64 y1.1,wrap .i64 y2.1,0,0,0,[],a00 3 0,[],[],(0,[],()),[],()),y3.2,())))))))).bind fun z8=> match z8 with |.inl a9=>((a7o (a9.2.1,a9.2.2.1)).bind fun y11=> some (a9.1,y11.1,y11.2.2,y11.2.1,())) |.inr b10=>(match b10 with |.inl a12=>some (a12.1,a12.2.1,a12.2.2.1,a12.2.2.2.1,()) |.inr b13=>((a0E (b13.2.2.1,2)).bind fun y14=> (x0r a5J (b13.1,b13.2.1,y14.1,0,y14.2,b13.2.2.2.1,())).bind fun w17=> some (w17.1,w17.2.1,w17.2.2.1,w17.2.2.2.1,())))).bind fun z18=> some (z18.2.2.1,z18.1,z18.2.1,z18.2.2.2.1)
def b4v:FSem:=⟨[.r false (.b Q11)],[.v (.pair QI (.pair QI (.pair QI (.pair QI (.pair QI (.pair QL (.pair (.arr 3 QI) (.pair (.list false Q3) Q14)))))))),.v QI,.v .bool],a7U⟩
def d0W:Hints:=⟨[(8106,[.sv 3 QI,.sv 4 .bool,.sv 50 (.int .u64),.sv 51 (.int .u64),.box pinned Q11,.box 2 Q30,.ptr 0 pinned [],.ptr 2 2 []],[(.exit 7,[.sv 3 QI,.sv 4 .bool,.box 2 Q30,.box pinned Q11,.ptr 2 2 []])]),(129550,[.sv 3 QI,.sv 38 QI,.box pinned Q11,.box 2 Q30,.ptr 0 pinned [],.ptr 2 2 []],[(.exit 5,[.sv 3 QI,.box pinned Q11,.box 2 Q30,.ptr 0 pinned [],.ptr 2 2 []])])],[(63,[(.normal,[.sv 3 QI,.sv 4 .bool,.box 2 Q30,.box pinned Q11,.ptr 2 2 []])]),(2024,[(.normal,[.sv 3 QI,.box pinned Q11,.box 2 Q30,.ptr 0 pinned [],.ptr 2 2 []]),(.exit 0,[.sv 3 QI,.sv 4 .bool,.box 2 Q30,.box pinned Q11,.ptr 2 2 []]),(.exit 4,[.sv 3 QI,.sv 4 .bool,.box pinned Q11,.box 2 Q30,.ptr 0 pinned [],.ptr 2 2 []])])],[]⟩
def a2W(s:Z72):Option (Z72 ⊕ Z49):= cond (s.2.2.1==(wrap .i64 (8*(s.2.2.2.1.1.length:Int)))) (some (.inr (0,(s.2.2.2.1.1,s.2.2.2.1.2.1,3,s.2.2.2.1.2.2.2),()))) ((a1u (s.2.2.2.1,s.2.2.1)).bind fun y2=> cond (y2.1==1) (some (.inr (s.2.1,(y2.2.1,wrap .i64 (s.2.2.1+1),y2.2.2.2),()))) (cond (s.2.1==s.1) (some (.inr (0,(y2.2.1,y2.2.2.1,2,y2.2.2.2.2),()))) (some (.inl (s.1,wrap .i64 (s.2.1+1),wrap .i64 (s.2.2.1+1),y2.2,())))))
def a1A(x:Z30):Option Z27:= cond (x.1.2.2.1 != 0) (some (0,x.1)) ((x0r a2W (u0z x.2 0,0,x.1.2.1,x.1,())).bind fun w3=> some (w3.1,w3.2.1))
def a9b:FSem:=⟨[.r false (.b Q11),.v QI],[.v QI],a1A⟩
def d0X:Hints:=⟨[(62,[.sv 1 QI,.sv 5 QI,.sv 6 QI,.box pinned Q11,.ptr 0 pinned []],[(.ret,[.sv 4 QI,.box pinned Q11])])],[],[(4,[.p,.p,.q,.q,.v,.x])]⟩
def a6f(x:Int):Option Int:= cond (decide (x≥2147483648)) (some 0) (cond ((a20 x 2)==0) (some (wrap .i64 (wrap .u64 (a09 x 2)))) (some (wrap .i64 ((wrap .i64 (0-(wrap .i64 (wrap .u64 (a09 x 2)))))-1))))
def b4w:FSem:=⟨[.v (.int .u64)],[.v QI],a6f⟩
def d0Y:Hints:=⟨[],[],[]⟩
def b1g(x:Z30):Option Z41:= (a1A (x.1,32)).bind fun y1=> (a0K y1.2).bind fun y2=> cond (y2.1 != 0) ((a0K y2.2).bind fun y3=> some (0,y3.1,y3.2)) (cond (decide ((wrap .u64 y1.1)<32)) ((a0E (y2.2,x.2)).bind fun y4=> cond (decide (x.2<0)) none ((a6f (wrap .u64 ((z0g .u64 (wrap .u64 y1.1) x.2)+y4.1))).bind fun y5=> (a0K y4.2).bind fun y6=> some (y5,y6.1,y6.2))) ((a0E (y2.2,32)).bind fun y7=> (a0K y7.2).bind fun y8=> cond (y8.1 != 0) ((a0K y8.2).bind fun y9=> some (0,y9.1,y9.2)) ((show Option Z59 from cond (decide (y7.1≥2147483648)) (some (y7.1,true,y8.2,())) (cond (decide (x.2<0)) none (some (y7.1,decide ((z0h .u64 y7.1 x.2)<32),y8.2,())))).bind fun z10=> cond z10.2.1 (some (0,2,z10.2.2.1)) ((a6f z10.1).bind fun y11=> some (y11,0,z10.2.2.1)))))
def b6E:FSem:=⟨[.r false (.b Q11),.v QI],[.v QI,.v QI],b1g⟩
def d0Z:Hints:=⟨[],[(254,[(.normal,[.sv 8 (.int .u64),.sv 44 .bool,.box pinned Q11])])],[]⟩
def a7V(s:Z80):Option (Z80 ⊕ (Z56 ⊕ Z69)):= cond (decide (s.2.2.1<s.2.1)) ((b1g (s.2.2.2.2.1,s.1)).bind fun y5=> cond (y5.2.1 != 0) (some (.inr (Sum.inr ((y5.2.1,[],y5.2.2,()))))) (cond (lim ((a02 s.2.2.2.1)+1)) (some (.inl (s.1,s.2.1,wrap .i64 (s.2.2.1+1),a03 s.2.2.2.1 [y5.1],y5.2.2,()))) none)) (some (.inr (Sum.inl (s.2.2.2.1,s.2.2.2.2.1,()))))
def b1h(x:(Z13×Int×Int)):Option Z53:= (show Option (Int×Z59)from(a1H x.2.1).bind fun y1=> cond (!y1) (some (x.2.1,x.2.2,true,x.1,())) (cond (decide (x.2.2<0)) (some (x.2.1,x.2.2,true,x.1,())) (some (x.2.1,x.2.2,decide (x.2.2 > 4194304),x.1,())))).bind fun z2=> cond z2.2.2.1 (some ([],1,z2.2.2.2.1)) ((a0K z2.2.2.2.1).bind fun y3=> cond (y3.1 != 0) ((a0K y3.2).bind fun y4=> some ([],y4.1,y4.2)) ((x0r a7V (z2.1,z2.2.1,0,[],y3.2,())).bind fun w6=> match w6 with |.inl a7=>some (a7.1,0,a7.2.1) |.inr b8=>some (b8.2.1,b8.1,b8.2.2.1)))
def b6F:FSem:=⟨[.r false (.b Q11),.v QI,.v QI],[.o QI,.v QI],b1h⟩
def d1a:Hints:=⟨[(250,[.sv 1 QI,.sv 27 QI,.sv 28 QI,.own 8 8 QI,.box pinned Q11,.ptr 0 pinned []],[(.exit 0,[.own 8 8 QI,.box pinned Q11]),(.ret,[.sv 7 QI,.own 6 6 QI,.box pinned Q11])])],[(6,[(.normal,[.sv 1 QI,.sv 2 QI,.sv 21 .bool,.box pinned Q11,.ptr 0 pinned []])])],[]⟩
def a7p(s:(Int×Z80)):Option ((Int×Z80) ⊕ Z77):= cond (decide (s.2.2.2.1<s.2.2.1)) ((a0X (s.2.2.2.2.2.1,s.2.1)).bind fun y6=> cond (lim ((a02 s.2.2.2.2.1)+1)) (some (.inl (s.1,s.2.1,s.2.2.1,wrap .i64 (s.2.2.2.1+1),a03 s.2.2.2.2.1 [y6.1],y6.2,()))) none) (some (.inr (s.1,s.2.1,s.2.2.2.2.1,s.2.2.2.2.2.1,())))
def a9M(x:Z30):Option (Int×Z53):= (a0E (x.1,5)).bind fun y1=> (a0K y1.2).bind fun y2=> cond (y2.1 != 0) ((a0K y2.2).bind fun y3=> some (0,[],y3.1,y3.2)) (cond (decide ((wrap .i64 y1.1)≤25)) ((b1h (y2.2,wrap .i64 y1.1,x.2)).bind fun y4=> some (wrap .i64 y1.1,y4.1,y4.2.1,y4.2.2)) (cond ((wrap .i64 y1.1) != 31) (some (0,[],2,y2.2)) ((a0E (y2.2,5)).bind fun y5=> (x0r a7p (wrap .i64 y1.1,wrap .i64 y5.1,x.2,0,[],y5.2,())).bind fun w7=> (a0K w7.2.2.2.1).bind fun y8=> cond (y8.1 != 0) ((a0K y8.2).bind fun y9=> some (0,[],y9.1,y9.2)) ((a1k w7.2.2.1).bind fun y10=> cond (y10 != w7.2.1) (some (0,[],2,y8.2)) (some (w7.1,w7.2.2.1,0,y8.2))))))
def b5I:FSem:=⟨[.r false (.b Q11),.v QI],[.v QI,.o QI,.v QI],a9M⟩
def d1b:Hints:=⟨[(2042,[.sv 7 QI,.sv 10 QI,.sv 37 QI,.sv 38 QI,.own 11 11 QI,.box pinned Q11,.ptr 0 pinned []],[(.exit 0,[.sv 7 QI,.sv 10 QI,.own 11 11 QI,.box pinned Q11,.ptr 0 pinned []])])],[],[]⟩
def a7q(s:(Int×(Int×((List Int)×((List Int)×(Z13×Z70)))))):Option ((Int×(Int×((List Int)×((List Int)×(Z13×Z70))))) ⊕ (((List Int)×(Z4×Z4×Z34)) ⊕ (Int×((List Int)×(Z4×Z34))))):= cond (decide (s.2.1<s.1)) (cond ((decide (0≤s.2.1))&&(decide (s.2.1<(s.2.2.2.1.length:Int)))) ((a9M (s.2.2.2.2.1,a04 s.2.2.2.1 (a01 s.2.1) 0)).bind fun y6=> cond (y6.2.2.1 != 0) (some (.inr (Sum.inr ((y6.2.2.1,[],(0,[],()),y6.2.2.2,()))))) (cond (lim ((a02 s.2.2.2.2.2.2.1.2.1)+1)) (cond (lim ((a02 s.2.2.1)+(a02 y6.2.1))) (some (.inl (s.1,wrap .i64 (s.2.1+1),a03 s.2.2.1 y6.2.1,s.2.2.2.1,y6.2.2.2,s.2.2.2.2.2.1,(s.2.2.2.2.2.2.1.1,a03 s.2.2.2.2.2.2.1.2.1 [y6.1],s.2.2.2.2.2.2.1.2.2),()))) none) none)) none) (some (.inr (Sum.inl (s.2.2.1,s.2.2.2.2.2.1,s.2.2.2.2.2.2.1,s.2.2.2.2.1,()))))
def a9N(x:(Z13×Int×Int)):Option (Z4×Z53):= (a6r (x.2.1,x.2.2)).bind fun y1=> cond (!y1) (some ((0,[],()),[],1,x.1)) ((a0E (x.1,4)).bind fun y2=> (a0K y2.2).bind fun y3=> cond (y3.1 != 0) ((a0K y3.2).bind fun y4=> some ((0,[],()),[],y4.1,y4.2)) ((a2A (wrap .i64 y2.1,x.2.1,x.2.2)).bind fun y5=> cond ((y5.length:Int)==0) (some ((0,[],()),[],2,y3.2)) ((x0r a7q ((y5.length:Int),0,[],y5,y3.2,(0,[],()),(wrap .i64 y2.1,[],()),())).bind fun w7=> match w7 with |.inl a8=>some (a8.2.2.1,a8.1,0,a8.2.2.2.1) |.inr b9=>some (b9.2.2.1,b9.2.1,b9.1,b9.2.2.2.1))))
def b5J:FSem:=⟨[.r false (.b Q11),.v QI,.v QI],[.v Q7,.o QI,.v QI],a9N⟩
def d1c:Hints:=⟨[(4090,[.sv 43 QI,.sv 44 QI,.own 12 12 QI,.own 42 10 QI,.box pinned Q11,.box 6 Q7,.box 11 Q6,.ptr 0 pinned [],.ptr 6 6 [],.ptr 11 11 []],[(.exit 0,[.own 12 12 QI,.box 6 Q7,.box 11 Q6,.box pinned Q11,.ptr 6 6 [],.ptr 11 11 []]),(.ret,[.sv 8 QI,.own 7 7 QI,.box 6 Q7,.box pinned Q11,.ptr 6 6 []])])],[],[]⟩
def a8H(s:(Int×Int×Bool×Int×Int×Z13×b0I)):Option ((Int×Int×Bool×Int×Int×Z13×b0I) ⊕ (Int×Int×Bool×Z13×b0I)):= cond (decide (s.2.2.2.2.1<s.2.2.2.1)) ((a0X (s.2.2.2.2.2.1,s.2.1)).bind fun y7=> cond (lim ((a02 s.2.2.2.2.2.2.2.1.2.2.2.2.2.2.2.2.1)+1)) (some (.inl (s.1,s.2.1,s.2.2.1,s.2.2.2.1,wrap .i64 (s.2.2.2.2.1+1),y7.2,s.2.2.2.2.2.2.1,(s.2.2.2.2.2.2.2.1.1,s.2.2.2.2.2.2.2.1.2.1,s.2.2.2.2.2.2.2.1.2.2.1,s.2.2.2.2.2.2.2.1.2.2.2.1,s.2.2.2.2.2.2.2.1.2.2.2.2.1,s.2.2.2.2.2.2.2.1.2.2.2.2.2.1,s.2.2.2.2.2.2.2.1.2.2.2.2.2.2.1,s.2.2.2.2.2.2.2.1.2.2.2.2.2.2.2.1,a03 s.2.2.2.2.2.2.2.1.2.2.2.2.2.2.2.2.1 [y7.1],s.2.2.2.2.2.2.2.1.2.2.2.2.2.2.2.2.2),()))) none) (some (.inr (s.1,s.2.1,s.2.2.1,s.2.2.2.2.2.1,s.2.2.2.2.2.2.1,s.2.2.2.2.2.2.2.1,())))
def b0C(x:Z30):Option (Z92×Z27):= cond (decide (x.2<1)) (some ((0,0,0,0,0,[],a00 3 0,[],[],(0,[],()),[],()),1,x.1)) (cond (decide (x.2 > 4096)) (some ((0,0,0,0,0,[],a00 3 0,[],[],(0,[],()),[],()),1,x.1)) ((a0K x.1).bind fun y1=> cond (y1.1 != 0) (some ((0,0,0,0,0,[],a00 3 0,[],[],(0,[],()),[],()),y1.1,y1.2)) ((a7U y1.2).bind fun y2=> (a0K y2.2.2.2).bind fun y3=> cond (y3.1 != 0) (some ((0,0,0,0,0,[],a00 3 0,[],[],(0,[],()),[],()),y3.1,y3.2)) ((a6L (y2.1.1,y2.1,x.2)).bind fun y4=> cond (!y4) (some ((0,0,0,0,0,[],a00 3 0,[],[],(0,[],()),[],()),2,y3.2)) ((a3R (y2.1,x.2)).bind fun y5=> (x0r a8H (x.2,y2.2.1,y2.2.2.1,y5,0,y3.2,(0,0,0,0,0,[],a00 3 0,[],[],(0,[],()),[],()),y2.1,())).bind fun w8=> (a0K w8.2.2.2.1).bind fun y9=> cond (y9.1 != 0) (some ((0,0,0,0,0,[],a00 3 0,[],[],(0,[],()),[],()),y9.1,y9.2)) ((a5h w8.2.2.2.2.2.1.1).bind fun y10=> cond y10 ((a9N (y9.2,w8.1,(w8.2.2.2.2.2.1.2.2.2.2.2.2.2.2.1.length:Int))).bind fun y11=> cond (y11.2.2.1 != 0) (some ((0,0,0,0,0,[],a00 3 0,[],[],(0,[],()),[],()),y11.2.2.1,y11.2.2.2)) (cond (!w8.2.2.1) (some ((0,0,0,0,0,[],a00 3 0,[],[],(0,[],()),[],()),2,y11.2.2.2)) ((a1k w8.2.2.2.2.2.1.2.2.2.2.2.2.2.2.1).bind fun y12=> cond (y12 != w8.2.1) (some ((0,0,0,0,0,[],a00 3 0,[],[],(0,[],()),[],()),2,y11.2.2.2)) ((a8g ((w8.2.2.2.2.2.1.1,w8.2.2.2.2.2.1.2.1,w8.2.2.2.2.2.1.2.2.1,w8.2.2.2.2.2.1.2.2.2.1,w8.2.2.2.2.2.1.2.2.2.2.1,w8.2.2.2.2.2.1.2.2.2.2.2.1,w8.2.2.2.2.2.1.2.2.2.2.2.2.1,w8.2.2.2.2.2.1.2.2.2.2.2.2.2.1,w8.2.2.2.2.2.1.2.2.2.2.2.2.2.2.1,y11.1,y11.2.1,w8.2.2.2.2.2.1.2.2.2.2.2.2.2.2.2.2.2),w8.1)).bind fun y13=> cond (!y13) (some ((0,0,0,0,0,[],a00 3 0,[],[],(0,[],()),[],()),2,y11.2.2.2)) (some ((w8.2.2.2.2.2.1.1,w8.2.2.2.2.2.1.2.1,w8.2.2.2.2.2.1.2.2.1,w8.2.2.2.2.2.1.2.2.2.1,w8.2.2.2.2.2.1.2.2.2.2.1,w8.2.2.2.2.2.1.2.2.2.2.2.1,w8.2.2.2.2.2.1.2.2.2.2.2.2.1,w8.2.2.2.2.2.1.2.2.2.2.2.2.2.1,w8.2.2.2.2.2.1.2.2.2.2.2.2.2.2.1,y11.1,y11.2.1,w8.2.2.2.2.2.1.2.2.2.2.2.2.2.2.2.2.2),0,y11.2.2.2)))))) (cond (!w8.2.2.1) (some ((0,0,0,0,0,[],a00 3 0,[],[],(0,[],()),[],()),2,y9.2)) ((a1k w8.2.2.2.2.2.1.2.2.2.2.2.2.2.2.1).bind fun y14=> cond (y14 != w8.2.1) (some ((0,0,0,0,0,[],a00 3 0,[],[],(0,[],()),[],()),2,y9.2)) ((a8g (w8.2.2.2.2.2.1,w8.1)).bind fun y15=> cond (!y15) (some ((0,0,0,0,0,[],a00 3 0,[],[],(0,[],()),[],()),2,y9.2)) (some (w8.2.2.2.2.2.1,0,y9.2)))))))))))
def b8f:FSem:=⟨[.r false (.b Q11),.v QI],[.v Q31,.v QI],b0C⟩
def H73:Hints:=⟨[(1018,[.sv 1 QI,.sv 8 QI,.sv 9 .bool,.sv 47 QI,.sv 48 QI,.box pinned Q11,.box 4 Q31,.box 7 (.pair QI (.pair QI (.pair QI (.pair QI (.pair QI (.pair QL (.pair (.arr 3 QI) (.pair (.list false Q3) (.pair (.list true QI) Q13))))))))),.ptr 0 pinned [],.ptr 4 4 [],.ptr 7 7 []],[(.exit 0,[.sv 1 QI,.sv 8 QI,.sv 9 .bool,.box pinned Q11,.box 4 Q31,.box 7 (.pair QI (.pair QI (.pair QI (.pair QI (.pair QI (.pair QL (.pair (.arr 3 QI) (.pair (.list false Q3) (.pair (.list true QI) Q13))))))))),.ptr 0 pinned [],.ptr 4 4 [],.ptr 7 7 []])])],[],[(14,[.r [7,50],.r [7,51],.p,.v,.w [54,1054,pinned],.q,.x,.x,.x])]⟩
def a2X(s:Z58):Option (Z58 ⊕ (Z49 ⊕ Z34)):= cond (decide (s.2.1<s.1)) ((a1u (s.2.2.1,s.2.1)).bind fun y1=> cond (y1.1==1) (some (.inr (Sum.inr (((y1.2.1,y1.2.2.1,2,y1.2.2.2.2),()))))) (some (.inl (s.1,wrap .i64 (s.2.1+1),y1.2,())))) (some (.inr (Sum.inl (s.1,s.2.2.1,()))))
def a4f(x:Z13):Option Z13:= cond (x.2.2.1 != 0) (some x) ((x0r a2X (wrap .i64 ((wrap .i64 (a09 (wrap .i64 (x.2.1+7)) 8))*8),x.2.1,x,())).bind fun w2=> match w2 with |.inl a3=>some (a3.2.1.1,a3.1,a3.2.1.2.2) |.inr b4=>some b4.1)
def a9c:FSem:=⟨[.r false (.b Q11)],[],a4f⟩
def H75:Hints:=⟨[(58,[.sv 2 QI,.sv 3 QI,.box pinned Q11,.ptr 0 pinned []],[(.exit 0,[.sv 2 QI,.box pinned Q11,.ptr 0 pinned []]),(.ret,[.box pinned Q11])])],[],[]⟩
def a6I(s:(Int×Int×Int×a4L×b7H)):Option ((Int×Int×Int×a4L×b7H) ⊕ ((Int×a4L×b7H) ⊕ (Int×Int×b2H))):= cond (decide (s.2.2.1<s.2.1)) ((b0C (s.2.2.2.2.2.1,s.2.2.2.2.1.2.1)).bind fun y7=> cond (y7.2.1 != 0) (some (.inr (Sum.inr ((0,2,(0,0,(0,0,0,()),[],[],()),()))))) (cond (lim ((a02 s.2.2.2.2.1.2.2.2.2.1)+1)) (some (.inl (s.1,s.2.1,wrap .i64 (s.2.2.1+1),s.2.2.2.1,(s.2.2.2.2.1.1,s.2.2.2.2.1.2.1,s.2.2.2.2.1.2.2.1,s.2.2.2.2.1.2.2.2.1,a03 s.2.2.2.2.1.2.2.2.2.1 ([y7.1]:List Z92),s.2.2.2.2.1.2.2.2.2.2),y7.2.2,()))) none)) (some (.inr (Sum.inl (s.1,s.2.2.2.1,s.2.2.2.2.1,s.2.2.2.2.2.1,()))))
def a6Q(x:(List Int)):Option (a4L×Int×Int):= (a4E x).bind fun y1=> cond (y1.2.2.2 != 0) (some ((0,0,(0,0,0,()),[],[],()),0,y1.2.2.2)) (cond (decide ((x.length:Int)<(wrap .i64 ((wrap .i64 (y1.2.1+y1.2.2.1))+2)))) (some ((0,0,(0,0,0,()),[],[],()),0,3)) (cond ((decide (0≤(wrap .i64 (y1.2.1+y1.2.2.1))))&&(decide ((wrap .i64 (y1.2.1+y1.2.2.1))≤(x.length:Int)))) ((a5j (a08 (a01 (wrap .i64 (y1.2.1+y1.2.2.1))) x)).bind fun y2=> (l0z x (wrap .i64 (y1.2.1+y1.2.2.1))).bind fun x3=> (l0z x (wrap .i64 ((wrap .i64 (y1.2.1+y1.2.2.1))+1))).bind fun x4=> cond (y2 != (bits .u16 .or (z0g .u16 (wrap .u16 x3) 8) (wrap .u16 x4))) (some ((0,0,(0,0,0,()),[],[],()),0,5)) (cond ((decide (0≤(wrap .i64 (y1.2.1+y1.2.2.1))))&&(decide ((wrap .i64 (y1.2.1+y1.2.2.1))≤(x.length:Int)))) (cond ((decide (0≤y1.2.1))&&(decide (y1.2.1≤((a01 (wrap .i64 (y1.2.1+y1.2.2.1)):Nat):Int)))) ((b1f (a32 (a01 y1.2.1) (a08 (a01 (wrap .i64 (y1.2.1+y1.2.2.1))) x))).bind fun y5=> (x0r a6I (wrap .i64 (y1.2.1+y1.2.2.1),y1.1.2.2.1.2.1,0,(0,0,(0,0,0,()),[],[],()),y1.1,y5,())).bind fun w8=> match w8 with |.inl a9=>((a2m a9.2.2.2.1).bind fun y11=> cond (decide (y11.1≥8)) (some ((0,0,(0,0,0,()),[],[],()),0,2)) ((a4f y11.2).bind fun y12=> (a0K y12).bind fun y13=> cond (y13.1 != 0) (some ((0,0,(0,0,0,()),[],[],()),0,2)) ((a3C a9.2.2.1).bind fun y14=> cond (!y14) (some ((0,0,(0,0,0,()),[],[],()),0,2)) (some (a9.2.2.1,wrap .i64 (a9.1+2),0))))) |.inr b10=>some (b10.2.2.1,b10.1,b10.2.1)) none) none)) none))
def a8I:FSem:=⟨[.v (.list false (.int .u8))],[.v Q49,.v QI,.v QI],a6Q⟩
def H21:Hints:=⟨[(2042,[.sv 9 QI,.sv 59 QI,.sv 60 QI,.box 2 Q49,.box 5 Q48,.box 1056 Q11,.ptr 2 2 [],.ptr 5 5 [],.ptr 10 1056 []],[(.exit 0,[.sv 9 QI,.box 2 Q49,.box 5 Q48,.box 1056 Q11,.ptr 2 2 [],.ptr 5 5 [],.ptr 10 1056 []]),(.ret,[.sv 3 QI,.sv 4 QI,.box 2 Q49,.ptr 2 2 []])])],[],[(7,[.v,.v,.v,.v,.v,.v,.v,.v,.v,.v,.v,.v,.v,.v,.v,.v,.v,.x])]⟩
def H82:Hints:=⟨[(58,[.sv 0 (.list false Q8),.sv 1 (.list false Q8),.sv 5 QI],[(.exit 0,[]),(.ret,[.sv 4 .bool])])],[],[(6,[.v,.v,.v,.v,.v,.v,.v,.v,.x])]⟩
def b6G(x:(Z14×Z14)):Option Bool:=z0c (a7t [] [] [0,1,4,5] []) H82 Tryz.f82 [.v (.list false Q8),.v (.list false Q8)] [.v .bool] x
def a8J:FSem:=⟨[.v (.list false Q8),.v (.list false Q8)],[.v .bool],b6G⟩
def H35:Hints:=⟨[(58,[.sv 0 QL,.sv 1 QL,.sv 5 QI],[(.exit 0,[]),(.ret,[.sv 4 .bool])])],[],[(6,[.v,.v,.v,.v,.v,.v,.v,.v,.x])]⟩
def a6g(x:((List Int)×(List Int))):Option Bool:=z0c (a7t [] [] [0,1,4,5] []) H35 Tryz.f35 [.v (.list false (.int .i64)),.v (.list false (.int .i64))] [.v .bool] x
def a6h:FSem:=⟨[.v QL,.v QL],[.v .bool],a6g⟩
def c6a:Hints:=⟨[(58,[.sv 0 (.list false Q3),.sv 1 (.list false Q3),.sv 5 QI],[(.exit 0,[]),(.ret,[.sv 4 .bool])])],[],[(6,[.v,.v,.v,.v,.v,.v,.v,.v,.x])]⟩
def b1J(x:(Z6×Z6)):Option Bool:=z0c (a7t [] [] [0,1,4,5] []) c6a Tryz.f166 [.v (.list false Q3),.v (.list false Q3)] [.v .bool] x
def b1K:FSem:=⟨[.v (.list false Q3),.v (.list false Q3)],[.v .bool],b1J⟩
def b3f(x:(Z4×Z4)):Option Bool:= cond (x.1.1==x.2.1) ((a6g (x.1.2.1,x.2.2.1)).bind fun y1=> some y1) (some false)
def b3g:FSem:=⟨[.v Q7,.v Q7],[.v .bool],b3f⟩
def d1d:Hints:=⟨[],[],[]⟩
def b8M(x:(Z92×Z92)):Option Bool:= cond (x.1.1==x.2.1) (cond (x.1.2.1==x.2.2.1) (cond (x.1.2.2.1==x.2.2.2.1) (cond (x.1.2.2.2.1==x.2.2.2.2.1) (cond (x.1.2.2.2.2.1==x.2.2.2.2.2.1) ((a6g (x.1.2.2.2.2.2.1,x.2.2.2.2.2.2.1)).bind fun y1=> cond y1 (cond (eqT (.arr 3 (.int .i64)) x.1.2.2.2.2.2.2.1 x.2.2.2.2.2.2.2.1) ((b1J (x.1.2.2.2.2.2.2.2.1,x.2.2.2.2.2.2.2.2.1)).bind fun y2=> cond y2 ((a6g (x.1.2.2.2.2.2.2.2.2.1,x.2.2.2.2.2.2.2.2.2.1)).bind fun y3=> cond y3 ((b3f (x.1.2.2.2.2.2.2.2.2.2.1,x.2.2.2.2.2.2.2.2.2.2.1)).bind fun y4=> cond y4 ((a6g (x.1.2.2.2.2.2.2.2.2.2.2.1,x.2.2.2.2.2.2.2.2.2.2.2.1)).bind fun y5=> some y5) (some false)) (some false)) (some false)) (some false)) (some false)) (some false)) (some false)) (some false)) (some false)) (some false)
def b0V:FSem:=⟨[.v Q31,.v Q31],[.v .bool],b8M⟩
def H83:Hints:=⟨[],[],[]⟩
def H24:Hints:=⟨[(58,[.sv 5 QI,.vp 2 Q49,.vp 3 Q49],[(.exit 0,[]),(.ret,[.sv 4 .bool])])],[(6,[(.normal,[.sv 41 .bool,.vp 2 Q49,.vp 3 Q49])])],[(6,[.v,.v,.v,.v,.v,.v,.v,.v,.v,.v,.x,.x])]⟩
def b2k(x:(a4L×a4L)):Option Bool:=z0c (a7t [(82,a8J),(83,b0V)] [] [0,1,4,5] [2,3]) H24 Tryz.f24 [.v Q49,.v Q49] [.v .bool] x
def b2l:FSem:=⟨[.v Q49,.v Q49],[.v .bool],b2k⟩
def a6R(x:(List Int)):Option (Z7×Int×Int×Int):= (a4E x).bind fun y1=> cond (y1.2.2.2 != 0) (some ((0,0,0,()),0,0,y1.2.2.2)) (some (y1.1.2.2.1,y1.1.1,y1.1.2.1,0))
def b4T:FSem:=⟨[.v (.list false (.int .u8))],[.v Q8,.v QI,.v QI,.v QI],a6R⟩
def H51:Hints:=⟨[],[],[(4,[.q,.q,.r [6,23],.r [6,24],.r [6,25],.r [6,26],.w [0,2],.v,.x,.x])]⟩
def c6b:Hints:=⟨[(58,[.sv 0 (.list false QL),.sv 1 (.list false QL),.sv 5 QI],[(.exit 0,[]),(.ret,[.sv 4 .bool])])],[],[(6,[.v,.v,.v,.v,.v,.v,.v,.v,.x,.x])]⟩
def b3h(x:((List (List Int))×(List (List Int)))):Option Bool:=z0c (a7t [(35,a6h)] [] [0,1,4,5] []) c6b Tryz.f108 [.v (.list false (.list false (.int .i64))),.v (.list false (.list false (.int .i64)))] [.v .bool] x
def b3i:FSem:=⟨[.v (.list false QL),.v (.list false QL)],[.v .bool],b3h⟩
def b2m(x:(Z10×Z10)):Option Bool:= cond (x.1.1==x.2.1) ((b3h (x.1.2.1,x.2.2.1)).bind fun y1=> some y1) (some false)
def b2n:FSem:=⟨[.v Q10,.v Q10],[.v .bool],b2m⟩
def H52:Hints:=⟨[],[],[]⟩
def H53:Hints:=⟨[(26,[.sv 0 (.list false (.int .u8)),.sv 5 QI],[(.exit 0,[]),(.ret,[.sv 4 QI])])],[],[]⟩
def b4U(x:((List Int)×Int)):Option Int:=z0c (a7t [(21,a8I)] [] [0,1,4,5,7,8] []) H53 Tryz.f53 [.v (.list false (.int .u8)),.v (.int .i64)] [.v (.int .i64)] x
def b4V:FSem:=⟨[.v (.list false (.int .u8)),.v QI],[.v QI],b4U⟩
def b2P(x:Unit):Option Bool:= (a5i ((8,([[3,3],[3,3]]:List (List Int)),()),(8000,2,8,()),5,0)).bind fun y1=> (a6u y1.1).bind fun y2=> (a6Q y2.1).bind fun y3=> (a6e y3.1).bind fun y4=> (a6R y2.1).bind fun y5=> cond (y1.2==0) (cond (y2.2==0) (cond (y3.2.2==0) (cond (y4.2==0) (cond (y5.2.2.2==0) (cond (y3.2.1==(y2.1.length:Int)) ((b2k (y1.1,y3.1)).bind fun y6=> cond y6 ((b2m ((8,([[3,3],[3,3]]:List (List Int)),()),y4.1)).bind fun y7=> cond y7 (cond (eqT Q8 y5.1 ((8000: Int),(2: Int),(8: Int),())) (cond (y5.2.1==5) (cond (y5.2.2.1==2) (cond (lim (2+(a02 y2.1))) ((b4U (a03 [1,245] y2.1,0)).bind fun y8=> cond (y8==2) (cond (decide ((y2.1.length:Int) > 2)) ((l0z y2.1 0).bind fun x9=> cond (x9==245) ((l0z y2.1 1).bind fun x10=> some (x10==75)) (some false)) (some false)) (some false)) none) (some false)) (some false)) (some false)) (some false)) (some false)) (some false)) (some false)) (some false)) (some false)) (some false)) (some false)
def b5K:FSem:=⟨[],[.v .bool],b2P⟩
def H15:Hints:=⟨[],[],[]⟩
def a6i(s:Z54):Option (Z54 ⊕ Z0):= cond (decide (s.2.1<(s.2.2.1.2.1.length:Int))) ((l0z s.2.2.1.2.1 s.2.1).bind fun x1=> cond (decide ((x1.length:Int) > s.1)) (some (.inr (Sum.inr ((false,()))))) (some (.inl (s.1,wrap .i64 (s.2.1+1),s.2.2.1,())))) (some (.inr (Sum.inl ())))
def b1i(x:(Z10×Int)):Option Bool:= cond (decide ((x.1.2.1.length:Int) > 12)) (some false) ((x0r a6i (x.2,0,x.1,())).bind fun w2=> match w2 with |.inl a3=>some true |.inr b4=>some b4.1)
def b6H:FSem:=⟨[.v Q10,.v QI],[.v .bool],b1i⟩
def H16:Hints:=⟨[(58,[.sv 1 QI,.sv 5 QI,.vp 2 Q10],[(.exit 0,[]),(.ret,[.sv 4 .bool])])],[],[]⟩
def a5k(s:Z11):Option (Z11 ⊕ Z0):= cond (decide (s.2.1<(s.1.length:Int))) ((l0z s.1 s.2.1).bind fun x2=> (l0z s.1 0).bind fun x3=> cond ((x2.length:Int) != (x3.length:Int)) (some (.inr (Sum.inr ((false,()))))) (some (.inl (s.1,wrap .i64 (s.2.1+1),())))) (some (.inr (Sum.inl ())))
def a9O(x:(List (List Int))):Option Bool:= (show Option ((List (List Int))×(Bool×Unit))from cond (decide ((x.length:Int)<1)) (some (x,true,())) (some (x,decide ((x.length:Int) > 8),()))).bind fun z1=> cond z1.2.1 (some false) ((x0r a5k (z1.1,0,())).bind fun w4=> match w4 with |.inl a5=>some true |.inr b6=>some b6.1)
def b5L:FSem:=⟨[.v (.list false QL)],[.v .bool],a9O⟩
def H54:Hints:=⟨[(58,[.sv 0 (.list false QL),.sv 3 QI],[(.exit 0,[]),(.ret,[.sv 2 .bool])])],[(6,[(.normal,[.sv 0 (.list false QL),.sv 11 .bool])])],[(6,[.v,.v,.v,.v,.v,.v,.v,.v,.v,.x])]⟩
def b6f(x:Int):Option Int:= (show Option (Int×Bool×Unit)from cond (decide (x<1)) (some (x,true,())) (some (x,decide (x > 31),()))).bind fun z1=> cond z1.2.1 (some 0) (cond (decide ((wrap .u64 (wrap .i64 (z1.1-1)))<0)) none (some (z0g .i64 (-1) (wrap .u64 (wrap .i64 (z1.1-1))))))
def b9p:FSem:=⟨[.v QI],[.v QI],b6f⟩
def d1e:Hints:=⟨[],[(6,[(.normal,[.sv 0 QI,.sv 8 .bool])])],[]⟩
def b4W(x:Int):Option Int:= (show Option (Int×Bool×Unit)from cond (decide (x<1)) (some (x,true,())) (some (x,decide (x > 31),()))).bind fun z1=> cond z1.2.1 (some 0) (cond (decide ((wrap .u64 (wrap .i64 (z1.1-1)))<0)) none (some (wrap .i64 ((z0g .i64 1 (wrap .u64 (wrap .i64 (z1.1-1))))-1))))
def b8g:FSem:=⟨[.v QI],[.v QI],b4W⟩
def d1f:Hints:=⟨[],[(6,[(.normal,[.sv 0 QI,.sv 8 .bool])])],[]⟩
def b0D(x:(Int×Int)):Option Bool:= cond (decide (x.2≥1)) (cond (decide (x.2≤31)) ((b6f x.2).bind fun y1=> cond (decide (x.1≥y1)) ((b4W x.2).bind fun y2=> some (decide (x.1≤y2))) (some false)) (some false)) (some false)
def b8h:FSem:=⟨[.v QI,.v QI],[.v .bool],b0D⟩
def H55:Hints:=⟨[],[],[]⟩
def a2y(s:Z54):Option (Z54 ⊕ (Z40 ⊕ (Bool×Unit))):= (l0z s.2.2.1.2.1 s.1).bind fun x5=> cond (decide (s.2.1<(x5.length:Int))) ((l0z s.2.2.1.2.1 s.1).bind fun x6=> (l0z x6 s.2.1).bind fun x7=> (b0D (x7,s.2.2.1.1)).bind fun y8=> cond (!y8) (some (.inr (Sum.inr ((false,()))))) (some (.inl (s.1,wrap .i64 (s.2.1+1),s.2.2.1,())))) (some (.inr (Sum.inl (s.1,s.2.2.1,()))))
def a3s(s:Z40):Option (Z40 ⊕ Z0):= cond (decide (s.1<(s.2.1.2.1.length:Int))) ((x0r a2y (s.1,0,s.2.1,())).bind fun w9=> match w9 with |.inl a10=>some (.inl (wrap .i64 (a10.1+1),a10.2.1,())) |.inr b11=>some (.inr (Sum.inr ((b11.1,()))))) (some (.inr (Sum.inl ())))
def a5l(x:Z10):Option Bool:= (show Option Z47 from cond (decide (x.1<4)) (some (true,x,())) (cond (decide (x.1 > 24)) (some (true,x,())) ((a9O x.2.1).bind fun y1=> cond (!y1) (some (true,x,())) ((l0z x.2.1 0).bind fun x2=> cond (decide ((x2.length:Int)<1)) (some (true,x,())) ((l0z x.2.1 0).bind fun x3=> some (decide ((x3.length:Int) > 4096),x,())))))).bind fun z4=> cond z4.1 (some false) ((x0r a3s (0,z4.2.1,())).bind fun w12=> match w12 with |.inl a13=>some true |.inr b14=>some b14.1)
def b3j:FSem:=⟨[.v Q10],[.v .bool],a5l⟩
def H17:Hints:=⟨[(58,[.sv 3 QI,.vp 1 Q10],[(.exit 0,[]),(.ret,[.sv 2 .bool])]),(3730,[.sv 3 QI,.sv 4 QI,.vp 1 Q10],[(.exit 2,[.sv 3 QI,.vp 1 Q10]),(.ret,[.sv 2 .bool])])],[(6,[(.normal,[.sv 34 .bool,.vp 1 Q10])])],[(9,[.v,.v,.v,.v,.v,.v,.v,.v,.v,.v,.x,.x])]⟩
def a8K(x:(Z10×Int)):Option Bool:= (b2P ()).bind fun y1=> cond (!y1) (some false) ((show Option (Int×Z47)from(b1i (x.1,100)).bind fun y2=> cond (!y2) (some (x.2,true,x.1,())) ((a5l x.1).bind fun y3=> some (x.2,!y3,x.1,()))).bind fun z4=> cond z4.2.1 (some true) ((a5i (z4.2.2.1,(1048576,(z4.2.2.1.2.1.length:Int),z4.2.2.1.1,()),bits .i64 .and z4.1 1048575,0)).bind fun y5=> (a6u y5.1).bind fun y6=> (a3B z4.2.2.1).bind fun y7=> cond (y5.2==0) (cond (y6.2==0) (some (decide ((y6.1.length:Int)≤(wrap .i64 (24+(wrap .i64 (a09 (wrap .i64 ((wrap .i64 ((z4.2.2.1.2.1.length:Int)*(wrap .i64 (13+(wrap .i64 (y7*z4.2.2.1.1))))))+7)) 8))))))) (some false)) (some false)))
def a8L:FSem:=⟨[.v Q10,.v QI],[.v .bool],a8K⟩
def H4:Hints:=⟨[],[(14,[(.normal,[.sv 1 QI,.sv 19 .bool,.vp 2 Q10])])],[(7,[.v,.v,.v,.v,.v,.v,.v,.v,.v,.x,.x])]⟩
end Go.Ab
namespace Go.Ab
open Go.Proofs
set_option maxRecDepth 100000
theorem b2o:Tryz.prog.follows .mixedOrders=true:=by kernel_rfl
theorem d1g:z0w Tryz.prog b9e=true:=by kernel_rfl
theorem d1h:z0u Tryz.prog b9l=true:=by kernel_rfl
theorem d1i:z0r Tryz.prog b9e c1N=true:=by kernel_rfl
theorem laidOut:laidOutB Tryz.prog=true:=by kernel_rfl
@[reducible] def Ok0(n:Nat)(s:FSem):Prop:=f0r Tryz.prog G0 n s∧i0o Tryz.prog n
theorem cxo{a:List (Nat×FSem)}{b:List (Nat×Ty)}{c d:List Nat}(h:∀p∈a,Ok0 p.1 p.2):CxOk Tryz.prog (a7t a b c d):=
 CxOk.of (CxTy.of (tab:=b9e) (l:=c1N) (q:=b9l) (fun _=>rfl) (fun _=>rfl) (fun _=>rfl) d1g d1h d1i) (fun _=>rfl) h
theorem fo (a : List (Nat × FSem)) (b : List (Nat × Ty)) (c d : List Nat) (H : Hints) {n : Nat} {fn : Func} {e : Code} {s : FSem} (h : ∀ p ∈ a, Ok0 p.1 p.2) (hf : Tryz.prog.funcs[n]? = some fn) (hb : fn.body = some e := by rfl) (hk : z0f fn e H s = true := by kernel_rfl) (hn : (fn.name == "runtime.NumGoroutine") = false := by kernel_rfl) (hq : ∀ x, z0c (a7t a b c d) H fn s.ps s.rs x = s.F x := by intro x; kernel_rfl) : Ok0 n s :=
 ⟨f0r.of (cxo h) b2o hf hb hk hq,⟨_,_,hf,hb,hn⟩⟩
theorem c3P:Ok0 22 a9s:=
 fo [] [] [0,2] [1] H22 a0 Tryz.func22
theorem c6M:Ok0 175 b4G:=
 fo [] [] [0,2] [] c8r a0 Tryz.func175
theorem c6N:Ok0 176 b4n:=
 fo [] [] [0,2] [] c8s a0 Tryz.func176
theorem c3Q:Ok0 95 a7N:=
 fo [(175,b4G),(176,b4n)] [] [0,1,4] [] H95 (a1 c6M (a1 c6N a0)) Tryz.func95
theorem c4I:Ok0 111 b0K:=
 fo [] [] [0,2] [] c8t a0 Tryz.func111
theorem c3R:Ok0 56 a9t:=
 fo [(22,a9s),(95,a7N),(111,b0K)] [] [0,2,4,6] [1] H56 (a1 c3P (a1 c3Q (a1 c4I a0))) Tryz.func56
theorem c6c:Ok0 57 b0L:=
 fo [(111,b0K)] [] [0,2] [1] H57 (a1 c4I a0) Tryz.func57
theorem c4J:Ok0 189 b2I:=
 fo [] [] [0,2] [] c8u a0 Tryz.func189
theorem c1P:Ok0 113 a9u:=
 fo [(189,b2I)] [] [0,2,4,6] [] c8v (a1 c4J a0) Tryz.func113
theorem c1Q:Ok0 114 b0Z:=
 fo [] [] [0,1,4] [] c8w a0 Tryz.func114
theorem b6I:Ok0 183 a0W:=
 ⟨f0r.of (cx:=c4F) (cxo a0) b2o Tryz.func183 rfl (by kernel_rfl) c6G,⟨_,_,Tryz.func183,rfl,by kernel_rfl⟩⟩
theorem c4K:Ok0 115 b0M:=
 fo [(183,a0W)] [(15,.list true (.list true QI))] [0,2,3,5] [] c8y (a1 b6I a0) Tryz.func115
theorem c4L:Ok0 116 b1x:=
 fo [(189,b2I)] [] [0,1,2,6,7,8,9] [4] c8z (a1 c4J a0) Tryz.func116
theorem c6d:Ok0 59 b4H:=
 fo [(113,a9u),(114,b0Z),(115,b0M),(116,b1x)] [] [0,1,4,5,6] [] H59 (a1 c1P (a1 c1Q (a1 c4K (a1 c4L a0)))) Tryz.func59
theorem c6O:Ok0 187 b4o:=
 fo [(113,a9u)] [] [0,2,3,5,6,7] [] c8A (a1 c1P a0) Tryz.func187
theorem c6P:Ok0 188 b4I:=
 fo [] [] [0,2,4,8,12,17] [] c8B a0 Tryz.func188
theorem c6Q:Ok0 112 b5q:=
 fo [(59,b4H),(187,b4o),(188,b4I)] [] [0,2,3,4,5,6,7,8] [] c8C (a1 c6d (a1 c6O (a1 c6P a0))) Tryz.func112
theorem d1j:Ok0 58 b5r:=
 fo [(56,a9t),(112,b5q)] [] [0,2,3,4] [1] H58 (a1 c3R (a1 c6Q a0)) Tryz.func58
theorem c1R:Ok0 117 a7O:=
 fo [] [] [0,2,4] [] c8D a0 Tryz.func117
theorem c4M:Ok0 190 b0N:=
 fo [] [] [0,2] [] c8E a0 Tryz.func190
theorem c4N:Ok0 118 b0O:=
 fo [(190,b0N)] [] [0,1,4,5,6,8] [] c8F (a1 c4M a0) Tryz.func118
theorem c6R:Ok0 191 a1b:=
 ⟨f0r.of (cx:=a8o) (cxo a0) b2o Tryz.func191 rfl (by kernel_rfl) c6H,⟨_,_,Tryz.func191,rfl,by kernel_rfl⟩⟩
theorem c4O:Ok0 119 a8p:=
 fo [(191,a1b)] [] [0,2,3,5] [] c8G (a1 c6R a0) Tryz.func119
theorem c4P:Ok0 288 b1z:=
 fo [] [] [0,2,4] [] c8H a0 Tryz.func288
theorem c4Q:Ok0 243 b1A:=
 fo [(288,b1z)] [] [0,1,4,5,6,7] [] c8I (a1 c4P a0) Tryz.func243
theorem c6S:Ok0 244 b4p:=
 fo [] [] [0,1,4,5,6,7] [] c8J a0 Tryz.func244
theorem c6T:Ok0 192 b4K:=
 fo [(243,b1A),(244,b4p)] [] [0,2,3,4,5,6,7,8] [] c8K (a1 c4Q (a1 c6S a0)) Tryz.func192
theorem c1S:Ok0 292 a7Q:=
 fo [] [] [0,2] [] c8L a0 Tryz.func292
theorem c1T:Ok0 290 a5D:=
 fo [(292,a7Q)] [] [0,2,4] [] c8M (a1 c1S a0) Tryz.func290
theorem c4R:Ok0 304 a9d:=
 fo [] [] [0,2] [] c8N a0 Tryz.func304
theorem c6U:Ok0 302 b2g:=
 fo [(304,a9d)] [] [0,2,3,5,6,7,8] [] c8O (a1 c4R a0) Tryz.func302
theorem c6V:Ok0 303 a8W:=
 fo [] [] [0,1,2,6,7,8,9,10] [] c8P a0 Tryz.func303
theorem c6W:Ok0 245 b1B:=
 fo [(183,a0W),(290,a5D),(302,b2g),(303,a8W),(304,a9d)] [] [0,1,4,5,6,7,8,9,10,11,12,13] [] c8Q (a1 b6I (a1 c1T (a1 c6U (a1 c6V (a1 c4R a0))))) Tryz.func245
theorem c6X:Ok0 246 b2Z:=
 fo [] [] [0,2,3,5,6,7,8,9,10,11] [] c8R a0 Tryz.func246
theorem c6Y:Ok0 247 b3a:=
 fo [(95,a7N)] [] [0,1,4,5,6,8,9,10,11,13,14] [] c8S (a1 c3Q a0) Tryz.func247
theorem c4S:Ok0 194 b0P:=
 fo [(245,b1B),(246,b2Z),(247,b3a)] [] [0,1,2,6,7,8,9,10,11] [] c8T (a1 c6W (a1 c6X (a1 c6Y a0))) Tryz.func194
theorem c1U:Ok0 295 a9w:=
 fo [] [] [0,2] [] c8U a0 Tryz.func295
theorem c1V:Ok0 293 a7c:=
 fo [(295,a9w)] [] [0,2,4] [] c8V (a1 c1U a0) Tryz.func293
theorem c6Z:Ok0 248 b5t:=
 fo [(293,a7c)] [] [0,1,2,6,7,8,9,10,11,12,13] [] c8W (a1 c1V a0) Tryz.func248
theorem c1W:Ok0 212 b1a:=
 fo [] [] [0,1,4,6] [3] c8X a0 Tryz.func212
theorem c4T:Ok0 294 a9e:=
 fo [] [] [0,1,2,3,8,9,10,11,12] [7] c8Y a0 Tryz.func294
theorem c1X:Ok0 250 a7D:=
 fo [(212,b1a),(293,a7c),(294,a9e),(295,a9w)] [] [0,1,2,6,7,8,9,10,11] [5] c8Z (a1 c1W (a1 c1V (a1 c4T (a1 c1U a0)))) Tryz.func250
theorem c7a:Ok0 305 b1C:=
 fo [] [] [0] [] c5U a0 Tryz.func305
theorem c7b:Ok0 249 b5v:=
 fo [(250,a7D),(305,b1C)] [] [0,1,5,7,8,11,12,13,15] [] c5V (a1 c1X (a1 c7a a0)) Tryz.func249
theorem c7c:Ok0 195 b4L:=
 fo [(194,b0P),(248,b5t),(249,b5v),(250,a7D)] [] [0,3,4,5,7,8,9] [] c9a (a1 c4S (a1 c6Z (a1 c7b (a1 c1X a0)))) Tryz.func195
theorem c7d:Ok0 193 a9Y:=
 fo [(194,b0P)] [] [0,1,2,3,6,7,8] [] c9b (a1 c4S a0) Tryz.func193
theorem c7e:Ok0 120 b1D:=
 fo [(192,b4K),(193,a9Y),(195,b4L)] [(5,.list true Q31)] [0,1,4,6,8,9] [67] c9c (a1 c6T (a1 c7d (a1 c7c a0))) Tryz.func120
theorem c1Y:Ok0 211 a8q:=
 fo [] [] [0,1,4,6] [] c9d a0 Tryz.func211
theorem c4U:Ok0 271 b0Q:=
 fo [] [] [0,2] [1] c9e a0 Tryz.func271
theorem c1Z:Ok0 213 a9y:=
 fo [(271,b0Q)] [] [0,2] [] c9f (a1 c4U a0) Tryz.func213
theorem c2a:Ok0 150 b2h:=
 fo [(211,a8q),(212,b1a),(213,a9y)] [] [0,1,2,6,8,11,27,41,62] [4] c9g (a1 c1Y (a1 c1W (a1 c1Z a0))) Tryz.func150
theorem c6e:Ok0 183 a1y:=
 ⟨f0r.of (cx:=c2U) (cxo a0) b2o Tryz.func183 rfl (by kernel_rfl) c5W,⟨_,_,Tryz.func183,rfl,by kernel_rfl⟩⟩
theorem c6f:Ok0 251 a0Y:=
 ⟨f0r.of (cx:=c2V) (cxo a0) b2o Tryz.func251 rfl (by kernel_rfl) c5X,⟨_,_,Tryz.func251,rfl,by kernel_rfl⟩⟩
theorem c4V:Ok0 196 b1E:=
 fo [(183,a1y),(251,a0Y)] [] [0,1,9,11,13,15] [3] c9h (a1 c6e (a1 c6f a0)) Tryz.func196
theorem c2b:Ok0 151 a8r:=
 fo [] [] [0,1,4,7,9,12,16] [2] c9i a0 Tryz.func151
theorem c4W:Ok0 291 a8b:=
 fo [] [] [0,1,2,6,7,8,9,10] [] c9j a0 Tryz.func291
theorem c7f:Ok0 252 b4q:=
 fo [(211,a8q),(290,a5D),(291,a8b),(292,a7Q)] [] [0,1,2,6,7,8,9,10] [] c9k (a1 c1Y (a1 c1T (a1 c4W (a1 c1S a0)))) Tryz.func252
theorem c2c:Ok0 300 a8s:=
 fo [] [] [0,2] [] c9l a0 Tryz.func300
theorem c4X:Ok0 296 a8t:=
 fo [(300,a8s)] [] [0,2,4] [] c9m (a1 c2c a0) Tryz.func296
theorem c4Y:Ok0 298 b2J:=
 fo [(271,b0Q)] [(15,.pair QI Q9),(16,.pair QI Q9)] [0,2,3] [1] c9n (a1 c4U a0) Tryz.func298
theorem c4Z:Ok0 327 a8u:=
 fo [] [] [0,2] [] c9o a0 Tryz.func327
theorem c2d:Ok0 299 a3t:=
 fo [(327,a8u)] [] [0,2,3,4,5] [] c9p (a1 c4Z a0) Tryz.func299
theorem c5a:Ok0 301 a6x:=
 fo [(299,a3t),(327,a8u)] [] [0,1,4,5,6,7,8,13,22] [] c9q (a1 c2d (a1 c4Z a0)) Tryz.func301
theorem c7g:Ok0 253 b4M:=
 fo [(183,a0W),(213,a9y),(296,a8t),(298,b2J),(299,a3t),(300,a8s),(301,a6x)] [] [0,1,4,5,6,9,10,11,12,13] [] c9r (a1 b6I (a1 c1Z (a1 c4X (a1 c4Y (a1 c2d (a1 c2c (a1 c5a a0))))))) Tryz.func253
theorem c7h:Ok0 197 b5w:=
 fo [(151,a8r),(183,a0W),(243,b1A),(250,a7D),(252,b4q),(253,b4M)] [] [0,1,4,5,6,11,22,37,67] [] c9s (a1 c2b (a1 b6I (a1 c4Q (a1 c1X (a1 c7f (a1 c7g a0)))))) Tryz.func197
theorem c2e:Ok0 214 a9A:=
 fo [] [] [0,1,4] [] c9t a0 Tryz.func214
theorem b6J:Ok0 201 a4n:=
 fo [(214,a9A)] [] [0,1,2,6,7,8] [] c9u (a1 c2e a0) Tryz.func201
theorem c5b:Ok0 236 b2K:=
 fo [(201,a4n)] [] [0,1,2,6,7,9] [3] c9v (a1 b6J a0) Tryz.func236
theorem c5c:Ok0 254 b0R:=
 fo [(214,a9A)] [] [0,1,2,6,8] [] c9w (a1 c2e a0) Tryz.func254
theorem b3H:Ok0 124 a2l:=
 fo [(95,a7N)] [] [0,2,3,5] [] c9x (a1 c3Q a0) Tryz.func124
theorem c5d:Ok0 256 b2L:=
 fo [(124,a2l)] [] [0,2] [] c9y (a1 b3H a0) Tryz.func256
theorem c2f:Ok0 258 a5H:=
 fo [] [] [0,2] [] c9z a0 Tryz.func258
theorem c2g:Ok0 259 a9B:=
 fo [] [] [0,2] [] c9A a0 Tryz.func259
theorem c5e:Ok0 260 b2M:=
 fo [(259,a9B)] [] [0,2,3,7] [] c9B (a1 c2g a0) Tryz.func260
theorem c7i:Ok0 307 b5x:=
 fo [(258,a5H),(259,a9B),(260,b2M)] [] [0,1,4,5] [] c9C (a1 c2f (a1 c2g (a1 c5e a0))) Tryz.func307
theorem c2h:Ok0 257 b1b:=
 fo [(307,b5x)] [] [0,1,4,5,7] [] c9D (a1 c7i a0) Tryz.func257
theorem c5f:Ok0 200 b1G:=
 fo [(201,a4n),(236,b2K),(254,b0R),(256,b2L),(257,b1b)] [] [0,1,2,3,8,9,10,11,12] [4] c9E (a1 b6J (a1 c5b (a1 c5c (a1 c5d (a1 c2h a0))))) Tryz.func200
theorem c7j:Ok0 306 b5y:=
 fo [(257,b1b)] [] [0,2,3,4,5,6] [] c9F (a1 c2h a0) Tryz.func306
theorem c7k:Ok0 255 b3b:=
 fo [(256,b2L),(257,b1b),(306,b5y)] [] [0,2,3] [] c9G (a1 c5d (a1 c2h (a1 c7j a0))) Tryz.func255
theorem c7l:Ok0 198 b4N:=
 fo [(200,b1G),(201,a4n),(254,b0R),(255,b3b)] [(14,.pair QI Q1),(40,.pair QI Q1)] [0,1,2,3,9,11,12,13,15,17,18] [] c9H (a1 c5f (a1 b6J (a1 c5c (a1 c7k a0)))) Tryz.func198
theorem c7m:Ok0 121 b6y:=
 fo [(117,a7O),(118,b0O),(119,a8p),(150,b2h),(196,b1E),(197,b5w),(198,b4N)] [] [0,1,2,7,8,11,12,13] [5] c9I (a1 c1R (a1 c4N (a1 c4O (a1 c2a (a1 c4V (a1 c7h (a1 c7l a0))))))) Tryz.func121
theorem c2i:Ok0 128 a8x:=
 fo [] [] [0,2] [] c9J a0 Tryz.func128
theorem c7n:Ok0 235 b5z:=
 fo [(196,b1E)] [] [0,2] [1] c9K (a1 c4V a0) Tryz.func235
theorem c7o:Ok0 184 b4O:=
 fo [(117,a7O),(128,a8x),(150,b2h),(151,a8r),(235,b5z),(236,b2K)] [] [0,1,4,5] [2] c9L (a1 c1R (a1 c2i (a1 c2a (a1 c2b (a1 c7n (a1 c5b a0)))))) Tryz.func184
theorem c7p:Ok0 325 b2i:=
 fo [] [] [0,1,3] [] c9M a0 Tryz.func325
theorem c7q:Ok0 289 b4r:=
 fo [(325,b2i)] [] [0,1,4,5,8,12,20,32] [] c9N (a1 c7p a0) Tryz.func289
theorem c7r:Ok0 237 b4P:=
 fo [(288,b1z),(289,b4r)] [] [0,1,2,6,7,8,10,11] [] c9O (a1 c4P (a1 c7q a0)) Tryz.func237
theorem c7s:Ok0 238 b4s:=
 fo [(211,a8q),(290,a5D),(291,a8b),(292,a7Q)] [] [0,1,2,3,8,9,10,12,13] [] c9P (a1 c1Y (a1 c1T (a1 c4W (a1 c1S a0)))) Tryz.func238
theorem c7t:Ok0 239 b5A:=
 fo [(212,b1a),(293,a7c),(294,a9e),(295,a9w)] [] [0,1,2,6,7,8,9,10,11] [5] c9Q (a1 c1W (a1 c1V (a1 c4T (a1 c1U a0)))) Tryz.func239
theorem c7u:Ok0 240 a6M:=
 ⟨f0r.ofR (cx:=c4G) (cxo (a1 b6I (a1 c1Z (a1 c4X (a1 c4Y (a1 c2d (a1 c2c (a1 c5a a0)))))))) b2o (r:=c5Y) ⟨c5o,c5p⟩ Tryz.func240 rfl (by kernel_rfl) c6K,⟨_,_,Tryz.func240,rfl,by kernel_rfl⟩⟩
theorem c7v:Ok0 241 b5B:=
 fo [(190,b0N)] [] [0,1,4,5,6,8] [] c9S (a1 c4M a0) Tryz.func241
theorem c7w:Ok0 185 b6z:=
 fo [(237,b4P),(238,b4s),(239,b5A),(240,a6M),(241,b5B)] [] [0,1,4,5,6,7,10,24,28,40,54,79] [2] c9T (a1 c7r (a1 c7s (a1 c7t (a1 c7u (a1 c7v a0))))) Tryz.func185
theorem c5g:Ok0 106 b4Q:=
 fo [(184,b4O),(185,b6z)] [] [0,1,4,5,6,7] [2] c9U (a1 c7o (a1 c7w a0)) Tryz.func106
theorem c5h:Ok0 123 b4R:=
 fo [(106,b4Q)] [] [0,1,4,5,6] [2] c9V (a1 c5g a0) Tryz.func123
theorem c2j:Ok0 130 a4U:=
 fo [] [] [0,1] [] c9W a0 Tryz.func130
theorem b6K:Ok0 125 a2x:=
 fo [(130,a4U)] [] [0,1,2,6,7] [] c9X (a1 c2j a0) Tryz.func125
theorem c5i:Ok0 126 a8B:=
 fo [(125,a2x)] [] [0,1,2] [] c9Y (a1 b6K a0) Tryz.func126
theorem c7x:Ok0 127 b3c:=
 fo [(124,a2l),(125,a2x),(126,a8B)] [] [0,1,4,6] [3] c9Z (a1 b3H (a1 b6K (a1 c5i a0))) Tryz.func127
theorem c7y:Ok0 261 a8X:=
 fo [(130,a4U)] [] [0,1,4] [] d0A (a1 c2j a0) Tryz.func261
theorem c7z:Ok0 202 b6A:=
 fo [(125,a2x),(258,a5H),(259,a9B),(260,b2M),(261,a8X)] [] [0,1,2,6,8,10,11,12] [] d0B (a1 b6K (a1 c2f (a1 c2g (a1 c5e (a1 c7y a0))))) Tryz.func202
theorem c7A:Ok0 129 b5C:=
 fo [(124,a2l),(125,a2x),(200,b1G),(201,a4n),(202,b6A)] [] [0,1,2,3,4,10,11,12,13,14,16] [6] d0C (a1 b3H (a1 b6K (a1 c5f (a1 b6J (a1 c7z a0))))) Tryz.func129
theorem c6g:Ok0 62 b4S:=
 fo [(123,b4R),(124,a2l),(125,a2x),(126,a8B),(127,b3c),(128,a8x),(129,b5C)] [] [0,1,2,6,7,9,13,37,39,41,43] [4] H62 (a1 c5h (a1 b3H (a1 b6K (a1 c5i (a1 c7x (a1 c2i (a1 c7A a0))))))) Tryz.func62
theorem c7B:Ok0 199 b0W:=
 fo [] [] [0,2] [] d0D a0 Tryz.func199
theorem c7C:Ok0 122 b6B:=
 fo [(62,b4S),(199,b0W)] [(5,.pair (.list true (.int .u8)) Q0)] [0,1,4] [2] d0E (a1 c6g (a1 c7B a0)) Tryz.func122
theorem d1k:Ok0 60 b6C:=
 fo [(117,a7O),(118,b0O),(119,a8p),(120,b1D),(121,b6y),(122,b6B)] [] [0,1,5,6,7,9,10,14,15] [] H60 (a1 c1R (a1 c4N (a1 c4O (a1 c7e (a1 c7m (a1 c7C a0)))))) Tryz.func60
theorem c6h:Ok0 18 b1H:=
 fo [(22,a9s),(56,a9t),(57,b0L),(58,b5r),(59,b4H),(60,b6C)] [(10,.pair QI Q45),(52,.pair QI Q43),(57,.pair QI Q43),(63,.pair QI Q43),(79,.pair QI Q43),(95,.pair QI Q43)] [0,1,2,3,9,11,12,14,16] [4,5] H18 (a1 c3P (a1 c3R (a1 c6c (a1 d1j (a1 c6d (a1 d1k a0)))))) Tryz.func18
theorem c5j:Ok0 105 b0S:=
 fo [(57,b0L),(114,b0Z)] [] [0,2] [1] d0F (a1 c6c (a1 c1Q a0)) Tryz.func105
theorem c7D:Ok0 107 a7I:=
 ⟨f0r.ofR (cx:=c4H) (cxo (a1 c1P (a1 c1Q (a1 c4K (a1 c4L a0))))) b2o (r:=c5Z) ⟨c5q,c5r⟩ Tryz.func107 rfl (by kernel_rfl) c6L,⟨_,_,Tryz.func107,rfl,by kernel_rfl⟩⟩
theorem c6i:Ok0 50 b0T:=
 fo [(56,a9t),(105,b0S),(106,b4Q),(107,a7I)] [] [0,3,4,7,8,9,10] [1] H50 (a1 c3R (a1 c5j (a1 c5g (a1 c7D a0)))) Tryz.func50
theorem c6j:Ok0 61 b2N:=
 fo [(50,b0T)] [] [0,2,4] [1] H61 (a1 c6i a0) Tryz.func61
theorem d1l:Ok0 63 a8Y:=
 fo [(130,a4U)] [] [0] [] H63 (a1 c2j a0) Tryz.func63
theorem d1m:Ok0 64 a8Z:=
 fo [] [] [0,2] [] H64 a0 Tryz.func64
theorem d1n:Ok0 88 b5D:=
 fo [] [] [0,2,3,5] [] H88 a0 Tryz.func88
theorem c7E:Ok0 131 b5E:=
 fo [] [] [0,2] [] d0H a0 Tryz.func131
theorem c5k:Ok0 132 b1I:=
 fo [] [] [0,2,3,5,6] [] d0I a0 Tryz.func132
theorem d1o:Ok0 65 b2j:=
 fo [(88,b5D),(131,b5E),(132,b1I)] [] [0,1,4,5,8] [2] H65 (a1 d1n (a1 c7E (a1 c5k a0))) Tryz.func65
theorem c7F:Ok0 203 b4t:=
 fo [] [] [0,2] [] d0J a0 Tryz.func203
theorem c7G:Ok0 133 b4u:=
 fo [(203,b4t)] [] [0,1,4,5] [] d0K (a1 c7F a0) Tryz.func133
theorem c7H:Ok0 134 a4R:=⟨c3K _,⟨_,_,Tryz.func134,rfl,by kernel_rfl⟩⟩
theorem d1p:Ok0 66 b5F:=
 fo [(133,b4u),(134,a4R)] [] [0,1,4,5] [] H66 (a1 c7G (a1 c7H a0)) Tryz.func66
theorem c6k:Ok0 67 a9f:=
 fo [] [] [0,2,3,5,6] [] H67 a0 Tryz.func67
theorem c6l:Ok0 19 b2O:=
 fo [(61,b2N),(62,b4S),(63,a8Y),(64,a8Z),(65,b2j),(66,b5F),(67,a9f)] [(4,.pair (.list true (.int .u8)) Q0)] [0,2,3,7,8,9] [1] H19 (a1 c6j (a1 c6g (a1 d1l (a1 d1m (a1 d1o (a1 d1p (a1 c6k a0))))))) Tryz.func19
theorem c7I:Ok0 143 b5G:=
 fo [] [] [0,2] [] d0L a0 Tryz.func143
theorem c7J:Ok0 208 b3d:=
 fo [] [] [0,2,3,4,5,6,7] [] d0M a0 Tryz.func208
theorem c7K:Ok0 144 b0A:=
 fo [(208,b3d)] [] [0,1,4,5,6,7] [] d0N (a1 c7J a0) Tryz.func144
theorem c7L:Ok0 145 b5H:=
 fo [] [] [0,2,3] [] d0O a0 Tryz.func145
theorem c7M:Ok0 146 b0B:=
 fo [] [] [0,2] [] d0P a0 Tryz.func146
theorem c7N:Ok0 147 a9a:=
 fo [] [] [0,2] [] d0Q a0 Tryz.func147
theorem c7O:Ok0 148 b0X:=
 fo [] [] [0,2] [] d0R a0 Tryz.func148
theorem c6m:Ok0 71 a8G:=
 fo [(105,b0S),(132,b1I),(143,b5G),(144,b0A),(145,b5H),(146,b0B),(147,a9a),(148,b0X)] [(2,.pair QI Q44),(15,.pair QI Q43),(26,.pair QI Q43),(83,.pair QI Q43),(88,.pair QI Q43),(101,.pair QI Q43),(105,.pair QI Q43)] [0,3,4,5,6,7,8,9,10,11] [] H71 (a1 c5j (a1 c5k (a1 c7I (a1 c7K (a1 c7L (a1 c7M (a1 c7N (a1 c7O a0)))))))) Tryz.func71
theorem d1q:Ok0 72 b6D:=
 fo [] [] [0,2] [] H72 a0 Tryz.func72
theorem b7M:Ok0 76 a1S:=
 fo [] [] [0,2] [] H76 a0 Tryz.func76
theorem c6n:Ok0 74 a6P:=
 fo [] [] [0,2] [] H74 a0 Tryz.func74
theorem c2k:Ok0 154 a4F:=
 fo [] [] [0,1,4] [] d0S a0 Tryz.func154
theorem b5j:Ok0 209 a1T:=
 fo [(74,a6P),(154,a4F)] [] [0,1,4,5] [] d0T (a1 c6n (a1 c2k a0)) Tryz.func209
theorem b9f:Ok0 152 a2s:=
 fo [(209,a1T)] [] [0,1,4,5] [] d0U (a1 b5j a0) Tryz.func152
theorem c7P:Ok0 210 b3e:=
 fo [(124,a2l),(152,a2s),(209,a1T)] [] [0,1,4,5,6] [] d0V (a1 b3H (a1 b9f (a1 b5j a0))) Tryz.func210
theorem c7Q:Ok0 149 b4v:=
 fo [(152,a2s),(209,a1T),(210,b3e)] [(2,.pair QI Q28)] [0,3,4,5,6,7,21,23,25,27] [] d0W (a1 b9f (a1 b5j (a1 c7P a0))) Tryz.func149
theorem c7R:Ok0 330 a9b:=
 fo [(154,a4F)] [] [0,1,4,5,6] [] d0X (a1 c2k a0) Tryz.func330
theorem c7S:Ok0 331 b4w:=
 fo [] [] [0,2,3,6] [] d0Y a0 Tryz.func331
theorem c7T:Ok0 313 b6E:=
 fo [(76,a1S),(209,a1T),(330,a9b),(331,b4w)] [] [0,1,4,5,6,7,8] [] d0Z (a1 b7M (a1 b5j (a1 c7R (a1 c7S a0)))) Tryz.func313
theorem c7U:Ok0 272 b6F:=
 fo [(76,a1S),(258,a5H),(313,b6E)] [] [0,1,2,6,7,8,9,10] [] d1a (a1 b7M (a1 c2f (a1 c7T a0))) Tryz.func272
theorem c7V:Ok0 215 b5I:=
 fo [(76,a1S),(124,a2l),(152,a2s),(209,a1T),(272,b6F)] [] [0,1,4,5,6,7,8,9,10,11] [] d1b (a1 b7M (a1 b3H (a1 b9f (a1 b5j (a1 c7U a0))))) Tryz.func215
theorem c7W:Ok0 153 b5J:=
 fo [(76,a1S),(201,a4n),(209,a1T),(214,a9A),(215,b5I)] [(11,.pair QI Q1),(41,.pair QI Q1)] [0,1,2,7,8,9,10,12,14,15,16,17] [] d1c (a1 b7M (a1 b6J (a1 b5j (a1 c2e (a1 c7V a0))))) Tryz.func153
theorem d1r:Ok0 73 b8f:=
 fo [(76,a1S),(123,b4R),(124,a2l),(128,a8x),(149,b4v),(150,b2h),(151,a8r),(152,a2s),(153,b5J)] [(7,.pair QI (.pair QI (.pair QI (.pair QI (.pair QI (.pair QL (.pair (.arr 3 QI) (.pair (.list false Q3) Q14))))))))] [0,1,5,6,8,9,10,11,12] [] H73 (a1 b7M (a1 c5h (a1 b3H (a1 c2i (a1 c7Q (a1 c2a (a1 c2b (a1 b9f (a1 c7W a0))))))))) Tryz.func73
theorem d1s:Ok0 75 a9c:=
 fo [(154,a4F)] [] [0,2,3] [] H75 (a1 c2k a0) Tryz.func75
theorem c6o:Ok0 21 a8I:=
 fo [(61,b2N),(67,a9f),(71,a8G),(72,b6D),(73,b8f),(74,a6P),(75,a9c),(76,a1S)] [(5,.pair QI Q45)] [0,3,4,6,7,8,9,10,12] [] H21 (a1 c6j (a1 c6k (a1 c6m (a1 d1q (a1 d1r (a1 c6n (a1 d1s (a1 b7M a0)))))))) Tryz.func21
theorem d1t:Ok0 82 a8J:=
 fo [] [] [0,1,4,5] [] H82 a0 Tryz.func82
theorem c3S:Ok0 35 a6h:=
 fo [] [] [0,1,4,5] [] H35 a0 Tryz.func35
theorem c7X:Ok0 166 b1K:=
 fo [] [] [0,1,4,5] [] c6a a0 Tryz.func166
theorem c7Y:Ok0 167 b3g:=
 fo [(35,a6h)] [] [0,1,4] [2,3] d1d (a1 c3S a0) Tryz.func167
theorem d1u:Ok0 83 b0V:=
 fo [(35,a6h),(166,b1K),(167,b3g)] [] [0,1,4] [2,3] H83 (a1 c3S (a1 c7X (a1 c7Y a0))) Tryz.func83
theorem d1v:Ok0 24 b2l:=
 fo [(82,a8J),(83,b0V)] [] [0,1,4,5] [2,3] H24 (a1 d1t (a1 d1u a0)) Tryz.func24
theorem d1w:Ok0 51 b4T:=
 fo [(71,a8G)] [] [0,3,4,5,7,8,9] [] H51 (a1 c6m a0) Tryz.func51
theorem c7Z:Ok0 108 b3i:=
 fo [(35,a6h)] [] [0,1,4,5] [] c6b (a1 c3S a0) Tryz.func108
theorem d1x:Ok0 52 b2n:=
 fo [(108,b3i)] [] [0,1,4] [2,3] H52 (a1 c7Z a0) Tryz.func52
theorem d1y:Ok0 53 b4V:=
 fo [(21,a8I)] [] [0,1,4,5,7,8] [] H53 (a1 c6o a0) Tryz.func53
theorem d1z:Ok0 15 b5K:=
 fo [(18,b1H),(19,b2O),(21,a8I),(24,b2l),(50,b0T),(51,b4T),(52,b2n),(53,b4V)] [] [0,4,5,6,8,9,11,13,14,15] [] H15 (a1 c6h (a1 c6l (a1 c6o (a1 d1v (a1 c6i (a1 d1w (a1 d1x (a1 d1y a0)))))))) Tryz.func15
theorem d1A:Ok0 16 b6H:=
 fo [] [] [0,1,4,5] [2] H16 a0 Tryz.func16
theorem d1B:Ok0 54 b5L:=
 fo [] [] [0,2,3] [] H54 a0 Tryz.func54
theorem c8a:Ok0 109 b9p:=
 fo [] [] [0,2] [] d1e a0 Tryz.func109
theorem c8b:Ok0 110 b8g:=
 fo [] [] [0,2] [] d1f a0 Tryz.func110
theorem d1C:Ok0 55 b8h:=
 fo [(109,b9p),(110,b8g)] [] [0,1,4] [] H55 (a1 c8a (a1 c8b a0)) Tryz.func55
theorem d1D:Ok0 17 b3j:=
 fo [(54,b5L),(55,b8h)] [] [0,2,3,4] [1] H17 (a1 d1B (a1 d1C a0)) Tryz.func17
theorem fs4:Ok0 4 a8L:=
 fo [(15,b5K),(16,b6H),(17,b3j),(18,b1H),(19,b2O),(22,a9s)] [] [0,1,4,6,7,8,9] [2] H4 (a1 d1z (a1 d1A (a1 d1D (a1 c6h (a1 c6l (a1 c3P a0)))))) Tryz.func4
end Go.Ab
namespace Go.Ab
open IntKind(wrap)
section
variable {σ β:Type} {f:σ→Option (σ ⊕ β)}
theorem b3I:∀(n m:Nat)(s:σ){b:β},j0o f n s=some b→j0o f (n+m) s=some b
 |0,_,s,b,h=>by simp[j0o]at h
 |n+1,m,s,b,h=>by
  rw[show n+1+m=n+m+1 from by omega];simp only[j0o]at h⊢
  split at h
  cases h;rename_i s' g;exact b3I n m s' h;exact h
theorem b8i{n m:Nat}{s:σ}{b b':β}(h:j0o f n s=some b)(k:j0o f m s=some b'):b=b':=by
 have a:=b3I n m s h;have g:=b3I m n s k;rw[Nat.add_comm,a]at g;exact Option.some.inj g
theorem c3T{n:Nat}{s:σ}{b:β}(h:j0o f n s=some b):v0d f s=some b:=by
 unfold v0d;have g:∃n b,j0o f n s=some b:=⟨n,b,h⟩;rw[dif_pos g];exact congrArg some (b8i g.choose_spec.choose_spec h)
theorem b7N{n:Nat}{s:σ}{b:β}(h:j0o f n s=some b):x0r f s=some b:=by
 unfold x0r;split;rename_i g hb;rw[b8i hb h];exact c3T h
theorem b8j{s:σ}(h:∀n,j0o f n s=none):x0r f s=none:=by
 unfold x0r;rw[h 400];show v0d f s=none;unfold v0d;rw[dif_neg]
 rintro⟨n,b,g⟩
 rw[h n]at g;cases g
theorem a0H{s:σ}{b:β}(h:f s=some (.inr b)):x0r f s=some b:=b7N (n:=1) (by simp[j0o,h])
theorem a0I{s s':σ}(h:f s=some (.inl s')):x0r f s=x0r f s':=by
 by_cases hx:∃n b,j0o f n s'=some b
 obtain⟨n,b,hb⟩:=hx;rw[b7N hb];exact b7N (n:=n+1) (by simp[j0o,h,hb])
 ·have g:∀n,j0o f n s'=none:=fun n=>by
   cases hn:j0o f n s' with
   |none=>rfl
   |some b=>exact absurd ⟨n,b,hn⟩ hx
  rw[b8j g];refine b8j fun n=>?_
  cases n with
  |zero=>rfl
  |succ n=>simp[j0o,h,g n]
theorem c1s(S:Nat→σ)(n:Nat){b:β}(g:∀i,i<n→f (S i)=some (.inl (S (i+1))))(h:f (S n)=some (.inr b)):∀(k:Nat),k≤n→x0r f (S (n-k))=some b
 |0,_=>a0H h
 |k+1,hk=>by
  rw[a0I (g (n-(k+1)) (by omega)),show n-(k+1)+1=n-k from by omega];exact c1s S n g h k (by omega)
theorem a2t(S:Nat→σ)(n:Nat){b:β}(g:∀i,i<n→f (S i)=some (.inl (S (i+1))))(h:f (S n)=some (.inr b)):x0r f (S 0)=some b:=by
 have:=c1s S n g h n (a38 _)
 rwa [a51]at this
end
theorem a0D{n:Int}(h:-9223372036854775808≤n∧n≤9223372036854775807):wrap .i64 n=n:=by
 simp only[wrap,IntKind.bits,IntKind.signed]
 simp
 split<;>omega
theorem a0S{n:Int}(h:0≤n∧n<18446744073709551616):wrap .u64 n=n:=by
 simp only[wrap,IntKind.bits,IntKind.signed]
 simp
 omega
theorem a8M(n:Int):wrap .u8 n=n%256:=by
 simp[wrap,IntKind.bits,IntKind.signed]
theorem c1t(x y:Int):v0a x y=min x y:=by
 simp only[v0a,cond_eq_ite,dT]
 split<;>omega
theorem c5z(x y:Int):u0z x y=max x y:=by
 simp only[u0z,cond_eq_ite,dT]
 split<;>omega
theorem a1f{n:Nat}(h:n<2147483648):lim n=true:=by simp[lim,h]
section
variable {α A σ β:Type}
def a2u(g:A→α→A ⊕ β):List α→A→A ⊕ β
 | [],a=>.inl a
 |x::r,a=>match g a x with
  |.inl a'=>a2u g r a'
  |.inr b=>.inr b
def a7x(fin:A→β):A ⊕ β→β
 |.inl a=>fin a
 |.inr b=>b
theorem b3k{f:σ→Option (σ ⊕ β)}(l:List α)(S:Nat→A→σ)(g:A→α→A ⊕ β)(I:Nat→A→Prop)(e:A→β)
  (d:∀i (h:i<l.length) a,I i a→(∀a',g a l[i]=.inl a'→f (S i a)=some (.inl (S (i+1) a'))∧I (i+1) a')∧(∀b,g a l[i]=.inr b→f (S i a)=some (.inr b)))
  (c:∀a,I l.length a→f (S l.length a)=some (.inr (e a))):∀(k i:Nat)(a:A),i+k=l.length→I i a→x0r f (S i a)=some (a7x e (a2u g (l.drop i) a))
 |0,i,a,hi,ha=>by
  obtain rfl:i=l.length:=by omega
  rw[a35];exact a0H (c a ha)
 |k+1,i,a,hi,ha=>by
  have j:i<l.length:=by omega
  rw[a05 j];obtain⟨m,n⟩:=d i j a ha;simp only[a2u];cases hg:g a l[i]with
  |inl a'=>
   obtain⟨o,p⟩:=m a' hg;rw[a0I o];exact b3k l S g I e d c k (i+1) a' (by omega) p
  |inr b=>exact a0H (n b hg)
theorem a1I{f:σ→Option (σ ⊕ β)}(l:List α)(S:Nat→A→σ)(g:A→α→A ⊕ β)(I:Nat→A→Prop)(k:A→β)
  (d:∀i (h:i<l.length) a,I i a→(∀a',g a l[i]=.inl a'→f (S i a)=some (.inl (S (i+1) a'))∧I (i+1) a')∧(∀b,g a l[i]=.inr b→f (S i a)=some (.inr b)))
  (c:∀a,I l.length a→f (S l.length a)=some (.inr (k a))){a:A}(e:I 0 a):x0r f (S 0 a)=some (a7x k (a2u g l a)):=by
 have:=b3k l S g I k d c l.length 0 a (by omega) e
 rwa [a33]at this
theorem a1x{f:σ→Option (σ ⊕ β)}(l:List α)(S:Nat→σ)(p:α→Bool){bt bf:β}
  (k:∀i (h:i<l.length),p l[i]=true→f (S i)=some (.inl (S (i+1))))(c:∀i (h:i<l.length),p l[i]=false→f (S i)=some (.inr bf))
  (g:f (S l.length)=some (.inr bt)):x0r f (S 0)=some (bif l.all p then bt else bf):=by
 have h:=a1I (A:=Unit) l (fun i _=>S i) (fun _ x=>bif p x then .inl ()else .inr bf) (fun _ _=>True) (fun _=>bt) (fun i h a _=>?_) (fun _ _=>g) (a:=()) trivial
 ·rw[h];congr 1;clear h k c g
  induction l with
  |nil=>rfl
  |cons x l ih=>
   simp only[a2u,List.all_cons];cases p x with
   |true=>simpa using ih
   |false=>rfl
 ·cases hp:p l[i]with
  |true=>exact⟨fun d _=>⟨k i h hp,trivial⟩,fun b hb=>by simp[hp]at hb⟩
  |false=>exact⟨fun d e=>by simp[hp]at e,fun b hb=>by simp[hp]at hb;rw[←hb];exact c i h hp⟩
end
theorem a0B{α:Type}{l:List α}{i:Nat}(h:i<l.length):l0z l (i:Int)=some l[i]:=by
 unfold l0z;rw[if_pos (Int.natCast_nonneg i),tN,lG h]
def a0A(x:Int):Bool:=decide (-1073741824≤x)&&decide (x<1073741824)
theorem a1z{x:Int}:a0A x=true↔-1073741824≤x∧x<1073741824:=by simp[a0A]
def short{α:Type}(l:List α):Prop:=l.length<1000000
theorem a0C{i:Nat}(h:i<1000000):wrap .i64 ((i:Int)+1)=((i+1:Nat):Int):=by
 rw[a0D (by omega)];omega
theorem dlt{i n:Nat}(h:i<n):decide ((i:Int)<(n:Int))=true:=by simp;omega
theorem dge(n:Nat):decide ((n:Int)<(n:Int))=false:=by simp
theorem a3N{l:List Int}(a:short l):a2e l=some (l.all a0A):=by
 unfold a2e
 have:=a1x (f:=a2h) l (fun i=>(l,(l.length:Int),(i:Int),())) a0A (bt:=Sum.inl ()) (bf:=Sum.inr (false,()))
  (fun i h hp=>by
   have hp:=a1z.1 hp;have g:decide (l[i] < -1073741824)=false:=by simp;omega
   have k:decide (l[i]≥1073741824)=false:=by simp;omega
   simp only[a2h,dlt h,cT,a0B h,oB,g,k,cF,a0C (a22 h a)])
  (fun i h hp=>by
   simp only[a2h,dlt h,cT,a0B h,oB]
   by_cases g:l[i] < -1073741824
   simp[g];have k:l[i]≥1073741824:=by
    simp only[a0A,Bool.and_eq_false_iff,decide_eq_false_iff_not]at hp;omega
   simp[g,k])
  (by simp[a2h])
 simp only[nZ]at this;rw[this];cases l.all a0A<;>rfl
theorem a5m(x:Int):a4m x=some (a0A x):=by
 grind[a4m,a0A]
theorem a6S(x:Int):a6p x=some (a0A x):=by
 grind[a6p,a0A]
theorem a4p(x:Int):a5g x=some (a0A x):=by
 grind[a5g,a0A]
theorem b3l(x:Int):a4l x=some (a0A x):=by
 grind[a4l,a0A]
theorem a4Z{l:List Int}(g:short l):a2i l=some (l.all a0A):=by
 unfold a2i
 have:=a1x (f:=a2G) l (fun i=>(l,(l.length:Int),(i:Int),())) a0A (bt:=Sum.inl ()) (bf:=Sum.inr (false,()))
  (fun i h hp=>by simp[a2G,a0B h,a5m,hp,a0C (a22 h g),h])
  (fun i h hp=>by simp_all[a2G,a0B,a5m])
  (by simp[a2G])
 grind
theorem b2p{l:List Int}(g:short l):a3J l=some (l.all a0A):=by
 unfold a3J
 have:=a1x (f:=a3q) l (fun i=>(l,(l.length:Int),(i:Int),())) a0A (bt:=Sum.inl ()) (bf:=Sum.inr (false,()))
  (fun i h hp=>by simp[a3q,a0B h,a6S,hp,a0C (a22 h g),h])
  (fun i h hp=>by simp_all[a3q,a0B,a6S])
  (by simp[a3q])
 grind
theorem b1L{l:List Int}(g:short l):a4w l=some (l.all a0A):=by
 unfold a4w
 have:=a1x (f:=a3b) l (fun i=>(l,(l.length:Int),(i:Int),())) a0A (bt:=Sum.inl ()) (bf:=Sum.inr (false,()))
  (fun i h hp=>by simp[a3b,a0B h,a4p,hp,a0C (a22 h g),h])
  (fun i h hp=>by simp_all[a3b,a0B,a4p])
  (by simp[a3b])
 grind
theorem a6j{l:List Int}(h:short l):a2p l=some (l.all a0A):=by
 have e:b2f=a2h:=rfl
 have:a2p l=a2e l:=by rfl
 simp_all[a3N]
def b6L(x:Int):Bool:=decide (-32768≤x)&&decide (x<32768)
def a8c(c:List Int)(s:Int):Bool:=decide (1≤c.length)&&(decide (c.length≤32)&&(decide (0≤s)&&(decide (s≤15)&&c.all b6L)))
theorem a7W{c:List Int}{s:Int}(a:short c):a3Q (c,s)=some (a8c c s):=by
 have:=a1x (f:=a4v) c (fun i=>(c,(c.length:Int),(i:Int),())) b6L (bt:=Sum.inl ()) (bf:=Sum.inr (false,()))
  (fun i h hp=>by
   simp[b6L]at hp;have g:¬ c[i] < -32768:=by omega
   have k:¬ c[i]≥32768:=by omega
   simp[a4v,a0B h,a0C (a22 h a),h,g,k])
  (fun i h hp=>by
   grind[b6L,a4v,a0B])
  (by simp[a4v])
 simp at this;unfold a3Q a8c
 grind
def b3J(x:Int):Bool:=decide (-64≤x)&&decide (x≤64)
def a9P(lag:Int)(t:List Int):Bool:=decide (2≤lag)&&(decide (lag≤1024)&&t.all b3J)
theorem b2Q{t:List Int}{lag:Int}(g:t.length=3):a7d (lag,t)=some (a9P lag t):=by
 have:=a1x (f:=a5V) t (fun i=>(t,(i:Int),())) b3J (bt:=Sum.inl ()) (bf:=Sum.inr (false,()))
  (fun i h hp=>by
   simp[b3J]at hp
   grind[a5V,a0B,a0C])
  (fun i h hp=>by
   grind[b3J,a5V,a0B])
  (by simp_all[a5V])
 simp at this;unfold a7d a9P
 grind
def stageB(s:Int×(Int×Unit)):Bool:=decide (1≤s.1)&&(decide (s.1≤32)&&(decide (0≤s.2.1)&&decide (s.2.1≤8)))
def a7J(l:List (Int×Int×Unit)):Bool:=decide (l.length≤3)&&l.all stageB
theorem a9g(s:Int×(Int×Unit)):a5W s=some (stageB s):=by
 grind[a5W,stageB]
theorem b1M{l:List (Int×Int×Unit)}(g:short l):a6q l=some (a7J l):=by
 have:=a1x (f:=a5e) l (fun i=>(l,(l.length:Int),(i:Int),())) stageB (bt:=Sum.inl ()) (bf:=Sum.inr (false,()))
  (fun i h hp=>by simp[a5e,a0B h,a9g,hp,a0C (a22 h g),h])
  (fun i h hp=>by simp_all[a5e,a0B,a9g])
  (by simp[a5e])
 simp at this;unfold a6q a7J
 grind
@[reducible] def W(n:Int):Int:=wrap .i64 n
theorem a6T(n:Int):wrap .i64 n=Int.bmod n 18446744073709551616:=by
 grind[wrap,IntKind.bits,IntKind.signed]
theorem b4X{n:Int}(h:a0A n=true):W n=n:=by
 grind[a1z,a0D]
def a3x(guess:List Int→Int):List Int→List Int→Option (List Int)
 | [],out=>some out
 |x::r,out=>bif a0A (W (x+guess out))then a3x guess r (out++[W (x+guess out)])else none
def b2q{β:Type}(guess:List Int→Int)(bad:β)(out:List Int)(x:Int):List Int ⊕ β:=bif a0A (W (x+guess out))then .inl (out++[W (x+guess out)])else .inr bad
theorem b1j{β:Type}(h:List Int→Int)(g:β)(f:List Int→β):∀(l out:List Int),a7x f (a2u (b2q h g) l out)=match a3x h l out with|some r=>f r|none=>g
 | [],out=>rfl
 |x::l,out=>by
  simp[a2u,b2q,a3x];cases a0A (W (x+h out))with
  |true=>simp_all[b1j]
  |false=>rfl
theorem b1k(g:List Int→Int):∀(l out r:List Int),out.all a0A=true→a3x g l out=some r→r.all a0A=true∧r.length=out.length+l.length
 | [],out,r,h,e=>by simp_all[a3x]
 |x::l,out,r,h,e=>by
  simp[a3x]at e;cases hw:a0A (W (x+g out))with
  |true=>
   rw[hw]at e;obtain⟨f,k⟩:=b1k g l _ r (by simp_all) e
   grind
  |false=>simp_all
def a4i:Option (List Int)→List Int×Int
 |some r=>(r,0)
 |none=>([],6)
def atB(out:List Int)(i:Nat):Int:=out.getD (out.length-i) 0
def a3X(o:Nat)(out:List Int):Int:=match o with
 | 1=>atB out 1
 | 2=>2*atB out 1-atB out 2
 | 3=>3*atB out 1-3*atB out 2+atB out 3
 | 4=>4*atB out 1-6*atB out 2+4*atB out 3-atB out 4
 |_=>0
theorem b1l{out:List Int}{i:Nat}(f:1≤i)(h:i≤out.length)(g:short out):a1d ((i:Int),out)=some (atB out i,out):=by
 unfold a1d;have g:out.length<1000000:=g
 grind[a0D,a0B,atB]
theorem b7O{out:List Int}{o:Nat}(e:o≤4)(h:o≤out.length)(a:short out):∃g,a7R (out,(o:Int))=some g∧∀x,W (x+g)=W (x+a3X o out):=by
 have f:=fun(h':1≤out.length)=>b1l (i:=1) (by omega) h' a;have k:=fun(h':2≤out.length)=>b1l (i:=2) (by omega) h' a;have b:=fun(h':3≤out.length)=>b1l (i:=3) (by omega) h' a;have c:=fun(h':4≤out.length)=>b1l (i:=4) (by omega) h' a;simp at f k b c;unfold a7R;have d:o=0∨o=1∨o=2∨o=3∨o=4:=by omega
 rcases d with rfl|rfl|rfl|rfl|rfl;exact⟨0,rfl,fun x=>rfl⟩;exact⟨_,by simp[f (by omega)];rfl,fun x=>rfl⟩;refine⟨_,by simp[f (by omega),k (by omega)];rfl,fun x=>?_⟩;simp_all[a6T,a3X];refine⟨_,by simp[f (by omega),k (by omega),b (by omega)];rfl,fun x=>?_⟩;simp_all[a6T,a3X];refine⟨_,by simp[f (by omega),k (by omega),b (by omega),c (by omega)];rfl,fun x=>?_⟩;simp_all[a6T,a3X]
theorem a0Q{n:Nat}(h:n<1000000):lim n=true:=a1f (by omega)
theorem b8N{warm rest:List Int}{o:Nat}(u:o≤4)(x:warm.length=o)(w:rest.length<100000):
  a8z (warm,rest,(o:Int))=some (a4i (bif warm.all a0A&&rest.all a0A then a3x (a3X o) rest warm else none)):=by
 have c:short warm:=by unfold short;omega
 have m:short rest:=by unfold short;omega
 unfold a8z;have p:¬ (o:Int)<0:=by omega
 have q:¬ (o:Int) > 4:=by omega
 have r:(((warm.length:Nat):Int) != (o:Int))=false:=by simp_all
 simp only[p,q,r,decide_false,cF,oB,a6j c,a6j m];cases hw1:warm.all a0A with
 |false=>rfl
 |true=>
  simp only[bT,cF,oB,a36];cases hw2:rest.all a0A with
  |false=>rfl
  |true=>
   simp[a0Q c]
   have:=a1I (f:=a6E) rest (fun i out=>((o:Int),rest,(rest.length:Int),(i:Int),out,())) (b2q (a3X o) (Sum.inr ((6:Int),([]:List Int),())))
    (fun i out=>o≤out.length∧out.length≤o+i) (fun out=>Sum.inl (out,()))
    (fun i h out s=>by
     have j:i<1000000:=by omega
     have l:short out:=by unfold short;omega
     obtain⟨g,t,d⟩:=b7O u s.1 l;have e:wrap .i64 (rest[i]+g)=W (rest[i]+a3X o out):=d _;have k:a2p [W (rest[i]+a3X o out)]=some (a0A (W (rest[i]+a3X o out))):=by rw[a6j (by simp[short])];simp
     simp only[a6E,dlt h,cT,a0B h,oB,t,e,k,b2q];cases hb:a0A (W (rest[i]+a3X o out))with
     |true=>
      simp only[cT,bT,cF,a0Q (show out.length+1<1000000 by omega),a0C j];refine⟨fun v n=>?_,fun b hb=>(by grind)⟩;simp at n;subst n;exact⟨rfl,by grind,by grind⟩
     |false=>
      simp)
    (fun out _=>by simp[a6E]) (a:=warm) ⟨by omega,by omega⟩
   simp[b1j]at this;rw[this];cases a3x (a3X o) rest warm<;>rfl
def b9q(out:List Int):List Int→Nat→Int→Int
 | [],_,acc=>acc
 |c::r,i,acc=>bif decide (i<out.length)then b9q out r (i+1) (W (acc+W (c*atB out (i+1))))else acc
def a9h(c:List Int)(s:Int)(out:List Int):Int:=z0h .i64 (b9q out c 0 0) s
theorem c6p{out:List Int}{i:Nat}(h:i<out.length)(g:short out):l0z out (wrap .i64 (wrap .i64 (((out.length:Nat):Int)-1)-(i:Int)))=some (atB out (i+1)):=by
 have g:out.length<1000000:=g;have f:wrap .i64 (((out.length:Nat):Int)-1)=((out.length-1:Nat):Int):=by rw[a0D (by omega)];omega
 have k:wrap .i64 (((out.length-1:Nat):Int)-(i:Int))=((out.length-(i+1):Nat):Int):=by rw[a0D (by omega)];omega
 rw[f,k,a0B (show out.length-(i+1)<out.length by omega),atB,lD,lG (by omega)];rfl
theorem b4Y{out c:List Int}{s:Int}(a:short out)(e:short c):∀(k i:Nat)(acc:Int),i+k=c.length→
  x0r a2J (out,s,acc,c,(c.length:Int),(i:Int),())=some (s,b9q out (c.drop i) i acc,())
 |0,i,acc,h=>by
  obtain rfl:i=c.length:=by omega
  rw[a35];exact a0H (by simp[a2J,b9q])
 |k+1,i,acc,h=>by
  have g:i<c.length:=by omega
  have l:out.length<1000000:=a;have j:c.length<1000000:=e;rw[a05 g,b9q];have b:wrap .i64 (((out.length:Nat):Int)-1)=((out.length:Nat):Int)-1:=a0D (by omega);have d:wrap .i64 (((out.length:Nat):Int)-1-(i:Int))=((out.length:Nat):Int)-1-(i:Int):=a0D (by omega)
  by_cases hi:i<out.length
  have f:decide (wrap .i64 (wrap .i64 (((out.length:Nat):Int)-1)-(i:Int))<0)=false:=by rw[b,d];simp;omega
  simp only[hi,decide_true,cT];rw[a0I (s':=(out,s,W (acc+W (c[i]*atB out (i+1))),c,(c.length:Int),((i+1:Nat):Int),())) (by
   simp only[a2J,dlt g,cT,a0B g,oB,f,cF,c6p hi a,a0C (show i<1000000 by omega)])]
  exact b4Y a e k (i+1) _ (by omega);have f:decide (wrap .i64 (wrap .i64 (((out.length:Nat):Int)-1)-(i:Int))<0)=true:=by rw[b,d];simp;omega
  simp only[hi,decide_false,cF];exact a0H (by simp only[a2J,dlt g,cT,a0B g,oB,f])
theorem b3K{out c:List Int}{s:Int}(g:short out)(h:short c)(f:0≤s):a3S (out,c,s)=some (a9h c s out):=by
 have:=b4Y (s:=s) g h c.length 0 0 (by omega)
 simp only[nZ,a33]at this;unfold a3S;simp only[this,oB]
 have:¬ s<0:=by omega
 simp[this,a9h]
def b1N(warm rest c:List Int)(s:Int):Option (List Int):=bif warm.all a0A&&rest.all a0A then a3x (a9h c s) rest warm else none
theorem b3m{warm rest c:List Int}{s:Int}(o:a8c c s=true)(w:warm.length=c.length)(v:rest.length<100000):
  a5Z (warm,rest,c,s)=some (a4i (b1N warm rest c s)):=by
 have g:=o;simp only[a8c,bA,dT]at g;have k:short c:=by unfold short;omega
 have n:short warm:=by unfold short;omega
 have m:short rest:=by unfold short;omega
 unfold a5Z;have r:(((warm.length:Nat):Int) != ((c.length:Nat):Int))=false:=by simp;omega
 simp only[a7W k,o,oB,bT,cF,r,a4Z n,a4Z m,b1N];cases hw1:warm.all a0A with
 |false=>rfl
 |true=>
  simp only[bT,cF,oB,a36];cases hw2:rest.all a0A with
  |false=>rfl
  |true=>
   have q:wrap .i64 (((warm.length:Nat):Int)+((rest.length:Nat):Int))=((warm.length+rest.length:Nat):Int):=by rw[a0D (by omega)];omega
   have t:(0:Int)≤((warm.length+rest.length:Nat):Int):=by omega
   simp only[bT,cF,cT,q,t,decide_true,tN,a0Q (show warm.length+rest.length<1000000 by omega),a0Q (show 0+warm.length<1000000 by omega),a07,a42,a24]
   have:=a1I (f:=a5I) rest (fun i out=>(c,s,rest,(rest.length:Int),(i:Int),out,())) (b2q (a9h c s) (Sum.inr ((6:Int),([]:List Int),())))
    (fun i out=>out.length≤warm.length+i) (fun out=>Sum.inl (out,()))
    (fun i h out u=>by
     have j:i<1000000:=by omega
     have l:short out:=by unfold short;omega
     have e:wrap .i64 (a9h c s out+rest[i])=W (rest[i]+a9h c s out):=by rw[Int.add_comm]
     simp only[a5I,dlt h,cT,a0B h,oB,b3K l k g.2.2.1,e,a5m,b2q];cases hb:a0A (W (rest[i]+a9h c s out))with
     |true=>
      simp only[cT,bT,cF,a0Q (show out.length+1<1000000 by omega),a0C j];refine⟨fun p d=>?_,fun b hb=>(by cases hb)⟩;simp only[Sum.inl.injEq]at d;subst d;exact⟨rfl,by simp;omega⟩
     |false=>
      refine⟨fun p d=>(by cases d),fun b hb=>?_⟩;simp only[cF,Sum.inr.injEq]at hb;subst hb;rfl)
    (fun out _=>by simp[a5I]) (a:=warm) (by omega)
   simp only[nZ,b1j]at this;rw[this];cases a3x (a9h c s) rest warm<;>rfl
def b9r(out:List Int)(lag:Int):List Int→Nat→Int→Int
 | [],_,acc=>acc
 |t::r,i,acc=>b9r out lag r (i+1) (bif decide (0≤(out.length:Int)-lag-1+i)then W (acc+W (t*out.getD ((out.length:Int)-lag-1+i).toNat 0))else acc)
def a7X(lag:Int)(t:List Int)(out:List Int):Int:=z0h .i64 (b9r out lag t 0 0) 6
theorem b9s{out:List Int}{j:Int}(g:0≤j)(h:j<out.length):l0z out j=some (out.getD j.toNat 0):=by
 obtain⟨n,rfl⟩:=a06 g;simp_all[a0B]
theorem c5A{n i:Nat}{lag:Int}(h:2≤lag)(g:lag≤1024)(k:n<1000000)(f:i<3):
  wrap .i64 (wrap .i64 (wrap .i64 ((n:Int)-lag)-1)+(i:Int))=(n:Int)-lag-1+i:=by
 grind[a0D]
theorem c2W{l:List Int}{n j:Nat}(h:j<n):(l.take n).getD j 0=l.getD j 0:=by
 simp_all
theorem a7y{l t:List Int}{lag:Int}{n:Nat}(m:n≤l.length)(j:short l)(o:t.length=3)(a:2≤lag)(b:lag≤1024):∀(k i:Nat)(acc:Int),i+k=3→
  x0r a3r (l,(n:Int),lag,acc,t,(i:Int),())=some (b9r (l.take n) lag (t.drop i) i acc,())
 |0,i,acc,h=>by
  obtain rfl:i=t.length:=by omega
  grind[a0H,a3r,b9r]
 |k+1,i,acc,h=>by
  have g:i<t.length:=by omega
  have f:decide ((i:Int)<3)=true:=by grind
  have p:l.length<1000000:=j;have d:(l.take n).length=n:=by simp_all
  have e:=c5A (n:=n) (i:=i) a b (by omega) (by omega);rw[a05 g,b9r,d]
  by_cases hp:0≤(n:Int)-lag-1+i
  have c:decide ((n:Int)-lag-1+i≥0)=true:=by simp_all
  simp only[hp,decide_true,cT];rw[c2W (show((n:Int)-lag-1+i).toNat<n by omega),a0I (s':=(l,(n:Int),lag,W (acc+W (t[i]*l.getD ((n:Int)-lag-1+i).toNat 0)),t,((i+1:Nat):Int),())) (by
   simp only[a3r,f,cT,a0B g,oB,e,c,b9s hp (show(n:Int)-lag-1+(i:Int)<(l.length:Int)by omega),a0C (show i<1000000 by omega)])]
  exact a7y m j o a b k (i+1) _ (by omega);have c:decide ((n:Int)-lag-1+i≥0)=false:=by simp_all
  simp[hp];rw[a0I (s':=(l,(n:Int),lag,acc,t,((i+1:Nat):Int),())) (by
   simp only[a3r,f,cT,a0B g,oB,e,c,cF,a0C (show i<1000000 by omega)])]
  exact a7y m j o a b k (i+1) _ (by omega)
theorem b2r{l t:List Int}{lag:Int}{n:Nat}(f:n≤l.length)(k:short l)(a:t.length=3)(h:2≤lag)(g:lag≤1024):
  a3K (l,(n:Int),lag,t)=some (a7X lag t (l.take n)):=by
 have:=a7y (t:=t) f k a h g 3 0 0 (by rfl)
 simp_all[a3K,a7X]
theorem b6M{out t:List Int}{lag:Int}(f:short out)(k:t.length=3)(h:2≤lag)(g:lag≤1024):a3K (out,(out.length:Int),lag,t)=some (a7X lag t out):=by
 simp_all[b2r]
def b2t(rest:List Int)(lag:Int)(t:List Int):Option (List Int):=bif rest.all a0A then a3x (a7X lag t) rest []else none
theorem b9t{rest t:List Int}{lag:Int}(d:a9P lag t=true)(e:t.length=3)(m:rest.length<100000):a9E (rest,lag,t)=some (a4i (b2t rest lag t)):=by
 have g:=d;simp only[a9P,bA,dT]at g;have k:short rest:=by unfold short;omega
 unfold a9E;simp only[b2Q e,d,oB,bT,cF,b2p k,b2t];cases hw2:rest.all a0A with
 |false=>rfl
 |true=>
  have l:(0:Int)≤((rest.length:Nat):Int):=by omega
  simp[a0Q k]
  have:=a1I (f:=a7g) rest (fun i out=>(lag,rest,(rest.length:Int),(i:Int),out,t,())) (b2q (a7X lag t) (Sum.inr ((6:Int),([]:List Int),())))
   (fun i out=>out.length=i) (fun out=>Sum.inl (out,()))
   (fun i h out j=>by
    have b:i<1000000:=by omega
    have c:short out:=by unfold short;omega
    have hp:=b6M (out:=out) (t:=t) (lag:=lag) c e g.1 g.2.1;rw[j]at hp;simp only[a7g,dlt h,cT,a0B h,oB,hp,a6S,b2q];cases hb:a0A (W (rest[i]+a7X lag t out))with
    |true=>
     simp only[cT,bT,cF,a0Q (show out.length+1<1000000 by omega),a0C b];simp_all
    |false=>
     simp)
   (fun out _=>by simp[a7g]) (a:=[]) rfl
  simp[b1j]at this;rw[this];cases a3x (a7X lag t) rest []<;>rfl
def b6N{β:Type}(n:Int)(bad:β)(out:List Int)(x:Int):List Int ⊕ β:=bif a0A x&&a0A (z0g .i64 x n)then .inl (out++[z0g .i64 x n])else .inr bad
def upO(n:Int)(l:List Int):Option (List Int):=bif l.all (fun x=>a0A x&&a0A (z0g .i64 x n))then some (l.map fun x=>z0g .i64 x n)else none
theorem b5M{β:Type}(n:Int)(h:β)(g:List Int→β):∀(l out:List Int),a7x g (a2u (b6N n h) l out)=match upO n l with|some r=>g (out++r)|none=>h
 | [],out=>by simp[a2u,a7x,upO]
 |x::l,out=>by
  simp only[a2u,b6N,upO,List.all_cons];cases hx:(a0A x&&a0A (z0g .i64 x n))with
  |true=>
   simp only[cT,a36];rw[b5M n h g l _];simp only[upO];cases l.all (fun x=>a0A x&&a0A (z0g .i64 x n))with
   |true=>simp
   |false=>rfl
  |false=>rfl
theorem b9u{l:List Int}{n:Int}(d:0≤n)(e:n≤30)(m:l.length<100000):a7H (l,n)=some (a4i (upO n l)):=by
 have c:short l:=by unfold short;omega
 have g:¬ n<0:=by omega
 have b:¬ n > 30:=by omega
 unfold a7H;simp[g,b]
 have:=a1I (f:=a7h) l (fun i out=>(n,l,(l.length:Int),(i:Int),out,())) (b6N n (Sum.inr ((6:Int),([]:List Int),())))
  (fun i out=>out.length=i) (fun out=>Sum.inl (out,()))
  (fun i h out j=>by
   have k:i<1000000:=by omega
   simp only[a7h,dlt h,cT,a0B h,oB,b3l,b6N,g,decide_false,cF];cases hb:a0A l[i]with
   |true=>
    cases hb2:a0A (z0g .i64 l[i] n)with
    |true=>
     simp only[cT,bT,cF,oB,g,decide_false,a0Q (show out.length+1<1000000 by omega),a0C k,a07];simp_all
    |false=>
     simp
   |false=>
    simp)
  (fun out _=>by simp[a7h]) (a:=[]) rfl
 simp[b5M]at this;rw[this];cases upO n l<;>rfl
@[reducible] def Fil:Type:=Int×((List Int)×((List Int)×Unit))
def a2c(x:Int):Int:=v0a (u0z x (-1073741824)) 1073741823
def b6O(x:Int):Int:=v0a (u0z x (-1048576)) 1048576
theorem b9v(x:Int):-1048576≤b6O x∧b6O x≤1048576:=by
 grind[b6O,c1t,c5z]
def c2l:List Int→List Int→Int→Int
 |a::w,b::h,acc=>c2l w h (W (acc+W (a*b)))
 |_,_,acc=>acc
def a1c(f:Fil):Int:=a2c (z0h .i64 (c2l f.2.1 f.2.2.1 0) 16)
structure FilOk (f:Fil):Prop where
 len:f.2.1.length=f.2.2.1.length
 pos:1≤f.2.1.length
 most:f.2.1.length≤32
 rate:0≤f.1∧f.1≤8
 small:∀x∈f.2.1,-1048576≤x∧x≤1048576
theorem b6g{l:List Int}{i:Nat}(h:i<l.length):a04 l i 0=l[i]:=by
 simp_all
theorem b1O{f:Fil}(c:FilOk f):∀(k i:Nat)(acc:Int),i+k=f.2.1.length→
  x0r a2F (acc,(f.2.1.length:Int),(i:Int),f,())=some (c2l (f.2.1.drop i) (f.2.2.1.drop i) acc,f,())
 |0,i,acc,h=>by
  obtain rfl:i=f.2.1.length:=by omega
  rw[a35,a0H (b:=(acc,f,())) (by simp[a2F])];rfl
 |k+1,i,acc,h=>by
  have g:i<f.2.1.length:=by omega
  have a:i<f.2.2.1.length:=by rw[←c.len];omega
  have e:=c.most;rw[a05 g,a05 a,c2l];have d:decide ((0:Int)≤(i:Int))=true:=by simp
  rw[a0I (s':=(W (acc+W (f.2.1[i]*f.2.2.1[i])),(f.2.1.length:Int),((i+1:Nat):Int),f,())) (by
   simp only[a2F,dlt g,dlt a,d,cT,a07,tN,b6g g,b6g a,a0C (show i<1000000 by omega)])]
  exact b1O c k (i+1) _ (by omega)
theorem a5n{f:Fil}(h:FilOk f):a1K f=some (a1c f,f):=by
 have:=b1O h f.2.1.length 0 0 (by omega)
 simp at this;unfold a1K;simp only[this,oB,a4x];rfl
def b5k(x:Int):Int:=if 0<x then 1 else if x<0 then -1 else 0
def a9Q(r:Int)(x g:Int):Int:=b5k (x-g)*2^r.toNat
def b3L(st:Int)(w h:Int):Int:=b6O (W (w+b5k h*st))
def b1m(f:Fil)(x:Int):Fil:=
 (f.1,a23 (b3L (a9Q f.1 (a2c x) (a1c f))) f.2.1 f.2.2.1,a2c x::f.2.2.1.take (f.2.2.1.length-1),f.2.2.2)
theorem b9w{f:Fil}(k:FilOk f)(x:Int):FilOk (b1m f x):=by
 obtain⟨a,b,c,g,d⟩:=k;have e:(a23 (b3L (a9Q f.1 (a2c x) (a1c f))) f.2.1 f.2.2.1).length=f.2.1.length:=by simp_all
 refine⟨?_,?_,?_,g,?_⟩;show(a23 _ _ _).length=(a2c x::f.2.2.1.take (f.2.2.1.length-1)).length;simp_all;show 1≤(a23 _ _ _).length;omega;show(a23 _ _ _).length≤32;omega;intro y h;have h:y∈a23 (b3L (a9Q f.1 (a2c x) (a1c f))) f.2.1 f.2.2.1:=h;obtain⟨i,j,rfl⟩:=List.mem_iff_getElem.1 h
 simp
 exact b9v _
theorem b2R(x:Int):(0<x∧b5k x=1)∨(x<0∧b5k x=-1)∨(x=0∧b5k x=0):=by
 unfold b5k;omega
theorem b6h{r:Int}(h:0≤r∧r≤8):(2:Int)^r.toNat≤256∧1≤(2:Int)^r.toNat:=by
 have:r.toNat=0∨r.toNat=1∨r.toNat=2∨r.toNat=3∨r.toNat=4∨r.toNat=5∨r.toNat=6∨r.toNat=7∨r.toNat=8:=by omega
 rcases this with e|e|e|e|e|e|e|e|e<;>rw[e]<;>decide
theorem c2X{r:Int}(h:0≤r∧r≤8){x:Int}(g:-1≤x∧x≤1):z0g .i64 x r=x*2^r.toNat:=by
 have hp:=b6h h;have hb:min r.toNat 64=r.toNat:=by omega
 unfold z0g;show wrap .i64 (x*2^(min r.toNat 64))=_;rw[hb]
 have:x=-1∨x=0∨x=1:=by omega
 rcases this with rfl|rfl|rfl
 all_goals grind[a0D]
theorem b8O{f:Fil}(a:FilOk f)(x:Int):
  (bif decide (a2c x > a1c f)then bif decide (f.1<0)then(none:Option (Int×Int×Fil×Unit))else some (a2c x,z0g .i64 (1:Int) f.1,f,())
   else bif decide (a2c x<a1c f)then bif decide (f.1<0)then none else some (a2c x,wrap .i64 (0-(z0g .i64 (1:Int) f.1)),f,())
   else some (a2c x,(0:Int),f,()))=some (a2c x,a9Q f.1 (a2c x) (a1c f),f,()):=by
 have d:¬ f.1<0:=by have:=a.rate;omega
 have hp:=b6h a.rate;have b:=c2X a.rate (x:=1) (by omega);rw[Int.one_mul]at b;rcases b2R (a2c x-a1c f)with⟨c,h⟩|⟨c,h⟩|⟨c,h⟩;have g:a2c x > a1c f:=by omega
 simp only[g,d,decide_true,decide_false,cT,cF,a9Q,h,Int.one_mul,b];have g:¬ a2c x > a1c f:=by omega
 have k:a2c x<a1c f:=by omega
 simp only[g,k,d,decide_true,decide_false,cT,cF,a9Q,h,b]
 grind[a0D]
 have g:¬ a2c x > a1c f:=by omega
 have k:¬ a2c x<a1c f:=by omega
 simp only[g,k,decide_false,cF,a9Q,h,Int.zero_mul]
theorem c3U{l z:List Int}{i:Nat}(f:i<l.length)(k:z.length=l.length):(z.take i++l.drop i).set i (z[i]'(by omega))=z.take (i+1)++l.drop (i+1):=by
 have h:(z.take i).length=i:=by grind
 have g:z.take (i+1)=z.take i++[z[i]'(by omega)]:=by simp
 rw[a41 _ _ (by omega),h,a51,a05 f,a48,g,aA];rfl
theorem c3V{l z:List Int}{i:Nat}(h:i<l.length)(g:z.length=l.length):a04 (z.take i++l.drop i) i 0=l[i]:=by
 grind
theorem c2Y{f:Fil}(g:FilOk f){i:Nat}(h:i<f.2.1.length):-1048576≤f.2.1[i]∧f.2.1[i]≤1048576:=g.small _ (a21 h)
theorem b6P{f:Fil}(n:FilOk f){x1 st:Int}(u:-256≤st∧st≤256):
  x0r a2b (x1,st,(f.2.2.1.length:Int),(0:Int),f,())=some (x1,(f.1,a23 (b3L st) f.2.1 f.2.2.1,f.2.2),()):=by
 obtain⟨z,w⟩:∃z,a23 (b3L st) f.2.1 f.2.2.1=z:=⟨_,rfl⟩;have q:=n.len;have d:z.length=f.2.1.length:=by grind
 have v:=n.most
 have:=a2t (f:=a2b) (fun i=>(x1,st,(f.2.2.1.length:Int),(i:Int),(f.1,z.take i++f.2.1.drop i,f.2.2),()))
  f.2.2.1.length (b:=(x1,(f.1,z,f.2.2),())) (fun i p=>by
   have k:i<f.2.1.length:=by omega
   have j:decide ((0:Int)≤(i:Int))=true:=by simp
   have s:(z.take i++f.2.1.drop i).length=f.2.1.length:=by grind
   have g:decide ((i:Int)<((z.take i++f.2.1.drop i).length:Int))=true:=by simp_all
   have o:z[i]'(by omega)=b3L st f.2.1[i] f.2.2.1[i]:=by grind
   have t:=c2Y n k;have h:=c3U k d;rw[o]at h;simp only[a2b,dlt p,j,g,cT,a07,tN,b6g p,c3V k d];rcases b2R f.2.2.1[i]with⟨m,a⟩|⟨m,a⟩|⟨m,a⟩;have c:f.2.2.1[i] > 0:=m;simp[b3L,a]at h;simp only[c,decide_true,cT,oB,j,g,a07,tN,a0C (show i<1000000 by omega)];exact congrArg (fun l=>some (Sum.inl (x1,st,(f.2.2.1.length:Int),((i+1:Nat):Int),(f.1,l,f.2.2),()))) h;have c:¬ f.2.2.1[i] > 0:=by omega
   have e:f.2.1[i]+-1*st=f.2.1[i]-st:=by omega
   simp only[b3L,a,e]at h;simp only[c,m,decide_true,decide_false,cT,cF,oB,j,g,a07,tN,a0C (show i<1000000 by omega)];exact congrArg (fun l=>some (Sum.inl (x1,st,(f.2.2.1.length:Int),((i+1:Nat):Int),(f.1,l,f.2.2),()))) h;have c:¬ f.2.2.1[i] > 0:=by omega
   have r:¬ f.2.2.1[i]<0:=by omega
   have e:W (f.2.1[i]+0*st)=f.2.1[i]:=by rw[Int.zero_mul,Int.add_zero];exact a0D (by omega)
   simp only[b3L,a,e]at h;simp only[c,r,decide_false,cF,oB,j,g,cT,a07,tN,a0C (show i<1000000 by omega)];exact congrArg (fun l=>some (Sum.inl (x1,st,(f.2.2.1.length:Int),((i+1:Nat):Int),(f.1,l,f.2.2),()))) h)
  (by
   simp_all[List.take_of_length_le,a2b])
 simp_all
theorem c0X{f:Fil}(k:FilOk f)(x g:Int):-256≤a9Q f.1 x g∧a9Q f.1 x g≤256:=by
 have hp:=b6h k.rate;unfold a9Q;rcases b2R (x-g)with⟨-,h⟩|⟨-,h⟩|⟨-,h⟩<;>rw[h]<;>omega
theorem b4x{f:Fil}(h:FilOk f)(x:Int):a2K (f,x)=some (b1m f x):=by
 unfold a2K;have d:=b8O h x;simp only[a4x,oB,a5n h];have g:(bif decide (v0a (u0z x (-1073741824)) 1073741823 > a1c f)then bif decide (f.1<0)then(none:Option (Int×Int×Fil×Unit))else some (v0a (u0z x (-1073741824)) 1073741823,z0g .i64 (1:Int) f.1,f,())
   else bif decide (v0a (u0z x (-1073741824)) 1073741823<a1c f)then bif decide (f.1<0)then none else some (v0a (u0z x (-1073741824)) 1073741823,wrap .i64 (0-(z0g .i64 (1:Int) f.1)),f,())
   else some (v0a (u0z x (-1073741824)) 1073741823,(0:Int),f,()))=_:=d
 rw[g];simp only[oB,b6P h (c0X h _ _)];have i:f.2.2.1.length≥1:=by have:=h.pos;have:=h.len;omega
 have b:decide ((1:Int)≤((f.2.2.1.length:Nat):Int))=true:=by grind
 have e:o0p f.2.2.1 1 (f.2.2.1.length-1) f.2.2.1=f.2.2.1.take 1++f.2.2.1.take (f.2.2.1.length-1):=by
  simp_all[o0p]
 have j:(f.2.2.1.take 1++f.2.2.1.take (f.2.2.1.length-1)).length=f.2.2.1.length:=by simp_all
 have c:decide ((0:Int)<(((f.2.2.1.take 1++f.2.2.1.take (f.2.2.1.length-1)).length:Nat):Int))=true:=by grind
 simp only[b,cT,e,c];congr 1;have k:(f.2.2.1.take 1++f.2.2.1.take (f.2.2.1.length-1)).set 0 (a2c x)=a2c x::f.2.2.1.take (f.2.2.1.length-1):=by
  cases hc:f.2.2.1 with
  |nil=>simp_all
  |cons a l=>simp
 rw[k];rfl
@[reducible] def Stg:Type:=Int×(Int×Unit)
theorem a6U{l:List Int}(h:short l):a0Z l=some l:=by
 have g:lim (0+l.length)=true:=a0Q (by unfold short at h;omega);simp_all[a0Z,w0g]
def a9i(s:Stg):Fil:=(s.2.1,a00 s.1.toNat 0,a00 s.1.toNat 0,())
theorem c1u{s:Stg}(h:stageB s=true):FilOk (a9i s):=by
 simp[stageB]at h;refine⟨by rfl,by simp[a9i];omega,by simp[a9i];omega,⟨h.2.2.1,h.2.2.2⟩,fun x g=>?_⟩;simp_all[a9i]
theorem b1P{s:Stg}(h:stageB s=true):a7E s=some (a9i s,0):=by
 have g:=h;simp[stageB]at g;unfold a7E;have f:decide ((0:Int)≤s.1)=true:=by grind
 have k:decide (s.1≤s.1)=true:=by simp
 have a:lim s.1.toNat=true:=a0Q (by omega);simp only[a9g,h,oB,bT,cF,f,k,a,a07,cT];rfl
def stO:List Int→List Int→Fil→Option (List Int)
 | [],done,_=>some done
 |r::rs,done,f=>bif a0A (W (a1c f+r))then stO rs (done++[W (a1c f+r)]) (b1m f (W (a1c f+r)))else none
theorem b3M:∀(l done:List Int)(f:Fil){r},stO l done f=some r→r.length=done.length+l.length
 | [],done,f,r,h=>by simp_all[stO]
 |x::l,done,f,r,h=>by
  simp[stO]at h;cases hw:a0A (W (a1c f+x))with
  |true=>rw[hw]at h;rw[b3M l _ _ h];grind
  |false=>simp_all
theorem b2u{done row:List Int}{i:Nat}(g:done.length=i)(h:i<row.length):a04 (done++row.drop i) i 0=row[i]:=by
 grind
theorem b9x{done row:List Int}{i:Nat}(g:done.length=i)(h:i<row.length)(y:Int):(done++row.drop i).set i y=(done++[y])++row.drop (i+1):=by
 rw[a41 _ _ (by omega),g,a51,a05 h,a48,aA];rfl
theorem b2v{row b4:List Int}{b5:Int}(e:short row):∀(k i:Nat)(done:List Int)(f:Fil),i+k=row.length→done.length=i→FilOk f→
  ∃z,x0r a4A ((row.length:Int),(i:Int),b4,b5,done++row.drop i,f,())=some z∧
   match stO (row.drop i) done f with
   |some r=>z=.inl (b4,b5,r,())
   |none=>∃q,z=.inr (([]:List Int),(6:Int),q,())
 |0,i,done,f,h,hd,hf=>by
  obtain rfl:i=row.length:=by omega
  rw[a35,List.append_nil];exact⟨_,a0H (b:=Sum.inl (b4,b5,done,())) (by simp[a4A]),rfl⟩
 |k+1,i,done,f,h,hd,hf=>by
  have g:i<row.length:=by omega
  have j:row.length<1000000:=e;have c:decide ((0:Int)≤(i:Int))=true:=by simp
  have l:(done++row.drop i).length=row.length:=by grind
  have d:decide ((i:Int)<(((done++row.drop i).length:Nat):Int))=true:=by simp_all
  have a:stO (row.drop i) done f=bif a0A (W (a1c f+row[i]))then stO (row.drop (i+1)) (done++[W (a1c f+row[i])]) (b1m f (W (a1c f+row[i])))else none:=by
   rw[a05 g];rfl
  rw[a];cases hw:a0A (W (a1c f+row[i]))with
  |true=>
   rw[a0I (s':=((row.length:Int),((i+1:Nat):Int),b4,b5,(done++[W (a1c f+row[i])])++row.drop (i+1),b1m f (W (a1c f+row[i])),())) (by
    simp only[a4A,dlt g,c,d,cT,a07,a5n hf,oB,tN,b2u hd g,a4p,hw,bT,cF,b4x hf,b9x hd g,a0C (show i<1000000 by omega)])]
   exact b2v e k (i+1) _ _ (by omega) (by simp_all) (b9w hf _)
  |false=>
   exact⟨_,a0H (b:=Sum.inr (([]:List Int),(6:Int),done++row.drop i,())) (by
    simp only[a4A,dlt g,c,d,cT,a07,a5n hf,oB,tN,b2u hd g,a4p,hw,a54]),_,rfl⟩
def lO:List Stg→List Int→Option (List Int)
 | [],row=>some row
 |s::r,row=>match stO row [] (a9i s)with
  |some row'=>lO r row'
  |none=>none
theorem c0Y{st:List Stg}{s:Stg}{k:Int}{b4:List Int}{row:List Int}(h:stageB s=true)(b:short row):
  ∃z,a6F k s (st,b4,(0:Int),row,())=some z∧match stO row [] (a9i s)with
   |some r=>z=.inl (st,b4,(0:Int),r,())
   |none=>∃q,z=.inr (.ret,st,([]:List Int),(6:Int),q,()):=by
 obtain⟨z,g,f⟩:=b2v (b4:=b4) (b5:=0) b row.length 0 [] (a9i s) (by omega) rfl (c1u h);simp at g f;unfold a6F;have a:((0:Int) != 0)=false:=rfl;simp[b1P h,g];cases hst:stO row [] (a9i s)with
 |some r=>
  simp_all
 |none=>
  grind
theorem b5N{st l:List Stg}{b4:List Int}(f:∀s∈l,stageB s=true):∀(n:Nat)(row:List Int),n≤l.length→short row→
  ∃z,k0w a6F l n (st,b4,(0:Int),row,())=some z∧match lO (l.take n).reverse row with
   |some r=>z=.inl (st,b4,(0:Int),r,())
   |none=>∃q,z=.inr (.ret,st,([]:List Int),(6:Int),q,())
 |0,row,_,_=>⟨_,rfl,rfl⟩
 |n+1,row,hn,hs=>by
  have h:n<l.length:=by omega
  obtain⟨z,a,g⟩:=c0Y (st:=st) (k:=(n:Int)) (b4:=b4) (f _ (a21 h)) hs;have b:(l.take (n+1)).reverse=l[n]::(l.take n).reverse:=by simp
  simp[k0w,lG h,a,b,lO];cases hst:stO row [] (a9i l[n])with
  |some r=>
   rw[hst]at g;simp at g;subst g;exact b5N f n r (by omega) (by have:=b3M _ _ _ hst;unfold short at hs⊢;simp_all)
  |none=>
   grind
def b0E(rest:List Int)(st:List Stg):Option (List Int):=bif rest.all a0A then lO st.reverse rest else none
theorem b8P{rest:List Int}{st:List Stg}(a:a7J st=true)(c:rest.length<100000):a8A (rest,st)=some (a4i (b0E rest st)):=by
 have f:=a;simp only[a7J,bA,dT]at f;have k:short st:=by unfold short;omega
 have h:short rest:=by unfold short;omega
 unfold a8A;simp only[b1M k,a,oB,bT,cF,b1L h,b0E];cases hw:rest.all a0A with
 |false=>rfl
 |true=>
  obtain⟨z,b,g⟩:=b5N (st:=st) (b4:=[]) (lA.1 f.2) st.length rest (a38 _) h;rw[a29]at g;simp[a6U h,a0Q k,b];cases hst:lO st.reverse rest with
  |some r=>
   rw[hst]at g;simp at g;subst g;rfl
  |none=>
   rw[hst]at g;obtain⟨q,rfl⟩:=g;rfl
def a5o(n warm:Int):Bool:=decide (1≤n)&&(decide (n≤4096)&&(decide (0≤warm)&&decide (warm≤n)))
theorem b1Q(n warm:Int):a6r (n,warm)=some (a5o n warm):=by
 grind[a6r,a5o]
theorem c6q{o:Nat}(h:o≤8):1≤2^o∧2^o≤256:=by
 have:o=0∨o=1∨o=2∨o=3∨o=4∨o=5∨o=6∨o=7∨o=8:=by omega
 grind
theorem b9y{N o:Nat}(h:o≤64):z0h .i64 (N:Int) (o:Int)=((N / 2^o:Nat):Int):=by
 unfold z0h;show Int.fdiv (N:Int) (2^(min (o:Int).toNat 64))=_
 grind
theorem b6i{N o:Nat}(h:o≤64)(g:N*2^o<9223372036854775808):z0g .i64 (N:Int) (o:Int)=((N*2^o:Nat):Int):=by
 unfold z0g;show wrap .i64 ((N:Int)*2^(min (o:Int).toNat 64))=_
 grind[a0D]
def b3n(o N:Nat)(warm:Int):List Int:=
 if N%2^o=0∧warm≤((N / 2^o:Nat):Int)then(((N / 2^o:Nat):Int)-warm)::a00 (2^o-1) ((N / 2^o:Nat):Int)else[]
def a1B(order n warm:Int):List Int:=bif a5o n warm&&(decide (0≤order)&&decide (order≤8))then b3n order.toNat n.toNat warm else[]
theorem a1L(order n warm:Int):a2A (order,n,warm)=some (a1B order n warm):=by
 unfold a2A a1B;simp only[b1Q,oB];cases hr:a5o n warm with
 |false=>rfl
 |true=>
  simp[a5o]at hr;simp only[bT,cF,a36]
  by_cases h1:order<0
  grind
  by_cases h2:order > 8
  grind
  obtain⟨o,rfl⟩:=a06 (show 0≤order by omega);obtain⟨N,rfl⟩:=a06 (show 0≤n by omega);have p:o≤8:=by omega
  have q:N≤4096:=by omega
  have hp:=c6q p;have m:N / 2^o*2^o≤N:=Nat.div_mul_le_self N _;have l:(0:Int)≤(o:Int):=by omega
  have g8:(o:Int)≤8:=by omega
  simp only[h1,h2,l,g8,decide_true,decide_false,cF,cT,a07,oB,b9y (N:=N) (show o≤64 by omega),b6i (N:=N / 2^o) (show o≤64 by omega) (by omega),tN];have g:=a39 N (2^o);rw[Nat.mul_comm]at g
  by_cases hm:N%2^o=0
  have k:(((N / 2^o*2^o:Nat):Int) != (N:Int))=false:=by simp_all
  by_cases hw:warm≤((N / 2^o:Nat):Int)
  have c:decide (((N / 2^o:Nat):Int)<warm)=false:=decide_eq_false (Int.not_lt.2 hw);have e:wrap .i64 (((N / 2^o:Nat):Int)-warm)=((N / 2^o:Nat):Int)-warm:=a0D (by have:=a40 N (2^o);omega);simp only[k,c,e,cF,oB,b3n,hm,hw,and_self,if_true];have d:z0g .i64 (1:Int) (o:Int)=((2^o:Nat):Int):=by have:=b6i (N:=1) (show o≤64 by omega) (by omega);simp_all
  have:=a2t (f:=a5G) (fun i=>((o:Int),((N / 2^o:Nat):Int),(((N / 2^o:Nat):Int)-warm)::a00 i ((N / 2^o:Nat):Int),())) (2^o-1)
   (b:=((((N / 2^o:Nat):Int)-warm)::a00 (2^o-1) ((N / 2^o:Nat):Int),())) (fun i r=>by
    have a:decide ((((((N / 2^o:Nat):Int)-warm)::a00 i ((N / 2^o:Nat):Int)).length:Int)<((2^o:Nat):Int))=true:=by
     grind
    have h:lim (((((N / 2^o:Nat):Int)-warm)::a00 i ((N / 2^o:Nat):Int)).length+1)=true:=a0Q (by grind);have j:a00 i ((N / 2^o:Nat):Int)++[((N / 2^o:Nat):Int)]=a00 (i+1) ((N / 2^o:Nat):Int):=by grind[a37]
    simp only[a5G,h1,decide_false,cF,d,a,cT,h,a42,a16,j])
   (by
    have a:decide ((((((N / 2^o:Nat):Int)-warm)::a00 (2^o-1) ((N / 2^o:Nat):Int)).length:Int)<((2^o:Nat):Int))=false:=by
     simp_all
    simp only[a5G,h1,decide_false,cF,d,a])
  simp_all;have c:decide (((N / 2^o:Nat):Int)<warm)=true:=decide_eq_true (Int.not_le.1 hw);simp_all[b3n];have k:(((N / 2^o*2^o:Nat):Int) != (N:Int))=true:=by grind
  simp only[k,cT,oB,b3n,hm,false_and,if_false]
@[reducible] def Prt:Type:=Int×((List Int)×Unit)
def kB(k:Int):Bool:=(decide (0≤k)&&decide (k≤25)) || (k==31)
def a4G(p:Prt)(n warm:Int):Bool:=!((a1B p.1 n warm).length==0)&&((a1B p.1 n warm).length==p.2.1.length&&p.2.1.all kB)
theorem b1R{p:Prt}{n warm:Int}(g:short p.2.1):a7F (p,n,warm)=some (a4G p n warm):=by
 have:=a1x (f:=a3L) p.2.1 (fun i=>(p.2.1,(p.2.1.length:Int),(i:Int),())) kB (bt:=Sum.inl ()) (bf:=Sum.inr (false,()))
  (fun i h hp=>by
   simp[kB]at hp
   by_cases h1:p.2.1[i]<0
   omega
   by_cases h2:p.2.1[i] > 25
   have b:p.2.1[i]=31:=by omega
   have a:(p.2.1[i] != 31)=false:=by simp_all
   simp[a3L,a0B h,h,h1,h2,a,a0C (a22 h g)];simp[a3L,a0B h,h,h1,h2,a0C (a22 h g)])
  (fun i h hp=>by
   have hp:¬ (kB p.2.1[i]=true):=by simp_all
   simp only[kB,Bool.or_eq_true,bA,dT,beq_iff_eq]at hp
   grind[a3L,a0B])
  (by simp[a3L])
 simp at this;unfold a7F a4G;simp[a1L]
 by_cases h0:(a1B p.1 n warm).length=0
 simp_all
 ·have e:((((a1B p.1 n warm).length:Nat):Int)==0)=false:=by simp_all
  have k:((a1B p.1 n warm).length==0)=false:=by simp_all
  simp[e,k]
  by_cases h1:(a1B p.1 n warm).length=p.2.1.length
  all_goals grind
@[reducible] def Sub:Type:=Int×(Int×(Int×(Int×(Int×((List Int)×((List Int)×((List Stg)×((List Int)×(Prt×((List Int)×Unit))))))))))
structure SmallS (s:Sub):Prop where
 coefs:s.2.2.2.2.2.1.length≤40
 taps:s.2.2.2.2.2.2.1.length=3
 stages:s.2.2.2.2.2.2.2.1.length≤6
 warm:s.2.2.2.2.2.2.2.2.1.length≤5000
 rest:s.2.2.2.2.2.2.2.2.2.2.1.length≤5000
 ks:s.2.2.2.2.2.2.2.2.2.1.2.1.length≤300
theorem b1S(x y:List Int):eqT (.arr 3 (.int .i64)) x y=decide (x=y):=by
 show((a23 (fun(a b:Int)=>a==b) x y).all id&&x.length==y.length)=_
 induction x generalizing y with
 |nil=>cases y<;>simp
 |cons a x ih=>
  cases y with
  |nil=>simp
  |cons b y=>
   grind[List.zipWith_cons_cons]
theorem b3N{l:List Int}(h:short l):a3k l=some l:=a6U h
theorem b5O{l:List Stg}(h:short l):a1g l=some l:=by
 have g:lim (0+l.length)=true:=a0Q (by unfold short at h;omega);simp_all[a1g,w0g]
def a3m(k:Int)(s:Sub)(n:Int):Prop:=
 k=0∨k=1∨(k=2∧0≤s.2.2.1∧s.2.2.1≤4∧s.2.2.1≤n)∨(k=3∧a8c s.2.2.2.2.2.1 s.2.2.2.1=true∧(s.2.2.2.2.2.1.length:Int)≤n)∨
  (k=4∧a8c s.2.2.2.2.2.1 s.2.2.2.1=true∧(s.2.2.2.2.2.1.length:Int)≤n∧a9P s.2.2.2.2.1 s.2.2.2.2.2.2.1=true)∨
  (k=5∧0<s.2.2.2.2.2.2.2.1.length∧a7J s.2.2.2.2.2.2.2.1=true)
open Classical in
def b1T (k:Int) (s:Sub) (n:Int):Bool:=decide (a3m k s n)
theorem b3o{s:Sub}(h:SmallS s)(k n:Int):a6L (k,s,n)=some (b1T k s n):=by
 have a:short s.2.2.2.2.2.1:=by have:=h.coefs;unfold short;omega
 have b:short s.2.2.2.2.2.2.2.1:=by have:=h.stages;unfold short;omega
 unfold a6L b1T a3m
 by_cases k0:k=0
 simp_all
 by_cases k1:k=1
 simp_all;have g:(k==0)=false:=by grind
 have f:(k==1)=false:=by grind
 simp only[g,f,cF,oB]
 by_cases k2:k=2
 subst k2
 grind
 by_cases k3:k=3
 subst k3
 grind[a7W]
 by_cases k4:k=4
 subst k4;cases hl:a8c s.2.2.2.2.2.1 s.2.2.2.1<;>by_cases h2:(s.2.2.2.2.2.1.length:Int)≤n<;>simp[a7W a,b2Q h.taps,hl,h2]
 by_cases k5:k=5
 ·subst k5
  by_cases h1:0<s.2.2.2.2.2.2.2.1.length
  all_goals simp_all[b1M]
 grind
def a1V(s:Sub)(n:Int):Int:=if s.1=0 then 1 else if s.1=1 then n else if s.1=2 then s.2.2.1 else if s.1=3∨s.1=4 then(s.2.2.2.2.2.1.length:Int)else 0
theorem b0F(s:Sub)(n:Int):a3R (s,n)=some (a1V s n):=by
 grind[a3R,a1V]
def b3p(s:Sub):Prop:=
 (s.1≠2→s.2.2.1=0)∧(s.1≠3∧s.1≠4→s.2.2.2.1=0)∧(s.1≠4→s.2.2.2.2.1=0)∧(s.1≠4→s.2.2.2.2.2.2.1=[0,0,0])∧(s.1≠3∧s.1≠4→s.2.2.2.2.2.1=[])∧(s.1≠5→s.2.2.2.2.2.2.2.1=[])
open Classical in
def b3q (s:Sub):Bool:=decide (b3p s)
theorem a9j{c x:Bool}:(bif c then some x else some false)=some (c&&x):=by grind
theorem c6r{α:Type}(l:List α):(((l.length:Nat):Int)==0)=decide (l=[]):=by
 cases l with
 |nil=>rfl
 |cons a l=>rfl
theorem b7P(x:Int):(x==0)=decide (x=0):=rfl
theorem b9z{s:Sub}(h:SmallS s):a9D s=some (b3q s):=by
 have e:short s.2.2.2.2.2.1:=by have:=h.coefs;unfold short;omega
 have g:short s.2.2.2.2.2.2.2.1:=by have:=h.stages;unfold short;omega
 obtain⟨k,w,o,sh,lag,c,t,st,j,p,r,u⟩:=s;simp only at e g;unfold a9D a5f b3q b3p;have i:(a00 3 (0:Int))=[0,0,0]:=rfl
 by_cases k2:k=2
 simp_all[b1S,a9j,b7P]
 by_cases k4:k=4
 simp_all[b1S,a9j,b7P,b3N]
 by_cases k3:k=3
 simp_all[b1S,a9j,b7P,b3N]
 by_cases k5:k=5
 simp_all[b1S,a9j,b7P,b5O];have f:(k==2)=false:=by grind
 have a:(k==3)=false:=by grind
 have b:(k==4)=false:=by grind
 have d:(k==5)=false:=by grind
 simp[f,a,b,d,k2,k3,k4,k5,b1S,i,a9j,c6r,b7P]
theorem a5u(k:Int):a5h k=some (decide (k≠0∧k≠1)):=by
 unfold a5h
 by_cases h0:k=0
 simp_all
 ·by_cases h1:k=1
  all_goals grind
def a1l(s:Sub)(n:Int):Prop:=
 1≤n∧n≤4096∧a3m s.1 s n∧b3p s∧0≤s.2.1∧s.2.1≤30∧(s.1=0→s.2.1=0)∧(s.2.2.2.2.2.2.2.2.1.length:Int)=a1V s n∧s.2.2.2.2.2.2.2.2.1.all a0A=true∧s.2.2.2.2.2.2.2.2.2.2.1.all a0A=true∧
  (s.1=0∨s.1=1→s.2.2.2.2.2.2.2.2.2.2.1=[]∧s.2.2.2.2.2.2.2.2.2.1.1=0∧s.2.2.2.2.2.2.2.2.2.1.2.1=[])∧
  (s.1≠0∧s.1≠1→(s.2.2.2.2.2.2.2.2.2.2.1.length:Int)=n-a1V s n∧a4G s.2.2.2.2.2.2.2.2.2.1 n (a1V s n)=true)
theorem c0Z{s:Sub}(h:SmallS s){n:Int}(a:1≤n)(b:n≤4096)(f:a3m s.1 s n):0≤a1V s n∧a1V s n≤4096:=by
 have c:=h.coefs;unfold a1V;rcases f with k|k|⟨k,g⟩|⟨k,g⟩|⟨k,g⟩|⟨k,g⟩<;>simp[k]<;>omega
open Classical in
theorem c2Z {s:Sub} (h:SmallS s) (n:Int):a8y (s,n)=some (decide (a1l s n)):=by
 have hw:short s.2.2.2.2.2.2.2.2.1:=by have:=h.warm;unfold short;omega
 have hr:short s.2.2.2.2.2.2.2.2.2.2.1:=by have:=h.rest;unfold short;omega
 have hk:short s.2.2.2.2.2.2.2.2.2.1.2.1:=by have:=h.ks;unfold short;omega
 unfold a8y
 by_cases h1:1≤n
 rotate_left
 ·have e1:decide (n<1)=true:=by simp_all
  have:¬ a1l s n:=fun hp=>h1 hp.1
  simp_all
 have e1:decide (n<1)=false:=by simp_all
 by_cases h2:n≤4096
 rotate_left
 ·have e2:decide (n > 4096)=true:=by simp_all
  have:¬ a1l s n:=fun hp=>h2 hp.2.1
  simp_all
 have e2:decide (n > 4096)=false:=by simp_all
 by_cases h3:a3m s.1 s n
 rotate_left
 ·have e3:b1T s.1 s n=false:=by simp[b1T,h3]
  have:¬ a1l s n:=fun hp=>h3 hp.2.2.1
  simp_all[b3o]
 have e3:b1T s.1 s n=true:=by simp[b1T,h3]
 by_cases h4:b3p s
 rotate_left
 ·have e4:b3q s=false:=by simp[b3q,h4]
  have:¬ a1l s n:=fun hp=>h4 hp.2.2.2.1
  simp_all[b3o,b9z]
 have e4:b3q s=true:=by simp[b3q,h4]
 simp only[e1,e2,b3o h,e3,b9z h,e4,cF,bT,oB]
 by_cases h5:0≤s.2.1
 rotate_left
 ·have e5:decide (s.2.1<0)=true:=by simp_all
  have:¬ a1l s n:=fun hp=>h5 hp.2.2.2.2.1
  simp_all
 have e5:decide (s.2.1<0)=false:=by simp_all
 by_cases h6:s.2.1≤30
 rotate_left
 ·have e6:decide (s.2.1 > 30)=true:=by simp_all
  have:¬ a1l s n:=fun hp=>h6 hp.2.2.2.2.2.1
  simp_all
 have e6:decide (s.2.1 > 30)=false:=by simp_all
 simp only[e5,e6,cF]
 by_cases h7:s.1=0→s.2.1=0
 rotate_left
 ·have h7a:s.1=0:=Classical.byContradiction fun hc=>h7 fun e=>absurd e hc
  have h7b:(s.2.1 != 0)=true:=by
   simp_all
  have e7:(s.1==0)=true:=by simp_all
  have:¬ a1l s n:=fun hp=>h7 hp.2.2.2.2.2.2.1
  grind
 have e7:(bif s.1==0 then some (n,(s.2.1 != 0,(s,())))else some (n,(false,(s,()))))=some (n,(false,(s,()))):=by
  grind
 simp only[e7,oB,cF,b0F]
 by_cases h8:(s.2.2.2.2.2.2.2.2.1.length:Int)=a1V s n
 rotate_left
 ·have e8:(((s.2.2.2.2.2.2.2.2.1.length:Nat):Int) != a1V s n)=true:=by simp_all
  have:¬ a1l s n:=fun hp=>h8 hp.2.2.2.2.2.2.2.1
  grind
 have e8:(((s.2.2.2.2.2.2.2.2.1.length:Nat):Int) != a1V s n)=false:=by simp_all
 simp only[e8,cF,a3N hw,a3N hr,oB]
 cases h9:s.2.2.2.2.2.2.2.2.1.all a0A with
 |false=>
  have:¬ a1l s n:=fun hp=>by rw[hp.2.2.2.2.2.2.2.2.1]at h9;grind
  simp_all
 |true=>
  cases h10:s.2.2.2.2.2.2.2.2.2.2.1.all a0A with
  |false=>
   have:¬ a1l s n:=fun hp=>by rw[hp.2.2.2.2.2.2.2.2.2.1]at h10;grind
   simp_all
  |true=>
   simp only[bT,cF,oB,a5u]
   have hwr:=c0Z h h1 h2 h3
   by_cases k01:s.1≠0∧s.1≠1
   ·have e11:wrap .i64 (n-a1V s n)=n-a1V s n:=a0D (by omega)
    simp[k01,e11,b1R hk]
    by_cases h11:(s.2.2.2.2.2.2.2.2.2.2.1.length:Int)=n-a1V s n
    ·have e12:(((s.2.2.2.2.2.2.2.2.2.2.1.length:Nat):Int)==n-a1V s n)=true:=by simp_all
     simp only[e12,cT]
     congr 1
     rw[a53,dT]
     constructor
     ·intro hp
      exact⟨h1,h2,h3,h4,h5,h6,h7,h8,h9,h10,fun hc=>absurd hc (by omega),fun _=>⟨h11,hp⟩⟩
     ·intro hp;exact(hp.2.2.2.2.2.2.2.2.2.2.2 k01).2
    ·have e12:(((s.2.2.2.2.2.2.2.2.2.2.1.length:Nat):Int)==n-a1V s n)=false:=by simp_all
     have:¬ a1l s n:=fun hp=>h11 (hp.2.2.2.2.2.2.2.2.2.2.2 k01).1
     grind
   ·have k01':s.1=0∨s.1=1:=by omega
    simp[k01,c6r]
    simp only[b7P,a9j]
    congr 1
    rw[a53,dT]
    simp
    constructor
    ·rintro⟨g1,g2,g3⟩
     exact⟨h1,h2,h3,h4,h5,h6,h7,h8,h9,h10,fun _=>⟨g1,g2,g3⟩,fun hc=>absurd hc k01⟩
    ·intro hp;exact hp.2.2.2.2.2.2.2.2.2.2.1 k01'
theorem c3a{k:Int}{s:Sub}{n:Int}(h:a3m k s n):k=0∨k=1∨k=2∨k=3∨k=4∨k=5:=by
 unfold a3m at h;omega
def b6j(warm rest:List Int)(o:Int):Option (List Int):=bif warm.all a0A&&rest.all a0A then a3x (a3X o.toNat) rest warm else none
def backP(s:Sub):Option (List Int):=
 if s.1=1 then some s.2.2.2.2.2.2.2.2.1
 else if s.1=2 then b6j s.2.2.2.2.2.2.2.2.1 s.2.2.2.2.2.2.2.2.2.2.1 s.2.2.1
 else if s.1=3 then b1N s.2.2.2.2.2.2.2.2.1 s.2.2.2.2.2.2.2.2.2.2.1 s.2.2.2.2.2.1 s.2.2.2.1
 else if s.1=4 then(b1N s.2.2.2.2.2.2.2.2.1 s.2.2.2.2.2.2.2.2.2.2.1 s.2.2.2.2.2.1 s.2.2.2.1).bind fun l=>b2t l s.2.2.2.2.1 s.2.2.2.2.2.2.1
 else b0E s.2.2.2.2.2.2.2.2.2.2.1 s.2.2.2.2.2.2.2.1
def b9A(s:Sub)(n:Int):Option (List Int):=
 if s.1=0 then some (a00 n.toNat (s.2.2.2.2.2.2.2.2.1.getD 0 0))else(backP s).bind (upO s.2.1)
theorem b2S{w r c:List Int}{s:Int}{l}(h:b1N w r c s=some l):l.length=w.length+r.length:=by
 unfold b1N at h;cases hc:(w.all a0A&&r.all a0A)with
 |false=>simp_all
 |true=>
  rw[hc]at h;exact(b1k _ r w l (a43.1 hc).1 h).2
theorem c1a{w r:List Int}{o:Int}{l}(h:b6j w r o=some l):l.length=w.length+r.length:=by
 unfold b6j at h;cases hc:(w.all a0A&&r.all a0A)with
 |false=>simp_all
 |true=>
  rw[hc]at h;exact(b1k _ r w l (a43.1 hc).1 h).2
theorem b9B{r t:List Int}{lag:Int}{l}(h:b2t r lag t=some l):l.length=r.length:=by
 unfold b2t at h;cases hc:r.all a0A with
 |false=>simp_all
 |true=>
  rw[hc]at h
  have:=(b1k _ r [] l rfl h).2
  simp_all
theorem b8k:∀(st:List Stg)(r:List Int){l},lO st r=some l→l.length=r.length
 | [],r,l,h=>by simp_all[lO]
 |s::st,r,l,h=>by
  simp only[lO]at h
  split at h
  rename_i f g;rw[b8k st f h,b3M _ _ _ g];simp;cases h
theorem b8Q{r:List Int}{st:List Stg}{l}(h:b0E r st=some l):l.length=r.length:=by
 grind[b0E,b8k]
theorem b9C{s:Sub}(h:SmallS s){l}(g:backP s=some l):l.length<100000:=by
 have b:=h.warm;have a:=h.rest;unfold backP at g
 split at g
 grind
 split at g
 grind[c1a]
 split at g
 grind[b2S]
 split at g
 obtain⟨c,f,k⟩:=Option.bind_eq_some_iff.1 g;rw[b9B k,b2S f];omega
 grind[b8Q]
theorem c3b{s:Sub}{n:Int}(c:1≤n)(d:n≤4096)(e:s.2.2.2.2.2.2.2.2.1.length=1):
  x0r a6a (n,(0:Int),([]:List Int),s,())=some (a00 n.toNat (s.2.2.2.2.2.2.2.2.1.getD 0 0),()):=by
 obtain⟨N,rfl⟩:=a06 (show 0≤n by omega);have k:l0z s.2.2.2.2.2.2.2.2.1 (0:Int)=some (s.2.2.2.2.2.2.2.2.1.getD 0 0):=b9s (by omega) (by omega)
 have:=a2t (f:=a6a) (fun i=>((N:Int),(i:Int),a00 i (s.2.2.2.2.2.2.2.2.1.getD 0 0),s,())) N
  (b:=(a00 N (s.2.2.2.2.2.2.2.2.1.getD 0 0),())) (fun i a=>by
   have h:lim ((a00 i (s.2.2.2.2.2.2.2.2.1.getD 0 0)).length+1)=true:=a0Q (by grind);have g:a00 i (s.2.2.2.2.2.2.2.2.1.getD 0 0)++[s.2.2.2.2.2.2.2.2.1.getD 0 0]=a00 (i+1) (s.2.2.2.2.2.2.2.2.1.getD 0 0):=by grind[a37]
   simp only[a6a,dlt a,cT,k,oB,h,a42,g,a0C (show i<1000000 by omega)])
  (by simp[a6a])
 simp_all
theorem c1b{s:Sub}(h:SmallS s){n:Int}(hp:a1l s n):b1d (s,n)=some (a4i (b9A s n)):=by
 have a:=fun l (d:backP s=some l)=>b9C h d;obtain⟨z,A,C,-,x,v,-,g,K,I,-⟩:=hp;have F:=h.rest;have G:=h.warm;have H:=h.taps;have D:=c3b (s:=s) z A;obtain⟨k,w,o,sh,lag,c,t,st,f,p,r,u⟩:=s;simp only at *;have L:∀l,l.length<100000→a7H (l,w)=some (a4i (upO w l)):=fun l d=>b9u x v d;unfold b1d b9A;rcases C with b|b|⟨b,j,m,y⟩|⟨b,j,m⟩|⟨b,j,m,y⟩|⟨b,j,m⟩
 grind[a1V,a4i]
 simp_all[backP]
 ·subst b;obtain⟨O,rfl⟩:=a06 j;have m:(O:Int)≤4:=m;simp only[a1V]at g;have q:f.length=O:=by grind
  have i:=b8N (warm:=f) (rest:=r) (o:=O) (by omega) q (by omega);simp only[backP]at a⊢;simp[i];have e:(bif f.all a0A&&r.all a0A then a3x (a3X O) r f else none)=b6j f r (O:Int):=rfl;rw[e];cases d:b6j f r (O:Int)with
  |none=>rfl
  |some l=>simp_all[a4i]
 ·subst b;simp only[a1V]at g;have q:f.length=c.length:=by grind
  have i:=b3m (rest:=r) j q (by omega);simp only[backP]at a⊢;simp[i];cases d:b1N f r c sh with
  |none=>rfl
  |some l=>simp_all[a4i]
 ·subst b;simp only[a1V]at g;have q:f.length=c.length:=by grind
  have i:=b3m (rest:=r) j q (by omega);simp only[backP]at a⊢;simp[i];cases d:b1N f r c sh with
  |none=>rfl
  |some l=>
   have E:=b2S d;have B:=b9t (rest:=l) y H (by omega);simp[a4i,B]
   grind[a4i]
 ·subst b;have i:=b8P (rest:=r) m (by omega);simp only[backP]at a⊢;simp[i];cases d:b0E r st with
  |none=>rfl
  |some l=>simp_all[a4i]
open Classical in
def a1U (s:Sub) (n:Int):Option (List Int):=if a1l s n then b9A s n else none
theorem b6Q{s:Sub}(h:SmallS s)(n:Int):a9Z (s,n)=some (match a1U s n with|some r=>(r,0)|none=>([],1)):=by
 unfold a9Z a1U;simp only[c2Z h,oB]
 by_cases hp:a1l s n
 simp[hp,c1b h hp]
 grind[a4i]
 simp_all
theorem b6R{s:Sub}(h:SmallS s)(n:Int):a8g (s,n)=some (a1U s n).isSome:=by
 unfold a8g;simp only[b6Q h,oB];cases a1U s n<;>rfl
@[reducible] def Wr:Type:=(List Int)×(Int×Unit)
def b7Q(w:Wr)(b:Int):Wr:=
 let bs:=if w.2.1%8=0 then w.1++[0]else w.1
 (bs.set (w.2.1 / 8).toNat (bits .u8 .or (bs.getD (w.2.1 / 8).toNat 0) (z0g .u8 b (7-w.2.1%8))),w.2.1+1,())
def wL(L:List Int):Wr:=L.foldl b7Q ([],0,())
theorem b7R(L:List Int)(b:Int):wL (L++[b])=b7Q (wL L) b:=by simp[wL]
theorem b6S:∀(n:Nat)(L:List Int),L.length=n→(wL L).2.1=L.length∧(wL L).1.length=(L.length+7) / 8
 |0,L,h=>by
  rw[List.length_eq_zero_iff.1 h];exact⟨rfl,rfl⟩
 |n+1,L,h=>by
  obtain⟨g,b,rfl⟩:∃g b,L=g++[b]:=by
   rcases List.eq_nil_or_concat L with rfl|⟨g,b,e⟩
   all_goals simp_all
  obtain⟨f,k⟩:=b6S n g (by simp_all);rw[b7R];simp only[b7Q,List.length_set,lN,List.length_singleton,f]
  grind
theorem a4N(L:List Int):(wL L).2.1=L.length∧(wL L).1.length=(L.length+7) / 8:=b6S _ L rfl
theorem b6T{L:List Int}(l:L.length<1000000000)(b:Int):a1R (wL L,b)=some (wL (L++[b])):=by
 obtain⟨g,k⟩:=a4N L;have p:a20 ((L.length:Nat):Int) 8=((L.length:Nat):Int)%8:=Int.tmod_eq_emod_of_nonneg (by omega);have m:a09 ((L.length:Nat):Int) 8=((L.length:Nat):Int) / 8:=Int.tdiv_eq_ediv_of_nonneg (by omega);have c:wrap .i64 (((L.length:Nat):Int) / 8)=((L.length:Nat):Int) / 8:=a0D (by omega);have d:wrap .i64 (7-((L.length:Nat):Int)%8)=7-((L.length:Nat):Int)%8:=a0D (by omega);have e:wrap .i64 (((L.length:Nat):Int)+1)=((L.length:Nat):Int)+1:=a0D (by omega);have i:decide ((0:Int)≤((L.length:Nat):Int) / 8)=true:=by rfl
 have j:decide (7-((L.length:Nat):Int)%8<0)=false:=by grind
 rw[b7R];generalize wL L=wr at g k⊢;obtain⟨f,n,u⟩:=wr;have g:n=((L.length:Nat):Int):=g;have k:f.length=(L.length+7) / 8:=k;subst g;unfold a1R b7Q
 by_cases h:((L.length:Nat):Int)%8=0
 have hb:(((L.length:Nat):Int)%8==0)=true:=by grind
 have o:lim (f.length+1)=true:=a1f (by omega);have a:decide (((L.length:Nat):Int) / 8<(((f++[0]).length:Nat):Int))=true:=by grind
 simp_all
 grind
def a5K(v:Int)(i:Nat):Int:=wrap .u8 (bits .u64 .and (z0h .u64 v (i:Int)) 1)
def pb(v:Int):Nat→List Int
 |0=>[]
 |i+1=>a5K v i::pb v i
theorem b2w(v:Int):∀n,(pb v n).length=n
 |0=>rfl
 |n+1=>by simp[pb,b2w v n]
def a0L(v:Int)(n:Nat)(L:List Int):List Int:=bif z0h .u64 v (n:Int) != 0 then L else L++pb v n
theorem a0R(v:Int)(n:Nat)(L:List Int):L.length≤(a0L v n L).length∧(a0L v n L).length≤L.length+n:=by
 grind[a0L,b2w]
def a6V(v:Int)(n:Nat):Int:=bif z0h .u64 v (n:Int) != 0 then 1 else 0
theorem b9D{v:Int}:∀(n:Nat)(L:List Int),L.length+n<1000000000→x0r a3u (v,(n:Int)-1,wL L,())=some (wL (L++pb v n),())
 |0,L,_=>by simp_all[a0H,a3u,pb]
 |n+1,L,h=>by
  have e:((n+1:Nat):Int)-1=(n:Int):=by omega
  have g:wrap .i64 ((n:Int)-1)=(n:Int)-1:=a0D (by omega);have f:decide ((n:Int)≥0)=true:=by simp
  have k:decide ((n:Int)<0)=false:=by simp
  rw[e,a0I (s':=(v,(n:Int)-1,wL (L++[a5K v n]),())) (by
   simp only[a3u,f,k,cT,cF,show wrap .u8 (bits .u64 .and (z0h .u64 v (n:Int)) 1)=a5K v n from rfl,b6T (show L.length<1000000000 by omega),oB,g])]
  rw[b9D n (L++[a5K v n]) (by simp;omega),pb]
  simp
theorem a2L{L:List Int}{v:Int}{n:Nat}(a:n≤63)(k:L.length<999999000):a0F (wL L,v,(n:Int))=some (a6V v n,wL (a0L v n L)):=by
 unfold a0F a6V a0L;have g:decide ((n:Int)<0)=false:=by simp
 have f:decide ((n:Int) > 64)=false:=by grind
 have h:wrap .i64 ((n:Int)-1)=(n:Int)-1:=a0D (by omega);simp[g,f];cases (z0h .u64 v (n:Int) != 0)with
 |true=>rfl
 |false=>simp only[cF,h,b9D n L (by omega),oB]
def unL(n:Nat)(L:List Int):List Int:=L++a00 n 0++[1]
theorem b9E{L:List Int}{n:Nat}(d:n≤4096)(c:L.length<999990000):a2a (wL L,(n:Int))=some (0,wL (unL n L)):=by
 unfold a2a unL;have g:decide ((n:Int)<0)=false:=by simp
 have k:decide ((n:Int) > 4096)=false:=by grind
 simp only[g,k,cF,oB]
 have:=a2t (f:=a2T) (fun i=>((n:Int),(i:Int),wL (L++a00 i 0),())) n (b:=(wL (L++a00 n 0),())) (fun i a=>by
   have h:L++a00 i (0:Int)++[0]=L++a00 (i+1) 0:=by simp_all[a37]
   simp only[a2T,dlt a,cT,b6T (show(L++a00 i (0:Int)).length<1000000000 by grind),oB,h,a0C (show i<1000000 by omega)])
  (by simp[a2T])
 grind[b6T]
theorem a8N(n:Nat)(L:List Int):(unL n L).length=L.length+n+1:=by simp[unL];rfl
def a0P(x:Int)(n:Nat):Int:=bits .u64 .and (wrap .u64 x) (wrap .u64 ((z0g .u64 1 (n:Int))-1))
def a1r(n:Nat)(l:List Int)(L:List Int):List Int:=l.foldl (fun L x=>a0L (a0P x n) n L) L
theorem a5p(n:Nat):∀(l L:List Int),L.length≤(a1r n l L).length∧(a1r n l L).length≤L.length+n*l.length
 | [],L=>by simp[a1r]
 |x::l,L=>by
  have h:=a0R (a0P x n) n L;have g:=a5p n l (a0L (a0P x n) n L);have e:a1r n (x::l) L=a1r n l (a0L (a0P x n) n L):=rfl;rw[e,lC,Nat.mul_add,Nat.mul_one];omega
theorem b1U{L:List Int}{x:Int}{n:Nat}(f:n≤63)(g:L.length<999999000):a2r (wL L,x,(n:Int))=some (wL (a0L (a0P x n) n L)):=by
 unfold a2r;have h:decide ((n:Int)<0)=false:=by simp
 simp only[h,cF,show bits .u64 .and (wrap .u64 x) (wrap .u64 ((z0g .u64 1 (n:Int))-1))=a0P x n from rfl,a2L f g,oB]
def a1s(x w:Int):Bool:=decide (1≤w)&&(decide (w≤31)&&(decide (z0g .i64 (-1) (w-1)≤x)&&decide (x≤wrap .i64 (z0g .i64 1 (w-1)-1))))
theorem a5q{x:Int}{w:Nat}(a:w≤32):a3i (x,(w:Int))=some (a1s x w):=by
 unfold a3i a1s b1w b0J
 by_cases h1:1≤(w:Int)
 by_cases h2:(w:Int)≤31
 have h:decide ((w:Int)<1)=false:=by simp_all
 have g:decide ((w:Int) > 31)=false:=by simp_all
 have e:wrap .i64 ((w:Int)-1)=(w:Int)-1:=a0D (by omega);have f:decide ((w:Int)-1<0)=false:=by simp_all
 have k:decide ((w:Int)≥1)=true:=by simp_all
 simp[h1,h2,h,g,f,e]
 grind
 grind
 grind
theorem c1c{x:Int}{w:Nat}(b:w≤32):b0D (x,(w:Int))=some (a1s x w):=by
 unfold b0D a1s b6f b4W
 by_cases h1:1≤(w:Int)
 by_cases h2:(w:Int)≤31
 have f:decide ((w:Int)<1)=false:=by simp_all
 have k:decide ((w:Int) > 31)=false:=by simp_all
 have e:wrap .i64 ((w:Int)-1)=(w:Int)-1:=a0D (by omega);have g:wrap .u64 ((w:Int)-1)=(w:Int)-1:=a0S (by omega);have a:decide ((w:Int)-1<0)=false:=by simp_all
 have h:decide ((w:Int)≥1)=true:=by simp_all
 simp only[h,h1,h2,f,k,a,e,g,decide_true,cT,cF,oB,a36]
 grind
 grind
 grind
def a1C(x:Int):Nat→Nat→Nat
 |0,w=>w
 |k+1,w=>bif (x != 0)&&!a1s x w then a1C x k (w+1)else w
theorem b6k(x:Int):∀(k w:Nat),a1C x k w≤w+k
 |0,w=>a38 _
 |k+1,w=>by
  simp[a1C];cases (x != 0)&&!a1s x w with
  |true=>have:=b6k x k (w+1);grind
  |false=>simp
def a0G(l:List Int):Nat:=l.foldl (fun w x=>a1C x (32-w) w) 0
theorem b4y:∀(l:List Int)(w:Nat),w≤32→l.foldl (fun w x=>a1C x (32-w) w) w≤32
 | [],w,h=>h
 |x::l,w,h=>b4y l _ (show a1C x (32-w) w≤32 by grind[b6k])
theorem a5v(l:List Int):a0G l≤32:=b4y l 0 (by omega)
theorem b8l{x:Int}{l:List Int}{n i:Int}:∀(k w:Nat),w+k=32→x0r a2w ((w:Int),x,l,n,i,())=some (((a1C x k w:Nat):Int),l,n,i,())
 |0,w,h=>by
  obtain rfl:w=32:=by omega
  simp_all[a0H,a2w,a1C]
 |k+1,w,h=>by
  have g:decide ((w:Int)<32)=true:=by grind
  simp[a1C];cases hx:(x != 0)with
  |false=>simp_all[a0H,a2w]
  |true=>
   cases hf:a1s x w with
   |true=>exact a0H (by simp only[a2w,hx,g,a5q (show w≤32 by omega),hf,oB,cT,cF,bT,Bool.and_false])
   |false=>
    rw[a0I (s':=(((w+1:Nat):Int),x,l,n,i,())) (by simp only[a2w,hx,g,a5q (show w≤32 by omega),hf,oB,cT,a54,a0C (show w<1000000 by omega)])];exact b8l k (w+1) (by omega)
theorem a1W{l:List Int}(c:short l):a1k l=some ((a0G l:Nat):Int):=by
 have c:l.length<1000000:=c
 have:=a1I (f:=a4T) l (fun i (w:Nat)=>((w:Int),l,(l.length:Int),(i:Int),())) (fun w x=>(.inl (a1C x (32-w) w):Nat ⊕ (Int×Unit))) (fun _ w=>w≤32) (fun w=>((w:Int),()))
  (fun i h w e=>⟨fun d k=>by
   simp at k;subst k;refine⟨?_,by grind[b6k]⟩;simp only[a4T,dlt h,cT,a0B h,oB,b8l (32-w) w (by omega),a0C (show i<1000000 by omega)],fun b hb=>(by grind)⟩)
  (fun w _=>by simp[a4T]) (a:=0) (by omega)
 simp at this;unfold a1k;rw[this];have g:∀(l:List Int)(w:Nat),a2u (fun w x=>(.inl (a1C x (32-w) w):Nat ⊕ (Int×Unit))) l w=.inl (l.foldl (fun w x=>a1C x (32-w) w) w):=by
  intro l
  induction l with
  |nil=>intro w;rfl
  |cons x l ih=>simp_all[a2u]
 rw[g];rfl
theorem a8O(x:Int):a6s x=some (a0A x):=by
 grind[a6s,a0A]
def a0M(x:Int):Nat:=if 0≤x then(2*x).toNat else(-2*x-1).toNat
theorem a8d{x:Int}(h:a0A x=true):a0M x<2147483648:=by
 grind[a1z,a0M]
theorem a8P{x:Int}(h:a0A x=true):a7G x=some ((a0M x:Nat):Int):=by
 have f:=a1z.1 h;unfold a7G a0M;simp only[a8O,h,oB,bT,cF]
 by_cases h0:0≤x
 have g:decide (x≥0)=true:=by simp_all
 simp only[g,cT,if_pos h0]
 grind[a0D,a0S]
 have g:decide (x≥0)=false:=by simp_all
 simp only[g,cF,if_neg h0]
 grind[a0D,a0S]
theorem a5w{N o:Nat}(h:o≤64):z0h .u64 (N:Int) (o:Int)=((N / 2^o:Nat):Int):=b9y h
theorem b0G{N o:Nat}(h:o≤64)(g:N*2^o<9223372036854775808):z0g .u64 (N:Int) (o:Int)=((N*2^o:Nat):Int):=by
 unfold z0g;show wrap .u64 ((N:Int)*2^(min (o:Int).toNat 64))=_
 grind[a0S]
theorem b9F{y k:Nat}(c:y<18446744073709551616)(f:k≤62):bits .u64 .and (y:Int) (wrap .u64 (z0g .u64 1 (k:Int)-1))=((y%2^k:Nat):Int):=by
 have hp:2^k≤2^62:=Nat.pow_le_pow_right (by simp) f;have a:1≤2^k:=Nat.one_le_two_pow;have b:(2:Nat)^62=4611686018427387904:=by rfl
 have h:z0g .u64 1 (k:Int)=((2^k:Nat):Int):=by have:=b0G (N:=1) (o:=k) (by omega) (by omega);simp_all
 have g:wrap .u64 (((2^k:Nat):Int)-1)=((2^k-1:Nat):Int):=by grind[a0S]
 rw[h,g];show wrap .u64 (((a55 64 (y:Int)) &&& (a55 64 ((2^k-1:Nat):Int))).toNat:Int)=_;rw[a44,a44,BitVec.toNat_and,a49,a49,a52 c,a52 (by omega),Nat.and_two_pow_sub_one_eq_mod]
 have:y%2^k<2^k:=Nat.mod_lt _ (by omega)
 exact a0S (by omega)
theorem b1V{q:Nat}(h:q<2147483648):wrap .i64 (q:Int)=(q:Int):=a0D (by omega)
def a5L(k:Nat)(x:Int)(L:List Int):List Int:=
 if a0M x / 2^k<32 then a0L ((a0M x%2^k:Nat):Int) k (unL (a0M x / 2^k) L)else a0L ((a0M x:Nat):Int) 32 (unL 32 L)
def a3Y(k:Nat)(l:List Int)(L:List Int):List Int:=l.foldl (fun L x=>a5L k x L) L
theorem b4Z{k:Nat}(h:k≤25)(x:Int)(L:List Int):L.length≤(a5L k x L).length∧(a5L k x L).length≤L.length+100:=by
 grind[a5L,a0R,a8N]
theorem b4z{k:Nat}(h:k≤25):∀(l L:List Int),L.length≤(a3Y k l L).length∧(a3Y k l L).length≤L.length+100*l.length
 | [],L=>by simp[a3Y]
 |x::l,L=>by
  have g:=b4Z h x L;have f:=b4z h l (a5L k x L);have e:a3Y k (x::l) L=a3Y k l (a5L k x L):=rfl
  grind
theorem a7z{k:Nat}(h:k≤25):a1H (k:Int)=some true:=by
 unfold a1H
 grind
theorem c1d{k:Nat}{l L:List Int}(y:k≤25)(E:l.length<10000)(t:l.all a0A=true)(D:L.length<900000000):b1e (wL L,(k:Int),l)=some (0,wL (a3Y k l L)):=by
 have B:=a1x (f:=a7S) l (fun i=>((k:Int),l,l,(l.length:Int),(i:Int),wL L,())) (fun _=>true) (bt:=Sum.inl ((k:Int),l,wL L,())) (bf:=Sum.inl ((k:Int),l,wL L,()))
  (fun i h _=>by
   have:=lA.1 t _ (a21 h)
   simp only[a7S,dlt h,cT,a0B h,oB,a8O,this,bT,cF,a0C (show i<1000000 by omega)])
  (fun i h hp=>by simp_all) (by simp[a7S])
 have p:∀(j i:Nat)(g:List Int),i+j=l.length→g.length+100*j<999990000→x0r a6b ((k:Int),l,(l.length:Int),(i:Int),wL g,())=some (wL (a3Y k (l.drop i) g),()):=by
  intro j
  induction j with
  |zero=>
   intro i g x _;obtain rfl:i=l.length:=by omega
   simp_all[a0H,a6b,a3Y]
  |succ j ih=>
   intro i g x hb;have a:i<l.length:=by omega
   have c:=lA.1 t _ (a21 a);have A:=a8d c;have z:=b4Z y l[i] g;have e:decide ((k:Int)<0)=false:=by simp
   have q:z0h .u64 ((a0M l[i]:Nat):Int) (k:Int)=((a0M l[i] / 2^k:Nat):Int):=a5w (by omega);have o:=a40 (a0M l[i]) (2^k);have r:=a39 (a0M l[i]) (2^k);have d:z0g .u64 ((a0M l[i] / 2^k:Nat):Int) (k:Int)=((a0M l[i] / 2^k*2^k:Nat):Int):=b0G (by omega) (by grind);have u:wrap .u64 (((a0M l[i]:Nat):Int)-((a0M l[i] / 2^k*2^k:Nat):Int))=((a0M l[i]%2^k:Nat):Int):=by
    rw[Nat.mul_comm (a0M l[i] / 2^k)]
    grind[a0S]
   have w:wrap .i64 ((a0M l[i] / 2^k:Nat):Int)=((a0M l[i] / 2^k:Nat):Int):=b1V (a50 o A);rw[a05 a,a0I (s':=((k:Int),l,(l.length:Int),((i+1:Nat):Int),wL (a5L k l[i] g),())) (by
    by_cases hq:a0M l[i] / 2^k<32
    have m:decide (((a0M l[i] / 2^k:Nat):Int)<32)=true:=decide_eq_true (by omega);have s:(unL (a0M l[i] / 2^k) g).length<999999000:=by
     rw[a8N];omega
    have b:=b9E (L:=g) (n:=a0M l[i] / 2^k) (Nat.le_of_lt (a22 hq (by simp))) (by omega);have hp:=a2L (L:=unL (a0M l[i] / 2^k) g) (v:=((a0M l[i]%2^k:Nat):Int)) (n:=k) (by omega) s;simp only[a6b,dlt a,cT,a0B a,oB,a8P c,e,cF,q,m,w,b,d,u,hp,a5L,if_pos hq,a0C (show i<1000000 by omega)];have m:decide (((a0M l[i] / 2^k:Nat):Int)<32)=false:=decide_eq_false (by omega);have s:=a8N 32 g;have b:a2a (wL g,(32:Int))=some (0,wL (unL 32 g)):=b9E (L:=g) (n:=32) (by omega) (by omega);have hp:a0F (wL (unL 32 g),((a0M l[i]:Nat):Int),(32:Int))=some (a6V ((a0M l[i]:Nat):Int) 32,wL (a0L ((a0M l[i]:Nat):Int) 32 (unL 32 g))):=a2L (L:=unL 32 g) (v:=((a0M l[i]:Nat):Int)) (n:=32) (by omega) (by omega);simp only[a6b,dlt a,cT,a0B a,oB,a8P c,e,cF,q,m,b,hp,a5L,if_neg hq,a0C (show i<1000000 by omega)])]
   exact ih (i+1) _ (by omega) (by omega)
 have C:=p l.length 0 L (by omega) (by omega);simp_all[b1e,a7z]
def a1h(zn:List Nat):List Int:=zn.map fun(a:Nat)=>(a:Int)
theorem b8R(n M:Nat):(a00 n M).sum=n*M:=by
 simp
theorem b2T{o n warm:Int}(h:(a1B o n warm).length≠0):∃zn:List Nat,a1B o n warm=a1h zn∧(zn.sum:Int)=n-warm∧zn.length≤256:=by
 unfold a1B at h⊢;cases hr:(a5o n warm&&(decide (0≤o)&&decide (o≤8)))with
 |false=>simp_all
 |true=>
  rw[hr]at h;simp only[cT]at h⊢;simp[a5o]at hr;unfold b3n at h⊢
  split at h
  rename_i g;rw[if_pos g];obtain⟨O,rfl⟩:=a06 hr.2.1;obtain⟨N,rfl⟩:=a06 (show 0≤n by omega);obtain⟨w,rfl⟩:=a06 (show 0≤warm by omega);simp only[tN]at g⊢;have hp:=c6q (o:=O) (by omega);have f:=a39 N (2^O);rw[g.1,Nat.add_zero]at f;have k:w≤N / 2^O:=by omega
  generalize N / 2^O=M at g k f⊢;generalize 2^O=P at hp f⊢;refine⟨(M-w)::a00 (P-1) M,?_,?_,?_⟩
  grind[a1h,List.map_replicate]
  rw[List.sum_cons,b8R];obtain⟨q,rfl⟩:∃q,P=q+1:=⟨P-1,by omega⟩
  grind
  simp_all;simp_all
def a7Y(k:Int)(part L:List Int):List Int:=
 if k=31 then a1r (a0G part) part (a0L ((a0G part:Nat):Int) 5 (a0L (wrap .u64 k) 5 L))else a3Y k.toNat part (a0L (wrap .u64 k) 5 L)
def a3Z:List Nat→List Int→List Int→List Int→List Int
 |z::zs,k::ks,l,L=>a3Z zs ks (l.drop z) (a7Y k (l.take z) L)
 |_,_,_,L=>L
theorem b5a{k:Int}(h:kB k=true)(part L:List Int):L.length≤(a7Y k part L).length∧(a7Y k part L).length≤L.length+10+100*part.length:=by
 unfold a7Y;have a:=a0R (wrap .u64 k) 5 L;split;have b:=a0R ((a0G part:Nat):Int) 5 (a0L (wrap .u64 k) 5 L);have c:=a5p (a0G part) part (a0L ((a0G part:Nat):Int) 5 (a0L (wrap .u64 k) 5 L));have f:=a5v part
 have:a0G part*part.length≤32*part.length:=a45 _ f
 omega;rename_i g;simp[kB]at h
 grind[b4z]
theorem a6W{zn:List Nat}{i:Nat}(h:i<zn.length):a04 (a1h zn) i 0=((zn[i]:Nat):Int):=by
 simp_all[a1h]
theorem a1n(h:List Nat):(a1h h).length=h.length:=by simp[a1h]
theorem b3O{zn:List Nat}{i:Nat}(h:i<zn.length):(zn.drop i).sum=zn[i]+(zn.drop (i+1)).sum:=by
 grind[a05]
theorem b9G{part rest:List Int}{wd:Nat}{a b:Int}{z:List Int}{p:Prt}(k:wd≤32)(hp:part.length<10000):∀(j i:Nat)(L:List Int),i+j=part.length→L.length+64*j<999990000→
  x0r a7j (rest,(wd:Int),a,b,part,(part.length:Int),(i:Int),z,wL L,p,())=some (rest,a,b,z,wL (a1r wd (part.drop i) L),p,())
 |0,i,L,hi,_=>by
  obtain rfl:i=part.length:=by omega
  simp_all[a0H,a7j,a1r]
 |j+1,i,L,hi,hb=>by
  have h:i<part.length:=by omega
  have g:decide ((wd:Int)<0)=false:=by simp
  have f:=a0R (a0P part[i] wd) wd L;rw[a05 h,a0I (s':=(rest,(wd:Int),a,b,part,(part.length:Int),((i+1:Nat):Int),z,wL (a0L (a0P part[i] wd) wd L),p,())) (by
   simp only[a7j,dlt h,cT,a0B h,oB,g,cF,show bits .u64 .and (wrap .u64 part[i]) (wrap .u64 ((z0g .u64 1 (wd:Int))-1))=a0P part[i] wd from rfl,a2L (show wd≤63 by omega) (show L.length<999999000 by omega),a0C (show i<1000000 by omega)])]
  exact b9G k hp j (i+1) _ (by omega) (by omega)
theorem b3r{zn:List Nat}{p:Prt}(N:p.2.1.length=zn.length)(c:p.2.1.all kB=true)(R:zn.length≤256):∀(j i:Nat)(l L:List Int),i+j=zn.length→(zn.drop i).sum=l.length→l.all a0A=true→l.length≤5000→L.length+10*j+100*l.length<800000000→
  x0r a3M (l,(zn.length:Int),(i:Int),a1h zn,wL L,p,())=some (wL (a3Z (zn.drop i) (p.2.1.drop i) l L),())
 |0,i,l,L,hi,_,_,_,_=>by
  obtain rfl:i=zn.length:=by omega
  simp_all[a0H,a3M,a3Z]
 |j+1,i,l,L,hi,hsum,hw,hl5,hb=>by
  have h:i<zn.length:=by omega
  have f:i<p.2.1.length:=by omega
  have s:=lA.1 c _ (a21 f);rw[b3O h]at hsum;have B:decide ((0:Int)≤(i:Int))=true:=by simp
  have C:decide ((i:Int)<(((a1h zn).length:Nat):Int))=true:=by simp_all[a1n]
  have D:decide ((0:Int)≤((zn[i]:Nat):Int))=true:=by simp
  have E:decide (((zn[i]:Nat):Int)≤((l.length:Nat):Int))=true:=by grind
  have t:(l.take zn[i]).length=zn[i]:=by simp_all
  have q:(l.drop zn[i]).length=(zn.drop (i+1)).sum:=by grind
  have w:(l.take zn[i]).all a0A=true:=lA.2 fun x A=>lA.1 hw x (a46 A);have y:(l.drop zn[i]).all a0A=true:=lA.2 fun x A=>lA.1 hw x (a47 A);have Q:=b5a s (l.take zn[i]) L;have O:=a0R (wrap .u64 p.2.1[i]) 5 L;have d:a0F (wL L,wrap .u64 p.2.1[i],(5:Int))=some (a6V (wrap .u64 p.2.1[i]) 5,wL (a0L (wrap .u64 p.2.1[i]) 5 L)):=a2L (n:=5) (by omega) (by omega);have G:zn.drop i=zn[i]::zn.drop (i+1):=a05 h;have H:p.2.1.drop i=p.2.1[i]::p.2.1.drop (i+1):=a05 f;rw[G,H,a3Z];have r:a3M (l,(zn.length:Int),(i:Int),a1h zn,wL L,p,())=some (.inl (l.drop zn[i],(zn.length:Int),((i+1:Nat):Int),a1h zn,wL (a7Y p.2.1[i] (l.take zn[i]) L),p,())):=by
   by_cases h31:p.2.1[i]=31
   have m:(p.2.1[i] != 31)=false:=by simp_all
   have v:=a5v (l.take zn[i]);have u:=a1W (l:=l.take zn[i]) (by unfold short;omega);have P:=a0R ((a0G (l.take zn[i]):Nat):Int) 5 (a0L (wrap .u64 p.2.1[i]) 5 L);have I:wrap .u64 ((a0G (l.take zn[i]):Nat):Int)=((a0G (l.take zn[i]):Nat):Int):=a0S (by omega);have o:a0F (wL (a0L (wrap .u64 p.2.1[i]) 5 L),((a0G (l.take zn[i]):Nat):Int),(5:Int))=some (a6V ((a0G (l.take zn[i]):Nat):Int) 5,wL (a0L ((a0G (l.take zn[i]):Nat):Int) 5 (a0L (wrap .u64 p.2.1[i]) 5 L))):=a2L (n:=5) (by omega) (by omega);have e:=b9G (part:=l.take zn[i]) (rest:=l.drop zn[i]) (a:=(zn.length:Int)) (b:=(i:Int)) (z:=a1h zn) (p:=p) v (by omega) (l.take zn[i]).length 0 (a0L ((a0G (l.take zn[i]):Nat):Int) 5 (a0L (wrap .u64 p.2.1[i]) 5 L)) (by omega) (by omega);simp only[nZ,a33]at e;simp only[a3M,dlt h,B,C,a6W h,D,E,cT,a07,tN,a0B f,oB,d,m,cF,u,I,o,a29,e,a0C (show i<1000000 by omega),a7Y,if_pos h31];have m:(p.2.1[i] != 31)=true:=by simp_all
   simp[kB]at s;obtain⟨K,M⟩:=a06 (show 0≤p.2.1[i]by omega);have g:=c1d (k:=K) (l:=l.take zn[i]) (L:=a0L (wrap .u64 p.2.1[i]) 5 L) (by omega) (by omega) w (by omega);rw[←M]at g;have F:K=p.2.1[i].toNat:=by omega
   simp only[a3M,dlt h,B,C,a6W h,D,E,cT,a07,tN,a0B f,oB,d,m,g,a29,a0C (show i<1000000 by omega),a7Y,if_neg h31,F]
  rw[a0I r];exact b3r N c R j (i+1) (l.drop zn[i]) _ (by omega) q.symm y (by omega) (by omega)
theorem b7S{k:Nat}(d:k≤25){x:Int}(g:a0A x=true):∃c,a6t ((k:Int),x)=some c∧0≤c∧c≤65:=by
 have e:=a8d g;have f:z0h .u64 ((a0M x:Nat):Int) (k:Int)=((a0M x / 2^k:Nat):Int):=a5w (by omega);have a:wrap .i64 ((a0M x / 2^k:Nat):Int)=((a0M x / 2^k:Nat):Int):=b1V (a50 (a40 _ _) e);have h:decide ((k:Int)<0)=false:=by simp
 unfold a6t;simp only[a7z d,a8O,g,oB,bT,cF,a8P g,h,f,a];generalize a0M x / 2^k=q
 by_cases hq:q<32
 have b:decide ((q:Int)<32)=true:=decide_eq_true (by omega);refine⟨(q:Int)+1+k,?_,by omega,by omega⟩;simp only[b,cT]
 grind[a0D]
 grind
theorem b8S{k:Nat}(p:k≤25){l:List Int}(q:l.all a0A=true)(t:l.length<10000):∃c,a2S ((k:Int),l)=some c∧0≤c∧c≤65*l.length:=by
 have g:∀(j i:Nat)(c:Int),i+j=l.length→0≤c→c≤65*i→∃c',x0r a3l ((k:Int),c,l,(l.length:Int),(i:Int),())=some (c',())∧0≤c'∧c'≤65*l.length:=by
  intro j
  induction j with
  |zero=>
   intro i c o a f;obtain rfl:i=l.length:=by omega
   simp_all[a0H,a3l]
  |succ j ih=>
   intro i c o a f;have h:i<l.length:=by omega
   obtain⟨d,b,m,n⟩:=b7S p (lA.1 q _ (a21 h));have e:wrap .i64 (c+d)=c+d:=a0D (by omega);rw[a0I (s':=((k:Int),c+d,l,(l.length:Int),((i+1:Nat):Int),())) (by simp only[a3l,dlt h,cT,a0B h,oB,b,e,a0C (show i<1000000 by omega)])];exact ih (i+1) _ (by omega) (by omega) (by omega)
 obtain⟨c,f,r,s⟩:=g l.length 0 0 (by omega) (by omega) (by omega);simp_all[a2S]
theorem c3c{w n:Nat}(g:w≤32)(f:n<10000):0≤(w:Int)*(n:Int)∧(w:Int)*(n:Int)≤32*n:=by
 have h:w*n≤32*n:=a45 _ g;omega
theorem b7T{l:List Int}(h:l.length<10000):∃c,a4M l=some c∧0≤c∧c≤5+32*l.length:=by
 have g:=c3c (a5v l) h;refine⟨5+((a0G l:Nat):Int)*((l.length:Nat):Int),?_,by omega,by omega⟩;unfold a4M;simp only[a1W (show short l by unfold short;omega),oB]
 grind[a0D]
theorem b2x{zn:List Nat}{p:Prt}(H:p.2.1.length=zn.length)(g:p.2.1.all kB=true)(I:zn.length≤256):∀(j i:Nat)(l:List Int)(c:Int),i+j=zn.length→(zn.drop i).sum=l.length→l.all a0A=true→l.length≤5000→4≤c→c+10*j+65*l.length<1000000→
  ∃c',x0r a1m (l,c,(zn.length:Int),(i:Int),a1h zn,p,())=some (c',())∧4≤c'
 |0,i,l,c,hi,_,_,_,hc,_=>by
  obtain rfl:i=zn.length:=by omega
  simp_all[a0H,a1m]
 |j+1,i,l,c,hi,hsum,hw,hl5,hc,hb=>by
  have h:i<zn.length:=by omega
  have f:i<p.2.1.length:=by omega
  have q:=lA.1 g _ (a21 f);rw[b3O h]at hsum;have z:decide ((0:Int)≤(i:Int))=true:=by simp
  have A:decide ((i:Int)<(((a1h zn).length:Nat):Int))=true:=by simp_all[a1n]
  have B:decide ((0:Int)≤((zn[i]:Nat):Int))=true:=by simp
  have C:decide (((zn[i]:Nat):Int)≤((l.length:Nat):Int))=true:=by grind
  have s:(l.take zn[i]).length=zn[i]:=by simp_all
  have b:(l.drop zn[i]).length=(zn.drop (i+1)).sum:=by grind
  have v:(l.take zn[i]).all a0A=true:=lA.2 fun x y=>lA.1 hw x (a46 y);have w:(l.drop zn[i]).all a0A=true:=lA.2 fun x y=>lA.1 hw x (a47 y);have e:∃d,a1m (l,c,(zn.length:Int),(i:Int),a1h zn,p,())=some (.inl (l.drop zn[i],c+d,(zn.length:Int),((i+1:Nat):Int),a1h zn,p,()))∧0≤d∧d≤10+65*zn[i]:=by
   by_cases h31:p.2.1[i]=31
   have a:(p.2.1[i]==31)=true:=by simp_all
   obtain⟨r,m,t,u⟩:=b7T (l:=l.take zn[i]) (by omega);have n:wrap .i64 (5+r)=5+r:=a0D (by omega);have o:wrap .i64 (c+(5+r))=c+(5+r):=a0D (by omega);refine⟨5+r,?_,by omega,by omega⟩;simp only[a1m,dlt h,z,A,a6W h,B,C,cT,a07,tN,a0B f,oB,a,m,n,o,a29,a0C (show i<1000000 by omega)];have a:(p.2.1[i]==31)=false:=by simp_all
   simp[kB]at q;obtain⟨K,D⟩:=a06 (show 0≤p.2.1[i]by omega);obtain⟨r,m,t,u⟩:=b8S (k:=K) (by omega) v (by omega);rw[←D]at m;have n:wrap .i64 (5+r)=5+r:=a0D (by omega);have o:wrap .i64 (c+(5+r))=c+(5+r):=a0D (by omega);refine⟨5+r,?_,by omega,by omega⟩;simp only[a1m,dlt h,z,A,a6W h,B,C,cT,cF,a07,tN,a0B f,oB,a,m,n,o,a29,a0C (show i<1000000 by omega)]
  obtain⟨d,E,F,G⟩:=e;rw[a0I E];exact b2x H g I j (i+1) (l.drop zn[i]) _ (by omega) b.symm w (by omega) (by omega) (by omega)
structure PartsOk (p:Prt) (n warm:Int) (l:List Int) (zn:List Nat):Prop where
 may:a4G p n warm=true
 sizes:a1B p.1 n warm=a1h zn
 sum:zn.sum=l.length
 len:zn.length≤256
 ks:p.2.1.length=zn.length
 all:p.2.1.all kB=true
 wide:l.all a0A=true
 short:l.length≤5000
 row:a5o n warm=true
 rest:(l.length:Int)=n-warm
 order:0≤p.1∧p.1≤8
theorem PartsOk.of{p:Prt}{n warm:Int}{l:List Int}(h:a4G p n warm=true)(i:(l.length:Int)=n-warm)(j:l.all a0A=true)(e:l.length≤5000):∃g,PartsOk p n warm l g:=by
 have f:=h;simp only[a4G,bA,Bool.not_eq_true',beq_eq_false_iff_ne,ne_eq,beq_iff_eq]at f;obtain⟨c,o,d⟩:=f;obtain⟨g,a,m,b⟩:=b2T c;have k:a5o n warm=true∧0≤p.1∧p.1≤8:=by
  grind[a1B]
 exact⟨g,h,a,by omega,b,by simp_all[a1n],d,j,e,k.1,i,k.2⟩
theorem a9k{n warm:Int}{l:List Int}(h:a5o n warm=true)(c:(l.length:Int)=n-warm)(d:l.all a0A=true)(a:l.length≤5000):a5Y (n,warm,l)=some true:=by
 have e:wrap .i64 (n-warm)=n-warm:=by
  simp[a5o]at h;exact a0D (by omega)
 have k:(((l.length:Nat):Int) != n-warm)=false:=by simp_all
 have f:b1F=a2h:=rfl;have g:short l:=by unfold short;omega
 have b:=a3N g;simp_all[a2e,a5Y,b1Q]
theorem b6U{p:Prt}{n warm:Int}{l:List Int}{zn:List Nat}(h:PartsOk p n warm l zn):∃c,a3U (p,n,warm,l)=some c∧4≤c:=by
 have k:Go.Ab.short p.2.1:=by have:=h.ks;have:=h.len;unfold Go.Ab.short;omega
 have a:=h.short;have b:=h.len;obtain⟨c,g,f⟩:=b2x h.ks h.all h.len zn.length 0 l 4 (by omega) (by rw[a33];exact h.sum) h.wide h.short (by omega) (by omega);simp at g;refine⟨c,?_,f⟩;unfold a3U;simp only[b1R k,h.may,a9k h.row h.rest h.wide h.short,oB,bT,cF,a1L,h.sizes,a1n,g]
def a3D(p:Prt)(zn:List Nat)(l L:List Int):List Int:=a3Z zn p.2.1 l (a0L (wrap .u64 p.1) 4 L)
theorem b9H{p:Prt}{n warm:Int}{l L:List Int}{zn:List Nat}(h:PartsOk p n warm l zn)(i:L.length<700000000):a9F (wL L,p,n,warm,l)=some (0,wL (a3D p zn l L)):=by
 have e:=h.short;have j:=h.len;obtain⟨c,a,b⟩:=b6U h;have k:(c==0)=false:=by grind
 have d:=a0R (wrap .u64 p.1) 4 L;have f:a0F (wL L,wrap .u64 p.1,(4:Int))=some (a6V (wrap .u64 p.1) 4,wL (a0L (wrap .u64 p.1) 4 L)):=a2L (n:=4) (by omega) (by omega);have g:=b3r h.ks h.all h.len zn.length 0 l (a0L (wrap .u64 p.1) 4 L) (by omega) (by rw[a33];exact h.sum) h.wide h.short (by omega);simp at g;unfold a9F;simp only[a,oB,k,cF,f,a1L,h.sizes,a1n,g,a3D]
end Go.Ab
