/- Part of the proof: It. Conditions: as each statement tells. -/
import Derived.RangeFuncBound
import Derived.RangeFuncCalls
import Derived.RangeFuncBox
import Derived.WalkKit
import Derived.OwnWalkIn
import Derived.TacticsInMore
import Derived.LoopNIn
import Derived.LoopIn
import Derived.Test.YtbadoabamddpfaaGreatDoorProg
import Derived.KernelRfl
import Derived.Test.YtbadoabamddpfaaGreatDoorMD
noncomputable section
set_option linter.unusedSimpArgs false
set_option linter.unusedVariables false
open Array renaming replicate_succ→a09,replicate_zero→a16
open Int renaming toNat→a00,tdiv→a05,tmod→a06
open List renaming length→a01,replicate→a02,append→a03,getD→a04,take→a07,drop→a08,set→a18,append_toArray→a19,cons_append→a20,size_toArray→a21,push_toArray→a22,length_nil→a23,nil_append→a24
open Nat renaming reduceAdd→a25,reduceSub→a26
open Option renaming getD_some→a27
namespace Go.Ab
open Go.Proofs Go.RowKit
attribute [local go_sem] Oper.semAt_some
set_option maxHeartbeats 1000000 in
theorem d0K:A0h Tryz.prog 297 326:=by
 refine⟨⟨_,_,Tryz.func297,rfl,by kernel_rfl⟩,fun A len cap w=>(callsIn_wide (n:=3)).1 ?_⟩
 refine callsIn_of_wp Tryz.func297 rfl trivial ?_
 simp only[Tryz.ntmps297,a21,lC,a23,a25,a26,a09,a16,a22,a19,a24,a20]
 gi_wp2
 go_ret
 exact⟨rfl,_,rfl⟩
@[reducible] def b3r:Ty:=.pair (.int .i64) (.pair (.int .i64) .unit)
set_option maxRecDepth 100000 in
set_option maxHeartbeats 2000000 in
theorem c8g (l Bs b off len cap:Nat) (p q:Nat→Int) (J:Nat→World→Prop) (Jx:World→Prop) (W:World)
  (hJ:∀k W',J k W'→W'.cell? ⟨Bs,0,none⟩=some (.slice (some ⟨b,off,none⟩) len cap))
  (hlen:len<2147483648)
  (hcs:∀k W',k<len→J (k+1) W'→W'.cell? ⟨b,off+k*2,none⟩=some (.int .i64 (p k))∧W'.cell? ⟨b,off+k*2+1,none⟩=some (.int .i64 (q k)))
  (hY:∀n W',n<len→J (n+1) W'→YieldAt (Fr none) 0 Tryz.prog l #[.int .i64 (n:Int),.agg #[.int .i64 (p n),.int .i64 (q n)]] W' fun en W''=>(en=.returned (.bool true)∧J n W'')∨(en=.returned (.bool false)∧Jx W''))
  (h0:J len W):
  CallsIn (Fr none) 0 Tryz.prog 326 #[.func (.yield l) #[] #[],.pointer (some ⟨Bs,0,none⟩)] W fun en W'=>(∃v,en=.returned v)∧(J 0 W'∨Jx W'):=by
 refine callsIn_of_wp Tryz.func326 rfl trivial ?_
 simp only[Tryz.ntmps326,a21,lC,a23,a25,a26,a09,a16,a22,a19,a24,a20]
 have hBs:=hJ _ _ h0
 gi_wp2
 gi_loopw [3] (fun i wr=>∃k:Nat,k≤len∧i=.int .i64 ((k:Int)-1)∧J k wr) (fun i _=>(intOf i+1).toNat)
 case atStart=>exact⟨len,Nat.le_refl _,rfl,h0⟩
 case round=>
  obtain⟨k,hk,rfl,hJs⟩:=hrel
  cases k with
  |succ n=>
   obtain⟨fn,tmps,assign,body,hy,hR⟩:=hY n wr (by omega) hJs
   have hcx:=hJ _ _ hJs
   obtain⟨hc0,hc1⟩:=hcs n wr (by omega) hJs
   gi_wp2
   refine hR.mono ?_
   rintro e W3 (⟨rfl,hJ3⟩|⟨rfl,hJx3⟩)
   ·gi_wp2
    go_roundw
    case rel=>exact⟨n,by omega,by simp,hJ3⟩
    case measure=>simp[intOf]
   ·gi_wp2
    refine bodyPost_ret (results_none rfl _ _ _) rfl ?_
    exact⟨⟨_,rfl⟩,.inr hJx3⟩
  |zero=>
   gi_wp2
   go_end0
   exact⟨⟨_,rfl⟩,.inl hJs⟩
set_option maxRecDepth 100000 in
set_option maxHeartbeats 2000000 in
theorem c6X (l Bs:Nat) (A:Option Addr) (c:Nat) (J:Nat→World→Prop) (W:World) (hBs:W.cell? ⟨Bs,0,none⟩=some (.slice A 0 c)) (h0:J 0 W):
  CallsIn (Fr none) 0 Tryz.prog 326 #[.func (.yield l) #[] #[],.pointer (some ⟨Bs,0,none⟩)] W fun en W'=>(∃v,en=.returned v)∧J 0 W':=by
 refine callsIn_of_wp Tryz.func326 rfl trivial ?_
 simp only[Tryz.ntmps326,a21,lC,a23,a25,a26,a09,a16,a22,a19,a24,a20]
 gi_wp2
 gi_loopw [3] (fun i wr=>i=.int .i64 (-1)∧J 0 wr) (fun _ _=>0)
 case atStart=>exact⟨rfl,h0⟩
 case round=>
  obtain⟨rfl,hJs⟩:=hrel
  gi_wp2
  go_end0
  exact⟨⟨_,rfl⟩,hJs⟩
theorem c1C{m:Mem}{Sh:Nat→Prop}{b o:Nat}{x:b3r.den}{R}(h:dec m b3r ((Src.at b o).rd m)=some (x,[],R)):
  m b o=some (.int .i64 x.1)∧m b (o+1)=some (.int .i64 x.2.1)∧VOk m Sh b3r x (.agg #[.int .i64 x.1,.int .i64 x.2.1]):=by
 obtain⟨p,q,u⟩:=x;simp only[b3r,dec,Src.rd,Ty.cells,Nat.add_zero]at h
 split at h
 cases h;rename_i r o1 j g
 split at g
 rename_i n c
 split at g
 rename_i e;subst e;simp only[sj]at g;obtain⟨rfl,rfl,rfl⟩:=g
 split at h
 cases h;rename_i s o2 r2 k
 split at k
 cases k;rename_i t i l f
 split at f
 rename_i d a
 split at f
 rename_i e;subst e;simp only[sj]at f k h;obtain⟨rfl,rfl,rfl⟩:=f;obtain⟨rfl,rfl,rfl⟩:=k;obtain⟨⟨rfl,rfl,rfl⟩,-,-⟩:=h;exact⟨c,a,fun _=>⟨_,rfl,rfl⟩,fun h=>(by cases h),[],rfl,by simp⟩;cases f;cases f;cases g;cases g
theorem b6u {P:Program} {f:FuncId} (hb:l0x P f) (args:Array Value) (w:World):(callFunc f args).run P w=.ok (.enter f args) w:=by
 obtain ⟨fn,c',h1,h2,h3⟩:=hb;have h4 : ¬ fn.name = "runtime.NumGoroutine" := by simpa using h3
 simp [callFunc,program,Sem.run,h1,h2,h4,Result.andThen]
theorem d0L:w0n Tryz.prog 326 b3r:=by
 refine⟨fun args w=>b6u ⟨_,_,Tryz.func326,rfl,by kernel_rfl⟩ args w,fun l Bs sv xs J C W d s K m=>?_⟩;obtain⟨y,Sh,v⟩:=s _ _ m;obtain⟨A,n,c,rfl,rfl,M,u,i⟩:=v.header
 by_cases hx0:xs.length=0
 rw[hx0]at m y;exact(c6X l Bs A c J W y m).mono fun e g h=>⟨h.1,.inl h.2⟩;cases A with
 |none=>have:=i rfl;omega
 |some A=>
  obtain⟨b,off,z⟩:=A
  have:=(u _ rfl).resolve_left (by omega)
  simp only at this;subst this;have t:∀k g,k<xs.length→J (k+1) g→∃x,xs[k]?=some x∧g.cell? ⟨b,off+k*2,none⟩=some (.int .i64 x.1)∧g.cell? ⟨b,off+k*2+1,none⟩=some (.int .i64 x.2.1):=by
   intro k g o a;obtain⟨-,f,hv⟩:=s _ _ a;obtain⟨B,N,D,R,e,E,F,G,r,H,I⟩:=hv.elem rfl (lG o);simp only[Value.slice.injEq,sj]at e;obtain⟨rfl,rfl,rfl⟩:=e;obtain⟨p,q,-⟩:=c1C (Sh:=f) r;exact⟨_,lG o,p,q⟩
  refine c8g l Bs b off xs.length c (fun k=>((xs[k]?).getD b3r.dflt).1) (fun k=>((xs[k]?).getD b3r.dflt).2.1) J C W (fun k g a=>(s k g a).1) d (fun k g o a=>?_) (fun n g L a=>?_) m;obtain⟨x,j,p,q⟩:=t k g o a;simp only[j,a27];exact⟨p,q⟩;have j:xs[n]?=some xs[n]:=lG L;simp only[j,a27];refine K n _ _ g j a fun f hv=>?_
  obtain⟨B,N,D,R,e,E,F,G,r,H,I⟩:=hv.elem rfl j;exact(c1C (Sh:=f) r).2.2
set_option maxHeartbeats 1000000 in
theorem d0M:A0h Tryz.prog 186 242:=by
 refine⟨⟨_,_,Tryz.func186,rfl,by kernel_rfl⟩,fun A len cap w=>(callsIn_wide (n:=3)).1 ?_⟩
 refine callsIn_of_wp Tryz.func186 rfl trivial ?_
 simp only[Tryz.ntmps186,a21,lC,a23,a25,a26,a09,a16,a22,a19,a24,a20]
 gi_wp2
 go_ret
 exact⟨rfl,_,rfl⟩
@[reducible] def b5I:Ty:=.pair (.int .i64) (.pair (.int .i64) (.pair (.int .i64) .unit))
set_option maxRecDepth 100000 in
set_option maxHeartbeats 2000000 in
theorem c8h (l Bs b off len cap:Nat) (p q r:Nat→Int) (J:Nat→World→Prop) (Jx:World→Prop) (W:World)
  (hJ:∀k W',J k W'→W'.cell? ⟨Bs,0,none⟩=some (.slice (some ⟨b,off,none⟩) len cap))
  (hlen:len<2147483648)
  (hcs:∀k W',k<len→J (k+1) W'→W'.cell? ⟨b,off+k*3,none⟩=some (.int .i64 (p k))∧W'.cell? ⟨b,off+k*3+1,none⟩=some (.int .i64 (q k))∧W'.cell? ⟨b,off+k*3+2,none⟩=some (.int .i64 (r k)))
  (hY:∀n W',n<len→J (n+1) W'→YieldAt (Fr none) 0 Tryz.prog l #[.int .i64 (n:Int),.agg #[.int .i64 (p n),.int .i64 (q n),.int .i64 (r n)]] W' fun en W''=>(en=.returned (.bool true)∧J n W'')∨(en=.returned (.bool false)∧Jx W''))
  (h0:J len W):
  CallsIn (Fr none) 0 Tryz.prog 242 #[.func (.yield l) #[] #[],.pointer (some ⟨Bs,0,none⟩)] W fun en W'=>(∃v,en=.returned v)∧(J 0 W'∨Jx W'):=by
 refine callsIn_of_wp Tryz.func242 rfl trivial ?_
 simp only[Tryz.ntmps242,a21,lC,a23,a25,a26,a09,a16,a22,a19,a24,a20]
 have hBs:=hJ _ _ h0
 gi_wp2
 gi_loopw [3] (fun i wr=>∃k:Nat,k≤len∧i=.int .i64 ((k:Int)-1)∧J k wr) (fun i _=>(intOf i+1).toNat)
 case atStart=>exact⟨len,Nat.le_refl _,rfl,h0⟩
 case round=>
  obtain⟨k,hk,rfl,hJs⟩:=hrel
  cases k with
  |succ n=>
   obtain⟨fn,tmps,assign,body,hy,hR⟩:=hY n wr (by omega) hJs
   have hcx:=hJ _ _ hJs
   obtain⟨hc0,hc1,hc2⟩:=hcs n wr (by omega) hJs
   gi_wp2
   refine hR.mono ?_
   rintro e W3 (⟨rfl,hJ3⟩|⟨rfl,hJx3⟩)
   ·gi_wp2
    go_roundw
    case rel=>exact⟨n,by omega,by simp,hJ3⟩
    case measure=>simp[intOf]
   ·gi_wp2
    refine bodyPost_ret (results_none rfl _ _ _) rfl ?_
    exact⟨⟨_,rfl⟩,.inr hJx3⟩
  |zero=>
   gi_wp2
   go_end0
   exact⟨⟨_,rfl⟩,.inl hJs⟩
set_option maxRecDepth 100000 in
set_option maxHeartbeats 2000000 in
theorem c6Y (l Bs:Nat) (A:Option Addr) (c:Nat) (J:Nat→World→Prop) (W:World) (hBs:W.cell? ⟨Bs,0,none⟩=some (.slice A 0 c)) (h0:J 0 W):
  CallsIn (Fr none) 0 Tryz.prog 242 #[.func (.yield l) #[] #[],.pointer (some ⟨Bs,0,none⟩)] W fun en W'=>(∃v,en=.returned v)∧J 0 W':=by
 refine callsIn_of_wp Tryz.func242 rfl trivial ?_
 simp only[Tryz.ntmps242,a21,lC,a23,a25,a26,a09,a16,a22,a19,a24,a20]
 gi_wp2
 gi_loopw [3] (fun i wr=>i=.int .i64 (-1)∧J 0 wr) (fun _ _=>0)
 case atStart=>exact⟨rfl,h0⟩
 case round=>
  obtain⟨rfl,hJs⟩:=hrel
  gi_wp2
  go_end0
  exact⟨⟨_,rfl⟩,hJs⟩
theorem c0Y{m:Mem}{rd:Nat→Option Value}{x o r}(h:dec m (.int .i64) rd=some (x,o,r)):rd 0=some (.int .i64 x)∧o=[]∧r=[]:=by
 simp only[dec]at h
 split at h
 rename_i k n g
 split at h
 rename_i e;subst e;simp only[sj,pJ]at h;obtain⟨rfl,rfl,rfl⟩:=h;exact⟨g,rfl,rfl⟩;cases h;cases h
theorem b8L{m:Mem}{a b:Ty}{rd:Nat→Option Value}{x o r}(h:dec m (.pair a b) rd=some (x,o,r)):∃o1 g o2 r2,dec m a rd=some (x.1,o1,g)∧dec m b (fun j=>rd (a.cells+j))=some (x.2,o2,r2)∧o=o1++o2∧r=g++r2:=by
 simp only[dec]at h
 split at h
 cases h;rename_i c o1 g f
 split at h
 cases h;rename_i d o2 r2 k;simp only[sj,pJ]at h;obtain⟨rfl,rfl,rfl⟩:=h;exact⟨_,_,_,_,f,k,rfl,rfl⟩
theorem c2R{m:Mem}{Sh:Nat→Prop}{b o:Nat}{x:b5I.den}{R}(h:dec m b5I ((Src.at b o).rd m)=some (x,[],R)):
  m b o=some (.int .i64 x.1)∧m b (o+1)=some (.int .i64 x.2.1)∧m b (o+2)=some (.int .i64 x.2.2.1)∧VOk m Sh b5I x (.agg #[.int .i64 x.1,.int .i64 x.2.1,.int .i64 x.2.2.1]):=by
 obtain⟨_,_,_,_,g,f,-,-⟩:=b8L h;obtain⟨_,_,_,_,k,a,-,-⟩:=b8L f;obtain⟨_,_,_,_,c,-,-,-⟩:=b8L a;exact⟨(c0Y g).1,(c0Y k).1,(c0Y c).1,fun _=>⟨_,rfl,rfl⟩,fun h=>(by cases h),[],rfl,by simp⟩
theorem d0N:w0n Tryz.prog 242 b5I:=by
 refine⟨fun args w=>b6u ⟨_,_,Tryz.func242,rfl,by kernel_rfl⟩ args w,fun l Bs sv xs J D W d t L m=>?_⟩;obtain⟨z,Sh,y⟩:=t _ _ m;obtain⟨A,n,c,rfl,rfl,N,v,i⟩:=y.header
 by_cases hx0:xs.length=0
 rw[hx0]at m z;exact(c6Y l Bs A c J W z m).mono fun e g h=>⟨h.1,.inl h.2⟩;cases A with
 |none=>have:=i rfl;omega
 |some A=>
  obtain⟨b,off,B⟩:=A
  have:=(v _ rfl).resolve_left (by omega)
  simp only at this;subst this;have u:∀k g,k<xs.length→J (k+1) g→∃x,xs[k]?=some x∧g.cell? ⟨b,off+k*3,none⟩=some (.int .i64 x.1)∧g.cell? ⟨b,off+k*3+1,none⟩=some (.int .i64 x.2.1)∧g.cell? ⟨b,off+k*3+2,none⟩=some (.int .i64 x.2.2.1):=by
   intro k g o a;obtain⟨-,f,hv⟩:=t _ _ a;obtain⟨C,O,E,R,e,F,G,H,s,I,K⟩:=hv.elem rfl (lG o);simp only[Value.slice.injEq,sj]at e;obtain⟨rfl,rfl,rfl⟩:=e;obtain⟨p,q,r,-⟩:=c2R (Sh:=f) s;exact⟨_,lG o,p,q,r⟩
  refine c8h l Bs b off xs.length c (fun k=>((xs[k]?).getD b5I.dflt).1) (fun k=>((xs[k]?).getD b5I.dflt).2.1) (fun k=>((xs[k]?).getD b5I.dflt).2.2.1) J D W (fun k g a=>(t k g a).1) d (fun k g o a=>?_) (fun n g M a=>?_) m;obtain⟨x,j,p,q,r⟩:=u k g o a;simp only[j,a27];exact⟨p,q,r⟩;have j:xs[n]?=some xs[n]:=lG M;simp only[j,a27];refine L n _ _ g j a fun f hv=>?_
  obtain⟨C,O,E,R,e,F,G,H,s,I,K⟩:=hv.elem rfl j;exact(c2R (Sh:=f) s).2.2.2
end Go.Ab
namespace Go.Ab
open IntKind(wrap)
open Go.Proofs
set_option maxRecDepth 100000
set_option linter.unusedVariables false
@[reducible] def QI:Ty:=.int .i64
@[reducible] def QL:Ty:=.list false QI
@[reducible] def QU:Ty:=.int .u64
@[reducible] def QV:Ty:=.int .u8
@[reducible] def QB:Ty:=.list false QV
@[reducible] def LI:Type:=List Int
instance (n:Nat):OfNat Ent n:=⟨.sv n QI⟩
@[reducible] def Qp(i n:Nat):Ent:=.ptr i n []
@[reducible] def Qn(l:a0c):Ex×a0c:=(.normal,l)
@[reducible] def Qe(n:Nat)(l:a0c):Ex×a0c:=(.exit n,l)
@[reducible] def Qr(l:a0c):Ex×a0c:=(.ret,l)
def QH:Hints:=⟨[],[],[]⟩
@[reducible] def Z0:Type:=(Unit ⊕ (Bool×Unit))
@[reducible] def Z1:Type:=((List LI)×Unit)
@[reducible] def Z2:Type:=(Int×(Int×LI))
@[reducible] def Z3:Type:=(LI×(Int×Int))
@[reducible] def Z4:Type:=(List (Int×(Int×Unit)))
@[reducible] def Z5:Type:=(Int×(LI×Unit))
@[reducible] def Z6:Type:=(LI×(Int×Unit))
@[reducible] def Z7:Type:=(Int×(Int×(Int×Unit)))
@[reducible] def Z8:Type:=(Int×(Int×(Bool×Unit)))
@[reducible] def Z9:Type:=((Int×(Int×Unit))×Unit)
@[reducible] def Z10:Type:=(LI×(LI×Int))
@[reducible] def Z11:Type:=(Int×Z1)
@[reducible] def Z12:Type:=(LI×(LI×Unit))
@[reducible] def Z13:Type:=(List Z7)
@[reducible] def Z14:Type:=(LI×(Int×(Int×Unit)))
@[reducible] def Z15:Type:=(Int×Z5)
@[reducible] def Z16:Type:=(Int×Z6)
@[reducible] def Z17:Type:=(LI×(Int×(Bool×Unit)))
@[reducible] def Z18:Type:=(Z5×Unit)
@[reducible] def Z19:Type:=(Z6×Unit)
@[reducible] def Z20:Type:=(Int×Z7)
@[reducible] def Z21:Type:=(Z7×Unit)
@[reducible] def Z22:Type:=(Int×Z8)
@[reducible] def Z23:Type:=(List Z11)
@[reducible] def Z24:Type:=(Int×Z12)
@[reducible] def Z25:Type:=(LI×Z5)
@[reducible] def Z26:Type:=((List LI)×(Int×(Int×Unit)))
@[reducible] def Z27:Type:=(Int×Z11)
@[reducible] def Z28:Type:=(Z11×Int)
@[reducible] def Z29:Type:=(Z11×Unit)
@[reducible] def Z30:Type:=(Int×Z14)
@[reducible] def Z31:Type:=(LI×Z7)
@[reducible] def Z32:Type:=(Int×Z15)
@[reducible] def Z33:Type:=(Z14×Int)
@[reducible] def Z34:Type:=(LI×Z8)
@[reducible] def Z35:Type:=(Int×Z19)
@[reducible] def Z36:Type:=(Int×Z20)
@[reducible] def Z37:Type:=(Z14×Unit)
@[reducible] def Z38:Type:=(Int×Z21)
@[reducible] def Z39:Type:=(Bool×Z21)
@[reducible] def Z40:Type:=(LI×Z12)
@[reducible] def Z41:Type:=(LI×Z15)
@[reducible] def Z42:Type:=(Int×Z24)
@[reducible] def Z43:Type:=(Z23×Unit)
@[reducible] def Z44:Type:=(Int×Z26)
@[reducible] def Z45:Type:=(LI×Z14)
@[reducible] def Z46:Type:=(Int×Z29)
@[reducible] def Z47:Type:=(Z5×(LI×Unit))
@[reducible] def Z48:Type:=((LI×Unit) ⊕ Z5)
@[reducible] def Z49:Type:=(LI×Z17)
@[reducible] def Z50:Type:=(Int×Z30)
@[reducible] def Z51:Type:=(Z24×Unit)
@[reducible] def Z52:Type:=(Int×Z31)
@[reducible] def Z53:Type:=(Int×Z35)
@[reducible] def Z54:Type:=(Int×Z36)
@[reducible] def Z55:Type:=(Int×Z37)
@[reducible] def Z56:Type:=(Bool×Z37)
@[reducible] def Z57:Type:=(Int×Z40)
@[reducible] def Z58:Type:=(Int×Z41)
@[reducible] def Z59:Type:=(LI×Z29)
@[reducible] def Z60:Type:=(LI×Z30)
@[reducible] def Z61:Type:=(LI×Z31)
@[reducible] def Z62:Type:=(Int×Z46)
@[reducible] def Z63:Type:=(Int×Z51)
@[reducible] def Z64:Type:=(LI×Z37)
@[reducible] def Z65:Type:=(Z30 ⊕ (Int×Unit))
@[reducible] def Z66:Type:=(Int×Z54)
@[reducible] def Z67:Type:=(Int×Z55)
@[reducible] def Z68:Type:=(Int×Z56)
@[reducible] def Z69:Type:=(Z14 ⊕ Z0)
@[reducible] def Z70:Type:=(LI×Z42)
@[reducible] def Z71:Type:=(Int×Z57)
@[reducible] def Z72:Type:=(LI×Z47)
@[reducible] def Z73:Type:=(LI×Z50)
@[reducible] def Z74:Type:=(LI×Z51)
@[reducible] def Z75:Type:=(Int×Z59)
@[reducible] def Z76:Type:=(Int×Z58)
@[reducible] def Z77:Type:=(Int×Z63)
@[reducible] def Z78:Type:=(LI×Z53)
@[reducible] def Z79:Type:=(Int×Z64)
@[reducible] def Z80:Type:=(Z6×Z18)
@[reducible] def Z81:Type:=(Int×Z66)
@[reducible] def Z82:Type:=(Z5×Z18)
@[reducible] def Z83:Type:=(Int×Z67)
@[reducible] def Z84:Type:=(Int×Z70)
@[reducible] def Z85:Type:=(Int×Z74)
@[reducible] def Z86:Type:=(Int×Z75)
@[reducible] def Z87:Type:=(Int×Z77)
@[reducible] def Z88:Type:=(Int×Z78)
@[reducible] def Z89:Type:=(Int×Z79)
@[reducible] def Z90:Type:=(Int×Z81)
@[reducible] def Z91:Type:=(LI×Z80)
@[reducible] def Z92:Type:=(Z13×Z29)
@[reducible] def Z93:Type:=(Int×Z89)
@[reducible] def Z94:Type:=(Int×Z91)
@[reducible] def Z95:Type:=(Z7×Z61)
@[reducible] def Z96:Type:=(Z4×Z72)
@[reducible] def Z97:Type:=(Int×Z94)
@[reducible] def Z98:Type:=(Z5×Z82)
@[reducible] def Z99:Type:=(Z95×Unit)
@[reducible] def d4F:Type:=(LI×Z96)
@[reducible] def c2S:Type:=(LI×Z97)
@[reducible] def c5w:Type:=(Z95×Z9)
@[reducible] def d4G:Type:=(LI×d4F)
@[reducible] def d4H:Type:=(Int×d4G)
@[reducible] def d4I:Type:=(Int×d4H)
@[reducible] def d4J:Type:=(Int×d4I)
@[reducible] def d4K:Type:=(Int×d4J)
@[reducible] def a1X:Type:=(Int×d4K)
@[reducible] def b2v:Type:=(List a1X)
@[reducible] def b4J:Type:=(a1X×Int)
@[reducible] def b5J:Type:=(a1X×Unit)
@[reducible] def c8i:Type:=(b2v×Unit)
@[reducible] def d1J:Type:=(Bool×b5J)
@[reducible] def c2T:Type:=(Int×d1J)
@[reducible] def c5x:Type:=(b2v×(LI×Unit))
@[reducible] def d4L:Type:=(Z6×b5J)
@[reducible] def c5y:Type:=(Int×d4L)
@[reducible] def d1K:Type:=(Z14×b5J)
@[reducible] def c5z:Type:=(a1X×Z37)
@[reducible] def d4M:Type:=(Z13×c8i)
@[reducible] def b4K:Type:=(Int×c5y)
@[reducible] def c8j:Type:=(Int×d1K)
@[reducible] def c0Z:Type:=(Int×c8j)
@[reducible] def d4N:Type:=(Z7×d4M)
@[reducible] def d4O:Type:=(Int×d4N)
@[reducible] def a3s:Type:=(Int×d4O)
@[reducible] def b5K:Type:=(List a3s)
@[reducible] def b4L:Type:=(a3s×Unit)
@[reducible] def d4P:Type:=(b5K×Unit)
@[reducible] def c2U:Type:=(Z11×b4L)
@[reducible] def d4Q:Type:=(Z4×d4P)
@[reducible] def c1a:Type:=(a3s×Z37)
@[reducible] def d4R:Type:=(Int×d4Q)
@[reducible] def d4S:Type:=(Int×d4R)
@[reducible] def b2w:Type:=(a1X×b5J)
@[reducible] def d4T:Type:=(Int×b2w)
@[reducible] def c5A:Type:=(Int×d4T)
@[reducible] def b1j:Type:=(Z7×d4S)
@[reducible] def b3s:Type:=(b1j×Unit)
@[reducible] def b8M:Type:=(LI×b3s)
@[reducible] def d4U:Type:=(Z23×b3s)
@[reducible] def c5B:Type:=((List LI)×d4U)
@[reducible] def Q0:Ty:=(.pair QI .unit)
@[reducible] def Q1:Ty:=(.pair (.list true QI) .unit)
@[reducible] def Q2:Ty:=(.pair QL .unit)
@[reducible] def Q3:Ty:=(.pair QI Q0)
@[reducible] def Q4:Ty:=(.pair QU Q0)
@[reducible] def Q5:Ty:=(.pair (.nl QL) .unit)
@[reducible] def Q6:Ty:=(.pair (.list true (.list true QI)) .unit)
@[reducible] def Q7:Ty:=(.pair (.list true QL) .unit)
@[reducible] def Q8:Ty:=(.pair (.list false QL) .unit)
@[reducible] def Q9:Ty:=(.pair (.list true QV) Q0)
@[reducible] def Q10:Ty:=(.pair QI Q1)
@[reducible] def Q11:Ty:=(.pair QI Q2)
@[reducible] def Q12:Ty:=(.pair QI Q3)
@[reducible] def Q13:Ty:=(.pair QI Q4)
@[reducible] def Q14:Ty:=(.pair (.list true QI) Q1)
@[reducible] def Q15:Ty:=(.pair QI Q8)
@[reducible] def Q16:Ty:=(.pair QB Q3)
@[reducible] def Q17:Ty:=(.pair QI Q14)
@[reducible] def Q18:Ty:=(.pair (.list true QI) Q13)
@[reducible] def Q19:Ty:=(.pair QL Q13)
@[reducible] def Q20:Ty:=(.pair Q11 Q2)
@[reducible] def Q21:Ty:=(.pair (.list true QI) Q18)
@[reducible] def Q22:Ty:=(.pair QL Q19)
@[reducible] def Q23:Ty:=(.pair (.nl QI) Q20)
@[reducible] def Q24:Ty:=(.pair QL Q20)
@[reducible] def Q25:Ty:=(.pair (.list true Q3) Q23)
@[reducible] def Q26:Ty:=(.pair Q12 Q21)
@[reducible] def Q27:Ty:=(.pair Q12 Q22)
@[reducible] def Q28:Ty:=(.pair (.list false Q3) Q24)
@[reducible] def Q29:Ty:=(.pair (.arr 3 QI) Q25)
@[reducible] def Q30:Ty:=(.pair (.arr 3 QI) Q28)
@[reducible] def Q31:Ty:=(.pair (.list true QI) Q29)
@[reducible] def Q32:Ty:=(.pair QL Q30)
@[reducible] def Q33:Ty:=(.pair QI Q31)
@[reducible] def Q34:Ty:=(.pair QI Q32)
@[reducible] def Q35:Ty:=(.pair QI Q33)
@[reducible] def Q36:Ty:=(.pair QI Q34)
@[reducible] def Q37:Ty:=(.pair QI Q35)
@[reducible] def Q38:Ty:=(.pair QI Q36)
@[reducible] def Q39:Ty:=(.pair QI Q37)
@[reducible] def Q40:Ty:=(.pair QI Q38)
@[reducible] def Q41:Ty:=(.pair QI Q39)
@[reducible] def Q42:Ty:=(.pair QI Q40)
@[reducible] def Q43:Ty:=(.pair (.nl Q42) .unit)
@[reducible] def Q44:Ty:=(.pair (.list true Q42) .unit)
@[reducible] def Q45:Ty:=(.pair (.list false Q42) .unit)
@[reducible] def Q46:Ty:=(.pair (.nl Q12) Q43)
@[reducible] def Q47:Ty:=(.pair (.list true Q12) Q43)
@[reducible] def Q48:Ty:=(.pair (.list false Q12) Q44)
@[reducible] def Q49:Ty:=(.pair (.list false Q12) Q45)
@[reducible] def Q50:Ty:=(.pair Q12 Q46)
@[reducible] def Q51:Ty:=(.pair Q12 Q47)
@[reducible] def Q52:Ty:=(.pair Q12 Q48)
@[reducible] def Q53:Ty:=(.pair Q12 Q49)
@[reducible] def Q54:Ty:=(.pair QI Q50)
@[reducible] def Q55:Ty:=(.pair QI Q51)
@[reducible] def Q56:Ty:=(.pair QI Q52)
@[reducible] def Q57:Ty:=(.pair QI Q53)
@[reducible] def Q58:Ty:=(.pair QI Q55)
@[reducible] def Q59:Ty:=(.pair QI Q56)
@[reducible] def Q60:Ty:=(.pair QI Q57)
@[reducible] def Q61:Ty:=(.pair (.nl Q60) .unit)
@[reducible] def Q62:Ty:=(.pair (.list true Q60) .unit)
@[reducible] def Q63:Ty:=(.pair (.list false Q60) .unit)
@[reducible] def Q64:Ty:=(.pair (.nl Q3) Q61)
@[reducible] def Q65:Ty:=(.pair (.list true Q3) Q62)
@[reducible] def Q66:Ty:=(.pair (.list false Q3) Q63)
@[reducible] def Q67:Ty:=(.pair QU Q64)
@[reducible] def Q68:Ty:=(.pair QU Q65)
@[reducible] def Q69:Ty:=(.pair QU Q66)
@[reducible] def Q70:Ty:=(.pair QI Q67)
@[reducible] def Q71:Ty:=(.pair QI Q68)
@[reducible] def Q72:Ty:=(.pair QI Q69)
@[reducible] def Q73:Ty:=(.pair Q12 Q71)
@[reducible] def Q74:Ty:=(.pair Q12 Q72)
def c2M:List (Nat×Ty):=[(2,.int .i64),(3,.int .i64),(5,.int .u8),(9,.str),(22,.list false QL),(24,.pair QI Q8),(25,.int .u16),(30,.pair QI Q3),(31,.list false Q12),(32,.list false Q42),(34,.pair QI Q57),(35,.int .i64),(38,.list false QV),(42,.int .u64),(49,.int .u64),(50,.list false Q3),(51,.list false Q60),(53,.pair Q12 Q72),(55,.list false QI),(74,.pair QI Q0),(76,.pair QI Q0),(103,.arr 3 QI),(104,.list false Q3),(106,.pair QI Q2),(108,.pair QI Q40),(113,.pair QB Q0),(134,.list false QB),(135,.list false Q15),(141,.list false QU),(143,.int .u32),(153,.pair Q12 Q22),(164,.pair QI Q3),(178,.pair QI Q0),(192,.pair QB Q3),(236,.pair QB Q3),(256,.arr 64 QV),(285,.list false (.arr 3 QI)),(295,.pair QI (.pair QL Q2))]
def T0:Nat→Option Ty:=fun t=>find c2M t
def c5C:List Nat:=[30,76,103]
def d4V:Nat→Bool:=fun t=>c5C.contains t
def c2V:List Nat:=[]
def d4W:Nat→Bool:=fun t=>c2V.contains t
def b1D:(List Int):=[0,1,56,2,57,49,28,3,61,58,42,50,38,29,17,4,62,47,59,36,45,43,51,22,53,39,33,30,24,18,12,5,63,55,48,27,60,41,37,16,46,35,44,21,52,32,23,11,54,26,40,15,34,20,31,10,25,14,19,9,13,8,7,6]
def G0:Nat→Option ((t:Ty)×t.den):=fun g=>find ([(0,⟨.arr 64 QV,b1D⟩)]:List (Nat×((t:Ty)×t.den))) g
@[reducible] def b3t(a:List (Nat×FSem))(b:List (Nat×Ty))(c d:List Nat):Cx:=⟨d4W,d4V,T0,fun f=>find a f,fun n=>find b n,fun i=>c.contains i,fun i=>d.contains i,G0⟩
def a3i(x:Z11):Option Int:=cond ((x.2.1.length:Int)==0) (some 0) ((m0k x.2.1 0).bind fun x1=>some (x1.length:Int))
def a9a:FSem:=⟨[.v Q15],[.v QI],a3i⟩
def b3u(x:Int):Option Int:=(show Option (Int×Bool×Unit)from cond (decide (x<1)) (some (x,true,())) (some (x,decide (x > 31),()))).bind fun z1=>cond z1.2.1 (some 0) (cond (decide ((wrap .i64 (z1.1-1))<0)) none (some (A0n .i64 (-1) (wrap .i64 (z1.1-1)))))
def b6O:FSem:=⟨[.v QI],[.v QI],b3u⟩
def d4X:Hints:=⟨[],[(6,[Qn [0,.sv 8 .bool]])],[]⟩
def b2x(x:Int):Option Int:=(show Option (Int×Bool×Unit)from cond (decide (x<1)) (some (x,true,())) (some (x,decide (x > 31),()))).bind fun z1=>cond z1.2.1 (some 0) (cond (decide ((wrap .i64 (z1.1-1))<0)) none (some (wrap .i64 ((A0n .i64 1 (wrap .i64 (z1.1-1)))-1))))
def b6v:FSem:=⟨[.v QI],[.v QI],b2x⟩
def d4Y:Hints:=⟨[],[(6,[Qn [0,.sv 8 .bool]])],[]⟩
def a1U(x:(Int×Int)):Option Bool:=cond (decide (x.2≥1)) (cond (decide (x.2≤31)) ((b3u x.2).bind fun y1=>cond (decide (y1≤x.1)) ((b2x x.2).bind fun y2=>some (decide (x.1≤y2))) (some false)) (some false)) (some false)
def a3O:FSem:=⟨[.v QI,.v QI],[.v .bool],a1U⟩
def a6X(x:Int):Option Bool:=cond (decide (4≤x)) (some (decide (x≤24))) (some false)
def b2y:FSem:=⟨[.v QI],[.v .bool],a6X⟩
def a4p(s:((List LI)×(Int×(Int×(LI×Z62))))):Option (((List LI)×(Int×(Int×(LI×Z62)))) ⊕ (((List LI)×Z62) ⊕ (Bool×Unit))):=cond (decide (s.2.2.2.2.2.1<s.2.2.2.2.1)) ((m0k s.2.2.2.1 s.2.2.2.2.2.1).bind fun x8=>(a1U (x8,s.2.2.2.2.2.2.1.1)).bind fun y9=>cond (!y9) (some (.inr (Sum.inr ((false,()))))) (some (.inl (s.1,s.2.1,s.2.2.1,s.2.2.2.1,s.2.2.2.2.1,wrap .i64 (s.2.2.2.2.2.1+1),s.2.2.2.2.2.2.1,())))) (some (.inr (Sum.inl (s.1,s.2.1,s.2.2.1,s.2.2.2.2.2.2.1,()))))
def a4q(s:((List LI)×Z62)):Option (((List LI)×Z62) ⊕ Z0):=cond (decide (s.2.2.1<s.2.1)) ((m0k s.1 s.2.2.1).bind fun x6=>(a3i s.2.2.2.1).bind fun y7=>cond ((x6.length:Int) != y7) (some (.inr (Sum.inr ((false,()))))) ((y0s a4p (s.1,s.2.1,s.2.2.1,x6,(x6.length:Int),0,s.2.2.2.1,())).bind fun w10=>match w10 with |.inl a11=>some (.inl (a11.1,a11.2.1,wrap .i64 (a11.2.2.1+1),a11.2.2.2.1,())) |.inr b12=>some (.inr (Sum.inr ((b12.1,())))))) (some (.inr (Sum.inl ())))
def a3j(x:Z11):Option Bool:=(show Option (Bool×Z29)from(a6X x.1).bind fun y1=>cond (!y1) (some (true,x,())) (cond (decide ((x.2.1.length:Int)<1)) (some (true,x,())) (some (decide ((x.2.1.length:Int) > 8),x,())))).bind fun z2=>cond z2.1 (some false) ((show Option (Bool×Z29)from(a3i z2.2.1).bind fun y3=>cond (decide (y3<1)) (some (true,z2.2.1,())) ((a3i z2.2.1).bind fun y4=>some (decide (y4 > 4096),z2.2.1,()))).bind fun z5=>cond z5.1 (some false) ((y0s a4q (z5.2.1.2.1,(z5.2.1.2.1.length:Int),0,z5.2.1,())).bind fun w13=>match w13 with |.inl a14=>some true |.inr b15=>some b15.1))
def a5M:FSem:=⟨[.v Q15],[.v .bool],a3j⟩
def H56:Hints:=⟨[(122,[.sv 32 (.list false QL),33,34,.vp 1 Q15],[Qe 0 [],Qr [.sv 2 .bool]]),(62670,[.sv 32 (.list false QL),33,34,.sv 43 QL,44,45,.vp 1 Q15],[Qe 2 [.sv 32 (.list false QL),33,34,.vp 1 Q15],Qr [.sv 2 .bool]])],[(6,[Qn [.sv 22 .bool,.vp 1 Q15]]),(14,[Qn [.sv 30 .bool,.vp 1 Q15]])],[]⟩
def a1V(x:Z7):Option Bool:=cond (decide (1≤x.1)) (cond (decide (x.1≤1048576)) (cond (decide (1≤x.2.1)) (cond (decide (x.2.1≤8)) ((a6X x.2.2.1).bind fun y1=>some y1) (some false)) (some false)) (some false)) (some false)
def a3P:FSem:=⟨[.v Q12],[.v .bool],a1V⟩
def a6Y(s:(Int×Z13×Int×Int×Unit)):Option ((Int×Z13×Int×Int×Unit) ⊕ Z0):=cond (decide (s.2.2.2.1<s.2.2.1)) ((m0k s.2.1 s.2.2.2.1).bind fun x2=>(show Option (Int×Z13×Int×Int×Z39)from cond (decide (x2.1<0)) (some (s.1,s.2.1,s.2.2.1,s.2.2.2.1,true,x2,())) (cond (decide (x2.1≥s.1)) (some (s.1,s.2.1,s.2.2.1,s.2.2.2.1,true,x2,())) (cond (decide (x2.2.1<0)) (some (s.1,s.2.1,s.2.2.1,s.2.2.2.1,true,x2,())) (cond (decide (x2.2.1≥s.1)) (some (s.1,s.2.1,s.2.2.1,s.2.2.2.1,true,x2,())) (some (s.1,s.2.1,s.2.2.1,s.2.2.2.1,x2.1==x2.2.1,x2,())))))).bind fun z3=>cond z3.2.2.2.2.1 (some (.inr (Sum.inr ((false,()))))) ((show Option (Int×Z13×Z8)from cond (decide (z3.2.2.2.2.2.1.2.2.1<(-1024))) (some (z3.1,z3.2.1,z3.2.2.1,z3.2.2.2.1,true,())) (some (z3.1,z3.2.1,z3.2.2.1,z3.2.2.2.1,decide (z3.2.2.2.2.2.1.2.2.1 > 1024),()))).bind fun z4=>cond z4.2.2.2.2.1 (some (.inr (Sum.inr ((false,()))))) (some (.inl (z4.1,z4.2.1,z4.2.2.1,wrap .i64 (z4.2.2.2.1+1),()))))) (some (.inr (Sum.inl ())))
def a8n(x:(Z13×Int)):Option Bool:=(show Option (Z13×Int×Bool×Unit)from cond (decide (x.2<1)) (some (x.1,x.2,true,())) (cond (decide (x.2 > 8)) (some (x.1,x.2,true,())) (some (x.1,x.2,decide ((x.1.length:Int) > 16),())))).bind fun z1=>cond z1.2.2.1 (some false) ((y0s a6Y (z1.2.1,z1.1,(z1.1.length:Int),0,())).bind fun w5=>match w5 with |.inl a6=>some true |.inr b7=>some b7.1)
def b2Q:FSem:=⟨[.v (.list false Q12),.v QI],[.v .bool],a8n⟩
def d4Z:Hints:=⟨[(58,[1,.sv 18 (.list false Q12),19,20],[Qe 0 [],Qr [.sv 4 .bool]])],[(6,[Qn [.sv 0 (.list false Q12),1,.sv 17 .bool]]),(7474,[Qn [1,.sv 18 (.list false Q12),19,20,.sv 50 .bool,.box 6 Q12,Qp 6 6]]),(7475,[Qn [1,.sv 18 (.list false Q12),19,20,.sv 58 .bool]])],[]⟩
def a6Z(x:a3s):Option Bool:=(a1V x.2.2.1).bind fun y1=>cond y1 (cond (decide (x.2.1≥1)) (cond (decide (x.2.1≤4096)) (cond (decide (x.1≥0)) (cond (decide (x.1≤(wrap .i64 (4194304-x.2.1)))) ((a8n (x.2.2.2.1,x.2.2.1.2.1)).bind fun y2=>some y2) (some false)) (some false)) (some false)) (some false)) (some false)
def b2z:FSem:=⟨[.v Q60],[.v .bool],a6Z⟩
def a2A(s:Z14):Option Z69:=cond (decide (s.2.2.1<s.2.1)) ((m0k s.1 s.2.2.1).bind fun x1=>(show Option Z34 from cond (decide (x1<(-1073741824))) (some (s.1,s.2.1,s.2.2.1,true,())) (some (s.1,s.2.1,s.2.2.1,decide (x1≥1073741824),()))).bind fun z2=>cond z2.2.2.2.1 (some (.inr (Sum.inr ((false,()))))) (some (.inl (z2.1,z2.2.1,wrap .i64 (z2.2.2.1+1),())))) (some (.inr (Sum.inl ())))
def a2v(x:LI):Option Bool:=(y0s a2A (x,(x.length:Int),0,())).bind fun w3=>match w3 with |.inl a4=>some true |.inr b5=>some b5.1
def a9o:FSem:=⟨[.v QL],[.v .bool],a2v⟩
def d5a:Hints:=⟨[(26,[.sv 5 QL,6,7],[Qe 0 [],Qr [.sv 2 .bool]])],[(1689,[Qn [.sv 5 QL,6,7,.sv 16 .bool]])],[]⟩
def a6e(x:Int):Option Bool:=cond (x != 0) (some (x != 1)) (some false)
def a9T:FSem:=⟨[.v QI],[.v .bool],a6e⟩
def a5p(s:Z14):Option Z69:=cond (decide (s.2.2.1<s.2.1)) ((m0k s.1 s.2.2.1).bind fun x2=>(show Option Z34 from cond (decide (x2<(-32768))) (some (s.1,s.2.1,s.2.2.1,true,())) (some (s.1,s.2.1,s.2.2.1,decide (x2≥32768),()))).bind fun z3=>cond z3.2.2.2.1 (some (.inr (Sum.inr ((false,()))))) (some (.inl (z3.1,z3.2.1,wrap .i64 (z3.2.2.1+1),())))) (some (.inr (Sum.inl ())))
def a4A(x:(LI×Int)):Option Bool:=(show Option (LI×(Bool×Unit))from cond (decide ((x.1.length:Int)<1)) (some (x.1,true,())) (cond (decide ((x.1.length:Int) > 32)) (some (x.1,true,())) (cond (decide (x.2<0)) (some (x.1,true,())) (some (x.1,decide (x.2 > 15),()))))).bind fun z1=>cond z1.2.1 (some false) ((y0s a5p (z1.1,(z1.1.length:Int),0,())).bind fun w4=>match w4 with |.inl a5=>some true |.inr b6=>some b6.1)
def a9U:FSem:=⟨[.v QL,.v QI],[.v .bool],a4A⟩
def d5b:Hints:=⟨[(58,[.sv 23 QL,24,25],[Qe 0 [],Qr [.sv 4 .bool]])],[(6,[Qn [.sv 0 QL,.sv 22 .bool]]),(3737,[Qn [.sv 23 QL,24,25,.sv 34 .bool]])],[]⟩
def a7a(s:Z6):Option (Z6 ⊕ Z0):=cond (decide (s.2.1<3)) ((m0k s.1 s.2.1).bind fun x2=>(show Option Z17 from cond (decide (x2<(-64))) (some (s.1,s.2.1,true,())) (some (s.1,s.2.1,decide (x2 > 64),()))).bind fun z3=>cond z3.2.2.1 (some (.inr (Sum.inr ((false,()))))) (some (.inl (z3.1,wrap .i64 (z3.2.1+1),())))) (some (.inr (Sum.inl ())))
def a8o(x:(Int×LI)):Option Bool:=(show Option (Bool×(LI×Unit))from cond (decide (x.1<2)) (some (true,x.2,())) (some (decide (x.1 > 1024),x.2,()))).bind fun z1=>cond z1.1 (some false) ((y0s a7a (z1.2.1,0,())).bind fun w4=>match w4 with |.inl a5=>some true |.inr b6=>some b6.1)
def b2R:FSem:=⟨[.v QI,.v (.arr 3 QI)],[.v .bool],a8o⟩
def d5c:Hints:=⟨[(58,[.sv 13 (.arr 3 QI),14],[Qe 0 [],Qr [.sv 4 .bool]])],[(6,[Qn [.sv 12 .bool,.vp 3 (.arr 3 QI)]]),(3737,[Qn [.sv 13 (.arr 3 QI),14,.sv 22 .bool]])],[]⟩
def a7b(x:(Int×Int×Unit)):Option Bool:=cond (decide (x.1≥1)) (cond (decide (x.1≤32)) (cond (decide (x.2.1≥0)) (some (decide (x.2.1≤8))) (some false)) (some false)) (some false)
def b2A:FSem:=⟨[.v Q3],[.v .bool],a7b⟩
def a6f(s:(Z4×Int×Int×Unit)):Option ((Z4×Int×Int×Unit) ⊕ Z0):=cond (decide (s.2.2.1<s.2.1)) ((m0k s.1 s.2.2.1).bind fun x1=>(a7b x1).bind fun y2=>cond (!y2) (some (.inr (Sum.inr ((false,()))))) (some (.inl (s.1,s.2.1,wrap .i64 (s.2.2.1+1),())))) (some (.inr (Sum.inl ())))
def a7s(x:Z4):Option Bool:=cond (decide ((x.length:Int) > 3)) (some false) ((y0s a6f (x,(x.length:Int),0,())).bind fun w3=>match w3 with |.inl a4=>some true |.inr b5=>some b5.1)
def b1E:FSem:=⟨[.v (.list false Q3)],[.v .bool],a7s⟩
def d5d:Hints:=⟨[(58,[.sv 8 (.list false Q3),9,10],[Qe 0 [],Qr [.sv 2 .bool]])],[],[]⟩
def a7R(x:(Int×b4J)):Option Bool:=(show Option (Int×c2T)from cond (x.1==0) (some (x.2.2,x.1,x.1==0,x.2.1,())) (some (x.2.2,x.1,x.1==1,x.2.1,()))).bind fun z1=>cond z1.2.2.1 (some true) (cond (z1.2.1==2) (cond (decide (z1.2.2.2.1.2.2.1≥0)) (cond (decide (z1.2.2.2.1.2.2.1≤4)) (some (decide (z1.2.2.2.1.2.2.1≤z1.1))) (some false)) (some false)) (cond (z1.2.1==3) ((a4A (z1.2.2.2.1.2.2.2.2.2.1,z1.2.2.2.1.2.2.2.1)).bind fun y2=>cond y2 (some (decide ((z1.2.2.2.1.2.2.2.2.2.1.length:Int)≤z1.1))) (some false)) (cond (z1.2.1==4) ((a4A (z1.2.2.2.1.2.2.2.2.2.1,z1.2.2.2.1.2.2.2.1)).bind fun y3=>cond y3 (cond (decide ((z1.2.2.2.1.2.2.2.2.2.1.length:Int)≤z1.1)) ((a8o (z1.2.2.2.1.2.2.2.2.1,z1.2.2.2.1.2.2.2.2.2.2.1)).bind fun y4=>some y4) (some false)) (some false)) (cond (z1.2.1==5) (cond (decide ((z1.2.2.2.1.2.2.2.2.2.2.2.1.length:Int) > 0)) ((a7s z1.2.2.2.1.2.2.2.2.2.2.2.1).bind fun y5=>some y5) (some false)) (some false)))))
def b4e:FSem:=⟨[.v QI,.v Q42,.v QI],[.v .bool],a7R⟩
def d5e:Hints:=⟨[],[(26,[Qn [2,7,.sv 8 .bool,.vp 4 Q42]])],[]⟩
def a4B(x:b4J):Option Int:=cond (x.1.1==0) (some 1) (cond (x.1.1==1) (some x.2) (cond (x.1.1==2) (some x.1.2.2.1) ((show Option d1J from cond (x.1.1==3) (some (x.1.1==3,x.1,())) (some (x.1.1==4,x.1,()))).bind fun z1=>cond z1.1 (some (z1.2.1.2.2.2.2.2.1.length:Int)) (some 0))))
def a9V:FSem:=⟨[.v Q42,.v QI],[.v QI],a4B⟩
def d5f:Hints:=⟨[],[(1727,[Qn [.sv 16 .bool,.vp 2 Q42]])],[]⟩
def a1g(x:LI):Option LI:=x0e x
def a1c:FSem:=⟨[.v QL],[.o QI],a1g⟩
def c9t:Cx:=b3t [] [] [0,2] []
theorem d2P(x):A0j c9t QH Tryz.f183 a1c.ps a1c.rs x=a1c.F x:=Eq.trans (show _=w0u x by kernel_rfl) (A0x x)
def a2w(x:LI):Option LI:=x0e x
def a1s:FSem:=⟨[.v QL],[.v QL],a2w⟩
def c6Z:Cx:=b3t [] [] [0,2] []
theorem d1L(x):A0j c6Z QH Tryz.f183 a1s.ps a1s.rs x=a1s.F x:=Eq.trans (show _=w0u x by kernel_rfl) (A0x x)
def a1o(x:Z4):Option Z4:=x0e x
def a1f:FSem:=⟨[.v (.list false Q3)],[.v (.list false Q3)],a1o⟩
def c7a:Cx:=b3t [] [] [0,2] []
theorem d1M(x):A0j c7a QH Tryz.f251 a1f.ps a1f.rs x=a1f.F x:=Eq.trans (show _=w0u x by kernel_rfl) (A0x x)
def a6g(x:(Int×a1X)):Option a1X:=(show Option b2w from(show Option ((a1X×b2w) ⊕ (b2w ⊕ (a1X×b2w)))from cond (x.1==2) (some (Sum.inr (Sum.inl ((0,0,0,0,0,[],a02 3 0,[],[],(0,[],()),[],()),(x.1,0,x.2.2.2.1,0,0,[],a02 3 0,[],[],(0,[],()),[],()),())))) (cond (x.1==4) (some (Sum.inl ((0,0,0,0,0,[],a02 3 0,[],[],(0,[],()),[],()),(x.1,0,0,0,x.2.2.2.2.2.1,[],x.2.2.2.2.2.2.2.1,[],[],(0,[],()),[],()),x.2,()))) (cond (x.1==3) (some (Sum.inl ((0,0,0,0,0,[],a02 3 0,[],[],(0,[],()),[],()),(x.1,0,0,0,0,[],a02 3 0,[],[],(0,[],()),[],()),x.2,()))) (cond (x.1==5) (some (Sum.inr (Sum.inr (((0,0,0,0,0,[],a02 3 0,[],[],(0,[],()),[],()),(x.1,0,0,0,0,[],a02 3 0,[],[],(0,[],()),[],()),x.2,()))))) (some (Sum.inr (Sum.inl ((0,0,0,0,0,[],a02 3 0,[],[],(0,[],()),[],()),(x.1,0,0,0,0,[],a02 3 0,[],[],(0,[],()),[],()),())))))))).bind fun z1=>match z1 with |.inl a2=>((a2w a2.2.2.1.2.2.2.2.2.1).bind fun y4=>some (a2.1,(a2.2.1.1,a2.2.1.2.1,a2.2.1.2.2.1,a2.2.2.1.2.2.2.1,a2.2.1.2.2.2.2.1,y4,a2.2.1.2.2.2.2.2.2),())) |.inr b3=>(match b3 with |.inl a5=>some (a5.1,a5.2.1,()) |.inr b6=>((a1o b6.2.2.1.2.2.2.2.2.2.2.1).bind fun y7=>some (b6.1,(b6.2.1.1,b6.2.1.2.1,b6.2.1.2.2.1,b6.2.1.2.2.2.1,b6.2.1.2.2.2.2.1,b6.2.1.2.2.2.2.2.1,b6.2.1.2.2.2.2.2.2.1,y7,b6.2.1.2.2.2.2.2.2.2.2),())))).bind fun z8=>some z8.2.1
def b3v:FSem:=⟨[.v QI,.v Q42],[.v Q42],a6g⟩
def d5g:Hints:=⟨[],[(7,[Qn [.box 4 Q42,.box 5 Q42,Qp 4 4,Qp 5 5]]),(232,[Qn [.box 4 Q42,.box 5 Q42,.vp 3 Q42,Qp 4 4,Qp 5 5],Qe 0 [.box 4 Q42,.box 5 Q42,Qp 4 4,Qp 5 5],Qe 4 [.box 4 Q42,.box 5 Q42,.vp 3 Q42,Qp 4 4,Qp 5 5]])],[(8,[.v,.v,.v,.v,.q,.w [0,5],.x,.x]),(9,[.v,.v,.v,.v,.v,.q,.w [0,5],.x,.x])]⟩
def b1F(x:a1X):Option Bool:=(a6g (x.1,x)).bind fun y1=>cond (x.2.2.1==y1.2.2.1) (cond (x.2.2.2.1==y1.2.2.2.1) (cond (x.2.2.2.2.1==y1.2.2.2.2.1) (cond (eqT (.arr 3 (.int .i64)) x.2.2.2.2.2.2.1 y1.2.2.2.2.2.2.1) (cond ((x.2.2.2.2.2.1.length:Int)==(y1.2.2.2.2.2.1.length:Int)) (some ((x.2.2.2.2.2.2.2.1.length:Int)==(y1.2.2.2.2.2.2.2.1.length:Int))) (some false)) (some false)) (some false)) (some false)) (some false)
def b7O:FSem:=⟨[.v Q42],[.v .bool],b1F⟩
def a7t(x:(Int×Int)):Option Bool:=cond (decide (1≤x.1)) (cond (decide (x.1≤4096)) (cond (decide (0≤x.2)) (some (decide (x.2≤x.1))) (some false)) (some false)) (some false)
def b1G:FSem:=⟨[.v QI,.v QI],[.v .bool],a7t⟩
def a6F(s:Z15):Option (Z15 ⊕ (LI×Unit)):=cond (decide (s.1<0)) none (cond (decide ((s.2.2.1.length:Int)<(A0n .i64 1 s.1))) (cond (lim ((a01 s.2.2.1)+1)) (some (.inl (s.1,s.2.1,a03 s.2.2.1 [s.2.1],()))) none) (some (.inr (s.2.2.1,()))))
def a2U(x:(Int×Int×Int)):Option LI:=(show Option Z22 from(a7t (x.2.1,x.2.2)).bind fun y1=>cond (!y1) (some (x.1,x.2.1,x.2.2,true,())) (cond (decide (x.1<0)) (some (x.1,x.2.1,x.2.2,true,())) (some (x.1,x.2.1,x.2.2,decide (x.1 > 8),())))).bind fun z2=>cond z2.2.2.2.1 (some []) (cond (decide (z2.1<0)) none ((show Option Z22 from cond (decide (z2.1<0)) none (cond ((A0n .i64 (A0o .i64 z2.2.1 z2.1) z2.1) != z2.2.1) (some (z2.1,z2.2.2.1,A0o .i64 z2.2.1 z2.1,true,())) (some (z2.1,z2.2.2.1,A0o .i64 z2.2.1 z2.1,decide ((A0o .i64 z2.2.1 z2.1)<z2.2.2.1),())))).bind fun z3=>cond z3.2.2.2.1 (some []) ((y0s a6F (z3.1,z3.2.2.1,[wrap .i64 (z3.2.2.1-z3.2.1)],())).bind fun w4=>some w4.1)))
def a5g:FSem:=⟨[.v QI,.v QI,.v QI],[.o QI],a2U⟩
def d5h:Hints:=⟨[(252,[0,7,.own 8 8 QI],[Qe 0 [.own 8 8 QI]])],[(6,[Qn [0,1,2,.sv 20 .bool]]),(30,[Qn [0,2,7,.sv 33 .bool]])],[]⟩
def a4r(s:Z14):Option Z69:=cond (decide (s.2.2.1<s.2.1)) ((m0k s.1 s.2.2.1).bind fun x3=>(show Option Z34 from cond (decide (x3<0)) (some (s.1,s.2.1,s.2.2.1,x3 != 31,())) (cond (decide (x3 > 25)) (some (s.1,s.2.1,s.2.2.1,x3 != 31,())) (some (s.1,s.2.1,s.2.2.1,false,())))).bind fun z4=>cond z4.2.2.2.1 (some (.inr (Sum.inr ((false,()))))) (some (.inl (z4.1,z4.2.1,wrap .i64 (z4.2.2.1+1),())))) (some (.inr (Sum.inl ())))
def a9b(x:(Z5×Int×Int)):Option Bool:=(a2U (x.1.1,x.2.1,x.2.2)).bind fun y1=>(show Option (Bool×Z18)from cond ((y1.length:Int)==0) (some (true,x.1,())) (some ((x.1.2.1.length:Int) != (y1.length:Int),x.1,()))).bind fun z2=>cond z2.1 (some false) ((y0s a4r (z2.2.1.2.1,(z2.2.1.2.1.length:Int),0,())).bind fun w5=>match w5 with |.inl a6=>some true |.inr b7=>some b7.1)
def b4M:FSem:=⟨[.v Q11,.v QI,.v QI],[.v .bool],a9b⟩
def d5i:Hints:=⟨[(122,[.sv 27 QL,28,29],[Qe 0 [],Qr [.sv 6 .bool]])],[(14,[Qn [.sv 25 .bool,.vp 3 Q11]]),(7833,[Qn [.sv 27 QL,28,29,.sv 42 .bool]])],[]⟩
def a9W(x:b4J):Option Bool:=(show Option c2T from cond (decide (x.2<1)) (some (x.2,true,x.1,())) (cond (decide (x.2 > 4096)) (some (x.2,true,x.1,())) ((a7R (x.1.1,x.1,x.2)).bind fun y1=>cond (!y1) (some (x.2,true,x.1,())) ((b1F x.1).bind fun y2=>some (x.2,!y2,x.1,()))))).bind fun z3=>cond z3.2.1 (some false) ((show Option c2T from cond (decide (z3.2.2.1.2.1<0)) (some (z3.1,true,z3.2.2.1,())) (cond (decide (z3.2.2.1.2.1 > 30)) (some (z3.1,true,z3.2.2.1,())) (cond (z3.2.2.1.1==0) (some (z3.1,z3.2.2.1.2.1 != 0,z3.2.2.1,())) (some (z3.1,false,z3.2.2.1,()))))).bind fun z4=>cond z4.2.1 (some false) ((a4B (z4.2.2.1,z4.1)).bind fun y5=>(show Option (Int×c2T)from cond ((z4.2.2.1.2.2.2.2.2.2.2.2.1.length:Int) != y5) (some (z4.1,y5,true,z4.2.2.1,())) ((a2v z4.2.2.1.2.2.2.2.2.2.2.2.1).bind fun y6=>cond (!y6) (some (z4.1,y5,true,z4.2.2.1,())) ((a2v z4.2.2.1.2.2.2.2.2.2.2.2.2.2.1).bind fun y7=>some (z4.1,y5,!y7,z4.2.2.1,())))).bind fun z8=>cond z8.2.2.1 (some false) ((a6e z8.2.2.2.1.1).bind fun y9=>cond (!y9) (cond ((z8.2.2.2.1.2.2.2.2.2.2.2.2.2.2.1.length:Int)==0) (cond (z8.2.2.2.1.2.2.2.2.2.2.2.2.2.1.1==0) (some ((z8.2.2.2.1.2.2.2.2.2.2.2.2.2.1.2.1.length:Int)==0)) (some false)) (some false)) (cond ((z8.2.2.2.1.2.2.2.2.2.2.2.2.2.2.1.length:Int)==(wrap .i64 (z8.1-z8.2.1))) ((a9b (z8.2.2.2.1.2.2.2.2.2.2.2.2.2.1,z8.1,z8.2.1)).bind fun y10=>some y10) (some false)))))
def b6P:FSem:=⟨[.v Q42,.v QI],[.v .bool],a9W⟩
def d5j:Hints:=⟨[],[(6,[Qn [1,.sv 24 .bool,.vp 2 Q42]]),(14,[Qn [1,.sv 42 .bool,.vp 2 Q42]]),(62,[Qn [1,5,.sv 62 .bool,.vp 2 Q42]])],[]⟩
def b4f(s:Z14):Option Z69:=cond (decide (s.2.2.1<s.2.1)) ((m0k s.1 s.2.2.1).bind fun x1=>(show Option Z34 from cond (decide (x1<(-1073741824))) (some (s.1,s.2.1,s.2.2.1,true,())) (some (s.1,s.2.1,s.2.2.1,decide (x1≥1073741824),()))).bind fun z2=>cond z2.2.2.2.1 (some (.inr (Sum.inr ((false,()))))) (some (.inl (z2.1,z2.2.1,wrap .i64 (z2.2.2.1+1),())))) (some (.inr (Sum.inl ())))
def a2L(x:LI):Option Bool:=(y0s b4f (x,(x.length:Int),0,())).bind fun w3=>match w3 with |.inl a4=>some true |.inr b5=>some b5.1
def b3w:FSem:=⟨[.v QL],[.v .bool],a2L⟩
def d5k:Hints:=⟨[(26,[.sv 5 QL,6,7],[Qe 0 [],Qr [.sv 2 .bool]])],[(1689,[Qn [.sv 5 QL,6,7,.sv 16 .bool]])],[]⟩
def a1m(x:(Int×LI)):Option (Int×LI):=(m0k x.2 (wrap .i64 ((x.2.length:Int)-x.1))).bind fun x1=>some (x1,x.2)
def b4g:FSem:=⟨[.v QI,.r false (.b QL)],[.v QI],a1m⟩
def a9p(x:(LI×Int)):Option Int:=cond (x.2==1) ((a1m (1,x.1)).bind fun y1=>some y1.1) (cond (x.2==2) ((a1m (1,x.1)).bind fun y2=>(a1m (2,y2.2)).bind fun y3=>some (wrap .i64 ((wrap .i64 (2*y2.1))-y3.1))) (cond (x.2==3) ((a1m (1,x.1)).bind fun y4=>(a1m (2,y4.2)).bind fun y5=>(a1m (3,y5.2)).bind fun y6=>some (wrap .i64 ((wrap .i64 ((wrap .i64 (3*y4.1))-(wrap .i64 (3*y5.1))))+y6.1))) (cond (x.2==4) ((a1m (1,x.1)).bind fun y7=>(a1m (2,y7.2)).bind fun y8=>(a1m (3,y8.2)).bind fun y9=>(a1m (4,y9.2)).bind fun y10=>some (wrap .i64 ((wrap .i64 ((wrap .i64 ((wrap .i64 (4*y7.1))-(wrap .i64 (6*y8.1))))+(wrap .i64 (4*y9.1))))-y10.1))) (some 0))))
def b6w:FSem:=⟨[.v QL,.v QI],[.v QI],a9p⟩
def a7F(s:Z58):Option (Z58 ⊕ Z48):=cond (decide (s.2.2.2.1<s.2.2.1)) ((m0k s.2.1 s.2.2.2.1).bind fun x5=>(a9p (s.2.2.2.2.1,s.1)).bind fun y6=>(a2L [wrap .i64 (x5+y6)]).bind fun y7=>cond (!y7) (some (.inr (Sum.inr ((6,[],()))))) (cond (lim ((a01 s.2.2.2.2.1)+1)) (some (.inl (s.1,s.2.1,s.2.2.1,wrap .i64 (s.2.2.2.1+1),a03 s.2.2.2.2.1 [wrap .i64 (x5+y6)],()))) none)) (some (.inr (Sum.inl (s.2.2.2.2.1,()))))
def a9X(x:Z10):Option (LI×Int):=(show Option Z49 from cond (decide (x.2.2<0)) (some (x.1,x.2.1,x.2.2,true,())) (cond (decide (x.2.2 > 4)) (some (x.1,x.2.1,x.2.2,true,())) (some (x.1,x.2.1,x.2.2,(x.1.length:Int) != x.2.2,())))).bind fun z1=>cond z1.2.2.2.1 (some ([],1)) ((show Option Z49 from(a2L z1.1).bind fun y2=>cond (!y2) (some (z1.1,z1.2.1,z1.2.2.1,true,())) ((a2L z1.2.1).bind fun y3=>some (z1.1,z1.2.1,z1.2.2.1,!y3,()))).bind fun z4=>cond z4.2.2.2.1 (some ([],6)) (cond (lim (a01 z4.1)) ((y0s a7F (z4.2.2.1,z4.2.1,(z4.2.1.length:Int),0,z4.1,())).bind fun w8=>match w8 with |.inl a9=>some (a9.1,0) |.inr b10=>some (b10.2.1,b10.1)) none))
def b6Q:FSem:=⟨[.v QL,.v QL,.v QI],[.o QI,.v QI],a9X⟩
def d5l:Hints:=⟨[(250,[2,.sv 34 QL,35,36,.own 8 8 QI],[Qe 0 [.own 8 8 QI],Qr [7,.own 6 6 QI]])],[(6,[Qn [.sv 0 QL,.sv 1 QL,2,.sv 23 .bool]]),(14,[Qn [.sv 0 QL,.sv 1 QL,2,.sv 31 .bool]])],[]⟩
def a5h(x:Int):Option Bool:=cond (decide (x≥(-1073741824))) (some (decide (x<1073741824))) (some false)
def a9q:FSem:=⟨[.v QI],[.v .bool],a5h⟩
def a2Y(s:Z14):Option Z69:=cond (decide (s.2.2.1<s.2.1)) ((m0k s.1 s.2.2.1).bind fun x1=>(a5h x1).bind fun y2=>cond (!y2) (some (.inr (Sum.inr ((false,()))))) (some (.inl (s.1,s.2.1,wrap .i64 (s.2.2.1+1),())))) (some (.inr (Sum.inl ())))
def a2B(x:LI):Option Bool:=(y0s a2Y (x,(x.length:Int),0,())).bind fun w3=>match w3 with |.inl a4=>some true |.inr b5=>some b5.1
def a6G:FSem:=⟨[.v QL],[.v .bool],a2B⟩
def d5m:Hints:=⟨[(26,[.sv 5 QL,6,7],[Qe 0 [],Qr [.sv 2 .bool]])],[],[]⟩
def a2Z(s:Z73):Option (Z73 ⊕ (Int×Int×Unit)):=cond (decide (s.2.2.2.2.2.1<s.2.2.2.2.1)) ((m0k s.2.2.2.1 s.2.2.2.2.2.1).bind fun x1=>cond (decide ((wrap .i64 ((wrap .i64 ((s.1.length:Int)-1))-s.2.2.2.2.2.1))<0)) (some (.inr (s.2.1,s.2.2.1,()))) ((m0k s.1 (wrap .i64 ((wrap .i64 ((s.1.length:Int)-1))-s.2.2.2.2.2.1))).bind fun x2=>some (.inl (s.1,s.2.1,wrap .i64 (s.2.2.1+(wrap .i64 (x1*x2))),s.2.2.2.1,s.2.2.2.2.1,wrap .i64 (s.2.2.2.2.2.1+1),())))) (some (.inr (s.2.1,s.2.2.1,())))
def a4C(x:Z10):Option Int:=(y0s a2Z (x.1,x.2.2,0,x.2.1,(x.2.1.length:Int),0,())).bind fun w3=>cond (decide (w3.1<0)) none (some (A0o .i64 w3.2.1 w3.1))
def a9D:FSem:=⟨[.v QL,.v QL,.v QI],[.v QI],a4C⟩
def d5n:Hints:=⟨[(58,[.sv 0 QL,2,7,.sv 11 QL,12,13],[Qe 0 [2,7]])],[],[]⟩
def a6H(s:(LI×Z58)):Option ((LI×Z58) ⊕ Z48):=cond (decide (s.2.2.2.2.1<s.2.2.2.1)) ((m0k s.2.2.1 s.2.2.2.2.1).bind fun x6=>(a4C (s.2.2.2.2.2.1,s.1,s.2.1)).bind fun y7=>(a5h (wrap .i64 (y7+x6))).bind fun y8=>cond (!y8) (some (.inr (Sum.inr ((6,[],()))))) (cond (lim ((a01 s.2.2.2.2.2.1)+1)) (some (.inl (s.1,s.2.1,s.2.2.1,s.2.2.2.1,wrap .i64 (s.2.2.2.2.1+1),a03 s.2.2.2.2.2.1 [wrap .i64 (y7+x6)],()))) none)) (some (.inr (Sum.inl (s.2.2.2.2.2.1,()))))
def a7c(x:(LI×Z10)):Option (LI×Int):=(show Option (LI×Z49)from(a4A (x.2.2.1,x.2.2.2)).bind fun y1=>cond (!y1) (some (x.1,x.2.1,x.2.2.1,x.2.2.2,true,())) (some (x.1,x.2.1,x.2.2.1,x.2.2.2,(x.1.length:Int) != (x.2.2.1.length:Int),()))).bind fun z2=>cond z2.2.2.2.2.1 (some ([],1)) ((show Option (LI×Z49)from(a2B z2.1).bind fun y3=>cond (!y3) (some (z2.1,z2.2.1,z2.2.2.1,z2.2.2.2.1,true,())) ((a2B z2.2.1).bind fun y4=>some (z2.1,z2.2.1,z2.2.2.1,z2.2.2.2.1,!y4,()))).bind fun z5=>cond z5.2.2.2.2.1 (some ([],6)) (cond ((decide (0≤(wrap .i64 ((z5.1.length:Int)+(z5.2.1.length:Int)))))&&(lim (a00 (wrap .i64 ((z5.1.length:Int)+(z5.2.1.length:Int)))))) (cond (lim (0+(a01 z5.1))) ((y0s a6H (z5.2.2.1,z5.2.2.2.1,z5.2.1,(z5.2.1.length:Int),0,a03 [] z5.1,())).bind fun w9=>match w9 with |.inl a10=>some (a10.1,0) |.inr b11=>some (b11.2.1,b11.1)) none) none))
def b6x:FSem:=⟨[.v QL,.v QL,.v QL,.v QI],[.o QI,.v QI],a7c⟩
def d5o:Hints:=⟨[(506,[.sv 2 QL,3,.sv 42 QL,43,44,.own 10 10 QI],[Qe 0 [.own 10 10 QI],Qr [9,.own 8 8 QI]])],[(6,[Qn [.sv 0 QL,.sv 1 QL,.sv 2 QL,3,.sv 24 .bool]]),(14,[Qn [.sv 0 QL,.sv 1 QL,.sv 2 QL,3,.sv 32 .bool]])],[]⟩
def a7u(x:Int):Option Bool:=cond (decide (x≥(-1073741824))) (some (decide (x<1073741824))) (some false)
def b1H:FSem:=⟨[.v QI],[.v .bool],a7u⟩
def a3Y(s:Z14):Option Z69:=cond (decide (s.2.2.1<s.2.1)) ((m0k s.1 s.2.2.1).bind fun x1=>(a7u x1).bind fun y2=>cond (!y2) (some (.inr (Sum.inr ((false,()))))) (some (.inl (s.1,s.2.1,wrap .i64 (s.2.2.1+1),())))) (some (.inr (Sum.inl ())))
def a4s(x:LI):Option Bool:=(y0s a3Y (x,(x.length:Int),0,())).bind fun w3=>match w3 with |.inl a4=>some true |.inr b5=>some b5.1
def a8p:FSem:=⟨[.v QL],[.v .bool],a4s⟩
def d5p:Hints:=⟨[(26,[.sv 5 QL,6,7],[Qe 0 [],Qr [.sv 2 .bool]])],[],[]⟩
def a3Z(s:(LI×(Int×Int×Z16))):Option ((LI×(Int×Int×Z16)) ⊕ (Int×Unit)):=cond (decide (s.2.2.2.2.2.1<3)) ((m0k s.2.2.2.2.1 s.2.2.2.2.2.1).bind fun x1=>cond (decide ((wrap .i64 ((wrap .i64 ((wrap .i64 (s.2.1-s.2.2.1))-1))+s.2.2.2.2.2.1))≥0)) ((m0k s.1 (wrap .i64 ((wrap .i64 ((wrap .i64 (s.2.1-s.2.2.1))-1))+s.2.2.2.2.2.1))).bind fun x2=>some (.inl (s.1,s.2.1,s.2.2.1,wrap .i64 (s.2.2.2.1+(wrap .i64 (x1*x2))),s.2.2.2.2.1,wrap .i64 (s.2.2.2.2.2.1+1),()))) (some (.inl (s.1,s.2.1,s.2.2.1,s.2.2.2.1,s.2.2.2.2.1,wrap .i64 (s.2.2.2.2.2.1+1),())))) (some (.inr (s.2.2.2.1,())))
def a4t(x:(LI×Z2)):Option Int:=(y0s a3Z (x.1,x.2.1,x.2.2.1,0,x.2.2.2,0,())).bind fun w3=>some (A0o .i64 w3.1 6)
def b1k:FSem:=⟨[.v QL,.v QI,.v QI,.v (.arr 3 QI)],[.v QI],a4t⟩
def d5q:Hints:=⟨[(58,[.sv 0 QL,1,2,9,.sv 13 (.arr 3 QI),14],[Qe 0 [9]])],[],[]⟩
def a8q(s:Z84):Option (Z84 ⊕ Z48):=cond (decide (s.2.2.2.1<s.2.2.1)) ((m0k s.2.1 s.2.2.2.1).bind fun x3=>(a4t (s.2.2.2.2.1,s.2.2.2.1,s.1,s.2.2.2.2.2.1)).bind fun y4=>(a7u (wrap .i64 (x3+y4))).bind fun y5=>cond (!y5) (some (.inr (Sum.inr ((6,[],()))))) (cond (lim ((a01 s.2.2.2.2.1)+1)) (some (.inl (s.1,s.2.1,s.2.2.1,wrap .i64 (s.2.2.2.1+1),a03 s.2.2.2.2.1 [wrap .i64 (x3+y4)],s.2.2.2.2.2.1,()))) none)) (some (.inr (Sum.inl (s.2.2.2.2.1,()))))
def b1I(x:(LI×(Int×LI))):Option (LI×Int):=(a8o (x.2.1,x.2.2)).bind fun y1=>cond (!y1) (some ([],1)) ((a4s x.1).bind fun y2=>cond (!y2) (some ([],6)) (cond ((decide (0≤(x.1.length:Int)))&&(lim (a00 (x.1.length:Int)))) ((y0s a8q (x.2.1,x.1,(x.1.length:Int),0,[],x.2.2,())).bind fun w6=>match w6 with |.inl a7=>some (a7.1,0) |.inr b8=>some (b8.2.1,b8.1)) none))
def b7P:FSem:=⟨[.v QL,.v QI,.v (.arr 3 QI)],[.o QI,.v QI],b1I⟩
def d5r:Hints:=⟨[(250,[1,.sv 22 QL,23,24,.own 8 8 QI,.vp 5 (.arr 3 QI)],[Qe 0 [.own 8 8 QI],Qr [7,.own 6 6 QI]])],[],[]⟩
def a6h(x:Int):Option Bool:=cond (decide (x≥(-1073741824))) (some (decide (x<1073741824))) (some false)
def a9Y:FSem:=⟨[.v QI],[.v .bool],a6h⟩
def a3t(s:Z14):Option Z69:=cond (decide (s.2.2.1<s.2.1)) ((m0k s.1 s.2.2.1).bind fun x1=>(a6h x1).bind fun y2=>cond (!y2) (some (.inr (Sum.inr ((false,()))))) (some (.inl (s.1,s.2.1,wrap .i64 (s.2.2.1+1),())))) (some (.inr (Sum.inl ())))
def a5q(x:LI):Option Bool:=(y0s a3t (x,(x.length:Int),0,())).bind fun w3=>match w3 with |.inl a4=>some true |.inr b5=>some b5.1
def a9Z:FSem:=⟨[.v QL],[.v .bool],a5q⟩
def d5s:Hints:=⟨[(26,[.sv 5 QL,6,7],[Qe 0 [],Qr [.sv 2 .bool]])],[],[]⟩
def a9c(x:(Int×Int×Unit)):Option (Z24×Int):=(a7b x).bind fun y1=>cond (!y1) none (cond ((decide (0≤x.1))&&((decide (x.1≤x.1))&&(lim (a00 x.1)))) (cond ((decide (0≤x.1))&&((decide (x.1≤x.1))&&(lim (a00 x.1)))) (some ((x.2.1,a02 (a00 x.1) 0,a02 (a00 x.1) 0,()),0)) none) none)
def b4N:FSem:=⟨[.v Q3],[.b Q17,.v QI],a9c⟩
def d5t:Hints:=⟨[],[],[(3,[.v,.v,.v,.v,.q,.v,.v,.q,.x,.x,.x,.x])]⟩
def a5r(x:Int):Option Int:=some (v0s (v0r x (-1073741824)) 1073741823)
def b0A:FSem:=⟨[.v QI],[.v QI],a5r⟩
def a2X(s:Z87):Option (Z87 ⊕ Z63):=cond (decide (s.2.2.1<s.2.1)) (cond ((decide (0≤s.2.2.1))&&(decide (s.2.2.1<(s.2.2.2.1.2.1.length:Int)))) (cond ((decide (0≤s.2.2.1))&&(decide (s.2.2.1<(s.2.2.2.1.2.2.1.length:Int)))) (some (.inl (wrap .i64 (s.1+(wrap .i64 ((a04 s.2.2.2.1.2.1 (a00 s.2.2.1) 0)*(a04 s.2.2.2.1.2.2.1 (a00 s.2.2.1) 0)))),s.2.1,wrap .i64 (s.2.2.1+1),s.2.2.2.1,()))) none) none) (some (.inr (s.1,s.2.2.2.1,())))
def a1Y(x:Z24):Option Z42:=(y0s a2X (0,(x.2.1.length:Int),0,x,())).bind fun w1=>(a5r (A0o .i64 w1.1 16)).bind fun y2=>some (y2,w1.2.1)
def a4c:FSem:=⟨[.r false (.b Q17)],[.v QI],a1Y⟩
def d5u:Hints:=⟨[(58,[3,10,11,.box pinned Q17,Qp 0 pinned,.ref 9 pinned [.snd,.fst]],[Qe 0 [3,.box pinned Q17]])],[],[]⟩
def a2t(s:(Int×Z87)):Option ((Int×Z87) ⊕ Z63):=cond (decide (s.2.2.2.1<s.2.2.1)) (cond ((decide (0≤s.2.2.2.1))&&(decide (s.2.2.2.1<(s.2.2.2.2.1.2.2.1.length:Int)))) (cond ((decide (0≤s.2.2.2.1))&&(decide (s.2.2.2.1<(s.2.2.2.2.1.2.1.length:Int)))) ((show Option (Int×Int×Int×Z87)from cond (decide ((a04 s.2.2.2.2.1.2.2.1 (a00 s.2.2.2.1) 0) > 0)) (some (s.1,s.2.1,s.2.2.2.1,wrap .i64 ((a04 s.2.2.2.2.1.2.1 (a00 s.2.2.2.1) 0)+s.2.1),s.2.2.1,s.2.2.2.1,s.2.2.2.2.1,())) (cond (decide ((a04 s.2.2.2.2.1.2.2.1 (a00 s.2.2.2.1) 0)<0)) (some (s.1,s.2.1,s.2.2.2.1,wrap .i64 ((a04 s.2.2.2.2.1.2.1 (a00 s.2.2.2.1) 0)-s.2.1),s.2.2.1,s.2.2.2.1,s.2.2.2.2.1,())) (some (s.1,s.2.1,s.2.2.2.1,a04 s.2.2.2.2.1.2.1 (a00 s.2.2.2.1) 0,s.2.2.1,s.2.2.2.1,s.2.2.2.2.1,())))).bind fun z4=>cond ((decide (0≤z4.2.2.1))&&(decide (z4.2.2.1<(z4.2.2.2.2.2.2.1.2.1.length:Int)))) (some (.inl (z4.1,z4.2.1,z4.2.2.2.2.1,wrap .i64 (z4.2.2.2.2.2.1+1),(z4.2.2.2.2.2.2.1.1,a18 z4.2.2.2.2.2.2.1.2.1 (a00 z4.2.2.1) (v0s (v0r z4.2.2.2.1 (-1048576)) 1048576),z4.2.2.2.2.2.2.1.2.2),()))) none) none) none) (some (.inr (s.1,s.2.2.2.2.1,())))
def a3a(x:(Z24×Int)):Option Z24:=(a5r x.2).bind fun y1=>(show Option Z77 from(a1Y x.1).bind fun y2=>cond (decide (y1 > y2.1)) (cond (decide (y2.2.1<0)) none (some (y1,A0n .i64 1 y2.2.1,y2.2,()))) (cond (decide (y1<y2.1)) (cond (decide (y2.2.1<0)) none (some (y1,wrap .i64 (0-(A0n .i64 1 y2.2.1)),y2.2,()))) (some (y1,0,y2.2,())))).bind fun z3=>(y0s a2t (z3.1,z3.2.1,(z3.2.2.1.2.2.1.length:Int),0,z3.2.2.1,())).bind fun w5=>cond (decide (1≤(w5.2.1.2.2.1.length:Int))) (cond (decide (0<(a01 (p0h w5.2.1.2.2.1 1 ((a01 w5.2.1.2.2.1)-1) w5.2.1.2.2.1):Int))) (some (w5.2.1.1,w5.2.1.2.1,a18 (p0h w5.2.1.2.2.1 1 ((a01 w5.2.1.2.2.1)-1) w5.2.1.2.2.1) 0 w5.1,w5.2.1.2.2.2)) none) none
def a7C:FSem:=⟨[.r false (.b Q17),.v QI],[],a3a⟩
def d5v:Hints:=⟨[(122,[1,4,36,37,.box pinned Q17,Qp 0 pinned,.ref 35 pinned [.snd,.snd,.fst]],[Qe 1 [1,.box pinned Q17,Qp 0 pinned]])],[(7,[Qn [1,4,.box pinned Q17,Qp 0 pinned]]),(15667,[Qn [1,4,6,8,36,37,.box pinned Q17,Qp 0 pinned,.ref 35 pinned [.snd,.snd,.fst]]])],[(17,[.p,.p,.q,.q,.q,.p,.p,.q,.q,.x])]⟩
def a5s(s:(Int×(Int×(LI×Z85)))):Option ((Int×(Int×(LI×Z85))) ⊕ (Z25 ⊕ Z25)):=cond (decide (s.2.1<s.1)) (cond ((decide (0≤s.2.1))&&(decide (s.2.1<(s.2.2.2.2.1.length:Int)))) ((a1Y s.2.2.2.2.2.1).bind fun y6=>(a6h (wrap .i64 (y6.1+(a04 s.2.2.2.2.1 (a00 s.2.1) 0)))).bind fun y7=>cond (!y7) (some (.inr (Sum.inr (([],6,s.2.2.2.2.1,()))))) ((a3a (y6.2,wrap .i64 (y6.1+(a04 s.2.2.2.2.1 (a00 s.2.1) 0)))).bind fun y8=>cond ((decide (0≤s.2.1))&&(decide (s.2.1<(s.2.2.2.2.1.length:Int)))) (some (.inl (s.1,wrap .i64 (s.2.1+1),s.2.2.1,s.2.2.2.1,a18 s.2.2.2.2.1 (a00 s.2.1) (wrap .i64 (y6.1+(a04 s.2.2.2.2.1 (a00 s.2.1) 0))),y8,()))) none)) none) (some (.inr (Sum.inl (s.2.2.1,s.2.2.2.1,s.2.2.2.2.1,()))))
def a7G(k:Int)(v:(Int×Int×Unit))(s:(Z4×Z25)):Option ((Z4×Z25) ⊕ (Ex×Z4×Z25)):=(a9c v).bind fun y4=>cond (y4.2 != 0) (some (.inr (.ret,s.1,[],y4.2,s.2.2.2.1,()))) ((y0s a5s ((s.2.2.2.1.length:Int),0,s.2.1,s.2.2.1,s.2.2.2.1,y4.1,())).bind fun w9=>match w9 with |.inl a10=>some (.inl (s.1,a10.1,a10.2.1,a10.2.2.1,())) |.inr b11=>some (.inr (.ret,s.1,b11.1,b11.2.1,b11.2.2.1,())))
def b0B(x:(LI×Z4)):Option (LI×Int):=(a7s x.2).bind fun y1=>cond (!y1) (some ([],1)) ((a5q x.1).bind fun y2=>cond (!y2) (some ([],6)) ((a1g x.1).bind fun y3=>cond (lim (a01 x.2)) ((l0f a7G x.2 (a01 x.2) (x.2,[],0,y3,())).bind fun w12=>match w12 with |.inl a13=>some (a13.2.2.2.1,0) |.inr (.normal,a14)=>some (a14.2.2.2.1,0) |.inr (.exit e15,a14)=>(cond (e15==0) (some (a14.2.2.2.1,0)) none) |.inr (.ret,a14)=>some (a14.2.1,a14.2.2.1)) none))
def a7S:FSem:=⟨[.v QL,.v (.list false Q3)],[.v QL,.v QI],b0B⟩
def d5w:Hints:=⟨[(8046,[35,36,.box 1001004 QL,.box 1001005 QI,.box 1001006 (.list true QI),.box 1028 Q17,Qp 4 1001004,Qp 5 1001005,Qp 6 1001006,Qp 9 1028,.ref 34 1001006 []],[Qe 2 [.box 1001004 QL,.box 1001005 QI,.box 1001006 (.list true QI),Qp 4 1001004,Qp 5 1001005,Qp 6 1001006],Qr [.box 1001004 QL,.box 1001005 QI,.box 1001006 (.list true QI),Qp 4 1001004,Qp 5 1001005,Qp 6 1001006]])],[],[]⟩
def c9u:Cx:=b3t [(183,a1c),(213,b1E),(296,a9Z),(298,b4N),(299,a4c),(300,a9Y),(301,a7C)] [(6,.list true QI)] [0,1,9,10,11,12,13] [56]
def d1N:HintR:=⟨22,Q3,297,326,[4,5,6],[.sv 22 (.list false Q3),.box 1001004 QL,.box 1001005 QI,.box 1001006 (.list true QI),.ptr 4 1001004 [],.ptr 5 1001005 [],.ptr 6 1001006 []]⟩
theorem d2Q(x):z0h c9u d5w d1N Tryz.f240 a7S.ps a7S.rs x=a7S.F x:=by kernel_rfl
def a5i(x:Int):Option Bool:=cond (decide ((-1073741824)≤x)) (some (decide (x<1073741824))) (some false)
def b2B:FSem:=⟨[.v QI],[.v .bool],a5i⟩
def a8r(s:Z58):Option (Z58 ⊕ Z48):=cond (decide (s.2.2.2.1<s.2.2.1)) ((m0k s.2.1 s.2.2.2.1).bind fun x2=>(show Option (Int×(Int×(LI×(Int×(Int×(Bool×(LI×Unit)))))))from(a5i x2).bind fun y3=>cond (!y3) (some (s.1,x2,s.2.1,s.2.2.1,s.2.2.2.1,true,s.2.2.2.2.1,())) (cond (decide (s.1<0)) none ((a5i (A0n .i64 x2 s.1)).bind fun y4=>some (s.1,x2,s.2.1,s.2.2.1,s.2.2.2.1,!y4,s.2.2.2.2.1,())))).bind fun z5=>cond z5.2.2.2.2.2.1 (some (.inr (Sum.inr ((6,[],()))))) (cond (decide (z5.1<0)) none (cond (lim ((a01 z5.2.2.2.2.2.2.1)+1)) (some (.inl (z5.1,z5.2.2.1,z5.2.2.2.1,wrap .i64 (z5.2.2.2.2.1+1),a03 z5.2.2.2.2.2.2.1 [A0n .i64 z5.2.1 z5.1],()))) none))) (some (.inr (Sum.inl (s.2.2.2.2.1,()))))
def a9d(x:(LI×Int)):Option (LI×Int):=(show Option Z17 from cond (decide (x.2<0)) (some (x.1,x.2,true,())) (some (x.1,x.2,decide (x.2 > 30),()))).bind fun z1=>cond z1.2.2.1 (some ([],1)) ((y0s a8r (z1.2.1,z1.1,(z1.1.length:Int),0,[],())).bind fun w6=>match w6 with |.inl a7=>some (a7.1,0) |.inr b8=>some (b8.2.1,b8.1))
def b7Q:FSem:=⟨[.v QL,.v QI],[.o QI,.v QI],a9d⟩
def d5x:Hints:=⟨[(122,[1,.sv 15 QL,16,17,.own 6 6 QI],[Qe 0 [.own 6 6 QI],Qr [5,.own 4 4 QI]])],[(6,[Qn [.sv 0 QL,1,.sv 14 .bool]]),(15666,[Qn [1,8,.sv 15 QL,16,17,.sv 30 .bool,.own 6 6 QI]])],[]⟩
def a7d(s:(Int×(Int×(LI×b5J)))):Option ((Int×(Int×(LI×b5J))) ⊕ (LI×Unit)):=cond (decide (s.2.1<s.1)) ((m0k s.2.2.2.1.2.2.2.2.2.2.2.2.1 0).bind fun x1=>cond (lim ((a01 s.2.2.1)+1)) (some (.inl (s.1,wrap .i64 (s.2.1+1),a03 s.2.2.1 [x1],s.2.2.2.1,()))) none) (some (.inr (s.2.2.1,())))
def b2S(x:b4J):Option (LI×Int):=(show Option ((LI×(Int×b5J)) ⊕ Z5)from cond (x.1.1==0) ((y0s a7d (x.2,0,[],x.1,())).bind fun w2=>some (Sum.inr ((0,w2.1,())))) (cond (x.1.1==1) (some (Sum.inl (x.1.2.2.2.2.2.2.2.2.1,0,x.1,()))) (cond (x.1.1==2) ((a9X (x.1.2.2.2.2.2.2.2.2.1,x.1.2.2.2.2.2.2.2.2.2.2.1,x.1.2.2.1)).bind fun y3=>some (Sum.inl (y3.1,y3.2,x.1,()))) (cond (x.1.1==3) ((a7c (x.1.2.2.2.2.2.2.2.2.1,x.1.2.2.2.2.2.2.2.2.2.2.1,x.1.2.2.2.2.2.1,x.1.2.2.2.1)).bind fun y4=>some (Sum.inl (y4.1,y4.2,x.1,()))) (cond (x.1.1==4) ((a7c (x.1.2.2.2.2.2.2.2.2.1,x.1.2.2.2.2.2.2.2.2.2.2.1,x.1.2.2.2.2.2.1,x.1.2.2.2.1)).bind fun y5=>cond (y5.2==0) ((b1I (y5.1,x.1.2.2.2.2.1,x.1.2.2.2.2.2.2.1)).bind fun y6=>some (Sum.inl (y6.1,y6.2,x.1,()))) (some (Sum.inl (y5.1,y5.2,x.1,())))) (cond (x.1.1==5) ((b0B (x.1.2.2.2.2.2.2.2.2.2.2.1,x.1.2.2.2.2.2.2.2.1)).bind fun y7=>some (Sum.inl (y7.1,y7.2,x.1,()))) (some (Sum.inl ([],0,x.1,()))))))))).bind fun z8=>match z8 with |.inl a9=>(cond (a9.2.1 != 0) (some ([],a9.2.1)) ((a9d (a9.1,a9.2.2.1.2.1)).bind fun y11=>some (y11.1,y11.2))) |.inr b10=>some (b10.2.1,b10.1)
def b9n:FSem:=⟨[.v Q42,.v QI],[.o QI,.v QI],b2S⟩
def d5y:Hints:=⟨[(3922,[12,13,.own 6 6 QI,.vp 2 Q42],[Qe 1 [.own 6 6 QI]])],[(15,[Qn [.sv 6 QL,7,.vp 2 Q42],Qr [5,.own 4 6 QI]])],[]⟩
def b2j(x:b4J):Option (LI×Int):=(a9W (x.1,x.2)).bind fun y1=>cond (!y1) (some ([],1)) ((b2S (x.1,x.2)).bind fun y2=>cond (y2.2 != 0) (some ([],1)) (some (y2.1,0)))
def b6R:FSem:=⟨[.v Q42,.v QI],[.o QI,.v QI],b2j⟩
def a9e(x:Int):Option Bool:=cond (decide ((-1073741824)≤x)) (some (decide (x<1073741824))) (some false)
def b4O:FSem:=⟨[.v QI],[.v .bool],a9e⟩
def a4u(s:((List LI)×((List LI)×Z50))):Option (((List LI)×((List LI)×Z50)) ⊕ (((List LI)×Z26) ⊕ (Bool×Unit))):=cond (decide (s.2.2.2.2.2.2.1<s.2.2.2.2.2.1)) ((m0k s.2.2.2.2.1 s.2.2.2.2.2.2.1).bind fun x5=>(a9e x5).bind fun y6=>cond (!y6) (some (.inr (Sum.inr ((false,()))))) (some (.inl (s.1,s.2.1,s.2.2.1,s.2.2.2.1,s.2.2.2.2.1,s.2.2.2.2.2.1,wrap .i64 (s.2.2.2.2.2.2.1+1),())))) (some (.inr (Sum.inl (s.1,s.2.1,s.2.2.1,s.2.2.2.1,()))))
def a4v(s:((List LI)×Z26)):Option (((List LI)×Z26) ⊕ Z0):=cond (decide (s.2.2.2.1<s.2.2.1)) ((m0k s.2.1 s.2.2.2.1).bind fun x3=>(m0k s.1 0).bind fun x4=>cond ((x3.length:Int) != (x4.length:Int)) (some (.inr (Sum.inr ((false,()))))) ((y0s a4u (s.1,s.2.1,s.2.2.1,s.2.2.2.1,x3,(x3.length:Int),0,())).bind fun w7=>match w7 with |.inl a8=>some (.inl (a8.1,a8.2.1,a8.2.2.1,wrap .i64 (a8.2.2.2.1+1),())) |.inr b9=>some (.inr (Sum.inr ((b9.1,())))))) (some (.inr (Sum.inl ())))
def a7v(x:(List LI)):Option Bool:=(show Option ((List LI)×(Bool×Unit))from cond (decide ((x.length:Int)<1)) (some (x,true,())) (cond (decide ((x.length:Int) > 8)) (some (x,true,())) ((m0k x 0).bind fun x1=>some (x,decide ((x1.length:Int) > 4096),())))).bind fun z2=>cond z2.2.1 (some false) ((y0s a4v (z2.1,z2.1,(z2.1.length:Int),0,())).bind fun w10=>match w10 with |.inl a11=>some true |.inr b12=>some b12.1)
def b1J:FSem:=⟨[.v (.list false QL)],[.v .bool],a7v⟩
def d5z:Hints:=⟨[(58,[.sv 0 (.list false QL),.sv 22 (.list false QL),23,24],[Qe 0 [],Qr [.sv 2 .bool]]),(29902,[.sv 0 (.list false QL),.sv 22 (.list false QL),23,24,.sv 35 QL,36,37],[Qe 2 [.sv 0 (.list false QL),.sv 22 (.list false QL),23,24],Qr [.sv 2 .bool]])],[(6,[Qn [.sv 0 (.list false QL),.sv 21 .bool]])],[]⟩
def a6I(s:((List LI)×Z27)):Option (((List LI)×Z27) ⊕ Z1):=cond (decide (s.2.2.1<s.2.1)) ((m0k s.1 s.2.2.1).bind fun x1=>(a1g x1).bind fun y2=>cond (lim ((a01 s.2.2.2.1)+(a01 (a18 ([[]]:List LI) 0 y2)))) (some (.inl (s.1,s.2.1,wrap .i64 (s.2.2.1+1),a03 s.2.2.2.1 (a18 ([[]]:List LI) 0 y2),()))) none) (some (.inr (s.2.2.2.1,())))
def a7e(x:(List LI)):Option (List LI):=(y0s a6I (x,(x.length:Int),0,([]:(List LI)),())).bind fun w3=>some w3.1
def b2C:FSem:=⟨[.v (.list false QL)],[.o (.list true QI)],a7e⟩
def d5A:Hints:=⟨[(58,[.sv 6 (.list false QL),7,8,.own 3 3 (.list true QI)],[Qe 0 [.own 3 3 (.list true QI)]])],[],[]⟩
def a3D(s:(Int×(Int×(Int×((List LI)×(Z7×Int×Unit)))))):Option ((Int×(Int×(Int×((List LI)×(Z7×Int×Unit))))) ⊕ (Z1 ⊕ (Bool×Z1))):=cond (decide (s.2.2.1<s.2.1)) (cond ((decide (0≤s.2.2.1))&&(decide (s.2.2.1<((a01 (a04 s.2.2.2.1 (a00 s.2.2.2.2.2.1) []):Nat):Int)))) (cond ((decide (0≤s.2.2.2.2.1.2.1))&&(decide (s.2.2.2.2.1.2.1<(s.2.2.2.1.length:Int)))) (cond ((decide (0≤s.2.2.1))&&(decide (s.2.2.1<((a01 (a04 s.2.2.2.1 (a00 s.2.2.2.2.1.2.1) []):Nat):Int)))) ((a9e (wrap .i64 ((a04 (a04 s.2.2.2.1 (a00 s.2.2.2.2.1.2.1) []) (a00 s.2.2.1) 0)+(wrap .i64 (s.1*(A0o .i64 (wrap .i64 (s.2.2.2.2.1.2.2.1*(a04 (a04 s.2.2.2.1 (a00 s.2.2.2.2.2.1) []) (a00 s.2.2.1) 0))) 8)))))).bind fun y1=>cond (!y1) (some (.inr (Sum.inr ((false,s.2.2.2.1,()))))) (cond ((decide (0≤s.2.2.2.2.1.2.1))&&(decide (s.2.2.2.2.1.2.1<(s.2.2.2.1.length:Int)))) (cond ((decide (0≤s.2.2.1))&&(decide (s.2.2.1<((a01 (a04 s.2.2.2.1 (a00 s.2.2.2.2.1.2.1) []):Nat):Int)))) (some (.inl (s.1,s.2.1,wrap .i64 (s.2.2.1+1),a18 s.2.2.2.1 (a00 s.2.2.2.2.1.2.1) (a18 (a04 s.2.2.2.1 (a00 s.2.2.2.2.1.2.1) []) (a00 s.2.2.1) (wrap .i64 ((a04 (a04 s.2.2.2.1 (a00 s.2.2.2.2.1.2.1) []) (a00 s.2.2.1) 0)+(wrap .i64 (s.1*(A0o .i64 (wrap .i64 (s.2.2.2.2.1.2.2.1*(a04 (a04 s.2.2.2.1 (a00 s.2.2.2.2.2.1) []) (a00 s.2.2.1) 0))) 8)))))),s.2.2.2.2.1,((a00 s.2.2.2.2.2.1:Nat):Int),()))) none) none)) none) none) none) (some (.inr (Sum.inl (s.2.2.2.1,()))))
def a7T(x:((List LI)×(Z7×Int))):Option (Bool×(List LI)):=cond ((decide (0≤x.2.1.1))&&(decide (x.2.1.1<(x.1.length:Int)))) ((y0s a3D (x.2.2,((a01 (a04 x.1 (a00 x.2.1.1) []):Nat):Int),0,x.1,x.2.1,((a00 x.2.1.1:Nat):Int),())).bind fun w2=>match w2 with |.inl a3=>some (true,a3.1) |.inr b4=>some (b4.1,b4.2.1)) none
def b3x:FSem:=⟨[.r false (.o (.list true QI)),.v Q12,.v QI],[.v .bool],a7T⟩
def d5B:Hints:=⟨[(26,[2,15,16,.own 0 pinned (.list true QI),.vp 4 Q12,.rfi 14 pinned],[Qe 0 [.own 0 pinned (.list true QI)],Qr [.sv 6 .bool,.own 0 pinned (.list true QI)]])],[],[(4,[.q,.v,.v,.q,.q,.v,.q,.q,.v,.v,.v,.v,.v,.v,.v,.x,.x])]⟩
def a6i(k:Int)(v:Z7)(s:(Z13×((List LI)×Z11))):Option ((Z13×((List LI)×Z11)) ⊕ (Ex×(Z13×((List LI)×Z11)))):=(a7T (s.2.2.2.1,v,(-1))).bind fun y5=>cond (!y5.1) (some (.inr (.ret,s.1,([]:(List LI)),6,y5.2,()))) (some (.inl (s.1,s.2.1,s.2.2.1,y5.2,())))
def b1K(x:((List LI)×Z13)):Option ((List LI)×Int):=(show Option ((List LI)×(Z13×(Bool×((List LI)×(Int×Unit)))))from(a7v x.1).bind fun y1=>cond (!y1) (some (x.1,x.2,true,([]:(List LI)),0,())) ((a8n (x.2,(x.1.length:Int))).bind fun y2=>some (x.1,x.2,!y2,([]:(List LI)),0,()))).bind fun z3=>cond z3.2.2.1 (some (([]:(List LI)),1)) ((a7e z3.1).bind fun y4=>cond (lim (a01 z3.2.1)) ((l0f a6i z3.2.1 (a01 z3.2.1) (z3.2.1,z3.2.2.2.1,z3.2.2.2.2.1,y4,())).bind fun w6=>match w6 with |.inl a7=>some (a7.2.2.2.1,0) |.inr (.normal,a8)=>some (a8.2.2.2.1,0) |.inr (.exit e9,a8)=>(cond (e9==0) (some (a8.2.2.2.1,0)) none) |.inr (.ret,a8)=>some (a8.2.1,a8.2.2.1)) none)
def a9f:FSem:=⟨[.v (.list false QL),.v (.list false Q12)],[.v (.list false QL),.v QI],b1K⟩
def d5C:Hints:=⟨[],[(6,[Qn [.sv 0 (.list false QL),.sv 1 (.list false Q12),.sv 18 .bool,.box 4 (.list false QL),.box 5 QI,Qp 4 4,Qp 5 5]])],[]⟩
def c9v:Cx:=b3t [(113,b1J),(114,b2Q),(115,b2C),(116,b3x)] [(6,.list true (.list true QI))] [0,1] [29]
def d1O:HintR:=⟨21,Q12,186,242,[4,5,6],[.sv 21 (.list false Q12),.box 1001004 (.list false QL),.box 1001005 QI,.box 1001006 (.list true (.list true QI)),.ptr 4 1001004 [],.ptr 5 1001005 [],.ptr 6 1001006 []]⟩
theorem d2R(x):z0h c9v d5C d1O Tryz.f107 a9f.ps a9f.rs x=a9f.F x:=by kernel_rfl
def a4D(s:(b2v×(Int×(Int×((List LI)×c2U))))):Option ((b2v×(Int×(Int×((List LI)×c2U)))) ⊕ (((List LI)×c2U) ⊕ Z46)):=cond (decide (s.2.2.1<s.2.1)) ((m0k s.1 s.2.2.1).bind fun x3=>(b2j (x3,s.2.2.2.2.2.1.2.1)).bind fun y4=>cond (y4.2 != 0) (some (.inr (Sum.inr ((1,(0,([]:(List LI)),()),()))))) (cond (lim ((a01 s.2.2.2.1)+1)) (some (.inl (s.1,s.2.1,wrap .i64 (s.2.2.1+1),a03 s.2.2.2.1 ([y4.1]:List LI),s.2.2.2.2.1,s.2.2.2.2.2.1,()))) none)) (some (.inr (Sum.inl (s.2.2.2.1,s.2.2.2.2.1,s.2.2.2.2.2.1,()))))
def a3Q(x:a3s):Option Z28:=(show Option (Bool×c2U)from(a6Z x).bind fun y1=>cond (!y1) (some (true,(0,([]:(List LI)),()),x,())) (some ((x.2.2.2.2.1.length:Int) != x.2.2.1.2.1,(0,([]:(List LI)),()),x,()))).bind fun z2=>cond z2.1 (some ((0,([]:(List LI)),()),1)) (cond ((decide (0≤(z2.2.2.1.2.2.2.2.1.length:Int)))&&(lim (a00 (z2.2.2.1.2.2.2.2.1.length:Int)))) ((y0s a4D (z2.2.2.1.2.2.2.2.1,(z2.2.2.1.2.2.2.2.1.length:Int),0,([]:(List LI)),z2.2.1,z2.2.2.1,())).bind fun w5=>match w5 with |.inl a6=>((b1K (a6.1,a6.2.2.1.2.2.2.1)).bind fun y8=>cond (y8.2 != 0) (some ((0,([]:(List LI)),()),1)) ((a3j (a6.2.2.1.2.2.1.2.2.1,y8.1,())).bind fun y9=>cond (!y9) (some ((0,([]:(List LI)),()),1)) (some ((a6.2.2.1.2.2.1.2.2.1,y8.1,()),0)))) |.inr b7=>some (b7.2.1,b7.1)) none)
def a9r:FSem:=⟨[.v Q60],[.v Q15,.v QI],a3Q⟩
def H50:Hints:=⟨[(122,[.sv 30 (.list false Q42),31,32,.own 4 4 QL,.box 2 Q15,.vp 1 Q60,Qp 2 2],[Qe 0 [.own 4 4 QL,.box 2 Q15,.vp 1 Q60,Qp 2 2],Qr [3,.box 2 Q15,Qp 2 2]])],[(6,[Qn [.sv 23 .bool,.box 2 Q15,.vp 1 Q60,Qp 2 2]])],[]⟩
def a4k(x:a3s):Option Bool:=(a3Q x).bind fun y1=>some (y1.2==0)
def b4P:FSem:=⟨[.v Q60],[.v .bool],a4k⟩
def a9M(x:b4J):Option Bool:=(b2j (x.1,x.2)).bind fun y1=>some (y1.2==0)
def b6S:FSem:=⟨[.v Q42,.v QI],[.v .bool],a9M⟩
def a2P(s:Z50):Option (Z50 ⊕ Z30):=cond (s.2.1 != 0) (cond (decide (s.1<32)) ((a1U (s.2.1,s.1)).bind fun y2=>cond (!y2) (some (.inl (wrap .i64 (s.1+1),s.2.1,s.2.2.1,s.2.2.2.1,s.2.2.2.2.1,()))) (some (.inr (s.1,s.2.2.1,s.2.2.2.1,s.2.2.2.2.1,())))) (some (.inr (s.1,s.2.2.1,s.2.2.2.1,s.2.2.2.2.1,())))) (some (.inr (s.1,s.2.2.1,s.2.2.2.1,s.2.2.2.2.1,())))
def a5T(s:Z30):Option Z65:=cond (decide (s.2.2.2.1<s.2.2.1)) ((m0k s.2.1 s.2.2.2.1).bind fun x1=>(y0s a2P (s.1,x1,s.2.1,s.2.2.1,s.2.2.2.1,())).bind fun w3=>some (.inl (w3.1,w3.2.1,w3.2.2.1,wrap .i64 (w3.2.2.2.1+1),()))) (some (.inr (s.1,())))
def a1t(x:LI):Option Int:=(y0s a5T (0,x,(x.length:Int),0,())).bind fun w4=>some w4.1
def a2C:FSem:=⟨[.v QL],[.v QI],a1t⟩
def d5D:Hints:=⟨[(58,[3,.sv 6 QL,7,8],[Qe 0 [3]]),(7474,[3,5,.sv 6 QL,7,8],[Qe 2 [3,.sv 6 QL,7,8]])],[],[]⟩
def a2f(x:(Z6×Int)):Option Z6:=(show Option Z35 from cond ((a06 x.1.2.1 8)==0) (cond (lim ((a01 x.1.1)+1)) (some (x.2,(a03 x.1.1 [0],x.1.2),())) none) (some (x.2,x.1,()))).bind fun z1=>cond ((decide (0≤(wrap .i64 (a05 z1.2.1.2.1 8))))&&(decide ((wrap .i64 (a05 z1.2.1.2.1 8))<(z1.2.1.1.length:Int)))) (cond (decide ((wrap .i64 (7-(a06 z1.2.1.2.1 8)))<0)) none (cond ((decide (0≤(wrap .i64 (a05 z1.2.1.2.1 8))))&&(decide ((wrap .i64 (a05 z1.2.1.2.1 8))<(z1.2.1.1.length:Int)))) (some (a18 z1.2.1.1 (a00 (wrap .i64 (a05 z1.2.1.2.1 8))) (bits .u8 .or (a04 z1.2.1.1 (a00 (wrap .i64 (a05 z1.2.1.2.1 8))) 0) (A0n .u8 z1.1 (wrap .i64 (7-(a06 z1.2.1.2.1 8))))),wrap .i64 (z1.2.1.2.1+1),z1.2.1.2.2)) none)) none
def a5U:FSem:=⟨[.r false (.b Q9),.v QV],[],a2f⟩
def d5E:Hints:=⟨[],[(1,[Qn [.sv 1 QV,.box pinned Q9,Qp 0 pinned]])],[(2,[.p,.p,.q,.q,.p,.p,.q,.q,.v,.q,.q,.v,.p,.p,.q,.q,.v,.v,.v,.x,.x,.x])]⟩
def a4d(s:Z53):Option (Z53 ⊕ Z19):=cond (decide (s.2.1≥0)) (cond (decide (s.2.1<0)) none ((a2f (s.2.2.1,wrap .u8 (bits .u64 .and (A0o .u64 s.1 s.2.1) 1))).bind fun y2=>some (.inl (s.1,wrap .i64 (s.2.1-1),y2,())))) (some (.inr (s.2.2.1,())))
def a0G(x:(Z6×Int×Int)):Option Z16:=(show Option (Int×Int×Bool×Z19)from cond (decide (x.2.2<0)) (some (x.2.1,x.2.2,true,x.1,())) (cond (decide (x.2.2 > 64)) (some (x.2.1,x.2.2,true,x.1,())) (cond (decide (x.2.2<0)) none (some (x.2.1,x.2.2,(A0o .u64 x.2.1 x.2.2) != 0,x.1,()))))).bind fun z1=>cond z1.2.2.1 (some (1,z1.2.2.2.1)) ((y0s a4d (z1.1,wrap .i64 (z1.2.1-1),z1.2.2.2.1,())).bind fun w3=>some (0,w3.1))
def a2Q:FSem:=⟨[.r false (.b Q9),.v QU,.v QI],[.v QI],a0G⟩
def d5F:Hints:=⟨[(58,[.sv 1 QU,7,.box pinned Q9,Qp 0 pinned],[Qe 0 [.box pinned Q9]])],[(6,[Qn [.sv 1 QU,2,.sv 19 .bool,.box pinned Q9,Qp 0 pinned]])],[]⟩
def a2M(x:(Z6×Int×Int)):Option Z6:=cond (decide (x.2.2<0)) none ((a0G (x.1,bits .u64 .and (wrap .u64 x.2.1) (wrap .u64 ((A0n .u64 1 x.2.2)-1)),x.2.2)).bind fun y1=>some y1.2)
def b0C:FSem:=⟨[.r false (.b Q9),.v QI,.v QI],[],a2M⟩
def a5V(s:Z88):Option (Z88 ⊕ Z19):=cond (decide (s.2.2.2.1<s.2.2.1)) ((m0k s.2.1 s.2.2.2.1).bind fun x6=>(a2M (s.2.2.2.2.1,x6,s.1)).bind fun y7=>some (.inl (s.1,s.2.1,s.2.2.1,wrap .i64 (s.2.2.2.1+1),y7,()))) (some (.inr (s.2.2.2.2.1,())))
def a8s(x:(Z6×a1X)):Option Z6:=(a0G (x.1,wrap .u64 (wrap .i64 ((x.2.2.2.2.2.2.1.length:Int)-1)),5)).bind fun y1=>(a0G (y1.2,wrap .u64 x.2.2.2.2.1,4)).bind fun y2=>(a1t x.2.2.2.2.2.2.1).bind fun y3=>(a0G (y2.2,wrap .u64 y3,5)).bind fun y4=>(y0s a5V (y3,x.2.2.2.2.2.2.1,(x.2.2.2.2.2.2.1.length:Int),0,y4.2,())).bind fun w8=>some w8.1
def b5j:FSem:=⟨[.r false (.b Q9),.v Q42],[],a8s⟩
def d5G:Hints:=⟨[(254,[4,.sv 27 QL,28,29,.box pinned Q9,Qp 0 pinned],[Qe 0 [.box pinned Q9]])],[],[]⟩
def b3y(s:Z14):Option Z69:=cond (decide (s.2.2.1<s.2.1)) ((m0k s.1 s.2.2.1).bind fun x3=>(show Option Z34 from cond (decide (x3<(-1073741824))) (some (s.1,s.2.1,s.2.2.1,true,())) (some (s.1,s.2.1,s.2.2.1,decide (x3≥1073741824),()))).bind fun z4=>cond z4.2.2.2.1 (some (.inr (Sum.inr ((false,()))))) (some (.inl (z4.1,z4.2.1,wrap .i64 (z4.2.2.1+1),())))) (some (.inr (Sum.inl ())))
def a7f(x:Z2):Option Bool:=(show Option (LI×(Bool×Unit))from(a7t (x.1,x.2.1)).bind fun y1=>cond (!y1) (some (x.2.2,true,())) (some (x.2.2,(x.2.2.length:Int) != (wrap .i64 (x.1-x.2.1)),()))).bind fun z2=>cond z2.2.1 (some false) ((y0s b3y (z2.1,(z2.1.length:Int),0,())).bind fun w5=>match w5 with |.inl a6=>some true |.inr b7=>some b7.1)
def b2D:FSem:=⟨[.v QI,.v QI,.v QL],[.v .bool],a7f⟩
def d5H:Hints:=⟨[(58,[.sv 21 QL,22,23],[Qe 0 [],Qr [.sv 6 .bool]])],[(6,[Qn [.sv 2 QL,.sv 20 .bool]]),(3737,[Qn [.sv 21 QL,22,23,.sv 32 .bool]])],[]⟩
def a5N(x:LI):Option Int:=(a1t x).bind fun y1=>some (wrap .i64 (5+(wrap .i64 (y1*(x.length:Int)))))
def b4Q:FSem:=⟨[.v QL],[.v QI],a5N⟩
def a1Q(x:Int):Option Bool:=cond (decide (0≤x)) (some (decide (x≤25))) (some false)
def a6J:FSem:=⟨[.v QI],[.v .bool],a1Q⟩
def a7w(x:Int):Option Bool:=cond (decide ((-1073741824)≤x)) (some (decide (x<1073741824))) (some false)
def b1L:FSem:=⟨[.v QI],[.v .bool],a7w⟩
def a9g(x:Int):Option Int:=(a7w x).bind fun y1=>cond (!y1) (some 0) (cond (decide (x≥0)) (some (wrap .u64 (wrap .i64 (2*x)))) (some (wrap .u64 (wrap .i64 ((wrap .i64 ((-2)*x))-1)))))
def b4R:FSem:=⟨[.v QI],[.v QU],a9g⟩
def a7x(x:(Int×Int)):Option Int:=(show Option Z8 from(a1Q x.1).bind fun y1=>cond (!y1) (some (x.1,x.2,true,())) ((a7w x.2).bind fun y2=>some (x.1,x.2,!y2,()))).bind fun z3=>cond z3.2.2.1 (some 0) ((a9g z3.2.1).bind fun y4=>cond (decide (z3.1<0)) none (cond (decide ((wrap .i64 (A0o .u64 y4 z3.1))<32)) (some (wrap .i64 ((wrap .i64 ((wrap .i64 (A0o .u64 y4 z3.1))+1))+z3.1))) (some 65)))
def b7R:FSem:=⟨[.v QI,.v QI],[.v QI],a7x⟩
def d5I:Hints:=⟨[],[(6,[Qn [0,1,.sv 13 .bool]])],[]⟩
def a3R(s:Z50):Option (Z50 ⊕ (Int×Unit)):=cond (decide (s.2.2.2.2.1<s.2.2.2.1)) ((m0k s.2.2.1 s.2.2.2.2.1).bind fun x1=>(a7x (s.1,x1)).bind fun y2=>some (.inl (s.1,wrap .i64 (s.2.1+y2),s.2.2.1,s.2.2.2.1,wrap .i64 (s.2.2.2.2.1+1),()))) (some (.inr (s.2.1,())))
def a3k(x:(Int×LI)):Option Int:=(y0s a3R (x.1,0,x.2,(x.2.length:Int),0,())).bind fun w3=>some w3.1
def b2T:FSem:=⟨[.v QI,.v QL],[.v QI],a3k⟩
def d5J:Hints:=⟨[(58,[0,5,.sv 8 QL,9,10],[Qe 0 [5]])],[],[]⟩
def a1v(s:(LI×(Int×(Int×(Int×(LI×Z18)))))):Option ((LI×(Int×(Int×(Int×(LI×Z18))))) ⊕ (Int×Unit)):=cond (decide (s.2.2.2.1<s.2.2.1)) (cond ((decide (0≤s.2.2.2.1))&&(decide (s.2.2.2.1<(s.2.2.2.2.1.length:Int)))) (cond ((decide (0≤(a04 s.2.2.2.2.1 (a00 s.2.2.2.1) 0)))&&(decide ((a04 s.2.2.2.2.1 (a00 s.2.2.2.1) 0)≤(s.1.length:Int)))) (cond ((decide (0≤(a04 s.2.2.2.2.1 (a00 s.2.2.2.1) 0)))&&(decide ((a04 s.2.2.2.2.1 (a00 s.2.2.2.1) 0)≤(s.1.length:Int)))) ((m0k s.2.2.2.2.2.1.2.1 s.2.2.2.1).bind fun x5=>cond (x5==31) ((a5N (a07 (a00 (a04 s.2.2.2.2.1 (a00 s.2.2.2.1) 0)) s.1)).bind fun y6=>some (.inl (a08 (a00 (a04 s.2.2.2.2.1 (a00 s.2.2.2.1) 0)) (a07 (a01 s.1) s.1),wrap .i64 (s.2.1+(wrap .i64 (5+y6))),s.2.2.1,wrap .i64 (s.2.2.2.1+1),s.2.2.2.2.1,s.2.2.2.2.2.1,()))) ((m0k s.2.2.2.2.2.1.2.1 s.2.2.2.1).bind fun x7=>(a3k (x7,a07 (a00 (a04 s.2.2.2.2.1 (a00 s.2.2.2.1) 0)) s.1)).bind fun y8=>some (.inl (a08 (a00 (a04 s.2.2.2.2.1 (a00 s.2.2.2.1) 0)) (a07 (a01 s.1) s.1),wrap .i64 (s.2.1+(wrap .i64 (5+y8))),s.2.2.1,wrap .i64 (s.2.2.2.1+1),s.2.2.2.2.1,s.2.2.2.2.2.1,())))) none) none) none) (some (.inr (s.2.1,())))
def a4E(x:(Z5×Z2)):Option Int:=(show Option (Int×(Int×(LI×(Bool×Z18))))from(a9b (x.1,x.2.1,x.2.2.1)).bind fun y1=>cond (!y1) (some (x.2.1,x.2.2.1,x.2.2.2,true,x.1,())) ((a7f (x.2.1,x.2.2.1,x.2.2.2)).bind fun y2=>some (x.2.1,x.2.2.1,x.2.2.2,!y2,x.1,()))).bind fun z3=>cond z3.2.2.2.1 (some 0) ((a2U (z3.2.2.2.2.1.1,z3.1,z3.2.1)).bind fun y4=>(y0s a1v (z3.2.2.1,4,(y4.length:Int),0,y4,z3.2.2.2.2.1,())).bind fun w9=>some w9.1)
def b3z:FSem:=⟨[.v Q11,.v QI,.v QI,.v QL],[.v QI],a4E⟩
def d5K:Hints:=⟨[(122,[.sv 3 QL,9,30,31,.own 29 1029 QI,.vp 4 Q11],[Qe 0 [9]])],[(6,[Qn [1,2,.sv 3 QL,.sv 24 .bool,.vp 4 Q11]])],[]⟩
def a3l(s:Z53):Option (Z53 ⊕ Z19):=cond (decide (s.2.1<s.1)) ((a2f (s.2.2.1,0)).bind fun y2=>some (.inl (s.1,wrap .i64 (s.2.1+1),y2,()))) (some (.inr (s.2.2.1,())))
def a2r(x:(Z6×Int)):Option Z16:=(show Option (Int×Bool×Z19)from cond (decide (x.2<0)) (some (x.2,true,x.1,())) (some (x.2,decide (x.2 > 4096),x.1,()))).bind fun z1=>cond z1.2.1 (some (1,z1.2.2.1)) ((y0s a3l (z1.1,0,z1.2.2.1,())).bind fun w3=>(a2f (w3.1,1)).bind fun y4=>some (0,y4))
def b1c:FSem:=⟨[.r false (.b Q9),.v QI],[.v QI],a2r⟩
def d5L:Hints:=⟨[(58,[11,12,.box pinned Q9,Qp 0 pinned],[Qe 0 [.box pinned Q9,Qp 0 pinned]])],[(6,[Qn [1,.sv 10 .bool,.box pinned Q9,Qp 0 pinned]])],[]⟩
def a9s(s:(Int×(LI×Z78))):Option ((Int×(LI×Z78)) ⊕ ((Int×(LI×Z19)) ⊕ Z35)):=cond (decide (s.2.2.2.2.1<s.2.2.2.1)) ((m0k s.2.2.1 s.2.2.2.2.1).bind fun x2=>(a7w x2).bind fun y3=>cond (!y3) (some (.inr (Sum.inr ((1,s.2.2.2.2.2.1,()))))) (some (.inl (s.1,s.2.1,s.2.2.1,s.2.2.2.1,wrap .i64 (s.2.2.2.2.1+1),s.2.2.2.2.2.1,())))) (some (.inr (Sum.inl (s.1,s.2.1,s.2.2.2.2.2.1,()))))
def a7g(s:Z88):Option (Z88 ⊕ Z19):=cond (decide (s.2.2.2.1<s.2.2.1)) ((m0k s.2.1 s.2.2.2.1).bind fun x7=>(a9g x7).bind fun y8=>cond (decide (s.1<0)) none (cond (decide ((A0o .u64 y8 s.1)<32)) ((a2r (s.2.2.2.2.1,wrap .i64 (A0o .u64 y8 s.1))).bind fun y9=>cond (decide (s.1<0)) none ((a0G (y9.2,wrap .u64 (y8-(A0n .u64 (A0o .u64 y8 s.1) s.1)),s.1)).bind fun y10=>some (.inl (s.1,s.2.1,s.2.2.1,wrap .i64 (s.2.2.2.1+1),y10.2,())))) ((a2r (s.2.2.2.2.1,32)).bind fun y11=>(a0G (y11.2,y8,32)).bind fun y12=>some (.inl (s.1,s.2.1,s.2.2.1,wrap .i64 (s.2.2.2.1+1),y12.2,()))))) (some (.inr (s.2.2.2.2.1,())))
def b2U(x:(Z6×(Int×LI))):Option Z16:=(a1Q x.2.1).bind fun y1=>cond (!y1) (some (1,x.1)) ((y0s a9s (x.2.1,x.2.2,x.2.2,(x.2.2.length:Int),0,x.1,())).bind fun w4=>match w4 with |.inl a5=>((y0s a7g (a5.1,a5.2.1,(a5.2.1.length:Int),0,a5.2.2.1,())).bind fun w13=>some (0,w13.1)) |.inr b6=>some (b6.1,b6.2.1))
def b9o:FSem:=⟨[.r false (.b Q9),.v QI,.v QL],[.v QI],b2U⟩
def d5M:Hints:=⟨[(58,[1,.sv 2 QL,.sv 16 QL,17,18,.box pinned Q9,Qp 0 pinned],[Qe 0 [1,.sv 2 QL,.box pinned Q9,Qp 0 pinned],Qr [6,.box pinned Q9]]),(122,[1,.sv 26 QL,27,28,.box pinned Q9,Qp 0 pinned],[Qe 2 [.box pinned Q9]])],[],[]⟩
def a8t(s:(LI×(Int×Int×Int×c2S))):Option ((LI×(Int×Int×Int×c2S)) ⊕ c2S):=cond (decide (s.2.2.2.2.2.2.1<s.2.2.2.2.2.1)) ((m0k s.2.2.2.2.1 s.2.2.2.2.2.2.1).bind fun x11=>cond (decide (s.2.1<0)) none ((a0G (s.2.2.2.2.2.2.2.2.1,bits .u64 .and (wrap .u64 x11) (wrap .u64 ((A0n .u64 1 s.2.1)-1)),s.2.1)).bind fun y12=>some (.inl (s.1,s.2.1,s.2.2.1,s.2.2.2.1,s.2.2.2.2.1,s.2.2.2.2.2.1,wrap .i64 (s.2.2.2.2.2.2.1+1),s.2.2.2.2.2.2.2.1,y12.2,s.2.2.2.2.2.2.2.2.2.1,())))) (some (.inr (s.1,s.2.2.1,s.2.2.2.1,s.2.2.2.2.2.2.2.1,s.2.2.2.2.2.2.2.2.1,s.2.2.2.2.2.2.2.2.2.1,())))
def a4w(s:c2S):Option (c2S ⊕ Z19):=cond (decide (s.2.2.1<s.2.1)) (cond ((decide (0≤s.2.2.1))&&(decide (s.2.2.1<(s.2.2.2.1.length:Int)))) (cond ((decide (0≤(a04 s.2.2.2.1 (a00 s.2.2.1) 0)))&&(decide ((a04 s.2.2.2.1 (a00 s.2.2.1) 0)≤(s.1.length:Int)))) (cond ((decide (0≤(a04 s.2.2.2.1 (a00 s.2.2.1) 0)))&&(decide ((a04 s.2.2.2.1 (a00 s.2.2.1) 0)≤(s.1.length:Int)))) ((m0k s.2.2.2.2.2.1.2.1 s.2.2.1).bind fun x4=>(a0G (s.2.2.2.2.1,wrap .u64 x4,5)).bind fun y5=>(m0k s.2.2.2.2.2.1.2.1 s.2.2.1).bind fun x6=>cond (x6 != 31) ((m0k s.2.2.2.2.2.1.2.1 s.2.2.1).bind fun x7=>(b2U (y5.2,x7,a07 (a00 (a04 s.2.2.2.1 (a00 s.2.2.1) 0)) s.1)).bind fun y8=>some (.inl (a08 (a00 (a04 s.2.2.2.1 (a00 s.2.2.1) 0)) (a07 (a01 s.1) s.1),s.2.1,wrap .i64 (s.2.2.1+1),s.2.2.2.1,y8.2,s.2.2.2.2.2.1,()))) ((a1t (a07 (a00 (a04 s.2.2.2.1 (a00 s.2.2.1) 0)) s.1)).bind fun y9=>(a0G (y5.2,wrap .u64 y9,5)).bind fun y10=>(y0s a8t (a08 (a00 (a04 s.2.2.2.1 (a00 s.2.2.1) 0)) (a07 (a01 s.1) s.1),y9,s.2.1,s.2.2.1,a07 (a00 (a04 s.2.2.2.1 (a00 s.2.2.1) 0)) s.1,((a01 (a07 (a00 (a04 s.2.2.2.1 (a00 s.2.2.1) 0)) s.1):Nat):Int),0,s.2.2.2.1,y10.2,s.2.2.2.2.2.1,())).bind fun w13=>some (.inl (w13.1,w13.2.1,wrap .i64 (w13.2.2.1+1),w13.2.2.2.1,w13.2.2.2.2.1,w13.2.2.2.2.2.1,())))) none) none) none) (some (.inr (s.2.2.2.2.1,())))
def b1M(x:(Z6×Z5×Z2)):Option Z16:=(a4E (x.2.1,x.2.2.1,x.2.2.2.1,x.2.2.2.2)).bind fun y1=>cond (y1==0) (some (1,x.1)) ((a0G (x.1,wrap .u64 x.2.1.1,4)).bind fun y2=>(a2U (x.2.1.1,x.2.2.1,x.2.2.2.1)).bind fun y3=>(y0s a4w (x.2.2.2.2,(y3.length:Int),0,y3,y2.2,x.2.1,())).bind fun w14=>some (0,w14.1))
def b7S:FSem:=⟨[.r false (.b Q9),.v Q11,.v QI,.v QI,.v QL],[.v QI],b1M⟩
def d5N:Hints:=⟨[(122,[.sv 4 QL,33,34,.own 32 1032 QI,.box pinned Q9,Qp 0 pinned,.vp 6 Q11],[Qe 0 [.box pinned Q9]]),(2005502,[.sv 4 QL,14,33,34,.sv 73 QL,74,75,.own 32 1032 QI,.box pinned Q9,Qp 0 pinned,.vp 6 Q11],[Qe 2 [.sv 4 QL,33,34,.own 32 1032 QI,.box pinned Q9,Qp 0 pinned,.vp 6 Q11]])],[],[]⟩
def b0D(s:(Int×(Int×(LI×c5y)))):Option ((Int×(Int×(LI×c5y))) ⊕ b4K):=cond (decide (s.2.2.2.1<3)) ((m0k s.2.2.1 s.2.2.2.1).bind fun x8=>(a2M (s.2.2.2.2.1,x8,8)).bind fun y9=>some (.inl (s.1,s.2.1,s.2.2.1,wrap .i64 (s.2.2.2.1+1),y9,s.2.2.2.2.2.1,()))) (some (.inr (s.1,s.2.1,s.2.2.2.2.1,s.2.2.2.2.2.1,())))
def b0E(s:(Int×Int×Z4×b4K)):Option ((Int×Int×Z4×b4K) ⊕ b4K):=cond (decide (s.2.2.2.2.1<s.2.2.2.1)) ((m0k s.2.2.1 s.2.2.2.2.1).bind fun x18=>(a0G (s.2.2.2.2.2.1,wrap .u64 (wrap .i64 (x18.1-1)),5)).bind fun y19=>(a0G (y19.2,wrap .u64 x18.2.1,4)).bind fun y20=>some (.inl (s.1,s.2.1,s.2.2.1,s.2.2.2.1,wrap .i64 (s.2.2.2.2.1+1),y20.2,s.2.2.2.2.2.2.1,()))) (some (.inr (s.1,s.2.1,s.2.2.2.2.2.1,s.2.2.2.2.2.2.1,())))
def b0F(s:(Int×(Int×(LI×b4K)))):Option ((Int×(Int×(LI×b4K))) ⊕ c5y):=cond (decide (s.2.2.2.2.1<s.2.2.2.1)) ((m0k s.2.2.1 s.2.2.2.2.1).bind fun x23=>(a2M (s.2.2.2.2.2.1,x23,s.2.1)).bind fun y24=>some (.inl (s.1,s.2.1,s.2.2.1,s.2.2.2.1,wrap .i64 (s.2.2.2.2.1+1),y24,s.2.2.2.2.2.2.1,()))) (some (.inr (s.1,s.2.2.2.2.2.1,s.2.2.2.2.2.2.1,())))
def a9N(x:(Z6×b4J)):Option Z16:=(a9M (x.2.1,x.2.2)).bind fun y1=>cond (!y1) (some (1,x.1)) ((a1t x.2.1.2.2.2.2.2.2.2.2.1).bind fun y2=>(a0G (x.1,wrap .u64 x.2.1.1,3)).bind fun y3=>(a0G (y3.2,wrap .u64 x.2.1.2.1,5)).bind fun y4=>(a0G (y4.2,wrap .u64 y2,5)).bind fun y5=>(show Option b4K from(show Option (b4K ⊕ (b4K ⊕ b4K))from cond (x.2.1.1==2) ((a0G (y5.2,wrap .u64 x.2.1.2.2.1,3)).bind fun y6=>some (Sum.inr (Sum.inl (x.2.2,y2,y6.2,x.2.1,())))) (cond (x.2.1.1==4) ((a0G (y5.2,wrap .u64 (wrap .i64 (x.2.1.2.2.2.2.1-1)),10)).bind fun y7=>(y0s b0D (x.2.2,y2,x.2.1.2.2.2.2.2.2.1,0,y7.2,x.2.1,())).bind fun w10=>some (Sum.inl (w10.1,w10.2.1,w10.2.2.1,w10.2.2.2.1,()))) (cond (x.2.1.1==3) (some (Sum.inl (x.2.2,y2,y5.2,x.2.1,()))) (cond (x.2.1.1==5) (some (Sum.inr (Sum.inr ((x.2.2,y2,y5.2,x.2.1,()))))) (some (Sum.inr (Sum.inl (x.2.2,y2,y5.2,x.2.1,())))))))).bind fun z11=>match z11 with |.inl a12=>((a8s (a12.2.2.1,a12.2.2.2.1)).bind fun y14=>some (a12.1,a12.2.1,y14,a12.2.2.2.1,())) |.inr b13=>(match b13 with |.inl a15=>some (a15.1,a15.2.1,a15.2.2.1,a15.2.2.2.1,()) |.inr b16=>((a0G (b16.2.2.1,wrap .u64 (b16.2.2.2.1.2.2.2.2.2.2.2.1.length:Int),2)).bind fun y17=>(y0s b0E (b16.1,b16.2.1,b16.2.2.2.1.2.2.2.2.2.2.2.1,(b16.2.2.2.1.2.2.2.2.2.2.2.1.length:Int),0,y17.2,b16.2.2.2.1,())).bind fun w21=>some (w21.1,w21.2.1,w21.2.2.1,w21.2.2.2.1,())))).bind fun z22=>(y0s b0F (z22.1,z22.2.1,z22.2.2.2.1.2.2.2.2.2.2.2.2.1,(z22.2.2.2.1.2.2.2.2.2.2.2.2.1.length:Int),0,z22.2.2.1,z22.2.2.2.1,())).bind fun w25=>(a6e w25.2.2.1.1).bind fun y26=>cond (!y26) (some (0,w25.2.1)) ((b1M (w25.2.1,w25.2.2.1.2.2.2.2.2.2.2.2.2.1,w25.1,(w25.2.2.1.2.2.2.2.2.2.2.2.1.length:Int),w25.2.2.1.2.2.2.2.2.2.2.2.2.2.1)).bind fun y27=>some (y27.1,y27.2)))
def b6T:FSem:=⟨[.r false (.b Q9),.v Q42,.v QI],[.v QI],a9N⟩
def H62:Hints:=⟨[(2042,[2,7,.sv 94 QL,95,96,.box pinned Q9,Qp 0 pinned,.vp 4 Q42],[Qe 9 [2,.box pinned Q9,Qp 0 pinned,.vp 4 Q42]]),(32598,[2,7,.sv 75 (.list false Q3),76,77,.box pinned Q9,Qp 0 pinned,.vp 4 Q42],[Qe 7 [2,7,.box pinned Q9,Qp 0 pinned,.vp 4 Q42]]),(260622,[2,7,.sv 57 (.arr 3 QI),58,.box pinned Q9,Qp 0 pinned,.vp 4 Q42],[Qe 5 [2,7,.box pinned Q9,Qp 0 pinned,.vp 4 Q42]])],[(127,[Qn [2,7,.box pinned Q9,Qp 0 pinned,.vp 4 Q42]]),(4072,[Qn [2,7,.box pinned Q9,Qp 0 pinned,.vp 4 Q42],Qe 0 [2,7,.box pinned Q9,Qp 0 pinned,.vp 4 Q42],Qe 4 [2,7,.box pinned Q9,Qp 0 pinned,.vp 4 Q42]])],[]⟩
def a3m(s:Z19):Option (Z19 ⊕ Z19):=cond ((a06 s.1.2.1 8) != 0) ((a2f (s.1,0)).bind fun y2=>some (.inl (y2,()))) (some (.inr (s.1,())))
def a4U(x:Z6):Option Z6:=(y0s a3m (x,())).bind fun w3=>some w3.1
def b1d:FSem:=⟨[.r false (.b Q9)],[],a4U⟩
def H63:Hints:=⟨[(2,[.box pinned Q9,Qp 0 pinned],[Qe 0 [.box pinned Q9]])],[],[]⟩
def a4V(x:Z6):Option (LI×Z6):=cond (lim (a01 x.1)) (some (x.1,x)) none
def b1e:FSem:=⟨[.r false (.b Q9)],[.o QV],a4V⟩
def a8u(s:Z58):Option (Z58 ⊕ Z58):=cond (decide (s.1≥128)) (cond (lim ((a01 s.2.2.2.2.1)+1)) (some (.inl (wrap .u64 (a05 s.1 128),s.2.1,s.2.2.1,s.2.2.2.1,a03 s.2.2.2.2.1 [wrap .u8 ((wrap .u8 (a06 s.1 128))+128)],()))) none) (some (.inr (s.1,s.2.1,s.2.2.1,s.2.2.2.1,s.2.2.2.2.1,())))
def a8v(s:Z41):Option (Z41 ⊕ (LI×Unit)):=cond (decide (s.2.2.1<s.2.1)) ((m0k s.1 s.2.2.1).bind fun x1=>(y0s a8u (x1,s.1,s.2.1,s.2.2.1,s.2.2.2.1,())).bind fun w2=>cond (lim ((a01 w2.2.2.2.2.1)+1)) (some (.inl (w2.2.1,w2.2.2.1,wrap .i64 (w2.2.2.2.1+1),a03 w2.2.2.2.2.1 [wrap .u8 w2.1],()))) none) (some (.inr (s.2.2.2.1,())))
def a9h(x:LI):Option LI:=(y0s a8v (x,(x.length:Int),0,[],())).bind fun w3=>some w3.1
def b4S:FSem:=⟨[.v (.list false QU)],[.o QV],a9h⟩
def H88:Hints:=⟨[(58,[.sv 6 (.list false QU),7,8,.own 3 3 QV],[Qe 0 [.own 3 3 QV]]),(14948,[.sv 5 QU,.sv 6 (.list false QU),7,8,.own 3 3 QV],[Qe 2 [.sv 5 QU,.sv 6 (.list false QU),7,8,.own 3 3 QV]])],[],[]⟩
def b1N(x:Int):Option Int:=cond (decide (x≥0)) (some (wrap .u64 (2*(wrap .u64 x)))) (some (wrap .u64 ((wrap .u64 (2*(wrap .u64 (wrap .i64 (0-(wrap .i64 (x+1)))))))+1)))
def b7T:FSem:=⟨[.v QI],[.v QU],b1N⟩
def b0G(s:Z52):Option (Z52 ⊕ Z30):=cond (decide (s.2.2.2.2.1<8)) (cond ((A0o .u8 s.1 7)==1) (some (.inl (bits .u8 .xor (A0n .u8 s.1 1) 7,s.2.1,s.2.2.1,s.2.2.2.1,wrap .i64 (s.2.2.2.2.1+1),()))) (some (.inl (A0n .u8 s.1 1,s.2.1,s.2.2.1,s.2.2.2.1,wrap .i64 (s.2.2.2.2.1+1),())))) (some (.inr (s.1,s.2.1,s.2.2.1,s.2.2.2.1,())))
def a7H(s:Z30):Option Z65:=cond (decide (s.2.2.2.1<s.2.2.1)) ((m0k s.2.1 s.2.2.2.1).bind fun x1=>(y0s b0G (bits .u8 .xor s.1 x1,s.2.1,s.2.2.1,s.2.2.2.1,0,())).bind fun w2=>some (.inl (w2.1,w2.2.1,w2.2.2.1,wrap .i64 (w2.2.2.2.1+1),()))) (some (.inr (s.1,())))
def a7U(x:LI):Option Int:=(y0s a7H (0,x,(x.length:Int),0,())).bind fun w3=>some w3.1
def b3A:FSem:=⟨[.v QB],[.v QV],a7U⟩
def d5O:Hints:=⟨[(58,[.sv 3 QV,.sv 7 QB,8,9],[Qe 0 [.sv 3 QV]]),(29902,[.sv 3 QV,.sv 7 QB,8,9,16],[Qe 2 [.sv 3 QV,.sv 7 QB,8,9]])],[],[]⟩
def a5t(s:(Int×Z13×Z15)):Option ((Int×Z13×Z15) ⊕ Z5):=cond (decide (s.2.2.2.1<s.2.2.1)) ((m0k s.2.1 s.2.2.2.1).bind fun x1=>(b1N x1.2.2.1).bind fun y2=>cond (lim ((a01 s.2.2.2.2.1)+3)) (some (.inl (s.1,s.2.1,s.2.2.1,wrap .i64 (s.2.2.2.1+1),a03 s.2.2.2.2.1 [wrap .u64 x1.1,wrap .u64 x1.2.1,y2],()))) none) (some (.inr (s.1,s.2.2.2.2.1,())))
def a7I(x:(a3s×Int)):Option LI:=(y0s a5t (x.2,x.1.2.2.2.1,(x.1.2.2.2.1.length:Int),0,([wrap .u64 x.1.1,wrap .u64 x.1.2.1,wrap .u64 x.1.2.2.1.1,wrap .u64 x.1.2.2.1.2.1,wrap .u64 x.1.2.2.1.2.2.1,wrap .u64 (x.1.2.2.2.1.length:Int)]:List Int),())).bind fun w3=>cond (lim ((a01 w3.2.1)+1)) ((a9h (a03 w3.2.1 [wrap .u64 w3.1])).bind fun y4=>cond (lim (2+(a01 y4))) ((a7U (a03 [245,75] y4)).bind fun y5=>cond (lim ((a01 (a03 [245,75] y4))+1)) (some (a03 (a03 [245,75] y4) [y5])) none) none) none
def b4h:FSem:=⟨[.v Q60,.v QI],[.o QV],a7I⟩
def H65:Hints:=⟨[(58,[1,.sv 33 (.list false Q12),34,35,.own 5 5 QU],[Qe 0 [1,.own 5 5 QU]])],[],[(5,[.q,.q,.q,.v,.q,.q,.v,.q,.q,.v,.q,.x,.x])]⟩
def a3S(x:Int):Option Int:=some (v0s (v0r x 0) 8)
def b2E:FSem:=⟨[.v QI],[.v QI],a3S⟩
def a1R(s:Z32):Option (Z32 ⊕ (LI×Unit)):=cond (decide (s.2.2.1<s.2.1)) (cond (lim ((a01 s.2.2.2.1)+1)) (some (.inl (wrap .u64 (a05 s.1 256),s.2.1,wrap .i64 (s.2.2.1+1),a03 s.2.2.2.1 [wrap .u8 (a06 s.1 256)],()))) none) (some (.inr (s.2.2.2.1,())))
def a5j(x:(Int×Int)):Option LI:=(a3S x.2).bind fun y1=>(y0s a1R (x.1,y1,0,[],())).bind fun w2=>some w2.1
def b6y:FSem:=⟨[.v QU,.v QI],[.o QV],a5j⟩
def d5P:Hints:=⟨[(58,[.sv 0 QU,7,8,.own 5 5 QV],[Qe 0 [.own 5 5 QV]])],[],[]⟩
def a1P(x:LI):Option LI:=cond (decide (a01 x<2147483648)) (some (List.reverse x)) none
def a5S:FSem:=⟨[.r false (.o QV)],[],a1P⟩
def a4l(x:(Int×Int)):Option LI:=(a5j (x.1,x.2)).bind fun y1=>(a1P y1).bind fun y2=>some y2
def b4T:FSem:=⟨[.v QU,.v QI],[.o QV],a4l⟩
def a8R(s:Z52):Option (Z52 ⊕ Z30):=cond (decide (s.2.2.2.2.1<8)) (cond ((A0o .u16 s.1 15)==1) (some (.inl (bits .u16 .xor (A0n .u16 s.1 1) 32773,s.2.1,s.2.2.1,s.2.2.2.1,wrap .i64 (s.2.2.2.2.1+1),()))) (some (.inl (A0n .u16 s.1 1,s.2.1,s.2.2.1,s.2.2.2.1,wrap .i64 (s.2.2.2.2.1+1),())))) (some (.inr (s.1,s.2.1,s.2.2.1,s.2.2.2.1,())))
def a5W(s:Z30):Option Z65:=cond (decide (s.2.2.2.1<s.2.2.1)) ((m0k s.2.1 s.2.2.2.1).bind fun x1=>(y0s a8R (bits .u16 .xor s.1 (A0n .u16 (wrap .u16 x1) 8),s.2.1,s.2.2.1,s.2.2.2.1,0,())).bind fun w2=>some (.inl (w2.1,w2.2.1,w2.2.2.1,wrap .i64 (w2.2.2.2.1+1),()))) (some (.inr (s.1,())))
def a6j(x:LI):Option Int:=(y0s a5W (0,x,(x.length:Int),0,())).bind fun w3=>some w3.1
def b1l:FSem:=⟨[.v QB],[.v (.int .u16)],a6j⟩
def H67:Hints:=⟨[(58,[.sv 3 (.int .u16),.sv 7 QB,8,9],[Qe 0 [.sv 3 (.int .u16)]]),(29902,[.sv 3 (.int .u16),.sv 7 QB,8,9,18],[Qe 2 [.sv 3 (.int .u16),.sv 7 QB,8,9]])],[],[]⟩
def a8w(s:(b2v×Int×Int×Z6×b4L)):Option ((b2v×Int×Int×Z6×b4L) ⊕ ((Z6×b4L) ⊕ Z5)):=cond (decide (s.2.2.1<s.2.1)) ((m0k s.1 s.2.2.1).bind fun x2=>(a9N (s.2.2.2.1,x2,s.2.2.2.2.1.2.1)).bind fun y3=>cond (y3.1 != 0) (some (.inr (Sum.inr ((y3.1,[],()))))) (some (.inl (s.1,s.2.1,wrap .i64 (s.2.2.1+1),y3.2,s.2.2.2.2.1,())))) (some (.inr (Sum.inl (s.2.2.2.1,s.2.2.2.2.1,()))))
def a4m(x:a3s):Option (LI×Int):=(a4k x).bind fun y1=>cond (!y1) (some ([],1)) ((y0s a8w (x.2.2.2.2.1,(x.2.2.2.2.1.length:Int),0,([],0,()),x,())).bind fun w4=>match w4 with |.inl a5=>((a4U a5.1).bind fun y7=>(a4V y7).bind fun y8=>(a7I (a5.2.1,(y8.1.length:Int))).bind fun y9=>cond (lim ((a01 y9)+(a01 y8.1))) ((a6j (a03 y9 y8.1)).bind fun y10=>(a4l (wrap .u64 y10,2)).bind fun y11=>cond (lim ((a01 (a03 y9 y8.1))+(a01 y11))) (some (a03 (a03 y9 y8.1) y11,0)) none) none) |.inr b6=>some (b6.2.1,b6.1))
def b1O:FSem:=⟨[.v Q60],[.o QV,.v QI],a4m⟩
def H19:Hints:=⟨[(122,[.sv 14 (.list false Q42),15,16,.box 4 Q9,.vp 1 Q60,Qp 4 4],[Qe 0 [.box 4 Q9,.vp 1 Q60,Qp 4 4],Qr [3,.own 2 2 QV]])],[],[]⟩
def a5X(x:(Int×Int)):Option (Int×Int):=some (wrap .u64 ((wrap .u64 ((wrap .u64 ((A0o .u64 x.1 32)*(A0o .u64 x.2 32)))+(A0o .u64 (wrap .u64 ((wrap .u64 ((A0o .u64 x.1 32)*(bits .u64 .and x.2 4294967295)))+(A0o .u64 (wrap .u64 ((bits .u64 .and x.1 4294967295)*(bits .u64 .and x.2 4294967295))) 32))) 32)))+(A0o .u64 (wrap .u64 ((bits .u64 .and (wrap .u64 ((wrap .u64 ((A0o .u64 x.1 32)*(bits .u64 .and x.2 4294967295)))+(A0o .u64 (wrap .u64 ((bits .u64 .and x.1 4294967295)*(bits .u64 .and x.2 4294967295))) 32))) 4294967295)+(wrap .u64 ((bits .u64 .and x.1 4294967295)*(A0o .u64 x.2 32))))) 32)),wrap .u64 (x.1*x.2))
def b2I:FSem:=⟨[.v QU,.v QU],[.v QU,.v QU],a5X⟩
def a8S(x:(Int×Int×Int)):Option (Int×Int):=cond (decide (x.2.2.toNat≤1)) (some ((((x.1.toNat+x.2.1.toNat+x.2.2.toNat)%18446744073709551616:Nat):Int),(((x.1.toNat+x.2.1.toNat+x.2.2.toNat) / 18446744073709551616:Nat):Int))) none
def b2J:FSem:=⟨[.v QU,.v QU,.v QU],[.v QU,.v QU],a8S⟩
def d1P:Hints:=⟨[],[(3,[Qn [.sv 0 QU,2]]),(7,[Qn [.sv 0 QU,2]]),(15,[Qn [.sv 0 QU,2]])],[]⟩
def b2K(x:Int):Option Int:=A0j (b3t [] [] [0,2] []) d1P Tryz.f324 [.v (.int .u64)] [.v (.int .i64)] x
def b2L:FSem:=⟨[.v QU],[.v QI],b2K⟩
def a3T(x:Int):Option Int:=(b2K x).bind fun y1=>some (wrap .i64 (64-y1))
def a7h:FSem:=⟨[.v QU],[.v QI],a3T⟩
def a1Z(s:Z90):Option (Z90 ⊕ Z81):=(show Option (Z90 ⊕ Z81)from cond (decide (s.2.2.2.2.2.2.2.1≥4294967296)) (some (Sum.inl (s.1,s.2.1,s.2.2.1,s.2.2.2.1,s.2.2.2.2.1,s.2.2.2.2.2.1,s.2.2.2.2.2.2.1,s.2.2.2.2.2.2.2.1,s.2.2.2.2.2.2.2.2.1,()))) (cond (decide ((wrap .u64 (s.2.2.2.2.2.2.2.1*s.2.2.2.1)) > (wrap .u64 ((wrap .u64 (4294967296*s.2.2.2.2.2.2.2.2.1))+s.2.2.2.2.2.1)))) (some (Sum.inl (s.1,s.2.1,s.2.2.1,s.2.2.2.1,s.2.2.2.2.1,s.2.2.2.2.2.1,s.2.2.2.2.2.2.1,s.2.2.2.2.2.2.2.1,s.2.2.2.2.2.2.2.2.1,()))) (some (Sum.inr ((s.1,s.2.1,s.2.2.1,s.2.2.2.1,s.2.2.2.2.1,s.2.2.2.2.2.1,s.2.2.2.2.2.2.1,s.2.2.2.2.2.2.2.1,())))))).bind fun z2=>match z2 with |.inl a3=>(cond (decide ((wrap .u64 (a3.2.2.2.2.2.2.2.2.1+a3.2.2.1))≥4294967296)) (some (.inr (a3.1,a3.2.1,a3.2.2.1,a3.2.2.2.1,a3.2.2.2.2.1,a3.2.2.2.2.2.1,a3.2.2.2.2.2.2.1,wrap .u64 (a3.2.2.2.2.2.2.2.1-1),()))) (some (.inl (a3.1,a3.2.1,a3.2.2.1,a3.2.2.2.1,a3.2.2.2.2.1,a3.2.2.2.2.2.1,a3.2.2.2.2.2.2.1,wrap .u64 (a3.2.2.2.2.2.2.2.1-1),wrap .u64 (a3.2.2.2.2.2.2.2.2.1+a3.2.2.1),())))) |.inr b4=>some (.inr (b4.1,b4.2.1,b4.2.2.1,b4.2.2.2.1,b4.2.2.2.2.1,b4.2.2.2.2.2.1,b4.2.2.2.2.2.2.1,b4.2.2.2.2.2.2.2.1,()))
def a2a(s:Z90):Option (Z90 ⊕ Z54):=(show Option (Z90 ⊕ Z54)from cond (decide (s.2.2.2.2.2.2.2.2.1≥4294967296)) (some (Sum.inl (s.1,s.2.1,s.2.2.1,s.2.2.2.1,s.2.2.2.2.1,s.2.2.2.2.2.1,s.2.2.2.2.2.2.1,s.2.2.2.2.2.2.2.1,s.2.2.2.2.2.2.2.2.1,()))) (cond (decide ((wrap .u64 (s.2.2.2.2.2.2.2.2.1*s.2.2.2.1)) > (wrap .u64 ((wrap .u64 (4294967296*s.2.2.2.2.2.2.1))+s.2.2.2.2.1)))) (some (Sum.inl (s.1,s.2.1,s.2.2.1,s.2.2.2.1,s.2.2.2.2.1,s.2.2.2.2.2.1,s.2.2.2.2.2.2.1,s.2.2.2.2.2.2.2.1,s.2.2.2.2.2.2.2.2.1,()))) (some (Sum.inr ((s.1,s.2.1,s.2.2.2.2.1,s.2.2.2.2.2.1,s.2.2.2.2.2.2.2.1,s.2.2.2.2.2.2.2.2.1,())))))).bind fun z6=>match z6 with |.inl a7=>(cond (decide ((wrap .u64 (a7.2.2.2.2.2.2.1+a7.2.2.1))≥4294967296)) (some (.inr (a7.1,a7.2.1,a7.2.2.2.2.1,a7.2.2.2.2.2.1,a7.2.2.2.2.2.2.2.1,wrap .u64 (a7.2.2.2.2.2.2.2.2.1-1),()))) (some (.inl (a7.1,a7.2.1,a7.2.2.1,a7.2.2.2.1,a7.2.2.2.2.1,a7.2.2.2.2.2.1,wrap .u64 (a7.2.2.2.2.2.2.1+a7.2.2.1),a7.2.2.2.2.2.2.2.1,wrap .u64 (a7.2.2.2.2.2.2.2.2.1-1),())))) |.inr b8=>some (.inr (b8.1,b8.2.1,b8.2.2.1,b8.2.2.2.1,b8.2.2.2.2.1,b8.2.2.2.2.2.1,()))
def a2R(x:(Int×Int×Int)):Option (Int×Int):=cond (x.2.2==0) none (cond (decide (x.2.2≤x.1)) none (cond (x.1==0) (cond (x.2.2==0) none (cond (x.2.2==0) none (some (wrap .u64 (a05 x.2.1 x.2.2),a06 x.2.1 x.2.2)))) ((a3T x.2.2).bind fun y1=>cond (decide ((wrap .u64 y1)<0)) none (cond (decide ((wrap .u64 y1)<0)) none (cond (decide ((wrap .u64 (64-(wrap .u64 y1)))<0)) none (cond (decide ((wrap .u64 y1)<0)) none (cond ((A0o .u64 (A0n .u64 x.2.2 (wrap .u64 y1)) 32)==0) none ((y0s a1Z (A0n .u64 x.2.2 (wrap .u64 y1),wrap .u64 y1,A0o .u64 (A0n .u64 x.2.2 (wrap .u64 y1)) 32,bits .u64 .and (A0n .u64 x.2.2 (wrap .u64 y1)) 4294967295,bits .u64 .or (A0n .u64 x.1 (wrap .u64 y1)) (A0o .u64 x.2.1 (wrap .u64 (64-(wrap .u64 y1)))),A0o .u64 (A0n .u64 x.2.1 (wrap .u64 y1)) 32,bits .u64 .and (A0n .u64 x.2.1 (wrap .u64 y1)) 4294967295,wrap .u64 (a05 (bits .u64 .or (A0n .u64 x.1 (wrap .u64 y1)) (A0o .u64 x.2.1 (wrap .u64 (64-(wrap .u64 y1))))) (A0o .u64 (A0n .u64 x.2.2 (wrap .u64 y1)) 32)),wrap .u64 ((bits .u64 .or (A0n .u64 x.1 (wrap .u64 y1)) (A0o .u64 x.2.1 (wrap .u64 (64-(wrap .u64 y1)))))-(wrap .u64 ((wrap .u64 (a05 (bits .u64 .or (A0n .u64 x.1 (wrap .u64 y1)) (A0o .u64 x.2.1 (wrap .u64 (64-(wrap .u64 y1))))) (A0o .u64 (A0n .u64 x.2.2 (wrap .u64 y1)) 32)))*(A0o .u64 (A0n .u64 x.2.2 (wrap .u64 y1)) 32)))),())).bind fun w5=>cond (w5.2.2.1==0) none ((y0s a2a (w5.1,w5.2.1,w5.2.2.1,w5.2.2.2.1,w5.2.2.2.2.2.2.1,w5.2.2.2.2.2.2.2.1,wrap .u64 ((wrap .u64 ((wrap .u64 ((wrap .u64 (w5.2.2.2.2.1*4294967296))+w5.2.2.2.2.2.1))-(wrap .u64 (w5.2.2.2.2.2.2.2.1*w5.1))))-(wrap .u64 ((wrap .u64 (a05 (wrap .u64 ((wrap .u64 ((wrap .u64 (w5.2.2.2.2.1*4294967296))+w5.2.2.2.2.2.1))-(wrap .u64 (w5.2.2.2.2.2.2.2.1*w5.1)))) w5.2.2.1))*w5.2.2.1))),wrap .u64 ((wrap .u64 ((wrap .u64 (w5.2.2.2.2.1*4294967296))+w5.2.2.2.2.2.1))-(wrap .u64 (w5.2.2.2.2.2.2.2.1*w5.1))),wrap .u64 (a05 (wrap .u64 ((wrap .u64 ((wrap .u64 (w5.2.2.2.2.1*4294967296))+w5.2.2.2.2.2.1))-(wrap .u64 (w5.2.2.2.2.2.2.2.1*w5.1)))) w5.2.2.1),())).bind fun w9=>cond (decide (w9.2.1<0)) none (some (wrap .u64 ((wrap .u64 (w9.2.2.2.1*4294967296))+w9.2.2.2.2.2.1),A0o .u64 (wrap .u64 ((wrap .u64 ((wrap .u64 (w9.2.2.2.2.1*4294967296))+w9.2.2.1))-(wrap .u64 (w9.2.2.2.2.2.1*w9.1)))) w9.2.1)))))))))))
def b2M:FSem:=⟨[.v QU,.v QU,.v QU],[.v QU,.v QU],a2R⟩
def d5Q:Hints:=⟨[(131068,[.sv 2 QU,.sv 8 QU,.sv 9 QU,.sv 10 QU,.sv 11 QU,.sv 13 QU,.sv 14 QU,.sv 15 QU,.sv 16 QU],[Qe 0 [.sv 2 QU,.sv 8 QU,.sv 9 QU,.sv 10 QU,.sv 11 QU,.sv 13 QU,.sv 14 QU,.sv 15 QU]]),(2097148,[.sv 2 QU,.sv 8 QU,.sv 9 QU,.sv 10 QU,.sv 14 QU,.sv 15 QU,.sv 16 QU,.sv 17 QU,.sv 18 QU],[Qe 2 [.sv 2 QU,.sv 8 QU,.sv 14 QU,.sv 15 QU,.sv 17 QU,.sv 18 QU]])],[(262136,[Qn [.sv 2 QU,.sv 8 QU,.sv 9 QU,.sv 10 QU,.sv 11 QU,.sv 13 QU,.sv 14 QU,.sv 15 QU,.sv 16 QU],Qe 0 [.sv 2 QU,.sv 8 QU,.sv 9 QU,.sv 10 QU,.sv 11 QU,.sv 13 QU,.sv 14 QU,.sv 15 QU]]),(4194296,[Qn [.sv 2 QU,.sv 8 QU,.sv 9 QU,.sv 10 QU,.sv 14 QU,.sv 15 QU,.sv 16 QU,.sv 17 QU,.sv 18 QU],Qe 2 [.sv 2 QU,.sv 8 QU,.sv 14 QU,.sv 15 QU,.sv 17 QU,.sv 18 QU]])],[(6,[.v,.v,.v,.v,.v,.v,.v,.x])]⟩
def a8T(x:(Int×Int×Int)):Option Int:=cond (x.2.2==0) none ((a2R (a06 x.1 x.2.2,x.2.1,x.2.2)).bind fun y1=>some y1.2)
def b2N:FSem:=⟨[.v QU,.v QU,.v QU],[.v QU],a8T⟩
def a5O(x:(Int×Int×Int)):Option Int:=(a5X (x.1,x.2.1)).bind fun y1=>(a8S (y1.2,x.2.2,0)).bind fun y2=>(a8T (wrap .u64 (y1.1+y2.2),y2.1,2305843009213693951)).bind fun y3=>some y3
def b1P:FSem:=⟨[.v QU,.v QU,.v QU],[.v QU],a5O⟩
def a7J(s:Z30):Option Z65:=cond (decide (s.2.2.2.1<s.2.2.1)) ((m0k s.2.1 s.2.2.2.1).bind fun x1=>(a5O (s.1,1000003,wrap .u64 ((wrap .u64 x1)+1))).bind fun y2=>some (.inl (y2,s.2.1,s.2.2.1,wrap .i64 (s.2.2.2.1+1),()))) (some (.inr (s.1,())))
def a7V(x:LI):Option Int:=(y0s a7J (0,x,(x.length:Int),0,())).bind fun w3=>some w3.1
def b3B:FSem:=⟨[.v QB],[.v QU],a7V⟩
def H42:Hints:=⟨[(58,[.sv 3 QU,.sv 6 QB,7,8],[Qe 0 [.sv 3 QU]])],[],[]⟩
def a6K(s:(Int×(Int×(Int×((List LI)×Z86))))):Option ((Int×(Int×(Int×((List LI)×Z86)))) ⊕ Z86):=cond (decide (s.2.2.2.2.2.1<s.2.2.2.2.1)) ((m0k s.2.2.2.1 s.2.2.2.2.2.1).bind fun x3=>(m0k x3 s.1).bind fun x4=>cond (lim ((a01 s.2.2.2.2.2.2.1)+1)) (some (.inl (s.1,s.2.1,s.2.2.1,s.2.2.2.1,s.2.2.2.2.1,wrap .i64 (s.2.2.2.2.2.1+1),a03 s.2.2.2.2.2.2.1 [x4],s.2.2.2.2.2.2.2.1,()))) none) (some (.inr (s.2.1,s.2.2.1,s.2.2.2.2.2.2.1,s.2.2.2.2.2.2.2.1,())))
end Go.Ab
namespace Go.Ab
open IntKind(wrap)
open Go.Proofs
set_option maxRecDepth 100000
set_option linter.unusedVariables false
def a6L(s:Z86):Option (Z86 ⊕ (LI×Unit)):=cond (decide (s.2.1<s.1)) ((y0s a6K (s.2.1,s.1,s.2.1,s.2.2.2.1.2.1,(s.2.2.2.1.2.1.length:Int),0,s.2.2.1,s.2.2.2.1,())).bind fun w5=>some (.inl (w5.1,wrap .i64 (w5.2.1+1),w5.2.2.1,w5.2.2.2.1,()))) (some (.inr (s.2.2.1,())))
def a5k(x:Z11):Option LI:=(a3j x).bind fun y1=>cond (!y1) (some []) ((a3i x).bind fun y2=>(y0s a6L (y2,0,[],x,())).bind fun w6=>some w6.1)
def a9t:FSem:=⟨[.v Q15],[.o QI],a5k⟩
def H86:Hints:=⟨[(122,[11,12,.own 3 3 QI,.vp 1 Q15],[Qe 0 [.own 3 3 QI]]),(31334,[4,11,12,.sv 16 (.list false QL),17,18,.own 3 3 QI,.vp 1 Q15],[Qe 2 [11,12,.own 3 3 QI,.vp 1 Q15]])],[],[]⟩
def a4F(s:(Int×(Int×(Int×(LI×(Int×Z32)))))):Option ((Int×(Int×(Int×(LI×(Int×Z32))))) ⊕ Z76):=cond (decide (s.2.2.2.2.2.2.2.1<s.2.2.2.2.2.2.1)) (cond (decide ((wrap .i64 (8*s.2.2.2.2.2.2.2.1))<0)) none (cond (lim ((a01 s.2.2.2.2.2.2.2.2.1)+1)) (some (.inl (s.1,s.2.1,s.2.2.1,s.2.2.2.1,s.2.2.2.2.1,s.2.2.2.2.2.1,s.2.2.2.2.2.2.1,wrap .i64 (s.2.2.2.2.2.2.2.1+1),a03 s.2.2.2.2.2.2.2.2.1 [wrap .u8 (bits .i64 .and (A0o .i64 s.2.2.1 (wrap .i64 (8*s.2.2.2.2.2.2.2.1))) 255)],()))) none)) (some (.inr (s.1,s.2.1,s.2.2.2.1,s.2.2.2.2.1,s.2.2.2.2.2.1,s.2.2.2.2.2.2.2.2.1,())))
def a6M(s:Z76):Option (Z76 ⊕ Z48):=cond (decide (s.2.2.2.2.1<s.2.2.2.1)) ((m0k s.2.2.1 s.2.2.2.2.1).bind fun x2=>(a1U (x2,s.1)).bind fun y3=>cond (!y3) (some (.inr (Sum.inr ((6,[],()))))) ((y0s a4F (s.1,s.2.1,x2,s.2.2.1,s.2.2.2.1,s.2.2.2.2.1,s.2.1,0,s.2.2.2.2.2.1,())).bind fun w4=>some (.inl (w4.1,w4.2.1,w4.2.2.1,w4.2.2.2.1,wrap .i64 (w4.2.2.2.2.1+1),w4.2.2.2.2.2.1,())))) (some (.inr (Sum.inl (s.2.2.2.2.2.1,()))))
def a9u(x:(LI×Int)):Option (LI×Int):=(show Option Z17 from cond (decide (x.2<4)) (some (x.1,x.2,true,())) (some (x.1,x.2,decide (x.2 > 24),()))).bind fun z1=>cond z1.2.2.1 (some ([],1)) ((y0s a6M (z1.2.1,wrap .i64 (a05 (wrap .i64 (z1.2.1+7)) 8),z1.1,(z1.1.length:Int),0,[],())).bind fun w5=>match w5 with |.inl a6=>some (a6.1,0) |.inr b7=>some (b7.2.1,b7.1))
def b6z:FSem:=⟨[.v QL,.v QI],[.o QV,.v QI],a9u⟩
def d5R:Hints:=⟨[(250,[1,6,.sv 20 QL,21,22,.own 7 7 QV],[Qe 0 [.own 7 7 QV],Qr [5,.own 4 4 QV]]),(128206,[1,6,9,.sv 20 QL,21,22,30,31,.own 7 7 QV],[Qe 2 [1,6,.sv 20 QL,21,22,.own 7 7 QV]])],[(6,[Qn [.sv 0 QL,1,.sv 16 .bool]])],[]⟩
def b0H(x:Z11):Option (LI×Int):=(a3j x).bind fun y1=>cond (!y1) (some ([],1)) ((a5k x).bind fun y2=>(a9u (y2,x.1)).bind fun y3=>some (y3.1,y3.2))
def b6U:FSem:=⟨[.v Q15],[.o QV,.v QI],b0H⟩
def d5S:Hints:=⟨[],[],[(3,[.v,.q,.v,.v,.x,.q,.q,.x,.x])]⟩
def a7K(s:Z7):Option (Z7 ⊕ (Int×Unit)):=cond (decide (s.1 > 0)) ((show Option Z7 from cond ((a06 s.1 2)==1) ((a5O (s.2.1,s.2.2.1,0)).bind fun y1=>some (s.1,y1,s.2.2.1,())) (some (s.1,s.2.1,s.2.2.1,()))).bind fun z2=>(a5O (z2.2.2.1,z2.2.2.1,0)).bind fun y3=>some (.inl (wrap .i64 (a05 z2.1 2),z2.2.1,y3,()))) (some (.inr (s.2.1,())))
def b0I(x:Int):Option Int:=(y0s a7K (v0r x 0,1,1000003,())).bind fun w4=>some w4.1
def b6V:FSem:=⟨[.v QI],[.v QU],b0I⟩
def d5T:Hints:=⟨[(58,[0,.sv 3 QU,.sv 4 QU],[Qe 0 [.sv 3 QU]])],[(932,[Qn [0,.sv 3 QU,.sv 4 QU]])],[]⟩
def b1Q(x:(Int×Int×Int)):Option (Int×Bool):=(show Option Z22 from cond (decide (x.1≥2305843009213693951)) (some (x.1,x.2.1,x.2.2,true,())) (cond (decide (x.2.1≥2305843009213693951)) (some (x.1,x.2.1,x.2.2,true,())) (some (x.1,x.2.1,x.2.2,decide (x.2.2<0),())))).bind fun z1=>cond z1.2.2.2.1 (some (0,false)) ((b0I z1.2.2.1).bind fun y2=>(a5O (z1.1,y2,z1.2.1)).bind fun y3=>some (y3,true))
def b7U:FSem:=⟨[.v QU,.v QU,.v QI],[.v QU,.v .bool],b1Q⟩
def d5U:Hints:=⟨[],[(6,[Qn [.sv 0 QU,.sv 1 QU,2,.sv 17 .bool]])],[]⟩
def a4x(x:Z27):Option (Int×Bool):=(b0H x.2).bind fun y1=>cond (y1.2 != 0) (some (0,false)) ((a7V y1.1).bind fun y2=>(b1Q (x.1,y2,(y1.1.length:Int))).bind fun y3=>some (y3.1,y3.2))
def a8x:FSem:=⟨[.v QU,.v Q15],[.v QU,.v .bool],a4x⟩
def a8y(s:(Int×Int×Int×b5K×Int×Int×c5B)):Option ((Int×Int×Int×b5K×Int×Int×c5B) ⊕ ((Int×Int×c5B) ⊕ (Bool×((List LI)×Z43)))):=cond (decide (s.2.2.2.2.2.1<s.2.2.2.2.1)) ((m0k s.2.2.2.1 s.2.2.2.2.2.1).bind fun x3=>(show Option (Int×(Int×(Int×(Int×(b5K×(Int×(Int×(Bool×((List LI)×(Z23×a3s×b3s))))))))))from cond (!(eqT Q12 x3.2.2.1 s.2.2.2.2.2.2.2.2.1.1)) (some (s.1,s.2.1,s.2.2.1,s.2.2.2.2.2.1,s.2.2.2.1,s.2.2.2.2.1,s.2.2.2.2.2.1,true,s.2.2.2.2.2.2.1,s.2.2.2.2.2.2.2.1,x3,s.2.2.2.2.2.2.2.2.1,())) (some (s.1,s.2.1,s.2.2.1,s.2.2.2.2.2.1,s.2.2.2.1,s.2.2.2.2.1,s.2.2.2.2.2.1,x3.1 != s.1,s.2.2.2.2.2.2.1,s.2.2.2.2.2.2.2.1,x3,s.2.2.2.2.2.2.2.2.1,()))).bind fun z4=>cond z4.2.2.2.2.2.2.2.1 (some (.inr (Sum.inr ((false,([]:(List LI)),[],()))))) ((show Option (Int×(Int×(Int×(b5K×(Int×(Int×(Bool×((List LI)×(Z23×a3s×b3s)))))))))from(m0k z4.2.2.2.2.2.2.2.2.2.2.2.1.2.2.2.1 z4.2.2.2.1).bind fun x5=>cond (x5.1 != z4.1) (some (z4.1,z4.2.1,z4.2.2.1,z4.2.2.2.2.1,z4.2.2.2.2.2.1,z4.2.2.2.2.2.2.1,true,z4.2.2.2.2.2.2.2.2.1,z4.2.2.2.2.2.2.2.2.2.1,z4.2.2.2.2.2.2.2.2.2.2.1,z4.2.2.2.2.2.2.2.2.2.2.2.1,())) ((m0k z4.2.2.2.2.2.2.2.2.2.2.2.1.2.2.2.1 z4.2.2.2.1).bind fun x6=>some (z4.1,z4.2.1,z4.2.2.1,z4.2.2.2.2.1,z4.2.2.2.2.2.1,z4.2.2.2.2.2.2.1,x6.2.1 != z4.2.1,z4.2.2.2.2.2.2.2.2.1,z4.2.2.2.2.2.2.2.2.2.1,z4.2.2.2.2.2.2.2.2.2.2.1,z4.2.2.2.2.2.2.2.2.2.2.2.1,()))).bind fun z7=>cond z7.2.2.2.2.2.2.1 (some (.inr (Sum.inr ((false,([]:(List LI)),[],()))))) ((a3Q z7.2.2.2.2.2.2.2.2.2.1).bind fun y8=>cond (y8.2 != 0) (some (.inr (Sum.inr ((false,([]:(List LI)),[],()))))) ((a4m z7.2.2.2.2.2.2.2.2.2.1).bind fun y9=>cond (y9.2 != 0) (some (.inr (Sum.inr ((false,([]:(List LI)),[],()))))) ((a4x (z7.2.2.1,y8.1)).bind fun y10=>cond (!y10.2) (some (.inr (Sum.inr ((false,([]:(List LI)),[],()))))) (cond (lim ((a01 z7.2.2.2.2.2.2.2.1)+1)) (cond (lim ((a01 z7.2.2.2.2.2.2.2.2.1)+1)) (some (.inl (wrap .i64 (z7.1+z7.2.2.2.2.2.2.2.2.2.1.2.1),wrap .i64 (z7.2.1+(y9.1.length:Int)),y10.1,z7.2.2.2.1,z7.2.2.2.2.1,wrap .i64 (z7.2.2.2.2.2.1+1),a03 z7.2.2.2.2.2.2.2.1 ([y9.1]:List LI),a03 z7.2.2.2.2.2.2.2.2.1 ([y8.1]:List Z11),z7.2.2.2.2.2.2.2.2.2.2.1,()))) none) none)))))) (some (.inr (Sum.inl (s.1,s.2.2.1,s.2.2.2.2.2.2.1,s.2.2.2.2.2.2.2.1,s.2.2.2.2.2.2.2.2.1,()))))
def a9i(x:b1j):Option ((List LI)×(Z23×Bool)):=(show Option (Bool×c5B)from(a1V x.1).bind fun y1=>cond (!y1) (some (true,([]:(List LI)),[],x,())) (cond (decide ((x.2.2.2.2.1.length:Int) > 4096)) (some (true,([]:(List LI)),[],x,())) (some ((x.2.2.2.1.length:Int) != (x.2.2.2.2.1.length:Int),([]:(List LI)),[],x,())))).bind fun z2=>cond z2.1 (some (([]:(List LI)),[],false)) ((y0s a8y (0,0,0,z2.2.2.2.1.2.2.2.2.1,(z2.2.2.2.1.2.2.2.2.1.length:Int),0,z2.2.1,z2.2.2.1,z2.2.2.2.1,())).bind fun w11=>match w11 with |.inl a12=>((show Option (Bool×((List LI)×Z43))from cond (a12.2.2.2.2.1.2.1 != a12.1) (some (true,a12.2.2.1,a12.2.2.2.1,())) (some (a12.2.2.2.2.1.2.2.1 != a12.2.1,a12.2.2.1,a12.2.2.2.1,()))).bind fun z14=>cond z14.1 (some (([]:(List LI)),[],false)) (some (z14.2.1,z14.2.2.1,true))) |.inr b13=>some (b13.2.1,b13.2.2.1,b13.1))
def b4U:FSem:=⟨[.v Q74],[.o QB,.o Q15,.v .bool],a9i⟩
def H85:Hints:=⟨[(122,[5,6,.sv 7 QU,.sv 33 (.list false Q60),34,35,.own 2 2 QB,.own 3 3 Q15,.vp 1 Q74],[Qe 0 [5,.sv 7 QU,.own 2 2 QB,.own 3 3 Q15,.vp 1 Q74],Qr [.sv 4 .bool,.own 2 2 QB,.own 3 3 Q15]])],[(6,[Qn [.sv 31 .bool,.own 2 2 QB,.own 3 3 Q15,.vp 1 Q74]]),(62,[Qn [.sv 117 .bool,.own 2 2 QB,.own 3 3 Q15]]),(15666,[Qn [5,6,.sv 7 QU,8,.sv 33 (.list false Q60),34,35,.sv 50 .bool,.own 2 2 QB,.own 3 3 Q15,.box 9 Q60,.vp 1 Q74,Qp 9 9]]),(31334,[Qn [5,6,.sv 7 QU,.sv 33 (.list false Q60),34,35,.sv 68 .bool,.own 2 2 QB,.own 3 3 Q15,.box 9 Q60,.vp 1 Q74,Qp 9 9]])],[]⟩
def b6W(s:(Int×(Int×(LI×Z43)))):Option ((Int×(Int×(LI×Z43))) ⊕ (LI×Unit)):=cond (decide (s.2.1<s.1)) (cond ((decide (0≤s.2.1))&&(decide (s.2.1<(s.2.2.2.1.length:Int)))) ((a5k (a04 s.2.2.2.1 (a00 s.2.1) (0,([]:(List LI)),()))).bind fun y2=>cond (lim ((a01 s.2.2.1)+(a01 y2))) (some (.inl (s.1,wrap .i64 (s.2.1+1),a03 s.2.2.1 y2,s.2.2.2.1,()))) none) none) (some (.inr (s.2.2.1,())))
def b4i(x:b1j):Option (LI×Int):=(a9i x).bind fun y1=>cond (!y1.2.2) (some ([],1)) ((y0s b6W ((y1.2.1.length:Int),0,[],y1.2.1,())).bind fun w3=>some (w3.1,0))
def b4j:FSem:=⟨[.v Q74],[.o QI,.v QI],b4i⟩
def H27:Hints:=⟨[(250,[19,20,.own 7 7 QI,.own 18 5 Q15],[Qe 0 [.own 7 7 QI]])],[],[]⟩
def a5u(s:(Int×b5K×Int×Int×Unit)):Option ((Int×b5K×Int×Int×Unit) ⊕ (Unit ⊕ (Int×Int×Unit))):=cond (decide (s.2.2.2.1<s.2.2.1)) ((m0k s.2.1 s.2.2.2.1).bind fun x1=>cond (decide (x1.1 > s.1)) (some (.inl (s.1,s.2.1,s.2.2.1,wrap .i64 (s.2.2.2.1+1),()))) (cond (decide (x1.2.1≤0)) (some (.inl (s.1,s.2.1,s.2.2.1,wrap .i64 (s.2.2.2.1+1),()))) (cond (decide ((wrap .u64 ((wrap .u64 s.1)-(wrap .u64 x1.1)))<(wrap .u64 x1.2.1))) (some (.inr (Sum.inr ((s.2.2.2.1,0,()))))) (some (.inl (s.1,s.2.1,s.2.2.1,wrap .i64 (s.2.2.2.1+1),())))))) (some (.inr (Sum.inl ())))
def a7W(x:(b1j×Int)):Option (Int×Int):=(y0s a5u (x.2,x.1.2.2.2.2.1,(x.1.2.2.2.2.1.length:Int),0,())).bind fun w2=>match w2 with |.inl a3=>some (0,6) |.inr b4=>some (b4.1,b4.2.1)
def b3C:FSem:=⟨[.v Q74,.v QI],[.v QI,.v QI],a7W⟩
def H31:Hints:=⟨[(26,[1,.sv 9 (.list false Q60),10,11],[Qe 0 [],Qr [4,5]])],[],[]⟩
def a4G(s:(LI×Z6)):Option ((LI×Z6) ⊕ Z0):=cond (decide (s.2.2.1<(s.1.length:Int))) ((m0k s.1 s.2.2.1).bind fun x1=>(m0k s.2.1 s.2.2.1).bind fun x2=>cond (x1 != x2) (some (.inr (Sum.inr ((false,()))))) (some (.inl (s.1,s.2.1,wrap .i64 (s.2.2.1+1),())))) (some (.inr (Sum.inl ())))
def a5l(x:(LI×LI)):Option Bool:=cond ((x.1.length:Int) != (x.2.length:Int)) (some false) ((y0s a4G (x.1,x.2,0,())).bind fun w3=>match w3 with |.inl a4=>some true |.inr b5=>some b5.1)
def b2F:FSem:=⟨[.v QL,.v QL],[.v .bool],a5l⟩
def H35:Hints:=⟨[(58,[.sv 0 QL,.sv 1 QL,5],[Qe 0 [],Qr [.sv 4 .bool]])],[],[(6,[.v,.v,.v,.v,.v,.v,.v,.v,.x])]⟩
def a7X(s:(Z13×Z27)):Option ((Z13×Z27) ⊕ (Z1 ⊕ ((List LI)×(Int×Unit)))):=cond (decide (s.2.2.1<s.2.1)) ((m0k s.1 s.2.2.1).bind fun x5=>(a7T (s.2.2.2.1,x5,1)).bind fun y6=>cond (!y6.1) (some (.inr (Sum.inr ((([]:(List LI)),6,()))))) (some (.inl (s.1,s.2.1,wrap .i64 (s.2.2.1+1),y6.2,())))) (some (.inr (Sum.inl (s.2.2.2.1,()))))
def b2k(x:((List LI)×Z13)):Option ((List LI)×Int):=(show Option ((List LI)×(Z13×Bool×Unit))from(a7v x.1).bind fun y1=>cond (!y1) (some (x.1,x.2,true,())) ((a8n (x.2,(x.1.length:Int))).bind fun y2=>some (x.1,x.2,!y2,()))).bind fun z3=>cond z3.2.2.1 (some (([]:(List LI)),1)) ((a7e z3.1).bind fun y4=>(y0s a7X (z3.2.1,(z3.2.1.length:Int),0,y4,())).bind fun w7=>match w7 with |.inl a8=>some (a8.1,0) |.inr b9=>some (b9.1,b9.2.1))
def b6X:FSem:=⟨[.v (.list false QL),.v (.list false Q12)],[.v (.list false QL),.v QI],b2k⟩
def H59:Hints:=⟨[(122,[.sv 21 (.list false Q12),22,23,.own 6 6 (.list true QI)],[Qe 0 [.own 6 6 (.list true QI)],Qr [.sv 4 (.list false QL),5]])],[(6,[Qn [.sv 0 (.list false QL),.sv 1 (.list false Q12),.sv 18 .bool]])],[]⟩
def a6N(s:(Int×(LI×Z44))):Option ((Int×(LI×Z44)) ⊕ Z44):=cond (decide (s.2.2.1<(s.2.1.length:Int))) ((m0k s.2.1 s.2.2.1).bind fun x3=>(m0k s.2.1 (wrap .i64 (s.2.2.1-1))).bind fun x4=>(m0k s.2.1 (wrap .i64 (s.2.2.1-2))).bind fun x5=>some (.inl (wrap .i64 (s.1+(v0r (wrap .i64 ((wrap .i64 (x3-(wrap .i64 (2*x4))))+x5)) (wrap .i64 (0-(wrap .i64 ((wrap .i64 (x3-(wrap .i64 (2*x4))))+x5)))))),s.2.1,wrap .i64 (s.2.2.1+1),s.2.2.2.1,s.2.2.2.2.1,s.2.2.2.2.2.1,()))) (some (.inr (s.1,s.2.2.2.1,s.2.2.2.2.1,s.2.2.2.2.2.1,())))
def a6O(s:Z44):Option (Z44 ⊕ (Int×Unit)):=cond (decide (s.2.2.2.1<s.2.2.1)) ((m0k s.2.1 s.2.2.2.1).bind fun x2=>(y0s a6N (s.1,x2,2,s.2.1,s.2.2.1,s.2.2.2.1,())).bind fun w6=>some (.inl (w6.1,w6.2.1,w6.2.2.1,wrap .i64 (w6.2.2.2.1+1),()))) (some (.inr (s.1,())))
def a7i(x:(List LI)):Option Int:=(a7v x).bind fun y1=>cond (!y1) (some 0) ((y0s a6O (0,x,(x.length:Int),0,())).bind fun w7=>some w7.1)
def b6A:FSem:=⟨[.v (.list false QL)],[.v QI],a7i⟩
def d5V:Hints:=⟨[(122,[3,.sv 11 (.list false QL),12,13],[Qe 0 [3]]),(31334,[3,.sv 5 QL,6,.sv 11 (.list false QL),12,13],[Qe 2 [3,.sv 11 (.list false QL),12,13]])],[],[(10,[.v,.v,.v,.v,.v,.v,.v,.v,.v,.v,.v,.v,.v,.v,.v,.v,.x,.x])]⟩
def b0J(x:Int):Option Z13:=cond (x==1) (some ([(0,1,(-256),())]:List Z7)) (cond (x==2) (some ([(1,0,(-256),())]:List Z7)) (cond (x==3) (some ([(1,0,(-256),()),(0,1,128,())]:List Z7)) (cond (x==4) (some ([(1,0,(-106),()),(0,1,181,()),(1,0,(-106),())]:List Z7)) (some []))))
def b6Y:FSem:=⟨[.v QI],[.o Q12],b0J⟩
def a6k(s:((List LI)×Z7)):Option (((List LI)×Z7) ⊕ (Int×Unit)):=cond (decide (s.2.2.2.1<5)) ((b0J s.2.2.2.1).bind fun y2=>(b2k (s.1,y2)).bind fun y3=>cond (y3.2 != 0) (some (.inl (s.1,s.2.1,s.2.2.1,wrap .i64 (s.2.2.2.1+1),()))) ((a7i y3.1).bind fun y4=>cond (decide (y4<s.2.2.1)) (some (.inl (s.1,s.2.2.2.1,y4,wrap .i64 (s.2.2.2.1+1),()))) (some (.inl (s.1,s.2.1,s.2.2.1,wrap .i64 (s.2.2.2.1+1),()))))) (some (.inr (s.2.1,())))
def b1R(x:(List LI)):Option Z13:=(a7i x).bind fun y1=>(y0s a6k (x,0,y1,1,())).bind fun w5=>(b0J w5.1).bind fun y6=>some y6
def b7V:FSem:=⟨[.v (.list false QL)],[.o Q12],b1R⟩
def d5W:Hints:=⟨[(58,[.sv 0 (.list false QL),3,4,5],[Qe 0 [3]])],[],[]⟩
def a6l(s:(Int×Int×Int×Z13×Z92)):Option ((Int×Int×Int×Z13×Z92) ⊕ (Int×Z92)):=cond (decide (s.2.2.1<s.2.1)) (cond ((decide (0≤s.2.2.1))&&(decide (s.2.2.1<(s.2.2.2.2.1.length:Int)))) (cond (lim ((a01 s.2.2.2.1)+1)) (some (.inl (s.1,s.2.1,wrap .i64 (s.2.2.1+1),a03 s.2.2.2.1 ([(wrap .i64 (((a04 s.2.2.2.2.1 (a00 s.2.2.1) (0,0,0,())).1)+s.1),wrap .i64 ((((a04 s.2.2.2.2.1 (a00 s.2.2.1) (0,0,0,())).2).1)+s.1),(((a04 s.2.2.2.2.1 (a00 s.2.2.1) (0,0,0,())).2).2).1,())]:List Z7),s.2.2.2.2.1,s.2.2.2.2.2.1,()))) none) none) (some (.inr (s.1,s.2.2.2.1,s.2.2.2.2.2.1,())))
def a8z(s:(Int×Z92)):Option ((Int×Z92) ⊕ (Z13×Unit)):=cond (decide ((wrap .i64 (s.1+1))<(s.2.2.1.2.1.length:Int))) (cond ((decide (0≤(wrap .i64 (s.1+2))))&&(decide ((wrap .i64 (s.1+2))≤(s.2.2.1.2.1.length:Int)))) (cond ((decide (0≤s.1))&&(decide (s.1≤((a00 (wrap .i64 (s.1+2)):Nat):Int)))) ((b1R (a08 (a00 s.1) (a07 (a00 (wrap .i64 (s.1+2))) s.2.2.1.2.1))).bind fun y2=>(y0s a6l (s.1,(y2.length:Int),0,s.2.1,y2,s.2.2.1,())).bind fun w3=>some (.inl (wrap .i64 (w3.1+2),w3.2.1,w3.2.2.1,()))) none) none) (some (.inr (s.2.1,())))
def a7y(x:Z11):Option Z13:=(a3j x).bind fun y1=>cond (!y1) (some []) ((y0s a8z (0,[],x,())).bind fun w4=>some w4.1)
def b7W:FSem:=⟨[.v Q15],[.o Q12],a7y⟩
def H58:Hints:=⟨[(122,[4,.own 3 3 Q12,.vp 1 Q15],[Qe 0 [.own 3 3 Q12]]),(7826,[4,25,26,.own 3 3 Q12,.own 24 1024 Q12,.vp 1 Q15],[Qe 2 [4,.own 3 3 Q12,.vp 1 Q15]])],[],[]⟩
def a6P(s:Z58):Option (Z58 ⊕ Z48):=cond (decide (s.2.2.2.1<s.2.2.1)) ((m0k s.2.1 s.2.2.2.1).bind fun x2=>(show Option (Int×(Int×(LI×(Int×(Int×(Bool×(LI×Unit)))))))from(a5i x2).bind fun y3=>cond (!y3) (some (s.1,x2,s.2.1,s.2.2.1,s.2.2.2.1,true,s.2.2.2.2.1,())) (cond (decide (s.1<0)) none (cond ((A0n .i64 1 s.1)==0) none (some (s.1,x2,s.2.1,s.2.2.1,s.2.2.2.1,(a06 x2 (A0n .i64 1 s.1)) != 0,s.2.2.2.2.1,()))))).bind fun z4=>cond z4.2.2.2.2.2.1 (some (.inr (Sum.inr ((6,[],()))))) (cond (decide (z4.1<0)) none (cond (lim ((a01 z4.2.2.2.2.2.2.1)+1)) (some (.inl (z4.1,z4.2.2.1,z4.2.2.2.1,wrap .i64 (z4.2.2.2.2.1+1),a03 z4.2.2.2.2.2.2.1 [A0o .i64 z4.2.1 z4.1],()))) none))) (some (.inr (Sum.inl (s.2.2.2.2.1,()))))
def a7j(x:(LI×Int)):Option (LI×Int):=(show Option Z17 from cond (decide (x.2<0)) (some (x.1,x.2,true,())) (some (x.1,x.2,decide (x.2 > 30),()))).bind fun z1=>cond z1.2.2.1 (some ([],1)) ((y0s a6P (z1.2.1,z1.1,(z1.1.length:Int),0,[],())).bind fun w5=>match w5 with |.inl a6=>some (a6.1,0) |.inr b7=>some (b7.2.1,b7.1))
def b2G:FSem:=⟨[.v QL,.v QI],[.o QI,.v QI],a7j⟩
def d5X:Hints:=⟨[(122,[1,.sv 15 QL,16,17,.own 6 6 QI],[Qe 0 [.own 6 6 QI],Qr [5,.own 4 4 QI]])],[(6,[Qn [.sv 0 QL,1,.sv 14 .bool]]),(15666,[Qn [1,8,.sv 15 QL,16,17,.sv 30 .bool,.own 6 6 QI]])],[]⟩
def a1y(x:Int):Option Int:=cond (x==0) (some 64) ((m0k b1D (A0o .u64 (wrap .u64 ((bits .u64 .and x (wrap .u64 (0-x)))*285870213051353865)) 58)).bind fun x1=>some (wrap .i64 x1))
def a1j:FSem:=⟨[.v QU],[.v QI],a1y⟩
def b0K:Cx:=b3t [] [] [0,2] []
theorem b7X{ρ:Type}{cx:Cx}{ops:List Oper}:∀(l1 l2:List (Md×Oper)) (Γ:AE) (K:AE→Rs ρ),h0m cx ops (l1++l2) Γ K=h0m cx ops l1 Γ fun Γ'=>h0m cx ops l2 Γ' K
 | [],_,_,_=>rfl
 |(md,o)::l1,l2,Γ,K=>by
  simp only[a20,h0m];congr 1;funext Γ';exact b7X l1 l2 Γ' K
theorem b6Z{ρ:Type}{cx:Cx}{H:Hints}{a b:Code}{p:Nat}(h:find H.cuts p=none)(Γ:AE)(K:Ex→AE→Rs ρ):c0n cx H (.seq a b) p Γ K=c0n cx H a (2*p) Γ fun e Γ'=>match e with
   |.normal=>c0n cx H b (2*p+1) Γ' K
   |e=>K e Γ':=by
 simp only[c0n,h];rfl
theorem c2W{ρ:Type}{cx:Cx}{H:Hints}{id:Nat}{ops:Array Oper}{p:Nat}(Γ:AE)(K:Ex→AE→Rs ρ):c0n cx H (.region id ops false) p Γ K=h0m cx ops.toList (ops.toList.map fun o=>(.x,o)) Γ fun Γ'=>K .normal Γ':=by
 simp only[c0n,cF]
def a9O:Code:=match Tryz.f191.body with
 |some c=>c
 |none=>.skip
def c1b:Code→Code
 |.seq a _=>a
 |c=>c
def c5D:Code→Code
 |.seq _ b=>b
 |c=>c
def c7b:Code→Array Oper
 |.region _ ops _=>ops
 |_=>#[]
def c4X:Code:=c5D (c5D a9O)
def b3D:List Oper:=(c7b (c1b c4X)).toList
def Γ191(x:Int):AE:=(((ini [.v QU] x).set 2 (.val QI (0:Int))).set 3 (.val QU x)).set 4 (.val .bool (x==(0:Int)))
def Γ191r(x:Int):AE:=(Γ191 x).set 2 (.val QI (64:Int))
def c2X(e:Ex)(Γ:AE):Option Int:=match e,Γ.pd with
  |.exit _,_=>none
  |_,some _=>none
  |_,none=>(Γ.upto Tryz.f191.ntmps).outs b0K [] Tryz.f191.ntmps [.v QI] (Tryz.f191.results.toList.map .inl) fun y _=>some y
def Γ191b(x a b c i:Int):AE:=((((((Γ191 x).set 5 (.val QU x)).set 6 (.val QU x)).set 7 (.val QU a)).set 8 (.val QU b)).set 9 (.val QU c)).set 10 (.val QU i)
set_option maxRecDepth 100000
theorem c8k:a9O=.seq (c1b a9O) (.seq (c1b (c5D a9O)) (.seq (.region 3 (c7b (c1b c4X)) false) .ret)):=by kernel_rfl
theorem d0O(x:Int):A0j b0K QH Tryz.f191 a1j.ps a1j.rs x=c0n b0K QH a9O 1 (ini [.v (.int .u64)] x) c2X:=rfl
theorem d0P(x:Int)(K:Ex→AE→Option Int):c0n b0K QH (c1b a9O) 2 (ini [.v (.int .u64)] x) K=K .normal ((ini [.v (.int .u64)] x).set 2 (.val (.int .i64) (0:Int))):=by kernel_rfl
theorem d0Q(x:Int)(K:Ex→AE→Option Int):c0n b0K QH (c1b (c5D a9O)) 6 ((ini [.v (.int .u64)] x).set 2 (.val (.int .i64) (0:Int))) K=bif x==(0:Int)then K .ret (Γ191r x)else K .normal (Γ191 x):=by kernel_rfl
theorem d0R(x:Int):c2X .ret (Γ191r x)=some (64:Int):=by kernel_rfl
theorem d0S(x:Int)(K:AE→Option Int):h0m b0K b3D ((b3D.map fun o=>(Md.x,o)).take 6) (Γ191 x) K =
  K (Γ191b x (wrap .u64 (0-x)) (bits .u64 .and x (wrap .u64 (0-x))) (wrap .u64 ((bits .u64 .and x (wrap .u64 (0-x)))*(285870213051353865:Int))) (A0o .u64 (wrap .u64 ((bits .u64 .and x (wrap .u64 (0-x)))*(285870213051353865:Int))) (58:Int))):=by kernel_rfl
theorem d0T(x a b c i:Int):h0m b0K b3D ((b3D.map fun o=>(Md.x,o)).drop 6) (Γ191b x a b c i) (fun Γ=>c2X .ret Γ)=(m0k b1D i).bind fun h=>some (wrap .i64 h):=by kernel_rfl
theorem d0U(x:Int):h0m b0K b3D (b3D.map fun o=>(Md.x,o)) (Γ191 x) (fun Γ=>c2X .ret Γ)=(m0k b1D (A0o .u64 (wrap .u64 ((bits .u64 .and x (wrap .u64 (0-x)))*(285870213051353865:Int))) (58:Int))).bind fun h=>some (wrap .i64 h):=by
 rw[←List.take_append_drop 6 (b3D.map fun o=>(Md.x,o)),b7X,d0S,d0T]
theorem d1Q(x:Int):c0n b0K QH a9O 1 (ini [.v (.int .u64)] x) c2X=a1y x:=by
 rw[c8k,b6Z rfl,d0P];simp only[];rw[b6Z rfl,d0Q];simp only[];rw[b6Z rfl,c2W];simp only[c0n];rw[d0R];exact congrArg (fun z=>bif x==(0:Int)then some (64:Int)else z) (d0U x)
theorem d2S(x):A0j b0K QH Tryz.f191 a1j.ps a1j.rs x=a1j.F x:=(d0O x).trans (d1Q x)
def a5v(s:Z30):Option Z65:=cond (decide (s.2.2.2.1<s.2.2.1)) ((m0k s.2.1 s.2.2.2.1).bind fun x1=>some (.inl (bits .i64 .or s.1 x1,s.2.1,s.2.2.1,wrap .i64 (s.2.2.2.1+1),()))) (some (.inr (s.1,())))
def a3E(x:LI):Option Int:=(y0s a5v (0,x,(x.length:Int),0,())).bind fun w2=>cond (w2.1==0) (some 0) ((a1y (wrap .u64 w2.1)).bind fun y3=>some (v0s y3 30))
def b0L:FSem:=⟨[.v QL],[.v QI],a3E⟩
def d5Y:Hints:=⟨[(58,[3,.sv 6 QL,7,8],[Qe 0 [3]])],[],[]⟩
def a5w(s:Z32):Option (Z32 ⊕ Z15):=cond (decide ((wrap .i64 (s.1+1))<(s.2.2.2.1.length:Int))) (cond ((decide (0≤(wrap .i64 (s.1+1))))&&(decide ((wrap .i64 (s.1+1))<(s.2.2.2.1.length:Int)))) (cond ((decide (0≤s.1))&&(decide (s.1<(s.2.2.2.1.length:Int)))) (cond ((decide (0≤s.1))&&(decide (s.1<(s.2.2.2.1.length:Int)))) (some (.inl (wrap .i64 (s.1+1),s.2.1,s.2.2.1,a18 s.2.2.2.1 (a00 s.1) (wrap .i64 ((a04 s.2.2.2.1 (a00 (wrap .i64 (s.1+1))) 0)-(a04 s.2.2.2.1 (a00 s.1) 0))),()))) none) none) none) (some (.inr (s.2.1,s.2.2.1,s.2.2.2.1,())))
def a7L(s:Z15):Option (Z15 ⊕ (LI×Unit)):=cond (decide (s.2.1<s.1)) ((y0s a5w (0,s.1,s.2.1,s.2.2.1,())).bind fun w3=>cond ((decide (0≤(wrap .i64 ((w3.2.2.1.length:Int)-1))))&&(decide ((wrap .i64 ((w3.2.2.1.length:Int)-1))≤(w3.2.2.1.length:Int)))) (cond (decide ((a00 (wrap .i64 ((w3.2.2.1.length:Int)-1)))≤(a01 w3.2.2.1))) (some (.inl (w3.1,wrap .i64 (w3.2.1+1),a07 (a00 (wrap .i64 ((w3.2.2.1.length:Int)-1))) w3.2.2.1,()))) none) none) (some (.inr (s.2.2.1,())))
def a4H(x:(LI×Int)):Option (LI×Int):=(show Option Z17 from cond (decide (x.2<0)) (some (x.1,x.2,true,())) (cond (decide (x.2 > 4)) (some (x.1,x.2,true,())) (some (x.1,x.2,decide ((x.1.length:Int)<x.2),())))).bind fun z1=>cond z1.2.2.1 (some ([],1)) ((a2L z1.1).bind fun y2=>cond (!y2) (some ([],6)) (cond (lim (a01 z1.1)) ((y0s a7L (z1.2.1,0,z1.1,())).bind fun w4=>(a2L w4.1).bind fun y5=>cond (!y5) (some ([],6)) (some (w4.1,0))) none))
def b3E:FSem:=⟨[.v QL,.v QI],[.o QI,.v QI],a4H⟩
def d5Z:Hints:=⟨[(250,[25,26,.own 6 6 QI],[Qe 0 [.own 6 6 QI]]),(64098,[7,25,26,.own 6 6 QI],[Qe 2 [25,26,.own 6 6 QI]])],[(6,[Qn [.sv 0 QL,1,.sv 19 .bool]])],[(11,[.q,.v,.q,.v,.v,.q,.q,.q,.v,.q,.q,.v,.x,.x])]⟩
def a4I(s:Z50):Option (Z50 ⊕ (Int×Unit)):=cond (decide (s.2.2.2.2.1<s.2.2.2.1)) ((m0k s.2.2.1 s.2.2.2.2.1).bind fun x1=>cond (decide ((wrap .i64 (s.2.2.2.2.1+s.1))≥4)) (some (.inl (s.1,wrap .i64 (s.2.1+(v0r x1 (wrap .i64 (0-x1)))),s.2.2.1,s.2.2.2.1,wrap .i64 (s.2.2.2.2.1+1),()))) (some (.inl (s.1,s.2.1,s.2.2.1,s.2.2.2.1,wrap .i64 (s.2.2.2.2.1+1),())))) (some (.inr (s.2.1,())))
def a9v(x:(LI×Int)):Option Int:=(y0s a4I (x.2,0,x.1,(x.1.length:Int),0,())).bind fun w2=>some w2.1
def b6B:FSem:=⟨[.v QL,.v QI],[.v QI],a9v⟩
def d6a:Hints:=⟨[(58,[1,5,.sv 8 QL,9,10],[Qe 0 [5]])],[],[]⟩
def a3F(s:Z31):Option (Z31 ⊕ (Int×Unit)):=cond (decide (s.2.2.2.1≤4)) ((a4H (s.1,s.2.2.2.1)).bind fun y1=>cond (y1.2 != 0) (some (.inl (s.1,s.2.1,s.2.2.1,wrap .i64 (s.2.2.2.1+1),()))) ((a9v (y1.1,s.2.2.2.1)).bind fun y2=>(show Option (LI×(Int×Z22))from cond (decide (s.2.2.1<0)) (some (s.1,s.2.1,s.2.2.1,s.2.2.2.1,y2,true,())) (some (s.1,s.2.1,s.2.2.1,s.2.2.2.1,y2,decide (y2<s.2.2.1),()))).bind fun z3=>cond z3.2.2.2.2.2.1 (some (.inl (z3.1,z3.2.2.2.1,z3.2.2.2.2.1,wrap .i64 (z3.2.2.2.1+1),()))) (some (.inl (z3.1,z3.2.1,z3.2.2.1,wrap .i64 (z3.2.2.2.1+1),()))))) (some (.inr (s.2.1,())))
def a6m(x:LI):Option Int:=(y0s a3F (x,0,(-1),0,())).bind fun w4=>some w4.1
def b7a:FSem:=⟨[.v QL],[.v QI],a6m⟩
def d6b:Hints:=⟨[(58,[.sv 0 QL,3,4,5],[Qe 0 [3]])],[(7463,[Qn [.sv 0 QL,3,4,5,8,.sv 30 .bool]])],[]⟩
def a2D(x:Int):Option Int:=some (v0s (v0r x (-1048576)) 1048575)
def b1m:FSem:=⟨[.v QI],[.v QI],a2D⟩
def a3u(s:Z73):Option (Z73 ⊕ Z60):=cond (decide (s.2.1<0)) none ((a2D (A0o .i64 s.2.2.1 s.2.1)).bind fun y2=>cond (decide (s.2.1<0)) none (cond (y2 != (A0o .i64 s.2.2.1 s.2.1)) (some (.inl (s.1,wrap .i64 (s.2.1+1),s.2.2.1,s.2.2.2.1,s.2.2.2.2.1,s.2.2.2.2.2.1,()))) (some (.inr (s.1,s.2.1,s.2.2.2.1,s.2.2.2.2.1,s.2.2.2.2.2.1,())))))
def a5x(s:Z60):Option (Z60 ⊕ Z6):=cond (decide (s.2.2.2.2.1<s.2.2.2.1)) ((m0k s.2.2.1 s.2.2.2.2.1).bind fun x1=>(y0s a3u (s.1,s.2.1,x1,s.2.2.1,s.2.2.2.1,s.2.2.2.2.1,())).bind fun w3=>some (.inl (w3.1,w3.2.1,w3.2.2.1,w3.2.2.2.1,wrap .i64 (w3.2.2.2.2.1+1),()))) (some (.inr (s.1,s.2.1,())))
def a5y(s:Z58):Option (Z58 ⊕ (LI×Unit)):=cond (decide (s.2.2.2.1<s.2.2.1)) ((m0k s.2.1 s.2.2.2.1).bind fun x5=>cond (decide (s.1<0)) none (cond ((decide (0≤s.2.2.2.1))&&(decide (s.2.2.2.1<(s.2.2.2.2.1.length:Int)))) (some (.inl (s.1,s.2.1,s.2.2.1,wrap .i64 (s.2.2.2.1+1),a18 s.2.2.2.2.1 (a00 s.2.2.2.1) (A0o .i64 x5 s.1),()))) none)) (some (.inr (s.2.2.2.2.1,())))
def a7M(x:LI):Option LI:=(y0s a5x (x,0,x,(x.length:Int),0,())).bind fun w4=>cond ((decide (0≤(w4.1.length:Int)))&&((decide ((w4.1.length:Int)≤(w4.1.length:Int)))&&(lim (a00 (w4.1.length:Int))))) ((y0s a5y (w4.2.1,w4.1,(w4.1.length:Int),0,a02 (a00 (w4.1.length:Int)) 0,())).bind fun w6=>some w6.1) none
def b4k:FSem:=⟨[.v QL],[.o QI],a7M⟩
def d6c:Hints:=⟨[(58,[.sv 0 QL,3,.sv 9 QL,10,11],[Qe 0 [.sv 0 QL,3]]),(250,[3,.sv 29 QL,30,31,.own 6 6 QI],[Qe 4 [.own 6 6 QI]]),(7474,[.sv 0 QL,3,5,.sv 9 QL,10,11],[Qe 2 [.sv 0 QL,3,.sv 9 QL,10,11]])],[],[(5,[.v,.v,.v,.v,.v,.v,.v,.x])]⟩
def a3n(s:Z61):Option (Z61 ⊕ (Int×Int×Unit)):=cond (decide (s.2.2.2.2.1<(s.1.length:Int))) ((m0k s.1 s.2.2.2.2.1).bind fun x1=>(m0k s.2.1 (wrap .i64 (s.2.2.2.2.1-1))).bind fun x2=>(m0k s.1 s.2.2.2.2.1).bind fun x3=>(m0k s.1 s.2.2.2.2.1).bind fun x4=>(m0k s.2.1 (wrap .i64 (s.2.2.2.2.1-1))).bind fun x5=>(m0k s.2.1 (wrap .i64 (s.2.2.2.2.1-1))).bind fun x6=>some (.inl (s.1,s.2.1,wrap .i64 (s.2.2.1+(wrap .i64 (x1*x2))),wrap .i64 (s.2.2.2.1+(wrap .i64 ((wrap .i64 (x3*x4))+(wrap .i64 (x5*x6))))),wrap .i64 (s.2.2.2.2.1+1),()))) (some (.inr (s.2.2.1,s.2.2.2.1,())))
def a3o(s:(Int×Int×Unit)):Option ((Int×Int×Unit) ⊕ (Int×Int×Unit)):=cond (decide (s.2.1≥1099511627776)) (some (.inl (A0o .i64 s.1 1,A0o .i64 s.2.1 1,()))) (some (.inr (s.1,s.2.1,())))
def a4W(x:Z10):Option Int:=(y0s a3n (x.1,x.2.1,0,0,x.2.2,())).bind fun w7=>(y0s a3o (w7.1,w7.2.1,())).bind fun w8=>cond (w8.2.1==0) (some 0) (cond (w8.2.1==0) none ((show Option (Int×Unit)from cond (w8.2.1==0) none (cond (decide ((a06 (A0n .i64 w8.1 15) w8.2.1)<0)) (some (wrap .i64 ((wrap .i64 (a05 (A0n .i64 w8.1 15) w8.2.1))-1),())) (some (wrap .i64 (a05 (A0n .i64 w8.1 15) w8.2.1),())))).bind fun z9=>some (v0s (v0r z9.1 (-16383)) 16383)))
def b1f:FSem:=⟨[.v QL,.v QL,.v QI],[.v QI],a4W⟩
def d6d:Hints:=⟨[(58,[.sv 0 QL,.sv 1 QL,7,8,9],[Qe 0 [7,8]]),(60,[7,8],[Qe 2 [7,8]])],[(255,[Qn [10]])],[(5,[.v,.v,.v,.v,.v,.v,.v,.v,.v,.v,.v,.x,.x]),(6,[.v,.v,.v,.v,.v,.v,.v,.v,.v,.v,.v,.v,.v,.v,.v,.v,.v,.v,.v,.v,.v,.v,.x,.x])]⟩
def a3b(s:(Int×Int×Z71)):Option ((Int×Int×Z71) ⊕ Z71):=cond (decide (s.2.2.2.1≥s.2.1)) (cond ((decide (0≤s.2.2.2.1))&&(decide (s.2.2.2.1<(s.2.2.2.2.1.length:Int)))) (cond ((decide (0≤(wrap .i64 (s.2.2.2.1-1))))&&(decide ((wrap .i64 (s.2.2.2.1-1))<(s.2.2.2.2.2.1.length:Int)))) ((a2D (wrap .i64 ((a04 s.2.2.2.2.1 (a00 s.2.2.2.1) 0)-(A0o .i64 (wrap .i64 (s.2.2.1*(a04 s.2.2.2.2.2.1 (a00 (wrap .i64 (s.2.2.2.1-1))) 0))) 14)))).bind fun y6=>cond ((decide (0≤s.2.2.2.1))&&(decide (s.2.2.2.1<(s.2.2.2.2.1.length:Int)))) ((a2D (wrap .i64 ((a04 s.2.2.2.2.2.1 (a00 (wrap .i64 (s.2.2.2.1-1))) 0)-(A0o .i64 (wrap .i64 (s.2.2.1*(a04 s.2.2.2.2.1 (a00 s.2.2.2.1) 0))) 14)))).bind fun y7=>cond ((decide (0≤s.2.2.2.1))&&(decide (s.2.2.2.1<(s.2.2.2.2.2.1.length:Int)))) (some (.inl (s.1,s.2.1,s.2.2.1,wrap .i64 (s.2.2.2.1-1),a18 s.2.2.2.2.1 (a00 s.2.2.2.1) y6,a18 s.2.2.2.2.2.1 (a00 s.2.2.2.1) y7,s.2.2.2.2.2.2.1,()))) none) none) none) none) (some (.inr (s.1,s.2.1,s.2.2.2.2.1,s.2.2.2.2.2.1,s.2.2.2.2.2.2.1,())))
def a3c(s:Z71):Option (Z71 ⊕ (LI×Unit)):=cond (decide (s.2.1≤s.1)) ((a4W (s.2.2.1,s.2.2.2.1,s.2.1)).bind fun y5=>cond (lim ((a01 s.2.2.2.2.1)+1)) ((y0s a3b (s.1,s.2.1,y5,wrap .i64 ((s.2.2.1.length:Int)-1),s.2.2.1,s.2.2.2.1,a03 s.2.2.2.2.1 [y5],())).bind fun w8=>some (.inl (w8.1,wrap .i64 (w8.2.1+1),w8.2.2.1,w8.2.2.2.1,w8.2.2.2.2.1,()))) none) (some (.inr (s.2.2.2.2.1,())))
def a6Q(x:(LI×Int)):Option (LI×Int):=(show Option Z17 from cond (decide (x.2<1)) (some (x.1,x.2,true,())) (cond (decide (x.2 > 32)) (some (x.1,x.2,true,())) (some (x.1,x.2,decide ((x.1.length:Int) > 4096),())))).bind fun z1=>cond z1.2.2.1 (some ([],1)) ((a2B z1.1).bind fun y2=>cond (!y2) (some ([],6)) ((a7M z1.1).bind fun y3=>(a1g y3).bind fun y4=>cond ((decide (0≤z1.2.1))&&(lim (a00 z1.2.1))) ((y0s a3c (z1.2.1,1,y3,y4,[],())).bind fun w9=>some (w9.1,0)) none))
def b3F:FSem:=⟨[.v QL,.v QI],[.o QI,.v QI],a6Q⟩
def d6e:Hints:=⟨[(1018,[1,9,.own 6 6 QI,.own 7 7 QI,.own 8 8 QI],[Qe 0 [.own 8 8 QI]]),(260686,[1,9,10,11,.own 6 6 QI,.own 7 7 QI,.own 8 8 QI],[Qe 2 [1,9,.own 6 6 QI,.own 7 7 QI,.own 8 8 QI]])],[(6,[Qn [.sv 0 QL,1,.sv 24 .bool]])],[(16,[.q,.v,.q,.q,.q,.v,.v,.q,.q,.v,.x])]⟩
def a2g(s:Z45):Option (Z45 ⊕ ((LI×Unit) ⊕ Z6)):=cond (decide (s.2.2.2.1<s.2.2.1)) ((m0k s.2.1 s.2.2.2.1).bind fun x2=>(show Option (LI×Z34)from cond (decide (x2<(-16383))) (some (s.1,s.2.1,s.2.2.1,s.2.2.2.1,true,())) (some (s.1,s.2.1,s.2.2.1,s.2.2.2.1,decide (x2 > 16383),()))).bind fun z3=>cond z3.2.2.2.2.1 (some (.inr (Sum.inr (([],1,()))))) (some (.inl (z3.1,z3.2.1,z3.2.2.1,wrap .i64 (z3.2.2.2.1+1),())))) (some (.inr (Sum.inl (s.1,()))))
def a4a(s:(LI×(Int×(Int×(LI×Z76))))):Option ((LI×(Int×(Int×(LI×Z76)))) ⊕ Z58):=cond (decide (s.2.2.2.2.2.2.2.2.1<s.2.2.2.2.2.2.2.1)) ((m0k s.2.2.2.2.2.2.1 s.2.2.2.2.2.2.2.2.1).bind fun x8=>(m0k s.1 (wrap .i64 ((wrap .i64 (s.2.1-1))-s.2.2.2.2.2.2.2.2.1))).bind fun x9=>cond (lim ((a01 s.2.2.2.2.2.2.2.2.2.1)+1)) (some (.inl (s.1,s.2.1,s.2.2.1,s.2.2.2.1,s.2.2.2.2.1,s.2.2.2.2.2.1,s.2.2.2.2.2.2.1,s.2.2.2.2.2.2.2.1,wrap .i64 (s.2.2.2.2.2.2.2.2.1+1),a03 s.2.2.2.2.2.2.2.2.2.1 [wrap .i64 (x8-(A0o .i64 (wrap .i64 (s.2.2.1*x9)) 14))],()))) none) (some (.inr (s.2.2.1,s.2.2.2.1,s.2.2.2.2.1,s.2.2.2.2.2.1,s.2.2.2.2.2.2.2.2.2.1,())))
def a5Y(s:Z45):Option (Z45 ⊕ (LI×Unit)):=cond (decide (s.2.2.2.1<s.2.2.1)) ((m0k s.2.1 s.2.2.2.1).bind fun x7=>cond ((decide (0≤(wrap .i64 (s.2.2.2.1+1))))&&(lim (a00 (wrap .i64 (s.2.2.2.1+1))))) ((y0s a4a (s.1,s.2.2.2.1,x7,s.2.1,s.2.2.1,s.2.2.2.1,s.1,(s.1.length:Int),0,[],())).bind fun w10=>cond (lim ((a01 w10.2.2.2.2.1)+1)) (some (.inl (a03 w10.2.2.2.2.1 [w10.1],w10.2.1,w10.2.2.1,wrap .i64 (w10.2.2.2.1+1),()))) none) none) (some (.inr (s.1,())))
def a8A(x:LI):Option (LI×Int):=(show Option (LI×(Bool×Unit))from cond (decide ((x.length:Int)<1)) (some (x,true,())) (some (x,decide ((x.length:Int) > 32),()))).bind fun z1=>cond z1.2.1 (some ([],1)) ((y0s a2g (z1.1,z1.1,(z1.1.length:Int),0,())).bind fun w4=>match w4 with |.inl a5=>((y0s a5Y ([],a5.1,(a5.1.length:Int),0,())).bind fun w11=>some (w11.1,0)) |.inr b6=>some (b6.1,b6.2.1))
def b5k:FSem:=⟨[.v QL],[.v QL,.v QI],a8A⟩
def d6f:Hints:=⟨[(58,[.sv 0 QL,.sv 20 QL,21,22],[Qe 0 [.sv 0 QL],Qr [.sv 2 QL,3]]),(250,[.sv 6 QL,.sv 34 QL,35,36],[Qe 2 [.sv 6 QL]]),(256410,[.sv 6 QL,7,8,.sv 34 QL,35,36,.sv 44 QL,45,46,.own 9 9 QI],[Qe 4 [8,.sv 34 QL,35,36,.own 9 9 QI]])],[(6,[Qn [.sv 0 QL,.sv 19 .bool]]),(3737,[Qn [.sv 0 QL,.sv 20 QL,21,22,.sv 31 .bool]])],[]⟩
def a2h(s:Z60):Option (Z60 ⊕ (Z6 ⊕ Z15)):=cond (decide (s.2.2.2.2.1<s.2.2.2.1)) ((m0k s.2.2.1 s.2.2.2.2.1).bind fun x2=>(show Option (LI×(Int×Z34))from cond (decide (x2<(-35184372088832))) (some (s.1,s.2.1,s.2.2.1,s.2.2.2.1,s.2.2.2.2.1,true,())) (some (s.1,s.2.1,s.2.2.1,s.2.2.2.1,s.2.2.2.2.1,decide (x2 > 35184372088832),()))).bind fun z3=>cond z3.2.2.2.2.2.1 (some (.inr (Sum.inr ((0,1,[],()))))) (some (.inl (z3.1,z3.2.1,z3.2.2.1,z3.2.2.2.1,wrap .i64 (z3.2.2.2.2.1+1),())))) (some (.inr (Sum.inl (s.1,s.2.1,()))))
def a2i(s:(LI×(Int×Z76))):Option ((LI×(Int×Z76)) ⊕ Z41):=cond (decide (s.2.2.2.2.2.2.1<s.2.2.2.2.2.1)) ((m0k s.2.2.2.2.1 s.2.2.2.2.2.2.1).bind fun x8=>cond (decide (s.2.2.1<0)) none ((a1U (A0o .i64 (wrap .i64 (x8+s.2.2.2.1)) s.2.2.1,s.2.1)).bind fun y9=>cond (!y9) (some (.inr (s.1,s.2.1,s.2.2.1,s.2.2.2.2.2.2.2.1,()))) (cond (lim ((a01 s.2.2.2.2.2.2.2.1)+1)) (some (.inl (s.1,s.2.1,s.2.2.1,s.2.2.2.1,s.2.2.2.2.1,s.2.2.2.2.2.1,wrap .i64 (s.2.2.2.2.2.2.1+1),a03 s.2.2.2.2.2.2.2.1 [A0o .i64 (wrap .i64 (x8+s.2.2.2.1)) s.2.2.1],()))) none))) (some (.inr (s.1,s.2.1,s.2.2.1,s.2.2.2.2.2.2.2.1,())))
def a2S(s:Z14):Option (Z14 ⊕ (Unit ⊕ Z15)):=cond (decide (s.2.2.1≤14)) ((show Option Z31 from cond (decide (s.2.2.1 > 0)) (cond (decide ((wrap .i64 (s.2.2.1-1))<0)) none (some (s.1,s.2.1,s.2.2.1,A0n .i64 1 (wrap .i64 (s.2.2.1-1)),()))) (some (s.1,s.2.1,s.2.2.1,0,()))).bind fun z7=>cond ((decide (0≤(z7.1.length:Int)))&&(lim (a00 (z7.1.length:Int)))) ((y0s a2i (z7.1,z7.2.1,z7.2.2.1,z7.2.2.2.1,z7.1,(z7.1.length:Int),0,[],())).bind fun w10=>cond ((w10.2.2.2.1.length:Int)==(w10.1.length:Int)) (some (.inr (Sum.inr ((wrap .i64 (14-w10.2.2.1),0,w10.2.2.2.1,()))))) (some (.inl (w10.1,w10.2.1,wrap .i64 (w10.2.2.1+1),())))) none) (some (.inr (Sum.inl ())))
def a8B(x:(LI×Int)):Option Z3:=(show Option Z17 from cond (decide ((x.1.length:Int)<1)) (some (x.1,x.2,true,())) (cond (decide ((x.1.length:Int) > 32)) (some (x.1,x.2,true,())) (cond (decide (x.2<2)) (some (x.1,x.2,true,())) (some (x.1,x.2,decide (x.2 > 16),()))))).bind fun z1=>cond z1.2.2.1 (some ([],0,1)) ((y0s a2h (z1.1,z1.2.1,z1.1,(z1.1.length:Int),0,())).bind fun w4=>match w4 with |.inl a5=>((y0s a2S (a5.1,a5.2.1,0,())).bind fun w11=>match w11 with |.inl a12=>some ([],0,6) |.inr b13=>some (b13.2.2.1,b13.1,b13.2.1)) |.inr b6=>some (b6.2.2.1,b6.1,b6.2.1))
def b5l:FSem:=⟨[.v QL,.v QI],[.o QI,.v QI,.v QI],a8B⟩
def d6g:Hints:=⟨[(58,[.sv 0 QL,1,.sv 31 QL,32,33],[Qe 0 [.sv 0 QL,1],Qr [5,6,.own 4 4 QI]]),(122,[.sv 0 QL,1,9],[Qe 2 [],Qr [5,6,.own 4 11 QI]]),(125242,[.sv 0 QL,1,9,10,.sv 56 QL,57,58,.own 11 11 QI],[Qe 4 [.sv 0 QL,1,9,.own 11 11 QI]])],[(6,[Qn [.sv 0 QL,1,.sv 30 .bool]]),(3737,[Qn [.sv 0 QL,1,.sv 31 QL,32,33,.sv 42 .bool]]),(3913,[Qn [.sv 0 QL,1,9,10]])],[]⟩
def a3U(x:Z3):Option Z3:=(a6Q (x.1,x.2.1)).bind fun y1=>cond (y1.2 != 0) (some ([],0,y1.2)) ((a8A y1.1).bind fun y2=>cond (y2.2 != 0) (some ([],0,y2.2)) ((a8B (y2.1,x.2.2)).bind fun y3=>some (y3.1,y3.2.1,y3.2.2)))
def b2H:FSem:=⟨[.v QL,.v QI,.v QI],[.o QI,.v QI,.v QI],a3U⟩
def c1c(s:(LI×Z66)):Option ((LI×Z66) ⊕ (LI×Z54)):=cond (decide (s.2.2.2.2.2.2.2.1<(s.1.length:Int))) ((m0k s.1 s.2.2.2.2.2.2.2.1).bind fun x3=>(m0k s.1 (wrap .i64 (s.2.2.2.2.2.2.2.1-s.2.2.2.2.2.1))).bind fun x4=>some (.inl (s.1,s.2.1,s.2.2.1,s.2.2.2.1,s.2.2.2.2.1,s.2.2.2.2.2.1,wrap .i64 (s.2.2.2.2.2.2.1+(v0r (wrap .i64 (x3-x4)) (wrap .i64 (0-(wrap .i64 (x3-x4)))))),wrap .i64 (s.2.2.2.2.2.2.2.1+1),()))) (some (.inr (s.1,s.2.1,s.2.2.1,s.2.2.2.1,s.2.2.2.2.1,s.2.2.2.2.2.1,s.2.2.2.2.2.2.1,())))
def c1d(s:(LI×Z36)):Option ((LI×Z36) ⊕ (Int×Unit)):=cond (decide (s.2.2.2.2.2.1≤s.2.2.1)) ((y0s c1c (s.1,s.2.1,s.2.2.1,s.2.2.2.1,s.2.2.2.2.1,s.2.2.2.2.2.1,0,s.2.2.1,())).bind fun w5=>(show Option (LI×(Int×Int×Int×Z22))from cond (w5.2.2.2.2.2.1==w5.2.1) (some (w5.1,w5.2.1,w5.2.2.1,w5.2.2.2.1,w5.2.2.2.2.1,w5.2.2.2.2.2.1,w5.2.2.2.2.2.2.1,true,())) (some (w5.1,w5.2.1,w5.2.2.1,w5.2.2.2.1,w5.2.2.2.2.1,w5.2.2.2.2.2.1,w5.2.2.2.2.2.2.1,decide (w5.2.2.2.2.2.2.1<w5.2.2.2.2.1),()))).bind fun z6=>cond z6.2.2.2.2.2.2.2.1 (some (.inl (z6.1,z6.2.1,z6.2.2.1,z6.2.2.2.2.2.1,z6.2.2.2.2.2.2.1,wrap .i64 (z6.2.2.2.2.2.1+1),()))) (some (.inl (z6.1,z6.2.1,z6.2.2.1,z6.2.2.2.1,z6.2.2.2.2.1,wrap .i64 (z6.2.2.2.2.2.1+1),())))) (some (.inr (s.2.2.2.1,())))
def b1S(x:Z3):Option (Int×Int):=(show Option Z34 from cond (decide (x.2.1<2)) (some (x.1,x.2.1,x.2.2,true,())) (cond (decide (x.2.1 > x.2.2)) (some (x.1,x.2.1,x.2.2,true,())) (cond (decide (x.2.2 > 1024)) (some (x.1,x.2.1,x.2.2,true,())) (some (x.1,x.2.1,x.2.2,decide ((x.1.length:Int) > 4096),()))))).bind fun z1=>cond z1.2.2.2.1 (some (0,1)) (cond (decide ((z1.1.length:Int)≤z1.2.2.1)) (some (0,7)) ((a4s z1.1).bind fun y2=>cond (!y2) (some (0,6)) ((y0s c1d (z1.1,z1.2.1,z1.2.2.1,0,0,z1.2.1,())).bind fun w7=>some (w7.1,0))))
def b7Y:FSem:=⟨[.v QL,.v QI,.v QI],[.v QI,.v QI],b1S⟩
def d6h:Hints:=⟨[(506,[.sv 0 QL,1,2,8,9,10],[Qe 0 [8]]),(129610,[.sv 0 QL,1,2,8,9,10,11,12],[Qe 2 [.sv 0 QL,1,2,8,9,10,11]])],[(6,[Qn [.sv 0 QL,1,2,.sv 29 .bool]]),(32403,[Qn [.sv 0 QL,1,2,8,9,10,11,.sv 74 .bool]])],[(15,[.v,.v,.v,.v,.v,.v,.v,.v,.v,.v,.x,.x])]⟩
def a6n(s:(LI×Z84)):Option ((LI×Z84) ⊕ Z48):=cond (decide (s.2.2.2.2.1<s.2.2.2.1)) ((m0k s.2.2.1 s.2.2.2.2.1).bind fun x3=>(a4t (s.1,s.2.2.2.2.1,s.2.1,s.2.2.2.2.2.2.1)).bind fun y4=>(a7u (wrap .i64 (x3-y4))).bind fun y5=>cond (!y5) (some (.inr (Sum.inr ((6,[],()))))) (cond (lim ((a01 s.2.2.2.2.2.1)+1)) (some (.inl (s.1,s.2.1,s.2.2.1,s.2.2.2.1,wrap .i64 (s.2.2.2.2.1+1),a03 s.2.2.2.2.2.1 [wrap .i64 (x3-y4)],s.2.2.2.2.2.2.1,()))) none)) (some (.inr (Sum.inl (s.2.2.2.2.2.1,()))))
def a9j(x:(LI×(Int×LI))):Option (LI×Int):=(a8o (x.2.1,x.2.2)).bind fun y1=>cond (!y1) (some ([],1)) ((a4s x.1).bind fun y2=>cond (!y2) (some ([],6)) (cond ((decide (0≤(x.1.length:Int)))&&(lim (a00 (x.1.length:Int)))) ((y0s a6n (x.1,x.2.1,x.1,(x.1.length:Int),0,[],x.2.2,())).bind fun w6=>match w6 with |.inl a7=>some (a7.1,0) |.inr b8=>some (b8.2.1,b8.1)) none))
def a9k:FSem:=⟨[.v QL,.v QI,.v (.arr 3 QI)],[.o QI,.v QI],a9j⟩
def d6i:Hints:=⟨[(250,[.sv 0 QL,1,.sv 22 QL,23,24,.own 8 8 QI,.vp 5 (.arr 3 QI)],[Qe 0 [.own 8 8 QI],Qr [7,.own 6 6 QI]])],[],[]⟩
def c2Y(x:Unit):Option (List LI):=A0j (b3t [] [] [0] []) QH Tryz.f305 [] [.o (.arr 3 (.int .i64))] x
def b3G:FSem:=⟨[],[.o (.arr 3 QI)],c2Y⟩
def d1R:Hints:=⟨[(122,[.sv 0 QL,1,7,.sv 8 .bool,25,26,.own 24 1024 (.arr 3 QI),.box 4 (.arr 3 QI),.box 6 (.arr 3 QI),Qp 4 4,Qp 6 6],[Qe 0 [.sv 8 .bool,.box 4 (.arr 3 QI),.box 6 (.arr 3 QI),Qp 4 4,Qp 6 6]]),(501370,[.sv 0 QL,1,7,.sv 8 .bool,13,25,26,40,41,.own 24 1024 (.arr 3 QI),.own 39 11 QI,.box 4 (.arr 3 QI),.box 6 (.arr 3 QI),.box 10 (.arr 3 QI),Qp 4 4,Qp 6 6,Qp 10 10],[Qe 2 [.sv 0 QL,1,7,.sv 8 .bool,13,25,26,.own 24 1024 (.arr 3 QI),.box 4 (.arr 3 QI),.box 6 (.arr 3 QI),.box 10 (.arr 3 QI),Qp 4 4,Qp 6 6,Qp 10 10]])],[(6,[Qn [.sv 0 QL,1,.sv 21 .bool,.box 4 (.arr 3 QI),Qp 4 4]]),(125343,[Qn [.sv 0 QL,1,7,.sv 8 .bool,13,25,26,.sv 58 .bool,.own 24 1024 (.arr 3 QI),.box 4 (.arr 3 QI),.box 6 (.arr 3 QI),.box 10 (.arr 3 QI),Qp 4 4,Qp 6 6,Qp 10 10]])],[]⟩
def b7Z(x:(LI×Int)):Option (LI×Int):=A0j (b3t [(250,a9k),(305,b3G)] [] [0,1,5,7,8,11,12,13,15] []) d1R Tryz.f249 [.v (.list false (.int .i64)),.v (.int .i64)] [.v (.arr 3 (.int .i64)),.v (.int .i64)] x
def b8a:FSem:=⟨[.v QL,.v QI],[.v (.arr 3 QI),.v QI],b7Z⟩
def a3v(x:LI):Option (a1X×Bool):=(b1S (x,16,256)).bind fun y1=>cond (y1.2 != 0) (some ((0,0,0,0,0,[],a02 3 0,[],[],(0,[],()),[],()),false)) ((b7Z (x,y1.1)).bind fun y2=>cond (y2.2 != 0) (some ((0,0,0,0,0,[],a02 3 0,[],[],(0,[],()),[],()),false)) ((a9j (x,y1.1,y2.1)).bind fun y3=>cond (y3.2 != 0) (some ((0,0,0,0,0,[],a02 3 0,[],[],(0,[],()),[],()),false)) ((a3U (y3.1,4,12)).bind fun y4=>cond (y4.2.2 != 0) (some ((0,0,0,0,0,[],a02 3 0,[],[],(0,[],()),[],()),false)) (some ((4,0,0,y4.2.1,y1.1,y4.1,y2.1,[],[],(0,[],()),[],()),true)))))
def b7b:FSem:=⟨[.v QL],[.v Q42,.v .bool],a3v⟩
def a0R(x:(Int×(Int×(LI×b2v)))):Option (LI×b2v):=(a3U (x.2.2.1,x.1,x.2.1)).bind fun y1=>cond (y1.2.2==0) (cond (lim ((a01 x.2.2.2)+1)) (some (x.2.2.1,a03 x.2.2.2 ([(3,0,0,y1.2.1,0,y1.1,a02 3 0,[],[],(0,[],()),[],())]:List a1X))) none) (some (x.2.2.1,x.2.2.2))
def b2l:FSem:=⟨[.v QI,.v QI,.r false (.b QL),.r false (.b (.list true Q42))],[],a0R⟩
def a2s(s:(Int×c5x)):Option ((Int×c5x) ⊕ c5x):=cond (decide (s.1<5)) (cond (lim ((a01 s.2.1)+1)) (some (.inl (wrap .i64 (s.1+1),a03 s.2.1 ([(2,0,s.1,0,0,[],a02 3 0,[],[],(0,[],()),[],())]:List a1X),s.2.2.1,()))) none) (some (.inr (s.2.1,s.2.2.1,())))
def a6R(x:(LI×Int)):Option b2v:=(a6m x.1).bind fun y1=>(show Option (Int×(LI×c8i))from cond (decide (x.2≥1)) ((a0R (4,12,x.1,([(0,0,0,0,0,[],a02 3 0,[],[],(0,[],()),[],()),(1,0,0,0,0,[],a02 3 0,[],[],(0,[],()),[],()),(2,0,y1,0,0,[],a02 3 0,[],[],(0,[],()),[],())]:List a1X))).bind fun y2=>(a0R (8,12,y2.1,y2.2)).bind fun y3=>some (x.2,y3.1,y3.2,())) (some (x.2,x.1,([(0,0,0,0,0,[],a02 3 0,[],[],(0,[],()),[],()),(1,0,0,0,0,[],a02 3 0,[],[],(0,[],()),[],()),(2,0,y1,0,0,[],a02 3 0,[],[],(0,[],()),[],())]:List a1X),()))).bind fun z4=>(show Option (Int×c5x)from cond (decide (z4.1≥2)) (cond (lim ((a01 z4.2.2.1)+1)) (cond (lim ((a01 (a03 z4.2.2.1 ([(5,0,0,0,0,[],a02 3 0,([(16,4,())]:List (Int×Int×Unit)),[],(0,[],()),[],())]:List a1X)))+1)) ((a3v z4.2.1).bind fun y5=>cond y5.2 (cond (lim ((a01 (a03 (a03 z4.2.2.1 ([(5,0,0,0,0,[],a02 3 0,([(16,4,())]:List (Int×Int×Unit)),[],(0,[],()),[],())]:List a1X)) ([(5,0,0,0,0,[],a02 3 0,([(32,3,()),(16,5,())]:List (Int×Int×Unit)),[],(0,[],()),[],())]:List a1X)))+1)) (some (z4.1,a03 (a03 (a03 z4.2.2.1 ([(5,0,0,0,0,[],a02 3 0,([(16,4,())]:List (Int×Int×Unit)),[],(0,[],()),[],())]:List a1X)) ([(5,0,0,0,0,[],a02 3 0,([(32,3,()),(16,5,())]:List (Int×Int×Unit)),[],(0,[],()),[],())]:List a1X)) ([y5.1]:List a1X),z4.2.1,())) none) (some (z4.1,a03 (a03 z4.2.2.1 ([(5,0,0,0,0,[],a02 3 0,([(16,4,())]:List (Int×Int×Unit)),[],(0,[],()),[],())]:List a1X)) ([(5,0,0,0,0,[],a02 3 0,([(32,3,()),(16,5,())]:List (Int×Int×Unit)),[],(0,[],()),[],())]:List a1X),z4.2.1,()))) none) none) (some (z4.1,z4.2.2.1,z4.2.1,()))).bind fun z6=>(show Option c8i from cond (decide (z6.1≥3)) ((y0s a2s (0,z6.2.1,z6.2.2.1,())).bind fun w7=>(a0R (1,12,w7.2.1,w7.1)).bind fun y8=>(a0R (2,12,y8.1,y8.2)).bind fun y9=>(a0R (12,14,y9.1,y9.2)).bind fun y10=>(a0R (16,14,y10.1,y10.2)).bind fun y11=>some (y11.2,())) (some (z6.2.1,()))).bind fun z12=>some z12.1
def b3H:FSem:=⟨[.v QL,.v QI],[.v (.list false Q42)],a6R⟩
def d6j:Hints:=⟨[(4050,[50,.box 5 (.list true Q42),.box 2 QL,Qp 5 5,.clo 6 193 [2,5]],[Qe 0 [.box 5 (.list true Q42),.box 2 QL,Qp 5 5,.clo 6 193 [2,5]]])],[(15,[Qn [1,.box 2 QL,.box 5 (.list true Q42),Qp 2 2,Qp 5 5,.clo 6 193 [2,5]]]),(31,[Qn [1,.box 5 (.list true Q42),.box 2 QL,Qp 5 5,.clo 6 193 [2,5]]]),(63,[Qn [.box 5 (.list true Q42),Qp 5 5]])],[]⟩
def a4J(s:(LI×Z41)):Option ((LI×Z41) ⊕ Z48):=cond (decide (s.2.2.2.1<(s.1.length:Int))) ((m0k s.1 s.2.2.2.1).bind fun x4=>cond ((decide (0≤s.2.2.2.1))&&(decide (s.2.2.2.1≤(s.1.length:Int)))) ((a4C (a07 (a00 s.2.2.2.1) s.1,s.2.1,s.2.2.1)).bind fun y5=>(a5h (wrap .i64 (x4-y5))).bind fun y6=>cond (!y6) (some (.inr (Sum.inr ((6,[],()))))) (cond (lim ((a01 s.2.2.2.2.1)+1)) (some (.inl (s.1,s.2.1,s.2.2.1,wrap .i64 (s.2.2.2.1+1),a03 s.2.2.2.2.1 [wrap .i64 (x4-y5)],()))) none)) none) (some (.inr (Sum.inl (s.2.2.2.2.1,()))))
def a7k(x:Z10):Option (LI×Int):=(show Option Z49 from(a4A (x.2.1,x.2.2)).bind fun y1=>cond (!y1) (some (x.1,x.2.1,x.2.2,true,())) (some (x.1,x.2.1,x.2.2,decide ((x.1.length:Int)<(x.2.1.length:Int)),()))).bind fun z2=>cond z2.2.2.2.1 (some ([],1)) ((a2B z2.1).bind fun y3=>cond (!y3) (some ([],6)) (cond ((decide (0≤(wrap .i64 ((z2.1.length:Int)-(z2.2.1.length:Int)))))&&(lim (a00 (wrap .i64 ((z2.1.length:Int)-(z2.2.1.length:Int)))))) ((y0s a4J (z2.1,z2.2.1,z2.2.2.1,(z2.2.1.length:Int),[],())).bind fun w7=>match w7 with |.inl a8=>some (a8.1,0) |.inr b9=>some (b9.2.1,b9.1)) none))
def b6C:FSem:=⟨[.v QL,.v QL,.v QI],[.o QI,.v QI],a7k⟩
def d6k:Hints:=⟨[(250,[.sv 0 QL,.sv 1 QL,2,9,.own 8 8 QI],[Qe 0 [.own 8 8 QI],Qr [7,.own 6 6 QI]])],[(6,[Qn [.sv 0 QL,.sv 1 QL,2,.sv 21 .bool]])],[(9,[.v,.v,.v,.v,.v,.v,.v,.v,.v,.v,.x,.x])]⟩
def a5z(s:(Z4×Int×Int×Int×Z85)):Option ((Z4×Int×Int×Int×Z85) ⊕ ((Z4×Z15) ⊕ Z5)):=cond (decide (s.2.2.2.2.1<s.2.2.2.1)) (cond ((decide (0≤s.2.2.2.2.1))&&(decide (s.2.2.2.2.1<(s.2.2.2.2.2.1.length:Int)))) ((a1Y s.2.2.2.2.2.2.1).bind fun y6=>(a6h (wrap .i64 ((a04 s.2.2.2.2.2.1 (a00 s.2.2.2.2.1) 0)-y6.1))).bind fun y7=>cond (!y7) (some (.inr (Sum.inr ((6,[],()))))) ((a3a (y6.2,a04 s.2.2.2.2.2.1 (a00 s.2.2.2.2.1) 0)).bind fun y8=>cond ((decide (0≤s.2.2.2.2.1))&&(decide (s.2.2.2.2.1<(s.2.2.2.2.2.1.length:Int)))) (some (.inl (s.1,s.2.1,s.2.2.1,s.2.2.2.1,wrap .i64 (s.2.2.2.2.1+1),a18 s.2.2.2.2.2.1 (a00 s.2.2.2.2.1) (wrap .i64 ((a04 s.2.2.2.2.2.1 (a00 s.2.2.2.2.1) 0)-y6.1)),y8,()))) none)) none) (some (.inr (Sum.inl (s.1,s.2.1,s.2.2.1,s.2.2.2.2.2.1,()))))
def a5A(s:(Z4×Z15)):Option ((Z4×Z15) ⊕ Z48):=cond (decide (s.2.2.1<s.2.1)) ((m0k s.1 s.2.2.1).bind fun x4=>(a9c x4).bind fun y5=>cond (y5.2 != 0) (some (.inr (Sum.inr ((y5.2,[],()))))) ((y0s a5z (s.1,s.2.1,s.2.2.1,(s.2.2.2.1.length:Int),0,s.2.2.2.1,y5.1,())).bind fun w9=>match w9 with |.inl a10=>some (.inl (a10.1,a10.2.1,wrap .i64 (a10.2.2.1+1),a10.2.2.2.1,())) |.inr b11=>some (.inr (Sum.inr ((b11.1,b11.2.1,())))))) (some (.inr (Sum.inl (s.2.2.2.1,()))))
def b0M(x:(LI×Z4)):Option (LI×Int):=(a7s x.2).bind fun y1=>cond (!y1) (some ([],1)) ((a5q x.1).bind fun y2=>cond (!y2) (some ([],6)) ((a1g x.1).bind fun y3=>(y0s a5A (x.2,(x.2.length:Int),0,y3,())).bind fun w12=>match w12 with |.inl a13=>some (a13.1,0) |.inr b14=>some (b14.2.1,b14.1)))
def b7c:FSem:=⟨[.v QL,.v (.list false Q3)],[.o QI,.v QI],b0M⟩
def d6l:Hints:=⟨[(250,[.sv 22 (.list false Q3),23,24,.own 6 6 QI],[Qe 0 [.own 6 6 QI],Qr [5,.own 4 4 QI]]),(256414,[.sv 22 (.list false Q3),23,24,37,38,.own 6 6 QI,.box 1030 Q17,Qp 9 1030,.ref 36 6 []],[Qe 2 [.sv 22 (.list false Q3),23,24,.own 6 6 QI],Qr [5,.own 4 4 QI]])],[],[]⟩
def b1T(x:(a1X×LI)):Option (Int×a1X):=(show Option (LI×(LI×(Int×b5J)))from cond (x.1.1==2) ((a4H (x.2,x.1.2.2.1)).bind fun y1=>some (x.2,y1.1,y1.2,x.1,())) (cond (x.1.1==3) ((a7k (x.2,x.1.2.2.2.2.2.1,x.1.2.2.2.1)).bind fun y2=>some (x.2,y2.1,y2.2,x.1,())) (cond (x.1.1==4) ((a9j (x.2,x.1.2.2.2.2.1,x.1.2.2.2.2.2.2.1)).bind fun y3=>cond (y3.2==0) ((a7k (y3.1,x.1.2.2.2.2.2.1,x.1.2.2.2.1)).bind fun y4=>some (y3.1,y4.1,y4.2,x.1,())) (some (y3.1,[],y3.2,x.1,()))) (cond (x.1.1==5) ((b0M (x.2,x.1.2.2.2.2.2.2.2.1)).bind fun y5=>some (x.2,y5.1,y5.2,x.1,())) (some (x.2,[],0,x.1,())))))).bind fun z6=>cond (z6.2.2.1 != 0) (some (z6.2.2.1,z6.2.2.2.1)) ((a4B (z6.2.2.2.1,(z6.1.length:Int))).bind fun y7=>cond ((decide (0≤y7))&&(decide (y7≤(z6.1.length:Int)))) ((a1g (a07 (a00 y7) z6.1)).bind fun y8=>some (0,z6.2.2.2.1.1,z6.2.2.2.1.2.1,z6.2.2.2.1.2.2.1,z6.2.2.2.1.2.2.2.1,z6.2.2.2.1.2.2.2.2.1,z6.2.2.2.1.2.2.2.2.2.1,z6.2.2.2.1.2.2.2.2.2.2.1,z6.2.2.2.1.2.2.2.2.2.2.2.1,y8,z6.2.2.2.1.2.2.2.2.2.2.2.2.2.1,z6.2.1,z6.2.2.2.1.2.2.2.2.2.2.2.2.2.2.2)) none)
def b8b:FSem:=⟨[.r false (.b Q42),.v QL],[.v QI],b1T⟩
def d6m:Hints:=⟨[],[(15,[Qn [.sv 1 QL,.sv 5 QL,6,.box pinned Q42,Qp 0 pinned]])],[(7,[.v,.p,.p,.q,.q,.p,.p,.q,.q,.x,.x,.q,.q,.q,.x]),(9,[.v,.p,.p,.q,.q,.p,.p,.q,.q,.x,.x,.q,.q,.q,.x]),(11,[.q,.p,.p,.q,.q,.p,.p,.q,.q,.x,.x,.q,.q,.q,.x])]⟩
def a8C(s:Z31):Option (Z31 ⊕ (Int×Unit)):=cond (decide (s.2.2.2.1≤25)) ((a3k (s.2.2.2.1,s.1)).bind fun y2=>cond (decide (y2<s.2.2.1)) (some (.inl (s.1,s.2.2.2.1,y2,wrap .i64 (s.2.2.2.1+1),()))) (some (.inl (s.1,s.2.1,s.2.2.1,wrap .i64 (s.2.2.2.1+1),())))) (some (.inr (s.2.1,())))
def b1U(x:LI):Option Int:=(a3k (0,x)).bind fun y1=>(y0s a8C (x,0,y1,1,())).bind fun w3=>some w3.1
def b8c:FSem:=⟨[.v QL],[.v QI],b1U⟩
def d6n:Hints:=⟨[(58,[.sv 0 QL,3,4,5],[Qe 0 [3]])],[],[]⟩
def a8D(x:LI):Option Int:=(b1U x).bind fun y1=>(a5N x).bind fun y2=>(a3k (y1,x)).bind fun y3=>cond (decide (y2<y3)) (some 31) (some y1)
def b5m:FSem:=⟨[.v QL],[.v QI],a8D⟩
def a7N(s:(Int×(Int×(Int×(LI×(Int×(Int×(LI×(Int×(Int×(LI×Z98))))))))))):Option ((Int×(Int×(Int×(LI×(Int×(Int×(LI×(Int×(Int×(LI×Z98)))))))))) ⊕ (Int×(Int×(Int×(LI×(Int×Int×Z98)))))):=cond (decide (s.2.2.2.2.2.2.2.2.1<s.2.2.2.2.2.2.2.1)) (cond ((decide (0≤s.2.2.2.2.2.2.2.2.1))&&(decide (s.2.2.2.2.2.2.2.2.1<(s.2.2.2.2.2.2.2.2.2.1.length:Int)))) (cond ((decide (0≤(a04 s.2.2.2.2.2.2.2.2.2.1 (a00 s.2.2.2.2.2.2.2.2.1) 0)))&&(decide ((a04 s.2.2.2.2.2.2.2.2.2.1 (a00 s.2.2.2.2.2.2.2.2.1) 0)≤(s.2.2.2.2.2.2.1.length:Int)))) ((a8D (a07 (a00 (a04 s.2.2.2.2.2.2.2.2.2.1 (a00 s.2.2.2.2.2.2.2.2.1) 0)) s.2.2.2.2.2.2.1)).bind fun y3=>cond (lim ((a01 s.2.2.2.2.2.2.2.2.2.2.2.2.1.2.1)+1)) (cond ((decide (0≤(a04 s.2.2.2.2.2.2.2.2.2.1 (a00 s.2.2.2.2.2.2.2.2.1) 0)))&&(decide ((a04 s.2.2.2.2.2.2.2.2.2.1 (a00 s.2.2.2.2.2.2.2.2.1) 0)≤(s.2.2.2.2.2.2.1.length:Int)))) (some (.inl (s.1,s.2.1,s.2.2.1,s.2.2.2.1,s.2.2.2.2.1,s.2.2.2.2.2.1,a08 (a00 (a04 s.2.2.2.2.2.2.2.2.2.1 (a00 s.2.2.2.2.2.2.2.2.1) 0)) (a07 (a01 s.2.2.2.2.2.2.1) s.2.2.2.2.2.2.1),s.2.2.2.2.2.2.2.1,wrap .i64 (s.2.2.2.2.2.2.2.2.1+1),s.2.2.2.2.2.2.2.2.2.1,s.2.2.2.2.2.2.2.2.2.2.1,s.2.2.2.2.2.2.2.2.2.2.2.1,(s.2.2.2.2.2.2.2.2.2.2.2.2.1.1,a03 s.2.2.2.2.2.2.2.2.2.2.2.2.1.2.1 [y3],s.2.2.2.2.2.2.2.2.2.2.2.2.1.2.2),()))) none) none) none) none) (some (.inr (s.1,s.2.1,s.2.2.1,s.2.2.2.1,s.2.2.2.2.1,s.2.2.2.2.2.1,s.2.2.2.2.2.2.2.2.2.2.1,s.2.2.2.2.2.2.2.2.2.2.2.1,s.2.2.2.2.2.2.2.2.2.2.2.2.1,())))
def a3G(s:(Int×(Int×(Int×(LI×(Int×Int×Z82)))))):Option ((Int×(Int×(Int×(LI×(Int×Int×Z82))))) ⊕ Z82):=cond (decide (s.2.2.2.2.2.1≤(v0s (v0r s.2.2.1 0) 8))) ((a2U (s.2.2.2.2.2.1,s.1,s.2.1)).bind fun y2=>cond ((y2.length:Int)==0) (some (.inl (s.1,s.2.1,s.2.2.1,s.2.2.2.1,s.2.2.2.2.1,wrap .i64 (s.2.2.2.2.2.1+1),s.2.2.2.2.2.2.1,s.2.2.2.2.2.2.2.1,()))) ((y0s a7N (s.1,s.2.1,s.2.2.1,s.2.2.2.1,s.2.2.2.2.1,s.2.2.2.2.2.1,s.2.2.2.1,(y2.length:Int),0,y2,s.2.2.2.2.2.2.1,s.2.2.2.2.2.2.2.1,(s.2.2.2.2.2.1,[],()),())).bind fun w4=>(a4E (w4.2.2.2.2.2.2.2.2.1,w4.1,w4.2.1,w4.2.2.2.1)).bind fun y5=>(show Option (Int×(Int×(Int×(LI×(Int×Int×Int×Bool×Z98)))))from cond (w4.2.2.2.2.1==0) (some (w4.1,w4.2.1,w4.2.2.1,w4.2.2.2.1,w4.2.2.2.2.1,w4.2.2.2.2.2.1,y5,true,w4.2.2.2.2.2.2.1,w4.2.2.2.2.2.2.2.1,w4.2.2.2.2.2.2.2.2.1,())) (some (w4.1,w4.2.1,w4.2.2.1,w4.2.2.2.1,w4.2.2.2.2.1,w4.2.2.2.2.2.1,y5,decide (y5<w4.2.2.2.2.1),w4.2.2.2.2.2.2.1,w4.2.2.2.2.2.2.2.1,w4.2.2.2.2.2.2.2.2.1,()))).bind fun z6=>cond z6.2.2.2.2.2.2.2.1 (some (.inl (z6.1,z6.2.1,z6.2.2.1,z6.2.2.2.1,z6.2.2.2.2.2.2.1,wrap .i64 (z6.2.2.2.2.2.1+1),z6.2.2.2.2.2.2.2.2.1,z6.2.2.2.2.2.2.2.2.2.2.1,()))) (some (.inl (z6.1,z6.2.1,z6.2.2.1,z6.2.2.2.1,z6.2.2.2.2.1,wrap .i64 (z6.2.2.2.2.2.1+1),z6.2.2.2.2.2.2.2.2.1,z6.2.2.2.2.2.2.2.2.2.1,()))))) (some (.inr (s.2.2.2.2.2.2.1,s.2.2.2.2.2.2.2.1,())))
def b0N(x:(Int×Z2)):Option (Z5×Int):=(a7f (x.1,x.2.1,x.2.2.2)).bind fun y1=>cond (!y1) (some ((0,[],()),1)) ((y0s a3G (x.1,x.2.1,x.2.2.1,x.2.2.2,0,0,(0,[],()),(0,[],()),())).bind fun w7=>some (w7.2.1,0))
def b7d:FSem:=⟨[.v QI,.v QI,.v QI,.v QL],[.v Q11,.v QI],b0N⟩
def d6o:Hints:=⟨[(250,[0,1,2,.sv 3 QL,11,12,.box 8 Q11,.box 10 Q11,Qp 8 8,Qp 10 10],[Qe 0 [.box 8 Q11,.box 10 Q11,Qp 8 8,Qp 10 10]]),(512634,[0,1,2,.sv 3 QL,11,12,.sv 15 QL,43,44,.own 42 13 QI,.box 8 Q11,.box 10 Q11,.box 14 Q10,Qp 8 8,Qp 10 10,Qp 14 14],[Qe 2 [0,1,2,.sv 3 QL,11,12,.box 8 Q11,.box 10 Q11,.box 14 Q10,Qp 8 8,Qp 10 10,Qp 14 14]])],[(256319,[Qn [0,1,2,.sv 3 QL,11,12,18,.sv 72 .bool,.box 8 Q11,.box 10 Q11,.box 14 Q11,Qp 8 8,Qp 10 10,Qp 14 14]])],[(15,[.q,.q,.v,.v,.v,.v,.q,.x,.x,.x])]⟩
def a5m(s:(LI×(LI×c5A))):Option ((LI×(LI×c5A)) ⊕ ((LI×b2w) ⊕ (Int×b5J))):=cond (decide (s.2.2.2.1<s.2.2.1)) ((m0k s.2.1 s.2.2.2.1).bind fun x5=>(m0k s.1 0).bind fun x6=>cond (x5 != x6) (some (.inr (Sum.inr ((7,(0,0,0,0,0,[],a02 3 0,[],[],(0,[],()),[],()),()))))) (some (.inl (s.1,s.2.1,s.2.2.1,wrap .i64 (s.2.2.2.1+1),s.2.2.2.2.1,s.2.2.2.2.2.1,())))) (some (.inr (Sum.inl (s.1,s.2.2.2.2.1,s.2.2.2.2.2.1,()))))
def b2V(x:(Int×(LI×a1X))):Option b4J:=(show Option (Int×(LI×(Int×Bool×b2w)))from cond (decide ((x.2.1.length:Int)<1)) (some (x.1,x.2.1,(x.2.1.length:Int),true,(0,0,0,0,0,[],a02 3 0,[],[],(0,[],()),[],()),x.2.2,())) (cond (decide ((x.2.1.length:Int) > 4096)) (some (x.1,x.2.1,(x.2.1.length:Int),true,(0,0,0,0,0,[],a02 3 0,[],[],(0,[],()),[],()),x.2.2,())) ((a7R (x.1,x.2.2,(x.2.1.length:Int))).bind fun y1=>some (x.1,x.2.1,(x.2.1.length:Int),!y1,(0,0,0,0,0,[],a02 3 0,[],[],(0,[],()),[],()),x.2.2,())))).bind fun z2=>cond z2.2.2.2.1 (some ((0,0,0,0,0,[],a02 3 0,[],[],(0,[],()),[],()),1)) ((a2v z2.2.1).bind fun y3=>cond (!y3) (some ((0,0,0,0,0,[],a02 3 0,[],[],(0,[],()),[],()),6)) ((a6g (z2.1,z2.2.2.2.2.2.1)).bind fun y4=>cond (z2.1==0) ((y0s a5m (z2.2.1,z2.2.1,(z2.2.1.length:Int),0,z2.2.2.2.2.1,y4,())).bind fun w7=>match w7 with |.inl a8=>((m0k a8.1 0).bind fun x10=>some ((a8.2.2.1.1,a8.2.2.1.2.1,a8.2.2.1.2.2.1,a8.2.2.1.2.2.2.1,a8.2.2.1.2.2.2.2.1,a8.2.2.1.2.2.2.2.2.1,a8.2.2.1.2.2.2.2.2.2.1,a8.2.2.1.2.2.2.2.2.2.2.1,[x10],a8.2.2.1.2.2.2.2.2.2.2.2.2),0)) |.inr b9=>some (b9.2.1,b9.1)) ((a3E z2.2.1).bind fun y11=>(a7j (z2.2.1,y11)).bind fun y12=>cond (y12.2 != 0) (some ((0,0,0,0,0,[],a02 3 0,[],[],(0,[],()),[],()),6)) (cond (z2.1==1) (some ((y4.1,y11,y4.2.2.1,y4.2.2.2.1,y4.2.2.2.2.1,y4.2.2.2.2.2.1,y4.2.2.2.2.2.2.1,y4.2.2.2.2.2.2.2.1,y12.1,y4.2.2.2.2.2.2.2.2.2),0)) ((b1T ((y4.1,y11,y4.2.2),y12.1)).bind fun y13=>cond (y13.1 != 0) (some ((0,0,0,0,0,[],a02 3 0,[],[],(0,[],()),[],()),6)) ((b0N (z2.2.2.1,(y13.2.2.2.2.2.2.2.2.2.1.length:Int),6,y13.2.2.2.2.2.2.2.2.2.2.2.1)).bind fun y14=>cond (y14.2 != 0) (some ((0,0,0,0,0,[],a02 3 0,[],[],(0,[],()),[],()),6)) (some ((y13.2.1,y13.2.2.1,y13.2.2.2.1,y13.2.2.2.2.1,y13.2.2.2.2.2.1,y13.2.2.2.2.2.2.1,y13.2.2.2.2.2.2.2.1,y13.2.2.2.2.2.2.2.2.1,y13.2.2.2.2.2.2.2.2.2.1,y14.1,y13.2.2.2.2.2.2.2.2.2.2.2),0))))))))
def b9p:FSem:=⟨[.v QI,.v QL,.v Q42],[.v Q42,.v QI],b2V⟩
def d6p:Hints:=⟨[(4050,[.sv 1 QL,.sv 39 QL,40,41,.box 6 Q42,.box 9 Q42,Qp 6 6,Qp 9 9],[Qe 0 [.sv 1 QL,.box 6 Q42,.box 9 Q42,Qp 6 6,Qp 9 9],Qr [7,.box 6 Q42,Qp 6 6]])],[(14,[Qn [0,.sv 1 QL,8,.sv 28 .bool,.box 6 Q42,.vp 5 Q42,Qp 6 6]])],[]⟩
def a8U(x:Z6):Option Z16:=some (x.2.1,x)
def b2O:FSem:=⟨[.r false (.b Q9)],[.v QI],a8U⟩
def a4e(x:b4J):Option Int:=(a9N (([],0,()),x.1,x.2)).bind fun y1=>cond (y1.1 != 0) (some 0) ((a8U y1.2).bind fun y2=>some y2.1)
def b9q:FSem:=⟨[.v Q42,.v QI],[.v QI],a4e⟩
def a7l(s:(LI×(Int×Bool×b2v×c5A))):Option ((LI×(Int×Bool×b2v×c5A)) ⊕ b2w):=cond (decide (s.2.2.2.2.2.1<s.2.2.2.2.1)) ((m0k s.2.2.2.1 s.2.2.2.2.2.1).bind fun x6=>(b2V (x6.1,s.1,x6)).bind fun y7=>cond (y7.2 != 0) (some (.inl (s.1,s.2.1,s.2.2.1,s.2.2.2.1,s.2.2.2.2.1,wrap .i64 (s.2.2.2.2.2.1+1),s.2.2.2.2.2.2.1,s.2.2.2.2.2.2.2.1,()))) ((a4e (y7.1,(s.1.length:Int))).bind fun y8=>(show Option (LI×(Int×Bool×Int×b2v×Int×Int×Bool×a1X×b2w))from cond (!s.2.2.1) (some (s.1,s.2.1,s.2.2.1,y8,s.2.2.2.1,s.2.2.2.2.1,s.2.2.2.2.2.1,true,s.2.2.2.2.2.2.1,s.2.2.2.2.2.2.2.1,y7.1,())) (some (s.1,s.2.1,s.2.2.1,y8,s.2.2.2.1,s.2.2.2.2.1,s.2.2.2.2.2.1,decide (y8<s.2.1),s.2.2.2.2.2.2.1,s.2.2.2.2.2.2.2.1,y7.1,()))).bind fun z9=>cond z9.2.2.2.2.2.2.2.1 (some (.inl (z9.1,z9.2.2.2.1,true,z9.2.2.2.2.1,z9.2.2.2.2.2.1,wrap .i64 (z9.2.2.2.2.2.2.1+1),z9.2.2.2.2.2.2.2.2.1,z9.2.2.2.2.2.2.2.2.2.2.1,()))) (some (.inl (z9.1,z9.2.1,z9.2.2.1,z9.2.2.2.2.1,z9.2.2.2.2.2.1,wrap .i64 (z9.2.2.2.2.2.2.1+1),z9.2.2.2.2.2.2.2.2.1,z9.2.2.2.2.2.2.2.2.2.1,()))))) (some (.inr (s.2.2.2.2.2.2.1,s.2.2.2.2.2.2.2.1,())))
def a5B(x:(LI×Int)):Option b4J:=(show Option (LI×c2T)from cond (decide ((x.1.length:Int)<1)) (some (x.1,x.2,true,(0,0,0,0,0,[],a02 3 0,[],[],(0,[],()),[],()),())) (cond (decide ((x.1.length:Int) > 4096)) (some (x.1,x.2,true,(0,0,0,0,0,[],a02 3 0,[],[],(0,[],()),[],()),())) (cond (decide (x.2<0)) (some (x.1,x.2,true,(0,0,0,0,0,[],a02 3 0,[],[],(0,[],()),[],()),())) (some (x.1,x.2,decide (x.2 > 3),(0,0,0,0,0,[],a02 3 0,[],[],(0,[],()),[],()),()))))).bind fun z1=>cond z1.2.2.1 (some ((0,0,0,0,0,[],a02 3 0,[],[],(0,[],()),[],()),1)) ((a2v z1.1).bind fun y2=>cond (!y2) (some ((0,0,0,0,0,[],a02 3 0,[],[],(0,[],()),[],()),6)) ((a3E z1.1).bind fun y3=>(a7j (z1.1,y3)).bind fun y4=>cond (y4.2 != 0) (some ((0,0,0,0,0,[],a02 3 0,[],[],(0,[],()),[],()),y4.2)) ((a6R (y4.1,z1.2.1)).bind fun y5=>(y0s a7l (z1.1,0,false,y5,(y5.length:Int),0,z1.2.2.2.1,(0,0,0,0,0,[],a02 3 0,[],[],(0,[],()),[],()),())).bind fun w10=>some (w10.2.1,0))))
def b9r:FSem:=⟨[.v QL,.v QI],[.v Q42,.v QI],a5B⟩
def H60:Hints:=⟨[(2042,[.sv 0 QL,9,.sv 10 .bool,.sv 50 (.list false Q42),51,52,.box 4 Q42,.box 8 Q42,Qp 4 4,Qp 8 8],[Qe 0 [.box 4 Q42,.box 8 Q42,Qp 4 4,Qp 8 8]])],[(6,[Qn [.sv 0 QL,1,.sv 31 .bool,.box 4 Q42,Qp 4 4]]),(1045711,[Qn [.sv 0 QL,9,.sv 10 .bool,15,.sv 50 (.list false Q42),51,52,.sv 76 .bool,.box 4 Q42,.box 8 Q42,.box 13 Q42,Qp 4 4,Qp 8 8,Qp 13 13]])],[]⟩
def a5C(s:(Int×((List LI)×(Int×Int×a3s×b4L)))):Option ((Int×((List LI)×(Int×Int×a3s×b4L))) ⊕ ((a3s×b4L) ⊕ (Int×b4L))):=cond (decide (s.2.2.2.1<s.2.2.1)) ((m0k s.2.1 s.2.2.2.1).bind fun x8=>(a5B (x8,s.1)).bind fun y9=>cond (y9.2 != 0) (some (.inr (Sum.inr ((y9.2,(0,0,(0,0,0,()),[],[],()),()))))) (cond (lim ((a01 s.2.2.2.2.2.1.2.2.2.2.1)+1)) (some (.inl (s.1,s.2.1,s.2.2.1,wrap .i64 (s.2.2.2.1+1),s.2.2.2.2.1,(s.2.2.2.2.2.1.1,s.2.2.2.2.2.1.2.1,s.2.2.2.2.2.1.2.2.1,s.2.2.2.2.2.1.2.2.2.1,a03 s.2.2.2.2.2.1.2.2.2.2.1 ([y9.1]:List a1X),s.2.2.2.2.2.1.2.2.2.2.2),()))) none)) (some (.inr (Sum.inl (s.2.2.2.2.1,s.2.2.2.2.2.1,()))))
def a4K(x:(Z11×Z7×Int×Int)):Option (a3s×Int):=(show Option (Int×Int×Bool×a3s×Z11×Z21)from(a3j x.1).bind fun y1=>cond (!y1) (some (x.2.2.1,x.2.2.2,true,(0,0,(0,0,0,()),[],[],()),x.1,x.2.1,())) ((a1V x.2.1).bind fun y2=>cond (!y2) (some (x.2.2.1,x.2.2.2,true,(0,0,(0,0,0,()),[],[],()),x.1,x.2.1,())) (cond (x.1.1 != x.2.1.2.2.1) (some (x.2.2.1,x.2.2.2,true,(0,0,(0,0,0,()),[],[],()),x.1,x.2.1,())) (cond ((x.1.2.1.length:Int) != x.2.1.2.1) (some (x.2.2.1,x.2.2.2,true,(0,0,(0,0,0,()),[],[],()),x.1,x.2.1,())) (cond (decide (x.2.2.2<0)) (some (x.2.2.1,x.2.2.2,true,(0,0,(0,0,0,()),[],[],()),x.1,x.2.1,())) (cond (decide (x.2.2.2 > 3)) (some (x.2.2.1,x.2.2.2,true,(0,0,(0,0,0,()),[],[],()),x.1,x.2.1,())) (some (x.2.2.1,x.2.2.2,decide (x.2.2.1<0),(0,0,(0,0,0,()),[],[],()),x.1,x.2.1,())))))))).bind fun z3=>cond z3.2.2.1 (some ((0,0,(0,0,0,()),[],[],()),1)) ((a3i z3.2.2.2.2.1).bind fun y4=>cond (decide (z3.1 > (wrap .i64 (4194304-y4)))) (some ((0,0,(0,0,0,()),[],[],()),4)) ((show Option (Int×a3s×a3s×Z29)from cond (decide (z3.2.1 > 0)) ((a7y z3.2.2.2.2.1).bind fun y5=>some (z3.2.1,z3.2.2.2.1,(z3.1,y4,z3.2.2.2.2.2.1,y5,[],()),z3.2.2.2.2.1,())) (some (z3.2.1,z3.2.2.2.1,(z3.1,y4,z3.2.2.2.2.2.1,[],[],()),z3.2.2.2.2.1,()))).bind fun z6=>(b2k (z6.2.2.2.1.2.1,z6.2.2.1.2.2.2.1)).bind fun y7=>cond (y7.2 != 0) (some ((0,0,(0,0,0,()),[],[],()),y7.2)) ((y0s a5C (z6.1,y7.1,(y7.1.length:Int),0,z6.2.1,z6.2.2.1,())).bind fun w10=>match w10 with |.inl a11=>some (a11.2.1,0) |.inr b12=>some (b12.2.1,b12.1))))
def b7e:FSem:=⟨[.v Q15,.v Q12,.v QI,.v QI],[.v Q60,.v QI],a4K⟩
def H18:Hints:=⟨[(2042,[3,.sv 81 (.list false QL),82,83,.box 8 Q60,.box 10 Q59,Qp 8 8,Qp 10 10],[Qe 0 [.box 8 Q60,.box 10 Q59,Qp 8 8,Qp 10 10],Qr [9,.box 8 Q60,Qp 8 8]])],[(6,[Qn [2,3,.sv 51 .bool,.box 8 Q60,.vp 4 Q15,.vp 5 Q12,Qp 8 8]]),(31,[Qn [3,.box 8 Q60,.box 10 Q59,.vp 4 Q15,Qp 8 8,Qp 10 10]])],[(3,[.v,.v,.v,.v,.v,.q,.x])]⟩
def a7D(s:Z52):Option (Z52 ⊕ Z30):=cond (decide (s.2.2.2.2.1<8)) (cond ((bits .u32 .and s.1 1)==1) (some (.inl (bits .u32 .xor (A0o .u32 s.1 1) 3988292384,s.2.1,s.2.2.1,s.2.2.2.1,wrap .i64 (s.2.2.2.2.1+1),()))) (some (.inl (A0o .u32 s.1 1,s.2.1,s.2.2.1,s.2.2.2.1,wrap .i64 (s.2.2.2.2.1+1),())))) (some (.inr (s.1,s.2.1,s.2.2.1,s.2.2.2.1,())))
def a4X(s:Z30):Option Z65:=cond (decide (s.2.2.2.1<s.2.2.1)) ((m0k s.2.1 s.2.2.2.1).bind fun x1=>(y0s a7D (bits .u32 .xor s.1 (wrap .u32 x1),s.2.1,s.2.2.1,s.2.2.2.1,0,())).bind fun w2=>some (.inl (w2.1,w2.2.1,w2.2.2.1,wrap .i64 (w2.2.2.2.1+1),()))) (some (.inr (s.1,())))
def a4L(x:LI):Option Int:=(y0s a4X (4294967295,x,(x.length:Int),0,())).bind fun w3=>some (bits .u32 .xor (IntKind.max .u32) w3.1)
def a9E:FSem:=⟨[.v QB],[.v (.int .u32)],a4L⟩
def H89:Hints:=⟨[(58,[.sv 3 (.int .u32),.sv 7 QB,8,9],[Qe 0 [.sv 3 (.int .u32)]]),(29902,[.sv 3 (.int .u32),.sv 7 QB,8,9,17],[Qe 2 [.sv 3 (.int .u32),.sv 7 QB,8,9]])],[],[]⟩
def a8E(s:(b5K×(Int×(Int×((List LI)×b8M))))):Option ((b5K×(Int×(Int×((List LI)×b8M)))) ⊕ ((List LI)×b8M)):=cond (decide (s.2.2.1<s.2.1)) ((m0k s.1 s.2.2.1).bind fun x2=>cond ((decide (0≤s.2.2.1))&&(decide (s.2.2.1<(s.2.2.2.1.length:Int)))) (cond (lim ((a01 s.2.2.2.2.1)+2)) (some (.inl (s.1,s.2.1,wrap .i64 (s.2.2.1+1),s.2.2.2.1,a03 s.2.2.2.2.1 ([wrap .u64 ((a01 (a04 s.2.2.2.1 (a00 s.2.2.1) []):Nat):Int),wrap .u64 x2.2.1]:List Int),s.2.2.2.2.2.1,()))) none) none) (some (.inr (s.2.2.2.1,s.2.2.2.2.1,s.2.2.2.2.2.1,())))
def a8F(s:(Int×(Int×(LI×Z1)))):Option ((Int×(Int×(LI×Z1))) ⊕ (LI×Unit)):=cond (decide (s.2.1<s.1)) (cond ((decide (0≤s.2.1))&&(decide (s.2.1<(s.2.2.2.1.length:Int)))) (cond (lim ((a01 s.2.2.1)+(a01 (a04 s.2.2.2.1 (a00 s.2.1) [])))) (some (.inl (s.1,wrap .i64 (s.2.1+1),a03 s.2.2.1 (a04 s.2.2.2.1 (a00 s.2.1) []),s.2.2.2.1,()))) none) none) (some (.inr (s.2.2.1,())))
def b1V(x:b1j):Option (LI×Int):=(a9i x).bind fun y1=>cond (!y1.2.2) (some ([],1)) ((y0s a8E (x.2.2.2.2.1,(x.2.2.2.2.1.length:Int),0,y1.1,([wrap .u64 x.1.1,wrap .u64 x.1.2.1,wrap .u64 x.1.2.2.1,wrap .u64 (x.2.2.2.2.1.length:Int)]:List Int),x,())).bind fun w3=>(a9h w3.2.1).bind fun y4=>cond (lim (4+(a01 y4))) ((a4l (w3.2.2.1.2.2.1,8)).bind fun y5=>cond (lim ((a01 (a03 [75,78,83,68] y4))+(a01 y5))) ((a4L (a03 (a03 [75,78,83,68] y4) y5)).bind fun y6=>(a4l (wrap .u64 y6,4)).bind fun y7=>cond (lim ((a01 (a03 (a03 [75,78,83,68] y4) y5))+(a01 y7))) ((y0s a8F ((w3.1.length:Int),0,a03 (a03 (a03 [75,78,83,68] y4) y5) y7,w3.1,())).bind fun w8=>some (w8.1,0)) none) none) none)
def b8d:FSem:=⟨[.v Q74],[.o QV,.v QI],b1V⟩
def H29:Hints:=⟨[(250,[.sv 39 (.list false Q60),40,41,.own 4 4 QB,.own 7 7 QU,.vp 1 Q74],[Qe 0 [.own 4 4 QB,.own 7 7 QU,.vp 1 Q74]]),(4090,[76,77,.own 10 10 QV,.own 75 4 QB],[Qe 2 [.own 10 10 QV]])],[],[(8,[.q,.q,.v,.q,.q,.v,.v,.q,.q,.v,.q,.x,.x])]⟩
def a7O(s:(LI×(Int×Int×Z11×Z11×Z21))):Option ((LI×(Int×Int×Z11×Z11×Z21)) ⊕ ((Z11×Z29) ⊕ Z46)):=cond (decide (s.2.2.1<s.2.1)) ((m0k s.1 s.2.2.1).bind fun x2=>(a1U (x2,s.2.2.2.2.2.1.2.2.1)).bind fun y3=>cond (!y3) (some (.inr (Sum.inr ((6,(0,([]:(List LI)),()),()))))) (cond (s.2.2.2.2.2.1.2.1==0) none (cond ((decide (0≤(a06 s.2.2.1 s.2.2.2.2.2.1.2.1)))&&(decide ((a06 s.2.2.1 s.2.2.2.2.2.1.2.1)<(s.2.2.2.2.1.2.1.length:Int)))) (cond (lim ((a01 (a04 s.2.2.2.2.1.2.1 (a00 (a06 s.2.2.1 s.2.2.2.2.2.1.2.1)) []))+1)) (cond ((decide (0≤(a06 s.2.2.1 s.2.2.2.2.2.1.2.1)))&&(decide ((a06 s.2.2.1 s.2.2.2.2.2.1.2.1)<((a01 (a18 s.2.2.2.2.1.2.1 (a00 (a06 s.2.2.1 s.2.2.2.2.2.1.2.1)) (a03 (a04 s.2.2.2.2.1.2.1 (a00 (a06 s.2.2.1 s.2.2.2.2.2.1.2.1)) []) [x2])):Nat):Int)))) (cond (((a00 (a06 s.2.2.1 s.2.2.2.2.2.1.2.1))==(a00 (a06 s.2.2.1 s.2.2.2.2.2.1.2.1)))&&true) (cond (((a00 (a06 s.2.2.1 s.2.2.2.2.2.1.2.1))==(a00 (a06 s.2.2.1 s.2.2.2.2.2.1.2.1)))&&true) (some (.inl (s.1,s.2.1,wrap .i64 (s.2.2.1+1),s.2.2.2.1,(s.2.2.2.2.1.1,a18 s.2.2.2.2.1.2.1 (a00 (a06 s.2.2.1 s.2.2.2.2.2.1.2.1)) (a03 (a04 s.2.2.2.2.1.2.1 (a00 (a06 s.2.2.1 s.2.2.2.2.2.1.2.1)) []) [x2]),s.2.2.2.2.1.2.2),s.2.2.2.2.2.1,()))) none) none) none) none) none))) (some (.inr (Sum.inl (s.2.2.2.1,s.2.2.2.2.1,()))))
def b0O(x:Z31):Option Z28:=(a1V x.2).bind fun y1=>cond (!y1) (some ((0,([]:(List LI)),()),1)) (cond ((x.1.length:Int)==0) (some ((0,([]:(List LI)),()),7)) (cond (x.2.2.1==0) none (cond ((a06 (x.1.length:Int) x.2.2.1) != 0) (some ((0,([]:(List LI)),()),3)) (cond (x.2.2.1==0) none (cond (decide ((wrap .i64 (a05 (x.1.length:Int) x.2.2.1)) > 4096)) (some ((0,([]:(List LI)),()),4)) (cond ((decide (0≤x.2.2.1))&&((decide (x.2.2.1≤x.2.2.1))&&(lim (a00 x.2.2.1)))) ((y0s a7O (x.1,(x.1.length:Int),0,(0,([]:(List LI)),()),(x.2.2.2.1,a02 (a00 x.2.2.1) [],()),x.2,())).bind fun w4=>match w4 with |.inl a5=>some (a5.2.1,0) |.inr b6=>some (b6.2.1,b6.1)) none))))))
def b7f:FSem:=⟨[.v QL,.v Q12],[.v Q15,.v QI],b0O⟩
def H96:Hints:=⟨[(1018,[.sv 38 QL,39,40,.box 4 Q15,.box 6 (.pair QI Q6),.vp 3 Q12,Qp 4 4,Qp 6 6],[Qe 0 [.box 4 Q15,.box 6 (.pair QI Q6),Qp 4 4,Qp 6 6],Qr [5,.box 4 Q15,Qp 4 4]])],[],[(9,[.v,.v,.v,.v,.q,.q,.q,.x]),(16,[.s,.s,.s,.q,.q,.v,.q,.q,.v,.q,.b [6,64,65],.x,.x])]⟩
def a5Z(s:(LI×(Int×(Int×(Int×(LI×(Int×Z38))))))):Option ((LI×(Int×(Int×(Int×(LI×(Int×Z38)))))) ⊕ ((LI×(Int×Int×Z38)) ⊕ Z5)):=cond (decide (s.2.2.2.2.2.2.1<s.2.2.2.2.2.1)) ((m0k s.2.2.2.2.1 s.2.2.2.2.2.2.1).bind fun x4=>(a1U (x4,s.2.2.2.2.2.2.2.1.2.2.1)).bind fun y5=>cond (!y5) (some (.inr (Sum.inr ((6,[],()))))) (some (.inl (s.1,s.2.1,s.2.2.1,s.2.2.2.1,s.2.2.2.2.1,s.2.2.2.2.2.1,wrap .i64 (s.2.2.2.2.2.2.1+1),s.2.2.2.2.2.2.2.1,())))) (some (.inr (Sum.inl (s.1,s.2.1,s.2.2.1,s.2.2.2.1,s.2.2.2.2.2.2.2.1,()))))
def a6a(s:(LI×(Int×Int×Int×Int×Int×b1j×Z21))):Option ((LI×(Int×Int×Int×Int×Int×b1j×Z21)) ⊕ (b3s ⊕ Z5)):=cond (decide (s.2.2.2.2.2.1<s.2.2.2.1)) (cond ((decide (0≤(wrap .i64 ((v0s (wrap .i64 (s.2.2.2.2.2.1+s.2.1)) s.2.2.2.1)*s.2.2.2.2.2.2.2.1.2.1))))&&(decide ((wrap .i64 ((v0s (wrap .i64 (s.2.2.2.2.2.1+s.2.1)) s.2.2.2.1)*s.2.2.2.2.2.2.2.1.2.1))≤(s.1.length:Int)))) (cond ((decide (0≤(wrap .i64 (s.2.2.2.2.2.1*s.2.2.2.2.2.2.2.1.2.1))))&&(decide ((wrap .i64 (s.2.2.2.2.2.1*s.2.2.2.2.2.2.2.1.2.1))≤((a00 (wrap .i64 ((v0s (wrap .i64 (s.2.2.2.2.2.1+s.2.1)) s.2.2.2.1)*s.2.2.2.2.2.2.2.1.2.1)):Nat):Int)))) ((b0O (a08 (a00 (wrap .i64 (s.2.2.2.2.2.1*s.2.2.2.2.2.2.2.1.2.1))) (a07 (a00 (wrap .i64 ((v0s (wrap .i64 (s.2.2.2.2.2.1+s.2.1)) s.2.2.2.1)*s.2.2.2.2.2.2.2.1.2.1))) s.1),s.2.2.2.2.2.2.2.1)).bind fun y9=>cond (y9.2 != 0) (some (.inr (Sum.inr ((y9.2,[],()))))) ((a4K (y9.1,s.2.2.2.2.2.2.2.1,s.2.2.2.2.2.1,s.2.2.1)).bind fun y10=>cond (y10.2 != 0) (some (.inr (Sum.inr ((y10.2,[],()))))) ((a4m y10.1).bind fun y11=>cond (y11.2 != 0) (some (.inr (Sum.inr ((y11.2,[],()))))) ((a4x (s.2.2.2.2.2.2.1.2.2.1,y9.1)).bind fun y12=>cond (lim ((a01 s.2.2.2.2.2.2.1.2.2.2.1)+1)) (cond (lim ((a01 s.2.2.2.2.2.2.1.2.2.2.2.1)+1)) (some (.inl (s.1,s.2.1,s.2.2.1,s.2.2.2.1,wrap .i64 (s.2.2.2.2.1+(y11.1.length:Int)),wrap .i64 (s.2.2.2.2.2.1+s.2.1),(s.2.2.2.2.2.2.1.1,s.2.2.2.2.2.2.1.2.1,y12.1,a03 s.2.2.2.2.2.2.1.2.2.2.1 ([(s.2.2.2.2.2.1,s.2.2.2.2.1,())]:List (Int×Int×Unit)),a03 s.2.2.2.2.2.2.1.2.2.2.2.1 ([y10.1]:List a3s),s.2.2.2.2.2.2.1.2.2.2.2.2),s.2.2.2.2.2.2.2.1,()))) none) none)))) none) none) (some (.inr (Sum.inl (s.2.2.2.2.2.2.1,()))))
def a6o(x:(Z7×Z3)):Option (LI×Int):=(show Option (LI×(Int×Int×Z39))from(a1V x.1).bind fun y1=>cond (!y1) (some (x.2.1,x.2.2.1,x.2.2.2,true,x.1,())) (cond (decide (x.2.2.1<1)) (some (x.2.1,x.2.2.1,x.2.2.2,true,x.1,())) (cond (decide (x.2.2.1 > 4096)) (some (x.2.1,x.2.2.1,x.2.2.2,true,x.1,())) (cond (decide (x.2.2.2<0)) (some (x.2.1,x.2.2.1,x.2.2.2,true,x.1,())) (some (x.2.1,x.2.2.1,x.2.2.2,decide (x.2.2.2 > 3),x.1,())))))).bind fun z2=>cond z2.2.2.2.1 (some ([],1)) (cond (z2.2.2.2.2.1.2.1==0) none (cond ((a06 (z2.1.length:Int) z2.2.2.2.2.1.2.1) != 0) (some ([],3)) (cond (z2.2.2.2.2.1.2.1==0) none ((show Option (LI×(Int×Int×Int×Z39))from cond (decide ((wrap .i64 (a05 (z2.1.length:Int) z2.2.2.2.2.1.2.1)) > 4194304)) (some (z2.1,z2.2.1,z2.2.2.1,wrap .i64 (a05 (z2.1.length:Int) z2.2.2.2.2.1.2.1),true,z2.2.2.2.2.1,())) (cond (z2.2.1==0) none (some (z2.1,z2.2.1,z2.2.2.1,wrap .i64 (a05 (z2.1.length:Int) z2.2.2.2.2.1.2.1),decide ((wrap .i64 (a05 (wrap .i64 ((wrap .i64 ((wrap .i64 (a05 (z2.1.length:Int) z2.2.2.2.2.1.2.1))+z2.2.1))-1)) z2.2.1)) > 4096),z2.2.2.2.2.1,())))).bind fun z3=>cond z3.2.2.2.2.1 (some ([],4)) ((y0s a5Z (z3.1,z3.2.1,z3.2.2.1,z3.2.2.2.1,z3.1,(z3.1.length:Int),0,z3.2.2.2.2.2.1,())).bind fun w6=>match w6 with |.inl a7=>((y0s a6a (a7.1,a7.2.1,a7.2.2.1,a7.2.2.2.1,0,0,(a7.2.2.2.2.1,a7.2.2.2.1,0,[],[],()),a7.2.2.2.2.1,())).bind fun w13=>match w13 with |.inl a14=>((b1V a14.1).bind fun y16=>some (y16.1,y16.2)) |.inr b15=>some (b15.2.1,b15.1)) |.inr b8=>some (b8.2.1,b8.1))))))
def b1n:FSem:=⟨[.v Q12,.v QL,.v QI,.v QI],[.o QV,.v QI],a6o⟩
def H37:Hints:=⟨[(506,[.sv 1 QL,2,3,10,.sv 62 QL,63,64,.vp 4 Q12],[Qe 0 [.sv 1 QL,2,3,10,.vp 4 Q12],Qr [9,.own 8 8 QV]]),(4090,[.sv 1 QL,2,3,10,14,15,.box 13 Q73,.vp 4 Q12,Qp 13 13],[Qe 2 [.box 13 Q73,Qp 13 13],Qr [9,.own 8 8 QV]])],[(6,[Qn [.sv 1 QL,2,3,.sv 39 .bool,.vp 4 Q12]]),(62,[Qn [.sv 1 QL,2,3,10,.sv 61 .bool,.vp 4 Q12]])],[(20,[.v,.v,.v,.v,.v,.v,.v,.v,.v,.v,.v,.v,.v,.v,.v,.q,.w [0,17],.x])]⟩
def a5P(x:LI):Option Z14:=cond (lim (a01 x)) (some (x,0,0,())) none
def b4V:FSem:=⟨[.v QB],[.b Q16],a5P⟩
def a6b(s:Z30):Option (Z30 ⊕ (Unit ⊕ Z7)):=cond (decide (s.2.2.2.1<s.2.2.1)) ((m0k s.2.1 s.2.2.2.1).bind fun x1=>(show Option (Int×Int×Int×Z34)from cond (s.2.2.2.1==9) (cond (decide (x1 > 1)) (some (s.1,s.2.2.2.1,x1,s.2.1,s.2.2.1,s.2.2.2.1,true,())) (cond (decide (s.2.2.2.1 > 0)) (some (s.1,s.2.2.2.1,x1,s.2.1,s.2.2.1,s.2.2.2.1,x1==0,())) (some (s.1,s.2.2.2.1,x1,s.2.1,s.2.2.1,s.2.2.2.1,false,())))) (cond (decide (s.2.2.2.1 > 0)) (some (s.1,s.2.2.2.1,x1,s.2.1,s.2.2.1,s.2.2.2.1,x1==0,())) (some (s.1,s.2.2.2.1,x1,s.2.1,s.2.2.1,s.2.2.2.1,false,())))).bind fun z2=>cond z2.2.2.2.2.2.2.1 (some (.inr (Sum.inr ((0,0,2,()))))) (cond (decide ((wrap .i64 (7*z2.2.1))<0)) none (cond (decide (z2.2.2.1<128)) (some (.inr (Sum.inr ((bits .u64 .or z2.1 (A0n .u64 (wrap .u64 (a06 z2.2.2.1 128)) (wrap .i64 (7*z2.2.1))),wrap .i64 (z2.2.1+1),0,()))))) (some (.inl (bits .u64 .or z2.1 (A0n .u64 (wrap .u64 (a06 z2.2.2.1 128)) (wrap .i64 (7*z2.2.1))),z2.2.2.2.1,z2.2.2.2.2.1,wrap .i64 (z2.2.2.2.2.2.1+1),())))))) (some (.inr (Sum.inl ())))
def a8G(x:LI):Option (Int×Int×Int):=(y0s a6b (0,x,(x.length:Int),0,())).bind fun w3=>match w3 with |.inl a4=>some (0,0,3) |.inr b5=>some (b5.1,b5.2.1,b5.2.2.1)
def b5n:FSem:=⟨[.v QB],[.v QU,.v QI,.v QI],a8G⟩
def d6q:Hints:=⟨[(58,[.sv 5 QU,.sv 8 QB,9,10],[Qe 0 [],Qr [.sv 2 QU,3,4]])],[(7474,[Qn [.sv 5 QU,6,.sv 7 QV,.sv 8 QB,9,10,.sv 28 .bool]])],[]⟩
def a0V(x:Z33):Option Z30:=cond (x.1.2.2.1 != 0) (some (0,x.1)) (cond ((decide (0≤x.1.2.1))&&(decide (x.1.2.1≤(x.1.1.length:Int)))) ((a8G (a08 (a00 x.1.2.1) (a07 (a01 x.1.1) x.1.1))).bind fun y1=>(show Option Z83 from cond (y1.2.2==0) (cond (decide (y1.1 > x.2)) (some (y1.1,y1.2.1,4,x.1,())) (some (y1.1,y1.2.1,y1.2.2,x.1,()))) (some (y1.1,y1.2.1,y1.2.2,x.1,()))).bind fun z2=>cond (z2.2.2.1 != 0) (some (0,z2.2.2.2.1.1,z2.2.2.2.1.2.1,z2.2.2.1,z2.2.2.2.1.2.2.2)) (some (z2.1,z2.2.2.2.1.1,wrap .i64 (z2.2.2.2.1.2.1+z2.2.1),z2.2.2.2.1.2.2))) none)
def a7Y:FSem:=⟨[.r false (.b Q16),.v QU],[.v QU],a0V⟩
def d6r:Hints:=⟨[],[(15,[Qn [.sv 5 QU,6,7,.box pinned Q16,Qp 0 pinned]])],[(3,[.p,.p,.q,.q,.p,.p,.q,.q,.x,.x,.x,.v,.v,.v,.v,.v,.x])]⟩
def a3w(x:Z14):Option Z30:=some (x.2.2.1,x)
def a7Z:FSem:=⟨[.r false (.b Q16)],[.v QI],a3w⟩
def a1I(x:Z14):Option Z30:=some (wrap .i64 ((x.1.length:Int)-x.2.1),x)
def a4Y:FSem:=⟨[.r false (.b Q16)],[.v QI],a1I⟩
def d6s:Hints:=⟨[],[],[(1,[.p,.p,.q,.q,.v,.p,.p,.q,.q,.x,.x])]⟩
def a4b(x:Z14):Option Z30:=some (x.2.1,x)
def a8V:FSem:=⟨[.r false (.b Q16)],[.v QI],a4b⟩
def a4Z(x:Z33):Option Z45:=cond (x.1.2.2.1 != 0) (some ([],x.1)) ((a1I x.1).bind fun y1=>cond (decide ((v0r x.2 0) > y1.1)) (some ([],y1.2.1,y1.2.2.1,3,y1.2.2.2.2)) (cond ((decide (0≤(wrap .i64 (y1.2.2.1+(v0r x.2 0)))))&&(decide ((wrap .i64 (y1.2.2.1+(v0r x.2 0)))≤(y1.2.1.length:Int)))) (cond ((decide (0≤y1.2.2.1))&&(decide (y1.2.2.1≤((a00 (wrap .i64 (y1.2.2.1+(v0r x.2 0))):Nat):Int)))) (cond (lim (a01 (a08 (a00 y1.2.2.1) (a07 (a00 (wrap .i64 (y1.2.2.1+(v0r x.2 0)))) y1.2.1)))) (some (a08 (a00 y1.2.2.1) (a07 (a00 (wrap .i64 (y1.2.2.1+(v0r x.2 0)))) y1.2.1),y1.2.1,wrap .i64 (y1.2.2.1+(v0r x.2 0)),y1.2.2.2)) none) none) none))
def b1g:FSem:=⟨[.r false (.b Q16),.v QI],[.o QV],a4Z⟩
def d6t:Hints:=⟨[],[],[(7,[.p,.p,.q,.q,.p,.p,.q,.q,.p,.p,.q,.q,.v,.v,.x,.x,.x])]⟩
def a3H(s:Z93):Option (Z93 ⊕ Z55):=cond (decide (s.2.2.1<s.2.1)) (cond ((decide (0≤s.2.2.1))&&(decide (s.2.2.1<(s.2.2.2.1.length:Int)))) (some (.inl (wrap .u64 ((wrap .u64 (s.1*256))+(wrap .u64 (a04 s.2.2.2.1 (a00 s.2.2.1) 0))),s.2.1,wrap .i64 (s.2.2.1+1),s.2.2.2.1,s.2.2.2.2.1,()))) none) (some (.inr (s.1,s.2.2.2.2.1,())))
def a3x(x:Z33):Option Z30:=(a3S x.2).bind fun y1=>(a4Z (x.1,y1)).bind fun y2=>(y0s a3H (0,(y2.1.length:Int),0,y2.1,y2.2,())).bind fun w3=>some (w3.1,w3.2.1)
def b2m:FSem:=⟨[.r false (.b Q16),.v QI],[.v QU],a3x⟩
def d6u:Hints:=⟨[(58,[.sv 5 QU,12,13,.own 11 1011 QV,.box pinned Q16],[Qe 0 [.sv 5 QU,.box pinned Q16]])],[],[]⟩
def a5D(s:(LI×(Int×Int×Z95×Z95×Z37))):Option ((LI×(Int×Int×Z95×Z95×Z37)) ⊕ (LI×(Z95×Z95×Z37))):=cond (decide (s.2.2.1<s.2.1)) ((a0V (s.2.2.2.2.2.1,1048704)).bind fun y6=>cond (lim ((a01 s.2.2.2.2.1.2.1)+1)) ((a0V (y6.2,4096)).bind fun y7=>cond (lim ((a01 s.2.2.2.2.1.2.2.1)+1)) (some (.inl (s.1,s.2.1,wrap .u64 (s.2.2.1+1),s.2.2.2.1,(s.2.2.2.2.1.1,a03 s.2.2.2.2.1.2.1 [wrap .i64 y6.1],a03 s.2.2.2.2.1.2.2.1 [wrap .i64 y7.1],s.2.2.2.2.1.2.2.2),y7.2,()))) none) none) (some (.inr (s.1,s.2.2.2.1,s.2.2.2.2.1,s.2.2.2.2.2.1,())))
def a5E(s:(Int×Int×Z95×Z99)):Option ((Int×Int×Z95×Z99) ⊕ ((Z95×Z99) ⊕ (Int×Z99))):=cond (decide (s.2.1<s.1)) (cond ((decide (0≤s.2.1))&&(decide (s.2.1<(s.2.2.2.1.2.2.1.length:Int)))) (cond ((a04 s.2.2.2.1.2.2.1 (a00 s.2.1) 0)==0) (some (.inr (Sum.inr ((2,((0,0,0,()),[],[],0,0,0,()),()))))) (some (.inl (s.1,wrap .i64 (s.2.1+1),s.2.2.1,(s.2.2.2.1.1,s.2.2.2.1.2.1,s.2.2.2.1.2.2.1,wrap .i64 (s.2.2.2.1.2.2.2.1+(a04 s.2.2.2.1.2.2.1 (a00 s.2.1) 0)),s.2.2.2.1.2.2.2.2),())))) none) (some (.inr (Sum.inl (s.2.2.1,s.2.2.2.1,()))))
def a3I(x:LI):Option (Z95×Int):=cond (decide ((x.length:Int)<4)) (some (((0,0,0,()),[],[],0,0,0,()),3)) (cond (decide (4≤(x.length:Int))) (cond ((b2s (a07 4 x)) != [75,78,83,68]) (some (((0,0,0,()),[],[],0,0,0,()),2)) (cond (decide (4≤(x.length:Int))) ((a5P (a08 4 (a07 (a01 x) x))).bind fun y1=>(a0V (y1,1048576)).bind fun y2=>(a0V (y2.2,8)).bind fun y3=>(a0V (y3.2,24)).bind fun y4=>(a0V (y4.2,4096)).bind fun y5=>(y0s a5D (x,y5.1,0,((0,0,0,()),[],[],0,0,0,()),((wrap .i64 y2.1,wrap .i64 y3.1,wrap .i64 y4.1,()),[],[],0,0,0,()),y5.2,())).bind fun w8=>(a3w w8.2.2.2.1).bind fun y9=>cond (y9.1 != 0) (some (((0,0,0,()),[],[],0,0,0,()),y9.1)) ((a1I y9.2).bind fun y10=>cond (decide (y10.1<12)) (some (((0,0,0,()),[],[],0,0,0,()),3)) ((a3x (y10.2,8)).bind fun y11=>(a4b y11.2).bind fun y12=>cond ((decide (0≤(wrap .i64 (4+y12.1))))&&(decide ((wrap .i64 (4+y12.1))≤(w8.1.length:Int)))) ((a4L (a07 (a00 (wrap .i64 (4+y12.1))) w8.1)).bind fun y13=>(a3x (y12.2,4)).bind fun y14=>cond ((wrap .u64 y13) != y14.1) (some (((0,0,0,()),[],[],0,0,0,()),5)) ((a1V w8.2.2.1.1).bind fun y15=>cond (!y15) (some (((0,0,0,()),[],[],0,0,0,()),2)) ((y0s a5E ((w8.2.2.1.2.2.1.length:Int),0,w8.2.1,(w8.2.2.1.1,w8.2.2.1.2.1,w8.2.2.1.2.2.1,w8.2.2.1.2.2.2.1,y11.1,wrap .i64 ((wrap .i64 (4+y12.1))+4),w8.2.2.1.2.2.2.2.2.2),())).bind fun w16=>match w16 with |.inl a17=>(cond (decide (a17.2.1.2.2.2.1 > 4194304)) (some (((0,0,0,()),[],[],0,0,0,()),2)) (some (a17.2.1,0))) |.inr b18=>some (b18.2.1,b18.1)))) none))) none)) none)
def b0P:FSem:=⟨[.v QB],[.v Q27,.v QI],a3I⟩
def d6v:Hints:=⟨[(4090,[.sv 0 QB,.sv 38 QU,.sv 39 QU,.box 2 Q27,.box 4 Q26,.box 1021 Q16,Qp 2 2,Qp 4 4,Qp 5 1021],[Qe 0 [.sv 0 QB,.box 2 Q27,.box 4 Q26,.box 1021 Q16,Qp 2 2,Qp 4 4,Qp 5 1021]]),(1048570,[93,94,.box 2 Q27,.box 4 Q26,Qp 2 2,Qp 4 4,.ref 92 4 [.snd,.snd,.fst]],[Qe 2 [.box 2 Q27,.box 4 Q26,Qp 2 2,Qp 4 4],Qr [3,.box 2 Q27,Qp 2 2]])],[],[(12,[.r [4,41],.r [4,42],.q,.w [44,1021,1044],.v,.q,.x,.x,.x]),(13,[.r [4,49],.r [4,50],.q,.w [52,1021,1052],.v,.q,.x,.x,.x])]⟩
def b1W(x:Int):Option Int:=cond ((a06 x 2)==0) (some (wrap .i64 (wrap .u64 (a05 x 2)))) (some (wrap .i64 ((wrap .i64 (0-(wrap .i64 (wrap .u64 (a05 x 2)))))-1)))
def b8e:FSem:=⟨[.v QU],[.v QI],b1W⟩
def a5F(s:(LI×(Int×Int×c1a))):Option ((LI×(Int×Int×c1a)) ⊕ (LI×c1a)):=cond (decide (s.2.2.1<s.2.1)) ((a0V (s.2.2.2.2.1,7)).bind fun y11=>(a0V (y11.2,7)).bind fun y12=>(a0V (y12.2,2048)).bind fun y13=>(b1W y13.1).bind fun y14=>cond (lim ((a01 s.2.2.2.1.2.2.2.1)+1)) (some (.inl (s.1,s.2.1,wrap .u64 (s.2.2.1+1),(s.2.2.2.1.1,s.2.2.2.1.2.1,s.2.2.2.1.2.2.1,a03 s.2.2.2.1.2.2.2.1 ([(wrap .i64 y11.1,wrap .i64 y12.1,y14,())]:List Z7),s.2.2.2.1.2.2.2.2),y13.2,()))) none) (some (.inr (s.1,s.2.2.2.1,s.2.2.2.2.1,())))
def a7P(x:LI):Option (a3s×Int×Int×Int):=cond (decide ((x.length:Int)<2)) (some ((0,0,(0,0,0,()),[],[],()),0,0,3)) ((show Option (LI×(Bool×b4L))from(m0k x 0).bind fun x1=>cond (x1 != 245) (some (x,true,(0,0,(0,0,0,()),[],[],()),())) ((m0k x 1).bind fun x2=>some (x,x2 != 75,(0,0,(0,0,0,()),[],[],()),()))).bind fun z3=>cond z3.2.1 (some ((0,0,(0,0,0,()),[],[],()),0,0,2)) (cond (decide (2≤(z3.1.length:Int))) ((a5P (a08 2 (a07 (a01 z3.1) z3.1))).bind fun y4=>(a0V (y4,4194304)).bind fun y5=>(a0V (y5.2,4096)).bind fun y6=>(a0V (y6.2,1048576)).bind fun y7=>(a0V (y7.2,8)).bind fun y8=>(a0V (y8.2,24)).bind fun y9=>(a0V (y9.2,16)).bind fun y10=>(y0s a5F (z3.1,y10.1,0,(wrap .i64 y5.1,wrap .i64 y6.1,(wrap .i64 y7.1,wrap .i64 y8.1,wrap .i64 y9.1,z3.2.2.1.2.2.1.2.2.2),z3.2.2.1.2.2.2),y10.2,())).bind fun w15=>(a0V (w15.2.2.1,1048576)).bind fun y16=>(a3w y16.2).bind fun y17=>cond (y17.1 != 0) (some ((0,0,(0,0,0,()),[],[],()),0,0,y17.1)) ((a1I y17.2).bind fun y18=>cond (decide (y18.1<1)) (some ((0,0,(0,0,0,()),[],[],()),0,0,3)) ((a4b y18.2).bind fun y19=>cond ((decide (0≤(wrap .i64 (2+y19.1))))&&(decide ((wrap .i64 (2+y19.1))≤(w15.1.length:Int)))) ((a7U (a07 (a00 (wrap .i64 (2+y19.1))) w15.1)).bind fun y20=>(m0k w15.1 (wrap .i64 (2+y19.1))).bind fun x21=>cond (y20 != x21) (some ((0,0,(0,0,0,()),[],[],()),0,0,5)) ((a6Z w15.2.1).bind fun y22=>cond (!y22) (some ((0,0,(0,0,0,()),[],[],()),0,0,2)) (some (w15.2.1,wrap .i64 ((wrap .i64 (2+y19.1))+1),wrap .i64 y16.1,0)))) none))) none))
def b4l:FSem:=⟨[.v QB],[.v (.pair QI (.pair QI (.pair Q12 (.pair (.list false Q12) Q43)))),.v QI,.v QI,.v QI],a7P⟩
def H71:Hints:=⟨[(8186,[.sv 0 QB,.sv 54 QU,.sv 55 QU,.box 2 Q58,.box 1029 Q16,Qp 2 2,Qp 6 1029],[Qe 0 [.sv 0 QB,.box 2 Q58,.box 1029 Q16,Qp 2 2,Qp 6 1029]])],[(14,[Qn [.sv 0 QB,.sv 25 .bool,.box 2 Q58,Qp 2 2]])],[(25,[.v,.v,.v,.v,.v,.v,.v,.v,.x])]⟩
def b2W(x:LI):Option Z14:=cond (lim (a01 x)) (some (x,0,0,())) none
def b9s:FSem:=⟨[.v QB],[.b Q16],b2W⟩
def a0P(x:Z14):Option Z30:=some (x.2.2.1,x)
def a2j:FSem:=⟨[.r false (.b Q16)],[.v QI],a0P⟩
def a2E(x:Z14):Option Z30:=some (wrap .i64 ((wrap .i64 (8*(x.1.length:Int)))-x.2.1),x)
def a8a:FSem:=⟨[.r false (.b Q16)],[.v QI],a2E⟩
def H74:Hints:=⟨[],[],[(1,[.p,.p,.q,.q,.v,.v,.p,.p,.q,.q,.x,.x])]⟩
def a1z(x:Z33):Option Z30:=(m0k x.1.1 (wrap .i64 (a05 x.2 8))).bind fun x1=>cond (decide ((wrap .i64 (7-(a06 x.2 8)))<0)) none (some (bits .u8 .and (A0o .u8 x1 (wrap .i64 (7-(a06 x.2 8)))) 1,x.1))
def a5G:FSem:=⟨[.r false (.b Q16),.v QI],[.v QV],a1z⟩
def a4f(s:Z83):Option (Z83 ⊕ Z55):=cond (decide (s.2.2.1<s.2.1)) ((a1z (s.2.2.2.1,s.2.2.2.1.2.1)).bind fun y3=>some (.inl (bits .u64 .or (A0n .u64 s.1 1) (wrap .u64 y3.1),s.2.1,wrap .i64 (s.2.2.1+1),(y3.2.1,wrap .i64 (y3.2.2.1+1),y3.2.2.2),()))) (some (.inr (s.1,s.2.2.2.1,())))
def a0H(x:Z33):Option Z30:=cond (x.1.2.2.1 != 0) (some (0,x.1)) ((show Option Z68 from cond (decide (x.2<0)) (some (x.2,true,x.1,())) (some (x.2,decide (x.2 > 64),x.1,()))).bind fun z1=>cond z1.2.1 (some (0,z1.2.2.1.1,z1.2.2.1.2.1,1,z1.2.2.1.2.2.2)) ((a2E z1.2.2.1).bind fun y2=>cond (decide (z1.1 > y2.1)) (some (0,y2.2.1,y2.2.2.1,3,y2.2.2.2.2)) ((y0s a4f (0,z1.1,0,y2.2,())).bind fun w4=>some (w4.1,w4.2.1))))
def a2k:FSem:=⟨[.r false (.b Q16),.v QI],[.v QU],a0H⟩
def d6w:Hints:=⟨[(506,[.sv 5 QU,27,28,.box pinned Q16,Qp 0 pinned],[Qe 0 [.sv 5 QU,.box pinned Q16]])],[(14,[Qn [1,.sv 16 .bool,.box pinned Q16,Qp 0 pinned]])],[]⟩
def a1d(x:Z33):Option Z30:=(a0H (x.1,x.2)).bind fun y1=>(show Option (Int×Z68)from cond (y1.2.2.2.1 != 0) (some (x.2,y1.1,true,y1.2,())) (some (x.2,y1.1,x.2==0,y1.2,()))).bind fun z2=>cond z2.2.2.1 (some (0,z2.2.2.2.1)) (cond (decide ((wrap .i64 (64-z2.1))<0)) none (cond (decide ((wrap .i64 (64-z2.1))<0)) none (some (A0o .i64 (wrap .i64 (A0n .u64 z2.2.1 (wrap .i64 (64-z2.1)))) (wrap .i64 (64-z2.1)),z2.2.2.2.1))))
def a2N:FSem:=⟨[.r false (.b Q16),.v QI],[.v QI],a1d⟩
def d6x:Hints:=⟨[],[(14,[Qn [1,.sv 5 QU,.sv 17 .bool,.box pinned Q16]])],[]⟩
def a6c(s:(Int×c0Z)):Option ((Int×c0Z) ⊕ (Int×c5z)):=cond (decide (s.2.2.1<s.2.1)) ((a1d (s.2.2.2.1,s.1)).bind fun y4=>cond (lim ((a01 s.2.2.2.2.1.2.2.2.2.2.1)+1)) (some (.inl (s.1,s.2.1,wrap .i64 (s.2.2.1+1),y4.2,(s.2.2.2.2.1.1,s.2.2.2.2.1.2.1,s.2.2.2.2.1.2.2.1,s.2.2.2.2.1.2.2.2.1,s.2.2.2.2.1.2.2.2.2.1,a03 s.2.2.2.2.1.2.2.2.2.2.1 [y4.1],s.2.2.2.2.1.2.2.2.2.2.2),()))) none) (some (.inr (s.1,s.2.2.2.2.1,s.2.2.2.1,())))
def a8H(x:(Z14×a1X)):Option (Bool×Z14×a1X):=(a0H (x.1,5)).bind fun y1=>(a0H (y1.2,4)).bind fun y2=>(a0H (y2.2,5)).bind fun y3=>(y0s a6c (wrap .i64 y3.1,wrap .i64 ((wrap .i64 y1.1)+1),0,y3.2,(x.2.1,x.2.2.1,x.2.2.2.1,wrap .i64 y2.1,x.2.2.2.2.2),())).bind fun w5=>(a1t w5.2.1.2.2.2.2.2.1).bind fun y6=>some (y6==w5.1,w5.2.2.1,w5.2.1)
def b5o:FSem:=⟨[.r false (.b Q16),.r false (.b Q41)],[.v .bool],a8H⟩
def d6y:Hints:=⟨[(250,[6,20,21,.box pinned Q16,.box 1000001 Q41,Qp 0 pinned,Qp 1 1000001],[Qe 0 [6,.box 1000001 Q41,.box pinned Q16,Qp 1 1000001]])],[],[(6,[.p,.p,.p,.r [26,1000001],.r [27,1000001],.p,.v,.w [30,1030,pinned],.q,.a [31,32,1000001],.x,.x,.x])]⟩
def a3f(s:c0Z):Option (c0Z ⊕ c8j):=cond (decide (s.2.1<3)) ((a1d (s.2.2.1,8)).bind fun y6=>cond ((decide (0≤s.2.1))&&(decide (s.2.1<3))) (some (.inl (s.1,wrap .i64 (s.2.1+1),y6.2,(s.2.2.2.1.1,s.2.2.2.1.2.1,s.2.2.2.1.2.2.1,s.2.2.2.1.2.2.2.1,s.2.2.2.1.2.2.2.2.1,s.2.2.2.1.2.2.2.2.2.1,a18 s.2.2.2.1.2.2.2.2.2.2.1 (a00 s.2.1) y6.1,s.2.2.2.1.2.2.2.2.2.2.2),()))) none) (some (.inr (s.1,s.2.2.1,s.2.2.2.1,())))
def a6S(s:(Int×Bool×c0Z)):Option ((Int×Bool×c0Z) ⊕ (Int×Bool×c5z)):=cond (decide (s.2.2.2.1<s.2.2.1)) ((a0H (s.2.2.2.2.1,5)).bind fun y15=>(a0H (y15.2,4)).bind fun y16=>cond (lim ((a01 s.2.2.2.2.2.1.2.2.2.2.2.2.2.1)+1)) (some (.inl (s.1,s.2.1,s.2.2.1,wrap .u64 (s.2.2.2.1+1),y16.2,(s.2.2.2.2.2.1.1,s.2.2.2.2.2.1.2.1,s.2.2.2.2.2.1.2.2.1,s.2.2.2.2.2.1.2.2.2.1,s.2.2.2.2.2.1.2.2.2.2.1,s.2.2.2.2.2.1.2.2.2.2.2.1,s.2.2.2.2.2.1.2.2.2.2.2.2.1,a03 s.2.2.2.2.2.1.2.2.2.2.2.2.2.1 ([(wrap .i64 ((wrap .i64 y15.1)+1),wrap .i64 y16.1,())]:List (Int×Int×Unit)),s.2.2.2.2.2.1.2.2.2.2.2.2.2.2),()))) none) (some (.inr (s.1,s.2.1,s.2.2.2.2.2.1,s.2.2.2.2.1,())))
def a9w(x:Z14):Option (a1X×Int×Bool×Z14):=(a0H (x,3)).bind fun y1=>(a0H (y1.2,5)).bind fun y2=>(a0H (y2.2,5)).bind fun y3=>(show Option (Int×Bool×c5z)from(show Option (c8j ⊕ ((Int×Bool×c5z) ⊕ (Int×Bool×d1K)))from cond ((wrap .i64 y1.1)==2) ((a0H (y3.2,3)).bind fun y4=>some (Sum.inr (Sum.inl (wrap .i64 y3.1,true,(wrap .i64 y1.1,wrap .i64 y2.1,wrap .i64 y4.1,0,0,[],a02 3 0,[],[],(0,[],()),[],()),y4.2,())))) (cond ((wrap .i64 y1.1)==4) ((a0H (y3.2,10)).bind fun y5=>(y0s a3f (wrap .i64 y3.1,0,y5.2,(wrap .i64 y1.1,wrap .i64 y2.1,0,0,wrap .i64 ((wrap .i64 y5.1)+1),[],a02 3 0,[],[],(0,[],()),[],()),())).bind fun w7=>some (Sum.inl (w7.1,w7.2.1,w7.2.2.1,()))) (cond ((wrap .i64 y1.1)==3) (some (Sum.inl (wrap .i64 y3.1,y3.2,(wrap .i64 y1.1,wrap .i64 y2.1,0,0,0,[],a02 3 0,[],[],(0,[],()),[],()),()))) (cond ((wrap .i64 y1.1)==5) (some (Sum.inr (Sum.inr ((wrap .i64 y3.1,true,y3.2,(wrap .i64 y1.1,wrap .i64 y2.1,0,0,0,[],a02 3 0,[],[],(0,[],()),[],()),()))))) (some (Sum.inr (Sum.inl (wrap .i64 y3.1,true,(wrap .i64 y1.1,wrap .i64 y2.1,0,0,0,[],a02 3 0,[],[],(0,[],()),[],()),y3.2,())))))))).bind fun z8=>match z8 with |.inl a9=>((a8H (a9.2.1,a9.2.2.1)).bind fun y11=>some (a9.1,y11.1,y11.2.2,y11.2.1,())) |.inr b10=>(match b10 with |.inl a12=>some (a12.1,a12.2.1,a12.2.2.1,a12.2.2.2.1,()) |.inr b13=>((a0H (b13.2.2.1,2)).bind fun y14=>(y0s a6S (b13.1,b13.2.1,y14.1,0,y14.2,b13.2.2.2.1,())).bind fun w17=>some (w17.1,w17.2.1,w17.2.2.1,w17.2.2.2.1,())))).bind fun z18=>some (z18.2.2.1,z18.1,z18.2.1,z18.2.2.2.1)
end Go.Ab
namespace Go.Ab
open IntKind(wrap)
open Go.Proofs
set_option maxRecDepth 100000
set_option linter.unusedVariables false
def b6D:FSem:=⟨[.r false (.b Q16)],[.v (.pair QI (.pair QI (.pair QI (.pair QI (.pair QI (.pair QL (.pair (.arr 3 QI) (.pair (.list false Q3) Q23)))))))),.v QI,.v .bool],a9w⟩
def d6z:Hints:=⟨[(8106,[3,.sv 4 .bool,.sv 50 QU,.sv 51 QU,.box pinned Q16,.box 2 Q41,Qp 0 pinned,Qp 2 2],[Qe 7 [3,.sv 4 .bool,.box 2 Q41,.box pinned Q16,Qp 2 2]]),(129550,[3,38,.box pinned Q16,.box 2 Q41,Qp 0 pinned,Qp 2 2],[Qe 5 [3,.box pinned Q16,.box 2 Q41,Qp 0 pinned,Qp 2 2]])],[(63,[Qn [3,.sv 4 .bool,.box 2 Q41,.box pinned Q16,Qp 2 2]]),(2024,[Qn [3,.box pinned Q16,.box 2 Q41,Qp 0 pinned,Qp 2 2],Qe 0 [3,.sv 4 .bool,.box 2 Q41,.box pinned Q16,Qp 2 2],Qe 4 [3,.sv 4 .bool,.box pinned Q16,.box 2 Q41,Qp 0 pinned,Qp 2 2]])],[]⟩
def a3p(s:Z83):Option (Z83 ⊕ Z55):=cond (s.2.2.1==(wrap .i64 (8*(s.2.2.2.1.1.length:Int)))) (some (.inr (0,(s.2.2.2.1.1,s.2.2.2.1.2.1,3,s.2.2.2.1.2.2.2),()))) ((a1z (s.2.2.2.1,s.2.2.1)).bind fun y2=>cond (y2.1==1) (some (.inr (s.2.1,(y2.2.1,wrap .i64 (s.2.2.1+1),y2.2.2.2),()))) (cond (s.2.1==s.1) (some (.inr (0,(y2.2.1,y2.2.2.1,2,y2.2.2.2.2),()))) (some (.inl (s.1,wrap .i64 (s.2.1+1),wrap .i64 (s.2.2.1+1),y2.2,())))))
def a3d(x:Z33):Option Z30:=cond (x.1.2.2.1 != 0) (some (0,x.1)) ((y0s a3p (v0r x.2 0,0,x.1.2.1,x.1,())).bind fun w3=>some (w3.1,w3.2.1))
def b1h:FSem:=⟨[.r false (.b Q16),.v QI],[.v QI],a3d⟩
def d6A:Hints:=⟨[(62,[1,5,6,.box pinned Q16,Qp 0 pinned],[Qr [4,.box pinned Q16]])],[],[(4,[.p,.p,.q,.q,.v,.x])]⟩
def a7m(x:Int):Option Int:=cond (decide (x≥2147483648)) (some 0) (cond ((a06 x 2)==0) (some (wrap .i64 (wrap .u64 (a05 x 2)))) (some (wrap .i64 ((wrap .i64 (0-(wrap .i64 (wrap .u64 (a05 x 2)))))-1))))
def b6E:FSem:=⟨[.v QU],[.v QI],a7m⟩
def b2X(x:Z33):Option Z50:=(a3d (x.1,32)).bind fun y1=>(a0P y1.2).bind fun y2=>cond (y2.1 != 0) ((a0P y2.2).bind fun y3=>some (0,y3.1,y3.2)) (cond (decide ((wrap .u64 y1.1)<32)) ((a0H (y2.2,x.2)).bind fun y4=>cond (decide (x.2<0)) none ((a7m (wrap .u64 ((A0n .u64 (wrap .u64 y1.1) x.2)+y4.1))).bind fun y5=>(a0P y4.2).bind fun y6=>some (y5,y6.1,y6.2))) ((a0H (y2.2,32)).bind fun y7=>(a0P y7.2).bind fun y8=>cond (y8.1 != 0) ((a0P y8.2).bind fun y9=>some (0,y9.1,y9.2)) ((show Option Z68 from cond (decide (y7.1≥2147483648)) (some (y7.1,true,y8.2,())) (cond (decide (x.2<0)) none (some (y7.1,decide ((A0o .u64 y7.1 x.2)<32),y8.2,())))).bind fun z10=>cond z10.2.1 (some (0,2,z10.2.2.1)) ((a7m z10.1).bind fun y11=>some (y11,0,z10.2.2.1)))))
def b9t:FSem:=⟨[.r false (.b Q16),.v QI],[.v QI,.v QI],b2X⟩
def d6B:Hints:=⟨[],[(254,[Qn [.sv 8 QU,.sv 44 .bool,.box pinned Q16]])],[]⟩
def a9x(s:Z93):Option (Z93 ⊕ (Z64 ⊕ Z79)):=cond (decide (s.2.2.1<s.2.1)) ((b2X (s.2.2.2.2.1,s.1)).bind fun y5=>cond (y5.2.1 != 0) (some (.inr (Sum.inr ((y5.2.1,[],y5.2.2,()))))) (cond (lim ((a01 s.2.2.2.1)+1)) (some (.inl (s.1,s.2.1,wrap .i64 (s.2.2.1+1),a03 s.2.2.2.1 [y5.1],y5.2.2,()))) none)) (some (.inr (Sum.inl (s.2.2.2.1,s.2.2.2.2.1,()))))
def b2Y(x:(Z14×Int×Int)):Option Z60:=(show Option (Int×Z68)from(a1Q x.2.1).bind fun y1=>cond (!y1) (some (x.2.1,x.2.2,true,x.1,())) (cond (decide (x.2.2<0)) (some (x.2.1,x.2.2,true,x.1,())) (some (x.2.1,x.2.2,decide (x.2.2 > 4194304),x.1,())))).bind fun z2=>cond z2.2.2.1 (some ([],1,z2.2.2.2.1)) ((a0P z2.2.2.2.1).bind fun y3=>cond (y3.1 != 0) ((a0P y3.2).bind fun y4=>some ([],y4.1,y4.2)) ((y0s a9x (z2.1,z2.2.1,0,[],y3.2,())).bind fun w6=>match w6 with |.inl a7=>some (a7.1,0,a7.2.1) |.inr b8=>some (b8.2.1,b8.1,b8.2.2.1)))
def b9u:FSem:=⟨[.r false (.b Q16),.v QI,.v QI],[.o QI,.v QI],b2Y⟩
def d6C:Hints:=⟨[(250,[1,27,28,.own 8 8 QI,.box pinned Q16,Qp 0 pinned],[Qe 0 [.own 8 8 QI,.box pinned Q16],Qr [7,.own 6 6 QI,.box pinned Q16]])],[(6,[Qn [1,2,.sv 21 .bool,.box pinned Q16,Qp 0 pinned]])],[]⟩
def a8I(s:(Int×Z93)):Option ((Int×Z93) ⊕ Z89):=cond (decide (s.2.2.2.1<s.2.2.1)) ((a1d (s.2.2.2.2.2.1,s.2.1)).bind fun y6=>cond (lim ((a01 s.2.2.2.2.1)+1)) (some (.inl (s.1,s.2.1,s.2.2.1,wrap .i64 (s.2.2.2.1+1),a03 s.2.2.2.2.1 [y6.1],y6.2,()))) none) (some (.inr (s.1,s.2.1,s.2.2.2.2.1,s.2.2.2.2.2.1,())))
def b1X(x:Z33):Option (Int×Z60):=(a0H (x.1,5)).bind fun y1=>(a0P y1.2).bind fun y2=>cond (y2.1 != 0) ((a0P y2.2).bind fun y3=>some (0,[],y3.1,y3.2)) (cond (decide ((wrap .i64 y1.1)≤25)) ((b2Y (y2.2,wrap .i64 y1.1,x.2)).bind fun y4=>some (wrap .i64 y1.1,y4.1,y4.2.1,y4.2.2)) (cond ((wrap .i64 y1.1) != 31) (some (0,[],2,y2.2)) ((a0H (y2.2,5)).bind fun y5=>(y0s a8I (wrap .i64 y1.1,wrap .i64 y5.1,x.2,0,[],y5.2,())).bind fun w7=>(a0P w7.2.2.2.1).bind fun y8=>cond (y8.1 != 0) ((a0P y8.2).bind fun y9=>some (0,[],y9.1,y9.2)) ((a1t w7.2.2.1).bind fun y10=>cond (y10 != w7.2.1) (some (0,[],2,y8.2)) (some (w7.1,w7.2.2.1,0,y8.2))))))
def b8f:FSem:=⟨[.r false (.b Q16),.v QI],[.v QI,.o QI,.v QI],b1X⟩
def d6D:Hints:=⟨[(2042,[7,10,37,38,.own 11 11 QI,.box pinned Q16,Qp 0 pinned],[Qe 0 [7,10,.own 11 11 QI,.box pinned Q16,Qp 0 pinned]])],[],[]⟩
def a8J(s:(Int×(Int×(LI×(LI×(Z14×Z82)))))):Option ((Int×(Int×(LI×(LI×(Z14×Z82))))) ⊕ ((LI×(Z5×Z5×Z37)) ⊕ (Int×(LI×(Z5×Z37))))):=cond (decide (s.2.1<s.1)) (cond ((decide (0≤s.2.1))&&(decide (s.2.1<(s.2.2.2.1.length:Int)))) ((b1X (s.2.2.2.2.1,a04 s.2.2.2.1 (a00 s.2.1) 0)).bind fun y6=>cond (y6.2.2.1 != 0) (some (.inr (Sum.inr ((y6.2.2.1,[],(0,[],()),y6.2.2.2,()))))) (cond (lim ((a01 s.2.2.2.2.2.2.1.2.1)+1)) (cond (lim ((a01 s.2.2.1)+(a01 y6.2.1))) (some (.inl (s.1,wrap .i64 (s.2.1+1),a03 s.2.2.1 y6.2.1,s.2.2.2.1,y6.2.2.2,s.2.2.2.2.2.1,(s.2.2.2.2.2.2.1.1,a03 s.2.2.2.2.2.2.1.2.1 [y6.1],s.2.2.2.2.2.2.1.2.2),()))) none) none)) none) (some (.inr (Sum.inl (s.2.2.1,s.2.2.2.2.2.1,s.2.2.2.2.2.2.1,s.2.2.2.2.1,()))))
def b1Y(x:(Z14×Int×Int)):Option (Z5×Z60):=(a7t (x.2.1,x.2.2)).bind fun y1=>cond (!y1) (some ((0,[],()),[],1,x.1)) ((a0H (x.1,4)).bind fun y2=>(a0P y2.2).bind fun y3=>cond (y3.1 != 0) ((a0P y3.2).bind fun y4=>some ((0,[],()),[],y4.1,y4.2)) ((a2U (wrap .i64 y2.1,x.2.1,x.2.2)).bind fun y5=>cond ((y5.length:Int)==0) (some ((0,[],()),[],2,y3.2)) ((y0s a8J ((y5.length:Int),0,[],y5,y3.2,(0,[],()),(wrap .i64 y2.1,[],()),())).bind fun w7=>match w7 with |.inl a8=>some (a8.2.2.1,a8.1,0,a8.2.2.2.1) |.inr b9=>some (b9.2.2.1,b9.2.1,b9.1,b9.2.2.2.1))))
def b8g:FSem:=⟨[.r false (.b Q16),.v QI,.v QI],[.v Q11,.o QI,.v QI],b1Y⟩
def d6E:Hints:=⟨[(4090,[43,44,.own 12 12 QI,.own 42 10 QI,.box pinned Q16,.box 6 Q11,.box 11 Q10,Qp 0 pinned,Qp 6 6,Qp 11 11],[Qe 0 [.own 12 12 QI,.box 6 Q11,.box 11 Q10,.box pinned Q16,Qp 6 6,Qp 11 11],Qr [8,.own 7 7 QI,.box 6 Q11,.box pinned Q16,Qp 6 6]])],[],[]⟩
def b0Q(s:(Int×Int×Bool×Int×Int×Z14×b2w)):Option ((Int×Int×Bool×Int×Int×Z14×b2w) ⊕ (Int×Int×Bool×Z14×b2w)):=cond (decide (s.2.2.2.2.1<s.2.2.2.1)) ((a1d (s.2.2.2.2.2.1,s.2.1)).bind fun y7=>cond (lim ((a01 s.2.2.2.2.2.2.2.1.2.2.2.2.2.2.2.2.1)+1)) (some (.inl (s.1,s.2.1,s.2.2.1,s.2.2.2.1,wrap .i64 (s.2.2.2.2.1+1),y7.2,s.2.2.2.2.2.2.1,(s.2.2.2.2.2.2.2.1.1,s.2.2.2.2.2.2.2.1.2.1,s.2.2.2.2.2.2.2.1.2.2.1,s.2.2.2.2.2.2.2.1.2.2.2.1,s.2.2.2.2.2.2.2.1.2.2.2.2.1,s.2.2.2.2.2.2.2.1.2.2.2.2.2.1,s.2.2.2.2.2.2.2.1.2.2.2.2.2.2.1,s.2.2.2.2.2.2.2.1.2.2.2.2.2.2.2.1,a03 s.2.2.2.2.2.2.2.1.2.2.2.2.2.2.2.2.1 [y7.1],s.2.2.2.2.2.2.2.1.2.2.2.2.2.2.2.2.2),()))) none) (some (.inr (s.1,s.2.1,s.2.2.1,s.2.2.2.2.2.1,s.2.2.2.2.2.2.1,s.2.2.2.2.2.2.2.1,())))
def b2n(x:Z33):Option (a1X×Z30):=cond (decide (x.2<1)) (some ((0,0,0,0,0,[],a02 3 0,[],[],(0,[],()),[],()),1,x.1)) (cond (decide (x.2 > 4096)) (some ((0,0,0,0,0,[],a02 3 0,[],[],(0,[],()),[],()),1,x.1)) ((a0P x.1).bind fun y1=>cond (y1.1 != 0) (some ((0,0,0,0,0,[],a02 3 0,[],[],(0,[],()),[],()),y1.1,y1.2)) ((a9w y1.2).bind fun y2=>(a0P y2.2.2.2).bind fun y3=>cond (y3.1 != 0) (some ((0,0,0,0,0,[],a02 3 0,[],[],(0,[],()),[],()),y3.1,y3.2)) ((a7R (y2.1.1,y2.1,x.2)).bind fun y4=>cond (!y4) (some ((0,0,0,0,0,[],a02 3 0,[],[],(0,[],()),[],()),2,y3.2)) ((a4B (y2.1,x.2)).bind fun y5=>(y0s b0Q (x.2,y2.2.1,y2.2.2.1,y5,0,y3.2,(0,0,0,0,0,[],a02 3 0,[],[],(0,[],()),[],()),y2.1,())).bind fun w8=>(a0P w8.2.2.2.1).bind fun y9=>cond (y9.1 != 0) (some ((0,0,0,0,0,[],a02 3 0,[],[],(0,[],()),[],()),y9.1,y9.2)) ((a6e w8.2.2.2.2.2.1.1).bind fun y10=>cond y10 ((b1Y (y9.2,w8.1,(w8.2.2.2.2.2.1.2.2.2.2.2.2.2.2.1.length:Int))).bind fun y11=>cond (y11.2.2.1 != 0) (some ((0,0,0,0,0,[],a02 3 0,[],[],(0,[],()),[],()),y11.2.2.1,y11.2.2.2)) (cond (!w8.2.2.1) (some ((0,0,0,0,0,[],a02 3 0,[],[],(0,[],()),[],()),2,y11.2.2.2)) ((a1t w8.2.2.2.2.2.1.2.2.2.2.2.2.2.2.1).bind fun y12=>cond (y12 != w8.2.1) (some ((0,0,0,0,0,[],a02 3 0,[],[],(0,[],()),[],()),2,y11.2.2.2)) ((a9M ((w8.2.2.2.2.2.1.1,w8.2.2.2.2.2.1.2.1,w8.2.2.2.2.2.1.2.2.1,w8.2.2.2.2.2.1.2.2.2.1,w8.2.2.2.2.2.1.2.2.2.2.1,w8.2.2.2.2.2.1.2.2.2.2.2.1,w8.2.2.2.2.2.1.2.2.2.2.2.2.1,w8.2.2.2.2.2.1.2.2.2.2.2.2.2.1,w8.2.2.2.2.2.1.2.2.2.2.2.2.2.2.1,y11.1,y11.2.1,w8.2.2.2.2.2.1.2.2.2.2.2.2.2.2.2.2.2),w8.1)).bind fun y13=>cond (!y13) (some ((0,0,0,0,0,[],a02 3 0,[],[],(0,[],()),[],()),2,y11.2.2.2)) (some ((w8.2.2.2.2.2.1.1,w8.2.2.2.2.2.1.2.1,w8.2.2.2.2.2.1.2.2.1,w8.2.2.2.2.2.1.2.2.2.1,w8.2.2.2.2.2.1.2.2.2.2.1,w8.2.2.2.2.2.1.2.2.2.2.2.1,w8.2.2.2.2.2.1.2.2.2.2.2.2.1,w8.2.2.2.2.2.1.2.2.2.2.2.2.2.1,w8.2.2.2.2.2.1.2.2.2.2.2.2.2.2.1,y11.1,y11.2.1,w8.2.2.2.2.2.1.2.2.2.2.2.2.2.2.2.2.2),0,y11.2.2.2)))))) (cond (!w8.2.2.1) (some ((0,0,0,0,0,[],a02 3 0,[],[],(0,[],()),[],()),2,y9.2)) ((a1t w8.2.2.2.2.2.1.2.2.2.2.2.2.2.2.1).bind fun y14=>cond (y14 != w8.2.1) (some ((0,0,0,0,0,[],a02 3 0,[],[],(0,[],()),[],()),2,y9.2)) ((a9M (w8.2.2.2.2.2.1,w8.1)).bind fun y15=>cond (!y15) (some ((0,0,0,0,0,[],a02 3 0,[],[],(0,[],()),[],()),2,y9.2)) (some (w8.2.2.2.2.2.1,0,y9.2)))))))))))
def c1D:FSem:=⟨[.r false (.b Q16),.v QI],[.v Q42,.v QI],b2n⟩
def H73:Hints:=⟨[(1018,[1,8,.sv 9 .bool,47,48,.box pinned Q16,.box 4 Q42,.box 7 (.pair QI (.pair QI (.pair QI (.pair QI (.pair QI (.pair QL (.pair (.arr 3 QI) (.pair (.list false Q3) (.pair (.list true QI) Q20))))))))),Qp 0 pinned,Qp 4 4,Qp 7 7],[Qe 0 [1,8,.sv 9 .bool,.box pinned Q16,.box 4 Q42,.box 7 (.pair QI (.pair QI (.pair QI (.pair QI (.pair QI (.pair QL (.pair (.arr 3 QI) (.pair (.list false Q3) (.pair (.list true QI) Q20))))))))),Qp 0 pinned,Qp 4 4,Qp 7 7]])],[],[(14,[.r [7,50],.r [7,51],.p,.v,.w [54,1054,pinned],.q,.x,.x,.x])]⟩
def a3q(s:Z67):Option (Z67 ⊕ (Z55 ⊕ Z37)):=cond (decide (s.2.1<s.1)) ((a1z (s.2.2.1,s.2.1)).bind fun y1=>cond (y1.1==1) (some (.inr (Sum.inr (((y1.2.1,y1.2.2.1,2,y1.2.2.2.2),()))))) (some (.inl (s.1,wrap .i64 (s.2.1+1),y1.2,())))) (some (.inr (Sum.inl (s.1,s.2.2.1,()))))
def a5a(x:Z14):Option Z14:=cond (x.2.2.1 != 0) (some x) ((y0s a3q (wrap .i64 ((wrap .i64 (a05 (wrap .i64 (x.2.1+7)) 8))*8),x.2.1,x,())).bind fun w2=>match w2 with |.inl a3=>some (a3.2.1.1,a3.1,a3.2.1.2.2) |.inr b4=>some b4.1)
def b1i:FSem:=⟨[.r false (.b Q16)],[],a5a⟩
def H75:Hints:=⟨[(58,[2,3,.box pinned Q16,Qp 0 pinned],[Qe 0 [2,.box pinned Q16,Qp 0 pinned],Qr [.box pinned Q16]])],[],[]⟩
def a7Q(s:(Int×Int×Int×a3s×c1a)):Option ((Int×Int×Int×a3s×c1a) ⊕ ((Int×a3s×c1a) ⊕ (Int×Int×b4L))):=cond (decide (s.2.2.1<s.2.1)) ((b2n (s.2.2.2.2.2.1,s.2.2.2.2.1.2.1)).bind fun y7=>cond (y7.2.1 != 0) (some (.inr (Sum.inr ((0,2,(0,0,(0,0,0,()),[],[],()),()))))) (cond (lim ((a01 s.2.2.2.2.1.2.2.2.2.1)+1)) (some (.inl (s.1,s.2.1,wrap .i64 (s.2.2.1+1),s.2.2.2.1,(s.2.2.2.2.1.1,s.2.2.2.2.1.2.1,s.2.2.2.2.1.2.2.1,s.2.2.2.2.1.2.2.2.1,a03 s.2.2.2.2.1.2.2.2.2.1 ([y7.1]:List a1X),s.2.2.2.2.1.2.2.2.2.2),y7.2.2,()))) none)) (some (.inr (Sum.inl (s.1,s.2.2.2.1,s.2.2.2.2.1,s.2.2.2.2.2.1,()))))
def a6p(x:LI):Option (a3s×Int×Int):=(a7P x).bind fun y1=>cond (y1.2.2.2 != 0) (some ((0,0,(0,0,0,()),[],[],()),0,y1.2.2.2)) (cond (decide ((x.length:Int)<(wrap .i64 ((wrap .i64 (y1.2.1+y1.2.2.1))+2)))) (some ((0,0,(0,0,0,()),[],[],()),0,3)) (cond ((decide (0≤(wrap .i64 (y1.2.1+y1.2.2.1))))&&(decide ((wrap .i64 (y1.2.1+y1.2.2.1))≤(x.length:Int)))) ((a6j (a07 (a00 (wrap .i64 (y1.2.1+y1.2.2.1))) x)).bind fun y2=>(m0k x (wrap .i64 (y1.2.1+y1.2.2.1))).bind fun x3=>(m0k x (wrap .i64 ((wrap .i64 (y1.2.1+y1.2.2.1))+1))).bind fun x4=>cond (y2 != (bits .u16 .or (A0n .u16 (wrap .u16 x3) 8) (wrap .u16 x4))) (some ((0,0,(0,0,0,()),[],[],()),0,5)) (cond ((decide (0≤(wrap .i64 (y1.2.1+y1.2.2.1))))&&(decide ((wrap .i64 (y1.2.1+y1.2.2.1))≤(x.length:Int)))) (cond ((decide (0≤y1.2.1))&&(decide (y1.2.1≤((a00 (wrap .i64 (y1.2.1+y1.2.2.1)):Nat):Int)))) ((b2W (a08 (a00 y1.2.1) (a07 (a00 (wrap .i64 (y1.2.1+y1.2.2.1))) x))).bind fun y5=>(y0s a7Q (wrap .i64 (y1.2.1+y1.2.2.1),y1.1.2.2.1.2.1,0,(0,0,(0,0,0,()),[],[],()),y1.1,y5,())).bind fun w8=>match w8 with |.inl a9=>((a2E a9.2.2.2.1).bind fun y11=>cond (decide (y11.1≥8)) (some ((0,0,(0,0,0,()),[],[],()),0,2)) ((a5a y11.2).bind fun y12=>(a0P y12).bind fun y13=>cond (y13.1 != 0) (some ((0,0,(0,0,0,()),[],[],()),0,2)) ((a4k a9.2.2.1).bind fun y14=>cond (!y14) (some ((0,0,(0,0,0,()),[],[],()),0,2)) (some (a9.2.2.1,wrap .i64 (a9.1+2),0))))) |.inr b10=>some (b10.2.2.1,b10.1,b10.2.1)) none) none)) none))
def b7g:FSem:=⟨[.v QB],[.v Q60,.v QI,.v QI],a6p⟩
def H21:Hints:=⟨[(2042,[9,59,60,.box 2 Q60,.box 5 Q59,.box 1056 Q16,Qp 2 2,Qp 5 5,Qp 10 1056],[Qe 0 [9,.box 2 Q60,.box 5 Q59,.box 1056 Q16,Qp 2 2,Qp 5 5,Qp 10 1056],Qr [3,4,.box 2 Q60,Qp 2 2]])],[],[(7,[.v,.v,.v,.v,.v,.v,.v,.v,.v,.v,.v,.v,.v,.v,.v,.v,.v,.x])]⟩
def a4M(x:(LI×(Z95×Int×Int×Int))):Option (a3s×Z28):=(m0k x.2.1.2.1 x.2.2.1).bind fun x1=>cond (decide ((wrap .i64 ((x.1.length:Int)-x.2.2.2.1))<x1)) (some ((0,0,(0,0,0,()),[],[],()),(0,([]:(List LI)),()),3)) (cond ((decide (0≤(wrap .i64 (x.2.2.2.1+x1))))&&(decide ((wrap .i64 (x.2.2.2.1+x1))≤(x.1.length:Int)))) (cond ((decide (0≤x.2.2.2.1))&&(decide (x.2.2.2.1≤((a00 (wrap .i64 (x.2.2.2.1+x1)):Nat):Int)))) ((a6p (a08 (a00 x.2.2.2.1) (a07 (a00 (wrap .i64 (x.2.2.2.1+x1))) x.1))).bind fun y2=>cond (y2.2.2 != 0) (some ((0,0,(0,0,0,()),[],[],()),(0,([]:(List LI)),()),y2.2.2)) ((show Option (Bool×a3s×c2U)from cond (decide (y2.2.1<x1)) (some (true,(0,0,(0,0,0,()),[],[],()),(0,([]:(List LI)),()),y2.1,())) (cond (!(eqT Q12 y2.1.2.2.1 x.2.1.1)) (some (true,(0,0,(0,0,0,()),[],[],()),(0,([]:(List LI)),()),y2.1,())) (cond (y2.1.1 != x.2.2.2.2) (some (true,(0,0,(0,0,0,()),[],[],()),(0,([]:(List LI)),()),y2.1,())) ((m0k x.2.1.2.2.1 x.2.2.1).bind fun x3=>some (y2.1.2.1 != x3,(0,0,(0,0,0,()),[],[],()),(0,([]:(List LI)),()),y2.1,()))))).bind fun z4=>cond z4.1 (some ((0,0,(0,0,0,()),[],[],()),(0,([]:(List LI)),()),2)) ((a3Q z4.2.2.2.1).bind fun y5=>cond (y5.2 != 0) (some ((0,0,(0,0,0,()),[],[],()),(0,([]:(List LI)),()),y5.2)) (some (z4.2.2.2.1,y5.1,0))))) none) none)
def a9F:FSem:=⟨[.v QB,.v Q27,.v QI,.v QI,.v QI],[.v Q60,.v Q15,.v QI],a4M⟩
def d6F:Hints:=⟨[],[(126,[Qn [.sv 72 .bool,.box 10 Q60,.box 11 Q15,.box 14 Q60,Qp 10 10,Qp 11 11,Qp 14 14]])],[(7,[.v,.v,.x,.x,.q,.q,.v,.v,.x,.x,.x,.q,.q,.v,.x,.x,.x,.q,.q,.v,.v,.v,.v,.v,.x,.x]),(12,[.q,.r [17,86],.w [0,10],.x,.x])]⟩
def a8K(s:((List LI)×(Int×Int×Z11×Z11×Z9))):Option (((List LI)×(Int×Int×Z11×Z11×Z9)) ⊕ (Z11×Z29)):=cond (decide (s.2.2.1<s.2.1)) ((m0k s.1 s.2.2.1).bind fun x4=>cond ((decide (0≤s.2.2.2.2.2.1.2.1))&&(decide (s.2.2.2.2.2.1.2.1≤(x4.length:Int)))) (cond ((decide (0≤s.2.2.2.2.2.1.1))&&(decide (s.2.2.2.2.2.1.1≤((a00 s.2.2.2.2.2.1.2.1:Nat):Int)))) ((a2w (a08 (a00 s.2.2.2.2.2.1.1) (a07 (a00 s.2.2.2.2.2.1.2.1) x4))).bind fun y5=>cond (lim ((a01 s.2.2.2.2.1.2.1)+1)) (some (.inl (s.1,s.2.1,wrap .i64 (s.2.2.1+1),s.2.2.2.1,(s.2.2.2.2.1.1,a03 s.2.2.2.2.1.2.1 ([y5]:List LI),s.2.2.2.2.1.2.2),s.2.2.2.2.2.1,()))) none) none) none) (some (.inr (s.2.2.2.1,s.2.2.2.2.1,())))
def b1Z(x:(Z11×Int×Int×Unit)):Option Z28:=(a3j x.1).bind fun y1=>cond (!y1) (some ((0,([]:(List LI)),()),1)) ((show Option (Bool×Z11×Z11×Z9)from cond (decide (x.2.1<0)) (some (true,(0,([]:(List LI)),()),x.1,x.2,())) (cond (decide (x.2.1≥x.2.2.1)) (some (true,(0,([]:(List LI)),()),x.1,x.2,())) ((a3i x.1).bind fun y2=>some (decide (x.2.2.1 > y2),(0,([]:(List LI)),()),x.1,x.2,())))).bind fun z3=>cond z3.1 (some ((0,([]:(List LI)),()),6)) ((y0s a8K (z3.2.2.1.2.1,(z3.2.2.1.2.1.length:Int),0,z3.2.1,(z3.2.2.1.1,([]:(List LI)),()),z3.2.2.2.1,())).bind fun w6=>some (w6.2.1,0)))
def b8h:FSem:=⟨[.v Q15,.v Q3],[.v Q15,.v QI],b1Z⟩
def d6G:Hints:=⟨[(250,[.sv 35 (.list false QL),36,37,.box 4 Q15,.box 6 (.pair QI Q7),.vp 3 Q3,Qp 4 4,Qp 6 6],[Qe 0 [.box 4 Q15,.box 6 (.pair QI Q7),Qp 4 4,Qp 6 6]])],[(14,[Qn [.sv 29 .bool,.box 4 Q15,.vp 2 Q15,.vp 3 Q3,Qp 4 4]])],[(3,[.x,.x,.x,.x,.v,.v,.v,.v,.x,.x,.x,.v,.v,.v,.v,.x,.x]),(9,[.q,.q,.v,.v,.v,.v,.v,.v,.v,.q,.x,.x,.x])]⟩
def a2n(s:(LI×(Int×(Int×(LI×(Int×(Int×(LI×c5w)))))))):Option ((LI×(Int×(Int×(LI×(Int×(Int×(LI×c5w))))))) ⊕ Z48):=cond (decide (s.2.2.2.2.2.1<s.2.2.2.2.1)) ((m0k s.2.2.2.1 s.2.2.2.2.2.1).bind fun x3=>(m0k s.2.2.2.2.2.2.2.1.2.2.1 s.2.2.2.2.2.1).bind fun x4=>(show Option ((LI×(Int×(Int×(Int×(LI×(Int×(Int×(LI×c5w)))))))) ⊕ Z5)from cond (decide ((v0r s.2.2.2.2.2.2.2.2.1.1 s.2.2.1)<(v0s s.2.2.2.2.2.2.2.2.1.2.1 (wrap .i64 (s.2.2.1+x4))))) ((a4M (s.1,s.2.2.2.2.2.2.2.1,s.2.2.2.2.2.1,s.2.1,s.2.2.1)).bind fun y5=>cond (y5.2.2 != 0) (some (Sum.inr ((y5.2.2,[],())))) ((b1Z (y5.2.1,wrap .i64 ((v0r s.2.2.2.2.2.2.2.2.1.1 s.2.2.1)-s.2.2.1),wrap .i64 ((v0s s.2.2.2.2.2.2.2.2.1.2.1 (wrap .i64 (s.2.2.1+x4)))-s.2.2.1),())).bind fun y6=>cond (y6.2 != 0) (some (Sum.inr ((y6.2,[],())))) ((a5k y6.1).bind fun y7=>cond (lim ((a01 s.2.2.2.2.2.2.1)+(a01 y7))) (some (Sum.inl (s.1,s.2.1,x3,wrap .i64 (s.2.2.1+x4),s.2.2.2.1,s.2.2.2.2.1,s.2.2.2.2.2.1,a03 s.2.2.2.2.2.2.1 y7,s.2.2.2.2.2.2.2.1,s.2.2.2.2.2.2.2.2.1,()))) none))) (some (Sum.inl (s.1,s.2.1,x3,wrap .i64 (s.2.2.1+x4),s.2.2.2.1,s.2.2.2.2.1,s.2.2.2.2.2.1,s.2.2.2.2.2.2.1,s.2.2.2.2.2.2.2.1,s.2.2.2.2.2.2.2.2.1,())))).bind fun z8=>match z8 with |.inl a9=>some (.inl (a9.1,wrap .i64 (a9.2.1+a9.2.2.1),a9.2.2.2.1,a9.2.2.2.2.1,a9.2.2.2.2.2.1,wrap .i64 (a9.2.2.2.2.2.2.1+1),a9.2.2.2.2.2.2.2.1,a9.2.2.2.2.2.2.2.2.1,a9.2.2.2.2.2.2.2.2.2.1,())) |.inr b10=>some (.inr (Sum.inr ((b10.1,b10.2.1,()))))) (some (.inr (Sum.inl (s.2.2.2.2.2.2.1,()))))
def a6q(x:Z14):Option (LI×Int):=(a3I x.1).bind fun y1=>cond (y1.2 != 0) (some ([],y1.2)) ((show Option (LI×(Bool×c5w))from cond (decide (x.2.1<0)) (some (x.1,true,y1.1,x.2,())) (cond (decide (x.2.1 > x.2.2.1)) (some (x.1,true,y1.1,x.2,())) (some (x.1,decide (x.2.2.1 > y1.1.2.2.2.1),y1.1,x.2,())))).bind fun z2=>cond z2.2.1 (some ([],6)) ((y0s a2n (z2.1,z2.2.2.1.2.2.2.2.2.1,0,z2.2.2.1.2.1,(z2.2.2.1.2.1.length:Int),0,[],z2.2.2.1,z2.2.2.2.1,())).bind fun w11=>match w11 with |.inl a12=>some (a12.1,0) |.inr b13=>some (b13.2.1,b13.1)))
def b3I:FSem:=⟨[.v QB,.v Q3],[.o QI,.v QI],a6q⟩
def H43:Hints:=⟨[(1018,[.sv 0 QB,9,10,.sv 48 QL,49,50,.own 8 8 QI,.box 6 Q27,.vp 3 Q3,Qp 6 6],[Qe 0 [.own 8 8 QI],Qr [5,.own 4 4 QI]])],[(30,[Qn [.sv 0 QB,.sv 44 .bool,.box 6 Q27,.vp 3 Q3,Qp 6 6]]),(260711,[Qn [.sv 0 QB,9,12,13,.sv 48 QL,49,50,.own 8 8 QI,.box 6 Q27,.vp 3 Q3,Qp 6 6],Qr [5,.own 4 4 QI]])],[(12,[.v,.v,.v,.v,.v,.v,.v,.v,.v,.x])]⟩
def a3J(s:(LI×(Int×(LI×(Int×Int×b1j×Z95×b3s))))):Option ((LI×(Int×(LI×(Int×Int×b1j×Z95×b3s)))) ⊕ ((LI×(Int×b1j×Z95×b3s)) ⊕ (Int×b3s))):=cond (decide (s.2.2.2.2.1<s.2.2.2.1)) ((m0k s.2.2.1 s.2.2.2.2.1).bind fun x2=>(a4M (s.1,s.2.2.2.2.2.2.1,s.2.2.2.2.1,s.2.1,s.2.2.2.2.2.2.2.1.2.1)).bind fun y3=>cond (y3.2.2 != 0) (some (.inr (Sum.inr ((y3.2.2,((0,0,0,()),0,0,[],[],()),()))))) ((a4x (s.2.2.2.2.2.2.2.1.2.2.1,y3.2.1)).bind fun y4=>cond (lim ((a01 s.2.2.2.2.2.2.2.1.2.2.2.1)+1)) (cond (lim ((a01 s.2.2.2.2.2.2.2.1.2.2.2.2.1)+1)) (some (.inl (s.1,wrap .i64 (s.2.1+x2),s.2.2.1,s.2.2.2.1,wrap .i64 (s.2.2.2.2.1+1),s.2.2.2.2.2.1,s.2.2.2.2.2.2.1,(s.2.2.2.2.2.2.2.1.1,wrap .i64 (s.2.2.2.2.2.2.2.1.2.1+y3.1.2.1),y4.1,a03 s.2.2.2.2.2.2.2.1.2.2.2.1 ([(s.2.2.2.2.2.2.2.1.2.1,wrap .i64 (s.2.1-s.2.2.2.2.2.2.1.2.2.2.2.2.1),())]:List (Int×Int×Unit)),a03 s.2.2.2.2.2.2.2.1.2.2.2.2.1 ([y3.1]:List a3s),s.2.2.2.2.2.2.2.1.2.2.2.2.2),()))) none) none)) (some (.inr (Sum.inl (s.1,s.2.1,s.2.2.2.2.2.1,s.2.2.2.2.2.2.1,s.2.2.2.2.2.2.2.1,()))))
def a8b(x:LI):Option (b1j×Int):=(a3I x).bind fun y1=>cond (y1.2 != 0) (some (((0,0,0,()),0,0,[],[],()),y1.2)) ((y0s a3J (x,y1.1.2.2.2.2.2.1,y1.1.2.1,(y1.1.2.1.length:Int),0,((0,0,0,()),0,0,[],[],()),y1.1,(y1.1.1,0,0,[],[],()),())).bind fun w5=>match w5 with |.inl a6=>(cond (decide (a6.2.1<(a6.1.length:Int))) (some (((0,0,0,()),0,0,[],[],()),2)) (cond (a6.2.2.2.2.1.2.2.1 != a6.2.2.2.1.2.2.2.2.1) (some (((0,0,0,()),0,0,[],[],()),5)) (some (a6.2.2.2.2.1,0)))) |.inr b7=>some (b7.2.1,b7.1))
def b3J:FSem:=⟨[.v QB],[.v Q74,.v QI],a8b⟩
def H44:Hints:=⟨[(506,[.sv 0 QB,7,.sv 28 QL,29,30,.box 2 Q74,.box 4 Q27,.box 6 Q73,Qp 2 2,Qp 4 4,Qp 6 6],[Qe 0 [.sv 0 QB,7,.box 2 Q74,.box 4 Q27,.box 6 Q73,Qp 2 2,Qp 4 4,Qp 6 6],Qr [3,.box 2 Q74,Qp 2 2]])],[],[]⟩
def b4W(x:Unit):Option Bool:=(a6o ((8000,1,8,()),[1,2,3],2,0)).bind fun y1=>(a8b y1.1).bind fun y2=>(b4i y2.1).bind fun y3=>(a6q (y1.1,1,3,())).bind fun y4=>(a7W (y2.1,2)).bind fun y5=>cond (y1.2==0) (cond (y2.2==0) (cond (y3.2==0) (cond (y4.2==0) (cond (y5.2==0) (cond ((y2.1.2.2.2.2.1.length:Int)==2) ((a5l (y3.1,[1,2,3])).bind fun y6=>cond y6 ((a5l (y4.1,[2,3])).bind fun y7=>cond y7 (cond (y5.1==1) ((a7V [1,2,3]).bind fun y8=>some (y2.1.2.2.1==y8)) (some false)) (some false)) (some false)) (some false)) (some false)) (some false)) (some false)) (some false)) (some false)
def b8i:FSem:=⟨[],[.v .bool],b4W⟩
def H25:Hints:=⟨[],[],[(7,[.x,.x,.x,.x,.x,.x,.x,.x,.x,.x,.x,.x,.x,.x,.x,.x,.x,.x,.x,.x,.x,.x,.x,.x,.x,.q,.q,.x,.x,.x,.q,.q,.x,.x,.x,.x,.x,.x,.x,.q,.q,.q,.q,.x,.x,.x])]⟩
def b4m(x:(LI×LI)):Option Bool:=some ((b2s x.1)==(b2s x.2))
def c1E:FSem:=⟨[.v QB,.v QB],[.v .bool],b4m⟩
def b8N(x:Int):Option Int:=(show Option (Int×Bool×Unit)from cond (decide (x<1)) (some (x,true,())) (some (x,decide (x > 31),()))).bind fun z1=>cond z1.2.1 (some 0) (cond (decide ((wrap .u64 (wrap .i64 (z1.1-1)))<0)) none (some (A0n .i64 (-1) (wrap .u64 (wrap .i64 (z1.1-1))))))
def c2Z:FSem:=⟨[.v QI],[.v QI],b8N⟩
def d6H:Hints:=⟨[],[(6,[Qn [0,.sv 8 .bool]])],[]⟩
def b7h(x:Int):Option Int:=(show Option (Int×Bool×Unit)from cond (decide (x<1)) (some (x,true,())) (some (x,decide (x > 31),()))).bind fun z1=>cond z1.2.1 (some 0) (cond (decide ((wrap .u64 (wrap .i64 (z1.1-1)))<0)) none (some (wrap .i64 ((A0n .i64 1 (wrap .u64 (wrap .i64 (z1.1-1))))-1))))
def c1F:FSem:=⟨[.v QI],[.v QI],b7h⟩
def d6I:Hints:=⟨[],[(6,[Qn [0,.sv 8 .bool]])],[]⟩
def b2o(x:(Int×Int)):Option Bool:=cond (decide (x.2≥1)) (cond (decide (x.2≤31)) ((b8N x.2).bind fun y1=>cond (decide (x.1≥y1)) ((b7h x.2).bind fun y2=>some (decide (x.1≤y2))) (some false)) (some false)) (some false)
def c1G:FSem:=⟨[.v QI,.v QI],[.v .bool],b2o⟩
def b2a(x:Z7):Option Bool:=cond (decide (x.1≥1)) (cond (decide (x.1≤1048576)) (cond (decide (x.2.1≥1)) (cond (decide (x.2.1≤8)) (cond (decide (x.2.2.1≥4)) (some (decide (x.2.2.1≤24))) (some false)) (some false)) (some false)) (some false)) (some false)
def b8j:FSem:=⟨[.v Q12],[.v .bool],b2a⟩
def a7n(s:(LI×Z38)):Option ((LI×Z38) ⊕ Z0):=cond (decide (s.2.1<(s.1.length:Int))) ((m0k s.1 s.2.1).bind fun x3=>(b2o (x3,s.2.2.1.2.2.1)).bind fun y4=>cond (!y4) (some (.inr (Sum.inr ((false,()))))) (some (.inl (s.1,wrap .i64 (s.2.1+1),s.2.2.1,())))) (some (.inr (Sum.inl ())))
def b2Z(x:(Z7×(LI×Int))):Option Bool:=(show Option (LI×Z39)from(b2a x.1).bind fun y1=>cond (!y1) (some (x.2.1,true,x.1,())) (cond (decide ((x.2.1.length:Int) > x.2.2)) (some (x.2.1,true,x.1,())) (cond (x.1.2.1==0) none (some (x.2.1,(a06 (x.2.1.length:Int) x.1.2.1) != 0,x.1,()))))).bind fun z2=>cond z2.2.1 (some false) ((y0s a7n (z2.1,0,z2.2.2.1,())).bind fun w5=>match w5 with |.inl a6=>some true |.inr b7=>some b7.1)
def b9v:FSem:=⟨[.v Q12,.v QL,.v QI],[.v .bool],b2Z⟩
def H39:Hints:=⟨[(58,[.sv 1 QL,7,.vp 3 Q12],[Qe 0 [],Qr [.sv 6 .bool]])],[(6,[Qn [.sv 1 QL,.sv 24 .bool,.vp 3 Q12]])],[(6,[.v,.v,.v,.v,.v,.v,.x,.x])]⟩
def b3a(x:(Z7×Z3)):Option (LI×(b1j×Bool)):=(a6o (x.1,x.2.1,wrap .i64 (1+(bits .i64 .and x.2.2.1 63)),bits .i64 .and x.2.2.2 3)).bind fun y1=>(a8b y1.1).bind fun y2=>cond (y1.2==0) (some (y1.1,y2.1,y2.2==0)) (some (y1.1,y2.1,false))
def b9w:FSem:=⟨[.v Q12,.v QL,.v QI,.v QI],[.v QB,.v Q74,.v .bool],b3a⟩
def H40:Hints:=⟨[],[],[(3,[.v,.q,.v,.v,.v,.v,.v,.v,.v,.w [0,9],.x])]⟩
def a5b(s:(Int×(LI×(Int×Int×Int×b8M)))):Option ((Int×(LI×(Int×Int×Int×b8M))) ⊕ ((Int×(LI×(Int×Int×b8M))) ⊕ (Bool×Unit))):=cond (decide (s.2.2.2.2.1<(s.2.2.2.2.2.2.1.2.2.2.2.1.length:Int))) ((m0k s.2.2.2.2.2.2.1.2.2.2.2.1 s.2.2.2.2.1).bind fun x8=>(a4m x8).bind fun y9=>(show Option (Int×(LI×(Int×(Int×(Int×(Bool×(LI×b8M)))))))from cond (y9.2 != 0) (some (s.1,s.2.1,s.2.2.1,s.2.2.2.1,s.2.2.2.2.1,true,s.2.2.2.2.2.1,y9.1,s.2.2.2.2.2.2.1,())) ((m0k s.2.2.2.2.2.2.1.2.2.2.1 s.2.2.2.2.1).bind fun x10=>(m0k s.2.2.2.2.2.2.1.2.2.2.2.1 s.2.2.2.2.1).bind fun x11=>some (s.1,s.2.1,s.2.2.1,s.2.2.2.1,s.2.2.2.2.1,!(eqT Q3 x10 (x11.1,(s.2.2.2.2.2.1.length:Int),())),s.2.2.2.2.2.1,y9.1,s.2.2.2.2.2.2.1,()))).bind fun z12=>cond z12.2.2.2.2.2.1 (some (.inr (Sum.inr ((false,()))))) (cond (lim ((a01 z12.2.2.2.2.2.2.1)+(a01 z12.2.2.2.2.2.2.2.1))) (some (.inl (z12.1,z12.2.1,z12.2.2.1,z12.2.2.2.1,wrap .i64 (z12.2.2.2.2.1+1),a03 z12.2.2.2.2.2.2.1 z12.2.2.2.2.2.2.2.1,z12.2.2.2.2.2.2.2.2.1,()))) none)) (some (.inr (Sum.inl (s.1,s.2.1,s.2.2.1,s.2.2.2.1,s.2.2.2.2.2.1,s.2.2.2.2.2.2.1,()))))
def a9G(x:(Z7×(LI×(Int×Int×Int×Int)))):Option Bool:=(b4W ()).bind fun y1=>cond (!y1) (some false) ((b2Z (x.1,x.2.1,160)).bind fun y2=>cond (!y2) (some true) ((b3a (x.1,x.2.1,x.2.2.1,x.2.2.2.1)).bind fun y3=>(show Option (LI×(Int×(Int×(Int×(LI×(Bool×b1j×Z21))))))from cond (!y3.2.2) (some (x.2.1,x.2.2.1,x.2.2.2.2.1,x.2.2.2.2.2,y3.1,true,y3.2.1,x.1,())) (some (x.2.1,x.2.2.1,x.2.2.2.2.1,x.2.2.2.2.2,y3.1,(y3.2.1.2.2.2.1.length:Int) != (y3.2.1.2.2.2.2.1.length:Int),y3.2.1,x.1,()))).bind fun z4=>cond z4.2.2.2.2.2.1 (some false) (cond (z4.2.2.2.2.2.2.2.1.2.1==0) none (cond ((wrap .i64 ((wrap .i64 (a05 (z4.1.length:Int) z4.2.2.2.2.2.2.2.1.2.1))+1))==0) none (cond ((wrap .i64 ((wrap .i64 ((wrap .i64 (a05 (z4.1.length:Int) z4.2.2.2.2.2.2.2.1.2.1))-(a06 (bits .i64 .and z4.2.2.1 65535) (wrap .i64 ((wrap .i64 (a05 (z4.1.length:Int) z4.2.2.2.2.2.2.2.1.2.1))+1)))))+1))==0) none ((a6q (z4.2.2.2.2.1,a06 (bits .i64 .and z4.2.2.1 65535) (wrap .i64 ((wrap .i64 (a05 (z4.1.length:Int) z4.2.2.2.2.2.2.2.1.2.1))+1)),wrap .i64 ((a06 (bits .i64 .and z4.2.2.1 65535) (wrap .i64 ((wrap .i64 (a05 (z4.1.length:Int) z4.2.2.2.2.2.2.2.1.2.1))+1)))+(a06 (bits .i64 .and z4.2.2.2.1 65535) (wrap .i64 ((wrap .i64 ((wrap .i64 (a05 (z4.1.length:Int) z4.2.2.2.2.2.2.2.1.2.1))-(a06 (bits .i64 .and z4.2.2.1 65535) (wrap .i64 ((wrap .i64 (a05 (z4.1.length:Int) z4.2.2.2.2.2.2.2.1.2.1))+1)))))+1)))),())).bind fun y5=>(show Option (Int×(LI×(Int×Int×Bool×b3s)))from cond (y5.2 != 0) (some (z4.2.1,z4.2.2.2.2.1,wrap .i64 (a05 (z4.1.length:Int) z4.2.2.2.2.2.2.2.1.2.1),a06 (bits .i64 .and z4.2.2.1 65535) (wrap .i64 ((wrap .i64 (a05 (z4.1.length:Int) z4.2.2.2.2.2.2.2.1.2.1))+1)),true,z4.2.2.2.2.2.2.1,())) (cond ((decide (0≤(wrap .i64 ((wrap .i64 ((a06 (bits .i64 .and z4.2.2.1 65535) (wrap .i64 ((wrap .i64 (a05 (z4.1.length:Int) z4.2.2.2.2.2.2.2.1.2.1))+1)))+(a06 (bits .i64 .and z4.2.2.2.1 65535) (wrap .i64 ((wrap .i64 ((wrap .i64 (a05 (z4.1.length:Int) z4.2.2.2.2.2.2.2.1.2.1))-(a06 (bits .i64 .and z4.2.2.1 65535) (wrap .i64 ((wrap .i64 (a05 (z4.1.length:Int) z4.2.2.2.2.2.2.2.1.2.1))+1)))))+1)))))*z4.2.2.2.2.2.2.2.1.2.1))))&&(decide ((wrap .i64 ((wrap .i64 ((a06 (bits .i64 .and z4.2.2.1 65535) (wrap .i64 ((wrap .i64 (a05 (z4.1.length:Int) z4.2.2.2.2.2.2.2.1.2.1))+1)))+(a06 (bits .i64 .and z4.2.2.2.1 65535) (wrap .i64 ((wrap .i64 ((wrap .i64 (a05 (z4.1.length:Int) z4.2.2.2.2.2.2.2.1.2.1))-(a06 (bits .i64 .and z4.2.2.1 65535) (wrap .i64 ((wrap .i64 (a05 (z4.1.length:Int) z4.2.2.2.2.2.2.2.1.2.1))+1)))))+1)))))*z4.2.2.2.2.2.2.2.1.2.1))≤(z4.1.length:Int)))) (cond ((decide (0≤(wrap .i64 ((a06 (bits .i64 .and z4.2.2.1 65535) (wrap .i64 ((wrap .i64 (a05 (z4.1.length:Int) z4.2.2.2.2.2.2.2.1.2.1))+1)))*z4.2.2.2.2.2.2.2.1.2.1))))&&(decide ((wrap .i64 ((a06 (bits .i64 .and z4.2.2.1 65535) (wrap .i64 ((wrap .i64 (a05 (z4.1.length:Int) z4.2.2.2.2.2.2.2.1.2.1))+1)))*z4.2.2.2.2.2.2.2.1.2.1))≤((a00 (wrap .i64 ((wrap .i64 ((a06 (bits .i64 .and z4.2.2.1 65535) (wrap .i64 ((wrap .i64 (a05 (z4.1.length:Int) z4.2.2.2.2.2.2.2.1.2.1))+1)))+(a06 (bits .i64 .and z4.2.2.2.1 65535) (wrap .i64 ((wrap .i64 ((wrap .i64 (a05 (z4.1.length:Int) z4.2.2.2.2.2.2.2.1.2.1))-(a06 (bits .i64 .and z4.2.2.1 65535) (wrap .i64 ((wrap .i64 (a05 (z4.1.length:Int) z4.2.2.2.2.2.2.2.1.2.1))+1)))))+1)))))*z4.2.2.2.2.2.2.2.1.2.1)):Nat):Int)))) ((a5l (y5.1,a08 (a00 (wrap .i64 ((a06 (bits .i64 .and z4.2.2.1 65535) (wrap .i64 ((wrap .i64 (a05 (z4.1.length:Int) z4.2.2.2.2.2.2.2.1.2.1))+1)))*z4.2.2.2.2.2.2.2.1.2.1))) (a07 (a00 (wrap .i64 ((wrap .i64 ((a06 (bits .i64 .and z4.2.2.1 65535) (wrap .i64 ((wrap .i64 (a05 (z4.1.length:Int) z4.2.2.2.2.2.2.2.1.2.1))+1)))+(a06 (bits .i64 .and z4.2.2.2.1 65535) (wrap .i64 ((wrap .i64 ((wrap .i64 (a05 (z4.1.length:Int) z4.2.2.2.2.2.2.2.1.2.1))-(a06 (bits .i64 .and z4.2.2.1 65535) (wrap .i64 ((wrap .i64 (a05 (z4.1.length:Int) z4.2.2.2.2.2.2.2.1.2.1))+1)))))+1)))))*z4.2.2.2.2.2.2.2.1.2.1))) z4.1))).bind fun y6=>some (z4.2.1,z4.2.2.2.2.1,wrap .i64 (a05 (z4.1.length:Int) z4.2.2.2.2.2.2.2.1.2.1),a06 (bits .i64 .and z4.2.2.1 65535) (wrap .i64 ((wrap .i64 (a05 (z4.1.length:Int) z4.2.2.2.2.2.2.2.1.2.1))+1)),!y6,z4.2.2.2.2.2.2.1,())) none) none)).bind fun z7=>cond z7.2.2.2.2.1 (some false) ((y0s a5b (z7.1,z7.2.1,z7.2.2.1,z7.2.2.2.1,0,[],z7.2.2.2.2.2.1,())).bind fun w13=>match w13 with |.inl a14=>((show Option (Int×Int×Int×Bool×b3s)from cond (decide ((a14.2.2.2.2.1.length:Int) > (a14.2.1.length:Int))) (some (a14.1,a14.2.2.1,a14.2.2.2.1,true,a14.2.2.2.2.2.1,())) (cond ((decide (0≤(wrap .i64 ((a14.2.1.length:Int)-(a14.2.2.2.2.1.length:Int)))))&&(decide ((wrap .i64 ((a14.2.1.length:Int)-(a14.2.2.2.2.1.length:Int)))≤(a14.2.1.length:Int)))) ((b4m (a14.2.2.2.2.1,a08 (a00 (wrap .i64 ((a14.2.1.length:Int)-(a14.2.2.2.2.1.length:Int)))) (a07 (a01 a14.2.1) a14.2.1))).bind fun y16=>some (a14.1,a14.2.2.1,a14.2.2.2.1,!y16,a14.2.2.2.2.2.1,())) none)).bind fun z17=>cond z17.2.2.2.1 (some false) ((a7W (z17.2.2.2.2.1,z17.2.2.1)).bind fun y18=>cond (z17.2.2.1==z17.2.1) (some (y18.2==6)) (cond (y18.2==0) (cond ((wrap .i64 (1+(bits .i64 .and z17.1 63)))==0) none (some (y18.1==(wrap .i64 (a05 z17.2.2.1 (wrap .i64 (1+(bits .i64 .and z17.1 63)))))))) (some false)))) |.inr b15=>some b15.1)))))))
def a9H:FSem:=⟨[.v Q12,.v QL,.v QI,.v QI,.v QI,.v QI],[.v .bool],a9G⟩
def H9:Hints:=⟨[(32762,[2,.sv 13 QB,16,17,22,.own 21 21 QV,.box 14 Q74,Qp 14 14],[Qe 0 [2,.sv 13 QB,16,17,.own 21 21 QV,.box 14 Q74,Qp 14 14],Qr [.sv 12 .bool]])],[(62,[Qn [.sv 1 QL,2,4,5,.sv 13 QB,.sv 52 .bool,.box 14 Q74,.vp 6 Q12,Qp 14 14]]),(2046,[Qn [2,.sv 13 QB,16,17,.sv 96 .bool,.box 14 Q74,Qp 14 14]]),(16382,[Qn [2,16,17,.sv 151 .bool,.box 14 Q74,Qp 14 14]]),(2096786,[Qn [2,.sv 13 QB,16,17,22,.sv 131 .bool,.own 21 21 QV,.own 23 23 QV,.box 14 Q74,Qp 14 14]])],[(19,[.x,.x,.x,.q,.q,.v,.v,.v,.q,.q,.v,.v,.v,.v,.q,.q,.v,.x,.x])]⟩
end Go.Ab
