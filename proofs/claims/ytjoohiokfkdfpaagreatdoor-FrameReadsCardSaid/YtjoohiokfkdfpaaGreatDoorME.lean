/- Part of the proof: It. Conditions: as each statement tells. -/
import Derived.RangeFuncBound
import Derived.RangeFuncCalls
import Derived.RangeFuncBox
import Derived.WalkKit
import Derived.OwnWalkIn
import Derived.TacticsInMore
import Derived.LoopNIn
import Derived.LoopIn
import Derived.Test.YtjoohiokfkdfpaaGreatDoorProg
import Derived.KernelRfl
import Derived.Test.YtjoohiokfkdfpaaGreatDoorMD
noncomputable section
set_option linter.unusedSimpArgs false
set_option linter.unusedVariables false
open Array renaming replicate_succ→a16,replicate_zero→a17
open Int renaming toNat→a00,tmod→a08,tdiv→a09
open List renaming replicate→a01,length→a02,getD→a03,append→a04,set→a05,take→a06,drop→a07,append_toArray→a18,cons_append→a19,size_toArray→a20,push_toArray→a22,length_nil→a23,nil_append→a24
open Nat renaming reduceAdd→a25,reduceSub→a26
open Option renaming getD_some→a27
namespace Go.Ab
open Go.Proofs Go.RowKit
attribute [local go_sem] Oper.semAt_some
set_option maxHeartbeats 1000000 in
theorem c7A:A0h Tryz.prog 248 291:=by
 refine⟨⟨_,_,Tryz.func248,rfl,by kernel_rfl⟩,fun A len cap w=>(callsIn_wide (n:=3)).1 ?_⟩
 refine callsIn_of_wp Tryz.func248 rfl trivial ?_
 simp only[Tryz.ntmps248,a20,lC,a23,a25,a26,a16,a17,a22,a18,a24,a19]
 gi_wp2
 go_ret
 exact⟨rfl,_,rfl⟩
@[reducible] def a9y:Ty:=.pair (.int .i64) (.pair (.int .i64) .unit)
set_option maxRecDepth 100000 in
set_option maxHeartbeats 2000000 in
theorem c5H (l Bs b off len cap:Nat) (p q:Nat→Int) (J:Nat→World→Prop) (Jx:World→Prop) (W:World)
  (hJ:∀k W',J k W'→W'.cell? ⟨Bs,0,none⟩=some (.slice (some ⟨b,off,none⟩) len cap))
  (hlen:len<2147483648)
  (hcs:∀k W',k<len→J (k+1) W'→W'.cell? ⟨b,off+k*2,none⟩=some (.int .i64 (p k))∧W'.cell? ⟨b,off+k*2+1,none⟩=some (.int .i64 (q k)))
  (hY:∀n W',n<len→J (n+1) W'→YieldAt (Fr none) 0 Tryz.prog l #[.int .i64 (n:Int),.agg #[.int .i64 (p n),.int .i64 (q n)]] W' fun en W''=>(en=.returned (.bool true)∧J n W'')∨(en=.returned (.bool false)∧Jx W''))
  (h0:J len W):
  CallsIn (Fr none) 0 Tryz.prog 291 #[.func (.yield l) #[] #[],.pointer (some ⟨Bs,0,none⟩)] W fun en W'=>(∃v,en=.returned v)∧(J 0 W'∨Jx W'):=by
 refine callsIn_of_wp Tryz.func291 rfl trivial ?_
 simp only[Tryz.ntmps291,a20,lC,a23,a25,a26,a16,a17,a22,a18,a24,a19]
 have hBs:=hJ _ _ h0
 gi_wp2
 gi_loopw [3] (fun i wr=>∃k:Nat,k≤len∧i=.int .i64 ((k:Int)-1)∧J k wr) (fun i _=>(intOf i+1).toNat)
 case atStart=>exact⟨len,Nat.le_refl _,rfl,h0⟩
 case round=>
  obtain⟨k,hk,rfl,hJs⟩:=hrel
  cases k with
  |succ n=>
   obtain⟨fn,tmps,assign,body,hy,hR⟩:=hY n wr (by omega) hJs
   have hcx:=hJ _ _ hJs
   obtain⟨hc0,hc1⟩:=hcs n wr (by omega) hJs
   gi_wp2
   refine hR.mono ?_
   rintro e W3 (⟨rfl,hJ3⟩|⟨rfl,hJx3⟩)
   ·gi_wp2
    go_roundw
    case rel=>exact⟨n,by omega,by simp,hJ3⟩
    case measure=>simp[intOf]
   ·gi_wp2
    refine bodyPost_ret (results_none rfl _ _ _) rfl ?_
    exact⟨⟨_,rfl⟩,.inr hJx3⟩
  |zero=>
   gi_wp2
   go_end0
   exact⟨⟨_,rfl⟩,.inl hJs⟩
set_option maxRecDepth 100000 in
set_option maxHeartbeats 2000000 in
theorem c4G (l Bs:Nat) (A:Option Addr) (c:Nat) (J:Nat→World→Prop) (W:World) (hBs:W.cell? ⟨Bs,0,none⟩=some (.slice A 0 c)) (h0:J 0 W):
  CallsIn (Fr none) 0 Tryz.prog 291 #[.func (.yield l) #[] #[],.pointer (some ⟨Bs,0,none⟩)] W fun en W'=>(∃v,en=.returned v)∧J 0 W':=by
 refine callsIn_of_wp Tryz.func291 rfl trivial ?_
 simp only[Tryz.ntmps291,a20,lC,a23,a25,a26,a16,a17,a22,a18,a24,a19]
 gi_wp2
 gi_loopw [3] (fun i wr=>i=.int .i64 (-1)∧J 0 wr) (fun _ _=>0)
 case atStart=>exact⟨rfl,h0⟩
 case round=>
  obtain⟨rfl,hJs⟩:=hrel
  gi_wp2
  go_end0
  exact⟨⟨_,rfl⟩,hJs⟩
theorem b8d{m:Mem}{Sh:Nat→Prop}{b o:Nat}{x:a9y.den}{R}(h:dec m a9y ((Src.at b o).rd m)=some (x,[],R)):
  m b o=some (.int .i64 x.1)∧m b (o+1)=some (.int .i64 x.2.1)∧VOk m Sh a9y x (.agg #[.int .i64 x.1,.int .i64 x.2.1]):=by
 obtain⟨p,q,u⟩:=x;simp only[a9y,dec,Src.rd,Ty.cells,Nat.add_zero]at h
 split at h
 cases h;rename_i r o1 j g
 split at g
 rename_i n c
 split at g
 rename_i e;subst e;simp only[sj]at g;obtain⟨rfl,rfl,rfl⟩:=g
 split at h
 cases h;rename_i s o2 r2 k
 split at k
 cases k;rename_i t i l f
 split at f
 rename_i d a
 split at f
 rename_i e;subst e;simp only[sj]at f k h;obtain⟨rfl,rfl,rfl⟩:=f;obtain⟨rfl,rfl,rfl⟩:=k;obtain⟨⟨rfl,rfl,rfl⟩,-,-⟩:=h;exact⟨c,a,fun _=>⟨_,rfl,rfl⟩,fun h=>(by cases h),[],rfl,by simp⟩;cases f;cases f;cases g;cases g
theorem b2f {P:Program} {f:FuncId} (hb:l0x P f) (args:Array Value) (w:World):(callFunc f args).run P w=.ok (.enter f args) w:=by
 obtain ⟨fn,c',h1,h2,h3⟩:=hb;have h4 : ¬ fn.name = "runtime.NumGoroutine" := by simpa using h3
 simp [callFunc,program,Sem.run,h1,h2,h4,Result.andThen]
theorem c7B:w0n Tryz.prog 291 a9y:=by
 refine⟨fun args w=>b2f ⟨_,_,Tryz.func291,rfl,by kernel_rfl⟩ args w,fun l Bs sv f J D W i t L o=>?_⟩;obtain⟨z,Sh,y⟩:=t _ _ o;obtain⟨A,n,c,rfl,rfl,N,v,j⟩:=y.header
 by_cases hx0:f.length=0
 rw[hx0]at o z;exact(c4G l Bs A c J W z o).mono fun e g h=>⟨h.1,.inl h.2⟩;cases A with
 |none=>have:=j rfl;omega
 |some A=>
  obtain⟨b,off,B⟩:=A
  have:=(v _ rfl).resolve_left (by omega)
  simp only at this;subst this;have u:∀k g,k<f.length→J (k+1) g→∃x,f[k]?=some x∧g.cell? ⟨b,off+k*2,none⟩=some (.int .i64 x.1)∧g.cell? ⟨b,off+k*2+1,none⟩=some (.int .i64 x.2.1):=by
   intro k g p d;obtain⟨-,a,hv⟩:=t _ _ d;obtain⟨C,O,E,R,e,F,G,H,s,I,K⟩:=hv.elem rfl (lG p);simp only[Value.slice.injEq,sj]at e;obtain⟨rfl,rfl,rfl⟩:=e;obtain⟨q,r,-⟩:=b8d (Sh:=a) s;exact⟨_,lG p,q,r⟩
  refine c5H l Bs b off f.length c (fun k=>((f[k]?).getD a9y.dflt).1) (fun k=>((f[k]?).getD a9y.dflt).2.1) J D W (fun k g d=>(t k g d).1) i (fun k g p d=>?_) (fun n g M d=>?_) o;obtain⟨x,m,q,r⟩:=u k g p d;simp only[m,a27];exact⟨q,r⟩;have m:f[n]?=some f[n]:=lG M;simp only[m,a27];refine L n _ _ g m d fun a hv=>?_
  obtain⟨C,O,E,R,e,F,G,H,s,I,K⟩:=hv.elem rfl m;exact(b8d (Sh:=a) s).2.2
set_option maxHeartbeats 1000000 in
theorem c7C:A0h Tryz.prog 156 238:=by
 refine⟨⟨_,_,Tryz.func156,rfl,by kernel_rfl⟩,fun A len cap w=>(callsIn_wide (n:=3)).1 ?_⟩
 refine callsIn_of_wp Tryz.func156 rfl trivial ?_
 simp only[Tryz.ntmps156,a20,lC,a23,a25,a26,a16,a17,a22,a18,a24,a19]
 gi_wp2
 go_ret
 exact⟨rfl,_,rfl⟩
@[reducible] def b1J:Ty:=.pair (.int .i64) (.pair (.int .i64) (.pair (.int .i64) .unit))
set_option maxRecDepth 100000 in
set_option maxHeartbeats 2000000 in
theorem c5I (l Bs b off len cap:Nat) (p q r:Nat→Int) (J:Nat→World→Prop) (Jx:World→Prop) (W:World)
  (hJ:∀k W',J k W'→W'.cell? ⟨Bs,0,none⟩=some (.slice (some ⟨b,off,none⟩) len cap))
  (hlen:len<2147483648)
  (hcs:∀k W',k<len→J (k+1) W'→W'.cell? ⟨b,off+k*3,none⟩=some (.int .i64 (p k))∧W'.cell? ⟨b,off+k*3+1,none⟩=some (.int .i64 (q k))∧W'.cell? ⟨b,off+k*3+2,none⟩=some (.int .i64 (r k)))
  (hY:∀n W',n<len→J (n+1) W'→YieldAt (Fr none) 0 Tryz.prog l #[.int .i64 (n:Int),.agg #[.int .i64 (p n),.int .i64 (q n),.int .i64 (r n)]] W' fun en W''=>(en=.returned (.bool true)∧J n W'')∨(en=.returned (.bool false)∧Jx W''))
  (h0:J len W):
  CallsIn (Fr none) 0 Tryz.prog 238 #[.func (.yield l) #[] #[],.pointer (some ⟨Bs,0,none⟩)] W fun en W'=>(∃v,en=.returned v)∧(J 0 W'∨Jx W'):=by
 refine callsIn_of_wp Tryz.func238 rfl trivial ?_
 simp only[Tryz.ntmps238,a20,lC,a23,a25,a26,a16,a17,a22,a18,a24,a19]
 have hBs:=hJ _ _ h0
 gi_wp2
 gi_loopw [3] (fun i wr=>∃k:Nat,k≤len∧i=.int .i64 ((k:Int)-1)∧J k wr) (fun i _=>(intOf i+1).toNat)
 case atStart=>exact⟨len,Nat.le_refl _,rfl,h0⟩
 case round=>
  obtain⟨k,hk,rfl,hJs⟩:=hrel
  cases k with
  |succ n=>
   obtain⟨fn,tmps,assign,body,hy,hR⟩:=hY n wr (by omega) hJs
   have hcx:=hJ _ _ hJs
   obtain⟨hc0,hc1,hc2⟩:=hcs n wr (by omega) hJs
   gi_wp2
   refine hR.mono ?_
   rintro e W3 (⟨rfl,hJ3⟩|⟨rfl,hJx3⟩)
   ·gi_wp2
    go_roundw
    case rel=>exact⟨n,by omega,by simp,hJ3⟩
    case measure=>simp[intOf]
   ·gi_wp2
    refine bodyPost_ret (results_none rfl _ _ _) rfl ?_
    exact⟨⟨_,rfl⟩,.inr hJx3⟩
  |zero=>
   gi_wp2
   go_end0
   exact⟨⟨_,rfl⟩,.inl hJs⟩
set_option maxRecDepth 100000 in
set_option maxHeartbeats 2000000 in
theorem c4H (l Bs:Nat) (A:Option Addr) (c:Nat) (J:Nat→World→Prop) (W:World) (hBs:W.cell? ⟨Bs,0,none⟩=some (.slice A 0 c)) (h0:J 0 W):
  CallsIn (Fr none) 0 Tryz.prog 238 #[.func (.yield l) #[] #[],.pointer (some ⟨Bs,0,none⟩)] W fun en W'=>(∃v,en=.returned v)∧J 0 W':=by
 refine callsIn_of_wp Tryz.func238 rfl trivial ?_
 simp only[Tryz.ntmps238,a20,lC,a23,a25,a26,a16,a17,a22,a18,a24,a19]
 gi_wp2
 gi_loopw [3] (fun i wr=>i=.int .i64 (-1)∧J 0 wr) (fun _ _=>0)
 case atStart=>exact⟨rfl,h0⟩
 case round=>
  obtain⟨rfl,hJs⟩:=hrel
  gi_wp2
  go_end0
  exact⟨⟨_,rfl⟩,hJs⟩
theorem b6U{m:Mem}{rd:Nat→Option Value}{x o r}(h:dec m (.int .i64) rd=some (x,o,r)):rd 0=some (.int .i64 x)∧o=[]∧r=[]:=by
 simp only[dec]at h
 split at h
 rename_i k n g
 split at h
 rename_i e;subst e;simp only[sj,pJ]at h;obtain⟨rfl,rfl,rfl⟩:=h;exact⟨g,rfl,rfl⟩;cases h;cases h
theorem b4H{m:Mem}{a b:Ty}{rd:Nat→Option Value}{x o r}(h:dec m (.pair a b) rd=some (x,o,r)):∃o1 g o2 r2,dec m a rd=some (x.1,o1,g)∧dec m b (fun j=>rd (a.cells+j))=some (x.2,o2,r2)∧o=o1++o2∧r=g++r2:=by
 simp only[dec]at h
 split at h
 cases h;rename_i c o1 g f
 split at h
 cases h;rename_i d o2 r2 k;simp only[sj,pJ]at h;obtain⟨rfl,rfl,rfl⟩:=h;exact⟨_,_,_,_,f,k,rfl,rfl⟩
theorem b9F{m:Mem}{Sh:Nat→Prop}{b o:Nat}{x:b1J.den}{R}(h:dec m b1J ((Src.at b o).rd m)=some (x,[],R)):
  m b o=some (.int .i64 x.1)∧m b (o+1)=some (.int .i64 x.2.1)∧m b (o+2)=some (.int .i64 x.2.2.1)∧VOk m Sh b1J x (.agg #[.int .i64 x.1,.int .i64 x.2.1,.int .i64 x.2.2.1]):=by
 obtain⟨_,_,_,_,g,f,-,-⟩:=b4H h;obtain⟨_,_,_,_,k,a,-,-⟩:=b4H f;obtain⟨_,_,_,_,c,-,-,-⟩:=b4H a;exact⟨(b6U g).1,(b6U k).1,(b6U c).1,fun _=>⟨_,rfl,rfl⟩,fun h=>(by cases h),[],rfl,by simp⟩
theorem c7D:w0n Tryz.prog 238 b1J:=by
 refine⟨fun args w=>b2f ⟨_,_,Tryz.func238,rfl,by kernel_rfl⟩ args w,fun l Bs sv f J E W i u M o=>?_⟩;obtain⟨B,Sh,z⟩:=u _ _ o;obtain⟨A,n,c,rfl,rfl,O,y,j⟩:=z.header
 by_cases hx0:f.length=0
 rw[hx0]at o B;exact(c4H l Bs A c J W B o).mono fun e g h=>⟨h.1,.inl h.2⟩;cases A with
 |none=>have:=j rfl;omega
 |some A=>
  obtain⟨b,off,C⟩:=A
  have:=(y _ rfl).resolve_left (by omega)
  simp only at this;subst this;have v:∀k g,k<f.length→J (k+1) g→∃x,f[k]?=some x∧g.cell? ⟨b,off+k*3,none⟩=some (.int .i64 x.1)∧g.cell? ⟨b,off+k*3+1,none⟩=some (.int .i64 x.2.1)∧g.cell? ⟨b,off+k*3+2,none⟩=some (.int .i64 x.2.2.1):=by
   intro k g p d;obtain⟨-,a,hv⟩:=u _ _ d;obtain⟨D,P,F,R,e,G,H,I,t,K,L⟩:=hv.elem rfl (lG p);simp only[Value.slice.injEq,sj]at e;obtain⟨rfl,rfl,rfl⟩:=e;obtain⟨q,r,s,-⟩:=b9F (Sh:=a) t;exact⟨_,lG p,q,r,s⟩
  refine c5I l Bs b off f.length c (fun k=>((f[k]?).getD b1J.dflt).1) (fun k=>((f[k]?).getD b1J.dflt).2.1) (fun k=>((f[k]?).getD b1J.dflt).2.2.1) J E W (fun k g d=>(u k g d).1) i (fun k g p d=>?_) (fun n g N d=>?_) o;obtain⟨x,m,q,r,s⟩:=v k g p d;simp only[m,a27];exact⟨q,r,s⟩;have m:f[n]?=some f[n]:=lG N;simp only[m,a27];refine M n _ _ g m d fun a hv=>?_
  obtain⟨D,P,F,R,e,G,H,I,t,K,L⟩:=hv.elem rfl m;exact(b9F (Sh:=a) t).2.2.2
end Go.Ab
namespace Go.Ab
open IntKind(wrap)
open Go.Proofs
set_option maxRecDepth 100000
set_option linter.unusedVariables false
@[reducible] def QI:Ty:=.int .i64
@[reducible] def QL:Ty:=.list false QI
@[reducible] def QU:Ty:=.int .u64
@[reducible] def QV:Ty:=.int .u8
@[reducible] def QB:Ty:=.list false QV
@[reducible] def LI:Type:=List Int
instance (n:Nat):OfNat Ent n:=⟨.sv n QI⟩
@[reducible] def Qp(i n:Nat):Ent:=.ptr i n []
@[reducible] def Qn(l:a0c):Ex×a0c:=(.normal,l)
@[reducible] def Qe(n:Nat)(l:a0c):Ex×a0c:=(.exit n,l)
@[reducible] def Qr(l:a0c):Ex×a0c:=(.ret,l)
def QH:Hints:=⟨[],[],[]⟩
@[reducible] def Z0:Type:=(Unit ⊕ (Bool×Unit))
@[reducible] def Z1:Type:=(Int×(Int×LI))
@[reducible] def Z2:Type:=(LI×(Int×Int))
@[reducible] def Z3:Type:=((List LI)×Unit)
@[reducible] def Z4:Type:=(Int×(LI×Unit))
@[reducible] def Z5:Type:=(LI×(Int×Unit))
@[reducible] def Z6:Type:=(List (Int×(Int×Unit)))
@[reducible] def Z7:Type:=(Bool×(LI×Unit))
@[reducible] def Z8:Type:=(Int×(Int×(Int×Unit)))
@[reducible] def Z9:Type:=((LI×Unit)×Unit)
@[reducible] def Z10:Type:=(Int×(Int×(Bool×Unit)))
@[reducible] def Z11:Type:=(LI×(LI×Int))
@[reducible] def Z12:Type:=(LI×(Int×LI))
@[reducible] def Z13:Type:=(LI×(LI×Unit))
@[reducible] def Z14:Type:=(Int×Z3)
@[reducible] def Z15:Type:=((List LI)×(Int×Unit))
@[reducible] def Z16:Type:=(LI×(Int×(Int×Unit)))
@[reducible] def Z17:Type:=(Int×Z4)
@[reducible] def Z18:Type:=(Int×Z5)
@[reducible] def Z19:Type:=(List Z8)
@[reducible] def Z20:Type:=(Int×Z7)
@[reducible] def Z21:Type:=(LI×(Int×(Bool×Unit)))
@[reducible] def Z22:Type:=(Z4×Unit)
@[reducible] def Z23:Type:=(Z5×Unit)
@[reducible] def Z24:Type:=(Int×Z8)
@[reducible] def Z25:Type:=(Int×Z9)
@[reducible] def Z26:Type:=(Int×Z10)
@[reducible] def Z27:Type:=(Z8×Unit)
@[reducible] def Z28:Type:=(Int×Z13)
@[reducible] def Z29:Type:=(LI×Z4)
@[reducible] def Z30:Type:=((List LI)×(Int×(Int×Unit)))
@[reducible] def Z31:Type:=(Int×Z14)
@[reducible] def Z32:Type:=(Int×Z16)
@[reducible] def Z33:Type:=(Int×Z17)
@[reducible] def Z34:Type:=(LI×Z8)
@[reducible] def Z35:Type:=(Z14×Unit)
@[reducible] def Z36:Type:=(Z16×Int)
@[reducible] def Z37:Type:=(LI×Z10)
@[reducible] def Z38:Type:=(Int×Z20)
@[reducible] def Z39:Type:=(Int×Z23)
@[reducible] def Z40:Type:=(Int×Z24)
@[reducible] def Z41:Type:=(Z16×Unit)
@[reducible] def Z42:Type:=(Z6×(Int×Unit))
@[reducible] def Z43:Type:=(Int×Z25)
@[reducible] def Z44:Type:=(Bool×Z22)
@[reducible] def Z45:Type:=(LI×Z13)
@[reducible] def Z46:Type:=(LI×Z17)
@[reducible] def Z47:Type:=(Int×Z28)
@[reducible] def Z48:Type:=(Z28×Int)
@[reducible] def Z49:Type:=(LI×Z16)
@[reducible] def Z50:Type:=(Int×Z30)
@[reducible] def Z51:Type:=((LI×Unit) ⊕ Z4)
@[reducible] def Z52:Type:=(Z4×(LI×Unit))
@[reducible] def Z53:Type:=(Int×Z32)
@[reducible] def Z54:Type:=(LI×Z21)
@[reducible] def Z55:Type:=(Z28×Unit)
@[reducible] def Z56:Type:=(LI×Z22)
@[reducible] def Z57:Type:=(Int×Z35)
@[reducible] def Z58:Type:=(Int×Z34)
@[reducible] def Z59:Type:=(Z16×(Int×Int))
@[reducible] def Z60:Type:=(Int×Z39)
@[reducible] def Z61:Type:=(Bool×Z35)
@[reducible] def Z62:Type:=(Int×Z41)
@[reducible] def Z63:Type:=(Bool×Z41)
@[reducible] def Z64:Type:=((List LI)×Z14)
@[reducible] def Z65:Type:=(Int×Z45)
@[reducible] def Z66:Type:=((List LI)×Z19)
@[reducible] def Z67:Type:=(Int×Z46)
@[reducible] def Z68:Type:=(Z4×Z1)
@[reducible] def Z69:Type:=(LI×Z32)
@[reducible] def Z70:Type:=(LI×Z34)
@[reducible] def Z71:Type:=(LI×Z33)
@[reducible] def Z72:Type:=(Int×Z55)
@[reducible] def Z73:Type:=(Int×Z56)
@[reducible] def Z74:Type:=(Int×Z57)
@[reducible] def Z75:Type:=(LI×Z41)
@[reducible] def Z76:Type:=(Z32 ⊕ (Int×Unit))
@[reducible] def Z77:Type:=(Z19×(Int×(Int×Unit)))
@[reducible] def Z78:Type:=(Int×Z62)
@[reducible] def Z79:Type:=(Int×Z63)
@[reducible] def Z80:Type:=(Z16 ⊕ Z0)
@[reducible] def Z81:Type:=(LI×Z46)
@[reducible] def Z82:Type:=(LI×Z47)
@[reducible] def Z83:Type:=(Int×Z65)
@[reducible] def Z84:Type:=(LI×Z52)
@[reducible] def Z85:Type:=(LI×Z53)
@[reducible] def Z86:Type:=(LI×Z55)
@[reducible] def Z87:Type:=(LI×Z54)
@[reducible] def Z88:Type:=(Int×Z67)
@[reducible] def Z89:Type:=(Int×Z72)
@[reducible] def Z90:Type:=(Int×Z73)
@[reducible] def Z91:Type:=(LI×Z60)
@[reducible] def Z92:Type:=(Int×Z75)
@[reducible] def Z93:Type:=(Z4×Z22)
@[reducible] def Z94:Type:=(Z5×Z22)
@[reducible] def Z95:Type:=(Int×Z78)
@[reducible] def Z96:Type:=((LI×Unit)×Z41)
@[reducible] def Z97:Type:=(Int×Z79)
@[reducible] def Z98:Type:=(Int×Z82)
@[reducible] def Z99:Type:=(Int×Z86)
@[reducible] def b9G:Type:=(Int×Z89)
@[reducible] def d1A:Type:=(Int×Z90)
@[reducible] def c3b:Type:=(Int×Z91)
@[reducible] def c8c:Type:=(Int×Z92)
@[reducible] def c3c:Type:=(Z4×Z41)
@[reducible] def c3d:Type:=(Int×Z99)
@[reducible] def d1B:Type:=(LI×Z94)
@[reducible] def b9H:Type:=(Z19×Z35)
@[reducible] def b1K:Type:=(Int×c8c)
@[reducible] def c3e:Type:=(LI×d1A)
@[reducible] def d1C:Type:=(Int×d1B)
@[reducible] def d1D:Type:=(Z6×Z84)
@[reducible] def d1E:Type:=(Int×d1C)
@[reducible] def c3f:Type:=(Z4×Z93)
@[reducible] def d1F:Type:=(Z16×Z93)
@[reducible] def d1G:Type:=(LI×d1D)
@[reducible] def b9I:Type:=(LI×d1E)
@[reducible] def d1H:Type:=(LI×d1F)
@[reducible] def d1I:Type:=(LI×d1G)
@[reducible] def d1J:Type:=(Int×d1I)
@[reducible] def d1K:Type:=(LI×d1H)
@[reducible] def d1L:Type:=(Int×d1J)
@[reducible] def c3g:Type:=(Int×d1K)
@[reducible] def d1M:Type:=(Int×d1L)
@[reducible] def d1N:Type:=(Int×d1M)
@[reducible] def a0W:Type:=(Int×d1N)
@[reducible] def a8h:Type:=(List a0W)
@[reducible] def a7w:Type:=(a0W×Int)
@[reducible] def b1L:Type:=(a0W×Unit)
@[reducible] def c5J:Type:=(a8h×Unit)
@[reducible] def c3h:Type:=(Bool×b1L)
@[reducible] def d1O:Type:=(LI×b1L)
@[reducible] def b6V:Type:=(Int×c3h)
@[reducible] def c3i:Type:=(a8h×(LI×Unit))
@[reducible] def d1P:Type:=(Int×d1O)
@[reducible] def d1Q:Type:=((LI×Unit)×b1L)
@[reducible] def c3j:Type:=(Int×b6V)
@[reducible] def c3k:Type:=(Int×d1P)
@[reducible] def c3l:Type:=(Z16×a0W)
@[reducible] def d1R:Type:=(Z5×b1L)
@[reducible] def d1S:Type:=(Int×d1Q)
@[reducible] def c3m:Type:=(Int×d1R)
@[reducible] def c5K:Type:=(Z16×b1L)
@[reducible] def b6W:Type:=(a0W×Z41)
@[reducible] def c3n:Type:=(Int×d1S)
@[reducible] def d1T:Type:=(Z19×c5J)
@[reducible] def b0W:Type:=(Int×c3m)
@[reducible] def c5L:Type:=(Int×c5K)
@[reducible] def b6X:Type:=(Int×c5L)
@[reducible] def d1U:Type:=(Z8×d1T)
@[reducible] def d1V:Type:=(Int×d1U)
@[reducible] def a1O:Type:=(Int×d1V)
@[reducible] def a8i:Type:=(a1O×Unit)
@[reducible] def c5M:Type:=(Z14×a8i)
@[reducible] def c3o:Type:=(a1O×Z41)
@[reducible] def c5N:Type:=((List LI)×c5M)
@[reducible] def a9z:Type:=(a0W×b1L)
@[reducible] def c3p:Type:=(Int×c5N)
@[reducible] def d1W:Type:=(Int×a9z)
@[reducible] def c3q:Type:=(Int×d1W)
@[reducible] def c3s:Type:=(Z16×a9z)
@[reducible] def d1X:Type:=(Int×c3s)
@[reducible] def c3t:Type:=(Int×d1X)
@[reducible] def b9J:Type:=(Int×c3t)
@[reducible] def c5O:Type:=(a1O×a8i)
@[reducible] def c3u:Type:=(Int×c5O)
@[reducible] def d1Y:Type:=(a1O×c3o)
@[reducible] def c5P:Type:=(Int×d1Y)
@[reducible] def c3v:Type:=(Int×c5P)
@[reducible] def Q0:Ty:=(.pair QI .unit)
@[reducible] def Q1:Ty:=(.pair (.nl QI) .unit)
@[reducible] def Q2:Ty:=(.pair (.list true QV) .unit)
@[reducible] def Q3:Ty:=(.pair (.list true QI) .unit)
@[reducible] def Q4:Ty:=(.pair QL .unit)
@[reducible] def Q5:Ty:=(.pair QI Q0)
@[reducible] def Q6:Ty:=(.pair (.list false QL) .unit)
@[reducible] def Q7:Ty:=(.pair (.list true QV) Q0)
@[reducible] def Q8:Ty:=(.pair QI Q3)
@[reducible] def Q9:Ty:=(.pair QI Q4)
@[reducible] def Q10:Ty:=(.pair QI Q5)
@[reducible] def Q11:Ty:=(.pair (.list true QI) Q3)
@[reducible] def Q12:Ty:=(.pair QI Q6)
@[reducible] def Q13:Ty:=(.pair QB Q5)
@[reducible] def Q14:Ty:=(.pair QI Q11)
@[reducible] def Q15:Ty:=(.pair Q9 Q1)
@[reducible] def Q16:Ty:=(.pair Q9 Q4)
@[reducible] def Q17:Ty:=(.pair (.nl QI) Q15)
@[reducible] def Q18:Ty:=(.pair (.nl QI) Q16)
@[reducible] def Q19:Ty:=(.pair QL Q16)
@[reducible] def Q20:Ty:=(.pair (.nl Q5) Q17)
@[reducible] def Q21:Ty:=(.pair (.list true Q5) Q18)
@[reducible] def Q22:Ty:=(.pair (.list true Q5) Q19)
@[reducible] def Q23:Ty:=(.pair (.list false Q5) Q19)
@[reducible] def Q24:Ty:=(.pair (.arr 3 QI) Q20)
@[reducible] def Q25:Ty:=(.pair (.arr 3 QI) Q21)
@[reducible] def Q26:Ty:=(.pair (.arr 3 QI) Q22)
@[reducible] def Q27:Ty:=(.pair (.arr 3 QI) Q23)
@[reducible] def Q28:Ty:=(.pair (.nl QI) Q24)
@[reducible] def Q29:Ty:=(.pair QI Q28)
@[reducible] def Q30:Ty:=(.pair (.list true QI) Q25)
@[reducible] def Q31:Ty:=(.pair QL Q26)
@[reducible] def Q32:Ty:=(.pair QL Q27)
@[reducible] def Q33:Ty:=(.pair QI Q29)
@[reducible] def Q34:Ty:=(.pair QI Q30)
@[reducible] def Q35:Ty:=(.pair QI Q31)
@[reducible] def Q36:Ty:=(.pair QI Q32)
@[reducible] def Q37:Ty:=(.pair QI Q33)
@[reducible] def Q38:Ty:=(.pair QI Q34)
@[reducible] def Q39:Ty:=(.pair QI Q35)
@[reducible] def Q40:Ty:=(.pair QI Q36)
@[reducible] def Q41:Ty:=(.pair QI Q37)
@[reducible] def Q42:Ty:=(.pair QI Q38)
@[reducible] def Q43:Ty:=(.pair QI Q39)
@[reducible] def Q44:Ty:=(.pair QI Q40)
@[reducible] def Q45:Ty:=(.pair QI Q42)
@[reducible] def Q46:Ty:=(.pair QI Q43)
@[reducible] def Q47:Ty:=(.pair QI Q44)
@[reducible] def Q48:Ty:=(.pair QI Q45)
@[reducible] def Q49:Ty:=(.pair QI Q46)
@[reducible] def Q50:Ty:=(.pair QI Q47)
@[reducible] def Q51:Ty:=(.pair (.nl Q50) .unit)
@[reducible] def Q52:Ty:=(.pair (.list true Q50) .unit)
@[reducible] def Q53:Ty:=(.pair (.list false Q50) .unit)
@[reducible] def Q54:Ty:=(.pair (.nl Q10) Q51)
@[reducible] def Q55:Ty:=(.pair (.list true Q10) Q51)
@[reducible] def Q56:Ty:=(.pair (.list false Q10) Q51)
@[reducible] def Q57:Ty:=(.pair (.list false Q10) Q52)
@[reducible] def Q58:Ty:=(.pair (.list false Q10) Q53)
@[reducible] def Q59:Ty:=(.pair Q10 Q54)
@[reducible] def Q60:Ty:=(.pair Q10 Q55)
@[reducible] def Q61:Ty:=(.pair Q10 Q56)
@[reducible] def Q62:Ty:=(.pair Q10 Q57)
@[reducible] def Q63:Ty:=(.pair Q10 Q58)
@[reducible] def Q64:Ty:=(.pair QI Q59)
@[reducible] def Q65:Ty:=(.pair QI Q60)
@[reducible] def Q66:Ty:=(.pair QI Q61)
@[reducible] def Q67:Ty:=(.pair QI Q62)
@[reducible] def Q68:Ty:=(.pair QI Q63)
@[reducible] def Q69:Ty:=(.pair QI Q65)
@[reducible] def Q70:Ty:=(.pair QI Q66)
@[reducible] def Q71:Ty:=(.pair QI Q67)
@[reducible] def Q72:Ty:=(.pair QI Q68)
def b9A:List (Nat×Ty):=[(2,.int .i64),(3,.int .i64),(5,.int .u8),(9,.str),(22,.list false QL),(24,.pair QI Q6),(29,.pair QI Q5),(30,.list false Q10),(31,.list false Q50),(33,.pair QI Q68),(34,.int .i64),(37,.list false QV),(46,.list false QI),(47,.arr 3 QI),(48,.list false Q5),(50,.pair QI Q4),(52,.pair QI Q47),(74,.int .u64),(93,.pair QB Q0),(99,.int .u16),(103,.int .u64),(124,.pair QB Q5),(153,.pair QI Q5),(161,.pair QI Q0),(164,.list false QU),(174,.pair QB Q5),(198,.pair QB .unit),(212,.pair QB Q5),(233,.pair QB Q5),(243,.arr 64 QV),(274,.list false (.arr 3 QI)),(283,.pair QI (.pair QL Q4)),(293,.pair QI (.pair QL Q4))]
def T0:Nat→Option Ty:=fun t=>find b9A t
def c3w:List Nat:=[29,47,153,161]
def d1Z:Nat→Bool:=fun t=>c3w.contains t
def b9K:List Nat:=[]
def d2a:Nat→Bool:=fun t=>b9K.contains t
def b0A:(List Int):=[0,1,56,2,57,49,28,3,61,58,42,50,38,29,17,4,62,47,59,36,45,43,51,22,53,39,33,30,24,18,12,5,63,55,48,27,60,41,37,16,46,35,44,21,52,32,23,11,54,26,40,15,34,20,31,10,25,14,19,9,13,8,7,6]
def G0:Nat→Option ((t:Ty)×t.den):=fun g=>find ([(0,⟨.arr 64 QV,b0A⟩)]:List (Nat×((t:Ty)×t.den))) g
@[reducible] def b2E(a:List (Nat×FSem))(b:List (Nat×Ty))(c d:Nat):Cx:=⟨d2a,d1Z,T0,fun f=>find a f,fun n=>find b n,c.testBit,d.testBit,G0⟩
def a2F(s:Z16):Option Z80:=(fun(a b:Int)=>cond (decide (b<a)) ((m0k s.1 b).bind fun x1=>(show Option Z37 from cond (decide (x1<(-1073741824))) (some (s.1,a,b,true,())) (some (s.1,a,b,decide (x1≥1073741824),()))).bind fun z2=>cond z2.2.2.2.1 (some (.inr (Sum.inr ((false,()))))) (some (.inl (z2.1,z2.2.1,wrap .i64 (z2.2.2.1+1),())))) (some (.inr (Sum.inl ())))) s.2.1 s.2.2.1
def a2r(x:LI):Option Bool:=(y0s a2F (x,(x.length:Int),0,())).bind fun w3=>match w3 with |.inl a4=>some true |.inr b5=>some b5.1
def b8z:FSem:=⟨[.v QL],[.v .bool],a2r⟩
def H60:Hints:=⟨[(26,[.sv 5 QL,6,7],[Qe 0 [],Qr [.sv 2 .bool]])],[(1689,[Qn [.sv 5 QL,6,7,.sv 16 .bool]])],[]⟩
def a3O(x:Int):Option Bool:=cond (decide ((-1073741824)≤x)) (some (decide (x<1073741824))) (some false)
def b8A:FSem:=⟨[.v QI],[.v .bool],a3O⟩
def b4I(s:Z67):Option (Z67 ⊕ Z51):=(fun(a:Int)(b:LI)(c d:Int)(e:LI)=>cond (decide (d<c)) ((m0k b d).bind fun x2=>(show Option (Int×(Int×(LI×Z38)))from(a3O x2).bind fun y3=>cond (!y3) (some (a,x2,b,c,d,true,e,())) (cond (decide (a<0)) none (cond ((A0n .i64 1 a)==0) none (some (a,x2,b,c,d,(a08 x2 (A0n .i64 1 a)) != 0,e,()))))).bind fun z4=>cond z4.2.2.2.2.2.1 (some (.inr (Sum.inr ((6,[],()))))) (cond (decide (z4.1<0)) none (cond (lim ((a02 z4.2.2.2.2.2.2.1)+1)) (some (.inl (z4.1,z4.2.2.1,z4.2.2.2.1,wrap .i64 (z4.2.2.2.2.1+1),a04 z4.2.2.2.2.2.2.1 [A0o .i64 z4.2.1 z4.1],()))) none))) (some (.inr (Sum.inl (e,()))))) s.1 s.2.1 s.2.2.1 s.2.2.2.1 s.2.2.2.2.1
def a8X(x:(LI×Int)):Option (LI×Int):=(show Option Z21 from cond (decide (x.2<0)) (some (x.1,x.2,true,())) (some (x.1,x.2,decide (x.2 > 30),()))).bind fun z1=>cond z1.2.2.1 (some ([],1)) ((y0s b4I (z1.2.1,z1.1,(z1.1.length:Int),0,[],())).bind fun w5=>match w5 with |.inl a6=>some (a6.1,0) |.inr b7=>some (b7.2.1,b7.1))
def b8B:FSem:=⟨[.v QL,.v QI],[.o QI,.v QI],a8X⟩
def H61:Hints:=⟨[(122,[1,.sv 15 QL,16,17,.own 6 6 QI],[Qe 0 [.own 6 6 QI],Qr [5,.own 4 4 QI]])],[(6,[Qn [.sv 0 QL,1,.sv 14 .bool]]),(15666,[Qn [1,8,.sv 15 QL,16,17,.sv 30 .bool,.own 6 6 QI]])],[]⟩
def a2O(x:Int):Option Int:=cond (x==0) (some 64) ((m0k b0A (A0o .u64 (wrap .u64 ((bits .u64 .and x (wrap .u64 (0-x)))*285870213051353865)) 58)).bind fun x1=>some (wrap .i64 x1))
def a1m:FSem:=⟨[.v QU],[.v QI],a2O⟩
def a7x:Cx:=b2E [] [] 5 0
theorem b4h{ρ:Type}{cx:Cx}{ops:List Oper}:∀(l1 l2:List (Md×Oper)) (Γ:AE) (K:AE→Rs ρ),h0m cx ops (l1++l2) Γ K=h0m cx ops l1 Γ fun Γ'=>h0m cx ops l2 Γ' K
 | [],_,_,_=>rfl
 |(md,o)::l1,l2,Γ,K=>by
  simp only[a19,h0m];congr 1;funext Γ';exact b4h l1 l2 Γ' K
theorem b2F{ρ:Type}{cx:Cx}{H:Hints}{a b:Code}{p:Nat}(h:find H.cuts p=none)(Γ:AE)(K:Ex→AE→Rs ρ):c0n cx H (.seq a b) p Γ K=c0n cx H a (2*p) Γ fun e Γ'=>match e with
   |.normal=>c0n cx H b (2*p+1) Γ' K
   |e=>K e Γ':=by
 simp only[c0n,h];rfl
theorem b9L{ρ:Type}{cx:Cx}{H:Hints}{id:Nat}{ops:Array Oper}{p:Nat}(Γ:AE)(K:Ex→AE→Rs ρ):c0n cx H (.region id ops false) p Γ K=h0m cx ops.toList (ops.toList.map fun o=>(.x,o)) Γ fun Γ'=>K .normal Γ':=by
 simp only[c0n,cF]
def a7r:Code:=match Tryz.f139.body with
 |some c=>c
 |none=>.skip
def b6Y:Code→Code
 |.seq a _=>a
 |c=>c
def c3x:Code→Code
 |.seq _ b=>b
 |c=>c
def c4I:Code→Array Oper
 |.region _ ops _=>ops
 |_=>#[]
def c2K:Code:=c3x (c3x a7r)
def a9A:List Oper:=(c4I (b6Y c2K)).toList
def Γ139(x:Int):AE:=(((ini [.v QU] x).set 2 (.val QI (0:Int))).set 3 (.val QU x)).set 4 (.val .bool (x==(0:Int)))
def Γ139r(x:Int):AE:=(Γ139 x).set 2 (.val QI (64:Int))
def b9M(e:Ex)(Γ:AE):Option Int:=match e,Γ.pd with
  |.exit _,_=>none
  |_,some _=>none
  |_,none=>(Γ.upto Tryz.f139.ntmps).outs a7x [] Tryz.f139.ntmps [.v QI] (Tryz.f139.results.toList.map .inl) fun y _=>some y
def Γ139b(x a b c i:Int):AE:=((((((Γ139 x).set 5 (.val QU x)).set 6 (.val QU x)).set 7 (.val QU a)).set 8 (.val QU b)).set 9 (.val QU c)).set 10 (.val QU i)
set_option maxRecDepth 100000
theorem c5Q:a7r=.seq (b6Y a7r) (.seq (b6Y (c3x a7r)) (.seq (.region 3 (c4I (b6Y c2K)) false) .ret)):=by kernel_rfl
theorem c7E(x:Int):A0j a7x QH Tryz.f139 a1m.ps a1m.rs x=c0n a7x QH a7r 1 (ini [.v (.int .u64)] x) b9M:=rfl
theorem c7F(x:Int)(K:Ex→AE→Option Int):c0n a7x QH (b6Y a7r) 2 (ini [.v (.int .u64)] x) K=K .normal ((ini [.v (.int .u64)] x).set 2 (.val (.int .i64) (0:Int))):=by kernel_rfl
theorem c7G(x:Int)(K:Ex→AE→Option Int):c0n a7x QH (b6Y (c3x a7r)) 6 ((ini [.v (.int .u64)] x).set 2 (.val (.int .i64) (0:Int))) K=bif x==(0:Int)then K .ret (Γ139r x)else K .normal (Γ139 x):=by kernel_rfl
theorem c7H(x:Int):b9M .ret (Γ139r x)=some (64:Int):=by kernel_rfl
theorem c7I(x:Int)(K:AE→Option Int):h0m a7x a9A ((a9A.map fun o=>(Md.x,o)).take 6) (Γ139 x) K =
  K (Γ139b x (wrap .u64 (0-x)) (bits .u64 .and x (wrap .u64 (0-x))) (wrap .u64 ((bits .u64 .and x (wrap .u64 (0-x)))*(285870213051353865:Int))) (A0o .u64 (wrap .u64 ((bits .u64 .and x (wrap .u64 (0-x)))*(285870213051353865:Int))) (58:Int))):=by kernel_rfl
theorem c7J(x a b c i:Int):h0m a7x a9A ((a9A.map fun o=>(Md.x,o)).drop 6) (Γ139b x a b c i) (fun Γ=>b9M .ret Γ)=(m0k b0A i).bind fun h=>some (wrap .i64 h):=by kernel_rfl
theorem c7K(x:Int):h0m a7x a9A (a9A.map fun o=>(Md.x,o)) (Γ139 x) (fun Γ=>b9M .ret Γ)=(m0k b0A (A0o .u64 (wrap .u64 ((bits .u64 .and x (wrap .u64 (0-x)))*(285870213051353865:Int))) (58:Int))).bind fun h=>some (wrap .i64 h):=by
 rw[←List.take_append_drop 6 (a9A.map fun o=>(Md.x,o)),b4h,c7I,c7J]
theorem c8d(x:Int):c0n a7x QH a7r 1 (ini [.v (.int .u64)] x) b9M=a2O x:=by
 rw[c5Q,b2F rfl,c7F];simp only[];rw[b2F rfl,c7G];simp only[];rw[b2F rfl,b9L];simp only[c0n];rw[c7H];exact congrArg (fun z=>bif x==(0:Int)then some (64:Int)else z) (c7K x)
theorem c8N(x):A0j a7x QH Tryz.f139 a1m.ps a1m.rs x=a1m.F x:=(c7E x).trans (c8d x)
def b2G(s:Z32):Option Z76:=(fun(a b:Int)=>cond (decide (b<a)) ((m0k s.2.1 b).bind fun x1=>some (.inl (bits .i64 .or s.1 x1,s.2.1,a,wrap .i64 (b+1),()))) (some (.inr (s.1,())))) s.2.2.1 s.2.2.2.1
def a7y(x:LI):Option Int:=(y0s b2G (0,x,(x.length:Int),0,())).bind fun w2=>cond (w2.1==0) (some 0) ((a2O (wrap .u64 w2.1)).bind fun y3=>some (v0s y3 30))
def b5u:FSem:=⟨[.v QL],[.v QI],a7y⟩
def H62:Hints:=⟨[(58,[3,.sv 6 QL,7,8],[Qe 0 [3]])],[],[]⟩
def a3S(s:Z16):Option Z80:=(fun(a b:Int)=>cond (decide (b<a)) ((m0k s.1 b).bind fun x2=>(show Option Z37 from cond (decide (x2<(-32768))) (some (s.1,a,b,true,())) (some (s.1,a,b,decide (x2≥32768),()))).bind fun z3=>cond z3.2.2.2.1 (some (.inr (Sum.inr ((false,()))))) (some (.inl (z3.1,z3.2.1,wrap .i64 (z3.2.2.1+1),())))) (some (.inr (Sum.inl ())))) s.2.1 s.2.2.1
def a3A(x:(LI×Int)):Option Bool:=(show Option (LI×(Bool×Unit))from cond (decide ((x.1.length:Int)<1)) (some (x.1,true,())) (cond (decide ((x.1.length:Int) > 32)) (some (x.1,true,())) (cond (decide (x.2<0)) (some (x.1,true,())) (some (x.1,decide (x.2 > 15),()))))).bind fun z1=>cond z1.2.1 (some false) ((y0s a3S (z1.1,(z1.1.length:Int),0,())).bind fun w4=>match w4 with |.inl a5=>some true |.inr b6=>some b6.1)
def b9N:FSem:=⟨[.v QL,.v QI],[.v .bool],a3A⟩
def d2b:Hints:=⟨[(58,[.sv 23 QL,24,25],[Qe 0 [],Qr [.sv 4 .bool]])],[(6,[Qn [.sv 0 QL,.sv 22 .bool]]),(3737,[Qn [.sv 23 QL,24,25,.sv 34 .bool]])],[]⟩
def a5l(s:Z5):Option (Z5 ⊕ Z0):=cond (decide (s.2.1<3)) ((m0k s.1 s.2.1).bind fun x2=>(show Option Z21 from cond (decide (x2<(-64))) (some (s.1,s.2.1,true,())) (some (s.1,s.2.1,decide (x2 > 64),()))).bind fun z3=>cond z3.2.2.1 (some (.inr (Sum.inr ((false,()))))) (some (.inl (z3.1,wrap .i64 (z3.2.1+1),())))) (some (.inr (Sum.inl ())))
def a6x(x:(Int×LI)):Option Bool:=(show Option Z7 from cond (decide (x.1<2)) (some (true,x.2,())) (some (decide (x.1 > 1024),x.2,()))).bind fun z1=>cond z1.1 (some false) ((y0s a5l (z1.2.1,0,())).bind fun w4=>match w4 with |.inl a5=>some true |.inr b6=>some b6.1)
def c3y:FSem:=⟨[.v QI,.v (.arr 3 QI)],[.v .bool],a6x⟩
def d2c:Hints:=⟨[(58,[.sv 13 (.arr 3 QI),14],[Qe 0 [],Qr [.sv 4 .bool]])],[(6,[Qn [.sv 12 .bool,.vp 3 (.arr 3 QI)]]),(3737,[Qn [.sv 13 (.arr 3 QI),14,.sv 22 .bool]])],[]⟩
def a5m(x:(Int×Int×Unit)):Option Bool:=cond (decide (x.1≥1)) (cond (decide (x.1≤32)) (cond (decide (x.2.1≥0)) (some (decide (x.2.1≤8))) (some false)) (some false)) (some false)
def b8C:FSem:=⟨[.v Q5],[.v .bool],a5m⟩
def a4E(s:(Z6×Int×Int×Unit)):Option ((Z6×Int×Int×Unit) ⊕ Z0):=cond (decide (s.2.2.1<s.2.1)) ((m0k s.1 s.2.2.1).bind fun x1=>(a5m x1).bind fun y2=>cond (!y2) (some (.inr (Sum.inr ((false,()))))) (some (.inl (s.1,s.2.1,wrap .i64 (s.2.2.1+1),())))) (some (.inr (Sum.inl ())))
def a5E(x:Z6):Option Bool:=cond (decide ((x.length:Int) > 3)) (some false) ((y0s a4E (x,(x.length:Int),0,())).bind fun w3=>match w3 with |.inl a4=>some true |.inr b5=>some b5.1)
def b4i:FSem:=⟨[.v (.list false Q5)],[.v .bool],a5E⟩
def d2d:Hints:=⟨[(58,[.sv 8 (.list false Q5),9,10],[Qe 0 [],Qr [.sv 2 .bool]])],[],[]⟩
def a7s(x:(Int×a7w)):Option Bool:=(show Option c3j from cond (x.1==0) (some (x.2.2,x.1,x.1==0,x.2.1,())) (some (x.2.2,x.1,x.1==1,x.2.1,()))).bind fun z1=>cond z1.2.2.1 (some true) (cond (z1.2.1==2) (cond (decide (z1.2.2.2.1.2.2.1≥0)) (cond (decide (z1.2.2.2.1.2.2.1≤4)) (some (decide (z1.2.2.2.1.2.2.1≤z1.1))) (some false)) (some false)) (cond (z1.2.1==3) ((a3A (z1.2.2.2.1.2.2.2.2.2.1,z1.2.2.2.1.2.2.2.1)).bind fun y2=>cond y2 (some (decide ((z1.2.2.2.1.2.2.2.2.2.1.length:Int)≤z1.1))) (some false)) (cond (z1.2.1==4) ((a3A (z1.2.2.2.1.2.2.2.2.2.1,z1.2.2.2.1.2.2.2.1)).bind fun y3=>cond y3 (cond (decide ((z1.2.2.2.1.2.2.2.2.2.1.length:Int)≤z1.1)) ((a6x (z1.2.2.2.1.2.2.2.2.1,z1.2.2.2.1.2.2.2.2.2.2.1)).bind fun y4=>some y4) (some false)) (some false)) (cond (z1.2.1==5) (cond (decide ((z1.2.2.2.1.2.2.2.2.2.2.2.1.length:Int) > 0)) ((a5E z1.2.2.2.1.2.2.2.2.2.2.2.1).bind fun y5=>some y5) (some false)) (some false)))))
def c4J:FSem:=⟨[.v QI,.v Q50,.v QI],[.v .bool],a7s⟩
def d2e:Hints:=⟨[],[(26,[Qn [2,7,.sv 8 .bool,.vp 4 Q50]])],[]⟩
def a0X(x:LI):Option LI:=x0e x
def a1E:FSem:=⟨[.v QL],[.o QI],a0X⟩
def c6E:Cx:=b2E [] [] 5 0
theorem c8O(x):A0j c6E QH Tryz.f192 a1E.ps a1E.rs x=a1E.F x:=Eq.trans (show _=w0u x by kernel_rfl) (A0x x)
def a3d(x:LI):Option LI:=x0e x
def a2a:FSem:=⟨[.v QL],[.v QL],a3d⟩
def c4K:Cx:=b2E [] [] 5 0
theorem c8e(x):A0j c4K QH Tryz.f192 a2a.ps a2a.rs x=a2a.F x:=Eq.trans (show _=w0u x by kernel_rfl) (A0x x)
def a1k(x:Z6):Option Z6:=x0e x
def a1l:FSem:=⟨[.v (.list false Q5)],[.v (.list false Q5)],a1k⟩
def c4L:Cx:=b2E [] [] 5 0
theorem c8f(x):A0j c4L QH Tryz.f204 a1l.ps a1l.rs x=a1l.F x:=Eq.trans (show _=w0u x by kernel_rfl) (A0x x)
def a7z(x:(Int×a0W)):Option a0W:=(show Option a9z from(show Option ((a0W×a9z) ⊕ (a9z ⊕ (a0W×a9z)))from cond (x.1==2) (some (Sum.inr (Sum.inl ((0,0,0,0,0,[],a01 3 0,[],[],(0,[],()),[],()),(x.1,0,x.2.2.2.1,0,0,[],a01 3 0,[],[],(0,[],()),[],()),())))) (cond (x.1==4) (some (Sum.inl ((0,0,0,0,0,[],a01 3 0,[],[],(0,[],()),[],()),(x.1,0,0,0,x.2.2.2.2.2.1,[],x.2.2.2.2.2.2.2.1,[],[],(0,[],()),[],()),x.2,()))) (cond (x.1==3) (some (Sum.inl ((0,0,0,0,0,[],a01 3 0,[],[],(0,[],()),[],()),(x.1,0,0,0,0,[],a01 3 0,[],[],(0,[],()),[],()),x.2,()))) (cond (x.1==5) (some (Sum.inr (Sum.inr (((0,0,0,0,0,[],a01 3 0,[],[],(0,[],()),[],()),(x.1,0,0,0,0,[],a01 3 0,[],[],(0,[],()),[],()),x.2,()))))) (some (Sum.inr (Sum.inl ((0,0,0,0,0,[],a01 3 0,[],[],(0,[],()),[],()),(x.1,0,0,0,0,[],a01 3 0,[],[],(0,[],()),[],()),())))))))).bind fun z1=>match z1 with |.inl a2=>((a3d a2.2.2.1.2.2.2.2.2.1).bind fun y4=>some (a2.1,(a2.2.1.1,a2.2.1.2.1,a2.2.1.2.2.1,a2.2.2.1.2.2.2.1,a2.2.1.2.2.2.2.1,y4,a2.2.1.2.2.2.2.2.2),())) |.inr b3=>(match b3 with |.inl a5=>some (a5.1,a5.2.1,()) |.inr b6=>((a1k b6.2.2.1.2.2.2.2.2.2.2.1).bind fun y7=>some (b6.1,(b6.2.1.1,b6.2.1.2.1,b6.2.1.2.2.1,b6.2.1.2.2.2.1,b6.2.1.2.2.2.2.1,b6.2.1.2.2.2.2.2.1,b6.2.1.2.2.2.2.2.2.1,y7,b6.2.1.2.2.2.2.2.2.2.2),())))).bind fun z8=>some z8.2.1
def b9O:FSem:=⟨[.v QI,.v Q50],[.v Q50],a7z⟩
def d2f:Hints:=⟨[],[(7,[Qn [.box 4 Q50,.box 5 Q50,Qp 4 4,Qp 5 5]]),(232,[Qn [.box 4 Q50,.box 5 Q50,.vp 3 Q50,Qp 4 4,Qp 5 5],Qe 0 [.box 4 Q50,.box 5 Q50,Qp 4 4,Qp 5 5],Qe 4 [.box 4 Q50,.box 5 Q50,.vp 3 Q50,Qp 4 4,Qp 5 5]])],[(8,[.v,.v,.v,.v,.q,.w [0,5],.x,.x]),(9,[.v,.v,.v,.v,.v,.q,.w [0,5],.x,.x])]⟩
def a4F(x:a7w):Option Int:=cond (x.1.1==0) (some 1) (cond (x.1.1==1) (some x.2) (cond (x.1.1==2) (some x.1.2.2.1) ((show Option c3h from cond (x.1.1==3) (some (x.1.1==3,x.1,())) (some (x.1.1==4,x.1,()))).bind fun z1=>cond z1.1 (some (z1.2.1.2.2.2.2.2.1.length:Int)) (some 0))))
def b9P:FSem:=⟨[.v Q50,.v QI],[.v QI],a4F⟩
def d2g:Hints:=⟨[],[(1727,[Qn [.sv 16 .bool,.vp 2 Q50]])],[]⟩
def b0B(s:Z16):Option Z80:=(fun(a b:Int)=>cond (decide (b<a)) ((m0k s.1 b).bind fun x1=>(show Option Z37 from cond (decide (x1<(-1073741824))) (some (s.1,a,b,true,())) (some (s.1,a,b,decide (x1≥1073741824),()))).bind fun z2=>cond z2.2.2.2.1 (some (.inr (Sum.inr ((false,()))))) (some (.inl (z2.1,z2.2.1,wrap .i64 (z2.2.2.1+1),())))) (some (.inr (Sum.inl ())))) s.2.1 s.2.2.1
def a2h(x:LI):Option Bool:=(y0s b0B (x,(x.length:Int),0,())).bind fun w3=>match w3 with |.inl a4=>some true |.inr b5=>some b5.1
def b9Q:FSem:=⟨[.v QL],[.v .bool],a2h⟩
def d2h:Hints:=⟨[(26,[.sv 5 QL,6,7],[Qe 0 [],Qr [.sv 2 .bool]])],[(1689,[Qn [.sv 5 QL,6,7,.sv 16 .bool]])],[]⟩
def b5v(s:Z33):Option (Z33 ⊕ Z17):=(fun(a b:Int)(c:LI)=>cond (decide ((wrap .i64 (a+1))<(c.length:Int))) (cond ((decide (0≤(wrap .i64 (a+1))))&&(decide ((wrap .i64 (a+1))<(c.length:Int)))) (cond ((decide (0≤a))&&(decide (a<(c.length:Int)))) (cond ((decide (0≤a))&&(decide (a<(c.length:Int)))) (some (.inl (wrap .i64 (a+1),s.2.1,b,a05 c (a00 a) (wrap .i64 ((a03 c (a00 (wrap .i64 (a+1))) 0)-(a03 c (a00 a) 0))),()))) none) none) none) (some (.inr (s.2.1,b,c,())))) s.1 s.2.2.1 s.2.2.2.1
def b5w(s:Z17):Option (Z17 ⊕ (LI×Unit)):=cond (decide (s.2.1<s.1)) ((y0s b5v (0,s.1,s.2.1,s.2.2.1,())).bind fun w3=>cond ((decide (0≤(wrap .i64 ((w3.2.2.1.length:Int)-1))))&&(decide ((wrap .i64 ((w3.2.2.1.length:Int)-1))≤(w3.2.2.1.length:Int)))) (cond (decide ((a00 (wrap .i64 ((w3.2.2.1.length:Int)-1)))≤(a02 w3.2.2.1))) (some (.inl (w3.1,wrap .i64 (w3.2.1+1),a06 (a00 (wrap .i64 ((w3.2.2.1.length:Int)-1))) w3.2.2.1,()))) none) none) (some (.inr (s.2.2.1,())))
def a9B(x:(LI×Int)):Option (LI×Int):=(show Option Z21 from cond (decide (x.2<0)) (some (x.1,x.2,true,())) (cond (decide (x.2 > 4)) (some (x.1,x.2,true,())) (some (x.1,x.2,decide ((x.1.length:Int)<x.2),())))).bind fun z1=>cond z1.2.2.1 (some ([],1)) ((a2h z1.1).bind fun y2=>cond (!y2) (some ([],6)) (cond (lim (a02 z1.1)) ((y0s b5w (z1.2.1,0,z1.1,())).bind fun w4=>(a2h w4.1).bind fun y5=>cond (!y5) (some ([],6)) (some (w4.1,0))) none))
def b9R:FSem:=⟨[.v QL,.v QI],[.o QI,.v QI],a9B⟩
def d2i:Hints:=⟨[(250,[25,26,.own 6 6 QI],[Qe 0 [.own 6 6 QI]]),(64098,[7,25,26,.own 6 6 QI],[Qe 2 [25,26,.own 6 6 QI]])],[(6,[Qn [.sv 0 QL,1,.sv 19 .bool]])],[(11,[.q,.v,.q,.v,.v,.q,.q,.q,.v,.q,.q,.v,.x,.x])]⟩
def a3P(x:Int):Option Bool:=cond (decide (x≥(-1073741824))) (some (decide (x<1073741824))) (some false)
def b8D:FSem:=⟨[.v QI],[.v .bool],a3P⟩
def a2z(s:Z16):Option Z80:=cond (decide (s.2.2.1<s.2.1)) ((m0k s.1 s.2.2.1).bind fun x1=>(a3P x1).bind fun y2=>cond (!y2) (some (.inr (Sum.inr ((false,()))))) (some (.inl (s.1,s.2.1,wrap .i64 (s.2.2.1+1),())))) (some (.inr (Sum.inl ())))
def a2b(x:LI):Option Bool:=(y0s a2z (x,(x.length:Int),0,())).bind fun w3=>match w3 with |.inl a4=>some true |.inr b5=>some b5.1
def b4J:FSem:=⟨[.v QL],[.v .bool],a2b⟩
def d2j:Hints:=⟨[(26,[.sv 5 QL,6,7],[Qe 0 [],Qr [.sv 2 .bool]])],[],[]⟩
def a2A(s:Z85):Option (Z85 ⊕ (Int×Int×Unit)):=(fun(a:LI)(b c:Int)(d:LI)(e f:Int)=>cond (decide (f<e)) ((m0k d f).bind fun x1=>cond (decide ((wrap .i64 ((wrap .i64 ((a.length:Int)-1))-f))<0)) (some (.inr (b,c,()))) ((m0k a (wrap .i64 ((wrap .i64 ((a.length:Int)-1))-f))).bind fun x2=>some (.inl (a,b,wrap .i64 (c+(wrap .i64 (x1*x2))),d,e,wrap .i64 (f+1),())))) (some (.inr (b,c,())))) s.1 s.2.1 s.2.2.1 s.2.2.2.1 s.2.2.2.2.1 s.2.2.2.2.2.1
def a3B(x:Z11):Option Int:=(y0s a2A (x.1,x.2.2,0,x.2.1,(x.2.1.length:Int),0,())).bind fun w3=>cond (decide (w3.1<0)) none (some (A0o .i64 w3.2.1 w3.1))
def b4K:FSem:=⟨[.v QL,.v QL,.v QI],[.v QI],a3B⟩
def d2k:Hints:=⟨[(58,[.sv 0 QL,2,7,.sv 11 QL,12,13],[Qe 0 [2,7]])],[],[]⟩
def b4L(s:Z81):Option (Z81 ⊕ Z51):=(fun(a:LI)(b c:Int)(d:LI)=>cond (decide (c<(a.length:Int))) ((m0k a c).bind fun x4=>cond ((decide (0≤c))&&(decide (c≤(a.length:Int)))) ((a3B (a06 (a00 c) a,s.2.1,b)).bind fun y5=>(a3P (wrap .i64 (x4-y5))).bind fun y6=>cond (!y6) (some (.inr (Sum.inr ((6,[],()))))) (cond (lim ((a02 d)+1)) (some (.inl (a,s.2.1,b,wrap .i64 (c+1),a04 d [wrap .i64 (x4-y5)],()))) none)) none) (some (.inr (Sum.inl (d,()))))) s.1 s.2.2.1 s.2.2.2.1 s.2.2.2.2.1
def a8Y(x:Z11):Option (LI×Int):=(show Option Z54 from(a3A (x.2.1,x.2.2)).bind fun y1=>cond (!y1) (some (x.1,x.2.1,x.2.2,true,())) (some (x.1,x.2.1,x.2.2,decide ((x.1.length:Int)<(x.2.1.length:Int)),()))).bind fun z2=>cond z2.2.2.2.1 (some ([],1)) ((a2b z2.1).bind fun y3=>cond (!y3) (some ([],6)) (cond ((decide (0≤(wrap .i64 ((z2.1.length:Int)-(z2.2.1.length:Int)))))&&(lim (a00 (wrap .i64 ((z2.1.length:Int)-(z2.2.1.length:Int)))))) ((y0s b4L (z2.1,z2.2.1,z2.2.2.1,(z2.2.1.length:Int),[],())).bind fun w7=>match w7 with |.inl a8=>some (a8.1,0) |.inr b9=>some (b9.2.1,b9.1)) none))
def b8E:FSem:=⟨[.v QL,.v QL,.v QI],[.o QI,.v QI],a8Y⟩
def d2l:Hints:=⟨[(250,[.sv 0 QL,.sv 1 QL,2,9,.own 8 8 QI],[Qe 0 [.own 8 8 QI],Qr [7,.own 6 6 QI]])],[(6,[Qn [.sv 0 QL,.sv 1 QL,2,.sv 21 .bool]])],[(9,[.v,.v,.v,.v,.v,.v,.v,.v,.v,.v,.x,.x])]⟩
def a5F(x:Int):Option Bool:=cond (decide (x≥(-1073741824))) (some (decide (x<1073741824))) (some false)
def c1F:FSem:=⟨[.v QI],[.v .bool],a5F⟩
def a3h(s:Z16):Option Z80:=cond (decide (s.2.2.1<s.2.1)) ((m0k s.1 s.2.2.1).bind fun x1=>(a5F x1).bind fun y2=>cond (!y2) (some (.inr (Sum.inr ((false,()))))) (some (.inl (s.1,s.2.1,wrap .i64 (s.2.2.1+1),())))) (some (.inr (Sum.inl ())))
def a3s(x:LI):Option Bool:=(y0s a3h (x,(x.length:Int),0,())).bind fun w3=>match w3 with |.inl a4=>some true |.inr b5=>some b5.1
def b6Z:FSem:=⟨[.v QL],[.v .bool],a3s⟩
def d2m:Hints:=⟨[(26,[.sv 5 QL,6,7],[Qe 0 [],Qr [.sv 2 .bool]])],[],[]⟩
def a3i(s:(LI×(Int×Int×Z18))):Option ((LI×(Int×Int×Z18)) ⊕ (Int×Unit)):=(fun(a b c:Int)(d:LI)(e:Int)=>cond (decide (e<3)) ((m0k d e).bind fun x1=>cond (decide ((wrap .i64 ((wrap .i64 ((wrap .i64 (a-b))-1))+e))≥0)) ((m0k s.1 (wrap .i64 ((wrap .i64 ((wrap .i64 (a-b))-1))+e))).bind fun x2=>some (.inl (s.1,a,b,wrap .i64 (c+(wrap .i64 (x1*x2))),d,wrap .i64 (e+1),()))) (some (.inl (s.1,a,b,c,d,wrap .i64 (e+1),())))) (some (.inr (c,())))) s.2.1 s.2.2.1 s.2.2.2.1 s.2.2.2.2.1 s.2.2.2.2.2.1
def a3t(x:(LI×Z1)):Option Int:=(y0s a3i (x.1,x.2.1,x.2.2.1,0,x.2.2.2,0,())).bind fun w3=>some (A0o .i64 w3.1 6)
def b7a:FSem:=⟨[.v QL,.v QI,.v QI,.v (.arr 3 QI)],[.v QI],a3t⟩
def d2n:Hints:=⟨[(58,[.sv 0 QL,1,2,9,.sv 13 (.arr 3 QI),14],[Qe 0 [9]])],[],[]⟩
def b7b(s:(LI×Z98)):Option ((LI×Z98) ⊕ Z51):=(fun(a:LI)(b c:Int)(d e:LI)=>cond (decide (c<b)) ((m0k a c).bind fun x3=>(a3t (s.1,c,s.2.1,e)).bind fun y4=>(a5F (wrap .i64 (x3-y4))).bind fun y5=>cond (!y5) (some (.inr (Sum.inr ((6,[],()))))) (cond (lim ((a02 d)+1)) (some (.inl (s.1,s.2.1,a,b,wrap .i64 (c+1),a04 d [wrap .i64 (x3-y4)],e,()))) none)) (some (.inr (Sum.inl (d,()))))) s.2.2.1 s.2.2.2.1 s.2.2.2.2.1 s.2.2.2.2.2.1 s.2.2.2.2.2.2.1
def a8x(x:Z12):Option (LI×Int):=(a6x (x.2.1,x.2.2)).bind fun y1=>cond (!y1) (some ([],1)) ((a3s x.1).bind fun y2=>cond (!y2) (some ([],6)) (cond ((decide (0≤(x.1.length:Int)))&&(lim (a00 (x.1.length:Int)))) ((y0s b7b (x.1,x.2.1,x.1,(x.1.length:Int),0,[],x.2.2,())).bind fun w6=>match w6 with |.inl a7=>some (a7.1,0) |.inr b8=>some (b8.2.1,b8.1)) none))
def c1G:FSem:=⟨[.v QL,.v QI,.v (.arr 3 QI)],[.o QI,.v QI],a8x⟩
def d2o:Hints:=⟨[(250,[.sv 0 QL,1,.sv 22 QL,23,24,.own 8 8 QI,.vp 5 (.arr 3 QI)],[Qe 0 [.own 8 8 QI],Qr [7,.own 6 6 QI]])],[],[]⟩
def a4G(x:Int):Option Bool:=cond (decide (x≥(-1073741824))) (some (decide (x<1073741824))) (some false)
def b2H:FSem:=⟨[.v QI],[.v .bool],a4G⟩
def a2P(s:Z16):Option Z80:=cond (decide (s.2.2.1<s.2.1)) ((m0k s.1 s.2.2.1).bind fun x1=>(a4G x1).bind fun y2=>cond (!y2) (some (.inr (Sum.inr ((false,()))))) (some (.inl (s.1,s.2.1,wrap .i64 (s.2.2.1+1),())))) (some (.inr (Sum.inl ())))
def a3T(x:LI):Option Bool:=(y0s a2P (x,(x.length:Int),0,())).bind fun w3=>match w3 with |.inl a4=>some true |.inr b5=>some b5.1
def b0C:FSem:=⟨[.v QL],[.v .bool],a3T⟩
def d2p:Hints:=⟨[(26,[.sv 5 QL,6,7],[Qe 0 [],Qr [.sv 2 .bool]])],[],[]⟩
def a6T(x:(Int×Int×Unit)):Option Z48:=(a5m x).bind fun y1=>cond (!y1) none (cond ((decide (0≤x.1))&&((decide (x.1≤x.1))&&(lim (a00 x.1)))) (cond ((decide (0≤x.1))&&((decide (x.1≤x.1))&&(lim (a00 x.1)))) (some ((x.2.1,a01 (a00 x.1) 0,a01 (a00 x.1) 0,()),0)) none) none)
def b4j:FSem:=⟨[.v Q5],[.b Q14,.v QI],a6T⟩
def d2q:Hints:=⟨[],[],[(3,[.v,.v,.v,.v,.q,.v,.v,.q,.x,.x,.x,.x])]⟩
def a3U(x:Int):Option Int:=some (v0s (v0r x (-1073741824)) 1073741823)
def b5x:FSem:=⟨[.v QI],[.v QI],a3U⟩
def a2w(s:b9G):Option (b9G ⊕ Z72):=(fun(a:Int)(b:Z28)=>cond (decide (a<s.2.1)) (cond ((decide (0≤a))&&(decide (a<(b.2.1.length:Int)))) (cond ((decide (0≤a))&&(decide (a<(b.2.2.1.length:Int)))) (some (.inl (wrap .i64 (s.1+(wrap .i64 ((a03 b.2.1 (a00 a) 0)*(a03 b.2.2.1 (a00 a) 0)))),s.2.1,wrap .i64 (a+1),b,()))) none) none) (some (.inr (s.1,b,())))) s.2.2.1 s.2.2.2.1
def a1P(x:Z28):Option Z47:=(y0s a2w (0,(x.2.1.length:Int),0,x,())).bind fun w1=>(a3U (A0o .i64 w1.1 16)).bind fun y2=>some (y2,w1.2.1)
def a7A:FSem:=⟨[.r false (.b Q14)],[.v QI],a1P⟩
def d2r:Hints:=⟨[(58,[3,10,11,.box pinned Q14,Qp 0 pinned,.ref 9 pinned [.snd,.fst]],[Qe 0 [3,.box pinned Q14]])],[],[]⟩
def a1V(s:(Int×b9G)):Option ((Int×b9G) ⊕ Z72):=(fun(a b c d:Int)(e:Z28)=>cond (decide (d<c)) (cond ((decide (0≤d))&&(decide (d<(e.2.2.1.length:Int)))) (cond ((decide (0≤d))&&(decide (d<(e.2.1.length:Int)))) ((show Option (Int×Int×Int×b9G)from cond (decide ((a03 e.2.2.1 (a00 d) 0) > 0)) (some (a,b,d,wrap .i64 ((a03 e.2.1 (a00 d) 0)+b),c,d,e,())) (cond (decide ((a03 e.2.2.1 (a00 d) 0)<0)) (some (a,b,d,wrap .i64 ((a03 e.2.1 (a00 d) 0)-b),c,d,e,())) (some (a,b,d,a03 e.2.1 (a00 d) 0,c,d,e,())))).bind fun z4=>cond ((decide (0≤z4.2.2.1))&&(decide (z4.2.2.1<(z4.2.2.2.2.2.2.1.2.1.length:Int)))) (some (.inl (z4.1,z4.2.1,z4.2.2.2.2.1,wrap .i64 (z4.2.2.2.2.2.1+1),(z4.2.2.2.2.2.2.1.1,a05 z4.2.2.2.2.2.2.1.2.1 (a00 z4.2.2.1) (v0s (v0r z4.2.2.2.1 (-1048576)) 1048576),z4.2.2.2.2.2.2.1.2.2),()))) none) none) none) (some (.inr (a,e,())))) s.1 s.2.1 s.2.2.1 s.2.2.2.1 s.2.2.2.2.1
def a2B(x:Z48):Option Z28:=(a3U x.2).bind fun y1=>(show Option Z89 from(a1P x.1).bind fun y2=>cond (decide (y1 > y2.1)) (cond (decide (y2.2.1<0)) none (some (y1,A0n .i64 1 y2.2.1,y2.2,()))) (cond (decide (y1<y2.1)) (cond (decide (y2.2.1<0)) none (some (y1,wrap .i64 (0-(A0n .i64 1 y2.2.1)),y2.2,()))) (some (y1,0,y2.2,())))).bind fun z3=>(y0s a1V (z3.1,z3.2.1,(z3.2.2.1.2.2.1.length:Int),0,z3.2.2.1,())).bind fun w5=>cond (decide (1≤(w5.2.1.2.2.1.length:Int))) (cond (decide (0<(a02 (p0h w5.2.1.2.2.1 1 ((a02 w5.2.1.2.2.1)-1) w5.2.1.2.2.1):Int))) (some (w5.2.1.1,w5.2.1.2.1,a05 (p0h w5.2.1.2.2.1 1 ((a02 w5.2.1.2.2.1)-1) w5.2.1.2.2.1) 0 w5.1,w5.2.1.2.2.2)) none) none
def a8c:FSem:=⟨[.r false (.b Q14),.v QI],[],a2B⟩
def d2s:Hints:=⟨[(122,[1,4,36,37,.box pinned Q14,Qp 0 pinned,.ref 35 pinned [.snd,.snd,.fst]],[Qe 1 [1,.box pinned Q14,Qp 0 pinned]])],[(7,[Qn [1,4,.box pinned Q14,Qp 0 pinned]]),(15667,[Qn [1,4,6,8,36,37,.box pinned Q14,Qp 0 pinned,.ref 35 pinned [.snd,.snd,.fst]]])],[(17,[.p,.p,.q,.q,.q,.p,.p,.q,.q,.x])]⟩
def b5y(s:(Z6×Int×Int×c3d)):Option ((Z6×Int×Int×c3d) ⊕ ((Z6×Z17) ⊕ Z4)):=(fun(a b c:Int)(d:LI)=>cond (decide (c<b)) (cond ((decide (0≤c))&&(decide (c<(d.length:Int)))) ((a1P s.2.2.2.2.2.2.1).bind fun y6=>(a4G (wrap .i64 ((a03 d (a00 c) 0)-y6.1))).bind fun y7=>cond (!y7) (some (.inr (Sum.inr ((6,[],()))))) ((a2B (y6.2,a03 d (a00 c) 0)).bind fun y8=>cond ((decide (0≤c))&&(decide (c<(d.length:Int)))) (some (.inl (s.1,s.2.1,a,b,wrap .i64 (c+1),a05 d (a00 c) (wrap .i64 ((a03 d (a00 c) 0)-y6.1)),y8,()))) none)) none) (some (.inr (Sum.inl (s.1,s.2.1,a,d,()))))) s.2.2.1 s.2.2.2.1 s.2.2.2.2.1 s.2.2.2.2.2.1
def b5z(s:(Z6×Z17)):Option ((Z6×Z17) ⊕ Z51):=(fun(a:Int)(b:LI)=>cond (decide (a<s.2.1)) ((m0k s.1 a).bind fun x4=>(a6T x4).bind fun y5=>cond (y5.2 != 0) (some (.inr (Sum.inr ((y5.2,[],()))))) ((y0s b5y (s.1,s.2.1,a,(b.length:Int),0,b,y5.1,())).bind fun w9=>match w9 with |.inl a10=>some (.inl (a10.1,a10.2.1,wrap .i64 (a10.2.2.1+1),a10.2.2.2.1,())) |.inr b11=>some (.inr (Sum.inr ((b11.1,b11.2.1,())))))) (some (.inr (Sum.inl (b,()))))) s.2.2.1 s.2.2.2.1
def b2I(x:(LI×Z6)):Option (LI×Int):=(a5E x.2).bind fun y1=>cond (!y1) (some ([],1)) ((a3T x.1).bind fun y2=>cond (!y2) (some ([],6)) ((a0X x.1).bind fun y3=>(y0s b5z (x.2,(x.2.length:Int),0,y3,())).bind fun w12=>match w12 with |.inl a13=>some (a13.1,0) |.inr b14=>some (b14.2.1,b14.1)))
def b9S:FSem:=⟨[.v QL,.v (.list false Q5)],[.o QI,.v QI],b2I⟩
def d2t:Hints:=⟨[(250,[.sv 22 (.list false Q5),23,24,.own 6 6 QI],[Qe 0 [.own 6 6 QI],Qr [5,.own 4 4 QI]]),(256414,[.sv 22 (.list false Q5),23,24,37,38,.own 6 6 QI,.box 1030 Q14,Qp 9 1030,.ref 36 6 []],[Qe 2 [.sv 22 (.list false Q5),23,24,.own 6 6 QI],Qr [5,.own 4 4 QI]])],[],[]⟩
def b4k(x:(a0W×LI)):Option (Int×a0W):=(show Option (LI×(LI×(Int×b1L)))from cond (x.1.1==2) ((a9B (x.2,x.1.2.2.1)).bind fun y1=>some (x.2,y1.1,y1.2,x.1,())) (cond (x.1.1==3) ((a8Y (x.2,x.1.2.2.2.2.2.1,x.1.2.2.2.1)).bind fun y2=>some (x.2,y2.1,y2.2,x.1,())) (cond (x.1.1==4) ((a8x (x.2,x.1.2.2.2.2.1,x.1.2.2.2.2.2.2.1)).bind fun y3=>cond (y3.2==0) ((a8Y (y3.1,x.1.2.2.2.2.2.1,x.1.2.2.2.1)).bind fun y4=>some (y3.1,y4.1,y4.2,x.1,())) (some (y3.1,[],y3.2,x.1,()))) (cond (x.1.1==5) ((b2I (x.2,x.1.2.2.2.2.2.2.2.1)).bind fun y5=>some (x.2,y5.1,y5.2,x.1,())) (some (x.2,[],0,x.1,())))))).bind fun z6=>cond (z6.2.2.1 != 0) (some (z6.2.2.1,z6.2.2.2.1)) ((a4F (z6.2.2.2.1,(z6.1.length:Int))).bind fun y7=>cond ((decide (0≤y7))&&(decide (y7≤(z6.1.length:Int)))) ((a0X (a06 (a00 y7) z6.1)).bind fun y8=>some (0,z6.2.2.2.1.1,z6.2.2.2.1.2.1,z6.2.2.2.1.2.2.1,z6.2.2.2.1.2.2.2.1,z6.2.2.2.1.2.2.2.2.1,z6.2.2.2.1.2.2.2.2.2.1,z6.2.2.2.1.2.2.2.2.2.2.1,z6.2.2.2.1.2.2.2.2.2.2.2.1,y8,z6.2.2.2.1.2.2.2.2.2.2.2.2.2.1,z6.2.1,z6.2.2.2.1.2.2.2.2.2.2.2.2.2.2.2)) none)
def c1H:FSem:=⟨[.r false (.b Q50),.v QL],[.v QI],b4k⟩
def d2u:Hints:=⟨[],[(15,[Qn [.sv 1 QL,.sv 5 QL,6,.box pinned Q50,Qp 0 pinned]])],[(7,[.v,.p,.p,.q,.q,.p,.p,.q,.q,.x,.x,.q,.q,.q,.x]),(9,[.v,.p,.p,.q,.q,.p,.p,.q,.q,.x,.x,.q,.q,.q,.x]),(11,[.q,.p,.p,.q,.q,.p,.p,.q,.q,.x,.x,.q,.q,.q,.x])]⟩
def a5G(x:(Int×Int)):Option Bool:=cond (decide (1≤x.1)) (cond (decide (x.1≤4096)) (cond (decide (0≤x.2)) (some (decide (x.2≤x.1))) (some false)) (some false)) (some false)
def c1I:FSem:=⟨[.v QI,.v QI],[.v .bool],a5G⟩
def a5a(s:Z17):Option (Z17 ⊕ (LI×Unit)):=(fun(a:LI)=>cond (decide (s.1<0)) none (cond (decide ((a.length:Int)<(A0n .i64 1 s.1))) (cond (lim ((a02 a)+1)) (some (.inl (s.1,s.2.1,a04 a [s.2.1],()))) none) (some (.inr (a,()))))) s.2.2.1
def a2s(x:(Int×Int×Int)):Option LI:=(show Option Z26 from(a5G (x.2.1,x.2.2)).bind fun y1=>cond (!y1) (some (x.1,x.2.1,x.2.2,true,())) (cond (decide (x.1<0)) (some (x.1,x.2.1,x.2.2,true,())) (some (x.1,x.2.1,x.2.2,decide (x.1 > 8),())))).bind fun z2=>cond z2.2.2.2.1 (some []) (cond (decide (z2.1<0)) none ((show Option Z26 from cond (decide (z2.1<0)) none (cond ((A0n .i64 (A0o .i64 z2.2.1 z2.1) z2.1) != z2.2.1) (some (z2.1,z2.2.2.1,A0o .i64 z2.2.1 z2.1,true,())) (some (z2.1,z2.2.2.1,A0o .i64 z2.2.1 z2.1,decide ((A0o .i64 z2.2.1 z2.1)<z2.2.2.1),())))).bind fun z3=>cond z3.2.2.2.1 (some []) ((y0s a5a (z3.1,z3.2.2.1,[wrap .i64 (z3.2.2.1-z3.2.1)],())).bind fun w4=>some w4.1)))
def b8F:FSem:=⟨[.v QI,.v QI,.v QI],[.o QI],a2s⟩
def d2v:Hints:=⟨[(252,[0,7,.own 8 8 QI],[Qe 0 [.own 8 8 QI]])],[(6,[Qn [0,1,2,.sv 20 .bool]]),(30,[Qn [0,2,7,.sv 33 .bool]])],[]⟩
def a3u(s:Z16):Option Z80:=(fun(a:LI)(b c:Int)=>cond (decide (c<b)) ((m0k a c).bind fun x3=>(show Option Z37 from cond (decide (x3<0)) (some (a,b,c,x3 != 31,())) (cond (decide (x3 > 25)) (some (a,b,c,x3 != 31,())) (some (a,b,c,false,())))).bind fun z4=>cond z4.2.2.2.1 (some (.inr (Sum.inr ((false,()))))) (some (.inl (z4.1,z4.2.1,wrap .i64 (z4.2.2.1+1),())))) (some (.inr (Sum.inl ())))) s.1 s.2.1 s.2.2.1
def a6U(x:(Z4×Int×Int)):Option Bool:=(a2s (x.1.1,x.2.1,x.2.2)).bind fun y1=>(show Option Z44 from cond ((y1.length:Int)==0) (some (true,x.1,())) (some ((x.1.2.1.length:Int) != (y1.length:Int),x.1,()))).bind fun z2=>cond z2.1 (some false) ((y0s a3u (z2.2.1.2.1,(z2.2.1.2.1.length:Int),0,())).bind fun w5=>match w5 with |.inl a6=>some true |.inr b7=>some b7.1)
def c1J:FSem:=⟨[.v Q9,.v QI,.v QI],[.v .bool],a6U⟩
def d2w:Hints:=⟨[(122,[.sv 27 QL,28,29],[Qe 0 [],Qr [.sv 6 .bool]])],[(14,[Qn [.sv 25 .bool,.vp 3 Q9]]),(7833,[Qn [.sv 27 QL,28,29,.sv 42 .bool]])],[]⟩
def b4M(s:Z16):Option Z80:=(fun(a b:Int)=>cond (decide (b<a)) ((m0k s.1 b).bind fun x3=>(show Option Z37 from cond (decide (x3<(-1073741824))) (some (s.1,a,b,true,())) (some (s.1,a,b,decide (x3≥1073741824),()))).bind fun z4=>cond z4.2.2.2.1 (some (.inr (Sum.inr ((false,()))))) (some (.inl (z4.1,z4.2.1,wrap .i64 (z4.2.2.1+1),())))) (some (.inr (Sum.inl ())))) s.2.1 s.2.2.1
def a8Z(x:Z1):Option Bool:=(show Option (LI×(Bool×Unit))from(a5G (x.1,x.2.1)).bind fun y1=>cond (!y1) (some (x.2.2,true,())) (some (x.2.2,(x.2.2.length:Int) != (wrap .i64 (x.1-x.2.1)),()))).bind fun z2=>cond z2.2.1 (some false) ((y0s b4M (z2.1,(z2.1.length:Int),0,())).bind fun w5=>match w5 with |.inl a6=>some true |.inr b7=>some b7.1)
def b8G:FSem:=⟨[.v QI,.v QI,.v QL],[.v .bool],a8Z⟩
def d2x:Hints:=⟨[(58,[.sv 21 QL,22,23],[Qe 0 [],Qr [.sv 6 .bool]])],[(6,[Qn [.sv 2 QL,.sv 20 .bool]]),(3737,[Qn [.sv 21 QL,22,23,.sv 32 .bool]])],[]⟩
def a9C(x:Int):Option Int:=(show Option (Int×Bool×Unit)from cond (decide (x<1)) (some (x,true,())) (some (x,decide (x > 31),()))).bind fun z1=>cond z1.2.1 (some 0) (cond (decide ((wrap .i64 (z1.1-1))<0)) none (some (A0n .i64 (-1) (wrap .i64 (z1.1-1)))))
def b9T:FSem:=⟨[.v QI],[.v QI],a9C⟩
def d2y:Hints:=⟨[],[(6,[Qn [0,.sv 8 .bool]])],[]⟩
def a9a(x:Int):Option Int:=(show Option (Int×Bool×Unit)from cond (decide (x<1)) (some (x,true,())) (some (x,decide (x > 31),()))).bind fun z1=>cond z1.2.1 (some 0) (cond (decide ((wrap .i64 (z1.1-1))<0)) none (some (wrap .i64 ((A0n .i64 1 (wrap .i64 (z1.1-1)))-1))))
def b8H:FSem:=⟨[.v QI],[.v QI],a9a⟩
def d2z:Hints:=⟨[],[(6,[Qn [0,.sv 8 .bool]])],[]⟩
def a3e(x:(Int×Int)):Option Bool:=cond (decide (x.2≥1)) (cond (decide (x.2≤31)) ((a9C x.2).bind fun y1=>cond (decide (y1≤x.1)) ((a9a x.2).bind fun y2=>some (decide (x.1≤y2))) (some false)) (some false)) (some false)
def b8I:FSem:=⟨[.v QI,.v QI],[.v .bool],a3e⟩
def a2n(s:Z53):Option (Z53 ⊕ Z32):=(fun(a b:Int)(c:LI)(d e:Int)=>cond (b != 0) (cond (decide (a<32)) ((a3e (b,a)).bind fun y2=>cond (!y2) (some (.inl (wrap .i64 (a+1),b,c,d,e,()))) (some (.inr (a,c,d,e,())))) (some (.inr (a,c,d,e,())))) (some (.inr (a,c,d,e,())))) s.1 s.2.1 s.2.2.1 s.2.2.2.1 s.2.2.2.2.1
def a4t(s:Z32):Option Z76:=(fun(a b:Int)=>cond (decide (b<a)) ((m0k s.2.1 b).bind fun x1=>(y0s a2n (s.1,x1,s.2.1,a,b,())).bind fun w3=>some (.inl (w3.1,w3.2.1,w3.2.2.1,wrap .i64 (w3.2.2.2.1+1),()))) (some (.inr (s.1,())))) s.2.2.1 s.2.2.2.1
def a1w(x:LI):Option Int:=(y0s a4t (0,x,(x.length:Int),0,())).bind fun w4=>some w4.1
def b7c:FSem:=⟨[.v QL],[.v QI],a1w⟩
def d2A:Hints:=⟨[(58,[3,.sv 6 QL,7,8],[Qe 0 [3]]),(7474,[3,5,.sv 6 QL,7,8],[Qe 2 [3,.sv 6 QL,7,8]])],[],[]⟩
def b0X(x:LI):Option Int:=(a1w x).bind fun y1=>some (wrap .i64 (5+(wrap .i64 (y1*(x.length:Int)))))
def c1K:FSem:=⟨[.v QL],[.v QI],b0X⟩
def a2G(x:Int):Option Bool:=cond (decide (0≤x)) (some (decide (x≤25))) (some false)
def b4N:FSem:=⟨[.v QI],[.v .bool],a2G⟩
def a8y(x:Int):Option Bool:=cond (decide ((-1073741824)≤x)) (some (decide (x<1073741824))) (some false)
def c1L:FSem:=⟨[.v QI],[.v .bool],a8y⟩
def b0Y(x:Int):Option Int:=(a8y x).bind fun y1=>cond (!y1) (some 0) (cond (decide (x≥0)) (some (wrap .u64 (wrap .i64 (2*x)))) (some (wrap .u64 (wrap .i64 ((wrap .i64 ((-2)*x))-1)))))
def c1M:FSem:=⟨[.v QI],[.v QU],b0Y⟩
def b4l(x:(Int×Int)):Option Int:=(show Option Z10 from(a2G x.1).bind fun y1=>cond (!y1) (some (x.1,x.2,true,())) ((a8y x.2).bind fun y2=>some (x.1,x.2,!y2,()))).bind fun z3=>cond z3.2.2.1 (some 0) ((b0Y z3.2.1).bind fun y4=>cond (decide (z3.1<0)) none (cond (decide ((wrap .i64 (A0o .u64 y4 z3.1))<32)) (some (wrap .i64 ((wrap .i64 ((wrap .i64 (A0o .u64 y4 z3.1))+1))+z3.1))) (some 65)))
def c1N:FSem:=⟨[.v QI,.v QI],[.v QI],b4l⟩
def d2B:Hints:=⟨[],[(6,[Qn [0,1,.sv 13 .bool]])],[]⟩
def b8J(s:Z53):Option (Z53 ⊕ (Int×Unit)):=(fun(a:LI)(b c:Int)=>cond (decide (c<b)) ((m0k a c).bind fun x1=>(b4l (s.1,x1)).bind fun y2=>some (.inl (s.1,wrap .i64 (s.2.1+y2),a,b,wrap .i64 (c+1),()))) (some (.inr (s.2.1,())))) s.2.2.1 s.2.2.2.1 s.2.2.2.2.1
def a7B(x:(Int×LI)):Option Int:=(y0s b8J (x.1,0,x.2,(x.2.length:Int),0,())).bind fun w3=>some w3.1
def c3z:FSem:=⟨[.v QI,.v QL],[.v QI],a7B⟩
def d2C:Hints:=⟨[(58,[0,5,.sv 8 QL,9,10],[Qe 0 [5]])],[],[]⟩
def b5A(s:c3e):Option (c3e ⊕ (Int×Unit)):=(fun(a:LI)(b c d:Int)(e:LI)(f:Z4)=>cond (decide (d<c)) (cond ((decide (0≤d))&&(decide (d<(e.length:Int)))) (cond ((decide (0≤(a03 e (a00 d) 0)))&&(decide ((a03 e (a00 d) 0)≤(a.length:Int)))) (cond ((decide (0≤(a03 e (a00 d) 0)))&&(decide ((a03 e (a00 d) 0)≤(a.length:Int)))) ((m0k f.2.1 d).bind fun x5=>cond (x5==31) ((b0X (a06 (a00 (a03 e (a00 d) 0)) a)).bind fun y6=>some (.inl (a07 (a00 (a03 e (a00 d) 0)) (a06 (a02 a) a),wrap .i64 (b+(wrap .i64 (5+y6))),c,wrap .i64 (d+1),e,f,()))) ((m0k f.2.1 d).bind fun x7=>(a7B (x7,a06 (a00 (a03 e (a00 d) 0)) a)).bind fun y8=>some (.inl (a07 (a00 (a03 e (a00 d) 0)) (a06 (a02 a) a),wrap .i64 (b+(wrap .i64 (5+y8))),c,wrap .i64 (d+1),e,f,())))) none) none) none) (some (.inr (b,())))) s.1 s.2.1 s.2.2.1 s.2.2.2.1 s.2.2.2.2.1 s.2.2.2.2.2.1
def a9D(x:Z68):Option Int:=(fun(a b:Int)=>(show Option (Int×(Int×(LI×Z44)))from(a6U (x.1,a,b)).bind fun y1=>cond (!y1) (some (a,b,x.2.2.2,true,x.1,())) ((a8Z (a,b,x.2.2.2)).bind fun y2=>some (a,b,x.2.2.2,!y2,x.1,()))).bind fun z3=>cond z3.2.2.2.1 (some 0) ((a2s (z3.2.2.2.2.1.1,z3.1,z3.2.1)).bind fun y4=>(y0s b5A (z3.2.2.1,4,(y4.length:Int),0,y4,z3.2.2.2.2.1,())).bind fun w9=>some w9.1)) x.2.1 x.2.2.1
def b9U:FSem:=⟨[.v Q9,.v QI,.v QI,.v QL],[.v QI],a9D⟩
def d2D:Hints:=⟨[(122,[.sv 3 QL,9,30,31,.own 29 1029 QI,.vp 4 Q9],[Qe 0 [9]])],[(6,[Qn [1,2,.sv 3 QL,.sv 24 .bool,.vp 4 Q9]])],[]⟩
def b7d(s:Z34):Option (Z34 ⊕ (Int×Unit)):=(fun(a b:Int)=>cond (decide (b≤25)) ((a7B (b,s.1)).bind fun y2=>cond (decide (y2<a)) (some (.inl (s.1,b,y2,wrap .i64 (b+1),()))) (some (.inl (s.1,s.2.1,a,wrap .i64 (b+1),())))) (some (.inr (s.2.1,())))) s.2.2.1 s.2.2.2.1
def b4m(x:LI):Option Int:=(a7B (0,x)).bind fun y1=>(y0s b7d (x,0,y1,1,())).bind fun w3=>some w3.1
def c1O:FSem:=⟨[.v QL],[.v QI],b4m⟩
def d2E:Hints:=⟨[(58,[.sv 0 QL,3,4,5],[Qe 0 [3]])],[],[]⟩
def b1n(x:LI):Option Int:=(b4m x).bind fun y1=>(b0X x).bind fun y2=>(a7B (y1,x)).bind fun y3=>cond (decide (y2<y3)) (some 31) (some y1)
def b7e:FSem:=⟨[.v QL],[.v QI],b1n⟩
def b5B(s:(Int×(Int×(Int×(LI×(Int×(Int×(LI×(Int×(Int×(LI×c3f))))))))))):Option ((Int×(Int×(Int×(LI×(Int×(Int×(LI×(Int×(Int×(LI×c3f)))))))))) ⊕ (Int×(Int×(Int×(LI×(Int×Int×c3f)))))):=(fun(a:Int)(b:LI)(c d:Int)(e:LI)(f g:Int)(h:LI)(i j k:Z4)=>cond (decide (g<f)) (cond ((decide (0≤g))&&(decide (g<(h.length:Int)))) (cond ((decide (0≤(a03 h (a00 g) 0)))&&(decide ((a03 h (a00 g) 0)≤(e.length:Int)))) ((b1n (a06 (a00 (a03 h (a00 g) 0)) e)).bind fun y3=>cond (lim ((a02 k.2.1)+1)) (cond ((decide (0≤(a03 h (a00 g) 0)))&&(decide ((a03 h (a00 g) 0)≤(e.length:Int)))) (some (.inl (s.1,s.2.1,a,b,c,d,a07 (a00 (a03 h (a00 g) 0)) (a06 (a02 e) e),f,wrap .i64 (g+1),h,i,j,(k.1,a04 k.2.1 [y3],k.2.2),()))) none) none) none) none) (some (.inr (s.1,s.2.1,a,b,c,d,i,j,k,())))) s.2.2.1 s.2.2.2.1 s.2.2.2.2.1 s.2.2.2.2.2.1 s.2.2.2.2.2.2.1 s.2.2.2.2.2.2.2.1 s.2.2.2.2.2.2.2.2.1 s.2.2.2.2.2.2.2.2.2.1 s.2.2.2.2.2.2.2.2.2.2.1 s.2.2.2.2.2.2.2.2.2.2.2.1 s.2.2.2.2.2.2.2.2.2.2.2.2.1
def b5C(s:(Int×(Int×(Int×(LI×(Int×Int×Z93)))))):Option ((Int×(Int×(Int×(LI×(Int×Int×Z93))))) ⊕ Z93):=(fun(a b:Int)(c:LI)(d e:Int)(f g:Z4)=>cond (decide (e≤(v0s (v0r b 0) 8))) ((a2s (e,s.1,a)).bind fun y2=>cond ((y2.length:Int)==0) (some (.inl (s.1,a,b,c,d,wrap .i64 (e+1),f,g,()))) ((y0s b5B (s.1,a,b,c,d,e,c,(y2.length:Int),0,y2,f,g,(e,[],()),())).bind fun w4=>(a9D (w4.2.2.2.2.2.2.2.2.1,w4.1,w4.2.1,w4.2.2.2.1)).bind fun y5=>(show Option (Int×(Int×(Int×(LI×(Int×Int×Int×Bool×c3f)))))from cond (w4.2.2.2.2.1==0) (some (w4.1,w4.2.1,w4.2.2.1,w4.2.2.2.1,w4.2.2.2.2.1,w4.2.2.2.2.2.1,y5,true,w4.2.2.2.2.2.2.1,w4.2.2.2.2.2.2.2.1,w4.2.2.2.2.2.2.2.2.1,())) (some (w4.1,w4.2.1,w4.2.2.1,w4.2.2.2.1,w4.2.2.2.2.1,w4.2.2.2.2.2.1,y5,decide (y5<w4.2.2.2.2.1),w4.2.2.2.2.2.2.1,w4.2.2.2.2.2.2.2.1,w4.2.2.2.2.2.2.2.2.1,()))).bind fun z6=>cond z6.2.2.2.2.2.2.2.1 (some (.inl (z6.1,z6.2.1,z6.2.2.1,z6.2.2.2.1,z6.2.2.2.2.2.2.1,wrap .i64 (z6.2.2.2.2.2.1+1),z6.2.2.2.2.2.2.2.2.1,z6.2.2.2.2.2.2.2.2.2.2.1,()))) (some (.inl (z6.1,z6.2.1,z6.2.2.1,z6.2.2.2.1,z6.2.2.2.2.1,wrap .i64 (z6.2.2.2.2.2.1+1),z6.2.2.2.2.2.2.2.2.1,z6.2.2.2.2.2.2.2.2.2.1,()))))) (some (.inr (f,g,())))) s.2.1 s.2.2.1 s.2.2.2.1 s.2.2.2.2.1 s.2.2.2.2.2.1 s.2.2.2.2.2.2.1 s.2.2.2.2.2.2.2.1
def b2J(x:(Int×Z1)):Option (Z4×Int):=(a8Z (x.1,x.2.1,x.2.2.2)).bind fun y1=>cond (!y1) (some ((0,[],()),1)) ((y0s b5C (x.1,x.2.1,x.2.2.1,x.2.2.2,0,0,(0,[],()),(0,[],()),())).bind fun w7=>some (w7.2.1,0))
def b9V:FSem:=⟨[.v QI,.v QI,.v QI,.v QL],[.v Q9,.v QI],b2J⟩
def d2F:Hints:=⟨[(250,[0,1,2,.sv 3 QL,11,12,.box 8 Q9,.box 10 Q9,Qp 8 8,Qp 10 10],[Qe 0 [.box 8 Q9,.box 10 Q9,Qp 8 8,Qp 10 10]]),(512634,[0,1,2,.sv 3 QL,11,12,.sv 15 QL,43,44,.own 42 13 QI,.box 8 Q9,.box 10 Q9,.box 14 Q8,Qp 8 8,Qp 10 10,Qp 14 14],[Qe 2 [0,1,2,.sv 3 QL,11,12,.box 8 Q9,.box 10 Q9,.box 14 Q8,Qp 8 8,Qp 10 10,Qp 14 14]])],[(256319,[Qn [0,1,2,.sv 3 QL,11,12,18,.sv 72 .bool,.box 8 Q9,.box 10 Q9,.box 14 Q9,Qp 8 8,Qp 10 10,Qp 14 14]])],[(15,[.q,.q,.v,.v,.v,.v,.q,.x,.x,.x])]⟩
def b8K(s:(LI×(LI×c3q))):Option ((LI×(LI×c3q)) ⊕ ((LI×a9z) ⊕ (Int×b1L))):=(fun(a b:Int)(c d:a0W)=>cond (decide (b<a)) ((m0k s.2.1 b).bind fun x5=>(m0k s.1 0).bind fun x6=>cond (x5 != x6) (some (.inr (Sum.inr ((7,(0,0,0,0,0,[],a01 3 0,[],[],(0,[],()),[],()),()))))) (some (.inl (s.1,s.2.1,a,wrap .i64 (b+1),c,d,())))) (some (.inr (Sum.inl (s.1,c,d,()))))) s.2.2.1 s.2.2.2.1 s.2.2.2.2.1 s.2.2.2.2.2.1
def b5D(x:(Int×(LI×a0W))):Option a7w:=(fun(a:Int)(b:LI)=>(show Option (Int×(LI×(Int×Bool×a9z)))from cond (decide ((b.length:Int)<1)) (some (a,b,(b.length:Int),true,(0,0,0,0,0,[],a01 3 0,[],[],(0,[],()),[],()),x.2.2,())) (cond (decide ((b.length:Int) > 4096)) (some (a,b,(b.length:Int),true,(0,0,0,0,0,[],a01 3 0,[],[],(0,[],()),[],()),x.2.2,())) ((a7s (a,x.2.2,(b.length:Int))).bind fun y1=>some (a,b,(b.length:Int),!y1,(0,0,0,0,0,[],a01 3 0,[],[],(0,[],()),[],()),x.2.2,())))).bind fun z2=>cond z2.2.2.2.1 (some ((0,0,0,0,0,[],a01 3 0,[],[],(0,[],()),[],()),1)) ((a2r z2.2.1).bind fun y3=>cond (!y3) (some ((0,0,0,0,0,[],a01 3 0,[],[],(0,[],()),[],()),6)) ((a7z (z2.1,z2.2.2.2.2.2.1)).bind fun y4=>cond (z2.1==0) ((y0s b8K (z2.2.1,z2.2.1,(z2.2.1.length:Int),0,z2.2.2.2.2.1,y4,())).bind fun w7=>match w7 with |.inl a8=>((m0k a8.1 0).bind fun x10=>some ((a8.2.2.1.1,a8.2.2.1.2.1,a8.2.2.1.2.2.1,a8.2.2.1.2.2.2.1,a8.2.2.1.2.2.2.2.1,a8.2.2.1.2.2.2.2.2.1,a8.2.2.1.2.2.2.2.2.2.1,a8.2.2.1.2.2.2.2.2.2.2.1,[x10],a8.2.2.1.2.2.2.2.2.2.2.2.2),0)) |.inr b9=>some (b9.2.1,b9.1)) ((a7y z2.2.1).bind fun y11=>(a8X (z2.2.1,y11)).bind fun y12=>cond (y12.2 != 0) (some ((0,0,0,0,0,[],a01 3 0,[],[],(0,[],()),[],()),6)) (cond (z2.1==1) (some ((y4.1,y11,y4.2.2.1,y4.2.2.2.1,y4.2.2.2.2.1,y4.2.2.2.2.2.1,y4.2.2.2.2.2.2.1,y4.2.2.2.2.2.2.2.1,y12.1,y4.2.2.2.2.2.2.2.2.2),0)) ((b4k ((y4.1,y11,y4.2.2),y12.1)).bind fun y13=>cond (y13.1 != 0) (some ((0,0,0,0,0,[],a01 3 0,[],[],(0,[],()),[],()),6)) ((b2J (z2.2.2.1,(y13.2.2.2.2.2.2.2.2.2.1.length:Int),6,y13.2.2.2.2.2.2.2.2.2.2.2.1)).bind fun y14=>cond (y14.2 != 0) (some ((0,0,0,0,0,[],a01 3 0,[],[],(0,[],()),[],()),6)) (some ((y13.2.1,y13.2.2.1,y13.2.2.2.1,y13.2.2.2.2.1,y13.2.2.2.2.2.1,y13.2.2.2.2.2.2.1,y13.2.2.2.2.2.2.2.1,y13.2.2.2.2.2.2.2.2.1,y13.2.2.2.2.2.2.2.2.2.1,y14.1,y13.2.2.2.2.2.2.2.2.2.2.2),0))))))))) x.1 x.2.1
def c3A:FSem:=⟨[.v QI,.v QL,.v Q50],[.v Q50,.v QI],b5D⟩
def H58:Hints:=⟨[(4050,[.sv 1 QL,.sv 39 QL,40,41,.box 6 Q50,.box 9 Q50,Qp 6 6,Qp 9 9],[Qe 0 [.sv 1 QL,.box 6 Q50,.box 9 Q50,Qp 6 6,Qp 9 9],Qr [7,.box 6 Q50,Qp 6 6]])],[(14,[Qn [0,.sv 1 QL,8,.sv 28 .bool,.box 6 Q50,.vp 5 Q50,Qp 6 6]])],[]⟩
def a4H(x:Int):Option Bool:=cond (x != 0) (some (x != 1)) (some false)
def b9W:FSem:=⟨[.v QI],[.v .bool],a4H⟩
def a8z(x:a0W):Option Bool:=(a7z (x.1,x)).bind fun y1=>cond (x.2.2.1==y1.2.2.1) (cond (x.2.2.2.1==y1.2.2.2.1) (cond (x.2.2.2.2.1==y1.2.2.2.2.1) (cond (eqT (.arr 3 (.int .i64)) x.2.2.2.2.2.2.1 y1.2.2.2.2.2.2.1) (cond ((x.2.2.2.2.2.1.length:Int)==(y1.2.2.2.2.2.1.length:Int)) (some ((x.2.2.2.2.2.2.2.1.length:Int)==(y1.2.2.2.2.2.2.2.1.length:Int))) (some false)) (some false)) (some false)) (some false)) (some false)
def c1P:FSem:=⟨[.v Q50],[.v .bool],a8z⟩
def a7C(x:a7w):Option Bool:=(show Option b6V from cond (decide (x.2<1)) (some (x.2,true,x.1,())) (cond (decide (x.2 > 4096)) (some (x.2,true,x.1,())) ((a7s (x.1.1,x.1,x.2)).bind fun y1=>cond (!y1) (some (x.2,true,x.1,())) ((a8z x.1).bind fun y2=>some (x.2,!y2,x.1,()))))).bind fun z3=>cond z3.2.1 (some false) ((show Option b6V from cond (decide (z3.2.2.1.2.1<0)) (some (z3.1,true,z3.2.2.1,())) (cond (decide (z3.2.2.1.2.1 > 30)) (some (z3.1,true,z3.2.2.1,())) (cond (z3.2.2.1.1==0) (some (z3.1,z3.2.2.1.2.1 != 0,z3.2.2.1,())) (some (z3.1,false,z3.2.2.1,()))))).bind fun z4=>cond z4.2.1 (some false) ((a4F (z4.2.2.1,z4.1)).bind fun y5=>(show Option c3j from cond ((z4.2.2.1.2.2.2.2.2.2.2.2.1.length:Int) != y5) (some (z4.1,y5,true,z4.2.2.1,())) ((a2r z4.2.2.1.2.2.2.2.2.2.2.2.1).bind fun y6=>cond (!y6) (some (z4.1,y5,true,z4.2.2.1,())) ((a2r z4.2.2.1.2.2.2.2.2.2.2.2.2.2.1).bind fun y7=>some (z4.1,y5,!y7,z4.2.2.1,())))).bind fun z8=>cond z8.2.2.1 (some false) ((a4H z8.2.2.2.1.1).bind fun y9=>cond (!y9) (cond ((z8.2.2.2.1.2.2.2.2.2.2.2.2.2.2.1.length:Int)==0) (cond (z8.2.2.2.1.2.2.2.2.2.2.2.2.2.1.1==0) (some ((z8.2.2.2.1.2.2.2.2.2.2.2.2.2.1.2.1.length:Int)==0)) (some false)) (some false)) (cond ((z8.2.2.2.1.2.2.2.2.2.2.2.2.2.2.1.length:Int)==(wrap .i64 (z8.1-z8.2.1))) ((a6U (z8.2.2.2.1.2.2.2.2.2.2.2.2.2.1,z8.1,z8.2.1)).bind fun y10=>some y10) (some false)))))
def b9X:FSem:=⟨[.v Q50,.v QI],[.v .bool],a7C⟩
def H75:Hints:=⟨[],[(6,[Qn [1,.sv 24 .bool,.vp 2 Q50]]),(14,[Qn [1,.sv 42 .bool,.vp 2 Q50]]),(62,[Qn [1,5,.sv 62 .bool,.vp 2 Q50]])],[]⟩
def a1b(x:(Int×LI)):Option (Int×LI):=(m0k x.2 (wrap .i64 ((x.2.length:Int)-x.1))).bind fun x1=>some (x1,x.2)
def b5E:FSem:=⟨[.v QI,.r false (.b QL)],[.v QI],a1b⟩
def a7d(x:(LI×Int)):Option Int:=cond (x.2==1) ((a1b (1,x.1)).bind fun y1=>some y1.1) (cond (x.2==2) ((a1b (1,x.1)).bind fun y2=>(a1b (2,y2.2)).bind fun y3=>some (wrap .i64 ((wrap .i64 (2*y2.1))-y3.1))) (cond (x.2==3) ((a1b (1,x.1)).bind fun y4=>(a1b (2,y4.2)).bind fun y5=>(a1b (3,y5.2)).bind fun y6=>some (wrap .i64 ((wrap .i64 ((wrap .i64 (3*y4.1))-(wrap .i64 (3*y5.1))))+y6.1))) (cond (x.2==4) ((a1b (1,x.1)).bind fun y7=>(a1b (2,y7.2)).bind fun y8=>(a1b (3,y8.2)).bind fun y9=>(a1b (4,y9.2)).bind fun y10=>some (wrap .i64 ((wrap .i64 ((wrap .i64 ((wrap .i64 (4*y7.1))-(wrap .i64 (6*y8.1))))+(wrap .i64 (4*y9.1))))-y10.1))) (some 0))))
def b8L:FSem:=⟨[.v QL,.v QI],[.v QI],a7d⟩
def a5Q(s:Z67):Option (Z67 ⊕ Z51):=(fun(a b:Int)(c:LI)=>cond (decide (b<a)) ((m0k s.2.1 b).bind fun x5=>(a7d (c,s.1)).bind fun y6=>(a2h [wrap .i64 (x5+y6)]).bind fun y7=>cond (!y7) (some (.inr (Sum.inr ((6,[],()))))) (cond (lim ((a02 c)+1)) (some (.inl (s.1,s.2.1,a,wrap .i64 (b+1),a04 c [wrap .i64 (x5+y6)],()))) none)) (some (.inr (Sum.inl (c,()))))) s.2.2.1 s.2.2.2.1 s.2.2.2.2.1
def a7D(x:Z11):Option (LI×Int):=(show Option Z54 from cond (decide (x.2.2<0)) (some (x.1,x.2.1,x.2.2,true,())) (cond (decide (x.2.2 > 4)) (some (x.1,x.2.1,x.2.2,true,())) (some (x.1,x.2.1,x.2.2,(x.1.length:Int) != x.2.2,())))).bind fun z1=>cond z1.2.2.2.1 (some ([],1)) ((show Option Z54 from(a2h z1.1).bind fun y2=>cond (!y2) (some (z1.1,z1.2.1,z1.2.2.1,true,())) ((a2h z1.2.1).bind fun y3=>some (z1.1,z1.2.1,z1.2.2.1,!y3,()))).bind fun z4=>cond z4.2.2.2.1 (some ([],6)) (cond (lim (a02 z4.1)) ((y0s a5Q (z4.2.2.1,z4.2.1,(z4.2.1.length:Int),0,z4.1,())).bind fun w8=>match w8 with |.inl a9=>some (a9.1,0) |.inr b10=>some (b10.2.1,b10.1)) none))
def b9Y:FSem:=⟨[.v QL,.v QL,.v QI],[.o QI,.v QI],a7D⟩
def d2G:Hints:=⟨[(250,[2,.sv 34 QL,35,36,.own 8 8 QI],[Qe 0 [.own 8 8 QI],Qr [7,.own 6 6 QI]])],[(6,[Qn [.sv 0 QL,.sv 1 QL,2,.sv 23 .bool]]),(14,[Qn [.sv 0 QL,.sv 1 QL,2,.sv 31 .bool]])],[]⟩
def a5b(s:(LI×Z67)):Option ((LI×Z67) ⊕ Z51):=(fun(a:LI)(b c:Int)(d:LI)=>cond (decide (c<b)) ((m0k a c).bind fun x6=>(a3B (d,s.1,s.2.1)).bind fun y7=>(a3P (wrap .i64 (y7+x6))).bind fun y8=>cond (!y8) (some (.inr (Sum.inr ((6,[],()))))) (cond (lim ((a02 d)+1)) (some (.inl (s.1,s.2.1,a,b,wrap .i64 (c+1),a04 d [wrap .i64 (y7+x6)],()))) none)) (some (.inr (Sum.inl (d,()))))) s.2.2.1 s.2.2.2.1 s.2.2.2.2.1 s.2.2.2.2.2.1
def a5n(x:(LI×Z11)):Option (LI×Int):=(show Option Z87 from(a3A (x.2.2.1,x.2.2.2)).bind fun y1=>cond (!y1) (some (x.1,x.2.1,x.2.2.1,x.2.2.2,true,())) (some (x.1,x.2.1,x.2.2.1,x.2.2.2,(x.1.length:Int) != (x.2.2.1.length:Int),()))).bind fun z2=>cond z2.2.2.2.2.1 (some ([],1)) ((show Option Z87 from(a2b z2.1).bind fun y3=>cond (!y3) (some (z2.1,z2.2.1,z2.2.2.1,z2.2.2.2.1,true,())) ((a2b z2.2.1).bind fun y4=>some (z2.1,z2.2.1,z2.2.2.1,z2.2.2.2.1,!y4,()))).bind fun z5=>cond z5.2.2.2.2.1 (some ([],6)) (cond ((decide (0≤(wrap .i64 ((z5.1.length:Int)+(z5.2.1.length:Int)))))&&(lim (a00 (wrap .i64 ((z5.1.length:Int)+(z5.2.1.length:Int)))))) (cond (lim (0+(a02 z5.1))) ((y0s a5b (z5.2.2.1,z5.2.2.2.1,z5.2.1,(z5.2.1.length:Int),0,a04 [] z5.1,())).bind fun w9=>match w9 with |.inl a10=>some (a10.1,0) |.inr b11=>some (b11.2.1,b11.1)) none) none))
def b8M:FSem:=⟨[.v QL,.v QL,.v QL,.v QI],[.o QI,.v QI],a5n⟩
def d2H:Hints:=⟨[(506,[.sv 2 QL,3,.sv 42 QL,43,44,.own 10 10 QI],[Qe 0 [.own 10 10 QI],Qr [9,.own 8 8 QI]])],[(6,[Qn [.sv 0 QL,.sv 1 QL,.sv 2 QL,3,.sv 24 .bool]]),(14,[Qn [.sv 0 QL,.sv 1 QL,.sv 2 QL,3,.sv 32 .bool]])],[]⟩
def a6y(s:Z98):Option (Z98 ⊕ Z51):=(fun(a b:Int)(c d:LI)=>cond (decide (b<a)) ((m0k s.2.1 b).bind fun x3=>(a3t (c,b,s.1,d)).bind fun y4=>(a5F (wrap .i64 (x3+y4))).bind fun y5=>cond (!y5) (some (.inr (Sum.inr ((6,[],()))))) (cond (lim ((a02 c)+1)) (some (.inl (s.1,s.2.1,a,wrap .i64 (b+1),a04 c [wrap .i64 (x3+y4)],d,()))) none)) (some (.inr (Sum.inl (c,()))))) s.2.2.1 s.2.2.2.1 s.2.2.2.2.1 s.2.2.2.2.2.1
def a8A(x:Z12):Option (LI×Int):=(a6x (x.2.1,x.2.2)).bind fun y1=>cond (!y1) (some ([],1)) ((a3s x.1).bind fun y2=>cond (!y2) (some ([],6)) (cond ((decide (0≤(x.1.length:Int)))&&(lim (a00 (x.1.length:Int)))) ((y0s a6y (x.2.1,x.1,(x.1.length:Int),0,[],x.2.2,())).bind fun w6=>match w6 with |.inl a7=>some (a7.1,0) |.inr b8=>some (b8.2.1,b8.1)) none))
def c1Q:FSem:=⟨[.v QL,.v QI,.v (.arr 3 QI)],[.o QI,.v QI],a8A⟩
def d2I:Hints:=⟨[(250,[1,.sv 22 QL,23,24,.own 8 8 QI,.vp 5 (.arr 3 QI)],[Qe 0 [.own 8 8 QI],Qr [7,.own 6 6 QI]])],[],[]⟩
def a3V(s:(Int×(Int×(LI×Z99)))):Option ((Int×(Int×(LI×Z99))) ⊕ (Z29 ⊕ Z29)):=(fun(a:Int)(b:LI)(c:Int)(d:LI)=>cond (decide (a<s.1)) (cond ((decide (0≤a))&&(decide (a<(d.length:Int)))) ((a1P s.2.2.2.2.2.1).bind fun y6=>(a4G (wrap .i64 (y6.1+(a03 d (a00 a) 0)))).bind fun y7=>cond (!y7) (some (.inr (Sum.inr (([],6,d,()))))) ((a2B (y6.2,wrap .i64 (y6.1+(a03 d (a00 a) 0)))).bind fun y8=>cond ((decide (0≤a))&&(decide (a<(d.length:Int)))) (some (.inl (s.1,wrap .i64 (a+1),b,c,a05 d (a00 a) (wrap .i64 (y6.1+(a03 d (a00 a) 0))),y8,()))) none)) none) (some (.inr (Sum.inl (b,c,d,()))))) s.2.1 s.2.2.1 s.2.2.2.1 s.2.2.2.2.1
def a5R(k:Int)(v:(Int×Int×Unit))(s:(Z6×Z29)):Option ((Z6×Z29) ⊕ (Ex×Z6×Z29)):=(a6T v).bind fun y4=>cond (y4.2 != 0) (some (.inr (.ret,s.1,[],y4.2,s.2.2.2.1,()))) ((y0s a3V ((s.2.2.2.1.length:Int),0,s.2.1,s.2.2.1,s.2.2.2.1,y4.1,())).bind fun w9=>match w9 with |.inl a10=>some (.inl (s.1,a10.1,a10.2.1,a10.2.2.1,())) |.inr b11=>some (.inr (.ret,s.1,b11.1,b11.2.1,b11.2.2.1,())))
def a7E(x:(LI×Z6)):Option (LI×Int):=(a5E x.2).bind fun y1=>cond (!y1) (some ([],1)) ((a3T x.1).bind fun y2=>cond (!y2) (some ([],6)) ((a0X x.1).bind fun y3=>cond (lim (a02 x.2)) ((l0f a5R x.2 (a02 x.2) (x.2,[],0,y3,())).bind fun w12=>match w12 with |.inl a13=>some (a13.2.2.2.1,0) |.inr (.normal,a14)=>some (a14.2.2.2.1,0) |.inr (.exit e15,a14)=>(cond (e15==0) (some (a14.2.2.2.1,0)) none) |.inr (.ret,a14)=>some (a14.2.1,a14.2.2.1)) none))
def a7F:FSem:=⟨[.v QL,.v (.list false Q5)],[.v QL,.v QI],a7E⟩
def d2J:Hints:=⟨[(8046,[35,36,.box 1001004 QL,.box 1001005 QI,.box 1001006 (.list true QI),.box 1028 Q14,Qp 4 1001004,Qp 5 1001005,Qp 6 1001006,Qp 9 1028,.ref 34 1001006 []],[Qe 2 [.box 1001004 QL,.box 1001005 QI,.box 1001006 (.list true QI),Qp 4 1001004,Qp 5 1001005,Qp 6 1001006],Qr [.box 1001004 QL,.box 1001005 QI,.box 1001006 (.list true QI),Qp 4 1001004,Qp 5 1001005,Qp 6 1001006]])],[],[]⟩
def c6F:Cx:=b2E [(192,a1E),(201,b4i),(247,b0C),(249,b4j),(250,a7A),(251,b2H),(252,a8c)] [(6,.list true QI)] 15875 72057594037927936
def c8g:HintR:=⟨22,Q5,248,291,[4,5,6],[.sv 22 (.list false Q5),.box 1001004 QL,.box 1001005 QI,.box 1001006 (.list true QI),.ptr 4 1001004 [],.ptr 5 1001005 [],.ptr 6 1001006 []]⟩
theorem c8P(x):z0h c6F d2J c8g Tryz.f162 a7F.ps a7F.rs x=a7F.F x:=by kernel_rfl
def a6z(s:Z67):Option (Z67 ⊕ Z51):=(fun(a:Int)(b:LI)(c d:Int)(e:LI)=>cond (decide (d<c)) ((m0k b d).bind fun x2=>(show Option (Int×(Int×(LI×Z38)))from(a3O x2).bind fun y3=>cond (!y3) (some (a,x2,b,c,d,true,e,())) (cond (decide (a<0)) none ((a3O (A0n .i64 x2 a)).bind fun y4=>some (a,x2,b,c,d,!y4,e,())))).bind fun z5=>cond z5.2.2.2.2.2.1 (some (.inr (Sum.inr ((6,[],()))))) (cond (decide (z5.1<0)) none (cond (lim ((a02 z5.2.2.2.2.2.2.1)+1)) (some (.inl (z5.1,z5.2.2.1,z5.2.2.2.1,wrap .i64 (z5.2.2.2.2.1+1),a04 z5.2.2.2.2.2.2.1 [A0n .i64 z5.2.1 z5.1],()))) none))) (some (.inr (Sum.inl (e,()))))) s.1 s.2.1 s.2.2.1 s.2.2.2.1 s.2.2.2.2.1
def a6V(x:(LI×Int)):Option (LI×Int):=(show Option Z21 from cond (decide (x.2<0)) (some (x.1,x.2,true,())) (some (x.1,x.2,decide (x.2 > 30),()))).bind fun z1=>cond z1.2.2.1 (some ([],1)) ((y0s a6z (z1.2.1,z1.1,(z1.1.length:Int),0,[],())).bind fun w6=>match w6 with |.inl a7=>some (a7.1,0) |.inr b8=>some (b8.2.1,b8.1))
def c1R:FSem:=⟨[.v QL,.v QI],[.o QI,.v QI],a6V⟩
def d2K:Hints:=⟨[(122,[1,.sv 15 QL,16,17,.own 6 6 QI],[Qe 0 [.own 6 6 QI],Qr [5,.own 4 4 QI]])],[(6,[Qn [.sv 0 QL,1,.sv 14 .bool]]),(15666,[Qn [1,8,.sv 15 QL,16,17,.sv 30 .bool,.own 6 6 QI]])],[]⟩
def a5o(s:c3k):Option (c3k ⊕ (LI×Unit)):=cond (decide (s.2.1<s.1)) ((m0k s.2.2.2.1.2.2.2.2.2.2.2.2.1 0).bind fun x1=>cond (lim ((a02 s.2.2.1)+1)) (some (.inl (s.1,wrap .i64 (s.2.1+1),a04 s.2.2.1 [x1],s.2.2.2.1,()))) none) (some (.inr (s.2.2.1,())))
def a9m(x:a7w):Option (LI×Int):=(show Option ((LI×(Int×b1L)) ⊕ Z4)from cond (x.1.1==0) ((y0s a5o (x.2,0,[],x.1,())).bind fun w2=>some (Sum.inr ((0,w2.1,())))) (cond (x.1.1==1) (some (Sum.inl (x.1.2.2.2.2.2.2.2.2.1,0,x.1,()))) (cond (x.1.1==2) ((a7D (x.1.2.2.2.2.2.2.2.2.1,x.1.2.2.2.2.2.2.2.2.2.2.1,x.1.2.2.1)).bind fun y3=>some (Sum.inl (y3.1,y3.2,x.1,()))) (cond (x.1.1==3) ((a5n (x.1.2.2.2.2.2.2.2.2.1,x.1.2.2.2.2.2.2.2.2.2.2.1,x.1.2.2.2.2.2.1,x.1.2.2.2.1)).bind fun y4=>some (Sum.inl (y4.1,y4.2,x.1,()))) (cond (x.1.1==4) ((a5n (x.1.2.2.2.2.2.2.2.2.1,x.1.2.2.2.2.2.2.2.2.2.2.1,x.1.2.2.2.2.2.1,x.1.2.2.2.1)).bind fun y5=>cond (y5.2==0) ((a8A (y5.1,x.1.2.2.2.2.1,x.1.2.2.2.2.2.2.1)).bind fun y6=>some (Sum.inl (y6.1,y6.2,x.1,()))) (some (Sum.inl (y5.1,y5.2,x.1,())))) (cond (x.1.1==5) ((a7E (x.1.2.2.2.2.2.2.2.2.2.2.1,x.1.2.2.2.2.2.2.2.1)).bind fun y7=>some (Sum.inl (y7.1,y7.2,x.1,()))) (some (Sum.inl ([],0,x.1,()))))))))).bind fun z8=>match z8 with |.inl a9=>(cond (a9.2.1 != 0) (some ([],a9.2.1)) ((a6V (a9.1,a9.2.2.1.2.1)).bind fun y11=>some (y11.1,y11.2))) |.inr b10=>some (b10.2.1,b10.1)
def c3B:FSem:=⟨[.v Q50,.v QI],[.o QI,.v QI],a9m⟩
def H76:Hints:=⟨[(3922,[12,13,.own 6 6 QI,.vp 2 Q50],[Qe 1 [.own 6 6 QI]])],[(15,[Qn [.sv 6 QL,7,.vp 2 Q50],Qr [5,.own 4 6 QI]])],[]⟩
def a8P(x:a7w):Option (LI×Int):=(a7C (x.1,x.2)).bind fun y1=>cond (!y1) (some ([],1)) ((a9m (x.1,x.2)).bind fun y2=>cond (y2.2 != 0) (some ([],1)) (some (y2.1,0)))
def c4M:FSem:=⟨[.v Q50,.v QI],[.o QI,.v QI],a8P⟩
def a6j(x:a7w):Option Bool:=(a8P (x.1,x.2)).bind fun y1=>some (y1.2==0)
def c4N:FSem:=⟨[.v Q50,.v QI],[.v .bool],a6j⟩
def a3j(x:(Z5×Int)):Option Z5:=(show Option Z39 from cond ((a08 x.1.2.1 8)==0) (cond (lim ((a02 x.1.1)+1)) (some (x.2,(a04 x.1.1 [0],x.1.2),())) none) (some (x.2,x.1,()))).bind fun z1=>cond ((decide (0≤(wrap .i64 (a09 z1.2.1.2.1 8))))&&(decide ((wrap .i64 (a09 z1.2.1.2.1 8))<(z1.2.1.1.length:Int)))) (cond (decide ((wrap .i64 (7-(a08 z1.2.1.2.1 8)))<0)) none (cond ((decide (0≤(wrap .i64 (a09 z1.2.1.2.1 8))))&&(decide ((wrap .i64 (a09 z1.2.1.2.1 8))<(z1.2.1.1.length:Int)))) (some (a05 z1.2.1.1 (a00 (wrap .i64 (a09 z1.2.1.2.1 8))) (bits .u8 .or (a03 z1.2.1.1 (a00 (wrap .i64 (a09 z1.2.1.2.1 8))) 0) (A0n .u8 z1.1 (wrap .i64 (7-(a08 z1.2.1.2.1 8))))),wrap .i64 (z1.2.1.2.1+1),z1.2.1.2.2)) none)) none
def b3N:FSem:=⟨[.r false (.b Q7),.v QV],[],a3j⟩
def d2L:Hints:=⟨[],[(1,[Qn [.sv 1 QV,.box pinned Q7,Qp 0 pinned]])],[(2,[.p,.p,.q,.q,.p,.p,.q,.q,.v,.q,.q,.v,.p,.p,.q,.q,.v,.v,.v,.x,.x,.x])]⟩
def b1M(s:Z60):Option (Z60 ⊕ Z23):=cond (decide (s.2.1≥0)) (cond (decide (s.2.1<0)) none ((a3j (s.2.2.1,wrap .u8 (bits .u64 .and (A0o .u64 s.1 s.2.1) 1))).bind fun y2=>some (.inl (s.1,wrap .i64 (s.2.1-1),y2,())))) (some (.inr (s.2.2.1,())))
def a0M(x:(Z5×Int×Int)):Option Z18:=(show Option (Int×Int×Bool×Z23)from cond (decide (x.2.2<0)) (some (x.2.1,x.2.2,true,x.1,())) (cond (decide (x.2.2 > 64)) (some (x.2.1,x.2.2,true,x.1,())) (cond (decide (x.2.2<0)) none (some (x.2.1,x.2.2,(A0o .u64 x.2.1 x.2.2) != 0,x.1,()))))).bind fun z1=>cond z1.2.2.1 (some (1,z1.2.2.2.1)) ((y0s b1M (z1.1,wrap .i64 (z1.2.1-1),z1.2.2.2.1,())).bind fun w3=>some (0,w3.1))
def b3O:FSem:=⟨[.r false (.b Q7),.v QU,.v QI],[.v QI],a0M⟩
def d2M:Hints:=⟨[(58,[.sv 1 QU,7,.box pinned Q7,Qp 0 pinned],[Qe 0 [.box pinned Q7]])],[(6,[Qn [.sv 1 QU,2,.sv 19 .bool,.box pinned Q7,Qp 0 pinned]])],[]⟩
def a5S(x:(Z5×Int×Int)):Option Z5:=cond (decide (x.2.2<0)) none ((a0M (x.1,bits .u64 .and (wrap .u64 x.2.1) (wrap .u64 ((A0n .u64 1 x.2.2)-1)),x.2.2)).bind fun y1=>some y1.2)
def b5F:FSem:=⟨[.r false (.b Q7),.v QI,.v QI],[],a5S⟩
def b3P(s:c3b):Option (c3b ⊕ Z23):=(fun(a b:Int)(c:Z5)=>cond (decide (b<a)) ((m0k s.2.1 b).bind fun x6=>(a5S (c,x6,s.1)).bind fun y7=>some (.inl (s.1,s.2.1,a,wrap .i64 (b+1),y7,()))) (some (.inr (c,())))) s.2.2.1 s.2.2.2.1 s.2.2.2.2.1
def b1o(x:(Z5×a0W)):Option Z5:=(fun(a:LI)=>(a0M (x.1,wrap .u64 (wrap .i64 ((a.length:Int)-1)),5)).bind fun y1=>(a0M (y1.2,wrap .u64 x.2.2.2.2.1,4)).bind fun y2=>(a1w a).bind fun y3=>(a0M (y2.2,wrap .u64 y3,5)).bind fun y4=>(y0s b3P (y3,a,(a.length:Int),0,y4.2,())).bind fun w8=>some w8.1) x.2.2.2.2.2.2.1
def b7f:FSem:=⟨[.r false (.b Q7),.v Q50],[],b1o⟩
def d2N:Hints:=⟨[(254,[4,.sv 27 QL,28,29,.box pinned Q7,Qp 0 pinned],[Qe 0 [.box pinned Q7]])],[],[]⟩
def b0Z(s:Z60):Option (Z60 ⊕ Z23):=cond (decide (s.2.1<s.1)) ((a3j (s.2.2.1,0)).bind fun y2=>some (.inl (s.1,wrap .i64 (s.2.1+1),y2,()))) (some (.inr (s.2.2.1,())))
def a5N(x:(Z5×Int)):Option Z18:=(show Option (Int×Bool×Z23)from cond (decide (x.2<0)) (some (x.2,true,x.1,())) (some (x.2,decide (x.2 > 4096),x.1,()))).bind fun z1=>cond z1.2.1 (some (1,z1.2.2.1)) ((y0s b0Z (z1.1,0,z1.2.2.1,())).bind fun w3=>(a3j (w3.1,1)).bind fun y4=>some (0,y4))
def b2u:FSem:=⟨[.r false (.b Q7),.v QI],[.v QI],a5N⟩
def d2O:Hints:=⟨[(58,[11,12,.box pinned Q7,Qp 0 pinned],[Qe 0 [.box pinned Q7,Qp 0 pinned]])],[(6,[Qn [1,.sv 10 .bool,.box pinned Q7,Qp 0 pinned]])],[]⟩
def b8N(s:(Int×(LI×Z91))):Option ((Int×(LI×Z91)) ⊕ ((Int×(LI×Z23)) ⊕ Z39)):=(fun(a:LI)(b c:Int)(d:Z5)=>cond (decide (c<b)) ((m0k a c).bind fun x2=>(a8y x2).bind fun y3=>cond (!y3) (some (.inr (Sum.inr ((1,d,()))))) (some (.inl (s.1,s.2.1,a,b,wrap .i64 (c+1),d,())))) (some (.inr (Sum.inl (s.1,s.2.1,d,()))))) s.2.2.1 s.2.2.2.1 s.2.2.2.2.1 s.2.2.2.2.2.1
def b8O(s:c3b):Option (c3b ⊕ Z23):=(fun(a:Int)(b:LI)(c d:Int)(e:Z5)=>cond (decide (d<c)) ((m0k b d).bind fun x7=>(b0Y x7).bind fun y8=>cond (decide (a<0)) none (cond (decide ((A0o .u64 y8 a)<32)) ((a5N (e,wrap .i64 (A0o .u64 y8 a))).bind fun y9=>cond (decide (a<0)) none ((a0M (y9.2,wrap .u64 (y8-(A0n .u64 (A0o .u64 y8 a) a)),a)).bind fun y10=>some (.inl (a,b,c,wrap .i64 (d+1),y10.2,())))) ((a5N (e,32)).bind fun y11=>(a0M (y11.2,y8,32)).bind fun y12=>some (.inl (a,b,c,wrap .i64 (d+1),y12.2,()))))) (some (.inr (e,())))) s.1 s.2.1 s.2.2.1 s.2.2.2.1 s.2.2.2.2.1
def b5G(x:(Z5×(Int×LI))):Option Z18:=(a2G x.2.1).bind fun y1=>cond (!y1) (some (1,x.1)) ((y0s b8N (x.2.1,x.2.2,x.2.2,(x.2.2.length:Int),0,x.1,())).bind fun w4=>match w4 with |.inl a5=>((y0s b8O (a5.1,a5.2.1,(a5.2.1.length:Int),0,a5.2.2.1,())).bind fun w13=>some (0,w13.1)) |.inr b6=>some (b6.1,b6.2.1))
def c3C:FSem:=⟨[.r false (.b Q7),.v QI,.v QL],[.v QI],b5G⟩
def d2P:Hints:=⟨[(58,[1,.sv 2 QL,.sv 16 QL,17,18,.box pinned Q7,Qp 0 pinned],[Qe 0 [1,.sv 2 QL,.box pinned Q7,Qp 0 pinned],Qr [6,.box pinned Q7]]),(122,[1,.sv 26 QL,27,28,.box pinned Q7,Qp 0 pinned],[Qe 2 [.box pinned Q7]])],[],[]⟩
def b7g(s:(LI×(Int×Int×Int×b9I))):Option ((LI×(Int×Int×Int×b9I)) ⊕ b9I):=(fun(a b c:Int)(d:LI)(e f:Int)(g:LI)(h:Z5)(i:Z4)=>cond (decide (f<e)) ((m0k d f).bind fun x11=>cond (decide (a<0)) none ((a0M (h,bits .u64 .and (wrap .u64 x11) (wrap .u64 ((A0n .u64 1 a)-1)),a)).bind fun y12=>some (.inl (s.1,a,b,c,d,e,wrap .i64 (f+1),g,y12.2,i,())))) (some (.inr (s.1,b,c,g,h,i,())))) s.2.1 s.2.2.1 s.2.2.2.1 s.2.2.2.2.1 s.2.2.2.2.2.1 s.2.2.2.2.2.2.1 s.2.2.2.2.2.2.2.1 s.2.2.2.2.2.2.2.2.1 s.2.2.2.2.2.2.2.2.2.1
def b7h(s:b9I):Option (b9I ⊕ Z23):=(fun(a:LI)(b c:Int)(d:LI)(e:Z5)(f:Z4)=>cond (decide (c<b)) (cond ((decide (0≤c))&&(decide (c<(d.length:Int)))) (cond ((decide (0≤(a03 d (a00 c) 0)))&&(decide ((a03 d (a00 c) 0)≤(a.length:Int)))) (cond ((decide (0≤(a03 d (a00 c) 0)))&&(decide ((a03 d (a00 c) 0)≤(a.length:Int)))) ((m0k f.2.1 c).bind fun x4=>(a0M (e,wrap .u64 x4,5)).bind fun y5=>(m0k f.2.1 c).bind fun x6=>cond (x6 != 31) ((m0k f.2.1 c).bind fun x7=>(b5G (y5.2,x7,a06 (a00 (a03 d (a00 c) 0)) a)).bind fun y8=>some (.inl (a07 (a00 (a03 d (a00 c) 0)) (a06 (a02 a) a),b,wrap .i64 (c+1),d,y8.2,f,()))) ((a1w (a06 (a00 (a03 d (a00 c) 0)) a)).bind fun y9=>(a0M (y5.2,wrap .u64 y9,5)).bind fun y10=>(y0s b7g (a07 (a00 (a03 d (a00 c) 0)) (a06 (a02 a) a),y9,b,c,a06 (a00 (a03 d (a00 c) 0)) a,((a02 (a06 (a00 (a03 d (a00 c) 0)) a):Nat):Int),0,d,y10.2,f,())).bind fun w13=>some (.inl (w13.1,w13.2.1,wrap .i64 (w13.2.2.1+1),w13.2.2.2.1,w13.2.2.2.2.1,w13.2.2.2.2.2.1,())))) none) none) none) (some (.inr (e,())))) s.1 s.2.1 s.2.2.1 s.2.2.2.1 s.2.2.2.2.1 s.2.2.2.2.2.1
def b4n(x:(Z5×Z68)):Option Z18:=(a9D (x.2.1,x.2.2.1,x.2.2.2.1,x.2.2.2.2)).bind fun y1=>cond (y1==0) (some (1,x.1)) ((a0M (x.1,wrap .u64 x.2.1.1,4)).bind fun y2=>(a2s (x.2.1.1,x.2.2.1,x.2.2.2.1)).bind fun y3=>(y0s b7h (x.2.2.2.2,(y3.length:Int),0,y3,y2.2,x.2.1,())).bind fun w14=>some (0,w14.1))
def c1S:FSem:=⟨[.r false (.b Q7),.v Q9,.v QI,.v QI,.v QL],[.v QI],b4n⟩
def d2Q:Hints:=⟨[(122,[.sv 4 QL,33,34,.own 32 1032 QI,.box pinned Q7,Qp 0 pinned,.vp 6 Q9],[Qe 0 [.box pinned Q7]]),(2005502,[.sv 4 QL,14,33,34,.sv 73 QL,74,75,.own 32 1032 QI,.box pinned Q7,Qp 0 pinned,.vp 6 Q9],[Qe 2 [.sv 4 QL,33,34,.own 32 1032 QI,.box pinned Q7,Qp 0 pinned,.vp 6 Q9]])],[],[]⟩
def b9Z(s:(Int×(Int×(LI×c3m)))):Option ((Int×(Int×(LI×c3m))) ⊕ b0W):=(fun(a:LI)(b:Int)(c:Z5)(d:a0W)=>cond (decide (b<3)) ((m0k a b).bind fun x8=>(a5S (c,x8,8)).bind fun y9=>some (.inl (s.1,s.2.1,a,wrap .i64 (b+1),y9,d,()))) (some (.inr (s.1,s.2.1,c,d,())))) s.2.2.1 s.2.2.2.1 s.2.2.2.2.1 s.2.2.2.2.2.1
def c0A(s:(Int×Int×Z6×b0W)):Option ((Int×Int×Z6×b0W) ⊕ b0W):=(fun(a:Z6)(b c:Int)(d:Z5)(e:a0W)=>cond (decide (c<b)) ((m0k a c).bind fun x18=>(a0M (d,wrap .u64 (wrap .i64 (x18.1-1)),5)).bind fun y19=>(a0M (y19.2,wrap .u64 x18.2.1,4)).bind fun y20=>some (.inl (s.1,s.2.1,a,b,wrap .i64 (c+1),y20.2,e,()))) (some (.inr (s.1,s.2.1,d,e,())))) s.2.2.1 s.2.2.2.1 s.2.2.2.2.1 s.2.2.2.2.2.1 s.2.2.2.2.2.2.1
def c0B(s:(Int×(Int×(LI×b0W)))):Option ((Int×(Int×(LI×b0W))) ⊕ c3m):=(fun(a:LI)(b c:Int)(d:Z5)(e:a0W)=>cond (decide (c<b)) ((m0k a c).bind fun x23=>(a5S (d,x23,s.2.1)).bind fun y24=>some (.inl (s.1,s.2.1,a,b,wrap .i64 (c+1),y24,e,()))) (some (.inr (s.1,d,e,())))) s.2.2.1 s.2.2.2.1 s.2.2.2.2.1 s.2.2.2.2.2.1 s.2.2.2.2.2.2.1
def b2K(x:(Z5×a7w)):Option Z18:=(fun(a:a0W)=>((a6j (a,x.2.2)).bind fun y1=>cond (!y1) (some (1,x.1)) ((a1w a.2.2.2.2.2.2.2.2.1).bind fun y2=>(a0M (x.1,wrap .u64 a.1,3)).bind fun y3=>(a0M (y3.2,wrap .u64 a.2.1,5)).bind fun y4=>(a0M (y4.2,wrap .u64 y2,5)).bind fun y5=>(show Option b0W from(show Option (b0W ⊕ (b0W ⊕ b0W))from cond (a.1==2) ((a0M (y5.2,wrap .u64 a.2.2.1,3)).bind fun y6=>some (Sum.inr (Sum.inl (x.2.2,y2,y6.2,a,())))) (cond (a.1==4) ((a0M (y5.2,wrap .u64 (wrap .i64 (a.2.2.2.2.1-1)),10)).bind fun y7=>(y0s b9Z (x.2.2,y2,a.2.2.2.2.2.2.1,0,y7.2,a,())).bind fun w10=>some (Sum.inl (w10.1,w10.2.1,w10.2.2.1,w10.2.2.2.1,()))) (cond (a.1==3) (some (Sum.inl (x.2.2,y2,y5.2,a,()))) (cond (a.1==5) (some (Sum.inr (Sum.inr ((x.2.2,y2,y5.2,a,()))))) (some (Sum.inr (Sum.inl (x.2.2,y2,y5.2,a,())))))))).bind fun z11=>match z11 with |.inl a12=>((b1o (a12.2.2.1,a12.2.2.2.1)).bind fun y14=>some (a12.1,a12.2.1,y14,a12.2.2.2.1,())) |.inr b13=>(match b13 with |.inl a15=>some (a15.1,a15.2.1,a15.2.2.1,a15.2.2.2.1,()) |.inr b16=>((a0M (b16.2.2.1,wrap .u64 (b16.2.2.2.1.2.2.2.2.2.2.2.1.length:Int),2)).bind fun y17=>(y0s c0A (b16.1,b16.2.1,b16.2.2.2.1.2.2.2.2.2.2.2.1,(b16.2.2.2.1.2.2.2.2.2.2.2.1.length:Int),0,y17.2,b16.2.2.2.1,())).bind fun w21=>some (w21.1,w21.2.1,w21.2.2.1,w21.2.2.2.1,())))).bind fun z22=>(y0s c0B (z22.1,z22.2.1,z22.2.2.2.1.2.2.2.2.2.2.2.2.1,(z22.2.2.2.1.2.2.2.2.2.2.2.2.1.length:Int),0,z22.2.2.1,z22.2.2.2.1,())).bind fun w25=>(a4H w25.2.2.1.1).bind fun y26=>cond (!y26) (some (0,w25.2.1)) ((b4n (w25.2.1,w25.2.2.1.2.2.2.2.2.2.2.2.2.1,w25.1,(w25.2.2.1.2.2.2.2.2.2.2.2.1.length:Int),w25.2.2.1.2.2.2.2.2.2.2.2.2.2.1)).bind fun y27=>some (y27.1,y27.2))):Option Z18)) x.2.1
def c4O:FSem:=⟨[.r false (.b Q7),.v Q50,.v QI],[.v QI],b2K⟩
def H45:Hints:=⟨[(2042,[2,7,.sv 94 QL,95,96,.box pinned Q7,Qp 0 pinned,.vp 4 Q50],[Qe 9 [2,.box pinned Q7,Qp 0 pinned,.vp 4 Q50]]),(32598,[2,7,.sv 75 (.list false Q5),76,77,.box pinned Q7,Qp 0 pinned,.vp 4 Q50],[Qe 7 [2,7,.box pinned Q7,Qp 0 pinned,.vp 4 Q50]]),(260622,[2,7,.sv 57 (.arr 3 QI),58,.box pinned Q7,Qp 0 pinned,.vp 4 Q50],[Qe 5 [2,7,.box pinned Q7,Qp 0 pinned,.vp 4 Q50]])],[(127,[Qn [2,7,.box pinned Q7,Qp 0 pinned,.vp 4 Q50]]),(4072,[Qn [2,7,.box pinned Q7,Qp 0 pinned,.vp 4 Q50],Qe 0 [2,7,.box pinned Q7,Qp 0 pinned,.vp 4 Q50],Qe 4 [2,7,.box pinned Q7,Qp 0 pinned,.vp 4 Q50]])],[]⟩
def a9j(x:Z5):Option Z18:=some (x.2.1,x)
def b3Q:FSem:=⟨[.r false (.b Q7)],[.v QI],a9j⟩
def b5H(x:a7w):Option Int:=(b2K (([],0,()),x.1,x.2)).bind fun y1=>cond (y1.1 != 0) (some 0) ((a9j y1.2).bind fun y2=>some y2.1)
def c3D:FSem:=⟨[.v Q50,.v QI],[.v QI],b5H⟩
def b4O(s:Z53):Option (Z53 ⊕ (Int×Unit)):=(fun(a:Int)(b:LI)(c d:Int)=>cond (decide (d<c)) ((m0k b d).bind fun x1=>cond (decide ((wrap .i64 (d+s.1))≥4)) (some (.inl (s.1,wrap .i64 (a+(v0r x1 (wrap .i64 (0-x1)))),b,c,wrap .i64 (d+1),()))) (some (.inl (s.1,a,b,c,wrap .i64 (d+1),())))) (some (.inr (a,())))) s.2.1 s.2.2.1 s.2.2.2.1 s.2.2.2.2.1
def b2g(x:(LI×Int)):Option Int:=(y0s b4O (x.2,0,x.1,(x.1.length:Int),0,())).bind fun w2=>some w2.1
def b8P:FSem:=⟨[.v QL,.v QI],[.v QI],b2g⟩
def d2R:Hints:=⟨[(58,[1,5,.sv 8 QL,9,10],[Qe 0 [5]])],[],[]⟩
def b5I(s:Z34):Option (Z34 ⊕ (Int×Unit)):=(fun(a:LI)(b c d:Int)=>cond (decide (d≤4)) ((a9B (a,d)).bind fun y1=>cond (y1.2 != 0) (some (.inl (a,b,c,wrap .i64 (d+1),()))) ((b2g (y1.1,d)).bind fun y2=>(show Option (LI×(Int×Z26))from cond (decide (c<0)) (some (a,b,c,d,y2,true,())) (some (a,b,c,d,y2,decide (y2<c),()))).bind fun z3=>cond z3.2.2.2.2.2.1 (some (.inl (z3.1,z3.2.2.2.1,z3.2.2.2.2.1,wrap .i64 (z3.2.2.2.1+1),()))) (some (.inl (z3.1,z3.2.1,z3.2.2.1,wrap .i64 (z3.2.2.2.1+1),()))))) (some (.inr (b,())))) s.1 s.2.1 s.2.2.1 s.2.2.2.1
def b2L(x:LI):Option Int:=(y0s b5I (x,0,(-1),0,())).bind fun w4=>some w4.1
def c0C:FSem:=⟨[.v QL],[.v QI],b2L⟩
def d2S:Hints:=⟨[(58,[.sv 0 QL,3,4,5],[Qe 0 [3]])],[(7463,[Qn [.sv 0 QL,3,4,5,8,.sv 30 .bool]])],[]⟩
def a6A(x:Int):Option Int:=some (v0s (v0r x (-1048576)) 1048575)
def b7i:FSem:=⟨[.v QI],[.v QI],a6A⟩
def b2M(s:Z85):Option (Z85 ⊕ Z69):=(fun(a b:Int)(c:LI)(d e:Int)=>cond (decide (a<0)) none ((a6A (A0o .i64 b a)).bind fun y2=>cond (decide (a<0)) none (cond (y2 != (A0o .i64 b a)) (some (.inl (s.1,wrap .i64 (a+1),b,c,d,e,()))) (some (.inr (s.1,a,c,d,e,())))))) s.2.1 s.2.2.1 s.2.2.2.1 s.2.2.2.2.1 s.2.2.2.2.2.1
def b2N(s:Z69):Option (Z69 ⊕ Z5):=(fun(a:LI)(b c:Int)=>cond (decide (c<b)) ((m0k a c).bind fun x1=>(y0s b2M (s.1,s.2.1,x1,a,b,c,())).bind fun w3=>some (.inl (w3.1,w3.2.1,w3.2.2.1,w3.2.2.2.1,wrap .i64 (w3.2.2.2.2.1+1),()))) (some (.inr (s.1,s.2.1,())))) s.2.2.1 s.2.2.2.1 s.2.2.2.2.1
def b2O(s:Z67):Option (Z67 ⊕ (LI×Unit)):=(fun(a b:Int)(c:LI)=>cond (decide (b<a)) ((m0k s.2.1 b).bind fun x5=>cond (decide (s.1<0)) none (cond ((decide (0≤b))&&(decide (b<(c.length:Int)))) (some (.inl (s.1,s.2.1,a,wrap .i64 (b+1),a05 c (a00 b) (A0o .i64 x5 s.1),()))) none)) (some (.inr (c,())))) s.2.2.1 s.2.2.2.1 s.2.2.2.2.1
def b0D(x:LI):Option LI:=(y0s b2N (x,0,x,(x.length:Int),0,())).bind fun w4=>cond ((decide (0≤(w4.1.length:Int)))&&((decide ((w4.1.length:Int)≤(w4.1.length:Int)))&&(lim (a00 (w4.1.length:Int))))) ((y0s b2O (w4.2.1,w4.1,(w4.1.length:Int),0,a01 (a00 (w4.1.length:Int)) 0,())).bind fun w6=>some w6.1) none
def b5J:FSem:=⟨[.v QL],[.o QI],b0D⟩
def d2T:Hints:=⟨[(58,[.sv 0 QL,3,.sv 9 QL,10,11],[Qe 0 [.sv 0 QL,3]]),(250,[3,.sv 29 QL,30,31,.own 6 6 QI],[Qe 4 [.own 6 6 QI]]),(7474,[.sv 0 QL,3,5,.sv 9 QL,10,11],[Qe 2 [.sv 0 QL,3,.sv 9 QL,10,11]])],[],[(5,[.v,.v,.v,.v,.v,.v,.v,.x])]⟩
def b1a(s:Z70):Option (Z70 ⊕ (Int×Int×Unit)):=(fun(a b:LI)(c d e:Int)=>cond (decide (e<(a.length:Int))) ((m0k a e).bind fun x1=>(m0k b (wrap .i64 (e-1))).bind fun x2=>(m0k a e).bind fun x3=>(m0k a e).bind fun x4=>(m0k b (wrap .i64 (e-1))).bind fun x5=>(m0k b (wrap .i64 (e-1))).bind fun x6=>some (.inl (a,b,wrap .i64 (c+(wrap .i64 (x1*x2))),wrap .i64 (d+(wrap .i64 ((wrap .i64 (x3*x4))+(wrap .i64 (x5*x6))))),wrap .i64 (e+1),()))) (some (.inr (c,d,())))) s.1 s.2.1 s.2.2.1 s.2.2.2.1 s.2.2.2.2.1
def b1b(s:(Int×Int×Unit)):Option ((Int×Int×Unit) ⊕ (Int×Int×Unit)):=cond (decide (s.2.1≥1099511627776)) (some (.inl (A0o .i64 s.1 1,A0o .i64 s.2.1 1,()))) (some (.inr (s.1,s.2.1,())))
def a8d(x:Z11):Option Int:=(y0s b1a (x.1,x.2.1,0,0,x.2.2,())).bind fun w7=>(y0s b1b (w7.1,w7.2.1,())).bind fun w8=>cond (w8.2.1==0) (some 0) (cond (w8.2.1==0) none ((show Option (Int×Unit)from cond (w8.2.1==0) none (cond (decide ((a08 (A0n .i64 w8.1 15) w8.2.1)<0)) (some (wrap .i64 ((wrap .i64 (a09 (A0n .i64 w8.1 15) w8.2.1))-1),())) (some (wrap .i64 (a09 (A0n .i64 w8.1 15) w8.2.1),())))).bind fun z9=>some (v0s (v0r z9.1 (-16383)) 16383)))
def b2v:FSem:=⟨[.v QL,.v QL,.v QI],[.v QI],a8d⟩
def d2U:Hints:=⟨[(58,[.sv 0 QL,.sv 1 QL,7,8,9],[Qe 0 [7,8]]),(60,[7,8],[Qe 2 [7,8]])],[(255,[Qn [10]])],[(5,[.v,.v,.v,.v,.v,.v,.v,.v,.v,.v,.v,.x,.x]),(6,[.v,.v,.v,.v,.v,.v,.v,.v,.v,.v,.v,.v,.v,.v,.v,.v,.v,.v,.v,.v,.v,.v,.x,.x])]⟩
def b2w(s:(Int×Int×Z83)):Option ((Int×Int×Z83) ⊕ Z83):=(fun(a b c:Int)(d e f:LI)=>cond (decide (c≥a)) (cond ((decide (0≤c))&&(decide (c<(d.length:Int)))) (cond ((decide (0≤(wrap .i64 (c-1))))&&(decide ((wrap .i64 (c-1))<(e.length:Int)))) ((a6A (wrap .i64 ((a03 d (a00 c) 0)-(A0o .i64 (wrap .i64 (b*(a03 e (a00 (wrap .i64 (c-1))) 0))) 14)))).bind fun y6=>cond ((decide (0≤c))&&(decide (c<(d.length:Int)))) ((a6A (wrap .i64 ((a03 e (a00 (wrap .i64 (c-1))) 0)-(A0o .i64 (wrap .i64 (b*(a03 d (a00 c) 0))) 14)))).bind fun y7=>cond ((decide (0≤c))&&(decide (c<(e.length:Int)))) (some (.inl (s.1,a,b,wrap .i64 (c-1),a05 d (a00 c) y6,a05 e (a00 c) y7,f,()))) none) none) none) none) (some (.inr (s.1,a,d,e,f,())))) s.2.1 s.2.2.1 s.2.2.2.1 s.2.2.2.2.1 s.2.2.2.2.2.1 s.2.2.2.2.2.2.1
def b2x(s:Z83):Option (Z83 ⊕ (LI×Unit)):=(fun(a:Int)(b c d:LI)=>cond (decide (a≤s.1)) ((a8d (b,c,a)).bind fun y5=>cond (lim ((a02 d)+1)) ((y0s b2w (s.1,a,y5,wrap .i64 ((b.length:Int)-1),b,c,a04 d [y5],())).bind fun w8=>some (.inl (w8.1,wrap .i64 (w8.2.1+1),w8.2.2.1,w8.2.2.2.1,w8.2.2.2.2.1,()))) none) (some (.inr (d,())))) s.2.1 s.2.2.1 s.2.2.2.1 s.2.2.2.2.1
def a9E(x:(LI×Int)):Option (LI×Int):=(show Option Z21 from cond (decide (x.2<1)) (some (x.1,x.2,true,())) (cond (decide (x.2 > 32)) (some (x.1,x.2,true,())) (some (x.1,x.2,decide ((x.1.length:Int) > 4096),())))).bind fun z1=>cond z1.2.2.1 (some ([],1)) ((a2b z1.1).bind fun y2=>cond (!y2) (some ([],6)) ((b0D z1.1).bind fun y3=>(a0X y3).bind fun y4=>cond ((decide (0≤z1.2.1))&&(lim (a00 z1.2.1))) ((y0s b2x (z1.2.1,1,y3,y4,[],())).bind fun w9=>some (w9.1,0)) none))
def b4P:FSem:=⟨[.v QL,.v QI],[.o QI,.v QI],a9E⟩
def d2V:Hints:=⟨[(1018,[1,9,.own 6 6 QI,.own 7 7 QI,.own 8 8 QI],[Qe 0 [.own 8 8 QI]]),(260686,[1,9,10,11,.own 6 6 QI,.own 7 7 QI,.own 8 8 QI],[Qe 2 [1,9,.own 6 6 QI,.own 7 7 QI,.own 8 8 QI]])],[(6,[Qn [.sv 0 QL,1,.sv 24 .bool]])],[(16,[.q,.v,.q,.q,.q,.v,.v,.q,.q,.v,.x])]⟩
def b3R(s:Z49):Option (Z49 ⊕ ((LI×Unit) ⊕ Z5)):=(fun(a:LI)(b c:Int)=>cond (decide (c<b)) ((m0k a c).bind fun x2=>(show Option (LI×Z37)from cond (decide (x2<(-16383))) (some (s.1,a,b,c,true,())) (some (s.1,a,b,c,decide (x2 > 16383),()))).bind fun z3=>cond z3.2.2.2.2.1 (some (.inr (Sum.inr (([],1,()))))) (some (.inl (z3.1,z3.2.1,z3.2.2.1,wrap .i64 (z3.2.2.2.1+1),())))) (some (.inr (Sum.inl (s.1,()))))) s.2.1 s.2.2.1 s.2.2.2.1
def b3S(s:(LI×(Int×(Int×(LI×Z88))))):Option ((LI×(Int×(Int×(LI×Z88)))) ⊕ Z67):=(fun(a:Int)(b:LI)(c d:Int)(e:LI)(f g:Int)(h:LI)=>cond (decide (g<f)) ((m0k e g).bind fun x8=>(m0k s.1 (wrap .i64 ((wrap .i64 (s.2.1-1))-g))).bind fun x9=>cond (lim ((a02 h)+1)) (some (.inl (s.1,s.2.1,a,b,c,d,e,f,wrap .i64 (g+1),a04 h [wrap .i64 (x8-(A0o .i64 (wrap .i64 (a*x9)) 14))],()))) none) (some (.inr (a,b,c,d,h,())))) s.2.2.1 s.2.2.2.1 s.2.2.2.2.1 s.2.2.2.2.2.1 s.2.2.2.2.2.2.1 s.2.2.2.2.2.2.2.1 s.2.2.2.2.2.2.2.2.1 s.2.2.2.2.2.2.2.2.2.1
def b3T(s:Z49):Option (Z49 ⊕ (LI×Unit)):=(fun(a:LI)(b c:Int)=>cond (decide (c<b)) ((m0k s.2.1 c).bind fun x7=>cond ((decide (0≤(wrap .i64 (c+1))))&&(lim (a00 (wrap .i64 (c+1))))) ((y0s b3S (a,c,x7,s.2.1,b,c,a,(a.length:Int),0,[],())).bind fun w10=>cond (lim ((a02 w10.2.2.2.2.1)+1)) (some (.inl (a04 w10.2.2.2.2.1 [w10.1],w10.2.1,w10.2.2.1,wrap .i64 (w10.2.2.2.1+1),()))) none) none) (some (.inr (a,())))) s.1 s.2.2.1 s.2.2.2.1
def b1p(x:LI):Option (LI×Int):=(show Option (LI×(Bool×Unit))from cond (decide ((x.length:Int)<1)) (some (x,true,())) (some (x,decide ((x.length:Int) > 32),()))).bind fun z1=>cond z1.2.1 (some ([],1)) ((y0s b3R (z1.1,z1.1,(z1.1.length:Int),0,())).bind fun w4=>match w4 with |.inl a5=>((y0s b3T ([],a5.1,(a5.1.length:Int),0,())).bind fun w11=>some (w11.1,0)) |.inr b6=>some (b6.1,b6.2.1))
def b7j:FSem:=⟨[.v QL],[.v QL,.v QI],b1p⟩
def d2W:Hints:=⟨[(58,[.sv 0 QL,.sv 20 QL,21,22],[Qe 0 [.sv 0 QL],Qr [.sv 2 QL,3]]),(250,[.sv 6 QL,.sv 34 QL,35,36],[Qe 2 [.sv 6 QL]]),(256410,[.sv 6 QL,7,8,.sv 34 QL,35,36,.sv 44 QL,45,46,.own 9 9 QI],[Qe 4 [8,.sv 34 QL,35,36,.own 9 9 QI]])],[(6,[Qn [.sv 0 QL,.sv 19 .bool]]),(3737,[Qn [.sv 0 QL,.sv 20 QL,21,22,.sv 31 .bool]])],[]⟩
end Go.Ab
namespace Go.Ab
open IntKind(wrap)
open Go.Proofs
set_option maxRecDepth 100000
set_option linter.unusedVariables false
def b3U(s:Z69):Option (Z69 ⊕ (Z5 ⊕ Z17)):=(fun(a:Int)(b:LI)(c d:Int)=>cond (decide (d<c)) ((m0k b d).bind fun x2=>(show Option (LI×(Int×Z37))from cond (decide (x2<(-35184372088832))) (some (s.1,a,b,c,d,true,())) (some (s.1,a,b,c,d,decide (x2 > 35184372088832),()))).bind fun z3=>cond z3.2.2.2.2.2.1 (some (.inr (Sum.inr ((0,1,[],()))))) (some (.inl (z3.1,z3.2.1,z3.2.2.1,z3.2.2.2.1,wrap .i64 (z3.2.2.2.2.1+1),())))) (some (.inr (Sum.inl (s.1,a,()))))) s.2.1 s.2.2.1 s.2.2.2.1 s.2.2.2.2.1
def b3V(s:(LI×(Int×Z88))):Option ((LI×(Int×Z88)) ⊕ Z46):=(fun(a b c:Int)(d:LI)(e f:Int)(g:LI)=>cond (decide (f<e)) ((m0k d f).bind fun x8=>cond (decide (b<0)) none ((a3e (A0o .i64 (wrap .i64 (x8+c)) b,a)).bind fun y9=>cond (!y9) (some (.inr (s.1,a,b,g,()))) (cond (lim ((a02 g)+1)) (some (.inl (s.1,a,b,c,d,e,wrap .i64 (f+1),a04 g [A0o .i64 (wrap .i64 (x8+c)) b],()))) none))) (some (.inr (s.1,a,b,g,())))) s.2.1 s.2.2.1 s.2.2.2.1 s.2.2.2.2.1 s.2.2.2.2.2.1 s.2.2.2.2.2.2.1 s.2.2.2.2.2.2.2.1
def b3W(s:Z16):Option (Z16 ⊕ (Unit ⊕ Z17)):=(fun(a:Int)=>cond (decide (a≤14)) ((show Option Z34 from cond (decide (a > 0)) (cond (decide ((wrap .i64 (a-1))<0)) none (some (s.1,s.2.1,a,A0n .i64 1 (wrap .i64 (a-1)),()))) (some (s.1,s.2.1,a,0,()))).bind fun z7=>cond ((decide (0≤(z7.1.length:Int)))&&(lim (a00 (z7.1.length:Int)))) ((y0s b3V (z7.1,z7.2.1,z7.2.2.1,z7.2.2.2.1,z7.1,(z7.1.length:Int),0,[],())).bind fun w10=>cond ((w10.2.2.2.1.length:Int)==(w10.1.length:Int)) (some (.inr (Sum.inr ((wrap .i64 (14-w10.2.2.1),0,w10.2.2.2.1,()))))) (some (.inl (w10.1,w10.2.1,wrap .i64 (w10.2.2.1+1),())))) none) (some (.inr (Sum.inl ())))) s.2.2.1
def b1q(x:(LI×Int)):Option Z2:=(show Option Z21 from cond (decide ((x.1.length:Int)<1)) (some (x.1,x.2,true,())) (cond (decide ((x.1.length:Int) > 32)) (some (x.1,x.2,true,())) (cond (decide (x.2<2)) (some (x.1,x.2,true,())) (some (x.1,x.2,decide (x.2 > 16),()))))).bind fun z1=>cond z1.2.2.1 (some ([],0,1)) ((y0s b3U (z1.1,z1.2.1,z1.1,(z1.1.length:Int),0,())).bind fun w4=>match w4 with |.inl a5=>((y0s b3W (a5.1,a5.2.1,0,())).bind fun w11=>match w11 with |.inl a12=>some ([],0,6) |.inr b13=>some (b13.2.2.1,b13.1,b13.2.1)) |.inr b6=>some (b6.2.2.1,b6.1,b6.2.1))
def b7k:FSem:=⟨[.v QL,.v QI],[.o QI,.v QI,.v QI],b1q⟩
def d2X:Hints:=⟨[(58,[.sv 0 QL,1,.sv 31 QL,32,33],[Qe 0 [.sv 0 QL,1],Qr [5,6,.own 4 4 QI]]),(122,[.sv 0 QL,1,9],[Qe 2 [],Qr [5,6,.own 4 11 QI]]),(125242,[.sv 0 QL,1,9,10,.sv 56 QL,57,58,.own 11 11 QI],[Qe 4 [.sv 0 QL,1,9,.own 11 11 QI]])],[(6,[Qn [.sv 0 QL,1,.sv 30 .bool]]),(3737,[Qn [.sv 0 QL,1,.sv 31 QL,32,33,.sv 42 .bool]]),(3913,[Qn [.sv 0 QL,1,9,10]])],[]⟩
def a9b(x:Z2):Option Z2:=(a9E (x.1,x.2.1)).bind fun y1=>cond (y1.2 != 0) (some ([],0,y1.2)) ((b1p y1.1).bind fun y2=>cond (y2.2 != 0) (some ([],0,y2.2)) ((b1q (y2.1,x.2.2)).bind fun y3=>some (y3.1,y3.2.1,y3.2.2)))
def b8Q:FSem:=⟨[.v QL,.v QI,.v QI],[.o QI,.v QI,.v QI],a9b⟩
def b7l(s:(LI×(Int×Int×Z40))):Option ((LI×(Int×Int×Z40)) ⊕ (LI×(Int×Z40))):=(fun(a:LI)(b c d e f g:Int)=>cond (decide (g<(a.length:Int))) ((m0k a g).bind fun x3=>(m0k a (wrap .i64 (g-e))).bind fun x4=>some (.inl (a,s.2.1,b,c,d,e,wrap .i64 (f+(v0r (wrap .i64 (x3-x4)) (wrap .i64 (0-(wrap .i64 (x3-x4)))))),wrap .i64 (g+1),()))) (some (.inr (a,s.2.1,b,c,d,e,f,())))) s.1 s.2.2.1 s.2.2.2.1 s.2.2.2.2.1 s.2.2.2.2.2.1 s.2.2.2.2.2.2.1 s.2.2.2.2.2.2.2.1
def b7m(s:(LI×Z40)):Option ((LI×Z40) ⊕ (Int×Unit)):=(fun(a b c:Int)=>cond (decide (c≤a)) ((y0s b7l (s.1,s.2.1,a,b,s.2.2.2.2.1,c,0,a,())).bind fun w5=>(show Option (LI×(Int×Int×Int×Z26))from cond (w5.2.2.2.2.2.1==w5.2.1) (some (w5.1,w5.2.1,w5.2.2.1,w5.2.2.2.1,w5.2.2.2.2.1,w5.2.2.2.2.2.1,w5.2.2.2.2.2.2.1,true,())) (some (w5.1,w5.2.1,w5.2.2.1,w5.2.2.2.1,w5.2.2.2.2.1,w5.2.2.2.2.2.1,w5.2.2.2.2.2.2.1,decide (w5.2.2.2.2.2.2.1<w5.2.2.2.2.1),()))).bind fun z6=>cond z6.2.2.2.2.2.2.2.1 (some (.inl (z6.1,z6.2.1,z6.2.2.1,z6.2.2.2.2.2.1,z6.2.2.2.2.2.2.1,wrap .i64 (z6.2.2.2.2.2.1+1),()))) (some (.inl (z6.1,z6.2.1,z6.2.2.1,z6.2.2.2.1,z6.2.2.2.2.1,wrap .i64 (z6.2.2.2.2.2.1+1),())))) (some (.inr (b,())))) s.2.2.1 s.2.2.2.1 s.2.2.2.2.2.1
def b4o(x:Z2):Option (Int×Int):=(show Option Z37 from cond (decide (x.2.1<2)) (some (x.1,x.2.1,x.2.2,true,())) (cond (decide (x.2.1 > x.2.2)) (some (x.1,x.2.1,x.2.2,true,())) (cond (decide (x.2.2 > 1024)) (some (x.1,x.2.1,x.2.2,true,())) (some (x.1,x.2.1,x.2.2,decide ((x.1.length:Int) > 4096),()))))).bind fun z1=>cond z1.2.2.2.1 (some (0,1)) (cond (decide ((z1.1.length:Int)≤z1.2.2.1)) (some (0,7)) ((a3s z1.1).bind fun y2=>cond (!y2) (some (0,6)) ((y0s b7m (z1.1,z1.2.1,z1.2.2.1,0,0,z1.2.1,())).bind fun w7=>some (w7.1,0))))
def c1T:FSem:=⟨[.v QL,.v QI,.v QI],[.v QI,.v QI],b4o⟩
def d2Y:Hints:=⟨[(506,[.sv 0 QL,1,2,8,9,10],[Qe 0 [8]]),(129610,[.sv 0 QL,1,2,8,9,10,11,12],[Qe 2 [.sv 0 QL,1,2,8,9,10,11]])],[(6,[Qn [.sv 0 QL,1,2,.sv 29 .bool]]),(32403,[Qn [.sv 0 QL,1,2,8,9,10,11,.sv 74 .bool]])],[(15,[.v,.v,.v,.v,.v,.v,.v,.v,.v,.v,.x,.x])]⟩
def b2P(x:Unit):Option (List LI):=some ([a05 (a05 (a05 (a01 3 0) 0 0) 1 0) 2 0,a05 (a05 (a05 (a01 3 0) 0 0) 1 64) 2 0,a05 (a05 (a05 (a01 3 0) 0 0) 1 32) 2 0,a05 (a05 (a05 (a01 3 0) 0 16) 1 32) 2 16,a05 (a05 (a05 (a01 3 0) 0 21) 1 22) 2 21,a05 (a05 (a05 (a01 3 0) 0 0) 1 48) 2 0,a05 (a05 (a05 (a01 3 0) 0 (-8)) 1 64) 2 (-8),a05 (a05 (a05 (a01 3 0) 0 32) 1 32) 2 0,a05 (a05 (a05 (a01 3 0) 0 0) 1 32) 2 32]:List LI)
def c0D:FSem:=⟨[],[.o (.arr 3 QI)],b2P⟩
def b7n(s:(LI×(Int×(Int×(Bool×(Int×(Int×(Int×(Int×(Int×((List LI)×(LI×Z45)))))))))))):Option ((LI×(Int×(Int×(Bool×(Int×(Int×(Int×(Int×(Int×((List LI)×(LI×Z45))))))))))) ⊕ (LI×(Int×(Int×(Bool×(Int×(Int×(Int×((List LI)×Z45))))))))):=(fun(a:Int)(b:Bool)(c d e f g:Int)(h:List LI)(i j k l:LI)=>cond (decide (g<f)) (cond ((decide (0≤g))&&(decide (g<(i.length:Int)))) (some (.inl (s.1,s.2.1,a,b,wrap .i64 (c+(v0r (a03 i (a00 g) 0) (wrap .i64 (0-(a03 i (a00 g) 0))))),d,e,f,wrap .i64 (g+1),h,i,j,k,l,()))) none) (some (.inr (s.1,s.2.1,a,b,c,d,e,h,j,k,l,())))) s.2.2.1 s.2.2.2.1 s.2.2.2.2.1 s.2.2.2.2.2.1 s.2.2.2.2.2.2.1 s.2.2.2.2.2.2.2.1 s.2.2.2.2.2.2.2.2.1 s.2.2.2.2.2.2.2.2.2.1 s.2.2.2.2.2.2.2.2.2.2.1 s.2.2.2.2.2.2.2.2.2.2.2.1 s.2.2.2.2.2.2.2.2.2.2.2.2.1 s.2.2.2.2.2.2.2.2.2.2.2.2.2.1
def b7o(s:(LI×(Int×(Int×(Bool×(Int×(Int×((List LI)×Z13)))))))):Option ((LI×(Int×(Int×(Bool×(Int×(Int×((List LI)×Z13))))))) ⊕ (Bool×Z13)):=(fun(a b:Int)(c:Bool)(d e:Int)(f:List LI)(g h:LI)=>cond (decide (e<d)) (cond ((decide (0≤e))&&(decide (e<(f.length:Int)))) ((a8x (s.1,a,a03 f (a00 e) (a01 3 0))).bind fun y3=>cond (y3.2 != 0) (some (.inl (s.1,a,b,c,d,wrap .i64 (e+1),f,g,h,()))) ((y0s b7n (s.1,a,b,c,0,d,e,(y3.1.length:Int),0,f,y3.1,g,h,a03 f (a00 e) (a01 3 0),())).bind fun w4=>(show Option (LI×(Int×(Int×(Bool×(Int×(Int×(Int×(Bool×((List LI)×Z45)))))))))from cond (!w4.2.2.2.1) (some (w4.1,w4.2.1,w4.2.2.1,w4.2.2.2.1,w4.2.2.2.2.1,w4.2.2.2.2.2.1,w4.2.2.2.2.2.2.1,true,w4.2.2.2.2.2.2.2.1,w4.2.2.2.2.2.2.2.2.1,w4.2.2.2.2.2.2.2.2.2.1,w4.2.2.2.2.2.2.2.2.2.2.1,())) (some (w4.1,w4.2.1,w4.2.2.1,w4.2.2.2.1,w4.2.2.2.2.1,w4.2.2.2.2.2.1,w4.2.2.2.2.2.2.1,decide (w4.2.2.2.2.1<w4.2.2.1),w4.2.2.2.2.2.2.2.1,w4.2.2.2.2.2.2.2.2.1,w4.2.2.2.2.2.2.2.2.2.1,w4.2.2.2.2.2.2.2.2.2.2.1,()))).bind fun z5=>cond z5.2.2.2.2.2.2.2.1 (some (.inl (z5.1,z5.2.1,z5.2.2.2.2.1,true,z5.2.2.2.2.2.1,wrap .i64 (z5.2.2.2.2.2.2.1+1),z5.2.2.2.2.2.2.2.2.1,z5.2.2.2.2.2.2.2.2.2.1,z5.2.2.2.2.2.2.2.2.2.2.2.1,()))) (some (.inl (z5.1,z5.2.1,z5.2.2.1,z5.2.2.2.1,z5.2.2.2.2.2.1,wrap .i64 (z5.2.2.2.2.2.2.1+1),z5.2.2.2.2.2.2.2.2.1,z5.2.2.2.2.2.2.2.2.2.1,z5.2.2.2.2.2.2.2.2.2.2.1,()))))) none) (some (.inr (c,g,h,())))) s.2.1 s.2.2.1 s.2.2.2.1 s.2.2.2.2.1 s.2.2.2.2.2.1 s.2.2.2.2.2.2.1 s.2.2.2.2.2.2.2.1 s.2.2.2.2.2.2.2.2.1
def b4p(x:(LI×Int)):Option (LI×Int):=(show Option (LI×Z20)from cond (decide (x.2<2)) (some (x.1,x.2,true,a01 3 0,())) (some (x.1,x.2,decide (x.2 > 1024),a01 3 0,()))).bind fun z1=>cond z1.2.2.1 (some (a01 3 0,1)) ((b2P ()).bind fun y2=>(y0s b7o (z1.1,z1.2.1,0,false,(y2.length:Int),0,y2,z1.2.2.2.1,a01 3 0,())).bind fun w6=>cond (!w6.1) (some (a01 3 0,6)) (some (w6.2.2.1,0)))
def c1U:FSem:=⟨[.v QL,.v QI],[.v (.arr 3 QI),.v QI],b4p⟩
def d2Z:Hints:=⟨[(122,[.sv 0 QL,1,7,.sv 8 .bool,25,26,.own 24 1024 (.arr 3 QI),.box 4 (.arr 3 QI),.box 6 (.arr 3 QI),Qp 4 4,Qp 6 6],[Qe 0 [.sv 8 .bool,.box 4 (.arr 3 QI),.box 6 (.arr 3 QI),Qp 4 4,Qp 6 6]]),(501370,[.sv 0 QL,1,7,.sv 8 .bool,13,25,26,40,41,.own 24 1024 (.arr 3 QI),.own 39 11 QI,.box 4 (.arr 3 QI),.box 6 (.arr 3 QI),.box 10 (.arr 3 QI),Qp 4 4,Qp 6 6,Qp 10 10],[Qe 2 [.sv 0 QL,1,7,.sv 8 .bool,13,25,26,.own 24 1024 (.arr 3 QI),.box 4 (.arr 3 QI),.box 6 (.arr 3 QI),.box 10 (.arr 3 QI),Qp 4 4,Qp 6 6,Qp 10 10]])],[(6,[Qn [.sv 0 QL,1,.sv 21 .bool,.box 4 (.arr 3 QI),Qp 4 4]]),(125343,[Qn [.sv 0 QL,1,7,.sv 8 .bool,13,25,26,.sv 58 .bool,.own 24 1024 (.arr 3 QI),.box 4 (.arr 3 QI),.box 6 (.arr 3 QI),.box 10 (.arr 3 QI),Qp 4 4,Qp 6 6,Qp 10 10]])],[]⟩
def b2Q(x:LI):Option (a0W×Bool):=(b4o (x,16,256)).bind fun y1=>cond (y1.2 != 0) (some ((0,0,0,0,0,[],a01 3 0,[],[],(0,[],()),[],()),false)) ((b4p (x,y1.1)).bind fun y2=>cond (y2.2 != 0) (some ((0,0,0,0,0,[],a01 3 0,[],[],(0,[],()),[],()),false)) ((a8x (x,y1.1,y2.1)).bind fun y3=>cond (y3.2 != 0) (some ((0,0,0,0,0,[],a01 3 0,[],[],(0,[],()),[],()),false)) ((a9b (y3.1,4,12)).bind fun y4=>cond (y4.2.2 != 0) (some ((0,0,0,0,0,[],a01 3 0,[],[],(0,[],()),[],()),false)) (some ((4,0,0,y4.2.1,y1.1,y4.1,y2.1,[],[],(0,[],()),[],()),true)))))
def c0E:FSem:=⟨[.v QL],[.v Q50,.v .bool],b2Q⟩
def a1G(x:(Int×(Int×(LI×a8h)))):Option (LI×a8h):=(a9b (x.2.2.1,x.1,x.2.1)).bind fun y1=>cond (y1.2.2==0) (cond (lim ((a02 x.2.2.2)+1)) (some (x.2.2.1,a04 x.2.2.2 ([(3,0,0,y1.2.1,0,y1.1,a01 3 0,[],[],(0,[],()),[],())]:List a0W))) none) (some (x.2.2.1,x.2.2.2))
def b2R:FSem:=⟨[.v QI,.v QI,.r false (.b QL),.r false (.b (.list true Q50))],[],a1G⟩
def b2y(s:(Int×c3i)):Option ((Int×c3i) ⊕ c3i):=cond (decide (s.1<5)) (cond (lim ((a02 s.2.1)+1)) (some (.inl (wrap .i64 (s.1+1),a04 s.2.1 ([(2,0,s.1,0,0,[],a01 3 0,[],[],(0,[],()),[],())]:List a0W),s.2.2.1,()))) none) (some (.inr (s.2.1,s.2.2.1,())))
def a9F(x:(LI×Int)):Option a8h:=(b2L x.1).bind fun y1=>(show Option (Int×(LI×c5J))from cond (decide (x.2≥1)) ((a1G (4,12,x.1,([(0,0,0,0,0,[],a01 3 0,[],[],(0,[],()),[],()),(1,0,0,0,0,[],a01 3 0,[],[],(0,[],()),[],()),(2,0,y1,0,0,[],a01 3 0,[],[],(0,[],()),[],())]:List a0W))).bind fun y2=>(a1G (8,12,y2.1,y2.2)).bind fun y3=>some (x.2,y3.1,y3.2,())) (some (x.2,x.1,([(0,0,0,0,0,[],a01 3 0,[],[],(0,[],()),[],()),(1,0,0,0,0,[],a01 3 0,[],[],(0,[],()),[],()),(2,0,y1,0,0,[],a01 3 0,[],[],(0,[],()),[],())]:List a0W),()))).bind fun z4=>(show Option (Int×c3i)from cond (decide (z4.1≥2)) (cond (lim ((a02 z4.2.2.1)+1)) (cond (lim ((a02 (a04 z4.2.2.1 ([(5,0,0,0,0,[],a01 3 0,([(16,4,())]:List (Int×Int×Unit)),[],(0,[],()),[],())]:List a0W)))+1)) ((b2Q z4.2.1).bind fun y5=>cond y5.2 (cond (lim ((a02 (a04 (a04 z4.2.2.1 ([(5,0,0,0,0,[],a01 3 0,([(16,4,())]:List (Int×Int×Unit)),[],(0,[],()),[],())]:List a0W)) ([(5,0,0,0,0,[],a01 3 0,([(32,3,()),(16,5,())]:List (Int×Int×Unit)),[],(0,[],()),[],())]:List a0W)))+1)) (some (z4.1,a04 (a04 (a04 z4.2.2.1 ([(5,0,0,0,0,[],a01 3 0,([(16,4,())]:List (Int×Int×Unit)),[],(0,[],()),[],())]:List a0W)) ([(5,0,0,0,0,[],a01 3 0,([(32,3,()),(16,5,())]:List (Int×Int×Unit)),[],(0,[],()),[],())]:List a0W)) ([y5.1]:List a0W),z4.2.1,())) none) (some (z4.1,a04 (a04 z4.2.2.1 ([(5,0,0,0,0,[],a01 3 0,([(16,4,())]:List (Int×Int×Unit)),[],(0,[],()),[],())]:List a0W)) ([(5,0,0,0,0,[],a01 3 0,([(32,3,()),(16,5,())]:List (Int×Int×Unit)),[],(0,[],()),[],())]:List a0W),z4.2.1,()))) none) none) (some (z4.1,z4.2.2.1,z4.2.1,()))).bind fun z6=>(show Option c5J from cond (decide (z6.1≥3)) ((y0s b2y (0,z6.2.1,z6.2.2.1,())).bind fun w7=>(a1G (1,12,w7.2.1,w7.1)).bind fun y8=>(a1G (2,12,y8.1,y8.2)).bind fun y9=>(a1G (12,14,y9.1,y9.2)).bind fun y10=>(a1G (16,14,y10.1,y10.2)).bind fun y11=>some (y11.2,())) (some (z6.2.1,()))).bind fun z12=>some z12.1
def b4Q:FSem:=⟨[.v QL,.v QI],[.v (.list false Q50)],a9F⟩
def H63:Hints:=⟨[(4050,[50,.box 5 (.list true Q50),.box 2 QL,Qp 5 5,.clo 6 141 [2,5]],[Qe 0 [.box 5 (.list true Q50),.box 2 QL,Qp 5 5,.clo 6 141 [2,5]]])],[(15,[Qn [1,.box 2 QL,.box 5 (.list true Q50),Qp 2 2,Qp 5 5,.clo 6 141 [2,5]]]),(31,[Qn [1,.box 5 (.list true Q50),.box 2 QL,Qp 5 5,.clo 6 141 [2,5]]]),(63,[Qn [.box 5 (.list true Q50),Qp 5 5]])],[]⟩
def b8R(s:(LI×(Int×Bool×a8h×c3q))):Option ((LI×(Int×Bool×a8h×c3q)) ⊕ a9z):=(fun(a:LI)(b:Int)(c:Bool)(d:a8h)(e f:Int)(g h:a0W)=>cond (decide (f<e)) ((m0k d f).bind fun x6=>(b5D (x6.1,a,x6)).bind fun y7=>cond (y7.2 != 0) (some (.inl (a,b,c,d,e,wrap .i64 (f+1),g,h,()))) ((b5H (y7.1,(a.length:Int))).bind fun y8=>(show Option (LI×(Int×Bool×Int×a8h×Int×Int×Bool×a0W×a9z))from cond (!c) (some (a,b,c,y8,d,e,f,true,g,h,y7.1,())) (some (a,b,c,y8,d,e,f,decide (y8<b),g,h,y7.1,()))).bind fun z9=>cond z9.2.2.2.2.2.2.2.1 (some (.inl (z9.1,z9.2.2.2.1,true,z9.2.2.2.2.1,z9.2.2.2.2.2.1,wrap .i64 (z9.2.2.2.2.2.2.1+1),z9.2.2.2.2.2.2.2.2.1,z9.2.2.2.2.2.2.2.2.2.2.1,()))) (some (.inl (z9.1,z9.2.1,z9.2.2.1,z9.2.2.2.2.1,z9.2.2.2.2.2.1,wrap .i64 (z9.2.2.2.2.2.2.1+1),z9.2.2.2.2.2.2.2.2.1,z9.2.2.2.2.2.2.2.2.2.1,()))))) (some (.inr (g,h,())))) s.1 s.2.1 s.2.2.1 s.2.2.2.1 s.2.2.2.2.1 s.2.2.2.2.2.1 s.2.2.2.2.2.2.1 s.2.2.2.2.2.2.2.1
def b5K(x:(LI×Int)):Option a7w:=(show Option (LI×b6V)from cond (decide ((x.1.length:Int)<1)) (some (x.1,x.2,true,(0,0,0,0,0,[],a01 3 0,[],[],(0,[],()),[],()),())) (cond (decide ((x.1.length:Int) > 4096)) (some (x.1,x.2,true,(0,0,0,0,0,[],a01 3 0,[],[],(0,[],()),[],()),())) (cond (decide (x.2<0)) (some (x.1,x.2,true,(0,0,0,0,0,[],a01 3 0,[],[],(0,[],()),[],()),())) (some (x.1,x.2,decide (x.2 > 3),(0,0,0,0,0,[],a01 3 0,[],[],(0,[],()),[],()),()))))).bind fun z1=>cond z1.2.2.1 (some ((0,0,0,0,0,[],a01 3 0,[],[],(0,[],()),[],()),1)) ((a2r z1.1).bind fun y2=>cond (!y2) (some ((0,0,0,0,0,[],a01 3 0,[],[],(0,[],()),[],()),6)) ((a7y z1.1).bind fun y3=>(a8X (z1.1,y3)).bind fun y4=>cond (y4.2 != 0) (some ((0,0,0,0,0,[],a01 3 0,[],[],(0,[],()),[],()),y4.2)) ((a9F (y4.1,z1.2.1)).bind fun y5=>(y0s b8R (z1.1,0,false,y5,(y5.length:Int),0,z1.2.2.2.1,(0,0,0,0,0,[],a01 3 0,[],[],(0,[],()),[],()),())).bind fun w10=>some (w10.2.1,0))))
def c3E:FSem:=⟨[.v QL,.v QI],[.v Q50,.v QI],b5K⟩
def H19:Hints:=⟨[(2042,[.sv 0 QL,9,.sv 10 .bool,.sv 50 (.list false Q50),51,52,.box 4 Q50,.box 8 Q50,Qp 4 4,Qp 8 8],[Qe 0 [.box 4 Q50,.box 8 Q50,Qp 4 4,Qp 8 8]])],[(6,[Qn [.sv 0 QL,1,.sv 31 .bool,.box 4 Q50,Qp 4 4]]),(1045711,[Qn [.sv 0 QL,9,.sv 10 .bool,15,.sv 50 (.list false Q50),51,52,.sv 76 .bool,.box 4 Q50,.box 8 Q50,.box 13 Q50,Qp 4 4,Qp 8 8,Qp 13 13]])],[]⟩
def a4o(x:Z14):Option Int:=cond ((x.2.1.length:Int)==0) (some 0) ((m0k x.2.1 0).bind fun x1=>some (x1.length:Int))
def c1V:FSem:=⟨[.v Q12],[.v QI],a4o⟩
def a5p(x:Int):Option Bool:=cond (decide (4≤x)) (some (decide (x≤24))) (some false)
def b8S:FSem:=⟨[.v QI],[.v .bool],a5p⟩
def a3v(s:((List LI)×(Int×(Int×(LI×Z74))))):Option (((List LI)×(Int×(Int×(LI×Z74)))) ⊕ (((List LI)×Z74) ⊕ (Bool×Unit))):=(fun(a:Int)(b:LI)(c d:Int)(e:Z14)=>cond (decide (d<c)) ((m0k b d).bind fun x8=>(a3e (x8,e.1)).bind fun y9=>cond (!y9) (some (.inr (Sum.inr ((false,()))))) (some (.inl (s.1,s.2.1,a,b,c,wrap .i64 (d+1),e,())))) (some (.inr (Sum.inl (s.1,s.2.1,a,e,()))))) s.2.2.1 s.2.2.2.1 s.2.2.2.2.1 s.2.2.2.2.2.1 s.2.2.2.2.2.2.1
def a3w(s:((List LI)×Z74)):Option (((List LI)×Z74) ⊕ Z0):=cond (decide (s.2.2.1<s.2.1)) ((m0k s.1 s.2.2.1).bind fun x6=>(a4o s.2.2.2.1).bind fun y7=>cond ((x6.length:Int) != y7) (some (.inr (Sum.inr ((false,()))))) ((y0s a3v (s.1,s.2.1,s.2.2.1,x6,(x6.length:Int),0,s.2.2.2.1,())).bind fun w10=>match w10 with |.inl a11=>some (.inl (a11.1,a11.2.1,wrap .i64 (a11.2.2.1+1),a11.2.2.2.1,())) |.inr b12=>some (.inr (Sum.inr ((b12.1,())))))) (some (.inr (Sum.inl ())))
def a5H(x:Z14):Option Bool:=(show Option Z61 from(a5p x.1).bind fun y1=>cond (!y1) (some (true,x,())) (cond (decide ((x.2.1.length:Int)<1)) (some (true,x,())) (some (decide ((x.2.1.length:Int) > 8),x,())))).bind fun z2=>cond z2.1 (some false) ((show Option Z61 from(a4o z2.2.1).bind fun y3=>cond (decide (y3<1)) (some (true,z2.2.1,())) ((a4o z2.2.1).bind fun y4=>some (decide (y4 > 4096),z2.2.1,()))).bind fun z5=>cond z5.1 (some false) ((y0s a3w (z5.2.1.2.1,(z5.2.1.2.1.length:Int),0,z5.2.1,())).bind fun w13=>match w13 with |.inl a14=>some true |.inr b15=>some b15.1))
def c1W:FSem:=⟨[.v Q12],[.v .bool],a5H⟩
def H39:Hints:=⟨[(122,[.sv 32 (.list false QL),33,34,.vp 1 Q12],[Qe 0 [],Qr [.sv 2 .bool]]),(62670,[.sv 32 (.list false QL),33,34,.sv 43 QL,44,45,.vp 1 Q12],[Qe 2 [.sv 32 (.list false QL),33,34,.vp 1 Q12],Qr [.sv 2 .bool]])],[(6,[Qn [.sv 22 .bool,.vp 1 Q12]]),(14,[Qn [.sv 30 .bool,.vp 1 Q12]])],[]⟩
def a5q(x:Z8):Option Bool:=cond (decide (1≤x.1)) (cond (decide (x.1≤1048576)) (cond (decide (1≤x.2.1)) (cond (decide (x.2.1≤8)) ((a5p x.2.2.1).bind fun y1=>some y1) (some false)) (some false)) (some false)) (some false)
def b8T:FSem:=⟨[.v Q10],[.v .bool],a5q⟩
def a6W(x:Int):Option Bool:=cond (decide ((-1073741824)≤x)) (some (decide (x<1073741824))) (some false)
def c1X:FSem:=⟨[.v QI],[.v .bool],a6W⟩
def a3x(s:((List LI)×((List LI)×Z53))):Option (((List LI)×((List LI)×Z53)) ⊕ (((List LI)×Z30) ⊕ (Bool×Unit))):=(fun(a b:Int)(c:LI)(d e:Int)=>cond (decide (e<d)) ((m0k c e).bind fun x5=>(a6W x5).bind fun y6=>cond (!y6) (some (.inr (Sum.inr ((false,()))))) (some (.inl (s.1,s.2.1,a,b,c,d,wrap .i64 (e+1),())))) (some (.inr (Sum.inl (s.1,s.2.1,a,b,()))))) s.2.2.1 s.2.2.2.1 s.2.2.2.2.1 s.2.2.2.2.2.1 s.2.2.2.2.2.2.1
def a3y(s:((List LI)×Z30)):Option (((List LI)×Z30) ⊕ Z0):=(fun(a b:Int)=>cond (decide (b<a)) ((m0k s.2.1 b).bind fun x3=>(m0k s.1 0).bind fun x4=>cond ((x3.length:Int) != (x4.length:Int)) (some (.inr (Sum.inr ((false,()))))) ((y0s a3x (s.1,s.2.1,a,b,x3,(x3.length:Int),0,())).bind fun w7=>match w7 with |.inl a8=>some (.inl (a8.1,a8.2.1,a8.2.2.1,wrap .i64 (a8.2.2.2.1+1),())) |.inr b9=>some (.inr (Sum.inr ((b9.1,())))))) (some (.inr (Sum.inl ())))) s.2.2.1 s.2.2.2.1
def a5I(x:(List LI)):Option Bool:=(show Option ((List LI)×(Bool×Unit))from cond (decide ((x.length:Int)<1)) (some (x,true,())) (cond (decide ((x.length:Int) > 8)) (some (x,true,())) ((m0k x 0).bind fun x1=>some (x,decide ((x1.length:Int) > 4096),())))).bind fun z2=>cond z2.2.1 (some false) ((y0s a3y (z2.1,z2.1,(z2.1.length:Int),0,())).bind fun w10=>match w10 with |.inl a11=>some true |.inr b12=>some b12.1)
def b4q:FSem:=⟨[.v (.list false QL)],[.v .bool],a5I⟩
def d3a:Hints:=⟨[(58,[.sv 0 (.list false QL),.sv 22 (.list false QL),23,24],[Qe 0 [],Qr [.sv 2 .bool]]),(29902,[.sv 0 (.list false QL),.sv 22 (.list false QL),23,24,.sv 35 QL,36,37],[Qe 2 [.sv 0 (.list false QL),.sv 22 (.list false QL),23,24],Qr [.sv 2 .bool]])],[(6,[Qn [.sv 0 (.list false QL),.sv 21 .bool]])],[]⟩
def a5r(s:(Int×Z77)):Option ((Int×Z77) ⊕ Z0):=(fun(a:Int)(b:Z19)(c d:Int)=>cond (decide (d<c)) ((m0k b d).bind fun x2=>(show Option (Int×Z19×Int×Int×Bool×Z27)from cond (decide (x2.1<0)) (some (a,b,c,d,true,x2,())) (cond (decide (x2.1≥a)) (some (a,b,c,d,true,x2,())) (cond (decide (x2.2.1<0)) (some (a,b,c,d,true,x2,())) (cond (decide (x2.2.1≥a)) (some (a,b,c,d,true,x2,())) (some (a,b,c,d,x2.1==x2.2.1,x2,())))))).bind fun z3=>cond z3.2.2.2.2.1 (some (.inr (Sum.inr ((false,()))))) ((show Option (Int×Z19×Z10)from cond (decide (z3.2.2.2.2.2.1.2.2.1<(-1024))) (some (z3.1,z3.2.1,z3.2.2.1,z3.2.2.2.1,true,())) (some (z3.1,z3.2.1,z3.2.2.1,z3.2.2.2.1,decide (z3.2.2.2.2.2.1.2.2.1 > 1024),()))).bind fun z4=>cond z4.2.2.2.2.1 (some (.inr (Sum.inr ((false,()))))) (some (.inl (z4.1,z4.2.1,z4.2.2.1,wrap .i64 (z4.2.2.2.1+1),()))))) (some (.inr (Sum.inl ())))) s.1 s.2.1 s.2.2.1 s.2.2.2.1
def a6B(x:(Z19×Int)):Option Bool:=(show Option (Z19×Int×Bool×Unit)from cond (decide (x.2<1)) (some (x.1,x.2,true,())) (cond (decide (x.2 > 8)) (some (x.1,x.2,true,())) (some (x.1,x.2,decide ((x.1.length:Int) > 16),())))).bind fun z1=>cond z1.2.2.1 (some false) ((y0s a5r (z1.2.1,z1.1,(z1.1.length:Int),0,())).bind fun w5=>match w5 with |.inl a6=>some true |.inr b7=>some b7.1)
def b5L:FSem:=⟨[.v (.list false Q10),.v QI],[.v .bool],a6B⟩
def d3b:Hints:=⟨[(58,[1,.sv 18 (.list false Q10),19,20],[Qe 0 [],Qr [.sv 4 .bool]])],[(6,[Qn [.sv 0 (.list false Q10),1,.sv 17 .bool]]),(7474,[Qn [1,.sv 18 (.list false Q10),19,20,.sv 50 .bool,.box 6 Q10,Qp 6 6]]),(7475,[Qn [1,.sv 18 (.list false Q10),19,20,.sv 58 .bool]])],[]⟩
def a5c(s:((List LI)×Z31)):Option (((List LI)×Z31) ⊕ Z3):=cond (decide (s.2.2.1<s.2.1)) ((m0k s.1 s.2.2.1).bind fun x1=>(a0X x1).bind fun y2=>cond (lim ((a02 s.2.2.2.1)+(a02 (a05 ([[]]:List LI) 0 y2)))) (some (.inl (s.1,s.2.1,wrap .i64 (s.2.2.1+1),a04 s.2.2.2.1 (a05 ([[]]:List LI) 0 y2),()))) none) (some (.inr (s.2.2.2.1,())))
def a5s(x:(List LI)):Option (List LI):=(y0s a5c (x,(x.length:Int),0,([]:(List LI)),())).bind fun w3=>some w3.1
def b2h:FSem:=⟨[.v (.list false QL)],[.o (.list true QI)],a5s⟩
def d3c:Hints:=⟨[(58,[.sv 6 (.list false QL),7,8,.own 3 3 (.list true QI)],[Qe 0 [.own 3 3 (.list true QI)]])],[],[]⟩
def a2W(s:(Int×(Int×(Int×((List LI)×(Z8×Int×Unit)))))):Option ((Int×(Int×(Int×((List LI)×(Z8×Int×Unit))))) ⊕ (Z3 ⊕ (Bool×Z3))):=(fun(a:Int)(b:List LI)(c:Z8)(d:Int)=>cond (decide (a<s.2.1)) (cond ((decide (0≤a))&&(decide (a<((a02 (a03 b (a00 d) []):Nat):Int)))) (cond ((decide (0≤c.2.1))&&(decide (c.2.1<(b.length:Int)))) (cond ((decide (0≤a))&&(decide (a<((a02 (a03 b (a00 c.2.1) []):Nat):Int)))) ((a6W (wrap .i64 ((a03 (a03 b (a00 c.2.1) []) (a00 a) 0)+(wrap .i64 (s.1*(A0o .i64 (wrap .i64 (c.2.2.1*(a03 (a03 b (a00 d) []) (a00 a) 0))) 8)))))).bind fun y1=>cond (!y1) (some (.inr (Sum.inr ((false,b,()))))) (cond ((decide (0≤c.2.1))&&(decide (c.2.1<(b.length:Int)))) (cond ((decide (0≤a))&&(decide (a<((a02 (a03 b (a00 c.2.1) []):Nat):Int)))) (some (.inl (s.1,s.2.1,wrap .i64 (a+1),a05 b (a00 c.2.1) (a05 (a03 b (a00 c.2.1) []) (a00 a) (wrap .i64 ((a03 (a03 b (a00 c.2.1) []) (a00 a) 0)+(wrap .i64 (s.1*(A0o .i64 (wrap .i64 (c.2.2.1*(a03 (a03 b (a00 d) []) (a00 a) 0))) 8)))))),c,((a00 d:Nat):Int),()))) none) none)) none) none) none) (some (.inr (Sum.inl (b,()))))) s.2.2.1 s.2.2.2.1 s.2.2.2.2.1 s.2.2.2.2.2.1
def a6k(x:((List LI)×(Z8×Int))):Option (Bool×(List LI)):=cond ((decide (0≤x.2.1.1))&&(decide (x.2.1.1<(x.1.length:Int)))) ((y0s a2W (x.2.2,((a02 (a03 x.1 (a00 x.2.1.1) []):Nat):Int),0,x.1,x.2.1,((a00 x.2.1.1:Nat):Int),())).bind fun w2=>match w2 with |.inl a3=>some (true,a3.1) |.inr b4=>some (b4.1,b4.2.1)) none
def b2S:FSem:=⟨[.r false (.o (.list true QI)),.v Q10,.v QI],[.v .bool],a6k⟩
def d3d:Hints:=⟨[(26,[2,15,16,.own 0 pinned (.list true QI),.vp 4 Q10,.rfi 14 pinned],[Qe 0 [.own 0 pinned (.list true QI)],Qr [.sv 6 .bool,.own 0 pinned (.list true QI)]])],[],[(4,[.q,.v,.v,.q,.q,.v,.q,.q,.v,.v,.v,.v,.v,.v,.v,.x,.x])]⟩
def c0F(s:(Z19×Z31)):Option ((Z19×Z31) ⊕ (Z3 ⊕ Z15)):=cond (decide (s.2.2.1<s.2.1)) ((m0k s.1 s.2.2.1).bind fun x5=>(a6k (s.2.2.2.1,x5,1)).bind fun y6=>cond (!y6.1) (some (.inr (Sum.inr ((([]:(List LI)),6,()))))) (some (.inl (s.1,s.2.1,wrap .i64 (s.2.2.1+1),y6.2,())))) (some (.inr (Sum.inl (s.2.2.2.1,()))))
def b2T(x:Z66):Option ((List LI)×Int):=(show Option ((List LI)×(Z19×Bool×Unit))from(a5I x.1).bind fun y1=>cond (!y1) (some (x.1,x.2,true,())) ((a6B (x.2,(x.1.length:Int))).bind fun y2=>some (x.1,x.2,!y2,()))).bind fun z3=>cond z3.2.2.1 (some (([]:(List LI)),1)) ((a5s z3.1).bind fun y4=>(y0s c0F (z3.2.1,(z3.2.1.length:Int),0,y4,())).bind fun w7=>match w7 with |.inl a8=>some (a8.1,0) |.inr b9=>some (b9.1,b9.2.1))
def c4P:FSem:=⟨[.v (.list false QL),.v (.list false Q10)],[.v (.list false QL),.v QI],b2T⟩
def H43:Hints:=⟨[(122,[.sv 21 (.list false Q10),22,23,.own 6 6 (.list true QI)],[Qe 0 [.own 6 6 (.list true QI)],Qr [.sv 4 (.list false QL),5]])],[(6,[Qn [.sv 0 (.list false QL),.sv 1 (.list false Q10),.sv 18 .bool]])],[]⟩
def b4R(s:(Int×(LI×Z50))):Option ((Int×(LI×Z50)) ⊕ Z50):=(fun(a:LI)(b:Int)(c:List LI)(d e:Int)=>cond (decide (b<(a.length:Int))) ((m0k a b).bind fun x3=>(m0k a (wrap .i64 (b-1))).bind fun x4=>(m0k a (wrap .i64 (b-2))).bind fun x5=>some (.inl (wrap .i64 (s.1+(v0r (wrap .i64 ((wrap .i64 (x3-(wrap .i64 (2*x4))))+x5)) (wrap .i64 (0-(wrap .i64 ((wrap .i64 (x3-(wrap .i64 (2*x4))))+x5)))))),a,wrap .i64 (b+1),c,d,e,()))) (some (.inr (s.1,c,d,e,())))) s.2.1 s.2.2.1 s.2.2.2.1 s.2.2.2.2.1 s.2.2.2.2.2.1
def b4S(s:Z50):Option (Z50 ⊕ (Int×Unit)):=(fun(a b:Int)=>cond (decide (b<a)) ((m0k s.2.1 b).bind fun x2=>(y0s b4R (s.1,x2,2,s.2.1,a,b,())).bind fun w6=>some (.inl (w6.1,w6.2.1,w6.2.2.1,wrap .i64 (w6.2.2.2.1+1),()))) (some (.inr (s.1,())))) s.2.2.1 s.2.2.2.1
def a9c(x:(List LI)):Option Int:=(a5I x).bind fun y1=>cond (!y1) (some 0) ((y0s b4S (0,x,(x.length:Int),0,())).bind fun w7=>some w7.1)
def b8U:FSem:=⟨[.v (.list false QL)],[.v QI],a9c⟩
def d3e:Hints:=⟨[(122,[3,.sv 11 (.list false QL),12,13],[Qe 0 [3]]),(31334,[3,.sv 5 QL,6,.sv 11 (.list false QL),12,13],[Qe 2 [3,.sv 11 (.list false QL),12,13]])],[],[(10,[.v,.v,.v,.v,.v,.v,.v,.v,.v,.v,.v,.v,.v,.v,.v,.v,.x,.x])]⟩
def a9G(x:Int):Option Z19:=cond (x==1) (some ([(0,1,(-256),())]:List Z8)) (cond (x==2) (some ([(1,0,(-256),())]:List Z8)) (cond (x==3) (some ([(1,0,(-256),()),(0,1,128,())]:List Z8)) (cond (x==4) (some ([(1,0,(-106),()),(0,1,181,()),(1,0,(-106),())]:List Z8)) (some []))))
def c0G:FSem:=⟨[.v QI],[.o Q10],a9G⟩
def b7p(s:((List LI)×Z8)):Option (((List LI)×Z8) ⊕ (Int×Unit)):=(fun(a:List LI)(b c d:Int)=>cond (decide (d<5)) ((a9G d).bind fun y2=>(b2T (a,y2)).bind fun y3=>cond (y3.2 != 0) (some (.inl (a,b,c,wrap .i64 (d+1),()))) ((a9c y3.1).bind fun y4=>cond (decide (y4<c)) (some (.inl (a,d,y4,wrap .i64 (d+1),()))) (some (.inl (a,b,c,wrap .i64 (d+1),()))))) (some (.inr (b,())))) s.1 s.2.1 s.2.2.1 s.2.2.2.1
def b4r(x:(List LI)):Option Z19:=(a9c x).bind fun y1=>(y0s b7p (x,0,y1,1,())).bind fun w5=>(a9G w5.1).bind fun y6=>some y6
def c1Y:FSem:=⟨[.v (.list false QL)],[.o Q10],b4r⟩
def d3f:Hints:=⟨[(58,[.sv 0 (.list false QL),3,4,5],[Qe 0 [3]])],[],[]⟩
def b7q(s:(Int×Int×Int×Z19×b9H)):Option ((Int×Int×Int×Z19×b9H) ⊕ (Int×b9H)):=(fun(a b:Int)(c d:Z19)(e:Z14)=>cond (decide (b<s.2.1)) (cond ((decide (0≤b))&&(decide (b<(d.length:Int)))) (cond (lim ((a02 c)+1)) (some (.inl (a,s.2.1,wrap .i64 (b+1),a04 c ([(wrap .i64 (((a03 d (a00 b) (0,0,0,())).1)+a),wrap .i64 ((((a03 d (a00 b) (0,0,0,())).2).1)+a),(((a03 d (a00 b) (0,0,0,())).2).2).1,())]:List Z8),d,e,()))) none) none) (some (.inr (a,c,e,())))) s.1 s.2.2.1 s.2.2.2.1 s.2.2.2.2.1 s.2.2.2.2.2.1
def b7r(s:(Int×b9H)):Option ((Int×b9H) ⊕ (Z19×Unit)):=(fun(a:Int)(b:Z14)=>cond (decide ((wrap .i64 (a+1))<(b.2.1.length:Int))) (cond ((decide (0≤(wrap .i64 (a+2))))&&(decide ((wrap .i64 (a+2))≤(b.2.1.length:Int)))) (cond ((decide (0≤a))&&(decide (a≤((a00 (wrap .i64 (a+2)):Nat):Int)))) ((b4r (a07 (a00 a) (a06 (a00 (wrap .i64 (a+2))) b.2.1))).bind fun y2=>(y0s b7q (a,(y2.length:Int),0,s.2.1,y2,b,())).bind fun w3=>some (.inl (wrap .i64 (w3.1+2),w3.2.1,w3.2.2.1,()))) none) none) (some (.inr (s.2.1,())))) s.1 s.2.2.1
def b4s(x:Z14):Option Z19:=(a5H x).bind fun y1=>cond (!y1) (some []) ((y0s b7r (0,[],x,())).bind fun w4=>some w4.1)
def c1Z:FSem:=⟨[.v Q12],[.o Q10],b4s⟩
def H42:Hints:=⟨[(122,[4,.own 3 3 Q10,.vp 1 Q12],[Qe 0 [.own 3 3 Q10]]),(7826,[4,25,26,.own 3 3 Q10,.own 24 1024 Q10,.vp 1 Q12],[Qe 2 [4,.own 3 3 Q10,.vp 1 Q12]])],[],[]⟩
def b5M(s:(Int×((List LI)×(Int×c3u)))):Option ((Int×((List LI)×(Int×c3u))) ⊕ (c5O ⊕ (Int×a8i))):=(fun(a b:Int)(c d:a1O)=>cond (decide (b<a)) ((m0k s.2.1 b).bind fun x8=>(b5K (x8,s.1)).bind fun y9=>cond (y9.2 != 0) (some (.inr (Sum.inr ((y9.2,(0,0,(0,0,0,()),[],[],()),()))))) (cond (lim ((a02 d.2.2.2.2.1)+1)) (some (.inl (s.1,s.2.1,a,wrap .i64 (b+1),c,(d.1,d.2.1,d.2.2.1,d.2.2.2.1,a04 d.2.2.2.2.1 ([y9.1]:List a0W),d.2.2.2.2.2),()))) none)) (some (.inr (Sum.inl (c,d,()))))) s.2.2.1 s.2.2.2.1 s.2.2.2.2.1 s.2.2.2.2.2.1
def b2U(x:(Z14×Z8×Int×Int)):Option (a1O×Int):=(fun(a:Z14)(b:Z8)(c:Int)=>(show Option (Int×Int×Bool×a1O×Z14×Z27)from(a5H a).bind fun y1=>cond (!y1) (some (c,x.2.2.2,true,(0,0,(0,0,0,()),[],[],()),a,b,())) ((a5q b).bind fun y2=>cond (!y2) (some (c,x.2.2.2,true,(0,0,(0,0,0,()),[],[],()),a,b,())) (cond (a.1 != b.2.2.1) (some (c,x.2.2.2,true,(0,0,(0,0,0,()),[],[],()),a,b,())) (cond ((a.2.1.length:Int) != b.2.1) (some (c,x.2.2.2,true,(0,0,(0,0,0,()),[],[],()),a,b,())) (cond (decide (x.2.2.2<0)) (some (c,x.2.2.2,true,(0,0,(0,0,0,()),[],[],()),a,b,())) (cond (decide (x.2.2.2 > 3)) (some (c,x.2.2.2,true,(0,0,(0,0,0,()),[],[],()),a,b,())) (some (c,x.2.2.2,decide (c<0),(0,0,(0,0,0,()),[],[],()),a,b,())))))))).bind fun z3=>cond z3.2.2.1 (some ((0,0,(0,0,0,()),[],[],()),1)) ((a4o z3.2.2.2.2.1).bind fun y4=>cond (decide (z3.1 > (wrap .i64 (4194304-y4)))) (some ((0,0,(0,0,0,()),[],[],()),4)) ((show Option (Int×a1O×a1O×Z35)from cond (decide (z3.2.1 > 0)) ((b4s z3.2.2.2.2.1).bind fun y5=>some (z3.2.1,z3.2.2.2.1,(z3.1,y4,z3.2.2.2.2.2.1,y5,[],()),z3.2.2.2.2.1,())) (some (z3.2.1,z3.2.2.2.1,(z3.1,y4,z3.2.2.2.2.2.1,[],[],()),z3.2.2.2.2.1,()))).bind fun z6=>(b2T (z6.2.2.2.1.2.1,z6.2.2.1.2.2.2.1)).bind fun y7=>cond (y7.2 != 0) (some ((0,0,(0,0,0,()),[],[],()),y7.2)) ((y0s b5M (z6.1,y7.1,(y7.1.length:Int),0,z6.2.1,z6.2.2.1,())).bind fun w10=>match w10 with |.inl a11=>some (a11.2.1,0) |.inr b12=>some (b12.2.1,b12.1))))) x.1 x.2.1 x.2.2.1
def c0H:FSem:=⟨[.v Q12,.v Q10,.v QI,.v QI],[.v Q72,.v QI],b2U⟩
def H12:Hints:=⟨[(2042,[3,.sv 81 (.list false QL),82,83,.box 8 Q72,.box 10 Q71,Qp 8 8,Qp 10 10],[Qe 0 [.box 8 Q72,.box 10 Q71,Qp 8 8,Qp 10 10],Qr [9,.box 8 Q72,Qp 8 8]])],[(6,[Qn [2,3,.sv 51 .bool,.box 8 Q72,.vp 4 Q12,.vp 5 Q10,Qp 8 8]]),(31,[Qn [3,.box 8 Q72,.box 10 Q71,.vp 4 Q12,Qp 8 8,Qp 10 10]])],[(3,[.v,.v,.v,.v,.v,.q,.x])]⟩
def a5t(x:a1O):Option Bool:=(a5q x.2.2.1).bind fun y1=>cond y1 (cond (decide (x.2.1≥1)) (cond (decide (x.2.1≤4096)) (cond (decide (x.1≥0)) (cond (decide (x.1≤(wrap .i64 (4194304-x.2.1)))) ((a6B (x.2.2.2.1,x.2.2.1.2.1)).bind fun y2=>some y2) (some false)) (some false)) (some false)) (some false)) (some false)
def b8V:FSem:=⟨[.v Q72],[.v .bool],a5t⟩
def a4I(k:Int)(v:Z8)(s:(Z19×Z64)):Option ((Z19×Z64) ⊕ (Ex×Z19×Z64)):=(a6k (s.2.2.2.1,v,(-1))).bind fun y5=>cond (!y5.1) (some (.inr (.ret,s.1,([]:(List LI)),6,y5.2,()))) (some (.inl (s.1,s.2.1,s.2.2.1,y5.2,())))
def a8B(x:Z66):Option ((List LI)×Int):=(show Option ((List LI)×(Z19×Bool×Z15))from(a5I x.1).bind fun y1=>cond (!y1) (some (x.1,x.2,true,([]:(List LI)),0,())) ((a6B (x.2,(x.1.length:Int))).bind fun y2=>some (x.1,x.2,!y2,([]:(List LI)),0,()))).bind fun z3=>cond z3.2.2.1 (some (([]:(List LI)),1)) ((a5s z3.1).bind fun y4=>cond (lim (a02 z3.2.1)) ((l0f a4I z3.2.1 (a02 z3.2.1) (z3.2.1,z3.2.2.2.1,z3.2.2.2.2.1,y4,())).bind fun w6=>match w6 with |.inl a7=>some (a7.2.2.2.1,0) |.inr (.normal,a8)=>some (a8.2.2.2.1,0) |.inr (.exit e9,a8)=>(cond (e9==0) (some (a8.2.2.2.1,0)) none) |.inr (.ret,a8)=>some (a8.2.1,a8.2.2.1)) none)
def a8C:FSem:=⟨[.v (.list false QL),.v (.list false Q10)],[.v (.list false QL),.v QI],a8B⟩
def H73:Hints:=⟨[],[(6,[Qn [.sv 0 (.list false QL),.sv 1 (.list false Q10),.sv 18 .bool,.box 4 (.list false QL),.box 5 QI,Qp 4 4,Qp 5 5]])],[]⟩
def c8h:Cx:=b2E [(106,b4q),(107,b5L),(108,b2h),(109,b2S)] [(6,.list true (.list true QI))] 3 536870912
def R73:HintR:=⟨21,Q10,156,238,[4,5,6],[.sv 21 (.list false Q10),.box 1001004 (.list false QL),.box 1001005 QI,.box 1001006 (.list true (.list true QI)),.ptr 4 1001004 [],.ptr 5 1001005 [],.ptr 6 1001006 []]⟩
theorem d3g(x):z0h c8h H73 R73 Tryz.f73 a8C.ps a8C.rs x=a8C.F x:=by kernel_rfl
def a3C(s:(a8h×Int×c3p)):Option ((a8h×Int×c3p) ⊕ (c5N ⊕ Z57)):=(fun(a:Int)(b:List LI)(c:Z14)(d:a1O)=>cond (decide (a<s.2.1)) ((m0k s.1 a).bind fun x3=>(a8P (x3,d.2.1)).bind fun y4=>cond (y4.2 != 0) (some (.inr (Sum.inr ((1,(0,([]:(List LI)),()),()))))) (cond (lim ((a02 b)+1)) (some (.inl (s.1,s.2.1,wrap .i64 (a+1),a04 b ([y4.1]:List LI),c,d,()))) none)) (some (.inr (Sum.inl (b,c,d,()))))) s.2.2.1 s.2.2.2.1 s.2.2.2.2.1 s.2.2.2.2.2.1
def a5u(x:a1O):Option (Z14×Int):=(show Option (Bool×c5M)from(a5t x).bind fun y1=>cond (!y1) (some (true,(0,([]:(List LI)),()),x,())) (some ((x.2.2.2.2.1.length:Int) != x.2.2.1.2.1,(0,([]:(List LI)),()),x,()))).bind fun z2=>cond z2.1 (some ((0,([]:(List LI)),()),1)) (cond ((decide (0≤(z2.2.2.1.2.2.2.2.1.length:Int)))&&(lim (a00 (z2.2.2.1.2.2.2.2.1.length:Int)))) ((y0s a3C (z2.2.2.1.2.2.2.2.1,(z2.2.2.1.2.2.2.2.1.length:Int),0,([]:(List LI)),z2.2.1,z2.2.2.1,())).bind fun w5=>match w5 with |.inl a6=>((a8B (a6.1,a6.2.2.1.2.2.2.1)).bind fun y8=>cond (y8.2 != 0) (some ((0,([]:(List LI)),()),1)) ((a5H (a6.2.2.1.2.2.1.2.2.1,y8.1,())).bind fun y9=>cond (!y9) (some ((0,([]:(List LI)),()),1)) (some ((a6.2.2.1.2.2.1.2.2.1,y8.1,()),0)))) |.inr b7=>some (b7.2.1,b7.1)) none)
def b8W:FSem:=⟨[.v Q72],[.v Q12,.v QI],a5u⟩
def H22:Hints:=⟨[(122,[.sv 30 (.list false Q50),31,32,.own 4 4 QL,.box 2 Q12,.vp 1 Q72,Qp 2 2],[Qe 0 [.own 4 4 QL,.box 2 Q12,.vp 1 Q72,Qp 2 2],Qr [3,.box 2 Q12,Qp 2 2]])],[(6,[Qn [.sv 23 .bool,.box 2 Q12,.vp 1 Q72,Qp 2 2]])],[]⟩
def a5J(x:a1O):Option Bool:=(a5u x).bind fun y1=>some (y1.2==0)
def c2a:FSem:=⟨[.v Q72],[.v .bool],a5J⟩
def b1c(s:Z23):Option (Z23 ⊕ Z23):=cond ((a08 s.1.2.1 8) != 0) ((a3j (s.1,0)).bind fun y2=>some (.inl (y2,()))) (some (.inr (s.1,())))
def a8e(x:Z5):Option Z5:=(y0s b1c (x,())).bind fun w3=>some w3.1
def b2z:FSem:=⟨[.r false (.b Q7)],[],a8e⟩
def H46:Hints:=⟨[(2,[.box pinned Q7,Qp 0 pinned],[Qe 0 [.box pinned Q7]])],[],[]⟩
def a8f(x:Z5):Option (LI×Z5):=cond (lim (a02 x.1)) (some (x.1,x)) none
def b2A:FSem:=⟨[.r false (.b Q7)],[.o QV],a8f⟩
def b4t(x:Int):Option Int:=cond (decide (x≥0)) (some (wrap .u64 (2*(wrap .u64 x)))) (some (wrap .u64 ((wrap .u64 (2*(wrap .u64 (wrap .i64 (0-(wrap .i64 (x+1)))))))+1)))
def c2b:FSem:=⟨[.v QI],[.v QU],b4t⟩
def b7s(s:Z67):Option (Z67 ⊕ Z67):=(fun(a b c:Int)(d:LI)=>cond (decide (a≥128)) (cond (lim ((a02 d)+1)) (some (.inl (wrap .u64 (a09 a 128),s.2.1,b,c,a04 d [wrap .u8 ((wrap .u8 (a08 a 128))+128)],()))) none) (some (.inr (a,s.2.1,b,c,d,())))) s.1 s.2.2.1 s.2.2.2.1 s.2.2.2.2.1
def b7t(s:Z46):Option (Z46 ⊕ (LI×Unit)):=cond (decide (s.2.2.1<s.2.1)) ((m0k s.1 s.2.2.1).bind fun x1=>(y0s b7s (x1,s.1,s.2.1,s.2.2.1,s.2.2.2.1,())).bind fun w2=>cond (lim ((a02 w2.2.2.2.2.1)+1)) (some (.inl (w2.2.1,w2.2.2.1,wrap .i64 (w2.2.2.2.1+1),a04 w2.2.2.2.2.1 [wrap .u8 w2.1],()))) none) (some (.inr (s.2.2.2.1,())))
def b4u(x:LI):Option LI:=(y0s b7t (x,(x.length:Int),0,[],())).bind fun w3=>some w3.1
def c2c:FSem:=⟨[.v (.list false QU)],[.o QV],b4u⟩
def d3h:Hints:=⟨[(58,[.sv 6 (.list false QU),7,8,.own 3 3 QV],[Qe 0 [.own 3 3 QV]]),(14948,[.sv 5 QU,.sv 6 (.list false QU),7,8,.own 3 3 QV],[Qe 2 [.sv 5 QU,.sv 6 (.list false QU),7,8,.own 3 3 QV]])],[],[]⟩
def a7G(s:Z58):Option (Z58 ⊕ Z32):=(fun(a:Int)(b:LI)(c d e:Int)=>cond (decide (e<8)) (cond ((A0o .u8 a 7)==1) (some (.inl (bits .u8 .xor (A0n .u8 a 1) 7,b,c,d,wrap .i64 (e+1),()))) (some (.inl (A0n .u8 a 1,b,c,d,wrap .i64 (e+1),())))) (some (.inr (a,b,c,d,())))) s.1 s.2.1 s.2.2.1 s.2.2.2.1 s.2.2.2.2.1
def a5T(s:Z32):Option Z76:=(fun(a b:Int)=>cond (decide (b<a)) ((m0k s.2.1 b).bind fun x1=>(y0s a7G (bits .u8 .xor s.1 x1,s.2.1,a,b,0,())).bind fun w2=>some (.inl (w2.1,w2.2.1,w2.2.2.1,wrap .i64 (w2.2.2.2.1+1),()))) (some (.inr (s.1,())))) s.2.2.1 s.2.2.2.1
def a6l(x:LI):Option Int:=(y0s a5T (0,x,(x.length:Int),0,())).bind fun w3=>some w3.1
def c0I:FSem:=⟨[.v QB],[.v QV],a6l⟩
def d3i:Hints:=⟨[(58,[.sv 3 QV,.sv 7 QB,8,9],[Qe 0 [.sv 3 QV]]),(29902,[.sv 3 QV,.sv 7 QB,8,9,16],[Qe 2 [.sv 3 QV,.sv 7 QB,8,9]])],[],[]⟩
def b2V(s:(Int×Z19×Z17)):Option ((Int×Z19×Z17) ⊕ Z4):=(fun(a b:Int)(c:LI)=>cond (decide (b<a)) ((m0k s.2.1 b).bind fun x1=>(b4t x1.2.2.1).bind fun y2=>cond (lim ((a02 c)+3)) (some (.inl (s.1,s.2.1,a,wrap .i64 (b+1),a04 c [wrap .u64 x1.1,wrap .u64 x1.2.1,y2],()))) none) (some (.inr (s.1,c,())))) s.2.2.1 s.2.2.2.1 s.2.2.2.2.1
def b0E(x:(a1O×Int)):Option LI:=(y0s b2V (x.2,x.1.2.2.2.1,(x.1.2.2.2.1.length:Int),0,([wrap .u64 x.1.1,wrap .u64 x.1.2.1,wrap .u64 x.1.2.2.1.1,wrap .u64 x.1.2.2.1.2.1,wrap .u64 x.1.2.2.1.2.2.1,wrap .u64 (x.1.2.2.2.1.length:Int)]:List Int),())).bind fun w3=>cond (lim ((a02 w3.2.1)+1)) ((b4u (a04 w3.2.1 [wrap .u64 w3.1])).bind fun y4=>cond (lim (2+(a02 y4))) ((a6l (a04 [245,75] y4)).bind fun y5=>cond (lim ((a02 (a04 [245,75] y4))+1)) (some (a04 (a04 [245,75] y4) [y5])) none) none) none
def b5N:FSem:=⟨[.v Q72,.v QI],[.o QV],b0E⟩
def H48:Hints:=⟨[(58,[1,.sv 33 (.list false Q10),34,35,.own 5 5 QU],[Qe 0 [1,.own 5 5 QU]])],[],[(5,[.q,.q,.q,.v,.q,.q,.v,.q,.q,.v,.q,.x,.x])]⟩
def b2i(x:Int):Option Int:=some (v0s (v0r x 0) 8)
def b8X:FSem:=⟨[.v QI],[.v QI],b2i⟩
def b4T(s:Z33):Option (Z33 ⊕ (LI×Unit)):=cond (decide (s.2.2.1<s.2.1)) (cond (lim ((a02 s.2.2.2.1)+1)) (some (.inl (wrap .u64 (a09 s.1 256),s.2.1,wrap .i64 (s.2.2.1+1),a04 s.2.2.2.1 [wrap .u8 (a08 s.1 256)],()))) none) (some (.inr (s.2.2.2.1,())))
def b2j(x:(Int×Int)):Option LI:=(b2i x.2).bind fun y1=>(y0s b4T (x.1,y1,0,[],())).bind fun w2=>some w2.1
def b8Y:FSem:=⟨[.v QU,.v QI],[.o QV],b2j⟩
def H91:Hints:=⟨[(58,[.sv 0 QU,7,8,.own 5 5 QV],[Qe 0 [.own 5 5 QV]])],[],[]⟩
def a4s(x:LI):Option LI:=cond (decide (a02 x<2147483648)) (some (List.reverse x)) none
def a8b:FSem:=⟨[.r false (.o QV)],[],a4s⟩
def b4v(x:(Int×Int)):Option LI:=(b2j (x.1,x.2)).bind fun y1=>(a4s y1).bind fun y2=>some y2
def c2d:FSem:=⟨[.v QU,.v QI],[.o QV],b4v⟩
def a6O(s:Z58):Option (Z58 ⊕ Z32):=(fun(a:Int)(b:LI)(c d e:Int)=>cond (decide (e<8)) (cond ((A0o .u16 a 15)==1) (some (.inl (bits .u16 .xor (A0n .u16 a 1) 32773,b,c,d,wrap .i64 (e+1),()))) (some (.inl (A0n .u16 a 1,b,c,d,wrap .i64 (e+1),())))) (some (.inr (a,b,c,d,())))) s.1 s.2.1 s.2.2.1 s.2.2.2.1 s.2.2.2.2.1
def a4u(s:Z32):Option Z76:=(fun(a b:Int)=>cond (decide (b<a)) ((m0k s.2.1 b).bind fun x1=>(y0s a6O (bits .u16 .xor s.1 (A0n .u16 (wrap .u16 x1) 8),s.2.1,a,b,0,())).bind fun w2=>some (.inl (w2.1,w2.2.1,w2.2.2.1,wrap .i64 (w2.2.2.2.1+1),()))) (some (.inr (s.1,())))) s.2.2.1 s.2.2.2.1
def a4J(x:LI):Option Int:=(y0s a4u (0,x,(x.length:Int),0,())).bind fun w3=>some w3.1
def b7u:FSem:=⟨[.v QB],[.v (.int .u16)],a4J⟩
def H50:Hints:=⟨[(58,[.sv 3 (.int .u16),.sv 7 QB,8,9],[Qe 0 [.sv 3 (.int .u16)]]),(29902,[.sv 3 (.int .u16),.sv 7 QB,8,9,18],[Qe 2 [.sv 3 (.int .u16),.sv 7 QB,8,9]])],[],[]⟩
def b7v(s:(a8h×Int×Int×Z5×a8i)):Option ((a8h×Int×Int×Z5×a8i) ⊕ ((Z5×a8i) ⊕ Z4)):=(fun(a:Int)(b:Z5)(c:a1O)=>cond (decide (a<s.2.1)) ((m0k s.1 a).bind fun x2=>(b2K (b,x2,c.2.1)).bind fun y3=>cond (y3.1 != 0) (some (.inr (Sum.inr ((y3.1,[],()))))) (some (.inl (s.1,s.2.1,wrap .i64 (a+1),y3.2,c,())))) (some (.inr (Sum.inl (b,c,()))))) s.2.2.1 s.2.2.2.1 s.2.2.2.2.1
def b4w(x:a1O):Option (LI×Int):=(a5J x).bind fun y1=>cond (!y1) (some ([],1)) ((y0s b7v (x.2.2.2.2.1,(x.2.2.2.2.1.length:Int),0,([],0,()),x,())).bind fun w4=>match w4 with |.inl a5=>((a8e a5.1).bind fun y7=>(a8f y7).bind fun y8=>(b0E (a5.2.1,(y8.1.length:Int))).bind fun y9=>cond (lim ((a02 y9)+(a02 y8.1))) ((a4J (a04 y9 y8.1)).bind fun y10=>(b4v (wrap .u64 y10,2)).bind fun y11=>cond (lim ((a02 (a04 y9 y8.1))+(a02 y11))) (some (a04 (a04 y9 y8.1) y11,0)) none) none) |.inr b6=>some (b6.2.1,b6.1))
def c2e:FSem:=⟨[.v Q72],[.o QV,.v QI],b4w⟩
def H13:Hints:=⟨[(122,[.sv 14 (.list false Q50),15,16,.box 4 Q7,.vp 1 Q72,Qp 4 4],[Qe 0 [.box 4 Q7,.vp 1 Q72,Qp 4 4],Qr [3,.own 2 2 QV]])],[],[]⟩
def a8D(x:LI):Option Z16:=cond (lim (a02 x)) (some (x,0,0,())) none
def c2f:FSem:=⟨[.v QB],[.b Q13],a8D⟩
def a1R(s:Z32):Option (Z32 ⊕ (Unit ⊕ Z8)):=(fun(a:Int)(b:LI)(c d:Int)=>cond (decide (d<c)) ((m0k b d).bind fun x1=>(show Option (Int×Int×Int×Z37)from cond (d==9) (cond (decide (x1 > 1)) (some (a,d,x1,b,c,d,true,())) (cond (decide (d > 0)) (some (a,d,x1,b,c,d,x1==0,())) (some (a,d,x1,b,c,d,false,())))) (cond (decide (d > 0)) (some (a,d,x1,b,c,d,x1==0,())) (some (a,d,x1,b,c,d,false,())))).bind fun z2=>cond z2.2.2.2.2.2.2.1 (some (.inr (Sum.inr ((0,0,2,()))))) (cond (decide ((wrap .i64 (7*z2.2.1))<0)) none (cond (decide (z2.2.2.1<128)) (some (.inr (Sum.inr ((bits .u64 .or z2.1 (A0n .u64 (wrap .u64 (a08 z2.2.2.1 128)) (wrap .i64 (7*z2.2.1))),wrap .i64 (z2.2.1+1),0,()))))) (some (.inl (bits .u64 .or z2.1 (A0n .u64 (wrap .u64 (a08 z2.2.2.1 128)) (wrap .i64 (7*z2.2.1))),z2.2.2.2.1,z2.2.2.2.2.1,wrap .i64 (z2.2.2.2.2.2.1+1),())))))) (some (.inr (Sum.inl ())))) s.1 s.2.1 s.2.2.1 s.2.2.2.1
def a8j(x:LI):Option (Int×Int×Int):=(y0s a1R (0,x,(x.length:Int),0,())).bind fun w3=>match w3 with |.inl a4=>some (0,0,3) |.inr b5=>some (b5.1,b5.2.1,b5.2.2.1)
def b7w:FSem:=⟨[.v QB],[.v QU,.v QI,.v QI],a8j⟩
def d3j:Hints:=⟨[(58,[.sv 5 QU,.sv 8 QB,9,10],[Qe 0 [],Qr [.sv 2 QU,3,4]])],[(7474,[Qn [.sv 5 QU,6,.sv 7 QV,.sv 8 QB,9,10,.sv 28 .bool]])],[]⟩
def a0P(x:Z36):Option Z32:=cond (x.1.2.2.1 != 0) (some (0,x.1)) (cond ((decide (0≤x.1.2.1))&&(decide (x.1.2.1≤(x.1.1.length:Int)))) ((a8j (a07 (a00 x.1.2.1) (a06 (a02 x.1.1) x.1.1))).bind fun y1=>(show Option Z95 from cond (y1.2.2==0) (cond (decide (y1.1 > x.2)) (some (y1.1,y1.2.1,4,x.1,())) (some (y1.1,y1.2.1,y1.2.2,x.1,()))) (some (y1.1,y1.2.1,y1.2.2,x.1,()))).bind fun z2=>cond (z2.2.2.1 != 0) (some (0,z2.2.2.2.1.1,z2.2.2.2.1.2.1,z2.2.2.1,z2.2.2.2.1.2.2.2)) (some (z2.1,z2.2.2.2.1.1,wrap .i64 (z2.2.2.2.1.2.1+z2.2.1),z2.2.2.2.1.2.2))) none)
def b2W:FSem:=⟨[.r false (.b Q13),.v QU],[.v QU],a0P⟩
def d3k:Hints:=⟨[],[(15,[Qn [.sv 5 QU,6,7,.box pinned Q13,Qp 0 pinned]])],[(3,[.p,.p,.q,.q,.p,.p,.q,.q,.x,.x,.x,.v,.v,.v,.v,.v,.x])]⟩
def a4p(x:Int):Option Int:=cond ((a08 x 2)==0) (some (wrap .i64 (wrap .u64 (a09 x 2)))) (some (wrap .i64 ((wrap .i64 (0-(wrap .i64 (wrap .u64 (a09 x 2)))))-1)))
def c2g:FSem:=⟨[.v QU],[.v QI],a4p⟩
def a6m(x:Z16):Option Z32:=some (x.2.2.1,x)
def b2X:FSem:=⟨[.r false (.b Q13)],[.v QI],a6m⟩
def a5O(x:Z16):Option Z32:=some (wrap .i64 ((x.1.length:Int)-x.2.1),x)
def b2B:FSem:=⟨[.r false (.b Q13)],[.v QI],a5O⟩
def d3l:Hints:=⟨[],[],[(1,[.p,.p,.q,.q,.v,.p,.p,.q,.q,.x,.x])]⟩
def a6P(x:Z16):Option Z32:=some (x.2.1,x)
def b3X:FSem:=⟨[.r false (.b Q13)],[.v QI],a6P⟩
def a3W(s:(LI×(Int×Int×c3o))):Option ((LI×(Int×Int×c3o)) ⊕ (LI×c3o)):=(fun(a:Int)(b:a1O)(c:Z16)=>cond (decide (a<s.2.1)) ((a0P (c,7)).bind fun y11=>(a0P (y11.2,7)).bind fun y12=>(a0P (y12.2,2048)).bind fun y13=>(a4p y13.1).bind fun y14=>cond (lim ((a02 b.2.2.2.1)+1)) (some (.inl (s.1,s.2.1,wrap .u64 (a+1),(b.1,b.2.1,b.2.2.1,a04 b.2.2.2.1 ([(wrap .i64 y11.1,wrap .i64 y12.1,y14,())]:List Z8),b.2.2.2.2),y13.2,()))) none) (some (.inr (s.1,b,c,())))) s.2.2.1 s.2.2.2.1 s.2.2.2.2.1
def a3X(x:LI):Option (a1O×Int×Int×Int):=cond (decide ((x.length:Int)<2)) (some ((0,0,(0,0,0,()),[],[],()),0,0,3)) ((show Option (LI×(Bool×a8i))from(m0k x 0).bind fun x1=>cond (x1 != 245) (some (x,true,(0,0,(0,0,0,()),[],[],()),())) ((m0k x 1).bind fun x2=>some (x,x2 != 75,(0,0,(0,0,0,()),[],[],()),()))).bind fun z3=>cond z3.2.1 (some ((0,0,(0,0,0,()),[],[],()),0,0,2)) (cond (decide (2≤(z3.1.length:Int))) ((a8D (a07 2 (a06 (a02 z3.1) z3.1))).bind fun y4=>(a0P (y4,4194304)).bind fun y5=>(a0P (y5.2,4096)).bind fun y6=>(a0P (y6.2,1048576)).bind fun y7=>(a0P (y7.2,8)).bind fun y8=>(a0P (y8.2,24)).bind fun y9=>(a0P (y9.2,16)).bind fun y10=>(y0s a3W (z3.1,y10.1,0,(wrap .i64 y5.1,wrap .i64 y6.1,(wrap .i64 y7.1,wrap .i64 y8.1,wrap .i64 y9.1,z3.2.2.1.2.2.1.2.2.2),z3.2.2.1.2.2.2),y10.2,())).bind fun w15=>(a0P (w15.2.2.1,1048576)).bind fun y16=>(a6m y16.2).bind fun y17=>cond (y17.1 != 0) (some ((0,0,(0,0,0,()),[],[],()),0,0,y17.1)) ((a5O y17.2).bind fun y18=>cond (decide (y18.1<1)) (some ((0,0,(0,0,0,()),[],[],()),0,0,3)) ((a6P y18.2).bind fun y19=>cond ((decide (0≤(wrap .i64 (2+y19.1))))&&(decide ((wrap .i64 (2+y19.1))≤(w15.1.length:Int)))) ((a6l (a06 (a00 (wrap .i64 (2+y19.1))) w15.1)).bind fun y20=>(m0k w15.1 (wrap .i64 (2+y19.1))).bind fun x21=>cond (y20 != x21) (some ((0,0,(0,0,0,()),[],[],()),0,0,5)) ((a5t w15.2.1).bind fun y22=>cond (!y22) (some ((0,0,(0,0,0,()),[],[],()),0,0,2)) (some (w15.2.1,wrap .i64 ((wrap .i64 (2+y19.1))+1),wrap .i64 y16.1,0)))) none))) none))
def b5O:FSem:=⟨[.v QB],[.v Q70,.v QI,.v QI,.v QI],a3X⟩
def H51:Hints:=⟨[(8186,[.sv 0 QB,.sv 54 QU,.sv 55 QU,.box 2 Q69,.box 1029 Q13,Qp 2 2,Qp 6 1029],[Qe 0 [.sv 0 QB,.box 2 Q69,.box 1029 Q13,Qp 2 2,Qp 6 1029]])],[(14,[Qn [.sv 0 QB,.sv 25 .bool,.box 2 Q69,Qp 2 2]])],[(25,[.v,.v,.v,.v,.v,.v,.v,.v,.x])]⟩
def a9n(x:LI):Option Z16:=cond (lim (a02 x)) (some (x,0,0,())) none
def c3F:FSem:=⟨[.v QB],[.b Q13],a9n⟩
def a0F(x:Z16):Option Z32:=some (x.2.2.1,x)
def b3Y:FSem:=⟨[.r false (.b Q13)],[.v QI],a0F⟩
def a2c(x:Z16):Option Z32:=some (wrap .i64 ((wrap .i64 (8*(x.1.length:Int)))-x.2.1),x)
def b2Y:FSem:=⟨[.r false (.b Q13)],[.v QI],a2c⟩
def H54:Hints:=⟨[],[],[(1,[.p,.p,.q,.q,.v,.v,.p,.p,.q,.q,.x,.x])]⟩
def a0V(x:Z36):Option Z32:=(m0k x.1.1 (wrap .i64 (a09 x.2 8))).bind fun x1=>cond (decide ((wrap .i64 (7-(a08 x.2 8)))<0)) none (some (bits .u8 .and (A0o .u8 x1 (wrap .i64 (7-(a08 x.2 8)))) 1,x.1))
def b2Z:FSem:=⟨[.r false (.b Q13),.v QI],[.v QV],a0V⟩
def a3o(s:Z95):Option (Z95 ⊕ Z62):=cond (decide (s.2.2.1<s.2.1)) ((a0V (s.2.2.2.1,s.2.2.2.1.2.1)).bind fun y3=>some (.inl (bits .u64 .or (A0n .u64 s.1 1) (wrap .u64 y3.1),s.2.1,wrap .i64 (s.2.2.1+1),(y3.2.1,wrap .i64 (y3.2.2.1+1),y3.2.2.2),()))) (some (.inr (s.1,s.2.2.2.1,())))
def a0J(x:Z36):Option Z32:=cond (x.1.2.2.1 != 0) (some (0,x.1)) ((show Option Z79 from cond (decide (x.2<0)) (some (x.2,true,x.1,())) (some (x.2,decide (x.2 > 64),x.1,()))).bind fun z1=>cond z1.2.1 (some (0,z1.2.2.1.1,z1.2.2.1.2.1,1,z1.2.2.1.2.2.2)) ((a2c z1.2.2.1).bind fun y2=>cond (decide (z1.1 > y2.1)) (some (0,y2.2.1,y2.2.2.1,3,y2.2.2.2.2)) ((y0s a3o (0,z1.1,0,y2.2,())).bind fun w4=>some (w4.1,w4.2.1))))
def b3Z:FSem:=⟨[.r false (.b Q13),.v QI],[.v QU],a0J⟩
def d3m:Hints:=⟨[(506,[.sv 5 QU,27,28,.box pinned Q13,Qp 0 pinned],[Qe 0 [.sv 5 QU,.box pinned Q13]])],[(14,[Qn [1,.sv 16 .bool,.box pinned Q13,Qp 0 pinned]])],[]⟩
def a0N(x:Z36):Option Z32:=(a0J (x.1,x.2)).bind fun y1=>(show Option Z97 from cond (y1.2.2.2.1 != 0) (some (x.2,y1.1,true,y1.2,())) (some (x.2,y1.1,x.2==0,y1.2,()))).bind fun z2=>cond z2.2.2.1 (some (0,z2.2.2.2.1)) (cond (decide ((wrap .i64 (64-z2.1))<0)) none (cond (decide ((wrap .i64 (64-z2.1))<0)) none (some (A0o .i64 (wrap .i64 (A0n .u64 z2.2.1 (wrap .i64 (64-z2.1)))) (wrap .i64 (64-z2.1)),z2.2.2.2.1))))
def b1N:FSem:=⟨[.r false (.b Q13),.v QI],[.v QI],a0N⟩
def d3n:Hints:=⟨[],[(14,[Qn [1,.sv 5 QU,.sv 17 .bool,.box pinned Q13]])],[]⟩
def a4v(s:(Int×b6X)):Option ((Int×b6X) ⊕ (Int×b6W)):=(fun(a:Int)(b:Z16)(c:a0W)=>cond (decide (a<s.2.1)) ((a0N (b,s.1)).bind fun y4=>cond (lim ((a02 c.2.2.2.2.2.1)+1)) (some (.inl (s.1,s.2.1,wrap .i64 (a+1),y4.2,(c.1,c.2.1,c.2.2.1,c.2.2.2.1,c.2.2.2.2.1,a04 c.2.2.2.2.2.1 [y4.1],c.2.2.2.2.2.2),()))) none) (some (.inr (s.1,c,b,())))) s.2.2.1 s.2.2.2.1 s.2.2.2.2.1
def a6C(x:c3l):Option (Bool×c3l):=(a0J (x.1,5)).bind fun y1=>(a0J (y1.2,4)).bind fun y2=>(a0J (y2.2,5)).bind fun y3=>(y0s a4v (wrap .i64 y3.1,wrap .i64 ((wrap .i64 y1.1)+1),0,y3.2,(x.2.1,x.2.2.1,x.2.2.2.1,wrap .i64 y2.1,x.2.2.2.2.2),())).bind fun w5=>(a1w w5.2.1.2.2.2.2.2.1).bind fun y6=>some (y6==w5.1,w5.2.2.1,w5.2.1)
def b7x:FSem:=⟨[.r false (.b Q13),.r false (.b Q48)],[.v .bool],a6C⟩
def d3o:Hints:=⟨[(250,[6,20,21,.box pinned Q13,.box 1000001 Q48,Qp 0 pinned,Qp 1 1000001],[Qe 0 [6,.box 1000001 Q48,.box pinned Q13,Qp 1 1000001]])],[],[(6,[.p,.p,.p,.r [26,1000001],.r [27,1000001],.p,.v,.w [30,1030,pinned],.q,.a [31,32,1000001],.x,.x,.x])]⟩
def a2H(s:b6X):Option (b6X ⊕ c5L):=(fun(a:Int)(b:Z16)(c:a0W)=>cond (decide (a<3)) ((a0N (b,8)).bind fun y6=>cond ((decide (0≤a))&&(decide (a<3))) (some (.inl (s.1,wrap .i64 (a+1),y6.2,(c.1,c.2.1,c.2.2.1,c.2.2.2.1,c.2.2.2.2.1,c.2.2.2.2.2.1,a05 c.2.2.2.2.2.2.1 (a00 a) y6.1,c.2.2.2.2.2.2.2),()))) none) (some (.inr (s.1,b,c,())))) s.2.1 s.2.2.1 s.2.2.2.1
def a5d(s:(Int×Bool×b6X)):Option ((Int×Bool×b6X) ⊕ (Int×Bool×b6W)):=(fun(a b:Int)(c:Z16)(d:a0W)=>cond (decide (b<a)) ((a0J (c,5)).bind fun y15=>(a0J (y15.2,4)).bind fun y16=>cond (lim ((a02 d.2.2.2.2.2.2.2.1)+1)) (some (.inl (s.1,s.2.1,a,wrap .u64 (b+1),y16.2,(d.1,d.2.1,d.2.2.1,d.2.2.2.1,d.2.2.2.2.1,d.2.2.2.2.2.1,d.2.2.2.2.2.2.1,a04 d.2.2.2.2.2.2.2.1 ([(wrap .i64 ((wrap .i64 y15.1)+1),wrap .i64 y16.1,())]:List (Int×Int×Unit)),d.2.2.2.2.2.2.2.2),()))) none) (some (.inr (s.1,s.2.1,d,c,())))) s.2.2.1 s.2.2.2.1 s.2.2.2.2.1 s.2.2.2.2.2.1
def a2t(x:Z16):Option (a0W×Int×Bool×Z16):=(a0J (x,3)).bind fun y1=>(a0J (y1.2,5)).bind fun y2=>(a0J (y2.2,5)).bind fun y3=>(show Option (Int×Bool×b6W)from(show Option (c5L ⊕ ((Int×Bool×b6W) ⊕ (Int×Bool×c5K)))from cond ((wrap .i64 y1.1)==2) ((a0J (y3.2,3)).bind fun y4=>some (Sum.inr (Sum.inl (wrap .i64 y3.1,true,(wrap .i64 y1.1,wrap .i64 y2.1,wrap .i64 y4.1,0,0,[],a01 3 0,[],[],(0,[],()),[],()),y4.2,())))) (cond ((wrap .i64 y1.1)==4) ((a0J (y3.2,10)).bind fun y5=>(y0s a2H (wrap .i64 y3.1,0,y5.2,(wrap .i64 y1.1,wrap .i64 y2.1,0,0,wrap .i64 ((wrap .i64 y5.1)+1),[],a01 3 0,[],[],(0,[],()),[],()),())).bind fun w7=>some (Sum.inl (w7.1,w7.2.1,w7.2.2.1,()))) (cond ((wrap .i64 y1.1)==3) (some (Sum.inl (wrap .i64 y3.1,y3.2,(wrap .i64 y1.1,wrap .i64 y2.1,0,0,0,[],a01 3 0,[],[],(0,[],()),[],()),()))) (cond ((wrap .i64 y1.1)==5) (some (Sum.inr (Sum.inr ((wrap .i64 y3.1,true,y3.2,(wrap .i64 y1.1,wrap .i64 y2.1,0,0,0,[],a01 3 0,[],[],(0,[],()),[],()),()))))) (some (Sum.inr (Sum.inl (wrap .i64 y3.1,true,(wrap .i64 y1.1,wrap .i64 y2.1,0,0,0,[],a01 3 0,[],[],(0,[],()),[],()),y3.2,())))))))).bind fun z8=>match z8 with |.inl a9=>((a6C (a9.2.1,a9.2.2.1)).bind fun y11=>some (a9.1,y11.1,y11.2.2,y11.2.1,())) |.inr b10=>(match b10 with |.inl a12=>some (a12.1,a12.2.1,a12.2.2.1,a12.2.2.2.1,()) |.inr b13=>((a0J (b13.2.2.1,2)).bind fun y14=>(y0s a5d (b13.1,b13.2.1,y14.1,0,y14.2,b13.2.2.2.1,())).bind fun w17=>some (w17.1,w17.2.1,w17.2.2.1,w17.2.2.2.1,())))).bind fun z18=>some (z18.2.2.1,z18.1,z18.2.1,z18.2.2.2.1)
def b8Z:FSem:=⟨[.r false (.b Q13)],[.v (.pair QI (.pair QI (.pair QI (.pair QI (.pair QI (.pair QL (.pair (.arr 3 QI) (.pair (.list false Q5) Q18)))))))),.v QI,.v .bool],a2t⟩
def d3p:Hints:=⟨[(8106,[3,.sv 4 .bool,.sv 50 QU,.sv 51 QU,.box pinned Q13,.box 2 Q48,Qp 0 pinned,Qp 2 2],[Qe 7 [3,.sv 4 .bool,.box 2 Q48,.box pinned Q13,Qp 2 2]]),(129550,[3,38,.box pinned Q13,.box 2 Q48,Qp 0 pinned,Qp 2 2],[Qe 5 [3,.box pinned Q13,.box 2 Q48,Qp 0 pinned,Qp 2 2]])],[(63,[Qn [3,.sv 4 .bool,.box 2 Q48,.box pinned Q13,Qp 2 2]]),(2024,[Qn [3,.box pinned Q13,.box 2 Q48,Qp 0 pinned,Qp 2 2],Qe 0 [3,.sv 4 .bool,.box 2 Q48,.box pinned Q13,Qp 2 2],Qe 4 [3,.sv 4 .bool,.box pinned Q13,.box 2 Q48,Qp 0 pinned,Qp 2 2]])],[]⟩
def a1f(s:Z95):Option (Z95 ⊕ Z62):=(fun(a b:Int)(c:Z16)=>cond (b==(wrap .i64 (8*(c.1.length:Int)))) (some (.inr (0,(c.1,c.2.1,3,c.2.2.2),()))) ((a0V (c,b)).bind fun y2=>cond (y2.1==1) (some (.inr (a,(y2.2.1,wrap .i64 (b+1),y2.2.2.2),()))) (cond (a==s.1) (some (.inr (0,(y2.2.1,y2.2.2.1,2,y2.2.2.2.2),()))) (some (.inl (s.1,wrap .i64 (a+1),wrap .i64 (b+1),y2.2,())))))) s.2.1 s.2.2.1 s.2.2.2.1
def a1U(x:Z36):Option Z32:=cond (x.1.2.2.1 != 0) (some (0,x.1)) ((y0s a1f (v0r x.2 0,0,x.1.2.1,x.1,())).bind fun w3=>some (w3.1,w3.2.1))
def b2C:FSem:=⟨[.r false (.b Q13),.v QI],[.v QI],a1U⟩
def d3q:Hints:=⟨[(62,[1,5,6,.box pinned Q13,Qp 0 pinned],[Qr [4,.box pinned Q13]])],[],[(4,[.p,.p,.q,.q,.v,.x])]⟩
def a3f(x:Int):Option Int:=cond (decide (x≥2147483648)) (some 0) (cond ((a08 x 2)==0) (some (wrap .i64 (wrap .u64 (a09 x 2)))) (some (wrap .i64 ((wrap .i64 (0-(wrap .i64 (wrap .u64 (a09 x 2)))))-1))))
def b9a:FSem:=⟨[.v QU],[.v QI],a3f⟩
def a3p(x:Z36):Option Z53:=(a1U (x.1,32)).bind fun y1=>(a0F y1.2).bind fun y2=>cond (y2.1 != 0) ((a0F y2.2).bind fun y3=>some (0,y3.1,y3.2)) (cond (decide ((wrap .u64 y1.1)<32)) ((a0J (y2.2,x.2)).bind fun y4=>cond (decide (x.2<0)) none ((a3f (wrap .u64 ((A0n .u64 (wrap .u64 y1.1) x.2)+y4.1))).bind fun y5=>(a0F y4.2).bind fun y6=>some (y5,y6.1,y6.2))) ((a0J (y2.2,32)).bind fun y7=>(a0F y7.2).bind fun y8=>cond (y8.1 != 0) ((a0F y8.2).bind fun y9=>some (0,y9.1,y9.2)) ((show Option Z79 from cond (decide (y7.1≥2147483648)) (some (y7.1,true,y8.2,())) (cond (decide (x.2<0)) none (some (y7.1,decide ((A0o .u64 y7.1 x.2)<32),y8.2,())))).bind fun z10=>cond z10.2.1 (some (0,2,z10.2.2.1)) ((a3f z10.1).bind fun y11=>some (y11,0,z10.2.2.1)))))
def c3G:FSem:=⟨[.r false (.b Q13),.v QI],[.v QI,.v QI],a3p⟩
def d3r:Hints:=⟨[],[(254,[Qn [.sv 8 QU,.sv 44 .bool,.box pinned Q13]])],[]⟩
def a1o(s:b1K):Option (b1K ⊕ (Z75 ⊕ Z92)):=cond (decide (s.2.2.1<s.2.1)) ((a3p (s.2.2.2.2.1,s.1)).bind fun y5=>cond (y5.2.1 != 0) (some (.inr (Sum.inr ((y5.2.1,[],y5.2.2,()))))) (cond (lim ((a02 s.2.2.2.1)+1)) (some (.inl (s.1,s.2.1,wrap .i64 (s.2.2.1+1),a04 s.2.2.2.1 [y5.1],y5.2.2,()))) none)) (some (.inr (Sum.inl (s.2.2.2.1,s.2.2.2.2.1,()))))
def a6D(x:Z59):Option Z69:=(show Option Z97 from(a2G x.2.1).bind fun y1=>cond (!y1) (some (x.2.1,x.2.2,true,x.1,())) (cond (decide (x.2.2<0)) (some (x.2.1,x.2.2,true,x.1,())) (some (x.2.1,x.2.2,decide (x.2.2 > 4194304),x.1,())))).bind fun z2=>cond z2.2.2.1 (some ([],1,z2.2.2.2.1)) ((a0F z2.2.2.2.1).bind fun y3=>cond (y3.1 != 0) ((a0F y3.2).bind fun y4=>some ([],y4.1,y4.2)) ((y0s a1o (z2.1,z2.2.1,0,[],y3.2,())).bind fun w6=>match w6 with |.inl a7=>some (a7.1,0,a7.2.1) |.inr b8=>some (b8.2.1,b8.1,b8.2.2.1)))
def c3H:FSem:=⟨[.r false (.b Q13),.v QI,.v QI],[.o QI,.v QI],a6D⟩
def d3s:Hints:=⟨[(250,[1,27,28,.own 8 8 QI,.box pinned Q13,Qp 0 pinned],[Qe 0 [.own 8 8 QI,.box pinned Q13],Qr [7,.own 6 6 QI,.box pinned Q13]])],[(6,[Qn [1,2,.sv 21 .bool,.box pinned Q13,Qp 0 pinned]])],[]⟩
def a6E(s:(Int×b1K)):Option ((Int×b1K) ⊕ c8c):=(fun(a b c:Int)(d:LI)(e:Z16)=>cond (decide (c<b)) ((a0N (e,a)).bind fun y6=>cond (lim ((a02 d)+1)) (some (.inl (s.1,a,b,wrap .i64 (c+1),a04 d [y6.1],y6.2,()))) none) (some (.inr (s.1,a,d,e,())))) s.2.1 s.2.2.1 s.2.2.2.1 s.2.2.2.2.1 s.2.2.2.2.2.1
def a1W(x:Z36):Option (Int×Z69):=(a0J (x.1,5)).bind fun y1=>(a0F y1.2).bind fun y2=>cond (y2.1 != 0) ((a0F y2.2).bind fun y3=>some (0,[],y3.1,y3.2)) (cond (decide ((wrap .i64 y1.1)≤25)) ((a6D (y2.2,wrap .i64 y1.1,x.2)).bind fun y4=>some (wrap .i64 y1.1,y4.1,y4.2.1,y4.2.2)) (cond ((wrap .i64 y1.1) != 31) (some (0,[],2,y2.2)) ((a0J (y2.2,5)).bind fun y5=>(y0s a6E (wrap .i64 y1.1,wrap .i64 y5.1,x.2,0,[],y5.2,())).bind fun w7=>(a0F w7.2.2.2.1).bind fun y8=>cond (y8.1 != 0) ((a0F y8.2).bind fun y9=>some (0,[],y9.1,y9.2)) ((a1w w7.2.2.1).bind fun y10=>cond (y10 != w7.2.1) (some (0,[],2,y8.2)) (some (w7.1,w7.2.2.1,0,y8.2))))))
def c2h:FSem:=⟨[.r false (.b Q13),.v QI],[.v QI,.o QI,.v QI],a1W⟩
def d3t:Hints:=⟨[(2042,[7,10,37,38,.own 11 11 QI,.box pinned Q13,Qp 0 pinned],[Qe 0 [7,10,.own 11 11 QI,.box pinned Q13,Qp 0 pinned]])],[],[]⟩
def a2d(s:(Int×c3g)):Option ((Int×c3g) ⊕ ((LI×(Z4×c3c)) ⊕ (Int×(LI×c3c)))):=(fun(a:Int)(b c:LI)(d:Z16)(e f:Z4)=>cond (decide (a<s.1)) (cond ((decide (0≤a))&&(decide (a<(c.length:Int)))) ((a1W (d,a03 c (a00 a) 0)).bind fun y6=>cond (y6.2.2.1 != 0) (some (.inr (Sum.inr ((y6.2.2.1,[],(0,[],()),y6.2.2.2,()))))) (cond (lim ((a02 f.2.1)+1)) (cond (lim ((a02 b)+(a02 y6.2.1))) (some (.inl (s.1,wrap .i64 (a+1),a04 b y6.2.1,c,y6.2.2.2,e,(f.1,a04 f.2.1 [y6.1],f.2.2),()))) none) none)) none) (some (.inr (Sum.inl (b,e,f,d,()))))) s.2.1 s.2.2.1 s.2.2.2.1 s.2.2.2.2.1 s.2.2.2.2.2.1 s.2.2.2.2.2.2.1
def a6X(x:Z59):Option (Z4×Z69):=(a5G (x.2.1,x.2.2)).bind fun y1=>cond (!y1) (some ((0,[],()),[],1,x.1)) ((a0J (x.1,4)).bind fun y2=>(a0F y2.2).bind fun y3=>cond (y3.1 != 0) ((a0F y3.2).bind fun y4=>some ((0,[],()),[],y4.1,y4.2)) ((a2s (wrap .i64 y2.1,x.2.1,x.2.2)).bind fun y5=>cond ((y5.length:Int)==0) (some ((0,[],()),[],2,y3.2)) ((y0s a2d ((y5.length:Int),0,[],y5,y3.2,(0,[],()),(wrap .i64 y2.1,[],()),())).bind fun w7=>match w7 with |.inl a8=>some (a8.2.2.1,a8.1,0,a8.2.2.2.1) |.inr b9=>some (b9.2.2.1,b9.2.1,b9.1,b9.2.2.2.1))))
def c2i:FSem:=⟨[.r false (.b Q13),.v QI,.v QI],[.v Q9,.o QI,.v QI],a6X⟩
def d3u:Hints:=⟨[(4090,[43,44,.own 12 12 QI,.own 42 10 QI,.box pinned Q13,.box 6 Q9,.box 11 Q8,Qp 0 pinned,Qp 6 6,Qp 11 11],[Qe 0 [.own 12 12 QI,.box 6 Q9,.box 11 Q8,.box pinned Q13,Qp 6 6,Qp 11 11],Qr [8,.own 7 7 QI,.box 6 Q9,.box pinned Q13,Qp 6 6]])],[],[]⟩
def a7H(s:(Int×Int×Bool×c3t)):Option ((Int×Int×Bool×c3t) ⊕ (Int×Int×Bool×c3s)):=(fun(a:Int)(b:Bool)(c d:Int)(e:Z16)(f g:a0W)=>cond (decide (d<c)) ((a0N (e,a)).bind fun y7=>cond (lim ((a02 g.2.2.2.2.2.2.2.2.1)+1)) (some (.inl (s.1,a,b,c,wrap .i64 (d+1),y7.2,f,(g.1,g.2.1,g.2.2.1,g.2.2.2.1,g.2.2.2.2.1,g.2.2.2.2.2.1,g.2.2.2.2.2.2.1,g.2.2.2.2.2.2.2.1,a04 g.2.2.2.2.2.2.2.2.1 [y7.1],g.2.2.2.2.2.2.2.2.2),()))) none) (some (.inr (s.1,a,b,e,f,g,())))) s.2.1 s.2.2.1 s.2.2.2.1 s.2.2.2.2.1 s.2.2.2.2.2.1 s.2.2.2.2.2.2.1 s.2.2.2.2.2.2.2.1
def a8Q(x:Z36):Option (a0W×Z32):=cond (decide (x.2<1)) (some ((0,0,0,0,0,[],a01 3 0,[],[],(0,[],()),[],()),1,x.1)) (cond (decide (x.2 > 4096)) (some ((0,0,0,0,0,[],a01 3 0,[],[],(0,[],()),[],()),1,x.1)) ((a0F x.1).bind fun y1=>cond (y1.1 != 0) (some ((0,0,0,0,0,[],a01 3 0,[],[],(0,[],()),[],()),y1.1,y1.2)) ((a2t y1.2).bind fun y2=>(a0F y2.2.2.2).bind fun y3=>cond (y3.1 != 0) (some ((0,0,0,0,0,[],a01 3 0,[],[],(0,[],()),[],()),y3.1,y3.2)) ((a7s (y2.1.1,y2.1,x.2)).bind fun y4=>cond (!y4) (some ((0,0,0,0,0,[],a01 3 0,[],[],(0,[],()),[],()),2,y3.2)) ((a4F (y2.1,x.2)).bind fun y5=>(y0s a7H (x.2,y2.2.1,y2.2.2.1,y5,0,y3.2,(0,0,0,0,0,[],a01 3 0,[],[],(0,[],()),[],()),y2.1,())).bind fun w8=>(a0F w8.2.2.2.1).bind fun y9=>cond (y9.1 != 0) (some ((0,0,0,0,0,[],a01 3 0,[],[],(0,[],()),[],()),y9.1,y9.2)) ((a4H w8.2.2.2.2.2.1.1).bind fun y10=>cond y10 ((a6X (y9.2,w8.1,(w8.2.2.2.2.2.1.2.2.2.2.2.2.2.2.1.length:Int))).bind fun y11=>cond (y11.2.2.1 != 0) (some ((0,0,0,0,0,[],a01 3 0,[],[],(0,[],()),[],()),y11.2.2.1,y11.2.2.2)) (cond (!w8.2.2.1) (some ((0,0,0,0,0,[],a01 3 0,[],[],(0,[],()),[],()),2,y11.2.2.2)) ((a1w w8.2.2.2.2.2.1.2.2.2.2.2.2.2.2.1).bind fun y12=>cond (y12 != w8.2.1) (some ((0,0,0,0,0,[],a01 3 0,[],[],(0,[],()),[],()),2,y11.2.2.2)) ((a6j ((w8.2.2.2.2.2.1.1,w8.2.2.2.2.2.1.2.1,w8.2.2.2.2.2.1.2.2.1,w8.2.2.2.2.2.1.2.2.2.1,w8.2.2.2.2.2.1.2.2.2.2.1,w8.2.2.2.2.2.1.2.2.2.2.2.1,w8.2.2.2.2.2.1.2.2.2.2.2.2.1,w8.2.2.2.2.2.1.2.2.2.2.2.2.2.1,w8.2.2.2.2.2.1.2.2.2.2.2.2.2.2.1,y11.1,y11.2.1,w8.2.2.2.2.2.1.2.2.2.2.2.2.2.2.2.2.2),w8.1)).bind fun y13=>cond (!y13) (some ((0,0,0,0,0,[],a01 3 0,[],[],(0,[],()),[],()),2,y11.2.2.2)) (some ((w8.2.2.2.2.2.1.1,w8.2.2.2.2.2.1.2.1,w8.2.2.2.2.2.1.2.2.1,w8.2.2.2.2.2.1.2.2.2.1,w8.2.2.2.2.2.1.2.2.2.2.1,w8.2.2.2.2.2.1.2.2.2.2.2.1,w8.2.2.2.2.2.1.2.2.2.2.2.2.1,w8.2.2.2.2.2.1.2.2.2.2.2.2.2.1,w8.2.2.2.2.2.1.2.2.2.2.2.2.2.2.1,y11.1,y11.2.1,w8.2.2.2.2.2.1.2.2.2.2.2.2.2.2.2.2.2),0,y11.2.2.2)))))) (cond (!w8.2.2.1) (some ((0,0,0,0,0,[],a01 3 0,[],[],(0,[],()),[],()),2,y9.2)) ((a1w w8.2.2.2.2.2.1.2.2.2.2.2.2.2.2.1).bind fun y14=>cond (y14 != w8.2.1) (some ((0,0,0,0,0,[],a01 3 0,[],[],(0,[],()),[],()),2,y9.2)) ((a6j (w8.2.2.2.2.2.1,w8.1)).bind fun y15=>cond (!y15) (some ((0,0,0,0,0,[],a01 3 0,[],[],(0,[],()),[],()),2,y9.2)) (some (w8.2.2.2.2.2.1,0,y9.2)))))))))))
def c4Q:FSem:=⟨[.r false (.b Q13),.v QI],[.v Q50,.v QI],a8Q⟩
def H53:Hints:=⟨[(1018,[1,8,.sv 9 .bool,47,48,.box pinned Q13,.box 4 Q50,.box 7 (.pair QI (.pair QI (.pair QI (.pair QI (.pair QI (.pair QL (.pair (.arr 3 QI) (.pair (.list false Q5) (.pair (.list true QI) Q16))))))))),Qp 0 pinned,Qp 4 4,Qp 7 7],[Qe 0 [1,8,.sv 9 .bool,.box pinned Q13,.box 4 Q50,.box 7 (.pair QI (.pair QI (.pair QI (.pair QI (.pair QI (.pair QL (.pair (.arr 3 QI) (.pair (.list false Q5) (.pair (.list true QI) Q16))))))))),Qp 0 pinned,Qp 4 4,Qp 7 7]])],[],[(14,[.r [7,50],.r [7,51],.p,.v,.w [54,1054,pinned],.q,.x,.x,.x])]⟩
def a1t(s:Z78):Option (Z78 ⊕ (Z62 ⊕ Z41)):=cond (decide (s.2.1<s.1)) ((a0V (s.2.2.1,s.2.1)).bind fun y1=>cond (y1.1==1) (some (.inr (Sum.inr (((y1.2.1,y1.2.2.1,2,y1.2.2.2.2),()))))) (some (.inl (s.1,wrap .i64 (s.2.1+1),y1.2,())))) (some (.inr (Sum.inl (s.1,s.2.2.1,()))))
def a2C(x:Z16):Option Z16:=cond (x.2.2.1 != 0) (some x) ((y0s a1t (wrap .i64 ((wrap .i64 (a09 (wrap .i64 (x.2.1+7)) 8))*8),x.2.1,x,())).bind fun w2=>match w2 with |.inl a3=>some (a3.2.1.1,a3.1,a3.2.1.2.2) |.inr b4=>some b4.1)
def b2D:FSem:=⟨[.r false (.b Q13)],[],a2C⟩
def H55:Hints:=⟨[(58,[2,3,.box pinned Q13,Qp 0 pinned],[Qe 0 [2,.box pinned Q13,Qp 0 pinned],Qr [.box pinned Q13]])],[],[]⟩
def a2i(s:(Int×c3v)):Option ((Int×c3v) ⊕ (c5P ⊕ (Int×Int×a8i))):=(fun(a:Int)(b c:a1O)(d:Z16)=>cond (decide (a<s.2.1)) ((a8Q (d,c.2.1)).bind fun y7=>cond (y7.2.1 != 0) (some (.inr (Sum.inr ((0,2,(0,0,(0,0,0,()),[],[],()),()))))) (cond (lim ((a02 c.2.2.2.2.1)+1)) (some (.inl (s.1,s.2.1,wrap .i64 (a+1),b,(c.1,c.2.1,c.2.2.1,c.2.2.2.1,a04 c.2.2.2.2.1 ([y7.1]:List a0W),c.2.2.2.2.2),y7.2.2,()))) none)) (some (.inr (Sum.inl (s.1,b,c,d,()))))) s.2.2.1 s.2.2.2.1 s.2.2.2.2.1 s.2.2.2.2.2.1
def a4K(x:LI):Option (a1O×Int×Int):=(a3X x).bind fun y1=>cond (y1.2.2.2 != 0) (some ((0,0,(0,0,0,()),[],[],()),0,y1.2.2.2)) (cond (decide ((x.length:Int)<(wrap .i64 ((wrap .i64 (y1.2.1+y1.2.2.1))+2)))) (some ((0,0,(0,0,0,()),[],[],()),0,3)) (cond ((decide (0≤(wrap .i64 (y1.2.1+y1.2.2.1))))&&(decide ((wrap .i64 (y1.2.1+y1.2.2.1))≤(x.length:Int)))) ((a4J (a06 (a00 (wrap .i64 (y1.2.1+y1.2.2.1))) x)).bind fun y2=>(m0k x (wrap .i64 (y1.2.1+y1.2.2.1))).bind fun x3=>(m0k x (wrap .i64 ((wrap .i64 (y1.2.1+y1.2.2.1))+1))).bind fun x4=>cond (y2 != (bits .u16 .or (A0n .u16 (wrap .u16 x3) 8) (wrap .u16 x4))) (some ((0,0,(0,0,0,()),[],[],()),0,5)) (cond ((decide (0≤(wrap .i64 (y1.2.1+y1.2.2.1))))&&(decide ((wrap .i64 (y1.2.1+y1.2.2.1))≤(x.length:Int)))) (cond ((decide (0≤y1.2.1))&&(decide (y1.2.1≤((a00 (wrap .i64 (y1.2.1+y1.2.2.1)):Nat):Int)))) ((a9n (a07 (a00 y1.2.1) (a06 (a00 (wrap .i64 (y1.2.1+y1.2.2.1))) x))).bind fun y5=>(y0s a2i (wrap .i64 (y1.2.1+y1.2.2.1),y1.1.2.2.1.2.1,0,(0,0,(0,0,0,()),[],[],()),y1.1,y5,())).bind fun w8=>match w8 with |.inl a9=>((a2c a9.2.2.2.1).bind fun y11=>cond (decide (y11.1≥8)) (some ((0,0,(0,0,0,()),[],[],()),0,2)) ((a2C y11.2).bind fun y12=>(a0F y12).bind fun y13=>cond (y13.1 != 0) (some ((0,0,(0,0,0,()),[],[],()),0,2)) ((a5J a9.2.2.1).bind fun y14=>cond (!y14) (some ((0,0,(0,0,0,()),[],[],()),0,2)) (some (a9.2.2.1,wrap .i64 (a9.1+2),0))))) |.inr b10=>some (b10.2.2.1,b10.1,b10.2.1)) none) none)) none))
def c0J:FSem:=⟨[.v QB],[.v Q72,.v QI,.v QI],a4K⟩
def H15:Hints:=⟨[(2042,[9,59,60,.box 2 Q72,.box 5 Q71,.box 1056 Q13,Qp 2 2,Qp 5 5,Qp 10 1056],[Qe 0 [9,.box 2 Q72,.box 5 Q71,.box 1056 Q13,Qp 2 2,Qp 5 5,Qp 10 1056],Qr [3,4,.box 2 Q72,Qp 2 2]])],[],[(7,[.v,.v,.v,.v,.v,.v,.v,.v,.v,.v,.v,.v,.v,.v,.v,.v,.v,.x])]⟩
def a3D(s:(LI×Z5)):Option ((LI×Z5) ⊕ Z0):=(fun(a:Int)=>cond (decide (a<(s.1.length:Int))) ((m0k s.1 a).bind fun x1=>(m0k s.2.1 a).bind fun x2=>cond (x1 != x2) (some (.inr (Sum.inr ((false,()))))) (some (.inl (s.1,s.2.1,wrap .i64 (a+1),())))) (some (.inr (Sum.inl ())))) s.2.2.1
def a2u(x:(LI×LI)):Option Bool:=cond ((x.1.length:Int) != (x.2.length:Int)) (some false) ((y0s a3D (x.1,x.2,0,())).bind fun w3=>match w3 with |.inl a4=>some true |.inr b5=>some b5.1)
def b9b:FSem:=⟨[.v QL,.v QL],[.v .bool],a2u⟩
def H25:Hints:=⟨[(58,[.sv 0 QL,.sv 1 QL,5],[Qe 0 [],Qr [.sv 4 .bool]])],[],[(6,[.v,.v,.v,.v,.v,.v,.v,.v,.x])]⟩
def a2D(s:(Z6×Z42)):Option ((Z6×Z42) ⊕ Z0):=(fun(a:Int)=>cond (decide (a<(s.1.length:Int))) ((m0k s.1 a).bind fun x1=>(m0k s.2.1 a).bind fun x2=>cond (!(eqT Q5 x1 x2)) (some (.inr (Sum.inr ((false,()))))) (some (.inl (s.1,s.2.1,wrap .i64 (a+1),())))) (some (.inr (Sum.inl ())))) s.2.2.1
def a5e(x:(Z6×Z6)):Option Bool:=cond ((x.1.length:Int) != (x.2.length:Int)) (some false) ((y0s a2D (x.1,x.2,0,())).bind fun w3=>match w3 with |.inl a4=>some true |.inr b5=>some b5.1)
def b4U:FSem:=⟨[.v (.list false Q5),.v (.list false Q5)],[.v .bool],a5e⟩
def H70:Hints:=⟨[(58,[.sv 0 (.list false Q5),.sv 1 (.list false Q5),5],[Qe 0 [],Qr [.sv 4 .bool]])],[],[(6,[.v,.v,.v,.v,.v,.v,.v,.v,.x])]⟩
def a8k(x:(Z4×Z4)):Option Bool:=cond (x.1.1==x.2.1) ((a2u (x.1.2.1,x.2.2.1)).bind fun y1=>some y1) (some false)
def b7y:FSem:=⟨[.v Q9,.v Q9],[.v .bool],a8k⟩
def a5v(x:(a0W×a0W)):Option Bool:=cond (x.1.1==x.2.1) (cond (x.1.2.1==x.2.2.1) (cond (x.1.2.2.1==x.2.2.2.1) (cond (x.1.2.2.2.1==x.2.2.2.2.1) (cond (x.1.2.2.2.2.1==x.2.2.2.2.2.1) ((a2u (x.1.2.2.2.2.2.1,x.2.2.2.2.2.2.1)).bind fun y1=>cond y1 (cond (eqT (.arr 3 (.int .i64)) x.1.2.2.2.2.2.2.1 x.2.2.2.2.2.2.2.1) ((a5e (x.1.2.2.2.2.2.2.2.1,x.2.2.2.2.2.2.2.2.1)).bind fun y2=>cond y2 ((a2u (x.1.2.2.2.2.2.2.2.2.1,x.2.2.2.2.2.2.2.2.2.1)).bind fun y3=>cond y3 ((a8k (x.1.2.2.2.2.2.2.2.2.2.1,x.2.2.2.2.2.2.2.2.2.2.1)).bind fun y4=>cond y4 ((a2u (x.1.2.2.2.2.2.2.2.2.2.2.1,x.2.2.2.2.2.2.2.2.2.2.2.1)).bind fun y5=>some y5) (some false)) (some false)) (some false)) (some false)) (some false)) (some false)) (some false)) (some false)) (some false)) (some false)
def b9c:FSem:=⟨[.v Q50,.v Q50],[.v .bool],a5v⟩
def a3Y(s:(Z19×Z19×Int×Unit)):Option ((Z19×Z19×Int×Unit) ⊕ Z0):=(fun(a:Int)=>cond (decide (a<(s.1.length:Int))) ((m0k s.1 a).bind fun x1=>(m0k s.2.1 a).bind fun x2=>cond (!(eqT Q10 x1 x2)) (some (.inr (Sum.inr ((false,()))))) (some (.inl (s.1,s.2.1,wrap .i64 (a+1),())))) (some (.inr (Sum.inl ())))) s.2.2.1
def a5U(x:(Z19×Z19)):Option Bool:=cond ((x.1.length:Int) != (x.2.length:Int)) (some false) ((y0s a3Y (x.1,x.2,0,())).bind fun w3=>match w3 with |.inl a4=>some true |.inr b5=>some b5.1)
def b5P:FSem:=⟨[.v (.list false Q10),.v (.list false Q10)],[.v .bool],a5U⟩
def H57:Hints:=⟨[(58,[.sv 0 (.list false Q10),.sv 1 (.list false Q10),5],[Qe 0 [],Qr [.sv 4 .bool]])],[],[(6,[.v,.v,.v,.v,.v,.v,.v,.v,.x])]⟩
def a3Z(s:c3u):Option (c3u ⊕ Z0):=cond (decide (s.1<(s.2.1.2.2.2.2.1.length:Int))) ((m0k s.2.1.2.2.2.2.1 s.1).bind fun x3=>(m0k s.2.2.1.2.2.2.2.1 s.1).bind fun x4=>(a5v (x3,x4)).bind fun y5=>cond (!y5) (some (.inr (Sum.inr ((false,()))))) (some (.inl (wrap .i64 (s.1+1),s.2.1,s.2.2.1,())))) (some (.inr (Sum.inl ())))
def a4a(x:(a1O×a1O)):Option Bool:=(show Option (Bool×c5O)from cond (x.1.1 != x.2.1) (some (true,x.1,x.2,())) (cond (x.1.2.1 != x.2.2.1) (some (true,x.1,x.2,())) (cond (!(eqT Q10 x.1.2.2.1 x.2.2.2.1)) (some (true,x.1,x.2,())) ((a5U (x.1.2.2.2.1,x.2.2.2.2.1)).bind fun y1=>cond (!y1) (some (true,x.1,x.2,())) (some ((x.1.2.2.2.2.1.length:Int) != (x.2.2.2.2.2.1.length:Int),x.1,x.2,())))))).bind fun z2=>cond z2.1 (some false) ((y0s a3Z (0,z2.2.1,z2.2.2.1,())).bind fun w6=>match w6 with |.inl a7=>some true |.inr b8=>some b8.1)
def b5Q:FSem:=⟨[.v Q72,.v Q72],[.v .bool],a4a⟩
def H16:Hints:=⟨[(58,[5,.vp 2 Q72,.vp 3 Q72],[Qe 0 [],Qr [.sv 4 .bool]])],[(6,[Qn [.sv 41 .bool,.vp 2 Q72,.vp 3 Q72]])],[(6,[.v,.v,.v,.v,.v,.v,.v,.v,.v,.v,.x,.x])]⟩
def b4a(s:((List LI)×Z15)):Option (((List LI)×Z15) ⊕ Z0):=(fun(a:Int)=>cond (decide (a<(s.1.length:Int))) ((m0k s.1 a).bind fun x1=>(m0k s.2.1 a).bind fun x2=>(a2u (x1,x2)).bind fun y3=>cond (!y3) (some (.inr (Sum.inr ((false,()))))) (some (.inl (s.1,s.2.1,wrap .i64 (a+1),())))) (some (.inr (Sum.inl ())))) s.2.2.1
def b1r(x:((List LI)×(List LI))):Option Bool:=cond ((x.1.length:Int) != (x.2.length:Int)) (some false) ((y0s b4a (x.1,x.2,0,())).bind fun w4=>match w4 with |.inl a5=>some true |.inr b6=>some b6.1)
def b7z:FSem:=⟨[.v (.list false QL),.v (.list false QL)],[.v .bool],b1r⟩
def H74:Hints:=⟨[(58,[.sv 0 (.list false QL),.sv 1 (.list false QL),5],[Qe 0 [],Qr [.sv 4 .bool]])],[],[(6,[.v,.v,.v,.v,.v,.v,.v,.v,.x,.x])]⟩
def b0F(x:(Z14×Z14)):Option Bool:=cond (x.1.1==x.2.1) ((b1r (x.1.2.1,x.2.2.1)).bind fun y1=>some y1) (some false)
def b5R:FSem:=⟨[.v Q12,.v Q12],[.v .bool],b0F⟩
def a6n(x:LI):Option (Z8×Int×Int×Int):=(a3X x).bind fun y1=>cond (y1.2.2.2 != 0) (some ((0,0,0,()),0,0,y1.2.2.2)) (some (y1.1.2.2.1,y1.1.1,y1.1.2.1,0))
def c0K:FSem:=⟨[.v QB],[.v Q10,.v QI,.v QI,.v QI],a6n⟩
def H27:Hints:=⟨[],[],[(4,[.q,.q,.r [6,23],.r [6,24],.r [6,25],.r [6,26],.w [0,2],.v,.x,.x])]⟩
def b5S(s:Z5):Option (Z5 ⊕ (Unit ⊕ (Int×Unit))):=(fun(a:LI)(b:Int)=>cond (decide (b<(a.length:Int))) (cond ((decide (0≤b))&&(decide (b≤(a.length:Int)))) ((a4K (a07 (a00 b) (a06 (a02 a) a))).bind fun y1=>cond (y1.2.2==0) (some (.inr (Sum.inr ((b,()))))) (some (.inl (a,wrap .i64 (b+1),())))) none) (some (.inr (Sum.inl ())))) s.1 s.2.1
def b3a(x:(LI×Int)):Option Int:=(y0s b5S (x.1,v0r x.2 0,())).bind fun w2=>match w2 with |.inl a3=>some (-1) |.inr b4=>some b4.1
def c0L:FSem:=⟨[.v QB,.v QI],[.v QI],b3a⟩
def H36:Hints:=⟨[(26,[.sv 0 QB,5],[Qe 0 [],Qr [4]])],[],[]⟩
def b1d(x:Unit):Option Bool:=(b2U ((8,([[3,3],[3,3]]:List LI),()),(8000,2,8,()),5,0)).bind fun y1=>(b4w y1.1).bind fun y2=>(a4K y2.1).bind fun y3=>(a5u y3.1).bind fun y4=>(a6n y2.1).bind fun y5=>cond (y1.2==0) (cond (y2.2==0) (cond (y3.2.2==0) (cond (y4.2==0) (cond (y5.2.2.2==0) (cond (y3.2.1==(y2.1.length:Int)) ((a4a (y1.1,y3.1)).bind fun y6=>cond y6 ((b0F ((8,([[3,3],[3,3]]:List LI),()),y4.1)).bind fun y7=>cond y7 (cond (eqT Q10 y5.1 ((8000: Int),(2: Int),(8: Int),())) (cond (y5.2.1==5) (cond (y5.2.2.1==2) (cond (lim (2+(a02 y2.1))) ((b3a (a04 [1,245] y2.1,0)).bind fun y8=>cond (y8==2) (cond (decide ((y2.1.length:Int) > 2)) ((m0k y2.1 0).bind fun x9=>cond (x9==245) ((m0k y2.1 1).bind fun x10=>some (x10==75)) (some false)) (some false)) (some false)) none) (some false)) (some false)) (some false)) (some false)) (some false)) (some false)) (some false)) (some false)) (some false)) (some false)) (some false)
def c2j:FSem:=⟨[],[.v .bool],b1d⟩
def b0G(x:(LI×LI)):Option Bool:=some ((b2s x.1)==(b2s x.2))
def c4R:FSem:=⟨[.v QB,.v QB],[.v .bool],b0G⟩
def a8l(x:LI):Option Z16:=some (x,0,0,())
def b7A:FSem:=⟨[.v QB],[.b Q13],a8l⟩
def a3E(x:Z16):Option Z32:=some (wrap .i64 ((x.1.length:Int)-x.2.1),x)
def b4V:FSem:=⟨[.r false (.b Q13)],[.v QI],a3E⟩
def d3v:Hints:=⟨[],[],[(1,[.p,.p,.q,.q,.v,.p,.p,.q,.q,.x,.x])]⟩
def a1h(x:Z36):Option Z49:=cond (x.1.2.2.1 != 0) (some ([],x.1)) ((a3E x.1).bind fun y1=>cond (decide ((v0r x.2 0) > y1.1)) (some ([],y1.2.1,y1.2.2.1,3,y1.2.2.2.2)) (cond ((decide (0≤(wrap .i64 (y1.2.2.1+(v0r x.2 0)))))&&(decide ((wrap .i64 (y1.2.2.1+(v0r x.2 0)))≤(y1.2.1.length:Int)))) (cond ((decide (0≤y1.2.2.1))&&(decide (y1.2.2.1≤((a00 (wrap .i64 (y1.2.2.1+(v0r x.2 0))):Nat):Int)))) (cond (lim (0+(a02 (a07 (a00 y1.2.2.1) (a06 (a00 (wrap .i64 (y1.2.2.1+(v0r x.2 0)))) y1.2.1))))) (some (a04 [] (a07 (a00 y1.2.2.1) (a06 (a00 (wrap .i64 (y1.2.2.1+(v0r x.2 0)))) y1.2.1)),y1.2.1,wrap .i64 (y1.2.2.1+(v0r x.2 0)),y1.2.2.2)) none) none) none))
def b4W:FSem:=⟨[.r false (.b Q13),.v QI],[.o QV],a1h⟩
def d3w:Hints:=⟨[],[],[(7,[.q,.p,.p,.q,.q,.p,.p,.q,.q,.p,.p,.q,.q,.v,.v,.v,.x,.x])]⟩
def a1H(s:Z95):Option (Z95 ⊕ (Z41 ⊕ Z62)):=(fun(a b c:Int)(d:Z16)=>cond (decide ((wrap .i64 (d.2.1+c))<(d.1.length:Int))) ((m0k d.1 (wrap .i64 (d.2.1+c))).bind fun x1=>(show Option (Int×Int×Z97)from cond (c==9) (cond (decide (x1 > 1)) (some (a,b,c,x1,true,d,())) (cond (decide (c > 0)) (some (a,b,c,x1,x1==0,d,())) (some (a,b,c,x1,false,d,())))) (cond (decide (c > 0)) (some (a,b,c,x1,x1==0,d,())) (some (a,b,c,x1,false,d,())))).bind fun z2=>cond z2.2.2.2.2.1 (some (.inr (Sum.inr ((0,(z2.2.2.2.2.2.1.1,z2.2.2.2.2.2.1.2.1,2,z2.2.2.2.2.2.1.2.2.2),()))))) (cond (decide ((wrap .u64 (wrap .i64 (7*z2.2.2.1)))<0)) none (cond (decide (z2.2.2.2.1≥128)) (some (.inl (z2.1,bits .u64 .or z2.2.1 (A0n .u64 (wrap .u64 (bits .u8 .and z2.2.2.2.1 127)) (wrap .u64 (wrap .i64 (7*z2.2.2.1)))),wrap .i64 (z2.2.2.1+1),z2.2.2.2.2.2.1,()))) (cond (decide ((bits .u64 .or z2.2.1 (A0n .u64 (wrap .u64 (bits .u8 .and z2.2.2.2.1 127)) (wrap .u64 (wrap .i64 (7*z2.2.2.1))))) > z2.1)) (some (.inr (Sum.inr ((0,(z2.2.2.2.2.2.1.1,z2.2.2.2.2.2.1.2.1,4,z2.2.2.2.2.2.1.2.2.2),()))))) (some (.inr (Sum.inr ((bits .u64 .or z2.2.1 (A0n .u64 (wrap .u64 (bits .u8 .and z2.2.2.2.1 127)) (wrap .u64 (wrap .i64 (7*z2.2.2.1)))),(z2.2.2.2.2.2.1.1,wrap .i64 ((wrap .i64 (z2.2.2.2.2.2.1.2.1+z2.2.2.1))+1),z2.2.2.2.2.2.1.2.2),()))))))))) (some (.inr (Sum.inl (d,()))))) s.1 s.2.1 s.2.2.1 s.2.2.2.1
def a0Y(x:Z36):Option Z32:=cond (x.1.2.2.1 != 0) (some (0,x.1)) ((y0s a1H (x.2,0,0,x.1,())).bind fun w3=>match w3 with |.inl a4=>some (0,a4.1.1,a4.1.2.1,3,a4.1.2.2.2) |.inr b5=>some (b5.1,b5.2.1))
def b5T:FSem:=⟨[.r false (.b Q13),.v QU],[.v QU],a0Y⟩
def d3x:Hints:=⟨[(122,[.sv 1 QU,.sv 5 QU,6,.box pinned Q13,Qp 0 pinned],[Qe 0 [.box pinned Q13,Qp 0 pinned],Qr [.sv 4 QU,.box pinned Q13]])],[(7826,[Qn [.sv 1 QU,.sv 5 QU,6,.sv 7 QV,.sv 52 .bool,.box pinned Q13,Qp 0 pinned]])],[(5,[.p,.p,.q,.q,.v,.v,.p,.p,.q,.q,.v,.x]),(7,[.p,.p,.q,.q,.p,.p,.q,.q,.v,.v,.x,.x,.x])]⟩
def a9H(x:Int):Option Int:=(show Option (Int×Unit)from cond ((bits .u64 .and x 1)==1) (some (bits .i64 .xor (-1) (wrap .i64 (A0o .u64 x 1)),())) (some (wrap .i64 (A0o .u64 x 1),()))).bind fun z1=>some z1.1
def c5R:FSem:=⟨[.v QU],[.v QI],a9H⟩
def d3y:Hints:=⟨[],[(7,[Qn [3]])],[]⟩
def a9d(s:Z34):Option (Z34 ⊕ Z16):=(fun(a b c:Int)=>cond (decide (c<8)) (cond (decide (a≥128)) (some (.inl (s.1,bits .u8 .xor (A0n .u8 a 1) 7,b,wrap .i64 (c+1),()))) (some (.inl (s.1,A0n .u8 a 1,b,wrap .i64 (c+1),())))) (some (.inr (s.1,a,b,())))) s.2.1 s.2.2.1 s.2.2.2.1
def a7e(s:Z16):Option (Z16 ⊕ (Int×Unit)):=cond (decide (s.2.2.1<(s.1.length:Int))) ((m0k s.1 s.2.2.1).bind fun x1=>(y0s a9d (s.1,bits .u8 .xor s.2.1 x1,s.2.2.1,0,())).bind fun w2=>some (.inl (w2.1,w2.2.1,wrap .i64 (w2.2.2.1+1),()))) (some (.inr (s.2.1,())))
def a9o(x:LI):Option Int:=(y0s a7e (x,0,0,())).bind fun w3=>some w3.1
def c3I:FSem:=⟨[.v QB],[.v QV],a9o⟩
def d3z:Hints:=⟨[(58,[.sv 0 QB,.sv 3 QV,4],[Qe 0 [.sv 3 QV]]),(7462,[.sv 0 QB,.sv 3 QV,4,5],[Qe 2 [.sv 0 QB,.sv 3 QV,4]])],[],[]⟩
def a8E(x:Z8):Option Bool:=cond (decide (x.1≥1)) (cond (decide (x.1≤1048576)) (cond (decide (x.2.1≥1)) (cond (decide (x.2.1≤8)) (cond (decide (x.2.2.1≥4)) (some (decide (x.2.2.1≤24))) (some false)) (some false)) (some false)) (some false)) (some false)
def c2k:FSem:=⟨[.v Q10],[.v .bool],a8E⟩
def a3F(s:Z77):Option (Z77 ⊕ Z0):=(fun(a:Z19)(b c:Int)=>cond (decide (c<(a.length:Int))) ((m0k a c).bind fun x2=>(show Option (Z19×Z10)from cond (decide (x2.1<0)) (some (a,b,c,true,())) (cond (decide (x2.1≥b)) (some (a,b,c,true,())) (cond (decide (x2.2.1<0)) (some (a,b,c,true,())) (cond (decide (x2.2.1≥b)) (some (a,b,c,true,())) (cond (x2.1==x2.2.1) (some (a,b,c,true,())) (cond (decide (x2.2.2.1<(-1024))) (some (a,b,c,true,())) (some (a,b,c,decide (x2.2.2.1 > 1024),())))))))).bind fun z3=>cond z3.2.2.2.1 (some (.inr (Sum.inr ((false,()))))) (some (.inl (z3.1,z3.2.1,wrap .i64 (z3.2.2.1+1),())))) (some (.inr (Sum.inl ())))) s.1 s.2.1 s.2.2.1
def a5w(x:(Z19×Int)):Option Bool:=(show Option (Z19×Int×Bool×Unit)from cond (decide (x.2<1)) (some (x.1,x.2,true,())) (cond (decide (x.2 > 8)) (some (x.1,x.2,true,())) (some (x.1,x.2,decide ((x.1.length:Int) > 16),())))).bind fun z1=>cond z1.2.2.1 (some false) ((y0s a3F (z1.1,z1.2.1,0,())).bind fun w4=>match w4 with |.inl a5=>some true |.inr b6=>some b6.1)
def b9d:FSem:=⟨[.v (.list false Q10),.v QI],[.v .bool],a5w⟩
def d3A:Hints:=⟨[(58,[.sv 0 (.list false Q10),1,5],[Qe 0 [],Qr [.sv 4 .bool]])],[(6,[Qn [.sv 0 (.list false Q10),1,.sv 17 .bool]]),(1865,[Qn [.sv 0 (.list false Q10),1,5,.sv 64 .bool]])],[]⟩
def a5x(x:a1O):Option Bool:=(a8E x.2.2.1).bind fun y1=>cond y1 (cond (decide (x.2.1≥1)) (cond (decide (x.2.1≤4096)) (cond (decide (x.1≥0)) (cond (decide (x.1≤(wrap .i64 (4194304-x.2.1)))) ((a5w (x.2.2.2.1,x.2.2.1.2.1)).bind fun y2=>some y2) (some false)) (some false)) (some false)) (some false)) (some false)
def b9e:FSem:=⟨[.v Q72],[.v .bool],a5x⟩
def a7f(s:(LI×(Int×Int×a1O×Z16×a8i))):Option ((LI×(Int×Int×a1O×Z16×a8i)) ⊕ (LI×(a1O×Z16×a8i))):=(fun(a:Int)(b:a1O)(c:Z16)(d:a1O)=>cond (decide (a<s.2.1)) ((a0Y (c,7)).bind fun y12=>(a0Y (y12.2,7)).bind fun y13=>(a0Y (y13.2,2048)).bind fun y14=>(a9H y14.1).bind fun y15=>cond (lim ((a02 d.2.2.2.1)+1)) (some (.inl (s.1,s.2.1,wrap .i64 (a+1),b,y14.2,(d.1,d.2.1,d.2.2.1,a04 d.2.2.2.1 ([(wrap .i64 y12.1,wrap .i64 y13.1,y15,())]:List Z8),d.2.2.2.2),()))) none) (some (.inr (s.1,b,c,d,())))) s.2.2.1 s.2.2.2.1 s.2.2.2.2.1 s.2.2.2.2.2.1
def a7I(x:LI):Option (a1O×Int×Int×Int):=cond (decide ((x.length:Int)<2)) (some ((0,0,(0,0,0,()),[],[],()),0,0,3)) ((show Option (LI×(Bool×a8i))from(m0k x 0).bind fun x1=>cond (x1 != 245) (some (x,true,(0,0,(0,0,0,()),[],[],()),())) ((m0k x 1).bind fun x2=>some (x,x2 != 75,(0,0,(0,0,0,()),[],[],()),()))).bind fun z3=>cond z3.2.1 (some ((0,0,(0,0,0,()),[],[],()),0,0,2)) ((a8l z3.1).bind fun y4=>(a1h (y4,2)).bind fun y5=>(a0Y (y5.2,4194304)).bind fun y6=>(a0Y (y6.2,4096)).bind fun y7=>(a0Y (y7.2,1048576)).bind fun y8=>(a0Y (y8.2,8)).bind fun y9=>(a0Y (y9.2,24)).bind fun y10=>(a0Y (y10.2,16)).bind fun y11=>(y0s a7f (z3.1,wrap .i64 y11.1,0,z3.2.2.1,y11.2,(wrap .i64 y6.1,wrap .i64 y7.1,(wrap .i64 y8.1,wrap .i64 y9.1,wrap .i64 y10.1,()),[],[],()),())).bind fun w16=>(a0Y (w16.2.2.1,1048576)).bind fun y17=>(a1h (y17.2,1)).bind fun y18=>cond (y18.2.2.2.1 != 0) (some ((0,0,(0,0,0,()),[],[],()),0,0,y18.2.2.2.1)) (cond (decide (0<(y18.1.length:Int))) (cond ((decide (0≤y17.2.2.1))&&(decide (y17.2.2.1≤(w16.1.length:Int)))) ((a9o (a06 (a00 y17.2.2.1) w16.1)).bind fun y19=>cond ((a03 y18.1 0 0) != y19) (some ((0,0,(0,0,0,()),[],[],()),0,0,5)) ((a5x w16.2.2.2.1).bind fun y20=>cond (!y20) (some ((0,0,(0,0,0,()),[],[],()),0,0,2)) (some (w16.2.2.2.1,wrap .i64 y17.1,wrap .i64 (y17.2.2.1+1),0)))) none) none)))
def c3J:FSem:=⟨[.v QB],[.v Q70,.v QI,.v QI,.v QI],a7I⟩
def H77:Hints:=⟨[(16378,[.sv 0 QB,8,9,.box 2 Q70,.box 1031 Q13,.box 7 Q69,Qp 2 2,Qp 6 1031,Qp 7 7],[Qe 0 [.sv 0 QB,.box 2 Q70,.box 1031 Q13,.box 7 Q69,Qp 2 2,Qp 6 1031,Qp 7 7]])],[(14,[Qn [.sv 0 QB,.sv 28 .bool,.box 2 Q70,Qp 2 2]])],[(17,[.r [7,70],.r [7,71],.v,.v,.q,.w [75,1031,1075],.v,.v,.q,.x,.x,.x]),(22,[.v,.r [97,1031],.r [98,1031],.r [99,1031],.r [100,1031],.w [0,2],.v,.v,.x]),(23,[.q,.q,.q,.v,.v,.v,.v,.x,.x])]⟩
def a6Y(s:Z17):Option (Z17 ⊕ (LI×Unit)):=cond (decide (s.2.1≥0)) (cond (decide ((wrap .u64 (wrap .i64 (8*s.2.1)))<0)) none (cond (lim ((a02 s.2.2.1)+1)) (some (.inl (s.1,wrap .i64 (s.2.1-1),a04 s.2.2.1 [wrap .u8 (A0o .u64 s.1 (wrap .u64 (wrap .i64 (8*s.2.1))))],()))) none)) (some (.inr (s.2.2.1,())))
def b1O(x:(Int×Int)):Option LI:=(y0s a6Y (x.1,wrap .i64 ((v0r (v0s x.2 8) 0)-1),[],())).bind fun w1=>some w1.1
def c5S:FSem:=⟨[.v QU,.v QI],[.o QV],b1O⟩
def H78:Hints:=⟨[(58,[.sv 0 QU,6,.own 5 5 QV],[Qe 0 [.own 5 5 QV]])],[],[]⟩
def a7J(s:Z34):Option (Z34 ⊕ Z16):=(fun(a b c:Int)=>cond (decide (c<8)) (cond (decide (a≥32768)) (some (.inl (s.1,bits .u16 .xor (A0n .u16 a 1) 32773,b,wrap .i64 (c+1),()))) (some (.inl (s.1,A0n .u16 a 1,b,wrap .i64 (c+1),())))) (some (.inr (s.1,a,b,())))) s.2.1 s.2.2.1 s.2.2.2.1
def a5V(s:Z16):Option (Z16 ⊕ (Int×Unit)):=cond (decide (s.2.2.1<(s.1.length:Int))) ((m0k s.1 s.2.2.1).bind fun x1=>(y0s a7J (s.1,bits .u16 .xor s.2.1 (A0n .u16 (wrap .u16 x1) 8),s.2.2.1,0,())).bind fun w2=>some (.inl (w2.1,w2.2.1,wrap .i64 (w2.2.2.1+1),()))) (some (.inr (s.2.1,())))
def a7K(x:LI):Option Int:=(y0s a5V (x,0,0,())).bind fun w3=>some w3.1
def c0M:FSem:=⟨[.v QB],[.v (.int .u16)],a7K⟩
def H79:Hints:=⟨[(58,[.sv 0 QB,.sv 3 (.int .u16),4],[Qe 0 [.sv 3 (.int .u16)]]),(7462,[.sv 0 QB,.sv 3 (.int .u16),4,5],[Qe 2 [.sv 0 QB,.sv 3 (.int .u16),4]])],[],[]⟩
def a6F(x:LI):Option Z16:=some (x,0,0,())
def b7B:FSem:=⟨[.v QB],[.b Q13],a6F⟩
def a2Q(s:Z16):Option (Z16 ⊕ (Z5 ⊕ (Bool×Unit))):=(fun(a:LI)(b c:Int)=>cond (decide (c<(a.length:Int))) ((show Option Z37 from(m0k a c).bind fun x1=>cond (decide (x1<(-32768))) (some (a,b,c,true,())) ((m0k a c).bind fun x2=>some (a,b,c,decide (x2≥32768),()))).bind fun z3=>cond z3.2.2.2.1 (some (.inr (Sum.inr ((false,()))))) (some (.inl (z3.1,z3.2.1,wrap .i64 (z3.2.2.1+1),())))) (some (.inr (Sum.inl (a,b,()))))) s.1 s.2.1 s.2.2.1
def a2X(x:(LI×Int)):Option Bool:=(y0s a2Q (x.1,x.2,0,())).bind fun w4=>match w4 with |.inl a5=>(cond (decide ((a5.1.length:Int)≥1)) (cond (decide ((a5.1.length:Int)≤32)) (cond (decide (a5.2.1≥0)) (some (decide (a5.2.1≤15))) (some false)) (some false)) (some false)) |.inr b6=>some b6.1
def b5U:FSem:=⟨[.v QL,.v QI],[.v .bool],a2X⟩
def d3B:Hints:=⟨[(26,[.sv 0 QL,1,5],[Qe 0 [.sv 0 QL,1],Qr [.sv 4 .bool]])],[(420,[Qn [.sv 0 QL,1,5,.sv 23 .bool]])],[]⟩
def a3G(s:Z17):Option (Z17 ⊕ ((Int×Unit) ⊕ (Bool×Unit))):=(fun(a:Int)(b:LI)=>cond (decide (a<3)) ((show Option Z38 from(m0k b a).bind fun x1=>cond (decide (x1<(-64))) (some (s.1,a,true,b,())) ((m0k b a).bind fun x2=>some (s.1,a,decide (x2 > 64),b,()))).bind fun z3=>cond z3.2.2.1 (some (.inr (Sum.inr ((false,()))))) (some (.inl (z3.1,wrap .i64 (z3.2.1+1),z3.2.2.2.1,())))) (some (.inr (Sum.inl (s.1,()))))) s.2.1 s.2.2.1
def a5y(x:(Int×LI)):Option Bool:=(y0s a3G (x.1,0,x.2,())).bind fun w4=>match w4 with |.inl a5=>(cond (decide (a5.1≥2)) (some (decide (a5.1≤1024))) (some false)) |.inr b6=>some b6.1
def b9f:FSem:=⟨[.v QI,.v (.arr 3 QI)],[.v .bool],a5y⟩
def d3C:Hints:=⟨[(26,[0,5,.vp 3 (.arr 3 QI)],[Qe 0 [0],Qr [.sv 4 .bool]])],[(420,[Qn [0,5,.sv 19 .bool,.vp 3 (.arr 3 QI)]])],[]⟩
def a4L(x:(Int×Int×Unit)):Option Bool:=cond (decide (x.1≥1)) (cond (decide (x.1≤32)) (cond (decide (x.2.1≥0)) (some (decide (x.2.1≤8))) (some false)) (some false)) (some false)
def b7C:FSem:=⟨[.v Q5],[.v .bool],a4L⟩
def a3k(s:Z42):Option (Z42 ⊕ ((Z6×Unit) ⊕ (Bool×Unit))):=cond (decide (s.2.1<(s.1.length:Int))) ((m0k s.1 s.2.1).bind fun x1=>(a4L x1).bind fun y2=>cond (!y2) (some (.inr (Sum.inr ((false,()))))) (some (.inl (s.1,wrap .i64 (s.2.1+1),())))) (some (.inr (Sum.inl (s.1,()))))
def a4M(x:Z6):Option Bool:=(y0s a3k (x,0,())).bind fun w3=>match w3 with |.inl a4=>some (decide ((a4.1.length:Int)≤3)) |.inr b5=>some b5.1
def b7D:FSem:=⟨[.v (.list false Q5)],[.v .bool],a4M⟩
def d3D:Hints:=⟨[(26,[.sv 0 (.list false Q5),3],[Qe 0 [.sv 0 (.list false Q5)],Qr [.sv 2 .bool]])],[],[]⟩
def a5K(x:a7w):Option Int:=cond (x.1.1==0) (some 1) (cond (x.1.1==1) (some x.2) (cond (x.1.1==2) ((show Option c3h from cond (decide (x.1.2.2.1≥0)) (cond (decide (x.1.2.2.1≤4)) (some (decide (x.1.2.2.1≤x.2),x.1,())) (some (false,x.1,()))) (some (false,x.1,()))).bind fun z1=>cond z1.1 (some z1.2.1.2.2.1) (some (-1))) ((show Option c3j from cond (x.1.1==3) (some (x.2,x.1.1,x.1.1==3,x.1,())) (some (x.2,x.1.1,x.1.1==4,x.1,()))).bind fun z2=>cond z2.2.2.1 ((show Option c3h from(a2X (z2.2.2.2.1.2.2.2.2.2.1,z2.2.2.2.1.2.2.2.1)).bind fun y3=>cond y3 (cond (decide ((z2.2.2.2.1.2.2.2.2.2.1.length:Int)≤z2.1)) (cond (z2.2.2.2.1.1==3) (some (true,z2.2.2.2.1,())) ((a5y (z2.2.2.2.1.2.2.2.2.1,z2.2.2.2.1.2.2.2.2.2.2.1)).bind fun y4=>some (y4,z2.2.2.2.1,()))) (some (false,z2.2.2.2.1,()))) (some (false,z2.2.2.2.1,()))).bind fun z5=>cond z5.1 (some (z5.2.1.2.2.2.2.2.1.length:Int)) (some (-1))) (cond (z2.2.1==5) ((show Option (Bool×Unit)from cond (decide ((z2.2.2.2.1.2.2.2.2.2.2.2.1.length:Int) > 0)) ((a4M z2.2.2.2.1.2.2.2.2.2.2.2.1).bind fun y6=>some (y6,())) (some (false,()))).bind fun z7=>cond z7.1 (some 0) (some (-1))) (some (-1))))))
end Go.Ab
namespace Go.Ab
open IntKind(wrap)
open Go.Proofs
set_option maxRecDepth 100000
set_option linter.unusedVariables false
def c2l:FSem:=⟨[.v Q50,.v QI],[.v QI],a5K⟩
def d3E:Hints:=⟨[],[(1726,[Qn [.sv 27 .bool,.vp 2 Q50]]),(1727,[Qn [1,6,.sv 30 .bool,.vp 2 Q50]]),(6910,[Qn [.sv 56 .bool,.vp 2 Q50]]),(27646,[Qn [.sv 70 .bool]])],[]⟩
def a3g(x:Int):Option Bool:=cond (decide (x≥2)) (some (decide (x≤5))) (some false)
def b9g:FSem:=⟨[.v QI],[.v .bool],a3g⟩
def a1S(x:Int):Option Bool:=cond (decide (x≥(-1073741824))) (some (decide (x<1073741824))) (some false)
def c4S:FSem:=⟨[.v QI],[.v .bool],a1S⟩
def a4b(s:Z5):Option (Z5 ⊕ Z0):=cond (decide (s.2.1<(s.1.length:Int))) ((m0k s.1 s.2.1).bind fun x1=>(a1S x1).bind fun y2=>cond (!y2) (some (.inr (Sum.inr ((false,()))))) (some (.inl (s.1,wrap .i64 (s.2.1+1),())))) (some (.inr (Sum.inl ())))
def a1q(x:LI):Option Bool:=(y0s a4b (x,0,())).bind fun w3=>match w3 with |.inl a4=>some true |.inr b5=>some b5.1
def c0N:FSem:=⟨[.v QL],[.v .bool],a1q⟩
def H64:Hints:=⟨[(26,[.sv 0 QL,3],[Qe 0 [],Qr [.sv 2 .bool]])],[],[]⟩
def a9I(x:(Int×Int)):Option Bool:=cond (decide (x.1≥1)) (cond (decide (x.1≤4096)) (cond (decide (x.2≥0)) (some (decide (x.2≤x.1))) (some false)) (some false)) (some false)
def c5T:FSem:=⟨[.v QI,.v QI],[.v .bool],a9I⟩
def a4c(s:(Int×Z33)):Option ((Int×Z33) ⊕ Z4):=(fun(a b c:Int)(d:LI)=>cond (decide ((wrap .u64 a)<0)) none (cond (decide (c<(A0n .i64 1 (wrap .u64 a)))) (cond (decide ((wrap .u64 a)<0)) none (cond (lim ((a02 d)+1)) (some (.inl (a,s.2.1,b,wrap .i64 (c+1),a04 d [A0o .i64 s.2.1 (wrap .u64 a)],()))) none)) (some (.inr (b,d,()))))) s.1 s.2.2.1 s.2.2.2.1 s.2.2.2.2.1
def a2j(x:(Int×Int×Int)):Option LI:=(show Option Z26 from(a9I (x.2.1,x.2.2)).bind fun y1=>cond (!y1) (some (x.1,x.2.1,x.2.2,true,())) (cond (decide (x.1<0)) (some (x.1,x.2.1,x.2.2,true,())) (cond (decide (x.1 > 8)) (some (x.1,x.2.1,x.2.2,true,())) (cond (decide ((wrap .u64 x.1)<0)) none (cond ((A0n .i64 1 (wrap .u64 x.1))==0) none (cond ((a08 x.2.1 (A0n .i64 1 (wrap .u64 x.1))) != 0) (some (x.1,x.2.1,x.2.2,true,())) (cond (decide ((wrap .u64 x.1)<0)) none (some (x.1,x.2.1,x.2.2,decide ((A0o .i64 x.2.1 (wrap .u64 x.1))<x.2.2),()))))))))).bind fun z2=>cond z2.2.2.2.1 (some []) ((y0s a4c (z2.1,z2.2.1,z2.2.2.1,0,[],())).bind fun w3=>cond (decide (0<(w3.2.1.length:Int))) (cond (decide (0<(w3.2.1.length:Int))) (some (a05 w3.2.1 0 (wrap .i64 ((a03 w3.2.1 0 0)-w3.1)))) none) none)
def b5V:FSem:=⟨[.v QI,.v QI,.v QI],[.o QI],a2j⟩
def d3F:Hints:=⟨[(122,[0,1,2,8,.own 7 7 QI],[Qe 0 [2,.own 7 7 QI]])],[(6,[Qn [0,1,2,.sv 36 .bool]])],[]⟩
def a1c(x:Int):Option Bool:=cond (decide (x≥0)) (some (decide (x≤25))) (some false)
def b7E:FSem:=⟨[.v QI],[.v .bool],a1c⟩
def a2I(s:(Int×Z22)):Option ((Int×Z22) ⊕ Z0):=cond (decide (s.1<(s.2.1.2.1.length:Int))) ((show Option (Int×Z44)from(m0k s.2.1.2.1 s.1).bind fun x3=>(a1c x3).bind fun y4=>cond (!y4) ((m0k s.2.1.2.1 s.1).bind fun x5=>some (s.1,x5 != 31,s.2.1,())) (some (s.1,false,s.2.1,()))).bind fun z6=>cond z6.2.1 (some (.inr (Sum.inr ((false,()))))) (some (.inl (wrap .i64 (z6.1+1),z6.2.2.1,())))) (some (.inr (Sum.inl ())))
def a3Q(x:(Z4×Int×Int)):Option Bool:=(a2j (x.1.1,x.2.1,x.2.2)).bind fun y1=>(show Option Z44 from cond ((y1.length:Int)==0) (some (true,x.1,())) (some ((y1.length:Int) != (x.1.2.1.length:Int),x.1,()))).bind fun z2=>cond z2.1 (some false) ((y0s a2I (0,z2.2.1,())).bind fun w7=>match w7 with |.inl a8=>some true |.inr b9=>some b9.1)
def b9h:FSem:=⟨[.v Q9,.v QI,.v QI],[.v .bool],a3Q⟩
def d3G:Hints:=⟨[(122,[8,.vp 3 Q9],[Qe 0 [],Qr [.sv 6 .bool]])],[(14,[Qn [.sv 24 .bool,.vp 3 Q9]]),(1956,[Qn [8,.sv 46 .bool,.vp 3 Q9]])],[]⟩
def a8F(x:a0W):Option a0W:=cond (x.1==0) (some (x.1,0,0,0,0,[],a01 3 0,[],x.2.2.2.2.2.2.2.2.1,(0,[],()),[],())) (cond (x.1==1) (some (x.1,x.2.1,0,0,0,[],a01 3 0,[],x.2.2.2.2.2.2.2.2.1,(0,[],()),[],())) ((show Option a9z from cond (x.1==2) (some ((0,0,0,0,0,[],a01 3 0,[],[],(0,[],()),[],()),(x.1,x.2.1,x.2.2.1,0,0,[],a01 3 0,[],x.2.2.2.2.2.2.2.2.1,x.2.2.2.2.2.2.2.2.2.1,x.2.2.2.2.2.2.2.2.2.2.1,()),())) (cond (x.1==3) (some ((0,0,0,0,0,[],a01 3 0,[],[],(0,[],()),[],()),(x.1,x.2.1,0,x.2.2.2.1,0,x.2.2.2.2.2.1,a01 3 0,[],x.2.2.2.2.2.2.2.2.1,x.2.2.2.2.2.2.2.2.2.1,x.2.2.2.2.2.2.2.2.2.2.1,()),())) (cond (x.1==4) (some ((0,0,0,0,0,[],a01 3 0,[],[],(0,[],()),[],()),(x.1,x.2.1,0,x.2.2.2.1,x.2.2.2.2.1,x.2.2.2.2.2.1,x.2.2.2.2.2.2.1,[],x.2.2.2.2.2.2.2.2.1,x.2.2.2.2.2.2.2.2.2.1,x.2.2.2.2.2.2.2.2.2.2.1,()),())) (cond (x.1==5) (some ((0,0,0,0,0,[],a01 3 0,[],[],(0,[],()),[],()),(x.1,x.2.1,0,0,0,[],a01 3 0,x.2.2.2.2.2.2.2.1,[],x.2.2.2.2.2.2.2.2.2.1,x.2.2.2.2.2.2.2.2.2.2.1,()),())) (some ((0,0,0,0,0,[],a01 3 0,[],[],(0,[],()),[],()),(x.1,x.2.1,0,0,0,[],a01 3 0,[],x.2.2.2.2.2.2.2.2.1,x.2.2.2.2.2.2.2.2.2.1,x.2.2.2.2.2.2.2.2.2.2.1,()),())))))).bind fun z1=>some z1.2.1))
def c2m:FSem:=⟨[.v Q50],[.v Q50],a8F⟩
def d3H:Hints:=⟨[],[(127,[Qn [.box 2 Q50,.box 3 Q50,Qp 2 2,Qp 3 3]])],[(7,[.v,.v,.v,.v,.q,.w [0,3],.x,.x]),(12,[.v,.v,.v,.v,.q,.w [0,3],.x,.x]),(14,[.v,.v,.v,.v,.v,.v,.v,.v,.q,.w [0,3],.q,.w [0,3],.q,.w [0,3],.x,.x])]⟩
def a9J(x:Int):Option LI:=cond ((decide (0≤x))&&(decide (x<5))) (some (a03 ([[],[1],[2,(-1)],[3,(-3),1],[4,(-6),4,(-1)]]:List LI) (a00 x) [])) none
def c0O:FSem:=⟨[.v QI],[.v QL],a9J⟩
def a2R(s:(LI×(Int×Z71))):Option ((LI×(Int×Z71)) ⊕ (LI×Z67)):=(fun(a:Int)(b:LI)(c d e:Int)(f:LI)=>cond (decide (e<a)) ((m0k b e).bind fun x7=>cond ((decide (0≤(wrap .i64 ((wrap .i64 ((f.length:Int)-1))-e))))&&(decide ((wrap .i64 ((wrap .i64 ((f.length:Int)-1))-e))<(f.length:Int)))) (some (.inl (s.1,a,b,c,wrap .i64 (d+(wrap .i64 (x7*(a03 f (a00 (wrap .i64 ((wrap .i64 ((f.length:Int)-1))-e))) 0)))),wrap .i64 (e+1),f,()))) none) (some (.inr (s.1,a,b,c,d,f,())))) s.2.1 s.2.2.1 s.2.2.2.1 s.2.2.2.2.1 s.2.2.2.2.2.1 s.2.2.2.2.2.2.1
def a4d(s:(LI×(Int×Z29))):Option ((LI×(Int×Z29)) ⊕ Z51):=(fun(a:Int)(b:LI)=>cond (decide (a<(s.1.length:Int))) ((m0k s.1 a).bind fun x6=>(y0s a2R (s.1,s.2.1,s.2.2.1,a,x6,0,b,())).bind fun w8=>(a1S w8.2.2.2.2.1).bind fun y9=>cond (!y9) (some (.inr (Sum.inr ((6,[],()))))) (cond (lim ((a02 w8.2.2.2.2.2.1)+1)) (some (.inl (w8.1,w8.2.1,w8.2.2.1,wrap .i64 (w8.2.2.2.1+1),a04 w8.2.2.2.2.2.1 [w8.2.2.2.2.1],()))) none)) (some (.inr (Sum.inl (b,()))))) s.2.2.2.1 s.2.2.2.2.1
def a5W(x:Z11):Option (LI×Int):=(show Option Z54 from cond (decide (x.2.2<0)) (some (x.1,x.2.1,x.2.2,true,())) (cond (decide (x.2.2 > 4)) (some (x.1,x.2.1,x.2.2,true,())) (some (x.1,x.2.1,x.2.2,(x.1.length:Int) != x.2.2,())))).bind fun z1=>cond z1.2.2.2.1 (some ([],1)) ((show Option Z54 from(a1q z1.1).bind fun y2=>cond (!y2) (some (z1.1,z1.2.1,z1.2.2.1,true,())) ((a1q z1.2.1).bind fun y3=>some (z1.1,z1.2.1,z1.2.2.1,!y3,()))).bind fun z4=>cond z4.2.2.2.1 (some ([],6)) (cond (lim (0+(a02 z4.1))) ((a9J z4.2.2.1).bind fun y5=>(y0s a4d (z4.2.1,z4.2.2.1,y5,0,a04 [] z4.1,())).bind fun w10=>match w10 with |.inl a11=>some (a11.1,0) |.inr b12=>some (b12.2.1,b12.1)) none))
def b5W:FSem:=⟨[.v QL,.v QL,.v QI],[.o QI,.v QI],a5W⟩
def d3I:Hints:=⟨[(250,[.sv 1 QL,2,.sv 9 QL,10,.own 8 8 QI],[Qe 0 [.own 8 8 QI],Qr [7,.own 6 6 QI]]),(64074,[.sv 1 QL,2,.sv 9 QL,10,11,12,.own 8 8 QI],[Qe 2 [.sv 1 QL,2,.sv 9 QL,10,11,.own 8 8 QI]])],[(6,[Qn [.sv 0 QL,.sv 1 QL,2,.sv 24 .bool]]),(14,[Qn [.sv 0 QL,.sv 1 QL,2,.sv 32 .bool]])],[(13,[.v,.v,.v,.v,.v,.q,.q,.q,.v,.v,.v,.q,.q,.v,.x,.x])]⟩
def a2k(s:Z70):Option (Z70 ⊕ ((Int×Int×Unit) ⊕ (Int×Unit))):=(fun(a b:LI)(c d e:Int)=>cond (decide (e<(b.length:Int))) (cond (decide (e<(a.length:Int))) ((m0k a (wrap .i64 ((wrap .i64 ((a.length:Int)-1))-e))).bind fun x2=>(a1S x2).bind fun y3=>cond (!y3) (some (.inr (Sum.inr ((0,()))))) ((m0k b e).bind fun x4=>some (.inl (a,b,c,wrap .i64 (d+(wrap .i64 (x4*x2))),wrap .i64 (e+1),())))) (some (.inr (Sum.inl (c,d,()))))) (some (.inr (Sum.inl (c,d,()))))) s.1 s.2.1 s.2.2.1 s.2.2.2.1 s.2.2.2.2.1
def a4w(x:Z11):Option Int:=(a2X (x.2.1,x.2.2)).bind fun y1=>cond (!y1) (some 0) ((y0s a2k (x.1,x.2.1,x.2.2,0,0,())).bind fun w5=>match w5 with |.inl a6=>(cond (decide ((wrap .u64 a6.1)<0)) none (some (A0o .i64 a6.2.1 (wrap .u64 a6.1)))) |.inr b7=>some b7.1)
def b4b:FSem:=⟨[.v QL,.v QL,.v QI],[.v QI],a4w⟩
def d3J:Hints:=⟨[(122,[.sv 0 QL,.sv 1 QL,2,7,8],[Qe 0 [2,7],Qr [6]])],[],[]⟩
def a3L(s:Z81):Option (Z81 ⊕ Z51):=(fun(a b:Int)(c:LI)=>cond (decide (b<(s.1.length:Int))) ((m0k s.1 b).bind fun x6=>(a4w (c,s.2.1,a)).bind fun y7=>(a1S (wrap .i64 (x6+y7))).bind fun y8=>cond (!y8) (some (.inr (Sum.inr ((6,[],()))))) (cond (lim ((a02 c)+1)) (some (.inl (s.1,s.2.1,a,wrap .i64 (b+1),a04 c [wrap .i64 (x6+y7)],()))) none)) (some (.inr (Sum.inl (c,()))))) s.2.2.1 s.2.2.2.1 s.2.2.2.2.1
def a3H(x:(LI×Z11)):Option (LI×Int):=(show Option Z87 from(a2X (x.2.2.1,x.2.2.2)).bind fun y1=>cond (!y1) (some (x.1,x.2.1,x.2.2.1,x.2.2.2,true,())) (some (x.1,x.2.1,x.2.2.1,x.2.2.2,(x.1.length:Int) != (x.2.2.1.length:Int),()))).bind fun z2=>cond z2.2.2.2.2.1 (some ([],1)) ((show Option Z87 from(a1q z2.1).bind fun y3=>cond (!y3) (some (z2.1,z2.2.1,z2.2.2.1,z2.2.2.2.1,true,())) ((a1q z2.2.1).bind fun y4=>some (z2.1,z2.2.1,z2.2.2.1,z2.2.2.2.1,!y4,()))).bind fun z5=>cond z5.2.2.2.2.1 (some ([],6)) (cond (lim (0+(a02 z5.1))) ((y0s a3L (z5.2.1,z5.2.2.1,z5.2.2.2.1,0,a04 [] z5.1,())).bind fun w9=>match w9 with |.inl a10=>some (a10.1,0) |.inr b11=>some (b11.2.1,b11.1)) none))
def b4X:FSem:=⟨[.v QL,.v QL,.v QL,.v QI],[.o QI,.v QI],a3H⟩
def d3K:Hints:=⟨[(250,[.sv 1 QL,.sv 2 QL,3,11,.own 10 10 QI],[Qe 0 [.own 10 10 QI],Qr [9,.own 8 8 QI]])],[(6,[Qn [.sv 0 QL,.sv 1 QL,.sv 2 QL,3,.sv 23 .bool]]),(14,[Qn [.sv 0 QL,.sv 1 QL,.sv 2 QL,3,.sv 31 .bool]])],[(9,[.v,.v,.v,.v,.q,.v,.v,.q,.x,.x])]⟩
def a2S(s:Z71):Option (Z71 ⊕ (Int×Unit)):=(fun(a:LI)(b c d:Int)(e:LI)=>cond (decide (d<3)) (cond (decide ((wrap .i64 ((wrap .i64 ((wrap .i64 ((a.length:Int)-b))-1))+d))≥0)) ((m0k e d).bind fun x1=>(m0k a (wrap .i64 ((wrap .i64 ((wrap .i64 ((a.length:Int)-b))-1))+d))).bind fun x2=>some (.inl (a,b,wrap .i64 (c+(wrap .i64 (x1*x2))),wrap .i64 (d+1),e,()))) (some (.inl (a,b,c,wrap .i64 (d+1),e,())))) (some (.inr (c,())))) s.1 s.2.1 s.2.2.1 s.2.2.2.1 s.2.2.2.2.1
def a5X(x:Z12):Option Int:=(y0s a2S (x.1,x.2.1,0,0,x.2.2,())).bind fun w3=>some (A0o .i64 w3.1 6)
def b5X:FSem:=⟨[.v QL,.v QI,.v (.arr 3 QI)],[.v QI],a5X⟩
def d3L:Hints:=⟨[(58,[.sv 0 QL,1,7,8,.vp 5 (.arr 3 QI)],[Qe 0 [7]])],[],[(7,[.v,.v,.v,.v,.v,.v,.v,.v,.v,.x,.x])]⟩
def a4x(s:Z82):Option (Z82 ⊕ Z51):=(fun(a:Int)(b c:LI)=>cond (decide (a<(s.1.length:Int))) ((m0k s.1 a).bind fun x3=>(a5X (b,s.2.1,c)).bind fun y4=>(a1S (wrap .i64 (x3+y4))).bind fun y5=>cond (!y5) (some (.inr (Sum.inr ((6,[],()))))) (cond (lim ((a02 b)+1)) (some (.inl (s.1,s.2.1,wrap .i64 (a+1),a04 b [wrap .i64 (x3+y4)],c,()))) none)) (some (.inr (Sum.inl (b,()))))) s.2.2.1 s.2.2.2.1 s.2.2.2.2.1
def a6G(x:Z12):Option (LI×Int):=(a5y (x.2.1,x.2.2)).bind fun y1=>cond (!y1) (some ([],1)) ((a1q x.1).bind fun y2=>cond (!y2) (some ([],6)) ((y0s a4x (x.1,x.2.1,0,[],x.2.2,())).bind fun w6=>match w6 with |.inl a7=>some (a7.1,0) |.inr b8=>some (b8.2.1,b8.1)))
def b7F:FSem:=⟨[.v QL,.v QI,.v (.arr 3 QI)],[.o QI,.v QI],a6G⟩
def d3M:Hints:=⟨[(250,[.sv 0 QL,1,9,.own 8 8 QI,.vp 5 (.arr 3 QI)],[Qe 0 [.own 8 8 QI],Qr [7,.own 6 6 QI]])],[],[(9,[.v,.v,.v,.v,.q,.v,.v,.q,.x,.x])]⟩
def a5Y(x:(Int×Int×Unit)):Option Z48:=(a4L x).bind fun y1=>cond (!y1) none (cond ((decide (0≤x.1))&&((decide (x.1≤x.1))&&(lim (a00 x.1)))) (cond ((decide (0≤x.1))&&((decide (x.1≤x.1))&&(lim (a00 x.1)))) (some ((x.2.1,a01 (a00 x.1) 0,a01 (a00 x.1) 0,()),0)) none) none)
def b5Y:FSem:=⟨[.v Q5],[.b Q14,.v QI],a5Y⟩
def d3N:Hints:=⟨[],[],[(3,[.v,.v,.v,.v,.q,.v,.v,.q,.x,.x,.x,.x])]⟩
def a7L(x:Int):Option Int:=some (v0s (v0r x (-1073741824)) 1073741823)
def c3K:FSem:=⟨[.v QI],[.v QI],a7L⟩
def a2Y(s:Z89):Option (Z89 ⊕ Z72):=(fun(a:Int)(b:Z28)=>cond (decide (a<(b.2.1.length:Int))) (cond ((decide (0≤a))&&(decide (a<(b.2.1.length:Int)))) (cond ((decide (0≤a))&&(decide (a<(b.2.2.1.length:Int)))) (some (.inl (wrap .i64 (s.1+(wrap .i64 ((a03 b.2.1 (a00 a) 0)*(a03 b.2.2.1 (a00 a) 0)))),wrap .i64 (a+1),b,()))) none) none) (some (.inr (s.1,b,())))) s.2.1 s.2.2.1
def a2T(x:Z28):Option Z47:=(y0s a2Y (0,0,x,())).bind fun w1=>(a7L (A0o .i64 w1.1 16)).bind fun y2=>some (y2,w1.2.1)
def b3b:FSem:=⟨[.r false (.b Q14)],[.v QI],a2T⟩
def d3O:Hints:=⟨[(58,[3,4,.box pinned Q14,Qp 0 pinned],[Qe 0 [3,.box pinned Q14]])],[],[(5,[.v,.p,.p,.q,.q,.v,.q,.q,.p,.p,.q,.q,.v,.q,.q,.v,.x,.x])]⟩
def a7M(x:Int):Option Int:=cond (decide (x > 0)) (some 1) (cond (decide (x<0)) (some (-1)) (some 0))
def c3L:FSem:=⟨[.v QI],[.v QI],a7M⟩
def a2l(s:(Int×(Int×(Int×(LI×Z86))))):Option ((Int×(Int×(Int×(LI×Z86)))) ⊕ (Int×(LI×Z86))):=(fun(a:Int)(b c:LI)(d:Z28)=>cond (decide (a<(d.2.1.length:Int))) (cond ((decide (0≤a))&&(decide (a<(d.2.1.length:Int)))) (cond ((decide (0≤a))&&(decide (a<(d.2.2.1.length:Int)))) ((a7M (a03 d.2.2.1 (a00 a) 0)).bind fun y4=>cond (decide ((wrap .u64 d.1)<0)) none (cond (lim ((a02 b)+1)) (some (.inl (s.1,s.2.1,wrap .i64 (a+1),a04 b [v0s (v0r (wrap .i64 ((a03 d.2.1 (a00 a) 0)+(A0n .i64 (wrap .i64 (s.2.1*y4)) (wrap .u64 d.1)))) (-1048576)) 1048576],c,d,()))) none)) none) none) (some (.inr (s.1,b,c,d,())))) s.2.2.1 s.2.2.2.1 s.2.2.2.2.1 s.2.2.2.2.2.1
def a4y(x:Z48):Option Z28:=(a7L x.2).bind fun y1=>(a2T x.1).bind fun y2=>(a7M (wrap .i64 (y1-y2.1))).bind fun y3=>(y0s a2l (y1,y3,0,[],[],y2.2,())).bind fun w5=>cond (lim ((a02 w5.2.2.1)+1)) (cond ((decide (0≤(wrap .i64 ((w5.2.2.2.1.2.2.1.length:Int)-1))))&&(decide ((wrap .i64 ((w5.2.2.2.1.2.2.1.length:Int)-1))≤(w5.2.2.2.1.2.2.1.length:Int)))) (cond (lim ((a02 (a04 w5.2.2.1 [w5.1]))+(a02 (a06 (a00 (wrap .i64 ((w5.2.2.2.1.2.2.1.length:Int)-1))) (a07 0 w5.2.2.2.1.2.2.1))))) (some (w5.2.2.2.1.1,w5.2.1,a04 (a04 w5.2.2.1 [w5.1]) (a06 (a00 (wrap .i64 ((w5.2.2.2.1.2.2.1.length:Int)-1))) (a07 0 w5.2.2.2.1.2.2.1)),w5.2.2.2.1.2.2.2)) none) none) none
def b4c:FSem:=⟨[.r false (.b Q14),.v QI],[],a4y⟩
def d3P:Hints:=⟨[(122,[1,4,7,.own 5 5 QI,.own 6 6 QI,.box pinned Q14,Qp 0 pinned],[Qe 0 [1,.own 5 5 QI,.own 6 6 QI,.box pinned Q14,Qp 0 pinned]])],[],[(6,[.q,.p,.p,.q,.q,.v,.q,.q,.v,.p,.p,.q,.q,.v,.q,.q,.v,.v,.p,.p,.q,.q,.v,.v,.v,.v,.v,.q,.x,.x]),(7,[.q,.v,.q,.w [6,55,56],.p,.p,.r [59,pinned],.r [60,pinned],.p,.p,.r [63,pinned],.r [64,pinned],.r [65,pinned],.v,.r [67,pinned],.x,.x])]⟩
def a2U(s:(Z6×c3d)):Option ((Z6×c3d) ⊕ ((Z6×Z4) ⊕ Z4)):=(fun(a:Int)(b:LI)=>cond (decide (a<(b.length:Int))) (cond ((decide (0≤a))&&(decide (a<(b.length:Int)))) ((a2T s.2.2.2.2.1).bind fun y5=>(a1S (wrap .i64 ((a03 b (a00 a) 0)+y5.1))).bind fun y6=>cond (!y6) (some (.inr (Sum.inr ((6,[],()))))) (cond ((decide (0≤a))&&(decide (a<(b.length:Int)))) ((a4y (y5.2,wrap .i64 ((a03 b (a00 a) 0)+y5.1))).bind fun y7=>some (.inl (s.1,s.2.1,wrap .i64 (a+1),a05 b (a00 a) (wrap .i64 ((a03 b (a00 a) 0)+y5.1)),y7,()))) none)) none) (some (.inr (Sum.inl (s.1,s.2.1,b,()))))) s.2.2.1 s.2.2.2.1
def a4e(s:(Z6×Z4)):Option ((Z6×Z4) ⊕ Z51):=cond (decide (s.2.1≥0)) ((m0k s.1 s.2.1).bind fun x3=>(a5Y x3).bind fun y4=>(y0s a2U (s.1,s.2.1,0,s.2.2.1,y4.1,())).bind fun w8=>match w8 with |.inl a9=>some (.inl (a9.1,wrap .i64 (a9.2.1-1),a9.2.2.1,())) |.inr b10=>some (.inr (Sum.inr ((b10.1,b10.2.1,()))))) (some (.inr (Sum.inl (s.2.2.1,()))))
def a5Z(x:(LI×Z6)):Option (LI×Int):=(a4M x.2).bind fun y1=>cond (!y1) (some ([],1)) ((a1q x.1).bind fun y2=>cond (!y2) (some ([],6)) (cond (lim (0+(a02 x.1))) ((y0s a4e (x.2,wrap .i64 ((x.2.length:Int)-1),a04 [] x.1,())).bind fun w11=>match w11 with |.inl a12=>some (a12.1,0) |.inr b13=>some (b13.2.1,b13.1)) none))
def b5Z:FSem:=⟨[.v QL,.v (.list false Q5)],[.o QI,.v QI],a5Z⟩
def d3Q:Hints:=⟨[(250,[.sv 1 (.list false Q5),7,.own 6 6 QI],[Qe 0 [.own 6 6 QI],Qr [5,.own 4 4 QI]]),(32038,[.sv 1 (.list false Q5),7,10,.own 6 6 QI,.box 1033 Q14,Qp 8 1033],[Qe 2 [.sv 1 (.list false Q5),7,.own 6 6 QI],Qr [5,.own 4 4 QI]])],[],[(13,[.r [6,42],.v,.r [6,44],.r [6,45],.q,.w [47,1033,1047],.x,.x])]⟩
def a9p(x:a0W):Option (LI×Int):=cond (x.1==2) ((a5W (x.2.2.2.2.2.2.2.2.1,x.2.2.2.2.2.2.2.2.2.2.1,x.2.2.1)).bind fun y1=>some (y1.1,y1.2)) (cond (x.1==3) ((a3H (x.2.2.2.2.2.2.2.2.1,x.2.2.2.2.2.2.2.2.2.2.1,x.2.2.2.2.2.1,x.2.2.2.1)).bind fun y2=>some (y2.1,y2.2)) (cond (x.1==4) ((a3H (x.2.2.2.2.2.2.2.2.1,x.2.2.2.2.2.2.2.2.2.2.1,x.2.2.2.2.2.1,x.2.2.2.1)).bind fun y3=>cond (y3.2 != 0) (some ([],y3.2)) ((a6G (y3.1,x.2.2.2.2.1,x.2.2.2.2.2.2.1)).bind fun y4=>some (y4.1,y4.2))) (cond (x.1==5) ((a5Z (x.2.2.2.2.2.2.2.2.2.2.1,x.2.2.2.2.2.2.2.1)).bind fun y5=>some (y5.1,y5.2)) (some (x.2.2.2.2.2.2.2.2.1,0)))))
def c3M:FSem:=⟨[.v Q50],[.v QL,.v QI],a9p⟩
def a9q(s:Z46):Option (Z46 ⊕ Z51):=(fun(a:LI)(b c:Int)(d:LI)=>cond (decide (c<(a.length:Int))) ((show Option (LI×Z38)from(m0k a c).bind fun x2=>(a1S x2).bind fun y3=>cond (!y3) (some (a,b,c,true,d,())) ((m0k a c).bind fun x4=>cond (decide ((wrap .u64 b)<0)) none ((a1S (A0n .i64 x4 (wrap .u64 b))).bind fun y5=>some (a,b,c,!y5,d,())))).bind fun z6=>cond z6.2.2.2.1 (some (.inr (Sum.inr ((6,[],()))))) ((m0k z6.1 z6.2.2.1).bind fun x7=>cond (decide ((wrap .u64 z6.2.1)<0)) none (cond (lim ((a02 z6.2.2.2.2.1)+1)) (some (.inl (z6.1,z6.2.1,wrap .i64 (z6.2.2.1+1),a04 z6.2.2.2.2.1 [A0n .i64 x7 (wrap .u64 z6.2.1)],()))) none))) (some (.inr (Sum.inl (d,()))))) s.1 s.2.1 s.2.2.1 s.2.2.2.1
def b3H(x:(LI×Int)):Option (LI×Int):=(show Option Z21 from cond (decide (x.2<0)) (some (x.1,x.2,true,())) (some (x.1,x.2,decide (x.2 > 30),()))).bind fun z1=>cond z1.2.2.1 (some ([],1)) ((y0s a9q (z1.1,z1.2.1,0,[],())).bind fun w8=>match w8 with |.inl a9=>some (a9.1,0) |.inr b10=>some (b10.2.1,b10.1))
def c7L:FSem:=⟨[.v QL,.v QI],[.o QI,.v QI],b3H⟩
def d3R:Hints:=⟨[(122,[.sv 0 QL,1,7,.own 6 6 QI],[Qe 0 [.own 6 6 QI],Qr [5,.own 4 4 QI]])],[(6,[Qn [.sv 0 QL,1,.sv 13 .bool]]),(3912,[Qn [.sv 0 QL,1,7,.sv 36 .bool,.own 6 6 QI]])],[]⟩
def a4f(s:c3k):Option (c3k ⊕ (LI×Unit)):=(fun(a:Int)(b:LI)(c:a0W)=>cond (decide (a<s.1)) ((m0k c.2.2.2.2.2.2.2.2.1 0).bind fun x11=>cond ((decide (0≤a))&&(decide (a<(b.length:Int)))) (some (.inl (s.1,wrap .i64 (a+1),a05 b (a00 a) x11,c,()))) none) (some (.inr (b,())))) s.2.1 s.2.2.1 s.2.2.2.1
def a6o(x:a7w):Option (LI×Bool):=(show Option b6V from cond (decide (x.2<1)) (some (x.2,true,x.1,())) (cond (decide (x.2 > 4096)) (some (x.2,true,x.1,())) (cond (decide (x.1.1<0)) (some (x.2,true,x.1,())) (cond (decide (x.1.1 > 5)) (some (x.2,true,x.1,())) ((a8F x.1).bind fun y1=>(a5v (x.1,y1)).bind fun y2=>cond (!y2) (some (x.2,true,x.1,())) (cond (decide (x.1.2.1<0)) (some (x.2,true,x.1,())) (some (x.2,decide (x.1.2.1 > 30),x.1,())))))))).bind fun z3=>cond z3.2.1 (some ([],false)) ((a5K (z3.2.2.1,z3.1)).bind fun y4=>(show Option c3j from cond (decide (y4<0)) (some (z3.1,y4,true,z3.2.2.1,())) (cond ((z3.2.2.1.2.2.2.2.2.2.2.2.1.length:Int) != y4) (some (z3.1,y4,true,z3.2.2.1,())) ((a1q z3.2.2.1.2.2.2.2.2.2.2.2.1).bind fun y5=>cond (!y5) (some (z3.1,y4,true,z3.2.2.1,())) ((a1q z3.2.2.1.2.2.2.2.2.2.2.2.2.2.1).bind fun y6=>some (z3.1,y4,!y6,z3.2.2.1,()))))).bind fun z7=>cond z7.2.2.1 (some ([],false)) ((show Option b6V from(a3g z7.2.2.2.1.1).bind fun y8=>cond y8 (cond ((z7.2.2.2.1.2.2.2.2.2.2.2.2.2.2.1.length:Int) != (wrap .i64 (z7.1-z7.2.1))) (some (z7.1,true,z7.2.2.2.1,())) ((a3Q (z7.2.2.2.1.2.2.2.2.2.2.2.2.2.1,z7.1,z7.2.1)).bind fun y9=>some (z7.1,!y9,z7.2.2.2.1,()))) (some (z7.1,false,z7.2.2.2.1,()))).bind fun z10=>cond z10.2.1 (some ([],false)) (cond (z10.2.2.1.1==0) (cond ((decide (0≤z10.1))&&((decide (z10.1≤z10.1))&&(lim (a00 z10.1)))) ((y0s a4f (z10.1,0,a01 (a00 z10.1) 0,z10.2.2.1,())).bind fun w12=>some (w12.1,true)) none) ((a9p z10.2.2.1).bind fun y13=>cond (y13.2 != 0) (some ([],false)) ((b3H (y13.1,z10.2.2.1.2.1)).bind fun y14=>some (y14.1,y14.2==0))))))
def c0P:FSem:=⟨[.v Q50,.v QI],[.o QI,.v .bool],a6o⟩
def d3S:Hints:=⟨[(8106,[1,8,.own 7 7 QI,.vp 2 Q50],[Qe 0 [.own 7 7 QI]])],[(6,[Qn [1,.sv 45 .bool,.vp 2 Q50]]),(30,[Qn [1,6,.sv 69 .bool,.vp 2 Q50]]),(62,[Qn [1,.sv 89 .bool,.vp 2 Q50]])],[(1,[.x,.x,.x,.x,.x,.x,.x,.x,.x,.x,.x,.x,.x,.x,.x,.x,.x,.v,.v,.v,.x,.x,.x,.x,.x,.x,.x,.x,.x,.x,.x,.x,.x])]⟩
def a7N(x:a7w):Option Bool:=(a6o (x.1,x.2)).bind fun y1=>some y1.2
def c0Q:FSem:=⟨[.v Q50,.v QI],[.v .bool],a7N⟩
def b4Y(x:Int):Option Int:=(show Option (Int×Bool×Unit)from cond (decide (x<1)) (some (x,true,())) (some (x,decide (x > 31),()))).bind fun z1=>cond z1.2.1 (some 0) (cond (decide ((wrap .u64 (wrap .i64 (z1.1-1)))<0)) none (some (A0n .i64 (-1) (wrap .u64 (wrap .i64 (z1.1-1))))))
def c5U:FSem:=⟨[.v QI],[.v QI],b4Y⟩
def d3T:Hints:=⟨[],[(6,[Qn [0,.sv 8 .bool]])],[]⟩
def b3c(x:Int):Option Int:=(show Option (Int×Bool×Unit)from cond (decide (x<1)) (some (x,true,())) (some (x,decide (x > 31),()))).bind fun z1=>cond z1.2.1 (some 0) (cond (decide ((wrap .u64 (wrap .i64 (z1.1-1)))<0)) none (some (wrap .i64 ((A0n .i64 1 (wrap .u64 (wrap .i64 (z1.1-1))))-1))))
def c4T:FSem:=⟨[.v QI],[.v QI],b3c⟩
def d3U:Hints:=⟨[],[(6,[Qn [0,.sv 8 .bool]])],[]⟩
def a7t(x:(Int×Int)):Option Bool:=cond (decide (x.2≥1)) (cond (decide (x.2≤31)) ((b4Y x.2).bind fun y1=>cond (decide (x.1≥y1)) ((b3c x.2).bind fun y2=>some (decide (x.1≤y2))) (some false)) (some false)) (some false)
def c4U:FSem:=⟨[.v QI,.v QI],[.v .bool],a7t⟩
def a5z(s:Z16):Option (Z16 ⊕ Z16):=(fun(a:LI)(b c:Int)=>cond (decide (b<32)) ((m0k a c).bind fun x1=>cond (x1 != 0) ((m0k a c).bind fun x2=>(a7t (x2,b)).bind fun y3=>cond (!y3) (some (.inl (a,wrap .i64 (b+1),c,()))) (some (.inr (a,b,c,())))) (some (.inr (a,b,c,())))) (some (.inr (a,b,c,())))) s.1 s.2.1 s.2.2.1
def a7g(s:Z16):Option (Z16 ⊕ (Int×Unit)):=cond (decide (s.2.2.1<(s.1.length:Int))) ((y0s a5z (s.1,s.2.1,s.2.2.1,())).bind fun w4=>some (.inl (w4.1,w4.2.1,wrap .i64 (w4.2.2.1+1),()))) (some (.inr (s.2.1,())))
def a4g(x:LI):Option Int:=(y0s a7g (x,0,0,())).bind fun w5=>some w5.1
def c3N:FSem:=⟨[.v QL],[.v QI],a4g⟩
def d3V:Hints:=⟨[(58,[.sv 0 QL,3,4],[Qe 0 [3]]),(1864,[.sv 0 QL,3,4],[Qe 2 [.sv 0 QL,3,4]])],[],[]⟩
def a4h(s:Z43):Option (Z43 ⊕ Z9):=(fun(a:Int)(b:LI×Unit)=>cond (decide (a≥0)) (cond (decide ((wrap .u64 a)<0)) none (cond (lim ((a02 b.1)+1)) (some (.inl (s.1,wrap .i64 (a-1),(a04 b.1 [wrap .u8 (bits .u64 .and (A0o .u64 s.1 (wrap .u64 a)) 1)],b.2),()))) none)) (some (.inr (b,())))) s.2.1 s.2.2.1
def a0I(x:((LI×Unit)×(Int×Int))):Option Z4:=(show Option (Int×Int×Bool×Z9)from cond (decide (x.2.2<0)) (some (x.2.1,x.2.2,true,x.1,())) (cond (decide (x.2.2 > 64)) (some (x.2.1,x.2.2,true,x.1,())) (cond (decide (x.2.2<64)) (cond (decide ((wrap .u64 x.2.2)<0)) none (some (x.2.1,x.2.2,(A0o .u64 x.2.1 (wrap .u64 x.2.2)) != 0,x.1,()))) (some (x.2.1,x.2.2,false,x.1,()))))).bind fun z1=>cond z1.2.2.1 (some (1,z1.2.2.2.1)) ((y0s a4h (z1.1,wrap .i64 (z1.2.1-1),z1.2.2.2.1,())).bind fun w2=>some (0,w2.1))
def b6a:FSem:=⟨[.r false (.b Q2),.v QU,.v QI],[.v QI],a0I⟩
def d3W:Hints:=⟨[(58,[.sv 1 QU,7,.box pinned Q2,Qp 0 pinned],[Qe 0 [.box pinned Q2]])],[(6,[Qn [.sv 1 QU,2,.sv 24 .bool,.box pinned Q2,Qp 0 pinned]])],[]⟩
def a4z(s:(LI×Z43)):Option ((LI×Z43) ⊕ Z9):=cond (decide (s.2.2.1<(s.1.length:Int))) ((m0k s.1 s.2.2.1).bind fun x2=>cond (decide ((wrap .u64 s.2.1)<0)) none ((a0I (s.2.2.2.1,bits .u64 .and (wrap .u64 x2) (wrap .u64 ((A0n .u64 1 (wrap .u64 s.2.1))-1)),s.2.1)).bind fun y3=>some (.inl (s.1,s.2.1,wrap .i64 (s.2.2.1+1),y3.2,())))) (some (.inr (s.2.2.2.1,())))
def a2e(x:((LI×Unit)×(LI×Int))):Option (LI×Unit):=(y0s a4z (x.2.1,x.2.2,0,x.1,())).bind fun w4=>some w4.1
def b7G:FSem:=⟨[.r false (.b Q2),.v QL,.v QI],[],a2e⟩
def d3X:Hints:=⟨[(6,[.sv 1 QL,2,6,.box pinned Q2,Qp 0 pinned],[Qe 0 [.box pinned Q2]])],[],[]⟩
def a4i(x:((LI×Unit)×a0W)):Option (LI×Unit):=(a0I (x.1,wrap .u64 (wrap .i64 ((x.2.2.2.2.2.2.1.length:Int)-1)),5)).bind fun y1=>(a0I (y1.2,wrap .u64 x.2.2.2.2.1,4)).bind fun y2=>(a4g x.2.2.2.2.2.2.1).bind fun y3=>(a0I (y2.2,wrap .u64 y3,5)).bind fun y4=>(a2e (y4.2,x.2.2.2.2.2.2.1,y3)).bind fun y5=>some y5
def b6b:FSem:=⟨[.r false (.b Q2),.v Q50],[],a4i⟩
def b4Z(x:Int):Option Int:=(show Option (Int×Unit)from cond (decide (x<0)) (some (bits .u64 .xor (IntKind.max .u64) (A0n .u64 (wrap .u64 x) 1),())) (some (A0n .u64 (wrap .u64 x) 1,()))).bind fun z1=>some z1.1
def c5V:FSem:=⟨[.v QI],[.v QU],b4Z⟩
def d3Y:Hints:=⟨[],[(7,[Qn [.sv 3 QU]])],[]⟩
def a8R(x:Int):Option Int:=(a1S x).bind fun y1=>cond (!y1) (some 0) ((b4Z x).bind fun y2=>some y2)
def c4V:FSem:=⟨[.v QI],[.v QU],a8R⟩
def a7h(x:(Int×Int)):Option Int:=(show Option Z10 from(a1c x.1).bind fun y1=>cond (!y1) (some (x.1,x.2,true,())) ((a1S x.2).bind fun y2=>some (x.1,x.2,!y2,()))).bind fun z3=>cond z3.2.2.1 (some 0) ((a8R z3.2.1).bind fun y4=>cond (decide ((wrap .u64 z3.1)<0)) none (cond (decide ((wrap .i64 (A0o .u64 y4 (wrap .u64 z3.1)))<32)) (some (wrap .i64 ((wrap .i64 ((wrap .i64 (A0o .u64 y4 (wrap .u64 z3.1)))+1))+z3.1))) (some 65)))
def b9i:FSem:=⟨[.v QI,.v QI],[.v QI],a7h⟩
def d3Z:Hints:=⟨[],[(6,[Qn [0,1,.sv 13 .bool]])],[]⟩
def a6a(s:Z32):Option Z76:=(fun(a:LI)(b c:Int)=>cond (decide (c<(a.length:Int))) ((m0k a c).bind fun x1=>(a7h (s.1,x1)).bind fun y2=>some (.inl (s.1,a,wrap .i64 (b+y2),wrap .i64 (c+1),()))) (some (.inr (b,())))) s.2.1 s.2.2.1 s.2.2.2.1
def a7O(x:(Int×LI)):Option Int:=(y0s a6a (x.1,x.2,0,0,())).bind fun w3=>some w3.1
def c0R:FSem:=⟨[.v QI,.v QL],[.v QI],a7O⟩
def d4a:Hints:=⟨[(58,[0,.sv 1 QL,5,6],[Qe 0 [5]])],[],[]⟩
def a7i(x:(Int×LI)):Option Int:=cond (x.1==31) ((a4g x.2).bind fun y1=>some (wrap .i64 (5+(wrap .i64 ((x.2.length:Int)*y1))))) ((a7O (x.1,x.2)).bind fun y2=>some y2)
def b9j:FSem:=⟨[.v QI,.v QL],[.v QI],a7i⟩
def a4A(s:c3e):Option (c3e ⊕ (Int×Unit)):=(fun(a b:Int)(c:LI)(d:Z4)=>cond (decide (b<(c.length:Int))) ((m0k d.2.1 b).bind fun x5=>cond ((decide (0≤b))&&(decide (b<(c.length:Int)))) (cond ((decide (0≤(wrap .i64 (a+(a03 c (a00 b) 0)))))&&(decide ((wrap .i64 (a+(a03 c (a00 b) 0)))≤(s.1.length:Int)))) (cond ((decide (0≤a))&&(decide (a≤((a00 (wrap .i64 (a+(a03 c (a00 b) 0))):Nat):Int)))) ((a7i (x5,a07 (a00 a) (a06 (a00 (wrap .i64 (a+(a03 c (a00 b) 0)))) s.1))).bind fun y6=>cond ((decide (0≤b))&&(decide (b<(c.length:Int)))) (some (.inl (s.1,wrap .i64 ((wrap .i64 (s.2.1+5))+y6),wrap .i64 (a+(a03 c (a00 b) 0)),wrap .i64 (b+1),c,d,()))) none) none) none) none) (some (.inr (s.2.1,())))) s.2.2.1 s.2.2.2.1 s.2.2.2.2.1 s.2.2.2.2.2.1
def a6H(x:Z68):Option Int:=(show Option (Int×(Int×(LI×Z44)))from(a3Q (x.1,x.2.1,x.2.2.1)).bind fun y1=>cond (!y1) (some (x.2.1,x.2.2.1,x.2.2.2,true,x.1,())) (cond ((x.2.2.2.length:Int) != (wrap .i64 (x.2.1-x.2.2.1))) (some (x.2.1,x.2.2.1,x.2.2.2,true,x.1,())) ((a1q x.2.2.2).bind fun y2=>some (x.2.1,x.2.2.1,x.2.2.2,!y2,x.1,())))).bind fun z3=>cond z3.2.2.2.1 (some 0) ((a2j (z3.2.2.2.2.1.1,z3.1,z3.2.1)).bind fun y4=>(y0s a4A (z3.2.2.1,4,0,0,y4,z3.2.2.2.2.1,())).bind fun w7=>some w7.1)
def b7H:FSem:=⟨[.v Q9,.v QI,.v QI,.v QL],[.v QI],a6H⟩
def d4b:Hints:=⟨[(250,[.sv 3 QL,9,10,12,.own 11 11 QI,.vp 4 Q9],[Qe 0 [9]])],[(6,[Qn [1,2,.sv 3 QL,.sv 30 .bool,.vp 4 Q9]])],[(8,[.v,.v,.v,.v,.v,.v,.v,.v,.v,.v,.q,.v,.q,.q,.v,.v,.v,.x,.x])]⟩
def a3q(s:Z43):Option (Z43 ⊕ Z9):=cond (decide (s.2.1<s.1)) (cond (lim ((a02 s.2.2.1.1)+1)) (some (.inl (s.1,wrap .i64 (s.2.1+1),(a04 s.2.2.1.1 [0],s.2.2.1.2),()))) none) (some (.inr (s.2.2.1,())))
def a2o(x:((LI×Unit)×Int)):Option Z4:=(show Option (Int×Bool×Z9)from cond (decide (x.2<0)) (some (x.2,true,x.1,())) (some (x.2,decide (x.2 > 4096),x.1,()))).bind fun z1=>cond z1.2.1 (some (1,z1.2.2.1)) ((y0s a3q (z1.1,0,z1.2.2.1,())).bind fun w2=>cond (lim ((a02 w2.1.1)+1)) (some (0,a04 w2.1.1 [1],w2.1.2)) none)
def b4d:FSem:=⟨[.r false (.b Q2),.v QI],[.v QI],a2o⟩
def d4c:Hints:=⟨[(58,[1,5,.box pinned Q2,Qp 0 pinned],[Qe 0 [.box pinned Q2,Qp 0 pinned]])],[(6,[Qn [1,.sv 11 .bool,.box pinned Q2,Qp 0 pinned]])],[]⟩
def a4j(s:(Int×(LI×Z25))):Option ((Int×(LI×Z25)) ⊕ Z9):=(fun(a:Int)(b:LI)(c:Int)(d:LI×Unit)=>cond (decide (c<(b.length:Int))) ((m0k b c).bind fun x4=>(a8R x4).bind fun y5=>cond (decide ((wrap .u64 a)<0)) none (cond (decide ((wrap .i64 (A0o .u64 y5 (wrap .u64 a)))<32)) ((a2o (d,wrap .i64 (A0o .u64 y5 (wrap .u64 a)))).bind fun y6=>cond (decide ((wrap .u64 a)<0)) none ((a0I (y6.2,bits .u64 .and y5 (wrap .u64 ((A0n .u64 1 (wrap .u64 a))-1)),a)).bind fun y7=>some (.inl (a,b,wrap .i64 (c+1),y7.2,())))) ((a2o (d,32)).bind fun y8=>(a0I (y8.2,y5,32)).bind fun y9=>some (.inl (a,b,wrap .i64 (c+1),y9.2,()))))) (some (.inr (d,())))) s.1 s.2.1 s.2.2.1 s.2.2.2.1
def a7P(x:((LI×Unit)×(Int×LI))):Option Z4:=(show Option (Int×(LI×(Bool×Z9)))from(a1c x.2.1).bind fun y1=>cond (!y1) (some (x.2.1,x.2.2,true,x.1,())) ((a1q x.2.2).bind fun y2=>some (x.2.1,x.2.2,!y2,x.1,()))).bind fun z3=>cond z3.2.2.1 (some (1,z3.2.2.2.1)) ((y0s a4j (z3.1,z3.2.1,0,z3.2.2.2.1,())).bind fun w10=>some (0,w10.1))
def c0S:FSem:=⟨[.r false (.b Q2),.v QI,.v QL],[.v QI],a7P⟩
def d4d:Hints:=⟨[(58,[1,.sv 2 QL,7,.box pinned Q2,Qp 0 pinned],[Qe 0 [.box pinned Q2]])],[(6,[Qn [1,.sv 2 QL,.sv 17 .bool,.box pinned Q2,Qp 0 pinned]])],[]⟩
def a2J(s:(LI×(Int×(Int×(LI×((LI×Unit)×Z22)))))):Option ((LI×(Int×(Int×(LI×((LI×Unit)×Z22))))) ⊕ Z9):=(fun(a:LI)(b c:Int)(d:LI)(e:LI×Unit)(f:Z4)=>cond (decide (c<(d.length:Int))) (cond ((decide (0≤c))&&(decide (c<(d.length:Int)))) (cond ((decide (0≤(wrap .i64 (b+(a03 d (a00 c) 0)))))&&(decide ((wrap .i64 (b+(a03 d (a00 c) 0)))≤(a.length:Int)))) (cond ((decide (0≤b))&&(decide (b≤((a00 (wrap .i64 (b+(a03 d (a00 c) 0))):Nat):Int)))) ((m0k f.2.1 c).bind fun x4=>(a0I (e,wrap .u64 x4,5)).bind fun y5=>(show Option (LI×(Int×(Int×(LI×((LI×Unit)×Z22)))))from(m0k f.2.1 c).bind fun x6=>cond (x6==31) ((a4g (a07 (a00 b) (a06 (a00 (wrap .i64 (b+(a03 d (a00 c) 0)))) a))).bind fun y7=>(a0I (y5.2,wrap .u64 y7,5)).bind fun y8=>(a2e (y8.2,a07 (a00 b) (a06 (a00 (wrap .i64 (b+(a03 d (a00 c) 0)))) a),y7)).bind fun y9=>some (a,b,c,d,y9,f,())) ((m0k f.2.1 c).bind fun x10=>(a7P (y5.2,x10,a07 (a00 b) (a06 (a00 (wrap .i64 (b+(a03 d (a00 c) 0)))) a))).bind fun y11=>some (a,b,c,d,y11.2,f,()))).bind fun z12=>cond ((decide (0≤z12.2.2.1))&&(decide (z12.2.2.1<(z12.2.2.2.1.length:Int)))) (some (.inl (z12.1,wrap .i64 (z12.2.1+(a03 z12.2.2.2.1 (a00 z12.2.2.1) 0)),wrap .i64 (z12.2.2.1+1),z12.2.2.2.1,z12.2.2.2.2.1,z12.2.2.2.2.2.1,()))) none) none) none) none) (some (.inr (e,())))) s.1 s.2.1 s.2.2.1 s.2.2.2.1 s.2.2.2.2.1 s.2.2.2.2.2.1
def a7j(x:((LI×Unit)×Z68)):Option Z4:=(a6H (x.2.1,x.2.2.1,x.2.2.2.1,x.2.2.2.2)).bind fun y1=>cond (y1==0) (some (1,x.1)) ((a0I (x.1,wrap .u64 x.2.1.1,4)).bind fun y2=>(a2j (x.2.1.1,x.2.2.1,x.2.2.2.1)).bind fun y3=>(y0s a2J (x.2.2.2.2,0,0,y3,y2.2,x.2.1,())).bind fun w13=>some (0,w13.1))
def b9k:FSem:=⟨[.r false (.b Q2),.v Q9,.v QI,.v QI,.v QL],[.v QI],a7j⟩
def d4e:Hints:=⟨[(250,[.sv 4 QL,12,13,.own 11 11 QI,.box pinned Q2,Qp 0 pinned,.vp 6 Q9],[Qe 0 [.box pinned Q2]])],[(16019,[Qn [.sv 4 QL,12,13,.own 11 11 QI,.box pinned Q2,Qp 0 pinned,.vp 6 Q9]])],[]⟩
def a6b(s:(Int×c3n)):Option ((Int×c3n) ⊕ c3n):=(fun(a:Int)(b:LI×Unit)(c:a0W)=>cond (decide (a<(c.2.2.2.2.2.2.2.1.length:Int))) ((m0k c.2.2.2.2.2.2.2.1 a).bind fun x12=>(a0I (b,wrap .u64 (wrap .i64 (x12.1-1)),5)).bind fun y13=>(m0k c.2.2.2.2.2.2.2.1 a).bind fun x14=>(a0I (y13.2,wrap .u64 x14.2.1,4)).bind fun y15=>some (.inl (s.1,s.2.1,wrap .i64 (a+1),y15.2,c,()))) (some (.inr (s.1,s.2.1,b,c,())))) s.2.2.1 s.2.2.2.1 s.2.2.2.2.1
def a2V(x:((LI×Unit)×a7w)):Option Z4:=(a7N (x.2.1,x.2.2)).bind fun y1=>cond (!y1) (some (1,x.1)) ((a4g x.2.1.2.2.2.2.2.2.2.2.1).bind fun y2=>(a0I (x.1,wrap .u64 x.2.1.1,3)).bind fun y3=>(a0I (y3.2,wrap .u64 x.2.1.2.1,5)).bind fun y4=>(a0I (y4.2,wrap .u64 y2,5)).bind fun y5=>(show Option c3n from cond (x.2.1.1==2) ((a0I (y5.2,wrap .u64 x.2.1.2.2.1,3)).bind fun y6=>some (x.2.2,y2,y6.2,x.2.1,())) (cond (x.2.1.1==3) ((a4i (y5.2,x.2.1)).bind fun y7=>some (x.2.2,y2,y7,x.2.1,())) (cond (x.2.1.1==4) ((a0I (y5.2,wrap .u64 (wrap .i64 (x.2.1.2.2.2.2.1-1)),10)).bind fun y8=>(a2e (y8.2,a06 3 x.2.1.2.2.2.2.2.2.1,8)).bind fun y9=>(a4i (y9,x.2.1)).bind fun y10=>some (x.2.2,y2,y10,x.2.1,())) (cond (x.2.1.1==5) ((a0I (y5.2,wrap .u64 (x.2.1.2.2.2.2.2.2.2.1.length:Int),2)).bind fun y11=>(y0s a6b (x.2.2,y2,0,y11.2,x.2.1,())).bind fun w16=>some (w16.1,w16.2.1,w16.2.2.1,w16.2.2.2.1,())) (some (x.2.2,y2,y5.2,x.2.1,())))))).bind fun z17=>(a2e (z17.2.2.1,z17.2.2.2.1.2.2.2.2.2.2.2.2.1,z17.2.1)).bind fun y18=>(a3g z17.2.2.2.1.1).bind fun y19=>cond y19 ((a7j (y18,z17.2.2.2.1.2.2.2.2.2.2.2.2.2.1,z17.1,(z17.2.2.2.1.2.2.2.2.2.2.2.2.1.length:Int),z17.2.2.2.1.2.2.2.2.2.2.2.2.2.2.1)).bind fun y20=>some (0,y20.2)) (some (0,y18)))
def c0T:FSem:=⟨[.r false (.b Q2),.v Q50,.v QI],[.v QI],a2V⟩
def d4f:Hints:=⟨[(2086902,[2,7,8,.box pinned Q2,Qp 0 pinned,.vp 4 Q50],[Qe 1 [2,7,.box pinned Q2,Qp 0 pinned,.vp 4 Q50]])],[(127,[Qn [2,7,.box pinned Q2,Qp 0 pinned,.vp 4 Q50]])],[]⟩
def a1i(x:Z16):Option Z32:=some (wrap .i64 ((wrap .i64 (8*(x.1.length:Int)))-x.2.1),x)
def b5a:FSem:=⟨[.r false (.b Q13)],[.v QI],a1i⟩
def H83:Hints:=⟨[],[],[(1,[.p,.p,.q,.q,.v,.v,.p,.p,.q,.q,.x,.x])]⟩
def a2Z(x:Z36):Option Z32:=(m0k x.1.1 (wrap .i64 (a09 x.2 8))).bind fun x1=>cond (decide ((wrap .u64 (wrap .i64 (7-(a08 x.2 8))))<0)) none (some (wrap .u64 (bits .u8 .and (A0o .u8 x1 (wrap .u64 (wrap .i64 (7-(a08 x.2 8))))) 1),x.1))
def b6c:FSem:=⟨[.r false (.b Q13),.v QI],[.v QU],a2Z⟩
def a4k(s:Z95):Option (Z95 ⊕ Z78):=(fun(a:Int)(b:Z16)=>cond (decide (a<s.1)) ((a2Z (b,wrap .i64 (b.2.1+a))).bind fun y3=>some (.inl (s.1,bits .u64 .or (A0n .u64 s.2.1 1) y3.1,wrap .i64 (a+1),y3.2,()))) (some (.inr (s.1,s.2.1,b,())))) s.2.2.1 s.2.2.2.1
def a0K(x:Z36):Option Z32:=cond (x.1.2.2.1 != 0) (some (0,x.1)) ((show Option Z79 from cond (decide (x.2<0)) (some (x.2,true,x.1,())) (some (x.2,decide (x.2 > 64),x.1,()))).bind fun z1=>cond z1.2.1 (some (0,z1.2.2.1.1,z1.2.2.1.2.1,1,z1.2.2.1.2.2.2)) ((a1i z1.2.2.1).bind fun y2=>cond (decide (z1.1 > y2.1)) (some (0,y2.2.1,y2.2.2.1,3,y2.2.2.2.2)) ((y0s a4k (z1.1,0,0,y2.2,())).bind fun w4=>some (w4.2.1,w4.2.2.1.1,wrap .i64 (w4.2.2.1.2.1+w4.1),w4.2.2.1.2.2))))
def b6d:FSem:=⟨[.r false (.b Q13),.v QI],[.v QU],a0K⟩
def d4g:Hints:=⟨[(506,[1,.sv 5 QU,6,.box pinned Q13,Qp 0 pinned],[Qe 0 [1,.sv 5 QU,.box pinned Q13,Qp 0 pinned]])],[(14,[Qn [1,.sv 17 .bool,.box pinned Q13,Qp 0 pinned]])],[]⟩
def a2f(x:Z36):Option Z32:=(a0K (x.1,x.2)).bind fun y1=>(show Option Z97 from cond (y1.2.2.2.1 != 0) (some (x.2,y1.1,true,y1.2,())) (some (x.2,y1.1,x.2==0,y1.2,()))).bind fun z2=>cond z2.2.2.1 (some (0,z2.2.2.2.1)) (cond (decide ((wrap .u64 (wrap .i64 (64-z2.1)))<0)) none (cond (decide ((wrap .u64 (wrap .i64 (64-z2.1)))<0)) none (some (A0o .i64 (wrap .i64 (A0n .u64 z2.2.1 (wrap .u64 (wrap .i64 (64-z2.1))))) (wrap .u64 (wrap .i64 (64-z2.1))),z2.2.2.2.1))))
def b3d:FSem:=⟨[.r false (.b Q13),.v QI],[.v QI],a2f⟩
def d4h:Hints:=⟨[],[(14,[Qn [1,.sv 5 QU,.sv 17 .bool,.box pinned Q13]])],[]⟩
def a1n(s:b1K):Option (b1K ⊕ Z75):=(fun(a:Int)(b:LI)(c:Z16)=>cond (decide (a<s.1)) (cond (c.2.2.1==0) ((a2f (c,s.2.1)).bind fun y1=>cond (lim ((a02 b)+1)) (some (.inl (s.1,s.2.1,wrap .i64 (a+1),a04 b [y1.1],y1.2,()))) none) (some (.inr (b,c,())))) (some (.inr (b,c,())))) s.2.2.1 s.2.2.2.1 s.2.2.2.2.1
def a1g(x:Z59):Option Z49:=(y0s a1n (x.2.1,x.2.2,0,[],x.1,())).bind fun w2=>some (w2.1,w2.2.1)
def b7I:FSem:=⟨[.r false (.b Q13),.v QI,.v QI],[.o QI],a1g⟩
def d4i:Hints:=⟨[(58,[1,2,8,.own 7 7 QI,.box pinned Q13,Qp 0 pinned],[Qe 0 [.own 7 7 QI,.box pinned Q13]])],[],[]⟩
def a1T(x:c3l):Option c3l:=(a0K (x.1,5)).bind fun y1=>(a0K (y1.2,4)).bind fun y2=>(a0K (y2.2,5)).bind fun y3=>(a1g (y3.2,wrap .i64 ((wrap .i64 y1.1)+1),wrap .i64 y3.1)).bind fun y4=>some (y4.2,x.2.1,x.2.2.1,x.2.2.2.1,wrap .i64 y2.1,x.2.2.2.2.2.1,y4.1,x.2.2.2.2.2.2.2)
def b6e:FSem:=⟨[.r false (.b Q13),.r false (.b Q49)],[],a1T⟩
def a1r(s:Z78):Option (Z78 ⊕ (Z41 ⊕ Z62)):=(fun(a:Int)=>(a1i s.2.2.1).bind fun y1=>cond (decide (a<y1.1)) ((a2Z (y1.2,wrap .i64 (y1.2.2.1+a))).bind fun y2=>cond (y2.1==1) (some (.inr (Sum.inr ((a,(y2.2.1,wrap .i64 ((wrap .i64 (y2.2.2.1+a))+1),y2.2.2.2),()))))) (cond (decide (a≥s.1)) (some (.inr (Sum.inr ((0,(y2.2.1,y2.2.2.1,2,y2.2.2.2.2),()))))) (some (.inl (s.1,wrap .i64 (a+1),y2.2,()))))) (some (.inr (Sum.inl (y1.2,()))))) s.2.1
def a2p(x:Z36):Option Z32:=cond (x.1.2.2.1 != 0) (some (0,x.1)) ((y0s a1r (v0r x.2 0,0,x.1,())).bind fun w3=>match w3 with |.inl a4=>some (0,a4.1.1,a4.1.2.1,3,a4.1.2.2.2) |.inr b5=>some (b5.1,b5.2.1))
def b4e:FSem:=⟨[.r false (.b Q13),.v QI],[.v QI],a2p⟩
def d4j:Hints:=⟨[(122,[1,5,.box pinned Q13,Qp 0 pinned],[Qe 0 [.box pinned Q13,Qp 0 pinned],Qr [4,.box pinned Q13]])],[],[]⟩
def a8G(x:Int):Option Int:=cond (decide (x≥2147483648)) (some 0) ((a9H x).bind fun y1=>some y1)
def c2n:FSem:=⟨[.v QU],[.v QI],a8G⟩
def a1d(s:b1K):Option (b1K ⊕ (Z75 ⊕ Z92)):=(fun(a b c:Int)(d:LI)(e:Z16)=>cond (decide (c<b)) ((a2p (e,32)).bind fun y3=>(show Option ((Int×b1K) ⊕ Z92)from cond (decide (y3.1<32)) (cond (decide ((wrap .u64 a)<0)) none ((a0K (y3.2,a)).bind fun y4=>some (Sum.inl (a,b,c,bits .u64 .or (A0n .u64 (wrap .u64 y3.1) (wrap .u64 a)) y4.1,d,y4.2,())))) ((a0K (y3.2,32)).bind fun y5=>(show Option (Int×Int×Int×Int×Bool×Z75)from cond (y5.2.2.2.1==0) (cond (decide (y5.1≥2147483648)) (some (a,b,c,y5.1,true,d,y5.2,())) (cond (decide ((wrap .u64 a)<0)) none (some (a,b,c,y5.1,decide ((A0o .u64 y5.1 (wrap .u64 a))<32),d,y5.2,())))) (some (a,b,c,y5.1,false,d,y5.2,()))).bind fun z6=>cond z6.2.2.2.2.1 (some (Sum.inr ((2,[],z6.2.2.2.2.2.2.1,())))) (some (Sum.inl (z6.1,z6.2.1,z6.2.2.1,z6.2.2.2.1,z6.2.2.2.2.2.1,z6.2.2.2.2.2.2.1,()))))).bind fun z7=>match z7 with |.inl a8=>(cond (a8.2.2.2.2.2.1.2.2.1 != 0) (some (.inr (Sum.inr ((a8.2.2.2.2.2.1.2.2.1,[],a8.2.2.2.2.2.1,()))))) ((a8G a8.2.2.2.1).bind fun y10=>cond (lim ((a02 a8.2.2.2.2.1)+1)) (some (.inl (a8.1,a8.2.1,wrap .i64 (a8.2.2.1+1),a04 a8.2.2.2.2.1 [y10],a8.2.2.2.2.2.1,()))) none)) |.inr b9=>some (.inr (Sum.inr ((b9.1,b9.2.1,b9.2.2.1,()))))) (some (.inr (Sum.inl (d,e,()))))) s.1 s.2.1 s.2.2.1 s.2.2.2.1 s.2.2.2.2.1
def a4N(x:Z59):Option Z69:=(show Option Z97 from(a1c x.2.1).bind fun y1=>cond (!y1) (some (x.2.1,x.2.2,true,x.1,())) (cond (decide (x.2.2<0)) (some (x.2.1,x.2.2,true,x.1,())) (some (x.2.1,x.2.2,decide (x.2.2 > 4194304),x.1,())))).bind fun z2=>cond z2.2.2.1 (some ([],1,z2.2.2.2.1)) (cond (z2.2.2.2.1.2.2.1 != 0) (some ([],z2.2.2.2.1.2.2.1,z2.2.2.2.1)) ((y0s a1d (z2.1,z2.2.1,0,[],z2.2.2.2.1,())).bind fun w11=>match w11 with |.inl a12=>some (a12.1,0,a12.2.1) |.inr b13=>some (b13.2.1,b13.1,b13.2.2.1)))
def c0U:FSem:=⟨[.r false (.b Q13),.v QI,.v QI],[.o QI,.v QI],a4N⟩
def d4k:Hints:=⟨[(250,[1,2,9,.own 8 8 QI,.box pinned Q13,Qp 0 pinned],[Qe 0 [.own 8 8 QI,.box pinned Q13],Qr [7,.own 6 6 QI,.box pinned Q13]])],[(6,[Qn [1,2,.sv 22 .bool,.box pinned Q13,Qp 0 pinned]]),(16019,[Qn [1,2,9,.sv 11 QU,.own 8 8 QI,.box pinned Q13,Qp 0 pinned],Qr [7,.own 6 6 QI,.box pinned Q13]]),(256311,[Qn [1,2,9,.sv 11 QU,.sv 67 .bool,.own 8 8 QI,.box pinned Q13,Qp 0 pinned]])],[(4,[.p,.p,.q,.q,.v,.x]),(17,[.p,.p,.q,.q,.v,.x])]⟩
def a3r(x:Z59):Option Z69:=cond (x.2.1 != 31) ((a1c x.2.1).bind fun y1=>cond (!y1) (some ([],2,x.1)) ((a4N (x.1,x.2.1,x.2.2)).bind fun y2=>some (y2.1,y2.2.1,y2.2.2))) ((a0K (x.1,5)).bind fun y3=>(a1g (y3.2,x.2.2,wrap .i64 y3.1)).bind fun y4=>cond (y4.2.2.2.1 != 0) (some ([],y4.2.2.2.1,y4.2)) ((a4g y4.1).bind fun y5=>cond (y5 != (wrap .i64 y3.1)) (some ([],2,y4.2)) (some (y4.1,0,y4.2))))
def c4W:FSem:=⟨[.r false (.b Q13),.v QI,.v QI],[.o QI,.v QI],a3r⟩
def d4l:Hints:=⟨[],[],[(8,[.p,.p,.q,.q,.v,.x])]⟩
def a1I(s:c3g):Option (c3g ⊕ ((LI×(Z4×c3c)) ⊕ (Int×(LI×c3c)))):=(fun(a:Int)(b c:LI)(d:Z16)(e f:Z4)=>cond (decide (a<(b.length:Int))) ((a0K (d,5)).bind fun y4=>cond (y4.2.2.2.1 != 0) (some (.inr (Sum.inr ((y4.2.2.2.1,[],(0,[],()),y4.2,()))))) (cond (lim ((a02 f.2.1)+1)) (cond ((decide (0≤a))&&(decide (a<(b.length:Int)))) ((a3r (y4.2,wrap .i64 y4.1,a03 b (a00 a) 0)).bind fun y5=>cond (y5.2.1 != 0) (some (.inr (Sum.inr ((y5.2.1,[],(0,[],()),y5.2.2,()))))) (cond (lim ((a02 c)+(a02 y5.1))) (some (.inl (wrap .i64 (a+1),b,a04 c y5.1,y5.2.2,e,(f.1,a04 f.2.1 [wrap .i64 y4.1],f.2.2),()))) none)) none) none)) (some (.inr (Sum.inl (c,e,f,d,()))))) s.1 s.2.1 s.2.2.1 s.2.2.2.1 s.2.2.2.2.1 s.2.2.2.2.2.1
def a3R(x:Z59):Option (Z4×Z69):=(a9I (x.2.1,x.2.2)).bind fun y1=>cond (!y1) (some ((0,[],()),[],1,x.1)) ((a0K (x.1,4)).bind fun y2=>cond (y2.2.2.2.1 != 0) (some ((0,[],()),[],y2.2.2.2.1,y2.2)) ((a2j (wrap .i64 y2.1,x.2.1,x.2.2)).bind fun y3=>cond ((y3.length:Int)==0) (some ((0,[],()),[],2,y2.2)) ((y0s a1I (0,y3,[],y2.2,(0,[],()),(wrap .i64 y2.1,[],()),())).bind fun w6=>match w6 with |.inl a7=>some (a7.2.2.1,a7.1,0,a7.2.2.2.1) |.inr b8=>some (b8.2.2.1,b8.2.1,b8.1,b8.2.2.2.1))))
def b9l:FSem:=⟨[.r false (.b Q13),.v QI,.v QI],[.v Q9,.o QI,.v QI],a3R⟩
def d4m:Hints:=⟨[(2042,[12,.own 10 10 QI,.own 11 11 QI,.box pinned Q13,.box 6 Q9,.box 9 Q8,Qp 0 pinned,Qp 6 6,Qp 9 9],[Qe 0 [.own 11 11 QI,.box 6 Q9,.box 9 Q8,.box pinned Q13,Qp 6 6,Qp 9 9],Qr [8,.own 7 7 QI,.box 6 Q9,.box pinned Q13,Qp 6 6]])],[],[(5,[.v,.p,.p,.r [33,pinned],.r [34,pinned],.w [0,6],.v,.x]),(15,[.v,.p,.p,.r [61,pinned],.r [62,pinned],.w [0,6],.v,.x])]⟩
def a7Q(x:(LI×Unit)):Option Z4:=some ((x.1.length:Int),x)
def b6f:FSem:=⟨[.r false (.b Q2)],[.v QI],a7Q⟩
def a3l(s:(Int×Int×Z96)):Option ((Int×Int×Z96) ⊕ (Z96 ⊕ (Bool×Z96))):=(fun(a b:Int)(c:LI×Unit)(d:Z16)=>cond (decide (b<(c.1.length:Int))) (cond ((decide (0≤b))&&(decide (b<(c.1.length:Int)))) ((m0k d.1 (wrap .i64 (a09 (wrap .i64 (a+b)) 8))).bind fun x2=>cond (decide ((wrap .u64 (wrap .i64 (7-(a08 (wrap .i64 (a+b)) 8))))<0)) none (cond ((a03 c.1 (a00 b) 0) != (bits .u8 .and (A0o .u8 x2 (wrap .u64 (wrap .i64 (7-(a08 (wrap .i64 (a+b)) 8))))) 1)) (some (.inr (Sum.inr ((false,c,d,()))))) (some (.inl (a,wrap .i64 (b+1),c,d,()))))) none) (some (.inr (Sum.inl (c,d,()))))) s.1 s.2.1 s.2.2.1 s.2.2.2.1
def a3z(x:((LI×Unit)×Z36)):Option (Bool×((LI×Unit)×Z16)):=(a7Q x.1).bind fun y1=>cond (y1.1 != (wrap .i64 (x.2.1.2.1-x.2.2))) (some (false,y1.2,x.2.1)) ((y0s a3l (x.2.2,0,y1.2,x.2.1,())).bind fun w3=>match w3 with |.inl a4=>some (true,a4.1,a4.2.1) |.inr b5=>some (b5.1,b5.2.1,b5.2.2.1))
def b7J:FSem:=⟨[.r false (.b Q2),.r false (.b Q13),.v QI],[.v .bool],a3z⟩
def d4n:Hints:=⟨[(58,[2,7,.box pinned Q2,.box 1000001 Q13,Qp 0 pinned,Qp 1 1000001],[Qe 0 [.box pinned Q2,.box 1000001 Q13],Qr [.sv 6 .bool,.box pinned Q2,.box 1000001 Q13]])],[],[(1,[.p,.w [9,1009,pinned],.p,.p,.r [12,1000001],.r [13,1000001],.v,.v,.x]),(6,[.p,.p,.q,.q,.v,.q,.q,.p,.p,.q,.q,.v,.v,.v,.v,.v,.v,.v,.v,.v,.v,.v,.v,.v,.v,.x])]⟩
def a1x(s:(Int×(Int×(Int×(Int×(LI×c3s)))))):Option ((Int×(Int×(Int×(Int×(LI×c3s))))) ⊕ b9J):=(fun(a b:Int)(c:LI)(d:Z16)(e f:a0W)=>cond (decide (b<(c.length:Int))) (cond ((decide (0≤b))&&(decide (b<(c.length:Int)))) (cond ((decide (0≤b))&&(decide (b<3))) (some (.inl (s.1,s.2.1,a,wrap .i64 (b+1),c,d,e,(f.1,f.2.1,f.2.2.1,f.2.2.2.1,f.2.2.2.2.1,f.2.2.2.2.2.1,a05 f.2.2.2.2.2.2.1 (a00 b) (a03 c (a00 b) 0),f.2.2.2.2.2.2.2),()))) none) none) (some (.inr (s.1,s.2.1,a,d,e,f,())))) s.2.2.1 s.2.2.2.1 s.2.2.2.2.1 s.2.2.2.2.2.1 s.2.2.2.2.2.2.1 s.2.2.2.2.2.2.2.1
def a6c(s:(Int×Int×b9J)):Option ((Int×Int×b9J) ⊕ b9J):=(fun(a b c:Int)(d:Z16)(e f:a0W)=>cond (decide (c<b)) ((a0K (d,5)).bind fun y12=>(a0K (y12.2,4)).bind fun y13=>cond (lim ((a02 f.2.2.2.2.2.2.2.1)+1)) (some (.inl (s.1,s.2.1,a,b,wrap .i64 (c+1),y13.2,e,(f.1,f.2.1,f.2.2.1,f.2.2.2.1,f.2.2.2.2.1,f.2.2.2.2.2.1,f.2.2.2.2.2.2.1,a04 f.2.2.2.2.2.2.2.1 ([(wrap .i64 ((wrap .i64 y12.1)+1),wrap .i64 y13.1,())]:List (Int×Int×Unit)),f.2.2.2.2.2.2.2.2),()))) none) (some (.inr (s.1,s.2.1,a,d,e,f,())))) s.2.2.1 s.2.2.2.1 s.2.2.2.2.1 s.2.2.2.2.2.1 s.2.2.2.2.2.2.1 s.2.2.2.2.2.2.2.1
def a1X(x:Z36):Option (a0W×Z32):=(show Option (Int×Bool×c5K)from cond (decide (x.2<1)) (some (x.2,true,x.1,(0,0,0,0,0,[],a01 3 0,[],[],(0,[],()),[],()),())) (some (x.2,decide (x.2 > 4096),x.1,(0,0,0,0,0,[],a01 3 0,[],[],(0,[],()),[],()),()))).bind fun z1=>cond z1.2.1 (some ((0,0,0,0,0,[],a01 3 0,[],[],(0,[],()),[],()),1,z1.2.2.1)) ((a0K (z1.2.2.1,3)).bind fun y2=>(a0K (y2.2,5)).bind fun y3=>(a0K (y3.2,5)).bind fun y4=>(show Option b9J from cond ((wrap .i64 y2.1)==2) ((a0K (y4.2,3)).bind fun y5=>some (z1.1,z1.2.2.1.2.1,wrap .i64 y4.1,y5.2,z1.2.2.2.1,(wrap .i64 y2.1,wrap .i64 y3.1,wrap .i64 y5.1,0,0,[],a01 3 0,[],[],(0,[],()),[],()),())) (cond ((wrap .i64 y2.1)==3) ((a1T (y4.2,wrap .i64 y2.1,wrap .i64 y3.1,0,0,0,[],a01 3 0,[],[],(0,[],()),[],())).bind fun y6=>some (z1.1,z1.2.2.1.2.1,wrap .i64 y4.1,y6.1,z1.2.2.2.1,y6.2,())) (cond ((wrap .i64 y2.1)==4) ((a0K (y4.2,10)).bind fun y7=>(a1g (y7.2,3,8)).bind fun y8=>(y0s a1x (z1.1,z1.2.2.1.2.1,wrap .i64 y4.1,0,y8.1,y8.2,z1.2.2.2.1,(wrap .i64 y2.1,wrap .i64 y3.1,0,0,wrap .i64 ((wrap .i64 y7.1)+1),[],a01 3 0,[],[],(0,[],()),[],()),())).bind fun w9=>(a1T (w9.2.2.2.1,w9.2.2.2.2.2.1)).bind fun y10=>some (w9.1,w9.2.1,w9.2.2.1,y10.1,w9.2.2.2.2.1,y10.2,())) (cond ((wrap .i64 y2.1)==5) ((a0K (y4.2,2)).bind fun y11=>(y0s a6c (z1.1,z1.2.2.1.2.1,wrap .i64 y4.1,wrap .i64 y11.1,0,y11.2,z1.2.2.2.1,(wrap .i64 y2.1,wrap .i64 y3.1,0,0,0,[],a01 3 0,[],[],(0,[],()),[],()),())).bind fun w14=>some (w14.1,w14.2.1,w14.2.2.1,w14.2.2.2.1,w14.2.2.2.2.1,w14.2.2.2.2.2.1,())) (some (z1.1,z1.2.2.1.2.1,wrap .i64 y4.1,y4.2,z1.2.2.2.1,(wrap .i64 y2.1,wrap .i64 y3.1,0,0,0,[],a01 3 0,[],[],(0,[],()),[],()),())))))).bind fun z15=>cond (z15.2.2.2.1.2.2.1 != 0) (some ((0,0,0,0,0,[],a01 3 0,[],[],(0,[],()),[],()),z15.2.2.2.1.2.2.1,z15.2.2.2.1)) ((a5K (z15.2.2.2.2.2.1,z15.1)).bind fun y16=>cond (decide (y16<0)) (some ((0,0,0,0,0,[],a01 3 0,[],[],(0,[],()),[],()),2,z15.2.2.2.1)) ((a1g (z15.2.2.2.1,y16,z15.2.2.1)).bind fun y17=>cond (y17.2.2.2.1 != 0) (some ((0,0,0,0,0,[],a01 3 0,[],[],(0,[],()),[],()),y17.2.2.2.1,y17.2)) ((show Option (c3t ⊕ (Int×b6W))from(a3g z15.2.2.2.2.2.1.1).bind fun y18=>cond y18 ((a3R (y17.2,z15.1,y16)).bind fun y19=>cond (y19.2.2.1 != 0) (some (Sum.inr ((y19.2.2.1,(0,0,0,0,0,[],a01 3 0,[],[],(0,[],()),[],()),y19.2.2.2,())))) (some (Sum.inl (z15.1,z15.2.1,y19.2.2.2,z15.2.2.2.2.1,(z15.2.2.2.2.2.1.1,z15.2.2.2.2.2.1.2.1,z15.2.2.2.2.2.1.2.2.1,z15.2.2.2.2.2.1.2.2.2.1,z15.2.2.2.2.2.1.2.2.2.2.1,z15.2.2.2.2.2.1.2.2.2.2.2.1,z15.2.2.2.2.2.1.2.2.2.2.2.2.1,z15.2.2.2.2.2.1.2.2.2.2.2.2.2.1,y17.1,y19.1,y19.2.1,z15.2.2.2.2.2.1.2.2.2.2.2.2.2.2.2.2.2),())))) (some (Sum.inl (z15.1,z15.2.1,y17.2,z15.2.2.2.2.1,(z15.2.2.2.2.2.1.1,z15.2.2.2.2.2.1.2.1,z15.2.2.2.2.2.1.2.2.1,z15.2.2.2.2.2.1.2.2.2.1,z15.2.2.2.2.2.1.2.2.2.2.1,z15.2.2.2.2.2.1.2.2.2.2.2.1,z15.2.2.2.2.2.1.2.2.2.2.2.2.1,z15.2.2.2.2.2.1.2.2.2.2.2.2.2.1,y17.1,z15.2.2.2.2.2.1.2.2.2.2.2.2.2.2.2),())))).bind fun z20=>match z20 with |.inl a21=>((show Option (Bool×a0W×b6W)from(a2V (([],()),a21.2.2.2.2.1,a21.1)).bind fun y23=>cond (y23.1 != 0) (some (true,a21.2.2.2.1,a21.2.2.2.2.1,a21.2.2.1,())) ((a3z (y23.2,a21.2.2.1,a21.2.1)).bind fun y24=>some (!y24.1,a21.2.2.2.1,a21.2.2.2.2.1,y24.2.2,()))).bind fun z25=>cond z25.1 (some ((0,0,0,0,0,[],a01 3 0,[],[],(0,[],()),[],()),2,z25.2.2.2.1)) (some (z25.2.2.1,0,z25.2.2.2.1))) |.inr b22=>some (b22.2.1,b22.1,b22.2.2.1)))))
def c0V:FSem:=⟨[.r false (.b Q13),.v QI],[.v Q50,.v QI],a1X⟩
def H81:Hints:=⟨[(1038298,[1,6,8,10,.own 9 9 QI,.box pinned Q13,.box 4 Q50,.box 7 Q49,Qp 0 pinned,Qp 4 4,Qp 7 7],[Qe 1 [1,6,8,.box pinned Q13,.box 4 Q50,.box 7 Q49,Qp 0 pinned,Qp 4 4,Qp 7 7]]),(1038326,[1,6,8,11,12,.box pinned Q13,.box 4 Q50,.box 7 Q49,Qp 0 pinned,Qp 4 4,Qp 7 7],[Qe 3 [1,6,8,.box pinned Q13,.box 4 Q50,.box 7 Q49,Qp 0 pinned,Qp 4 4,Qp 7 7]])],[(6,[Qn [1,.sv 23 .bool,.box pinned Q13,.box 4 Q50,Qp 0 pinned,Qp 4 4]]),(63,[Qn [1,6,8,.box pinned Q13,.box 4 Q50,.box 7 Q49,Qp 0 pinned,Qp 4 4,Qp 7 7]]),(4095,[Qn [1,6,.box pinned Q13,.box 4 Q50,.box 7 Q50,Qp 0 pinned,Qp 4 4,Qp 7 7],Qr [5,.box 4 Q50,.box pinned Q13,Qp 4 4]]),(32766,[Qn [.sv 161 .bool,.box 4 Q50,.box 7 Q50,.box pinned Q13,Qp 4 4,Qp 7 7]])],[(24,[.r [7,85],.r [7,86],.p,.w [88,1088,pinned],.v,.v,.p,.w [92,1092,pinned],.v,.v,.q,.x,.x,.x]),(26,[.v,.p,.p,.r [106,pinned],.r [107,pinned],.w [0,4],.x]),(32,[.v,.p,.p,.r [127,pinned],.r [128,pinned],.w [0,4],.x])]⟩
def a1A(s:Z62):Option (Z62 ⊕ (Z62 ⊕ Z41)):=cond ((a08 s.1 8) != 0) ((a2Z (s.2.1,s.1)).bind fun y1=>cond (y1.1==1) (some (.inr (Sum.inr (((y1.2.1,y1.2.2.1,2,y1.2.2.2.2),()))))) (some (.inl (wrap .i64 (s.1+1),y1.2,())))) (some (.inr (Sum.inl (s.1,s.2.1,()))))
def a3m(x:Z16):Option Z16:=cond (x.2.2.1 != 0) (some x) ((y0s a1A (x.2.1,x,())).bind fun w2=>match w2 with |.inl a3=>some (a3.2.1.1,a3.1,a3.2.1.2.2) |.inr b4=>some b4.1)
def b4f:FSem:=⟨[.r false (.b Q13)],[],a3m⟩
def H82:Hints:=⟨[(28,[2,.box pinned Q13,Qp 0 pinned],[Qe 0 [2,.box pinned Q13,Qp 0 pinned],Qr [.box pinned Q13]])],[],[]⟩
def a4O(s:Z15):Option (Z15 ⊕ Z0):=cond (decide (s.2.1<(s.1.length:Int))) ((m0k s.1 s.2.1).bind fun x2=>(m0k s.1 0).bind fun x3=>cond ((x2.length:Int) != (x3.length:Int)) (some (.inr (Sum.inr ((false,()))))) (some (.inl (s.1,wrap .i64 (s.2.1+1),())))) (some (.inr (Sum.inl ())))
def a6Z(x:(List LI)):Option Bool:=(show Option ((List LI)×(Bool×Unit))from cond (decide ((x.length:Int)<1)) (some (x,true,())) (some (x,decide ((x.length:Int) > 8),()))).bind fun z1=>cond z1.2.1 (some false) ((y0s a4O (z1.1,0,())).bind fun w4=>match w4 with |.inl a5=>some true |.inr b6=>some b6.1)
def c2o:FSem:=⟨[.v (.list false QL)],[.v .bool],a6Z⟩
def H37:Hints:=⟨[(58,[.sv 0 (.list false QL),3],[Qe 0 [],Qr [.sv 2 .bool]])],[(6,[Qn [.sv 0 (.list false QL),.sv 11 .bool]])],[(6,[.v,.v,.v,.v,.v,.v,.v,.v,.v,.x])]⟩
def a2q(s:Z74):Option (Z74 ⊕ (Z57 ⊕ (Bool×Unit))):=(fun(a b:Int)(c:Z14)=>(m0k c.2.1 a).bind fun x5=>cond (decide (b<(x5.length:Int))) ((m0k c.2.1 a).bind fun x6=>(m0k x6 b).bind fun x7=>(a7t (x7,c.1)).bind fun y8=>cond (!y8) (some (.inr (Sum.inr ((false,()))))) (some (.inl (a,wrap .i64 (b+1),c,())))) (some (.inr (Sum.inl (a,c,()))))) s.1 s.2.1 s.2.2.1
def a3n(s:Z57):Option (Z57 ⊕ Z0):=cond (decide (s.1<(s.2.1.2.1.length:Int))) ((y0s a2q (s.1,0,s.2.1,())).bind fun w9=>match w9 with |.inl a10=>some (.inl (wrap .i64 (a10.1+1),a10.2.1,())) |.inr b11=>some (.inr (Sum.inr ((b11.1,()))))) (some (.inr (Sum.inl ())))
def a6I(x:Z14):Option Bool:=(show Option Z61 from cond (decide (x.1<4)) (some (true,x,())) (cond (decide (x.1 > 24)) (some (true,x,())) ((a6Z x.2.1).bind fun y1=>cond (!y1) (some (true,x,())) ((m0k x.2.1 0).bind fun x2=>cond (decide ((x2.length:Int)<1)) (some (true,x,())) ((m0k x.2.1 0).bind fun x3=>some (decide ((x3.length:Int) > 4096),x,())))))).bind fun z4=>cond z4.1 (some false) ((y0s a3n (0,z4.2.1,())).bind fun w12=>match w12 with |.inl a13=>some true |.inr b14=>some b14.1)
def b7K:FSem:=⟨[.v Q12],[.v .bool],a6I⟩
def H11:Hints:=⟨[(58,[3,.vp 1 Q12],[Qe 0 [],Qr [.sv 2 .bool]]),(3730,[3,4,.vp 1 Q12],[Qe 2 [3,.vp 1 Q12],Qr [.sv 2 .bool]])],[(6,[Qn [.sv 34 .bool,.vp 1 Q12]])],[(9,[.v,.v,.v,.v,.v,.v,.v,.v,.v,.v,.x,.x])]⟩
def a5A(s:Z15):Option (Z15 ⊕ Z0):=cond (decide (s.2.1<(s.1.length:Int))) ((m0k s.1 s.2.1).bind fun x5=>(a1q x5).bind fun y6=>cond (!y6) (some (.inr (Sum.inr ((false,()))))) (some (.inl (s.1,wrap .i64 (s.2.1+1),())))) (some (.inr (Sum.inl ())))
def a9r(x:Z66):Option Bool:=(show Option ((List LI)×(Bool×Unit))from(a6Z x.1).bind fun y1=>cond (!y1) (some (x.1,true,())) ((m0k x.1 0).bind fun x2=>cond (decide ((x2.length:Int) > 4096)) (some (x.1,true,())) ((a5w (x.2,(x.1.length:Int))).bind fun y3=>some (x.1,!y3,())))).bind fun z4=>cond z4.2.1 (some false) ((y0s a5A (z4.1,0,())).bind fun w7=>match w7 with |.inl a8=>some true |.inr b9=>some b9.1)
def c3O:FSem:=⟨[.v (.list false QL),.v (.list false Q10)],[.v .bool],a9r⟩
def d4o:Hints:=⟨[(58,[.sv 0 (.list false QL),5],[Qe 0 [],Qr [.sv 4 .bool]])],[(6,[Qn [.sv 0 (.list false QL),.sv 22 .bool]])],[]⟩
def a6d(s:Z64):Option (Z64 ⊕ Z3):=cond (decide (s.2.1<(s.1.length:Int))) ((m0k s.1 s.2.1).bind fun x1=>cond (lim (0+(a02 x1))) (cond (lim ((a02 s.2.2.1)+(a02 (a05 ([[]]:List LI) 0 (a04 [] x1))))) (some (.inl (s.1,wrap .i64 (s.2.1+1),a04 s.2.2.1 (a05 ([[]]:List LI) 0 (a04 [] x1)),()))) none) none) (some (.inr (s.2.2.1,())))
def a7R(x:(List LI)):Option (List LI):=(y0s a6d (x,0,([]:(List LI)),())).bind fun w2=>some w2.1
def c0W:FSem:=⟨[.v (.list false QL)],[.o (.list true QI)],a7R⟩
def d4p:Hints:=⟨[(58,[.sv 0 (.list false QL),4,.own 3 3 (.list true QI)],[Qe 0 [.own 3 3 (.list true QI)]])],[],[]⟩
def a4P(s:(Int×(Int×((List LI)×Z27)))):Option ((Int×(Int×((List LI)×Z27))) ⊕ (Z3 ⊕ (Bool×Z3))):=(fun(a b:Int)(c:List LI)(d:Z8)=>cond (decide (0<(c.length:Int))) (cond (decide (b<((a02 (a03 c 0 []):Nat):Int))) (cond ((decide (0≤d.2.1))&&(decide (d.2.1<(c.length:Int)))) (cond ((decide (0≤d.2.1))&&(decide (d.2.1<(c.length:Int)))) (cond ((decide (0≤b))&&(decide (b<((a02 (a03 c (a00 d.2.1) []):Nat):Int)))) (cond ((decide (0≤d.1))&&(decide (d.1<(c.length:Int)))) (cond ((decide (0≤b))&&(decide (b<((a02 (a03 c (a00 d.1) []):Nat):Int)))) (cond ((decide (0≤b))&&(decide (b<((a02 (a03 c (a00 d.2.1) []):Nat):Int)))) (cond ((decide (0≤d.2.1))&&(decide (d.2.1<((a02 (a05 c (a00 d.2.1) (a05 (a03 c (a00 d.2.1) []) (a00 b) (wrap .i64 ((a03 (a03 c (a00 d.2.1) []) (a00 b) 0)+(wrap .i64 (a*(A0o .i64 (wrap .i64 (d.2.2.1*(a03 (a03 c (a00 d.1) []) (a00 b) 0))) 8))))))):Nat):Int)))) (cond ((decide (0≤b))&&(decide (b<((a02 (a03 (a05 c (a00 d.2.1) (a05 (a03 c (a00 d.2.1) []) (a00 b) (wrap .i64 ((a03 (a03 c (a00 d.2.1) []) (a00 b) 0)+(wrap .i64 (a*(A0o .i64 (wrap .i64 (d.2.2.1*(a03 (a03 c (a00 d.1) []) (a00 b) 0))) 8))))))) (a00 d.2.1) []):Nat):Int)))) ((a1S (a03 (a03 (a05 c (a00 d.2.1) (a05 (a03 c (a00 d.2.1) []) (a00 b) (wrap .i64 ((a03 (a03 c (a00 d.2.1) []) (a00 b) 0)+(wrap .i64 (a*(A0o .i64 (wrap .i64 (d.2.2.1*(a03 (a03 c (a00 d.1) []) (a00 b) 0))) 8))))))) (a00 d.2.1) []) (a00 b) 0)).bind fun y1=>cond (!y1) (some (.inr (Sum.inr ((false,a05 c (a00 d.2.1) (a05 (a03 c (a00 d.2.1) []) (a00 b) (wrap .i64 ((a03 (a03 c (a00 d.2.1) []) (a00 b) 0)+(wrap .i64 (a*(A0o .i64 (wrap .i64 (d.2.2.1*(a03 (a03 c (a00 d.1) []) (a00 b) 0))) 8)))))),()))))) (some (.inl (a,wrap .i64 (b+1),a05 c (a00 d.2.1) (a05 (a03 c (a00 d.2.1) []) (a00 b) (wrap .i64 ((a03 (a03 c (a00 d.2.1) []) (a00 b) 0)+(wrap .i64 (a*(A0o .i64 (wrap .i64 (d.2.2.1*(a03 (a03 c (a00 d.1) []) (a00 b) 0))) 8)))))),d,())))) none) none) none) none) none) none) none) none) (some (.inr (Sum.inl (c,()))))) none) s.1 s.2.1 s.2.2.1 s.2.2.2.1
def b0H(x:((List LI)×(Z8×Int))):Option (Bool×(List LI)):=(y0s a4P (x.2.2,0,x.1,x.2.1,())).bind fun w2=>match w2 with |.inl a3=>some (true,a3.1) |.inr b4=>some (b4.1,b4.2.1)
def c4X:FSem:=⟨[.r false (.o (.list true QI)),.v Q10,.v QI],[.v .bool],b0H⟩
def d4q:Hints:=⟨[(26,[2,7,.own 0 pinned (.list true QI),.vp 4 Q10],[Qe 0 [.own 0 pinned (.list true QI)],Qr [.sv 6 .bool,.own 0 pinned (.list true QI)]])],[],[(4,[.q,.v,.v,.q,.q,.v,.q,.v,.v,.q,.q,.v,.q,.q,.v,.v,.v,.q,.v,.v,.q,.q,.v,.q,.q,.v,.v,.v,.v,.x,.x])]⟩
def a4B(s:(Z19×Z14)):Option ((Z19×Z14) ⊕ (Z3 ⊕ Z15)):=cond (decide (s.2.1≥0)) ((m0k s.1 s.2.1).bind fun x3=>(b0H (s.2.2.1,x3,(-1))).bind fun y4=>cond (!y4.1) (some (.inr (Sum.inr ((([]:(List LI)),6,()))))) (some (.inl (s.1,wrap .i64 (s.2.1-1),y4.2,())))) (some (.inr (Sum.inl (s.2.2.1,()))))
def a6J(x:Z66):Option ((List LI)×Int):=(a9r (x.1,x.2)).bind fun y1=>cond (!y1) (some (([]:(List LI)),1)) ((a7R x.1).bind fun y2=>(y0s a4B (x.2,wrap .i64 ((x.2.length:Int)-1),y2,())).bind fun w5=>match w5 with |.inl a6=>some (a6.1,0) |.inr b7=>some (b7.1,b7.2.1))
def b7L:FSem:=⟨[.v (.list false QL),.v (.list false Q10)],[.v (.list false QL),.v QI],a6J⟩
def d4r:Hints:=⟨[(122,[.sv 1 (.list false Q10),7,.own 6 6 (.list true QI)],[Qe 0 [.own 6 6 (.list true QI)],Qr [.sv 4 (.list false QL),5]])],[],[]⟩
def a2E(s:c3p):Option (c3p ⊕ (c5N ⊕ Z61)):=(fun(a:List LI)(b:Z14)(c:a1O)=>cond (decide (s.1<(c.2.2.2.2.1.length:Int))) ((m0k c.2.2.2.2.1 s.1).bind fun x3=>(a6o (x3,c.2.1)).bind fun y4=>cond (!y4.2) (some (.inr (Sum.inr ((false,(0,([]:(List LI)),()),()))))) (cond (lim ((a02 a)+1)) (some (.inl (wrap .i64 (s.1+1),a04 a ([y4.1]:List LI),b,c,()))) none)) (some (.inr (Sum.inl (a,b,c,()))))) s.2.1 s.2.2.1 s.2.2.2.1
def a5f(x:a1O):Option (Z14×Bool):=(show Option (Bool×c5M)from(a5x x).bind fun y1=>cond (!y1) (some (true,(0,([]:(List LI)),()),x,())) (some ((x.2.2.2.2.1.length:Int) != x.2.2.1.2.1,(0,([]:(List LI)),()),x,()))).bind fun z2=>cond z2.1 (some ((0,([]:(List LI)),()),false)) ((y0s a2E (0,([]:(List LI)),z2.2.1,z2.2.2.1,())).bind fun w5=>match w5 with |.inl a6=>((a6J (a6.1,a6.2.2.1.2.2.2.1)).bind fun y8=>(show Option (Bool×Z14×Z35)from cond (y8.2 != 0) (some (true,a6.2.1,(a6.2.2.1.2.2.1.2.2.1,y8.1,()),())) ((a6I (a6.2.2.1.2.2.1.2.2.1,y8.1,())).bind fun y9=>some (!y9,a6.2.1,(a6.2.2.1.2.2.1.2.2.1,y8.1,()),()))).bind fun z10=>cond z10.1 (some ((0,([]:(List LI)),()),false)) (some (z10.2.2.1,true))) |.inr b7=>some (b7.2.1,b7.1))
def b5b:FSem:=⟨[.v Q72],[.v Q12,.v .bool],a5f⟩
def d4s:Hints:=⟨[(122,[5,.own 4 4 QL,.box 2 Q12,.vp 1 Q72,Qp 2 2],[Qe 0 [.own 4 4 QL,.box 2 Q12,.vp 1 Q72,Qp 2 2],Qr [.sv 3 .bool,.box 2 Q12,Qp 2 2]])],[(6,[Qn [.sv 22 .bool,.box 2 Q12,.vp 1 Q72,Qp 2 2]]),(254,[Qn [.sv 67 .bool,.box 2 Q12,.box 10 Q12,Qp 2 2,Qp 10 10]])],[(7,[.v,.v,.v,.v,.v,.v,.v,.x,.x,.q,.q,.q,.x])]⟩
def a4Q(x:a1O):Option Bool:=(a5f x).bind fun y1=>some y1.2
def b7M:FSem:=⟨[.v Q72],[.v .bool],a4Q⟩
def a1J(s:c3v):Option (c3v ⊕ (c5P ⊕ (Int×Int×a8i))):=(fun(a b:a1O)(c:Z16)=>cond (decide (s.2.1<b.2.2.1.2.1)) ((a1X (c,b.2.1)).bind fun y7=>cond (y7.2.1 != 0) (some (.inr (Sum.inr ((0,2,(0,0,(0,0,0,()),[],[],()),()))))) (cond (lim ((a02 b.2.2.2.2.1)+1)) (some (.inl (s.1,wrap .i64 (s.2.1+1),a,(b.1,b.2.1,b.2.2.1,b.2.2.2.1,a04 b.2.2.2.2.1 ([y7.1]:List a0W),b.2.2.2.2.2),y7.2.2,()))) none)) (some (.inr (Sum.inl (s.1,a,b,c,()))))) s.2.2.1 s.2.2.2.1 s.2.2.2.2.1
def a6e(x:LI):Option (a1O×Int×Int):=(a7I x).bind fun y1=>cond (y1.2.2.2 != 0) (some ((0,0,(0,0,0,()),[],[],()),0,y1.2.2.2)) (cond (decide ((x.length:Int)<(wrap .i64 ((wrap .i64 (y1.2.2.1+y1.2.1))+2)))) (some ((0,0,(0,0,0,()),[],[],()),0,3)) (cond ((decide (0≤(wrap .i64 (y1.2.2.1+y1.2.1))))&&(decide ((wrap .i64 (y1.2.2.1+y1.2.1))≤(x.length:Int)))) ((a7K (a06 (a00 (wrap .i64 (y1.2.2.1+y1.2.1))) x)).bind fun y2=>(b1O (wrap .u64 y2,2)).bind fun y3=>cond ((decide (0≤(wrap .i64 ((wrap .i64 (y1.2.2.1+y1.2.1))+2))))&&(decide ((wrap .i64 ((wrap .i64 (y1.2.2.1+y1.2.1))+2))≤(x.length:Int)))) (cond ((decide (0≤(wrap .i64 (y1.2.2.1+y1.2.1))))&&(decide ((wrap .i64 (y1.2.2.1+y1.2.1))≤((a00 (wrap .i64 ((wrap .i64 (y1.2.2.1+y1.2.1))+2)):Nat):Int)))) ((b0G (y3,a07 (a00 (wrap .i64 (y1.2.2.1+y1.2.1))) (a06 (a00 (wrap .i64 ((wrap .i64 (y1.2.2.1+y1.2.1))+2))) x))).bind fun y4=>cond (!y4) (some ((0,0,(0,0,0,()),[],[],()),0,5)) (cond ((decide (0≤(wrap .i64 (y1.2.2.1+y1.2.1))))&&(decide ((wrap .i64 (y1.2.2.1+y1.2.1))≤(x.length:Int)))) (cond ((decide (0≤y1.2.2.1))&&(decide (y1.2.2.1≤((a00 (wrap .i64 (y1.2.2.1+y1.2.1)):Nat):Int)))) ((a6F (a07 (a00 y1.2.2.1) (a06 (a00 (wrap .i64 (y1.2.2.1+y1.2.1))) x))).bind fun y5=>(y0s a1J (wrap .i64 (y1.2.2.1+y1.2.1),0,(0,0,(0,0,0,()),[],[],()),y1.1,y5,())).bind fun w8=>match w8 with |.inl a9=>((a3m a9.2.2.2.1).bind fun y11=>cond (y11.2.2.1 != 0) (some ((0,0,(0,0,0,()),[],[],()),0,2)) ((a1i y11).bind fun y12=>cond (decide (y12.1 > 0)) (some ((0,0,(0,0,0,()),[],[],()),0,2)) ((a4Q a9.2.2.1).bind fun y13=>cond (!y13) (some ((0,0,(0,0,0,()),[],[],()),0,2)) (some (a9.2.2.1,wrap .i64 (a9.1+2),0))))) |.inr b10=>some (b10.2.2.1,b10.1,b10.2.1)) none) none)) none) none) none))
def b6g:FSem:=⟨[.v QB],[.v Q72,.v QI,.v QI],a6e⟩
def H26:Hints:=⟨[(2042,[9,11,.box 2 Q72,.box 5 Q71,.box 1052 Q13,Qp 2 2,Qp 5 5,Qp 10 1052],[Qe 0 [9,.box 2 Q72,.box 5 Q71,.box 1052 Q13,Qp 2 2,Qp 5 5,Qp 10 1052],Qr [3,4,.box 2 Q72,Qp 2 2]])],[],[(7,[.v,.v,.v,.v,.v,.q,.v,.v,.v,.v,.v,.x,.x])]⟩
def a6f(x:LI):Option (Z8×Int×Int×Int):=(a7I x).bind fun y1=>some (y1.1.2.2.1,y1.1.1,y1.1.2.1,y1.2.2.2)
def b6h:FSem:=⟨[.v QB],[.v Q10,.v QI,.v QI,.v QI],a6f⟩
def H28:Hints:=⟨[],[],[(2,[.q,.q,.r [6,19],.r [6,20],.r [6,21],.r [6,22],.v,.w [0,2],.v,.v,.x])]⟩
def a7n(x:LI):Option Bool:=(b1d ()).bind fun y1=>cond (!y1) (some false) (cond (decide ((x.length:Int) > 700)) (some true) ((a4K x).bind fun y2=>(a6e x).bind fun y3=>(a6n x).bind fun y4=>(a6f x).bind fun y5=>(a4a (y2.1,y3.1)).bind fun y6=>cond y6 (cond (y2.2.1==y3.2.1) (cond (y2.2.2==y3.2.2) (cond (eqT Q10 y4.1 y5.1) (cond (y4.2.1==y5.2.1) (cond (y4.2.2.1==y5.2.2.1) (some (y4.2.2.2==y5.2.2.2)) (some false)) (some false)) (some false)) (some false)) (some false)) (some false)))
def a7o:FSem:=⟨[.v QB],[.v .bool],a7n⟩
end Go.Ab
