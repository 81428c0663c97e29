/- Part of the proof: It. Conditions: as each statement tells. -/
import Derived.RangeFuncBound
import Derived.RangeFuncCalls
import Derived.RangeFuncBox
import Derived.WalkKit
import Derived.OwnWalkIn
import Derived.TacticsInMore
import Derived.LoopNIn
import Derived.LoopIn
import Derived.Test.YtbadoabamddpfaaGreatDoorProg
import Derived.KernelRfl
import Derived.Test.YtbadoabamddpfaaGreatDoorMD
noncomputable section
set_option linter.unusedSimpArgs false
set_option linter.unusedVariables false
open Array renaming replicate_succ→a16,replicate_zero→a18
open Int renaming toNat→a00,tmod→a06,tdiv→a07
open List renaming length→a01,replicate→a02,append→a03,getD→a04,take→a05,drop→a08,set→a09,append_toArray→a19,cons_append→a20,size_toArray→a21,push_toArray→a22,length_nil→a23,nil_append→a24
open Nat renaming reduceAdd→a25,reduceSub→a26
open Option renaming getD_some→a27
namespace Go.Ab
open Go.Proofs Go.RowKit
attribute [local go_sem] Oper.semAt_some
set_option maxHeartbeats 1000000 in
theorem d0O:A0h Tryz.prog 297 326:=by
 refine⟨⟨_,_,Tryz.func297,rfl,by kernel_rfl⟩,fun A len cap w=>(callsIn_wide (n:=3)).1 ?_⟩
 refine callsIn_of_wp Tryz.func297 rfl trivial ?_
 simp only[Tryz.ntmps297,a21,lC,a23,a25,a26,a16,a18,a22,a19,a24,a20]
 gi_wp2
 go_ret
 exact⟨rfl,_,rfl⟩
@[reducible] def b3t:Ty:=.pair (.int .i64) (.pair (.int .i64) .unit)
set_option maxRecDepth 100000 in
set_option maxHeartbeats 2000000 in
theorem c8j (l Bs b off len cap:Nat) (p q:Nat→Int) (J:Nat→World→Prop) (Jx:World→Prop) (W:World)
  (hJ:∀k W',J k W'→W'.cell? ⟨Bs,0,none⟩=some (.slice (some ⟨b,off,none⟩) len cap))
  (hlen:len<2147483648)
  (hcs:∀k W',k<len→J (k+1) W'→W'.cell? ⟨b,off+k*2,none⟩=some (.int .i64 (p k))∧W'.cell? ⟨b,off+k*2+1,none⟩=some (.int .i64 (q k)))
  (hY:∀n W',n<len→J (n+1) W'→YieldAt (Fr none) 0 Tryz.prog l #[.int .i64 (n:Int),.agg #[.int .i64 (p n),.int .i64 (q n)]] W' fun en W''=>(en=.returned (.bool true)∧J n W'')∨(en=.returned (.bool false)∧Jx W''))
  (h0:J len W):
  CallsIn (Fr none) 0 Tryz.prog 326 #[.func (.yield l) #[] #[],.pointer (some ⟨Bs,0,none⟩)] W fun en W'=>(∃v,en=.returned v)∧(J 0 W'∨Jx W'):=by
 refine callsIn_of_wp Tryz.func326 rfl trivial ?_
 simp only[Tryz.ntmps326,a21,lC,a23,a25,a26,a16,a18,a22,a19,a24,a20]
 have hBs:=hJ _ _ h0
 gi_wp2
 gi_loopw [3] (fun i wr=>∃k:Nat,k≤len∧i=.int .i64 ((k:Int)-1)∧J k wr) (fun i _=>(intOf i+1).toNat)
 case atStart=>exact⟨len,Nat.le_refl _,rfl,h0⟩
 case round=>
  obtain⟨k,hk,rfl,hJs⟩:=hrel
  cases k with
  |succ n=>
   obtain⟨fn,tmps,assign,body,hy,hR⟩:=hY n wr (by omega) hJs
   have hcx:=hJ _ _ hJs
   obtain⟨hc0,hc1⟩:=hcs n wr (by omega) hJs
   gi_wp2
   refine hR.mono ?_
   rintro e W3 (⟨rfl,hJ3⟩|⟨rfl,hJx3⟩)
   ·gi_wp2
    go_roundw
    case rel=>exact⟨n,by omega,by simp,hJ3⟩
    case measure=>simp[intOf]
   ·gi_wp2
    refine bodyPost_ret (results_none rfl _ _ _) rfl ?_
    exact⟨⟨_,rfl⟩,.inr hJx3⟩
  |zero=>
   gi_wp2
   go_end0
   exact⟨⟨_,rfl⟩,.inl hJs⟩
set_option maxRecDepth 100000 in
set_option maxHeartbeats 2000000 in
theorem c6X (l Bs:Nat) (A:Option Addr) (c:Nat) (J:Nat→World→Prop) (W:World) (hBs:W.cell? ⟨Bs,0,none⟩=some (.slice A 0 c)) (h0:J 0 W):
  CallsIn (Fr none) 0 Tryz.prog 326 #[.func (.yield l) #[] #[],.pointer (some ⟨Bs,0,none⟩)] W fun en W'=>(∃v,en=.returned v)∧J 0 W':=by
 refine callsIn_of_wp Tryz.func326 rfl trivial ?_
 simp only[Tryz.ntmps326,a21,lC,a23,a25,a26,a16,a18,a22,a19,a24,a20]
 gi_wp2
 gi_loopw [3] (fun i wr=>i=.int .i64 (-1)∧J 0 wr) (fun _ _=>0)
 case atStart=>exact⟨rfl,h0⟩
 case round=>
  obtain⟨rfl,hJs⟩:=hrel
  gi_wp2
  go_end0
  exact⟨⟨_,rfl⟩,hJs⟩
theorem c1G{m:Mem}{Sh:Nat→Prop}{b o:Nat}{x:b3t.den}{R}(h:dec m b3t ((Src.at b o).rd m)=some (x,[],R)):
  m b o=some (.int .i64 x.1)∧m b (o+1)=some (.int .i64 x.2.1)∧VOk m Sh b3t x (.agg #[.int .i64 x.1,.int .i64 x.2.1]):=by
 obtain⟨p,q,u⟩:=x;simp only[b3t,dec,Src.rd,Ty.cells,Nat.add_zero]at h
 split at h
 cases h;rename_i r o1 j g
 split at g
 rename_i n c
 split at g
 rename_i e;subst e;simp only[sj]at g;obtain⟨rfl,rfl,rfl⟩:=g
 split at h
 cases h;rename_i s o2 r2 k
 split at k
 cases k;rename_i t i l f
 split at f
 rename_i d a
 split at f
 rename_i e;subst e;simp only[sj]at f k h;obtain⟨rfl,rfl,rfl⟩:=f;obtain⟨rfl,rfl,rfl⟩:=k;obtain⟨⟨rfl,rfl,rfl⟩,-,-⟩:=h;exact⟨c,a,fun _=>⟨_,rfl,rfl⟩,fun h=>(by cases h),[],rfl,by simp⟩;cases f;cases f;cases g;cases g
theorem b6t {P:Program} {f:FuncId} (hb:l0x P f) (args:Array Value) (w:World):(callFunc f args).run P w=.ok (.enter f args) w:=by
 obtain ⟨fn,c',h1,h2,h3⟩:=hb;have h4 : ¬ fn.name = "runtime.NumGoroutine" := by simpa using h3
 simp [callFunc,program,Sem.run,h1,h2,h4,Result.andThen]
theorem d0P:w0n Tryz.prog 326 b3t:=by
 refine⟨fun args w=>b6t ⟨_,_,Tryz.func326,rfl,by kernel_rfl⟩ args w,fun l Bs sv f J D W i t L o=>?_⟩;obtain⟨z,Sh,y⟩:=t _ _ o;obtain⟨A,n,c,rfl,rfl,N,v,j⟩:=y.header
 by_cases hx0:f.length=0
 rw[hx0]at o z;exact(c6X l Bs A c J W z o).mono fun e g h=>⟨h.1,.inl h.2⟩;cases A with
 |none=>have:=j rfl;omega
 |some A=>
  obtain⟨b,off,B⟩:=A
  have:=(v _ rfl).resolve_left (by omega)
  simp only at this;subst this;have u:∀k g,k<f.length→J (k+1) g→∃x,f[k]?=some x∧g.cell? ⟨b,off+k*2,none⟩=some (.int .i64 x.1)∧g.cell? ⟨b,off+k*2+1,none⟩=some (.int .i64 x.2.1):=by
   intro k g p d;obtain⟨-,a,hv⟩:=t _ _ d;obtain⟨C,O,E,R,e,F,G,H,s,I,K⟩:=hv.elem rfl (lG p);simp only[Value.slice.injEq,sj]at e;obtain⟨rfl,rfl,rfl⟩:=e;obtain⟨q,r,-⟩:=c1G (Sh:=a) s;exact⟨_,lG p,q,r⟩
  refine c8j l Bs b off f.length c (fun k=>((f[k]?).getD b3t.dflt).1) (fun k=>((f[k]?).getD b3t.dflt).2.1) J D W (fun k g d=>(t k g d).1) i (fun k g p d=>?_) (fun n g M d=>?_) o;obtain⟨x,m,q,r⟩:=u k g p d;simp only[m,a27];exact⟨q,r⟩;have m:f[n]?=some f[n]:=lG M;simp only[m,a27];refine L n _ _ g m d fun a hv=>?_
  obtain⟨C,O,E,R,e,F,G,H,s,I,K⟩:=hv.elem rfl m;exact(c1G (Sh:=a) s).2.2
set_option maxHeartbeats 1000000 in
theorem d0Q:A0h Tryz.prog 186 242:=by
 refine⟨⟨_,_,Tryz.func186,rfl,by kernel_rfl⟩,fun A len cap w=>(callsIn_wide (n:=3)).1 ?_⟩
 refine callsIn_of_wp Tryz.func186 rfl trivial ?_
 simp only[Tryz.ntmps186,a21,lC,a23,a25,a26,a16,a18,a22,a19,a24,a20]
 gi_wp2
 go_ret
 exact⟨rfl,_,rfl⟩
@[reducible] def b5G:Ty:=.pair (.int .i64) (.pair (.int .i64) (.pair (.int .i64) .unit))
set_option maxRecDepth 100000 in
set_option maxHeartbeats 2000000 in
theorem c8k (l Bs b off len cap:Nat) (p q r:Nat→Int) (J:Nat→World→Prop) (Jx:World→Prop) (W:World)
  (hJ:∀k W',J k W'→W'.cell? ⟨Bs,0,none⟩=some (.slice (some ⟨b,off,none⟩) len cap))
  (hlen:len<2147483648)
  (hcs:∀k W',k<len→J (k+1) W'→W'.cell? ⟨b,off+k*3,none⟩=some (.int .i64 (p k))∧W'.cell? ⟨b,off+k*3+1,none⟩=some (.int .i64 (q k))∧W'.cell? ⟨b,off+k*3+2,none⟩=some (.int .i64 (r k)))
  (hY:∀n W',n<len→J (n+1) W'→YieldAt (Fr none) 0 Tryz.prog l #[.int .i64 (n:Int),.agg #[.int .i64 (p n),.int .i64 (q n),.int .i64 (r n)]] W' fun en W''=>(en=.returned (.bool true)∧J n W'')∨(en=.returned (.bool false)∧Jx W''))
  (h0:J len W):
  CallsIn (Fr none) 0 Tryz.prog 242 #[.func (.yield l) #[] #[],.pointer (some ⟨Bs,0,none⟩)] W fun en W'=>(∃v,en=.returned v)∧(J 0 W'∨Jx W'):=by
 refine callsIn_of_wp Tryz.func242 rfl trivial ?_
 simp only[Tryz.ntmps242,a21,lC,a23,a25,a26,a16,a18,a22,a19,a24,a20]
 have hBs:=hJ _ _ h0
 gi_wp2
 gi_loopw [3] (fun i wr=>∃k:Nat,k≤len∧i=.int .i64 ((k:Int)-1)∧J k wr) (fun i _=>(intOf i+1).toNat)
 case atStart=>exact⟨len,Nat.le_refl _,rfl,h0⟩
 case round=>
  obtain⟨k,hk,rfl,hJs⟩:=hrel
  cases k with
  |succ n=>
   obtain⟨fn,tmps,assign,body,hy,hR⟩:=hY n wr (by omega) hJs
   have hcx:=hJ _ _ hJs
   obtain⟨hc0,hc1,hc2⟩:=hcs n wr (by omega) hJs
   gi_wp2
   refine hR.mono ?_
   rintro e W3 (⟨rfl,hJ3⟩|⟨rfl,hJx3⟩)
   ·gi_wp2
    go_roundw
    case rel=>exact⟨n,by omega,by simp,hJ3⟩
    case measure=>simp[intOf]
   ·gi_wp2
    refine bodyPost_ret (results_none rfl _ _ _) rfl ?_
    exact⟨⟨_,rfl⟩,.inr hJx3⟩
  |zero=>
   gi_wp2
   go_end0
   exact⟨⟨_,rfl⟩,.inl hJs⟩
set_option maxRecDepth 100000 in
set_option maxHeartbeats 2000000 in
theorem c6Y (l Bs:Nat) (A:Option Addr) (c:Nat) (J:Nat→World→Prop) (W:World) (hBs:W.cell? ⟨Bs,0,none⟩=some (.slice A 0 c)) (h0:J 0 W):
  CallsIn (Fr none) 0 Tryz.prog 242 #[.func (.yield l) #[] #[],.pointer (some ⟨Bs,0,none⟩)] W fun en W'=>(∃v,en=.returned v)∧J 0 W':=by
 refine callsIn_of_wp Tryz.func242 rfl trivial ?_
 simp only[Tryz.ntmps242,a21,lC,a23,a25,a26,a16,a18,a22,a19,a24,a20]
 gi_wp2
 gi_loopw [3] (fun i wr=>i=.int .i64 (-1)∧J 0 wr) (fun _ _=>0)
 case atStart=>exact⟨rfl,h0⟩
 case round=>
  obtain⟨rfl,hJs⟩:=hrel
  gi_wp2
  go_end0
  exact⟨⟨_,rfl⟩,hJs⟩
theorem c1b{m:Mem}{rd:Nat→Option Value}{x o r}(h:dec m (.int .i64) rd=some (x,o,r)):rd 0=some (.int .i64 x)∧o=[]∧r=[]:=by
 simp only[dec]at h
 split at h
 rename_i k n g
 split at h
 rename_i e;subst e;simp only[sj,pJ]at h;obtain⟨rfl,rfl,rfl⟩:=h;exact⟨g,rfl,rfl⟩;cases h;cases h
theorem b8N{m:Mem}{a b:Ty}{rd:Nat→Option Value}{x o r}(h:dec m (.pair a b) rd=some (x,o,r)):∃o1 g o2 r2,dec m a rd=some (x.1,o1,g)∧dec m b (fun j=>rd (a.cells+j))=some (x.2,o2,r2)∧o=o1++o2∧r=g++r2:=by
 simp only[dec]at h
 split at h
 cases h;rename_i c o1 g f
 split at h
 cases h;rename_i d o2 r2 k;simp only[sj,pJ]at h;obtain⟨rfl,rfl,rfl⟩:=h;exact⟨_,_,_,_,f,k,rfl,rfl⟩
theorem c2U{m:Mem}{Sh:Nat→Prop}{b o:Nat}{x:b5G.den}{R}(h:dec m b5G ((Src.at b o).rd m)=some (x,[],R)):
  m b o=some (.int .i64 x.1)∧m b (o+1)=some (.int .i64 x.2.1)∧m b (o+2)=some (.int .i64 x.2.2.1)∧VOk m Sh b5G x (.agg #[.int .i64 x.1,.int .i64 x.2.1,.int .i64 x.2.2.1]):=by
 obtain⟨_,_,_,_,g,f,-,-⟩:=b8N h;obtain⟨_,_,_,_,k,a,-,-⟩:=b8N f;obtain⟨_,_,_,_,c,-,-,-⟩:=b8N a;exact⟨(c1b g).1,(c1b k).1,(c1b c).1,fun _=>⟨_,rfl,rfl⟩,fun h=>(by cases h),[],rfl,by simp⟩
theorem d0R:w0n Tryz.prog 242 b5G:=by
 refine⟨fun args w=>b6t ⟨_,_,Tryz.func242,rfl,by kernel_rfl⟩ args w,fun l Bs sv f J E W i u M o=>?_⟩;obtain⟨B,Sh,z⟩:=u _ _ o;obtain⟨A,n,c,rfl,rfl,O,y,j⟩:=z.header
 by_cases hx0:f.length=0
 rw[hx0]at o B;exact(c6Y l Bs A c J W B o).mono fun e g h=>⟨h.1,.inl h.2⟩;cases A with
 |none=>have:=j rfl;omega
 |some A=>
  obtain⟨b,off,C⟩:=A
  have:=(y _ rfl).resolve_left (by omega)
  simp only at this;subst this;have v:∀k g,k<f.length→J (k+1) g→∃x,f[k]?=some x∧g.cell? ⟨b,off+k*3,none⟩=some (.int .i64 x.1)∧g.cell? ⟨b,off+k*3+1,none⟩=some (.int .i64 x.2.1)∧g.cell? ⟨b,off+k*3+2,none⟩=some (.int .i64 x.2.2.1):=by
   intro k g p d;obtain⟨-,a,hv⟩:=u _ _ d;obtain⟨D,P,F,R,e,G,H,I,t,K,L⟩:=hv.elem rfl (lG p);simp only[Value.slice.injEq,sj]at e;obtain⟨rfl,rfl,rfl⟩:=e;obtain⟨q,r,s,-⟩:=c2U (Sh:=a) t;exact⟨_,lG p,q,r,s⟩
  refine c8k l Bs b off f.length c (fun k=>((f[k]?).getD b5G.dflt).1) (fun k=>((f[k]?).getD b5G.dflt).2.1) (fun k=>((f[k]?).getD b5G.dflt).2.2.1) J E W (fun k g d=>(u k g d).1) i (fun k g p d=>?_) (fun n g N d=>?_) o;obtain⟨x,m,q,r,s⟩:=v k g p d;simp only[m,a27];exact⟨q,r,s⟩;have m:f[n]?=some f[n]:=lG N;simp only[m,a27];refine M n _ _ g m d fun a hv=>?_
  obtain⟨D,P,F,R,e,G,H,I,t,K,L⟩:=hv.elem rfl m;exact(c2U (Sh:=a) t).2.2.2
end Go.Ab
namespace Go.Ab
open IntKind(wrap)
open Go.Proofs
set_option maxRecDepth 100000
set_option linter.unusedVariables false
@[reducible] def QI:Ty:=.int .i64
@[reducible] def QL:Ty:=.list false QI
@[reducible] def QU:Ty:=.int .u64
@[reducible] def QV:Ty:=.int .u8
@[reducible] def QB:Ty:=.list false QV
@[reducible] def LI:Type:=List Int
instance (n:Nat):OfNat Ent n:=⟨.sv n QI⟩
@[reducible] def Qp(i n:Nat):Ent:=.ptr i n []
@[reducible] def Qn(l:a0c):Ex×a0c:=(.normal,l)
@[reducible] def Qe(n:Nat)(l:a0c):Ex×a0c:=(.exit n,l)
@[reducible] def Qr(l:a0c):Ex×a0c:=(.ret,l)
def QH:Hints:=⟨[],[],[]⟩
@[reducible] def Z0:Type:=(Unit ⊕ (Bool×Unit))
@[reducible] def Z1:Type:=((List LI)×Unit)
@[reducible] def Z2:Type:=(Int×(Int×LI))
@[reducible] def Z3:Type:=(LI×(Int×Int))
@[reducible] def Z4:Type:=(List (Int×(Int×Unit)))
@[reducible] def Z5:Type:=(Int×(LI×Unit))
@[reducible] def Z6:Type:=(LI×(Int×Unit))
@[reducible] def Z7:Type:=(Int×(Int×(Int×Unit)))
@[reducible] def Z8:Type:=(Int×(Int×(Bool×Unit)))
@[reducible] def Z9:Type:=(LI×(LI×Int))
@[reducible] def Z10:Type:=(Int×Z1)
@[reducible] def Z11:Type:=(LI×(LI×Unit))
@[reducible] def Z12:Type:=(List Z7)
@[reducible] def Z13:Type:=(LI×(Int×(Int×Unit)))
@[reducible] def Z14:Type:=(Int×Z5)
@[reducible] def Z15:Type:=(Int×Z6)
@[reducible] def Z16:Type:=(LI×(Int×(Bool×Unit)))
@[reducible] def Z17:Type:=(Z5×Unit)
@[reducible] def Z18:Type:=(Z6×Unit)
@[reducible] def Z19:Type:=(Int×Z7)
@[reducible] def Z20:Type:=(Z7×Unit)
@[reducible] def Z21:Type:=(Int×Z8)
@[reducible] def Z22:Type:=(List Z10)
@[reducible] def Z23:Type:=(Int×Z11)
@[reducible] def Z24:Type:=(LI×Z5)
@[reducible] def Z25:Type:=((List LI)×(Int×(Int×Unit)))
@[reducible] def Z26:Type:=(Int×Z10)
@[reducible] def Z27:Type:=(Z10×Int)
@[reducible] def Z28:Type:=(Z10×Unit)
@[reducible] def Z29:Type:=(Int×Z13)
@[reducible] def Z30:Type:=(LI×Z7)
@[reducible] def Z31:Type:=(Int×Z14)
@[reducible] def Z32:Type:=(Z13×Int)
@[reducible] def Z33:Type:=(LI×Z8)
@[reducible] def Z34:Type:=(Int×Z18)
@[reducible] def Z35:Type:=(Int×Z19)
@[reducible] def Z36:Type:=(Z13×Unit)
@[reducible] def Z37:Type:=(Int×Z20)
@[reducible] def Z38:Type:=(Bool×Z20)
@[reducible] def Z39:Type:=(LI×Z11)
@[reducible] def Z40:Type:=(LI×Z14)
@[reducible] def Z41:Type:=(Int×Z23)
@[reducible] def Z42:Type:=(Z22×Unit)
@[reducible] def Z43:Type:=(Int×Z25)
@[reducible] def Z44:Type:=(LI×Z13)
@[reducible] def Z45:Type:=(Int×Z28)
@[reducible] def Z46:Type:=(Z5×(LI×Unit))
@[reducible] def Z47:Type:=((LI×Unit) ⊕ Z5)
@[reducible] def Z48:Type:=(LI×Z16)
@[reducible] def Z49:Type:=(Int×Z29)
@[reducible] def Z50:Type:=(Z23×Unit)
@[reducible] def Z51:Type:=(Int×Z30)
@[reducible] def Z52:Type:=(Int×Z34)
@[reducible] def Z53:Type:=(Int×Z35)
@[reducible] def Z54:Type:=(Int×Z36)
@[reducible] def Z55:Type:=(Bool×Z36)
@[reducible] def Z56:Type:=(Int×Z39)
@[reducible] def Z57:Type:=(Int×Z40)
@[reducible] def Z58:Type:=(LI×Z28)
@[reducible] def Z59:Type:=(LI×Z29)
@[reducible] def Z60:Type:=(LI×Z30)
@[reducible] def Z61:Type:=(Int×Z45)
@[reducible] def Z62:Type:=(Int×Z50)
@[reducible] def Z63:Type:=(LI×Z36)
@[reducible] def Z64:Type:=(Z29 ⊕ (Int×Unit))
@[reducible] def Z65:Type:=(Int×Z53)
@[reducible] def Z66:Type:=(Int×Z54)
@[reducible] def Z67:Type:=(Int×Z55)
@[reducible] def Z68:Type:=(Z13 ⊕ Z0)
@[reducible] def Z69:Type:=(LI×Z41)
@[reducible] def Z70:Type:=(Int×Z56)
@[reducible] def Z71:Type:=(LI×Z46)
@[reducible] def Z72:Type:=(LI×Z49)
@[reducible] def Z73:Type:=(LI×Z50)
@[reducible] def Z74:Type:=(Int×Z58)
@[reducible] def Z75:Type:=(Int×Z57)
@[reducible] def Z76:Type:=(Int×Z62)
@[reducible] def Z77:Type:=(LI×Z52)
@[reducible] def Z78:Type:=(Int×Z63)
@[reducible] def Z79:Type:=(Z6×Z17)
@[reducible] def Z80:Type:=(Int×Z65)
@[reducible] def Z81:Type:=(Z5×Z17)
@[reducible] def Z82:Type:=(Int×Z66)
@[reducible] def Z83:Type:=(Int×Z69)
@[reducible] def Z84:Type:=(Int×Z73)
@[reducible] def Z85:Type:=(Int×Z74)
@[reducible] def Z86:Type:=(Int×Z76)
@[reducible] def Z87:Type:=(Int×Z77)
@[reducible] def Z88:Type:=(Int×Z78)
@[reducible] def Z89:Type:=(Int×Z80)
@[reducible] def Z90:Type:=(LI×Z79)
@[reducible] def Z91:Type:=(Z12×Z28)
@[reducible] def Z92:Type:=(Int×Z88)
@[reducible] def Z93:Type:=(Int×Z90)
@[reducible] def Z94:Type:=(Z7×Z60)
@[reducible] def Z95:Type:=(Z4×Z71)
@[reducible] def Z96:Type:=(Int×Z93)
@[reducible] def Z97:Type:=(Z5×Z81)
@[reducible] def Z98:Type:=(Z94×Unit)
@[reducible] def Z99:Type:=(LI×Z95)
@[reducible] def c2V:Type:=(LI×Z96)
@[reducible] def d4F:Type:=(LI×Z99)
@[reducible] def d4G:Type:=(Int×d4F)
@[reducible] def d4H:Type:=(Int×d4G)
@[reducible] def d4I:Type:=(Int×d4H)
@[reducible] def d4J:Type:=(Int×d4I)
@[reducible] def a1T:Type:=(Int×d4J)
@[reducible] def b2y:Type:=(List a1T)
@[reducible] def b4G:Type:=(a1T×Int)
@[reducible] def b5H:Type:=(a1T×Unit)
@[reducible] def c8l:Type:=(b2y×Unit)
@[reducible] def d1M:Type:=(Bool×b5H)
@[reducible] def c2W:Type:=(Int×d1M)
@[reducible] def c5u:Type:=(b2y×(LI×Unit))
@[reducible] def d4K:Type:=(Z6×b5H)
@[reducible] def c5v:Type:=(Int×d4K)
@[reducible] def d1N:Type:=(Z13×b5H)
@[reducible] def c5w:Type:=(a1T×Z36)
@[reducible] def d4L:Type:=(Z12×c8l)
@[reducible] def b4H:Type:=(Int×c5v)
@[reducible] def c8m:Type:=(Int×d1N)
@[reducible] def c1c:Type:=(Int×c8m)
@[reducible] def d4M:Type:=(Z7×d4L)
@[reducible] def d4N:Type:=(Int×d4M)
@[reducible] def a2R:Type:=(Int×d4N)
@[reducible] def b8O:Type:=(List a2R)
@[reducible] def b3u:Type:=(a2R×Unit)
@[reducible] def d4O:Type:=(b8O×Unit)
@[reducible] def c2X:Type:=(Z10×b3u)
@[reducible] def d4P:Type:=(Z4×d4O)
@[reducible] def c1d:Type:=(a2R×Z36)
@[reducible] def d4Q:Type:=(Int×d4P)
@[reducible] def d4R:Type:=(Int×d4Q)
@[reducible] def b2z:Type:=(a1T×b5H)
@[reducible] def d4S:Type:=(Int×b2z)
@[reducible] def c5x:Type:=(Int×d4S)
@[reducible] def b1l:Type:=(Z7×d4R)
@[reducible] def a9S:Type:=(b1l×Unit)
@[reducible] def d4T:Type:=(Z22×a9S)
@[reducible] def c5y:Type:=((List LI)×d4T)
@[reducible] def Q0:Ty:=(.pair QI .unit)
@[reducible] def Q1:Ty:=(.pair (.list true QI) .unit)
@[reducible] def Q2:Ty:=(.pair QL .unit)
@[reducible] def Q3:Ty:=(.pair QI Q0)
@[reducible] def Q4:Ty:=(.pair QU Q0)
@[reducible] def Q5:Ty:=(.pair (.nl QL) .unit)
@[reducible] def Q6:Ty:=(.pair (.list true (.list true QI)) .unit)
@[reducible] def Q7:Ty:=(.pair (.list true QL) .unit)
@[reducible] def Q8:Ty:=(.pair (.list false QL) .unit)
@[reducible] def Q9:Ty:=(.pair (.list true QV) Q0)
@[reducible] def Q10:Ty:=(.pair QI Q1)
@[reducible] def Q11:Ty:=(.pair QI Q2)
@[reducible] def Q12:Ty:=(.pair QI Q3)
@[reducible] def Q13:Ty:=(.pair QI Q4)
@[reducible] def Q14:Ty:=(.pair (.list true QI) Q1)
@[reducible] def Q15:Ty:=(.pair QI Q8)
@[reducible] def Q16:Ty:=(.pair QB Q3)
@[reducible] def Q17:Ty:=(.pair QI Q14)
@[reducible] def Q18:Ty:=(.pair (.list true QI) Q13)
@[reducible] def Q19:Ty:=(.pair QL Q13)
@[reducible] def Q20:Ty:=(.pair Q11 Q2)
@[reducible] def Q21:Ty:=(.pair (.list true QI) Q18)
@[reducible] def Q22:Ty:=(.pair QL Q19)
@[reducible] def Q23:Ty:=(.pair (.nl QI) Q20)
@[reducible] def Q24:Ty:=(.pair QL Q20)
@[reducible] def Q25:Ty:=(.pair (.list true Q3) Q23)
@[reducible] def Q26:Ty:=(.pair Q12 Q21)
@[reducible] def Q27:Ty:=(.pair Q12 Q22)
@[reducible] def Q28:Ty:=(.pair (.list false Q3) Q24)
@[reducible] def Q29:Ty:=(.pair (.arr 3 QI) Q25)
@[reducible] def Q30:Ty:=(.pair (.arr 3 QI) Q28)
@[reducible] def Q31:Ty:=(.pair (.list true QI) Q29)
@[reducible] def Q32:Ty:=(.pair QL Q30)
@[reducible] def Q33:Ty:=(.pair QI Q31)
@[reducible] def Q34:Ty:=(.pair QI Q32)
@[reducible] def Q35:Ty:=(.pair QI Q33)
@[reducible] def Q36:Ty:=(.pair QI Q34)
@[reducible] def Q37:Ty:=(.pair QI Q35)
@[reducible] def Q38:Ty:=(.pair QI Q36)
@[reducible] def Q39:Ty:=(.pair QI Q37)
@[reducible] def Q40:Ty:=(.pair QI Q38)
@[reducible] def Q41:Ty:=(.pair QI Q39)
@[reducible] def Q42:Ty:=(.pair QI Q40)
@[reducible] def Q43:Ty:=(.pair (.nl Q42) .unit)
@[reducible] def Q44:Ty:=(.pair (.list true Q42) .unit)
@[reducible] def Q45:Ty:=(.pair (.list false Q42) .unit)
@[reducible] def Q46:Ty:=(.pair (.nl Q12) Q43)
@[reducible] def Q47:Ty:=(.pair (.list true Q12) Q43)
@[reducible] def Q48:Ty:=(.pair (.list false Q12) Q44)
@[reducible] def Q49:Ty:=(.pair (.list false Q12) Q45)
@[reducible] def Q50:Ty:=(.pair Q12 Q46)
@[reducible] def Q51:Ty:=(.pair Q12 Q47)
@[reducible] def Q52:Ty:=(.pair Q12 Q48)
@[reducible] def Q53:Ty:=(.pair Q12 Q49)
@[reducible] def Q54:Ty:=(.pair QI Q50)
@[reducible] def Q55:Ty:=(.pair QI Q51)
@[reducible] def Q56:Ty:=(.pair QI Q52)
@[reducible] def Q57:Ty:=(.pair QI Q53)
@[reducible] def Q58:Ty:=(.pair QI Q55)
@[reducible] def Q59:Ty:=(.pair QI Q56)
@[reducible] def Q60:Ty:=(.pair QI Q57)
@[reducible] def Q61:Ty:=(.pair (.nl Q60) .unit)
@[reducible] def Q62:Ty:=(.pair (.list true Q60) .unit)
@[reducible] def Q63:Ty:=(.pair (.list false Q60) .unit)
@[reducible] def Q64:Ty:=(.pair (.nl Q3) Q61)
@[reducible] def Q65:Ty:=(.pair (.list true Q3) Q62)
@[reducible] def Q66:Ty:=(.pair (.list false Q3) Q63)
@[reducible] def Q67:Ty:=(.pair QU Q64)
@[reducible] def Q68:Ty:=(.pair QU Q65)
@[reducible] def Q69:Ty:=(.pair QU Q66)
@[reducible] def Q70:Ty:=(.pair QI Q67)
@[reducible] def Q71:Ty:=(.pair QI Q68)
@[reducible] def Q72:Ty:=(.pair QI Q69)
@[reducible] def Q73:Ty:=(.pair Q12 Q71)
@[reducible] def Q74:Ty:=(.pair Q12 Q72)
def c2P:List (Nat×Ty):=[(2,.int .i64),(3,.int .i64),(5,.int .u8),(9,.str),(22,.list false QL),(24,.pair QI Q8),(25,.int .u16),(30,.pair QI Q3),(31,.list false Q12),(32,.list false Q42),(34,.pair QI Q57),(35,.int .i64),(38,.list false QV),(42,.int .u64),(49,.int .u64),(50,.list false Q3),(51,.list false Q60),(53,.pair Q12 Q72),(55,.list false QI),(74,.pair QI Q0),(76,.pair QI Q0),(85,.list false Q3),(103,.arr 3 QI),(104,.list false Q3),(106,.pair QI Q2),(108,.pair QI Q40),(113,.pair QB Q0),(134,.list false QB),(135,.list false Q15),(141,.list false QU),(143,.int .u32),(153,.pair Q12 Q22),(164,.pair QI Q3),(178,.pair QI Q0),(192,.pair QB Q3),(236,.pair QB Q3),(256,.arr 64 QV),(285,.list false (.arr 3 QI)),(295,.pair QI (.pair QL Q2))]
def T0:Nat→Option Ty:=fun t=>find c2P t
def c5z:List Nat:=[30,74,103]
def d4U:Nat→Bool:=fun t=>c5z.contains t
def c2Y:List Nat:=[]
def d4V:Nat→Bool:=fun t=>c2Y.contains t
def b1F:(List Int):=[0,1,56,2,57,49,28,3,61,58,42,50,38,29,17,4,62,47,59,36,45,43,51,22,53,39,33,30,24,18,12,5,63,55,48,27,60,41,37,16,46,35,44,21,52,32,23,11,54,26,40,15,34,20,31,10,25,14,19,9,13,8,7,6]
def G0:Nat→Option ((t:Ty)×t.den):=fun g=>find ([(0,⟨.arr 64 QV,b1F⟩)]:List (Nat×((t:Ty)×t.den))) g
@[reducible] def a9T(a:List (Nat×FSem))(b:List (Nat×Ty))(c d:List Nat):Cx:=⟨d4V,d4U,T0,fun f=>find a f,fun n=>find b n,fun i=>c.contains i,fun i=>d.contains i,G0⟩
def a4e(x:Z10):Option Int:=cond ((x.2.1.length:Int)==0) (some 0) ((m0k x.2.1 0).bind fun x1=>some (x1.length:Int))
def a7r:FSem:=⟨[.v Q15],[.v QI],a4e⟩
def b3v(x:Int):Option Int:=(show Option (Int×Bool×Unit)from cond (decide (x<1)) (some (x,true,())) (some (x,decide (x > 31),()))).bind fun z1=>cond z1.2.1 (some 0) (cond (decide ((wrap .i64 (z1.1-1))<0)) none (some (A0n .i64 (-1) (wrap .i64 (z1.1-1)))))
def b6N:FSem:=⟨[.v QI],[.v QI],b3v⟩
def d4W:Hints:=⟨[],[(6,[Qn [0,.sv 8 .bool]])],[]⟩
def b2A(x:Int):Option Int:=(show Option (Int×Bool×Unit)from cond (decide (x<1)) (some (x,true,())) (some (x,decide (x > 31),()))).bind fun z1=>cond z1.2.1 (some 0) (cond (decide ((wrap .i64 (z1.1-1))<0)) none (some (wrap .i64 ((A0n .i64 1 (wrap .i64 (z1.1-1)))-1))))
def b6u:FSem:=⟨[.v QI],[.v QI],b2A⟩
def d4X:Hints:=⟨[],[(6,[Qn [0,.sv 8 .bool]])],[]⟩
def a1Q(x:(Int×Int)):Option Bool:=cond (decide (x.2≥1)) (cond (decide (x.2≤31)) ((b3v x.2).bind fun y1=>cond (decide (y1≤x.1)) ((b2A x.2).bind fun y2=>some (decide (x.1≤y2))) (some false)) (some false)) (some false)
def a3F:FSem:=⟨[.v QI,.v QI],[.v .bool],a1Q⟩
def a6W(x:Int):Option Bool:=cond (decide (4≤x)) (some (decide (x≤24))) (some false)
def b2B:FSem:=⟨[.v QI],[.v .bool],a6W⟩
def a4l(s:((List LI)×(Int×(Int×(LI×Z61))))):Option (((List LI)×(Int×(Int×(LI×Z61)))) ⊕ (((List LI)×Z61) ⊕ (Bool×Unit))):=cond (decide (s.2.2.2.2.2.1<s.2.2.2.2.1)) ((m0k s.2.2.2.1 s.2.2.2.2.2.1).bind fun x8=>(a1Q (x8,s.2.2.2.2.2.2.1.1)).bind fun y9=>cond (!y9) (some (.inr (Sum.inr ((false,()))))) (some (.inl (s.1,s.2.1,s.2.2.1,s.2.2.2.1,s.2.2.2.2.1,wrap .i64 (s.2.2.2.2.2.1+1),s.2.2.2.2.2.2.1,())))) (some (.inr (Sum.inl (s.1,s.2.1,s.2.2.1,s.2.2.2.2.2.2.1,()))))
def a4m(s:((List LI)×Z61)):Option (((List LI)×Z61) ⊕ Z0):=cond (decide (s.2.2.1<s.2.1)) ((m0k s.1 s.2.2.1).bind fun x6=>(a4e s.2.2.2.1).bind fun y7=>cond ((x6.length:Int) != y7) (some (.inr (Sum.inr ((false,()))))) ((y0s a4l (s.1,s.2.1,s.2.2.1,x6,(x6.length:Int),0,s.2.2.2.1,())).bind fun w10=>match w10 with |.inl a11=>some (.inl (a11.1,a11.2.1,wrap .i64 (a11.2.2.1+1),a11.2.2.2.1,())) |.inr b12=>some (.inr (Sum.inr ((b12.1,())))))) (some (.inr (Sum.inl ())))
def a4f(x:Z10):Option Bool:=(show Option (Bool×Z28)from(a6W x.1).bind fun y1=>cond (!y1) (some (true,x,())) (cond (decide ((x.2.1.length:Int)<1)) (some (true,x,())) (some (decide ((x.2.1.length:Int) > 8),x,())))).bind fun z2=>cond z2.1 (some false) ((show Option (Bool×Z28)from(a4e z2.2.1).bind fun y3=>cond (decide (y3<1)) (some (true,z2.2.1,())) ((a4e z2.2.1).bind fun y4=>some (decide (y4 > 4096),z2.2.1,()))).bind fun z5=>cond z5.1 (some false) ((y0s a4m (z5.2.1.2.1,(z5.2.1.2.1.length:Int),0,z5.2.1,())).bind fun w13=>match w13 with |.inl a14=>some true |.inr b15=>some b15.1))
def a4g:FSem:=⟨[.v Q15],[.v .bool],a4f⟩
def H56:Hints:=⟨[(122,[.sv 32 (.list false QL),33,34,.vp 1 Q15],[Qe 0 [],Qr [.sv 2 .bool]]),(62670,[.sv 32 (.list false QL),33,34,.sv 43 QL,44,45,.vp 1 Q15],[Qe 2 [.sv 32 (.list false QL),33,34,.vp 1 Q15],Qr [.sv 2 .bool]])],[(6,[Qn [.sv 22 .bool,.vp 1 Q15]]),(14,[Qn [.sv 30 .bool,.vp 1 Q15]])],[]⟩
def a1R(x:Z7):Option Bool:=cond (decide (1≤x.1)) (cond (decide (x.1≤1048576)) (cond (decide (1≤x.2.1)) (cond (decide (x.2.1≤8)) ((a6W x.2.2.1).bind fun y1=>some y1) (some false)) (some false)) (some false)) (some false)
def a3G:FSem:=⟨[.v Q12],[.v .bool],a1R⟩
def a6X(s:(Int×Z12×Int×Int×Unit)):Option ((Int×Z12×Int×Int×Unit) ⊕ Z0):=cond (decide (s.2.2.2.1<s.2.2.1)) ((m0k s.2.1 s.2.2.2.1).bind fun x2=>(show Option (Int×Z12×Int×Int×Z38)from cond (decide (x2.1<0)) (some (s.1,s.2.1,s.2.2.1,s.2.2.2.1,true,x2,())) (cond (decide (x2.1≥s.1)) (some (s.1,s.2.1,s.2.2.1,s.2.2.2.1,true,x2,())) (cond (decide (x2.2.1<0)) (some (s.1,s.2.1,s.2.2.1,s.2.2.2.1,true,x2,())) (cond (decide (x2.2.1≥s.1)) (some (s.1,s.2.1,s.2.2.1,s.2.2.2.1,true,x2,())) (some (s.1,s.2.1,s.2.2.1,s.2.2.2.1,x2.1==x2.2.1,x2,())))))).bind fun z3=>cond z3.2.2.2.2.1 (some (.inr (Sum.inr ((false,()))))) ((show Option (Int×Z12×Z8)from cond (decide (z3.2.2.2.2.2.1.2.2.1<(-1024))) (some (z3.1,z3.2.1,z3.2.2.1,z3.2.2.2.1,true,())) (some (z3.1,z3.2.1,z3.2.2.1,z3.2.2.2.1,decide (z3.2.2.2.2.2.1.2.2.1 > 1024),()))).bind fun z4=>cond z4.2.2.2.2.1 (some (.inr (Sum.inr ((false,()))))) (some (.inl (z4.1,z4.2.1,z4.2.2.1,wrap .i64 (z4.2.2.2.1+1),()))))) (some (.inr (Sum.inl ())))
def a8q(x:(Z12×Int)):Option Bool:=(show Option (Z12×Int×Bool×Unit)from cond (decide (x.2<1)) (some (x.1,x.2,true,())) (cond (decide (x.2 > 8)) (some (x.1,x.2,true,())) (some (x.1,x.2,decide ((x.1.length:Int) > 16),())))).bind fun z1=>cond z1.2.2.1 (some false) ((y0s a6X (z1.2.1,z1.1,(z1.1.length:Int),0,())).bind fun w5=>match w5 with |.inl a6=>some true |.inr b7=>some b7.1)
def b2T:FSem:=⟨[.v (.list false Q12),.v QI],[.v .bool],a8q⟩
def d4Y:Hints:=⟨[(58,[1,.sv 18 (.list false Q12),19,20],[Qe 0 [],Qr [.sv 4 .bool]])],[(6,[Qn [.sv 0 (.list false Q12),1,.sv 17 .bool]]),(7474,[Qn [1,.sv 18 (.list false Q12),19,20,.sv 50 .bool,.box 6 Q12,Qp 6 6]]),(7475,[Qn [1,.sv 18 (.list false Q12),19,20,.sv 58 .bool]])],[]⟩
def a6Y(x:a2R):Option Bool:=(a1R x.2.2.1).bind fun y1=>cond y1 (cond (decide (x.2.1≥1)) (cond (decide (x.2.1≤4096)) (cond (decide (x.1≥0)) (cond (decide (x.1≤(wrap .i64 (4194304-x.2.1)))) ((a8q (x.2.2.2.1,x.2.2.1.2.1)).bind fun y2=>some y2) (some false)) (some false)) (some false)) (some false)) (some false)
def b2C:FSem:=⟨[.v Q60],[.v .bool],a6Y⟩
def a2s(s:Z13):Option Z68:=cond (decide (s.2.2.1<s.2.1)) ((m0k s.1 s.2.2.1).bind fun x1=>(show Option Z33 from cond (decide (x1<(-1073741824))) (some (s.1,s.2.1,s.2.2.1,true,())) (some (s.1,s.2.1,s.2.2.1,decide (x1≥1073741824),()))).bind fun z2=>cond z2.2.2.2.1 (some (.inr (Sum.inr ((false,()))))) (some (.inl (z2.1,z2.2.1,wrap .i64 (z2.2.2.1+1),())))) (some (.inr (Sum.inl ())))
def a2p(x:LI):Option Bool:=(y0s a2s (x,(x.length:Int),0,())).bind fun w3=>match w3 with |.inl a4=>some true |.inr b5=>some b5.1
def a9r:FSem:=⟨[.v QL],[.v .bool],a2p⟩
def d4Z:Hints:=⟨[(26,[.sv 5 QL,6,7],[Qe 0 [],Qr [.sv 2 .bool]])],[(1689,[Qn [.sv 5 QL,6,7,.sv 16 .bool]])],[]⟩
def a6d(x:Int):Option Bool:=cond (x != 0) (some (x != 1)) (some false)
def a9U:FSem:=⟨[.v QI],[.v .bool],a6d⟩
def a5k(s:Z13):Option Z68:=cond (decide (s.2.2.1<s.2.1)) ((m0k s.1 s.2.2.1).bind fun x2=>(show Option Z33 from cond (decide (x2<(-32768))) (some (s.1,s.2.1,s.2.2.1,true,())) (some (s.1,s.2.1,s.2.2.1,decide (x2≥32768),()))).bind fun z3=>cond z3.2.2.2.1 (some (.inr (Sum.inr ((false,()))))) (some (.inl (z3.1,z3.2.1,wrap .i64 (z3.2.2.1+1),())))) (some (.inr (Sum.inl ())))
def a4x(x:(LI×Int)):Option Bool:=(show Option (LI×(Bool×Unit))from cond (decide ((x.1.length:Int)<1)) (some (x.1,true,())) (cond (decide ((x.1.length:Int) > 32)) (some (x.1,true,())) (cond (decide (x.2<0)) (some (x.1,true,())) (some (x.1,decide (x.2 > 15),()))))).bind fun z1=>cond z1.2.1 (some false) ((y0s a5k (z1.1,(z1.1.length:Int),0,())).bind fun w4=>match w4 with |.inl a5=>some true |.inr b6=>some b6.1)
def a9V:FSem:=⟨[.v QL,.v QI],[.v .bool],a4x⟩
def d5a:Hints:=⟨[(58,[.sv 23 QL,24,25],[Qe 0 [],Qr [.sv 4 .bool]])],[(6,[Qn [.sv 0 QL,.sv 22 .bool]]),(3737,[Qn [.sv 23 QL,24,25,.sv 34 .bool]])],[]⟩
def a6Z(s:Z6):Option (Z6 ⊕ Z0):=cond (decide (s.2.1<3)) ((m0k s.1 s.2.1).bind fun x2=>(show Option Z16 from cond (decide (x2<(-64))) (some (s.1,s.2.1,true,())) (some (s.1,s.2.1,decide (x2 > 64),()))).bind fun z3=>cond z3.2.2.1 (some (.inr (Sum.inr ((false,()))))) (some (.inl (z3.1,wrap .i64 (z3.2.1+1),())))) (some (.inr (Sum.inl ())))
def a8r(x:(Int×LI)):Option Bool:=(show Option (Bool×(LI×Unit))from cond (decide (x.1<2)) (some (true,x.2,())) (some (decide (x.1 > 1024),x.2,()))).bind fun z1=>cond z1.1 (some false) ((y0s a6Z (z1.2.1,0,())).bind fun w4=>match w4 with |.inl a5=>some true |.inr b6=>some b6.1)
def b2U:FSem:=⟨[.v QI,.v (.arr 3 QI)],[.v .bool],a8r⟩
def d5b:Hints:=⟨[(58,[.sv 13 (.arr 3 QI),14],[Qe 0 [],Qr [.sv 4 .bool]])],[(6,[Qn [.sv 12 .bool,.vp 3 (.arr 3 QI)]]),(3737,[Qn [.sv 13 (.arr 3 QI),14,.sv 22 .bool]])],[]⟩
def a7a(x:(Int×Int×Unit)):Option Bool:=cond (decide (x.1≥1)) (cond (decide (x.1≤32)) (cond (decide (x.2.1≥0)) (some (decide (x.2.1≤8))) (some false)) (some false)) (some false)
def b2D:FSem:=⟨[.v Q3],[.v .bool],a7a⟩
def a6e(s:(Z4×Int×Int×Unit)):Option ((Z4×Int×Int×Unit) ⊕ Z0):=cond (decide (s.2.2.1<s.2.1)) ((m0k s.1 s.2.2.1).bind fun x1=>(a7a x1).bind fun y2=>cond (!y2) (some (.inr (Sum.inr ((false,()))))) (some (.inl (s.1,s.2.1,wrap .i64 (s.2.2.1+1),())))) (some (.inr (Sum.inl ())))
def a7s(x:Z4):Option Bool:=cond (decide ((x.length:Int) > 3)) (some false) ((y0s a6e (x,(x.length:Int),0,())).bind fun w3=>match w3 with |.inl a4=>some true |.inr b5=>some b5.1)
def b1G:FSem:=⟨[.v (.list false Q3)],[.v .bool],a7s⟩
def d5c:Hints:=⟨[(58,[.sv 8 (.list false Q3),9,10],[Qe 0 [],Qr [.sv 2 .bool]])],[],[]⟩
def a7U(x:(Int×b4G)):Option Bool:=(show Option (Int×c2W)from cond (x.1==0) (some (x.2.2,x.1,x.1==0,x.2.1,())) (some (x.2.2,x.1,x.1==1,x.2.1,()))).bind fun z1=>cond z1.2.2.1 (some true) (cond (z1.2.1==2) (cond (decide (z1.2.2.2.1.2.2.1≥0)) (cond (decide (z1.2.2.2.1.2.2.1≤4)) (some (decide (z1.2.2.2.1.2.2.1≤z1.1))) (some false)) (some false)) (cond (z1.2.1==3) ((a4x (z1.2.2.2.1.2.2.2.2.2.1,z1.2.2.2.1.2.2.2.1)).bind fun y2=>cond y2 (some (decide ((z1.2.2.2.1.2.2.2.2.2.1.length:Int)≤z1.1))) (some false)) (cond (z1.2.1==4) ((a4x (z1.2.2.2.1.2.2.2.2.2.1,z1.2.2.2.1.2.2.2.1)).bind fun y3=>cond y3 (cond (decide ((z1.2.2.2.1.2.2.2.2.2.1.length:Int)≤z1.1)) ((a8r (z1.2.2.2.1.2.2.2.2.1,z1.2.2.2.1.2.2.2.2.2.2.1)).bind fun y4=>some y4) (some false)) (some false)) (cond (z1.2.1==5) (cond (decide ((z1.2.2.2.1.2.2.2.2.2.2.2.1.length:Int) > 0)) ((a7s z1.2.2.2.1.2.2.2.2.2.2.2.1).bind fun y5=>some y5) (some false)) (some false)))))
def b4d:FSem:=⟨[.v QI,.v Q42,.v QI],[.v .bool],a7U⟩
def d5d:Hints:=⟨[],[(26,[Qn [2,7,.sv 8 .bool,.vp 4 Q42]])],[]⟩
def a4y(x:b4G):Option Int:=cond (x.1.1==0) (some 1) (cond (x.1.1==1) (some x.2) (cond (x.1.1==2) (some x.1.2.2.1) ((show Option d1M from cond (x.1.1==3) (some (x.1.1==3,x.1,())) (some (x.1.1==4,x.1,()))).bind fun z1=>cond z1.1 (some (z1.2.1.2.2.2.2.2.1.length:Int)) (some 0))))
def a9W:FSem:=⟨[.v Q42,.v QI],[.v QI],a4y⟩
def d5e:Hints:=⟨[],[(1727,[Qn [.sv 16 .bool,.vp 2 Q42]])],[]⟩
def a1d(x:LI):Option LI:=x0e x
def a1a:FSem:=⟨[.v QL],[.o QI],a1d⟩
def c9x:Cx:=a9T [] [] [0,2] []
theorem d2P(x):A0j c9x QH Tryz.f183 a1a.ps a1a.rs x=a1a.F x:=Eq.trans (show _=w0u x by kernel_rfl) (A0x x)
def a3H(x:LI):Option LI:=x0e x
def a1l:FSem:=⟨[.v QL],[.v QL],a3H⟩
def c6Z:Cx:=a9T [] [] [0,2] []
theorem d1O(x):A0j c6Z QH Tryz.f183 a1l.ps a1l.rs x=a1l.F x:=Eq.trans (show _=w0u x by kernel_rfl) (A0x x)
def a1n(x:Z4):Option Z4:=x0e x
def a1c:FSem:=⟨[.v (.list false Q3)],[.v (.list false Q3)],a1n⟩
def c7a:Cx:=a9T [] [] [0,2] []
theorem d1P(x):A0j c7a QH Tryz.f251 a1c.ps a1c.rs x=a1c.F x:=Eq.trans (show _=w0u x by kernel_rfl) (A0x x)
def a6f(x:(Int×a1T)):Option a1T:=(show Option b2z from(show Option ((a1T×b2z) ⊕ (b2z ⊕ (a1T×b2z)))from cond (x.1==2) (some (Sum.inr (Sum.inl ((0,0,0,0,0,[],a02 3 0,[],[],(0,[],()),[],()),(x.1,0,x.2.2.2.1,0,0,[],a02 3 0,[],[],(0,[],()),[],()),())))) (cond (x.1==4) (some (Sum.inl ((0,0,0,0,0,[],a02 3 0,[],[],(0,[],()),[],()),(x.1,0,0,0,x.2.2.2.2.2.1,[],x.2.2.2.2.2.2.2.1,[],[],(0,[],()),[],()),x.2,()))) (cond (x.1==3) (some (Sum.inl ((0,0,0,0,0,[],a02 3 0,[],[],(0,[],()),[],()),(x.1,0,0,0,0,[],a02 3 0,[],[],(0,[],()),[],()),x.2,()))) (cond (x.1==5) (some (Sum.inr (Sum.inr (((0,0,0,0,0,[],a02 3 0,[],[],(0,[],()),[],()),(x.1,0,0,0,0,[],a02 3 0,[],[],(0,[],()),[],()),x.2,()))))) (some (Sum.inr (Sum.inl ((0,0,0,0,0,[],a02 3 0,[],[],(0,[],()),[],()),(x.1,0,0,0,0,[],a02 3 0,[],[],(0,[],()),[],()),())))))))).bind fun z1=>match z1 with |.inl a2=>((a3H a2.2.2.1.2.2.2.2.2.1).bind fun y4=>some (a2.1,(a2.2.1.1,a2.2.1.2.1,a2.2.1.2.2.1,a2.2.2.1.2.2.2.1,a2.2.1.2.2.2.2.1,y4,a2.2.1.2.2.2.2.2.2),())) |.inr b3=>(match b3 with |.inl a5=>some (a5.1,a5.2.1,()) |.inr b6=>((a1n b6.2.2.1.2.2.2.2.2.2.2.1).bind fun y7=>some (b6.1,(b6.2.1.1,b6.2.1.2.1,b6.2.1.2.2.1,b6.2.1.2.2.2.1,b6.2.1.2.2.2.2.1,b6.2.1.2.2.2.2.2.1,b6.2.1.2.2.2.2.2.2.1,y7,b6.2.1.2.2.2.2.2.2.2.2),())))).bind fun z8=>some z8.2.1
def b3w:FSem:=⟨[.v QI,.v Q42],[.v Q42],a6f⟩
def d5f:Hints:=⟨[],[(7,[Qn [.box 4 Q42,.box 5 Q42,Qp 4 4,Qp 5 5]]),(232,[Qn [.box 4 Q42,.box 5 Q42,.vp 3 Q42,Qp 4 4,Qp 5 5],Qe 0 [.box 4 Q42,.box 5 Q42,Qp 4 4,Qp 5 5],Qe 4 [.box 4 Q42,.box 5 Q42,.vp 3 Q42,Qp 4 4,Qp 5 5]])],[(8,[.v,.v,.v,.v,.q,.w [0,5],.x,.x]),(9,[.v,.v,.v,.v,.v,.q,.w [0,5],.x,.x])]⟩
def b1H(x:a1T):Option Bool:=(a6f (x.1,x)).bind fun y1=>cond (x.2.2.1==y1.2.2.1) (cond (x.2.2.2.1==y1.2.2.2.1) (cond (x.2.2.2.2.1==y1.2.2.2.2.1) (cond (eqT (.arr 3 (.int .i64)) x.2.2.2.2.2.2.1 y1.2.2.2.2.2.2.1) (cond ((x.2.2.2.2.2.1.length:Int)==(y1.2.2.2.2.2.1.length:Int)) (some ((x.2.2.2.2.2.2.2.1.length:Int)==(y1.2.2.2.2.2.2.2.1.length:Int))) (some false)) (some false)) (some false)) (some false)) (some false)
def b7S:FSem:=⟨[.v Q42],[.v .bool],b1H⟩
def a7t(x:(Int×Int)):Option Bool:=cond (decide (1≤x.1)) (cond (decide (x.1≤4096)) (cond (decide (0≤x.2)) (some (decide (x.2≤x.1))) (some false)) (some false)) (some false)
def b1I:FSem:=⟨[.v QI,.v QI],[.v .bool],a7t⟩
def a6C(s:Z14):Option (Z14 ⊕ (LI×Unit)):=cond (decide (s.1<0)) none (cond (decide ((s.2.2.1.length:Int)<(A0n .i64 1 s.1))) (cond (lim ((a01 s.2.2.1)+1)) (some (.inl (s.1,s.2.1,a03 s.2.2.1 [s.2.1],()))) none) (some (.inr (s.2.2.1,()))))
def a2N(x:(Int×Int×Int)):Option LI:=(show Option Z21 from(a7t (x.2.1,x.2.2)).bind fun y1=>cond (!y1) (some (x.1,x.2.1,x.2.2,true,())) (cond (decide (x.1<0)) (some (x.1,x.2.1,x.2.2,true,())) (some (x.1,x.2.1,x.2.2,decide (x.1 > 8),())))).bind fun z2=>cond z2.2.2.2.1 (some []) (cond (decide (z2.1<0)) none ((show Option Z21 from cond (decide (z2.1<0)) none (cond ((A0n .i64 (A0o .i64 z2.2.1 z2.1) z2.1) != z2.2.1) (some (z2.1,z2.2.2.1,A0o .i64 z2.2.1 z2.1,true,())) (some (z2.1,z2.2.2.1,A0o .i64 z2.2.1 z2.1,decide ((A0o .i64 z2.2.1 z2.1)<z2.2.2.1),())))).bind fun z3=>cond z3.2.2.2.1 (some []) ((y0s a6C (z3.1,z3.2.2.1,[wrap .i64 (z3.2.2.1-z3.2.1)],())).bind fun w4=>some w4.1)))
def a5a:FSem:=⟨[.v QI,.v QI,.v QI],[.o QI],a2N⟩
def d5g:Hints:=⟨[(252,[0,7,.own 8 8 QI],[Qe 0 [.own 8 8 QI]])],[(6,[Qn [0,1,2,.sv 20 .bool]]),(30,[Qn [0,2,7,.sv 33 .bool]])],[]⟩
def a4n(s:Z13):Option Z68:=cond (decide (s.2.2.1<s.2.1)) ((m0k s.1 s.2.2.1).bind fun x3=>(show Option Z33 from cond (decide (x3<0)) (some (s.1,s.2.1,s.2.2.1,x3 != 31,())) (cond (decide (x3 > 25)) (some (s.1,s.2.1,s.2.2.1,x3 != 31,())) (some (s.1,s.2.1,s.2.2.1,false,())))).bind fun z4=>cond z4.2.2.2.1 (some (.inr (Sum.inr ((false,()))))) (some (.inl (z4.1,z4.2.1,wrap .i64 (z4.2.2.1+1),())))) (some (.inr (Sum.inl ())))
def a9d(x:(Z5×Int×Int)):Option Bool:=(a2N (x.1.1,x.2.1,x.2.2)).bind fun y1=>(show Option (Bool×Z17)from cond ((y1.length:Int)==0) (some (true,x.1,())) (some ((x.1.2.1.length:Int) != (y1.length:Int),x.1,()))).bind fun z2=>cond z2.1 (some false) ((y0s a4n (z2.2.1.2.1,(z2.2.1.2.1.length:Int),0,())).bind fun w5=>match w5 with |.inl a6=>some true |.inr b7=>some b7.1)
def b4I:FSem:=⟨[.v Q11,.v QI,.v QI],[.v .bool],a9d⟩
def d5h:Hints:=⟨[(122,[.sv 27 QL,28,29],[Qe 0 [],Qr [.sv 6 .bool]])],[(14,[Qn [.sv 25 .bool,.vp 3 Q11]]),(7833,[Qn [.sv 27 QL,28,29,.sv 42 .bool]])],[]⟩
def a9X(x:b4G):Option Bool:=(show Option c2W from cond (decide (x.2<1)) (some (x.2,true,x.1,())) (cond (decide (x.2 > 4096)) (some (x.2,true,x.1,())) ((a7U (x.1.1,x.1,x.2)).bind fun y1=>cond (!y1) (some (x.2,true,x.1,())) ((b1H x.1).bind fun y2=>some (x.2,!y2,x.1,()))))).bind fun z3=>cond z3.2.1 (some false) ((show Option c2W from cond (decide (z3.2.2.1.2.1<0)) (some (z3.1,true,z3.2.2.1,())) (cond (decide (z3.2.2.1.2.1 > 30)) (some (z3.1,true,z3.2.2.1,())) (cond (z3.2.2.1.1==0) (some (z3.1,z3.2.2.1.2.1 != 0,z3.2.2.1,())) (some (z3.1,false,z3.2.2.1,()))))).bind fun z4=>cond z4.2.1 (some false) ((a4y (z4.2.2.1,z4.1)).bind fun y5=>(show Option (Int×c2W)from cond ((z4.2.2.1.2.2.2.2.2.2.2.2.1.length:Int) != y5) (some (z4.1,y5,true,z4.2.2.1,())) ((a2p z4.2.2.1.2.2.2.2.2.2.2.2.1).bind fun y6=>cond (!y6) (some (z4.1,y5,true,z4.2.2.1,())) ((a2p z4.2.2.1.2.2.2.2.2.2.2.2.2.2.1).bind fun y7=>some (z4.1,y5,!y7,z4.2.2.1,())))).bind fun z8=>cond z8.2.2.1 (some false) ((a6d z8.2.2.2.1.1).bind fun y9=>cond (!y9) (cond ((z8.2.2.2.1.2.2.2.2.2.2.2.2.2.2.1.length:Int)==0) (cond (z8.2.2.2.1.2.2.2.2.2.2.2.2.2.1.1==0) (some ((z8.2.2.2.1.2.2.2.2.2.2.2.2.2.1.2.1.length:Int)==0)) (some false)) (some false)) (cond ((z8.2.2.2.1.2.2.2.2.2.2.2.2.2.2.1.length:Int)==(wrap .i64 (z8.1-z8.2.1))) ((a9d (z8.2.2.2.1.2.2.2.2.2.2.2.2.2.1,z8.1,z8.2.1)).bind fun y10=>some y10) (some false)))))
def b6O:FSem:=⟨[.v Q42,.v QI],[.v .bool],a9X⟩
def d5i:Hints:=⟨[],[(6,[Qn [1,.sv 24 .bool,.vp 2 Q42]]),(14,[Qn [1,.sv 42 .bool,.vp 2 Q42]]),(62,[Qn [1,5,.sv 62 .bool,.vp 2 Q42]])],[]⟩
def b4e(s:Z13):Option Z68:=cond (decide (s.2.2.1<s.2.1)) ((m0k s.1 s.2.2.1).bind fun x1=>(show Option Z33 from cond (decide (x1<(-1073741824))) (some (s.1,s.2.1,s.2.2.1,true,())) (some (s.1,s.2.1,s.2.2.1,decide (x1≥1073741824),()))).bind fun z2=>cond z2.2.2.2.1 (some (.inr (Sum.inr ((false,()))))) (some (.inl (z2.1,z2.2.1,wrap .i64 (z2.2.2.1+1),())))) (some (.inr (Sum.inl ())))
def a2C(x:LI):Option Bool:=(y0s b4e (x,(x.length:Int),0,())).bind fun w3=>match w3 with |.inl a4=>some true |.inr b5=>some b5.1
def b3x:FSem:=⟨[.v QL],[.v .bool],a2C⟩
def d5j:Hints:=⟨[(26,[.sv 5 QL,6,7],[Qe 0 [],Qr [.sv 2 .bool]])],[(1689,[Qn [.sv 5 QL,6,7,.sv 16 .bool]])],[]⟩
def a1j(x:(Int×LI)):Option (Int×LI):=(m0k x.2 (wrap .i64 ((x.2.length:Int)-x.1))).bind fun x1=>some (x1,x.2)
def b4f:FSem:=⟨[.v QI,.r false (.b QL)],[.v QI],a1j⟩
def a9s(x:(LI×Int)):Option Int:=cond (x.2==1) ((a1j (1,x.1)).bind fun y1=>some y1.1) (cond (x.2==2) ((a1j (1,x.1)).bind fun y2=>(a1j (2,y2.2)).bind fun y3=>some (wrap .i64 ((wrap .i64 (2*y2.1))-y3.1))) (cond (x.2==3) ((a1j (1,x.1)).bind fun y4=>(a1j (2,y4.2)).bind fun y5=>(a1j (3,y5.2)).bind fun y6=>some (wrap .i64 ((wrap .i64 ((wrap .i64 (3*y4.1))-(wrap .i64 (3*y5.1))))+y6.1))) (cond (x.2==4) ((a1j (1,x.1)).bind fun y7=>(a1j (2,y7.2)).bind fun y8=>(a1j (3,y8.2)).bind fun y9=>(a1j (4,y9.2)).bind fun y10=>some (wrap .i64 ((wrap .i64 ((wrap .i64 ((wrap .i64 (4*y7.1))-(wrap .i64 (6*y8.1))))+(wrap .i64 (4*y9.1))))-y10.1))) (some 0))))
def b6v:FSem:=⟨[.v QL,.v QI],[.v QI],a9s⟩
def a7G(s:Z57):Option (Z57 ⊕ Z47):=cond (decide (s.2.2.2.1<s.2.2.1)) ((m0k s.2.1 s.2.2.2.1).bind fun x5=>(a9s (s.2.2.2.2.1,s.1)).bind fun y6=>(a2C [wrap .i64 (x5+y6)]).bind fun y7=>cond (!y7) (some (.inr (Sum.inr ((6,[],()))))) (cond (lim ((a01 s.2.2.2.2.1)+1)) (some (.inl (s.1,s.2.1,s.2.2.1,wrap .i64 (s.2.2.2.1+1),a03 s.2.2.2.2.1 [wrap .i64 (x5+y6)],()))) none)) (some (.inr (Sum.inl (s.2.2.2.2.1,()))))
def a9Y(x:Z9):Option (LI×Int):=(show Option Z48 from cond (decide (x.2.2<0)) (some (x.1,x.2.1,x.2.2,true,())) (cond (decide (x.2.2 > 4)) (some (x.1,x.2.1,x.2.2,true,())) (some (x.1,x.2.1,x.2.2,(x.1.length:Int) != x.2.2,())))).bind fun z1=>cond z1.2.2.2.1 (some ([],1)) ((show Option Z48 from(a2C z1.1).bind fun y2=>cond (!y2) (some (z1.1,z1.2.1,z1.2.2.1,true,())) ((a2C z1.2.1).bind fun y3=>some (z1.1,z1.2.1,z1.2.2.1,!y3,()))).bind fun z4=>cond z4.2.2.2.1 (some ([],6)) (cond (lim (a01 z4.1)) ((y0s a7G (z4.2.2.1,z4.2.1,(z4.2.1.length:Int),0,z4.1,())).bind fun w8=>match w8 with |.inl a9=>some (a9.1,0) |.inr b10=>some (b10.2.1,b10.1)) none))
def b6P:FSem:=⟨[.v QL,.v QL,.v QI],[.o QI,.v QI],a9Y⟩
def d5k:Hints:=⟨[(250,[2,.sv 34 QL,35,36,.own 8 8 QI],[Qe 0 [.own 8 8 QI],Qr [7,.own 6 6 QI]])],[(6,[Qn [.sv 0 QL,.sv 1 QL,2,.sv 23 .bool]]),(14,[Qn [.sv 0 QL,.sv 1 QL,2,.sv 31 .bool]])],[]⟩
def a5b(x:Int):Option Bool:=cond (decide (x≥(-1073741824))) (some (decide (x<1073741824))) (some false)
def a9t:FSem:=⟨[.v QI],[.v .bool],a5b⟩
def a2U(s:Z13):Option Z68:=cond (decide (s.2.2.1<s.2.1)) ((m0k s.1 s.2.2.1).bind fun x1=>(a5b x1).bind fun y2=>cond (!y2) (some (.inr (Sum.inr ((false,()))))) (some (.inl (s.1,s.2.1,wrap .i64 (s.2.2.1+1),())))) (some (.inr (Sum.inl ())))
def a2t(x:LI):Option Bool:=(y0s a2U (x,(x.length:Int),0,())).bind fun w3=>match w3 with |.inl a4=>some true |.inr b5=>some b5.1
def a6D:FSem:=⟨[.v QL],[.v .bool],a2t⟩
def d5l:Hints:=⟨[(26,[.sv 5 QL,6,7],[Qe 0 [],Qr [.sv 2 .bool]])],[],[]⟩
def a2V(s:Z72):Option (Z72 ⊕ (Int×Int×Unit)):=cond (decide (s.2.2.2.2.2.1<s.2.2.2.2.1)) ((m0k s.2.2.2.1 s.2.2.2.2.2.1).bind fun x1=>cond (decide ((wrap .i64 ((wrap .i64 ((s.1.length:Int)-1))-s.2.2.2.2.2.1))<0)) (some (.inr (s.2.1,s.2.2.1,()))) ((m0k s.1 (wrap .i64 ((wrap .i64 ((s.1.length:Int)-1))-s.2.2.2.2.2.1))).bind fun x2=>some (.inl (s.1,s.2.1,wrap .i64 (s.2.2.1+(wrap .i64 (x1*x2))),s.2.2.2.1,s.2.2.2.2.1,wrap .i64 (s.2.2.2.2.2.1+1),())))) (some (.inr (s.2.1,s.2.2.1,())))
def a4z(x:Z9):Option Int:=(y0s a2V (x.1,x.2.2,0,x.2.1,(x.2.1.length:Int),0,())).bind fun w3=>cond (decide (w3.1<0)) none (some (A0o .i64 w3.2.1 w3.1))
def a9E:FSem:=⟨[.v QL,.v QL,.v QI],[.v QI],a4z⟩
def d5m:Hints:=⟨[(58,[.sv 0 QL,2,7,.sv 11 QL,12,13],[Qe 0 [2,7]])],[],[]⟩
def a6E(s:(LI×Z57)):Option ((LI×Z57) ⊕ Z47):=cond (decide (s.2.2.2.2.1<s.2.2.2.1)) ((m0k s.2.2.1 s.2.2.2.2.1).bind fun x6=>(a4z (s.2.2.2.2.2.1,s.1,s.2.1)).bind fun y7=>(a5b (wrap .i64 (y7+x6))).bind fun y8=>cond (!y8) (some (.inr (Sum.inr ((6,[],()))))) (cond (lim ((a01 s.2.2.2.2.2.1)+1)) (some (.inl (s.1,s.2.1,s.2.2.1,s.2.2.2.1,wrap .i64 (s.2.2.2.2.1+1),a03 s.2.2.2.2.2.1 [wrap .i64 (y7+x6)],()))) none)) (some (.inr (Sum.inl (s.2.2.2.2.2.1,()))))
def a7b(x:(LI×Z9)):Option (LI×Int):=(show Option (LI×Z48)from(a4x (x.2.2.1,x.2.2.2)).bind fun y1=>cond (!y1) (some (x.1,x.2.1,x.2.2.1,x.2.2.2,true,())) (some (x.1,x.2.1,x.2.2.1,x.2.2.2,(x.1.length:Int) != (x.2.2.1.length:Int),()))).bind fun z2=>cond z2.2.2.2.2.1 (some ([],1)) ((show Option (LI×Z48)from(a2t z2.1).bind fun y3=>cond (!y3) (some (z2.1,z2.2.1,z2.2.2.1,z2.2.2.2.1,true,())) ((a2t z2.2.1).bind fun y4=>some (z2.1,z2.2.1,z2.2.2.1,z2.2.2.2.1,!y4,()))).bind fun z5=>cond z5.2.2.2.2.1 (some ([],6)) (cond ((decide (0≤(wrap .i64 ((z5.1.length:Int)+(z5.2.1.length:Int)))))&&(lim (a00 (wrap .i64 ((z5.1.length:Int)+(z5.2.1.length:Int)))))) (cond (lim (0+(a01 z5.1))) ((y0s a6E (z5.2.2.1,z5.2.2.2.1,z5.2.1,(z5.2.1.length:Int),0,a03 [] z5.1,())).bind fun w9=>match w9 with |.inl a10=>some (a10.1,0) |.inr b11=>some (b11.2.1,b11.1)) none) none))
def b6w:FSem:=⟨[.v QL,.v QL,.v QL,.v QI],[.o QI,.v QI],a7b⟩
def d5n:Hints:=⟨[(506,[.sv 2 QL,3,.sv 42 QL,43,44,.own 10 10 QI],[Qe 0 [.own 10 10 QI],Qr [9,.own 8 8 QI]])],[(6,[Qn [.sv 0 QL,.sv 1 QL,.sv 2 QL,3,.sv 24 .bool]]),(14,[Qn [.sv 0 QL,.sv 1 QL,.sv 2 QL,3,.sv 32 .bool]])],[]⟩
def a7u(x:Int):Option Bool:=cond (decide (x≥(-1073741824))) (some (decide (x<1073741824))) (some false)
def b1J:FSem:=⟨[.v QI],[.v .bool],a7u⟩
def a3P(s:Z13):Option Z68:=cond (decide (s.2.2.1<s.2.1)) ((m0k s.1 s.2.2.1).bind fun x1=>(a7u x1).bind fun y2=>cond (!y2) (some (.inr (Sum.inr ((false,()))))) (some (.inl (s.1,s.2.1,wrap .i64 (s.2.2.1+1),())))) (some (.inr (Sum.inl ())))
def a4o(x:LI):Option Bool:=(y0s a3P (x,(x.length:Int),0,())).bind fun w3=>match w3 with |.inl a4=>some true |.inr b5=>some b5.1
def a8s:FSem:=⟨[.v QL],[.v .bool],a4o⟩
def d5o:Hints:=⟨[(26,[.sv 5 QL,6,7],[Qe 0 [],Qr [.sv 2 .bool]])],[],[]⟩
def a3Q(s:(LI×(Int×Int×Z15))):Option ((LI×(Int×Int×Z15)) ⊕ (Int×Unit)):=cond (decide (s.2.2.2.2.2.1<3)) ((m0k s.2.2.2.2.1 s.2.2.2.2.2.1).bind fun x1=>cond (decide ((wrap .i64 ((wrap .i64 ((wrap .i64 (s.2.1-s.2.2.1))-1))+s.2.2.2.2.2.1))≥0)) ((m0k s.1 (wrap .i64 ((wrap .i64 ((wrap .i64 (s.2.1-s.2.2.1))-1))+s.2.2.2.2.2.1))).bind fun x2=>some (.inl (s.1,s.2.1,s.2.2.1,wrap .i64 (s.2.2.2.1+(wrap .i64 (x1*x2))),s.2.2.2.2.1,wrap .i64 (s.2.2.2.2.2.1+1),()))) (some (.inl (s.1,s.2.1,s.2.2.1,s.2.2.2.1,s.2.2.2.2.1,wrap .i64 (s.2.2.2.2.2.1+1),())))) (some (.inr (s.2.2.2.1,())))
def a4p(x:(LI×Z2)):Option Int:=(y0s a3Q (x.1,x.2.1,x.2.2.1,0,x.2.2.2,0,())).bind fun w3=>some (A0o .i64 w3.1 6)
def b1m:FSem:=⟨[.v QL,.v QI,.v QI,.v (.arr 3 QI)],[.v QI],a4p⟩
def d5p:Hints:=⟨[(58,[.sv 0 QL,1,2,9,.sv 13 (.arr 3 QI),14],[Qe 0 [9]])],[],[]⟩
def a8t(s:Z83):Option (Z83 ⊕ Z47):=cond (decide (s.2.2.2.1<s.2.2.1)) ((m0k s.2.1 s.2.2.2.1).bind fun x3=>(a4p (s.2.2.2.2.1,s.2.2.2.1,s.1,s.2.2.2.2.2.1)).bind fun y4=>(a7u (wrap .i64 (x3+y4))).bind fun y5=>cond (!y5) (some (.inr (Sum.inr ((6,[],()))))) (cond (lim ((a01 s.2.2.2.2.1)+1)) (some (.inl (s.1,s.2.1,s.2.2.1,wrap .i64 (s.2.2.2.1+1),a03 s.2.2.2.2.1 [wrap .i64 (x3+y4)],s.2.2.2.2.2.1,()))) none)) (some (.inr (Sum.inl (s.2.2.2.2.1,()))))
def b1K(x:(LI×(Int×LI))):Option (LI×Int):=(a8r (x.2.1,x.2.2)).bind fun y1=>cond (!y1) (some ([],1)) ((a4o x.1).bind fun y2=>cond (!y2) (some ([],6)) (cond ((decide (0≤(x.1.length:Int)))&&(lim (a00 (x.1.length:Int)))) ((y0s a8t (x.2.1,x.1,(x.1.length:Int),0,[],x.2.2,())).bind fun w6=>match w6 with |.inl a7=>some (a7.1,0) |.inr b8=>some (b8.2.1,b8.1)) none))
def b7T:FSem:=⟨[.v QL,.v QI,.v (.arr 3 QI)],[.o QI,.v QI],b1K⟩
def d5q:Hints:=⟨[(250,[1,.sv 22 QL,23,24,.own 8 8 QI,.vp 5 (.arr 3 QI)],[Qe 0 [.own 8 8 QI],Qr [7,.own 6 6 QI]])],[],[]⟩
def a6g(x:Int):Option Bool:=cond (decide (x≥(-1073741824))) (some (decide (x<1073741824))) (some false)
def a9Z:FSem:=⟨[.v QI],[.v .bool],a6g⟩
def a3l(s:Z13):Option Z68:=cond (decide (s.2.2.1<s.2.1)) ((m0k s.1 s.2.2.1).bind fun x1=>(a6g x1).bind fun y2=>cond (!y2) (some (.inr (Sum.inr ((false,()))))) (some (.inl (s.1,s.2.1,wrap .i64 (s.2.2.1+1),())))) (some (.inr (Sum.inl ())))
def a5l(x:LI):Option Bool:=(y0s a3l (x,(x.length:Int),0,())).bind fun w3=>match w3 with |.inl a4=>some true |.inr b5=>some b5.1
def b0A:FSem:=⟨[.v QL],[.v .bool],a5l⟩
def d5r:Hints:=⟨[(26,[.sv 5 QL,6,7],[Qe 0 [],Qr [.sv 2 .bool]])],[],[]⟩
def a9e(x:(Int×Int×Unit)):Option (Z23×Int):=(a7a x).bind fun y1=>cond (!y1) none (cond ((decide (0≤x.1))&&((decide (x.1≤x.1))&&(lim (a00 x.1)))) (cond ((decide (0≤x.1))&&((decide (x.1≤x.1))&&(lim (a00 x.1)))) (some ((x.2.1,a02 (a00 x.1) 0,a02 (a00 x.1) 0,()),0)) none) none)
def b4J:FSem:=⟨[.v Q3],[.b Q17,.v QI],a9e⟩
def d5s:Hints:=⟨[],[],[(3,[.v,.v,.v,.v,.q,.v,.v,.q,.x,.x,.x,.x])]⟩
def a5m(x:Int):Option Int:=some (v0s (v0r x (-1073741824)) 1073741823)
def b0B:FSem:=⟨[.v QI],[.v QI],a5m⟩
def a2T(s:Z86):Option (Z86 ⊕ Z62):=cond (decide (s.2.2.1<s.2.1)) (cond ((decide (0≤s.2.2.1))&&(decide (s.2.2.1<(s.2.2.2.1.2.1.length:Int)))) (cond ((decide (0≤s.2.2.1))&&(decide (s.2.2.1<(s.2.2.2.1.2.2.1.length:Int)))) (some (.inl (wrap .i64 (s.1+(wrap .i64 ((a04 s.2.2.2.1.2.1 (a00 s.2.2.1) 0)*(a04 s.2.2.2.1.2.2.1 (a00 s.2.2.1) 0)))),s.2.1,wrap .i64 (s.2.2.1+1),s.2.2.2.1,()))) none) none) (some (.inr (s.1,s.2.2.2.1,())))
def a1U(x:Z23):Option Z41:=(y0s a2T (0,(x.2.1.length:Int),0,x,())).bind fun w1=>(a5m (A0o .i64 w1.1 16)).bind fun y2=>some (y2,w1.2.1)
def a3U:FSem:=⟨[.r false (.b Q17)],[.v QI],a1U⟩
def d5t:Hints:=⟨[(58,[3,10,11,.box pinned Q17,Qp 0 pinned,.ref 9 pinned [.snd,.fst]],[Qe 0 [3,.box pinned Q17]])],[],[]⟩
def a2n(s:(Int×Z86)):Option ((Int×Z86) ⊕ Z62):=cond (decide (s.2.2.2.1<s.2.2.1)) (cond ((decide (0≤s.2.2.2.1))&&(decide (s.2.2.2.1<(s.2.2.2.2.1.2.2.1.length:Int)))) (cond ((decide (0≤s.2.2.2.1))&&(decide (s.2.2.2.1<(s.2.2.2.2.1.2.1.length:Int)))) ((show Option (Int×Int×Int×Z86)from cond (decide ((a04 s.2.2.2.2.1.2.2.1 (a00 s.2.2.2.1) 0) > 0)) (some (s.1,s.2.1,s.2.2.2.1,wrap .i64 ((a04 s.2.2.2.2.1.2.1 (a00 s.2.2.2.1) 0)+s.2.1),s.2.2.1,s.2.2.2.1,s.2.2.2.2.1,())) (cond (decide ((a04 s.2.2.2.2.1.2.2.1 (a00 s.2.2.2.1) 0)<0)) (some (s.1,s.2.1,s.2.2.2.1,wrap .i64 ((a04 s.2.2.2.2.1.2.1 (a00 s.2.2.2.1) 0)-s.2.1),s.2.2.1,s.2.2.2.1,s.2.2.2.2.1,())) (some (s.1,s.2.1,s.2.2.2.1,a04 s.2.2.2.2.1.2.1 (a00 s.2.2.2.1) 0,s.2.2.1,s.2.2.2.1,s.2.2.2.2.1,())))).bind fun z4=>cond ((decide (0≤z4.2.2.1))&&(decide (z4.2.2.1<(z4.2.2.2.2.2.2.1.2.1.length:Int)))) (some (.inl (z4.1,z4.2.1,z4.2.2.2.2.1,wrap .i64 (z4.2.2.2.2.2.1+1),(z4.2.2.2.2.2.2.1.1,a09 z4.2.2.2.2.2.2.1.2.1 (a00 z4.2.2.1) (v0s (v0r z4.2.2.2.1 (-1048576)) 1048576),z4.2.2.2.2.2.2.1.2.2),()))) none) none) none) (some (.inr (s.1,s.2.2.2.2.1,())))
def a2W(x:(Z23×Int)):Option Z23:=(a5m x.2).bind fun y1=>(show Option Z76 from(a1U x.1).bind fun y2=>cond (decide (y1 > y2.1)) (cond (decide (y2.2.1<0)) none (some (y1,A0n .i64 1 y2.2.1,y2.2,()))) (cond (decide (y1<y2.1)) (cond (decide (y2.2.1<0)) none (some (y1,wrap .i64 (0-(A0n .i64 1 y2.2.1)),y2.2,()))) (some (y1,0,y2.2,())))).bind fun z3=>(y0s a2n (z3.1,z3.2.1,(z3.2.2.1.2.2.1.length:Int),0,z3.2.2.1,())).bind fun w5=>cond (decide (1≤(w5.2.1.2.2.1.length:Int))) (cond (decide (0<(a01 (p0h w5.2.1.2.2.1 1 ((a01 w5.2.1.2.2.1)-1) w5.2.1.2.2.1):Int))) (some (w5.2.1.1,w5.2.1.2.1,a09 (p0h w5.2.1.2.2.1 1 ((a01 w5.2.1.2.2.1)-1) w5.2.1.2.2.1) 0 w5.1,w5.2.1.2.2.2)) none) none
def a7C:FSem:=⟨[.r false (.b Q17),.v QI],[],a2W⟩
def d5u:Hints:=⟨[(122,[1,4,36,37,.box pinned Q17,Qp 0 pinned,.ref 35 pinned [.snd,.snd,.fst]],[Qe 1 [1,.box pinned Q17,Qp 0 pinned]])],[(7,[Qn [1,4,.box pinned Q17,Qp 0 pinned]]),(15667,[Qn [1,4,6,8,36,37,.box pinned Q17,Qp 0 pinned,.ref 35 pinned [.snd,.snd,.fst]]])],[(17,[.p,.p,.q,.q,.q,.p,.p,.q,.q,.x])]⟩
def a5n(s:(Int×(Int×(LI×Z84)))):Option ((Int×(Int×(LI×Z84))) ⊕ (Z24 ⊕ Z24)):=cond (decide (s.2.1<s.1)) (cond ((decide (0≤s.2.1))&&(decide (s.2.1<(s.2.2.2.2.1.length:Int)))) ((a1U s.2.2.2.2.2.1).bind fun y6=>(a6g (wrap .i64 (y6.1+(a04 s.2.2.2.2.1 (a00 s.2.1) 0)))).bind fun y7=>cond (!y7) (some (.inr (Sum.inr (([],6,s.2.2.2.2.1,()))))) ((a2W (y6.2,wrap .i64 (y6.1+(a04 s.2.2.2.2.1 (a00 s.2.1) 0)))).bind fun y8=>cond ((decide (0≤s.2.1))&&(decide (s.2.1<(s.2.2.2.2.1.length:Int)))) (some (.inl (s.1,wrap .i64 (s.2.1+1),s.2.2.1,s.2.2.2.1,a09 s.2.2.2.2.1 (a00 s.2.1) (wrap .i64 (y6.1+(a04 s.2.2.2.2.1 (a00 s.2.1) 0))),y8,()))) none)) none) (some (.inr (Sum.inl (s.2.2.1,s.2.2.2.1,s.2.2.2.2.1,()))))
def a7H(k:Int)(v:(Int×Int×Unit))(s:(Z4×Z24)):Option ((Z4×Z24) ⊕ (Ex×Z4×Z24)):=(a9e v).bind fun y4=>cond (y4.2 != 0) (some (.inr (.ret,s.1,[],y4.2,s.2.2.2.1,()))) ((y0s a5n ((s.2.2.2.1.length:Int),0,s.2.1,s.2.2.1,s.2.2.2.1,y4.1,())).bind fun w9=>match w9 with |.inl a10=>some (.inl (s.1,a10.1,a10.2.1,a10.2.2.1,())) |.inr b11=>some (.inr (.ret,s.1,b11.1,b11.2.1,b11.2.2.1,())))
def b0C(x:(LI×Z4)):Option (LI×Int):=(a7s x.2).bind fun y1=>cond (!y1) (some ([],1)) ((a5l x.1).bind fun y2=>cond (!y2) (some ([],6)) ((a1d x.1).bind fun y3=>cond (lim (a01 x.2)) ((l0f a7H x.2 (a01 x.2) (x.2,[],0,y3,())).bind fun w12=>match w12 with |.inl a13=>some (a13.2.2.2.1,0) |.inr (.normal,a14)=>some (a14.2.2.2.1,0) |.inr (.exit e15,a14)=>(cond (e15==0) (some (a14.2.2.2.1,0)) none) |.inr (.ret,a14)=>some (a14.2.1,a14.2.2.1)) none))
def a7V:FSem:=⟨[.v QL,.v (.list false Q3)],[.v QL,.v QI],b0C⟩
def d5v:Hints:=⟨[(8046,[35,36,.box 1001004 QL,.box 1001005 QI,.box 1001006 (.list true QI),.box 1028 Q17,Qp 4 1001004,Qp 5 1001005,Qp 6 1001006,Qp 9 1028,.ref 34 1001006 []],[Qe 2 [.box 1001004 QL,.box 1001005 QI,.box 1001006 (.list true QI),Qp 4 1001004,Qp 5 1001005,Qp 6 1001006],Qr [.box 1001004 QL,.box 1001005 QI,.box 1001006 (.list true QI),Qp 4 1001004,Qp 5 1001005,Qp 6 1001006]])],[],[]⟩
def c9y:Cx:=a9T [(183,a1a),(213,b1G),(296,b0A),(298,b4J),(299,a3U),(300,a9Z),(301,a7C)] [(6,.list true QI)] [0,1,9,10,11,12,13] [56]
def d1Q:HintR:=⟨22,Q3,297,326,[4,5,6],[.sv 22 (.list false Q3),.box 1001004 QL,.box 1001005 QI,.box 1001006 (.list true QI),.ptr 4 1001004 [],.ptr 5 1001005 [],.ptr 6 1001006 []]⟩
theorem d2Q(x):z0h c9y d5v d1Q Tryz.f240 a7V.ps a7V.rs x=a7V.F x:=by kernel_rfl
def a5c(x:Int):Option Bool:=cond (decide ((-1073741824)≤x)) (some (decide (x<1073741824))) (some false)
def b2E:FSem:=⟨[.v QI],[.v .bool],a5c⟩
def a8u(s:Z57):Option (Z57 ⊕ Z47):=cond (decide (s.2.2.2.1<s.2.2.1)) ((m0k s.2.1 s.2.2.2.1).bind fun x2=>(show Option (Int×(Int×(LI×(Int×(Int×(Bool×(LI×Unit)))))))from(a5c x2).bind fun y3=>cond (!y3) (some (s.1,x2,s.2.1,s.2.2.1,s.2.2.2.1,true,s.2.2.2.2.1,())) (cond (decide (s.1<0)) none ((a5c (A0n .i64 x2 s.1)).bind fun y4=>some (s.1,x2,s.2.1,s.2.2.1,s.2.2.2.1,!y4,s.2.2.2.2.1,())))).bind fun z5=>cond z5.2.2.2.2.2.1 (some (.inr (Sum.inr ((6,[],()))))) (cond (decide (z5.1<0)) none (cond (lim ((a01 z5.2.2.2.2.2.2.1)+1)) (some (.inl (z5.1,z5.2.2.1,z5.2.2.2.1,wrap .i64 (z5.2.2.2.2.1+1),a03 z5.2.2.2.2.2.2.1 [A0n .i64 z5.2.1 z5.1],()))) none))) (some (.inr (Sum.inl (s.2.2.2.2.1,()))))
def a9f(x:(LI×Int)):Option (LI×Int):=(show Option Z16 from cond (decide (x.2<0)) (some (x.1,x.2,true,())) (some (x.1,x.2,decide (x.2 > 30),()))).bind fun z1=>cond z1.2.2.1 (some ([],1)) ((y0s a8u (z1.2.1,z1.1,(z1.1.length:Int),0,[],())).bind fun w6=>match w6 with |.inl a7=>some (a7.1,0) |.inr b8=>some (b8.2.1,b8.1))
def b7U:FSem:=⟨[.v QL,.v QI],[.o QI,.v QI],a9f⟩
def d5w:Hints:=⟨[(122,[1,.sv 15 QL,16,17,.own 6 6 QI],[Qe 0 [.own 6 6 QI],Qr [5,.own 4 4 QI]])],[(6,[Qn [.sv 0 QL,1,.sv 14 .bool]]),(15666,[Qn [1,8,.sv 15 QL,16,17,.sv 30 .bool,.own 6 6 QI]])],[]⟩
def a7c(s:(Int×(Int×(LI×b5H)))):Option ((Int×(Int×(LI×b5H))) ⊕ (LI×Unit)):=cond (decide (s.2.1<s.1)) ((m0k s.2.2.2.1.2.2.2.2.2.2.2.2.1 0).bind fun x1=>cond (lim ((a01 s.2.2.1)+1)) (some (.inl (s.1,wrap .i64 (s.2.1+1),a03 s.2.2.1 [x1],s.2.2.2.1,()))) none) (some (.inr (s.2.2.1,())))
def b2V(x:b4G):Option (LI×Int):=(show Option ((LI×(Int×b5H)) ⊕ Z5)from cond (x.1.1==0) ((y0s a7c (x.2,0,[],x.1,())).bind fun w2=>some (Sum.inr ((0,w2.1,())))) (cond (x.1.1==1) (some (Sum.inl (x.1.2.2.2.2.2.2.2.2.1,0,x.1,()))) (cond (x.1.1==2) ((a9Y (x.1.2.2.2.2.2.2.2.2.1,x.1.2.2.2.2.2.2.2.2.2.2.1,x.1.2.2.1)).bind fun y3=>some (Sum.inl (y3.1,y3.2,x.1,()))) (cond (x.1.1==3) ((a7b (x.1.2.2.2.2.2.2.2.2.1,x.1.2.2.2.2.2.2.2.2.2.2.1,x.1.2.2.2.2.2.1,x.1.2.2.2.1)).bind fun y4=>some (Sum.inl (y4.1,y4.2,x.1,()))) (cond (x.1.1==4) ((a7b (x.1.2.2.2.2.2.2.2.2.1,x.1.2.2.2.2.2.2.2.2.2.2.1,x.1.2.2.2.2.2.1,x.1.2.2.2.1)).bind fun y5=>cond (y5.2==0) ((b1K (y5.1,x.1.2.2.2.2.1,x.1.2.2.2.2.2.2.1)).bind fun y6=>some (Sum.inl (y6.1,y6.2,x.1,()))) (some (Sum.inl (y5.1,y5.2,x.1,())))) (cond (x.1.1==5) ((b0C (x.1.2.2.2.2.2.2.2.2.2.2.1,x.1.2.2.2.2.2.2.2.1)).bind fun y7=>some (Sum.inl (y7.1,y7.2,x.1,()))) (some (Sum.inl ([],0,x.1,()))))))))).bind fun z8=>match z8 with |.inl a9=>(cond (a9.2.1 != 0) (some ([],a9.2.1)) ((a9f (a9.1,a9.2.2.1.2.1)).bind fun y11=>some (y11.1,y11.2))) |.inr b10=>some (b10.2.1,b10.1)
def b9p:FSem:=⟨[.v Q42,.v QI],[.o QI,.v QI],b2V⟩
def d5x:Hints:=⟨[(3922,[12,13,.own 6 6 QI,.vp 2 Q42],[Qe 1 [.own 6 6 QI]])],[(15,[Qn [.sv 6 QL,7,.vp 2 Q42],Qr [5,.own 4 6 QI]])],[]⟩
def b2l(x:b4G):Option (LI×Int):=(a9X (x.1,x.2)).bind fun y1=>cond (!y1) (some ([],1)) ((b2V (x.1,x.2)).bind fun y2=>cond (y2.2 != 0) (some ([],1)) (some (y2.1,0)))
def b6Q:FSem:=⟨[.v Q42,.v QI],[.o QI,.v QI],b2l⟩
def a9g(x:Int):Option Bool:=cond (decide ((-1073741824)≤x)) (some (decide (x<1073741824))) (some false)
def b4K:FSem:=⟨[.v QI],[.v .bool],a9g⟩
def a4q(s:((List LI)×((List LI)×Z49))):Option (((List LI)×((List LI)×Z49)) ⊕ (((List LI)×Z25) ⊕ (Bool×Unit))):=cond (decide (s.2.2.2.2.2.2.1<s.2.2.2.2.2.1)) ((m0k s.2.2.2.2.1 s.2.2.2.2.2.2.1).bind fun x5=>(a9g x5).bind fun y6=>cond (!y6) (some (.inr (Sum.inr ((false,()))))) (some (.inl (s.1,s.2.1,s.2.2.1,s.2.2.2.1,s.2.2.2.2.1,s.2.2.2.2.2.1,wrap .i64 (s.2.2.2.2.2.2.1+1),())))) (some (.inr (Sum.inl (s.1,s.2.1,s.2.2.1,s.2.2.2.1,()))))
def a4r(s:((List LI)×Z25)):Option (((List LI)×Z25) ⊕ Z0):=cond (decide (s.2.2.2.1<s.2.2.1)) ((m0k s.2.1 s.2.2.2.1).bind fun x3=>(m0k s.1 0).bind fun x4=>cond ((x3.length:Int) != (x4.length:Int)) (some (.inr (Sum.inr ((false,()))))) ((y0s a4q (s.1,s.2.1,s.2.2.1,s.2.2.2.1,x3,(x3.length:Int),0,())).bind fun w7=>match w7 with |.inl a8=>some (.inl (a8.1,a8.2.1,a8.2.2.1,wrap .i64 (a8.2.2.2.1+1),())) |.inr b9=>some (.inr (Sum.inr ((b9.1,())))))) (some (.inr (Sum.inl ())))
def a7v(x:(List LI)):Option Bool:=(show Option ((List LI)×(Bool×Unit))from cond (decide ((x.length:Int)<1)) (some (x,true,())) (cond (decide ((x.length:Int) > 8)) (some (x,true,())) ((m0k x 0).bind fun x1=>some (x,decide ((x1.length:Int) > 4096),())))).bind fun z2=>cond z2.2.1 (some false) ((y0s a4r (z2.1,z2.1,(z2.1.length:Int),0,())).bind fun w10=>match w10 with |.inl a11=>some true |.inr b12=>some b12.1)
def b1L:FSem:=⟨[.v (.list false QL)],[.v .bool],a7v⟩
def d5y:Hints:=⟨[(58,[.sv 0 (.list false QL),.sv 22 (.list false QL),23,24],[Qe 0 [],Qr [.sv 2 .bool]]),(29902,[.sv 0 (.list false QL),.sv 22 (.list false QL),23,24,.sv 35 QL,36,37],[Qe 2 [.sv 0 (.list false QL),.sv 22 (.list false QL),23,24],Qr [.sv 2 .bool]])],[(6,[Qn [.sv 0 (.list false QL),.sv 21 .bool]])],[]⟩
def a6F(s:((List LI)×Z26)):Option (((List LI)×Z26) ⊕ Z1):=cond (decide (s.2.2.1<s.2.1)) ((m0k s.1 s.2.2.1).bind fun x1=>(a1d x1).bind fun y2=>cond (lim ((a01 s.2.2.2.1)+(a01 (a09 ([[]]:List LI) 0 y2)))) (some (.inl (s.1,s.2.1,wrap .i64 (s.2.2.1+1),a03 s.2.2.2.1 (a09 ([[]]:List LI) 0 y2),()))) none) (some (.inr (s.2.2.2.1,())))
def a7d(x:(List LI)):Option (List LI):=(y0s a6F (x,(x.length:Int),0,([]:(List LI)),())).bind fun w3=>some w3.1
def b2F:FSem:=⟨[.v (.list false QL)],[.o (.list true QI)],a7d⟩
def d5z:Hints:=⟨[(58,[.sv 6 (.list false QL),7,8,.own 3 3 (.list true QI)],[Qe 0 [.own 3 3 (.list true QI)]])],[],[]⟩
def a3w(s:(Int×(Int×(Int×((List LI)×(Z7×Int×Unit)))))):Option ((Int×(Int×(Int×((List LI)×(Z7×Int×Unit))))) ⊕ (Z1 ⊕ (Bool×Z1))):=cond (decide (s.2.2.1<s.2.1)) (cond ((decide (0≤s.2.2.1))&&(decide (s.2.2.1<((a01 (a04 s.2.2.2.1 (a00 s.2.2.2.2.2.1) []):Nat):Int)))) (cond ((decide (0≤s.2.2.2.2.1.2.1))&&(decide (s.2.2.2.2.1.2.1<(s.2.2.2.1.length:Int)))) (cond ((decide (0≤s.2.2.1))&&(decide (s.2.2.1<((a01 (a04 s.2.2.2.1 (a00 s.2.2.2.2.1.2.1) []):Nat):Int)))) ((a9g (wrap .i64 ((a04 (a04 s.2.2.2.1 (a00 s.2.2.2.2.1.2.1) []) (a00 s.2.2.1) 0)+(wrap .i64 (s.1*(A0o .i64 (wrap .i64 (s.2.2.2.2.1.2.2.1*(a04 (a04 s.2.2.2.1 (a00 s.2.2.2.2.2.1) []) (a00 s.2.2.1) 0))) 8)))))).bind fun y1=>cond (!y1) (some (.inr (Sum.inr ((false,s.2.2.2.1,()))))) (cond ((decide (0≤s.2.2.2.2.1.2.1))&&(decide (s.2.2.2.2.1.2.1<(s.2.2.2.1.length:Int)))) (cond ((decide (0≤s.2.2.1))&&(decide (s.2.2.1<((a01 (a04 s.2.2.2.1 (a00 s.2.2.2.2.1.2.1) []):Nat):Int)))) (some (.inl (s.1,s.2.1,wrap .i64 (s.2.2.1+1),a09 s.2.2.2.1 (a00 s.2.2.2.2.1.2.1) (a09 (a04 s.2.2.2.1 (a00 s.2.2.2.2.1.2.1) []) (a00 s.2.2.1) (wrap .i64 ((a04 (a04 s.2.2.2.1 (a00 s.2.2.2.2.1.2.1) []) (a00 s.2.2.1) 0)+(wrap .i64 (s.1*(A0o .i64 (wrap .i64 (s.2.2.2.2.1.2.2.1*(a04 (a04 s.2.2.2.1 (a00 s.2.2.2.2.2.1) []) (a00 s.2.2.1) 0))) 8)))))),s.2.2.2.2.1,((a00 s.2.2.2.2.2.1:Nat):Int),()))) none) none)) none) none) none) (some (.inr (Sum.inl (s.2.2.2.1,()))))
def a7W(x:((List LI)×(Z7×Int))):Option (Bool×(List LI)):=cond ((decide (0≤x.2.1.1))&&(decide (x.2.1.1<(x.1.length:Int)))) ((y0s a3w (x.2.2,((a01 (a04 x.1 (a00 x.2.1.1) []):Nat):Int),0,x.1,x.2.1,((a00 x.2.1.1:Nat):Int),())).bind fun w2=>match w2 with |.inl a3=>some (true,a3.1) |.inr b4=>some (b4.1,b4.2.1)) none
def b3y:FSem:=⟨[.r false (.o (.list true QI)),.v Q12,.v QI],[.v .bool],a7W⟩
def d5A:Hints:=⟨[(26,[2,15,16,.own 0 pinned (.list true QI),.vp 4 Q12,.rfi 14 pinned],[Qe 0 [.own 0 pinned (.list true QI)],Qr [.sv 6 .bool,.own 0 pinned (.list true QI)]])],[],[(4,[.q,.v,.v,.q,.q,.v,.q,.q,.v,.v,.v,.v,.v,.v,.v,.x,.x])]⟩
def a6h(k:Int)(v:Z7)(s:(Z12×((List LI)×Z10))):Option ((Z12×((List LI)×Z10)) ⊕ (Ex×(Z12×((List LI)×Z10)))):=(a7W (s.2.2.2.1,v,(-1))).bind fun y5=>cond (!y5.1) (some (.inr (.ret,s.1,([]:(List LI)),6,y5.2,()))) (some (.inl (s.1,s.2.1,s.2.2.1,y5.2,())))
def b1M(x:((List LI)×Z12)):Option ((List LI)×Int):=(show Option ((List LI)×(Z12×(Bool×((List LI)×(Int×Unit)))))from(a7v x.1).bind fun y1=>cond (!y1) (some (x.1,x.2,true,([]:(List LI)),0,())) ((a8q (x.2,(x.1.length:Int))).bind fun y2=>some (x.1,x.2,!y2,([]:(List LI)),0,()))).bind fun z3=>cond z3.2.2.1 (some (([]:(List LI)),1)) ((a7d z3.1).bind fun y4=>cond (lim (a01 z3.2.1)) ((l0f a6h z3.2.1 (a01 z3.2.1) (z3.2.1,z3.2.2.2.1,z3.2.2.2.2.1,y4,())).bind fun w6=>match w6 with |.inl a7=>some (a7.2.2.2.1,0) |.inr (.normal,a8)=>some (a8.2.2.2.1,0) |.inr (.exit e9,a8)=>(cond (e9==0) (some (a8.2.2.2.1,0)) none) |.inr (.ret,a8)=>some (a8.2.1,a8.2.2.1)) none)
def a9h:FSem:=⟨[.v (.list false QL),.v (.list false Q12)],[.v (.list false QL),.v QI],b1M⟩
def d5B:Hints:=⟨[],[(6,[Qn [.sv 0 (.list false QL),.sv 1 (.list false Q12),.sv 18 .bool,.box 4 (.list false QL),.box 5 QI,Qp 4 4,Qp 5 5]])],[]⟩
def c9z:Cx:=a9T [(113,b1L),(114,b2T),(115,b2F),(116,b3y)] [(6,.list true (.list true QI))] [0,1] [29]
def d1R:HintR:=⟨21,Q12,186,242,[4,5,6],[.sv 21 (.list false Q12),.box 1001004 (.list false QL),.box 1001005 QI,.box 1001006 (.list true (.list true QI)),.ptr 4 1001004 [],.ptr 5 1001005 [],.ptr 6 1001006 []]⟩
theorem d2R(x):z0h c9z d5B d1R Tryz.f107 a9h.ps a9h.rs x=a9h.F x:=by kernel_rfl
def a4A(s:(b2y×(Int×(Int×((List LI)×c2X))))):Option ((b2y×(Int×(Int×((List LI)×c2X)))) ⊕ (((List LI)×c2X) ⊕ Z45)):=cond (decide (s.2.2.1<s.2.1)) ((m0k s.1 s.2.2.1).bind fun x3=>(b2l (x3,s.2.2.2.2.2.1.2.1)).bind fun y4=>cond (y4.2 != 0) (some (.inr (Sum.inr ((1,(0,([]:(List LI)),()),()))))) (cond (lim ((a01 s.2.2.2.1)+1)) (some (.inl (s.1,s.2.1,wrap .i64 (s.2.2.1+1),a03 s.2.2.2.1 ([y4.1]:List LI),s.2.2.2.2.1,s.2.2.2.2.2.1,()))) none)) (some (.inr (Sum.inl (s.2.2.2.1,s.2.2.2.2.1,s.2.2.2.2.2.1,()))))
def a2O(x:a2R):Option Z27:=(show Option (Bool×c2X)from(a6Y x).bind fun y1=>cond (!y1) (some (true,(0,([]:(List LI)),()),x,())) (some ((x.2.2.2.2.1.length:Int) != x.2.2.1.2.1,(0,([]:(List LI)),()),x,()))).bind fun z2=>cond z2.1 (some ((0,([]:(List LI)),()),1)) (cond ((decide (0≤(z2.2.2.1.2.2.2.2.1.length:Int)))&&(lim (a00 (z2.2.2.1.2.2.2.2.1.length:Int)))) ((y0s a4A (z2.2.2.1.2.2.2.2.1,(z2.2.2.1.2.2.2.2.1.length:Int),0,([]:(List LI)),z2.2.1,z2.2.2.1,())).bind fun w5=>match w5 with |.inl a6=>((b1M (a6.1,a6.2.2.1.2.2.2.1)).bind fun y8=>cond (y8.2 != 0) (some ((0,([]:(List LI)),()),1)) ((a4f (a6.2.2.1.2.2.1.2.2.1,y8.1,())).bind fun y9=>cond (!y9) (some ((0,([]:(List LI)),()),1)) (some ((a6.2.2.1.2.2.1.2.2.1,y8.1,()),0)))) |.inr b7=>some (b7.2.1,b7.1)) none)
def a7e:FSem:=⟨[.v Q60],[.v Q15,.v QI],a2O⟩
def H50:Hints:=⟨[(122,[.sv 30 (.list false Q42),31,32,.own 4 4 QL,.box 2 Q15,.vp 1 Q60,Qp 2 2],[Qe 0 [.own 4 4 QL,.box 2 Q15,.vp 1 Q60,Qp 2 2],Qr [3,.box 2 Q15,Qp 2 2]])],[(6,[Qn [.sv 23 .bool,.box 2 Q15,.vp 1 Q60,Qp 2 2]])],[]⟩
def a4h(x:a2R):Option Bool:=(a2O x).bind fun y1=>some (y1.2==0)
def b4L:FSem:=⟨[.v Q60],[.v .bool],a4h⟩
def a9M(x:b4G):Option Bool:=(b2l (x.1,x.2)).bind fun y1=>some (y1.2==0)
def b6R:FSem:=⟨[.v Q42,.v QI],[.v .bool],a9M⟩
def a2I(s:Z49):Option (Z49 ⊕ Z29):=cond (s.2.1 != 0) (cond (decide (s.1<32)) ((a1Q (s.2.1,s.1)).bind fun y2=>cond (!y2) (some (.inl (wrap .i64 (s.1+1),s.2.1,s.2.2.1,s.2.2.2.1,s.2.2.2.2.1,()))) (some (.inr (s.1,s.2.2.1,s.2.2.2.1,s.2.2.2.2.1,())))) (some (.inr (s.1,s.2.2.1,s.2.2.2.1,s.2.2.2.2.1,())))) (some (.inr (s.1,s.2.2.1,s.2.2.2.1,s.2.2.2.2.1,())))
def a5S(s:Z29):Option Z64:=cond (decide (s.2.2.2.1<s.2.2.1)) ((m0k s.2.1 s.2.2.2.1).bind fun x1=>(y0s a2I (s.1,x1,s.2.1,s.2.2.1,s.2.2.2.1,())).bind fun w3=>some (.inl (w3.1,w3.2.1,w3.2.2.1,wrap .i64 (w3.2.2.2.1+1),()))) (some (.inr (s.1,())))
def a1r(x:LI):Option Int:=(y0s a5S (0,x,(x.length:Int),0,())).bind fun w4=>some w4.1
def a2u:FSem:=⟨[.v QL],[.v QI],a1r⟩
def d5C:Hints:=⟨[(58,[3,.sv 6 QL,7,8],[Qe 0 [3]]),(7474,[3,5,.sv 6 QL,7,8],[Qe 2 [3,.sv 6 QL,7,8]])],[],[]⟩
def a2a(x:(Z6×Int)):Option Z6:=(show Option Z34 from cond ((a06 x.1.2.1 8)==0) (cond (lim ((a01 x.1.1)+1)) (some (x.2,(a03 x.1.1 [0],x.1.2),())) none) (some (x.2,x.1,()))).bind fun z1=>cond ((decide (0≤(wrap .i64 (a07 z1.2.1.2.1 8))))&&(decide ((wrap .i64 (a07 z1.2.1.2.1 8))<(z1.2.1.1.length:Int)))) (cond (decide ((wrap .i64 (7-(a06 z1.2.1.2.1 8)))<0)) none (cond ((decide (0≤(wrap .i64 (a07 z1.2.1.2.1 8))))&&(decide ((wrap .i64 (a07 z1.2.1.2.1 8))<(z1.2.1.1.length:Int)))) (some (a09 z1.2.1.1 (a00 (wrap .i64 (a07 z1.2.1.2.1 8))) (bits .u8 .or (a04 z1.2.1.1 (a00 (wrap .i64 (a07 z1.2.1.2.1 8))) 0) (A0n .u8 z1.1 (wrap .i64 (7-(a06 z1.2.1.2.1 8))))),wrap .i64 (z1.2.1.2.1+1),z1.2.1.2.2)) none)) none
def a5T:FSem:=⟨[.r false (.b Q9),.v QV],[],a2a⟩
def d5D:Hints:=⟨[],[(1,[Qn [.sv 1 QV,.box pinned Q9,Qp 0 pinned]])],[(2,[.p,.p,.q,.q,.p,.p,.q,.q,.v,.q,.q,.v,.p,.p,.q,.q,.v,.v,.v,.x,.x,.x])]⟩
def a3V(s:Z52):Option (Z52 ⊕ Z18):=cond (decide (s.2.1≥0)) (cond (decide (s.2.1<0)) none ((a2a (s.2.2.1,wrap .u8 (bits .u64 .and (A0o .u64 s.1 s.2.1) 1))).bind fun y2=>some (.inl (s.1,wrap .i64 (s.2.1-1),y2,())))) (some (.inr (s.2.2.1,())))
def a0G(x:(Z6×Int×Int)):Option Z15:=(show Option (Int×Int×Bool×Z18)from cond (decide (x.2.2<0)) (some (x.2.1,x.2.2,true,x.1,())) (cond (decide (x.2.2 > 64)) (some (x.2.1,x.2.2,true,x.1,())) (cond (decide (x.2.2<0)) none (some (x.2.1,x.2.2,(A0o .u64 x.2.1 x.2.2) != 0,x.1,()))))).bind fun z1=>cond z1.2.2.1 (some (1,z1.2.2.2.1)) ((y0s a3V (z1.1,wrap .i64 (z1.2.1-1),z1.2.2.2.1,())).bind fun w3=>some (0,w3.1))
def a2J:FSem:=⟨[.r false (.b Q9),.v QU,.v QI],[.v QI],a0G⟩
def d5E:Hints:=⟨[(58,[.sv 1 QU,7,.box pinned Q9,Qp 0 pinned],[Qe 0 [.box pinned Q9]])],[(6,[Qn [.sv 1 QU,2,.sv 19 .bool,.box pinned Q9,Qp 0 pinned]])],[]⟩
def a2D(x:(Z6×Int×Int)):Option Z6:=cond (decide (x.2.2<0)) none ((a0G (x.1,bits .u64 .and (wrap .u64 x.2.1) (wrap .u64 ((A0n .u64 1 x.2.2)-1)),x.2.2)).bind fun y1=>some y1.2)
def b0D:FSem:=⟨[.r false (.b Q9),.v QI,.v QI],[],a2D⟩
def a5U(s:Z87):Option (Z87 ⊕ Z18):=cond (decide (s.2.2.2.1<s.2.2.1)) ((m0k s.2.1 s.2.2.2.1).bind fun x6=>(a2D (s.2.2.2.2.1,x6,s.1)).bind fun y7=>some (.inl (s.1,s.2.1,s.2.2.1,wrap .i64 (s.2.2.2.1+1),y7,()))) (some (.inr (s.2.2.2.2.1,())))
def a8v(x:(Z6×a1T)):Option Z6:=(a0G (x.1,wrap .u64 (wrap .i64 ((x.2.2.2.2.2.2.1.length:Int)-1)),5)).bind fun y1=>(a0G (y1.2,wrap .u64 x.2.2.2.2.1,4)).bind fun y2=>(a1r x.2.2.2.2.2.2.1).bind fun y3=>(a0G (y2.2,wrap .u64 y3,5)).bind fun y4=>(y0s a5U (y3,x.2.2.2.2.2.2.1,(x.2.2.2.2.2.2.1.length:Int),0,y4.2,())).bind fun w8=>some w8.1
def b5g:FSem:=⟨[.r false (.b Q9),.v Q42],[],a8v⟩
def d5F:Hints:=⟨[(254,[4,.sv 27 QL,28,29,.box pinned Q9,Qp 0 pinned],[Qe 0 [.box pinned Q9]])],[],[]⟩
def b3z(s:Z13):Option Z68:=cond (decide (s.2.2.1<s.2.1)) ((m0k s.1 s.2.2.1).bind fun x3=>(show Option Z33 from cond (decide (x3<(-1073741824))) (some (s.1,s.2.1,s.2.2.1,true,())) (some (s.1,s.2.1,s.2.2.1,decide (x3≥1073741824),()))).bind fun z4=>cond z4.2.2.2.1 (some (.inr (Sum.inr ((false,()))))) (some (.inl (z4.1,z4.2.1,wrap .i64 (z4.2.2.1+1),())))) (some (.inr (Sum.inl ())))
def a7f(x:Z2):Option Bool:=(show Option (LI×(Bool×Unit))from(a7t (x.1,x.2.1)).bind fun y1=>cond (!y1) (some (x.2.2,true,())) (some (x.2.2,(x.2.2.length:Int) != (wrap .i64 (x.1-x.2.1)),()))).bind fun z2=>cond z2.2.1 (some false) ((y0s b3z (z2.1,(z2.1.length:Int),0,())).bind fun w5=>match w5 with |.inl a6=>some true |.inr b7=>some b7.1)
def b2G:FSem:=⟨[.v QI,.v QI,.v QL],[.v .bool],a7f⟩
def d5G:Hints:=⟨[(58,[.sv 21 QL,22,23],[Qe 0 [],Qr [.sv 6 .bool]])],[(6,[Qn [.sv 2 QL,.sv 20 .bool]]),(3737,[Qn [.sv 21 QL,22,23,.sv 32 .bool]])],[]⟩
def a5K(x:LI):Option Int:=(a1r x).bind fun y1=>some (wrap .i64 (5+(wrap .i64 (y1*(x.length:Int)))))
def b4M:FSem:=⟨[.v QL],[.v QI],a5K⟩
def a1L(x:Int):Option Bool:=cond (decide (0≤x)) (some (decide (x≤25))) (some false)
def a6G:FSem:=⟨[.v QI],[.v .bool],a1L⟩
def a7w(x:Int):Option Bool:=cond (decide ((-1073741824)≤x)) (some (decide (x<1073741824))) (some false)
def b1N:FSem:=⟨[.v QI],[.v .bool],a7w⟩
def a9i(x:Int):Option Int:=(a7w x).bind fun y1=>cond (!y1) (some 0) (cond (decide (x≥0)) (some (wrap .u64 (wrap .i64 (2*x)))) (some (wrap .u64 (wrap .i64 ((wrap .i64 ((-2)*x))-1)))))
def b4N:FSem:=⟨[.v QI],[.v QU],a9i⟩
def a7x(x:(Int×Int)):Option Int:=(show Option Z8 from(a1L x.1).bind fun y1=>cond (!y1) (some (x.1,x.2,true,())) ((a7w x.2).bind fun y2=>some (x.1,x.2,!y2,()))).bind fun z3=>cond z3.2.2.1 (some 0) ((a9i z3.2.1).bind fun y4=>cond (decide (z3.1<0)) none (cond (decide ((wrap .i64 (A0o .u64 y4 z3.1))<32)) (some (wrap .i64 ((wrap .i64 ((wrap .i64 (A0o .u64 y4 z3.1))+1))+z3.1))) (some 65)))
def b7V:FSem:=⟨[.v QI,.v QI],[.v QI],a7x⟩
def d5H:Hints:=⟨[],[(6,[Qn [0,1,.sv 13 .bool]])],[]⟩
def a3I(s:Z49):Option (Z49 ⊕ (Int×Unit)):=cond (decide (s.2.2.2.2.1<s.2.2.2.1)) ((m0k s.2.2.1 s.2.2.2.2.1).bind fun x1=>(a7x (s.1,x1)).bind fun y2=>some (.inl (s.1,wrap .i64 (s.2.1+y2),s.2.2.1,s.2.2.2.1,wrap .i64 (s.2.2.2.2.1+1),()))) (some (.inr (s.2.1,())))
def a3d(x:(Int×LI)):Option Int:=(y0s a3I (x.1,0,x.2,(x.2.length:Int),0,())).bind fun w3=>some w3.1
def b2W:FSem:=⟨[.v QI,.v QL],[.v QI],a3d⟩
def d5I:Hints:=⟨[(58,[0,5,.sv 8 QL,9,10],[Qe 0 [5]])],[],[]⟩
def a1t(s:(LI×(Int×(Int×(Int×(LI×Z17)))))):Option ((LI×(Int×(Int×(Int×(LI×Z17))))) ⊕ (Int×Unit)):=cond (decide (s.2.2.2.1<s.2.2.1)) (cond ((decide (0≤s.2.2.2.1))&&(decide (s.2.2.2.1<(s.2.2.2.2.1.length:Int)))) (cond ((decide (0≤(a04 s.2.2.2.2.1 (a00 s.2.2.2.1) 0)))&&(decide ((a04 s.2.2.2.2.1 (a00 s.2.2.2.1) 0)≤(s.1.length:Int)))) (cond ((decide (0≤(a04 s.2.2.2.2.1 (a00 s.2.2.2.1) 0)))&&(decide ((a04 s.2.2.2.2.1 (a00 s.2.2.2.1) 0)≤(s.1.length:Int)))) ((m0k s.2.2.2.2.2.1.2.1 s.2.2.2.1).bind fun x5=>cond (x5==31) ((a5K (a05 (a00 (a04 s.2.2.2.2.1 (a00 s.2.2.2.1) 0)) s.1)).bind fun y6=>some (.inl (a08 (a00 (a04 s.2.2.2.2.1 (a00 s.2.2.2.1) 0)) (a05 (a01 s.1) s.1),wrap .i64 (s.2.1+(wrap .i64 (5+y6))),s.2.2.1,wrap .i64 (s.2.2.2.1+1),s.2.2.2.2.1,s.2.2.2.2.2.1,()))) ((m0k s.2.2.2.2.2.1.2.1 s.2.2.2.1).bind fun x7=>(a3d (x7,a05 (a00 (a04 s.2.2.2.2.1 (a00 s.2.2.2.1) 0)) s.1)).bind fun y8=>some (.inl (a08 (a00 (a04 s.2.2.2.2.1 (a00 s.2.2.2.1) 0)) (a05 (a01 s.1) s.1),wrap .i64 (s.2.1+(wrap .i64 (5+y8))),s.2.2.1,wrap .i64 (s.2.2.2.1+1),s.2.2.2.2.1,s.2.2.2.2.2.1,())))) none) none) none) (some (.inr (s.2.1,())))
def a4B(x:(Z5×Z2)):Option Int:=(show Option (Int×(Int×(LI×(Bool×Z17))))from(a9d (x.1,x.2.1,x.2.2.1)).bind fun y1=>cond (!y1) (some (x.2.1,x.2.2.1,x.2.2.2,true,x.1,())) ((a7f (x.2.1,x.2.2.1,x.2.2.2)).bind fun y2=>some (x.2.1,x.2.2.1,x.2.2.2,!y2,x.1,()))).bind fun z3=>cond z3.2.2.2.1 (some 0) ((a2N (z3.2.2.2.2.1.1,z3.1,z3.2.1)).bind fun y4=>(y0s a1t (z3.2.2.1,4,(y4.length:Int),0,y4,z3.2.2.2.2.1,())).bind fun w9=>some w9.1)
def b3A:FSem:=⟨[.v Q11,.v QI,.v QI,.v QL],[.v QI],a4B⟩
def d5J:Hints:=⟨[(122,[.sv 3 QL,9,30,31,.own 29 1029 QI,.vp 4 Q11],[Qe 0 [9]])],[(6,[Qn [1,2,.sv 3 QL,.sv 24 .bool,.vp 4 Q11]])],[]⟩
def a3e(s:Z52):Option (Z52 ⊕ Z18):=cond (decide (s.2.1<s.1)) ((a2a (s.2.2.1,0)).bind fun y2=>some (.inl (s.1,wrap .i64 (s.2.1+1),y2,()))) (some (.inr (s.2.2.1,())))
def a2l(x:(Z6×Int)):Option Z15:=(show Option (Int×Bool×Z18)from cond (decide (x.2<0)) (some (x.2,true,x.1,())) (some (x.2,decide (x.2 > 4096),x.1,()))).bind fun z1=>cond z1.2.1 (some (1,z1.2.2.1)) ((y0s a3e (z1.1,0,z1.2.2.1,())).bind fun w3=>(a2a (w3.1,1)).bind fun y4=>some (0,y4))
def b1e:FSem:=⟨[.r false (.b Q9),.v QI],[.v QI],a2l⟩
def d5K:Hints:=⟨[(58,[11,12,.box pinned Q9,Qp 0 pinned],[Qe 0 [.box pinned Q9,Qp 0 pinned]])],[(6,[Qn [1,.sv 10 .bool,.box pinned Q9,Qp 0 pinned]])],[]⟩
def a9u(s:(Int×(LI×Z77))):Option ((Int×(LI×Z77)) ⊕ ((Int×(LI×Z18)) ⊕ Z34)):=cond (decide (s.2.2.2.2.1<s.2.2.2.1)) ((m0k s.2.2.1 s.2.2.2.2.1).bind fun x2=>(a7w x2).bind fun y3=>cond (!y3) (some (.inr (Sum.inr ((1,s.2.2.2.2.2.1,()))))) (some (.inl (s.1,s.2.1,s.2.2.1,s.2.2.2.1,wrap .i64 (s.2.2.2.2.1+1),s.2.2.2.2.2.1,())))) (some (.inr (Sum.inl (s.1,s.2.1,s.2.2.2.2.2.1,()))))
def a7g(s:Z87):Option (Z87 ⊕ Z18):=cond (decide (s.2.2.2.1<s.2.2.1)) ((m0k s.2.1 s.2.2.2.1).bind fun x7=>(a9i x7).bind fun y8=>cond (decide (s.1<0)) none (cond (decide ((A0o .u64 y8 s.1)<32)) ((a2l (s.2.2.2.2.1,wrap .i64 (A0o .u64 y8 s.1))).bind fun y9=>cond (decide (s.1<0)) none ((a0G (y9.2,wrap .u64 (y8-(A0n .u64 (A0o .u64 y8 s.1) s.1)),s.1)).bind fun y10=>some (.inl (s.1,s.2.1,s.2.2.1,wrap .i64 (s.2.2.2.1+1),y10.2,())))) ((a2l (s.2.2.2.2.1,32)).bind fun y11=>(a0G (y11.2,y8,32)).bind fun y12=>some (.inl (s.1,s.2.1,s.2.2.1,wrap .i64 (s.2.2.2.1+1),y12.2,()))))) (some (.inr (s.2.2.2.2.1,())))
def b2X(x:(Z6×(Int×LI))):Option Z15:=(a1L x.2.1).bind fun y1=>cond (!y1) (some (1,x.1)) ((y0s a9u (x.2.1,x.2.2,x.2.2,(x.2.2.length:Int),0,x.1,())).bind fun w4=>match w4 with |.inl a5=>((y0s a7g (a5.1,a5.2.1,(a5.2.1.length:Int),0,a5.2.2.1,())).bind fun w13=>some (0,w13.1)) |.inr b6=>some (b6.1,b6.2.1))
def b9q:FSem:=⟨[.r false (.b Q9),.v QI,.v QL],[.v QI],b2X⟩
def d5L:Hints:=⟨[(58,[1,.sv 2 QL,.sv 16 QL,17,18,.box pinned Q9,Qp 0 pinned],[Qe 0 [1,.sv 2 QL,.box pinned Q9,Qp 0 pinned],Qr [6,.box pinned Q9]]),(122,[1,.sv 26 QL,27,28,.box pinned Q9,Qp 0 pinned],[Qe 2 [.box pinned Q9]])],[],[]⟩
def a8w(s:(LI×(Int×Int×Int×c2V))):Option ((LI×(Int×Int×Int×c2V)) ⊕ c2V):=cond (decide (s.2.2.2.2.2.2.1<s.2.2.2.2.2.1)) ((m0k s.2.2.2.2.1 s.2.2.2.2.2.2.1).bind fun x11=>cond (decide (s.2.1<0)) none ((a0G (s.2.2.2.2.2.2.2.2.1,bits .u64 .and (wrap .u64 x11) (wrap .u64 ((A0n .u64 1 s.2.1)-1)),s.2.1)).bind fun y12=>some (.inl (s.1,s.2.1,s.2.2.1,s.2.2.2.1,s.2.2.2.2.1,s.2.2.2.2.2.1,wrap .i64 (s.2.2.2.2.2.2.1+1),s.2.2.2.2.2.2.2.1,y12.2,s.2.2.2.2.2.2.2.2.2.1,())))) (some (.inr (s.1,s.2.2.1,s.2.2.2.1,s.2.2.2.2.2.2.2.1,s.2.2.2.2.2.2.2.2.1,s.2.2.2.2.2.2.2.2.2.1,())))
def a4s(s:c2V):Option (c2V ⊕ Z18):=cond (decide (s.2.2.1<s.2.1)) (cond ((decide (0≤s.2.2.1))&&(decide (s.2.2.1<(s.2.2.2.1.length:Int)))) (cond ((decide (0≤(a04 s.2.2.2.1 (a00 s.2.2.1) 0)))&&(decide ((a04 s.2.2.2.1 (a00 s.2.2.1) 0)≤(s.1.length:Int)))) (cond ((decide (0≤(a04 s.2.2.2.1 (a00 s.2.2.1) 0)))&&(decide ((a04 s.2.2.2.1 (a00 s.2.2.1) 0)≤(s.1.length:Int)))) ((m0k s.2.2.2.2.2.1.2.1 s.2.2.1).bind fun x4=>(a0G (s.2.2.2.2.1,wrap .u64 x4,5)).bind fun y5=>(m0k s.2.2.2.2.2.1.2.1 s.2.2.1).bind fun x6=>cond (x6 != 31) ((m0k s.2.2.2.2.2.1.2.1 s.2.2.1).bind fun x7=>(b2X (y5.2,x7,a05 (a00 (a04 s.2.2.2.1 (a00 s.2.2.1) 0)) s.1)).bind fun y8=>some (.inl (a08 (a00 (a04 s.2.2.2.1 (a00 s.2.2.1) 0)) (a05 (a01 s.1) s.1),s.2.1,wrap .i64 (s.2.2.1+1),s.2.2.2.1,y8.2,s.2.2.2.2.2.1,()))) ((a1r (a05 (a00 (a04 s.2.2.2.1 (a00 s.2.2.1) 0)) s.1)).bind fun y9=>(a0G (y5.2,wrap .u64 y9,5)).bind fun y10=>(y0s a8w (a08 (a00 (a04 s.2.2.2.1 (a00 s.2.2.1) 0)) (a05 (a01 s.1) s.1),y9,s.2.1,s.2.2.1,a05 (a00 (a04 s.2.2.2.1 (a00 s.2.2.1) 0)) s.1,((a01 (a05 (a00 (a04 s.2.2.2.1 (a00 s.2.2.1) 0)) s.1):Nat):Int),0,s.2.2.2.1,y10.2,s.2.2.2.2.2.1,())).bind fun w13=>some (.inl (w13.1,w13.2.1,wrap .i64 (w13.2.2.1+1),w13.2.2.2.1,w13.2.2.2.2.1,w13.2.2.2.2.2.1,())))) none) none) none) (some (.inr (s.2.2.2.2.1,())))
def b1O(x:(Z6×Z5×Z2)):Option Z15:=(a4B (x.2.1,x.2.2.1,x.2.2.2.1,x.2.2.2.2)).bind fun y1=>cond (y1==0) (some (1,x.1)) ((a0G (x.1,wrap .u64 x.2.1.1,4)).bind fun y2=>(a2N (x.2.1.1,x.2.2.1,x.2.2.2.1)).bind fun y3=>(y0s a4s (x.2.2.2.2,(y3.length:Int),0,y3,y2.2,x.2.1,())).bind fun w14=>some (0,w14.1))
def b7W:FSem:=⟨[.r false (.b Q9),.v Q11,.v QI,.v QI,.v QL],[.v QI],b1O⟩
def d5M:Hints:=⟨[(122,[.sv 4 QL,33,34,.own 32 1032 QI,.box pinned Q9,Qp 0 pinned,.vp 6 Q11],[Qe 0 [.box pinned Q9]]),(2005502,[.sv 4 QL,14,33,34,.sv 73 QL,74,75,.own 32 1032 QI,.box pinned Q9,Qp 0 pinned,.vp 6 Q11],[Qe 2 [.sv 4 QL,33,34,.own 32 1032 QI,.box pinned Q9,Qp 0 pinned,.vp 6 Q11]])],[],[]⟩
def b0E(s:(Int×(Int×(LI×c5v)))):Option ((Int×(Int×(LI×c5v))) ⊕ b4H):=cond (decide (s.2.2.2.1<3)) ((m0k s.2.2.1 s.2.2.2.1).bind fun x8=>(a2D (s.2.2.2.2.1,x8,8)).bind fun y9=>some (.inl (s.1,s.2.1,s.2.2.1,wrap .i64 (s.2.2.2.1+1),y9,s.2.2.2.2.2.1,()))) (some (.inr (s.1,s.2.1,s.2.2.2.2.1,s.2.2.2.2.2.1,())))
def b0F(s:(Int×Int×Z4×b4H)):Option ((Int×Int×Z4×b4H) ⊕ b4H):=cond (decide (s.2.2.2.2.1<s.2.2.2.1)) ((m0k s.2.2.1 s.2.2.2.2.1).bind fun x18=>(a0G (s.2.2.2.2.2.1,wrap .u64 (wrap .i64 (x18.1-1)),5)).bind fun y19=>(a0G (y19.2,wrap .u64 x18.2.1,4)).bind fun y20=>some (.inl (s.1,s.2.1,s.2.2.1,s.2.2.2.1,wrap .i64 (s.2.2.2.2.1+1),y20.2,s.2.2.2.2.2.2.1,()))) (some (.inr (s.1,s.2.1,s.2.2.2.2.2.1,s.2.2.2.2.2.2.1,())))
def b0G(s:(Int×(Int×(LI×b4H)))):Option ((Int×(Int×(LI×b4H))) ⊕ c5v):=cond (decide (s.2.2.2.2.1<s.2.2.2.1)) ((m0k s.2.2.1 s.2.2.2.2.1).bind fun x23=>(a2D (s.2.2.2.2.2.1,x23,s.2.1)).bind fun y24=>some (.inl (s.1,s.2.1,s.2.2.1,s.2.2.2.1,wrap .i64 (s.2.2.2.2.1+1),y24,s.2.2.2.2.2.2.1,()))) (some (.inr (s.1,s.2.2.2.2.2.1,s.2.2.2.2.2.2.1,())))
def a9N(x:(Z6×b4G)):Option Z15:=(a9M (x.2.1,x.2.2)).bind fun y1=>cond (!y1) (some (1,x.1)) ((a1r x.2.1.2.2.2.2.2.2.2.2.1).bind fun y2=>(a0G (x.1,wrap .u64 x.2.1.1,3)).bind fun y3=>(a0G (y3.2,wrap .u64 x.2.1.2.1,5)).bind fun y4=>(a0G (y4.2,wrap .u64 y2,5)).bind fun y5=>(show Option b4H from(show Option (b4H ⊕ (b4H ⊕ b4H))from cond (x.2.1.1==2) ((a0G (y5.2,wrap .u64 x.2.1.2.2.1,3)).bind fun y6=>some (Sum.inr (Sum.inl (x.2.2,y2,y6.2,x.2.1,())))) (cond (x.2.1.1==4) ((a0G (y5.2,wrap .u64 (wrap .i64 (x.2.1.2.2.2.2.1-1)),10)).bind fun y7=>(y0s b0E (x.2.2,y2,x.2.1.2.2.2.2.2.2.1,0,y7.2,x.2.1,())).bind fun w10=>some (Sum.inl (w10.1,w10.2.1,w10.2.2.1,w10.2.2.2.1,()))) (cond (x.2.1.1==3) (some (Sum.inl (x.2.2,y2,y5.2,x.2.1,()))) (cond (x.2.1.1==5) (some (Sum.inr (Sum.inr ((x.2.2,y2,y5.2,x.2.1,()))))) (some (Sum.inr (Sum.inl (x.2.2,y2,y5.2,x.2.1,())))))))).bind fun z11=>match z11 with |.inl a12=>((a8v (a12.2.2.1,a12.2.2.2.1)).bind fun y14=>some (a12.1,a12.2.1,y14,a12.2.2.2.1,())) |.inr b13=>(match b13 with |.inl a15=>some (a15.1,a15.2.1,a15.2.2.1,a15.2.2.2.1,()) |.inr b16=>((a0G (b16.2.2.1,wrap .u64 (b16.2.2.2.1.2.2.2.2.2.2.2.1.length:Int),2)).bind fun y17=>(y0s b0F (b16.1,b16.2.1,b16.2.2.2.1.2.2.2.2.2.2.2.1,(b16.2.2.2.1.2.2.2.2.2.2.2.1.length:Int),0,y17.2,b16.2.2.2.1,())).bind fun w21=>some (w21.1,w21.2.1,w21.2.2.1,w21.2.2.2.1,())))).bind fun z22=>(y0s b0G (z22.1,z22.2.1,z22.2.2.2.1.2.2.2.2.2.2.2.2.1,(z22.2.2.2.1.2.2.2.2.2.2.2.2.1.length:Int),0,z22.2.2.1,z22.2.2.2.1,())).bind fun w25=>(a6d w25.2.2.1.1).bind fun y26=>cond (!y26) (some (0,w25.2.1)) ((b1O (w25.2.1,w25.2.2.1.2.2.2.2.2.2.2.2.2.1,w25.1,(w25.2.2.1.2.2.2.2.2.2.2.2.1.length:Int),w25.2.2.1.2.2.2.2.2.2.2.2.2.2.1)).bind fun y27=>some (y27.1,y27.2)))
def b6S:FSem:=⟨[.r false (.b Q9),.v Q42,.v QI],[.v QI],a9N⟩
def H62:Hints:=⟨[(2042,[2,7,.sv 94 QL,95,96,.box pinned Q9,Qp 0 pinned,.vp 4 Q42],[Qe 9 [2,.box pinned Q9,Qp 0 pinned,.vp 4 Q42]]),(32598,[2,7,.sv 75 (.list false Q3),76,77,.box pinned Q9,Qp 0 pinned,.vp 4 Q42],[Qe 7 [2,7,.box pinned Q9,Qp 0 pinned,.vp 4 Q42]]),(260622,[2,7,.sv 57 (.arr 3 QI),58,.box pinned Q9,Qp 0 pinned,.vp 4 Q42],[Qe 5 [2,7,.box pinned Q9,Qp 0 pinned,.vp 4 Q42]])],[(127,[Qn [2,7,.box pinned Q9,Qp 0 pinned,.vp 4 Q42]]),(4072,[Qn [2,7,.box pinned Q9,Qp 0 pinned,.vp 4 Q42],Qe 0 [2,7,.box pinned Q9,Qp 0 pinned,.vp 4 Q42],Qe 4 [2,7,.box pinned Q9,Qp 0 pinned,.vp 4 Q42]])],[]⟩
def a3f(s:Z18):Option (Z18 ⊕ Z18):=cond ((a06 s.1.2.1 8) != 0) ((a2a (s.1,0)).bind fun y2=>some (.inl (y2,()))) (some (.inr (s.1,())))
def a4P(x:Z6):Option Z6:=(y0s a3f (x,())).bind fun w3=>some w3.1
def b1f:FSem:=⟨[.r false (.b Q9)],[],a4P⟩
def H63:Hints:=⟨[(2,[.box pinned Q9,Qp 0 pinned],[Qe 0 [.box pinned Q9]])],[],[]⟩
def a4Q(x:Z6):Option (LI×Z6):=cond (lim (a01 x.1)) (some (x.1,x)) none
def b1g:FSem:=⟨[.r false (.b Q9)],[.o QV],a4Q⟩
def a8x(s:Z57):Option (Z57 ⊕ Z57):=cond (decide (s.1≥128)) (cond (lim ((a01 s.2.2.2.2.1)+1)) (some (.inl (wrap .u64 (a07 s.1 128),s.2.1,s.2.2.1,s.2.2.2.1,a03 s.2.2.2.2.1 [wrap .u8 ((wrap .u8 (a06 s.1 128))+128)],()))) none) (some (.inr (s.1,s.2.1,s.2.2.1,s.2.2.2.1,s.2.2.2.2.1,())))
def a8y(s:Z40):Option (Z40 ⊕ (LI×Unit)):=cond (decide (s.2.2.1<s.2.1)) ((m0k s.1 s.2.2.1).bind fun x1=>(y0s a8x (x1,s.1,s.2.1,s.2.2.1,s.2.2.2.1,())).bind fun w2=>cond (lim ((a01 w2.2.2.2.2.1)+1)) (some (.inl (w2.2.1,w2.2.2.1,wrap .i64 (w2.2.2.2.1+1),a03 w2.2.2.2.2.1 [wrap .u8 w2.1],()))) none) (some (.inr (s.2.2.2.1,())))
def a9j(x:LI):Option LI:=(y0s a8y (x,(x.length:Int),0,[],())).bind fun w3=>some w3.1
def b4O:FSem:=⟨[.v (.list false QU)],[.o QV],a9j⟩
def H88:Hints:=⟨[(58,[.sv 6 (.list false QU),7,8,.own 3 3 QV],[Qe 0 [.own 3 3 QV]]),(14948,[.sv 5 QU,.sv 6 (.list false QU),7,8,.own 3 3 QV],[Qe 2 [.sv 5 QU,.sv 6 (.list false QU),7,8,.own 3 3 QV]])],[],[]⟩
def b1P(x:Int):Option Int:=cond (decide (x≥0)) (some (wrap .u64 (2*(wrap .u64 x)))) (some (wrap .u64 ((wrap .u64 (2*(wrap .u64 (wrap .i64 (0-(wrap .i64 (x+1)))))))+1)))
def b7X:FSem:=⟨[.v QI],[.v QU],b1P⟩
def b0H(s:Z51):Option (Z51 ⊕ Z29):=cond (decide (s.2.2.2.2.1<8)) (cond ((A0o .u8 s.1 7)==1) (some (.inl (bits .u8 .xor (A0n .u8 s.1 1) 7,s.2.1,s.2.2.1,s.2.2.2.1,wrap .i64 (s.2.2.2.2.1+1),()))) (some (.inl (A0n .u8 s.1 1,s.2.1,s.2.2.1,s.2.2.2.1,wrap .i64 (s.2.2.2.2.1+1),())))) (some (.inr (s.1,s.2.1,s.2.2.1,s.2.2.2.1,())))
def a7I(s:Z29):Option Z64:=cond (decide (s.2.2.2.1<s.2.2.1)) ((m0k s.2.1 s.2.2.2.1).bind fun x1=>(y0s b0H (bits .u8 .xor s.1 x1,s.2.1,s.2.2.1,s.2.2.2.1,0,())).bind fun w2=>some (.inl (w2.1,w2.2.1,w2.2.2.1,wrap .i64 (w2.2.2.2.1+1),()))) (some (.inr (s.1,())))
def a7X(x:LI):Option Int:=(y0s a7I (0,x,(x.length:Int),0,())).bind fun w3=>some w3.1
def b3B:FSem:=⟨[.v QB],[.v QV],a7X⟩
def d5N:Hints:=⟨[(58,[.sv 3 QV,.sv 7 QB,8,9],[Qe 0 [.sv 3 QV]]),(29902,[.sv 3 QV,.sv 7 QB,8,9,16],[Qe 2 [.sv 3 QV,.sv 7 QB,8,9]])],[],[]⟩
def a5o(s:(Int×Z12×Z14)):Option ((Int×Z12×Z14) ⊕ Z5):=cond (decide (s.2.2.2.1<s.2.2.1)) ((m0k s.2.1 s.2.2.2.1).bind fun x1=>(b1P x1.2.2.1).bind fun y2=>cond (lim ((a01 s.2.2.2.2.1)+3)) (some (.inl (s.1,s.2.1,s.2.2.1,wrap .i64 (s.2.2.2.1+1),a03 s.2.2.2.2.1 [wrap .u64 x1.1,wrap .u64 x1.2.1,y2],()))) none) (some (.inr (s.1,s.2.2.2.2.1,())))
def a7J(x:(a2R×Int)):Option LI:=(y0s a5o (x.2,x.1.2.2.2.1,(x.1.2.2.2.1.length:Int),0,([wrap .u64 x.1.1,wrap .u64 x.1.2.1,wrap .u64 x.1.2.2.1.1,wrap .u64 x.1.2.2.1.2.1,wrap .u64 x.1.2.2.1.2.2.1,wrap .u64 (x.1.2.2.2.1.length:Int)]:List Int),())).bind fun w3=>cond (lim ((a01 w3.2.1)+1)) ((a9j (a03 w3.2.1 [wrap .u64 w3.1])).bind fun y4=>cond (lim (2+(a01 y4))) ((a7X (a03 [245,75] y4)).bind fun y5=>cond (lim ((a01 (a03 [245,75] y4))+1)) (some (a03 (a03 [245,75] y4) [y5])) none) none) none
def b4g:FSem:=⟨[.v Q60,.v QI],[.o QV],a7J⟩
def H65:Hints:=⟨[(58,[1,.sv 33 (.list false Q12),34,35,.own 5 5 QU],[Qe 0 [1,.own 5 5 QU]])],[],[(5,[.q,.q,.q,.v,.q,.q,.v,.q,.q,.v,.q,.x,.x])]⟩
def a3J(x:Int):Option Int:=some (v0s (v0r x 0) 8)
def b2H:FSem:=⟨[.v QI],[.v QI],a3J⟩
def a1M(s:Z31):Option (Z31 ⊕ (LI×Unit)):=cond (decide (s.2.2.1<s.2.1)) (cond (lim ((a01 s.2.2.2.1)+1)) (some (.inl (wrap .u64 (a07 s.1 256),s.2.1,wrap .i64 (s.2.2.1+1),a03 s.2.2.2.1 [wrap .u8 (a06 s.1 256)],()))) none) (some (.inr (s.2.2.2.1,())))
def a5d(x:(Int×Int)):Option LI:=(a3J x.2).bind fun y1=>(y0s a1M (x.1,y1,0,[],())).bind fun w2=>some w2.1
def b6x:FSem:=⟨[.v QU,.v QI],[.o QV],a5d⟩
def d5O:Hints:=⟨[(58,[.sv 0 QU,7,8,.own 5 5 QV],[Qe 0 [.own 5 5 QV]])],[],[]⟩
def a1K(x:LI):Option LI:=cond (decide (a01 x<2147483648)) (some (List.reverse x)) none
def a5R:FSem:=⟨[.r false (.o QV)],[],a1K⟩
def a4i(x:(Int×Int)):Option LI:=(a5d (x.1,x.2)).bind fun y1=>(a1K y1).bind fun y2=>some y2
def b4P:FSem:=⟨[.v QU,.v QI],[.o QV],a4i⟩
def a8T(s:Z51):Option (Z51 ⊕ Z29):=cond (decide (s.2.2.2.2.1<8)) (cond ((A0o .u16 s.1 15)==1) (some (.inl (bits .u16 .xor (A0n .u16 s.1 1) 32773,s.2.1,s.2.2.1,s.2.2.2.1,wrap .i64 (s.2.2.2.2.1+1),()))) (some (.inl (A0n .u16 s.1 1,s.2.1,s.2.2.1,s.2.2.2.1,wrap .i64 (s.2.2.2.2.1+1),())))) (some (.inr (s.1,s.2.1,s.2.2.1,s.2.2.2.1,())))
def a5V(s:Z29):Option Z64:=cond (decide (s.2.2.2.1<s.2.2.1)) ((m0k s.2.1 s.2.2.2.1).bind fun x1=>(y0s a8T (bits .u16 .xor s.1 (A0n .u16 (wrap .u16 x1) 8),s.2.1,s.2.2.1,s.2.2.2.1,0,())).bind fun w2=>some (.inl (w2.1,w2.2.1,w2.2.2.1,wrap .i64 (w2.2.2.2.1+1),()))) (some (.inr (s.1,())))
def a6i(x:LI):Option Int:=(y0s a5V (0,x,(x.length:Int),0,())).bind fun w3=>some w3.1
def b1n:FSem:=⟨[.v QB],[.v (.int .u16)],a6i⟩
def H67:Hints:=⟨[(58,[.sv 3 (.int .u16),.sv 7 QB,8,9],[Qe 0 [.sv 3 (.int .u16)]]),(29902,[.sv 3 (.int .u16),.sv 7 QB,8,9,18],[Qe 2 [.sv 3 (.int .u16),.sv 7 QB,8,9]])],[],[]⟩
def a8z(s:(b2y×Int×Int×Z6×b3u)):Option ((b2y×Int×Int×Z6×b3u) ⊕ ((Z6×b3u) ⊕ Z5)):=cond (decide (s.2.2.1<s.2.1)) ((m0k s.1 s.2.2.1).bind fun x2=>(a9N (s.2.2.2.1,x2,s.2.2.2.2.1.2.1)).bind fun y3=>cond (y3.1 != 0) (some (.inr (Sum.inr ((y3.1,[],()))))) (some (.inl (s.1,s.2.1,wrap .i64 (s.2.2.1+1),y3.2,s.2.2.2.2.1,())))) (some (.inr (Sum.inl (s.2.2.2.1,s.2.2.2.2.1,()))))
def a4j(x:a2R):Option (LI×Int):=(a4h x).bind fun y1=>cond (!y1) (some ([],1)) ((y0s a8z (x.2.2.2.2.1,(x.2.2.2.2.1.length:Int),0,([],0,()),x,())).bind fun w4=>match w4 with |.inl a5=>((a4P a5.1).bind fun y7=>(a4Q y7).bind fun y8=>(a7J (a5.2.1,(y8.1.length:Int))).bind fun y9=>cond (lim ((a01 y9)+(a01 y8.1))) ((a6i (a03 y9 y8.1)).bind fun y10=>(a4i (wrap .u64 y10,2)).bind fun y11=>cond (lim ((a01 (a03 y9 y8.1))+(a01 y11))) (some (a03 (a03 y9 y8.1) y11,0)) none) none) |.inr b6=>some (b6.2.1,b6.1))
def b1Q:FSem:=⟨[.v Q60],[.o QV,.v QI],a4j⟩
def H19:Hints:=⟨[(122,[.sv 14 (.list false Q42),15,16,.box 4 Q9,.vp 1 Q60,Qp 4 4],[Qe 0 [.box 4 Q9,.vp 1 Q60,Qp 4 4],Qr [3,.own 2 2 QV]])],[],[]⟩
def a5W(x:(Int×Int)):Option (Int×Int):=some (wrap .u64 ((wrap .u64 ((wrap .u64 ((A0o .u64 x.1 32)*(A0o .u64 x.2 32)))+(A0o .u64 (wrap .u64 ((wrap .u64 ((A0o .u64 x.1 32)*(bits .u64 .and x.2 4294967295)))+(A0o .u64 (wrap .u64 ((bits .u64 .and x.1 4294967295)*(bits .u64 .and x.2 4294967295))) 32))) 32)))+(A0o .u64 (wrap .u64 ((bits .u64 .and (wrap .u64 ((wrap .u64 ((A0o .u64 x.1 32)*(bits .u64 .and x.2 4294967295)))+(A0o .u64 (wrap .u64 ((bits .u64 .and x.1 4294967295)*(bits .u64 .and x.2 4294967295))) 32))) 4294967295)+(wrap .u64 ((bits .u64 .and x.1 4294967295)*(A0o .u64 x.2 32))))) 32)),wrap .u64 (x.1*x.2))
def b2L:FSem:=⟨[.v QU,.v QU],[.v QU,.v QU],a5W⟩
def a8U(x:(Int×Int×Int)):Option (Int×Int):=cond (decide (x.2.2.toNat≤1)) (some ((((x.1.toNat+x.2.1.toNat+x.2.2.toNat)%18446744073709551616:Nat):Int),(((x.1.toNat+x.2.1.toNat+x.2.2.toNat) / 18446744073709551616:Nat):Int))) none
def b2M:FSem:=⟨[.v QU,.v QU,.v QU],[.v QU,.v QU],a8U⟩
def d1S:Hints:=⟨[],[(3,[Qn [.sv 0 QU,2]]),(7,[Qn [.sv 0 QU,2]]),(15,[Qn [.sv 0 QU,2]])],[]⟩
def b2N(x:Int):Option Int:=A0j (a9T [] [] [0,2] []) d1S Tryz.f324 [.v (.int .u64)] [.v (.int .i64)] x
def b2O:FSem:=⟨[.v QU],[.v QI],b2N⟩
def a3K(x:Int):Option Int:=(b2N x).bind fun y1=>some (wrap .i64 (64-y1))
def a7h:FSem:=⟨[.v QU],[.v QI],a3K⟩
def a1V(s:Z89):Option (Z89 ⊕ Z80):=(show Option (Z89 ⊕ Z80)from cond (decide (s.2.2.2.2.2.2.2.1≥4294967296)) (some (Sum.inl (s.1,s.2.1,s.2.2.1,s.2.2.2.1,s.2.2.2.2.1,s.2.2.2.2.2.1,s.2.2.2.2.2.2.1,s.2.2.2.2.2.2.2.1,s.2.2.2.2.2.2.2.2.1,()))) (cond (decide ((wrap .u64 (s.2.2.2.2.2.2.2.1*s.2.2.2.1)) > (wrap .u64 ((wrap .u64 (4294967296*s.2.2.2.2.2.2.2.2.1))+s.2.2.2.2.2.1)))) (some (Sum.inl (s.1,s.2.1,s.2.2.1,s.2.2.2.1,s.2.2.2.2.1,s.2.2.2.2.2.1,s.2.2.2.2.2.2.1,s.2.2.2.2.2.2.2.1,s.2.2.2.2.2.2.2.2.1,()))) (some (Sum.inr ((s.1,s.2.1,s.2.2.1,s.2.2.2.1,s.2.2.2.2.1,s.2.2.2.2.2.1,s.2.2.2.2.2.2.1,s.2.2.2.2.2.2.2.1,())))))).bind fun z2=>match z2 with |.inl a3=>(cond (decide ((wrap .u64 (a3.2.2.2.2.2.2.2.2.1+a3.2.2.1))≥4294967296)) (some (.inr (a3.1,a3.2.1,a3.2.2.1,a3.2.2.2.1,a3.2.2.2.2.1,a3.2.2.2.2.2.1,a3.2.2.2.2.2.2.1,wrap .u64 (a3.2.2.2.2.2.2.2.1-1),()))) (some (.inl (a3.1,a3.2.1,a3.2.2.1,a3.2.2.2.1,a3.2.2.2.2.1,a3.2.2.2.2.2.1,a3.2.2.2.2.2.2.1,wrap .u64 (a3.2.2.2.2.2.2.2.1-1),wrap .u64 (a3.2.2.2.2.2.2.2.2.1+a3.2.2.1),())))) |.inr b4=>some (.inr (b4.1,b4.2.1,b4.2.2.1,b4.2.2.2.1,b4.2.2.2.2.1,b4.2.2.2.2.2.1,b4.2.2.2.2.2.2.1,b4.2.2.2.2.2.2.2.1,()))
def a1W(s:Z89):Option (Z89 ⊕ Z53):=(show Option (Z89 ⊕ Z53)from cond (decide (s.2.2.2.2.2.2.2.2.1≥4294967296)) (some (Sum.inl (s.1,s.2.1,s.2.2.1,s.2.2.2.1,s.2.2.2.2.1,s.2.2.2.2.2.1,s.2.2.2.2.2.2.1,s.2.2.2.2.2.2.2.1,s.2.2.2.2.2.2.2.2.1,()))) (cond (decide ((wrap .u64 (s.2.2.2.2.2.2.2.2.1*s.2.2.2.1)) > (wrap .u64 ((wrap .u64 (4294967296*s.2.2.2.2.2.2.1))+s.2.2.2.2.1)))) (some (Sum.inl (s.1,s.2.1,s.2.2.1,s.2.2.2.1,s.2.2.2.2.1,s.2.2.2.2.2.1,s.2.2.2.2.2.2.1,s.2.2.2.2.2.2.2.1,s.2.2.2.2.2.2.2.2.1,()))) (some (Sum.inr ((s.1,s.2.1,s.2.2.2.2.1,s.2.2.2.2.2.1,s.2.2.2.2.2.2.2.1,s.2.2.2.2.2.2.2.2.1,())))))).bind fun z6=>match z6 with |.inl a7=>(cond (decide ((wrap .u64 (a7.2.2.2.2.2.2.1+a7.2.2.1))≥4294967296)) (some (.inr (a7.1,a7.2.1,a7.2.2.2.2.1,a7.2.2.2.2.2.1,a7.2.2.2.2.2.2.2.1,wrap .u64 (a7.2.2.2.2.2.2.2.2.1-1),()))) (some (.inl (a7.1,a7.2.1,a7.2.2.1,a7.2.2.2.1,a7.2.2.2.2.1,a7.2.2.2.2.2.1,wrap .u64 (a7.2.2.2.2.2.2.1+a7.2.2.1),a7.2.2.2.2.2.2.2.1,wrap .u64 (a7.2.2.2.2.2.2.2.2.1-1),())))) |.inr b8=>some (.inr (b8.1,b8.2.1,b8.2.2.1,b8.2.2.2.1,b8.2.2.2.2.1,b8.2.2.2.2.2.1,()))
def a2K(x:(Int×Int×Int)):Option (Int×Int):=cond (x.2.2==0) none (cond (decide (x.2.2≤x.1)) none (cond (x.1==0) (cond (x.2.2==0) none (cond (x.2.2==0) none (some (wrap .u64 (a07 x.2.1 x.2.2),a06 x.2.1 x.2.2)))) ((a3K x.2.2).bind fun y1=>cond (decide ((wrap .u64 y1)<0)) none (cond (decide ((wrap .u64 y1)<0)) none (cond (decide ((wrap .u64 (64-(wrap .u64 y1)))<0)) none (cond (decide ((wrap .u64 y1)<0)) none (cond ((A0o .u64 (A0n .u64 x.2.2 (wrap .u64 y1)) 32)==0) none ((y0s a1V (A0n .u64 x.2.2 (wrap .u64 y1),wrap .u64 y1,A0o .u64 (A0n .u64 x.2.2 (wrap .u64 y1)) 32,bits .u64 .and (A0n .u64 x.2.2 (wrap .u64 y1)) 4294967295,bits .u64 .or (A0n .u64 x.1 (wrap .u64 y1)) (A0o .u64 x.2.1 (wrap .u64 (64-(wrap .u64 y1)))),A0o .u64 (A0n .u64 x.2.1 (wrap .u64 y1)) 32,bits .u64 .and (A0n .u64 x.2.1 (wrap .u64 y1)) 4294967295,wrap .u64 (a07 (bits .u64 .or (A0n .u64 x.1 (wrap .u64 y1)) (A0o .u64 x.2.1 (wrap .u64 (64-(wrap .u64 y1))))) (A0o .u64 (A0n .u64 x.2.2 (wrap .u64 y1)) 32)),wrap .u64 ((bits .u64 .or (A0n .u64 x.1 (wrap .u64 y1)) (A0o .u64 x.2.1 (wrap .u64 (64-(wrap .u64 y1)))))-(wrap .u64 ((wrap .u64 (a07 (bits .u64 .or (A0n .u64 x.1 (wrap .u64 y1)) (A0o .u64 x.2.1 (wrap .u64 (64-(wrap .u64 y1))))) (A0o .u64 (A0n .u64 x.2.2 (wrap .u64 y1)) 32)))*(A0o .u64 (A0n .u64 x.2.2 (wrap .u64 y1)) 32)))),())).bind fun w5=>cond (w5.2.2.1==0) none ((y0s a1W (w5.1,w5.2.1,w5.2.2.1,w5.2.2.2.1,w5.2.2.2.2.2.2.1,w5.2.2.2.2.2.2.2.1,wrap .u64 ((wrap .u64 ((wrap .u64 ((wrap .u64 (w5.2.2.2.2.1*4294967296))+w5.2.2.2.2.2.1))-(wrap .u64 (w5.2.2.2.2.2.2.2.1*w5.1))))-(wrap .u64 ((wrap .u64 (a07 (wrap .u64 ((wrap .u64 ((wrap .u64 (w5.2.2.2.2.1*4294967296))+w5.2.2.2.2.2.1))-(wrap .u64 (w5.2.2.2.2.2.2.2.1*w5.1)))) w5.2.2.1))*w5.2.2.1))),wrap .u64 ((wrap .u64 ((wrap .u64 (w5.2.2.2.2.1*4294967296))+w5.2.2.2.2.2.1))-(wrap .u64 (w5.2.2.2.2.2.2.2.1*w5.1))),wrap .u64 (a07 (wrap .u64 ((wrap .u64 ((wrap .u64 (w5.2.2.2.2.1*4294967296))+w5.2.2.2.2.2.1))-(wrap .u64 (w5.2.2.2.2.2.2.2.1*w5.1)))) w5.2.2.1),())).bind fun w9=>cond (decide (w9.2.1<0)) none (some (wrap .u64 ((wrap .u64 (w9.2.2.2.1*4294967296))+w9.2.2.2.2.2.1),A0o .u64 (wrap .u64 ((wrap .u64 ((wrap .u64 (w9.2.2.2.2.1*4294967296))+w9.2.2.1))-(wrap .u64 (w9.2.2.2.2.2.1*w9.1)))) w9.2.1)))))))))))
def b2P:FSem:=⟨[.v QU,.v QU,.v QU],[.v QU,.v QU],a2K⟩
def d5P:Hints:=⟨[(131068,[.sv 2 QU,.sv 8 QU,.sv 9 QU,.sv 10 QU,.sv 11 QU,.sv 13 QU,.sv 14 QU,.sv 15 QU,.sv 16 QU],[Qe 0 [.sv 2 QU,.sv 8 QU,.sv 9 QU,.sv 10 QU,.sv 11 QU,.sv 13 QU,.sv 14 QU,.sv 15 QU]]),(2097148,[.sv 2 QU,.sv 8 QU,.sv 9 QU,.sv 10 QU,.sv 14 QU,.sv 15 QU,.sv 16 QU,.sv 17 QU,.sv 18 QU],[Qe 2 [.sv 2 QU,.sv 8 QU,.sv 14 QU,.sv 15 QU,.sv 17 QU,.sv 18 QU]])],[(262136,[Qn [.sv 2 QU,.sv 8 QU,.sv 9 QU,.sv 10 QU,.sv 11 QU,.sv 13 QU,.sv 14 QU,.sv 15 QU,.sv 16 QU],Qe 0 [.sv 2 QU,.sv 8 QU,.sv 9 QU,.sv 10 QU,.sv 11 QU,.sv 13 QU,.sv 14 QU,.sv 15 QU]]),(4194296,[Qn [.sv 2 QU,.sv 8 QU,.sv 9 QU,.sv 10 QU,.sv 14 QU,.sv 15 QU,.sv 16 QU,.sv 17 QU,.sv 18 QU],Qe 2 [.sv 2 QU,.sv 8 QU,.sv 14 QU,.sv 15 QU,.sv 17 QU,.sv 18 QU]])],[(6,[.v,.v,.v,.v,.v,.v,.v,.x])]⟩
def a8V(x:(Int×Int×Int)):Option Int:=cond (x.2.2==0) none ((a2K (a06 x.1 x.2.2,x.2.1,x.2.2)).bind fun y1=>some y1.2)
def b2Q:FSem:=⟨[.v QU,.v QU,.v QU],[.v QU],a8V⟩
def a5L(x:(Int×Int×Int)):Option Int:=(a5W (x.1,x.2.1)).bind fun y1=>(a8U (y1.2,x.2.2,0)).bind fun y2=>(a8V (wrap .u64 (y1.1+y2.2),y2.1,2305843009213693951)).bind fun y3=>some y3
def b1R:FSem:=⟨[.v QU,.v QU,.v QU],[.v QU],a5L⟩
def a7K(s:Z29):Option Z64:=cond (decide (s.2.2.2.1<s.2.2.1)) ((m0k s.2.1 s.2.2.2.1).bind fun x1=>(a5L (s.1,1000003,wrap .u64 ((wrap .u64 x1)+1))).bind fun y2=>some (.inl (y2,s.2.1,s.2.2.1,wrap .i64 (s.2.2.2.1+1),()))) (some (.inr (s.1,())))
def a7Y(x:LI):Option Int:=(y0s a7K (0,x,(x.length:Int),0,())).bind fun w3=>some w3.1
def b3C:FSem:=⟨[.v QB],[.v QU],a7Y⟩
def H42:Hints:=⟨[(58,[.sv 3 QU,.sv 6 QB,7,8],[Qe 0 [.sv 3 QU]])],[],[]⟩
def a6H(s:(Int×(Int×(Int×((List LI)×Z85))))):Option ((Int×(Int×(Int×((List LI)×Z85)))) ⊕ Z85):=cond (decide (s.2.2.2.2.2.1<s.2.2.2.2.1)) ((m0k s.2.2.2.1 s.2.2.2.2.2.1).bind fun x3=>(m0k x3 s.1).bind fun x4=>cond (lim ((a01 s.2.2.2.2.2.2.1)+1)) (some (.inl (s.1,s.2.1,s.2.2.1,s.2.2.2.1,s.2.2.2.2.1,wrap .i64 (s.2.2.2.2.2.1+1),a03 s.2.2.2.2.2.2.1 [x4],s.2.2.2.2.2.2.2.1,()))) none) (some (.inr (s.2.1,s.2.2.1,s.2.2.2.2.2.2.1,s.2.2.2.2.2.2.2.1,())))
end Go.Ab
namespace Go.Ab
open IntKind(wrap)
open Go.Proofs
set_option maxRecDepth 100000
set_option linter.unusedVariables false
def a6I(s:Z85):Option (Z85 ⊕ (LI×Unit)):=cond (decide (s.2.1<s.1)) ((y0s a6H (s.2.1,s.1,s.2.1,s.2.2.2.1.2.1,(s.2.2.2.1.2.1.length:Int),0,s.2.2.1,s.2.2.2.1,())).bind fun w5=>some (.inl (w5.1,wrap .i64 (w5.2.1+1),w5.2.2.1,w5.2.2.2.1,()))) (some (.inr (s.2.2.1,())))
def a5e(x:Z10):Option LI:=(a4f x).bind fun y1=>cond (!y1) (some []) ((a4e x).bind fun y2=>(y0s a6I (y2,0,[],x,())).bind fun w6=>some w6.1)
def a5f:FSem:=⟨[.v Q15],[.o QI],a5e⟩
def H86:Hints:=⟨[(122,[11,12,.own 3 3 QI,.vp 1 Q15],[Qe 0 [.own 3 3 QI]]),(31334,[4,11,12,.sv 16 (.list false QL),17,18,.own 3 3 QI,.vp 1 Q15],[Qe 2 [11,12,.own 3 3 QI,.vp 1 Q15]])],[],[]⟩
def a4C(s:(Int×(Int×(Int×(LI×(Int×Z31)))))):Option ((Int×(Int×(Int×(LI×(Int×Z31))))) ⊕ Z75):=cond (decide (s.2.2.2.2.2.2.2.1<s.2.2.2.2.2.2.1)) (cond (decide ((wrap .i64 (8*s.2.2.2.2.2.2.2.1))<0)) none (cond (lim ((a01 s.2.2.2.2.2.2.2.2.1)+1)) (some (.inl (s.1,s.2.1,s.2.2.1,s.2.2.2.1,s.2.2.2.2.1,s.2.2.2.2.2.1,s.2.2.2.2.2.2.1,wrap .i64 (s.2.2.2.2.2.2.2.1+1),a03 s.2.2.2.2.2.2.2.2.1 [wrap .u8 (bits .i64 .and (A0o .i64 s.2.2.1 (wrap .i64 (8*s.2.2.2.2.2.2.2.1))) 255)],()))) none)) (some (.inr (s.1,s.2.1,s.2.2.2.1,s.2.2.2.2.1,s.2.2.2.2.2.1,s.2.2.2.2.2.2.2.2.1,())))
def a6J(s:Z75):Option (Z75 ⊕ Z47):=cond (decide (s.2.2.2.2.1<s.2.2.2.1)) ((m0k s.2.2.1 s.2.2.2.2.1).bind fun x2=>(a1Q (x2,s.1)).bind fun y3=>cond (!y3) (some (.inr (Sum.inr ((6,[],()))))) ((y0s a4C (s.1,s.2.1,x2,s.2.2.1,s.2.2.2.1,s.2.2.2.2.1,s.2.1,0,s.2.2.2.2.2.1,())).bind fun w4=>some (.inl (w4.1,w4.2.1,w4.2.2.1,w4.2.2.2.1,wrap .i64 (w4.2.2.2.2.1+1),w4.2.2.2.2.2.1,())))) (some (.inr (Sum.inl (s.2.2.2.2.2.1,()))))
def a9v(x:(LI×Int)):Option (LI×Int):=(show Option Z16 from cond (decide (x.2<4)) (some (x.1,x.2,true,())) (some (x.1,x.2,decide (x.2 > 24),()))).bind fun z1=>cond z1.2.2.1 (some ([],1)) ((y0s a6J (z1.2.1,wrap .i64 (a07 (wrap .i64 (z1.2.1+7)) 8),z1.1,(z1.1.length:Int),0,[],())).bind fun w5=>match w5 with |.inl a6=>some (a6.1,0) |.inr b7=>some (b7.2.1,b7.1))
def b6y:FSem:=⟨[.v QL,.v QI],[.o QV,.v QI],a9v⟩
def d5Q:Hints:=⟨[(250,[1,6,.sv 20 QL,21,22,.own 7 7 QV],[Qe 0 [.own 7 7 QV],Qr [5,.own 4 4 QV]]),(128206,[1,6,9,.sv 20 QL,21,22,30,31,.own 7 7 QV],[Qe 2 [1,6,.sv 20 QL,21,22,.own 7 7 QV]])],[(6,[Qn [.sv 0 QL,1,.sv 16 .bool]])],[]⟩
def b0I(x:Z10):Option (LI×Int):=(a4f x).bind fun y1=>cond (!y1) (some ([],1)) ((a5e x).bind fun y2=>(a9v (y2,x.1)).bind fun y3=>some (y3.1,y3.2))
def b6T:FSem:=⟨[.v Q15],[.o QV,.v QI],b0I⟩
def d5R:Hints:=⟨[],[],[(3,[.v,.q,.v,.v,.x,.q,.q,.x,.x])]⟩
def a7L(s:Z7):Option (Z7 ⊕ (Int×Unit)):=cond (decide (s.1 > 0)) ((show Option Z7 from cond ((a06 s.1 2)==1) ((a5L (s.2.1,s.2.2.1,0)).bind fun y1=>some (s.1,y1,s.2.2.1,())) (some (s.1,s.2.1,s.2.2.1,()))).bind fun z2=>(a5L (z2.2.2.1,z2.2.2.1,0)).bind fun y3=>some (.inl (wrap .i64 (a07 z2.1 2),z2.2.1,y3,()))) (some (.inr (s.2.1,())))
def b0J(x:Int):Option Int:=(y0s a7L (v0r x 0,1,1000003,())).bind fun w4=>some w4.1
def b6U:FSem:=⟨[.v QI],[.v QU],b0J⟩
def d5S:Hints:=⟨[(58,[0,.sv 3 QU,.sv 4 QU],[Qe 0 [.sv 3 QU]])],[(932,[Qn [0,.sv 3 QU,.sv 4 QU]])],[]⟩
def b1S(x:(Int×Int×Int)):Option (Int×Bool):=(show Option Z21 from cond (decide (x.1≥2305843009213693951)) (some (x.1,x.2.1,x.2.2,true,())) (cond (decide (x.2.1≥2305843009213693951)) (some (x.1,x.2.1,x.2.2,true,())) (some (x.1,x.2.1,x.2.2,decide (x.2.2<0),())))).bind fun z1=>cond z1.2.2.2.1 (some (0,false)) ((b0J z1.2.2.1).bind fun y2=>(a5L (z1.1,y2,z1.2.1)).bind fun y3=>some (y3,true))
def b7Y:FSem:=⟨[.v QU,.v QU,.v QI],[.v QU,.v .bool],b1S⟩
def d5T:Hints:=⟨[],[(6,[Qn [.sv 0 QU,.sv 1 QU,2,.sv 17 .bool]])],[]⟩
def a4t(x:Z26):Option (Int×Bool):=(b0I x.2).bind fun y1=>cond (y1.2 != 0) (some (0,false)) ((a7Y y1.1).bind fun y2=>(b1S (x.1,y2,(y1.1.length:Int))).bind fun y3=>some (y3.1,y3.2))
def a8A:FSem:=⟨[.v QU,.v Q15],[.v QU,.v .bool],a4t⟩
def a8B(s:(Int×Int×Int×b8O×Int×Int×c5y)):Option ((Int×Int×Int×b8O×Int×Int×c5y) ⊕ ((Int×Int×c5y) ⊕ (Bool×((List LI)×Z42)))):=cond (decide (s.2.2.2.2.2.1<s.2.2.2.2.1)) ((m0k s.2.2.2.1 s.2.2.2.2.2.1).bind fun x3=>(show Option (Int×(Int×(Int×(Int×(b8O×(Int×(Int×(Bool×((List LI)×(Z22×a2R×a9S))))))))))from cond (!(eqT Q12 x3.2.2.1 s.2.2.2.2.2.2.2.2.1.1)) (some (s.1,s.2.1,s.2.2.1,s.2.2.2.2.2.1,s.2.2.2.1,s.2.2.2.2.1,s.2.2.2.2.2.1,true,s.2.2.2.2.2.2.1,s.2.2.2.2.2.2.2.1,x3,s.2.2.2.2.2.2.2.2.1,())) (some (s.1,s.2.1,s.2.2.1,s.2.2.2.2.2.1,s.2.2.2.1,s.2.2.2.2.1,s.2.2.2.2.2.1,x3.1 != s.1,s.2.2.2.2.2.2.1,s.2.2.2.2.2.2.2.1,x3,s.2.2.2.2.2.2.2.2.1,()))).bind fun z4=>cond z4.2.2.2.2.2.2.2.1 (some (.inr (Sum.inr ((false,([]:(List LI)),[],()))))) ((show Option (Int×(Int×(Int×(b8O×(Int×(Int×(Bool×((List LI)×(Z22×a2R×a9S)))))))))from(m0k z4.2.2.2.2.2.2.2.2.2.2.2.1.2.2.2.1 z4.2.2.2.1).bind fun x5=>cond (x5.1 != z4.1) (some (z4.1,z4.2.1,z4.2.2.1,z4.2.2.2.2.1,z4.2.2.2.2.2.1,z4.2.2.2.2.2.2.1,true,z4.2.2.2.2.2.2.2.2.1,z4.2.2.2.2.2.2.2.2.2.1,z4.2.2.2.2.2.2.2.2.2.2.1,z4.2.2.2.2.2.2.2.2.2.2.2.1,())) ((m0k z4.2.2.2.2.2.2.2.2.2.2.2.1.2.2.2.1 z4.2.2.2.1).bind fun x6=>some (z4.1,z4.2.1,z4.2.2.1,z4.2.2.2.2.1,z4.2.2.2.2.2.1,z4.2.2.2.2.2.2.1,x6.2.1 != z4.2.1,z4.2.2.2.2.2.2.2.2.1,z4.2.2.2.2.2.2.2.2.2.1,z4.2.2.2.2.2.2.2.2.2.2.1,z4.2.2.2.2.2.2.2.2.2.2.2.1,()))).bind fun z7=>cond z7.2.2.2.2.2.2.1 (some (.inr (Sum.inr ((false,([]:(List LI)),[],()))))) ((a2O z7.2.2.2.2.2.2.2.2.2.1).bind fun y8=>cond (y8.2 != 0) (some (.inr (Sum.inr ((false,([]:(List LI)),[],()))))) ((a4j z7.2.2.2.2.2.2.2.2.2.1).bind fun y9=>cond (y9.2 != 0) (some (.inr (Sum.inr ((false,([]:(List LI)),[],()))))) ((a4t (z7.2.2.1,y8.1)).bind fun y10=>cond (!y10.2) (some (.inr (Sum.inr ((false,([]:(List LI)),[],()))))) (cond (lim ((a01 z7.2.2.2.2.2.2.2.1)+1)) (cond (lim ((a01 z7.2.2.2.2.2.2.2.2.1)+1)) (some (.inl (wrap .i64 (z7.1+z7.2.2.2.2.2.2.2.2.2.1.2.1),wrap .i64 (z7.2.1+(y9.1.length:Int)),y10.1,z7.2.2.2.1,z7.2.2.2.2.1,wrap .i64 (z7.2.2.2.2.2.1+1),a03 z7.2.2.2.2.2.2.2.1 ([y9.1]:List LI),a03 z7.2.2.2.2.2.2.2.2.1 ([y8.1]:List Z10),z7.2.2.2.2.2.2.2.2.2.2.1,()))) none) none)))))) (some (.inr (Sum.inl (s.1,s.2.2.1,s.2.2.2.2.2.2.1,s.2.2.2.2.2.2.2.1,s.2.2.2.2.2.2.2.2.1,()))))
def a9k(x:b1l):Option ((List LI)×(Z22×Bool)):=(show Option (Bool×c5y)from(a1R x.1).bind fun y1=>cond (!y1) (some (true,([]:(List LI)),[],x,())) (cond (decide ((x.2.2.2.2.1.length:Int) > 4096)) (some (true,([]:(List LI)),[],x,())) (some ((x.2.2.2.1.length:Int) != (x.2.2.2.2.1.length:Int),([]:(List LI)),[],x,())))).bind fun z2=>cond z2.1 (some (([]:(List LI)),[],false)) ((y0s a8B (0,0,0,z2.2.2.2.1.2.2.2.2.1,(z2.2.2.2.1.2.2.2.2.1.length:Int),0,z2.2.1,z2.2.2.1,z2.2.2.2.1,())).bind fun w11=>match w11 with |.inl a12=>((show Option (Bool×((List LI)×Z42))from cond (a12.2.2.2.2.1.2.1 != a12.1) (some (true,a12.2.2.1,a12.2.2.2.1,())) (some (a12.2.2.2.2.1.2.2.1 != a12.2.1,a12.2.2.1,a12.2.2.2.1,()))).bind fun z14=>cond z14.1 (some (([]:(List LI)),[],false)) (some (z14.2.1,z14.2.2.1,true))) |.inr b13=>some (b13.2.1,b13.2.2.1,b13.1))
def b4Q:FSem:=⟨[.v Q74],[.o QB,.o Q15,.v .bool],a9k⟩
def H85:Hints:=⟨[(122,[5,6,.sv 7 QU,.sv 33 (.list false Q60),34,35,.own 2 2 QB,.own 3 3 Q15,.vp 1 Q74],[Qe 0 [5,.sv 7 QU,.own 2 2 QB,.own 3 3 Q15,.vp 1 Q74],Qr [.sv 4 .bool,.own 2 2 QB,.own 3 3 Q15]])],[(6,[Qn [.sv 31 .bool,.own 2 2 QB,.own 3 3 Q15,.vp 1 Q74]]),(62,[Qn [.sv 117 .bool,.own 2 2 QB,.own 3 3 Q15]]),(15666,[Qn [5,6,.sv 7 QU,8,.sv 33 (.list false Q60),34,35,.sv 50 .bool,.own 2 2 QB,.own 3 3 Q15,.box 9 Q60,.vp 1 Q74,Qp 9 9]]),(31334,[Qn [5,6,.sv 7 QU,.sv 33 (.list false Q60),34,35,.sv 68 .bool,.own 2 2 QB,.own 3 3 Q15,.box 9 Q60,.vp 1 Q74,Qp 9 9]])],[]⟩
def b6V(s:(Int×(Int×(LI×Z42)))):Option ((Int×(Int×(LI×Z42))) ⊕ (LI×Unit)):=cond (decide (s.2.1<s.1)) (cond ((decide (0≤s.2.1))&&(decide (s.2.1<(s.2.2.2.1.length:Int)))) ((a5e (a04 s.2.2.2.1 (a00 s.2.1) (0,([]:(List LI)),()))).bind fun y2=>cond (lim ((a01 s.2.2.1)+(a01 y2))) (some (.inl (s.1,wrap .i64 (s.2.1+1),a03 s.2.2.1 y2,s.2.2.2.1,()))) none) none) (some (.inr (s.2.2.1,())))
def b4h(x:b1l):Option (LI×Int):=(a9k x).bind fun y1=>cond (!y1.2.2) (some ([],1)) ((y0s b6V ((y1.2.1.length:Int),0,[],y1.2.1,())).bind fun w3=>some (w3.1,0))
def b4i:FSem:=⟨[.v Q74],[.o QI,.v QI],b4h⟩
def H27:Hints:=⟨[(250,[19,20,.own 7 7 QI,.own 18 5 Q15],[Qe 0 [.own 7 7 QI]])],[],[]⟩
def H31:Hints:=⟨[(26,[1,.sv 9 (.list false Q60),10,11],[Qe 0 [],Qr [4,5]])],[],[]⟩
def b6W(x:(b1l×Int)):Option (Int×Int):=A0j (a9T [] [] [0,1,4,5,6] [2]) H31 Tryz.f31 [.v Q74,.v (.int .i64)] [.v (.int .i64),.v (.int .i64)] x
def b6X:FSem:=⟨[.v Q74,.v QI],[.v QI,.v QI],b6W⟩
def a4D(s:(LI×Z6)):Option ((LI×Z6) ⊕ Z0):=cond (decide (s.2.2.1<(s.1.length:Int))) ((m0k s.1 s.2.2.1).bind fun x1=>(m0k s.2.1 s.2.2.1).bind fun x2=>cond (x1 != x2) (some (.inr (Sum.inr ((false,()))))) (some (.inl (s.1,s.2.1,wrap .i64 (s.2.2.1+1),())))) (some (.inr (Sum.inl ())))
def a5g(x:(LI×LI)):Option Bool:=cond ((x.1.length:Int) != (x.2.length:Int)) (some false) ((y0s a4D (x.1,x.2,0,())).bind fun w3=>match w3 with |.inl a4=>some true |.inr b5=>some b5.1)
def b2I:FSem:=⟨[.v QL,.v QL],[.v .bool],a5g⟩
def H35:Hints:=⟨[(58,[.sv 0 QL,.sv 1 QL,5],[Qe 0 [],Qr [.sv 4 .bool]])],[],[(6,[.v,.v,.v,.v,.v,.v,.v,.v,.x])]⟩
def a7Z(s:(Z12×Z26)):Option ((Z12×Z26) ⊕ (Z1 ⊕ ((List LI)×(Int×Unit)))):=cond (decide (s.2.2.1<s.2.1)) ((m0k s.1 s.2.2.1).bind fun x5=>(a7W (s.2.2.2.1,x5,1)).bind fun y6=>cond (!y6.1) (some (.inr (Sum.inr ((([]:(List LI)),6,()))))) (some (.inl (s.1,s.2.1,wrap .i64 (s.2.2.1+1),y6.2,())))) (some (.inr (Sum.inl (s.2.2.2.1,()))))
def b2m(x:((List LI)×Z12)):Option ((List LI)×Int):=(show Option ((List LI)×(Z12×Bool×Unit))from(a7v x.1).bind fun y1=>cond (!y1) (some (x.1,x.2,true,())) ((a8q (x.2,(x.1.length:Int))).bind fun y2=>some (x.1,x.2,!y2,()))).bind fun z3=>cond z3.2.2.1 (some (([]:(List LI)),1)) ((a7d z3.1).bind fun y4=>(y0s a7Z (z3.2.1,(z3.2.1.length:Int),0,y4,())).bind fun w7=>match w7 with |.inl a8=>some (a8.1,0) |.inr b9=>some (b9.1,b9.2.1))
def b6Y:FSem:=⟨[.v (.list false QL),.v (.list false Q12)],[.v (.list false QL),.v QI],b2m⟩
def H59:Hints:=⟨[(122,[.sv 21 (.list false Q12),22,23,.own 6 6 (.list true QI)],[Qe 0 [.own 6 6 (.list true QI)],Qr [.sv 4 (.list false QL),5]])],[(6,[Qn [.sv 0 (.list false QL),.sv 1 (.list false Q12),.sv 18 .bool]])],[]⟩
def a6K(s:(Int×(LI×Z43))):Option ((Int×(LI×Z43)) ⊕ Z43):=cond (decide (s.2.2.1<(s.2.1.length:Int))) ((m0k s.2.1 s.2.2.1).bind fun x3=>(m0k s.2.1 (wrap .i64 (s.2.2.1-1))).bind fun x4=>(m0k s.2.1 (wrap .i64 (s.2.2.1-2))).bind fun x5=>some (.inl (wrap .i64 (s.1+(v0r (wrap .i64 ((wrap .i64 (x3-(wrap .i64 (2*x4))))+x5)) (wrap .i64 (0-(wrap .i64 ((wrap .i64 (x3-(wrap .i64 (2*x4))))+x5)))))),s.2.1,wrap .i64 (s.2.2.1+1),s.2.2.2.1,s.2.2.2.2.1,s.2.2.2.2.2.1,()))) (some (.inr (s.1,s.2.2.2.1,s.2.2.2.2.1,s.2.2.2.2.2.1,())))
def a6L(s:Z43):Option (Z43 ⊕ (Int×Unit)):=cond (decide (s.2.2.2.1<s.2.2.1)) ((m0k s.2.1 s.2.2.2.1).bind fun x2=>(y0s a6K (s.1,x2,2,s.2.1,s.2.2.1,s.2.2.2.1,())).bind fun w6=>some (.inl (w6.1,w6.2.1,w6.2.2.1,wrap .i64 (w6.2.2.2.1+1),()))) (some (.inr (s.1,())))
def a7i(x:(List LI)):Option Int:=(a7v x).bind fun y1=>cond (!y1) (some 0) ((y0s a6L (0,x,(x.length:Int),0,())).bind fun w7=>some w7.1)
def b6z:FSem:=⟨[.v (.list false QL)],[.v QI],a7i⟩
def d5U:Hints:=⟨[(122,[3,.sv 11 (.list false QL),12,13],[Qe 0 [3]]),(31334,[3,.sv 5 QL,6,.sv 11 (.list false QL),12,13],[Qe 2 [3,.sv 11 (.list false QL),12,13]])],[],[(10,[.v,.v,.v,.v,.v,.v,.v,.v,.v,.v,.v,.v,.v,.v,.v,.v,.x,.x])]⟩
def b0K(x:Int):Option Z12:=cond (x==1) (some ([(0,1,(-256),())]:List Z7)) (cond (x==2) (some ([(1,0,(-256),())]:List Z7)) (cond (x==3) (some ([(1,0,(-256),()),(0,1,128,())]:List Z7)) (cond (x==4) (some ([(1,0,(-106),()),(0,1,181,()),(1,0,(-106),())]:List Z7)) (some []))))
def b6Z:FSem:=⟨[.v QI],[.o Q12],b0K⟩
def a6j(s:((List LI)×Z7)):Option (((List LI)×Z7) ⊕ (Int×Unit)):=cond (decide (s.2.2.2.1<5)) ((b0K s.2.2.2.1).bind fun y2=>(b2m (s.1,y2)).bind fun y3=>cond (y3.2 != 0) (some (.inl (s.1,s.2.1,s.2.2.1,wrap .i64 (s.2.2.2.1+1),()))) ((a7i y3.1).bind fun y4=>cond (decide (y4<s.2.2.1)) (some (.inl (s.1,s.2.2.2.1,y4,wrap .i64 (s.2.2.2.1+1),()))) (some (.inl (s.1,s.2.1,s.2.2.1,wrap .i64 (s.2.2.2.1+1),()))))) (some (.inr (s.2.1,())))
def b1T(x:(List LI)):Option Z12:=(a7i x).bind fun y1=>(y0s a6j (x,0,y1,1,())).bind fun w5=>(b0K w5.1).bind fun y6=>some y6
def b7Z:FSem:=⟨[.v (.list false QL)],[.o Q12],b1T⟩
def d5V:Hints:=⟨[(58,[.sv 0 (.list false QL),3,4,5],[Qe 0 [3]])],[],[]⟩
def a6k(s:(Int×Int×Int×Z12×Z91)):Option ((Int×Int×Int×Z12×Z91) ⊕ (Int×Z91)):=cond (decide (s.2.2.1<s.2.1)) (cond ((decide (0≤s.2.2.1))&&(decide (s.2.2.1<(s.2.2.2.2.1.length:Int)))) (cond (lim ((a01 s.2.2.2.1)+1)) (some (.inl (s.1,s.2.1,wrap .i64 (s.2.2.1+1),a03 s.2.2.2.1 ([(wrap .i64 (((a04 s.2.2.2.2.1 (a00 s.2.2.1) (0,0,0,())).1)+s.1),wrap .i64 ((((a04 s.2.2.2.2.1 (a00 s.2.2.1) (0,0,0,())).2).1)+s.1),(((a04 s.2.2.2.2.1 (a00 s.2.2.1) (0,0,0,())).2).2).1,())]:List Z7),s.2.2.2.2.1,s.2.2.2.2.2.1,()))) none) none) (some (.inr (s.1,s.2.2.2.1,s.2.2.2.2.2.1,())))
def a8C(s:(Int×Z91)):Option ((Int×Z91) ⊕ (Z12×Unit)):=cond (decide ((wrap .i64 (s.1+1))<(s.2.2.1.2.1.length:Int))) (cond ((decide (0≤(wrap .i64 (s.1+2))))&&(decide ((wrap .i64 (s.1+2))≤(s.2.2.1.2.1.length:Int)))) (cond ((decide (0≤s.1))&&(decide (s.1≤((a00 (wrap .i64 (s.1+2)):Nat):Int)))) ((b1T (a08 (a00 s.1) (a05 (a00 (wrap .i64 (s.1+2))) s.2.2.1.2.1))).bind fun y2=>(y0s a6k (s.1,(y2.length:Int),0,s.2.1,y2,s.2.2.1,())).bind fun w3=>some (.inl (wrap .i64 (w3.1+2),w3.2.1,w3.2.2.1,()))) none) none) (some (.inr (s.2.1,())))
def a7y(x:Z10):Option Z12:=(a4f x).bind fun y1=>cond (!y1) (some []) ((y0s a8C (0,[],x,())).bind fun w4=>some w4.1)
def b8a:FSem:=⟨[.v Q15],[.o Q12],a7y⟩
def H58:Hints:=⟨[(122,[4,.own 3 3 Q12,.vp 1 Q15],[Qe 0 [.own 3 3 Q12]]),(7826,[4,25,26,.own 3 3 Q12,.own 24 1024 Q12,.vp 1 Q15],[Qe 2 [4,.own 3 3 Q12,.vp 1 Q15]])],[],[]⟩
def a6M(s:Z57):Option (Z57 ⊕ Z47):=cond (decide (s.2.2.2.1<s.2.2.1)) ((m0k s.2.1 s.2.2.2.1).bind fun x2=>(show Option (Int×(Int×(LI×(Int×(Int×(Bool×(LI×Unit)))))))from(a5c x2).bind fun y3=>cond (!y3) (some (s.1,x2,s.2.1,s.2.2.1,s.2.2.2.1,true,s.2.2.2.2.1,())) (cond (decide (s.1<0)) none (cond ((A0n .i64 1 s.1)==0) none (some (s.1,x2,s.2.1,s.2.2.1,s.2.2.2.1,(a06 x2 (A0n .i64 1 s.1)) != 0,s.2.2.2.2.1,()))))).bind fun z4=>cond z4.2.2.2.2.2.1 (some (.inr (Sum.inr ((6,[],()))))) (cond (decide (z4.1<0)) none (cond (lim ((a01 z4.2.2.2.2.2.2.1)+1)) (some (.inl (z4.1,z4.2.2.1,z4.2.2.2.1,wrap .i64 (z4.2.2.2.2.1+1),a03 z4.2.2.2.2.2.2.1 [A0o .i64 z4.2.1 z4.1],()))) none))) (some (.inr (Sum.inl (s.2.2.2.2.1,()))))
def a7j(x:(LI×Int)):Option (LI×Int):=(show Option Z16 from cond (decide (x.2<0)) (some (x.1,x.2,true,())) (some (x.1,x.2,decide (x.2 > 30),()))).bind fun z1=>cond z1.2.2.1 (some ([],1)) ((y0s a6M (z1.2.1,z1.1,(z1.1.length:Int),0,[],())).bind fun w5=>match w5 with |.inl a6=>some (a6.1,0) |.inr b7=>some (b7.2.1,b7.1))
def b2J:FSem:=⟨[.v QL,.v QI],[.o QI,.v QI],a7j⟩
def d5W:Hints:=⟨[(122,[1,.sv 15 QL,16,17,.own 6 6 QI],[Qe 0 [.own 6 6 QI],Qr [5,.own 4 4 QI]])],[(6,[Qn [.sv 0 QL,1,.sv 14 .bool]]),(15666,[Qn [1,8,.sv 15 QL,16,17,.sv 30 .bool,.own 6 6 QI]])],[]⟩
def a1w(x:Int):Option Int:=cond (x==0) (some 64) ((m0k b1F (A0o .u64 (wrap .u64 ((bits .u64 .and x (wrap .u64 (0-x)))*285870213051353865)) 58)).bind fun x1=>some (wrap .i64 x1))
def a1g:FSem:=⟨[.v QU],[.v QI],a1w⟩
def b0L:Cx:=a9T [] [] [0,2] []
theorem b8b{ρ:Type}{cx:Cx}{ops:List Oper}:∀(l1 l2:List (Md×Oper)) (Γ:AE) (K:AE→Rs ρ),h0m cx ops (l1++l2) Γ K=h0m cx ops l1 Γ fun Γ'=>h0m cx ops l2 Γ' K
 | [],_,_,_=>rfl
 |(md,o)::l1,l2,Γ,K=>by
  simp only[a20,h0m];congr 1;funext Γ';exact b8b l1 l2 Γ' K
theorem b7a{ρ:Type}{cx:Cx}{H:Hints}{a b:Code}{p:Nat}(h:find H.cuts p=none)(Γ:AE)(K:Ex→AE→Rs ρ):c0n cx H (.seq a b) p Γ K=c0n cx H a (2*p) Γ fun e Γ'=>match e with
   |.normal=>c0n cx H b (2*p+1) Γ' K
   |e=>K e Γ':=by
 simp only[c0n,h];rfl
theorem c2Z{ρ:Type}{cx:Cx}{H:Hints}{id:Nat}{ops:Array Oper}{p:Nat}(Γ:AE)(K:Ex→AE→Rs ρ):c0n cx H (.region id ops false) p Γ K=h0m cx ops.toList (ops.toList.map fun o=>(.x,o)) Γ fun Γ'=>K .normal Γ':=by
 simp only[c0n,cF]
def a9O:Code:=match Tryz.f191.body with
 |some c=>c
 |none=>.skip
def c1e:Code→Code
 |.seq a _=>a
 |c=>c
def c5A:Code→Code
 |.seq _ b=>b
 |c=>c
def c7b:Code→Array Oper
 |.region _ ops _=>ops
 |_=>#[]
def c5a:Code:=c5A (c5A a9O)
def b3D:List Oper:=(c7b (c1e c5a)).toList
def Γ191(x:Int):AE:=(((ini [.v QU] x).set 2 (.val QI (0:Int))).set 3 (.val QU x)).set 4 (.val .bool (x==(0:Int)))
def Γ191r(x:Int):AE:=(Γ191 x).set 2 (.val QI (64:Int))
def c3a(e:Ex)(Γ:AE):Option Int:=match e,Γ.pd with
  |.exit _,_=>none
  |_,some _=>none
  |_,none=>(Γ.upto Tryz.f191.ntmps).outs b0L [] Tryz.f191.ntmps [.v QI] (Tryz.f191.results.toList.map .inl) fun y _=>some y
def Γ191b(x a b c i:Int):AE:=((((((Γ191 x).set 5 (.val QU x)).set 6 (.val QU x)).set 7 (.val QU a)).set 8 (.val QU b)).set 9 (.val QU c)).set 10 (.val QU i)
set_option maxRecDepth 100000
theorem c8n:a9O=.seq (c1e a9O) (.seq (c1e (c5A a9O)) (.seq (.region 3 (c7b (c1e c5a)) false) .ret)):=by kernel_rfl
theorem d0S(x:Int):A0j b0L QH Tryz.f191 a1g.ps a1g.rs x=c0n b0L QH a9O 1 (ini [.v (.int .u64)] x) c3a:=rfl
theorem d0T(x:Int)(K:Ex→AE→Option Int):c0n b0L QH (c1e a9O) 2 (ini [.v (.int .u64)] x) K=K .normal ((ini [.v (.int .u64)] x).set 2 (.val (.int .i64) (0:Int))):=by kernel_rfl
theorem d0U(x:Int)(K:Ex→AE→Option Int):c0n b0L QH (c1e (c5A a9O)) 6 ((ini [.v (.int .u64)] x).set 2 (.val (.int .i64) (0:Int))) K=bif x==(0:Int)then K .ret (Γ191r x)else K .normal (Γ191 x):=by kernel_rfl
theorem d0V(x:Int):c3a .ret (Γ191r x)=some (64:Int):=by kernel_rfl
theorem d0W(x:Int)(K:AE→Option Int):h0m b0L b3D ((b3D.map fun o=>(Md.x,o)).take 6) (Γ191 x) K =
  K (Γ191b x (wrap .u64 (0-x)) (bits .u64 .and x (wrap .u64 (0-x))) (wrap .u64 ((bits .u64 .and x (wrap .u64 (0-x)))*(285870213051353865:Int))) (A0o .u64 (wrap .u64 ((bits .u64 .and x (wrap .u64 (0-x)))*(285870213051353865:Int))) (58:Int))):=by kernel_rfl
theorem d0X(x a b c i:Int):h0m b0L b3D ((b3D.map fun o=>(Md.x,o)).drop 6) (Γ191b x a b c i) (fun Γ=>c3a .ret Γ)=(m0k b1F i).bind fun h=>some (wrap .i64 h):=by kernel_rfl
theorem d0Y(x:Int):h0m b0L b3D (b3D.map fun o=>(Md.x,o)) (Γ191 x) (fun Γ=>c3a .ret Γ)=(m0k b1F (A0o .u64 (wrap .u64 ((bits .u64 .and x (wrap .u64 (0-x)))*(285870213051353865:Int))) (58:Int))).bind fun h=>some (wrap .i64 h):=by
 rw[←List.take_append_drop 6 (b3D.map fun o=>(Md.x,o)),b8b,d0W,d0X]
theorem d1T(x:Int):c0n b0L QH a9O 1 (ini [.v (.int .u64)] x) c3a=a1w x:=by
 rw[c8n,b7a rfl,d0T];simp only[];rw[b7a rfl,d0U];simp only[];rw[b7a rfl,c2Z];simp only[c0n];rw[d0V];exact congrArg (fun z=>bif x==(0:Int)then some (64:Int)else z) (d0Y x)
theorem d2S(x):A0j b0L QH Tryz.f191 a1g.ps a1g.rs x=a1g.F x:=(d0S x).trans (d1T x)
def a5p(s:Z29):Option Z64:=cond (decide (s.2.2.2.1<s.2.2.1)) ((m0k s.2.1 s.2.2.2.1).bind fun x1=>some (.inl (bits .i64 .or s.1 x1,s.2.1,s.2.2.1,wrap .i64 (s.2.2.2.1+1),()))) (some (.inr (s.1,())))
def a3x(x:LI):Option Int:=(y0s a5p (0,x,(x.length:Int),0,())).bind fun w2=>cond (w2.1==0) (some 0) ((a1w (wrap .u64 w2.1)).bind fun y3=>some (v0s y3 30))
def b0M:FSem:=⟨[.v QL],[.v QI],a3x⟩
def d5X:Hints:=⟨[(58,[3,.sv 6 QL,7,8],[Qe 0 [3]])],[],[]⟩
def a5q(s:Z31):Option (Z31 ⊕ Z14):=cond (decide ((wrap .i64 (s.1+1))<(s.2.2.2.1.length:Int))) (cond ((decide (0≤(wrap .i64 (s.1+1))))&&(decide ((wrap .i64 (s.1+1))<(s.2.2.2.1.length:Int)))) (cond ((decide (0≤s.1))&&(decide (s.1<(s.2.2.2.1.length:Int)))) (cond ((decide (0≤s.1))&&(decide (s.1<(s.2.2.2.1.length:Int)))) (some (.inl (wrap .i64 (s.1+1),s.2.1,s.2.2.1,a09 s.2.2.2.1 (a00 s.1) (wrap .i64 ((a04 s.2.2.2.1 (a00 (wrap .i64 (s.1+1))) 0)-(a04 s.2.2.2.1 (a00 s.1) 0))),()))) none) none) none) (some (.inr (s.2.1,s.2.2.1,s.2.2.2.1,())))
def a7M(s:Z14):Option (Z14 ⊕ (LI×Unit)):=cond (decide (s.2.1<s.1)) ((y0s a5q (0,s.1,s.2.1,s.2.2.1,())).bind fun w3=>cond ((decide (0≤(wrap .i64 ((w3.2.2.1.length:Int)-1))))&&(decide ((wrap .i64 ((w3.2.2.1.length:Int)-1))≤(w3.2.2.1.length:Int)))) (cond (decide ((a00 (wrap .i64 ((w3.2.2.1.length:Int)-1)))≤(a01 w3.2.2.1))) (some (.inl (w3.1,wrap .i64 (w3.2.1+1),a05 (a00 (wrap .i64 ((w3.2.2.1.length:Int)-1))) w3.2.2.1,()))) none) none) (some (.inr (s.2.2.1,())))
def a4E(x:(LI×Int)):Option (LI×Int):=(show Option Z16 from cond (decide (x.2<0)) (some (x.1,x.2,true,())) (cond (decide (x.2 > 4)) (some (x.1,x.2,true,())) (some (x.1,x.2,decide ((x.1.length:Int)<x.2),())))).bind fun z1=>cond z1.2.2.1 (some ([],1)) ((a2C z1.1).bind fun y2=>cond (!y2) (some ([],6)) (cond (lim (a01 z1.1)) ((y0s a7M (z1.2.1,0,z1.1,())).bind fun w4=>(a2C w4.1).bind fun y5=>cond (!y5) (some ([],6)) (some (w4.1,0))) none))
def b3E:FSem:=⟨[.v QL,.v QI],[.o QI,.v QI],a4E⟩
def d5Y:Hints:=⟨[(250,[25,26,.own 6 6 QI],[Qe 0 [.own 6 6 QI]]),(64098,[7,25,26,.own 6 6 QI],[Qe 2 [25,26,.own 6 6 QI]])],[(6,[Qn [.sv 0 QL,1,.sv 19 .bool]])],[(11,[.q,.v,.q,.v,.v,.q,.q,.q,.v,.q,.q,.v,.x,.x])]⟩
def a4F(s:Z49):Option (Z49 ⊕ (Int×Unit)):=cond (decide (s.2.2.2.2.1<s.2.2.2.1)) ((m0k s.2.2.1 s.2.2.2.2.1).bind fun x1=>cond (decide ((wrap .i64 (s.2.2.2.2.1+s.1))≥4)) (some (.inl (s.1,wrap .i64 (s.2.1+(v0r x1 (wrap .i64 (0-x1)))),s.2.2.1,s.2.2.2.1,wrap .i64 (s.2.2.2.2.1+1),()))) (some (.inl (s.1,s.2.1,s.2.2.1,s.2.2.2.1,wrap .i64 (s.2.2.2.2.1+1),())))) (some (.inr (s.2.1,())))
def a9w(x:(LI×Int)):Option Int:=(y0s a4F (x.2,0,x.1,(x.1.length:Int),0,())).bind fun w2=>some w2.1
def b6A:FSem:=⟨[.v QL,.v QI],[.v QI],a9w⟩
def d5Z:Hints:=⟨[(58,[1,5,.sv 8 QL,9,10],[Qe 0 [5]])],[],[]⟩
def a3y(s:Z30):Option (Z30 ⊕ (Int×Unit)):=cond (decide (s.2.2.2.1≤4)) ((a4E (s.1,s.2.2.2.1)).bind fun y1=>cond (y1.2 != 0) (some (.inl (s.1,s.2.1,s.2.2.1,wrap .i64 (s.2.2.2.1+1),()))) ((a9w (y1.1,s.2.2.2.1)).bind fun y2=>(show Option (LI×(Int×Z21))from cond (decide (s.2.2.1<0)) (some (s.1,s.2.1,s.2.2.1,s.2.2.2.1,y2,true,())) (some (s.1,s.2.1,s.2.2.1,s.2.2.2.1,y2,decide (y2<s.2.2.1),()))).bind fun z3=>cond z3.2.2.2.2.2.1 (some (.inl (z3.1,z3.2.2.2.1,z3.2.2.2.2.1,wrap .i64 (z3.2.2.2.1+1),()))) (some (.inl (z3.1,z3.2.1,z3.2.2.1,wrap .i64 (z3.2.2.2.1+1),()))))) (some (.inr (s.2.1,())))
def a6l(x:LI):Option Int:=(y0s a3y (x,0,(-1),0,())).bind fun w4=>some w4.1
def b7b:FSem:=⟨[.v QL],[.v QI],a6l⟩
def d6a:Hints:=⟨[(58,[.sv 0 QL,3,4,5],[Qe 0 [3]])],[(7463,[Qn [.sv 0 QL,3,4,5,8,.sv 30 .bool]])],[]⟩
def a2v(x:Int):Option Int:=some (v0s (v0r x (-1048576)) 1048575)
def b1o:FSem:=⟨[.v QI],[.v QI],a2v⟩
def a3m(s:Z72):Option (Z72 ⊕ Z59):=cond (decide (s.2.1<0)) none ((a2v (A0o .i64 s.2.2.1 s.2.1)).bind fun y2=>cond (decide (s.2.1<0)) none (cond (y2 != (A0o .i64 s.2.2.1 s.2.1)) (some (.inl (s.1,wrap .i64 (s.2.1+1),s.2.2.1,s.2.2.2.1,s.2.2.2.2.1,s.2.2.2.2.2.1,()))) (some (.inr (s.1,s.2.1,s.2.2.2.1,s.2.2.2.2.1,s.2.2.2.2.2.1,())))))
def a5r(s:Z59):Option (Z59 ⊕ Z6):=cond (decide (s.2.2.2.2.1<s.2.2.2.1)) ((m0k s.2.2.1 s.2.2.2.2.1).bind fun x1=>(y0s a3m (s.1,s.2.1,x1,s.2.2.1,s.2.2.2.1,s.2.2.2.2.1,())).bind fun w3=>some (.inl (w3.1,w3.2.1,w3.2.2.1,w3.2.2.2.1,wrap .i64 (w3.2.2.2.2.1+1),()))) (some (.inr (s.1,s.2.1,())))
def a5s(s:Z57):Option (Z57 ⊕ (LI×Unit)):=cond (decide (s.2.2.2.1<s.2.2.1)) ((m0k s.2.1 s.2.2.2.1).bind fun x5=>cond (decide (s.1<0)) none (cond ((decide (0≤s.2.2.2.1))&&(decide (s.2.2.2.1<(s.2.2.2.2.1.length:Int)))) (some (.inl (s.1,s.2.1,s.2.2.1,wrap .i64 (s.2.2.2.1+1),a09 s.2.2.2.2.1 (a00 s.2.2.2.1) (A0o .i64 x5 s.1),()))) none)) (some (.inr (s.2.2.2.2.1,())))
def a7N(x:LI):Option LI:=(y0s a5r (x,0,x,(x.length:Int),0,())).bind fun w4=>cond ((decide (0≤(w4.1.length:Int)))&&((decide ((w4.1.length:Int)≤(w4.1.length:Int)))&&(lim (a00 (w4.1.length:Int))))) ((y0s a5s (w4.2.1,w4.1,(w4.1.length:Int),0,a02 (a00 (w4.1.length:Int)) 0,())).bind fun w6=>some w6.1) none
def b4j:FSem:=⟨[.v QL],[.o QI],a7N⟩
def d6b:Hints:=⟨[(58,[.sv 0 QL,3,.sv 9 QL,10,11],[Qe 0 [.sv 0 QL,3]]),(250,[3,.sv 29 QL,30,31,.own 6 6 QI],[Qe 4 [.own 6 6 QI]]),(7474,[.sv 0 QL,3,5,.sv 9 QL,10,11],[Qe 2 [.sv 0 QL,3,.sv 9 QL,10,11]])],[],[(5,[.v,.v,.v,.v,.v,.v,.v,.x])]⟩
def a3g(s:Z60):Option (Z60 ⊕ (Int×Int×Unit)):=cond (decide (s.2.2.2.2.1<(s.1.length:Int))) ((m0k s.1 s.2.2.2.2.1).bind fun x1=>(m0k s.2.1 (wrap .i64 (s.2.2.2.2.1-1))).bind fun x2=>(m0k s.1 s.2.2.2.2.1).bind fun x3=>(m0k s.1 s.2.2.2.2.1).bind fun x4=>(m0k s.2.1 (wrap .i64 (s.2.2.2.2.1-1))).bind fun x5=>(m0k s.2.1 (wrap .i64 (s.2.2.2.2.1-1))).bind fun x6=>some (.inl (s.1,s.2.1,wrap .i64 (s.2.2.1+(wrap .i64 (x1*x2))),wrap .i64 (s.2.2.2.1+(wrap .i64 ((wrap .i64 (x3*x4))+(wrap .i64 (x5*x6))))),wrap .i64 (s.2.2.2.2.1+1),()))) (some (.inr (s.2.2.1,s.2.2.2.1,())))
def a3h(s:(Int×Int×Unit)):Option ((Int×Int×Unit) ⊕ (Int×Int×Unit)):=cond (decide (s.2.1≥1099511627776)) (some (.inl (A0o .i64 s.1 1,A0o .i64 s.2.1 1,()))) (some (.inr (s.1,s.2.1,())))
def a4R(x:Z9):Option Int:=(y0s a3g (x.1,x.2.1,0,0,x.2.2,())).bind fun w7=>(y0s a3h (w7.1,w7.2.1,())).bind fun w8=>cond (w8.2.1==0) (some 0) (cond (w8.2.1==0) none ((show Option (Int×Unit)from cond (w8.2.1==0) none (cond (decide ((a06 (A0n .i64 w8.1 15) w8.2.1)<0)) (some (wrap .i64 ((wrap .i64 (a07 (A0n .i64 w8.1 15) w8.2.1))-1),())) (some (wrap .i64 (a07 (A0n .i64 w8.1 15) w8.2.1),())))).bind fun z9=>some (v0s (v0r z9.1 (-16383)) 16383)))
def b1h:FSem:=⟨[.v QL,.v QL,.v QI],[.v QI],a4R⟩
def d6c:Hints:=⟨[(58,[.sv 0 QL,.sv 1 QL,7,8,9],[Qe 0 [7,8]]),(60,[7,8],[Qe 2 [7,8]])],[(255,[Qn [10]])],[(5,[.v,.v,.v,.v,.v,.v,.v,.v,.v,.v,.v,.x,.x]),(6,[.v,.v,.v,.v,.v,.v,.v,.v,.v,.v,.v,.v,.v,.v,.v,.v,.v,.v,.v,.v,.v,.v,.x,.x])]⟩
def a2X(s:(Int×Int×Z70)):Option ((Int×Int×Z70) ⊕ Z70):=cond (decide (s.2.2.2.1≥s.2.1)) (cond ((decide (0≤s.2.2.2.1))&&(decide (s.2.2.2.1<(s.2.2.2.2.1.length:Int)))) (cond ((decide (0≤(wrap .i64 (s.2.2.2.1-1))))&&(decide ((wrap .i64 (s.2.2.2.1-1))<(s.2.2.2.2.2.1.length:Int)))) ((a2v (wrap .i64 ((a04 s.2.2.2.2.1 (a00 s.2.2.2.1) 0)-(A0o .i64 (wrap .i64 (s.2.2.1*(a04 s.2.2.2.2.2.1 (a00 (wrap .i64 (s.2.2.2.1-1))) 0))) 14)))).bind fun y6=>cond ((decide (0≤s.2.2.2.1))&&(decide (s.2.2.2.1<(s.2.2.2.2.1.length:Int)))) ((a2v (wrap .i64 ((a04 s.2.2.2.2.2.1 (a00 (wrap .i64 (s.2.2.2.1-1))) 0)-(A0o .i64 (wrap .i64 (s.2.2.1*(a04 s.2.2.2.2.1 (a00 s.2.2.2.1) 0))) 14)))).bind fun y7=>cond ((decide (0≤s.2.2.2.1))&&(decide (s.2.2.2.1<(s.2.2.2.2.2.1.length:Int)))) (some (.inl (s.1,s.2.1,s.2.2.1,wrap .i64 (s.2.2.2.1-1),a09 s.2.2.2.2.1 (a00 s.2.2.2.1) y6,a09 s.2.2.2.2.2.1 (a00 s.2.2.2.1) y7,s.2.2.2.2.2.2.1,()))) none) none) none) none) (some (.inr (s.1,s.2.1,s.2.2.2.2.1,s.2.2.2.2.2.1,s.2.2.2.2.2.2.1,())))
def a2Y(s:Z70):Option (Z70 ⊕ (LI×Unit)):=cond (decide (s.2.1≤s.1)) ((a4R (s.2.2.1,s.2.2.2.1,s.2.1)).bind fun y5=>cond (lim ((a01 s.2.2.2.2.1)+1)) ((y0s a2X (s.1,s.2.1,y5,wrap .i64 ((s.2.2.1.length:Int)-1),s.2.2.1,s.2.2.2.1,a03 s.2.2.2.2.1 [y5],())).bind fun w8=>some (.inl (w8.1,wrap .i64 (w8.2.1+1),w8.2.2.1,w8.2.2.2.1,w8.2.2.2.2.1,()))) none) (some (.inr (s.2.2.2.2.1,())))
def a6N(x:(LI×Int)):Option (LI×Int):=(show Option Z16 from cond (decide (x.2<1)) (some (x.1,x.2,true,())) (cond (decide (x.2 > 32)) (some (x.1,x.2,true,())) (some (x.1,x.2,decide ((x.1.length:Int) > 4096),())))).bind fun z1=>cond z1.2.2.1 (some ([],1)) ((a2t z1.1).bind fun y2=>cond (!y2) (some ([],6)) ((a7N z1.1).bind fun y3=>(a1d y3).bind fun y4=>cond ((decide (0≤z1.2.1))&&(lim (a00 z1.2.1))) ((y0s a2Y (z1.2.1,1,y3,y4,[],())).bind fun w9=>some (w9.1,0)) none))
def b3F:FSem:=⟨[.v QL,.v QI],[.o QI,.v QI],a6N⟩
def d6d:Hints:=⟨[(1018,[1,9,.own 6 6 QI,.own 7 7 QI,.own 8 8 QI],[Qe 0 [.own 8 8 QI]]),(260686,[1,9,10,11,.own 6 6 QI,.own 7 7 QI,.own 8 8 QI],[Qe 2 [1,9,.own 6 6 QI,.own 7 7 QI,.own 8 8 QI]])],[(6,[Qn [.sv 0 QL,1,.sv 24 .bool]])],[(16,[.q,.v,.q,.q,.q,.v,.v,.q,.q,.v,.x])]⟩
def a2b(s:Z44):Option (Z44 ⊕ ((LI×Unit) ⊕ Z6)):=cond (decide (s.2.2.2.1<s.2.2.1)) ((m0k s.2.1 s.2.2.2.1).bind fun x2=>(show Option (LI×Z33)from cond (decide (x2<(-16383))) (some (s.1,s.2.1,s.2.2.1,s.2.2.2.1,true,())) (some (s.1,s.2.1,s.2.2.1,s.2.2.2.1,decide (x2 > 16383),()))).bind fun z3=>cond z3.2.2.2.2.1 (some (.inr (Sum.inr (([],1,()))))) (some (.inl (z3.1,z3.2.1,z3.2.2.1,wrap .i64 (z3.2.2.2.1+1),())))) (some (.inr (Sum.inl (s.1,()))))
def a3R(s:(LI×(Int×(Int×(LI×Z75))))):Option ((LI×(Int×(Int×(LI×Z75)))) ⊕ Z57):=cond (decide (s.2.2.2.2.2.2.2.2.1<s.2.2.2.2.2.2.2.1)) ((m0k s.2.2.2.2.2.2.1 s.2.2.2.2.2.2.2.2.1).bind fun x8=>(m0k s.1 (wrap .i64 ((wrap .i64 (s.2.1-1))-s.2.2.2.2.2.2.2.2.1))).bind fun x9=>cond (lim ((a01 s.2.2.2.2.2.2.2.2.2.1)+1)) (some (.inl (s.1,s.2.1,s.2.2.1,s.2.2.2.1,s.2.2.2.2.1,s.2.2.2.2.2.1,s.2.2.2.2.2.2.1,s.2.2.2.2.2.2.2.1,wrap .i64 (s.2.2.2.2.2.2.2.2.1+1),a03 s.2.2.2.2.2.2.2.2.2.1 [wrap .i64 (x8-(A0o .i64 (wrap .i64 (s.2.2.1*x9)) 14))],()))) none) (some (.inr (s.2.2.1,s.2.2.2.1,s.2.2.2.2.1,s.2.2.2.2.2.1,s.2.2.2.2.2.2.2.2.2.1,())))
def a5X(s:Z44):Option (Z44 ⊕ (LI×Unit)):=cond (decide (s.2.2.2.1<s.2.2.1)) ((m0k s.2.1 s.2.2.2.1).bind fun x7=>cond ((decide (0≤(wrap .i64 (s.2.2.2.1+1))))&&(lim (a00 (wrap .i64 (s.2.2.2.1+1))))) ((y0s a3R (s.1,s.2.2.2.1,x7,s.2.1,s.2.2.1,s.2.2.2.1,s.1,(s.1.length:Int),0,[],())).bind fun w10=>cond (lim ((a01 w10.2.2.2.2.1)+1)) (some (.inl (a03 w10.2.2.2.2.1 [w10.1],w10.2.1,w10.2.2.1,wrap .i64 (w10.2.2.2.1+1),()))) none) none) (some (.inr (s.1,())))
def a8D(x:LI):Option (LI×Int):=(show Option (LI×(Bool×Unit))from cond (decide ((x.length:Int)<1)) (some (x,true,())) (some (x,decide ((x.length:Int) > 32),()))).bind fun z1=>cond z1.2.1 (some ([],1)) ((y0s a2b (z1.1,z1.1,(z1.1.length:Int),0,())).bind fun w4=>match w4 with |.inl a5=>((y0s a5X ([],a5.1,(a5.1.length:Int),0,())).bind fun w11=>some (w11.1,0)) |.inr b6=>some (b6.1,b6.2.1))
def b5h:FSem:=⟨[.v QL],[.v QL,.v QI],a8D⟩
def d6e:Hints:=⟨[(58,[.sv 0 QL,.sv 20 QL,21,22],[Qe 0 [.sv 0 QL],Qr [.sv 2 QL,3]]),(250,[.sv 6 QL,.sv 34 QL,35,36],[Qe 2 [.sv 6 QL]]),(256410,[.sv 6 QL,7,8,.sv 34 QL,35,36,.sv 44 QL,45,46,.own 9 9 QI],[Qe 4 [8,.sv 34 QL,35,36,.own 9 9 QI]])],[(6,[Qn [.sv 0 QL,.sv 19 .bool]]),(3737,[Qn [.sv 0 QL,.sv 20 QL,21,22,.sv 31 .bool]])],[]⟩
def a2c(s:Z59):Option (Z59 ⊕ (Z6 ⊕ Z14)):=cond (decide (s.2.2.2.2.1<s.2.2.2.1)) ((m0k s.2.2.1 s.2.2.2.2.1).bind fun x2=>(show Option (LI×(Int×Z33))from cond (decide (x2<(-35184372088832))) (some (s.1,s.2.1,s.2.2.1,s.2.2.2.1,s.2.2.2.2.1,true,())) (some (s.1,s.2.1,s.2.2.1,s.2.2.2.1,s.2.2.2.2.1,decide (x2 > 35184372088832),()))).bind fun z3=>cond z3.2.2.2.2.2.1 (some (.inr (Sum.inr ((0,1,[],()))))) (some (.inl (z3.1,z3.2.1,z3.2.2.1,z3.2.2.2.1,wrap .i64 (z3.2.2.2.2.1+1),())))) (some (.inr (Sum.inl (s.1,s.2.1,()))))
def a2d(s:(LI×(Int×Z75))):Option ((LI×(Int×Z75)) ⊕ Z40):=cond (decide (s.2.2.2.2.2.2.1<s.2.2.2.2.2.1)) ((m0k s.2.2.2.2.1 s.2.2.2.2.2.2.1).bind fun x8=>cond (decide (s.2.2.1<0)) none ((a1Q (A0o .i64 (wrap .i64 (x8+s.2.2.2.1)) s.2.2.1,s.2.1)).bind fun y9=>cond (!y9) (some (.inr (s.1,s.2.1,s.2.2.1,s.2.2.2.2.2.2.2.1,()))) (cond (lim ((a01 s.2.2.2.2.2.2.2.1)+1)) (some (.inl (s.1,s.2.1,s.2.2.1,s.2.2.2.1,s.2.2.2.2.1,s.2.2.2.2.2.1,wrap .i64 (s.2.2.2.2.2.2.1+1),a03 s.2.2.2.2.2.2.2.1 [A0o .i64 (wrap .i64 (x8+s.2.2.2.1)) s.2.2.1],()))) none))) (some (.inr (s.1,s.2.1,s.2.2.1,s.2.2.2.2.2.2.2.1,())))
def a2L(s:Z13):Option (Z13 ⊕ (Unit ⊕ Z14)):=cond (decide (s.2.2.1≤14)) ((show Option Z30 from cond (decide (s.2.2.1 > 0)) (cond (decide ((wrap .i64 (s.2.2.1-1))<0)) none (some (s.1,s.2.1,s.2.2.1,A0n .i64 1 (wrap .i64 (s.2.2.1-1)),()))) (some (s.1,s.2.1,s.2.2.1,0,()))).bind fun z7=>cond ((decide (0≤(z7.1.length:Int)))&&(lim (a00 (z7.1.length:Int)))) ((y0s a2d (z7.1,z7.2.1,z7.2.2.1,z7.2.2.2.1,z7.1,(z7.1.length:Int),0,[],())).bind fun w10=>cond ((w10.2.2.2.1.length:Int)==(w10.1.length:Int)) (some (.inr (Sum.inr ((wrap .i64 (14-w10.2.2.1),0,w10.2.2.2.1,()))))) (some (.inl (w10.1,w10.2.1,wrap .i64 (w10.2.2.1+1),())))) none) (some (.inr (Sum.inl ())))
def a8E(x:(LI×Int)):Option Z3:=(show Option Z16 from cond (decide ((x.1.length:Int)<1)) (some (x.1,x.2,true,())) (cond (decide ((x.1.length:Int) > 32)) (some (x.1,x.2,true,())) (cond (decide (x.2<2)) (some (x.1,x.2,true,())) (some (x.1,x.2,decide (x.2 > 16),()))))).bind fun z1=>cond z1.2.2.1 (some ([],0,1)) ((y0s a2c (z1.1,z1.2.1,z1.1,(z1.1.length:Int),0,())).bind fun w4=>match w4 with |.inl a5=>((y0s a2L (a5.1,a5.2.1,0,())).bind fun w11=>match w11 with |.inl a12=>some ([],0,6) |.inr b13=>some (b13.2.2.1,b13.1,b13.2.1)) |.inr b6=>some (b6.2.2.1,b6.1,b6.2.1))
def b5i:FSem:=⟨[.v QL,.v QI],[.o QI,.v QI,.v QI],a8E⟩
def d6f:Hints:=⟨[(58,[.sv 0 QL,1,.sv 31 QL,32,33],[Qe 0 [.sv 0 QL,1],Qr [5,6,.own 4 4 QI]]),(122,[.sv 0 QL,1,9],[Qe 2 [],Qr [5,6,.own 4 11 QI]]),(125242,[.sv 0 QL,1,9,10,.sv 56 QL,57,58,.own 11 11 QI],[Qe 4 [.sv 0 QL,1,9,.own 11 11 QI]])],[(6,[Qn [.sv 0 QL,1,.sv 30 .bool]]),(3737,[Qn [.sv 0 QL,1,.sv 31 QL,32,33,.sv 42 .bool]]),(3913,[Qn [.sv 0 QL,1,9,10]])],[]⟩
def a3L(x:Z3):Option Z3:=(a6N (x.1,x.2.1)).bind fun y1=>cond (y1.2 != 0) (some ([],0,y1.2)) ((a8D y1.1).bind fun y2=>cond (y2.2 != 0) (some ([],0,y2.2)) ((a8E (y2.1,x.2.2)).bind fun y3=>some (y3.1,y3.2.1,y3.2.2)))
def b2K:FSem:=⟨[.v QL,.v QI,.v QI],[.o QI,.v QI,.v QI],a3L⟩
def c1f(s:(LI×Z65)):Option ((LI×Z65) ⊕ (LI×Z53)):=cond (decide (s.2.2.2.2.2.2.2.1<(s.1.length:Int))) ((m0k s.1 s.2.2.2.2.2.2.2.1).bind fun x3=>(m0k s.1 (wrap .i64 (s.2.2.2.2.2.2.2.1-s.2.2.2.2.2.1))).bind fun x4=>some (.inl (s.1,s.2.1,s.2.2.1,s.2.2.2.1,s.2.2.2.2.1,s.2.2.2.2.2.1,wrap .i64 (s.2.2.2.2.2.2.1+(v0r (wrap .i64 (x3-x4)) (wrap .i64 (0-(wrap .i64 (x3-x4)))))),wrap .i64 (s.2.2.2.2.2.2.2.1+1),()))) (some (.inr (s.1,s.2.1,s.2.2.1,s.2.2.2.1,s.2.2.2.2.1,s.2.2.2.2.2.1,s.2.2.2.2.2.2.1,())))
def c1g(s:(LI×Z35)):Option ((LI×Z35) ⊕ (Int×Unit)):=cond (decide (s.2.2.2.2.2.1≤s.2.2.1)) ((y0s c1f (s.1,s.2.1,s.2.2.1,s.2.2.2.1,s.2.2.2.2.1,s.2.2.2.2.2.1,0,s.2.2.1,())).bind fun w5=>(show Option (LI×(Int×Int×Int×Z21))from cond (w5.2.2.2.2.2.1==w5.2.1) (some (w5.1,w5.2.1,w5.2.2.1,w5.2.2.2.1,w5.2.2.2.2.1,w5.2.2.2.2.2.1,w5.2.2.2.2.2.2.1,true,())) (some (w5.1,w5.2.1,w5.2.2.1,w5.2.2.2.1,w5.2.2.2.2.1,w5.2.2.2.2.2.1,w5.2.2.2.2.2.2.1,decide (w5.2.2.2.2.2.2.1<w5.2.2.2.2.1),()))).bind fun z6=>cond z6.2.2.2.2.2.2.2.1 (some (.inl (z6.1,z6.2.1,z6.2.2.1,z6.2.2.2.2.2.1,z6.2.2.2.2.2.2.1,wrap .i64 (z6.2.2.2.2.2.1+1),()))) (some (.inl (z6.1,z6.2.1,z6.2.2.1,z6.2.2.2.1,z6.2.2.2.2.1,wrap .i64 (z6.2.2.2.2.2.1+1),())))) (some (.inr (s.2.2.2.1,())))
def b1U(x:Z3):Option (Int×Int):=(show Option Z33 from cond (decide (x.2.1<2)) (some (x.1,x.2.1,x.2.2,true,())) (cond (decide (x.2.1 > x.2.2)) (some (x.1,x.2.1,x.2.2,true,())) (cond (decide (x.2.2 > 1024)) (some (x.1,x.2.1,x.2.2,true,())) (some (x.1,x.2.1,x.2.2,decide ((x.1.length:Int) > 4096),()))))).bind fun z1=>cond z1.2.2.2.1 (some (0,1)) (cond (decide ((z1.1.length:Int)≤z1.2.2.1)) (some (0,7)) ((a4o z1.1).bind fun y2=>cond (!y2) (some (0,6)) ((y0s c1g (z1.1,z1.2.1,z1.2.2.1,0,0,z1.2.1,())).bind fun w7=>some (w7.1,0))))
def b8c:FSem:=⟨[.v QL,.v QI,.v QI],[.v QI,.v QI],b1U⟩
def d6g:Hints:=⟨[(506,[.sv 0 QL,1,2,8,9,10],[Qe 0 [8]]),(129610,[.sv 0 QL,1,2,8,9,10,11,12],[Qe 2 [.sv 0 QL,1,2,8,9,10,11]])],[(6,[Qn [.sv 0 QL,1,2,.sv 29 .bool]]),(32403,[Qn [.sv 0 QL,1,2,8,9,10,11,.sv 74 .bool]])],[(15,[.v,.v,.v,.v,.v,.v,.v,.v,.v,.v,.x,.x])]⟩
def a6m(s:(LI×Z83)):Option ((LI×Z83) ⊕ Z47):=cond (decide (s.2.2.2.2.1<s.2.2.2.1)) ((m0k s.2.2.1 s.2.2.2.2.1).bind fun x3=>(a4p (s.1,s.2.2.2.2.1,s.2.1,s.2.2.2.2.2.2.1)).bind fun y4=>(a7u (wrap .i64 (x3-y4))).bind fun y5=>cond (!y5) (some (.inr (Sum.inr ((6,[],()))))) (cond (lim ((a01 s.2.2.2.2.2.1)+1)) (some (.inl (s.1,s.2.1,s.2.2.1,s.2.2.2.1,wrap .i64 (s.2.2.2.2.1+1),a03 s.2.2.2.2.2.1 [wrap .i64 (x3-y4)],s.2.2.2.2.2.2.1,()))) none)) (some (.inr (Sum.inl (s.2.2.2.2.2.1,()))))
def a9l(x:(LI×(Int×LI))):Option (LI×Int):=(a8r (x.2.1,x.2.2)).bind fun y1=>cond (!y1) (some ([],1)) ((a4o x.1).bind fun y2=>cond (!y2) (some ([],6)) (cond ((decide (0≤(x.1.length:Int)))&&(lim (a00 (x.1.length:Int)))) ((y0s a6m (x.1,x.2.1,x.1,(x.1.length:Int),0,[],x.2.2,())).bind fun w6=>match w6 with |.inl a7=>some (a7.1,0) |.inr b8=>some (b8.2.1,b8.1)) none))
def a9m:FSem:=⟨[.v QL,.v QI,.v (.arr 3 QI)],[.o QI,.v QI],a9l⟩
def d6h:Hints:=⟨[(250,[.sv 0 QL,1,.sv 22 QL,23,24,.own 8 8 QI,.vp 5 (.arr 3 QI)],[Qe 0 [.own 8 8 QI],Qr [7,.own 6 6 QI]])],[],[]⟩
def c3b(x:Unit):Option (List LI):=A0j (a9T [] [] [0] []) QH Tryz.f305 [] [.o (.arr 3 (.int .i64))] x
def b3G:FSem:=⟨[],[.o (.arr 3 QI)],c3b⟩
def d1U:Hints:=⟨[(122,[.sv 0 QL,1,7,.sv 8 .bool,25,26,.own 24 1024 (.arr 3 QI),.box 4 (.arr 3 QI),.box 6 (.arr 3 QI),Qp 4 4,Qp 6 6],[Qe 0 [.sv 8 .bool,.box 4 (.arr 3 QI),.box 6 (.arr 3 QI),Qp 4 4,Qp 6 6]]),(501370,[.sv 0 QL,1,7,.sv 8 .bool,13,25,26,40,41,.own 24 1024 (.arr 3 QI),.own 39 11 QI,.box 4 (.arr 3 QI),.box 6 (.arr 3 QI),.box 10 (.arr 3 QI),Qp 4 4,Qp 6 6,Qp 10 10],[Qe 2 [.sv 0 QL,1,7,.sv 8 .bool,13,25,26,.own 24 1024 (.arr 3 QI),.box 4 (.arr 3 QI),.box 6 (.arr 3 QI),.box 10 (.arr 3 QI),Qp 4 4,Qp 6 6,Qp 10 10]])],[(6,[Qn [.sv 0 QL,1,.sv 21 .bool,.box 4 (.arr 3 QI),Qp 4 4]]),(125343,[Qn [.sv 0 QL,1,7,.sv 8 .bool,13,25,26,.sv 58 .bool,.own 24 1024 (.arr 3 QI),.box 4 (.arr 3 QI),.box 6 (.arr 3 QI),.box 10 (.arr 3 QI),Qp 4 4,Qp 6 6,Qp 10 10]])],[]⟩
def b8d(x:(LI×Int)):Option (LI×Int):=A0j (a9T [(250,a9m),(305,b3G)] [] [0,1,5,7,8,11,12,13,15] []) d1U Tryz.f249 [.v (.list false (.int .i64)),.v (.int .i64)] [.v (.arr 3 (.int .i64)),.v (.int .i64)] x
def b8e:FSem:=⟨[.v QL,.v QI],[.v (.arr 3 QI),.v QI],b8d⟩
def a3n(x:LI):Option (a1T×Bool):=(b1U (x,16,256)).bind fun y1=>cond (y1.2 != 0) (some ((0,0,0,0,0,[],a02 3 0,[],[],(0,[],()),[],()),false)) ((b8d (x,y1.1)).bind fun y2=>cond (y2.2 != 0) (some ((0,0,0,0,0,[],a02 3 0,[],[],(0,[],()),[],()),false)) ((a9l (x,y1.1,y2.1)).bind fun y3=>cond (y3.2 != 0) (some ((0,0,0,0,0,[],a02 3 0,[],[],(0,[],()),[],()),false)) ((a3L (y3.1,4,12)).bind fun y4=>cond (y4.2.2 != 0) (some ((0,0,0,0,0,[],a02 3 0,[],[],(0,[],()),[],()),false)) (some ((4,0,0,y4.2.1,y1.1,y4.1,y2.1,[],[],(0,[],()),[],()),true)))))
def b7c:FSem:=⟨[.v QL],[.v Q42,.v .bool],a3n⟩
def a0Q(x:(Int×(Int×(LI×b2y)))):Option (LI×b2y):=(a3L (x.2.2.1,x.1,x.2.1)).bind fun y1=>cond (y1.2.2==0) (cond (lim ((a01 x.2.2.2)+1)) (some (x.2.2.1,a03 x.2.2.2 ([(3,0,0,y1.2.1,0,y1.1,a02 3 0,[],[],(0,[],()),[],())]:List a1T))) none) (some (x.2.2.1,x.2.2.2))
def b2n:FSem:=⟨[.v QI,.v QI,.r false (.b QL),.r false (.b (.list true Q42))],[],a0Q⟩
def a2m(s:(Int×c5u)):Option ((Int×c5u) ⊕ c5u):=cond (decide (s.1<5)) (cond (lim ((a01 s.2.1)+1)) (some (.inl (wrap .i64 (s.1+1),a03 s.2.1 ([(2,0,s.1,0,0,[],a02 3 0,[],[],(0,[],()),[],())]:List a1T),s.2.2.1,()))) none) (some (.inr (s.2.1,s.2.2.1,())))
def a6O(x:(LI×Int)):Option b2y:=(a6l x.1).bind fun y1=>(show Option (Int×(LI×c8l))from cond (decide (x.2≥1)) ((a0Q (4,12,x.1,([(0,0,0,0,0,[],a02 3 0,[],[],(0,[],()),[],()),(1,0,0,0,0,[],a02 3 0,[],[],(0,[],()),[],()),(2,0,y1,0,0,[],a02 3 0,[],[],(0,[],()),[],())]:List a1T))).bind fun y2=>(a0Q (8,12,y2.1,y2.2)).bind fun y3=>some (x.2,y3.1,y3.2,())) (some (x.2,x.1,([(0,0,0,0,0,[],a02 3 0,[],[],(0,[],()),[],()),(1,0,0,0,0,[],a02 3 0,[],[],(0,[],()),[],()),(2,0,y1,0,0,[],a02 3 0,[],[],(0,[],()),[],())]:List a1T),()))).bind fun z4=>(show Option (Int×c5u)from cond (decide (z4.1≥2)) (cond (lim ((a01 z4.2.2.1)+1)) (cond (lim ((a01 (a03 z4.2.2.1 ([(5,0,0,0,0,[],a02 3 0,([(16,4,())]:List (Int×Int×Unit)),[],(0,[],()),[],())]:List a1T)))+1)) ((a3n z4.2.1).bind fun y5=>cond y5.2 (cond (lim ((a01 (a03 (a03 z4.2.2.1 ([(5,0,0,0,0,[],a02 3 0,([(16,4,())]:List (Int×Int×Unit)),[],(0,[],()),[],())]:List a1T)) ([(5,0,0,0,0,[],a02 3 0,([(32,3,()),(16,5,())]:List (Int×Int×Unit)),[],(0,[],()),[],())]:List a1T)))+1)) (some (z4.1,a03 (a03 (a03 z4.2.2.1 ([(5,0,0,0,0,[],a02 3 0,([(16,4,())]:List (Int×Int×Unit)),[],(0,[],()),[],())]:List a1T)) ([(5,0,0,0,0,[],a02 3 0,([(32,3,()),(16,5,())]:List (Int×Int×Unit)),[],(0,[],()),[],())]:List a1T)) ([y5.1]:List a1T),z4.2.1,())) none) (some (z4.1,a03 (a03 z4.2.2.1 ([(5,0,0,0,0,[],a02 3 0,([(16,4,())]:List (Int×Int×Unit)),[],(0,[],()),[],())]:List a1T)) ([(5,0,0,0,0,[],a02 3 0,([(32,3,()),(16,5,())]:List (Int×Int×Unit)),[],(0,[],()),[],())]:List a1T),z4.2.1,()))) none) none) (some (z4.1,z4.2.2.1,z4.2.1,()))).bind fun z6=>(show Option c8l from cond (decide (z6.1≥3)) ((y0s a2m (0,z6.2.1,z6.2.2.1,())).bind fun w7=>(a0Q (1,12,w7.2.1,w7.1)).bind fun y8=>(a0Q (2,12,y8.1,y8.2)).bind fun y9=>(a0Q (12,14,y9.1,y9.2)).bind fun y10=>(a0Q (16,14,y10.1,y10.2)).bind fun y11=>some (y11.2,())) (some (z6.2.1,()))).bind fun z12=>some z12.1
def b3H:FSem:=⟨[.v QL,.v QI],[.v (.list false Q42)],a6O⟩
def d6i:Hints:=⟨[(4050,[50,.box 5 (.list true Q42),.box 2 QL,Qp 5 5,.clo 6 193 [2,5]],[Qe 0 [.box 5 (.list true Q42),.box 2 QL,Qp 5 5,.clo 6 193 [2,5]]])],[(15,[Qn [1,.box 2 QL,.box 5 (.list true Q42),Qp 2 2,Qp 5 5,.clo 6 193 [2,5]]]),(31,[Qn [1,.box 5 (.list true Q42),.box 2 QL,Qp 5 5,.clo 6 193 [2,5]]]),(63,[Qn [.box 5 (.list true Q42),Qp 5 5]])],[]⟩
def a4G(s:(LI×Z40)):Option ((LI×Z40) ⊕ Z47):=cond (decide (s.2.2.2.1<(s.1.length:Int))) ((m0k s.1 s.2.2.2.1).bind fun x4=>cond ((decide (0≤s.2.2.2.1))&&(decide (s.2.2.2.1≤(s.1.length:Int)))) ((a4z (a05 (a00 s.2.2.2.1) s.1,s.2.1,s.2.2.1)).bind fun y5=>(a5b (wrap .i64 (x4-y5))).bind fun y6=>cond (!y6) (some (.inr (Sum.inr ((6,[],()))))) (cond (lim ((a01 s.2.2.2.2.1)+1)) (some (.inl (s.1,s.2.1,s.2.2.1,wrap .i64 (s.2.2.2.1+1),a03 s.2.2.2.2.1 [wrap .i64 (x4-y5)],()))) none)) none) (some (.inr (Sum.inl (s.2.2.2.2.1,()))))
def a7k(x:Z9):Option (LI×Int):=(show Option Z48 from(a4x (x.2.1,x.2.2)).bind fun y1=>cond (!y1) (some (x.1,x.2.1,x.2.2,true,())) (some (x.1,x.2.1,x.2.2,decide ((x.1.length:Int)<(x.2.1.length:Int)),()))).bind fun z2=>cond z2.2.2.2.1 (some ([],1)) ((a2t z2.1).bind fun y3=>cond (!y3) (some ([],6)) (cond ((decide (0≤(wrap .i64 ((z2.1.length:Int)-(z2.2.1.length:Int)))))&&(lim (a00 (wrap .i64 ((z2.1.length:Int)-(z2.2.1.length:Int)))))) ((y0s a4G (z2.1,z2.2.1,z2.2.2.1,(z2.2.1.length:Int),[],())).bind fun w7=>match w7 with |.inl a8=>some (a8.1,0) |.inr b9=>some (b9.2.1,b9.1)) none))
def b6B:FSem:=⟨[.v QL,.v QL,.v QI],[.o QI,.v QI],a7k⟩
def d6j:Hints:=⟨[(250,[.sv 0 QL,.sv 1 QL,2,9,.own 8 8 QI],[Qe 0 [.own 8 8 QI],Qr [7,.own 6 6 QI]])],[(6,[Qn [.sv 0 QL,.sv 1 QL,2,.sv 21 .bool]])],[(9,[.v,.v,.v,.v,.v,.v,.v,.v,.v,.v,.x,.x])]⟩
def a5t(s:(Z4×Int×Int×Int×Z84)):Option ((Z4×Int×Int×Int×Z84) ⊕ ((Z4×Z14) ⊕ Z5)):=cond (decide (s.2.2.2.2.1<s.2.2.2.1)) (cond ((decide (0≤s.2.2.2.2.1))&&(decide (s.2.2.2.2.1<(s.2.2.2.2.2.1.length:Int)))) ((a1U s.2.2.2.2.2.2.1).bind fun y6=>(a6g (wrap .i64 ((a04 s.2.2.2.2.2.1 (a00 s.2.2.2.2.1) 0)-y6.1))).bind fun y7=>cond (!y7) (some (.inr (Sum.inr ((6,[],()))))) ((a2W (y6.2,a04 s.2.2.2.2.2.1 (a00 s.2.2.2.2.1) 0)).bind fun y8=>cond ((decide (0≤s.2.2.2.2.1))&&(decide (s.2.2.2.2.1<(s.2.2.2.2.2.1.length:Int)))) (some (.inl (s.1,s.2.1,s.2.2.1,s.2.2.2.1,wrap .i64 (s.2.2.2.2.1+1),a09 s.2.2.2.2.2.1 (a00 s.2.2.2.2.1) (wrap .i64 ((a04 s.2.2.2.2.2.1 (a00 s.2.2.2.2.1) 0)-y6.1)),y8,()))) none)) none) (some (.inr (Sum.inl (s.1,s.2.1,s.2.2.1,s.2.2.2.2.2.1,()))))
def a5u(s:(Z4×Z14)):Option ((Z4×Z14) ⊕ Z47):=cond (decide (s.2.2.1<s.2.1)) ((m0k s.1 s.2.2.1).bind fun x4=>(a9e x4).bind fun y5=>cond (y5.2 != 0) (some (.inr (Sum.inr ((y5.2,[],()))))) ((y0s a5t (s.1,s.2.1,s.2.2.1,(s.2.2.2.1.length:Int),0,s.2.2.2.1,y5.1,())).bind fun w9=>match w9 with |.inl a10=>some (.inl (a10.1,a10.2.1,wrap .i64 (a10.2.2.1+1),a10.2.2.2.1,())) |.inr b11=>some (.inr (Sum.inr ((b11.1,b11.2.1,())))))) (some (.inr (Sum.inl (s.2.2.2.1,()))))
def b0N(x:(LI×Z4)):Option (LI×Int):=(a7s x.2).bind fun y1=>cond (!y1) (some ([],1)) ((a5l x.1).bind fun y2=>cond (!y2) (some ([],6)) ((a1d x.1).bind fun y3=>(y0s a5u (x.2,(x.2.length:Int),0,y3,())).bind fun w12=>match w12 with |.inl a13=>some (a13.1,0) |.inr b14=>some (b14.2.1,b14.1)))
def b7d:FSem:=⟨[.v QL,.v (.list false Q3)],[.o QI,.v QI],b0N⟩
def d6k:Hints:=⟨[(250,[.sv 22 (.list false Q3),23,24,.own 6 6 QI],[Qe 0 [.own 6 6 QI],Qr [5,.own 4 4 QI]]),(256414,[.sv 22 (.list false Q3),23,24,37,38,.own 6 6 QI,.box 1030 Q17,Qp 9 1030,.ref 36 6 []],[Qe 2 [.sv 22 (.list false Q3),23,24,.own 6 6 QI],Qr [5,.own 4 4 QI]])],[],[]⟩
def b1V(x:(a1T×LI)):Option (Int×a1T):=(show Option (LI×(LI×(Int×b5H)))from cond (x.1.1==2) ((a4E (x.2,x.1.2.2.1)).bind fun y1=>some (x.2,y1.1,y1.2,x.1,())) (cond (x.1.1==3) ((a7k (x.2,x.1.2.2.2.2.2.1,x.1.2.2.2.1)).bind fun y2=>some (x.2,y2.1,y2.2,x.1,())) (cond (x.1.1==4) ((a9l (x.2,x.1.2.2.2.2.1,x.1.2.2.2.2.2.2.1)).bind fun y3=>cond (y3.2==0) ((a7k (y3.1,x.1.2.2.2.2.2.1,x.1.2.2.2.1)).bind fun y4=>some (y3.1,y4.1,y4.2,x.1,())) (some (y3.1,[],y3.2,x.1,()))) (cond (x.1.1==5) ((b0N (x.2,x.1.2.2.2.2.2.2.2.1)).bind fun y5=>some (x.2,y5.1,y5.2,x.1,())) (some (x.2,[],0,x.1,())))))).bind fun z6=>cond (z6.2.2.1 != 0) (some (z6.2.2.1,z6.2.2.2.1)) ((a4y (z6.2.2.2.1,(z6.1.length:Int))).bind fun y7=>cond ((decide (0≤y7))&&(decide (y7≤(z6.1.length:Int)))) ((a1d (a05 (a00 y7) z6.1)).bind fun y8=>some (0,z6.2.2.2.1.1,z6.2.2.2.1.2.1,z6.2.2.2.1.2.2.1,z6.2.2.2.1.2.2.2.1,z6.2.2.2.1.2.2.2.2.1,z6.2.2.2.1.2.2.2.2.2.1,z6.2.2.2.1.2.2.2.2.2.2.1,z6.2.2.2.1.2.2.2.2.2.2.2.1,y8,z6.2.2.2.1.2.2.2.2.2.2.2.2.2.1,z6.2.1,z6.2.2.2.1.2.2.2.2.2.2.2.2.2.2.2)) none)
def b8f:FSem:=⟨[.r false (.b Q42),.v QL],[.v QI],b1V⟩
def d6l:Hints:=⟨[],[(15,[Qn [.sv 1 QL,.sv 5 QL,6,.box pinned Q42,Qp 0 pinned]])],[(7,[.v,.p,.p,.q,.q,.p,.p,.q,.q,.x,.x,.q,.q,.q,.x]),(9,[.v,.p,.p,.q,.q,.p,.p,.q,.q,.x,.x,.q,.q,.q,.x]),(11,[.q,.p,.p,.q,.q,.p,.p,.q,.q,.x,.x,.q,.q,.q,.x])]⟩
def a8F(s:Z30):Option (Z30 ⊕ (Int×Unit)):=cond (decide (s.2.2.2.1≤25)) ((a3d (s.2.2.2.1,s.1)).bind fun y2=>cond (decide (y2<s.2.2.1)) (some (.inl (s.1,s.2.2.2.1,y2,wrap .i64 (s.2.2.2.1+1),()))) (some (.inl (s.1,s.2.1,s.2.2.1,wrap .i64 (s.2.2.2.1+1),())))) (some (.inr (s.2.1,())))
def b1W(x:LI):Option Int:=(a3d (0,x)).bind fun y1=>(y0s a8F (x,0,y1,1,())).bind fun w3=>some w3.1
def b8g:FSem:=⟨[.v QL],[.v QI],b1W⟩
def d6m:Hints:=⟨[(58,[.sv 0 QL,3,4,5],[Qe 0 [3]])],[],[]⟩
def a8G(x:LI):Option Int:=(b1W x).bind fun y1=>(a5K x).bind fun y2=>(a3d (y1,x)).bind fun y3=>cond (decide (y2<y3)) (some 31) (some y1)
def b5j:FSem:=⟨[.v QL],[.v QI],a8G⟩
def a7O(s:(Int×(Int×(Int×(LI×(Int×(Int×(LI×(Int×(Int×(LI×Z97))))))))))):Option ((Int×(Int×(Int×(LI×(Int×(Int×(LI×(Int×(Int×(LI×Z97)))))))))) ⊕ (Int×(Int×(Int×(LI×(Int×Int×Z97)))))):=cond (decide (s.2.2.2.2.2.2.2.2.1<s.2.2.2.2.2.2.2.1)) (cond ((decide (0≤s.2.2.2.2.2.2.2.2.1))&&(decide (s.2.2.2.2.2.2.2.2.1<(s.2.2.2.2.2.2.2.2.2.1.length:Int)))) (cond ((decide (0≤(a04 s.2.2.2.2.2.2.2.2.2.1 (a00 s.2.2.2.2.2.2.2.2.1) 0)))&&(decide ((a04 s.2.2.2.2.2.2.2.2.2.1 (a00 s.2.2.2.2.2.2.2.2.1) 0)≤(s.2.2.2.2.2.2.1.length:Int)))) ((a8G (a05 (a00 (a04 s.2.2.2.2.2.2.2.2.2.1 (a00 s.2.2.2.2.2.2.2.2.1) 0)) s.2.2.2.2.2.2.1)).bind fun y3=>cond (lim ((a01 s.2.2.2.2.2.2.2.2.2.2.2.2.1.2.1)+1)) (cond ((decide (0≤(a04 s.2.2.2.2.2.2.2.2.2.1 (a00 s.2.2.2.2.2.2.2.2.1) 0)))&&(decide ((a04 s.2.2.2.2.2.2.2.2.2.1 (a00 s.2.2.2.2.2.2.2.2.1) 0)≤(s.2.2.2.2.2.2.1.length:Int)))) (some (.inl (s.1,s.2.1,s.2.2.1,s.2.2.2.1,s.2.2.2.2.1,s.2.2.2.2.2.1,a08 (a00 (a04 s.2.2.2.2.2.2.2.2.2.1 (a00 s.2.2.2.2.2.2.2.2.1) 0)) (a05 (a01 s.2.2.2.2.2.2.1) s.2.2.2.2.2.2.1),s.2.2.2.2.2.2.2.1,wrap .i64 (s.2.2.2.2.2.2.2.2.1+1),s.2.2.2.2.2.2.2.2.2.1,s.2.2.2.2.2.2.2.2.2.2.1,s.2.2.2.2.2.2.2.2.2.2.2.1,(s.2.2.2.2.2.2.2.2.2.2.2.2.1.1,a03 s.2.2.2.2.2.2.2.2.2.2.2.2.1.2.1 [y3],s.2.2.2.2.2.2.2.2.2.2.2.2.1.2.2),()))) none) none) none) none) (some (.inr (s.1,s.2.1,s.2.2.1,s.2.2.2.1,s.2.2.2.2.1,s.2.2.2.2.2.1,s.2.2.2.2.2.2.2.2.2.2.1,s.2.2.2.2.2.2.2.2.2.2.2.1,s.2.2.2.2.2.2.2.2.2.2.2.2.1,())))
def a3z(s:(Int×(Int×(Int×(LI×(Int×Int×Z81)))))):Option ((Int×(Int×(Int×(LI×(Int×Int×Z81))))) ⊕ Z81):=cond (decide (s.2.2.2.2.2.1≤(v0s (v0r s.2.2.1 0) 8))) ((a2N (s.2.2.2.2.2.1,s.1,s.2.1)).bind fun y2=>cond ((y2.length:Int)==0) (some (.inl (s.1,s.2.1,s.2.2.1,s.2.2.2.1,s.2.2.2.2.1,wrap .i64 (s.2.2.2.2.2.1+1),s.2.2.2.2.2.2.1,s.2.2.2.2.2.2.2.1,()))) ((y0s a7O (s.1,s.2.1,s.2.2.1,s.2.2.2.1,s.2.2.2.2.1,s.2.2.2.2.2.1,s.2.2.2.1,(y2.length:Int),0,y2,s.2.2.2.2.2.2.1,s.2.2.2.2.2.2.2.1,(s.2.2.2.2.2.1,[],()),())).bind fun w4=>(a4B (w4.2.2.2.2.2.2.2.2.1,w4.1,w4.2.1,w4.2.2.2.1)).bind fun y5=>(show Option (Int×(Int×(Int×(LI×(Int×Int×Int×Bool×Z97)))))from cond (w4.2.2.2.2.1==0) (some (w4.1,w4.2.1,w4.2.2.1,w4.2.2.2.1,w4.2.2.2.2.1,w4.2.2.2.2.2.1,y5,true,w4.2.2.2.2.2.2.1,w4.2.2.2.2.2.2.2.1,w4.2.2.2.2.2.2.2.2.1,())) (some (w4.1,w4.2.1,w4.2.2.1,w4.2.2.2.1,w4.2.2.2.2.1,w4.2.2.2.2.2.1,y5,decide (y5<w4.2.2.2.2.1),w4.2.2.2.2.2.2.1,w4.2.2.2.2.2.2.2.1,w4.2.2.2.2.2.2.2.2.1,()))).bind fun z6=>cond z6.2.2.2.2.2.2.2.1 (some (.inl (z6.1,z6.2.1,z6.2.2.1,z6.2.2.2.1,z6.2.2.2.2.2.2.1,wrap .i64 (z6.2.2.2.2.2.1+1),z6.2.2.2.2.2.2.2.2.1,z6.2.2.2.2.2.2.2.2.2.2.1,()))) (some (.inl (z6.1,z6.2.1,z6.2.2.1,z6.2.2.2.1,z6.2.2.2.2.1,wrap .i64 (z6.2.2.2.2.2.1+1),z6.2.2.2.2.2.2.2.2.1,z6.2.2.2.2.2.2.2.2.2.1,()))))) (some (.inr (s.2.2.2.2.2.2.1,s.2.2.2.2.2.2.2.1,())))
def b0O(x:(Int×Z2)):Option (Z5×Int):=(a7f (x.1,x.2.1,x.2.2.2)).bind fun y1=>cond (!y1) (some ((0,[],()),1)) ((y0s a3z (x.1,x.2.1,x.2.2.1,x.2.2.2,0,0,(0,[],()),(0,[],()),())).bind fun w7=>some (w7.2.1,0))
def b7e:FSem:=⟨[.v QI,.v QI,.v QI,.v QL],[.v Q11,.v QI],b0O⟩
def d6n:Hints:=⟨[(250,[0,1,2,.sv 3 QL,11,12,.box 8 Q11,.box 10 Q11,Qp 8 8,Qp 10 10],[Qe 0 [.box 8 Q11,.box 10 Q11,Qp 8 8,Qp 10 10]]),(512634,[0,1,2,.sv 3 QL,11,12,.sv 15 QL,43,44,.own 42 13 QI,.box 8 Q11,.box 10 Q11,.box 14 Q10,Qp 8 8,Qp 10 10,Qp 14 14],[Qe 2 [0,1,2,.sv 3 QL,11,12,.box 8 Q11,.box 10 Q11,.box 14 Q10,Qp 8 8,Qp 10 10,Qp 14 14]])],[(256319,[Qn [0,1,2,.sv 3 QL,11,12,18,.sv 72 .bool,.box 8 Q11,.box 10 Q11,.box 14 Q11,Qp 8 8,Qp 10 10,Qp 14 14]])],[(15,[.q,.q,.v,.v,.v,.v,.q,.x,.x,.x])]⟩
def a5h(s:(LI×(LI×c5x))):Option ((LI×(LI×c5x)) ⊕ ((LI×b2z) ⊕ (Int×b5H))):=cond (decide (s.2.2.2.1<s.2.2.1)) ((m0k s.2.1 s.2.2.2.1).bind fun x5=>(m0k s.1 0).bind fun x6=>cond (x5 != x6) (some (.inr (Sum.inr ((7,(0,0,0,0,0,[],a02 3 0,[],[],(0,[],()),[],()),()))))) (some (.inl (s.1,s.2.1,s.2.2.1,wrap .i64 (s.2.2.2.1+1),s.2.2.2.2.1,s.2.2.2.2.2.1,())))) (some (.inr (Sum.inl (s.1,s.2.2.2.2.1,s.2.2.2.2.2.1,()))))
def b2Y(x:(Int×(LI×a1T))):Option b4G:=(show Option (Int×(LI×(Int×Bool×b2z)))from cond (decide ((x.2.1.length:Int)<1)) (some (x.1,x.2.1,(x.2.1.length:Int),true,(0,0,0,0,0,[],a02 3 0,[],[],(0,[],()),[],()),x.2.2,())) (cond (decide ((x.2.1.length:Int) > 4096)) (some (x.1,x.2.1,(x.2.1.length:Int),true,(0,0,0,0,0,[],a02 3 0,[],[],(0,[],()),[],()),x.2.2,())) ((a7U (x.1,x.2.2,(x.2.1.length:Int))).bind fun y1=>some (x.1,x.2.1,(x.2.1.length:Int),!y1,(0,0,0,0,0,[],a02 3 0,[],[],(0,[],()),[],()),x.2.2,())))).bind fun z2=>cond z2.2.2.2.1 (some ((0,0,0,0,0,[],a02 3 0,[],[],(0,[],()),[],()),1)) ((a2p z2.2.1).bind fun y3=>cond (!y3) (some ((0,0,0,0,0,[],a02 3 0,[],[],(0,[],()),[],()),6)) ((a6f (z2.1,z2.2.2.2.2.2.1)).bind fun y4=>cond (z2.1==0) ((y0s a5h (z2.2.1,z2.2.1,(z2.2.1.length:Int),0,z2.2.2.2.2.1,y4,())).bind fun w7=>match w7 with |.inl a8=>((m0k a8.1 0).bind fun x10=>some ((a8.2.2.1.1,a8.2.2.1.2.1,a8.2.2.1.2.2.1,a8.2.2.1.2.2.2.1,a8.2.2.1.2.2.2.2.1,a8.2.2.1.2.2.2.2.2.1,a8.2.2.1.2.2.2.2.2.2.1,a8.2.2.1.2.2.2.2.2.2.2.1,[x10],a8.2.2.1.2.2.2.2.2.2.2.2.2),0)) |.inr b9=>some (b9.2.1,b9.1)) ((a3x z2.2.1).bind fun y11=>(a7j (z2.2.1,y11)).bind fun y12=>cond (y12.2 != 0) (some ((0,0,0,0,0,[],a02 3 0,[],[],(0,[],()),[],()),6)) (cond (z2.1==1) (some ((y4.1,y11,y4.2.2.1,y4.2.2.2.1,y4.2.2.2.2.1,y4.2.2.2.2.2.1,y4.2.2.2.2.2.2.1,y4.2.2.2.2.2.2.2.1,y12.1,y4.2.2.2.2.2.2.2.2.2),0)) ((b1V ((y4.1,y11,y4.2.2),y12.1)).bind fun y13=>cond (y13.1 != 0) (some ((0,0,0,0,0,[],a02 3 0,[],[],(0,[],()),[],()),6)) ((b0O (z2.2.2.1,(y13.2.2.2.2.2.2.2.2.2.1.length:Int),6,y13.2.2.2.2.2.2.2.2.2.2.2.1)).bind fun y14=>cond (y14.2 != 0) (some ((0,0,0,0,0,[],a02 3 0,[],[],(0,[],()),[],()),6)) (some ((y13.2.1,y13.2.2.1,y13.2.2.2.1,y13.2.2.2.2.1,y13.2.2.2.2.2.1,y13.2.2.2.2.2.2.1,y13.2.2.2.2.2.2.2.1,y13.2.2.2.2.2.2.2.2.1,y13.2.2.2.2.2.2.2.2.2.1,y14.1,y13.2.2.2.2.2.2.2.2.2.2.2),0))))))))
def b9r:FSem:=⟨[.v QI,.v QL,.v Q42],[.v Q42,.v QI],b2Y⟩
def d6o:Hints:=⟨[(4050,[.sv 1 QL,.sv 39 QL,40,41,.box 6 Q42,.box 9 Q42,Qp 6 6,Qp 9 9],[Qe 0 [.sv 1 QL,.box 6 Q42,.box 9 Q42,Qp 6 6,Qp 9 9],Qr [7,.box 6 Q42,Qp 6 6]])],[(14,[Qn [0,.sv 1 QL,8,.sv 28 .bool,.box 6 Q42,.vp 5 Q42,Qp 6 6]])],[]⟩
def a8W(x:Z6):Option Z15:=some (x.2.1,x)
def b2R:FSem:=⟨[.r false (.b Q9)],[.v QI],a8W⟩
def a3W(x:b4G):Option Int:=(a9N (([],0,()),x.1,x.2)).bind fun y1=>cond (y1.1 != 0) (some 0) ((a8W y1.2).bind fun y2=>some y2.1)
def b9s:FSem:=⟨[.v Q42,.v QI],[.v QI],a3W⟩
def a7l(s:(LI×(Int×Bool×b2y×c5x))):Option ((LI×(Int×Bool×b2y×c5x)) ⊕ b2z):=cond (decide (s.2.2.2.2.2.1<s.2.2.2.2.1)) ((m0k s.2.2.2.1 s.2.2.2.2.2.1).bind fun x6=>(b2Y (x6.1,s.1,x6)).bind fun y7=>cond (y7.2 != 0) (some (.inl (s.1,s.2.1,s.2.2.1,s.2.2.2.1,s.2.2.2.2.1,wrap .i64 (s.2.2.2.2.2.1+1),s.2.2.2.2.2.2.1,s.2.2.2.2.2.2.2.1,()))) ((a3W (y7.1,(s.1.length:Int))).bind fun y8=>(show Option (LI×(Int×Bool×Int×b2y×Int×Int×Bool×a1T×b2z))from cond (!s.2.2.1) (some (s.1,s.2.1,s.2.2.1,y8,s.2.2.2.1,s.2.2.2.2.1,s.2.2.2.2.2.1,true,s.2.2.2.2.2.2.1,s.2.2.2.2.2.2.2.1,y7.1,())) (some (s.1,s.2.1,s.2.2.1,y8,s.2.2.2.1,s.2.2.2.2.1,s.2.2.2.2.2.1,decide (y8<s.2.1),s.2.2.2.2.2.2.1,s.2.2.2.2.2.2.2.1,y7.1,()))).bind fun z9=>cond z9.2.2.2.2.2.2.2.1 (some (.inl (z9.1,z9.2.2.2.1,true,z9.2.2.2.2.1,z9.2.2.2.2.2.1,wrap .i64 (z9.2.2.2.2.2.2.1+1),z9.2.2.2.2.2.2.2.2.1,z9.2.2.2.2.2.2.2.2.2.2.1,()))) (some (.inl (z9.1,z9.2.1,z9.2.2.1,z9.2.2.2.2.1,z9.2.2.2.2.2.1,wrap .i64 (z9.2.2.2.2.2.2.1+1),z9.2.2.2.2.2.2.2.2.1,z9.2.2.2.2.2.2.2.2.2.1,()))))) (some (.inr (s.2.2.2.2.2.2.1,s.2.2.2.2.2.2.2.1,())))
def a5v(x:(LI×Int)):Option b4G:=(show Option (LI×c2W)from cond (decide ((x.1.length:Int)<1)) (some (x.1,x.2,true,(0,0,0,0,0,[],a02 3 0,[],[],(0,[],()),[],()),())) (cond (decide ((x.1.length:Int) > 4096)) (some (x.1,x.2,true,(0,0,0,0,0,[],a02 3 0,[],[],(0,[],()),[],()),())) (cond (decide (x.2<0)) (some (x.1,x.2,true,(0,0,0,0,0,[],a02 3 0,[],[],(0,[],()),[],()),())) (some (x.1,x.2,decide (x.2 > 3),(0,0,0,0,0,[],a02 3 0,[],[],(0,[],()),[],()),()))))).bind fun z1=>cond z1.2.2.1 (some ((0,0,0,0,0,[],a02 3 0,[],[],(0,[],()),[],()),1)) ((a2p z1.1).bind fun y2=>cond (!y2) (some ((0,0,0,0,0,[],a02 3 0,[],[],(0,[],()),[],()),6)) ((a3x z1.1).bind fun y3=>(a7j (z1.1,y3)).bind fun y4=>cond (y4.2 != 0) (some ((0,0,0,0,0,[],a02 3 0,[],[],(0,[],()),[],()),y4.2)) ((a6O (y4.1,z1.2.1)).bind fun y5=>(y0s a7l (z1.1,0,false,y5,(y5.length:Int),0,z1.2.2.2.1,(0,0,0,0,0,[],a02 3 0,[],[],(0,[],()),[],()),())).bind fun w10=>some (w10.2.1,0))))
def b9t:FSem:=⟨[.v QL,.v QI],[.v Q42,.v QI],a5v⟩
def H60:Hints:=⟨[(2042,[.sv 0 QL,9,.sv 10 .bool,.sv 50 (.list false Q42),51,52,.box 4 Q42,.box 8 Q42,Qp 4 4,Qp 8 8],[Qe 0 [.box 4 Q42,.box 8 Q42,Qp 4 4,Qp 8 8]])],[(6,[Qn [.sv 0 QL,1,.sv 31 .bool,.box 4 Q42,Qp 4 4]]),(1045711,[Qn [.sv 0 QL,9,.sv 10 .bool,15,.sv 50 (.list false Q42),51,52,.sv 76 .bool,.box 4 Q42,.box 8 Q42,.box 13 Q42,Qp 4 4,Qp 8 8,Qp 13 13]])],[]⟩
def a5w(s:(Int×((List LI)×(Int×Int×a2R×b3u)))):Option ((Int×((List LI)×(Int×Int×a2R×b3u))) ⊕ ((a2R×b3u) ⊕ (Int×b3u))):=cond (decide (s.2.2.2.1<s.2.2.1)) ((m0k s.2.1 s.2.2.2.1).bind fun x8=>(a5v (x8,s.1)).bind fun y9=>cond (y9.2 != 0) (some (.inr (Sum.inr ((y9.2,(0,0,(0,0,0,()),[],[],()),()))))) (cond (lim ((a01 s.2.2.2.2.2.1.2.2.2.2.1)+1)) (some (.inl (s.1,s.2.1,s.2.2.1,wrap .i64 (s.2.2.2.1+1),s.2.2.2.2.1,(s.2.2.2.2.2.1.1,s.2.2.2.2.2.1.2.1,s.2.2.2.2.2.1.2.2.1,s.2.2.2.2.2.1.2.2.2.1,a03 s.2.2.2.2.2.1.2.2.2.2.1 ([y9.1]:List a1T),s.2.2.2.2.2.1.2.2.2.2.2),()))) none)) (some (.inr (Sum.inl (s.2.2.2.2.1,s.2.2.2.2.2.1,()))))
def a4H(x:(Z10×Z7×Int×Int)):Option (a2R×Int):=(show Option (Int×Int×Bool×a2R×Z10×Z20)from(a4f x.1).bind fun y1=>cond (!y1) (some (x.2.2.1,x.2.2.2,true,(0,0,(0,0,0,()),[],[],()),x.1,x.2.1,())) ((a1R x.2.1).bind fun y2=>cond (!y2) (some (x.2.2.1,x.2.2.2,true,(0,0,(0,0,0,()),[],[],()),x.1,x.2.1,())) (cond (x.1.1 != x.2.1.2.2.1) (some (x.2.2.1,x.2.2.2,true,(0,0,(0,0,0,()),[],[],()),x.1,x.2.1,())) (cond ((x.1.2.1.length:Int) != x.2.1.2.1) (some (x.2.2.1,x.2.2.2,true,(0,0,(0,0,0,()),[],[],()),x.1,x.2.1,())) (cond (decide (x.2.2.2<0)) (some (x.2.2.1,x.2.2.2,true,(0,0,(0,0,0,()),[],[],()),x.1,x.2.1,())) (cond (decide (x.2.2.2 > 3)) (some (x.2.2.1,x.2.2.2,true,(0,0,(0,0,0,()),[],[],()),x.1,x.2.1,())) (some (x.2.2.1,x.2.2.2,decide (x.2.2.1<0),(0,0,(0,0,0,()),[],[],()),x.1,x.2.1,())))))))).bind fun z3=>cond z3.2.2.1 (some ((0,0,(0,0,0,()),[],[],()),1)) ((a4e z3.2.2.2.2.1).bind fun y4=>cond (decide (z3.1 > (wrap .i64 (4194304-y4)))) (some ((0,0,(0,0,0,()),[],[],()),4)) ((show Option (Int×a2R×a2R×Z28)from cond (decide (z3.2.1 > 0)) ((a7y z3.2.2.2.2.1).bind fun y5=>some (z3.2.1,z3.2.2.2.1,(z3.1,y4,z3.2.2.2.2.2.1,y5,[],()),z3.2.2.2.2.1,())) (some (z3.2.1,z3.2.2.2.1,(z3.1,y4,z3.2.2.2.2.2.1,[],[],()),z3.2.2.2.2.1,()))).bind fun z6=>(b2m (z6.2.2.2.1.2.1,z6.2.2.1.2.2.2.1)).bind fun y7=>cond (y7.2 != 0) (some ((0,0,(0,0,0,()),[],[],()),y7.2)) ((y0s a5w (z6.1,y7.1,(y7.1.length:Int),0,z6.2.1,z6.2.2.1,())).bind fun w10=>match w10 with |.inl a11=>some (a11.2.1,0) |.inr b12=>some (b12.2.1,b12.1))))
def b7f:FSem:=⟨[.v Q15,.v Q12,.v QI,.v QI],[.v Q60,.v QI],a4H⟩
def H18:Hints:=⟨[(2042,[3,.sv 81 (.list false QL),82,83,.box 8 Q60,.box 10 Q59,Qp 8 8,Qp 10 10],[Qe 0 [.box 8 Q60,.box 10 Q59,Qp 8 8,Qp 10 10],Qr [9,.box 8 Q60,Qp 8 8]])],[(6,[Qn [2,3,.sv 51 .bool,.box 8 Q60,.vp 4 Q15,.vp 5 Q12,Qp 8 8]]),(31,[Qn [3,.box 8 Q60,.box 10 Q59,.vp 4 Q15,Qp 8 8,Qp 10 10]])],[(3,[.v,.v,.v,.v,.v,.q,.x])]⟩
def a7D(s:Z51):Option (Z51 ⊕ Z29):=cond (decide (s.2.2.2.2.1<8)) (cond ((bits .u32 .and s.1 1)==1) (some (.inl (bits .u32 .xor (A0o .u32 s.1 1) 3988292384,s.2.1,s.2.2.1,s.2.2.2.1,wrap .i64 (s.2.2.2.2.1+1),()))) (some (.inl (A0o .u32 s.1 1,s.2.1,s.2.2.1,s.2.2.2.1,wrap .i64 (s.2.2.2.2.1+1),())))) (some (.inr (s.1,s.2.1,s.2.2.1,s.2.2.2.1,())))
def a4S(s:Z29):Option Z64:=cond (decide (s.2.2.2.1<s.2.2.1)) ((m0k s.2.1 s.2.2.2.1).bind fun x1=>(y0s a7D (bits .u32 .xor s.1 (wrap .u32 x1),s.2.1,s.2.2.1,s.2.2.2.1,0,())).bind fun w2=>some (.inl (w2.1,w2.2.1,w2.2.2.1,wrap .i64 (w2.2.2.2.1+1),()))) (some (.inr (s.1,())))
def a4I(x:LI):Option Int:=(y0s a4S (4294967295,x,(x.length:Int),0,())).bind fun w3=>some (bits .u32 .xor (IntKind.max .u32) w3.1)
def a9F:FSem:=⟨[.v QB],[.v (.int .u32)],a4I⟩
def H89:Hints:=⟨[(58,[.sv 3 (.int .u32),.sv 7 QB,8,9],[Qe 0 [.sv 3 (.int .u32)]]),(29902,[.sv 3 (.int .u32),.sv 7 QB,8,9,17],[Qe 2 [.sv 3 (.int .u32),.sv 7 QB,8,9]])],[],[]⟩
def a8H(s:(b8O×(Int×(Int×((List LI)×(LI×a9S)))))):Option ((b8O×(Int×(Int×((List LI)×(LI×a9S))))) ⊕ ((List LI)×(LI×a9S))):=cond (decide (s.2.2.1<s.2.1)) ((m0k s.1 s.2.2.1).bind fun x2=>cond ((decide (0≤s.2.2.1))&&(decide (s.2.2.1<(s.2.2.2.1.length:Int)))) (cond (lim ((a01 s.2.2.2.2.1)+2)) (some (.inl (s.1,s.2.1,wrap .i64 (s.2.2.1+1),s.2.2.2.1,a03 s.2.2.2.2.1 ([wrap .u64 ((a01 (a04 s.2.2.2.1 (a00 s.2.2.1) []):Nat):Int),wrap .u64 x2.2.1]:List Int),s.2.2.2.2.2.1,()))) none) none) (some (.inr (s.2.2.2.1,s.2.2.2.2.1,s.2.2.2.2.2.1,())))
def a8I(s:(Int×(Int×(LI×Z1)))):Option ((Int×(Int×(LI×Z1))) ⊕ (LI×Unit)):=cond (decide (s.2.1<s.1)) (cond ((decide (0≤s.2.1))&&(decide (s.2.1<(s.2.2.2.1.length:Int)))) (cond (lim ((a01 s.2.2.1)+(a01 (a04 s.2.2.2.1 (a00 s.2.1) [])))) (some (.inl (s.1,wrap .i64 (s.2.1+1),a03 s.2.2.1 (a04 s.2.2.2.1 (a00 s.2.1) []),s.2.2.2.1,()))) none) none) (some (.inr (s.2.2.1,())))
def b1X(x:b1l):Option (LI×Int):=(a9k x).bind fun y1=>cond (!y1.2.2) (some ([],1)) ((y0s a8H (x.2.2.2.2.1,(x.2.2.2.2.1.length:Int),0,y1.1,([wrap .u64 x.1.1,wrap .u64 x.1.2.1,wrap .u64 x.1.2.2.1,wrap .u64 (x.2.2.2.2.1.length:Int)]:List Int),x,())).bind fun w3=>(a9j w3.2.1).bind fun y4=>cond (lim (4+(a01 y4))) ((a4i (w3.2.2.1.2.2.1,8)).bind fun y5=>cond (lim ((a01 (a03 [75,78,83,68] y4))+(a01 y5))) ((a4I (a03 (a03 [75,78,83,68] y4) y5)).bind fun y6=>(a4i (wrap .u64 y6,4)).bind fun y7=>cond (lim ((a01 (a03 (a03 [75,78,83,68] y4) y5))+(a01 y7))) ((y0s a8I ((w3.1.length:Int),0,a03 (a03 (a03 [75,78,83,68] y4) y5) y7,w3.1,())).bind fun w8=>some (w8.1,0)) none) none) none)
def b8h:FSem:=⟨[.v Q74],[.o QV,.v QI],b1X⟩
def H29:Hints:=⟨[(250,[.sv 39 (.list false Q60),40,41,.own 4 4 QB,.own 7 7 QU,.vp 1 Q74],[Qe 0 [.own 4 4 QB,.own 7 7 QU,.vp 1 Q74]]),(4090,[76,77,.own 10 10 QV,.own 75 4 QB],[Qe 2 [.own 10 10 QV]])],[],[(8,[.q,.q,.v,.q,.q,.v,.v,.q,.q,.v,.q,.x,.x])]⟩
def a7P(s:(LI×(Int×Int×Z10×Z10×Z20))):Option ((LI×(Int×Int×Z10×Z10×Z20)) ⊕ ((Z10×Z28) ⊕ Z45)):=cond (decide (s.2.2.1<s.2.1)) ((m0k s.1 s.2.2.1).bind fun x2=>(a1Q (x2,s.2.2.2.2.2.1.2.2.1)).bind fun y3=>cond (!y3) (some (.inr (Sum.inr ((6,(0,([]:(List LI)),()),()))))) (cond (s.2.2.2.2.2.1.2.1==0) none (cond ((decide (0≤(a06 s.2.2.1 s.2.2.2.2.2.1.2.1)))&&(decide ((a06 s.2.2.1 s.2.2.2.2.2.1.2.1)<(s.2.2.2.2.1.2.1.length:Int)))) (cond (lim ((a01 (a04 s.2.2.2.2.1.2.1 (a00 (a06 s.2.2.1 s.2.2.2.2.2.1.2.1)) []))+1)) (cond ((decide (0≤(a06 s.2.2.1 s.2.2.2.2.2.1.2.1)))&&(decide ((a06 s.2.2.1 s.2.2.2.2.2.1.2.1)<((a01 (a09 s.2.2.2.2.1.2.1 (a00 (a06 s.2.2.1 s.2.2.2.2.2.1.2.1)) (a03 (a04 s.2.2.2.2.1.2.1 (a00 (a06 s.2.2.1 s.2.2.2.2.2.1.2.1)) []) [x2])):Nat):Int)))) (cond (((a00 (a06 s.2.2.1 s.2.2.2.2.2.1.2.1))==(a00 (a06 s.2.2.1 s.2.2.2.2.2.1.2.1)))&&true) (cond (((a00 (a06 s.2.2.1 s.2.2.2.2.2.1.2.1))==(a00 (a06 s.2.2.1 s.2.2.2.2.2.1.2.1)))&&true) (some (.inl (s.1,s.2.1,wrap .i64 (s.2.2.1+1),s.2.2.2.1,(s.2.2.2.2.1.1,a09 s.2.2.2.2.1.2.1 (a00 (a06 s.2.2.1 s.2.2.2.2.2.1.2.1)) (a03 (a04 s.2.2.2.2.1.2.1 (a00 (a06 s.2.2.1 s.2.2.2.2.2.1.2.1)) []) [x2]),s.2.2.2.2.1.2.2),s.2.2.2.2.2.1,()))) none) none) none) none) none))) (some (.inr (Sum.inl (s.2.2.2.1,s.2.2.2.2.1,()))))
def b0P(x:Z30):Option Z27:=(a1R x.2).bind fun y1=>cond (!y1) (some ((0,([]:(List LI)),()),1)) (cond ((x.1.length:Int)==0) (some ((0,([]:(List LI)),()),7)) (cond (x.2.2.1==0) none (cond ((a06 (x.1.length:Int) x.2.2.1) != 0) (some ((0,([]:(List LI)),()),3)) (cond (x.2.2.1==0) none (cond (decide ((wrap .i64 (a07 (x.1.length:Int) x.2.2.1)) > 4096)) (some ((0,([]:(List LI)),()),4)) (cond ((decide (0≤x.2.2.1))&&((decide (x.2.2.1≤x.2.2.1))&&(lim (a00 x.2.2.1)))) ((y0s a7P (x.1,(x.1.length:Int),0,(0,([]:(List LI)),()),(x.2.2.2.1,a02 (a00 x.2.2.1) [],()),x.2,())).bind fun w4=>match w4 with |.inl a5=>some (a5.2.1,0) |.inr b6=>some (b6.2.1,b6.1)) none))))))
def b7g:FSem:=⟨[.v QL,.v Q12],[.v Q15,.v QI],b0P⟩
def H96:Hints:=⟨[(1018,[.sv 38 QL,39,40,.box 4 Q15,.box 6 (.pair QI Q6),.vp 3 Q12,Qp 4 4,Qp 6 6],[Qe 0 [.box 4 Q15,.box 6 (.pair QI Q6),Qp 4 4,Qp 6 6],Qr [5,.box 4 Q15,Qp 4 4]])],[],[(9,[.v,.v,.v,.v,.q,.q,.q,.x]),(16,[.s,.s,.s,.q,.q,.v,.q,.q,.v,.q,.b [6,64,65],.x,.x])]⟩
def a5Y(s:(LI×(Int×(Int×(Int×(LI×(Int×Z37))))))):Option ((LI×(Int×(Int×(Int×(LI×(Int×Z37)))))) ⊕ ((LI×(Int×Int×Z37)) ⊕ Z5)):=cond (decide (s.2.2.2.2.2.2.1<s.2.2.2.2.2.1)) ((m0k s.2.2.2.2.1 s.2.2.2.2.2.2.1).bind fun x4=>(a1Q (x4,s.2.2.2.2.2.2.2.1.2.2.1)).bind fun y5=>cond (!y5) (some (.inr (Sum.inr ((6,[],()))))) (some (.inl (s.1,s.2.1,s.2.2.1,s.2.2.2.1,s.2.2.2.2.1,s.2.2.2.2.2.1,wrap .i64 (s.2.2.2.2.2.2.1+1),s.2.2.2.2.2.2.2.1,())))) (some (.inr (Sum.inl (s.1,s.2.1,s.2.2.1,s.2.2.2.1,s.2.2.2.2.2.2.2.1,()))))
def a5Z(s:(LI×(Int×Int×Int×Int×Int×b1l×Z20))):Option ((LI×(Int×Int×Int×Int×Int×b1l×Z20)) ⊕ (a9S ⊕ Z5)):=cond (decide (s.2.2.2.2.2.1<s.2.2.2.1)) (cond ((decide (0≤(wrap .i64 ((v0s (wrap .i64 (s.2.2.2.2.2.1+s.2.1)) s.2.2.2.1)*s.2.2.2.2.2.2.2.1.2.1))))&&(decide ((wrap .i64 ((v0s (wrap .i64 (s.2.2.2.2.2.1+s.2.1)) s.2.2.2.1)*s.2.2.2.2.2.2.2.1.2.1))≤(s.1.length:Int)))) (cond ((decide (0≤(wrap .i64 (s.2.2.2.2.2.1*s.2.2.2.2.2.2.2.1.2.1))))&&(decide ((wrap .i64 (s.2.2.2.2.2.1*s.2.2.2.2.2.2.2.1.2.1))≤((a00 (wrap .i64 ((v0s (wrap .i64 (s.2.2.2.2.2.1+s.2.1)) s.2.2.2.1)*s.2.2.2.2.2.2.2.1.2.1)):Nat):Int)))) ((b0P (a08 (a00 (wrap .i64 (s.2.2.2.2.2.1*s.2.2.2.2.2.2.2.1.2.1))) (a05 (a00 (wrap .i64 ((v0s (wrap .i64 (s.2.2.2.2.2.1+s.2.1)) s.2.2.2.1)*s.2.2.2.2.2.2.2.1.2.1))) s.1),s.2.2.2.2.2.2.2.1)).bind fun y9=>cond (y9.2 != 0) (some (.inr (Sum.inr ((y9.2,[],()))))) ((a4H (y9.1,s.2.2.2.2.2.2.2.1,s.2.2.2.2.2.1,s.2.2.1)).bind fun y10=>cond (y10.2 != 0) (some (.inr (Sum.inr ((y10.2,[],()))))) ((a4j y10.1).bind fun y11=>cond (y11.2 != 0) (some (.inr (Sum.inr ((y11.2,[],()))))) ((a4t (s.2.2.2.2.2.2.1.2.2.1,y9.1)).bind fun y12=>cond (lim ((a01 s.2.2.2.2.2.2.1.2.2.2.1)+1)) (cond (lim ((a01 s.2.2.2.2.2.2.1.2.2.2.2.1)+1)) (some (.inl (s.1,s.2.1,s.2.2.1,s.2.2.2.1,wrap .i64 (s.2.2.2.2.1+(y11.1.length:Int)),wrap .i64 (s.2.2.2.2.2.1+s.2.1),(s.2.2.2.2.2.2.1.1,s.2.2.2.2.2.2.1.2.1,y12.1,a03 s.2.2.2.2.2.2.1.2.2.2.1 ([(s.2.2.2.2.2.1,s.2.2.2.2.1,())]:List (Int×Int×Unit)),a03 s.2.2.2.2.2.2.1.2.2.2.2.1 ([y10.1]:List a2R),s.2.2.2.2.2.2.1.2.2.2.2.2),s.2.2.2.2.2.2.2.1,()))) none) none)))) none) none) (some (.inr (Sum.inl (s.2.2.2.2.2.2.1,()))))
def a6n(x:(Z7×Z3)):Option (LI×Int):=(show Option (LI×(Int×Int×Z38))from(a1R x.1).bind fun y1=>cond (!y1) (some (x.2.1,x.2.2.1,x.2.2.2,true,x.1,())) (cond (decide (x.2.2.1<1)) (some (x.2.1,x.2.2.1,x.2.2.2,true,x.1,())) (cond (decide (x.2.2.1 > 4096)) (some (x.2.1,x.2.2.1,x.2.2.2,true,x.1,())) (cond (decide (x.2.2.2<0)) (some (x.2.1,x.2.2.1,x.2.2.2,true,x.1,())) (some (x.2.1,x.2.2.1,x.2.2.2,decide (x.2.2.2 > 3),x.1,())))))).bind fun z2=>cond z2.2.2.2.1 (some ([],1)) (cond (z2.2.2.2.2.1.2.1==0) none (cond ((a06 (z2.1.length:Int) z2.2.2.2.2.1.2.1) != 0) (some ([],3)) (cond (z2.2.2.2.2.1.2.1==0) none ((show Option (LI×(Int×Int×Int×Z38))from cond (decide ((wrap .i64 (a07 (z2.1.length:Int) z2.2.2.2.2.1.2.1)) > 4194304)) (some (z2.1,z2.2.1,z2.2.2.1,wrap .i64 (a07 (z2.1.length:Int) z2.2.2.2.2.1.2.1),true,z2.2.2.2.2.1,())) (cond (z2.2.1==0) none (some (z2.1,z2.2.1,z2.2.2.1,wrap .i64 (a07 (z2.1.length:Int) z2.2.2.2.2.1.2.1),decide ((wrap .i64 (a07 (wrap .i64 ((wrap .i64 ((wrap .i64 (a07 (z2.1.length:Int) z2.2.2.2.2.1.2.1))+z2.2.1))-1)) z2.2.1)) > 4096),z2.2.2.2.2.1,())))).bind fun z3=>cond z3.2.2.2.2.1 (some ([],4)) ((y0s a5Y (z3.1,z3.2.1,z3.2.2.1,z3.2.2.2.1,z3.1,(z3.1.length:Int),0,z3.2.2.2.2.2.1,())).bind fun w6=>match w6 with |.inl a7=>((y0s a5Z (a7.1,a7.2.1,a7.2.2.1,a7.2.2.2.1,0,0,(a7.2.2.2.2.1,a7.2.2.2.1,0,[],[],()),a7.2.2.2.2.1,())).bind fun w13=>match w13 with |.inl a14=>((b1X a14.1).bind fun y16=>some (y16.1,y16.2)) |.inr b15=>some (b15.2.1,b15.1)) |.inr b8=>some (b8.2.1,b8.1))))))
def b1p:FSem:=⟨[.v Q12,.v QL,.v QI,.v QI],[.o QV,.v QI],a6n⟩
def H37:Hints:=⟨[(506,[.sv 1 QL,2,3,10,.sv 62 QL,63,64,.vp 4 Q12],[Qe 0 [.sv 1 QL,2,3,10,.vp 4 Q12],Qr [9,.own 8 8 QV]]),(4090,[.sv 1 QL,2,3,10,14,15,.box 13 Q73,.vp 4 Q12,Qp 13 13],[Qe 2 [.box 13 Q73,Qp 13 13],Qr [9,.own 8 8 QV]])],[(6,[Qn [.sv 1 QL,2,3,.sv 39 .bool,.vp 4 Q12]]),(62,[Qn [.sv 1 QL,2,3,10,.sv 61 .bool,.vp 4 Q12]])],[(20,[.v,.v,.v,.v,.v,.v,.v,.v,.v,.v,.v,.v,.v,.v,.v,.q,.w [0,17],.x])]⟩
def a5M(x:LI):Option Z13:=cond (lim (a01 x)) (some (x,0,0,())) none
def b4R:FSem:=⟨[.v QB],[.b Q16],a5M⟩
def a6a(s:Z29):Option (Z29 ⊕ (Unit ⊕ Z7)):=cond (decide (s.2.2.2.1<s.2.2.1)) ((m0k s.2.1 s.2.2.2.1).bind fun x1=>(show Option (Int×Int×Int×Z33)from cond (s.2.2.2.1==9) (cond (decide (x1 > 1)) (some (s.1,s.2.2.2.1,x1,s.2.1,s.2.2.1,s.2.2.2.1,true,())) (cond (decide (s.2.2.2.1 > 0)) (some (s.1,s.2.2.2.1,x1,s.2.1,s.2.2.1,s.2.2.2.1,x1==0,())) (some (s.1,s.2.2.2.1,x1,s.2.1,s.2.2.1,s.2.2.2.1,false,())))) (cond (decide (s.2.2.2.1 > 0)) (some (s.1,s.2.2.2.1,x1,s.2.1,s.2.2.1,s.2.2.2.1,x1==0,())) (some (s.1,s.2.2.2.1,x1,s.2.1,s.2.2.1,s.2.2.2.1,false,())))).bind fun z2=>cond z2.2.2.2.2.2.2.1 (some (.inr (Sum.inr ((0,0,2,()))))) (cond (decide ((wrap .i64 (7*z2.2.1))<0)) none (cond (decide (z2.2.2.1<128)) (some (.inr (Sum.inr ((bits .u64 .or z2.1 (A0n .u64 (wrap .u64 (a06 z2.2.2.1 128)) (wrap .i64 (7*z2.2.1))),wrap .i64 (z2.2.1+1),0,()))))) (some (.inl (bits .u64 .or z2.1 (A0n .u64 (wrap .u64 (a06 z2.2.2.1 128)) (wrap .i64 (7*z2.2.1))),z2.2.2.2.1,z2.2.2.2.2.1,wrap .i64 (z2.2.2.2.2.2.1+1),())))))) (some (.inr (Sum.inl ())))
def a8J(x:LI):Option (Int×Int×Int):=(y0s a6a (0,x,(x.length:Int),0,())).bind fun w3=>match w3 with |.inl a4=>some (0,0,3) |.inr b5=>some (b5.1,b5.2.1,b5.2.2.1)
def b5k:FSem:=⟨[.v QB],[.v QU,.v QI,.v QI],a8J⟩
def d6p:Hints:=⟨[(58,[.sv 5 QU,.sv 8 QB,9,10],[Qe 0 [],Qr [.sv 2 QU,3,4]])],[(7474,[Qn [.sv 5 QU,6,.sv 7 QV,.sv 8 QB,9,10,.sv 28 .bool]])],[]⟩
def a0S(x:Z32):Option Z29:=cond (x.1.2.2.1 != 0) (some (0,x.1)) (cond ((decide (0≤x.1.2.1))&&(decide (x.1.2.1≤(x.1.1.length:Int)))) ((a8J (a08 (a00 x.1.2.1) (a05 (a01 x.1.1) x.1.1))).bind fun y1=>(show Option Z82 from cond (y1.2.2==0) (cond (decide (y1.1 > x.2)) (some (y1.1,y1.2.1,4,x.1,())) (some (y1.1,y1.2.1,y1.2.2,x.1,()))) (some (y1.1,y1.2.1,y1.2.2,x.1,()))).bind fun z2=>cond (z2.2.2.1 != 0) (some (0,z2.2.2.2.1.1,z2.2.2.2.1.2.1,z2.2.2.1,z2.2.2.2.1.2.2.2)) (some (z2.1,z2.2.2.2.1.1,wrap .i64 (z2.2.2.2.1.2.1+z2.2.1),z2.2.2.2.1.2.2))) none)
def a8a:FSem:=⟨[.r false (.b Q16),.v QU],[.v QU],a0S⟩
def d6q:Hints:=⟨[],[(15,[Qn [.sv 5 QU,6,7,.box pinned Q16,Qp 0 pinned]])],[(3,[.p,.p,.q,.q,.p,.p,.q,.q,.x,.x,.x,.v,.v,.v,.v,.v,.x])]⟩
def a3o(x:Z13):Option Z29:=some (x.2.2.1,x)
def a8b:FSem:=⟨[.r false (.b Q16)],[.v QI],a3o⟩
def a1F(x:Z13):Option Z29:=some (wrap .i64 ((x.1.length:Int)-x.2.1),x)
def a4T:FSem:=⟨[.r false (.b Q16)],[.v QI],a1F⟩
def d6r:Hints:=⟨[],[],[(1,[.p,.p,.q,.q,.v,.p,.p,.q,.q,.x,.x])]⟩
def a3S(x:Z13):Option Z29:=some (x.2.1,x)
def a8X:FSem:=⟨[.r false (.b Q16)],[.v QI],a3S⟩
def a4U(x:Z32):Option Z44:=cond (x.1.2.2.1 != 0) (some ([],x.1)) ((a1F x.1).bind fun y1=>cond (decide ((v0r x.2 0) > y1.1)) (some ([],y1.2.1,y1.2.2.1,3,y1.2.2.2.2)) (cond ((decide (0≤(wrap .i64 (y1.2.2.1+(v0r x.2 0)))))&&(decide ((wrap .i64 (y1.2.2.1+(v0r x.2 0)))≤(y1.2.1.length:Int)))) (cond ((decide (0≤y1.2.2.1))&&(decide (y1.2.2.1≤((a00 (wrap .i64 (y1.2.2.1+(v0r x.2 0))):Nat):Int)))) (cond (lim (a01 (a08 (a00 y1.2.2.1) (a05 (a00 (wrap .i64 (y1.2.2.1+(v0r x.2 0)))) y1.2.1)))) (some (a08 (a00 y1.2.2.1) (a05 (a00 (wrap .i64 (y1.2.2.1+(v0r x.2 0)))) y1.2.1),y1.2.1,wrap .i64 (y1.2.2.1+(v0r x.2 0)),y1.2.2.2)) none) none) none))
def b1i:FSem:=⟨[.r false (.b Q16),.v QI],[.o QV],a4U⟩
def d6s:Hints:=⟨[],[],[(7,[.p,.p,.q,.q,.p,.p,.q,.q,.p,.p,.q,.q,.v,.v,.x,.x,.x])]⟩
def a3A(s:Z92):Option (Z92 ⊕ Z54):=cond (decide (s.2.2.1<s.2.1)) (cond ((decide (0≤s.2.2.1))&&(decide (s.2.2.1<(s.2.2.2.1.length:Int)))) (some (.inl (wrap .u64 ((wrap .u64 (s.1*256))+(wrap .u64 (a04 s.2.2.2.1 (a00 s.2.2.1) 0))),s.2.1,wrap .i64 (s.2.2.1+1),s.2.2.2.1,s.2.2.2.2.1,()))) none) (some (.inr (s.1,s.2.2.2.2.1,())))
def a3p(x:Z32):Option Z29:=(a3J x.2).bind fun y1=>(a4U (x.1,y1)).bind fun y2=>(y0s a3A (0,(y2.1.length:Int),0,y2.1,y2.2,())).bind fun w3=>some (w3.1,w3.2.1)
def b2o:FSem:=⟨[.r false (.b Q16),.v QI],[.v QU],a3p⟩
def d6t:Hints:=⟨[(58,[.sv 5 QU,12,13,.own 11 1011 QV,.box pinned Q16],[Qe 0 [.sv 5 QU,.box pinned Q16]])],[],[]⟩
def a5x(s:(LI×(Int×Int×Z94×Z94×Z36))):Option ((LI×(Int×Int×Z94×Z94×Z36)) ⊕ (LI×(Z94×Z94×Z36))):=cond (decide (s.2.2.1<s.2.1)) ((a0S (s.2.2.2.2.2.1,1048704)).bind fun y6=>cond (lim ((a01 s.2.2.2.2.1.2.1)+1)) ((a0S (y6.2,4096)).bind fun y7=>cond (lim ((a01 s.2.2.2.2.1.2.2.1)+1)) (some (.inl (s.1,s.2.1,wrap .u64 (s.2.2.1+1),s.2.2.2.1,(s.2.2.2.2.1.1,a03 s.2.2.2.2.1.2.1 [wrap .i64 y6.1],a03 s.2.2.2.2.1.2.2.1 [wrap .i64 y7.1],s.2.2.2.2.1.2.2.2),y7.2,()))) none) none) (some (.inr (s.1,s.2.2.2.1,s.2.2.2.2.1,s.2.2.2.2.2.1,())))
def a5y(s:(Int×Int×Z94×Z98)):Option ((Int×Int×Z94×Z98) ⊕ ((Z94×Z98) ⊕ (Int×Z98))):=cond (decide (s.2.1<s.1)) (cond ((decide (0≤s.2.1))&&(decide (s.2.1<(s.2.2.2.1.2.2.1.length:Int)))) (cond ((a04 s.2.2.2.1.2.2.1 (a00 s.2.1) 0)==0) (some (.inr (Sum.inr ((2,((0,0,0,()),[],[],0,0,0,()),()))))) (some (.inl (s.1,wrap .i64 (s.2.1+1),s.2.2.1,(s.2.2.2.1.1,s.2.2.2.1.2.1,s.2.2.2.1.2.2.1,wrap .i64 (s.2.2.2.1.2.2.2.1+(a04 s.2.2.2.1.2.2.1 (a00 s.2.1) 0)),s.2.2.2.1.2.2.2.2),())))) none) (some (.inr (Sum.inl (s.2.2.1,s.2.2.2.1,()))))
def a5z(x:LI):Option (Z94×Int):=cond (decide ((x.length:Int)<4)) (some (((0,0,0,()),[],[],0,0,0,()),3)) (cond (decide (4≤(x.length:Int))) (cond ((b2s (a05 4 x)) != [75,78,83,68]) (some (((0,0,0,()),[],[],0,0,0,()),2)) (cond (decide (4≤(x.length:Int))) ((a5M (a08 4 (a05 (a01 x) x))).bind fun y1=>(a0S (y1,1048576)).bind fun y2=>(a0S (y2.2,8)).bind fun y3=>(a0S (y3.2,24)).bind fun y4=>(a0S (y4.2,4096)).bind fun y5=>(y0s a5x (x,y5.1,0,((0,0,0,()),[],[],0,0,0,()),((wrap .i64 y2.1,wrap .i64 y3.1,wrap .i64 y4.1,()),[],[],0,0,0,()),y5.2,())).bind fun w8=>(a3o w8.2.2.2.1).bind fun y9=>cond (y9.1 != 0) (some (((0,0,0,()),[],[],0,0,0,()),y9.1)) ((a1F y9.2).bind fun y10=>cond (decide (y10.1<12)) (some (((0,0,0,()),[],[],0,0,0,()),3)) ((a3p (y10.2,8)).bind fun y11=>(a3S y11.2).bind fun y12=>cond ((decide (0≤(wrap .i64 (4+y12.1))))&&(decide ((wrap .i64 (4+y12.1))≤(w8.1.length:Int)))) ((a4I (a05 (a00 (wrap .i64 (4+y12.1))) w8.1)).bind fun y13=>(a3p (y12.2,4)).bind fun y14=>cond ((wrap .u64 y13) != y14.1) (some (((0,0,0,()),[],[],0,0,0,()),5)) ((a1R w8.2.2.1.1).bind fun y15=>cond (!y15) (some (((0,0,0,()),[],[],0,0,0,()),2)) ((y0s a5y ((w8.2.2.1.2.2.1.length:Int),0,w8.2.1,(w8.2.2.1.1,w8.2.2.1.2.1,w8.2.2.1.2.2.1,w8.2.2.1.2.2.2.1,y11.1,wrap .i64 ((wrap .i64 (4+y12.1))+4),w8.2.2.1.2.2.2.2.2.2),())).bind fun w16=>match w16 with |.inl a17=>(cond (decide (a17.2.1.2.2.2.1 > 4194304)) (some (((0,0,0,()),[],[],0,0,0,()),2)) (some (a17.2.1,0))) |.inr b18=>some (b18.2.1,b18.1)))) none))) none)) none)
def a7Q:FSem:=⟨[.v QB],[.v Q27,.v QI],a5z⟩
def d6u:Hints:=⟨[(4090,[.sv 0 QB,.sv 38 QU,.sv 39 QU,.box 2 Q27,.box 4 Q26,.box 1021 Q16,Qp 2 2,Qp 4 4,Qp 5 1021],[Qe 0 [.sv 0 QB,.box 2 Q27,.box 4 Q26,.box 1021 Q16,Qp 2 2,Qp 4 4,Qp 5 1021]]),(1048570,[93,94,.box 2 Q27,.box 4 Q26,Qp 2 2,Qp 4 4,.ref 92 4 [.snd,.snd,.fst]],[Qe 2 [.box 2 Q27,.box 4 Q26,Qp 2 2,Qp 4 4],Qr [3,.box 2 Q27,Qp 2 2]])],[],[(12,[.r [4,41],.r [4,42],.q,.w [44,1021,1044],.v,.q,.x,.x,.x]),(13,[.r [4,49],.r [4,50],.q,.w [52,1021,1052],.v,.q,.x,.x,.x])]⟩
def b1Y(x:Int):Option Int:=cond ((a06 x 2)==0) (some (wrap .i64 (wrap .u64 (a07 x 2)))) (some (wrap .i64 ((wrap .i64 (0-(wrap .i64 (wrap .u64 (a07 x 2)))))-1)))
def b8i:FSem:=⟨[.v QU],[.v QI],b1Y⟩
def a5A(s:(LI×(Int×Int×c1d))):Option ((LI×(Int×Int×c1d)) ⊕ (LI×c1d)):=cond (decide (s.2.2.1<s.2.1)) ((a0S (s.2.2.2.2.1,7)).bind fun y11=>(a0S (y11.2,7)).bind fun y12=>(a0S (y12.2,2048)).bind fun y13=>(b1Y y13.1).bind fun y14=>cond (lim ((a01 s.2.2.2.1.2.2.2.1)+1)) (some (.inl (s.1,s.2.1,wrap .u64 (s.2.2.1+1),(s.2.2.2.1.1,s.2.2.2.1.2.1,s.2.2.2.1.2.2.1,a03 s.2.2.2.1.2.2.2.1 ([(wrap .i64 y11.1,wrap .i64 y12.1,y14,())]:List Z7),s.2.2.2.1.2.2.2.2),y13.2,()))) none) (some (.inr (s.1,s.2.2.2.1,s.2.2.2.2.1,())))
def a5B(x:LI):Option (a2R×Int×Int×Int):=cond (decide ((x.length:Int)<2)) (some ((0,0,(0,0,0,()),[],[],()),0,0,3)) ((show Option (LI×(Bool×b3u))from(m0k x 0).bind fun x1=>cond (x1 != 245) (some (x,true,(0,0,(0,0,0,()),[],[],()),())) ((m0k x 1).bind fun x2=>some (x,x2 != 75,(0,0,(0,0,0,()),[],[],()),()))).bind fun z3=>cond z3.2.1 (some ((0,0,(0,0,0,()),[],[],()),0,0,2)) (cond (decide (2≤(z3.1.length:Int))) ((a5M (a08 2 (a05 (a01 z3.1) z3.1))).bind fun y4=>(a0S (y4,4194304)).bind fun y5=>(a0S (y5.2,4096)).bind fun y6=>(a0S (y6.2,1048576)).bind fun y7=>(a0S (y7.2,8)).bind fun y8=>(a0S (y8.2,24)).bind fun y9=>(a0S (y9.2,16)).bind fun y10=>(y0s a5A (z3.1,y10.1,0,(wrap .i64 y5.1,wrap .i64 y6.1,(wrap .i64 y7.1,wrap .i64 y8.1,wrap .i64 y9.1,z3.2.2.1.2.2.1.2.2.2),z3.2.2.1.2.2.2),y10.2,())).bind fun w15=>(a0S (w15.2.2.1,1048576)).bind fun y16=>(a3o y16.2).bind fun y17=>cond (y17.1 != 0) (some ((0,0,(0,0,0,()),[],[],()),0,0,y17.1)) ((a1F y17.2).bind fun y18=>cond (decide (y18.1<1)) (some ((0,0,(0,0,0,()),[],[],()),0,0,3)) ((a3S y18.2).bind fun y19=>cond ((decide (0≤(wrap .i64 (2+y19.1))))&&(decide ((wrap .i64 (2+y19.1))≤(w15.1.length:Int)))) ((a7X (a05 (a00 (wrap .i64 (2+y19.1))) w15.1)).bind fun y20=>(m0k w15.1 (wrap .i64 (2+y19.1))).bind fun x21=>cond (y20 != x21) (some ((0,0,(0,0,0,()),[],[],()),0,0,5)) ((a6Y w15.2.1).bind fun y22=>cond (!y22) (some ((0,0,(0,0,0,()),[],[],()),0,0,2)) (some (w15.2.1,wrap .i64 ((wrap .i64 (2+y19.1))+1),wrap .i64 y16.1,0)))) none))) none))
def b4k:FSem:=⟨[.v QB],[.v (.pair QI (.pair QI (.pair Q12 (.pair (.list false Q12) Q43)))),.v QI,.v QI,.v QI],a5B⟩
def H71:Hints:=⟨[(8186,[.sv 0 QB,.sv 54 QU,.sv 55 QU,.box 2 Q58,.box 1029 Q16,Qp 2 2,Qp 6 1029],[Qe 0 [.sv 0 QB,.box 2 Q58,.box 1029 Q16,Qp 2 2,Qp 6 1029]])],[(14,[Qn [.sv 0 QB,.sv 25 .bool,.box 2 Q58,Qp 2 2]])],[(25,[.v,.v,.v,.v,.v,.v,.v,.v,.x])]⟩
def b2Z(x:LI):Option Z13:=cond (lim (a01 x)) (some (x,0,0,())) none
def b9u:FSem:=⟨[.v QB],[.b Q16],b2Z⟩
def a0O(x:Z13):Option Z29:=some (x.2.2.1,x)
def a2e:FSem:=⟨[.r false (.b Q16)],[.v QI],a0O⟩
def a2w(x:Z13):Option Z29:=some (wrap .i64 ((wrap .i64 (8*(x.1.length:Int)))-x.2.1),x)
def a8c:FSem:=⟨[.r false (.b Q16)],[.v QI],a2w⟩
def H74:Hints:=⟨[],[],[(1,[.p,.p,.q,.q,.v,.v,.p,.p,.q,.q,.x,.x])]⟩
def a1x(x:Z32):Option Z29:=(m0k x.1.1 (wrap .i64 (a07 x.2 8))).bind fun x1=>cond (decide ((wrap .i64 (7-(a06 x.2 8)))<0)) none (some (bits .u8 .and (A0o .u8 x1 (wrap .i64 (7-(a06 x.2 8)))) 1,x.1))
def a5C:FSem:=⟨[.r false (.b Q16),.v QI],[.v QV],a1x⟩
def a3X(s:Z82):Option (Z82 ⊕ Z54):=cond (decide (s.2.2.1<s.2.1)) ((a1x (s.2.2.2.1,s.2.2.2.1.2.1)).bind fun y3=>some (.inl (bits .u64 .or (A0n .u64 s.1 1) (wrap .u64 y3.1),s.2.1,wrap .i64 (s.2.2.1+1),(y3.2.1,wrap .i64 (y3.2.2.1+1),y3.2.2.2),()))) (some (.inr (s.1,s.2.2.2.1,())))
def a0H(x:Z32):Option Z29:=cond (x.1.2.2.1 != 0) (some (0,x.1)) ((show Option Z67 from cond (decide (x.2<0)) (some (x.2,true,x.1,())) (some (x.2,decide (x.2 > 64),x.1,()))).bind fun z1=>cond z1.2.1 (some (0,z1.2.2.1.1,z1.2.2.1.2.1,1,z1.2.2.1.2.2.2)) ((a2w z1.2.2.1).bind fun y2=>cond (decide (z1.1 > y2.1)) (some (0,y2.2.1,y2.2.2.1,3,y2.2.2.2.2)) ((y0s a3X (0,z1.1,0,y2.2,())).bind fun w4=>some (w4.1,w4.2.1))))
def a2f:FSem:=⟨[.r false (.b Q16),.v QI],[.v QU],a0H⟩
def d6v:Hints:=⟨[(506,[.sv 5 QU,27,28,.box pinned Q16,Qp 0 pinned],[Qe 0 [.sv 5 QU,.box pinned Q16]])],[(14,[Qn [1,.sv 16 .bool,.box pinned Q16,Qp 0 pinned]])],[]⟩
def a1b(x:Z32):Option Z29:=(a0H (x.1,x.2)).bind fun y1=>(show Option (Int×Z67)from cond (y1.2.2.2.1 != 0) (some (x.2,y1.1,true,y1.2,())) (some (x.2,y1.1,x.2==0,y1.2,()))).bind fun z2=>cond z2.2.2.1 (some (0,z2.2.2.2.1)) (cond (decide ((wrap .i64 (64-z2.1))<0)) none (cond (decide ((wrap .i64 (64-z2.1))<0)) none (some (A0o .i64 (wrap .i64 (A0n .u64 z2.2.1 (wrap .i64 (64-z2.1)))) (wrap .i64 (64-z2.1)),z2.2.2.2.1))))
def a2E:FSem:=⟨[.r false (.b Q16),.v QI],[.v QI],a1b⟩
def d6w:Hints:=⟨[],[(14,[Qn [1,.sv 5 QU,.sv 17 .bool,.box pinned Q16]])],[]⟩
def a6b(s:(Int×c1c)):Option ((Int×c1c) ⊕ (Int×c5w)):=cond (decide (s.2.2.1<s.2.1)) ((a1b (s.2.2.2.1,s.1)).bind fun y4=>cond (lim ((a01 s.2.2.2.2.1.2.2.2.2.2.1)+1)) (some (.inl (s.1,s.2.1,wrap .i64 (s.2.2.1+1),y4.2,(s.2.2.2.2.1.1,s.2.2.2.2.1.2.1,s.2.2.2.2.1.2.2.1,s.2.2.2.2.1.2.2.2.1,s.2.2.2.2.1.2.2.2.2.1,a03 s.2.2.2.2.1.2.2.2.2.2.1 [y4.1],s.2.2.2.2.1.2.2.2.2.2.2),()))) none) (some (.inr (s.1,s.2.2.2.2.1,s.2.2.2.1,())))
def a8K(x:(Z13×a1T)):Option (Bool×Z13×a1T):=(a0H (x.1,5)).bind fun y1=>(a0H (y1.2,4)).bind fun y2=>(a0H (y2.2,5)).bind fun y3=>(y0s a6b (wrap .i64 y3.1,wrap .i64 ((wrap .i64 y1.1)+1),0,y3.2,(x.2.1,x.2.2.1,x.2.2.2.1,wrap .i64 y2.1,x.2.2.2.2.2),())).bind fun w5=>(a1r w5.2.1.2.2.2.2.2.1).bind fun y6=>some (y6==w5.1,w5.2.2.1,w5.2.1)
def b5l:FSem:=⟨[.r false (.b Q16),.r false (.b Q41)],[.v .bool],a8K⟩
def d6x:Hints:=⟨[(250,[6,20,21,.box pinned Q16,.box 1000001 Q41,Qp 0 pinned,Qp 1 1000001],[Qe 0 [6,.box 1000001 Q41,.box pinned Q16,Qp 1 1000001]])],[],[(6,[.p,.p,.p,.r [26,1000001],.r [27,1000001],.p,.v,.w [30,1030,pinned],.q,.a [31,32,1000001],.x,.x,.x])]⟩
def a3b(s:c1c):Option (c1c ⊕ c8m):=cond (decide (s.2.1<3)) ((a1b (s.2.2.1,8)).bind fun y6=>cond ((decide (0≤s.2.1))&&(decide (s.2.1<3))) (some (.inl (s.1,wrap .i64 (s.2.1+1),y6.2,(s.2.2.2.1.1,s.2.2.2.1.2.1,s.2.2.2.1.2.2.1,s.2.2.2.1.2.2.2.1,s.2.2.2.1.2.2.2.2.1,s.2.2.2.1.2.2.2.2.2.1,a09 s.2.2.2.1.2.2.2.2.2.2.1 (a00 s.2.1) y6.1,s.2.2.2.1.2.2.2.2.2.2.2),()))) none) (some (.inr (s.1,s.2.2.1,s.2.2.2.1,())))
def a6P(s:(Int×Bool×c1c)):Option ((Int×Bool×c1c) ⊕ (Int×Bool×c5w)):=cond (decide (s.2.2.2.1<s.2.2.1)) ((a0H (s.2.2.2.2.1,5)).bind fun y15=>(a0H (y15.2,4)).bind fun y16=>cond (lim ((a01 s.2.2.2.2.2.1.2.2.2.2.2.2.2.1)+1)) (some (.inl (s.1,s.2.1,s.2.2.1,wrap .u64 (s.2.2.2.1+1),y16.2,(s.2.2.2.2.2.1.1,s.2.2.2.2.2.1.2.1,s.2.2.2.2.2.1.2.2.1,s.2.2.2.2.2.1.2.2.2.1,s.2.2.2.2.2.1.2.2.2.2.1,s.2.2.2.2.2.1.2.2.2.2.2.1,s.2.2.2.2.2.1.2.2.2.2.2.2.1,a03 s.2.2.2.2.2.1.2.2.2.2.2.2.2.1 ([(wrap .i64 ((wrap .i64 y15.1)+1),wrap .i64 y16.1,())]:List (Int×Int×Unit)),s.2.2.2.2.2.1.2.2.2.2.2.2.2.2),()))) none) (some (.inr (s.1,s.2.1,s.2.2.2.2.2.1,s.2.2.2.2.1,())))
def a9x(x:Z13):Option (a1T×Int×Bool×Z13):=(a0H (x,3)).bind fun y1=>(a0H (y1.2,5)).bind fun y2=>(a0H (y2.2,5)).bind fun y3=>(show Option (Int×Bool×c5w)from(show Option (c8m ⊕ ((Int×Bool×c5w) ⊕ (Int×Bool×d1N)))from cond ((wrap .i64 y1.1)==2) ((a0H (y3.2,3)).bind fun y4=>some (Sum.inr (Sum.inl (wrap .i64 y3.1,true,(wrap .i64 y1.1,wrap .i64 y2.1,wrap .i64 y4.1,0,0,[],a02 3 0,[],[],(0,[],()),[],()),y4.2,())))) (cond ((wrap .i64 y1.1)==4) ((a0H (y3.2,10)).bind fun y5=>(y0s a3b (wrap .i64 y3.1,0,y5.2,(wrap .i64 y1.1,wrap .i64 y2.1,0,0,wrap .i64 ((wrap .i64 y5.1)+1),[],a02 3 0,[],[],(0,[],()),[],()),())).bind fun w7=>some (Sum.inl (w7.1,w7.2.1,w7.2.2.1,()))) (cond ((wrap .i64 y1.1)==3) (some (Sum.inl (wrap .i64 y3.1,y3.2,(wrap .i64 y1.1,wrap .i64 y2.1,0,0,0,[],a02 3 0,[],[],(0,[],()),[],()),()))) (cond ((wrap .i64 y1.1)==5) (some (Sum.inr (Sum.inr ((wrap .i64 y3.1,true,y3.2,(wrap .i64 y1.1,wrap .i64 y2.1,0,0,0,[],a02 3 0,[],[],(0,[],()),[],()),()))))) (some (Sum.inr (Sum.inl (wrap .i64 y3.1,true,(wrap .i64 y1.1,wrap .i64 y2.1,0,0,0,[],a02 3 0,[],[],(0,[],()),[],()),y3.2,())))))))).bind fun z8=>match z8 with |.inl a9=>((a8K (a9.2.1,a9.2.2.1)).bind fun y11=>some (a9.1,y11.1,y11.2.2,y11.2.1,())) |.inr b10=>(match b10 with |.inl a12=>some (a12.1,a12.2.1,a12.2.2.1,a12.2.2.2.1,()) |.inr b13=>((a0H (b13.2.2.1,2)).bind fun y14=>(y0s a6P (b13.1,b13.2.1,y14.1,0,y14.2,b13.2.2.2.1,())).bind fun w17=>some (w17.1,w17.2.1,w17.2.2.1,w17.2.2.2.1,())))).bind fun z18=>some (z18.2.2.1,z18.1,z18.2.1,z18.2.2.2.1)
def b6C:FSem:=⟨[.r false (.b Q16)],[.v (.pair QI (.pair QI (.pair QI (.pair QI (.pair QI (.pair QL (.pair (.arr 3 QI) (.pair (.list false Q3) Q23)))))))),.v QI,.v .bool],a9x⟩
def d6y:Hints:=⟨[(8106,[3,.sv 4 .bool,.sv 50 QU,.sv 51 QU,.box pinned Q16,.box 2 Q41,Qp 0 pinned,Qp 2 2],[Qe 7 [3,.sv 4 .bool,.box 2 Q41,.box pinned Q16,Qp 2 2]]),(129550,[3,38,.box pinned Q16,.box 2 Q41,Qp 0 pinned,Qp 2 2],[Qe 5 [3,.box pinned Q16,.box 2 Q41,Qp 0 pinned,Qp 2 2]])],[(63,[Qn [3,.sv 4 .bool,.box 2 Q41,.box pinned Q16,Qp 2 2]]),(2024,[Qn [3,.box pinned Q16,.box 2 Q41,Qp 0 pinned,Qp 2 2],Qe 0 [3,.sv 4 .bool,.box 2 Q41,.box pinned Q16,Qp 2 2],Qe 4 [3,.sv 4 .bool,.box pinned Q16,.box 2 Q41,Qp 0 pinned,Qp 2 2]])],[]⟩
end Go.Ab
namespace Go.Ab
open IntKind(wrap)
open Go.Proofs
set_option maxRecDepth 100000
set_option linter.unusedVariables false
def a3i(s:Z82):Option (Z82 ⊕ Z54):=cond (s.2.2.1==(wrap .i64 (8*(s.2.2.2.1.1.length:Int)))) (some (.inr (0,(s.2.2.2.1.1,s.2.2.2.1.2.1,3,s.2.2.2.1.2.2.2),()))) ((a1x (s.2.2.2.1,s.2.2.1)).bind fun y2=>cond (y2.1==1) (some (.inr (s.2.1,(y2.2.1,wrap .i64 (s.2.2.1+1),y2.2.2.2),()))) (cond (s.2.1==s.1) (some (.inr (0,(y2.2.1,y2.2.2.1,2,y2.2.2.2.2),()))) (some (.inl (s.1,wrap .i64 (s.2.1+1),wrap .i64 (s.2.2.1+1),y2.2,())))))
def a2Z(x:Z32):Option Z29:=cond (x.1.2.2.1 != 0) (some (0,x.1)) ((y0s a3i (v0r x.2 0,0,x.1.2.1,x.1,())).bind fun w3=>some (w3.1,w3.2.1))
def b1j:FSem:=⟨[.r false (.b Q16),.v QI],[.v QI],a2Z⟩
def d6z:Hints:=⟨[(62,[1,5,6,.box pinned Q16,Qp 0 pinned],[Qr [4,.box pinned Q16]])],[],[(4,[.p,.p,.q,.q,.v,.x])]⟩
def a7m(x:Int):Option Int:=cond (decide (x≥2147483648)) (some 0) (cond ((a06 x 2)==0) (some (wrap .i64 (wrap .u64 (a07 x 2)))) (some (wrap .i64 ((wrap .i64 (0-(wrap .i64 (wrap .u64 (a07 x 2)))))-1))))
def b6D:FSem:=⟨[.v QU],[.v QI],a7m⟩
def b3a(x:Z32):Option Z49:=(a2Z (x.1,32)).bind fun y1=>(a0O y1.2).bind fun y2=>cond (y2.1 != 0) ((a0O y2.2).bind fun y3=>some (0,y3.1,y3.2)) (cond (decide ((wrap .u64 y1.1)<32)) ((a0H (y2.2,x.2)).bind fun y4=>cond (decide (x.2<0)) none ((a7m (wrap .u64 ((A0n .u64 (wrap .u64 y1.1) x.2)+y4.1))).bind fun y5=>(a0O y4.2).bind fun y6=>some (y5,y6.1,y6.2))) ((a0H (y2.2,32)).bind fun y7=>(a0O y7.2).bind fun y8=>cond (y8.1 != 0) ((a0O y8.2).bind fun y9=>some (0,y9.1,y9.2)) ((show Option Z67 from cond (decide (y7.1≥2147483648)) (some (y7.1,true,y8.2,())) (cond (decide (x.2<0)) none (some (y7.1,decide ((A0o .u64 y7.1 x.2)<32),y8.2,())))).bind fun z10=>cond z10.2.1 (some (0,2,z10.2.2.1)) ((a7m z10.1).bind fun y11=>some (y11,0,z10.2.2.1)))))
def b9v:FSem:=⟨[.r false (.b Q16),.v QI],[.v QI,.v QI],b3a⟩
def d6A:Hints:=⟨[],[(254,[Qn [.sv 8 QU,.sv 44 .bool,.box pinned Q16]])],[]⟩
def a9y(s:Z92):Option (Z92 ⊕ (Z63 ⊕ Z78)):=cond (decide (s.2.2.1<s.2.1)) ((b3a (s.2.2.2.2.1,s.1)).bind fun y5=>cond (y5.2.1 != 0) (some (.inr (Sum.inr ((y5.2.1,[],y5.2.2,()))))) (cond (lim ((a01 s.2.2.2.1)+1)) (some (.inl (s.1,s.2.1,wrap .i64 (s.2.2.1+1),a03 s.2.2.2.1 [y5.1],y5.2.2,()))) none)) (some (.inr (Sum.inl (s.2.2.2.1,s.2.2.2.2.1,()))))
def b3b(x:(Z13×Int×Int)):Option Z59:=(show Option (Int×Z67)from(a1L x.2.1).bind fun y1=>cond (!y1) (some (x.2.1,x.2.2,true,x.1,())) (cond (decide (x.2.2<0)) (some (x.2.1,x.2.2,true,x.1,())) (some (x.2.1,x.2.2,decide (x.2.2 > 4194304),x.1,())))).bind fun z2=>cond z2.2.2.1 (some ([],1,z2.2.2.2.1)) ((a0O z2.2.2.2.1).bind fun y3=>cond (y3.1 != 0) ((a0O y3.2).bind fun y4=>some ([],y4.1,y4.2)) ((y0s a9y (z2.1,z2.2.1,0,[],y3.2,())).bind fun w6=>match w6 with |.inl a7=>some (a7.1,0,a7.2.1) |.inr b8=>some (b8.2.1,b8.1,b8.2.2.1)))
def b9w:FSem:=⟨[.r false (.b Q16),.v QI,.v QI],[.o QI,.v QI],b3b⟩
def d6B:Hints:=⟨[(250,[1,27,28,.own 8 8 QI,.box pinned Q16,Qp 0 pinned],[Qe 0 [.own 8 8 QI,.box pinned Q16],Qr [7,.own 6 6 QI,.box pinned Q16]])],[(6,[Qn [1,2,.sv 21 .bool,.box pinned Q16,Qp 0 pinned]])],[]⟩
def a8L(s:(Int×Z92)):Option ((Int×Z92) ⊕ Z88):=cond (decide (s.2.2.2.1<s.2.2.1)) ((a1b (s.2.2.2.2.2.1,s.2.1)).bind fun y6=>cond (lim ((a01 s.2.2.2.2.1)+1)) (some (.inl (s.1,s.2.1,s.2.2.1,wrap .i64 (s.2.2.2.1+1),a03 s.2.2.2.2.1 [y6.1],y6.2,()))) none) (some (.inr (s.1,s.2.1,s.2.2.2.2.1,s.2.2.2.2.2.1,())))
def b1Z(x:Z32):Option (Int×Z59):=(a0H (x.1,5)).bind fun y1=>(a0O y1.2).bind fun y2=>cond (y2.1 != 0) ((a0O y2.2).bind fun y3=>some (0,[],y3.1,y3.2)) (cond (decide ((wrap .i64 y1.1)≤25)) ((b3b (y2.2,wrap .i64 y1.1,x.2)).bind fun y4=>some (wrap .i64 y1.1,y4.1,y4.2.1,y4.2.2)) (cond ((wrap .i64 y1.1) != 31) (some (0,[],2,y2.2)) ((a0H (y2.2,5)).bind fun y5=>(y0s a8L (wrap .i64 y1.1,wrap .i64 y5.1,x.2,0,[],y5.2,())).bind fun w7=>(a0O w7.2.2.2.1).bind fun y8=>cond (y8.1 != 0) ((a0O y8.2).bind fun y9=>some (0,[],y9.1,y9.2)) ((a1r w7.2.2.1).bind fun y10=>cond (y10 != w7.2.1) (some (0,[],2,y8.2)) (some (w7.1,w7.2.2.1,0,y8.2))))))
def b8j:FSem:=⟨[.r false (.b Q16),.v QI],[.v QI,.o QI,.v QI],b1Z⟩
def d6C:Hints:=⟨[(2042,[7,10,37,38,.own 11 11 QI,.box pinned Q16,Qp 0 pinned],[Qe 0 [7,10,.own 11 11 QI,.box pinned Q16,Qp 0 pinned]])],[],[]⟩
def a8M(s:(Int×(Int×(LI×(LI×(Z13×Z81)))))):Option ((Int×(Int×(LI×(LI×(Z13×Z81))))) ⊕ ((LI×(Z5×Z5×Z36)) ⊕ (Int×(LI×(Z5×Z36))))):=cond (decide (s.2.1<s.1)) (cond ((decide (0≤s.2.1))&&(decide (s.2.1<(s.2.2.2.1.length:Int)))) ((b1Z (s.2.2.2.2.1,a04 s.2.2.2.1 (a00 s.2.1) 0)).bind fun y6=>cond (y6.2.2.1 != 0) (some (.inr (Sum.inr ((y6.2.2.1,[],(0,[],()),y6.2.2.2,()))))) (cond (lim ((a01 s.2.2.2.2.2.2.1.2.1)+1)) (cond (lim ((a01 s.2.2.1)+(a01 y6.2.1))) (some (.inl (s.1,wrap .i64 (s.2.1+1),a03 s.2.2.1 y6.2.1,s.2.2.2.1,y6.2.2.2,s.2.2.2.2.2.1,(s.2.2.2.2.2.2.1.1,a03 s.2.2.2.2.2.2.1.2.1 [y6.1],s.2.2.2.2.2.2.1.2.2),()))) none) none)) none) (some (.inr (Sum.inl (s.2.2.1,s.2.2.2.2.2.1,s.2.2.2.2.2.2.1,s.2.2.2.2.1,()))))
def b2a(x:(Z13×Int×Int)):Option (Z5×Z59):=(a7t (x.2.1,x.2.2)).bind fun y1=>cond (!y1) (some ((0,[],()),[],1,x.1)) ((a0H (x.1,4)).bind fun y2=>(a0O y2.2).bind fun y3=>cond (y3.1 != 0) ((a0O y3.2).bind fun y4=>some ((0,[],()),[],y4.1,y4.2)) ((a2N (wrap .i64 y2.1,x.2.1,x.2.2)).bind fun y5=>cond ((y5.length:Int)==0) (some ((0,[],()),[],2,y3.2)) ((y0s a8M ((y5.length:Int),0,[],y5,y3.2,(0,[],()),(wrap .i64 y2.1,[],()),())).bind fun w7=>match w7 with |.inl a8=>some (a8.2.2.1,a8.1,0,a8.2.2.2.1) |.inr b9=>some (b9.2.2.1,b9.2.1,b9.1,b9.2.2.2.1))))
def b8k:FSem:=⟨[.r false (.b Q16),.v QI,.v QI],[.v Q11,.o QI,.v QI],b2a⟩
def d6D:Hints:=⟨[(4090,[43,44,.own 12 12 QI,.own 42 10 QI,.box pinned Q16,.box 6 Q11,.box 11 Q10,Qp 0 pinned,Qp 6 6,Qp 11 11],[Qe 0 [.own 12 12 QI,.box 6 Q11,.box 11 Q10,.box pinned Q16,Qp 6 6,Qp 11 11],Qr [8,.own 7 7 QI,.box 6 Q11,.box pinned Q16,Qp 6 6]])],[],[]⟩
def b0Q(s:(Int×Int×Bool×Int×Int×Z13×b2z)):Option ((Int×Int×Bool×Int×Int×Z13×b2z) ⊕ (Int×Int×Bool×Z13×b2z)):=cond (decide (s.2.2.2.2.1<s.2.2.2.1)) ((a1b (s.2.2.2.2.2.1,s.2.1)).bind fun y7=>cond (lim ((a01 s.2.2.2.2.2.2.2.1.2.2.2.2.2.2.2.2.1)+1)) (some (.inl (s.1,s.2.1,s.2.2.1,s.2.2.2.1,wrap .i64 (s.2.2.2.2.1+1),y7.2,s.2.2.2.2.2.2.1,(s.2.2.2.2.2.2.2.1.1,s.2.2.2.2.2.2.2.1.2.1,s.2.2.2.2.2.2.2.1.2.2.1,s.2.2.2.2.2.2.2.1.2.2.2.1,s.2.2.2.2.2.2.2.1.2.2.2.2.1,s.2.2.2.2.2.2.2.1.2.2.2.2.2.1,s.2.2.2.2.2.2.2.1.2.2.2.2.2.2.1,s.2.2.2.2.2.2.2.1.2.2.2.2.2.2.2.1,a03 s.2.2.2.2.2.2.2.1.2.2.2.2.2.2.2.2.1 [y7.1],s.2.2.2.2.2.2.2.1.2.2.2.2.2.2.2.2.2),()))) none) (some (.inr (s.1,s.2.1,s.2.2.1,s.2.2.2.2.2.1,s.2.2.2.2.2.2.1,s.2.2.2.2.2.2.2.1,())))
def b2p(x:Z32):Option (a1T×Z29):=cond (decide (x.2<1)) (some ((0,0,0,0,0,[],a02 3 0,[],[],(0,[],()),[],()),1,x.1)) (cond (decide (x.2 > 4096)) (some ((0,0,0,0,0,[],a02 3 0,[],[],(0,[],()),[],()),1,x.1)) ((a0O x.1).bind fun y1=>cond (y1.1 != 0) (some ((0,0,0,0,0,[],a02 3 0,[],[],(0,[],()),[],()),y1.1,y1.2)) ((a9x y1.2).bind fun y2=>(a0O y2.2.2.2).bind fun y3=>cond (y3.1 != 0) (some ((0,0,0,0,0,[],a02 3 0,[],[],(0,[],()),[],()),y3.1,y3.2)) ((a7U (y2.1.1,y2.1,x.2)).bind fun y4=>cond (!y4) (some ((0,0,0,0,0,[],a02 3 0,[],[],(0,[],()),[],()),2,y3.2)) ((a4y (y2.1,x.2)).bind fun y5=>(y0s b0Q (x.2,y2.2.1,y2.2.2.1,y5,0,y3.2,(0,0,0,0,0,[],a02 3 0,[],[],(0,[],()),[],()),y2.1,())).bind fun w8=>(a0O w8.2.2.2.1).bind fun y9=>cond (y9.1 != 0) (some ((0,0,0,0,0,[],a02 3 0,[],[],(0,[],()),[],()),y9.1,y9.2)) ((a6d w8.2.2.2.2.2.1.1).bind fun y10=>cond y10 ((b2a (y9.2,w8.1,(w8.2.2.2.2.2.1.2.2.2.2.2.2.2.2.1.length:Int))).bind fun y11=>cond (y11.2.2.1 != 0) (some ((0,0,0,0,0,[],a02 3 0,[],[],(0,[],()),[],()),y11.2.2.1,y11.2.2.2)) (cond (!w8.2.2.1) (some ((0,0,0,0,0,[],a02 3 0,[],[],(0,[],()),[],()),2,y11.2.2.2)) ((a1r w8.2.2.2.2.2.1.2.2.2.2.2.2.2.2.1).bind fun y12=>cond (y12 != w8.2.1) (some ((0,0,0,0,0,[],a02 3 0,[],[],(0,[],()),[],()),2,y11.2.2.2)) ((a9M ((w8.2.2.2.2.2.1.1,w8.2.2.2.2.2.1.2.1,w8.2.2.2.2.2.1.2.2.1,w8.2.2.2.2.2.1.2.2.2.1,w8.2.2.2.2.2.1.2.2.2.2.1,w8.2.2.2.2.2.1.2.2.2.2.2.1,w8.2.2.2.2.2.1.2.2.2.2.2.2.1,w8.2.2.2.2.2.1.2.2.2.2.2.2.2.1,w8.2.2.2.2.2.1.2.2.2.2.2.2.2.2.1,y11.1,y11.2.1,w8.2.2.2.2.2.1.2.2.2.2.2.2.2.2.2.2.2),w8.1)).bind fun y13=>cond (!y13) (some ((0,0,0,0,0,[],a02 3 0,[],[],(0,[],()),[],()),2,y11.2.2.2)) (some ((w8.2.2.2.2.2.1.1,w8.2.2.2.2.2.1.2.1,w8.2.2.2.2.2.1.2.2.1,w8.2.2.2.2.2.1.2.2.2.1,w8.2.2.2.2.2.1.2.2.2.2.1,w8.2.2.2.2.2.1.2.2.2.2.2.1,w8.2.2.2.2.2.1.2.2.2.2.2.2.1,w8.2.2.2.2.2.1.2.2.2.2.2.2.2.1,w8.2.2.2.2.2.1.2.2.2.2.2.2.2.2.1,y11.1,y11.2.1,w8.2.2.2.2.2.1.2.2.2.2.2.2.2.2.2.2.2),0,y11.2.2.2)))))) (cond (!w8.2.2.1) (some ((0,0,0,0,0,[],a02 3 0,[],[],(0,[],()),[],()),2,y9.2)) ((a1r w8.2.2.2.2.2.1.2.2.2.2.2.2.2.2.1).bind fun y14=>cond (y14 != w8.2.1) (some ((0,0,0,0,0,[],a02 3 0,[],[],(0,[],()),[],()),2,y9.2)) ((a9M (w8.2.2.2.2.2.1,w8.1)).bind fun y15=>cond (!y15) (some ((0,0,0,0,0,[],a02 3 0,[],[],(0,[],()),[],()),2,y9.2)) (some (w8.2.2.2.2.2.1,0,y9.2)))))))))))
def c1H:FSem:=⟨[.r false (.b Q16),.v QI],[.v Q42,.v QI],b2p⟩
def H73:Hints:=⟨[(1018,[1,8,.sv 9 .bool,47,48,.box pinned Q16,.box 4 Q42,.box 7 (.pair QI (.pair QI (.pair QI (.pair QI (.pair QI (.pair QL (.pair (.arr 3 QI) (.pair (.list false Q3) (.pair (.list true QI) Q20))))))))),Qp 0 pinned,Qp 4 4,Qp 7 7],[Qe 0 [1,8,.sv 9 .bool,.box pinned Q16,.box 4 Q42,.box 7 (.pair QI (.pair QI (.pair QI (.pair QI (.pair QI (.pair QL (.pair (.arr 3 QI) (.pair (.list false Q3) (.pair (.list true QI) Q20))))))))),Qp 0 pinned,Qp 4 4,Qp 7 7]])],[],[(14,[.r [7,50],.r [7,51],.p,.v,.w [54,1054,pinned],.q,.x,.x,.x])]⟩
def a3j(s:Z66):Option (Z66 ⊕ (Z54 ⊕ Z36)):=cond (decide (s.2.1<s.1)) ((a1x (s.2.2.1,s.2.1)).bind fun y1=>cond (y1.1==1) (some (.inr (Sum.inr (((y1.2.1,y1.2.2.1,2,y1.2.2.2.2),()))))) (some (.inl (s.1,wrap .i64 (s.2.1+1),y1.2,())))) (some (.inr (Sum.inl (s.1,s.2.2.1,()))))
def a4V(x:Z13):Option Z13:=cond (x.2.2.1 != 0) (some x) ((y0s a3j (wrap .i64 ((wrap .i64 (a07 (wrap .i64 (x.2.1+7)) 8))*8),x.2.1,x,())).bind fun w2=>match w2 with |.inl a3=>some (a3.2.1.1,a3.1,a3.2.1.2.2) |.inr b4=>some b4.1)
def b1k:FSem:=⟨[.r false (.b Q16)],[],a4V⟩
def H75:Hints:=⟨[(58,[2,3,.box pinned Q16,Qp 0 pinned],[Qe 0 [2,.box pinned Q16,Qp 0 pinned],Qr [.box pinned Q16]])],[],[]⟩
def a7R(s:(Int×Int×Int×a2R×c1d)):Option ((Int×Int×Int×a2R×c1d) ⊕ ((Int×a2R×c1d) ⊕ (Int×Int×b3u))):=cond (decide (s.2.2.1<s.2.1)) ((b2p (s.2.2.2.2.2.1,s.2.2.2.2.1.2.1)).bind fun y7=>cond (y7.2.1 != 0) (some (.inr (Sum.inr ((0,2,(0,0,(0,0,0,()),[],[],()),()))))) (cond (lim ((a01 s.2.2.2.2.1.2.2.2.2.1)+1)) (some (.inl (s.1,s.2.1,wrap .i64 (s.2.2.1+1),s.2.2.2.1,(s.2.2.2.2.1.1,s.2.2.2.2.1.2.1,s.2.2.2.2.1.2.2.1,s.2.2.2.2.1.2.2.2.1,a03 s.2.2.2.2.1.2.2.2.2.1 ([y7.1]:List a1T),s.2.2.2.2.1.2.2.2.2.2),y7.2.2,()))) none)) (some (.inr (Sum.inl (s.1,s.2.2.2.1,s.2.2.2.2.1,s.2.2.2.2.2.1,()))))
def a1C(x:LI):Option (a2R×Int×Int):=(a5B x).bind fun y1=>cond (y1.2.2.2 != 0) (some ((0,0,(0,0,0,()),[],[],()),0,y1.2.2.2)) (cond (decide ((x.length:Int)<(wrap .i64 ((wrap .i64 (y1.2.1+y1.2.2.1))+2)))) (some ((0,0,(0,0,0,()),[],[],()),0,3)) (cond ((decide (0≤(wrap .i64 (y1.2.1+y1.2.2.1))))&&(decide ((wrap .i64 (y1.2.1+y1.2.2.1))≤(x.length:Int)))) ((a6i (a05 (a00 (wrap .i64 (y1.2.1+y1.2.2.1))) x)).bind fun y2=>(m0k x (wrap .i64 (y1.2.1+y1.2.2.1))).bind fun x3=>(m0k x (wrap .i64 ((wrap .i64 (y1.2.1+y1.2.2.1))+1))).bind fun x4=>cond (y2 != (bits .u16 .or (A0n .u16 (wrap .u16 x3) 8) (wrap .u16 x4))) (some ((0,0,(0,0,0,()),[],[],()),0,5)) (cond ((decide (0≤(wrap .i64 (y1.2.1+y1.2.2.1))))&&(decide ((wrap .i64 (y1.2.1+y1.2.2.1))≤(x.length:Int)))) (cond ((decide (0≤y1.2.1))&&(decide (y1.2.1≤((a00 (wrap .i64 (y1.2.1+y1.2.2.1)):Nat):Int)))) ((b2Z (a08 (a00 y1.2.1) (a05 (a00 (wrap .i64 (y1.2.1+y1.2.2.1))) x))).bind fun y5=>(y0s a7R (wrap .i64 (y1.2.1+y1.2.2.1),y1.1.2.2.1.2.1,0,(0,0,(0,0,0,()),[],[],()),y1.1,y5,())).bind fun w8=>match w8 with |.inl a9=>((a2w a9.2.2.2.1).bind fun y11=>cond (decide (y11.1≥8)) (some ((0,0,(0,0,0,()),[],[],()),0,2)) ((a4V y11.2).bind fun y12=>(a0O y12).bind fun y13=>cond (y13.1 != 0) (some ((0,0,(0,0,0,()),[],[],()),0,2)) ((a4h a9.2.2.1).bind fun y14=>cond (!y14) (some ((0,0,(0,0,0,()),[],[],()),0,2)) (some (a9.2.2.1,wrap .i64 (a9.1+2),0))))) |.inr b10=>some (b10.2.2.1,b10.1,b10.2.1)) none) none)) none))
def b0R:FSem:=⟨[.v QB],[.v Q60,.v QI,.v QI],a1C⟩
def H21:Hints:=⟨[(2042,[9,59,60,.box 2 Q60,.box 5 Q59,.box 1056 Q16,Qp 2 2,Qp 5 5,Qp 10 1056],[Qe 0 [9,.box 2 Q60,.box 5 Q59,.box 1056 Q16,Qp 2 2,Qp 5 5,Qp 10 1056],Qr [3,4,.box 2 Q60,Qp 2 2]])],[],[(7,[.v,.v,.v,.v,.v,.v,.v,.v,.v,.v,.v,.v,.v,.v,.v,.v,.v,.x])]⟩
def a6Q(x:(LI×(Z94×Int×Int×Int))):Option (a2R×Z27):=(m0k x.2.1.2.1 x.2.2.1).bind fun x1=>cond (decide ((wrap .i64 ((x.1.length:Int)-x.2.2.2.1))<x1)) (some ((0,0,(0,0,0,()),[],[],()),(0,([]:(List LI)),()),3)) (cond ((decide (0≤(wrap .i64 (x.2.2.2.1+x1))))&&(decide ((wrap .i64 (x.2.2.2.1+x1))≤(x.1.length:Int)))) (cond ((decide (0≤x.2.2.2.1))&&(decide (x.2.2.2.1≤((a00 (wrap .i64 (x.2.2.2.1+x1)):Nat):Int)))) ((a1C (a08 (a00 x.2.2.2.1) (a05 (a00 (wrap .i64 (x.2.2.2.1+x1))) x.1))).bind fun y2=>cond (y2.2.2 != 0) (some ((0,0,(0,0,0,()),[],[],()),(0,([]:(List LI)),()),y2.2.2)) ((show Option (Bool×a2R×c2X)from cond (decide (y2.2.1<x1)) (some (true,(0,0,(0,0,0,()),[],[],()),(0,([]:(List LI)),()),y2.1,())) (cond (!(eqT Q12 y2.1.2.2.1 x.2.1.1)) (some (true,(0,0,(0,0,0,()),[],[],()),(0,([]:(List LI)),()),y2.1,())) (cond (y2.1.1 != x.2.2.2.2) (some (true,(0,0,(0,0,0,()),[],[],()),(0,([]:(List LI)),()),y2.1,())) ((m0k x.2.1.2.2.1 x.2.2.1).bind fun x3=>some (y2.1.2.1 != x3,(0,0,(0,0,0,()),[],[],()),(0,([]:(List LI)),()),y2.1,()))))).bind fun z4=>cond z4.1 (some ((0,0,(0,0,0,()),[],[],()),(0,([]:(List LI)),()),2)) ((a2O z4.2.2.2.1).bind fun y5=>cond (y5.2 != 0) (some ((0,0,(0,0,0,()),[],[],()),(0,([]:(List LI)),()),y5.2)) (some (z4.2.2.2.1,y5.1,0))))) none) none)
def a6R:FSem:=⟨[.v QB,.v Q27,.v QI,.v QI,.v QI],[.v Q60,.v Q15,.v QI],a6Q⟩
def d6E:Hints:=⟨[],[(126,[Qn [.sv 72 .bool,.box 10 Q60,.box 11 Q15,.box 14 Q60,Qp 10 10,Qp 11 11,Qp 14 14]])],[(7,[.v,.v,.x,.x,.q,.q,.v,.v,.x,.x,.x,.q,.q,.v,.x,.x,.x,.q,.q,.v,.v,.v,.v,.v,.x,.x]),(12,[.q,.r [17,86],.w [0,10],.x,.x])]⟩
def d1V:Hints:=⟨[(250,[.sv 35 (.list false QL),36,37,.box 4 Q15,.box 6 (.pair QI Q7),.vp 3 Q3,Qp 4 4,Qp 6 6],[Qe 0 [.box 4 Q15,.box 6 (.pair QI Q7),Qp 4 4,Qp 6 6]])],[(14,[Qn [.sv 29 .bool,.box 4 Q15,.vp 2 Q15,.vp 3 Q3,Qp 4 4]])],[(3,[.x,.x,.x,.x,.v,.v,.v,.v,.x,.x,.x,.v,.v,.v,.v,.x,.x]),(9,[.q,.q,.v,.v,.v,.v,.v,.v,.v,.q,.x,.x,.x])]⟩
def c4z(x:(Z10×Int×Int×Unit)):Option Z27:=A0j (a9T [(22,a7r),(56,a4g),(183,a1l)] [(6,.pair (.int .i64) Q7),(12,.pair (.int .i64) Q5),(30,.pair (.int .i64) Q5),(33,.pair (.int .i64) Q5)] [0,1,5,8] [2,3]) d1V Tryz.f104 [.v Q15,.v Q3] [.v Q15,.v (.int .i64)] x
def b4S:FSem:=⟨[.v Q15,.v Q3],[.v Q15,.v QI],c4z⟩
def H43:Hints:=⟨[(1018,[.sv 0 QB,9,10,.sv 48 QL,49,50,.own 8 8 QI,.box 6 Q27,.vp 3 Q3,Qp 6 6],[Qe 0 [.own 8 8 QI],Qr [5,.own 4 4 QI]])],[(30,[Qn [.sv 0 QB,.sv 44 .bool,.box 6 Q27,.vp 3 Q3,Qp 6 6]]),(260711,[Qn [.sv 0 QB,9,12,13,.sv 48 QL,49,50,.own 8 8 QI,.box 6 Q27,.vp 3 Q3,Qp 6 6],Qr [5,.own 4 4 QI]])],[(12,[.v,.v,.v,.v,.v,.v,.v,.v,.v,.x])]⟩
def b7h(x:Z13):Option (LI×Int):=A0j (a9T [(86,a5f),(102,a7Q),(103,a6R),(104,b4S)] [] [0,1,4,5,7,8,9,10,11,12,13,14,15,18] [3]) H43 Tryz.f43 [.v (.list false (.int .u8)),.v Q3] [.o (.int .i64),.v (.int .i64)] x
def b7i:FSem:=⟨[.v QB,.v Q3],[.o QI,.v QI],b7h⟩
def a3B(s:(LI×(Int×(LI×(Int×Int×b1l×Z94×a9S))))):Option ((LI×(Int×(LI×(Int×Int×b1l×Z94×a9S)))) ⊕ ((LI×(Int×b1l×Z94×a9S)) ⊕ (Int×a9S))):=cond (decide (s.2.2.2.2.1<s.2.2.2.1)) ((m0k s.2.2.1 s.2.2.2.2.1).bind fun x2=>(a6Q (s.1,s.2.2.2.2.2.2.1,s.2.2.2.2.1,s.2.1,s.2.2.2.2.2.2.2.1.2.1)).bind fun y3=>cond (y3.2.2 != 0) (some (.inr (Sum.inr ((y3.2.2,((0,0,0,()),0,0,[],[],()),()))))) ((a4t (s.2.2.2.2.2.2.2.1.2.2.1,y3.2.1)).bind fun y4=>cond (lim ((a01 s.2.2.2.2.2.2.2.1.2.2.2.1)+1)) (cond (lim ((a01 s.2.2.2.2.2.2.2.1.2.2.2.2.1)+1)) (some (.inl (s.1,wrap .i64 (s.2.1+x2),s.2.2.1,s.2.2.2.1,wrap .i64 (s.2.2.2.2.1+1),s.2.2.2.2.2.1,s.2.2.2.2.2.2.1,(s.2.2.2.2.2.2.2.1.1,wrap .i64 (s.2.2.2.2.2.2.2.1.2.1+y3.1.2.1),y4.1,a03 s.2.2.2.2.2.2.2.1.2.2.2.1 ([(s.2.2.2.2.2.2.2.1.2.1,wrap .i64 (s.2.1-s.2.2.2.2.2.2.1.2.2.2.2.2.1),())]:List (Int×Int×Unit)),a03 s.2.2.2.2.2.2.2.1.2.2.2.2.1 ([y3.1]:List a2R),s.2.2.2.2.2.2.2.1.2.2.2.2.2),()))) none) none)) (some (.inr (Sum.inl (s.1,s.2.1,s.2.2.2.2.2.1,s.2.2.2.2.2.2.1,s.2.2.2.2.2.2.2.1,()))))
def a8d(x:LI):Option (b1l×Int):=(a5z x).bind fun y1=>cond (y1.2 != 0) (some (((0,0,0,()),0,0,[],[],()),y1.2)) ((y0s a3B (x,y1.1.2.2.2.2.2.1,y1.1.2.1,(y1.1.2.1.length:Int),0,((0,0,0,()),0,0,[],[],()),y1.1,(y1.1.1,0,0,[],[],()),())).bind fun w5=>match w5 with |.inl a6=>(cond (decide (a6.2.1<(a6.1.length:Int))) (some (((0,0,0,()),0,0,[],[],()),2)) (cond (a6.2.2.2.2.1.2.2.1 != a6.2.2.2.1.2.2.2.2.1) (some (((0,0,0,()),0,0,[],[],()),5)) (some (a6.2.2.2.2.1,0)))) |.inr b7=>some (b7.2.1,b7.1))
def b3I:FSem:=⟨[.v QB],[.v Q74,.v QI],a8d⟩
def H44:Hints:=⟨[(506,[.sv 0 QB,7,.sv 28 QL,29,30,.box 2 Q74,.box 4 Q27,.box 6 Q73,Qp 2 2,Qp 4 4,Qp 6 6],[Qe 0 [.sv 0 QB,7,.box 2 Q74,.box 4 Q27,.box 6 Q73,Qp 2 2,Qp 4 4,Qp 6 6],Qr [3,.box 2 Q74,Qp 2 2]])],[],[]⟩
def b4T(x:Unit):Option Bool:=(a6n ((8000,1,8,()),[1,2,3],2,0)).bind fun y1=>(a8d y1.1).bind fun y2=>(b4h y2.1).bind fun y3=>(b7h (y1.1,1,3,())).bind fun y4=>(b6W (y2.1,2)).bind fun y5=>cond (y1.2==0) (cond (y2.2==0) (cond (y3.2==0) (cond (y4.2==0) (cond (y5.2==0) (cond ((y2.1.2.2.2.2.1.length:Int)==2) ((a5g (y3.1,[1,2,3])).bind fun y6=>cond y6 ((a5g (y4.1,[2,3])).bind fun y7=>cond y7 (cond (y5.1==1) ((a7Y [1,2,3]).bind fun y8=>some (y2.1.2.2.1==y8)) (some false)) (some false)) (some false)) (some false)) (some false)) (some false)) (some false)) (some false)) (some false)
def b8l:FSem:=⟨[],[.v .bool],b4T⟩
def H25:Hints:=⟨[],[],[(7,[.x,.x,.x,.x,.x,.x,.x,.x,.x,.x,.x,.x,.x,.x,.x,.x,.x,.x,.x,.x,.x,.x,.x,.x,.x,.q,.q,.x,.x,.x,.q,.q,.x,.x,.x,.x,.x,.x,.x,.q,.q,.q,.q,.x,.x,.x])]⟩
def b8P(x:Int):Option Int:=(show Option (Int×Bool×Unit)from cond (decide (x<1)) (some (x,true,())) (some (x,decide (x > 31),()))).bind fun z1=>cond z1.2.1 (some 0) (cond (decide ((wrap .u64 (wrap .i64 (z1.1-1)))<0)) none (some (A0n .i64 (-1) (wrap .u64 (wrap .i64 (z1.1-1))))))
def c3c:FSem:=⟨[.v QI],[.v QI],b8P⟩
def d6F:Hints:=⟨[],[(6,[Qn [0,.sv 8 .bool]])],[]⟩
def b7j(x:Int):Option Int:=(show Option (Int×Bool×Unit)from cond (decide (x<1)) (some (x,true,())) (some (x,decide (x > 31),()))).bind fun z1=>cond z1.2.1 (some 0) (cond (decide ((wrap .u64 (wrap .i64 (z1.1-1)))<0)) none (some (wrap .i64 ((A0n .i64 1 (wrap .u64 (wrap .i64 (z1.1-1))))-1))))
def c1I:FSem:=⟨[.v QI],[.v QI],b7j⟩
def d6G:Hints:=⟨[],[(6,[Qn [0,.sv 8 .bool]])],[]⟩
def b2q(x:(Int×Int)):Option Bool:=cond (decide (x.2≥1)) (cond (decide (x.2≤31)) ((b8P x.2).bind fun y1=>cond (decide (x.1≥y1)) ((b7j x.2).bind fun y2=>some (decide (x.1≤y2))) (some false)) (some false)) (some false)
def c1J:FSem:=⟨[.v QI,.v QI],[.v .bool],b2q⟩
def b2b(x:Z7):Option Bool:=cond (decide (x.1≥1)) (cond (decide (x.1≤1048576)) (cond (decide (x.2.1≥1)) (cond (decide (x.2.1≤8)) (cond (decide (x.2.2.1≥4)) (some (decide (x.2.2.1≤24))) (some false)) (some false)) (some false)) (some false)) (some false)
def b8m:FSem:=⟨[.v Q12],[.v .bool],b2b⟩
def a7n(s:(LI×Z37)):Option ((LI×Z37) ⊕ Z0):=cond (decide (s.2.1<(s.1.length:Int))) ((m0k s.1 s.2.1).bind fun x3=>(b2q (x3,s.2.2.1.2.2.1)).bind fun y4=>cond (!y4) (some (.inr (Sum.inr ((false,()))))) (some (.inl (s.1,wrap .i64 (s.2.1+1),s.2.2.1,())))) (some (.inr (Sum.inl ())))
def b3c(x:(Z7×(LI×Int))):Option Bool:=(show Option (LI×Z38)from(b2b x.1).bind fun y1=>cond (!y1) (some (x.2.1,true,x.1,())) (cond (decide ((x.2.1.length:Int) > x.2.2)) (some (x.2.1,true,x.1,())) (cond (x.1.2.1==0) none (some (x.2.1,(a06 (x.2.1.length:Int) x.1.2.1) != 0,x.1,()))))).bind fun z2=>cond z2.2.1 (some false) ((y0s a7n (z2.1,0,z2.2.2.1,())).bind fun w5=>match w5 with |.inl a6=>some true |.inr b7=>some b7.1)
def b9x:FSem:=⟨[.v Q12,.v QL,.v QI],[.v .bool],b3c⟩
def H39:Hints:=⟨[(58,[.sv 1 QL,7,.vp 3 Q12],[Qe 0 [],Qr [.sv 6 .bool]])],[(6,[Qn [.sv 1 QL,.sv 24 .bool,.vp 3 Q12]])],[(6,[.v,.v,.v,.v,.v,.v,.x,.x])]⟩
def b3d(x:(Z7×Z3)):Option (LI×(b1l×Bool)):=(a6n (x.1,x.2.1,wrap .i64 (1+(bits .i64 .and x.2.2.1 63)),bits .i64 .and x.2.2.2 3)).bind fun y1=>(a8d y1.1).bind fun y2=>cond (y1.2==0) (some (y1.1,y2.1,y2.2==0)) (some (y1.1,y2.1,false))
def b9y:FSem:=⟨[.v Q12,.v QL,.v QI,.v QI],[.v QB,.v Q74,.v .bool],b3d⟩
def H40:Hints:=⟨[],[],[(3,[.v,.q,.v,.v,.v,.v,.v,.v,.v,.w [0,9],.x])]⟩
def a7S(s:(Int×Int×a9S)):Option ((Int×Int×a9S) ⊕ (Int×Unit)):=cond (decide (s.2.1<(s.2.2.1.2.2.2.2.1.length:Int))) ((m0k s.2.2.1.2.2.2.2.1 s.2.1).bind fun x1=>(a4j x1).bind fun y2=>some (.inl (wrap .i64 (s.1-(y2.1.length:Int)),wrap .i64 (s.2.1+1),s.2.2.1,()))) (some (.inr (s.1,())))
def b0S(x:(LI×b1l)):Option Int:=(y0s a7S ((x.1.length:Int),0,x.2,())).bind fun w3=>some (v0r w3.1 (-1))
def b7k:FSem:=⟨[.v QB,.v Q74],[.v QI],b0S⟩
def H45:Hints:=⟨[(58,[5,6,.vp 3 Q74],[Qe 0 [5]])],[],[]⟩
def a5D(s:Z6):Option (Z6 ⊕ (Unit ⊕ (Int×Unit))):=cond (decide (s.2.1<(s.1.length:Int))) (cond ((decide (0≤s.2.1))&&(decide (s.2.1≤(s.1.length:Int)))) ((a1C (a08 (a00 s.2.1) (a05 (a01 s.1) s.1))).bind fun y1=>cond (y1.2.2==0) (some (.inr (Sum.inr ((s.2.1,()))))) (some (.inl (s.1,wrap .i64 (s.2.1+1),())))) none) (some (.inr (Sum.inl ())))
def a3q(x:(LI×Int)):Option Int:=(y0s a5D (x.1,v0r x.2 0,())).bind fun w2=>match w2 with |.inl a3=>some (-1) |.inr b4=>some b4.1
def b7l:FSem:=⟨[.v QB,.v QI],[.v QI],a3q⟩
def H53:Hints:=⟨[(26,[.sv 0 QB,5],[Qe 0 [],Qr [4]])],[],[]⟩
def a5E(s:(LI×(Bool×(Int×(Int×(Z4×(LI×Z20))))))):Option ((LI×(Bool×(Int×(Int×(Z4×(LI×Z20)))))) ⊕ (Z4×(LI×Unit))):=cond (decide (s.2.2.2.1≥0)) (cond ((decide (0≤s.2.2.2.1))&&(decide (s.2.2.2.1≤(s.1.length:Int)))) ((a1C (a08 (a00 s.2.2.2.1) (a05 (a01 s.1) s.1))).bind fun y2=>cond (y2.2.2 != 0) (some (.inr (s.2.2.2.2.1,s.2.2.2.2.2.1,()))) ((a3q (s.1,wrap .i64 (s.2.2.2.1+y2.2.1))).bind fun y3=>(show Option (LI×(Bool×(Int×(Int×(Z4×(LI×(Z7×b3u)))))))from cond (!s.2.1) (some (s.1,true,s.2.2.1,y3,s.2.2.2.2.1,s.2.2.2.2.2.1,y2.1.2.2.1,y2.1,())) (some (s.1,s.2.1,s.2.2.1,y3,s.2.2.2.2.1,s.2.2.2.2.2.1,s.2.2.2.2.2.2.1,y2.1,()))).bind fun z4=>cond (!(eqT Q12 z4.2.2.2.2.2.2.2.1.2.2.1 z4.2.2.2.2.2.2.1)) (some (.inl (z4.1,z4.2.1,z4.2.2.1,z4.2.2.2.1,z4.2.2.2.2.1,z4.2.2.2.2.2.1,z4.2.2.2.2.2.2.1,()))) (cond (decide (z4.2.2.2.2.2.2.2.1.1<z4.2.2.1)) (some (.inl (z4.1,z4.2.1,z4.2.2.1,z4.2.2.2.1,z4.2.2.2.2.1,z4.2.2.2.2.2.1,z4.2.2.2.2.2.2.1,()))) ((a2O z4.2.2.2.2.2.2.2.1).bind fun y5=>cond (y5.2 != 0) (some (.inl (z4.1,z4.2.1,z4.2.2.1,z4.2.2.2.1,z4.2.2.2.2.1,z4.2.2.2.2.2.1,z4.2.2.2.2.2.2.1,()))) ((show Option (LI×(Bool×(Int×(Int×(Int×(Bool×(Z4×(LI×(Z7×a2R×Z28)))))))))from(show Option (LI×(Bool×(Int×(Int×(Int×(Int×(Bool×(Bool×(Z4×(LI×(Z7×a2R×Z28)))))))))))from cond (decide ((wrap .i64 ((z4.2.2.2.2.1.length:Int)-1))≥0)) (cond ((decide (0≤(wrap .i64 ((z4.2.2.2.2.1.length:Int)-1))))&&(decide ((wrap .i64 ((z4.2.2.2.2.1.length:Int)-1))<(z4.2.2.2.2.1.length:Int)))) (some (z4.1,z4.2.1,z4.2.2.2.1,wrap .i64 ((z4.2.2.2.2.1.length:Int)-1),z4.2.2.2.2.2.2.2.1.1,z4.2.2.1,decide (z4.2.2.2.2.2.2.2.1.1<z4.2.2.1),(((a04 z4.2.2.2.2.1 (a00 (wrap .i64 ((z4.2.2.2.2.1.length:Int)-1))) (0,0,())).2).1)==z4.2.2.2.2.2.2.2.1.1,z4.2.2.2.2.1,z4.2.2.2.2.2.1,z4.2.2.2.2.2.2.1,z4.2.2.2.2.2.2.2.1,y5.1,())) none) (some (z4.1,z4.2.1,z4.2.2.2.1,wrap .i64 ((z4.2.2.2.2.1.length:Int)-1),z4.2.2.2.2.2.2.2.1.1,z4.2.2.1,decide (z4.2.2.2.2.2.2.2.1.1<z4.2.2.1),false,z4.2.2.2.2.1,z4.2.2.2.2.2.1,z4.2.2.2.2.2.2.1,z4.2.2.2.2.2.2.2.1,y5.1,()))).bind fun z6=>cond z6.2.2.2.2.2.2.2.1 (cond ((decide (0≤z6.2.2.2.1))&&(decide (z6.2.2.2.1<(z6.2.2.2.2.2.2.2.2.1.length:Int)))) (cond ((decide (0≤z6.2.2.2.1))&&(decide (z6.2.2.2.1<(z6.2.2.2.2.2.2.2.2.1.length:Int)))) (some (z6.1,z6.2.1,z6.2.2.1,z6.2.2.2.2.1,z6.2.2.2.2.2.1,z6.2.2.2.2.2.2.1,a09 z6.2.2.2.2.2.2.2.2.1 (a00 z6.2.2.2.1) ((a04 z6.2.2.2.2.2.2.2.2.1 (a00 z6.2.2.2.1) (0,0,())).1,wrap .i64 ((((a04 z6.2.2.2.2.2.2.2.2.1 (a00 z6.2.2.2.1) (0,0,())).2).1)+z6.2.2.2.2.2.2.2.2.2.2.2.1.2.1),((a04 z6.2.2.2.2.2.2.2.2.1 (a00 z6.2.2.2.1) (0,0,())).2).2),z6.2.2.2.2.2.2.2.2.2.1,z6.2.2.2.2.2.2.2.2.2.2.1,z6.2.2.2.2.2.2.2.2.2.2.2.1,z6.2.2.2.2.2.2.2.2.2.2.2.2.1,())) none) none) (cond (lim ((a01 z6.2.2.2.2.2.2.2.2.1)+1)) (some (z6.1,z6.2.1,z6.2.2.1,z6.2.2.2.2.1,z6.2.2.2.2.2.1,z6.2.2.2.2.2.2.1,a03 z6.2.2.2.2.2.2.2.2.1 ([(z6.2.2.2.2.2.2.2.2.2.2.2.1.1,wrap .i64 (z6.2.2.2.2.2.2.2.2.2.2.2.1.1+z6.2.2.2.2.2.2.2.2.2.2.2.1.2.1),())]:List (Int×Int×Unit)),z6.2.2.2.2.2.2.2.2.2.1,z6.2.2.2.2.2.2.2.2.2.2.1,z6.2.2.2.2.2.2.2.2.2.2.2.1,z6.2.2.2.2.2.2.2.2.2.2.2.2.1,())) none)).bind fun z7=>(a5e z7.2.2.2.2.2.2.2.2.2.2.1).bind fun y8=>cond (lim ((a01 z7.2.2.2.2.2.2.2.1)+(a01 y8))) (some (.inl (z7.1,z7.2.1,wrap .i64 (z7.2.2.2.2.2.2.2.2.2.1.1+z7.2.2.2.2.2.2.2.2.2.1.2.1),z7.2.2.1,z7.2.2.2.2.2.2.1,a03 z7.2.2.2.2.2.2.2.1 y8,z7.2.2.2.2.2.2.2.2.1,()))) none))))) none) (some (.inr (s.2.2.2.2.1,s.2.2.2.2.2.1,())))
def b0T(x:LI):Option (Z4×LI):=(a3q (x,0)).bind fun y1=>(y0s a5E (x,false,0,y1,[],[],(0,0,0,()),())).bind fun w9=>some (w9.1,w9.2.1)
def b7m:FSem:=⟨[.v QB],[.o Q3,.o QI],b0T⟩
def H47:Hints:=⟨[(506,[.sv 0 QB,.sv 7 .bool,8,9,.own 4 4 Q3,.own 5 5 QI,.box 6 Q12,Qp 6 6],[Qe 0 [.own 4 4 Q3,.own 5 5 QI]])],[(32407,[Qn [.sv 0 QB,.sv 7 .bool,8,9,.own 4 4 Q3,.own 5 5 QI,.box 6 Q12,.box 10 Q60,Qp 6 6,Qp 10 10]]),(518527,[Qn [.sv 0 QB,.sv 7 .bool,9,44,45,.sv 46 .bool,.own 4 4 Q3,.own 5 5 QI,.box 6 Q12,.box 10 Q60,.box 13 Q15,Qp 6 6,Qp 10 10,Qp 13 13,.ptr 43 10 [.fst]]]),(2074109,[Qn [.sv 0 QB,.sv 7 .bool,9,14,44,45,.sv 46 .bool,.sv 69 .bool,.own 4 4 Q3,.own 5 5 QI,.box 6 Q12,.box 10 Q60,.box 13 Q15,Qp 6 6,Qp 10 10,Qp 13 13,.ptr 43 10 [.fst]]])],[(11,[.q,.q,.v,.x]),(16,[.x,.x,.x,.q,.v,.q,.q,.q,.q,.q,.x,.x]),(17,[.q,.v,.q,.q,.q,.q,.q,.x,.x,.x,.x])]⟩
def a4u(s:Z5):Option (Z5 ⊕ (LI×Unit)):=cond (decide (s.1<(s.2.1.length:Int))) (cond ((decide (0≤s.1))&&(decide (s.1<(s.2.1.length:Int)))) (cond ((a04 s.2.1 (a00 s.1) 0)==245) (cond ((decide (0≤s.1))&&(decide (s.1<(s.2.1.length:Int)))) (some (.inl (wrap .i64 (s.1+1),a09 s.2.1 (a00 s.1) 0,()))) none) (some (.inl (wrap .i64 (s.1+1),s.2.1,())))) none) (some (.inr (s.2.1,())))
def a9n(x:LI):Option LI:=cond (lim (0+(a01 x))) ((y0s a4u (0,a03 [] x,())).bind fun w1=>some w1.1) none
def b8n:FSem:=⟨[.v QB],[.o QV],a9n⟩
def H48:Hints:=⟨[(58,[4,.own 3 3 QV],[Qe 0 [.own 3 3 QV]])],[],[]⟩
def b2r(s:(Z4×Z4×Int×Unit)):Option ((Z4×Z4×Int×Unit) ⊕ Z0):=cond (decide (s.2.2.1<(s.1.length:Int))) ((m0k s.1 s.2.2.1).bind fun x1=>(m0k s.2.1 s.2.2.1).bind fun x2=>cond (!(eqT Q3 x1 x2)) (some (.inr (Sum.inr ((false,()))))) (some (.inl (s.1,s.2.1,wrap .i64 (s.2.2.1+1),())))) (some (.inr (Sum.inl ())))
def a7T(x:(Z4×Z4)):Option Bool:=cond ((x.1.length:Int) != (x.2.length:Int)) (some false) ((y0s b2r (x.1,x.2,0,())).bind fun w3=>match w3 with |.inl a4=>some true |.inr b5=>some b5.1)
def b4l:FSem:=⟨[.v (.list false Q3),.v (.list false Q3)],[.v .bool],a7T⟩
def H49:Hints:=⟨[(58,[.sv 0 (.list false Q3),.sv 1 (.list false Q3),5],[Qe 0 [],Qr [.sv 4 .bool]])],[],[(6,[.v,.v,.v,.v,.v,.v,.v,.v,.x])]⟩
def a9G(x:(Z7×(LI×(Int×(Int×(LI×LI)))))):Option Bool:=(b4T ()).bind fun y1=>cond (!y1) (some false) ((show Option (LI×(Int×(Int×(LI×(LI×Z38)))))from(b3c (x.1,x.2.1,100)).bind fun y2=>cond (!y2) (some (x.2.1,x.2.2.1,x.2.2.2.1,x.2.2.2.2.1,x.2.2.2.2.2,true,x.1,())) (cond ((x.2.1.length:Int)==0) (some (x.2.1,x.2.2.1,x.2.2.2.1,x.2.2.2.2.1,x.2.2.2.2.2,true,x.1,())) (cond (decide ((x.2.2.2.2.1.length:Int) > 60)) (some (x.2.1,x.2.2.1,x.2.2.2.1,x.2.2.2.2.1,x.2.2.2.2.2,true,x.1,())) (some (x.2.1,x.2.2.1,x.2.2.2.1,x.2.2.2.2.1,x.2.2.2.2.2,decide ((x.2.2.2.2.2.length:Int) > 60),x.1,()))))).bind fun z3=>cond z3.2.2.2.2.2.1 (some true) ((b3d (z3.2.2.2.2.2.2.1,z3.1,z3.2.1,z3.2.2.1)).bind fun y4=>(b0S (y4.1,y4.2.1)).bind fun y5=>(show Option (LI×(LI×(LI×(LI×(Int×Bool×a9S)))))from cond (!y4.2.2) (some (z3.1,z3.2.2.2.1,z3.2.2.2.2.1,y4.1,y5,true,y4.2.1,())) (cond ((y4.2.1.2.2.2.2.1.length:Int)==0) (some (z3.1,z3.2.2.2.1,z3.2.2.2.2.1,y4.1,y5,true,y4.2.1,())) (some (z3.1,z3.2.2.2.1,z3.2.2.2.2.1,y4.1,y5,decide (y5<0),y4.2.1,())))).bind fun z6=>cond z6.2.2.2.2.2.1 (some false) ((a9n z6.2.1).bind fun y7=>cond ((decide (0≤z6.2.2.2.2.1))&&(decide (z6.2.2.2.2.1≤(z6.2.2.2.1.length:Int)))) (cond (lim ((a01 y7)+(a01 (a08 (a00 z6.2.2.2.2.1) (a05 (a01 z6.2.2.2.1) z6.2.2.2.1))))) ((a9n z6.2.2.1).bind fun y8=>cond (lim ((a01 (a03 y7 (a08 (a00 z6.2.2.2.2.1) (a05 (a01 z6.2.2.2.1) z6.2.2.2.1))))+(a01 y8))) ((b0T (a03 (a03 y7 (a08 (a00 z6.2.2.2.2.1) (a05 (a01 z6.2.2.2.1) z6.2.2.2.1))) y8)).bind fun y9=>(a7T (y9.1,([(0,z6.2.2.2.2.2.2.1.2.1,())]:List (Int×Int×Unit)))).bind fun y10=>cond y10 ((a5g (y9.2,z6.1)).bind fun y11=>some y11) (some false)) none) none) none)))
def a9H:FSem:=⟨[.v Q12,.v QL,.v QI,.v QI,.v QB,.v QB],[.v .bool],a9G⟩
def H14:Hints:=⟨[],[(14,[Qn [.sv 1 QL,2,3,.sv 4 QB,.sv 5 QB,.sv 39 .bool,.vp 6 Q12]]),(126,[Qn [.sv 1 QL,.sv 4 QB,.sv 5 QB,.sv 13 QB,16,.sv 63 .bool,.box 14 Q74,Qp 14 14]])],[(9,[.v,.q,.v,.v,.v,.w [70,1066],.v,.x,.x,.x,.x,.q,.q,.q,.x])]⟩
end Go.Ab
