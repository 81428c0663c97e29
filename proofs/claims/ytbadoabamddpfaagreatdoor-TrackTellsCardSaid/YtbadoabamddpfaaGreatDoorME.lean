/- Part of the proof: It. Conditions: as each statement tells. -/
import Derived.RangeFuncBound
import Derived.RangeFuncCalls
import Derived.RangeFuncBox
import Derived.WalkKit
import Derived.OwnWalkIn
import Derived.TacticsInMore
import Derived.LoopNIn
import Derived.LoopIn
import Derived.Test.YtbadoabamddpfaaGreatDoorProg
import Derived.KernelRfl
import Derived.Test.YtbadoabamddpfaaGreatDoorMD
noncomputable section
set_option linter.unusedSimpArgs false
set_option linter.unusedVariables false
open Array renaming replicate_succ→a16,replicate_zero→a18
open Int renaming toNat→a00,tdiv→a07,tmod→a08
open List renaming length→a01,replicate→a02,append→a03,getD→a04,set→a05,take→a06,drop→a09,append_toArray→a19,cons_append→a20,size_toArray→a21,push_toArray→a22,length_nil→a23,nil_append→a24
open Nat renaming reduceAdd→a25,reduceSub→a26
open Option renaming getD_some→a27
namespace Go.Ab
open Go.Proofs Go.RowKit
attribute [local go_sem] Oper.semAt_some
set_option maxHeartbeats 1000000 in
theorem d3n:A0h Tryz.prog 297 326:=by
 refine⟨⟨_,_,Tryz.func297,rfl,by kernel_rfl⟩,fun A len cap w=>(callsIn_wide (n:=3)).1 ?_⟩
 refine callsIn_of_wp Tryz.func297 rfl trivial ?_
 simp only[Tryz.ntmps297,a21,lC,a23,a25,a26,a16,a18,a22,a19,a24,a20]
 gi_wp2
 go_ret
 exact⟨rfl,_,rfl⟩
@[reducible] def b1I:Ty:=.pair (.int .i64) (.pair (.int .i64) .unit)
set_option maxRecDepth 100000 in
set_option maxHeartbeats 2000000 in
theorem d0W (l Bs b off len cap:Nat) (p q:Nat→Int) (J:Nat→World→Prop) (Jx:World→Prop) (W:World)
  (hJ:∀k W',J k W'→W'.cell? ⟨Bs,0,none⟩=some (.slice (some ⟨b,off,none⟩) len cap))
  (hlen:len<2147483648)
  (hcs:∀k W',k<len→J (k+1) W'→W'.cell? ⟨b,off+k*2,none⟩=some (.int .i64 (p k))∧W'.cell? ⟨b,off+k*2+1,none⟩=some (.int .i64 (q k)))
  (hY:∀n W',n<len→J (n+1) W'→YieldAt (Fr none) 0 Tryz.prog l #[.int .i64 (n:Int),.agg #[.int .i64 (p n),.int .i64 (q n)]] W' fun en W''=>(en=.returned (.bool true)∧J n W'')∨(en=.returned (.bool false)∧Jx W''))
  (h0:J len W):
  CallsIn (Fr none) 0 Tryz.prog 326 #[.func (.yield l) #[] #[],.pointer (some ⟨Bs,0,none⟩)] W fun en W'=>(∃v,en=.returned v)∧(J 0 W'∨Jx W'):=by
 refine callsIn_of_wp Tryz.func326 rfl trivial ?_
 simp only[Tryz.ntmps326,a21,lC,a23,a25,a26,a16,a18,a22,a19,a24,a20]
 have hBs:=hJ _ _ h0
 gi_wp2
 gi_loopw [3] (fun i wr=>∃k:Nat,k≤len∧i=.int .i64 ((k:Int)-1)∧J k wr) (fun i _=>(intOf i+1).toNat)
 case atStart=>exact⟨len,Nat.le_refl _,rfl,h0⟩
 case round=>
  obtain⟨k,hk,rfl,hJs⟩:=hrel
  cases k with
  |succ n=>
   obtain⟨fn,tmps,assign,body,hy,hR⟩:=hY n wr (by omega) hJs
   have hcx:=hJ _ _ hJs
   obtain⟨hc0,hc1⟩:=hcs n wr (by omega) hJs
   gi_wp2
   refine hR.mono ?_
   rintro e W3 (⟨rfl,hJ3⟩|⟨rfl,hJx3⟩)
   ·gi_wp2
    go_roundw
    case rel=>exact⟨n,by omega,by simp,hJ3⟩
    case measure=>simp[intOf]
   ·gi_wp2
    refine bodyPost_ret (results_none rfl _ _ _) rfl ?_
    exact⟨⟨_,rfl⟩,.inr hJx3⟩
  |zero=>
   gi_wp2
   go_end0
   exact⟨⟨_,rfl⟩,.inl hJs⟩
set_option maxRecDepth 100000 in
set_option maxHeartbeats 2000000 in
theorem c9m (l Bs:Nat) (A:Option Addr) (c:Nat) (J:Nat→World→Prop) (W:World) (hBs:W.cell? ⟨Bs,0,none⟩=some (.slice A 0 c)) (h0:J 0 W):
  CallsIn (Fr none) 0 Tryz.prog 326 #[.func (.yield l) #[] #[],.pointer (some ⟨Bs,0,none⟩)] W fun en W'=>(∃v,en=.returned v)∧J 0 W':=by
 refine callsIn_of_wp Tryz.func326 rfl trivial ?_
 simp only[Tryz.ntmps326,a21,lC,a23,a25,a26,a16,a18,a22,a19,a24,a20]
 gi_wp2
 gi_loopw [3] (fun i wr=>i=.int .i64 (-1)∧J 0 wr) (fun _ _=>0)
 case atStart=>exact⟨rfl,h0⟩
 case round=>
  obtain⟨rfl,hJs⟩:=hrel
  gi_wp2
  go_end0
  exact⟨⟨_,rfl⟩,hJs⟩
theorem c2b{m:Mem}{Sh:Nat→Prop}{b o:Nat}{x:b1I.den}{R}(h:dec m b1I ((Src.at b o).rd m)=some (x,[],R)):
  m b o=some (.int .i64 x.1)∧m b (o+1)=some (.int .i64 x.2.1)∧VOk m Sh b1I x (.agg #[.int .i64 x.1,.int .i64 x.2.1]):=by
 obtain⟨p,q,u⟩:=x;simp only[b1I,dec,Src.rd,Ty.cells,Nat.add_zero]at h
 split at h
 cases h;rename_i r o1 j g
 split at g
 rename_i n c
 split at g
 rename_i e;subst e;simp only[sj]at g;obtain⟨rfl,rfl,rfl⟩:=g
 split at h
 cases h;rename_i s o2 r2 k
 split at k
 cases k;rename_i t i l f
 split at f
 rename_i d a
 split at f
 rename_i e;subst e;simp only[sj]at f k h;obtain⟨rfl,rfl,rfl⟩:=f;obtain⟨rfl,rfl,rfl⟩:=k;obtain⟨⟨rfl,rfl,rfl⟩,-,-⟩:=h;exact⟨c,a,fun _=>⟨_,rfl,rfl⟩,fun h=>(by cases h),[],rfl,by simp⟩;cases f;cases f;cases g;cases g
theorem b4h {P:Program} {f:FuncId} (hb:l0x P f) (args:Array Value) (w:World):(callFunc f args).run P w=.ok (.enter f args) w:=by
 obtain ⟨fn,c',h1,h2,h3⟩:=hb;have h4 : ¬ fn.name = "runtime.NumGoroutine" := by simpa using h3
 simp [callFunc,program,Sem.run,h1,h2,h4,Result.andThen]
theorem d3o:w0n Tryz.prog 326 b1I:=by
 refine⟨fun args w=>b4h ⟨_,_,Tryz.func326,rfl,by kernel_rfl⟩ args w,fun l Bs sv f J D W i t L o=>?_⟩;obtain⟨z,Sh,y⟩:=t _ _ o;obtain⟨A,n,c,rfl,rfl,N,v,j⟩:=y.header
 by_cases hx0:f.length=0
 rw[hx0]at o z;exact(c9m l Bs A c J W z o).mono fun e g h=>⟨h.1,.inl h.2⟩;cases A with
 |none=>have:=j rfl;omega
 |some A=>
  obtain⟨b,off,B⟩:=A
  have:=(v _ rfl).resolve_left (by omega)
  simp only at this;subst this;have u:∀k g,k<f.length→J (k+1) g→∃x,f[k]?=some x∧g.cell? ⟨b,off+k*2,none⟩=some (.int .i64 x.1)∧g.cell? ⟨b,off+k*2+1,none⟩=some (.int .i64 x.2.1):=by
   intro k g p d;obtain⟨-,a,hv⟩:=t _ _ d;obtain⟨C,O,E,R,e,F,G,H,s,I,K⟩:=hv.elem rfl (lG p);simp only[Value.slice.injEq,sj]at e;obtain⟨rfl,rfl,rfl⟩:=e;obtain⟨q,r,-⟩:=c2b (Sh:=a) s;exact⟨_,lG p,q,r⟩
  refine d0W l Bs b off f.length c (fun k=>((f[k]?).getD b1I.dflt).1) (fun k=>((f[k]?).getD b1I.dflt).2.1) J D W (fun k g d=>(t k g d).1) i (fun k g p d=>?_) (fun n g M d=>?_) o;obtain⟨x,m,q,r⟩:=u k g p d;simp only[m,a27];exact⟨q,r⟩;have m:f[n]?=some f[n]:=lG M;simp only[m,a27];refine L n _ _ g m d fun a hv=>?_
  obtain⟨C,O,E,R,e,F,G,H,s,I,K⟩:=hv.elem rfl m;exact(c2b (Sh:=a) s).2.2
set_option maxHeartbeats 1000000 in
theorem d3p:A0h Tryz.prog 186 242:=by
 refine⟨⟨_,_,Tryz.func186,rfl,by kernel_rfl⟩,fun A len cap w=>(callsIn_wide (n:=3)).1 ?_⟩
 refine callsIn_of_wp Tryz.func186 rfl trivial ?_
 simp only[Tryz.ntmps186,a21,lC,a23,a25,a26,a16,a18,a22,a19,a24,a20]
 gi_wp2
 go_ret
 exact⟨rfl,_,rfl⟩
@[reducible] def b3J:Ty:=.pair (.int .i64) (.pair (.int .i64) (.pair (.int .i64) .unit))
set_option maxRecDepth 100000 in
set_option maxHeartbeats 2000000 in
theorem d0X (l Bs b off len cap:Nat) (p q r:Nat→Int) (J:Nat→World→Prop) (Jx:World→Prop) (W:World)
  (hJ:∀k W',J k W'→W'.cell? ⟨Bs,0,none⟩=some (.slice (some ⟨b,off,none⟩) len cap))
  (hlen:len<2147483648)
  (hcs:∀k W',k<len→J (k+1) W'→W'.cell? ⟨b,off+k*3,none⟩=some (.int .i64 (p k))∧W'.cell? ⟨b,off+k*3+1,none⟩=some (.int .i64 (q k))∧W'.cell? ⟨b,off+k*3+2,none⟩=some (.int .i64 (r k)))
  (hY:∀n W',n<len→J (n+1) W'→YieldAt (Fr none) 0 Tryz.prog l #[.int .i64 (n:Int),.agg #[.int .i64 (p n),.int .i64 (q n),.int .i64 (r n)]] W' fun en W''=>(en=.returned (.bool true)∧J n W'')∨(en=.returned (.bool false)∧Jx W''))
  (h0:J len W):
  CallsIn (Fr none) 0 Tryz.prog 242 #[.func (.yield l) #[] #[],.pointer (some ⟨Bs,0,none⟩)] W fun en W'=>(∃v,en=.returned v)∧(J 0 W'∨Jx W'):=by
 refine callsIn_of_wp Tryz.func242 rfl trivial ?_
 simp only[Tryz.ntmps242,a21,lC,a23,a25,a26,a16,a18,a22,a19,a24,a20]
 have hBs:=hJ _ _ h0
 gi_wp2
 gi_loopw [3] (fun i wr=>∃k:Nat,k≤len∧i=.int .i64 ((k:Int)-1)∧J k wr) (fun i _=>(intOf i+1).toNat)
 case atStart=>exact⟨len,Nat.le_refl _,rfl,h0⟩
 case round=>
  obtain⟨k,hk,rfl,hJs⟩:=hrel
  cases k with
  |succ n=>
   obtain⟨fn,tmps,assign,body,hy,hR⟩:=hY n wr (by omega) hJs
   have hcx:=hJ _ _ hJs
   obtain⟨hc0,hc1,hc2⟩:=hcs n wr (by omega) hJs
   gi_wp2
   refine hR.mono ?_
   rintro e W3 (⟨rfl,hJ3⟩|⟨rfl,hJx3⟩)
   ·gi_wp2
    go_roundw
    case rel=>exact⟨n,by omega,by simp,hJ3⟩
    case measure=>simp[intOf]
   ·gi_wp2
    refine bodyPost_ret (results_none rfl _ _ _) rfl ?_
    exact⟨⟨_,rfl⟩,.inr hJx3⟩
  |zero=>
   gi_wp2
   go_end0
   exact⟨⟨_,rfl⟩,.inl hJs⟩
set_option maxRecDepth 100000 in
set_option maxHeartbeats 2000000 in
theorem c9n (l Bs:Nat) (A:Option Addr) (c:Nat) (J:Nat→World→Prop) (W:World) (hBs:W.cell? ⟨Bs,0,none⟩=some (.slice A 0 c)) (h0:J 0 W):
  CallsIn (Fr none) 0 Tryz.prog 242 #[.func (.yield l) #[] #[],.pointer (some ⟨Bs,0,none⟩)] W fun en W'=>(∃v,en=.returned v)∧J 0 W':=by
 refine callsIn_of_wp Tryz.func242 rfl trivial ?_
 simp only[Tryz.ntmps242,a21,lC,a23,a25,a26,a16,a18,a22,a19,a24,a20]
 gi_wp2
 gi_loopw [3] (fun i wr=>i=.int .i64 (-1)∧J 0 wr) (fun _ _=>0)
 case atStart=>exact⟨rfl,h0⟩
 case round=>
  obtain⟨rfl,hJs⟩:=hrel
  gi_wp2
  go_end0
  exact⟨⟨_,rfl⟩,hJs⟩
theorem b9Y{m:Mem}{rd:Nat→Option Value}{x o r}(h:dec m (.int .i64) rd=some (x,o,r)):rd 0=some (.int .i64 x)∧o=[]∧r=[]:=by
 simp only[dec]at h
 split at h
 rename_i k n g
 split at h
 rename_i e;subst e;simp only[sj,pJ]at h;obtain⟨rfl,rfl,rfl⟩:=h;exact⟨g,rfl,rfl⟩;cases h;cases h
theorem b7y{m:Mem}{a b:Ty}{rd:Nat→Option Value}{x o r}(h:dec m (.pair a b) rd=some (x,o,r)):∃o1 g o2 r2,dec m a rd=some (x.1,o1,g)∧dec m b (fun j=>rd (a.cells+j))=some (x.2,o2,r2)∧o=o1++o2∧r=g++r2:=by
 simp only[dec]at h
 split at h
 cases h;rename_i c o1 g f
 split at h
 cases h;rename_i d o2 r2 k;simp only[sj,pJ]at h;obtain⟨rfl,rfl,rfl⟩:=h;exact⟨_,_,_,_,f,k,rfl,rfl⟩
theorem c3O{m:Mem}{Sh:Nat→Prop}{b o:Nat}{x:b3J.den}{R}(h:dec m b3J ((Src.at b o).rd m)=some (x,[],R)):
  m b o=some (.int .i64 x.1)∧m b (o+1)=some (.int .i64 x.2.1)∧m b (o+2)=some (.int .i64 x.2.2.1)∧VOk m Sh b3J x (.agg #[.int .i64 x.1,.int .i64 x.2.1,.int .i64 x.2.2.1]):=by
 obtain⟨_,_,_,_,g,f,-,-⟩:=b7y h;obtain⟨_,_,_,_,k,a,-,-⟩:=b7y f;obtain⟨_,_,_,_,c,-,-,-⟩:=b7y a;exact⟨(b9Y g).1,(b9Y k).1,(b9Y c).1,fun _=>⟨_,rfl,rfl⟩,fun h=>(by cases h),[],rfl,by simp⟩
theorem d3q:w0n Tryz.prog 242 b3J:=by
 refine⟨fun args w=>b4h ⟨_,_,Tryz.func242,rfl,by kernel_rfl⟩ args w,fun l Bs sv f J E W i u M o=>?_⟩;obtain⟨B,Sh,z⟩:=u _ _ o;obtain⟨A,n,c,rfl,rfl,O,y,j⟩:=z.header
 by_cases hx0:f.length=0
 rw[hx0]at o B;exact(c9n l Bs A c J W B o).mono fun e g h=>⟨h.1,.inl h.2⟩;cases A with
 |none=>have:=j rfl;omega
 |some A=>
  obtain⟨b,off,C⟩:=A
  have:=(y _ rfl).resolve_left (by omega)
  simp only at this;subst this;have v:∀k g,k<f.length→J (k+1) g→∃x,f[k]?=some x∧g.cell? ⟨b,off+k*3,none⟩=some (.int .i64 x.1)∧g.cell? ⟨b,off+k*3+1,none⟩=some (.int .i64 x.2.1)∧g.cell? ⟨b,off+k*3+2,none⟩=some (.int .i64 x.2.2.1):=by
   intro k g p d;obtain⟨-,a,hv⟩:=u _ _ d;obtain⟨D,P,F,R,e,G,H,I,t,K,L⟩:=hv.elem rfl (lG p);simp only[Value.slice.injEq,sj]at e;obtain⟨rfl,rfl,rfl⟩:=e;obtain⟨q,r,s,-⟩:=c3O (Sh:=a) t;exact⟨_,lG p,q,r,s⟩
  refine d0X l Bs b off f.length c (fun k=>((f[k]?).getD b3J.dflt).1) (fun k=>((f[k]?).getD b3J.dflt).2.1) (fun k=>((f[k]?).getD b3J.dflt).2.2.1) J E W (fun k g d=>(u k g d).1) i (fun k g p d=>?_) (fun n g N d=>?_) o;obtain⟨x,m,q,r,s⟩:=v k g p d;simp only[m,a27];exact⟨q,r,s⟩;have m:f[n]?=some f[n]:=lG N;simp only[m,a27];refine M n _ _ g m d fun a hv=>?_
  obtain⟨D,P,F,R,e,G,H,I,t,K,L⟩:=hv.elem rfl m;exact(c3O (Sh:=a) t).2.2.2
end Go.Ab
namespace Go.Ab
open IntKind(wrap)
open Go.Proofs
set_option maxRecDepth 100000
set_option linter.unusedVariables false
@[reducible] def QI:Ty:=.int .i64
@[reducible] def QL:Ty:=.list false QI
@[reducible] def QU:Ty:=.int .u64
@[reducible] def QV:Ty:=.int .u8
@[reducible] def QB:Ty:=.list false QV
@[reducible] def LI:Type:=List Int
instance (n:Nat):OfNat Ent n:=⟨.sv n QI⟩
@[reducible] def Qp(i n:Nat):Ent:=.ptr i n []
@[reducible] def Qn(l:a0c):Ex×a0c:=(.normal,l)
@[reducible] def Qe(n:Nat)(l:a0c):Ex×a0c:=(.exit n,l)
@[reducible] def Qr(l:a0c):Ex×a0c:=(.ret,l)
def QH:Hints:=⟨[],[],[]⟩
@[reducible] def Z0:Type:=(Unit ⊕ (Bool×Unit))
@[reducible] def Z1:Type:=((List LI)×Unit)
@[reducible] def Z2:Type:=(Int×(Int×LI))
@[reducible] def Z3:Type:=(LI×(Int×Int))
@[reducible] def Z4:Type:=(List (Int×(Int×Unit)))
@[reducible] def Z5:Type:=(Int×(LI×Unit))
@[reducible] def Z6:Type:=(LI×(Int×Unit))
@[reducible] def Z7:Type:=(Int×(Int×(Int×Unit)))
@[reducible] def Z8:Type:=(Bool×(LI×Unit))
@[reducible] def Z9:Type:=((LI×Unit)×Unit)
@[reducible] def Z10:Type:=(Int×(Int×(Bool×Unit)))
@[reducible] def Z11:Type:=((Int×(Int×Unit))×Unit)
@[reducible] def Z12:Type:=(LI×(LI×Int))
@[reducible] def Z13:Type:=(LI×(Int×LI))
@[reducible] def Z14:Type:=(Int×Z1)
@[reducible] def Z15:Type:=(LI×(LI×Unit))
@[reducible] def Z16:Type:=((List LI)×(Int×Unit))
@[reducible] def Z17:Type:=(List Z7)
@[reducible] def Z18:Type:=(LI×(Int×(Int×Unit)))
@[reducible] def Z19:Type:=(Int×Z5)
@[reducible] def Z20:Type:=(Int×Z6)
@[reducible] def Z21:Type:=(LI×(Int×(Bool×Unit)))
@[reducible] def Z22:Type:=(Z5×Unit)
@[reducible] def Z23:Type:=(Int×Z8)
@[reducible] def Z24:Type:=(Z6×Unit)
@[reducible] def Z25:Type:=(Int×Z7)
@[reducible] def Z26:Type:=(Int×Z9)
@[reducible] def Z27:Type:=(Z7×Unit)
@[reducible] def Z28:Type:=(Int×Z10)
@[reducible] def Z29:Type:=(List Z14)
@[reducible] def Z30:Type:=(Int×Z15)
@[reducible] def Z31:Type:=(LI×Z5)
@[reducible] def Z32:Type:=((List LI)×(Int×(Int×Unit)))
@[reducible] def Z33:Type:=(Int×Z14)
@[reducible] def Z34:Type:=(Z14×Int)
@[reducible] def Z35:Type:=(Z14×Unit)
@[reducible] def Z36:Type:=(Int×Z18)
@[reducible] def Z37:Type:=(LI×Z7)
@[reducible] def Z38:Type:=(Int×Z19)
@[reducible] def Z39:Type:=(Z18×Int)
@[reducible] def Z40:Type:=(LI×Z10)
@[reducible] def Z41:Type:=(Int×Z23)
@[reducible] def Z42:Type:=(Int×Z24)
@[reducible] def Z43:Type:=(Int×Z25)
@[reducible] def Z44:Type:=(Z18×Unit)
@[reducible] def Z45:Type:=(Z4×(Int×Unit))
@[reducible] def Z46:Type:=(Int×Z26)
@[reducible] def Z47:Type:=(Bool×Z22)
@[reducible] def Z48:Type:=(LI×Z15)
@[reducible] def Z49:Type:=(LI×Z19)
@[reducible] def Z50:Type:=(Int×Z30)
@[reducible] def Z51:Type:=(Z30×Int)
@[reducible] def Z52:Type:=(Z29×Unit)
@[reducible] def Z53:Type:=(Int×Z32)
@[reducible] def Z54:Type:=(LI×Z18)
@[reducible] def Z55:Type:=(Int×Z35)
@[reducible] def Z56:Type:=(Z5×(LI×Unit))
@[reducible] def Z57:Type:=((LI×Unit) ⊕ Z5)
@[reducible] def Z58:Type:=(LI×Z21)
@[reducible] def Z59:Type:=(Int×Z36)
@[reducible] def Z60:Type:=(Z30×Unit)
@[reducible] def Z61:Type:=(LI×Z22)
@[reducible] def Z62:Type:=(Int×Z37)
@[reducible] def Z63:Type:=(Int×Z38)
@[reducible] def Z64:Type:=(Bool×Z35)
@[reducible] def Z65:Type:=(Int×Z42)
@[reducible] def Z66:Type:=(Int×Z43)
@[reducible] def Z67:Type:=(Int×Z44)
@[reducible] def Z68:Type:=(Z18 ⊕ (Int×Unit))
@[reducible] def Z69:Type:=(Bool×Z44)
@[reducible] def Z70:Type:=((List LI)×Z14)
@[reducible] def Z71:Type:=((List LI)×Z17)
@[reducible] def Z72:Type:=(Int×Z48)
@[reducible] def Z73:Type:=(Int×Z49)
@[reducible] def Z74:Type:=(Z5×Z2)
@[reducible] def Z75:Type:=(LI×Z35)
@[reducible] def Z76:Type:=(LI×Z36)
@[reducible] def Z77:Type:=(LI×Z37)
@[reducible] def Z78:Type:=(LI×Z38)
@[reducible] def Z79:Type:=(Int×Z55)
@[reducible] def Z80:Type:=(Int×Z60)
@[reducible] def Z81:Type:=(Int×Z61)
@[reducible] def Z82:Type:=(LI×Z44)
@[reducible] def Z83:Type:=(Z17×(Int×(Int×Unit)))
@[reducible] def Z84:Type:=(Z36 ⊕ (Int×Unit))
@[reducible] def Z85:Type:=(Int×Z66)
@[reducible] def Z86:Type:=(Int×Z67)
@[reducible] def Z87:Type:=(Int×Z69)
@[reducible] def Z88:Type:=(Z18 ⊕ Z0)
@[reducible] def Z89:Type:=(LI×Z50)
@[reducible] def Z90:Type:=(Int×Z72)
@[reducible] def Z91:Type:=(LI×Z49)
@[reducible] def Z92:Type:=(LI×Z56)
@[reducible] def Z93:Type:=(LI×Z59)
@[reducible] def Z94:Type:=(LI×Z58)
@[reducible] def Z95:Type:=(LI×Z60)
@[reducible] def Z96:Type:=(Int×Z75)
@[reducible] def Z97:Type:=(Int×Z73)
@[reducible] def Z98:Type:=(Int×Z80)
@[reducible] def Z99:Type:=(LI×Z65)
@[reducible] def d7E:Type:=(Int×Z81)
@[reducible] def d4a:Type:=(Int×Z82)
@[reducible] def d7F:Type:=(Z6×Z22)
@[reducible] def d0Y:Type:=(Int×Z85)
@[reducible] def b9Z:Type:=(Z5×Z22)
@[reducible] def c3P:Type:=(Int×Z86)
@[reducible] def c7k:Type:=(Int×Z89)
@[reducible] def d0Z:Type:=(Int×Z95)
@[reducible] def b7z:Type:=(Int×Z96)
@[reducible] def c3Q:Type:=(Int×Z98)
@[reducible] def c7l:Type:=(Int×Z99)
@[reducible] def d7G:Type:=(Int×d7E)
@[reducible] def d4b:Type:=(Int×d4a)
@[reducible] def c0A:Type:=(Int×d0Y)
@[reducible] def c7m:Type:=(Int×d0Z)
@[reducible] def d7H:Type:=(LI×d7F)
@[reducible] def c3R:Type:=(Z17×Z35)
@[reducible] def c0B:Type:=(Int×d4b)
@[reducible] def c7n:Type:=(LI×d7G)
@[reducible] def d7I:Type:=(Int×d7H)
@[reducible] def a4S:Type:=(Z7×Z77)
@[reducible] def d7J:Type:=(Z4×Z92)
@[reducible] def d7K:Type:=(Int×d7I)
@[reducible] def c7o:Type:=(Z5×b9Z)
@[reducible] def c7p:Type:=(a4S×Unit)
@[reducible] def d7L:Type:=(LI×d7J)
@[reducible] def c3S:Type:=(LI×d7K)
@[reducible] def c7q:Type:=(a4S×Z11)
@[reducible] def d7M:Type:=(LI×d7L)
@[reducible] def d7N:Type:=(Int×d7M)
@[reducible] def d7O:Type:=(Int×d7N)
@[reducible] def d7P:Type:=(Int×d7O)
@[reducible] def d7Q:Type:=(Int×d7P)
@[reducible] def a1b:Type:=(Int×d7Q)
@[reducible] def a9I:Type:=(List a1b)
@[reducible] def a8C:Type:=(a1b×Int)
@[reducible] def b3K:Type:=(a1b×Unit)
@[reducible] def d1a:Type:=(a9I×Unit)
@[reducible] def c7r:Type:=(Bool×b3K)
@[reducible] def d7R:Type:=(LI×b3K)
@[reducible] def c0C:Type:=(Int×c7r)
@[reducible] def c7s:Type:=(a9I×(LI×Unit))
@[reducible] def d7S:Type:=(Int×d7R)
@[reducible] def d7T:Type:=((LI×Unit)×b3K)
@[reducible] def c7t:Type:=(Int×c0C)
@[reducible] def c7u:Type:=(Int×d7S)
@[reducible] def d7U:Type:=(Z6×b3K)
@[reducible] def d7V:Type:=(Int×d7T)
@[reducible] def c7v:Type:=(Int×d7U)
@[reducible] def d4c:Type:=(Z18×b3K)
@[reducible] def c7w:Type:=(a1b×Z44)
@[reducible] def c7x:Type:=(Int×d7V)
@[reducible] def d7W:Type:=(Z17×d1a)
@[reducible] def b2S:Type:=(Int×c7v)
@[reducible] def d1b:Type:=(Int×d4c)
@[reducible] def c0D:Type:=(Int×d1b)
@[reducible] def d7X:Type:=(Z7×d7W)
@[reducible] def d7Y:Type:=(Int×d7X)
@[reducible] def a1v:Type:=(Int×d7Y)
@[reducible] def a4n:Type:=(List a1v)
@[reducible] def c7y:Type:=(a1v×Int)
@[reducible] def a8S:Type:=(a1v×Unit)
@[reducible] def d7Z:Type:=(a4n×Unit)
@[reducible] def c7z:Type:=(Int×a8S)
@[reducible] def c7A:Type:=(Z14×a8S)
@[reducible] def d8a:Type:=(Z4×d7Z)
@[reducible] def c0E:Type:=(a1v×Z44)
@[reducible] def d8b:Type:=(Int×d8a)
@[reducible] def d8c:Type:=(Int×d8b)
@[reducible] def d1c:Type:=((List LI)×c7A)
@[reducible] def a9J:Type:=(a1b×b3K)
@[reducible] def c7B:Type:=(Int×d1c)
@[reducible] def d8d:Type:=(Int×a9J)
@[reducible] def c7C:Type:=(Int×d8d)
@[reducible] def a2Y:Type:=(Z7×d8c)
@[reducible] def c7D:Type:=(a2Y×Int)
@[reducible] def a9K:Type:=(a2Y×Unit)
@[reducible] def d1d:Type:=(Int×a9K)
@[reducible] def c0F:Type:=(LI×a9K)
@[reducible] def c7E:Type:=(Int×d1d)
@[reducible] def c7F:Type:=(a2Y×Z27)
@[reducible] def d8e:Type:=(Z29×a9K)
@[reducible] def c7G:Type:=((List LI)×d8e)
@[reducible] def d1e:Type:=(a1v×a8S)
@[reducible] def c7H:Type:=(Int×d1e)
@[reducible] def d1f:Type:=(a2Y×a9K)
@[reducible] def c7I:Type:=(Int×d1f)
@[reducible] def c7J:Type:=(a2Y×c7F)
@[reducible] def Q0:Ty:=(.pair QI .unit)
@[reducible] def Q1:Ty:=(.pair (.list true QV) .unit)
@[reducible] def Q2:Ty:=(.pair (.list true QI) .unit)
@[reducible] def Q3:Ty:=(.pair QL .unit)
@[reducible] def Q4:Ty:=(.pair QI Q0)
@[reducible] def Q5:Ty:=(.pair QU Q0)
@[reducible] def Q6:Ty:=(.pair (.nl QL) .unit)
@[reducible] def Q7:Ty:=(.pair (.list true (.list true QI)) .unit)
@[reducible] def Q8:Ty:=(.pair (.list true QL) .unit)
@[reducible] def Q9:Ty:=(.pair (.list false QL) .unit)
@[reducible] def Q10:Ty:=(.pair (.list true QV) Q0)
@[reducible] def Q11:Ty:=(.pair QI Q2)
@[reducible] def Q12:Ty:=(.pair QI Q3)
@[reducible] def Q13:Ty:=(.pair QI Q4)
@[reducible] def Q14:Ty:=(.pair QI Q5)
@[reducible] def Q15:Ty:=(.pair (.list true QI) Q2)
@[reducible] def Q16:Ty:=(.pair QI Q9)
@[reducible] def Q17:Ty:=(.pair QB Q4)
@[reducible] def Q18:Ty:=(.pair QI Q15)
@[reducible] def Q19:Ty:=(.pair (.list true QI) Q14)
@[reducible] def Q20:Ty:=(.pair QL Q14)
@[reducible] def Q21:Ty:=(.pair Q12 Q3)
@[reducible] def Q22:Ty:=(.pair (.list true QI) Q19)
@[reducible] def Q23:Ty:=(.pair QL Q20)
@[reducible] def Q24:Ty:=(.pair (.nl QI) Q21)
@[reducible] def Q25:Ty:=(.pair QL Q21)
@[reducible] def Q26:Ty:=(.pair (.list true Q4) Q24)
@[reducible] def Q27:Ty:=(.pair Q13 Q22)
@[reducible] def Q28:Ty:=(.pair Q13 Q23)
@[reducible] def Q29:Ty:=(.pair (.list false Q4) Q25)
@[reducible] def Q30:Ty:=(.pair (.arr 3 QI) Q26)
@[reducible] def Q31:Ty:=(.pair (.arr 3 QI) Q29)
@[reducible] def Q32:Ty:=(.pair (.list true QI) Q30)
@[reducible] def Q33:Ty:=(.pair QL Q31)
@[reducible] def Q34:Ty:=(.pair QI Q32)
@[reducible] def Q35:Ty:=(.pair QI Q33)
@[reducible] def Q36:Ty:=(.pair QI Q34)
@[reducible] def Q37:Ty:=(.pair QI Q35)
@[reducible] def Q38:Ty:=(.pair QI Q36)
@[reducible] def Q39:Ty:=(.pair QI Q37)
@[reducible] def Q40:Ty:=(.pair QI Q38)
@[reducible] def Q41:Ty:=(.pair QI Q39)
@[reducible] def Q42:Ty:=(.pair QI Q40)
@[reducible] def Q43:Ty:=(.pair QI Q41)
@[reducible] def Q44:Ty:=(.pair (.nl Q43) .unit)
@[reducible] def Q45:Ty:=(.pair (.list true Q43) .unit)
@[reducible] def Q46:Ty:=(.pair (.list false Q43) .unit)
@[reducible] def Q47:Ty:=(.pair (.nl Q13) Q44)
@[reducible] def Q48:Ty:=(.pair (.list true Q13) Q44)
@[reducible] def Q49:Ty:=(.pair (.list false Q13) Q45)
@[reducible] def Q50:Ty:=(.pair (.list false Q13) Q46)
@[reducible] def Q51:Ty:=(.pair Q13 Q47)
@[reducible] def Q52:Ty:=(.pair Q13 Q48)
@[reducible] def Q53:Ty:=(.pair Q13 Q49)
@[reducible] def Q54:Ty:=(.pair Q13 Q50)
@[reducible] def Q55:Ty:=(.pair QI Q51)
@[reducible] def Q56:Ty:=(.pair QI Q52)
@[reducible] def Q57:Ty:=(.pair QI Q53)
@[reducible] def Q58:Ty:=(.pair QI Q54)
@[reducible] def Q59:Ty:=(.pair QI Q56)
@[reducible] def Q60:Ty:=(.pair QI Q57)
@[reducible] def Q61:Ty:=(.pair QI Q58)
@[reducible] def Q62:Ty:=(.pair (.nl Q61) .unit)
@[reducible] def Q63:Ty:=(.pair (.list true Q61) .unit)
@[reducible] def Q64:Ty:=(.pair (.list false Q61) .unit)
@[reducible] def Q65:Ty:=(.pair (.nl Q4) Q62)
@[reducible] def Q66:Ty:=(.pair (.list true Q4) Q63)
@[reducible] def Q67:Ty:=(.pair (.list true Q4) Q64)
@[reducible] def Q68:Ty:=(.pair (.list false Q4) Q64)
@[reducible] def Q69:Ty:=(.pair QU Q65)
@[reducible] def Q70:Ty:=(.pair QU Q66)
@[reducible] def Q71:Ty:=(.pair QU Q67)
@[reducible] def Q72:Ty:=(.pair QU Q68)
@[reducible] def Q73:Ty:=(.pair QI Q69)
@[reducible] def Q74:Ty:=(.pair QI Q70)
@[reducible] def Q75:Ty:=(.pair QI Q71)
@[reducible] def Q76:Ty:=(.pair QI Q72)
@[reducible] def Q77:Ty:=(.pair Q13 Q74)
@[reducible] def Q78:Ty:=(.pair Q13 Q75)
@[reducible] def Q79:Ty:=(.pair Q13 Q76)
def c3I:List (Nat×Ty):=[(2,.int .i64),(3,.int .i64),(4,.bool),(5,.int .u8),(9,.str),(22,.list false QL),(24,.pair QI Q9),(25,.int .u16),(30,.pair QI Q4),(31,.list false Q13),(32,.list false Q43),(34,.pair QI Q58),(35,.int .i64),(38,.list false QV),(42,.int .u64),(49,.int .u64),(50,.list false Q4),(51,.list false Q61),(53,.pair Q13 Q76),(55,.list false QI),(74,.pair QI Q0),(76,.pair QI Q0),(103,.arr 3 QI),(104,.list false Q4),(106,.pair QI Q3),(108,.pair QI Q41),(113,.pair QB Q0),(122,.pair QB .unit),(134,.list false QB),(135,.list false Q16),(141,.list false QU),(143,.int .u32),(153,.pair Q13 Q23),(164,.pair QI Q4),(178,.pair QI Q0),(192,.pair QB Q4),(236,.pair QB Q4),(256,.arr 64 QV),(285,.list false (.arr 3 QI)),(295,.pair QI (.pair QL Q3)),(298,.pair QI (.pair QL Q3))]
def T0:Nat→Option Ty:=fun t=>find c3I t
def c7K:List Nat:=[30,76,103,164,178]
def d8f:Nat→Bool:=fun t=>c7K.contains t
def c3T:List Nat:=[]
def d8g:Nat→Bool:=fun t=>c3T.contains t
def b2r:(List Int):=[0,1,56,2,57,49,28,3,61,58,42,50,38,29,17,4,62,47,59,36,45,43,51,22,53,39,33,30,24,18,12,5,63,55,48,27,60,41,37,16,46,35,44,21,52,32,23,11,54,26,40,15,34,20,31,10,25,14,19,9,13,8,7,6]
def G0:Nat→Option ((t:Ty)×t.den):=fun g=>find ([(0,⟨.arr 64 QV,b2r⟩)]:List (Nat×((t:Ty)×t.den))) g
@[reducible] def b4G(a:List (Nat×FSem))(b:List (Nat×Ty))(c d:Nat):Cx:=⟨d8g,d8f,T0,fun f=>find a f,fun n=>find b n,c.testBit,d.testBit,G0⟩
def a2S(x:Z14):Option Int:=cond ((x.2.1.length:Int)==0) (some 0) ((m0k x.2.1 0).bind fun x1=>some (x1.length:Int))
def c5B:FSem:=⟨[.v Q16],[.v QI],a2S⟩
def b1J(x:Int):Option Int:=(show Option (Int×Bool×Unit)from cond (decide (x<1)) (some (x,true,())) (some (x,decide (x > 31),()))).bind fun z1=>cond z1.2.1 (some 0) (cond (decide ((wrap .i64 (z1.1-1))<0)) none (some (A0n .i64 (-1) (wrap .i64 (z1.1-1)))))
def c3U:FSem:=⟨[.v QI],[.v QI],b1J⟩
def d8h:Hints:=⟨[],[(6,[Qn [0,.sv 8 .bool]])],[]⟩
def b1a(x:Int):Option Int:=(show Option (Int×Bool×Unit)from cond (decide (x<1)) (some (x,true,())) (some (x,decide (x > 31),()))).bind fun z1=>cond z1.2.1 (some 0) (cond (decide ((wrap .i64 (z1.1-1))<0)) none (some (wrap .i64 ((A0n .i64 1 (wrap .i64 (z1.1-1)))-1))))
def c2E:FSem:=⟨[.v QI],[.v QI],b1a⟩
def d8i:Hints:=⟨[],[(6,[Qn [0,.sv 8 .bool]])],[]⟩
def a1J(x:(Int×Int)):Option Bool:=cond (decide (x.2≥1)) (cond (decide (x.2≤31)) ((b1J x.2).bind fun y1=>cond (decide (y1≤x.1)) ((b1a x.2).bind fun y2=>some (decide (x.1≤y2))) (some false)) (some false)) (some false)
def c2F:FSem:=⟨[.v QI,.v QI],[.v .bool],a1J⟩
def a5U(x:Int):Option Bool:=cond (decide (4≤x)) (some (decide (x≤24))) (some false)
def c2G:FSem:=⟨[.v QI],[.v .bool],a5U⟩
def a3H(s:((List LI)×(Int×(Int×(LI×Z79))))):Option (((List LI)×(Int×(Int×(LI×Z79)))) ⊕ (((List LI)×Z79) ⊕ (Bool×Unit))):=(fun(a:Int)(b:LI)(c d:Int)(e:Z14)=>cond (decide (d<c)) ((m0k b d).bind fun x8=>(a1J (x8,e.1)).bind fun y9=>cond (!y9) (some (.inr (Sum.inr ((false,()))))) (some (.inl (s.1,s.2.1,a,b,c,wrap .i64 (d+1),e,())))) (some (.inr (Sum.inl (s.1,s.2.1,a,e,()))))) s.2.2.1 s.2.2.2.1 s.2.2.2.2.1 s.2.2.2.2.2.1 s.2.2.2.2.2.2.1
def a3I(s:((List LI)×Z79)):Option (((List LI)×Z79) ⊕ Z0):=cond (decide (s.2.2.1<s.2.1)) ((m0k s.1 s.2.2.1).bind fun x6=>(a2S s.2.2.2.1).bind fun y7=>cond ((x6.length:Int) != y7) (some (.inr (Sum.inr ((false,()))))) ((y0s a3H (s.1,s.2.1,s.2.2.1,x6,(x6.length:Int),0,s.2.2.2.1,())).bind fun w10=>match w10 with |.inl a11=>some (.inl (a11.1,a11.2.1,wrap .i64 (a11.2.2.1+1),a11.2.2.2.1,())) |.inr b12=>some (.inr (Sum.inr ((b12.1,())))))) (some (.inr (Sum.inl ())))
def a2T(x:Z14):Option Bool:=(show Option Z64 from(a5U x.1).bind fun y1=>cond (!y1) (some (true,x,())) (cond (decide ((x.2.1.length:Int)<1)) (some (true,x,())) (some (decide ((x.2.1.length:Int) > 8),x,())))).bind fun z2=>cond z2.1 (some false) ((show Option Z64 from(a2S z2.2.1).bind fun y3=>cond (decide (y3<1)) (some (true,z2.2.1,())) ((a2S z2.2.1).bind fun y4=>some (decide (y4 > 4096),z2.2.1,()))).bind fun z5=>cond z5.1 (some false) ((y0s a3I (z5.2.1.2.1,(z5.2.1.2.1.length:Int),0,z5.2.1,())).bind fun w13=>match w13 with |.inl a14=>some true |.inr b15=>some b15.1))
def c5C:FSem:=⟨[.v Q16],[.v .bool],a2T⟩
def H56:Hints:=⟨[(122,[.sv 32 (.list false QL),33,34,.vp 1 Q16],[Qe 0 [],Qr [.sv 2 .bool]]),(62670,[.sv 32 (.list false QL),33,34,.sv 43 QL,44,45,.vp 1 Q16],[Qe 2 [.sv 32 (.list false QL),33,34,.vp 1 Q16],Qr [.sv 2 .bool]])],[(6,[Qn [.sv 22 .bool,.vp 1 Q16]]),(14,[Qn [.sv 30 .bool,.vp 1 Q16]])],[]⟩
def a1K(x:Z7):Option Bool:=cond (decide (1≤x.1)) (cond (decide (x.1≤1048576)) (cond (decide (1≤x.2.1)) (cond (decide (x.2.1≤8)) ((a5U x.2.2.1).bind fun y1=>some y1) (some false)) (some false)) (some false)) (some false)
def c2H:FSem:=⟨[.v Q13],[.v .bool],a1K⟩
def a5V(s:(Int×Z83)):Option ((Int×Z83) ⊕ Z0):=(fun(a:Int)(b:Z17)(c d:Int)=>cond (decide (d<c)) ((m0k b d).bind fun x2=>(show Option (Int×Z17×Int×Int×Bool×Z27)from cond (decide (x2.1<0)) (some (a,b,c,d,true,x2,())) (cond (decide (x2.1≥a)) (some (a,b,c,d,true,x2,())) (cond (decide (x2.2.1<0)) (some (a,b,c,d,true,x2,())) (cond (decide (x2.2.1≥a)) (some (a,b,c,d,true,x2,())) (some (a,b,c,d,x2.1==x2.2.1,x2,())))))).bind fun z3=>cond z3.2.2.2.2.1 (some (.inr (Sum.inr ((false,()))))) ((show Option (Int×Z17×Z10)from cond (decide (z3.2.2.2.2.2.1.2.2.1<(-1024))) (some (z3.1,z3.2.1,z3.2.2.1,z3.2.2.2.1,true,())) (some (z3.1,z3.2.1,z3.2.2.1,z3.2.2.2.1,decide (z3.2.2.2.2.2.1.2.2.1 > 1024),()))).bind fun z4=>cond z4.2.2.2.2.1 (some (.inr (Sum.inr ((false,()))))) (some (.inl (z4.1,z4.2.1,z4.2.2.1,wrap .i64 (z4.2.2.2.1+1),()))))) (some (.inr (Sum.inl ())))) s.1 s.2.1 s.2.2.1 s.2.2.2.1
def a7k(x:(Z17×Int)):Option Bool:=(show Option (Z17×Int×Bool×Unit)from cond (decide (x.2<1)) (some (x.1,x.2,true,())) (cond (decide (x.2 > 8)) (some (x.1,x.2,true,())) (some (x.1,x.2,decide ((x.1.length:Int) > 16),())))).bind fun z1=>cond z1.2.2.1 (some false) ((y0s a5V (z1.2.1,z1.1,(z1.1.length:Int),0,())).bind fun w5=>match w5 with |.inl a6=>some true |.inr b7=>some b7.1)
def b8k:FSem:=⟨[.v (.list false Q13),.v QI],[.v .bool],a7k⟩
def d8j:Hints:=⟨[(58,[1,.sv 18 (.list false Q13),19,20],[Qe 0 [],Qr [.sv 4 .bool]])],[(6,[Qn [.sv 0 (.list false Q13),1,.sv 17 .bool]]),(7474,[Qn [1,.sv 18 (.list false Q13),19,20,.sv 50 .bool,.box 6 Q13,Qp 6 6]]),(7475,[Qn [1,.sv 18 (.list false Q13),19,20,.sv 58 .bool]])],[]⟩
def a5W(x:a1v):Option Bool:=(a1K x.2.2.1).bind fun y1=>cond y1 (cond (decide (x.2.1≥1)) (cond (decide (x.2.1≤4096)) (cond (decide (x.1≥0)) (cond (decide (x.1≤(wrap .i64 (4194304-x.2.1)))) ((a7k (x.2.2.2.1,x.2.2.1.2.1)).bind fun y2=>some y2) (some false)) (some false)) (some false)) (some false)) (some false)
def c2I:FSem:=⟨[.v Q61],[.v .bool],a5W⟩
def a2f(s:Z18):Option Z88:=(fun(a b:Int)=>cond (decide (b<a)) ((m0k s.1 b).bind fun x1=>(show Option Z40 from cond (decide (x1<(-1073741824))) (some (s.1,a,b,true,())) (some (s.1,a,b,decide (x1≥1073741824),()))).bind fun z2=>cond z2.2.2.2.1 (some (.inr (Sum.inr ((false,()))))) (some (.inl (z2.1,z2.2.1,wrap .i64 (z2.2.2.1+1),())))) (some (.inr (Sum.inl ())))) s.2.1 s.2.2.1
def a2a(x:LI):Option Bool:=(y0s a2f (x,(x.length:Int),0,())).bind fun w3=>match w3 with |.inl a4=>some true |.inr b5=>some b5.1
def c2J:FSem:=⟨[.v QL],[.v .bool],a2a⟩
def d8k:Hints:=⟨[(26,[.sv 5 QL,6,7],[Qe 0 [],Qr [.sv 2 .bool]])],[(1689,[Qn [.sv 5 QL,6,7,.sv 16 .bool]])],[]⟩
def a5p(x:Int):Option Bool:=cond (x != 0) (some (x != 1)) (some false)
def c3V:FSem:=⟨[.v QI],[.v .bool],a5p⟩
def a4v(s:Z18):Option Z88:=(fun(a b:Int)=>cond (decide (b<a)) ((m0k s.1 b).bind fun x2=>(show Option Z40 from cond (decide (x2<(-32768))) (some (s.1,a,b,true,())) (some (s.1,a,b,decide (x2≥32768),()))).bind fun z3=>cond z3.2.2.2.1 (some (.inr (Sum.inr ((false,()))))) (some (.inl (z3.1,z3.2.1,wrap .i64 (z3.2.2.1+1),())))) (some (.inr (Sum.inl ())))) s.2.1 s.2.2.1
def a3R(x:(LI×Int)):Option Bool:=(show Option (LI×(Bool×Unit))from cond (decide ((x.1.length:Int)<1)) (some (x.1,true,())) (cond (decide ((x.1.length:Int) > 32)) (some (x.1,true,())) (cond (decide (x.2<0)) (some (x.1,true,())) (some (x.1,decide (x.2 > 15),()))))).bind fun z1=>cond z1.2.1 (some false) ((y0s a4v (z1.1,(z1.1.length:Int),0,())).bind fun w4=>match w4 with |.inl a5=>some true |.inr b6=>some b6.1)
def c3W:FSem:=⟨[.v QL,.v QI],[.v .bool],a3R⟩
def d8l:Hints:=⟨[(58,[.sv 23 QL,24,25],[Qe 0 [],Qr [.sv 4 .bool]])],[(6,[Qn [.sv 0 QL,.sv 22 .bool]]),(3737,[Qn [.sv 23 QL,24,25,.sv 34 .bool]])],[]⟩
def a5X(s:Z6):Option (Z6 ⊕ Z0):=cond (decide (s.2.1<3)) ((m0k s.1 s.2.1).bind fun x2=>(show Option Z21 from cond (decide (x2<(-64))) (some (s.1,s.2.1,true,())) (some (s.1,s.2.1,decide (x2 > 64),()))).bind fun z3=>cond z3.2.2.1 (some (.inr (Sum.inr ((false,()))))) (some (.inl (z3.1,wrap .i64 (z3.2.1+1),())))) (some (.inr (Sum.inl ())))
def a7l(x:(Int×LI)):Option Bool:=(show Option Z8 from cond (decide (x.1<2)) (some (true,x.2,())) (some (decide (x.1 > 1024),x.2,()))).bind fun z1=>cond z1.1 (some false) ((y0s a5X (z1.2.1,0,())).bind fun w4=>match w4 with |.inl a5=>some true |.inr b6=>some b6.1)
def c7L:FSem:=⟨[.v QI,.v (.arr 3 QI)],[.v .bool],a7l⟩
def d8m:Hints:=⟨[(58,[.sv 13 (.arr 3 QI),14],[Qe 0 [],Qr [.sv 4 .bool]])],[(6,[Qn [.sv 12 .bool,.vp 3 (.arr 3 QI)]]),(3737,[Qn [.sv 13 (.arr 3 QI),14,.sv 22 .bool]])],[]⟩
def a5Y(x:(Int×Int×Unit)):Option Bool:=cond (decide (x.1≥1)) (cond (decide (x.1≤32)) (cond (decide (x.2.1≥0)) (some (decide (x.2.1≤8))) (some false)) (some false)) (some false)
def c2K:FSem:=⟨[.v Q4],[.v .bool],a5Y⟩
def a5q(s:(Z4×Int×Int×Unit)):Option ((Z4×Int×Int×Unit) ⊕ Z0):=cond (decide (s.2.2.1<s.2.1)) ((m0k s.1 s.2.2.1).bind fun x1=>(a5Y x1).bind fun y2=>cond (!y2) (some (.inr (Sum.inr ((false,()))))) (some (.inl (s.1,s.2.1,wrap .i64 (s.2.2.1+1),())))) (some (.inr (Sum.inl ())))
def a6k(x:Z4):Option Bool:=cond (decide ((x.length:Int) > 3)) (some false) ((y0s a5q (x,(x.length:Int),0,())).bind fun w3=>match w3 with |.inl a4=>some true |.inr b5=>some b5.1)
def b6J:FSem:=⟨[.v (.list false Q4)],[.v .bool],a6k⟩
def d8n:Hints:=⟨[(58,[.sv 8 (.list false Q4),9,10],[Qe 0 [],Qr [.sv 2 .bool]])],[],[]⟩
def a8L(x:(Int×a8C)):Option Bool:=(show Option c7t from cond (x.1==0) (some (x.2.2,x.1,x.1==0,x.2.1,())) (some (x.2.2,x.1,x.1==1,x.2.1,()))).bind fun z1=>cond z1.2.2.1 (some true) (cond (z1.2.1==2) (cond (decide (z1.2.2.2.1.2.2.1≥0)) (cond (decide (z1.2.2.2.1.2.2.1≤4)) (some (decide (z1.2.2.2.1.2.2.1≤z1.1))) (some false)) (some false)) (cond (z1.2.1==3) ((a3R (z1.2.2.2.1.2.2.2.2.2.1,z1.2.2.2.1.2.2.2.1)).bind fun y2=>cond y2 (some (decide ((z1.2.2.2.1.2.2.2.2.2.1.length:Int)≤z1.1))) (some false)) (cond (z1.2.1==4) ((a3R (z1.2.2.2.1.2.2.2.2.2.1,z1.2.2.2.1.2.2.2.1)).bind fun y3=>cond y3 (cond (decide ((z1.2.2.2.1.2.2.2.2.2.1.length:Int)≤z1.1)) ((a7l (z1.2.2.2.1.2.2.2.2.1,z1.2.2.2.1.2.2.2.2.2.2.1)).bind fun y4=>some y4) (some false)) (some false)) (cond (z1.2.1==5) (cond (decide ((z1.2.2.2.1.2.2.2.2.2.2.2.1.length:Int) > 0)) ((a6k z1.2.2.2.1.2.2.2.2.2.2.2.1).bind fun y5=>some y5) (some false)) (some false)))))
def c9o:FSem:=⟨[.v QI,.v Q43,.v QI],[.v .bool],a8L⟩
def d8o:Hints:=⟨[],[(26,[Qn [2,7,.sv 8 .bool,.vp 4 Q43]])],[]⟩
def a5r(x:a8C):Option Int:=cond (x.1.1==0) (some 1) (cond (x.1.1==1) (some x.2) (cond (x.1.1==2) (some x.1.2.2.1) ((show Option c7r from cond (x.1.1==3) (some (x.1.1==3,x.1,())) (some (x.1.1==4,x.1,()))).bind fun z1=>cond z1.1 (some (z1.2.1.2.2.2.2.2.1.length:Int)) (some 0))))
def c3X:FSem:=⟨[.v Q43,.v QI],[.v QI],a5r⟩
def d8p:Hints:=⟨[],[(1727,[Qn [.sv 16 .bool,.vp 2 Q43]])],[]⟩
def a0Z(x:LI):Option LI:=x0e x
def a1B:FSem:=⟨[.v QL],[.o QI],a0Z⟩
def d2e:Cx:=b4G [] [] 5 0
theorem d4X(x):A0j d2e QH Tryz.f183 a1B.ps a1B.rs x=a1B.F x:=Eq.trans (show _=w0u x by kernel_rfl) (A0x x)
def a2b(x:LI):Option LI:=x0e x
def a2c:FSem:=⟨[.v QL],[.v QL],a2b⟩
def c9p:Cx:=b4G [] [] 5 0
theorem d4d(x):A0j c9p QH Tryz.f183 a2c.ps a2c.rs x=a2c.F x:=Eq.trans (show _=w0u x by kernel_rfl) (A0x x)
def a1h(x:Z4):Option Z4:=x0e x
def a1i:FSem:=⟨[.v (.list false Q4)],[.v (.list false Q4)],a1h⟩
def c9q:Cx:=b4G [] [] 5 0
theorem d4e(x):A0j c9q QH Tryz.f251 a1i.ps a1i.rs x=a1i.F x:=Eq.trans (show _=w0u x by kernel_rfl) (A0x x)
def a8T(x:(Int×a1b)):Option a1b:=(show Option a9J from(show Option ((a1b×a9J) ⊕ (a9J ⊕ (a1b×a9J)))from cond (x.1==2) (some (Sum.inr (Sum.inl ((0,0,0,0,0,[],a02 3 0,[],[],(0,[],()),[],()),(x.1,0,x.2.2.2.1,0,0,[],a02 3 0,[],[],(0,[],()),[],()),())))) (cond (x.1==4) (some (Sum.inl ((0,0,0,0,0,[],a02 3 0,[],[],(0,[],()),[],()),(x.1,0,0,0,x.2.2.2.2.2.1,[],x.2.2.2.2.2.2.2.1,[],[],(0,[],()),[],()),x.2,()))) (cond (x.1==3) (some (Sum.inl ((0,0,0,0,0,[],a02 3 0,[],[],(0,[],()),[],()),(x.1,0,0,0,0,[],a02 3 0,[],[],(0,[],()),[],()),x.2,()))) (cond (x.1==5) (some (Sum.inr (Sum.inr (((0,0,0,0,0,[],a02 3 0,[],[],(0,[],()),[],()),(x.1,0,0,0,0,[],a02 3 0,[],[],(0,[],()),[],()),x.2,()))))) (some (Sum.inr (Sum.inl ((0,0,0,0,0,[],a02 3 0,[],[],(0,[],()),[],()),(x.1,0,0,0,0,[],a02 3 0,[],[],(0,[],()),[],()),())))))))).bind fun z1=>match z1 with |.inl a2=>((a2b a2.2.2.1.2.2.2.2.2.1).bind fun y4=>some (a2.1,(a2.2.1.1,a2.2.1.2.1,a2.2.1.2.2.1,a2.2.2.1.2.2.2.1,a2.2.1.2.2.2.2.1,y4,a2.2.1.2.2.2.2.2.2),())) |.inr b3=>(match b3 with |.inl a5=>some (a5.1,a5.2.1,()) |.inr b6=>((a1h b6.2.2.1.2.2.2.2.2.2.2.1).bind fun y7=>some (b6.1,(b6.2.1.1,b6.2.1.2.1,b6.2.1.2.2.1,b6.2.1.2.2.2.1,b6.2.1.2.2.2.2.1,b6.2.1.2.2.2.2.2.1,b6.2.1.2.2.2.2.2.2.1,y7,b6.2.1.2.2.2.2.2.2.2.2),())))).bind fun z8=>some z8.2.1
def c3Y:FSem:=⟨[.v QI,.v Q43],[.v Q43],a8T⟩
def d8q:Hints:=⟨[],[(7,[Qn [.box 4 Q43,.box 5 Q43,Qp 4 4,Qp 5 5]]),(232,[Qn [.box 4 Q43,.box 5 Q43,.vp 3 Q43,Qp 4 4,Qp 5 5],Qe 0 [.box 4 Q43,.box 5 Q43,Qp 4 4,Qp 5 5],Qe 4 [.box 4 Q43,.box 5 Q43,.vp 3 Q43,Qp 4 4,Qp 5 5]])],[(8,[.v,.v,.v,.v,.q,.w [0,5],.x,.x]),(9,[.v,.v,.v,.v,.v,.q,.w [0,5],.x,.x])]⟩
def a9Z(x:a1b):Option Bool:=(a8T (x.1,x)).bind fun y1=>cond (x.2.2.1==y1.2.2.1) (cond (x.2.2.2.1==y1.2.2.2.1) (cond (x.2.2.2.2.1==y1.2.2.2.2.1) (cond (eqT (.arr 3 (.int .i64)) x.2.2.2.2.2.2.1 y1.2.2.2.2.2.2.1) (cond ((x.2.2.2.2.2.1.length:Int)==(y1.2.2.2.2.2.1.length:Int)) (some ((x.2.2.2.2.2.2.2.1.length:Int)==(y1.2.2.2.2.2.2.2.1.length:Int))) (some false)) (some false)) (some false)) (some false)) (some false)
def c5D:FSem:=⟨[.v Q43],[.v .bool],a9Z⟩
def a6l(x:(Int×Int)):Option Bool:=cond (decide (1≤x.1)) (cond (decide (x.1≤4096)) (cond (decide (0≤x.2)) (some (decide (x.2≤x.1))) (some false)) (some false)) (some false)
def c5E:FSem:=⟨[.v QI,.v QI],[.v .bool],a6l⟩
def a5B(s:Z19):Option (Z19 ⊕ (LI×Unit)):=(fun(a:LI)=>cond (decide (s.1<0)) none (cond (decide ((a.length:Int)<(A0n .i64 1 s.1))) (cond (lim ((a01 a)+1)) (some (.inl (s.1,s.2.1,a03 a [s.2.1],()))) none) (some (.inr (a,()))))) s.2.2.1
def a2E(x:(Int×Int×Int)):Option LI:=(show Option Z28 from(a6l (x.2.1,x.2.2)).bind fun y1=>cond (!y1) (some (x.1,x.2.1,x.2.2,true,())) (cond (decide (x.1<0)) (some (x.1,x.2.1,x.2.2,true,())) (some (x.1,x.2.1,x.2.2,decide (x.1 > 8),())))).bind fun z2=>cond z2.2.2.2.1 (some []) (cond (decide (z2.1<0)) none ((show Option Z28 from cond (decide (z2.1<0)) none (cond ((A0n .i64 (A0o .i64 z2.2.1 z2.1) z2.1) != z2.2.1) (some (z2.1,z2.2.2.1,A0o .i64 z2.2.1 z2.1,true,())) (some (z2.1,z2.2.2.1,A0o .i64 z2.2.1 z2.1,decide ((A0o .i64 z2.2.1 z2.1)<z2.2.2.1),())))).bind fun z3=>cond z3.2.2.2.1 (some []) ((y0s a5B (z3.1,z3.2.2.1,[wrap .i64 (z3.2.2.1-z3.2.1)],())).bind fun w4=>some w4.1)))
def c2L:FSem:=⟨[.v QI,.v QI,.v QI],[.o QI],a2E⟩
def d8r:Hints:=⟨[(252,[0,7,.own 8 8 QI],[Qe 0 [.own 8 8 QI]])],[(6,[Qn [0,1,2,.sv 20 .bool]]),(30,[Qn [0,2,7,.sv 33 .bool]])],[]⟩
def a3J(s:Z18):Option Z88:=(fun(a:LI)(b c:Int)=>cond (decide (c<b)) ((m0k a c).bind fun x3=>(show Option Z40 from cond (decide (x3<0)) (some (a,b,c,x3 != 31,())) (cond (decide (x3 > 25)) (some (a,b,c,x3 != 31,())) (some (a,b,c,false,())))).bind fun z4=>cond z4.2.2.2.1 (some (.inr (Sum.inr ((false,()))))) (some (.inl (z4.1,z4.2.1,wrap .i64 (z4.2.2.1+1),())))) (some (.inr (Sum.inl ())))) s.1 s.2.1 s.2.2.1
def a7Z(x:(Z5×Int×Int)):Option Bool:=(a2E (x.1.1,x.2.1,x.2.2)).bind fun y1=>(show Option Z47 from cond ((y1.length:Int)==0) (some (true,x.1,())) (some ((x.1.2.1.length:Int) != (y1.length:Int),x.1,()))).bind fun z2=>cond z2.1 (some false) ((y0s a3J (z2.2.1.2.1,(z2.2.1.2.1.length:Int),0,())).bind fun w5=>match w5 with |.inl a6=>some true |.inr b7=>some b7.1)
def c5F:FSem:=⟨[.v Q12,.v QI,.v QI],[.v .bool],a7Z⟩
def d8s:Hints:=⟨[(122,[.sv 27 QL,28,29],[Qe 0 [],Qr [.sv 6 .bool]])],[(14,[Qn [.sv 25 .bool,.vp 3 Q12]]),(7833,[Qn [.sv 27 QL,28,29,.sv 42 .bool]])],[]⟩
def a8U(x:a8C):Option Bool:=(show Option c0C from cond (decide (x.2<1)) (some (x.2,true,x.1,())) (cond (decide (x.2 > 4096)) (some (x.2,true,x.1,())) ((a8L (x.1.1,x.1,x.2)).bind fun y1=>cond (!y1) (some (x.2,true,x.1,())) ((a9Z x.1).bind fun y2=>some (x.2,!y2,x.1,()))))).bind fun z3=>cond z3.2.1 (some false) ((show Option c0C from cond (decide (z3.2.2.1.2.1<0)) (some (z3.1,true,z3.2.2.1,())) (cond (decide (z3.2.2.1.2.1 > 30)) (some (z3.1,true,z3.2.2.1,())) (cond (z3.2.2.1.1==0) (some (z3.1,z3.2.2.1.2.1 != 0,z3.2.2.1,())) (some (z3.1,false,z3.2.2.1,()))))).bind fun z4=>cond z4.2.1 (some false) ((a5r (z4.2.2.1,z4.1)).bind fun y5=>(show Option c7t from cond ((z4.2.2.1.2.2.2.2.2.2.2.2.1.length:Int) != y5) (some (z4.1,y5,true,z4.2.2.1,())) ((a2a z4.2.2.1.2.2.2.2.2.2.2.2.1).bind fun y6=>cond (!y6) (some (z4.1,y5,true,z4.2.2.1,())) ((a2a z4.2.2.1.2.2.2.2.2.2.2.2.2.2.1).bind fun y7=>some (z4.1,y5,!y7,z4.2.2.1,())))).bind fun z8=>cond z8.2.2.1 (some false) ((a5p z8.2.2.2.1.1).bind fun y9=>cond (!y9) (cond ((z8.2.2.2.1.2.2.2.2.2.2.2.2.2.2.1.length:Int)==0) (cond (z8.2.2.2.1.2.2.2.2.2.2.2.2.2.1.1==0) (some ((z8.2.2.2.1.2.2.2.2.2.2.2.2.2.1.2.1.length:Int)==0)) (some false)) (some false)) (cond ((z8.2.2.2.1.2.2.2.2.2.2.2.2.2.2.1.length:Int)==(wrap .i64 (z8.1-z8.2.1))) ((a7Z (z8.2.2.2.1.2.2.2.2.2.2.2.2.2.1,z8.1,z8.2.1)).bind fun y10=>some y10) (some false)))))
def c3Z:FSem:=⟨[.v Q43,.v QI],[.v .bool],a8U⟩
def d8t:Hints:=⟨[],[(6,[Qn [1,.sv 24 .bool,.vp 2 Q43]]),(14,[Qn [1,.sv 42 .bool,.vp 2 Q43]]),(62,[Qn [1,5,.sv 62 .bool,.vp 2 Q43]])],[]⟩
def b2t(s:Z18):Option Z88:=(fun(a b:Int)=>cond (decide (b<a)) ((m0k s.1 b).bind fun x1=>(show Option Z40 from cond (decide (x1<(-1073741824))) (some (s.1,a,b,true,())) (some (s.1,a,b,decide (x1≥1073741824),()))).bind fun z2=>cond z2.2.2.2.1 (some (.inr (Sum.inr ((false,()))))) (some (.inl (z2.1,z2.2.1,wrap .i64 (z2.2.2.1+1),())))) (some (.inr (Sum.inl ())))) s.2.1 s.2.2.1
def a2q(x:LI):Option Bool:=(y0s b2t (x,(x.length:Int),0,())).bind fun w3=>match w3 with |.inl a4=>some true |.inr b5=>some b5.1
def c4a:FSem:=⟨[.v QL],[.v .bool],a2q⟩
def d8u:Hints:=⟨[(26,[.sv 5 QL,6,7],[Qe 0 [],Qr [.sv 2 .bool]])],[(1689,[Qn [.sv 5 QL,6,7,.sv 16 .bool]])],[]⟩
def a1c(x:(Int×LI)):Option (Int×LI):=(m0k x.2 (wrap .i64 ((x.2.length:Int)-x.1))).bind fun x1=>some (x1,x.2)
def b8l:FSem:=⟨[.v QI,.r false (.b QL)],[.v QI],a1c⟩
def a8m(x:(LI×Int)):Option Int:=cond (x.2==1) ((a1c (1,x.1)).bind fun y1=>some y1.1) (cond (x.2==2) ((a1c (1,x.1)).bind fun y2=>(a1c (2,y2.2)).bind fun y3=>some (wrap .i64 ((wrap .i64 (2*y2.1))-y3.1))) (cond (x.2==3) ((a1c (1,x.1)).bind fun y4=>(a1c (2,y4.2)).bind fun y5=>(a1c (3,y5.2)).bind fun y6=>some (wrap .i64 ((wrap .i64 ((wrap .i64 (3*y4.1))-(wrap .i64 (3*y5.1))))+y6.1))) (cond (x.2==4) ((a1c (1,x.1)).bind fun y7=>(a1c (2,y7.2)).bind fun y8=>(a1c (3,y8.2)).bind fun y9=>(a1c (4,y9.2)).bind fun y10=>some (wrap .i64 ((wrap .i64 ((wrap .i64 ((wrap .i64 (4*y7.1))-(wrap .i64 (6*y8.1))))+(wrap .i64 (4*y9.1))))-y10.1))) (some 0))))
def c2M:FSem:=⟨[.v QL,.v QI],[.v QI],a8m⟩
def a6u(s:Z73):Option (Z73 ⊕ Z57):=(fun(a b:Int)(c:LI)=>cond (decide (b<a)) ((m0k s.2.1 b).bind fun x5=>(a8m (c,s.1)).bind fun y6=>(a2q [wrap .i64 (x5+y6)]).bind fun y7=>cond (!y7) (some (.inr (Sum.inr ((6,[],()))))) (cond (lim ((a01 c)+1)) (some (.inl (s.1,s.2.1,a,wrap .i64 (b+1),a03 c [wrap .i64 (x5+y6)],()))) none)) (some (.inr (Sum.inl (c,()))))) s.2.2.1 s.2.2.2.1 s.2.2.2.2.1
def a8V(x:Z12):Option (LI×Int):=(show Option Z58 from cond (decide (x.2.2<0)) (some (x.1,x.2.1,x.2.2,true,())) (cond (decide (x.2.2 > 4)) (some (x.1,x.2.1,x.2.2,true,())) (some (x.1,x.2.1,x.2.2,(x.1.length:Int) != x.2.2,())))).bind fun z1=>cond z1.2.2.2.1 (some ([],1)) ((show Option Z58 from(a2q z1.1).bind fun y2=>cond (!y2) (some (z1.1,z1.2.1,z1.2.2.1,true,())) ((a2q z1.2.1).bind fun y3=>some (z1.1,z1.2.1,z1.2.2.1,!y3,()))).bind fun z4=>cond z4.2.2.2.1 (some ([],6)) (cond (lim (a01 z4.1)) ((y0s a6u (z4.2.2.1,z4.2.1,(z4.2.1.length:Int),0,z4.1,())).bind fun w8=>match w8 with |.inl a9=>some (a9.1,0) |.inr b10=>some (b10.2.1,b10.1)) none))
def c4b:FSem:=⟨[.v QL,.v QL,.v QI],[.o QI,.v QI],a8V⟩
def d8v:Hints:=⟨[(250,[2,.sv 34 QL,35,36,.own 8 8 QI],[Qe 0 [.own 8 8 QI],Qr [7,.own 6 6 QI]])],[(6,[Qn [.sv 0 QL,.sv 1 QL,2,.sv 23 .bool]]),(14,[Qn [.sv 0 QL,.sv 1 QL,2,.sv 31 .bool]])],[]⟩
def a4p(x:Int):Option Bool:=cond (decide (x≥(-1073741824))) (some (decide (x<1073741824))) (some false)
def c2N:FSem:=⟨[.v QI],[.v .bool],a4p⟩
def a2G(s:Z18):Option Z88:=cond (decide (s.2.2.1<s.2.1)) ((m0k s.1 s.2.2.1).bind fun x1=>(a4p x1).bind fun y2=>cond (!y2) (some (.inr (Sum.inr ((false,()))))) (some (.inl (s.1,s.2.1,wrap .i64 (s.2.2.1+1),())))) (some (.inr (Sum.inl ())))
def a2g(x:LI):Option Bool:=(y0s a2G (x,(x.length:Int),0,())).bind fun w3=>match w3 with |.inl a4=>some true |.inr b5=>some b5.1
def b7A:FSem:=⟨[.v QL],[.v .bool],a2g⟩
def d8w:Hints:=⟨[(26,[.sv 5 QL,6,7],[Qe 0 [],Qr [.sv 2 .bool]])],[],[]⟩
def a2H(s:Z93):Option (Z93 ⊕ (Int×Int×Unit)):=(fun(a:LI)(b c:Int)(d:LI)(e f:Int)=>cond (decide (f<e)) ((m0k d f).bind fun x1=>cond (decide ((wrap .i64 ((wrap .i64 ((a.length:Int)-1))-f))<0)) (some (.inr (b,c,()))) ((m0k a (wrap .i64 ((wrap .i64 ((a.length:Int)-1))-f))).bind fun x2=>some (.inl (a,b,wrap .i64 (c+(wrap .i64 (x1*x2))),d,e,wrap .i64 (f+1),())))) (some (.inr (b,c,())))) s.1 s.2.1 s.2.2.1 s.2.2.2.1 s.2.2.2.2.1 s.2.2.2.2.2.1
def a3S(x:Z12):Option Int:=(y0s a2H (x.1,x.2.2,0,x.2.1,(x.2.1.length:Int),0,())).bind fun w3=>cond (decide (w3.1<0)) none (some (A0o .i64 w3.2.1 w3.1))
def b7B:FSem:=⟨[.v QL,.v QL,.v QI],[.v QI],a3S⟩
def d8x:Hints:=⟨[(58,[.sv 0 QL,2,7,.sv 11 QL,12,13],[Qe 0 [2,7]])],[],[]⟩
def a5C(s:(LI×Z73)):Option ((LI×Z73) ⊕ Z57):=(fun(a:LI)(b c:Int)(d:LI)=>cond (decide (c<b)) ((m0k a c).bind fun x6=>(a3S (d,s.1,s.2.1)).bind fun y7=>(a4p (wrap .i64 (y7+x6))).bind fun y8=>cond (!y8) (some (.inr (Sum.inr ((6,[],()))))) (cond (lim ((a01 d)+1)) (some (.inl (s.1,s.2.1,a,b,wrap .i64 (c+1),a03 d [wrap .i64 (y7+x6)],()))) none)) (some (.inr (Sum.inl (d,()))))) s.2.2.1 s.2.2.2.1 s.2.2.2.2.1 s.2.2.2.2.2.1
def a5Z(x:(LI×Z12)):Option (LI×Int):=(show Option Z94 from(a3R (x.2.2.1,x.2.2.2)).bind fun y1=>cond (!y1) (some (x.1,x.2.1,x.2.2.1,x.2.2.2,true,())) (some (x.1,x.2.1,x.2.2.1,x.2.2.2,(x.1.length:Int) != (x.2.2.1.length:Int),()))).bind fun z2=>cond z2.2.2.2.2.1 (some ([],1)) ((show Option Z94 from(a2g z2.1).bind fun y3=>cond (!y3) (some (z2.1,z2.2.1,z2.2.2.1,z2.2.2.2.1,true,())) ((a2g z2.2.1).bind fun y4=>some (z2.1,z2.2.1,z2.2.2.1,z2.2.2.2.1,!y4,()))).bind fun z5=>cond z5.2.2.2.2.1 (some ([],6)) (cond ((decide (0≤(wrap .i64 ((z5.1.length:Int)+(z5.2.1.length:Int)))))&&(lim (a00 (wrap .i64 ((z5.1.length:Int)+(z5.2.1.length:Int)))))) (cond (lim (0+(a01 z5.1))) ((y0s a5C (z5.2.2.1,z5.2.2.2.1,z5.2.1,(z5.2.1.length:Int),0,a03 [] z5.1,())).bind fun w9=>match w9 with |.inl a10=>some (a10.1,0) |.inr b11=>some (b11.2.1,b11.1)) none) none))
def c2O:FSem:=⟨[.v QL,.v QL,.v QL,.v QI],[.o QI,.v QI],a5Z⟩
def d8y:Hints:=⟨[(506,[.sv 2 QL,3,.sv 42 QL,43,44,.own 10 10 QI],[Qe 0 [.own 10 10 QI],Qr [9,.own 8 8 QI]])],[(6,[Qn [.sv 0 QL,.sv 1 QL,.sv 2 QL,3,.sv 24 .bool]]),(14,[Qn [.sv 0 QL,.sv 1 QL,.sv 2 QL,3,.sv 32 .bool]])],[]⟩
def a6m(x:Int):Option Bool:=cond (decide (x≥(-1073741824))) (some (decide (x<1073741824))) (some false)
def c5G:FSem:=⟨[.v QI],[.v .bool],a6m⟩
def a3t(s:Z18):Option Z88:=cond (decide (s.2.2.1<s.2.1)) ((m0k s.1 s.2.2.1).bind fun x1=>(a6m x1).bind fun y2=>cond (!y2) (some (.inr (Sum.inr ((false,()))))) (some (.inl (s.1,s.2.1,wrap .i64 (s.2.2.1+1),())))) (some (.inr (Sum.inl ())))
def a3K(x:LI):Option Bool:=(y0s a3t (x,(x.length:Int),0,())).bind fun w3=>match w3 with |.inl a4=>some true |.inr b5=>some b5.1
def c0G:FSem:=⟨[.v QL],[.v .bool],a3K⟩
def d8z:Hints:=⟨[(26,[.sv 5 QL,6,7],[Qe 0 [],Qr [.sv 2 .bool]])],[],[]⟩
def a3u(s:(LI×(Int×Int×Z20))):Option ((LI×(Int×Int×Z20)) ⊕ (Int×Unit)):=(fun(a b c:Int)(d:LI)(e:Int)=>cond (decide (e<3)) ((m0k d e).bind fun x1=>cond (decide ((wrap .i64 ((wrap .i64 ((wrap .i64 (a-b))-1))+e))≥0)) ((m0k s.1 (wrap .i64 ((wrap .i64 ((wrap .i64 (a-b))-1))+e))).bind fun x2=>some (.inl (s.1,a,b,wrap .i64 (c+(wrap .i64 (x1*x2))),d,wrap .i64 (e+1),()))) (some (.inl (s.1,a,b,c,d,wrap .i64 (e+1),())))) (some (.inr (c,())))) s.2.1 s.2.2.1 s.2.2.2.1 s.2.2.2.2.1 s.2.2.2.2.2.1
def a3L(x:(LI×Z2)):Option Int:=(y0s a3u (x.1,x.2.1,x.2.2.1,0,x.2.2.2,0,())).bind fun w3=>some (A0o .i64 w3.1 6)
def c0H:FSem:=⟨[.v QL,.v QI,.v QI,.v (.arr 3 QI)],[.v QI],a3L⟩
def d8A:Hints:=⟨[(58,[.sv 0 QL,1,2,9,.sv 13 (.arr 3 QI),14],[Qe 0 [9]])],[],[]⟩
def a7m(s:c7k):Option (c7k ⊕ Z57):=(fun(a b:Int)(c d:LI)=>cond (decide (b<a)) ((m0k s.2.1 b).bind fun x3=>(a3L (c,b,s.1,d)).bind fun y4=>(a6m (wrap .i64 (x3+y4))).bind fun y5=>cond (!y5) (some (.inr (Sum.inr ((6,[],()))))) (cond (lim ((a01 c)+1)) (some (.inl (s.1,s.2.1,a,wrap .i64 (b+1),a03 c [wrap .i64 (x3+y4)],d,()))) none)) (some (.inr (Sum.inl (c,()))))) s.2.2.1 s.2.2.2.1 s.2.2.2.2.1 s.2.2.2.2.2.1
def b0A(x:Z13):Option (LI×Int):=(a7l (x.2.1,x.2.2)).bind fun y1=>cond (!y1) (some ([],1)) ((a3K x.1).bind fun y2=>cond (!y2) (some ([],6)) (cond ((decide (0≤(x.1.length:Int)))&&(lim (a00 (x.1.length:Int)))) ((y0s a7m (x.2.1,x.1,(x.1.length:Int),0,[],x.2.2,())).bind fun w6=>match w6 with |.inl a7=>some (a7.1,0) |.inr b8=>some (b8.2.1,b8.1)) none))
def c5H:FSem:=⟨[.v QL,.v QI,.v (.arr 3 QI)],[.o QI,.v QI],b0A⟩
def d8B:Hints:=⟨[(250,[1,.sv 22 QL,23,24,.own 8 8 QI,.vp 5 (.arr 3 QI)],[Qe 0 [.own 8 8 QI],Qr [7,.own 6 6 QI]])],[],[]⟩
def a5s(x:Int):Option Bool:=cond (decide (x≥(-1073741824))) (some (decide (x<1073741824))) (some false)
def b4H:FSem:=⟨[.v QI],[.v .bool],a5s⟩
def a2Z(s:Z18):Option Z88:=cond (decide (s.2.2.1<s.2.1)) ((m0k s.1 s.2.2.1).bind fun x1=>(a5s x1).bind fun y2=>cond (!y2) (some (.inr (Sum.inr ((false,()))))) (some (.inl (s.1,s.2.1,wrap .i64 (s.2.2.1+1),())))) (some (.inr (Sum.inl ())))
def a4w(x:LI):Option Bool:=(y0s a2Z (x,(x.length:Int),0,())).bind fun w3=>match w3 with |.inl a4=>some true |.inr b5=>some b5.1
def b2u:FSem:=⟨[.v QL],[.v .bool],a4w⟩
def d8C:Hints:=⟨[(26,[.sv 5 QL,6,7],[Qe 0 [],Qr [.sv 2 .bool]])],[],[]⟩
def a8a(x:(Int×Int×Unit)):Option Z51:=(a5Y x).bind fun y1=>cond (!y1) none (cond ((decide (0≤x.1))&&((decide (x.1≤x.1))&&(lim (a00 x.1)))) (cond ((decide (0≤x.1))&&((decide (x.1≤x.1))&&(lim (a00 x.1)))) (some ((x.2.1,a02 (a00 x.1) 0,a02 (a00 x.1) 0,()),0)) none) none)
def b6K:FSem:=⟨[.v Q4],[.b Q18,.v QI],a8a⟩
def d8D:Hints:=⟨[],[],[(3,[.v,.v,.v,.v,.q,.v,.v,.q,.x,.x,.x,.x])]⟩
def a4x(x:Int):Option Int:=some (v0s (v0r x (-1073741824)) 1073741823)
def b8m:FSem:=⟨[.v QI],[.v QI],a4x⟩
def a2F(s:c3Q):Option (c3Q ⊕ Z80):=(fun(a:Int)(b:Z30)=>cond (decide (a<s.2.1)) (cond ((decide (0≤a))&&(decide (a<(b.2.1.length:Int)))) (cond ((decide (0≤a))&&(decide (a<(b.2.2.1.length:Int)))) (some (.inl (wrap .i64 (s.1+(wrap .i64 ((a04 b.2.1 (a00 a) 0)*(a04 b.2.2.1 (a00 a) 0)))),s.2.1,wrap .i64 (a+1),b,()))) none) none) (some (.inr (s.1,b,())))) s.2.2.1 s.2.2.2.1
def a1N(x:Z30):Option Z50:=(y0s a2F (0,(x.2.1.length:Int),0,x,())).bind fun w1=>(a4x (A0o .i64 w1.1 16)).bind fun y2=>some (y2,w1.2.1)
def a8W:FSem:=⟨[.r false (.b Q18)],[.v QI],a1N⟩
def d8E:Hints:=⟨[(58,[3,10,11,.box pinned Q18,Qp 0 pinned,.ref 9 pinned [.snd,.fst]],[Qe 0 [3,.box pinned Q18]])],[],[]⟩
def a1Y(s:(Int×c3Q)):Option ((Int×c3Q) ⊕ Z80):=(fun(a b c d:Int)(e:Z30)=>cond (decide (d<c)) (cond ((decide (0≤d))&&(decide (d<(e.2.2.1.length:Int)))) (cond ((decide (0≤d))&&(decide (d<(e.2.1.length:Int)))) ((show Option (Int×Int×Int×c3Q)from cond (decide ((a04 e.2.2.1 (a00 d) 0) > 0)) (some (a,b,d,wrap .i64 ((a04 e.2.1 (a00 d) 0)+b),c,d,e,())) (cond (decide ((a04 e.2.2.1 (a00 d) 0)<0)) (some (a,b,d,wrap .i64 ((a04 e.2.1 (a00 d) 0)-b),c,d,e,())) (some (a,b,d,a04 e.2.1 (a00 d) 0,c,d,e,())))).bind fun z4=>cond ((decide (0≤z4.2.2.1))&&(decide (z4.2.2.1<(z4.2.2.2.2.2.2.1.2.1.length:Int)))) (some (.inl (z4.1,z4.2.1,z4.2.2.2.2.1,wrap .i64 (z4.2.2.2.2.2.1+1),(z4.2.2.2.2.2.2.1.1,a05 z4.2.2.2.2.2.2.1.2.1 (a00 z4.2.2.1) (v0s (v0r z4.2.2.2.1 (-1048576)) 1048576),z4.2.2.2.2.2.2.1.2.2),()))) none) none) none) (some (.inr (a,e,())))) s.1 s.2.1 s.2.2.1 s.2.2.2.1 s.2.2.2.2.1
def a2I(x:Z51):Option Z30:=(a4x x.2).bind fun y1=>(show Option Z98 from(a1N x.1).bind fun y2=>cond (decide (y1 > y2.1)) (cond (decide (y2.2.1<0)) none (some (y1,A0n .i64 1 y2.2.1,y2.2,()))) (cond (decide (y1<y2.1)) (cond (decide (y2.2.1<0)) none (some (y1,wrap .i64 (0-(A0n .i64 1 y2.2.1)),y2.2,()))) (some (y1,0,y2.2,())))).bind fun z3=>(y0s a1Y (z3.1,z3.2.1,(z3.2.2.1.2.2.1.length:Int),0,z3.2.2.1,())).bind fun w5=>cond (decide (1≤(w5.2.1.2.2.1.length:Int))) (cond (decide (0<(a01 (p0h w5.2.1.2.2.1 1 ((a01 w5.2.1.2.2.1)-1) w5.2.1.2.2.1):Int))) (some (w5.2.1.1,w5.2.1.2.1,a05 (p0h w5.2.1.2.2.1 1 ((a01 w5.2.1.2.2.1)-1) w5.2.1.2.2.1) 0 w5.1,w5.2.1.2.2.2)) none) none
def a9C:FSem:=⟨[.r false (.b Q18),.v QI],[],a2I⟩
def d8F:Hints:=⟨[(122,[1,4,36,37,.box pinned Q18,Qp 0 pinned,.ref 35 pinned [.snd,.snd,.fst]],[Qe 1 [1,.box pinned Q18,Qp 0 pinned]])],[(7,[Qn [1,4,.box pinned Q18,Qp 0 pinned]]),(15667,[Qn [1,4,6,8,36,37,.box pinned Q18,Qp 0 pinned,.ref 35 pinned [.snd,.snd,.fst]]])],[(17,[.p,.p,.q,.q,.q,.p,.p,.q,.q,.x])]⟩
def a4y(s:(Int×(Int×(LI×d0Z)))):Option ((Int×(Int×(LI×d0Z))) ⊕ (Z31 ⊕ Z31)):=(fun(a:Int)(b:LI)(c:Int)(d:LI)=>cond (decide (a<s.1)) (cond ((decide (0≤a))&&(decide (a<(d.length:Int)))) ((a1N s.2.2.2.2.2.1).bind fun y6=>(a5s (wrap .i64 (y6.1+(a04 d (a00 a) 0)))).bind fun y7=>cond (!y7) (some (.inr (Sum.inr (([],6,d,()))))) ((a2I (y6.2,wrap .i64 (y6.1+(a04 d (a00 a) 0)))).bind fun y8=>cond ((decide (0≤a))&&(decide (a<(d.length:Int)))) (some (.inl (s.1,wrap .i64 (a+1),b,c,a05 d (a00 a) (wrap .i64 (y6.1+(a04 d (a00 a) 0))),y8,()))) none)) none) (some (.inr (Sum.inl (b,c,d,()))))) s.2.1 s.2.2.1 s.2.2.2.1 s.2.2.2.2.1
def a6v(k:Int)(v:(Int×Int×Unit))(s:(Z4×Z31)):Option ((Z4×Z31) ⊕ (Ex×Z4×Z31)):=(a8a v).bind fun y4=>cond (y4.2 != 0) (some (.inr (.ret,s.1,[],y4.2,s.2.2.2.1,()))) ((y0s a4y ((s.2.2.2.1.length:Int),0,s.2.1,s.2.2.1,s.2.2.2.1,y4.1,())).bind fun w9=>match w9 with |.inl a10=>some (.inl (s.1,a10.1,a10.2.1,a10.2.2.1,())) |.inr b11=>some (.inr (.ret,s.1,b11.1,b11.2.1,b11.2.2.1,())))
def a8X(x:(LI×Z4)):Option (LI×Int):=(a6k x.2).bind fun y1=>cond (!y1) (some ([],1)) ((a4w x.1).bind fun y2=>cond (!y2) (some ([],6)) ((a0Z x.1).bind fun y3=>cond (lim (a01 x.2)) ((l0f a6v x.2 (a01 x.2) (x.2,[],0,y3,())).bind fun w12=>match w12 with |.inl a13=>some (a13.2.2.2.1,0) |.inr (.normal,a14)=>some (a14.2.2.2.1,0) |.inr (.exit e15,a14)=>(cond (e15==0) (some (a14.2.2.2.1,0)) none) |.inr (.ret,a14)=>some (a14.2.1,a14.2.2.1)) none))
def a8Y:FSem:=⟨[.v QL,.v (.list false Q4)],[.v QL,.v QI],a8X⟩
def d8G:Hints:=⟨[(8046,[35,36,.box 1001004 QL,.box 1001005 QI,.box 1001006 (.list true QI),.box 1028 Q18,Qp 4 1001004,Qp 5 1001005,Qp 6 1001006,Qp 9 1028,.ref 34 1001006 []],[Qe 2 [.box 1001004 QL,.box 1001005 QI,.box 1001006 (.list true QI),Qp 4 1001004,Qp 5 1001005,Qp 6 1001006],Qr [.box 1001004 QL,.box 1001005 QI,.box 1001006 (.list true QI),Qp 4 1001004,Qp 5 1001005,Qp 6 1001006]])],[],[]⟩
def d2f:Cx:=b4G [(183,a1B),(213,b6J),(296,b2u),(298,b6K),(299,a8W),(300,b4H),(301,a9C)] [(6,.list true QI)] 15875 72057594037927936
def d4f:HintR:=⟨22,Q4,297,326,[4,5,6],[.sv 22 (.list false Q4),.box 1001004 QL,.box 1001005 QI,.box 1001006 (.list true QI),.ptr 4 1001004 [],.ptr 5 1001005 [],.ptr 6 1001006 []]⟩
theorem d4Y(x):z0h d2f d8G d4f Tryz.f240 a8Y.ps a8Y.rs x=a8Y.F x:=by kernel_rfl
def a4q(x:Int):Option Bool:=cond (decide ((-1073741824)≤x)) (some (decide (x<1073741824))) (some false)
def c2P:FSem:=⟨[.v QI],[.v .bool],a4q⟩
def a7n(s:Z73):Option (Z73 ⊕ Z57):=(fun(a:Int)(b:LI)(c d:Int)(e:LI)=>cond (decide (d<c)) ((m0k b d).bind fun x2=>(show Option (Int×(Int×(LI×Z41)))from(a4q x2).bind fun y3=>cond (!y3) (some (a,x2,b,c,d,true,e,())) (cond (decide (a<0)) none ((a4q (A0n .i64 x2 a)).bind fun y4=>some (a,x2,b,c,d,!y4,e,())))).bind fun z5=>cond z5.2.2.2.2.2.1 (some (.inr (Sum.inr ((6,[],()))))) (cond (decide (z5.1<0)) none (cond (lim ((a01 z5.2.2.2.2.2.2.1)+1)) (some (.inl (z5.1,z5.2.2.1,z5.2.2.2.1,wrap .i64 (z5.2.2.2.2.1+1),a03 z5.2.2.2.2.2.2.1 [A0n .i64 z5.2.1 z5.1],()))) none))) (some (.inr (Sum.inl (e,()))))) s.1 s.2.1 s.2.2.1 s.2.2.2.1 s.2.2.2.2.1
def a8b(x:(LI×Int)):Option (LI×Int):=(show Option Z21 from cond (decide (x.2<0)) (some (x.1,x.2,true,())) (some (x.1,x.2,decide (x.2 > 30),()))).bind fun z1=>cond z1.2.2.1 (some ([],1)) ((y0s a7n (z1.2.1,z1.1,(z1.1.length:Int),0,[],())).bind fun w6=>match w6 with |.inl a7=>some (a7.1,0) |.inr b8=>some (b8.2.1,b8.1))
def c5I:FSem:=⟨[.v QL,.v QI],[.o QI,.v QI],a8b⟩
def d8H:Hints:=⟨[(122,[1,.sv 15 QL,16,17,.own 6 6 QI],[Qe 0 [.own 6 6 QI],Qr [5,.own 4 4 QI]])],[(6,[Qn [.sv 0 QL,1,.sv 14 .bool]]),(15666,[Qn [1,8,.sv 15 QL,16,17,.sv 30 .bool,.own 6 6 QI]])],[]⟩
def a6a(s:c7u):Option (c7u ⊕ (LI×Unit)):=cond (decide (s.2.1<s.1)) ((m0k s.2.2.2.1.2.2.2.2.2.2.2.2.1 0).bind fun x1=>cond (lim ((a01 s.2.2.1)+1)) (some (.inl (s.1,wrap .i64 (s.2.1+1),a03 s.2.2.1 [x1],s.2.2.2.1,()))) none) (some (.inr (s.2.2.1,())))
def b1t(x:a8C):Option (LI×Int):=(show Option ((LI×(Int×b3K)) ⊕ Z5)from cond (x.1.1==0) ((y0s a6a (x.2,0,[],x.1,())).bind fun w2=>some (Sum.inr ((0,w2.1,())))) (cond (x.1.1==1) (some (Sum.inl (x.1.2.2.2.2.2.2.2.2.1,0,x.1,()))) (cond (x.1.1==2) ((a8V (x.1.2.2.2.2.2.2.2.2.1,x.1.2.2.2.2.2.2.2.2.2.2.1,x.1.2.2.1)).bind fun y3=>some (Sum.inl (y3.1,y3.2,x.1,()))) (cond (x.1.1==3) ((a5Z (x.1.2.2.2.2.2.2.2.2.1,x.1.2.2.2.2.2.2.2.2.2.2.1,x.1.2.2.2.2.2.1,x.1.2.2.2.1)).bind fun y4=>some (Sum.inl (y4.1,y4.2,x.1,()))) (cond (x.1.1==4) ((a5Z (x.1.2.2.2.2.2.2.2.2.1,x.1.2.2.2.2.2.2.2.2.2.2.1,x.1.2.2.2.2.2.1,x.1.2.2.2.1)).bind fun y5=>cond (y5.2==0) ((b0A (y5.1,x.1.2.2.2.2.1,x.1.2.2.2.2.2.2.1)).bind fun y6=>some (Sum.inl (y6.1,y6.2,x.1,()))) (some (Sum.inl (y5.1,y5.2,x.1,())))) (cond (x.1.1==5) ((a8X (x.1.2.2.2.2.2.2.2.2.2.2.1,x.1.2.2.2.2.2.2.2.1)).bind fun y7=>some (Sum.inl (y7.1,y7.2,x.1,()))) (some (Sum.inl ([],0,x.1,()))))))))).bind fun z8=>match z8 with |.inl a9=>(cond (a9.2.1 != 0) (some ([],a9.2.1)) ((a8b (a9.1,a9.2.2.1.2.1)).bind fun y11=>some (y11.1,y11.2))) |.inr b10=>some (b10.2.1,b10.1)
def c7M:FSem:=⟨[.v Q43,.v QI],[.o QI,.v QI],b1t⟩
def d8I:Hints:=⟨[(3922,[12,13,.own 6 6 QI,.vp 2 Q43],[Qe 1 [.own 6 6 QI]])],[(15,[Qn [.sv 6 QL,7,.vp 2 Q43],Qr [5,.own 4 6 QI]])],[]⟩
def b0T(x:a8C):Option (LI×Int):=(a8U (x.1,x.2)).bind fun y1=>cond (!y1) (some ([],1)) ((b1t (x.1,x.2)).bind fun y2=>cond (y2.2 != 0) (some ([],1)) (some (y2.1,0)))
def c9r:FSem:=⟨[.v Q43,.v QI],[.o QI,.v QI],b0T⟩
def a8c(x:Int):Option Bool:=cond (decide ((-1073741824)≤x)) (some (decide (x<1073741824))) (some false)
def c5J:FSem:=⟨[.v QI],[.v .bool],a8c⟩
def a3M(s:((List LI)×((List LI)×Z59))):Option (((List LI)×((List LI)×Z59)) ⊕ (((List LI)×Z32) ⊕ (Bool×Unit))):=(fun(a b:Int)(c:LI)(d e:Int)=>cond (decide (e<d)) ((m0k c e).bind fun x5=>(a8c x5).bind fun y6=>cond (!y6) (some (.inr (Sum.inr ((false,()))))) (some (.inl (s.1,s.2.1,a,b,c,d,wrap .i64 (e+1),())))) (some (.inr (Sum.inl (s.1,s.2.1,a,b,()))))) s.2.2.1 s.2.2.2.1 s.2.2.2.2.1 s.2.2.2.2.2.1 s.2.2.2.2.2.2.1
def a3N(s:((List LI)×Z32)):Option (((List LI)×Z32) ⊕ Z0):=(fun(a b:Int)=>cond (decide (b<a)) ((m0k s.2.1 b).bind fun x3=>(m0k s.1 0).bind fun x4=>cond ((x3.length:Int) != (x4.length:Int)) (some (.inr (Sum.inr ((false,()))))) ((y0s a3M (s.1,s.2.1,a,b,x3,(x3.length:Int),0,())).bind fun w7=>match w7 with |.inl a8=>some (.inl (a8.1,a8.2.1,a8.2.2.1,wrap .i64 (a8.2.2.2.1+1),())) |.inr b9=>some (.inr (Sum.inr ((b9.1,())))))) (some (.inr (Sum.inl ())))) s.2.2.1 s.2.2.2.1
def a6n(x:(List LI)):Option Bool:=(show Option ((List LI)×(Bool×Unit))from cond (decide ((x.length:Int)<1)) (some (x,true,())) (cond (decide ((x.length:Int) > 8)) (some (x,true,())) ((m0k x 0).bind fun x1=>some (x,decide ((x1.length:Int) > 4096),())))).bind fun z2=>cond z2.2.1 (some false) ((y0s a3N (z2.1,z2.1,(z2.1.length:Int),0,())).bind fun w10=>match w10 with |.inl a11=>some true |.inr b12=>some b12.1)
def b6L:FSem:=⟨[.v (.list false QL)],[.v .bool],a6n⟩
def d8J:Hints:=⟨[(58,[.sv 0 (.list false QL),.sv 22 (.list false QL),23,24],[Qe 0 [],Qr [.sv 2 .bool]]),(29902,[.sv 0 (.list false QL),.sv 22 (.list false QL),23,24,.sv 35 QL,36,37],[Qe 2 [.sv 0 (.list false QL),.sv 22 (.list false QL),23,24],Qr [.sv 2 .bool]])],[(6,[Qn [.sv 0 (.list false QL),.sv 21 .bool]])],[]⟩
def a5D(s:((List LI)×Z33)):Option (((List LI)×Z33) ⊕ Z1):=cond (decide (s.2.2.1<s.2.1)) ((m0k s.1 s.2.2.1).bind fun x1=>(a0Z x1).bind fun y2=>cond (lim ((a01 s.2.2.2.1)+(a01 (a05 ([[]]:List LI) 0 y2)))) (some (.inl (s.1,s.2.1,wrap .i64 (s.2.2.1+1),a03 s.2.2.2.1 (a05 ([[]]:List LI) 0 y2),()))) none) (some (.inr (s.2.2.2.1,())))
def a6b(x:(List LI)):Option (List LI):=(y0s a5D (x,(x.length:Int),0,([]:(List LI)),())).bind fun w3=>some w3.1
def b4i:FSem:=⟨[.v (.list false QL)],[.o (.list true QI)],a6b⟩
def d8K:Hints:=⟨[(58,[.sv 6 (.list false QL),7,8,.own 3 3 (.list true QI)],[Qe 0 [.own 3 3 (.list true QI)]])],[],[]⟩
def a3k(s:(Int×(Int×(Int×((List LI)×(Z7×Int×Unit)))))):Option ((Int×(Int×(Int×((List LI)×(Z7×Int×Unit))))) ⊕ (Z1 ⊕ (Bool×Z1))):=(fun(a:Int)(b:List LI)(c:Z7)(d:Int)=>cond (decide (a<s.2.1)) (cond ((decide (0≤a))&&(decide (a<((a01 (a04 b (a00 d) []):Nat):Int)))) (cond ((decide (0≤c.2.1))&&(decide (c.2.1<(b.length:Int)))) (cond ((decide (0≤a))&&(decide (a<((a01 (a04 b (a00 c.2.1) []):Nat):Int)))) ((a8c (wrap .i64 ((a04 (a04 b (a00 c.2.1) []) (a00 a) 0)+(wrap .i64 (s.1*(A0o .i64 (wrap .i64 (c.2.2.1*(a04 (a04 b (a00 d) []) (a00 a) 0))) 8)))))).bind fun y1=>cond (!y1) (some (.inr (Sum.inr ((false,b,()))))) (cond ((decide (0≤c.2.1))&&(decide (c.2.1<(b.length:Int)))) (cond ((decide (0≤a))&&(decide (a<((a01 (a04 b (a00 c.2.1) []):Nat):Int)))) (some (.inl (s.1,s.2.1,wrap .i64 (a+1),a05 b (a00 c.2.1) (a05 (a04 b (a00 c.2.1) []) (a00 a) (wrap .i64 ((a04 (a04 b (a00 c.2.1) []) (a00 a) 0)+(wrap .i64 (s.1*(A0o .i64 (wrap .i64 (c.2.2.1*(a04 (a04 b (a00 d) []) (a00 a) 0))) 8)))))),c,((a00 d:Nat):Int),()))) none) none)) none) none) none) (some (.inr (Sum.inl (b,()))))) s.2.2.1 s.2.2.2.1 s.2.2.2.2.1 s.2.2.2.2.2.1
def a6O(x:((List LI)×(Z7×Int))):Option (Bool×(List LI)):=cond ((decide (0≤x.2.1.1))&&(decide (x.2.1.1<(x.1.length:Int)))) ((y0s a3k (x.2.2,((a01 (a04 x.1 (a00 x.2.1.1) []):Nat):Int),0,x.1,x.2.1,((a00 x.2.1.1:Nat):Int),())).bind fun w2=>match w2 with |.inl a3=>some (true,a3.1) |.inr b4=>some (b4.1,b4.2.1)) none
def b4I:FSem:=⟨[.r false (.o (.list true QI)),.v Q13,.v QI],[.v .bool],a6O⟩
def d8L:Hints:=⟨[(26,[2,15,16,.own 0 pinned (.list true QI),.vp 4 Q13,.rfi 14 pinned],[Qe 0 [.own 0 pinned (.list true QI)],Qr [.sv 6 .bool,.own 0 pinned (.list true QI)]])],[],[(4,[.q,.v,.v,.q,.q,.v,.q,.q,.v,.v,.v,.v,.v,.v,.v,.x,.x])]⟩
def a5t(k:Int)(v:Z7)(s:(Z17×Z70)):Option ((Z17×Z70) ⊕ (Ex×Z17×Z70)):=(a6O (s.2.2.2.1,v,(-1))).bind fun y5=>cond (!y5.1) (some (.inr (.ret,s.1,([]:(List LI)),6,y5.2,()))) (some (.inl (s.1,s.2.1,s.2.2.1,y5.2,())))
def b0B(x:Z71):Option ((List LI)×Int):=(show Option ((List LI)×(Z17×Bool×Z16))from(a6n x.1).bind fun y1=>cond (!y1) (some (x.1,x.2,true,([]:(List LI)),0,())) ((a7k (x.2,(x.1.length:Int))).bind fun y2=>some (x.1,x.2,!y2,([]:(List LI)),0,()))).bind fun z3=>cond z3.2.2.1 (some (([]:(List LI)),1)) ((a6b z3.1).bind fun y4=>cond (lim (a01 z3.2.1)) ((l0f a5t z3.2.1 (a01 z3.2.1) (z3.2.1,z3.2.2.2.1,z3.2.2.2.2.1,y4,())).bind fun w6=>match w6 with |.inl a7=>some (a7.2.2.2.1,0) |.inr (.normal,a8)=>some (a8.2.2.2.1,0) |.inr (.exit e9,a8)=>(cond (e9==0) (some (a8.2.2.2.1,0)) none) |.inr (.ret,a8)=>some (a8.2.1,a8.2.2.1)) none)
def b0C:FSem:=⟨[.v (.list false QL),.v (.list false Q13)],[.v (.list false QL),.v QI],b0B⟩
def d8M:Hints:=⟨[],[(6,[Qn [.sv 0 (.list false QL),.sv 1 (.list false Q13),.sv 18 .bool,.box 4 (.list false QL),.box 5 QI,Qp 4 4,Qp 5 5]])],[]⟩
def d2g:Cx:=b4G [(113,b6L),(114,b8k),(115,b4i),(116,b4I)] [(6,.list true (.list true QI))] 3 536870912
def d4g:HintR:=⟨21,Q13,186,242,[4,5,6],[.sv 21 (.list false Q13),.box 1001004 (.list false QL),.box 1001005 QI,.box 1001006 (.list true (.list true QI)),.ptr 4 1001004 [],.ptr 5 1001005 [],.ptr 6 1001006 []]⟩
theorem d4Z(x):z0h d2g d8M d4g Tryz.f107 b0C.ps b0C.rs x=b0C.F x:=by kernel_rfl
def a3T(s:(a9I×Int×c7B)):Option ((a9I×Int×c7B) ⊕ (d1c ⊕ Z55)):=(fun(a:Int)(b:List LI)(c:Z14)(d:a1v)=>cond (decide (a<s.2.1)) ((m0k s.1 a).bind fun x3=>(b0T (x3,d.2.1)).bind fun y4=>cond (y4.2 != 0) (some (.inr (Sum.inr ((1,(0,([]:(List LI)),()),()))))) (cond (lim ((a01 b)+1)) (some (.inl (s.1,s.2.1,wrap .i64 (a+1),a03 b ([y4.1]:List LI),c,d,()))) none)) (some (.inr (Sum.inl (b,c,d,()))))) s.2.2.1 s.2.2.2.1 s.2.2.2.2.1 s.2.2.2.2.2.1
def a2d(x:a1v):Option Z34:=(show Option (Bool×c7A)from(a5W x).bind fun y1=>cond (!y1) (some (true,(0,([]:(List LI)),()),x,())) (some ((x.2.2.2.2.1.length:Int) != x.2.2.1.2.1,(0,([]:(List LI)),()),x,()))).bind fun z2=>cond z2.1 (some ((0,([]:(List LI)),()),1)) (cond ((decide (0≤(z2.2.2.1.2.2.2.2.1.length:Int)))&&(lim (a00 (z2.2.2.1.2.2.2.2.1.length:Int)))) ((y0s a3T (z2.2.2.1.2.2.2.2.1,(z2.2.2.1.2.2.2.2.1.length:Int),0,([]:(List LI)),z2.2.1,z2.2.2.1,())).bind fun w5=>match w5 with |.inl a6=>((b0B (a6.1,a6.2.2.1.2.2.2.1)).bind fun y8=>cond (y8.2 != 0) (some ((0,([]:(List LI)),()),1)) ((a2T (a6.2.2.1.2.2.1.2.2.1,y8.1,())).bind fun y9=>cond (!y9) (some ((0,([]:(List LI)),()),1)) (some ((a6.2.2.1.2.2.1.2.2.1,y8.1,()),0)))) |.inr b7=>some (b7.2.1,b7.1)) none)
def c2Q:FSem:=⟨[.v Q61],[.v Q16,.v QI],a2d⟩
def H50:Hints:=⟨[(122,[.sv 30 (.list false Q43),31,32,.own 4 4 QL,.box 2 Q16,.vp 1 Q61,Qp 2 2],[Qe 0 [.own 4 4 QL,.box 2 Q16,.vp 1 Q61,Qp 2 2],Qr [3,.box 2 Q16,Qp 2 2]])],[(6,[Qn [.sv 23 .bool,.box 2 Q16,.vp 1 Q61,Qp 2 2]])],[]⟩
def a4T(x:a1v):Option Bool:=(a2d x).bind fun y1=>some (y1.2==0)
def c5K:FSem:=⟨[.v Q61],[.v .bool],a4T⟩
def a8M(x:a8C):Option Bool:=(b0T (x.1,x.2)).bind fun y1=>some (y1.2==0)
def c9s:FSem:=⟨[.v Q43,.v QI],[.v .bool],a8M⟩
def a2A(s:Z59):Option (Z59 ⊕ Z36):=(fun(a b:Int)(c:LI)(d e:Int)=>cond (b != 0) (cond (decide (a<32)) ((a1J (b,a)).bind fun y2=>cond (!y2) (some (.inl (wrap .i64 (a+1),b,c,d,e,()))) (some (.inr (a,c,d,e,())))) (some (.inr (a,c,d,e,())))) (some (.inr (a,c,d,e,())))) s.1 s.2.1 s.2.2.1 s.2.2.2.1 s.2.2.2.2.1
def a5a(s:Z36):Option Z84:=(fun(a b:Int)=>cond (decide (b<a)) ((m0k s.2.1 b).bind fun x1=>(y0s a2A (s.1,x1,s.2.1,a,b,())).bind fun w3=>some (.inl (w3.1,w3.2.1,w3.2.2.1,wrap .i64 (w3.2.2.2.1+1),()))) (some (.inr (s.1,())))) s.2.2.1 s.2.2.2.1
def a1q(x:LI):Option Int:=(y0s a5a (0,x,(x.length:Int),0,())).bind fun w4=>some w4.1
def c0I:FSem:=⟨[.v QL],[.v QI],a1q⟩
def d8N:Hints:=⟨[(58,[3,.sv 6 QL,7,8],[Qe 0 [3]]),(7474,[3,5,.sv 6 QL,7,8],[Qe 2 [3,.sv 6 QL,7,8]])],[],[]⟩
def a1U(x:(Z6×Int)):Option Z6:=(show Option Z42 from cond ((a08 x.1.2.1 8)==0) (cond (lim ((a01 x.1.1)+1)) (some (x.2,(a03 x.1.1 [0],x.1.2),())) none) (some (x.2,x.1,()))).bind fun z1=>cond ((decide (0≤(wrap .i64 (a07 z1.2.1.2.1 8))))&&(decide ((wrap .i64 (a07 z1.2.1.2.1 8))<(z1.2.1.1.length:Int)))) (cond (decide ((wrap .i64 (7-(a08 z1.2.1.2.1 8)))<0)) none (cond ((decide (0≤(wrap .i64 (a07 z1.2.1.2.1 8))))&&(decide ((wrap .i64 (a07 z1.2.1.2.1 8))<(z1.2.1.1.length:Int)))) (some (a05 z1.2.1.1 (a00 (wrap .i64 (a07 z1.2.1.2.1 8))) (bits .u8 .or (a04 z1.2.1.1 (a00 (wrap .i64 (a07 z1.2.1.2.1 8))) 0) (A0n .u8 z1.1 (wrap .i64 (7-(a08 z1.2.1.2.1 8))))),wrap .i64 (z1.2.1.2.1+1),z1.2.1.2.2)) none)) none
def b6j:FSem:=⟨[.r false (.b Q10),.v QV],[],a1U⟩
def d8O:Hints:=⟨[],[(1,[Qn [.sv 1 QV,.box pinned Q10,Qp 0 pinned]])],[(2,[.p,.p,.q,.q,.p,.p,.q,.q,.v,.q,.q,.v,.p,.p,.q,.q,.v,.v,.v,.x,.x,.x])]⟩
def a3y(s:Z65):Option (Z65 ⊕ Z24):=cond (decide (s.2.1≥0)) (cond (decide (s.2.1<0)) none ((a1U (s.2.2.1,wrap .u8 (bits .u64 .and (A0o .u64 s.1 s.2.1) 1))).bind fun y2=>some (.inl (s.1,wrap .i64 (s.2.1-1),y2,())))) (some (.inr (s.2.2.1,())))
def a0F(x:(Z6×Int×Int)):Option Z20:=(show Option (Int×Int×Bool×Z24)from cond (decide (x.2.2<0)) (some (x.2.1,x.2.2,true,x.1,())) (cond (decide (x.2.2 > 64)) (some (x.2.1,x.2.2,true,x.1,())) (cond (decide (x.2.2<0)) none (some (x.2.1,x.2.2,(A0o .u64 x.2.1 x.2.2) != 0,x.1,()))))).bind fun z1=>cond z1.2.2.1 (some (1,z1.2.2.2.1)) ((y0s a3y (z1.1,wrap .i64 (z1.2.1-1),z1.2.2.2.1,())).bind fun w3=>some (0,w3.1))
def b6k:FSem:=⟨[.r false (.b Q10),.v QU,.v QI],[.v QI],a0F⟩
def d8P:Hints:=⟨[(58,[.sv 1 QU,7,.box pinned Q10,Qp 0 pinned],[Qe 0 [.box pinned Q10]])],[(6,[Qn [.sv 1 QU,2,.sv 19 .bool,.box pinned Q10,Qp 0 pinned]])],[]⟩
def a2r(x:(Z6×Int×Int)):Option Z6:=cond (decide (x.2.2<0)) none ((a0F (x.1,bits .u64 .and (wrap .u64 x.2.1) (wrap .u64 ((A0n .u64 1 x.2.2)-1)),x.2.2)).bind fun y1=>some y1.2)
def b8n:FSem:=⟨[.r false (.b Q10),.v QI,.v QI],[],a2r⟩
def a5b(s:c7l):Option (c7l ⊕ Z24):=(fun(a b:Int)(c:Z6)=>cond (decide (b<a)) ((m0k s.2.1 b).bind fun x6=>(a2r (c,x6,s.1)).bind fun y7=>some (.inl (s.1,s.2.1,a,wrap .i64 (b+1),y7,()))) (some (.inr (c,())))) s.2.2.1 s.2.2.2.1 s.2.2.2.2.1
def a7o(x:(Z6×a1b)):Option Z6:=(a0F (x.1,wrap .u64 (wrap .i64 ((x.2.2.2.2.2.2.1.length:Int)-1)),5)).bind fun y1=>(a0F (y1.2,wrap .u64 x.2.2.2.2.1,4)).bind fun y2=>(a1q x.2.2.2.2.2.2.1).bind fun y3=>(a0F (y2.2,wrap .u64 y3,5)).bind fun y4=>(y0s a5b (y3,x.2.2.2.2.2.2.1,(x.2.2.2.2.2.2.1.length:Int),0,y4.2,())).bind fun w8=>some w8.1
def c0J:FSem:=⟨[.r false (.b Q10),.v Q43],[],a7o⟩
def d8Q:Hints:=⟨[(254,[4,.sv 27 QL,28,29,.box pinned Q10,Qp 0 pinned],[Qe 0 [.box pinned Q10]])],[],[]⟩
def b1K(s:Z18):Option Z88:=(fun(a b:Int)=>cond (decide (b<a)) ((m0k s.1 b).bind fun x3=>(show Option Z40 from cond (decide (x3<(-1073741824))) (some (s.1,a,b,true,())) (some (s.1,a,b,decide (x3≥1073741824),()))).bind fun z4=>cond z4.2.2.2.1 (some (.inr (Sum.inr ((false,()))))) (some (.inl (z4.1,z4.2.1,wrap .i64 (z4.2.2.1+1),())))) (some (.inr (Sum.inl ())))) s.2.1 s.2.2.1
def a6c(x:Z2):Option Bool:=(show Option (LI×(Bool×Unit))from(a6l (x.1,x.2.1)).bind fun y1=>cond (!y1) (some (x.2.2,true,())) (some (x.2.2,(x.2.2.length:Int) != (wrap .i64 (x.1-x.2.1)),()))).bind fun z2=>cond z2.2.1 (some false) ((y0s b1K (z2.1,(z2.1.length:Int),0,())).bind fun w5=>match w5 with |.inl a6=>some true |.inr b7=>some b7.1)
def c2R:FSem:=⟨[.v QI,.v QI,.v QL],[.v .bool],a6c⟩
def d8R:Hints:=⟨[(58,[.sv 21 QL,22,23],[Qe 0 [],Qr [.sv 6 .bool]])],[(6,[Qn [.sv 2 QL,.sv 20 .bool]]),(3737,[Qn [.sv 21 QL,22,23,.sv 32 .bool]])],[]⟩
def a8d(x:LI):Option Int:=(a1q x).bind fun y1=>some (wrap .i64 (5+(wrap .i64 (y1*(x.length:Int)))))
def c5L:FSem:=⟨[.v QL],[.v QI],a8d⟩
def a2O(x:Int):Option Bool:=cond (decide (0≤x)) (some (decide (x≤25))) (some false)
def b7C:FSem:=⟨[.v QI],[.v .bool],a2O⟩
def a6o(x:Int):Option Bool:=cond (decide ((-1073741824)≤x)) (some (decide (x<1073741824))) (some false)
def c5M:FSem:=⟨[.v QI],[.v .bool],a6o⟩
def a8e(x:Int):Option Int:=(a6o x).bind fun y1=>cond (!y1) (some 0) (cond (decide (x≥0)) (some (wrap .u64 (wrap .i64 (2*x)))) (some (wrap .u64 (wrap .i64 ((wrap .i64 ((-2)*x))-1)))))
def c5N:FSem:=⟨[.v QI],[.v QU],a8e⟩
def b0D(x:(Int×Int)):Option Int:=(show Option Z10 from(a2O x.1).bind fun y1=>cond (!y1) (some (x.1,x.2,true,())) ((a6o x.2).bind fun y2=>some (x.1,x.2,!y2,()))).bind fun z3=>cond z3.2.2.1 (some 0) ((a8e z3.2.1).bind fun y4=>cond (decide (z3.1<0)) none (cond (decide ((wrap .i64 (A0o .u64 y4 z3.1))<32)) (some (wrap .i64 ((wrap .i64 ((wrap .i64 (A0o .u64 y4 z3.1))+1))+z3.1))) (some 65)))
def c5O:FSem:=⟨[.v QI,.v QI],[.v QI],b0D⟩
def d8S:Hints:=⟨[],[(6,[Qn [0,1,.sv 13 .bool]])],[]⟩
def a8n(s:Z59):Option (Z59 ⊕ (Int×Unit)):=(fun(a:LI)(b c:Int)=>cond (decide (c<b)) ((m0k a c).bind fun x1=>(b0D (s.1,x1)).bind fun y2=>some (.inl (s.1,wrap .i64 (s.2.1+y2),a,b,wrap .i64 (c+1),()))) (some (.inr (s.2.1,())))) s.2.2.1 s.2.2.2.1 s.2.2.2.2.1
def a5E(x:(Int×LI)):Option Int:=(y0s a8n (x.1,0,x.2,(x.2.length:Int),0,())).bind fun w3=>some w3.1
def c7N:FSem:=⟨[.v QI,.v QL],[.v QI],a5E⟩
def d8T:Hints:=⟨[(58,[0,5,.sv 8 QL,9,10],[Qe 0 [5]])],[],[]⟩
def a3l(s:c7n):Option (c7n ⊕ (Int×Unit)):=(fun(a:LI)(b c d:Int)(e:LI)(f:Z5)=>cond (decide (d<c)) (cond ((decide (0≤d))&&(decide (d<(e.length:Int)))) (cond ((decide (0≤(a04 e (a00 d) 0)))&&(decide ((a04 e (a00 d) 0)≤(a.length:Int)))) (cond ((decide (0≤(a04 e (a00 d) 0)))&&(decide ((a04 e (a00 d) 0)≤(a.length:Int)))) ((m0k f.2.1 d).bind fun x5=>cond (x5==31) ((a8d (a06 (a00 (a04 e (a00 d) 0)) a)).bind fun y6=>some (.inl (a09 (a00 (a04 e (a00 d) 0)) (a06 (a01 a) a),wrap .i64 (b+(wrap .i64 (5+y6))),c,wrap .i64 (d+1),e,f,()))) ((m0k f.2.1 d).bind fun x7=>(a5E (x7,a06 (a00 (a04 e (a00 d) 0)) a)).bind fun y8=>some (.inl (a09 (a00 (a04 e (a00 d) 0)) (a06 (a01 a) a),wrap .i64 (b+(wrap .i64 (5+y8))),c,wrap .i64 (d+1),e,f,())))) none) none) none) (some (.inr (b,())))) s.1 s.2.1 s.2.2.1 s.2.2.2.1 s.2.2.2.2.1 s.2.2.2.2.2.1
def a6P(x:Z74):Option Int:=(show Option (Int×(Int×(LI×Z47)))from(a7Z (x.1,x.2.1,x.2.2.1)).bind fun y1=>cond (!y1) (some (x.2.1,x.2.2.1,x.2.2.2,true,x.1,())) ((a6c (x.2.1,x.2.2.1,x.2.2.2)).bind fun y2=>some (x.2.1,x.2.2.1,x.2.2.2,!y2,x.1,()))).bind fun z3=>cond z3.2.2.2.1 (some 0) ((a2E (z3.2.2.2.2.1.1,z3.1,z3.2.1)).bind fun y4=>(y0s a3l (z3.2.2.1,4,(y4.length:Int),0,y4,z3.2.2.2.2.1,())).bind fun w9=>some w9.1)
def c4c:FSem:=⟨[.v Q12,.v QI,.v QI,.v QL],[.v QI],a6P⟩
def d8U:Hints:=⟨[(122,[.sv 3 QL,9,30,31,.own 29 1029 QI,.vp 4 Q12],[Qe 0 [9]])],[(6,[Qn [1,2,.sv 3 QL,.sv 24 .bool,.vp 4 Q12]])],[]⟩
def a2U(s:Z65):Option (Z65 ⊕ Z24):=cond (decide (s.2.1<s.1)) ((a1U (s.2.2.1,0)).bind fun y2=>some (.inl (s.1,wrap .i64 (s.2.1+1),y2,()))) (some (.inr (s.2.2.1,())))
def a1W(x:(Z6×Int)):Option Z20:=(show Option (Int×Bool×Z24)from cond (decide (x.2<0)) (some (x.2,true,x.1,())) (some (x.2,decide (x.2 > 4096),x.1,()))).bind fun z1=>cond z1.2.1 (some (1,z1.2.2.1)) ((y0s a2U (z1.1,0,z1.2.2.1,())).bind fun w3=>(a1U (w3.1,1)).bind fun y4=>some (0,y4))
def b4u:FSem:=⟨[.r false (.b Q10),.v QI],[.v QI],a1W⟩
def d8V:Hints:=⟨[(58,[11,12,.box pinned Q10,Qp 0 pinned],[Qe 0 [.box pinned Q10,Qp 0 pinned]])],[(6,[Qn [1,.sv 10 .bool,.box pinned Q10,Qp 0 pinned]])],[]⟩
def a8o(s:(Int×(LI×Z99))):Option ((Int×(LI×Z99)) ⊕ ((Int×(LI×Z24)) ⊕ Z42)):=(fun(a:LI)(b c:Int)(d:Z6)=>cond (decide (c<b)) ((m0k a c).bind fun x2=>(a6o x2).bind fun y3=>cond (!y3) (some (.inr (Sum.inr ((1,d,()))))) (some (.inl (s.1,s.2.1,a,b,wrap .i64 (c+1),d,())))) (some (.inr (Sum.inl (s.1,s.2.1,d,()))))) s.2.2.1 s.2.2.2.1 s.2.2.2.2.1 s.2.2.2.2.2.1
def a6d(s:c7l):Option (c7l ⊕ Z24):=(fun(a:Int)(b:LI)(c d:Int)(e:Z6)=>cond (decide (d<c)) ((m0k b d).bind fun x7=>(a8e x7).bind fun y8=>cond (decide (a<0)) none (cond (decide ((A0o .u64 y8 a)<32)) ((a1W (e,wrap .i64 (A0o .u64 y8 a))).bind fun y9=>cond (decide (a<0)) none ((a0F (y9.2,wrap .u64 (y8-(A0n .u64 (A0o .u64 y8 a) a)),a)).bind fun y10=>some (.inl (a,b,c,wrap .i64 (d+1),y10.2,())))) ((a1W (e,32)).bind fun y11=>(a0F (y11.2,y8,32)).bind fun y12=>some (.inl (a,b,c,wrap .i64 (d+1),y12.2,()))))) (some (.inr (e,())))) s.1 s.2.1 s.2.2.1 s.2.2.2.1 s.2.2.2.2.1
def b1u(x:(Z6×(Int×LI))):Option Z20:=(a2O x.2.1).bind fun y1=>cond (!y1) (some (1,x.1)) ((y0s a8o (x.2.1,x.2.2,x.2.2,(x.2.2.length:Int),0,x.1,())).bind fun w4=>match w4 with |.inl a5=>((y0s a6d (a5.1,a5.2.1,(a5.2.1.length:Int),0,a5.2.2.1,())).bind fun w13=>some (0,w13.1)) |.inr b6=>some (b6.1,b6.2.1))
def c7O:FSem:=⟨[.r false (.b Q10),.v QI,.v QL],[.v QI],b1u⟩
def d8W:Hints:=⟨[(58,[1,.sv 2 QL,.sv 16 QL,17,18,.box pinned Q10,Qp 0 pinned],[Qe 0 [1,.sv 2 QL,.box pinned Q10,Qp 0 pinned],Qr [6,.box pinned Q10]]),(122,[1,.sv 26 QL,27,28,.box pinned Q10,Qp 0 pinned],[Qe 2 [.box pinned Q10]])],[],[]⟩
def a7p(s:(LI×(Int×Int×Int×c3S))):Option ((LI×(Int×Int×Int×c3S)) ⊕ c3S):=(fun(a b c:Int)(d:LI)(e f:Int)(g:LI)(h:Z6)(i:Z5)=>cond (decide (f<e)) ((m0k d f).bind fun x11=>cond (decide (a<0)) none ((a0F (h,bits .u64 .and (wrap .u64 x11) (wrap .u64 ((A0n .u64 1 a)-1)),a)).bind fun y12=>some (.inl (s.1,a,b,c,d,e,wrap .i64 (f+1),g,y12.2,i,())))) (some (.inr (s.1,b,c,g,h,i,())))) s.2.1 s.2.2.1 s.2.2.2.1 s.2.2.2.2.1 s.2.2.2.2.2.1 s.2.2.2.2.2.2.1 s.2.2.2.2.2.2.2.1 s.2.2.2.2.2.2.2.2.1 s.2.2.2.2.2.2.2.2.2.1
def a3O(s:c3S):Option (c3S ⊕ Z24):=(fun(a:LI)(b c:Int)(d:LI)(e:Z6)(f:Z5)=>cond (decide (c<b)) (cond ((decide (0≤c))&&(decide (c<(d.length:Int)))) (cond ((decide (0≤(a04 d (a00 c) 0)))&&(decide ((a04 d (a00 c) 0)≤(a.length:Int)))) (cond ((decide (0≤(a04 d (a00 c) 0)))&&(decide ((a04 d (a00 c) 0)≤(a.length:Int)))) ((m0k f.2.1 c).bind fun x4=>(a0F (e,wrap .u64 x4,5)).bind fun y5=>(m0k f.2.1 c).bind fun x6=>cond (x6 != 31) ((m0k f.2.1 c).bind fun x7=>(b1u (y5.2,x7,a06 (a00 (a04 d (a00 c) 0)) a)).bind fun y8=>some (.inl (a09 (a00 (a04 d (a00 c) 0)) (a06 (a01 a) a),b,wrap .i64 (c+1),d,y8.2,f,()))) ((a1q (a06 (a00 (a04 d (a00 c) 0)) a)).bind fun y9=>(a0F (y5.2,wrap .u64 y9,5)).bind fun y10=>(y0s a7p (a09 (a00 (a04 d (a00 c) 0)) (a06 (a01 a) a),y9,b,c,a06 (a00 (a04 d (a00 c) 0)) a,((a01 (a06 (a00 (a04 d (a00 c) 0)) a):Nat):Int),0,d,y10.2,f,())).bind fun w13=>some (.inl (w13.1,w13.2.1,wrap .i64 (w13.2.2.1+1),w13.2.2.2.1,w13.2.2.2.2.1,w13.2.2.2.2.2.1,())))) none) none) none) (some (.inr (e,())))) s.1 s.2.1 s.2.2.1 s.2.2.2.1 s.2.2.2.2.1 s.2.2.2.2.2.1
def b0E(x:(Z6×Z74)):Option Z20:=(a6P (x.2.1,x.2.2.1,x.2.2.2.1,x.2.2.2.2)).bind fun y1=>cond (y1==0) (some (1,x.1)) ((a0F (x.1,wrap .u64 x.2.1.1,4)).bind fun y2=>(a2E (x.2.1.1,x.2.2.1,x.2.2.2.1)).bind fun y3=>(y0s a3O (x.2.2.2.2,(y3.length:Int),0,y3,y2.2,x.2.1,())).bind fun w14=>some (0,w14.1))
def c5P:FSem:=⟨[.r false (.b Q10),.v Q12,.v QI,.v QI,.v QL],[.v QI],b0E⟩
def d8X:Hints:=⟨[(122,[.sv 4 QL,33,34,.own 32 1032 QI,.box pinned Q10,Qp 0 pinned,.vp 6 Q12],[Qe 0 [.box pinned Q10]]),(2005502,[.sv 4 QL,14,33,34,.sv 73 QL,74,75,.own 32 1032 QI,.box pinned Q10,Qp 0 pinned,.vp 6 Q12],[Qe 2 [.sv 4 QL,33,34,.own 32 1032 QI,.box pinned Q10,Qp 0 pinned,.vp 6 Q12]])],[],[]⟩
def a8Z(s:(Int×(Int×(LI×c7v)))):Option ((Int×(Int×(LI×c7v))) ⊕ b2S):=(fun(a:LI)(b:Int)(c:Z6)(d:a1b)=>cond (decide (b<3)) ((m0k a b).bind fun x8=>(a2r (c,x8,8)).bind fun y9=>some (.inl (s.1,s.2.1,a,wrap .i64 (b+1),y9,d,()))) (some (.inr (s.1,s.2.1,c,d,())))) s.2.2.1 s.2.2.2.1 s.2.2.2.2.1 s.2.2.2.2.2.1
def a9a(s:(Int×Int×Z4×b2S)):Option ((Int×Int×Z4×b2S) ⊕ b2S):=(fun(a:Z4)(b c:Int)(d:Z6)(e:a1b)=>cond (decide (c<b)) ((m0k a c).bind fun x18=>(a0F (d,wrap .u64 (wrap .i64 (x18.1-1)),5)).bind fun y19=>(a0F (y19.2,wrap .u64 x18.2.1,4)).bind fun y20=>some (.inl (s.1,s.2.1,a,b,wrap .i64 (c+1),y20.2,e,()))) (some (.inr (s.1,s.2.1,d,e,())))) s.2.2.1 s.2.2.2.1 s.2.2.2.2.1 s.2.2.2.2.2.1 s.2.2.2.2.2.2.1
def a9b(s:(Int×(Int×(LI×b2S)))):Option ((Int×(Int×(LI×b2S))) ⊕ c7v):=(fun(a:LI)(b c:Int)(d:Z6)(e:a1b)=>cond (decide (c<b)) ((m0k a c).bind fun x23=>(a2r (d,x23,s.2.1)).bind fun y24=>some (.inl (s.1,s.2.1,a,b,wrap .i64 (c+1),y24,e,()))) (some (.inr (s.1,d,e,())))) s.2.2.1 s.2.2.2.1 s.2.2.2.2.1 s.2.2.2.2.2.1 s.2.2.2.2.2.2.1
def a8N(x:(Z6×a8C)):Option Z20:=(a8M (x.2.1,x.2.2)).bind fun y1=>cond (!y1) (some (1,x.1)) ((a1q x.2.1.2.2.2.2.2.2.2.2.1).bind fun y2=>(a0F (x.1,wrap .u64 x.2.1.1,3)).bind fun y3=>(a0F (y3.2,wrap .u64 x.2.1.2.1,5)).bind fun y4=>(a0F (y4.2,wrap .u64 y2,5)).bind fun y5=>(show Option b2S from(show Option (b2S ⊕ (b2S ⊕ b2S))from cond (x.2.1.1==2) ((a0F (y5.2,wrap .u64 x.2.1.2.2.1,3)).bind fun y6=>some (Sum.inr (Sum.inl (x.2.2,y2,y6.2,x.2.1,())))) (cond (x.2.1.1==4) ((a0F (y5.2,wrap .u64 (wrap .i64 (x.2.1.2.2.2.2.1-1)),10)).bind fun y7=>(y0s a8Z (x.2.2,y2,x.2.1.2.2.2.2.2.2.1,0,y7.2,x.2.1,())).bind fun w10=>some (Sum.inl (w10.1,w10.2.1,w10.2.2.1,w10.2.2.2.1,()))) (cond (x.2.1.1==3) (some (Sum.inl (x.2.2,y2,y5.2,x.2.1,()))) (cond (x.2.1.1==5) (some (Sum.inr (Sum.inr ((x.2.2,y2,y5.2,x.2.1,()))))) (some (Sum.inr (Sum.inl (x.2.2,y2,y5.2,x.2.1,())))))))).bind fun z11=>match z11 with |.inl a12=>((a7o (a12.2.2.1,a12.2.2.2.1)).bind fun y14=>some (a12.1,a12.2.1,y14,a12.2.2.2.1,())) |.inr b13=>(match b13 with |.inl a15=>some (a15.1,a15.2.1,a15.2.2.1,a15.2.2.2.1,()) |.inr b16=>((a0F (b16.2.2.1,wrap .u64 (b16.2.2.2.1.2.2.2.2.2.2.2.1.length:Int),2)).bind fun y17=>(y0s a9a (b16.1,b16.2.1,b16.2.2.2.1.2.2.2.2.2.2.2.1,(b16.2.2.2.1.2.2.2.2.2.2.2.1.length:Int),0,y17.2,b16.2.2.2.1,())).bind fun w21=>some (w21.1,w21.2.1,w21.2.2.1,w21.2.2.2.1,())))).bind fun z22=>(y0s a9b (z22.1,z22.2.1,z22.2.2.2.1.2.2.2.2.2.2.2.2.1,(z22.2.2.2.1.2.2.2.2.2.2.2.2.1.length:Int),0,z22.2.2.1,z22.2.2.2.1,())).bind fun w25=>(a5p w25.2.2.1.1).bind fun y26=>cond (!y26) (some (0,w25.2.1)) ((b0E (w25.2.1,w25.2.2.1.2.2.2.2.2.2.2.2.2.1,w25.1,(w25.2.2.1.2.2.2.2.2.2.2.2.1.length:Int),w25.2.2.1.2.2.2.2.2.2.2.2.2.2.1)).bind fun y27=>some (y27.1,y27.2)))
def c9t:FSem:=⟨[.r false (.b Q10),.v Q43,.v QI],[.v QI],a8N⟩
def H62:Hints:=⟨[(2042,[2,7,.sv 94 QL,95,96,.box pinned Q10,Qp 0 pinned,.vp 4 Q43],[Qe 9 [2,.box pinned Q10,Qp 0 pinned,.vp 4 Q43]]),(32598,[2,7,.sv 75 (.list false Q4),76,77,.box pinned Q10,Qp 0 pinned,.vp 4 Q43],[Qe 7 [2,7,.box pinned Q10,Qp 0 pinned,.vp 4 Q43]]),(260622,[2,7,.sv 57 (.arr 3 QI),58,.box pinned Q10,Qp 0 pinned,.vp 4 Q43],[Qe 5 [2,7,.box pinned Q10,Qp 0 pinned,.vp 4 Q43]])],[(127,[Qn [2,7,.box pinned Q10,Qp 0 pinned,.vp 4 Q43]]),(4072,[Qn [2,7,.box pinned Q10,Qp 0 pinned,.vp 4 Q43],Qe 0 [2,7,.box pinned Q10,Qp 0 pinned,.vp 4 Q43],Qe 4 [2,7,.box pinned Q10,Qp 0 pinned,.vp 4 Q43]])],[]⟩
def a2V(s:Z24):Option (Z24 ⊕ Z24):=cond ((a08 s.1.2.1 8) != 0) ((a1U (s.1,0)).bind fun y2=>some (.inl (y2,()))) (some (.inr (s.1,())))
def a4f(x:Z6):Option Z6:=(y0s a2V (x,())).bind fun w3=>some w3.1
def b4v:FSem:=⟨[.r false (.b Q10)],[],a4f⟩
def H63:Hints:=⟨[(2,[.box pinned Q10,Qp 0 pinned],[Qe 0 [.box pinned Q10]])],[],[]⟩
def a4g(x:Z6):Option (LI×Z6):=cond (lim (a01 x.1)) (some (x.1,x)) none
def b4w:FSem:=⟨[.r false (.b Q10)],[.o QV],a4g⟩
def a7q(s:Z73):Option (Z73 ⊕ Z73):=(fun(a b c:Int)(d:LI)=>cond (decide (a≥128)) (cond (lim ((a01 d)+1)) (some (.inl (wrap .u64 (a07 a 128),s.2.1,b,c,a03 d [wrap .u8 ((wrap .u8 (a08 a 128))+128)],()))) none) (some (.inr (a,s.2.1,b,c,d,())))) s.1 s.2.2.1 s.2.2.2.1 s.2.2.2.2.1
def a7r(s:Z49):Option (Z49 ⊕ (LI×Unit)):=cond (decide (s.2.2.1<s.2.1)) ((m0k s.1 s.2.2.1).bind fun x1=>(y0s a7q (x1,s.1,s.2.1,s.2.2.1,s.2.2.2.1,())).bind fun w2=>cond (lim ((a01 w2.2.2.2.2.1)+1)) (some (.inl (w2.2.1,w2.2.2.1,wrap .i64 (w2.2.2.2.1+1),a03 w2.2.2.2.2.1 [wrap .u8 w2.1],()))) none) (some (.inr (s.2.2.2.1,())))
def a8f(x:LI):Option LI:=(y0s a7r (x,(x.length:Int),0,[],())).bind fun w3=>some w3.1
def c5Q:FSem:=⟨[.v (.list false QU)],[.o QV],a8f⟩
def H88:Hints:=⟨[(58,[.sv 6 (.list false QU),7,8,.own 3 3 QV],[Qe 0 [.own 3 3 QV]]),(14948,[.sv 5 QU,.sv 6 (.list false QU),7,8,.own 3 3 QV],[Qe 2 [.sv 5 QU,.sv 6 (.list false QU),7,8,.own 3 3 QV]])],[],[]⟩
def b0F(x:Int):Option Int:=cond (decide (x≥0)) (some (wrap .u64 (2*(wrap .u64 x)))) (some (wrap .u64 ((wrap .u64 (2*(wrap .u64 (wrap .i64 (0-(wrap .i64 (x+1)))))))+1)))
def c5R:FSem:=⟨[.v QI],[.v QU],b0F⟩
def a9c(s:Z62):Option (Z62 ⊕ Z36):=(fun(a:Int)(b:LI)(c d e:Int)=>cond (decide (e<8)) (cond ((A0o .u8 a 7)==1) (some (.inl (bits .u8 .xor (A0n .u8 a 1) 7,b,c,d,wrap .i64 (e+1),()))) (some (.inl (A0n .u8 a 1,b,c,d,wrap .i64 (e+1),())))) (some (.inr (a,b,c,d,())))) s.1 s.2.1 s.2.2.1 s.2.2.2.1 s.2.2.2.2.1
def a6w(s:Z36):Option Z84:=(fun(a b:Int)=>cond (decide (b<a)) ((m0k s.2.1 b).bind fun x1=>(y0s a9c (bits .u8 .xor s.1 x1,s.2.1,a,b,0,())).bind fun w2=>some (.inl (w2.1,w2.2.1,w2.2.2.1,wrap .i64 (w2.2.2.2.1+1),()))) (some (.inr (s.1,())))) s.2.2.1 s.2.2.2.1
def a6Q(x:LI):Option Int:=(y0s a6w (0,x,(x.length:Int),0,())).bind fun w3=>some w3.1
def c4d:FSem:=⟨[.v QB],[.v QV],a6Q⟩
def d8Y:Hints:=⟨[(58,[.sv 3 QV,.sv 7 QB,8,9],[Qe 0 [.sv 3 QV]]),(29902,[.sv 3 QV,.sv 7 QB,8,9,16],[Qe 2 [.sv 3 QV,.sv 7 QB,8,9]])],[],[]⟩
def a4z(s:(Int×Z17×Z19)):Option ((Int×Z17×Z19) ⊕ Z5):=(fun(a b:Int)(c:LI)=>cond (decide (b<a)) ((m0k s.2.1 b).bind fun x1=>(b0F x1.2.2.1).bind fun y2=>cond (lim ((a01 c)+3)) (some (.inl (s.1,s.2.1,a,wrap .i64 (b+1),a03 c [wrap .u64 x1.1,wrap .u64 x1.2.1,y2],()))) none) (some (.inr (s.1,c,())))) s.2.2.1 s.2.2.2.1 s.2.2.2.2.1
def a6x(x:c7y):Option LI:=(y0s a4z (x.2,x.1.2.2.2.1,(x.1.2.2.2.1.length:Int),0,([wrap .u64 x.1.1,wrap .u64 x.1.2.1,wrap .u64 x.1.2.2.1.1,wrap .u64 x.1.2.2.1.2.1,wrap .u64 x.1.2.2.1.2.2.1,wrap .u64 (x.1.2.2.2.1.length:Int)]:List Int),())).bind fun w3=>cond (lim ((a01 w3.2.1)+1)) ((a8f (a03 w3.2.1 [wrap .u64 w3.1])).bind fun y4=>cond (lim (2+(a01 y4))) ((a6Q (a03 [245,75] y4)).bind fun y5=>cond (lim ((a01 (a03 [245,75] y4))+1)) (some (a03 (a03 [245,75] y4) [y5])) none) none) none
def b8o:FSem:=⟨[.v Q61,.v QI],[.o QV],a6x⟩
def H65:Hints:=⟨[(58,[1,.sv 33 (.list false Q13),34,35,.own 5 5 QU],[Qe 0 [1,.own 5 5 QU]])],[],[(5,[.q,.q,.q,.v,.q,.q,.v,.q,.q,.v,.q,.x,.x])]⟩
def a4r(x:Int):Option Int:=some (v0s (v0r x 0) 8)
def c2S:FSem:=⟨[.v QI],[.v QI],a4r⟩
def a1F(s:Z38):Option (Z38 ⊕ (LI×Unit)):=cond (decide (s.2.2.1<s.2.1)) (cond (lim ((a01 s.2.2.2.1)+1)) (some (.inl (wrap .u64 (a07 s.1 256),s.2.1,wrap .i64 (s.2.2.1+1),a03 s.2.2.2.1 [wrap .u8 (a08 s.1 256)],()))) none) (some (.inr (s.2.2.2.1,())))
def a4s(x:(Int×Int)):Option LI:=(a4r x.2).bind fun y1=>(y0s a1F (x.1,y1,0,[],())).bind fun w2=>some w2.1
def c2T:FSem:=⟨[.v QU,.v QI],[.o QV],a4s⟩
def d8Z:Hints:=⟨[(58,[.sv 0 QU,7,8,.own 5 5 QV],[Qe 0 [.own 5 5 QV]])],[],[]⟩
def a1D(x:LI):Option LI:=cond (decide (a01 x<2147483648)) (some (List.reverse x)) none
def a9B:FSem:=⟨[.r false (.o QV)],[],a1D⟩
def a3D(x:(Int×Int)):Option LI:=(a4s (x.1,x.2)).bind fun y1=>(a1D y1).bind fun y2=>some y2
def c5S:FSem:=⟨[.v QU,.v QI],[.o QV],a3D⟩
def a7N(s:Z62):Option (Z62 ⊕ Z36):=(fun(a:Int)(b:LI)(c d e:Int)=>cond (decide (e<8)) (cond ((A0o .u16 a 15)==1) (some (.inl (bits .u16 .xor (A0n .u16 a 1) 32773,b,c,d,wrap .i64 (e+1),()))) (some (.inl (A0n .u16 a 1,b,c,d,wrap .i64 (e+1),())))) (some (.inr (a,b,c,d,())))) s.1 s.2.1 s.2.2.1 s.2.2.2.1 s.2.2.2.2.1
def a5c(s:Z36):Option Z84:=(fun(a b:Int)=>cond (decide (b<a)) ((m0k s.2.1 b).bind fun x1=>(y0s a7N (bits .u16 .xor s.1 (A0n .u16 (wrap .u16 x1) 8),s.2.1,a,b,0,())).bind fun w2=>some (.inl (w2.1,w2.2.1,w2.2.2.1,wrap .i64 (w2.2.2.2.1+1),()))) (some (.inr (s.1,())))) s.2.2.1 s.2.2.2.1
def a5u(x:LI):Option Int:=(y0s a5c (0,x,(x.length:Int),0,())).bind fun w3=>some w3.1
def c0K:FSem:=⟨[.v QB],[.v (.int .u16)],a5u⟩
def H67:Hints:=⟨[(58,[.sv 3 (.int .u16),.sv 7 QB,8,9],[Qe 0 [.sv 3 (.int .u16)]]),(29902,[.sv 3 (.int .u16),.sv 7 QB,8,9,18],[Qe 2 [.sv 3 (.int .u16),.sv 7 QB,8,9]])],[],[]⟩
def a7s(s:(a9I×Int×Int×Z6×a8S)):Option ((a9I×Int×Int×Z6×a8S) ⊕ ((Z6×a8S) ⊕ Z5)):=(fun(a:Int)(b:Z6)(c:a1v)=>cond (decide (a<s.2.1)) ((m0k s.1 a).bind fun x2=>(a8N (b,x2,c.2.1)).bind fun y3=>cond (y3.1 != 0) (some (.inr (Sum.inr ((y3.1,[],()))))) (some (.inl (s.1,s.2.1,wrap .i64 (a+1),y3.2,c,())))) (some (.inr (Sum.inl (b,c,()))))) s.2.2.1 s.2.2.2.1 s.2.2.2.2.1
def a2p(x:a1v):Option (LI×Int):=(a4T x).bind fun y1=>cond (!y1) (some ([],1)) ((y0s a7s (x.2.2.2.2.1,(x.2.2.2.2.1.length:Int),0,([],0,()),x,())).bind fun w4=>match w4 with |.inl a5=>((a4f a5.1).bind fun y7=>(a4g y7).bind fun y8=>(a6x (a5.2.1,(y8.1.length:Int))).bind fun y9=>cond (lim ((a01 y9)+(a01 y8.1))) ((a5u (a03 y9 y8.1)).bind fun y10=>(a3D (wrap .u64 y10,2)).bind fun y11=>cond (lim ((a01 (a03 y9 y8.1))+(a01 y11))) (some (a03 (a03 y9 y8.1) y11,0)) none) none) |.inr b6=>some (b6.2.1,b6.1))
def c5T:FSem:=⟨[.v Q61],[.o QV,.v QI],a2p⟩
def H19:Hints:=⟨[(122,[.sv 14 (.list false Q43),15,16,.box 4 Q10,.vp 1 Q61,Qp 4 4],[Qe 0 [.box 4 Q10,.vp 1 Q61,Qp 4 4],Qr [3,.own 2 2 QV]])],[],[]⟩
def a5d(x:(Int×Int)):Option (Int×Int):=some (wrap .u64 ((wrap .u64 ((wrap .u64 ((A0o .u64 x.1 32)*(A0o .u64 x.2 32)))+(A0o .u64 (wrap .u64 ((wrap .u64 ((A0o .u64 x.1 32)*(bits .u64 .and x.2 4294967295)))+(A0o .u64 (wrap .u64 ((bits .u64 .and x.1 4294967295)*(bits .u64 .and x.2 4294967295))) 32))) 32)))+(A0o .u64 (wrap .u64 ((bits .u64 .and (wrap .u64 ((wrap .u64 ((A0o .u64 x.1 32)*(bits .u64 .and x.2 4294967295)))+(A0o .u64 (wrap .u64 ((bits .u64 .and x.1 4294967295)*(bits .u64 .and x.2 4294967295))) 32))) 4294967295)+(wrap .u64 ((bits .u64 .and x.1 4294967295)*(A0o .u64 x.2 32))))) 32)),wrap .u64 (x.1*x.2))
def b6l:FSem:=⟨[.v QU,.v QU],[.v QU,.v QU],a5d⟩
def a7O(x:(Int×Int×Int)):Option (Int×Int):=cond (decide (x.2.2.toNat≤1)) (some ((((x.1.toNat+x.2.1.toNat+x.2.2.toNat)%18446744073709551616:Nat):Int),(((x.1.toNat+x.2.1.toNat+x.2.2.toNat) / 18446744073709551616:Nat):Int))) none
def b6m:FSem:=⟨[.v QU,.v QU,.v QU],[.v QU,.v QU],a7O⟩
def b1p(x:Int):Option Int:=(show Option (Int×Int×Unit)from cond (decide (x≥4294967296)) (some (A0o .u64 x 32,32,())) (some (x,0,()))).bind fun z1=>(show Option (Int×Int×Unit)from cond (decide (z1.1≥65536)) (some (A0o .u64 z1.1 16,wrap .i64 (z1.2.1+16),())) (some (z1.1,z1.2.1,()))).bind fun z2=>(show Option (Int×Int×Unit)from cond (decide (z2.1≥256)) (some (A0o .u64 z2.1 8,wrap .i64 (z2.2.1+8),())) (some (z2.1,z2.2.1,()))).bind fun z3=>(m0k [0,1,2,2,3,3,3,3,4,4,4,4,4,4,4,4,5,5,5,5,5,5,5,5,5,5,5,5,5,5,5,5,6,6,6,6,6,6,6,6,6,6,6,6,6,6,6,6,6,6,6,6,6,6,6,6,6,6,6,6,6,6,6,6,7,7,7,7,7,7,7,7,7,7,7,7,7,7,7,7,7,7,7,7,7,7,7,7,7,7,7,7,7,7,7,7,7,7,7,7,7,7,7,7,7,7,7,7,7,7,7,7,7,7,7,7,7,7,7,7,7,7,7,7,7,7,7,7,8,8,8,8,8,8,8,8,8,8,8,8,8,8,8,8,8,8,8,8,8,8,8,8,8,8,8,8,8,8,8,8,8,8,8,8,8,8,8,8,8,8,8,8,8,8,8,8,8,8,8,8,8,8,8,8,8,8,8,8,8,8,8,8,8,8,8,8,8,8,8,8,8,8,8,8,8,8,8,8,8,8,8,8,8,8,8,8,8,8,8,8,8,8,8,8,8,8,8,8,8,8,8,8,8,8,8,8,8,8,8,8,8,8,8,8,8,8,8,8,8,8,8,8,8,8,8,8] (wrap .u8 z3.1)).bind fun x4=>some (wrap .i64 (z3.2.1+(wrap .i64 x4)))
def b6n:FSem:=⟨[.v QU],[.v QI],b1p⟩
def d9a:Hints:=⟨[],[(3,[Qn [.sv 0 QU,2]]),(7,[Qn [.sv 0 QU,2]]),(15,[Qn [.sv 0 QU,2]])],[]⟩
def a3s(x:Int):Option Int:=(b1p x).bind fun y1=>some (wrap .i64 (64-y1))
def b1b:FSem:=⟨[.v QU],[.v QI],a3s⟩
def a1O(s:c0A):Option (c0A ⊕ d0Y):=(show Option (c0A ⊕ d0Y)from cond (decide (s.2.2.2.2.2.2.2.1≥4294967296)) (some (Sum.inl (s.1,s.2.1,s.2.2.1,s.2.2.2.1,s.2.2.2.2.1,s.2.2.2.2.2.1,s.2.2.2.2.2.2.1,s.2.2.2.2.2.2.2.1,s.2.2.2.2.2.2.2.2.1,()))) (cond (decide ((wrap .u64 (s.2.2.2.2.2.2.2.1*s.2.2.2.1)) > (wrap .u64 ((wrap .u64 (4294967296*s.2.2.2.2.2.2.2.2.1))+s.2.2.2.2.2.1)))) (some (Sum.inl (s.1,s.2.1,s.2.2.1,s.2.2.2.1,s.2.2.2.2.1,s.2.2.2.2.2.1,s.2.2.2.2.2.2.1,s.2.2.2.2.2.2.2.1,s.2.2.2.2.2.2.2.2.1,()))) (some (Sum.inr ((s.1,s.2.1,s.2.2.1,s.2.2.2.1,s.2.2.2.2.1,s.2.2.2.2.2.1,s.2.2.2.2.2.2.1,s.2.2.2.2.2.2.2.1,())))))).bind fun z2=>match z2 with |.inl a3=>(cond (decide ((wrap .u64 (a3.2.2.2.2.2.2.2.2.1+a3.2.2.1))≥4294967296)) (some (.inr (a3.1,a3.2.1,a3.2.2.1,a3.2.2.2.1,a3.2.2.2.2.1,a3.2.2.2.2.2.1,a3.2.2.2.2.2.2.1,wrap .u64 (a3.2.2.2.2.2.2.2.1-1),()))) (some (.inl (a3.1,a3.2.1,a3.2.2.1,a3.2.2.2.1,a3.2.2.2.2.1,a3.2.2.2.2.2.1,a3.2.2.2.2.2.2.1,wrap .u64 (a3.2.2.2.2.2.2.2.1-1),wrap .u64 (a3.2.2.2.2.2.2.2.2.1+a3.2.2.1),())))) |.inr b4=>some (.inr (b4.1,b4.2.1,b4.2.2.1,b4.2.2.2.1,b4.2.2.2.2.1,b4.2.2.2.2.2.1,b4.2.2.2.2.2.2.1,b4.2.2.2.2.2.2.2.1,()))
def a1P(s:c0A):Option (c0A ⊕ Z66):=(show Option (c0A ⊕ Z66)from cond (decide (s.2.2.2.2.2.2.2.2.1≥4294967296)) (some (Sum.inl (s.1,s.2.1,s.2.2.1,s.2.2.2.1,s.2.2.2.2.1,s.2.2.2.2.2.1,s.2.2.2.2.2.2.1,s.2.2.2.2.2.2.2.1,s.2.2.2.2.2.2.2.2.1,()))) (cond (decide ((wrap .u64 (s.2.2.2.2.2.2.2.2.1*s.2.2.2.1)) > (wrap .u64 ((wrap .u64 (4294967296*s.2.2.2.2.2.2.1))+s.2.2.2.2.1)))) (some (Sum.inl (s.1,s.2.1,s.2.2.1,s.2.2.2.1,s.2.2.2.2.1,s.2.2.2.2.2.1,s.2.2.2.2.2.2.1,s.2.2.2.2.2.2.2.1,s.2.2.2.2.2.2.2.2.1,()))) (some (Sum.inr ((s.1,s.2.1,s.2.2.2.2.1,s.2.2.2.2.2.1,s.2.2.2.2.2.2.2.1,s.2.2.2.2.2.2.2.2.1,())))))).bind fun z6=>match z6 with |.inl a7=>(cond (decide ((wrap .u64 (a7.2.2.2.2.2.2.1+a7.2.2.1))≥4294967296)) (some (.inr (a7.1,a7.2.1,a7.2.2.2.2.1,a7.2.2.2.2.2.1,a7.2.2.2.2.2.2.2.1,wrap .u64 (a7.2.2.2.2.2.2.2.2.1-1),()))) (some (.inl (a7.1,a7.2.1,a7.2.2.1,a7.2.2.2.1,a7.2.2.2.2.1,a7.2.2.2.2.2.1,wrap .u64 (a7.2.2.2.2.2.2.1+a7.2.2.1),a7.2.2.2.2.2.2.2.1,wrap .u64 (a7.2.2.2.2.2.2.2.2.1-1),())))) |.inr b8=>some (.inr (b8.1,b8.2.1,b8.2.2.1,b8.2.2.2.1,b8.2.2.2.2.1,b8.2.2.2.2.2.1,()))
def a2B(x:(Int×Int×Int)):Option (Int×Int):=cond (x.2.2==0) none (cond (decide (x.2.2≤x.1)) none (cond (x.1==0) (cond (x.2.2==0) none (cond (x.2.2==0) none (some (wrap .u64 (a07 x.2.1 x.2.2),a08 x.2.1 x.2.2)))) ((a3s x.2.2).bind fun y1=>cond (decide ((wrap .u64 y1)<0)) none (cond (decide ((wrap .u64 y1)<0)) none (cond (decide ((wrap .u64 (64-(wrap .u64 y1)))<0)) none (cond (decide ((wrap .u64 y1)<0)) none (cond ((A0o .u64 (A0n .u64 x.2.2 (wrap .u64 y1)) 32)==0) none ((y0s a1O (A0n .u64 x.2.2 (wrap .u64 y1),wrap .u64 y1,A0o .u64 (A0n .u64 x.2.2 (wrap .u64 y1)) 32,bits .u64 .and (A0n .u64 x.2.2 (wrap .u64 y1)) 4294967295,bits .u64 .or (A0n .u64 x.1 (wrap .u64 y1)) (A0o .u64 x.2.1 (wrap .u64 (64-(wrap .u64 y1)))),A0o .u64 (A0n .u64 x.2.1 (wrap .u64 y1)) 32,bits .u64 .and (A0n .u64 x.2.1 (wrap .u64 y1)) 4294967295,wrap .u64 (a07 (bits .u64 .or (A0n .u64 x.1 (wrap .u64 y1)) (A0o .u64 x.2.1 (wrap .u64 (64-(wrap .u64 y1))))) (A0o .u64 (A0n .u64 x.2.2 (wrap .u64 y1)) 32)),wrap .u64 ((bits .u64 .or (A0n .u64 x.1 (wrap .u64 y1)) (A0o .u64 x.2.1 (wrap .u64 (64-(wrap .u64 y1)))))-(wrap .u64 ((wrap .u64 (a07 (bits .u64 .or (A0n .u64 x.1 (wrap .u64 y1)) (A0o .u64 x.2.1 (wrap .u64 (64-(wrap .u64 y1))))) (A0o .u64 (A0n .u64 x.2.2 (wrap .u64 y1)) 32)))*(A0o .u64 (A0n .u64 x.2.2 (wrap .u64 y1)) 32)))),())).bind fun w5=>cond (w5.2.2.1==0) none ((y0s a1P (w5.1,w5.2.1,w5.2.2.1,w5.2.2.2.1,w5.2.2.2.2.2.2.1,w5.2.2.2.2.2.2.2.1,wrap .u64 ((wrap .u64 ((wrap .u64 ((wrap .u64 (w5.2.2.2.2.1*4294967296))+w5.2.2.2.2.2.1))-(wrap .u64 (w5.2.2.2.2.2.2.2.1*w5.1))))-(wrap .u64 ((wrap .u64 (a07 (wrap .u64 ((wrap .u64 ((wrap .u64 (w5.2.2.2.2.1*4294967296))+w5.2.2.2.2.2.1))-(wrap .u64 (w5.2.2.2.2.2.2.2.1*w5.1)))) w5.2.2.1))*w5.2.2.1))),wrap .u64 ((wrap .u64 ((wrap .u64 (w5.2.2.2.2.1*4294967296))+w5.2.2.2.2.2.1))-(wrap .u64 (w5.2.2.2.2.2.2.2.1*w5.1))),wrap .u64 (a07 (wrap .u64 ((wrap .u64 ((wrap .u64 (w5.2.2.2.2.1*4294967296))+w5.2.2.2.2.2.1))-(wrap .u64 (w5.2.2.2.2.2.2.2.1*w5.1)))) w5.2.2.1),())).bind fun w9=>cond (decide (w9.2.1<0)) none (some (wrap .u64 ((wrap .u64 (w9.2.2.2.1*4294967296))+w9.2.2.2.2.2.1),A0o .u64 (wrap .u64 ((wrap .u64 ((wrap .u64 (w9.2.2.2.2.1*4294967296))+w9.2.2.1))-(wrap .u64 (w9.2.2.2.2.2.1*w9.1)))) w9.2.1)))))))))))
def b6o:FSem:=⟨[.v QU,.v QU,.v QU],[.v QU,.v QU],a2B⟩
def d9b:Hints:=⟨[(131068,[.sv 2 QU,.sv 8 QU,.sv 9 QU,.sv 10 QU,.sv 11 QU,.sv 13 QU,.sv 14 QU,.sv 15 QU,.sv 16 QU],[Qe 0 [.sv 2 QU,.sv 8 QU,.sv 9 QU,.sv 10 QU,.sv 11 QU,.sv 13 QU,.sv 14 QU,.sv 15 QU]]),(2097148,[.sv 2 QU,.sv 8 QU,.sv 9 QU,.sv 10 QU,.sv 14 QU,.sv 15 QU,.sv 16 QU,.sv 17 QU,.sv 18 QU],[Qe 2 [.sv 2 QU,.sv 8 QU,.sv 14 QU,.sv 15 QU,.sv 17 QU,.sv 18 QU]])],[(262136,[Qn [.sv 2 QU,.sv 8 QU,.sv 9 QU,.sv 10 QU,.sv 11 QU,.sv 13 QU,.sv 14 QU,.sv 15 QU,.sv 16 QU],Qe 0 [.sv 2 QU,.sv 8 QU,.sv 9 QU,.sv 10 QU,.sv 11 QU,.sv 13 QU,.sv 14 QU,.sv 15 QU]]),(4194296,[Qn [.sv 2 QU,.sv 8 QU,.sv 9 QU,.sv 10 QU,.sv 14 QU,.sv 15 QU,.sv 16 QU,.sv 17 QU,.sv 18 QU],Qe 2 [.sv 2 QU,.sv 8 QU,.sv 14 QU,.sv 15 QU,.sv 17 QU,.sv 18 QU]])],[(6,[.v,.v,.v,.v,.v,.v,.v,.x])]⟩
def a7P(x:(Int×Int×Int)):Option Int:=cond (x.2.2==0) none ((a2B (a08 x.1 x.2.2,x.2.1,x.2.2)).bind fun y1=>some y1.2)
def b6p:FSem:=⟨[.v QU,.v QU,.v QU],[.v QU],a7P⟩
def a4U(x:(Int×Int×Int)):Option Int:=(a5d (x.1,x.2.1)).bind fun y1=>(a7O (y1.2,x.2.2,0)).bind fun y2=>(a7P (wrap .u64 (y1.1+y2.2),y2.1,2305843009213693951)).bind fun y3=>some y3
end Go.Ab
namespace Go.Ab
open IntKind(wrap)
open Go.Proofs
set_option maxRecDepth 100000
set_option linter.unusedVariables false
def c5U:FSem:=⟨[.v QU,.v QU,.v QU],[.v QU],a4U⟩
def a6y(s:Z36):Option Z84:=(fun(a b:Int)=>cond (decide (b<a)) ((m0k s.2.1 b).bind fun x1=>(a4U (s.1,1000003,wrap .u64 ((wrap .u64 x1)+1))).bind fun y2=>some (.inl (y2,s.2.1,a,wrap .i64 (b+1),()))) (some (.inr (s.1,())))) s.2.2.1 s.2.2.2.1
def a6R(x:LI):Option Int:=(y0s a6y (0,x,(x.length:Int),0,())).bind fun w3=>some w3.1
def c4e:FSem:=⟨[.v QB],[.v QU],a6R⟩
def H42:Hints:=⟨[(58,[.sv 3 QU,.sv 6 QB,7,8],[Qe 0 [.sv 3 QU]])],[],[]⟩
def a5F(s:(Int×(Int×(Int×((List LI)×b7z))))):Option ((Int×(Int×(Int×((List LI)×b7z)))) ⊕ b7z):=(fun(a:Int)(b:List LI)(c d:Int)(e:LI)(f:Z14)=>cond (decide (d<c)) ((m0k b d).bind fun x3=>(m0k x3 s.1).bind fun x4=>cond (lim ((a01 e)+1)) (some (.inl (s.1,s.2.1,a,b,c,wrap .i64 (d+1),a03 e [x4],f,()))) none) (some (.inr (s.2.1,a,e,f,())))) s.2.2.1 s.2.2.2.1 s.2.2.2.2.1 s.2.2.2.2.2.1 s.2.2.2.2.2.2.1 s.2.2.2.2.2.2.2.1
def a5G(s:b7z):Option (b7z ⊕ (LI×Unit)):=cond (decide (s.2.1<s.1)) ((y0s a5F (s.2.1,s.1,s.2.1,s.2.2.2.1.2.1,(s.2.2.2.1.2.1.length:Int),0,s.2.2.1,s.2.2.2.1,())).bind fun w5=>some (.inl (w5.1,wrap .i64 (w5.2.1+1),w5.2.2.1,w5.2.2.2.1,()))) (some (.inr (s.2.2.1,())))
def a4t(x:Z14):Option LI:=(a2T x).bind fun y1=>cond (!y1) (some []) ((a2S x).bind fun y2=>(y0s a5G (y2,0,[],x,())).bind fun w6=>some w6.1)
def c2U:FSem:=⟨[.v Q16],[.o QI],a4t⟩
def H86:Hints:=⟨[(122,[11,12,.own 3 3 QI,.vp 1 Q16],[Qe 0 [.own 3 3 QI]]),(31334,[4,11,12,.sv 16 (.list false QL),17,18,.own 3 3 QI,.vp 1 Q16],[Qe 2 [11,12,.own 3 3 QI,.vp 1 Q16]])],[],[]⟩
def a3U(s:(Int×(Int×(Int×(LI×Z63))))):Option ((Int×(Int×(Int×(LI×Z63)))) ⊕ Z97):=(fun(a:Int)(b:LI)(c d e f:Int)(g:LI)=>cond (decide (f<e)) (cond (decide ((wrap .i64 (8*f))<0)) none (cond (lim ((a01 g)+1)) (some (.inl (s.1,s.2.1,a,b,c,d,e,wrap .i64 (f+1),a03 g [wrap .u8 (bits .i64 .and (A0o .i64 a (wrap .i64 (8*f))) 255)],()))) none)) (some (.inr (s.1,s.2.1,b,c,d,g,())))) s.2.2.1 s.2.2.2.1 s.2.2.2.2.1 s.2.2.2.2.2.1 s.2.2.2.2.2.2.1 s.2.2.2.2.2.2.2.1 s.2.2.2.2.2.2.2.2.1
def a5H(s:Z97):Option (Z97 ⊕ Z57):=(fun(a:LI)(b c:Int)(d:LI)=>cond (decide (c<b)) ((m0k a c).bind fun x2=>(a1J (x2,s.1)).bind fun y3=>cond (!y3) (some (.inr (Sum.inr ((6,[],()))))) ((y0s a3U (s.1,s.2.1,x2,a,b,c,s.2.1,0,d,())).bind fun w4=>some (.inl (w4.1,w4.2.1,w4.2.2.1,w4.2.2.2.1,wrap .i64 (w4.2.2.2.2.1+1),w4.2.2.2.2.2.1,())))) (some (.inr (Sum.inl (d,()))))) s.2.2.1 s.2.2.2.1 s.2.2.2.2.1 s.2.2.2.2.2.1
def a8p(x:(LI×Int)):Option (LI×Int):=(show Option Z21 from cond (decide (x.2<4)) (some (x.1,x.2,true,())) (some (x.1,x.2,decide (x.2 > 24),()))).bind fun z1=>cond z1.2.2.1 (some ([],1)) ((y0s a5H (z1.2.1,wrap .i64 (a07 (wrap .i64 (z1.2.1+7)) 8),z1.1,(z1.1.length:Int),0,[],())).bind fun w5=>match w5 with |.inl a6=>some (a6.1,0) |.inr b7=>some (b7.2.1,b7.1))
def c2V:FSem:=⟨[.v QL,.v QI],[.o QV,.v QI],a8p⟩
def d9c:Hints:=⟨[(250,[1,6,.sv 20 QL,21,22,.own 7 7 QV],[Qe 0 [.own 7 7 QV],Qr [5,.own 4 4 QV]]),(128206,[1,6,9,.sv 20 QL,21,22,30,31,.own 7 7 QV],[Qe 2 [1,6,.sv 20 QL,21,22,.own 7 7 QV]])],[(6,[Qn [.sv 0 QL,1,.sv 16 .bool]])],[]⟩
def a9d(x:Z14):Option (LI×Int):=(a2T x).bind fun y1=>cond (!y1) (some ([],1)) ((a4t x).bind fun y2=>(a8p (y2,x.1)).bind fun y3=>some (y3.1,y3.2))
def c4f:FSem:=⟨[.v Q16],[.o QV,.v QI],a9d⟩
def d9d:Hints:=⟨[],[],[(3,[.v,.q,.v,.v,.x,.q,.q,.x,.x])]⟩
def a6z(s:Z7):Option (Z7 ⊕ (Int×Unit)):=(fun(a b c:Int)=>cond (decide (a > 0)) ((show Option Z7 from cond ((a08 a 2)==1) ((a4U (b,c,0)).bind fun y1=>some (a,y1,c,())) (some (a,b,c,()))).bind fun z2=>(a4U (z2.2.2.1,z2.2.2.1,0)).bind fun y3=>some (.inl (wrap .i64 (a07 z2.1 2),z2.2.1,y3,()))) (some (.inr (b,())))) s.1 s.2.1 s.2.2.1
def a9e(x:Int):Option Int:=(y0s a6z (v0r x 0,1,1000003,())).bind fun w4=>some w4.1
def c4g:FSem:=⟨[.v QI],[.v QU],a9e⟩
def d9e:Hints:=⟨[(58,[0,.sv 3 QU,.sv 4 QU],[Qe 0 [.sv 3 QU]])],[(932,[Qn [0,.sv 3 QU,.sv 4 QU]])],[]⟩
def b0G(x:(Int×Int×Int)):Option (Int×Bool):=(show Option Z28 from cond (decide (x.1≥2305843009213693951)) (some (x.1,x.2.1,x.2.2,true,())) (cond (decide (x.2.1≥2305843009213693951)) (some (x.1,x.2.1,x.2.2,true,())) (some (x.1,x.2.1,x.2.2,decide (x.2.2<0),())))).bind fun z1=>cond z1.2.2.2.1 (some (0,false)) ((a9e z1.2.2.1).bind fun y2=>(a4U (z1.1,y2,z1.2.1)).bind fun y3=>some (y3,true))
def c5V:FSem:=⟨[.v QU,.v QU,.v QI],[.v QU,.v .bool],b0G⟩
def d9f:Hints:=⟨[],[(6,[Qn [.sv 0 QU,.sv 1 QU,2,.sv 17 .bool]])],[]⟩
def a3P(x:Z33):Option (Int×Bool):=(a9d x.2).bind fun y1=>cond (y1.2 != 0) (some (0,false)) ((a6R y1.1).bind fun y2=>(b0G (x.1,y2,(y1.1.length:Int))).bind fun y3=>some (y3.1,y3.2))
def c0L:FSem:=⟨[.v QU,.v Q16],[.v QU,.v .bool],a3P⟩
def a1l(s:(Int×Int×Int×a4n×Int×Int×c7G)):Option ((Int×Int×Int×a4n×Int×Int×c7G) ⊕ ((Int×Int×c7G) ⊕ (Bool×((List LI)×Z52)))):=(fun(a b:Int)(c:a4n)(d e:Int)(f:List LI)(g:Z29)(h:a2Y)=>cond (decide (e<d)) ((m0k c e).bind fun x3=>(show Option (Int×(Int×(Int×(Int×(a4n×(Int×(Int×(Bool×((List LI)×(Z29×a1v×a9K))))))))))from cond (!(eqT Q13 x3.2.2.1 h.1)) (some (a,s.2.1,b,e,c,d,e,true,f,g,x3,h,())) (some (a,s.2.1,b,e,c,d,e,x3.1 != a,f,g,x3,h,()))).bind fun z4=>cond z4.2.2.2.2.2.2.2.1 (some (.inr (Sum.inr ((false,([]:(List LI)),[],()))))) ((show Option (Int×(Int×(Int×(a4n×(Int×(Int×(Bool×((List LI)×(Z29×a1v×a9K)))))))))from(m0k z4.2.2.2.2.2.2.2.2.2.2.2.1.2.2.2.1 z4.2.2.2.1).bind fun x5=>cond (x5.1 != z4.1) (some (z4.1,z4.2.1,z4.2.2.1,z4.2.2.2.2.1,z4.2.2.2.2.2.1,z4.2.2.2.2.2.2.1,true,z4.2.2.2.2.2.2.2.2.1,z4.2.2.2.2.2.2.2.2.2.1,z4.2.2.2.2.2.2.2.2.2.2.1,z4.2.2.2.2.2.2.2.2.2.2.2.1,())) ((m0k z4.2.2.2.2.2.2.2.2.2.2.2.1.2.2.2.1 z4.2.2.2.1).bind fun x6=>some (z4.1,z4.2.1,z4.2.2.1,z4.2.2.2.2.1,z4.2.2.2.2.2.1,z4.2.2.2.2.2.2.1,x6.2.1 != z4.2.1,z4.2.2.2.2.2.2.2.2.1,z4.2.2.2.2.2.2.2.2.2.1,z4.2.2.2.2.2.2.2.2.2.2.1,z4.2.2.2.2.2.2.2.2.2.2.2.1,()))).bind fun z7=>cond z7.2.2.2.2.2.2.1 (some (.inr (Sum.inr ((false,([]:(List LI)),[],()))))) ((a2d z7.2.2.2.2.2.2.2.2.2.1).bind fun y8=>cond (y8.2 != 0) (some (.inr (Sum.inr ((false,([]:(List LI)),[],()))))) ((a2p z7.2.2.2.2.2.2.2.2.2.1).bind fun y9=>cond (y9.2 != 0) (some (.inr (Sum.inr ((false,([]:(List LI)),[],()))))) ((a3P (z7.2.2.1,y8.1)).bind fun y10=>cond (!y10.2) (some (.inr (Sum.inr ((false,([]:(List LI)),[],()))))) (cond (lim ((a01 z7.2.2.2.2.2.2.2.1)+1)) (cond (lim ((a01 z7.2.2.2.2.2.2.2.2.1)+1)) (some (.inl (wrap .i64 (z7.1+z7.2.2.2.2.2.2.2.2.2.1.2.1),wrap .i64 (z7.2.1+(y9.1.length:Int)),y10.1,z7.2.2.2.1,z7.2.2.2.2.1,wrap .i64 (z7.2.2.2.2.2.1+1),a03 z7.2.2.2.2.2.2.2.1 ([y9.1]:List LI),a03 z7.2.2.2.2.2.2.2.2.1 ([y8.1]:List Z14),z7.2.2.2.2.2.2.2.2.2.2.1,()))) none) none)))))) (some (.inr (Sum.inl (a,b,f,g,h,()))))) s.1 s.2.2.1 s.2.2.2.1 s.2.2.2.2.1 s.2.2.2.2.2.1 s.2.2.2.2.2.2.1 s.2.2.2.2.2.2.2.1 s.2.2.2.2.2.2.2.2.1
def a3E(x:a2Y):Option ((List LI)×(Z29×Bool)):=(show Option (Bool×c7G)from(a1K x.1).bind fun y1=>cond (!y1) (some (true,([]:(List LI)),[],x,())) (cond (decide ((x.2.2.2.2.1.length:Int) > 4096)) (some (true,([]:(List LI)),[],x,())) (some ((x.2.2.2.1.length:Int) != (x.2.2.2.2.1.length:Int),([]:(List LI)),[],x,())))).bind fun z2=>cond z2.1 (some (([]:(List LI)),[],false)) ((y0s a1l (0,0,0,z2.2.2.2.1.2.2.2.2.1,(z2.2.2.2.1.2.2.2.2.1.length:Int),0,z2.2.1,z2.2.2.1,z2.2.2.2.1,())).bind fun w11=>match w11 with |.inl a12=>((show Option (Bool×((List LI)×Z52))from cond (a12.2.2.2.2.1.2.1 != a12.1) (some (true,a12.2.2.1,a12.2.2.2.1,())) (some (a12.2.2.2.2.1.2.2.1 != a12.2.1,a12.2.2.1,a12.2.2.2.1,()))).bind fun z14=>cond z14.1 (some (([]:(List LI)),[],false)) (some (z14.2.1,z14.2.2.1,true))) |.inr b13=>some (b13.2.1,b13.2.2.1,b13.1))
def c5W:FSem:=⟨[.v Q79],[.o QB,.o Q16,.v .bool],a3E⟩
def H85:Hints:=⟨[(122,[5,6,.sv 7 QU,.sv 33 (.list false Q61),34,35,.own 2 2 QB,.own 3 3 Q16,.vp 1 Q79],[Qe 0 [5,.sv 7 QU,.own 2 2 QB,.own 3 3 Q16,.vp 1 Q79],Qr [.sv 4 .bool,.own 2 2 QB,.own 3 3 Q16]])],[(6,[Qn [.sv 31 .bool,.own 2 2 QB,.own 3 3 Q16,.vp 1 Q79]]),(62,[Qn [.sv 117 .bool,.own 2 2 QB,.own 3 3 Q16]]),(15666,[Qn [5,6,.sv 7 QU,8,.sv 33 (.list false Q61),34,35,.sv 50 .bool,.own 2 2 QB,.own 3 3 Q16,.box 9 Q61,.vp 1 Q79,Qp 9 9]]),(31334,[Qn [5,6,.sv 7 QU,.sv 33 (.list false Q61),34,35,.sv 68 .bool,.own 2 2 QB,.own 3 3 Q16,.box 9 Q61,.vp 1 Q79,Qp 9 9]])],[]⟩
def a4A(s:(Int×(Int×(LI×Z52)))):Option ((Int×(Int×(LI×Z52))) ⊕ (LI×Unit)):=(fun(a:Int)(b:LI)(c:Z29)=>cond (decide (a<s.1)) (cond ((decide (0≤a))&&(decide (a<(c.length:Int)))) ((a4t (a04 c (a00 a) (0,([]:(List LI)),()))).bind fun y2=>cond (lim ((a01 b)+(a01 y2))) (some (.inl (s.1,wrap .i64 (a+1),a03 b y2,c,()))) none) none) (some (.inr (b,())))) s.2.1 s.2.2.1 s.2.2.2.1
def a2s(x:a2Y):Option (LI×Int):=(a3E x).bind fun y1=>cond (!y1.2.2) (some ([],1)) ((y0s a4A ((y1.2.1.length:Int),0,[],y1.2.1,())).bind fun w3=>some (w3.1,0))
def b8p:FSem:=⟨[.v Q79],[.o QI,.v QI],a2s⟩
def H27:Hints:=⟨[(250,[19,20,.own 7 7 QI,.own 18 5 Q16],[Qe 0 [.own 7 7 QI]])],[],[]⟩
def a2t(s:(Int×a4n×Int×Int×Unit)):Option ((Int×a4n×Int×Int×Unit) ⊕ (Unit ⊕ (Int×Int×Unit))):=(fun(a:Int)(b:a4n)(c d:Int)=>cond (decide (d<c)) ((m0k b d).bind fun x1=>cond (decide (x1.1 > a)) (some (.inl (a,b,c,wrap .i64 (d+1),()))) (cond (decide (x1.2.1≤0)) (some (.inl (a,b,c,wrap .i64 (d+1),()))) (cond (decide ((wrap .u64 ((wrap .u64 a)-(wrap .u64 x1.1)))<(wrap .u64 x1.2.1))) (some (.inr (Sum.inr ((d,0,()))))) (some (.inl (a,b,c,wrap .i64 (d+1),())))))) (some (.inr (Sum.inl ())))) s.1 s.2.1 s.2.2.1 s.2.2.2.1
def a6S(x:c7D):Option (Int×Int):=(y0s a2t (x.2,x.1.2.2.2.2.1,(x.1.2.2.2.2.1.length:Int),0,())).bind fun w2=>match w2 with |.inl a3=>some (0,6) |.inr b4=>some (b4.1,b4.2.1)
def c4h:FSem:=⟨[.v Q79,.v QI],[.v QI,.v QI],a6S⟩
def H31:Hints:=⟨[(26,[1,.sv 9 (.list false Q61),10,11],[Qe 0 [],Qr [4,5]])],[],[]⟩
def a3V(s:(LI×Z6)):Option ((LI×Z6) ⊕ Z0):=(fun(a:Int)=>cond (decide (a<(s.1.length:Int))) ((m0k s.1 a).bind fun x1=>(m0k s.2.1 a).bind fun x2=>cond (x1 != x2) (some (.inr (Sum.inr ((false,()))))) (some (.inl (s.1,s.2.1,wrap .i64 (a+1),())))) (some (.inr (Sum.inl ())))) s.2.2.1
def a1L(x:(LI×LI)):Option Bool:=cond ((x.1.length:Int) != (x.2.length:Int)) (some false) ((y0s a3V (x.1,x.2,0,())).bind fun w3=>match w3 with |.inl a4=>some true |.inr b5=>some b5.1)
def c2W:FSem:=⟨[.v QL,.v QL],[.v .bool],a1L⟩
def H35:Hints:=⟨[(58,[.sv 0 QL,.sv 1 QL,5],[Qe 0 [],Qr [.sv 4 .bool]])],[],[(6,[.v,.v,.v,.v,.v,.v,.v,.v,.x])]⟩
def c4i(s:(Z17×Z33)):Option ((Z17×Z33) ⊕ (Z1 ⊕ Z16)):=cond (decide (s.2.2.1<s.2.1)) ((m0k s.1 s.2.2.1).bind fun x5=>(a6O (s.2.2.2.1,x5,1)).bind fun y6=>cond (!y6.1) (some (.inr (Sum.inr ((([]:(List LI)),6,()))))) (some (.inl (s.1,s.2.1,wrap .i64 (s.2.2.1+1),y6.2,())))) (some (.inr (Sum.inl (s.2.2.2.1,()))))
def b4J(x:Z71):Option ((List LI)×Int):=(show Option ((List LI)×(Z17×Bool×Unit))from(a6n x.1).bind fun y1=>cond (!y1) (some (x.1,x.2,true,())) ((a7k (x.2,(x.1.length:Int))).bind fun y2=>some (x.1,x.2,!y2,()))).bind fun z3=>cond z3.2.2.1 (some (([]:(List LI)),1)) ((a6b z3.1).bind fun y4=>(y0s c4i (z3.2.1,(z3.2.1.length:Int),0,y4,())).bind fun w7=>match w7 with |.inl a8=>some (a8.1,0) |.inr b9=>some (b9.1,b9.2.1))
def c9u:FSem:=⟨[.v (.list false QL),.v (.list false Q13)],[.v (.list false QL),.v QI],b4J⟩
def H59:Hints:=⟨[(122,[.sv 21 (.list false Q13),22,23,.own 6 6 (.list true QI)],[Qe 0 [.own 6 6 (.list true QI)],Qr [.sv 4 (.list false QL),5]])],[(6,[Qn [.sv 0 (.list false QL),.sv 1 (.list false Q13),.sv 18 .bool]])],[]⟩
def b7D(s:(Int×(LI×Z53))):Option ((Int×(LI×Z53)) ⊕ Z53):=(fun(a:LI)(b:Int)(c:List LI)(d e:Int)=>cond (decide (b<(a.length:Int))) ((m0k a b).bind fun x3=>(m0k a (wrap .i64 (b-1))).bind fun x4=>(m0k a (wrap .i64 (b-2))).bind fun x5=>some (.inl (wrap .i64 (s.1+(v0r (wrap .i64 ((wrap .i64 (x3-(wrap .i64 (2*x4))))+x5)) (wrap .i64 (0-(wrap .i64 ((wrap .i64 (x3-(wrap .i64 (2*x4))))+x5)))))),a,wrap .i64 (b+1),c,d,e,()))) (some (.inr (s.1,c,d,e,())))) s.2.1 s.2.2.1 s.2.2.2.1 s.2.2.2.2.1 s.2.2.2.2.2.1
def b7E(s:Z53):Option (Z53 ⊕ (Int×Unit)):=(fun(a b:Int)=>cond (decide (b<a)) ((m0k s.2.1 b).bind fun x2=>(y0s b7D (s.1,x2,2,s.2.1,a,b,())).bind fun w6=>some (.inl (w6.1,w6.2.1,w6.2.2.1,wrap .i64 (w6.2.2.2.1+1),()))) (some (.inr (s.1,())))) s.2.2.1 s.2.2.2.1
def b1c(x:(List LI)):Option Int:=(a6n x).bind fun y1=>cond (!y1) (some 0) ((y0s b7E (0,x,(x.length:Int),0,())).bind fun w7=>some w7.1)
def c2X:FSem:=⟨[.v (.list false QL)],[.v QI],b1c⟩
def d9g:Hints:=⟨[(122,[3,.sv 11 (.list false QL),12,13],[Qe 0 [3]]),(31334,[3,.sv 5 QL,6,.sv 11 (.list false QL),12,13],[Qe 2 [3,.sv 11 (.list false QL),12,13]])],[],[(10,[.v,.v,.v,.v,.v,.v,.v,.v,.v,.v,.v,.v,.v,.v,.v,.v,.x,.x])]⟩
def b1L(x:Int):Option Z17:=cond (x==1) (some ([(0,1,(-256),())]:List Z7)) (cond (x==2) (some ([(1,0,(-256),())]:List Z7)) (cond (x==3) (some ([(1,0,(-256),()),(0,1,128,())]:List Z7)) (cond (x==4) (some ([(1,0,(-106),()),(0,1,181,()),(1,0,(-106),())]:List Z7)) (some []))))
def c4j:FSem:=⟨[.v QI],[.o Q13],b1L⟩
def c0M(s:((List LI)×Z7)):Option (((List LI)×Z7) ⊕ (Int×Unit)):=(fun(a:List LI)(b c d:Int)=>cond (decide (d<5)) ((b1L d).bind fun y2=>(b4J (a,y2)).bind fun y3=>cond (y3.2 != 0) (some (.inl (a,b,c,wrap .i64 (d+1),()))) ((b1c y3.1).bind fun y4=>cond (decide (y4<c)) (some (.inl (a,d,y4,wrap .i64 (d+1),()))) (some (.inl (a,b,c,wrap .i64 (d+1),()))))) (some (.inr (b,())))) s.1 s.2.1 s.2.2.1 s.2.2.2.1
def b6M(x:(List LI)):Option Z17:=(b1c x).bind fun y1=>(y0s c0M (x,0,y1,1,())).bind fun w5=>(b1L w5.1).bind fun y6=>some y6
def c5X:FSem:=⟨[.v (.list false QL)],[.o Q13],b6M⟩
def d9h:Hints:=⟨[(58,[.sv 0 (.list false QL),3,4,5],[Qe 0 [3]])],[],[]⟩
def c0N(s:(Int×Int×Int×Z17×c3R)):Option ((Int×Int×Int×Z17×c3R) ⊕ (Int×c3R)):=(fun(a b:Int)(c d:Z17)(e:Z14)=>cond (decide (b<s.2.1)) (cond ((decide (0≤b))&&(decide (b<(d.length:Int)))) (cond (lim ((a01 c)+1)) (some (.inl (a,s.2.1,wrap .i64 (b+1),a03 c ([(wrap .i64 (((a04 d (a00 b) (0,0,0,())).1)+a),wrap .i64 ((((a04 d (a00 b) (0,0,0,())).2).1)+a),(((a04 d (a00 b) (0,0,0,())).2).2).1,())]:List Z7),d,e,()))) none) none) (some (.inr (a,c,e,())))) s.1 s.2.2.1 s.2.2.2.1 s.2.2.2.2.1 s.2.2.2.2.2.1
def c0O(s:(Int×c3R)):Option ((Int×c3R) ⊕ (Z17×Unit)):=(fun(a:Int)(b:Z14)=>cond (decide ((wrap .i64 (a+1))<(b.2.1.length:Int))) (cond ((decide (0≤(wrap .i64 (a+2))))&&(decide ((wrap .i64 (a+2))≤(b.2.1.length:Int)))) (cond ((decide (0≤a))&&(decide (a≤((a00 (wrap .i64 (a+2)):Nat):Int)))) ((b6M (a09 (a00 a) (a06 (a00 (wrap .i64 (a+2))) b.2.1))).bind fun y2=>(y0s c0N (a,(y2.length:Int),0,s.2.1,y2,b,())).bind fun w3=>some (.inl (wrap .i64 (w3.1+2),w3.2.1,w3.2.2.1,()))) none) none) (some (.inr (s.2.1,())))) s.1 s.2.2.1
def b6N(x:Z14):Option Z17:=(a2T x).bind fun y1=>cond (!y1) (some []) ((y0s c0O (0,[],x,())).bind fun w4=>some w4.1)
def c5Y:FSem:=⟨[.v Q16],[.o Q13],b6N⟩
def H58:Hints:=⟨[(122,[4,.own 3 3 Q13,.vp 1 Q16],[Qe 0 [.own 3 3 Q13]]),(7826,[4,25,26,.own 3 3 Q13,.own 24 1024 Q13,.vp 1 Q16],[Qe 2 [4,.own 3 3 Q13,.vp 1 Q16]])],[],[]⟩
def b7F(s:Z73):Option (Z73 ⊕ Z57):=(fun(a:Int)(b:LI)(c d:Int)(e:LI)=>cond (decide (d<c)) ((m0k b d).bind fun x2=>(show Option (Int×(Int×(LI×Z41)))from(a4q x2).bind fun y3=>cond (!y3) (some (a,x2,b,c,d,true,e,())) (cond (decide (a<0)) none (cond ((A0n .i64 1 a)==0) none (some (a,x2,b,c,d,(a08 x2 (A0n .i64 1 a)) != 0,e,()))))).bind fun z4=>cond z4.2.2.2.2.2.1 (some (.inr (Sum.inr ((6,[],()))))) (cond (decide (z4.1<0)) none (cond (lim ((a01 z4.2.2.2.2.2.2.1)+1)) (some (.inl (z4.1,z4.2.2.1,z4.2.2.2.1,wrap .i64 (z4.2.2.2.2.1+1),a03 z4.2.2.2.2.2.2.1 [A0o .i64 z4.2.1 z4.1],()))) none))) (some (.inr (Sum.inl (e,()))))) s.1 s.2.1 s.2.2.1 s.2.2.2.1 s.2.2.2.2.1
def b1d(x:(LI×Int)):Option (LI×Int):=(show Option Z21 from cond (decide (x.2<0)) (some (x.1,x.2,true,())) (some (x.1,x.2,decide (x.2 > 30),()))).bind fun z1=>cond z1.2.2.1 (some ([],1)) ((y0s b7F (z1.2.1,z1.1,(z1.1.length:Int),0,[],())).bind fun w5=>match w5 with |.inl a6=>some (a6.1,0) |.inr b7=>some (b7.2.1,b7.1))
def c2Y:FSem:=⟨[.v QL,.v QI],[.o QI,.v QI],b1d⟩
def d9i:Hints:=⟨[(122,[1,.sv 15 QL,16,17,.own 6 6 QI],[Qe 0 [.own 6 6 QI],Qr [5,.own 4 4 QI]])],[(6,[Qn [.sv 0 QL,1,.sv 14 .bool]]),(15666,[Qn [1,8,.sv 15 QL,16,17,.sv 30 .bool,.own 6 6 QI]])],[]⟩
def a3a(x:Int):Option Int:=cond (x==0) (some 64) ((m0k b2r (A0o .u64 (wrap .u64 ((bits .u64 .and x (wrap .u64 (0-x)))*285870213051353865)) 58)).bind fun x1=>some (wrap .i64 x1))
def a1j:FSem:=⟨[.v QU],[.v QI],a3a⟩
def a9f:Cx:=b4G [] [] 5 0
theorem b6O{ρ:Type}{cx:Cx}{ops:List Oper}:∀(l1 l2:List (Md×Oper)) (Γ:AE) (K:AE→Rs ρ),h0m cx ops (l1++l2) Γ K=h0m cx ops l1 Γ fun Γ'=>h0m cx ops l2 Γ' K
 | [],_,_,_=>rfl
 |(md,o)::l1,l2,Γ,K=>by
  simp only[a20,h0m];congr 1;funext Γ';exact b6O l1 l2 Γ' K
theorem b4K{ρ:Type}{cx:Cx}{H:Hints}{a b:Code}{p:Nat}(h:find H.cuts p=none)(Γ:AE)(K:Ex→AE→Rs ρ):c0n cx H (.seq a b) p Γ K=c0n cx H a (2*p) Γ fun e Γ'=>match e with
   |.normal=>c0n cx H b (2*p+1) Γ' K
   |e=>K e Γ':=by
 simp only[c0n,h];rfl
theorem c4k{ρ:Type}{cx:Cx}{H:Hints}{id:Nat}{ops:Array Oper}{p:Nat}(Γ:AE)(K:Ex→AE→Rs ρ):c0n cx H (.region id ops false) p Γ K=h0m cx ops.toList (ops.toList.map fun o=>(.x,o)) Γ fun Γ'=>K .normal Γ':=by
 simp only[c0n,cF]
def a8O:Code:=match Tryz.f191.body with
 |some c=>c
 |none=>.skip
def c0P:Code→Code
 |.seq a _=>a
 |c=>c
def c7P:Code→Code
 |.seq _ b=>b
 |c=>c
def c9v:Code→Array Oper
 |.region _ ops _=>ops
 |_=>#[]
def c6S:Code:=c7P (c7P a8O)
def b1M:List Oper:=(c9v (c0P c6S)).toList
def Γ191(x:Int):AE:=(((ini [.v QU] x).set 2 (.val QI (0:Int))).set 3 (.val QU x)).set 4 (.val .bool (x==(0:Int)))
def Γ191r(x:Int):AE:=(Γ191 x).set 2 (.val QI (64:Int))
def c4l(e:Ex)(Γ:AE):Option Int:=match e,Γ.pd with
  |.exit _,_=>none
  |_,some _=>none
  |_,none=>(Γ.upto Tryz.f191.ntmps).outs a9f [] Tryz.f191.ntmps [.v QI] (Tryz.f191.results.toList.map .inl) fun y _=>some y
def Γ191b(x a b c i:Int):AE:=((((((Γ191 x).set 5 (.val QU x)).set 6 (.val QU x)).set 7 (.val QU a)).set 8 (.val QU b)).set 9 (.val QU c)).set 10 (.val QU i)
set_option maxRecDepth 100000
theorem d1g:a8O=.seq (c0P a8O) (.seq (c0P (c7P a8O)) (.seq (.region 3 (c9v (c0P c6S)) false) .ret)):=by kernel_rfl
theorem d3r(x:Int):A0j a9f QH Tryz.f191 a1j.ps a1j.rs x=c0n a9f QH a8O 1 (ini [.v (.int .u64)] x) c4l:=rfl
theorem d3s(x:Int)(K:Ex→AE→Option Int):c0n a9f QH (c0P a8O) 2 (ini [.v (.int .u64)] x) K=K .normal ((ini [.v (.int .u64)] x).set 2 (.val (.int .i64) (0:Int))):=by kernel_rfl
theorem d3t(x:Int)(K:Ex→AE→Option Int):c0n a9f QH (c0P (c7P a8O)) 6 ((ini [.v (.int .u64)] x).set 2 (.val (.int .i64) (0:Int))) K=bif x==(0:Int)then K .ret (Γ191r x)else K .normal (Γ191 x):=by kernel_rfl
theorem d3u(x:Int):c4l .ret (Γ191r x)=some (64:Int):=by kernel_rfl
theorem d3v(x:Int)(K:AE→Option Int):h0m a9f b1M ((b1M.map fun o=>(Md.x,o)).take 6) (Γ191 x) K =
  K (Γ191b x (wrap .u64 (0-x)) (bits .u64 .and x (wrap .u64 (0-x))) (wrap .u64 ((bits .u64 .and x (wrap .u64 (0-x)))*(285870213051353865:Int))) (A0o .u64 (wrap .u64 ((bits .u64 .and x (wrap .u64 (0-x)))*(285870213051353865:Int))) (58:Int))):=by kernel_rfl
theorem d3w(x a b c i:Int):h0m a9f b1M ((b1M.map fun o=>(Md.x,o)).drop 6) (Γ191b x a b c i) (fun Γ=>c4l .ret Γ)=(m0k b2r i).bind fun h=>some (wrap .i64 h):=by kernel_rfl
theorem d3x(x:Int):h0m a9f b1M (b1M.map fun o=>(Md.x,o)) (Γ191 x) (fun Γ=>c4l .ret Γ)=(m0k b2r (A0o .u64 (wrap .u64 ((bits .u64 .and x (wrap .u64 (0-x)))*(285870213051353865:Int))) (58:Int))).bind fun h=>some (wrap .i64 h):=by
 rw[←List.take_append_drop 6 (b1M.map fun o=>(Md.x,o)),b6O,d3v,d3w]
theorem d4h(x:Int):c0n a9f QH a8O 1 (ini [.v (.int .u64)] x) c4l=a3a x:=by
 rw[d1g,b4K rfl,d3s];simp only[];rw[b4K rfl,d3t];simp only[];rw[b4K rfl,c4k];simp only[c0n];rw[d3u];exact congrArg (fun z=>bif x==(0:Int)then some (64:Int)else z) (d3x x)
theorem d5a(x):A0j a9f QH Tryz.f191 a1j.ps a1j.rs x=a1j.F x:=(d3r x).trans (d4h x)
def b4L(s:Z36):Option Z84:=(fun(a b:Int)=>cond (decide (b<a)) ((m0k s.2.1 b).bind fun x1=>some (.inl (bits .i64 .or s.1 x1,s.2.1,a,wrap .i64 (b+1),()))) (some (.inr (s.1,())))) s.2.2.1 s.2.2.2.1
def a9g(x:LI):Option Int:=(y0s b4L (0,x,(x.length:Int),0,())).bind fun w2=>cond (w2.1==0) (some 0) ((a3a (wrap .u64 w2.1)).bind fun y3=>some (v0s y3 30))
def b8q:FSem:=⟨[.v QL],[.v QI],a9g⟩
def d9j:Hints:=⟨[(58,[3,.sv 6 QL,7,8],[Qe 0 [3]])],[],[]⟩
def b8r(s:Z38):Option (Z38 ⊕ Z19):=(fun(a b:Int)(c:LI)=>cond (decide ((wrap .i64 (a+1))<(c.length:Int))) (cond ((decide (0≤(wrap .i64 (a+1))))&&(decide ((wrap .i64 (a+1))<(c.length:Int)))) (cond ((decide (0≤a))&&(decide (a<(c.length:Int)))) (cond ((decide (0≤a))&&(decide (a<(c.length:Int)))) (some (.inl (wrap .i64 (a+1),s.2.1,b,a05 c (a00 a) (wrap .i64 ((a04 c (a00 (wrap .i64 (a+1))) 0)-(a04 c (a00 a) 0))),()))) none) none) none) (some (.inr (s.2.1,b,c,())))) s.1 s.2.2.1 s.2.2.2.1
def b8s(s:Z19):Option (Z19 ⊕ (LI×Unit)):=cond (decide (s.2.1<s.1)) ((y0s b8r (0,s.1,s.2.1,s.2.2.1,())).bind fun w3=>cond ((decide (0≤(wrap .i64 ((w3.2.2.1.length:Int)-1))))&&(decide ((wrap .i64 ((w3.2.2.1.length:Int)-1))≤(w3.2.2.1.length:Int)))) (cond (decide ((a00 (wrap .i64 ((w3.2.2.1.length:Int)-1)))≤(a01 w3.2.2.1))) (some (.inl (w3.1,wrap .i64 (w3.2.1+1),a06 (a00 (wrap .i64 ((w3.2.2.1.length:Int)-1))) w3.2.2.1,()))) none) none) (some (.inr (s.2.2.1,())))
def b1N(x:(LI×Int)):Option (LI×Int):=(show Option Z21 from cond (decide (x.2<0)) (some (x.1,x.2,true,())) (cond (decide (x.2 > 4)) (some (x.1,x.2,true,())) (some (x.1,x.2,decide ((x.1.length:Int)<x.2),())))).bind fun z1=>cond z1.2.2.1 (some ([],1)) ((a2q z1.1).bind fun y2=>cond (!y2) (some ([],6)) (cond (lim (a01 z1.1)) ((y0s b8s (z1.2.1,0,z1.1,())).bind fun w4=>(a2q w4.1).bind fun y5=>cond (!y5) (some ([],6)) (some (w4.1,0))) none))
def c4m:FSem:=⟨[.v QL,.v QI],[.o QI,.v QI],b1N⟩
def d9k:Hints:=⟨[(250,[25,26,.own 6 6 QI],[Qe 0 [.own 6 6 QI]]),(64098,[7,25,26,.own 6 6 QI],[Qe 2 [25,26,.own 6 6 QI]])],[(6,[Qn [.sv 0 QL,1,.sv 19 .bool]])],[(11,[.q,.v,.q,.v,.v,.q,.q,.q,.v,.q,.q,.v,.x,.x])]⟩
def b7G(s:Z59):Option (Z59 ⊕ (Int×Unit)):=(fun(a:Int)(b:LI)(c d:Int)=>cond (decide (d<c)) ((m0k b d).bind fun x1=>cond (decide ((wrap .i64 (d+s.1))≥4)) (some (.inl (s.1,wrap .i64 (a+(v0r x1 (wrap .i64 (0-x1)))),b,c,wrap .i64 (d+1),()))) (some (.inl (s.1,a,b,c,wrap .i64 (d+1),())))) (some (.inr (a,())))) s.2.1 s.2.2.1 s.2.2.2.1 s.2.2.2.2.1
def b4j(x:(LI×Int)):Option Int:=(y0s b7G (x.2,0,x.1,(x.1.length:Int),0,())).bind fun w2=>some w2.1
def c2Z:FSem:=⟨[.v QL,.v QI],[.v QI],b4j⟩
def d9l:Hints:=⟨[(58,[1,5,.sv 8 QL,9,10],[Qe 0 [5]])],[],[]⟩
def b8t(s:Z37):Option (Z37 ⊕ (Int×Unit)):=(fun(a:LI)(b c d:Int)=>cond (decide (d≤4)) ((b1N (a,d)).bind fun y1=>cond (y1.2 != 0) (some (.inl (a,b,c,wrap .i64 (d+1),()))) ((b4j (y1.1,d)).bind fun y2=>(show Option (LI×(Int×Z28))from cond (decide (c<0)) (some (a,b,c,d,y2,true,())) (some (a,b,c,d,y2,decide (y2<c),()))).bind fun z3=>cond z3.2.2.2.2.2.1 (some (.inl (z3.1,z3.2.2.2.1,z3.2.2.2.2.1,wrap .i64 (z3.2.2.2.1+1),()))) (some (.inl (z3.1,z3.2.1,z3.2.2.1,wrap .i64 (z3.2.2.2.1+1),()))))) (some (.inr (b,())))) s.1 s.2.1 s.2.2.1 s.2.2.2.1
def b4M(x:LI):Option Int:=(y0s b8t (x,0,(-1),0,())).bind fun w4=>some w4.1
def c4n:FSem:=⟨[.v QL],[.v QI],b4M⟩
def d9m:Hints:=⟨[(58,[.sv 0 QL,3,4,5],[Qe 0 [3]])],[(7463,[Qn [.sv 0 QL,3,4,5,8,.sv 30 .bool]])],[]⟩
def a7t(x:Int):Option Int:=some (v0s (v0r x (-1048576)) 1048575)
def c0Q:FSem:=⟨[.v QI],[.v QI],a7t⟩
def b4N(s:Z93):Option (Z93 ⊕ Z76):=(fun(a b:Int)(c:LI)(d e:Int)=>cond (decide (a<0)) none ((a7t (A0o .i64 b a)).bind fun y2=>cond (decide (a<0)) none (cond (y2 != (A0o .i64 b a)) (some (.inl (s.1,wrap .i64 (a+1),b,c,d,e,()))) (some (.inr (s.1,a,c,d,e,())))))) s.2.1 s.2.2.1 s.2.2.2.1 s.2.2.2.2.1 s.2.2.2.2.2.1
def b4O(s:Z76):Option (Z76 ⊕ Z6):=(fun(a:LI)(b c:Int)=>cond (decide (c<b)) ((m0k a c).bind fun x1=>(y0s b4N (s.1,s.2.1,x1,a,b,c,())).bind fun w3=>some (.inl (w3.1,w3.2.1,w3.2.2.1,w3.2.2.2.1,wrap .i64 (w3.2.2.2.2.1+1),()))) (some (.inr (s.1,s.2.1,())))) s.2.2.1 s.2.2.2.1 s.2.2.2.2.1
def b4P(s:Z73):Option (Z73 ⊕ (LI×Unit)):=(fun(a b:Int)(c:LI)=>cond (decide (b<a)) ((m0k s.2.1 b).bind fun x5=>cond (decide (s.1<0)) none (cond ((decide (0≤b))&&(decide (b<(c.length:Int)))) (some (.inl (s.1,s.2.1,a,wrap .i64 (b+1),a05 c (a00 b) (A0o .i64 x5 s.1),()))) none)) (some (.inr (c,())))) s.2.2.1 s.2.2.2.1 s.2.2.2.2.1
def b2v(x:LI):Option LI:=(y0s b4O (x,0,x,(x.length:Int),0,())).bind fun w4=>cond ((decide (0≤(w4.1.length:Int)))&&((decide ((w4.1.length:Int)≤(w4.1.length:Int)))&&(lim (a00 (w4.1.length:Int))))) ((y0s b4P (w4.2.1,w4.1,(w4.1.length:Int),0,a02 (a00 (w4.1.length:Int)) 0,())).bind fun w6=>some w6.1) none
def b8u:FSem:=⟨[.v QL],[.o QI],b2v⟩
def d9n:Hints:=⟨[(58,[.sv 0 QL,3,.sv 9 QL,10,11],[Qe 0 [.sv 0 QL,3]]),(250,[3,.sv 29 QL,30,31,.own 6 6 QI],[Qe 4 [.own 6 6 QI]]),(7474,[.sv 0 QL,3,5,.sv 9 QL,10,11],[Qe 2 [.sv 0 QL,3,.sv 9 QL,10,11]])],[],[(5,[.v,.v,.v,.v,.v,.v,.v,.x])]⟩
def b2T(s:Z77):Option (Z77 ⊕ (Int×Int×Unit)):=(fun(a b:LI)(c d e:Int)=>cond (decide (e<(a.length:Int))) ((m0k a e).bind fun x1=>(m0k b (wrap .i64 (e-1))).bind fun x2=>(m0k a e).bind fun x3=>(m0k a e).bind fun x4=>(m0k b (wrap .i64 (e-1))).bind fun x5=>(m0k b (wrap .i64 (e-1))).bind fun x6=>some (.inl (a,b,wrap .i64 (c+(wrap .i64 (x1*x2))),wrap .i64 (d+(wrap .i64 ((wrap .i64 (x3*x4))+(wrap .i64 (x5*x6))))),wrap .i64 (e+1),()))) (some (.inr (c,d,())))) s.1 s.2.1 s.2.2.1 s.2.2.2.1 s.2.2.2.2.1
def b2U(s:(Int×Int×Unit)):Option ((Int×Int×Unit) ⊕ (Int×Int×Unit)):=cond (decide (s.2.1≥1099511627776)) (some (.inl (A0o .i64 s.1 1,A0o .i64 s.2.1 1,()))) (some (.inr (s.1,s.2.1,())))
def a9D(x:Z12):Option Int:=(y0s b2T (x.1,x.2.1,0,0,x.2.2,())).bind fun w7=>(y0s b2U (w7.1,w7.2.1,())).bind fun w8=>cond (w8.2.1==0) (some 0) (cond (w8.2.1==0) none ((show Option (Int×Unit)from cond (w8.2.1==0) none (cond (decide ((a08 (A0n .i64 w8.1 15) w8.2.1)<0)) (some (wrap .i64 ((wrap .i64 (a07 (A0n .i64 w8.1 15) w8.2.1))-1),())) (some (wrap .i64 (a07 (A0n .i64 w8.1 15) w8.2.1),())))).bind fun z9=>some (v0s (v0r z9.1 (-16383)) 16383)))
def b4x:FSem:=⟨[.v QL,.v QL,.v QI],[.v QI],a9D⟩
def d9o:Hints:=⟨[(58,[.sv 0 QL,.sv 1 QL,7,8,9],[Qe 0 [7,8]]),(60,[7,8],[Qe 2 [7,8]])],[(255,[Qn [10]])],[(5,[.v,.v,.v,.v,.v,.v,.v,.v,.v,.v,.v,.x,.x]),(6,[.v,.v,.v,.v,.v,.v,.v,.v,.v,.v,.v,.v,.v,.v,.v,.v,.v,.v,.v,.v,.v,.v,.x,.x])]⟩
def b4y(s:(Int×Int×Z90)):Option ((Int×Int×Z90) ⊕ Z90):=(fun(a b c:Int)(d e f:LI)=>cond (decide (c≥a)) (cond ((decide (0≤c))&&(decide (c<(d.length:Int)))) (cond ((decide (0≤(wrap .i64 (c-1))))&&(decide ((wrap .i64 (c-1))<(e.length:Int)))) ((a7t (wrap .i64 ((a04 d (a00 c) 0)-(A0o .i64 (wrap .i64 (b*(a04 e (a00 (wrap .i64 (c-1))) 0))) 14)))).bind fun y6=>cond ((decide (0≤c))&&(decide (c<(d.length:Int)))) ((a7t (wrap .i64 ((a04 e (a00 (wrap .i64 (c-1))) 0)-(A0o .i64 (wrap .i64 (b*(a04 d (a00 c) 0))) 14)))).bind fun y7=>cond ((decide (0≤c))&&(decide (c<(e.length:Int)))) (some (.inl (s.1,a,b,wrap .i64 (c-1),a05 d (a00 c) y6,a05 e (a00 c) y7,f,()))) none) none) none) none) (some (.inr (s.1,a,d,e,f,())))) s.2.1 s.2.2.1 s.2.2.2.1 s.2.2.2.2.1 s.2.2.2.2.2.1 s.2.2.2.2.2.2.1
def b4z(s:Z90):Option (Z90 ⊕ (LI×Unit)):=(fun(a:Int)(b c d:LI)=>cond (decide (a≤s.1)) ((a9D (b,c,a)).bind fun y5=>cond (lim ((a01 d)+1)) ((y0s b4y (s.1,a,y5,wrap .i64 ((b.length:Int)-1),b,c,a03 d [y5],())).bind fun w8=>some (.inl (w8.1,wrap .i64 (w8.2.1+1),w8.2.2.1,w8.2.2.2.1,w8.2.2.2.2.1,()))) none) (some (.inr (d,())))) s.2.1 s.2.2.1 s.2.2.2.1 s.2.2.2.2.1
def b1O(x:(LI×Int)):Option (LI×Int):=(show Option Z21 from cond (decide (x.2<1)) (some (x.1,x.2,true,())) (cond (decide (x.2 > 32)) (some (x.1,x.2,true,())) (some (x.1,x.2,decide ((x.1.length:Int) > 4096),())))).bind fun z1=>cond z1.2.2.1 (some ([],1)) ((a2g z1.1).bind fun y2=>cond (!y2) (some ([],6)) ((b2v z1.1).bind fun y3=>(a0Z y3).bind fun y4=>cond ((decide (0≤z1.2.1))&&(lim (a00 z1.2.1))) ((y0s b4z (z1.2.1,1,y3,y4,[],())).bind fun w9=>some (w9.1,0)) none))
def b7H:FSem:=⟨[.v QL,.v QI],[.o QI,.v QI],b1O⟩
def d9p:Hints:=⟨[(1018,[1,9,.own 6 6 QI,.own 7 7 QI,.own 8 8 QI],[Qe 0 [.own 8 8 QI]]),(260686,[1,9,10,11,.own 6 6 QI,.own 7 7 QI,.own 8 8 QI],[Qe 2 [1,9,.own 6 6 QI,.own 7 7 QI,.own 8 8 QI]])],[(6,[Qn [.sv 0 QL,1,.sv 24 .bool]])],[(16,[.q,.v,.q,.q,.q,.v,.v,.q,.q,.v,.x])]⟩
def b6q(s:Z54):Option (Z54 ⊕ ((LI×Unit) ⊕ Z6)):=(fun(a:LI)(b c:Int)=>cond (decide (c<b)) ((m0k a c).bind fun x2=>(show Option (LI×Z40)from cond (decide (x2<(-16383))) (some (s.1,a,b,c,true,())) (some (s.1,a,b,c,decide (x2 > 16383),()))).bind fun z3=>cond z3.2.2.2.2.1 (some (.inr (Sum.inr (([],1,()))))) (some (.inl (z3.1,z3.2.1,z3.2.2.1,wrap .i64 (z3.2.2.2.1+1),())))) (some (.inr (Sum.inl (s.1,()))))) s.2.1 s.2.2.1 s.2.2.2.1
def b6r(s:(LI×(Int×(Int×(LI×Z97))))):Option ((LI×(Int×(Int×(LI×Z97)))) ⊕ Z73):=(fun(a:Int)(b:LI)(c d:Int)(e:LI)(f g:Int)(h:LI)=>cond (decide (g<f)) ((m0k e g).bind fun x8=>(m0k s.1 (wrap .i64 ((wrap .i64 (s.2.1-1))-g))).bind fun x9=>cond (lim ((a01 h)+1)) (some (.inl (s.1,s.2.1,a,b,c,d,e,f,wrap .i64 (g+1),a03 h [wrap .i64 (x8-(A0o .i64 (wrap .i64 (a*x9)) 14))],()))) none) (some (.inr (a,b,c,d,h,())))) s.2.2.1 s.2.2.2.1 s.2.2.2.2.1 s.2.2.2.2.2.1 s.2.2.2.2.2.2.1 s.2.2.2.2.2.2.2.1 s.2.2.2.2.2.2.2.2.1 s.2.2.2.2.2.2.2.2.2.1
def b6s(s:Z54):Option (Z54 ⊕ (LI×Unit)):=(fun(a:LI)(b c:Int)=>cond (decide (c<b)) ((m0k s.2.1 c).bind fun x7=>cond ((decide (0≤(wrap .i64 (c+1))))&&(lim (a00 (wrap .i64 (c+1))))) ((y0s b6r (a,c,x7,s.2.1,b,c,a,(a.length:Int),0,[],())).bind fun w10=>cond (lim ((a01 w10.2.2.2.2.1)+1)) (some (.inl (a03 w10.2.2.2.2.1 [w10.1],w10.2.1,w10.2.2.1,wrap .i64 (w10.2.2.2.1+1),()))) none) none) (some (.inr (a,())))) s.1 s.2.2.1 s.2.2.2.1
def b3g(x:LI):Option (LI×Int):=(show Option (LI×(Bool×Unit))from cond (decide ((x.length:Int)<1)) (some (x,true,())) (some (x,decide ((x.length:Int) > 32),()))).bind fun z1=>cond z1.2.1 (some ([],1)) ((y0s b6q (z1.1,z1.1,(z1.1.length:Int),0,())).bind fun w4=>match w4 with |.inl a5=>((y0s b6s ([],a5.1,(a5.1.length:Int),0,())).bind fun w11=>some (w11.1,0)) |.inr b6=>some (b6.1,b6.2.1))
def c0R:FSem:=⟨[.v QL],[.v QL,.v QI],b3g⟩
def d9q:Hints:=⟨[(58,[.sv 0 QL,.sv 20 QL,21,22],[Qe 0 [.sv 0 QL],Qr [.sv 2 QL,3]]),(250,[.sv 6 QL,.sv 34 QL,35,36],[Qe 2 [.sv 6 QL]]),(256410,[.sv 6 QL,7,8,.sv 34 QL,35,36,.sv 44 QL,45,46,.own 9 9 QI],[Qe 4 [8,.sv 34 QL,35,36,.own 9 9 QI]])],[(6,[Qn [.sv 0 QL,.sv 19 .bool]]),(3737,[Qn [.sv 0 QL,.sv 20 QL,21,22,.sv 31 .bool]])],[]⟩
def b6t(s:Z76):Option (Z76 ⊕ (Z6 ⊕ Z19)):=(fun(a:Int)(b:LI)(c d:Int)=>cond (decide (d<c)) ((m0k b d).bind fun x2=>(show Option (LI×(Int×Z40))from cond (decide (x2<(-35184372088832))) (some (s.1,a,b,c,d,true,())) (some (s.1,a,b,c,d,decide (x2 > 35184372088832),()))).bind fun z3=>cond z3.2.2.2.2.2.1 (some (.inr (Sum.inr ((0,1,[],()))))) (some (.inl (z3.1,z3.2.1,z3.2.2.1,z3.2.2.2.1,wrap .i64 (z3.2.2.2.2.1+1),())))) (some (.inr (Sum.inl (s.1,a,()))))) s.2.1 s.2.2.1 s.2.2.2.1 s.2.2.2.2.1
def b6u(s:(LI×(Int×Z97))):Option ((LI×(Int×Z97)) ⊕ Z49):=(fun(a b c:Int)(d:LI)(e f:Int)(g:LI)=>cond (decide (f<e)) ((m0k d f).bind fun x8=>cond (decide (b<0)) none ((a1J (A0o .i64 (wrap .i64 (x8+c)) b,a)).bind fun y9=>cond (!y9) (some (.inr (s.1,a,b,g,()))) (cond (lim ((a01 g)+1)) (some (.inl (s.1,a,b,c,d,e,wrap .i64 (f+1),a03 g [A0o .i64 (wrap .i64 (x8+c)) b],()))) none))) (some (.inr (s.1,a,b,g,())))) s.2.1 s.2.2.1 s.2.2.2.1 s.2.2.2.2.1 s.2.2.2.2.2.1 s.2.2.2.2.2.2.1 s.2.2.2.2.2.2.2.1
def b6v(s:Z18):Option (Z18 ⊕ (Unit ⊕ Z19)):=(fun(a:Int)=>cond (decide (a≤14)) ((show Option Z37 from cond (decide (a > 0)) (cond (decide ((wrap .i64 (a-1))<0)) none (some (s.1,s.2.1,a,A0n .i64 1 (wrap .i64 (a-1)),()))) (some (s.1,s.2.1,a,0,()))).bind fun z7=>cond ((decide (0≤(z7.1.length:Int)))&&(lim (a00 (z7.1.length:Int)))) ((y0s b6u (z7.1,z7.2.1,z7.2.2.1,z7.2.2.2.1,z7.1,(z7.1.length:Int),0,[],())).bind fun w10=>cond ((w10.2.2.2.1.length:Int)==(w10.1.length:Int)) (some (.inr (Sum.inr ((wrap .i64 (14-w10.2.2.1),0,w10.2.2.2.1,()))))) (some (.inl (w10.1,w10.2.1,wrap .i64 (w10.2.2.1+1),())))) none) (some (.inr (Sum.inl ())))) s.2.2.1
def b3h(x:(LI×Int)):Option Z3:=(show Option Z21 from cond (decide ((x.1.length:Int)<1)) (some (x.1,x.2,true,())) (cond (decide ((x.1.length:Int) > 32)) (some (x.1,x.2,true,())) (cond (decide (x.2<2)) (some (x.1,x.2,true,())) (some (x.1,x.2,decide (x.2 > 16),()))))).bind fun z1=>cond z1.2.2.1 (some ([],0,1)) ((y0s b6t (z1.1,z1.2.1,z1.1,(z1.1.length:Int),0,())).bind fun w4=>match w4 with |.inl a5=>((y0s b6v (a5.1,a5.2.1,0,())).bind fun w11=>match w11 with |.inl a12=>some ([],0,6) |.inr b13=>some (b13.2.2.1,b13.1,b13.2.1)) |.inr b6=>some (b6.2.2.1,b6.1,b6.2.1))
def c0S:FSem:=⟨[.v QL,.v QI],[.o QI,.v QI,.v QI],b3h⟩
def d9r:Hints:=⟨[(58,[.sv 0 QL,1,.sv 31 QL,32,33],[Qe 0 [.sv 0 QL,1],Qr [5,6,.own 4 4 QI]]),(122,[.sv 0 QL,1,9],[Qe 2 [],Qr [5,6,.own 4 11 QI]]),(125242,[.sv 0 QL,1,9,10,.sv 56 QL,57,58,.own 11 11 QI],[Qe 4 [.sv 0 QL,1,9,.own 11 11 QI]])],[(6,[Qn [.sv 0 QL,1,.sv 30 .bool]]),(3737,[Qn [.sv 0 QL,1,.sv 31 QL,32,33,.sv 42 .bool]]),(3913,[Qn [.sv 0 QL,1,9,10]])],[]⟩
def b1e(x:Z3):Option Z3:=(b1O (x.1,x.2.1)).bind fun y1=>cond (y1.2 != 0) (some ([],0,y1.2)) ((b3g y1.1).bind fun y2=>cond (y2.2 != 0) (some ([],0,y2.2)) ((b3h (y2.1,x.2.2)).bind fun y3=>some (y3.1,y3.2.1,y3.2.2)))
def c3a:FSem:=⟨[.v QL,.v QI,.v QI],[.o QI,.v QI,.v QI],b1e⟩
def c0T(s:(LI×Z85)):Option ((LI×Z85) ⊕ (LI×Z66)):=(fun(a:LI)(b c d e f g:Int)=>cond (decide (g<(a.length:Int))) ((m0k a g).bind fun x3=>(m0k a (wrap .i64 (g-e))).bind fun x4=>some (.inl (a,s.2.1,b,c,d,e,wrap .i64 (f+(v0r (wrap .i64 (x3-x4)) (wrap .i64 (0-(wrap .i64 (x3-x4)))))),wrap .i64 (g+1),()))) (some (.inr (a,s.2.1,b,c,d,e,f,())))) s.1 s.2.2.1 s.2.2.2.1 s.2.2.2.2.1 s.2.2.2.2.2.1 s.2.2.2.2.2.2.1 s.2.2.2.2.2.2.2.1
def c0U(s:(LI×Z43)):Option ((LI×Z43) ⊕ (Int×Unit)):=(fun(a b c:Int)=>cond (decide (c≤a)) ((y0s c0T (s.1,s.2.1,a,b,s.2.2.2.2.1,c,0,a,())).bind fun w5=>(show Option (LI×(Int×Int×Int×Z28))from cond (w5.2.2.2.2.2.1==w5.2.1) (some (w5.1,w5.2.1,w5.2.2.1,w5.2.2.2.1,w5.2.2.2.2.1,w5.2.2.2.2.2.1,w5.2.2.2.2.2.2.1,true,())) (some (w5.1,w5.2.1,w5.2.2.1,w5.2.2.2.1,w5.2.2.2.2.1,w5.2.2.2.2.2.1,w5.2.2.2.2.2.2.1,decide (w5.2.2.2.2.2.2.1<w5.2.2.2.2.1),()))).bind fun z6=>cond z6.2.2.2.2.2.2.2.1 (some (.inl (z6.1,z6.2.1,z6.2.2.1,z6.2.2.2.2.2.1,z6.2.2.2.2.2.2.1,wrap .i64 (z6.2.2.2.2.2.1+1),()))) (some (.inl (z6.1,z6.2.1,z6.2.2.1,z6.2.2.2.1,z6.2.2.2.2.1,wrap .i64 (z6.2.2.2.2.2.1+1),())))) (some (.inr (b,())))) s.2.2.1 s.2.2.2.1 s.2.2.2.2.2.1
def b6P(x:Z3):Option (Int×Int):=(fun(a:LI)(b:Int)=>(show Option Z40 from cond (decide (b<2)) (some (a,b,x.2.2,true,())) (cond (decide (b > x.2.2)) (some (a,b,x.2.2,true,())) (cond (decide (x.2.2 > 1024)) (some (a,b,x.2.2,true,())) (some (a,b,x.2.2,decide ((a.length:Int) > 4096),()))))).bind fun z1=>cond z1.2.2.2.1 (some (0,1)) (cond (decide ((z1.1.length:Int)≤z1.2.2.1)) (some (0,7)) ((a3K z1.1).bind fun y2=>cond (!y2) (some (0,6)) ((y0s c0U (z1.1,z1.2.1,z1.2.2.1,0,0,z1.2.1,())).bind fun w7=>some (w7.1,0))))) x.1 x.2.1
def c5Z:FSem:=⟨[.v QL,.v QI,.v QI],[.v QI,.v QI],b6P⟩
def d9s:Hints:=⟨[(506,[.sv 0 QL,1,2,8,9,10],[Qe 0 [8]]),(129610,[.sv 0 QL,1,2,8,9,10,11,12],[Qe 2 [.sv 0 QL,1,2,8,9,10,11]])],[(6,[Qn [.sv 0 QL,1,2,.sv 29 .bool]]),(32403,[Qn [.sv 0 QL,1,2,8,9,10,11,.sv 74 .bool]])],[(15,[.v,.v,.v,.v,.v,.v,.v,.v,.v,.v,.x,.x])]⟩
def c0V(s:(LI×c7k)):Option ((LI×c7k) ⊕ Z57):=(fun(a:LI)(b c:Int)(d e:LI)=>cond (decide (c<b)) ((m0k a c).bind fun x3=>(a3L (s.1,c,s.2.1,e)).bind fun y4=>(a6m (wrap .i64 (x3-y4))).bind fun y5=>cond (!y5) (some (.inr (Sum.inr ((6,[],()))))) (cond (lim ((a01 d)+1)) (some (.inl (s.1,s.2.1,a,b,wrap .i64 (c+1),a03 d [wrap .i64 (x3-y4)],e,()))) none)) (some (.inr (Sum.inl (d,()))))) s.2.2.1 s.2.2.2.1 s.2.2.2.2.1 s.2.2.2.2.2.1 s.2.2.2.2.2.2.1
def b0H(x:Z13):Option (LI×Int):=(a7l (x.2.1,x.2.2)).bind fun y1=>cond (!y1) (some ([],1)) ((a3K x.1).bind fun y2=>cond (!y2) (some ([],6)) (cond ((decide (0≤(x.1.length:Int)))&&(lim (a00 (x.1.length:Int)))) ((y0s c0V (x.1,x.2.1,x.1,(x.1.length:Int),0,[],x.2.2,())).bind fun w6=>match w6 with |.inl a7=>some (a7.1,0) |.inr b8=>some (b8.2.1,b8.1)) none))
def c6a:FSem:=⟨[.v QL,.v QI,.v (.arr 3 QI)],[.o QI,.v QI],b0H⟩
def d9t:Hints:=⟨[(250,[.sv 0 QL,1,.sv 22 QL,23,24,.own 8 8 QI,.vp 5 (.arr 3 QI)],[Qe 0 [.own 8 8 QI],Qr [7,.own 6 6 QI]])],[],[]⟩
def b4Q(x:Unit):Option (List LI):=some ([a05 (a05 (a05 (a02 3 0) 0 0) 1 0) 2 0,a05 (a05 (a05 (a02 3 0) 0 0) 1 64) 2 0,a05 (a05 (a05 (a02 3 0) 0 0) 1 32) 2 0,a05 (a05 (a05 (a02 3 0) 0 16) 1 32) 2 16,a05 (a05 (a05 (a02 3 0) 0 21) 1 22) 2 21,a05 (a05 (a05 (a02 3 0) 0 0) 1 48) 2 0,a05 (a05 (a05 (a02 3 0) 0 (-8)) 1 64) 2 (-8),a05 (a05 (a05 (a02 3 0) 0 32) 1 32) 2 0,a05 (a05 (a05 (a02 3 0) 0 0) 1 32) 2 32]:List LI)
def c4o:FSem:=⟨[],[.o (.arr 3 QI)],b4Q⟩
def c0W(s:(LI×(Int×(Int×(Bool×(Int×(Int×(Int×(Int×(Int×((List LI)×(LI×Z48)))))))))))):Option ((LI×(Int×(Int×(Bool×(Int×(Int×(Int×(Int×(Int×((List LI)×(LI×Z48))))))))))) ⊕ (LI×(Int×(Int×(Bool×(Int×(Int×(Int×((List LI)×Z48))))))))):=(fun(a:Int)(b:Bool)(c d e f g:Int)(h:List LI)(i j k l:LI)=>cond (decide (g<f)) (cond ((decide (0≤g))&&(decide (g<(i.length:Int)))) (some (.inl (s.1,s.2.1,a,b,wrap .i64 (c+(v0r (a04 i (a00 g) 0) (wrap .i64 (0-(a04 i (a00 g) 0))))),d,e,f,wrap .i64 (g+1),h,i,j,k,l,()))) none) (some (.inr (s.1,s.2.1,a,b,c,d,e,h,j,k,l,())))) s.2.2.1 s.2.2.2.1 s.2.2.2.2.1 s.2.2.2.2.2.1 s.2.2.2.2.2.2.1 s.2.2.2.2.2.2.2.1 s.2.2.2.2.2.2.2.2.1 s.2.2.2.2.2.2.2.2.2.1 s.2.2.2.2.2.2.2.2.2.2.1 s.2.2.2.2.2.2.2.2.2.2.2.1 s.2.2.2.2.2.2.2.2.2.2.2.2.1 s.2.2.2.2.2.2.2.2.2.2.2.2.2.1
def c0X(s:(LI×(Int×(Int×(Bool×(Int×(Int×((List LI)×Z15)))))))):Option ((LI×(Int×(Int×(Bool×(Int×(Int×((List LI)×Z15))))))) ⊕ (Bool×Z15)):=(fun(a b:Int)(c:Bool)(d e:Int)(f:List LI)(g h:LI)=>cond (decide (e<d)) (cond ((decide (0≤e))&&(decide (e<(f.length:Int)))) ((b0H (s.1,a,a04 f (a00 e) (a02 3 0))).bind fun y3=>cond (y3.2 != 0) (some (.inl (s.1,a,b,c,d,wrap .i64 (e+1),f,g,h,()))) ((y0s c0W (s.1,a,b,c,0,d,e,(y3.1.length:Int),0,f,y3.1,g,h,a04 f (a00 e) (a02 3 0),())).bind fun w4=>(show Option (LI×(Int×(Int×(Bool×(Int×(Int×(Int×(Bool×((List LI)×Z48)))))))))from cond (!w4.2.2.2.1) (some (w4.1,w4.2.1,w4.2.2.1,w4.2.2.2.1,w4.2.2.2.2.1,w4.2.2.2.2.2.1,w4.2.2.2.2.2.2.1,true,w4.2.2.2.2.2.2.2.1,w4.2.2.2.2.2.2.2.2.1,w4.2.2.2.2.2.2.2.2.2.1,w4.2.2.2.2.2.2.2.2.2.2.1,())) (some (w4.1,w4.2.1,w4.2.2.1,w4.2.2.2.1,w4.2.2.2.2.1,w4.2.2.2.2.2.1,w4.2.2.2.2.2.2.1,decide (w4.2.2.2.2.1<w4.2.2.1),w4.2.2.2.2.2.2.2.1,w4.2.2.2.2.2.2.2.2.1,w4.2.2.2.2.2.2.2.2.2.1,w4.2.2.2.2.2.2.2.2.2.2.1,()))).bind fun z5=>cond z5.2.2.2.2.2.2.2.1 (some (.inl (z5.1,z5.2.1,z5.2.2.2.2.1,true,z5.2.2.2.2.2.1,wrap .i64 (z5.2.2.2.2.2.2.1+1),z5.2.2.2.2.2.2.2.2.1,z5.2.2.2.2.2.2.2.2.2.1,z5.2.2.2.2.2.2.2.2.2.2.2.1,()))) (some (.inl (z5.1,z5.2.1,z5.2.2.1,z5.2.2.2.1,z5.2.2.2.2.2.1,wrap .i64 (z5.2.2.2.2.2.2.1+1),z5.2.2.2.2.2.2.2.2.1,z5.2.2.2.2.2.2.2.2.2.1,z5.2.2.2.2.2.2.2.2.2.2.1,()))))) none) (some (.inr (c,g,h,())))) s.2.1 s.2.2.1 s.2.2.2.1 s.2.2.2.2.1 s.2.2.2.2.2.1 s.2.2.2.2.2.2.1 s.2.2.2.2.2.2.2.1 s.2.2.2.2.2.2.2.2.1
def b6Q(x:(LI×Int)):Option (LI×Int):=(show Option (LI×Z23)from cond (decide (x.2<2)) (some (x.1,x.2,true,a02 3 0,())) (some (x.1,x.2,decide (x.2 > 1024),a02 3 0,()))).bind fun z1=>cond z1.2.2.1 (some (a02 3 0,1)) ((b4Q ()).bind fun y2=>(y0s c0X (z1.1,z1.2.1,0,false,(y2.length:Int),0,y2,z1.2.2.2.1,a02 3 0,())).bind fun w6=>cond (!w6.1) (some (a02 3 0,6)) (some (w6.2.2.1,0)))
def c6b:FSem:=⟨[.v QL,.v QI],[.v (.arr 3 QI),.v QI],b6Q⟩
def d9u:Hints:=⟨[(122,[.sv 0 QL,1,7,.sv 8 .bool,25,26,.own 24 1024 (.arr 3 QI),.box 4 (.arr 3 QI),.box 6 (.arr 3 QI),Qp 4 4,Qp 6 6],[Qe 0 [.sv 8 .bool,.box 4 (.arr 3 QI),.box 6 (.arr 3 QI),Qp 4 4,Qp 6 6]]),(501370,[.sv 0 QL,1,7,.sv 8 .bool,13,25,26,40,41,.own 24 1024 (.arr 3 QI),.own 39 11 QI,.box 4 (.arr 3 QI),.box 6 (.arr 3 QI),.box 10 (.arr 3 QI),Qp 4 4,Qp 6 6,Qp 10 10],[Qe 2 [.sv 0 QL,1,7,.sv 8 .bool,13,25,26,.own 24 1024 (.arr 3 QI),.box 4 (.arr 3 QI),.box 6 (.arr 3 QI),.box 10 (.arr 3 QI),Qp 4 4,Qp 6 6,Qp 10 10]])],[(6,[Qn [.sv 0 QL,1,.sv 21 .bool,.box 4 (.arr 3 QI),Qp 4 4]]),(125343,[Qn [.sv 0 QL,1,7,.sv 8 .bool,13,25,26,.sv 58 .bool,.own 24 1024 (.arr 3 QI),.box 4 (.arr 3 QI),.box 6 (.arr 3 QI),.box 10 (.arr 3 QI),Qp 4 4,Qp 6 6,Qp 10 10]])],[]⟩
def b4R(x:LI):Option (a1b×Bool):=(b6P (x,16,256)).bind fun y1=>cond (y1.2 != 0) (some ((0,0,0,0,0,[],a02 3 0,[],[],(0,[],()),[],()),false)) ((b6Q (x,y1.1)).bind fun y2=>cond (y2.2 != 0) (some ((0,0,0,0,0,[],a02 3 0,[],[],(0,[],()),[],()),false)) ((b0H (x,y1.1,y2.1)).bind fun y3=>cond (y3.2 != 0) (some ((0,0,0,0,0,[],a02 3 0,[],[],(0,[],()),[],()),false)) ((b1e (y3.1,4,12)).bind fun y4=>cond (y4.2.2 != 0) (some ((0,0,0,0,0,[],a02 3 0,[],[],(0,[],()),[],()),false)) (some ((4,0,0,y4.2.1,y1.1,y4.1,y2.1,[],[],(0,[],()),[],()),true)))))
def c4p:FSem:=⟨[.v QL],[.v Q43,.v .bool],b4R⟩
def a1G(x:(Int×(Int×(LI×a9I)))):Option (LI×a9I):=(b1e (x.2.2.1,x.1,x.2.1)).bind fun y1=>cond (y1.2.2==0) (cond (lim ((a01 x.2.2.2)+1)) (some (x.2.2.1,a03 x.2.2.2 ([(3,0,0,y1.2.1,0,y1.1,a02 3 0,[],[],(0,[],()),[],())]:List a1b))) none) (some (x.2.2.1,x.2.2.2))
def b4S:FSem:=⟨[.v QI,.v QI,.r false (.b QL),.r false (.b (.list true Q43))],[],a1G⟩
def b4A(s:(Int×c7s)):Option ((Int×c7s) ⊕ c7s):=cond (decide (s.1<5)) (cond (lim ((a01 s.2.1)+1)) (some (.inl (wrap .i64 (s.1+1),a03 s.2.1 ([(2,0,s.1,0,0,[],a02 3 0,[],[],(0,[],()),[],())]:List a1b),s.2.2.1,()))) none) (some (.inr (s.2.1,s.2.2.1,())))
def b1P(x:(LI×Int)):Option a9I:=(b4M x.1).bind fun y1=>(show Option (Int×(LI×d1a))from cond (decide (x.2≥1)) ((a1G (4,12,x.1,([(0,0,0,0,0,[],a02 3 0,[],[],(0,[],()),[],()),(1,0,0,0,0,[],a02 3 0,[],[],(0,[],()),[],()),(2,0,y1,0,0,[],a02 3 0,[],[],(0,[],()),[],())]:List a1b))).bind fun y2=>(a1G (8,12,y2.1,y2.2)).bind fun y3=>some (x.2,y3.1,y3.2,())) (some (x.2,x.1,([(0,0,0,0,0,[],a02 3 0,[],[],(0,[],()),[],()),(1,0,0,0,0,[],a02 3 0,[],[],(0,[],()),[],()),(2,0,y1,0,0,[],a02 3 0,[],[],(0,[],()),[],())]:List a1b),()))).bind fun z4=>(show Option (Int×c7s)from cond (decide (z4.1≥2)) (cond (lim ((a01 z4.2.2.1)+1)) (cond (lim ((a01 (a03 z4.2.2.1 ([(5,0,0,0,0,[],a02 3 0,([(16,4,())]:List (Int×Int×Unit)),[],(0,[],()),[],())]:List a1b)))+1)) ((b4R z4.2.1).bind fun y5=>cond y5.2 (cond (lim ((a01 (a03 (a03 z4.2.2.1 ([(5,0,0,0,0,[],a02 3 0,([(16,4,())]:List (Int×Int×Unit)),[],(0,[],()),[],())]:List a1b)) ([(5,0,0,0,0,[],a02 3 0,([(32,3,()),(16,5,())]:List (Int×Int×Unit)),[],(0,[],()),[],())]:List a1b)))+1)) (some (z4.1,a03 (a03 (a03 z4.2.2.1 ([(5,0,0,0,0,[],a02 3 0,([(16,4,())]:List (Int×Int×Unit)),[],(0,[],()),[],())]:List a1b)) ([(5,0,0,0,0,[],a02 3 0,([(32,3,()),(16,5,())]:List (Int×Int×Unit)),[],(0,[],()),[],())]:List a1b)) ([y5.1]:List a1b),z4.2.1,())) none) (some (z4.1,a03 (a03 z4.2.2.1 ([(5,0,0,0,0,[],a02 3 0,([(16,4,())]:List (Int×Int×Unit)),[],(0,[],()),[],())]:List a1b)) ([(5,0,0,0,0,[],a02 3 0,([(32,3,()),(16,5,())]:List (Int×Int×Unit)),[],(0,[],()),[],())]:List a1b),z4.2.1,()))) none) none) (some (z4.1,z4.2.2.1,z4.2.1,()))).bind fun z6=>(show Option d1a from cond (decide (z6.1≥3)) ((y0s b4A (0,z6.2.1,z6.2.2.1,())).bind fun w7=>(a1G (1,12,w7.2.1,w7.1)).bind fun y8=>(a1G (2,12,y8.1,y8.2)).bind fun y9=>(a1G (12,14,y9.1,y9.2)).bind fun y10=>(a1G (16,14,y10.1,y10.2)).bind fun y11=>some (y11.2,())) (some (z6.2.1,()))).bind fun z12=>some z12.1
def b7I:FSem:=⟨[.v QL,.v QI],[.v (.list false Q43)],b1P⟩
def d9v:Hints:=⟨[(4050,[50,.box 5 (.list true Q43),.box 2 QL,Qp 5 5,.clo 6 193 [2,5]],[Qe 0 [.box 5 (.list true Q43),.box 2 QL,Qp 5 5,.clo 6 193 [2,5]]])],[(15,[Qn [1,.box 2 QL,.box 5 (.list true Q43),Qp 2 2,Qp 5 5,.clo 6 193 [2,5]]]),(31,[Qn [1,.box 5 (.list true Q43),.box 2 QL,Qp 5 5,.clo 6 193 [2,5]]]),(63,[Qn [.box 5 (.list true Q43),Qp 5 5]])],[]⟩
def b7J(s:Z91):Option (Z91 ⊕ Z57):=(fun(a:LI)(b c:Int)(d:LI)=>cond (decide (c<(a.length:Int))) ((m0k a c).bind fun x4=>cond ((decide (0≤c))&&(decide (c≤(a.length:Int)))) ((a3S (a06 (a00 c) a,s.2.1,b)).bind fun y5=>(a4p (wrap .i64 (x4-y5))).bind fun y6=>cond (!y6) (some (.inr (Sum.inr ((6,[],()))))) (cond (lim ((a01 d)+1)) (some (.inl (a,s.2.1,b,wrap .i64 (c+1),a03 d [wrap .i64 (x4-y5)],()))) none)) none) (some (.inr (Sum.inl (d,()))))) s.1 s.2.2.1 s.2.2.2.1 s.2.2.2.2.1
def b1f(x:Z12):Option (LI×Int):=(show Option Z58 from(a3R (x.2.1,x.2.2)).bind fun y1=>cond (!y1) (some (x.1,x.2.1,x.2.2,true,())) (some (x.1,x.2.1,x.2.2,decide ((x.1.length:Int)<(x.2.1.length:Int)),()))).bind fun z2=>cond z2.2.2.2.1 (some ([],1)) ((a2g z2.1).bind fun y3=>cond (!y3) (some ([],6)) (cond ((decide (0≤(wrap .i64 ((z2.1.length:Int)-(z2.2.1.length:Int)))))&&(lim (a00 (wrap .i64 ((z2.1.length:Int)-(z2.2.1.length:Int)))))) ((y0s b7J (z2.1,z2.2.1,z2.2.2.1,(z2.2.1.length:Int),[],())).bind fun w7=>match w7 with |.inl a8=>some (a8.1,0) |.inr b9=>some (b9.2.1,b9.1)) none))
def c3b:FSem:=⟨[.v QL,.v QL,.v QI],[.o QI,.v QI],b1f⟩
def d9w:Hints:=⟨[(250,[.sv 0 QL,.sv 1 QL,2,9,.own 8 8 QI],[Qe 0 [.own 8 8 QI],Qr [7,.own 6 6 QI]])],[(6,[Qn [.sv 0 QL,.sv 1 QL,2,.sv 21 .bool]])],[(9,[.v,.v,.v,.v,.v,.v,.v,.v,.v,.v,.x,.x])]⟩
def b8v(s:(Z4×Int×Int×c7m)):Option ((Z4×Int×Int×c7m) ⊕ ((Z4×Z19) ⊕ Z5)):=(fun(a b c:Int)(d:LI)=>cond (decide (c<b)) (cond ((decide (0≤c))&&(decide (c<(d.length:Int)))) ((a1N s.2.2.2.2.2.2.1).bind fun y6=>(a5s (wrap .i64 ((a04 d (a00 c) 0)-y6.1))).bind fun y7=>cond (!y7) (some (.inr (Sum.inr ((6,[],()))))) ((a2I (y6.2,a04 d (a00 c) 0)).bind fun y8=>cond ((decide (0≤c))&&(decide (c<(d.length:Int)))) (some (.inl (s.1,s.2.1,a,b,wrap .i64 (c+1),a05 d (a00 c) (wrap .i64 ((a04 d (a00 c) 0)-y6.1)),y8,()))) none)) none) (some (.inr (Sum.inl (s.1,s.2.1,a,d,()))))) s.2.2.1 s.2.2.2.1 s.2.2.2.2.1 s.2.2.2.2.2.1
def b8w(s:(Z4×Z19)):Option ((Z4×Z19) ⊕ Z57):=(fun(a:Int)(b:LI)=>cond (decide (a<s.2.1)) ((m0k s.1 a).bind fun x4=>(a8a x4).bind fun y5=>cond (y5.2 != 0) (some (.inr (Sum.inr ((y5.2,[],()))))) ((y0s b8v (s.1,s.2.1,a,(b.length:Int),0,b,y5.1,())).bind fun w9=>match w9 with |.inl a10=>some (.inl (a10.1,a10.2.1,wrap .i64 (a10.2.2.1+1),a10.2.2.2.1,())) |.inr b11=>some (.inr (Sum.inr ((b11.1,b11.2.1,())))))) (some (.inr (Sum.inl (b,()))))) s.2.2.1 s.2.2.2.1
def b4T(x:(LI×Z4)):Option (LI×Int):=(a6k x.2).bind fun y1=>cond (!y1) (some ([],1)) ((a4w x.1).bind fun y2=>cond (!y2) (some ([],6)) ((a0Z x.1).bind fun y3=>(y0s b8w (x.2,(x.2.length:Int),0,y3,())).bind fun w12=>match w12 with |.inl a13=>some (a13.1,0) |.inr b14=>some (b14.2.1,b14.1)))
def c4q:FSem:=⟨[.v QL,.v (.list false Q4)],[.o QI,.v QI],b4T⟩
def d9x:Hints:=⟨[(250,[.sv 22 (.list false Q4),23,24,.own 6 6 QI],[Qe 0 [.own 6 6 QI],Qr [5,.own 4 4 QI]]),(256414,[.sv 22 (.list false Q4),23,24,37,38,.own 6 6 QI,.box 1030 Q18,Qp 9 1030,.ref 36 6 []],[Qe 2 [.sv 22 (.list false Q4),23,24,.own 6 6 QI],Qr [5,.own 4 4 QI]])],[],[]⟩
def b6R(x:(a1b×LI)):Option (Int×a1b):=(fun(a:a1b)=>(show Option (LI×(LI×(Int×b3K)))from cond (a.1==2) ((b1N (x.2,a.2.2.1)).bind fun y1=>some (x.2,y1.1,y1.2,a,())) (cond (a.1==3) ((b1f (x.2,a.2.2.2.2.2.1,a.2.2.2.1)).bind fun y2=>some (x.2,y2.1,y2.2,a,())) (cond (a.1==4) ((b0H (x.2,a.2.2.2.2.1,a.2.2.2.2.2.2.1)).bind fun y3=>cond (y3.2==0) ((b1f (y3.1,a.2.2.2.2.2.1,a.2.2.2.1)).bind fun y4=>some (y3.1,y4.1,y4.2,a,())) (some (y3.1,[],y3.2,a,()))) (cond (a.1==5) ((b4T (x.2,a.2.2.2.2.2.2.2.1)).bind fun y5=>some (x.2,y5.1,y5.2,a,())) (some (x.2,[],0,a,())))))).bind fun z6=>cond (z6.2.2.1 != 0) (some (z6.2.2.1,z6.2.2.2.1)) ((a5r (z6.2.2.2.1,(z6.1.length:Int))).bind fun y7=>cond ((decide (0≤y7))&&(decide (y7≤(z6.1.length:Int)))) ((a0Z (a06 (a00 y7) z6.1)).bind fun y8=>some (0,z6.2.2.2.1.1,z6.2.2.2.1.2.1,z6.2.2.2.1.2.2.1,z6.2.2.2.1.2.2.2.1,z6.2.2.2.1.2.2.2.2.1,z6.2.2.2.1.2.2.2.2.2.1,z6.2.2.2.1.2.2.2.2.2.2.1,z6.2.2.2.1.2.2.2.2.2.2.2.1,y8,z6.2.2.2.1.2.2.2.2.2.2.2.2.2.1,z6.2.1,z6.2.2.2.1.2.2.2.2.2.2.2.2.2.2.2)) none)) x.1
def c6c:FSem:=⟨[.r false (.b Q43),.v QL],[.v QI],b6R⟩
def d9y:Hints:=⟨[],[(15,[Qn [.sv 1 QL,.sv 5 QL,6,.box pinned Q43,Qp 0 pinned]])],[(7,[.v,.p,.p,.q,.q,.p,.p,.q,.q,.x,.x,.q,.q,.q,.x]),(9,[.v,.p,.p,.q,.q,.p,.p,.q,.q,.x,.x,.q,.q,.q,.x]),(11,[.q,.p,.p,.q,.q,.p,.p,.q,.q,.x,.x,.q,.q,.q,.x])]⟩
def c0Y(s:Z37):Option (Z37 ⊕ (Int×Unit)):=(fun(a b:Int)=>cond (decide (b≤25)) ((a5E (b,s.1)).bind fun y2=>cond (decide (y2<a)) (some (.inl (s.1,b,y2,wrap .i64 (b+1),()))) (some (.inl (s.1,s.2.1,a,wrap .i64 (b+1),())))) (some (.inr (s.2.1,())))) s.2.2.1 s.2.2.2.1
def b6S(x:LI):Option Int:=(a5E (0,x)).bind fun y1=>(y0s c0Y (x,0,y1,1,())).bind fun w3=>some w3.1
def c6d:FSem:=⟨[.v QL],[.v QI],b6S⟩
def d9z:Hints:=⟨[(58,[.sv 0 QL,3,4,5],[Qe 0 [3]])],[],[]⟩
def b3i(x:LI):Option Int:=(b6S x).bind fun y1=>(a8d x).bind fun y2=>(a5E (y1,x)).bind fun y3=>cond (decide (y2<y3)) (some 31) (some y1)
def c0Z:FSem:=⟨[.v QL],[.v QI],b3i⟩
def b8x(s:(Int×(Int×(Int×(LI×(Int×(Int×(LI×(Int×(Int×(LI×c7o))))))))))):Option ((Int×(Int×(Int×(LI×(Int×(Int×(LI×(Int×(Int×(LI×c7o)))))))))) ⊕ (Int×(Int×(Int×(LI×(Int×Int×c7o)))))):=(fun(a:Int)(b:LI)(c d:Int)(e:LI)(f g:Int)(h:LI)(i j k:Z5)=>cond (decide (g<f)) (cond ((decide (0≤g))&&(decide (g<(h.length:Int)))) (cond ((decide (0≤(a04 h (a00 g) 0)))&&(decide ((a04 h (a00 g) 0)≤(e.length:Int)))) ((b3i (a06 (a00 (a04 h (a00 g) 0)) e)).bind fun y3=>cond (lim ((a01 k.2.1)+1)) (cond ((decide (0≤(a04 h (a00 g) 0)))&&(decide ((a04 h (a00 g) 0)≤(e.length:Int)))) (some (.inl (s.1,s.2.1,a,b,c,d,a09 (a00 (a04 h (a00 g) 0)) (a06 (a01 e) e),f,wrap .i64 (g+1),h,i,j,(k.1,a03 k.2.1 [y3],k.2.2),()))) none) none) none) none) (some (.inr (s.1,s.2.1,a,b,c,d,i,j,k,())))) s.2.2.1 s.2.2.2.1 s.2.2.2.2.1 s.2.2.2.2.2.1 s.2.2.2.2.2.2.1 s.2.2.2.2.2.2.2.1 s.2.2.2.2.2.2.2.2.1 s.2.2.2.2.2.2.2.2.2.1 s.2.2.2.2.2.2.2.2.2.2.1 s.2.2.2.2.2.2.2.2.2.2.2.1 s.2.2.2.2.2.2.2.2.2.2.2.2.1
def b8y(s:(Int×(Int×(Int×(LI×(Int×Int×b9Z)))))):Option ((Int×(Int×(Int×(LI×(Int×Int×b9Z))))) ⊕ b9Z):=(fun(a b:Int)(c:LI)(d e:Int)(f g:Z5)=>cond (decide (e≤(v0s (v0r b 0) 8))) ((a2E (e,s.1,a)).bind fun y2=>cond ((y2.length:Int)==0) (some (.inl (s.1,a,b,c,d,wrap .i64 (e+1),f,g,()))) ((y0s b8x (s.1,a,b,c,d,e,c,(y2.length:Int),0,y2,f,g,(e,[],()),())).bind fun w4=>(a6P (w4.2.2.2.2.2.2.2.2.1,w4.1,w4.2.1,w4.2.2.2.1)).bind fun y5=>(show Option (Int×(Int×(Int×(LI×(Int×Int×Int×Bool×c7o)))))from cond (w4.2.2.2.2.1==0) (some (w4.1,w4.2.1,w4.2.2.1,w4.2.2.2.1,w4.2.2.2.2.1,w4.2.2.2.2.2.1,y5,true,w4.2.2.2.2.2.2.1,w4.2.2.2.2.2.2.2.1,w4.2.2.2.2.2.2.2.2.1,())) (some (w4.1,w4.2.1,w4.2.2.1,w4.2.2.2.1,w4.2.2.2.2.1,w4.2.2.2.2.2.1,y5,decide (y5<w4.2.2.2.2.1),w4.2.2.2.2.2.2.1,w4.2.2.2.2.2.2.2.1,w4.2.2.2.2.2.2.2.2.1,()))).bind fun z6=>cond z6.2.2.2.2.2.2.2.1 (some (.inl (z6.1,z6.2.1,z6.2.2.1,z6.2.2.2.1,z6.2.2.2.2.2.2.1,wrap .i64 (z6.2.2.2.2.2.1+1),z6.2.2.2.2.2.2.2.2.1,z6.2.2.2.2.2.2.2.2.2.2.1,()))) (some (.inl (z6.1,z6.2.1,z6.2.2.1,z6.2.2.2.1,z6.2.2.2.2.1,wrap .i64 (z6.2.2.2.2.2.1+1),z6.2.2.2.2.2.2.2.2.1,z6.2.2.2.2.2.2.2.2.2.1,()))))) (some (.inr (f,g,())))) s.2.1 s.2.2.1 s.2.2.2.1 s.2.2.2.2.1 s.2.2.2.2.2.1 s.2.2.2.2.2.2.1 s.2.2.2.2.2.2.2.1
def b4U(x:(Int×Z2)):Option (Z5×Int):=(a6c (x.1,x.2.1,x.2.2.2)).bind fun y1=>cond (!y1) (some ((0,[],()),1)) ((y0s b8y (x.1,x.2.1,x.2.2.1,x.2.2.2,0,0,(0,[],()),(0,[],()),())).bind fun w7=>some (w7.2.1,0))
def c4s:FSem:=⟨[.v QI,.v QI,.v QI,.v QL],[.v Q12,.v QI],b4U⟩
def d9A:Hints:=⟨[(250,[0,1,2,.sv 3 QL,11,12,.box 8 Q12,.box 10 Q12,Qp 8 8,Qp 10 10],[Qe 0 [.box 8 Q12,.box 10 Q12,Qp 8 8,Qp 10 10]]),(512634,[0,1,2,.sv 3 QL,11,12,.sv 15 QL,43,44,.own 42 13 QI,.box 8 Q12,.box 10 Q12,.box 14 Q11,Qp 8 8,Qp 10 10,Qp 14 14],[Qe 2 [0,1,2,.sv 3 QL,11,12,.box 8 Q12,.box 10 Q12,.box 14 Q11,Qp 8 8,Qp 10 10,Qp 14 14]])],[(256319,[Qn [0,1,2,.sv 3 QL,11,12,18,.sv 72 .bool,.box 8 Q12,.box 10 Q12,.box 14 Q12,Qp 8 8,Qp 10 10,Qp 14 14]])],[(15,[.q,.q,.v,.v,.v,.v,.q,.x,.x,.x])]⟩
def c3c(s:(LI×(LI×c7C))):Option ((LI×(LI×c7C)) ⊕ ((LI×a9J) ⊕ (Int×b3K))):=(fun(a b:Int)(c d:a1b)=>cond (decide (b<a)) ((m0k s.2.1 b).bind fun x5=>(m0k s.1 0).bind fun x6=>cond (x5 != x6) (some (.inr (Sum.inr ((7,(0,0,0,0,0,[],a02 3 0,[],[],(0,[],()),[],()),()))))) (some (.inl (s.1,s.2.1,a,wrap .i64 (b+1),c,d,())))) (some (.inr (Sum.inl (s.1,c,d,()))))) s.2.2.1 s.2.2.2.1 s.2.2.2.2.1 s.2.2.2.2.2.1
def b8z(x:(Int×(LI×a1b))):Option a8C:=(fun(a:Int)(b:LI)=>(show Option (Int×(LI×(Int×Bool×a9J)))from cond (decide ((b.length:Int)<1)) (some (a,b,(b.length:Int),true,(0,0,0,0,0,[],a02 3 0,[],[],(0,[],()),[],()),x.2.2,())) (cond (decide ((b.length:Int) > 4096)) (some (a,b,(b.length:Int),true,(0,0,0,0,0,[],a02 3 0,[],[],(0,[],()),[],()),x.2.2,())) ((a8L (a,x.2.2,(b.length:Int))).bind fun y1=>some (a,b,(b.length:Int),!y1,(0,0,0,0,0,[],a02 3 0,[],[],(0,[],()),[],()),x.2.2,())))).bind fun z2=>cond z2.2.2.2.1 (some ((0,0,0,0,0,[],a02 3 0,[],[],(0,[],()),[],()),1)) ((a2a z2.2.1).bind fun y3=>cond (!y3) (some ((0,0,0,0,0,[],a02 3 0,[],[],(0,[],()),[],()),6)) ((a8T (z2.1,z2.2.2.2.2.2.1)).bind fun y4=>cond (z2.1==0) ((y0s c3c (z2.2.1,z2.2.1,(z2.2.1.length:Int),0,z2.2.2.2.2.1,y4,())).bind fun w7=>match w7 with |.inl a8=>((m0k a8.1 0).bind fun x10=>some ((a8.2.2.1.1,a8.2.2.1.2.1,a8.2.2.1.2.2.1,a8.2.2.1.2.2.2.1,a8.2.2.1.2.2.2.2.1,a8.2.2.1.2.2.2.2.2.1,a8.2.2.1.2.2.2.2.2.2.1,a8.2.2.1.2.2.2.2.2.2.2.1,[x10],a8.2.2.1.2.2.2.2.2.2.2.2.2),0)) |.inr b9=>some (b9.2.1,b9.1)) ((a9g z2.2.1).bind fun y11=>(b1d (z2.2.1,y11)).bind fun y12=>cond (y12.2 != 0) (some ((0,0,0,0,0,[],a02 3 0,[],[],(0,[],()),[],()),6)) (cond (z2.1==1) (some ((y4.1,y11,y4.2.2.1,y4.2.2.2.1,y4.2.2.2.2.1,y4.2.2.2.2.2.1,y4.2.2.2.2.2.2.1,y4.2.2.2.2.2.2.2.1,y12.1,y4.2.2.2.2.2.2.2.2.2),0)) ((b6R ((y4.1,y11,y4.2.2),y12.1)).bind fun y13=>cond (y13.1 != 0) (some ((0,0,0,0,0,[],a02 3 0,[],[],(0,[],()),[],()),6)) ((b4U (z2.2.2.1,(y13.2.2.2.2.2.2.2.2.2.1.length:Int),6,y13.2.2.2.2.2.2.2.2.2.2.2.1)).bind fun y14=>cond (y14.2 != 0) (some ((0,0,0,0,0,[],a02 3 0,[],[],(0,[],()),[],()),6)) (some ((y13.2.1,y13.2.2.1,y13.2.2.2.1,y13.2.2.2.2.1,y13.2.2.2.2.2.1,y13.2.2.2.2.2.2.1,y13.2.2.2.2.2.2.2.1,y13.2.2.2.2.2.2.2.2.1,y13.2.2.2.2.2.2.2.2.2.1,y14.1,y13.2.2.2.2.2.2.2.2.2.2.2),0))))))))) x.1 x.2.1
def c7Q:FSem:=⟨[.v QI,.v QL,.v Q43],[.v Q43,.v QI],b8z⟩
def d9B:Hints:=⟨[(4050,[.sv 1 QL,.sv 39 QL,40,41,.box 6 Q43,.box 9 Q43,Qp 6 6,Qp 9 9],[Qe 0 [.sv 1 QL,.box 6 Q43,.box 9 Q43,Qp 6 6,Qp 9 9],Qr [7,.box 6 Q43,Qp 6 6]])],[(14,[Qn [0,.sv 1 QL,8,.sv 28 .bool,.box 6 Q43,.vp 5 Q43,Qp 6 6]])],[]⟩
def a7Q(x:Z6):Option Z20:=some (x.2.1,x)
def b6w:FSem:=⟨[.r false (.b Q10)],[.v QI],a7Q⟩
def a4B(x:a8C):Option Int:=(a8N (([],0,()),x.1,x.2)).bind fun y1=>cond (y1.1 != 0) (some 0) ((a7Q y1.2).bind fun y2=>some y2.1)
def c7R:FSem:=⟨[.v Q43,.v QI],[.v QI],a4B⟩
def c3d(s:(LI×(Int×Bool×a9I×c7C))):Option ((LI×(Int×Bool×a9I×c7C)) ⊕ a9J):=(fun(a:LI)(b:Int)(c:Bool)(d:a9I)(e f:Int)(g h:a1b)=>cond (decide (f<e)) ((m0k d f).bind fun x6=>(b8z (x6.1,a,x6)).bind fun y7=>cond (y7.2 != 0) (some (.inl (a,b,c,d,e,wrap .i64 (f+1),g,h,()))) ((a4B (y7.1,(a.length:Int))).bind fun y8=>(show Option (LI×(Int×Bool×Int×a9I×Int×Int×Bool×a1b×a9J))from cond (!c) (some (a,b,c,y8,d,e,f,true,g,h,y7.1,())) (some (a,b,c,y8,d,e,f,decide (y8<b),g,h,y7.1,()))).bind fun z9=>cond z9.2.2.2.2.2.2.2.1 (some (.inl (z9.1,z9.2.2.2.1,true,z9.2.2.2.2.1,z9.2.2.2.2.2.1,wrap .i64 (z9.2.2.2.2.2.2.1+1),z9.2.2.2.2.2.2.2.2.1,z9.2.2.2.2.2.2.2.2.2.2.1,()))) (some (.inl (z9.1,z9.2.1,z9.2.2.1,z9.2.2.2.2.1,z9.2.2.2.2.2.1,wrap .i64 (z9.2.2.2.2.2.2.1+1),z9.2.2.2.2.2.2.2.2.1,z9.2.2.2.2.2.2.2.2.2.1,()))))) (some (.inr (g,h,())))) s.1 s.2.1 s.2.2.1 s.2.2.2.1 s.2.2.2.2.1 s.2.2.2.2.2.1 s.2.2.2.2.2.2.1 s.2.2.2.2.2.2.2.1
def b8A(x:(LI×Int)):Option a8C:=(show Option (LI×c0C)from cond (decide ((x.1.length:Int)<1)) (some (x.1,x.2,true,(0,0,0,0,0,[],a02 3 0,[],[],(0,[],()),[],()),())) (cond (decide ((x.1.length:Int) > 4096)) (some (x.1,x.2,true,(0,0,0,0,0,[],a02 3 0,[],[],(0,[],()),[],()),())) (cond (decide (x.2<0)) (some (x.1,x.2,true,(0,0,0,0,0,[],a02 3 0,[],[],(0,[],()),[],()),())) (some (x.1,x.2,decide (x.2 > 3),(0,0,0,0,0,[],a02 3 0,[],[],(0,[],()),[],()),()))))).bind fun z1=>cond z1.2.2.1 (some ((0,0,0,0,0,[],a02 3 0,[],[],(0,[],()),[],()),1)) ((a2a z1.1).bind fun y2=>cond (!y2) (some ((0,0,0,0,0,[],a02 3 0,[],[],(0,[],()),[],()),6)) ((a9g z1.1).bind fun y3=>(b1d (z1.1,y3)).bind fun y4=>cond (y4.2 != 0) (some ((0,0,0,0,0,[],a02 3 0,[],[],(0,[],()),[],()),y4.2)) ((b1P (y4.1,z1.2.1)).bind fun y5=>(y0s c3d (z1.1,0,false,y5,(y5.length:Int),0,z1.2.2.2.1,(0,0,0,0,0,[],a02 3 0,[],[],(0,[],()),[],()),())).bind fun w10=>some (w10.2.1,0))))
def c7S:FSem:=⟨[.v QL,.v QI],[.v Q43,.v QI],b8A⟩
def H60:Hints:=⟨[(2042,[.sv 0 QL,9,.sv 10 .bool,.sv 50 (.list false Q43),51,52,.box 4 Q43,.box 8 Q43,Qp 4 4,Qp 8 8],[Qe 0 [.box 4 Q43,.box 8 Q43,Qp 4 4,Qp 8 8]])],[(6,[Qn [.sv 0 QL,1,.sv 31 .bool,.box 4 Q43,Qp 4 4]]),(1045711,[Qn [.sv 0 QL,9,.sv 10 .bool,15,.sv 50 (.list false Q43),51,52,.sv 76 .bool,.box 4 Q43,.box 8 Q43,.box 13 Q43,Qp 4 4,Qp 8 8,Qp 13 13]])],[]⟩
def b8B(s:(Int×((List LI)×(Int×c7H)))):Option ((Int×((List LI)×(Int×c7H))) ⊕ (d1e ⊕ c7z)):=(fun(a b:Int)(c d:a1v)=>cond (decide (b<a)) ((m0k s.2.1 b).bind fun x8=>(b8A (x8,s.1)).bind fun y9=>cond (y9.2 != 0) (some (.inr (Sum.inr ((y9.2,(0,0,(0,0,0,()),[],[],()),()))))) (cond (lim ((a01 d.2.2.2.2.1)+1)) (some (.inl (s.1,s.2.1,a,wrap .i64 (b+1),c,(d.1,d.2.1,d.2.2.1,d.2.2.2.1,a03 d.2.2.2.2.1 ([y9.1]:List a1b),d.2.2.2.2.2),()))) none)) (some (.inr (Sum.inl (c,d,()))))) s.2.2.1 s.2.2.2.1 s.2.2.2.2.1 s.2.2.2.2.2.1
def b4V(x:(Z14×Z7×Int×Int)):Option c7y:=(fun(a:Z14)(b:Z7)(c:Int)=>(show Option (Int×Int×Bool×a1v×Z14×Z27)from(a2T a).bind fun y1=>cond (!y1) (some (c,x.2.2.2,true,(0,0,(0,0,0,()),[],[],()),a,b,())) ((a1K b).bind fun y2=>cond (!y2) (some (c,x.2.2.2,true,(0,0,(0,0,0,()),[],[],()),a,b,())) (cond (a.1 != b.2.2.1) (some (c,x.2.2.2,true,(0,0,(0,0,0,()),[],[],()),a,b,())) (cond ((a.2.1.length:Int) != b.2.1) (some (c,x.2.2.2,true,(0,0,(0,0,0,()),[],[],()),a,b,())) (cond (decide (x.2.2.2<0)) (some (c,x.2.2.2,true,(0,0,(0,0,0,()),[],[],()),a,b,())) (cond (decide (x.2.2.2 > 3)) (some (c,x.2.2.2,true,(0,0,(0,0,0,()),[],[],()),a,b,())) (some (c,x.2.2.2,decide (c<0),(0,0,(0,0,0,()),[],[],()),a,b,())))))))).bind fun z3=>cond z3.2.2.1 (some ((0,0,(0,0,0,()),[],[],()),1)) ((a2S z3.2.2.2.2.1).bind fun y4=>cond (decide (z3.1 > (wrap .i64 (4194304-y4)))) (some ((0,0,(0,0,0,()),[],[],()),4)) ((show Option (Int×a1v×a1v×Z35)from cond (decide (z3.2.1 > 0)) ((b6N z3.2.2.2.2.1).bind fun y5=>some (z3.2.1,z3.2.2.2.1,(z3.1,y4,z3.2.2.2.2.2.1,y5,[],()),z3.2.2.2.2.1,())) (some (z3.2.1,z3.2.2.2.1,(z3.1,y4,z3.2.2.2.2.2.1,[],[],()),z3.2.2.2.2.1,()))).bind fun z6=>(b4J (z6.2.2.2.1.2.1,z6.2.2.1.2.2.2.1)).bind fun y7=>cond (y7.2 != 0) (some ((0,0,(0,0,0,()),[],[],()),y7.2)) ((y0s b8B (z6.1,y7.1,(y7.1.length:Int),0,z6.2.1,z6.2.2.1,())).bind fun w10=>match w10 with |.inl a11=>some (a11.2.1,0) |.inr b12=>some (b12.2.1,b12.1))))) x.1 x.2.1 x.2.2.1
def c4t:FSem:=⟨[.v Q16,.v Q13,.v QI,.v QI],[.v Q61,.v QI],b4V⟩
def H18:Hints:=⟨[(2042,[3,.sv 81 (.list false QL),82,83,.box 8 Q61,.box 10 Q60,Qp 8 8,Qp 10 10],[Qe 0 [.box 8 Q61,.box 10 Q60,Qp 8 8,Qp 10 10],Qr [9,.box 8 Q61,Qp 8 8]])],[(6,[Qn [2,3,.sv 51 .bool,.box 8 Q61,.vp 4 Q16,.vp 5 Q13,Qp 8 8]]),(31,[Qn [3,.box 8 Q61,.box 10 Q60,.vp 4 Q16,Qp 8 8,Qp 10 10]])],[(3,[.v,.v,.v,.v,.v,.q,.x])]⟩
def a6t(s:Z62):Option (Z62 ⊕ Z36):=(fun(a:Int)(b:LI)(c d e:Int)=>cond (decide (e<8)) (cond ((bits .u32 .and a 1)==1) (some (.inl (bits .u32 .xor (A0o .u32 a 1) 3988292384,b,c,d,wrap .i64 (e+1),()))) (some (.inl (A0o .u32 a 1,b,c,d,wrap .i64 (e+1),())))) (some (.inr (a,b,c,d,())))) s.1 s.2.1 s.2.2.1 s.2.2.2.1 s.2.2.2.2.1
def a4h(s:Z36):Option Z84:=(fun(a b:Int)=>cond (decide (b<a)) ((m0k s.2.1 b).bind fun x1=>(y0s a6t (bits .u32 .xor s.1 (wrap .u32 x1),s.2.1,a,b,0,())).bind fun w2=>some (.inl (w2.1,w2.2.1,w2.2.2.1,wrap .i64 (w2.2.2.2.1+1),()))) (some (.inr (s.1,())))) s.2.2.1 s.2.2.2.1
def a3W(x:LI):Option Int:=(y0s a4h (4294967295,x,(x.length:Int),0,())).bind fun w3=>some (bits .u32 .xor (IntKind.max .u32) w3.1)
def b7K:FSem:=⟨[.v QB],[.v (.int .u32)],a3W⟩
def H89:Hints:=⟨[(58,[.sv 3 (.int .u32),.sv 7 QB,8,9],[Qe 0 [.sv 3 (.int .u32)]]),(29902,[.sv 3 (.int .u32),.sv 7 QB,8,9,17],[Qe 2 [.sv 3 (.int .u32),.sv 7 QB,8,9]])],[],[]⟩
def a7u(s:(a4n×(Int×(Int×((List LI)×c0F))))):Option ((a4n×(Int×(Int×((List LI)×c0F)))) ⊕ ((List LI)×c0F)):=(fun(a:Int)(b:List LI)(c:LI)(d:a2Y)=>cond (decide (a<s.2.1)) ((m0k s.1 a).bind fun x2=>cond ((decide (0≤a))&&(decide (a<(b.length:Int)))) (cond (lim ((a01 c)+2)) (some (.inl (s.1,s.2.1,wrap .i64 (a+1),b,a03 c ([wrap .u64 ((a01 (a04 b (a00 a) []):Nat):Int),wrap .u64 x2.2.1]:List Int),d,()))) none) none) (some (.inr (b,c,d,())))) s.2.2.1 s.2.2.2.1 s.2.2.2.2.1 s.2.2.2.2.2.1
def a7v(s:(Int×(Int×(LI×Z1)))):Option ((Int×(Int×(LI×Z1))) ⊕ (LI×Unit)):=(fun(a:Int)(b:LI)(c:List LI)=>cond (decide (a<s.1)) (cond ((decide (0≤a))&&(decide (a<(c.length:Int)))) (cond (lim ((a01 b)+(a01 (a04 c (a00 a) [])))) (some (.inl (s.1,wrap .i64 (a+1),a03 b (a04 c (a00 a) []),c,()))) none) none) (some (.inr (b,())))) s.2.1 s.2.2.1 s.2.2.2.1
def a4V(x:a2Y):Option (LI×Int):=(a3E x).bind fun y1=>cond (!y1.2.2) (some ([],1)) ((y0s a7u (x.2.2.2.2.1,(x.2.2.2.2.1.length:Int),0,y1.1,([wrap .u64 x.1.1,wrap .u64 x.1.2.1,wrap .u64 x.1.2.2.1,wrap .u64 (x.2.2.2.2.1.length:Int)]:List Int),x,())).bind fun w3=>(a8f w3.2.1).bind fun y4=>cond (lim (4+(a01 y4))) ((a3D (w3.2.2.1.2.2.1,8)).bind fun y5=>cond (lim ((a01 (a03 [75,78,83,68] y4))+(a01 y5))) ((a3W (a03 (a03 [75,78,83,68] y4) y5)).bind fun y6=>(a3D (wrap .u64 y6,4)).bind fun y7=>cond (lim ((a01 (a03 (a03 [75,78,83,68] y4) y5))+(a01 y7))) ((y0s a7v ((w3.1.length:Int),0,a03 (a03 (a03 [75,78,83,68] y4) y5) y7,w3.1,())).bind fun w8=>some (w8.1,0)) none) none) none)
def c6e:FSem:=⟨[.v Q79],[.o QV,.v QI],a4V⟩
def H29:Hints:=⟨[(250,[.sv 39 (.list false Q61),40,41,.own 4 4 QB,.own 7 7 QU,.vp 1 Q79],[Qe 0 [.own 4 4 QB,.own 7 7 QU,.vp 1 Q79]]),(4090,[76,77,.own 10 10 QV,.own 75 4 QB],[Qe 2 [.own 10 10 QV]])],[],[(8,[.q,.q,.v,.q,.q,.v,.v,.q,.q,.v,.q,.x,.x])]⟩
def b8C(s:(LI×(Int×Int×Z14×Z14×Z27))):Option ((LI×(Int×Int×Z14×Z14×Z27)) ⊕ ((Z14×Z35) ⊕ Z55)):=(fun(a:Int)(b c:Z14)(d:Z7)=>cond (decide (a<s.2.1)) ((m0k s.1 a).bind fun x2=>(a1J (x2,d.2.2.1)).bind fun y3=>cond (!y3) (some (.inr (Sum.inr ((6,(0,([]:(List LI)),()),()))))) (cond (d.2.1==0) none (cond ((decide (0≤(a08 a d.2.1)))&&(decide ((a08 a d.2.1)<(c.2.1.length:Int)))) (cond (lim ((a01 (a04 c.2.1 (a00 (a08 a d.2.1)) []))+1)) (cond ((decide (0≤(a08 a d.2.1)))&&(decide ((a08 a d.2.1)<((a01 (a05 c.2.1 (a00 (a08 a d.2.1)) (a03 (a04 c.2.1 (a00 (a08 a d.2.1)) []) [x2])):Nat):Int)))) (cond (((a00 (a08 a d.2.1))==(a00 (a08 a d.2.1)))&&true) (cond (((a00 (a08 a d.2.1))==(a00 (a08 a d.2.1)))&&true) (some (.inl (s.1,s.2.1,wrap .i64 (a+1),b,(c.1,a05 c.2.1 (a00 (a08 a d.2.1)) (a03 (a04 c.2.1 (a00 (a08 a d.2.1)) []) [x2]),c.2.2),d,()))) none) none) none) none) none))) (some (.inr (Sum.inl (b,c,()))))) s.2.2.1 s.2.2.2.1 s.2.2.2.2.1 s.2.2.2.2.2.1
def b4W(x:Z37):Option Z34:=(fun(a:LI)(b:Int)=>(a1K x.2).bind fun y1=>cond (!y1) (some ((0,([]:(List LI)),()),1)) (cond ((a.length:Int)==0) (some ((0,([]:(List LI)),()),7)) (cond (b==0) none (cond ((a08 (a.length:Int) b) != 0) (some ((0,([]:(List LI)),()),3)) (cond (b==0) none (cond (decide ((wrap .i64 (a07 (a.length:Int) b)) > 4096)) (some ((0,([]:(List LI)),()),4)) (cond ((decide (0≤b))&&((decide (b≤b))&&(lim (a00 b)))) ((y0s b8C (a,(a.length:Int),0,(0,([]:(List LI)),()),(x.2.2.2.1,a02 (a00 b) [],()),x.2,())).bind fun w4=>match w4 with |.inl a5=>some (a5.2.1,0) |.inr b6=>some (b6.2.1,b6.1)) none))))))) x.1 x.2.2.1
def c4u:FSem:=⟨[.v QL,.v Q13],[.v Q16,.v QI],b4W⟩
def H96:Hints:=⟨[(1018,[.sv 38 QL,39,40,.box 4 Q16,.box 6 (.pair QI Q7),.vp 3 Q13,Qp 4 4,Qp 6 6],[Qe 0 [.box 4 Q16,.box 6 (.pair QI Q7),Qp 4 4,Qp 6 6],Qr [5,.box 4 Q16,Qp 4 4]])],[],[(9,[.v,.v,.v,.v,.q,.q,.q,.x]),(16,[.s,.s,.s,.q,.q,.v,.q,.q,.v,.q,.b [6,64,65],.x,.x])]⟩
def b6x(s:(LI×(Int×(Int×(Int×(LI×(Int×Int×Z27))))))):Option ((LI×(Int×(Int×(Int×(LI×(Int×Int×Z27)))))) ⊕ ((LI×(Int×Int×Int×Z27)) ⊕ Z5)):=(fun(a b:Int)(c:LI)(d e:Int)(f:Z7)=>cond (decide (e<d)) ((m0k c e).bind fun x4=>(a1J (x4,f.2.2.1)).bind fun y5=>cond (!y5) (some (.inr (Sum.inr ((6,[],()))))) (some (.inl (s.1,s.2.1,a,b,c,d,wrap .i64 (e+1),f,())))) (some (.inr (Sum.inl (s.1,s.2.1,a,b,f,()))))) s.2.2.1 s.2.2.2.1 s.2.2.2.2.1 s.2.2.2.2.2.1 s.2.2.2.2.2.2.1 s.2.2.2.2.2.2.2.1
def b6y(s:(LI×(Int×Int×Int×Int×Int×c7F))):Option ((LI×(Int×Int×Int×Int×Int×c7F)) ⊕ (a9K ⊕ Z5)):=(fun(a b c d e:Int)(f:a2Y)(g:Z7)=>cond (decide (e<c)) (cond ((decide (0≤(wrap .i64 ((v0s (wrap .i64 (e+a)) c)*g.2.1))))&&(decide ((wrap .i64 ((v0s (wrap .i64 (e+a)) c)*g.2.1))≤(s.1.length:Int)))) (cond ((decide (0≤(wrap .i64 (e*g.2.1))))&&(decide ((wrap .i64 (e*g.2.1))≤((a00 (wrap .i64 ((v0s (wrap .i64 (e+a)) c)*g.2.1)):Nat):Int)))) ((b4W (a09 (a00 (wrap .i64 (e*g.2.1))) (a06 (a00 (wrap .i64 ((v0s (wrap .i64 (e+a)) c)*g.2.1))) s.1),g)).bind fun y9=>cond (y9.2 != 0) (some (.inr (Sum.inr ((y9.2,[],()))))) ((b4V (y9.1,g,e,b)).bind fun y10=>cond (y10.2 != 0) (some (.inr (Sum.inr ((y10.2,[],()))))) ((a2p y10.1).bind fun y11=>cond (y11.2 != 0) (some (.inr (Sum.inr ((y11.2,[],()))))) ((a3P (f.2.2.1,y9.1)).bind fun y12=>cond (lim ((a01 f.2.2.2.1)+1)) (cond (lim ((a01 f.2.2.2.2.1)+1)) (some (.inl (s.1,a,b,c,wrap .i64 (d+(y11.1.length:Int)),wrap .i64 (e+a),(f.1,f.2.1,y12.1,a03 f.2.2.2.1 ([(e,d,())]:List (Int×Int×Unit)),a03 f.2.2.2.2.1 ([y10.1]:List a1v),f.2.2.2.2.2),g,()))) none) none)))) none) none) (some (.inr (Sum.inl (f,()))))) s.2.1 s.2.2.1 s.2.2.2.1 s.2.2.2.2.1 s.2.2.2.2.2.1 s.2.2.2.2.2.2.1 s.2.2.2.2.2.2.2.1
def b3j(x:(Z7×Z3)):Option (LI×Int):=(fun(a:Z7)(b:LI)(c:Int)=>(show Option (LI×(Int×Int×Bool×Z27))from(a1K a).bind fun y1=>cond (!y1) (some (b,c,x.2.2.2,true,a,())) (cond (decide (c<1)) (some (b,c,x.2.2.2,true,a,())) (cond (decide (c > 4096)) (some (b,c,x.2.2.2,true,a,())) (cond (decide (x.2.2.2<0)) (some (b,c,x.2.2.2,true,a,())) (some (b,c,x.2.2.2,decide (x.2.2.2 > 3),a,())))))).bind fun z2=>cond z2.2.2.2.1 (some ([],1)) (cond (z2.2.2.2.2.1.2.1==0) none (cond ((a08 (z2.1.length:Int) z2.2.2.2.2.1.2.1) != 0) (some ([],3)) (cond (z2.2.2.2.2.1.2.1==0) none ((show Option (LI×(Int×Int×Int×Bool×Z27))from cond (decide ((wrap .i64 (a07 (z2.1.length:Int) z2.2.2.2.2.1.2.1)) > 4194304)) (some (z2.1,z2.2.1,z2.2.2.1,wrap .i64 (a07 (z2.1.length:Int) z2.2.2.2.2.1.2.1),true,z2.2.2.2.2.1,())) (cond (z2.2.1==0) none (some (z2.1,z2.2.1,z2.2.2.1,wrap .i64 (a07 (z2.1.length:Int) z2.2.2.2.2.1.2.1),decide ((wrap .i64 (a07 (wrap .i64 ((wrap .i64 ((wrap .i64 (a07 (z2.1.length:Int) z2.2.2.2.2.1.2.1))+z2.2.1))-1)) z2.2.1)) > 4096),z2.2.2.2.2.1,())))).bind fun z3=>cond z3.2.2.2.2.1 (some ([],4)) ((y0s b6x (z3.1,z3.2.1,z3.2.2.1,z3.2.2.2.1,z3.1,(z3.1.length:Int),0,z3.2.2.2.2.2.1,())).bind fun w6=>match w6 with |.inl a7=>((y0s b6y (a7.1,a7.2.1,a7.2.2.1,a7.2.2.2.1,0,0,(a7.2.2.2.2.1,a7.2.2.2.1,0,[],[],()),a7.2.2.2.2.1,())).bind fun w13=>match w13 with |.inl a14=>((a4V a14.1).bind fun y16=>some (y16.1,y16.2)) |.inr b15=>some (b15.2.1,b15.1)) |.inr b8=>some (b8.2.1,b8.1))))))) x.1 x.2.1 x.2.2.1
def c1a:FSem:=⟨[.v Q13,.v QL,.v QI,.v QI],[.o QV,.v QI],b3j⟩
def H37:Hints:=⟨[(506,[.sv 1 QL,2,3,10,.sv 62 QL,63,64,.vp 4 Q13],[Qe 0 [.sv 1 QL,2,3,10,.vp 4 Q13],Qr [9,.own 8 8 QV]]),(4090,[.sv 1 QL,2,3,10,14,15,.box 13 Q77,.vp 4 Q13,Qp 13 13],[Qe 2 [.box 13 Q77,Qp 13 13],Qr [9,.own 8 8 QV]])],[(6,[Qn [.sv 1 QL,2,3,.sv 39 .bool,.vp 4 Q13]]),(62,[Qn [.sv 1 QL,2,3,10,.sv 61 .bool,.vp 4 Q13]])],[(20,[.v,.v,.v,.v,.v,.v,.v,.v,.v,.v,.v,.v,.v,.v,.v,.q,.w [0,17],.x])]⟩
def b2V(x:LI):Option Z18:=cond (lim (a01 x)) (some (x,0,0,())) none
def c6f:FSem:=⟨[.v QB],[.b Q17],b2V⟩
def b6z(s:Z36):Option (Z36 ⊕ (Unit ⊕ Z7)):=(fun(a:Int)(b:LI)(c d:Int)=>cond (decide (d<c)) ((m0k b d).bind fun x1=>(show Option (Int×Int×Int×Z40)from cond (d==9) (cond (decide (x1 > 1)) (some (a,d,x1,b,c,d,true,())) (cond (decide (d > 0)) (some (a,d,x1,b,c,d,x1==0,())) (some (a,d,x1,b,c,d,false,())))) (cond (decide (d > 0)) (some (a,d,x1,b,c,d,x1==0,())) (some (a,d,x1,b,c,d,false,())))).bind fun z2=>cond z2.2.2.2.2.2.2.1 (some (.inr (Sum.inr ((0,0,2,()))))) (cond (decide ((wrap .i64 (7*z2.2.1))<0)) none (cond (decide (z2.2.2.1<128)) (some (.inr (Sum.inr ((bits .u64 .or z2.1 (A0n .u64 (wrap .u64 (a08 z2.2.2.1 128)) (wrap .i64 (7*z2.2.1))),wrap .i64 (z2.2.1+1),0,()))))) (some (.inl (bits .u64 .or z2.1 (A0n .u64 (wrap .u64 (a08 z2.2.2.1 128)) (wrap .i64 (7*z2.2.1))),z2.2.2.2.1,z2.2.2.2.2.1,wrap .i64 (z2.2.2.2.2.2.1+1),())))))) (some (.inr (Sum.inl ())))) s.1 s.2.1 s.2.2.1 s.2.2.2.1
def b3k(x:LI):Option (Int×Int×Int):=(y0s b6z (0,x,(x.length:Int),0,())).bind fun w3=>match w3 with |.inl a4=>some (0,0,3) |.inr b5=>some (b5.1,b5.2.1,b5.2.2.1)
def c1b:FSem:=⟨[.v QB],[.v QU,.v QI,.v QI],b3k⟩
def d9C:Hints:=⟨[(58,[.sv 5 QU,.sv 8 QB,9,10],[Qe 0 [],Qr [.sv 2 QU,3,4]])],[(7474,[Qn [.sv 5 QU,6,.sv 7 QV,.sv 8 QB,9,10,.sv 28 .bool]])],[]⟩
def a0P(x:Z39):Option Z36:=(fun(a:Z18)=>cond (a.2.2.1 != 0) (some (0,a)) (cond ((decide (0≤a.2.1))&&(decide (a.2.1≤(a.1.length:Int)))) ((b3k (a09 (a00 a.2.1) (a06 (a01 a.1) a.1))).bind fun y1=>(show Option c3P from cond (y1.2.2==0) (cond (decide (y1.1 > x.2)) (some (y1.1,y1.2.1,4,a,())) (some (y1.1,y1.2.1,y1.2.2,a,()))) (some (y1.1,y1.2.1,y1.2.2,a,()))).bind fun z2=>cond (z2.2.2.1 != 0) (some (0,z2.2.2.2.1.1,z2.2.2.2.1.2.1,z2.2.2.1,z2.2.2.2.1.2.2.2)) (some (z2.1,z2.2.2.2.1.1,wrap .i64 (z2.2.2.2.1.2.1+z2.2.1),z2.2.2.2.1.2.2))) none)) x.1
def b4X:FSem:=⟨[.r false (.b Q17),.v QU],[.v QU],a0P⟩
def d9D:Hints:=⟨[],[(15,[Qn [.sv 5 QU,6,7,.box pinned Q17,Qp 0 pinned]])],[(3,[.p,.p,.q,.q,.p,.p,.q,.q,.x,.x,.x,.v,.v,.v,.v,.v,.x])]⟩
def a6T(x:Z18):Option Z36:=some (x.2.2.1,x)
def b4Y:FSem:=⟨[.r false (.b Q17)],[.v QI],a6T⟩
def a4i(x:Z18):Option Z36:=some (wrap .i64 ((x.1.length:Int)-x.2.1),x)
def b4B:FSem:=⟨[.r false (.b Q17)],[.v QI],a4i⟩
def d9E:Hints:=⟨[],[],[(1,[.p,.p,.q,.q,.v,.p,.p,.q,.q,.x,.x])]⟩
def a7R(x:Z18):Option Z36:=some (x.2.1,x)
def b6A:FSem:=⟨[.r false (.b Q17)],[.v QI],a7R⟩
def a9E(x:Z39):Option Z54:=cond (x.1.2.2.1 != 0) (some ([],x.1)) ((a4i x.1).bind fun y1=>cond (decide ((v0r x.2 0) > y1.1)) (some ([],y1.2.1,y1.2.2.1,3,y1.2.2.2.2)) (cond ((decide (0≤(wrap .i64 (y1.2.2.1+(v0r x.2 0)))))&&(decide ((wrap .i64 (y1.2.2.1+(v0r x.2 0)))≤(y1.2.1.length:Int)))) (cond ((decide (0≤y1.2.2.1))&&(decide (y1.2.2.1≤((a00 (wrap .i64 (y1.2.2.1+(v0r x.2 0))):Nat):Int)))) (cond (lim (a01 (a09 (a00 y1.2.2.1) (a06 (a00 (wrap .i64 (y1.2.2.1+(v0r x.2 0)))) y1.2.1)))) (some (a09 (a00 y1.2.2.1) (a06 (a00 (wrap .i64 (y1.2.2.1+(v0r x.2 0)))) y1.2.1),y1.2.1,wrap .i64 (y1.2.2.1+(v0r x.2 0)),y1.2.2.2)) none) none) none))
def b4C:FSem:=⟨[.r false (.b Q17),.v QI],[.o QV],a9E⟩
def d9F:Hints:=⟨[],[],[(7,[.p,.p,.q,.q,.p,.p,.q,.q,.p,.p,.q,.q,.v,.v,.x,.x,.x])]⟩
def b3l(s:c0B):Option (c0B ⊕ Z67):=(fun(a:Int)(b:LI)(c:Z18)=>cond (decide (a<s.2.1)) (cond ((decide (0≤a))&&(decide (a<(b.length:Int)))) (some (.inl (wrap .u64 ((wrap .u64 (s.1*256))+(wrap .u64 (a04 b (a00 a) 0))),s.2.1,wrap .i64 (a+1),b,c,()))) none) (some (.inr (s.1,c,())))) s.2.2.1 s.2.2.2.1 s.2.2.2.2.1
def a6U(x:Z39):Option Z36:=(a4r x.2).bind fun y1=>(a9E (x.1,y1)).bind fun y2=>(y0s b3l (0,(y2.1.length:Int),0,y2.1,y2.2,())).bind fun w3=>some (w3.1,w3.2.1)
def b4Z:FSem:=⟨[.r false (.b Q17),.v QI],[.v QU],a6U⟩
def d9G:Hints:=⟨[(58,[.sv 5 QU,12,13,.own 11 1011 QV,.box pinned Q17],[Qe 0 [.sv 5 QU,.box pinned Q17]])],[],[]⟩
def b5a(s:(LI×(Int×Int×a4S×a4S×Z44))):Option ((LI×(Int×Int×a4S×a4S×Z44)) ⊕ (LI×(a4S×a4S×Z44))):=(fun(a:Int)(b c:a4S)(d:Z18)=>cond (decide (a<s.2.1)) ((a0P (d,1048704)).bind fun y6=>cond (lim ((a01 c.2.1)+1)) ((a0P (y6.2,4096)).bind fun y7=>cond (lim ((a01 c.2.2.1)+1)) (some (.inl (s.1,s.2.1,wrap .u64 (a+1),b,(c.1,a03 c.2.1 [wrap .i64 y6.1],a03 c.2.2.1 [wrap .i64 y7.1],c.2.2.2),y7.2,()))) none) none) (some (.inr (s.1,b,c,d,())))) s.2.2.1 s.2.2.2.1 s.2.2.2.2.1 s.2.2.2.2.2.1
def b5b(s:(Int×Int×a4S×c7p)):Option ((Int×Int×a4S×c7p) ⊕ ((a4S×c7p) ⊕ (Int×c7p))):=(fun(a:Int)(b c:a4S)=>cond (decide (a<s.1)) (cond ((decide (0≤a))&&(decide (a<(c.2.2.1.length:Int)))) (cond ((a04 c.2.2.1 (a00 a) 0)==0) (some (.inr (Sum.inr ((2,((0,0,0,()),[],[],0,0,0,()),()))))) (some (.inl (s.1,wrap .i64 (a+1),b,(c.1,c.2.1,c.2.2.1,wrap .i64 (c.2.2.2.1+(a04 c.2.2.1 (a00 a) 0)),c.2.2.2.2),())))) none) (some (.inr (Sum.inl (b,c,()))))) s.2.1 s.2.2.1 s.2.2.2.1
def a9h(x:LI):Option (a4S×Int):=cond (decide ((x.length:Int)<4)) (some (((0,0,0,()),[],[],0,0,0,()),3)) (cond (decide (4≤(x.length:Int))) (cond ((b2s (a06 4 x)) != [75,78,83,68]) (some (((0,0,0,()),[],[],0,0,0,()),2)) (cond (decide (4≤(x.length:Int))) ((b2V (a09 4 (a06 (a01 x) x))).bind fun y1=>(a0P (y1,1048576)).bind fun y2=>(a0P (y2.2,8)).bind fun y3=>(a0P (y3.2,24)).bind fun y4=>(a0P (y4.2,4096)).bind fun y5=>(y0s b5a (x,y5.1,0,((0,0,0,()),[],[],0,0,0,()),((wrap .i64 y2.1,wrap .i64 y3.1,wrap .i64 y4.1,()),[],[],0,0,0,()),y5.2,())).bind fun w8=>(a6T w8.2.2.2.1).bind fun y9=>cond (y9.1 != 0) (some (((0,0,0,()),[],[],0,0,0,()),y9.1)) ((a4i y9.2).bind fun y10=>cond (decide (y10.1<12)) (some (((0,0,0,()),[],[],0,0,0,()),3)) ((a6U (y10.2,8)).bind fun y11=>(a7R y11.2).bind fun y12=>cond ((decide (0≤(wrap .i64 (4+y12.1))))&&(decide ((wrap .i64 (4+y12.1))≤(w8.1.length:Int)))) ((a3W (a06 (a00 (wrap .i64 (4+y12.1))) w8.1)).bind fun y13=>(a6U (y12.2,4)).bind fun y14=>cond ((wrap .u64 y13) != y14.1) (some (((0,0,0,()),[],[],0,0,0,()),5)) ((a1K w8.2.2.1.1).bind fun y15=>cond (!y15) (some (((0,0,0,()),[],[],0,0,0,()),2)) ((y0s b5b ((w8.2.2.1.2.2.1.length:Int),0,w8.2.1,(w8.2.2.1.1,w8.2.2.1.2.1,w8.2.2.1.2.2.1,w8.2.2.1.2.2.2.1,y11.1,wrap .i64 ((wrap .i64 (4+y12.1))+4),w8.2.2.1.2.2.2.2.2.2),())).bind fun w16=>match w16 with |.inl a17=>(cond (decide (a17.2.1.2.2.2.1 > 4194304)) (some (((0,0,0,()),[],[],0,0,0,()),2)) (some (a17.2.1,0))) |.inr b18=>some (b18.2.1,b18.1)))) none))) none)) none)
def b8D:FSem:=⟨[.v QB],[.v Q28,.v QI],a9h⟩
def d9H:Hints:=⟨[(4090,[.sv 0 QB,.sv 38 QU,.sv 39 QU,.box 2 Q28,.box 4 Q27,.box 1021 Q17,Qp 2 2,Qp 4 4,Qp 5 1021],[Qe 0 [.sv 0 QB,.box 2 Q28,.box 4 Q27,.box 1021 Q17,Qp 2 2,Qp 4 4,Qp 5 1021]]),(1048570,[93,94,.box 2 Q28,.box 4 Q27,Qp 2 2,Qp 4 4,.ref 92 4 [.snd,.snd,.fst]],[Qe 2 [.box 2 Q28,.box 4 Q27,Qp 2 2,Qp 4 4],Qr [3,.box 2 Q28,Qp 2 2]])],[],[(12,[.r [4,41],.r [4,42],.q,.w [44,1021,1044],.v,.q,.x,.x,.x]),(13,[.r [4,49],.r [4,50],.q,.w [52,1021,1052],.v,.q,.x,.x,.x])]⟩
def b6T(x:Int):Option Int:=cond ((a08 x 2)==0) (some (wrap .i64 (wrap .u64 (a07 x 2)))) (some (wrap .i64 ((wrap .i64 (0-(wrap .i64 (wrap .u64 (a07 x 2)))))-1)))
def c6g:FSem:=⟨[.v QU],[.v QI],b6T⟩
def b5c(s:(LI×(Int×Int×c0E))):Option ((LI×(Int×Int×c0E)) ⊕ (LI×c0E)):=(fun(a:Int)(b:a1v)(c:Z18)=>cond (decide (a<s.2.1)) ((a0P (c,7)).bind fun y11=>(a0P (y11.2,7)).bind fun y12=>(a0P (y12.2,2048)).bind fun y13=>(b6T y13.1).bind fun y14=>cond (lim ((a01 b.2.2.2.1)+1)) (some (.inl (s.1,s.2.1,wrap .u64 (a+1),(b.1,b.2.1,b.2.2.1,a03 b.2.2.2.1 ([(wrap .i64 y11.1,wrap .i64 y12.1,y14,())]:List Z7),b.2.2.2.2),y13.2,()))) none) (some (.inr (s.1,b,c,())))) s.2.2.1 s.2.2.2.1 s.2.2.2.2.1
def b2w(x:LI):Option (a1v×Int×Int×Int):=cond (decide ((x.length:Int)<2)) (some ((0,0,(0,0,0,()),[],[],()),0,0,3)) ((show Option (LI×(Bool×a8S))from(m0k x 0).bind fun x1=>cond (x1 != 245) (some (x,true,(0,0,(0,0,0,()),[],[],()),())) ((m0k x 1).bind fun x2=>some (x,x2 != 75,(0,0,(0,0,0,()),[],[],()),()))).bind fun z3=>cond z3.2.1 (some ((0,0,(0,0,0,()),[],[],()),0,0,2)) (cond (decide (2≤(z3.1.length:Int))) ((b2V (a09 2 (a06 (a01 z3.1) z3.1))).bind fun y4=>(a0P (y4,4194304)).bind fun y5=>(a0P (y5.2,4096)).bind fun y6=>(a0P (y6.2,1048576)).bind fun y7=>(a0P (y7.2,8)).bind fun y8=>(a0P (y8.2,24)).bind fun y9=>(a0P (y9.2,16)).bind fun y10=>(y0s b5c (z3.1,y10.1,0,(wrap .i64 y5.1,wrap .i64 y6.1,(wrap .i64 y7.1,wrap .i64 y8.1,wrap .i64 y9.1,z3.2.2.1.2.2.1.2.2.2),z3.2.2.1.2.2.2),y10.2,())).bind fun w15=>(a0P (w15.2.2.1,1048576)).bind fun y16=>(a6T y16.2).bind fun y17=>cond (y17.1 != 0) (some ((0,0,(0,0,0,()),[],[],()),0,0,y17.1)) ((a4i y17.2).bind fun y18=>cond (decide (y18.1<1)) (some ((0,0,(0,0,0,()),[],[],()),0,0,3)) ((a7R y18.2).bind fun y19=>cond ((decide (0≤(wrap .i64 (2+y19.1))))&&(decide ((wrap .i64 (2+y19.1))≤(w15.1.length:Int)))) ((a6Q (a06 (a00 (wrap .i64 (2+y19.1))) w15.1)).bind fun y20=>(m0k w15.1 (wrap .i64 (2+y19.1))).bind fun x21=>cond (y20 != x21) (some ((0,0,(0,0,0,()),[],[],()),0,0,5)) ((a5W w15.2.1).bind fun y22=>cond (!y22) (some ((0,0,(0,0,0,()),[],[],()),0,0,2)) (some (w15.2.1,wrap .i64 ((wrap .i64 (2+y19.1))+1),wrap .i64 y16.1,0)))) none))) none))
def b8E:FSem:=⟨[.v QB],[.v (.pair QI (.pair QI (.pair Q13 (.pair (.list false Q13) Q44)))),.v QI,.v QI,.v QI],b2w⟩
def H71:Hints:=⟨[(8186,[.sv 0 QB,.sv 54 QU,.sv 55 QU,.box 2 Q59,.box 1029 Q17,Qp 2 2,Qp 6 1029],[Qe 0 [.sv 0 QB,.box 2 Q59,.box 1029 Q17,Qp 2 2,Qp 6 1029]])],[(14,[Qn [.sv 0 QB,.sv 25 .bool,.box 2 Q59,Qp 2 2]])],[(25,[.v,.v,.v,.v,.v,.v,.v,.v,.x])]⟩
def b8F(x:LI):Option Z18:=cond (lim (a01 x)) (some (x,0,0,())) none
def c7T:FSem:=⟨[.v QB],[.b Q17],b8F⟩
def a0Q(x:Z18):Option Z36:=some (x.2.2.1,x)
def b6B:FSem:=⟨[.r false (.b Q17)],[.v QI],a0Q⟩
def a6V(x:Z18):Option Z36:=some (wrap .i64 ((wrap .i64 (8*(x.1.length:Int)))-x.2.1),x)
def b5d:FSem:=⟨[.r false (.b Q17)],[.v QI],a6V⟩
def H74:Hints:=⟨[],[],[(1,[.p,.p,.q,.q,.v,.v,.p,.p,.q,.q,.x,.x])]⟩
def a4C(x:Z39):Option Z36:=(m0k x.1.1 (wrap .i64 (a07 x.2 8))).bind fun x1=>cond (decide ((wrap .i64 (7-(a08 x.2 8)))<0)) none (some (bits .u8 .and (A0o .u8 x1 (wrap .i64 (7-(a08 x.2 8)))) 1,x.1))
def b5e:FSem:=⟨[.r false (.b Q17),.v QI],[.v QV],a4C⟩
def b3L(s:c3P):Option (c3P ⊕ Z67):=cond (decide (s.2.2.1<s.2.1)) ((a4C (s.2.2.2.1,s.2.2.2.1.2.1)).bind fun y3=>some (.inl (bits .u64 .or (A0n .u64 s.1 1) (wrap .u64 y3.1),s.2.1,wrap .i64 (s.2.2.1+1),(y3.2.1,wrap .i64 (y3.2.2.1+1),y3.2.2.2),()))) (some (.inr (s.1,s.2.2.2.1,())))
def a0R(x:Z39):Option Z36:=cond (x.1.2.2.1 != 0) (some (0,x.1)) ((show Option Z87 from cond (decide (x.2<0)) (some (x.2,true,x.1,())) (some (x.2,decide (x.2 > 64),x.1,()))).bind fun z1=>cond z1.2.1 (some (0,z1.2.2.1.1,z1.2.2.1.2.1,1,z1.2.2.1.2.2.2)) ((a6V z1.2.2.1).bind fun y2=>cond (decide (z1.1 > y2.1)) (some (0,y2.2.1,y2.2.2.1,3,y2.2.2.2.2)) ((y0s b3L (0,z1.1,0,y2.2,())).bind fun w4=>some (w4.1,w4.2.1))))
def b6C:FSem:=⟨[.r false (.b Q17),.v QI],[.v QU],a0R⟩
def d9I:Hints:=⟨[(506,[.sv 5 QU,27,28,.box pinned Q17,Qp 0 pinned],[Qe 0 [.sv 5 QU,.box pinned Q17]])],[(14,[Qn [1,.sv 16 .bool,.box pinned Q17,Qp 0 pinned]])],[]⟩
def a2u(x:Z39):Option Z36:=(a0R (x.1,x.2)).bind fun y1=>(show Option (Int×Z87)from cond (y1.2.2.2.1 != 0) (some (x.2,y1.1,true,y1.2,())) (some (x.2,y1.1,x.2==0,y1.2,()))).bind fun z2=>cond z2.2.2.1 (some (0,z2.2.2.2.1)) (cond (decide ((wrap .i64 (64-z2.1))<0)) none (cond (decide ((wrap .i64 (64-z2.1))<0)) none (some (A0o .i64 (wrap .i64 (A0n .u64 z2.2.1 (wrap .i64 (64-z2.1)))) (wrap .i64 (64-z2.1)),z2.2.2.2.1))))
def b3M:FSem:=⟨[.r false (.b Q17),.v QI],[.v QI],a2u⟩
def d9J:Hints:=⟨[],[(14,[Qn [1,.sv 5 QU,.sv 17 .bool,.box pinned Q17]])],[]⟩
def b6D(s:(Int×c0D)):Option ((Int×c0D) ⊕ (Int×c7w)):=(fun(a:Int)(b:Z18)(c:a1b)=>cond (decide (a<s.2.1)) ((a2u (b,s.1)).bind fun y4=>cond (lim ((a01 c.2.2.2.2.2.1)+1)) (some (.inl (s.1,s.2.1,wrap .i64 (a+1),y4.2,(c.1,c.2.1,c.2.2.1,c.2.2.2.1,c.2.2.2.2.1,a03 c.2.2.2.2.2.1 [y4.1],c.2.2.2.2.2.2),()))) none) (some (.inr (s.1,c,b,())))) s.2.2.1 s.2.2.2.1 s.2.2.2.2.1
def b3m(x:(Z18×a1b)):Option (Bool×Z18×a1b):=(a0R (x.1,5)).bind fun y1=>(a0R (y1.2,4)).bind fun y2=>(a0R (y2.2,5)).bind fun y3=>(y0s b6D (wrap .i64 y3.1,wrap .i64 ((wrap .i64 y1.1)+1),0,y3.2,(x.2.1,x.2.2.1,x.2.2.2.1,wrap .i64 y2.1,x.2.2.2.2.2),())).bind fun w5=>(a1q w5.2.1.2.2.2.2.2.1).bind fun y6=>some (y6==w5.1,w5.2.2.1,w5.2.1)
def c1c:FSem:=⟨[.r false (.b Q17),.r false (.b Q42)],[.v .bool],b3m⟩
def d9K:Hints:=⟨[(250,[6,20,21,.box pinned Q17,.box 1000001 Q42,Qp 0 pinned,Qp 1 1000001],[Qe 0 [6,.box 1000001 Q42,.box pinned Q17,Qp 1 1000001]])],[],[(6,[.p,.p,.p,.r [26,1000001],.r [27,1000001],.p,.v,.w [30,1030,pinned],.q,.a [31,32,1000001],.x,.x,.x])]⟩
def b7L(s:c0D):Option (c0D ⊕ d1b):=(fun(a:Int)(b:Z18)(c:a1b)=>cond (decide (a<3)) ((a2u (b,8)).bind fun y6=>cond ((decide (0≤a))&&(decide (a<3))) (some (.inl (s.1,wrap .i64 (a+1),y6.2,(c.1,c.2.1,c.2.2.1,c.2.2.2.1,c.2.2.2.2.1,c.2.2.2.2.2.1,a05 c.2.2.2.2.2.2.1 (a00 a) y6.1,c.2.2.2.2.2.2.2),()))) none) (some (.inr (s.1,b,c,())))) s.2.1 s.2.2.1 s.2.2.2.1
def b7M(s:(Int×Bool×c0D)):Option ((Int×Bool×c0D) ⊕ (Int×Bool×c7w)):=(fun(a b:Int)(c:Z18)(d:a1b)=>cond (decide (b<a)) ((a0R (c,5)).bind fun y15=>(a0R (y15.2,4)).bind fun y16=>cond (lim ((a01 d.2.2.2.2.2.2.2.1)+1)) (some (.inl (s.1,s.2.1,a,wrap .u64 (b+1),y16.2,(d.1,d.2.1,d.2.2.1,d.2.2.2.1,d.2.2.2.2.1,d.2.2.2.2.2.1,d.2.2.2.2.2.2.1,a03 d.2.2.2.2.2.2.2.1 ([(wrap .i64 ((wrap .i64 y15.1)+1),wrap .i64 y16.1,())]:List (Int×Int×Unit)),d.2.2.2.2.2.2.2.2),()))) none) (some (.inr (s.1,s.2.1,d,c,())))) s.2.2.1 s.2.2.2.1 s.2.2.2.2.1 s.2.2.2.2.2.1
def b4k(x:Z18):Option (a1b×Int×Bool×Z18):=(a0R (x,3)).bind fun y1=>(a0R (y1.2,5)).bind fun y2=>(a0R (y2.2,5)).bind fun y3=>(show Option (Int×Bool×c7w)from(show Option (d1b ⊕ ((Int×Bool×c7w) ⊕ (Int×Bool×d4c)))from cond ((wrap .i64 y1.1)==2) ((a0R (y3.2,3)).bind fun y4=>some (Sum.inr (Sum.inl (wrap .i64 y3.1,true,(wrap .i64 y1.1,wrap .i64 y2.1,wrap .i64 y4.1,0,0,[],a02 3 0,[],[],(0,[],()),[],()),y4.2,())))) (cond ((wrap .i64 y1.1)==4) ((a0R (y3.2,10)).bind fun y5=>(y0s b7L (wrap .i64 y3.1,0,y5.2,(wrap .i64 y1.1,wrap .i64 y2.1,0,0,wrap .i64 ((wrap .i64 y5.1)+1),[],a02 3 0,[],[],(0,[],()),[],()),())).bind fun w7=>some (Sum.inl (w7.1,w7.2.1,w7.2.2.1,()))) (cond ((wrap .i64 y1.1)==3) (some (Sum.inl (wrap .i64 y3.1,y3.2,(wrap .i64 y1.1,wrap .i64 y2.1,0,0,0,[],a02 3 0,[],[],(0,[],()),[],()),()))) (cond ((wrap .i64 y1.1)==5) (some (Sum.inr (Sum.inr ((wrap .i64 y3.1,true,y3.2,(wrap .i64 y1.1,wrap .i64 y2.1,0,0,0,[],a02 3 0,[],[],(0,[],()),[],()),()))))) (some (Sum.inr (Sum.inl (wrap .i64 y3.1,true,(wrap .i64 y1.1,wrap .i64 y2.1,0,0,0,[],a02 3 0,[],[],(0,[],()),[],()),y3.2,())))))))).bind fun z8=>match z8 with |.inl a9=>((b3m (a9.2.1,a9.2.2.1)).bind fun y11=>some (a9.1,y11.1,y11.2.2,y11.2.1,())) |.inr b10=>(match b10 with |.inl a12=>some (a12.1,a12.2.1,a12.2.2.1,a12.2.2.2.1,()) |.inr b13=>((a0R (b13.2.2.1,2)).bind fun y14=>(y0s b7M (b13.1,b13.2.1,y14.1,0,y14.2,b13.2.2.2.1,())).bind fun w17=>some (w17.1,w17.2.1,w17.2.2.1,w17.2.2.2.1,())))).bind fun z18=>some (z18.2.2.1,z18.1,z18.2.1,z18.2.2.2.1)
end Go.Ab
namespace Go.Ab
open IntKind(wrap)
open Go.Proofs
set_option maxRecDepth 100000
set_option linter.unusedVariables false
def c3e:FSem:=⟨[.r false (.b Q17)],[.v (.pair QI (.pair QI (.pair QI (.pair QI (.pair QI (.pair QL (.pair (.arr 3 QI) (.pair (.list false Q4) Q24)))))))),.v QI,.v .bool],b4k⟩
def d9L:Hints:=⟨[(8106,[3,.sv 4 .bool,.sv 50 QU,.sv 51 QU,.box pinned Q17,.box 2 Q42,Qp 0 pinned,Qp 2 2],[Qe 7 [3,.sv 4 .bool,.box 2 Q42,.box pinned Q17,Qp 2 2]]),(129550,[3,38,.box pinned Q17,.box 2 Q42,Qp 0 pinned,Qp 2 2],[Qe 5 [3,.box pinned Q17,.box 2 Q42,Qp 0 pinned,Qp 2 2]])],[(63,[Qn [3,.sv 4 .bool,.box 2 Q42,.box pinned Q17,Qp 2 2]]),(2024,[Qn [3,.box pinned Q17,.box 2 Q42,Qp 0 pinned,Qp 2 2],Qe 0 [3,.sv 4 .bool,.box 2 Q42,.box pinned Q17,Qp 2 2],Qe 4 [3,.sv 4 .bool,.box pinned Q17,.box 2 Q42,Qp 0 pinned,Qp 2 2]])],[]⟩
def b2W(s:c3P):Option (c3P ⊕ Z67):=(fun(a b:Int)(c:Z18)=>cond (b==(wrap .i64 (8*(c.1.length:Int)))) (some (.inr (0,(c.1,c.2.1,3,c.2.2.2),()))) ((a4C (c,b)).bind fun y2=>cond (y2.1==1) (some (.inr (a,(y2.2.1,wrap .i64 (b+1),y2.2.2.2),()))) (cond (a==s.1) (some (.inr (0,(y2.2.1,y2.2.2.1,2,y2.2.2.2.2),()))) (some (.inl (s.1,wrap .i64 (a+1),wrap .i64 (b+1),y2.2,())))))) s.2.1 s.2.2.1 s.2.2.2.1
def a9F(x:Z39):Option Z36:=cond (x.1.2.2.1 != 0) (some (0,x.1)) ((y0s b2W (v0r x.2 0,0,x.1.2.1,x.1,())).bind fun w3=>some (w3.1,w3.2.1))
def b4D:FSem:=⟨[.r false (.b Q17),.v QI],[.v QI],a9F⟩
def d9M:Hints:=⟨[(62,[1,5,6,.box pinned Q17,Qp 0 pinned],[Qr [4,.box pinned Q17]])],[],[(4,[.p,.p,.q,.q,.v,.x])]⟩
def b1g(x:Int):Option Int:=cond (decide (x≥2147483648)) (some 0) (cond ((a08 x 2)==0) (some (wrap .i64 (wrap .u64 (a07 x 2)))) (some (wrap .i64 ((wrap .i64 (0-(wrap .i64 (wrap .u64 (a07 x 2)))))-1))))
def c3f:FSem:=⟨[.v QU],[.v QI],b1g⟩
def b8G(x:Z39):Option Z59:=(a9F (x.1,32)).bind fun y1=>(a0Q y1.2).bind fun y2=>cond (y2.1 != 0) ((a0Q y2.2).bind fun y3=>some (0,y3.1,y3.2)) (cond (decide ((wrap .u64 y1.1)<32)) ((a0R (y2.2,x.2)).bind fun y4=>cond (decide (x.2<0)) none ((b1g (wrap .u64 ((A0n .u64 (wrap .u64 y1.1) x.2)+y4.1))).bind fun y5=>(a0Q y4.2).bind fun y6=>some (y5,y6.1,y6.2))) ((a0R (y2.2,32)).bind fun y7=>(a0Q y7.2).bind fun y8=>cond (y8.1 != 0) ((a0Q y8.2).bind fun y9=>some (0,y9.1,y9.2)) ((show Option Z87 from cond (decide (y7.1≥2147483648)) (some (y7.1,true,y8.2,())) (cond (decide (x.2<0)) none (some (y7.1,decide ((A0o .u64 y7.1 x.2)<32),y8.2,())))).bind fun z10=>cond z10.2.1 (some (0,2,z10.2.2.1)) ((b1g z10.1).bind fun y11=>some (y11,0,z10.2.2.1)))))
def c7U:FSem:=⟨[.r false (.b Q17),.v QI],[.v QI,.v QI],b8G⟩
def d9N:Hints:=⟨[],[(254,[Qn [.sv 8 QU,.sv 44 .bool,.box pinned Q17]])],[]⟩
def c3g(s:c0B):Option (c0B ⊕ (Z82 ⊕ d4a)):=cond (decide (s.2.2.1<s.2.1)) ((b8G (s.2.2.2.2.1,s.1)).bind fun y5=>cond (y5.2.1 != 0) (some (.inr (Sum.inr ((y5.2.1,[],y5.2.2,()))))) (cond (lim ((a01 s.2.2.2.1)+1)) (some (.inl (s.1,s.2.1,wrap .i64 (s.2.2.1+1),a03 s.2.2.2.1 [y5.1],y5.2.2,()))) none)) (some (.inr (Sum.inl (s.2.2.2.1,s.2.2.2.2.1,()))))
def b8H(x:(Z18×Int×Int)):Option Z76:=(show Option (Int×Z87)from(a2O x.2.1).bind fun y1=>cond (!y1) (some (x.2.1,x.2.2,true,x.1,())) (cond (decide (x.2.2<0)) (some (x.2.1,x.2.2,true,x.1,())) (some (x.2.1,x.2.2,decide (x.2.2 > 4194304),x.1,())))).bind fun z2=>cond z2.2.2.1 (some ([],1,z2.2.2.2.1)) ((a0Q z2.2.2.2.1).bind fun y3=>cond (y3.1 != 0) ((a0Q y3.2).bind fun y4=>some ([],y4.1,y4.2)) ((y0s c3g (z2.1,z2.2.1,0,[],y3.2,())).bind fun w6=>match w6 with |.inl a7=>some (a7.1,0,a7.2.1) |.inr b8=>some (b8.2.1,b8.1,b8.2.2.1)))
def c7V:FSem:=⟨[.r false (.b Q17),.v QI,.v QI],[.o QI,.v QI],b8H⟩
def d9O:Hints:=⟨[(250,[1,27,28,.own 8 8 QI,.box pinned Q17,Qp 0 pinned],[Qe 0 [.own 8 8 QI,.box pinned Q17],Qr [7,.own 6 6 QI,.box pinned Q17]])],[(6,[Qn [1,2,.sv 21 .bool,.box pinned Q17,Qp 0 pinned]])],[]⟩
def c1d(s:(Int×c0B)):Option ((Int×c0B) ⊕ d4b):=(fun(a b c:Int)(d:LI)(e:Z18)=>cond (decide (c<b)) ((a2u (e,a)).bind fun y6=>cond (lim ((a01 d)+1)) (some (.inl (s.1,a,b,wrap .i64 (c+1),a03 d [y6.1],y6.2,()))) none) (some (.inr (s.1,a,d,e,())))) s.2.1 s.2.2.1 s.2.2.2.1 s.2.2.2.2.1 s.2.2.2.2.2.1
def b6U(x:Z39):Option (Int×Z76):=(a0R (x.1,5)).bind fun y1=>(a0Q y1.2).bind fun y2=>cond (y2.1 != 0) ((a0Q y2.2).bind fun y3=>some (0,[],y3.1,y3.2)) (cond (decide ((wrap .i64 y1.1)≤25)) ((b8H (y2.2,wrap .i64 y1.1,x.2)).bind fun y4=>some (wrap .i64 y1.1,y4.1,y4.2.1,y4.2.2)) (cond ((wrap .i64 y1.1) != 31) (some (0,[],2,y2.2)) ((a0R (y2.2,5)).bind fun y5=>(y0s c1d (wrap .i64 y1.1,wrap .i64 y5.1,x.2,0,[],y5.2,())).bind fun w7=>(a0Q w7.2.2.2.1).bind fun y8=>cond (y8.1 != 0) ((a0Q y8.2).bind fun y9=>some (0,[],y9.1,y9.2)) ((a1q w7.2.2.1).bind fun y10=>cond (y10 != w7.2.1) (some (0,[],2,y8.2)) (some (w7.1,w7.2.2.1,0,y8.2))))))
def c6h:FSem:=⟨[.r false (.b Q17),.v QI],[.v QI,.o QI,.v QI],b6U⟩
def d9P:Hints:=⟨[(2042,[7,10,37,38,.own 11 11 QI,.box pinned Q17,Qp 0 pinned],[Qe 0 [7,10,.own 11 11 QI,.box pinned Q17,Qp 0 pinned]])],[],[]⟩
def c1e(s:(Int×(Int×(LI×(LI×(Z18×b9Z)))))):Option ((Int×(Int×(LI×(LI×(Z18×b9Z))))) ⊕ ((LI×(Z5×Z5×Z44)) ⊕ (Int×(LI×(Z5×Z44))))):=(fun(a:Int)(b c:LI)(d:Z18)(e f:Z5)=>cond (decide (a<s.1)) (cond ((decide (0≤a))&&(decide (a<(c.length:Int)))) ((b6U (d,a04 c (a00 a) 0)).bind fun y6=>cond (y6.2.2.1 != 0) (some (.inr (Sum.inr ((y6.2.2.1,[],(0,[],()),y6.2.2.2,()))))) (cond (lim ((a01 f.2.1)+1)) (cond (lim ((a01 b)+(a01 y6.2.1))) (some (.inl (s.1,wrap .i64 (a+1),a03 b y6.2.1,c,y6.2.2.2,e,(f.1,a03 f.2.1 [y6.1],f.2.2),()))) none) none)) none) (some (.inr (Sum.inl (b,e,f,d,()))))) s.2.1 s.2.2.1 s.2.2.2.1 s.2.2.2.2.1 s.2.2.2.2.2.1 s.2.2.2.2.2.2.1
def b6V(x:(Z18×Int×Int)):Option (Z5×Z76):=(a6l (x.2.1,x.2.2)).bind fun y1=>cond (!y1) (some ((0,[],()),[],1,x.1)) ((a0R (x.1,4)).bind fun y2=>(a0Q y2.2).bind fun y3=>cond (y3.1 != 0) ((a0Q y3.2).bind fun y4=>some ((0,[],()),[],y4.1,y4.2)) ((a2E (wrap .i64 y2.1,x.2.1,x.2.2)).bind fun y5=>cond ((y5.length:Int)==0) (some ((0,[],()),[],2,y3.2)) ((y0s c1e ((y5.length:Int),0,[],y5,y3.2,(0,[],()),(wrap .i64 y2.1,[],()),())).bind fun w7=>match w7 with |.inl a8=>some (a8.2.2.1,a8.1,0,a8.2.2.2.1) |.inr b9=>some (b9.2.2.1,b9.2.1,b9.1,b9.2.2.2.1))))
def c6i:FSem:=⟨[.r false (.b Q17),.v QI,.v QI],[.v Q12,.o QI,.v QI],b6V⟩
def d9Q:Hints:=⟨[(4090,[43,44,.own 12 12 QI,.own 42 10 QI,.box pinned Q17,.box 6 Q12,.box 11 Q11,Qp 0 pinned,Qp 6 6,Qp 11 11],[Qe 0 [.own 12 12 QI,.box 6 Q12,.box 11 Q11,.box pinned Q17,Qp 6 6,Qp 11 11],Qr [8,.own 7 7 QI,.box 6 Q12,.box pinned Q17,Qp 6 6]])],[],[]⟩
def c4v(s:(Int×Int×Bool×Int×Int×Z18×a9J)):Option ((Int×Int×Bool×Int×Int×Z18×a9J) ⊕ (Int×Int×Bool×Z18×a9J)):=(fun(a:Int)(b:Bool)(c d:Int)(e:Z18)(f g:a1b)=>cond (decide (d<c)) ((a2u (e,a)).bind fun y7=>cond (lim ((a01 g.2.2.2.2.2.2.2.2.1)+1)) (some (.inl (s.1,a,b,c,wrap .i64 (d+1),y7.2,f,(g.1,g.2.1,g.2.2.1,g.2.2.2.1,g.2.2.2.2.1,g.2.2.2.2.2.1,g.2.2.2.2.2.2.1,g.2.2.2.2.2.2.2.1,a03 g.2.2.2.2.2.2.2.2.1 [y7.1],g.2.2.2.2.2.2.2.2.2),()))) none) (some (.inr (s.1,a,b,e,f,g,())))) s.2.1 s.2.2.1 s.2.2.2.1 s.2.2.2.2.1 s.2.2.2.2.2.1 s.2.2.2.2.2.2.1 s.2.2.2.2.2.2.2.1
def c2c(x:Z39):Option (a1b×Z36):=cond (decide (x.2<1)) (some ((0,0,0,0,0,[],a02 3 0,[],[],(0,[],()),[],()),1,x.1)) (cond (decide (x.2 > 4096)) (some ((0,0,0,0,0,[],a02 3 0,[],[],(0,[],()),[],()),1,x.1)) ((a0Q x.1).bind fun y1=>cond (y1.1 != 0) (some ((0,0,0,0,0,[],a02 3 0,[],[],(0,[],()),[],()),y1.1,y1.2)) ((b4k y1.2).bind fun y2=>(a0Q y2.2.2.2).bind fun y3=>cond (y3.1 != 0) (some ((0,0,0,0,0,[],a02 3 0,[],[],(0,[],()),[],()),y3.1,y3.2)) ((a8L (y2.1.1,y2.1,x.2)).bind fun y4=>cond (!y4) (some ((0,0,0,0,0,[],a02 3 0,[],[],(0,[],()),[],()),2,y3.2)) ((a5r (y2.1,x.2)).bind fun y5=>(y0s c4v (x.2,y2.2.1,y2.2.2.1,y5,0,y3.2,(0,0,0,0,0,[],a02 3 0,[],[],(0,[],()),[],()),y2.1,())).bind fun w8=>(a0Q w8.2.2.2.1).bind fun y9=>cond (y9.1 != 0) (some ((0,0,0,0,0,[],a02 3 0,[],[],(0,[],()),[],()),y9.1,y9.2)) ((a5p w8.2.2.2.2.2.1.1).bind fun y10=>cond y10 ((b6V (y9.2,w8.1,(w8.2.2.2.2.2.1.2.2.2.2.2.2.2.2.1.length:Int))).bind fun y11=>cond (y11.2.2.1 != 0) (some ((0,0,0,0,0,[],a02 3 0,[],[],(0,[],()),[],()),y11.2.2.1,y11.2.2.2)) (cond (!w8.2.2.1) (some ((0,0,0,0,0,[],a02 3 0,[],[],(0,[],()),[],()),2,y11.2.2.2)) ((a1q w8.2.2.2.2.2.1.2.2.2.2.2.2.2.2.1).bind fun y12=>cond (y12 != w8.2.1) (some ((0,0,0,0,0,[],a02 3 0,[],[],(0,[],()),[],()),2,y11.2.2.2)) ((a8M ((w8.2.2.2.2.2.1.1,w8.2.2.2.2.2.1.2.1,w8.2.2.2.2.2.1.2.2.1,w8.2.2.2.2.2.1.2.2.2.1,w8.2.2.2.2.2.1.2.2.2.2.1,w8.2.2.2.2.2.1.2.2.2.2.2.1,w8.2.2.2.2.2.1.2.2.2.2.2.2.1,w8.2.2.2.2.2.1.2.2.2.2.2.2.2.1,w8.2.2.2.2.2.1.2.2.2.2.2.2.2.2.1,y11.1,y11.2.1,w8.2.2.2.2.2.1.2.2.2.2.2.2.2.2.2.2.2),w8.1)).bind fun y13=>cond (!y13) (some ((0,0,0,0,0,[],a02 3 0,[],[],(0,[],()),[],()),2,y11.2.2.2)) (some ((w8.2.2.2.2.2.1.1,w8.2.2.2.2.2.1.2.1,w8.2.2.2.2.2.1.2.2.1,w8.2.2.2.2.2.1.2.2.2.1,w8.2.2.2.2.2.1.2.2.2.2.1,w8.2.2.2.2.2.1.2.2.2.2.2.1,w8.2.2.2.2.2.1.2.2.2.2.2.2.1,w8.2.2.2.2.2.1.2.2.2.2.2.2.2.1,w8.2.2.2.2.2.1.2.2.2.2.2.2.2.2.1,y11.1,y11.2.1,w8.2.2.2.2.2.1.2.2.2.2.2.2.2.2.2.2.2),0,y11.2.2.2)))))) (cond (!w8.2.2.1) (some ((0,0,0,0,0,[],a02 3 0,[],[],(0,[],()),[],()),2,y9.2)) ((a1q w8.2.2.2.2.2.1.2.2.2.2.2.2.2.2.1).bind fun y14=>cond (y14 != w8.2.1) (some ((0,0,0,0,0,[],a02 3 0,[],[],(0,[],()),[],()),2,y9.2)) ((a8M (w8.2.2.2.2.2.1,w8.1)).bind fun y15=>cond (!y15) (some ((0,0,0,0,0,[],a02 3 0,[],[],(0,[],()),[],()),2,y9.2)) (some (w8.2.2.2.2.2.1,0,y9.2)))))))))))
def c9w:FSem:=⟨[.r false (.b Q17),.v QI],[.v Q43,.v QI],c2c⟩
def H73:Hints:=⟨[(1018,[1,8,.sv 9 .bool,47,48,.box pinned Q17,.box 4 Q43,.box 7 (.pair QI (.pair QI (.pair QI (.pair QI (.pair QI (.pair QL (.pair (.arr 3 QI) (.pair (.list false Q4) (.pair (.list true QI) Q21))))))))),Qp 0 pinned,Qp 4 4,Qp 7 7],[Qe 0 [1,8,.sv 9 .bool,.box pinned Q17,.box 4 Q43,.box 7 (.pair QI (.pair QI (.pair QI (.pair QI (.pair QI (.pair QL (.pair (.arr 3 QI) (.pair (.list false Q4) (.pair (.list true QI) Q21))))))))),Qp 0 pinned,Qp 4 4,Qp 7 7]])],[],[(14,[.r [7,50],.r [7,51],.p,.v,.w [54,1054,pinned],.q,.x,.x,.x])]⟩
def b2X(s:Z86):Option (Z86 ⊕ (Z67 ⊕ Z44)):=cond (decide (s.2.1<s.1)) ((a4C (s.2.2.1,s.2.1)).bind fun y1=>cond (y1.1==1) (some (.inr (Sum.inr (((y1.2.1,y1.2.2.1,2,y1.2.2.2.2),()))))) (some (.inl (s.1,wrap .i64 (s.2.1+1),y1.2,())))) (some (.inr (Sum.inl (s.1,s.2.2.1,()))))
def a9G(x:Z18):Option Z18:=cond (x.2.2.1 != 0) (some x) ((y0s b2X (wrap .i64 ((wrap .i64 (a07 (wrap .i64 (x.2.1+7)) 8))*8),x.2.1,x,())).bind fun w2=>match w2 with |.inl a3=>some (a3.2.1.1,a3.1,a3.2.1.2.2) |.inr b4=>some b4.1)
def b4E:FSem:=⟨[.r false (.b Q17)],[],a9G⟩
def H75:Hints:=⟨[(58,[2,3,.box pinned Q17,Qp 0 pinned],[Qe 0 [2,.box pinned Q17,Qp 0 pinned],Qr [.box pinned Q17]])],[],[]⟩
def b8I(s:(Int×Int×Int×a1v×c0E)):Option ((Int×Int×Int×a1v×c0E) ⊕ ((Int×a1v×c0E) ⊕ (Int×c7z))):=(fun(a:Int)(b c:a1v)(d:Z18)=>cond (decide (a<s.2.1)) ((c2c (d,c.2.1)).bind fun y7=>cond (y7.2.1 != 0) (some (.inr (Sum.inr ((0,2,(0,0,(0,0,0,()),[],[],()),()))))) (cond (lim ((a01 c.2.2.2.2.1)+1)) (some (.inl (s.1,s.2.1,wrap .i64 (a+1),b,(c.1,c.2.1,c.2.2.1,c.2.2.2.1,a03 c.2.2.2.2.1 ([y7.1]:List a1b),c.2.2.2.2.2),y7.2.2,()))) none)) (some (.inr (Sum.inl (s.1,b,c,d,()))))) s.2.2.1 s.2.2.2.1 s.2.2.2.2.1 s.2.2.2.2.2.1
def b5f(x:LI):Option (a1v×Int×Int):=(b2w x).bind fun y1=>cond (y1.2.2.2 != 0) (some ((0,0,(0,0,0,()),[],[],()),0,y1.2.2.2)) (cond (decide ((x.length:Int)<(wrap .i64 ((wrap .i64 (y1.2.1+y1.2.2.1))+2)))) (some ((0,0,(0,0,0,()),[],[],()),0,3)) (cond ((decide (0≤(wrap .i64 (y1.2.1+y1.2.2.1))))&&(decide ((wrap .i64 (y1.2.1+y1.2.2.1))≤(x.length:Int)))) ((a5u (a06 (a00 (wrap .i64 (y1.2.1+y1.2.2.1))) x)).bind fun y2=>(m0k x (wrap .i64 (y1.2.1+y1.2.2.1))).bind fun x3=>(m0k x (wrap .i64 ((wrap .i64 (y1.2.1+y1.2.2.1))+1))).bind fun x4=>cond (y2 != (bits .u16 .or (A0n .u16 (wrap .u16 x3) 8) (wrap .u16 x4))) (some ((0,0,(0,0,0,()),[],[],()),0,5)) (cond ((decide (0≤(wrap .i64 (y1.2.1+y1.2.2.1))))&&(decide ((wrap .i64 (y1.2.1+y1.2.2.1))≤(x.length:Int)))) (cond ((decide (0≤y1.2.1))&&(decide (y1.2.1≤((a00 (wrap .i64 (y1.2.1+y1.2.2.1)):Nat):Int)))) ((b8F (a09 (a00 y1.2.1) (a06 (a00 (wrap .i64 (y1.2.1+y1.2.2.1))) x))).bind fun y5=>(y0s b8I (wrap .i64 (y1.2.1+y1.2.2.1),y1.1.2.2.1.2.1,0,(0,0,(0,0,0,()),[],[],()),y1.1,y5,())).bind fun w8=>match w8 with |.inl a9=>((a6V a9.2.2.2.1).bind fun y11=>cond (decide (y11.1≥8)) (some ((0,0,(0,0,0,()),[],[],()),0,2)) ((a9G y11.2).bind fun y12=>(a0Q y12).bind fun y13=>cond (y13.1 != 0) (some ((0,0,(0,0,0,()),[],[],()),0,2)) ((a4T a9.2.2.1).bind fun y14=>cond (!y14) (some ((0,0,(0,0,0,()),[],[],()),0,2)) (some (a9.2.2.1,wrap .i64 (a9.1+2),0))))) |.inr b10=>some (b10.2.2.1,b10.1,b10.2.1)) none) none)) none))
def c4w:FSem:=⟨[.v QB],[.v Q61,.v QI,.v QI],b5f⟩
def H21:Hints:=⟨[(2042,[9,59,60,.box 2 Q61,.box 5 Q60,.box 1056 Q17,Qp 2 2,Qp 5 5,Qp 10 1056],[Qe 0 [9,.box 2 Q61,.box 5 Q60,.box 1056 Q17,Qp 2 2,Qp 5 5,Qp 10 1056],Qr [3,4,.box 2 Q61,Qp 2 2]])],[],[(7,[.v,.v,.v,.v,.v,.v,.v,.v,.v,.v,.v,.v,.v,.v,.v,.v,.v,.x])]⟩
def a8D(x:(LI×(a4S×Int×Int×Int))):Option (a1v×Z34):=(fun(a:a4S)(b c:Int)=>(m0k a.2.1 b).bind fun x1=>cond (decide ((wrap .i64 ((x.1.length:Int)-c))<x1)) (some ((0,0,(0,0,0,()),[],[],()),(0,([]:(List LI)),()),3)) (cond ((decide (0≤(wrap .i64 (c+x1))))&&(decide ((wrap .i64 (c+x1))≤(x.1.length:Int)))) (cond ((decide (0≤c))&&(decide (c≤((a00 (wrap .i64 (c+x1)):Nat):Int)))) ((b5f (a09 (a00 c) (a06 (a00 (wrap .i64 (c+x1))) x.1))).bind fun y2=>cond (y2.2.2 != 0) (some ((0,0,(0,0,0,()),[],[],()),(0,([]:(List LI)),()),y2.2.2)) ((show Option (Bool×a1v×c7A)from cond (decide (y2.2.1<x1)) (some (true,(0,0,(0,0,0,()),[],[],()),(0,([]:(List LI)),()),y2.1,())) (cond (!(eqT Q13 y2.1.2.2.1 a.1)) (some (true,(0,0,(0,0,0,()),[],[],()),(0,([]:(List LI)),()),y2.1,())) (cond (y2.1.1 != x.2.2.2.2) (some (true,(0,0,(0,0,0,()),[],[],()),(0,([]:(List LI)),()),y2.1,())) ((m0k a.2.2.1 b).bind fun x3=>some (y2.1.2.1 != x3,(0,0,(0,0,0,()),[],[],()),(0,([]:(List LI)),()),y2.1,()))))).bind fun z4=>cond z4.1 (some ((0,0,(0,0,0,()),[],[],()),(0,([]:(List LI)),()),2)) ((a2d z4.2.2.2.1).bind fun y5=>cond (y5.2 != 0) (some ((0,0,(0,0,0,()),[],[],()),(0,([]:(List LI)),()),y5.2)) (some (z4.2.2.2.1,y5.1,0))))) none) none)) x.2.1 x.2.2.1 x.2.2.2.1
def b7N:FSem:=⟨[.v QB,.v Q28,.v QI,.v QI,.v QI],[.v Q61,.v Q16,.v QI],a8D⟩
def d9R:Hints:=⟨[],[(126,[Qn [.sv 72 .bool,.box 10 Q61,.box 11 Q16,.box 14 Q61,Qp 10 10,Qp 11 11,Qp 14 14]])],[(7,[.v,.v,.x,.x,.q,.q,.v,.v,.x,.x,.x,.q,.q,.v,.x,.x,.x,.q,.q,.v,.v,.v,.v,.v,.x,.x]),(12,[.q,.r [17,86],.w [0,10],.x,.x])]⟩
def c1f(s:((List LI)×(Int×Int×Z14×Z14×Z11))):Option (((List LI)×(Int×Int×Z14×Z14×Z11)) ⊕ (Z14×Z35)):=(fun(a:Int)(b c:Z14)(d:Int×(Int×Unit))=>cond (decide (a<s.2.1)) ((m0k s.1 a).bind fun x4=>cond ((decide (0≤d.2.1))&&(decide (d.2.1≤(x4.length:Int)))) (cond ((decide (0≤d.1))&&(decide (d.1≤((a00 d.2.1:Nat):Int)))) ((a2b (a09 (a00 d.1) (a06 (a00 d.2.1) x4))).bind fun y5=>cond (lim ((a01 c.2.1)+1)) (some (.inl (s.1,s.2.1,wrap .i64 (a+1),b,(c.1,a03 c.2.1 ([y5]:List LI),c.2.2),d,()))) none) none) none) (some (.inr (b,c,())))) s.2.2.1 s.2.2.2.1 s.2.2.2.2.1 s.2.2.2.2.2.1
def b6W(x:(Z14×Int×Int×Unit)):Option Z34:=(a2T x.1).bind fun y1=>cond (!y1) (some ((0,([]:(List LI)),()),1)) ((show Option (Bool×Z14×Z14×Z11)from cond (decide (x.2.1<0)) (some (true,(0,([]:(List LI)),()),x.1,x.2,())) (cond (decide (x.2.1≥x.2.2.1)) (some (true,(0,([]:(List LI)),()),x.1,x.2,())) ((a2S x.1).bind fun y2=>some (decide (x.2.2.1 > y2),(0,([]:(List LI)),()),x.1,x.2,())))).bind fun z3=>cond z3.1 (some ((0,([]:(List LI)),()),6)) ((y0s c1f (z3.2.2.1.2.1,(z3.2.2.1.2.1.length:Int),0,z3.2.1,(z3.2.2.1.1,([]:(List LI)),()),z3.2.2.2.1,())).bind fun w6=>some (w6.2.1,0)))
def c6j:FSem:=⟨[.v Q16,.v Q4],[.v Q16,.v QI],b6W⟩
def d9S:Hints:=⟨[(250,[.sv 35 (.list false QL),36,37,.box 4 Q16,.box 6 (.pair QI Q8),.vp 3 Q4,Qp 4 4,Qp 6 6],[Qe 0 [.box 4 Q16,.box 6 (.pair QI Q8),Qp 4 4,Qp 6 6]])],[(14,[Qn [.sv 29 .bool,.box 4 Q16,.vp 2 Q16,.vp 3 Q4,Qp 4 4]])],[(3,[.x,.x,.x,.x,.v,.v,.v,.v,.x,.x,.x,.v,.v,.v,.v,.x,.x]),(9,[.q,.q,.v,.v,.v,.v,.v,.v,.v,.q,.x,.x,.x])]⟩
def b8J(s:(LI×(Int×(Int×(LI×(Int×(Int×(LI×c7q)))))))):Option ((LI×(Int×(Int×(LI×(Int×(Int×(LI×c7q))))))) ⊕ Z57):=(fun(a b:Int)(c:LI)(d e:Int)(f:LI)(g:a4S)(h:Int×(Int×Unit))=>cond (decide (e<d)) ((m0k c e).bind fun x3=>(m0k g.2.2.1 e).bind fun x4=>(show Option ((LI×(Int×(Int×(Int×(LI×(Int×(Int×(LI×c7q)))))))) ⊕ Z5)from cond (decide ((v0r h.1 b)<(v0s h.2.1 (wrap .i64 (b+x4))))) ((a8D (s.1,g,e,a,b)).bind fun y5=>cond (y5.2.2 != 0) (some (Sum.inr ((y5.2.2,[],())))) ((b6W (y5.2.1,wrap .i64 ((v0r h.1 b)-b),wrap .i64 ((v0s h.2.1 (wrap .i64 (b+x4)))-b),())).bind fun y6=>cond (y6.2 != 0) (some (Sum.inr ((y6.2,[],())))) ((a4t y6.1).bind fun y7=>cond (lim ((a01 f)+(a01 y7))) (some (Sum.inl (s.1,a,x3,wrap .i64 (b+x4),c,d,e,a03 f y7,g,h,()))) none))) (some (Sum.inl (s.1,a,x3,wrap .i64 (b+x4),c,d,e,f,g,h,())))).bind fun z8=>match z8 with |.inl a9=>some (.inl (a9.1,wrap .i64 (a9.2.1+a9.2.2.1),a9.2.2.2.1,a9.2.2.2.2.1,a9.2.2.2.2.2.1,wrap .i64 (a9.2.2.2.2.2.2.1+1),a9.2.2.2.2.2.2.2.1,a9.2.2.2.2.2.2.2.2.1,a9.2.2.2.2.2.2.2.2.2.1,())) |.inr b10=>some (.inr (Sum.inr ((b10.1,b10.2.1,()))))) (some (.inr (Sum.inl (f,()))))) s.2.1 s.2.2.1 s.2.2.2.1 s.2.2.2.2.1 s.2.2.2.2.2.1 s.2.2.2.2.2.2.1 s.2.2.2.2.2.2.2.1 s.2.2.2.2.2.2.2.2.1
def b5g(x:Z18):Option (LI×Int):=(a9h x.1).bind fun y1=>cond (y1.2 != 0) (some ([],y1.2)) ((show Option (LI×(Bool×c7q))from cond (decide (x.2.1<0)) (some (x.1,true,y1.1,x.2,())) (cond (decide (x.2.1 > x.2.2.1)) (some (x.1,true,y1.1,x.2,())) (some (x.1,decide (x.2.2.1 > y1.1.2.2.2.1),y1.1,x.2,())))).bind fun z2=>cond z2.2.1 (some ([],6)) ((y0s b8J (z2.1,z2.2.2.1.2.2.2.2.2.1,0,z2.2.2.1.2.1,(z2.2.2.1.2.1.length:Int),0,[],z2.2.2.1,z2.2.2.2.1,())).bind fun w11=>match w11 with |.inl a12=>some (a12.1,0) |.inr b13=>some (b13.2.1,b13.1)))
def c4x:FSem:=⟨[.v QB,.v Q4],[.o QI,.v QI],b5g⟩
def H43:Hints:=⟨[(1018,[.sv 0 QB,9,10,.sv 48 QL,49,50,.own 8 8 QI,.box 6 Q28,.vp 3 Q4,Qp 6 6],[Qe 0 [.own 8 8 QI],Qr [5,.own 4 4 QI]])],[(30,[Qn [.sv 0 QB,.sv 44 .bool,.box 6 Q28,.vp 3 Q4,Qp 6 6]]),(260711,[Qn [.sv 0 QB,9,12,13,.sv 48 QL,49,50,.own 8 8 QI,.box 6 Q28,.vp 3 Q4,Qp 6 6],Qr [5,.own 4 4 QI]])],[(12,[.v,.v,.v,.v,.v,.v,.v,.v,.v,.x])]⟩
def b8K(s:(LI×(Int×(LI×(Int×Int×a2Y×a4S×a9K))))):Option ((LI×(Int×(LI×(Int×Int×a2Y×a4S×a9K)))) ⊕ ((LI×(Int×a2Y×a4S×a9K)) ⊕ d1d)):=(fun(a:Int)(b:LI)(c d:Int)(e:a2Y)(f:a4S)(g:a2Y)=>cond (decide (d<c)) ((m0k b d).bind fun x2=>(a8D (s.1,f,d,a,g.2.1)).bind fun y3=>cond (y3.2.2 != 0) (some (.inr (Sum.inr ((y3.2.2,((0,0,0,()),0,0,[],[],()),()))))) ((a3P (g.2.2.1,y3.2.1)).bind fun y4=>cond (lim ((a01 g.2.2.2.1)+1)) (cond (lim ((a01 g.2.2.2.2.1)+1)) (some (.inl (s.1,wrap .i64 (a+x2),b,c,wrap .i64 (d+1),e,f,(g.1,wrap .i64 (g.2.1+y3.1.2.1),y4.1,a03 g.2.2.2.1 ([(g.2.1,wrap .i64 (a-f.2.2.2.2.2.1),())]:List (Int×Int×Unit)),a03 g.2.2.2.2.1 ([y3.1]:List a1v),g.2.2.2.2.2),()))) none) none)) (some (.inr (Sum.inl (s.1,a,e,f,g,()))))) s.2.1 s.2.2.1 s.2.2.2.1 s.2.2.2.2.1 s.2.2.2.2.2.1 s.2.2.2.2.2.2.1 s.2.2.2.2.2.2.2.1
def b5h(x:LI):Option c7D:=(a9h x).bind fun y1=>cond (y1.2 != 0) (some (((0,0,0,()),0,0,[],[],()),y1.2)) ((y0s b8K (x,y1.1.2.2.2.2.2.1,y1.1.2.1,(y1.1.2.1.length:Int),0,((0,0,0,()),0,0,[],[],()),y1.1,(y1.1.1,0,0,[],[],()),())).bind fun w5=>match w5 with |.inl a6=>(cond (decide (a6.2.1<(a6.1.length:Int))) (some (((0,0,0,()),0,0,[],[],()),2)) (cond (a6.2.2.2.2.1.2.2.1 != a6.2.2.2.1.2.2.2.2.1) (some (((0,0,0,()),0,0,[],[],()),5)) (some (a6.2.2.2.2.1,0)))) |.inr b7=>some (b7.2.1,b7.1))
def c4y:FSem:=⟨[.v QB],[.v Q79,.v QI],b5h⟩
def H44:Hints:=⟨[(506,[.sv 0 QB,7,.sv 28 QL,29,30,.box 2 Q79,.box 4 Q28,.box 6 Q77,Qp 2 2,Qp 4 4,Qp 6 6],[Qe 0 [.sv 0 QB,7,.box 2 Q79,.box 4 Q28,.box 6 Q77,Qp 2 2,Qp 4 4,Qp 6 6],Qr [3,.box 2 Q79,Qp 2 2]])],[],[]⟩
def b2Y(x:Unit):Option Bool:=(b3j ((8000,1,8,()),[1,2,3],2,0)).bind fun y1=>(b5h y1.1).bind fun y2=>(a2s y2.1).bind fun y3=>(b5g (y1.1,1,3,())).bind fun y4=>(a6S (y2.1,2)).bind fun y5=>cond (y1.2==0) (cond (y2.2==0) (cond (y3.2==0) (cond (y4.2==0) (cond (y5.2==0) (cond ((y2.1.2.2.2.2.1.length:Int)==2) ((a1L (y3.1,[1,2,3])).bind fun y6=>cond y6 ((a1L (y4.1,[2,3])).bind fun y7=>cond y7 (cond (y5.1==1) ((a6R [1,2,3]).bind fun y8=>some (y2.1.2.2.1==y8)) (some false)) (some false)) (some false)) (some false)) (some false)) (some false)) (some false)) (some false)) (some false)
def c6k:FSem:=⟨[],[.v .bool],b2Y⟩
def H25:Hints:=⟨[],[],[(7,[.x,.x,.x,.x,.x,.x,.x,.x,.x,.x,.x,.x,.x,.x,.x,.x,.x,.x,.x,.x,.x,.x,.x,.x,.x,.q,.q,.x,.x,.x,.q,.q,.x,.x,.x,.x,.x,.x,.x,.q,.q,.q,.q,.x,.x,.x])]⟩
def b0I(x:a8C):Option Bool:=cond (decide ((x.1.2.2.2.2.2.1.length:Int)≤40)) (cond (decide ((x.1.2.2.2.2.2.2.2.1.length:Int)≤6)) (cond (decide ((x.1.2.2.2.2.2.2.2.2.1.length:Int)≤x.2)) (cond (decide ((x.1.2.2.2.2.2.2.2.2.2.2.1.length:Int)≤x.2)) (some (decide ((x.1.2.2.2.2.2.2.2.2.2.1.2.1.length:Int)≤300))) (some false)) (some false)) (some false)) (some false)
def c6l:FSem:=⟨[.v Q43,.v QI],[.v .bool],b0I⟩
def a1z(s:(Int×c7z)):Option ((Int×c7z) ⊕ (a8S ⊕ (Bool×Unit))):=(fun(a b:Int)(c:a1v)=>cond (decide (b<(c.2.2.2.2.1.length:Int))) (cond (decide (b<10)) ((show Option (Int×Int×Int×Bool×Bool×a8S)from(m0k c.2.2.2.2.1 b).bind fun x1=>(b0I (x1,a)).bind fun y2=>cond (!y2) (some (a,b,b,decide (b<10),true,c,())) ((m0k c.2.2.2.2.1 b).bind fun x3=>cond (x3.1==0) (cond (decide (c.2.1 > 400)) (some (a,b,b,decide (b<10),decide (c.2.1≤4096),c,())) (some (a,b,b,decide (b<10),false,c,()))) (some (a,b,b,decide (b<10),false,c,())))).bind fun z4=>cond z4.2.2.2.2.1 (some (.inr (Sum.inr ((false,()))))) (some (.inl (z4.1,wrap .i64 (z4.2.1+1),z4.2.2.2.2.2.1,())))) (some (.inr (Sum.inl (c,()))))) (some (.inr (Sum.inl (c,()))))) s.1 s.2.1 s.2.2.1
def b0J(x:c7y):Option Bool:=(y0s a1z (x.2,0,x.1,())).bind fun w5=>match w5 with |.inl a6=>(cond (decide ((a6.1.2.2.2.2.1.length:Int)≤10)) (some (decide ((a6.1.2.2.2.1.length:Int)≤20))) (some false)) |.inr b7=>some b7.1
def c6m:FSem:=⟨[.v Q61,.v QI],[.v .bool],b0J⟩
def H26:Hints:=⟨[(26,[1,5,.vp 2 Q61],[Qe 0 [.vp 2 Q61],Qr [.sv 4 .bool]])],[(420,[Qn [1,5,12,.sv 13 .bool,.sv 43 .bool,.vp 2 Q61]])],[]⟩
def a4D(s:(Z17×Z17×Int×Unit)):Option ((Z17×Z17×Int×Unit) ⊕ Z0):=(fun(a:Int)=>cond (decide (a<(s.1.length:Int))) ((m0k s.1 a).bind fun x1=>(m0k s.2.1 a).bind fun x2=>cond (!(eqT Q13 x1 x2)) (some (.inr (Sum.inr ((false,()))))) (some (.inl (s.1,s.2.1,wrap .i64 (a+1),())))) (some (.inr (Sum.inl ())))) s.2.2.1
def a6A(x:(Z17×Z17)):Option Bool:=cond ((x.1.length:Int) != (x.2.length:Int)) (some false) ((y0s a4D (x.1,x.2,0,())).bind fun w3=>match w3 with |.inl a4=>some true |.inr b5=>some b5.1)
def b8L:FSem:=⟨[.v (.list false Q13),.v (.list false Q13)],[.v .bool],a6A⟩
def H82:Hints:=⟨[(58,[.sv 0 (.list false Q13),.sv 1 (.list false Q13),5],[Qe 0 [],Qr [.sv 4 .bool]])],[],[(6,[.v,.v,.v,.v,.v,.v,.v,.v,.x])]⟩
def a2J(s:(Z4×Z45)):Option ((Z4×Z45) ⊕ Z0):=(fun(a:Int)=>cond (decide (a<(s.1.length:Int))) ((m0k s.1 a).bind fun x1=>(m0k s.2.1 a).bind fun x2=>cond (!(eqT Q4 x1 x2)) (some (.inr (Sum.inr ((false,()))))) (some (.inl (s.1,s.2.1,wrap .i64 (a+1),())))) (some (.inr (Sum.inl ())))) s.2.2.1
def a5I(x:(Z4×Z4)):Option Bool:=cond ((x.1.length:Int) != (x.2.length:Int)) (some false) ((y0s a2J (x.1,x.2,0,())).bind fun w3=>match w3 with |.inl a4=>some true |.inr b5=>some b5.1)
def b7O:FSem:=⟨[.v (.list false Q4),.v (.list false Q4)],[.v .bool],a5I⟩
def d9T:Hints:=⟨[(58,[.sv 0 (.list false Q4),.sv 1 (.list false Q4),5],[Qe 0 [],Qr [.sv 4 .bool]])],[],[(6,[.v,.v,.v,.v,.v,.v,.v,.v,.x])]⟩
def a9L(x:(Z5×Z5)):Option Bool:=cond (x.1.1==x.2.1) ((a1L (x.1.2.1,x.2.2.1)).bind fun y1=>some y1) (some false)
def c1g:FSem:=⟨[.v Q12,.v Q12],[.v .bool],a9L⟩
def a6e(x:(a1b×a1b)):Option Bool:=cond (x.1.1==x.2.1) (cond (x.1.2.1==x.2.2.1) (cond (x.1.2.2.1==x.2.2.2.1) (cond (x.1.2.2.2.1==x.2.2.2.2.1) (cond (x.1.2.2.2.2.1==x.2.2.2.2.2.1) ((a1L (x.1.2.2.2.2.2.1,x.2.2.2.2.2.2.1)).bind fun y1=>cond y1 (cond (eqT (.arr 3 (.int .i64)) x.1.2.2.2.2.2.2.1 x.2.2.2.2.2.2.2.1) ((a5I (x.1.2.2.2.2.2.2.2.1,x.2.2.2.2.2.2.2.2.1)).bind fun y2=>cond y2 ((a1L (x.1.2.2.2.2.2.2.2.2.1,x.2.2.2.2.2.2.2.2.2.1)).bind fun y3=>cond y3 ((a9L (x.1.2.2.2.2.2.2.2.2.2.1,x.2.2.2.2.2.2.2.2.2.2.1)).bind fun y4=>cond y4 ((a1L (x.1.2.2.2.2.2.2.2.2.2.2.1,x.2.2.2.2.2.2.2.2.2.2.2.1)).bind fun y5=>some y5) (some false)) (some false)) (some false)) (some false)) (some false)) (some false)) (some false)) (some false)) (some false)) (some false)
def c3h:FSem:=⟨[.v Q43,.v Q43],[.v .bool],a6e⟩
def a4E(s:c7H):Option (c7H ⊕ Z0):=cond (decide (s.1<(s.2.1.2.2.2.2.1.length:Int))) ((m0k s.2.1.2.2.2.2.1 s.1).bind fun x3=>(m0k s.2.2.1.2.2.2.2.1 s.1).bind fun x4=>(a6e (x3,x4)).bind fun y5=>cond (!y5) (some (.inr (Sum.inr ((false,()))))) (some (.inl (wrap .i64 (s.1+1),s.2.1,s.2.2.1,())))) (some (.inr (Sum.inl ())))
def a6B(x:(a1v×a1v)):Option Bool:=(show Option (Bool×d1e)from cond (x.1.1 != x.2.1) (some (true,x.1,x.2,())) (cond (x.1.2.1 != x.2.2.1) (some (true,x.1,x.2,())) (cond (!(eqT Q13 x.1.2.2.1 x.2.2.2.1)) (some (true,x.1,x.2,())) ((a6A (x.1.2.2.2.1,x.2.2.2.2.1)).bind fun y1=>cond (!y1) (some (true,x.1,x.2,())) (some ((x.1.2.2.2.2.1.length:Int) != (x.2.2.2.2.2.1.length:Int),x.1,x.2,())))))).bind fun z2=>cond z2.1 (some false) ((y0s a4E (0,z2.2.1,z2.2.2.1,())).bind fun w6=>match w6 with |.inl a7=>some true |.inr b8=>some b8.1)
def b8M:FSem:=⟨[.v Q61,.v Q61],[.v .bool],a6B⟩
def H24:Hints:=⟨[(58,[5,.vp 2 Q61,.vp 3 Q61],[Qe 0 [],Qr [.sv 4 .bool]])],[(6,[Qn [.sv 41 .bool,.vp 2 Q61,.vp 3 Q61]])],[(6,[.v,.v,.v,.v,.v,.v,.v,.v,.v,.v,.x,.x])]⟩
def a3b(s:c7I):Option (c7I ⊕ (d1f ⊕ (Bool×Unit))):=cond (decide (s.1<(s.2.1.2.2.2.1.length:Int))) ((m0k s.2.1.2.2.2.1 s.1).bind fun x2=>(m0k s.2.2.1.2.2.2.1 s.1).bind fun x3=>cond (!(eqT Q4 x2 x3)) (some (.inr (Sum.inr ((false,()))))) (some (.inl (wrap .i64 (s.1+1),s.2.1,s.2.2.1,())))) (some (.inr (Sum.inl (s.2.1,s.2.2.1,()))))
def a3c(s:c7I):Option (c7I ⊕ Z0):=cond (decide (s.1<(s.2.1.2.2.2.2.1.length:Int))) ((m0k s.2.1.2.2.2.2.1 s.1).bind fun x7=>(m0k s.2.2.1.2.2.2.2.1 s.1).bind fun x8=>(a6B (x7,x8)).bind fun y9=>cond (!y9) (some (.inr (Sum.inr ((false,()))))) (some (.inl (wrap .i64 (s.1+1),s.2.1,s.2.2.1,())))) (some (.inr (Sum.inl ())))
def a6C(x:(a2Y×a2Y)):Option Bool:=(show Option (Bool×d1f)from cond (!(eqT Q13 x.1.1 x.2.1)) (some (true,x.1,x.2,())) (cond (x.1.2.1 != x.2.2.1) (some (true,x.1,x.2,())) (cond (x.1.2.2.1 != x.2.2.2.1) (some (true,x.1,x.2,())) (cond ((x.1.2.2.2.1.length:Int) != (x.2.2.2.2.1.length:Int)) (some (true,x.1,x.2,())) (some ((x.1.2.2.2.2.1.length:Int) != (x.2.2.2.2.2.1.length:Int),x.1,x.2,())))))).bind fun z1=>cond z1.1 (some false) ((y0s a3b (0,z1.2.1,z1.2.2.1,())).bind fun w4=>match w4 with |.inl a5=>((y0s a3c (0,a5.1,a5.2.1,())).bind fun w10=>match w10 with |.inl a11=>some true |.inr b12=>some b12.1) |.inr b6=>some b6.1)
def b8N:FSem:=⟨[.v Q79,.v Q79],[.v .bool],a6C⟩
def H46:Hints:=⟨[(58,[5,.vp 2 Q79,.vp 3 Q79],[Qe 0 [.vp 2 Q79,.vp 3 Q79],Qr [.sv 4 .bool]]),(122,[6,.vp 2 Q79,.vp 3 Q79],[Qe 2 [],Qr [.sv 4 .bool]])],[(6,[Qn [.sv 43 .bool,.vp 2 Q79,.vp 3 Q79]])],[(6,[.v,.v,.v,.v,.v,.v,.v,.v,.v,.v,.x]),(11,[.v,.v,.v,.v,.v,.v,.v,.v,.v,.v,.x,.x])]⟩
def a8g(x:Z7):Option Bool:=cond (decide (x.1≥1)) (cond (decide (x.1≤1048576)) (cond (decide (x.2.1≥1)) (cond (decide (x.2.1≤8)) (cond (decide (x.2.2.1≥4)) (some (decide (x.2.2.1≤24))) (some false)) (some false)) (some false)) (some false)) (some false)
def c6n:FSem:=⟨[.v Q13],[.v .bool],a8g⟩
def a5v(s:Z16):Option (Z16 ⊕ Z0):=cond (decide (s.2.1<(s.1.length:Int))) ((m0k s.1 s.2.1).bind fun x2=>(m0k s.1 0).bind fun x3=>cond ((x2.length:Int) != (x3.length:Int)) (some (.inr (Sum.inr ((false,()))))) (some (.inl (s.1,wrap .i64 (s.2.1+1),())))) (some (.inr (Sum.inl ())))
def a8h(x:(List LI)):Option Bool:=(show Option ((List LI)×(Bool×Unit))from cond (decide ((x.length:Int)<1)) (some (x,true,())) (some (x,decide ((x.length:Int) > 8),()))).bind fun z1=>cond z1.2.1 (some false) ((y0s a5v (z1.1,0,())).bind fun w4=>match w4 with |.inl a5=>some true |.inr b6=>some b6.1)
def c6o:FSem:=⟨[.v (.list false QL)],[.v .bool],a8h⟩
def H54:Hints:=⟨[(58,[.sv 0 (.list false QL),3],[Qe 0 [],Qr [.sv 2 .bool]])],[(6,[Qn [.sv 0 (.list false QL),.sv 11 .bool]])],[(6,[.v,.v,.v,.v,.v,.v,.v,.v,.v,.x])]⟩
def b7P(x:Int):Option Int:=(show Option (Int×Bool×Unit)from cond (decide (x<1)) (some (x,true,())) (some (x,decide (x > 31),()))).bind fun z1=>cond z1.2.1 (some 0) (cond (decide ((wrap .u64 (wrap .i64 (z1.1-1)))<0)) none (some (A0n .i64 (-1) (wrap .u64 (wrap .i64 (z1.1-1))))))
def d1h:FSem:=⟨[.v QI],[.v QI],b7P⟩
def d9U:Hints:=⟨[],[(6,[Qn [0,.sv 8 .bool]])],[]⟩
def b5i(x:Int):Option Int:=(show Option (Int×Bool×Unit)from cond (decide (x<1)) (some (x,true,())) (some (x,decide (x > 31),()))).bind fun z1=>cond z1.2.1 (some 0) (cond (decide ((wrap .u64 (wrap .i64 (z1.1-1)))<0)) none (some (wrap .i64 ((A0n .i64 1 (wrap .u64 (wrap .i64 (z1.1-1))))-1))))
def c9x:FSem:=⟨[.v QI],[.v QI],b5i⟩
def d9V:Hints:=⟨[],[(6,[Qn [0,.sv 8 .bool]])],[]⟩
def a6W(x:(Int×Int)):Option Bool:=cond (decide (x.2≥1)) (cond (decide (x.2≤31)) ((b7P x.2).bind fun y1=>cond (decide (x.1≥y1)) ((b5i x.2).bind fun y2=>some (decide (x.1≤y2))) (some false)) (some false)) (some false)
def c9y:FSem:=⟨[.v QI,.v QI],[.v .bool],a6W⟩
def a2C(s:Z79):Option (Z79 ⊕ (Z55 ⊕ (Bool×Unit))):=(fun(a b:Int)(c:Z14)=>(m0k c.2.1 a).bind fun x5=>cond (decide (b<(x5.length:Int))) ((m0k c.2.1 a).bind fun x6=>(m0k x6 b).bind fun x7=>(a6W (x7,c.1)).bind fun y8=>cond (!y8) (some (.inr (Sum.inr ((false,()))))) (some (.inl (a,wrap .i64 (b+1),c,())))) (some (.inr (Sum.inl (a,c,()))))) s.1 s.2.1 s.2.2.1
def a3v(s:Z55):Option (Z55 ⊕ Z0):=cond (decide (s.1<(s.2.1.2.1.length:Int))) ((y0s a2C (s.1,0,s.2.1,())).bind fun w9=>match w9 with |.inl a10=>some (.inl (wrap .i64 (a10.1+1),a10.2.1,())) |.inr b11=>some (.inr (Sum.inr ((b11.1,()))))) (some (.inr (Sum.inl ())))
def a5w(x:Z14):Option Bool:=(show Option Z64 from cond (decide (x.1<4)) (some (true,x,())) (cond (decide (x.1 > 24)) (some (true,x,())) ((a8h x.2.1).bind fun y1=>cond (!y1) (some (true,x,())) ((m0k x.2.1 0).bind fun x2=>cond (decide ((x2.length:Int)<1)) (some (true,x,())) ((m0k x.2.1 0).bind fun x3=>some (decide ((x3.length:Int) > 4096),x,())))))).bind fun z4=>cond z4.1 (some false) ((y0s a3v (0,z4.2.1,())).bind fun w12=>match w12 with |.inl a13=>some true |.inr b14=>some b14.1)
def c1h:FSem:=⟨[.v Q16],[.v .bool],a5w⟩
def H17:Hints:=⟨[(58,[3,.vp 1 Q16],[Qe 0 [],Qr [.sv 2 .bool]]),(3730,[3,4,.vp 1 Q16],[Qe 2 [3,.vp 1 Q16],Qr [.sv 2 .bool]])],[(6,[Qn [.sv 34 .bool,.vp 1 Q16]])],[(9,[.v,.v,.v,.v,.v,.v,.v,.v,.v,.v,.x,.x])]⟩
def a6f(x:Int):Option Bool:=cond (decide (x≥2)) (some (decide (x≤5))) (some false)
def c3i:FSem:=⟨[.v QI],[.v .bool],a6f⟩
def a1V(x:Int):Option Bool:=cond (decide (x≥(-1073741824))) (some (decide (x<1073741824))) (some false)
def c9z:FSem:=⟨[.v QI],[.v .bool],a1V⟩
def a4F(s:Z6):Option (Z6 ⊕ Z0):=cond (decide (s.2.1<(s.1.length:Int))) ((m0k s.1 s.2.1).bind fun x1=>(a1V x1).bind fun y2=>cond (!y2) (some (.inr (Sum.inr ((false,()))))) (some (.inl (s.1,wrap .i64 (s.2.1+1),())))) (some (.inr (Sum.inl ())))
def a1n(x:LI):Option Bool:=(y0s a4F (x,0,())).bind fun w3=>match w3 with |.inl a4=>some true |.inr b5=>some b5.1
def c4z:FSem:=⟨[.v QL],[.v .bool],a1n⟩
def d9W:Hints:=⟨[(26,[.sv 0 QL,3],[Qe 0 [],Qr [.sv 2 .bool]])],[],[]⟩
def a3d(s:Z18):Option (Z18 ⊕ (Z6 ⊕ (Bool×Unit))):=(fun(a:LI)(b c:Int)=>cond (decide (c<(a.length:Int))) ((show Option Z40 from(m0k a c).bind fun x1=>cond (decide (x1<(-32768))) (some (a,b,c,true,())) ((m0k a c).bind fun x2=>some (a,b,c,decide (x2≥32768),()))).bind fun z3=>cond z3.2.2.2.1 (some (.inr (Sum.inr ((false,()))))) (some (.inl (z3.1,z3.2.1,wrap .i64 (z3.2.2.1+1),())))) (some (.inr (Sum.inl (a,b,()))))) s.1 s.2.1 s.2.2.1
def a3m(x:(LI×Int)):Option Bool:=(y0s a3d (x.1,x.2,0,())).bind fun w4=>match w4 with |.inl a5=>(cond (decide ((a5.1.length:Int)≥1)) (cond (decide ((a5.1.length:Int)≤32)) (cond (decide (a5.2.1≥0)) (some (decide (a5.2.1≤15))) (some false)) (some false)) (some false)) |.inr b6=>some b6.1
def b8O:FSem:=⟨[.v QL,.v QI],[.v .bool],a3m⟩
def d9X:Hints:=⟨[(26,[.sv 0 QL,1,5],[Qe 0 [.sv 0 QL,1],Qr [.sv 4 .bool]])],[(420,[Qn [.sv 0 QL,1,5,.sv 23 .bool]])],[]⟩
def a3X(s:Z19):Option (Z19 ⊕ ((Int×Unit) ⊕ (Bool×Unit))):=(fun(a:Int)(b:LI)=>cond (decide (a<3)) ((show Option Z41 from(m0k b a).bind fun x1=>cond (decide (x1<(-64))) (some (s.1,a,true,b,())) ((m0k b a).bind fun x2=>some (s.1,a,decide (x2 > 64),b,()))).bind fun z3=>cond z3.2.2.1 (some (.inr (Sum.inr ((false,()))))) (some (.inl (z3.1,wrap .i64 (z3.2.1+1),z3.2.2.2.1,())))) (some (.inr (Sum.inl (s.1,()))))) s.2.1 s.2.2.1
def a6g(x:(Int×LI)):Option Bool:=(y0s a3X (x.1,0,x.2,())).bind fun w4=>match w4 with |.inl a5=>(cond (decide (a5.1≥2)) (some (decide (a5.1≤1024))) (some false)) |.inr b6=>some b6.1
def c3j:FSem:=⟨[.v QI,.v (.arr 3 QI)],[.v .bool],a6g⟩
def d9Y:Hints:=⟨[(26,[0,5,.vp 3 (.arr 3 QI)],[Qe 0 [0],Qr [.sv 4 .bool]])],[(420,[Qn [0,5,.sv 19 .bool,.vp 3 (.arr 3 QI)]])],[]⟩
def a5x(x:(Int×Int×Unit)):Option Bool:=cond (decide (x.1≥1)) (cond (decide (x.1≤32)) (cond (decide (x.2.1≥0)) (some (decide (x.2.1≤8))) (some false)) (some false)) (some false)
def c1i:FSem:=⟨[.v Q4],[.v .bool],a5x⟩
def a3w(s:Z45):Option (Z45 ⊕ ((Z4×Unit) ⊕ (Bool×Unit))):=cond (decide (s.2.1<(s.1.length:Int))) ((m0k s.1 s.2.1).bind fun x1=>(a5x x1).bind fun y2=>cond (!y2) (some (.inr (Sum.inr ((false,()))))) (some (.inl (s.1,wrap .i64 (s.2.1+1),())))) (some (.inr (Sum.inl (s.1,()))))
def a5y(x:Z4):Option Bool:=(y0s a3w (x,0,())).bind fun w3=>match w3 with |.inl a4=>some (decide ((a4.1.length:Int)≤3)) |.inr b5=>some b5.1
def c1j:FSem:=⟨[.v (.list false Q4)],[.v .bool],a5y⟩
def d9Z:Hints:=⟨[(26,[.sv 0 (.list false Q4),3],[Qe 0 [.sv 0 (.list false Q4)],Qr [.sv 2 .bool]])],[],[]⟩
def b0K(x:a8C):Option Int:=cond (x.1.1==0) (some 1) (cond (x.1.1==1) (some x.2) (cond (x.1.1==2) ((show Option c7r from cond (decide (x.1.2.2.1≥0)) (cond (decide (x.1.2.2.1≤4)) (some (decide (x.1.2.2.1≤x.2),x.1,())) (some (false,x.1,()))) (some (false,x.1,()))).bind fun z1=>cond z1.1 (some z1.2.1.2.2.1) (some (-1))) ((show Option c7t from cond (x.1.1==3) (some (x.2,x.1.1,x.1.1==3,x.1,())) (some (x.2,x.1.1,x.1.1==4,x.1,()))).bind fun z2=>cond z2.2.2.1 ((show Option c7r from(a3m (z2.2.2.2.1.2.2.2.2.2.1,z2.2.2.2.1.2.2.2.1)).bind fun y3=>cond y3 (cond (decide ((z2.2.2.2.1.2.2.2.2.2.1.length:Int)≤z2.1)) (cond (z2.2.2.2.1.1==3) (some (true,z2.2.2.2.1,())) ((a6g (z2.2.2.2.1.2.2.2.2.1,z2.2.2.2.1.2.2.2.2.2.2.1)).bind fun y4=>some (y4,z2.2.2.2.1,()))) (some (false,z2.2.2.2.1,()))) (some (false,z2.2.2.2.1,()))).bind fun z5=>cond z5.1 (some (z5.2.1.2.2.2.2.2.1.length:Int)) (some (-1))) (cond (z2.2.1==5) ((show Option (Bool×Unit)from cond (decide ((z2.2.2.2.1.2.2.2.2.2.2.2.1.length:Int) > 0)) ((a5y z2.2.2.2.1.2.2.2.2.2.2.2.1).bind fun y6=>some (y6,())) (some (false,()))).bind fun z7=>cond z7.1 (some 0) (some (-1))) (some (-1))))))
def c6p:FSem:=⟨[.v Q43,.v QI],[.v QI],b0K⟩
def e0A:Hints:=⟨[],[(1726,[Qn [.sv 27 .bool,.vp 2 Q43]]),(1727,[Qn [1,6,.sv 30 .bool,.vp 2 Q43]]),(6910,[Qn [.sv 56 .bool,.vp 2 Q43]]),(27646,[Qn [.sv 70 .bool]])],[]⟩
def b0L(x:a1b):Option a1b:=cond (x.1==0) (some (x.1,0,0,0,0,[],a02 3 0,[],x.2.2.2.2.2.2.2.2.1,(0,[],()),[],())) (cond (x.1==1) (some (x.1,x.2.1,0,0,0,[],a02 3 0,[],x.2.2.2.2.2.2.2.2.1,(0,[],()),[],())) ((show Option a9J from cond (x.1==2) (some ((0,0,0,0,0,[],a02 3 0,[],[],(0,[],()),[],()),(x.1,x.2.1,x.2.2.1,0,0,[],a02 3 0,[],x.2.2.2.2.2.2.2.2.1,x.2.2.2.2.2.2.2.2.2.1,x.2.2.2.2.2.2.2.2.2.2.1,()),())) (cond (x.1==3) (some ((0,0,0,0,0,[],a02 3 0,[],[],(0,[],()),[],()),(x.1,x.2.1,0,x.2.2.2.1,0,x.2.2.2.2.2.1,a02 3 0,[],x.2.2.2.2.2.2.2.2.1,x.2.2.2.2.2.2.2.2.2.1,x.2.2.2.2.2.2.2.2.2.2.1,()),())) (cond (x.1==4) (some ((0,0,0,0,0,[],a02 3 0,[],[],(0,[],()),[],()),(x.1,x.2.1,0,x.2.2.2.1,x.2.2.2.2.1,x.2.2.2.2.2.1,x.2.2.2.2.2.2.1,[],x.2.2.2.2.2.2.2.2.1,x.2.2.2.2.2.2.2.2.2.1,x.2.2.2.2.2.2.2.2.2.2.1,()),())) (cond (x.1==5) (some ((0,0,0,0,0,[],a02 3 0,[],[],(0,[],()),[],()),(x.1,x.2.1,0,0,0,[],a02 3 0,x.2.2.2.2.2.2.2.1,[],x.2.2.2.2.2.2.2.2.2.1,x.2.2.2.2.2.2.2.2.2.2.1,()),())) (some ((0,0,0,0,0,[],a02 3 0,[],[],(0,[],()),[],()),(x.1,x.2.1,0,0,0,[],a02 3 0,[],x.2.2.2.2.2.2.2.2.1,x.2.2.2.2.2.2.2.2.2.1,x.2.2.2.2.2.2.2.2.2.2.1,()),())))))).bind fun z1=>some z1.2.1))
def c6q:FSem:=⟨[.v Q43],[.v Q43],b0L⟩
def e0B:Hints:=⟨[],[(127,[Qn [.box 2 Q43,.box 3 Q43,Qp 2 2,Qp 3 3]])],[(7,[.v,.v,.v,.v,.q,.w [0,3],.x,.x]),(12,[.v,.v,.v,.v,.q,.w [0,3],.x,.x]),(14,[.v,.v,.v,.v,.v,.v,.v,.v,.q,.w [0,3],.q,.w [0,3],.q,.w [0,3],.x,.x])]⟩
def b3N(x:(Int×Int)):Option Bool:=cond (decide (x.1≥1)) (cond (decide (x.1≤4096)) (cond (decide (x.2≥0)) (some (decide (x.2≤x.1))) (some false)) (some false)) (some false)
def d1i:FSem:=⟨[.v QI,.v QI],[.v .bool],b3N⟩
def a4G(s:Z63):Option (Z63 ⊕ Z5):=(fun(a b c:Int)(d:LI)=>cond (decide ((wrap .u64 a)<0)) none (cond (decide (c<(A0n .i64 1 (wrap .u64 a)))) (cond (decide ((wrap .u64 a)<0)) none (cond (lim ((a01 d)+1)) (some (.inl (a,s.2.1,b,wrap .i64 (c+1),a03 d [A0o .i64 s.2.1 (wrap .u64 a)],()))) none)) (some (.inr (b,d,()))))) s.1 s.2.2.1 s.2.2.2.1 s.2.2.2.2.1
def a3n(x:(Int×Int×Int)):Option LI:=(show Option Z28 from(b3N (x.2.1,x.2.2)).bind fun y1=>cond (!y1) (some (x.1,x.2.1,x.2.2,true,())) (cond (decide (x.1<0)) (some (x.1,x.2.1,x.2.2,true,())) (cond (decide (x.1 > 8)) (some (x.1,x.2.1,x.2.2,true,())) (cond (decide ((wrap .u64 x.1)<0)) none (cond ((A0n .i64 1 (wrap .u64 x.1))==0) none (cond ((a08 x.2.1 (A0n .i64 1 (wrap .u64 x.1))) != 0) (some (x.1,x.2.1,x.2.2,true,())) (cond (decide ((wrap .u64 x.1)<0)) none (some (x.1,x.2.1,x.2.2,decide ((A0o .i64 x.2.1 (wrap .u64 x.1))<x.2.2),()))))))))).bind fun z2=>cond z2.2.2.2.1 (some []) ((y0s a4G (z2.1,z2.2.1,z2.2.2.1,0,[],())).bind fun w3=>cond (decide (0<(w3.2.1.length:Int))) (cond (decide (0<(w3.2.1.length:Int))) (some (a05 w3.2.1 0 (wrap .i64 ((a04 w3.2.1 0 0)-w3.1)))) none) none)
def b8P:FSem:=⟨[.v QI,.v QI,.v QI],[.o QI],a3n⟩
def e0C:Hints:=⟨[(122,[0,1,2,8,.own 7 7 QI],[Qe 0 [2,.own 7 7 QI]])],[(6,[Qn [0,1,2,.sv 36 .bool]])],[]⟩
def a2i(x:Int):Option Bool:=cond (decide (x≥0)) (some (decide (x≤25))) (some false)
def c1k:FSem:=⟨[.v QI],[.v .bool],a2i⟩
def a2P(s:(Int×Z22)):Option ((Int×Z22) ⊕ Z0):=cond (decide (s.1<(s.2.1.2.1.length:Int))) ((show Option (Int×Z47)from(m0k s.2.1.2.1 s.1).bind fun x3=>(a2i x3).bind fun y4=>cond (!y4) ((m0k s.2.1.2.1 s.1).bind fun x5=>some (s.1,x5 != 31,s.2.1,())) (some (s.1,false,s.2.1,()))).bind fun z6=>cond z6.2.1 (some (.inr (Sum.inr ((false,()))))) (some (.inl (wrap .i64 (z6.1+1),z6.2.2.1,())))) (some (.inr (Sum.inl ())))
def a4u(x:(Z5×Int×Int)):Option Bool:=(a3n (x.1.1,x.2.1,x.2.2)).bind fun y1=>(show Option Z47 from cond ((y1.length:Int)==0) (some (true,x.1,())) (some ((y1.length:Int) != (x.1.2.1.length:Int),x.1,()))).bind fun z2=>cond z2.1 (some false) ((y0s a2P (0,z2.2.1,())).bind fun w7=>match w7 with |.inl a8=>some true |.inr b9=>some b9.1)
def c3k:FSem:=⟨[.v Q12,.v QI,.v QI],[.v .bool],a4u⟩
def e0D:Hints:=⟨[(122,[8,.vp 3 Q12],[Qe 0 [],Qr [.sv 6 .bool]])],[(14,[Qn [.sv 24 .bool,.vp 3 Q12]]),(1956,[Qn [8,.sv 46 .bool,.vp 3 Q12]])],[]⟩
def b1Q(x:Int):Option LI:=cond ((decide (0≤x))&&(decide (x<5))) (some (a04 ([[],[1],[2,(-1)],[3,(-3),1],[4,(-6),4,(-1)]]:List LI) (a00 x) [])) none
def c4A:FSem:=⟨[.v QI],[.v QL],b1Q⟩
def a3e(s:(LI×(Int×Z78))):Option ((LI×(Int×Z78)) ⊕ (LI×Z73)):=(fun(a:Int)(b:LI)(c d e:Int)(f:LI)=>cond (decide (e<a)) ((m0k b e).bind fun x7=>cond ((decide (0≤(wrap .i64 ((wrap .i64 ((f.length:Int)-1))-e))))&&(decide ((wrap .i64 ((wrap .i64 ((f.length:Int)-1))-e))<(f.length:Int)))) (some (.inl (s.1,a,b,c,wrap .i64 (d+(wrap .i64 (x7*(a04 f (a00 (wrap .i64 ((wrap .i64 ((f.length:Int)-1))-e))) 0)))),wrap .i64 (e+1),f,()))) none) (some (.inr (s.1,a,b,c,d,f,())))) s.2.1 s.2.2.1 s.2.2.2.1 s.2.2.2.2.1 s.2.2.2.2.2.1 s.2.2.2.2.2.2.1
def a4H(s:(LI×(Int×Z31))):Option ((LI×(Int×Z31)) ⊕ Z57):=(fun(a:Int)(b:LI)=>cond (decide (a<(s.1.length:Int))) ((m0k s.1 a).bind fun x6=>(y0s a3e (s.1,s.2.1,s.2.2.1,a,x6,0,b,())).bind fun w8=>(a1V w8.2.2.2.2.1).bind fun y9=>cond (!y9) (some (.inr (Sum.inr ((6,[],()))))) (cond (lim ((a01 w8.2.2.2.2.2.1)+1)) (some (.inl (w8.1,w8.2.1,w8.2.2.1,wrap .i64 (w8.2.2.2.1+1),a03 w8.2.2.2.2.2.1 [w8.2.2.2.2.1],()))) none)) (some (.inr (Sum.inl (b,()))))) s.2.2.2.1 s.2.2.2.2.1
def a6D(x:Z12):Option (LI×Int):=(show Option Z58 from cond (decide (x.2.2<0)) (some (x.1,x.2.1,x.2.2,true,())) (cond (decide (x.2.2 > 4)) (some (x.1,x.2.1,x.2.2,true,())) (some (x.1,x.2.1,x.2.2,(x.1.length:Int) != x.2.2,())))).bind fun z1=>cond z1.2.2.2.1 (some ([],1)) ((show Option Z58 from(a1n z1.1).bind fun y2=>cond (!y2) (some (z1.1,z1.2.1,z1.2.2.1,true,())) ((a1n z1.2.1).bind fun y3=>some (z1.1,z1.2.1,z1.2.2.1,!y3,()))).bind fun z4=>cond z4.2.2.2.1 (some ([],6)) (cond (lim (0+(a01 z4.1))) ((b1Q z4.2.2.1).bind fun y5=>(y0s a4H (z4.2.1,z4.2.2.1,y5,0,a03 [] z4.1,())).bind fun w10=>match w10 with |.inl a11=>some (a11.1,0) |.inr b12=>some (b12.2.1,b12.1)) none))
def b8Q:FSem:=⟨[.v QL,.v QL,.v QI],[.o QI,.v QI],a6D⟩
def e0E:Hints:=⟨[(250,[.sv 1 QL,2,.sv 9 QL,10,.own 8 8 QI],[Qe 0 [.own 8 8 QI],Qr [7,.own 6 6 QI]]),(64074,[.sv 1 QL,2,.sv 9 QL,10,11,12,.own 8 8 QI],[Qe 2 [.sv 1 QL,2,.sv 9 QL,10,11,.own 8 8 QI]])],[(6,[Qn [.sv 0 QL,.sv 1 QL,2,.sv 24 .bool]]),(14,[Qn [.sv 0 QL,.sv 1 QL,2,.sv 32 .bool]])],[(13,[.v,.v,.v,.v,.v,.q,.q,.q,.v,.v,.v,.q,.q,.v,.x,.x])]⟩
def a2v(s:Z77):Option (Z77 ⊕ ((Int×Int×Unit) ⊕ (Int×Unit))):=(fun(a b:LI)(c d e:Int)=>cond (decide (e<(b.length:Int))) (cond (decide (e<(a.length:Int))) ((m0k a (wrap .i64 ((wrap .i64 ((a.length:Int)-1))-e))).bind fun x2=>(a1V x2).bind fun y3=>cond (!y3) (some (.inr (Sum.inr ((0,()))))) ((m0k b e).bind fun x4=>some (.inl (a,b,c,wrap .i64 (d+(wrap .i64 (x4*x2))),wrap .i64 (e+1),())))) (some (.inr (Sum.inl (c,d,()))))) (some (.inr (Sum.inl (c,d,()))))) s.1 s.2.1 s.2.2.1 s.2.2.2.1 s.2.2.2.2.1
def a5e(x:Z12):Option Int:=(a3m (x.2.1,x.2.2)).bind fun y1=>cond (!y1) (some 0) ((y0s a2v (x.1,x.2.1,x.2.2,0,0,())).bind fun w5=>match w5 with |.inl a6=>(cond (decide ((wrap .u64 a6.1)<0)) none (some (A0o .i64 a6.2.1 (wrap .u64 a6.1)))) |.inr b7=>some b7.1)
def b6E:FSem:=⟨[.v QL,.v QL,.v QI],[.v QI],a5e⟩
def e0F:Hints:=⟨[(122,[.sv 0 QL,.sv 1 QL,2,7,8],[Qe 0 [2,7],Qr [6]])],[],[]⟩
def a4j(s:Z91):Option (Z91 ⊕ Z57):=(fun(a b:Int)(c:LI)=>cond (decide (b<(s.1.length:Int))) ((m0k s.1 b).bind fun x6=>(a5e (c,s.2.1,a)).bind fun y7=>(a1V (wrap .i64 (x6+y7))).bind fun y8=>cond (!y8) (some (.inr (Sum.inr ((6,[],()))))) (cond (lim ((a01 c)+1)) (some (.inl (s.1,s.2.1,a,wrap .i64 (b+1),a03 c [wrap .i64 (x6+y7)],()))) none)) (some (.inr (Sum.inl (c,()))))) s.2.2.1 s.2.2.2.1 s.2.2.2.2.1
def a3Y(x:(LI×Z12)):Option (LI×Int):=(show Option Z94 from(a3m (x.2.2.1,x.2.2.2)).bind fun y1=>cond (!y1) (some (x.1,x.2.1,x.2.2.1,x.2.2.2,true,())) (some (x.1,x.2.1,x.2.2.1,x.2.2.2,(x.1.length:Int) != (x.2.2.1.length:Int),()))).bind fun z2=>cond z2.2.2.2.2.1 (some ([],1)) ((show Option Z94 from(a1n z2.1).bind fun y3=>cond (!y3) (some (z2.1,z2.2.1,z2.2.2.1,z2.2.2.2.1,true,())) ((a1n z2.2.1).bind fun y4=>some (z2.1,z2.2.1,z2.2.2.1,z2.2.2.2.1,!y4,()))).bind fun z5=>cond z5.2.2.2.2.1 (some ([],6)) (cond (lim (0+(a01 z5.1))) ((y0s a4j (z5.2.1,z5.2.2.1,z5.2.2.2.1,0,a03 [] z5.1,())).bind fun w9=>match w9 with |.inl a10=>some (a10.1,0) |.inr b11=>some (b11.2.1,b11.1)) none))
def b7Q:FSem:=⟨[.v QL,.v QL,.v QL,.v QI],[.o QI,.v QI],a3Y⟩
def e0G:Hints:=⟨[(250,[.sv 1 QL,.sv 2 QL,3,11,.own 10 10 QI],[Qe 0 [.own 10 10 QI],Qr [9,.own 8 8 QI]])],[(6,[Qn [.sv 0 QL,.sv 1 QL,.sv 2 QL,3,.sv 23 .bool]]),(14,[Qn [.sv 0 QL,.sv 1 QL,.sv 2 QL,3,.sv 31 .bool]])],[(9,[.v,.v,.v,.v,.q,.v,.v,.q,.x,.x])]⟩
def a3f(s:Z78):Option (Z78 ⊕ (Int×Unit)):=(fun(a:LI)(b c d:Int)(e:LI)=>cond (decide (d<3)) (cond (decide ((wrap .i64 ((wrap .i64 ((wrap .i64 ((a.length:Int)-b))-1))+d))≥0)) ((m0k e d).bind fun x1=>(m0k a (wrap .i64 ((wrap .i64 ((wrap .i64 ((a.length:Int)-b))-1))+d))).bind fun x2=>some (.inl (a,b,wrap .i64 (c+(wrap .i64 (x1*x2))),wrap .i64 (d+1),e,()))) (some (.inl (a,b,c,wrap .i64 (d+1),e,())))) (some (.inr (c,())))) s.1 s.2.1 s.2.2.1 s.2.2.2.1 s.2.2.2.2.1
def a6E(x:Z13):Option Int:=(y0s a3f (x.1,x.2.1,0,0,x.2.2,())).bind fun w3=>some (A0o .i64 w3.1 6)
def b8R:FSem:=⟨[.v QL,.v QI,.v (.arr 3 QI)],[.v QI],a6E⟩
def e0H:Hints:=⟨[(58,[.sv 0 QL,1,7,8,.vp 5 (.arr 3 QI)],[Qe 0 [7]])],[],[(7,[.v,.v,.v,.v,.v,.v,.v,.v,.v,.x,.x])]⟩
def a5f(s:Z89):Option (Z89 ⊕ Z57):=(fun(a:Int)(b c:LI)=>cond (decide (a<(s.1.length:Int))) ((m0k s.1 a).bind fun x3=>(a6E (b,s.2.1,c)).bind fun y4=>(a1V (wrap .i64 (x3+y4))).bind fun y5=>cond (!y5) (some (.inr (Sum.inr ((6,[],()))))) (cond (lim ((a01 b)+1)) (some (.inl (s.1,s.2.1,wrap .i64 (a+1),a03 b [wrap .i64 (x3+y4)],c,()))) none)) (some (.inr (Sum.inl (b,()))))) s.2.2.1 s.2.2.2.1 s.2.2.2.2.1
def a7w(x:Z13):Option (LI×Int):=(a6g (x.2.1,x.2.2)).bind fun y1=>cond (!y1) (some ([],1)) ((a1n x.1).bind fun y2=>cond (!y2) (some ([],6)) ((y0s a5f (x.1,x.2.1,0,[],x.2.2,())).bind fun w6=>match w6 with |.inl a7=>some (a7.1,0) |.inr b8=>some (b8.2.1,b8.1)))
def c1l:FSem:=⟨[.v QL,.v QI,.v (.arr 3 QI)],[.o QI,.v QI],a7w⟩
def e0I:Hints:=⟨[(250,[.sv 0 QL,1,9,.own 8 8 QI,.vp 5 (.arr 3 QI)],[Qe 0 [.own 8 8 QI],Qr [7,.own 6 6 QI]])],[],[(9,[.v,.v,.v,.v,.q,.v,.v,.q,.x,.x])]⟩
def a6F(x:(Int×Int×Unit)):Option Z51:=(a5x x).bind fun y1=>cond (!y1) none (cond ((decide (0≤x.1))&&((decide (x.1≤x.1))&&(lim (a00 x.1)))) (cond ((decide (0≤x.1))&&((decide (x.1≤x.1))&&(lim (a00 x.1)))) (some ((x.2.1,a02 (a00 x.1) 0,a02 (a00 x.1) 0,()),0)) none) none)
def b8S:FSem:=⟨[.v Q4],[.b Q18,.v QI],a6F⟩
def e0J:Hints:=⟨[],[],[(3,[.v,.v,.v,.v,.q,.v,.v,.q,.x,.x,.x,.x])]⟩
def a9i(x:Int):Option Int:=some (v0s (v0r x (-1073741824)) 1073741823)
def c7W:FSem:=⟨[.v QI],[.v QI],a9i⟩
def a3o(s:Z98):Option (Z98 ⊕ Z80):=(fun(a:Int)(b:Z30)=>cond (decide (a<(b.2.1.length:Int))) (cond ((decide (0≤a))&&(decide (a<(b.2.1.length:Int)))) (cond ((decide (0≤a))&&(decide (a<(b.2.2.1.length:Int)))) (some (.inl (wrap .i64 (s.1+(wrap .i64 ((a04 b.2.1 (a00 a) 0)*(a04 b.2.2.1 (a00 a) 0)))),wrap .i64 (a+1),b,()))) none) none) (some (.inr (s.1,b,())))) s.2.1 s.2.2.1
def a3g(x:Z30):Option Z50:=(y0s a3o (0,0,x,())).bind fun w1=>(a9i (A0o .i64 w1.1 16)).bind fun y2=>some (y2,w1.2.1)
def b5j:FSem:=⟨[.r false (.b Q18)],[.v QI],a3g⟩
def e0K:Hints:=⟨[(58,[3,4,.box pinned Q18,Qp 0 pinned],[Qe 0 [3,.box pinned Q18]])],[],[(5,[.v,.p,.p,.q,.q,.v,.q,.q,.p,.p,.q,.q,.v,.q,.q,.v,.x,.x])]⟩
def a9j(x:Int):Option Int:=cond (decide (x > 0)) (some 1) (cond (decide (x<0)) (some (-1)) (some 0))
def c7X:FSem:=⟨[.v QI],[.v QI],a9j⟩
def a2w(s:(Int×(Int×(Int×(LI×Z95))))):Option ((Int×(Int×(Int×(LI×Z95)))) ⊕ (Int×(LI×Z95))):=(fun(a:Int)(b c:LI)(d:Z30)=>cond (decide (a<(d.2.1.length:Int))) (cond ((decide (0≤a))&&(decide (a<(d.2.1.length:Int)))) (cond ((decide (0≤a))&&(decide (a<(d.2.2.1.length:Int)))) ((a9j (a04 d.2.2.1 (a00 a) 0)).bind fun y4=>cond (decide ((wrap .u64 d.1)<0)) none (cond (lim ((a01 b)+1)) (some (.inl (s.1,s.2.1,wrap .i64 (a+1),a03 b [v0s (v0r (wrap .i64 ((a04 d.2.1 (a00 a) 0)+(A0n .i64 (wrap .i64 (s.2.1*y4)) (wrap .u64 d.1)))) (-1048576)) 1048576],c,d,()))) none)) none) none) (some (.inr (s.1,b,c,d,())))) s.2.2.1 s.2.2.2.1 s.2.2.2.2.1 s.2.2.2.2.2.1
def a5g(x:Z51):Option Z30:=(a9i x.2).bind fun y1=>(a3g x.1).bind fun y2=>(a9j (wrap .i64 (y1-y2.1))).bind fun y3=>(y0s a2w (y1,y3,0,[],[],y2.2,())).bind fun w5=>cond (lim ((a01 w5.2.2.1)+1)) (cond ((decide (0≤(wrap .i64 ((w5.2.2.2.1.2.2.1.length:Int)-1))))&&(decide ((wrap .i64 ((w5.2.2.2.1.2.2.1.length:Int)-1))≤(w5.2.2.2.1.2.2.1.length:Int)))) (cond (lim ((a01 (a03 w5.2.2.1 [w5.1]))+(a01 (a06 (a00 (wrap .i64 ((w5.2.2.2.1.2.2.1.length:Int)-1))) (a09 0 w5.2.2.2.1.2.2.1))))) (some (w5.2.2.2.1.1,w5.2.1,a03 (a03 w5.2.2.1 [w5.1]) (a06 (a00 (wrap .i64 ((w5.2.2.2.1.2.2.1.length:Int)-1))) (a09 0 w5.2.2.2.1.2.2.1)),w5.2.2.2.1.2.2.2)) none) none) none
def b6F:FSem:=⟨[.r false (.b Q18),.v QI],[],a5g⟩
def e0L:Hints:=⟨[(122,[1,4,7,.own 5 5 QI,.own 6 6 QI,.box pinned Q18,Qp 0 pinned],[Qe 0 [1,.own 5 5 QI,.own 6 6 QI,.box pinned Q18,Qp 0 pinned]])],[],[(6,[.q,.p,.p,.q,.q,.v,.q,.q,.v,.p,.p,.q,.q,.v,.q,.q,.v,.v,.p,.p,.q,.q,.v,.v,.v,.v,.v,.q,.x,.x]),(7,[.q,.v,.q,.w [6,55,56],.p,.p,.r [59,pinned],.r [60,pinned],.p,.p,.r [63,pinned],.r [64,pinned],.r [65,pinned],.v,.r [67,pinned],.x,.x])]⟩
def a3h(s:(Z4×c7m)):Option ((Z4×c7m) ⊕ ((Z4×Z5) ⊕ Z5)):=(fun(a:Int)(b:LI)=>cond (decide (a<(b.length:Int))) (cond ((decide (0≤a))&&(decide (a<(b.length:Int)))) ((a3g s.2.2.2.2.1).bind fun y5=>(a1V (wrap .i64 ((a04 b (a00 a) 0)+y5.1))).bind fun y6=>cond (!y6) (some (.inr (Sum.inr ((6,[],()))))) (cond ((decide (0≤a))&&(decide (a<(b.length:Int)))) ((a5g (y5.2,wrap .i64 ((a04 b (a00 a) 0)+y5.1))).bind fun y7=>some (.inl (s.1,s.2.1,wrap .i64 (a+1),a05 b (a00 a) (wrap .i64 ((a04 b (a00 a) 0)+y5.1)),y7,()))) none)) none) (some (.inr (Sum.inl (s.1,s.2.1,b,()))))) s.2.2.1 s.2.2.2.1
def a4I(s:(Z4×Z5)):Option ((Z4×Z5) ⊕ Z57):=cond (decide (s.2.1≥0)) ((m0k s.1 s.2.1).bind fun x3=>(a6F x3).bind fun y4=>(y0s a3h (s.1,s.2.1,0,s.2.2.1,y4.1,())).bind fun w8=>match w8 with |.inl a9=>some (.inl (a9.1,wrap .i64 (a9.2.1-1),a9.2.2.1,())) |.inr b10=>some (.inr (Sum.inr ((b10.1,b10.2.1,()))))) (some (.inr (Sum.inl (s.2.2.1,()))))
def a6G(x:(LI×Z4)):Option (LI×Int):=(a5y x.2).bind fun y1=>cond (!y1) (some ([],1)) ((a1n x.1).bind fun y2=>cond (!y2) (some ([],6)) (cond (lim (0+(a01 x.1))) ((y0s a4I (x.2,wrap .i64 ((x.2.length:Int)-1),a03 [] x.1,())).bind fun w11=>match w11 with |.inl a12=>some (a12.1,0) |.inr b13=>some (b13.2.1,b13.1)) none))
def b8T:FSem:=⟨[.v QL,.v (.list false Q4)],[.o QI,.v QI],a6G⟩
def e0M:Hints:=⟨[(250,[.sv 1 (.list false Q4),7,.own 6 6 QI],[Qe 0 [.own 6 6 QI],Qr [5,.own 4 4 QI]]),(32038,[.sv 1 (.list false Q4),7,10,.own 6 6 QI,.box 1033 Q18,Qp 8 1033],[Qe 2 [.sv 1 (.list false Q4),7,.own 6 6 QI],Qr [5,.own 4 4 QI]])],[],[(13,[.r [6,42],.v,.r [6,44],.r [6,45],.q,.w [47,1033,1047],.x,.x])]⟩
def b1v(x:a1b):Option (LI×Int):=cond (x.1==2) ((a6D (x.2.2.2.2.2.2.2.2.1,x.2.2.2.2.2.2.2.2.2.2.1,x.2.2.1)).bind fun y1=>some (y1.1,y1.2)) (cond (x.1==3) ((a3Y (x.2.2.2.2.2.2.2.2.1,x.2.2.2.2.2.2.2.2.2.2.1,x.2.2.2.2.2.1,x.2.2.2.1)).bind fun y2=>some (y2.1,y2.2)) (cond (x.1==4) ((a3Y (x.2.2.2.2.2.2.2.2.1,x.2.2.2.2.2.2.2.2.2.2.1,x.2.2.2.2.2.1,x.2.2.2.1)).bind fun y3=>cond (y3.2 != 0) (some ([],y3.2)) ((a7w (y3.1,x.2.2.2.2.1,x.2.2.2.2.2.2.1)).bind fun y4=>some (y4.1,y4.2))) (cond (x.1==5) ((a6G (x.2.2.2.2.2.2.2.2.2.2.1,x.2.2.2.2.2.2.2.1)).bind fun y5=>some (y5.1,y5.2)) (some (x.2.2.2.2.2.2.2.2.1,0)))))
def c7Y:FSem:=⟨[.v Q43],[.v QL,.v QI],b1v⟩
def b1w(s:Z49):Option (Z49 ⊕ Z57):=(fun(a:LI)(b c:Int)(d:LI)=>cond (decide (c<(a.length:Int))) ((show Option (LI×Z41)from(m0k a c).bind fun x2=>(a1V x2).bind fun y3=>cond (!y3) (some (a,b,c,true,d,())) ((m0k a c).bind fun x4=>cond (decide ((wrap .u64 b)<0)) none ((a1V (A0n .i64 x4 (wrap .u64 b))).bind fun y5=>some (a,b,c,!y5,d,())))).bind fun z6=>cond z6.2.2.2.1 (some (.inr (Sum.inr ((6,[],()))))) ((m0k z6.1 z6.2.2.1).bind fun x7=>cond (decide ((wrap .u64 z6.2.1)<0)) none (cond (lim ((a01 z6.2.2.2.2.1)+1)) (some (.inl (z6.1,z6.2.1,wrap .i64 (z6.2.2.1+1),a03 z6.2.2.2.2.1 [A0n .i64 x7 (wrap .u64 z6.2.1)],()))) none))) (some (.inr (Sum.inl (d,()))))) s.1 s.2.1 s.2.2.1 s.2.2.2.1
def b6b(x:(LI×Int)):Option (LI×Int):=(show Option Z21 from cond (decide (x.2<0)) (some (x.1,x.2,true,())) (some (x.1,x.2,decide (x.2 > 30),()))).bind fun z1=>cond z1.2.2.1 (some ([],1)) ((y0s b1w (z1.1,z1.2.1,0,[],())).bind fun w8=>match w8 with |.inl a9=>some (a9.1,0) |.inr b10=>some (b10.2.1,b10.1))
def d3y:FSem:=⟨[.v QL,.v QI],[.o QI,.v QI],b6b⟩
def e0N:Hints:=⟨[(122,[.sv 0 QL,1,7,.own 6 6 QI],[Qe 0 [.own 6 6 QI],Qr [5,.own 4 4 QI]])],[(6,[Qn [.sv 0 QL,1,.sv 13 .bool]]),(3912,[Qn [.sv 0 QL,1,7,.sv 36 .bool,.own 6 6 QI]])],[]⟩
def a4J(s:c7u):Option (c7u ⊕ (LI×Unit)):=(fun(a:Int)(b:LI)(c:a1b)=>cond (decide (a<s.1)) ((m0k c.2.2.2.2.2.2.2.2.1 0).bind fun x11=>cond ((decide (0≤a))&&(decide (a<(b.length:Int)))) (some (.inl (s.1,wrap .i64 (a+1),a05 b (a00 a) x11,c,()))) none) (some (.inr (b,())))) s.2.1 s.2.2.1 s.2.2.2.1
def a6X(x:a8C):Option (LI×Bool):=(show Option c0C from cond (decide (x.2<1)) (some (x.2,true,x.1,())) (cond (decide (x.2 > 4096)) (some (x.2,true,x.1,())) (cond (decide (x.1.1<0)) (some (x.2,true,x.1,())) (cond (decide (x.1.1 > 5)) (some (x.2,true,x.1,())) ((b0L x.1).bind fun y1=>(a6e (x.1,y1)).bind fun y2=>cond (!y2) (some (x.2,true,x.1,())) (cond (decide (x.1.2.1<0)) (some (x.2,true,x.1,())) (some (x.2,decide (x.1.2.1 > 30),x.1,())))))))).bind fun z3=>cond z3.2.1 (some ([],false)) ((b0K (z3.2.2.1,z3.1)).bind fun y4=>(show Option c7t from cond (decide (y4<0)) (some (z3.1,y4,true,z3.2.2.1,())) (cond ((z3.2.2.1.2.2.2.2.2.2.2.2.1.length:Int) != y4) (some (z3.1,y4,true,z3.2.2.1,())) ((a1n z3.2.2.1.2.2.2.2.2.2.2.2.1).bind fun y5=>cond (!y5) (some (z3.1,y4,true,z3.2.2.1,())) ((a1n z3.2.2.1.2.2.2.2.2.2.2.2.2.2.1).bind fun y6=>some (z3.1,y4,!y6,z3.2.2.1,()))))).bind fun z7=>cond z7.2.2.1 (some ([],false)) ((show Option c0C from(a6f z7.2.2.2.1.1).bind fun y8=>cond y8 (cond ((z7.2.2.2.1.2.2.2.2.2.2.2.2.2.2.1.length:Int) != (wrap .i64 (z7.1-z7.2.1))) (some (z7.1,true,z7.2.2.2.1,())) ((a4u (z7.2.2.2.1.2.2.2.2.2.2.2.2.2.1,z7.1,z7.2.1)).bind fun y9=>some (z7.1,!y9,z7.2.2.2.1,()))) (some (z7.1,false,z7.2.2.2.1,()))).bind fun z10=>cond z10.2.1 (some ([],false)) (cond (z10.2.2.1.1==0) (cond ((decide (0≤z10.1))&&((decide (z10.1≤z10.1))&&(lim (a00 z10.1)))) ((y0s a4J (z10.1,0,a02 (a00 z10.1) 0,z10.2.2.1,())).bind fun w12=>some (w12.1,true)) none) ((b1v z10.2.2.1).bind fun y13=>cond (y13.2 != 0) (some ([],false)) ((b6b (y13.1,z10.2.2.1.2.1)).bind fun y14=>some (y14.1,y14.2==0))))))
def c4B:FSem:=⟨[.v Q43,.v QI],[.o QI,.v .bool],a6X⟩
def e0O:Hints:=⟨[(8106,[1,8,.own 7 7 QI,.vp 2 Q43],[Qe 0 [.own 7 7 QI]])],[(6,[Qn [1,.sv 45 .bool,.vp 2 Q43]]),(30,[Qn [1,6,.sv 69 .bool,.vp 2 Q43]]),(62,[Qn [1,.sv 89 .bool,.vp 2 Q43]])],[(1,[.x,.x,.x,.x,.x,.x,.x,.x,.x,.x,.x,.x,.x,.x,.x,.x,.x,.v,.v,.v,.x,.x,.x,.x,.x,.x,.x,.x,.x,.x,.x,.x,.x])]⟩
def a3Z(s:Z83):Option (Z83 ⊕ Z0):=(fun(a:Z17)(b c:Int)=>cond (decide (c<(a.length:Int))) ((m0k a c).bind fun x2=>(show Option (Z17×Z10)from cond (decide (x2.1<0)) (some (a,b,c,true,())) (cond (decide (x2.1≥b)) (some (a,b,c,true,())) (cond (decide (x2.2.1<0)) (some (a,b,c,true,())) (cond (decide (x2.2.1≥b)) (some (a,b,c,true,())) (cond (x2.1==x2.2.1) (some (a,b,c,true,())) (cond (decide (x2.2.2.1<(-1024))) (some (a,b,c,true,())) (some (a,b,c,decide (x2.2.2.1 > 1024),())))))))).bind fun z3=>cond z3.2.2.2.1 (some (.inr (Sum.inr ((false,()))))) (some (.inl (z3.1,z3.2.1,wrap .i64 (z3.2.2.1+1),())))) (some (.inr (Sum.inl ())))) s.1 s.2.1 s.2.2.1
def a6h(x:(Z17×Int)):Option Bool:=(show Option (Z17×Int×Bool×Unit)from cond (decide (x.2<1)) (some (x.1,x.2,true,())) (cond (decide (x.2 > 8)) (some (x.1,x.2,true,())) (some (x.1,x.2,decide ((x.1.length:Int) > 16),())))).bind fun z1=>cond z1.2.2.1 (some false) ((y0s a3Z (z1.1,z1.2.1,0,())).bind fun w4=>match w4 with |.inl a5=>some true |.inr b6=>some b6.1)
def c3l:FSem:=⟨[.v (.list false Q13),.v QI],[.v .bool],a6h⟩
def e0P:Hints:=⟨[(58,[.sv 0 (.list false Q13),1,5],[Qe 0 [],Qr [.sv 4 .bool]])],[(6,[Qn [.sv 0 (.list false Q13),1,.sv 17 .bool]]),(1865,[Qn [.sv 0 (.list false Q13),1,5,.sv 64 .bool]])],[]⟩
def a8q(x:a1v):Option Bool:=(a8g x.2.2.1).bind fun y1=>cond y1 (cond (decide (x.2.1≥1)) (cond (decide (x.2.1≤4096)) (cond (decide (x.1≥0)) (cond (decide (x.1≤(wrap .i64 (4194304-x.2.1)))) ((a6h (x.2.2.2.1,x.2.2.1.2.1)).bind fun y2=>some y2) (some false)) (some false)) (some false)) (some false)) (some false)
def c3m:FSem:=⟨[.v Q61],[.v .bool],a8q⟩
def a6i(s:Z16):Option (Z16 ⊕ Z0):=cond (decide (s.2.1<(s.1.length:Int))) ((m0k s.1 s.2.1).bind fun x5=>(a1n x5).bind fun y6=>cond (!y6) (some (.inr (Sum.inr ((false,()))))) (some (.inl (s.1,wrap .i64 (s.2.1+1),())))) (some (.inr (Sum.inl ())))
def b1x(x:Z71):Option Bool:=(show Option ((List LI)×(Bool×Unit))from(a8h x.1).bind fun y1=>cond (!y1) (some (x.1,true,())) ((m0k x.1 0).bind fun x2=>cond (decide ((x2.length:Int) > 4096)) (some (x.1,true,())) ((a6h (x.2,(x.1.length:Int))).bind fun y3=>some (x.1,!y3,())))).bind fun z4=>cond z4.2.1 (some false) ((y0s a6i (z4.1,0,())).bind fun w7=>match w7 with |.inl a8=>some true |.inr b9=>some b9.1)
def c7Z:FSem:=⟨[.v (.list false QL),.v (.list false Q13)],[.v .bool],b1x⟩
def e0Q:Hints:=⟨[(58,[.sv 0 (.list false QL),5],[Qe 0 [],Qr [.sv 4 .bool]])],[(6,[Qn [.sv 0 (.list false QL),.sv 22 .bool]])],[]⟩
def a6H(s:Z70):Option (Z70 ⊕ Z1):=cond (decide (s.2.1<(s.1.length:Int))) ((m0k s.1 s.2.1).bind fun x1=>cond (lim (0+(a01 x1))) (cond (lim ((a01 s.2.2.1)+(a01 (a05 ([[]]:List LI) 0 (a03 [] x1))))) (some (.inl (s.1,wrap .i64 (s.2.1+1),a03 s.2.2.1 (a05 ([[]]:List LI) 0 (a03 [] x1)),()))) none) none) (some (.inr (s.2.2.1,())))
def a9k(x:(List LI)):Option (List LI):=(y0s a6H (x,0,([]:(List LI)),())).bind fun w2=>some w2.1
def c4C:FSem:=⟨[.v (.list false QL)],[.o (.list true QI)],a9k⟩
def e0R:Hints:=⟨[(58,[.sv 0 (.list false QL),4,.own 3 3 (.list true QI)],[Qe 0 [.own 3 3 (.list true QI)]])],[],[]⟩
def a5z(s:(Int×(Int×((List LI)×Z27)))):Option ((Int×(Int×((List LI)×Z27))) ⊕ (Z1 ⊕ (Bool×Z1))):=(fun(a b:Int)(c:List LI)(d:Z7)=>cond (decide (0<(c.length:Int))) (cond (decide (b<((a01 (a04 c 0 []):Nat):Int))) (cond ((decide (0≤d.2.1))&&(decide (d.2.1<(c.length:Int)))) (cond ((decide (0≤d.2.1))&&(decide (d.2.1<(c.length:Int)))) (cond ((decide (0≤b))&&(decide (b<((a01 (a04 c (a00 d.2.1) []):Nat):Int)))) (cond ((decide (0≤d.1))&&(decide (d.1<(c.length:Int)))) (cond ((decide (0≤b))&&(decide (b<((a01 (a04 c (a00 d.1) []):Nat):Int)))) (cond ((decide (0≤b))&&(decide (b<((a01 (a04 c (a00 d.2.1) []):Nat):Int)))) (cond ((decide (0≤d.2.1))&&(decide (d.2.1<((a01 (a05 c (a00 d.2.1) (a05 (a04 c (a00 d.2.1) []) (a00 b) (wrap .i64 ((a04 (a04 c (a00 d.2.1) []) (a00 b) 0)+(wrap .i64 (a*(A0o .i64 (wrap .i64 (d.2.2.1*(a04 (a04 c (a00 d.1) []) (a00 b) 0))) 8))))))):Nat):Int)))) (cond ((decide (0≤b))&&(decide (b<((a01 (a04 (a05 c (a00 d.2.1) (a05 (a04 c (a00 d.2.1) []) (a00 b) (wrap .i64 ((a04 (a04 c (a00 d.2.1) []) (a00 b) 0)+(wrap .i64 (a*(A0o .i64 (wrap .i64 (d.2.2.1*(a04 (a04 c (a00 d.1) []) (a00 b) 0))) 8))))))) (a00 d.2.1) []):Nat):Int)))) ((a1V (a04 (a04 (a05 c (a00 d.2.1) (a05 (a04 c (a00 d.2.1) []) (a00 b) (wrap .i64 ((a04 (a04 c (a00 d.2.1) []) (a00 b) 0)+(wrap .i64 (a*(A0o .i64 (wrap .i64 (d.2.2.1*(a04 (a04 c (a00 d.1) []) (a00 b) 0))) 8))))))) (a00 d.2.1) []) (a00 b) 0)).bind fun y1=>cond (!y1) (some (.inr (Sum.inr ((false,a05 c (a00 d.2.1) (a05 (a04 c (a00 d.2.1) []) (a00 b) (wrap .i64 ((a04 (a04 c (a00 d.2.1) []) (a00 b) 0)+(wrap .i64 (a*(A0o .i64 (wrap .i64 (d.2.2.1*(a04 (a04 c (a00 d.1) []) (a00 b) 0))) 8)))))),()))))) (some (.inl (a,wrap .i64 (b+1),a05 c (a00 d.2.1) (a05 (a04 c (a00 d.2.1) []) (a00 b) (wrap .i64 ((a04 (a04 c (a00 d.2.1) []) (a00 b) 0)+(wrap .i64 (a*(A0o .i64 (wrap .i64 (d.2.2.1*(a04 (a04 c (a00 d.1) []) (a00 b) 0))) 8)))))),d,())))) none) none) none) none) none) none) none) none) (some (.inr (Sum.inl (c,()))))) none) s.1 s.2.1 s.2.2.1 s.2.2.2.1
def b2x(x:((List LI)×(Z7×Int))):Option (Bool×(List LI)):=(y0s a5z (x.2.2,0,x.1,x.2.1,())).bind fun w2=>match w2 with |.inl a3=>some (true,a3.1) |.inr b4=>some (b4.1,b4.2.1)
def c9A:FSem:=⟨[.r false (.o (.list true QI)),.v Q13,.v QI],[.v .bool],b2x⟩
def e0S:Hints:=⟨[(26,[2,7,.own 0 pinned (.list true QI),.vp 4 Q13],[Qe 0 [.own 0 pinned (.list true QI)],Qr [.sv 6 .bool,.own 0 pinned (.list true QI)]])],[],[(4,[.q,.v,.v,.q,.q,.v,.q,.v,.v,.q,.q,.v,.q,.q,.v,.v,.v,.q,.v,.v,.q,.q,.v,.q,.q,.v,.v,.v,.v,.x,.x])]⟩
def a5h(s:(Z17×Z14)):Option ((Z17×Z14) ⊕ (Z1 ⊕ Z16)):=cond (decide (s.2.1≥0)) ((m0k s.1 s.2.1).bind fun x3=>(b2x (s.2.2.1,x3,(-1))).bind fun y4=>cond (!y4.1) (some (.inr (Sum.inr ((([]:(List LI)),6,()))))) (some (.inl (s.1,wrap .i64 (s.2.1-1),y4.2,())))) (some (.inr (Sum.inl (s.2.2.1,()))))
def a7x(x:Z71):Option ((List LI)×Int):=(b1x (x.1,x.2)).bind fun y1=>cond (!y1) (some (([]:(List LI)),1)) ((a9k x.1).bind fun y2=>(y0s a5h (x.2,wrap .i64 ((x.2.length:Int)-1),y2,())).bind fun w5=>match w5 with |.inl a6=>some (a6.1,0) |.inr b7=>some (b7.1,b7.2.1))
def c1m:FSem:=⟨[.v (.list false QL),.v (.list false Q13)],[.v (.list false QL),.v QI],a7x⟩
def e0T:Hints:=⟨[(122,[.sv 1 (.list false Q13),7,.own 6 6 (.list true QI)],[Qe 0 [.own 6 6 (.list true QI)],Qr [.sv 4 (.list false QL),5]])],[],[]⟩
def a2K(s:c7B):Option (c7B ⊕ (d1c ⊕ Z64)):=(fun(a:List LI)(b:Z14)(c:a1v)=>cond (decide (s.1<(c.2.2.2.2.1.length:Int))) ((m0k c.2.2.2.2.1 s.1).bind fun x3=>(a6X (x3,c.2.1)).bind fun y4=>cond (!y4.2) (some (.inr (Sum.inr ((false,(0,([]:(List LI)),()),()))))) (cond (lim ((a01 a)+1)) (some (.inl (wrap .i64 (s.1+1),a03 a ([y4.1]:List LI),b,c,()))) none)) (some (.inr (Sum.inl (a,b,c,()))))) s.2.1 s.2.2.1 s.2.2.2.1
def a2h(x:a1v):Option (Z14×Bool):=(show Option (Bool×c7A)from(a8q x).bind fun y1=>cond (!y1) (some (true,(0,([]:(List LI)),()),x,())) (some ((x.2.2.2.2.1.length:Int) != x.2.2.1.2.1,(0,([]:(List LI)),()),x,()))).bind fun z2=>cond z2.1 (some ((0,([]:(List LI)),()),false)) ((y0s a2K (0,([]:(List LI)),z2.2.1,z2.2.2.1,())).bind fun w5=>match w5 with |.inl a6=>((a7x (a6.1,a6.2.2.1.2.2.2.1)).bind fun y8=>(show Option (Bool×Z14×Z35)from cond (y8.2 != 0) (some (true,a6.2.1,(a6.2.2.1.2.2.1.2.2.1,y8.1,()),())) ((a5w (a6.2.2.1.2.2.1.2.2.1,y8.1,())).bind fun y9=>some (!y9,a6.2.1,(a6.2.2.1.2.2.1.2.2.1,y8.1,()),()))).bind fun z10=>cond z10.1 (some ((0,([]:(List LI)),()),false)) (some (z10.2.2.1,true))) |.inr b7=>some (b7.2.1,b7.1))
def b7R:FSem:=⟨[.v Q61],[.v Q16,.v .bool],a2h⟩
def e0U:Hints:=⟨[(122,[5,.own 4 4 QL,.box 2 Q16,.vp 1 Q61,Qp 2 2],[Qe 0 [.own 4 4 QL,.box 2 Q16,.vp 1 Q61,Qp 2 2],Qr [.sv 3 .bool,.box 2 Q16,Qp 2 2]])],[(6,[Qn [.sv 22 .bool,.box 2 Q16,.vp 1 Q61,Qp 2 2]]),(254,[Qn [.sv 67 .bool,.box 2 Q16,.box 10 Q16,Qp 2 2,Qp 10 10]])],[(7,[.v,.v,.v,.v,.v,.v,.v,.x,.x,.q,.q,.q,.x])]⟩
def a7y(x:Z14):Option Int:=cond ((x.2.1.length:Int)==0) (some 0) ((m0k x.2.1 0).bind fun x1=>some (x1.length:Int))
def c1n:FSem:=⟨[.v Q16],[.v QI],a7y⟩
def a7z(s:b7z):Option (b7z ⊕ Z96):=(fun(a:Int)(b:LI)(c:Z14)=>cond (decide (a<(c.2.1.length:Int))) ((m0k c.2.1 a).bind fun x3=>(m0k x3 s.1).bind fun x4=>cond (lim ((a01 b)+1)) (some (.inl (s.1,wrap .i64 (a+1),a03 b [x4],c,()))) none) (some (.inr (s.1,b,c,())))) s.2.1 s.2.2.1 s.2.2.2.1
def a7A(s:Z96):Option (Z96 ⊕ (LI×Unit)):=(a7y s.2.2.1).bind fun y2=>cond (decide (s.1<y2)) ((y0s a7z (s.1,0,s.2.1,s.2.2.1,())).bind fun w5=>some (.inl (wrap .i64 (w5.1+1),w5.2.1,w5.2.2.1,()))) (some (.inr (s.2.1,())))
def b0M(x:Z14):Option LI:=(a5w x).bind fun y1=>cond (!y1) (some []) ((y0s a7A (0,[],x,())).bind fun w6=>some w6.1)
def c6r:FSem:=⟨[.v Q16],[.o QI],b0M⟩
def e0V:Hints:=⟨[(122,[4,.own 3 3 QI,.vp 1 Q16],[Qe 0 [.own 3 3 QI]]),(7826,[4,5,.own 3 3 QI,.vp 1 Q16],[Qe 2 [4,.own 3 3 QI,.vp 1 Q16]])],[],[]⟩
def a7B(s:(a4n×Z5)):Option ((a4n×Z5) ⊕ ((LI×Unit) ⊕ Z8)):=cond (decide (s.2.1<(s.1.length:Int))) ((m0k s.1 s.2.1).bind fun x1=>(a2h x1).bind fun y2=>cond (!y2.2) (some (.inr (Sum.inr ((false,[],()))))) ((b0M y2.1).bind fun y3=>cond (lim ((a01 s.2.2.1)+(a01 y3))) (some (.inl (s.1,wrap .i64 (s.2.1+1),a03 s.2.2.1 y3,()))) none)) (some (.inr (Sum.inl (s.2.2.1,()))))
def a8i(x:a4n):Option (LI×Bool):=(y0s a7B (x,0,[],())).bind fun w4=>match w4 with |.inl a5=>some (a5.1,true) |.inr b6=>some (b6.2.1,b6.1)
def c6s:FSem:=⟨[.v (.list false Q61)],[.o QI,.v .bool],a8i⟩
def H87:Hints:=⟨[(58,[.sv 0 (.list false Q61),5,.own 4 4 QI],[Qe 0 [.own 4 4 QI],Qr [.sv 3 .bool,.own 2 2 QI]])],[],[]⟩
def a9l(x:a8C):Option Bool:=(a6X (x.1,x.2)).bind fun y1=>some y1.2
def c4D:FSem:=⟨[.v Q43,.v QI],[.v .bool],a9l⟩
def a6j(s:Z18):Option (Z18 ⊕ Z18):=(fun(a:LI)(b c:Int)=>cond (decide (b<32)) ((m0k a c).bind fun x1=>cond (x1 != 0) ((m0k a c).bind fun x2=>(a6W (x2,b)).bind fun y3=>cond (!y3) (some (.inl (a,wrap .i64 (b+1),c,()))) (some (.inr (a,b,c,())))) (some (.inr (a,b,c,())))) (some (.inr (a,b,c,())))) s.1 s.2.1 s.2.2.1
def a8r(s:Z18):Option Z68:=cond (decide (s.2.2.1<(s.1.length:Int))) ((y0s a6j (s.1,s.2.1,s.2.2.1,())).bind fun w4=>some (.inl (w4.1,w4.2.1,wrap .i64 (w4.2.2.1+1),()))) (some (.inr (s.2.1,())))
def a5J(x:LI):Option Int:=(y0s a8r (x,0,0,())).bind fun w5=>some w5.1
def c8a:FSem:=⟨[.v QL],[.v QI],a5J⟩
def e0W:Hints:=⟨[(58,[.sv 0 QL,3,4],[Qe 0 [3]]),(1864,[.sv 0 QL,3,4],[Qe 2 [.sv 0 QL,3,4]])],[],[]⟩
def a4K(s:Z46):Option (Z46 ⊕ Z9):=(fun(a:Int)(b:LI×Unit)=>cond (decide (a≥0)) (cond (decide ((wrap .u64 a)<0)) none (cond (lim ((a01 b.1)+1)) (some (.inl (s.1,wrap .i64 (a-1),(a03 b.1 [wrap .u8 (bits .u64 .and (A0o .u64 s.1 (wrap .u64 a)) 1)],b.2),()))) none)) (some (.inr (b,())))) s.2.1 s.2.2.1
def a0I(x:((LI×Unit)×(Int×Int))):Option Z5:=(show Option (Int×Int×Bool×Z9)from cond (decide (x.2.2<0)) (some (x.2.1,x.2.2,true,x.1,())) (cond (decide (x.2.2 > 64)) (some (x.2.1,x.2.2,true,x.1,())) (cond (decide (x.2.2<64)) (cond (decide ((wrap .u64 x.2.2)<0)) none (some (x.2.1,x.2.2,(A0o .u64 x.2.1 (wrap .u64 x.2.2)) != 0,x.1,()))) (some (x.2.1,x.2.2,false,x.1,()))))).bind fun z1=>cond z1.2.2.1 (some (1,z1.2.2.2.1)) ((y0s a4K (z1.1,wrap .i64 (z1.2.1-1),z1.2.2.2.1,())).bind fun w2=>some (0,w2.1))
def b8U:FSem:=⟨[.r false (.b Q1),.v QU,.v QI],[.v QI],a0I⟩
def e0X:Hints:=⟨[(58,[.sv 1 QU,7,.box pinned Q1,Qp 0 pinned],[Qe 0 [.box pinned Q1]])],[(6,[Qn [.sv 1 QU,2,.sv 24 .bool,.box pinned Q1,Qp 0 pinned]])],[]⟩
def a5i(s:(LI×Z46)):Option ((LI×Z46) ⊕ Z9):=cond (decide (s.2.2.1<(s.1.length:Int))) ((m0k s.1 s.2.2.1).bind fun x2=>cond (decide ((wrap .u64 s.2.1)<0)) none ((a0I (s.2.2.2.1,bits .u64 .and (wrap .u64 x2) (wrap .u64 ((A0n .u64 1 (wrap .u64 s.2.1))-1)),s.2.1)).bind fun y3=>some (.inl (s.1,s.2.1,wrap .i64 (s.2.2.1+1),y3.2,())))) (some (.inr (s.2.2.2.1,())))
def a2j(x:((LI×Unit)×(LI×Int))):Option (LI×Unit):=(y0s a5i (x.2.1,x.2.2,0,x.1,())).bind fun w4=>some w4.1
def c1o:FSem:=⟨[.r false (.b Q1),.v QL,.v QI],[],a2j⟩
def e0Y:Hints:=⟨[(6,[.sv 1 QL,2,6,.box pinned Q1,Qp 0 pinned],[Qe 0 [.box pinned Q1]])],[],[]⟩
def a4L(x:((LI×Unit)×a1b)):Option (LI×Unit):=(a0I (x.1,wrap .u64 (wrap .i64 ((x.2.2.2.2.2.2.1.length:Int)-1)),5)).bind fun y1=>(a0I (y1.2,wrap .u64 x.2.2.2.2.1,4)).bind fun y2=>(a5J x.2.2.2.2.2.2.1).bind fun y3=>(a0I (y2.2,wrap .u64 y3,5)).bind fun y4=>(a2j (y4.2,x.2.2.2.2.2.2.1,y3)).bind fun y5=>some y5
def b8V:FSem:=⟨[.r false (.b Q1),.v Q43],[],a4L⟩
def a9M(x:Int):Option Int:=(show Option (Int×Unit)from cond (decide (x<0)) (some (bits .u64 .xor (IntKind.max .u64) (A0n .u64 (wrap .u64 x) 1),())) (some (A0n .u64 (wrap .u64 x) 1,()))).bind fun z1=>some z1.1
def d1j:FSem:=⟨[.v QI],[.v QU],a9M⟩
def e0Z:Hints:=⟨[],[(7,[Qn [.sv 3 QU]])],[]⟩
def b0U(x:Int):Option Int:=(a1V x).bind fun y1=>cond (!y1) (some 0) ((a9M x).bind fun y2=>some y2)
def c9B:FSem:=⟨[.v QI],[.v QU],b0U⟩
def a8s(x:(Int×Int)):Option Int:=(show Option Z10 from(a2i x.1).bind fun y1=>cond (!y1) (some (x.1,x.2,true,())) ((a1V x.2).bind fun y2=>some (x.1,x.2,!y2,()))).bind fun z3=>cond z3.2.2.1 (some 0) ((b0U z3.2.1).bind fun y4=>cond (decide ((wrap .u64 z3.1)<0)) none (cond (decide ((wrap .i64 (A0o .u64 y4 (wrap .u64 z3.1)))<32)) (some (wrap .i64 ((wrap .i64 ((wrap .i64 (A0o .u64 y4 (wrap .u64 z3.1)))+1))+z3.1))) (some 65)))
def c3n:FSem:=⟨[.v QI,.v QI],[.v QI],a8s⟩
def e1a:Hints:=⟨[],[(6,[Qn [0,1,.sv 13 .bool]])],[]⟩
def a6I(s:Z36):Option Z84:=(fun(a:LI)(b c:Int)=>cond (decide (c<(a.length:Int))) ((m0k a c).bind fun x1=>(a8s (s.1,x1)).bind fun y2=>some (.inl (s.1,a,wrap .i64 (b+y2),wrap .i64 (c+1),()))) (some (.inr (b,())))) s.2.1 s.2.2.1 s.2.2.2.1
def a9m(x:(Int×LI)):Option Int:=(y0s a6I (x.1,x.2,0,0,())).bind fun w3=>some w3.1
def c4E:FSem:=⟨[.v QI,.v QL],[.v QI],a9m⟩
def e1b:Hints:=⟨[(58,[0,.sv 1 QL,5,6],[Qe 0 [5]])],[],[]⟩
def a8t(x:(Int×LI)):Option Int:=cond (x.1==31) ((a5J x.2).bind fun y1=>some (wrap .i64 (5+(wrap .i64 ((x.2.length:Int)*y1))))) ((a9m (x.1,x.2)).bind fun y2=>some y2)
def c3o:FSem:=⟨[.v QI,.v QL],[.v QI],a8t⟩
def a5j(s:c7n):Option (c7n ⊕ (Int×Unit)):=(fun(a b:Int)(c:LI)(d:Z5)=>cond (decide (b<(c.length:Int))) ((m0k d.2.1 b).bind fun x5=>cond ((decide (0≤b))&&(decide (b<(c.length:Int)))) (cond ((decide (0≤(wrap .i64 (a+(a04 c (a00 b) 0)))))&&(decide ((wrap .i64 (a+(a04 c (a00 b) 0)))≤(s.1.length:Int)))) (cond ((decide (0≤a))&&(decide (a≤((a00 (wrap .i64 (a+(a04 c (a00 b) 0))):Nat):Int)))) ((a8t (x5,a09 (a00 a) (a06 (a00 (wrap .i64 (a+(a04 c (a00 b) 0)))) s.1))).bind fun y6=>cond ((decide (0≤b))&&(decide (b<(c.length:Int)))) (some (.inl (s.1,wrap .i64 ((wrap .i64 (s.2.1+5))+y6),wrap .i64 (a+(a04 c (a00 b) 0)),wrap .i64 (b+1),c,d,()))) none) none) none) none) (some (.inr (s.2.1,())))) s.2.2.1 s.2.2.2.1 s.2.2.2.2.1 s.2.2.2.2.2.1
def a7C(x:Z74):Option Int:=(show Option (Int×(Int×(LI×Z47)))from(a4u (x.1,x.2.1,x.2.2.1)).bind fun y1=>cond (!y1) (some (x.2.1,x.2.2.1,x.2.2.2,true,x.1,())) (cond ((x.2.2.2.length:Int) != (wrap .i64 (x.2.1-x.2.2.1))) (some (x.2.1,x.2.2.1,x.2.2.2,true,x.1,())) ((a1n x.2.2.2).bind fun y2=>some (x.2.1,x.2.2.1,x.2.2.2,!y2,x.1,())))).bind fun z3=>cond z3.2.2.2.1 (some 0) ((a3n (z3.2.2.2.2.1.1,z3.1,z3.2.1)).bind fun y4=>(y0s a5j (z3.2.2.1,4,0,0,y4,z3.2.2.2.2.1,())).bind fun w7=>some w7.1)
def c1p:FSem:=⟨[.v Q12,.v QI,.v QI,.v QL],[.v QI],a7C⟩
def e1c:Hints:=⟨[(250,[.sv 3 QL,9,10,12,.own 11 11 QI,.vp 4 Q12],[Qe 0 [9]])],[(6,[Qn [1,2,.sv 3 QL,.sv 30 .bool,.vp 4 Q12]])],[(8,[.v,.v,.v,.v,.v,.v,.v,.v,.v,.v,.q,.v,.q,.q,.v,.v,.v,.x,.x])]⟩
def a3z(s:Z46):Option (Z46 ⊕ Z9):=cond (decide (s.2.1<s.1)) (cond (lim ((a01 s.2.2.1.1)+1)) (some (.inl (s.1,wrap .i64 (s.2.1+1),(a03 s.2.2.1.1 [0],s.2.2.1.2),()))) none) (some (.inr (s.2.2.1,())))
def a2D(x:((LI×Unit)×Int)):Option Z5:=(show Option (Int×Bool×Z9)from cond (decide (x.2<0)) (some (x.2,true,x.1,())) (some (x.2,decide (x.2 > 4096),x.1,()))).bind fun z1=>cond z1.2.1 (some (1,z1.2.2.1)) ((y0s a3z (z1.1,0,z1.2.2.1,())).bind fun w2=>cond (lim ((a01 w2.1.1)+1)) (some (0,a03 w2.1.1 [1],w2.1.2)) none)
def b6G:FSem:=⟨[.r false (.b Q1),.v QI],[.v QI],a2D⟩
def e1d:Hints:=⟨[(58,[1,5,.box pinned Q1,Qp 0 pinned],[Qe 0 [.box pinned Q1,Qp 0 pinned]])],[(6,[Qn [1,.sv 11 .bool,.box pinned Q1,Qp 0 pinned]])],[]⟩
def a4M(s:(Int×(LI×Z26))):Option ((Int×(LI×Z26)) ⊕ Z9):=(fun(a:Int)(b:LI)(c:Int)(d:LI×Unit)=>cond (decide (c<(b.length:Int))) ((m0k b c).bind fun x4=>(b0U x4).bind fun y5=>cond (decide ((wrap .u64 a)<0)) none (cond (decide ((wrap .i64 (A0o .u64 y5 (wrap .u64 a)))<32)) ((a2D (d,wrap .i64 (A0o .u64 y5 (wrap .u64 a)))).bind fun y6=>cond (decide ((wrap .u64 a)<0)) none ((a0I (y6.2,bits .u64 .and y5 (wrap .u64 ((A0n .u64 1 (wrap .u64 a))-1)),a)).bind fun y7=>some (.inl (a,b,wrap .i64 (c+1),y7.2,())))) ((a2D (d,32)).bind fun y8=>(a0I (y8.2,y5,32)).bind fun y9=>some (.inl (a,b,wrap .i64 (c+1),y9.2,()))))) (some (.inr (d,())))) s.1 s.2.1 s.2.2.1 s.2.2.2.1
def a9n(x:((LI×Unit)×(Int×LI))):Option Z5:=(show Option (Int×(LI×(Bool×Z9)))from(a2i x.2.1).bind fun y1=>cond (!y1) (some (x.2.1,x.2.2,true,x.1,())) ((a1n x.2.2).bind fun y2=>some (x.2.1,x.2.2,!y2,x.1,()))).bind fun z3=>cond z3.2.2.1 (some (1,z3.2.2.2.1)) ((y0s a4M (z3.1,z3.2.1,0,z3.2.2.2.1,())).bind fun w10=>some (0,w10.1))
def c4F:FSem:=⟨[.r false (.b Q1),.v QI,.v QL],[.v QI],a9n⟩
def e1e:Hints:=⟨[(58,[1,.sv 2 QL,7,.box pinned Q1,Qp 0 pinned],[Qe 0 [.box pinned Q1]])],[(6,[Qn [1,.sv 2 QL,.sv 17 .bool,.box pinned Q1,Qp 0 pinned]])],[]⟩
def a2Q(s:(LI×(Int×(Int×(LI×((LI×Unit)×Z22)))))):Option ((LI×(Int×(Int×(LI×((LI×Unit)×Z22))))) ⊕ Z9):=(fun(a:LI)(b c:Int)(d:LI)(e:LI×Unit)(f:Z5)=>cond (decide (c<(d.length:Int))) (cond ((decide (0≤c))&&(decide (c<(d.length:Int)))) (cond ((decide (0≤(wrap .i64 (b+(a04 d (a00 c) 0)))))&&(decide ((wrap .i64 (b+(a04 d (a00 c) 0)))≤(a.length:Int)))) (cond ((decide (0≤b))&&(decide (b≤((a00 (wrap .i64 (b+(a04 d (a00 c) 0))):Nat):Int)))) ((m0k f.2.1 c).bind fun x4=>(a0I (e,wrap .u64 x4,5)).bind fun y5=>(show Option (LI×(Int×(Int×(LI×((LI×Unit)×Z22)))))from(m0k f.2.1 c).bind fun x6=>cond (x6==31) ((a5J (a09 (a00 b) (a06 (a00 (wrap .i64 (b+(a04 d (a00 c) 0)))) a))).bind fun y7=>(a0I (y5.2,wrap .u64 y7,5)).bind fun y8=>(a2j (y8.2,a09 (a00 b) (a06 (a00 (wrap .i64 (b+(a04 d (a00 c) 0)))) a),y7)).bind fun y9=>some (a,b,c,d,y9,f,())) ((m0k f.2.1 c).bind fun x10=>(a9n (y5.2,x10,a09 (a00 b) (a06 (a00 (wrap .i64 (b+(a04 d (a00 c) 0)))) a))).bind fun y11=>some (a,b,c,d,y11.2,f,()))).bind fun z12=>cond ((decide (0≤z12.2.2.1))&&(decide (z12.2.2.1<(z12.2.2.2.1.length:Int)))) (some (.inl (z12.1,wrap .i64 (z12.2.1+(a04 z12.2.2.2.1 (a00 z12.2.2.1) 0)),wrap .i64 (z12.2.2.1+1),z12.2.2.2.1,z12.2.2.2.2.1,z12.2.2.2.2.2.1,()))) none) none) none) none) (some (.inr (e,())))) s.1 s.2.1 s.2.2.1 s.2.2.2.1 s.2.2.2.2.1 s.2.2.2.2.2.1
def a8u(x:((LI×Unit)×Z74)):Option Z5:=(a7C (x.2.1,x.2.2.1,x.2.2.2.1,x.2.2.2.2)).bind fun y1=>cond (y1==0) (some (1,x.1)) ((a0I (x.1,wrap .u64 x.2.1.1,4)).bind fun y2=>(a3n (x.2.1.1,x.2.2.1,x.2.2.2.1)).bind fun y3=>(y0s a2Q (x.2.2.2.2,0,0,y3,y2.2,x.2.1,())).bind fun w13=>some (0,w13.1))
def c3p:FSem:=⟨[.r false (.b Q1),.v Q12,.v QI,.v QI,.v QL],[.v QI],a8u⟩
def e1f:Hints:=⟨[(250,[.sv 4 QL,12,13,.own 11 11 QI,.box pinned Q1,Qp 0 pinned,.vp 6 Q12],[Qe 0 [.box pinned Q1]])],[(16019,[Qn [.sv 4 QL,12,13,.own 11 11 QI,.box pinned Q1,Qp 0 pinned,.vp 6 Q12]])],[]⟩
def a6J(s:(Int×c7x)):Option ((Int×c7x) ⊕ c7x):=(fun(a:Int)(b:LI×Unit)(c:a1b)=>cond (decide (a<(c.2.2.2.2.2.2.2.1.length:Int))) ((m0k c.2.2.2.2.2.2.2.1 a).bind fun x12=>(a0I (b,wrap .u64 (wrap .i64 (x12.1-1)),5)).bind fun y13=>(m0k c.2.2.2.2.2.2.2.1 a).bind fun x14=>(a0I (y13.2,wrap .u64 x14.2.1,4)).bind fun y15=>some (.inl (s.1,s.2.1,wrap .i64 (a+1),y15.2,c,()))) (some (.inr (s.1,s.2.1,b,c,())))) s.2.2.1 s.2.2.2.1 s.2.2.2.2.1
def a6Y(x:((LI×Unit)×a8C)):Option Z5:=(a9l (x.2.1,x.2.2)).bind fun y1=>cond (!y1) (some (1,x.1)) ((a5J x.2.1.2.2.2.2.2.2.2.2.1).bind fun y2=>(a0I (x.1,wrap .u64 x.2.1.1,3)).bind fun y3=>(a0I (y3.2,wrap .u64 x.2.1.2.1,5)).bind fun y4=>(a0I (y4.2,wrap .u64 y2,5)).bind fun y5=>(show Option c7x from cond (x.2.1.1==2) ((a0I (y5.2,wrap .u64 x.2.1.2.2.1,3)).bind fun y6=>some (x.2.2,y2,y6.2,x.2.1,())) (cond (x.2.1.1==3) ((a4L (y5.2,x.2.1)).bind fun y7=>some (x.2.2,y2,y7,x.2.1,())) (cond (x.2.1.1==4) ((a0I (y5.2,wrap .u64 (wrap .i64 (x.2.1.2.2.2.2.1-1)),10)).bind fun y8=>(a2j (y8.2,a06 3 x.2.1.2.2.2.2.2.2.1,8)).bind fun y9=>(a4L (y9,x.2.1)).bind fun y10=>some (x.2.2,y2,y10,x.2.1,())) (cond (x.2.1.1==5) ((a0I (y5.2,wrap .u64 (x.2.1.2.2.2.2.2.2.2.1.length:Int),2)).bind fun y11=>(y0s a6J (x.2.2,y2,0,y11.2,x.2.1,())).bind fun w16=>some (w16.1,w16.2.1,w16.2.2.1,w16.2.2.2.1,())) (some (x.2.2,y2,y5.2,x.2.1,())))))).bind fun z17=>(a2j (z17.2.2.1,z17.2.2.2.1.2.2.2.2.2.2.2.2.1,z17.2.1)).bind fun y18=>(a6f z17.2.2.2.1.1).bind fun y19=>cond y19 ((a8u (y18,z17.2.2.2.1.2.2.2.2.2.2.2.2.2.1,z17.1,(z17.2.2.2.1.2.2.2.2.2.2.2.2.1.length:Int),z17.2.2.2.1.2.2.2.2.2.2.2.2.2.2.1)).bind fun y20=>some (0,y20.2)) (some (0,y18)))
def c4G:FSem:=⟨[.r false (.b Q1),.v Q43,.v QI],[.v QI],a6Y⟩
def H68:Hints:=⟨[(2086902,[2,7,8,.box pinned Q1,Qp 0 pinned,.vp 4 Q43],[Qe 1 [2,7,.box pinned Q1,Qp 0 pinned,.vp 4 Q43]])],[(127,[Qn [2,7,.box pinned Q1,Qp 0 pinned,.vp 4 Q43]])],[]⟩
def a5K(s:Z49):Option (Z49 ⊕ Z49):=(fun(a:Int)(b:LI)=>cond (decide (a≥128)) (cond (lim ((a01 b)+1)) (some (.inl (s.1,s.2.1,A0o .u64 a 7,a03 b [wrap .u8 (bits .u64 .or (bits .u64 .and a 127) 128)],()))) none) (some (.inr (s.1,s.2.1,a,b,())))) s.2.2.1 s.2.2.2.1
def a5L(s:Z31):Option (Z31 ⊕ (LI×Unit)):=cond (decide (s.2.1<(s.1.length:Int))) ((m0k s.1 s.2.1).bind fun x1=>(y0s a5K (s.1,s.2.1,x1,s.2.2.1,())).bind fun w2=>cond (lim ((a01 w2.2.2.2.1)+1)) (some (.inl (w2.1,wrap .i64 (w2.2.1+1),a03 w2.2.2.2.1 [wrap .u8 w2.2.2.1],()))) none) (some (.inr (s.2.2.1,())))
def a1w(x:LI):Option LI:=(y0s a5L (x,0,[],())).bind fun w3=>some w3.1
def c3q:FSem:=⟨[.v (.list false QU)],[.o QV],a1w⟩
def H90:Hints:=⟨[(58,[.sv 0 (.list false QU),4,.own 3 3 QV],[Qe 0 [.own 3 3 QV]]),(7460,[.sv 0 (.list false QU),4,.sv 5 QU,.own 3 3 QV],[Qe 2 [.sv 0 (.list false QU),4,.sv 5 QU,.own 3 3 QV]])],[],[]⟩
def a8v(s:(Int×(Int×(LI×a8S)))):Option ((Int×(Int×(LI×a8S))) ⊕ Z5):=(fun(a:Int)(b:LI)(c:a1v)=>cond (decide (a<(c.2.2.2.1.length:Int))) ((m0k c.2.2.2.1 a).bind fun x2=>(a9M x2.2.2.1).bind fun y3=>(a1w [wrap .u64 x2.1,wrap .u64 x2.2.1,y3]).bind fun y4=>cond (lim ((a01 b)+(a01 y4))) (some (.inl (s.1,wrap .i64 (a+1),a03 b y4,c,()))) none) (some (.inr (s.1,b,())))) s.2.1 s.2.2.1 s.2.2.2.1
def b1y(x:c7y):Option LI:=(a1w ([wrap .u64 x.1.1,wrap .u64 x.1.2.1,wrap .u64 x.1.2.2.1.1,wrap .u64 x.1.2.2.1.2.1,wrap .u64 x.1.2.2.1.2.2.1,wrap .u64 (x.1.2.2.2.1.length:Int)]:List Int)).bind fun y1=>(y0s a8v (x.2,0,y1,x.1,())).bind fun w5=>(a1w [wrap .u64 w5.1]).bind fun y6=>cond (lim ((a01 w5.2.1)+(a01 y6))) (cond (lim (2+(a01 (a03 w5.2.1 y6)))) (some (a03 [245,75] (a03 w5.2.1 y6))) none) none
def c8b:FSem:=⟨[.v Q61,.v QI],[.o QV],b1y⟩
def H69:Hints:=⟨[(58,[1,6,.own 5 5 QV,.vp 2 Q61],[Qe 0 [1,.own 5 5 QV]])],[],[(6,[.q,.q,.q,.v,.q,.q,.v,.q,.q,.v,.q,.q,.x,.x])]⟩
def a3A(s:(Int×(LI×Z9))):Option ((Int×(LI×Z9)) ⊕ (LI×Z9)):=(fun(a:Int)(b:LI)(c:LI×Unit)=>cond (decide (a<(c.1.length:Int))) (cond ((decide (0≤(wrap .i64 (a07 a 8))))&&(decide ((wrap .i64 (a07 a 8))<(b.length:Int)))) (cond ((decide (0≤a))&&(decide (a<(c.1.length:Int)))) (cond (decide ((wrap .u64 (wrap .i64 (7-(a08 a 8))))<0)) none (cond ((decide (0≤(wrap .i64 (a07 a 8))))&&(decide ((wrap .i64 (a07 a 8))<(b.length:Int)))) (some (.inl (wrap .i64 (a+1),a05 b (a00 (wrap .i64 (a07 a 8))) (bits .u8 .or (a04 b (a00 (wrap .i64 (a07 a 8))) 0) (A0n .u8 (a04 c.1 (a00 a) 0) (wrap .u64 (wrap .i64 (7-(a08 a 8)))))),c,()))) none)) none) none) (some (.inr (b,c,())))) s.1 s.2.1 s.2.2.1
def a5k(x:(LI×Unit)):Option Z15:=cond ((decide (0≤(wrap .i64 (a07 (wrap .i64 ((x.1.length:Int)+7)) 8))))&&((decide ((wrap .i64 (a07 (wrap .i64 ((x.1.length:Int)+7)) 8))≤(wrap .i64 (a07 (wrap .i64 ((x.1.length:Int)+7)) 8))))&&(lim (a00 (wrap .i64 (a07 (wrap .i64 ((x.1.length:Int)+7)) 8)))))) ((y0s a3A (0,a02 (a00 (wrap .i64 (a07 (wrap .i64 ((x.1.length:Int)+7)) 8))) 0,x,())).bind fun w1=>some (w1.1,w1.2.1)) none
def b6H:FSem:=⟨[.r false (.b Q1)],[.o QV],a5k⟩
def H70:Hints:=⟨[(58,[4,.own 3 3 QV,.box pinned Q1,Qp 0 pinned],[Qe 0 [.own 3 3 QV,.box pinned Q1]])],[],[(5,[.q,.v,.v,.q,.v,.v,.q,.q,.p,.p,.q,.q,.v,.q,.q,.v,.v,.v,.v,.v,.v,.x,.x])]⟩
def a4W(s:Z19):Option (Z19 ⊕ (LI×Unit)):=cond (decide (s.2.1≥0)) (cond (decide ((wrap .u64 (wrap .i64 (8*s.2.1)))<0)) none (cond (lim ((a01 s.2.2.1)+1)) (some (.inl (s.1,wrap .i64 (s.2.1-1),a03 s.2.2.1 [wrap .u8 (A0o .u64 s.1 (wrap .u64 (wrap .i64 (8*s.2.1))))],()))) none)) (some (.inr (s.2.2.1,())))
def a4X(x:(Int×Int)):Option LI:=(y0s a4W (x.1,wrap .i64 ((v0r (v0s x.2 8) 0)-1),[],())).bind fun w1=>some w1.1
def d1k:FSem:=⟨[.v QU,.v QI],[.o QV],a4X⟩
def H92:Hints:=⟨[(58,[.sv 0 QU,6,.own 5 5 QV],[Qe 0 [.own 5 5 QV]])],[],[]⟩
def a7D(x:a1v):Option Bool:=(a2h x).bind fun y1=>some y1.2
def c1q:FSem:=⟨[.v Q61],[.v .bool],a7D⟩
def b1h(s:Z37):Option (Z37 ⊕ Z18):=(fun(a b c:Int)=>cond (decide (c<8)) (cond (decide (a≥128)) (some (.inl (s.1,bits .u8 .xor (A0n .u8 a 1) 7,b,wrap .i64 (c+1),()))) (some (.inl (s.1,A0n .u8 a 1,b,wrap .i64 (c+1),())))) (some (.inr (s.1,a,b,())))) s.2.1 s.2.2.1 s.2.2.2.1
def a8w(s:Z18):Option Z68:=cond (decide (s.2.2.1<(s.1.length:Int))) ((m0k s.1 s.2.2.1).bind fun x1=>(y0s b1h (s.1,bits .u8 .xor s.2.1 x1,s.2.2.1,0,())).bind fun w2=>some (.inl (w2.1,w2.2.1,wrap .i64 (w2.2.2.1+1),()))) (some (.inr (s.2.1,())))
def b1z(x:LI):Option Int:=(y0s a8w (x,0,0,())).bind fun w3=>some w3.1
def c8c:FSem:=⟨[.v QB],[.v QV],b1z⟩
def e1g:Hints:=⟨[(58,[.sv 0 QB,.sv 3 QV,4],[Qe 0 [.sv 3 QV]]),(7462,[.sv 0 QB,.sv 3 QV,4,5],[Qe 2 [.sv 0 QB,.sv 3 QV,4]])],[],[]⟩
def a9o(s:Z37):Option (Z37 ⊕ Z18):=(fun(a b c:Int)=>cond (decide (c<8)) (cond (decide (a≥32768)) (some (.inl (s.1,bits .u16 .xor (A0n .u16 a 1) 32773,b,wrap .i64 (c+1),()))) (some (.inl (s.1,A0n .u16 a 1,b,wrap .i64 (c+1),())))) (some (.inr (s.1,a,b,())))) s.2.1 s.2.2.1 s.2.2.2.1
def a6K(s:Z18):Option Z68:=cond (decide (s.2.2.1<(s.1.length:Int))) ((m0k s.1 s.2.2.1).bind fun x1=>(y0s a9o (s.1,bits .u16 .xor s.2.1 (A0n .u16 (wrap .u16 x1) 8),s.2.2.1,0,())).bind fun w2=>some (.inl (w2.1,w2.2.1,wrap .i64 (w2.2.2.1+1),()))) (some (.inr (s.2.1,())))
def a9p(x:LI):Option Int:=(y0s a6K (x,0,0,())).bind fun w3=>some w3.1
def c4H:FSem:=⟨[.v QB],[.v (.int .u16)],a9p⟩
def e1h:Hints:=⟨[(58,[.sv 0 QB,.sv 3 (.int .u16),4],[Qe 0 [.sv 3 (.int .u16)]]),(7462,[.sv 0 QB,.sv 3 (.int .u16),4,5],[Qe 2 [.sv 0 QB,.sv 3 (.int .u16),4]])],[],[]⟩
def a5l(s:(Int×((LI×Unit)×a8S))):Option ((Int×((LI×Unit)×a8S)) ⊕ ((LI×Unit)×a8S)):=(fun(a:a1v)=>cond (decide (s.1<(a.2.2.2.2.1.length:Int))) ((m0k a.2.2.2.2.1 s.1).bind fun x2=>(a6Y (s.2.1,x2,a.2.1)).bind fun y3=>some (.inl (wrap .i64 (s.1+1),y3.2,a,()))) (some (.inr (s.2.1,a,())))) s.2.2.1
def a1A(x:a1v):Option (LI×Int):=(a7D x).bind fun y1=>cond (!y1) (some ([],1)) ((y0s a5l (0,([],()),x,())).bind fun w4=>(a5k w4.1).bind fun y5=>(b1y (w4.2.1,(y5.1.length:Int))).bind fun y6=>(b1z y6).bind fun y7=>cond (lim ((a01 y6)+1)) (cond (lim ((a01 (a03 y6 [y7]))+(a01 y5.1))) ((a9p (a03 (a03 y6 [y7]) y5.1)).bind fun y8=>(a4X (wrap .u64 y8,2)).bind fun y9=>cond (lim ((a01 (a03 (a03 y6 [y7]) y5.1))+(a01 y9))) (some (a03 (a03 (a03 y6 [y7]) y5.1) y9,0)) none) none) none)
def c1r:FSem:=⟨[.v Q61],[.o QV,.v QI],a1A⟩
def H91:Hints:=⟨[(122,[5,.box 12 Q1,.vp 1 Q61,Qp 4 12],[Qe 0 [.box 12 Q1,.vp 1 Q61,Qp 4 12]])],[],[(7,[.q,.v,.v,.v,.v,.v,.v,.v,.x])]⟩
def b2y(x:a4n):Option Int:=cond ((x.length:Int)==0) (some 0) ((m0k x (wrap .i64 ((x.length:Int)-1))).bind fun x1=>some (wrap .i64 (x1.1+x1.2.1)))
def c9C:FSem:=⟨[.v (.list false Q61)],[.v QI],b2y⟩
def b1A(x:Int):Option Bool:=cond (decide (x≥4)) (some (decide (x≤24))) (some false)
def c8d:FSem:=⟨[.v QI],[.v .bool],b1A⟩
def a8x(s:Z38):Option (Z38 ⊕ (LI×Unit)):=(fun(a:Int)(b:LI)=>cond (decide (a<s.2.1)) (cond (decide (a<8)) (cond (decide ((wrap .u64 (wrap .i64 (8*a)))<0)) none (cond (lim ((a01 b)+1)) (some (.inl (s.1,s.2.1,wrap .i64 (a+1),a03 b [wrap .u8 (A0o .u64 s.1 (wrap .u64 (wrap .i64 (8*a))))],()))) none)) (some (.inr (b,())))) (some (.inr (b,())))) s.2.2.1 s.2.2.2.1
def a9q(x:(Int×Int)):Option LI:=(y0s a8x (x.1,x.2,0,[],())).bind fun w1=>some w1.1
def c8e:FSem:=⟨[.v QU,.v QI],[.o QV],a9q⟩
end Go.Ab
namespace Go.Ab
open IntKind(wrap)
open Go.Proofs
set_option maxRecDepth 100000
set_option linter.unusedVariables false
def e1i:Hints:=⟨[(58,[.sv 0 QU,1,6,.own 5 5 QV],[Qe 0 [.own 5 5 QV]])],[],[]⟩
def a9r(s:Z49):Option (Z49 ⊕ Z57):=(fun(a:LI)(b c:Int)(d:LI)=>cond (decide (c<(a.length:Int))) ((m0k a c).bind fun x2=>(a6W (x2,b)).bind fun y3=>cond (!y3) (some (.inr (Sum.inr ((6,[],()))))) ((m0k a c).bind fun x4=>(a9q (wrap .u64 x4,wrap .i64 (a07 (wrap .i64 (b+7)) 8))).bind fun y5=>cond (lim ((a01 d)+(a01 y5))) (some (.inl (a,b,wrap .i64 (c+1),a03 d y5,()))) none)) (some (.inr (Sum.inl (d,()))))) s.1 s.2.1 s.2.2.1 s.2.2.2.1
def b2z(x:(LI×Int)):Option (LI×Int):=(b1A x.2).bind fun y1=>cond (!y1) (some ([],1)) ((y0s a9r (x.1,x.2,0,[],())).bind fun w6=>match w6 with |.inl a7=>some (a7.1,0) |.inr b8=>some (b8.2.1,b8.1))
def c9D:FSem:=⟨[.v QL,.v QI],[.o QV,.v QI],b2z⟩
def H41:Hints:=⟨[(122,[.sv 0 QL,1,7,.own 6 6 QV],[Qe 0 [.own 6 6 QV],Qr [5,.own 4 4 QV]])],[],[]⟩
def b0V(x:(Int×Int)):Option Int:=some (a08 (wrap .u64 (x.1+x.2)) 2305843009213693951)
def c9E:FSem:=⟨[.v QU,.v QU],[.v QU],b0V⟩
def b2A(x:Int):Option Int:=(b0V (a08 (wrap .u64 ((bits .u64 .and x 1099511627775)*1000003)) 2305843009213693951,a08 (wrap .u64 ((bits .u64 .and (A0n .u64 (wrap .u64 ((A0o .u64 x 40)*1000003)) 40) 2305843009213693951)+(A0o .u64 (wrap .u64 ((A0o .u64 x 40)*1000003)) 21))) 2305843009213693951)).bind fun y1=>some y1
def c9F:FSem:=⟨[.v QU],[.v QU],b2A⟩
def a8y(s:Z18):Option Z68:=cond (decide (s.2.2.1<(s.1.length:Int))) ((b2A s.2.1).bind fun y1=>(m0k s.1 s.2.2.1).bind fun x2=>(b0V (y1,wrap .u64 ((wrap .u64 x2)+1))).bind fun y3=>some (.inl (s.1,y3,wrap .i64 (s.2.2.1+1),()))) (some (.inr (s.2.1,())))
def b1B(x:LI):Option Int:=(y0s a8y (x,0,0,())).bind fun w4=>some w4.1
def c8f:FSem:=⟨[.v QB],[.v QU],b1B⟩
def e1j:Hints:=⟨[(58,[.sv 0 QB,.sv 3 QU,4],[Qe 0 [.sv 3 QU]])],[],[(5,[.v,.v,.v,.v,.v,.v,.v,.v,.x,.x])]⟩
def a8z(x:(LI×Int)):Option Int:=(b2z (x.1,x.2)).bind fun y1=>(b1B y1.1).bind fun y2=>some y2
def c3s:FSem:=⟨[.v QL,.v QI],[.v QU],a8z⟩
def a2R(s:(a4n×Int×Int×Int×c7J)):Option ((a4n×Int×Int×Int×c7J) ⊕ ((a4n×c7J) ⊕ (Bool×a9K))):=(fun(a:a4n)(b c d:Int)(e f:a2Y)(g:Z7)=>cond (decide (d<(a.length:Int))) ((m0k a d).bind fun x4=>(a1A x4).bind fun y5=>(show Option (a4n×(Int×(Int×(Int×(Bool×(LI×c7J))))))from cond (y5.2 != 0) (some (a,b,c,d,true,y5.1,e,f,g,())) ((m0k a d).bind fun x6=>cond (!(eqT Q13 x6.2.2.1 g)) (some (a,b,c,d,true,y5.1,e,f,g,())) ((m0k a d).bind fun x7=>some (a,b,c,d,x7.1 != b,y5.1,e,f,g,())))).bind fun z8=>cond z8.2.2.2.2.1 (some (.inr (Sum.inr ((false,((0,0,0,()),0,0,[],[],()),()))))) (cond (lim ((a01 z8.2.2.2.2.2.2.2.1.2.2.2.1)+1)) ((m0k z8.1 z8.2.2.2.1).bind fun x9=>some (.inl (z8.1,wrap .i64 (z8.2.1+x9.2.1),wrap .i64 (z8.2.2.1+(z8.2.2.2.2.2.1.length:Int)),wrap .i64 (z8.2.2.2.1+1),z8.2.2.2.2.2.2.1,(z8.2.2.2.2.2.2.2.1.1,z8.2.2.2.2.2.2.2.1.2.1,z8.2.2.2.2.2.2.2.1.2.2.1,a03 z8.2.2.2.2.2.2.2.1.2.2.2.1 ([(z8.2.1,z8.2.2.1,())]:List (Int×Int×Unit)),z8.2.2.2.2.2.2.2.1.2.2.2.2),z8.2.2.2.2.2.2.2.2.1,()))) none)) (some (.inr (Sum.inl (a,e,f,g,()))))) s.1 s.2.1 s.2.2.1 s.2.2.2.1 s.2.2.2.2.1 s.2.2.2.2.2.1 s.2.2.2.2.2.2.1
def b0N(x:(Z7×a4n)):Option (a2Y×Bool):=(show Option (a4n×Bool×c7F)from(a8g x.1).bind fun y1=>cond (!y1) (some (x.2,true,((0,0,0,()),0,0,[],[],()),x.1,())) (some (x.2,decide ((x.2.length:Int) > 4096),((0,0,0,()),0,0,[],[],()),x.1,()))).bind fun z2=>cond z2.2.1 (some (((0,0,0,()),0,0,[],[],()),false)) ((b2y z2.1).bind fun y3=>(y0s a2R (z2.1,0,0,0,z2.2.2.1,(z2.2.2.2.1,y3,0,[],z2.1,()),z2.2.2.2.1,())).bind fun w10=>match w10 with |.inl a11=>((a8i a11.1).bind fun y13=>(a8z (y13.1,a11.2.2.2.1.2.2.1)).bind fun y14=>some ((a11.2.2.1.1,a11.2.2.1.2.1,y14,a11.2.2.1.2.2.2),true)) |.inr b12=>some (b12.2.1,b12.1))
def c6t:FSem:=⟨[.v Q13,.v (.list false Q61)],[.v Q79,.v .bool],b0N⟩
def H94:Hints:=⟨[(250,[.sv 1 (.list false Q61),7,8,9,.box 4 Q79,.box 6 Q78,.vp 2 Q13,Qp 4 4,Qp 6 6],[Qe 0 [.sv 1 (.list false Q61),.box 4 Q79,.box 6 Q78,.vp 2 Q13,Qp 4 4,Qp 6 6],Qr [.sv 5 .bool,.box 4 Q79,Qp 4 4]])],[(6,[Qn [.sv 1 (.list false Q61),.sv 21 .bool,.box 4 Q79,.vp 2 Q13,Qp 4 4]]),(16018,[Qn [.sv 1 (.list false Q61),7,8,9,.sv 61 .bool,.own 10 10 QV,.box 4 Q79,.box 6 Q78,.vp 2 Q13,Qp 4 4,Qp 6 6]])],[(3,[.v,.v,.v,.v,.v,.q,.x]),(9,[.x,.x,.x,.v,.v,.v,.v,.v,.v,.x,.x,.x,.v,.v,.v,.v,.v,.v,.x,.x])]⟩
def a3Q(x:a2Y):Option Bool:=(b0N (x.1,x.2.2.2.2.1)).bind fun y1=>cond y1.2 ((a6C (x,y1.1)).bind fun y2=>some y2) (some false)
def c1s:FSem:=⟨[.v Q79],[.v .bool],a3Q⟩
def a4N(x:a2Y):Option (LI×Int):=(a3Q x).bind fun y1=>cond (!y1) (some ([],1)) ((a8i x.2.2.2.2.1).bind fun y2=>some (y2.1,0))
def b5k:FSem:=⟨[.v Q79],[.o QI,.v QI],a4N⟩
def a7S(s:Z37):Option (Z37 ⊕ Z18):=(fun(a b c:Int)=>cond (decide (c<8)) (cond ((bits .u32 .and a 1)==1) (some (.inl (s.1,bits .u32 .xor (A0o .u32 a 1) 3988292384,b,wrap .i64 (c+1),()))) (some (.inl (s.1,A0o .u32 a 1,b,wrap .i64 (c+1),())))) (some (.inr (s.1,a,b,())))) s.2.1 s.2.2.1 s.2.2.2.1
def a5m(s:Z18):Option Z68:=cond (decide (s.2.2.1<(s.1.length:Int))) ((m0k s.1 s.2.2.1).bind fun x1=>(y0s a7S (s.1,bits .u32 .xor s.2.1 (wrap .u32 x1),s.2.2.1,0,())).bind fun w2=>some (.inl (w2.1,w2.2.1,wrap .i64 (w2.2.2.1+1),()))) (some (.inr (s.2.1,())))
def a7E(x:LI):Option Int:=(y0s a5m (x,4294967295,0,())).bind fun w3=>some (bits .u32 .xor (IntKind.max .u32) w3.1)
def c1t:FSem:=⟨[.v QB],[.v (.int .u32)],a7E⟩
def H93:Hints:=⟨[(58,[.sv 0 QB,.sv 3 (.int .u32),4],[Qe 0 [.sv 3 (.int .u32)]]),(7462,[.sv 0 QB,.sv 3 (.int .u32),4,5],[Qe 2 [.sv 0 QB,.sv 3 (.int .u32),4]])],[],[]⟩
def a5n(s:(Int×(LI×c0F))):Option ((Int×(LI×c0F)) ⊕ (LI×c0F)):=(fun(a:Int)(b c:LI)(d:a2Y)=>cond (decide (a<(d.2.2.2.2.1.length:Int))) ((m0k d.2.2.2.2.1 a).bind fun x3=>(a1A x3).bind fun y4=>(m0k d.2.2.2.2.1 a).bind fun x5=>(a1w ([wrap .u64 (y4.1.length:Int),wrap .u64 x5.2.1]:List Int)).bind fun y6=>cond (lim ((a01 b)+(a01 y6))) (cond (lim ((a01 c)+(a01 y4.1))) (some (.inl (wrap .i64 (a+1),a03 b y6,a03 c y4.1,d,()))) none) none) (some (.inr (b,c,d,())))) s.1 s.2.1 s.2.2.1 s.2.2.2.1
def a7F(x:a2Y):Option (LI×Int):=(a3Q x).bind fun y1=>cond (!y1) (some ([],1)) ((a1w ([wrap .u64 x.1.1,wrap .u64 x.1.2.1,wrap .u64 x.1.2.2.1,wrap .u64 (x.2.2.2.2.1.length:Int)]:List Int)).bind fun y2=>cond (lim (4+(a01 y2))) ((y0s a5n (0,a03 [75,78,83,68] y2,[],x,())).bind fun w7=>(a4X (w7.2.2.1.2.2.1,8)).bind fun y8=>cond (lim ((a01 w7.1)+(a01 y8))) ((a7E (a03 w7.1 y8)).bind fun y9=>(a4X (wrap .u64 y9,4)).bind fun y10=>cond (lim ((a01 (a03 w7.1 y8))+(a01 y10))) (cond (lim ((a01 (a03 (a03 w7.1 y8) y10))+(a01 w7.2.1))) (some (a03 (a03 (a03 w7.1 y8) y10) w7.2.1,0)) none) none) none) none)
def c1u:FSem:=⟨[.v Q79],[.o QV,.v QI],a7F⟩
def H30:Hints:=⟨[(250,[6,.own 4 4 QV,.own 5 5 QV,.vp 1 Q79],[Qe 0 [.own 4 4 QV,.own 5 5 QV,.vp 1 Q79]])],[],[]⟩
def a1H(s:c7E):Option (c7E ⊕ (Unit ⊕ (Int×Int×Unit))):=(fun(a b:Int)(c:a2Y)=>cond (decide (b<(c.2.2.2.2.1.length:Int))) ((m0k c.2.2.2.2.1 b).bind fun x1=>(show Option (Int×Int×Bool×a9K)from cond (decide (x1.2.1 > 0)) (cond (decide (a≥x1.1)) (some (a,b,decide ((wrap .u64 ((wrap .u64 a)-(wrap .u64 x1.1)))<(wrap .u64 x1.2.1)),c,())) (some (a,b,false,c,()))) (some (a,b,false,c,()))).bind fun z2=>cond z2.2.2.1 (some (.inr (Sum.inr ((z2.2.1,0,()))))) (some (.inl (z2.1,wrap .i64 (z2.2.1+1),z2.2.2.2.1,())))) (some (.inr (Sum.inl ())))) s.1 s.2.1 s.2.2.1
def a6L(x:c7D):Option (Int×Int):=(y0s a1H (x.2,0,x.1,())).bind fun w3=>match w3 with |.inl a4=>some (0,6) |.inr b5=>some (b5.1,b5.2.1)
def b8W:FSem:=⟨[.v Q79,.v QI],[.v QI,.v QI],a6L⟩
def H32:Hints:=⟨[(26,[1,6,.vp 2 Q79],[Qe 0 [],Qr [4,5]])],[(841,[Qn [1,6,.sv 40 .bool,.vp 2 Q79]])],[]⟩
def b0O(x:a2Y):Option Bool:=(a3E x).bind fun y1=>some y1.2.2
def c6u:FSem:=⟨[.v Q79],[.v .bool],b0O⟩
def b2B(x:(LI×LI)):Option Bool:=some ((b2s x.1)==(b2s x.2))
def c9G:FSem:=⟨[.v QB,.v QB],[.v .bool],b2B⟩
def a1X(s:c7E):Option (c7E ⊕ (d1d ⊕ (Bool×Unit))):=cond (decide (s.2.1<(s.2.2.1.2.2.2.2.1.length:Int))) ((m0k s.2.2.1.2.2.2.2.1 s.2.1).bind fun x3=>(b0J (x3,40)).bind fun y4=>cond (!y4) (some (.inr (Sum.inr ((true,()))))) (some (.inl (s.1,wrap .i64 (s.2.1+1),s.2.2.1,())))) (some (.inr (Sum.inl (s.1,s.2.2.1,()))))
def a8E(x:c7D):Option Bool:=(b2Y ()).bind fun y1=>cond (!y1) (some false) ((show Option (Int×Bool×a9K)from cond (decide ((x.1.2.2.2.2.1.length:Int) > 6)) (some (x.2,true,x.1,())) (some (x.2,decide ((x.1.2.2.2.1.length:Int) > 10),x.1,()))).bind fun z2=>cond z2.2.1 (some true) ((y0s a1X (z2.1,0,z2.2.2.1,())).bind fun w5=>match w5 with |.inl a6=>((a2s a6.2.1).bind fun y8=>(a4N a6.2.1).bind fun y9=>(a4V a6.2.1).bind fun y10=>(a7F a6.2.1).bind fun y11=>(a6S (a6.2.1,a6.1)).bind fun y12=>(a6L (a6.2.1,a6.1)).bind fun y13=>(b0O a6.2.1).bind fun y14=>(a3Q a6.2.1).bind fun y15=>cond (y14==y15) ((a1L (y8.1,y9.1)).bind fun y16=>cond y16 (cond (y8.2==y9.2) ((b2B (y10.1,y11.1)).bind fun y17=>cond y17 (cond (y10.2==y11.2) (cond (y12.1==y13.1) (some (y12.2==y13.2)) (some false)) (some false)) (some false)) (some false)) (some false)) (some false)) |.inr b7=>some b7.1))
def a8F:FSem:=⟨[.v Q79,.v QI],[.v .bool],a8E⟩
def H6:Hints:=⟨[(122,[1,5,.vp 2 Q79],[Qe 0 [1,.vp 2 Q79],Qr [.sv 4 .bool]])],[(14,[Qn [1,.sv 29 .bool,.vp 2 Q79]])],[(16,[.v,.v,.v,.x,.x,.x,.q,.q,.x,.x,.x,.v,.v,.x,.x,.x,.q,.q,.x,.x,.x,.v,.v,.x,.x,.x,.v,.v,.x,.x,.x,.v,.v,.x,.x,.x])]⟩
end Go.Ab
