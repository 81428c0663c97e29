/- Part of the proof: It. Conditions: as each statement tells. -/
import Derived.RangeFuncBound
import Derived.RangeFuncCalls
import Derived.RangeFuncBox
import Derived.WalkKit
import Derived.OwnWalkIn
import Derived.TacticsInMore
import Derived.LoopNIn
import Derived.LoopIn
import Derived.Test.YtjoohiokfkdfpabGreatDoorProg
import Derived.KernelRfl
import Derived.Test.YtjoohiokfkdfpabGreatDoorMD
noncomputable section
set_option linter.unusedSimpArgs false
set_option linter.unusedVariables false
open Array renaming replicate_succ→a16,replicate_zero→a18
open Int renaming toNat→a00,tmod→a07,tdiv→a08
open List renaming length→a01,replicate→a02,getD→a03,append→a04,set→a05,take→a06,drop→a09,append_toArray→a19,cons_append→a20,size_toArray→a22,push_toArray→a23,length_nil→a24,nil_append→a25
open Nat renaming reduceAdd→a26,reduceSub→a27
open Option renaming getD_some→a28
namespace Go.Ab
open Go.Proofs Go.RowKit
attribute [local go_sem] Oper.semAt_some
set_option maxHeartbeats 1000000 in
theorem d0S:A0h Tryz.prog 340 361:=by
 refine⟨⟨_,_,Tryz.func340,rfl,by kernel_rfl⟩,fun A len cap w=>(callsIn_wide (n:=3)).1 ?_⟩
 refine callsIn_of_wp Tryz.func340 rfl trivial ?_
 simp only[Tryz.ntmps340,a22,lC,a24,a26,a27,a16,a18,a23,a19,a25,a20]
 gi_wp2
 go_ret
 exact⟨rfl,_,rfl⟩
@[reducible] def b0C:Ty:=.pair (.int .i64) (.pair (.int .i64) .unit)
set_option maxRecDepth 100000 in
set_option maxHeartbeats 2000000 in
theorem c8l (l Bs b off len cap:Nat) (p q:Nat→Int) (J:Nat→World→Prop) (Jx:World→Prop) (W:World)
  (hJ:∀k W',J k W'→W'.cell? ⟨Bs,0,none⟩=some (.slice (some ⟨b,off,none⟩) len cap))
  (hlen:len<2147483648)
  (hcs:∀k W',k<len→J (k+1) W'→W'.cell? ⟨b,off+k*2,none⟩=some (.int .i64 (p k))∧W'.cell? ⟨b,off+k*2+1,none⟩=some (.int .i64 (q k)))
  (hY:∀n W',n<len→J (n+1) W'→YieldAt (Fr none) 0 Tryz.prog l #[.int .i64 (n:Int),.agg #[.int .i64 (p n),.int .i64 (q n)]] W' fun en W''=>(en=.returned (.bool true)∧J n W'')∨(en=.returned (.bool false)∧Jx W''))
  (h0:J len W):
  CallsIn (Fr none) 0 Tryz.prog 361 #[.func (.yield l) #[] #[],.pointer (some ⟨Bs,0,none⟩)] W fun en W'=>(∃v,en=.returned v)∧(J 0 W'∨Jx W'):=by
 refine callsIn_of_wp Tryz.func361 rfl trivial ?_
 simp only[Tryz.ntmps361,a22,lC,a24,a26,a27,a16,a18,a23,a19,a25,a20]
 have hBs:=hJ _ _ h0
 gi_wp2
 gi_loopw [3] (fun i wr=>∃k:Nat,k≤len∧i=.int .i64 ((k:Int)-1)∧J k wr) (fun i _=>(intOf i+1).toNat)
 case atStart=>exact⟨len,Nat.le_refl _,rfl,h0⟩
 case round=>
  obtain⟨k,hk,rfl,hJs⟩:=hrel
  cases k with
  |succ n=>
   obtain⟨fn,tmps,assign,body,hy,hR⟩:=hY n wr (by omega) hJs
   have hcx:=hJ _ _ hJs
   obtain⟨hc0,hc1⟩:=hcs n wr (by omega) hJs
   gi_wp2
   refine hR.mono ?_
   rintro e W3 (⟨rfl,hJ3⟩|⟨rfl,hJx3⟩)
   ·gi_wp2
    go_roundw
    case rel=>exact⟨n,by omega,by simp,hJ3⟩
    case measure=>simp[intOf]
   ·gi_wp2
    refine bodyPost_ret (results_none rfl _ _ _) rfl ?_
    exact⟨⟨_,rfl⟩,.inr hJx3⟩
  |zero=>
   gi_wp2
   go_end0
   exact⟨⟨_,rfl⟩,.inl hJs⟩
set_option maxRecDepth 100000 in
set_option maxHeartbeats 2000000 in
theorem c7h (l Bs:Nat) (A:Option Addr) (c:Nat) (J:Nat→World→Prop) (W:World) (hBs:W.cell? ⟨Bs,0,none⟩=some (.slice A 0 c)) (h0:J 0 W):
  CallsIn (Fr none) 0 Tryz.prog 361 #[.func (.yield l) #[] #[],.pointer (some ⟨Bs,0,none⟩)] W fun en W'=>(∃v,en=.returned v)∧J 0 W':=by
 refine callsIn_of_wp Tryz.func361 rfl trivial ?_
 simp only[Tryz.ntmps361,a22,lC,a24,a26,a27,a16,a18,a23,a19,a25,a20]
 gi_wp2
 gi_loopw [3] (fun i wr=>i=.int .i64 (-1)∧J 0 wr) (fun _ _=>0)
 case atStart=>exact⟨rfl,h0⟩
 case round=>
  obtain⟨rfl,hJs⟩:=hrel
  gi_wp2
  go_end0
  exact⟨⟨_,rfl⟩,hJs⟩
theorem b9J{m:Mem}{Sh:Nat→Prop}{b o:Nat}{x:b0C.den}{R}(h:dec m b0C ((Src.at b o).rd m)=some (x,[],R)):
  m b o=some (.int .i64 x.1)∧m b (o+1)=some (.int .i64 x.2.1)∧VOk m Sh b0C x (.agg #[.int .i64 x.1,.int .i64 x.2.1]):=by
 obtain⟨p,q,u⟩:=x;simp only[b0C,dec,Src.rd,Ty.cells,Nat.add_zero]at h
 split at h
 cases h;rename_i r o1 j g
 split at g
 rename_i n c
 split at g
 rename_i e;subst e;simp only[sj]at g;obtain⟨rfl,rfl,rfl⟩:=g
 split at h
 cases h;rename_i s o2 r2 k
 split at k
 cases k;rename_i t i l f
 split at f
 rename_i d a
 split at f
 rename_i e;subst e;simp only[sj]at f k h;obtain⟨rfl,rfl,rfl⟩:=f;obtain⟨rfl,rfl,rfl⟩:=k;obtain⟨⟨rfl,rfl,rfl⟩,-,-⟩:=h;exact⟨c,a,fun _=>⟨_,rfl,rfl⟩,fun h=>(by cases h),[],rfl,by simp⟩;cases f;cases f;cases g;cases g
theorem b2X {P:Program} {f:FuncId} (hb:l0x P f) (args:Array Value) (w:World):(callFunc f args).run P w=.ok (.enter f args) w:=by
 obtain ⟨fn,c',h1,h2,h3⟩:=hb;have h4 : ¬ fn.name = "runtime.NumGoroutine" := by simpa using h3
 simp [callFunc,program,Sem.run,h1,h2,h4,Result.andThen]
theorem d0T:w0n Tryz.prog 361 b0C:=by
 refine⟨fun args w=>b2X ⟨_,_,Tryz.func361,rfl,by kernel_rfl⟩ args w,fun l Bs sv f J D W i t L o=>?_⟩;obtain⟨z,Sh,y⟩:=t _ _ o;obtain⟨A,n,c,rfl,rfl,N,v,j⟩:=y.header
 by_cases hx0:f.length=0
 rw[hx0]at o z;exact(c7h l Bs A c J W z o).mono fun e g h=>⟨h.1,.inl h.2⟩;cases A with
 |none=>have:=j rfl;omega
 |some A=>
  obtain⟨b,off,B⟩:=A
  have:=(v _ rfl).resolve_left (by omega)
  simp only at this;subst this;have u:∀k g,k<f.length→J (k+1) g→∃x,f[k]?=some x∧g.cell? ⟨b,off+k*2,none⟩=some (.int .i64 x.1)∧g.cell? ⟨b,off+k*2+1,none⟩=some (.int .i64 x.2.1):=by
   intro k g p d;obtain⟨-,a,hv⟩:=t _ _ d;obtain⟨C,O,E,R,e,F,G,H,s,I,K⟩:=hv.elem rfl (lG p);simp only[Value.slice.injEq,sj]at e;obtain⟨rfl,rfl,rfl⟩:=e;obtain⟨q,r,-⟩:=b9J (Sh:=a) s;exact⟨_,lG p,q,r⟩
  refine c8l l Bs b off f.length c (fun k=>((f[k]?).getD b0C.dflt).1) (fun k=>((f[k]?).getD b0C.dflt).2.1) J D W (fun k g d=>(t k g d).1) i (fun k g p d=>?_) (fun n g M d=>?_) o;obtain⟨x,m,q,r⟩:=u k g p d;simp only[m,a28];exact⟨q,r⟩;have m:f[n]?=some f[n]:=lG M;simp only[m,a28];refine L n _ _ g m d fun a hv=>?_
  obtain⟨C,O,E,R,e,F,G,H,s,I,K⟩:=hv.elem rfl m;exact(b9J (Sh:=a) s).2.2
set_option maxHeartbeats 1000000 in
theorem d0U:A0h Tryz.prog 226 295:=by
 refine⟨⟨_,_,Tryz.func226,rfl,by kernel_rfl⟩,fun A len cap w=>(callsIn_wide (n:=3)).1 ?_⟩
 refine callsIn_of_wp Tryz.func226 rfl trivial ?_
 simp only[Tryz.ntmps226,a22,lC,a24,a26,a27,a16,a18,a23,a19,a25,a20]
 gi_wp2
 go_ret
 exact⟨rfl,_,rfl⟩
@[reducible] def b2y:Ty:=.pair (.int .i64) (.pair (.int .i64) (.pair (.int .i64) .unit))
set_option maxRecDepth 100000 in
set_option maxHeartbeats 2000000 in
theorem c8m (l Bs b off len cap:Nat) (p q r:Nat→Int) (J:Nat→World→Prop) (Jx:World→Prop) (W:World)
  (hJ:∀k W',J k W'→W'.cell? ⟨Bs,0,none⟩=some (.slice (some ⟨b,off,none⟩) len cap))
  (hlen:len<2147483648)
  (hcs:∀k W',k<len→J (k+1) W'→W'.cell? ⟨b,off+k*3,none⟩=some (.int .i64 (p k))∧W'.cell? ⟨b,off+k*3+1,none⟩=some (.int .i64 (q k))∧W'.cell? ⟨b,off+k*3+2,none⟩=some (.int .i64 (r k)))
  (hY:∀n W',n<len→J (n+1) W'→YieldAt (Fr none) 0 Tryz.prog l #[.int .i64 (n:Int),.agg #[.int .i64 (p n),.int .i64 (q n),.int .i64 (r n)]] W' fun en W''=>(en=.returned (.bool true)∧J n W'')∨(en=.returned (.bool false)∧Jx W''))
  (h0:J len W):
  CallsIn (Fr none) 0 Tryz.prog 295 #[.func (.yield l) #[] #[],.pointer (some ⟨Bs,0,none⟩)] W fun en W'=>(∃v,en=.returned v)∧(J 0 W'∨Jx W'):=by
 refine callsIn_of_wp Tryz.func295 rfl trivial ?_
 simp only[Tryz.ntmps295,a22,lC,a24,a26,a27,a16,a18,a23,a19,a25,a20]
 have hBs:=hJ _ _ h0
 gi_wp2
 gi_loopw [3] (fun i wr=>∃k:Nat,k≤len∧i=.int .i64 ((k:Int)-1)∧J k wr) (fun i _=>(intOf i+1).toNat)
 case atStart=>exact⟨len,Nat.le_refl _,rfl,h0⟩
 case round=>
  obtain⟨k,hk,rfl,hJs⟩:=hrel
  cases k with
  |succ n=>
   obtain⟨fn,tmps,assign,body,hy,hR⟩:=hY n wr (by omega) hJs
   have hcx:=hJ _ _ hJs
   obtain⟨hc0,hc1,hc2⟩:=hcs n wr (by omega) hJs
   gi_wp2
   refine hR.mono ?_
   rintro e W3 (⟨rfl,hJ3⟩|⟨rfl,hJx3⟩)
   ·gi_wp2
    go_roundw
    case rel=>exact⟨n,by omega,by simp,hJ3⟩
    case measure=>simp[intOf]
   ·gi_wp2
    refine bodyPost_ret (results_none rfl _ _ _) rfl ?_
    exact⟨⟨_,rfl⟩,.inr hJx3⟩
  |zero=>
   gi_wp2
   go_end0
   exact⟨⟨_,rfl⟩,.inl hJs⟩
set_option maxRecDepth 100000 in
set_option maxHeartbeats 2000000 in
theorem c7i (l Bs:Nat) (A:Option Addr) (c:Nat) (J:Nat→World→Prop) (W:World) (hBs:W.cell? ⟨Bs,0,none⟩=some (.slice A 0 c)) (h0:J 0 W):
  CallsIn (Fr none) 0 Tryz.prog 295 #[.func (.yield l) #[] #[],.pointer (some ⟨Bs,0,none⟩)] W fun en W'=>(∃v,en=.returned v)∧J 0 W':=by
 refine callsIn_of_wp Tryz.func295 rfl trivial ?_
 simp only[Tryz.ntmps295,a22,lC,a24,a26,a27,a16,a18,a23,a19,a25,a20]
 gi_wp2
 gi_loopw [3] (fun i wr=>i=.int .i64 (-1)∧J 0 wr) (fun _ _=>0)
 case atStart=>exact⟨rfl,h0⟩
 case round=>
  obtain⟨rfl,hJs⟩:=hrel
  gi_wp2
  go_end0
  exact⟨⟨_,rfl⟩,hJs⟩
theorem b8q{m:Mem}{rd:Nat→Option Value}{x o r}(h:dec m (.int .i64) rd=some (x,o,r)):rd 0=some (.int .i64 x)∧o=[]∧r=[]:=by
 simp only[dec]at h
 split at h
 rename_i k n g
 split at h
 rename_i e;subst e;simp only[sj,pJ]at h;obtain⟨rfl,rfl,rfl⟩:=h;exact⟨g,rfl,rfl⟩;cases h;cases h
theorem b5X{m:Mem}{a b:Ty}{rd:Nat→Option Value}{x o r}(h:dec m (.pair a b) rd=some (x,o,r)):∃o1 g o2 r2,dec m a rd=some (x.1,o1,g)∧dec m b (fun j=>rd (a.cells+j))=some (x.2,o2,r2)∧o=o1++o2∧r=g++r2:=by
 simp only[dec]at h
 split at h
 cases h;rename_i c o1 g f
 split at h
 cases h;rename_i d o2 r2 k;simp only[sj,pJ]at h;obtain⟨rfl,rfl,rfl⟩:=h;exact⟨_,_,_,_,f,k,rfl,rfl⟩
theorem c1S{m:Mem}{Sh:Nat→Prop}{b o:Nat}{x:b2y.den}{R}(h:dec m b2y ((Src.at b o).rd m)=some (x,[],R)):
  m b o=some (.int .i64 x.1)∧m b (o+1)=some (.int .i64 x.2.1)∧m b (o+2)=some (.int .i64 x.2.2.1)∧VOk m Sh b2y x (.agg #[.int .i64 x.1,.int .i64 x.2.1,.int .i64 x.2.2.1]):=by
 obtain⟨_,_,_,_,g,f,-,-⟩:=b5X h;obtain⟨_,_,_,_,k,a,-,-⟩:=b5X f;obtain⟨_,_,_,_,c,-,-,-⟩:=b5X a;exact⟨(b8q g).1,(b8q k).1,(b8q c).1,fun _=>⟨_,rfl,rfl⟩,fun h=>(by cases h),[],rfl,by simp⟩
theorem d0V:w0n Tryz.prog 295 b2y:=by
 refine⟨fun args w=>b2X ⟨_,_,Tryz.func295,rfl,by kernel_rfl⟩ args w,fun l Bs sv f J E W i u M o=>?_⟩;obtain⟨B,Sh,z⟩:=u _ _ o;obtain⟨A,n,c,rfl,rfl,O,y,j⟩:=z.header
 by_cases hx0:f.length=0
 rw[hx0]at o B;exact(c7i l Bs A c J W B o).mono fun e g h=>⟨h.1,.inl h.2⟩;cases A with
 |none=>have:=j rfl;omega
 |some A=>
  obtain⟨b,off,C⟩:=A
  have:=(y _ rfl).resolve_left (by omega)
  simp only at this;subst this;have v:∀k g,k<f.length→J (k+1) g→∃x,f[k]?=some x∧g.cell? ⟨b,off+k*3,none⟩=some (.int .i64 x.1)∧g.cell? ⟨b,off+k*3+1,none⟩=some (.int .i64 x.2.1)∧g.cell? ⟨b,off+k*3+2,none⟩=some (.int .i64 x.2.2.1):=by
   intro k g p d;obtain⟨-,a,hv⟩:=u _ _ d;obtain⟨D,P,F,R,e,G,H,I,t,K,L⟩:=hv.elem rfl (lG p);simp only[Value.slice.injEq,sj]at e;obtain⟨rfl,rfl,rfl⟩:=e;obtain⟨q,r,s,-⟩:=c1S (Sh:=a) t;exact⟨_,lG p,q,r,s⟩
  refine c8m l Bs b off f.length c (fun k=>((f[k]?).getD b2y.dflt).1) (fun k=>((f[k]?).getD b2y.dflt).2.1) (fun k=>((f[k]?).getD b2y.dflt).2.2.1) J E W (fun k g d=>(u k g d).1) i (fun k g p d=>?_) (fun n g N d=>?_) o;obtain⟨x,m,q,r,s⟩:=v k g p d;simp only[m,a28];exact⟨q,r,s⟩;have m:f[n]?=some f[n]:=lG N;simp only[m,a28];refine M n _ _ g m d fun a hv=>?_
  obtain⟨D,P,F,R,e,G,H,I,t,K,L⟩:=hv.elem rfl m;exact(c1S (Sh:=a) t).2.2.2
end Go.Ab
namespace Go.Ab
open IntKind(wrap)
open Go.Proofs
set_option maxRecDepth 100000
set_option linter.unusedVariables false
@[reducible] def QI:Ty:=.int .i64
@[reducible] def QL:Ty:=.list false QI
@[reducible] def QU:Ty:=.int .u64
@[reducible] def QV:Ty:=.int .u8
@[reducible] def QB:Ty:=.list false QV
@[reducible] def LI:Type:=List Int
instance (n:Nat):OfNat Ent n:=⟨.sv n QI⟩
@[reducible] def Qp(i n:Nat):Ent:=.ptr i n []
@[reducible] def Qn(l:a0c):Ex×a0c:=(.normal,l)
@[reducible] def Qe(n:Nat)(l:a0c):Ex×a0c:=(.exit n,l)
@[reducible] def Qr(l:a0c):Ex×a0c:=(.ret,l)
def QH:Hints:=⟨[],[],[]⟩
@[reducible] def Z0:Type:=(Unit ⊕ (Bool×Unit))
@[reducible] def Z1:Type:=((List LI)×Unit)
@[reducible] def Z2:Type:=(Int×(Int×LI))
@[reducible] def Z3:Type:=(LI×(Int×Int))
@[reducible] def Z4:Type:=(List (Int×(Int×Unit)))
@[reducible] def Z5:Type:=(Int×(LI×Unit))
@[reducible] def Z6:Type:=(LI×(Int×Unit))
@[reducible] def Z7:Type:=(Int×(Int×(Int×Unit)))
@[reducible] def Z8:Type:=(Bool×(LI×Unit))
@[reducible] def Z9:Type:=((LI×Unit)×Unit)
@[reducible] def Z10:Type:=(Int×(Int×(Bool×Unit)))
@[reducible] def Z11:Type:=((Int×(Int×Unit))×Unit)
@[reducible] def Z12:Type:=(LI×(LI×Int))
@[reducible] def Z13:Type:=(LI×(Int×LI))
@[reducible] def Z14:Type:=(Int×Z1)
@[reducible] def Z15:Type:=(LI×(LI×Unit))
@[reducible] def Z16:Type:=((List LI)×(Int×Unit))
@[reducible] def Z17:Type:=(List Z7)
@[reducible] def Z18:Type:=(LI×(Int×(Int×Unit)))
@[reducible] def Z19:Type:=(Int×Z5)
@[reducible] def Z20:Type:=(Int×Z6)
@[reducible] def Z21:Type:=(LI×(Int×(Bool×Unit)))
@[reducible] def Z22:Type:=(Z5×Unit)
@[reducible] def Z23:Type:=(Int×Z8)
@[reducible] def Z24:Type:=(Z6×Unit)
@[reducible] def Z25:Type:=(Int×Z7)
@[reducible] def Z26:Type:=(Int×Z9)
@[reducible] def Z27:Type:=(Z7×Unit)
@[reducible] def Z28:Type:=(Int×Z10)
@[reducible] def Z29:Type:=(List Z14)
@[reducible] def Z30:Type:=(Int×Z15)
@[reducible] def Z31:Type:=(LI×Z5)
@[reducible] def Z32:Type:=((List LI)×(Int×(Int×Unit)))
@[reducible] def Z33:Type:=(Int×Z14)
@[reducible] def Z34:Type:=(Z14×Int)
@[reducible] def Z35:Type:=(Z14×Unit)
@[reducible] def Z36:Type:=(Int×Z18)
@[reducible] def Z37:Type:=(LI×Z7)
@[reducible] def Z38:Type:=(Int×Z19)
@[reducible] def Z39:Type:=(Z18×Int)
@[reducible] def Z40:Type:=(LI×Z10)
@[reducible] def Z41:Type:=(Int×Z23)
@[reducible] def Z42:Type:=(Int×Z24)
@[reducible] def Z43:Type:=(Int×Z25)
@[reducible] def Z44:Type:=(Z18×Unit)
@[reducible] def Z45:Type:=(Z4×(Int×Unit))
@[reducible] def Z46:Type:=(Int×Z26)
@[reducible] def Z47:Type:=(Bool×Z22)
@[reducible] def Z48:Type:=(LI×Z15)
@[reducible] def Z49:Type:=(LI×Z19)
@[reducible] def Z50:Type:=(Int×Z30)
@[reducible] def Z51:Type:=(Z30×Int)
@[reducible] def Z52:Type:=(Int×Z32)
@[reducible] def Z53:Type:=(LI×Z18)
@[reducible] def Z54:Type:=(Z29×Unit)
@[reducible] def Z55:Type:=(Int×Z35)
@[reducible] def Z56:Type:=(Z5×(LI×Unit))
@[reducible] def Z57:Type:=((LI×Unit) ⊕ Z5)
@[reducible] def Z58:Type:=(LI×Z21)
@[reducible] def Z59:Type:=(Int×Z36)
@[reducible] def Z60:Type:=(Z30×Unit)
@[reducible] def Z61:Type:=(LI×Z22)
@[reducible] def Z62:Type:=(Int×Z37)
@[reducible] def Z63:Type:=(Int×Z38)
@[reducible] def Z64:Type:=(Z18×(Int×Int))
@[reducible] def Z65:Type:=(Bool×Z35)
@[reducible] def Z66:Type:=(Int×Z42)
@[reducible] def Z67:Type:=(Int×Z43)
@[reducible] def Z68:Type:=(Int×Z44)
@[reducible] def Z69:Type:=(LI×Z27)
@[reducible] def Z70:Type:=(Bool×Z44)
@[reducible] def Z71:Type:=((List LI)×Z14)
@[reducible] def Z72:Type:=((List LI)×Z17)
@[reducible] def Z73:Type:=(Int×Z48)
@[reducible] def Z74:Type:=(Int×Z49)
@[reducible] def Z75:Type:=(Z5×Z2)
@[reducible] def Z76:Type:=(LI×Z36)
@[reducible] def Z77:Type:=(LI×Z37)
@[reducible] def Z78:Type:=(LI×Z35)
@[reducible] def Z79:Type:=(LI×Z38)
@[reducible] def Z80:Type:=(Int×Z55)
@[reducible] def Z81:Type:=(Int×Z60)
@[reducible] def Z82:Type:=(Int×Z61)
@[reducible] def Z83:Type:=(LI×Z44)
@[reducible] def Z84:Type:=(Z17×(Int×(Int×Unit)))
@[reducible] def Z85:Type:=(Z36 ⊕ (Int×Unit))
@[reducible] def Z86:Type:=(Int×Z67)
@[reducible] def Z87:Type:=(Int×Z68)
@[reducible] def Z88:Type:=(Int×Z70)
@[reducible] def Z89:Type:=(Z18 ⊕ Z0)
@[reducible] def Z90:Type:=(LI×Z50)
@[reducible] def Z91:Type:=(Int×Z73)
@[reducible] def Z92:Type:=(LI×Z49)
@[reducible] def Z93:Type:=(LI×Z56)
@[reducible] def Z94:Type:=(LI×Z59)
@[reducible] def Z95:Type:=(LI×Z58)
@[reducible] def Z96:Type:=(LI×Z60)
@[reducible] def Z97:Type:=(Int×Z74)
@[reducible] def Z98:Type:=(Int×Z78)
@[reducible] def Z99:Type:=(Int×Z81)
@[reducible] def c8n:Type:=(LI×Z66)
@[reducible] def d4M:Type:=(Int×Z82)
@[reducible] def c5i:Type:=(Int×Z83)
@[reducible] def d4N:Type:=(Z6×Z22)
@[reducible] def c1T:Type:=(Z5×Z22)
@[reducible] def c8o:Type:=(Int×Z86)
@[reducible] def b2z:Type:=(Int×Z87)
@[reducible] def c5j:Type:=((LI×Unit)×Z44)
@[reducible] def c1U:Type:=(Int×Z88)
@[reducible] def c5k:Type:=(Int×Z90)
@[reducible] def c8p:Type:=(Int×Z96)
@[reducible] def b5Y:Type:=(Int×Z98)
@[reducible] def c1V:Type:=(Int×Z99)
@[reducible] def c5l:Type:=(Int×c8n)
@[reducible] def d4O:Type:=(Int×d4M)
@[reducible] def d1v:Type:=(Int×c5i)
@[reducible] def b8r:Type:=(Int×c8o)
@[reducible] def c5m:Type:=(Z5×Z44)
@[reducible] def c5n:Type:=(Z4×Z45)
@[reducible] def c5o:Type:=(Int×c8p)
@[reducible] def d4P:Type:=(LI×d4N)
@[reducible] def c1W:Type:=(Z17×Z35)
@[reducible] def b0D:Type:=(Int×d1v)
@[reducible] def d4Q:Type:=(Z4×Z69)
@[reducible] def c5p:Type:=(LI×d4O)
@[reducible] def d4R:Type:=(Int×d4P)
@[reducible] def a4E:Type:=(Z7×Z77)
@[reducible] def c1X:Type:=(Int×d4Q)
@[reducible] def d4S:Type:=(Z4×Z93)
@[reducible] def d4T:Type:=(Int×d4R)
@[reducible] def c5q:Type:=(Z5×c1T)
@[reducible] def c5r:Type:=(a4E×Unit)
@[reducible] def d4U:Type:=(Z18×c1T)
@[reducible] def d4V:Type:=(LI×d4S)
@[reducible] def c1Y:Type:=(LI×d4T)
@[reducible] def d4W:Type:=(LI×d4U)
@[reducible] def c5s:Type:=(a4E×Z11)
@[reducible] def d4X:Type:=(LI×d4V)
@[reducible] def d4Y:Type:=(Int×d4X)
@[reducible] def d4Z:Type:=(LI×d4W)
@[reducible] def d5a:Type:=(Int×d4Y)
@[reducible] def c5t:Type:=(Int×d4Z)
@[reducible] def d5b:Type:=(Int×d5a)
@[reducible] def d5c:Type:=(Int×d5b)
@[reducible] def a0W:Type:=(Int×d5c)
@[reducible] def a8D:Type:=(List a0W)
@[reducible] def a7S:Type:=(a0W×Int)
@[reducible] def b2A:Type:=(a0W×Unit)
@[reducible] def c8q:Type:=(a8D×Unit)
@[reducible] def c5u:Type:=(Bool×b2A)
@[reducible] def d5d:Type:=(LI×b2A)
@[reducible] def b8s:Type:=(Int×c5u)
@[reducible] def c5v:Type:=(a8D×(LI×Unit))
@[reducible] def d5e:Type:=(Int×d5d)
@[reducible] def d5f:Type:=((LI×Unit)×b2A)
@[reducible] def c5w:Type:=(Int×b8s)
@[reducible] def c5x:Type:=(Int×d5e)
@[reducible] def c5y:Type:=(Z18×a0W)
@[reducible] def d5g:Type:=(Z6×b2A)
@[reducible] def d5h:Type:=(Int×d5f)
@[reducible] def c5z:Type:=(Int×d5g)
@[reducible] def c8r:Type:=(Z18×b2A)
@[reducible] def b8t:Type:=(a0W×Z44)
@[reducible] def c5A:Type:=(Int×d5h)
@[reducible] def d5i:Type:=(Z17×c8q)
@[reducible] def b1G:Type:=(Int×c5z)
@[reducible] def c8s:Type:=(Int×c8r)
@[reducible] def b8u:Type:=(Int×c8s)
@[reducible] def d5j:Type:=(Z7×d5i)
@[reducible] def d5k:Type:=(Int×d5j)
@[reducible] def a1x:Type:=(Int×d5k)
@[reducible] def a9t:Type:=(List a1x)
@[reducible] def a7e:Type:=(a1x×Unit)
@[reducible] def d5l:Type:=(a9t×Unit)
@[reducible] def d5m:Type:=(Z7×a7e)
@[reducible] def c5B:Type:=(Z14×a7e)
@[reducible] def d5n:Type:=(Z4×d5l)
@[reducible] def c5C:Type:=(a1x×Z44)
@[reducible] def d5o:Type:=(Int×d5n)
@[reducible] def d5p:Type:=(LI×d5m)
@[reducible] def d5q:Type:=(Int×d5o)
@[reducible] def c8t:Type:=((List LI)×c5B)
@[reducible] def b0E:Type:=(a0W×b2A)
@[reducible] def c5D:Type:=(Int×c8t)
@[reducible] def d5r:Type:=(Int×b0E)
@[reducible] def d1w:Type:=(Z4×d5p)
@[reducible] def c5E:Type:=(Int×d5r)
@[reducible] def a7f:Type:=(Z7×d5q)
@[reducible] def d5s:Type:=(Int×d1w)
@[reducible] def c5F:Type:=(Int×d5s)
@[reducible] def b0F:Type:=(a7f×Unit)
@[reducible] def c5G:Type:=(Z18×b0E)
@[reducible] def d5t:Type:=(Int×c5G)
@[reducible] def c5H:Type:=(Int×d5t)
@[reducible] def c1Z:Type:=(Int×c5H)
@[reducible] def d5u:Type:=(Z29×b0F)
@[reducible] def c5I:Type:=((List LI)×d5u)
@[reducible] def d5v:Type:=(a1x×c5C)
@[reducible] def c8u:Type:=(Int×d5v)
@[reducible] def c5J:Type:=(Int×c8u)
@[reducible] def Q0:Ty:=(.pair QI .unit)
@[reducible] def Q1:Ty:=(.pair (.nl QI) .unit)
@[reducible] def Q2:Ty:=(.pair (.list true QV) .unit)
@[reducible] def Q3:Ty:=(.pair (.list true QI) .unit)
@[reducible] def Q4:Ty:=(.pair QL .unit)
@[reducible] def Q5:Ty:=(.pair QI Q0)
@[reducible] def Q6:Ty:=(.pair QU Q0)
@[reducible] def Q7:Ty:=(.pair (.nl QL) .unit)
@[reducible] def Q8:Ty:=(.pair (.list true (.list true QI)) .unit)
@[reducible] def Q9:Ty:=(.pair (.list true QL) .unit)
@[reducible] def Q10:Ty:=(.pair (.list false QL) .unit)
@[reducible] def Q11:Ty:=(.pair (.list true QV) Q0)
@[reducible] def Q12:Ty:=(.pair QI Q3)
@[reducible] def Q13:Ty:=(.pair QI Q4)
@[reducible] def Q14:Ty:=(.pair QI Q5)
@[reducible] def Q15:Ty:=(.pair QI Q6)
@[reducible] def Q16:Ty:=(.pair (.list true QI) Q3)
@[reducible] def Q17:Ty:=(.pair QI Q10)
@[reducible] def Q18:Ty:=(.pair QB Q5)
@[reducible] def Q19:Ty:=(.pair QI Q16)
@[reducible] def Q20:Ty:=(.pair (.list true QI) Q15)
@[reducible] def Q21:Ty:=(.pair QL Q15)
@[reducible] def Q22:Ty:=(.pair Q13 Q1)
@[reducible] def Q23:Ty:=(.pair Q13 Q4)
@[reducible] def Q24:Ty:=(.pair (.nl QI) Q22)
@[reducible] def Q25:Ty:=(.pair (.list true QI) Q20)
@[reducible] def Q26:Ty:=(.pair QL Q21)
@[reducible] def Q27:Ty:=(.pair (.nl QI) Q23)
@[reducible] def Q28:Ty:=(.pair QL Q23)
@[reducible] def Q29:Ty:=(.pair (.nl Q5) Q24)
@[reducible] def Q30:Ty:=(.pair (.list true Q5) Q27)
@[reducible] def Q31:Ty:=(.pair Q14 Q25)
@[reducible] def Q32:Ty:=(.pair Q14 Q26)
@[reducible] def Q33:Ty:=(.pair (.list true Q5) Q28)
@[reducible] def Q34:Ty:=(.pair (.list false Q5) Q28)
@[reducible] def Q35:Ty:=(.pair (.arr 3 QI) Q29)
@[reducible] def Q36:Ty:=(.pair (.arr 3 QI) Q30)
@[reducible] def Q37:Ty:=(.pair (.arr 3 QI) Q33)
@[reducible] def Q38:Ty:=(.pair (.arr 3 QI) Q34)
@[reducible] def Q39:Ty:=(.pair (.nl QI) Q35)
@[reducible] def Q40:Ty:=(.pair QI Q39)
@[reducible] def Q41:Ty:=(.pair (.list true QI) Q36)
@[reducible] def Q42:Ty:=(.pair QL Q37)
@[reducible] def Q43:Ty:=(.pair QL Q38)
@[reducible] def Q44:Ty:=(.pair QI Q40)
@[reducible] def Q45:Ty:=(.pair QI Q41)
@[reducible] def Q46:Ty:=(.pair QI Q42)
@[reducible] def Q47:Ty:=(.pair QI Q43)
@[reducible] def Q48:Ty:=(.pair QI Q44)
@[reducible] def Q49:Ty:=(.pair QI Q45)
@[reducible] def Q50:Ty:=(.pair QI Q46)
@[reducible] def Q51:Ty:=(.pair QI Q47)
@[reducible] def Q52:Ty:=(.pair QI Q48)
@[reducible] def Q53:Ty:=(.pair QI Q49)
@[reducible] def Q54:Ty:=(.pair QI Q50)
@[reducible] def Q55:Ty:=(.pair QI Q51)
@[reducible] def Q56:Ty:=(.pair QI Q53)
@[reducible] def Q57:Ty:=(.pair QI Q54)
@[reducible] def Q58:Ty:=(.pair QI Q55)
@[reducible] def Q59:Ty:=(.pair QI Q56)
@[reducible] def Q60:Ty:=(.pair QI Q57)
@[reducible] def Q61:Ty:=(.pair QI Q58)
@[reducible] def Q62:Ty:=(.pair (.nl Q61) .unit)
@[reducible] def Q63:Ty:=(.pair (.list true Q61) .unit)
@[reducible] def Q64:Ty:=(.pair (.list false Q61) .unit)
@[reducible] def Q65:Ty:=(.pair (.nl Q14) Q62)
@[reducible] def Q66:Ty:=(.pair (.list true Q14) Q62)
@[reducible] def Q67:Ty:=(.pair (.list false Q14) Q62)
@[reducible] def Q68:Ty:=(.pair (.list false Q14) Q63)
@[reducible] def Q69:Ty:=(.pair (.list false Q14) Q64)
@[reducible] def Q70:Ty:=(.pair Q14 Q65)
@[reducible] def Q71:Ty:=(.pair Q14 Q66)
@[reducible] def Q72:Ty:=(.pair Q14 Q67)
@[reducible] def Q73:Ty:=(.pair Q14 Q68)
@[reducible] def Q74:Ty:=(.pair Q14 Q69)
@[reducible] def Q75:Ty:=(.pair QI Q70)
@[reducible] def Q76:Ty:=(.pair QI Q71)
@[reducible] def Q77:Ty:=(.pair QI Q72)
@[reducible] def Q78:Ty:=(.pair QI Q73)
@[reducible] def Q79:Ty:=(.pair QI Q74)
@[reducible] def Q80:Ty:=(.pair QI Q76)
@[reducible] def Q81:Ty:=(.pair QI Q77)
@[reducible] def Q82:Ty:=(.pair QI Q78)
@[reducible] def Q83:Ty:=(.pair QI Q79)
@[reducible] def Q84:Ty:=(.pair (.nl Q83) .unit)
@[reducible] def Q85:Ty:=(.pair (.list true Q83) .unit)
@[reducible] def Q86:Ty:=(.pair (.list false Q83) .unit)
@[reducible] def Q87:Ty:=(.pair (.nl Q5) Q84)
@[reducible] def Q88:Ty:=(.pair (.list true Q5) Q85)
@[reducible] def Q89:Ty:=(.pair (.list false Q5) Q86)
@[reducible] def Q90:Ty:=(.pair QU Q87)
@[reducible] def Q91:Ty:=(.pair QU Q88)
@[reducible] def Q92:Ty:=(.pair QU Q89)
@[reducible] def Q93:Ty:=(.pair QI Q90)
@[reducible] def Q94:Ty:=(.pair QI Q91)
@[reducible] def Q95:Ty:=(.pair QI Q92)
@[reducible] def Q96:Ty:=(.pair Q14 Q94)
@[reducible] def Q97:Ty:=(.pair Q14 Q95)
def c1N:List (Nat×Ty):=[(2,.int .i64),(3,.int .i64),(5,.int .u8),(9,.str),(23,.pair QI Q5),(24,.list false QI),(26,.list false QV),(27,.int .i64),(33,.int .u64),(34,.list false Q5),(35,.list false Q83),(37,.pair Q14 Q95),(40,.list false Q14),(41,.list false Q61),(43,.pair QI Q79),(47,.pair QI Q0),(53,.pair QI Q0),(58,.list false Q5),(73,.list false QL),(75,.pair QI Q10),(87,.pair QB Q0),(88,.arr 3 QI),(89,.list false Q5),(91,.pair QI Q4),(93,.pair QI Q58),(99,.int .u16),(103,.pair QB .unit),(106,.pair Q14 Q26),(134,.list false QB),(135,.list false Q17),(150,.list false QU),(152,.int .u32),(165,.pair QI Q0),(169,.pair QI Q5),(173,.int .u64),(188,.pair QB Q5),(201,.pair QB Q5),(226,.pair QB Q5),(236,.pair QB Q5),(284,.arr 64 QV),(311,.list false (.arr 3 QI)),(314,.pair QI (.pair QL Q4)),(318,.pair QI (.pair QL Q4))]
def T0:Nat→Option Ty:=fun t=>find c1N t
def c5K:List Nat:=[23,53,88,165]
def d5w:Nat→Bool:=fun t=>c5K.contains t
def c2a:List Nat:=[]
def d5x:Nat→Bool:=fun t=>c2a.contains t
def b1i:(List Int):=[0,1,56,2,57,49,28,3,61,58,42,50,38,29,17,4,62,47,59,36,45,43,51,22,53,39,33,30,24,18,12,5,63,55,48,27,60,41,37,16,46,35,44,21,52,32,23,11,54,26,40,15,34,20,31,10,25,14,19,9,13,8,7,6]
def G0:Nat→Option ((t:Ty)×t.den):=fun g=>find ([(2,⟨.arr 64 QV,b1i⟩)]:List (Nat×((t:Ty)×t.den))) g
@[reducible] def b3z(a:List (Nat×FSem))(b:List (Nat×Ty))(c d:Nat):Cx:=⟨d5x,d5w,T0,fun f=>find a f,fun n=>find b n,c.testBit,d.testBit,G0⟩
def b0G(x:Int):Option Int:=(show Option (Int×Bool×Unit)from cond (decide (x<1)) (some (x,true,())) (some (x,decide (x > 31),()))).bind fun z1=>cond z1.2.1 (some 0) (cond (decide ((wrap .i64 (z1.1-1))<0)) none (some (A0n .i64 (-1) (wrap .i64 (z1.1-1)))))
def c2b:FSem:=⟨[.v QI],[.v QI],b0G⟩
def H89:Hints:=⟨[],[(6,[Qn [0,.sv 8 .bool]])],[]⟩
def a9u(x:Int):Option Int:=(show Option (Int×Bool×Unit)from cond (decide (x<1)) (some (x,true,())) (some (x,decide (x > 31),()))).bind fun z1=>cond z1.2.1 (some 0) (cond (decide ((wrap .i64 (z1.1-1))<0)) none (some (wrap .i64 ((A0n .i64 1 (wrap .i64 (z1.1-1)))-1))))
def c0K:FSem:=⟨[.v QI],[.v QI],a9u⟩
def H90:Hints:=⟨[],[(6,[Qn [0,.sv 8 .bool]])],[]⟩
def a1V(x:(Int×Int)):Option Bool:=cond (decide (x.2≥1)) (cond (decide (x.2≤31)) ((b0G x.2).bind fun y1=>cond (decide (y1≤x.1)) ((a9u x.2).bind fun y2=>some (decide (x.1≤y2))) (some false)) (some false)) (some false)
def c0L:FSem:=⟨[.v QI,.v QI],[.v .bool],a1V⟩
def a5D(x:Int):Option Bool:=cond (decide (4≤x)) (some (decide (x≤24))) (some false)
def c0M:FSem:=⟨[.v QI],[.v .bool],a5D⟩
def a2Z(x:Z14):Option Int:=cond ((x.2.1.length:Int)==0) (some 0) ((m0k x.2.1 0).bind fun x1=>some (x1.length:Int))
def c3G:FSem:=⟨[.v Q17],[.v QI],a2Z⟩
def a3K(s:((List LI)×(Int×(Int×(LI×Z80))))):Option (((List LI)×(Int×(Int×(LI×Z80)))) ⊕ (((List LI)×Z80) ⊕ (Bool×Unit))):=(fun(a:Int)(b:LI)(c d:Int)(e:Z14)=>cond (decide (d<c)) ((m0k b d).bind fun x8=>(a1V (x8,e.1)).bind fun y9=>cond (!y9) (some (.inr (Sum.inr ((false,()))))) (some (.inl (s.1,s.2.1,a,b,c,wrap .i64 (d+1),e,())))) (some (.inr (Sum.inl (s.1,s.2.1,a,e,()))))) s.2.2.1 s.2.2.2.1 s.2.2.2.2.1 s.2.2.2.2.2.1 s.2.2.2.2.2.2.1
def a3L(s:((List LI)×Z80)):Option (((List LI)×Z80) ⊕ Z0):=cond (decide (s.2.2.1<s.2.1)) ((m0k s.1 s.2.2.1).bind fun x6=>(a2Z s.2.2.2.1).bind fun y7=>cond ((x6.length:Int) != y7) (some (.inr (Sum.inr ((false,()))))) ((y0s a3K (s.1,s.2.1,s.2.2.1,x6,(x6.length:Int),0,s.2.2.2.1,())).bind fun w10=>match w10 with |.inl a11=>some (.inl (a11.1,a11.2.1,wrap .i64 (a11.2.2.1+1),a11.2.2.2.1,())) |.inr b12=>some (.inr (Sum.inr ((b12.1,())))))) (some (.inr (Sum.inl ())))
def a3a(x:Z14):Option Bool:=(show Option Z65 from(a5D x.1).bind fun y1=>cond (!y1) (some (true,x,())) (cond (decide ((x.2.1.length:Int)<1)) (some (true,x,())) (some (decide ((x.2.1.length:Int) > 8),x,())))).bind fun z2=>cond z2.1 (some false) ((show Option Z65 from(a2Z z2.2.1).bind fun y3=>cond (decide (y3<1)) (some (true,z2.2.1,())) ((a2Z z2.2.1).bind fun y4=>some (decide (y4 > 4096),z2.2.1,()))).bind fun z5=>cond z5.1 (some false) ((y0s a3L (z5.2.1.2.1,(z5.2.1.2.1.length:Int),0,z5.2.1,())).bind fun w13=>match w13 with |.inl a14=>some true |.inr b15=>some b15.1))
def c3H:FSem:=⟨[.v Q17],[.v .bool],a3a⟩
def H91:Hints:=⟨[(122,[.sv 32 (.list false QL),33,34,.vp 1 Q17],[Qe 0 [],Qr [.sv 2 .bool]]),(62670,[.sv 32 (.list false QL),33,34,.sv 43 QL,44,45,.vp 1 Q17],[Qe 2 [.sv 32 (.list false QL),33,34,.vp 1 Q17],Qr [.sv 2 .bool]])],[(6,[Qn [.sv 22 .bool,.vp 1 Q17]]),(14,[Qn [.sv 30 .bool,.vp 1 Q17]])],[]⟩
def a2i(x:Z7):Option Bool:=cond (decide (1≤x.1)) (cond (decide (x.1≤1048576)) (cond (decide (1≤x.2.1)) (cond (decide (x.2.1≤8)) ((a5D x.2.2.1).bind fun y1=>some y1) (some false)) (some false)) (some false)) (some false)
def c0N:FSem:=⟨[.v Q14],[.v .bool],a2i⟩
def a5E(s:(Int×Z84)):Option ((Int×Z84) ⊕ Z0):=(fun(a:Int)(b:Z17)(c d:Int)=>cond (decide (d<c)) ((m0k b d).bind fun x2=>(show Option (Int×Z17×Int×Int×Bool×Z27)from cond (decide (x2.1<0)) (some (a,b,c,d,true,x2,())) (cond (decide (x2.1≥a)) (some (a,b,c,d,true,x2,())) (cond (decide (x2.2.1<0)) (some (a,b,c,d,true,x2,())) (cond (decide (x2.2.1≥a)) (some (a,b,c,d,true,x2,())) (some (a,b,c,d,x2.1==x2.2.1,x2,())))))).bind fun z3=>cond z3.2.2.2.2.1 (some (.inr (Sum.inr ((false,()))))) ((show Option (Int×Z17×Z10)from cond (decide (z3.2.2.2.2.2.1.2.2.1<(-1024))) (some (z3.1,z3.2.1,z3.2.2.1,z3.2.2.2.1,true,())) (some (z3.1,z3.2.1,z3.2.2.1,z3.2.2.2.1,decide (z3.2.2.2.2.2.1.2.2.1 > 1024),()))).bind fun z4=>cond z4.2.2.2.2.1 (some (.inr (Sum.inr ((false,()))))) (some (.inl (z4.1,z4.2.1,z4.2.2.1,wrap .i64 (z4.2.2.2.1+1),()))))) (some (.inr (Sum.inl ())))) s.1 s.2.1 s.2.2.1 s.2.2.2.1
def a6K(x:(Z17×Int)):Option Bool:=(show Option (Z17×Int×Bool×Unit)from cond (decide (x.2<1)) (some (x.1,x.2,true,())) (cond (decide (x.2 > 8)) (some (x.1,x.2,true,())) (some (x.1,x.2,decide ((x.1.length:Int) > 16),())))).bind fun z1=>cond z1.2.2.1 (some false) ((y0s a5E (z1.2.1,z1.1,(z1.1.length:Int),0,())).bind fun w5=>match w5 with |.inl a6=>some true |.inr b7=>some b7.1)
def b6O:FSem:=⟨[.v (.list false Q14),.v QI],[.v .bool],a6K⟩
def d5y:Hints:=⟨[(58,[1,.sv 18 (.list false Q14),19,20],[Qe 0 [],Qr [.sv 4 .bool]])],[(6,[Qn [.sv 0 (.list false Q14),1,.sv 17 .bool]]),(7474,[Qn [1,.sv 18 (.list false Q14),19,20,.sv 50 .bool,.box 6 Q14,Qp 6 6]]),(7475,[Qn [1,.sv 18 (.list false Q14),19,20,.sv 58 .bool]])],[]⟩
def a5F(x:a1x):Option Bool:=(a2i x.2.2.1).bind fun y1=>cond y1 (cond (decide (x.2.1≥1)) (cond (decide (x.2.1≤4096)) (cond (decide (x.1≥0)) (cond (decide (x.1≤(wrap .i64 (4194304-x.2.1)))) ((a6K (x.2.2.2.1,x.2.2.1.2.1)).bind fun y2=>some y2) (some false)) (some false)) (some false)) (some false)) (some false)
def c0O:FSem:=⟨[.v Q83],[.v .bool],a5F⟩
def a4V(x:Int):Option Bool:=cond (x != 0) (some (x != 1)) (some false)
def c2c:FSem:=⟨[.v QI],[.v .bool],a4V⟩
def a2S(s:Z18):Option Z89:=(fun(a b:Int)=>cond (decide (b<a)) ((m0k s.1 b).bind fun x1=>(show Option Z40 from cond (decide (x1<(-1073741824))) (some (s.1,a,b,true,())) (some (s.1,a,b,decide (x1≥1073741824),()))).bind fun z2=>cond z2.2.2.2.1 (some (.inr (Sum.inr ((false,()))))) (some (.inl (z2.1,z2.2.1,wrap .i64 (z2.2.2.1+1),())))) (some (.inr (Sum.inl ())))) s.2.1 s.2.2.1
def a2D(x:LI):Option Bool:=(y0s a2S (x,(x.length:Int),0,())).bind fun w3=>match w3 with |.inl a4=>some true |.inr b5=>some b5.1
def c0P:FSem:=⟨[.v QL],[.v .bool],a2D⟩
def d5z:Hints:=⟨[(26,[.sv 5 QL,6,7],[Qe 0 [],Qr [.sv 2 .bool]])],[(1689,[Qn [.sv 5 QL,6,7,.sv 16 .bool]])],[]⟩
def a4i(s:Z18):Option Z89:=(fun(a b:Int)=>cond (decide (b<a)) ((m0k s.1 b).bind fun x2=>(show Option Z40 from cond (decide (x2<(-32768))) (some (s.1,a,b,true,())) (some (s.1,a,b,decide (x2≥32768),()))).bind fun z3=>cond z3.2.2.2.1 (some (.inr (Sum.inr ((false,()))))) (some (.inl (z3.1,z3.2.1,wrap .i64 (z3.2.2.1+1),())))) (some (.inr (Sum.inl ())))) s.2.1 s.2.2.1
def a3S(x:(LI×Int)):Option Bool:=(show Option (LI×(Bool×Unit))from cond (decide ((x.1.length:Int)<1)) (some (x.1,true,())) (cond (decide ((x.1.length:Int) > 32)) (some (x.1,true,())) (cond (decide (x.2<0)) (some (x.1,true,())) (some (x.1,decide (x.2 > 15),()))))).bind fun z1=>cond z1.2.1 (some false) ((y0s a4i (z1.1,(z1.1.length:Int),0,())).bind fun w4=>match w4 with |.inl a5=>some true |.inr b6=>some b6.1)
def c2d:FSem:=⟨[.v QL,.v QI],[.v .bool],a3S⟩
def d5A:Hints:=⟨[(58,[.sv 23 QL,24,25],[Qe 0 [],Qr [.sv 4 .bool]])],[(6,[Qn [.sv 0 QL,.sv 22 .bool]]),(3737,[Qn [.sv 23 QL,24,25,.sv 34 .bool]])],[]⟩
def a5G(s:Z6):Option (Z6 ⊕ Z0):=cond (decide (s.2.1<3)) ((m0k s.1 s.2.1).bind fun x2=>(show Option Z21 from cond (decide (x2<(-64))) (some (s.1,s.2.1,true,())) (some (s.1,s.2.1,decide (x2 > 64),()))).bind fun z3=>cond z3.2.2.1 (some (.inr (Sum.inr ((false,()))))) (some (.inl (z3.1,wrap .i64 (z3.2.1+1),())))) (some (.inr (Sum.inl ())))
def a6L(x:(Int×LI)):Option Bool:=(show Option Z8 from cond (decide (x.1<2)) (some (true,x.2,())) (some (decide (x.1 > 1024),x.2,()))).bind fun z1=>cond z1.1 (some false) ((y0s a5G (z1.2.1,0,())).bind fun w4=>match w4 with |.inl a5=>some true |.inr b6=>some b6.1)
def c5L:FSem:=⟨[.v QI,.v (.arr 3 QI)],[.v .bool],a6L⟩
def d5B:Hints:=⟨[(58,[.sv 13 (.arr 3 QI),14],[Qe 0 [],Qr [.sv 4 .bool]])],[(6,[Qn [.sv 12 .bool,.vp 3 (.arr 3 QI)]]),(3737,[Qn [.sv 13 (.arr 3 QI),14,.sv 22 .bool]])],[]⟩
def a5H(x:(Int×Int×Unit)):Option Bool:=cond (decide (x.1≥1)) (cond (decide (x.1≤32)) (cond (decide (x.2.1≥0)) (some (decide (x.2.1≤8))) (some false)) (some false)) (some false)
def c0Q:FSem:=⟨[.v Q5],[.v .bool],a5H⟩
def a4W(s:(Z4×Int×Int×Unit)):Option ((Z4×Int×Int×Unit) ⊕ Z0):=cond (decide (s.2.2.1<s.2.1)) ((m0k s.1 s.2.2.1).bind fun x1=>(a5H x1).bind fun y2=>cond (!y2) (some (.inr (Sum.inr ((false,()))))) (some (.inl (s.1,s.2.1,wrap .i64 (s.2.2.1+1),())))) (some (.inr (Sum.inl ())))
def a5T(x:Z4):Option Bool:=cond (decide ((x.length:Int) > 3)) (some false) ((y0s a4W (x,(x.length:Int),0,())).bind fun w3=>match w3 with |.inl a4=>some true |.inr b5=>some b5.1)
def b5v:FSem:=⟨[.v (.list false Q5)],[.v .bool],a5T⟩
def d5C:Hints:=⟨[(58,[.sv 8 (.list false Q5),9,10],[Qe 0 [],Qr [.sv 2 .bool]])],[],[]⟩
def a7N(x:(Int×a7S)):Option Bool:=(show Option c5w from cond (x.1==0) (some (x.2.2,x.1,x.1==0,x.2.1,())) (some (x.2.2,x.1,x.1==1,x.2.1,()))).bind fun z1=>cond z1.2.2.1 (some true) (cond (z1.2.1==2) (cond (decide (z1.2.2.2.1.2.2.1≥0)) (cond (decide (z1.2.2.2.1.2.2.1≤4)) (some (decide (z1.2.2.2.1.2.2.1≤z1.1))) (some false)) (some false)) (cond (z1.2.1==3) ((a3S (z1.2.2.2.1.2.2.2.2.2.1,z1.2.2.2.1.2.2.2.1)).bind fun y2=>cond y2 (some (decide ((z1.2.2.2.1.2.2.2.2.2.1.length:Int)≤z1.1))) (some false)) (cond (z1.2.1==4) ((a3S (z1.2.2.2.1.2.2.2.2.2.1,z1.2.2.2.1.2.2.2.1)).bind fun y3=>cond y3 (cond (decide ((z1.2.2.2.1.2.2.2.2.2.1.length:Int)≤z1.1)) ((a6L (z1.2.2.2.1.2.2.2.2.1,z1.2.2.2.1.2.2.2.2.2.2.1)).bind fun y4=>some y4) (some false)) (some false)) (cond (z1.2.1==5) (cond (decide ((z1.2.2.2.1.2.2.2.2.2.2.2.1.length:Int) > 0)) ((a5T z1.2.2.2.1.2.2.2.2.2.2.2.1).bind fun y5=>some y5) (some false)) (some false)))))
def c7j:FSem:=⟨[.v QI,.v Q61,.v QI],[.v .bool],a7N⟩
def d5D:Hints:=⟨[],[(26,[Qn [2,7,.sv 8 .bool,.vp 4 Q61]])],[]⟩
def a4X(x:a7S):Option Int:=cond (x.1.1==0) (some 1) (cond (x.1.1==1) (some x.2) (cond (x.1.1==2) (some x.1.2.2.1) ((show Option c5u from cond (x.1.1==3) (some (x.1.1==3,x.1,())) (some (x.1.1==4,x.1,()))).bind fun z1=>cond z1.1 (some (z1.2.1.2.2.2.2.2.1.length:Int)) (some 0))))
def c2e:FSem:=⟨[.v Q61,.v QI],[.v QI],a4X⟩
def d5E:Hints:=⟨[],[(1727,[Qn [.sv 16 .bool,.vp 2 Q61]])],[]⟩
def a5U(x:(Int×Int)):Option Bool:=cond (decide (1≤x.1)) (cond (decide (x.1≤4096)) (cond (decide (0≤x.2)) (some (decide (x.2≤x.1))) (some false)) (some false)) (some false)
def c3I:FSem:=⟨[.v QI,.v QI],[.v .bool],a5U⟩
def a5p(s:Z19):Option (Z19 ⊕ (LI×Unit)):=(fun(a:LI)=>cond (decide (s.1<0)) none (cond (decide ((a.length:Int)<(A0n .i64 1 s.1))) (cond (lim ((a01 a)+1)) (some (.inl (s.1,s.2.1,a04 a [s.2.1],()))) none) (some (.inr (a,()))))) s.2.2.1
def a2E(x:(Int×Int×Int)):Option LI:=(show Option Z28 from(a5U (x.2.1,x.2.2)).bind fun y1=>cond (!y1) (some (x.1,x.2.1,x.2.2,true,())) (cond (decide (x.1<0)) (some (x.1,x.2.1,x.2.2,true,())) (some (x.1,x.2.1,x.2.2,decide (x.1 > 8),())))).bind fun z2=>cond z2.2.2.2.1 (some []) (cond (decide (z2.1<0)) none ((show Option Z28 from cond (decide (z2.1<0)) none (cond ((A0n .i64 (A0o .i64 z2.2.1 z2.1) z2.1) != z2.2.1) (some (z2.1,z2.2.2.1,A0o .i64 z2.2.1 z2.1,true,())) (some (z2.1,z2.2.2.1,A0o .i64 z2.2.1 z2.1,decide ((A0o .i64 z2.2.1 z2.1)<z2.2.2.1),())))).bind fun z3=>cond z3.2.2.2.1 (some []) ((y0s a5p (z3.1,z3.2.2.1,[wrap .i64 (z3.2.2.1-z3.2.1)],())).bind fun w4=>some w4.1)))
def c0R:FSem:=⟨[.v QI,.v QI,.v QI],[.o QI],a2E⟩
def d5F:Hints:=⟨[(252,[0,7,.own 8 8 QI],[Qe 0 [.own 8 8 QI]])],[(6,[Qn [0,1,2,.sv 20 .bool]]),(30,[Qn [0,2,7,.sv 33 .bool]])],[]⟩
def a3M(s:Z18):Option Z89:=(fun(a:LI)(b c:Int)=>cond (decide (c<b)) ((m0k a c).bind fun x3=>(show Option Z40 from cond (decide (x3<0)) (some (a,b,c,x3 != 31,())) (cond (decide (x3 > 25)) (some (a,b,c,x3 != 31,())) (some (a,b,c,false,())))).bind fun z4=>cond z4.2.2.2.1 (some (.inr (Sum.inr ((false,()))))) (some (.inl (z4.1,z4.2.1,wrap .i64 (z4.2.2.1+1),())))) (some (.inr (Sum.inl ())))) s.1 s.2.1 s.2.2.1
def a7l(x:(Z5×Int×Int)):Option Bool:=(a2E (x.1.1,x.2.1,x.2.2)).bind fun y1=>(show Option Z47 from cond ((y1.length:Int)==0) (some (true,x.1,())) (some ((x.1.2.1.length:Int) != (y1.length:Int),x.1,()))).bind fun z2=>cond z2.1 (some false) ((y0s a3M (z2.2.1.2.1,(z2.2.1.2.1.length:Int),0,())).bind fun w5=>match w5 with |.inl a6=>some true |.inr b7=>some b7.1)
def c3J:FSem:=⟨[.v Q13,.v QI,.v QI],[.v .bool],a7l⟩
def d5G:Hints:=⟨[(122,[.sv 27 QL,28,29],[Qe 0 [],Qr [.sv 6 .bool]])],[(14,[Qn [.sv 25 .bool,.vp 3 Q13]]),(7833,[Qn [.sv 27 QL,28,29,.sv 42 .bool]])],[]⟩
def a0X(x:LI):Option LI:=x0e x
def a1K:FSem:=⟨[.v QL],[.o QI],a0X⟩
def c9i:Cx:=b3z [] [] 5 0
theorem d2d(x):A0j c9i QH Tryz.f140 a1K.ps a1K.rs x=a1K.F x:=Eq.trans (show _=w0u x by kernel_rfl) (A0x x)
def a2j(x:LI):Option LI:=x0e x
def a2k:FSem:=⟨[.v QL],[.v QL],a2j⟩
def c7k:Cx:=b3z [] [] 5 0
theorem d1x(x):A0j c7k QH Tryz.f140 a2k.ps a2k.rs x=a2k.F x:=Eq.trans (show _=w0u x by kernel_rfl) (A0x x)
def a1m(x:Z4):Option Z4:=x0e x
def a1n:FSem:=⟨[.v (.list false Q5)],[.v (.list false Q5)],a1m⟩
def c7l:Cx:=b3z [] [] 5 0
theorem d1y(x):A0j c7l QH Tryz.f307 a1n.ps a1n.rs x=a1n.F x:=Eq.trans (show _=w0u x by kernel_rfl) (A0x x)
def a7T(x:(Int×a0W)):Option a0W:=(show Option b0E from(show Option ((a0W×b0E) ⊕ (b0E ⊕ (a0W×b0E)))from cond (x.1==2) (some (Sum.inr (Sum.inl ((0,0,0,0,0,[],a02 3 0,[],[],(0,[],()),[],()),(x.1,0,x.2.2.2.1,0,0,[],a02 3 0,[],[],(0,[],()),[],()),())))) (cond (x.1==4) (some (Sum.inl ((0,0,0,0,0,[],a02 3 0,[],[],(0,[],()),[],()),(x.1,0,0,0,x.2.2.2.2.2.1,[],x.2.2.2.2.2.2.2.1,[],[],(0,[],()),[],()),x.2,()))) (cond (x.1==3) (some (Sum.inl ((0,0,0,0,0,[],a02 3 0,[],[],(0,[],()),[],()),(x.1,0,0,0,0,[],a02 3 0,[],[],(0,[],()),[],()),x.2,()))) (cond (x.1==5) (some (Sum.inr (Sum.inr (((0,0,0,0,0,[],a02 3 0,[],[],(0,[],()),[],()),(x.1,0,0,0,0,[],a02 3 0,[],[],(0,[],()),[],()),x.2,()))))) (some (Sum.inr (Sum.inl ((0,0,0,0,0,[],a02 3 0,[],[],(0,[],()),[],()),(x.1,0,0,0,0,[],a02 3 0,[],[],(0,[],()),[],()),())))))))).bind fun z1=>match z1 with |.inl a2=>((a2j a2.2.2.1.2.2.2.2.2.1).bind fun y4=>some (a2.1,(a2.2.1.1,a2.2.1.2.1,a2.2.1.2.2.1,a2.2.2.1.2.2.2.1,a2.2.1.2.2.2.2.1,y4,a2.2.1.2.2.2.2.2.2),())) |.inr b3=>(match b3 with |.inl a5=>some (a5.1,a5.2.1,()) |.inr b6=>((a1m b6.2.2.1.2.2.2.2.2.2.2.1).bind fun y7=>some (b6.1,(b6.2.1.1,b6.2.1.2.1,b6.2.1.2.2.1,b6.2.1.2.2.2.1,b6.2.1.2.2.2.2.1,b6.2.1.2.2.2.2.2.1,b6.2.1.2.2.2.2.2.2.1,y7,b6.2.1.2.2.2.2.2.2.2.2),())))).bind fun z8=>some z8.2.1
def c2f:FSem:=⟨[.v QI,.v Q61],[.v Q61],a7T⟩
def d5H:Hints:=⟨[],[(7,[Qn [.box 4 Q61,.box 5 Q61,Qp 4 4,Qp 5 5]]),(232,[Qn [.box 4 Q61,.box 5 Q61,.vp 3 Q61,Qp 4 4,Qp 5 5],Qe 0 [.box 4 Q61,.box 5 Q61,Qp 4 4,Qp 5 5],Qe 4 [.box 4 Q61,.box 5 Q61,.vp 3 Q61,Qp 4 4,Qp 5 5]])],[(8,[.v,.v,.v,.v,.q,.w [0,5],.x,.x]),(9,[.v,.v,.v,.v,.v,.q,.w [0,5],.x,.x])]⟩
def a8S(x:a0W):Option Bool:=(a7T (x.1,x)).bind fun y1=>cond (x.2.2.1==y1.2.2.1) (cond (x.2.2.2.1==y1.2.2.2.1) (cond (x.2.2.2.2.1==y1.2.2.2.2.1) (cond (eqT (.arr 3 (.int .i64)) x.2.2.2.2.2.2.1 y1.2.2.2.2.2.2.1) (cond ((x.2.2.2.2.2.1.length:Int)==(y1.2.2.2.2.2.1.length:Int)) (some ((x.2.2.2.2.2.2.2.1.length:Int)==(y1.2.2.2.2.2.2.2.1.length:Int))) (some false)) (some false)) (some false)) (some false)) (some false)
def c3K:FSem:=⟨[.v Q61],[.v .bool],a8S⟩
def a7U(x:a7S):Option Bool:=(show Option b8s from cond (decide (x.2<1)) (some (x.2,true,x.1,())) (cond (decide (x.2 > 4096)) (some (x.2,true,x.1,())) ((a7N (x.1.1,x.1,x.2)).bind fun y1=>cond (!y1) (some (x.2,true,x.1,())) ((a8S x.1).bind fun y2=>some (x.2,!y2,x.1,()))))).bind fun z3=>cond z3.2.1 (some false) ((show Option b8s from cond (decide (z3.2.2.1.2.1<0)) (some (z3.1,true,z3.2.2.1,())) (cond (decide (z3.2.2.1.2.1 > 30)) (some (z3.1,true,z3.2.2.1,())) (cond (z3.2.2.1.1==0) (some (z3.1,z3.2.2.1.2.1 != 0,z3.2.2.1,())) (some (z3.1,false,z3.2.2.1,()))))).bind fun z4=>cond z4.2.1 (some false) ((a4X (z4.2.2.1,z4.1)).bind fun y5=>(show Option c5w from cond ((z4.2.2.1.2.2.2.2.2.2.2.2.1.length:Int) != y5) (some (z4.1,y5,true,z4.2.2.1,())) ((a2D z4.2.2.1.2.2.2.2.2.2.2.2.1).bind fun y6=>cond (!y6) (some (z4.1,y5,true,z4.2.2.1,())) ((a2D z4.2.2.1.2.2.2.2.2.2.2.2.2.2.1).bind fun y7=>some (z4.1,y5,!y7,z4.2.2.1,())))).bind fun z8=>cond z8.2.2.1 (some false) ((a4V z8.2.2.2.1.1).bind fun y9=>cond (!y9) (cond ((z8.2.2.2.1.2.2.2.2.2.2.2.2.2.2.1.length:Int)==0) (cond (z8.2.2.2.1.2.2.2.2.2.2.2.2.2.1.1==0) (some ((z8.2.2.2.1.2.2.2.2.2.2.2.2.2.1.2.1.length:Int)==0)) (some false)) (some false)) (cond ((z8.2.2.2.1.2.2.2.2.2.2.2.2.2.2.1.length:Int)==(wrap .i64 (z8.1-z8.2.1))) ((a7l (z8.2.2.2.1.2.2.2.2.2.2.2.2.2.1,z8.1,z8.2.1)).bind fun y10=>some y10) (some false)))))
def c2g:FSem:=⟨[.v Q61,.v QI],[.v .bool],a7U⟩
def d5I:Hints:=⟨[],[(6,[Qn [1,.sv 24 .bool,.vp 2 Q61]]),(14,[Qn [1,.sv 42 .bool,.vp 2 Q61]]),(62,[Qn [1,5,.sv 62 .bool,.vp 2 Q61]])],[]⟩
def b1j(s:Z18):Option Z89:=(fun(a b:Int)=>cond (decide (b<a)) ((m0k s.1 b).bind fun x1=>(show Option Z40 from cond (decide (x1<(-1073741824))) (some (s.1,a,b,true,())) (some (s.1,a,b,decide (x1≥1073741824),()))).bind fun z2=>cond z2.2.2.2.1 (some (.inr (Sum.inr ((false,()))))) (some (.inl (z2.1,z2.2.1,wrap .i64 (z2.2.2.1+1),())))) (some (.inr (Sum.inl ())))) s.2.1 s.2.2.1
def a2r(x:LI):Option Bool:=(y0s b1j (x,(x.length:Int),0,())).bind fun w3=>match w3 with |.inl a4=>some true |.inr b5=>some b5.1
def c2h:FSem:=⟨[.v QL],[.v .bool],a2r⟩
def d5J:Hints:=⟨[(26,[.sv 5 QL,6,7],[Qe 0 [],Qr [.sv 2 .bool]])],[(1689,[Qn [.sv 5 QL,6,7,.sv 16 .bool]])],[]⟩
def a1a(x:(Int×LI)):Option (Int×LI):=(m0k x.2 (wrap .i64 ((x.2.length:Int)-x.1))).bind fun x1=>some (x1,x.2)
def b6P:FSem:=⟨[.v QI,.r false (.b QL)],[.v QI],a1a⟩
def a7x(x:(LI×Int)):Option Int:=cond (x.2==1) ((a1a (1,x.1)).bind fun y1=>some y1.1) (cond (x.2==2) ((a1a (1,x.1)).bind fun y2=>(a1a (2,y2.2)).bind fun y3=>some (wrap .i64 ((wrap .i64 (2*y2.1))-y3.1))) (cond (x.2==3) ((a1a (1,x.1)).bind fun y4=>(a1a (2,y4.2)).bind fun y5=>(a1a (3,y5.2)).bind fun y6=>some (wrap .i64 ((wrap .i64 ((wrap .i64 (3*y4.1))-(wrap .i64 (3*y5.1))))+y6.1))) (cond (x.2==4) ((a1a (1,x.1)).bind fun y7=>(a1a (2,y7.2)).bind fun y8=>(a1a (3,y8.2)).bind fun y9=>(a1a (4,y9.2)).bind fun y10=>some (wrap .i64 ((wrap .i64 ((wrap .i64 ((wrap .i64 (4*y7.1))-(wrap .i64 (6*y8.1))))+(wrap .i64 (4*y9.1))))-y10.1))) (some 0))))
def c0S:FSem:=⟨[.v QL,.v QI],[.v QI],a7x⟩
def a6e(s:Z74):Option (Z74 ⊕ Z57):=(fun(a b:Int)(c:LI)=>cond (decide (b<a)) ((m0k s.2.1 b).bind fun x5=>(a7x (c,s.1)).bind fun y6=>(a2r [wrap .i64 (x5+y6)]).bind fun y7=>cond (!y7) (some (.inr (Sum.inr ((6,[],()))))) (cond (lim ((a01 c)+1)) (some (.inl (s.1,s.2.1,a,wrap .i64 (b+1),a04 c [wrap .i64 (x5+y6)],()))) none)) (some (.inr (Sum.inl (c,()))))) s.2.2.1 s.2.2.2.1 s.2.2.2.2.1
def a7V(x:Z12):Option (LI×Int):=(show Option Z58 from cond (decide (x.2.2<0)) (some (x.1,x.2.1,x.2.2,true,())) (cond (decide (x.2.2 > 4)) (some (x.1,x.2.1,x.2.2,true,())) (some (x.1,x.2.1,x.2.2,(x.1.length:Int) != x.2.2,())))).bind fun z1=>cond z1.2.2.2.1 (some ([],1)) ((show Option Z58 from(a2r z1.1).bind fun y2=>cond (!y2) (some (z1.1,z1.2.1,z1.2.2.1,true,())) ((a2r z1.2.1).bind fun y3=>some (z1.1,z1.2.1,z1.2.2.1,!y3,()))).bind fun z4=>cond z4.2.2.2.1 (some ([],6)) (cond (lim (a01 z4.1)) ((y0s a6e (z4.2.2.1,z4.2.1,(z4.2.1.length:Int),0,z4.1,())).bind fun w8=>match w8 with |.inl a9=>some (a9.1,0) |.inr b10=>some (b10.2.1,b10.1)) none))
def c2i:FSem:=⟨[.v QL,.v QL,.v QI],[.o QI,.v QI],a7V⟩
def d5K:Hints:=⟨[(250,[2,.sv 34 QL,35,36,.own 8 8 QI],[Qe 0 [.own 8 8 QI],Qr [7,.own 6 6 QI]])],[(6,[Qn [.sv 0 QL,.sv 1 QL,2,.sv 23 .bool]]),(14,[Qn [.sv 0 QL,.sv 1 QL,2,.sv 31 .bool]])],[]⟩
def a4e(x:Int):Option Bool:=cond (decide (x≥(-1073741824))) (some (decide (x<1073741824))) (some false)
def c0T:FSem:=⟨[.v QI],[.v .bool],a4e⟩
def a2L(s:Z18):Option Z89:=cond (decide (s.2.2.1<s.2.1)) ((m0k s.1 s.2.2.1).bind fun x1=>(a4e x1).bind fun y2=>cond (!y2) (some (.inr (Sum.inr ((false,()))))) (some (.inl (s.1,s.2.1,wrap .i64 (s.2.2.1+1),())))) (some (.inr (Sum.inl ())))
def a2l(x:LI):Option Bool:=(y0s a2L (x,(x.length:Int),0,())).bind fun w3=>match w3 with |.inl a4=>some true |.inr b5=>some b5.1
def b5Z:FSem:=⟨[.v QL],[.v .bool],a2l⟩
def d5L:Hints:=⟨[(26,[.sv 5 QL,6,7],[Qe 0 [],Qr [.sv 2 .bool]])],[],[]⟩
def a2M(s:Z94):Option (Z94 ⊕ (Int×Int×Unit)):=(fun(a:LI)(b c:Int)(d:LI)(e f:Int)=>cond (decide (f<e)) ((m0k d f).bind fun x1=>cond (decide ((wrap .i64 ((wrap .i64 ((a.length:Int)-1))-f))<0)) (some (.inr (b,c,()))) ((m0k a (wrap .i64 ((wrap .i64 ((a.length:Int)-1))-f))).bind fun x2=>some (.inl (a,b,wrap .i64 (c+(wrap .i64 (x1*x2))),d,e,wrap .i64 (f+1),())))) (some (.inr (b,c,())))) s.1 s.2.1 s.2.2.1 s.2.2.2.1 s.2.2.2.2.1 s.2.2.2.2.2.1
def a3T(x:Z12):Option Int:=(y0s a2M (x.1,x.2.2,0,x.2.1,(x.2.1.length:Int),0,())).bind fun w3=>cond (decide (w3.1<0)) none (some (A0o .i64 w3.2.1 w3.1))
def b6a:FSem:=⟨[.v QL,.v QL,.v QI],[.v QI],a3T⟩
def d5M:Hints:=⟨[(58,[.sv 0 QL,2,7,.sv 11 QL,12,13],[Qe 0 [2,7]])],[],[]⟩
def a5q(s:(LI×Z74)):Option ((LI×Z74) ⊕ Z57):=(fun(a:LI)(b c:Int)(d:LI)=>cond (decide (c<b)) ((m0k a c).bind fun x6=>(a3T (d,s.1,s.2.1)).bind fun y7=>(a4e (wrap .i64 (y7+x6))).bind fun y8=>cond (!y8) (some (.inr (Sum.inr ((6,[],()))))) (cond (lim ((a01 d)+1)) (some (.inl (s.1,s.2.1,a,b,wrap .i64 (c+1),a04 d [wrap .i64 (y7+x6)],()))) none)) (some (.inr (Sum.inl (d,()))))) s.2.2.1 s.2.2.2.1 s.2.2.2.2.1 s.2.2.2.2.2.1
def a5I(x:(LI×Z12)):Option (LI×Int):=(show Option Z95 from(a3S (x.2.2.1,x.2.2.2)).bind fun y1=>cond (!y1) (some (x.1,x.2.1,x.2.2.1,x.2.2.2,true,())) (some (x.1,x.2.1,x.2.2.1,x.2.2.2,(x.1.length:Int) != (x.2.2.1.length:Int),()))).bind fun z2=>cond z2.2.2.2.2.1 (some ([],1)) ((show Option Z95 from(a2l z2.1).bind fun y3=>cond (!y3) (some (z2.1,z2.2.1,z2.2.2.1,z2.2.2.2.1,true,())) ((a2l z2.2.1).bind fun y4=>some (z2.1,z2.2.1,z2.2.2.1,z2.2.2.2.1,!y4,()))).bind fun z5=>cond z5.2.2.2.2.1 (some ([],6)) (cond ((decide (0≤(wrap .i64 ((z5.1.length:Int)+(z5.2.1.length:Int)))))&&(lim (a00 (wrap .i64 ((z5.1.length:Int)+(z5.2.1.length:Int)))))) (cond (lim (0+(a01 z5.1))) ((y0s a5q (z5.2.2.1,z5.2.2.2.1,z5.2.1,(z5.2.1.length:Int),0,a04 [] z5.1,())).bind fun w9=>match w9 with |.inl a10=>some (a10.1,0) |.inr b11=>some (b11.2.1,b11.1)) none) none))
def c0U:FSem:=⟨[.v QL,.v QL,.v QL,.v QI],[.o QI,.v QI],a5I⟩
def d5N:Hints:=⟨[(506,[.sv 2 QL,3,.sv 42 QL,43,44,.own 10 10 QI],[Qe 0 [.own 10 10 QI],Qr [9,.own 8 8 QI]])],[(6,[Qn [.sv 0 QL,.sv 1 QL,.sv 2 QL,3,.sv 24 .bool]]),(14,[Qn [.sv 0 QL,.sv 1 QL,.sv 2 QL,3,.sv 32 .bool]])],[]⟩
def a5V(x:Int):Option Bool:=cond (decide (x≥(-1073741824))) (some (decide (x<1073741824))) (some false)
def c3L:FSem:=⟨[.v QI],[.v .bool],a5V⟩
def a3y(s:Z18):Option Z89:=cond (decide (s.2.2.1<s.2.1)) ((m0k s.1 s.2.2.1).bind fun x1=>(a5V x1).bind fun y2=>cond (!y2) (some (.inr (Sum.inr ((false,()))))) (some (.inl (s.1,s.2.1,wrap .i64 (s.2.2.1+1),())))) (some (.inr (Sum.inl ())))
def a3N(x:LI):Option Bool:=(y0s a3y (x,(x.length:Int),0,())).bind fun w3=>match w3 with |.inl a4=>some true |.inr b5=>some b5.1
def b8v:FSem:=⟨[.v QL],[.v .bool],a3N⟩
def d5O:Hints:=⟨[(26,[.sv 5 QL,6,7],[Qe 0 [],Qr [.sv 2 .bool]])],[],[]⟩
def a3z(s:(LI×(Int×Int×Z20))):Option ((LI×(Int×Int×Z20)) ⊕ (Int×Unit)):=(fun(a b c:Int)(d:LI)(e:Int)=>cond (decide (e<3)) ((m0k d e).bind fun x1=>cond (decide ((wrap .i64 ((wrap .i64 ((wrap .i64 (a-b))-1))+e))≥0)) ((m0k s.1 (wrap .i64 ((wrap .i64 ((wrap .i64 (a-b))-1))+e))).bind fun x2=>some (.inl (s.1,a,b,wrap .i64 (c+(wrap .i64 (x1*x2))),d,wrap .i64 (e+1),()))) (some (.inl (s.1,a,b,c,d,wrap .i64 (e+1),())))) (some (.inr (c,())))) s.2.1 s.2.2.1 s.2.2.2.1 s.2.2.2.2.1 s.2.2.2.2.2.1
def a3O(x:(LI×Z2)):Option Int:=(y0s a3z (x.1,x.2.1,x.2.2.1,0,x.2.2.2,0,())).bind fun w3=>some (A0o .i64 w3.1 6)
def b8w:FSem:=⟨[.v QL,.v QI,.v QI,.v (.arr 3 QI)],[.v QI],a3O⟩
def d5P:Hints:=⟨[(58,[.sv 0 QL,1,2,9,.sv 13 (.arr 3 QI),14],[Qe 0 [9]])],[],[]⟩
def a6M(s:c5k):Option (c5k ⊕ Z57):=(fun(a b:Int)(c d:LI)=>cond (decide (b<a)) ((m0k s.2.1 b).bind fun x3=>(a3O (c,b,s.1,d)).bind fun y4=>(a5V (wrap .i64 (x3+y4))).bind fun y5=>cond (!y5) (some (.inr (Sum.inr ((6,[],()))))) (cond (lim ((a01 c)+1)) (some (.inl (s.1,s.2.1,a,wrap .i64 (b+1),a04 c [wrap .i64 (x3+y4)],d,()))) none)) (some (.inr (Sum.inl (c,()))))) s.2.2.1 s.2.2.2.1 s.2.2.2.2.1 s.2.2.2.2.2.1
def a8T(x:Z13):Option (LI×Int):=(a6L (x.2.1,x.2.2)).bind fun y1=>cond (!y1) (some ([],1)) ((a3N x.1).bind fun y2=>cond (!y2) (some ([],6)) (cond ((decide (0≤(x.1.length:Int)))&&(lim (a00 (x.1.length:Int)))) ((y0s a6M (x.2.1,x.1,(x.1.length:Int),0,[],x.2.2,())).bind fun w6=>match w6 with |.inl a7=>some (a7.1,0) |.inr b8=>some (b8.2.1,b8.1)) none))
def c3M:FSem:=⟨[.v QL,.v QI,.v (.arr 3 QI)],[.o QI,.v QI],a8T⟩
def d5Q:Hints:=⟨[(250,[1,.sv 22 QL,23,24,.own 8 8 QI,.vp 5 (.arr 3 QI)],[Qe 0 [.own 8 8 QI],Qr [7,.own 6 6 QI]])],[],[]⟩
def a4Y(x:Int):Option Bool:=cond (decide (x≥(-1073741824))) (some (decide (x<1073741824))) (some false)
def b3A:FSem:=⟨[.v QI],[.v .bool],a4Y⟩
def a3f(s:Z18):Option Z89:=cond (decide (s.2.2.1<s.2.1)) ((m0k s.1 s.2.2.1).bind fun x1=>(a4Y x1).bind fun y2=>cond (!y2) (some (.inr (Sum.inr ((false,()))))) (some (.inl (s.1,s.2.1,wrap .i64 (s.2.2.1+1),())))) (some (.inr (Sum.inl ())))
def a4j(x:LI):Option Bool:=(y0s a3f (x,(x.length:Int),0,())).bind fun w3=>match w3 with |.inl a4=>some true |.inr b5=>some b5.1
def b1k:FSem:=⟨[.v QL],[.v .bool],a4j⟩
def d5R:Hints:=⟨[(26,[.sv 5 QL,6,7],[Qe 0 [],Qr [.sv 2 .bool]])],[],[]⟩
def a7m(x:(Int×Int×Unit)):Option Z51:=(a5H x).bind fun y1=>cond (!y1) none (cond ((decide (0≤x.1))&&((decide (x.1≤x.1))&&(lim (a00 x.1)))) (cond ((decide (0≤x.1))&&((decide (x.1≤x.1))&&(lim (a00 x.1)))) (some ((x.2.1,a02 (a00 x.1) 0,a02 (a00 x.1) 0,()),0)) none) none)
def b5w:FSem:=⟨[.v Q5],[.b Q19,.v QI],a7m⟩
def d5S:Hints:=⟨[],[],[(3,[.v,.v,.v,.v,.q,.v,.v,.q,.x,.x,.x,.x])]⟩
def a4k(x:Int):Option Int:=some (v0s (v0r x (-1073741824)) 1073741823)
def b6Q:FSem:=⟨[.v QI],[.v QI],a4k⟩
def a2I(s:c1V):Option (c1V ⊕ Z81):=(fun(a:Int)(b:Z30)=>cond (decide (a<s.2.1)) (cond ((decide (0≤a))&&(decide (a<(b.2.1.length:Int)))) (cond ((decide (0≤a))&&(decide (a<(b.2.2.1.length:Int)))) (some (.inl (wrap .i64 (s.1+(wrap .i64 ((a03 b.2.1 (a00 a) 0)*(a03 b.2.2.1 (a00 a) 0)))),s.2.1,wrap .i64 (a+1),b,()))) none) none) (some (.inr (s.1,b,())))) s.2.2.1 s.2.2.2.1
def a1X(x:Z30):Option Z50:=(y0s a2I (0,(x.2.1.length:Int),0,x,())).bind fun w1=>(a4k (A0o .i64 w1.1 16)).bind fun y2=>some (y2,w1.2.1)
def a7W:FSem:=⟨[.r false (.b Q19)],[.v QI],a1X⟩
def d5T:Hints:=⟨[(58,[3,10,11,.box pinned Q19,Qp 0 pinned,.ref 9 pinned [.snd,.fst]],[Qe 0 [3,.box pinned Q19]])],[],[]⟩
def a2e(s:(Int×c1V)):Option ((Int×c1V) ⊕ Z81):=(fun(a b c d:Int)(e:Z30)=>cond (decide (d<c)) (cond ((decide (0≤d))&&(decide (d<(e.2.2.1.length:Int)))) (cond ((decide (0≤d))&&(decide (d<(e.2.1.length:Int)))) ((show Option (Int×Int×Int×c1V)from cond (decide ((a03 e.2.2.1 (a00 d) 0) > 0)) (some (a,b,d,wrap .i64 ((a03 e.2.1 (a00 d) 0)+b),c,d,e,())) (cond (decide ((a03 e.2.2.1 (a00 d) 0)<0)) (some (a,b,d,wrap .i64 ((a03 e.2.1 (a00 d) 0)-b),c,d,e,())) (some (a,b,d,a03 e.2.1 (a00 d) 0,c,d,e,())))).bind fun z4=>cond ((decide (0≤z4.2.2.1))&&(decide (z4.2.2.1<(z4.2.2.2.2.2.2.1.2.1.length:Int)))) (some (.inl (z4.1,z4.2.1,z4.2.2.2.2.1,wrap .i64 (z4.2.2.2.2.2.1+1),(z4.2.2.2.2.2.2.1.1,a05 z4.2.2.2.2.2.2.1.2.1 (a00 z4.2.2.1) (v0s (v0r z4.2.2.2.1 (-1048576)) 1048576),z4.2.2.2.2.2.2.1.2.2),()))) none) none) none) (some (.inr (a,e,())))) s.1 s.2.1 s.2.2.1 s.2.2.2.1 s.2.2.2.2.1
def a2N(x:Z51):Option Z30:=(a4k x.2).bind fun y1=>(show Option Z99 from(a1X x.1).bind fun y2=>cond (decide (y1 > y2.1)) (cond (decide (y2.2.1<0)) none (some (y1,A0n .i64 1 y2.2.1,y2.2,()))) (cond (decide (y1<y2.1)) (cond (decide (y2.2.1<0)) none (some (y1,wrap .i64 (0-(A0n .i64 1 y2.2.1)),y2.2,()))) (some (y1,0,y2.2,())))).bind fun z3=>(y0s a2e (z3.1,z3.2.1,(z3.2.2.1.2.2.1.length:Int),0,z3.2.2.1,())).bind fun w5=>cond (decide (1≤(w5.2.1.2.2.1.length:Int))) (cond (decide (0<(a01 (p0h w5.2.1.2.2.1 1 ((a01 w5.2.1.2.2.1)-1) w5.2.1.2.2.1):Int))) (some (w5.2.1.1,w5.2.1.2.1,a05 (p0h w5.2.1.2.2.1 1 ((a01 w5.2.1.2.2.1)-1) w5.2.1.2.2.1) 0 w5.1,w5.2.1.2.2.2)) none) none
def a8x:FSem:=⟨[.r false (.b Q19),.v QI],[],a2N⟩
def d5U:Hints:=⟨[(122,[1,4,36,37,.box pinned Q19,Qp 0 pinned,.ref 35 pinned [.snd,.snd,.fst]],[Qe 1 [1,.box pinned Q19,Qp 0 pinned]])],[(7,[Qn [1,4,.box pinned Q19,Qp 0 pinned]]),(15667,[Qn [1,4,6,8,36,37,.box pinned Q19,Qp 0 pinned,.ref 35 pinned [.snd,.snd,.fst]]])],[(17,[.p,.p,.q,.q,.q,.p,.p,.q,.q,.x])]⟩
def a4l(s:(Int×(Int×(LI×c8p)))):Option ((Int×(Int×(LI×c8p))) ⊕ (Z31 ⊕ Z31)):=(fun(a:Int)(b:LI)(c:Int)(d:LI)=>cond (decide (a<s.1)) (cond ((decide (0≤a))&&(decide (a<(d.length:Int)))) ((a1X s.2.2.2.2.2.1).bind fun y6=>(a4Y (wrap .i64 (y6.1+(a03 d (a00 a) 0)))).bind fun y7=>cond (!y7) (some (.inr (Sum.inr (([],6,d,()))))) ((a2N (y6.2,wrap .i64 (y6.1+(a03 d (a00 a) 0)))).bind fun y8=>cond ((decide (0≤a))&&(decide (a<(d.length:Int)))) (some (.inl (s.1,wrap .i64 (a+1),b,c,a05 d (a00 a) (wrap .i64 (y6.1+(a03 d (a00 a) 0))),y8,()))) none)) none) (some (.inr (Sum.inl (b,c,d,()))))) s.2.1 s.2.2.1 s.2.2.2.1 s.2.2.2.2.1
def a6f(k:Int)(v:(Int×Int×Unit))(s:(Z4×Z31)):Option ((Z4×Z31) ⊕ (Ex×Z4×Z31)):=(a7m v).bind fun y4=>cond (y4.2 != 0) (some (.inr (.ret,s.1,[],y4.2,s.2.2.2.1,()))) ((y0s a4l ((s.2.2.2.1.length:Int),0,s.2.1,s.2.2.1,s.2.2.2.1,y4.1,())).bind fun w9=>match w9 with |.inl a10=>some (.inl (s.1,a10.1,a10.2.1,a10.2.2.1,())) |.inr b11=>some (.inr (.ret,s.1,b11.1,b11.2.1,b11.2.2.1,())))
def a7X(x:(LI×Z4)):Option (LI×Int):=(a5T x.2).bind fun y1=>cond (!y1) (some ([],1)) ((a4j x.1).bind fun y2=>cond (!y2) (some ([],6)) ((a0X x.1).bind fun y3=>cond (lim (a01 x.2)) ((l0f a6f x.2 (a01 x.2) (x.2,[],0,y3,())).bind fun w12=>match w12 with |.inl a13=>some (a13.2.2.2.1,0) |.inr (.normal,a14)=>some (a14.2.2.2.1,0) |.inr (.exit e15,a14)=>(cond (e15==0) (some (a14.2.2.2.1,0)) none) |.inr (.ret,a14)=>some (a14.2.1,a14.2.2.1)) none))
def a7Y:FSem:=⟨[.v QL,.v (.list false Q5)],[.v QL,.v QI],a7X⟩
def d5V:Hints:=⟨[(8046,[35,36,.box 1001004 QL,.box 1001005 QI,.box 1001006 (.list true QI),.box 1028 Q19,Qp 4 1001004,Qp 5 1001005,Qp 6 1001006,Qp 9 1028,.ref 34 1001006 []],[Qe 2 [.box 1001004 QL,.box 1001005 QI,.box 1001006 (.list true QI),Qp 4 1001004,Qp 5 1001005,Qp 6 1001006],Qr [.box 1001004 QL,.box 1001005 QI,.box 1001006 (.list true QI),Qp 4 1001004,Qp 5 1001005,Qp 6 1001006]])],[],[]⟩
def c9j:Cx:=b3z [(140,a1K),(287,b5v),(339,b1k),(341,b5w),(342,a7W),(343,b3A),(344,a8x)] [(6,.list true QI)] 15875 72057594037927936
def d1z:HintR:=⟨22,Q5,340,361,[4,5,6],[.sv 22 (.list false Q5),.box 1001004 QL,.box 1001005 QI,.box 1001006 (.list true QI),.ptr 4 1001004 [],.ptr 5 1001005 [],.ptr 6 1001006 []]⟩
theorem d2e(x):z0h c9j d5V d1z Tryz.f293 a7Y.ps a7Y.rs x=a7Y.F x:=by kernel_rfl
def a4f(x:Int):Option Bool:=cond (decide ((-1073741824)≤x)) (some (decide (x<1073741824))) (some false)
def c0V:FSem:=⟨[.v QI],[.v .bool],a4f⟩
def a6N(s:Z74):Option (Z74 ⊕ Z57):=(fun(a:Int)(b:LI)(c d:Int)(e:LI)=>cond (decide (d<c)) ((m0k b d).bind fun x2=>(show Option (Int×(Int×(LI×Z41)))from(a4f x2).bind fun y3=>cond (!y3) (some (a,x2,b,c,d,true,e,())) (cond (decide (a<0)) none ((a4f (A0n .i64 x2 a)).bind fun y4=>some (a,x2,b,c,d,!y4,e,())))).bind fun z5=>cond z5.2.2.2.2.2.1 (some (.inr (Sum.inr ((6,[],()))))) (cond (decide (z5.1<0)) none (cond (lim ((a01 z5.2.2.2.2.2.2.1)+1)) (some (.inl (z5.1,z5.2.2.1,z5.2.2.2.1,wrap .i64 (z5.2.2.2.2.1+1),a04 z5.2.2.2.2.2.2.1 [A0n .i64 z5.2.1 z5.1],()))) none))) (some (.inr (Sum.inl (e,()))))) s.1 s.2.1 s.2.2.1 s.2.2.2.1 s.2.2.2.2.1
def a7n(x:(LI×Int)):Option (LI×Int):=(show Option Z21 from cond (decide (x.2<0)) (some (x.1,x.2,true,())) (some (x.1,x.2,decide (x.2 > 30),()))).bind fun z1=>cond z1.2.2.1 (some ([],1)) ((y0s a6N (z1.2.1,z1.1,(z1.1.length:Int),0,[],())).bind fun w6=>match w6 with |.inl a7=>some (a7.1,0) |.inr b8=>some (b8.2.1,b8.1))
def c3N:FSem:=⟨[.v QL,.v QI],[.o QI,.v QI],a7n⟩
def d5W:Hints:=⟨[(122,[1,.sv 15 QL,16,17,.own 6 6 QI],[Qe 0 [.own 6 6 QI],Qr [5,.own 4 4 QI]])],[(6,[Qn [.sv 0 QL,1,.sv 14 .bool]]),(15666,[Qn [1,8,.sv 15 QL,16,17,.sv 30 .bool,.own 6 6 QI]])],[]⟩
def a5J(s:c5x):Option (c5x ⊕ (LI×Unit)):=cond (decide (s.2.1<s.1)) ((m0k s.2.2.2.1.2.2.2.2.2.2.2.2.1 0).bind fun x1=>cond (lim ((a01 s.2.2.1)+1)) (some (.inl (s.1,wrap .i64 (s.2.1+1),a04 s.2.2.1 [x1],s.2.2.2.1,()))) none) (some (.inr (s.2.2.1,())))
def a9P(x:a7S):Option (LI×Int):=(show Option ((LI×(Int×b2A)) ⊕ Z5)from cond (x.1.1==0) ((y0s a5J (x.2,0,[],x.1,())).bind fun w2=>some (Sum.inr ((0,w2.1,())))) (cond (x.1.1==1) (some (Sum.inl (x.1.2.2.2.2.2.2.2.2.1,0,x.1,()))) (cond (x.1.1==2) ((a7V (x.1.2.2.2.2.2.2.2.2.1,x.1.2.2.2.2.2.2.2.2.2.2.1,x.1.2.2.1)).bind fun y3=>some (Sum.inl (y3.1,y3.2,x.1,()))) (cond (x.1.1==3) ((a5I (x.1.2.2.2.2.2.2.2.2.1,x.1.2.2.2.2.2.2.2.2.2.2.1,x.1.2.2.2.2.2.1,x.1.2.2.2.1)).bind fun y4=>some (Sum.inl (y4.1,y4.2,x.1,()))) (cond (x.1.1==4) ((a5I (x.1.2.2.2.2.2.2.2.2.1,x.1.2.2.2.2.2.2.2.2.2.2.1,x.1.2.2.2.2.2.1,x.1.2.2.2.1)).bind fun y5=>cond (y5.2==0) ((a8T (y5.1,x.1.2.2.2.2.1,x.1.2.2.2.2.2.2.1)).bind fun y6=>some (Sum.inl (y6.1,y6.2,x.1,()))) (some (Sum.inl (y5.1,y5.2,x.1,())))) (cond (x.1.1==5) ((a7X (x.1.2.2.2.2.2.2.2.2.2.2.1,x.1.2.2.2.2.2.2.2.1)).bind fun y7=>some (Sum.inl (y7.1,y7.2,x.1,()))) (some (Sum.inl ([],0,x.1,()))))))))).bind fun z8=>match z8 with |.inl a9=>(cond (a9.2.1 != 0) (some ([],a9.2.1)) ((a7n (a9.1,a9.2.2.1.2.1)).bind fun y11=>some (y11.1,y11.2))) |.inr b10=>some (b10.2.1,b10.1)
def c5M:FSem:=⟨[.v Q61,.v QI],[.o QI,.v QI],a9P⟩
def d5X:Hints:=⟨[(3922,[12,13,.own 6 6 QI,.vp 2 Q61],[Qe 1 [.own 6 6 QI]])],[(15,[Qn [.sv 6 QL,7,.vp 2 Q61],Qr [5,.own 4 6 QI]])],[]⟩
def a9l(x:a7S):Option (LI×Int):=(a7U (x.1,x.2)).bind fun y1=>cond (!y1) (some ([],1)) ((a9P (x.1,x.2)).bind fun y2=>cond (y2.2 != 0) (some ([],1)) (some (y2.1,0)))
def c7m:FSem:=⟨[.v Q61,.v QI],[.o QI,.v QI],a9l⟩
def a7o(x:Int):Option Bool:=cond (decide ((-1073741824)≤x)) (some (decide (x<1073741824))) (some false)
def c3O:FSem:=⟨[.v QI],[.v .bool],a7o⟩
def a3P(s:((List LI)×((List LI)×Z59))):Option (((List LI)×((List LI)×Z59)) ⊕ (((List LI)×Z32) ⊕ (Bool×Unit))):=(fun(a b:Int)(c:LI)(d e:Int)=>cond (decide (e<d)) ((m0k c e).bind fun x5=>(a7o x5).bind fun y6=>cond (!y6) (some (.inr (Sum.inr ((false,()))))) (some (.inl (s.1,s.2.1,a,b,c,d,wrap .i64 (e+1),())))) (some (.inr (Sum.inl (s.1,s.2.1,a,b,()))))) s.2.2.1 s.2.2.2.1 s.2.2.2.2.1 s.2.2.2.2.2.1 s.2.2.2.2.2.2.1
def a3Q(s:((List LI)×Z32)):Option (((List LI)×Z32) ⊕ Z0):=(fun(a b:Int)=>cond (decide (b<a)) ((m0k s.2.1 b).bind fun x3=>(m0k s.1 0).bind fun x4=>cond ((x3.length:Int) != (x4.length:Int)) (some (.inr (Sum.inr ((false,()))))) ((y0s a3P (s.1,s.2.1,a,b,x3,(x3.length:Int),0,())).bind fun w7=>match w7 with |.inl a8=>some (.inl (a8.1,a8.2.1,a8.2.2.1,wrap .i64 (a8.2.2.2.1+1),())) |.inr b9=>some (.inr (Sum.inr ((b9.1,())))))) (some (.inr (Sum.inl ())))) s.2.2.1 s.2.2.2.1
def a5W(x:(List LI)):Option Bool:=(show Option ((List LI)×(Bool×Unit))from cond (decide ((x.length:Int)<1)) (some (x,true,())) (cond (decide ((x.length:Int) > 8)) (some (x,true,())) ((m0k x 0).bind fun x1=>some (x,decide ((x1.length:Int) > 4096),())))).bind fun z2=>cond z2.2.1 (some false) ((y0s a3Q (z2.1,z2.1,(z2.1.length:Int),0,())).bind fun w10=>match w10 with |.inl a11=>some true |.inr b12=>some b12.1)
def b5x:FSem:=⟨[.v (.list false QL)],[.v .bool],a5W⟩
def d5Y:Hints:=⟨[(58,[.sv 0 (.list false QL),.sv 22 (.list false QL),23,24],[Qe 0 [],Qr [.sv 2 .bool]]),(29902,[.sv 0 (.list false QL),.sv 22 (.list false QL),23,24,.sv 35 QL,36,37],[Qe 2 [.sv 0 (.list false QL),.sv 22 (.list false QL),23,24],Qr [.sv 2 .bool]])],[(6,[Qn [.sv 0 (.list false QL),.sv 21 .bool]])],[]⟩
def a5r(s:((List LI)×Z33)):Option (((List LI)×Z33) ⊕ Z1):=cond (decide (s.2.2.1<s.2.1)) ((m0k s.1 s.2.2.1).bind fun x1=>(a0X x1).bind fun y2=>cond (lim ((a01 s.2.2.2.1)+(a01 (a05 ([[]]:List LI) 0 y2)))) (some (.inl (s.1,s.2.1,wrap .i64 (s.2.2.1+1),a04 s.2.2.2.1 (a05 ([[]]:List LI) 0 y2),()))) none) (some (.inr (s.2.2.2.1,())))
def a5K(x:(List LI)):Option (List LI):=(y0s a5r (x,(x.length:Int),0,([]:(List LI)),())).bind fun w3=>some w3.1
def b2Y:FSem:=⟨[.v (.list false QL)],[.o (.list true QI)],a5K⟩
def d5Z:Hints:=⟨[(58,[.sv 6 (.list false QL),7,8,.own 3 3 (.list true QI)],[Qe 0 [.own 3 3 (.list true QI)]])],[],[]⟩
def a3o(s:(Int×(Int×(Int×((List LI)×(Z7×Int×Unit)))))):Option ((Int×(Int×(Int×((List LI)×(Z7×Int×Unit))))) ⊕ (Z1 ⊕ (Bool×Z1))):=(fun(a:Int)(b:List LI)(c:Z7)(d:Int)=>cond (decide (a<s.2.1)) (cond ((decide (0≤a))&&(decide (a<((a01 (a03 b (a00 d) []):Nat):Int)))) (cond ((decide (0≤c.2.1))&&(decide (c.2.1<(b.length:Int)))) (cond ((decide (0≤a))&&(decide (a<((a01 (a03 b (a00 c.2.1) []):Nat):Int)))) ((a7o (wrap .i64 ((a03 (a03 b (a00 c.2.1) []) (a00 a) 0)+(wrap .i64 (s.1*(A0o .i64 (wrap .i64 (c.2.2.1*(a03 (a03 b (a00 d) []) (a00 a) 0))) 8)))))).bind fun y1=>cond (!y1) (some (.inr (Sum.inr ((false,b,()))))) (cond ((decide (0≤c.2.1))&&(decide (c.2.1<(b.length:Int)))) (cond ((decide (0≤a))&&(decide (a<((a01 (a03 b (a00 c.2.1) []):Nat):Int)))) (some (.inl (s.1,s.2.1,wrap .i64 (a+1),a05 b (a00 c.2.1) (a05 (a03 b (a00 c.2.1) []) (a00 a) (wrap .i64 ((a03 (a03 b (a00 c.2.1) []) (a00 a) 0)+(wrap .i64 (s.1*(A0o .i64 (wrap .i64 (c.2.2.1*(a03 (a03 b (a00 d) []) (a00 a) 0))) 8)))))),c,((a00 d:Nat):Int),()))) none) none)) none) none) none) (some (.inr (Sum.inl (b,()))))) s.2.2.1 s.2.2.2.1 s.2.2.2.2.1 s.2.2.2.2.2.1
def a6v(x:((List LI)×(Z7×Int))):Option (Bool×(List LI)):=cond ((decide (0≤x.2.1.1))&&(decide (x.2.1.1<(x.1.length:Int)))) ((y0s a3o (x.2.2,((a01 (a03 x.1 (a00 x.2.1.1) []):Nat):Int),0,x.1,x.2.1,((a00 x.2.1.1:Nat):Int),())).bind fun w2=>match w2 with |.inl a3=>some (true,a3.1) |.inr b4=>some (b4.1,b4.2.1)) none
def b3B:FSem:=⟨[.r false (.o (.list true QI)),.v Q14,.v QI],[.v .bool],a6v⟩
def d6a:Hints:=⟨[(26,[2,15,16,.own 0 pinned (.list true QI),.vp 4 Q14,.rfi 14 pinned],[Qe 0 [.own 0 pinned (.list true QI)],Qr [.sv 6 .bool,.own 0 pinned (.list true QI)]])],[],[(4,[.q,.v,.v,.q,.q,.v,.q,.q,.v,.v,.v,.v,.v,.v,.v,.x,.x])]⟩
def a4Z(k:Int)(v:Z7)(s:(Z17×Z71)):Option ((Z17×Z71) ⊕ (Ex×Z17×Z71)):=(a6v (s.2.2.2.1,v,(-1))).bind fun y5=>cond (!y5.1) (some (.inr (.ret,s.1,([]:(List LI)),6,y5.2,()))) (some (.inl (s.1,s.2.1,s.2.2.1,y5.2,())))
def a8U(x:Z72):Option ((List LI)×Int):=(show Option ((List LI)×(Z17×Bool×Z16))from(a5W x.1).bind fun y1=>cond (!y1) (some (x.1,x.2,true,([]:(List LI)),0,())) ((a6K (x.2,(x.1.length:Int))).bind fun y2=>some (x.1,x.2,!y2,([]:(List LI)),0,()))).bind fun z3=>cond z3.2.2.1 (some (([]:(List LI)),1)) ((a5K z3.1).bind fun y4=>cond (lim (a01 z3.2.1)) ((l0f a4Z z3.2.1 (a01 z3.2.1) (z3.2.1,z3.2.2.2.1,z3.2.2.2.2.1,y4,())).bind fun w6=>match w6 with |.inl a7=>some (a7.2.2.2.1,0) |.inr (.normal,a8)=>some (a8.2.2.2.1,0) |.inr (.exit e9,a8)=>(cond (e9==0) (some (a8.2.2.2.1,0)) none) |.inr (.ret,a8)=>some (a8.2.1,a8.2.2.1)) none)
def a8V:FSem:=⟨[.v (.list false QL),.v (.list false Q14)],[.v (.list false QL),.v QI],a8U⟩
def d6b:Hints:=⟨[],[(6,[Qn [.sv 0 (.list false QL),.sv 1 (.list false Q14),.sv 18 .bool,.box 4 (.list false QL),.box 5 QI,Qp 4 4,Qp 5 5]])],[]⟩
def c9k:Cx:=b3z [(174,b5x),(175,b6O),(176,b2Y),(177,b3B)] [(6,.list true (.list true QI))] 3 536870912
def d1A:HintR:=⟨21,Q14,226,295,[4,5,6],[.sv 21 (.list false Q14),.box 1001004 (.list false QL),.box 1001005 QI,.box 1001006 (.list true (.list true QI)),.ptr 4 1001004 [],.ptr 5 1001005 [],.ptr 6 1001006 []]⟩
theorem d2f(x):z0h c9k d6b d1A Tryz.f159 a8V.ps a8V.rs x=a8V.F x:=by kernel_rfl
def a3U(s:(a8D×Int×c5D)):Option ((a8D×Int×c5D) ⊕ (c8t ⊕ Z55)):=(fun(a:Int)(b:List LI)(c:Z14)(d:a1x)=>cond (decide (a<s.2.1)) ((m0k s.1 a).bind fun x3=>(a9l (x3,d.2.1)).bind fun y4=>cond (y4.2 != 0) (some (.inr (Sum.inr ((1,(0,([]:(List LI)),()),()))))) (cond (lim ((a01 b)+1)) (some (.inl (s.1,s.2.1,wrap .i64 (a+1),a04 b ([y4.1]:List LI),c,d,()))) none)) (some (.inr (Sum.inl (b,c,d,()))))) s.2.2.1 s.2.2.2.1 s.2.2.2.2.1 s.2.2.2.2.2.1
def a2F(x:a1x):Option Z34:=(show Option (Bool×c5B)from(a5F x).bind fun y1=>cond (!y1) (some (true,(0,([]:(List LI)),()),x,())) (some ((x.2.2.2.2.1.length:Int) != x.2.2.1.2.1,(0,([]:(List LI)),()),x,()))).bind fun z2=>cond z2.1 (some ((0,([]:(List LI)),()),1)) (cond ((decide (0≤(z2.2.2.1.2.2.2.2.1.length:Int)))&&(lim (a00 (z2.2.2.1.2.2.2.2.1.length:Int)))) ((y0s a3U (z2.2.2.1.2.2.2.2.1,(z2.2.2.1.2.2.2.2.1.length:Int),0,([]:(List LI)),z2.2.1,z2.2.2.1,())).bind fun w5=>match w5 with |.inl a6=>((a8U (a6.1,a6.2.2.1.2.2.2.1)).bind fun y8=>cond (y8.2 != 0) (some ((0,([]:(List LI)),()),1)) ((a3a (a6.2.2.1.2.2.1.2.2.1,y8.1,())).bind fun y9=>cond (!y9) (some ((0,([]:(List LI)),()),1)) (some ((a6.2.2.1.2.2.1.2.2.1,y8.1,()),0)))) |.inr b7=>some (b7.2.1,b7.1)) none)
def c0W:FSem:=⟨[.v Q83],[.v Q17,.v QI],a2F⟩
def H73:Hints:=⟨[(122,[.sv 30 (.list false Q61),31,32,.own 4 4 QL,.box 2 Q17,.vp 1 Q83,Qp 2 2],[Qe 0 [.own 4 4 QL,.box 2 Q17,.vp 1 Q83,Qp 2 2],Qr [3,.box 2 Q17,Qp 2 2]])],[(6,[Qn [.sv 23 .bool,.box 2 Q17,.vp 1 Q83,Qp 2 2]])],[]⟩
def a5X(x:a1x):Option Bool:=(a2F x).bind fun y1=>some (y1.2==0)
def c3P:FSem:=⟨[.v Q83],[.v .bool],a5X⟩
def a6w(x:a7S):Option Bool:=(a9l (x.1,x.2)).bind fun y1=>some (y1.2==0)
def c7n:FSem:=⟨[.v Q61,.v QI],[.v .bool],a6w⟩
def a2z(s:Z59):Option (Z59 ⊕ Z36):=(fun(a b:Int)(c:LI)(d e:Int)=>cond (b != 0) (cond (decide (a<32)) ((a1V (b,a)).bind fun y2=>cond (!y2) (some (.inl (wrap .i64 (a+1),b,c,d,e,()))) (some (.inr (a,c,d,e,())))) (some (.inr (a,c,d,e,())))) (some (.inr (a,c,d,e,())))) s.1 s.2.1 s.2.2.1 s.2.2.2.1 s.2.2.2.2.1
def a4J(s:Z36):Option Z85:=(fun(a b:Int)=>cond (decide (b<a)) ((m0k s.2.1 b).bind fun x1=>(y0s a2z (s.1,x1,s.2.1,a,b,())).bind fun w3=>some (.inl (w3.1,w3.2.1,w3.2.2.1,wrap .i64 (w3.2.2.2.1+1),()))) (some (.inr (s.1,())))) s.2.2.1 s.2.2.2.1
def a1B(x:LI):Option Int:=(y0s a4J (0,x,(x.length:Int),0,())).bind fun w4=>some w4.1
def b8x:FSem:=⟨[.v QL],[.v QI],a1B⟩
def d6c:Hints:=⟨[(58,[3,.sv 6 QL,7,8],[Qe 0 [3]]),(7474,[3,5,.sv 6 QL,7,8],[Qe 2 [3,.sv 6 QL,7,8]])],[],[]⟩
def a3A(x:(Z6×Int)):Option Z6:=(show Option Z42 from cond ((a07 x.1.2.1 8)==0) (cond (lim ((a01 x.1.1)+1)) (some (x.2,(a04 x.1.1 [0],x.1.2),())) none) (some (x.2,x.1,()))).bind fun z1=>cond ((decide (0≤(wrap .i64 (a08 z1.2.1.2.1 8))))&&(decide ((wrap .i64 (a08 z1.2.1.2.1 8))<(z1.2.1.1.length:Int)))) (cond (decide ((wrap .i64 (7-(a07 z1.2.1.2.1 8)))<0)) none (cond ((decide (0≤(wrap .i64 (a08 z1.2.1.2.1 8))))&&(decide ((wrap .i64 (a08 z1.2.1.2.1 8))<(z1.2.1.1.length:Int)))) (some (a05 z1.2.1.1 (a00 (wrap .i64 (a08 z1.2.1.2.1 8))) (bits .u8 .or (a03 z1.2.1.1 (a00 (wrap .i64 (a08 z1.2.1.2.1 8))) 0) (A0n .u8 z1.1 (wrap .i64 (7-(a07 z1.2.1.2.1 8))))),wrap .i64 (z1.2.1.2.1+1),z1.2.1.2.2)) none)) none
def b4V:FSem:=⟨[.r false (.b Q11),.v QV],[],a3A⟩
def d6d:Hints:=⟨[],[(1,[Qn [.sv 1 QV,.box pinned Q11,Qp 0 pinned]])],[(2,[.p,.p,.q,.q,.p,.p,.q,.q,.v,.q,.q,.v,.p,.p,.q,.q,.v,.v,.v,.x,.x,.x])]⟩
def b2B(s:Z66):Option (Z66 ⊕ Z24):=cond (decide (s.2.1≥0)) (cond (decide (s.2.1<0)) none ((a3A (s.2.2.1,wrap .u8 (bits .u64 .and (A0o .u64 s.1 s.2.1) 1))).bind fun y2=>some (.inl (s.1,wrap .i64 (s.2.1-1),y2,())))) (some (.inr (s.2.2.1,())))
def a0N(x:(Z6×Int×Int)):Option Z20:=(show Option (Int×Int×Bool×Z24)from cond (decide (x.2.2<0)) (some (x.2.1,x.2.2,true,x.1,())) (cond (decide (x.2.2 > 64)) (some (x.2.1,x.2.2,true,x.1,())) (cond (decide (x.2.2<0)) none (some (x.2.1,x.2.2,(A0o .u64 x.2.1 x.2.2) != 0,x.1,()))))).bind fun z1=>cond z1.2.2.1 (some (1,z1.2.2.2.1)) ((y0s b2B (z1.1,wrap .i64 (z1.2.1-1),z1.2.2.2.1,())).bind fun w3=>some (0,w3.1))
def b4W:FSem:=⟨[.r false (.b Q11),.v QU,.v QI],[.v QI],a0N⟩
def d6e:Hints:=⟨[(58,[.sv 1 QU,7,.box pinned Q11,Qp 0 pinned],[Qe 0 [.box pinned Q11]])],[(6,[Qn [.sv 1 QU,2,.sv 19 .bool,.box pinned Q11,Qp 0 pinned]])],[]⟩
def a6g(x:(Z6×Int×Int)):Option Z6:=cond (decide (x.2.2<0)) none ((a0N (x.1,bits .u64 .and (wrap .u64 x.2.1) (wrap .u64 ((A0n .u64 1 x.2.2)-1)),x.2.2)).bind fun y1=>some y1.2)
def b6R:FSem:=⟨[.r false (.b Q11),.v QI,.v QI],[],a6g⟩
def b4X(s:c5l):Option (c5l ⊕ Z24):=(fun(a b:Int)(c:Z6)=>cond (decide (b<a)) ((m0k s.2.1 b).bind fun x6=>(a6g (c,x6,s.1)).bind fun y7=>some (.inl (s.1,s.2.1,a,wrap .i64 (b+1),y7,()))) (some (.inr (c,())))) s.2.2.1 s.2.2.2.1 s.2.2.2.2.1
def b2a(x:(Z6×a0W)):Option Z6:=(fun(a:LI)=>(a0N (x.1,wrap .u64 (wrap .i64 ((a.length:Int)-1)),5)).bind fun y1=>(a0N (y1.2,wrap .u64 x.2.2.2.2.1,4)).bind fun y2=>(a1B a).bind fun y3=>(a0N (y2.2,wrap .u64 y3,5)).bind fun y4=>(y0s b4X (y3,a,(a.length:Int),0,y4.2,())).bind fun w8=>some w8.1) x.2.2.2.2.2.2.1
def b8y:FSem:=⟨[.r false (.b Q11),.v Q61],[],b2a⟩
def d6f:Hints:=⟨[(254,[4,.sv 27 QL,28,29,.box pinned Q11,Qp 0 pinned],[Qe 0 [.box pinned Q11]])],[],[]⟩
def b6b(s:Z18):Option Z89:=(fun(a b:Int)=>cond (decide (b<a)) ((m0k s.1 b).bind fun x3=>(show Option Z40 from cond (decide (x3<(-1073741824))) (some (s.1,a,b,true,())) (some (s.1,a,b,decide (x3≥1073741824),()))).bind fun z4=>cond z4.2.2.2.1 (some (.inr (Sum.inr ((false,()))))) (some (.inl (z4.1,z4.2.1,wrap .i64 (z4.2.2.1+1),())))) (some (.inr (Sum.inl ())))) s.2.1 s.2.2.1
def a9v(x:Z2):Option Bool:=(show Option (LI×(Bool×Unit))from(a5U (x.1,x.2.1)).bind fun y1=>cond (!y1) (some (x.2.2,true,())) (some (x.2.2,(x.2.2.length:Int) != (wrap .i64 (x.1-x.2.1)),()))).bind fun z2=>cond z2.2.1 (some false) ((y0s b6b (z2.1,(z2.1.length:Int),0,())).bind fun w5=>match w5 with |.inl a6=>some true |.inr b7=>some b7.1)
def c0X:FSem:=⟨[.v QI,.v QI,.v QL],[.v .bool],a9v⟩
def d6g:Hints:=⟨[(58,[.sv 21 QL,22,23],[Qe 0 [],Qr [.sv 6 .bool]])],[(6,[Qn [.sv 2 QL,.sv 20 .bool]]),(3737,[Qn [.sv 21 QL,22,23,.sv 32 .bool]])],[]⟩
def b1H(x:LI):Option Int:=(a1B x).bind fun y1=>some (wrap .i64 (5+(wrap .i64 (y1*(x.length:Int)))))
def c3Q:FSem:=⟨[.v QL],[.v QI],b1H⟩
def a2T(x:Int):Option Bool:=cond (decide (0≤x)) (some (decide (x≤25))) (some false)
def b6c:FSem:=⟨[.v QI],[.v .bool],a2T⟩
def a8W(x:Int):Option Bool:=cond (decide ((-1073741824)≤x)) (some (decide (x<1073741824))) (some false)
def c3R:FSem:=⟨[.v QI],[.v .bool],a8W⟩
def b1I(x:Int):Option Int:=(a8W x).bind fun y1=>cond (!y1) (some 0) (cond (decide (x≥0)) (some (wrap .u64 (wrap .i64 (2*x)))) (some (wrap .u64 (wrap .i64 ((wrap .i64 ((-2)*x))-1)))))
def c3S:FSem:=⟨[.v QI],[.v QU],b1I⟩
def b5y(x:(Int×Int)):Option Int:=(show Option Z10 from(a2T x.1).bind fun y1=>cond (!y1) (some (x.1,x.2,true,())) ((a8W x.2).bind fun y2=>some (x.1,x.2,!y2,()))).bind fun z3=>cond z3.2.2.1 (some 0) ((b1I z3.2.1).bind fun y4=>cond (decide (z3.1<0)) none (cond (decide ((wrap .i64 (A0o .u64 y4 z3.1))<32)) (some (wrap .i64 ((wrap .i64 ((wrap .i64 (A0o .u64 y4 z3.1))+1))+z3.1))) (some 65)))
def c3T:FSem:=⟨[.v QI,.v QI],[.v QI],b5y⟩
def d6h:Hints:=⟨[],[(6,[Qn [0,1,.sv 13 .bool]])],[]⟩
def c0Y(s:Z59):Option (Z59 ⊕ (Int×Unit)):=(fun(a:LI)(b c:Int)=>cond (decide (c<b)) ((m0k a c).bind fun x1=>(b5y (s.1,x1)).bind fun y2=>some (.inl (s.1,wrap .i64 (s.2.1+y2),a,b,wrap .i64 (c+1),()))) (some (.inr (s.2.1,())))) s.2.2.1 s.2.2.2.1 s.2.2.2.2.1
def a7Z(x:(Int×LI)):Option Int:=(y0s c0Y (x.1,0,x.2,(x.2.length:Int),0,())).bind fun w3=>some w3.1
def c5N:FSem:=⟨[.v QI,.v QL],[.v QI],a7Z⟩
def d6i:Hints:=⟨[(58,[0,5,.sv 8 QL,9,10],[Qe 0 [5]])],[],[]⟩
def b6S(s:c5p):Option (c5p ⊕ (Int×Unit)):=(fun(a:LI)(b c d:Int)(e:LI)(f:Z5)=>cond (decide (d<c)) (cond ((decide (0≤d))&&(decide (d<(e.length:Int)))) (cond ((decide (0≤(a03 e (a00 d) 0)))&&(decide ((a03 e (a00 d) 0)≤(a.length:Int)))) (cond ((decide (0≤(a03 e (a00 d) 0)))&&(decide ((a03 e (a00 d) 0)≤(a.length:Int)))) ((m0k f.2.1 d).bind fun x5=>cond (x5==31) ((b1H (a06 (a00 (a03 e (a00 d) 0)) a)).bind fun y6=>some (.inl (a09 (a00 (a03 e (a00 d) 0)) (a06 (a01 a) a),wrap .i64 (b+(wrap .i64 (5+y6))),c,wrap .i64 (d+1),e,f,()))) ((m0k f.2.1 d).bind fun x7=>(a7Z (x7,a06 (a00 (a03 e (a00 d) 0)) a)).bind fun y8=>some (.inl (a09 (a00 (a03 e (a00 d) 0)) (a06 (a01 a) a),wrap .i64 (b+(wrap .i64 (5+y8))),c,wrap .i64 (d+1),e,f,())))) none) none) none) (some (.inr (b,())))) s.1 s.2.1 s.2.2.1 s.2.2.2.1 s.2.2.2.2.1 s.2.2.2.2.2.1
def b0H(x:Z75):Option Int:=(fun(a b:Int)=>(show Option (Int×(Int×(LI×Z47)))from(a7l (x.1,a,b)).bind fun y1=>cond (!y1) (some (a,b,x.2.2.2,true,x.1,())) ((a9v (a,b,x.2.2.2)).bind fun y2=>some (a,b,x.2.2.2,!y2,x.1,()))).bind fun z3=>cond z3.2.2.2.1 (some 0) ((a2E (z3.2.2.2.2.1.1,z3.1,z3.2.1)).bind fun y4=>(y0s b6S (z3.2.2.1,4,(y4.length:Int),0,y4,z3.2.2.2.2.1,())).bind fun w9=>some w9.1)) x.2.1 x.2.2.1
def c2j:FSem:=⟨[.v Q13,.v QI,.v QI,.v QL],[.v QI],b0H⟩
def d6j:Hints:=⟨[(122,[.sv 3 QL,9,30,31,.own 29 1029 QI,.vp 4 Q13],[Qe 0 [9]])],[(6,[Qn [1,2,.sv 3 QL,.sv 24 .bool,.vp 4 Q13]])],[]⟩
def b1J(s:Z66):Option (Z66 ⊕ Z24):=cond (decide (s.2.1<s.1)) ((a3A (s.2.2.1,0)).bind fun y2=>some (.inl (s.1,wrap .i64 (s.2.1+1),y2,()))) (some (.inr (s.2.2.1,())))
def a6c(x:(Z6×Int)):Option Z20:=(show Option (Int×Bool×Z24)from cond (decide (x.2<0)) (some (x.2,true,x.1,())) (some (x.2,decide (x.2 > 4096),x.1,()))).bind fun z1=>cond z1.2.1 (some (1,z1.2.2.1)) ((y0s b1J (z1.1,0,z1.2.2.1,())).bind fun w3=>(a3A (w3.1,1)).bind fun y4=>some (0,y4))
def b3m:FSem:=⟨[.r false (.b Q11),.v QI],[.v QI],a6c⟩
def d6k:Hints:=⟨[(58,[11,12,.box pinned Q11,Qp 0 pinned],[Qe 0 [.box pinned Q11,Qp 0 pinned]])],[(6,[Qn [1,.sv 10 .bool,.box pinned Q11,Qp 0 pinned]])],[]⟩
def c0Z(s:(Int×(LI×c8n))):Option ((Int×(LI×c8n)) ⊕ ((Int×(LI×Z24)) ⊕ Z42)):=(fun(a:LI)(b c:Int)(d:Z6)=>cond (decide (c<b)) ((m0k a c).bind fun x2=>(a8W x2).bind fun y3=>cond (!y3) (some (.inr (Sum.inr ((1,d,()))))) (some (.inl (s.1,s.2.1,a,b,wrap .i64 (c+1),d,())))) (some (.inr (Sum.inl (s.1,s.2.1,d,()))))) s.2.2.1 s.2.2.2.1 s.2.2.2.2.1 s.2.2.2.2.2.1
def c1a(s:c5l):Option (c5l ⊕ Z24):=(fun(a:Int)(b:LI)(c d:Int)(e:Z6)=>cond (decide (d<c)) ((m0k b d).bind fun x7=>(b1I x7).bind fun y8=>cond (decide (a<0)) none (cond (decide ((A0o .u64 y8 a)<32)) ((a6c (e,wrap .i64 (A0o .u64 y8 a))).bind fun y9=>cond (decide (a<0)) none ((a0N (y9.2,wrap .u64 (y8-(A0n .u64 (A0o .u64 y8 a) a)),a)).bind fun y10=>some (.inl (a,b,c,wrap .i64 (d+1),y10.2,())))) ((a6c (e,32)).bind fun y11=>(a0N (y11.2,y8,32)).bind fun y12=>some (.inl (a,b,c,wrap .i64 (d+1),y12.2,()))))) (some (.inr (e,())))) s.1 s.2.1 s.2.2.1 s.2.2.2.1 s.2.2.2.2.1
def b6T(x:(Z6×(Int×LI))):Option Z20:=(a2T x.2.1).bind fun y1=>cond (!y1) (some (1,x.1)) ((y0s c0Z (x.2.1,x.2.2,x.2.2,(x.2.2.length:Int),0,x.1,())).bind fun w4=>match w4 with |.inl a5=>((y0s c1a (a5.1,a5.2.1,(a5.2.1.length:Int),0,a5.2.2.1,())).bind fun w13=>some (0,w13.1)) |.inr b6=>some (b6.1,b6.2.1))
def c5O:FSem:=⟨[.r false (.b Q11),.v QI,.v QL],[.v QI],b6T⟩
def d6l:Hints:=⟨[(58,[1,.sv 2 QL,.sv 16 QL,17,18,.box pinned Q11,Qp 0 pinned],[Qe 0 [1,.sv 2 QL,.box pinned Q11,Qp 0 pinned],Qr [6,.box pinned Q11]]),(122,[1,.sv 26 QL,27,28,.box pinned Q11,Qp 0 pinned],[Qe 2 [.box pinned Q11]])],[],[]⟩
def b8z(s:(LI×(Int×Int×Int×c1Y))):Option ((LI×(Int×Int×Int×c1Y)) ⊕ c1Y):=(fun(a b c:Int)(d:LI)(e f:Int)(g:LI)(h:Z6)(i:Z5)=>cond (decide (f<e)) ((m0k d f).bind fun x11=>cond (decide (a<0)) none ((a0N (h,bits .u64 .and (wrap .u64 x11) (wrap .u64 ((A0n .u64 1 a)-1)),a)).bind fun y12=>some (.inl (s.1,a,b,c,d,e,wrap .i64 (f+1),g,y12.2,i,())))) (some (.inr (s.1,b,c,g,h,i,())))) s.2.1 s.2.2.1 s.2.2.2.1 s.2.2.2.2.1 s.2.2.2.2.2.1 s.2.2.2.2.2.2.1 s.2.2.2.2.2.2.2.1 s.2.2.2.2.2.2.2.2.1 s.2.2.2.2.2.2.2.2.2.1
def b8A(s:c1Y):Option (c1Y ⊕ Z24):=(fun(a:LI)(b c:Int)(d:LI)(e:Z6)(f:Z5)=>cond (decide (c<b)) (cond ((decide (0≤c))&&(decide (c<(d.length:Int)))) (cond ((decide (0≤(a03 d (a00 c) 0)))&&(decide ((a03 d (a00 c) 0)≤(a.length:Int)))) (cond ((decide (0≤(a03 d (a00 c) 0)))&&(decide ((a03 d (a00 c) 0)≤(a.length:Int)))) ((m0k f.2.1 c).bind fun x4=>(a0N (e,wrap .u64 x4,5)).bind fun y5=>(m0k f.2.1 c).bind fun x6=>cond (x6 != 31) ((m0k f.2.1 c).bind fun x7=>(b6T (y5.2,x7,a06 (a00 (a03 d (a00 c) 0)) a)).bind fun y8=>some (.inl (a09 (a00 (a03 d (a00 c) 0)) (a06 (a01 a) a),b,wrap .i64 (c+1),d,y8.2,f,()))) ((a1B (a06 (a00 (a03 d (a00 c) 0)) a)).bind fun y9=>(a0N (y5.2,wrap .u64 y9,5)).bind fun y10=>(y0s b8z (a09 (a00 (a03 d (a00 c) 0)) (a06 (a01 a) a),y9,b,c,a06 (a00 (a03 d (a00 c) 0)) a,((a01 (a06 (a00 (a03 d (a00 c) 0)) a):Nat):Int),0,d,y10.2,f,())).bind fun w13=>some (.inl (w13.1,w13.2.1,wrap .i64 (w13.2.2.1+1),w13.2.2.2.1,w13.2.2.2.2.1,w13.2.2.2.2.2.1,())))) none) none) none) (some (.inr (e,())))) s.1 s.2.1 s.2.2.1 s.2.2.2.1 s.2.2.2.2.1 s.2.2.2.2.2.1
def b5z(x:(Z6×Z75)):Option Z20:=(b0H (x.2.1,x.2.2.1,x.2.2.2.1,x.2.2.2.2)).bind fun y1=>cond (y1==0) (some (1,x.1)) ((a0N (x.1,wrap .u64 x.2.1.1,4)).bind fun y2=>(a2E (x.2.1.1,x.2.2.1,x.2.2.2.1)).bind fun y3=>(y0s b8A (x.2.2.2.2,(y3.length:Int),0,y3,y2.2,x.2.1,())).bind fun w14=>some (0,w14.1))
def c3U:FSem:=⟨[.r false (.b Q11),.v Q13,.v QI,.v QI,.v QL],[.v QI],b5z⟩
def d6m:Hints:=⟨[(122,[.sv 4 QL,33,34,.own 32 1032 QI,.box pinned Q11,Qp 0 pinned,.vp 6 Q13],[Qe 0 [.box pinned Q11]]),(2005502,[.sv 4 QL,14,33,34,.sv 73 QL,74,75,.own 32 1032 QI,.box pinned Q11,Qp 0 pinned,.vp 6 Q13],[Qe 2 [.sv 4 QL,33,34,.own 32 1032 QI,.box pinned Q11,Qp 0 pinned,.vp 6 Q13]])],[],[]⟩
def c2k(s:(Int×(Int×(LI×c5z)))):Option ((Int×(Int×(LI×c5z))) ⊕ b1G):=(fun(a:LI)(b:Int)(c:Z6)(d:a0W)=>cond (decide (b<3)) ((m0k a b).bind fun x8=>(a6g (c,x8,8)).bind fun y9=>some (.inl (s.1,s.2.1,a,wrap .i64 (b+1),y9,d,()))) (some (.inr (s.1,s.2.1,c,d,())))) s.2.2.1 s.2.2.2.1 s.2.2.2.2.1 s.2.2.2.2.2.1
def c2l(s:(Int×Int×Z4×b1G)):Option ((Int×Int×Z4×b1G) ⊕ b1G):=(fun(a:Z4)(b c:Int)(d:Z6)(e:a0W)=>cond (decide (c<b)) ((m0k a c).bind fun x18=>(a0N (d,wrap .u64 (wrap .i64 (x18.1-1)),5)).bind fun y19=>(a0N (y19.2,wrap .u64 x18.2.1,4)).bind fun y20=>some (.inl (s.1,s.2.1,a,b,wrap .i64 (c+1),y20.2,e,()))) (some (.inr (s.1,s.2.1,d,e,())))) s.2.2.1 s.2.2.2.1 s.2.2.2.2.1 s.2.2.2.2.2.1 s.2.2.2.2.2.2.1
def c2m(s:(Int×(Int×(LI×b1G)))):Option ((Int×(Int×(LI×b1G))) ⊕ c5z):=(fun(a:LI)(b c:Int)(d:Z6)(e:a0W)=>cond (decide (c<b)) ((m0k a c).bind fun x23=>(a6g (d,x23,s.2.1)).bind fun y24=>some (.inl (s.1,s.2.1,a,b,wrap .i64 (c+1),y24,e,()))) (some (.inr (s.1,d,e,())))) s.2.2.1 s.2.2.2.1 s.2.2.2.2.1 s.2.2.2.2.2.1 s.2.2.2.2.2.2.1
def b3C(x:(Z6×a7S)):Option Z20:=(fun(a:a0W)=>((a6w (a,x.2.2)).bind fun y1=>cond (!y1) (some (1,x.1)) ((a1B a.2.2.2.2.2.2.2.2.1).bind fun y2=>(a0N (x.1,wrap .u64 a.1,3)).bind fun y3=>(a0N (y3.2,wrap .u64 a.2.1,5)).bind fun y4=>(a0N (y4.2,wrap .u64 y2,5)).bind fun y5=>(show Option b1G from(show Option (b1G ⊕ (b1G ⊕ b1G))from cond (a.1==2) ((a0N (y5.2,wrap .u64 a.2.2.1,3)).bind fun y6=>some (Sum.inr (Sum.inl (x.2.2,y2,y6.2,a,())))) (cond (a.1==4) ((a0N (y5.2,wrap .u64 (wrap .i64 (a.2.2.2.2.1-1)),10)).bind fun y7=>(y0s c2k (x.2.2,y2,a.2.2.2.2.2.2.1,0,y7.2,a,())).bind fun w10=>some (Sum.inl (w10.1,w10.2.1,w10.2.2.1,w10.2.2.2.1,()))) (cond (a.1==3) (some (Sum.inl (x.2.2,y2,y5.2,a,()))) (cond (a.1==5) (some (Sum.inr (Sum.inr ((x.2.2,y2,y5.2,a,()))))) (some (Sum.inr (Sum.inl (x.2.2,y2,y5.2,a,())))))))).bind fun z11=>match z11 with |.inl a12=>((b2a (a12.2.2.1,a12.2.2.2.1)).bind fun y14=>some (a12.1,a12.2.1,y14,a12.2.2.2.1,())) |.inr b13=>(match b13 with |.inl a15=>some (a15.1,a15.2.1,a15.2.2.1,a15.2.2.2.1,()) |.inr b16=>((a0N (b16.2.2.1,wrap .u64 (b16.2.2.2.1.2.2.2.2.2.2.2.1.length:Int),2)).bind fun y17=>(y0s c2l (b16.1,b16.2.1,b16.2.2.2.1.2.2.2.2.2.2.2.1,(b16.2.2.2.1.2.2.2.2.2.2.2.1.length:Int),0,y17.2,b16.2.2.2.1,())).bind fun w21=>some (w21.1,w21.2.1,w21.2.2.1,w21.2.2.2.1,())))).bind fun z22=>(y0s c2m (z22.1,z22.2.1,z22.2.2.2.1.2.2.2.2.2.2.2.2.1,(z22.2.2.2.1.2.2.2.2.2.2.2.2.1.length:Int),0,z22.2.2.1,z22.2.2.2.1,())).bind fun w25=>(a4V w25.2.2.1.1).bind fun y26=>cond (!y26) (some (0,w25.2.1)) ((b5z (w25.2.1,w25.2.2.1.2.2.2.2.2.2.2.2.2.1,w25.1,(w25.2.2.1.2.2.2.2.2.2.2.2.1.length:Int),w25.2.2.1.2.2.2.2.2.2.2.2.2.2.1)).bind fun y27=>some (y27.1,y27.2))):Option Z20)) x.2.1
def c7o:FSem:=⟨[.r false (.b Q11),.v Q61,.v QI],[.v QI],b3C⟩
def H53:Hints:=⟨[(2042,[2,7,.sv 94 QL,95,96,.box pinned Q11,Qp 0 pinned,.vp 4 Q61],[Qe 9 [2,.box pinned Q11,Qp 0 pinned,.vp 4 Q61]]),(32598,[2,7,.sv 75 (.list false Q5),76,77,.box pinned Q11,Qp 0 pinned,.vp 4 Q61],[Qe 7 [2,7,.box pinned Q11,Qp 0 pinned,.vp 4 Q61]]),(260622,[2,7,.sv 57 (.arr 3 QI),58,.box pinned Q11,Qp 0 pinned,.vp 4 Q61],[Qe 5 [2,7,.box pinned Q11,Qp 0 pinned,.vp 4 Q61]])],[(127,[Qn [2,7,.box pinned Q11,Qp 0 pinned,.vp 4 Q61]]),(4072,[Qn [2,7,.box pinned Q11,Qp 0 pinned,.vp 4 Q61],Qe 0 [2,7,.box pinned Q11,Qp 0 pinned,.vp 4 Q61],Qe 4 [2,7,.box pinned Q11,Qp 0 pinned,.vp 4 Q61]])],[]⟩
def b1K(s:Z24):Option (Z24 ⊕ Z24):=cond ((a07 s.1.2.1 8) != 0) ((a3A (s.1,0)).bind fun y2=>some (.inl (y2,()))) (some (.inr (s.1,())))
def a8y(x:Z6):Option Z6:=(y0s b1K (x,())).bind fun w3=>some w3.1
def b3n:FSem:=⟨[.r false (.b Q11)],[],a8y⟩
def H54:Hints:=⟨[(2,[.box pinned Q11,Qp 0 pinned],[Qe 0 [.box pinned Q11]])],[],[]⟩
def a8z(x:Z6):Option (LI×Z6):=cond (lim (a01 x.1)) (some (x.1,x)) none
def b3o:FSem:=⟨[.r false (.b Q11)],[.o QV],a8z⟩
def b8B(s:Z74):Option (Z74 ⊕ Z74):=(fun(a b c:Int)(d:LI)=>cond (decide (a≥128)) (cond (lim ((a01 d)+1)) (some (.inl (wrap .u64 (a08 a 128),s.2.1,b,c,a04 d [wrap .u8 ((wrap .u8 (a07 a 128))+128)],()))) none) (some (.inr (a,s.2.1,b,c,d,())))) s.1 s.2.2.1 s.2.2.2.1 s.2.2.2.2.1
def b8C(s:Z49):Option (Z49 ⊕ (LI×Unit)):=cond (decide (s.2.2.1<s.2.1)) ((m0k s.1 s.2.2.1).bind fun x1=>(y0s b8B (x1,s.1,s.2.1,s.2.2.1,s.2.2.2.1,())).bind fun w2=>cond (lim ((a01 w2.2.2.2.2.1)+1)) (some (.inl (w2.2.1,w2.2.2.1,wrap .i64 (w2.2.2.2.1+1),a04 w2.2.2.2.2.1 [wrap .u8 w2.1],()))) none) (some (.inr (s.2.2.2.1,())))
def b1L(x:LI):Option LI:=(y0s b8C (x,(x.length:Int),0,[],())).bind fun w3=>some w3.1
def c3V:FSem:=⟨[.v (.list false QU)],[.o QV],b1L⟩
def H98:Hints:=⟨[(58,[.sv 6 (.list false QU),7,8,.own 3 3 QV],[Qe 0 [.own 3 3 QV]]),(14948,[.sv 5 QU,.sv 6 (.list false QU),7,8,.own 3 3 QV],[Qe 2 [.sv 5 QU,.sv 6 (.list false QU),7,8,.own 3 3 QV]])],[],[]⟩
def b5A(x:Int):Option Int:=cond (decide (x≥0)) (some (wrap .u64 (2*(wrap .u64 x)))) (some (wrap .u64 ((wrap .u64 (2*(wrap .u64 (wrap .i64 (0-(wrap .i64 (x+1)))))))+1)))
def c3W:FSem:=⟨[.v QI],[.v QU],b5A⟩
def a8a(s:Z62):Option (Z62 ⊕ Z36):=(fun(a:Int)(b:LI)(c d e:Int)=>cond (decide (e<8)) (cond ((A0o .u8 a 7)==1) (some (.inl (bits .u8 .xor (A0n .u8 a 1) 7,b,c,d,wrap .i64 (e+1),()))) (some (.inl (A0n .u8 a 1,b,c,d,wrap .i64 (e+1),())))) (some (.inr (a,b,c,d,())))) s.1 s.2.1 s.2.2.1 s.2.2.2.1 s.2.2.2.2.1
def a6h(s:Z36):Option Z85:=(fun(a b:Int)=>cond (decide (b<a)) ((m0k s.2.1 b).bind fun x1=>(y0s a8a (bits .u8 .xor s.1 x1,s.2.1,a,b,0,())).bind fun w2=>some (.inl (w2.1,w2.2.1,w2.2.2.1,wrap .i64 (w2.2.2.2.1+1),()))) (some (.inr (s.1,())))) s.2.2.1 s.2.2.2.1
def a6x(x:LI):Option Int:=(y0s a6h (0,x,(x.length:Int),0,())).bind fun w3=>some w3.1
def c2n:FSem:=⟨[.v QB],[.v QV],a6x⟩
def d6n:Hints:=⟨[(58,[.sv 3 QV,.sv 7 QB,8,9],[Qe 0 [.sv 3 QV]]),(29902,[.sv 3 QV,.sv 7 QB,8,9,16],[Qe 2 [.sv 3 QV,.sv 7 QB,8,9]])],[],[]⟩
def b3D(s:(Int×Z17×Z19)):Option ((Int×Z17×Z19) ⊕ Z5):=(fun(a b:Int)(c:LI)=>cond (decide (b<a)) ((m0k s.2.1 b).bind fun x1=>(b5A x1.2.2.1).bind fun y2=>cond (lim ((a01 c)+3)) (some (.inl (s.1,s.2.1,a,wrap .i64 (b+1),a04 c [wrap .u64 x1.1,wrap .u64 x1.2.1,y2],()))) none) (some (.inr (s.1,c,())))) s.2.2.1 s.2.2.2.1 s.2.2.2.2.1
def b1l(x:(a1x×Int)):Option LI:=(y0s b3D (x.2,x.1.2.2.2.1,(x.1.2.2.2.1.length:Int),0,([wrap .u64 x.1.1,wrap .u64 x.1.2.1,wrap .u64 x.1.2.2.1.1,wrap .u64 x.1.2.2.1.2.1,wrap .u64 x.1.2.2.1.2.2.1,wrap .u64 (x.1.2.2.2.1.length:Int)]:List Int),())).bind fun w3=>cond (lim ((a01 w3.2.1)+1)) ((b1L (a04 w3.2.1 [wrap .u64 w3.1])).bind fun y4=>cond (lim (2+(a01 y4))) ((a6x (a04 [245,75] y4)).bind fun y5=>cond (lim ((a01 (a04 [245,75] y4))+1)) (some (a04 (a04 [245,75] y4) [y5])) none) none) none
def b6U:FSem:=⟨[.v Q83,.v QI],[.o QV],b1l⟩
def H56:Hints:=⟨[(58,[1,.sv 33 (.list false Q14),34,35,.own 5 5 QU],[Qe 0 [1,.own 5 5 QU]])],[],[(5,[.q,.q,.q,.v,.q,.q,.v,.q,.q,.v,.q,.x,.x])]⟩
def a9w(x:Int):Option Int:=some (v0s (v0r x 0) 8)
def c1b:FSem:=⟨[.v QI],[.v QI],a9w⟩
def b6d(s:Z38):Option (Z38 ⊕ (LI×Unit)):=cond (decide (s.2.2.1<s.2.1)) (cond (lim ((a01 s.2.2.2.1)+1)) (some (.inl (wrap .u64 (a08 s.1 256),s.2.1,wrap .i64 (s.2.2.1+1),a04 s.2.2.2.1 [wrap .u8 (a07 s.1 256)],()))) none) (some (.inr (s.2.2.2.1,())))
def b2Z(x:(Int×Int)):Option LI:=(a9w x.2).bind fun y1=>(y0s b6d (x.1,y1,0,[],())).bind fun w2=>some w2.1
def c1c:FSem:=⟨[.v QU,.v QI],[.o QV],b2Z⟩
def d6o:Hints:=⟨[(58,[.sv 0 QU,7,8,.own 5 5 QV],[Qe 0 [.own 5 5 QV]])],[],[]⟩
def a4I(x:LI):Option LI:=cond (decide (a01 x<2147483648)) (some (List.reverse x)) none
def a8w:FSem:=⟨[.r false (.o QV)],[],a4I⟩
def a8X(x:(Int×Int)):Option LI:=(b2Z (x.1,x.2)).bind fun y1=>(a4I y1).bind fun y2=>some y2
def c3X:FSem:=⟨[.v QU,.v QI],[.o QV],a8X⟩
def a7g(s:Z62):Option (Z62 ⊕ Z36):=(fun(a:Int)(b:LI)(c d e:Int)=>cond (decide (e<8)) (cond ((A0o .u16 a 15)==1) (some (.inl (bits .u16 .xor (A0n .u16 a 1) 32773,b,c,d,wrap .i64 (e+1),()))) (some (.inl (A0n .u16 a 1,b,c,d,wrap .i64 (e+1),())))) (some (.inr (a,b,c,d,())))) s.1 s.2.1 s.2.2.1 s.2.2.2.1 s.2.2.2.2.1
def a4K(s:Z36):Option Z85:=(fun(a b:Int)=>cond (decide (b<a)) ((m0k s.2.1 b).bind fun x1=>(y0s a7g (bits .u16 .xor s.1 (A0n .u16 (wrap .u16 x1) 8),s.2.1,a,b,0,())).bind fun w2=>some (.inl (w2.1,w2.2.1,w2.2.2.1,wrap .i64 (w2.2.2.2.1+1),()))) (some (.inr (s.1,())))) s.2.2.1 s.2.2.2.1
def a5a(x:LI):Option Int:=(y0s a4K (0,x,(x.length:Int),0,())).bind fun w3=>some w3.1
def b8D:FSem:=⟨[.v QB],[.v (.int .u16)],a5a⟩
def H58:Hints:=⟨[(58,[.sv 3 (.int .u16),.sv 7 QB,8,9],[Qe 0 [.sv 3 (.int .u16)]]),(29902,[.sv 3 (.int .u16),.sv 7 QB,8,9,18],[Qe 2 [.sv 3 (.int .u16),.sv 7 QB,8,9]])],[],[]⟩
def b8E(s:(a8D×Int×Int×Z6×a7e)):Option ((a8D×Int×Int×Z6×a7e) ⊕ ((Z6×a7e) ⊕ Z5)):=(fun(a:Int)(b:Z6)(c:a1x)=>cond (decide (a<s.2.1)) ((m0k s.1 a).bind fun x2=>(b3C (b,x2,c.2.1)).bind fun y3=>cond (y3.1 != 0) (some (.inr (Sum.inr ((y3.1,[],()))))) (some (.inl (s.1,s.2.1,wrap .i64 (a+1),y3.2,c,())))) (some (.inr (Sum.inl (b,c,()))))) s.2.2.1 s.2.2.2.1 s.2.2.2.2.1
def b1M(x:a1x):Option (LI×Int):=(a5X x).bind fun y1=>cond (!y1) (some ([],1)) ((y0s b8E (x.2.2.2.2.1,(x.2.2.2.2.1.length:Int),0,([],0,()),x,())).bind fun w4=>match w4 with |.inl a5=>((a8y a5.1).bind fun y7=>(a8z y7).bind fun y8=>(b1l (a5.2.1,(y8.1.length:Int))).bind fun y9=>cond (lim ((a01 y9)+(a01 y8.1))) ((a5a (a04 y9 y8.1)).bind fun y10=>(a8X (wrap .u64 y10,2)).bind fun y11=>cond (lim ((a01 (a04 y9 y8.1))+(a01 y11))) (some (a04 (a04 y9 y8.1) y11,0)) none) none) |.inr b6=>some (b6.2.1,b6.1))
def c3Y:FSem:=⟨[.v Q83],[.o QV,.v QI],b1M⟩
def H15:Hints:=⟨[(122,[.sv 14 (.list false Q61),15,16,.box 4 Q11,.vp 1 Q83,Qp 4 4],[Qe 0 [.box 4 Q11,.vp 1 Q83,Qp 4 4],Qr [3,.own 2 2 QV]])],[],[]⟩
def b6V(s:(LI×(Int×Int×Z14×Z14×Z27))):Option ((LI×(Int×Int×Z14×Z14×Z27)) ⊕ ((Z14×Z35) ⊕ Z55)):=(fun(a:Int)(b c:Z14)(d:Z7)=>cond (decide (a<s.2.1)) ((m0k s.1 a).bind fun x2=>(a1V (x2,d.2.2.1)).bind fun y3=>cond (!y3) (some (.inr (Sum.inr ((6,(0,([]:(List LI)),()),()))))) (cond (d.2.1==0) none (cond ((decide (0≤(a07 a d.2.1)))&&(decide ((a07 a d.2.1)<(c.2.1.length:Int)))) (cond (lim ((a01 (a03 c.2.1 (a00 (a07 a d.2.1)) []))+1)) (cond ((decide (0≤(a07 a d.2.1)))&&(decide ((a07 a d.2.1)<((a01 (a05 c.2.1 (a00 (a07 a d.2.1)) (a04 (a03 c.2.1 (a00 (a07 a d.2.1)) []) [x2])):Nat):Int)))) (cond (((a00 (a07 a d.2.1))==(a00 (a07 a d.2.1)))&&true) (cond (((a00 (a07 a d.2.1))==(a00 (a07 a d.2.1)))&&true) (some (.inl (s.1,s.2.1,wrap .i64 (a+1),b,(c.1,a05 c.2.1 (a00 (a07 a d.2.1)) (a04 (a03 c.2.1 (a00 (a07 a d.2.1)) []) [x2]),c.2.2),d,()))) none) none) none) none) none))) (some (.inr (Sum.inl (b,c,()))))) s.2.2.1 s.2.2.2.1 s.2.2.2.2.1 s.2.2.2.2.2.1
def b3E(x:Z37):Option Z34:=(fun(a:LI)(b:Int)=>(a2i x.2).bind fun y1=>cond (!y1) (some ((0,([]:(List LI)),()),1)) (cond ((a.length:Int)==0) (some ((0,([]:(List LI)),()),7)) (cond (b==0) none (cond ((a07 (a.length:Int) b) != 0) (some ((0,([]:(List LI)),()),3)) (cond (b==0) none (cond (decide ((wrap .i64 (a08 (a.length:Int) b)) > 4096)) (some ((0,([]:(List LI)),()),4)) (cond ((decide (0≤b))&&((decide (b≤b))&&(lim (a00 b)))) ((y0s b6V (a,(a.length:Int),0,(0,([]:(List LI)),()),(x.2.2.2.1,a02 (a00 b) [],()),x.2,())).bind fun w4=>match w4 with |.inl a5=>some (a5.2.1,0) |.inr b6=>some (b6.2.1,b6.1)) none))))))) x.1 x.2.2.1
def c2o:FSem:=⟨[.v QL,.v Q14],[.v Q17,.v QI],b3E⟩
def H42:Hints:=⟨[(1018,[.sv 38 QL,39,40,.box 4 Q17,.box 6 (.pair QI Q8),.vp 3 Q14,Qp 4 4,Qp 6 6],[Qe 0 [.box 4 Q17,.box 6 (.pair QI Q8),Qp 4 4,Qp 6 6],Qr [5,.box 4 Q17,Qp 4 4]])],[],[(9,[.v,.v,.v,.v,.q,.q,.q,.x]),(16,[.s,.s,.s,.q,.q,.v,.q,.q,.v,.q,.b [6,64,65],.x,.x])]⟩
def c2p(s:(Z17×Z33)):Option ((Z17×Z33) ⊕ (Z1 ⊕ Z16)):=cond (decide (s.2.2.1<s.2.1)) ((m0k s.1 s.2.2.1).bind fun x5=>(a6v (s.2.2.2.1,x5,1)).bind fun y6=>cond (!y6.1) (some (.inr (Sum.inr ((([]:(List LI)),6,()))))) (some (.inl (s.1,s.2.1,wrap .i64 (s.2.2.1+1),y6.2,())))) (some (.inr (Sum.inl (s.2.2.2.1,()))))
def b3F(x:Z72):Option ((List LI)×Int):=(show Option ((List LI)×(Z17×Bool×Unit))from(a5W x.1).bind fun y1=>cond (!y1) (some (x.1,x.2,true,())) ((a6K (x.2,(x.1.length:Int))).bind fun y2=>some (x.1,x.2,!y2,()))).bind fun z3=>cond z3.2.2.1 (some (([]:(List LI)),1)) ((a5K z3.1).bind fun y4=>(y0s c2p (z3.2.1,(z3.2.1.length:Int),0,y4,())).bind fun w7=>match w7 with |.inl a8=>some (a8.1,0) |.inr b9=>some (b9.1,b9.2.1))
def c7p:FSem:=⟨[.v (.list false QL),.v (.list false Q14)],[.v (.list false QL),.v QI],b3F⟩
def H94:Hints:=⟨[(122,[.sv 21 (.list false Q14),22,23,.own 6 6 (.list true QI)],[Qe 0 [.own 6 6 (.list true QI)],Qr [.sv 4 (.list false QL),5]])],[(6,[Qn [.sv 0 (.list false QL),.sv 1 (.list false Q14),.sv 18 .bool]])],[]⟩
def b6e(s:(Int×(LI×Z52))):Option ((Int×(LI×Z52)) ⊕ Z52):=(fun(a:LI)(b:Int)(c:List LI)(d e:Int)=>cond (decide (b<(a.length:Int))) ((m0k a b).bind fun x3=>(m0k a (wrap .i64 (b-1))).bind fun x4=>(m0k a (wrap .i64 (b-2))).bind fun x5=>some (.inl (wrap .i64 (s.1+(v0r (wrap .i64 ((wrap .i64 (x3-(wrap .i64 (2*x4))))+x5)) (wrap .i64 (0-(wrap .i64 ((wrap .i64 (x3-(wrap .i64 (2*x4))))+x5)))))),a,wrap .i64 (b+1),c,d,e,()))) (some (.inr (s.1,c,d,e,())))) s.2.1 s.2.2.1 s.2.2.2.1 s.2.2.2.2.1 s.2.2.2.2.2.1
def b6f(s:Z52):Option (Z52 ⊕ (Int×Unit)):=(fun(a b:Int)=>cond (decide (b<a)) ((m0k s.2.1 b).bind fun x2=>(y0s b6e (s.1,x2,2,s.2.1,a,b,())).bind fun w6=>some (.inl (w6.1,w6.2.1,w6.2.2.1,wrap .i64 (w6.2.2.2.1+1),()))) (some (.inr (s.1,())))) s.2.2.1 s.2.2.2.1
def a9x(x:(List LI)):Option Int:=(a5W x).bind fun y1=>cond (!y1) (some 0) ((y0s b6f (0,x,(x.length:Int),0,())).bind fun w7=>some w7.1)
def c1d:FSem:=⟨[.v (.list false QL)],[.v QI],a9x⟩
def d6p:Hints:=⟨[(122,[3,.sv 11 (.list false QL),12,13],[Qe 0 [3]]),(31334,[3,.sv 5 QL,6,.sv 11 (.list false QL),12,13],[Qe 2 [3,.sv 11 (.list false QL),12,13]])],[],[(10,[.v,.v,.v,.v,.v,.v,.v,.v,.v,.v,.v,.v,.v,.v,.v,.v,.x,.x])]⟩
def b0I(x:Int):Option Z17:=cond (x==1) (some ([(0,1,(-256),())]:List Z7)) (cond (x==2) (some ([(1,0,(-256),())]:List Z7)) (cond (x==3) (some ([(1,0,(-256),()),(0,1,128,())]:List Z7)) (cond (x==4) (some ([(1,0,(-106),()),(0,1,181,()),(1,0,(-106),())]:List Z7)) (some []))))
def c2q:FSem:=⟨[.v QI],[.o Q14],b0I⟩
def b8F(s:((List LI)×Z7)):Option (((List LI)×Z7) ⊕ (Int×Unit)):=(fun(a:List LI)(b c d:Int)=>cond (decide (d<5)) ((b0I d).bind fun y2=>(b3F (a,y2)).bind fun y3=>cond (y3.2 != 0) (some (.inl (a,b,c,wrap .i64 (d+1),()))) ((a9x y3.1).bind fun y4=>cond (decide (y4<c)) (some (.inl (a,d,y4,wrap .i64 (d+1),()))) (some (.inl (a,b,c,wrap .i64 (d+1),()))))) (some (.inr (b,())))) s.1 s.2.1 s.2.2.1 s.2.2.2.1
def b5B(x:(List LI)):Option Z17:=(a9x x).bind fun y1=>(y0s b8F (x,0,y1,1,())).bind fun w5=>(b0I w5.1).bind fun y6=>some y6
def c3Z:FSem:=⟨[.v (.list false QL)],[.o Q14],b5B⟩
def d6q:Hints:=⟨[(58,[.sv 0 (.list false QL),3,4,5],[Qe 0 [3]])],[],[]⟩
def b8G(s:(Int×Int×Int×Z17×c1W)):Option ((Int×Int×Int×Z17×c1W) ⊕ (Int×c1W)):=(fun(a b:Int)(c d:Z17)(e:Z14)=>cond (decide (b<s.2.1)) (cond ((decide (0≤b))&&(decide (b<(d.length:Int)))) (cond (lim ((a01 c)+1)) (some (.inl (a,s.2.1,wrap .i64 (b+1),a04 c ([(wrap .i64 (((a03 d (a00 b) (0,0,0,())).1)+a),wrap .i64 ((((a03 d (a00 b) (0,0,0,())).2).1)+a),(((a03 d (a00 b) (0,0,0,())).2).2).1,())]:List Z7),d,e,()))) none) none) (some (.inr (a,c,e,())))) s.1 s.2.2.1 s.2.2.2.1 s.2.2.2.2.1 s.2.2.2.2.2.1
def b8H(s:(Int×c1W)):Option ((Int×c1W) ⊕ (Z17×Unit)):=(fun(a:Int)(b:Z14)=>cond (decide ((wrap .i64 (a+1))<(b.2.1.length:Int))) (cond ((decide (0≤(wrap .i64 (a+2))))&&(decide ((wrap .i64 (a+2))≤(b.2.1.length:Int)))) (cond ((decide (0≤a))&&(decide (a≤((a00 (wrap .i64 (a+2)):Nat):Int)))) ((b5B (a09 (a00 a) (a06 (a00 (wrap .i64 (a+2))) b.2.1))).bind fun y2=>(y0s b8G (a,(y2.length:Int),0,s.2.1,y2,b,())).bind fun w3=>some (.inl (wrap .i64 (w3.1+2),w3.2.1,w3.2.2.1,()))) none) none) (some (.inr (s.2.1,())))) s.1 s.2.2.1
def b5C(x:Z14):Option Z17:=(a3a x).bind fun y1=>cond (!y1) (some []) ((y0s b8H (0,[],x,())).bind fun w4=>some w4.1)
def c4a:FSem:=⟨[.v Q17],[.o Q14],b5C⟩
end Go.Ab
namespace Go.Ab
open IntKind(wrap)
open Go.Proofs
set_option maxRecDepth 100000
set_option linter.unusedVariables false
def H93:Hints:=⟨[(122,[4,.own 3 3 Q14,.vp 1 Q17],[Qe 0 [.own 3 3 Q14]]),(7826,[4,25,26,.own 3 3 Q14,.own 24 1024 Q14,.vp 1 Q17],[Qe 2 [4,.own 3 3 Q14,.vp 1 Q17]])],[],[]⟩
def b6g(s:Z74):Option (Z74 ⊕ Z57):=(fun(a:Int)(b:LI)(c d:Int)(e:LI)=>cond (decide (d<c)) ((m0k b d).bind fun x2=>(show Option (Int×(Int×(LI×Z41)))from(a4f x2).bind fun y3=>cond (!y3) (some (a,x2,b,c,d,true,e,())) (cond (decide (a<0)) none (cond ((A0n .i64 1 a)==0) none (some (a,x2,b,c,d,(a07 x2 (A0n .i64 1 a)) != 0,e,()))))).bind fun z4=>cond z4.2.2.2.2.2.1 (some (.inr (Sum.inr ((6,[],()))))) (cond (decide (z4.1<0)) none (cond (lim ((a01 z4.2.2.2.2.2.2.1)+1)) (some (.inl (z4.1,z4.2.2.1,z4.2.2.2.1,wrap .i64 (z4.2.2.2.2.1+1),a04 z4.2.2.2.2.2.2.1 [A0o .i64 z4.2.1 z4.1],()))) none))) (some (.inr (Sum.inl (e,()))))) s.1 s.2.1 s.2.2.1 s.2.2.2.1 s.2.2.2.2.1
def a9y(x:(LI×Int)):Option (LI×Int):=(show Option Z21 from cond (decide (x.2<0)) (some (x.1,x.2,true,())) (some (x.1,x.2,decide (x.2 > 30),()))).bind fun z1=>cond z1.2.2.1 (some ([],1)) ((y0s b6g (z1.2.1,z1.1,(z1.1.length:Int),0,[],())).bind fun w5=>match w5 with |.inl a6=>some (a6.1,0) |.inr b7=>some (b7.2.1,b7.1))
def c1e:FSem:=⟨[.v QL,.v QI],[.o QI,.v QI],a9y⟩
def d6r:Hints:=⟨[(122,[1,.sv 15 QL,16,17,.own 6 6 QI],[Qe 0 [.own 6 6 QI],Qr [5,.own 4 4 QI]])],[(6,[Qn [.sv 0 QL,1,.sv 14 .bool]]),(15666,[Qn [1,8,.sv 15 QL,16,17,.sv 30 .bool,.own 6 6 QI]])],[]⟩
def a3g(x:Int):Option Int:=cond (x==0) (some 64) ((m0k b1i (A0o .u64 (wrap .u64 ((bits .u64 .and x (wrap .u64 (0-x)))*285870213051353865)) 58)).bind fun x1=>some (wrap .i64 x1))
def a1p:FSem:=⟨[.v QU],[.v QI],a3g⟩
def a8b:Cx:=b3z [] [] 5 0
theorem b5D{ρ:Type}{cx:Cx}{ops:List Oper}:∀(l1 l2:List (Md×Oper)) (Γ:AE) (K:AE→Rs ρ),h0m cx ops (l1++l2) Γ K=h0m cx ops l1 Γ fun Γ'=>h0m cx ops l2 Γ' K
 | [],_,_,_=>rfl
 |(md,o)::l1,l2,Γ,K=>by
  simp only[a20,h0m];congr 1;funext Γ';exact b5D l1 l2 Γ' K
theorem b3G{ρ:Type}{cx:Cx}{H:Hints}{a b:Code}{p:Nat}(h:find H.cuts p=none)(Γ:AE)(K:Ex→AE→Rs ρ):c0n cx H (.seq a b) p Γ K=c0n cx H a (2*p) Γ fun e Γ'=>match e with
   |.normal=>c0n cx H b (2*p+1) Γ' K
   |e=>K e Γ':=by
 simp only[c0n,h];rfl
theorem c2r{ρ:Type}{cx:Cx}{H:Hints}{id:Nat}{ops:Array Oper}{p:Nat}(Γ:AE)(K:Ex→AE→Rs ρ):c0n cx H (.region id ops false) p Γ K=h0m cx ops.toList (ops.toList.map fun o=>(.x,o)) Γ fun Γ'=>K .normal Γ':=by
 simp only[c0n,cF]
def a7O:Code:=match Tryz.f239.body with
 |some c=>c
 |none=>.skip
def b8I:Code→Code
 |.seq a _=>a
 |c=>c
def c5P:Code→Code
 |.seq _ b=>b
 |c=>c
def c7q:Code→Array Oper
 |.region _ ops _=>ops
 |_=>#[]
def c4T:Code:=c5P (c5P a7O)
def b0J:List Oper:=(c7q (b8I c4T)).toList
def Γ239(x:Int):AE:=(((ini [.v QU] x).set 2 (.val QI (0:Int))).set 3 (.val QU x)).set 4 (.val .bool (x==(0:Int)))
def Γ239r(x:Int):AE:=(Γ239 x).set 2 (.val QI (64:Int))
def c2s(e:Ex)(Γ:AE):Option Int:=match e,Γ.pd with
  |.exit _,_=>none
  |_,some _=>none
  |_,none=>(Γ.upto Tryz.f239.ntmps).outs a8b [] Tryz.f239.ntmps [.v QI] (Tryz.f239.results.toList.map .inl) fun y _=>some y
def Γ239b(x a b c i:Int):AE:=((((((Γ239 x).set 5 (.val QU x)).set 6 (.val QU x)).set 7 (.val QU a)).set 8 (.val QU b)).set 9 (.val QU c)).set 10 (.val QU i)
set_option maxRecDepth 100000
theorem c8v:a7O=.seq (b8I a7O) (.seq (b8I (c5P a7O)) (.seq (.region 3 (c7q (b8I c4T)) false) .ret)):=by kernel_rfl
theorem d0W(x:Int):A0j a8b QH Tryz.f239 a1p.ps a1p.rs x=c0n a8b QH a7O 1 (ini [.v (.int .u64)] x) c2s:=rfl
theorem d0X(x:Int)(K:Ex→AE→Option Int):c0n a8b QH (b8I a7O) 2 (ini [.v (.int .u64)] x) K=K .normal ((ini [.v (.int .u64)] x).set 2 (.val (.int .i64) (0:Int))):=by kernel_rfl
theorem d0Y(x:Int)(K:Ex→AE→Option Int):c0n a8b QH (b8I (c5P a7O)) 6 ((ini [.v (.int .u64)] x).set 2 (.val (.int .i64) (0:Int))) K=bif x==(0:Int)then K .ret (Γ239r x)else K .normal (Γ239 x):=by kernel_rfl
theorem d0Z(x:Int):c2s .ret (Γ239r x)=some (64:Int):=by kernel_rfl
theorem d1a(x:Int)(K:AE→Option Int):h0m a8b b0J ((b0J.map fun o=>(Md.x,o)).take 6) (Γ239 x) K =
  K (Γ239b x (wrap .u64 (0-x)) (bits .u64 .and x (wrap .u64 (0-x))) (wrap .u64 ((bits .u64 .and x (wrap .u64 (0-x)))*(285870213051353865:Int))) (A0o .u64 (wrap .u64 ((bits .u64 .and x (wrap .u64 (0-x)))*(285870213051353865:Int))) (58:Int))):=by kernel_rfl
theorem d1b(x a b c i:Int):h0m a8b b0J ((b0J.map fun o=>(Md.x,o)).drop 6) (Γ239b x a b c i) (fun Γ=>c2s .ret Γ)=(m0k b1i i).bind fun h=>some (wrap .i64 h):=by kernel_rfl
theorem d1c(x:Int):h0m a8b b0J (b0J.map fun o=>(Md.x,o)) (Γ239 x) (fun Γ=>c2s .ret Γ)=(m0k b1i (A0o .u64 (wrap .u64 ((bits .u64 .and x (wrap .u64 (0-x)))*(285870213051353865:Int))) (58:Int))).bind fun h=>some (wrap .i64 h):=by
 rw[←List.take_append_drop 6 (b0J.map fun o=>(Md.x,o)),b5D,d1a,d1b]
theorem d1B(x:Int):c0n a8b QH a7O 1 (ini [.v (.int .u64)] x) c2s=a3g x:=by
 rw[c8v,b3G rfl,d0X];simp only[];rw[b3G rfl,d0Y];simp only[];rw[b3G rfl,c2r];simp only[c0n];rw[d0Z];exact congrArg (fun z=>bif x==(0:Int)then some (64:Int)else z) (d1c x)
theorem d2g(x):A0j a8b QH Tryz.f239 a1p.ps a1p.rs x=a1p.F x:=(d0W x).trans (d1B x)
def b3H(s:Z36):Option Z85:=(fun(a b:Int)=>cond (decide (b<a)) ((m0k s.2.1 b).bind fun x1=>some (.inl (bits .i64 .or s.1 x1,s.2.1,a,wrap .i64 (b+1),()))) (some (.inr (s.1,())))) s.2.2.1 s.2.2.2.1
def a8c(x:LI):Option Int:=(y0s b3H (0,x,(x.length:Int),0,())).bind fun w2=>cond (w2.1==0) (some 0) ((a3g (wrap .u64 w2.1)).bind fun y3=>some (v0s y3 30))
def b6W:FSem:=⟨[.v QL],[.v QI],a8c⟩
def d6s:Hints:=⟨[(58,[3,.sv 6 QL,7,8],[Qe 0 [3]])],[],[]⟩
def b6X(s:Z38):Option (Z38 ⊕ Z19):=(fun(a b:Int)(c:LI)=>cond (decide ((wrap .i64 (a+1))<(c.length:Int))) (cond ((decide (0≤(wrap .i64 (a+1))))&&(decide ((wrap .i64 (a+1))<(c.length:Int)))) (cond ((decide (0≤a))&&(decide (a<(c.length:Int)))) (cond ((decide (0≤a))&&(decide (a<(c.length:Int)))) (some (.inl (wrap .i64 (a+1),s.2.1,b,a05 c (a00 a) (wrap .i64 ((a03 c (a00 (wrap .i64 (a+1))) 0)-(a03 c (a00 a) 0))),()))) none) none) none) (some (.inr (s.2.1,b,c,())))) s.1 s.2.2.1 s.2.2.2.1
def b6Y(s:Z19):Option (Z19 ⊕ (LI×Unit)):=cond (decide (s.2.1<s.1)) ((y0s b6X (0,s.1,s.2.1,s.2.2.1,())).bind fun w3=>cond ((decide (0≤(wrap .i64 ((w3.2.2.1.length:Int)-1))))&&(decide ((wrap .i64 ((w3.2.2.1.length:Int)-1))≤(w3.2.2.1.length:Int)))) (cond (decide ((a00 (wrap .i64 ((w3.2.2.1.length:Int)-1)))≤(a01 w3.2.2.1))) (some (.inl (w3.1,wrap .i64 (w3.2.1+1),a06 (a00 (wrap .i64 ((w3.2.2.1.length:Int)-1))) w3.2.2.1,()))) none) none) (some (.inr (s.2.2.1,())))
def b0K(x:(LI×Int)):Option (LI×Int):=(show Option Z21 from cond (decide (x.2<0)) (some (x.1,x.2,true,())) (cond (decide (x.2 > 4)) (some (x.1,x.2,true,())) (some (x.1,x.2,decide ((x.1.length:Int)<x.2),())))).bind fun z1=>cond z1.2.2.1 (some ([],1)) ((a2r z1.1).bind fun y2=>cond (!y2) (some ([],6)) (cond (lim (a01 z1.1)) ((y0s b6Y (z1.2.1,0,z1.1,())).bind fun w4=>(a2r w4.1).bind fun y5=>cond (!y5) (some ([],6)) (some (w4.1,0))) none))
def c2t:FSem:=⟨[.v QL,.v QI],[.o QI,.v QI],b0K⟩
def d6t:Hints:=⟨[(250,[25,26,.own 6 6 QI],[Qe 0 [.own 6 6 QI]]),(64098,[7,25,26,.own 6 6 QI],[Qe 2 [25,26,.own 6 6 QI]])],[(6,[Qn [.sv 0 QL,1,.sv 19 .bool]])],[(11,[.q,.v,.q,.v,.v,.q,.q,.q,.v,.q,.q,.v,.x,.x])]⟩
def b6h(s:Z59):Option (Z59 ⊕ (Int×Unit)):=(fun(a:Int)(b:LI)(c d:Int)=>cond (decide (d<c)) ((m0k b d).bind fun x1=>cond (decide ((wrap .i64 (d+s.1))≥4)) (some (.inl (s.1,wrap .i64 (a+(v0r x1 (wrap .i64 (0-x1)))),b,c,wrap .i64 (d+1),()))) (some (.inl (s.1,a,b,c,wrap .i64 (d+1),())))) (some (.inr (a,())))) s.2.1 s.2.2.1 s.2.2.2.1 s.2.2.2.2.1
def b3a(x:(LI×Int)):Option Int:=(y0s b6h (x.2,0,x.1,(x.1.length:Int),0,())).bind fun w2=>some w2.1
def c1f:FSem:=⟨[.v QL,.v QI],[.v QI],b3a⟩
def d6u:Hints:=⟨[(58,[1,5,.sv 8 QL,9,10],[Qe 0 [5]])],[],[]⟩
def b6Z(s:Z37):Option (Z37 ⊕ (Int×Unit)):=(fun(a:LI)(b c d:Int)=>cond (decide (d≤4)) ((b0K (a,d)).bind fun y1=>cond (y1.2 != 0) (some (.inl (a,b,c,wrap .i64 (d+1),()))) ((b3a (y1.1,d)).bind fun y2=>(show Option (LI×(Int×Z28))from cond (decide (c<0)) (some (a,b,c,d,y2,true,())) (some (a,b,c,d,y2,decide (y2<c),()))).bind fun z3=>cond z3.2.2.2.2.2.1 (some (.inl (z3.1,z3.2.2.2.1,z3.2.2.2.2.1,wrap .i64 (z3.2.2.2.1+1),()))) (some (.inl (z3.1,z3.2.1,z3.2.2.1,wrap .i64 (z3.2.2.2.1+1),()))))) (some (.inr (b,())))) s.1 s.2.1 s.2.2.1 s.2.2.2.1
def b3I(x:LI):Option Int:=(y0s b6Z (x,0,(-1),0,())).bind fun w4=>some w4.1
def c2u:FSem:=⟨[.v QL],[.v QI],b3I⟩
def d6v:Hints:=⟨[(58,[.sv 0 QL,3,4,5],[Qe 0 [3]])],[(7463,[Qn [.sv 0 QL,3,4,5,8,.sv 30 .bool]])],[]⟩
def a6O(x:Int):Option Int:=some (v0s (v0r x (-1048576)) 1048575)
def b8J:FSem:=⟨[.v QI],[.v QI],a6O⟩
def b3J(s:Z94):Option (Z94 ⊕ Z76):=(fun(a b:Int)(c:LI)(d e:Int)=>cond (decide (a<0)) none ((a6O (A0o .i64 b a)).bind fun y2=>cond (decide (a<0)) none (cond (y2 != (A0o .i64 b a)) (some (.inl (s.1,wrap .i64 (a+1),b,c,d,e,()))) (some (.inr (s.1,a,c,d,e,())))))) s.2.1 s.2.2.1 s.2.2.2.1 s.2.2.2.2.1 s.2.2.2.2.2.1
def b3K(s:Z76):Option (Z76 ⊕ Z6):=(fun(a:LI)(b c:Int)=>cond (decide (c<b)) ((m0k a c).bind fun x1=>(y0s b3J (s.1,s.2.1,x1,a,b,c,())).bind fun w3=>some (.inl (w3.1,w3.2.1,w3.2.2.1,w3.2.2.2.1,wrap .i64 (w3.2.2.2.2.1+1),()))) (some (.inr (s.1,s.2.1,())))) s.2.2.1 s.2.2.2.1 s.2.2.2.2.1
def b3L(s:Z74):Option (Z74 ⊕ (LI×Unit)):=(fun(a b:Int)(c:LI)=>cond (decide (b<a)) ((m0k s.2.1 b).bind fun x5=>cond (decide (s.1<0)) none (cond ((decide (0≤b))&&(decide (b<(c.length:Int)))) (some (.inl (s.1,s.2.1,a,wrap .i64 (b+1),a05 c (a00 b) (A0o .i64 x5 s.1),()))) none)) (some (.inr (c,())))) s.2.2.1 s.2.2.2.1 s.2.2.2.2.1
def b1m(x:LI):Option LI:=(y0s b3K (x,0,x,(x.length:Int),0,())).bind fun w4=>cond ((decide (0≤(w4.1.length:Int)))&&((decide ((w4.1.length:Int)≤(w4.1.length:Int)))&&(lim (a00 (w4.1.length:Int))))) ((y0s b3L (w4.2.1,w4.1,(w4.1.length:Int),0,a02 (a00 (w4.1.length:Int)) 0,())).bind fun w6=>some w6.1) none
def b7a:FSem:=⟨[.v QL],[.o QI],b1m⟩
def d6w:Hints:=⟨[(58,[.sv 0 QL,3,.sv 9 QL,10,11],[Qe 0 [.sv 0 QL,3]]),(250,[3,.sv 29 QL,30,31,.own 6 6 QI],[Qe 4 [.own 6 6 QI]]),(7474,[.sv 0 QL,3,5,.sv 9 QL,10,11],[Qe 2 [.sv 0 QL,3,.sv 9 QL,10,11]])],[],[(5,[.v,.v,.v,.v,.v,.v,.v,.x])]⟩
def b1N(s:Z77):Option (Z77 ⊕ (Int×Int×Unit)):=(fun(a b:LI)(c d e:Int)=>cond (decide (e<(a.length:Int))) ((m0k a e).bind fun x1=>(m0k b (wrap .i64 (e-1))).bind fun x2=>(m0k a e).bind fun x3=>(m0k a e).bind fun x4=>(m0k b (wrap .i64 (e-1))).bind fun x5=>(m0k b (wrap .i64 (e-1))).bind fun x6=>some (.inl (a,b,wrap .i64 (c+(wrap .i64 (x1*x2))),wrap .i64 (d+(wrap .i64 ((wrap .i64 (x3*x4))+(wrap .i64 (x5*x6))))),wrap .i64 (e+1),()))) (some (.inr (c,d,())))) s.1 s.2.1 s.2.2.1 s.2.2.2.1 s.2.2.2.2.1
def b1O(s:(Int×Int×Unit)):Option ((Int×Int×Unit) ⊕ (Int×Int×Unit)):=cond (decide (s.2.1≥1099511627776)) (some (.inl (A0o .i64 s.1 1,A0o .i64 s.2.1 1,()))) (some (.inr (s.1,s.2.1,())))
def a8A(x:Z12):Option Int:=(y0s b1N (x.1,x.2.1,0,0,x.2.2,())).bind fun w7=>(y0s b1O (w7.1,w7.2.1,())).bind fun w8=>cond (w8.2.1==0) (some 0) (cond (w8.2.1==0) none ((show Option (Int×Unit)from cond (w8.2.1==0) none (cond (decide ((a07 (A0n .i64 w8.1 15) w8.2.1)<0)) (some (wrap .i64 ((wrap .i64 (a08 (A0n .i64 w8.1 15) w8.2.1))-1),())) (some (wrap .i64 (a08 (A0n .i64 w8.1 15) w8.2.1),())))).bind fun z9=>some (v0s (v0r z9.1 (-16383)) 16383)))
def b3p:FSem:=⟨[.v QL,.v QL,.v QI],[.v QI],a8A⟩
def d6x:Hints:=⟨[(58,[.sv 0 QL,.sv 1 QL,7,8,9],[Qe 0 [7,8]]),(60,[7,8],[Qe 2 [7,8]])],[(255,[Qn [10]])],[(5,[.v,.v,.v,.v,.v,.v,.v,.v,.v,.v,.v,.x,.x]),(6,[.v,.v,.v,.v,.v,.v,.v,.v,.v,.v,.v,.v,.v,.v,.v,.v,.v,.v,.v,.v,.v,.v,.x,.x])]⟩
def b3q(s:(Int×Int×Z91)):Option ((Int×Int×Z91) ⊕ Z91):=(fun(a b c:Int)(d e f:LI)=>cond (decide (c≥a)) (cond ((decide (0≤c))&&(decide (c<(d.length:Int)))) (cond ((decide (0≤(wrap .i64 (c-1))))&&(decide ((wrap .i64 (c-1))<(e.length:Int)))) ((a6O (wrap .i64 ((a03 d (a00 c) 0)-(A0o .i64 (wrap .i64 (b*(a03 e (a00 (wrap .i64 (c-1))) 0))) 14)))).bind fun y6=>cond ((decide (0≤c))&&(decide (c<(d.length:Int)))) ((a6O (wrap .i64 ((a03 e (a00 (wrap .i64 (c-1))) 0)-(A0o .i64 (wrap .i64 (b*(a03 d (a00 c) 0))) 14)))).bind fun y7=>cond ((decide (0≤c))&&(decide (c<(e.length:Int)))) (some (.inl (s.1,a,b,wrap .i64 (c-1),a05 d (a00 c) y6,a05 e (a00 c) y7,f,()))) none) none) none) none) (some (.inr (s.1,a,d,e,f,())))) s.2.1 s.2.2.1 s.2.2.2.1 s.2.2.2.2.1 s.2.2.2.2.2.1 s.2.2.2.2.2.2.1
def b3r(s:Z91):Option (Z91 ⊕ (LI×Unit)):=(fun(a:Int)(b c d:LI)=>cond (decide (a≤s.1)) ((a8A (b,c,a)).bind fun y5=>cond (lim ((a01 d)+1)) ((y0s b3q (s.1,a,y5,wrap .i64 ((b.length:Int)-1),b,c,a04 d [y5],())).bind fun w8=>some (.inl (w8.1,wrap .i64 (w8.2.1+1),w8.2.2.1,w8.2.2.2.1,w8.2.2.2.2.1,()))) none) (some (.inr (d,())))) s.2.1 s.2.2.1 s.2.2.2.1 s.2.2.2.2.1
def b0L(x:(LI×Int)):Option (LI×Int):=(show Option Z21 from cond (decide (x.2<1)) (some (x.1,x.2,true,())) (cond (decide (x.2 > 32)) (some (x.1,x.2,true,())) (some (x.1,x.2,decide ((x.1.length:Int) > 4096),())))).bind fun z1=>cond z1.2.2.1 (some ([],1)) ((a2l z1.1).bind fun y2=>cond (!y2) (some ([],6)) ((b1m z1.1).bind fun y3=>(a0X y3).bind fun y4=>cond ((decide (0≤z1.2.1))&&(lim (a00 z1.2.1))) ((y0s b3r (z1.2.1,1,y3,y4,[],())).bind fun w9=>some (w9.1,0)) none))
def b6i:FSem:=⟨[.v QL,.v QI],[.o QI,.v QI],b0L⟩
def d6y:Hints:=⟨[(1018,[1,9,.own 6 6 QI,.own 7 7 QI,.own 8 8 QI],[Qe 0 [.own 8 8 QI]]),(260686,[1,9,10,11,.own 6 6 QI,.own 7 7 QI,.own 8 8 QI],[Qe 2 [1,9,.own 6 6 QI,.own 7 7 QI,.own 8 8 QI]])],[(6,[Qn [.sv 0 QL,1,.sv 24 .bool]])],[(16,[.q,.v,.q,.q,.q,.v,.v,.q,.q,.v,.x])]⟩
def b4Y(s:Z53):Option (Z53 ⊕ ((LI×Unit) ⊕ Z6)):=(fun(a:LI)(b c:Int)=>cond (decide (c<b)) ((m0k a c).bind fun x2=>(show Option (LI×Z40)from cond (decide (x2<(-16383))) (some (s.1,a,b,c,true,())) (some (s.1,a,b,c,decide (x2 > 16383),()))).bind fun z3=>cond z3.2.2.2.2.1 (some (.inr (Sum.inr (([],1,()))))) (some (.inl (z3.1,z3.2.1,z3.2.2.1,wrap .i64 (z3.2.2.2.1+1),())))) (some (.inr (Sum.inl (s.1,()))))) s.2.1 s.2.2.1 s.2.2.2.1
def b4Z(s:(LI×(Int×(Int×(LI×Z97))))):Option ((LI×(Int×(Int×(LI×Z97)))) ⊕ Z74):=(fun(a:Int)(b:LI)(c d:Int)(e:LI)(f g:Int)(h:LI)=>cond (decide (g<f)) ((m0k e g).bind fun x8=>(m0k s.1 (wrap .i64 ((wrap .i64 (s.2.1-1))-g))).bind fun x9=>cond (lim ((a01 h)+1)) (some (.inl (s.1,s.2.1,a,b,c,d,e,f,wrap .i64 (g+1),a04 h [wrap .i64 (x8-(A0o .i64 (wrap .i64 (a*x9)) 14))],()))) none) (some (.inr (a,b,c,d,h,())))) s.2.2.1 s.2.2.2.1 s.2.2.2.2.1 s.2.2.2.2.2.1 s.2.2.2.2.2.2.1 s.2.2.2.2.2.2.2.1 s.2.2.2.2.2.2.2.2.1 s.2.2.2.2.2.2.2.2.2.1
def b5a(s:Z53):Option (Z53 ⊕ (LI×Unit)):=(fun(a:LI)(b c:Int)=>cond (decide (c<b)) ((m0k s.2.1 c).bind fun x7=>cond ((decide (0≤(wrap .i64 (c+1))))&&(lim (a00 (wrap .i64 (c+1))))) ((y0s b4Z (a,c,x7,s.2.1,b,c,a,(a.length:Int),0,[],())).bind fun w10=>cond (lim ((a01 w10.2.2.2.2.1)+1)) (some (.inl (a04 w10.2.2.2.2.1 [w10.1],w10.2.1,w10.2.2.1,wrap .i64 (w10.2.2.2.1+1),()))) none) none) (some (.inr (a,())))) s.1 s.2.2.1 s.2.2.2.1
def b2b(x:LI):Option (LI×Int):=(show Option (LI×(Bool×Unit))from cond (decide ((x.length:Int)<1)) (some (x,true,())) (some (x,decide ((x.length:Int) > 32),()))).bind fun z1=>cond z1.2.1 (some ([],1)) ((y0s b4Y (z1.1,z1.1,(z1.1.length:Int),0,())).bind fun w4=>match w4 with |.inl a5=>((y0s b5a ([],a5.1,(a5.1.length:Int),0,())).bind fun w11=>some (w11.1,0)) |.inr b6=>some (b6.1,b6.2.1))
def b8K:FSem:=⟨[.v QL],[.v QL,.v QI],b2b⟩
def d6z:Hints:=⟨[(58,[.sv 0 QL,.sv 20 QL,21,22],[Qe 0 [.sv 0 QL],Qr [.sv 2 QL,3]]),(250,[.sv 6 QL,.sv 34 QL,35,36],[Qe 2 [.sv 6 QL]]),(256410,[.sv 6 QL,7,8,.sv 34 QL,35,36,.sv 44 QL,45,46,.own 9 9 QI],[Qe 4 [8,.sv 34 QL,35,36,.own 9 9 QI]])],[(6,[Qn [.sv 0 QL,.sv 19 .bool]]),(3737,[Qn [.sv 0 QL,.sv 20 QL,21,22,.sv 31 .bool]])],[]⟩
def b5b(s:Z76):Option (Z76 ⊕ (Z6 ⊕ Z19)):=(fun(a:Int)(b:LI)(c d:Int)=>cond (decide (d<c)) ((m0k b d).bind fun x2=>(show Option (LI×(Int×Z40))from cond (decide (x2<(-35184372088832))) (some (s.1,a,b,c,d,true,())) (some (s.1,a,b,c,d,decide (x2 > 35184372088832),()))).bind fun z3=>cond z3.2.2.2.2.2.1 (some (.inr (Sum.inr ((0,1,[],()))))) (some (.inl (z3.1,z3.2.1,z3.2.2.1,z3.2.2.2.1,wrap .i64 (z3.2.2.2.2.1+1),())))) (some (.inr (Sum.inl (s.1,a,()))))) s.2.1 s.2.2.1 s.2.2.2.1 s.2.2.2.2.1
def b5c(s:(LI×(Int×Z97))):Option ((LI×(Int×Z97)) ⊕ Z49):=(fun(a b c:Int)(d:LI)(e f:Int)(g:LI)=>cond (decide (f<e)) ((m0k d f).bind fun x8=>cond (decide (b<0)) none ((a1V (A0o .i64 (wrap .i64 (x8+c)) b,a)).bind fun y9=>cond (!y9) (some (.inr (s.1,a,b,g,()))) (cond (lim ((a01 g)+1)) (some (.inl (s.1,a,b,c,d,e,wrap .i64 (f+1),a04 g [A0o .i64 (wrap .i64 (x8+c)) b],()))) none))) (some (.inr (s.1,a,b,g,())))) s.2.1 s.2.2.1 s.2.2.2.1 s.2.2.2.2.1 s.2.2.2.2.2.1 s.2.2.2.2.2.2.1 s.2.2.2.2.2.2.2.1
def b5d(s:Z18):Option (Z18 ⊕ (Unit ⊕ Z19)):=(fun(a:Int)=>cond (decide (a≤14)) ((show Option Z37 from cond (decide (a > 0)) (cond (decide ((wrap .i64 (a-1))<0)) none (some (s.1,s.2.1,a,A0n .i64 1 (wrap .i64 (a-1)),()))) (some (s.1,s.2.1,a,0,()))).bind fun z7=>cond ((decide (0≤(z7.1.length:Int)))&&(lim (a00 (z7.1.length:Int)))) ((y0s b5c (z7.1,z7.2.1,z7.2.2.1,z7.2.2.2.1,z7.1,(z7.1.length:Int),0,[],())).bind fun w10=>cond ((w10.2.2.2.1.length:Int)==(w10.1.length:Int)) (some (.inr (Sum.inr ((wrap .i64 (14-w10.2.2.1),0,w10.2.2.2.1,()))))) (some (.inl (w10.1,w10.2.1,wrap .i64 (w10.2.2.1+1),())))) none) (some (.inr (Sum.inl ())))) s.2.2.1
def b2c(x:(LI×Int)):Option Z3:=(show Option Z21 from cond (decide ((x.1.length:Int)<1)) (some (x.1,x.2,true,())) (cond (decide ((x.1.length:Int) > 32)) (some (x.1,x.2,true,())) (cond (decide (x.2<2)) (some (x.1,x.2,true,())) (some (x.1,x.2,decide (x.2 > 16),()))))).bind fun z1=>cond z1.2.2.1 (some ([],0,1)) ((y0s b5b (z1.1,z1.2.1,z1.1,(z1.1.length:Int),0,())).bind fun w4=>match w4 with |.inl a5=>((y0s b5d (a5.1,a5.2.1,0,())).bind fun w11=>match w11 with |.inl a12=>some ([],0,6) |.inr b13=>some (b13.2.2.1,b13.1,b13.2.1)) |.inr b6=>some (b6.2.2.1,b6.1,b6.2.1))
def b8L:FSem:=⟨[.v QL,.v QI],[.o QI,.v QI,.v QI],b2c⟩
def d6A:Hints:=⟨[(58,[.sv 0 QL,1,.sv 31 QL,32,33],[Qe 0 [.sv 0 QL,1],Qr [5,6,.own 4 4 QI]]),(122,[.sv 0 QL,1,9],[Qe 2 [],Qr [5,6,.own 4 11 QI]]),(125242,[.sv 0 QL,1,9,10,.sv 56 QL,57,58,.own 11 11 QI],[Qe 4 [.sv 0 QL,1,9,.own 11 11 QI]])],[(6,[Qn [.sv 0 QL,1,.sv 30 .bool]]),(3737,[Qn [.sv 0 QL,1,.sv 31 QL,32,33,.sv 42 .bool]]),(3913,[Qn [.sv 0 QL,1,9,10]])],[]⟩
def a9z(x:Z3):Option Z3:=(b0L (x.1,x.2.1)).bind fun y1=>cond (y1.2 != 0) (some ([],0,y1.2)) ((b2b y1.1).bind fun y2=>cond (y2.2 != 0) (some ([],0,y2.2)) ((b2c (y2.1,x.2.2)).bind fun y3=>some (y3.1,y3.2.1,y3.2.2)))
def c1g:FSem:=⟨[.v QL,.v QI,.v QI],[.o QI,.v QI,.v QI],a9z⟩
def b8M(s:(LI×Z86)):Option ((LI×Z86) ⊕ (LI×Z67)):=(fun(a:LI)(b c d e f g:Int)=>cond (decide (g<(a.length:Int))) ((m0k a g).bind fun x3=>(m0k a (wrap .i64 (g-e))).bind fun x4=>some (.inl (a,s.2.1,b,c,d,e,wrap .i64 (f+(v0r (wrap .i64 (x3-x4)) (wrap .i64 (0-(wrap .i64 (x3-x4)))))),wrap .i64 (g+1),()))) (some (.inr (a,s.2.1,b,c,d,e,f,())))) s.1 s.2.2.1 s.2.2.2.1 s.2.2.2.2.1 s.2.2.2.2.2.1 s.2.2.2.2.2.2.1 s.2.2.2.2.2.2.2.1
def b8N(s:(LI×Z43)):Option ((LI×Z43) ⊕ (Int×Unit)):=(fun(a b c:Int)=>cond (decide (c≤a)) ((y0s b8M (s.1,s.2.1,a,b,s.2.2.2.2.1,c,0,a,())).bind fun w5=>(show Option (LI×(Int×Int×Int×Z28))from cond (w5.2.2.2.2.2.1==w5.2.1) (some (w5.1,w5.2.1,w5.2.2.1,w5.2.2.2.1,w5.2.2.2.2.1,w5.2.2.2.2.2.1,w5.2.2.2.2.2.2.1,true,())) (some (w5.1,w5.2.1,w5.2.2.1,w5.2.2.2.1,w5.2.2.2.2.1,w5.2.2.2.2.2.1,w5.2.2.2.2.2.2.1,decide (w5.2.2.2.2.2.2.1<w5.2.2.2.2.1),()))).bind fun z6=>cond z6.2.2.2.2.2.2.2.1 (some (.inl (z6.1,z6.2.1,z6.2.2.1,z6.2.2.2.2.2.1,z6.2.2.2.2.2.2.1,wrap .i64 (z6.2.2.2.2.2.1+1),()))) (some (.inl (z6.1,z6.2.1,z6.2.2.1,z6.2.2.2.1,z6.2.2.2.2.1,wrap .i64 (z6.2.2.2.2.2.1+1),())))) (some (.inr (b,())))) s.2.2.1 s.2.2.2.1 s.2.2.2.2.2.1
def b5E(x:Z3):Option (Int×Int):=(show Option Z40 from cond (decide (x.2.1<2)) (some (x.1,x.2.1,x.2.2,true,())) (cond (decide (x.2.1 > x.2.2)) (some (x.1,x.2.1,x.2.2,true,())) (cond (decide (x.2.2 > 1024)) (some (x.1,x.2.1,x.2.2,true,())) (some (x.1,x.2.1,x.2.2,decide ((x.1.length:Int) > 4096),()))))).bind fun z1=>cond z1.2.2.2.1 (some (0,1)) (cond (decide ((z1.1.length:Int)≤z1.2.2.1)) (some (0,7)) ((a3N z1.1).bind fun y2=>cond (!y2) (some (0,6)) ((y0s b8N (z1.1,z1.2.1,z1.2.2.1,0,0,z1.2.1,())).bind fun w7=>some (w7.1,0))))
def c4b:FSem:=⟨[.v QL,.v QI,.v QI],[.v QI,.v QI],b5E⟩
def d6B:Hints:=⟨[(506,[.sv 0 QL,1,2,8,9,10],[Qe 0 [8]]),(129610,[.sv 0 QL,1,2,8,9,10,11,12],[Qe 2 [.sv 0 QL,1,2,8,9,10,11]])],[(6,[Qn [.sv 0 QL,1,2,.sv 29 .bool]]),(32403,[Qn [.sv 0 QL,1,2,8,9,10,11,.sv 74 .bool]])],[(15,[.v,.v,.v,.v,.v,.v,.v,.v,.v,.v,.x,.x])]⟩
def b8O(s:(LI×c5k)):Option ((LI×c5k) ⊕ Z57):=(fun(a:LI)(b c:Int)(d e:LI)=>cond (decide (c<b)) ((m0k a c).bind fun x3=>(a3O (s.1,c,s.2.1,e)).bind fun y4=>(a5V (wrap .i64 (x3-y4))).bind fun y5=>cond (!y5) (some (.inr (Sum.inr ((6,[],()))))) (cond (lim ((a01 d)+1)) (some (.inl (s.1,s.2.1,a,b,wrap .i64 (c+1),a04 d [wrap .i64 (x3-y4)],e,()))) none)) (some (.inr (Sum.inl (d,()))))) s.2.2.1 s.2.2.2.1 s.2.2.2.2.1 s.2.2.2.2.2.1 s.2.2.2.2.2.2.1
def a8Y(x:Z13):Option (LI×Int):=(a6L (x.2.1,x.2.2)).bind fun y1=>cond (!y1) (some ([],1)) ((a3N x.1).bind fun y2=>cond (!y2) (some ([],6)) (cond ((decide (0≤(x.1.length:Int)))&&(lim (a00 (x.1.length:Int)))) ((y0s b8O (x.1,x.2.1,x.1,(x.1.length:Int),0,[],x.2.2,())).bind fun w6=>match w6 with |.inl a7=>some (a7.1,0) |.inr b8=>some (b8.2.1,b8.1)) none))
def c4c:FSem:=⟨[.v QL,.v QI,.v (.arr 3 QI)],[.o QI,.v QI],a8Y⟩
def d6C:Hints:=⟨[(250,[.sv 0 QL,1,.sv 22 QL,23,24,.own 8 8 QI,.vp 5 (.arr 3 QI)],[Qe 0 [.own 8 8 QI],Qr [7,.own 6 6 QI]])],[],[]⟩
def b3M(x:Unit):Option (List LI):=some ([a05 (a05 (a05 (a02 3 0) 0 0) 1 0) 2 0,a05 (a05 (a05 (a02 3 0) 0 0) 1 64) 2 0,a05 (a05 (a05 (a02 3 0) 0 0) 1 32) 2 0,a05 (a05 (a05 (a02 3 0) 0 16) 1 32) 2 16,a05 (a05 (a05 (a02 3 0) 0 21) 1 22) 2 21,a05 (a05 (a05 (a02 3 0) 0 0) 1 48) 2 0,a05 (a05 (a05 (a02 3 0) 0 (-8)) 1 64) 2 (-8),a05 (a05 (a05 (a02 3 0) 0 32) 1 32) 2 0,a05 (a05 (a05 (a02 3 0) 0 0) 1 32) 2 32]:List LI)
def c2v:FSem:=⟨[],[.o (.arr 3 QI)],b3M⟩
def b8P(s:(LI×(Int×(Int×(Bool×(Int×(Int×(Int×(Int×(Int×((List LI)×(LI×Z48)))))))))))):Option ((LI×(Int×(Int×(Bool×(Int×(Int×(Int×(Int×(Int×((List LI)×(LI×Z48))))))))))) ⊕ (LI×(Int×(Int×(Bool×(Int×(Int×(Int×((List LI)×Z48))))))))):=(fun(a:Int)(b:Bool)(c d e f g:Int)(h:List LI)(i j k l:LI)=>cond (decide (g<f)) (cond ((decide (0≤g))&&(decide (g<(i.length:Int)))) (some (.inl (s.1,s.2.1,a,b,wrap .i64 (c+(v0r (a03 i (a00 g) 0) (wrap .i64 (0-(a03 i (a00 g) 0))))),d,e,f,wrap .i64 (g+1),h,i,j,k,l,()))) none) (some (.inr (s.1,s.2.1,a,b,c,d,e,h,j,k,l,())))) s.2.2.1 s.2.2.2.1 s.2.2.2.2.1 s.2.2.2.2.2.1 s.2.2.2.2.2.2.1 s.2.2.2.2.2.2.2.1 s.2.2.2.2.2.2.2.2.1 s.2.2.2.2.2.2.2.2.2.1 s.2.2.2.2.2.2.2.2.2.2.1 s.2.2.2.2.2.2.2.2.2.2.2.1 s.2.2.2.2.2.2.2.2.2.2.2.2.1 s.2.2.2.2.2.2.2.2.2.2.2.2.2.1
def b8Q(s:(LI×(Int×(Int×(Bool×(Int×(Int×((List LI)×Z15)))))))):Option ((LI×(Int×(Int×(Bool×(Int×(Int×((List LI)×Z15))))))) ⊕ (Bool×Z15)):=(fun(a b:Int)(c:Bool)(d e:Int)(f:List LI)(g h:LI)=>cond (decide (e<d)) (cond ((decide (0≤e))&&(decide (e<(f.length:Int)))) ((a8Y (s.1,a,a03 f (a00 e) (a02 3 0))).bind fun y3=>cond (y3.2 != 0) (some (.inl (s.1,a,b,c,d,wrap .i64 (e+1),f,g,h,()))) ((y0s b8P (s.1,a,b,c,0,d,e,(y3.1.length:Int),0,f,y3.1,g,h,a03 f (a00 e) (a02 3 0),())).bind fun w4=>(show Option (LI×(Int×(Int×(Bool×(Int×(Int×(Int×(Bool×((List LI)×Z48)))))))))from cond (!w4.2.2.2.1) (some (w4.1,w4.2.1,w4.2.2.1,w4.2.2.2.1,w4.2.2.2.2.1,w4.2.2.2.2.2.1,w4.2.2.2.2.2.2.1,true,w4.2.2.2.2.2.2.2.1,w4.2.2.2.2.2.2.2.2.1,w4.2.2.2.2.2.2.2.2.2.1,w4.2.2.2.2.2.2.2.2.2.2.1,())) (some (w4.1,w4.2.1,w4.2.2.1,w4.2.2.2.1,w4.2.2.2.2.1,w4.2.2.2.2.2.1,w4.2.2.2.2.2.2.1,decide (w4.2.2.2.2.1<w4.2.2.1),w4.2.2.2.2.2.2.2.1,w4.2.2.2.2.2.2.2.2.1,w4.2.2.2.2.2.2.2.2.2.1,w4.2.2.2.2.2.2.2.2.2.2.1,()))).bind fun z5=>cond z5.2.2.2.2.2.2.2.1 (some (.inl (z5.1,z5.2.1,z5.2.2.2.2.1,true,z5.2.2.2.2.2.1,wrap .i64 (z5.2.2.2.2.2.2.1+1),z5.2.2.2.2.2.2.2.2.1,z5.2.2.2.2.2.2.2.2.2.1,z5.2.2.2.2.2.2.2.2.2.2.2.1,()))) (some (.inl (z5.1,z5.2.1,z5.2.2.1,z5.2.2.2.1,z5.2.2.2.2.2.1,wrap .i64 (z5.2.2.2.2.2.2.1+1),z5.2.2.2.2.2.2.2.2.1,z5.2.2.2.2.2.2.2.2.2.1,z5.2.2.2.2.2.2.2.2.2.2.1,()))))) none) (some (.inr (c,g,h,())))) s.2.1 s.2.2.1 s.2.2.2.1 s.2.2.2.2.1 s.2.2.2.2.2.1 s.2.2.2.2.2.2.1 s.2.2.2.2.2.2.2.1 s.2.2.2.2.2.2.2.2.1
def b5F(x:(LI×Int)):Option (LI×Int):=(show Option (LI×Z23)from cond (decide (x.2<2)) (some (x.1,x.2,true,a02 3 0,())) (some (x.1,x.2,decide (x.2 > 1024),a02 3 0,()))).bind fun z1=>cond z1.2.2.1 (some (a02 3 0,1)) ((b3M ()).bind fun y2=>(y0s b8Q (z1.1,z1.2.1,0,false,(y2.length:Int),0,y2,z1.2.2.2.1,a02 3 0,())).bind fun w6=>cond (!w6.1) (some (a02 3 0,6)) (some (w6.2.2.1,0)))
def c4d:FSem:=⟨[.v QL,.v QI],[.v (.arr 3 QI),.v QI],b5F⟩
def d6D:Hints:=⟨[(122,[.sv 0 QL,1,7,.sv 8 .bool,25,26,.own 24 1024 (.arr 3 QI),.box 4 (.arr 3 QI),.box 6 (.arr 3 QI),Qp 4 4,Qp 6 6],[Qe 0 [.sv 8 .bool,.box 4 (.arr 3 QI),.box 6 (.arr 3 QI),Qp 4 4,Qp 6 6]]),(501370,[.sv 0 QL,1,7,.sv 8 .bool,13,25,26,40,41,.own 24 1024 (.arr 3 QI),.own 39 11 QI,.box 4 (.arr 3 QI),.box 6 (.arr 3 QI),.box 10 (.arr 3 QI),Qp 4 4,Qp 6 6,Qp 10 10],[Qe 2 [.sv 0 QL,1,7,.sv 8 .bool,13,25,26,.own 24 1024 (.arr 3 QI),.box 4 (.arr 3 QI),.box 6 (.arr 3 QI),.box 10 (.arr 3 QI),Qp 4 4,Qp 6 6,Qp 10 10]])],[(6,[Qn [.sv 0 QL,1,.sv 21 .bool,.box 4 (.arr 3 QI),Qp 4 4]]),(125343,[Qn [.sv 0 QL,1,7,.sv 8 .bool,13,25,26,.sv 58 .bool,.own 24 1024 (.arr 3 QI),.box 4 (.arr 3 QI),.box 6 (.arr 3 QI),.box 10 (.arr 3 QI),Qp 4 4,Qp 6 6,Qp 10 10]])],[]⟩
def b3N(x:LI):Option (a0W×Bool):=(b5E (x,16,256)).bind fun y1=>cond (y1.2 != 0) (some ((0,0,0,0,0,[],a02 3 0,[],[],(0,[],()),[],()),false)) ((b5F (x,y1.1)).bind fun y2=>cond (y2.2 != 0) (some ((0,0,0,0,0,[],a02 3 0,[],[],(0,[],()),[],()),false)) ((a8Y (x,y1.1,y2.1)).bind fun y3=>cond (y3.2 != 0) (some ((0,0,0,0,0,[],a02 3 0,[],[],(0,[],()),[],()),false)) ((a9z (y3.1,4,12)).bind fun y4=>cond (y4.2.2 != 0) (some ((0,0,0,0,0,[],a02 3 0,[],[],(0,[],()),[],()),false)) (some ((4,0,0,y4.2.1,y1.1,y4.1,y2.1,[],[],(0,[],()),[],()),true)))))
def c2w:FSem:=⟨[.v QL],[.v Q61,.v .bool],b3N⟩
def a1L(x:(Int×(Int×(LI×a8D)))):Option (LI×a8D):=(a9z (x.2.2.1,x.1,x.2.1)).bind fun y1=>cond (y1.2.2==0) (cond (lim ((a01 x.2.2.2)+1)) (some (x.2.2.1,a04 x.2.2.2 ([(3,0,0,y1.2.1,0,y1.1,a02 3 0,[],[],(0,[],()),[],())]:List a0W))) none) (some (x.2.2.1,x.2.2.2))
def b3O:FSem:=⟨[.v QI,.v QI,.r false (.b QL),.r false (.b (.list true Q61))],[],a1L⟩
def b3s(s:(Int×c5v)):Option ((Int×c5v) ⊕ c5v):=cond (decide (s.1<5)) (cond (lim ((a01 s.2.1)+1)) (some (.inl (wrap .i64 (s.1+1),a04 s.2.1 ([(2,0,s.1,0,0,[],a02 3 0,[],[],(0,[],()),[],())]:List a0W),s.2.2.1,()))) none) (some (.inr (s.2.1,s.2.2.1,())))
def b0M(x:(LI×Int)):Option a8D:=(b3I x.1).bind fun y1=>(show Option (Int×(LI×c8q))from cond (decide (x.2≥1)) ((a1L (4,12,x.1,([(0,0,0,0,0,[],a02 3 0,[],[],(0,[],()),[],()),(1,0,0,0,0,[],a02 3 0,[],[],(0,[],()),[],()),(2,0,y1,0,0,[],a02 3 0,[],[],(0,[],()),[],())]:List a0W))).bind fun y2=>(a1L (8,12,y2.1,y2.2)).bind fun y3=>some (x.2,y3.1,y3.2,())) (some (x.2,x.1,([(0,0,0,0,0,[],a02 3 0,[],[],(0,[],()),[],()),(1,0,0,0,0,[],a02 3 0,[],[],(0,[],()),[],()),(2,0,y1,0,0,[],a02 3 0,[],[],(0,[],()),[],())]:List a0W),()))).bind fun z4=>(show Option (Int×c5v)from cond (decide (z4.1≥2)) (cond (lim ((a01 z4.2.2.1)+1)) (cond (lim ((a01 (a04 z4.2.2.1 ([(5,0,0,0,0,[],a02 3 0,([(16,4,())]:List (Int×Int×Unit)),[],(0,[],()),[],())]:List a0W)))+1)) ((b3N z4.2.1).bind fun y5=>cond y5.2 (cond (lim ((a01 (a04 (a04 z4.2.2.1 ([(5,0,0,0,0,[],a02 3 0,([(16,4,())]:List (Int×Int×Unit)),[],(0,[],()),[],())]:List a0W)) ([(5,0,0,0,0,[],a02 3 0,([(32,3,()),(16,5,())]:List (Int×Int×Unit)),[],(0,[],()),[],())]:List a0W)))+1)) (some (z4.1,a04 (a04 (a04 z4.2.2.1 ([(5,0,0,0,0,[],a02 3 0,([(16,4,())]:List (Int×Int×Unit)),[],(0,[],()),[],())]:List a0W)) ([(5,0,0,0,0,[],a02 3 0,([(32,3,()),(16,5,())]:List (Int×Int×Unit)),[],(0,[],()),[],())]:List a0W)) ([y5.1]:List a0W),z4.2.1,())) none) (some (z4.1,a04 (a04 z4.2.2.1 ([(5,0,0,0,0,[],a02 3 0,([(16,4,())]:List (Int×Int×Unit)),[],(0,[],()),[],())]:List a0W)) ([(5,0,0,0,0,[],a02 3 0,([(32,3,()),(16,5,())]:List (Int×Int×Unit)),[],(0,[],()),[],())]:List a0W),z4.2.1,()))) none) none) (some (z4.1,z4.2.2.1,z4.2.1,()))).bind fun z6=>(show Option c8q from cond (decide (z6.1≥3)) ((y0s b3s (0,z6.2.1,z6.2.2.1,())).bind fun w7=>(a1L (1,12,w7.2.1,w7.1)).bind fun y8=>(a1L (2,12,y8.1,y8.2)).bind fun y9=>(a1L (12,14,y9.1,y9.2)).bind fun y10=>(a1L (16,14,y10.1,y10.2)).bind fun y11=>some (y11.2,())) (some (z6.2.1,()))).bind fun z12=>some z12.1
def b6j:FSem:=⟨[.v QL,.v QI],[.v (.list false Q61)],b0M⟩
def d6E:Hints:=⟨[(4050,[50,.box 5 (.list true Q61),.box 2 QL,Qp 5 5,.clo 6 241 [2,5]],[Qe 0 [.box 5 (.list true Q61),.box 2 QL,Qp 5 5,.clo 6 241 [2,5]]])],[(15,[Qn [1,.box 2 QL,.box 5 (.list true Q61),Qp 2 2,Qp 5 5,.clo 6 241 [2,5]]]),(31,[Qn [1,.box 5 (.list true Q61),.box 2 QL,Qp 5 5,.clo 6 241 [2,5]]]),(63,[Qn [.box 5 (.list true Q61),Qp 5 5]])],[]⟩
def b6k(s:Z92):Option (Z92 ⊕ Z57):=(fun(a:LI)(b c:Int)(d:LI)=>cond (decide (c<(a.length:Int))) ((m0k a c).bind fun x4=>cond ((decide (0≤c))&&(decide (c≤(a.length:Int)))) ((a3T (a06 (a00 c) a,s.2.1,b)).bind fun y5=>(a4e (wrap .i64 (x4-y5))).bind fun y6=>cond (!y6) (some (.inr (Sum.inr ((6,[],()))))) (cond (lim ((a01 d)+1)) (some (.inl (a,s.2.1,b,wrap .i64 (c+1),a04 d [wrap .i64 (x4-y5)],()))) none)) none) (some (.inr (Sum.inl (d,()))))) s.1 s.2.2.1 s.2.2.2.1 s.2.2.2.2.1
def a9A(x:Z12):Option (LI×Int):=(show Option Z58 from(a3S (x.2.1,x.2.2)).bind fun y1=>cond (!y1) (some (x.1,x.2.1,x.2.2,true,())) (some (x.1,x.2.1,x.2.2,decide ((x.1.length:Int)<(x.2.1.length:Int)),()))).bind fun z2=>cond z2.2.2.2.1 (some ([],1)) ((a2l z2.1).bind fun y3=>cond (!y3) (some ([],6)) (cond ((decide (0≤(wrap .i64 ((z2.1.length:Int)-(z2.2.1.length:Int)))))&&(lim (a00 (wrap .i64 ((z2.1.length:Int)-(z2.2.1.length:Int)))))) ((y0s b6k (z2.1,z2.2.1,z2.2.2.1,(z2.2.1.length:Int),[],())).bind fun w7=>match w7 with |.inl a8=>some (a8.1,0) |.inr b9=>some (b9.2.1,b9.1)) none))
def c1h:FSem:=⟨[.v QL,.v QL,.v QI],[.o QI,.v QI],a9A⟩
def d6F:Hints:=⟨[(250,[.sv 0 QL,.sv 1 QL,2,9,.own 8 8 QI],[Qe 0 [.own 8 8 QI],Qr [7,.own 6 6 QI]])],[(6,[Qn [.sv 0 QL,.sv 1 QL,2,.sv 21 .bool]])],[(9,[.v,.v,.v,.v,.v,.v,.v,.v,.v,.v,.x,.x])]⟩
def b7b(s:(Z4×Int×Int×c5o)):Option ((Z4×Int×Int×c5o) ⊕ ((Z4×Z19) ⊕ Z5)):=(fun(a b c:Int)(d:LI)=>cond (decide (c<b)) (cond ((decide (0≤c))&&(decide (c<(d.length:Int)))) ((a1X s.2.2.2.2.2.2.1).bind fun y6=>(a4Y (wrap .i64 ((a03 d (a00 c) 0)-y6.1))).bind fun y7=>cond (!y7) (some (.inr (Sum.inr ((6,[],()))))) ((a2N (y6.2,a03 d (a00 c) 0)).bind fun y8=>cond ((decide (0≤c))&&(decide (c<(d.length:Int)))) (some (.inl (s.1,s.2.1,a,b,wrap .i64 (c+1),a05 d (a00 c) (wrap .i64 ((a03 d (a00 c) 0)-y6.1)),y8,()))) none)) none) (some (.inr (Sum.inl (s.1,s.2.1,a,d,()))))) s.2.2.1 s.2.2.2.1 s.2.2.2.2.1 s.2.2.2.2.2.1
def b7c(s:(Z4×Z19)):Option ((Z4×Z19) ⊕ Z57):=(fun(a:Int)(b:LI)=>cond (decide (a<s.2.1)) ((m0k s.1 a).bind fun x4=>(a7m x4).bind fun y5=>cond (y5.2 != 0) (some (.inr (Sum.inr ((y5.2,[],()))))) ((y0s b7b (s.1,s.2.1,a,(b.length:Int),0,b,y5.1,())).bind fun w9=>match w9 with |.inl a10=>some (.inl (a10.1,a10.2.1,wrap .i64 (a10.2.2.1+1),a10.2.2.2.1,())) |.inr b11=>some (.inr (Sum.inr ((b11.1,b11.2.1,())))))) (some (.inr (Sum.inl (b,()))))) s.2.2.1 s.2.2.2.1
def b3P(x:(LI×Z4)):Option (LI×Int):=(a5T x.2).bind fun y1=>cond (!y1) (some ([],1)) ((a4j x.1).bind fun y2=>cond (!y2) (some ([],6)) ((a0X x.1).bind fun y3=>(y0s b7c (x.2,(x.2.length:Int),0,y3,())).bind fun w12=>match w12 with |.inl a13=>some (a13.1,0) |.inr b14=>some (b14.2.1,b14.1)))
def c2x:FSem:=⟨[.v QL,.v (.list false Q5)],[.o QI,.v QI],b3P⟩
def d6G:Hints:=⟨[(250,[.sv 22 (.list false Q5),23,24,.own 6 6 QI],[Qe 0 [.own 6 6 QI],Qr [5,.own 4 4 QI]]),(256414,[.sv 22 (.list false Q5),23,24,37,38,.own 6 6 QI,.box 1030 Q19,Qp 9 1030,.ref 36 6 []],[Qe 2 [.sv 22 (.list false Q5),23,24,.own 6 6 QI],Qr [5,.own 4 4 QI]])],[],[]⟩
def b5G(x:(a0W×LI)):Option (Int×a0W):=(show Option (LI×(LI×(Int×b2A)))from cond (x.1.1==2) ((b0K (x.2,x.1.2.2.1)).bind fun y1=>some (x.2,y1.1,y1.2,x.1,())) (cond (x.1.1==3) ((a9A (x.2,x.1.2.2.2.2.2.1,x.1.2.2.2.1)).bind fun y2=>some (x.2,y2.1,y2.2,x.1,())) (cond (x.1.1==4) ((a8Y (x.2,x.1.2.2.2.2.1,x.1.2.2.2.2.2.2.1)).bind fun y3=>cond (y3.2==0) ((a9A (y3.1,x.1.2.2.2.2.2.1,x.1.2.2.2.1)).bind fun y4=>some (y3.1,y4.1,y4.2,x.1,())) (some (y3.1,[],y3.2,x.1,()))) (cond (x.1.1==5) ((b3P (x.2,x.1.2.2.2.2.2.2.2.1)).bind fun y5=>some (x.2,y5.1,y5.2,x.1,())) (some (x.2,[],0,x.1,())))))).bind fun z6=>cond (z6.2.2.1 != 0) (some (z6.2.2.1,z6.2.2.2.1)) ((a4X (z6.2.2.2.1,(z6.1.length:Int))).bind fun y7=>cond ((decide (0≤y7))&&(decide (y7≤(z6.1.length:Int)))) ((a0X (a06 (a00 y7) z6.1)).bind fun y8=>some (0,z6.2.2.2.1.1,z6.2.2.2.1.2.1,z6.2.2.2.1.2.2.1,z6.2.2.2.1.2.2.2.1,z6.2.2.2.1.2.2.2.2.1,z6.2.2.2.1.2.2.2.2.2.1,z6.2.2.2.1.2.2.2.2.2.2.1,z6.2.2.2.1.2.2.2.2.2.2.2.1,y8,z6.2.2.2.1.2.2.2.2.2.2.2.2.2.1,z6.2.1,z6.2.2.2.1.2.2.2.2.2.2.2.2.2.2.2)) none)
def c4e:FSem:=⟨[.r false (.b Q61),.v QL],[.v QI],b5G⟩
def d6H:Hints:=⟨[],[(15,[Qn [.sv 1 QL,.sv 5 QL,6,.box pinned Q61,Qp 0 pinned]])],[(7,[.v,.p,.p,.q,.q,.p,.p,.q,.q,.x,.x,.q,.q,.q,.x]),(9,[.v,.p,.p,.q,.q,.p,.p,.q,.q,.x,.x,.q,.q,.q,.x]),(11,[.q,.p,.p,.q,.q,.p,.p,.q,.q,.x,.x,.q,.q,.q,.x])]⟩
def b8R(s:Z37):Option (Z37 ⊕ (Int×Unit)):=(fun(a b:Int)=>cond (decide (b≤25)) ((a7Z (b,s.1)).bind fun y2=>cond (decide (y2<a)) (some (.inl (s.1,b,y2,wrap .i64 (b+1),()))) (some (.inl (s.1,s.2.1,a,wrap .i64 (b+1),())))) (some (.inr (s.2.1,())))) s.2.2.1 s.2.2.2.1
def b5H(x:LI):Option Int:=(a7Z (0,x)).bind fun y1=>(y0s b8R (x,0,y1,1,())).bind fun w3=>some w3.1
def c4f:FSem:=⟨[.v QL],[.v QI],b5H⟩
def d6I:Hints:=⟨[(58,[.sv 0 QL,3,4,5],[Qe 0 [3]])],[],[]⟩
def b2d(x:LI):Option Int:=(b5H x).bind fun y1=>(b1H x).bind fun y2=>(a7Z (y1,x)).bind fun y3=>cond (decide (y2<y3)) (some 31) (some y1)
def b8S:FSem:=⟨[.v QL],[.v QI],b2d⟩
def b7d(s:(Int×(Int×(Int×(LI×(Int×(Int×(LI×(Int×(Int×(LI×c5q))))))))))):Option ((Int×(Int×(Int×(LI×(Int×(Int×(LI×(Int×(Int×(LI×c5q)))))))))) ⊕ (Int×(Int×(Int×(LI×(Int×Int×c5q)))))):=(fun(a:Int)(b:LI)(c d:Int)(e:LI)(f g:Int)(h:LI)(i j k:Z5)=>cond (decide (g<f)) (cond ((decide (0≤g))&&(decide (g<(h.length:Int)))) (cond ((decide (0≤(a03 h (a00 g) 0)))&&(decide ((a03 h (a00 g) 0)≤(e.length:Int)))) ((b2d (a06 (a00 (a03 h (a00 g) 0)) e)).bind fun y3=>cond (lim ((a01 k.2.1)+1)) (cond ((decide (0≤(a03 h (a00 g) 0)))&&(decide ((a03 h (a00 g) 0)≤(e.length:Int)))) (some (.inl (s.1,s.2.1,a,b,c,d,a09 (a00 (a03 h (a00 g) 0)) (a06 (a01 e) e),f,wrap .i64 (g+1),h,i,j,(k.1,a04 k.2.1 [y3],k.2.2),()))) none) none) none) none) (some (.inr (s.1,s.2.1,a,b,c,d,i,j,k,())))) s.2.2.1 s.2.2.2.1 s.2.2.2.2.1 s.2.2.2.2.2.1 s.2.2.2.2.2.2.1 s.2.2.2.2.2.2.2.1 s.2.2.2.2.2.2.2.2.1 s.2.2.2.2.2.2.2.2.2.1 s.2.2.2.2.2.2.2.2.2.2.1 s.2.2.2.2.2.2.2.2.2.2.2.1 s.2.2.2.2.2.2.2.2.2.2.2.2.1
def b7e(s:(Int×(Int×(Int×(LI×(Int×Int×c1T)))))):Option ((Int×(Int×(Int×(LI×(Int×Int×c1T))))) ⊕ c1T):=(fun(a b:Int)(c:LI)(d e:Int)(f g:Z5)=>cond (decide (e≤(v0s (v0r b 0) 8))) ((a2E (e,s.1,a)).bind fun y2=>cond ((y2.length:Int)==0) (some (.inl (s.1,a,b,c,d,wrap .i64 (e+1),f,g,()))) ((y0s b7d (s.1,a,b,c,d,e,c,(y2.length:Int),0,y2,f,g,(e,[],()),())).bind fun w4=>(b0H (w4.2.2.2.2.2.2.2.2.1,w4.1,w4.2.1,w4.2.2.2.1)).bind fun y5=>(show Option (Int×(Int×(Int×(LI×(Int×Int×Int×Bool×c5q)))))from cond (w4.2.2.2.2.1==0) (some (w4.1,w4.2.1,w4.2.2.1,w4.2.2.2.1,w4.2.2.2.2.1,w4.2.2.2.2.2.1,y5,true,w4.2.2.2.2.2.2.1,w4.2.2.2.2.2.2.2.1,w4.2.2.2.2.2.2.2.2.1,())) (some (w4.1,w4.2.1,w4.2.2.1,w4.2.2.2.1,w4.2.2.2.2.1,w4.2.2.2.2.2.1,y5,decide (y5<w4.2.2.2.2.1),w4.2.2.2.2.2.2.1,w4.2.2.2.2.2.2.2.1,w4.2.2.2.2.2.2.2.2.1,()))).bind fun z6=>cond z6.2.2.2.2.2.2.2.1 (some (.inl (z6.1,z6.2.1,z6.2.2.1,z6.2.2.2.1,z6.2.2.2.2.2.2.1,wrap .i64 (z6.2.2.2.2.2.1+1),z6.2.2.2.2.2.2.2.2.1,z6.2.2.2.2.2.2.2.2.2.2.1,()))) (some (.inl (z6.1,z6.2.1,z6.2.2.1,z6.2.2.2.1,z6.2.2.2.2.1,wrap .i64 (z6.2.2.2.2.2.1+1),z6.2.2.2.2.2.2.2.2.1,z6.2.2.2.2.2.2.2.2.2.1,()))))) (some (.inr (f,g,())))) s.2.1 s.2.2.1 s.2.2.2.1 s.2.2.2.2.1 s.2.2.2.2.2.1 s.2.2.2.2.2.2.1 s.2.2.2.2.2.2.2.1
def b3Q(x:(Int×Z2)):Option (Z5×Int):=(a9v (x.1,x.2.1,x.2.2.2)).bind fun y1=>cond (!y1) (some ((0,[],()),1)) ((y0s b7e (x.1,x.2.1,x.2.2.1,x.2.2.2,0,0,(0,[],()),(0,[],()),())).bind fun w7=>some (w7.2.1,0))
def c2y:FSem:=⟨[.v QI,.v QI,.v QI,.v QL],[.v Q13,.v QI],b3Q⟩
def d6J:Hints:=⟨[(250,[0,1,2,.sv 3 QL,11,12,.box 8 Q13,.box 10 Q13,Qp 8 8,Qp 10 10],[Qe 0 [.box 8 Q13,.box 10 Q13,Qp 8 8,Qp 10 10]]),(512634,[0,1,2,.sv 3 QL,11,12,.sv 15 QL,43,44,.own 42 13 QI,.box 8 Q13,.box 10 Q13,.box 14 Q12,Qp 8 8,Qp 10 10,Qp 14 14],[Qe 2 [0,1,2,.sv 3 QL,11,12,.box 8 Q13,.box 10 Q13,.box 14 Q12,Qp 8 8,Qp 10 10,Qp 14 14]])],[(256319,[Qn [0,1,2,.sv 3 QL,11,12,18,.sv 72 .bool,.box 8 Q13,.box 10 Q13,.box 14 Q13,Qp 8 8,Qp 10 10,Qp 14 14]])],[(15,[.q,.q,.v,.v,.v,.v,.q,.x,.x,.x])]⟩
def c1i(s:(LI×(LI×c5E))):Option ((LI×(LI×c5E)) ⊕ ((LI×b0E) ⊕ (Int×b2A))):=(fun(a b:Int)(c d:a0W)=>cond (decide (b<a)) ((m0k s.2.1 b).bind fun x5=>(m0k s.1 0).bind fun x6=>cond (x5 != x6) (some (.inr (Sum.inr ((7,(0,0,0,0,0,[],a02 3 0,[],[],(0,[],()),[],()),()))))) (some (.inl (s.1,s.2.1,a,wrap .i64 (b+1),c,d,())))) (some (.inr (Sum.inl (s.1,c,d,()))))) s.2.2.1 s.2.2.2.1 s.2.2.2.2.1 s.2.2.2.2.2.1
def b7f(x:(Int×(LI×a0W))):Option a7S:=(fun(a:Int)(b:LI)=>(show Option (Int×(LI×(Int×Bool×b0E)))from cond (decide ((b.length:Int)<1)) (some (a,b,(b.length:Int),true,(0,0,0,0,0,[],a02 3 0,[],[],(0,[],()),[],()),x.2.2,())) (cond (decide ((b.length:Int) > 4096)) (some (a,b,(b.length:Int),true,(0,0,0,0,0,[],a02 3 0,[],[],(0,[],()),[],()),x.2.2,())) ((a7N (a,x.2.2,(b.length:Int))).bind fun y1=>some (a,b,(b.length:Int),!y1,(0,0,0,0,0,[],a02 3 0,[],[],(0,[],()),[],()),x.2.2,())))).bind fun z2=>cond z2.2.2.2.1 (some ((0,0,0,0,0,[],a02 3 0,[],[],(0,[],()),[],()),1)) ((a2D z2.2.1).bind fun y3=>cond (!y3) (some ((0,0,0,0,0,[],a02 3 0,[],[],(0,[],()),[],()),6)) ((a7T (z2.1,z2.2.2.2.2.2.1)).bind fun y4=>cond (z2.1==0) ((y0s c1i (z2.2.1,z2.2.1,(z2.2.1.length:Int),0,z2.2.2.2.2.1,y4,())).bind fun w7=>match w7 with |.inl a8=>((m0k a8.1 0).bind fun x10=>some ((a8.2.2.1.1,a8.2.2.1.2.1,a8.2.2.1.2.2.1,a8.2.2.1.2.2.2.1,a8.2.2.1.2.2.2.2.1,a8.2.2.1.2.2.2.2.2.1,a8.2.2.1.2.2.2.2.2.2.1,a8.2.2.1.2.2.2.2.2.2.2.1,[x10],a8.2.2.1.2.2.2.2.2.2.2.2.2),0)) |.inr b9=>some (b9.2.1,b9.1)) ((a8c z2.2.1).bind fun y11=>(a9y (z2.2.1,y11)).bind fun y12=>cond (y12.2 != 0) (some ((0,0,0,0,0,[],a02 3 0,[],[],(0,[],()),[],()),6)) (cond (z2.1==1) (some ((y4.1,y11,y4.2.2.1,y4.2.2.2.1,y4.2.2.2.2.1,y4.2.2.2.2.2.1,y4.2.2.2.2.2.2.1,y4.2.2.2.2.2.2.2.1,y12.1,y4.2.2.2.2.2.2.2.2.2),0)) ((b5G ((y4.1,y11,y4.2.2),y12.1)).bind fun y13=>cond (y13.1 != 0) (some ((0,0,0,0,0,[],a02 3 0,[],[],(0,[],()),[],()),6)) ((b3Q (z2.2.2.1,(y13.2.2.2.2.2.2.2.2.2.1.length:Int),6,y13.2.2.2.2.2.2.2.2.2.2.2.1)).bind fun y14=>cond (y14.2 != 0) (some ((0,0,0,0,0,[],a02 3 0,[],[],(0,[],()),[],()),6)) (some ((y13.2.1,y13.2.2.1,y13.2.2.2.1,y13.2.2.2.2.1,y13.2.2.2.2.2.1,y13.2.2.2.2.2.2.1,y13.2.2.2.2.2.2.2.1,y13.2.2.2.2.2.2.2.2.1,y13.2.2.2.2.2.2.2.2.2.1,y14.1,y13.2.2.2.2.2.2.2.2.2.2.2),0))))))))) x.1 x.2.1
def c5Q:FSem:=⟨[.v QI,.v QL,.v Q61],[.v Q61,.v QI],b7f⟩
def d6K:Hints:=⟨[(4050,[.sv 1 QL,.sv 39 QL,40,41,.box 6 Q61,.box 9 Q61,Qp 6 6,Qp 9 9],[Qe 0 [.sv 1 QL,.box 6 Q61,.box 9 Q61,Qp 6 6,Qp 9 9],Qr [7,.box 6 Q61,Qp 6 6]])],[(14,[Qn [0,.sv 1 QL,8,.sv 28 .bool,.box 6 Q61,.vp 5 Q61,Qp 6 6]])],[]⟩
def a9H(x:Z6):Option Z20:=some (x.2.1,x)
def b5e:FSem:=⟨[.r false (.b Q11)],[.v QI],a9H⟩
def b7g(x:a7S):Option Int:=(b3C (([],0,()),x.1,x.2)).bind fun y1=>cond (y1.1 != 0) (some 0) ((a9H y1.2).bind fun y2=>some y2.1)
def c5R:FSem:=⟨[.v Q61,.v QI],[.v QI],b7g⟩
def c1j(s:(LI×(Int×Bool×a8D×c5E))):Option ((LI×(Int×Bool×a8D×c5E)) ⊕ b0E):=(fun(a:LI)(b:Int)(c:Bool)(d:a8D)(e f:Int)(g h:a0W)=>cond (decide (f<e)) ((m0k d f).bind fun x6=>(b7f (x6.1,a,x6)).bind fun y7=>cond (y7.2 != 0) (some (.inl (a,b,c,d,e,wrap .i64 (f+1),g,h,()))) ((b7g (y7.1,(a.length:Int))).bind fun y8=>(show Option (LI×(Int×Bool×Int×a8D×Int×Int×Bool×a0W×b0E))from cond (!c) (some (a,b,c,y8,d,e,f,true,g,h,y7.1,())) (some (a,b,c,y8,d,e,f,decide (y8<b),g,h,y7.1,()))).bind fun z9=>cond z9.2.2.2.2.2.2.2.1 (some (.inl (z9.1,z9.2.2.2.1,true,z9.2.2.2.2.1,z9.2.2.2.2.2.1,wrap .i64 (z9.2.2.2.2.2.2.1+1),z9.2.2.2.2.2.2.2.2.1,z9.2.2.2.2.2.2.2.2.2.2.1,()))) (some (.inl (z9.1,z9.2.1,z9.2.2.1,z9.2.2.2.2.1,z9.2.2.2.2.2.1,wrap .i64 (z9.2.2.2.2.2.2.1+1),z9.2.2.2.2.2.2.2.2.1,z9.2.2.2.2.2.2.2.2.2.1,()))))) (some (.inr (g,h,())))) s.1 s.2.1 s.2.2.1 s.2.2.2.1 s.2.2.2.2.1 s.2.2.2.2.2.1 s.2.2.2.2.2.2.1 s.2.2.2.2.2.2.2.1
def b7h(x:(LI×Int)):Option a7S:=(show Option (LI×b8s)from cond (decide ((x.1.length:Int)<1)) (some (x.1,x.2,true,(0,0,0,0,0,[],a02 3 0,[],[],(0,[],()),[],()),())) (cond (decide ((x.1.length:Int) > 4096)) (some (x.1,x.2,true,(0,0,0,0,0,[],a02 3 0,[],[],(0,[],()),[],()),())) (cond (decide (x.2<0)) (some (x.1,x.2,true,(0,0,0,0,0,[],a02 3 0,[],[],(0,[],()),[],()),())) (some (x.1,x.2,decide (x.2 > 3),(0,0,0,0,0,[],a02 3 0,[],[],(0,[],()),[],()),()))))).bind fun z1=>cond z1.2.2.1 (some ((0,0,0,0,0,[],a02 3 0,[],[],(0,[],()),[],()),1)) ((a2D z1.1).bind fun y2=>cond (!y2) (some ((0,0,0,0,0,[],a02 3 0,[],[],(0,[],()),[],()),6)) ((a8c z1.1).bind fun y3=>(a9y (z1.1,y3)).bind fun y4=>cond (y4.2 != 0) (some ((0,0,0,0,0,[],a02 3 0,[],[],(0,[],()),[],()),y4.2)) ((b0M (y4.1,z1.2.1)).bind fun y5=>(y0s c1j (z1.1,0,false,y5,(y5.length:Int),0,z1.2.2.2.1,(0,0,0,0,0,[],a02 3 0,[],[],(0,[],()),[],()),())).bind fun w10=>some (w10.2.1,0))))
def c5S:FSem:=⟨[.v QL,.v QI],[.v Q61,.v QI],b7h⟩
def H95:Hints:=⟨[(2042,[.sv 0 QL,9,.sv 10 .bool,.sv 50 (.list false Q61),51,52,.box 4 Q61,.box 8 Q61,Qp 4 4,Qp 8 8],[Qe 0 [.box 4 Q61,.box 8 Q61,Qp 4 4,Qp 8 8]])],[(6,[Qn [.sv 0 QL,1,.sv 31 .bool,.box 4 Q61,Qp 4 4]]),(1045711,[Qn [.sv 0 QL,9,.sv 10 .bool,15,.sv 50 (.list false Q61),51,52,.sv 76 .bool,.box 4 Q61,.box 8 Q61,.box 13 Q61,Qp 4 4,Qp 8 8,Qp 13 13]])],[]⟩
def b7i(s:(Int×((List LI)×(Int×Int×a1x×a7e)))):Option ((Int×((List LI)×(Int×Int×a1x×a7e))) ⊕ ((a1x×a7e) ⊕ (Int×a7e))):=(fun(a b:Int)(c d:a1x)=>cond (decide (b<a)) ((m0k s.2.1 b).bind fun x8=>(b7h (x8,s.1)).bind fun y9=>cond (y9.2 != 0) (some (.inr (Sum.inr ((y9.2,(0,0,(0,0,0,()),[],[],()),()))))) (cond (lim ((a01 d.2.2.2.2.1)+1)) (some (.inl (s.1,s.2.1,a,wrap .i64 (b+1),c,(d.1,d.2.1,d.2.2.1,d.2.2.2.1,a04 d.2.2.2.2.1 ([y9.1]:List a0W),d.2.2.2.2.2),()))) none)) (some (.inr (Sum.inl (c,d,()))))) s.2.2.1 s.2.2.2.1 s.2.2.2.2.1 s.2.2.2.2.2.1
def b3R(x:(Z14×Z7×Int×Int)):Option (a1x×Int):=(fun(a:Z14)(b:Z7)(c:Int)=>(show Option (Int×Int×Bool×a1x×Z14×Z27)from(a3a a).bind fun y1=>cond (!y1) (some (c,x.2.2.2,true,(0,0,(0,0,0,()),[],[],()),a,b,())) ((a2i b).bind fun y2=>cond (!y2) (some (c,x.2.2.2,true,(0,0,(0,0,0,()),[],[],()),a,b,())) (cond (a.1 != b.2.2.1) (some (c,x.2.2.2,true,(0,0,(0,0,0,()),[],[],()),a,b,())) (cond ((a.2.1.length:Int) != b.2.1) (some (c,x.2.2.2,true,(0,0,(0,0,0,()),[],[],()),a,b,())) (cond (decide (x.2.2.2<0)) (some (c,x.2.2.2,true,(0,0,(0,0,0,()),[],[],()),a,b,())) (cond (decide (x.2.2.2 > 3)) (some (c,x.2.2.2,true,(0,0,(0,0,0,()),[],[],()),a,b,())) (some (c,x.2.2.2,decide (c<0),(0,0,(0,0,0,()),[],[],()),a,b,())))))))).bind fun z3=>cond z3.2.2.1 (some ((0,0,(0,0,0,()),[],[],()),1)) ((a2Z z3.2.2.2.2.1).bind fun y4=>cond (decide (z3.1 > (wrap .i64 (4194304-y4)))) (some ((0,0,(0,0,0,()),[],[],()),4)) ((show Option (Int×a1x×a1x×Z35)from cond (decide (z3.2.1 > 0)) ((b5C z3.2.2.2.2.1).bind fun y5=>some (z3.2.1,z3.2.2.2.1,(z3.1,y4,z3.2.2.2.2.2.1,y5,[],()),z3.2.2.2.2.1,())) (some (z3.2.1,z3.2.2.2.1,(z3.1,y4,z3.2.2.2.2.2.1,[],[],()),z3.2.2.2.2.1,()))).bind fun z6=>(b3F (z6.2.2.2.1.2.1,z6.2.2.1.2.2.2.1)).bind fun y7=>cond (y7.2 != 0) (some ((0,0,(0,0,0,()),[],[],()),y7.2)) ((y0s b7i (z6.1,y7.1,(y7.1.length:Int),0,z6.2.1,z6.2.2.1,())).bind fun w10=>match w10 with |.inl a11=>some (a11.2.1,0) |.inr b12=>some (b12.2.1,b12.1))))) x.1 x.2.1 x.2.2.1
def c2z:FSem:=⟨[.v Q17,.v Q14,.v QI,.v QI],[.v Q83,.v QI],b3R⟩
def H43:Hints:=⟨[(2042,[3,.sv 81 (.list false QL),82,83,.box 8 Q83,.box 10 Q82,Qp 8 8,Qp 10 10],[Qe 0 [.box 8 Q83,.box 10 Q82,Qp 8 8,Qp 10 10],Qr [9,.box 8 Q83,Qp 8 8]])],[(6,[Qn [2,3,.sv 51 .bool,.box 8 Q83,.vp 4 Q17,.vp 5 Q14,Qp 8 8]]),(31,[Qn [3,.box 8 Q83,.box 10 Q82,.vp 4 Q17,Qp 8 8,Qp 10 10]])],[(3,[.v,.v,.v,.v,.v,.q,.x])]⟩
def a9I(x:(Int×Int)):Option (Int×Int):=some (wrap .u64 ((wrap .u64 ((wrap .u64 ((A0o .u64 x.1 32)*(A0o .u64 x.2 32)))+(A0o .u64 (wrap .u64 ((wrap .u64 ((A0o .u64 x.1 32)*(bits .u64 .and x.2 4294967295)))+(A0o .u64 (wrap .u64 ((bits .u64 .and x.1 4294967295)*(bits .u64 .and x.2 4294967295))) 32))) 32)))+(A0o .u64 (wrap .u64 ((bits .u64 .and (wrap .u64 ((wrap .u64 ((A0o .u64 x.1 32)*(bits .u64 .and x.2 4294967295)))+(A0o .u64 (wrap .u64 ((bits .u64 .and x.1 4294967295)*(bits .u64 .and x.2 4294967295))) 32))) 4294967295)+(wrap .u64 ((bits .u64 .and x.1 4294967295)*(A0o .u64 x.2 32))))) 32)),wrap .u64 (x.1*x.2))
def b5f:FSem:=⟨[.v QU,.v QU],[.v QU,.v QU],a9I⟩
def a9J(x:(Int×Int×Int)):Option (Int×Int):=cond (decide (x.2.2.toNat≤1)) (some ((((x.1.toNat+x.2.1.toNat+x.2.2.toNat)%18446744073709551616:Nat):Int),(((x.1.toNat+x.2.1.toNat+x.2.2.toNat) / 18446744073709551616:Nat):Int))) none
def b5g:FSem:=⟨[.v QU,.v QU,.v QU],[.v QU,.v QU],a9J⟩
def a9K(x:Int):Option Int:=(show Option (Int×Int×Unit)from cond (decide (x≥4294967296)) (some (A0o .u64 x 32,32,())) (some (x,0,()))).bind fun z1=>(show Option (Int×Int×Unit)from cond (decide (z1.1≥65536)) (some (A0o .u64 z1.1 16,wrap .i64 (z1.2.1+16),())) (some (z1.1,z1.2.1,()))).bind fun z2=>(show Option (Int×Int×Unit)from cond (decide (z2.1≥256)) (some (A0o .u64 z2.1 8,wrap .i64 (z2.2.1+8),())) (some (z2.1,z2.2.1,()))).bind fun z3=>(m0k [0,1,2,2,3,3,3,3,4,4,4,4,4,4,4,4,5,5,5,5,5,5,5,5,5,5,5,5,5,5,5,5,6,6,6,6,6,6,6,6,6,6,6,6,6,6,6,6,6,6,6,6,6,6,6,6,6,6,6,6,6,6,6,6,7,7,7,7,7,7,7,7,7,7,7,7,7,7,7,7,7,7,7,7,7,7,7,7,7,7,7,7,7,7,7,7,7,7,7,7,7,7,7,7,7,7,7,7,7,7,7,7,7,7,7,7,7,7,7,7,7,7,7,7,7,7,7,7,8,8,8,8,8,8,8,8,8,8,8,8,8,8,8,8,8,8,8,8,8,8,8,8,8,8,8,8,8,8,8,8,8,8,8,8,8,8,8,8,8,8,8,8,8,8,8,8,8,8,8,8,8,8,8,8,8,8,8,8,8,8,8,8,8,8,8,8,8,8,8,8,8,8,8,8,8,8,8,8,8,8,8,8,8,8,8,8,8,8,8,8,8,8,8,8,8,8,8,8,8,8,8,8,8,8,8,8,8,8,8,8,8,8,8,8,8,8,8,8,8,8,8,8,8,8,8,8] (wrap .u8 z3.1)).bind fun x4=>some (wrap .i64 (z3.2.1+(wrap .i64 x4)))
def b5h:FSem:=⟨[.v QU],[.v QI],a9K⟩
def d6L:Hints:=⟨[],[(3,[Qn [.sv 0 QU,2]]),(7,[Qn [.sv 0 QU,2]]),(15,[Qn [.sv 0 QU,2]])],[]⟩
def a5L(x:Int):Option Int:=(a9K x).bind fun y1=>some (wrap .i64 (64-y1))
def a9B:FSem:=⟨[.v QU],[.v QI],a5L⟩
def b2C(s:b8r):Option (b8r ⊕ c8o):=(fun(a b c d e f g h:Int)=>(show Option (b8r ⊕ c8o)from cond (decide (g≥4294967296)) (some (Sum.inl (s.1,a,b,c,d,e,f,g,h,()))) (cond (decide ((wrap .u64 (g*c)) > (wrap .u64 ((wrap .u64 (4294967296*h))+e)))) (some (Sum.inl (s.1,a,b,c,d,e,f,g,h,()))) (some (Sum.inr ((s.1,a,b,c,d,e,f,g,())))))).bind fun z2=>match z2 with |.inl a3=>(cond (decide ((wrap .u64 (a3.2.2.2.2.2.2.2.2.1+a3.2.2.1))≥4294967296)) (some (.inr (a3.1,a3.2.1,a3.2.2.1,a3.2.2.2.1,a3.2.2.2.2.1,a3.2.2.2.2.2.1,a3.2.2.2.2.2.2.1,wrap .u64 (a3.2.2.2.2.2.2.2.1-1),()))) (some (.inl (a3.1,a3.2.1,a3.2.2.1,a3.2.2.2.1,a3.2.2.2.2.1,a3.2.2.2.2.2.1,a3.2.2.2.2.2.2.1,wrap .u64 (a3.2.2.2.2.2.2.2.1-1),wrap .u64 (a3.2.2.2.2.2.2.2.2.1+a3.2.2.1),())))) |.inr b4=>some (.inr (b4.1,b4.2.1,b4.2.2.1,b4.2.2.2.1,b4.2.2.2.2.1,b4.2.2.2.2.2.1,b4.2.2.2.2.2.2.1,b4.2.2.2.2.2.2.2.1,()))) s.2.1 s.2.2.1 s.2.2.2.1 s.2.2.2.2.1 s.2.2.2.2.2.1 s.2.2.2.2.2.2.1 s.2.2.2.2.2.2.2.1 s.2.2.2.2.2.2.2.2.1
def b2D(s:b8r):Option (b8r ⊕ Z67):=(fun(a b c d e f g h:Int)=>(show Option (b8r ⊕ Z67)from cond (decide (h≥4294967296)) (some (Sum.inl (s.1,a,b,c,d,e,f,g,h,()))) (cond (decide ((wrap .u64 (h*c)) > (wrap .u64 ((wrap .u64 (4294967296*f))+d)))) (some (Sum.inl (s.1,a,b,c,d,e,f,g,h,()))) (some (Sum.inr ((s.1,a,d,e,g,h,())))))).bind fun z6=>match z6 with |.inl a7=>(cond (decide ((wrap .u64 (a7.2.2.2.2.2.2.1+a7.2.2.1))≥4294967296)) (some (.inr (a7.1,a7.2.1,a7.2.2.2.2.1,a7.2.2.2.2.2.1,a7.2.2.2.2.2.2.2.1,wrap .u64 (a7.2.2.2.2.2.2.2.2.1-1),()))) (some (.inl (a7.1,a7.2.1,a7.2.2.1,a7.2.2.2.1,a7.2.2.2.2.1,a7.2.2.2.2.2.1,wrap .u64 (a7.2.2.2.2.2.2.1+a7.2.2.1),a7.2.2.2.2.2.2.2.1,wrap .u64 (a7.2.2.2.2.2.2.2.2.1-1),())))) |.inr b8=>some (.inr (b8.1,b8.2.1,b8.2.2.1,b8.2.2.2.1,b8.2.2.2.2.1,b8.2.2.2.2.2.1,()))) s.2.1 s.2.2.1 s.2.2.2.1 s.2.2.2.2.1 s.2.2.2.2.2.1 s.2.2.2.2.2.2.1 s.2.2.2.2.2.2.2.1 s.2.2.2.2.2.2.2.2.1
def a9L(x:(Int×Int×Int)):Option (Int×Int):=(fun(a b:Int)=>cond (x.2.2==0) none (cond (decide (x.2.2≤a)) none (cond (a==0) (cond (x.2.2==0) none (cond (x.2.2==0) none (some (wrap .u64 (a08 b x.2.2),a07 b x.2.2)))) ((a5L x.2.2).bind fun y1=>cond (decide ((wrap .u64 y1)<0)) none (cond (decide ((wrap .u64 y1)<0)) none (cond (decide ((wrap .u64 (64-(wrap .u64 y1)))<0)) none (cond (decide ((wrap .u64 y1)<0)) none (cond ((A0o .u64 (A0n .u64 x.2.2 (wrap .u64 y1)) 32)==0) none ((y0s b2C (A0n .u64 x.2.2 (wrap .u64 y1),wrap .u64 y1,A0o .u64 (A0n .u64 x.2.2 (wrap .u64 y1)) 32,bits .u64 .and (A0n .u64 x.2.2 (wrap .u64 y1)) 4294967295,bits .u64 .or (A0n .u64 a (wrap .u64 y1)) (A0o .u64 b (wrap .u64 (64-(wrap .u64 y1)))),A0o .u64 (A0n .u64 b (wrap .u64 y1)) 32,bits .u64 .and (A0n .u64 b (wrap .u64 y1)) 4294967295,wrap .u64 (a08 (bits .u64 .or (A0n .u64 a (wrap .u64 y1)) (A0o .u64 b (wrap .u64 (64-(wrap .u64 y1))))) (A0o .u64 (A0n .u64 x.2.2 (wrap .u64 y1)) 32)),wrap .u64 ((bits .u64 .or (A0n .u64 a (wrap .u64 y1)) (A0o .u64 b (wrap .u64 (64-(wrap .u64 y1)))))-(wrap .u64 ((wrap .u64 (a08 (bits .u64 .or (A0n .u64 a (wrap .u64 y1)) (A0o .u64 b (wrap .u64 (64-(wrap .u64 y1))))) (A0o .u64 (A0n .u64 x.2.2 (wrap .u64 y1)) 32)))*(A0o .u64 (A0n .u64 x.2.2 (wrap .u64 y1)) 32)))),())).bind fun w5=>cond (w5.2.2.1==0) none ((y0s b2D (w5.1,w5.2.1,w5.2.2.1,w5.2.2.2.1,w5.2.2.2.2.2.2.1,w5.2.2.2.2.2.2.2.1,wrap .u64 ((wrap .u64 ((wrap .u64 ((wrap .u64 (w5.2.2.2.2.1*4294967296))+w5.2.2.2.2.2.1))-(wrap .u64 (w5.2.2.2.2.2.2.2.1*w5.1))))-(wrap .u64 ((wrap .u64 (a08 (wrap .u64 ((wrap .u64 ((wrap .u64 (w5.2.2.2.2.1*4294967296))+w5.2.2.2.2.2.1))-(wrap .u64 (w5.2.2.2.2.2.2.2.1*w5.1)))) w5.2.2.1))*w5.2.2.1))),wrap .u64 ((wrap .u64 ((wrap .u64 (w5.2.2.2.2.1*4294967296))+w5.2.2.2.2.2.1))-(wrap .u64 (w5.2.2.2.2.2.2.2.1*w5.1))),wrap .u64 (a08 (wrap .u64 ((wrap .u64 ((wrap .u64 (w5.2.2.2.2.1*4294967296))+w5.2.2.2.2.2.1))-(wrap .u64 (w5.2.2.2.2.2.2.2.1*w5.1)))) w5.2.2.1),())).bind fun w9=>cond (decide (w9.2.1<0)) none (some (wrap .u64 ((wrap .u64 (w9.2.2.2.1*4294967296))+w9.2.2.2.2.2.1),A0o .u64 (wrap .u64 ((wrap .u64 ((wrap .u64 (w9.2.2.2.2.1*4294967296))+w9.2.2.1))-(wrap .u64 (w9.2.2.2.2.2.1*w9.1)))) w9.2.1)))))))))))) x.1 x.2.1
def b5i:FSem:=⟨[.v QU,.v QU,.v QU],[.v QU,.v QU],a9L⟩
def d6M:Hints:=⟨[(131068,[.sv 2 QU,.sv 8 QU,.sv 9 QU,.sv 10 QU,.sv 11 QU,.sv 13 QU,.sv 14 QU,.sv 15 QU,.sv 16 QU],[Qe 0 [.sv 2 QU,.sv 8 QU,.sv 9 QU,.sv 10 QU,.sv 11 QU,.sv 13 QU,.sv 14 QU,.sv 15 QU]]),(2097148,[.sv 2 QU,.sv 8 QU,.sv 9 QU,.sv 10 QU,.sv 14 QU,.sv 15 QU,.sv 16 QU,.sv 17 QU,.sv 18 QU],[Qe 2 [.sv 2 QU,.sv 8 QU,.sv 14 QU,.sv 15 QU,.sv 17 QU,.sv 18 QU]])],[(262136,[Qn [.sv 2 QU,.sv 8 QU,.sv 9 QU,.sv 10 QU,.sv 11 QU,.sv 13 QU,.sv 14 QU,.sv 15 QU,.sv 16 QU],Qe 0 [.sv 2 QU,.sv 8 QU,.sv 9 QU,.sv 10 QU,.sv 11 QU,.sv 13 QU,.sv 14 QU,.sv 15 QU]]),(4194296,[Qn [.sv 2 QU,.sv 8 QU,.sv 9 QU,.sv 10 QU,.sv 14 QU,.sv 15 QU,.sv 16 QU,.sv 17 QU,.sv 18 QU],Qe 2 [.sv 2 QU,.sv 8 QU,.sv 14 QU,.sv 15 QU,.sv 17 QU,.sv 18 QU]])],[(6,[.v,.v,.v,.v,.v,.v,.v,.x])]⟩
def a9M(x:(Int×Int×Int)):Option Int:=cond (x.2.2==0) none ((a9L (a07 x.1 x.2.2,x.2.1,x.2.2)).bind fun y1=>some y1.2)
def b5j:FSem:=⟨[.v QU,.v QU,.v QU],[.v QU],a9M⟩
def a7p(x:(Int×Int×Int)):Option Int:=(a9I (x.1,x.2.1)).bind fun y1=>(a9J (y1.2,x.2.2,0)).bind fun y2=>(a9M (wrap .u64 (y1.1+y2.2),y2.1,2305843009213693951)).bind fun y3=>some y3
def c4g:FSem:=⟨[.v QU,.v QU,.v QU],[.v QU],a7p⟩
def b7j(s:Z36):Option Z85:=(fun(a b:Int)=>cond (decide (b<a)) ((m0k s.2.1 b).bind fun x1=>(a7p (s.1,1000003,wrap .u64 ((wrap .u64 x1)+1))).bind fun y2=>some (.inl (y2,s.2.1,a,wrap .i64 (b+1),()))) (some (.inr (s.1,())))) s.2.2.1 s.2.2.2.1
def b0N(x:LI):Option Int:=(y0s b7j (0,x,(x.length:Int),0,())).bind fun w3=>some w3.1
def c2A:FSem:=⟨[.v QB],[.v QU],b0N⟩
def H39:Hints:=⟨[(58,[.sv 3 QU,.sv 6 QB,7,8],[Qe 0 [.sv 3 QU]])],[],[]⟩
def a5s(s:(Int×(Int×(Int×((List LI)×b5Y))))):Option ((Int×(Int×(Int×((List LI)×b5Y)))) ⊕ b5Y):=(fun(a:Int)(b:List LI)(c d:Int)(e:LI)(f:Z14)=>cond (decide (d<c)) ((m0k b d).bind fun x3=>(m0k x3 s.1).bind fun x4=>cond (lim ((a01 e)+1)) (some (.inl (s.1,s.2.1,a,b,c,wrap .i64 (d+1),a04 e [x4],f,()))) none) (some (.inr (s.2.1,a,e,f,())))) s.2.2.1 s.2.2.2.1 s.2.2.2.2.1 s.2.2.2.2.2.1 s.2.2.2.2.2.2.1 s.2.2.2.2.2.2.2.1
def a5t(s:b5Y):Option (b5Y ⊕ (LI×Unit)):=cond (decide (s.2.1<s.1)) ((y0s a5s (s.2.1,s.1,s.2.1,s.2.2.2.1.2.1,(s.2.2.2.1.2.1.length:Int),0,s.2.2.1,s.2.2.2.1,())).bind fun w5=>some (.inl (w5.1,wrap .i64 (w5.2.1+1),w5.2.2.1,w5.2.2.2.1,()))) (some (.inr (s.2.2.1,())))
def a3v(x:Z14):Option LI:=(a3a x).bind fun y1=>cond (!y1) (some []) ((a2Z x).bind fun y2=>(y0s a5t (y2,0,[],x,())).bind fun w6=>some w6.1)
def c1k:FSem:=⟨[.v Q17],[.o QI],a3v⟩
def H65:Hints:=⟨[(122,[11,12,.own 3 3 QI,.vp 1 Q17],[Qe 0 [.own 3 3 QI]]),(31334,[4,11,12,.sv 16 (.list false QL),17,18,.own 3 3 QI,.vp 1 Q17],[Qe 2 [11,12,.own 3 3 QI,.vp 1 Q17]])],[],[]⟩
def b6l(s:(Int×(Int×(Int×(LI×Z63))))):Option ((Int×(Int×(Int×(LI×Z63)))) ⊕ Z97):=(fun(a:Int)(b:LI)(c d e f:Int)(g:LI)=>cond (decide (f<e)) (cond (decide ((wrap .i64 (8*f))<0)) none (cond (lim ((a01 g)+1)) (some (.inl (s.1,s.2.1,a,b,c,d,e,wrap .i64 (f+1),a04 g [wrap .u8 (bits .i64 .and (A0o .i64 a (wrap .i64 (8*f))) 255)],()))) none)) (some (.inr (s.1,s.2.1,b,c,d,g,())))) s.2.2.1 s.2.2.2.1 s.2.2.2.2.1 s.2.2.2.2.2.1 s.2.2.2.2.2.2.1 s.2.2.2.2.2.2.2.1 s.2.2.2.2.2.2.2.2.1
def b6m(s:Z97):Option (Z97 ⊕ Z57):=(fun(a:LI)(b c:Int)(d:LI)=>cond (decide (c<b)) ((m0k a c).bind fun x2=>(a1V (x2,s.1)).bind fun y3=>cond (!y3) (some (.inr (Sum.inr ((6,[],()))))) ((y0s b6l (s.1,s.2.1,x2,a,b,c,s.2.1,0,d,())).bind fun w4=>some (.inl (w4.1,w4.2.1,w4.2.2.1,w4.2.2.2.1,wrap .i64 (w4.2.2.2.2.1+1),w4.2.2.2.2.2.1,())))) (some (.inr (Sum.inl (d,()))))) s.2.2.1 s.2.2.2.1 s.2.2.2.2.1 s.2.2.2.2.2.1
def b3b(x:(LI×Int)):Option (LI×Int):=(show Option Z21 from cond (decide (x.2<4)) (some (x.1,x.2,true,())) (some (x.1,x.2,decide (x.2 > 24),()))).bind fun z1=>cond z1.2.2.1 (some ([],1)) ((y0s b6m (z1.2.1,wrap .i64 (a08 (wrap .i64 (z1.2.1+7)) 8),z1.1,(z1.1.length:Int),0,[],())).bind fun w5=>match w5 with |.inl a6=>some (a6.1,0) |.inr b7=>some (b7.2.1,b7.1))
def c1l:FSem:=⟨[.v QL,.v QI],[.o QV,.v QI],b3b⟩
def d6N:Hints:=⟨[(250,[1,6,.sv 20 QL,21,22,.own 7 7 QV],[Qe 0 [.own 7 7 QV],Qr [5,.own 4 4 QV]]),(128206,[1,6,9,.sv 20 QL,21,22,30,31,.own 7 7 QV],[Qe 2 [1,6,.sv 20 QL,21,22,.own 7 7 QV]])],[(6,[Qn [.sv 0 QL,1,.sv 16 .bool]])],[]⟩
def b3S(x:Z14):Option (LI×Int):=(a3a x).bind fun y1=>cond (!y1) (some ([],1)) ((a3v x).bind fun y2=>(b3b (y2,x.1)).bind fun y3=>some (y3.1,y3.2))
def c2B:FSem:=⟨[.v Q17],[.o QV,.v QI],b3S⟩
def H96:Hints:=⟨[],[],[(3,[.v,.q,.v,.v,.x,.q,.q,.x,.x])]⟩
def b7k(s:Z7):Option (Z7 ⊕ (Int×Unit)):=(fun(a b c:Int)=>cond (decide (a > 0)) ((show Option Z7 from cond ((a07 a 2)==1) ((a7p (b,c,0)).bind fun y1=>some (a,y1,c,())) (some (a,b,c,()))).bind fun z2=>(a7p (z2.2.2.1,z2.2.2.1,0)).bind fun y3=>some (.inl (wrap .i64 (a08 z2.1 2),z2.2.1,y3,()))) (some (.inr (b,())))) s.1 s.2.1 s.2.2.1
def b3T(x:Int):Option Int:=(y0s b7k (v0r x 0,1,1000003,())).bind fun w4=>some w4.1
def c2C:FSem:=⟨[.v QI],[.v QU],b3T⟩
def d6O:Hints:=⟨[(58,[0,.sv 3 QU,.sv 4 QU],[Qe 0 [.sv 3 QU]])],[(932,[Qn [0,.sv 3 QU,.sv 4 QU]])],[]⟩
def b5I(x:(Int×Int×Int)):Option (Int×Bool):=(show Option Z28 from cond (decide (x.1≥2305843009213693951)) (some (x.1,x.2.1,x.2.2,true,())) (cond (decide (x.2.1≥2305843009213693951)) (some (x.1,x.2.1,x.2.2,true,())) (some (x.1,x.2.1,x.2.2,decide (x.2.2<0),())))).bind fun z1=>cond z1.2.2.2.1 (some (0,false)) ((b3T z1.2.2.1).bind fun y2=>(a7p (z1.1,y2,z1.2.1)).bind fun y3=>some (y3,true))
def c4h:FSem:=⟨[.v QU,.v QU,.v QI],[.v QU,.v .bool],b5I⟩
def H97:Hints:=⟨[],[(6,[Qn [.sv 0 QU,.sv 1 QU,2,.sv 17 .bool]])],[]⟩
def a6P(x:Z33):Option (Int×Bool):=(b3S x.2).bind fun y1=>cond (y1.2 != 0) (some (0,false)) ((b0N y1.1).bind fun y2=>(b5I (x.1,y2,(y1.1.length:Int))).bind fun y3=>some (y3.1,y3.2))
def b8T:FSem:=⟨[.v QU,.v Q17],[.v QU,.v .bool],a6P⟩
def b8U(s:(Int×Int×Int×a9t×Int×Int×c5I)):Option ((Int×Int×Int×a9t×Int×Int×c5I) ⊕ ((Int×Int×c5I) ⊕ (Bool×((List LI)×Z54)))):=(fun(a b:Int)(c:a9t)(d e:Int)(f:List LI)(g:Z29)(h:a7f)=>cond (decide (e<d)) ((m0k c e).bind fun x3=>(show Option (Int×(Int×(Int×(Int×(a9t×(Int×(Int×(Bool×((List LI)×(Z29×a1x×b0F))))))))))from cond (!(eqT Q14 x3.2.2.1 h.1)) (some (a,s.2.1,b,e,c,d,e,true,f,g,x3,h,())) (some (a,s.2.1,b,e,c,d,e,x3.1 != a,f,g,x3,h,()))).bind fun z4=>cond z4.2.2.2.2.2.2.2.1 (some (.inr (Sum.inr ((false,([]:(List LI)),[],()))))) ((show Option (Int×(Int×(Int×(a9t×(Int×(Int×(Bool×((List LI)×(Z29×a1x×b0F)))))))))from(m0k z4.2.2.2.2.2.2.2.2.2.2.2.1.2.2.2.1 z4.2.2.2.1).bind fun x5=>cond (x5.1 != z4.1) (some (z4.1,z4.2.1,z4.2.2.1,z4.2.2.2.2.1,z4.2.2.2.2.2.1,z4.2.2.2.2.2.2.1,true,z4.2.2.2.2.2.2.2.2.1,z4.2.2.2.2.2.2.2.2.2.1,z4.2.2.2.2.2.2.2.2.2.2.1,z4.2.2.2.2.2.2.2.2.2.2.2.1,())) ((m0k z4.2.2.2.2.2.2.2.2.2.2.2.1.2.2.2.1 z4.2.2.2.1).bind fun x6=>some (z4.1,z4.2.1,z4.2.2.1,z4.2.2.2.2.1,z4.2.2.2.2.2.1,z4.2.2.2.2.2.2.1,x6.2.1 != z4.2.1,z4.2.2.2.2.2.2.2.2.1,z4.2.2.2.2.2.2.2.2.2.1,z4.2.2.2.2.2.2.2.2.2.2.1,z4.2.2.2.2.2.2.2.2.2.2.2.1,()))).bind fun z7=>cond z7.2.2.2.2.2.2.1 (some (.inr (Sum.inr ((false,([]:(List LI)),[],()))))) ((a2F z7.2.2.2.2.2.2.2.2.2.1).bind fun y8=>cond (y8.2 != 0) (some (.inr (Sum.inr ((false,([]:(List LI)),[],()))))) ((b1M z7.2.2.2.2.2.2.2.2.2.1).bind fun y9=>cond (y9.2 != 0) (some (.inr (Sum.inr ((false,([]:(List LI)),[],()))))) ((a6P (z7.2.2.1,y8.1)).bind fun y10=>cond (!y10.2) (some (.inr (Sum.inr ((false,([]:(List LI)),[],()))))) (cond (lim ((a01 z7.2.2.2.2.2.2.2.1)+1)) (cond (lim ((a01 z7.2.2.2.2.2.2.2.2.1)+1)) (some (.inl (wrap .i64 (z7.1+z7.2.2.2.2.2.2.2.2.2.1.2.1),wrap .i64 (z7.2.1+(y9.1.length:Int)),y10.1,z7.2.2.2.1,z7.2.2.2.2.1,wrap .i64 (z7.2.2.2.2.2.1+1),a04 z7.2.2.2.2.2.2.2.1 ([y9.1]:List LI),a04 z7.2.2.2.2.2.2.2.2.1 ([y8.1]:List Z14),z7.2.2.2.2.2.2.2.2.2.2.1,()))) none) none)))))) (some (.inr (Sum.inl (a,b,f,g,h,()))))) s.1 s.2.2.1 s.2.2.2.1 s.2.2.2.2.1 s.2.2.2.2.2.1 s.2.2.2.2.2.2.1 s.2.2.2.2.2.2.2.1 s.2.2.2.2.2.2.2.2.1
def b1P(x:a7f):Option ((List LI)×(Z29×Bool)):=(show Option (Bool×c5I)from(a2i x.1).bind fun y1=>cond (!y1) (some (true,([]:(List LI)),[],x,())) (cond (decide ((x.2.2.2.2.1.length:Int) > 4096)) (some (true,([]:(List LI)),[],x,())) (some ((x.2.2.2.1.length:Int) != (x.2.2.2.2.1.length:Int),([]:(List LI)),[],x,())))).bind fun z2=>cond z2.1 (some (([]:(List LI)),[],false)) ((y0s b8U (0,0,0,z2.2.2.2.1.2.2.2.2.1,(z2.2.2.2.1.2.2.2.2.1.length:Int),0,z2.2.1,z2.2.2.1,z2.2.2.2.1,())).bind fun w11=>match w11 with |.inl a12=>((show Option (Bool×((List LI)×Z54))from cond (a12.2.2.2.2.1.2.1 != a12.1) (some (true,a12.2.2.1,a12.2.2.2.1,())) (some (a12.2.2.2.2.1.2.2.1 != a12.2.1,a12.2.2.1,a12.2.2.2.1,()))).bind fun z14=>cond z14.1 (some (([]:(List LI)),[],false)) (some (z14.2.1,z14.2.2.1,true))) |.inr b13=>some (b13.2.1,b13.2.2.1,b13.1))
def c4i:FSem:=⟨[.v Q97],[.o QB,.o Q17,.v .bool],b1P⟩
def H86:Hints:=⟨[(122,[5,6,.sv 7 QU,.sv 33 (.list false Q83),34,35,.own 2 2 QB,.own 3 3 Q17,.vp 1 Q97],[Qe 0 [5,.sv 7 QU,.own 2 2 QB,.own 3 3 Q17,.vp 1 Q97],Qr [.sv 4 .bool,.own 2 2 QB,.own 3 3 Q17]])],[(6,[Qn [.sv 31 .bool,.own 2 2 QB,.own 3 3 Q17,.vp 1 Q97]]),(62,[Qn [.sv 117 .bool,.own 2 2 QB,.own 3 3 Q17]]),(15666,[Qn [5,6,.sv 7 QU,8,.sv 33 (.list false Q83),34,35,.sv 50 .bool,.own 2 2 QB,.own 3 3 Q17,.box 9 Q83,.vp 1 Q97,Qp 9 9]]),(31334,[Qn [5,6,.sv 7 QU,.sv 33 (.list false Q83),34,35,.sv 68 .bool,.own 2 2 QB,.own 3 3 Q17,.box 9 Q83,.vp 1 Q97,Qp 9 9]])],[]⟩
def b3t(s:Z62):Option (Z62 ⊕ Z36):=(fun(a:Int)(b:LI)(c d e:Int)=>cond (decide (e<8)) (cond ((bits .u32 .and a 1)==1) (some (.inl (bits .u32 .xor (A0o .u32 a 1) 3988292384,b,c,d,wrap .i64 (e+1),()))) (some (.inl (A0o .u32 a 1,b,c,d,wrap .i64 (e+1),())))) (some (.inr (a,b,c,d,())))) s.1 s.2.1 s.2.2.1 s.2.2.2.1 s.2.2.2.2.1
def b3u(s:Z36):Option Z85:=(fun(a b:Int)=>cond (decide (b<a)) ((m0k s.2.1 b).bind fun x1=>(y0s b3t (bits .u32 .xor s.1 (wrap .u32 x1),s.2.1,a,b,0,())).bind fun w2=>some (.inl (w2.1,w2.2.1,w2.2.2.1,wrap .i64 (w2.2.2.2.1+1),()))) (some (.inr (s.1,())))) s.2.2.1 s.2.2.2.1
def a7H(x:LI):Option Int:=(y0s b3u (4294967295,x,(x.length:Int),0,())).bind fun w3=>some (bits .u32 .xor (IntKind.max .u32) w3.1)
def b6n:FSem:=⟨[.v QB],[.v (.int .u32)],a7H⟩
def H99:Hints:=⟨[(58,[.sv 3 (.int .u32),.sv 7 QB,8,9],[Qe 0 [.sv 3 (.int .u32)]]),(29902,[.sv 3 (.int .u32),.sv 7 QB,8,9,17],[Qe 2 [.sv 3 (.int .u32),.sv 7 QB,8,9]])],[],[]⟩
def b8V(s:(a9t×(Int×(Int×((List LI)×(LI×b0F)))))):Option ((a9t×(Int×(Int×((List LI)×(LI×b0F))))) ⊕ ((List LI)×(LI×b0F))):=(fun(a:Int)(b:List LI)(c:LI)(d:a7f)=>cond (decide (a<s.2.1)) ((m0k s.1 a).bind fun x2=>cond ((decide (0≤a))&&(decide (a<(b.length:Int)))) (cond (lim ((a01 c)+2)) (some (.inl (s.1,s.2.1,wrap .i64 (a+1),b,a04 c ([wrap .u64 ((a01 (a03 b (a00 a) []):Nat):Int),wrap .u64 x2.2.1]:List Int),d,()))) none) none) (some (.inr (b,c,d,())))) s.2.2.1 s.2.2.2.1 s.2.2.2.2.1 s.2.2.2.2.2.1
def b8W(s:(Int×(Int×(LI×Z1)))):Option ((Int×(Int×(LI×Z1))) ⊕ (LI×Unit)):=(fun(a:Int)(b:LI)(c:List LI)=>cond (decide (a<s.1)) (cond ((decide (0≤a))&&(decide (a<(c.length:Int)))) (cond (lim ((a01 b)+(a01 (a03 c (a00 a) [])))) (some (.inl (s.1,wrap .i64 (a+1),a04 b (a03 c (a00 a) []),c,()))) none) none) (some (.inr (b,())))) s.2.1 s.2.2.1 s.2.2.2.1
def b5J(x:a7f):Option (LI×Int):=(fun(a:a9t)=>(b1P x).bind fun y1=>cond (!y1.2.2) (some ([],1)) ((y0s b8V (a,(a.length:Int),0,y1.1,([wrap .u64 x.1.1,wrap .u64 x.1.2.1,wrap .u64 x.1.2.2.1,wrap .u64 (a.length:Int)]:List Int),x,())).bind fun w3=>(b1L w3.2.1).bind fun y4=>cond (lim (4+(a01 y4))) ((a8X (w3.2.2.1.2.2.1,8)).bind fun y5=>cond (lim ((a01 (a04 [75,78,83,68] y4))+(a01 y5))) ((a7H (a04 (a04 [75,78,83,68] y4) y5)).bind fun y6=>(a8X (wrap .u64 y6,4)).bind fun y7=>cond (lim ((a01 (a04 (a04 [75,78,83,68] y4) y5))+(a01 y7))) ((y0s b8W ((w3.1.length:Int),0,a04 (a04 (a04 [75,78,83,68] y4) y5) y7,w3.1,())).bind fun w8=>some (w8.1,0)) none) none) none)) x.2.2.2.2.1
def c4j:FSem:=⟨[.v Q97],[.o QV,.v QI],b5J⟩
def H45:Hints:=⟨[(250,[.sv 39 (.list false Q83),40,41,.own 4 4 QB,.own 7 7 QU,.vp 1 Q97],[Qe 0 [.own 4 4 QB,.own 7 7 QU,.vp 1 Q97]]),(4090,[76,77,.own 10 10 QV,.own 75 4 QB],[Qe 2 [.own 10 10 QV]])],[],[(8,[.q,.q,.v,.q,.q,.v,.v,.q,.q,.v,.q,.x,.x])]⟩
def b5k(s:(LI×(Int×(Int×(Int×(LI×(Int×Int×Z27))))))):Option ((LI×(Int×(Int×(Int×(LI×(Int×Int×Z27)))))) ⊕ ((LI×(Int×Int×Int×Z27)) ⊕ Z5)):=(fun(a b:Int)(c:LI)(d e:Int)(f:Z7)=>cond (decide (e<d)) ((m0k c e).bind fun x4=>(a1V (x4,f.2.2.1)).bind fun y5=>cond (!y5) (some (.inr (Sum.inr ((6,[],()))))) (some (.inl (s.1,s.2.1,a,b,c,d,wrap .i64 (e+1),f,())))) (some (.inr (Sum.inl (s.1,s.2.1,a,b,f,()))))) s.2.2.1 s.2.2.2.1 s.2.2.2.2.1 s.2.2.2.2.2.1 s.2.2.2.2.2.2.1 s.2.2.2.2.2.2.2.1
def b5l(s:(LI×(Int×Int×Int×Int×Int×a7f×Z27))):Option ((LI×(Int×Int×Int×Int×Int×a7f×Z27)) ⊕ (b0F ⊕ Z5)):=(fun(a b c d e:Int)(f:a7f)(g:Z7)=>cond (decide (e<c)) (cond ((decide (0≤(wrap .i64 ((v0s (wrap .i64 (e+a)) c)*g.2.1))))&&(decide ((wrap .i64 ((v0s (wrap .i64 (e+a)) c)*g.2.1))≤(s.1.length:Int)))) (cond ((decide (0≤(wrap .i64 (e*g.2.1))))&&(decide ((wrap .i64 (e*g.2.1))≤((a00 (wrap .i64 ((v0s (wrap .i64 (e+a)) c)*g.2.1)):Nat):Int)))) ((b3E (a09 (a00 (wrap .i64 (e*g.2.1))) (a06 (a00 (wrap .i64 ((v0s (wrap .i64 (e+a)) c)*g.2.1))) s.1),g)).bind fun y9=>cond (y9.2 != 0) (some (.inr (Sum.inr ((y9.2,[],()))))) ((b3R (y9.1,g,e,b)).bind fun y10=>cond (y10.2 != 0) (some (.inr (Sum.inr ((y10.2,[],()))))) ((b1M y10.1).bind fun y11=>cond (y11.2 != 0) (some (.inr (Sum.inr ((y11.2,[],()))))) ((a6P (f.2.2.1,y9.1)).bind fun y12=>cond (lim ((a01 f.2.2.2.1)+1)) (cond (lim ((a01 f.2.2.2.2.1)+1)) (some (.inl (s.1,a,b,c,wrap .i64 (d+(y11.1.length:Int)),wrap .i64 (e+a),(f.1,f.2.1,y12.1,a04 f.2.2.2.1 ([(e,d,())]:List (Int×Int×Unit)),a04 f.2.2.2.2.1 ([y10.1]:List a1x),f.2.2.2.2.2),g,()))) none) none)))) none) none) (some (.inr (Sum.inl (f,()))))) s.2.1 s.2.2.1 s.2.2.2.1 s.2.2.2.2.1 s.2.2.2.2.2.1 s.2.2.2.2.2.2.1 s.2.2.2.2.2.2.2.1
def b2e(x:(Z7×Z3)):Option (LI×Int):=(fun(a:Z7)(b:LI)(c:Int)=>(show Option (LI×(Int×Int×Bool×Z27))from(a2i a).bind fun y1=>cond (!y1) (some (b,c,x.2.2.2,true,a,())) (cond (decide (c<1)) (some (b,c,x.2.2.2,true,a,())) (cond (decide (c > 4096)) (some (b,c,x.2.2.2,true,a,())) (cond (decide (x.2.2.2<0)) (some (b,c,x.2.2.2,true,a,())) (some (b,c,x.2.2.2,decide (x.2.2.2 > 3),a,())))))).bind fun z2=>cond z2.2.2.2.1 (some ([],1)) (cond (z2.2.2.2.2.1.2.1==0) none (cond ((a07 (z2.1.length:Int) z2.2.2.2.2.1.2.1) != 0) (some ([],3)) (cond (z2.2.2.2.2.1.2.1==0) none ((show Option (LI×(Int×Int×Int×Bool×Z27))from cond (decide ((wrap .i64 (a08 (z2.1.length:Int) z2.2.2.2.2.1.2.1)) > 4194304)) (some (z2.1,z2.2.1,z2.2.2.1,wrap .i64 (a08 (z2.1.length:Int) z2.2.2.2.2.1.2.1),true,z2.2.2.2.2.1,())) (cond (z2.2.1==0) none (some (z2.1,z2.2.1,z2.2.2.1,wrap .i64 (a08 (z2.1.length:Int) z2.2.2.2.2.1.2.1),decide ((wrap .i64 (a08 (wrap .i64 ((wrap .i64 ((wrap .i64 (a08 (z2.1.length:Int) z2.2.2.2.2.1.2.1))+z2.2.1))-1)) z2.2.1)) > 4096),z2.2.2.2.2.1,())))).bind fun z3=>cond z3.2.2.2.2.1 (some ([],4)) ((y0s b5k (z3.1,z3.2.1,z3.2.2.1,z3.2.2.2.1,z3.1,(z3.1.length:Int),0,z3.2.2.2.2.2.1,())).bind fun w6=>match w6 with |.inl a7=>((y0s b5l (a7.1,a7.2.1,a7.2.2.1,a7.2.2.2.1,0,0,(a7.2.2.2.2.1,a7.2.2.2.1,0,[],[],()),a7.2.2.2.2.1,())).bind fun w13=>match w13 with |.inl a14=>((b5J a14.1).bind fun y16=>some (y16.1,y16.2)) |.inr b15=>some (b15.2.1,b15.1)) |.inr b8=>some (b8.2.1,b8.1))))))) x.1 x.2.1 x.2.2.1
def b8X:FSem:=⟨[.v Q14,.v QL,.v QI,.v QI],[.o QV,.v QI],b2e⟩
def H10:Hints:=⟨[(506,[.sv 1 QL,2,3,10,.sv 62 QL,63,64,.vp 4 Q14],[Qe 0 [.sv 1 QL,2,3,10,.vp 4 Q14],Qr [9,.own 8 8 QV]]),(4090,[.sv 1 QL,2,3,10,14,15,.box 13 Q96,.vp 4 Q14,Qp 13 13],[Qe 2 [.box 13 Q96,Qp 13 13],Qr [9,.own 8 8 QV]])],[(6,[Qn [.sv 1 QL,2,3,.sv 39 .bool,.vp 4 Q14]]),(62,[Qn [.sv 1 QL,2,3,10,.sv 61 .bool,.vp 4 Q14]])],[(20,[.v,.v,.v,.v,.v,.v,.v,.v,.v,.v,.v,.v,.v,.v,.v,.q,.w [0,17],.x])]⟩
def a7q(x:LI):Option Z18:=cond (lim (a01 x)) (some (x,0,0,())) none
def c4k:FSem:=⟨[.v QB],[.b Q18],a7q⟩
def a1Z(s:Z36):Option (Z36 ⊕ (Unit ⊕ Z7)):=(fun(a:Int)(b:LI)(c d:Int)=>cond (decide (d<c)) ((m0k b d).bind fun x1=>(show Option (Int×Int×Int×Z40)from cond (d==9) (cond (decide (x1 > 1)) (some (a,d,x1,b,c,d,true,())) (cond (decide (d > 0)) (some (a,d,x1,b,c,d,x1==0,())) (some (a,d,x1,b,c,d,false,())))) (cond (decide (d > 0)) (some (a,d,x1,b,c,d,x1==0,())) (some (a,d,x1,b,c,d,false,())))).bind fun z2=>cond z2.2.2.2.2.2.2.1 (some (.inr (Sum.inr ((0,0,2,()))))) (cond (decide ((wrap .i64 (7*z2.2.1))<0)) none (cond (decide (z2.2.2.1<128)) (some (.inr (Sum.inr ((bits .u64 .or z2.1 (A0n .u64 (wrap .u64 (a07 z2.2.2.1 128)) (wrap .i64 (7*z2.2.1))),wrap .i64 (z2.2.1+1),0,()))))) (some (.inl (bits .u64 .or z2.1 (A0n .u64 (wrap .u64 (a07 z2.2.2.1 128)) (wrap .i64 (7*z2.2.1))),z2.2.2.2.1,z2.2.2.2.2.1,wrap .i64 (z2.2.2.2.2.2.1+1),())))))) (some (.inr (Sum.inl ())))) s.1 s.2.1 s.2.2.1 s.2.2.2.1
def a8E(x:LI):Option (Int×Int×Int):=(y0s a1Z (0,x,(x.length:Int),0,())).bind fun w3=>match w3 with |.inl a4=>some (0,0,3) |.inr b5=>some (b5.1,b5.2.1,b5.2.2.1)
def b8Y:FSem:=⟨[.v QB],[.v QU,.v QI,.v QI],a8E⟩
def d6P:Hints:=⟨[(58,[.sv 5 QU,.sv 8 QB,9,10],[Qe 0 [],Qr [.sv 2 QU,3,4]])],[(7474,[Qn [.sv 5 QU,6,.sv 7 QV,.sv 8 QB,9,10,.sv 28 .bool]])],[]⟩
def a0L(x:Z39):Option Z36:=cond (x.1.2.2.1 != 0) (some (0,x.1)) (cond ((decide (0≤x.1.2.1))&&(decide (x.1.2.1≤(x.1.1.length:Int)))) ((a8E (a09 (a00 x.1.2.1) (a06 (a01 x.1.1) x.1.1))).bind fun y1=>(show Option b2z from cond (y1.2.2==0) (cond (decide (y1.1 > x.2)) (some (y1.1,y1.2.1,4,x.1,())) (some (y1.1,y1.2.1,y1.2.2,x.1,()))) (some (y1.1,y1.2.1,y1.2.2,x.1,()))).bind fun z2=>cond (z2.2.2.1 != 0) (some (0,z2.2.2.2.1.1,z2.2.2.2.1.2.1,z2.2.2.1,z2.2.2.2.1.2.2.2)) (some (z2.1,z2.2.2.2.1.1,wrap .i64 (z2.2.2.2.1.2.1+z2.2.1),z2.2.2.2.1.2.2))) none)
def b3U:FSem:=⟨[.r false (.b Q18),.v QU],[.v QU],a0L⟩
def d6Q:Hints:=⟨[],[(15,[Qn [.sv 5 QU,6,7,.box pinned Q18,Qp 0 pinned]])],[(3,[.p,.p,.q,.q,.p,.p,.q,.q,.x,.x,.x,.v,.v,.v,.v,.v,.x])]⟩
def a4m(x:Z18):Option Z36:=some (x.2.2.1,x)
def b3V:FSem:=⟨[.r false (.b Q18)],[.v QI],a4m⟩
def a2O(x:Z18):Option Z36:=some (wrap .i64 ((x.1.length:Int)-x.2.1),x)
def b3v:FSem:=⟨[.r false (.b Q18)],[.v QI],a2O⟩
def d6R:Hints:=⟨[],[],[(1,[.p,.p,.q,.q,.v,.p,.p,.q,.q,.x,.x])]⟩
def a8B(x:Z39):Option Z53:=cond (x.1.2.2.1 != 0) (some ([],x.1)) ((a2O x.1).bind fun y1=>cond (decide ((v0r x.2 0) > y1.1)) (some ([],y1.2.1,y1.2.2.1,3,y1.2.2.2.2)) (cond ((decide (0≤(wrap .i64 (y1.2.2.1+(v0r x.2 0)))))&&(decide ((wrap .i64 (y1.2.2.1+(v0r x.2 0)))≤(y1.2.1.length:Int)))) (cond ((decide (0≤y1.2.2.1))&&(decide (y1.2.2.1≤((a00 (wrap .i64 (y1.2.2.1+(v0r x.2 0))):Nat):Int)))) (cond (lim (a01 (a09 (a00 y1.2.2.1) (a06 (a00 (wrap .i64 (y1.2.2.1+(v0r x.2 0)))) y1.2.1)))) (some (a09 (a00 y1.2.2.1) (a06 (a00 (wrap .i64 (y1.2.2.1+(v0r x.2 0)))) y1.2.1),y1.2.1,wrap .i64 (y1.2.2.1+(v0r x.2 0)),y1.2.2.2)) none) none) none))
def b3w:FSem:=⟨[.r false (.b Q18),.v QI],[.o QV],a8B⟩
def d6S:Hints:=⟨[],[],[(7,[.p,.p,.q,.q,.p,.p,.q,.q,.p,.p,.q,.q,.v,.v,.x,.x,.x])]⟩
def b2f(s:b0D):Option (b0D ⊕ Z68):=(fun(a:Int)(b:LI)(c:Z18)=>cond (decide (a<s.2.1)) (cond ((decide (0≤a))&&(decide (a<(b.length:Int)))) (some (.inl (wrap .u64 ((wrap .u64 (s.1*256))+(wrap .u64 (a03 b (a00 a) 0))),s.2.1,wrap .i64 (a+1),b,c,()))) none) (some (.inr (s.1,c,())))) s.2.2.1 s.2.2.2.1 s.2.2.2.2.1
def a6y(x:Z39):Option Z36:=(a9w x.2).bind fun y1=>(a8B (x.1,y1)).bind fun y2=>(y0s b2f (0,(y2.1.length:Int),0,y2.1,y2.2,())).bind fun w3=>some (w3.1,w3.2.1)
def b3W:FSem:=⟨[.r false (.b Q18),.v QI],[.v QU],a6y⟩
def d6T:Hints:=⟨[(58,[.sv 5 QU,12,13,.own 11 1011 QV,.box pinned Q18],[Qe 0 [.sv 5 QU,.box pinned Q18]])],[],[]⟩
def a4L(x:Z18):Option Z36:=some (x.2.1,x)
def b5m:FSem:=⟨[.r false (.b Q18)],[.v QI],a4L⟩
def b3X(s:(LI×(Int×Int×a4E×a4E×Z44))):Option ((LI×(Int×Int×a4E×a4E×Z44)) ⊕ (LI×(a4E×a4E×Z44))):=(fun(a:Int)(b c:a4E)(d:Z18)=>cond (decide (a<s.2.1)) ((a0L (d,1048704)).bind fun y6=>cond (lim ((a01 c.2.1)+1)) ((a0L (y6.2,4096)).bind fun y7=>cond (lim ((a01 c.2.2.1)+1)) (some (.inl (s.1,s.2.1,wrap .u64 (a+1),b,(c.1,a04 c.2.1 [wrap .i64 y6.1],a04 c.2.2.1 [wrap .i64 y7.1],c.2.2.2),y7.2,()))) none) none) (some (.inr (s.1,b,c,d,())))) s.2.2.1 s.2.2.2.1 s.2.2.2.2.1 s.2.2.2.2.2.1
def b3Y(s:(Int×Int×a4E×c5r)):Option ((Int×Int×a4E×c5r) ⊕ ((a4E×c5r) ⊕ (Int×c5r))):=(fun(a:Int)(b c:a4E)=>cond (decide (a<s.1)) (cond ((decide (0≤a))&&(decide (a<(c.2.2.1.length:Int)))) (cond ((a03 c.2.2.1 (a00 a) 0)==0) (some (.inr (Sum.inr ((2,((0,0,0,()),[],[],0,0,0,()),()))))) (some (.inl (s.1,wrap .i64 (a+1),b,(c.1,c.2.1,c.2.2.1,wrap .i64 (c.2.2.2.1+(a03 c.2.2.1 (a00 a) 0)),c.2.2.2.2),())))) none) (some (.inr (Sum.inl (b,c,()))))) s.2.1 s.2.2.1 s.2.2.2.1
def a8d(x:LI):Option (a4E×Int):=cond (decide ((x.length:Int)<4)) (some (((0,0,0,()),[],[],0,0,0,()),3)) (cond (decide (4≤(x.length:Int))) (cond ((b2s (a06 4 x)) != [75,78,83,68]) (some (((0,0,0,()),[],[],0,0,0,()),2)) (cond (decide (4≤(x.length:Int))) ((a7q (a09 4 (a06 (a01 x) x))).bind fun y1=>(a0L (y1,1048576)).bind fun y2=>(a0L (y2.2,8)).bind fun y3=>(a0L (y3.2,24)).bind fun y4=>(a0L (y4.2,4096)).bind fun y5=>(y0s b3X (x,y5.1,0,((0,0,0,()),[],[],0,0,0,()),((wrap .i64 y2.1,wrap .i64 y3.1,wrap .i64 y4.1,()),[],[],0,0,0,()),y5.2,())).bind fun w8=>(a4m w8.2.2.2.1).bind fun y9=>cond (y9.1 != 0) (some (((0,0,0,()),[],[],0,0,0,()),y9.1)) ((a2O y9.2).bind fun y10=>cond (decide (y10.1<12)) (some (((0,0,0,()),[],[],0,0,0,()),3)) ((a6y (y10.2,8)).bind fun y11=>(a4L y11.2).bind fun y12=>cond ((decide (0≤(wrap .i64 (4+y12.1))))&&(decide ((wrap .i64 (4+y12.1))≤(w8.1.length:Int)))) ((a7H (a06 (a00 (wrap .i64 (4+y12.1))) w8.1)).bind fun y13=>(a6y (y12.2,4)).bind fun y14=>cond ((wrap .u64 y13) != y14.1) (some (((0,0,0,()),[],[],0,0,0,()),5)) ((a2i w8.2.2.1.1).bind fun y15=>cond (!y15) (some (((0,0,0,()),[],[],0,0,0,()),2)) ((y0s b3Y ((w8.2.2.1.2.2.1.length:Int),0,w8.2.1,(w8.2.2.1.1,w8.2.2.1.2.1,w8.2.2.1.2.2.1,w8.2.2.1.2.2.2.1,y11.1,wrap .i64 ((wrap .i64 (4+y12.1))+4),w8.2.2.1.2.2.2.2.2.2),())).bind fun w16=>match w16 with |.inl a17=>(cond (decide (a17.2.1.2.2.2.1 > 4194304)) (some (((0,0,0,()),[],[],0,0,0,()),2)) (some (a17.2.1,0))) |.inr b18=>some (b18.2.1,b18.1)))) none))) none)) none)
def b7l:FSem:=⟨[.v QB],[.v Q32,.v QI],a8d⟩
def H62:Hints:=⟨[(4090,[.sv 0 QB,.sv 38 QU,.sv 39 QU,.box 2 Q32,.box 4 Q31,.box 1021 Q18,Qp 2 2,Qp 4 4,Qp 5 1021],[Qe 0 [.sv 0 QB,.box 2 Q32,.box 4 Q31,.box 1021 Q18,Qp 2 2,Qp 4 4,Qp 5 1021]]),(1048570,[93,94,.box 2 Q32,.box 4 Q31,Qp 2 2,Qp 4 4,.ref 92 4 [.snd,.snd,.fst]],[Qe 2 [.box 2 Q32,.box 4 Q31,Qp 2 2,Qp 4 4],Qr [3,.box 2 Q32,Qp 2 2]])],[],[(12,[.r [4,41],.r [4,42],.q,.w [44,1021,1044],.v,.q,.x,.x,.x]),(13,[.r [4,49],.r [4,50],.q,.w [52,1021,1052],.v,.q,.x,.x,.x])]⟩
def a4F(x:Int):Option Int:=cond ((a07 x 2)==0) (some (wrap .i64 (wrap .u64 (a08 x 2)))) (some (wrap .i64 ((wrap .i64 (0-(wrap .i64 (wrap .u64 (a08 x 2)))))-1)))
def c4l:FSem:=⟨[.v QU],[.v QI],a4F⟩
def a4n(s:(LI×(Int×Int×c5C))):Option ((LI×(Int×Int×c5C)) ⊕ (LI×c5C)):=(fun(a:Int)(b:a1x)(c:Z18)=>cond (decide (a<s.2.1)) ((a0L (c,7)).bind fun y11=>(a0L (y11.2,7)).bind fun y12=>(a0L (y12.2,2048)).bind fun y13=>(a4F y13.1).bind fun y14=>cond (lim ((a01 b.2.2.2.1)+1)) (some (.inl (s.1,s.2.1,wrap .u64 (a+1),(b.1,b.2.1,b.2.2.1,a04 b.2.2.2.1 ([(wrap .i64 y11.1,wrap .i64 y12.1,y14,())]:List Z7),b.2.2.2.2),y13.2,()))) none) (some (.inr (s.1,b,c,())))) s.2.2.1 s.2.2.2.1 s.2.2.2.2.1
def a6i(x:LI):Option (a1x×Int×Int×Int):=cond (decide ((x.length:Int)<2)) (some ((0,0,(0,0,0,()),[],[],()),0,0,3)) ((show Option (LI×(Bool×a7e))from(m0k x 0).bind fun x1=>cond (x1 != 245) (some (x,true,(0,0,(0,0,0,()),[],[],()),())) ((m0k x 1).bind fun x2=>some (x,x2 != 75,(0,0,(0,0,0,()),[],[],()),()))).bind fun z3=>cond z3.2.1 (some ((0,0,(0,0,0,()),[],[],()),0,0,2)) (cond (decide (2≤(z3.1.length:Int))) ((a7q (a09 2 (a06 (a01 z3.1) z3.1))).bind fun y4=>(a0L (y4,4194304)).bind fun y5=>(a0L (y5.2,4096)).bind fun y6=>(a0L (y6.2,1048576)).bind fun y7=>(a0L (y7.2,8)).bind fun y8=>(a0L (y8.2,24)).bind fun y9=>(a0L (y9.2,16)).bind fun y10=>(y0s a4n (z3.1,y10.1,0,(wrap .i64 y5.1,wrap .i64 y6.1,(wrap .i64 y7.1,wrap .i64 y8.1,wrap .i64 y9.1,z3.2.2.1.2.2.1.2.2.2),z3.2.2.1.2.2.2),y10.2,())).bind fun w15=>(a0L (w15.2.2.1,1048576)).bind fun y16=>(a4m y16.2).bind fun y17=>cond (y17.1 != 0) (some ((0,0,(0,0,0,()),[],[],()),0,0,y17.1)) ((a2O y17.2).bind fun y18=>cond (decide (y18.1<1)) (some ((0,0,(0,0,0,()),[],[],()),0,0,3)) ((a4L y18.2).bind fun y19=>cond ((decide (0≤(wrap .i64 (2+y19.1))))&&(decide ((wrap .i64 (2+y19.1))≤(w15.1.length:Int)))) ((a6x (a06 (a00 (wrap .i64 (2+y19.1))) w15.1)).bind fun y20=>(m0k w15.1 (wrap .i64 (2+y19.1))).bind fun x21=>cond (y20 != x21) (some ((0,0,(0,0,0,()),[],[],()),0,0,5)) ((a5F w15.2.1).bind fun y22=>cond (!y22) (some ((0,0,(0,0,0,()),[],[],()),0,0,2)) (some (w15.2.1,wrap .i64 ((wrap .i64 (2+y19.1))+1),wrap .i64 y16.1,0)))) none))) none))
def b7m:FSem:=⟨[.v QB],[.v Q81,.v QI,.v QI,.v QI],a6i⟩
def d6U:Hints:=⟨[(8186,[.sv 0 QB,.sv 54 QU,.sv 55 QU,.box 2 Q80,.box 1029 Q18,Qp 2 2,Qp 6 1029],[Qe 0 [.sv 0 QB,.box 2 Q80,.box 1029 Q18,Qp 2 2,Qp 6 1029]])],[(14,[Qn [.sv 0 QB,.sv 25 .bool,.box 2 Q80,Qp 2 2]])],[(25,[.v,.v,.v,.v,.v,.v,.v,.v,.x])]⟩
def a9Q(x:LI):Option Z18:=cond (lim (a01 x)) (some (x,0,0,())) none
def c5T:FSem:=⟨[.v QB],[.b Q18],a9Q⟩
def a0F(x:Z18):Option Z36:=some (x.2.2.1,x)
def b5n:FSem:=⟨[.r false (.b Q18)],[.v QI],a0F⟩
def a2m(x:Z18):Option Z36:=some (wrap .i64 ((wrap .i64 (8*(x.1.length:Int)))-x.2.1),x)
def b3Z:FSem:=⟨[.r false (.b Q18)],[.v QI],a2m⟩
def d6V:Hints:=⟨[],[],[(1,[.p,.p,.q,.q,.v,.v,.p,.p,.q,.q,.x,.x])]⟩
def a0V(x:Z39):Option Z36:=(m0k x.1.1 (wrap .i64 (a08 x.2 8))).bind fun x1=>cond (decide ((wrap .i64 (7-(a07 x.2 8)))<0)) none (some (bits .u8 .and (A0o .u8 x1 (wrap .i64 (7-(a07 x.2 8)))) 1,x.1))
def b4a:FSem:=⟨[.r false (.b Q18),.v QI],[.v QV],a0V⟩
def a3G(s:b2z):Option (b2z ⊕ Z68):=cond (decide (s.2.2.1<s.2.1)) ((a0V (s.2.2.2.1,s.2.2.2.1.2.1)).bind fun y3=>some (.inl (bits .u64 .or (A0n .u64 s.1 1) (wrap .u64 y3.1),s.2.1,wrap .i64 (s.2.2.1+1),(y3.2.1,wrap .i64 (y3.2.2.1+1),y3.2.2.2),()))) (some (.inr (s.1,s.2.2.2.1,())))
def a0J(x:Z39):Option Z36:=cond (x.1.2.2.1 != 0) (some (0,x.1)) ((show Option Z88 from cond (decide (x.2<0)) (some (x.2,true,x.1,())) (some (x.2,decide (x.2 > 64),x.1,()))).bind fun z1=>cond z1.2.1 (some (0,z1.2.2.1.1,z1.2.2.1.2.1,1,z1.2.2.1.2.2.2)) ((a2m z1.2.2.1).bind fun y2=>cond (decide (z1.1 > y2.1)) (some (0,y2.2.1,y2.2.2.1,3,y2.2.2.2.2)) ((y0s a3G (0,z1.1,0,y2.2,())).bind fun w4=>some (w4.1,w4.2.1))))
def b5o:FSem:=⟨[.r false (.b Q18),.v QI],[.v QU],a0J⟩
def d6W:Hints:=⟨[(506,[.sv 5 QU,27,28,.box pinned Q18,Qp 0 pinned],[Qe 0 [.sv 5 QU,.box pinned Q18]])],[(14,[Qn [1,.sv 16 .bool,.box pinned Q18,Qp 0 pinned]])],[]⟩
def a0O(x:Z39):Option Z36:=(a0J (x.1,x.2)).bind fun y1=>(show Option c1U from cond (y1.2.2.2.1 != 0) (some (x.2,y1.1,true,y1.2,())) (some (x.2,y1.1,x.2==0,y1.2,()))).bind fun z2=>cond z2.2.2.1 (some (0,z2.2.2.2.1)) (cond (decide ((wrap .i64 (64-z2.1))<0)) none (cond (decide ((wrap .i64 (64-z2.1))<0)) none (some (A0o .i64 (wrap .i64 (A0n .u64 z2.2.1 (wrap .i64 (64-z2.1)))) (wrap .i64 (64-z2.1)),z2.2.2.2.1))))
def b2E:FSem:=⟨[.r false (.b Q18),.v QI],[.v QI],a0O⟩
def d6X:Hints:=⟨[],[(14,[Qn [1,.sv 5 QU,.sv 17 .bool,.box pinned Q18]])],[]⟩
def a4M(s:(Int×b8u)):Option ((Int×b8u) ⊕ (Int×b8t)):=(fun(a:Int)(b:Z18)(c:a0W)=>cond (decide (a<s.2.1)) ((a0O (b,s.1)).bind fun y4=>cond (lim ((a01 c.2.2.2.2.2.1)+1)) (some (.inl (s.1,s.2.1,wrap .i64 (a+1),y4.2,(c.1,c.2.1,c.2.2.1,c.2.2.2.1,c.2.2.2.2.1,a04 c.2.2.2.2.2.1 [y4.1],c.2.2.2.2.2.2),()))) none) (some (.inr (s.1,c,b,())))) s.2.2.1 s.2.2.2.1 s.2.2.2.2.1
def a6Q(x:c5y):Option (Bool×c5y):=(a0J (x.1,5)).bind fun y1=>(a0J (y1.2,4)).bind fun y2=>(a0J (y2.2,5)).bind fun y3=>(y0s a4M (wrap .i64 y3.1,wrap .i64 ((wrap .i64 y1.1)+1),0,y3.2,(x.2.1,x.2.2.1,x.2.2.2.1,wrap .i64 y2.1,x.2.2.2.2.2),())).bind fun w5=>(a1B w5.2.1.2.2.2.2.2.1).bind fun y6=>some (y6==w5.1,w5.2.2.1,w5.2.1)
def b8Z:FSem:=⟨[.r false (.b Q18),.r false (.b Q59)],[.v .bool],a6Q⟩
def d6Y:Hints:=⟨[(250,[6,20,21,.box pinned Q18,.box 1000001 Q59,Qp 0 pinned,Qp 1 1000001],[Qe 0 [6,.box 1000001 Q59,.box pinned Q18,Qp 1 1000001]])],[],[(6,[.p,.p,.p,.r [26,1000001],.r [27,1000001],.p,.v,.w [30,1030,pinned],.q,.a [31,32,1000001],.x,.x,.x])]⟩
def a2U(s:b8u):Option (b8u ⊕ c8s):=(fun(a:Int)(b:Z18)(c:a0W)=>cond (decide (a<3)) ((a0O (b,8)).bind fun y6=>cond ((decide (0≤a))&&(decide (a<3))) (some (.inl (s.1,wrap .i64 (a+1),y6.2,(c.1,c.2.1,c.2.2.1,c.2.2.2.1,c.2.2.2.2.1,c.2.2.2.2.2.1,a05 c.2.2.2.2.2.2.1 (a00 a) y6.1,c.2.2.2.2.2.2.2),()))) none) (some (.inr (s.1,b,c,())))) s.2.1 s.2.2.1 s.2.2.2.1
def a5u(s:(Int×Bool×b8u)):Option ((Int×Bool×b8u) ⊕ (Int×Bool×b8t)):=(fun(a b:Int)(c:Z18)(d:a0W)=>cond (decide (b<a)) ((a0J (c,5)).bind fun y15=>(a0J (y15.2,4)).bind fun y16=>cond (lim ((a01 d.2.2.2.2.2.2.2.1)+1)) (some (.inl (s.1,s.2.1,a,wrap .u64 (b+1),y16.2,(d.1,d.2.1,d.2.2.1,d.2.2.2.1,d.2.2.2.2.1,d.2.2.2.2.2.1,d.2.2.2.2.2.2.1,a04 d.2.2.2.2.2.2.2.1 ([(wrap .i64 ((wrap .i64 y15.1)+1),wrap .i64 y16.1,())]:List (Int×Int×Unit)),d.2.2.2.2.2.2.2.2),()))) none) (some (.inr (s.1,s.2.1,d,c,())))) s.2.2.1 s.2.2.2.1 s.2.2.2.2.1 s.2.2.2.2.2.1
def a2G(x:Z18):Option (a0W×Int×Bool×Z18):=(a0J (x,3)).bind fun y1=>(a0J (y1.2,5)).bind fun y2=>(a0J (y2.2,5)).bind fun y3=>(show Option (Int×Bool×b8t)from(show Option (c8s ⊕ ((Int×Bool×b8t) ⊕ (Int×Bool×c8r)))from cond ((wrap .i64 y1.1)==2) ((a0J (y3.2,3)).bind fun y4=>some (Sum.inr (Sum.inl (wrap .i64 y3.1,true,(wrap .i64 y1.1,wrap .i64 y2.1,wrap .i64 y4.1,0,0,[],a02 3 0,[],[],(0,[],()),[],()),y4.2,())))) (cond ((wrap .i64 y1.1)==4) ((a0J (y3.2,10)).bind fun y5=>(y0s a2U (wrap .i64 y3.1,0,y5.2,(wrap .i64 y1.1,wrap .i64 y2.1,0,0,wrap .i64 ((wrap .i64 y5.1)+1),[],a02 3 0,[],[],(0,[],()),[],()),())).bind fun w7=>some (Sum.inl (w7.1,w7.2.1,w7.2.2.1,()))) (cond ((wrap .i64 y1.1)==3) (some (Sum.inl (wrap .i64 y3.1,y3.2,(wrap .i64 y1.1,wrap .i64 y2.1,0,0,0,[],a02 3 0,[],[],(0,[],()),[],()),()))) (cond ((wrap .i64 y1.1)==5) (some (Sum.inr (Sum.inr ((wrap .i64 y3.1,true,y3.2,(wrap .i64 y1.1,wrap .i64 y2.1,0,0,0,[],a02 3 0,[],[],(0,[],()),[],()),()))))) (some (Sum.inr (Sum.inl (wrap .i64 y3.1,true,(wrap .i64 y1.1,wrap .i64 y2.1,0,0,0,[],a02 3 0,[],[],(0,[],()),[],()),y3.2,())))))))).bind fun z8=>match z8 with |.inl a9=>((a6Q (a9.2.1,a9.2.2.1)).bind fun y11=>some (a9.1,y11.1,y11.2.2,y11.2.1,())) |.inr b10=>(match b10 with |.inl a12=>some (a12.1,a12.2.1,a12.2.2.1,a12.2.2.2.1,()) |.inr b13=>((a0J (b13.2.2.1,2)).bind fun y14=>(y0s a5u (b13.1,b13.2.1,y14.1,0,y14.2,b13.2.2.2.1,())).bind fun w17=>some (w17.1,w17.2.1,w17.2.2.1,w17.2.2.2.1,())))).bind fun z18=>some (z18.2.2.1,z18.1,z18.2.1,z18.2.2.2.1)
def c1m:FSem:=⟨[.r false (.b Q18)],[.v (.pair QI (.pair QI (.pair QI (.pair QI (.pair QI (.pair QL (.pair (.arr 3 QI) (.pair (.list false Q5) Q27)))))))),.v QI,.v .bool],a2G⟩
def d6Z:Hints:=⟨[(8106,[3,.sv 4 .bool,.sv 50 QU,.sv 51 QU,.box pinned Q18,.box 2 Q59,Qp 0 pinned,Qp 2 2],[Qe 7 [3,.sv 4 .bool,.box 2 Q59,.box pinned Q18,Qp 2 2]]),(129550,[3,38,.box pinned Q18,.box 2 Q59,Qp 0 pinned,Qp 2 2],[Qe 5 [3,.box pinned Q18,.box 2 Q59,Qp 0 pinned,Qp 2 2]])],[(63,[Qn [3,.sv 4 .bool,.box 2 Q59,.box pinned Q18,Qp 2 2]]),(2024,[Qn [3,.box pinned Q18,.box 2 Q59,Qp 0 pinned,Qp 2 2],Qe 0 [3,.sv 4 .bool,.box 2 Q59,.box pinned Q18,Qp 2 2],Qe 4 [3,.sv 4 .bool,.box pinned Q18,.box 2 Q59,Qp 0 pinned,Qp 2 2]])],[]⟩
def a1f(s:b2z):Option (b2z ⊕ Z68):=(fun(a b:Int)(c:Z18)=>cond (b==(wrap .i64 (8*(c.1.length:Int)))) (some (.inr (0,(c.1,c.2.1,3,c.2.2.2),()))) ((a0V (c,b)).bind fun y2=>cond (y2.1==1) (some (.inr (a,(y2.2.1,wrap .i64 (b+1),y2.2.2.2),()))) (cond (a==s.1) (some (.inr (0,(y2.2.1,y2.2.2.1,2,y2.2.2.2.2),()))) (some (.inl (s.1,wrap .i64 (a+1),wrap .i64 (b+1),y2.2,())))))) s.2.1 s.2.2.1 s.2.2.2.1
def a2d(x:Z39):Option Z36:=cond (x.1.2.2.1 != 0) (some (0,x.1)) ((y0s a1f (v0r x.2 0,0,x.1.2.1,x.1,())).bind fun w3=>some (w3.1,w3.2.1))
end Go.Ab
namespace Go.Ab
open IntKind(wrap)
open Go.Proofs
set_option maxRecDepth 100000
set_option linter.unusedVariables false
def b3x:FSem:=⟨[.r false (.b Q18),.v QI],[.v QI],a2d⟩
def d7a:Hints:=⟨[(62,[1,5,6,.box pinned Q18,Qp 0 pinned],[Qr [4,.box pinned Q18]])],[],[(4,[.p,.p,.q,.q,.v,.x])]⟩
def a3w(x:Int):Option Int:=cond (decide (x≥2147483648)) (some 0) (cond ((a07 x 2)==0) (some (wrap .i64 (wrap .u64 (a08 x 2)))) (some (wrap .i64 ((wrap .i64 (0-(wrap .i64 (wrap .u64 (a08 x 2)))))-1))))
def c1n:FSem:=⟨[.v QU],[.v QI],a3w⟩
def a3H(x:Z39):Option Z59:=(a2d (x.1,32)).bind fun y1=>(a0F y1.2).bind fun y2=>cond (y2.1 != 0) ((a0F y2.2).bind fun y3=>some (0,y3.1,y3.2)) (cond (decide ((wrap .u64 y1.1)<32)) ((a0J (y2.2,x.2)).bind fun y4=>cond (decide (x.2<0)) none ((a3w (wrap .u64 ((A0n .u64 (wrap .u64 y1.1) x.2)+y4.1))).bind fun y5=>(a0F y4.2).bind fun y6=>some (y5,y6.1,y6.2))) ((a0J (y2.2,32)).bind fun y7=>(a0F y7.2).bind fun y8=>cond (y8.1 != 0) ((a0F y8.2).bind fun y9=>some (0,y9.1,y9.2)) ((show Option Z88 from cond (decide (y7.1≥2147483648)) (some (y7.1,true,y8.2,())) (cond (decide (x.2<0)) none (some (y7.1,decide ((A0o .u64 y7.1 x.2)<32),y8.2,())))).bind fun z10=>cond z10.2.1 (some (0,2,z10.2.2.1)) ((a3w z10.1).bind fun y11=>some (y11,0,z10.2.2.1)))))
def c5U:FSem:=⟨[.r false (.b Q18),.v QI],[.v QI,.v QI],a3H⟩
def d7b:Hints:=⟨[],[(254,[Qn [.sv 8 QU,.sv 44 .bool,.box pinned Q18]])],[]⟩
def a1s(s:b0D):Option (b0D ⊕ (Z83 ⊕ c5i)):=cond (decide (s.2.2.1<s.2.1)) ((a3H (s.2.2.2.2.1,s.1)).bind fun y5=>cond (y5.2.1 != 0) (some (.inr (Sum.inr ((y5.2.1,[],y5.2.2,()))))) (cond (lim ((a01 s.2.2.2.1)+1)) (some (.inl (s.1,s.2.1,wrap .i64 (s.2.2.1+1),a04 s.2.2.2.1 [y5.1],y5.2.2,()))) none)) (some (.inr (Sum.inl (s.2.2.2.1,s.2.2.2.2.1,()))))
def a6R(x:Z64):Option Z76:=(show Option c1U from(a2T x.2.1).bind fun y1=>cond (!y1) (some (x.2.1,x.2.2,true,x.1,())) (cond (decide (x.2.2<0)) (some (x.2.1,x.2.2,true,x.1,())) (some (x.2.1,x.2.2,decide (x.2.2 > 4194304),x.1,())))).bind fun z2=>cond z2.2.2.1 (some ([],1,z2.2.2.2.1)) ((a0F z2.2.2.2.1).bind fun y3=>cond (y3.1 != 0) ((a0F y3.2).bind fun y4=>some ([],y4.1,y4.2)) ((y0s a1s (z2.1,z2.2.1,0,[],y3.2,())).bind fun w6=>match w6 with |.inl a7=>some (a7.1,0,a7.2.1) |.inr b8=>some (b8.2.1,b8.1,b8.2.2.1)))
def c5V:FSem:=⟨[.r false (.b Q18),.v QI,.v QI],[.o QI,.v QI],a6R⟩
def d7c:Hints:=⟨[(250,[1,27,28,.own 8 8 QI,.box pinned Q18,Qp 0 pinned],[Qe 0 [.own 8 8 QI,.box pinned Q18],Qr [7,.own 6 6 QI,.box pinned Q18]])],[(6,[Qn [1,2,.sv 21 .bool,.box pinned Q18,Qp 0 pinned]])],[]⟩
def a6S(s:(Int×b0D)):Option ((Int×b0D) ⊕ d1v):=(fun(a b c:Int)(d:LI)(e:Z18)=>cond (decide (c<b)) ((a0O (e,a)).bind fun y6=>cond (lim ((a01 d)+1)) (some (.inl (s.1,a,b,wrap .i64 (c+1),a04 d [y6.1],y6.2,()))) none) (some (.inr (s.1,a,d,e,())))) s.2.1 s.2.2.1 s.2.2.2.1 s.2.2.2.2.1 s.2.2.2.2.2.1
def a2f(x:Z39):Option (Int×Z76):=(a0J (x.1,5)).bind fun y1=>(a0F y1.2).bind fun y2=>cond (y2.1 != 0) ((a0F y2.2).bind fun y3=>some (0,[],y3.1,y3.2)) (cond (decide ((wrap .i64 y1.1)≤25)) ((a6R (y2.2,wrap .i64 y1.1,x.2)).bind fun y4=>some (wrap .i64 y1.1,y4.1,y4.2.1,y4.2.2)) (cond ((wrap .i64 y1.1) != 31) (some (0,[],2,y2.2)) ((a0J (y2.2,5)).bind fun y5=>(y0s a6S (wrap .i64 y1.1,wrap .i64 y5.1,x.2,0,[],y5.2,())).bind fun w7=>(a0F w7.2.2.2.1).bind fun y8=>cond (y8.1 != 0) ((a0F y8.2).bind fun y9=>some (0,[],y9.1,y9.2)) ((a1B w7.2.2.1).bind fun y10=>cond (y10 != w7.2.1) (some (0,[],2,y8.2)) (some (w7.1,w7.2.2.1,0,y8.2))))))
def c4m:FSem:=⟨[.r false (.b Q18),.v QI],[.v QI,.o QI,.v QI],a2f⟩
def d7d:Hints:=⟨[(2042,[7,10,37,38,.own 11 11 QI,.box pinned Q18,Qp 0 pinned],[Qe 0 [7,10,.own 11 11 QI,.box pinned Q18,Qp 0 pinned]])],[],[]⟩
def a2n(s:(Int×c5t)):Option ((Int×c5t) ⊕ ((LI×(Z5×c5m)) ⊕ (Int×(LI×c5m)))):=(fun(a:Int)(b c:LI)(d:Z18)(e f:Z5)=>cond (decide (a<s.1)) (cond ((decide (0≤a))&&(decide (a<(c.length:Int)))) ((a2f (d,a03 c (a00 a) 0)).bind fun y6=>cond (y6.2.2.1 != 0) (some (.inr (Sum.inr ((y6.2.2.1,[],(0,[],()),y6.2.2.2,()))))) (cond (lim ((a01 f.2.1)+1)) (cond (lim ((a01 b)+(a01 y6.2.1))) (some (.inl (s.1,wrap .i64 (a+1),a04 b y6.2.1,c,y6.2.2.2,e,(f.1,a04 f.2.1 [y6.1],f.2.2),()))) none) none)) none) (some (.inr (Sum.inl (b,e,f,d,()))))) s.2.1 s.2.2.1 s.2.2.2.1 s.2.2.2.2.1 s.2.2.2.2.2.1 s.2.2.2.2.2.2.1
def a7r(x:Z64):Option (Z5×Z76):=(a5U (x.2.1,x.2.2)).bind fun y1=>cond (!y1) (some ((0,[],()),[],1,x.1)) ((a0J (x.1,4)).bind fun y2=>(a0F y2.2).bind fun y3=>cond (y3.1 != 0) ((a0F y3.2).bind fun y4=>some ((0,[],()),[],y4.1,y4.2)) ((a2E (wrap .i64 y2.1,x.2.1,x.2.2)).bind fun y5=>cond ((y5.length:Int)==0) (some ((0,[],()),[],2,y3.2)) ((y0s a2n ((y5.length:Int),0,[],y5,y3.2,(0,[],()),(wrap .i64 y2.1,[],()),())).bind fun w7=>match w7 with |.inl a8=>some (a8.2.2.1,a8.1,0,a8.2.2.2.1) |.inr b9=>some (b9.2.2.1,b9.2.1,b9.1,b9.2.2.2.1))))
def c4n:FSem:=⟨[.r false (.b Q18),.v QI,.v QI],[.v Q13,.o QI,.v QI],a7r⟩
def d7e:Hints:=⟨[(4090,[43,44,.own 12 12 QI,.own 42 10 QI,.box pinned Q18,.box 6 Q13,.box 11 Q12,Qp 0 pinned,Qp 6 6,Qp 11 11],[Qe 0 [.own 12 12 QI,.box 6 Q13,.box 11 Q12,.box pinned Q18,Qp 6 6,Qp 11 11],Qr [8,.own 7 7 QI,.box 6 Q13,.box pinned Q18,Qp 6 6]])],[],[]⟩
def a8e(s:(Int×Int×Bool×c5H)):Option ((Int×Int×Bool×c5H) ⊕ (Int×Int×Bool×c5G)):=(fun(a:Int)(b:Bool)(c d:Int)(e:Z18)(f g:a0W)=>cond (decide (d<c)) ((a0O (e,a)).bind fun y7=>cond (lim ((a01 g.2.2.2.2.2.2.2.2.1)+1)) (some (.inl (s.1,a,b,c,wrap .i64 (d+1),y7.2,f,(g.1,g.2.1,g.2.2.1,g.2.2.2.1,g.2.2.2.2.1,g.2.2.2.2.2.1,g.2.2.2.2.2.2.1,g.2.2.2.2.2.2.2.1,a04 g.2.2.2.2.2.2.2.2.1 [y7.1],g.2.2.2.2.2.2.2.2.2),()))) none) (some (.inr (s.1,a,b,e,f,g,())))) s.2.1 s.2.2.1 s.2.2.2.1 s.2.2.2.2.1 s.2.2.2.2.2.1 s.2.2.2.2.2.2.1 s.2.2.2.2.2.2.2.1
def a9m(x:Z39):Option (a0W×Z36):=cond (decide (x.2<1)) (some ((0,0,0,0,0,[],a02 3 0,[],[],(0,[],()),[],()),1,x.1)) (cond (decide (x.2 > 4096)) (some ((0,0,0,0,0,[],a02 3 0,[],[],(0,[],()),[],()),1,x.1)) ((a0F x.1).bind fun y1=>cond (y1.1 != 0) (some ((0,0,0,0,0,[],a02 3 0,[],[],(0,[],()),[],()),y1.1,y1.2)) ((a2G y1.2).bind fun y2=>(a0F y2.2.2.2).bind fun y3=>cond (y3.1 != 0) (some ((0,0,0,0,0,[],a02 3 0,[],[],(0,[],()),[],()),y3.1,y3.2)) ((a7N (y2.1.1,y2.1,x.2)).bind fun y4=>cond (!y4) (some ((0,0,0,0,0,[],a02 3 0,[],[],(0,[],()),[],()),2,y3.2)) ((a4X (y2.1,x.2)).bind fun y5=>(y0s a8e (x.2,y2.2.1,y2.2.2.1,y5,0,y3.2,(0,0,0,0,0,[],a02 3 0,[],[],(0,[],()),[],()),y2.1,())).bind fun w8=>(a0F w8.2.2.2.1).bind fun y9=>cond (y9.1 != 0) (some ((0,0,0,0,0,[],a02 3 0,[],[],(0,[],()),[],()),y9.1,y9.2)) ((a4V w8.2.2.2.2.2.1.1).bind fun y10=>cond y10 ((a7r (y9.2,w8.1,(w8.2.2.2.2.2.1.2.2.2.2.2.2.2.2.1.length:Int))).bind fun y11=>cond (y11.2.2.1 != 0) (some ((0,0,0,0,0,[],a02 3 0,[],[],(0,[],()),[],()),y11.2.2.1,y11.2.2.2)) (cond (!w8.2.2.1) (some ((0,0,0,0,0,[],a02 3 0,[],[],(0,[],()),[],()),2,y11.2.2.2)) ((a1B w8.2.2.2.2.2.1.2.2.2.2.2.2.2.2.1).bind fun y12=>cond (y12 != w8.2.1) (some ((0,0,0,0,0,[],a02 3 0,[],[],(0,[],()),[],()),2,y11.2.2.2)) ((a6w ((w8.2.2.2.2.2.1.1,w8.2.2.2.2.2.1.2.1,w8.2.2.2.2.2.1.2.2.1,w8.2.2.2.2.2.1.2.2.2.1,w8.2.2.2.2.2.1.2.2.2.2.1,w8.2.2.2.2.2.1.2.2.2.2.2.1,w8.2.2.2.2.2.1.2.2.2.2.2.2.1,w8.2.2.2.2.2.1.2.2.2.2.2.2.2.1,w8.2.2.2.2.2.1.2.2.2.2.2.2.2.2.1,y11.1,y11.2.1,w8.2.2.2.2.2.1.2.2.2.2.2.2.2.2.2.2.2),w8.1)).bind fun y13=>cond (!y13) (some ((0,0,0,0,0,[],a02 3 0,[],[],(0,[],()),[],()),2,y11.2.2.2)) (some ((w8.2.2.2.2.2.1.1,w8.2.2.2.2.2.1.2.1,w8.2.2.2.2.2.1.2.2.1,w8.2.2.2.2.2.1.2.2.2.1,w8.2.2.2.2.2.1.2.2.2.2.1,w8.2.2.2.2.2.1.2.2.2.2.2.1,w8.2.2.2.2.2.1.2.2.2.2.2.2.1,w8.2.2.2.2.2.1.2.2.2.2.2.2.2.1,w8.2.2.2.2.2.1.2.2.2.2.2.2.2.2.1,y11.1,y11.2.1,w8.2.2.2.2.2.1.2.2.2.2.2.2.2.2.2.2.2),0,y11.2.2.2)))))) (cond (!w8.2.2.1) (some ((0,0,0,0,0,[],a02 3 0,[],[],(0,[],()),[],()),2,y9.2)) ((a1B w8.2.2.2.2.2.1.2.2.2.2.2.2.2.2.1).bind fun y14=>cond (y14 != w8.2.1) (some ((0,0,0,0,0,[],a02 3 0,[],[],(0,[],()),[],()),2,y9.2)) ((a6w (w8.2.2.2.2.2.1,w8.1)).bind fun y15=>cond (!y15) (some ((0,0,0,0,0,[],a02 3 0,[],[],(0,[],()),[],()),2,y9.2)) (some (w8.2.2.2.2.2.1,0,y9.2)))))))))))
def c7r:FSem:=⟨[.r false (.b Q18),.v QI],[.v Q61,.v QI],a9m⟩
def d7f:Hints:=⟨[(1018,[1,8,.sv 9 .bool,47,48,.box pinned Q18,.box 4 Q61,.box 7 (.pair QI (.pair QI (.pair QI (.pair QI (.pair QI (.pair QL (.pair (.arr 3 QI) (.pair (.list false Q5) (.pair (.list true QI) Q23))))))))),Qp 0 pinned,Qp 4 4,Qp 7 7],[Qe 0 [1,8,.sv 9 .bool,.box pinned Q18,.box 4 Q61,.box 7 (.pair QI (.pair QI (.pair QI (.pair QI (.pair QI (.pair QL (.pair (.arr 3 QI) (.pair (.list false Q5) (.pair (.list true QI) Q23))))))))),Qp 0 pinned,Qp 4 4,Qp 7 7]])],[],[(14,[.r [7,50],.r [7,51],.p,.v,.w [54,1054,pinned],.q,.x,.x,.x])]⟩
def a1y(s:Z87):Option (Z87 ⊕ (Z68 ⊕ Z44)):=cond (decide (s.2.1<s.1)) ((a0V (s.2.2.1,s.2.1)).bind fun y1=>cond (y1.1==1) (some (.inr (Sum.inr (((y1.2.1,y1.2.2.1,2,y1.2.2.2.2),()))))) (some (.inl (s.1,wrap .i64 (s.2.1+1),y1.2,())))) (some (.inr (Sum.inl (s.1,s.2.2.1,()))))
def a2P(x:Z18):Option Z18:=cond (x.2.2.1 != 0) (some x) ((y0s a1y (wrap .i64 ((wrap .i64 (a08 (wrap .i64 (x.2.1+7)) 8))*8),x.2.1,x,())).bind fun w2=>match w2 with |.inl a3=>some (a3.2.1.1,a3.1,a3.2.1.2.2) |.inr b4=>some b4.1)
def b3y:FSem:=⟨[.r false (.b Q18)],[],a2P⟩
def d7g:Hints:=⟨[(58,[2,3,.box pinned Q18,Qp 0 pinned],[Qe 0 [2,.box pinned Q18,Qp 0 pinned],Qr [.box pinned Q18]])],[],[]⟩
def a2s(s:(Int×c5J)):Option ((Int×c5J) ⊕ (c8u ⊕ (Int×Int×a7e))):=(fun(a:Int)(b c:a1x)(d:Z18)=>cond (decide (a<s.2.1)) ((a9m (d,c.2.1)).bind fun y7=>cond (y7.2.1 != 0) (some (.inr (Sum.inr ((0,2,(0,0,(0,0,0,()),[],[],()),()))))) (cond (lim ((a01 c.2.2.2.2.1)+1)) (some (.inl (s.1,s.2.1,wrap .i64 (a+1),b,(c.1,c.2.1,c.2.2.1,c.2.2.2.1,a04 c.2.2.2.2.1 ([y7.1]:List a0W),c.2.2.2.2.2),y7.2.2,()))) none)) (some (.inr (Sum.inl (s.1,b,c,d,()))))) s.2.2.1 s.2.2.2.1 s.2.2.2.2.1 s.2.2.2.2.2.1
def a3h(x:LI):Option (a1x×Int×Int):=(a6i x).bind fun y1=>cond (y1.2.2.2 != 0) (some ((0,0,(0,0,0,()),[],[],()),0,y1.2.2.2)) (cond (decide ((x.length:Int)<(wrap .i64 ((wrap .i64 (y1.2.1+y1.2.2.1))+2)))) (some ((0,0,(0,0,0,()),[],[],()),0,3)) (cond ((decide (0≤(wrap .i64 (y1.2.1+y1.2.2.1))))&&(decide ((wrap .i64 (y1.2.1+y1.2.2.1))≤(x.length:Int)))) ((a5a (a06 (a00 (wrap .i64 (y1.2.1+y1.2.2.1))) x)).bind fun y2=>(m0k x (wrap .i64 (y1.2.1+y1.2.2.1))).bind fun x3=>(m0k x (wrap .i64 ((wrap .i64 (y1.2.1+y1.2.2.1))+1))).bind fun x4=>cond (y2 != (bits .u16 .or (A0n .u16 (wrap .u16 x3) 8) (wrap .u16 x4))) (some ((0,0,(0,0,0,()),[],[],()),0,5)) (cond ((decide (0≤(wrap .i64 (y1.2.1+y1.2.2.1))))&&(decide ((wrap .i64 (y1.2.1+y1.2.2.1))≤(x.length:Int)))) (cond ((decide (0≤y1.2.1))&&(decide (y1.2.1≤((a00 (wrap .i64 (y1.2.1+y1.2.2.1)):Nat):Int)))) ((a9Q (a09 (a00 y1.2.1) (a06 (a00 (wrap .i64 (y1.2.1+y1.2.2.1))) x))).bind fun y5=>(y0s a2s (wrap .i64 (y1.2.1+y1.2.2.1),y1.1.2.2.1.2.1,0,(0,0,(0,0,0,()),[],[],()),y1.1,y5,())).bind fun w8=>match w8 with |.inl a9=>((a2m a9.2.2.2.1).bind fun y11=>cond (decide (y11.1≥8)) (some ((0,0,(0,0,0,()),[],[],()),0,2)) ((a2P y11.2).bind fun y12=>(a0F y12).bind fun y13=>cond (y13.1 != 0) (some ((0,0,(0,0,0,()),[],[],()),0,2)) ((a5X a9.2.2.1).bind fun y14=>cond (!y14) (some ((0,0,(0,0,0,()),[],[],()),0,2)) (some (a9.2.2.1,wrap .i64 (a9.1+2),0))))) |.inr b10=>some (b10.2.2.1,b10.1,b10.2.1)) none) none)) none))
def c2D:FSem:=⟨[.v QB],[.v Q83,.v QI,.v QI],a3h⟩
def H72:Hints:=⟨[(2042,[9,59,60,.box 2 Q83,.box 5 Q82,.box 1056 Q18,Qp 2 2,Qp 5 5,Qp 10 1056],[Qe 0 [9,.box 2 Q83,.box 5 Q82,.box 1056 Q18,Qp 2 2,Qp 5 5,Qp 10 1056],Qr [3,4,.box 2 Q83,Qp 2 2]])],[],[(7,[.v,.v,.v,.v,.v,.v,.v,.v,.v,.v,.v,.v,.v,.v,.v,.v,.v,.x])]⟩
def a7I(x:(LI×(a4E×Int×Int×Int))):Option (a1x×Z34):=(fun(a:a4E)(b c:Int)=>(m0k a.2.1 b).bind fun x1=>cond (decide ((wrap .i64 ((x.1.length:Int)-c))<x1)) (some ((0,0,(0,0,0,()),[],[],()),(0,([]:(List LI)),()),3)) (cond ((decide (0≤(wrap .i64 (c+x1))))&&(decide ((wrap .i64 (c+x1))≤(x.1.length:Int)))) (cond ((decide (0≤c))&&(decide (c≤((a00 (wrap .i64 (c+x1)):Nat):Int)))) ((a3h (a09 (a00 c) (a06 (a00 (wrap .i64 (c+x1))) x.1))).bind fun y2=>cond (y2.2.2 != 0) (some ((0,0,(0,0,0,()),[],[],()),(0,([]:(List LI)),()),y2.2.2)) ((show Option (Bool×a1x×c5B)from cond (decide (y2.2.1<x1)) (some (true,(0,0,(0,0,0,()),[],[],()),(0,([]:(List LI)),()),y2.1,())) (cond (!(eqT Q14 y2.1.2.2.1 a.1)) (some (true,(0,0,(0,0,0,()),[],[],()),(0,([]:(List LI)),()),y2.1,())) (cond (y2.1.1 != x.2.2.2.2) (some (true,(0,0,(0,0,0,()),[],[],()),(0,([]:(List LI)),()),y2.1,())) ((m0k a.2.2.1 b).bind fun x3=>some (y2.1.2.1 != x3,(0,0,(0,0,0,()),[],[],()),(0,([]:(List LI)),()),y2.1,()))))).bind fun z4=>cond z4.1 (some ((0,0,(0,0,0,()),[],[],()),(0,([]:(List LI)),()),2)) ((a2F z4.2.2.2.1).bind fun y5=>cond (y5.2 != 0) (some ((0,0,(0,0,0,()),[],[],()),(0,([]:(List LI)),()),y5.2)) (some (z4.2.2.2.1,y5.1,0))))) none) none)) x.2.1 x.2.2.1 x.2.2.2.1
def b6o:FSem:=⟨[.v QB,.v Q32,.v QI,.v QI,.v QI],[.v Q83,.v Q17,.v QI],a7I⟩
def H63:Hints:=⟨[],[(126,[Qn [.sv 72 .bool,.box 10 Q83,.box 11 Q17,.box 14 Q83,Qp 10 10,Qp 11 11,Qp 14 14]])],[(7,[.v,.v,.x,.x,.q,.q,.v,.v,.x,.x,.x,.q,.q,.v,.x,.x,.x,.q,.q,.v,.v,.v,.v,.v,.x,.x]),(12,[.q,.r [17,86],.w [0,10],.x,.x])]⟩
def b7n(s:(LI×(Int×(LI×(Int×Int×a7f×a4E×b0F))))):Option ((LI×(Int×(LI×(Int×Int×a7f×a4E×b0F)))) ⊕ ((LI×(Int×a7f×a4E×b0F)) ⊕ (Int×b0F))):=(fun(a:Int)(b:LI)(c d:Int)(e:a7f)(f:a4E)(g:a7f)=>cond (decide (d<c)) ((m0k b d).bind fun x2=>(a7I (s.1,f,d,a,g.2.1)).bind fun y3=>cond (y3.2.2 != 0) (some (.inr (Sum.inr ((y3.2.2,((0,0,0,()),0,0,[],[],()),()))))) ((a6P (g.2.2.1,y3.2.1)).bind fun y4=>cond (lim ((a01 g.2.2.2.1)+1)) (cond (lim ((a01 g.2.2.2.2.1)+1)) (some (.inl (s.1,wrap .i64 (a+x2),b,c,wrap .i64 (d+1),e,f,(g.1,wrap .i64 (g.2.1+y3.1.2.1),y4.1,a04 g.2.2.2.1 ([(g.2.1,wrap .i64 (a-f.2.2.2.2.2.1),())]:List (Int×Int×Unit)),a04 g.2.2.2.2.1 ([y3.1]:List a1x),g.2.2.2.2.2),()))) none) none)) (some (.inr (Sum.inl (s.1,a,e,f,g,()))))) s.2.1 s.2.2.1 s.2.2.2.1 s.2.2.2.2.1 s.2.2.2.2.2.1 s.2.2.2.2.2.2.1 s.2.2.2.2.2.2.2.1
def b4b(x:LI):Option (a7f×Int):=(a8d x).bind fun y1=>cond (y1.2 != 0) (some (((0,0,0,()),0,0,[],[],()),y1.2)) ((y0s b7n (x,y1.1.2.2.2.2.2.1,y1.1.2.1,(y1.1.2.1.length:Int),0,((0,0,0,()),0,0,[],[],()),y1.1,(y1.1.1,0,0,[],[],()),())).bind fun w5=>match w5 with |.inl a6=>(cond (decide (a6.2.1<(a6.1.length:Int))) (some (((0,0,0,()),0,0,[],[],()),2)) (cond (a6.2.2.2.2.1.2.2.1 != a6.2.2.2.1.2.2.2.2.1) (some (((0,0,0,()),0,0,[],[],()),5)) (some (a6.2.2.2.2.1,0)))) |.inr b7=>some (b7.2.1,b7.1))
def c2E:FSem:=⟨[.v QB],[.v Q97,.v QI],b4b⟩
def H17:Hints:=⟨[(506,[.sv 0 QB,7,.sv 28 QL,29,30,.box 2 Q97,.box 4 Q32,.box 6 Q96,Qp 2 2,Qp 4 4,Qp 6 6],[Qe 0 [.sv 0 QB,7,.box 2 Q97,.box 4 Q32,.box 6 Q96,Qp 2 2,Qp 4 4,Qp 6 6],Qr [3,.box 2 Q97,Qp 2 2]])],[],[]⟩
def b9a(s:((List LI)×(Int×Int×Z14×Z14×Z11))):Option (((List LI)×(Int×Int×Z14×Z14×Z11)) ⊕ (Z14×Z35)):=(fun(a:Int)(b c:Z14)(d:Int×(Int×Unit))=>cond (decide (a<s.2.1)) ((m0k s.1 a).bind fun x4=>cond ((decide (0≤d.2.1))&&(decide (d.2.1≤(x4.length:Int)))) (cond ((decide (0≤d.1))&&(decide (d.1≤((a00 d.2.1:Nat):Int)))) ((a2j (a09 (a00 d.1) (a06 (a00 d.2.1) x4))).bind fun y5=>cond (lim ((a01 c.2.1)+1)) (some (.inl (s.1,s.2.1,wrap .i64 (a+1),b,(c.1,a04 c.2.1 ([y5]:List LI),c.2.2),d,()))) none) none) none) (some (.inr (b,c,())))) s.2.2.1 s.2.2.2.1 s.2.2.2.2.1 s.2.2.2.2.2.1
def b5K(x:(Z14×Int×Int×Unit)):Option Z34:=(a3a x.1).bind fun y1=>cond (!y1) (some ((0,([]:(List LI)),()),1)) ((show Option (Bool×Z14×Z14×Z11)from cond (decide (x.2.1<0)) (some (true,(0,([]:(List LI)),()),x.1,x.2,())) (cond (decide (x.2.1≥x.2.2.1)) (some (true,(0,([]:(List LI)),()),x.1,x.2,())) ((a2Z x.1).bind fun y2=>some (decide (x.2.2.1 > y2),(0,([]:(List LI)),()),x.1,x.2,())))).bind fun z3=>cond z3.1 (some ((0,([]:(List LI)),()),6)) ((y0s b9a (z3.2.2.1.2.1,(z3.2.2.1.2.1.length:Int),0,z3.2.1,(z3.2.2.1.1,([]:(List LI)),()),z3.2.2.2.1,())).bind fun w6=>some (w6.2.1,0)))
def c4o:FSem:=⟨[.v Q17,.v Q5],[.v Q17,.v QI],b5K⟩
def H64:Hints:=⟨[(250,[.sv 35 (.list false QL),36,37,.box 4 Q17,.box 6 (.pair QI Q9),.vp 3 Q5,Qp 4 4,Qp 6 6],[Qe 0 [.box 4 Q17,.box 6 (.pair QI Q9),Qp 4 4,Qp 6 6]])],[(14,[Qn [.sv 29 .bool,.box 4 Q17,.vp 2 Q17,.vp 3 Q5,Qp 4 4]])],[(3,[.x,.x,.x,.x,.v,.v,.v,.v,.x,.x,.x,.v,.v,.v,.v,.x,.x]),(9,[.q,.q,.v,.v,.v,.v,.v,.v,.v,.q,.x,.x,.x])]⟩
def b7o(s:(LI×(Int×(Int×(LI×(Int×(Int×(LI×c5s)))))))):Option ((LI×(Int×(Int×(LI×(Int×(Int×(LI×c5s))))))) ⊕ Z57):=(fun(a b:Int)(c:LI)(d e:Int)(f:LI)(g:a4E)(h:Int×(Int×Unit))=>cond (decide (e<d)) ((m0k c e).bind fun x3=>(m0k g.2.2.1 e).bind fun x4=>(show Option ((LI×(Int×(Int×(Int×(LI×(Int×(Int×(LI×c5s)))))))) ⊕ Z5)from cond (decide ((v0r h.1 b)<(v0s h.2.1 (wrap .i64 (b+x4))))) ((a7I (s.1,g,e,a,b)).bind fun y5=>cond (y5.2.2 != 0) (some (Sum.inr ((y5.2.2,[],())))) ((b5K (y5.2.1,wrap .i64 ((v0r h.1 b)-b),wrap .i64 ((v0s h.2.1 (wrap .i64 (b+x4)))-b),())).bind fun y6=>cond (y6.2 != 0) (some (Sum.inr ((y6.2,[],())))) ((a3v y6.1).bind fun y7=>cond (lim ((a01 f)+(a01 y7))) (some (Sum.inl (s.1,a,x3,wrap .i64 (b+x4),c,d,e,a04 f y7,g,h,()))) none))) (some (Sum.inl (s.1,a,x3,wrap .i64 (b+x4),c,d,e,f,g,h,())))).bind fun z8=>match z8 with |.inl a9=>some (.inl (a9.1,wrap .i64 (a9.2.1+a9.2.2.1),a9.2.2.2.1,a9.2.2.2.2.1,a9.2.2.2.2.2.1,wrap .i64 (a9.2.2.2.2.2.2.1+1),a9.2.2.2.2.2.2.2.1,a9.2.2.2.2.2.2.2.2.1,a9.2.2.2.2.2.2.2.2.2.1,())) |.inr b10=>some (.inr (Sum.inr ((b10.1,b10.2.1,()))))) (some (.inr (Sum.inl (f,()))))) s.2.1 s.2.2.1 s.2.2.2.1 s.2.2.2.2.1 s.2.2.2.2.2.1 s.2.2.2.2.2.2.1 s.2.2.2.2.2.2.2.1 s.2.2.2.2.2.2.2.2.1
def b4c(x:Z18):Option (LI×Int):=(a8d x.1).bind fun y1=>cond (y1.2 != 0) (some ([],y1.2)) ((show Option (LI×(Bool×c5s))from cond (decide (x.2.1<0)) (some (x.1,true,y1.1,x.2,())) (cond (decide (x.2.1 > x.2.2.1)) (some (x.1,true,y1.1,x.2,())) (some (x.1,decide (x.2.2.1 > y1.1.2.2.2.1),y1.1,x.2,())))).bind fun z2=>cond z2.2.1 (some ([],6)) ((y0s b7o (z2.1,z2.2.2.1.2.2.2.2.2.1,0,z2.2.2.1.2.1,(z2.2.2.1.2.1.length:Int),0,[],z2.2.2.1,z2.2.2.2.1,())).bind fun w11=>match w11 with |.inl a12=>some (a12.1,0) |.inr b13=>some (b13.2.1,b13.1)))
def c2F:FSem:=⟨[.v QB,.v Q5],[.o QI,.v QI],b4c⟩
def H18:Hints:=⟨[(1018,[.sv 0 QB,9,10,.sv 48 QL,49,50,.own 8 8 QI,.box 6 Q32,.vp 3 Q5,Qp 6 6],[Qe 0 [.own 8 8 QI],Qr [5,.own 4 4 QI]])],[(30,[Qn [.sv 0 QB,.sv 44 .bool,.box 6 Q32,.vp 3 Q5,Qp 6 6]]),(260711,[Qn [.sv 0 QB,9,12,13,.sv 48 QL,49,50,.own 8 8 QI,.box 6 Q32,.vp 3 Q5,Qp 6 6],Qr [5,.own 4 4 QI]])],[(12,[.v,.v,.v,.v,.v,.v,.v,.v,.v,.x])]⟩
def a1M(s:(LI×Z6)):Option ((LI×Z6) ⊕ Z0):=(fun(a:Int)=>cond (decide (a<(s.1.length:Int))) ((m0k s.1 a).bind fun x1=>(m0k s.2.1 a).bind fun x2=>cond (x1 != x2) (some (.inr (Sum.inr ((false,()))))) (some (.inl (s.1,s.2.1,wrap .i64 (a+1),())))) (some (.inr (Sum.inl ())))) s.2.2.1
def a1A(x:(LI×LI)):Option Bool:=cond ((x.1.length:Int) != (x.2.length:Int)) (some false) ((y0s a1M (x.1,x.2,0,())).bind fun w3=>match w3 with |.inl a4=>some true |.inr b5=>some b5.1)
def c1o:FSem:=⟨[.v QL,.v QL],[.v .bool],a1A⟩
def H19:Hints:=⟨[(58,[.sv 0 QL,.sv 1 QL,5],[Qe 0 [],Qr [.sv 4 .bool]])],[],[(6,[.v,.v,.v,.v,.v,.v,.v,.v,.x])]⟩
def b4d(s:(Int×(Int×(LI×Z54)))):Option ((Int×(Int×(LI×Z54))) ⊕ (LI×Unit)):=(fun(a:Int)(b:LI)(c:Z29)=>cond (decide (a<s.1)) (cond ((decide (0≤a))&&(decide (a<(c.length:Int)))) ((a3v (a03 c (a00 a) (0,([]:(List LI)),()))).bind fun y2=>cond (lim ((a01 b)+(a01 y2))) (some (.inl (s.1,wrap .i64 (a+1),a04 b y2,c,()))) none) none) (some (.inr (b,())))) s.2.1 s.2.2.1 s.2.2.2.1
def b1n(x:a7f):Option (LI×Int):=(b1P x).bind fun y1=>cond (!y1.2.2) (some ([],1)) ((y0s b4d ((y1.2.1.length:Int),0,[],y1.2.1,())).bind fun w3=>some (w3.1,0))
def b7p:FSem:=⟨[.v Q97],[.o QI,.v QI],b1n⟩
def H37:Hints:=⟨[(250,[19,20,.own 7 7 QI,.own 18 5 Q17],[Qe 0 [.own 7 7 QI]])],[],[]⟩
def b7q(s:(Int×a9t×Int×Int×Unit)):Option ((Int×a9t×Int×Int×Unit) ⊕ (Unit ⊕ (Int×Int×Unit))):=(fun(a:Int)(b:a9t)(c d:Int)=>cond (decide (d<c)) ((m0k b d).bind fun x1=>cond (decide (x1.1 > a)) (some (.inl (a,b,c,wrap .i64 (d+1),()))) (cond (decide (x1.2.1≤0)) (some (.inl (a,b,c,wrap .i64 (d+1),()))) (cond (decide ((wrap .u64 ((wrap .u64 a)-(wrap .u64 x1.1)))<(wrap .u64 x1.2.1))) (some (.inr (Sum.inr ((d,0,()))))) (some (.inl (a,b,c,wrap .i64 (d+1),())))))) (some (.inr (Sum.inl ())))) s.1 s.2.1 s.2.2.1 s.2.2.2.1
def b4e(x:(a7f×Int)):Option (Int×Int):=(y0s b7q (x.2,x.1.2.2.2.2.1,(x.1.2.2.2.2.1.length:Int),0,())).bind fun w2=>match w2 with |.inl a3=>some (0,6) |.inr b4=>some (b4.1,b4.2.1)
def c2G:FSem:=⟨[.v Q97,.v QI],[.v QI,.v QI],b4e⟩
def H38:Hints:=⟨[(26,[1,.sv 9 (.list false Q83),10,11],[Qe 0 [],Qr [4,5]])],[],[]⟩
def b1Q(x:Unit):Option Bool:=(b2e ((8000,1,8,()),[1,2,3],2,0)).bind fun y1=>(b4b y1.1).bind fun y2=>(b1n y2.1).bind fun y3=>(b4c (y1.1,1,3,())).bind fun y4=>(b4e (y2.1,2)).bind fun y5=>cond (y1.2==0) (cond (y2.2==0) (cond (y3.2==0) (cond (y4.2==0) (cond (y5.2==0) (cond ((y2.1.2.2.2.2.1.length:Int)==2) ((a1A (y3.1,[1,2,3])).bind fun y6=>cond y6 ((a1A (y4.1,[2,3])).bind fun y7=>cond y7 (cond (y5.1==1) ((b0N [1,2,3]).bind fun y8=>some (y2.1.2.2.1==y8)) (some false)) (some false)) (some false)) (some false)) (some false)) (some false)) (some false)) (some false)) (some false)
def c4p:FSem:=⟨[],[.v .bool],b1Q⟩
def H9:Hints:=⟨[],[],[(7,[.x,.x,.x,.x,.x,.x,.x,.x,.x,.x,.x,.x,.x,.x,.x,.x,.x,.x,.x,.x,.x,.x,.x,.x,.x,.q,.q,.x,.x,.x,.q,.q,.x,.x,.x,.x,.x,.x,.x,.q,.q,.q,.q,.x,.x,.x])]⟩
def a2t(s:Z6):Option (Z6 ⊕ (Unit ⊕ (Int×Unit))):=(fun(a:LI)(b:Int)=>cond (decide (b<(a.length:Int))) (cond ((decide (0≤b))&&(decide (b≤(a.length:Int)))) ((a3h (a09 (a00 b) (a06 (a01 a) a))).bind fun y1=>cond (y1.2.2==0) (some (.inr (Sum.inr ((b,()))))) (some (.inl (a,wrap .i64 (b+1),())))) none) (some (.inr (Sum.inl ())))) s.1 s.2.1
def a6z(x:(LI×Int)):Option Int:=(y0s a2t (x.1,v0r x.2 0,())).bind fun w2=>match w2 with |.inl a3=>some (-1) |.inr b4=>some b4.1
def c2H:FSem:=⟨[.v QB,.v QI],[.v QI],a6z⟩
def H71:Hints:=⟨[(26,[.sv 0 QB,5],[Qe 0 [],Qr [4]])],[],[]⟩
def a1C(s:(LI×(Bool×Int×c1X))):Option ((LI×(Bool×Int×c1X)) ⊕ (Z4×(LI×Unit))):=(fun(a:LI)(b c:Int)(d:Z4)(e:LI)=>cond (decide (c≥0)) (cond ((decide (0≤c))&&(decide (c≤(a.length:Int)))) ((a3h (a09 (a00 c) (a06 (a01 a) a))).bind fun y2=>cond (y2.2.2 != 0) (some (.inr (d,e,()))) ((a6z (a,wrap .i64 (c+y2.2.1))).bind fun y3=>(show Option (LI×(Bool×c5F))from cond (!s.2.1) (some (a,true,b,y3,d,e,y2.1.2.2.1,y2.1,())) (some (a,s.2.1,b,y3,d,e,s.2.2.2.2.2.2.1,y2.1,()))).bind fun z4=>cond (!(eqT Q14 z4.2.2.2.2.2.2.2.1.2.2.1 z4.2.2.2.2.2.2.1)) (some (.inl (z4.1,z4.2.1,z4.2.2.1,z4.2.2.2.1,z4.2.2.2.2.1,z4.2.2.2.2.2.1,z4.2.2.2.2.2.2.1,()))) (cond (decide (z4.2.2.2.2.2.2.2.1.1<z4.2.2.1)) (some (.inl (z4.1,z4.2.1,z4.2.2.1,z4.2.2.2.1,z4.2.2.2.2.1,z4.2.2.2.2.2.1,z4.2.2.2.2.2.2.1,()))) ((a2F z4.2.2.2.2.2.2.2.1).bind fun y5=>cond (y5.2 != 0) (some (.inl (z4.1,z4.2.1,z4.2.2.1,z4.2.2.2.1,z4.2.2.2.2.1,z4.2.2.2.2.2.1,z4.2.2.2.2.2.2.1,()))) ((show Option (LI×(Bool×(Int×(Int×(Int×(Bool×(Z4×(LI×(Z7×a1x×Z35)))))))))from(show Option (LI×(Bool×(Int×(Int×(Int×(Int×(Bool×(Bool×(Z4×(LI×(Z7×a1x×Z35)))))))))))from cond (decide ((wrap .i64 ((z4.2.2.2.2.1.length:Int)-1))≥0)) (cond ((decide (0≤(wrap .i64 ((z4.2.2.2.2.1.length:Int)-1))))&&(decide ((wrap .i64 ((z4.2.2.2.2.1.length:Int)-1))<(z4.2.2.2.2.1.length:Int)))) (some (z4.1,z4.2.1,z4.2.2.2.1,wrap .i64 ((z4.2.2.2.2.1.length:Int)-1),z4.2.2.2.2.2.2.2.1.1,z4.2.2.1,decide (z4.2.2.2.2.2.2.2.1.1<z4.2.2.1),(((a03 z4.2.2.2.2.1 (a00 (wrap .i64 ((z4.2.2.2.2.1.length:Int)-1))) (0,0,())).2).1)==z4.2.2.2.2.2.2.2.1.1,z4.2.2.2.2.1,z4.2.2.2.2.2.1,z4.2.2.2.2.2.2.1,z4.2.2.2.2.2.2.2.1,y5.1,())) none) (some (z4.1,z4.2.1,z4.2.2.2.1,wrap .i64 ((z4.2.2.2.2.1.length:Int)-1),z4.2.2.2.2.2.2.2.1.1,z4.2.2.1,decide (z4.2.2.2.2.2.2.2.1.1<z4.2.2.1),false,z4.2.2.2.2.1,z4.2.2.2.2.2.1,z4.2.2.2.2.2.2.1,z4.2.2.2.2.2.2.2.1,y5.1,()))).bind fun z6=>cond z6.2.2.2.2.2.2.2.1 (cond ((decide (0≤z6.2.2.2.1))&&(decide (z6.2.2.2.1<(z6.2.2.2.2.2.2.2.2.1.length:Int)))) (cond ((decide (0≤z6.2.2.2.1))&&(decide (z6.2.2.2.1<(z6.2.2.2.2.2.2.2.2.1.length:Int)))) (some (z6.1,z6.2.1,z6.2.2.1,z6.2.2.2.2.1,z6.2.2.2.2.2.1,z6.2.2.2.2.2.2.1,a05 z6.2.2.2.2.2.2.2.2.1 (a00 z6.2.2.2.1) ((a03 z6.2.2.2.2.2.2.2.2.1 (a00 z6.2.2.2.1) (0,0,())).1,wrap .i64 ((((a03 z6.2.2.2.2.2.2.2.2.1 (a00 z6.2.2.2.1) (0,0,())).2).1)+z6.2.2.2.2.2.2.2.2.2.2.2.1.2.1),((a03 z6.2.2.2.2.2.2.2.2.1 (a00 z6.2.2.2.1) (0,0,())).2).2),z6.2.2.2.2.2.2.2.2.2.1,z6.2.2.2.2.2.2.2.2.2.2.1,z6.2.2.2.2.2.2.2.2.2.2.2.1,z6.2.2.2.2.2.2.2.2.2.2.2.2.1,())) none) none) (cond (lim ((a01 z6.2.2.2.2.2.2.2.2.1)+1)) (some (z6.1,z6.2.1,z6.2.2.1,z6.2.2.2.2.1,z6.2.2.2.2.2.1,z6.2.2.2.2.2.2.1,a04 z6.2.2.2.2.2.2.2.2.1 ([(z6.2.2.2.2.2.2.2.2.2.2.2.1.1,wrap .i64 (z6.2.2.2.2.2.2.2.2.2.2.2.1.1+z6.2.2.2.2.2.2.2.2.2.2.2.1.2.1),())]:List (Int×Int×Unit)),z6.2.2.2.2.2.2.2.2.2.1,z6.2.2.2.2.2.2.2.2.2.2.1,z6.2.2.2.2.2.2.2.2.2.2.2.1,z6.2.2.2.2.2.2.2.2.2.2.2.2.1,())) none)).bind fun z7=>(a3v z7.2.2.2.2.2.2.2.2.2.2.1).bind fun y8=>cond (lim ((a01 z7.2.2.2.2.2.2.2.1)+(a01 y8))) (some (.inl (z7.1,z7.2.1,wrap .i64 (z7.2.2.2.2.2.2.2.2.2.1.1+z7.2.2.2.2.2.2.2.2.2.1.2.1),z7.2.2.1,z7.2.2.2.2.2.2.1,a04 z7.2.2.2.2.2.2.2.1 y8,z7.2.2.2.2.2.2.2.2.1,()))) none))))) none) (some (.inr (d,e,())))) s.1 s.2.2.1 s.2.2.2.1 s.2.2.2.2.1 s.2.2.2.2.2.1
def b0O(x:LI):Option (Z4×LI):=(a6z (x,0)).bind fun y1=>(y0s a1C (x,false,0,y1,[],[],(0,0,0,()),())).bind fun w9=>some (w9.1,w9.2.1)
def c2I:FSem:=⟨[.v QB],[.o Q5,.o QI],b0O⟩
def H23:Hints:=⟨[(506,[.sv 0 QB,.sv 7 .bool,8,9,.own 4 4 Q5,.own 5 5 QI,.box 6 Q14,Qp 6 6],[Qe 0 [.own 4 4 Q5,.own 5 5 QI]])],[(32407,[Qn [.sv 0 QB,.sv 7 .bool,8,9,.own 4 4 Q5,.own 5 5 QI,.box 6 Q14,.box 10 Q83,Qp 6 6,Qp 10 10]]),(518527,[Qn [.sv 0 QB,.sv 7 .bool,9,44,45,.sv 46 .bool,.own 4 4 Q5,.own 5 5 QI,.box 6 Q14,.box 10 Q83,.box 13 Q17,Qp 6 6,Qp 10 10,Qp 13 13,.ptr 43 10 [.fst]]]),(2074109,[Qn [.sv 0 QB,.sv 7 .bool,9,14,44,45,.sv 46 .bool,.sv 69 .bool,.own 4 4 Q5,.own 5 5 QI,.box 6 Q14,.box 10 Q83,.box 13 Q17,Qp 6 6,Qp 10 10,Qp 13 13,.ptr 43 10 [.fst]]])],[(11,[.q,.q,.v,.x]),(16,[.x,.x,.x,.q,.v,.q,.q,.q,.q,.q,.x,.x]),(17,[.q,.v,.q,.q,.q,.q,.q,.x,.x,.x,.x])]⟩
def b6p(x:Int):Option Int:=(show Option (Int×Bool×Unit)from cond (decide (x<1)) (some (x,true,())) (some (x,decide (x > 31),()))).bind fun z1=>cond z1.2.1 (some 0) (cond (decide ((wrap .u64 (wrap .i64 (z1.1-1)))<0)) none (some (A0n .i64 (-1) (wrap .u64 (wrap .i64 (z1.1-1))))))
def c8w:FSem:=⟨[.v QI],[.v QI],b6p⟩
def d7h:Hints:=⟨[],[(6,[Qn [0,.sv 8 .bool]])],[]⟩
def b4f(x:Int):Option Int:=(show Option (Int×Bool×Unit)from cond (decide (x<1)) (some (x,true,())) (some (x,decide (x > 31),()))).bind fun z1=>cond z1.2.1 (some 0) (cond (decide ((wrap .u64 (wrap .i64 (z1.1-1)))<0)) none (some (wrap .i64 ((A0n .i64 1 (wrap .u64 (wrap .i64 (z1.1-1))))-1))))
def c7s:FSem:=⟨[.v QI],[.v QI],b4f⟩
def d7i:Hints:=⟨[],[(6,[Qn [0,.sv 8 .bool]])],[]⟩
def a7P(x:(Int×Int)):Option Bool:=cond (decide (x.2≥1)) (cond (decide (x.2≤31)) ((b6p x.2).bind fun y1=>cond (decide (x.1≥y1)) ((b4f x.2).bind fun y2=>some (decide (x.1≤y2))) (some false)) (some false)) (some false)
def c7t:FSem:=⟨[.v QI,.v QI],[.v .bool],a7P⟩
def a5b(s:Z16):Option (Z16 ⊕ Z0):=cond (decide (s.2.1<(s.1.length:Int))) ((m0k s.1 s.2.1).bind fun x2=>(m0k s.1 0).bind fun x3=>cond ((x2.length:Int) != (x3.length:Int)) (some (.inr (Sum.inr ((false,()))))) (some (.inl (s.1,wrap .i64 (s.2.1+1),())))) (some (.inr (Sum.inl ())))
def a7s(x:(List LI)):Option Bool:=(show Option ((List LI)×(Bool×Unit))from cond (decide ((x.length:Int)<1)) (some (x,true,())) (some (x,decide ((x.length:Int) > 8),()))).bind fun z1=>cond z1.2.1 (some false) ((y0s a5b (z1.1,0,())).bind fun w4=>match w4 with |.inl a5=>some true |.inr b6=>some b6.1)
def c4q:FSem:=⟨[.v (.list false QL)],[.v .bool],a7s⟩
def d7j:Hints:=⟨[(58,[.sv 0 (.list false QL),3],[Qe 0 [],Qr [.sv 2 .bool]])],[(6,[Qn [.sv 0 (.list false QL),.sv 11 .bool]])],[(6,[.v,.v,.v,.v,.v,.v,.v,.v,.v,.x])]⟩
def a2A(s:Z80):Option (Z80 ⊕ (Z55 ⊕ (Bool×Unit))):=(fun(a b:Int)(c:Z14)=>(m0k c.2.1 a).bind fun x5=>cond (decide (b<(x5.length:Int))) ((m0k c.2.1 a).bind fun x6=>(m0k x6 b).bind fun x7=>(a7P (x7,c.1)).bind fun y8=>cond (!y8) (some (.inr (Sum.inr ((false,()))))) (some (.inl (a,wrap .i64 (b+1),c,())))) (some (.inr (Sum.inl (a,c,()))))) s.1 s.2.1 s.2.2.1
def a3B(s:Z55):Option (Z55 ⊕ Z0):=cond (decide (s.1<(s.2.1.2.1.length:Int))) ((y0s a2A (s.1,0,s.2.1,())).bind fun w9=>match w9 with |.inl a10=>some (.inl (wrap .i64 (a10.1+1),a10.2.1,())) |.inr b11=>some (.inr (Sum.inr ((b11.1,()))))) (some (.inr (Sum.inl ())))
def a5c(x:Z14):Option Bool:=(show Option Z65 from cond (decide (x.1<4)) (some (true,x,())) (cond (decide (x.1 > 24)) (some (true,x,())) ((a7s x.2.1).bind fun y1=>cond (!y1) (some (true,x,())) ((m0k x.2.1 0).bind fun x2=>cond (decide ((x2.length:Int)<1)) (some (true,x,())) ((m0k x.2.1 0).bind fun x3=>some (decide ((x3.length:Int) > 4096),x,())))))).bind fun z4=>cond z4.1 (some false) ((y0s a3B (0,z4.2.1,())).bind fun w12=>match w12 with |.inl a13=>some true |.inr b14=>some b14.1)
def b9b:FSem:=⟨[.v Q17],[.v .bool],a5c⟩
def d7k:Hints:=⟨[(58,[3,.vp 1 Q17],[Qe 0 [],Qr [.sv 2 .bool]]),(3730,[3,4,.vp 1 Q17],[Qe 2 [3,.vp 1 Q17],Qr [.sv 2 .bool]])],[(6,[Qn [.sv 34 .bool,.vp 1 Q17]])],[(9,[.v,.v,.v,.v,.v,.v,.v,.v,.v,.v,.x,.x])]⟩
def a8Z(x:Z7):Option Bool:=cond (decide (x.1≥1)) (cond (decide (x.1≤1048576)) (cond (decide (x.2.1≥1)) (cond (decide (x.2.1≤8)) (cond (decide (x.2.2.1≥4)) (some (decide (x.2.2.1≤24))) (some false)) (some false)) (some false)) (some false)) (some false)
def c4s:FSem:=⟨[.v Q14],[.v .bool],a8Z⟩
def a3V(s:Z84):Option (Z84 ⊕ Z0):=(fun(a:Z17)(b c:Int)=>cond (decide (c<(a.length:Int))) ((m0k a c).bind fun x2=>(show Option (Z17×Z10)from cond (decide (x2.1<0)) (some (a,b,c,true,())) (cond (decide (x2.1≥b)) (some (a,b,c,true,())) (cond (decide (x2.2.1<0)) (some (a,b,c,true,())) (cond (decide (x2.2.1≥b)) (some (a,b,c,true,())) (cond (x2.1==x2.2.1) (some (a,b,c,true,())) (cond (decide (x2.2.2.1<(-1024))) (some (a,b,c,true,())) (some (a,b,c,decide (x2.2.2.1 > 1024),())))))))).bind fun z3=>cond z3.2.2.2.1 (some (.inr (Sum.inr ((false,()))))) (some (.inl (z3.1,z3.2.1,wrap .i64 (z3.2.2.1+1),())))) (some (.inr (Sum.inl ())))) s.1 s.2.1 s.2.2.1
def a5M(x:(Z17×Int)):Option Bool:=(show Option (Z17×Int×Bool×Unit)from cond (decide (x.2<1)) (some (x.1,x.2,true,())) (cond (decide (x.2 > 8)) (some (x.1,x.2,true,())) (some (x.1,x.2,decide ((x.1.length:Int) > 16),())))).bind fun z1=>cond z1.2.2.1 (some false) ((y0s a3V (z1.1,z1.2.1,0,())).bind fun w4=>match w4 with |.inl a5=>some true |.inr b6=>some b6.1)
def c1p:FSem:=⟨[.v (.list false Q14),.v QI],[.v .bool],a5M⟩
def d7l:Hints:=⟨[(58,[.sv 0 (.list false Q14),1,5],[Qe 0 [],Qr [.sv 4 .bool]])],[(6,[Qn [.sv 0 (.list false Q14),1,.sv 17 .bool]]),(1865,[Qn [.sv 0 (.list false Q14),1,5,.sv 64 .bool]])],[]⟩
def a5N(x:a1x):Option Bool:=(a8Z x.2.2.1).bind fun y1=>cond y1 (cond (decide (x.2.1≥1)) (cond (decide (x.2.1≤4096)) (cond (decide (x.1≥0)) (cond (decide (x.1≤(wrap .i64 (4194304-x.2.1)))) ((a5M (x.2.2.2.1,x.2.2.1.2.1)).bind fun y2=>some y2) (some false)) (some false)) (some false)) (some false)) (some false)
def c1q:FSem:=⟨[.v Q83],[.v .bool],a5N⟩
def a3x(x:Int):Option Bool:=cond (decide (x≥2)) (some (decide (x≤5))) (some false)
def c1r:FSem:=⟨[.v QI],[.v .bool],a3x⟩
def a2Q(s:c5n):Option (c5n ⊕ Z0):=(fun(a:Int)=>cond (decide (a<(s.1.length:Int))) ((m0k s.1 a).bind fun x1=>(m0k s.2.1 a).bind fun x2=>cond (!(eqT Q5 x1 x2)) (some (.inr (Sum.inr ((false,()))))) (some (.inl (s.1,s.2.1,wrap .i64 (a+1),())))) (some (.inr (Sum.inl ())))) s.2.2.1
def a5v(x:(Z4×Z4)):Option Bool:=cond ((x.1.length:Int) != (x.2.length:Int)) (some false) ((y0s a2Q (x.1,x.2,0,())).bind fun w3=>match w3 with |.inl a4=>some true |.inr b5=>some b5.1)
def b6q:FSem:=⟨[.v (.list false Q5),.v (.list false Q5)],[.v .bool],a5v⟩
def d7m:Hints:=⟨[(58,[.sv 0 (.list false Q5),.sv 1 (.list false Q5),5],[Qe 0 [],Qr [.sv 4 .bool]])],[],[(6,[.v,.v,.v,.v,.v,.v,.v,.v,.x])]⟩
def a8F(x:(Z5×Z5)):Option Bool:=cond (x.1.1==x.2.1) ((a1A (x.1.2.1,x.2.2.1)).bind fun y1=>some y1) (some false)
def b9c:FSem:=⟨[.v Q13,.v Q13],[.v .bool],a8F⟩
def a7y(x:(a0W×a0W)):Option Bool:=cond (x.1.1==x.2.1) (cond (x.1.2.1==x.2.2.1) (cond (x.1.2.2.1==x.2.2.2.1) (cond (x.1.2.2.2.1==x.2.2.2.2.1) (cond (x.1.2.2.2.2.1==x.2.2.2.2.2.1) ((a1A (x.1.2.2.2.2.2.1,x.2.2.2.2.2.2.1)).bind fun y1=>cond y1 (cond (eqT (.arr 3 (.int .i64)) x.1.2.2.2.2.2.2.1 x.2.2.2.2.2.2.2.1) ((a5v (x.1.2.2.2.2.2.2.2.1,x.2.2.2.2.2.2.2.2.1)).bind fun y2=>cond y2 ((a1A (x.1.2.2.2.2.2.2.2.2.1,x.2.2.2.2.2.2.2.2.2.1)).bind fun y3=>cond y3 ((a8F (x.1.2.2.2.2.2.2.2.2.2.1,x.2.2.2.2.2.2.2.2.2.2.1)).bind fun y4=>cond y4 ((a1A (x.1.2.2.2.2.2.2.2.2.2.2.1,x.2.2.2.2.2.2.2.2.2.2.2.1)).bind fun y5=>some y5) (some false)) (some false)) (some false)) (some false)) (some false)) (some false)) (some false)) (some false)) (some false)) (some false)
def c1s:FSem:=⟨[.v Q61,.v Q61],[.v .bool],a7y⟩
def a2b(x:Int):Option Bool:=cond (decide (x≥(-1073741824))) (some (decide (x<1073741824))) (some false)
def c7u:FSem:=⟨[.v QI],[.v .bool],a2b⟩
def a4o(s:Z6):Option (Z6 ⊕ Z0):=cond (decide (s.2.1<(s.1.length:Int))) ((m0k s.1 s.2.1).bind fun x1=>(a2b x1).bind fun y2=>cond (!y2) (some (.inr (Sum.inr ((false,()))))) (some (.inl (s.1,wrap .i64 (s.2.1+1),())))) (some (.inr (Sum.inl ())))
def a1u(x:LI):Option Bool:=(y0s a4o (x,0,())).bind fun w3=>match w3 with |.inl a4=>some true |.inr b5=>some b5.1
def c2J:FSem:=⟨[.v QL],[.v .bool],a1u⟩
def d7n:Hints:=⟨[(26,[.sv 0 QL,3],[Qe 0 [],Qr [.sv 2 .bool]])],[],[]⟩
def a9a(x:a0W):Option a0W:=cond (x.1==0) (some (x.1,0,0,0,0,[],a02 3 0,[],x.2.2.2.2.2.2.2.2.1,(0,[],()),[],())) (cond (x.1==1) (some (x.1,x.2.1,0,0,0,[],a02 3 0,[],x.2.2.2.2.2.2.2.2.1,(0,[],()),[],())) ((show Option b0E from cond (x.1==2) (some ((0,0,0,0,0,[],a02 3 0,[],[],(0,[],()),[],()),(x.1,x.2.1,x.2.2.1,0,0,[],a02 3 0,[],x.2.2.2.2.2.2.2.2.1,x.2.2.2.2.2.2.2.2.2.1,x.2.2.2.2.2.2.2.2.2.2.1,()),())) (cond (x.1==3) (some ((0,0,0,0,0,[],a02 3 0,[],[],(0,[],()),[],()),(x.1,x.2.1,0,x.2.2.2.1,0,x.2.2.2.2.2.1,a02 3 0,[],x.2.2.2.2.2.2.2.2.1,x.2.2.2.2.2.2.2.2.2.1,x.2.2.2.2.2.2.2.2.2.2.1,()),())) (cond (x.1==4) (some ((0,0,0,0,0,[],a02 3 0,[],[],(0,[],()),[],()),(x.1,x.2.1,0,x.2.2.2.1,x.2.2.2.2.1,x.2.2.2.2.2.1,x.2.2.2.2.2.2.1,[],x.2.2.2.2.2.2.2.2.1,x.2.2.2.2.2.2.2.2.2.1,x.2.2.2.2.2.2.2.2.2.2.1,()),())) (cond (x.1==5) (some ((0,0,0,0,0,[],a02 3 0,[],[],(0,[],()),[],()),(x.1,x.2.1,0,0,0,[],a02 3 0,x.2.2.2.2.2.2.2.1,[],x.2.2.2.2.2.2.2.2.2.1,x.2.2.2.2.2.2.2.2.2.2.1,()),())) (some ((0,0,0,0,0,[],a02 3 0,[],[],(0,[],()),[],()),(x.1,x.2.1,0,0,0,[],a02 3 0,[],x.2.2.2.2.2.2.2.2.1,x.2.2.2.2.2.2.2.2.2.1,x.2.2.2.2.2.2.2.2.2.2.1,()),())))))).bind fun z1=>some z1.2.1))
def c4t:FSem:=⟨[.v Q61],[.v Q61],a9a⟩
def d7o:Hints:=⟨[],[(127,[Qn [.box 2 Q61,.box 3 Q61,Qp 2 2,Qp 3 3]])],[(7,[.v,.v,.v,.v,.q,.w [0,3],.x,.x]),(12,[.v,.v,.v,.v,.q,.w [0,3],.x,.x]),(14,[.v,.v,.v,.v,.v,.v,.v,.v,.q,.w [0,3],.q,.w [0,3],.q,.w [0,3],.x,.x])]⟩
def a3i(s:Z18):Option (Z18 ⊕ (Z6 ⊕ (Bool×Unit))):=(fun(a:LI)(b c:Int)=>cond (decide (c<(a.length:Int))) ((show Option Z40 from(m0k a c).bind fun x1=>cond (decide (x1<(-32768))) (some (a,b,c,true,())) ((m0k a c).bind fun x2=>some (a,b,c,decide (x2≥32768),()))).bind fun z3=>cond z3.2.2.2.1 (some (.inr (Sum.inr ((false,()))))) (some (.inl (z3.1,z3.2.1,wrap .i64 (z3.2.2.1+1),())))) (some (.inr (Sum.inl (a,b,()))))) s.1 s.2.1 s.2.2.1
def a3p(x:(LI×Int)):Option Bool:=(y0s a3i (x.1,x.2,0,())).bind fun w4=>match w4 with |.inl a5=>(cond (decide ((a5.1.length:Int)≥1)) (cond (decide ((a5.1.length:Int)≤32)) (cond (decide (a5.2.1≥0)) (some (decide (a5.2.1≤15))) (some false)) (some false)) (some false)) |.inr b6=>some b6.1
def b7r:FSem:=⟨[.v QL,.v QI],[.v .bool],a3p⟩
def d7p:Hints:=⟨[(26,[.sv 0 QL,1,5],[Qe 0 [.sv 0 QL,1],Qr [.sv 4 .bool]])],[(420,[Qn [.sv 0 QL,1,5,.sv 23 .bool]])],[]⟩
def a3W(s:Z19):Option (Z19 ⊕ ((Int×Unit) ⊕ (Bool×Unit))):=(fun(a:Int)(b:LI)=>cond (decide (a<3)) ((show Option Z41 from(m0k b a).bind fun x1=>cond (decide (x1<(-64))) (some (s.1,a,true,b,())) ((m0k b a).bind fun x2=>some (s.1,a,decide (x2 > 64),b,()))).bind fun z3=>cond z3.2.2.1 (some (.inr (Sum.inr ((false,()))))) (some (.inl (z3.1,wrap .i64 (z3.2.1+1),z3.2.2.2.1,())))) (some (.inr (Sum.inl (s.1,()))))) s.2.1 s.2.2.1
def a5O(x:(Int×LI)):Option Bool:=(y0s a3W (x.1,0,x.2,())).bind fun w4=>match w4 with |.inl a5=>(cond (decide (a5.1≥2)) (some (decide (a5.1≤1024))) (some false)) |.inr b6=>some b6.1
def c1t:FSem:=⟨[.v QI,.v (.arr 3 QI)],[.v .bool],a5O⟩
def d7q:Hints:=⟨[(26,[0,5,.vp 3 (.arr 3 QI)],[Qe 0 [0],Qr [.sv 4 .bool]])],[(420,[Qn [0,5,.sv 19 .bool,.vp 3 (.arr 3 QI)]])],[]⟩
def a5d(x:(Int×Int×Unit)):Option Bool:=cond (decide (x.1≥1)) (cond (decide (x.1≤32)) (cond (decide (x.2.1≥0)) (some (decide (x.2.1≤8))) (some false)) (some false)) (some false)
def b9d:FSem:=⟨[.v Q5],[.v .bool],a5d⟩
def a3C(s:Z45):Option (Z45 ⊕ ((Z4×Unit) ⊕ (Bool×Unit))):=cond (decide (s.2.1<(s.1.length:Int))) ((m0k s.1 s.2.1).bind fun x1=>(a5d x1).bind fun y2=>cond (!y2) (some (.inr (Sum.inr ((false,()))))) (some (.inl (s.1,wrap .i64 (s.2.1+1),())))) (some (.inr (Sum.inl (s.1,()))))
def a5e(x:Z4):Option Bool:=(y0s a3C (x,0,())).bind fun w3=>match w3 with |.inl a4=>some (decide ((a4.1.length:Int)≤3)) |.inr b5=>some b5.1
def b9e:FSem:=⟨[.v (.list false Q5)],[.v .bool],a5e⟩
def d7r:Hints:=⟨[(26,[.sv 0 (.list false Q5),3],[Qe 0 [.sv 0 (.list false Q5)],Qr [.sv 2 .bool]])],[],[]⟩
def a5Y(x:a7S):Option Int:=cond (x.1.1==0) (some 1) (cond (x.1.1==1) (some x.2) (cond (x.1.1==2) ((show Option c5u from cond (decide (x.1.2.2.1≥0)) (cond (decide (x.1.2.2.1≤4)) (some (decide (x.1.2.2.1≤x.2),x.1,())) (some (false,x.1,()))) (some (false,x.1,()))).bind fun z1=>cond z1.1 (some z1.2.1.2.2.1) (some (-1))) ((show Option c5w from cond (x.1.1==3) (some (x.2,x.1.1,x.1.1==3,x.1,())) (some (x.2,x.1.1,x.1.1==4,x.1,()))).bind fun z2=>cond z2.2.2.1 ((show Option c5u from(a3p (z2.2.2.2.1.2.2.2.2.2.1,z2.2.2.2.1.2.2.2.1)).bind fun y3=>cond y3 (cond (decide ((z2.2.2.2.1.2.2.2.2.2.1.length:Int)≤z2.1)) (cond (z2.2.2.2.1.1==3) (some (true,z2.2.2.2.1,())) ((a5O (z2.2.2.2.1.2.2.2.2.1,z2.2.2.2.1.2.2.2.2.2.2.1)).bind fun y4=>some (y4,z2.2.2.2.1,()))) (some (false,z2.2.2.2.1,()))) (some (false,z2.2.2.2.1,()))).bind fun z5=>cond z5.1 (some (z5.2.1.2.2.2.2.2.1.length:Int)) (some (-1))) (cond (z2.2.1==5) ((show Option (Bool×Unit)from cond (decide ((z2.2.2.2.1.2.2.2.2.2.2.2.1.length:Int) > 0)) ((a5e z2.2.2.2.1.2.2.2.2.2.2.2.1).bind fun y6=>some (y6,())) (some (false,()))).bind fun z7=>cond z7.1 (some 0) (some (-1))) (some (-1))))))
def c4u:FSem:=⟨[.v Q61,.v QI],[.v QI],a5Y⟩
def d7s:Hints:=⟨[],[(1726,[Qn [.sv 27 .bool,.vp 2 Q61]]),(1727,[Qn [1,6,.sv 30 .bool,.vp 2 Q61]]),(6910,[Qn [.sv 56 .bool,.vp 2 Q61]]),(27646,[Qn [.sv 70 .bool]])],[]⟩
def b0P(x:(Int×Int)):Option Bool:=cond (decide (x.1≥1)) (cond (decide (x.1≤4096)) (cond (decide (x.2≥0)) (some (decide (x.2≤x.1))) (some false)) (some false)) (some false)
def c8x:FSem:=⟨[.v QI,.v QI],[.v .bool],b0P⟩
def a4p(s:Z63):Option (Z63 ⊕ Z5):=(fun(a b c:Int)(d:LI)=>cond (decide ((wrap .u64 a)<0)) none (cond (decide (c<(A0n .i64 1 (wrap .u64 a)))) (cond (decide ((wrap .u64 a)<0)) none (cond (lim ((a01 d)+1)) (some (.inl (a,s.2.1,b,wrap .i64 (c+1),a04 d [A0o .i64 s.2.1 (wrap .u64 a)],()))) none)) (some (.inr (b,d,()))))) s.1 s.2.2.1 s.2.2.2.1 s.2.2.2.2.1
def a2u(x:(Int×Int×Int)):Option LI:=(show Option Z28 from(b0P (x.2.1,x.2.2)).bind fun y1=>cond (!y1) (some (x.1,x.2.1,x.2.2,true,())) (cond (decide (x.1<0)) (some (x.1,x.2.1,x.2.2,true,())) (cond (decide (x.1 > 8)) (some (x.1,x.2.1,x.2.2,true,())) (cond (decide ((wrap .u64 x.1)<0)) none (cond ((A0n .i64 1 (wrap .u64 x.1))==0) none (cond ((a07 x.2.1 (A0n .i64 1 (wrap .u64 x.1))) != 0) (some (x.1,x.2.1,x.2.2,true,())) (cond (decide ((wrap .u64 x.1)<0)) none (some (x.1,x.2.1,x.2.2,decide ((A0o .i64 x.2.1 (wrap .u64 x.1))<x.2.2),()))))))))).bind fun z2=>cond z2.2.2.2.1 (some []) ((y0s a4p (z2.1,z2.2.1,z2.2.2.1,0,[],())).bind fun w3=>cond (decide (0<(w3.2.1.length:Int))) (cond (decide (0<(w3.2.1.length:Int))) (some (a05 w3.2.1 0 (wrap .i64 ((a03 w3.2.1 0 0)-w3.1)))) none) none)
def b7s:FSem:=⟨[.v QI,.v QI,.v QI],[.o QI],a2u⟩
def d7t:Hints:=⟨[(122,[0,1,2,8,.own 7 7 QI],[Qe 0 [2,.own 7 7 QI]])],[(6,[Qn [0,1,2,.sv 36 .bool]])],[]⟩
def a1b(x:Int):Option Bool:=cond (decide (x≥0)) (some (decide (x≤25))) (some false)
def b9f:FSem:=⟨[.v QI],[.v .bool],a1b⟩
def a2V(s:(Int×Z22)):Option ((Int×Z22) ⊕ Z0):=cond (decide (s.1<(s.2.1.2.1.length:Int))) ((show Option (Int×Z47)from(m0k s.2.1.2.1 s.1).bind fun x3=>(a1b x3).bind fun y4=>cond (!y4) ((m0k s.2.1.2.1 s.1).bind fun x5=>some (s.1,x5 != 31,s.2.1,())) (some (s.1,false,s.2.1,()))).bind fun z6=>cond z6.2.1 (some (.inr (Sum.inr ((false,()))))) (some (.inl (wrap .i64 (z6.1+1),z6.2.2.1,())))) (some (.inr (Sum.inl ())))
def a4g(x:(Z5×Int×Int)):Option Bool:=(a2u (x.1.1,x.2.1,x.2.2)).bind fun y1=>(show Option Z47 from cond ((y1.length:Int)==0) (some (true,x.1,())) (some ((y1.length:Int) != (x.1.2.1.length:Int),x.1,()))).bind fun z2=>cond z2.1 (some false) ((y0s a2V (0,z2.2.1,())).bind fun w7=>match w7 with |.inl a8=>some true |.inr b9=>some b9.1)
def c1u:FSem:=⟨[.v Q13,.v QI,.v QI],[.v .bool],a4g⟩
def d7u:Hints:=⟨[(122,[8,.vp 3 Q13],[Qe 0 [],Qr [.sv 6 .bool]])],[(14,[Qn [.sv 24 .bool,.vp 3 Q13]]),(1956,[Qn [8,.sv 46 .bool,.vp 3 Q13]])],[]⟩
def b0Q(x:Int):Option LI:=cond ((decide (0≤x))&&(decide (x<5))) (some (a03 ([[],[1],[2,(-1)],[3,(-3),1],[4,(-6),4,(-1)]]:List LI) (a00 x) [])) none
def c2K:FSem:=⟨[.v QI],[.v QL],b0Q⟩
def a3j(s:(LI×(Int×Z79))):Option ((LI×(Int×Z79)) ⊕ (LI×Z74)):=(fun(a:Int)(b:LI)(c d e:Int)(f:LI)=>cond (decide (e<a)) ((m0k b e).bind fun x7=>cond ((decide (0≤(wrap .i64 ((wrap .i64 ((f.length:Int)-1))-e))))&&(decide ((wrap .i64 ((wrap .i64 ((f.length:Int)-1))-e))<(f.length:Int)))) (some (.inl (s.1,a,b,c,wrap .i64 (d+(wrap .i64 (x7*(a03 f (a00 (wrap .i64 ((wrap .i64 ((f.length:Int)-1))-e))) 0)))),wrap .i64 (e+1),f,()))) none) (some (.inr (s.1,a,b,c,d,f,())))) s.2.1 s.2.2.1 s.2.2.2.1 s.2.2.2.2.1 s.2.2.2.2.2.1 s.2.2.2.2.2.2.1
def a4q(s:(LI×(Int×Z31))):Option ((LI×(Int×Z31)) ⊕ Z57):=(fun(a:Int)(b:LI)=>cond (decide (a<(s.1.length:Int))) ((m0k s.1 a).bind fun x6=>(y0s a3j (s.1,s.2.1,s.2.2.1,a,x6,0,b,())).bind fun w8=>(a2b w8.2.2.2.2.1).bind fun y9=>cond (!y9) (some (.inr (Sum.inr ((6,[],()))))) (cond (lim ((a01 w8.2.2.2.2.2.1)+1)) (some (.inl (w8.1,w8.2.1,w8.2.2.1,wrap .i64 (w8.2.2.2.1+1),a04 w8.2.2.2.2.2.1 [w8.2.2.2.2.1],()))) none)) (some (.inr (Sum.inl (b,()))))) s.2.2.2.1 s.2.2.2.2.1
def a6j(x:Z12):Option (LI×Int):=(show Option Z58 from cond (decide (x.2.2<0)) (some (x.1,x.2.1,x.2.2,true,())) (cond (decide (x.2.2 > 4)) (some (x.1,x.2.1,x.2.2,true,())) (some (x.1,x.2.1,x.2.2,(x.1.length:Int) != x.2.2,())))).bind fun z1=>cond z1.2.2.2.1 (some ([],1)) ((show Option Z58 from(a1u z1.1).bind fun y2=>cond (!y2) (some (z1.1,z1.2.1,z1.2.2.1,true,())) ((a1u z1.2.1).bind fun y3=>some (z1.1,z1.2.1,z1.2.2.1,!y3,()))).bind fun z4=>cond z4.2.2.2.1 (some ([],6)) (cond (lim (0+(a01 z4.1))) ((b0Q z4.2.2.1).bind fun y5=>(y0s a4q (z4.2.1,z4.2.2.1,y5,0,a04 [] z4.1,())).bind fun w10=>match w10 with |.inl a11=>some (a11.1,0) |.inr b12=>some (b12.2.1,b12.1)) none))
def b7t:FSem:=⟨[.v QL,.v QL,.v QI],[.o QI,.v QI],a6j⟩
def d7v:Hints:=⟨[(250,[.sv 1 QL,2,.sv 9 QL,10,.own 8 8 QI],[Qe 0 [.own 8 8 QI],Qr [7,.own 6 6 QI]]),(64074,[.sv 1 QL,2,.sv 9 QL,10,11,12,.own 8 8 QI],[Qe 2 [.sv 1 QL,2,.sv 9 QL,10,11,.own 8 8 QI]])],[(6,[Qn [.sv 0 QL,.sv 1 QL,2,.sv 24 .bool]]),(14,[Qn [.sv 0 QL,.sv 1 QL,2,.sv 32 .bool]])],[(13,[.v,.v,.v,.v,.v,.q,.q,.q,.v,.v,.v,.q,.q,.v,.x,.x])]⟩
def a2v(s:Z77):Option (Z77 ⊕ ((Int×Int×Unit) ⊕ (Int×Unit))):=(fun(a b:LI)(c d e:Int)=>cond (decide (e<(b.length:Int))) (cond (decide (e<(a.length:Int))) ((m0k a (wrap .i64 ((wrap .i64 ((a.length:Int)-1))-e))).bind fun x2=>(a2b x2).bind fun y3=>cond (!y3) (some (.inr (Sum.inr ((0,()))))) ((m0k b e).bind fun x4=>some (.inl (a,b,c,wrap .i64 (d+(wrap .i64 (x4*x2))),wrap .i64 (e+1),())))) (some (.inr (Sum.inl (c,d,()))))) (some (.inr (Sum.inl (c,d,()))))) s.1 s.2.1 s.2.2.1 s.2.2.2.1 s.2.2.2.2.1
def a4N(x:Z12):Option Int:=(a3p (x.2.1,x.2.2)).bind fun y1=>cond (!y1) (some 0) ((y0s a2v (x.1,x.2.1,x.2.2,0,0,())).bind fun w5=>match w5 with |.inl a6=>(cond (decide ((wrap .u64 a6.1)<0)) none (some (A0o .i64 a6.2.1 (wrap .u64 a6.1)))) |.inr b7=>some b7.1)
def b5p:FSem:=⟨[.v QL,.v QL,.v QI],[.v QI],a4N⟩
def d7w:Hints:=⟨[(122,[.sv 0 QL,.sv 1 QL,2,7,8],[Qe 0 [2,7],Qr [6]])],[],[]⟩
def a4b(s:Z92):Option (Z92 ⊕ Z57):=(fun(a b:Int)(c:LI)=>cond (decide (b<(s.1.length:Int))) ((m0k s.1 b).bind fun x6=>(a4N (c,s.2.1,a)).bind fun y7=>(a2b (wrap .i64 (x6+y7))).bind fun y8=>cond (!y8) (some (.inr (Sum.inr ((6,[],()))))) (cond (lim ((a01 c)+1)) (some (.inl (s.1,s.2.1,a,wrap .i64 (b+1),a04 c [wrap .i64 (x6+y7)],()))) none)) (some (.inr (Sum.inl (c,()))))) s.2.2.1 s.2.2.2.1 s.2.2.2.2.1
def a3X(x:(LI×Z12)):Option (LI×Int):=(show Option Z95 from(a3p (x.2.2.1,x.2.2.2)).bind fun y1=>cond (!y1) (some (x.1,x.2.1,x.2.2.1,x.2.2.2,true,())) (some (x.1,x.2.1,x.2.2.1,x.2.2.2,(x.1.length:Int) != (x.2.2.1.length:Int),()))).bind fun z2=>cond z2.2.2.2.2.1 (some ([],1)) ((show Option Z95 from(a1u z2.1).bind fun y3=>cond (!y3) (some (z2.1,z2.2.1,z2.2.2.1,z2.2.2.2.1,true,())) ((a1u z2.2.1).bind fun y4=>some (z2.1,z2.2.1,z2.2.2.1,z2.2.2.2.1,!y4,()))).bind fun z5=>cond z5.2.2.2.2.1 (some ([],6)) (cond (lim (0+(a01 z5.1))) ((y0s a4b (z5.2.1,z5.2.2.1,z5.2.2.2.1,0,a04 [] z5.1,())).bind fun w9=>match w9 with |.inl a10=>some (a10.1,0) |.inr b11=>some (b11.2.1,b11.1)) none))
def b6r:FSem:=⟨[.v QL,.v QL,.v QL,.v QI],[.o QI,.v QI],a3X⟩
def d7x:Hints:=⟨[(250,[.sv 1 QL,.sv 2 QL,3,11,.own 10 10 QI],[Qe 0 [.own 10 10 QI],Qr [9,.own 8 8 QI]])],[(6,[Qn [.sv 0 QL,.sv 1 QL,.sv 2 QL,3,.sv 23 .bool]]),(14,[Qn [.sv 0 QL,.sv 1 QL,.sv 2 QL,3,.sv 31 .bool]])],[(9,[.v,.v,.v,.v,.q,.v,.v,.q,.x,.x])]⟩
def a3k(s:Z79):Option (Z79 ⊕ (Int×Unit)):=(fun(a:LI)(b c d:Int)(e:LI)=>cond (decide (d<3)) (cond (decide ((wrap .i64 ((wrap .i64 ((wrap .i64 ((a.length:Int)-b))-1))+d))≥0)) ((m0k e d).bind fun x1=>(m0k a (wrap .i64 ((wrap .i64 ((wrap .i64 ((a.length:Int)-b))-1))+d))).bind fun x2=>some (.inl (a,b,wrap .i64 (c+(wrap .i64 (x1*x2))),wrap .i64 (d+1),e,()))) (some (.inl (a,b,c,wrap .i64 (d+1),e,())))) (some (.inr (c,())))) s.1 s.2.1 s.2.2.1 s.2.2.2.1 s.2.2.2.2.1
def a6k(x:Z13):Option Int:=(y0s a3k (x.1,x.2.1,0,0,x.2.2,())).bind fun w3=>some (A0o .i64 w3.1 6)
def b7u:FSem:=⟨[.v QL,.v QI,.v (.arr 3 QI)],[.v QI],a6k⟩
def d7y:Hints:=⟨[(58,[.sv 0 QL,1,7,8,.vp 5 (.arr 3 QI)],[Qe 0 [7]])],[],[(7,[.v,.v,.v,.v,.v,.v,.v,.v,.v,.x,.x])]⟩
def a4O(s:Z90):Option (Z90 ⊕ Z57):=(fun(a:Int)(b c:LI)=>cond (decide (a<(s.1.length:Int))) ((m0k s.1 a).bind fun x3=>(a6k (b,s.2.1,c)).bind fun y4=>(a2b (wrap .i64 (x3+y4))).bind fun y5=>cond (!y5) (some (.inr (Sum.inr ((6,[],()))))) (cond (lim ((a01 b)+1)) (some (.inl (s.1,s.2.1,wrap .i64 (a+1),a04 b [wrap .i64 (x3+y4)],c,()))) none)) (some (.inr (Sum.inl (b,()))))) s.2.2.1 s.2.2.2.1 s.2.2.2.2.1
def a6T(x:Z13):Option (LI×Int):=(a5O (x.2.1,x.2.2)).bind fun y1=>cond (!y1) (some ([],1)) ((a1u x.1).bind fun y2=>cond (!y2) (some ([],6)) ((y0s a4O (x.1,x.2.1,0,[],x.2.2,())).bind fun w6=>match w6 with |.inl a7=>some (a7.1,0) |.inr b8=>some (b8.2.1,b8.1)))
def b9g:FSem:=⟨[.v QL,.v QI,.v (.arr 3 QI)],[.o QI,.v QI],a6T⟩
def d7z:Hints:=⟨[(250,[.sv 0 QL,1,9,.own 8 8 QI,.vp 5 (.arr 3 QI)],[Qe 0 [.own 8 8 QI],Qr [7,.own 6 6 QI]])],[],[(9,[.v,.v,.v,.v,.q,.v,.v,.q,.x,.x])]⟩
def a6l(x:(Int×Int×Unit)):Option Z51:=(a5d x).bind fun y1=>cond (!y1) none (cond ((decide (0≤x.1))&&((decide (x.1≤x.1))&&(lim (a00 x.1)))) (cond ((decide (0≤x.1))&&((decide (x.1≤x.1))&&(lim (a00 x.1)))) (some ((x.2.1,a02 (a00 x.1) 0,a02 (a00 x.1) 0,()),0)) none) none)
def b7v:FSem:=⟨[.v Q5],[.b Q19,.v QI],a6l⟩
def d7A:Hints:=⟨[],[],[(3,[.v,.v,.v,.v,.q,.v,.v,.q,.x,.x,.x,.x])]⟩
def a8f(x:Int):Option Int:=some (v0s (v0r x (-1073741824)) 1073741823)
def c5W:FSem:=⟨[.v QI],[.v QI],a8f⟩
def a3q(s:Z99):Option (Z99 ⊕ Z81):=(fun(a:Int)(b:Z30)=>cond (decide (a<(b.2.1.length:Int))) (cond ((decide (0≤a))&&(decide (a<(b.2.1.length:Int)))) (cond ((decide (0≤a))&&(decide (a<(b.2.2.1.length:Int)))) (some (.inl (wrap .i64 (s.1+(wrap .i64 ((a03 b.2.1 (a00 a) 0)*(a03 b.2.2.1 (a00 a) 0)))),wrap .i64 (a+1),b,()))) none) none) (some (.inr (s.1,b,())))) s.2.1 s.2.2.1
def a3l(x:Z30):Option Z50:=(y0s a3q (0,0,x,())).bind fun w1=>(a8f (A0o .i64 w1.1 16)).bind fun y2=>some (y2,w1.2.1)
def b4g:FSem:=⟨[.r false (.b Q19)],[.v QI],a3l⟩
def d7B:Hints:=⟨[(58,[3,4,.box pinned Q19,Qp 0 pinned],[Qe 0 [3,.box pinned Q19]])],[],[(5,[.v,.p,.p,.q,.q,.v,.q,.q,.p,.p,.q,.q,.v,.q,.q,.v,.x,.x])]⟩
def a8g(x:Int):Option Int:=cond (decide (x > 0)) (some 1) (cond (decide (x<0)) (some (-1)) (some 0))
def c5X:FSem:=⟨[.v QI],[.v QI],a8g⟩
def a2w(s:(Int×(Int×(Int×(LI×Z96))))):Option ((Int×(Int×(Int×(LI×Z96)))) ⊕ (Int×(LI×Z96))):=(fun(a:Int)(b c:LI)(d:Z30)=>cond (decide (a<(d.2.1.length:Int))) (cond ((decide (0≤a))&&(decide (a<(d.2.1.length:Int)))) (cond ((decide (0≤a))&&(decide (a<(d.2.2.1.length:Int)))) ((a8g (a03 d.2.2.1 (a00 a) 0)).bind fun y4=>cond (decide ((wrap .u64 d.1)<0)) none (cond (lim ((a01 b)+1)) (some (.inl (s.1,s.2.1,wrap .i64 (a+1),a04 b [v0s (v0r (wrap .i64 ((a03 d.2.1 (a00 a) 0)+(A0n .i64 (wrap .i64 (s.2.1*y4)) (wrap .u64 d.1)))) (-1048576)) 1048576],c,d,()))) none)) none) none) (some (.inr (s.1,b,c,d,())))) s.2.2.1 s.2.2.2.1 s.2.2.2.2.1 s.2.2.2.2.2.1
def a4P(x:Z51):Option Z30:=(a8f x.2).bind fun y1=>(a3l x.1).bind fun y2=>(a8g (wrap .i64 (y1-y2.1))).bind fun y3=>(y0s a2w (y1,y3,0,[],[],y2.2,())).bind fun w5=>cond (lim ((a01 w5.2.2.1)+1)) (cond ((decide (0≤(wrap .i64 ((w5.2.2.2.1.2.2.1.length:Int)-1))))&&(decide ((wrap .i64 ((w5.2.2.2.1.2.2.1.length:Int)-1))≤(w5.2.2.2.1.2.2.1.length:Int)))) (cond (lim ((a01 (a04 w5.2.2.1 [w5.1]))+(a01 (a06 (a00 (wrap .i64 ((w5.2.2.2.1.2.2.1.length:Int)-1))) (a09 0 w5.2.2.2.1.2.2.1))))) (some (w5.2.2.2.1.1,w5.2.1,a04 (a04 w5.2.2.1 [w5.1]) (a06 (a00 (wrap .i64 ((w5.2.2.2.1.2.2.1.length:Int)-1))) (a09 0 w5.2.2.2.1.2.2.1)),w5.2.2.2.1.2.2.2)) none) none) none
def b5q:FSem:=⟨[.r false (.b Q19),.v QI],[],a4P⟩
def d7C:Hints:=⟨[(122,[1,4,7,.own 5 5 QI,.own 6 6 QI,.box pinned Q19,Qp 0 pinned],[Qe 0 [1,.own 5 5 QI,.own 6 6 QI,.box pinned Q19,Qp 0 pinned]])],[],[(6,[.q,.p,.p,.q,.q,.v,.q,.q,.v,.p,.p,.q,.q,.v,.q,.q,.v,.v,.p,.p,.q,.q,.v,.v,.v,.v,.v,.q,.x,.x]),(7,[.q,.v,.q,.w [6,55,56],.p,.p,.r [59,pinned],.r [60,pinned],.p,.p,.r [63,pinned],.r [64,pinned],.r [65,pinned],.v,.r [67,pinned],.x,.x])]⟩
def a3m(s:(Z4×c5o)):Option ((Z4×c5o) ⊕ ((Z4×Z5) ⊕ Z5)):=(fun(a:Int)(b:LI)=>cond (decide (a<(b.length:Int))) (cond ((decide (0≤a))&&(decide (a<(b.length:Int)))) ((a3l s.2.2.2.2.1).bind fun y5=>(a2b (wrap .i64 ((a03 b (a00 a) 0)+y5.1))).bind fun y6=>cond (!y6) (some (.inr (Sum.inr ((6,[],()))))) (cond ((decide (0≤a))&&(decide (a<(b.length:Int)))) ((a4P (y5.2,wrap .i64 ((a03 b (a00 a) 0)+y5.1))).bind fun y7=>some (.inl (s.1,s.2.1,wrap .i64 (a+1),a05 b (a00 a) (wrap .i64 ((a03 b (a00 a) 0)+y5.1)),y7,()))) none)) none) (some (.inr (Sum.inl (s.1,s.2.1,b,()))))) s.2.2.1 s.2.2.2.1
def a4r(s:(Z4×Z5)):Option ((Z4×Z5) ⊕ Z57):=cond (decide (s.2.1≥0)) ((m0k s.1 s.2.1).bind fun x3=>(a6l x3).bind fun y4=>(y0s a3m (s.1,s.2.1,0,s.2.2.1,y4.1,())).bind fun w8=>match w8 with |.inl a9=>some (.inl (a9.1,wrap .i64 (a9.2.1-1),a9.2.2.1,())) |.inr b10=>some (.inr (Sum.inr ((b10.1,b10.2.1,()))))) (some (.inr (Sum.inl (s.2.2.1,()))))
def a6m(x:(LI×Z4)):Option (LI×Int):=(a5e x.2).bind fun y1=>cond (!y1) (some ([],1)) ((a1u x.1).bind fun y2=>cond (!y2) (some ([],6)) (cond (lim (0+(a01 x.1))) ((y0s a4r (x.2,wrap .i64 ((x.2.length:Int)-1),a04 [] x.1,())).bind fun w11=>match w11 with |.inl a12=>some (a12.1,0) |.inr b13=>some (b13.2.1,b13.1)) none))
def b7w:FSem:=⟨[.v QL,.v (.list false Q5)],[.o QI,.v QI],a6m⟩
def d7D:Hints:=⟨[(250,[.sv 1 (.list false Q5),7,.own 6 6 QI],[Qe 0 [.own 6 6 QI],Qr [5,.own 4 4 QI]]),(32038,[.sv 1 (.list false Q5),7,10,.own 6 6 QI,.box 1033 Q19,Qp 8 1033],[Qe 2 [.sv 1 (.list false Q5),7,.own 6 6 QI],Qr [5,.own 4 4 QI]])],[],[(13,[.r [6,42],.v,.r [6,44],.r [6,45],.q,.w [47,1033,1047],.x,.x])]⟩
def a9R(x:a0W):Option (LI×Int):=cond (x.1==2) ((a6j (x.2.2.2.2.2.2.2.2.1,x.2.2.2.2.2.2.2.2.2.2.1,x.2.2.1)).bind fun y1=>some (y1.1,y1.2)) (cond (x.1==3) ((a3X (x.2.2.2.2.2.2.2.2.1,x.2.2.2.2.2.2.2.2.2.2.1,x.2.2.2.2.2.1,x.2.2.2.1)).bind fun y2=>some (y2.1,y2.2)) (cond (x.1==4) ((a3X (x.2.2.2.2.2.2.2.2.1,x.2.2.2.2.2.2.2.2.2.2.1,x.2.2.2.2.2.1,x.2.2.2.1)).bind fun y3=>cond (y3.2 != 0) (some ([],y3.2)) ((a6T (y3.1,x.2.2.2.2.1,x.2.2.2.2.2.2.1)).bind fun y4=>some (y4.1,y4.2))) (cond (x.1==5) ((a6m (x.2.2.2.2.2.2.2.2.2.2.1,x.2.2.2.2.2.2.2.1)).bind fun y5=>some (y5.1,y5.2)) (some (x.2.2.2.2.2.2.2.2.1,0)))))
def c5Y:FSem:=⟨[.v Q61],[.v QL,.v QI],a9R⟩
def a9S(s:Z49):Option (Z49 ⊕ Z57):=(fun(a:LI)(b c:Int)(d:LI)=>cond (decide (c<(a.length:Int))) ((show Option (LI×Z41)from(m0k a c).bind fun x2=>(a2b x2).bind fun y3=>cond (!y3) (some (a,b,c,true,d,())) ((m0k a c).bind fun x4=>cond (decide ((wrap .u64 b)<0)) none ((a2b (A0n .i64 x4 (wrap .u64 b))).bind fun y5=>some (a,b,c,!y5,d,())))).bind fun z6=>cond z6.2.2.2.1 (some (.inr (Sum.inr ((6,[],()))))) ((m0k z6.1 z6.2.2.1).bind fun x7=>cond (decide ((wrap .u64 z6.2.1)<0)) none (cond (lim ((a01 z6.2.2.2.2.1)+1)) (some (.inl (z6.1,z6.2.1,wrap .i64 (z6.2.2.1+1),a04 z6.2.2.2.2.1 [A0n .i64 x7 (wrap .u64 z6.2.1)],()))) none))) (some (.inr (Sum.inl (d,()))))) s.1 s.2.1 s.2.2.1 s.2.2.2.1
def b4O(x:(LI×Int)):Option (LI×Int):=(show Option Z21 from cond (decide (x.2<0)) (some (x.1,x.2,true,())) (some (x.1,x.2,decide (x.2 > 30),()))).bind fun z1=>cond z1.2.2.1 (some ([],1)) ((y0s a9S (z1.1,z1.2.1,0,[],())).bind fun w8=>match w8 with |.inl a9=>some (a9.1,0) |.inr b10=>some (b10.2.1,b10.1))
def d1d:FSem:=⟨[.v QL,.v QI],[.o QI,.v QI],b4O⟩
def d7E:Hints:=⟨[(122,[.sv 0 QL,1,7,.own 6 6 QI],[Qe 0 [.own 6 6 QI],Qr [5,.own 4 4 QI]])],[(6,[Qn [.sv 0 QL,1,.sv 13 .bool]]),(3912,[Qn [.sv 0 QL,1,7,.sv 36 .bool,.own 6 6 QI]])],[]⟩
def a4s(s:c5x):Option (c5x ⊕ (LI×Unit)):=(fun(a:Int)(b:LI)(c:a0W)=>cond (decide (a<s.1)) ((m0k c.2.2.2.2.2.2.2.2.1 0).bind fun x11=>cond ((decide (0≤a))&&(decide (a<(b.length:Int)))) (some (.inl (s.1,wrap .i64 (a+1),a05 b (a00 a) x11,c,()))) none) (some (.inr (b,())))) s.2.1 s.2.2.1 s.2.2.2.1
def a6A(x:a7S):Option (LI×Bool):=(show Option b8s from cond (decide (x.2<1)) (some (x.2,true,x.1,())) (cond (decide (x.2 > 4096)) (some (x.2,true,x.1,())) (cond (decide (x.1.1<0)) (some (x.2,true,x.1,())) (cond (decide (x.1.1 > 5)) (some (x.2,true,x.1,())) ((a9a x.1).bind fun y1=>(a7y (x.1,y1)).bind fun y2=>cond (!y2) (some (x.2,true,x.1,())) (cond (decide (x.1.2.1<0)) (some (x.2,true,x.1,())) (some (x.2,decide (x.1.2.1 > 30),x.1,())))))))).bind fun z3=>cond z3.2.1 (some ([],false)) ((a5Y (z3.2.2.1,z3.1)).bind fun y4=>(show Option c5w from cond (decide (y4<0)) (some (z3.1,y4,true,z3.2.2.1,())) (cond ((z3.2.2.1.2.2.2.2.2.2.2.2.1.length:Int) != y4) (some (z3.1,y4,true,z3.2.2.1,())) ((a1u z3.2.2.1.2.2.2.2.2.2.2.2.1).bind fun y5=>cond (!y5) (some (z3.1,y4,true,z3.2.2.1,())) ((a1u z3.2.2.1.2.2.2.2.2.2.2.2.2.2.1).bind fun y6=>some (z3.1,y4,!y6,z3.2.2.1,()))))).bind fun z7=>cond z7.2.2.1 (some ([],false)) ((show Option b8s from(a3x z7.2.2.2.1.1).bind fun y8=>cond y8 (cond ((z7.2.2.2.1.2.2.2.2.2.2.2.2.2.2.1.length:Int) != (wrap .i64 (z7.1-z7.2.1))) (some (z7.1,true,z7.2.2.2.1,())) ((a4g (z7.2.2.2.1.2.2.2.2.2.2.2.2.2.1,z7.1,z7.2.1)).bind fun y9=>some (z7.1,!y9,z7.2.2.2.1,()))) (some (z7.1,false,z7.2.2.2.1,()))).bind fun z10=>cond z10.2.1 (some ([],false)) (cond (z10.2.2.1.1==0) (cond ((decide (0≤z10.1))&&((decide (z10.1≤z10.1))&&(lim (a00 z10.1)))) ((y0s a4s (z10.1,0,a02 (a00 z10.1) 0,z10.2.2.1,())).bind fun w12=>some (w12.1,true)) none) ((a9R z10.2.2.1).bind fun y13=>cond (y13.2 != 0) (some ([],false)) ((b4O (y13.1,z10.2.2.1.2.1)).bind fun y14=>some (y14.1,y14.2==0))))))
def c2L:FSem:=⟨[.v Q61,.v QI],[.o QI,.v .bool],a6A⟩
def d7F:Hints:=⟨[(8106,[1,8,.own 7 7 QI,.vp 2 Q61],[Qe 0 [.own 7 7 QI]])],[(6,[Qn [1,.sv 45 .bool,.vp 2 Q61]]),(30,[Qn [1,6,.sv 69 .bool,.vp 2 Q61]]),(62,[Qn [1,.sv 89 .bool,.vp 2 Q61]])],[(1,[.x,.x,.x,.x,.x,.x,.x,.x,.x,.x,.x,.x,.x,.x,.x,.x,.x,.v,.v,.v,.x,.x,.x,.x,.x,.x,.x,.x,.x,.x,.x,.x,.x])]⟩
def a5P(s:Z16):Option (Z16 ⊕ Z0):=cond (decide (s.2.1<(s.1.length:Int))) ((m0k s.1 s.2.1).bind fun x5=>(a1u x5).bind fun y6=>cond (!y6) (some (.inr (Sum.inr ((false,()))))) (some (.inl (s.1,wrap .i64 (s.2.1+1),())))) (some (.inr (Sum.inl ())))
def a9T(x:Z72):Option Bool:=(show Option ((List LI)×(Bool×Unit))from(a7s x.1).bind fun y1=>cond (!y1) (some (x.1,true,())) ((m0k x.1 0).bind fun x2=>cond (decide ((x2.length:Int) > 4096)) (some (x.1,true,())) ((a5M (x.2,(x.1.length:Int))).bind fun y3=>some (x.1,!y3,())))).bind fun z4=>cond z4.2.1 (some false) ((y0s a5P (z4.1,0,())).bind fun w7=>match w7 with |.inl a8=>some true |.inr b9=>some b9.1)
def c5Z:FSem:=⟨[.v (.list false QL),.v (.list false Q14)],[.v .bool],a9T⟩
def d7G:Hints:=⟨[(58,[.sv 0 (.list false QL),5],[Qe 0 [],Qr [.sv 4 .bool]])],[(6,[Qn [.sv 0 (.list false QL),.sv 22 .bool]])],[]⟩
def a6n(s:Z71):Option (Z71 ⊕ Z1):=cond (decide (s.2.1<(s.1.length:Int))) ((m0k s.1 s.2.1).bind fun x1=>cond (lim (0+(a01 x1))) (cond (lim ((a01 s.2.2.1)+(a01 (a05 ([[]]:List LI) 0 (a04 [] x1))))) (some (.inl (s.1,wrap .i64 (s.2.1+1),a04 s.2.2.1 (a05 ([[]]:List LI) 0 (a04 [] x1)),()))) none) none) (some (.inr (s.2.2.1,())))
def a8h(x:(List LI)):Option (List LI):=(y0s a6n (x,0,([]:(List LI)),())).bind fun w2=>some w2.1
def c2M:FSem:=⟨[.v (.list false QL)],[.o (.list true QI)],a8h⟩
def d7H:Hints:=⟨[(58,[.sv 0 (.list false QL),4,.own 3 3 (.list true QI)],[Qe 0 [.own 3 3 (.list true QI)]])],[],[]⟩
def a5f(s:(Int×(Int×((List LI)×Z27)))):Option ((Int×(Int×((List LI)×Z27))) ⊕ (Z1 ⊕ (Bool×Z1))):=(fun(a b:Int)(c:List LI)(d:Z7)=>cond (decide (0<(c.length:Int))) (cond (decide (b<((a01 (a03 c 0 []):Nat):Int))) (cond ((decide (0≤d.2.1))&&(decide (d.2.1<(c.length:Int)))) (cond ((decide (0≤d.2.1))&&(decide (d.2.1<(c.length:Int)))) (cond ((decide (0≤b))&&(decide (b<((a01 (a03 c (a00 d.2.1) []):Nat):Int)))) (cond ((decide (0≤d.1))&&(decide (d.1<(c.length:Int)))) (cond ((decide (0≤b))&&(decide (b<((a01 (a03 c (a00 d.1) []):Nat):Int)))) (cond ((decide (0≤b))&&(decide (b<((a01 (a03 c (a00 d.2.1) []):Nat):Int)))) (cond ((decide (0≤d.2.1))&&(decide (d.2.1<((a01 (a05 c (a00 d.2.1) (a05 (a03 c (a00 d.2.1) []) (a00 b) (wrap .i64 ((a03 (a03 c (a00 d.2.1) []) (a00 b) 0)+(wrap .i64 (a*(A0o .i64 (wrap .i64 (d.2.2.1*(a03 (a03 c (a00 d.1) []) (a00 b) 0))) 8))))))):Nat):Int)))) (cond ((decide (0≤b))&&(decide (b<((a01 (a03 (a05 c (a00 d.2.1) (a05 (a03 c (a00 d.2.1) []) (a00 b) (wrap .i64 ((a03 (a03 c (a00 d.2.1) []) (a00 b) 0)+(wrap .i64 (a*(A0o .i64 (wrap .i64 (d.2.2.1*(a03 (a03 c (a00 d.1) []) (a00 b) 0))) 8))))))) (a00 d.2.1) []):Nat):Int)))) ((a2b (a03 (a03 (a05 c (a00 d.2.1) (a05 (a03 c (a00 d.2.1) []) (a00 b) (wrap .i64 ((a03 (a03 c (a00 d.2.1) []) (a00 b) 0)+(wrap .i64 (a*(A0o .i64 (wrap .i64 (d.2.2.1*(a03 (a03 c (a00 d.1) []) (a00 b) 0))) 8))))))) (a00 d.2.1) []) (a00 b) 0)).bind fun y1=>cond (!y1) (some (.inr (Sum.inr ((false,a05 c (a00 d.2.1) (a05 (a03 c (a00 d.2.1) []) (a00 b) (wrap .i64 ((a03 (a03 c (a00 d.2.1) []) (a00 b) 0)+(wrap .i64 (a*(A0o .i64 (wrap .i64 (d.2.2.1*(a03 (a03 c (a00 d.1) []) (a00 b) 0))) 8)))))),()))))) (some (.inl (a,wrap .i64 (b+1),a05 c (a00 d.2.1) (a05 (a03 c (a00 d.2.1) []) (a00 b) (wrap .i64 ((a03 (a03 c (a00 d.2.1) []) (a00 b) 0)+(wrap .i64 (a*(A0o .i64 (wrap .i64 (d.2.2.1*(a03 (a03 c (a00 d.1) []) (a00 b) 0))) 8)))))),d,())))) none) none) none) none) none) none) none) none) (some (.inr (Sum.inl (c,()))))) none) s.1 s.2.1 s.2.2.1 s.2.2.2.1
def b1o(x:((List LI)×(Z7×Int))):Option (Bool×(List LI)):=(y0s a5f (x.2.2,0,x.1,x.2.1,())).bind fun w2=>match w2 with |.inl a3=>some (true,a3.1) |.inr b4=>some (b4.1,b4.2.1)
def c7v:FSem:=⟨[.r false (.o (.list true QI)),.v Q14,.v QI],[.v .bool],b1o⟩
def d7I:Hints:=⟨[(26,[2,7,.own 0 pinned (.list true QI),.vp 4 Q14],[Qe 0 [.own 0 pinned (.list true QI)],Qr [.sv 6 .bool,.own 0 pinned (.list true QI)]])],[],[(4,[.q,.v,.v,.q,.q,.v,.q,.v,.v,.q,.q,.v,.q,.q,.v,.v,.v,.q,.v,.v,.q,.q,.v,.q,.q,.v,.v,.v,.v,.x,.x])]⟩
def a4Q(s:(Z17×Z14)):Option ((Z17×Z14) ⊕ (Z1 ⊕ Z16)):=cond (decide (s.2.1≥0)) ((m0k s.1 s.2.1).bind fun x3=>(b1o (s.2.2.1,x3,(-1))).bind fun y4=>cond (!y4.1) (some (.inr (Sum.inr ((([]:(List LI)),6,()))))) (some (.inl (s.1,wrap .i64 (s.2.1-1),y4.2,())))) (some (.inr (Sum.inl (s.2.2.1,()))))
def a6U(x:Z72):Option ((List LI)×Int):=(a9T (x.1,x.2)).bind fun y1=>cond (!y1) (some (([]:(List LI)),1)) ((a8h x.1).bind fun y2=>(y0s a4Q (x.2,wrap .i64 ((x.2.length:Int)-1),y2,())).bind fun w5=>match w5 with |.inl a6=>some (a6.1,0) |.inr b7=>some (b7.1,b7.2.1))
def b9h:FSem:=⟨[.v (.list false QL),.v (.list false Q14)],[.v (.list false QL),.v QI],a6U⟩
def d7J:Hints:=⟨[(122,[.sv 1 (.list false Q14),7,.own 6 6 (.list true QI)],[Qe 0 [.own 6 6 (.list true QI)],Qr [.sv 4 (.list false QL),5]])],[],[]⟩
def a2R(s:c5D):Option (c5D ⊕ (c8t ⊕ Z65)):=(fun(a:List LI)(b:Z14)(c:a1x)=>cond (decide (s.1<(c.2.2.2.2.1.length:Int))) ((m0k c.2.2.2.2.1 s.1).bind fun x3=>(a6A (x3,c.2.1)).bind fun y4=>cond (!y4.2) (some (.inr (Sum.inr ((false,(0,([]:(List LI)),()),()))))) (cond (lim ((a01 a)+1)) (some (.inl (wrap .i64 (s.1+1),a04 a ([y4.1]:List LI),b,c,()))) none)) (some (.inr (Sum.inl (a,b,c,()))))) s.2.1 s.2.2.1 s.2.2.2.1
def a2W(x:a1x):Option (Z14×Bool):=(show Option (Bool×c5B)from(a5N x).bind fun y1=>cond (!y1) (some (true,(0,([]:(List LI)),()),x,())) (some ((x.2.2.2.2.1.length:Int) != x.2.2.1.2.1,(0,([]:(List LI)),()),x,()))).bind fun z2=>cond z2.1 (some ((0,([]:(List LI)),()),false)) ((y0s a2R (0,([]:(List LI)),z2.2.1,z2.2.2.1,())).bind fun w5=>match w5 with |.inl a6=>((a6U (a6.1,a6.2.2.1.2.2.2.1)).bind fun y8=>(show Option (Bool×Z14×Z35)from cond (y8.2 != 0) (some (true,a6.2.1,(a6.2.2.1.2.2.1.2.2.1,y8.1,()),())) ((a5c (a6.2.2.1.2.2.1.2.2.1,y8.1,())).bind fun y9=>some (!y9,a6.2.1,(a6.2.2.1.2.2.1.2.2.1,y8.1,()),()))).bind fun z10=>cond z10.1 (some ((0,([]:(List LI)),()),false)) (some (z10.2.2.1,true))) |.inr b7=>some (b7.2.1,b7.1))
def b6s:FSem:=⟨[.v Q83],[.v Q17,.v .bool],a2W⟩
def H68:Hints:=⟨[(122,[5,.own 4 4 QL,.box 2 Q17,.vp 1 Q83,Qp 2 2],[Qe 0 [.own 4 4 QL,.box 2 Q17,.vp 1 Q83,Qp 2 2],Qr [.sv 3 .bool,.box 2 Q17,Qp 2 2]])],[(6,[Qn [.sv 22 .bool,.box 2 Q17,.vp 1 Q83,Qp 2 2]]),(254,[Qn [.sv 67 .bool,.box 2 Q17,.box 10 Q17,Qp 2 2,Qp 10 10]])],[(7,[.v,.v,.v,.v,.v,.v,.v,.x,.x,.q,.q,.q,.x])]⟩
def a6V(x:Z14):Option Int:=cond ((x.2.1.length:Int)==0) (some 0) ((m0k x.2.1 0).bind fun x1=>some (x1.length:Int))
def b9i:FSem:=⟨[.v Q17],[.v QI],a6V⟩
def a6W(s:b5Y):Option (b5Y ⊕ Z98):=(fun(a:Int)(b:LI)(c:Z14)=>cond (decide (a<(c.2.1.length:Int))) ((m0k c.2.1 a).bind fun x3=>(m0k x3 s.1).bind fun x4=>cond (lim ((a01 b)+1)) (some (.inl (s.1,wrap .i64 (a+1),a04 b [x4],c,()))) none) (some (.inr (s.1,b,c,())))) s.2.1 s.2.2.1 s.2.2.2.1
def a6X(s:Z98):Option (Z98 ⊕ (LI×Unit)):=(a6V s.2.2.1).bind fun y2=>cond (decide (s.1<y2)) ((y0s a6W (s.1,0,s.2.1,s.2.2.1,())).bind fun w5=>some (.inl (wrap .i64 (w5.1+1),w5.2.1,w5.2.2.1,()))) (some (.inr (s.2.1,())))
def a9b(x:Z14):Option LI:=(a5c x).bind fun y1=>cond (!y1) (some []) ((y0s a6X (0,[],x,())).bind fun w6=>some w6.1)
def c4v:FSem:=⟨[.v Q17],[.o QI],a9b⟩
def H69:Hints:=⟨[(122,[4,.own 3 3 QI,.vp 1 Q17],[Qe 0 [.own 3 3 QI]]),(7826,[4,5,.own 3 3 QI,.vp 1 Q17],[Qe 2 [4,.own 3 3 QI,.vp 1 Q17]])],[],[]⟩
def b1p(x:(LI×LI)):Option Bool:=some ((b2s x.1)==(b2s x.2))
def c7w:FSem:=⟨[.v QB,.v QB],[.v .bool],b1p⟩
def a7t(s:Z19):Option (Z19 ⊕ (LI×Unit)):=cond (decide (s.2.1≥0)) (cond (decide ((wrap .u64 (wrap .i64 (8*s.2.1)))<0)) none (cond (lim ((a01 s.2.2.1)+1)) (some (.inl (s.1,wrap .i64 (s.2.1-1),a04 s.2.2.1 [wrap .u8 (A0o .u64 s.1 (wrap .u64 (wrap .i64 (8*s.2.1))))],()))) none)) (some (.inr (s.2.2.1,())))
def b2F(x:(Int×Int)):Option LI:=(y0s a7t (x.1,wrap .i64 ((v0r (v0s x.2 8) 0)-1),[],())).bind fun w1=>some w1.1
def c8y:FSem:=⟨[.v QU,.v QI],[.o QV],b2F⟩
def d7K:Hints:=⟨[(58,[.sv 0 QU,6,.own 5 5 QV],[Qe 0 [.own 5 5 QV]])],[],[]⟩
def a8G(x:LI):Option Z18:=some (x,0,0,())
def b9j:FSem:=⟨[.v QB],[.b Q18],a8G⟩
def a3Y(x:Z18):Option Z36:=some (wrap .i64 ((x.1.length:Int)-x.2.1),x)
def b6t:FSem:=⟨[.r false (.b Q18)],[.v QI],a3Y⟩
def d7L:Hints:=⟨[],[],[(1,[.p,.p,.q,.q,.v,.p,.p,.q,.q,.x,.x])]⟩
def a1j(x:Z39):Option Z53:=cond (x.1.2.2.1 != 0) (some ([],x.1)) ((a3Y x.1).bind fun y1=>cond (decide ((v0r x.2 0) > y1.1)) (some ([],y1.2.1,y1.2.2.1,3,y1.2.2.2.2)) (cond ((decide (0≤(wrap .i64 (y1.2.2.1+(v0r x.2 0)))))&&(decide ((wrap .i64 (y1.2.2.1+(v0r x.2 0)))≤(y1.2.1.length:Int)))) (cond ((decide (0≤y1.2.2.1))&&(decide (y1.2.2.1≤((a00 (wrap .i64 (y1.2.2.1+(v0r x.2 0))):Nat):Int)))) (cond (lim (0+(a01 (a09 (a00 y1.2.2.1) (a06 (a00 (wrap .i64 (y1.2.2.1+(v0r x.2 0)))) y1.2.1))))) (some (a04 [] (a09 (a00 y1.2.2.1) (a06 (a00 (wrap .i64 (y1.2.2.1+(v0r x.2 0)))) y1.2.1)),y1.2.1,wrap .i64 (y1.2.2.1+(v0r x.2 0)),y1.2.2.2)) none) none) none))
def b6u:FSem:=⟨[.r false (.b Q18),.v QI],[.o QV],a1j⟩
def d7M:Hints:=⟨[],[],[(7,[.q,.p,.p,.q,.q,.p,.p,.q,.q,.p,.p,.q,.q,.v,.v,.v,.x,.x])]⟩
def a1N(s:b2z):Option (b2z ⊕ (Z44 ⊕ Z68)):=(fun(a b c:Int)(d:Z18)=>cond (decide ((wrap .i64 (d.2.1+c))<(d.1.length:Int))) ((m0k d.1 (wrap .i64 (d.2.1+c))).bind fun x1=>(show Option (Int×Int×c1U)from cond (c==9) (cond (decide (x1 > 1)) (some (a,b,c,x1,true,d,())) (cond (decide (c > 0)) (some (a,b,c,x1,x1==0,d,())) (some (a,b,c,x1,false,d,())))) (cond (decide (c > 0)) (some (a,b,c,x1,x1==0,d,())) (some (a,b,c,x1,false,d,())))).bind fun z2=>cond z2.2.2.2.2.1 (some (.inr (Sum.inr ((0,(z2.2.2.2.2.2.1.1,z2.2.2.2.2.2.1.2.1,2,z2.2.2.2.2.2.1.2.2.2),()))))) (cond (decide ((wrap .u64 (wrap .i64 (7*z2.2.2.1)))<0)) none (cond (decide (z2.2.2.2.1≥128)) (some (.inl (z2.1,bits .u64 .or z2.2.1 (A0n .u64 (wrap .u64 (bits .u8 .and z2.2.2.2.1 127)) (wrap .u64 (wrap .i64 (7*z2.2.2.1)))),wrap .i64 (z2.2.2.1+1),z2.2.2.2.2.2.1,()))) (cond (decide ((bits .u64 .or z2.2.1 (A0n .u64 (wrap .u64 (bits .u8 .and z2.2.2.2.1 127)) (wrap .u64 (wrap .i64 (7*z2.2.2.1))))) > z2.1)) (some (.inr (Sum.inr ((0,(z2.2.2.2.2.2.1.1,z2.2.2.2.2.2.1.2.1,4,z2.2.2.2.2.2.1.2.2.2),()))))) (some (.inr (Sum.inr ((bits .u64 .or z2.2.1 (A0n .u64 (wrap .u64 (bits .u8 .and z2.2.2.2.1 127)) (wrap .u64 (wrap .i64 (7*z2.2.2.1)))),(z2.2.2.2.2.2.1.1,wrap .i64 ((wrap .i64 (z2.2.2.2.2.2.1.2.1+z2.2.2.1))+1),z2.2.2.2.2.2.1.2.2),()))))))))) (some (.inr (Sum.inl (d,()))))) s.1 s.2.1 s.2.2.1 s.2.2.2.1
def a0Y(x:Z39):Option Z36:=cond (x.1.2.2.1 != 0) (some (0,x.1)) ((y0s a1N (x.2,0,0,x.1,())).bind fun w3=>match w3 with |.inl a4=>some (0,a4.1.1,a4.1.2.1,3,a4.1.2.2.2) |.inr b5=>some (b5.1,b5.2.1))
def b7x:FSem:=⟨[.r false (.b Q18),.v QU],[.v QU],a0Y⟩
def d7N:Hints:=⟨[(122,[.sv 1 QU,.sv 5 QU,6,.box pinned Q18,Qp 0 pinned],[Qe 0 [.box pinned Q18,Qp 0 pinned],Qr [.sv 4 QU,.box pinned Q18]])],[(7826,[Qn [.sv 1 QU,.sv 5 QU,6,.sv 7 QV,.sv 52 .bool,.box pinned Q18,Qp 0 pinned]])],[(5,[.p,.p,.q,.q,.v,.v,.p,.p,.q,.q,.v,.x]),(7,[.p,.p,.q,.q,.p,.p,.q,.q,.v,.v,.x,.x,.x])]⟩
def a9C(s:Z37):Option (Z37 ⊕ Z18):=(fun(a b c:Int)=>cond (decide (c<8)) (cond (decide (a≥128)) (some (.inl (s.1,bits .u8 .xor (A0n .u8 a 1) 7,b,wrap .i64 (c+1),()))) (some (.inl (s.1,A0n .u8 a 1,b,wrap .i64 (c+1),())))) (some (.inr (s.1,a,b,())))) s.2.1 s.2.2.1 s.2.2.2.1
def a7z(s:Z18):Option (Z18 ⊕ (Int×Unit)):=cond (decide (s.2.2.1<(s.1.length:Int))) ((m0k s.1 s.2.2.1).bind fun x1=>(y0s a9C (s.1,bits .u8 .xor s.2.1 x1,s.2.2.1,0,())).bind fun w2=>some (.inl (w2.1,w2.2.1,wrap .i64 (w2.2.2.1+1),()))) (some (.inr (s.2.1,())))
def a9U(x:LI):Option Int:=(y0s a7z (x,0,0,())).bind fun w3=>some w3.1
def c6a:FSem:=⟨[.v QB],[.v QV],a9U⟩
def d7O:Hints:=⟨[(58,[.sv 0 QB,.sv 3 QV,4],[Qe 0 [.sv 3 QV]]),(7462,[.sv 0 QB,.sv 3 QV,4,5],[Qe 2 [.sv 0 QB,.sv 3 QV,4]])],[],[]⟩
def b0R(x:Int):Option Int:=(show Option (Int×Unit)from cond ((bits .u64 .and x 1)==1) (some (bits .i64 .xor (-1) (wrap .i64 (A0o .u64 x 1)),())) (some (wrap .i64 (A0o .u64 x 1),()))).bind fun z1=>some z1.1
def c8z:FSem:=⟨[.v QU],[.v QI],b0R⟩
def d7P:Hints:=⟨[],[(7,[Qn [3]])],[]⟩
def a7A(s:(LI×(Int×Int×a1x×Z18×a7e))):Option ((LI×(Int×Int×a1x×Z18×a7e)) ⊕ (LI×(a1x×Z18×a7e))):=(fun(a:Int)(b:a1x)(c:Z18)(d:a1x)=>cond (decide (a<s.2.1)) ((a0Y (c,7)).bind fun y12=>(a0Y (y12.2,7)).bind fun y13=>(a0Y (y13.2,2048)).bind fun y14=>(b0R y14.1).bind fun y15=>cond (lim ((a01 d.2.2.2.1)+1)) (some (.inl (s.1,s.2.1,wrap .i64 (a+1),b,y14.2,(d.1,d.2.1,d.2.2.1,a04 d.2.2.2.1 ([(wrap .i64 y12.1,wrap .i64 y13.1,y15,())]:List Z7),d.2.2.2.2),()))) none) (some (.inr (s.1,b,c,d,())))) s.2.2.1 s.2.2.2.1 s.2.2.2.2.1 s.2.2.2.2.2.1
def a9V(x:LI):Option (a1x×Int×Int×Int):=cond (decide ((x.length:Int)<2)) (some ((0,0,(0,0,0,()),[],[],()),0,0,3)) ((show Option (LI×(Bool×a7e))from(m0k x 0).bind fun x1=>cond (x1 != 245) (some (x,true,(0,0,(0,0,0,()),[],[],()),())) ((m0k x 1).bind fun x2=>some (x,x2 != 75,(0,0,(0,0,0,()),[],[],()),()))).bind fun z3=>cond z3.2.1 (some ((0,0,(0,0,0,()),[],[],()),0,0,2)) ((a8G z3.1).bind fun y4=>(a1j (y4,2)).bind fun y5=>(a0Y (y5.2,4194304)).bind fun y6=>(a0Y (y6.2,4096)).bind fun y7=>(a0Y (y7.2,1048576)).bind fun y8=>(a0Y (y8.2,8)).bind fun y9=>(a0Y (y9.2,24)).bind fun y10=>(a0Y (y10.2,16)).bind fun y11=>(y0s a7A (z3.1,wrap .i64 y11.1,0,z3.2.2.1,y11.2,(wrap .i64 y6.1,wrap .i64 y7.1,(wrap .i64 y8.1,wrap .i64 y9.1,wrap .i64 y10.1,()),[],[],()),())).bind fun w16=>(a0Y (w16.2.2.1,1048576)).bind fun y17=>(a1j (y17.2,1)).bind fun y18=>cond (y18.2.2.2.1 != 0) (some ((0,0,(0,0,0,()),[],[],()),0,0,y18.2.2.2.1)) (cond (decide (0<(y18.1.length:Int))) (cond ((decide (0≤y17.2.2.1))&&(decide (y17.2.2.1≤(w16.1.length:Int)))) ((a9U (a06 (a00 y17.2.2.1) w16.1)).bind fun y19=>cond ((a03 y18.1 0 0) != y19) (some ((0,0,(0,0,0,()),[],[],()),0,0,5)) ((a5N w16.2.2.2.1).bind fun y20=>cond (!y20) (some ((0,0,(0,0,0,()),[],[],()),0,0,2)) (some (w16.2.2.2.1,wrap .i64 y17.1,wrap .i64 (y17.2.2.1+1),0)))) none) none)))
def c6b:FSem:=⟨[.v QB],[.v Q81,.v QI,.v QI,.v QI],a9V⟩
def d7Q:Hints:=⟨[(16378,[.sv 0 QB,8,9,.box 2 Q81,.box 1031 Q18,.box 7 Q80,Qp 2 2,Qp 6 1031,Qp 7 7],[Qe 0 [.sv 0 QB,.box 2 Q81,.box 1031 Q18,.box 7 Q80,Qp 2 2,Qp 6 1031,Qp 7 7]])],[(14,[Qn [.sv 0 QB,.sv 28 .bool,.box 2 Q81,Qp 2 2]])],[(17,[.r [7,70],.r [7,71],.v,.v,.q,.w [75,1031,1075],.v,.v,.q,.x,.x,.x]),(22,[.v,.r [97,1031],.r [98,1031],.r [99,1031],.r [100,1031],.w [0,2],.v,.v,.x]),(23,[.q,.q,.q,.v,.v,.v,.v,.x,.x])]⟩
def a8i(s:Z37):Option (Z37 ⊕ Z18):=(fun(a b c:Int)=>cond (decide (c<8)) (cond (decide (a≥32768)) (some (.inl (s.1,bits .u16 .xor (A0n .u16 a 1) 32773,b,wrap .i64 (c+1),()))) (some (.inl (s.1,A0n .u16 a 1,b,wrap .i64 (c+1),())))) (some (.inr (s.1,a,b,())))) s.2.1 s.2.2.1 s.2.2.2.1
def a6o(s:Z18):Option (Z18 ⊕ (Int×Unit)):=cond (decide (s.2.2.1<(s.1.length:Int))) ((m0k s.1 s.2.2.1).bind fun x1=>(y0s a8i (s.1,bits .u16 .xor s.2.1 (A0n .u16 (wrap .u16 x1) 8),s.2.2.1,0,())).bind fun w2=>some (.inl (w2.1,w2.2.1,wrap .i64 (w2.2.2.1+1),()))) (some (.inr (s.2.1,())))
def a8j(x:LI):Option Int:=(y0s a6o (x,0,0,())).bind fun w3=>some w3.1
def c2N:FSem:=⟨[.v QB],[.v (.int .u16)],a8j⟩
def d7R:Hints:=⟨[(58,[.sv 0 QB,.sv 3 (.int .u16),4],[Qe 0 [.sv 3 (.int .u16)]]),(7462,[.sv 0 QB,.sv 3 (.int .u16),4,5],[Qe 2 [.sv 0 QB,.sv 3 (.int .u16),4]])],[],[]⟩
def a6Y(x:LI):Option Z18:=some (x,0,0,())
def b9k:FSem:=⟨[.v QB],[.b Q18],a6Y⟩
def a8k(x:a7S):Option Bool:=(a6A (x.1,x.2)).bind fun y1=>some y1.2
def c2O:FSem:=⟨[.v Q61,.v QI],[.v .bool],a8k⟩
def a5Q(s:Z18):Option (Z18 ⊕ Z18):=(fun(a:LI)(b c:Int)=>cond (decide (b<32)) ((m0k a c).bind fun x1=>cond (x1 != 0) ((m0k a c).bind fun x2=>(a7P (x2,b)).bind fun y3=>cond (!y3) (some (.inl (a,wrap .i64 (b+1),c,()))) (some (.inr (a,b,c,())))) (some (.inr (a,b,c,())))) (some (.inr (a,b,c,())))) s.1 s.2.1 s.2.2.1
def a7B(s:Z18):Option (Z18 ⊕ (Int×Unit)):=cond (decide (s.2.2.1<(s.1.length:Int))) ((y0s a5Q (s.1,s.2.1,s.2.2.1,())).bind fun w4=>some (.inl (w4.1,w4.2.1,wrap .i64 (w4.2.2.1+1),()))) (some (.inr (s.2.1,())))
def a4t(x:LI):Option Int:=(y0s a7B (x,0,0,())).bind fun w5=>some w5.1
def c6c:FSem:=⟨[.v QL],[.v QI],a4t⟩
def d7S:Hints:=⟨[(58,[.sv 0 QL,3,4],[Qe 0 [3]]),(1864,[.sv 0 QL,3,4],[Qe 2 [.sv 0 QL,3,4]])],[],[]⟩
def a4u(s:Z46):Option (Z46 ⊕ Z9):=(fun(a:Int)(b:LI×Unit)=>cond (decide (a≥0)) (cond (decide ((wrap .u64 a)<0)) none (cond (lim ((a01 b.1)+1)) (some (.inl (s.1,wrap .i64 (a-1),(a04 b.1 [wrap .u8 (bits .u64 .and (A0o .u64 s.1 (wrap .u64 a)) 1)],b.2),()))) none)) (some (.inr (b,())))) s.2.1 s.2.2.1
def a0I(x:((LI×Unit)×(Int×Int))):Option Z5:=(show Option (Int×Int×Bool×Z9)from cond (decide (x.2.2<0)) (some (x.2.1,x.2.2,true,x.1,())) (cond (decide (x.2.2 > 64)) (some (x.2.1,x.2.2,true,x.1,())) (cond (decide (x.2.2<64)) (cond (decide ((wrap .u64 x.2.2)<0)) none (some (x.2.1,x.2.2,(A0o .u64 x.2.1 (wrap .u64 x.2.2)) != 0,x.1,()))) (some (x.2.1,x.2.2,false,x.1,()))))).bind fun z1=>cond z1.2.2.1 (some (1,z1.2.2.2.1)) ((y0s a4u (z1.1,wrap .i64 (z1.2.1-1),z1.2.2.2.1,())).bind fun w2=>some (0,w2.1))
def b7y:FSem:=⟨[.r false (.b Q2),.v QU,.v QI],[.v QI],a0I⟩
def d7T:Hints:=⟨[(58,[.sv 1 QU,7,.box pinned Q2,Qp 0 pinned],[Qe 0 [.box pinned Q2]])],[(6,[Qn [.sv 1 QU,2,.sv 24 .bool,.box pinned Q2,Qp 0 pinned]])],[]⟩
def a4R(s:(LI×Z46)):Option ((LI×Z46) ⊕ Z9):=cond (decide (s.2.2.1<(s.1.length:Int))) ((m0k s.1 s.2.2.1).bind fun x2=>cond (decide ((wrap .u64 s.2.1)<0)) none ((a0I (s.2.2.2.1,bits .u64 .and (wrap .u64 x2) (wrap .u64 ((A0n .u64 1 (wrap .u64 s.2.1))-1)),s.2.1)).bind fun y3=>some (.inl (s.1,s.2.1,wrap .i64 (s.2.2.1+1),y3.2,())))) (some (.inr (s.2.2.2.1,())))
def a2o(x:((LI×Unit)×(LI×Int))):Option (LI×Unit):=(y0s a4R (x.2.1,x.2.2,0,x.1,())).bind fun w4=>some w4.1
def b9l:FSem:=⟨[.r false (.b Q2),.v QL,.v QI],[],a2o⟩
def d7U:Hints:=⟨[(6,[.sv 1 QL,2,6,.box pinned Q2,Qp 0 pinned],[Qe 0 [.box pinned Q2]])],[],[]⟩
def a4v(x:((LI×Unit)×a0W)):Option (LI×Unit):=(a0I (x.1,wrap .u64 (wrap .i64 ((x.2.2.2.2.2.2.1.length:Int)-1)),5)).bind fun y1=>(a0I (y1.2,wrap .u64 x.2.2.2.2.1,4)).bind fun y2=>(a4t x.2.2.2.2.2.2.1).bind fun y3=>(a0I (y2.2,wrap .u64 y3,5)).bind fun y4=>(a2o (y4.2,x.2.2.2.2.2.2.1,y3)).bind fun y5=>some y5
def b7z:FSem:=⟨[.r false (.b Q2),.v Q61],[],a4v⟩
def b6v(x:Int):Option Int:=(show Option (Int×Unit)from cond (decide (x<0)) (some (bits .u64 .xor (IntKind.max .u64) (A0n .u64 (wrap .u64 x) 1),())) (some (A0n .u64 (wrap .u64 x) 1,()))).bind fun z1=>some z1.1
def c8A:FSem:=⟨[.v QI],[.v QU],b6v⟩
def d7V:Hints:=⟨[],[(7,[Qn [.sv 3 QU]])],[]⟩
def a9n(x:Int):Option Int:=(a2b x).bind fun y1=>cond (!y1) (some 0) ((b6v x).bind fun y2=>some y2)
def c7x:FSem:=⟨[.v QI],[.v QU],a9n⟩
def a7C(x:(Int×Int)):Option Int:=(show Option Z10 from(a1b x.1).bind fun y1=>cond (!y1) (some (x.1,x.2,true,())) ((a2b x.2).bind fun y2=>some (x.1,x.2,!y2,()))).bind fun z3=>cond z3.2.2.1 (some 0) ((a9n z3.2.1).bind fun y4=>cond (decide ((wrap .u64 z3.1)<0)) none (cond (decide ((wrap .i64 (A0o .u64 y4 (wrap .u64 z3.1)))<32)) (some (wrap .i64 ((wrap .i64 ((wrap .i64 (A0o .u64 y4 (wrap .u64 z3.1)))+1))+z3.1))) (some 65)))
def c1v:FSem:=⟨[.v QI,.v QI],[.v QI],a7C⟩
def d7W:Hints:=⟨[],[(6,[Qn [0,1,.sv 13 .bool]])],[]⟩
def a6p(s:Z36):Option Z85:=(fun(a:LI)(b c:Int)=>cond (decide (c<(a.length:Int))) ((m0k a c).bind fun x1=>(a7C (s.1,x1)).bind fun y2=>some (.inl (s.1,a,wrap .i64 (b+y2),wrap .i64 (c+1),()))) (some (.inr (b,())))) s.2.1 s.2.2.1 s.2.2.2.1
def a8l(x:(Int×LI)):Option Int:=(y0s a6p (x.1,x.2,0,0,())).bind fun w3=>some w3.1
def c2P:FSem:=⟨[.v QI,.v QL],[.v QI],a8l⟩
def d7X:Hints:=⟨[(58,[0,.sv 1 QL,5,6],[Qe 0 [5]])],[],[]⟩
def a7D(x:(Int×LI)):Option Int:=cond (x.1==31) ((a4t x.2).bind fun y1=>some (wrap .i64 (5+(wrap .i64 ((x.2.length:Int)*y1))))) ((a8l (x.1,x.2)).bind fun y2=>some y2)
def c1w:FSem:=⟨[.v QI,.v QL],[.v QI],a7D⟩
def a4S(s:c5p):Option (c5p ⊕ (Int×Unit)):=(fun(a b:Int)(c:LI)(d:Z5)=>cond (decide (b<(c.length:Int))) ((m0k d.2.1 b).bind fun x5=>cond ((decide (0≤b))&&(decide (b<(c.length:Int)))) (cond ((decide (0≤(wrap .i64 (a+(a03 c (a00 b) 0)))))&&(decide ((wrap .i64 (a+(a03 c (a00 b) 0)))≤(s.1.length:Int)))) (cond ((decide (0≤a))&&(decide (a≤((a00 (wrap .i64 (a+(a03 c (a00 b) 0))):Nat):Int)))) ((a7D (x5,a09 (a00 a) (a06 (a00 (wrap .i64 (a+(a03 c (a00 b) 0)))) s.1))).bind fun y6=>cond ((decide (0≤b))&&(decide (b<(c.length:Int)))) (some (.inl (s.1,wrap .i64 ((wrap .i64 (s.2.1+5))+y6),wrap .i64 (a+(a03 c (a00 b) 0)),wrap .i64 (b+1),c,d,()))) none) none) none) none) (some (.inr (s.2.1,())))) s.2.2.1 s.2.2.2.1 s.2.2.2.2.1 s.2.2.2.2.2.1
def a6Z(x:Z75):Option Int:=(show Option (Int×(Int×(LI×Z47)))from(a4g (x.1,x.2.1,x.2.2.1)).bind fun y1=>cond (!y1) (some (x.2.1,x.2.2.1,x.2.2.2,true,x.1,())) (cond ((x.2.2.2.length:Int) != (wrap .i64 (x.2.1-x.2.2.1))) (some (x.2.1,x.2.2.1,x.2.2.2,true,x.1,())) ((a1u x.2.2.2).bind fun y2=>some (x.2.1,x.2.2.1,x.2.2.2,!y2,x.1,())))).bind fun z3=>cond z3.2.2.2.1 (some 0) ((a2u (z3.2.2.2.2.1.1,z3.1,z3.2.1)).bind fun y4=>(y0s a4S (z3.2.2.1,4,0,0,y4,z3.2.2.2.2.1,())).bind fun w7=>some w7.1)
def b9m:FSem:=⟨[.v Q13,.v QI,.v QI,.v QL],[.v QI],a6Z⟩
def d7Y:Hints:=⟨[(250,[.sv 3 QL,9,10,12,.own 11 11 QI,.vp 4 Q13],[Qe 0 [9]])],[(6,[Qn [1,2,.sv 3 QL,.sv 30 .bool,.vp 4 Q13]])],[(8,[.v,.v,.v,.v,.v,.v,.v,.v,.v,.v,.q,.v,.q,.q,.v,.v,.v,.x,.x])]⟩
def a3I(s:Z46):Option (Z46 ⊕ Z9):=cond (decide (s.2.1<s.1)) (cond (lim ((a01 s.2.2.1.1)+1)) (some (.inl (s.1,wrap .i64 (s.2.1+1),(a04 s.2.2.1.1 [0],s.2.2.1.2),()))) none) (some (.inr (s.2.2.1,())))
def a2B(x:((LI×Unit)×Int)):Option Z5:=(show Option (Int×Bool×Z9)from cond (decide (x.2<0)) (some (x.2,true,x.1,())) (some (x.2,decide (x.2 > 4096),x.1,()))).bind fun z1=>cond z1.2.1 (some (1,z1.2.2.1)) ((y0s a3I (z1.1,0,z1.2.2.1,())).bind fun w2=>cond (lim ((a01 w2.1.1)+1)) (some (0,a04 w2.1.1 [1],w2.1.2)) none)
def b5r:FSem:=⟨[.r false (.b Q2),.v QI],[.v QI],a2B⟩
def d7Z:Hints:=⟨[(58,[1,5,.box pinned Q2,Qp 0 pinned],[Qe 0 [.box pinned Q2,Qp 0 pinned]])],[(6,[Qn [1,.sv 11 .bool,.box pinned Q2,Qp 0 pinned]])],[]⟩
def a4w(s:(Int×(LI×Z26))):Option ((Int×(LI×Z26)) ⊕ Z9):=(fun(a:Int)(b:LI)(c:Int)(d:LI×Unit)=>cond (decide (c<(b.length:Int))) ((m0k b c).bind fun x4=>(a9n x4).bind fun y5=>cond (decide ((wrap .u64 a)<0)) none (cond (decide ((wrap .i64 (A0o .u64 y5 (wrap .u64 a)))<32)) ((a2B (d,wrap .i64 (A0o .u64 y5 (wrap .u64 a)))).bind fun y6=>cond (decide ((wrap .u64 a)<0)) none ((a0I (y6.2,bits .u64 .and y5 (wrap .u64 ((A0n .u64 1 (wrap .u64 a))-1)),a)).bind fun y7=>some (.inl (a,b,wrap .i64 (c+1),y7.2,())))) ((a2B (d,32)).bind fun y8=>(a0I (y8.2,y5,32)).bind fun y9=>some (.inl (a,b,wrap .i64 (c+1),y9.2,()))))) (some (.inr (d,())))) s.1 s.2.1 s.2.2.1 s.2.2.2.1
def a8m(x:((LI×Unit)×(Int×LI))):Option Z5:=(show Option (Int×(LI×(Bool×Z9)))from(a1b x.2.1).bind fun y1=>cond (!y1) (some (x.2.1,x.2.2,true,x.1,())) ((a1u x.2.2).bind fun y2=>some (x.2.1,x.2.2,!y2,x.1,()))).bind fun z3=>cond z3.2.2.1 (some (1,z3.2.2.2.1)) ((y0s a4w (z3.1,z3.2.1,0,z3.2.2.2.1,())).bind fun w10=>some (0,w10.1))
def c2Q:FSem:=⟨[.r false (.b Q2),.v QI,.v QL],[.v QI],a8m⟩
def d8a:Hints:=⟨[(58,[1,.sv 2 QL,7,.box pinned Q2,Qp 0 pinned],[Qe 0 [.box pinned Q2]])],[(6,[Qn [1,.sv 2 QL,.sv 17 .bool,.box pinned Q2,Qp 0 pinned]])],[]⟩
def a2X(s:(LI×(Int×(Int×(LI×((LI×Unit)×Z22)))))):Option ((LI×(Int×(Int×(LI×((LI×Unit)×Z22))))) ⊕ Z9):=(fun(a:LI)(b c:Int)(d:LI)(e:LI×Unit)(f:Z5)=>cond (decide (c<(d.length:Int))) (cond ((decide (0≤c))&&(decide (c<(d.length:Int)))) (cond ((decide (0≤(wrap .i64 (b+(a03 d (a00 c) 0)))))&&(decide ((wrap .i64 (b+(a03 d (a00 c) 0)))≤(a.length:Int)))) (cond ((decide (0≤b))&&(decide (b≤((a00 (wrap .i64 (b+(a03 d (a00 c) 0))):Nat):Int)))) ((m0k f.2.1 c).bind fun x4=>(a0I (e,wrap .u64 x4,5)).bind fun y5=>(show Option (LI×(Int×(Int×(LI×((LI×Unit)×Z22)))))from(m0k f.2.1 c).bind fun x6=>cond (x6==31) ((a4t (a09 (a00 b) (a06 (a00 (wrap .i64 (b+(a03 d (a00 c) 0)))) a))).bind fun y7=>(a0I (y5.2,wrap .u64 y7,5)).bind fun y8=>(a2o (y8.2,a09 (a00 b) (a06 (a00 (wrap .i64 (b+(a03 d (a00 c) 0)))) a),y7)).bind fun y9=>some (a,b,c,d,y9,f,())) ((m0k f.2.1 c).bind fun x10=>(a8m (y5.2,x10,a09 (a00 b) (a06 (a00 (wrap .i64 (b+(a03 d (a00 c) 0)))) a))).bind fun y11=>some (a,b,c,d,y11.2,f,()))).bind fun z12=>cond ((decide (0≤z12.2.2.1))&&(decide (z12.2.2.1<(z12.2.2.2.1.length:Int)))) (some (.inl (z12.1,wrap .i64 (z12.2.1+(a03 z12.2.2.2.1 (a00 z12.2.2.1) 0)),wrap .i64 (z12.2.2.1+1),z12.2.2.2.1,z12.2.2.2.2.1,z12.2.2.2.2.2.1,()))) none) none) none) none) (some (.inr (e,())))) s.1 s.2.1 s.2.2.1 s.2.2.2.1 s.2.2.2.2.1 s.2.2.2.2.2.1
def a7E(x:((LI×Unit)×Z75)):Option Z5:=(a6Z (x.2.1,x.2.2.1,x.2.2.2.1,x.2.2.2.2)).bind fun y1=>cond (y1==0) (some (1,x.1)) ((a0I (x.1,wrap .u64 x.2.1.1,4)).bind fun y2=>(a2u (x.2.1.1,x.2.2.1,x.2.2.2.1)).bind fun y3=>(y0s a2X (x.2.2.2.2,0,0,y3,y2.2,x.2.1,())).bind fun w13=>some (0,w13.1))
def c1x:FSem:=⟨[.r false (.b Q2),.v Q13,.v QI,.v QI,.v QL],[.v QI],a7E⟩
def d8b:Hints:=⟨[(250,[.sv 4 QL,12,13,.own 11 11 QI,.box pinned Q2,Qp 0 pinned,.vp 6 Q13],[Qe 0 [.box pinned Q2]])],[(16019,[Qn [.sv 4 QL,12,13,.own 11 11 QI,.box pinned Q2,Qp 0 pinned,.vp 6 Q13]])],[]⟩
def a6q(s:(Int×c5A)):Option ((Int×c5A) ⊕ c5A):=(fun(a:Int)(b:LI×Unit)(c:a0W)=>cond (decide (a<(c.2.2.2.2.2.2.2.1.length:Int))) ((m0k c.2.2.2.2.2.2.2.1 a).bind fun x12=>(a0I (b,wrap .u64 (wrap .i64 (x12.1-1)),5)).bind fun y13=>(m0k c.2.2.2.2.2.2.2.1 a).bind fun x14=>(a0I (y13.2,wrap .u64 x14.2.1,4)).bind fun y15=>some (.inl (s.1,s.2.1,wrap .i64 (a+1),y15.2,c,()))) (some (.inr (s.1,s.2.1,b,c,())))) s.2.2.1 s.2.2.2.1 s.2.2.2.2.1
def a3n(x:((LI×Unit)×a7S)):Option Z5:=(a8k (x.2.1,x.2.2)).bind fun y1=>cond (!y1) (some (1,x.1)) ((a4t x.2.1.2.2.2.2.2.2.2.2.1).bind fun y2=>(a0I (x.1,wrap .u64 x.2.1.1,3)).bind fun y3=>(a0I (y3.2,wrap .u64 x.2.1.2.1,5)).bind fun y4=>(a0I (y4.2,wrap .u64 y2,5)).bind fun y5=>(show Option c5A from cond (x.2.1.1==2) ((a0I (y5.2,wrap .u64 x.2.1.2.2.1,3)).bind fun y6=>some (x.2.2,y2,y6.2,x.2.1,())) (cond (x.2.1.1==3) ((a4v (y5.2,x.2.1)).bind fun y7=>some (x.2.2,y2,y7,x.2.1,())) (cond (x.2.1.1==4) ((a0I (y5.2,wrap .u64 (wrap .i64 (x.2.1.2.2.2.2.1-1)),10)).bind fun y8=>(a2o (y8.2,a06 3 x.2.1.2.2.2.2.2.2.1,8)).bind fun y9=>(a4v (y9,x.2.1)).bind fun y10=>some (x.2.2,y2,y10,x.2.1,())) (cond (x.2.1.1==5) ((a0I (y5.2,wrap .u64 (x.2.1.2.2.2.2.2.2.2.1.length:Int),2)).bind fun y11=>(y0s a6q (x.2.2,y2,0,y11.2,x.2.1,())).bind fun w16=>some (w16.1,w16.2.1,w16.2.2.1,w16.2.2.2.1,())) (some (x.2.2,y2,y5.2,x.2.1,())))))).bind fun z17=>(a2o (z17.2.2.1,z17.2.2.2.1.2.2.2.2.2.2.2.2.1,z17.2.1)).bind fun y18=>(a3x z17.2.2.2.1.1).bind fun y19=>cond y19 ((a7E (y18,z17.2.2.2.1.2.2.2.2.2.2.2.2.2.1,z17.1,(z17.2.2.2.1.2.2.2.2.2.2.2.2.1.length:Int),z17.2.2.2.1.2.2.2.2.2.2.2.2.2.2.1)).bind fun y20=>some (0,y20.2)) (some (0,y18)))
end Go.Ab
