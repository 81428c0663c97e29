/- Part of the proof: It. Conditions: as each statement tells. -/
import Derived.RangeFuncBound
import Derived.RangeFuncCalls
import Derived.RangeFuncBox
import Derived.WalkKit
import Derived.OwnWalkIn
import Derived.TacticsInMore
import Derived.LoopNIn
import Derived.LoopIn
import Derived.Test.YtjoohiokfkdfpaaGreatDoorProg
import Derived.KernelRfl
import Derived.Test.YtjoohiokfkdfpaaGreatDoorMD
noncomputable section
set_option linter.unusedSimpArgs false
set_option linter.unusedVariables false
open Array renaming replicate_succ→a07,replicate_zero→a08
open Int renaming toNat→a01,tdiv→a09,tmod→a18
open List renaming replicate→a00,length→a02,append→a03,getD→a04,set→a05,take→a06,append_toArray→a16,cons_append→a17,size_toArray→a19,push_toArray→a20,length_nil→a21,nil_append→a22,drop→a23
open Nat renaming reduceAdd→a24,reduceSub→a25
open Option renaming getD_some→a26
namespace Go.Ab
open Go.Proofs Go.RowKit
attribute [local go_sem] Oper.semAt_some
set_option maxHeartbeats 1000000 in
theorem c5s:A0h Tryz.prog 248 291:=by
 refine⟨⟨_,_,Tryz.func248,rfl,by kernel_rfl⟩,fun A len cap w=>(callsIn_wide (n:=3)).1 ?_⟩
 refine callsIn_of_wp Tryz.func248 rfl trivial ?_
 simp only[Tryz.ntmps248,a19,lC,a21,a24,a25,a07,a08,a20,a16,a22,a17]
 gi_wp2
 go_ret
 exact⟨rfl,_,rfl⟩
@[reducible] def a9P:Ty:=.pair (.int .i64) (.pair (.int .i64) .unit)
set_option maxRecDepth 100000 in
set_option maxHeartbeats 2000000 in
theorem c3T (l Bs b off len cap:Nat) (p q:Nat→Int) (J:Nat→World→Prop) (Jx:World→Prop) (W:World)
  (hJ:∀k W',J k W'→W'.cell? ⟨Bs,0,none⟩=some (.slice (some ⟨b,off,none⟩) len cap))
  (hlen:len<2147483648)
  (hcs:∀k W',k<len→J (k+1) W'→W'.cell? ⟨b,off+k*2,none⟩=some (.int .i64 (p k))∧W'.cell? ⟨b,off+k*2+1,none⟩=some (.int .i64 (q k)))
  (hY:∀n W',n<len→J (n+1) W'→YieldAt (Fr none) 0 Tryz.prog l #[.int .i64 (n:Int),.agg #[.int .i64 (p n),.int .i64 (q n)]] W' fun en W''=>(en=.returned (.bool true)∧J n W'')∨(en=.returned (.bool false)∧Jx W''))
  (h0:J len W):
  CallsIn (Fr none) 0 Tryz.prog 291 #[.func (.yield l) #[] #[],.pointer (some ⟨Bs,0,none⟩)] W fun en W'=>(∃v,en=.returned v)∧(J 0 W'∨Jx W'):=by
 refine callsIn_of_wp Tryz.func291 rfl trivial ?_
 simp only[Tryz.ntmps291,a19,lC,a21,a24,a25,a07,a08,a20,a16,a22,a17]
 have hBs:=hJ _ _ h0
 gi_wp2
 gi_loopw [3] (fun i wr=>∃k:Nat,k≤len∧i=.int .i64 ((k:Int)-1)∧J k wr) (fun i _=>(intOf i+1).toNat)
 case atStart=>exact⟨len,Nat.le_refl _,rfl,h0⟩
 case round=>
  obtain⟨k,hk,rfl,hJs⟩:=hrel
  cases k with
  |succ n=>
   obtain⟨fn,tmps,assign,body,hy,hR⟩:=hY n wr (by omega) hJs
   have hcx:=hJ _ _ hJs
   obtain⟨hc0,hc1⟩:=hcs n wr (by omega) hJs
   gi_wp2
   refine hR.mono ?_
   rintro e W3 (⟨rfl,hJ3⟩|⟨rfl,hJx3⟩)
   ·gi_wp2
    go_roundw
    case rel=>exact⟨n,by omega,by simp,hJ3⟩
    case measure=>simp[intOf]
   ·gi_wp2
    refine bodyPost_ret (results_none rfl _ _ _) rfl ?_
    exact⟨⟨_,rfl⟩,.inr hJx3⟩
  |zero=>
   gi_wp2
   go_end0
   exact⟨⟨_,rfl⟩,.inl hJs⟩
set_option maxRecDepth 100000 in
set_option maxHeartbeats 2000000 in
theorem c2Q (l Bs:Nat) (A:Option Addr) (c:Nat) (J:Nat→World→Prop) (W:World) (hBs:W.cell? ⟨Bs,0,none⟩=some (.slice A 0 c)) (h0:J 0 W):
  CallsIn (Fr none) 0 Tryz.prog 291 #[.func (.yield l) #[] #[],.pointer (some ⟨Bs,0,none⟩)] W fun en W'=>(∃v,en=.returned v)∧J 0 W':=by
 refine callsIn_of_wp Tryz.func291 rfl trivial ?_
 simp only[Tryz.ntmps291,a19,lC,a21,a24,a25,a07,a08,a20,a16,a22,a17]
 gi_wp2
 gi_loopw [3] (fun i wr=>i=.int .i64 (-1)∧J 0 wr) (fun _ _=>0)
 case atStart=>exact⟨rfl,h0⟩
 case round=>
  obtain⟨rfl,hJs⟩:=hrel
  gi_wp2
  go_end0
  exact⟨⟨_,rfl⟩,hJs⟩
theorem b6u{m:Mem}{Sh:Nat→Prop}{b o:Nat}{x:a9P.den}{R}(h:dec m a9P ((Src.at b o).rd m)=some (x,[],R)):
  m b o=some (.int .i64 x.1)∧m b (o+1)=some (.int .i64 x.2.1)∧VOk m Sh a9P x (.agg #[.int .i64 x.1,.int .i64 x.2.1]):=by
 obtain⟨p,q,u⟩:=x;simp only[a9P,dec,Src.rd,Ty.cells,Nat.add_zero]at h
 split at h
 cases h;rename_i r o1 j g
 split at g
 rename_i n c
 split at g
 rename_i e;subst e;simp only[sj]at g;obtain⟨rfl,rfl,rfl⟩:=g
 split at h
 cases h;rename_i s o2 r2 k
 split at k
 cases k;rename_i t i l f
 split at f
 rename_i d a
 split at f
 rename_i e;subst e;simp only[sj]at f k h;obtain⟨rfl,rfl,rfl⟩:=f;obtain⟨rfl,rfl,rfl⟩:=k;obtain⟨⟨rfl,rfl,rfl⟩,-,-⟩:=h;exact⟨c,a,fun _=>⟨_,rfl,rfl⟩,fun h=>(by cases h),[],rfl,by simp⟩;cases f;cases f;cases g;cases g
theorem b2x {P:Program} {f:FuncId} (hb:l0x P f) (args:Array Value) (w:World):(callFunc f args).run P w=.ok (.enter f args) w:=by
 obtain ⟨fn,c',h1,h2,h3⟩:=hb;have h4 : ¬ fn.name = "runtime.NumGoroutine" := by simpa using h3
 simp [callFunc,program,Sem.run,h1,h2,h4,Result.andThen]
theorem c5t:w0n Tryz.prog 291 a9P:=by
 refine⟨fun args w=>b2x ⟨_,_,Tryz.func291,rfl,by kernel_rfl⟩ args w,fun l Bs sv f J D W i t L o=>?_⟩;obtain⟨z,Sh,y⟩:=t _ _ o;obtain⟨A,n,c,rfl,rfl,N,v,j⟩:=y.header
 by_cases hx0:f.length=0
 rw[hx0]at o z;exact(c2Q l Bs A c J W z o).mono fun e g h=>⟨h.1,.inl h.2⟩;cases A with
 |none=>have:=j rfl;omega
 |some A=>
  obtain⟨b,off,B⟩:=A
  have:=(v _ rfl).resolve_left (by omega)
  simp only at this;subst this;have u:∀k g,k<f.length→J (k+1) g→∃x,f[k]?=some x∧g.cell? ⟨b,off+k*2,none⟩=some (.int .i64 x.1)∧g.cell? ⟨b,off+k*2+1,none⟩=some (.int .i64 x.2.1):=by
   intro k g p d;obtain⟨-,a,hv⟩:=t _ _ d;obtain⟨C,O,E,R,e,F,G,H,s,I,K⟩:=hv.elem rfl (lG p);simp only[Value.slice.injEq,sj]at e;obtain⟨rfl,rfl,rfl⟩:=e;obtain⟨q,r,-⟩:=b6u (Sh:=a) s;exact⟨_,lG p,q,r⟩
  refine c3T l Bs b off f.length c (fun k=>((f[k]?).getD a9P.dflt).1) (fun k=>((f[k]?).getD a9P.dflt).2.1) J D W (fun k g d=>(t k g d).1) i (fun k g p d=>?_) (fun n g M d=>?_) o;obtain⟨x,m,q,r⟩:=u k g p d;simp only[m,a26];exact⟨q,r⟩;have m:f[n]?=some f[n]:=lG M;simp only[m,a26];refine L n _ _ g m d fun a hv=>?_
  obtain⟨C,O,E,R,e,F,G,H,s,I,K⟩:=hv.elem rfl m;exact(b6u (Sh:=a) s).2.2
set_option maxHeartbeats 1000000 in
theorem c5u:A0h Tryz.prog 156 238:=by
 refine⟨⟨_,_,Tryz.func156,rfl,by kernel_rfl⟩,fun A len cap w=>(callsIn_wide (n:=3)).1 ?_⟩
 refine callsIn_of_wp Tryz.func156 rfl trivial ?_
 simp only[Tryz.ntmps156,a19,lC,a21,a24,a25,a07,a08,a20,a16,a22,a17]
 gi_wp2
 go_ret
 exact⟨rfl,_,rfl⟩
@[reducible] def b1P:Ty:=.pair (.int .i64) (.pair (.int .i64) (.pair (.int .i64) .unit))
set_option maxRecDepth 100000 in
set_option maxHeartbeats 2000000 in
theorem c3U (l Bs b off len cap:Nat) (p q r:Nat→Int) (J:Nat→World→Prop) (Jx:World→Prop) (W:World)
  (hJ:∀k W',J k W'→W'.cell? ⟨Bs,0,none⟩=some (.slice (some ⟨b,off,none⟩) len cap))
  (hlen:len<2147483648)
  (hcs:∀k W',k<len→J (k+1) W'→W'.cell? ⟨b,off+k*3,none⟩=some (.int .i64 (p k))∧W'.cell? ⟨b,off+k*3+1,none⟩=some (.int .i64 (q k))∧W'.cell? ⟨b,off+k*3+2,none⟩=some (.int .i64 (r k)))
  (hY:∀n W',n<len→J (n+1) W'→YieldAt (Fr none) 0 Tryz.prog l #[.int .i64 (n:Int),.agg #[.int .i64 (p n),.int .i64 (q n),.int .i64 (r n)]] W' fun en W''=>(en=.returned (.bool true)∧J n W'')∨(en=.returned (.bool false)∧Jx W''))
  (h0:J len W):
  CallsIn (Fr none) 0 Tryz.prog 238 #[.func (.yield l) #[] #[],.pointer (some ⟨Bs,0,none⟩)] W fun en W'=>(∃v,en=.returned v)∧(J 0 W'∨Jx W'):=by
 refine callsIn_of_wp Tryz.func238 rfl trivial ?_
 simp only[Tryz.ntmps238,a19,lC,a21,a24,a25,a07,a08,a20,a16,a22,a17]
 have hBs:=hJ _ _ h0
 gi_wp2
 gi_loopw [3] (fun i wr=>∃k:Nat,k≤len∧i=.int .i64 ((k:Int)-1)∧J k wr) (fun i _=>(intOf i+1).toNat)
 case atStart=>exact⟨len,Nat.le_refl _,rfl,h0⟩
 case round=>
  obtain⟨k,hk,rfl,hJs⟩:=hrel
  cases k with
  |succ n=>
   obtain⟨fn,tmps,assign,body,hy,hR⟩:=hY n wr (by omega) hJs
   have hcx:=hJ _ _ hJs
   obtain⟨hc0,hc1,hc2⟩:=hcs n wr (by omega) hJs
   gi_wp2
   refine hR.mono ?_
   rintro e W3 (⟨rfl,hJ3⟩|⟨rfl,hJx3⟩)
   ·gi_wp2
    go_roundw
    case rel=>exact⟨n,by omega,by simp,hJ3⟩
    case measure=>simp[intOf]
   ·gi_wp2
    refine bodyPost_ret (results_none rfl _ _ _) rfl ?_
    exact⟨⟨_,rfl⟩,.inr hJx3⟩
  |zero=>
   gi_wp2
   go_end0
   exact⟨⟨_,rfl⟩,.inl hJs⟩
set_option maxRecDepth 100000 in
set_option maxHeartbeats 2000000 in
theorem c2R (l Bs:Nat) (A:Option Addr) (c:Nat) (J:Nat→World→Prop) (W:World) (hBs:W.cell? ⟨Bs,0,none⟩=some (.slice A 0 c)) (h0:J 0 W):
  CallsIn (Fr none) 0 Tryz.prog 238 #[.func (.yield l) #[] #[],.pointer (some ⟨Bs,0,none⟩)] W fun en W'=>(∃v,en=.returned v)∧J 0 W':=by
 refine callsIn_of_wp Tryz.func238 rfl trivial ?_
 simp only[Tryz.ntmps238,a19,lC,a21,a24,a25,a07,a08,a20,a16,a22,a17]
 gi_wp2
 gi_loopw [3] (fun i wr=>i=.int .i64 (-1)∧J 0 wr) (fun _ _=>0)
 case atStart=>exact⟨rfl,h0⟩
 case round=>
  obtain⟨rfl,hJs⟩:=hrel
  gi_wp2
  go_end0
  exact⟨⟨_,rfl⟩,hJs⟩
theorem b5E{m:Mem}{rd:Nat→Option Value}{x o r}(h:dec m (.int .i64) rd=some (x,o,r)):rd 0=some (.int .i64 x)∧o=[]∧r=[]:=by
 simp only[dec]at h
 split at h
 rename_i k n g
 split at h
 rename_i e;subst e;simp only[sj,pJ]at h;obtain⟨rfl,rfl,rfl⟩:=h;exact⟨g,rfl,rfl⟩;cases h;cases h
theorem b3X{m:Mem}{a b:Ty}{rd:Nat→Option Value}{x o r}(h:dec m (.pair a b) rd=some (x,o,r)):∃o1 g o2 r2,dec m a rd=some (x.1,o1,g)∧dec m b (fun j=>rd (a.cells+j))=some (x.2,o2,r2)∧o=o1++o2∧r=g++r2:=by
 simp only[dec]at h
 split at h
 cases h;rename_i c o1 g f
 split at h
 cases h;rename_i d o2 r2 k;simp only[sj,pJ]at h;obtain⟨rfl,rfl,rfl⟩:=h;exact⟨_,_,_,_,f,k,rfl,rfl⟩
theorem b7U{m:Mem}{Sh:Nat→Prop}{b o:Nat}{x:b1P.den}{R}(h:dec m b1P ((Src.at b o).rd m)=some (x,[],R)):
  m b o=some (.int .i64 x.1)∧m b (o+1)=some (.int .i64 x.2.1)∧m b (o+2)=some (.int .i64 x.2.2.1)∧VOk m Sh b1P x (.agg #[.int .i64 x.1,.int .i64 x.2.1,.int .i64 x.2.2.1]):=by
 obtain⟨_,_,_,_,g,f,-,-⟩:=b3X h;obtain⟨_,_,_,_,k,a,-,-⟩:=b3X f;obtain⟨_,_,_,_,c,-,-,-⟩:=b3X a;exact⟨(b5E g).1,(b5E k).1,(b5E c).1,fun _=>⟨_,rfl,rfl⟩,fun h=>(by cases h),[],rfl,by simp⟩
theorem c5v:w0n Tryz.prog 238 b1P:=by
 refine⟨fun args w=>b2x ⟨_,_,Tryz.func238,rfl,by kernel_rfl⟩ args w,fun l Bs sv f J E W i u M o=>?_⟩;obtain⟨B,Sh,z⟩:=u _ _ o;obtain⟨A,n,c,rfl,rfl,O,y,j⟩:=z.header
 by_cases hx0:f.length=0
 rw[hx0]at o B;exact(c2R l Bs A c J W B o).mono fun e g h=>⟨h.1,.inl h.2⟩;cases A with
 |none=>have:=j rfl;omega
 |some A=>
  obtain⟨b,off,C⟩:=A
  have:=(y _ rfl).resolve_left (by omega)
  simp only at this;subst this;have v:∀k g,k<f.length→J (k+1) g→∃x,f[k]?=some x∧g.cell? ⟨b,off+k*3,none⟩=some (.int .i64 x.1)∧g.cell? ⟨b,off+k*3+1,none⟩=some (.int .i64 x.2.1)∧g.cell? ⟨b,off+k*3+2,none⟩=some (.int .i64 x.2.2.1):=by
   intro k g p d;obtain⟨-,a,hv⟩:=u _ _ d;obtain⟨D,P,F,R,e,G,H,I,t,K,L⟩:=hv.elem rfl (lG p);simp only[Value.slice.injEq,sj]at e;obtain⟨rfl,rfl,rfl⟩:=e;obtain⟨q,r,s,-⟩:=b7U (Sh:=a) t;exact⟨_,lG p,q,r,s⟩
  refine c3U l Bs b off f.length c (fun k=>((f[k]?).getD b1P.dflt).1) (fun k=>((f[k]?).getD b1P.dflt).2.1) (fun k=>((f[k]?).getD b1P.dflt).2.2.1) J E W (fun k g d=>(u k g d).1) i (fun k g p d=>?_) (fun n g N d=>?_) o;obtain⟨x,m,q,r,s⟩:=v k g p d;simp only[m,a26];exact⟨q,r,s⟩;have m:f[n]?=some f[n]:=lG N;simp only[m,a26];refine M n _ _ g m d fun a hv=>?_
  obtain⟨D,P,F,R,e,G,H,I,t,K,L⟩:=hv.elem rfl m;exact(b7U (Sh:=a) t).2.2.2
end Go.Ab
namespace Go.Ab
open IntKind(wrap)
open Go.Proofs
set_option maxRecDepth 100000
set_option linter.unusedVariables false
@[reducible] def QI:Ty:=.int .i64
@[reducible] def QL:Ty:=.list false QI
@[reducible] def QU:Ty:=.int .u64
@[reducible] def QV:Ty:=.int .u8
@[reducible] def QB:Ty:=.list false QV
@[reducible] def LI:Type:=List Int
instance (n:Nat):OfNat Ent n:=⟨.sv n QI⟩
@[reducible] def Qp(i n:Nat):Ent:=.ptr i n []
@[reducible] def Qn(l:a0c):Ex×a0c:=(.normal,l)
@[reducible] def Qe(n:Nat)(l:a0c):Ex×a0c:=(.exit n,l)
@[reducible] def Qr(l:a0c):Ex×a0c:=(.ret,l)
def QH:Hints:=⟨[],[],[]⟩
@[reducible] def Z0:Type:=(Unit ⊕ (Bool×Unit))
@[reducible] def Z1:Type:=(Int×(Int×LI))
@[reducible] def Z2:Type:=(LI×(Int×Int))
@[reducible] def Z3:Type:=((List LI)×Unit)
@[reducible] def Z4:Type:=(Int×(LI×Unit))
@[reducible] def Z5:Type:=(LI×(Int×Unit))
@[reducible] def Z6:Type:=(List (Int×(Int×Unit)))
@[reducible] def Z7:Type:=(Bool×(LI×Unit))
@[reducible] def Z8:Type:=(Int×(Int×(Int×Unit)))
@[reducible] def Z9:Type:=(Int×(Int×(Bool×Unit)))
@[reducible] def Z10:Type:=(LI×(LI×Int))
@[reducible] def Z11:Type:=(LI×(LI×Unit))
@[reducible] def Z12:Type:=(Int×Z3)
@[reducible] def Z13:Type:=((List LI)×(Int×Unit))
@[reducible] def Z14:Type:=(LI×(Int×(Int×Unit)))
@[reducible] def Z15:Type:=(Int×Z4)
@[reducible] def Z16:Type:=(Int×Z5)
@[reducible] def Z17:Type:=(List Z8)
@[reducible] def Z18:Type:=(LI×(Int×(Bool×Unit)))
@[reducible] def Z19:Type:=(Z4×Unit)
@[reducible] def Z20:Type:=(Z5×Unit)
@[reducible] def Z21:Type:=(Int×Z8)
@[reducible] def Z22:Type:=(Int×Z9)
@[reducible] def Z23:Type:=(Int×Z11)
@[reducible] def Z24:Type:=(LI×Z4)
@[reducible] def Z25:Type:=((List LI)×(Int×(Int×Unit)))
@[reducible] def Z26:Type:=(Int×Z12)
@[reducible] def Z27:Type:=(Int×Z14)
@[reducible] def Z28:Type:=(Int×Z15)
@[reducible] def Z29:Type:=(LI×Z8)
@[reducible] def Z30:Type:=(Z12×Unit)
@[reducible] def Z31:Type:=(Z14×Int)
@[reducible] def Z32:Type:=(LI×Z9)
@[reducible] def Z33:Type:=(Int×Z20)
@[reducible] def Z34:Type:=(Int×Z21)
@[reducible] def Z35:Type:=(Z14×Unit)
@[reducible] def Z36:Type:=(LI×Z11)
@[reducible] def Z37:Type:=(LI×Z15)
@[reducible] def Z38:Type:=(Int×Z23)
@[reducible] def Z39:Type:=(LI×Z14)
@[reducible] def Z40:Type:=(Int×Z25)
@[reducible] def Z41:Type:=((LI×Unit) ⊕ Z4)
@[reducible] def Z42:Type:=(Z4×(LI×Unit))
@[reducible] def Z43:Type:=(Int×Z27)
@[reducible] def Z44:Type:=(LI×Z18)
@[reducible] def Z45:Type:=(Z23×Unit)
@[reducible] def Z46:Type:=(Int×Z30)
@[reducible] def Z47:Type:=(Int×Z29)
@[reducible] def Z48:Type:=(Int×Z33)
@[reducible] def Z49:Type:=(Bool×Z30)
@[reducible] def Z50:Type:=(Int×Z35)
@[reducible] def Z51:Type:=(Bool×Z35)
@[reducible] def Z52:Type:=(Int×Z36)
@[reducible] def Z53:Type:=(Int×Z37)
@[reducible] def Z54:Type:=(LI×Z27)
@[reducible] def Z55:Type:=(Int×Z45)
@[reducible] def Z56:Type:=(Int×Z46)
@[reducible] def Z57:Type:=(LI×Z35)
@[reducible] def Z58:Type:=(Z27 ⊕ (Int×Unit))
@[reducible] def Z59:Type:=(Int×Z50)
@[reducible] def Z60:Type:=(Int×Z51)
@[reducible] def Z61:Type:=(Z14 ⊕ Z0)
@[reducible] def Z62:Type:=(LI×Z38)
@[reducible] def Z63:Type:=(Int×Z52)
@[reducible] def Z64:Type:=(LI×Z42)
@[reducible] def Z65:Type:=(LI×Z43)
@[reducible] def Z66:Type:=(LI×Z45)
@[reducible] def Z67:Type:=(Int×Z53)
@[reducible] def Z68:Type:=(Int×Z55)
@[reducible] def Z69:Type:=(LI×Z48)
@[reducible] def Z70:Type:=(Int×Z57)
@[reducible] def Z71:Type:=(Z4×Z19)
@[reducible] def Z72:Type:=(Z5×Z19)
@[reducible] def Z73:Type:=(Int×Z59)
@[reducible] def Z74:Type:=(Int×Z62)
@[reducible] def Z75:Type:=(Int×Z66)
@[reducible] def Z76:Type:=(Int×Z68)
@[reducible] def Z77:Type:=(Int×Z69)
@[reducible] def Z78:Type:=(Int×Z70)
@[reducible] def Z79:Type:=(LI×Z72)
@[reducible] def Z80:Type:=(Z17×Z30)
@[reducible] def Z81:Type:=(Int×Z78)
@[reducible] def Z82:Type:=(Int×Z79)
@[reducible] def Z83:Type:=(Z6×Z64)
@[reducible] def Z84:Type:=(Int×Z82)
@[reducible] def Z85:Type:=(Z4×Z71)
@[reducible] def Z86:Type:=(LI×Z83)
@[reducible] def Z87:Type:=(LI×Z84)
@[reducible] def Z88:Type:=(LI×Z86)
@[reducible] def Z89:Type:=(Int×Z88)
@[reducible] def Z90:Type:=(Int×Z89)
@[reducible] def Z91:Type:=(Int×Z90)
@[reducible] def Z92:Type:=(Int×Z91)
@[reducible] def Z93:Type:=(Int×Z92)
@[reducible] def Z94:Type:=(List Z93)
@[reducible] def Z95:Type:=(Z93×Int)
@[reducible] def Z96:Type:=(Z93×Unit)
@[reducible] def Z97:Type:=(Z94×Unit)
@[reducible] def Z98:Type:=(Bool×Z96)
@[reducible] def Z99:Type:=(Int×Z98)
@[reducible] def c1r:Type:=(Z94×(LI×Unit))
@[reducible] def c7V:Type:=(Z5×Z96)
@[reducible] def c1s:Type:=(Int×c7V)
@[reducible] def c5U:Type:=(Z14×Z96)
@[reducible] def c1t:Type:=(Z93×Z35)
@[reducible] def c7W:Type:=(Z17×Z97)
@[reducible] def b1g:Type:=(Int×c1s)
@[reducible] def c3V:Type:=(Int×c5U)
@[reducible] def b5F:Type:=(Int×c3V)
@[reducible] def c7X:Type:=(Z8×c7W)
@[reducible] def c7Y:Type:=(Int×c7X)
@[reducible] def a3p:Type:=(Int×c7Y)
@[reducible] def b2P:Type:=(a3p×Unit)
@[reducible] def c1u:Type:=(Z12×b2P)
@[reducible] def b5G:Type:=(a3p×Z35)
@[reducible] def a9s:Type:=(Z93×Z96)
@[reducible] def c7Z:Type:=(Int×a9s)
@[reducible] def c1v:Type:=(Int×c7Z)
@[reducible] def c3W:Type:=(a3p×b2P)
@[reducible] def c1w:Type:=(Int×c3W)
@[reducible] def Q0:Ty:=(.pair QI .unit)
@[reducible] def Q1:Ty:=(.pair (.list true QI) .unit)
@[reducible] def Q2:Ty:=(.pair QL .unit)
@[reducible] def Q3:Ty:=(.pair QI Q0)
@[reducible] def Q4:Ty:=(.pair (.list false QL) .unit)
@[reducible] def Q5:Ty:=(.pair (.list true QV) Q0)
@[reducible] def Q6:Ty:=(.pair QI Q1)
@[reducible] def Q7:Ty:=(.pair QI Q2)
@[reducible] def Q8:Ty:=(.pair QI Q3)
@[reducible] def Q9:Ty:=(.pair (.list true QI) Q1)
@[reducible] def Q10:Ty:=(.pair QI Q4)
@[reducible] def Q11:Ty:=(.pair QB Q3)
@[reducible] def Q12:Ty:=(.pair QI Q9)
@[reducible] def Q13:Ty:=(.pair Q7 Q2)
@[reducible] def Q14:Ty:=(.pair (.nl QI) Q13)
@[reducible] def Q15:Ty:=(.pair QL Q13)
@[reducible] def Q16:Ty:=(.pair (.list true Q3) Q14)
@[reducible] def Q17:Ty:=(.pair (.list false Q3) Q15)
@[reducible] def Q18:Ty:=(.pair (.arr 3 QI) Q16)
@[reducible] def Q19:Ty:=(.pair (.arr 3 QI) Q17)
@[reducible] def Q20:Ty:=(.pair (.list true QI) Q18)
@[reducible] def Q21:Ty:=(.pair QL Q19)
@[reducible] def Q22:Ty:=(.pair QI Q20)
@[reducible] def Q23:Ty:=(.pair QI Q21)
@[reducible] def Q24:Ty:=(.pair QI Q22)
@[reducible] def Q25:Ty:=(.pair QI Q23)
@[reducible] def Q26:Ty:=(.pair QI Q24)
@[reducible] def Q27:Ty:=(.pair QI Q25)
@[reducible] def Q28:Ty:=(.pair QI Q26)
@[reducible] def Q29:Ty:=(.pair QI Q27)
@[reducible] def Q30:Ty:=(.pair QI Q28)
@[reducible] def Q31:Ty:=(.pair QI Q29)
@[reducible] def Q32:Ty:=(.pair (.nl Q31) .unit)
@[reducible] def Q33:Ty:=(.pair (.list true Q31) .unit)
@[reducible] def Q34:Ty:=(.pair (.list false Q31) .unit)
@[reducible] def Q35:Ty:=(.pair (.nl Q8) Q32)
@[reducible] def Q36:Ty:=(.pair (.list true Q8) Q32)
@[reducible] def Q37:Ty:=(.pair (.list false Q8) Q33)
@[reducible] def Q38:Ty:=(.pair (.list false Q8) Q34)
@[reducible] def Q39:Ty:=(.pair Q8 Q35)
@[reducible] def Q40:Ty:=(.pair Q8 Q36)
@[reducible] def Q41:Ty:=(.pair Q8 Q37)
@[reducible] def Q42:Ty:=(.pair Q8 Q38)
@[reducible] def Q43:Ty:=(.pair QI Q39)
@[reducible] def Q44:Ty:=(.pair QI Q40)
@[reducible] def Q45:Ty:=(.pair QI Q41)
@[reducible] def Q46:Ty:=(.pair QI Q42)
@[reducible] def Q47:Ty:=(.pair QI Q44)
@[reducible] def Q48:Ty:=(.pair QI Q45)
@[reducible] def Q49:Ty:=(.pair QI Q46)
def b7P:List (Nat×Ty):=[(2,.int .i64),(3,.int .i64),(5,.int .u8),(9,.str),(22,.list false QL),(24,.pair QI Q4),(29,.pair QI Q3),(30,.list false Q8),(31,.list false Q31),(33,.pair QI Q46),(34,.int .i64),(37,.list false QV),(46,.list false QI),(47,.arr 3 QI),(48,.list false Q3),(50,.pair QI Q2),(52,.pair QI Q29),(74,.int .u64),(93,.pair QB Q0),(99,.int .u16),(103,.int .u64),(153,.pair QI Q3),(161,.pair QI Q0),(164,.list false QU),(174,.pair QB Q3),(233,.pair QB Q3),(243,.arr 64 QV),(274,.list false (.arr 3 QI)),(283,.pair QI (.pair QL Q2))]
def T0:Nat→Option Ty:=fun t=>find b7P t
def c1x:List Nat:=[29,47,153,161]
def c8a:Nat→Bool:=fun t=>c1x.contains t
def b7V:List Nat:=[]
def c8b:Nat→Bool:=fun t=>b7V.contains t
def a8I:(List Int):=[0,1,56,2,57,49,28,3,61,58,42,50,38,29,17,4,62,47,59,36,45,43,51,22,53,39,33,30,24,18,12,5,63,55,48,27,60,41,37,16,46,35,44,21,52,32,23,11,54,26,40,15,34,20,31,10,25,14,19,9,13,8,7,6]
def G0:Nat→Option ((t:Ty)×t.den):=fun g=>find ([(0,⟨.arr 64 QV,a8I⟩)]:List (Nat×((t:Ty)×t.den))) g
@[reducible] def b2Q(a:List (Nat×FSem))(b:List (Nat×Ty))(c d:Nat):Cx:=⟨c8b,c8a,T0,fun f=>find a f,fun n=>find b n,c.testBit,d.testBit,G0⟩
def a2d(s:Z14):Option Z61:=(fun(a b:Int)=>cond (decide (b<a)) ((m0k s.1 b).bind fun x1=>(show Option Z32 from cond (decide (x1<(-1073741824))) (some (s.1,a,b,true,())) (some (s.1,a,b,decide (x1≥1073741824),()))).bind fun z2=>cond z2.2.2.2.1 (some (.inr (Sum.inr ((false,()))))) (some (.inl (z2.1,z2.2.1,wrap .i64 (z2.2.2.1+1),())))) (some (.inr (Sum.inl ())))) s.2.1 s.2.2.1
def a1Z(x:LI):Option Bool:=(y0s a2d (x,(x.length:Int),0,())).bind fun w3=>match w3 with |.inl a4=>some true |.inr b5=>some b5.1
def b6Z:FSem:=⟨[.v QL],[.v .bool],a1Z⟩
def H60:Hints:=⟨[(26,[.sv 5 QL,6,7],[Qe 0 [],Qr [.sv 2 .bool]])],[(1689,[Qn [.sv 5 QL,6,7,.sv 16 .bool]])],[]⟩
def a4d(x:Int):Option Bool:=cond (decide ((-1073741824)≤x)) (some (decide (x<1073741824))) (some false)
def b7a:FSem:=⟨[.v QI],[.v .bool],a4d⟩
def a5r(s:Z53):Option (Z53 ⊕ Z41):=(fun(a:Int)(b:LI)(c d:Int)(e:LI)=>cond (decide (d<c)) ((m0k b d).bind fun x2=>(show Option (Int×(Int×(LI×(Int×Int×Z7))))from(a4d x2).bind fun y3=>cond (!y3) (some (a,x2,b,c,d,true,e,())) (cond (decide (a<0)) none (cond ((A0n .i64 1 a)==0) none (some (a,x2,b,c,d,(a18 x2 (A0n .i64 1 a)) != 0,e,()))))).bind fun z4=>cond z4.2.2.2.2.2.1 (some (.inr (Sum.inr ((6,[],()))))) (cond (decide (z4.1<0)) none (cond (lim ((a02 z4.2.2.2.2.2.2.1)+1)) (some (.inl (z4.1,z4.2.2.1,z4.2.2.2.1,wrap .i64 (z4.2.2.2.2.1+1),a03 z4.2.2.2.2.2.2.1 [A0o .i64 z4.2.1 z4.1],()))) none))) (some (.inr (Sum.inl (e,()))))) s.1 s.2.1 s.2.2.1 s.2.2.2.1 s.2.2.2.2.1
def a5E(x:(LI×Int)):Option (LI×Int):=(show Option Z18 from cond (decide (x.2<0)) (some (x.1,x.2,true,())) (some (x.1,x.2,decide (x.2 > 30),()))).bind fun z1=>cond z1.2.2.1 (some ([],1)) ((y0s a5r (z1.2.1,z1.1,(z1.1.length:Int),0,[],())).bind fun w5=>match w5 with |.inl a6=>some (a6.1,0) |.inr b7=>some (b7.2.1,b7.1))
def b7b:FSem:=⟨[.v QL,.v QI],[.o QI,.v QI],a5E⟩
def H61:Hints:=⟨[(122,[1,.sv 15 QL,16,17,.own 6 6 QI],[Qe 0 [.own 6 6 QI],Qr [5,.own 4 4 QI]])],[(6,[Qn [.sv 0 QL,1,.sv 14 .bool]]),(15666,[Qn [1,8,.sv 15 QL,16,17,.sv 30 .bool,.own 6 6 QI]])],[]⟩
def a1r(x:Int):Option Int:=cond (x==0) (some 64) ((m0k a8I (A0o .u64 (wrap .u64 ((bits .u64 .and x (wrap .u64 (0-x)))*285870213051353865)) 58)).bind fun x1=>some (wrap .i64 x1))
def a1i:FSem:=⟨[.v QU],[.v QI],a1r⟩
def a7W:Cx:=b2Q [] [] 5 0
theorem b3B{ρ:Type}{cx:Cx}{ops:List Oper}:∀(l1 l2:List (Md×Oper)) (Γ:AE) (K:AE→Rs ρ),h0m cx ops (l1++l2) Γ K=h0m cx ops l1 Γ fun Γ'=>h0m cx ops l2 Γ' K
 | [],_,_,_=>rfl
 |(md,o)::l1,l2,Γ,K=>by
  simp only[a17,h0m];congr 1;funext Γ';exact b3B l1 l2 Γ' K
theorem b2R{ρ:Type}{cx:Cx}{H:Hints}{a b:Code}{p:Nat}(h:find H.cuts p=none)(Γ:AE)(K:Ex→AE→Rs ρ):c0n cx H (.seq a b) p Γ K=c0n cx H a (2*p) Γ fun e Γ'=>match e with
   |.normal=>c0n cx H b (2*p+1) Γ' K
   |e=>K e Γ':=by
 simp only[c0n,h];rfl
theorem b7W{ρ:Type}{cx:Cx}{H:Hints}{id:Nat}{ops:Array Oper}{p:Nat}(Γ:AE)(K:Ex→AE→Rs ρ):c0n cx H (.region id ops false) p Γ K=h0m cx ops.toList (ops.toList.map fun o=>(.x,o)) Γ fun Γ'=>K .normal Γ':=by
 simp only[c0n,cF]
def a7Q:Code:=match Tryz.f139.body with
 |some c=>c
 |none=>.skip
def b5H:Code→Code
 |.seq a _=>a
 |c=>c
def c1y:Code→Code
 |.seq _ b=>b
 |c=>c
def c2S:Code→Array Oper
 |.region _ ops _=>ops
 |_=>#[]
def c0Z:Code:=c1y (c1y a7Q)
def a9Q:List Oper:=(c2S (b5H c0Z)).toList
def Γ139(x:Int):AE:=(((ini [.v QU] x).set 2 (.val QI (0:Int))).set 3 (.val QU x)).set 4 (.val .bool (x==(0:Int)))
def Γ139r(x:Int):AE:=(Γ139 x).set 2 (.val QI (64:Int))
def b7X(e:Ex)(Γ:AE):Option Int:=match e,Γ.pd with
  |.exit _,_=>none
  |_,some _=>none
  |_,none=>(Γ.upto Tryz.f139.ntmps).outs a7W [] Tryz.f139.ntmps [.v QI] (Tryz.f139.results.toList.map .inl) fun y _=>some y
def Γ139b(x a b c i:Int):AE:=((((((Γ139 x).set 5 (.val QU x)).set 6 (.val QU x)).set 7 (.val QU a)).set 8 (.val QU b)).set 9 (.val QU c)).set 10 (.val QU i)
set_option maxRecDepth 100000
theorem c3X:a7Q=.seq (b5H a7Q) (.seq (b5H (c1y a7Q)) (.seq (.region 3 (c2S (b5H c0Z)) false) .ret)):=by kernel_rfl
theorem c5w(x:Int):A0j a7W QH Tryz.f139 a1i.ps a1i.rs x=c0n a7W QH a7Q 1 (ini [.v (.int .u64)] x) b7X:=rfl
theorem c5x(x:Int)(K:Ex→AE→Option Int):c0n a7W QH (b5H a7Q) 2 (ini [.v (.int .u64)] x) K=K .normal ((ini [.v (.int .u64)] x).set 2 (.val (.int .i64) (0:Int))):=by kernel_rfl
theorem c5y(x:Int)(K:Ex→AE→Option Int):c0n a7W QH (b5H (c1y a7Q)) 6 ((ini [.v (.int .u64)] x).set 2 (.val (.int .i64) (0:Int))) K=bif x==(0:Int)then K .ret (Γ139r x)else K .normal (Γ139 x):=by kernel_rfl
theorem c5z(x:Int):b7X .ret (Γ139r x)=some (64:Int):=by kernel_rfl
theorem c5A(x:Int)(K:AE→Option Int):h0m a7W a9Q ((a9Q.map fun o=>(Md.x,o)).take 6) (Γ139 x) K =
  K (Γ139b x (wrap .u64 (0-x)) (bits .u64 .and x (wrap .u64 (0-x))) (wrap .u64 ((bits .u64 .and x (wrap .u64 (0-x)))*(285870213051353865:Int))) (A0o .u64 (wrap .u64 ((bits .u64 .and x (wrap .u64 (0-x)))*(285870213051353865:Int))) (58:Int))):=by kernel_rfl
theorem c5B(x a b c i:Int):h0m a7W a9Q ((a9Q.map fun o=>(Md.x,o)).drop 6) (Γ139b x a b c i) (fun Γ=>b7X .ret Γ)=(m0k a8I i).bind fun h=>some (wrap .i64 h):=by kernel_rfl
theorem c5C(x:Int):h0m a7W a9Q (a9Q.map fun o=>(Md.x,o)) (Γ139 x) (fun Γ=>b7X .ret Γ)=(m0k a8I (A0o .u64 (wrap .u64 ((bits .u64 .and x (wrap .u64 (0-x)))*(285870213051353865:Int))) (58:Int))).bind fun h=>some (wrap .i64 h):=by
 rw[←List.take_append_drop 6 (a9Q.map fun o=>(Md.x,o)),b3B,c5A,c5B]
theorem c5V(x:Int):c0n a7W QH a7Q 1 (ini [.v (.int .u64)] x) b7X=a1r x:=by
 rw[c3X,b2R rfl,c5x];simp only[];rw[b2R rfl,c5y];simp only[];rw[b2R rfl,b7W];simp only[c0n];rw[c5z];exact congrArg (fun z=>bif x==(0:Int)then some (64:Int)else z) (c5C x)
theorem c6G(x):A0j a7W QH Tryz.f139 a1i.ps a1i.rs x=a1i.F x:=(c5w x).trans (c5V x)
def a4i(s:Z27):Option Z58:=(fun(a b:Int)=>cond (decide (b<a)) ((m0k s.2.1 b).bind fun x1=>some (.inl (bits .i64 .or s.1 x1,s.2.1,a,wrap .i64 (b+1),()))) (some (.inr (s.1,())))) s.2.2.1 s.2.2.2.1
def a2Z(x:LI):Option Int:=(y0s a4i (0,x,(x.length:Int),0,())).bind fun w2=>cond (w2.1==0) (some 0) ((a1r (wrap .u64 w2.1)).bind fun y3=>some (v0s y3 30))
def b4w:FSem:=⟨[.v QL],[.v QI],a2Z⟩
def H62:Hints:=⟨[(58,[3,.sv 6 QL,7,8],[Qe 0 [3]])],[],[]⟩
def a4j(s:Z14):Option Z61:=(fun(a b:Int)=>cond (decide (b<a)) ((m0k s.1 b).bind fun x2=>(show Option Z32 from cond (decide (x2<(-32768))) (some (s.1,a,b,true,())) (some (s.1,a,b,decide (x2≥32768),()))).bind fun z3=>cond z3.2.2.2.1 (some (.inr (Sum.inr ((false,()))))) (some (.inl (z3.1,z3.2.1,wrap .i64 (z3.2.2.1+1),())))) (some (.inr (Sum.inl ())))) s.2.1 s.2.2.1
def a3G(x:(LI×Int)):Option Bool:=(show Option (LI×(Bool×Unit))from cond (decide ((x.1.length:Int)<1)) (some (x.1,true,())) (cond (decide ((x.1.length:Int) > 32)) (some (x.1,true,())) (cond (decide (x.2<0)) (some (x.1,true,())) (some (x.1,decide (x.2 > 15),()))))).bind fun z1=>cond z1.2.1 (some false) ((y0s a4j (z1.1,(z1.1.length:Int),0,())).bind fun w4=>match w4 with |.inl a5=>some true |.inr b6=>some b6.1)
def b7Y:FSem:=⟨[.v QL,.v QI],[.v .bool],a3G⟩
def c8c:Hints:=⟨[(58,[.sv 23 QL,24,25],[Qe 0 [],Qr [.sv 4 .bool]])],[(6,[Qn [.sv 0 QL,.sv 22 .bool]]),(3737,[Qn [.sv 23 QL,24,25,.sv 34 .bool]])],[]⟩
def a5F(s:Z5):Option (Z5 ⊕ Z0):=cond (decide (s.2.1<3)) ((m0k s.1 s.2.1).bind fun x2=>(show Option Z18 from cond (decide (x2<(-64))) (some (s.1,s.2.1,true,())) (some (s.1,s.2.1,decide (x2 > 64),()))).bind fun z3=>cond z3.2.2.1 (some (.inr (Sum.inr ((false,()))))) (some (.inl (z3.1,wrap .i64 (z3.2.1+1),())))) (some (.inr (Sum.inl ())))
def a6O(x:(Int×LI)):Option Bool:=(show Option Z7 from cond (decide (x.1<2)) (some (true,x.2,())) (some (decide (x.1 > 1024),x.2,()))).bind fun z1=>cond z1.1 (some false) ((y0s a5F (z1.2.1,0,())).bind fun w4=>match w4 with |.inl a5=>some true |.inr b6=>some b6.1)
def c1z:FSem:=⟨[.v QI,.v (.arr 3 QI)],[.v .bool],a6O⟩
def c8d:Hints:=⟨[(58,[.sv 13 (.arr 3 QI),14],[Qe 0 [],Qr [.sv 4 .bool]])],[(6,[Qn [.sv 12 .bool,.vp 3 (.arr 3 QI)]]),(3737,[Qn [.sv 13 (.arr 3 QI),14,.sv 22 .bool]])],[]⟩
def a5G(x:(Int×Int×Unit)):Option Bool:=cond (decide (x.1≥1)) (cond (decide (x.1≤32)) (cond (decide (x.2.1≥0)) (some (decide (x.2.1≤8))) (some false)) (some false)) (some false)
def b7c:FSem:=⟨[.v Q3],[.v .bool],a5G⟩
def a4S(s:(Z6×Int×Int×Unit)):Option ((Z6×Int×Int×Unit) ⊕ Z0):=cond (decide (s.2.2.1<s.2.1)) ((m0k s.1 s.2.2.1).bind fun x1=>(a5G x1).bind fun y2=>cond (!y2) (some (.inr (Sum.inr ((false,()))))) (some (.inl (s.1,s.2.1,wrap .i64 (s.2.2.1+1),())))) (some (.inr (Sum.inl ())))
def a5Z(x:Z6):Option Bool:=cond (decide ((x.length:Int) > 3)) (some false) ((y0s a4S (x,(x.length:Int),0,())).bind fun w3=>match w3 with |.inl a4=>some true |.inr b5=>some b5.1)
def b3C:FSem:=⟨[.v (.list false Q3)],[.v .bool],a5Z⟩
def c8e:Hints:=⟨[(58,[.sv 8 (.list false Q3),9,10],[Qe 0 [],Qr [.sv 2 .bool]])],[],[]⟩
def a6w(x:(Int×Z95)):Option Bool:=(show Option (Int×Z99)from cond (x.1==0) (some (x.2.2,x.1,x.1==0,x.2.1,())) (some (x.2.2,x.1,x.1==1,x.2.1,()))).bind fun z1=>cond z1.2.2.1 (some true) (cond (z1.2.1==2) (cond (decide (z1.2.2.2.1.2.2.1≥0)) (cond (decide (z1.2.2.2.1.2.2.1≤4)) (some (decide (z1.2.2.2.1.2.2.1≤z1.1))) (some false)) (some false)) (cond (z1.2.1==3) ((a3G (z1.2.2.2.1.2.2.2.2.2.1,z1.2.2.2.1.2.2.2.1)).bind fun y2=>cond y2 (some (decide ((z1.2.2.2.1.2.2.2.2.2.1.length:Int)≤z1.1))) (some false)) (cond (z1.2.1==4) ((a3G (z1.2.2.2.1.2.2.2.2.2.1,z1.2.2.2.1.2.2.2.1)).bind fun y3=>cond y3 (cond (decide ((z1.2.2.2.1.2.2.2.2.2.1.length:Int)≤z1.1)) ((a6O (z1.2.2.2.1.2.2.2.2.1,z1.2.2.2.1.2.2.2.2.2.2.1)).bind fun y4=>some y4) (some false)) (some false)) (cond (z1.2.1==5) (cond (decide ((z1.2.2.2.1.2.2.2.2.2.2.2.1.length:Int) > 0)) ((a5Z z1.2.2.2.1.2.2.2.2.2.2.2.1).bind fun y5=>some y5) (some false)) (some false)))))
def c2T:FSem:=⟨[.v QI,.v Q31,.v QI],[.v .bool],a6w⟩
def c8f:Hints:=⟨[],[(26,[Qn [2,7,.sv 8 .bool,.vp 4 Q31]])],[]⟩
def a0X(x:LI):Option LI:=x0e x
def a1y:FSem:=⟨[.v QL],[.o QI],a0X⟩
def c4R:Cx:=b2Q [] [] 5 0
theorem c6H(x):A0j c4R QH Tryz.f192 a1y.ps a1y.rs x=a1y.F x:=Eq.trans (show _=w0u x by kernel_rfl) (A0x x)
def a3f(x:LI):Option LI:=x0e x
def a2a:FSem:=⟨[.v QL],[.v QL],a3f⟩
def c2U:Cx:=b2Q [] [] 5 0
theorem c5W(x):A0j c2U QH Tryz.f192 a2a.ps a2a.rs x=a2a.F x:=Eq.trans (show _=w0u x by kernel_rfl) (A0x x)
def a1f(x:Z6):Option Z6:=x0e x
def a1g:FSem:=⟨[.v (.list false Q3)],[.v (.list false Q3)],a1f⟩
def c2V:Cx:=b2Q [] [] 5 0
theorem c5X(x):A0j c2V QH Tryz.f204 a1g.ps a1g.rs x=a1g.F x:=Eq.trans (show _=w0u x by kernel_rfl) (A0x x)
def a4T(x:(Int×Z93)):Option Z93:=(show Option a9s from(show Option ((Z93×a9s) ⊕ (a9s ⊕ (Z93×a9s)))from cond (x.1==2) (some (Sum.inr (Sum.inl ((0,0,0,0,0,[],a00 3 0,[],[],(0,[],()),[],()),(x.1,0,x.2.2.2.1,0,0,[],a00 3 0,[],[],(0,[],()),[],()),())))) (cond (x.1==4) (some (Sum.inl ((0,0,0,0,0,[],a00 3 0,[],[],(0,[],()),[],()),(x.1,0,0,0,x.2.2.2.2.2.1,[],x.2.2.2.2.2.2.2.1,[],[],(0,[],()),[],()),x.2,()))) (cond (x.1==3) (some (Sum.inl ((0,0,0,0,0,[],a00 3 0,[],[],(0,[],()),[],()),(x.1,0,0,0,0,[],a00 3 0,[],[],(0,[],()),[],()),x.2,()))) (cond (x.1==5) (some (Sum.inr (Sum.inr (((0,0,0,0,0,[],a00 3 0,[],[],(0,[],()),[],()),(x.1,0,0,0,0,[],a00 3 0,[],[],(0,[],()),[],()),x.2,()))))) (some (Sum.inr (Sum.inl ((0,0,0,0,0,[],a00 3 0,[],[],(0,[],()),[],()),(x.1,0,0,0,0,[],a00 3 0,[],[],(0,[],()),[],()),())))))))).bind fun z1=>match z1 with |.inl a2=>((a3f a2.2.2.1.2.2.2.2.2.1).bind fun y4=>some (a2.1,(a2.2.1.1,a2.2.1.2.1,a2.2.1.2.2.1,a2.2.2.1.2.2.2.1,a2.2.1.2.2.2.2.1,y4,a2.2.1.2.2.2.2.2.2),())) |.inr b3=>(match b3 with |.inl a5=>some (a5.1,a5.2.1,()) |.inr b6=>((a1f b6.2.2.1.2.2.2.2.2.2.2.1).bind fun y7=>some (b6.1,(b6.2.1.1,b6.2.1.2.1,b6.2.1.2.2.1,b6.2.1.2.2.2.1,b6.2.1.2.2.2.2.1,b6.2.1.2.2.2.2.2.1,b6.2.1.2.2.2.2.2.2.1,y7,b6.2.1.2.2.2.2.2.2.2.2),())))).bind fun z8=>some z8.2.1
def b7Z:FSem:=⟨[.v QI,.v Q31],[.v Q31],a4T⟩
def c8g:Hints:=⟨[],[(7,[Qn [.box 4 Q31,.box 5 Q31,Qp 4 4,Qp 5 5]]),(232,[Qn [.box 4 Q31,.box 5 Q31,.vp 3 Q31,Qp 4 4,Qp 5 5],Qe 0 [.box 4 Q31,.box 5 Q31,Qp 4 4,Qp 5 5],Qe 4 [.box 4 Q31,.box 5 Q31,.vp 3 Q31,Qp 4 4,Qp 5 5]])],[(8,[.v,.v,.v,.v,.q,.w [0,5],.x,.x]),(9,[.v,.v,.v,.v,.v,.q,.w [0,5],.x,.x])]⟩
def a3H(x:Z95):Option Int:=cond (x.1.1==0) (some 1) (cond (x.1.1==1) (some x.2) (cond (x.1.1==2) (some x.1.2.2.1) ((show Option Z98 from cond (x.1.1==3) (some (x.1.1==3,x.1,())) (some (x.1.1==4,x.1,()))).bind fun z1=>cond z1.1 (some (z1.2.1.2.2.2.2.2.1.length:Int)) (some 0))))
def b8a:FSem:=⟨[.v Q31,.v QI],[.v QI],a3H⟩
def c8h:Hints:=⟨[],[(1727,[Qn [.sv 16 .bool,.vp 2 Q31]])],[]⟩
def b0M(s:Z14):Option Z61:=(fun(a b:Int)=>cond (decide (b<a)) ((m0k s.1 b).bind fun x1=>(show Option Z32 from cond (decide (x1<(-1073741824))) (some (s.1,a,b,true,())) (some (s.1,a,b,decide (x1≥1073741824),()))).bind fun z2=>cond z2.2.2.2.1 (some (.inr (Sum.inr ((false,()))))) (some (.inl (z2.1,z2.2.1,wrap .i64 (z2.2.2.1+1),())))) (some (.inr (Sum.inl ())))) s.2.1 s.2.2.1
def a2k(x:LI):Option Bool:=(y0s b0M (x,(x.length:Int),0,())).bind fun w3=>match w3 with |.inl a4=>some true |.inr b5=>some b5.1
def b8b:FSem:=⟨[.v QL],[.v .bool],a2k⟩
def c8i:Hints:=⟨[(26,[.sv 5 QL,6,7],[Qe 0 [],Qr [.sv 2 .bool]])],[(1689,[Qn [.sv 5 QL,6,7,.sv 16 .bool]])],[]⟩
def a4k(s:Z28):Option (Z28 ⊕ Z15):=(fun(a b:Int)(c:LI)=>cond (decide ((wrap .i64 (a+1))<(c.length:Int))) (cond ((decide (0≤(wrap .i64 (a+1))))&&(decide ((wrap .i64 (a+1))<(c.length:Int)))) (cond ((decide (0≤a))&&(decide (a<(c.length:Int)))) (cond ((decide (0≤a))&&(decide (a<(c.length:Int)))) (some (.inl (wrap .i64 (a+1),s.2.1,b,a05 c (a01 a) (wrap .i64 ((a04 c (a01 (wrap .i64 (a+1))) 0)-(a04 c (a01 a) 0))),()))) none) none) none) (some (.inr (s.2.1,b,c,())))) s.1 s.2.2.1 s.2.2.2.1
def a6n(s:Z15):Option (Z15 ⊕ (LI×Unit)):=cond (decide (s.2.1<s.1)) ((y0s a4k (0,s.1,s.2.1,s.2.2.1,())).bind fun w3=>cond ((decide (0≤(wrap .i64 ((w3.2.2.1.length:Int)-1))))&&(decide ((wrap .i64 ((w3.2.2.1.length:Int)-1))≤(w3.2.2.1.length:Int)))) (cond (decide ((a01 (wrap .i64 ((w3.2.2.1.length:Int)-1)))≤(a02 w3.2.2.1))) (some (.inl (w3.1,wrap .i64 (w3.2.1+1),a06 (a01 (wrap .i64 ((w3.2.2.1.length:Int)-1))) w3.2.2.1,()))) none) none) (some (.inr (s.2.2.1,())))
def a3I(x:(LI×Int)):Option (LI×Int):=(show Option Z18 from cond (decide (x.2<0)) (some (x.1,x.2,true,())) (cond (decide (x.2 > 4)) (some (x.1,x.2,true,())) (some (x.1,x.2,decide ((x.1.length:Int)<x.2),())))).bind fun z1=>cond z1.2.2.1 (some ([],1)) ((a2k z1.1).bind fun y2=>cond (!y2) (some ([],6)) (cond (lim (a02 z1.1)) ((y0s a6n (z1.2.1,0,z1.1,())).bind fun w4=>(a2k w4.1).bind fun y5=>cond (!y5) (some ([],6)) (some (w4.1,0))) none))
def b8c:FSem:=⟨[.v QL,.v QI],[.o QI,.v QI],a3I⟩
def c8j:Hints:=⟨[(250,[25,26,.own 6 6 QI],[Qe 0 [.own 6 6 QI]]),(64098,[7,25,26,.own 6 6 QI],[Qe 2 [25,26,.own 6 6 QI]])],[(6,[Qn [.sv 0 QL,1,.sv 19 .bool]])],[(11,[.q,.v,.q,.v,.v,.q,.q,.q,.v,.q,.q,.v,.x,.x])]⟩
def a4e(x:Int):Option Bool:=cond (decide (x≥(-1073741824))) (some (decide (x<1073741824))) (some false)
def b7d:FSem:=⟨[.v QI],[.v .bool],a4e⟩
def a2z(s:Z14):Option Z61:=cond (decide (s.2.2.1<s.2.1)) ((m0k s.1 s.2.2.1).bind fun x1=>(a4e x1).bind fun y2=>cond (!y2) (some (.inr (Sum.inr ((false,()))))) (some (.inl (s.1,s.2.1,wrap .i64 (s.2.2.1+1),())))) (some (.inr (Sum.inl ())))
def a2e(x:LI):Option Bool:=(y0s a2z (x,(x.length:Int),0,())).bind fun w3=>match w3 with |.inl a4=>some true |.inr b5=>some b5.1
def b3Y:FSem:=⟨[.v QL],[.v .bool],a2e⟩
def c8k:Hints:=⟨[(26,[.sv 5 QL,6,7],[Qe 0 [],Qr [.sv 2 .bool]])],[],[]⟩
def a2A(s:Z65):Option (Z65 ⊕ (Int×Int×Unit)):=(fun(a:LI)(b c:Int)(d:LI)(e f:Int)=>cond (decide (f<e)) ((m0k d f).bind fun x1=>cond (decide ((wrap .i64 ((wrap .i64 ((a.length:Int)-1))-f))<0)) (some (.inr (b,c,()))) ((m0k a (wrap .i64 ((wrap .i64 ((a.length:Int)-1))-f))).bind fun x2=>some (.inl (a,b,wrap .i64 (c+(wrap .i64 (x1*x2))),d,e,wrap .i64 (f+1),())))) (some (.inr (b,c,())))) s.1 s.2.1 s.2.2.1 s.2.2.2.1 s.2.2.2.2.1 s.2.2.2.2.2.1
def a3J(x:Z10):Option Int:=(y0s a2A (x.1,x.2.2,0,x.2.1,(x.2.1.length:Int),0,())).bind fun w3=>cond (decide (w3.1<0)) none (some (A0o .i64 w3.2.1 w3.1))
def b3Z:FSem:=⟨[.v QL,.v QL,.v QI],[.v QI],a3J⟩
def c8l:Hints:=⟨[(58,[.sv 0 QL,2,7,.sv 11 QL,12,13],[Qe 0 [2,7]])],[],[]⟩
def a3K(s:(LI×Z37)):Option ((LI×Z37) ⊕ Z41):=(fun(a:LI)(b c:Int)(d:LI)=>cond (decide (c<(a.length:Int))) ((m0k a c).bind fun x4=>cond ((decide (0≤c))&&(decide (c≤(a.length:Int)))) ((a3J (a06 (a01 c) a,s.2.1,b)).bind fun y5=>(a4e (wrap .i64 (x4-y5))).bind fun y6=>cond (!y6) (some (.inr (Sum.inr ((6,[],()))))) (cond (lim ((a02 d)+1)) (some (.inl (a,s.2.1,b,wrap .i64 (c+1),a03 d [wrap .i64 (x4-y5)],()))) none)) none) (some (.inr (Sum.inl (d,()))))) s.1 s.2.2.1 s.2.2.2.1 s.2.2.2.2.1
def a5H(x:Z10):Option (LI×Int):=(show Option Z44 from(a3G (x.2.1,x.2.2)).bind fun y1=>cond (!y1) (some (x.1,x.2.1,x.2.2,true,())) (some (x.1,x.2.1,x.2.2,decide ((x.1.length:Int)<(x.2.1.length:Int)),()))).bind fun z2=>cond z2.2.2.2.1 (some ([],1)) ((a2e z2.1).bind fun y3=>cond (!y3) (some ([],6)) (cond ((decide (0≤(wrap .i64 ((z2.1.length:Int)-(z2.2.1.length:Int)))))&&(lim (a01 (wrap .i64 ((z2.1.length:Int)-(z2.2.1.length:Int)))))) ((y0s a3K (z2.1,z2.2.1,z2.2.2.1,(z2.2.1.length:Int),[],())).bind fun w7=>match w7 with |.inl a8=>some (a8.1,0) |.inr b9=>some (b9.2.1,b9.1)) none))
def b7e:FSem:=⟨[.v QL,.v QL,.v QI],[.o QI,.v QI],a5H⟩
def c8m:Hints:=⟨[(250,[.sv 0 QL,.sv 1 QL,2,9,.own 8 8 QI],[Qe 0 [.own 8 8 QI],Qr [7,.own 6 6 QI]])],[(6,[Qn [.sv 0 QL,.sv 1 QL,2,.sv 21 .bool]])],[(9,[.v,.v,.v,.v,.v,.v,.v,.v,.v,.v,.x,.x])]⟩
def a6a(x:Int):Option Bool:=cond (decide (x≥(-1073741824))) (some (decide (x<1073741824))) (some false)
def b9y:FSem:=⟨[.v QI],[.v .bool],a6a⟩
def a3l(s:Z14):Option Z61:=cond (decide (s.2.2.1<s.2.1)) ((m0k s.1 s.2.2.1).bind fun x1=>(a6a x1).bind fun y2=>cond (!y2) (some (.inr (Sum.inr ((false,()))))) (some (.inl (s.1,s.2.1,wrap .i64 (s.2.2.1+1),())))) (some (.inr (Sum.inl ())))
def a3x(x:LI):Option Bool:=(y0s a3l (x,(x.length:Int),0,())).bind fun w3=>match w3 with |.inl a4=>some true |.inr b5=>some b5.1
def b5I:FSem:=⟨[.v QL],[.v .bool],a3x⟩
def c8n:Hints:=⟨[(26,[.sv 5 QL,6,7],[Qe 0 [],Qr [.sv 2 .bool]])],[],[]⟩
def a3m(s:(LI×(Int×Int×Z16))):Option ((LI×(Int×Int×Z16)) ⊕ (Int×Unit)):=(fun(a b c:Int)(d:LI)(e:Int)=>cond (decide (e<3)) ((m0k d e).bind fun x1=>cond (decide ((wrap .i64 ((wrap .i64 ((wrap .i64 (a-b))-1))+e))≥0)) ((m0k s.1 (wrap .i64 ((wrap .i64 ((wrap .i64 (a-b))-1))+e))).bind fun x2=>some (.inl (s.1,a,b,wrap .i64 (c+(wrap .i64 (x1*x2))),d,wrap .i64 (e+1),()))) (some (.inl (s.1,a,b,c,d,wrap .i64 (e+1),())))) (some (.inr (c,())))) s.2.1 s.2.2.1 s.2.2.2.1 s.2.2.2.2.1 s.2.2.2.2.2.1
def a3y(x:(LI×Z1)):Option Int:=(y0s a3m (x.1,x.2.1,x.2.2.1,0,x.2.2.2,0,())).bind fun w3=>some (A0o .i64 w3.1 6)
def b5J:FSem:=⟨[.v QL,.v QI,.v QI,.v (.arr 3 QI)],[.v QI],a3y⟩
def c8o:Hints:=⟨[(58,[.sv 0 QL,1,2,9,.sv 13 (.arr 3 QI),14],[Qe 0 [9]])],[],[]⟩
def a4U(s:(LI×Z74)):Option ((LI×Z74) ⊕ Z41):=(fun(a:LI)(b c:Int)(d e:LI)=>cond (decide (c<b)) ((m0k a c).bind fun x3=>(a3y (s.1,c,s.2.1,e)).bind fun y4=>(a6a (wrap .i64 (x3-y4))).bind fun y5=>cond (!y5) (some (.inr (Sum.inr ((6,[],()))))) (cond (lim ((a02 d)+1)) (some (.inl (s.1,s.2.1,a,b,wrap .i64 (c+1),a03 d [wrap .i64 (x3-y4)],e,()))) none)) (some (.inr (Sum.inl (d,()))))) s.2.2.1 s.2.2.2.1 s.2.2.2.2.1 s.2.2.2.2.2.1 s.2.2.2.2.2.2.1
def a6b(x:(LI×(Int×LI))):Option (LI×Int):=(a6O (x.2.1,x.2.2)).bind fun y1=>cond (!y1) (some ([],1)) ((a3x x.1).bind fun y2=>cond (!y2) (some ([],6)) (cond ((decide (0≤(x.1.length:Int)))&&(lim (a01 (x.1.length:Int)))) ((y0s a4U (x.1,x.2.1,x.1,(x.1.length:Int),0,[],x.2.2,())).bind fun w6=>match w6 with |.inl a7=>some (a7.1,0) |.inr b8=>some (b8.2.1,b8.1)) none))
def b9z:FSem:=⟨[.v QL,.v QI,.v (.arr 3 QI)],[.o QI,.v QI],a6b⟩
def c8p:Hints:=⟨[(250,[.sv 0 QL,1,.sv 22 QL,23,24,.own 8 8 QI,.vp 5 (.arr 3 QI)],[Qe 0 [.own 8 8 QI],Qr [7,.own 6 6 QI]])],[],[]⟩
def a4V(x:Int):Option Bool:=cond (decide (x≥(-1073741824))) (some (decide (x<1073741824))) (some false)
def b2S:FSem:=⟨[.v QI],[.v .bool],a4V⟩
def a2T(s:Z14):Option Z61:=cond (decide (s.2.2.1<s.2.1)) ((m0k s.1 s.2.2.1).bind fun x1=>(a4V x1).bind fun y2=>cond (!y2) (some (.inr (Sum.inr ((false,()))))) (some (.inl (s.1,s.2.1,wrap .i64 (s.2.2.1+1),())))) (some (.inr (Sum.inl ())))
def a4l(x:LI):Option Bool:=(y0s a2T (x,(x.length:Int),0,())).bind fun w3=>match w3 with |.inl a4=>some true |.inr b5=>some b5.1
def b0N:FSem:=⟨[.v QL],[.v .bool],a4l⟩
def c8q:Hints:=⟨[(26,[.sv 5 QL,6,7],[Qe 0 [],Qr [.sv 2 .bool]])],[],[]⟩
def a7r(x:(Int×Int×Unit)):Option (Z23×Int):=(a5G x).bind fun y1=>cond (!y1) none (cond ((decide (0≤x.1))&&((decide (x.1≤x.1))&&(lim (a01 x.1)))) (cond ((decide (0≤x.1))&&((decide (x.1≤x.1))&&(lim (a01 x.1)))) (some ((x.2.1,a00 (a01 x.1) 0,a00 (a01 x.1) 0,()),0)) none) none)
def b3D:FSem:=⟨[.v Q3],[.b Q12,.v QI],a7r⟩
def c8r:Hints:=⟨[],[],[(3,[.v,.v,.v,.v,.q,.v,.v,.q,.x,.x,.x,.x])]⟩
def a4m(x:Int):Option Int:=some (v0s (v0r x (-1073741824)) 1073741823)
def b4x:FSem:=⟨[.v QI],[.v QI],a4m⟩
def a2y(s:Z76):Option (Z76 ⊕ Z55):=(fun(a:Int)(b:Z23)=>cond (decide (a<s.2.1)) (cond ((decide (0≤a))&&(decide (a<(b.2.1.length:Int)))) (cond ((decide (0≤a))&&(decide (a<(b.2.2.1.length:Int)))) (some (.inl (wrap .i64 (s.1+(wrap .i64 ((a04 b.2.1 (a01 a) 0)*(a04 b.2.2.1 (a01 a) 0)))),s.2.1,wrap .i64 (a+1),b,()))) none) none) (some (.inr (s.1,b,())))) s.2.2.1 s.2.2.2.1
def a1G(x:Z23):Option Z38:=(y0s a2y (0,(x.2.1.length:Int),0,x,())).bind fun w1=>(a4m (A0o .i64 w1.1 16)).bind fun y2=>some (y2,w1.2.1)
def a7X:FSem:=⟨[.r false (.b Q12)],[.v QI],a1G⟩
def c8s:Hints:=⟨[(58,[3,10,11,.box pinned Q12,Qp 0 pinned,.ref 9 pinned [.snd,.fst]],[Qe 0 [3,.box pinned Q12]])],[],[]⟩
def a1V(s:(Int×Z76)):Option ((Int×Z76) ⊕ Z55):=(fun(a b c d:Int)(e:Z23)=>cond (decide (d<c)) (cond ((decide (0≤d))&&(decide (d<(e.2.2.1.length:Int)))) (cond ((decide (0≤d))&&(decide (d<(e.2.1.length:Int)))) ((show Option (Int×Int×Int×Z76)from cond (decide ((a04 e.2.2.1 (a01 d) 0) > 0)) (some (a,b,d,wrap .i64 ((a04 e.2.1 (a01 d) 0)+b),c,d,e,())) (cond (decide ((a04 e.2.2.1 (a01 d) 0)<0)) (some (a,b,d,wrap .i64 ((a04 e.2.1 (a01 d) 0)-b),c,d,e,())) (some (a,b,d,a04 e.2.1 (a01 d) 0,c,d,e,())))).bind fun z4=>cond ((decide (0≤z4.2.2.1))&&(decide (z4.2.2.1<(z4.2.2.2.2.2.2.1.2.1.length:Int)))) (some (.inl (z4.1,z4.2.1,z4.2.2.2.2.1,wrap .i64 (z4.2.2.2.2.2.1+1),(z4.2.2.2.2.2.2.1.1,a05 z4.2.2.2.2.2.2.1.2.1 (a01 z4.2.2.1) (v0s (v0r z4.2.2.2.1 (-1048576)) 1048576),z4.2.2.2.2.2.2.1.2.2),()))) none) none) none) (some (.inr (a,e,())))) s.1 s.2.1 s.2.2.1 s.2.2.2.1 s.2.2.2.2.1
def a2B(x:(Z23×Int)):Option Z23:=(a4m x.2).bind fun y1=>(show Option Z68 from(a1G x.1).bind fun y2=>cond (decide (y1 > y2.1)) (cond (decide (y2.2.1<0)) none (some (y1,A0n .i64 1 y2.2.1,y2.2,()))) (cond (decide (y1<y2.1)) (cond (decide (y2.2.1<0)) none (some (y1,wrap .i64 (0-(A0n .i64 1 y2.2.1)),y2.2,()))) (some (y1,0,y2.2,())))).bind fun z3=>(y0s a1V (z3.1,z3.2.1,(z3.2.2.1.2.2.1.length:Int),0,z3.2.2.1,())).bind fun w5=>cond (decide (1≤(w5.2.1.2.2.1.length:Int))) (cond (decide (0<(a02 (p0h w5.2.1.2.2.1 1 ((a02 w5.2.1.2.2.1)-1) w5.2.1.2.2.1):Int))) (some (w5.2.1.1,w5.2.1.2.1,a05 (p0h w5.2.1.2.2.1 1 ((a02 w5.2.1.2.2.1)-1) w5.2.1.2.2.1) 0 w5.1,w5.2.1.2.2.2)) none) none
def a8t:FSem:=⟨[.r false (.b Q12),.v QI],[],a2B⟩
def c8t:Hints:=⟨[(122,[1,4,36,37,.box pinned Q12,Qp 0 pinned,.ref 35 pinned [.snd,.snd,.fst]],[Qe 1 [1,.box pinned Q12,Qp 0 pinned]])],[(7,[Qn [1,4,.box pinned Q12,Qp 0 pinned]]),(15667,[Qn [1,4,6,8,36,37,.box pinned Q12,Qp 0 pinned,.ref 35 pinned [.snd,.snd,.fst]]])],[(17,[.p,.p,.q,.q,.q,.p,.p,.q,.q,.x])]⟩
def a4n(s:(Z6×Int×Int×Int×Z75)):Option ((Z6×Int×Int×Int×Z75) ⊕ ((Z6×Z15) ⊕ Z4)):=(fun(a b c:Int)(d:LI)=>cond (decide (c<b)) (cond ((decide (0≤c))&&(decide (c<(d.length:Int)))) ((a1G s.2.2.2.2.2.2.1).bind fun y6=>(a4V (wrap .i64 ((a04 d (a01 c) 0)-y6.1))).bind fun y7=>cond (!y7) (some (.inr (Sum.inr ((6,[],()))))) ((a2B (y6.2,a04 d (a01 c) 0)).bind fun y8=>cond ((decide (0≤c))&&(decide (c<(d.length:Int)))) (some (.inl (s.1,s.2.1,a,b,wrap .i64 (c+1),a05 d (a01 c) (wrap .i64 ((a04 d (a01 c) 0)-y6.1)),y8,()))) none)) none) (some (.inr (Sum.inl (s.1,s.2.1,a,d,()))))) s.2.2.1 s.2.2.2.1 s.2.2.2.2.1 s.2.2.2.2.2.1
def a4o(s:(Z6×Z15)):Option ((Z6×Z15) ⊕ Z41):=(fun(a:Int)(b:LI)=>cond (decide (a<s.2.1)) ((m0k s.1 a).bind fun x4=>(a7r x4).bind fun y5=>cond (y5.2 != 0) (some (.inr (Sum.inr ((y5.2,[],()))))) ((y0s a4n (s.1,s.2.1,a,(b.length:Int),0,b,y5.1,())).bind fun w9=>match w9 with |.inl a10=>some (.inl (a10.1,a10.2.1,wrap .i64 (a10.2.2.1+1),a10.2.2.2.1,())) |.inr b11=>some (.inr (Sum.inr ((b11.1,b11.2.1,())))))) (some (.inr (Sum.inl (b,()))))) s.2.2.1 s.2.2.2.1
def a7Y(x:(LI×Z6)):Option (LI×Int):=(a5Z x.2).bind fun y1=>cond (!y1) (some ([],1)) ((a4l x.1).bind fun y2=>cond (!y2) (some ([],6)) ((a0X x.1).bind fun y3=>(y0s a4o (x.2,(x.2.length:Int),0,y3,())).bind fun w12=>match w12 with |.inl a13=>some (a13.1,0) |.inr b14=>some (b14.2.1,b14.1)))
def b8d:FSem:=⟨[.v QL,.v (.list false Q3)],[.o QI,.v QI],a7Y⟩
def c8u:Hints:=⟨[(250,[.sv 22 (.list false Q3),23,24,.own 6 6 QI],[Qe 0 [.own 6 6 QI],Qr [5,.own 4 4 QI]]),(256414,[.sv 22 (.list false Q3),23,24,37,38,.own 6 6 QI,.box 1030 Q12,Qp 9 1030,.ref 36 6 []],[Qe 2 [.sv 22 (.list false Q3),23,24,.own 6 6 QI],Qr [5,.own 4 4 QI]])],[],[]⟩
def a8J(x:(Z93×LI)):Option (Int×Z93):=(show Option (LI×(LI×(Int×Z96)))from cond (x.1.1==2) ((a3I (x.2,x.1.2.2.1)).bind fun y1=>some (x.2,y1.1,y1.2,x.1,())) (cond (x.1.1==3) ((a5H (x.2,x.1.2.2.2.2.2.1,x.1.2.2.2.1)).bind fun y2=>some (x.2,y2.1,y2.2,x.1,())) (cond (x.1.1==4) ((a6b (x.2,x.1.2.2.2.2.1,x.1.2.2.2.2.2.2.1)).bind fun y3=>cond (y3.2==0) ((a5H (y3.1,x.1.2.2.2.2.2.1,x.1.2.2.2.1)).bind fun y4=>some (y3.1,y4.1,y4.2,x.1,())) (some (y3.1,[],y3.2,x.1,()))) (cond (x.1.1==5) ((a7Y (x.2,x.1.2.2.2.2.2.2.2.1)).bind fun y5=>some (x.2,y5.1,y5.2,x.1,())) (some (x.2,[],0,x.1,())))))).bind fun z6=>cond (z6.2.2.1 != 0) (some (z6.2.2.1,z6.2.2.2.1)) ((a3H (z6.2.2.2.1,(z6.1.length:Int))).bind fun y7=>cond ((decide (0≤y7))&&(decide (y7≤(z6.1.length:Int)))) ((a0X (a06 (a01 y7) z6.1)).bind fun y8=>some (0,z6.2.2.2.1.1,z6.2.2.2.1.2.1,z6.2.2.2.1.2.2.1,z6.2.2.2.1.2.2.2.1,z6.2.2.2.1.2.2.2.2.1,z6.2.2.2.1.2.2.2.2.2.1,z6.2.2.2.1.2.2.2.2.2.2.1,z6.2.2.2.1.2.2.2.2.2.2.2.1,y8,z6.2.2.2.1.2.2.2.2.2.2.2.2.2.1,z6.2.1,z6.2.2.2.1.2.2.2.2.2.2.2.2.2.2.2)) none)
def b9A:FSem:=⟨[.r false (.b Q31),.v QL],[.v QI],a8J⟩
def c8v:Hints:=⟨[],[(15,[Qn [.sv 1 QL,.sv 5 QL,6,.box pinned Q31,Qp 0 pinned]])],[(7,[.v,.p,.p,.q,.q,.p,.p,.q,.q,.x,.x,.q,.q,.q,.x]),(9,[.v,.p,.p,.q,.q,.p,.p,.q,.q,.x,.x,.q,.q,.q,.x]),(11,[.q,.p,.p,.q,.q,.p,.p,.q,.q,.x,.x,.q,.q,.q,.x])]⟩
def a6c(x:(Int×Int)):Option Bool:=cond (decide (1≤x.1)) (cond (decide (x.1≤4096)) (cond (decide (0≤x.2)) (some (decide (x.2≤x.1))) (some false)) (some false)) (some false)
def b9B:FSem:=⟨[.v QI,.v QI],[.v .bool],a6c⟩
def a5s(s:Z15):Option (Z15 ⊕ (LI×Unit)):=(fun(a:LI)=>cond (decide (s.1<0)) none (cond (decide ((a.length:Int)<(A0n .i64 1 s.1))) (cond (lim ((a02 a)+1)) (some (.inl (s.1,s.2.1,a03 a [s.2.1],()))) none) (some (.inr (a,()))))) s.2.2.1
def a2s(x:(Int×Int×Int)):Option LI:=(show Option Z22 from(a6c (x.2.1,x.2.2)).bind fun y1=>cond (!y1) (some (x.1,x.2.1,x.2.2,true,())) (cond (decide (x.1<0)) (some (x.1,x.2.1,x.2.2,true,())) (some (x.1,x.2.1,x.2.2,decide (x.1 > 8),())))).bind fun z2=>cond z2.2.2.2.1 (some []) (cond (decide (z2.1<0)) none ((show Option Z22 from cond (decide (z2.1<0)) none (cond ((A0n .i64 (A0o .i64 z2.2.1 z2.1) z2.1) != z2.2.1) (some (z2.1,z2.2.2.1,A0o .i64 z2.2.1 z2.1,true,())) (some (z2.1,z2.2.2.1,A0o .i64 z2.2.1 z2.1,decide ((A0o .i64 z2.2.1 z2.1)<z2.2.2.1),())))).bind fun z3=>cond z3.2.2.2.1 (some []) ((y0s a5s (z3.1,z3.2.2.1,[wrap .i64 (z3.2.2.1-z3.2.1)],())).bind fun w4=>some w4.1)))
def b7f:FSem:=⟨[.v QI,.v QI,.v QI],[.o QI],a2s⟩
def c8w:Hints:=⟨[(252,[0,7,.own 8 8 QI],[Qe 0 [.own 8 8 QI]])],[(6,[Qn [0,1,2,.sv 20 .bool]]),(30,[Qn [0,2,7,.sv 33 .bool]])],[]⟩
def a3z(s:Z14):Option Z61:=(fun(a:LI)(b c:Int)=>cond (decide (c<b)) ((m0k a c).bind fun x3=>(show Option Z32 from cond (decide (x3<0)) (some (a,b,c,x3 != 31,())) (cond (decide (x3 > 25)) (some (a,b,c,x3 != 31,())) (some (a,b,c,false,())))).bind fun z4=>cond z4.2.2.2.1 (some (.inr (Sum.inr ((false,()))))) (some (.inl (z4.1,z4.2.1,wrap .i64 (z4.2.2.1+1),())))) (some (.inr (Sum.inl ())))) s.1 s.2.1 s.2.2.1
def a7s(x:(Z4×Int×Int)):Option Bool:=(a2s (x.1.1,x.2.1,x.2.2)).bind fun y1=>(show Option (Bool×Z19)from cond ((y1.length:Int)==0) (some (true,x.1,())) (some ((x.1.2.1.length:Int) != (y1.length:Int),x.1,()))).bind fun z2=>cond z2.1 (some false) ((y0s a3z (z2.2.1.2.1,(z2.2.1.2.1.length:Int),0,())).bind fun w5=>match w5 with |.inl a6=>some true |.inr b7=>some b7.1)
def b9C:FSem:=⟨[.v Q7,.v QI,.v QI],[.v .bool],a7s⟩
def c8x:Hints:=⟨[(122,[.sv 27 QL,28,29],[Qe 0 [],Qr [.sv 6 .bool]])],[(14,[Qn [.sv 25 .bool,.vp 3 Q7]]),(7833,[Qn [.sv 27 QL,28,29,.sv 42 .bool]])],[]⟩
def a9R(s:Z14):Option Z61:=(fun(a b:Int)=>cond (decide (b<a)) ((m0k s.1 b).bind fun x3=>(show Option Z32 from cond (decide (x3<(-1073741824))) (some (s.1,a,b,true,())) (some (s.1,a,b,decide (x3≥1073741824),()))).bind fun z4=>cond z4.2.2.2.1 (some (.inr (Sum.inr ((false,()))))) (some (.inl (z4.1,z4.2.1,wrap .i64 (z4.2.2.1+1),())))) (some (.inr (Sum.inl ())))) s.2.1 s.2.2.1
def a5I(x:Z1):Option Bool:=(show Option (LI×(Bool×Unit))from(a6c (x.1,x.2.1)).bind fun y1=>cond (!y1) (some (x.2.2,true,())) (some (x.2.2,(x.2.2.length:Int) != (wrap .i64 (x.1-x.2.1)),()))).bind fun z2=>cond z2.2.1 (some false) ((y0s a9R (z2.1,(z2.1.length:Int),0,())).bind fun w5=>match w5 with |.inl a6=>some true |.inr b7=>some b7.1)
def b7g:FSem:=⟨[.v QI,.v QI,.v QL],[.v .bool],a5I⟩
def c8y:Hints:=⟨[(58,[.sv 21 QL,22,23],[Qe 0 [],Qr [.sv 6 .bool]])],[(6,[Qn [.sv 2 QL,.sv 20 .bool]]),(3737,[Qn [.sv 21 QL,22,23,.sv 32 .bool]])],[]⟩
def a9S(x:Int):Option Int:=(show Option (Int×Bool×Unit)from cond (decide (x<1)) (some (x,true,())) (some (x,decide (x > 31),()))).bind fun z1=>cond z1.2.1 (some 0) (cond (decide ((wrap .i64 (z1.1-1))<0)) none (some (A0n .i64 (-1) (wrap .i64 (z1.1-1)))))
def b8e:FSem:=⟨[.v QI],[.v QI],a9S⟩
def c8z:Hints:=⟨[],[(6,[Qn [0,.sv 8 .bool]])],[]⟩
def a9t(x:Int):Option Int:=(show Option (Int×Bool×Unit)from cond (decide (x<1)) (some (x,true,())) (some (x,decide (x > 31),()))).bind fun z1=>cond z1.2.1 (some 0) (cond (decide ((wrap .i64 (z1.1-1))<0)) none (some (wrap .i64 ((A0n .i64 1 (wrap .i64 (z1.1-1)))-1))))
def b7h:FSem:=⟨[.v QI],[.v QI],a9t⟩
def c8A:Hints:=⟨[],[(6,[Qn [0,.sv 8 .bool]])],[]⟩
def a3g(x:(Int×Int)):Option Bool:=cond (decide (x.2≥1)) (cond (decide (x.2≤31)) ((a9S x.2).bind fun y1=>cond (decide (y1≤x.1)) ((a9t x.2).bind fun y2=>some (decide (x.1≤y2))) (some false)) (some false)) (some false)
def b7i:FSem:=⟨[.v QI,.v QI],[.v .bool],a3g⟩
def a2p(s:Z43):Option (Z43 ⊕ Z27):=(fun(a b:Int)(c:LI)(d e:Int)=>cond (b != 0) (cond (decide (a<32)) ((a3g (b,a)).bind fun y2=>cond (!y2) (some (.inl (wrap .i64 (a+1),b,c,d,e,()))) (some (.inr (a,c,d,e,())))) (some (.inr (a,c,d,e,())))) (some (.inr (a,c,d,e,())))) s.1 s.2.1 s.2.2.1 s.2.2.2.1 s.2.2.2.2.1
def a4L(s:Z27):Option Z58:=(fun(a b:Int)=>cond (decide (b<a)) ((m0k s.2.1 b).bind fun x1=>(y0s a2p (s.1,x1,s.2.1,a,b,())).bind fun w3=>some (.inl (w3.1,w3.2.1,w3.2.2.1,wrap .i64 (w3.2.2.2.1+1),()))) (some (.inr (s.1,())))) s.2.2.1 s.2.2.2.1
def a1k(x:LI):Option Int:=(y0s a4L (0,x,(x.length:Int),0,())).bind fun w4=>some w4.1
def b5K:FSem:=⟨[.v QL],[.v QI],a1k⟩
def c8B:Hints:=⟨[(58,[3,.sv 6 QL,7,8],[Qe 0 [3]]),(7474,[3,5,.sv 6 QL,7,8],[Qe 2 [3,.sv 6 QL,7,8]])],[],[]⟩
def a4G(x:LI):Option Int:=(a1k x).bind fun y1=>some (wrap .i64 (5+(wrap .i64 (y1*(x.length:Int)))))
def b9D:FSem:=⟨[.v QL],[.v QI],a4G⟩
def a1D(x:Int):Option Bool:=cond (decide (0≤x)) (some (decide (x≤25))) (some false)
def b4a:FSem:=⟨[.v QI],[.v .bool],a1D⟩
def a6d(x:Int):Option Bool:=cond (decide ((-1073741824)≤x)) (some (decide (x<1073741824))) (some false)
def b9E:FSem:=⟨[.v QI],[.v .bool],a6d⟩
def a7t(x:Int):Option Int:=(a6d x).bind fun y1=>cond (!y1) (some 0) (cond (decide (x≥0)) (some (wrap .u64 (wrap .i64 (2*x)))) (some (wrap .u64 (wrap .i64 ((wrap .i64 ((-2)*x))-1)))))
def b9F:FSem:=⟨[.v QI],[.v QU],a7t⟩
def a6e(x:(Int×Int)):Option Int:=(show Option Z9 from(a1D x.1).bind fun y1=>cond (!y1) (some (x.1,x.2,true,())) ((a6d x.2).bind fun y2=>some (x.1,x.2,!y2,()))).bind fun z3=>cond z3.2.2.1 (some 0) ((a7t z3.2.1).bind fun y4=>cond (decide (z3.1<0)) none (cond (decide ((wrap .i64 (A0o .u64 y4 z3.1))<32)) (some (wrap .i64 ((wrap .i64 ((wrap .i64 (A0o .u64 y4 z3.1))+1))+z3.1))) (some 65)))
def b9G:FSem:=⟨[.v QI,.v QI],[.v QI],a6e⟩
def c8C:Hints:=⟨[],[(6,[Qn [0,1,.sv 13 .bool]])],[]⟩
def a3h(s:Z43):Option (Z43 ⊕ (Int×Unit)):=(fun(a:LI)(b c:Int)=>cond (decide (c<b)) ((m0k a c).bind fun x1=>(a6e (s.1,x1)).bind fun y2=>some (.inl (s.1,wrap .i64 (s.2.1+y2),a,b,wrap .i64 (c+1),()))) (some (.inr (s.2.1,())))) s.2.2.1 s.2.2.2.1 s.2.2.2.2.1
def a2J(x:(Int×LI)):Option Int:=(y0s a3h (x.1,0,x.2,(x.2.length:Int),0,())).bind fun w3=>some w3.1
def c1A:FSem:=⟨[.v QI,.v QL],[.v QI],a2J⟩
def c8D:Hints:=⟨[(58,[0,5,.sv 8 QL,9,10],[Qe 0 [5]])],[],[]⟩
def a1m(s:(LI×(Int×(Int×(Int×(LI×Z19)))))):Option ((LI×(Int×(Int×(Int×(LI×Z19))))) ⊕ (Int×Unit)):=(fun(a:LI)(b c d:Int)(e:LI)(f:Z4)=>cond (decide (d<c)) (cond ((decide (0≤d))&&(decide (d<(e.length:Int)))) (cond ((decide (0≤(a04 e (a01 d) 0)))&&(decide ((a04 e (a01 d) 0)≤(a.length:Int)))) (cond ((decide (0≤(a04 e (a01 d) 0)))&&(decide ((a04 e (a01 d) 0)≤(a.length:Int)))) ((m0k f.2.1 d).bind fun x5=>cond (x5==31) ((a4G (a06 (a01 (a04 e (a01 d) 0)) a)).bind fun y6=>some (.inl (a23 (a01 (a04 e (a01 d) 0)) (a06 (a02 a) a),wrap .i64 (b+(wrap .i64 (5+y6))),c,wrap .i64 (d+1),e,f,()))) ((m0k f.2.1 d).bind fun x7=>(a2J (x7,a06 (a01 (a04 e (a01 d) 0)) a)).bind fun y8=>some (.inl (a23 (a01 (a04 e (a01 d) 0)) (a06 (a02 a) a),wrap .i64 (b+(wrap .i64 (5+y8))),c,wrap .i64 (d+1),e,f,())))) none) none) none) (some (.inr (b,())))) s.1 s.2.1 s.2.2.1 s.2.2.2.1 s.2.2.2.2.1 s.2.2.2.2.2.1
def a3L(x:(Z4×Z1)):Option Int:=(show Option (Int×(Int×(LI×(Bool×Z19))))from(a7s (x.1,x.2.1,x.2.2.1)).bind fun y1=>cond (!y1) (some (x.2.1,x.2.2.1,x.2.2.2,true,x.1,())) ((a5I (x.2.1,x.2.2.1,x.2.2.2)).bind fun y2=>some (x.2.1,x.2.2.1,x.2.2.2,!y2,x.1,()))).bind fun z3=>cond z3.2.2.2.1 (some 0) ((a2s (z3.2.2.2.2.1.1,z3.1,z3.2.1)).bind fun y4=>(y0s a1m (z3.2.2.1,4,(y4.length:Int),0,y4,z3.2.2.2.2.1,())).bind fun w9=>some w9.1)
def b8f:FSem:=⟨[.v Q7,.v QI,.v QI,.v QL],[.v QI],a3L⟩
def c8E:Hints:=⟨[(122,[.sv 3 QL,9,30,31,.own 29 1029 QI,.vp 4 Q7],[Qe 0 [9]])],[(6,[Qn [1,2,.sv 3 QL,.sv 24 .bool,.vp 4 Q7]])],[]⟩
def a6P(s:Z29):Option (Z29 ⊕ (Int×Unit)):=(fun(a b:Int)=>cond (decide (b≤25)) ((a2J (b,s.1)).bind fun y2=>cond (decide (y2<a)) (some (.inl (s.1,b,y2,wrap .i64 (b+1),()))) (some (.inl (s.1,s.2.1,a,wrap .i64 (b+1),())))) (some (.inr (s.2.1,())))) s.2.2.1 s.2.2.2.1
def a8K(x:LI):Option Int:=(a2J (0,x)).bind fun y1=>(y0s a6P (x,0,y1,1,())).bind fun w3=>some w3.1
def b9H:FSem:=⟨[.v QL],[.v QI],a8K⟩
def c8F:Hints:=⟨[(58,[.sv 0 QL,3,4,5],[Qe 0 [3]])],[],[]⟩
def a6Q(x:LI):Option Int:=(a8K x).bind fun y1=>(a4G x).bind fun y2=>(a2J (y1,x)).bind fun y3=>cond (decide (y2<y3)) (some 31) (some y1)
def b5L:FSem:=⟨[.v QL],[.v QI],a6Q⟩
def a6o(s:(Int×(Int×(Int×(LI×(Int×(Int×(LI×(Int×(Int×(LI×Z85))))))))))):Option ((Int×(Int×(Int×(LI×(Int×(Int×(LI×(Int×(Int×(LI×Z85)))))))))) ⊕ (Int×(Int×(Int×(LI×(Int×Int×Z85)))))):=(fun(a:Int)(b:LI)(c d:Int)(e:LI)(f g:Int)(h:LI)(i j k:Z4)=>cond (decide (g<f)) (cond ((decide (0≤g))&&(decide (g<(h.length:Int)))) (cond ((decide (0≤(a04 h (a01 g) 0)))&&(decide ((a04 h (a01 g) 0)≤(e.length:Int)))) ((a6Q (a06 (a01 (a04 h (a01 g) 0)) e)).bind fun y3=>cond (lim ((a02 k.2.1)+1)) (cond ((decide (0≤(a04 h (a01 g) 0)))&&(decide ((a04 h (a01 g) 0)≤(e.length:Int)))) (some (.inl (s.1,s.2.1,a,b,c,d,a23 (a01 (a04 h (a01 g) 0)) (a06 (a02 e) e),f,wrap .i64 (g+1),h,i,j,(k.1,a03 k.2.1 [y3],k.2.2),()))) none) none) none) none) (some (.inr (s.1,s.2.1,a,b,c,d,i,j,k,())))) s.2.2.1 s.2.2.2.1 s.2.2.2.2.1 s.2.2.2.2.2.1 s.2.2.2.2.2.2.1 s.2.2.2.2.2.2.2.1 s.2.2.2.2.2.2.2.2.1 s.2.2.2.2.2.2.2.2.2.1 s.2.2.2.2.2.2.2.2.2.2.1 s.2.2.2.2.2.2.2.2.2.2.2.1 s.2.2.2.2.2.2.2.2.2.2.2.2.1
def a3a(s:(Int×(Int×(Int×(LI×(Int×Int×Z71)))))):Option ((Int×(Int×(Int×(LI×(Int×Int×Z71))))) ⊕ Z71):=(fun(a b:Int)(c:LI)(d e:Int)(f g:Z4)=>cond (decide (e≤(v0s (v0r b 0) 8))) ((a2s (e,s.1,a)).bind fun y2=>cond ((y2.length:Int)==0) (some (.inl (s.1,a,b,c,d,wrap .i64 (e+1),f,g,()))) ((y0s a6o (s.1,a,b,c,d,e,c,(y2.length:Int),0,y2,f,g,(e,[],()),())).bind fun w4=>(a3L (w4.2.2.2.2.2.2.2.2.1,w4.1,w4.2.1,w4.2.2.2.1)).bind fun y5=>(show Option (Int×(Int×(Int×(LI×(Int×Int×Int×Bool×Z85)))))from cond (w4.2.2.2.2.1==0) (some (w4.1,w4.2.1,w4.2.2.1,w4.2.2.2.1,w4.2.2.2.2.1,w4.2.2.2.2.2.1,y5,true,w4.2.2.2.2.2.2.1,w4.2.2.2.2.2.2.2.1,w4.2.2.2.2.2.2.2.2.1,())) (some (w4.1,w4.2.1,w4.2.2.1,w4.2.2.2.1,w4.2.2.2.2.1,w4.2.2.2.2.2.1,y5,decide (y5<w4.2.2.2.2.1),w4.2.2.2.2.2.2.1,w4.2.2.2.2.2.2.2.1,w4.2.2.2.2.2.2.2.2.1,()))).bind fun z6=>cond z6.2.2.2.2.2.2.2.1 (some (.inl (z6.1,z6.2.1,z6.2.2.1,z6.2.2.2.1,z6.2.2.2.2.2.2.1,wrap .i64 (z6.2.2.2.2.2.1+1),z6.2.2.2.2.2.2.2.2.1,z6.2.2.2.2.2.2.2.2.2.2.1,()))) (some (.inl (z6.1,z6.2.1,z6.2.2.1,z6.2.2.2.1,z6.2.2.2.2.1,wrap .i64 (z6.2.2.2.2.2.1+1),z6.2.2.2.2.2.2.2.2.1,z6.2.2.2.2.2.2.2.2.2.1,()))))) (some (.inr (f,g,())))) s.2.1 s.2.2.1 s.2.2.2.1 s.2.2.2.2.1 s.2.2.2.2.2.1 s.2.2.2.2.2.2.1 s.2.2.2.2.2.2.2.1
def a7Z(x:(Int×Z1)):Option (Z4×Int):=(a5I (x.1,x.2.1,x.2.2.2)).bind fun y1=>cond (!y1) (some ((0,[],()),1)) ((y0s a3a (x.1,x.2.1,x.2.2.1,x.2.2.2,0,0,(0,[],()),(0,[],()),())).bind fun w7=>some (w7.2.1,0))
def b8g:FSem:=⟨[.v QI,.v QI,.v QI,.v QL],[.v Q7,.v QI],a7Z⟩
def c8G:Hints:=⟨[(250,[0,1,2,.sv 3 QL,11,12,.box 8 Q7,.box 10 Q7,Qp 8 8,Qp 10 10],[Qe 0 [.box 8 Q7,.box 10 Q7,Qp 8 8,Qp 10 10]]),(512634,[0,1,2,.sv 3 QL,11,12,.sv 15 QL,43,44,.own 42 13 QI,.box 8 Q7,.box 10 Q7,.box 14 Q6,Qp 8 8,Qp 10 10,Qp 14 14],[Qe 2 [0,1,2,.sv 3 QL,11,12,.box 8 Q7,.box 10 Q7,.box 14 Q6,Qp 8 8,Qp 10 10,Qp 14 14]])],[(256319,[Qn [0,1,2,.sv 3 QL,11,12,18,.sv 72 .bool,.box 8 Q7,.box 10 Q7,.box 14 Q7,Qp 8 8,Qp 10 10,Qp 14 14]])],[(15,[.q,.q,.v,.v,.v,.v,.q,.x,.x,.x])]⟩
def a4f(s:(LI×(LI×c1v))):Option ((LI×(LI×c1v)) ⊕ ((LI×a9s) ⊕ (Int×Z96))):=(fun(a b:Int)(c d:Z93)=>cond (decide (b<a)) ((m0k s.2.1 b).bind fun x5=>(m0k s.1 0).bind fun x6=>cond (x5 != x6) (some (.inr (Sum.inr ((7,(0,0,0,0,0,[],a00 3 0,[],[],(0,[],()),[],()),()))))) (some (.inl (s.1,s.2.1,a,wrap .i64 (b+1),c,d,())))) (some (.inr (Sum.inl (s.1,c,d,()))))) s.2.2.1 s.2.2.2.1 s.2.2.2.2.1 s.2.2.2.2.2.1
def a9w(x:(Int×(LI×Z93))):Option Z95:=(show Option (Int×(LI×(Int×Bool×a9s)))from cond (decide ((x.2.1.length:Int)<1)) (some (x.1,x.2.1,(x.2.1.length:Int),true,(0,0,0,0,0,[],a00 3 0,[],[],(0,[],()),[],()),x.2.2,())) (cond (decide ((x.2.1.length:Int) > 4096)) (some (x.1,x.2.1,(x.2.1.length:Int),true,(0,0,0,0,0,[],a00 3 0,[],[],(0,[],()),[],()),x.2.2,())) ((a6w (x.1,x.2.2,(x.2.1.length:Int))).bind fun y1=>some (x.1,x.2.1,(x.2.1.length:Int),!y1,(0,0,0,0,0,[],a00 3 0,[],[],(0,[],()),[],()),x.2.2,())))).bind fun z2=>cond z2.2.2.2.1 (some ((0,0,0,0,0,[],a00 3 0,[],[],(0,[],()),[],()),1)) ((a1Z z2.2.1).bind fun y3=>cond (!y3) (some ((0,0,0,0,0,[],a00 3 0,[],[],(0,[],()),[],()),6)) ((a4T (z2.1,z2.2.2.2.2.2.1)).bind fun y4=>cond (z2.1==0) ((y0s a4f (z2.2.1,z2.2.1,(z2.2.1.length:Int),0,z2.2.2.2.2.1,y4,())).bind fun w7=>match w7 with |.inl a8=>((m0k a8.1 0).bind fun x10=>some ((a8.2.2.1.1,a8.2.2.1.2.1,a8.2.2.1.2.2.1,a8.2.2.1.2.2.2.1,a8.2.2.1.2.2.2.2.1,a8.2.2.1.2.2.2.2.2.1,a8.2.2.1.2.2.2.2.2.2.1,a8.2.2.1.2.2.2.2.2.2.2.1,[x10],a8.2.2.1.2.2.2.2.2.2.2.2.2),0)) |.inr b9=>some (b9.2.1,b9.1)) ((a2Z z2.2.1).bind fun y11=>(a5E (z2.2.1,y11)).bind fun y12=>cond (y12.2 != 0) (some ((0,0,0,0,0,[],a00 3 0,[],[],(0,[],()),[],()),6)) (cond (z2.1==1) (some ((y4.1,y11,y4.2.2.1,y4.2.2.2.1,y4.2.2.2.2.1,y4.2.2.2.2.2.1,y4.2.2.2.2.2.2.1,y4.2.2.2.2.2.2.2.1,y12.1,y4.2.2.2.2.2.2.2.2.2),0)) ((a8J ((y4.1,y11,y4.2.2),y12.1)).bind fun y13=>cond (y13.1 != 0) (some ((0,0,0,0,0,[],a00 3 0,[],[],(0,[],()),[],()),6)) ((a7Z (z2.2.2.1,(y13.2.2.2.2.2.2.2.2.2.1.length:Int),6,y13.2.2.2.2.2.2.2.2.2.2.2.1)).bind fun y14=>cond (y14.2 != 0) (some ((0,0,0,0,0,[],a00 3 0,[],[],(0,[],()),[],()),6)) (some ((y13.2.1,y13.2.2.1,y13.2.2.2.1,y13.2.2.2.2.1,y13.2.2.2.2.2.1,y13.2.2.2.2.2.2.1,y13.2.2.2.2.2.2.2.1,y13.2.2.2.2.2.2.2.2.1,y13.2.2.2.2.2.2.2.2.2.1,y14.1,y13.2.2.2.2.2.2.2.2.2.2.2),0))))))))
def c1B:FSem:=⟨[.v QI,.v QL,.v Q31],[.v Q31,.v QI],a9w⟩
def H58:Hints:=⟨[(4050,[.sv 1 QL,.sv 39 QL,40,41,.box 6 Q31,.box 9 Q31,Qp 6 6,Qp 9 9],[Qe 0 [.sv 1 QL,.box 6 Q31,.box 9 Q31,Qp 6 6,Qp 9 9],Qr [7,.box 6 Q31,Qp 6 6]])],[(14,[Qn [0,.sv 1 QL,8,.sv 28 .bool,.box 6 Q31,.vp 5 Q31,Qp 6 6]])],[]⟩
def a4W(x:Int):Option Bool:=cond (x != 0) (some (x != 1)) (some false)
def b8h:FSem:=⟨[.v QI],[.v .bool],a4W⟩
def a8L(x:Z93):Option Bool:=(a4T (x.1,x)).bind fun y1=>cond (x.2.2.1==y1.2.2.1) (cond (x.2.2.2.1==y1.2.2.2.1) (cond (x.2.2.2.2.1==y1.2.2.2.2.1) (cond (eqT (.arr 3 (.int .i64)) x.2.2.2.2.2.2.1 y1.2.2.2.2.2.2.1) (cond ((x.2.2.2.2.2.1.length:Int)==(y1.2.2.2.2.2.1.length:Int)) (some ((x.2.2.2.2.2.2.2.1.length:Int)==(y1.2.2.2.2.2.2.2.1.length:Int))) (some false)) (some false)) (some false)) (some false)) (some false)
def b9I:FSem:=⟨[.v Q31],[.v .bool],a8L⟩
def a8a(x:Z95):Option Bool:=(show Option Z99 from cond (decide (x.2<1)) (some (x.2,true,x.1,())) (cond (decide (x.2 > 4096)) (some (x.2,true,x.1,())) ((a6w (x.1.1,x.1,x.2)).bind fun y1=>cond (!y1) (some (x.2,true,x.1,())) ((a8L x.1).bind fun y2=>some (x.2,!y2,x.1,()))))).bind fun z3=>cond z3.2.1 (some false) ((show Option Z99 from cond (decide (z3.2.2.1.2.1<0)) (some (z3.1,true,z3.2.2.1,())) (cond (decide (z3.2.2.1.2.1 > 30)) (some (z3.1,true,z3.2.2.1,())) (cond (z3.2.2.1.1==0) (some (z3.1,z3.2.2.1.2.1 != 0,z3.2.2.1,())) (some (z3.1,false,z3.2.2.1,()))))).bind fun z4=>cond z4.2.1 (some false) ((a3H (z4.2.2.1,z4.1)).bind fun y5=>(show Option (Int×Z99)from cond ((z4.2.2.1.2.2.2.2.2.2.2.2.1.length:Int) != y5) (some (z4.1,y5,true,z4.2.2.1,())) ((a1Z z4.2.2.1.2.2.2.2.2.2.2.2.1).bind fun y6=>cond (!y6) (some (z4.1,y5,true,z4.2.2.1,())) ((a1Z z4.2.2.1.2.2.2.2.2.2.2.2.2.2.1).bind fun y7=>some (z4.1,y5,!y7,z4.2.2.1,())))).bind fun z8=>cond z8.2.2.1 (some false) ((a4W z8.2.2.2.1.1).bind fun y9=>cond (!y9) (cond ((z8.2.2.2.1.2.2.2.2.2.2.2.2.2.2.1.length:Int)==0) (cond (z8.2.2.2.1.2.2.2.2.2.2.2.2.2.1.1==0) (some ((z8.2.2.2.1.2.2.2.2.2.2.2.2.2.1.2.1.length:Int)==0)) (some false)) (some false)) (cond ((z8.2.2.2.1.2.2.2.2.2.2.2.2.2.2.1.length:Int)==(wrap .i64 (z8.1-z8.2.1))) ((a7s (z8.2.2.2.1.2.2.2.2.2.2.2.2.2.1,z8.1,z8.2.1)).bind fun y10=>some y10) (some false)))))
def b8i:FSem:=⟨[.v Q31,.v QI],[.v .bool],a8a⟩
def H75:Hints:=⟨[],[(6,[Qn [1,.sv 24 .bool,.vp 2 Q31]]),(14,[Qn [1,.sv 42 .bool,.vp 2 Q31]]),(62,[Qn [1,5,.sv 62 .bool,.vp 2 Q31]])],[]⟩
def a1b(x:(Int×LI)):Option (Int×LI):=(m0k x.2 (wrap .i64 ((x.2.length:Int)-x.1))).bind fun x1=>some (x1,x.2)
def b4y:FSem:=⟨[.v QI,.r false (.b QL)],[.v QI],a1b⟩
def a7y(x:(LI×Int)):Option Int:=cond (x.2==1) ((a1b (1,x.1)).bind fun y1=>some y1.1) (cond (x.2==2) ((a1b (1,x.1)).bind fun y2=>(a1b (2,y2.2)).bind fun y3=>some (wrap .i64 ((wrap .i64 (2*y2.1))-y3.1))) (cond (x.2==3) ((a1b (1,x.1)).bind fun y4=>(a1b (2,y4.2)).bind fun y5=>(a1b (3,y5.2)).bind fun y6=>some (wrap .i64 ((wrap .i64 ((wrap .i64 (3*y4.1))-(wrap .i64 (3*y5.1))))+y6.1))) (cond (x.2==4) ((a1b (1,x.1)).bind fun y7=>(a1b (2,y7.2)).bind fun y8=>(a1b (3,y8.2)).bind fun y9=>(a1b (4,y9.2)).bind fun y10=>some (wrap .i64 ((wrap .i64 ((wrap .i64 ((wrap .i64 (4*y7.1))-(wrap .i64 (6*y8.1))))+(wrap .i64 (4*y9.1))))-y10.1))) (some 0))))
def b7j:FSem:=⟨[.v QL,.v QI],[.v QI],a7y⟩
def a6p(s:Z53):Option (Z53 ⊕ Z41):=(fun(a b:Int)(c:LI)=>cond (decide (b<a)) ((m0k s.2.1 b).bind fun x5=>(a7y (c,s.1)).bind fun y6=>(a2k [wrap .i64 (x5+y6)]).bind fun y7=>cond (!y7) (some (.inr (Sum.inr ((6,[],()))))) (cond (lim ((a02 c)+1)) (some (.inl (s.1,s.2.1,a,wrap .i64 (b+1),a03 c [wrap .i64 (x5+y6)],()))) none)) (some (.inr (Sum.inl (c,()))))) s.2.2.1 s.2.2.2.1 s.2.2.2.2.1
def a8b(x:Z10):Option (LI×Int):=(show Option Z44 from cond (decide (x.2.2<0)) (some (x.1,x.2.1,x.2.2,true,())) (cond (decide (x.2.2 > 4)) (some (x.1,x.2.1,x.2.2,true,())) (some (x.1,x.2.1,x.2.2,(x.1.length:Int) != x.2.2,())))).bind fun z1=>cond z1.2.2.2.1 (some ([],1)) ((show Option Z44 from(a2k z1.1).bind fun y2=>cond (!y2) (some (z1.1,z1.2.1,z1.2.2.1,true,())) ((a2k z1.2.1).bind fun y3=>some (z1.1,z1.2.1,z1.2.2.1,!y3,()))).bind fun z4=>cond z4.2.2.2.1 (some ([],6)) (cond (lim (a02 z4.1)) ((y0s a6p (z4.2.2.1,z4.2.1,(z4.2.1.length:Int),0,z4.1,())).bind fun w8=>match w8 with |.inl a9=>some (a9.1,0) |.inr b10=>some (b10.2.1,b10.1)) none))
def b8j:FSem:=⟨[.v QL,.v QL,.v QI],[.o QI,.v QI],a8b⟩
def c8H:Hints:=⟨[(250,[2,.sv 34 QL,35,36,.own 8 8 QI],[Qe 0 [.own 8 8 QI],Qr [7,.own 6 6 QI]])],[(6,[Qn [.sv 0 QL,.sv 1 QL,2,.sv 23 .bool]]),(14,[Qn [.sv 0 QL,.sv 1 QL,2,.sv 31 .bool]])],[]⟩
def a5t(s:(LI×Z53)):Option ((LI×Z53) ⊕ Z41):=(fun(a:LI)(b c:Int)(d:LI)=>cond (decide (c<b)) ((m0k a c).bind fun x6=>(a3J (d,s.1,s.2.1)).bind fun y7=>(a4e (wrap .i64 (y7+x6))).bind fun y8=>cond (!y8) (some (.inr (Sum.inr ((6,[],()))))) (cond (lim ((a02 d)+1)) (some (.inl (s.1,s.2.1,a,b,wrap .i64 (c+1),a03 d [wrap .i64 (y7+x6)],()))) none)) (some (.inr (Sum.inl (d,()))))) s.2.2.1 s.2.2.2.1 s.2.2.2.2.1 s.2.2.2.2.2.1
def a5J(x:(LI×Z10)):Option (LI×Int):=(show Option (LI×Z44)from(a3G (x.2.2.1,x.2.2.2)).bind fun y1=>cond (!y1) (some (x.1,x.2.1,x.2.2.1,x.2.2.2,true,())) (some (x.1,x.2.1,x.2.2.1,x.2.2.2,(x.1.length:Int) != (x.2.2.1.length:Int),()))).bind fun z2=>cond z2.2.2.2.2.1 (some ([],1)) ((show Option (LI×Z44)from(a2e z2.1).bind fun y3=>cond (!y3) (some (z2.1,z2.2.1,z2.2.2.1,z2.2.2.2.1,true,())) ((a2e z2.2.1).bind fun y4=>some (z2.1,z2.2.1,z2.2.2.1,z2.2.2.2.1,!y4,()))).bind fun z5=>cond z5.2.2.2.2.1 (some ([],6)) (cond ((decide (0≤(wrap .i64 ((z5.1.length:Int)+(z5.2.1.length:Int)))))&&(lim (a01 (wrap .i64 ((z5.1.length:Int)+(z5.2.1.length:Int)))))) (cond (lim (0+(a02 z5.1))) ((y0s a5t (z5.2.2.1,z5.2.2.2.1,z5.2.1,(z5.2.1.length:Int),0,a03 [] z5.1,())).bind fun w9=>match w9 with |.inl a10=>some (a10.1,0) |.inr b11=>some (b11.2.1,b11.1)) none) none))
def b7k:FSem:=⟨[.v QL,.v QL,.v QL,.v QI],[.o QI,.v QI],a5J⟩
def c8I:Hints:=⟨[(506,[.sv 2 QL,3,.sv 42 QL,43,44,.own 10 10 QI],[Qe 0 [.own 10 10 QI],Qr [9,.own 8 8 QI]])],[(6,[Qn [.sv 0 QL,.sv 1 QL,.sv 2 QL,3,.sv 24 .bool]]),(14,[Qn [.sv 0 QL,.sv 1 QL,.sv 2 QL,3,.sv 32 .bool]])],[]⟩
def a6R(s:Z74):Option (Z74 ⊕ Z41):=(fun(a b:Int)(c d:LI)=>cond (decide (b<a)) ((m0k s.2.1 b).bind fun x3=>(a3y (c,b,s.1,d)).bind fun y4=>(a6a (wrap .i64 (x3+y4))).bind fun y5=>cond (!y5) (some (.inr (Sum.inr ((6,[],()))))) (cond (lim ((a02 c)+1)) (some (.inl (s.1,s.2.1,a,wrap .i64 (b+1),a03 c [wrap .i64 (x3+y4)],d,()))) none)) (some (.inr (Sum.inl (c,()))))) s.2.2.1 s.2.2.2.1 s.2.2.2.2.1 s.2.2.2.2.2.1
def a8M(x:(LI×(Int×LI))):Option (LI×Int):=(a6O (x.2.1,x.2.2)).bind fun y1=>cond (!y1) (some ([],1)) ((a3x x.1).bind fun y2=>cond (!y2) (some ([],6)) (cond ((decide (0≤(x.1.length:Int)))&&(lim (a01 (x.1.length:Int)))) ((y0s a6R (x.2.1,x.1,(x.1.length:Int),0,[],x.2.2,())).bind fun w6=>match w6 with |.inl a7=>some (a7.1,0) |.inr b8=>some (b8.2.1,b8.1)) none))
def b9J:FSem:=⟨[.v QL,.v QI,.v (.arr 3 QI)],[.o QI,.v QI],a8M⟩
def c8J:Hints:=⟨[(250,[1,.sv 22 QL,23,24,.own 8 8 QI,.vp 5 (.arr 3 QI)],[Qe 0 [.own 8 8 QI],Qr [7,.own 6 6 QI]])],[],[]⟩
def a4p(s:(Int×(Int×(LI×Z75)))):Option ((Int×(Int×(LI×Z75))) ⊕ (Z24 ⊕ Z24)):=(fun(a:Int)(b:LI)(c:Int)(d:LI)=>cond (decide (a<s.1)) (cond ((decide (0≤a))&&(decide (a<(d.length:Int)))) ((a1G s.2.2.2.2.2.1).bind fun y6=>(a4V (wrap .i64 (y6.1+(a04 d (a01 a) 0)))).bind fun y7=>cond (!y7) (some (.inr (Sum.inr (([],6,d,()))))) ((a2B (y6.2,wrap .i64 (y6.1+(a04 d (a01 a) 0)))).bind fun y8=>cond ((decide (0≤a))&&(decide (a<(d.length:Int)))) (some (.inl (s.1,wrap .i64 (a+1),b,c,a05 d (a01 a) (wrap .i64 (y6.1+(a04 d (a01 a) 0))),y8,()))) none)) none) (some (.inr (Sum.inl (b,c,d,()))))) s.2.1 s.2.2.1 s.2.2.2.1 s.2.2.2.2.1
def a6q(k:Int)(v:(Int×Int×Unit))(s:(Z6×Z24)):Option ((Z6×Z24) ⊕ (Ex×Z6×Z24)):=(a7r v).bind fun y4=>cond (y4.2 != 0) (some (.inr (.ret,s.1,[],y4.2,s.2.2.2.1,()))) ((y0s a4p ((s.2.2.2.1.length:Int),0,s.2.1,s.2.2.1,s.2.2.2.1,y4.1,())).bind fun w9=>match w9 with |.inl a10=>some (.inl (s.1,a10.1,a10.2.1,a10.2.2.1,())) |.inr b11=>some (.inr (.ret,s.1,b11.1,b11.2.1,b11.2.2.1,())))
def a8c(x:(LI×Z6)):Option (LI×Int):=(a5Z x.2).bind fun y1=>cond (!y1) (some ([],1)) ((a4l x.1).bind fun y2=>cond (!y2) (some ([],6)) ((a0X x.1).bind fun y3=>cond (lim (a02 x.2)) ((l0f a6q x.2 (a02 x.2) (x.2,[],0,y3,())).bind fun w12=>match w12 with |.inl a13=>some (a13.2.2.2.1,0) |.inr (.normal,a14)=>some (a14.2.2.2.1,0) |.inr (.exit e15,a14)=>(cond (e15==0) (some (a14.2.2.2.1,0)) none) |.inr (.ret,a14)=>some (a14.2.1,a14.2.2.1)) none))
def a8d:FSem:=⟨[.v QL,.v (.list false Q3)],[.v QL,.v QI],a8c⟩
def c8K:Hints:=⟨[(8046,[35,36,.box 1001004 QL,.box 1001005 QI,.box 1001006 (.list true QI),.box 1028 Q12,Qp 4 1001004,Qp 5 1001005,Qp 6 1001006,Qp 9 1028,.ref 34 1001006 []],[Qe 2 [.box 1001004 QL,.box 1001005 QI,.box 1001006 (.list true QI),Qp 4 1001004,Qp 5 1001005,Qp 6 1001006],Qr [.box 1001004 QL,.box 1001005 QI,.box 1001006 (.list true QI),Qp 4 1001004,Qp 5 1001005,Qp 6 1001006]])],[],[]⟩
def c4S:Cx:=b2Q [(192,a1y),(201,b3C),(247,b0N),(249,b3D),(250,a7X),(251,b2S),(252,a8t)] [(6,.list true QI)] 15875 72057594037927936
def c5Y:HintR:=⟨22,Q3,248,291,[4,5,6],[.sv 22 (.list false Q3),.box 1001004 QL,.box 1001005 QI,.box 1001006 (.list true QI),.ptr 4 1001004 [],.ptr 5 1001005 [],.ptr 6 1001006 []]⟩
theorem c6I(x):z0h c4S c8K c5Y Tryz.f162 a8d.ps a8d.rs x=a8d.F x:=by kernel_rfl
def a6S(s:Z53):Option (Z53 ⊕ Z41):=(fun(a:Int)(b:LI)(c d:Int)(e:LI)=>cond (decide (d<c)) ((m0k b d).bind fun x2=>(show Option (Int×(Int×(LI×(Int×Int×Z7))))from(a4d x2).bind fun y3=>cond (!y3) (some (a,x2,b,c,d,true,e,())) (cond (decide (a<0)) none ((a4d (A0n .i64 x2 a)).bind fun y4=>some (a,x2,b,c,d,!y4,e,())))).bind fun z5=>cond z5.2.2.2.2.2.1 (some (.inr (Sum.inr ((6,[],()))))) (cond (decide (z5.1<0)) none (cond (lim ((a02 z5.2.2.2.2.2.2.1)+1)) (some (.inl (z5.1,z5.2.2.1,z5.2.2.2.1,wrap .i64 (z5.2.2.2.2.1+1),a03 z5.2.2.2.2.2.2.1 [A0n .i64 z5.2.1 z5.1],()))) none))) (some (.inr (Sum.inl (e,()))))) s.1 s.2.1 s.2.2.1 s.2.2.2.1 s.2.2.2.2.1
def a7u(x:(LI×Int)):Option (LI×Int):=(show Option Z18 from cond (decide (x.2<0)) (some (x.1,x.2,true,())) (some (x.1,x.2,decide (x.2 > 30),()))).bind fun z1=>cond z1.2.2.1 (some ([],1)) ((y0s a6S (z1.2.1,z1.1,(z1.1.length:Int),0,[],())).bind fun w6=>match w6 with |.inl a7=>some (a7.1,0) |.inr b8=>some (b8.2.1,b8.1))
def b9K:FSem:=⟨[.v QL,.v QI],[.o QI,.v QI],a7u⟩
def c8L:Hints:=⟨[(122,[1,.sv 15 QL,16,17,.own 6 6 QI],[Qe 0 [.own 6 6 QI],Qr [5,.own 4 4 QI]])],[(6,[Qn [.sv 0 QL,1,.sv 14 .bool]]),(15666,[Qn [1,8,.sv 15 QL,16,17,.sv 30 .bool,.own 6 6 QI]])],[]⟩
def a5K(s:(Int×(Int×(LI×Z96)))):Option ((Int×(Int×(LI×Z96))) ⊕ (LI×Unit)):=cond (decide (s.2.1<s.1)) ((m0k s.2.2.2.1.2.2.2.2.2.2.2.2.1 0).bind fun x1=>cond (lim ((a02 s.2.2.1)+1)) (some (.inl (s.1,wrap .i64 (s.2.1+1),a03 s.2.2.1 [x1],s.2.2.2.1,()))) none) (some (.inr (s.2.2.1,())))
def a9x(x:Z95):Option (LI×Int):=(show Option ((LI×(Int×Z96)) ⊕ Z4)from cond (x.1.1==0) ((y0s a5K (x.2,0,[],x.1,())).bind fun w2=>some (Sum.inr ((0,w2.1,())))) (cond (x.1.1==1) (some (Sum.inl (x.1.2.2.2.2.2.2.2.2.1,0,x.1,()))) (cond (x.1.1==2) ((a8b (x.1.2.2.2.2.2.2.2.2.1,x.1.2.2.2.2.2.2.2.2.2.2.1,x.1.2.2.1)).bind fun y3=>some (Sum.inl (y3.1,y3.2,x.1,()))) (cond (x.1.1==3) ((a5J (x.1.2.2.2.2.2.2.2.2.1,x.1.2.2.2.2.2.2.2.2.2.2.1,x.1.2.2.2.2.2.1,x.1.2.2.2.1)).bind fun y4=>some (Sum.inl (y4.1,y4.2,x.1,()))) (cond (x.1.1==4) ((a5J (x.1.2.2.2.2.2.2.2.2.1,x.1.2.2.2.2.2.2.2.2.2.2.1,x.1.2.2.2.2.2.1,x.1.2.2.2.1)).bind fun y5=>cond (y5.2==0) ((a8M (y5.1,x.1.2.2.2.2.1,x.1.2.2.2.2.2.2.1)).bind fun y6=>some (Sum.inl (y6.1,y6.2,x.1,()))) (some (Sum.inl (y5.1,y5.2,x.1,())))) (cond (x.1.1==5) ((a8c (x.1.2.2.2.2.2.2.2.2.2.2.1,x.1.2.2.2.2.2.2.2.1)).bind fun y7=>some (Sum.inl (y7.1,y7.2,x.1,()))) (some (Sum.inl ([],0,x.1,()))))))))).bind fun z8=>match z8 with |.inl a9=>(cond (a9.2.1 != 0) (some ([],a9.2.1)) ((a7u (a9.1,a9.2.2.1.2.1)).bind fun y11=>some (y11.1,y11.2))) |.inr b10=>some (b10.2.1,b10.1)
def c1C:FSem:=⟨[.v Q31,.v QI],[.o QI,.v QI],a9x⟩
def H76:Hints:=⟨[(3922,[12,13,.own 6 6 QI,.vp 2 Q31],[Qe 1 [.own 6 6 QI]])],[(15,[Qn [.sv 6 QL,7,.vp 2 Q31],Qr [5,.own 4 6 QI]])],[]⟩
def a9j(x:Z95):Option (LI×Int):=(a8a (x.1,x.2)).bind fun y1=>cond (!y1) (some ([],1)) ((a9x (x.1,x.2)).bind fun y2=>cond (y2.2 != 0) (some ([],1)) (some (y2.1,0)))
def c2W:FSem:=⟨[.v Q31,.v QI],[.o QI,.v QI],a9j⟩
def a7R(x:Z95):Option Bool:=(a9j (x.1,x.2)).bind fun y1=>some (y1.2==0)
def c2X:FSem:=⟨[.v Q31,.v QI],[.v .bool],a7R⟩
def a1K(x:(Z5×Int)):Option Z5:=(show Option Z33 from cond ((a18 x.1.2.1 8)==0) (cond (lim ((a02 x.1.1)+1)) (some (x.2,(a03 x.1.1 [0],x.1.2),())) none) (some (x.2,x.1,()))).bind fun z1=>cond ((decide (0≤(wrap .i64 (a09 z1.2.1.2.1 8))))&&(decide ((wrap .i64 (a09 z1.2.1.2.1 8))<(z1.2.1.1.length:Int)))) (cond (decide ((wrap .i64 (7-(a18 z1.2.1.2.1 8)))<0)) none (cond ((decide (0≤(wrap .i64 (a09 z1.2.1.2.1 8))))&&(decide ((wrap .i64 (a09 z1.2.1.2.1 8))<(z1.2.1.1.length:Int)))) (some (a05 z1.2.1.1 (a01 (wrap .i64 (a09 z1.2.1.2.1 8))) (bits .u8 .or (a04 z1.2.1.1 (a01 (wrap .i64 (a09 z1.2.1.2.1 8))) 0) (A0n .u8 z1.1 (wrap .i64 (7-(a18 z1.2.1.2.1 8))))),wrap .i64 (z1.2.1.2.1+1),z1.2.1.2.2)) none)) none
def b3u:FSem:=⟨[.r false (.b Q5),.v QV],[],a1K⟩
def c8M:Hints:=⟨[],[(1,[Qn [.sv 1 QV,.box pinned Q5,Qp 0 pinned]])],[(2,[.p,.p,.q,.q,.p,.p,.q,.q,.v,.q,.q,.v,.p,.p,.q,.q,.v,.v,.v,.x,.x,.x])]⟩
def a3q(s:Z48):Option (Z48 ⊕ Z20):=cond (decide (s.2.1≥0)) (cond (decide (s.2.1<0)) none ((a1K (s.2.2.1,wrap .u8 (bits .u64 .and (A0o .u64 s.1 s.2.1) 1))).bind fun y2=>some (.inl (s.1,wrap .i64 (s.2.1-1),y2,())))) (some (.inr (s.2.2.1,())))
def a0E(x:(Z5×Int×Int)):Option Z16:=(show Option (Int×Int×Bool×Z20)from cond (decide (x.2.2<0)) (some (x.2.1,x.2.2,true,x.1,())) (cond (decide (x.2.2 > 64)) (some (x.2.1,x.2.2,true,x.1,())) (cond (decide (x.2.2<0)) none (some (x.2.1,x.2.2,(A0o .u64 x.2.1 x.2.2) != 0,x.1,()))))).bind fun z1=>cond z1.2.2.1 (some (1,z1.2.2.2.1)) ((y0s a3q (z1.1,wrap .i64 (z1.2.1-1),z1.2.2.2.1,())).bind fun w3=>some (0,w3.1))
def b3v:FSem:=⟨[.r false (.b Q5),.v QU,.v QI],[.v QI],a0E⟩
def c8N:Hints:=⟨[(58,[.sv 1 QU,7,.box pinned Q5,Qp 0 pinned],[Qe 0 [.box pinned Q5]])],[(6,[Qn [.sv 1 QU,2,.sv 19 .bool,.box pinned Q5,Qp 0 pinned]])],[]⟩
def a2l(x:(Z5×Int×Int)):Option Z5:=cond (decide (x.2.2<0)) none ((a0E (x.1,bits .u64 .and (wrap .u64 x.2.1) (wrap .u64 ((A0n .u64 1 x.2.2)-1)),x.2.2)).bind fun y1=>some y1.2)
def b4z:FSem:=⟨[.r false (.b Q5),.v QI,.v QI],[],a2l⟩
def a4M(s:Z77):Option (Z77 ⊕ Z20):=(fun(a b:Int)(c:Z5)=>cond (decide (b<a)) ((m0k s.2.1 b).bind fun x6=>(a2l (c,x6,s.1)).bind fun y7=>some (.inl (s.1,s.2.1,a,wrap .i64 (b+1),y7,()))) (some (.inr (c,())))) s.2.2.1 s.2.2.2.1 s.2.2.2.2.1
def a6T(x:(Z5×Z93)):Option Z5:=(a0E (x.1,wrap .u64 (wrap .i64 ((x.2.2.2.2.2.2.1.length:Int)-1)),5)).bind fun y1=>(a0E (y1.2,wrap .u64 x.2.2.2.2.1,4)).bind fun y2=>(a1k x.2.2.2.2.2.2.1).bind fun y3=>(a0E (y2.2,wrap .u64 y3,5)).bind fun y4=>(y0s a4M (y3,x.2.2.2.2.2.2.1,(x.2.2.2.2.2.2.1.length:Int),0,y4.2,())).bind fun w8=>some w8.1
def b5M:FSem:=⟨[.r false (.b Q5),.v Q31],[],a6T⟩
def c8O:Hints:=⟨[(254,[4,.sv 27 QL,28,29,.box pinned Q5,Qp 0 pinned],[Qe 0 [.box pinned Q5]])],[],[]⟩
def a2K(s:Z48):Option (Z48 ⊕ Z20):=cond (decide (s.2.1<s.1)) ((a1K (s.2.2.1,0)).bind fun y2=>some (.inl (s.1,wrap .i64 (s.2.1+1),y2,()))) (some (.inr (s.2.2.1,())))
def a1T(x:(Z5×Int)):Option Z16:=(show Option (Int×Bool×Z20)from cond (decide (x.2<0)) (some (x.2,true,x.1,())) (some (x.2,decide (x.2 > 4096),x.1,()))).bind fun z1=>cond z1.2.1 (some (1,z1.2.2.1)) ((y0s a2K (z1.1,0,z1.2.2.1,())).bind fun w3=>(a1K (w3.1,1)).bind fun y4=>some (0,y4))
def b2I:FSem:=⟨[.r false (.b Q5),.v QI],[.v QI],a1T⟩
def c8P:Hints:=⟨[(58,[11,12,.box pinned Q5,Qp 0 pinned],[Qe 0 [.box pinned Q5,Qp 0 pinned]])],[(6,[Qn [1,.sv 10 .bool,.box pinned Q5,Qp 0 pinned]])],[]⟩
def a7z(s:(Int×(LI×Z69))):Option ((Int×(LI×Z69)) ⊕ ((Int×(LI×Z20)) ⊕ Z33)):=(fun(a:LI)(b c:Int)(d:Z5)=>cond (decide (c<b)) ((m0k a c).bind fun x2=>(a6d x2).bind fun y3=>cond (!y3) (some (.inr (Sum.inr ((1,d,()))))) (some (.inl (s.1,s.2.1,a,b,wrap .i64 (c+1),d,())))) (some (.inr (Sum.inl (s.1,s.2.1,d,()))))) s.2.2.1 s.2.2.2.1 s.2.2.2.2.1 s.2.2.2.2.2.1
def a5L(s:Z77):Option (Z77 ⊕ Z20):=(fun(a:Int)(b:LI)(c d:Int)(e:Z5)=>cond (decide (d<c)) ((m0k b d).bind fun x7=>(a7t x7).bind fun y8=>cond (decide (a<0)) none (cond (decide ((A0o .u64 y8 a)<32)) ((a1T (e,wrap .i64 (A0o .u64 y8 a))).bind fun y9=>cond (decide (a<0)) none ((a0E (y9.2,wrap .u64 (y8-(A0n .u64 (A0o .u64 y8 a) a)),a)).bind fun y10=>some (.inl (a,b,c,wrap .i64 (d+1),y10.2,())))) ((a1T (e,32)).bind fun y11=>(a0E (y11.2,y8,32)).bind fun y12=>some (.inl (a,b,c,wrap .i64 (d+1),y12.2,()))))) (some (.inr (e,())))) s.1 s.2.1 s.2.2.1 s.2.2.2.1 s.2.2.2.2.1
def a9y(x:(Z5×(Int×LI))):Option Z16:=(a1D x.2.1).bind fun y1=>cond (!y1) (some (1,x.1)) ((y0s a7z (x.2.1,x.2.2,x.2.2,(x.2.2.length:Int),0,x.1,())).bind fun w4=>match w4 with |.inl a5=>((y0s a5L (a5.1,a5.2.1,(a5.2.1.length:Int),0,a5.2.2.1,())).bind fun w13=>some (0,w13.1)) |.inr b6=>some (b6.1,b6.2.1))
def c1D:FSem:=⟨[.r false (.b Q5),.v QI,.v QL],[.v QI],a9y⟩
def c8Q:Hints:=⟨[(58,[1,.sv 2 QL,.sv 16 QL,17,18,.box pinned Q5,Qp 0 pinned],[Qe 0 [1,.sv 2 QL,.box pinned Q5,Qp 0 pinned],Qr [6,.box pinned Q5]]),(122,[1,.sv 26 QL,27,28,.box pinned Q5,Qp 0 pinned],[Qe 2 [.box pinned Q5]])],[],[]⟩
def a6U(s:(LI×(Int×Int×Int×Z87))):Option ((LI×(Int×Int×Int×Z87)) ⊕ Z87):=(fun(a b c:Int)(d:LI)(e f:Int)(g:LI)(h:Z5)(i:Z4)=>cond (decide (f<e)) ((m0k d f).bind fun x11=>cond (decide (a<0)) none ((a0E (h,bits .u64 .and (wrap .u64 x11) (wrap .u64 ((A0n .u64 1 a)-1)),a)).bind fun y12=>some (.inl (s.1,a,b,c,d,e,wrap .i64 (f+1),g,y12.2,i,())))) (some (.inr (s.1,b,c,g,h,i,())))) s.2.1 s.2.2.1 s.2.2.2.1 s.2.2.2.2.1 s.2.2.2.2.2.1 s.2.2.2.2.2.2.1 s.2.2.2.2.2.2.2.1 s.2.2.2.2.2.2.2.2.1 s.2.2.2.2.2.2.2.2.2.1
def a3A(s:Z87):Option (Z87 ⊕ Z20):=(fun(a:LI)(b c:Int)(d:LI)(e:Z5)(f:Z4)=>cond (decide (c<b)) (cond ((decide (0≤c))&&(decide (c<(d.length:Int)))) (cond ((decide (0≤(a04 d (a01 c) 0)))&&(decide ((a04 d (a01 c) 0)≤(a.length:Int)))) (cond ((decide (0≤(a04 d (a01 c) 0)))&&(decide ((a04 d (a01 c) 0)≤(a.length:Int)))) ((m0k f.2.1 c).bind fun x4=>(a0E (e,wrap .u64 x4,5)).bind fun y5=>(m0k f.2.1 c).bind fun x6=>cond (x6 != 31) ((m0k f.2.1 c).bind fun x7=>(a9y (y5.2,x7,a06 (a01 (a04 d (a01 c) 0)) a)).bind fun y8=>some (.inl (a23 (a01 (a04 d (a01 c) 0)) (a06 (a02 a) a),b,wrap .i64 (c+1),d,y8.2,f,()))) ((a1k (a06 (a01 (a04 d (a01 c) 0)) a)).bind fun y9=>(a0E (y5.2,wrap .u64 y9,5)).bind fun y10=>(y0s a6U (a23 (a01 (a04 d (a01 c) 0)) (a06 (a02 a) a),y9,b,c,a06 (a01 (a04 d (a01 c) 0)) a,((a02 (a06 (a01 (a04 d (a01 c) 0)) a):Nat):Int),0,d,y10.2,f,())).bind fun w13=>some (.inl (w13.1,w13.2.1,wrap .i64 (w13.2.2.1+1),w13.2.2.2.1,w13.2.2.2.2.1,w13.2.2.2.2.2.1,())))) none) none) none) (some (.inr (e,())))) s.1 s.2.1 s.2.2.1 s.2.2.2.1 s.2.2.2.2.1 s.2.2.2.2.2.1
def a8N(x:(Z5×Z4×Z1)):Option Z16:=(a3L (x.2.1,x.2.2.1,x.2.2.2.1,x.2.2.2.2)).bind fun y1=>cond (y1==0) (some (1,x.1)) ((a0E (x.1,wrap .u64 x.2.1.1,4)).bind fun y2=>(a2s (x.2.1.1,x.2.2.1,x.2.2.2.1)).bind fun y3=>(y0s a3A (x.2.2.2.2,(y3.length:Int),0,y3,y2.2,x.2.1,())).bind fun w14=>some (0,w14.1))
def b9L:FSem:=⟨[.r false (.b Q5),.v Q7,.v QI,.v QI,.v QL],[.v QI],a8N⟩
def c8R:Hints:=⟨[(122,[.sv 4 QL,33,34,.own 32 1032 QI,.box pinned Q5,Qp 0 pinned,.vp 6 Q7],[Qe 0 [.box pinned Q5]]),(2005502,[.sv 4 QL,14,33,34,.sv 73 QL,74,75,.own 32 1032 QI,.box pinned Q5,Qp 0 pinned,.vp 6 Q7],[Qe 2 [.sv 4 QL,33,34,.own 32 1032 QI,.box pinned Q5,Qp 0 pinned,.vp 6 Q7]])],[],[]⟩
def a8e(s:(Int×(Int×(LI×c1s)))):Option ((Int×(Int×(LI×c1s))) ⊕ b1g):=(fun(a:LI)(b:Int)(c:Z5)(d:Z93)=>cond (decide (b<3)) ((m0k a b).bind fun x8=>(a2l (c,x8,8)).bind fun y9=>some (.inl (s.1,s.2.1,a,wrap .i64 (b+1),y9,d,()))) (some (.inr (s.1,s.2.1,c,d,())))) s.2.2.1 s.2.2.2.1 s.2.2.2.2.1 s.2.2.2.2.2.1
def a8f(s:(Int×Int×Z6×b1g)):Option ((Int×Int×Z6×b1g) ⊕ b1g):=(fun(a:Z6)(b c:Int)(d:Z5)(e:Z93)=>cond (decide (c<b)) ((m0k a c).bind fun x18=>(a0E (d,wrap .u64 (wrap .i64 (x18.1-1)),5)).bind fun y19=>(a0E (y19.2,wrap .u64 x18.2.1,4)).bind fun y20=>some (.inl (s.1,s.2.1,a,b,wrap .i64 (c+1),y20.2,e,()))) (some (.inr (s.1,s.2.1,d,e,())))) s.2.2.1 s.2.2.2.1 s.2.2.2.2.1 s.2.2.2.2.2.1 s.2.2.2.2.2.2.1
def a8g(s:(Int×(Int×(LI×b1g)))):Option ((Int×(Int×(LI×b1g))) ⊕ c1s):=(fun(a:LI)(b c:Int)(d:Z5)(e:Z93)=>cond (decide (c<b)) ((m0k a c).bind fun x23=>(a2l (d,x23,s.2.1)).bind fun y24=>some (.inl (s.1,s.2.1,a,b,wrap .i64 (c+1),y24,e,()))) (some (.inr (s.1,d,e,())))) s.2.2.1 s.2.2.2.1 s.2.2.2.2.1 s.2.2.2.2.2.1 s.2.2.2.2.2.2.1
def a7S(x:(Z5×Z95)):Option Z16:=(a7R (x.2.1,x.2.2)).bind fun y1=>cond (!y1) (some (1,x.1)) ((a1k x.2.1.2.2.2.2.2.2.2.2.1).bind fun y2=>(a0E (x.1,wrap .u64 x.2.1.1,3)).bind fun y3=>(a0E (y3.2,wrap .u64 x.2.1.2.1,5)).bind fun y4=>(a0E (y4.2,wrap .u64 y2,5)).bind fun y5=>(show Option b1g from(show Option (b1g ⊕ (b1g ⊕ b1g))from cond (x.2.1.1==2) ((a0E (y5.2,wrap .u64 x.2.1.2.2.1,3)).bind fun y6=>some (Sum.inr (Sum.inl (x.2.2,y2,y6.2,x.2.1,())))) (cond (x.2.1.1==4) ((a0E (y5.2,wrap .u64 (wrap .i64 (x.2.1.2.2.2.2.1-1)),10)).bind fun y7=>(y0s a8e (x.2.2,y2,x.2.1.2.2.2.2.2.2.1,0,y7.2,x.2.1,())).bind fun w10=>some (Sum.inl (w10.1,w10.2.1,w10.2.2.1,w10.2.2.2.1,()))) (cond (x.2.1.1==3) (some (Sum.inl (x.2.2,y2,y5.2,x.2.1,()))) (cond (x.2.1.1==5) (some (Sum.inr (Sum.inr ((x.2.2,y2,y5.2,x.2.1,()))))) (some (Sum.inr (Sum.inl (x.2.2,y2,y5.2,x.2.1,())))))))).bind fun z11=>match z11 with |.inl a12=>((a6T (a12.2.2.1,a12.2.2.2.1)).bind fun y14=>some (a12.1,a12.2.1,y14,a12.2.2.2.1,())) |.inr b13=>(match b13 with |.inl a15=>some (a15.1,a15.2.1,a15.2.2.1,a15.2.2.2.1,()) |.inr b16=>((a0E (b16.2.2.1,wrap .u64 (b16.2.2.2.1.2.2.2.2.2.2.2.1.length:Int),2)).bind fun y17=>(y0s a8f (b16.1,b16.2.1,b16.2.2.2.1.2.2.2.2.2.2.2.1,(b16.2.2.2.1.2.2.2.2.2.2.2.1.length:Int),0,y17.2,b16.2.2.2.1,())).bind fun w21=>some (w21.1,w21.2.1,w21.2.2.1,w21.2.2.2.1,())))).bind fun z22=>(y0s a8g (z22.1,z22.2.1,z22.2.2.2.1.2.2.2.2.2.2.2.2.1,(z22.2.2.2.1.2.2.2.2.2.2.2.2.1.length:Int),0,z22.2.2.1,z22.2.2.2.1,())).bind fun w25=>(a4W w25.2.2.1.1).bind fun y26=>cond (!y26) (some (0,w25.2.1)) ((a8N (w25.2.1,w25.2.2.1.2.2.2.2.2.2.2.2.2.1,w25.1,(w25.2.2.1.2.2.2.2.2.2.2.2.1.length:Int),w25.2.2.1.2.2.2.2.2.2.2.2.2.2.1)).bind fun y27=>some (y27.1,y27.2)))
def c2Y:FSem:=⟨[.r false (.b Q5),.v Q31,.v QI],[.v QI],a7S⟩
def H45:Hints:=⟨[(2042,[2,7,.sv 94 QL,95,96,.box pinned Q5,Qp 0 pinned,.vp 4 Q31],[Qe 9 [2,.box pinned Q5,Qp 0 pinned,.vp 4 Q31]]),(32598,[2,7,.sv 75 (.list false Q3),76,77,.box pinned Q5,Qp 0 pinned,.vp 4 Q31],[Qe 7 [2,7,.box pinned Q5,Qp 0 pinned,.vp 4 Q31]]),(260622,[2,7,.sv 57 (.arr 3 QI),58,.box pinned Q5,Qp 0 pinned,.vp 4 Q31],[Qe 5 [2,7,.box pinned Q5,Qp 0 pinned,.vp 4 Q31]])],[(127,[Qn [2,7,.box pinned Q5,Qp 0 pinned,.vp 4 Q31]]),(4072,[Qn [2,7,.box pinned Q5,Qp 0 pinned,.vp 4 Q31],Qe 0 [2,7,.box pinned Q5,Qp 0 pinned,.vp 4 Q31],Qe 4 [2,7,.box pinned Q5,Qp 0 pinned,.vp 4 Q31]])],[]⟩
def a7k(x:Z5):Option Z16:=some (x.2.1,x)
def b3w:FSem:=⟨[.r false (.b Q5)],[.v QI],a7k⟩
def a2L(x:Z95):Option Int:=(a7S (([],0,()),x.1,x.2)).bind fun y1=>cond (y1.1 != 0) (some 0) ((a7k y1.2).bind fun y2=>some y2.1)
def c1E:FSem:=⟨[.v Q31,.v QI],[.v QI],a2L⟩
def a3M(s:Z43):Option (Z43 ⊕ (Int×Unit)):=(fun(a:Int)(b:LI)(c d:Int)=>cond (decide (d<c)) ((m0k b d).bind fun x1=>cond (decide ((wrap .i64 (d+s.1))≥4)) (some (.inl (s.1,wrap .i64 (a+(v0r x1 (wrap .i64 (0-x1)))),b,c,wrap .i64 (d+1),()))) (some (.inl (s.1,a,b,c,wrap .i64 (d+1),())))) (some (.inr (a,())))) s.2.1 s.2.2.1 s.2.2.2.1 s.2.2.2.2.1
def a7A(x:(LI×Int)):Option Int:=(y0s a3M (x.2,0,x.1,(x.1.length:Int),0,())).bind fun w2=>some w2.1
def b7l:FSem:=⟨[.v QL,.v QI],[.v QI],a7A⟩
def c8S:Hints:=⟨[(58,[1,5,.sv 8 QL,9,10],[Qe 0 [5]])],[],[]⟩
def a3b(s:Z29):Option (Z29 ⊕ (Int×Unit)):=(fun(a:LI)(b c d:Int)=>cond (decide (d≤4)) ((a3I (a,d)).bind fun y1=>cond (y1.2 != 0) (some (.inl (a,b,c,wrap .i64 (d+1),()))) ((a7A (y1.1,d)).bind fun y2=>(show Option (LI×(Int×Z22))from cond (decide (c<0)) (some (a,b,c,d,y2,true,())) (some (a,b,c,d,y2,decide (y2<c),()))).bind fun z3=>cond z3.2.2.2.2.2.1 (some (.inl (z3.1,z3.2.2.2.1,z3.2.2.2.2.1,wrap .i64 (z3.2.2.2.1+1),()))) (some (.inl (z3.1,z3.2.1,z3.2.2.1,wrap .i64 (z3.2.2.2.1+1),()))))) (some (.inr (b,())))) s.1 s.2.1 s.2.2.1 s.2.2.2.1
def a4X(x:LI):Option Int:=(y0s a3b (x,0,(-1),0,())).bind fun w4=>some w4.1
def b8k:FSem:=⟨[.v QL],[.v QI],a4X⟩
def c8T:Hints:=⟨[(58,[.sv 0 QL,3,4,5],[Qe 0 [3]])],[(7463,[Qn [.sv 0 QL,3,4,5,8,.sv 30 .bool]])],[]⟩
def a2f(x:Int):Option Int:=some (v0s (v0r x (-1048576)) 1048575)
def b5N:FSem:=⟨[.v QI],[.v QI],a2f⟩
def a2U(s:Z65):Option (Z65 ⊕ Z54):=(fun(a b:Int)(c:LI)(d e:Int)=>cond (decide (a<0)) none ((a2f (A0o .i64 b a)).bind fun y2=>cond (decide (a<0)) none (cond (y2 != (A0o .i64 b a)) (some (.inl (s.1,wrap .i64 (a+1),b,c,d,e,()))) (some (.inr (s.1,a,c,d,e,())))))) s.2.1 s.2.2.1 s.2.2.2.1 s.2.2.2.2.1 s.2.2.2.2.2.1
def a4q(s:Z54):Option (Z54 ⊕ Z5):=(fun(a:LI)(b c:Int)=>cond (decide (c<b)) ((m0k a c).bind fun x1=>(y0s a2U (s.1,s.2.1,x1,a,b,c,())).bind fun w3=>some (.inl (w3.1,w3.2.1,w3.2.2.1,w3.2.2.2.1,wrap .i64 (w3.2.2.2.2.1+1),()))) (some (.inr (s.1,s.2.1,())))) s.2.2.1 s.2.2.2.1 s.2.2.2.2.1
def a4r(s:Z53):Option (Z53 ⊕ (LI×Unit)):=(fun(a b:Int)(c:LI)=>cond (decide (b<a)) ((m0k s.2.1 b).bind fun x5=>cond (decide (s.1<0)) none (cond ((decide (0≤b))&&(decide (b<(c.length:Int)))) (some (.inl (s.1,s.2.1,a,wrap .i64 (b+1),a05 c (a01 b) (A0o .i64 x5 s.1),()))) none)) (some (.inr (c,())))) s.2.2.1 s.2.2.2.1 s.2.2.2.2.1
def a6r(x:LI):Option LI:=(y0s a4q (x,0,x,(x.length:Int),0,())).bind fun w4=>cond ((decide (0≤(w4.1.length:Int)))&&((decide ((w4.1.length:Int)≤(w4.1.length:Int)))&&(lim (a01 (w4.1.length:Int))))) ((y0s a4r (w4.2.1,w4.1,(w4.1.length:Int),0,a00 (a01 (w4.1.length:Int)) 0,())).bind fun w6=>some w6.1) none
def b4A:FSem:=⟨[.v QL],[.o QI],a6r⟩
def c8U:Hints:=⟨[(58,[.sv 0 QL,3,.sv 9 QL,10,11],[Qe 0 [.sv 0 QL,3]]),(250,[3,.sv 29 QL,30,31,.own 6 6 QI],[Qe 4 [.own 6 6 QI]]),(7474,[.sv 0 QL,3,5,.sv 9 QL,10,11],[Qe 2 [.sv 0 QL,3,.sv 9 QL,10,11]])],[],[(5,[.v,.v,.v,.v,.v,.v,.v,.x])]⟩
def a2M(s:(LI×Z29)):Option ((LI×Z29) ⊕ (Int×Int×Unit)):=(fun(a b:LI)(c d e:Int)=>cond (decide (e<(a.length:Int))) ((m0k a e).bind fun x1=>(m0k b (wrap .i64 (e-1))).bind fun x2=>(m0k a e).bind fun x3=>(m0k a e).bind fun x4=>(m0k b (wrap .i64 (e-1))).bind fun x5=>(m0k b (wrap .i64 (e-1))).bind fun x6=>some (.inl (a,b,wrap .i64 (c+(wrap .i64 (x1*x2))),wrap .i64 (d+(wrap .i64 ((wrap .i64 (x3*x4))+(wrap .i64 (x5*x6))))),wrap .i64 (e+1),()))) (some (.inr (c,d,())))) s.1 s.2.1 s.2.2.1 s.2.2.2.1 s.2.2.2.2.1
def a2N(s:(Int×Int×Unit)):Option ((Int×Int×Unit) ⊕ (Int×Int×Unit)):=cond (decide (s.2.1≥1099511627776)) (some (.inl (A0o .i64 s.1 1,A0o .i64 s.2.1 1,()))) (some (.inr (s.1,s.2.1,())))
def a3V(x:Z10):Option Int:=(y0s a2M (x.1,x.2.1,0,0,x.2.2,())).bind fun w7=>(y0s a2N (w7.1,w7.2.1,())).bind fun w8=>cond (w8.2.1==0) (some 0) (cond (w8.2.1==0) none ((show Option (Int×Unit)from cond (w8.2.1==0) none (cond (decide ((a18 (A0n .i64 w8.1 15) w8.2.1)<0)) (some (wrap .i64 ((wrap .i64 (a09 (A0n .i64 w8.1 15) w8.2.1))-1),())) (some (wrap .i64 (a09 (A0n .i64 w8.1 15) w8.2.1),())))).bind fun z9=>some (v0s (v0r z9.1 (-16383)) 16383)))
def b2J:FSem:=⟨[.v QL,.v QL,.v QI],[.v QI],a3V⟩
def c8V:Hints:=⟨[(58,[.sv 0 QL,.sv 1 QL,7,8,9],[Qe 0 [7,8]]),(60,[7,8],[Qe 2 [7,8]])],[(255,[Qn [10]])],[(5,[.v,.v,.v,.v,.v,.v,.v,.v,.v,.v,.v,.x,.x]),(6,[.v,.v,.v,.v,.v,.v,.v,.v,.v,.v,.v,.v,.v,.v,.v,.v,.v,.v,.v,.v,.v,.v,.x,.x])]⟩
def a2C(s:(Int×Int×Z63)):Option ((Int×Int×Z63) ⊕ Z63):=(fun(a b c:Int)(d e f:LI)=>cond (decide (c≥a)) (cond ((decide (0≤c))&&(decide (c<(d.length:Int)))) (cond ((decide (0≤(wrap .i64 (c-1))))&&(decide ((wrap .i64 (c-1))<(e.length:Int)))) ((a2f (wrap .i64 ((a04 d (a01 c) 0)-(A0o .i64 (wrap .i64 (b*(a04 e (a01 (wrap .i64 (c-1))) 0))) 14)))).bind fun y6=>cond ((decide (0≤c))&&(decide (c<(d.length:Int)))) ((a2f (wrap .i64 ((a04 e (a01 (wrap .i64 (c-1))) 0)-(A0o .i64 (wrap .i64 (b*(a04 d (a01 c) 0))) 14)))).bind fun y7=>cond ((decide (0≤c))&&(decide (c<(e.length:Int)))) (some (.inl (s.1,a,b,wrap .i64 (c-1),a05 d (a01 c) y6,a05 e (a01 c) y7,f,()))) none) none) none) none) (some (.inr (s.1,a,d,e,f,())))) s.2.1 s.2.2.1 s.2.2.2.1 s.2.2.2.2.1 s.2.2.2.2.2.1 s.2.2.2.2.2.2.1
def a2D(s:Z63):Option (Z63 ⊕ (LI×Unit)):=(fun(a:Int)(b c d:LI)=>cond (decide (a≤s.1)) ((a3V (b,c,a)).bind fun y5=>cond (lim ((a02 d)+1)) ((y0s a2C (s.1,a,y5,wrap .i64 ((b.length:Int)-1),b,c,a03 d [y5],())).bind fun w8=>some (.inl (w8.1,wrap .i64 (w8.2.1+1),w8.2.2.1,w8.2.2.2.1,w8.2.2.2.2.1,()))) none) (some (.inr (d,())))) s.2.1 s.2.2.1 s.2.2.2.1 s.2.2.2.2.1
def a5u(x:(LI×Int)):Option (LI×Int):=(show Option Z18 from cond (decide (x.2<1)) (some (x.1,x.2,true,())) (cond (decide (x.2 > 32)) (some (x.1,x.2,true,())) (some (x.1,x.2,decide ((x.1.length:Int) > 4096),())))).bind fun z1=>cond z1.2.2.1 (some ([],1)) ((a2e z1.1).bind fun y2=>cond (!y2) (some ([],6)) ((a6r z1.1).bind fun y3=>(a0X y3).bind fun y4=>cond ((decide (0≤z1.2.1))&&(lim (a01 z1.2.1))) ((y0s a2D (z1.2.1,1,y3,y4,[],())).bind fun w9=>some (w9.1,0)) none))
def b4b:FSem:=⟨[.v QL,.v QI],[.o QI,.v QI],a5u⟩
def c8W:Hints:=⟨[(1018,[1,9,.own 6 6 QI,.own 7 7 QI,.own 8 8 QI],[Qe 0 [.own 8 8 QI]]),(260686,[1,9,10,11,.own 6 6 QI,.own 7 7 QI,.own 8 8 QI],[Qe 2 [1,9,.own 6 6 QI,.own 7 7 QI,.own 8 8 QI]])],[(6,[Qn [.sv 0 QL,1,.sv 24 .bool]])],[(16,[.q,.v,.q,.q,.q,.v,.v,.q,.q,.v,.x])]⟩
def a1L(s:Z39):Option (Z39 ⊕ ((LI×Unit) ⊕ Z5)):=(fun(a:LI)(b c:Int)=>cond (decide (c<b)) ((m0k a c).bind fun x2=>(show Option (LI×Z32)from cond (decide (x2<(-16383))) (some (s.1,a,b,c,true,())) (some (s.1,a,b,c,decide (x2 > 16383),()))).bind fun z3=>cond z3.2.2.2.2.1 (some (.inr (Sum.inr (([],1,()))))) (some (.inl (z3.1,z3.2.1,z3.2.2.1,wrap .i64 (z3.2.2.2.1+1),())))) (some (.inr (Sum.inl (s.1,()))))) s.2.1 s.2.2.1 s.2.2.2.1
def a3n(s:(LI×(Int×(Int×(LI×Z67))))):Option ((LI×(Int×(Int×(LI×Z67)))) ⊕ Z53):=(fun(a:Int)(b:LI)(c d:Int)(e:LI)(f g:Int)(h:LI)=>cond (decide (g<f)) ((m0k e g).bind fun x8=>(m0k s.1 (wrap .i64 ((wrap .i64 (s.2.1-1))-g))).bind fun x9=>cond (lim ((a02 h)+1)) (some (.inl (s.1,s.2.1,a,b,c,d,e,f,wrap .i64 (g+1),a03 h [wrap .i64 (x8-(A0o .i64 (wrap .i64 (a*x9)) 14))],()))) none) (some (.inr (a,b,c,d,h,())))) s.2.2.1 s.2.2.2.1 s.2.2.2.2.1 s.2.2.2.2.2.1 s.2.2.2.2.2.2.1 s.2.2.2.2.2.2.2.1 s.2.2.2.2.2.2.2.2.1 s.2.2.2.2.2.2.2.2.2.1
def a4N(s:Z39):Option (Z39 ⊕ (LI×Unit)):=(fun(a:LI)(b c:Int)=>cond (decide (c<b)) ((m0k s.2.1 c).bind fun x7=>cond ((decide (0≤(wrap .i64 (c+1))))&&(lim (a01 (wrap .i64 (c+1))))) ((y0s a3n (a,c,x7,s.2.1,b,c,a,(a.length:Int),0,[],())).bind fun w10=>cond (lim ((a02 w10.2.2.2.2.1)+1)) (some (.inl (a03 w10.2.2.2.2.1 [w10.1],w10.2.1,w10.2.2.1,wrap .i64 (w10.2.2.2.1+1),()))) none) none) (some (.inr (a,())))) s.1 s.2.2.1 s.2.2.2.1
def a6V(x:LI):Option (LI×Int):=(show Option (LI×(Bool×Unit))from cond (decide ((x.length:Int)<1)) (some (x,true,())) (some (x,decide ((x.length:Int) > 32),()))).bind fun z1=>cond z1.2.1 (some ([],1)) ((y0s a1L (z1.1,z1.1,(z1.1.length:Int),0,())).bind fun w4=>match w4 with |.inl a5=>((y0s a4N ([],a5.1,(a5.1.length:Int),0,())).bind fun w11=>some (w11.1,0)) |.inr b6=>some (b6.1,b6.2.1))
def b5O:FSem:=⟨[.v QL],[.v QL,.v QI],a6V⟩
def c8X:Hints:=⟨[(58,[.sv 0 QL,.sv 20 QL,21,22],[Qe 0 [.sv 0 QL],Qr [.sv 2 QL,3]]),(250,[.sv 6 QL,.sv 34 QL,35,36],[Qe 2 [.sv 6 QL]]),(256410,[.sv 6 QL,7,8,.sv 34 QL,35,36,.sv 44 QL,45,46,.own 9 9 QI],[Qe 4 [8,.sv 34 QL,35,36,.own 9 9 QI]])],[(6,[Qn [.sv 0 QL,.sv 19 .bool]]),(3737,[Qn [.sv 0 QL,.sv 20 QL,21,22,.sv 31 .bool]])],[]⟩
def a1M(s:Z54):Option (Z54 ⊕ (Z5 ⊕ Z15)):=(fun(a:Int)(b:LI)(c d:Int)=>cond (decide (d<c)) ((m0k b d).bind fun x2=>(show Option (LI×(Int×Z32))from cond (decide (x2<(-35184372088832))) (some (s.1,a,b,c,d,true,())) (some (s.1,a,b,c,d,decide (x2 > 35184372088832),()))).bind fun z3=>cond z3.2.2.2.2.2.1 (some (.inr (Sum.inr ((0,1,[],()))))) (some (.inl (z3.1,z3.2.1,z3.2.2.1,z3.2.2.2.1,wrap .i64 (z3.2.2.2.2.1+1),())))) (some (.inr (Sum.inl (s.1,a,()))))) s.2.1 s.2.2.1 s.2.2.2.1 s.2.2.2.2.1
def a1N(s:(LI×(Int×Z67))):Option ((LI×(Int×Z67)) ⊕ Z37):=(fun(a b c:Int)(d:LI)(e f:Int)(g:LI)=>cond (decide (f<e)) ((m0k d f).bind fun x8=>cond (decide (b<0)) none ((a3g (A0o .i64 (wrap .i64 (x8+c)) b,a)).bind fun y9=>cond (!y9) (some (.inr (s.1,a,b,g,()))) (cond (lim ((a02 g)+1)) (some (.inl (s.1,a,b,c,d,e,wrap .i64 (f+1),a03 g [A0o .i64 (wrap .i64 (x8+c)) b],()))) none))) (some (.inr (s.1,a,b,g,())))) s.2.1 s.2.2.1 s.2.2.2.1 s.2.2.2.2.1 s.2.2.2.2.2.1 s.2.2.2.2.2.2.1 s.2.2.2.2.2.2.2.1
def a2q(s:Z14):Option (Z14 ⊕ (Unit ⊕ Z15)):=(fun(a:Int)=>cond (decide (a≤14)) ((show Option Z29 from cond (decide (a > 0)) (cond (decide ((wrap .i64 (a-1))<0)) none (some (s.1,s.2.1,a,A0n .i64 1 (wrap .i64 (a-1)),()))) (some (s.1,s.2.1,a,0,()))).bind fun z7=>cond ((decide (0≤(z7.1.length:Int)))&&(lim (a01 (z7.1.length:Int)))) ((y0s a1N (z7.1,z7.2.1,z7.2.2.1,z7.2.2.2.1,z7.1,(z7.1.length:Int),0,[],())).bind fun w10=>cond ((w10.2.2.2.1.length:Int)==(w10.1.length:Int)) (some (.inr (Sum.inr ((wrap .i64 (14-w10.2.2.1),0,w10.2.2.2.1,()))))) (some (.inl (w10.1,w10.2.1,wrap .i64 (w10.2.2.1+1),())))) none) (some (.inr (Sum.inl ())))) s.2.2.1
def a6W(x:(LI×Int)):Option Z2:=(show Option Z18 from cond (decide ((x.1.length:Int)<1)) (some (x.1,x.2,true,())) (cond (decide ((x.1.length:Int) > 32)) (some (x.1,x.2,true,())) (cond (decide (x.2<2)) (some (x.1,x.2,true,())) (some (x.1,x.2,decide (x.2 > 16),()))))).bind fun z1=>cond z1.2.2.1 (some ([],0,1)) ((y0s a1M (z1.1,z1.2.1,z1.1,(z1.1.length:Int),0,())).bind fun w4=>match w4 with |.inl a5=>((y0s a2q (a5.1,a5.2.1,0,())).bind fun w11=>match w11 with |.inl a12=>some ([],0,6) |.inr b13=>some (b13.2.2.1,b13.1,b13.2.1)) |.inr b6=>some (b6.2.2.1,b6.1,b6.2.1))
def b5P:FSem:=⟨[.v QL,.v QI],[.o QI,.v QI,.v QI],a6W⟩
def c8Y:Hints:=⟨[(58,[.sv 0 QL,1,.sv 31 QL,32,33],[Qe 0 [.sv 0 QL,1],Qr [5,6,.own 4 4 QI]]),(122,[.sv 0 QL,1,9],[Qe 2 [],Qr [5,6,.own 4 11 QI]]),(125242,[.sv 0 QL,1,9,10,.sv 56 QL,57,58,.own 11 11 QI],[Qe 4 [.sv 0 QL,1,9,.own 11 11 QI]])],[(6,[Qn [.sv 0 QL,1,.sv 30 .bool]]),(3737,[Qn [.sv 0 QL,1,.sv 31 QL,32,33,.sv 42 .bool]]),(3913,[Qn [.sv 0 QL,1,9,10]])],[]⟩
end Go.Ab
namespace Go.Ab
open IntKind(wrap)
open Go.Proofs
set_option maxRecDepth 100000
set_option linter.unusedVariables false
def a3i(x:Z2):Option Z2:=(a5u (x.1,x.2.1)).bind fun y1=>cond (y1.2 != 0) (some ([],0,y1.2)) ((a6V y1.1).bind fun y2=>cond (y2.2 != 0) (some ([],0,y2.2)) ((a6W (y2.1,x.2.2)).bind fun y3=>some (y3.1,y3.2.1,y3.2.2)))
def b7m:FSem:=⟨[.v QL,.v QI,.v QI],[.o QI,.v QI,.v QI],a3i⟩
def b5Q(s:(LI×(Int×Int×Z34))):Option ((LI×(Int×Int×Z34)) ⊕ (LI×(Int×Z34))):=(fun(a:LI)(b c d e f g:Int)=>cond (decide (g<(a.length:Int))) ((m0k a g).bind fun x3=>(m0k a (wrap .i64 (g-e))).bind fun x4=>some (.inl (a,s.2.1,b,c,d,e,wrap .i64 (f+(v0r (wrap .i64 (x3-x4)) (wrap .i64 (0-(wrap .i64 (x3-x4)))))),wrap .i64 (g+1),()))) (some (.inr (a,s.2.1,b,c,d,e,f,())))) s.1 s.2.2.1 s.2.2.2.1 s.2.2.2.2.1 s.2.2.2.2.2.1 s.2.2.2.2.2.2.1 s.2.2.2.2.2.2.2.1
def b5R(s:(LI×Z34)):Option ((LI×Z34) ⊕ (Int×Unit)):=(fun(a b c:Int)=>cond (decide (c≤a)) ((y0s b5Q (s.1,s.2.1,a,b,s.2.2.2.2.1,c,0,a,())).bind fun w5=>(show Option (LI×(Int×Int×Int×Z22))from cond (w5.2.2.2.2.2.1==w5.2.1) (some (w5.1,w5.2.1,w5.2.2.1,w5.2.2.2.1,w5.2.2.2.2.1,w5.2.2.2.2.2.1,w5.2.2.2.2.2.2.1,true,())) (some (w5.1,w5.2.1,w5.2.2.1,w5.2.2.2.1,w5.2.2.2.2.1,w5.2.2.2.2.2.1,w5.2.2.2.2.2.2.1,decide (w5.2.2.2.2.2.2.1<w5.2.2.2.2.1),()))).bind fun z6=>cond z6.2.2.2.2.2.2.2.1 (some (.inl (z6.1,z6.2.1,z6.2.2.1,z6.2.2.2.2.2.1,z6.2.2.2.2.2.2.1,wrap .i64 (z6.2.2.2.2.2.1+1),()))) (some (.inl (z6.1,z6.2.1,z6.2.2.1,z6.2.2.2.1,z6.2.2.2.2.1,wrap .i64 (z6.2.2.2.2.2.1+1),())))) (some (.inr (b,())))) s.2.2.1 s.2.2.2.1 s.2.2.2.2.2.1
def a8O(x:Z2):Option (Int×Int):=(show Option Z32 from cond (decide (x.2.1<2)) (some (x.1,x.2.1,x.2.2,true,())) (cond (decide (x.2.1 > x.2.2)) (some (x.1,x.2.1,x.2.2,true,())) (cond (decide (x.2.2 > 1024)) (some (x.1,x.2.1,x.2.2,true,())) (some (x.1,x.2.1,x.2.2,decide ((x.1.length:Int) > 4096),()))))).bind fun z1=>cond z1.2.2.2.1 (some (0,1)) (cond (decide ((z1.1.length:Int)≤z1.2.2.1)) (some (0,7)) ((a3x z1.1).bind fun y2=>cond (!y2) (some (0,6)) ((y0s b5R (z1.1,z1.2.1,z1.2.2.1,0,0,z1.2.1,())).bind fun w7=>some (w7.1,0))))
def b9M:FSem:=⟨[.v QL,.v QI,.v QI],[.v QI,.v QI],a8O⟩
def c8Z:Hints:=⟨[(506,[.sv 0 QL,1,2,8,9,10],[Qe 0 [8]]),(129610,[.sv 0 QL,1,2,8,9,10,11,12],[Qe 2 [.sv 0 QL,1,2,8,9,10,11]])],[(6,[Qn [.sv 0 QL,1,2,.sv 29 .bool]]),(32403,[Qn [.sv 0 QL,1,2,8,9,10,11,.sv 74 .bool]])],[(15,[.v,.v,.v,.v,.v,.v,.v,.v,.v,.v,.x,.x])]⟩
def b2T(x:Unit):Option (List LI):=some ([a05 (a05 (a05 (a00 3 0) 0 0) 1 0) 2 0,a05 (a05 (a05 (a00 3 0) 0 0) 1 64) 2 0,a05 (a05 (a05 (a00 3 0) 0 0) 1 32) 2 0,a05 (a05 (a05 (a00 3 0) 0 16) 1 32) 2 16,a05 (a05 (a05 (a00 3 0) 0 21) 1 22) 2 21,a05 (a05 (a05 (a00 3 0) 0 0) 1 48) 2 0,a05 (a05 (a05 (a00 3 0) 0 (-8)) 1 64) 2 (-8),a05 (a05 (a05 (a00 3 0) 0 32) 1 32) 2 0,a05 (a05 (a05 (a00 3 0) 0 0) 1 32) 2 32]:List LI)
def b8l:FSem:=⟨[],[.o (.arr 3 QI)],b2T⟩
def b5S(s:(LI×(Int×(Int×(Bool×(Int×(Int×(Int×(Int×(Int×((List LI)×(LI×Z36)))))))))))):Option ((LI×(Int×(Int×(Bool×(Int×(Int×(Int×(Int×(Int×((List LI)×(LI×Z36))))))))))) ⊕ (LI×(Int×(Int×(Bool×(Int×(Int×(Int×((List LI)×Z36))))))))):=(fun(a:Int)(b:Bool)(c d e f g:Int)(h:List LI)(i j k l:LI)=>cond (decide (g<f)) (cond ((decide (0≤g))&&(decide (g<(i.length:Int)))) (some (.inl (s.1,s.2.1,a,b,wrap .i64 (c+(v0r (a04 i (a01 g) 0) (wrap .i64 (0-(a04 i (a01 g) 0))))),d,e,f,wrap .i64 (g+1),h,i,j,k,l,()))) none) (some (.inr (s.1,s.2.1,a,b,c,d,e,h,j,k,l,())))) s.2.2.1 s.2.2.2.1 s.2.2.2.2.1 s.2.2.2.2.2.1 s.2.2.2.2.2.2.1 s.2.2.2.2.2.2.2.1 s.2.2.2.2.2.2.2.2.1 s.2.2.2.2.2.2.2.2.2.1 s.2.2.2.2.2.2.2.2.2.2.1 s.2.2.2.2.2.2.2.2.2.2.2.1 s.2.2.2.2.2.2.2.2.2.2.2.2.1 s.2.2.2.2.2.2.2.2.2.2.2.2.2.1
def b5T(s:(LI×(Int×(Int×(Bool×(Int×(Int×((List LI)×Z11)))))))):Option ((LI×(Int×(Int×(Bool×(Int×(Int×((List LI)×Z11))))))) ⊕ (Bool×Z11)):=(fun(a b:Int)(c:Bool)(d e:Int)(f:List LI)(g h:LI)=>cond (decide (e<d)) (cond ((decide (0≤e))&&(decide (e<(f.length:Int)))) ((a6b (s.1,a,a04 f (a01 e) (a00 3 0))).bind fun y3=>cond (y3.2 != 0) (some (.inl (s.1,a,b,c,d,wrap .i64 (e+1),f,g,h,()))) ((y0s b5S (s.1,a,b,c,0,d,e,(y3.1.length:Int),0,f,y3.1,g,h,a04 f (a01 e) (a00 3 0),())).bind fun w4=>(show Option (LI×(Int×(Int×(Bool×(Int×(Int×(Int×(Bool×((List LI)×Z36)))))))))from cond (!w4.2.2.2.1) (some (w4.1,w4.2.1,w4.2.2.1,w4.2.2.2.1,w4.2.2.2.2.1,w4.2.2.2.2.2.1,w4.2.2.2.2.2.2.1,true,w4.2.2.2.2.2.2.2.1,w4.2.2.2.2.2.2.2.2.1,w4.2.2.2.2.2.2.2.2.2.1,w4.2.2.2.2.2.2.2.2.2.2.1,())) (some (w4.1,w4.2.1,w4.2.2.1,w4.2.2.2.1,w4.2.2.2.2.1,w4.2.2.2.2.2.1,w4.2.2.2.2.2.2.1,decide (w4.2.2.2.2.1<w4.2.2.1),w4.2.2.2.2.2.2.2.1,w4.2.2.2.2.2.2.2.2.1,w4.2.2.2.2.2.2.2.2.2.1,w4.2.2.2.2.2.2.2.2.2.2.1,()))).bind fun z5=>cond z5.2.2.2.2.2.2.2.1 (some (.inl (z5.1,z5.2.1,z5.2.2.2.2.1,true,z5.2.2.2.2.2.1,wrap .i64 (z5.2.2.2.2.2.2.1+1),z5.2.2.2.2.2.2.2.2.1,z5.2.2.2.2.2.2.2.2.2.1,z5.2.2.2.2.2.2.2.2.2.2.2.1,()))) (some (.inl (z5.1,z5.2.1,z5.2.2.1,z5.2.2.2.1,z5.2.2.2.2.2.1,wrap .i64 (z5.2.2.2.2.2.2.1+1),z5.2.2.2.2.2.2.2.2.1,z5.2.2.2.2.2.2.2.2.2.1,z5.2.2.2.2.2.2.2.2.2.2.1,()))))) none) (some (.inr (c,g,h,())))) s.2.1 s.2.2.1 s.2.2.2.1 s.2.2.2.2.1 s.2.2.2.2.2.1 s.2.2.2.2.2.2.1 s.2.2.2.2.2.2.2.1 s.2.2.2.2.2.2.2.2.1
def b3E(x:(LI×Int)):Option (LI×Int):=(show Option (LI×(Int×Z7))from cond (decide (x.2<2)) (some (x.1,x.2,true,a00 3 0,())) (some (x.1,x.2,decide (x.2 > 1024),a00 3 0,()))).bind fun z1=>cond z1.2.2.1 (some (a00 3 0,1)) ((b2T ()).bind fun y2=>(y0s b5T (z1.1,z1.2.1,0,false,(y2.length:Int),0,y2,z1.2.2.2.1,a00 3 0,())).bind fun w6=>cond (!w6.1) (some (a00 3 0,6)) (some (w6.2.2.1,0)))
def b9N:FSem:=⟨[.v QL,.v QI],[.v (.arr 3 QI),.v QI],b3E⟩
def c9a:Hints:=⟨[(122,[.sv 0 QL,1,7,.sv 8 .bool,25,26,.own 24 1024 (.arr 3 QI),.box 4 (.arr 3 QI),.box 6 (.arr 3 QI),Qp 4 4,Qp 6 6],[Qe 0 [.sv 8 .bool,.box 4 (.arr 3 QI),.box 6 (.arr 3 QI),Qp 4 4,Qp 6 6]]),(501370,[.sv 0 QL,1,7,.sv 8 .bool,13,25,26,40,41,.own 24 1024 (.arr 3 QI),.own 39 11 QI,.box 4 (.arr 3 QI),.box 6 (.arr 3 QI),.box 10 (.arr 3 QI),Qp 4 4,Qp 6 6,Qp 10 10],[Qe 2 [.sv 0 QL,1,7,.sv 8 .bool,13,25,26,.own 24 1024 (.arr 3 QI),.box 4 (.arr 3 QI),.box 6 (.arr 3 QI),.box 10 (.arr 3 QI),Qp 4 4,Qp 6 6,Qp 10 10]])],[(6,[Qn [.sv 0 QL,1,.sv 21 .bool,.box 4 (.arr 3 QI),Qp 4 4]]),(125343,[Qn [.sv 0 QL,1,7,.sv 8 .bool,13,25,26,.sv 58 .bool,.own 24 1024 (.arr 3 QI),.box 4 (.arr 3 QI),.box 6 (.arr 3 QI),.box 10 (.arr 3 QI),Qp 4 4,Qp 6 6,Qp 10 10]])],[]⟩
def a2V(x:LI):Option (Z93×Bool):=(a8O (x,16,256)).bind fun y1=>cond (y1.2 != 0) (some ((0,0,0,0,0,[],a00 3 0,[],[],(0,[],()),[],()),false)) ((b3E (x,y1.1)).bind fun y2=>cond (y2.2 != 0) (some ((0,0,0,0,0,[],a00 3 0,[],[],(0,[],()),[],()),false)) ((a6b (x,y1.1,y2.1)).bind fun y3=>cond (y3.2 != 0) (some ((0,0,0,0,0,[],a00 3 0,[],[],(0,[],()),[],()),false)) ((a3i (y3.1,4,12)).bind fun y4=>cond (y4.2.2 != 0) (some ((0,0,0,0,0,[],a00 3 0,[],[],(0,[],()),[],()),false)) (some ((4,0,0,y4.2.1,y1.1,y4.1,y2.1,[],[],(0,[],()),[],()),true)))))
def b8m:FSem:=⟨[.v QL],[.v Q31,.v .bool],a2V⟩
def a0M(x:(Int×(Int×(LI×Z94)))):Option (LI×Z94):=(a3i (x.2.2.1,x.1,x.2.1)).bind fun y1=>cond (y1.2.2==0) (cond (lim ((a02 x.2.2.2)+1)) (some (x.2.2.1,a03 x.2.2.2 ([(3,0,0,y1.2.1,0,y1.1,a00 3 0,[],[],(0,[],()),[],())]:List Z93))) none) (some (x.2.2.1,x.2.2.2))
def b2U:FSem:=⟨[.v QI,.v QI,.r false (.b QL),.r false (.b (.list true Q31))],[],a0M⟩
def a1U(s:(Int×c1r)):Option ((Int×c1r) ⊕ c1r):=cond (decide (s.1<5)) (cond (lim ((a02 s.2.1)+1)) (some (.inl (wrap .i64 (s.1+1),a03 s.2.1 ([(2,0,s.1,0,0,[],a00 3 0,[],[],(0,[],()),[],())]:List Z93),s.2.2.1,()))) none) (some (.inr (s.2.1,s.2.2.1,())))
def a5v(x:(LI×Int)):Option Z94:=(a4X x.1).bind fun y1=>(show Option (Int×(LI×Z97))from cond (decide (x.2≥1)) ((a0M (4,12,x.1,([(0,0,0,0,0,[],a00 3 0,[],[],(0,[],()),[],()),(1,0,0,0,0,[],a00 3 0,[],[],(0,[],()),[],()),(2,0,y1,0,0,[],a00 3 0,[],[],(0,[],()),[],())]:List Z93))).bind fun y2=>(a0M (8,12,y2.1,y2.2)).bind fun y3=>some (x.2,y3.1,y3.2,())) (some (x.2,x.1,([(0,0,0,0,0,[],a00 3 0,[],[],(0,[],()),[],()),(1,0,0,0,0,[],a00 3 0,[],[],(0,[],()),[],()),(2,0,y1,0,0,[],a00 3 0,[],[],(0,[],()),[],())]:List Z93),()))).bind fun z4=>(show Option (Int×c1r)from cond (decide (z4.1≥2)) (cond (lim ((a02 z4.2.2.1)+1)) (cond (lim ((a02 (a03 z4.2.2.1 ([(5,0,0,0,0,[],a00 3 0,([(16,4,())]:List (Int×Int×Unit)),[],(0,[],()),[],())]:List Z93)))+1)) ((a2V z4.2.1).bind fun y5=>cond y5.2 (cond (lim ((a02 (a03 (a03 z4.2.2.1 ([(5,0,0,0,0,[],a00 3 0,([(16,4,())]:List (Int×Int×Unit)),[],(0,[],()),[],())]:List Z93)) ([(5,0,0,0,0,[],a00 3 0,([(32,3,()),(16,5,())]:List (Int×Int×Unit)),[],(0,[],()),[],())]:List Z93)))+1)) (some (z4.1,a03 (a03 (a03 z4.2.2.1 ([(5,0,0,0,0,[],a00 3 0,([(16,4,())]:List (Int×Int×Unit)),[],(0,[],()),[],())]:List Z93)) ([(5,0,0,0,0,[],a00 3 0,([(32,3,()),(16,5,())]:List (Int×Int×Unit)),[],(0,[],()),[],())]:List Z93)) ([y5.1]:List Z93),z4.2.1,())) none) (some (z4.1,a03 (a03 z4.2.2.1 ([(5,0,0,0,0,[],a00 3 0,([(16,4,())]:List (Int×Int×Unit)),[],(0,[],()),[],())]:List Z93)) ([(5,0,0,0,0,[],a00 3 0,([(32,3,()),(16,5,())]:List (Int×Int×Unit)),[],(0,[],()),[],())]:List Z93),z4.2.1,()))) none) none) (some (z4.1,z4.2.2.1,z4.2.1,()))).bind fun z6=>(show Option Z97 from cond (decide (z6.1≥3)) ((y0s a1U (0,z6.2.1,z6.2.2.1,())).bind fun w7=>(a0M (1,12,w7.2.1,w7.1)).bind fun y8=>(a0M (2,12,y8.1,y8.2)).bind fun y9=>(a0M (12,14,y9.1,y9.2)).bind fun y10=>(a0M (16,14,y10.1,y10.2)).bind fun y11=>some (y11.2,())) (some (z6.2.1,()))).bind fun z12=>some z12.1
def b4c:FSem:=⟨[.v QL,.v QI],[.v (.list false Q31)],a5v⟩
def H63:Hints:=⟨[(4050,[50,.box 5 (.list true Q31),.box 2 QL,Qp 5 5,.clo 6 141 [2,5]],[Qe 0 [.box 5 (.list true Q31),.box 2 QL,Qp 5 5,.clo 6 141 [2,5]]])],[(15,[Qn [1,.box 2 QL,.box 5 (.list true Q31),Qp 2 2,Qp 5 5,.clo 6 141 [2,5]]]),(31,[Qn [1,.box 5 (.list true Q31),.box 2 QL,Qp 5 5,.clo 6 141 [2,5]]]),(63,[Qn [.box 5 (.list true Q31),Qp 5 5]])],[]⟩
def a5M(s:(LI×(Int×Bool×Z94×c1v))):Option ((LI×(Int×Bool×Z94×c1v)) ⊕ a9s):=(fun(a:LI)(b:Int)(c:Bool)(d:Z94)(e f:Int)(g h:Z93)=>cond (decide (f<e)) ((m0k d f).bind fun x6=>(a9w (x6.1,a,x6)).bind fun y7=>cond (y7.2 != 0) (some (.inl (a,b,c,d,e,wrap .i64 (f+1),g,h,()))) ((a2L (y7.1,(a.length:Int))).bind fun y8=>(show Option (LI×(Int×Bool×Int×Z94×Int×Int×Bool×Z93×a9s))from cond (!c) (some (a,b,c,y8,d,e,f,true,g,h,y7.1,())) (some (a,b,c,y8,d,e,f,decide (y8<b),g,h,y7.1,()))).bind fun z9=>cond z9.2.2.2.2.2.2.2.1 (some (.inl (z9.1,z9.2.2.2.1,true,z9.2.2.2.2.1,z9.2.2.2.2.2.1,wrap .i64 (z9.2.2.2.2.2.2.1+1),z9.2.2.2.2.2.2.2.2.1,z9.2.2.2.2.2.2.2.2.2.2.1,()))) (some (.inl (z9.1,z9.2.1,z9.2.2.1,z9.2.2.2.2.1,z9.2.2.2.2.2.1,wrap .i64 (z9.2.2.2.2.2.2.1+1),z9.2.2.2.2.2.2.2.2.1,z9.2.2.2.2.2.2.2.2.2.1,()))))) (some (.inr (g,h,())))) s.1 s.2.1 s.2.2.1 s.2.2.2.1 s.2.2.2.2.1 s.2.2.2.2.2.1 s.2.2.2.2.2.2.1 s.2.2.2.2.2.2.2.1
def a4s(x:(LI×Int)):Option Z95:=(show Option (LI×Z99)from cond (decide ((x.1.length:Int)<1)) (some (x.1,x.2,true,(0,0,0,0,0,[],a00 3 0,[],[],(0,[],()),[],()),())) (cond (decide ((x.1.length:Int) > 4096)) (some (x.1,x.2,true,(0,0,0,0,0,[],a00 3 0,[],[],(0,[],()),[],()),())) (cond (decide (x.2<0)) (some (x.1,x.2,true,(0,0,0,0,0,[],a00 3 0,[],[],(0,[],()),[],()),())) (some (x.1,x.2,decide (x.2 > 3),(0,0,0,0,0,[],a00 3 0,[],[],(0,[],()),[],()),()))))).bind fun z1=>cond z1.2.2.1 (some ((0,0,0,0,0,[],a00 3 0,[],[],(0,[],()),[],()),1)) ((a1Z z1.1).bind fun y2=>cond (!y2) (some ((0,0,0,0,0,[],a00 3 0,[],[],(0,[],()),[],()),6)) ((a2Z z1.1).bind fun y3=>(a5E (z1.1,y3)).bind fun y4=>cond (y4.2 != 0) (some ((0,0,0,0,0,[],a00 3 0,[],[],(0,[],()),[],()),y4.2)) ((a5v (y4.1,z1.2.1)).bind fun y5=>(y0s a5M (z1.1,0,false,y5,(y5.length:Int),0,z1.2.2.2.1,(0,0,0,0,0,[],a00 3 0,[],[],(0,[],()),[],()),())).bind fun w10=>some (w10.2.1,0))))
def c1F:FSem:=⟨[.v QL,.v QI],[.v Q31,.v QI],a4s⟩
def H19:Hints:=⟨[(2042,[.sv 0 QL,9,.sv 10 .bool,.sv 50 (.list false Q31),51,52,.box 4 Q31,.box 8 Q31,Qp 4 4,Qp 8 8],[Qe 0 [.box 4 Q31,.box 8 Q31,Qp 4 4,Qp 8 8]])],[(6,[Qn [.sv 0 QL,1,.sv 31 .bool,.box 4 Q31,Qp 4 4]]),(1045711,[Qn [.sv 0 QL,9,.sv 10 .bool,15,.sv 50 (.list false Q31),51,52,.sv 76 .bool,.box 4 Q31,.box 8 Q31,.box 13 Q31,Qp 4 4,Qp 8 8,Qp 13 13]])],[]⟩
def a4H(x:Z12):Option Int:=cond ((x.2.1.length:Int)==0) (some 0) ((m0k x.2.1 0).bind fun x1=>some (x1.length:Int))
def b9O:FSem:=⟨[.v Q10],[.v QI],a4H⟩
def a5N(x:Int):Option Bool:=cond (decide (4≤x)) (some (decide (x≤24))) (some false)
def b7n:FSem:=⟨[.v QI],[.v .bool],a5N⟩
def a3B(s:((List LI)×(Int×(Int×(LI×Z56))))):Option (((List LI)×(Int×(Int×(LI×Z56)))) ⊕ (((List LI)×Z56) ⊕ (Bool×Unit))):=(fun(a:Int)(b:LI)(c d:Int)(e:Z12)=>cond (decide (d<c)) ((m0k b d).bind fun x8=>(a3g (x8,e.1)).bind fun y9=>cond (!y9) (some (.inr (Sum.inr ((false,()))))) (some (.inl (s.1,s.2.1,a,b,c,wrap .i64 (d+1),e,())))) (some (.inr (Sum.inl (s.1,s.2.1,a,e,()))))) s.2.2.1 s.2.2.2.1 s.2.2.2.2.1 s.2.2.2.2.2.1 s.2.2.2.2.2.2.1
def a3C(s:((List LI)×Z56)):Option (((List LI)×Z56) ⊕ Z0):=cond (decide (s.2.2.1<s.2.1)) ((m0k s.1 s.2.2.1).bind fun x6=>(a4H s.2.2.2.1).bind fun y7=>cond ((x6.length:Int) != y7) (some (.inr (Sum.inr ((false,()))))) ((y0s a3B (s.1,s.2.1,s.2.2.1,x6,(x6.length:Int),0,s.2.2.2.1,())).bind fun w10=>match w10 with |.inl a11=>some (.inl (a11.1,a11.2.1,wrap .i64 (a11.2.2.1+1),a11.2.2.2.1,())) |.inr b12=>some (.inr (Sum.inr ((b12.1,())))))) (some (.inr (Sum.inl ())))
def a6f(x:Z12):Option Bool:=(show Option Z49 from(a5N x.1).bind fun y1=>cond (!y1) (some (true,x,())) (cond (decide ((x.2.1.length:Int)<1)) (some (true,x,())) (some (decide ((x.2.1.length:Int) > 8),x,())))).bind fun z2=>cond z2.1 (some false) ((show Option Z49 from(a4H z2.2.1).bind fun y3=>cond (decide (y3<1)) (some (true,z2.2.1,())) ((a4H z2.2.1).bind fun y4=>some (decide (y4 > 4096),z2.2.1,()))).bind fun z5=>cond z5.1 (some false) ((y0s a3C (z5.2.1.2.1,(z5.2.1.2.1.length:Int),0,z5.2.1,())).bind fun w13=>match w13 with |.inl a14=>some true |.inr b15=>some b15.1))
def b9P:FSem:=⟨[.v Q10],[.v .bool],a6f⟩
def H39:Hints:=⟨[(122,[.sv 32 (.list false QL),33,34,.vp 1 Q10],[Qe 0 [],Qr [.sv 2 .bool]]),(62670,[.sv 32 (.list false QL),33,34,.sv 43 QL,44,45,.vp 1 Q10],[Qe 2 [.sv 32 (.list false QL),33,34,.vp 1 Q10],Qr [.sv 2 .bool]])],[(6,[Qn [.sv 22 .bool,.vp 1 Q10]]),(14,[Qn [.sv 30 .bool,.vp 1 Q10]])],[]⟩
def a5O(x:Z8):Option Bool:=cond (decide (1≤x.1)) (cond (decide (x.1≤1048576)) (cond (decide (1≤x.2.1)) (cond (decide (x.2.1≤8)) ((a5N x.2.2.1).bind fun y1=>some y1) (some false)) (some false)) (some false)) (some false)
def b7o:FSem:=⟨[.v Q8],[.v .bool],a5O⟩
def a7v(x:Int):Option Bool:=cond (decide ((-1073741824)≤x)) (some (decide (x<1073741824))) (some false)
def b9Q:FSem:=⟨[.v QI],[.v .bool],a7v⟩
def a3D(s:((List LI)×((List LI)×Z43))):Option (((List LI)×((List LI)×Z43)) ⊕ (((List LI)×Z25) ⊕ (Bool×Unit))):=(fun(a b:Int)(c:LI)(d e:Int)=>cond (decide (e<d)) ((m0k c e).bind fun x5=>(a7v x5).bind fun y6=>cond (!y6) (some (.inr (Sum.inr ((false,()))))) (some (.inl (s.1,s.2.1,a,b,c,d,wrap .i64 (e+1),())))) (some (.inr (Sum.inl (s.1,s.2.1,a,b,()))))) s.2.2.1 s.2.2.2.1 s.2.2.2.2.1 s.2.2.2.2.2.1 s.2.2.2.2.2.2.1
def a3E(s:((List LI)×Z25)):Option (((List LI)×Z25) ⊕ Z0):=(fun(a b:Int)=>cond (decide (b<a)) ((m0k s.2.1 b).bind fun x3=>(m0k s.1 0).bind fun x4=>cond ((x3.length:Int) != (x4.length:Int)) (some (.inr (Sum.inr ((false,()))))) ((y0s a3D (s.1,s.2.1,a,b,x3,(x3.length:Int),0,())).bind fun w7=>match w7 with |.inl a8=>some (.inl (a8.1,a8.2.1,a8.2.2.1,wrap .i64 (a8.2.2.2.1+1),())) |.inr b9=>some (.inr (Sum.inr ((b9.1,())))))) (some (.inr (Sum.inl ())))) s.2.2.1 s.2.2.2.1
def a6g(x:(List LI)):Option Bool:=(show Option ((List LI)×(Bool×Unit))from cond (decide ((x.length:Int)<1)) (some (x,true,())) (cond (decide ((x.length:Int) > 8)) (some (x,true,())) ((m0k x 0).bind fun x1=>some (x,decide ((x1.length:Int) > 4096),())))).bind fun z2=>cond z2.2.1 (some false) ((y0s a3E (z2.1,z2.1,(z2.1.length:Int),0,())).bind fun w10=>match w10 with |.inl a11=>some true |.inr b12=>some b12.1)
def b3F:FSem:=⟨[.v (.list false QL)],[.v .bool],a6g⟩
def c9b:Hints:=⟨[(58,[.sv 0 (.list false QL),.sv 22 (.list false QL),23,24],[Qe 0 [],Qr [.sv 2 .bool]]),(29902,[.sv 0 (.list false QL),.sv 22 (.list false QL),23,24,.sv 35 QL,36,37],[Qe 2 [.sv 0 (.list false QL),.sv 22 (.list false QL),23,24],Qr [.sv 2 .bool]])],[(6,[Qn [.sv 0 (.list false QL),.sv 21 .bool]])],[]⟩
def a5P(s:(Int×Z17×Int×Int×Unit)):Option ((Int×Z17×Int×Int×Unit) ⊕ Z0):=(fun(a:Int)(b:Z17)(c d:Int)=>cond (decide (d<c)) ((m0k b d).bind fun x2=>(show Option (Int×Z17×Int×Int×Bool×Z8×Unit)from cond (decide (x2.1<0)) (some (a,b,c,d,true,x2,())) (cond (decide (x2.1≥a)) (some (a,b,c,d,true,x2,())) (cond (decide (x2.2.1<0)) (some (a,b,c,d,true,x2,())) (cond (decide (x2.2.1≥a)) (some (a,b,c,d,true,x2,())) (some (a,b,c,d,x2.1==x2.2.1,x2,())))))).bind fun z3=>cond z3.2.2.2.2.1 (some (.inr (Sum.inr ((false,()))))) ((show Option (Int×Z17×Z9)from cond (decide (z3.2.2.2.2.2.1.2.2.1<(-1024))) (some (z3.1,z3.2.1,z3.2.2.1,z3.2.2.2.1,true,())) (some (z3.1,z3.2.1,z3.2.2.1,z3.2.2.2.1,decide (z3.2.2.2.2.2.1.2.2.1 > 1024),()))).bind fun z4=>cond z4.2.2.2.2.1 (some (.inr (Sum.inr ((false,()))))) (some (.inl (z4.1,z4.2.1,z4.2.2.1,wrap .i64 (z4.2.2.2.1+1),()))))) (some (.inr (Sum.inl ())))) s.1 s.2.1 s.2.2.1 s.2.2.2.1
def a6X(x:(Z17×Int)):Option Bool:=(show Option (Z17×Int×Bool×Unit)from cond (decide (x.2<1)) (some (x.1,x.2,true,())) (cond (decide (x.2 > 8)) (some (x.1,x.2,true,())) (some (x.1,x.2,decide ((x.1.length:Int) > 16),())))).bind fun z1=>cond z1.2.2.1 (some false) ((y0s a5P (z1.2.1,z1.1,(z1.1.length:Int),0,())).bind fun w5=>match w5 with |.inl a6=>some true |.inr b7=>some b7.1)
def b4B:FSem:=⟨[.v (.list false Q8),.v QI],[.v .bool],a6X⟩
def c9c:Hints:=⟨[(58,[1,.sv 18 (.list false Q8),19,20],[Qe 0 [],Qr [.sv 4 .bool]])],[(6,[Qn [.sv 0 (.list false Q8),1,.sv 17 .bool]]),(7474,[Qn [1,.sv 18 (.list false Q8),19,20,.sv 50 .bool,.box 6 Q8,Qp 6 6]]),(7475,[Qn [1,.sv 18 (.list false Q8),19,20,.sv 58 .bool]])],[]⟩
def a5w(s:((List LI)×Z26)):Option (((List LI)×Z26) ⊕ Z3):=cond (decide (s.2.2.1<s.2.1)) ((m0k s.1 s.2.2.1).bind fun x1=>(a0X x1).bind fun y2=>cond (lim ((a02 s.2.2.2.1)+(a02 (a05 ([[]]:List LI) 0 y2)))) (some (.inl (s.1,s.2.1,wrap .i64 (s.2.2.1+1),a03 s.2.2.2.1 (a05 ([[]]:List LI) 0 y2),()))) none) (some (.inr (s.2.2.2.1,())))
def a5Q(x:(List LI)):Option (List LI):=(y0s a5w (x,(x.length:Int),0,([]:(List LI)),())).bind fun w3=>some w3.1
def b2y:FSem:=⟨[.v (.list false QL)],[.o (.list true QI)],a5Q⟩
def c9d:Hints:=⟨[(58,[.sv 6 (.list false QL),7,8,.own 3 3 (.list true QI)],[Qe 0 [.own 3 3 (.list true QI)]])],[],[]⟩
def a3c(s:(Int×(Int×(Int×((List LI)×(Z8×Int×Unit)))))):Option ((Int×(Int×(Int×((List LI)×(Z8×Int×Unit))))) ⊕ (Z3 ⊕ (Bool×Z3))):=(fun(a:Int)(b:List LI)(c:Z8)(d:Int)=>cond (decide (a<s.2.1)) (cond ((decide (0≤a))&&(decide (a<((a02 (a04 b (a01 d) []):Nat):Int)))) (cond ((decide (0≤c.2.1))&&(decide (c.2.1<(b.length:Int)))) (cond ((decide (0≤a))&&(decide (a<((a02 (a04 b (a01 c.2.1) []):Nat):Int)))) ((a7v (wrap .i64 ((a04 (a04 b (a01 c.2.1) []) (a01 a) 0)+(wrap .i64 (s.1*(A0o .i64 (wrap .i64 (c.2.2.1*(a04 (a04 b (a01 d) []) (a01 a) 0))) 8)))))).bind fun y1=>cond (!y1) (some (.inr (Sum.inr ((false,b,()))))) (cond ((decide (0≤c.2.1))&&(decide (c.2.1<(b.length:Int)))) (cond ((decide (0≤a))&&(decide (a<((a02 (a04 b (a01 c.2.1) []):Nat):Int)))) (some (.inl (s.1,s.2.1,wrap .i64 (a+1),a05 b (a01 c.2.1) (a05 (a04 b (a01 c.2.1) []) (a01 a) (wrap .i64 ((a04 (a04 b (a01 c.2.1) []) (a01 a) 0)+(wrap .i64 (s.1*(A0o .i64 (wrap .i64 (c.2.2.1*(a04 (a04 b (a01 d) []) (a01 a) 0))) 8)))))),c,((a01 d:Nat):Int),()))) none) none)) none) none) none) (some (.inr (Sum.inl (b,()))))) s.2.2.1 s.2.2.2.1 s.2.2.2.2.1 s.2.2.2.2.2.1
def a6x(x:((List LI)×(Z8×Int))):Option (Bool×(List LI)):=cond ((decide (0≤x.2.1.1))&&(decide (x.2.1.1<(x.1.length:Int)))) ((y0s a3c (x.2.2,((a02 (a04 x.1 (a01 x.2.1.1) []):Nat):Int),0,x.1,x.2.1,((a01 x.2.1.1:Nat):Int),())).bind fun w2=>match w2 with |.inl a3=>some (true,a3.1) |.inr b4=>some (b4.1,b4.2.1)) none
def b2V:FSem:=⟨[.r false (.o (.list true QI)),.v Q8,.v QI],[.v .bool],a6x⟩
def c9e:Hints:=⟨[(26,[2,15,16,.own 0 pinned (.list true QI),.vp 4 Q8,.rfi 14 pinned],[Qe 0 [.own 0 pinned (.list true QI)],Qr [.sv 6 .bool,.own 0 pinned (.list true QI)]])],[],[(4,[.q,.v,.v,.q,.q,.v,.q,.q,.v,.v,.v,.v,.v,.v,.v,.x,.x])]⟩
def a6y(s:(Z17×Z26)):Option ((Z17×Z26) ⊕ (Z3 ⊕ Z13)):=cond (decide (s.2.2.1<s.2.1)) ((m0k s.1 s.2.2.1).bind fun x5=>(a6x (s.2.2.2.1,x5,1)).bind fun y6=>cond (!y6.1) (some (.inr (Sum.inr ((([]:(List LI)),6,()))))) (some (.inl (s.1,s.2.1,wrap .i64 (s.2.2.1+1),y6.2,())))) (some (.inr (Sum.inl (s.2.2.2.1,()))))
def a9k(x:((List LI)×Z17)):Option ((List LI)×Int):=(show Option ((List LI)×(Z17×Bool×Unit))from(a6g x.1).bind fun y1=>cond (!y1) (some (x.1,x.2,true,())) ((a6X (x.2,(x.1.length:Int))).bind fun y2=>some (x.1,x.2,!y2,()))).bind fun z3=>cond z3.2.2.1 (some (([]:(List LI)),1)) ((a5Q z3.1).bind fun y4=>(y0s a6y (z3.2.1,(z3.2.1.length:Int),0,y4,())).bind fun w7=>match w7 with |.inl a8=>some (a8.1,0) |.inr b9=>some (b9.1,b9.2.1))
def c2Z:FSem:=⟨[.v (.list false QL),.v (.list false Q8)],[.v (.list false QL),.v QI],a9k⟩
def H43:Hints:=⟨[(122,[.sv 21 (.list false Q8),22,23,.own 6 6 (.list true QI)],[Qe 0 [.own 6 6 (.list true QI)],Qr [.sv 4 (.list false QL),5]])],[(6,[Qn [.sv 0 (.list false QL),.sv 1 (.list false Q8),.sv 18 .bool]])],[]⟩
def a5x(s:(Int×(LI×Z40))):Option ((Int×(LI×Z40)) ⊕ Z40):=(fun(a:LI)(b:Int)(c:List LI)(d e:Int)=>cond (decide (b<(a.length:Int))) ((m0k a b).bind fun x3=>(m0k a (wrap .i64 (b-1))).bind fun x4=>(m0k a (wrap .i64 (b-2))).bind fun x5=>some (.inl (wrap .i64 (s.1+(v0r (wrap .i64 ((wrap .i64 (x3-(wrap .i64 (2*x4))))+x5)) (wrap .i64 (0-(wrap .i64 ((wrap .i64 (x3-(wrap .i64 (2*x4))))+x5)))))),a,wrap .i64 (b+1),c,d,e,()))) (some (.inr (s.1,c,d,e,())))) s.2.1 s.2.2.1 s.2.2.2.1 s.2.2.2.2.1 s.2.2.2.2.2.1
def a5y(s:Z40):Option (Z40 ⊕ (Int×Unit)):=(fun(a b:Int)=>cond (decide (b<a)) ((m0k s.2.1 b).bind fun x2=>(y0s a5x (s.1,x2,2,s.2.1,a,b,())).bind fun w6=>some (.inl (w6.1,w6.2.1,w6.2.2.1,wrap .i64 (w6.2.2.2.1+1),()))) (some (.inr (s.1,())))) s.2.2.1 s.2.2.2.1
def a5R(x:(List LI)):Option Int:=(a6g x).bind fun y1=>cond (!y1) (some 0) ((y0s a5y (0,x,(x.length:Int),0,())).bind fun w7=>some w7.1)
def b7p:FSem:=⟨[.v (.list false QL)],[.v QI],a5R⟩
def c9f:Hints:=⟨[(122,[3,.sv 11 (.list false QL),12,13],[Qe 0 [3]]),(31334,[3,.sv 5 QL,6,.sv 11 (.list false QL),12,13],[Qe 2 [3,.sv 11 (.list false QL),12,13]])],[],[(10,[.v,.v,.v,.v,.v,.v,.v,.v,.v,.v,.v,.v,.v,.v,.v,.v,.x,.x])]⟩
def a8h(x:Int):Option Z17:=cond (x==1) (some ([(0,1,(-256),())]:List Z8)) (cond (x==2) (some ([(1,0,(-256),())]:List Z8)) (cond (x==3) (some ([(1,0,(-256),()),(0,1,128,())]:List Z8)) (cond (x==4) (some ([(1,0,(-106),()),(0,1,181,()),(1,0,(-106),())]:List Z8)) (some []))))
def b8n:FSem:=⟨[.v QI],[.o Q8],a8h⟩
def a4Y(s:((List LI)×Z8)):Option (((List LI)×Z8) ⊕ (Int×Unit)):=(fun(a:List LI)(b c d:Int)=>cond (decide (d<5)) ((a8h d).bind fun y2=>(a9k (a,y2)).bind fun y3=>cond (y3.2 != 0) (some (.inl (a,b,c,wrap .i64 (d+1),()))) ((a5R y3.1).bind fun y4=>cond (decide (y4<c)) (some (.inl (a,d,y4,wrap .i64 (d+1),()))) (some (.inl (a,b,c,wrap .i64 (d+1),()))))) (some (.inr (b,())))) s.1 s.2.1 s.2.2.1 s.2.2.2.1
def a8P(x:(List LI)):Option Z17:=(a5R x).bind fun y1=>(y0s a4Y (x,0,y1,1,())).bind fun w5=>(a8h w5.1).bind fun y6=>some y6
def b9R:FSem:=⟨[.v (.list false QL)],[.o Q8],a8P⟩
def c9g:Hints:=⟨[(58,[.sv 0 (.list false QL),3,4,5],[Qe 0 [3]])],[],[]⟩
def a4Z(s:(Int×Int×Int×Z17×Z80)):Option ((Int×Int×Int×Z17×Z80) ⊕ (Int×Z80)):=(fun(a b:Int)(c d:Z17)(e:Z12)=>cond (decide (b<s.2.1)) (cond ((decide (0≤b))&&(decide (b<(d.length:Int)))) (cond (lim ((a02 c)+1)) (some (.inl (a,s.2.1,wrap .i64 (b+1),a03 c ([(wrap .i64 (((a04 d (a01 b) (0,0,0,())).1)+a),wrap .i64 ((((a04 d (a01 b) (0,0,0,())).2).1)+a),(((a04 d (a01 b) (0,0,0,())).2).2).1,())]:List Z8),d,e,()))) none) none) (some (.inr (a,c,e,())))) s.1 s.2.2.1 s.2.2.2.1 s.2.2.2.2.1 s.2.2.2.2.2.1
def a6Y(s:(Int×Z80)):Option ((Int×Z80) ⊕ (Z17×Unit)):=(fun(a:Int)(b:Z12)=>cond (decide ((wrap .i64 (a+1))<(b.2.1.length:Int))) (cond ((decide (0≤(wrap .i64 (a+2))))&&(decide ((wrap .i64 (a+2))≤(b.2.1.length:Int)))) (cond ((decide (0≤a))&&(decide (a≤((a01 (wrap .i64 (a+2)):Nat):Int)))) ((a8P (a23 (a01 a) (a06 (a01 (wrap .i64 (a+2))) b.2.1))).bind fun y2=>(y0s a4Z (a,(y2.length:Int),0,s.2.1,y2,b,())).bind fun w3=>some (.inl (wrap .i64 (w3.1+2),w3.2.1,w3.2.2.1,()))) none) none) (some (.inr (s.2.1,())))) s.1 s.2.2.1
def a6h(x:Z12):Option Z17:=(a6f x).bind fun y1=>cond (!y1) (some []) ((y0s a6Y (0,[],x,())).bind fun w4=>some w4.1)
def b9S:FSem:=⟨[.v Q10],[.o Q8],a6h⟩
def H42:Hints:=⟨[(122,[4,.own 3 3 Q8,.vp 1 Q10],[Qe 0 [.own 3 3 Q8]]),(7826,[4,25,26,.own 3 3 Q8,.own 24 1024 Q8,.vp 1 Q10],[Qe 2 [4,.own 3 3 Q8,.vp 1 Q10]])],[],[]⟩
def a4t(s:(Int×((List LI)×(Int×c1w)))):Option ((Int×((List LI)×(Int×c1w))) ⊕ (c3W ⊕ (Int×b2P))):=(fun(a b:Int)(c d:a3p)=>cond (decide (b<a)) ((m0k s.2.1 b).bind fun x8=>(a4s (x8,s.1)).bind fun y9=>cond (y9.2 != 0) (some (.inr (Sum.inr ((y9.2,(0,0,(0,0,0,()),[],[],()),()))))) (cond (lim ((a02 d.2.2.2.2.1)+1)) (some (.inl (s.1,s.2.1,a,wrap .i64 (b+1),c,(d.1,d.2.1,d.2.2.1,d.2.2.2.1,a03 d.2.2.2.2.1 ([y9.1]:List Z93),d.2.2.2.2.2),()))) none)) (some (.inr (Sum.inl (c,d,()))))) s.2.2.1 s.2.2.2.1 s.2.2.2.2.1 s.2.2.2.2.2.1
def a5a(x:(Z12×Z8×Int×Int)):Option (a3p×Int):=(show Option (Int×Int×Bool×a3p×Z12×Z8×Unit)from(a6f x.1).bind fun y1=>cond (!y1) (some (x.2.2.1,x.2.2.2,true,(0,0,(0,0,0,()),[],[],()),x.1,x.2.1,())) ((a5O x.2.1).bind fun y2=>cond (!y2) (some (x.2.2.1,x.2.2.2,true,(0,0,(0,0,0,()),[],[],()),x.1,x.2.1,())) (cond (x.1.1 != x.2.1.2.2.1) (some (x.2.2.1,x.2.2.2,true,(0,0,(0,0,0,()),[],[],()),x.1,x.2.1,())) (cond ((x.1.2.1.length:Int) != x.2.1.2.1) (some (x.2.2.1,x.2.2.2,true,(0,0,(0,0,0,()),[],[],()),x.1,x.2.1,())) (cond (decide (x.2.2.2<0)) (some (x.2.2.1,x.2.2.2,true,(0,0,(0,0,0,()),[],[],()),x.1,x.2.1,())) (cond (decide (x.2.2.2 > 3)) (some (x.2.2.1,x.2.2.2,true,(0,0,(0,0,0,()),[],[],()),x.1,x.2.1,())) (some (x.2.2.1,x.2.2.2,decide (x.2.2.1<0),(0,0,(0,0,0,()),[],[],()),x.1,x.2.1,())))))))).bind fun z3=>cond z3.2.2.1 (some ((0,0,(0,0,0,()),[],[],()),1)) ((a4H z3.2.2.2.2.1).bind fun y4=>cond (decide (z3.1 > (wrap .i64 (4194304-y4)))) (some ((0,0,(0,0,0,()),[],[],()),4)) ((show Option (Int×a3p×a3p×Z30)from cond (decide (z3.2.1 > 0)) ((a6h z3.2.2.2.2.1).bind fun y5=>some (z3.2.1,z3.2.2.2.1,(z3.1,y4,z3.2.2.2.2.2.1,y5,[],()),z3.2.2.2.2.1,())) (some (z3.2.1,z3.2.2.2.1,(z3.1,y4,z3.2.2.2.2.2.1,[],[],()),z3.2.2.2.2.1,()))).bind fun z6=>(a9k (z6.2.2.2.1.2.1,z6.2.2.1.2.2.2.1)).bind fun y7=>cond (y7.2 != 0) (some ((0,0,(0,0,0,()),[],[],()),y7.2)) ((y0s a4t (z6.1,y7.1,(y7.1.length:Int),0,z6.2.1,z6.2.2.1,())).bind fun w10=>match w10 with |.inl a11=>some (a11.2.1,0) |.inr b12=>some (b12.2.1,b12.1))))
def b8o:FSem:=⟨[.v Q10,.v Q8,.v QI,.v QI],[.v Q49,.v QI],a5a⟩
def H12:Hints:=⟨[(2042,[3,.sv 81 (.list false QL),82,83,.box 8 Q49,.box 10 Q48,Qp 8 8,Qp 10 10],[Qe 0 [.box 8 Q49,.box 10 Q48,Qp 8 8,Qp 10 10],Qr [9,.box 8 Q49,Qp 8 8]])],[(6,[Qn [2,3,.sv 51 .bool,.box 8 Q49,.vp 4 Q10,.vp 5 Q8,Qp 8 8]]),(31,[Qn [3,.box 8 Q49,.box 10 Q48,.vp 4 Q10,Qp 8 8,Qp 10 10]])],[(3,[.v,.v,.v,.v,.v,.q,.x])]⟩
def a5S(x:a3p):Option Bool:=(a5O x.2.2.1).bind fun y1=>cond y1 (cond (decide (x.2.1≥1)) (cond (decide (x.2.1≤4096)) (cond (decide (x.1≥0)) (cond (decide (x.1≤(wrap .i64 (4194304-x.2.1)))) ((a6X (x.2.2.2.1,x.2.2.1.2.1)).bind fun y2=>some y2) (some false)) (some false)) (some false)) (some false)) (some false)
def b7q:FSem:=⟨[.v Q49],[.v .bool],a5S⟩
def a5b(k:Int)(v:Z8)(s:(Z17×((List LI)×Z12))):Option ((Z17×((List LI)×Z12)) ⊕ (Ex×(Z17×((List LI)×Z12)))):=(a6x (s.2.2.2.1,v,(-1))).bind fun y5=>cond (!y5.1) (some (.inr (.ret,s.1,([]:(List LI)),6,y5.2,()))) (some (.inl (s.1,s.2.1,s.2.2.1,y5.2,())))
def a8Q(x:((List LI)×Z17)):Option ((List LI)×Int):=(show Option ((List LI)×(Z17×Bool×Z13))from(a6g x.1).bind fun y1=>cond (!y1) (some (x.1,x.2,true,([]:(List LI)),0,())) ((a6X (x.2,(x.1.length:Int))).bind fun y2=>some (x.1,x.2,!y2,([]:(List LI)),0,()))).bind fun z3=>cond z3.2.2.1 (some (([]:(List LI)),1)) ((a5Q z3.1).bind fun y4=>cond (lim (a02 z3.2.1)) ((l0f a5b z3.2.1 (a02 z3.2.1) (z3.2.1,z3.2.2.2.1,z3.2.2.2.2.1,y4,())).bind fun w6=>match w6 with |.inl a7=>some (a7.2.2.2.1,0) |.inr (.normal,a8)=>some (a8.2.2.2.1,0) |.inr (.exit e9,a8)=>(cond (e9==0) (some (a8.2.2.2.1,0)) none) |.inr (.ret,a8)=>some (a8.2.1,a8.2.2.1)) none)
def a8R:FSem:=⟨[.v (.list false QL),.v (.list false Q8)],[.v (.list false QL),.v QI],a8Q⟩
def H73:Hints:=⟨[],[(6,[Qn [.sv 0 (.list false QL),.sv 1 (.list false Q8),.sv 18 .bool,.box 4 (.list false QL),.box 5 QI,Qp 4 4,Qp 5 5]])],[]⟩
def c5Z:Cx:=b2Q [(106,b3F),(107,b4B),(108,b2y),(109,b2V)] [(6,.list true (.list true QI))] 3 536870912
def R73:HintR:=⟨21,Q8,156,238,[4,5,6],[.sv 21 (.list false Q8),.box 1001004 (.list false QL),.box 1001005 QI,.box 1001006 (.list true (.list true QI)),.ptr 4 1001004 [],.ptr 5 1001005 [],.ptr 6 1001006 []]⟩
theorem c9h(x):z0h c5Z H73 R73 Tryz.f73 a8R.ps a8R.rs x=a8R.F x:=by kernel_rfl
def a3N(s:(Z94×(Int×(Int×((List LI)×c1u))))):Option ((Z94×(Int×(Int×((List LI)×c1u)))) ⊕ (((List LI)×c1u) ⊕ Z46)):=(fun(a:Int)(b:List LI)(c:Z12)(d:a3p)=>cond (decide (a<s.2.1)) ((m0k s.1 a).bind fun x3=>(a9j (x3,d.2.1)).bind fun y4=>cond (y4.2 != 0) (some (.inr (Sum.inr ((1,(0,([]:(List LI)),()),()))))) (cond (lim ((a02 b)+1)) (some (.inl (s.1,s.2.1,wrap .i64 (a+1),a03 b ([y4.1]:List LI),c,d,()))) none)) (some (.inr (Sum.inl (b,c,d,()))))) s.2.2.1 s.2.2.2.1 s.2.2.2.2.1 s.2.2.2.2.2.1
def a5T(x:a3p):Option (Z12×Int):=(show Option (Bool×c1u)from(a5S x).bind fun y1=>cond (!y1) (some (true,(0,([]:(List LI)),()),x,())) (some ((x.2.2.2.2.1.length:Int) != x.2.2.1.2.1,(0,([]:(List LI)),()),x,()))).bind fun z2=>cond z2.1 (some ((0,([]:(List LI)),()),1)) (cond ((decide (0≤(z2.2.2.1.2.2.2.2.1.length:Int)))&&(lim (a01 (z2.2.2.1.2.2.2.2.1.length:Int)))) ((y0s a3N (z2.2.2.1.2.2.2.2.1,(z2.2.2.1.2.2.2.2.1.length:Int),0,([]:(List LI)),z2.2.1,z2.2.2.1,())).bind fun w5=>match w5 with |.inl a6=>((a8Q (a6.1,a6.2.2.1.2.2.2.1)).bind fun y8=>cond (y8.2 != 0) (some ((0,([]:(List LI)),()),1)) ((a6f (a6.2.2.1.2.2.1.2.2.1,y8.1,())).bind fun y9=>cond (!y9) (some ((0,([]:(List LI)),()),1)) (some ((a6.2.2.1.2.2.1.2.2.1,y8.1,()),0)))) |.inr b7=>some (b7.2.1,b7.1)) none)
def b7r:FSem:=⟨[.v Q49],[.v Q10,.v QI],a5T⟩
def H22:Hints:=⟨[(122,[.sv 30 (.list false Q31),31,32,.own 4 4 QL,.box 2 Q10,.vp 1 Q49,Qp 2 2],[Qe 0 [.own 4 4 QL,.box 2 Q10,.vp 1 Q49,Qp 2 2],Qr [3,.box 2 Q10,Qp 2 2]])],[(6,[Qn [.sv 23 .bool,.box 2 Q10,.vp 1 Q49,Qp 2 2]])],[]⟩
def a3u(x:a3p):Option Bool:=(a5T x).bind fun y1=>some (y1.2==0)
def b9T:FSem:=⟨[.v Q49],[.v .bool],a3u⟩
def a2O(s:Z20):Option (Z20 ⊕ Z20):=cond ((a18 s.1.2.1 8) != 0) ((a1K (s.1,0)).bind fun y2=>some (.inl (y2,()))) (some (.inr (s.1,())))
def a3W(x:Z5):Option Z5:=(y0s a2O (x,())).bind fun w3=>some w3.1
def b2K:FSem:=⟨[.r false (.b Q5)],[],a3W⟩
def H46:Hints:=⟨[(2,[.box pinned Q5,Qp 0 pinned],[Qe 0 [.box pinned Q5]])],[],[]⟩
def a3X(x:Z5):Option (LI×Z5):=cond (lim (a02 x.1)) (some (x.1,x)) none
def b2L:FSem:=⟨[.r false (.b Q5)],[.o QV],a3X⟩
def a8S(x:Int):Option Int:=cond (decide (x≥0)) (some (wrap .u64 (2*(wrap .u64 x)))) (some (wrap .u64 ((wrap .u64 (2*(wrap .u64 (wrap .i64 (0-(wrap .i64 (x+1)))))))+1)))
def b9U:FSem:=⟨[.v QI],[.v QU],a8S⟩
def a6Z(s:Z53):Option (Z53 ⊕ Z53):=(fun(a b c:Int)(d:LI)=>cond (decide (a≥128)) (cond (lim ((a02 d)+1)) (some (.inl (wrap .u64 (a09 a 128),s.2.1,b,c,a03 d [wrap .u8 ((wrap .u8 (a18 a 128))+128)],()))) none) (some (.inr (a,s.2.1,b,c,d,())))) s.1 s.2.2.1 s.2.2.2.1 s.2.2.2.2.1
def a7a(s:Z37):Option (Z37 ⊕ (LI×Unit)):=cond (decide (s.2.2.1<s.2.1)) ((m0k s.1 s.2.2.1).bind fun x1=>(y0s a6Z (x1,s.1,s.2.1,s.2.2.1,s.2.2.2.1,())).bind fun w2=>cond (lim ((a02 w2.2.2.2.2.1)+1)) (some (.inl (w2.2.1,w2.2.2.1,wrap .i64 (w2.2.2.2.1+1),a03 w2.2.2.2.2.1 [wrap .u8 w2.1],()))) none) (some (.inr (s.2.2.2.1,())))
def a8T(x:LI):Option LI:=(y0s a7a (x,(x.length:Int),0,[],())).bind fun w3=>some w3.1
def b9V:FSem:=⟨[.v (.list false QU)],[.o QV],a8T⟩
def c9i:Hints:=⟨[(58,[.sv 6 (.list false QU),7,8,.own 3 3 QV],[Qe 0 [.own 3 3 QV]]),(14948,[.sv 5 QU,.sv 6 (.list false QU),7,8,.own 3 3 QV],[Qe 2 [.sv 5 QU,.sv 6 (.list false QU),7,8,.own 3 3 QV]])],[],[]⟩
def a8i(s:Z47):Option (Z47 ⊕ Z27):=(fun(a:Int)(b:LI)(c d e:Int)=>cond (decide (e<8)) (cond ((A0o .u8 a 7)==1) (some (.inl (bits .u8 .xor (A0n .u8 a 1) 7,b,c,d,wrap .i64 (e+1),()))) (some (.inl (A0n .u8 a 1,b,c,d,wrap .i64 (e+1),())))) (some (.inr (a,b,c,d,())))) s.1 s.2.1 s.2.2.1 s.2.2.2.1 s.2.2.2.2.1
def a6s(s:Z27):Option Z58:=(fun(a b:Int)=>cond (decide (b<a)) ((m0k s.2.1 b).bind fun x1=>(y0s a8i (bits .u8 .xor s.1 x1,s.2.1,a,b,0,())).bind fun w2=>some (.inl (w2.1,w2.2.1,w2.2.2.1,wrap .i64 (w2.2.2.2.1+1),()))) (some (.inr (s.1,())))) s.2.2.1 s.2.2.2.1
def a6z(x:LI):Option Int:=(y0s a6s (0,x,(x.length:Int),0,())).bind fun w3=>some w3.1
def b8p:FSem:=⟨[.v QB],[.v QV],a6z⟩
def c9j:Hints:=⟨[(58,[.sv 3 QV,.sv 7 QB,8,9],[Qe 0 [.sv 3 QV]]),(29902,[.sv 3 QV,.sv 7 QB,8,9,16],[Qe 2 [.sv 3 QV,.sv 7 QB,8,9]])],[],[]⟩
def a4u(s:(Int×Z17×Z15)):Option ((Int×Z17×Z15) ⊕ Z4):=(fun(a b:Int)(c:LI)=>cond (decide (b<a)) ((m0k s.2.1 b).bind fun x1=>(a8S x1.2.2.1).bind fun y2=>cond (lim ((a02 c)+3)) (some (.inl (s.1,s.2.1,a,wrap .i64 (b+1),a03 c [wrap .u64 x1.1,wrap .u64 x1.2.1,y2],()))) none) (some (.inr (s.1,c,())))) s.2.2.1 s.2.2.2.1 s.2.2.2.2.1
def a6t(x:(a3p×Int)):Option LI:=(y0s a4u (x.2,x.1.2.2.2.1,(x.1.2.2.2.1.length:Int),0,([wrap .u64 x.1.1,wrap .u64 x.1.2.1,wrap .u64 x.1.2.2.1.1,wrap .u64 x.1.2.2.1.2.1,wrap .u64 x.1.2.2.1.2.2.1,wrap .u64 (x.1.2.2.2.1.length:Int)]:List Int),())).bind fun w3=>cond (lim ((a02 w3.2.1)+1)) ((a8T (a03 w3.2.1 [wrap .u64 w3.1])).bind fun y4=>cond (lim (2+(a02 y4))) ((a6z (a03 [245,75] y4)).bind fun y5=>cond (lim ((a02 (a03 [245,75] y4))+1)) (some (a03 (a03 [245,75] y4) [y5])) none) none) none
def b4C:FSem:=⟨[.v Q49,.v QI],[.o QV],a6t⟩
def H48:Hints:=⟨[(58,[1,.sv 33 (.list false Q8),34,35,.own 5 5 QU],[Qe 0 [1,.own 5 5 QU]])],[],[(5,[.q,.q,.q,.v,.q,.q,.v,.q,.q,.v,.q,.x,.x])]⟩
def a9u(x:Int):Option Int:=some (v0s (v0r x 0) 8)
def b7s:FSem:=⟨[.v QI],[.v QI],a9u⟩
def a3O(s:Z28):Option (Z28 ⊕ (LI×Unit)):=cond (decide (s.2.2.1<s.2.1)) (cond (lim ((a02 s.2.2.2.1)+1)) (some (.inl (wrap .u64 (a09 s.1 256),s.2.1,wrap .i64 (s.2.2.1+1),a03 s.2.2.2.1 [wrap .u8 (a18 s.1 256)],()))) none) (some (.inr (s.2.2.2.1,())))
def a7B(x:(Int×Int)):Option LI:=(a9u x.2).bind fun y1=>(y0s a3O (x.1,y1,0,[],())).bind fun w2=>some w2.1
def b7t:FSem:=⟨[.v QU,.v QI],[.o QV],a7B⟩
def H91:Hints:=⟨[(58,[.sv 0 QU,7,8,.own 5 5 QV],[Qe 0 [.own 5 5 QV]])],[],[]⟩
def a2v(x:LI):Option LI:=cond (decide (a02 x<2147483648)) (some (List.reverse x)) none
def a8s:FSem:=⟨[.r false (.o QV)],[],a2v⟩
def a8U(x:(Int×Int)):Option LI:=(a7B (x.1,x.2)).bind fun y1=>(a2v y1).bind fun y2=>some y2
def b9W:FSem:=⟨[.v QU,.v QI],[.o QV],a8U⟩
def a7l(s:Z47):Option (Z47 ⊕ Z27):=(fun(a:Int)(b:LI)(c d e:Int)=>cond (decide (e<8)) (cond ((A0o .u16 a 15)==1) (some (.inl (bits .u16 .xor (A0n .u16 a 1) 32773,b,c,d,wrap .i64 (e+1),()))) (some (.inl (A0n .u16 a 1,b,c,d,wrap .i64 (e+1),())))) (some (.inr (a,b,c,d,())))) s.1 s.2.1 s.2.2.1 s.2.2.2.1 s.2.2.2.2.1
def a4O(s:Z27):Option Z58:=(fun(a b:Int)=>cond (decide (b<a)) ((m0k s.2.1 b).bind fun x1=>(y0s a7l (bits .u16 .xor s.1 (A0n .u16 (wrap .u16 x1) 8),s.2.1,a,b,0,())).bind fun w2=>some (.inl (w2.1,w2.2.1,w2.2.2.1,wrap .i64 (w2.2.2.2.1+1),()))) (some (.inr (s.1,())))) s.2.2.1 s.2.2.2.1
def a5c(x:LI):Option Int:=(y0s a4O (0,x,(x.length:Int),0,())).bind fun w3=>some w3.1
def b5U:FSem:=⟨[.v QB],[.v (.int .u16)],a5c⟩
def H50:Hints:=⟨[(58,[.sv 3 (.int .u16),.sv 7 QB,8,9],[Qe 0 [.sv 3 (.int .u16)]]),(29902,[.sv 3 (.int .u16),.sv 7 QB,8,9,18],[Qe 2 [.sv 3 (.int .u16),.sv 7 QB,8,9]])],[],[]⟩
def a7b(s:(Z94×Int×Int×Z5×b2P)):Option ((Z94×Int×Int×Z5×b2P) ⊕ ((Z5×b2P) ⊕ Z4)):=(fun(a:Int)(b:Z5)(c:a3p)=>cond (decide (a<s.2.1)) ((m0k s.1 a).bind fun x2=>(a7S (b,x2,c.2.1)).bind fun y3=>cond (y3.1 != 0) (some (.inr (Sum.inr ((y3.1,[],()))))) (some (.inl (s.1,s.2.1,wrap .i64 (a+1),y3.2,c,())))) (some (.inr (Sum.inl (b,c,()))))) s.2.2.1 s.2.2.2.1 s.2.2.2.2.1
def a2P(x:a3p):Option (LI×Int):=(a3u x).bind fun y1=>cond (!y1) (some ([],1)) ((y0s a7b (x.2.2.2.2.1,(x.2.2.2.2.1.length:Int),0,([],0,()),x,())).bind fun w4=>match w4 with |.inl a5=>((a3W a5.1).bind fun y7=>(a3X y7).bind fun y8=>(a6t (a5.2.1,(y8.1.length:Int))).bind fun y9=>cond (lim ((a02 y9)+(a02 y8.1))) ((a5c (a03 y9 y8.1)).bind fun y10=>(a8U (wrap .u64 y10,2)).bind fun y11=>cond (lim ((a02 (a03 y9 y8.1))+(a02 y11))) (some (a03 (a03 y9 y8.1) y11,0)) none) none) |.inr b6=>some (b6.2.1,b6.1))
def b9X:FSem:=⟨[.v Q49],[.o QV,.v QI],a2P⟩
def H13:Hints:=⟨[(122,[.sv 14 (.list false Q31),15,16,.box 4 Q5,.vp 1 Q49,Qp 4 4],[Qe 0 [.box 4 Q5,.vp 1 Q49,Qp 4 4],Qr [3,.own 2 2 QV]])],[],[]⟩
def a8V(x:LI):Option Z14:=cond (lim (a02 x)) (some (x,0,0,())) none
def b9Y:FSem:=⟨[.v QB],[.b Q11],a8V⟩
def a4P(s:Z27):Option (Z27 ⊕ (Unit ⊕ Z8)):=(fun(a:Int)(b:LI)(c d:Int)=>cond (decide (d<c)) ((m0k b d).bind fun x1=>(show Option (Int×Int×Int×Z32)from cond (d==9) (cond (decide (x1 > 1)) (some (a,d,x1,b,c,d,true,())) (cond (decide (d > 0)) (some (a,d,x1,b,c,d,x1==0,())) (some (a,d,x1,b,c,d,false,())))) (cond (decide (d > 0)) (some (a,d,x1,b,c,d,x1==0,())) (some (a,d,x1,b,c,d,false,())))).bind fun z2=>cond z2.2.2.2.2.2.2.1 (some (.inr (Sum.inr ((0,0,2,()))))) (cond (decide ((wrap .i64 (7*z2.2.1))<0)) none (cond (decide (z2.2.2.1<128)) (some (.inr (Sum.inr ((bits .u64 .or z2.1 (A0n .u64 (wrap .u64 (a18 z2.2.2.1 128)) (wrap .i64 (7*z2.2.1))),wrap .i64 (z2.2.1+1),0,()))))) (some (.inl (bits .u64 .or z2.1 (A0n .u64 (wrap .u64 (a18 z2.2.2.1 128)) (wrap .i64 (7*z2.2.1))),z2.2.2.2.1,z2.2.2.2.2.1,wrap .i64 (z2.2.2.2.2.2.1+1),())))))) (some (.inr (Sum.inl ())))) s.1 s.2.1 s.2.2.1 s.2.2.2.1
def a7c(x:LI):Option (Int×Int×Int):=(y0s a4P (0,x,(x.length:Int),0,())).bind fun w3=>match w3 with |.inl a4=>some (0,0,3) |.inr b5=>some (b5.1,b5.2.1,b5.2.2.1)
def b5V:FSem:=⟨[.v QB],[.v QU,.v QI,.v QI],a7c⟩
def c9k:Hints:=⟨[(58,[.sv 5 QU,.sv 8 QB,9,10],[Qe 0 [],Qr [.sv 2 QU,3,4]])],[(7474,[Qn [.sv 5 QU,6,.sv 7 QV,.sv 8 QB,9,10,.sv 28 .bool]])],[]⟩
def a0V(x:Z31):Option Z27:=cond (x.1.2.2.1 != 0) (some (0,x.1)) (cond ((decide (0≤x.1.2.1))&&(decide (x.1.2.1≤(x.1.1.length:Int)))) ((a7c (a23 (a01 x.1.2.1) (a06 (a02 x.1.1) x.1.1))).bind fun y1=>(show Option Z73 from cond (y1.2.2==0) (cond (decide (y1.1 > x.2)) (some (y1.1,y1.2.1,4,x.1,())) (some (y1.1,y1.2.1,y1.2.2,x.1,()))) (some (y1.1,y1.2.1,y1.2.2,x.1,()))).bind fun z2=>cond (z2.2.2.1 != 0) (some (0,z2.2.2.2.1.1,z2.2.2.2.1.2.1,z2.2.2.1,z2.2.2.2.1.2.2.2)) (some (z2.1,z2.2.2.2.1.1,wrap .i64 (z2.2.2.2.1.2.1+z2.2.1),z2.2.2.2.1.2.2))) none)
def b2W:FSem:=⟨[.r false (.b Q11),.v QU],[.v QU],a0V⟩
def c9l:Hints:=⟨[],[(15,[Qn [.sv 5 QU,6,7,.box pinned Q11,Qp 0 pinned]])],[(3,[.p,.p,.q,.q,.p,.p,.q,.q,.x,.x,.x,.v,.v,.v,.v,.v,.x])]⟩
def a8W(x:Int):Option Int:=cond ((a18 x 2)==0) (some (wrap .i64 (wrap .u64 (a09 x 2)))) (some (wrap .i64 ((wrap .i64 (0-(wrap .i64 (wrap .u64 (a09 x 2)))))-1)))
def b9Z:FSem:=⟨[.v QU],[.v QI],a8W⟩
def a6A(x:Z14):Option Z27:=some (x.2.2.1,x)
def b2X:FSem:=⟨[.r false (.b Q11)],[.v QI],a6A⟩
def a6l(x:Z14):Option Z27:=some (wrap .i64 ((x.1.length:Int)-x.2.1),x)
def b2M:FSem:=⟨[.r false (.b Q11)],[.v QI],a6l⟩
def c9m:Hints:=⟨[],[],[(1,[.p,.p,.q,.q,.v,.p,.p,.q,.q,.x,.x])]⟩
def a7m(x:Z14):Option Z27:=some (x.2.1,x)
def b3x:FSem:=⟨[.r false (.b Q11)],[.v QI],a7m⟩
def a4v(s:(LI×(Int×Int×b5G))):Option ((LI×(Int×Int×b5G)) ⊕ (LI×b5G)):=(fun(a:Int)(b:a3p)(c:Z14)=>cond (decide (a<s.2.1)) ((a0V (c,7)).bind fun y11=>(a0V (y11.2,7)).bind fun y12=>(a0V (y12.2,2048)).bind fun y13=>(a8W y13.1).bind fun y14=>cond (lim ((a02 b.2.2.2.1)+1)) (some (.inl (s.1,s.2.1,wrap .u64 (a+1),(b.1,b.2.1,b.2.2.1,a03 b.2.2.2.1 ([(wrap .i64 y11.1,wrap .i64 y12.1,y14,())]:List Z8),b.2.2.2.2),y13.2,()))) none) (some (.inr (s.1,b,c,())))) s.2.2.1 s.2.2.2.1 s.2.2.2.2.1
def a4w(x:LI):Option (a3p×Int×Int×Int):=cond (decide ((x.length:Int)<2)) (some ((0,0,(0,0,0,()),[],[],()),0,0,3)) ((show Option (LI×(Bool×b2P))from(m0k x 0).bind fun x1=>cond (x1 != 245) (some (x,true,(0,0,(0,0,0,()),[],[],()),())) ((m0k x 1).bind fun x2=>some (x,x2 != 75,(0,0,(0,0,0,()),[],[],()),()))).bind fun z3=>cond z3.2.1 (some ((0,0,(0,0,0,()),[],[],()),0,0,2)) (cond (decide (2≤(z3.1.length:Int))) ((a8V (a23 2 (a06 (a02 z3.1) z3.1))).bind fun y4=>(a0V (y4,4194304)).bind fun y5=>(a0V (y5.2,4096)).bind fun y6=>(a0V (y6.2,1048576)).bind fun y7=>(a0V (y7.2,8)).bind fun y8=>(a0V (y8.2,24)).bind fun y9=>(a0V (y9.2,16)).bind fun y10=>(y0s a4v (z3.1,y10.1,0,(wrap .i64 y5.1,wrap .i64 y6.1,(wrap .i64 y7.1,wrap .i64 y8.1,wrap .i64 y9.1,z3.2.2.1.2.2.1.2.2.2),z3.2.2.1.2.2.2),y10.2,())).bind fun w15=>(a0V (w15.2.2.1,1048576)).bind fun y16=>(a6A y16.2).bind fun y17=>cond (y17.1 != 0) (some ((0,0,(0,0,0,()),[],[],()),0,0,y17.1)) ((a6l y17.2).bind fun y18=>cond (decide (y18.1<1)) (some ((0,0,(0,0,0,()),[],[],()),0,0,3)) ((a7m y18.2).bind fun y19=>cond ((decide (0≤(wrap .i64 (2+y19.1))))&&(decide ((wrap .i64 (2+y19.1))≤(w15.1.length:Int)))) ((a6z (a06 (a01 (wrap .i64 (2+y19.1))) w15.1)).bind fun y20=>(m0k w15.1 (wrap .i64 (2+y19.1))).bind fun x21=>cond (y20 != x21) (some ((0,0,(0,0,0,()),[],[],()),0,0,5)) ((a5S w15.2.1).bind fun y22=>cond (!y22) (some ((0,0,(0,0,0,()),[],[],()),0,0,2)) (some (w15.2.1,wrap .i64 ((wrap .i64 (2+y19.1))+1),wrap .i64 y16.1,0)))) none))) none))
def b4D:FSem:=⟨[.v QB],[.v (.pair QI (.pair QI (.pair Q8 (.pair (.list false Q8) Q32)))),.v QI,.v QI,.v QI],a4w⟩
def H51:Hints:=⟨[(8186,[.sv 0 QB,.sv 54 QU,.sv 55 QU,.box 2 Q47,.box 1029 Q11,Qp 2 2,Qp 6 1029],[Qe 0 [.sv 0 QB,.box 2 Q47,.box 1029 Q11,Qp 2 2,Qp 6 1029]])],[(14,[Qn [.sv 0 QB,.sv 25 .bool,.box 2 Q47,Qp 2 2]])],[(25,[.v,.v,.v,.v,.v,.v,.v,.v,.x])]⟩
def a9z(x:LI):Option Z14:=cond (lim (a02 x)) (some (x,0,0,())) none
def c1G:FSem:=⟨[.v QB],[.b Q11],a9z⟩
def a0K(x:Z14):Option Z27:=some (x.2.2.1,x)
def b3y:FSem:=⟨[.r false (.b Q11)],[.v QI],a0K⟩
def a2g(x:Z14):Option Z27:=some (wrap .i64 ((wrap .i64 (8*(x.1.length:Int)))-x.2.1),x)
def b2Y:FSem:=⟨[.r false (.b Q11)],[.v QI],a2g⟩
def H54:Hints:=⟨[],[],[(1,[.p,.p,.q,.q,.v,.v,.p,.p,.q,.q,.x,.x])]⟩
def a1s(x:Z31):Option Z27:=(m0k x.1.1 (wrap .i64 (a09 x.2 8))).bind fun x1=>cond (decide ((wrap .i64 (7-(a18 x.2 8)))<0)) none (some (bits .u8 .and (A0o .u8 x1 (wrap .i64 (7-(a18 x.2 8)))) 1,x.1))
def b2Z:FSem:=⟨[.r false (.b Q11),.v QI],[.v QV],a1s⟩
def a3r(s:Z73):Option (Z73 ⊕ Z50):=cond (decide (s.2.2.1<s.2.1)) ((a1s (s.2.2.2.1,s.2.2.2.1.2.1)).bind fun y3=>some (.inl (bits .u64 .or (A0n .u64 s.1 1) (wrap .u64 y3.1),s.2.1,wrap .i64 (s.2.2.1+1),(y3.2.1,wrap .i64 (y3.2.2.1+1),y3.2.2.2),()))) (some (.inr (s.1,s.2.2.2.1,())))
def a0F(x:Z31):Option Z27:=cond (x.1.2.2.1 != 0) (some (0,x.1)) ((show Option Z60 from cond (decide (x.2<0)) (some (x.2,true,x.1,())) (some (x.2,decide (x.2 > 64),x.1,()))).bind fun z1=>cond z1.2.1 (some (0,z1.2.2.1.1,z1.2.2.1.2.1,1,z1.2.2.1.2.2.2)) ((a2g z1.2.2.1).bind fun y2=>cond (decide (z1.1 > y2.1)) (some (0,y2.2.1,y2.2.2.1,3,y2.2.2.2.2)) ((y0s a3r (0,z1.1,0,y2.2,())).bind fun w4=>some (w4.1,w4.2.1))))
def b3z:FSem:=⟨[.r false (.b Q11),.v QI],[.v QU],a0F⟩
def c9n:Hints:=⟨[(506,[.sv 5 QU,27,28,.box pinned Q11,Qp 0 pinned],[Qe 0 [.sv 5 QU,.box pinned Q11]])],[(14,[Qn [1,.sv 16 .bool,.box pinned Q11,Qp 0 pinned]])],[]⟩
def a0W(x:Z31):Option Z27:=(a0F (x.1,x.2)).bind fun y1=>(show Option (Int×Z60)from cond (y1.2.2.2.1 != 0) (some (x.2,y1.1,true,y1.2,())) (some (x.2,y1.1,x.2==0,y1.2,()))).bind fun z2=>cond z2.2.2.1 (some (0,z2.2.2.2.1)) (cond (decide ((wrap .i64 (64-z2.1))<0)) none (cond (decide ((wrap .i64 (64-z2.1))<0)) none (some (A0o .i64 (wrap .i64 (A0n .u64 z2.2.1 (wrap .i64 (64-z2.1)))) (wrap .i64 (64-z2.1)),z2.2.2.2.1))))
def b1Q:FSem:=⟨[.r false (.b Q11),.v QI],[.v QI],a0W⟩
def c9o:Hints:=⟨[],[(14,[Qn [1,.sv 5 QU,.sv 17 .bool,.box pinned Q11]])],[]⟩
def a4Q(s:(Int×b5F)):Option ((Int×b5F) ⊕ (Int×c1t)):=(fun(a:Int)(b:Z14)(c:Z93)=>cond (decide (a<s.2.1)) ((a0W (b,s.1)).bind fun y4=>cond (lim ((a02 c.2.2.2.2.2.1)+1)) (some (.inl (s.1,s.2.1,wrap .i64 (a+1),y4.2,(c.1,c.2.1,c.2.2.1,c.2.2.2.1,c.2.2.2.2.1,a03 c.2.2.2.2.2.1 [y4.1],c.2.2.2.2.2.2),()))) none) (some (.inr (s.1,c,b,())))) s.2.2.1 s.2.2.2.1 s.2.2.2.2.1
def a7d(x:(Z14×Z93)):Option (Bool×Z14×Z93):=(a0F (x.1,5)).bind fun y1=>(a0F (y1.2,4)).bind fun y2=>(a0F (y2.2,5)).bind fun y3=>(y0s a4Q (wrap .i64 y3.1,wrap .i64 ((wrap .i64 y1.1)+1),0,y3.2,(x.2.1,x.2.2.1,x.2.2.2.1,wrap .i64 y2.1,x.2.2.2.2.2),())).bind fun w5=>(a1k w5.2.1.2.2.2.2.2.1).bind fun y6=>some (y6==w5.1,w5.2.2.1,w5.2.1)
def b5W:FSem:=⟨[.r false (.b Q11),.r false (.b Q30)],[.v .bool],a7d⟩
def c9p:Hints:=⟨[(250,[6,20,21,.box pinned Q11,.box 1000001 Q30,Qp 0 pinned,Qp 1 1000001],[Qe 0 [6,.box 1000001 Q30,.box pinned Q11,Qp 1 1000001]])],[],[(6,[.p,.p,.p,.r [26,1000001],.r [27,1000001],.p,.v,.w [30,1030,pinned],.q,.a [31,32,1000001],.x,.x,.x])]⟩
def a2H(s:b5F):Option (b5F ⊕ c3V):=(fun(a:Int)(b:Z14)(c:Z93)=>cond (decide (a<3)) ((a0W (b,8)).bind fun y6=>cond ((decide (0≤a))&&(decide (a<3))) (some (.inl (s.1,wrap .i64 (a+1),y6.2,(c.1,c.2.1,c.2.2.1,c.2.2.2.1,c.2.2.2.2.1,c.2.2.2.2.2.1,a05 c.2.2.2.2.2.2.1 (a01 a) y6.1,c.2.2.2.2.2.2.2),()))) none) (some (.inr (s.1,b,c,())))) s.2.1 s.2.2.1 s.2.2.2.1
def a5z(s:(Int×Bool×b5F)):Option ((Int×Bool×b5F) ⊕ (Int×Bool×c1t)):=(fun(a b:Int)(c:Z14)(d:Z93)=>cond (decide (b<a)) ((a0F (c,5)).bind fun y15=>(a0F (y15.2,4)).bind fun y16=>cond (lim ((a02 d.2.2.2.2.2.2.2.1)+1)) (some (.inl (s.1,s.2.1,a,wrap .u64 (b+1),y16.2,(d.1,d.2.1,d.2.2.1,d.2.2.2.1,d.2.2.2.2.1,d.2.2.2.2.2.1,d.2.2.2.2.2.2.1,a03 d.2.2.2.2.2.2.2.1 ([(wrap .i64 ((wrap .i64 y15.1)+1),wrap .i64 y16.1,())]:List (Int×Int×Unit)),d.2.2.2.2.2.2.2.2),()))) none) (some (.inr (s.1,s.2.1,d,c,())))) s.2.2.1 s.2.2.2.1 s.2.2.2.2.1 s.2.2.2.2.2.1
def a7C(x:Z14):Option (Z93×Int×Bool×Z14):=(a0F (x,3)).bind fun y1=>(a0F (y1.2,5)).bind fun y2=>(a0F (y2.2,5)).bind fun y3=>(show Option (Int×Bool×c1t)from(show Option (c3V ⊕ ((Int×Bool×c1t) ⊕ (Int×Bool×c5U)))from cond ((wrap .i64 y1.1)==2) ((a0F (y3.2,3)).bind fun y4=>some (Sum.inr (Sum.inl (wrap .i64 y3.1,true,(wrap .i64 y1.1,wrap .i64 y2.1,wrap .i64 y4.1,0,0,[],a00 3 0,[],[],(0,[],()),[],()),y4.2,())))) (cond ((wrap .i64 y1.1)==4) ((a0F (y3.2,10)).bind fun y5=>(y0s a2H (wrap .i64 y3.1,0,y5.2,(wrap .i64 y1.1,wrap .i64 y2.1,0,0,wrap .i64 ((wrap .i64 y5.1)+1),[],a00 3 0,[],[],(0,[],()),[],()),())).bind fun w7=>some (Sum.inl (w7.1,w7.2.1,w7.2.2.1,()))) (cond ((wrap .i64 y1.1)==3) (some (Sum.inl (wrap .i64 y3.1,y3.2,(wrap .i64 y1.1,wrap .i64 y2.1,0,0,0,[],a00 3 0,[],[],(0,[],()),[],()),()))) (cond ((wrap .i64 y1.1)==5) (some (Sum.inr (Sum.inr ((wrap .i64 y3.1,true,y3.2,(wrap .i64 y1.1,wrap .i64 y2.1,0,0,0,[],a00 3 0,[],[],(0,[],()),[],()),()))))) (some (Sum.inr (Sum.inl (wrap .i64 y3.1,true,(wrap .i64 y1.1,wrap .i64 y2.1,0,0,0,[],a00 3 0,[],[],(0,[],()),[],()),y3.2,())))))))).bind fun z8=>match z8 with |.inl a9=>((a7d (a9.2.1,a9.2.2.1)).bind fun y11=>some (a9.1,y11.1,y11.2.2,y11.2.1,())) |.inr b10=>(match b10 with |.inl a12=>some (a12.1,a12.2.1,a12.2.2.1,a12.2.2.2.1,()) |.inr b13=>((a0F (b13.2.2.1,2)).bind fun y14=>(y0s a5z (b13.1,b13.2.1,y14.1,0,y14.2,b13.2.2.2.1,())).bind fun w17=>some (w17.1,w17.2.1,w17.2.2.1,w17.2.2.2.1,())))).bind fun z18=>some (z18.2.2.1,z18.1,z18.2.1,z18.2.2.2.1)
def b7u:FSem:=⟨[.r false (.b Q11)],[.v (.pair QI (.pair QI (.pair QI (.pair QI (.pair QI (.pair QL (.pair (.arr 3 QI) (.pair (.list false Q3) Q14)))))))),.v QI,.v .bool],a7C⟩
def c9q:Hints:=⟨[(8106,[3,.sv 4 .bool,.sv 50 QU,.sv 51 QU,.box pinned Q11,.box 2 Q30,Qp 0 pinned,Qp 2 2],[Qe 7 [3,.sv 4 .bool,.box 2 Q30,.box pinned Q11,Qp 2 2]]),(129550,[3,38,.box pinned Q11,.box 2 Q30,Qp 0 pinned,Qp 2 2],[Qe 5 [3,.box pinned Q11,.box 2 Q30,Qp 0 pinned,Qp 2 2]])],[(63,[Qn [3,.sv 4 .bool,.box 2 Q30,.box pinned Q11,Qp 2 2]]),(2024,[Qn [3,.box pinned Q11,.box 2 Q30,Qp 0 pinned,Qp 2 2],Qe 0 [3,.sv 4 .bool,.box 2 Q30,.box pinned Q11,Qp 2 2],Qe 4 [3,.sv 4 .bool,.box pinned Q11,.box 2 Q30,Qp 0 pinned,Qp 2 2]])],[]⟩
def a2Q(s:Z73):Option (Z73 ⊕ Z50):=(fun(a b:Int)(c:Z14)=>cond (b==(wrap .i64 (8*(c.1.length:Int)))) (some (.inr (0,(c.1,c.2.1,3,c.2.2.2),()))) ((a1s (c,b)).bind fun y2=>cond (y2.1==1) (some (.inr (a,(y2.2.1,wrap .i64 (b+1),y2.2.2.2),()))) (cond (a==s.1) (some (.inr (0,(y2.2.1,y2.2.2.1,2,y2.2.2.2.2),()))) (some (.inl (s.1,wrap .i64 (a+1),wrap .i64 (b+1),y2.2,())))))) s.2.1 s.2.2.1 s.2.2.2.1
def a2E(x:Z31):Option Z27:=cond (x.1.2.2.1 != 0) (some (0,x.1)) ((y0s a2Q (v0r x.2 0,0,x.1.2.1,x.1,())).bind fun w3=>some (w3.1,w3.2.1))
def b2N:FSem:=⟨[.r false (.b Q11),.v QI],[.v QI],a2E⟩
def c9r:Hints:=⟨[(62,[1,5,6,.box pinned Q11,Qp 0 pinned],[Qr [4,.box pinned Q11]])],[],[(4,[.p,.p,.q,.q,.v,.x])]⟩
def a5U(x:Int):Option Int:=cond (decide (x≥2147483648)) (some 0) (cond ((a18 x 2)==0) (some (wrap .i64 (wrap .u64 (a09 x 2)))) (some (wrap .i64 ((wrap .i64 (0-(wrap .i64 (wrap .u64 (a09 x 2)))))-1))))
def b7v:FSem:=⟨[.v QU],[.v QI],a5U⟩
def a9A(x:Z31):Option Z43:=(a2E (x.1,32)).bind fun y1=>(a0K y1.2).bind fun y2=>cond (y2.1 != 0) ((a0K y2.2).bind fun y3=>some (0,y3.1,y3.2)) (cond (decide ((wrap .u64 y1.1)<32)) ((a0F (y2.2,x.2)).bind fun y4=>cond (decide (x.2<0)) none ((a5U (wrap .u64 ((A0n .u64 (wrap .u64 y1.1) x.2)+y4.1))).bind fun y5=>(a0K y4.2).bind fun y6=>some (y5,y6.1,y6.2))) ((a0F (y2.2,32)).bind fun y7=>(a0K y7.2).bind fun y8=>cond (y8.1 != 0) ((a0K y8.2).bind fun y9=>some (0,y9.1,y9.2)) ((show Option Z60 from cond (decide (y7.1≥2147483648)) (some (y7.1,true,y8.2,())) (cond (decide (x.2<0)) none (some (y7.1,decide ((A0o .u64 y7.1 x.2)<32),y8.2,())))).bind fun z10=>cond z10.2.1 (some (0,2,z10.2.2.1)) ((a5U z10.1).bind fun y11=>some (y11,0,z10.2.2.1)))))
def c1H:FSem:=⟨[.r false (.b Q11),.v QI],[.v QI,.v QI],a9A⟩
def c9s:Hints:=⟨[],[(254,[Qn [.sv 8 QU,.sv 44 .bool,.box pinned Q11]])],[]⟩
def a7D(s:Z81):Option (Z81 ⊕ (Z57 ⊕ Z70)):=cond (decide (s.2.2.1<s.2.1)) ((a9A (s.2.2.2.2.1,s.1)).bind fun y5=>cond (y5.2.1 != 0) (some (.inr (Sum.inr ((y5.2.1,[],y5.2.2,()))))) (cond (lim ((a02 s.2.2.2.1)+1)) (some (.inl (s.1,s.2.1,wrap .i64 (s.2.2.1+1),a03 s.2.2.2.1 [y5.1],y5.2.2,()))) none)) (some (.inr (Sum.inl (s.2.2.2.1,s.2.2.2.2.1,()))))
def a9B(x:(Z14×Int×Int)):Option Z54:=(show Option (Int×Z60)from(a1D x.2.1).bind fun y1=>cond (!y1) (some (x.2.1,x.2.2,true,x.1,())) (cond (decide (x.2.2<0)) (some (x.2.1,x.2.2,true,x.1,())) (some (x.2.1,x.2.2,decide (x.2.2 > 4194304),x.1,())))).bind fun z2=>cond z2.2.2.1 (some ([],1,z2.2.2.2.1)) ((a0K z2.2.2.2.1).bind fun y3=>cond (y3.1 != 0) ((a0K y3.2).bind fun y4=>some ([],y4.1,y4.2)) ((y0s a7D (z2.1,z2.2.1,0,[],y3.2,())).bind fun w6=>match w6 with |.inl a7=>some (a7.1,0,a7.2.1) |.inr b8=>some (b8.2.1,b8.1,b8.2.2.1)))
def c1I:FSem:=⟨[.r false (.b Q11),.v QI,.v QI],[.o QI,.v QI],a9B⟩
def c9t:Hints:=⟨[(250,[1,27,28,.own 8 8 QI,.box pinned Q11,Qp 0 pinned],[Qe 0 [.own 8 8 QI,.box pinned Q11],Qr [7,.own 6 6 QI,.box pinned Q11]])],[(6,[Qn [1,2,.sv 21 .bool,.box pinned Q11,Qp 0 pinned]])],[]⟩
def a7e(s:(Int×Z81)):Option ((Int×Z81) ⊕ Z78):=(fun(a b c:Int)(d:LI)(e:Z14)=>cond (decide (c<b)) ((a0W (e,a)).bind fun y6=>cond (lim ((a02 d)+1)) (some (.inl (s.1,a,b,wrap .i64 (c+1),a03 d [y6.1],y6.2,()))) none) (some (.inr (s.1,a,d,e,())))) s.2.1 s.2.2.1 s.2.2.2.1 s.2.2.2.2.1 s.2.2.2.2.2.1
def a8X(x:Z31):Option (Int×Z54):=(a0F (x.1,5)).bind fun y1=>(a0K y1.2).bind fun y2=>cond (y2.1 != 0) ((a0K y2.2).bind fun y3=>some (0,[],y3.1,y3.2)) (cond (decide ((wrap .i64 y1.1)≤25)) ((a9B (y2.2,wrap .i64 y1.1,x.2)).bind fun y4=>some (wrap .i64 y1.1,y4.1,y4.2.1,y4.2.2)) (cond ((wrap .i64 y1.1) != 31) (some (0,[],2,y2.2)) ((a0F (y2.2,5)).bind fun y5=>(y0s a7e (wrap .i64 y1.1,wrap .i64 y5.1,x.2,0,[],y5.2,())).bind fun w7=>(a0K w7.2.2.2.1).bind fun y8=>cond (y8.1 != 0) ((a0K y8.2).bind fun y9=>some (0,[],y9.1,y9.2)) ((a1k w7.2.2.1).bind fun y10=>cond (y10 != w7.2.1) (some (0,[],2,y8.2)) (some (w7.1,w7.2.2.1,0,y8.2))))))
def c0A:FSem:=⟨[.r false (.b Q11),.v QI],[.v QI,.o QI,.v QI],a8X⟩
def c9u:Hints:=⟨[(2042,[7,10,37,38,.own 11 11 QI,.box pinned Q11,Qp 0 pinned],[Qe 0 [7,10,.own 11 11 QI,.box pinned Q11,Qp 0 pinned]])],[],[]⟩
def a7f(s:(Int×(Int×(LI×(LI×(Z14×Z71)))))):Option ((Int×(Int×(LI×(LI×(Z14×Z71))))) ⊕ ((LI×(Z4×Z4×Z35)) ⊕ (Int×(LI×(Z4×Z35))))):=(fun(a:Int)(b c:LI)(d:Z14)(e f:Z4)=>cond (decide (a<s.1)) (cond ((decide (0≤a))&&(decide (a<(c.length:Int)))) ((a8X (d,a04 c (a01 a) 0)).bind fun y6=>cond (y6.2.2.1 != 0) (some (.inr (Sum.inr ((y6.2.2.1,[],(0,[],()),y6.2.2.2,()))))) (cond (lim ((a02 f.2.1)+1)) (cond (lim ((a02 b)+(a02 y6.2.1))) (some (.inl (s.1,wrap .i64 (a+1),a03 b y6.2.1,c,y6.2.2.2,e,(f.1,a03 f.2.1 [y6.1],f.2.2),()))) none) none)) none) (some (.inr (Sum.inl (b,e,f,d,()))))) s.2.1 s.2.2.1 s.2.2.2.1 s.2.2.2.2.1 s.2.2.2.2.2.1 s.2.2.2.2.2.2.1
def a8Y(x:(Z14×Int×Int)):Option (Z4×Z54):=(a6c (x.2.1,x.2.2)).bind fun y1=>cond (!y1) (some ((0,[],()),[],1,x.1)) ((a0F (x.1,4)).bind fun y2=>(a0K y2.2).bind fun y3=>cond (y3.1 != 0) ((a0K y3.2).bind fun y4=>some ((0,[],()),[],y4.1,y4.2)) ((a2s (wrap .i64 y2.1,x.2.1,x.2.2)).bind fun y5=>cond ((y5.length:Int)==0) (some ((0,[],()),[],2,y3.2)) ((y0s a7f ((y5.length:Int),0,[],y5,y3.2,(0,[],()),(wrap .i64 y2.1,[],()),())).bind fun w7=>match w7 with |.inl a8=>some (a8.2.2.1,a8.1,0,a8.2.2.2.1) |.inr b9=>some (b9.2.2.1,b9.2.1,b9.1,b9.2.2.2.1))))
def c0B:FSem:=⟨[.r false (.b Q11),.v QI,.v QI],[.v Q7,.o QI,.v QI],a8Y⟩
def c9v:Hints:=⟨[(4090,[43,44,.own 12 12 QI,.own 42 10 QI,.box pinned Q11,.box 6 Q7,.box 11 Q6,Qp 0 pinned,Qp 6 6,Qp 11 11],[Qe 0 [.own 12 12 QI,.box 6 Q7,.box 11 Q6,.box pinned Q11,Qp 6 6,Qp 11 11],Qr [8,.own 7 7 QI,.box 6 Q7,.box pinned Q11,Qp 6 6]])],[],[]⟩
def a8j(s:(Int×Int×Bool×Int×Int×Z14×a9s)):Option ((Int×Int×Bool×Int×Int×Z14×a9s) ⊕ (Int×Int×Bool×Z14×a9s)):=(fun(a:Int)(b:Bool)(c d:Int)(e:Z14)(f g:Z93)=>cond (decide (d<c)) ((a0W (e,a)).bind fun y7=>cond (lim ((a02 g.2.2.2.2.2.2.2.2.1)+1)) (some (.inl (s.1,a,b,c,wrap .i64 (d+1),y7.2,f,(g.1,g.2.1,g.2.2.1,g.2.2.2.1,g.2.2.2.2.1,g.2.2.2.2.2.1,g.2.2.2.2.2.2.1,g.2.2.2.2.2.2.2.1,a03 g.2.2.2.2.2.2.2.2.1 [y7.1],g.2.2.2.2.2.2.2.2.2),()))) none) (some (.inr (s.1,a,b,e,f,g,())))) s.2.1 s.2.2.1 s.2.2.2.1 s.2.2.2.2.1 s.2.2.2.2.2.1 s.2.2.2.2.2.2.1 s.2.2.2.2.2.2.2.1
def a9l(x:Z31):Option (Z93×Z27):=cond (decide (x.2<1)) (some ((0,0,0,0,0,[],a00 3 0,[],[],(0,[],()),[],()),1,x.1)) (cond (decide (x.2 > 4096)) (some ((0,0,0,0,0,[],a00 3 0,[],[],(0,[],()),[],()),1,x.1)) ((a0K x.1).bind fun y1=>cond (y1.1 != 0) (some ((0,0,0,0,0,[],a00 3 0,[],[],(0,[],()),[],()),y1.1,y1.2)) ((a7C y1.2).bind fun y2=>(a0K y2.2.2.2).bind fun y3=>cond (y3.1 != 0) (some ((0,0,0,0,0,[],a00 3 0,[],[],(0,[],()),[],()),y3.1,y3.2)) ((a6w (y2.1.1,y2.1,x.2)).bind fun y4=>cond (!y4) (some ((0,0,0,0,0,[],a00 3 0,[],[],(0,[],()),[],()),2,y3.2)) ((a3H (y2.1,x.2)).bind fun y5=>(y0s a8j (x.2,y2.2.1,y2.2.2.1,y5,0,y3.2,(0,0,0,0,0,[],a00 3 0,[],[],(0,[],()),[],()),y2.1,())).bind fun w8=>(a0K w8.2.2.2.1).bind fun y9=>cond (y9.1 != 0) (some ((0,0,0,0,0,[],a00 3 0,[],[],(0,[],()),[],()),y9.1,y9.2)) ((a4W w8.2.2.2.2.2.1.1).bind fun y10=>cond y10 ((a8Y (y9.2,w8.1,(w8.2.2.2.2.2.1.2.2.2.2.2.2.2.2.1.length:Int))).bind fun y11=>cond (y11.2.2.1 != 0) (some ((0,0,0,0,0,[],a00 3 0,[],[],(0,[],()),[],()),y11.2.2.1,y11.2.2.2)) (cond (!w8.2.2.1) (some ((0,0,0,0,0,[],a00 3 0,[],[],(0,[],()),[],()),2,y11.2.2.2)) ((a1k w8.2.2.2.2.2.1.2.2.2.2.2.2.2.2.1).bind fun y12=>cond (y12 != w8.2.1) (some ((0,0,0,0,0,[],a00 3 0,[],[],(0,[],()),[],()),2,y11.2.2.2)) ((a7R ((w8.2.2.2.2.2.1.1,w8.2.2.2.2.2.1.2.1,w8.2.2.2.2.2.1.2.2.1,w8.2.2.2.2.2.1.2.2.2.1,w8.2.2.2.2.2.1.2.2.2.2.1,w8.2.2.2.2.2.1.2.2.2.2.2.1,w8.2.2.2.2.2.1.2.2.2.2.2.2.1,w8.2.2.2.2.2.1.2.2.2.2.2.2.2.1,w8.2.2.2.2.2.1.2.2.2.2.2.2.2.2.1,y11.1,y11.2.1,w8.2.2.2.2.2.1.2.2.2.2.2.2.2.2.2.2.2),w8.1)).bind fun y13=>cond (!y13) (some ((0,0,0,0,0,[],a00 3 0,[],[],(0,[],()),[],()),2,y11.2.2.2)) (some ((w8.2.2.2.2.2.1.1,w8.2.2.2.2.2.1.2.1,w8.2.2.2.2.2.1.2.2.1,w8.2.2.2.2.2.1.2.2.2.1,w8.2.2.2.2.2.1.2.2.2.2.1,w8.2.2.2.2.2.1.2.2.2.2.2.1,w8.2.2.2.2.2.1.2.2.2.2.2.2.1,w8.2.2.2.2.2.1.2.2.2.2.2.2.2.1,w8.2.2.2.2.2.1.2.2.2.2.2.2.2.2.1,y11.1,y11.2.1,w8.2.2.2.2.2.1.2.2.2.2.2.2.2.2.2.2.2),0,y11.2.2.2)))))) (cond (!w8.2.2.1) (some ((0,0,0,0,0,[],a00 3 0,[],[],(0,[],()),[],()),2,y9.2)) ((a1k w8.2.2.2.2.2.1.2.2.2.2.2.2.2.2.1).bind fun y14=>cond (y14 != w8.2.1) (some ((0,0,0,0,0,[],a00 3 0,[],[],(0,[],()),[],()),2,y9.2)) ((a7R (w8.2.2.2.2.2.1,w8.1)).bind fun y15=>cond (!y15) (some ((0,0,0,0,0,[],a00 3 0,[],[],(0,[],()),[],()),2,y9.2)) (some (w8.2.2.2.2.2.1,0,y9.2)))))))))))
def c3a:FSem:=⟨[.r false (.b Q11),.v QI],[.v Q31,.v QI],a9l⟩
def H53:Hints:=⟨[(1018,[1,8,.sv 9 .bool,47,48,.box pinned Q11,.box 4 Q31,.box 7 (.pair QI (.pair QI (.pair QI (.pair QI (.pair QI (.pair QL (.pair (.arr 3 QI) (.pair (.list false Q3) (.pair (.list true QI) Q13))))))))),Qp 0 pinned,Qp 4 4,Qp 7 7],[Qe 0 [1,8,.sv 9 .bool,.box pinned Q11,.box 4 Q31,.box 7 (.pair QI (.pair QI (.pair QI (.pair QI (.pair QI (.pair QL (.pair (.arr 3 QI) (.pair (.list false Q3) (.pair (.list true QI) Q13))))))))),Qp 0 pinned,Qp 4 4,Qp 7 7]])],[],[(14,[.r [7,50],.r [7,51],.p,.v,.w [54,1054,pinned],.q,.x,.x,.x])]⟩
def a2R(s:Z59):Option (Z59 ⊕ (Z50 ⊕ Z35)):=cond (decide (s.2.1<s.1)) ((a1s (s.2.2.1,s.2.1)).bind fun y1=>cond (y1.1==1) (some (.inr (Sum.inr (((y1.2.1,y1.2.2.1,2,y1.2.2.2.2),()))))) (some (.inl (s.1,wrap .i64 (s.2.1+1),y1.2,())))) (some (.inr (Sum.inl (s.1,s.2.2.1,()))))
def a3Y(x:Z14):Option Z14:=cond (x.2.2.1 != 0) (some x) ((y0s a2R (wrap .i64 ((wrap .i64 (a09 (wrap .i64 (x.2.1+7)) 8))*8),x.2.1,x,())).bind fun w2=>match w2 with |.inl a3=>some (a3.2.1.1,a3.1,a3.2.1.2.2) |.inr b4=>some b4.1)
def b2O:FSem:=⟨[.r false (.b Q11)],[],a3Y⟩
def H55:Hints:=⟨[(58,[2,3,.box pinned Q11,Qp 0 pinned],[Qe 0 [2,.box pinned Q11,Qp 0 pinned],Qr [.box pinned Q11]])],[],[]⟩
def a6u(s:(Int×Int×Int×a3p×b5G)):Option ((Int×Int×Int×a3p×b5G) ⊕ ((Int×a3p×b5G) ⊕ (Int×Int×b2P))):=(fun(a:Int)(b c:a3p)(d:Z14)=>cond (decide (a<s.2.1)) ((a9l (d,c.2.1)).bind fun y7=>cond (y7.2.1 != 0) (some (.inr (Sum.inr ((0,2,(0,0,(0,0,0,()),[],[],()),()))))) (cond (lim ((a02 c.2.2.2.2.1)+1)) (some (.inl (s.1,s.2.1,wrap .i64 (a+1),b,(c.1,c.2.1,c.2.2.1,c.2.2.2.1,a03 c.2.2.2.2.1 ([y7.1]:List Z93),c.2.2.2.2.2),y7.2.2,()))) none)) (some (.inr (Sum.inl (s.1,b,c,d,()))))) s.2.2.1 s.2.2.2.1 s.2.2.2.2.1 s.2.2.2.2.2.1
def a1W(x:LI):Option (a3p×Int×Int):=(a4w x).bind fun y1=>cond (y1.2.2.2 != 0) (some ((0,0,(0,0,0,()),[],[],()),0,y1.2.2.2)) (cond (decide ((x.length:Int)<(wrap .i64 ((wrap .i64 (y1.2.1+y1.2.2.1))+2)))) (some ((0,0,(0,0,0,()),[],[],()),0,3)) (cond ((decide (0≤(wrap .i64 (y1.2.1+y1.2.2.1))))&&(decide ((wrap .i64 (y1.2.1+y1.2.2.1))≤(x.length:Int)))) ((a5c (a06 (a01 (wrap .i64 (y1.2.1+y1.2.2.1))) x)).bind fun y2=>(m0k x (wrap .i64 (y1.2.1+y1.2.2.1))).bind fun x3=>(m0k x (wrap .i64 ((wrap .i64 (y1.2.1+y1.2.2.1))+1))).bind fun x4=>cond (y2 != (bits .u16 .or (A0n .u16 (wrap .u16 x3) 8) (wrap .u16 x4))) (some ((0,0,(0,0,0,()),[],[],()),0,5)) (cond ((decide (0≤(wrap .i64 (y1.2.1+y1.2.2.1))))&&(decide ((wrap .i64 (y1.2.1+y1.2.2.1))≤(x.length:Int)))) (cond ((decide (0≤y1.2.1))&&(decide (y1.2.1≤((a01 (wrap .i64 (y1.2.1+y1.2.2.1)):Nat):Int)))) ((a9z (a23 (a01 y1.2.1) (a06 (a01 (wrap .i64 (y1.2.1+y1.2.2.1))) x))).bind fun y5=>(y0s a6u (wrap .i64 (y1.2.1+y1.2.2.1),y1.1.2.2.1.2.1,0,(0,0,(0,0,0,()),[],[],()),y1.1,y5,())).bind fun w8=>match w8 with |.inl a9=>((a2g a9.2.2.2.1).bind fun y11=>cond (decide (y11.1≥8)) (some ((0,0,(0,0,0,()),[],[],()),0,2)) ((a3Y y11.2).bind fun y12=>(a0K y12).bind fun y13=>cond (y13.1 != 0) (some ((0,0,(0,0,0,()),[],[],()),0,2)) ((a3u a9.2.2.1).bind fun y14=>cond (!y14) (some ((0,0,(0,0,0,()),[],[],()),0,2)) (some (a9.2.2.1,wrap .i64 (a9.1+2),0))))) |.inr b10=>some (b10.2.2.1,b10.1,b10.2.1)) none) none)) none))
def b8q:FSem:=⟨[.v QB],[.v Q49,.v QI,.v QI],a1W⟩
def H15:Hints:=⟨[(2042,[9,59,60,.box 2 Q49,.box 5 Q48,.box 1056 Q11,Qp 2 2,Qp 5 5,Qp 10 1056],[Qe 0 [9,.box 2 Q49,.box 5 Q48,.box 1056 Q11,Qp 2 2,Qp 5 5,Qp 10 1056],Qr [3,4,.box 2 Q49,Qp 2 2]])],[],[(7,[.v,.v,.v,.v,.v,.v,.v,.v,.v,.v,.v,.v,.v,.v,.v,.v,.v,.x])]⟩
def a3P(s:(LI×Z5)):Option ((LI×Z5) ⊕ Z0):=(fun(a:Int)=>cond (decide (a<(s.1.length:Int))) ((m0k s.1 a).bind fun x1=>(m0k s.2.1 a).bind fun x2=>cond (x1 != x2) (some (.inr (Sum.inr ((false,()))))) (some (.inl (s.1,s.2.1,wrap .i64 (a+1),())))) (some (.inr (Sum.inl ())))) s.2.2.1
def a2t(x:(LI×LI)):Option Bool:=cond ((x.1.length:Int) != (x.2.length:Int)) (some false) ((y0s a3P (x.1,x.2,0,())).bind fun w3=>match w3 with |.inl a4=>some true |.inr b5=>some b5.1)
def b7w:FSem:=⟨[.v QL,.v QL],[.v .bool],a2t⟩
def H25:Hints:=⟨[(58,[.sv 0 QL,.sv 1 QL,5],[Qe 0 [],Qr [.sv 4 .bool]])],[],[(6,[.v,.v,.v,.v,.v,.v,.v,.v,.x])]⟩
def a2F(s:(Z6×Z6×Int×Unit)):Option ((Z6×Z6×Int×Unit) ⊕ Z0):=(fun(a:Int)=>cond (decide (a<(s.1.length:Int))) ((m0k s.1 a).bind fun x1=>(m0k s.2.1 a).bind fun x2=>cond (!(eqT Q3 x1 x2)) (some (.inr (Sum.inr ((false,()))))) (some (.inl (s.1,s.2.1,wrap .i64 (a+1),())))) (some (.inr (Sum.inl ())))) s.2.2.1
def a5A(x:(Z6×Z6)):Option Bool:=cond ((x.1.length:Int) != (x.2.length:Int)) (some false) ((y0s a2F (x.1,x.2,0,())).bind fun w3=>match w3 with |.inl a4=>some true |.inr b5=>some b5.1)
def b4d:FSem:=⟨[.v (.list false Q3),.v (.list false Q3)],[.v .bool],a5A⟩
def H70:Hints:=⟨[(58,[.sv 0 (.list false Q3),.sv 1 (.list false Q3),5],[Qe 0 [],Qr [.sv 4 .bool]])],[],[(6,[.v,.v,.v,.v,.v,.v,.v,.v,.x])]⟩
def a8u(x:(Z4×Z4)):Option Bool:=cond (x.1.1==x.2.1) ((a2t (x.1.2.1,x.2.2.1)).bind fun y1=>some y1) (some false)
def b5X:FSem:=⟨[.v Q7,.v Q7],[.v .bool],a8u⟩
def a7E(x:(Z93×Z93)):Option Bool:=cond (x.1.1==x.2.1) (cond (x.1.2.1==x.2.2.1) (cond (x.1.2.2.1==x.2.2.2.1) (cond (x.1.2.2.2.1==x.2.2.2.2.1) (cond (x.1.2.2.2.2.1==x.2.2.2.2.2.1) ((a2t (x.1.2.2.2.2.2.1,x.2.2.2.2.2.2.1)).bind fun y1=>cond y1 (cond (eqT (.arr 3 (.int .i64)) x.1.2.2.2.2.2.2.1 x.2.2.2.2.2.2.2.1) ((a5A (x.1.2.2.2.2.2.2.2.1,x.2.2.2.2.2.2.2.2.1)).bind fun y2=>cond y2 ((a2t (x.1.2.2.2.2.2.2.2.2.1,x.2.2.2.2.2.2.2.2.2.1)).bind fun y3=>cond y3 ((a8u (x.1.2.2.2.2.2.2.2.2.2.1,x.2.2.2.2.2.2.2.2.2.2.1)).bind fun y4=>cond y4 ((a2t (x.1.2.2.2.2.2.2.2.2.2.2.1,x.2.2.2.2.2.2.2.2.2.2.2.1)).bind fun y5=>some y5) (some false)) (some false)) (some false)) (some false)) (some false)) (some false)) (some false)) (some false)) (some false)) (some false)
def b7x:FSem:=⟨[.v Q31,.v Q31],[.v .bool],a7E⟩
def a4x(s:(Z17×Z17×Int×Unit)):Option ((Z17×Z17×Int×Unit) ⊕ Z0):=(fun(a:Int)=>cond (decide (a<(s.1.length:Int))) ((m0k s.1 a).bind fun x1=>(m0k s.2.1 a).bind fun x2=>cond (!(eqT Q8 x1 x2)) (some (.inr (Sum.inr ((false,()))))) (some (.inl (s.1,s.2.1,wrap .i64 (a+1),())))) (some (.inr (Sum.inl ())))) s.2.2.1
def a6v(x:(Z17×Z17)):Option Bool:=cond ((x.1.length:Int) != (x.2.length:Int)) (some false) ((y0s a4x (x.1,x.2,0,())).bind fun w3=>match w3 with |.inl a4=>some true |.inr b5=>some b5.1)
def b4E:FSem:=⟨[.v (.list false Q8),.v (.list false Q8)],[.v .bool],a6v⟩
def H57:Hints:=⟨[(58,[.sv 0 (.list false Q8),.sv 1 (.list false Q8),5],[Qe 0 [],Qr [.sv 4 .bool]])],[],[(6,[.v,.v,.v,.v,.v,.v,.v,.v,.x])]⟩
def a4y(s:c1w):Option (c1w ⊕ Z0):=cond (decide (s.1<(s.2.1.2.2.2.2.1.length:Int))) ((m0k s.2.1.2.2.2.2.1 s.1).bind fun x3=>(m0k s.2.2.1.2.2.2.2.1 s.1).bind fun x4=>(a7E (x3,x4)).bind fun y5=>cond (!y5) (some (.inr (Sum.inr ((false,()))))) (some (.inl (wrap .i64 (s.1+1),s.2.1,s.2.2.1,())))) (some (.inr (Sum.inl ())))
def a4z(x:(a3p×a3p)):Option Bool:=(show Option (Bool×c3W)from cond (x.1.1 != x.2.1) (some (true,x.1,x.2,())) (cond (x.1.2.1 != x.2.2.1) (some (true,x.1,x.2,())) (cond (!(eqT Q8 x.1.2.2.1 x.2.2.2.1)) (some (true,x.1,x.2,())) ((a6v (x.1.2.2.2.1,x.2.2.2.2.1)).bind fun y1=>cond (!y1) (some (true,x.1,x.2,())) (some ((x.1.2.2.2.2.1.length:Int) != (x.2.2.2.2.2.1.length:Int),x.1,x.2,())))))).bind fun z2=>cond z2.1 (some false) ((y0s a4y (0,z2.2.1,z2.2.2.1,())).bind fun w6=>match w6 with |.inl a7=>some true |.inr b8=>some b8.1)
def b4F:FSem:=⟨[.v Q49,.v Q49],[.v .bool],a4z⟩
def H16:Hints:=⟨[(58,[5,.vp 2 Q49,.vp 3 Q49],[Qe 0 [],Qr [.sv 4 .bool]])],[(6,[Qn [.sv 41 .bool,.vp 2 Q49,.vp 3 Q49]])],[(6,[.v,.v,.v,.v,.v,.v,.v,.v,.v,.v,.x,.x])]⟩
def b3A(s:((List LI)×Z13)):Option (((List LI)×Z13) ⊕ Z0):=(fun(a:Int)=>cond (decide (a<(s.1.length:Int))) ((m0k s.1 a).bind fun x1=>(m0k s.2.1 a).bind fun x2=>(a2t (x1,x2)).bind fun y3=>cond (!y3) (some (.inr (Sum.inr ((false,()))))) (some (.inl (s.1,s.2.1,wrap .i64 (a+1),())))) (some (.inr (Sum.inl ())))) s.2.2.1
def b1s(x:((List LI)×(List LI))):Option Bool:=cond ((x.1.length:Int) != (x.2.length:Int)) (some false) ((y0s b3A (x.1,x.2,0,())).bind fun w4=>match w4 with |.inl a5=>some true |.inr b6=>some b6.1)
def b5Y:FSem:=⟨[.v (.list false QL),.v (.list false QL)],[.v .bool],b1s⟩
def H74:Hints:=⟨[(58,[.sv 0 (.list false QL),.sv 1 (.list false QL),5],[Qe 0 [],Qr [.sv 4 .bool]])],[],[(6,[.v,.v,.v,.v,.v,.v,.v,.v,.x,.x])]⟩
def b0O(x:(Z12×Z12)):Option Bool:=cond (x.1.1==x.2.1) ((b1s (x.1.2.1,x.2.2.1)).bind fun y1=>some y1) (some false)
def b4G:FSem:=⟨[.v Q10,.v Q10],[.v .bool],b0O⟩
def a6B(x:LI):Option (Z8×Int×Int×Int):=(a4w x).bind fun y1=>cond (y1.2.2.2 != 0) (some ((0,0,0,()),0,0,y1.2.2.2)) (some (y1.1.2.2.1,y1.1.1,y1.1.2.1,0))
def b8r:FSem:=⟨[.v QB],[.v Q8,.v QI,.v QI,.v QI],a6B⟩
def H27:Hints:=⟨[],[],[(4,[.q,.q,.r [6,23],.r [6,24],.r [6,25],.r [6,26],.w [0,2],.v,.x,.x])]⟩
def b4H(s:Z5):Option (Z5 ⊕ (Unit ⊕ (Int×Unit))):=(fun(a:LI)(b:Int)=>cond (decide (b<(a.length:Int))) (cond ((decide (0≤b))&&(decide (b≤(a.length:Int)))) ((a1W (a23 (a01 b) (a06 (a02 a) a))).bind fun y1=>cond (y1.2.2==0) (some (.inr (Sum.inr ((b,()))))) (some (.inl (a,wrap .i64 (b+1),())))) none) (some (.inr (Sum.inl ())))) s.1 s.2.1
def b3a(x:(LI×Int)):Option Int:=(y0s b4H (x.1,v0r x.2 0,())).bind fun w2=>match w2 with |.inl a3=>some (-1) |.inr b4=>some b4.1
def b8s:FSem:=⟨[.v QB,.v QI],[.v QI],b3a⟩
def H36:Hints:=⟨[(26,[.sv 0 QB,5],[Qe 0 [],Qr [4]])],[],[]⟩
def b1h(x:Unit):Option Bool:=(a5a ((8,([[3,3],[3,3]]:List LI),()),(8000,2,8,()),5,0)).bind fun y1=>(a2P y1.1).bind fun y2=>(a1W y2.1).bind fun y3=>(a5T y3.1).bind fun y4=>(a6B y2.1).bind fun y5=>cond (y1.2==0) (cond (y2.2==0) (cond (y3.2.2==0) (cond (y4.2==0) (cond (y5.2.2.2==0) (cond (y3.2.1==(y2.1.length:Int)) ((a4z (y1.1,y3.1)).bind fun y6=>cond y6 ((b0O ((8,([[3,3],[3,3]]:List LI),()),y4.1)).bind fun y7=>cond y7 (cond (eqT Q8 y5.1 ((8000: Int),(2: Int),(8: Int),())) (cond (y5.2.1==5) (cond (y5.2.2.1==2) (cond (lim (2+(a02 y2.1))) ((b3a (a03 [1,245] y2.1,0)).bind fun y8=>cond (y8==2) (cond (decide ((y2.1.length:Int) > 2)) ((m0k y2.1 0).bind fun x9=>cond (x9==245) ((m0k y2.1 1).bind fun x10=>some (x10==75)) (some false)) (some false)) (some false)) none) (some false)) (some false)) (some false)) (some false)) (some false)) (some false)) (some false)) (some false)) (some false)) (some false)) (some false)
def c0C:FSem:=⟨[],[.v .bool],b1h⟩
def a5V(s:Z56):Option (Z56 ⊕ Z0):=cond (decide (s.2.1<(s.2.2.1.2.1.length:Int))) ((m0k s.2.2.1.2.1 s.2.1).bind fun x1=>cond (decide ((x1.length:Int) > s.1)) (some (.inr (Sum.inr ((false,()))))) (some (.inl (s.1,wrap .i64 (s.2.1+1),s.2.2.1,())))) (some (.inr (Sum.inl ())))
def a9C(x:(Z12×Int)):Option Bool:=cond (decide ((x.1.2.1.length:Int) > 12)) (some false) ((y0s a5V (x.2,0,x.1,())).bind fun w2=>match w2 with |.inl a3=>some true |.inr b4=>some b4.1)
def c1J:FSem:=⟨[.v Q10,.v QI],[.v .bool],a9C⟩
def H10:Hints:=⟨[(58,[1,5,.vp 2 Q10],[Qe 0 [],Qr [.sv 4 .bool]])],[],[]⟩
def a5d(s:Z13):Option (Z13 ⊕ Z0):=cond (decide (s.2.1<(s.1.length:Int))) ((m0k s.1 s.2.1).bind fun x2=>(m0k s.1 0).bind fun x3=>cond ((x2.length:Int) != (x3.length:Int)) (some (.inr (Sum.inr ((false,()))))) (some (.inl (s.1,wrap .i64 (s.2.1+1),())))) (some (.inr (Sum.inl ())))
def a8Z(x:(List LI)):Option Bool:=(show Option ((List LI)×(Bool×Unit))from cond (decide ((x.length:Int)<1)) (some (x,true,())) (some (x,decide ((x.length:Int) > 8),()))).bind fun z1=>cond z1.2.1 (some false) ((y0s a5d (z1.1,0,())).bind fun w4=>match w4 with |.inl a5=>some true |.inr b6=>some b6.1)
def c0D:FSem:=⟨[.v (.list false QL)],[.v .bool],a8Z⟩
def H37:Hints:=⟨[(58,[.sv 0 (.list false QL),3],[Qe 0 [],Qr [.sv 2 .bool]])],[(6,[Qn [.sv 0 (.list false QL),.sv 11 .bool]])],[(6,[.v,.v,.v,.v,.v,.v,.v,.v,.v,.x])]⟩
def b4e(x:Int):Option Int:=(show Option (Int×Bool×Unit)from cond (decide (x<1)) (some (x,true,())) (some (x,decide (x > 31),()))).bind fun z1=>cond z1.2.1 (some 0) (cond (decide ((wrap .u64 (wrap .i64 (z1.1-1)))<0)) none (some (A0n .i64 (-1) (wrap .u64 (wrap .i64 (z1.1-1))))))
def c3Y:FSem:=⟨[.v QI],[.v QI],b4e⟩
def c9w:Hints:=⟨[],[(6,[Qn [0,.sv 8 .bool]])],[]⟩
def b3b(x:Int):Option Int:=(show Option (Int×Bool×Unit)from cond (decide (x<1)) (some (x,true,())) (some (x,decide (x > 31),()))).bind fun z1=>cond z1.2.1 (some 0) (cond (decide ((wrap .u64 (wrap .i64 (z1.1-1)))<0)) none (some (wrap .i64 ((A0n .i64 1 (wrap .u64 (wrap .i64 (z1.1-1))))-1))))
def c3b:FSem:=⟨[.v QI],[.v QI],b3b⟩
def c9x:Hints:=⟨[],[(6,[Qn [0,.sv 8 .bool]])],[]⟩
def a9m(x:(Int×Int)):Option Bool:=cond (decide (x.2≥1)) (cond (decide (x.2≤31)) ((b4e x.2).bind fun y1=>cond (decide (x.1≥y1)) ((b3b x.2).bind fun y2=>some (decide (x.1≤y2))) (some false)) (some false)) (some false)
def c3c:FSem:=⟨[.v QI,.v QI],[.v .bool],a9m⟩
def a2r(s:Z56):Option (Z56 ⊕ (Z46 ⊕ (Bool×Unit))):=(fun(a b:Int)(c:Z12)=>(m0k c.2.1 a).bind fun x5=>cond (decide (b<(x5.length:Int))) ((m0k c.2.1 a).bind fun x6=>(m0k x6 b).bind fun x7=>(a9m (x7,c.1)).bind fun y8=>cond (!y8) (some (.inr (Sum.inr ((false,()))))) (some (.inl (a,wrap .i64 (b+1),c,())))) (some (.inr (Sum.inl (a,c,()))))) s.1 s.2.1 s.2.2.1
def a3o(s:Z46):Option (Z46 ⊕ Z0):=cond (decide (s.1<(s.2.1.2.1.length:Int))) ((y0s a2r (s.1,0,s.2.1,())).bind fun w9=>match w9 with |.inl a10=>some (.inl (wrap .i64 (a10.1+1),a10.2.1,())) |.inr b11=>some (.inr (Sum.inr ((b11.1,()))))) (some (.inr (Sum.inl ())))
def a5e(x:Z12):Option Bool:=(show Option Z49 from cond (decide (x.1<4)) (some (true,x,())) (cond (decide (x.1 > 24)) (some (true,x,())) ((a8Z x.2.1).bind fun y1=>cond (!y1) (some (true,x,())) ((m0k x.2.1 0).bind fun x2=>cond (decide ((x2.length:Int)<1)) (some (true,x,())) ((m0k x.2.1 0).bind fun x3=>some (decide ((x3.length:Int) > 4096),x,())))))).bind fun z4=>cond z4.1 (some false) ((y0s a3o (0,z4.2.1,())).bind fun w12=>match w12 with |.inl a13=>some true |.inr b14=>some b14.1)
def b5Z:FSem:=⟨[.v Q10],[.v .bool],a5e⟩
def H11:Hints:=⟨[(58,[3,.vp 1 Q10],[Qe 0 [],Qr [.sv 2 .bool]]),(3730,[3,4,.vp 1 Q10],[Qe 2 [3,.vp 1 Q10],Qr [.sv 2 .bool]])],[(6,[Qn [.sv 34 .bool,.vp 1 Q10]])],[(9,[.v,.v,.v,.v,.v,.v,.v,.v,.v,.v,.x,.x])]⟩
def a6C(x:(LI×Int)):Option (LI×Int):=cond (decide (x.2<0)) (some ([],1)) ((a1W x.1).bind fun y1=>cond (y1.2.2 != 0) (some ([],y1.2.2)) (cond (decide (y1.2.1<(x.1.length:Int))) (some ([],2)) (cond (decide (x.2 > (wrap .i64 (4194304-y1.1.2.1)))) (some ([],4)) ((a2P (x.2,y1.1.2)).bind fun y2=>some (y2.1,y2.2)))))
def b8t:FSem:=⟨[.v QB,.v QI],[.o QV,.v QI],a6C⟩
def b3c(x:(LI×LI)):Option Bool:=some ((b2s x.1)==(b2s x.2))
def c3d:FSem:=⟨[.v QB,.v QB],[.v .bool],b3c⟩
def a7K(x:(Z12×Int×Int×Int)):Option Bool:=(b1h ()).bind fun y1=>cond (!y1) (some false) ((show Option (Int×Int×Int×Z49)from(a9C (x.1,60)).bind fun y2=>cond (!y2) (some (x.2.1,x.2.2.1,x.2.2.2,true,x.1,())) ((a5e x.1).bind fun y3=>some (x.2.1,x.2.2.1,x.2.2.2,!y3,x.1,()))).bind fun z4=>cond z4.2.2.2.1 (some true) ((a5a (z4.2.2.2.2.1,(96000,(z4.2.2.2.2.1.2.1.length:Int),z4.2.2.2.2.1.1,()),bits .i64 .and z4.2.1 1048575,bits .i64 .and z4.1 3)).bind fun y5=>(a2P y5.1).bind fun y6=>(a6C (y6.1,bits .i64 .and z4.2.2.1 1048575)).bind fun y7=>(a6C (y7.1,bits .i64 .and z4.2.1 1048575)).bind fun y8=>(a1W y7.1).bind fun y9=>cond (y5.2==0) (cond (y6.2==0) (cond (y7.2==0) (cond (y8.2==0) (cond (y9.2.2==0) ((a4z ((bits .i64 .and z4.2.2.1 1048575,y5.1.2),y9.1)).bind fun y10=>cond y10 ((b3c (y6.1,y8.1)).bind fun y11=>some y11) (some false)) (some false)) (some false)) (some false)) (some false)) (some false)))
def a7L:FSem:=⟨[.v Q10,.v QI,.v QI,.v QI],[.v .bool],a7K⟩
def H3:Hints:=⟨[],[(14,[Qn [1,2,3,.sv 29 .bool,.vp 4 Q10]])],[]⟩
end Go.Ab
