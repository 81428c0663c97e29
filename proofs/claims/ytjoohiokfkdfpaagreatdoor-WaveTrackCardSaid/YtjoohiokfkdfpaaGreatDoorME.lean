/- Part of the proof: It. Conditions: as each statement tells. -/
import Derived.RangeFuncBound
import Derived.RangeFuncCalls
import Derived.RangeFuncBox
import Derived.WalkKit
import Derived.OwnWalkIn
import Derived.TacticsInMore
import Derived.LoopNIn
import Derived.LoopIn
import Derived.Test.YtjoohiokfkdfpaaGreatDoorProg
import Derived.KernelRfl
import Derived.Test.YtjoohiokfkdfpaaGreatDoorMD
noncomputable section
set_option linter.unusedSimpArgs false
set_option linter.unusedVariables false
open Array renaming replicate_succ→a09,replicate_zero→a16
open Int renaming toNat→a01,tmod→a06,tdiv→a07
open List renaming length→a00,append→a02,replicate→a03,getD→a04,take→a05,drop→a08,set→a18,append_toArray→a19,cons_append→a20,size_toArray→a21,push_toArray→a22,length_nil→a23,nil_append→a24
open Nat renaming reduceAdd→a25,reduceSub→a26
open Option renaming getD_some→a27
namespace Go.Ab
open Go.Proofs Go.RowKit
attribute [local go_sem] Oper.semAt_some
set_option maxHeartbeats 1000000 in
theorem d2O:A0h Tryz.prog 248 291:=by
 refine⟨⟨_,_,Tryz.func248,rfl,by kernel_rfl⟩,fun A len cap w=>(callsIn_wide (n:=3)).1 ?_⟩
 refine callsIn_of_wp Tryz.func248 rfl trivial ?_
 simp only[Tryz.ntmps248,a21,lC,a23,a25,a26,a09,a16,a22,a19,a24,a20]
 gi_wp2
 go_ret
 exact⟨rfl,_,rfl⟩
@[reducible] def b2G:Ty:=.pair (.int .i64) (.pair (.int .i64) .unit)
set_option maxRecDepth 100000 in
set_option maxHeartbeats 2000000 in
theorem d0E (l Bs b off len cap:Nat) (p q:Nat→Int) (J:Nat→World→Prop) (Jx:World→Prop) (W:World)
  (hJ:∀k W',J k W'→W'.cell? ⟨Bs,0,none⟩=some (.slice (some ⟨b,off,none⟩) len cap))
  (hlen:len<2147483648)
  (hcs:∀k W',k<len→J (k+1) W'→W'.cell? ⟨b,off+k*2,none⟩=some (.int .i64 (p k))∧W'.cell? ⟨b,off+k*2+1,none⟩=some (.int .i64 (q k)))
  (hY:∀n W',n<len→J (n+1) W'→YieldAt (Fr none) 0 Tryz.prog l #[.int .i64 (n:Int),.agg #[.int .i64 (p n),.int .i64 (q n)]] W' fun en W''=>(en=.returned (.bool true)∧J n W'')∨(en=.returned (.bool false)∧Jx W''))
  (h0:J len W):
  CallsIn (Fr none) 0 Tryz.prog 291 #[.func (.yield l) #[] #[],.pointer (some ⟨Bs,0,none⟩)] W fun en W'=>(∃v,en=.returned v)∧(J 0 W'∨Jx W'):=by
 refine callsIn_of_wp Tryz.func291 rfl trivial ?_
 simp only[Tryz.ntmps291,a21,lC,a23,a25,a26,a09,a16,a22,a19,a24,a20]
 have hBs:=hJ _ _ h0
 gi_wp2
 gi_loopw [3] (fun i wr=>∃k:Nat,k≤len∧i=.int .i64 ((k:Int)-1)∧J k wr) (fun i _=>(intOf i+1).toNat)
 case atStart=>exact⟨len,Nat.le_refl _,rfl,h0⟩
 case round=>
  obtain⟨k,hk,rfl,hJs⟩:=hrel
  cases k with
  |succ n=>
   obtain⟨fn,tmps,assign,body,hy,hR⟩:=hY n wr (by omega) hJs
   have hcx:=hJ _ _ hJs
   obtain⟨hc0,hc1⟩:=hcs n wr (by omega) hJs
   gi_wp2
   refine hR.mono ?_
   rintro e W3 (⟨rfl,hJ3⟩|⟨rfl,hJx3⟩)
   ·gi_wp2
    go_roundw
    case rel=>exact⟨n,by omega,by simp,hJ3⟩
    case measure=>simp[intOf]
   ·gi_wp2
    refine bodyPost_ret (results_none rfl _ _ _) rfl ?_
    exact⟨⟨_,rfl⟩,.inr hJx3⟩
  |zero=>
   gi_wp2
   go_end0
   exact⟨⟨_,rfl⟩,.inl hJs⟩
set_option maxRecDepth 100000 in
set_option maxHeartbeats 2000000 in
theorem c8F (l Bs:Nat) (A:Option Addr) (c:Nat) (J:Nat→World→Prop) (W:World) (hBs:W.cell? ⟨Bs,0,none⟩=some (.slice A 0 c)) (h0:J 0 W):
  CallsIn (Fr none) 0 Tryz.prog 291 #[.func (.yield l) #[] #[],.pointer (some ⟨Bs,0,none⟩)] W fun en W'=>(∃v,en=.returned v)∧J 0 W':=by
 refine callsIn_of_wp Tryz.func291 rfl trivial ?_
 simp only[Tryz.ntmps291,a21,lC,a23,a25,a26,a09,a16,a22,a19,a24,a20]
 gi_wp2
 gi_loopw [3] (fun i wr=>i=.int .i64 (-1)∧J 0 wr) (fun _ _=>0)
 case atStart=>exact⟨rfl,h0⟩
 case round=>
  obtain⟨rfl,hJs⟩:=hrel
  gi_wp2
  go_end0
  exact⟨⟨_,rfl⟩,hJs⟩
theorem c0R{m:Mem}{Sh:Nat→Prop}{b o:Nat}{x:b2G.den}{R}(h:dec m b2G ((Src.at b o).rd m)=some (x,[],R)):
  m b o=some (.int .i64 x.1)∧m b (o+1)=some (.int .i64 x.2.1)∧VOk m Sh b2G x (.agg #[.int .i64 x.1,.int .i64 x.2.1]):=by
 obtain⟨p,q,u⟩:=x;simp only[b2G,dec,Src.rd,Ty.cells,Nat.add_zero]at h
 split at h
 cases h;rename_i r o1 j g
 split at g
 rename_i n c
 split at g
 rename_i e;subst e;simp only[sj]at g;obtain⟨rfl,rfl,rfl⟩:=g
 split at h
 cases h;rename_i s o2 r2 k
 split at k
 cases k;rename_i t i l f
 split at f
 rename_i d a
 split at f
 rename_i e;subst e;simp only[sj]at f k h;obtain⟨rfl,rfl,rfl⟩:=f;obtain⟨rfl,rfl,rfl⟩:=k;obtain⟨⟨rfl,rfl,rfl⟩,-,-⟩:=h;exact⟨c,a,fun _=>⟨_,rfl,rfl⟩,fun h=>(by cases h),[],rfl,by simp⟩;cases f;cases f;cases g;cases g
theorem b5l {P:Program} {f:FuncId} (hb:l0x P f) (args:Array Value) (w:World):(callFunc f args).run P w=.ok (.enter f args) w:=by
 obtain ⟨fn,c',h1,h2,h3⟩:=hb;have h4 : ¬ fn.name = "runtime.NumGoroutine" := by simpa using h3
 simp [callFunc,program,Sem.run,h1,h2,h4,Result.andThen]
theorem d2P:w0n Tryz.prog 291 b2G:=by
 refine⟨fun args w=>b5l ⟨_,_,Tryz.func291,rfl,by kernel_rfl⟩ args w,fun l Bs sv f J D W i t L o=>?_⟩;obtain⟨z,Sh,y⟩:=t _ _ o;obtain⟨A,n,c,rfl,rfl,N,v,j⟩:=y.header
 by_cases hx0:f.length=0
 rw[hx0]at o z;exact(c8F l Bs A c J W z o).mono fun e g h=>⟨h.1,.inl h.2⟩;cases A with
 |none=>have:=j rfl;omega
 |some A=>
  obtain⟨b,off,B⟩:=A
  have:=(v _ rfl).resolve_left (by omega)
  simp only at this;subst this;have u:∀k g,k<f.length→J (k+1) g→∃x,f[k]?=some x∧g.cell? ⟨b,off+k*2,none⟩=some (.int .i64 x.1)∧g.cell? ⟨b,off+k*2+1,none⟩=some (.int .i64 x.2.1):=by
   intro k g p d;obtain⟨-,a,hv⟩:=t _ _ d;obtain⟨C,O,E,R,e,F,G,H,s,I,K⟩:=hv.elem rfl (lG p);simp only[Value.slice.injEq,sj]at e;obtain⟨rfl,rfl,rfl⟩:=e;obtain⟨q,r,-⟩:=c0R (Sh:=a) s;exact⟨_,lG p,q,r⟩
  refine d0E l Bs b off f.length c (fun k=>((f[k]?).getD b2G.dflt).1) (fun k=>((f[k]?).getD b2G.dflt).2.1) J D W (fun k g d=>(t k g d).1) i (fun k g p d=>?_) (fun n g M d=>?_) o;obtain⟨x,m,q,r⟩:=u k g p d;simp only[m,a27];exact⟨q,r⟩;have m:f[n]?=some f[n]:=lG M;simp only[m,a27];refine L n _ _ g m d fun a hv=>?_
  obtain⟨C,O,E,R,e,F,G,H,s,I,K⟩:=hv.elem rfl m;exact(c0R (Sh:=a) s).2.2
set_option maxHeartbeats 1000000 in
theorem d2Q:A0h Tryz.prog 156 238:=by
 refine⟨⟨_,_,Tryz.func156,rfl,by kernel_rfl⟩,fun A len cap w=>(callsIn_wide (n:=3)).1 ?_⟩
 refine callsIn_of_wp Tryz.func156 rfl trivial ?_
 simp only[Tryz.ntmps156,a21,lC,a23,a25,a26,a09,a16,a22,a19,a24,a20]
 gi_wp2
 go_ret
 exact⟨rfl,_,rfl⟩
@[reducible] def b4q:Ty:=.pair (.int .i64) (.pair (.int .i64) (.pair (.int .i64) .unit))
set_option maxRecDepth 100000 in
set_option maxHeartbeats 2000000 in
theorem d0F (l Bs b off len cap:Nat) (p q r:Nat→Int) (J:Nat→World→Prop) (Jx:World→Prop) (W:World)
  (hJ:∀k W',J k W'→W'.cell? ⟨Bs,0,none⟩=some (.slice (some ⟨b,off,none⟩) len cap))
  (hlen:len<2147483648)
  (hcs:∀k W',k<len→J (k+1) W'→W'.cell? ⟨b,off+k*3,none⟩=some (.int .i64 (p k))∧W'.cell? ⟨b,off+k*3+1,none⟩=some (.int .i64 (q k))∧W'.cell? ⟨b,off+k*3+2,none⟩=some (.int .i64 (r k)))
  (hY:∀n W',n<len→J (n+1) W'→YieldAt (Fr none) 0 Tryz.prog l #[.int .i64 (n:Int),.agg #[.int .i64 (p n),.int .i64 (q n),.int .i64 (r n)]] W' fun en W''=>(en=.returned (.bool true)∧J n W'')∨(en=.returned (.bool false)∧Jx W''))
  (h0:J len W):
  CallsIn (Fr none) 0 Tryz.prog 238 #[.func (.yield l) #[] #[],.pointer (some ⟨Bs,0,none⟩)] W fun en W'=>(∃v,en=.returned v)∧(J 0 W'∨Jx W'):=by
 refine callsIn_of_wp Tryz.func238 rfl trivial ?_
 simp only[Tryz.ntmps238,a21,lC,a23,a25,a26,a09,a16,a22,a19,a24,a20]
 have hBs:=hJ _ _ h0
 gi_wp2
 gi_loopw [3] (fun i wr=>∃k:Nat,k≤len∧i=.int .i64 ((k:Int)-1)∧J k wr) (fun i _=>(intOf i+1).toNat)
 case atStart=>exact⟨len,Nat.le_refl _,rfl,h0⟩
 case round=>
  obtain⟨k,hk,rfl,hJs⟩:=hrel
  cases k with
  |succ n=>
   obtain⟨fn,tmps,assign,body,hy,hR⟩:=hY n wr (by omega) hJs
   have hcx:=hJ _ _ hJs
   obtain⟨hc0,hc1,hc2⟩:=hcs n wr (by omega) hJs
   gi_wp2
   refine hR.mono ?_
   rintro e W3 (⟨rfl,hJ3⟩|⟨rfl,hJx3⟩)
   ·gi_wp2
    go_roundw
    case rel=>exact⟨n,by omega,by simp,hJ3⟩
    case measure=>simp[intOf]
   ·gi_wp2
    refine bodyPost_ret (results_none rfl _ _ _) rfl ?_
    exact⟨⟨_,rfl⟩,.inr hJx3⟩
  |zero=>
   gi_wp2
   go_end0
   exact⟨⟨_,rfl⟩,.inl hJs⟩
set_option maxRecDepth 100000 in
set_option maxHeartbeats 2000000 in
theorem c8G (l Bs:Nat) (A:Option Addr) (c:Nat) (J:Nat→World→Prop) (W:World) (hBs:W.cell? ⟨Bs,0,none⟩=some (.slice A 0 c)) (h0:J 0 W):
  CallsIn (Fr none) 0 Tryz.prog 238 #[.func (.yield l) #[] #[],.pointer (some ⟨Bs,0,none⟩)] W fun en W'=>(∃v,en=.returned v)∧J 0 W':=by
 refine callsIn_of_wp Tryz.func238 rfl trivial ?_
 simp only[Tryz.ntmps238,a21,lC,a23,a25,a26,a09,a16,a22,a19,a24,a20]
 gi_wp2
 gi_loopw [3] (fun i wr=>i=.int .i64 (-1)∧J 0 wr) (fun _ _=>0)
 case atStart=>exact⟨rfl,h0⟩
 case round=>
  obtain⟨rfl,hJs⟩:=hrel
  gi_wp2
  go_end0
  exact⟨⟨_,rfl⟩,hJs⟩
theorem b9w{m:Mem}{rd:Nat→Option Value}{x o r}(h:dec m (.int .i64) rd=some (x,o,r)):rd 0=some (.int .i64 x)∧o=[]∧r=[]:=by
 simp only[dec]at h
 split at h
 rename_i k n g
 split at h
 rename_i e;subst e;simp only[sj,pJ]at h;obtain⟨rfl,rfl,rfl⟩:=h;exact⟨g,rfl,rfl⟩;cases h;cases h
theorem b7r{m:Mem}{a b:Ty}{rd:Nat→Option Value}{x o r}(h:dec m (.pair a b) rd=some (x,o,r)):∃o1 g o2 r2,dec m a rd=some (x.1,o1,g)∧dec m b (fun j=>rd (a.cells+j))=some (x.2,o2,r2)∧o=o1++o2∧r=g++r2:=by
 simp only[dec]at h
 split at h
 cases h;rename_i c o1 g f
 split at h
 cases h;rename_i d o2 r2 k;simp only[sj,pJ]at h;obtain⟨rfl,rfl,rfl⟩:=h;exact⟨_,_,_,_,f,k,rfl,rfl⟩
theorem c2G{m:Mem}{Sh:Nat→Prop}{b o:Nat}{x:b4q.den}{R}(h:dec m b4q ((Src.at b o).rd m)=some (x,[],R)):
  m b o=some (.int .i64 x.1)∧m b (o+1)=some (.int .i64 x.2.1)∧m b (o+2)=some (.int .i64 x.2.2.1)∧VOk m Sh b4q x (.agg #[.int .i64 x.1,.int .i64 x.2.1,.int .i64 x.2.2.1]):=by
 obtain⟨_,_,_,_,g,f,-,-⟩:=b7r h;obtain⟨_,_,_,_,k,a,-,-⟩:=b7r f;obtain⟨_,_,_,_,c,-,-,-⟩:=b7r a;exact⟨(b9w g).1,(b9w k).1,(b9w c).1,fun _=>⟨_,rfl,rfl⟩,fun h=>(by cases h),[],rfl,by simp⟩
theorem d2R:w0n Tryz.prog 238 b4q:=by
 refine⟨fun args w=>b5l ⟨_,_,Tryz.func238,rfl,by kernel_rfl⟩ args w,fun l Bs sv f J E W i u M o=>?_⟩;obtain⟨B,Sh,z⟩:=u _ _ o;obtain⟨A,n,c,rfl,rfl,O,y,j⟩:=z.header
 by_cases hx0:f.length=0
 rw[hx0]at o B;exact(c8G l Bs A c J W B o).mono fun e g h=>⟨h.1,.inl h.2⟩;cases A with
 |none=>have:=j rfl;omega
 |some A=>
  obtain⟨b,off,C⟩:=A
  have:=(y _ rfl).resolve_left (by omega)
  simp only at this;subst this;have v:∀k g,k<f.length→J (k+1) g→∃x,f[k]?=some x∧g.cell? ⟨b,off+k*3,none⟩=some (.int .i64 x.1)∧g.cell? ⟨b,off+k*3+1,none⟩=some (.int .i64 x.2.1)∧g.cell? ⟨b,off+k*3+2,none⟩=some (.int .i64 x.2.2.1):=by
   intro k g p d;obtain⟨-,a,hv⟩:=u _ _ d;obtain⟨D,P,F,R,e,G,H,I,t,K,L⟩:=hv.elem rfl (lG p);simp only[Value.slice.injEq,sj]at e;obtain⟨rfl,rfl,rfl⟩:=e;obtain⟨q,r,s,-⟩:=c2G (Sh:=a) t;exact⟨_,lG p,q,r,s⟩
  refine d0F l Bs b off f.length c (fun k=>((f[k]?).getD b4q.dflt).1) (fun k=>((f[k]?).getD b4q.dflt).2.1) (fun k=>((f[k]?).getD b4q.dflt).2.2.1) J E W (fun k g d=>(u k g d).1) i (fun k g p d=>?_) (fun n g N d=>?_) o;obtain⟨x,m,q,r,s⟩:=v k g p d;simp only[m,a27];exact⟨q,r,s⟩;have m:f[n]?=some f[n]:=lG N;simp only[m,a27];refine M n _ _ g m d fun a hv=>?_
  obtain⟨D,P,F,R,e,G,H,I,t,K,L⟩:=hv.elem rfl m;exact(c2G (Sh:=a) t).2.2.2
end Go.Ab
namespace Go.Ab
open IntKind(wrap)
open Go.Proofs
set_option maxRecDepth 100000
set_option linter.unusedVariables false
@[reducible] def QI:Ty:=.int .i64
@[reducible] def QL:Ty:=.list false QI
@[reducible] def QU:Ty:=.int .u64
@[reducible] def QV:Ty:=.int .u8
@[reducible] def QB:Ty:=.list false QV
@[reducible] def LI:Type:=List Int
instance (n:Nat):OfNat Ent n:=⟨.sv n QI⟩
@[reducible] def Qp(i n:Nat):Ent:=.ptr i n []
@[reducible] def Qn(l:a0c):Ex×a0c:=(.normal,l)
@[reducible] def Qe(n:Nat)(l:a0c):Ex×a0c:=(.exit n,l)
@[reducible] def Qr(l:a0c):Ex×a0c:=(.ret,l)
def QH:Hints:=⟨[],[],[]⟩
@[reducible] def Z0:Type:=(Unit ⊕ (Bool×Unit))
@[reducible] def Z1:Type:=(Int×(Int×LI))
@[reducible] def Z2:Type:=(LI×(Int×Int))
@[reducible] def Z3:Type:=((List LI)×Unit)
@[reducible] def Z4:Type:=(LI×(Int×Unit))
@[reducible] def Z5:Type:=(Int×(LI×Unit))
@[reducible] def Z6:Type:=(List (Int×(Int×Unit)))
@[reducible] def Z7:Type:=(Int×(Int×(Int×Unit)))
@[reducible] def Z8:Type:=(Int×(Int×(Bool×Unit)))
@[reducible] def Z9:Type:=(LI×(LI×Int))
@[reducible] def Z10:Type:=(LI×(LI×Unit))
@[reducible] def Z11:Type:=(Int×Z3)
@[reducible] def Z12:Type:=(Int×Z5)
@[reducible] def Z13:Type:=(LI×(Int×(Int×Unit)))
@[reducible] def Z14:Type:=(Int×Z4)
@[reducible] def Z15:Type:=(List Z7)
@[reducible] def Z16:Type:=(LI×(Int×(Bool×Unit)))
@[reducible] def Z17:Type:=(Z5×Unit)
@[reducible] def Z18:Type:=(Z4×Unit)
@[reducible] def Z19:Type:=(Int×Z7)
@[reducible] def Z20:Type:=(Z7×Unit)
@[reducible] def Z21:Type:=(Int×Z8)
@[reducible] def Z22:Type:=(List Z11)
@[reducible] def Z23:Type:=(Int×Z10)
@[reducible] def Z24:Type:=(LI×Z5)
@[reducible] def Z25:Type:=((List LI)×(Int×(Int×Unit)))
@[reducible] def Z26:Type:=(Int×Z11)
@[reducible] def Z27:Type:=(Int×Z12)
@[reducible] def Z28:Type:=(Int×Z13)
@[reducible] def Z29:Type:=(Z13×Int)
@[reducible] def Z30:Type:=(LI×Z7)
@[reducible] def Z31:Type:=(Z11×Unit)
@[reducible] def Z32:Type:=(Z13×Unit)
@[reducible] def Z33:Type:=(LI×Z8)
@[reducible] def Z34:Type:=(Int×Z18)
@[reducible] def Z35:Type:=(Int×Z19)
@[reducible] def Z36:Type:=(Int×Z20)
@[reducible] def Z37:Type:=(Bool×Z20)
@[reducible] def Z38:Type:=(LI×Z10)
@[reducible] def Z39:Type:=(LI×Z12)
@[reducible] def Z40:Type:=(LI×Z13)
@[reducible] def Z41:Type:=(Int×Z23)
@[reducible] def Z42:Type:=(Int×Z25)
@[reducible] def Z43:Type:=(Z22×Unit)
@[reducible] def Z44:Type:=(Int×Z27)
@[reducible] def Z45:Type:=((LI×Unit) ⊕ Z5)
@[reducible] def Z46:Type:=(Z5×(LI×Unit))
@[reducible] def Z47:Type:=(Int×Z28)
@[reducible] def Z48:Type:=(LI×Z16)
@[reducible] def Z49:Type:=(Z23×Unit)
@[reducible] def Z50:Type:=(Int×Z31)
@[reducible] def Z51:Type:=(Int×Z30)
@[reducible] def Z52:Type:=(Int×Z32)
@[reducible] def Z53:Type:=(Int×Z34)
@[reducible] def Z54:Type:=(Int×Z35)
@[reducible] def Z55:Type:=(Int×Z36)
@[reducible] def Z56:Type:=(Bool×Z32)
@[reducible] def Z57:Type:=(Int×Z37)
@[reducible] def Z58:Type:=(Int×Z38)
@[reducible] def Z59:Type:=(Int×Z39)
@[reducible] def Z60:Type:=(LI×Z28)
@[reducible] def Z61:Type:=(LI×Z30)
@[reducible] def Z62:Type:=(LI×Z31)
@[reducible] def Z63:Type:=(LI×Z32)
@[reducible] def Z64:Type:=(Int×Z49)
@[reducible] def Z65:Type:=(Int×Z50)
@[reducible] def Z66:Type:=(Z28 ⊕ (Int×Unit))
@[reducible] def Z67:Type:=(Int×Z54)
@[reducible] def Z68:Type:=(Int×Z52)
@[reducible] def Z69:Type:=(Int×Z56)
@[reducible] def Z70:Type:=(Z13 ⊕ Z0)
@[reducible] def Z71:Type:=(LI×Z41)
@[reducible] def Z72:Type:=(Int×Z58)
@[reducible] def Z73:Type:=(LI×Z44)
@[reducible] def Z74:Type:=(Int×Z59)
@[reducible] def Z75:Type:=(LI×Z46)
@[reducible] def Z76:Type:=(LI×Z47)
@[reducible] def Z77:Type:=(LI×Z49)
@[reducible] def Z78:Type:=(Int×Z62)
@[reducible] def Z79:Type:=(Int×Z63)
@[reducible] def Z80:Type:=(Int×Z64)
@[reducible] def Z81:Type:=(LI×Z53)
@[reducible] def Z82:Type:=(LI×Z55)
@[reducible] def Z83:Type:=(Z5×Z17)
@[reducible] def Z84:Type:=(Z4×Z17)
@[reducible] def Z85:Type:=(Int×Z67)
@[reducible] def Z86:Type:=(Int×Z68)
@[reducible] def Z87:Type:=(Z7×Z20)
@[reducible] def Z88:Type:=(Int×Z71)
@[reducible] def Z89:Type:=(Int×Z77)
@[reducible] def Z90:Type:=(Int×Z78)
@[reducible] def Z91:Type:=(Int×Z79)
@[reducible] def Z92:Type:=(Int×Z80)
@[reducible] def Z93:Type:=(Int×Z81)
@[reducible] def Z94:Type:=(Int×Z85)
@[reducible] def Z95:Type:=(Int×Z91)
@[reducible] def Z96:Type:=(LI×Z84)
@[reducible] def Z97:Type:=(Z15×Z31)
@[reducible] def Z98:Type:=(Int×Z96)
@[reducible] def Z99:Type:=(Z7×Z61)
@[reducible] def d6F:Type:=(Z6×Z75)
@[reducible] def d6G:Type:=(Int×Z98)
@[reducible] def c6J:Type:=(Z5×Z83)
@[reducible] def c6K:Type:=(Z99×Unit)
@[reducible] def d6H:Type:=(LI×d6F)
@[reducible] def c2H:Type:=(LI×d6G)
@[reducible] def d6I:Type:=(LI×d6H)
@[reducible] def d6J:Type:=(Int×d6I)
@[reducible] def d6K:Type:=(Int×d6J)
@[reducible] def d6L:Type:=(Int×d6K)
@[reducible] def d6M:Type:=(Int×d6L)
@[reducible] def a1D:Type:=(Int×d6M)
@[reducible] def b1c:Type:=(List a1D)
@[reducible] def b3F:Type:=(a1D×Int)
@[reducible] def b4r:Type:=(a1D×Unit)
@[reducible] def d0G:Type:=(b1c×Unit)
@[reducible] def d3O:Type:=(Bool×b4r)
@[reducible] def c2I:Type:=(Int×d3O)
@[reducible] def c6L:Type:=(b1c×(LI×Unit))
@[reducible] def d6N:Type:=(Z4×b4r)
@[reducible] def c6M:Type:=(Int×d6N)
@[reducible] def d3P:Type:=(Z13×b4r)
@[reducible] def c6N:Type:=(a1D×Z32)
@[reducible] def d6O:Type:=(Z15×d0G)
@[reducible] def b3G:Type:=(Int×c6M)
@[reducible] def d0H:Type:=(Int×d3P)
@[reducible] def b9x:Type:=(Int×d0H)
@[reducible] def d6P:Type:=(Z7×d6O)
@[reducible] def d6Q:Type:=(Int×d6P)
@[reducible] def a2B:Type:=(Int×d6Q)
@[reducible] def b5G:Type:=(List a2B)
@[reducible] def b3H:Type:=(a2B×Unit)
@[reducible] def d6R:Type:=(b5G×Unit)
@[reducible] def c2J:Type:=(Z11×b3H)
@[reducible] def d6S:Type:=(Z6×d6R)
@[reducible] def b9y:Type:=(a2B×Z32)
@[reducible] def d6T:Type:=(Int×d6S)
@[reducible] def d6U:Type:=(Int×d6T)
@[reducible] def b2e:Type:=(a1D×b4r)
@[reducible] def d6V:Type:=(Int×b2e)
@[reducible] def c6O:Type:=(Int×d6V)
@[reducible] def a9J:Type:=(Z7×d6U)
@[reducible] def b2H:Type:=(a9J×Unit)
@[reducible] def d6W:Type:=(Z22×b2H)
@[reducible] def c6P:Type:=((List LI)×d6W)
@[reducible] def Q0:Ty:=(.pair QI .unit)
@[reducible] def Q1:Ty:=(.pair (.list true QI) .unit)
@[reducible] def Q2:Ty:=(.pair QL .unit)
@[reducible] def Q3:Ty:=(.pair QI Q0)
@[reducible] def Q4:Ty:=(.pair QU Q0)
@[reducible] def Q5:Ty:=(.pair (.list true (.list true QI)) .unit)
@[reducible] def Q6:Ty:=(.pair (.list false QL) .unit)
@[reducible] def Q7:Ty:=(.pair (.list true QV) Q0)
@[reducible] def Q8:Ty:=(.pair QI Q1)
@[reducible] def Q9:Ty:=(.pair QI Q2)
@[reducible] def Q10:Ty:=(.pair QI Q3)
@[reducible] def Q11:Ty:=(.pair QI Q4)
@[reducible] def Q12:Ty:=(.pair (.list true QI) Q1)
@[reducible] def Q13:Ty:=(.pair QI Q6)
@[reducible] def Q14:Ty:=(.pair QB Q3)
@[reducible] def Q15:Ty:=(.pair QI Q12)
@[reducible] def Q16:Ty:=(.pair (.list true QI) Q11)
@[reducible] def Q17:Ty:=(.pair QL Q11)
@[reducible] def Q18:Ty:=(.pair Q9 Q2)
@[reducible] def Q19:Ty:=(.pair (.list true QI) Q16)
@[reducible] def Q20:Ty:=(.pair QL Q17)
@[reducible] def Q21:Ty:=(.pair (.nl QI) Q18)
@[reducible] def Q22:Ty:=(.pair QL Q18)
@[reducible] def Q23:Ty:=(.pair (.list true Q3) Q21)
@[reducible] def Q24:Ty:=(.pair Q10 Q19)
@[reducible] def Q25:Ty:=(.pair Q10 Q20)
@[reducible] def Q26:Ty:=(.pair (.list false Q3) Q22)
@[reducible] def Q27:Ty:=(.pair (.arr 3 QI) Q23)
@[reducible] def Q28:Ty:=(.pair (.arr 3 QI) Q26)
@[reducible] def Q29:Ty:=(.pair (.list true QI) Q27)
@[reducible] def Q30:Ty:=(.pair QL Q28)
@[reducible] def Q31:Ty:=(.pair QI Q29)
@[reducible] def Q32:Ty:=(.pair QI Q30)
@[reducible] def Q33:Ty:=(.pair QI Q31)
@[reducible] def Q34:Ty:=(.pair QI Q32)
@[reducible] def Q35:Ty:=(.pair QI Q33)
@[reducible] def Q36:Ty:=(.pair QI Q34)
@[reducible] def Q37:Ty:=(.pair QI Q35)
@[reducible] def Q38:Ty:=(.pair QI Q36)
@[reducible] def Q39:Ty:=(.pair QI Q37)
@[reducible] def Q40:Ty:=(.pair QI Q38)
@[reducible] def Q41:Ty:=(.pair (.nl Q40) .unit)
@[reducible] def Q42:Ty:=(.pair (.list true Q40) .unit)
@[reducible] def Q43:Ty:=(.pair (.list false Q40) .unit)
@[reducible] def Q44:Ty:=(.pair (.nl Q10) Q41)
@[reducible] def Q45:Ty:=(.pair (.list true Q10) Q41)
@[reducible] def Q46:Ty:=(.pair (.list false Q10) Q42)
@[reducible] def Q47:Ty:=(.pair (.list false Q10) Q43)
@[reducible] def Q48:Ty:=(.pair Q10 Q44)
@[reducible] def Q49:Ty:=(.pair Q10 Q45)
@[reducible] def Q50:Ty:=(.pair Q10 Q46)
@[reducible] def Q51:Ty:=(.pair Q10 Q47)
@[reducible] def Q52:Ty:=(.pair QI Q48)
@[reducible] def Q53:Ty:=(.pair QI Q49)
@[reducible] def Q54:Ty:=(.pair QI Q50)
@[reducible] def Q55:Ty:=(.pair QI Q51)
@[reducible] def Q56:Ty:=(.pair QI Q53)
@[reducible] def Q57:Ty:=(.pair QI Q54)
@[reducible] def Q58:Ty:=(.pair QI Q55)
@[reducible] def Q59:Ty:=(.pair (.nl Q58) .unit)
@[reducible] def Q60:Ty:=(.pair (.list true Q58) .unit)
@[reducible] def Q61:Ty:=(.pair (.list false Q58) .unit)
@[reducible] def Q62:Ty:=(.pair (.nl Q3) Q59)
@[reducible] def Q63:Ty:=(.pair (.list true Q3) Q60)
@[reducible] def Q64:Ty:=(.pair (.list false Q3) Q61)
@[reducible] def Q65:Ty:=(.pair QU Q62)
@[reducible] def Q66:Ty:=(.pair QU Q63)
@[reducible] def Q67:Ty:=(.pair QU Q64)
@[reducible] def Q68:Ty:=(.pair QI Q65)
@[reducible] def Q69:Ty:=(.pair QI Q66)
@[reducible] def Q70:Ty:=(.pair QI Q67)
@[reducible] def Q71:Ty:=(.pair Q10 Q69)
@[reducible] def Q72:Ty:=(.pair Q10 Q70)
def c2B:List (Nat×Ty):=[(2,.int .i64),(3,.int .i64),(5,.int .u8),(9,.str),(22,.list false QL),(24,.pair QI Q6),(29,.pair QI Q3),(30,.list false Q10),(31,.list false Q40),(33,.pair QI Q55),(34,.int .i64),(37,.list false QV),(46,.list false QI),(47,.arr 3 QI),(48,.list false Q3),(50,.pair QI Q2),(52,.pair QI Q38),(74,.int .u64),(75,.list false Q3),(76,.list false Q58),(78,.pair Q10 Q70),(93,.pair QB Q0),(99,.int .u16),(103,.int .u64),(136,.pair QI Q0),(139,.pair Q10 Q20),(144,.list false QB),(145,.list false Q13),(153,.pair QI Q3),(161,.pair QI Q0),(164,.list false QU),(174,.pair QB Q3),(224,.int .u32),(233,.pair QB Q3),(243,.arr 64 QV),(274,.list false (.arr 3 QI)),(283,.pair QI (.pair QL Q2))]
def T0:Nat→Option Ty:=fun t=>find c2B t
def c6Q:List Nat:=[29,47]
def d6X:Nat→Bool:=fun t=>c6Q.contains t
def c2K:List Nat:=[]
def d6Y:Nat→Bool:=fun t=>c2K.contains t
def b1u:(List Int):=[0,1,56,2,57,49,28,3,61,58,42,50,38,29,17,4,62,47,59,36,45,43,51,22,53,39,33,30,24,18,12,5,63,55,48,27,60,41,37,16,46,35,44,21,52,32,23,11,54,26,40,15,34,20,31,10,25,14,19,9,13,8,7,6]
def G0:Nat→Option ((t:Ty)×t.den):=fun g=>find ([(0,⟨.arr 64 QV,b1u⟩)]:List (Nat×((t:Ty)×t.den))) g
@[reducible] def b2I(a:List (Nat×FSem))(b:List (Nat×Ty))(c d:Nat):Cx:=⟨d6Y,d6X,T0,fun f=>find a f,fun n=>find b n,c.testBit,d.testBit,G0⟩
def b3h(x:(LI×LI)):Option Bool:=some ((b2s x.1)==(b2s x.2))
def c8H:FSem:=⟨[.v QB,.v QB],[.v .bool],b3h⟩
def a4H(s:(LI×Z4)):Option ((LI×Z4) ⊕ Z0):=(fun(a:Int)=>cond (decide (a<(s.1.length:Int))) ((m0k s.1 a).bind fun x1=>(m0k s.2.1 a).bind fun x2=>cond (x1 != x2) (some (.inr (Sum.inr ((false,()))))) (some (.inl (s.1,s.2.1,wrap .i64 (a+1),())))) (some (.inr (Sum.inl ())))) s.2.2.1
def a9y(x:(LI×LI)):Option Bool:=cond ((x.1.length:Int) != (x.2.length:Int)) (some false) ((y0s a4H (x.1,x.2,0,())).bind fun w3=>match w3 with |.inl a4=>some true |.inr b5=>some b5.1)
def c1J:FSem:=⟨[.v QL,.v QL],[.v .bool],a9y⟩
def H25:Hints:=⟨[(58,[.sv 0 QL,.sv 1 QL,5],[Qe 0 [],Qr [.sv 4 .bool]])],[],[(6,[.v,.v,.v,.v,.v,.v,.v,.v,.x])]⟩
def a5k(x:Int):Option Bool:=cond (decide (4≤x)) (some (decide (x≤24))) (some false)
def c1K:FSem:=⟨[.v QI],[.v .bool],a5k⟩
def a1w(x:Z7):Option Bool:=cond (decide (1≤x.1)) (cond (decide (x.1≤1048576)) (cond (decide (1≤x.2.1)) (cond (decide (x.2.1≤8)) ((a5k x.2.2.1).bind fun y1=>some y1) (some false)) (some false)) (some false)) (some false)
def c1L:FSem:=⟨[.v Q10],[.v .bool],a1w⟩
def a3J(x:Z7):Option Bool:=(a1w x).bind fun y1=>cond y1 (cond (x.2.2.1==8) (some true) (cond (x.2.2.1==16) (some true) (some (x.2.2.1==24)))) (some false)
def b8c:FSem:=⟨[.v Q10],[.v .bool],a3J⟩
def a8g(x:Int):Option Int:=(show Option (Int×Bool×Unit)from cond (decide (x<1)) (some (x,true,())) (some (x,decide (x > 31),()))).bind fun z1=>cond z1.2.1 (some 0) (cond (decide ((wrap .i64 (z1.1-1))<0)) none (some (A0n .i64 (-1) (wrap .i64 (z1.1-1)))))
def c2L:FSem:=⟨[.v QI],[.v QI],a8g⟩
def d6Z:Hints:=⟨[],[(6,[Qn [0,.sv 8 .bool]])],[]⟩
def a3T(x:Int):Option Int:=(show Option (Int×Bool×Unit)from cond (decide (x<1)) (some (x,true,())) (some (x,decide (x > 31),()))).bind fun z1=>cond z1.2.1 (some 0) (cond (decide ((wrap .i64 (z1.1-1))<0)) none (some (wrap .i64 ((A0n .i64 1 (wrap .i64 (z1.1-1)))-1))))
def c1M:FSem:=⟨[.v QI],[.v QI],a3T⟩
def d7a:Hints:=⟨[],[(6,[Qn [0,.sv 8 .bool]])],[]⟩
def a1j(x:(Int×Int)):Option Bool:=cond (decide (x.2≥1)) (cond (decide (x.2≤31)) ((a8g x.2).bind fun y1=>cond (decide (y1≤x.1)) ((a3T x.2).bind fun y2=>some (decide (x.1≤y2))) (some false)) (some false)) (some false)
def c1N:FSem:=⟨[.v QI,.v QI],[.v .bool],a1j⟩
def a1M(s:(Int×Int×Int×Z73)):Option ((Int×Int×Int×Z73) ⊕ Z74):=(fun(a:Int)(b:LI)(c d e f:Int)(g:LI)=>cond (decide (f<e)) (cond (decide ((wrap .i64 (8*f))<0)) none (cond (lim ((a00 g)+1)) (some (.inl (s.1,s.2.1,a,b,c,d,e,wrap .i64 (f+1),a02 g [wrap .u8 (bits .i64 .and (A0o .i64 a (wrap .i64 (8*f))) 255)],()))) none)) (some (.inr (s.1,s.2.1,b,c,d,g,())))) s.2.2.1 s.2.2.2.1 s.2.2.2.2.1 s.2.2.2.2.2.1 s.2.2.2.2.2.2.1 s.2.2.2.2.2.2.2.1 s.2.2.2.2.2.2.2.2.1
def a1E(s:Z74):Option (Z74 ⊕ Z45):=(fun(a:LI)(b c:Int)(d:LI)=>cond (decide (c<b)) ((m0k a c).bind fun x2=>(a1j (x2,s.1)).bind fun y3=>cond (!y3) (some (.inr (Sum.inr ((6,[],()))))) ((y0s a1M (s.1,s.2.1,x2,a,b,c,s.2.1,0,d,())).bind fun w4=>some (.inl (w4.1,w4.2.1,w4.2.2.1,w4.2.2.2.1,wrap .i64 (w4.2.2.2.2.1+1),w4.2.2.2.2.2.1,())))) (some (.inr (Sum.inl (d,()))))) s.2.2.1 s.2.2.2.1 s.2.2.2.2.1 s.2.2.2.2.2.1
def a3U(x:(LI×Int)):Option (LI×Int):=(show Option Z16 from cond (decide (x.2<4)) (some (x.1,x.2,true,())) (some (x.1,x.2,decide (x.2 > 24),()))).bind fun z1=>cond z1.2.2.1 (some ([],1)) ((y0s a1E (z1.2.1,wrap .i64 (a07 (wrap .i64 (z1.2.1+7)) 8),z1.1,(z1.1.length:Int),0,[],())).bind fun w5=>match w5 with |.inl a6=>some (a6.1,0) |.inr b7=>some (b7.2.1,b7.1))
def c1O:FSem:=⟨[.v QL,.v QI],[.o QV,.v QI],a3U⟩
def d7b:Hints:=⟨[(250,[1,6,.sv 20 QL,21,22,.own 7 7 QV],[Qe 0 [.own 7 7 QV],Qr [5,.own 4 4 QV]]),(128206,[1,6,9,.sv 20 QL,21,22,30,31,.own 7 7 QV],[Qe 2 [1,6,.sv 20 QL,21,22,.own 7 7 QV]])],[(6,[Qn [.sv 0 QL,1,.sv 16 .bool]])],[]⟩
def a2Z(s:Z39):Option (Z39 ⊕ (LI×Unit)):=(fun(a:Int)(b:LI)=>cond (decide (a<s.2.1)) ((m0k s.1 a).bind fun x2=>cond (lim ((a00 b)+1)) (some (.inl (s.1,s.2.1,wrap .i64 (a+1),a02 b [wrap .u8 (wrap .i64 (x2+128))],()))) none) (some (.inr (b,())))) s.2.2.1 s.2.2.2.1
def a6N(x:(LI×Int)):Option (LI×Int):=cond (x.2 != 8) ((a3U (x.1,x.2)).bind fun y1=>some (y1.1,y1.2)) (cond ((decide (0≤(x.1.length:Int)))&&(lim (a01 (x.1.length:Int)))) ((y0s a2Z (x.1,(x.1.length:Int),0,[],())).bind fun w3=>some (w3.1,0)) none)
def b7s:FSem:=⟨[.v QL,.v QI],[.o QV,.v QI],a6N⟩
def H88:Hints:=⟨[(122,[.sv 19 QL,20,21,.own 6 6 QV],[Qe 0 [.own 6 6 QV]])],[],[]⟩
def a1G(x:Int):Option Int:=some (v0s (v0r x 0) 8)
def c1P:FSem:=⟨[.v QI],[.v QI],a1G⟩
def a1l(s:Z27):Option (Z27 ⊕ (LI×Unit)):=cond (decide (s.2.2.1<s.2.1)) (cond (lim ((a00 s.2.2.2.1)+1)) (some (.inl (wrap .u64 (a07 s.1 256),s.2.1,wrap .i64 (s.2.2.1+1),a02 s.2.2.2.1 [wrap .u8 (a06 s.1 256)],()))) none) (some (.inr (s.2.2.2.1,())))
def a0U(x:(Int×Int)):Option LI:=(a1G x.2).bind fun y1=>(y0s a1l (x.1,y1,0,[],())).bind fun w2=>some w2.1
def c1Q:FSem:=⟨[.v QU,.v QI],[.o QV],a0U⟩
def H91:Hints:=⟨[(58,[.sv 0 QU,7,8,.own 5 5 QV],[Qe 0 [.own 5 5 QV]])],[],[]⟩
def a4I(x:(LI×LI)):Option LI:=cond (lim (a00 x.1)) ((a0U (wrap .u64 (x.2.length:Int),4)).bind fun y1=>cond (lim ((a00 x.1)+(a00 y1))) (cond (lim ((a00 (a02 x.1 y1))+(a00 x.2))) ((show Option (LI×Unit)from cond ((a06 (x.2.length:Int) 2) != 0) (cond (lim ((a00 (a02 (a02 x.1 y1) x.2))+1)) (some (a02 (a02 (a02 x.1 y1) x.2) [0],())) none) (some (a02 (a02 x.1 y1) x.2,()))).bind fun z2=>some z2.1) none) none) none
def c2M:FSem:=⟨[.v .str,.v QB],[.o QV],a4I⟩
def H89:Hints:=⟨[],[(15,[Qn [.own 5 5 QV]])],[]⟩
def a5q(x:Z7):Option LI:=(a0U (1,2)).bind fun y1=>cond (lim (a00 y1)) ((a0U (wrap .u64 x.2.1,2)).bind fun y2=>cond (lim ((a00 y1)+(a00 y2))) ((a0U (wrap .u64 x.1,4)).bind fun y3=>cond (lim ((a00 (a02 y1 y2))+(a00 y3))) ((a0U (wrap .u64 (wrap .i64 (x.1*(wrap .i64 (a07 (wrap .i64 (x.2.1*x.2.2.1)) 8)))),4)).bind fun y4=>cond (lim ((a00 (a02 (a02 y1 y2) y3))+(a00 y4))) ((a0U (wrap .u64 (wrap .i64 (a07 (wrap .i64 (x.2.1*x.2.2.1)) 8)),2)).bind fun y5=>cond (lim ((a00 (a02 (a02 (a02 y1 y2) y3) y4))+(a00 y5))) ((a0U (wrap .u64 x.2.2.1,2)).bind fun y6=>cond (lim ((a00 (a02 (a02 (a02 (a02 y1 y2) y3) y4) y5))+(a00 y6))) (some (a02 (a02 (a02 (a02 (a02 y1 y2) y3) y4) y5) y6)) none) none) none) none) none) none
def b5H:FSem:=⟨[.v Q10],[.o QV],a5q⟩
def a1R(s:(LI×Z82)):Option ((LI×Z82) ⊕ ((LI×Z20) ⊕ Z5)):=(fun(a b:Int)(c:Z7)=>cond (decide (b<a)) ((m0k s.2.1 b).bind fun x2=>(a1j (x2,c.2.2.1)).bind fun y3=>cond (!y3) (some (.inr (Sum.inr ((6,[],()))))) (some (.inl (s.1,s.2.1,a,wrap .i64 (b+1),c,())))) (some (.inr (Sum.inl (s.1,c,()))))) s.2.2.1 s.2.2.2.1 s.2.2.2.2.1
def a4J(x:(Z7×LI)):Option (LI×Int):=(a3J x.1).bind fun y1=>cond (!y1) (some ([],1)) (cond (x.1.2.1==0) none (cond ((a06 (x.2.length:Int) x.1.2.1) != 0) (some ([],3)) (cond (x.1.2.1==0) none (cond (decide ((wrap .i64 (a07 (x.2.length:Int) x.1.2.1)) > 4194304)) (some ([],4)) ((y0s a1R (x.2,x.2,(x.2.length:Int),0,x.1,())).bind fun w4=>match w4 with |.inl a5=>((a6N (a5.1,a5.2.1.2.2.1)).bind fun y7=>cond (y7.2 != 0) (some ([],y7.2)) ((a5q a5.2.1).bind fun y8=>(a4I ([102,109,116,32],y8)).bind fun y9=>cond (lim (4+(a00 y9))) ((a4I ([100,97,116,97],y7.1)).bind fun y10=>cond (lim ((a00 (a02 [87,65,86,69] y9))+(a00 y10))) ((a0U (wrap .u64 ((a00 (a02 (a02 [87,65,86,69] y9) y10):Nat):Int),4)).bind fun y11=>cond (lim (4+(a00 y11))) (cond (lim ((a00 (a02 [82,73,70,70] y11))+(a00 (a02 (a02 [87,65,86,69] y9) y10)))) (some (a02 (a02 [82,73,70,70] y11) (a02 (a02 [87,65,86,69] y9) y10),0)) none) none) none) none)) |.inr b6=>some (b6.2.1,b6.1))))))
def c2N:FSem:=⟨[.v Q10,.v QL],[.o QV,.v QI],a4J⟩
def H31:Hints:=⟨[(250,[.sv 1 QL,.sv 27 QL,28,29,.vp 2 Q10],[Qe 0 [.sv 1 QL,.vp 2 Q10],Qr [5,.own 4 4 QV]])],[],[]⟩
def a3l(x:LI):Option Z13:=cond (lim (a00 x)) (some (x,0,0,())) none
def c4U:FSem:=⟨[.v QB],[.b Q14],a3l⟩
def a1F(x:Z13):Option Z28:=some (wrap .i64 ((x.1.length:Int)-x.2.1),x)
def b5y:FSem:=⟨[.r false (.b Q14)],[.v QI],a1F⟩
def d7c:Hints:=⟨[],[],[(1,[.p,.p,.q,.q,.v,.p,.p,.q,.q,.x,.x])]⟩
def a1Q(x:Z29):Option Z40:=cond (x.1.2.2.1 != 0) (some ([],x.1)) ((a1F x.1).bind fun y1=>cond (decide ((v0r x.2 0) > y1.1)) (some ([],y1.2.1,y1.2.2.1,3,y1.2.2.2.2)) (cond ((decide (0≤(wrap .i64 (y1.2.2.1+(v0r x.2 0)))))&&(decide ((wrap .i64 (y1.2.2.1+(v0r x.2 0)))≤(y1.2.1.length:Int)))) (cond ((decide (0≤y1.2.2.1))&&(decide (y1.2.2.1≤((a01 (wrap .i64 (y1.2.2.1+(v0r x.2 0))):Nat):Int)))) (cond (lim (a00 (a08 (a01 y1.2.2.1) (a05 (a01 (wrap .i64 (y1.2.2.1+(v0r x.2 0)))) y1.2.1)))) (some (a08 (a01 y1.2.2.1) (a05 (a01 (wrap .i64 (y1.2.2.1+(v0r x.2 0)))) y1.2.1),y1.2.1,wrap .i64 (y1.2.2.1+(v0r x.2 0)),y1.2.2.2)) none) none) none))
def b5z:FSem:=⟨[.r false (.b Q14),.v QI],[.o QV],a1Q⟩
def d7d:Hints:=⟨[],[],[(7,[.p,.p,.q,.q,.p,.p,.q,.q,.p,.p,.q,.q,.v,.v,.x,.x,.x])]⟩
def a2i(s:Z95):Option (Z95 ⊕ Z52):=(fun(a:Int)(b:LI)(c:Z13)=>cond (decide (a<s.2.1)) (cond ((decide (0≤a))&&(decide (a<(b.length:Int)))) (cond (decide ((wrap .i64 (8*a))<0)) none (some (.inl (bits .u64 .or s.1 (A0n .u64 (wrap .u64 (a04 b (a01 a) 0)) (wrap .i64 (8*a))),s.2.1,wrap .i64 (a+1),b,c,())))) none) (some (.inr (s.1,c,())))) s.2.2.1 s.2.2.2.1 s.2.2.2.2.1
def a6O(x:Z29):Option Z28:=(a1G x.2).bind fun y1=>(a1Q (x.1,y1)).bind fun y2=>(y0s a2i (0,(y2.1.length:Int),0,y2.1,y2.2,())).bind fun w3=>some (w3.1,w3.2.1)
def b4s:FSem:=⟨[.r false (.b Q14),.v QI],[.v QU],a6O⟩
def d7e:Hints:=⟨[(58,[.sv 5 QU,12,13,.own 11 1011 QV,.box pinned Q14],[Qe 0 [.sv 5 QU,.box pinned Q14]])],[],[]⟩
def a1x(x:LI):Option Int:=(a3l x).bind fun y1=>(a6O (y1,(x.length:Int))).bind fun y2=>some (wrap .i64 y2.1)
def c1R:FSem:=⟨[.v QB],[.v QI],a1x⟩
def a5r(x:LI):Option (Z7×Bool):=(show Option (LI×Z37)from cond (decide ((x.length:Int)<16)) (some (x,true,(0,0,0,()),())) (cond (decide (2≤(x.length:Int))) ((a1x (a05 2 x)).bind fun y1=>some (x,y1 != 1,(0,0,0,()),())) none)).bind fun z2=>cond z2.2.1 (some ((0,0,0,()),false)) (cond (decide (8≤(z2.1.length:Int))) ((a1x (a08 4 (a05 8 z2.1))).bind fun y3=>cond (decide (4≤(z2.1.length:Int))) ((a1x (a08 2 (a05 4 z2.1))).bind fun y4=>cond (decide (16≤(z2.1.length:Int))) ((a1x (a08 14 (a05 16 z2.1))).bind fun y5=>(a3J (y3,y4,y5,())).bind fun y6=>cond (!y6) (some ((0,0,0,()),false)) ((show Option (Bool×Z87)from cond (decide (12≤(z2.1.length:Int))) ((a1x (a08 8 (a05 12 z2.1))).bind fun y7=>cond (y7 != (wrap .i64 (y3*(wrap .i64 (a07 (wrap .i64 (y4*y5)) 8))))) (some (true,z2.2.2.1,(y3,y4,y5,()),())) (cond (decide (14≤(z2.1.length:Int))) ((a1x (a08 12 (a05 14 z2.1))).bind fun y8=>some (y8 != (wrap .i64 (a07 (wrap .i64 (y4*y5)) 8)),z2.2.2.1,(y3,y4,y5,()),())) none)) none).bind fun z9=>cond z9.1 (some ((0,0,0,()),false)) (some (z9.2.2.1,true)))) none) none) none)
def b5I:FSem:=⟨[.v QB],[.v Q10,.v .bool],a5r⟩
def H93:Hints:=⟨[],[(6,[Qn [.sv 0 QB,.sv 14 .bool,.box 2 Q10,Qp 2 2]]),(126,[Qn [.sv 50 .bool,.box 2 Q10,.box 4 Q10,Qp 2 2,Qp 4 4]])],[(3,[.v,.v,.v,.v,.v,.v,.v,.v,.v,.v,.q,.x]),(7,[.v,.v,.v,.q,.q,.v,.v,.x,.x,.v,.v,.v,.v,.x,.x])]⟩
def a3v(s:(LI×(Int×Int×Z44))):Option ((LI×(Int×Int×Z44)) ⊕ Z73):=(fun(a b c d e:Int)(f:LI)=>cond (decide (e<d)) ((m0k s.1 (wrap .i64 (b+e))).bind fun x2=>cond (decide ((wrap .i64 (8*e))<0)) none (some (.inl (s.1,s.2.1,a,b,bits .i64 .or c (A0n .i64 (wrap .i64 x2) (wrap .i64 (8*e))),d,wrap .i64 (e+1),f,())))) (some (.inr (s.1,s.2.1,a,b,c,f,())))) s.2.2.1 s.2.2.2.1 s.2.2.2.2.1 s.2.2.2.2.2.1 s.2.2.2.2.2.2.1 s.2.2.2.2.2.2.2.1
def a3w(s:(LI×Z27)):Option ((LI×Z27) ⊕ Z45):=cond (decide (s.2.2.2.1<(s.1.length:Int))) ((y0s a3v (s.1,s.2.1,s.2.2.1,s.2.2.2.1,0,s.2.2.1,0,s.2.2.2.2.1,())).bind fun w3=>(show Option Z73 from(a3T (wrap .i64 (8*w3.2.2.1))).bind fun y4=>cond (decide (w3.2.2.2.2.1 > y4)) (cond (decide ((wrap .i64 (8*w3.2.2.1))<0)) none (some (w3.1,w3.2.1,w3.2.2.1,w3.2.2.2.1,wrap .i64 (w3.2.2.2.2.1-(A0n .i64 1 (wrap .i64 (8*w3.2.2.1)))),w3.2.2.2.2.2.1,()))) (some (w3.1,w3.2.1,w3.2.2.1,w3.2.2.2.1,w3.2.2.2.2.1,w3.2.2.2.2.2.1,()))).bind fun z5=>(a1j (z5.2.2.2.2.1,z5.2.1)).bind fun y6=>cond (!y6) (some (.inr (Sum.inr ((6,[],()))))) (cond (lim ((a00 z5.2.2.2.2.2.1)+1)) (some (.inl (z5.1,z5.2.1,z5.2.2.1,wrap .i64 (z5.2.2.2.1+z5.2.2.1),a02 z5.2.2.2.2.2.1 [z5.2.2.2.2.1],()))) none)) (some (.inr (Sum.inl (s.2.2.2.2.1,()))))
def a7R(x:(LI×Int)):Option (LI×Int):=(show Option Z16 from cond (decide (x.2<4)) (some (x.1,x.2,true,())) (some (x.1,x.2,decide (x.2 > 24),()))).bind fun z1=>cond z1.2.2.1 (some ([],1)) (cond ((wrap .i64 (a07 (wrap .i64 (z1.2.1+7)) 8))==0) none (cond ((a06 (z1.1.length:Int) (wrap .i64 (a07 (wrap .i64 (z1.2.1+7)) 8))) != 0) (some ([],3)) ((y0s a3w (z1.1,z1.2.1,wrap .i64 (a07 (wrap .i64 (z1.2.1+7)) 8),0,[],())).bind fun w7=>match w7 with |.inl a8=>some (a8.1,0) |.inr b9=>some (b9.2.1,b9.1))))
def b8d:FSem:=⟨[.v QB,.v QI],[.o QI,.v QI],a7R⟩
def d7f:Hints:=⟨[(506,[.sv 0 QB,1,6,8,.own 7 7 QI],[Qe 0 [.own 7 7 QI],Qr [5,.own 4 4 QI]]),(129610,[.sv 0 QB,1,6,8,9,32,33,.own 7 7 QI],[Qe 2 [.sv 0 QB,1,6,8,9,.own 7 7 QI]])],[(6,[Qn [.sv 0 QB,1,.sv 16 .bool]]),(32403,[Qn [.sv 0 QB,1,6,8,9,.own 7 7 QI]])],[]⟩
def a3a(s:Z39):Option (Z39 ⊕ (LI×Unit)):=(fun(a:Int)(b:LI)=>cond (decide (a<s.2.1)) ((m0k s.1 a).bind fun x2=>cond (lim ((a00 b)+1)) (some (.inl (s.1,s.2.1,wrap .i64 (a+1),a02 b [wrap .i64 ((wrap .i64 x2)-128)],()))) none) (some (.inr (b,())))) s.2.2.1 s.2.2.2.1
def a6P(x:Z30):Option (LI×Int):=(fun(a:LI)(b c:Int)=>cond ((wrap .i64 (a07 (wrap .i64 (b*c)) 8))==0) none (cond ((a06 (a.length:Int) (wrap .i64 (a07 (wrap .i64 (b*c)) 8))) != 0) (some ([],3)) (cond ((wrap .i64 (a07 (wrap .i64 (b*c)) 8))==0) none (cond (decide ((wrap .i64 (a07 (a.length:Int) (wrap .i64 (a07 (wrap .i64 (b*c)) 8)))) > 4194304)) (some ([],4)) (cond (c != 8) ((a7R (a,c)).bind fun y1=>some (y1.1,y1.2)) (cond ((decide (0≤(a.length:Int)))&&(lim (a01 (a.length:Int)))) ((y0s a3a (a,(a.length:Int),0,[],())).bind fun w3=>some (w3.1,0)) none)))))) x.1 x.2.2.1 x.2.2.2.1
def b7t:FSem:=⟨[.v QB,.v Q10],[.o QI,.v QI],a6P⟩
def H94:Hints:=⟨[(1018,[.sv 38 QB,39,40,.own 7 7 QI],[Qe 0 [.own 7 7 QI]])],[],[]⟩
def a7S(s:(LI×(Bool×(Bool×(LI×Z87))))):Option ((LI×(Bool×(Bool×(LI×Z87)))) ⊕ ((LI×(Bool×Bool×Z87)) ⊕ (LI×Z36))):=(fun(a b:Bool)(c:LI)(d e:Z7)=>cond (decide ((c.length:Int) > 0)) (cond (decide ((c.length:Int)<8)) (some (.inr (Sum.inr (([],3,(0,0,0,()),()))))) (cond (decide (8≤(c.length:Int))) ((a1x (a08 4 (a05 8 c))).bind fun y3=>cond (decide ((wrap .i64 ((c.length:Int)-8))<(wrap .i64 (y3+(a06 y3 2))))) (some (.inr (Sum.inr (([],3,(0,0,0,()),()))))) (cond (decide (4≤(c.length:Int))) (cond ((decide (0≤(wrap .i64 (8+y3))))&&(decide ((wrap .i64 (8+y3))≤(c.length:Int)))) (cond (decide (8≤((a01 (wrap .i64 (8+y3)):Nat):Int))) (cond ((decide (0≤(wrap .i64 ((wrap .i64 (8+y3))+(a06 y3 2)))))&&(decide ((wrap .i64 ((wrap .i64 (8+y3))+(a06 y3 2)))≤(c.length:Int)))) (cond ((b2s (a05 4 c))==[102,109,116,32]) (cond a (some (.inr (Sum.inr (([],8,(0,0,0,()),()))))) ((a5r (a08 8 (a05 (a01 (wrap .i64 (8+y3))) c))).bind fun y4=>cond (!y4.2) (some (.inr (Sum.inr (([],2,(0,0,0,()),()))))) (some (.inl (s.1,y4.2,b,a08 (a01 (wrap .i64 ((wrap .i64 (8+y3))+(a06 y3 2)))) (a05 (a00 c) c),d,y4.1,()))))) (cond ((b2s (a05 4 c))==[100,97,116,97]) (cond (!a) (some (.inr (Sum.inr (([],12,(0,0,0,()),()))))) (cond b (some (.inr (Sum.inr (([],8,(0,0,0,()),()))))) ((a6P (a08 8 (a05 (a01 (wrap .i64 (8+y3))) c),e)).bind fun y5=>cond (y5.2 != 0) (some (.inr (Sum.inr (([],y5.2,(0,0,0,()),()))))) (some (.inl (y5.1,a,true,a08 (a01 (wrap .i64 ((wrap .i64 (8+y3))+(a06 y3 2)))) (a05 (a00 c) c),d,e,())))))) (some (.inl (s.1,a,b,a08 (a01 (wrap .i64 ((wrap .i64 (8+y3))+(a06 y3 2)))) (a05 (a00 c) c),d,e,()))))) none) none) none) none)) none)) (some (.inr (Sum.inl (s.1,a,b,d,e,()))))) s.2.1 s.2.2.1 s.2.2.2.1 s.2.2.2.2.1 s.2.2.2.2.2.1
def a6l(x:LI):Option (Z7×(LI×Int)):=cond (decide ((x.length:Int)<12)) (some ((0,0,0,()),[],3)) (cond (decide (8≤(x.length:Int))) ((a1x (a08 4 (a05 8 x))).bind fun y1=>(show Option (LI×Z57)from cond (decide (4≤(x.length:Int))) (cond ((b2s (a05 4 x)) != [82,73,70,70]) (some (x,y1,true,(0,0,0,()),())) (cond (decide (12≤(x.length:Int))) (cond ((b2s (a08 8 (a05 12 x))) != [87,65,86,69]) (some (x,y1,true,(0,0,0,()),())) (some (x,y1,decide (y1<4),(0,0,0,()),()))) none)) none).bind fun z2=>cond z2.2.2.1 (some ((0,0,0,()),[],2)) (cond (decide ((wrap .i64 ((z2.1.length:Int)-8))<z2.2.1)) (some ((0,0,0,()),[],3)) (cond ((decide (0≤(wrap .i64 (8+z2.2.1))))&&(decide ((wrap .i64 (8+z2.2.1))≤(z2.1.length:Int)))) (cond (decide (12≤((a01 (wrap .i64 (8+z2.2.1)):Nat):Int))) ((y0s a7S ([],false,false,a08 12 (a05 (a01 (wrap .i64 (8+z2.2.1))) z2.1),z2.2.2.2.1,(0,0,0,()),())).bind fun w6=>match w6 with |.inl a7=>((show Option (LI×(Bool×Z87))from cond (!a7.2.1) (some (a7.1,true,a7.2.2.2.1,a7.2.2.2.2.1,())) (some (a7.1,!a7.2.2.1,a7.2.2.2.1,a7.2.2.2.2.1,()))).bind fun z9=>cond z9.2.1 (some ((0,0,0,()),[],7)) (some (z9.2.2.2.1,z9.1,0))) |.inr b8=>some (b8.2.2.1,b8.1,b8.2.1)) none) none))) none)
def c2O:FSem:=⟨[.v QB],[.v Q10,.v QL,.v QI],a6l⟩
def H32:Hints:=⟨[(4090,[.sv 7 QL,.sv 8 .bool,.sv 9 .bool,.sv 10 QB,.box 2 Q10,.box 6 Q10,Qp 2 2,Qp 6 6],[Qe 0 [.sv 7 QL,.sv 8 .bool,.sv 9 .bool,.box 2 Q10,.box 6 Q10,Qp 2 2,Qp 6 6],Qr [.sv 3 QL,4,.box 2 Q10,Qp 2 2]])],[(30,[Qn [.sv 0 QB,5,.sv 35 .bool,.box 2 Q10,Qp 2 2]]),(2046,[Qn [.sv 7 QL,.sv 115 .bool,.box 2 Q10,.box 6 Q10,Qp 2 2,Qp 6 6]])],[(18,[.v,.v,.v,.v,.v,.v,.v,.v,.x])]⟩
def b1v(x:Unit):Option Bool:=(a4J ((8000,1,8,()),[(-128),1])).bind fun y1=>(a6l y1.1).bind fun y2=>cond (y1.2==0) (cond (y2.2.2==0) (cond ((y1.1.length:Int)==46) (cond (decide (44≤(y1.1.length:Int))) (cond ((b2s (a08 44 (a05 (a00 y1.1) y1.1)))==[0,129]) (cond (eqT Q10 y2.1 ((8000: Int),(1: Int),(8: Int),())) ((a9y (y2.2.1,[(-128),1])).bind fun y3=>some y3) (some false)) (some false)) none) (some false)) (some false)) (some false)
def c4V:FSem:=⟨[],[.v .bool],b1v⟩
def b4t(x:Int):Option Int:=(show Option (Int×Bool×Unit)from cond (decide (x<1)) (some (x,true,())) (some (x,decide (x > 31),()))).bind fun z1=>cond z1.2.1 (some 0) (cond (decide ((wrap .u64 (wrap .i64 (z1.1-1)))<0)) none (some (A0n .i64 (-1) (wrap .u64 (wrap .i64 (z1.1-1))))))
def d0I:FSem:=⟨[.v QI],[.v QI],b4t⟩
def d7g:Hints:=⟨[],[(6,[Qn [0,.sv 8 .bool]])],[]⟩
def b3i(x:Int):Option Int:=(show Option (Int×Bool×Unit)from cond (decide (x<1)) (some (x,true,())) (some (x,decide (x > 31),()))).bind fun z1=>cond z1.2.1 (some 0) (cond (decide ((wrap .u64 (wrap .i64 (z1.1-1)))<0)) none (some (wrap .i64 ((A0n .i64 1 (wrap .u64 (wrap .i64 (z1.1-1))))-1))))
def c8I:FSem:=⟨[.v QI],[.v QI],b3i⟩
def d7h:Hints:=⟨[],[(6,[Qn [0,.sv 8 .bool]])],[]⟩
def b3j(x:(Int×Int)):Option Bool:=cond (decide (x.2≥1)) (cond (decide (x.2≤31)) ((b4t x.2).bind fun y1=>cond (decide (x.1≥y1)) ((b3i x.2).bind fun y2=>some (decide (x.1≤y2))) (some false)) (some false)) (some false)
def c8J:FSem:=⟨[.v QI,.v QI],[.v .bool],b3j⟩
def b1w(x:Z7):Option Bool:=cond (decide (x.1≥1)) (cond (decide (x.1≤1048576)) (cond (decide (x.2.1≥1)) (cond (decide (x.2.1≤8)) (cond (decide (x.2.2.1≥4)) (some (decide (x.2.2.1≤24))) (some false)) (some false)) (some false)) (some false)) (some false)
def c4W:FSem:=⟨[.v Q10],[.v .bool],b1w⟩
def a7h(s:(LI×Z36)):Option ((LI×Z36) ⊕ Z0):=cond (decide (s.2.1<(s.1.length:Int))) ((m0k s.1 s.2.1).bind fun x3=>(b3j (x3,s.2.2.1.2.2.1)).bind fun y4=>cond (!y4) (some (.inr (Sum.inr ((false,()))))) (some (.inl (s.1,wrap .i64 (s.2.1+1),s.2.2.1,())))) (some (.inr (Sum.inl ())))
def b2i(x:(Z7×(LI×Int))):Option Bool:=(fun(a:Z7)(b:LI)=>(show Option (LI×Z37)from(b1w a).bind fun y1=>cond (!y1) (some (b,true,a,())) (cond (decide ((b.length:Int) > x.2.2)) (some (b,true,a,())) (cond (a.2.1==0) none (some (b,(a06 (b.length:Int) a.2.1) != 0,a,()))))).bind fun z2=>cond z2.2.1 (some false) ((y0s a7h (z2.1,0,z2.2.2.1,())).bind fun w5=>match w5 with |.inl a6=>some true |.inr b7=>some b7.1)) x.1 x.2.1
def c6R:FSem:=⟨[.v Q10,.v QL,.v QI],[.v .bool],b2i⟩
def H85:Hints:=⟨[(58,[.sv 1 QL,7,.vp 3 Q10],[Qe 0 [],Qr [.sv 6 .bool]])],[(6,[Qn [.sv 1 QL,.sv 24 .bool,.vp 3 Q10]])],[(6,[.v,.v,.v,.v,.v,.v,.x,.x])]⟩
def b1x(x:(Z7×(LI×Int))):Option Bool:=(b2i (x.1,x.2.1,x.2.2)).bind fun y1=>cond y1 (cond (x.1.2.2.1==8) (some true) (cond (x.1.2.2.1==16) (some true) (some (x.1.2.2.1==24)))) (some false)
def c4X:FSem:=⟨[.v Q10,.v QL,.v QI],[.v .bool],b1x⟩
def a2C(s:Z13):Option Z70:=(fun(a b:Int)=>cond (decide (b<a)) ((m0k s.1 b).bind fun x1=>(show Option Z33 from cond (decide (x1<(-1073741824))) (some (s.1,a,b,true,())) (some (s.1,a,b,decide (x1≥1073741824),()))).bind fun z2=>cond z2.2.2.2.1 (some (.inr (Sum.inr ((false,()))))) (some (.inl (z2.1,z2.2.1,wrap .i64 (z2.2.2.1+1),())))) (some (.inr (Sum.inl ())))) s.2.1 s.2.2.1
def a2w(x:LI):Option Bool:=(y0s a2C (x,(x.length:Int),0,())).bind fun w3=>match w3 with |.inl a4=>some true |.inr b5=>some b5.1
def c1S:FSem:=⟨[.v QL],[.v .bool],a2w⟩
def H60:Hints:=⟨[(26,[.sv 5 QL,6,7],[Qe 0 [],Qr [.sv 2 .bool]])],[(1689,[Qn [.sv 5 QL,6,7,.sv 16 .bool]])],[]⟩
def a5l(x:Int):Option Bool:=cond (decide ((-1073741824)≤x)) (some (decide (x<1073741824))) (some false)
def c1T:FSem:=⟨[.v QI],[.v .bool],a5l⟩
def a6Q(s:Z59):Option (Z59 ⊕ Z45):=(fun(a:Int)(b:LI)(c d:Int)(e:LI)=>cond (decide (d<c)) ((m0k b d).bind fun x2=>(show Option (Int×(Int×(LI×(Int×(Int×(Bool×(LI×Unit)))))))from(a5l x2).bind fun y3=>cond (!y3) (some (a,x2,b,c,d,true,e,())) (cond (decide (a<0)) none (cond ((A0n .i64 1 a)==0) none (some (a,x2,b,c,d,(a06 x2 (A0n .i64 1 a)) != 0,e,()))))).bind fun z4=>cond z4.2.2.2.2.2.1 (some (.inr (Sum.inr ((6,[],()))))) (cond (decide (z4.1<0)) none (cond (lim ((a00 z4.2.2.2.2.2.2.1)+1)) (some (.inl (z4.1,z4.2.2.1,z4.2.2.2.1,wrap .i64 (z4.2.2.2.2.1+1),a02 z4.2.2.2.2.2.2.1 [A0o .i64 z4.2.1 z4.1],()))) none))) (some (.inr (Sum.inl (e,()))))) s.1 s.2.1 s.2.2.1 s.2.2.2.1 s.2.2.2.2.1
def a7i(x:(LI×Int)):Option (LI×Int):=(show Option Z16 from cond (decide (x.2<0)) (some (x.1,x.2,true,())) (some (x.1,x.2,decide (x.2 > 30),()))).bind fun z1=>cond z1.2.2.1 (some ([],1)) ((y0s a6Q (z1.2.1,z1.1,(z1.1.length:Int),0,[],())).bind fun w5=>match w5 with |.inl a6=>some (a6.1,0) |.inr b7=>some (b7.2.1,b7.1))
def c1U:FSem:=⟨[.v QL,.v QI],[.o QI,.v QI],a7i⟩
def H61:Hints:=⟨[(122,[1,.sv 15 QL,16,17,.own 6 6 QI],[Qe 0 [.own 6 6 QI],Qr [5,.own 4 4 QI]])],[(6,[Qn [.sv 0 QL,1,.sv 14 .bool]]),(15666,[Qn [1,8,.sv 15 QL,16,17,.sv 30 .bool,.own 6 6 QI]])],[]⟩
def a1I(x:Int):Option Int:=cond (x==0) (some 64) ((m0k b1u (A0o .u64 (wrap .u64 ((bits .u64 .and x (wrap .u64 (0-x)))*285870213051353865)) 58)).bind fun x1=>some (wrap .i64 x1))
def a1q:FSem:=⟨[.v QU],[.v QI],a1I⟩
def a9W:Cx:=b2I [] [] 5 0
theorem b6N{ρ:Type}{cx:Cx}{ops:List Oper}:∀(l1 l2:List (Md×Oper)) (Γ:AE) (K:AE→Rs ρ),h0m cx ops (l1++l2) Γ K=h0m cx ops l1 Γ fun Γ'=>h0m cx ops l2 Γ' K
 | [],_,_,_=>rfl
 |(md,o)::l1,l2,Γ,K=>by
  simp only[a20,h0m];congr 1;funext Γ';exact b6N l1 l2 Γ' K
theorem b5J{ρ:Type}{cx:Cx}{H:Hints}{a b:Code}{p:Nat}(h:find H.cuts p=none)(Γ:AE)(K:Ex→AE→Rs ρ):c0n cx H (.seq a b) p Γ K=c0n cx H a (2*p) Γ fun e Γ'=>match e with
   |.normal=>c0n cx H b (2*p+1) Γ' K
   |e=>K e Γ':=by
 simp only[c0n,h];rfl
theorem c2P{ρ:Type}{cx:Cx}{H:Hints}{id:Nat}{ops:Array Oper}{p:Nat}(Γ:AE)(K:Ex→AE→Rs ρ):c0n cx H (.region id ops false) p Γ K=h0m cx ops.toList (ops.toList.map fun o=>(.x,o)) Γ fun Γ'=>K .normal Γ':=by
 simp only[c0n,cF]
def a9Q:Code:=match Tryz.f139.body with
 |some c=>c
 |none=>.skip
def b9z:Code→Code
 |.seq a _=>a
 |c=>c
def c6S:Code→Code
 |.seq _ b=>b
 |c=>c
def c8K:Code→Array Oper
 |.region _ ops _=>ops
 |_=>#[]
def c6o:Code:=c6S (c6S a9Q)
def b2J:List Oper:=(c8K (b9z c6o)).toList
def Γ139(x:Int):AE:=(((ini [.v QU] x).set 2 (.val QI (0:Int))).set 3 (.val QU x)).set 4 (.val .bool (x==(0:Int)))
def Γ139r(x:Int):AE:=(Γ139 x).set 2 (.val QI (64:Int))
def c2Q(e:Ex)(Γ:AE):Option Int:=match e,Γ.pd with
  |.exit _,_=>none
  |_,some _=>none
  |_,none=>(Γ.upto Tryz.f139.ntmps).outs a9W [] Tryz.f139.ntmps [.v QI] (Tryz.f139.results.toList.map .inl) fun y _=>some y
def Γ139b(x a b c i:Int):AE:=((((((Γ139 x).set 5 (.val QU x)).set 6 (.val QU x)).set 7 (.val QU a)).set 8 (.val QU b)).set 9 (.val QU c)).set 10 (.val QU i)
set_option maxRecDepth 100000
theorem d0J:a9Q=.seq (b9z a9Q) (.seq (b9z (c6S a9Q)) (.seq (.region 3 (c8K (b9z c6o)) false) .ret)):=by kernel_rfl
theorem d2S(x:Int):A0j a9W QH Tryz.f139 a1q.ps a1q.rs x=c0n a9W QH a9Q 1 (ini [.v (.int .u64)] x) c2Q:=rfl
theorem d2T(x:Int)(K:Ex→AE→Option Int):c0n a9W QH (b9z a9Q) 2 (ini [.v (.int .u64)] x) K=K .normal ((ini [.v (.int .u64)] x).set 2 (.val (.int .i64) (0:Int))):=by kernel_rfl
theorem d2U(x:Int)(K:Ex→AE→Option Int):c0n a9W QH (b9z (c6S a9Q)) 6 ((ini [.v (.int .u64)] x).set 2 (.val (.int .i64) (0:Int))) K=bif x==(0:Int)then K .ret (Γ139r x)else K .normal (Γ139 x):=by kernel_rfl
theorem d2V(x:Int):c2Q .ret (Γ139r x)=some (64:Int):=by kernel_rfl
theorem d2W(x:Int)(K:AE→Option Int):h0m a9W b2J ((b2J.map fun o=>(Md.x,o)).take 6) (Γ139 x) K =
  K (Γ139b x (wrap .u64 (0-x)) (bits .u64 .and x (wrap .u64 (0-x))) (wrap .u64 ((bits .u64 .and x (wrap .u64 (0-x)))*(285870213051353865:Int))) (A0o .u64 (wrap .u64 ((bits .u64 .and x (wrap .u64 (0-x)))*(285870213051353865:Int))) (58:Int))):=by kernel_rfl
theorem d2X(x a b c i:Int):h0m a9W b2J ((b2J.map fun o=>(Md.x,o)).drop 6) (Γ139b x a b c i) (fun Γ=>c2Q .ret Γ)=(m0k b1u i).bind fun h=>some (wrap .i64 h):=by kernel_rfl
theorem d2Y(x:Int):h0m a9W b2J (b2J.map fun o=>(Md.x,o)) (Γ139 x) (fun Γ=>c2Q .ret Γ)=(m0k b1u (A0o .u64 (wrap .u64 ((bits .u64 .and x (wrap .u64 (0-x)))*(285870213051353865:Int))) (58:Int))).bind fun h=>some (wrap .i64 h):=by
 rw[←List.take_append_drop 6 (b2J.map fun o=>(Md.x,o)),b6N,d2W,d2X]
theorem d3Q(x:Int):c0n a9W QH a9Q 1 (ini [.v (.int .u64)] x) c2Q=a1I x:=by
 rw[d0J,b5J rfl,d2T];simp only[];rw[b5J rfl,d2U];simp only[];rw[b5J rfl,c2P];simp only[c0n];rw[d2V];exact congrArg (fun z=>bif x==(0:Int)then some (64:Int)else z) (d2Y x)
theorem d4W(x):A0j a9W QH Tryz.f139 a1q.ps a1q.rs x=a1q.F x:=(d2S x).trans (d3Q x)
def a5s(s:Z28):Option Z66:=(fun(a b:Int)=>cond (decide (b<a)) ((m0k s.2.1 b).bind fun x1=>some (.inl (bits .i64 .or s.1 x1,s.2.1,a,wrap .i64 (b+1),()))) (some (.inr (s.1,())))) s.2.2.1 s.2.2.2.1
def a3K(x:LI):Option Int:=(y0s a5s (0,x,(x.length:Int),0,())).bind fun w2=>cond (w2.1==0) (some 0) ((a1I (wrap .u64 w2.1)).bind fun y3=>some (v0s y3 30))
def b8e:FSem:=⟨[.v QL],[.v QI],a3K⟩
def H62:Hints:=⟨[(58,[3,.sv 6 QL,7,8],[Qe 0 [3]])],[],[]⟩
def a5t(s:Z13):Option Z70:=(fun(a b:Int)=>cond (decide (b<a)) ((m0k s.1 b).bind fun x2=>(show Option Z33 from cond (decide (x2<(-32768))) (some (s.1,a,b,true,())) (some (s.1,a,b,decide (x2≥32768),()))).bind fun z3=>cond z3.2.2.2.1 (some (.inr (Sum.inr ((false,()))))) (some (.inl (z3.1,z3.2.1,wrap .i64 (z3.2.2.1+1),())))) (some (.inr (Sum.inl ())))) s.2.1 s.2.2.1
def a4K(x:(LI×Int)):Option Bool:=(show Option (LI×(Bool×Unit))from cond (decide ((x.1.length:Int)<1)) (some (x.1,true,())) (cond (decide ((x.1.length:Int) > 32)) (some (x.1,true,())) (cond (decide (x.2<0)) (some (x.1,true,())) (some (x.1,decide (x.2 > 15),()))))).bind fun z1=>cond z1.2.1 (some false) ((y0s a5t (z1.1,(z1.1.length:Int),0,())).bind fun w4=>match w4 with |.inl a5=>some true |.inr b6=>some b6.1)
def c2R:FSem:=⟨[.v QL,.v QI],[.v .bool],a4K⟩
def d7i:Hints:=⟨[(58,[.sv 23 QL,24,25],[Qe 0 [],Qr [.sv 4 .bool]])],[(6,[Qn [.sv 0 QL,.sv 22 .bool]]),(3737,[Qn [.sv 23 QL,24,25,.sv 34 .bool]])],[]⟩
def a7j(s:Z4):Option (Z4 ⊕ Z0):=cond (decide (s.2.1<3)) ((m0k s.1 s.2.1).bind fun x2=>(show Option Z16 from cond (decide (x2<(-64))) (some (s.1,s.2.1,true,())) (some (s.1,s.2.1,decide (x2 > 64),()))).bind fun z3=>cond z3.2.2.1 (some (.inr (Sum.inr ((false,()))))) (some (.inl (z3.1,wrap .i64 (z3.2.1+1),())))) (some (.inr (Sum.inl ())))
def a8z(x:(Int×LI)):Option Bool:=(show Option (Bool×(LI×Unit))from cond (decide (x.1<2)) (some (true,x.2,())) (some (decide (x.1 > 1024),x.2,()))).bind fun z1=>cond z1.1 (some false) ((y0s a7j (z1.2.1,0,())).bind fun w4=>match w4 with |.inl a5=>some true |.inr b6=>some b6.1)
def c6T:FSem:=⟨[.v QI,.v (.arr 3 QI)],[.v .bool],a8z⟩
def d7j:Hints:=⟨[(58,[.sv 13 (.arr 3 QI),14],[Qe 0 [],Qr [.sv 4 .bool]])],[(6,[Qn [.sv 12 .bool,.vp 3 (.arr 3 QI)]]),(3737,[Qn [.sv 13 (.arr 3 QI),14,.sv 22 .bool]])],[]⟩
def a7k(x:(Int×Int×Unit)):Option Bool:=cond (decide (x.1≥1)) (cond (decide (x.1≤32)) (cond (decide (x.2.1≥0)) (some (decide (x.2.1≤8))) (some false)) (some false)) (some false)
def c1V:FSem:=⟨[.v Q3],[.v .bool],a7k⟩
def a6m(s:(Z6×Int×Int×Unit)):Option ((Z6×Int×Int×Unit) ⊕ Z0):=cond (decide (s.2.2.1<s.2.1)) ((m0k s.1 s.2.2.1).bind fun x1=>(a7k x1).bind fun y2=>cond (!y2) (some (.inr (Sum.inr ((false,()))))) (some (.inl (s.1,s.2.1,wrap .i64 (s.2.2.1+1),())))) (some (.inr (Sum.inl ())))
def a7C(x:Z6):Option Bool:=cond (decide ((x.length:Int) > 3)) (some false) ((y0s a6m (x,(x.length:Int),0,())).bind fun w3=>match w3 with |.inl a4=>some true |.inr b5=>some b5.1)
def b6O:FSem:=⟨[.v (.list false Q3)],[.v .bool],a7C⟩
def d7k:Hints:=⟨[(58,[.sv 8 (.list false Q3),9,10],[Qe 0 [],Qr [.sv 2 .bool]])],[],[]⟩
def a8h(x:(Int×b3F)):Option Bool:=(show Option (Int×c2I)from cond (x.1==0) (some (x.2.2,x.1,x.1==0,x.2.1,())) (some (x.2.2,x.1,x.1==1,x.2.1,()))).bind fun z1=>cond z1.2.2.1 (some true) (cond (z1.2.1==2) (cond (decide (z1.2.2.2.1.2.2.1≥0)) (cond (decide (z1.2.2.2.1.2.2.1≤4)) (some (decide (z1.2.2.2.1.2.2.1≤z1.1))) (some false)) (some false)) (cond (z1.2.1==3) ((a4K (z1.2.2.2.1.2.2.2.2.2.1,z1.2.2.2.1.2.2.2.1)).bind fun y2=>cond y2 (some (decide ((z1.2.2.2.1.2.2.2.2.2.1.length:Int)≤z1.1))) (some false)) (cond (z1.2.1==4) ((a4K (z1.2.2.2.1.2.2.2.2.2.1,z1.2.2.2.1.2.2.2.1)).bind fun y3=>cond y3 (cond (decide ((z1.2.2.2.1.2.2.2.2.2.1.length:Int)≤z1.1)) ((a8z (z1.2.2.2.1.2.2.2.2.1,z1.2.2.2.1.2.2.2.2.2.2.1)).bind fun y4=>some y4) (some false)) (some false)) (cond (z1.2.1==5) (cond (decide ((z1.2.2.2.1.2.2.2.2.2.2.2.1.length:Int) > 0)) ((a7C z1.2.2.2.1.2.2.2.2.2.2.2.1).bind fun y5=>some y5) (some false)) (some false)))))
def c8L:FSem:=⟨[.v QI,.v Q40,.v QI],[.v .bool],a8h⟩
def d7l:Hints:=⟨[],[(26,[Qn [2,7,.sv 8 .bool,.vp 4 Q40]])],[]⟩
def a1e(x:LI):Option LI:=x0e x
def a1S:FSem:=⟨[.v QL],[.o QI],a1e⟩
def d1Y:Cx:=b2I [] [] 5 0
theorem d4X(x):A0j d1Y QH Tryz.f192 a1S.ps a1S.rs x=a1S.F x:=Eq.trans (show _=w0u x by kernel_rfl) (A0x x)
def a3V(x:LI):Option LI:=x0e x
def a2x:FSem:=⟨[.v QL],[.v QL],a3V⟩
def c8M:Cx:=b2I [] [] 5 0
theorem d3R(x):A0j c8M QH Tryz.f192 a2x.ps a2x.rs x=a2x.F x:=Eq.trans (show _=w0u x by kernel_rfl) (A0x x)
def a1m(x:Z6):Option Z6:=x0e x
def a1n:FSem:=⟨[.v (.list false Q3)],[.v (.list false Q3)],a1m⟩
def c8N:Cx:=b2I [] [] 5 0
theorem d3S(x):A0j c8N QH Tryz.f204 a1n.ps a1n.rs x=a1n.F x:=Eq.trans (show _=w0u x by kernel_rfl) (A0x x)
def a6n(x:(Int×a1D)):Option a1D:=(show Option b2e from(show Option ((a1D×b2e) ⊕ (b2e ⊕ (a1D×b2e)))from cond (x.1==2) (some (Sum.inr (Sum.inl ((0,0,0,0,0,[],a03 3 0,[],[],(0,[],()),[],()),(x.1,0,x.2.2.2.1,0,0,[],a03 3 0,[],[],(0,[],()),[],()),())))) (cond (x.1==4) (some (Sum.inl ((0,0,0,0,0,[],a03 3 0,[],[],(0,[],()),[],()),(x.1,0,0,0,x.2.2.2.2.2.1,[],x.2.2.2.2.2.2.2.1,[],[],(0,[],()),[],()),x.2,()))) (cond (x.1==3) (some (Sum.inl ((0,0,0,0,0,[],a03 3 0,[],[],(0,[],()),[],()),(x.1,0,0,0,0,[],a03 3 0,[],[],(0,[],()),[],()),x.2,()))) (cond (x.1==5) (some (Sum.inr (Sum.inr (((0,0,0,0,0,[],a03 3 0,[],[],(0,[],()),[],()),(x.1,0,0,0,0,[],a03 3 0,[],[],(0,[],()),[],()),x.2,()))))) (some (Sum.inr (Sum.inl ((0,0,0,0,0,[],a03 3 0,[],[],(0,[],()),[],()),(x.1,0,0,0,0,[],a03 3 0,[],[],(0,[],()),[],()),())))))))).bind fun z1=>match z1 with |.inl a2=>((a3V a2.2.2.1.2.2.2.2.2.1).bind fun y4=>some (a2.1,(a2.2.1.1,a2.2.1.2.1,a2.2.1.2.2.1,a2.2.2.1.2.2.2.1,a2.2.1.2.2.2.2.1,y4,a2.2.1.2.2.2.2.2.2),())) |.inr b3=>(match b3 with |.inl a5=>some (a5.1,a5.2.1,()) |.inr b6=>((a1m b6.2.2.1.2.2.2.2.2.2.2.1).bind fun y7=>some (b6.1,(b6.2.1.1,b6.2.1.2.1,b6.2.1.2.2.1,b6.2.1.2.2.2.1,b6.2.1.2.2.2.2.1,b6.2.1.2.2.2.2.2.1,b6.2.1.2.2.2.2.2.2.1,y7,b6.2.1.2.2.2.2.2.2.2.2),())))).bind fun z8=>some z8.2.1
def c2S:FSem:=⟨[.v QI,.v Q40],[.v Q40],a6n⟩
def d7m:Hints:=⟨[],[(7,[Qn [.box 4 Q40,.box 5 Q40,Qp 4 4,Qp 5 5]]),(232,[Qn [.box 4 Q40,.box 5 Q40,.vp 3 Q40,Qp 4 4,Qp 5 5],Qe 0 [.box 4 Q40,.box 5 Q40,Qp 4 4,Qp 5 5],Qe 4 [.box 4 Q40,.box 5 Q40,.vp 3 Q40,Qp 4 4,Qp 5 5]])],[(8,[.v,.v,.v,.v,.q,.w [0,5],.x,.x]),(9,[.v,.v,.v,.v,.v,.q,.w [0,5],.x,.x])]⟩
def a4L(x:b3F):Option Int:=cond (x.1.1==0) (some 1) (cond (x.1.1==1) (some x.2) (cond (x.1.1==2) (some x.1.2.2.1) ((show Option d3O from cond (x.1.1==3) (some (x.1.1==3,x.1,())) (some (x.1.1==4,x.1,()))).bind fun z1=>cond z1.1 (some (z1.2.1.2.2.2.2.2.1.length:Int)) (some 0))))
def c2T:FSem:=⟨[.v Q40,.v QI],[.v QI],a4L⟩
def d7n:Hints:=⟨[],[(1727,[Qn [.sv 16 .bool,.vp 2 Q40]])],[]⟩
def b3k(s:Z13):Option Z70:=(fun(a b:Int)=>cond (decide (b<a)) ((m0k s.1 b).bind fun x1=>(show Option Z33 from cond (decide (x1<(-1073741824))) (some (s.1,a,b,true,())) (some (s.1,a,b,decide (x1≥1073741824),()))).bind fun z2=>cond z2.2.2.2.1 (some (.inr (Sum.inr ((false,()))))) (some (.inl (z2.1,z2.2.1,wrap .i64 (z2.2.2.1+1),())))) (some (.inr (Sum.inl ())))) s.2.1 s.2.2.1
def a2M(x:LI):Option Bool:=(y0s b3k (x,(x.length:Int),0,())).bind fun w3=>match w3 with |.inl a4=>some true |.inr b5=>some b5.1
def c2U:FSem:=⟨[.v QL],[.v .bool],a2M⟩
def d7o:Hints:=⟨[(26,[.sv 5 QL,6,7],[Qe 0 [],Qr [.sv 2 .bool]])],[(1689,[Qn [.sv 5 QL,6,7,.sv 16 .bool]])],[]⟩
def a5u(s:Z27):Option (Z27 ⊕ Z12):=(fun(a b:Int)(c:LI)=>cond (decide ((wrap .i64 (a+1))<(c.length:Int))) (cond ((decide (0≤(wrap .i64 (a+1))))&&(decide ((wrap .i64 (a+1))<(c.length:Int)))) (cond ((decide (0≤a))&&(decide (a<(c.length:Int)))) (cond ((decide (0≤a))&&(decide (a<(c.length:Int)))) (some (.inl (wrap .i64 (a+1),s.2.1,b,a18 c (a01 a) (wrap .i64 ((a04 c (a01 (wrap .i64 (a+1))) 0)-(a04 c (a01 a) 0))),()))) none) none) none) (some (.inr (s.2.1,b,c,())))) s.1 s.2.2.1 s.2.2.2.1
def a7T(s:Z12):Option (Z12 ⊕ (LI×Unit)):=cond (decide (s.2.1<s.1)) ((y0s a5u (0,s.1,s.2.1,s.2.2.1,())).bind fun w3=>cond ((decide (0≤(wrap .i64 ((w3.2.2.1.length:Int)-1))))&&(decide ((wrap .i64 ((w3.2.2.1.length:Int)-1))≤(w3.2.2.1.length:Int)))) (cond (decide ((a01 (wrap .i64 ((w3.2.2.1.length:Int)-1)))≤(a00 w3.2.2.1))) (some (.inl (w3.1,wrap .i64 (w3.2.1+1),a05 (a01 (wrap .i64 ((w3.2.2.1.length:Int)-1))) w3.2.2.1,()))) none) none) (some (.inr (s.2.2.1,())))
def a4M(x:(LI×Int)):Option (LI×Int):=(show Option Z16 from cond (decide (x.2<0)) (some (x.1,x.2,true,())) (cond (decide (x.2 > 4)) (some (x.1,x.2,true,())) (some (x.1,x.2,decide ((x.1.length:Int)<x.2),())))).bind fun z1=>cond z1.2.2.1 (some ([],1)) ((a2M z1.1).bind fun y2=>cond (!y2) (some ([],6)) (cond (lim (a00 z1.1)) ((y0s a7T (z1.2.1,0,z1.1,())).bind fun w4=>(a2M w4.1).bind fun y5=>cond (!y5) (some ([],6)) (some (w4.1,0))) none))
def c2V:FSem:=⟨[.v QL,.v QI],[.o QI,.v QI],a4M⟩
def d7p:Hints:=⟨[(250,[25,26,.own 6 6 QI],[Qe 0 [.own 6 6 QI]]),(64098,[7,25,26,.own 6 6 QI],[Qe 2 [25,26,.own 6 6 QI]])],[(6,[Qn [.sv 0 QL,1,.sv 19 .bool]])],[(11,[.q,.v,.q,.v,.v,.q,.q,.q,.v,.q,.q,.v,.x,.x])]⟩
def a5m(x:Int):Option Bool:=cond (decide (x≥(-1073741824))) (some (decide (x<1073741824))) (some false)
def c1W:FSem:=⟨[.v QI],[.v .bool],a5m⟩
def a3b(s:Z13):Option Z70:=cond (decide (s.2.2.1<s.2.1)) ((m0k s.1 s.2.2.1).bind fun x1=>(a5m x1).bind fun y2=>cond (!y2) (some (.inr (Sum.inr ((false,()))))) (some (.inl (s.1,s.2.1,wrap .i64 (s.2.2.1+1),())))) (some (.inr (Sum.inl ())))
def a2D(x:LI):Option Bool:=(y0s a3b (x,(x.length:Int),0,())).bind fun w3=>match w3 with |.inl a4=>some true |.inr b5=>some b5.1
def b7u:FSem:=⟨[.v QL],[.v .bool],a2D⟩
def d7q:Hints:=⟨[(26,[.sv 5 QL,6,7],[Qe 0 [],Qr [.sv 2 .bool]])],[],[]⟩
def a3c(s:Z76):Option (Z76 ⊕ (Int×Int×Unit)):=(fun(a:LI)(b c:Int)(d:LI)(e f:Int)=>cond (decide (f<e)) ((m0k d f).bind fun x1=>cond (decide ((wrap .i64 ((wrap .i64 ((a.length:Int)-1))-f))<0)) (some (.inr (b,c,()))) ((m0k a (wrap .i64 ((wrap .i64 ((a.length:Int)-1))-f))).bind fun x2=>some (.inl (a,b,wrap .i64 (c+(wrap .i64 (x1*x2))),d,e,wrap .i64 (f+1),())))) (some (.inr (b,c,())))) s.1 s.2.1 s.2.2.1 s.2.2.2.1 s.2.2.2.2.1 s.2.2.2.2.2.1
def a4N(x:Z9):Option Int:=(y0s a3c (x.1,x.2.2,0,x.2.1,(x.2.1.length:Int),0,())).bind fun w3=>cond (decide (w3.1<0)) none (some (A0o .i64 w3.2.1 w3.1))
def b7v:FSem:=⟨[.v QL,.v QL,.v QI],[.v QI],a4N⟩
def d7r:Hints:=⟨[(58,[.sv 0 QL,2,7,.sv 11 QL,12,13],[Qe 0 [2,7]])],[],[]⟩
def a4O(s:(LI×Z39)):Option ((LI×Z39) ⊕ Z45):=(fun(a:LI)(b c:Int)(d:LI)=>cond (decide (c<(a.length:Int))) ((m0k a c).bind fun x4=>cond ((decide (0≤c))&&(decide (c≤(a.length:Int)))) ((a4N (a05 (a01 c) a,s.2.1,b)).bind fun y5=>(a5m (wrap .i64 (x4-y5))).bind fun y6=>cond (!y6) (some (.inr (Sum.inr ((6,[],()))))) (cond (lim ((a00 d)+1)) (some (.inl (a,s.2.1,b,wrap .i64 (c+1),a02 d [wrap .i64 (x4-y5)],()))) none)) none) (some (.inr (Sum.inl (d,()))))) s.1 s.2.2.1 s.2.2.2.1 s.2.2.2.2.1
def a7l(x:Z9):Option (LI×Int):=(show Option Z48 from(a4K (x.2.1,x.2.2)).bind fun y1=>cond (!y1) (some (x.1,x.2.1,x.2.2,true,())) (some (x.1,x.2.1,x.2.2,decide ((x.1.length:Int)<(x.2.1.length:Int)),()))).bind fun z2=>cond z2.2.2.2.1 (some ([],1)) ((a2D z2.1).bind fun y3=>cond (!y3) (some ([],6)) (cond ((decide (0≤(wrap .i64 ((z2.1.length:Int)-(z2.2.1.length:Int)))))&&(lim (a01 (wrap .i64 ((z2.1.length:Int)-(z2.2.1.length:Int)))))) ((y0s a4O (z2.1,z2.2.1,z2.2.2.1,(z2.2.1.length:Int),[],())).bind fun w7=>match w7 with |.inl a8=>some (a8.1,0) |.inr b9=>some (b9.2.1,b9.1)) none))
def c1X:FSem:=⟨[.v QL,.v QL,.v QI],[.o QI,.v QI],a7l⟩
def d7s:Hints:=⟨[(250,[.sv 0 QL,.sv 1 QL,2,9,.own 8 8 QI],[Qe 0 [.own 8 8 QI],Qr [7,.own 6 6 QI]])],[(6,[Qn [.sv 0 QL,.sv 1 QL,2,.sv 21 .bool]])],[(9,[.v,.v,.v,.v,.v,.v,.v,.v,.v,.v,.x,.x])]⟩
def a7D(x:Int):Option Bool:=cond (decide (x≥(-1073741824))) (some (decide (x<1073741824))) (some false)
def c4Y:FSem:=⟨[.v QI],[.v .bool],a7D⟩
def a4d(s:Z13):Option Z70:=cond (decide (s.2.2.1<s.2.1)) ((m0k s.1 s.2.2.1).bind fun x1=>(a7D x1).bind fun y2=>cond (!y2) (some (.inr (Sum.inr ((false,()))))) (some (.inl (s.1,s.2.1,wrap .i64 (s.2.2.1+1),())))) (some (.inr (Sum.inl ())))
def a4w(x:LI):Option Bool:=(y0s a4d (x,(x.length:Int),0,())).bind fun w3=>match w3 with |.inl a4=>some true |.inr b5=>some b5.1
def b9A:FSem:=⟨[.v QL],[.v .bool],a4w⟩
def d7t:Hints:=⟨[(26,[.sv 5 QL,6,7],[Qe 0 [],Qr [.sv 2 .bool]])],[],[]⟩
def a4e(s:(LI×(Int×Int×Z14))):Option ((LI×(Int×Int×Z14)) ⊕ (Int×Unit)):=(fun(a b c:Int)(d:LI)(e:Int)=>cond (decide (e<3)) ((m0k d e).bind fun x1=>cond (decide ((wrap .i64 ((wrap .i64 ((wrap .i64 (a-b))-1))+e))≥0)) ((m0k s.1 (wrap .i64 ((wrap .i64 ((wrap .i64 (a-b))-1))+e))).bind fun x2=>some (.inl (s.1,a,b,wrap .i64 (c+(wrap .i64 (x1*x2))),d,wrap .i64 (e+1),()))) (some (.inl (s.1,a,b,c,d,wrap .i64 (e+1),())))) (some (.inr (c,())))) s.2.1 s.2.2.1 s.2.2.2.1 s.2.2.2.2.1 s.2.2.2.2.2.1
def a4x(x:(LI×Z1)):Option Int:=(y0s a4e (x.1,x.2.1,x.2.2.1,0,x.2.2.2,0,())).bind fun w3=>some (A0o .i64 w3.1 6)
def b9B:FSem:=⟨[.v QL,.v QI,.v QI,.v (.arr 3 QI)],[.v QI],a4x⟩
def d7u:Hints:=⟨[(58,[.sv 0 QL,1,2,9,.sv 13 (.arr 3 QI),14],[Qe 0 [9]])],[],[]⟩
def a6o(s:(LI×Z88)):Option ((LI×Z88) ⊕ Z45):=(fun(a:LI)(b c:Int)(d e:LI)=>cond (decide (c<b)) ((m0k a c).bind fun x3=>(a4x (s.1,c,s.2.1,e)).bind fun y4=>(a7D (wrap .i64 (x3-y4))).bind fun y5=>cond (!y5) (some (.inr (Sum.inr ((6,[],()))))) (cond (lim ((a00 d)+1)) (some (.inl (s.1,s.2.1,a,b,wrap .i64 (c+1),a02 d [wrap .i64 (x3-y4)],e,()))) none)) (some (.inr (Sum.inl (d,()))))) s.2.2.1 s.2.2.2.1 s.2.2.2.2.1 s.2.2.2.2.2.1 s.2.2.2.2.2.2.1
def a9k(x:(LI×(Int×LI))):Option (LI×Int):=(a8z (x.2.1,x.2.2)).bind fun y1=>cond (!y1) (some ([],1)) ((a4w x.1).bind fun y2=>cond (!y2) (some ([],6)) (cond ((decide (0≤(x.1.length:Int)))&&(lim (a01 (x.1.length:Int)))) ((y0s a6o (x.1,x.2.1,x.1,(x.1.length:Int),0,[],x.2.2,())).bind fun w6=>match w6 with |.inl a7=>some (a7.1,0) |.inr b8=>some (b8.2.1,b8.1)) none))
def b6P:FSem:=⟨[.v QL,.v QI,.v (.arr 3 QI)],[.o QI,.v QI],a9k⟩
def d7v:Hints:=⟨[(250,[.sv 0 QL,1,.sv 22 QL,23,24,.own 8 8 QI,.vp 5 (.arr 3 QI)],[Qe 0 [.own 8 8 QI],Qr [7,.own 6 6 QI]])],[],[]⟩
def a6p(x:Int):Option Bool:=cond (decide (x≥(-1073741824))) (some (decide (x<1073741824))) (some false)
def b5K:FSem:=⟨[.v QI],[.v .bool],a6p⟩
def a3x(s:Z13):Option Z70:=cond (decide (s.2.2.1<s.2.1)) ((m0k s.1 s.2.2.1).bind fun x1=>(a6p x1).bind fun y2=>cond (!y2) (some (.inr (Sum.inr ((false,()))))) (some (.inl (s.1,s.2.1,wrap .i64 (s.2.2.1+1),())))) (some (.inr (Sum.inl ())))
def a5v(x:LI):Option Bool:=(y0s a3x (x,(x.length:Int),0,())).bind fun w3=>match w3 with |.inl a4=>some true |.inr b5=>some b5.1
def b3l:FSem:=⟨[.v QL],[.v .bool],a5v⟩
def d7w:Hints:=⟨[(26,[.sv 5 QL,6,7],[Qe 0 [],Qr [.sv 2 .bool]])],[],[]⟩
def a9l(x:(Int×Int×Unit)):Option (Z23×Int):=(a7k x).bind fun y1=>cond (!y1) none (cond ((decide (0≤x.1))&&((decide (x.1≤x.1))&&(lim (a01 x.1)))) (cond ((decide (0≤x.1))&&((decide (x.1≤x.1))&&(lim (a01 x.1)))) (some ((x.2.1,a03 (a01 x.1) 0,a03 (a01 x.1) 0,()),0)) none) none)
def b6Q:FSem:=⟨[.v Q3],[.b Q15,.v QI],a9l⟩
def d7x:Hints:=⟨[],[],[(3,[.v,.v,.v,.v,.q,.v,.v,.q,.x,.x,.x,.x])]⟩
def a5w(x:Int):Option Int:=some (v0s (v0r x (-1073741824)) 1073741823)
def b8f:FSem:=⟨[.v QI],[.v QI],a5w⟩
def a2Y(s:Z92):Option (Z92 ⊕ Z64):=(fun(a:Int)(b:Z23)=>cond (decide (a<s.2.1)) (cond ((decide (0≤a))&&(decide (a<(b.2.1.length:Int)))) (cond ((decide (0≤a))&&(decide (a<(b.2.2.1.length:Int)))) (some (.inl (wrap .i64 (s.1+(wrap .i64 ((a04 b.2.1 (a01 a) 0)*(a04 b.2.2.1 (a01 a) 0)))),s.2.1,wrap .i64 (a+1),b,()))) none) none) (some (.inr (s.1,b,())))) s.2.2.1 s.2.2.2.1
def a2c(x:Z23):Option Z41:=(y0s a2Y (0,(x.2.1.length:Int),0,x,())).bind fun w1=>(a5w (A0o .i64 w1.1 16)).bind fun y2=>some (y2,w1.2.1)
def a9X:FSem:=⟨[.r false (.b Q15)],[.v QI],a2c⟩
def d7y:Hints:=⟨[(58,[3,10,11,.box pinned Q15,Qp 0 pinned,.ref 9 pinned [.snd,.fst]],[Qe 0 [3,.box pinned Q15]])],[],[]⟩
def a2u(s:(Int×Z92)):Option ((Int×Z92) ⊕ Z64):=(fun(a b c d:Int)(e:Z23)=>cond (decide (d<c)) (cond ((decide (0≤d))&&(decide (d<(e.2.2.1.length:Int)))) (cond ((decide (0≤d))&&(decide (d<(e.2.1.length:Int)))) ((show Option (Int×Int×Int×Z92)from cond (decide ((a04 e.2.2.1 (a01 d) 0) > 0)) (some (a,b,d,wrap .i64 ((a04 e.2.1 (a01 d) 0)+b),c,d,e,())) (cond (decide ((a04 e.2.2.1 (a01 d) 0)<0)) (some (a,b,d,wrap .i64 ((a04 e.2.1 (a01 d) 0)-b),c,d,e,())) (some (a,b,d,a04 e.2.1 (a01 d) 0,c,d,e,())))).bind fun z4=>cond ((decide (0≤z4.2.2.1))&&(decide (z4.2.2.1<(z4.2.2.2.2.2.2.1.2.1.length:Int)))) (some (.inl (z4.1,z4.2.1,z4.2.2.2.2.1,wrap .i64 (z4.2.2.2.2.2.1+1),(z4.2.2.2.2.2.2.1.1,a18 z4.2.2.2.2.2.2.1.2.1 (a01 z4.2.2.1) (v0s (v0r z4.2.2.2.1 (-1048576)) 1048576),z4.2.2.2.2.2.2.1.2.2),()))) none) none) none) (some (.inr (a,e,())))) s.1 s.2.1 s.2.2.1 s.2.2.2.1 s.2.2.2.2.1
def a3d(x:(Z23×Int)):Option Z23:=(a5w x.2).bind fun y1=>(show Option Z80 from(a2c x.1).bind fun y2=>cond (decide (y1 > y2.1)) (cond (decide (y2.2.1<0)) none (some (y1,A0n .i64 1 y2.2.1,y2.2,()))) (cond (decide (y1<y2.1)) (cond (decide (y2.2.1<0)) none (some (y1,wrap .i64 (0-(A0n .i64 1 y2.2.1)),y2.2,()))) (some (y1,0,y2.2,())))).bind fun z3=>(y0s a2u (z3.1,z3.2.1,(z3.2.2.1.2.2.1.length:Int),0,z3.2.2.1,())).bind fun w5=>cond (decide (1≤(w5.2.1.2.2.1.length:Int))) (cond (decide (0<(a00 (p0h w5.2.1.2.2.1 1 ((a00 w5.2.1.2.2.1)-1) w5.2.1.2.2.1):Int))) (some (w5.2.1.1,w5.2.1.2.1,a18 (p0h w5.2.1.2.2.1 1 ((a00 w5.2.1.2.2.1)-1) w5.2.1.2.2.1) 0 w5.1,w5.2.1.2.2.2)) none) none
def b1b:FSem:=⟨[.r false (.b Q15),.v QI],[],a3d⟩
def d7z:Hints:=⟨[(122,[1,4,36,37,.box pinned Q15,Qp 0 pinned,.ref 35 pinned [.snd,.snd,.fst]],[Qe 1 [1,.box pinned Q15,Qp 0 pinned]])],[(7,[Qn [1,4,.box pinned Q15,Qp 0 pinned]]),(15667,[Qn [1,4,6,8,36,37,.box pinned Q15,Qp 0 pinned,.ref 35 pinned [.snd,.snd,.fst]]])],[(17,[.p,.p,.q,.q,.q,.p,.p,.q,.q,.x])]⟩
def a5x(s:(Z6×Int×Int×Int×Z89)):Option ((Z6×Int×Int×Int×Z89) ⊕ ((Z6×Z12) ⊕ Z5)):=(fun(a b c:Int)(d:LI)=>cond (decide (c<b)) (cond ((decide (0≤c))&&(decide (c<(d.length:Int)))) ((a2c s.2.2.2.2.2.2.1).bind fun y6=>(a6p (wrap .i64 ((a04 d (a01 c) 0)-y6.1))).bind fun y7=>cond (!y7) (some (.inr (Sum.inr ((6,[],()))))) ((a3d (y6.2,a04 d (a01 c) 0)).bind fun y8=>cond ((decide (0≤c))&&(decide (c<(d.length:Int)))) (some (.inl (s.1,s.2.1,a,b,wrap .i64 (c+1),a18 d (a01 c) (wrap .i64 ((a04 d (a01 c) 0)-y6.1)),y8,()))) none)) none) (some (.inr (Sum.inl (s.1,s.2.1,a,d,()))))) s.2.2.1 s.2.2.2.1 s.2.2.2.2.1 s.2.2.2.2.2.1
def a5y(s:(Z6×Z12)):Option ((Z6×Z12) ⊕ Z45):=(fun(a:Int)(b:LI)=>cond (decide (a<s.2.1)) ((m0k s.1 a).bind fun x4=>(a9l x4).bind fun y5=>cond (y5.2 != 0) (some (.inr (Sum.inr ((y5.2,[],()))))) ((y0s a5x (s.1,s.2.1,a,(b.length:Int),0,b,y5.1,())).bind fun w9=>match w9 with |.inl a10=>some (.inl (a10.1,a10.2.1,wrap .i64 (a10.2.2.1+1),a10.2.2.2.1,())) |.inr b11=>some (.inr (Sum.inr ((b11.1,b11.2.1,())))))) (some (.inr (Sum.inl (b,()))))) s.2.2.1 s.2.2.2.1
def a9Y(x:(LI×Z6)):Option (LI×Int):=(a7C x.2).bind fun y1=>cond (!y1) (some ([],1)) ((a5v x.1).bind fun y2=>cond (!y2) (some ([],6)) ((a1e x.1).bind fun y3=>(y0s a5y (x.2,(x.2.length:Int),0,y3,())).bind fun w12=>match w12 with |.inl a13=>some (a13.1,0) |.inr b14=>some (b14.2.1,b14.1)))
def c2W:FSem:=⟨[.v QL,.v (.list false Q3)],[.o QI,.v QI],a9Y⟩
def d7A:Hints:=⟨[(250,[.sv 22 (.list false Q3),23,24,.own 6 6 QI],[Qe 0 [.own 6 6 QI],Qr [5,.own 4 4 QI]]),(256414,[.sv 22 (.list false Q3),23,24,37,38,.own 6 6 QI,.box 1030 Q15,Qp 9 1030,.ref 36 6 []],[Qe 2 [.sv 22 (.list false Q3),23,24,.own 6 6 QI],Qr [5,.own 4 4 QI]])],[],[]⟩
def b1y(x:(a1D×LI)):Option (Int×a1D):=(show Option (LI×(LI×(Int×b4r)))from cond (x.1.1==2) ((a4M (x.2,x.1.2.2.1)).bind fun y1=>some (x.2,y1.1,y1.2,x.1,())) (cond (x.1.1==3) ((a7l (x.2,x.1.2.2.2.2.2.1,x.1.2.2.2.1)).bind fun y2=>some (x.2,y2.1,y2.2,x.1,())) (cond (x.1.1==4) ((a9k (x.2,x.1.2.2.2.2.1,x.1.2.2.2.2.2.2.1)).bind fun y3=>cond (y3.2==0) ((a7l (y3.1,x.1.2.2.2.2.2.1,x.1.2.2.2.1)).bind fun y4=>some (y3.1,y4.1,y4.2,x.1,())) (some (y3.1,[],y3.2,x.1,()))) (cond (x.1.1==5) ((a9Y (x.2,x.1.2.2.2.2.2.2.2.1)).bind fun y5=>some (x.2,y5.1,y5.2,x.1,())) (some (x.2,[],0,x.1,())))))).bind fun z6=>cond (z6.2.2.1 != 0) (some (z6.2.2.1,z6.2.2.2.1)) ((a4L (z6.2.2.2.1,(z6.1.length:Int))).bind fun y7=>cond ((decide (0≤y7))&&(decide (y7≤(z6.1.length:Int)))) ((a1e (a05 (a01 y7) z6.1)).bind fun y8=>some (0,z6.2.2.2.1.1,z6.2.2.2.1.2.1,z6.2.2.2.1.2.2.1,z6.2.2.2.1.2.2.2.1,z6.2.2.2.1.2.2.2.2.1,z6.2.2.2.1.2.2.2.2.2.1,z6.2.2.2.1.2.2.2.2.2.2.1,z6.2.2.2.1.2.2.2.2.2.2.2.1,y8,z6.2.2.2.1.2.2.2.2.2.2.2.2.2.1,z6.2.1,z6.2.2.2.1.2.2.2.2.2.2.2.2.2.2.2)) none)
def c4Z:FSem:=⟨[.r false (.b Q40),.v QL],[.v QI],b1y⟩
def d7B:Hints:=⟨[],[(15,[Qn [.sv 1 QL,.sv 5 QL,6,.box pinned Q40,Qp 0 pinned]])],[(7,[.v,.p,.p,.q,.q,.p,.p,.q,.q,.x,.x,.q,.q,.q,.x]),(9,[.v,.p,.p,.q,.q,.p,.p,.q,.q,.x,.x,.q,.q,.q,.x]),(11,[.q,.p,.p,.q,.q,.p,.p,.q,.q,.x,.x,.q,.q,.q,.x])]⟩
def a7E(x:(Int×Int)):Option Bool:=cond (decide (1≤x.1)) (cond (decide (x.1≤4096)) (cond (decide (0≤x.2)) (some (decide (x.2≤x.1))) (some false)) (some false)) (some false)
def c5a:FSem:=⟨[.v QI,.v QI],[.v .bool],a7E⟩
def a6R(s:Z12):Option (Z12 ⊕ (LI×Unit)):=(fun(a:LI)=>cond (decide (s.1<0)) none (cond (decide ((a.length:Int)<(A0n .i64 1 s.1))) (cond (lim ((a00 a)+1)) (some (.inl (s.1,s.2.1,a02 a [s.2.1],()))) none) (some (.inr (a,()))))) s.2.2.1
def a2V(x:(Int×Int×Int)):Option LI:=(show Option Z21 from(a7E (x.2.1,x.2.2)).bind fun y1=>cond (!y1) (some (x.1,x.2.1,x.2.2,true,())) (cond (decide (x.1<0)) (some (x.1,x.2.1,x.2.2,true,())) (some (x.1,x.2.1,x.2.2,decide (x.1 > 8),())))).bind fun z2=>cond z2.2.2.2.1 (some []) (cond (decide (z2.1<0)) none ((show Option Z21 from cond (decide (z2.1<0)) none (cond ((A0n .i64 (A0o .i64 z2.2.1 z2.1) z2.1) != z2.2.1) (some (z2.1,z2.2.2.1,A0o .i64 z2.2.1 z2.1,true,())) (some (z2.1,z2.2.2.1,A0o .i64 z2.2.1 z2.1,decide ((A0o .i64 z2.2.1 z2.1)<z2.2.2.1),())))).bind fun z3=>cond z3.2.2.2.1 (some []) ((y0s a6R (z3.1,z3.2.2.1,[wrap .i64 (z3.2.2.1-z3.2.1)],())).bind fun w4=>some w4.1)))
def c1Y:FSem:=⟨[.v QI,.v QI,.v QI],[.o QI],a2V⟩
def d7C:Hints:=⟨[(252,[0,7,.own 8 8 QI],[Qe 0 [.own 8 8 QI]])],[(6,[Qn [0,1,2,.sv 20 .bool]]),(30,[Qn [0,2,7,.sv 33 .bool]])],[]⟩
def a4y(s:Z13):Option Z70:=(fun(a:LI)(b c:Int)=>cond (decide (c<b)) ((m0k a c).bind fun x3=>(show Option Z33 from cond (decide (x3<0)) (some (a,b,c,x3 != 31,())) (cond (decide (x3 > 25)) (some (a,b,c,x3 != 31,())) (some (a,b,c,false,())))).bind fun z4=>cond z4.2.2.2.1 (some (.inr (Sum.inr ((false,()))))) (some (.inl (z4.1,z4.2.1,wrap .i64 (z4.2.2.1+1),())))) (some (.inr (Sum.inl ())))) s.1 s.2.1 s.2.2.1
def a9m(x:(Z5×Int×Int)):Option Bool:=(a2V (x.1.1,x.2.1,x.2.2)).bind fun y1=>(show Option (Bool×Z17)from cond ((y1.length:Int)==0) (some (true,x.1,())) (some ((x.1.2.1.length:Int) != (y1.length:Int),x.1,()))).bind fun z2=>cond z2.1 (some false) ((y0s a4y (z2.2.1.2.1,(z2.2.1.2.1.length:Int),0,())).bind fun w5=>match w5 with |.inl a6=>some true |.inr b7=>some b7.1)
def c5b:FSem:=⟨[.v Q9,.v QI,.v QI],[.v .bool],a9m⟩
def d7D:Hints:=⟨[(122,[.sv 27 QL,28,29],[Qe 0 [],Qr [.sv 6 .bool]])],[(14,[Qn [.sv 25 .bool,.vp 3 Q9]]),(7833,[Qn [.sv 27 QL,28,29,.sv 42 .bool]])],[]⟩
def b2K(s:Z13):Option Z70:=(fun(a b:Int)=>cond (decide (b<a)) ((m0k s.1 b).bind fun x3=>(show Option Z33 from cond (decide (x3<(-1073741824))) (some (s.1,a,b,true,())) (some (s.1,a,b,decide (x3≥1073741824),()))).bind fun z4=>cond z4.2.2.2.1 (some (.inr (Sum.inr ((false,()))))) (some (.inl (z4.1,z4.2.1,wrap .i64 (z4.2.2.1+1),())))) (some (.inr (Sum.inl ())))) s.2.1 s.2.2.1
def a7m(x:Z1):Option Bool:=(show Option (LI×(Bool×Unit))from(a7E (x.1,x.2.1)).bind fun y1=>cond (!y1) (some (x.2.2,true,())) (some (x.2.2,(x.2.2.length:Int) != (wrap .i64 (x.1-x.2.1)),()))).bind fun z2=>cond z2.2.1 (some false) ((y0s b2K (z2.1,(z2.1.length:Int),0,())).bind fun w5=>match w5 with |.inl a6=>some true |.inr b7=>some b7.1)
def c1Z:FSem:=⟨[.v QI,.v QI,.v QL],[.v .bool],a7m⟩
def d7E:Hints:=⟨[(58,[.sv 21 QL,22,23],[Qe 0 [],Qr [.sv 6 .bool]])],[(6,[Qn [.sv 2 QL,.sv 20 .bool]]),(3737,[Qn [.sv 21 QL,22,23,.sv 32 .bool]])],[]⟩
def a2R(s:Z47):Option (Z47 ⊕ Z28):=(fun(a b:Int)(c:LI)(d e:Int)=>cond (b != 0) (cond (decide (a<32)) ((a1j (b,a)).bind fun y2=>cond (!y2) (some (.inl (wrap .i64 (a+1),b,c,d,e,()))) (some (.inr (a,c,d,e,())))) (some (.inr (a,c,d,e,())))) (some (.inr (a,c,d,e,())))) s.1 s.2.1 s.2.2.1 s.2.2.2.1 s.2.2.2.2.1
def a5Z(s:Z28):Option Z66:=(fun(a b:Int)=>cond (decide (b<a)) ((m0k s.2.1 b).bind fun x1=>(y0s a2R (s.1,x1,s.2.1,a,b,())).bind fun w3=>some (.inl (w3.1,w3.2.1,w3.2.2.1,wrap .i64 (w3.2.2.2.1+1),()))) (some (.inr (s.1,())))) s.2.2.1 s.2.2.2.1
def a1y(x:LI):Option Int:=(y0s a5Z (0,x,(x.length:Int),0,())).bind fun w4=>some w4.1
def b9C:FSem:=⟨[.v QL],[.v QI],a1y⟩
def d7F:Hints:=⟨[(58,[3,.sv 6 QL,7,8],[Qe 0 [3]]),(7474,[3,5,.sv 6 QL,7,8],[Qe 2 [3,.sv 6 QL,7,8]])],[],[]⟩
def a5T(x:LI):Option Int:=(a1y x).bind fun y1=>some (wrap .i64 (5+(wrap .i64 (y1*(x.length:Int)))))
def c5c:FSem:=⟨[.v QL],[.v QI],a5T⟩
def a1Z(x:Int):Option Bool:=cond (decide (0≤x)) (some (decide (x≤25))) (some false)
def b7w:FSem:=⟨[.v QI],[.v .bool],a1Z⟩
def a7F(x:Int):Option Bool:=cond (decide ((-1073741824)≤x)) (some (decide (x<1073741824))) (some false)
def c5d:FSem:=⟨[.v QI],[.v .bool],a7F⟩
def a9n(x:Int):Option Int:=(a7F x).bind fun y1=>cond (!y1) (some 0) (cond (decide (x≥0)) (some (wrap .u64 (wrap .i64 (2*x)))) (some (wrap .u64 (wrap .i64 ((wrap .i64 ((-2)*x))-1)))))
def c5e:FSem:=⟨[.v QI],[.v QU],a9n⟩
def a7G(x:(Int×Int)):Option Int:=(show Option Z8 from(a1Z x.1).bind fun y1=>cond (!y1) (some (x.1,x.2,true,())) ((a7F x.2).bind fun y2=>some (x.1,x.2,!y2,()))).bind fun z3=>cond z3.2.2.1 (some 0) ((a9n z3.2.1).bind fun y4=>cond (decide (z3.1<0)) none (cond (decide ((wrap .i64 (A0o .u64 y4 z3.1))<32)) (some (wrap .i64 ((wrap .i64 ((wrap .i64 (A0o .u64 y4 z3.1))+1))+z3.1))) (some 65)))
def c5f:FSem:=⟨[.v QI,.v QI],[.v QI],a7G⟩
def d7G:Hints:=⟨[],[(6,[Qn [0,1,.sv 13 .bool]])],[]⟩
def a3W(s:Z47):Option (Z47 ⊕ (Int×Unit)):=(fun(a:LI)(b c:Int)=>cond (decide (c<b)) ((m0k a c).bind fun x1=>(a7G (s.1,x1)).bind fun y2=>some (.inl (s.1,wrap .i64 (s.2.1+y2),a,b,wrap .i64 (c+1),()))) (some (.inr (s.2.1,())))) s.2.2.1 s.2.2.2.1 s.2.2.2.2.1
def a3m(x:(Int×LI)):Option Int:=(y0s a3W (x.1,0,x.2,(x.2.length:Int),0,())).bind fun w3=>some w3.1
def c6U:FSem:=⟨[.v QI,.v QL],[.v QI],a3m⟩
def d7H:Hints:=⟨[(58,[0,5,.sv 8 QL,9,10],[Qe 0 [5]])],[],[]⟩
def a1A(s:(LI×(Int×(Int×(Int×(LI×Z17)))))):Option ((LI×(Int×(Int×(Int×(LI×Z17))))) ⊕ (Int×Unit)):=(fun(a:LI)(b c d:Int)(e:LI)(f:Z5)=>cond (decide (d<c)) (cond ((decide (0≤d))&&(decide (d<(e.length:Int)))) (cond ((decide (0≤(a04 e (a01 d) 0)))&&(decide ((a04 e (a01 d) 0)≤(a.length:Int)))) (cond ((decide (0≤(a04 e (a01 d) 0)))&&(decide ((a04 e (a01 d) 0)≤(a.length:Int)))) ((m0k f.2.1 d).bind fun x5=>cond (x5==31) ((a5T (a05 (a01 (a04 e (a01 d) 0)) a)).bind fun y6=>some (.inl (a08 (a01 (a04 e (a01 d) 0)) (a05 (a00 a) a),wrap .i64 (b+(wrap .i64 (5+y6))),c,wrap .i64 (d+1),e,f,()))) ((m0k f.2.1 d).bind fun x7=>(a3m (x7,a05 (a01 (a04 e (a01 d) 0)) a)).bind fun y8=>some (.inl (a08 (a01 (a04 e (a01 d) 0)) (a05 (a00 a) a),wrap .i64 (b+(wrap .i64 (5+y8))),c,wrap .i64 (d+1),e,f,())))) none) none) none) (some (.inr (b,())))) s.1 s.2.1 s.2.2.1 s.2.2.2.1 s.2.2.2.2.1 s.2.2.2.2.2.1
def a4P(x:(Z5×Z1)):Option Int:=(show Option (Int×(Int×(LI×(Bool×Z17))))from(a9m (x.1,x.2.1,x.2.2.1)).bind fun y1=>cond (!y1) (some (x.2.1,x.2.2.1,x.2.2.2,true,x.1,())) ((a7m (x.2.1,x.2.2.1,x.2.2.2)).bind fun y2=>some (x.2.1,x.2.2.1,x.2.2.2,!y2,x.1,()))).bind fun z3=>cond z3.2.2.2.1 (some 0) ((a2V (z3.2.2.2.2.1.1,z3.1,z3.2.1)).bind fun y4=>(y0s a1A (z3.2.2.1,4,(y4.length:Int),0,y4,z3.2.2.2.2.1,())).bind fun w9=>some w9.1)
def c2X:FSem:=⟨[.v Q9,.v QI,.v QI,.v QL],[.v QI],a4P⟩
def d7I:Hints:=⟨[(122,[.sv 3 QL,9,30,31,.own 29 1029 QI,.vp 4 Q9],[Qe 0 [9]])],[(6,[Qn [1,2,.sv 3 QL,.sv 24 .bool,.vp 4 Q9]])],[]⟩
def a8A(s:Z30):Option (Z30 ⊕ (Int×Unit)):=(fun(a b:Int)=>cond (decide (b≤25)) ((a3m (b,s.1)).bind fun y2=>cond (decide (y2<a)) (some (.inl (s.1,b,y2,wrap .i64 (b+1),()))) (some (.inl (s.1,s.2.1,a,wrap .i64 (b+1),())))) (some (.inr (s.2.1,())))) s.2.2.1 s.2.2.2.1
def b1z(x:LI):Option Int:=(a3m (0,x)).bind fun y1=>(y0s a8A (x,0,y1,1,())).bind fun w3=>some w3.1
def c5g:FSem:=⟨[.v QL],[.v QI],b1z⟩
def d7J:Hints:=⟨[(58,[.sv 0 QL,3,4,5],[Qe 0 [3]])],[],[]⟩
def a8B(x:LI):Option Int:=(b1z x).bind fun y1=>(a5T x).bind fun y2=>(a3m (y1,x)).bind fun y3=>cond (decide (y2<y3)) (some 31) (some y1)
def b9D:FSem:=⟨[.v QL],[.v QI],a8B⟩
def a7U(s:(Int×(Int×(Int×(LI×(Int×(Int×(LI×(Int×(Int×(LI×c6J))))))))))):Option ((Int×(Int×(Int×(LI×(Int×(Int×(LI×(Int×(Int×(LI×c6J)))))))))) ⊕ (Int×(Int×(Int×(LI×(Int×Int×c6J)))))):=(fun(a:Int)(b:LI)(c d:Int)(e:LI)(f g:Int)(h:LI)(i j k:Z5)=>cond (decide (g<f)) (cond ((decide (0≤g))&&(decide (g<(h.length:Int)))) (cond ((decide (0≤(a04 h (a01 g) 0)))&&(decide ((a04 h (a01 g) 0)≤(e.length:Int)))) ((a8B (a05 (a01 (a04 h (a01 g) 0)) e)).bind fun y3=>cond (lim ((a00 k.2.1)+1)) (cond ((decide (0≤(a04 h (a01 g) 0)))&&(decide ((a04 h (a01 g) 0)≤(e.length:Int)))) (some (.inl (s.1,s.2.1,a,b,c,d,a08 (a01 (a04 h (a01 g) 0)) (a05 (a00 e) e),f,wrap .i64 (g+1),h,i,j,(k.1,a02 k.2.1 [y3],k.2.2),()))) none) none) none) none) (some (.inr (s.1,s.2.1,a,b,c,d,i,j,k,())))) s.2.2.1 s.2.2.2.1 s.2.2.2.2.1 s.2.2.2.2.2.1 s.2.2.2.2.2.2.1 s.2.2.2.2.2.2.2.1 s.2.2.2.2.2.2.2.2.1 s.2.2.2.2.2.2.2.2.2.1 s.2.2.2.2.2.2.2.2.2.2.1 s.2.2.2.2.2.2.2.2.2.2.2.1 s.2.2.2.2.2.2.2.2.2.2.2.2.1
def a3L(s:(Int×(Int×(Int×(LI×(Int×Int×Z83)))))):Option ((Int×(Int×(Int×(LI×(Int×Int×Z83))))) ⊕ Z83):=(fun(a b:Int)(c:LI)(d e:Int)(f g:Z5)=>cond (decide (e≤(v0s (v0r b 0) 8))) ((a2V (e,s.1,a)).bind fun y2=>cond ((y2.length:Int)==0) (some (.inl (s.1,a,b,c,d,wrap .i64 (e+1),f,g,()))) ((y0s a7U (s.1,a,b,c,d,e,c,(y2.length:Int),0,y2,f,g,(e,[],()),())).bind fun w4=>(a4P (w4.2.2.2.2.2.2.2.2.1,w4.1,w4.2.1,w4.2.2.2.1)).bind fun y5=>(show Option (Int×(Int×(Int×(LI×(Int×Int×Int×Bool×c6J)))))from cond (w4.2.2.2.2.1==0) (some (w4.1,w4.2.1,w4.2.2.1,w4.2.2.2.1,w4.2.2.2.2.1,w4.2.2.2.2.2.1,y5,true,w4.2.2.2.2.2.2.1,w4.2.2.2.2.2.2.2.1,w4.2.2.2.2.2.2.2.2.1,())) (some (w4.1,w4.2.1,w4.2.2.1,w4.2.2.2.1,w4.2.2.2.2.1,w4.2.2.2.2.2.1,y5,decide (y5<w4.2.2.2.2.1),w4.2.2.2.2.2.2.1,w4.2.2.2.2.2.2.2.1,w4.2.2.2.2.2.2.2.2.1,()))).bind fun z6=>cond z6.2.2.2.2.2.2.2.1 (some (.inl (z6.1,z6.2.1,z6.2.2.1,z6.2.2.2.1,z6.2.2.2.2.2.2.1,wrap .i64 (z6.2.2.2.2.2.1+1),z6.2.2.2.2.2.2.2.2.1,z6.2.2.2.2.2.2.2.2.2.2.1,()))) (some (.inl (z6.1,z6.2.1,z6.2.2.1,z6.2.2.2.1,z6.2.2.2.2.1,wrap .i64 (z6.2.2.2.2.2.1+1),z6.2.2.2.2.2.2.2.2.1,z6.2.2.2.2.2.2.2.2.2.1,()))))) (some (.inr (f,g,())))) s.2.1 s.2.2.1 s.2.2.2.1 s.2.2.2.2.1 s.2.2.2.2.2.1 s.2.2.2.2.2.2.1 s.2.2.2.2.2.2.2.1
def a9Z(x:(Int×Z1)):Option (Z5×Int):=(a7m (x.1,x.2.1,x.2.2.2)).bind fun y1=>cond (!y1) (some ((0,[],()),1)) ((y0s a3L (x.1,x.2.1,x.2.2.1,x.2.2.2,0,0,(0,[],()),(0,[],()),())).bind fun w7=>some (w7.2.1,0))
def c2Y:FSem:=⟨[.v QI,.v QI,.v QI,.v QL],[.v Q9,.v QI],a9Z⟩
def d7K:Hints:=⟨[(250,[0,1,2,.sv 3 QL,11,12,.box 8 Q9,.box 10 Q9,Qp 8 8,Qp 10 10],[Qe 0 [.box 8 Q9,.box 10 Q9,Qp 8 8,Qp 10 10]]),(512634,[0,1,2,.sv 3 QL,11,12,.sv 15 QL,43,44,.own 42 13 QI,.box 8 Q9,.box 10 Q9,.box 14 Q8,Qp 8 8,Qp 10 10,Qp 14 14],[Qe 2 [0,1,2,.sv 3 QL,11,12,.box 8 Q9,.box 10 Q9,.box 14 Q8,Qp 8 8,Qp 10 10,Qp 14 14]])],[(256319,[Qn [0,1,2,.sv 3 QL,11,12,18,.sv 72 .bool,.box 8 Q9,.box 10 Q9,.box 14 Q9,Qp 8 8,Qp 10 10,Qp 14 14]])],[(15,[.q,.q,.v,.v,.v,.v,.q,.x,.x,.x])]⟩
def a5n(s:(LI×(LI×c6O))):Option ((LI×(LI×c6O)) ⊕ ((LI×b2e) ⊕ (Int×b4r))):=(fun(a b:Int)(c d:a1D)=>cond (decide (b<a)) ((m0k s.2.1 b).bind fun x5=>(m0k s.1 0).bind fun x6=>cond (x5 != x6) (some (.inr (Sum.inr ((7,(0,0,0,0,0,[],a03 3 0,[],[],(0,[],()),[],()),()))))) (some (.inl (s.1,s.2.1,a,wrap .i64 (b+1),c,d,())))) (some (.inr (Sum.inl (s.1,c,d,()))))) s.2.2.1 s.2.2.2.1 s.2.2.2.2.1 s.2.2.2.2.2.1
def b2j(x:(Int×(LI×a1D))):Option b3F:=(show Option (Int×(LI×(Int×Bool×b2e)))from cond (decide ((x.2.1.length:Int)<1)) (some (x.1,x.2.1,(x.2.1.length:Int),true,(0,0,0,0,0,[],a03 3 0,[],[],(0,[],()),[],()),x.2.2,())) (cond (decide ((x.2.1.length:Int) > 4096)) (some (x.1,x.2.1,(x.2.1.length:Int),true,(0,0,0,0,0,[],a03 3 0,[],[],(0,[],()),[],()),x.2.2,())) ((a8h (x.1,x.2.2,(x.2.1.length:Int))).bind fun y1=>some (x.1,x.2.1,(x.2.1.length:Int),!y1,(0,0,0,0,0,[],a03 3 0,[],[],(0,[],()),[],()),x.2.2,())))).bind fun z2=>cond z2.2.2.2.1 (some ((0,0,0,0,0,[],a03 3 0,[],[],(0,[],()),[],()),1)) ((a2w z2.2.1).bind fun y3=>cond (!y3) (some ((0,0,0,0,0,[],a03 3 0,[],[],(0,[],()),[],()),6)) ((a6n (z2.1,z2.2.2.2.2.2.1)).bind fun y4=>cond (z2.1==0) ((y0s a5n (z2.2.1,z2.2.1,(z2.2.1.length:Int),0,z2.2.2.2.2.1,y4,())).bind fun w7=>match w7 with |.inl a8=>((m0k a8.1 0).bind fun x10=>some ((a8.2.2.1.1,a8.2.2.1.2.1,a8.2.2.1.2.2.1,a8.2.2.1.2.2.2.1,a8.2.2.1.2.2.2.2.1,a8.2.2.1.2.2.2.2.2.1,a8.2.2.1.2.2.2.2.2.2.1,a8.2.2.1.2.2.2.2.2.2.2.1,[x10],a8.2.2.1.2.2.2.2.2.2.2.2.2),0)) |.inr b9=>some (b9.2.1,b9.1)) ((a3K z2.2.1).bind fun y11=>(a7i (z2.2.1,y11)).bind fun y12=>cond (y12.2 != 0) (some ((0,0,0,0,0,[],a03 3 0,[],[],(0,[],()),[],()),6)) (cond (z2.1==1) (some ((y4.1,y11,y4.2.2.1,y4.2.2.2.1,y4.2.2.2.2.1,y4.2.2.2.2.2.1,y4.2.2.2.2.2.2.1,y4.2.2.2.2.2.2.2.1,y12.1,y4.2.2.2.2.2.2.2.2.2),0)) ((b1y ((y4.1,y11,y4.2.2),y12.1)).bind fun y13=>cond (y13.1 != 0) (some ((0,0,0,0,0,[],a03 3 0,[],[],(0,[],()),[],()),6)) ((a9Z (z2.2.2.1,(y13.2.2.2.2.2.2.2.2.2.1.length:Int),6,y13.2.2.2.2.2.2.2.2.2.2.2.1)).bind fun y14=>cond (y14.2 != 0) (some ((0,0,0,0,0,[],a03 3 0,[],[],(0,[],()),[],()),6)) (some ((y13.2.1,y13.2.2.1,y13.2.2.2.1,y13.2.2.2.2.1,y13.2.2.2.2.2.1,y13.2.2.2.2.2.2.1,y13.2.2.2.2.2.2.2.1,y13.2.2.2.2.2.2.2.2.1,y13.2.2.2.2.2.2.2.2.2.1,y14.1,y13.2.2.2.2.2.2.2.2.2.2.2),0))))))))
def c6V:FSem:=⟨[.v QI,.v QL,.v Q40],[.v Q40,.v QI],b2j⟩
def H58:Hints:=⟨[(4050,[.sv 1 QL,.sv 39 QL,40,41,.box 6 Q40,.box 9 Q40,Qp 6 6,Qp 9 9],[Qe 0 [.sv 1 QL,.box 6 Q40,.box 9 Q40,Qp 6 6,Qp 9 9],Qr [7,.box 6 Q40,Qp 6 6]])],[(14,[Qn [0,.sv 1 QL,8,.sv 28 .bool,.box 6 Q40,.vp 5 Q40,Qp 6 6]])],[]⟩
def a6q(x:Int):Option Bool:=cond (x != 0) (some (x != 1)) (some false)
def c2Z:FSem:=⟨[.v QI],[.v .bool],a6q⟩
def b1A(x:a1D):Option Bool:=(a6n (x.1,x)).bind fun y1=>cond (x.2.2.1==y1.2.2.1) (cond (x.2.2.2.1==y1.2.2.2.1) (cond (x.2.2.2.2.1==y1.2.2.2.2.1) (cond (eqT (.arr 3 (.int .i64)) x.2.2.2.2.2.2.1 y1.2.2.2.2.2.2.1) (cond ((x.2.2.2.2.2.1.length:Int)==(y1.2.2.2.2.2.1.length:Int)) (some ((x.2.2.2.2.2.2.2.1.length:Int)==(y1.2.2.2.2.2.2.2.1.length:Int))) (some false)) (some false)) (some false)) (some false)) (some false)
def c5h:FSem:=⟨[.v Q40],[.v .bool],b1A⟩
def b0A(x:b3F):Option Bool:=(show Option c2I from cond (decide (x.2<1)) (some (x.2,true,x.1,())) (cond (decide (x.2 > 4096)) (some (x.2,true,x.1,())) ((a8h (x.1.1,x.1,x.2)).bind fun y1=>cond (!y1) (some (x.2,true,x.1,())) ((b1A x.1).bind fun y2=>some (x.2,!y2,x.1,()))))).bind fun z3=>cond z3.2.1 (some false) ((show Option c2I from cond (decide (z3.2.2.1.2.1<0)) (some (z3.1,true,z3.2.2.1,())) (cond (decide (z3.2.2.1.2.1 > 30)) (some (z3.1,true,z3.2.2.1,())) (cond (z3.2.2.1.1==0) (some (z3.1,z3.2.2.1.2.1 != 0,z3.2.2.1,())) (some (z3.1,false,z3.2.2.1,()))))).bind fun z4=>cond z4.2.1 (some false) ((a4L (z4.2.2.1,z4.1)).bind fun y5=>(show Option (Int×c2I)from cond ((z4.2.2.1.2.2.2.2.2.2.2.2.1.length:Int) != y5) (some (z4.1,y5,true,z4.2.2.1,())) ((a2w z4.2.2.1.2.2.2.2.2.2.2.2.1).bind fun y6=>cond (!y6) (some (z4.1,y5,true,z4.2.2.1,())) ((a2w z4.2.2.1.2.2.2.2.2.2.2.2.2.2.1).bind fun y7=>some (z4.1,y5,!y7,z4.2.2.1,())))).bind fun z8=>cond z8.2.2.1 (some false) ((a6q z8.2.2.2.1.1).bind fun y9=>cond (!y9) (cond ((z8.2.2.2.1.2.2.2.2.2.2.2.2.2.2.1.length:Int)==0) (cond (z8.2.2.2.1.2.2.2.2.2.2.2.2.2.1.1==0) (some ((z8.2.2.2.1.2.2.2.2.2.2.2.2.2.1.2.1.length:Int)==0)) (some false)) (some false)) (cond ((z8.2.2.2.1.2.2.2.2.2.2.2.2.2.2.1.length:Int)==(wrap .i64 (z8.1-z8.2.1))) ((a9m (z8.2.2.2.1.2.2.2.2.2.2.2.2.2.1,z8.1,z8.2.1)).bind fun y10=>some y10) (some false)))))
def c3a:FSem:=⟨[.v Q40,.v QI],[.v .bool],b0A⟩
def H75:Hints:=⟨[],[(6,[Qn [1,.sv 24 .bool,.vp 2 Q40]]),(14,[Qn [1,.sv 42 .bool,.vp 2 Q40]]),(62,[Qn [1,5,.sv 62 .bool,.vp 2 Q40]])],[]⟩
def a1i(x:(Int×LI)):Option (Int×LI):=(m0k x.2 (wrap .i64 ((x.2.length:Int)-x.1))).bind fun x1=>some (x1,x.2)
def b8g:FSem:=⟨[.v QI,.r false (.b QL)],[.v QI],a1i⟩
def a9z(x:(LI×Int)):Option Int:=cond (x.2==1) ((a1i (1,x.1)).bind fun y1=>some y1.1) (cond (x.2==2) ((a1i (1,x.1)).bind fun y2=>(a1i (2,y2.2)).bind fun y3=>some (wrap .i64 ((wrap .i64 (2*y2.1))-y3.1))) (cond (x.2==3) ((a1i (1,x.1)).bind fun y4=>(a1i (2,y4.2)).bind fun y5=>(a1i (3,y5.2)).bind fun y6=>some (wrap .i64 ((wrap .i64 ((wrap .i64 (3*y4.1))-(wrap .i64 (3*y5.1))))+y6.1))) (cond (x.2==4) ((a1i (1,x.1)).bind fun y7=>(a1i (2,y7.2)).bind fun y8=>(a1i (3,y8.2)).bind fun y9=>(a1i (4,y9.2)).bind fun y10=>some (wrap .i64 ((wrap .i64 ((wrap .i64 ((wrap .i64 (4*y7.1))-(wrap .i64 (6*y8.1))))+(wrap .i64 (4*y9.1))))-y10.1))) (some 0))))
def c2a:FSem:=⟨[.v QL,.v QI],[.v QI],a9z⟩
def a7V(s:Z59):Option (Z59 ⊕ Z45):=(fun(a b:Int)(c:LI)=>cond (decide (b<a)) ((m0k s.2.1 b).bind fun x5=>(a9z (c,s.1)).bind fun y6=>(a2M [wrap .i64 (x5+y6)]).bind fun y7=>cond (!y7) (some (.inr (Sum.inr ((6,[],()))))) (cond (lim ((a00 c)+1)) (some (.inl (s.1,s.2.1,a,wrap .i64 (b+1),a02 c [wrap .i64 (x5+y6)],()))) none)) (some (.inr (Sum.inl (c,()))))) s.2.2.1 s.2.2.2.1 s.2.2.2.2.1
def b0B(x:Z9):Option (LI×Int):=(show Option Z48 from cond (decide (x.2.2<0)) (some (x.1,x.2.1,x.2.2,true,())) (cond (decide (x.2.2 > 4)) (some (x.1,x.2.1,x.2.2,true,())) (some (x.1,x.2.1,x.2.2,(x.1.length:Int) != x.2.2,())))).bind fun z1=>cond z1.2.2.2.1 (some ([],1)) ((show Option Z48 from(a2M z1.1).bind fun y2=>cond (!y2) (some (z1.1,z1.2.1,z1.2.2.1,true,())) ((a2M z1.2.1).bind fun y3=>some (z1.1,z1.2.1,z1.2.2.1,!y3,()))).bind fun z4=>cond z4.2.2.2.1 (some ([],6)) (cond (lim (a00 z4.1)) ((y0s a7V (z4.2.2.1,z4.2.1,(z4.2.1.length:Int),0,z4.1,())).bind fun w8=>match w8 with |.inl a9=>some (a9.1,0) |.inr b10=>some (b10.2.1,b10.1)) none))
def c3b:FSem:=⟨[.v QL,.v QL,.v QI],[.o QI,.v QI],b0B⟩
def d7L:Hints:=⟨[(250,[2,.sv 34 QL,35,36,.own 8 8 QI],[Qe 0 [.own 8 8 QI],Qr [7,.own 6 6 QI]])],[(6,[Qn [.sv 0 QL,.sv 1 QL,2,.sv 23 .bool]]),(14,[Qn [.sv 0 QL,.sv 1 QL,2,.sv 31 .bool]])],[]⟩
def a6S(s:(LI×Z59)):Option ((LI×Z59) ⊕ Z45):=(fun(a:LI)(b c:Int)(d:LI)=>cond (decide (c<b)) ((m0k a c).bind fun x6=>(a4N (d,s.1,s.2.1)).bind fun y7=>(a5m (wrap .i64 (y7+x6))).bind fun y8=>cond (!y8) (some (.inr (Sum.inr ((6,[],()))))) (cond (lim ((a00 d)+1)) (some (.inl (s.1,s.2.1,a,b,wrap .i64 (c+1),a02 d [wrap .i64 (y7+x6)],()))) none)) (some (.inr (Sum.inl (d,()))))) s.2.2.1 s.2.2.2.1 s.2.2.2.2.1 s.2.2.2.2.2.1
def a7n(x:(LI×Z9)):Option (LI×Int):=(show Option (LI×Z48)from(a4K (x.2.2.1,x.2.2.2)).bind fun y1=>cond (!y1) (some (x.1,x.2.1,x.2.2.1,x.2.2.2,true,())) (some (x.1,x.2.1,x.2.2.1,x.2.2.2,(x.1.length:Int) != (x.2.2.1.length:Int),()))).bind fun z2=>cond z2.2.2.2.2.1 (some ([],1)) ((show Option (LI×Z48)from(a2D z2.1).bind fun y3=>cond (!y3) (some (z2.1,z2.2.1,z2.2.2.1,z2.2.2.2.1,true,())) ((a2D z2.2.1).bind fun y4=>some (z2.1,z2.2.1,z2.2.2.1,z2.2.2.2.1,!y4,()))).bind fun z5=>cond z5.2.2.2.2.1 (some ([],6)) (cond ((decide (0≤(wrap .i64 ((z5.1.length:Int)+(z5.2.1.length:Int)))))&&(lim (a01 (wrap .i64 ((z5.1.length:Int)+(z5.2.1.length:Int)))))) (cond (lim (0+(a00 z5.1))) ((y0s a6S (z5.2.2.1,z5.2.2.2.1,z5.2.1,(z5.2.1.length:Int),0,a02 [] z5.1,())).bind fun w9=>match w9 with |.inl a10=>some (a10.1,0) |.inr b11=>some (b11.2.1,b11.1)) none) none))
def c2b:FSem:=⟨[.v QL,.v QL,.v QL,.v QI],[.o QI,.v QI],a7n⟩
def d7M:Hints:=⟨[(506,[.sv 2 QL,3,.sv 42 QL,43,44,.own 10 10 QI],[Qe 0 [.own 10 10 QI],Qr [9,.own 8 8 QI]])],[(6,[Qn [.sv 0 QL,.sv 1 QL,.sv 2 QL,3,.sv 24 .bool]]),(14,[Qn [.sv 0 QL,.sv 1 QL,.sv 2 QL,3,.sv 32 .bool]])],[]⟩
def a8C(s:Z88):Option (Z88 ⊕ Z45):=(fun(a b:Int)(c d:LI)=>cond (decide (b<a)) ((m0k s.2.1 b).bind fun x3=>(a4x (c,b,s.1,d)).bind fun y4=>(a7D (wrap .i64 (x3+y4))).bind fun y5=>cond (!y5) (some (.inr (Sum.inr ((6,[],()))))) (cond (lim ((a00 c)+1)) (some (.inl (s.1,s.2.1,a,wrap .i64 (b+1),a02 c [wrap .i64 (x3+y4)],d,()))) none)) (some (.inr (Sum.inl (c,()))))) s.2.2.1 s.2.2.2.1 s.2.2.2.2.1 s.2.2.2.2.2.1
def b1B(x:(LI×(Int×LI))):Option (LI×Int):=(a8z (x.2.1,x.2.2)).bind fun y1=>cond (!y1) (some ([],1)) ((a4w x.1).bind fun y2=>cond (!y2) (some ([],6)) (cond ((decide (0≤(x.1.length:Int)))&&(lim (a01 (x.1.length:Int)))) ((y0s a8C (x.2.1,x.1,(x.1.length:Int),0,[],x.2.2,())).bind fun w6=>match w6 with |.inl a7=>some (a7.1,0) |.inr b8=>some (b8.2.1,b8.1)) none))
def c5i:FSem:=⟨[.v QL,.v QI,.v (.arr 3 QI)],[.o QI,.v QI],b1B⟩
def d7N:Hints:=⟨[(250,[1,.sv 22 QL,23,24,.own 8 8 QI,.vp 5 (.arr 3 QI)],[Qe 0 [.own 8 8 QI],Qr [7,.own 6 6 QI]])],[],[]⟩
def a5z(s:(Int×(Int×(LI×Z89)))):Option ((Int×(Int×(LI×Z89))) ⊕ (Z24 ⊕ Z24)):=(fun(a:Int)(b:LI)(c:Int)(d:LI)=>cond (decide (a<s.1)) (cond ((decide (0≤a))&&(decide (a<(d.length:Int)))) ((a2c s.2.2.2.2.2.1).bind fun y6=>(a6p (wrap .i64 (y6.1+(a04 d (a01 a) 0)))).bind fun y7=>cond (!y7) (some (.inr (Sum.inr (([],6,d,()))))) ((a3d (y6.2,wrap .i64 (y6.1+(a04 d (a01 a) 0)))).bind fun y8=>cond ((decide (0≤a))&&(decide (a<(d.length:Int)))) (some (.inl (s.1,wrap .i64 (a+1),b,c,a18 d (a01 a) (wrap .i64 (y6.1+(a04 d (a01 a) 0))),y8,()))) none)) none) (some (.inr (Sum.inl (b,c,d,()))))) s.2.1 s.2.2.1 s.2.2.2.1 s.2.2.2.2.1
def a7W(k:Int)(v:(Int×Int×Unit))(s:(Z6×Z24)):Option ((Z6×Z24) ⊕ (Ex×Z6×Z24)):=(a9l v).bind fun y4=>cond (y4.2 != 0) (some (.inr (.ret,s.1,[],y4.2,s.2.2.2.1,()))) ((y0s a5z ((s.2.2.2.1.length:Int),0,s.2.1,s.2.2.1,s.2.2.2.1,y4.1,())).bind fun w9=>match w9 with |.inl a10=>some (.inl (s.1,a10.1,a10.2.1,a10.2.2.1,())) |.inr b11=>some (.inr (.ret,s.1,b11.1,b11.2.1,b11.2.2.1,())))
def b0C(x:(LI×Z6)):Option (LI×Int):=(a7C x.2).bind fun y1=>cond (!y1) (some ([],1)) ((a5v x.1).bind fun y2=>cond (!y2) (some ([],6)) ((a1e x.1).bind fun y3=>cond (lim (a00 x.2)) ((l0f a7W x.2 (a00 x.2) (x.2,[],0,y3,())).bind fun w12=>match w12 with |.inl a13=>some (a13.2.2.2.1,0) |.inr (.normal,a14)=>some (a14.2.2.2.1,0) |.inr (.exit e15,a14)=>(cond (e15==0) (some (a14.2.2.2.1,0)) none) |.inr (.ret,a14)=>some (a14.2.1,a14.2.2.1)) none))
def b0D:FSem:=⟨[.v QL,.v (.list false Q3)],[.v QL,.v QI],b0C⟩
def d7O:Hints:=⟨[(8046,[35,36,.box 1001004 QL,.box 1001005 QI,.box 1001006 (.list true QI),.box 1028 Q15,Qp 4 1001004,Qp 5 1001005,Qp 6 1001006,Qp 9 1028,.ref 34 1001006 []],[Qe 2 [.box 1001004 QL,.box 1001005 QI,.box 1001006 (.list true QI),Qp 4 1001004,Qp 5 1001005,Qp 6 1001006],Qr [.box 1001004 QL,.box 1001005 QI,.box 1001006 (.list true QI),Qp 4 1001004,Qp 5 1001005,Qp 6 1001006]])],[],[]⟩
def d1Z:Cx:=b2I [(192,a1S),(201,b6O),(247,b3l),(249,b6Q),(250,a9X),(251,b5K),(252,b1b)] [(6,.list true QI)] 15875 72057594037927936
def d3T:HintR:=⟨22,Q3,248,291,[4,5,6],[.sv 22 (.list false Q3),.box 1001004 QL,.box 1001005 QI,.box 1001006 (.list true QI),.ptr 4 1001004 [],.ptr 5 1001005 [],.ptr 6 1001006 []]⟩
theorem d4Y(x):z0h d1Z d7O d3T Tryz.f162 b0D.ps b0D.rs x=b0D.F x:=by kernel_rfl
def a8D(s:Z59):Option (Z59 ⊕ Z45):=(fun(a:Int)(b:LI)(c d:Int)(e:LI)=>cond (decide (d<c)) ((m0k b d).bind fun x2=>(show Option (Int×(Int×(LI×(Int×(Int×(Bool×(LI×Unit)))))))from(a5l x2).bind fun y3=>cond (!y3) (some (a,x2,b,c,d,true,e,())) (cond (decide (a<0)) none ((a5l (A0n .i64 x2 a)).bind fun y4=>some (a,x2,b,c,d,!y4,e,())))).bind fun z5=>cond z5.2.2.2.2.2.1 (some (.inr (Sum.inr ((6,[],()))))) (cond (decide (z5.1<0)) none (cond (lim ((a00 z5.2.2.2.2.2.2.1)+1)) (some (.inl (z5.1,z5.2.2.1,z5.2.2.2.1,wrap .i64 (z5.2.2.2.2.1+1),a02 z5.2.2.2.2.2.2.1 [A0n .i64 z5.2.1 z5.1],()))) none))) (some (.inr (Sum.inl (e,()))))) s.1 s.2.1 s.2.2.1 s.2.2.2.1 s.2.2.2.2.1
def a9o(x:(LI×Int)):Option (LI×Int):=(show Option Z16 from cond (decide (x.2<0)) (some (x.1,x.2,true,())) (some (x.1,x.2,decide (x.2 > 30),()))).bind fun z1=>cond z1.2.2.1 (some ([],1)) ((y0s a8D (z1.2.1,z1.1,(z1.1.length:Int),0,[],())).bind fun w6=>match w6 with |.inl a7=>some (a7.1,0) |.inr b8=>some (b8.2.1,b8.1))
def c5j:FSem:=⟨[.v QL,.v QI],[.o QI,.v QI],a9o⟩
def d7P:Hints:=⟨[(122,[1,.sv 15 QL,16,17,.own 6 6 QI],[Qe 0 [.own 6 6 QI],Qr [5,.own 4 4 QI]])],[(6,[Qn [.sv 0 QL,1,.sv 14 .bool]]),(15666,[Qn [1,8,.sv 15 QL,16,17,.sv 30 .bool,.own 6 6 QI]])],[]⟩
def a7o(s:(Int×(Int×(LI×b4r)))):Option ((Int×(Int×(LI×b4r))) ⊕ (LI×Unit)):=cond (decide (s.2.1<s.1)) ((m0k s.2.2.2.1.2.2.2.2.2.2.2.2.1 0).bind fun x1=>cond (lim ((a00 s.2.2.1)+1)) (some (.inl (s.1,wrap .i64 (s.2.1+1),a02 s.2.2.1 [x1],s.2.2.2.1,()))) none) (some (.inr (s.2.2.1,())))
def b2k(x:b3F):Option (LI×Int):=(show Option ((LI×(Int×b4r)) ⊕ Z5)from cond (x.1.1==0) ((y0s a7o (x.2,0,[],x.1,())).bind fun w2=>some (Sum.inr ((0,w2.1,())))) (cond (x.1.1==1) (some (Sum.inl (x.1.2.2.2.2.2.2.2.2.1,0,x.1,()))) (cond (x.1.1==2) ((b0B (x.1.2.2.2.2.2.2.2.2.1,x.1.2.2.2.2.2.2.2.2.2.2.1,x.1.2.2.1)).bind fun y3=>some (Sum.inl (y3.1,y3.2,x.1,()))) (cond (x.1.1==3) ((a7n (x.1.2.2.2.2.2.2.2.2.1,x.1.2.2.2.2.2.2.2.2.2.2.1,x.1.2.2.2.2.2.1,x.1.2.2.2.1)).bind fun y4=>some (Sum.inl (y4.1,y4.2,x.1,()))) (cond (x.1.1==4) ((a7n (x.1.2.2.2.2.2.2.2.2.1,x.1.2.2.2.2.2.2.2.2.2.2.1,x.1.2.2.2.2.2.1,x.1.2.2.2.1)).bind fun y5=>cond (y5.2==0) ((b1B (y5.1,x.1.2.2.2.2.1,x.1.2.2.2.2.2.2.1)).bind fun y6=>some (Sum.inl (y6.1,y6.2,x.1,()))) (some (Sum.inl (y5.1,y5.2,x.1,())))) (cond (x.1.1==5) ((b0C (x.1.2.2.2.2.2.2.2.2.2.2.1,x.1.2.2.2.2.2.2.2.1)).bind fun y7=>some (Sum.inl (y7.1,y7.2,x.1,()))) (some (Sum.inl ([],0,x.1,()))))))))).bind fun z8=>match z8 with |.inl a9=>(cond (a9.2.1 != 0) (some ([],a9.2.1)) ((a9o (a9.1,a9.2.2.1.2.1)).bind fun y11=>some (y11.1,y11.2))) |.inr b10=>some (b10.2.1,b10.1)
def c6W:FSem:=⟨[.v Q40,.v QI],[.o QI,.v QI],b2k⟩
def H76:Hints:=⟨[(3922,[12,13,.own 6 6 QI,.vp 2 Q40],[Qe 1 [.own 6 6 QI]])],[(15,[Qn [.sv 6 QL,7,.vp 2 Q40],Qr [5,.own 4 6 QI]])],[]⟩
end Go.Ab
namespace Go.Ab
open IntKind(wrap)
open Go.Proofs
set_option maxRecDepth 100000
set_option linter.unusedVariables false
def b1W(x:b3F):Option (LI×Int):=(b0A (x.1,x.2)).bind fun y1=>cond (!y1) (some ([],1)) ((b2k (x.1,x.2)).bind fun y2=>cond (y2.2 != 0) (some ([],1)) (some (y2.1,0)))
def c8O:FSem:=⟨[.v Q40,.v QI],[.o QI,.v QI],b1W⟩
def a9R(x:b3F):Option Bool:=(b1W (x.1,x.2)).bind fun y1=>some (y1.2==0)
def c8P:FSem:=⟨[.v Q40,.v QI],[.v .bool],a9R⟩
def a2j(x:(Z4×Int)):Option Z4:=(show Option Z34 from cond ((a06 x.1.2.1 8)==0) (cond (lim ((a00 x.1.1)+1)) (some (x.2,(a02 x.1.1 [0],x.1.2),())) none) (some (x.2,x.1,()))).bind fun z1=>cond ((decide (0≤(wrap .i64 (a07 z1.2.1.2.1 8))))&&(decide ((wrap .i64 (a07 z1.2.1.2.1 8))<(z1.2.1.1.length:Int)))) (cond (decide ((wrap .i64 (7-(a06 z1.2.1.2.1 8)))<0)) none (cond ((decide (0≤(wrap .i64 (a07 z1.2.1.2.1 8))))&&(decide ((wrap .i64 (a07 z1.2.1.2.1 8))<(z1.2.1.1.length:Int)))) (some (a18 z1.2.1.1 (a01 (wrap .i64 (a07 z1.2.1.2.1 8))) (bits .u8 .or (a04 z1.2.1.1 (a01 (wrap .i64 (a07 z1.2.1.2.1 8))) 0) (A0n .u8 z1.1 (wrap .i64 (7-(a06 z1.2.1.2.1 8))))),wrap .i64 (z1.2.1.2.1+1),z1.2.1.2.2)) none)) none
def b6C:FSem:=⟨[.r false (.b Q7),.v QV],[],a2j⟩
def d7Q:Hints:=⟨[],[(1,[Qn [.sv 1 QV,.box pinned Q7,Qp 0 pinned]])],[(2,[.p,.p,.q,.q,.p,.p,.q,.q,.v,.q,.q,.v,.p,.p,.q,.q,.v,.v,.v,.x,.x,.x])]⟩
def a4j(s:Z53):Option (Z53 ⊕ Z18):=cond (decide (s.2.1≥0)) (cond (decide (s.2.1<0)) none ((a2j (s.2.2.1,wrap .u8 (bits .u64 .and (A0o .u64 s.1 s.2.1) 1))).bind fun y2=>some (.inl (s.1,wrap .i64 (s.2.1-1),y2,())))) (some (.inr (s.2.2.1,())))
def a0G(x:(Z4×Int×Int)):Option Z14:=(show Option (Int×Int×Bool×Z18)from cond (decide (x.2.2<0)) (some (x.2.1,x.2.2,true,x.1,())) (cond (decide (x.2.2 > 64)) (some (x.2.1,x.2.2,true,x.1,())) (cond (decide (x.2.2<0)) none (some (x.2.1,x.2.2,(A0o .u64 x.2.1 x.2.2) != 0,x.1,()))))).bind fun z1=>cond z1.2.2.1 (some (1,z1.2.2.2.1)) ((y0s a4j (z1.1,wrap .i64 (z1.2.1-1),z1.2.2.2.1,())).bind fun w3=>some (0,w3.1))
def b6D:FSem:=⟨[.r false (.b Q7),.v QU,.v QI],[.v QI],a0G⟩
def d7R:Hints:=⟨[(58,[.sv 1 QU,7,.box pinned Q7,Qp 0 pinned],[Qe 0 [.box pinned Q7]])],[(6,[Qn [.sv 1 QU,2,.sv 19 .bool,.box pinned Q7,Qp 0 pinned]])],[]⟩
def a2N(x:(Z4×Int×Int)):Option Z4:=cond (decide (x.2.2<0)) none ((a0G (x.1,bits .u64 .and (wrap .u64 x.2.1) (wrap .u64 ((A0n .u64 1 x.2.2)-1)),x.2.2)).bind fun y1=>some y1.2)
def b8h:FSem:=⟨[.r false (.b Q7),.v QI,.v QI],[],a2N⟩
def a6a(s:Z93):Option (Z93 ⊕ Z18):=(fun(a b:Int)(c:Z4)=>cond (decide (b<a)) ((m0k s.2.1 b).bind fun x6=>(a2N (c,x6,s.1)).bind fun y7=>some (.inl (s.1,s.2.1,a,wrap .i64 (b+1),y7,()))) (some (.inr (c,())))) s.2.2.1 s.2.2.2.1 s.2.2.2.2.1
def a8E(x:(Z4×a1D)):Option Z4:=(a0G (x.1,wrap .u64 (wrap .i64 ((x.2.2.2.2.2.2.1.length:Int)-1)),5)).bind fun y1=>(a0G (y1.2,wrap .u64 x.2.2.2.2.1,4)).bind fun y2=>(a1y x.2.2.2.2.2.2.1).bind fun y3=>(a0G (y2.2,wrap .u64 y3,5)).bind fun y4=>(y0s a6a (y3,x.2.2.2.2.2.2.1,(x.2.2.2.2.2.2.1.length:Int),0,y4.2,())).bind fun w8=>some w8.1
def b9E:FSem:=⟨[.r false (.b Q7),.v Q40],[],a8E⟩
def d7S:Hints:=⟨[(254,[4,.sv 27 QL,28,29,.box pinned Q7,Qp 0 pinned],[Qe 0 [.box pinned Q7]])],[],[]⟩
def a3n(s:Z53):Option (Z53 ⊕ Z18):=cond (decide (s.2.1<s.1)) ((a2j (s.2.2.1,0)).bind fun y2=>some (.inl (s.1,wrap .i64 (s.2.1+1),y2,()))) (some (.inr (s.2.2.1,())))
def a2s(x:(Z4×Int)):Option Z14:=(show Option (Int×Bool×Z18)from cond (decide (x.2<0)) (some (x.2,true,x.1,())) (some (x.2,decide (x.2 > 4096),x.1,()))).bind fun z1=>cond z1.2.1 (some (1,z1.2.2.1)) ((y0s a3n (z1.1,0,z1.2.2.1,())).bind fun w3=>(a2j (w3.1,1)).bind fun y4=>some (0,y4))
def b5A:FSem:=⟨[.r false (.b Q7),.v QI],[.v QI],a2s⟩
def d7T:Hints:=⟨[(58,[11,12,.box pinned Q7,Qp 0 pinned],[Qe 0 [.box pinned Q7,Qp 0 pinned]])],[(6,[Qn [1,.sv 10 .bool,.box pinned Q7,Qp 0 pinned]])],[]⟩
def a9A(s:(Int×(LI×Z81))):Option ((Int×(LI×Z81)) ⊕ ((Int×(LI×Z18)) ⊕ Z34)):=(fun(a:LI)(b c:Int)(d:Z4)=>cond (decide (c<b)) ((m0k a c).bind fun x2=>(a7F x2).bind fun y3=>cond (!y3) (some (.inr (Sum.inr ((1,d,()))))) (some (.inl (s.1,s.2.1,a,b,wrap .i64 (c+1),d,())))) (some (.inr (Sum.inl (s.1,s.2.1,d,()))))) s.2.2.1 s.2.2.2.1 s.2.2.2.2.1 s.2.2.2.2.2.1
def a7p(s:Z93):Option (Z93 ⊕ Z18):=(fun(a:Int)(b:LI)(c d:Int)(e:Z4)=>cond (decide (d<c)) ((m0k b d).bind fun x7=>(a9n x7).bind fun y8=>cond (decide (a<0)) none (cond (decide ((A0o .u64 y8 a)<32)) ((a2s (e,wrap .i64 (A0o .u64 y8 a))).bind fun y9=>cond (decide (a<0)) none ((a0G (y9.2,wrap .u64 (y8-(A0n .u64 (A0o .u64 y8 a) a)),a)).bind fun y10=>some (.inl (a,b,c,wrap .i64 (d+1),y10.2,())))) ((a2s (e,32)).bind fun y11=>(a0G (y11.2,y8,32)).bind fun y12=>some (.inl (a,b,c,wrap .i64 (d+1),y12.2,()))))) (some (.inr (e,())))) s.1 s.2.1 s.2.2.1 s.2.2.2.1 s.2.2.2.2.1
def b2l(x:(Z4×(Int×LI))):Option Z14:=(a1Z x.2.1).bind fun y1=>cond (!y1) (some (1,x.1)) ((y0s a9A (x.2.1,x.2.2,x.2.2,(x.2.2.length:Int),0,x.1,())).bind fun w4=>match w4 with |.inl a5=>((y0s a7p (a5.1,a5.2.1,(a5.2.1.length:Int),0,a5.2.2.1,())).bind fun w13=>some (0,w13.1)) |.inr b6=>some (b6.1,b6.2.1))
def c6X:FSem:=⟨[.r false (.b Q7),.v QI,.v QL],[.v QI],b2l⟩
def d7U:Hints:=⟨[(58,[1,.sv 2 QL,.sv 16 QL,17,18,.box pinned Q7,Qp 0 pinned],[Qe 0 [1,.sv 2 QL,.box pinned Q7,Qp 0 pinned],Qr [6,.box pinned Q7]]),(122,[1,.sv 26 QL,27,28,.box pinned Q7,Qp 0 pinned],[Qe 2 [.box pinned Q7]])],[],[]⟩
def a8F(s:(LI×(Int×Int×Int×c2H))):Option ((LI×(Int×Int×Int×c2H)) ⊕ c2H):=(fun(a b c:Int)(d:LI)(e f:Int)(g:LI)(h:Z4)(i:Z5)=>cond (decide (f<e)) ((m0k d f).bind fun x11=>cond (decide (a<0)) none ((a0G (h,bits .u64 .and (wrap .u64 x11) (wrap .u64 ((A0n .u64 1 a)-1)),a)).bind fun y12=>some (.inl (s.1,a,b,c,d,e,wrap .i64 (f+1),g,y12.2,i,())))) (some (.inr (s.1,b,c,g,h,i,())))) s.2.1 s.2.2.1 s.2.2.2.1 s.2.2.2.2.1 s.2.2.2.2.2.1 s.2.2.2.2.2.2.1 s.2.2.2.2.2.2.2.1 s.2.2.2.2.2.2.2.2.1 s.2.2.2.2.2.2.2.2.2.1
def a4z(s:c2H):Option (c2H ⊕ Z18):=(fun(a:LI)(b c:Int)(d:LI)(e:Z4)(f:Z5)=>cond (decide (c<b)) (cond ((decide (0≤c))&&(decide (c<(d.length:Int)))) (cond ((decide (0≤(a04 d (a01 c) 0)))&&(decide ((a04 d (a01 c) 0)≤(a.length:Int)))) (cond ((decide (0≤(a04 d (a01 c) 0)))&&(decide ((a04 d (a01 c) 0)≤(a.length:Int)))) ((m0k f.2.1 c).bind fun x4=>(a0G (e,wrap .u64 x4,5)).bind fun y5=>(m0k f.2.1 c).bind fun x6=>cond (x6 != 31) ((m0k f.2.1 c).bind fun x7=>(b2l (y5.2,x7,a05 (a01 (a04 d (a01 c) 0)) a)).bind fun y8=>some (.inl (a08 (a01 (a04 d (a01 c) 0)) (a05 (a00 a) a),b,wrap .i64 (c+1),d,y8.2,f,()))) ((a1y (a05 (a01 (a04 d (a01 c) 0)) a)).bind fun y9=>(a0G (y5.2,wrap .u64 y9,5)).bind fun y10=>(y0s a8F (a08 (a01 (a04 d (a01 c) 0)) (a05 (a00 a) a),y9,b,c,a05 (a01 (a04 d (a01 c) 0)) a,((a00 (a05 (a01 (a04 d (a01 c) 0)) a):Nat):Int),0,d,y10.2,f,())).bind fun w13=>some (.inl (w13.1,w13.2.1,wrap .i64 (w13.2.2.1+1),w13.2.2.2.1,w13.2.2.2.2.1,w13.2.2.2.2.2.1,())))) none) none) none) (some (.inr (e,())))) s.1 s.2.1 s.2.2.1 s.2.2.2.1 s.2.2.2.2.1 s.2.2.2.2.2.1
def b1C(x:(Z4×Z5×Z1)):Option Z14:=(a4P (x.2.1,x.2.2.1,x.2.2.2.1,x.2.2.2.2)).bind fun y1=>cond (y1==0) (some (1,x.1)) ((a0G (x.1,wrap .u64 x.2.1.1,4)).bind fun y2=>(a2V (x.2.1.1,x.2.2.1,x.2.2.2.1)).bind fun y3=>(y0s a4z (x.2.2.2.2,(y3.length:Int),0,y3,y2.2,x.2.1,())).bind fun w14=>some (0,w14.1))
def c5k:FSem:=⟨[.r false (.b Q7),.v Q9,.v QI,.v QI,.v QL],[.v QI],b1C⟩
def d7V:Hints:=⟨[(122,[.sv 4 QL,33,34,.own 32 1032 QI,.box pinned Q7,Qp 0 pinned,.vp 6 Q9],[Qe 0 [.box pinned Q7]]),(2005502,[.sv 4 QL,14,33,34,.sv 73 QL,74,75,.own 32 1032 QI,.box pinned Q7,Qp 0 pinned,.vp 6 Q9],[Qe 2 [.sv 4 QL,33,34,.own 32 1032 QI,.box pinned Q7,Qp 0 pinned,.vp 6 Q9]])],[],[]⟩
def b0E(s:(Int×(Int×(LI×c6M)))):Option ((Int×(Int×(LI×c6M))) ⊕ b3G):=(fun(a:LI)(b:Int)(c:Z4)(d:a1D)=>cond (decide (b<3)) ((m0k a b).bind fun x8=>(a2N (c,x8,8)).bind fun y9=>some (.inl (s.1,s.2.1,a,wrap .i64 (b+1),y9,d,()))) (some (.inr (s.1,s.2.1,c,d,())))) s.2.2.1 s.2.2.2.1 s.2.2.2.2.1 s.2.2.2.2.2.1
def b0F(s:(Int×Int×Z6×b3G)):Option ((Int×Int×Z6×b3G) ⊕ b3G):=(fun(a:Z6)(b c:Int)(d:Z4)(e:a1D)=>cond (decide (c<b)) ((m0k a c).bind fun x18=>(a0G (d,wrap .u64 (wrap .i64 (x18.1-1)),5)).bind fun y19=>(a0G (y19.2,wrap .u64 x18.2.1,4)).bind fun y20=>some (.inl (s.1,s.2.1,a,b,wrap .i64 (c+1),y20.2,e,()))) (some (.inr (s.1,s.2.1,d,e,())))) s.2.2.1 s.2.2.2.1 s.2.2.2.2.1 s.2.2.2.2.2.1 s.2.2.2.2.2.2.1
def b0G(s:(Int×(Int×(LI×b3G)))):Option ((Int×(Int×(LI×b3G))) ⊕ c6M):=(fun(a:LI)(b c:Int)(d:Z4)(e:a1D)=>cond (decide (c<b)) ((m0k a c).bind fun x23=>(a2N (d,x23,s.2.1)).bind fun y24=>some (.inl (s.1,s.2.1,a,b,wrap .i64 (c+1),y24,e,()))) (some (.inr (s.1,d,e,())))) s.2.2.1 s.2.2.2.1 s.2.2.2.2.1 s.2.2.2.2.2.1 s.2.2.2.2.2.2.1
def a9S(x:(Z4×b3F)):Option Z14:=(a9R (x.2.1,x.2.2)).bind fun y1=>cond (!y1) (some (1,x.1)) ((a1y x.2.1.2.2.2.2.2.2.2.2.1).bind fun y2=>(a0G (x.1,wrap .u64 x.2.1.1,3)).bind fun y3=>(a0G (y3.2,wrap .u64 x.2.1.2.1,5)).bind fun y4=>(a0G (y4.2,wrap .u64 y2,5)).bind fun y5=>(show Option b3G from(show Option (b3G ⊕ (b3G ⊕ b3G))from cond (x.2.1.1==2) ((a0G (y5.2,wrap .u64 x.2.1.2.2.1,3)).bind fun y6=>some (Sum.inr (Sum.inl (x.2.2,y2,y6.2,x.2.1,())))) (cond (x.2.1.1==4) ((a0G (y5.2,wrap .u64 (wrap .i64 (x.2.1.2.2.2.2.1-1)),10)).bind fun y7=>(y0s b0E (x.2.2,y2,x.2.1.2.2.2.2.2.2.1,0,y7.2,x.2.1,())).bind fun w10=>some (Sum.inl (w10.1,w10.2.1,w10.2.2.1,w10.2.2.2.1,()))) (cond (x.2.1.1==3) (some (Sum.inl (x.2.2,y2,y5.2,x.2.1,()))) (cond (x.2.1.1==5) (some (Sum.inr (Sum.inr ((x.2.2,y2,y5.2,x.2.1,()))))) (some (Sum.inr (Sum.inl (x.2.2,y2,y5.2,x.2.1,())))))))).bind fun z11=>match z11 with |.inl a12=>((a8E (a12.2.2.1,a12.2.2.2.1)).bind fun y14=>some (a12.1,a12.2.1,y14,a12.2.2.2.1,())) |.inr b13=>(match b13 with |.inl a15=>some (a15.1,a15.2.1,a15.2.2.1,a15.2.2.2.1,()) |.inr b16=>((a0G (b16.2.2.1,wrap .u64 (b16.2.2.2.1.2.2.2.2.2.2.2.1.length:Int),2)).bind fun y17=>(y0s b0F (b16.1,b16.2.1,b16.2.2.2.1.2.2.2.2.2.2.2.1,(b16.2.2.2.1.2.2.2.2.2.2.2.1.length:Int),0,y17.2,b16.2.2.2.1,())).bind fun w21=>some (w21.1,w21.2.1,w21.2.2.1,w21.2.2.2.1,())))).bind fun z22=>(y0s b0G (z22.1,z22.2.1,z22.2.2.2.1.2.2.2.2.2.2.2.2.1,(z22.2.2.2.1.2.2.2.2.2.2.2.2.1.length:Int),0,z22.2.2.1,z22.2.2.2.1,())).bind fun w25=>(a6q w25.2.2.1.1).bind fun y26=>cond (!y26) (some (0,w25.2.1)) ((b1C (w25.2.1,w25.2.2.1.2.2.2.2.2.2.2.2.2.1,w25.1,(w25.2.2.1.2.2.2.2.2.2.2.2.1.length:Int),w25.2.2.1.2.2.2.2.2.2.2.2.2.2.1)).bind fun y27=>some (y27.1,y27.2)))
def c8Q:FSem:=⟨[.r false (.b Q7),.v Q40,.v QI],[.v QI],a9S⟩
def H45:Hints:=⟨[(2042,[2,7,.sv 94 QL,95,96,.box pinned Q7,Qp 0 pinned,.vp 4 Q40],[Qe 9 [2,.box pinned Q7,Qp 0 pinned,.vp 4 Q40]]),(32598,[2,7,.sv 75 (.list false Q3),76,77,.box pinned Q7,Qp 0 pinned,.vp 4 Q40],[Qe 7 [2,7,.box pinned Q7,Qp 0 pinned,.vp 4 Q40]]),(260622,[2,7,.sv 57 (.arr 3 QI),58,.box pinned Q7,Qp 0 pinned,.vp 4 Q40],[Qe 5 [2,7,.box pinned Q7,Qp 0 pinned,.vp 4 Q40]])],[(127,[Qn [2,7,.box pinned Q7,Qp 0 pinned,.vp 4 Q40]]),(4072,[Qn [2,7,.box pinned Q7,Qp 0 pinned,.vp 4 Q40],Qe 0 [2,7,.box pinned Q7,Qp 0 pinned,.vp 4 Q40],Qe 4 [2,7,.box pinned Q7,Qp 0 pinned,.vp 4 Q40]])],[]⟩
def a9b(x:Z4):Option Z14:=some (x.2.1,x)
def b6E:FSem:=⟨[.r false (.b Q7)],[.v QI],a9b⟩
def a4k(x:b3F):Option Int:=(a9S (([],0,()),x.1,x.2)).bind fun y1=>cond (y1.1 != 0) (some 0) ((a9b y1.2).bind fun y2=>some y2.1)
def c6Y:FSem:=⟨[.v Q40,.v QI],[.v QI],a4k⟩
def a4Q(s:Z47):Option (Z47 ⊕ (Int×Unit)):=(fun(a:Int)(b:LI)(c d:Int)=>cond (decide (d<c)) ((m0k b d).bind fun x1=>cond (decide ((wrap .i64 (d+s.1))≥4)) (some (.inl (s.1,wrap .i64 (a+(v0r x1 (wrap .i64 (0-x1)))),b,c,wrap .i64 (d+1),()))) (some (.inl (s.1,a,b,c,wrap .i64 (d+1),())))) (some (.inr (a,())))) s.2.1 s.2.2.1 s.2.2.2.1 s.2.2.2.2.1
def a9B(x:(LI×Int)):Option Int:=(y0s a4Q (x.2,0,x.1,(x.1.length:Int),0,())).bind fun w2=>some w2.1
def c2c:FSem:=⟨[.v QL,.v QI],[.v QI],a9B⟩
def d7W:Hints:=⟨[(58,[1,5,.sv 8 QL,9,10],[Qe 0 [5]])],[],[]⟩
def a3M(s:Z30):Option (Z30 ⊕ (Int×Unit)):=(fun(a:LI)(b c d:Int)=>cond (decide (d≤4)) ((a4M (a,d)).bind fun y1=>cond (y1.2 != 0) (some (.inl (a,b,c,wrap .i64 (d+1),()))) ((a9B (y1.1,d)).bind fun y2=>(show Option (LI×(Int×Z21))from cond (decide (c<0)) (some (a,b,c,d,y2,true,())) (some (a,b,c,d,y2,decide (y2<c),()))).bind fun z3=>cond z3.2.2.2.2.2.1 (some (.inl (z3.1,z3.2.2.2.1,z3.2.2.2.2.1,wrap .i64 (z3.2.2.2.1+1),()))) (some (.inl (z3.1,z3.2.1,z3.2.2.1,wrap .i64 (z3.2.2.2.1+1),()))))) (some (.inr (b,())))) s.1 s.2.1 s.2.2.1 s.2.2.2.1
def a6r(x:LI):Option Int:=(y0s a3M (x,0,(-1),0,())).bind fun w4=>some w4.1
def c3c:FSem:=⟨[.v QL],[.v QI],a6r⟩
def d7X:Hints:=⟨[(58,[.sv 0 QL,3,4,5],[Qe 0 [3]])],[(7463,[Qn [.sv 0 QL,3,4,5,8,.sv 30 .bool]])],[]⟩
def a2F(x:Int):Option Int:=some (v0s (v0r x (-1048576)) 1048575)
def b9F:FSem:=⟨[.v QI],[.v QI],a2F⟩
def a3y(s:Z76):Option (Z76 ⊕ Z60):=(fun(a b:Int)(c:LI)(d e:Int)=>cond (decide (a<0)) none ((a2F (A0o .i64 b a)).bind fun y2=>cond (decide (a<0)) none (cond (y2 != (A0o .i64 b a)) (some (.inl (s.1,wrap .i64 (a+1),b,c,d,e,()))) (some (.inr (s.1,a,c,d,e,())))))) s.2.1 s.2.2.1 s.2.2.2.1 s.2.2.2.2.1 s.2.2.2.2.2.1
def a5A(s:Z60):Option (Z60 ⊕ Z4):=(fun(a:LI)(b c:Int)=>cond (decide (c<b)) ((m0k a c).bind fun x1=>(y0s a3y (s.1,s.2.1,x1,a,b,c,())).bind fun w3=>some (.inl (w3.1,w3.2.1,w3.2.2.1,w3.2.2.2.1,wrap .i64 (w3.2.2.2.2.1+1),()))) (some (.inr (s.1,s.2.1,())))) s.2.2.1 s.2.2.2.1 s.2.2.2.2.1
def a5B(s:Z59):Option (Z59 ⊕ (LI×Unit)):=(fun(a b:Int)(c:LI)=>cond (decide (b<a)) ((m0k s.2.1 b).bind fun x5=>cond (decide (s.1<0)) none (cond ((decide (0≤b))&&(decide (b<(c.length:Int)))) (some (.inl (s.1,s.2.1,a,wrap .i64 (b+1),a18 c (a01 b) (A0o .i64 x5 s.1),()))) none)) (some (.inr (c,())))) s.2.2.1 s.2.2.2.1 s.2.2.2.2.1
def a7X(x:LI):Option LI:=(y0s a5A (x,0,x,(x.length:Int),0,())).bind fun w4=>cond ((decide (0≤(w4.1.length:Int)))&&((decide ((w4.1.length:Int)≤(w4.1.length:Int)))&&(lim (a01 (w4.1.length:Int))))) ((y0s a5B (w4.2.1,w4.1,(w4.1.length:Int),0,a03 (a01 (w4.1.length:Int)) 0,())).bind fun w6=>some w6.1) none
def b8i:FSem:=⟨[.v QL],[.o QI],a7X⟩
def d7Y:Hints:=⟨[(58,[.sv 0 QL,3,.sv 9 QL,10,11],[Qe 0 [.sv 0 QL,3]]),(250,[3,.sv 29 QL,30,31,.own 6 6 QI],[Qe 4 [.own 6 6 QI]]),(7474,[.sv 0 QL,3,5,.sv 9 QL,10,11],[Qe 2 [.sv 0 QL,3,.sv 9 QL,10,11]])],[],[(5,[.v,.v,.v,.v,.v,.v,.v,.x])]⟩
def a3o(s:Z61):Option (Z61 ⊕ (Int×Int×Unit)):=(fun(a b:LI)(c d e:Int)=>cond (decide (e<(a.length:Int))) ((m0k a e).bind fun x1=>(m0k b (wrap .i64 (e-1))).bind fun x2=>(m0k a e).bind fun x3=>(m0k a e).bind fun x4=>(m0k b (wrap .i64 (e-1))).bind fun x5=>(m0k b (wrap .i64 (e-1))).bind fun x6=>some (.inl (a,b,wrap .i64 (c+(wrap .i64 (x1*x2))),wrap .i64 (d+(wrap .i64 ((wrap .i64 (x3*x4))+(wrap .i64 (x5*x6))))),wrap .i64 (e+1),()))) (some (.inr (c,d,())))) s.1 s.2.1 s.2.2.1 s.2.2.2.1 s.2.2.2.2.1
def a3p(s:(Int×Int×Unit)):Option ((Int×Int×Unit) ⊕ (Int×Int×Unit)):=cond (decide (s.2.1≥1099511627776)) (some (.inl (A0o .i64 s.1 1,A0o .i64 s.2.1 1,()))) (some (.inr (s.1,s.2.1,())))
def a5a(x:Z9):Option Int:=(y0s a3o (x.1,x.2.1,0,0,x.2.2,())).bind fun w7=>(y0s a3p (w7.1,w7.2.1,())).bind fun w8=>cond (w8.2.1==0) (some 0) (cond (w8.2.1==0) none ((show Option (Int×Unit)from cond (w8.2.1==0) none (cond (decide ((a06 (A0n .i64 w8.1 15) w8.2.1)<0)) (some (wrap .i64 ((wrap .i64 (a07 (A0n .i64 w8.1 15) w8.2.1))-1),())) (some (wrap .i64 (a07 (A0n .i64 w8.1 15) w8.2.1),())))).bind fun z9=>some (v0s (v0r z9.1 (-16383)) 16383)))
def b5B:FSem:=⟨[.v QL,.v QL,.v QI],[.v QI],a5a⟩
def d7Z:Hints:=⟨[(58,[.sv 0 QL,.sv 1 QL,7,8,9],[Qe 0 [7,8]]),(60,[7,8],[Qe 2 [7,8]])],[(255,[Qn [10]])],[(5,[.v,.v,.v,.v,.v,.v,.v,.v,.v,.v,.v,.x,.x]),(6,[.v,.v,.v,.v,.v,.v,.v,.v,.v,.v,.v,.v,.v,.v,.v,.v,.v,.v,.v,.v,.v,.v,.x,.x])]⟩
def a3e(s:(Int×Int×Z72)):Option ((Int×Int×Z72) ⊕ Z72):=(fun(a b c:Int)(d e f:LI)=>cond (decide (c≥a)) (cond ((decide (0≤c))&&(decide (c<(d.length:Int)))) (cond ((decide (0≤(wrap .i64 (c-1))))&&(decide ((wrap .i64 (c-1))<(e.length:Int)))) ((a2F (wrap .i64 ((a04 d (a01 c) 0)-(A0o .i64 (wrap .i64 (b*(a04 e (a01 (wrap .i64 (c-1))) 0))) 14)))).bind fun y6=>cond ((decide (0≤c))&&(decide (c<(d.length:Int)))) ((a2F (wrap .i64 ((a04 e (a01 (wrap .i64 (c-1))) 0)-(A0o .i64 (wrap .i64 (b*(a04 d (a01 c) 0))) 14)))).bind fun y7=>cond ((decide (0≤c))&&(decide (c<(e.length:Int)))) (some (.inl (s.1,a,b,wrap .i64 (c-1),a18 d (a01 c) y6,a18 e (a01 c) y7,f,()))) none) none) none) none) (some (.inr (s.1,a,d,e,f,())))) s.2.1 s.2.2.1 s.2.2.2.1 s.2.2.2.2.1 s.2.2.2.2.2.1 s.2.2.2.2.2.2.1
def a3f(s:Z72):Option (Z72 ⊕ (LI×Unit)):=(fun(a:Int)(b c d:LI)=>cond (decide (a≤s.1)) ((a5a (b,c,a)).bind fun y5=>cond (lim ((a00 d)+1)) ((y0s a3e (s.1,a,y5,wrap .i64 ((b.length:Int)-1),b,c,a02 d [y5],())).bind fun w8=>some (.inl (w8.1,wrap .i64 (w8.2.1+1),w8.2.2.1,w8.2.2.2.1,w8.2.2.2.2.1,()))) none) (some (.inr (d,())))) s.2.1 s.2.2.1 s.2.2.2.1 s.2.2.2.2.1
def a6T(x:(LI×Int)):Option (LI×Int):=(show Option Z16 from cond (decide (x.2<1)) (some (x.1,x.2,true,())) (cond (decide (x.2 > 32)) (some (x.1,x.2,true,())) (some (x.1,x.2,decide ((x.1.length:Int) > 4096),())))).bind fun z1=>cond z1.2.2.1 (some ([],1)) ((a2D z1.1).bind fun y2=>cond (!y2) (some ([],6)) ((a7X z1.1).bind fun y3=>(a1e y3).bind fun y4=>cond ((decide (0≤z1.2.1))&&(lim (a01 z1.2.1))) ((y0s a3f (z1.2.1,1,y3,y4,[],())).bind fun w9=>some (w9.1,0)) none))
def b7x:FSem:=⟨[.v QL,.v QI],[.o QI,.v QI],a6T⟩
def d8a:Hints:=⟨[(1018,[1,9,.own 6 6 QI,.own 7 7 QI,.own 8 8 QI],[Qe 0 [.own 8 8 QI]]),(260686,[1,9,10,11,.own 6 6 QI,.own 7 7 QI,.own 8 8 QI],[Qe 2 [1,9,.own 6 6 QI,.own 7 7 QI,.own 8 8 QI]])],[(6,[Qn [.sv 0 QL,1,.sv 24 .bool]])],[(16,[.q,.v,.q,.q,.q,.v,.v,.q,.q,.v,.x])]⟩
def a2k(s:Z40):Option (Z40 ⊕ ((LI×Unit) ⊕ Z4)):=(fun(a:LI)(b c:Int)=>cond (decide (c<b)) ((m0k a c).bind fun x2=>(show Option (LI×Z33)from cond (decide (x2<(-16383))) (some (s.1,a,b,c,true,())) (some (s.1,a,b,c,decide (x2 > 16383),()))).bind fun z3=>cond z3.2.2.2.2.1 (some (.inr (Sum.inr (([],1,()))))) (some (.inl (z3.1,z3.2.1,z3.2.2.1,wrap .i64 (z3.2.2.2.1+1),())))) (some (.inr (Sum.inl (s.1,()))))) s.2.1 s.2.2.1 s.2.2.2.1
def a4f(s:(LI×(Int×(Int×(LI×Z74))))):Option ((LI×(Int×(Int×(LI×Z74)))) ⊕ Z59):=(fun(a:Int)(b:LI)(c d:Int)(e:LI)(f g:Int)(h:LI)=>cond (decide (g<f)) ((m0k e g).bind fun x8=>(m0k s.1 (wrap .i64 ((wrap .i64 (s.2.1-1))-g))).bind fun x9=>cond (lim ((a00 h)+1)) (some (.inl (s.1,s.2.1,a,b,c,d,e,f,wrap .i64 (g+1),a02 h [wrap .i64 (x8-(A0o .i64 (wrap .i64 (a*x9)) 14))],()))) none) (some (.inr (a,b,c,d,h,())))) s.2.2.1 s.2.2.2.1 s.2.2.2.2.1 s.2.2.2.2.2.1 s.2.2.2.2.2.2.1 s.2.2.2.2.2.2.2.1 s.2.2.2.2.2.2.2.2.1 s.2.2.2.2.2.2.2.2.2.1
def a6b(s:Z40):Option (Z40 ⊕ (LI×Unit)):=(fun(a:LI)(b c:Int)=>cond (decide (c<b)) ((m0k s.2.1 c).bind fun x7=>cond ((decide (0≤(wrap .i64 (c+1))))&&(lim (a01 (wrap .i64 (c+1))))) ((y0s a4f (a,c,x7,s.2.1,b,c,a,(a.length:Int),0,[],())).bind fun w10=>cond (lim ((a00 w10.2.2.2.2.1)+1)) (some (.inl (a02 w10.2.2.2.2.1 [w10.1],w10.2.1,w10.2.2.1,wrap .i64 (w10.2.2.2.1+1),()))) none) none) (some (.inr (a,())))) s.1 s.2.2.1 s.2.2.2.1
def a8G(x:LI):Option (LI×Int):=(show Option (LI×(Bool×Unit))from cond (decide ((x.length:Int)<1)) (some (x,true,())) (some (x,decide ((x.length:Int) > 32),()))).bind fun z1=>cond z1.2.1 (some ([],1)) ((y0s a2k (z1.1,z1.1,(z1.1.length:Int),0,())).bind fun w4=>match w4 with |.inl a5=>((y0s a6b ([],a5.1,(a5.1.length:Int),0,())).bind fun w11=>some (w11.1,0)) |.inr b6=>some (b6.1,b6.2.1))
def b9G:FSem:=⟨[.v QL],[.v QL,.v QI],a8G⟩
def d8b:Hints:=⟨[(58,[.sv 0 QL,.sv 20 QL,21,22],[Qe 0 [.sv 0 QL],Qr [.sv 2 QL,3]]),(250,[.sv 6 QL,.sv 34 QL,35,36],[Qe 2 [.sv 6 QL]]),(256410,[.sv 6 QL,7,8,.sv 34 QL,35,36,.sv 44 QL,45,46,.own 9 9 QI],[Qe 4 [8,.sv 34 QL,35,36,.own 9 9 QI]])],[(6,[Qn [.sv 0 QL,.sv 19 .bool]]),(3737,[Qn [.sv 0 QL,.sv 20 QL,21,22,.sv 31 .bool]])],[]⟩
def a2l(s:Z60):Option (Z60 ⊕ (Z4 ⊕ Z12)):=(fun(a:Int)(b:LI)(c d:Int)=>cond (decide (d<c)) ((m0k b d).bind fun x2=>(show Option (LI×(Int×Z33))from cond (decide (x2<(-35184372088832))) (some (s.1,a,b,c,d,true,())) (some (s.1,a,b,c,d,decide (x2 > 35184372088832),()))).bind fun z3=>cond z3.2.2.2.2.2.1 (some (.inr (Sum.inr ((0,1,[],()))))) (some (.inl (z3.1,z3.2.1,z3.2.2.1,z3.2.2.2.1,wrap .i64 (z3.2.2.2.2.1+1),())))) (some (.inr (Sum.inl (s.1,a,()))))) s.2.1 s.2.2.1 s.2.2.2.1 s.2.2.2.2.1
def a2m(s:(LI×(Int×Z74))):Option ((LI×(Int×Z74)) ⊕ Z39):=(fun(a b c:Int)(d:LI)(e f:Int)(g:LI)=>cond (decide (f<e)) ((m0k d f).bind fun x8=>cond (decide (b<0)) none ((a1j (A0o .i64 (wrap .i64 (x8+c)) b,a)).bind fun y9=>cond (!y9) (some (.inr (s.1,a,b,g,()))) (cond (lim ((a00 g)+1)) (some (.inl (s.1,a,b,c,d,e,wrap .i64 (f+1),a02 g [A0o .i64 (wrap .i64 (x8+c)) b],()))) none))) (some (.inr (s.1,a,b,g,())))) s.2.1 s.2.2.1 s.2.2.2.1 s.2.2.2.2.1 s.2.2.2.2.2.1 s.2.2.2.2.2.2.1 s.2.2.2.2.2.2.2.1
def a2S(s:Z13):Option (Z13 ⊕ (Unit ⊕ Z12)):=(fun(a:Int)=>cond (decide (a≤14)) ((show Option Z30 from cond (decide (a > 0)) (cond (decide ((wrap .i64 (a-1))<0)) none (some (s.1,s.2.1,a,A0n .i64 1 (wrap .i64 (a-1)),()))) (some (s.1,s.2.1,a,0,()))).bind fun z7=>cond ((decide (0≤(z7.1.length:Int)))&&(lim (a01 (z7.1.length:Int)))) ((y0s a2m (z7.1,z7.2.1,z7.2.2.1,z7.2.2.2.1,z7.1,(z7.1.length:Int),0,[],())).bind fun w10=>cond ((w10.2.2.2.1.length:Int)==(w10.1.length:Int)) (some (.inr (Sum.inr ((wrap .i64 (14-w10.2.2.1),0,w10.2.2.2.1,()))))) (some (.inl (w10.1,w10.2.1,wrap .i64 (w10.2.2.1+1),())))) none) (some (.inr (Sum.inl ())))) s.2.2.1
def a8H(x:(LI×Int)):Option Z2:=(show Option Z16 from cond (decide ((x.1.length:Int)<1)) (some (x.1,x.2,true,())) (cond (decide ((x.1.length:Int) > 32)) (some (x.1,x.2,true,())) (cond (decide (x.2<2)) (some (x.1,x.2,true,())) (some (x.1,x.2,decide (x.2 > 16),()))))).bind fun z1=>cond z1.2.2.1 (some ([],0,1)) ((y0s a2l (z1.1,z1.2.1,z1.1,(z1.1.length:Int),0,())).bind fun w4=>match w4 with |.inl a5=>((y0s a2S (a5.1,a5.2.1,0,())).bind fun w11=>match w11 with |.inl a12=>some ([],0,6) |.inr b13=>some (b13.2.2.1,b13.1,b13.2.1)) |.inr b6=>some (b6.2.2.1,b6.1,b6.2.1))
def b9H:FSem:=⟨[.v QL,.v QI],[.o QI,.v QI,.v QI],a8H⟩
def d8c:Hints:=⟨[(58,[.sv 0 QL,1,.sv 31 QL,32,33],[Qe 0 [.sv 0 QL,1],Qr [5,6,.own 4 4 QI]]),(122,[.sv 0 QL,1,9],[Qe 2 [],Qr [5,6,.own 4 11 QI]]),(125242,[.sv 0 QL,1,9,10,.sv 56 QL,57,58,.own 11 11 QI],[Qe 4 [.sv 0 QL,1,9,.own 11 11 QI]])],[(6,[Qn [.sv 0 QL,1,.sv 30 .bool]]),(3737,[Qn [.sv 0 QL,1,.sv 31 QL,32,33,.sv 42 .bool]]),(3913,[Qn [.sv 0 QL,1,9,10]])],[]⟩
def a3X(x:Z2):Option Z2:=(a6T (x.1,x.2.1)).bind fun y1=>cond (y1.2 != 0) (some ([],0,y1.2)) ((a8G y1.1).bind fun y2=>cond (y2.2 != 0) (some ([],0,y2.2)) ((a8H (y2.1,x.2.2)).bind fun y3=>some (y3.1,y3.2.1,y3.2.2)))
def c2d:FSem:=⟨[.v QL,.v QI,.v QI],[.o QI,.v QI,.v QI],a3X⟩
def b9I(s:(LI×Z67)):Option ((LI×Z67) ⊕ (LI×Z54)):=(fun(a:LI)(b c d e f g:Int)=>cond (decide (g<(a.length:Int))) ((m0k a g).bind fun x3=>(m0k a (wrap .i64 (g-e))).bind fun x4=>some (.inl (a,s.2.1,b,c,d,e,wrap .i64 (f+(v0r (wrap .i64 (x3-x4)) (wrap .i64 (0-(wrap .i64 (x3-x4)))))),wrap .i64 (g+1),()))) (some (.inr (a,s.2.1,b,c,d,e,f,())))) s.1 s.2.2.1 s.2.2.2.1 s.2.2.2.2.1 s.2.2.2.2.2.1 s.2.2.2.2.2.2.1 s.2.2.2.2.2.2.2.1
def b9J(s:(LI×Z35)):Option ((LI×Z35) ⊕ (Int×Unit)):=(fun(a b c:Int)=>cond (decide (c≤a)) ((y0s b9I (s.1,s.2.1,a,b,s.2.2.2.2.1,c,0,a,())).bind fun w5=>(show Option (LI×(Int×Int×Int×Z21))from cond (w5.2.2.2.2.2.1==w5.2.1) (some (w5.1,w5.2.1,w5.2.2.1,w5.2.2.2.1,w5.2.2.2.2.1,w5.2.2.2.2.2.1,w5.2.2.2.2.2.2.1,true,())) (some (w5.1,w5.2.1,w5.2.2.1,w5.2.2.2.1,w5.2.2.2.2.1,w5.2.2.2.2.2.1,w5.2.2.2.2.2.2.1,decide (w5.2.2.2.2.2.2.1<w5.2.2.2.2.1),()))).bind fun z6=>cond z6.2.2.2.2.2.2.2.1 (some (.inl (z6.1,z6.2.1,z6.2.2.1,z6.2.2.2.2.2.1,z6.2.2.2.2.2.2.1,wrap .i64 (z6.2.2.2.2.2.1+1),()))) (some (.inl (z6.1,z6.2.1,z6.2.2.1,z6.2.2.2.1,z6.2.2.2.2.1,wrap .i64 (z6.2.2.2.2.2.1+1),())))) (some (.inr (b,())))) s.2.2.1 s.2.2.2.1 s.2.2.2.2.2.1
def b1D(x:Z2):Option (Int×Int):=(show Option Z33 from cond (decide (x.2.1<2)) (some (x.1,x.2.1,x.2.2,true,())) (cond (decide (x.2.1 > x.2.2)) (some (x.1,x.2.1,x.2.2,true,())) (cond (decide (x.2.2 > 1024)) (some (x.1,x.2.1,x.2.2,true,())) (some (x.1,x.2.1,x.2.2,decide ((x.1.length:Int) > 4096),()))))).bind fun z1=>cond z1.2.2.2.1 (some (0,1)) (cond (decide ((z1.1.length:Int)≤z1.2.2.1)) (some (0,7)) ((a4w z1.1).bind fun y2=>cond (!y2) (some (0,6)) ((y0s b9J (z1.1,z1.2.1,z1.2.2.1,0,0,z1.2.1,())).bind fun w7=>some (w7.1,0))))
def c5l:FSem:=⟨[.v QL,.v QI,.v QI],[.v QI,.v QI],b1D⟩
def d8d:Hints:=⟨[(506,[.sv 0 QL,1,2,8,9,10],[Qe 0 [8]]),(129610,[.sv 0 QL,1,2,8,9,10,11,12],[Qe 2 [.sv 0 QL,1,2,8,9,10,11]])],[(6,[Qn [.sv 0 QL,1,2,.sv 29 .bool]]),(32403,[Qn [.sv 0 QL,1,2,8,9,10,11,.sv 74 .bool]])],[(15,[.v,.v,.v,.v,.v,.v,.v,.v,.v,.v,.x,.x])]⟩
def c3d(x:Unit):Option (List LI):=A0j (b2I [] [] 1 0) QH Tryz.f274 [] [.o (.arr 3 (.int .i64))] x
def b5L:FSem:=⟨[],[.o (.arr 3 QI)],c3d⟩
def d3U:Hints:=⟨[(122,[.sv 0 QL,1,7,.sv 8 .bool,25,26,.own 24 1024 (.arr 3 QI),.box 4 (.arr 3 QI),.box 6 (.arr 3 QI),Qp 4 4,Qp 6 6],[Qe 0 [.sv 8 .bool,.box 4 (.arr 3 QI),.box 6 (.arr 3 QI),Qp 4 4,Qp 6 6]]),(501370,[.sv 0 QL,1,7,.sv 8 .bool,13,25,26,40,41,.own 24 1024 (.arr 3 QI),.own 39 11 QI,.box 4 (.arr 3 QI),.box 6 (.arr 3 QI),.box 10 (.arr 3 QI),Qp 4 4,Qp 6 6,Qp 10 10],[Qe 2 [.sv 0 QL,1,7,.sv 8 .bool,13,25,26,.own 24 1024 (.arr 3 QI),.box 4 (.arr 3 QI),.box 6 (.arr 3 QI),.box 10 (.arr 3 QI),Qp 4 4,Qp 6 6,Qp 10 10]])],[(6,[Qn [.sv 0 QL,1,.sv 21 .bool,.box 4 (.arr 3 QI),Qp 4 4]]),(125343,[Qn [.sv 0 QL,1,7,.sv 8 .bool,13,25,26,.sv 58 .bool,.own 24 1024 (.arr 3 QI),.box 4 (.arr 3 QI),.box 6 (.arr 3 QI),.box 10 (.arr 3 QI),Qp 4 4,Qp 6 6,Qp 10 10]])],[]⟩
def b6R(x:(LI×Int)):Option (LI×Int):=A0j (b2I [(207,b6P),(274,b5L)] [] 47523 0) d3U Tryz.f216 [.v (.list false (.int .i64)),.v (.int .i64)] [.v (.arr 3 (.int .i64)),.v (.int .i64)] x
def c5m:FSem:=⟨[.v QL,.v QI],[.v (.arr 3 QI),.v QI],b6R⟩
def a3z(x:LI):Option (a1D×Bool):=(b1D (x,16,256)).bind fun y1=>cond (y1.2 != 0) (some ((0,0,0,0,0,[],a03 3 0,[],[],(0,[],()),[],()),false)) ((b6R (x,y1.1)).bind fun y2=>cond (y2.2 != 0) (some ((0,0,0,0,0,[],a03 3 0,[],[],(0,[],()),[],()),false)) ((a9k (x,y1.1,y2.1)).bind fun y3=>cond (y3.2 != 0) (some ((0,0,0,0,0,[],a03 3 0,[],[],(0,[],()),[],()),false)) ((a3X (y3.1,4,12)).bind fun y4=>cond (y4.2.2 != 0) (some ((0,0,0,0,0,[],a03 3 0,[],[],(0,[],()),[],()),false)) (some ((4,0,0,y4.2.1,y1.1,y4.1,y2.1,[],[],(0,[],()),[],()),true)))))
def c3e:FSem:=⟨[.v QL],[.v Q40,.v .bool],a3z⟩
def a0P(x:(Int×(Int×(LI×b1c)))):Option (LI×b1c):=(a3X (x.2.2.1,x.1,x.2.1)).bind fun y1=>cond (y1.2.2==0) (cond (lim ((a00 x.2.2.2)+1)) (some (x.2.2.1,a02 x.2.2.2 ([(3,0,0,y1.2.1,0,y1.1,a03 3 0,[],[],(0,[],()),[],())]:List a1D))) none) (some (x.2.2.1,x.2.2.2))
def b5M:FSem:=⟨[.v QI,.v QI,.r false (.b QL),.r false (.b (.list true Q40))],[],a0P⟩
def a2t(s:(Int×c6L)):Option ((Int×c6L) ⊕ c6L):=cond (decide (s.1<5)) (cond (lim ((a00 s.2.1)+1)) (some (.inl (wrap .i64 (s.1+1),a02 s.2.1 ([(2,0,s.1,0,0,[],a03 3 0,[],[],(0,[],()),[],())]:List a1D),s.2.2.1,()))) none) (some (.inr (s.2.1,s.2.2.1,())))
def a6U(x:(LI×Int)):Option b1c:=(a6r x.1).bind fun y1=>(show Option (Int×(LI×d0G))from cond (decide (x.2≥1)) ((a0P (4,12,x.1,([(0,0,0,0,0,[],a03 3 0,[],[],(0,[],()),[],()),(1,0,0,0,0,[],a03 3 0,[],[],(0,[],()),[],()),(2,0,y1,0,0,[],a03 3 0,[],[],(0,[],()),[],())]:List a1D))).bind fun y2=>(a0P (8,12,y2.1,y2.2)).bind fun y3=>some (x.2,y3.1,y3.2,())) (some (x.2,x.1,([(0,0,0,0,0,[],a03 3 0,[],[],(0,[],()),[],()),(1,0,0,0,0,[],a03 3 0,[],[],(0,[],()),[],()),(2,0,y1,0,0,[],a03 3 0,[],[],(0,[],()),[],())]:List a1D),()))).bind fun z4=>(show Option (Int×c6L)from cond (decide (z4.1≥2)) (cond (lim ((a00 z4.2.2.1)+1)) (cond (lim ((a00 (a02 z4.2.2.1 ([(5,0,0,0,0,[],a03 3 0,([(16,4,())]:List (Int×Int×Unit)),[],(0,[],()),[],())]:List a1D)))+1)) ((a3z z4.2.1).bind fun y5=>cond y5.2 (cond (lim ((a00 (a02 (a02 z4.2.2.1 ([(5,0,0,0,0,[],a03 3 0,([(16,4,())]:List (Int×Int×Unit)),[],(0,[],()),[],())]:List a1D)) ([(5,0,0,0,0,[],a03 3 0,([(32,3,()),(16,5,())]:List (Int×Int×Unit)),[],(0,[],()),[],())]:List a1D)))+1)) (some (z4.1,a02 (a02 (a02 z4.2.2.1 ([(5,0,0,0,0,[],a03 3 0,([(16,4,())]:List (Int×Int×Unit)),[],(0,[],()),[],())]:List a1D)) ([(5,0,0,0,0,[],a03 3 0,([(32,3,()),(16,5,())]:List (Int×Int×Unit)),[],(0,[],()),[],())]:List a1D)) ([y5.1]:List a1D),z4.2.1,())) none) (some (z4.1,a02 (a02 z4.2.2.1 ([(5,0,0,0,0,[],a03 3 0,([(16,4,())]:List (Int×Int×Unit)),[],(0,[],()),[],())]:List a1D)) ([(5,0,0,0,0,[],a03 3 0,([(32,3,()),(16,5,())]:List (Int×Int×Unit)),[],(0,[],()),[],())]:List a1D),z4.2.1,()))) none) none) (some (z4.1,z4.2.2.1,z4.2.1,()))).bind fun z6=>(show Option d0G from cond (decide (z6.1≥3)) ((y0s a2t (0,z6.2.1,z6.2.2.1,())).bind fun w7=>(a0P (1,12,w7.2.1,w7.1)).bind fun y8=>(a0P (2,12,y8.1,y8.2)).bind fun y9=>(a0P (12,14,y9.1,y9.2)).bind fun y10=>(a0P (16,14,y10.1,y10.2)).bind fun y11=>some (y11.2,())) (some (z6.2.1,()))).bind fun z12=>some z12.1
def b7y:FSem:=⟨[.v QL,.v QI],[.v (.list false Q40)],a6U⟩
def H63:Hints:=⟨[(4050,[50,.box 5 (.list true Q40),.box 2 QL,Qp 5 5,.clo 6 141 [2,5]],[Qe 0 [.box 5 (.list true Q40),.box 2 QL,Qp 5 5,.clo 6 141 [2,5]]])],[(15,[Qn [1,.box 2 QL,.box 5 (.list true Q40),Qp 2 2,Qp 5 5,.clo 6 141 [2,5]]]),(31,[Qn [1,.box 5 (.list true Q40),.box 2 QL,Qp 5 5,.clo 6 141 [2,5]]]),(63,[Qn [.box 5 (.list true Q40),Qp 5 5]])],[]⟩
def a7q(s:(LI×(Int×Bool×b1c×c6O))):Option ((LI×(Int×Bool×b1c×c6O)) ⊕ b2e):=(fun(a:LI)(b:Int)(c:Bool)(d:b1c)(e f:Int)(g h:a1D)=>cond (decide (f<e)) ((m0k d f).bind fun x6=>(b2j (x6.1,a,x6)).bind fun y7=>cond (y7.2 != 0) (some (.inl (a,b,c,d,e,wrap .i64 (f+1),g,h,()))) ((a4k (y7.1,(a.length:Int))).bind fun y8=>(show Option (LI×(Int×Bool×Int×b1c×Int×Int×Bool×a1D×b2e))from cond (!c) (some (a,b,c,y8,d,e,f,true,g,h,y7.1,())) (some (a,b,c,y8,d,e,f,decide (y8<b),g,h,y7.1,()))).bind fun z9=>cond z9.2.2.2.2.2.2.2.1 (some (.inl (z9.1,z9.2.2.2.1,true,z9.2.2.2.2.1,z9.2.2.2.2.2.1,wrap .i64 (z9.2.2.2.2.2.2.1+1),z9.2.2.2.2.2.2.2.2.1,z9.2.2.2.2.2.2.2.2.2.2.1,()))) (some (.inl (z9.1,z9.2.1,z9.2.2.1,z9.2.2.2.2.1,z9.2.2.2.2.2.1,wrap .i64 (z9.2.2.2.2.2.2.1+1),z9.2.2.2.2.2.2.2.2.1,z9.2.2.2.2.2.2.2.2.2.1,()))))) (some (.inr (g,h,())))) s.1 s.2.1 s.2.2.1 s.2.2.2.1 s.2.2.2.2.1 s.2.2.2.2.2.1 s.2.2.2.2.2.2.1 s.2.2.2.2.2.2.2.1
def a5C(x:(LI×Int)):Option b3F:=(show Option (LI×c2I)from cond (decide ((x.1.length:Int)<1)) (some (x.1,x.2,true,(0,0,0,0,0,[],a03 3 0,[],[],(0,[],()),[],()),())) (cond (decide ((x.1.length:Int) > 4096)) (some (x.1,x.2,true,(0,0,0,0,0,[],a03 3 0,[],[],(0,[],()),[],()),())) (cond (decide (x.2<0)) (some (x.1,x.2,true,(0,0,0,0,0,[],a03 3 0,[],[],(0,[],()),[],()),())) (some (x.1,x.2,decide (x.2 > 3),(0,0,0,0,0,[],a03 3 0,[],[],(0,[],()),[],()),()))))).bind fun z1=>cond z1.2.2.1 (some ((0,0,0,0,0,[],a03 3 0,[],[],(0,[],()),[],()),1)) ((a2w z1.1).bind fun y2=>cond (!y2) (some ((0,0,0,0,0,[],a03 3 0,[],[],(0,[],()),[],()),6)) ((a3K z1.1).bind fun y3=>(a7i (z1.1,y3)).bind fun y4=>cond (y4.2 != 0) (some ((0,0,0,0,0,[],a03 3 0,[],[],(0,[],()),[],()),y4.2)) ((a6U (y4.1,z1.2.1)).bind fun y5=>(y0s a7q (z1.1,0,false,y5,(y5.length:Int),0,z1.2.2.2.1,(0,0,0,0,0,[],a03 3 0,[],[],(0,[],()),[],()),())).bind fun w10=>some (w10.2.1,0))))
def c6Z:FSem:=⟨[.v QL,.v QI],[.v Q40,.v QI],a5C⟩
def H19:Hints:=⟨[(2042,[.sv 0 QL,9,.sv 10 .bool,.sv 50 (.list false Q40),51,52,.box 4 Q40,.box 8 Q40,Qp 4 4,Qp 8 8],[Qe 0 [.box 4 Q40,.box 8 Q40,Qp 4 4,Qp 8 8]])],[(6,[Qn [.sv 0 QL,1,.sv 31 .bool,.box 4 Q40,Qp 4 4]]),(1045711,[Qn [.sv 0 QL,9,.sv 10 .bool,15,.sv 50 (.list false Q40),51,52,.sv 76 .bool,.box 4 Q40,.box 8 Q40,.box 13 Q40,Qp 4 4,Qp 8 8,Qp 13 13]])],[]⟩
def a4r(x:Z11):Option Int:=cond ((x.2.1.length:Int)==0) (some 0) ((m0k x.2.1 0).bind fun x1=>some (x1.length:Int))
def c5n:FSem:=⟨[.v Q13],[.v QI],a4r⟩
def a4A(s:((List LI)×(Int×(Int×(LI×Z65))))):Option (((List LI)×(Int×(Int×(LI×Z65)))) ⊕ (((List LI)×Z65) ⊕ (Bool×Unit))):=(fun(a:Int)(b:LI)(c d:Int)(e:Z11)=>cond (decide (d<c)) ((m0k b d).bind fun x8=>(a1j (x8,e.1)).bind fun y9=>cond (!y9) (some (.inr (Sum.inr ((false,()))))) (some (.inl (s.1,s.2.1,a,b,c,wrap .i64 (d+1),e,())))) (some (.inr (Sum.inl (s.1,s.2.1,a,e,()))))) s.2.2.1 s.2.2.2.1 s.2.2.2.2.1 s.2.2.2.2.2.1 s.2.2.2.2.2.2.1
def a4B(s:((List LI)×Z65)):Option (((List LI)×Z65) ⊕ Z0):=cond (decide (s.2.2.1<s.2.1)) ((m0k s.1 s.2.2.1).bind fun x6=>(a4r s.2.2.2.1).bind fun y7=>cond ((x6.length:Int) != y7) (some (.inr (Sum.inr ((false,()))))) ((y0s a4A (s.1,s.2.1,s.2.2.1,x6,(x6.length:Int),0,s.2.2.2.1,())).bind fun w10=>match w10 with |.inl a11=>some (.inl (a11.1,a11.2.1,wrap .i64 (a11.2.2.1+1),a11.2.2.2.1,())) |.inr b12=>some (.inr (Sum.inr ((b12.1,())))))) (some (.inr (Sum.inl ())))
def a4s(x:Z11):Option Bool:=(show Option (Bool×Z31)from(a5k x.1).bind fun y1=>cond (!y1) (some (true,x,())) (cond (decide ((x.2.1.length:Int)<1)) (some (true,x,())) (some (decide ((x.2.1.length:Int) > 8),x,())))).bind fun z2=>cond z2.1 (some false) ((show Option (Bool×Z31)from(a4r z2.2.1).bind fun y3=>cond (decide (y3<1)) (some (true,z2.2.1,())) ((a4r z2.2.1).bind fun y4=>some (decide (y4 > 4096),z2.2.1,()))).bind fun z5=>cond z5.1 (some false) ((y0s a4B (z5.2.1.2.1,(z5.2.1.2.1.length:Int),0,z5.2.1,())).bind fun w13=>match w13 with |.inl a14=>some true |.inr b15=>some b15.1))
def c5o:FSem:=⟨[.v Q13],[.v .bool],a4s⟩
def H39:Hints:=⟨[(122,[.sv 32 (.list false QL),33,34,.vp 1 Q13],[Qe 0 [],Qr [.sv 2 .bool]]),(62670,[.sv 32 (.list false QL),33,34,.sv 43 QL,44,45,.vp 1 Q13],[Qe 2 [.sv 32 (.list false QL),33,34,.vp 1 Q13],Qr [.sv 2 .bool]])],[(6,[Qn [.sv 22 .bool,.vp 1 Q13]]),(14,[Qn [.sv 30 .bool,.vp 1 Q13]])],[]⟩
def a9p(x:Int):Option Bool:=cond (decide ((-1073741824)≤x)) (some (decide (x<1073741824))) (some false)
def c5p:FSem:=⟨[.v QI],[.v .bool],a9p⟩
def a4C(s:((List LI)×((List LI)×Z47))):Option (((List LI)×((List LI)×Z47)) ⊕ (((List LI)×Z25) ⊕ (Bool×Unit))):=(fun(a b:Int)(c:LI)(d e:Int)=>cond (decide (e<d)) ((m0k c e).bind fun x5=>(a9p x5).bind fun y6=>cond (!y6) (some (.inr (Sum.inr ((false,()))))) (some (.inl (s.1,s.2.1,a,b,c,d,wrap .i64 (e+1),())))) (some (.inr (Sum.inl (s.1,s.2.1,a,b,()))))) s.2.2.1 s.2.2.2.1 s.2.2.2.2.1 s.2.2.2.2.2.1 s.2.2.2.2.2.2.1
def a4D(s:((List LI)×Z25)):Option (((List LI)×Z25) ⊕ Z0):=(fun(a b:Int)=>cond (decide (b<a)) ((m0k s.2.1 b).bind fun x3=>(m0k s.1 0).bind fun x4=>cond ((x3.length:Int) != (x4.length:Int)) (some (.inr (Sum.inr ((false,()))))) ((y0s a4C (s.1,s.2.1,a,b,x3,(x3.length:Int),0,())).bind fun w7=>match w7 with |.inl a8=>some (.inl (a8.1,a8.2.1,a8.2.2.1,wrap .i64 (a8.2.2.2.1+1),())) |.inr b9=>some (.inr (Sum.inr ((b9.1,())))))) (some (.inr (Sum.inl ())))) s.2.2.1 s.2.2.2.1
def a7H(x:(List LI)):Option Bool:=(show Option ((List LI)×(Bool×Unit))from cond (decide ((x.length:Int)<1)) (some (x,true,())) (cond (decide ((x.length:Int) > 8)) (some (x,true,())) ((m0k x 0).bind fun x1=>some (x,decide ((x1.length:Int) > 4096),())))).bind fun z2=>cond z2.2.1 (some false) ((y0s a4D (z2.1,z2.1,(z2.1.length:Int),0,())).bind fun w10=>match w10 with |.inl a11=>some true |.inr b12=>some b12.1)
def b6S:FSem:=⟨[.v (.list false QL)],[.v .bool],a7H⟩
def d8e:Hints:=⟨[(58,[.sv 0 (.list false QL),.sv 22 (.list false QL),23,24],[Qe 0 [],Qr [.sv 2 .bool]]),(29902,[.sv 0 (.list false QL),.sv 22 (.list false QL),23,24,.sv 35 QL,36,37],[Qe 2 [.sv 0 (.list false QL),.sv 22 (.list false QL),23,24],Qr [.sv 2 .bool]])],[(6,[Qn [.sv 0 (.list false QL),.sv 21 .bool]])],[]⟩
def a7r(s:(Int×Z15×Int×Int×Unit)):Option ((Int×Z15×Int×Int×Unit) ⊕ Z0):=(fun(a:Int)(b:Z15)(c d:Int)=>cond (decide (d<c)) ((m0k b d).bind fun x2=>(show Option (Int×Z15×Int×Z57)from cond (decide (x2.1<0)) (some (a,b,c,d,true,x2,())) (cond (decide (x2.1≥a)) (some (a,b,c,d,true,x2,())) (cond (decide (x2.2.1<0)) (some (a,b,c,d,true,x2,())) (cond (decide (x2.2.1≥a)) (some (a,b,c,d,true,x2,())) (some (a,b,c,d,x2.1==x2.2.1,x2,())))))).bind fun z3=>cond z3.2.2.2.2.1 (some (.inr (Sum.inr ((false,()))))) ((show Option (Int×Z15×Z8)from cond (decide (z3.2.2.2.2.2.1.2.2.1<(-1024))) (some (z3.1,z3.2.1,z3.2.2.1,z3.2.2.2.1,true,())) (some (z3.1,z3.2.1,z3.2.2.1,z3.2.2.2.1,decide (z3.2.2.2.2.2.1.2.2.1 > 1024),()))).bind fun z4=>cond z4.2.2.2.2.1 (some (.inr (Sum.inr ((false,()))))) (some (.inl (z4.1,z4.2.1,z4.2.2.1,wrap .i64 (z4.2.2.2.1+1),()))))) (some (.inr (Sum.inl ())))) s.1 s.2.1 s.2.2.1 s.2.2.2.1
def a8I(x:(Z15×Int)):Option Bool:=(show Option (Z15×Int×Bool×Unit)from cond (decide (x.2<1)) (some (x.1,x.2,true,())) (cond (decide (x.2 > 8)) (some (x.1,x.2,true,())) (some (x.1,x.2,decide ((x.1.length:Int) > 16),())))).bind fun z1=>cond z1.2.2.1 (some false) ((y0s a7r (z1.2.1,z1.1,(z1.1.length:Int),0,())).bind fun w5=>match w5 with |.inl a6=>some true |.inr b7=>some b7.1)
def b8j:FSem:=⟨[.v (.list false Q10),.v QI],[.v .bool],a8I⟩
def d8f:Hints:=⟨[(58,[1,.sv 18 (.list false Q10),19,20],[Qe 0 [],Qr [.sv 4 .bool]])],[(6,[Qn [.sv 0 (.list false Q10),1,.sv 17 .bool]]),(7474,[Qn [1,.sv 18 (.list false Q10),19,20,.sv 50 .bool,.box 6 Q10,Qp 6 6]]),(7475,[Qn [1,.sv 18 (.list false Q10),19,20,.sv 58 .bool]])],[]⟩
def a6V(s:((List LI)×Z26)):Option (((List LI)×Z26) ⊕ Z3):=cond (decide (s.2.2.1<s.2.1)) ((m0k s.1 s.2.2.1).bind fun x1=>(a1e x1).bind fun y2=>cond (lim ((a00 s.2.2.2.1)+(a00 (a18 ([[]]:List LI) 0 y2)))) (some (.inl (s.1,s.2.1,wrap .i64 (s.2.2.1+1),a02 s.2.2.2.1 (a18 ([[]]:List LI) 0 y2),()))) none) (some (.inr (s.2.2.2.1,())))
def a7s(x:(List LI)):Option (List LI):=(y0s a6V (x,(x.length:Int),0,([]:(List LI)),())).bind fun w3=>some w3.1
def b5m:FSem:=⟨[.v (.list false QL)],[.o (.list true QI)],a7s⟩
def d8g:Hints:=⟨[(58,[.sv 6 (.list false QL),7,8,.own 3 3 (.list true QI)],[Qe 0 [.own 3 3 (.list true QI)]])],[],[]⟩
def a3N(s:(Int×(Int×(Int×((List LI)×(Z7×Int×Unit)))))):Option ((Int×(Int×(Int×((List LI)×(Z7×Int×Unit))))) ⊕ (Z3 ⊕ (Bool×Z3))):=(fun(a:Int)(b:List LI)(c:Z7)(d:Int)=>cond (decide (a<s.2.1)) (cond ((decide (0≤a))&&(decide (a<((a00 (a04 b (a01 d) []):Nat):Int)))) (cond ((decide (0≤c.2.1))&&(decide (c.2.1<(b.length:Int)))) (cond ((decide (0≤a))&&(decide (a<((a00 (a04 b (a01 c.2.1) []):Nat):Int)))) ((a9p (wrap .i64 ((a04 (a04 b (a01 c.2.1) []) (a01 a) 0)+(wrap .i64 (s.1*(A0o .i64 (wrap .i64 (c.2.2.1*(a04 (a04 b (a01 d) []) (a01 a) 0))) 8)))))).bind fun y1=>cond (!y1) (some (.inr (Sum.inr ((false,b,()))))) (cond ((decide (0≤c.2.1))&&(decide (c.2.1<(b.length:Int)))) (cond ((decide (0≤a))&&(decide (a<((a00 (a04 b (a01 c.2.1) []):Nat):Int)))) (some (.inl (s.1,s.2.1,wrap .i64 (a+1),a18 b (a01 c.2.1) (a18 (a04 b (a01 c.2.1) []) (a01 a) (wrap .i64 ((a04 (a04 b (a01 c.2.1) []) (a01 a) 0)+(wrap .i64 (s.1*(A0o .i64 (wrap .i64 (c.2.2.1*(a04 (a04 b (a01 d) []) (a01 a) 0))) 8)))))),c,((a01 d:Nat):Int),()))) none) none)) none) none) none) (some (.inr (Sum.inl (b,()))))) s.2.2.1 s.2.2.2.1 s.2.2.2.2.1 s.2.2.2.2.2.1
def a8i(x:((List LI)×(Z7×Int))):Option (Bool×(List LI)):=cond ((decide (0≤x.2.1.1))&&(decide (x.2.1.1<(x.1.length:Int)))) ((y0s a3N (x.2.2,((a00 (a04 x.1 (a01 x.2.1.1) []):Nat):Int),0,x.1,x.2.1,((a01 x.2.1.1:Nat):Int),())).bind fun w2=>match w2 with |.inl a3=>some (true,a3.1) |.inr b4=>some (b4.1,b4.2.1)) none
def b5N:FSem:=⟨[.r false (.o (.list true QI)),.v Q10,.v QI],[.v .bool],a8i⟩
def d8h:Hints:=⟨[(26,[2,15,16,.own 0 pinned (.list true QI),.vp 4 Q10,.rfi 14 pinned],[Qe 0 [.own 0 pinned (.list true QI)],Qr [.sv 6 .bool,.own 0 pinned (.list true QI)]])],[],[(4,[.q,.v,.v,.q,.q,.v,.q,.q,.v,.v,.v,.v,.v,.v,.v,.x,.x])]⟩
def a8j(s:(Z15×Z26)):Option ((Z15×Z26) ⊕ (Z3 ⊕ ((List LI)×(Int×Unit)))):=cond (decide (s.2.2.1<s.2.1)) ((m0k s.1 s.2.2.1).bind fun x5=>(a8i (s.2.2.2.1,x5,1)).bind fun y6=>cond (!y6.1) (some (.inr (Sum.inr ((([]:(List LI)),6,()))))) (some (.inl (s.1,s.2.1,wrap .i64 (s.2.2.1+1),y6.2,())))) (some (.inr (Sum.inl (s.2.2.2.1,()))))
def b1X(x:((List LI)×Z15)):Option ((List LI)×Int):=(show Option ((List LI)×(Z15×Bool×Unit))from(a7H x.1).bind fun y1=>cond (!y1) (some (x.1,x.2,true,())) ((a8I (x.2,(x.1.length:Int))).bind fun y2=>some (x.1,x.2,!y2,()))).bind fun z3=>cond z3.2.2.1 (some (([]:(List LI)),1)) ((a7s z3.1).bind fun y4=>(y0s a8j (z3.2.1,(z3.2.1.length:Int),0,y4,())).bind fun w7=>match w7 with |.inl a8=>some (a8.1,0) |.inr b9=>some (b9.1,b9.2.1))
def c8R:FSem:=⟨[.v (.list false QL),.v (.list false Q10)],[.v (.list false QL),.v QI],b1X⟩
def H43:Hints:=⟨[(122,[.sv 21 (.list false Q10),22,23,.own 6 6 (.list true QI)],[Qe 0 [.own 6 6 (.list true QI)],Qr [.sv 4 (.list false QL),5]])],[(6,[Qn [.sv 0 (.list false QL),.sv 1 (.list false Q10),.sv 18 .bool]])],[]⟩
def a6W(s:(Int×(LI×Z42))):Option ((Int×(LI×Z42)) ⊕ Z42):=(fun(a:LI)(b:Int)(c:List LI)(d e:Int)=>cond (decide (b<(a.length:Int))) ((m0k a b).bind fun x3=>(m0k a (wrap .i64 (b-1))).bind fun x4=>(m0k a (wrap .i64 (b-2))).bind fun x5=>some (.inl (wrap .i64 (s.1+(v0r (wrap .i64 ((wrap .i64 (x3-(wrap .i64 (2*x4))))+x5)) (wrap .i64 (0-(wrap .i64 ((wrap .i64 (x3-(wrap .i64 (2*x4))))+x5)))))),a,wrap .i64 (b+1),c,d,e,()))) (some (.inr (s.1,c,d,e,())))) s.2.1 s.2.2.1 s.2.2.2.1 s.2.2.2.2.1 s.2.2.2.2.2.1
def a6X(s:Z42):Option (Z42 ⊕ (Int×Unit)):=(fun(a b:Int)=>cond (decide (b<a)) ((m0k s.2.1 b).bind fun x2=>(y0s a6W (s.1,x2,2,s.2.1,a,b,())).bind fun w6=>some (.inl (w6.1,w6.2.1,w6.2.2.1,wrap .i64 (w6.2.2.2.1+1),()))) (some (.inr (s.1,())))) s.2.2.1 s.2.2.2.1
def a7t(x:(List LI)):Option Int:=(a7H x).bind fun y1=>cond (!y1) (some 0) ((y0s a6X (0,x,(x.length:Int),0,())).bind fun w7=>some w7.1)
def c2e:FSem:=⟨[.v (.list false QL)],[.v QI],a7t⟩
def d8i:Hints:=⟨[(122,[3,.sv 11 (.list false QL),12,13],[Qe 0 [3]]),(31334,[3,.sv 5 QL,6,.sv 11 (.list false QL),12,13],[Qe 2 [3,.sv 11 (.list false QL),12,13]])],[],[(10,[.v,.v,.v,.v,.v,.v,.v,.v,.v,.v,.v,.v,.v,.v,.v,.v,.x,.x])]⟩
def b0H(x:Int):Option Z15:=cond (x==1) (some ([(0,1,(-256),())]:List Z7)) (cond (x==2) (some ([(1,0,(-256),())]:List Z7)) (cond (x==3) (some ([(1,0,(-256),()),(0,1,128,())]:List Z7)) (cond (x==4) (some ([(1,0,(-106),()),(0,1,181,()),(1,0,(-106),())]:List Z7)) (some []))))
def c3f:FSem:=⟨[.v QI],[.o Q10],b0H⟩
def a6s(s:((List LI)×Z7)):Option (((List LI)×Z7) ⊕ (Int×Unit)):=(fun(a:List LI)(b c d:Int)=>cond (decide (d<5)) ((b0H d).bind fun y2=>(b1X (a,y2)).bind fun y3=>cond (y3.2 != 0) (some (.inl (a,b,c,wrap .i64 (d+1),()))) ((a7t y3.1).bind fun y4=>cond (decide (y4<c)) (some (.inl (a,d,y4,wrap .i64 (d+1),()))) (some (.inl (a,b,c,wrap .i64 (d+1),()))))) (some (.inr (b,())))) s.1 s.2.1 s.2.2.1 s.2.2.2.1
def b1E(x:(List LI)):Option Z15:=(a7t x).bind fun y1=>(y0s a6s (x,0,y1,1,())).bind fun w5=>(b0H w5.1).bind fun y6=>some y6
def c5q:FSem:=⟨[.v (.list false QL)],[.o Q10],b1E⟩
def d8j:Hints:=⟨[(58,[.sv 0 (.list false QL),3,4,5],[Qe 0 [3]])],[],[]⟩
def a6t(s:(Int×Int×Int×Z15×Z97)):Option ((Int×Int×Int×Z15×Z97) ⊕ (Int×Z97)):=(fun(a b:Int)(c d:Z15)(e:Z11)=>cond (decide (b<s.2.1)) (cond ((decide (0≤b))&&(decide (b<(d.length:Int)))) (cond (lim ((a00 c)+1)) (some (.inl (a,s.2.1,wrap .i64 (b+1),a02 c ([(wrap .i64 (((a04 d (a01 b) (0,0,0,())).1)+a),wrap .i64 ((((a04 d (a01 b) (0,0,0,())).2).1)+a),(((a04 d (a01 b) (0,0,0,())).2).2).1,())]:List Z7),d,e,()))) none) none) (some (.inr (a,c,e,())))) s.1 s.2.2.1 s.2.2.2.1 s.2.2.2.2.1 s.2.2.2.2.2.1
def a8J(s:(Int×Z97)):Option ((Int×Z97) ⊕ (Z15×Unit)):=(fun(a:Int)(b:Z11)=>cond (decide ((wrap .i64 (a+1))<(b.2.1.length:Int))) (cond ((decide (0≤(wrap .i64 (a+2))))&&(decide ((wrap .i64 (a+2))≤(b.2.1.length:Int)))) (cond ((decide (0≤a))&&(decide (a≤((a01 (wrap .i64 (a+2)):Nat):Int)))) ((b1E (a08 (a01 a) (a05 (a01 (wrap .i64 (a+2))) b.2.1))).bind fun y2=>(y0s a6t (a,(y2.length:Int),0,s.2.1,y2,b,())).bind fun w3=>some (.inl (wrap .i64 (w3.1+2),w3.2.1,w3.2.2.1,()))) none) none) (some (.inr (s.2.1,())))) s.1 s.2.2.1
def a7I(x:Z11):Option Z15:=(a4s x).bind fun y1=>cond (!y1) (some []) ((y0s a8J (0,[],x,())).bind fun w4=>some w4.1)
def c5r:FSem:=⟨[.v Q13],[.o Q10],a7I⟩
def H42:Hints:=⟨[(122,[4,.own 3 3 Q10,.vp 1 Q13],[Qe 0 [.own 3 3 Q10]]),(7826,[4,25,26,.own 3 3 Q10,.own 24 1024 Q10,.vp 1 Q13],[Qe 2 [4,.own 3 3 Q10,.vp 1 Q13]])],[],[]⟩
def a5D(s:(Int×((List LI)×(Int×Int×a2B×b3H)))):Option ((Int×((List LI)×(Int×Int×a2B×b3H))) ⊕ ((a2B×b3H) ⊕ (Int×b3H))):=(fun(a b:Int)(c d:a2B)=>cond (decide (b<a)) ((m0k s.2.1 b).bind fun x8=>(a5C (x8,s.1)).bind fun y9=>cond (y9.2 != 0) (some (.inr (Sum.inr ((y9.2,(0,0,(0,0,0,()),[],[],()),()))))) (cond (lim ((a00 d.2.2.2.2.1)+1)) (some (.inl (s.1,s.2.1,a,wrap .i64 (b+1),c,(d.1,d.2.1,d.2.2.1,d.2.2.2.1,a02 d.2.2.2.2.1 ([y9.1]:List a1D),d.2.2.2.2.2),()))) none)) (some (.inr (Sum.inl (c,d,()))))) s.2.2.1 s.2.2.2.1 s.2.2.2.2.1 s.2.2.2.2.2.1
def a4R(x:(Z11×Z7×Int×Int)):Option (a2B×Int):=(show Option (Int×Int×Bool×a2B×Z11×Z20)from(a4s x.1).bind fun y1=>cond (!y1) (some (x.2.2.1,x.2.2.2,true,(0,0,(0,0,0,()),[],[],()),x.1,x.2.1,())) ((a1w x.2.1).bind fun y2=>cond (!y2) (some (x.2.2.1,x.2.2.2,true,(0,0,(0,0,0,()),[],[],()),x.1,x.2.1,())) (cond (x.1.1 != x.2.1.2.2.1) (some (x.2.2.1,x.2.2.2,true,(0,0,(0,0,0,()),[],[],()),x.1,x.2.1,())) (cond ((x.1.2.1.length:Int) != x.2.1.2.1) (some (x.2.2.1,x.2.2.2,true,(0,0,(0,0,0,()),[],[],()),x.1,x.2.1,())) (cond (decide (x.2.2.2<0)) (some (x.2.2.1,x.2.2.2,true,(0,0,(0,0,0,()),[],[],()),x.1,x.2.1,())) (cond (decide (x.2.2.2 > 3)) (some (x.2.2.1,x.2.2.2,true,(0,0,(0,0,0,()),[],[],()),x.1,x.2.1,())) (some (x.2.2.1,x.2.2.2,decide (x.2.2.1<0),(0,0,(0,0,0,()),[],[],()),x.1,x.2.1,())))))))).bind fun z3=>cond z3.2.2.1 (some ((0,0,(0,0,0,()),[],[],()),1)) ((a4r z3.2.2.2.2.1).bind fun y4=>cond (decide (z3.1 > (wrap .i64 (4194304-y4)))) (some ((0,0,(0,0,0,()),[],[],()),4)) ((show Option (Int×a2B×a2B×Z31)from cond (decide (z3.2.1 > 0)) ((a7I z3.2.2.2.2.1).bind fun y5=>some (z3.2.1,z3.2.2.2.1,(z3.1,y4,z3.2.2.2.2.2.1,y5,[],()),z3.2.2.2.2.1,())) (some (z3.2.1,z3.2.2.2.1,(z3.1,y4,z3.2.2.2.2.2.1,[],[],()),z3.2.2.2.2.1,()))).bind fun z6=>(b1X (z6.2.2.2.1.2.1,z6.2.2.1.2.2.2.1)).bind fun y7=>cond (y7.2 != 0) (some ((0,0,(0,0,0,()),[],[],()),y7.2)) ((y0s a5D (z6.1,y7.1,(y7.1.length:Int),0,z6.2.1,z6.2.2.1,())).bind fun w10=>match w10 with |.inl a11=>some (a11.2.1,0) |.inr b12=>some (b12.2.1,b12.1))))
def c3g:FSem:=⟨[.v Q13,.v Q10,.v QI,.v QI],[.v Q58,.v QI],a4R⟩
def H12:Hints:=⟨[(2042,[3,.sv 81 (.list false QL),82,83,.box 8 Q58,.box 10 Q57,Qp 8 8,Qp 10 10],[Qe 0 [.box 8 Q58,.box 10 Q57,Qp 8 8,Qp 10 10],Qr [9,.box 8 Q58,Qp 8 8]])],[(6,[Qn [2,3,.sv 51 .bool,.box 8 Q58,.vp 4 Q13,.vp 5 Q10,Qp 8 8]]),(31,[Qn [3,.box 8 Q58,.box 10 Q57,.vp 4 Q13,Qp 8 8,Qp 10 10]])],[(3,[.v,.v,.v,.v,.v,.q,.x])]⟩
def a7u(x:a2B):Option Bool:=(a1w x.2.2.1).bind fun y1=>cond y1 (cond (decide (x.2.1≥1)) (cond (decide (x.2.1≤4096)) (cond (decide (x.1≥0)) (cond (decide (x.1≤(wrap .i64 (4194304-x.2.1)))) ((a8I (x.2.2.2.1,x.2.2.1.2.1)).bind fun y2=>some y2) (some false)) (some false)) (some false)) (some false)) (some false)
def c2f:FSem:=⟨[.v Q58],[.v .bool],a7u⟩
def a6u(k:Int)(v:Z7)(s:(Z15×((List LI)×Z11))):Option ((Z15×((List LI)×Z11)) ⊕ (Ex×(Z15×((List LI)×Z11)))):=(a8i (s.2.2.2.1,v,(-1))).bind fun y5=>cond (!y5.1) (some (.inr (.ret,s.1,([]:(List LI)),6,y5.2,()))) (some (.inl (s.1,s.2.1,s.2.2.1,y5.2,())))
def b1F(x:((List LI)×Z15)):Option ((List LI)×Int):=(show Option ((List LI)×(Z15×(Bool×((List LI)×(Int×Unit)))))from(a7H x.1).bind fun y1=>cond (!y1) (some (x.1,x.2,true,([]:(List LI)),0,())) ((a8I (x.2,(x.1.length:Int))).bind fun y2=>some (x.1,x.2,!y2,([]:(List LI)),0,()))).bind fun z3=>cond z3.2.2.1 (some (([]:(List LI)),1)) ((a7s z3.1).bind fun y4=>cond (lim (a00 z3.2.1)) ((l0f a6u z3.2.1 (a00 z3.2.1) (z3.2.1,z3.2.2.2.1,z3.2.2.2.2.1,y4,())).bind fun w6=>match w6 with |.inl a7=>some (a7.2.2.2.1,0) |.inr (.normal,a8)=>some (a8.2.2.2.1,0) |.inr (.exit e9,a8)=>(cond (e9==0) (some (a8.2.2.2.1,0)) none) |.inr (.ret,a8)=>some (a8.2.1,a8.2.2.1)) none)
def b1G:FSem:=⟨[.v (.list false QL),.v (.list false Q10)],[.v (.list false QL),.v QI],b1F⟩
def H73:Hints:=⟨[],[(6,[Qn [.sv 0 (.list false QL),.sv 1 (.list false Q10),.sv 18 .bool,.box 4 (.list false QL),.box 5 QI,Qp 4 4,Qp 5 5]])],[]⟩
def d3V:Cx:=b2I [(106,b6S),(107,b8j),(108,b5m),(109,b5N)] [(6,.list true (.list true QI))] 3 536870912
def R73:HintR:=⟨21,Q10,156,238,[4,5,6],[.sv 21 (.list false Q10),.box 1001004 (.list false QL),.box 1001005 QI,.box 1001006 (.list true (.list true QI)),.ptr 4 1001004 [],.ptr 5 1001005 [],.ptr 6 1001006 []]⟩
theorem d8k(x):z0h d3V H73 R73 Tryz.f73 b1G.ps b1G.rs x=b1G.F x:=by kernel_rfl
def a4S(s:(b1c×(Int×(Int×((List LI)×c2J))))):Option ((b1c×(Int×(Int×((List LI)×c2J)))) ⊕ (((List LI)×c2J) ⊕ Z50)):=(fun(a:Int)(b:List LI)(c:Z11)(d:a2B)=>cond (decide (a<s.2.1)) ((m0k s.1 a).bind fun x3=>(b1W (x3,d.2.1)).bind fun y4=>cond (y4.2 != 0) (some (.inr (Sum.inr ((1,(0,([]:(List LI)),()),()))))) (cond (lim ((a00 b)+1)) (some (.inl (s.1,s.2.1,wrap .i64 (a+1),a02 b ([y4.1]:List LI),c,d,()))) none)) (some (.inr (Sum.inl (b,c,d,()))))) s.2.2.1 s.2.2.2.1 s.2.2.2.2.1 s.2.2.2.2.2.1
def a3Y(x:a2B):Option (Z11×Int):=(show Option (Bool×c2J)from(a7u x).bind fun y1=>cond (!y1) (some (true,(0,([]:(List LI)),()),x,())) (some ((x.2.2.2.2.1.length:Int) != x.2.2.1.2.1,(0,([]:(List LI)),()),x,()))).bind fun z2=>cond z2.1 (some ((0,([]:(List LI)),()),1)) (cond ((decide (0≤(z2.2.2.1.2.2.2.2.1.length:Int)))&&(lim (a01 (z2.2.2.1.2.2.2.2.1.length:Int)))) ((y0s a4S (z2.2.2.1.2.2.2.2.1,(z2.2.2.1.2.2.2.2.1.length:Int),0,([]:(List LI)),z2.2.1,z2.2.2.1,())).bind fun w5=>match w5 with |.inl a6=>((b1F (a6.1,a6.2.2.1.2.2.2.1)).bind fun y8=>cond (y8.2 != 0) (some ((0,([]:(List LI)),()),1)) ((a4s (a6.2.2.1.2.2.1.2.2.1,y8.1,())).bind fun y9=>cond (!y9) (some ((0,([]:(List LI)),()),1)) (some ((a6.2.2.1.2.2.1.2.2.1,y8.1,()),0)))) |.inr b7=>some (b7.2.1,b7.1)) none)
def c2g:FSem:=⟨[.v Q58],[.v Q13,.v QI],a3Y⟩
def H22:Hints:=⟨[(122,[.sv 30 (.list false Q40),31,32,.own 4 4 QL,.box 2 Q13,.vp 1 Q58,Qp 2 2],[Qe 0 [.own 4 4 QL,.box 2 Q13,.vp 1 Q58,Qp 2 2],Qr [3,.box 2 Q13,Qp 2 2]])],[(6,[Qn [.sv 23 .bool,.box 2 Q13,.vp 1 Q58,Qp 2 2]])],[]⟩
def a4t(x:a2B):Option Bool:=(a3Y x).bind fun y1=>some (y1.2==0)
def c5s:FSem:=⟨[.v Q58],[.v .bool],a4t⟩
def a3q(s:Z18):Option (Z18 ⊕ Z18):=cond ((a06 s.1.2.1 8) != 0) ((a2j (s.1,0)).bind fun y2=>some (.inl (y2,()))) (some (.inr (s.1,())))
def a5b(x:Z4):Option Z4:=(y0s a3q (x,())).bind fun w3=>some w3.1
def b5C:FSem:=⟨[.r false (.b Q7)],[],a5b⟩
def H46:Hints:=⟨[(2,[.box pinned Q7,Qp 0 pinned],[Qe 0 [.box pinned Q7]])],[],[]⟩
def a5c(x:Z4):Option (LI×Z4):=cond (lim (a00 x.1)) (some (x.1,x)) none
def b5D:FSem:=⟨[.r false (.b Q7)],[.o QV],a5c⟩
def b1H(x:Int):Option Int:=cond (decide (x≥0)) (some (wrap .u64 (2*(wrap .u64 x)))) (some (wrap .u64 ((wrap .u64 (2*(wrap .u64 (wrap .i64 (0-(wrap .i64 (x+1)))))))+1)))
def c5t:FSem:=⟨[.v QI],[.v QU],b1H⟩
def a8K(s:Z59):Option (Z59 ⊕ Z59):=(fun(a b c:Int)(d:LI)=>cond (decide (a≥128)) (cond (lim ((a00 d)+1)) (some (.inl (wrap .u64 (a07 a 128),s.2.1,b,c,a02 d [wrap .u8 ((wrap .u8 (a06 a 128))+128)],()))) none) (some (.inr (a,s.2.1,b,c,d,())))) s.1 s.2.2.1 s.2.2.2.1 s.2.2.2.2.1
def a8L(s:Z39):Option (Z39 ⊕ (LI×Unit)):=cond (decide (s.2.2.1<s.2.1)) ((m0k s.1 s.2.2.1).bind fun x1=>(y0s a8K (x1,s.1,s.2.1,s.2.2.1,s.2.2.2.1,())).bind fun w2=>cond (lim ((a00 w2.2.2.2.2.1)+1)) (some (.inl (w2.2.1,w2.2.2.1,wrap .i64 (w2.2.2.2.1+1),a02 w2.2.2.2.2.1 [wrap .u8 w2.1],()))) none) (some (.inr (s.2.2.2.1,())))
def a9q(x:LI):Option LI:=(y0s a8L (x,(x.length:Int),0,[],())).bind fun w3=>some w3.1
def c5u:FSem:=⟨[.v (.list false QU)],[.o QV],a9q⟩
def d8l:Hints:=⟨[(58,[.sv 6 (.list false QU),7,8,.own 3 3 QV],[Qe 0 [.own 3 3 QV]]),(14948,[.sv 5 QU,.sv 6 (.list false QU),7,8,.own 3 3 QV],[Qe 2 [.sv 5 QU,.sv 6 (.list false QU),7,8,.own 3 3 QV]])],[],[]⟩
def b0I(s:Z51):Option (Z51 ⊕ Z28):=(fun(a:Int)(b:LI)(c d e:Int)=>cond (decide (e<8)) (cond ((A0o .u8 a 7)==1) (some (.inl (bits .u8 .xor (A0n .u8 a 1) 7,b,c,d,wrap .i64 (e+1),()))) (some (.inl (A0n .u8 a 1,b,c,d,wrap .i64 (e+1),())))) (some (.inr (a,b,c,d,())))) s.1 s.2.1 s.2.2.1 s.2.2.2.1 s.2.2.2.2.1
def a7Y(s:Z28):Option Z66:=(fun(a b:Int)=>cond (decide (b<a)) ((m0k s.2.1 b).bind fun x1=>(y0s b0I (bits .u8 .xor s.1 x1,s.2.1,a,b,0,())).bind fun w2=>some (.inl (w2.1,w2.2.1,w2.2.2.1,wrap .i64 (w2.2.2.2.1+1),()))) (some (.inr (s.1,())))) s.2.2.1 s.2.2.2.1
def a8k(x:LI):Option Int:=(y0s a7Y (0,x,(x.length:Int),0,())).bind fun w3=>some w3.1
def c3h:FSem:=⟨[.v QB],[.v QV],a8k⟩
def d8m:Hints:=⟨[(58,[.sv 3 QV,.sv 7 QB,8,9],[Qe 0 [.sv 3 QV]]),(29902,[.sv 3 QV,.sv 7 QB,8,9,16],[Qe 2 [.sv 3 QV,.sv 7 QB,8,9]])],[],[]⟩
def a5E(s:(Int×Z15×Z12)):Option ((Int×Z15×Z12) ⊕ Z5):=(fun(a b:Int)(c:LI)=>cond (decide (b<a)) ((m0k s.2.1 b).bind fun x1=>(b1H x1.2.2.1).bind fun y2=>cond (lim ((a00 c)+3)) (some (.inl (s.1,s.2.1,a,wrap .i64 (b+1),a02 c [wrap .u64 x1.1,wrap .u64 x1.2.1,y2],()))) none) (some (.inr (s.1,c,())))) s.2.2.1 s.2.2.2.1 s.2.2.2.2.1
def a7Z(x:(a2B×Int)):Option LI:=(y0s a5E (x.2,x.1.2.2.2.1,(x.1.2.2.2.1.length:Int),0,([wrap .u64 x.1.1,wrap .u64 x.1.2.1,wrap .u64 x.1.2.2.1.1,wrap .u64 x.1.2.2.1.2.1,wrap .u64 x.1.2.2.1.2.2.1,wrap .u64 (x.1.2.2.2.1.length:Int)]:List Int),())).bind fun w3=>cond (lim ((a00 w3.2.1)+1)) ((a9q (a02 w3.2.1 [wrap .u64 w3.1])).bind fun y4=>cond (lim (2+(a00 y4))) ((a8k (a02 [245,75] y4)).bind fun y5=>cond (lim ((a00 (a02 [245,75] y4))+1)) (some (a02 (a02 [245,75] y4) [y5])) none) none) none
def b8k:FSem:=⟨[.v Q58,.v QI],[.o QV],a7Z⟩
def H48:Hints:=⟨[(58,[1,.sv 33 (.list false Q10),34,35,.own 5 5 QU],[Qe 0 [1,.own 5 5 QU]])],[],[(5,[.q,.q,.q,.v,.q,.q,.v,.q,.q,.v,.q,.x,.x])]⟩
def a1Y(x:LI):Option LI:=cond (decide (a00 x<2147483648)) (some (List.reverse x)) none
def b1a:FSem:=⟨[.r false (.o QV)],[],a1Y⟩
def a4u(x:(Int×Int)):Option LI:=(a0U (x.1,x.2)).bind fun y1=>(a1Y y1).bind fun y2=>some y2
def c5v:FSem:=⟨[.v QU,.v QI],[.o QV],a4u⟩
def a9c(s:Z51):Option (Z51 ⊕ Z28):=(fun(a:Int)(b:LI)(c d e:Int)=>cond (decide (e<8)) (cond ((A0o .u16 a 15)==1) (some (.inl (bits .u16 .xor (A0n .u16 a 1) 32773,b,c,d,wrap .i64 (e+1),()))) (some (.inl (A0n .u16 a 1,b,c,d,wrap .i64 (e+1),())))) (some (.inr (a,b,c,d,())))) s.1 s.2.1 s.2.2.1 s.2.2.2.1 s.2.2.2.2.1
def a6c(s:Z28):Option Z66:=(fun(a b:Int)=>cond (decide (b<a)) ((m0k s.2.1 b).bind fun x1=>(y0s a9c (bits .u16 .xor s.1 (A0n .u16 (wrap .u16 x1) 8),s.2.1,a,b,0,())).bind fun w2=>some (.inl (w2.1,w2.2.1,w2.2.2.1,wrap .i64 (w2.2.2.2.1+1),()))) (some (.inr (s.1,())))) s.2.2.1 s.2.2.2.1
def a6v(x:LI):Option Int:=(y0s a6c (0,x,(x.length:Int),0,())).bind fun w3=>some w3.1
def b9K:FSem:=⟨[.v QB],[.v (.int .u16)],a6v⟩
def H50:Hints:=⟨[(58,[.sv 3 (.int .u16),.sv 7 QB,8,9],[Qe 0 [.sv 3 (.int .u16)]]),(29902,[.sv 3 (.int .u16),.sv 7 QB,8,9,18],[Qe 2 [.sv 3 (.int .u16),.sv 7 QB,8,9]])],[],[]⟩
def a8M(s:(b1c×Int×Int×Z4×b3H)):Option ((b1c×Int×Int×Z4×b3H) ⊕ ((Z4×b3H) ⊕ Z5)):=(fun(a:Int)(b:Z4)(c:a2B)=>cond (decide (a<s.2.1)) ((m0k s.1 a).bind fun x2=>(a9S (b,x2,c.2.1)).bind fun y3=>cond (y3.1 != 0) (some (.inr (Sum.inr ((y3.1,[],()))))) (some (.inl (s.1,s.2.1,wrap .i64 (a+1),y3.2,c,())))) (some (.inr (Sum.inl (b,c,()))))) s.2.2.1 s.2.2.2.1 s.2.2.2.2.1
def a5U(x:a2B):Option (LI×Int):=(a4t x).bind fun y1=>cond (!y1) (some ([],1)) ((y0s a8M (x.2.2.2.2.1,(x.2.2.2.2.1.length:Int),0,([],0,()),x,())).bind fun w4=>match w4 with |.inl a5=>((a5b a5.1).bind fun y7=>(a5c y7).bind fun y8=>(a7Z (a5.2.1,(y8.1.length:Int))).bind fun y9=>cond (lim ((a00 y9)+(a00 y8.1))) ((a6v (a02 y9 y8.1)).bind fun y10=>(a4u (wrap .u64 y10,2)).bind fun y11=>cond (lim ((a00 (a02 y9 y8.1))+(a00 y11))) (some (a02 (a02 y9 y8.1) y11,0)) none) none) |.inr b6=>some (b6.2.1,b6.1))
def c5w:FSem:=⟨[.v Q58],[.o QV,.v QI],a5U⟩
def H13:Hints:=⟨[(122,[.sv 14 (.list false Q40),15,16,.box 4 Q7,.vp 1 Q58,Qp 4 4],[Qe 0 [.box 4 Q7,.vp 1 Q58,Qp 4 4],Qr [3,.own 2 2 QV]])],[],[]⟩
def a8a(s:(LI×(Int×Int×Z11×Z11×Z20))):Option ((LI×(Int×Int×Z11×Z11×Z20)) ⊕ ((Z11×Z31) ⊕ Z50)):=(fun(a:Int)(b c:Z11)(d:Z7)=>cond (decide (a<s.2.1)) ((m0k s.1 a).bind fun x2=>(a1j (x2,d.2.2.1)).bind fun y3=>cond (!y3) (some (.inr (Sum.inr ((6,(0,([]:(List LI)),()),()))))) (cond (d.2.1==0) none (cond ((decide (0≤(a06 a d.2.1)))&&(decide ((a06 a d.2.1)<(c.2.1.length:Int)))) (cond (lim ((a00 (a04 c.2.1 (a01 (a06 a d.2.1)) []))+1)) (cond ((decide (0≤(a06 a d.2.1)))&&(decide ((a06 a d.2.1)<((a00 (a18 c.2.1 (a01 (a06 a d.2.1)) (a02 (a04 c.2.1 (a01 (a06 a d.2.1)) []) [x2])):Nat):Int)))) (cond (((a01 (a06 a d.2.1))==(a01 (a06 a d.2.1)))&&true) (cond (((a01 (a06 a d.2.1))==(a01 (a06 a d.2.1)))&&true) (some (.inl (s.1,s.2.1,wrap .i64 (a+1),b,(c.1,a18 c.2.1 (a01 (a06 a d.2.1)) (a02 (a04 c.2.1 (a01 (a06 a d.2.1)) []) [x2]),c.2.2),d,()))) none) none) none) none) none))) (some (.inr (Sum.inl (b,c,()))))) s.2.2.1 s.2.2.2.1 s.2.2.2.2.1 s.2.2.2.2.2.1
def b0J(x:Z30):Option (Z11×Int):=(a1w x.2).bind fun y1=>cond (!y1) (some ((0,([]:(List LI)),()),1)) (cond ((x.1.length:Int)==0) (some ((0,([]:(List LI)),()),7)) (cond (x.2.2.1==0) none (cond ((a06 (x.1.length:Int) x.2.2.1) != 0) (some ((0,([]:(List LI)),()),3)) (cond (x.2.2.1==0) none (cond (decide ((wrap .i64 (a07 (x.1.length:Int) x.2.2.1)) > 4096)) (some ((0,([]:(List LI)),()),4)) (cond ((decide (0≤x.2.2.1))&&((decide (x.2.2.1≤x.2.2.1))&&(lim (a01 x.2.2.1)))) ((y0s a8a (x.1,(x.1.length:Int),0,(0,([]:(List LI)),()),(x.2.2.2.1,a03 (a01 x.2.2.1) [],()),x.2,())).bind fun w4=>match w4 with |.inl a5=>some (a5.2.1,0) |.inr b6=>some (b6.2.1,b6.1)) none))))))
def c3i:FSem:=⟨[.v QL,.v Q10],[.v Q13,.v QI],b0J⟩
def H95:Hints:=⟨[(1018,[.sv 38 QL,39,40,.box 4 Q13,.box 6 (.pair QI Q5),.vp 3 Q10,Qp 4 4,Qp 6 6],[Qe 0 [.box 4 Q13,.box 6 (.pair QI Q5),Qp 4 4,Qp 6 6],Qr [5,.box 4 Q13,Qp 4 4]])],[],[(9,[.v,.v,.v,.v,.q,.q,.q,.x]),(16,[.s,.s,.s,.q,.q,.v,.q,.q,.v,.q,.b [6,64,65],.x,.x])]⟩
def a6Y(s:(Int×(Int×(Int×((List LI)×Z90))))):Option ((Int×(Int×(Int×((List LI)×Z90)))) ⊕ Z90):=(fun(a:Int)(b:List LI)(c d:Int)(e:LI)(f:Z11)=>cond (decide (d<c)) ((m0k b d).bind fun x3=>(m0k x3 s.1).bind fun x4=>cond (lim ((a00 e)+1)) (some (.inl (s.1,s.2.1,a,b,c,wrap .i64 (d+1),a02 e [x4],f,()))) none) (some (.inr (s.2.1,a,e,f,())))) s.2.2.1 s.2.2.2.1 s.2.2.2.2.1 s.2.2.2.2.2.1 s.2.2.2.2.2.2.1 s.2.2.2.2.2.2.2.1
def a6Z(s:Z90):Option (Z90 ⊕ (LI×Unit)):=cond (decide (s.2.1<s.1)) ((y0s a6Y (s.2.1,s.1,s.2.1,s.2.2.2.1.2.1,(s.2.2.2.1.2.1.length:Int),0,s.2.2.1,s.2.2.2.1,())).bind fun w5=>some (.inl (w5.1,wrap .i64 (w5.2.1+1),w5.2.2.1,w5.2.2.2.1,()))) (some (.inr (s.2.2.1,())))
def a7v(x:Z11):Option LI:=(a4s x).bind fun y1=>cond (!y1) (some []) ((a4r x).bind fun y2=>(y0s a6Z (y2,0,[],x,())).bind fun w6=>some w6.1)
def c2h:FSem:=⟨[.v Q13],[.o QI],a7v⟩
def d8n:Hints:=⟨[(122,[11,12,.own 3 3 QI,.vp 1 Q13],[Qe 0 [.own 3 3 QI]]),(31334,[4,11,12,.sv 16 (.list false QL),17,18,.own 3 3 QI,.vp 1 Q13],[Qe 2 [11,12,.own 3 3 QI,.vp 1 Q13]])],[],[]⟩
def b0K(x:Z11):Option (LI×Int):=(a4s x).bind fun y1=>cond (!y1) (some ([],1)) ((a7v x).bind fun y2=>(a3U (y2,x.1)).bind fun y3=>some (y3.1,y3.2))
def c3j:FSem:=⟨[.v Q13],[.o QV,.v QI],b0K⟩
def d8o:Hints:=⟨[],[],[(3,[.v,.q,.v,.v,.x,.q,.q,.x,.x])]⟩
def a6d(x:(Int×Int)):Option (Int×Int):=some (wrap .u64 ((wrap .u64 ((wrap .u64 ((A0o .u64 x.1 32)*(A0o .u64 x.2 32)))+(A0o .u64 (wrap .u64 ((wrap .u64 ((A0o .u64 x.1 32)*(bits .u64 .and x.2 4294967295)))+(A0o .u64 (wrap .u64 ((bits .u64 .and x.1 4294967295)*(bits .u64 .and x.2 4294967295))) 32))) 32)))+(A0o .u64 (wrap .u64 ((bits .u64 .and (wrap .u64 ((wrap .u64 ((A0o .u64 x.1 32)*(bits .u64 .and x.2 4294967295)))+(A0o .u64 (wrap .u64 ((bits .u64 .and x.1 4294967295)*(bits .u64 .and x.2 4294967295))) 32))) 4294967295)+(wrap .u64 ((bits .u64 .and x.1 4294967295)*(A0o .u64 x.2 32))))) 32)),wrap .u64 (x.1*x.2))
def b6F:FSem:=⟨[.v QU,.v QU],[.v QU,.v QU],a6d⟩
def a9d(x:(Int×Int×Int)):Option (Int×Int):=cond (decide (x.2.2.toNat≤1)) (some ((((x.1.toNat+x.2.1.toNat+x.2.2.toNat)%18446744073709551616:Nat):Int),(((x.1.toNat+x.2.1.toNat+x.2.2.toNat) / 18446744073709551616:Nat):Int))) none
def b6G:FSem:=⟨[.v QU,.v QU,.v QU],[.v QU,.v QU],a9d⟩
def d3W:Hints:=⟨[],[(3,[Qn [.sv 0 QU,2]]),(7,[Qn [.sv 0 QU,2]]),(15,[Qn [.sv 0 QU,2]])],[]⟩
def b2g(x:Int):Option Int:=A0j (b2I [] [] 5 0) d3W Tryz.f330 [.v (.int .u64)] [.v (.int .i64)] x
def b6H:FSem:=⟨[.v QU],[.v QI],b2g⟩
def a3Z(x:Int):Option Int:=(b2g x).bind fun y1=>some (wrap .i64 (64-y1))
def b2f:FSem:=⟨[.v QU],[.v QI],a3Z⟩
def a2d(s:Z94):Option (Z94 ⊕ Z85):=(show Option (Z94 ⊕ Z85)from cond (decide (s.2.2.2.2.2.2.2.1≥4294967296)) (some (Sum.inl (s.1,s.2.1,s.2.2.1,s.2.2.2.1,s.2.2.2.2.1,s.2.2.2.2.2.1,s.2.2.2.2.2.2.1,s.2.2.2.2.2.2.2.1,s.2.2.2.2.2.2.2.2.1,()))) (cond (decide ((wrap .u64 (s.2.2.2.2.2.2.2.1*s.2.2.2.1)) > (wrap .u64 ((wrap .u64 (4294967296*s.2.2.2.2.2.2.2.2.1))+s.2.2.2.2.2.1)))) (some (Sum.inl (s.1,s.2.1,s.2.2.1,s.2.2.2.1,s.2.2.2.2.1,s.2.2.2.2.2.1,s.2.2.2.2.2.2.1,s.2.2.2.2.2.2.2.1,s.2.2.2.2.2.2.2.2.1,()))) (some (Sum.inr ((s.1,s.2.1,s.2.2.1,s.2.2.2.1,s.2.2.2.2.1,s.2.2.2.2.2.1,s.2.2.2.2.2.2.1,s.2.2.2.2.2.2.2.1,())))))).bind fun z2=>match z2 with |.inl a3=>(cond (decide ((wrap .u64 (a3.2.2.2.2.2.2.2.2.1+a3.2.2.1))≥4294967296)) (some (.inr (a3.1,a3.2.1,a3.2.2.1,a3.2.2.2.1,a3.2.2.2.2.1,a3.2.2.2.2.2.1,a3.2.2.2.2.2.2.1,wrap .u64 (a3.2.2.2.2.2.2.2.1-1),()))) (some (.inl (a3.1,a3.2.1,a3.2.2.1,a3.2.2.2.1,a3.2.2.2.2.1,a3.2.2.2.2.2.1,a3.2.2.2.2.2.2.1,wrap .u64 (a3.2.2.2.2.2.2.2.1-1),wrap .u64 (a3.2.2.2.2.2.2.2.2.1+a3.2.2.1),())))) |.inr b4=>some (.inr (b4.1,b4.2.1,b4.2.2.1,b4.2.2.2.1,b4.2.2.2.2.1,b4.2.2.2.2.2.1,b4.2.2.2.2.2.2.1,b4.2.2.2.2.2.2.2.1,()))
def a2e(s:Z94):Option (Z94 ⊕ Z54):=(show Option (Z94 ⊕ Z54)from cond (decide (s.2.2.2.2.2.2.2.2.1≥4294967296)) (some (Sum.inl (s.1,s.2.1,s.2.2.1,s.2.2.2.1,s.2.2.2.2.1,s.2.2.2.2.2.1,s.2.2.2.2.2.2.1,s.2.2.2.2.2.2.2.1,s.2.2.2.2.2.2.2.2.1,()))) (cond (decide ((wrap .u64 (s.2.2.2.2.2.2.2.2.1*s.2.2.2.1)) > (wrap .u64 ((wrap .u64 (4294967296*s.2.2.2.2.2.2.1))+s.2.2.2.2.1)))) (some (Sum.inl (s.1,s.2.1,s.2.2.1,s.2.2.2.1,s.2.2.2.2.1,s.2.2.2.2.2.1,s.2.2.2.2.2.2.1,s.2.2.2.2.2.2.2.1,s.2.2.2.2.2.2.2.2.1,()))) (some (Sum.inr ((s.1,s.2.1,s.2.2.2.2.1,s.2.2.2.2.2.1,s.2.2.2.2.2.2.2.1,s.2.2.2.2.2.2.2.2.1,())))))).bind fun z6=>match z6 with |.inl a7=>(cond (decide ((wrap .u64 (a7.2.2.2.2.2.2.1+a7.2.2.1))≥4294967296)) (some (.inr (a7.1,a7.2.1,a7.2.2.2.2.1,a7.2.2.2.2.2.1,a7.2.2.2.2.2.2.2.1,wrap .u64 (a7.2.2.2.2.2.2.2.2.1-1),()))) (some (.inl (a7.1,a7.2.1,a7.2.2.1,a7.2.2.2.1,a7.2.2.2.2.1,a7.2.2.2.2.2.1,wrap .u64 (a7.2.2.2.2.2.2.1+a7.2.2.1),a7.2.2.2.2.2.2.2.1,wrap .u64 (a7.2.2.2.2.2.2.2.2.1-1),())))) |.inr b8=>some (.inr (b8.1,b8.2.1,b8.2.2.1,b8.2.2.2.1,b8.2.2.2.2.1,b8.2.2.2.2.2.1,()))
def a2T(x:(Int×Int×Int)):Option (Int×Int):=cond (x.2.2==0) none (cond (decide (x.2.2≤x.1)) none (cond (x.1==0) (cond (x.2.2==0) none (cond (x.2.2==0) none (some (wrap .u64 (a07 x.2.1 x.2.2),a06 x.2.1 x.2.2)))) ((a3Z x.2.2).bind fun y1=>cond (decide ((wrap .u64 y1)<0)) none (cond (decide ((wrap .u64 y1)<0)) none (cond (decide ((wrap .u64 (64-(wrap .u64 y1)))<0)) none (cond (decide ((wrap .u64 y1)<0)) none (cond ((A0o .u64 (A0n .u64 x.2.2 (wrap .u64 y1)) 32)==0) none ((y0s a2d (A0n .u64 x.2.2 (wrap .u64 y1),wrap .u64 y1,A0o .u64 (A0n .u64 x.2.2 (wrap .u64 y1)) 32,bits .u64 .and (A0n .u64 x.2.2 (wrap .u64 y1)) 4294967295,bits .u64 .or (A0n .u64 x.1 (wrap .u64 y1)) (A0o .u64 x.2.1 (wrap .u64 (64-(wrap .u64 y1)))),A0o .u64 (A0n .u64 x.2.1 (wrap .u64 y1)) 32,bits .u64 .and (A0n .u64 x.2.1 (wrap .u64 y1)) 4294967295,wrap .u64 (a07 (bits .u64 .or (A0n .u64 x.1 (wrap .u64 y1)) (A0o .u64 x.2.1 (wrap .u64 (64-(wrap .u64 y1))))) (A0o .u64 (A0n .u64 x.2.2 (wrap .u64 y1)) 32)),wrap .u64 ((bits .u64 .or (A0n .u64 x.1 (wrap .u64 y1)) (A0o .u64 x.2.1 (wrap .u64 (64-(wrap .u64 y1)))))-(wrap .u64 ((wrap .u64 (a07 (bits .u64 .or (A0n .u64 x.1 (wrap .u64 y1)) (A0o .u64 x.2.1 (wrap .u64 (64-(wrap .u64 y1))))) (A0o .u64 (A0n .u64 x.2.2 (wrap .u64 y1)) 32)))*(A0o .u64 (A0n .u64 x.2.2 (wrap .u64 y1)) 32)))),())).bind fun w5=>cond (w5.2.2.1==0) none ((y0s a2e (w5.1,w5.2.1,w5.2.2.1,w5.2.2.2.1,w5.2.2.2.2.2.2.1,w5.2.2.2.2.2.2.2.1,wrap .u64 ((wrap .u64 ((wrap .u64 ((wrap .u64 (w5.2.2.2.2.1*4294967296))+w5.2.2.2.2.2.1))-(wrap .u64 (w5.2.2.2.2.2.2.2.1*w5.1))))-(wrap .u64 ((wrap .u64 (a07 (wrap .u64 ((wrap .u64 ((wrap .u64 (w5.2.2.2.2.1*4294967296))+w5.2.2.2.2.2.1))-(wrap .u64 (w5.2.2.2.2.2.2.2.1*w5.1)))) w5.2.2.1))*w5.2.2.1))),wrap .u64 ((wrap .u64 ((wrap .u64 (w5.2.2.2.2.1*4294967296))+w5.2.2.2.2.2.1))-(wrap .u64 (w5.2.2.2.2.2.2.2.1*w5.1))),wrap .u64 (a07 (wrap .u64 ((wrap .u64 ((wrap .u64 (w5.2.2.2.2.1*4294967296))+w5.2.2.2.2.2.1))-(wrap .u64 (w5.2.2.2.2.2.2.2.1*w5.1)))) w5.2.2.1),())).bind fun w9=>cond (decide (w9.2.1<0)) none (some (wrap .u64 ((wrap .u64 (w9.2.2.2.1*4294967296))+w9.2.2.2.2.2.1),A0o .u64 (wrap .u64 ((wrap .u64 ((wrap .u64 (w9.2.2.2.2.1*4294967296))+w9.2.2.1))-(wrap .u64 (w9.2.2.2.2.2.1*w9.1)))) w9.2.1)))))))))))
def b6I:FSem:=⟨[.v QU,.v QU,.v QU],[.v QU,.v QU],a2T⟩
def d8p:Hints:=⟨[(131068,[.sv 2 QU,.sv 8 QU,.sv 9 QU,.sv 10 QU,.sv 11 QU,.sv 13 QU,.sv 14 QU,.sv 15 QU,.sv 16 QU],[Qe 0 [.sv 2 QU,.sv 8 QU,.sv 9 QU,.sv 10 QU,.sv 11 QU,.sv 13 QU,.sv 14 QU,.sv 15 QU]]),(2097148,[.sv 2 QU,.sv 8 QU,.sv 9 QU,.sv 10 QU,.sv 14 QU,.sv 15 QU,.sv 16 QU,.sv 17 QU,.sv 18 QU],[Qe 2 [.sv 2 QU,.sv 8 QU,.sv 14 QU,.sv 15 QU,.sv 17 QU,.sv 18 QU]])],[(262136,[Qn [.sv 2 QU,.sv 8 QU,.sv 9 QU,.sv 10 QU,.sv 11 QU,.sv 13 QU,.sv 14 QU,.sv 15 QU,.sv 16 QU],Qe 0 [.sv 2 QU,.sv 8 QU,.sv 9 QU,.sv 10 QU,.sv 11 QU,.sv 13 QU,.sv 14 QU,.sv 15 QU]]),(4194296,[Qn [.sv 2 QU,.sv 8 QU,.sv 9 QU,.sv 10 QU,.sv 14 QU,.sv 15 QU,.sv 16 QU,.sv 17 QU,.sv 18 QU],Qe 2 [.sv 2 QU,.sv 8 QU,.sv 14 QU,.sv 15 QU,.sv 17 QU,.sv 18 QU]])],[(6,[.v,.v,.v,.v,.v,.v,.v,.x])]⟩
def a9e(x:(Int×Int×Int)):Option Int:=cond (x.2.2==0) none ((a2T (a06 x.1 x.2.2,x.2.1,x.2.2)).bind fun y1=>some y1.2)
def b6J:FSem:=⟨[.v QU,.v QU,.v QU],[.v QU],a9e⟩
def a5V(x:(Int×Int×Int)):Option Int:=(a6d (x.1,x.2.1)).bind fun y1=>(a9d (y1.2,x.2.2,0)).bind fun y2=>(a9e (wrap .u64 (y1.1+y2.2),y2.1,2305843009213693951)).bind fun y3=>some y3
def c5x:FSem:=⟨[.v QU,.v QU,.v QU],[.v QU],a5V⟩
def a8b(s:Z7):Option (Z7 ⊕ (Int×Unit)):=(fun(a b c:Int)=>cond (decide (a > 0)) ((show Option Z7 from cond ((a06 a 2)==1) ((a5V (b,c,0)).bind fun y1=>some (a,y1,c,())) (some (a,b,c,()))).bind fun z2=>(a5V (z2.2.2.1,z2.2.2.1,0)).bind fun y3=>some (.inl (wrap .i64 (a07 z2.1 2),z2.2.1,y3,()))) (some (.inr (b,())))) s.1 s.2.1 s.2.2.1
def b0L(x:Int):Option Int:=(y0s a8b (v0r x 0,1,1000003,())).bind fun w4=>some w4.1
def c3k:FSem:=⟨[.v QI],[.v QU],b0L⟩
def d8q:Hints:=⟨[(58,[0,.sv 3 QU,.sv 4 QU],[Qe 0 [.sv 3 QU]])],[(932,[Qn [0,.sv 3 QU,.sv 4 QU]])],[]⟩
def b1I(x:(Int×Int×Int)):Option (Int×Bool):=(show Option Z21 from cond (decide (x.1≥2305843009213693951)) (some (x.1,x.2.1,x.2.2,true,())) (cond (decide (x.2.1≥2305843009213693951)) (some (x.1,x.2.1,x.2.2,true,())) (some (x.1,x.2.1,x.2.2,decide (x.2.2<0),())))).bind fun z1=>cond z1.2.2.2.1 (some (0,false)) ((b0L z1.2.2.1).bind fun y2=>(a5V (z1.1,y2,z1.2.1)).bind fun y3=>some (y3,true))
def c5y:FSem:=⟨[.v QU,.v QU,.v QI],[.v QU,.v .bool],b1I⟩
def d8r:Hints:=⟨[],[(6,[Qn [.sv 0 QU,.sv 1 QU,2,.sv 17 .bool]])],[]⟩
def a8c(s:Z28):Option Z66:=(fun(a b:Int)=>cond (decide (b<a)) ((m0k s.2.1 b).bind fun x1=>(a5V (s.1,1000003,wrap .u64 ((wrap .u64 x1)+1))).bind fun y2=>some (.inl (y2,s.2.1,a,wrap .i64 (b+1),()))) (some (.inr (s.1,())))) s.2.2.1 s.2.2.2.1
def b0M(x:LI):Option Int:=(y0s a8c (0,x,(x.length:Int),0,())).bind fun w3=>some w3.1
def c3l:FSem:=⟨[.v QB],[.v QU],b0M⟩
def d8s:Hints:=⟨[(58,[.sv 3 QU,.sv 6 QB,7,8],[Qe 0 [.sv 3 QU]])],[],[]⟩
def a4E(x:Z26):Option (Int×Bool):=(b0K x.2).bind fun y1=>cond (y1.2 != 0) (some (0,false)) ((b0M y1.1).bind fun y2=>(b1I (x.1,y2,(y1.1.length:Int))).bind fun y3=>some (y3.1,y3.2))
def b9L:FSem:=⟨[.v QU,.v Q13],[.v QU,.v .bool],a4E⟩
def a8N(s:(Int×Int×Int×b5G×Int×Int×c6P)):Option ((Int×Int×Int×b5G×Int×Int×c6P) ⊕ ((Int×Int×c6P) ⊕ (Bool×((List LI)×Z43)))):=(fun(a b:Int)(c:b5G)(d e:Int)(f:List LI)(g:Z22)(h:a9J)=>cond (decide (e<d)) ((m0k c e).bind fun x3=>(show Option (Int×(Int×(Int×(Int×(b5G×(Int×(Int×(Bool×((List LI)×(Z22×a2B×b2H))))))))))from cond (!(eqT Q10 x3.2.2.1 h.1)) (some (a,s.2.1,b,e,c,d,e,true,f,g,x3,h,())) (some (a,s.2.1,b,e,c,d,e,x3.1 != a,f,g,x3,h,()))).bind fun z4=>cond z4.2.2.2.2.2.2.2.1 (some (.inr (Sum.inr ((false,([]:(List LI)),[],()))))) ((show Option (Int×(Int×(Int×(b5G×(Int×(Int×(Bool×((List LI)×(Z22×a2B×b2H)))))))))from(m0k z4.2.2.2.2.2.2.2.2.2.2.2.1.2.2.2.1 z4.2.2.2.1).bind fun x5=>cond (x5.1 != z4.1) (some (z4.1,z4.2.1,z4.2.2.1,z4.2.2.2.2.1,z4.2.2.2.2.2.1,z4.2.2.2.2.2.2.1,true,z4.2.2.2.2.2.2.2.2.1,z4.2.2.2.2.2.2.2.2.2.1,z4.2.2.2.2.2.2.2.2.2.2.1,z4.2.2.2.2.2.2.2.2.2.2.2.1,())) ((m0k z4.2.2.2.2.2.2.2.2.2.2.2.1.2.2.2.1 z4.2.2.2.1).bind fun x6=>some (z4.1,z4.2.1,z4.2.2.1,z4.2.2.2.2.1,z4.2.2.2.2.2.1,z4.2.2.2.2.2.2.1,x6.2.1 != z4.2.1,z4.2.2.2.2.2.2.2.2.1,z4.2.2.2.2.2.2.2.2.2.1,z4.2.2.2.2.2.2.2.2.2.2.1,z4.2.2.2.2.2.2.2.2.2.2.2.1,()))).bind fun z7=>cond z7.2.2.2.2.2.2.1 (some (.inr (Sum.inr ((false,([]:(List LI)),[],()))))) ((a3Y z7.2.2.2.2.2.2.2.2.2.1).bind fun y8=>cond (y8.2 != 0) (some (.inr (Sum.inr ((false,([]:(List LI)),[],()))))) ((a5U z7.2.2.2.2.2.2.2.2.2.1).bind fun y9=>cond (y9.2 != 0) (some (.inr (Sum.inr ((false,([]:(List LI)),[],()))))) ((a4E (z7.2.2.1,y8.1)).bind fun y10=>cond (!y10.2) (some (.inr (Sum.inr ((false,([]:(List LI)),[],()))))) (cond (lim ((a00 z7.2.2.2.2.2.2.2.1)+1)) (cond (lim ((a00 z7.2.2.2.2.2.2.2.2.1)+1)) (some (.inl (wrap .i64 (z7.1+z7.2.2.2.2.2.2.2.2.2.1.2.1),wrap .i64 (z7.2.1+(y9.1.length:Int)),y10.1,z7.2.2.2.1,z7.2.2.2.2.1,wrap .i64 (z7.2.2.2.2.2.1+1),a02 z7.2.2.2.2.2.2.2.1 ([y9.1]:List LI),a02 z7.2.2.2.2.2.2.2.2.1 ([y8.1]:List Z11),z7.2.2.2.2.2.2.2.2.2.2.1,()))) none) none)))))) (some (.inr (Sum.inl (a,b,f,g,h,()))))) s.1 s.2.2.1 s.2.2.2.1 s.2.2.2.2.1 s.2.2.2.2.2.1 s.2.2.2.2.2.2.1 s.2.2.2.2.2.2.2.1 s.2.2.2.2.2.2.2.2.1
def a9r(x:a9J):Option ((List LI)×(Z22×Bool)):=(show Option (Bool×c6P)from(a1w x.1).bind fun y1=>cond (!y1) (some (true,([]:(List LI)),[],x,())) (cond (decide ((x.2.2.2.2.1.length:Int) > 4096)) (some (true,([]:(List LI)),[],x,())) (some ((x.2.2.2.1.length:Int) != (x.2.2.2.2.1.length:Int),([]:(List LI)),[],x,())))).bind fun z2=>cond z2.1 (some (([]:(List LI)),[],false)) ((y0s a8N (0,0,0,z2.2.2.2.1.2.2.2.2.1,(z2.2.2.2.1.2.2.2.2.1.length:Int),0,z2.2.1,z2.2.2.1,z2.2.2.2.1,())).bind fun w11=>match w11 with |.inl a12=>((show Option (Bool×((List LI)×Z43))from cond (a12.2.2.2.2.1.2.1 != a12.1) (some (true,a12.2.2.1,a12.2.2.2.1,())) (some (a12.2.2.2.2.1.2.2.1 != a12.2.1,a12.2.2.1,a12.2.2.2.1,()))).bind fun z14=>cond z14.1 (some (([]:(List LI)),[],false)) (some (z14.2.1,z14.2.2.1,true))) |.inr b13=>some (b13.2.1,b13.2.2.1,b13.1))
def c5z:FSem:=⟨[.v Q72],[.o QB,.o Q13,.v .bool],a9r⟩
def d8t:Hints:=⟨[(122,[5,6,.sv 7 QU,.sv 33 (.list false Q58),34,35,.own 2 2 QB,.own 3 3 Q13,.vp 1 Q72],[Qe 0 [5,.sv 7 QU,.own 2 2 QB,.own 3 3 Q13,.vp 1 Q72],Qr [.sv 4 .bool,.own 2 2 QB,.own 3 3 Q13]])],[(6,[Qn [.sv 31 .bool,.own 2 2 QB,.own 3 3 Q13,.vp 1 Q72]]),(62,[Qn [.sv 117 .bool,.own 2 2 QB,.own 3 3 Q13]]),(15666,[Qn [5,6,.sv 7 QU,8,.sv 33 (.list false Q58),34,35,.sv 50 .bool,.own 2 2 QB,.own 3 3 Q13,.box 9 Q58,.vp 1 Q72,Qp 9 9]]),(31334,[Qn [5,6,.sv 7 QU,.sv 33 (.list false Q58),34,35,.sv 68 .bool,.own 2 2 QB,.own 3 3 Q13,.box 9 Q58,.vp 1 Q72,Qp 9 9]])],[]⟩
def a7N(s:Z51):Option (Z51 ⊕ Z28):=(fun(a:Int)(b:LI)(c d e:Int)=>cond (decide (e<8)) (cond ((bits .u32 .and a 1)==1) (some (.inl (bits .u32 .xor (A0o .u32 a 1) 3988292384,b,c,d,wrap .i64 (e+1),()))) (some (.inl (A0o .u32 a 1,b,c,d,wrap .i64 (e+1),())))) (some (.inr (a,b,c,d,())))) s.1 s.2.1 s.2.2.1 s.2.2.2.1 s.2.2.2.2.1
def a5d(s:Z28):Option Z66:=(fun(a b:Int)=>cond (decide (b<a)) ((m0k s.2.1 b).bind fun x1=>(y0s a7N (bits .u32 .xor s.1 (wrap .u32 x1),s.2.1,a,b,0,())).bind fun w2=>some (.inl (w2.1,w2.2.1,w2.2.2.1,wrap .i64 (w2.2.2.2.1+1),()))) (some (.inr (s.1,())))) s.2.2.1 s.2.2.2.1
def a4T(x:LI):Option Int:=(y0s a5d (4294967295,x,(x.length:Int),0,())).bind fun w3=>some (bits .u32 .xor (IntKind.max .u32) w3.1)
def b7z:FSem:=⟨[.v QB],[.v (.int .u32)],a4T⟩
def d8u:Hints:=⟨[(58,[.sv 3 (.int .u32),.sv 7 QB,8,9],[Qe 0 [.sv 3 (.int .u32)]]),(29902,[.sv 3 (.int .u32),.sv 7 QB,8,9,17],[Qe 2 [.sv 3 (.int .u32),.sv 7 QB,8,9]])],[],[]⟩
def a8O(s:(b5G×(Int×(Int×((List LI)×(LI×b2H)))))):Option ((b5G×(Int×(Int×((List LI)×(LI×b2H))))) ⊕ ((List LI)×(LI×b2H))):=(fun(a:Int)(b:List LI)(c:LI)(d:a9J)=>cond (decide (a<s.2.1)) ((m0k s.1 a).bind fun x2=>cond ((decide (0≤a))&&(decide (a<(b.length:Int)))) (cond (lim ((a00 c)+2)) (some (.inl (s.1,s.2.1,wrap .i64 (a+1),b,a02 c ([wrap .u64 ((a00 (a04 b (a01 a) []):Nat):Int),wrap .u64 x2.2.1]:List Int),d,()))) none) none) (some (.inr (b,c,d,())))) s.2.2.1 s.2.2.2.1 s.2.2.2.2.1 s.2.2.2.2.2.1
def a8P(s:(Int×(Int×(LI×Z3)))):Option ((Int×(Int×(LI×Z3))) ⊕ (LI×Unit)):=(fun(a:Int)(b:LI)(c:List LI)=>cond (decide (a<s.1)) (cond ((decide (0≤a))&&(decide (a<(c.length:Int)))) (cond (lim ((a00 b)+(a00 (a04 c (a01 a) [])))) (some (.inl (s.1,wrap .i64 (a+1),a02 b (a04 c (a01 a) []),c,()))) none) none) (some (.inr (b,())))) s.2.1 s.2.2.1 s.2.2.2.1
def b1J(x:a9J):Option (LI×Int):=(a9r x).bind fun y1=>cond (!y1.2.2) (some ([],1)) ((y0s a8O (x.2.2.2.2.1,(x.2.2.2.2.1.length:Int),0,y1.1,([wrap .u64 x.1.1,wrap .u64 x.1.2.1,wrap .u64 x.1.2.2.1,wrap .u64 (x.2.2.2.2.1.length:Int)]:List Int),x,())).bind fun w3=>(a9q w3.2.1).bind fun y4=>cond (lim (4+(a00 y4))) ((a4u (w3.2.2.1.2.2.1,8)).bind fun y5=>cond (lim ((a00 (a02 [75,78,83,68] y4))+(a00 y5))) ((a4T (a02 (a02 [75,78,83,68] y4) y5)).bind fun y6=>(a4u (wrap .u64 y6,4)).bind fun y7=>cond (lim ((a00 (a02 (a02 [75,78,83,68] y4) y5))+(a00 y7))) ((y0s a8P ((w3.1.length:Int),0,a02 (a02 (a02 [75,78,83,68] y4) y5) y7,w3.1,())).bind fun w8=>some (w8.1,0)) none) none) none)
def c5A:FSem:=⟨[.v Q72],[.o QV,.v QI],b1J⟩
def H97:Hints:=⟨[(250,[.sv 39 (.list false Q58),40,41,.own 4 4 QB,.own 7 7 QU,.vp 1 Q72],[Qe 0 [.own 4 4 QB,.own 7 7 QU,.vp 1 Q72]]),(4090,[76,77,.own 10 10 QV,.own 75 4 QB],[Qe 2 [.own 10 10 QV]])],[],[(8,[.q,.q,.v,.q,.q,.v,.v,.q,.q,.v,.q,.x,.x])]⟩
def a6e(s:(LI×(Int×Int×Int×Z82))):Option ((LI×(Int×Int×Int×Z82)) ⊕ ((LI×(Int×Z55)) ⊕ Z5)):=(fun(a b:Int)(c:LI)(d e:Int)(f:Z7)=>cond (decide (e<d)) ((m0k c e).bind fun x4=>(a1j (x4,f.2.2.1)).bind fun y5=>cond (!y5) (some (.inr (Sum.inr ((6,[],()))))) (some (.inl (s.1,s.2.1,a,b,c,d,wrap .i64 (e+1),f,())))) (some (.inr (Sum.inl (s.1,s.2.1,a,b,f,()))))) s.2.2.1 s.2.2.2.1 s.2.2.2.2.1 s.2.2.2.2.2.1 s.2.2.2.2.2.2.1 s.2.2.2.2.2.2.2.1
def a6f(s:(LI×(Int×Int×Int×Int×Int×a9J×Z20))):Option ((LI×(Int×Int×Int×Int×Int×a9J×Z20)) ⊕ (b2H ⊕ Z5)):=(fun(a b c d e:Int)(f:a9J)(g:Z7)=>cond (decide (e<c)) (cond ((decide (0≤(wrap .i64 ((v0s (wrap .i64 (e+a)) c)*g.2.1))))&&(decide ((wrap .i64 ((v0s (wrap .i64 (e+a)) c)*g.2.1))≤(s.1.length:Int)))) (cond ((decide (0≤(wrap .i64 (e*g.2.1))))&&(decide ((wrap .i64 (e*g.2.1))≤((a01 (wrap .i64 ((v0s (wrap .i64 (e+a)) c)*g.2.1)):Nat):Int)))) ((b0J (a08 (a01 (wrap .i64 (e*g.2.1))) (a05 (a01 (wrap .i64 ((v0s (wrap .i64 (e+a)) c)*g.2.1))) s.1),g)).bind fun y9=>cond (y9.2 != 0) (some (.inr (Sum.inr ((y9.2,[],()))))) ((a4R (y9.1,g,e,b)).bind fun y10=>cond (y10.2 != 0) (some (.inr (Sum.inr ((y10.2,[],()))))) ((a5U y10.1).bind fun y11=>cond (y11.2 != 0) (some (.inr (Sum.inr ((y11.2,[],()))))) ((a4E (f.2.2.1,y9.1)).bind fun y12=>cond (lim ((a00 f.2.2.2.1)+1)) (cond (lim ((a00 f.2.2.2.2.1)+1)) (some (.inl (s.1,a,b,c,wrap .i64 (d+(y11.1.length:Int)),wrap .i64 (e+a),(f.1,f.2.1,y12.1,a02 f.2.2.2.1 ([(e,d,())]:List (Int×Int×Unit)),a02 f.2.2.2.2.1 ([y10.1]:List a2B),f.2.2.2.2.2),g,()))) none) none)))) none) none) (some (.inr (Sum.inl (f,()))))) s.2.1 s.2.2.1 s.2.2.2.1 s.2.2.2.2.1 s.2.2.2.2.2.1 s.2.2.2.2.2.2.1 s.2.2.2.2.2.2.2.1
def a8Q(x:(Z7×Z2)):Option (LI×Int):=(show Option (LI×(Int×Z57))from(a1w x.1).bind fun y1=>cond (!y1) (some (x.2.1,x.2.2.1,x.2.2.2,true,x.1,())) (cond (decide (x.2.2.1<1)) (some (x.2.1,x.2.2.1,x.2.2.2,true,x.1,())) (cond (decide (x.2.2.1 > 4096)) (some (x.2.1,x.2.2.1,x.2.2.2,true,x.1,())) (cond (decide (x.2.2.2<0)) (some (x.2.1,x.2.2.1,x.2.2.2,true,x.1,())) (some (x.2.1,x.2.2.1,x.2.2.2,decide (x.2.2.2 > 3),x.1,())))))).bind fun z2=>cond z2.2.2.2.1 (some ([],1)) (cond (z2.2.2.2.2.1.2.1==0) none (cond ((a06 (z2.1.length:Int) z2.2.2.2.2.1.2.1) != 0) (some ([],3)) (cond (z2.2.2.2.2.1.2.1==0) none ((show Option (LI×(Int×Int×Z57))from cond (decide ((wrap .i64 (a07 (z2.1.length:Int) z2.2.2.2.2.1.2.1)) > 4194304)) (some (z2.1,z2.2.1,z2.2.2.1,wrap .i64 (a07 (z2.1.length:Int) z2.2.2.2.2.1.2.1),true,z2.2.2.2.2.1,())) (cond (z2.2.1==0) none (some (z2.1,z2.2.1,z2.2.2.1,wrap .i64 (a07 (z2.1.length:Int) z2.2.2.2.2.1.2.1),decide ((wrap .i64 (a07 (wrap .i64 ((wrap .i64 ((wrap .i64 (a07 (z2.1.length:Int) z2.2.2.2.2.1.2.1))+z2.2.1))-1)) z2.2.1)) > 4096),z2.2.2.2.2.1,())))).bind fun z3=>cond z3.2.2.2.2.1 (some ([],4)) ((y0s a6e (z3.1,z3.2.1,z3.2.2.1,z3.2.2.2.1,z3.1,(z3.1.length:Int),0,z3.2.2.2.2.2.1,())).bind fun w6=>match w6 with |.inl a7=>((y0s a6f (a7.1,a7.2.1,a7.2.2.1,a7.2.2.2.1,0,0,(a7.2.2.2.2.1,a7.2.2.2.1,0,[],[],()),a7.2.2.2.2.1,())).bind fun w13=>match w13 with |.inl a14=>((b1J a14.1).bind fun y16=>some (y16.1,y16.2)) |.inr b15=>some (b15.2.1,b15.1)) |.inr b8=>some (b8.2.1,b8.1))))))
def b9M:FSem:=⟨[.v Q10,.v QL,.v QI,.v QI],[.o QV,.v QI],a8Q⟩
def H33:Hints:=⟨[(506,[.sv 1 QL,2,3,10,.sv 62 QL,63,64,.vp 4 Q10],[Qe 0 [.sv 1 QL,2,3,10,.vp 4 Q10],Qr [9,.own 8 8 QV]]),(4090,[.sv 1 QL,2,3,10,14,15,.box 13 Q71,.vp 4 Q10,Qp 13 13],[Qe 2 [.box 13 Q71,Qp 13 13],Qr [9,.own 8 8 QV]])],[(6,[Qn [.sv 1 QL,2,3,.sv 39 .bool,.vp 4 Q10]]),(62,[Qn [.sv 1 QL,2,3,10,.sv 61 .bool,.vp 4 Q10]])],[(20,[.v,.v,.v,.v,.v,.v,.v,.v,.v,.v,.v,.v,.v,.v,.v,.q,.w [0,17],.x])]⟩
def a6g(s:Z28):Option (Z28 ⊕ (Unit ⊕ Z7)):=(fun(a:Int)(b:LI)(c d:Int)=>cond (decide (d<c)) ((m0k b d).bind fun x1=>(show Option (Int×Int×Int×Z33)from cond (d==9) (cond (decide (x1 > 1)) (some (a,d,x1,b,c,d,true,())) (cond (decide (d > 0)) (some (a,d,x1,b,c,d,x1==0,())) (some (a,d,x1,b,c,d,false,())))) (cond (decide (d > 0)) (some (a,d,x1,b,c,d,x1==0,())) (some (a,d,x1,b,c,d,false,())))).bind fun z2=>cond z2.2.2.2.2.2.2.1 (some (.inr (Sum.inr ((0,0,2,()))))) (cond (decide ((wrap .i64 (7*z2.2.1))<0)) none (cond (decide (z2.2.2.1<128)) (some (.inr (Sum.inr ((bits .u64 .or z2.1 (A0n .u64 (wrap .u64 (a06 z2.2.2.1 128)) (wrap .i64 (7*z2.2.1))),wrap .i64 (z2.2.1+1),0,()))))) (some (.inl (bits .u64 .or z2.1 (A0n .u64 (wrap .u64 (a06 z2.2.2.1 128)) (wrap .i64 (7*z2.2.1))),z2.2.2.2.1,z2.2.2.2.2.1,wrap .i64 (z2.2.2.2.2.2.1+1),())))))) (some (.inr (Sum.inl ())))) s.1 s.2.1 s.2.2.1 s.2.2.2.1
def a8R(x:LI):Option (Int×Int×Int):=(y0s a6g (0,x,(x.length:Int),0,())).bind fun w3=>match w3 with |.inl a4=>some (0,0,3) |.inr b5=>some (b5.1,b5.2.1,b5.2.2.1)
def b9N:FSem:=⟨[.v QB],[.v QU,.v QI,.v QI],a8R⟩
def d8v:Hints:=⟨[(58,[.sv 5 QU,.sv 8 QB,9,10],[Qe 0 [],Qr [.sv 2 QU,3,4]])],[(7474,[Qn [.sv 5 QU,6,.sv 7 QV,.sv 8 QB,9,10,.sv 28 .bool]])],[]⟩
def a0S(x:Z29):Option Z28:=cond (x.1.2.2.1 != 0) (some (0,x.1)) (cond ((decide (0≤x.1.2.1))&&(decide (x.1.2.1≤(x.1.1.length:Int)))) ((a8R (a08 (a01 x.1.2.1) (a05 (a00 x.1.1) x.1.1))).bind fun y1=>(show Option Z86 from cond (y1.2.2==0) (cond (decide (y1.1 > x.2)) (some (y1.1,y1.2.1,4,x.1,())) (some (y1.1,y1.2.1,y1.2.2,x.1,()))) (some (y1.1,y1.2.1,y1.2.2,x.1,()))).bind fun z2=>cond (z2.2.2.1 != 0) (some (0,z2.2.2.2.1.1,z2.2.2.2.1.2.1,z2.2.2.1,z2.2.2.2.1.2.2.2)) (some (z2.1,z2.2.2.2.1.1,wrap .i64 (z2.2.2.2.1.2.1+z2.2.1),z2.2.2.2.1.2.2))) none)
def b5O:FSem:=⟨[.r false (.b Q14),.v QU],[.v QU],a0S⟩
def d8w:Hints:=⟨[],[(15,[Qn [.sv 5 QU,6,7,.box pinned Q14,Qp 0 pinned]])],[(3,[.p,.p,.q,.q,.p,.p,.q,.q,.x,.x,.x,.v,.v,.v,.v,.v,.x])]⟩
def a3A(x:Z13):Option Z28:=some (x.2.2.1,x)
def b5P:FSem:=⟨[.r false (.b Q14)],[.v QI],a3A⟩
def a4g(x:Z13):Option Z28:=some (x.2.1,x)
def b6K:FSem:=⟨[.r false (.b Q14)],[.v QI],a4g⟩
def a3O(s:Z95):Option (Z95 ⊕ Z52):=(fun(a:Int)(b:LI)(c:Z13)=>cond (decide (a<s.2.1)) (cond ((decide (0≤a))&&(decide (a<(b.length:Int)))) (some (.inl (wrap .u64 ((wrap .u64 (s.1*256))+(wrap .u64 (a04 b (a01 a) 0))),s.2.1,wrap .i64 (a+1),b,c,()))) none) (some (.inr (s.1,c,())))) s.2.2.1 s.2.2.2.1 s.2.2.2.2.1
def a3B(x:Z29):Option Z28:=(a1G x.2).bind fun y1=>(a1Q (x.1,y1)).bind fun y2=>(y0s a3O (0,(y2.1.length:Int),0,y2.1,y2.2,())).bind fun w3=>some (w3.1,w3.2.1)
def b5Q:FSem:=⟨[.r false (.b Q14),.v QI],[.v QU],a3B⟩
def d8x:Hints:=⟨[(58,[.sv 5 QU,12,13,.own 11 1011 QV,.box pinned Q14],[Qe 0 [.sv 5 QU,.box pinned Q14]])],[],[]⟩
def a5F(s:(LI×(Int×Int×Z99×Z99×Z32))):Option ((LI×(Int×Int×Z99×Z99×Z32)) ⊕ (LI×(Z99×Z99×Z32))):=(fun(a:Int)(b c:Z99)(d:Z13)=>cond (decide (a<s.2.1)) ((a0S (d,1048704)).bind fun y6=>cond (lim ((a00 c.2.1)+1)) ((a0S (y6.2,4096)).bind fun y7=>cond (lim ((a00 c.2.2.1)+1)) (some (.inl (s.1,s.2.1,wrap .u64 (a+1),b,(c.1,a02 c.2.1 [wrap .i64 y6.1],a02 c.2.2.1 [wrap .i64 y7.1],c.2.2.2),y7.2,()))) none) none) (some (.inr (s.1,b,c,d,())))) s.2.2.1 s.2.2.2.1 s.2.2.2.2.1 s.2.2.2.2.2.1
def a5G(s:(Int×Int×Z99×c6K)):Option ((Int×Int×Z99×c6K) ⊕ ((Z99×c6K) ⊕ (Int×c6K))):=(fun(a:Int)(b c:Z99)=>cond (decide (a<s.1)) (cond ((decide (0≤a))&&(decide (a<(c.2.2.1.length:Int)))) (cond ((a04 c.2.2.1 (a01 a) 0)==0) (some (.inr (Sum.inr ((2,((0,0,0,()),[],[],0,0,0,()),()))))) (some (.inl (s.1,wrap .i64 (a+1),b,(c.1,c.2.1,c.2.2.1,wrap .i64 (c.2.2.2.1+(a04 c.2.2.1 (a01 a) 0)),c.2.2.2.2),())))) none) (some (.inr (Sum.inl (b,c,()))))) s.2.1 s.2.2.1 s.2.2.2.1
def a5H(x:LI):Option (Z99×Int):=cond (decide ((x.length:Int)<4)) (some (((0,0,0,()),[],[],0,0,0,()),3)) (cond (decide (4≤(x.length:Int))) (cond ((b2s (a05 4 x)) != [75,78,83,68]) (some (((0,0,0,()),[],[],0,0,0,()),2)) (cond (decide (4≤(x.length:Int))) ((a3l (a08 4 (a05 (a00 x) x))).bind fun y1=>(a0S (y1,1048576)).bind fun y2=>(a0S (y2.2,8)).bind fun y3=>(a0S (y3.2,24)).bind fun y4=>(a0S (y4.2,4096)).bind fun y5=>(y0s a5F (x,y5.1,0,((0,0,0,()),[],[],0,0,0,()),((wrap .i64 y2.1,wrap .i64 y3.1,wrap .i64 y4.1,()),[],[],0,0,0,()),y5.2,())).bind fun w8=>(a3A w8.2.2.2.1).bind fun y9=>cond (y9.1 != 0) (some (((0,0,0,()),[],[],0,0,0,()),y9.1)) ((a1F y9.2).bind fun y10=>cond (decide (y10.1<12)) (some (((0,0,0,()),[],[],0,0,0,()),3)) ((a3B (y10.2,8)).bind fun y11=>(a4g y11.2).bind fun y12=>cond ((decide (0≤(wrap .i64 (4+y12.1))))&&(decide ((wrap .i64 (4+y12.1))≤(w8.1.length:Int)))) ((a4T (a05 (a01 (wrap .i64 (4+y12.1))) w8.1)).bind fun y13=>(a3B (y12.2,4)).bind fun y14=>cond ((wrap .u64 y13) != y14.1) (some (((0,0,0,()),[],[],0,0,0,()),5)) ((a1w w8.2.2.1.1).bind fun y15=>cond (!y15) (some (((0,0,0,()),[],[],0,0,0,()),2)) ((y0s a5G ((w8.2.2.1.2.2.1.length:Int),0,w8.2.1,(w8.2.2.1.1,w8.2.2.1.2.1,w8.2.2.1.2.2.1,w8.2.2.1.2.2.2.1,y11.1,wrap .i64 ((wrap .i64 (4+y12.1))+4),w8.2.2.1.2.2.2.2.2.2),())).bind fun w16=>match w16 with |.inl a17=>(cond (decide (a17.2.1.2.2.2.1 > 4194304)) (some (((0,0,0,()),[],[],0,0,0,()),2)) (some (a17.2.1,0))) |.inr b18=>some (b18.2.1,b18.1)))) none))) none)) none)
end Go.Ab
namespace Go.Ab
open IntKind(wrap)
open Go.Proofs
set_option maxRecDepth 100000
set_option linter.unusedVariables false
def b8l:FSem:=⟨[.v QB],[.v Q25,.v QI],a5H⟩
def H98:Hints:=⟨[(4090,[.sv 0 QB,.sv 38 QU,.sv 39 QU,.box 2 Q25,.box 4 Q24,.box 1021 Q14,Qp 2 2,Qp 4 4,Qp 5 1021],[Qe 0 [.sv 0 QB,.box 2 Q25,.box 4 Q24,.box 1021 Q14,Qp 2 2,Qp 4 4,Qp 5 1021]]),(1048570,[93,94,.box 2 Q25,.box 4 Q24,Qp 2 2,Qp 4 4,.ref 92 4 [.snd,.snd,.fst]],[Qe 2 [.box 2 Q25,.box 4 Q24,Qp 2 2,Qp 4 4],Qr [3,.box 2 Q25,Qp 2 2]])],[],[(12,[.r [4,41],.r [4,42],.q,.w [44,1021,1044],.v,.q,.x,.x,.x]),(13,[.r [4,49],.r [4,50],.q,.w [52,1021,1052],.v,.q,.x,.x,.x])]⟩
def b1K(x:Int):Option Int:=cond ((a06 x 2)==0) (some (wrap .i64 (wrap .u64 (a07 x 2)))) (some (wrap .i64 ((wrap .i64 (0-(wrap .i64 (wrap .u64 (a07 x 2)))))-1)))
def c5B:FSem:=⟨[.v QU],[.v QI],b1K⟩
def a5I(s:(LI×(Int×Int×b9y))):Option ((LI×(Int×Int×b9y)) ⊕ (LI×b9y)):=(fun(a:Int)(b:a2B)(c:Z13)=>cond (decide (a<s.2.1)) ((a0S (c,7)).bind fun y11=>(a0S (y11.2,7)).bind fun y12=>(a0S (y12.2,2048)).bind fun y13=>(b1K y13.1).bind fun y14=>cond (lim ((a00 b.2.2.2.1)+1)) (some (.inl (s.1,s.2.1,wrap .u64 (a+1),(b.1,b.2.1,b.2.2.1,a02 b.2.2.2.1 ([(wrap .i64 y11.1,wrap .i64 y12.1,y14,())]:List Z7),b.2.2.2.2),y13.2,()))) none) (some (.inr (s.1,b,c,())))) s.2.2.1 s.2.2.2.1 s.2.2.2.2.1
def a8d(x:LI):Option (a2B×Int×Int×Int):=cond (decide ((x.length:Int)<2)) (some ((0,0,(0,0,0,()),[],[],()),0,0,3)) ((show Option (LI×(Bool×b3H))from(m0k x 0).bind fun x1=>cond (x1 != 245) (some (x,true,(0,0,(0,0,0,()),[],[],()),())) ((m0k x 1).bind fun x2=>some (x,x2 != 75,(0,0,(0,0,0,()),[],[],()),()))).bind fun z3=>cond z3.2.1 (some ((0,0,(0,0,0,()),[],[],()),0,0,2)) (cond (decide (2≤(z3.1.length:Int))) ((a3l (a08 2 (a05 (a00 z3.1) z3.1))).bind fun y4=>(a0S (y4,4194304)).bind fun y5=>(a0S (y5.2,4096)).bind fun y6=>(a0S (y6.2,1048576)).bind fun y7=>(a0S (y7.2,8)).bind fun y8=>(a0S (y8.2,24)).bind fun y9=>(a0S (y9.2,16)).bind fun y10=>(y0s a5I (z3.1,y10.1,0,(wrap .i64 y5.1,wrap .i64 y6.1,(wrap .i64 y7.1,wrap .i64 y8.1,wrap .i64 y9.1,z3.2.2.1.2.2.1.2.2.2),z3.2.2.1.2.2.2),y10.2,())).bind fun w15=>(a0S (w15.2.2.1,1048576)).bind fun y16=>(a3A y16.2).bind fun y17=>cond (y17.1 != 0) (some ((0,0,(0,0,0,()),[],[],()),0,0,y17.1)) ((a1F y17.2).bind fun y18=>cond (decide (y18.1<1)) (some ((0,0,(0,0,0,()),[],[],()),0,0,3)) ((a4g y18.2).bind fun y19=>cond ((decide (0≤(wrap .i64 (2+y19.1))))&&(decide ((wrap .i64 (2+y19.1))≤(w15.1.length:Int)))) ((a8k (a05 (a01 (wrap .i64 (2+y19.1))) w15.1)).bind fun y20=>(m0k w15.1 (wrap .i64 (2+y19.1))).bind fun x21=>cond (y20 != x21) (some ((0,0,(0,0,0,()),[],[],()),0,0,5)) ((a7u w15.2.1).bind fun y22=>cond (!y22) (some ((0,0,(0,0,0,()),[],[],()),0,0,2)) (some (w15.2.1,wrap .i64 ((wrap .i64 (2+y19.1))+1),wrap .i64 y16.1,0)))) none))) none))
def b8m:FSem:=⟨[.v QB],[.v (.pair QI (.pair QI (.pair Q10 (.pair (.list false Q10) Q41)))),.v QI,.v QI,.v QI],a8d⟩
def H51:Hints:=⟨[(8186,[.sv 0 QB,.sv 54 QU,.sv 55 QU,.box 2 Q56,.box 1029 Q14,Qp 2 2,Qp 6 1029],[Qe 0 [.sv 0 QB,.box 2 Q56,.box 1029 Q14,Qp 2 2,Qp 6 1029]])],[(14,[Qn [.sv 0 QB,.sv 25 .bool,.box 2 Q56,Qp 2 2]])],[(25,[.v,.v,.v,.v,.v,.v,.v,.v,.x])]⟩
def b2m(x:LI):Option Z13:=cond (lim (a00 x)) (some (x,0,0,())) none
def c7a:FSem:=⟨[.v QB],[.b Q14],b2m⟩
def a0N(x:Z13):Option Z28:=some (x.2.2.1,x)
def b6L:FSem:=⟨[.r false (.b Q14)],[.v QI],a0N⟩
def a2G(x:Z13):Option Z28:=some (wrap .i64 ((wrap .i64 (8*(x.1.length:Int)))-x.2.1),x)
def b5R:FSem:=⟨[.r false (.b Q14)],[.v QI],a2G⟩
def H54:Hints:=⟨[],[],[(1,[.p,.p,.q,.q,.v,.v,.p,.p,.q,.q,.x,.x])]⟩
def a1J(x:Z29):Option Z28:=(m0k x.1.1 (wrap .i64 (a07 x.2 8))).bind fun x1=>cond (decide ((wrap .i64 (7-(a06 x.2 8)))<0)) none (some (bits .u8 .and (A0o .u8 x1 (wrap .i64 (7-(a06 x.2 8)))) 1,x.1))
def b5S:FSem:=⟨[.r false (.b Q14),.v QI],[.v QV],a1J⟩
def a4l(s:Z86):Option (Z86 ⊕ Z52):=cond (decide (s.2.2.1<s.2.1)) ((a1J (s.2.2.2.1,s.2.2.2.1.2.1)).bind fun y3=>some (.inl (bits .u64 .or (A0n .u64 s.1 1) (wrap .u64 y3.1),s.2.1,wrap .i64 (s.2.2.1+1),(y3.2.1,wrap .i64 (y3.2.2.1+1),y3.2.2.2),()))) (some (.inr (s.1,s.2.2.2.1,())))
def a0H(x:Z29):Option Z28:=cond (x.1.2.2.1 != 0) (some (0,x.1)) ((show Option Z69 from cond (decide (x.2<0)) (some (x.2,true,x.1,())) (some (x.2,decide (x.2 > 64),x.1,()))).bind fun z1=>cond z1.2.1 (some (0,z1.2.2.1.1,z1.2.2.1.2.1,1,z1.2.2.1.2.2.2)) ((a2G z1.2.2.1).bind fun y2=>cond (decide (z1.1 > y2.1)) (some (0,y2.2.1,y2.2.2.1,3,y2.2.2.2.2)) ((y0s a4l (0,z1.1,0,y2.2,())).bind fun w4=>some (w4.1,w4.2.1))))
def b6M:FSem:=⟨[.r false (.b Q14),.v QI],[.v QU],a0H⟩
def d8y:Hints:=⟨[(506,[.sv 5 QU,27,28,.box pinned Q14,Qp 0 pinned],[Qe 0 [.sv 5 QU,.box pinned Q14]])],[(14,[Qn [1,.sv 16 .bool,.box pinned Q14,Qp 0 pinned]])],[]⟩
def a1d(x:Z29):Option Z28:=(a0H (x.1,x.2)).bind fun y1=>(show Option (Int×Z69)from cond (y1.2.2.2.1 != 0) (some (x.2,y1.1,true,y1.2,())) (some (x.2,y1.1,x.2==0,y1.2,()))).bind fun z2=>cond z2.2.2.1 (some (0,z2.2.2.2.1)) (cond (decide ((wrap .i64 (64-z2.1))<0)) none (cond (decide ((wrap .i64 (64-z2.1))<0)) none (some (A0o .i64 (wrap .i64 (A0n .u64 z2.2.1 (wrap .i64 (64-z2.1)))) (wrap .i64 (64-z2.1)),z2.2.2.2.1))))
def b4u:FSem:=⟨[.r false (.b Q14),.v QI],[.v QI],a1d⟩
def d8z:Hints:=⟨[],[(14,[Qn [1,.sv 5 QU,.sv 17 .bool,.box pinned Q14]])],[]⟩
def a6h(s:(Int×b9x)):Option ((Int×b9x) ⊕ (Int×c6N)):=(fun(a:Int)(b:Z13)(c:a1D)=>cond (decide (a<s.2.1)) ((a1d (b,s.1)).bind fun y4=>cond (lim ((a00 c.2.2.2.2.2.1)+1)) (some (.inl (s.1,s.2.1,wrap .i64 (a+1),y4.2,(c.1,c.2.1,c.2.2.1,c.2.2.2.1,c.2.2.2.2.1,a02 c.2.2.2.2.2.1 [y4.1],c.2.2.2.2.2.2),()))) none) (some (.inr (s.1,c,b,())))) s.2.2.1 s.2.2.2.1 s.2.2.2.2.1
def a8S(x:(Z13×a1D)):Option (Bool×Z13×a1D):=(a0H (x.1,5)).bind fun y1=>(a0H (y1.2,4)).bind fun y2=>(a0H (y2.2,5)).bind fun y3=>(y0s a6h (wrap .i64 y3.1,wrap .i64 ((wrap .i64 y1.1)+1),0,y3.2,(x.2.1,x.2.2.1,x.2.2.2.1,wrap .i64 y2.1,x.2.2.2.2.2),())).bind fun w5=>(a1y w5.2.1.2.2.2.2.2.1).bind fun y6=>some (y6==w5.1,w5.2.2.1,w5.2.1)
def b9O:FSem:=⟨[.r false (.b Q14),.r false (.b Q39)],[.v .bool],a8S⟩
def d8A:Hints:=⟨[(250,[6,20,21,.box pinned Q14,.box 1000001 Q39,Qp 0 pinned,Qp 1 1000001],[Qe 0 [6,.box 1000001 Q39,.box pinned Q14,Qp 1 1000001]])],[],[(6,[.p,.p,.p,.r [26,1000001],.r [27,1000001],.p,.v,.w [30,1030,pinned],.q,.a [31,32,1000001],.x,.x,.x])]⟩
def a3i(s:b9x):Option (b9x ⊕ d0H):=(fun(a:Int)(b:Z13)(c:a1D)=>cond (decide (a<3)) ((a1d (b,8)).bind fun y6=>cond ((decide (0≤a))&&(decide (a<3))) (some (.inl (s.1,wrap .i64 (a+1),y6.2,(c.1,c.2.1,c.2.2.1,c.2.2.2.1,c.2.2.2.2.1,c.2.2.2.2.2.1,a18 c.2.2.2.2.2.2.1 (a01 a) y6.1,c.2.2.2.2.2.2.2),()))) none) (some (.inr (s.1,b,c,())))) s.2.1 s.2.2.1 s.2.2.2.1
def a7a(s:(Int×Bool×b9x)):Option ((Int×Bool×b9x) ⊕ (Int×Bool×c6N)):=(fun(a b:Int)(c:Z13)(d:a1D)=>cond (decide (b<a)) ((a0H (c,5)).bind fun y15=>(a0H (y15.2,4)).bind fun y16=>cond (lim ((a00 d.2.2.2.2.2.2.2.1)+1)) (some (.inl (s.1,s.2.1,a,wrap .u64 (b+1),y16.2,(d.1,d.2.1,d.2.2.1,d.2.2.2.1,d.2.2.2.2.1,d.2.2.2.2.2.1,d.2.2.2.2.2.2.1,a02 d.2.2.2.2.2.2.2.1 ([(wrap .i64 ((wrap .i64 y15.1)+1),wrap .i64 y16.1,())]:List (Int×Int×Unit)),d.2.2.2.2.2.2.2.2),()))) none) (some (.inr (s.1,s.2.1,d,c,())))) s.2.2.1 s.2.2.2.1 s.2.2.2.2.1 s.2.2.2.2.2.1
def a9C(x:Z13):Option (a1D×Int×Bool×Z13):=(a0H (x,3)).bind fun y1=>(a0H (y1.2,5)).bind fun y2=>(a0H (y2.2,5)).bind fun y3=>(show Option (Int×Bool×c6N)from(show Option (d0H ⊕ ((Int×Bool×c6N) ⊕ (Int×Bool×d3P)))from cond ((wrap .i64 y1.1)==2) ((a0H (y3.2,3)).bind fun y4=>some (Sum.inr (Sum.inl (wrap .i64 y3.1,true,(wrap .i64 y1.1,wrap .i64 y2.1,wrap .i64 y4.1,0,0,[],a03 3 0,[],[],(0,[],()),[],()),y4.2,())))) (cond ((wrap .i64 y1.1)==4) ((a0H (y3.2,10)).bind fun y5=>(y0s a3i (wrap .i64 y3.1,0,y5.2,(wrap .i64 y1.1,wrap .i64 y2.1,0,0,wrap .i64 ((wrap .i64 y5.1)+1),[],a03 3 0,[],[],(0,[],()),[],()),())).bind fun w7=>some (Sum.inl (w7.1,w7.2.1,w7.2.2.1,()))) (cond ((wrap .i64 y1.1)==3) (some (Sum.inl (wrap .i64 y3.1,y3.2,(wrap .i64 y1.1,wrap .i64 y2.1,0,0,0,[],a03 3 0,[],[],(0,[],()),[],()),()))) (cond ((wrap .i64 y1.1)==5) (some (Sum.inr (Sum.inr ((wrap .i64 y3.1,true,y3.2,(wrap .i64 y1.1,wrap .i64 y2.1,0,0,0,[],a03 3 0,[],[],(0,[],()),[],()),()))))) (some (Sum.inr (Sum.inl (wrap .i64 y3.1,true,(wrap .i64 y1.1,wrap .i64 y2.1,0,0,0,[],a03 3 0,[],[],(0,[],()),[],()),y3.2,())))))))).bind fun z8=>match z8 with |.inl a9=>((a8S (a9.2.1,a9.2.2.1)).bind fun y11=>some (a9.1,y11.1,y11.2.2,y11.2.1,())) |.inr b10=>(match b10 with |.inl a12=>some (a12.1,a12.2.1,a12.2.2.1,a12.2.2.2.1,()) |.inr b13=>((a0H (b13.2.2.1,2)).bind fun y14=>(y0s a7a (b13.1,b13.2.1,y14.1,0,y14.2,b13.2.2.2.1,())).bind fun w17=>some (w17.1,w17.2.1,w17.2.2.1,w17.2.2.2.1,())))).bind fun z18=>some (z18.2.2.1,z18.1,z18.2.1,z18.2.2.2.1)
def c2i:FSem:=⟨[.r false (.b Q14)],[.v (.pair QI (.pair QI (.pair QI (.pair QI (.pair QI (.pair QL (.pair (.arr 3 QI) (.pair (.list false Q3) Q21)))))))),.v QI,.v .bool],a9C⟩
def d8B:Hints:=⟨[(8106,[3,.sv 4 .bool,.sv 50 QU,.sv 51 QU,.box pinned Q14,.box 2 Q39,Qp 0 pinned,Qp 2 2],[Qe 7 [3,.sv 4 .bool,.box 2 Q39,.box pinned Q14,Qp 2 2]]),(129550,[3,38,.box pinned Q14,.box 2 Q39,Qp 0 pinned,Qp 2 2],[Qe 5 [3,.box pinned Q14,.box 2 Q39,Qp 0 pinned,Qp 2 2]])],[(63,[Qn [3,.sv 4 .bool,.box 2 Q39,.box pinned Q14,Qp 2 2]]),(2024,[Qn [3,.box pinned Q14,.box 2 Q39,Qp 0 pinned,Qp 2 2],Qe 0 [3,.sv 4 .bool,.box 2 Q39,.box pinned Q14,Qp 2 2],Qe 4 [3,.sv 4 .bool,.box pinned Q14,.box 2 Q39,Qp 0 pinned,Qp 2 2]])],[]⟩
def a3r(s:Z86):Option (Z86 ⊕ Z52):=(fun(a b:Int)(c:Z13)=>cond (b==(wrap .i64 (8*(c.1.length:Int)))) (some (.inr (0,(c.1,c.2.1,3,c.2.2.2),()))) ((a1J (c,b)).bind fun y2=>cond (y2.1==1) (some (.inr (a,(y2.2.1,wrap .i64 (b+1),y2.2.2.2),()))) (cond (a==s.1) (some (.inr (0,(y2.2.1,y2.2.2.1,2,y2.2.2.2.2),()))) (some (.inl (s.1,wrap .i64 (a+1),wrap .i64 (b+1),y2.2,())))))) s.2.1 s.2.2.1 s.2.2.2.1
def a3g(x:Z29):Option Z28:=cond (x.1.2.2.1 != 0) (some (0,x.1)) ((y0s a3r (v0r x.2 0,0,x.1.2.1,x.1,())).bind fun w3=>some (w3.1,w3.2.1))
def b5E:FSem:=⟨[.r false (.b Q14),.v QI],[.v QI],a3g⟩
def d8C:Hints:=⟨[(62,[1,5,6,.box pinned Q14,Qp 0 pinned],[Qr [4,.box pinned Q14]])],[],[(4,[.p,.p,.q,.q,.v,.x])]⟩
def a7w(x:Int):Option Int:=cond (decide (x≥2147483648)) (some 0) (cond ((a06 x 2)==0) (some (wrap .i64 (wrap .u64 (a07 x 2)))) (some (wrap .i64 ((wrap .i64 (0-(wrap .i64 (wrap .u64 (a07 x 2)))))-1))))
def c2j:FSem:=⟨[.v QU],[.v QI],a7w⟩
def b2n(x:Z29):Option Z47:=(a3g (x.1,32)).bind fun y1=>(a0N y1.2).bind fun y2=>cond (y2.1 != 0) ((a0N y2.2).bind fun y3=>some (0,y3.1,y3.2)) (cond (decide ((wrap .u64 y1.1)<32)) ((a0H (y2.2,x.2)).bind fun y4=>cond (decide (x.2<0)) none ((a7w (wrap .u64 ((A0n .u64 (wrap .u64 y1.1) x.2)+y4.1))).bind fun y5=>(a0N y4.2).bind fun y6=>some (y5,y6.1,y6.2))) ((a0H (y2.2,32)).bind fun y7=>(a0N y7.2).bind fun y8=>cond (y8.1 != 0) ((a0N y8.2).bind fun y9=>some (0,y9.1,y9.2)) ((show Option Z69 from cond (decide (y7.1≥2147483648)) (some (y7.1,true,y8.2,())) (cond (decide (x.2<0)) none (some (y7.1,decide ((A0o .u64 y7.1 x.2)<32),y8.2,())))).bind fun z10=>cond z10.2.1 (some (0,2,z10.2.2.1)) ((a7w z10.1).bind fun y11=>some (y11,0,z10.2.2.1)))))
def c7b:FSem:=⟨[.r false (.b Q14),.v QI],[.v QI,.v QI],b2n⟩
def d8D:Hints:=⟨[],[(254,[Qn [.sv 8 QU,.sv 44 .bool,.box pinned Q14]])],[]⟩
def a9D(s:Z95):Option (Z95 ⊕ (Z63 ⊕ Z79)):=cond (decide (s.2.2.1<s.2.1)) ((b2n (s.2.2.2.2.1,s.1)).bind fun y5=>cond (y5.2.1 != 0) (some (.inr (Sum.inr ((y5.2.1,[],y5.2.2,()))))) (cond (lim ((a00 s.2.2.2.1)+1)) (some (.inl (s.1,s.2.1,wrap .i64 (s.2.2.1+1),a02 s.2.2.2.1 [y5.1],y5.2.2,()))) none)) (some (.inr (Sum.inl (s.2.2.2.1,s.2.2.2.2.1,()))))
def b2o(x:(Z13×Int×Int)):Option Z60:=(show Option (Int×Z69)from(a1Z x.2.1).bind fun y1=>cond (!y1) (some (x.2.1,x.2.2,true,x.1,())) (cond (decide (x.2.2<0)) (some (x.2.1,x.2.2,true,x.1,())) (some (x.2.1,x.2.2,decide (x.2.2 > 4194304),x.1,())))).bind fun z2=>cond z2.2.2.1 (some ([],1,z2.2.2.2.1)) ((a0N z2.2.2.2.1).bind fun y3=>cond (y3.1 != 0) ((a0N y3.2).bind fun y4=>some ([],y4.1,y4.2)) ((y0s a9D (z2.1,z2.2.1,0,[],y3.2,())).bind fun w6=>match w6 with |.inl a7=>some (a7.1,0,a7.2.1) |.inr b8=>some (b8.2.1,b8.1,b8.2.2.1)))
def c7c:FSem:=⟨[.r false (.b Q14),.v QI,.v QI],[.o QI,.v QI],b2o⟩
def d8E:Hints:=⟨[(250,[1,27,28,.own 8 8 QI,.box pinned Q14,Qp 0 pinned],[Qe 0 [.own 8 8 QI,.box pinned Q14],Qr [7,.own 6 6 QI,.box pinned Q14]])],[(6,[Qn [1,2,.sv 21 .bool,.box pinned Q14,Qp 0 pinned]])],[]⟩
def a8T(s:(Int×Z95)):Option ((Int×Z95) ⊕ Z91):=(fun(a b c:Int)(d:LI)(e:Z13)=>cond (decide (c<b)) ((a1d (e,a)).bind fun y6=>cond (lim ((a00 d)+1)) (some (.inl (s.1,a,b,wrap .i64 (c+1),a02 d [y6.1],y6.2,()))) none) (some (.inr (s.1,a,d,e,())))) s.2.1 s.2.2.1 s.2.2.2.1 s.2.2.2.2.1 s.2.2.2.2.2.1
def b1L(x:Z29):Option (Int×Z60):=(a0H (x.1,5)).bind fun y1=>(a0N y1.2).bind fun y2=>cond (y2.1 != 0) ((a0N y2.2).bind fun y3=>some (0,[],y3.1,y3.2)) (cond (decide ((wrap .i64 y1.1)≤25)) ((b2o (y2.2,wrap .i64 y1.1,x.2)).bind fun y4=>some (wrap .i64 y1.1,y4.1,y4.2.1,y4.2.2)) (cond ((wrap .i64 y1.1) != 31) (some (0,[],2,y2.2)) ((a0H (y2.2,5)).bind fun y5=>(y0s a8T (wrap .i64 y1.1,wrap .i64 y5.1,x.2,0,[],y5.2,())).bind fun w7=>(a0N w7.2.2.2.1).bind fun y8=>cond (y8.1 != 0) ((a0N y8.2).bind fun y9=>some (0,[],y9.1,y9.2)) ((a1y w7.2.2.1).bind fun y10=>cond (y10 != w7.2.1) (some (0,[],2,y8.2)) (some (w7.1,w7.2.2.1,0,y8.2))))))
def c5C:FSem:=⟨[.r false (.b Q14),.v QI],[.v QI,.o QI,.v QI],b1L⟩
def d8F:Hints:=⟨[(2042,[7,10,37,38,.own 11 11 QI,.box pinned Q14,Qp 0 pinned],[Qe 0 [7,10,.own 11 11 QI,.box pinned Q14,Qp 0 pinned]])],[],[]⟩
def a8U(s:(Int×(Int×(LI×(LI×(Z13×Z83)))))):Option ((Int×(Int×(LI×(LI×(Z13×Z83))))) ⊕ ((LI×(Z5×Z5×Z32)) ⊕ (Int×(LI×(Z5×Z32))))):=(fun(a:Int)(b c:LI)(d:Z13)(e f:Z5)=>cond (decide (a<s.1)) (cond ((decide (0≤a))&&(decide (a<(c.length:Int)))) ((b1L (d,a04 c (a01 a) 0)).bind fun y6=>cond (y6.2.2.1 != 0) (some (.inr (Sum.inr ((y6.2.2.1,[],(0,[],()),y6.2.2.2,()))))) (cond (lim ((a00 f.2.1)+1)) (cond (lim ((a00 b)+(a00 y6.2.1))) (some (.inl (s.1,wrap .i64 (a+1),a02 b y6.2.1,c,y6.2.2.2,e,(f.1,a02 f.2.1 [y6.1],f.2.2),()))) none) none)) none) (some (.inr (Sum.inl (b,e,f,d,()))))) s.2.1 s.2.2.1 s.2.2.2.1 s.2.2.2.2.1 s.2.2.2.2.2.1 s.2.2.2.2.2.2.1
def b1M(x:(Z13×Int×Int)):Option (Z5×Z60):=(a7E (x.2.1,x.2.2)).bind fun y1=>cond (!y1) (some ((0,[],()),[],1,x.1)) ((a0H (x.1,4)).bind fun y2=>(a0N y2.2).bind fun y3=>cond (y3.1 != 0) ((a0N y3.2).bind fun y4=>some ((0,[],()),[],y4.1,y4.2)) ((a2V (wrap .i64 y2.1,x.2.1,x.2.2)).bind fun y5=>cond ((y5.length:Int)==0) (some ((0,[],()),[],2,y3.2)) ((y0s a8U ((y5.length:Int),0,[],y5,y3.2,(0,[],()),(wrap .i64 y2.1,[],()),())).bind fun w7=>match w7 with |.inl a8=>some (a8.2.2.1,a8.1,0,a8.2.2.2.1) |.inr b9=>some (b9.2.2.1,b9.2.1,b9.1,b9.2.2.2.1))))
def c5D:FSem:=⟨[.r false (.b Q14),.v QI,.v QI],[.v Q9,.o QI,.v QI],b1M⟩
def d8G:Hints:=⟨[(4090,[43,44,.own 12 12 QI,.own 42 10 QI,.box pinned Q14,.box 6 Q9,.box 11 Q8,Qp 0 pinned,Qp 6 6,Qp 11 11],[Qe 0 [.own 12 12 QI,.box 6 Q9,.box 11 Q8,.box pinned Q14,Qp 6 6,Qp 11 11],Qr [8,.own 7 7 QI,.box 6 Q9,.box pinned Q14,Qp 6 6]])],[],[]⟩
def b0N(s:(Int×Int×Bool×Int×Int×Z13×b2e)):Option ((Int×Int×Bool×Int×Int×Z13×b2e) ⊕ (Int×Int×Bool×Z13×b2e)):=(fun(a:Int)(b:Bool)(c d:Int)(e:Z13)(f g:a1D)=>cond (decide (d<c)) ((a1d (e,a)).bind fun y7=>cond (lim ((a00 g.2.2.2.2.2.2.2.2.1)+1)) (some (.inl (s.1,a,b,c,wrap .i64 (d+1),y7.2,f,(g.1,g.2.1,g.2.2.1,g.2.2.2.1,g.2.2.2.2.1,g.2.2.2.2.2.1,g.2.2.2.2.2.2.1,g.2.2.2.2.2.2.2.1,a02 g.2.2.2.2.2.2.2.2.1 [y7.1],g.2.2.2.2.2.2.2.2.2),()))) none) (some (.inr (s.1,a,b,e,f,g,())))) s.2.1 s.2.2.1 s.2.2.2.1 s.2.2.2.2.1 s.2.2.2.2.2.1 s.2.2.2.2.2.2.1 s.2.2.2.2.2.2.2.1
def b1Y(x:Z29):Option (a1D×Z28):=cond (decide (x.2<1)) (some ((0,0,0,0,0,[],a03 3 0,[],[],(0,[],()),[],()),1,x.1)) (cond (decide (x.2 > 4096)) (some ((0,0,0,0,0,[],a03 3 0,[],[],(0,[],()),[],()),1,x.1)) ((a0N x.1).bind fun y1=>cond (y1.1 != 0) (some ((0,0,0,0,0,[],a03 3 0,[],[],(0,[],()),[],()),y1.1,y1.2)) ((a9C y1.2).bind fun y2=>(a0N y2.2.2.2).bind fun y3=>cond (y3.1 != 0) (some ((0,0,0,0,0,[],a03 3 0,[],[],(0,[],()),[],()),y3.1,y3.2)) ((a8h (y2.1.1,y2.1,x.2)).bind fun y4=>cond (!y4) (some ((0,0,0,0,0,[],a03 3 0,[],[],(0,[],()),[],()),2,y3.2)) ((a4L (y2.1,x.2)).bind fun y5=>(y0s b0N (x.2,y2.2.1,y2.2.2.1,y5,0,y3.2,(0,0,0,0,0,[],a03 3 0,[],[],(0,[],()),[],()),y2.1,())).bind fun w8=>(a0N w8.2.2.2.1).bind fun y9=>cond (y9.1 != 0) (some ((0,0,0,0,0,[],a03 3 0,[],[],(0,[],()),[],()),y9.1,y9.2)) ((a6q w8.2.2.2.2.2.1.1).bind fun y10=>cond y10 ((b1M (y9.2,w8.1,(w8.2.2.2.2.2.1.2.2.2.2.2.2.2.2.1.length:Int))).bind fun y11=>cond (y11.2.2.1 != 0) (some ((0,0,0,0,0,[],a03 3 0,[],[],(0,[],()),[],()),y11.2.2.1,y11.2.2.2)) (cond (!w8.2.2.1) (some ((0,0,0,0,0,[],a03 3 0,[],[],(0,[],()),[],()),2,y11.2.2.2)) ((a1y w8.2.2.2.2.2.1.2.2.2.2.2.2.2.2.1).bind fun y12=>cond (y12 != w8.2.1) (some ((0,0,0,0,0,[],a03 3 0,[],[],(0,[],()),[],()),2,y11.2.2.2)) ((a9R ((w8.2.2.2.2.2.1.1,w8.2.2.2.2.2.1.2.1,w8.2.2.2.2.2.1.2.2.1,w8.2.2.2.2.2.1.2.2.2.1,w8.2.2.2.2.2.1.2.2.2.2.1,w8.2.2.2.2.2.1.2.2.2.2.2.1,w8.2.2.2.2.2.1.2.2.2.2.2.2.1,w8.2.2.2.2.2.1.2.2.2.2.2.2.2.1,w8.2.2.2.2.2.1.2.2.2.2.2.2.2.2.1,y11.1,y11.2.1,w8.2.2.2.2.2.1.2.2.2.2.2.2.2.2.2.2.2),w8.1)).bind fun y13=>cond (!y13) (some ((0,0,0,0,0,[],a03 3 0,[],[],(0,[],()),[],()),2,y11.2.2.2)) (some ((w8.2.2.2.2.2.1.1,w8.2.2.2.2.2.1.2.1,w8.2.2.2.2.2.1.2.2.1,w8.2.2.2.2.2.1.2.2.2.1,w8.2.2.2.2.2.1.2.2.2.2.1,w8.2.2.2.2.2.1.2.2.2.2.2.1,w8.2.2.2.2.2.1.2.2.2.2.2.2.1,w8.2.2.2.2.2.1.2.2.2.2.2.2.2.1,w8.2.2.2.2.2.1.2.2.2.2.2.2.2.2.1,y11.1,y11.2.1,w8.2.2.2.2.2.1.2.2.2.2.2.2.2.2.2.2.2),0,y11.2.2.2)))))) (cond (!w8.2.2.1) (some ((0,0,0,0,0,[],a03 3 0,[],[],(0,[],()),[],()),2,y9.2)) ((a1y w8.2.2.2.2.2.1.2.2.2.2.2.2.2.2.1).bind fun y14=>cond (y14 != w8.2.1) (some ((0,0,0,0,0,[],a03 3 0,[],[],(0,[],()),[],()),2,y9.2)) ((a9R (w8.2.2.2.2.2.1,w8.1)).bind fun y15=>cond (!y15) (some ((0,0,0,0,0,[],a03 3 0,[],[],(0,[],()),[],()),2,y9.2)) (some (w8.2.2.2.2.2.1,0,y9.2)))))))))))
def c8S:FSem:=⟨[.r false (.b Q14),.v QI],[.v Q40,.v QI],b1Y⟩
def H53:Hints:=⟨[(1018,[1,8,.sv 9 .bool,47,48,.box pinned Q14,.box 4 Q40,.box 7 (.pair QI (.pair QI (.pair QI (.pair QI (.pair QI (.pair QL (.pair (.arr 3 QI) (.pair (.list false Q3) (.pair (.list true QI) Q18))))))))),Qp 0 pinned,Qp 4 4,Qp 7 7],[Qe 0 [1,8,.sv 9 .bool,.box pinned Q14,.box 4 Q40,.box 7 (.pair QI (.pair QI (.pair QI (.pair QI (.pair QI (.pair QL (.pair (.arr 3 QI) (.pair (.list false Q3) (.pair (.list true QI) Q18))))))))),Qp 0 pinned,Qp 4 4,Qp 7 7]])],[],[(14,[.r [7,50],.r [7,51],.p,.v,.w [54,1054,pinned],.q,.x,.x,.x])]⟩
def a3s(s:Z68):Option (Z68 ⊕ (Z52 ⊕ Z32)):=cond (decide (s.2.1<s.1)) ((a1J (s.2.2.1,s.2.1)).bind fun y1=>cond (y1.1==1) (some (.inr (Sum.inr (((y1.2.1,y1.2.2.1,2,y1.2.2.2.2),()))))) (some (.inl (s.1,wrap .i64 (s.2.1+1),y1.2,())))) (some (.inr (Sum.inl (s.1,s.2.2.1,()))))
def a5e(x:Z13):Option Z13:=cond (x.2.2.1 != 0) (some x) ((y0s a3s (wrap .i64 ((wrap .i64 (a07 (wrap .i64 (x.2.1+7)) 8))*8),x.2.1,x,())).bind fun w2=>match w2 with |.inl a3=>some (a3.2.1.1,a3.1,a3.2.1.2.2) |.inr b4=>some b4.1)
def b5F:FSem:=⟨[.r false (.b Q14)],[],a5e⟩
def H55:Hints:=⟨[(58,[2,3,.box pinned Q14,Qp 0 pinned],[Qe 0 [2,.box pinned Q14,Qp 0 pinned],Qr [.box pinned Q14]])],[],[]⟩
def a8e(s:(Int×Int×Int×a2B×b9y)):Option ((Int×Int×Int×a2B×b9y) ⊕ ((Int×a2B×b9y) ⊕ (Int×Int×b3H))):=(fun(a:Int)(b c:a2B)(d:Z13)=>cond (decide (a<s.2.1)) ((b1Y (d,c.2.1)).bind fun y7=>cond (y7.2.1 != 0) (some (.inr (Sum.inr ((0,2,(0,0,(0,0,0,()),[],[],()),()))))) (cond (lim ((a00 c.2.2.2.2.1)+1)) (some (.inl (s.1,s.2.1,wrap .i64 (a+1),b,(c.1,c.2.1,c.2.2.1,c.2.2.2.1,a02 c.2.2.2.2.1 ([y7.1]:List a1D),c.2.2.2.2.2),y7.2.2,()))) none)) (some (.inr (Sum.inl (s.1,b,c,d,()))))) s.2.2.1 s.2.2.2.1 s.2.2.2.2.1 s.2.2.2.2.2.1
def a6w(x:LI):Option (a2B×Int×Int):=(a8d x).bind fun y1=>cond (y1.2.2.2 != 0) (some ((0,0,(0,0,0,()),[],[],()),0,y1.2.2.2)) (cond (decide ((x.length:Int)<(wrap .i64 ((wrap .i64 (y1.2.1+y1.2.2.1))+2)))) (some ((0,0,(0,0,0,()),[],[],()),0,3)) (cond ((decide (0≤(wrap .i64 (y1.2.1+y1.2.2.1))))&&(decide ((wrap .i64 (y1.2.1+y1.2.2.1))≤(x.length:Int)))) ((a6v (a05 (a01 (wrap .i64 (y1.2.1+y1.2.2.1))) x)).bind fun y2=>(m0k x (wrap .i64 (y1.2.1+y1.2.2.1))).bind fun x3=>(m0k x (wrap .i64 ((wrap .i64 (y1.2.1+y1.2.2.1))+1))).bind fun x4=>cond (y2 != (bits .u16 .or (A0n .u16 (wrap .u16 x3) 8) (wrap .u16 x4))) (some ((0,0,(0,0,0,()),[],[],()),0,5)) (cond ((decide (0≤(wrap .i64 (y1.2.1+y1.2.2.1))))&&(decide ((wrap .i64 (y1.2.1+y1.2.2.1))≤(x.length:Int)))) (cond ((decide (0≤y1.2.1))&&(decide (y1.2.1≤((a01 (wrap .i64 (y1.2.1+y1.2.2.1)):Nat):Int)))) ((b2m (a08 (a01 y1.2.1) (a05 (a01 (wrap .i64 (y1.2.1+y1.2.2.1))) x))).bind fun y5=>(y0s a8e (wrap .i64 (y1.2.1+y1.2.2.1),y1.1.2.2.1.2.1,0,(0,0,(0,0,0,()),[],[],()),y1.1,y5,())).bind fun w8=>match w8 with |.inl a9=>((a2G a9.2.2.2.1).bind fun y11=>cond (decide (y11.1≥8)) (some ((0,0,(0,0,0,()),[],[],()),0,2)) ((a5e y11.2).bind fun y12=>(a0N y12).bind fun y13=>cond (y13.1 != 0) (some ((0,0,(0,0,0,()),[],[],()),0,2)) ((a4t a9.2.2.1).bind fun y14=>cond (!y14) (some ((0,0,(0,0,0,()),[],[],()),0,2)) (some (a9.2.2.1,wrap .i64 (a9.1+2),0))))) |.inr b10=>some (b10.2.2.1,b10.1,b10.2.1)) none) none)) none))
def c3m:FSem:=⟨[.v QB],[.v Q58,.v QI,.v QI],a6w⟩
def H15:Hints:=⟨[(2042,[9,59,60,.box 2 Q58,.box 5 Q57,.box 1056 Q14,Qp 2 2,Qp 5 5,Qp 10 1056],[Qe 0 [9,.box 2 Q58,.box 5 Q57,.box 1056 Q14,Qp 2 2,Qp 5 5,Qp 10 1056],Qr [3,4,.box 2 Q58,Qp 2 2]])],[],[(7,[.v,.v,.v,.v,.v,.v,.v,.v,.v,.v,.v,.v,.v,.v,.v,.v,.v,.x])]⟩
def a7b(x:(LI×(Z99×Int×Int×Int))):Option (a2B×Z11×Int):=(m0k x.2.1.2.1 x.2.2.1).bind fun x1=>cond (decide ((wrap .i64 ((x.1.length:Int)-x.2.2.2.1))<x1)) (some ((0,0,(0,0,0,()),[],[],()),(0,([]:(List LI)),()),3)) (cond ((decide (0≤(wrap .i64 (x.2.2.2.1+x1))))&&(decide ((wrap .i64 (x.2.2.2.1+x1))≤(x.1.length:Int)))) (cond ((decide (0≤x.2.2.2.1))&&(decide (x.2.2.2.1≤((a01 (wrap .i64 (x.2.2.2.1+x1)):Nat):Int)))) ((a6w (a08 (a01 x.2.2.2.1) (a05 (a01 (wrap .i64 (x.2.2.2.1+x1))) x.1))).bind fun y2=>cond (y2.2.2 != 0) (some ((0,0,(0,0,0,()),[],[],()),(0,([]:(List LI)),()),y2.2.2)) ((show Option (Bool×a2B×c2J)from cond (decide (y2.2.1<x1)) (some (true,(0,0,(0,0,0,()),[],[],()),(0,([]:(List LI)),()),y2.1,())) (cond (!(eqT Q10 y2.1.2.2.1 x.2.1.1)) (some (true,(0,0,(0,0,0,()),[],[],()),(0,([]:(List LI)),()),y2.1,())) (cond (y2.1.1 != x.2.2.2.2) (some (true,(0,0,(0,0,0,()),[],[],()),(0,([]:(List LI)),()),y2.1,())) ((m0k x.2.1.2.2.1 x.2.2.1).bind fun x3=>some (y2.1.2.1 != x3,(0,0,(0,0,0,()),[],[],()),(0,([]:(List LI)),()),y2.1,()))))).bind fun z4=>cond z4.1 (some ((0,0,(0,0,0,()),[],[],()),(0,([]:(List LI)),()),2)) ((a3Y z4.2.2.2.1).bind fun y5=>cond (y5.2 != 0) (some ((0,0,(0,0,0,()),[],[],()),(0,([]:(List LI)),()),y5.2)) (some (z4.2.2.2.1,y5.1,0))))) none) none)
def b7A:FSem:=⟨[.v QB,.v Q25,.v QI,.v QI,.v QI],[.v Q58,.v Q13,.v QI],a7b⟩
def H99:Hints:=⟨[],[(126,[Qn [.sv 72 .bool,.box 10 Q58,.box 11 Q13,.box 14 Q58,Qp 10 10,Qp 11 11,Qp 14 14]])],[(7,[.v,.v,.x,.x,.q,.q,.v,.v,.x,.x,.x,.q,.q,.v,.x,.x,.x,.q,.q,.v,.v,.v,.v,.v,.x,.x]),(12,[.q,.r [17,86],.w [0,10],.x,.x])]⟩
def a3P(s:(LI×(Int×(LI×(Int×Int×a9J×Z99×b2H))))):Option ((LI×(Int×(LI×(Int×Int×a9J×Z99×b2H)))) ⊕ ((LI×(Int×a9J×Z99×b2H)) ⊕ (Int×b2H))):=(fun(a:Int)(b:LI)(c d:Int)(e:a9J)(f:Z99)(g:a9J)=>cond (decide (d<c)) ((m0k b d).bind fun x2=>(a7b (s.1,f,d,a,g.2.1)).bind fun y3=>cond (y3.2.2 != 0) (some (.inr (Sum.inr ((y3.2.2,((0,0,0,()),0,0,[],[],()),()))))) ((a4E (g.2.2.1,y3.2.1)).bind fun y4=>cond (lim ((a00 g.2.2.2.1)+1)) (cond (lim ((a00 g.2.2.2.2.1)+1)) (some (.inl (s.1,wrap .i64 (a+x2),b,c,wrap .i64 (d+1),e,f,(g.1,wrap .i64 (g.2.1+y3.1.2.1),y4.1,a02 g.2.2.2.1 ([(g.2.1,wrap .i64 (a-f.2.2.2.2.2.1),())]:List (Int×Int×Unit)),a02 g.2.2.2.2.1 ([y3.1]:List a2B),g.2.2.2.2.2),()))) none) none)) (some (.inr (Sum.inl (s.1,a,e,f,g,()))))) s.2.1 s.2.2.1 s.2.2.2.1 s.2.2.2.2.1 s.2.2.2.2.2.1 s.2.2.2.2.2.2.1 s.2.2.2.2.2.2.2.1
def b0O(x:LI):Option (a9J×Int):=(a5H x).bind fun y1=>cond (y1.2 != 0) (some (((0,0,0,()),0,0,[],[],()),y1.2)) ((y0s a3P (x,y1.1.2.2.2.2.2.1,y1.1.2.1,(y1.1.2.1.length:Int),0,((0,0,0,()),0,0,[],[],()),y1.1,(y1.1.1,0,0,[],[],()),())).bind fun w5=>match w5 with |.inl a6=>(cond (decide (a6.2.1<(a6.1.length:Int))) (some (((0,0,0,()),0,0,[],[],()),2)) (cond (a6.2.2.2.2.1.2.2.1 != a6.2.2.2.1.2.2.2.2.1) (some (((0,0,0,()),0,0,[],[],()),5)) (some (a6.2.2.2.2.1,0)))) |.inr b7=>some (b7.2.1,b7.1))
def c3n:FSem:=⟨[.v QB],[.v Q72,.v QI],b0O⟩
def H34:Hints:=⟨[(506,[.sv 0 QB,7,.sv 28 QL,29,30,.box 2 Q72,.box 4 Q25,.box 6 Q71,Qp 2 2,Qp 4 4,Qp 6 6],[Qe 0 [.sv 0 QB,7,.box 2 Q72,.box 4 Q25,.box 6 Q71,Qp 2 2,Qp 4 4,Qp 6 6],Qr [3,.box 2 Q72,Qp 2 2]])],[],[]⟩
def a5J(s:(Int×(Int×(LI×Z43)))):Option ((Int×(Int×(LI×Z43))) ⊕ (LI×Unit)):=(fun(a:Int)(b:LI)(c:Z22)=>cond (decide (a<s.1)) (cond ((decide (0≤a))&&(decide (a<(c.length:Int)))) ((a7v (a04 c (a01 a) (0,([]:(List LI)),()))).bind fun y2=>cond (lim ((a00 b)+(a00 y2))) (some (.inl (s.1,wrap .i64 (a+1),a02 b y2,c,()))) none) none) (some (.inr (b,())))) s.2.1 s.2.2.1 s.2.2.2.1
def a8f(x:a9J):Option (LI×Int):=(a9r x).bind fun y1=>cond (!y1.2.2) (some ([],1)) ((y0s a5J ((y1.2.1.length:Int),0,[],y1.2.1,())).bind fun w3=>some (w3.1,0))
def b8n:FSem:=⟨[.v Q72],[.o QI,.v QI],a8f⟩
def H35:Hints:=⟨[(250,[19,20,.own 7 7 QI,.own 18 5 Q13],[Qe 0 [.own 7 7 QI]])],[],[]⟩
def b0P(x:(Z7×Z2)):Option Bool:=(b1v ()).bind fun y1=>cond (!y1) (some false) ((b1x (x.1,x.2.1,120)).bind fun y2=>cond (!y2) (some true) ((a4J (x.1,x.2.1)).bind fun y3=>(a6l y3.1).bind fun y4=>(a8Q (y4.1,y4.2.1,wrap .i64 (1+(bits .i64 .and x.2.2.1 63)),bits .i64 .and x.2.2.2 3)).bind fun y5=>(b0O y5.1).bind fun y6=>(a8f y6.1).bind fun y7=>(a4J (y6.1.1,y7.1)).bind fun y8=>cond (y3.2==0) (cond (y4.2.2==0) (cond (y5.2==0) (cond (y6.2==0) (cond (y7.2==0) (cond (y8.2==0) ((b3h (y3.1,y8.1)).bind fun y9=>some y9) (some false)) (some false)) (some false)) (some false)) (some false)) (some false)))
def b0Q:FSem:=⟨[.v Q10,.v QL,.v QI,.v QI],[.v .bool],b0P⟩
end Go.Ab
