/- Part of the proof: It. Conditions: as each statement tells. -/
import Derived.RangeFuncBound
import Derived.RangeFuncCalls
import Derived.RangeFuncBox
import Derived.WalkKit
import Derived.OwnWalkIn
import Derived.TacticsInMore
import Derived.LoopNIn
import Derived.LoopIn
import Derived.Test.YtjoohiokfkdfpaaGreatDoorProg
import Derived.KernelRfl
import Derived.Test.YtjoohiokfkdfpaaGreatDoorMD
noncomputable section
set_option linter.unusedSimpArgs false
set_option linter.unusedVariables false
open Array renaming replicate_succ→a07,replicate_zero→a08
open Int renaming toNat→a01,tdiv→a09,tmod→a18
open List renaming replicate→a00,length→a02,append→a03,getD→a04,set→a05,take→a06,append_toArray→a16,cons_append→a17,size_toArray→a19,push_toArray→a20,length_nil→a21,nil_append→a22,drop→a23
open Nat renaming reduceAdd→a24,reduceSub→a25
open Option renaming getD_some→a26
namespace Go.Ab
open Go.Proofs Go.RowKit
attribute [local go_sem] Oper.semAt_some
set_option maxHeartbeats 1000000 in
theorem c5s:A0h Tryz.prog 248 291:=by
 refine⟨⟨_,_,Tryz.func248,rfl,by kernel_rfl⟩,fun A len cap w=>(callsIn_wide (n:=3)).1 ?_⟩
 refine callsIn_of_wp Tryz.func248 rfl trivial ?_
 simp only[Tryz.ntmps248,a19,lC,a21,a24,a25,a07,a08,a20,a16,a22,a17]
 gi_wp2
 go_ret
 exact⟨rfl,_,rfl⟩
@[reducible] def a9L:Ty:=.pair (.int .i64) (.pair (.int .i64) .unit)
set_option maxRecDepth 100000 in
set_option maxHeartbeats 2000000 in
theorem c3X (l Bs b off len cap:Nat) (p q:Nat→Int) (J:Nat→World→Prop) (Jx:World→Prop) (W:World)
  (hJ:∀k W',J k W'→W'.cell? ⟨Bs,0,none⟩=some (.slice (some ⟨b,off,none⟩) len cap))
  (hlen:len<2147483648)
  (hcs:∀k W',k<len→J (k+1) W'→W'.cell? ⟨b,off+k*2,none⟩=some (.int .i64 (p k))∧W'.cell? ⟨b,off+k*2+1,none⟩=some (.int .i64 (q k)))
  (hY:∀n W',n<len→J (n+1) W'→YieldAt (Fr none) 0 Tryz.prog l #[.int .i64 (n:Int),.agg #[.int .i64 (p n),.int .i64 (q n)]] W' fun en W''=>(en=.returned (.bool true)∧J n W'')∨(en=.returned (.bool false)∧Jx W''))
  (h0:J len W):
  CallsIn (Fr none) 0 Tryz.prog 291 #[.func (.yield l) #[] #[],.pointer (some ⟨Bs,0,none⟩)] W fun en W'=>(∃v,en=.returned v)∧(J 0 W'∨Jx W'):=by
 refine callsIn_of_wp Tryz.func291 rfl trivial ?_
 simp only[Tryz.ntmps291,a19,lC,a21,a24,a25,a07,a08,a20,a16,a22,a17]
 have hBs:=hJ _ _ h0
 gi_wp2
 gi_loopw [3] (fun i wr=>∃k:Nat,k≤len∧i=.int .i64 ((k:Int)-1)∧J k wr) (fun i _=>(intOf i+1).toNat)
 case atStart=>exact⟨len,Nat.le_refl _,rfl,h0⟩
 case round=>
  obtain⟨k,hk,rfl,hJs⟩:=hrel
  cases k with
  |succ n=>
   obtain⟨fn,tmps,assign,body,hy,hR⟩:=hY n wr (by omega) hJs
   have hcx:=hJ _ _ hJs
   obtain⟨hc0,hc1⟩:=hcs n wr (by omega) hJs
   gi_wp2
   refine hR.mono ?_
   rintro e W3 (⟨rfl,hJ3⟩|⟨rfl,hJx3⟩)
   ·gi_wp2
    go_roundw
    case rel=>exact⟨n,by omega,by simp,hJ3⟩
    case measure=>simp[intOf]
   ·gi_wp2
    refine bodyPost_ret (results_none rfl _ _ _) rfl ?_
    exact⟨⟨_,rfl⟩,.inr hJx3⟩
  |zero=>
   gi_wp2
   go_end0
   exact⟨⟨_,rfl⟩,.inl hJs⟩
set_option maxRecDepth 100000 in
set_option maxHeartbeats 2000000 in
theorem c2S (l Bs:Nat) (A:Option Addr) (c:Nat) (J:Nat→World→Prop) (W:World) (hBs:W.cell? ⟨Bs,0,none⟩=some (.slice A 0 c)) (h0:J 0 W):
  CallsIn (Fr none) 0 Tryz.prog 291 #[.func (.yield l) #[] #[],.pointer (some ⟨Bs,0,none⟩)] W fun en W'=>(∃v,en=.returned v)∧J 0 W':=by
 refine callsIn_of_wp Tryz.func291 rfl trivial ?_
 simp only[Tryz.ntmps291,a19,lC,a21,a24,a25,a07,a08,a20,a16,a22,a17]
 gi_wp2
 gi_loopw [3] (fun i wr=>i=.int .i64 (-1)∧J 0 wr) (fun _ _=>0)
 case atStart=>exact⟨rfl,h0⟩
 case round=>
  obtain⟨rfl,hJs⟩:=hrel
  gi_wp2
  go_end0
  exact⟨⟨_,rfl⟩,hJs⟩
theorem b6A{m:Mem}{Sh:Nat→Prop}{b o:Nat}{x:a9L.den}{R}(h:dec m a9L ((Src.at b o).rd m)=some (x,[],R)):
  m b o=some (.int .i64 x.1)∧m b (o+1)=some (.int .i64 x.2.1)∧VOk m Sh a9L x (.agg #[.int .i64 x.1,.int .i64 x.2.1]):=by
 obtain⟨p,q,u⟩:=x;simp only[a9L,dec,Src.rd,Ty.cells,Nat.add_zero]at h
 split at h
 cases h;rename_i r o1 j g
 split at g
 rename_i n c
 split at g
 rename_i e;subst e;simp only[sj]at g;obtain⟨rfl,rfl,rfl⟩:=g
 split at h
 cases h;rename_i s o2 r2 k
 split at k
 cases k;rename_i t i l f
 split at f
 rename_i d a
 split at f
 rename_i e;subst e;simp only[sj]at f k h;obtain⟨rfl,rfl,rfl⟩:=f;obtain⟨rfl,rfl,rfl⟩:=k;obtain⟨⟨rfl,rfl,rfl⟩,-,-⟩:=h;exact⟨c,a,fun _=>⟨_,rfl,rfl⟩,fun h=>(by cases h),[],rfl,by simp⟩;cases f;cases f;cases g;cases g
theorem b2x {P:Program} {f:FuncId} (hb:l0x P f) (args:Array Value) (w:World):(callFunc f args).run P w=.ok (.enter f args) w:=by
 obtain ⟨fn,c',h1,h2,h3⟩:=hb;have h4 : ¬ fn.name = "runtime.NumGoroutine" := by simpa using h3
 simp [callFunc,program,Sem.run,h1,h2,h4,Result.andThen]
theorem c5t:w0n Tryz.prog 291 a9L:=by
 refine⟨fun args w=>b2x ⟨_,_,Tryz.func291,rfl,by kernel_rfl⟩ args w,fun l Bs sv f J D W i t L o=>?_⟩;obtain⟨z,Sh,y⟩:=t _ _ o;obtain⟨A,n,c,rfl,rfl,N,v,j⟩:=y.header
 by_cases hx0:f.length=0
 rw[hx0]at o z;exact(c2S l Bs A c J W z o).mono fun e g h=>⟨h.1,.inl h.2⟩;cases A with
 |none=>have:=j rfl;omega
 |some A=>
  obtain⟨b,off,B⟩:=A
  have:=(v _ rfl).resolve_left (by omega)
  simp only at this;subst this;have u:∀k g,k<f.length→J (k+1) g→∃x,f[k]?=some x∧g.cell? ⟨b,off+k*2,none⟩=some (.int .i64 x.1)∧g.cell? ⟨b,off+k*2+1,none⟩=some (.int .i64 x.2.1):=by
   intro k g p d;obtain⟨-,a,hv⟩:=t _ _ d;obtain⟨C,O,E,R,e,F,G,H,s,I,K⟩:=hv.elem rfl (lG p);simp only[Value.slice.injEq,sj]at e;obtain⟨rfl,rfl,rfl⟩:=e;obtain⟨q,r,-⟩:=b6A (Sh:=a) s;exact⟨_,lG p,q,r⟩
  refine c3X l Bs b off f.length c (fun k=>((f[k]?).getD a9L.dflt).1) (fun k=>((f[k]?).getD a9L.dflt).2.1) J D W (fun k g d=>(t k g d).1) i (fun k g p d=>?_) (fun n g M d=>?_) o;obtain⟨x,m,q,r⟩:=u k g p d;simp only[m,a26];exact⟨q,r⟩;have m:f[n]?=some f[n]:=lG M;simp only[m,a26];refine L n _ _ g m d fun a hv=>?_
  obtain⟨C,O,E,R,e,F,G,H,s,I,K⟩:=hv.elem rfl m;exact(b6A (Sh:=a) s).2.2
set_option maxHeartbeats 1000000 in
theorem c5u:A0h Tryz.prog 156 238:=by
 refine⟨⟨_,_,Tryz.func156,rfl,by kernel_rfl⟩,fun A len cap w=>(callsIn_wide (n:=3)).1 ?_⟩
 refine callsIn_of_wp Tryz.func156 rfl trivial ?_
 simp only[Tryz.ntmps156,a19,lC,a21,a24,a25,a07,a08,a20,a16,a22,a17]
 gi_wp2
 go_ret
 exact⟨rfl,_,rfl⟩
@[reducible] def b1M:Ty:=.pair (.int .i64) (.pair (.int .i64) (.pair (.int .i64) .unit))
set_option maxRecDepth 100000 in
set_option maxHeartbeats 2000000 in
theorem c3Y (l Bs b off len cap:Nat) (p q r:Nat→Int) (J:Nat→World→Prop) (Jx:World→Prop) (W:World)
  (hJ:∀k W',J k W'→W'.cell? ⟨Bs,0,none⟩=some (.slice (some ⟨b,off,none⟩) len cap))
  (hlen:len<2147483648)
  (hcs:∀k W',k<len→J (k+1) W'→W'.cell? ⟨b,off+k*3,none⟩=some (.int .i64 (p k))∧W'.cell? ⟨b,off+k*3+1,none⟩=some (.int .i64 (q k))∧W'.cell? ⟨b,off+k*3+2,none⟩=some (.int .i64 (r k)))
  (hY:∀n W',n<len→J (n+1) W'→YieldAt (Fr none) 0 Tryz.prog l #[.int .i64 (n:Int),.agg #[.int .i64 (p n),.int .i64 (q n),.int .i64 (r n)]] W' fun en W''=>(en=.returned (.bool true)∧J n W'')∨(en=.returned (.bool false)∧Jx W''))
  (h0:J len W):
  CallsIn (Fr none) 0 Tryz.prog 238 #[.func (.yield l) #[] #[],.pointer (some ⟨Bs,0,none⟩)] W fun en W'=>(∃v,en=.returned v)∧(J 0 W'∨Jx W'):=by
 refine callsIn_of_wp Tryz.func238 rfl trivial ?_
 simp only[Tryz.ntmps238,a19,lC,a21,a24,a25,a07,a08,a20,a16,a22,a17]
 have hBs:=hJ _ _ h0
 gi_wp2
 gi_loopw [3] (fun i wr=>∃k:Nat,k≤len∧i=.int .i64 ((k:Int)-1)∧J k wr) (fun i _=>(intOf i+1).toNat)
 case atStart=>exact⟨len,Nat.le_refl _,rfl,h0⟩
 case round=>
  obtain⟨k,hk,rfl,hJs⟩:=hrel
  cases k with
  |succ n=>
   obtain⟨fn,tmps,assign,body,hy,hR⟩:=hY n wr (by omega) hJs
   have hcx:=hJ _ _ hJs
   obtain⟨hc0,hc1,hc2⟩:=hcs n wr (by omega) hJs
   gi_wp2
   refine hR.mono ?_
   rintro e W3 (⟨rfl,hJ3⟩|⟨rfl,hJx3⟩)
   ·gi_wp2
    go_roundw
    case rel=>exact⟨n,by omega,by simp,hJ3⟩
    case measure=>simp[intOf]
   ·gi_wp2
    refine bodyPost_ret (results_none rfl _ _ _) rfl ?_
    exact⟨⟨_,rfl⟩,.inr hJx3⟩
  |zero=>
   gi_wp2
   go_end0
   exact⟨⟨_,rfl⟩,.inl hJs⟩
set_option maxRecDepth 100000 in
set_option maxHeartbeats 2000000 in
theorem c2T (l Bs:Nat) (A:Option Addr) (c:Nat) (J:Nat→World→Prop) (W:World) (hBs:W.cell? ⟨Bs,0,none⟩=some (.slice A 0 c)) (h0:J 0 W):
  CallsIn (Fr none) 0 Tryz.prog 238 #[.func (.yield l) #[] #[],.pointer (some ⟨Bs,0,none⟩)] W fun en W'=>(∃v,en=.returned v)∧J 0 W':=by
 refine callsIn_of_wp Tryz.func238 rfl trivial ?_
 simp only[Tryz.ntmps238,a19,lC,a21,a24,a25,a07,a08,a20,a16,a22,a17]
 gi_wp2
 gi_loopw [3] (fun i wr=>i=.int .i64 (-1)∧J 0 wr) (fun _ _=>0)
 case atStart=>exact⟨rfl,h0⟩
 case round=>
  obtain⟨rfl,hJs⟩:=hrel
  gi_wp2
  go_end0
  exact⟨⟨_,rfl⟩,hJs⟩
theorem b5N{m:Mem}{rd:Nat→Option Value}{x o r}(h:dec m (.int .i64) rd=some (x,o,r)):rd 0=some (.int .i64 x)∧o=[]∧r=[]:=by
 simp only[dec]at h
 split at h
 rename_i k n g
 split at h
 rename_i e;subst e;simp only[sj,pJ]at h;obtain⟨rfl,rfl,rfl⟩:=h;exact⟨g,rfl,rfl⟩;cases h;cases h
theorem b4c{m:Mem}{a b:Ty}{rd:Nat→Option Value}{x o r}(h:dec m (.pair a b) rd=some (x,o,r)):∃o1 g o2 r2,dec m a rd=some (x.1,o1,g)∧dec m b (fun j=>rd (a.cells+j))=some (x.2,o2,r2)∧o=o1++o2∧r=g++r2:=by
 simp only[dec]at h
 split at h
 cases h;rename_i c o1 g f
 split at h
 cases h;rename_i d o2 r2 k;simp only[sj,pJ]at h;obtain⟨rfl,rfl,rfl⟩:=h;exact⟨_,_,_,_,f,k,rfl,rfl⟩
theorem b8b{m:Mem}{Sh:Nat→Prop}{b o:Nat}{x:b1M.den}{R}(h:dec m b1M ((Src.at b o).rd m)=some (x,[],R)):
  m b o=some (.int .i64 x.1)∧m b (o+1)=some (.int .i64 x.2.1)∧m b (o+2)=some (.int .i64 x.2.2.1)∧VOk m Sh b1M x (.agg #[.int .i64 x.1,.int .i64 x.2.1,.int .i64 x.2.2.1]):=by
 obtain⟨_,_,_,_,g,f,-,-⟩:=b4c h;obtain⟨_,_,_,_,k,a,-,-⟩:=b4c f;obtain⟨_,_,_,_,c,-,-,-⟩:=b4c a;exact⟨(b5N g).1,(b5N k).1,(b5N c).1,fun _=>⟨_,rfl,rfl⟩,fun h=>(by cases h),[],rfl,by simp⟩
theorem c5v:w0n Tryz.prog 238 b1M:=by
 refine⟨fun args w=>b2x ⟨_,_,Tryz.func238,rfl,by kernel_rfl⟩ args w,fun l Bs sv f J E W i u M o=>?_⟩;obtain⟨B,Sh,z⟩:=u _ _ o;obtain⟨A,n,c,rfl,rfl,O,y,j⟩:=z.header
 by_cases hx0:f.length=0
 rw[hx0]at o B;exact(c2T l Bs A c J W B o).mono fun e g h=>⟨h.1,.inl h.2⟩;cases A with
 |none=>have:=j rfl;omega
 |some A=>
  obtain⟨b,off,C⟩:=A
  have:=(y _ rfl).resolve_left (by omega)
  simp only at this;subst this;have v:∀k g,k<f.length→J (k+1) g→∃x,f[k]?=some x∧g.cell? ⟨b,off+k*3,none⟩=some (.int .i64 x.1)∧g.cell? ⟨b,off+k*3+1,none⟩=some (.int .i64 x.2.1)∧g.cell? ⟨b,off+k*3+2,none⟩=some (.int .i64 x.2.2.1):=by
   intro k g p d;obtain⟨-,a,hv⟩:=u _ _ d;obtain⟨D,P,F,R,e,G,H,I,t,K,L⟩:=hv.elem rfl (lG p);simp only[Value.slice.injEq,sj]at e;obtain⟨rfl,rfl,rfl⟩:=e;obtain⟨q,r,s,-⟩:=b8b (Sh:=a) t;exact⟨_,lG p,q,r,s⟩
  refine c3Y l Bs b off f.length c (fun k=>((f[k]?).getD b1M.dflt).1) (fun k=>((f[k]?).getD b1M.dflt).2.1) (fun k=>((f[k]?).getD b1M.dflt).2.2.1) J E W (fun k g d=>(u k g d).1) i (fun k g p d=>?_) (fun n g N d=>?_) o;obtain⟨x,m,q,r,s⟩:=v k g p d;simp only[m,a26];exact⟨q,r,s⟩;have m:f[n]?=some f[n]:=lG N;simp only[m,a26];refine M n _ _ g m d fun a hv=>?_
  obtain⟨D,P,F,R,e,G,H,I,t,K,L⟩:=hv.elem rfl m;exact(b8b (Sh:=a) t).2.2.2
end Go.Ab
namespace Go.Ab
open IntKind(wrap)
open Go.Proofs
set_option maxRecDepth 100000
set_option linter.unusedVariables false
@[reducible] def QI:Ty:=.int .i64
@[reducible] def QL:Ty:=.list false QI
@[reducible] def QU:Ty:=.int .u64
@[reducible] def QV:Ty:=.int .u8
@[reducible] def QB:Ty:=.list false QV
@[reducible] def LI:Type:=List Int
instance (n:Nat):OfNat Ent n:=⟨.sv n QI⟩
@[reducible] def Qp(i n:Nat):Ent:=.ptr i n []
@[reducible] def Qn(l:a0c):Ex×a0c:=(.normal,l)
@[reducible] def Qe(n:Nat)(l:a0c):Ex×a0c:=(.exit n,l)
@[reducible] def Qr(l:a0c):Ex×a0c:=(.ret,l)
def QH:Hints:=⟨[],[],[]⟩
@[reducible] def Z0:Type:=(Unit ⊕ (Bool×Unit))
@[reducible] def Z1:Type:=(Int×(Int×LI))
@[reducible] def Z2:Type:=(LI×(Int×Int))
@[reducible] def Z3:Type:=((List LI)×Unit)
@[reducible] def Z4:Type:=(Int×(LI×Unit))
@[reducible] def Z5:Type:=(LI×(Int×Unit))
@[reducible] def Z6:Type:=(List (Int×(Int×Unit)))
@[reducible] def Z7:Type:=(Bool×(LI×Unit))
@[reducible] def Z8:Type:=(Int×(Int×(Int×Unit)))
@[reducible] def Z9:Type:=(Int×(Int×(Bool×Unit)))
@[reducible] def Z10:Type:=(LI×(LI×Int))
@[reducible] def Z11:Type:=(LI×(LI×Unit))
@[reducible] def Z12:Type:=(Int×Z3)
@[reducible] def Z13:Type:=((List LI)×(Int×Unit))
@[reducible] def Z14:Type:=(LI×(Int×(Int×Unit)))
@[reducible] def Z15:Type:=(Int×Z4)
@[reducible] def Z16:Type:=(Int×Z5)
@[reducible] def Z17:Type:=(List Z8)
@[reducible] def Z18:Type:=(LI×(Int×(Bool×Unit)))
@[reducible] def Z19:Type:=(Z4×Unit)
@[reducible] def Z20:Type:=(Z5×Unit)
@[reducible] def Z21:Type:=(Int×Z8)
@[reducible] def Z22:Type:=(Int×Z9)
@[reducible] def Z23:Type:=(Int×Z11)
@[reducible] def Z24:Type:=(LI×Z4)
@[reducible] def Z25:Type:=((List LI)×(Int×(Int×Unit)))
@[reducible] def Z26:Type:=(Int×Z12)
@[reducible] def Z27:Type:=(Int×Z14)
@[reducible] def Z28:Type:=(Int×Z15)
@[reducible] def Z29:Type:=(LI×Z8)
@[reducible] def Z30:Type:=(Z12×Unit)
@[reducible] def Z31:Type:=(Z14×Int)
@[reducible] def Z32:Type:=(LI×Z9)
@[reducible] def Z33:Type:=(Int×Z20)
@[reducible] def Z34:Type:=(Int×Z21)
@[reducible] def Z35:Type:=(Z14×Unit)
@[reducible] def Z36:Type:=(LI×Z11)
@[reducible] def Z37:Type:=(LI×Z15)
@[reducible] def Z38:Type:=(Int×Z23)
@[reducible] def Z39:Type:=(LI×Z14)
@[reducible] def Z40:Type:=(Int×Z25)
@[reducible] def Z41:Type:=((LI×Unit) ⊕ Z4)
@[reducible] def Z42:Type:=(Z4×(LI×Unit))
@[reducible] def Z43:Type:=(Int×Z27)
@[reducible] def Z44:Type:=(LI×Z18)
@[reducible] def Z45:Type:=(Z23×Unit)
@[reducible] def Z46:Type:=(Int×Z30)
@[reducible] def Z47:Type:=(Int×Z29)
@[reducible] def Z48:Type:=(Int×Z33)
@[reducible] def Z49:Type:=(Bool×Z30)
@[reducible] def Z50:Type:=(Int×Z35)
@[reducible] def Z51:Type:=(Bool×Z35)
@[reducible] def Z52:Type:=(Int×Z36)
@[reducible] def Z53:Type:=(Int×Z37)
@[reducible] def Z54:Type:=(LI×Z27)
@[reducible] def Z55:Type:=(Int×Z45)
@[reducible] def Z56:Type:=(Int×Z46)
@[reducible] def Z57:Type:=(LI×Z35)
@[reducible] def Z58:Type:=(Z27 ⊕ (Int×Unit))
@[reducible] def Z59:Type:=(Int×Z50)
@[reducible] def Z60:Type:=(Int×Z51)
@[reducible] def Z61:Type:=(Z14 ⊕ Z0)
@[reducible] def Z62:Type:=(LI×Z38)
@[reducible] def Z63:Type:=(Int×Z52)
@[reducible] def Z64:Type:=(LI×Z42)
@[reducible] def Z65:Type:=(LI×Z43)
@[reducible] def Z66:Type:=(LI×Z45)
@[reducible] def Z67:Type:=(Int×Z53)
@[reducible] def Z68:Type:=(Int×Z55)
@[reducible] def Z69:Type:=(LI×Z48)
@[reducible] def Z70:Type:=(Int×Z57)
@[reducible] def Z71:Type:=(Z4×Z19)
@[reducible] def Z72:Type:=(Z5×Z19)
@[reducible] def Z73:Type:=(Int×Z59)
@[reducible] def Z74:Type:=(Int×Z62)
@[reducible] def Z75:Type:=(Int×Z66)
@[reducible] def Z76:Type:=(Int×Z68)
@[reducible] def Z77:Type:=(Int×Z69)
@[reducible] def Z78:Type:=(Int×Z70)
@[reducible] def Z79:Type:=(Z8×Z30)
@[reducible] def Z80:Type:=(LI×Z72)
@[reducible] def Z81:Type:=(Z17×Z30)
@[reducible] def Z82:Type:=(Int×Z78)
@[reducible] def Z83:Type:=(Int×Z80)
@[reducible] def Z84:Type:=(Z6×Z64)
@[reducible] def Z85:Type:=(Int×Z83)
@[reducible] def Z86:Type:=(Z4×Z71)
@[reducible] def Z87:Type:=(LI×Z84)
@[reducible] def Z88:Type:=(LI×Z85)
@[reducible] def Z89:Type:=(LI×Z87)
@[reducible] def Z90:Type:=(Int×Z89)
@[reducible] def Z91:Type:=(Int×Z90)
@[reducible] def Z92:Type:=(Int×Z91)
@[reducible] def Z93:Type:=(Int×Z92)
@[reducible] def Z94:Type:=(Int×Z93)
@[reducible] def Z95:Type:=(List Z94)
@[reducible] def Z96:Type:=(Z94×Int)
@[reducible] def Z97:Type:=(Z94×Unit)
@[reducible] def Z98:Type:=(Z95×Unit)
@[reducible] def Z99:Type:=(Bool×Z97)
@[reducible] def b8c:Type:=(Int×Z99)
@[reducible] def c1y:Type:=(Z95×(LI×Unit))
@[reducible] def c7W:Type:=(Z5×Z97)
@[reducible] def c1z:Type:=(Int×c7W)
@[reducible] def c5U:Type:=(Z14×Z97)
@[reducible] def c1A:Type:=(Z94×Z35)
@[reducible] def c7X:Type:=(Z17×Z98)
@[reducible] def b1f:Type:=(Int×c1z)
@[reducible] def c3Z:Type:=(Int×c5U)
@[reducible] def b5O:Type:=(Int×c3Z)
@[reducible] def c7Y:Type:=(Z8×c7X)
@[reducible] def c7Z:Type:=(Int×c7Y)
@[reducible] def a3j:Type:=(Int×c7Z)
@[reducible] def b2R:Type:=(a3j×Unit)
@[reducible] def c1B:Type:=(Z12×b2R)
@[reducible] def b5P:Type:=(a3j×Z35)
@[reducible] def a9p:Type:=(Z94×Z97)
@[reducible] def c8a:Type:=(Int×a9p)
@[reducible] def c1C:Type:=(Int×c8a)
@[reducible] def c4a:Type:=(a3j×b2R)
@[reducible] def c1D:Type:=(Int×c4a)
@[reducible] def Q0:Ty:=(.pair QI .unit)
@[reducible] def Q1:Ty:=(.pair (.list true QI) .unit)
@[reducible] def Q2:Ty:=(.pair QL .unit)
@[reducible] def Q3:Ty:=(.pair QI Q0)
@[reducible] def Q4:Ty:=(.pair (.list false QL) .unit)
@[reducible] def Q5:Ty:=(.pair (.list true QV) Q0)
@[reducible] def Q6:Ty:=(.pair QI Q1)
@[reducible] def Q7:Ty:=(.pair QI Q2)
@[reducible] def Q8:Ty:=(.pair QI Q3)
@[reducible] def Q9:Ty:=(.pair (.list true QI) Q1)
@[reducible] def Q10:Ty:=(.pair QI Q4)
@[reducible] def Q11:Ty:=(.pair QB Q3)
@[reducible] def Q12:Ty:=(.pair QI Q9)
@[reducible] def Q13:Ty:=(.pair Q7 Q2)
@[reducible] def Q14:Ty:=(.pair (.nl QI) Q13)
@[reducible] def Q15:Ty:=(.pair QL Q13)
@[reducible] def Q16:Ty:=(.pair (.list true Q3) Q14)
@[reducible] def Q17:Ty:=(.pair (.list false Q3) Q15)
@[reducible] def Q18:Ty:=(.pair (.arr 3 QI) Q16)
@[reducible] def Q19:Ty:=(.pair (.arr 3 QI) Q17)
@[reducible] def Q20:Ty:=(.pair (.list true QI) Q18)
@[reducible] def Q21:Ty:=(.pair QL Q19)
@[reducible] def Q22:Ty:=(.pair QI Q20)
@[reducible] def Q23:Ty:=(.pair QI Q21)
@[reducible] def Q24:Ty:=(.pair QI Q22)
@[reducible] def Q25:Ty:=(.pair QI Q23)
@[reducible] def Q26:Ty:=(.pair QI Q24)
@[reducible] def Q27:Ty:=(.pair QI Q25)
@[reducible] def Q28:Ty:=(.pair QI Q26)
@[reducible] def Q29:Ty:=(.pair QI Q27)
@[reducible] def Q30:Ty:=(.pair QI Q28)
@[reducible] def Q31:Ty:=(.pair QI Q29)
@[reducible] def Q32:Ty:=(.pair (.nl Q31) .unit)
@[reducible] def Q33:Ty:=(.pair (.list true Q31) .unit)
@[reducible] def Q34:Ty:=(.pair (.list false Q31) .unit)
@[reducible] def Q35:Ty:=(.pair (.nl Q8) Q32)
@[reducible] def Q36:Ty:=(.pair (.list true Q8) Q32)
@[reducible] def Q37:Ty:=(.pair (.list false Q8) Q33)
@[reducible] def Q38:Ty:=(.pair (.list false Q8) Q34)
@[reducible] def Q39:Ty:=(.pair Q8 Q35)
@[reducible] def Q40:Ty:=(.pair Q8 Q36)
@[reducible] def Q41:Ty:=(.pair Q8 Q37)
@[reducible] def Q42:Ty:=(.pair Q8 Q38)
@[reducible] def Q43:Ty:=(.pair QI Q39)
@[reducible] def Q44:Ty:=(.pair QI Q40)
@[reducible] def Q45:Ty:=(.pair QI Q41)
@[reducible] def Q46:Ty:=(.pair QI Q42)
@[reducible] def Q47:Ty:=(.pair QI Q44)
@[reducible] def Q48:Ty:=(.pair QI Q45)
@[reducible] def Q49:Ty:=(.pair QI Q46)
def b7X:List (Nat×Ty):=[(2,.int .i64),(3,.int .i64),(5,.int .u8),(22,.list false QL),(24,.pair QI Q4),(29,.pair QI Q3),(30,.list false Q8),(31,.list false Q31),(33,.pair QI Q46),(34,.int .i64),(37,.list false QV),(46,.list false QI),(47,.arr 3 QI),(48,.list false Q3),(50,.pair QI Q2),(52,.pair QI Q29),(74,.int .u64),(93,.pair QB Q0),(99,.int .u16),(103,.int .u64),(153,.pair QI Q3),(161,.pair QI Q0),(164,.list false QU),(174,.pair QB Q3),(233,.pair QB Q3),(243,.arr 64 QV),(274,.list false (.arr 3 QI)),(283,.pair QI (.pair QL Q2))]
def T0:Nat→Option Ty:=fun t=>find b7X t
def c1E:List Nat:=[29,47,153,161]
def c8b:Nat→Bool:=fun t=>c1E.contains t
def b8d:List Nat:=[]
def c8c:Nat→Bool:=fun t=>b8d.contains t
def a8G:(List Int):=[0,1,56,2,57,49,28,3,61,58,42,50,38,29,17,4,62,47,59,36,45,43,51,22,53,39,33,30,24,18,12,5,63,55,48,27,60,41,37,16,46,35,44,21,52,32,23,11,54,26,40,15,34,20,31,10,25,14,19,9,13,8,7,6]
def G0:Nat→Option ((t:Ty)×t.den):=fun g=>find ([(0,⟨.arr 64 QV,a8G⟩)]:List (Nat×((t:Ty)×t.den))) g
@[reducible] def b2S(a:List (Nat×FSem))(b:List (Nat×Ty))(c d:Nat):Cx:=⟨c8c,c8b,T0,fun f=>find a f,fun n=>find b n,c.testBit,d.testBit,G0⟩
def a2e(s:Z14):Option Z61:=(fun(a b:Int)=>cond (decide (b<a)) ((m0k s.1 b).bind fun x1=>(show Option Z32 from cond (decide (x1<(-1073741824))) (some (s.1,a,b,true,())) (some (s.1,a,b,decide (x1≥1073741824),()))).bind fun z2=>cond z2.2.2.2.1 (some (.inr (Sum.inr ((false,()))))) (some (.inl (z2.1,z2.2.1,wrap .i64 (z2.2.2.1+1),())))) (some (.inr (Sum.inl ())))) s.2.1 s.2.2.1
def a1Y(x:LI):Option Bool:=(y0s a2e (x,(x.length:Int),0,())).bind fun w3=>match w3 with |.inl a4=>some true |.inr b5=>some b5.1
def b7h:FSem:=⟨[.v QL],[.v .bool],a1Y⟩
def H60:Hints:=⟨[(26,[.sv 5 QL,6,7],[Qe 0 [],Qr [.sv 2 .bool]])],[(1689,[Qn [.sv 5 QL,6,7,.sv 16 .bool]])],[]⟩
def a4j(x:Int):Option Bool:=cond (decide ((-1073741824)≤x)) (some (decide (x<1073741824))) (some false)
def b7i:FSem:=⟨[.v QI],[.v .bool],a4j⟩
def a5u(s:Z53):Option (Z53 ⊕ Z41):=(fun(a:Int)(b:LI)(c d:Int)(e:LI)=>cond (decide (d<c)) ((m0k b d).bind fun x2=>(show Option (Int×(Int×(LI×(Int×Int×Z7))))from(a4j x2).bind fun y3=>cond (!y3) (some (a,x2,b,c,d,true,e,())) (cond (decide (a<0)) none (cond ((A0n .i64 1 a)==0) none (some (a,x2,b,c,d,(a18 x2 (A0n .i64 1 a)) != 0,e,()))))).bind fun z4=>cond z4.2.2.2.2.2.1 (some (.inr (Sum.inr ((6,[],()))))) (cond (decide (z4.1<0)) none (cond (lim ((a02 z4.2.2.2.2.2.2.1)+1)) (some (.inl (z4.1,z4.2.2.1,z4.2.2.2.1,wrap .i64 (z4.2.2.2.2.1+1),a03 z4.2.2.2.2.2.2.1 [A0o .i64 z4.2.1 z4.1],()))) none))) (some (.inr (Sum.inl (e,()))))) s.1 s.2.1 s.2.2.1 s.2.2.2.1 s.2.2.2.2.1
def a5F(x:(LI×Int)):Option (LI×Int):=(show Option Z18 from cond (decide (x.2<0)) (some (x.1,x.2,true,())) (some (x.1,x.2,decide (x.2 > 30),()))).bind fun z1=>cond z1.2.2.1 (some ([],1)) ((y0s a5u (z1.2.1,z1.1,(z1.1.length:Int),0,[],())).bind fun w5=>match w5 with |.inl a6=>some (a6.1,0) |.inr b7=>some (b7.2.1,b7.1))
def b7j:FSem:=⟨[.v QL,.v QI],[.o QI,.v QI],a5F⟩
def H61:Hints:=⟨[(122,[1,.sv 15 QL,16,17,.own 6 6 QI],[Qe 0 [.own 6 6 QI],Qr [5,.own 4 4 QI]])],[(6,[Qn [.sv 0 QL,1,.sv 14 .bool]]),(15666,[Qn [1,8,.sv 15 QL,16,17,.sv 30 .bool,.own 6 6 QI]])],[]⟩
def a1t(x:Int):Option Int:=cond (x==0) (some 64) ((m0k a8G (A0o .u64 (wrap .u64 ((bits .u64 .and x (wrap .u64 (0-x)))*285870213051353865)) 58)).bind fun x1=>some (wrap .i64 x1))
def a1g:FSem:=⟨[.v QU],[.v QI],a1t⟩
def a7S:Cx:=b2S [] [] 5 0
theorem b3G{ρ:Type}{cx:Cx}{ops:List Oper}:∀(l1 l2:List (Md×Oper)) (Γ:AE) (K:AE→Rs ρ),h0m cx ops (l1++l2) Γ K=h0m cx ops l1 Γ fun Γ'=>h0m cx ops l2 Γ' K
 | [],_,_,_=>rfl
 |(md,o)::l1,l2,Γ,K=>by
  simp only[a17,h0m];congr 1;funext Γ';exact b3G l1 l2 Γ' K
theorem b2T{ρ:Type}{cx:Cx}{H:Hints}{a b:Code}{p:Nat}(h:find H.cuts p=none)(Γ:AE)(K:Ex→AE→Rs ρ):c0n cx H (.seq a b) p Γ K=c0n cx H a (2*p) Γ fun e Γ'=>match e with
   |.normal=>c0n cx H b (2*p+1) Γ' K
   |e=>K e Γ':=by
 simp only[c0n,h];rfl
theorem b8e{ρ:Type}{cx:Cx}{H:Hints}{id:Nat}{ops:Array Oper}{p:Nat}(Γ:AE)(K:Ex→AE→Rs ρ):c0n cx H (.region id ops false) p Γ K=h0m cx ops.toList (ops.toList.map fun o=>(.x,o)) Γ fun Γ'=>K .normal Γ':=by
 simp only[c0n,cF]
def a7L:Code:=match Tryz.f139.body with
 |some c=>c
 |none=>.skip
def b5Q:Code→Code
 |.seq a _=>a
 |c=>c
def c1F:Code→Code
 |.seq _ b=>b
 |c=>c
def c2U:Code→Array Oper
 |.region _ ops _=>ops
 |_=>#[]
def c1h:Code:=c1F (c1F a7L)
def a9M:List Oper:=(c2U (b5Q c1h)).toList
def Γ139(x:Int):AE:=(((ini [.v QU] x).set 2 (.val QI (0:Int))).set 3 (.val QU x)).set 4 (.val .bool (x==(0:Int)))
def Γ139r(x:Int):AE:=(Γ139 x).set 2 (.val QI (64:Int))
def b8f(e:Ex)(Γ:AE):Option Int:=match e,Γ.pd with
  |.exit _,_=>none
  |_,some _=>none
  |_,none=>(Γ.upto Tryz.f139.ntmps).outs a7S [] Tryz.f139.ntmps [.v QI] (Tryz.f139.results.toList.map .inl) fun y _=>some y
def Γ139b(x a b c i:Int):AE:=((((((Γ139 x).set 5 (.val QU x)).set 6 (.val QU x)).set 7 (.val QU a)).set 8 (.val QU b)).set 9 (.val QU c)).set 10 (.val QU i)
set_option maxRecDepth 100000
theorem c4b:a7L=.seq (b5Q a7L) (.seq (b5Q (c1F a7L)) (.seq (.region 3 (c2U (b5Q c1h)) false) .ret)):=by kernel_rfl
theorem c5w(x:Int):A0j a7S QH Tryz.f139 a1g.ps a1g.rs x=c0n a7S QH a7L 1 (ini [.v (.int .u64)] x) b8f:=rfl
theorem c5x(x:Int)(K:Ex→AE→Option Int):c0n a7S QH (b5Q a7L) 2 (ini [.v (.int .u64)] x) K=K .normal ((ini [.v (.int .u64)] x).set 2 (.val (.int .i64) (0:Int))):=by kernel_rfl
theorem c5y(x:Int)(K:Ex→AE→Option Int):c0n a7S QH (b5Q (c1F a7L)) 6 ((ini [.v (.int .u64)] x).set 2 (.val (.int .i64) (0:Int))) K=bif x==(0:Int)then K .ret (Γ139r x)else K .normal (Γ139 x):=by kernel_rfl
theorem c5z(x:Int):b8f .ret (Γ139r x)=some (64:Int):=by kernel_rfl
theorem c5A(x:Int)(K:AE→Option Int):h0m a7S a9M ((a9M.map fun o=>(Md.x,o)).take 6) (Γ139 x) K =
  K (Γ139b x (wrap .u64 (0-x)) (bits .u64 .and x (wrap .u64 (0-x))) (wrap .u64 ((bits .u64 .and x (wrap .u64 (0-x)))*(285870213051353865:Int))) (A0o .u64 (wrap .u64 ((bits .u64 .and x (wrap .u64 (0-x)))*(285870213051353865:Int))) (58:Int))):=by kernel_rfl
theorem c5B(x a b c i:Int):h0m a7S a9M ((a9M.map fun o=>(Md.x,o)).drop 6) (Γ139b x a b c i) (fun Γ=>b8f .ret Γ)=(m0k a8G i).bind fun h=>some (wrap .i64 h):=by kernel_rfl
theorem c5C(x:Int):h0m a7S a9M (a9M.map fun o=>(Md.x,o)) (Γ139 x) (fun Γ=>b8f .ret Γ)=(m0k a8G (A0o .u64 (wrap .u64 ((bits .u64 .and x (wrap .u64 (0-x)))*(285870213051353865:Int))) (58:Int))).bind fun h=>some (wrap .i64 h):=by
 rw[←List.take_append_drop 6 (a9M.map fun o=>(Md.x,o)),b3G,c5A,c5B]
theorem c5V(x:Int):c0n a7S QH a7L 1 (ini [.v (.int .u64)] x) b8f=a1t x:=by
 rw[c4b,b2T rfl,c5x];simp only[];rw[b2T rfl,c5y];simp only[];rw[b2T rfl,b8e];simp only[c0n];rw[c5z];exact congrArg (fun z=>bif x==(0:Int)then some (64:Int)else z) (c5C x)
theorem c6H(x):A0j a7S QH Tryz.f139 a1g.ps a1g.rs x=a1g.F x:=(c5w x).trans (c5V x)
def a4o(s:Z27):Option Z58:=(fun(a b:Int)=>cond (decide (b<a)) ((m0k s.2.1 b).bind fun x1=>some (.inl (bits .i64 .or s.1 x1,s.2.1,a,wrap .i64 (b+1),()))) (some (.inr (s.1,())))) s.2.2.1 s.2.2.2.1
def a3e(x:LI):Option Int:=(y0s a4o (0,x,(x.length:Int),0,())).bind fun w2=>cond (w2.1==0) (some 0) ((a1t (wrap .u64 w2.1)).bind fun y3=>some (v0s y3 30))
def b4D:FSem:=⟨[.v QL],[.v QI],a3e⟩
def H62:Hints:=⟨[(58,[3,.sv 6 QL,7,8],[Qe 0 [3]])],[],[]⟩
def a4p(s:Z14):Option Z61:=(fun(a b:Int)=>cond (decide (b<a)) ((m0k s.1 b).bind fun x2=>(show Option Z32 from cond (decide (x2<(-32768))) (some (s.1,a,b,true,())) (some (s.1,a,b,decide (x2≥32768),()))).bind fun z3=>cond z3.2.2.2.1 (some (.inr (Sum.inr ((false,()))))) (some (.inl (z3.1,z3.2.1,wrap .i64 (z3.2.2.1+1),())))) (some (.inr (Sum.inl ())))) s.2.1 s.2.2.1
def a3K(x:(LI×Int)):Option Bool:=(show Option (LI×(Bool×Unit))from cond (decide ((x.1.length:Int)<1)) (some (x.1,true,())) (cond (decide ((x.1.length:Int) > 32)) (some (x.1,true,())) (cond (decide (x.2<0)) (some (x.1,true,())) (some (x.1,decide (x.2 > 15),()))))).bind fun z1=>cond z1.2.1 (some false) ((y0s a4p (z1.1,(z1.1.length:Int),0,())).bind fun w4=>match w4 with |.inl a5=>some true |.inr b6=>some b6.1)
def b8g:FSem:=⟨[.v QL,.v QI],[.v .bool],a3K⟩
def c8d:Hints:=⟨[(58,[.sv 23 QL,24,25],[Qe 0 [],Qr [.sv 4 .bool]])],[(6,[Qn [.sv 0 QL,.sv 22 .bool]]),(3737,[Qn [.sv 23 QL,24,25,.sv 34 .bool]])],[]⟩
def a5G(s:Z5):Option (Z5 ⊕ Z0):=cond (decide (s.2.1<3)) ((m0k s.1 s.2.1).bind fun x2=>(show Option Z18 from cond (decide (x2<(-64))) (some (s.1,s.2.1,true,())) (some (s.1,s.2.1,decide (x2 > 64),()))).bind fun z3=>cond z3.2.2.1 (some (.inr (Sum.inr ((false,()))))) (some (.inl (z3.1,wrap .i64 (z3.2.1+1),())))) (some (.inr (Sum.inl ())))
def a6K(x:(Int×LI)):Option Bool:=(show Option Z7 from cond (decide (x.1<2)) (some (true,x.2,())) (some (decide (x.1 > 1024),x.2,()))).bind fun z1=>cond z1.1 (some false) ((y0s a5G (z1.2.1,0,())).bind fun w4=>match w4 with |.inl a5=>some true |.inr b6=>some b6.1)
def c1G:FSem:=⟨[.v QI,.v (.arr 3 QI)],[.v .bool],a6K⟩
def c8e:Hints:=⟨[(58,[.sv 13 (.arr 3 QI),14],[Qe 0 [],Qr [.sv 4 .bool]])],[(6,[Qn [.sv 12 .bool,.vp 3 (.arr 3 QI)]]),(3737,[Qn [.sv 13 (.arr 3 QI),14,.sv 22 .bool]])],[]⟩
def a5H(x:(Int×Int×Unit)):Option Bool:=cond (decide (x.1≥1)) (cond (decide (x.1≤32)) (cond (decide (x.2.1≥0)) (some (decide (x.2.1≤8))) (some false)) (some false)) (some false)
def b7k:FSem:=⟨[.v Q3],[.v .bool],a5H⟩
def a4W(s:(Z6×Int×Int×Unit)):Option ((Z6×Int×Int×Unit) ⊕ Z0):=cond (decide (s.2.2.1<s.2.1)) ((m0k s.1 s.2.2.1).bind fun x1=>(a5H x1).bind fun y2=>cond (!y2) (some (.inr (Sum.inr ((false,()))))) (some (.inl (s.1,s.2.1,wrap .i64 (s.2.2.1+1),())))) (some (.inr (Sum.inl ())))
def a5Z(x:Z6):Option Bool:=cond (decide ((x.length:Int) > 3)) (some false) ((y0s a4W (x,(x.length:Int),0,())).bind fun w3=>match w3 with |.inl a4=>some true |.inr b5=>some b5.1)
def b3H:FSem:=⟨[.v (.list false Q3)],[.v .bool],a5Z⟩
def c8f:Hints:=⟨[(58,[.sv 8 (.list false Q3),9,10],[Qe 0 [],Qr [.sv 2 .bool]])],[],[]⟩
def a6u(x:(Int×Z96)):Option Bool:=(show Option (Int×b8c)from cond (x.1==0) (some (x.2.2,x.1,x.1==0,x.2.1,())) (some (x.2.2,x.1,x.1==1,x.2.1,()))).bind fun z1=>cond z1.2.2.1 (some true) (cond (z1.2.1==2) (cond (decide (z1.2.2.2.1.2.2.1≥0)) (cond (decide (z1.2.2.2.1.2.2.1≤4)) (some (decide (z1.2.2.2.1.2.2.1≤z1.1))) (some false)) (some false)) (cond (z1.2.1==3) ((a3K (z1.2.2.2.1.2.2.2.2.2.1,z1.2.2.2.1.2.2.2.1)).bind fun y2=>cond y2 (some (decide ((z1.2.2.2.1.2.2.2.2.2.1.length:Int)≤z1.1))) (some false)) (cond (z1.2.1==4) ((a3K (z1.2.2.2.1.2.2.2.2.2.1,z1.2.2.2.1.2.2.2.1)).bind fun y3=>cond y3 (cond (decide ((z1.2.2.2.1.2.2.2.2.2.1.length:Int)≤z1.1)) ((a6K (z1.2.2.2.1.2.2.2.2.1,z1.2.2.2.1.2.2.2.2.2.2.1)).bind fun y4=>some y4) (some false)) (some false)) (cond (z1.2.1==5) (cond (decide ((z1.2.2.2.1.2.2.2.2.2.2.2.1.length:Int) > 0)) ((a5Z z1.2.2.2.1.2.2.2.2.2.2.2.1).bind fun y5=>some y5) (some false)) (some false)))))
def c2V:FSem:=⟨[.v QI,.v Q31,.v QI],[.v .bool],a6u⟩
def c8g:Hints:=⟨[],[(26,[Qn [2,7,.sv 8 .bool,.vp 4 Q31]])],[]⟩
def a0Y(x:LI):Option LI:=x0e x
def a1y:FSem:=⟨[.v QL],[.o QI],a0Y⟩
def c4R:Cx:=b2S [] [] 5 0
theorem c6I(x):A0j c4R QH Tryz.f192 a1y.ps a1y.rs x=a1y.F x:=Eq.trans (show _=w0u x by kernel_rfl) (A0x x)
def a3k(x:LI):Option LI:=x0e x
def a1Z:FSem:=⟨[.v QL],[.v QL],a3k⟩
def c2W:Cx:=b2S [] [] 5 0
theorem c5W(x):A0j c2W QH Tryz.f192 a1Z.ps a1Z.rs x=a1Z.F x:=Eq.trans (show _=w0u x by kernel_rfl) (A0x x)
def a1d(x:Z6):Option Z6:=x0e x
def a1e:FSem:=⟨[.v (.list false Q3)],[.v (.list false Q3)],a1d⟩
def c2X:Cx:=b2S [] [] 5 0
theorem c5X(x):A0j c2X QH Tryz.f204 a1e.ps a1e.rs x=a1e.F x:=Eq.trans (show _=w0u x by kernel_rfl) (A0x x)
def a4X(x:(Int×Z94)):Option Z94:=(show Option a9p from(show Option ((Z94×a9p) ⊕ (a9p ⊕ (Z94×a9p)))from cond (x.1==2) (some (Sum.inr (Sum.inl ((0,0,0,0,0,[],a00 3 0,[],[],(0,[],()),[],()),(x.1,0,x.2.2.2.1,0,0,[],a00 3 0,[],[],(0,[],()),[],()),())))) (cond (x.1==4) (some (Sum.inl ((0,0,0,0,0,[],a00 3 0,[],[],(0,[],()),[],()),(x.1,0,0,0,x.2.2.2.2.2.1,[],x.2.2.2.2.2.2.2.1,[],[],(0,[],()),[],()),x.2,()))) (cond (x.1==3) (some (Sum.inl ((0,0,0,0,0,[],a00 3 0,[],[],(0,[],()),[],()),(x.1,0,0,0,0,[],a00 3 0,[],[],(0,[],()),[],()),x.2,()))) (cond (x.1==5) (some (Sum.inr (Sum.inr (((0,0,0,0,0,[],a00 3 0,[],[],(0,[],()),[],()),(x.1,0,0,0,0,[],a00 3 0,[],[],(0,[],()),[],()),x.2,()))))) (some (Sum.inr (Sum.inl ((0,0,0,0,0,[],a00 3 0,[],[],(0,[],()),[],()),(x.1,0,0,0,0,[],a00 3 0,[],[],(0,[],()),[],()),())))))))).bind fun z1=>match z1 with |.inl a2=>((a3k a2.2.2.1.2.2.2.2.2.1).bind fun y4=>some (a2.1,(a2.2.1.1,a2.2.1.2.1,a2.2.1.2.2.1,a2.2.2.1.2.2.2.1,a2.2.1.2.2.2.2.1,y4,a2.2.1.2.2.2.2.2.2),())) |.inr b3=>(match b3 with |.inl a5=>some (a5.1,a5.2.1,()) |.inr b6=>((a1d b6.2.2.1.2.2.2.2.2.2.2.1).bind fun y7=>some (b6.1,(b6.2.1.1,b6.2.1.2.1,b6.2.1.2.2.1,b6.2.1.2.2.2.1,b6.2.1.2.2.2.2.1,b6.2.1.2.2.2.2.2.1,b6.2.1.2.2.2.2.2.2.1,y7,b6.2.1.2.2.2.2.2.2.2.2),())))).bind fun z8=>some z8.2.1
def b8h:FSem:=⟨[.v QI,.v Q31],[.v Q31],a4X⟩
def c8h:Hints:=⟨[],[(7,[Qn [.box 4 Q31,.box 5 Q31,Qp 4 4,Qp 5 5]]),(232,[Qn [.box 4 Q31,.box 5 Q31,.vp 3 Q31,Qp 4 4,Qp 5 5],Qe 0 [.box 4 Q31,.box 5 Q31,Qp 4 4,Qp 5 5],Qe 4 [.box 4 Q31,.box 5 Q31,.vp 3 Q31,Qp 4 4,Qp 5 5]])],[(8,[.v,.v,.v,.v,.q,.w [0,5],.x,.x]),(9,[.v,.v,.v,.v,.v,.q,.w [0,5],.x,.x])]⟩
def a3L(x:Z96):Option Int:=cond (x.1.1==0) (some 1) (cond (x.1.1==1) (some x.2) (cond (x.1.1==2) (some x.1.2.2.1) ((show Option Z99 from cond (x.1.1==3) (some (x.1.1==3,x.1,())) (some (x.1.1==4,x.1,()))).bind fun z1=>cond z1.1 (some (z1.2.1.2.2.2.2.2.1.length:Int)) (some 0))))
def b8i:FSem:=⟨[.v Q31,.v QI],[.v QI],a3L⟩
def c8i:Hints:=⟨[],[(1727,[Qn [.sv 16 .bool,.vp 2 Q31]])],[]⟩
def b0K(s:Z14):Option Z61:=(fun(a b:Int)=>cond (decide (b<a)) ((m0k s.1 b).bind fun x1=>(show Option Z32 from cond (decide (x1<(-1073741824))) (some (s.1,a,b,true,())) (some (s.1,a,b,decide (x1≥1073741824),()))).bind fun z2=>cond z2.2.2.2.1 (some (.inr (Sum.inr ((false,()))))) (some (.inl (z2.1,z2.2.1,wrap .i64 (z2.2.2.1+1),())))) (some (.inr (Sum.inl ())))) s.2.1 s.2.2.1
def a2l(x:LI):Option Bool:=(y0s b0K (x,(x.length:Int),0,())).bind fun w3=>match w3 with |.inl a4=>some true |.inr b5=>some b5.1
def b8j:FSem:=⟨[.v QL],[.v .bool],a2l⟩
def c8j:Hints:=⟨[(26,[.sv 5 QL,6,7],[Qe 0 [],Qr [.sv 2 .bool]])],[(1689,[Qn [.sv 5 QL,6,7,.sv 16 .bool]])],[]⟩
def a4q(s:Z28):Option (Z28 ⊕ Z15):=(fun(a b:Int)(c:LI)=>cond (decide ((wrap .i64 (a+1))<(c.length:Int))) (cond ((decide (0≤(wrap .i64 (a+1))))&&(decide ((wrap .i64 (a+1))<(c.length:Int)))) (cond ((decide (0≤a))&&(decide (a<(c.length:Int)))) (cond ((decide (0≤a))&&(decide (a<(c.length:Int)))) (some (.inl (wrap .i64 (a+1),s.2.1,b,a05 c (a01 a) (wrap .i64 ((a04 c (a01 (wrap .i64 (a+1))) 0)-(a04 c (a01 a) 0))),()))) none) none) none) (some (.inr (s.2.1,b,c,())))) s.1 s.2.2.1 s.2.2.2.1
def a6m(s:Z15):Option (Z15 ⊕ (LI×Unit)):=cond (decide (s.2.1<s.1)) ((y0s a4q (0,s.1,s.2.1,s.2.2.1,())).bind fun w3=>cond ((decide (0≤(wrap .i64 ((w3.2.2.1.length:Int)-1))))&&(decide ((wrap .i64 ((w3.2.2.1.length:Int)-1))≤(w3.2.2.1.length:Int)))) (cond (decide ((a01 (wrap .i64 ((w3.2.2.1.length:Int)-1)))≤(a02 w3.2.2.1))) (some (.inl (w3.1,wrap .i64 (w3.2.1+1),a06 (a01 (wrap .i64 ((w3.2.2.1.length:Int)-1))) w3.2.2.1,()))) none) none) (some (.inr (s.2.2.1,())))
def a3M(x:(LI×Int)):Option (LI×Int):=(show Option Z18 from cond (decide (x.2<0)) (some (x.1,x.2,true,())) (cond (decide (x.2 > 4)) (some (x.1,x.2,true,())) (some (x.1,x.2,decide ((x.1.length:Int)<x.2),())))).bind fun z1=>cond z1.2.2.1 (some ([],1)) ((a2l z1.1).bind fun y2=>cond (!y2) (some ([],6)) (cond (lim (a02 z1.1)) ((y0s a6m (z1.2.1,0,z1.1,())).bind fun w4=>(a2l w4.1).bind fun y5=>cond (!y5) (some ([],6)) (some (w4.1,0))) none))
def b8k:FSem:=⟨[.v QL,.v QI],[.o QI,.v QI],a3M⟩
def c8k:Hints:=⟨[(250,[25,26,.own 6 6 QI],[Qe 0 [.own 6 6 QI]]),(64098,[7,25,26,.own 6 6 QI],[Qe 2 [25,26,.own 6 6 QI]])],[(6,[Qn [.sv 0 QL,1,.sv 19 .bool]])],[(11,[.q,.v,.q,.v,.v,.q,.q,.q,.v,.q,.q,.v,.x,.x])]⟩
def a4k(x:Int):Option Bool:=cond (decide (x≥(-1073741824))) (some (decide (x<1073741824))) (some false)
def b7l:FSem:=⟨[.v QI],[.v .bool],a4k⟩
def a2E(s:Z14):Option Z61:=cond (decide (s.2.2.1<s.2.1)) ((m0k s.1 s.2.2.1).bind fun x1=>(a4k x1).bind fun y2=>cond (!y2) (some (.inr (Sum.inr ((false,()))))) (some (.inl (s.1,s.2.1,wrap .i64 (s.2.2.1+1),())))) (some (.inr (Sum.inl ())))
def a2f(x:LI):Option Bool:=(y0s a2E (x,(x.length:Int),0,())).bind fun w3=>match w3 with |.inl a4=>some true |.inr b5=>some b5.1
def b4d:FSem:=⟨[.v QL],[.v .bool],a2f⟩
def c8l:Hints:=⟨[(26,[.sv 5 QL,6,7],[Qe 0 [],Qr [.sv 2 .bool]])],[],[]⟩
def a2F(s:Z65):Option (Z65 ⊕ (Int×Int×Unit)):=(fun(a:LI)(b c:Int)(d:LI)(e f:Int)=>cond (decide (f<e)) ((m0k d f).bind fun x1=>cond (decide ((wrap .i64 ((wrap .i64 ((a.length:Int)-1))-f))<0)) (some (.inr (b,c,()))) ((m0k a (wrap .i64 ((wrap .i64 ((a.length:Int)-1))-f))).bind fun x2=>some (.inl (a,b,wrap .i64 (c+(wrap .i64 (x1*x2))),d,e,wrap .i64 (f+1),())))) (some (.inr (b,c,())))) s.1 s.2.1 s.2.2.1 s.2.2.2.1 s.2.2.2.2.1 s.2.2.2.2.2.1
def a3N(x:Z10):Option Int:=(y0s a2F (x.1,x.2.2,0,x.2.1,(x.2.1.length:Int),0,())).bind fun w3=>cond (decide (w3.1<0)) none (some (A0o .i64 w3.2.1 w3.1))
def b4e:FSem:=⟨[.v QL,.v QL,.v QI],[.v QI],a3N⟩
def c8m:Hints:=⟨[(58,[.sv 0 QL,2,7,.sv 11 QL,12,13],[Qe 0 [2,7]])],[],[]⟩
def a3O(s:(LI×Z37)):Option ((LI×Z37) ⊕ Z41):=(fun(a:LI)(b c:Int)(d:LI)=>cond (decide (c<(a.length:Int))) ((m0k a c).bind fun x4=>cond ((decide (0≤c))&&(decide (c≤(a.length:Int)))) ((a3N (a06 (a01 c) a,s.2.1,b)).bind fun y5=>(a4k (wrap .i64 (x4-y5))).bind fun y6=>cond (!y6) (some (.inr (Sum.inr ((6,[],()))))) (cond (lim ((a02 d)+1)) (some (.inl (a,s.2.1,b,wrap .i64 (c+1),a03 d [wrap .i64 (x4-y5)],()))) none)) none) (some (.inr (Sum.inl (d,()))))) s.1 s.2.2.1 s.2.2.2.1 s.2.2.2.2.1
def a5I(x:Z10):Option (LI×Int):=(show Option Z44 from(a3K (x.2.1,x.2.2)).bind fun y1=>cond (!y1) (some (x.1,x.2.1,x.2.2,true,())) (some (x.1,x.2.1,x.2.2,decide ((x.1.length:Int)<(x.2.1.length:Int)),()))).bind fun z2=>cond z2.2.2.2.1 (some ([],1)) ((a2f z2.1).bind fun y3=>cond (!y3) (some ([],6)) (cond ((decide (0≤(wrap .i64 ((z2.1.length:Int)-(z2.2.1.length:Int)))))&&(lim (a01 (wrap .i64 ((z2.1.length:Int)-(z2.2.1.length:Int)))))) ((y0s a3O (z2.1,z2.2.1,z2.2.2.1,(z2.2.1.length:Int),[],())).bind fun w7=>match w7 with |.inl a8=>some (a8.1,0) |.inr b9=>some (b9.2.1,b9.1)) none))
def b7m:FSem:=⟨[.v QL,.v QL,.v QI],[.o QI,.v QI],a5I⟩
def c8n:Hints:=⟨[(250,[.sv 0 QL,.sv 1 QL,2,9,.own 8 8 QI],[Qe 0 [.own 8 8 QI],Qr [7,.own 6 6 QI]])],[(6,[Qn [.sv 0 QL,.sv 1 QL,2,.sv 21 .bool]])],[(9,[.v,.v,.v,.v,.v,.v,.v,.v,.v,.v,.x,.x])]⟩
def a6a(x:Int):Option Bool:=cond (decide (x≥(-1073741824))) (some (decide (x<1073741824))) (some false)
def b9F:FSem:=⟨[.v QI],[.v .bool],a6a⟩
def a3q(s:Z14):Option Z61:=cond (decide (s.2.2.1<s.2.1)) ((m0k s.1 s.2.2.1).bind fun x1=>(a6a x1).bind fun y2=>cond (!y2) (some (.inr (Sum.inr ((false,()))))) (some (.inl (s.1,s.2.1,wrap .i64 (s.2.2.1+1),())))) (some (.inr (Sum.inl ())))
def a3B(x:LI):Option Bool:=(y0s a3q (x,(x.length:Int),0,())).bind fun w3=>match w3 with |.inl a4=>some true |.inr b5=>some b5.1
def b5R:FSem:=⟨[.v QL],[.v .bool],a3B⟩
def c8o:Hints:=⟨[(26,[.sv 5 QL,6,7],[Qe 0 [],Qr [.sv 2 .bool]])],[],[]⟩
def a3r(s:(LI×(Int×Int×Z16))):Option ((LI×(Int×Int×Z16)) ⊕ (Int×Unit)):=(fun(a b c:Int)(d:LI)(e:Int)=>cond (decide (e<3)) ((m0k d e).bind fun x1=>cond (decide ((wrap .i64 ((wrap .i64 ((wrap .i64 (a-b))-1))+e))≥0)) ((m0k s.1 (wrap .i64 ((wrap .i64 ((wrap .i64 (a-b))-1))+e))).bind fun x2=>some (.inl (s.1,a,b,wrap .i64 (c+(wrap .i64 (x1*x2))),d,wrap .i64 (e+1),()))) (some (.inl (s.1,a,b,c,d,wrap .i64 (e+1),())))) (some (.inr (c,())))) s.2.1 s.2.2.1 s.2.2.2.1 s.2.2.2.2.1 s.2.2.2.2.2.1
def a3C(x:(LI×Z1)):Option Int:=(y0s a3r (x.1,x.2.1,x.2.2.1,0,x.2.2.2,0,())).bind fun w3=>some (A0o .i64 w3.1 6)
def b5S:FSem:=⟨[.v QL,.v QI,.v QI,.v (.arr 3 QI)],[.v QI],a3C⟩
def c8p:Hints:=⟨[(58,[.sv 0 QL,1,2,9,.sv 13 (.arr 3 QI),14],[Qe 0 [9]])],[],[]⟩
def a4Y(s:(LI×Z74)):Option ((LI×Z74) ⊕ Z41):=(fun(a:LI)(b c:Int)(d e:LI)=>cond (decide (c<b)) ((m0k a c).bind fun x3=>(a3C (s.1,c,s.2.1,e)).bind fun y4=>(a6a (wrap .i64 (x3-y4))).bind fun y5=>cond (!y5) (some (.inr (Sum.inr ((6,[],()))))) (cond (lim ((a02 d)+1)) (some (.inl (s.1,s.2.1,a,b,wrap .i64 (c+1),a03 d [wrap .i64 (x3-y4)],e,()))) none)) (some (.inr (Sum.inl (d,()))))) s.2.2.1 s.2.2.2.1 s.2.2.2.2.1 s.2.2.2.2.2.1 s.2.2.2.2.2.2.1
def a6b(x:(LI×(Int×LI))):Option (LI×Int):=(a6K (x.2.1,x.2.2)).bind fun y1=>cond (!y1) (some ([],1)) ((a3B x.1).bind fun y2=>cond (!y2) (some ([],6)) (cond ((decide (0≤(x.1.length:Int)))&&(lim (a01 (x.1.length:Int)))) ((y0s a4Y (x.1,x.2.1,x.1,(x.1.length:Int),0,[],x.2.2,())).bind fun w6=>match w6 with |.inl a7=>some (a7.1,0) |.inr b8=>some (b8.2.1,b8.1)) none))
def b9G:FSem:=⟨[.v QL,.v QI,.v (.arr 3 QI)],[.o QI,.v QI],a6b⟩
def c8q:Hints:=⟨[(250,[.sv 0 QL,1,.sv 22 QL,23,24,.own 8 8 QI,.vp 5 (.arr 3 QI)],[Qe 0 [.own 8 8 QI],Qr [7,.own 6 6 QI]])],[],[]⟩
def a4Z(x:Int):Option Bool:=cond (decide (x≥(-1073741824))) (some (decide (x<1073741824))) (some false)
def b2U:FSem:=⟨[.v QI],[.v .bool],a4Z⟩
def a2X(s:Z14):Option Z61:=cond (decide (s.2.2.1<s.2.1)) ((m0k s.1 s.2.2.1).bind fun x1=>(a4Z x1).bind fun y2=>cond (!y2) (some (.inr (Sum.inr ((false,()))))) (some (.inl (s.1,s.2.1,wrap .i64 (s.2.2.1+1),())))) (some (.inr (Sum.inl ())))
def a4r(x:LI):Option Bool:=(y0s a2X (x,(x.length:Int),0,())).bind fun w3=>match w3 with |.inl a4=>some true |.inr b5=>some b5.1
def b0L:FSem:=⟨[.v QL],[.v .bool],a4r⟩
def c8r:Hints:=⟨[(26,[.sv 5 QL,6,7],[Qe 0 [],Qr [.sv 2 .bool]])],[],[]⟩
def a7q(x:(Int×Int×Unit)):Option (Z23×Int):=(a5H x).bind fun y1=>cond (!y1) none (cond ((decide (0≤x.1))&&((decide (x.1≤x.1))&&(lim (a01 x.1)))) (cond ((decide (0≤x.1))&&((decide (x.1≤x.1))&&(lim (a01 x.1)))) (some ((x.2.1,a00 (a01 x.1) 0,a00 (a01 x.1) 0,()),0)) none) none)
def b3I:FSem:=⟨[.v Q3],[.b Q12,.v QI],a7q⟩
def c8s:Hints:=⟨[],[],[(3,[.v,.v,.v,.v,.q,.v,.v,.q,.x,.x,.x,.x])]⟩
def a4s(x:Int):Option Int:=some (v0s (v0r x (-1073741824)) 1073741823)
def b4E:FSem:=⟨[.v QI],[.v QI],a4s⟩
def a2C(s:Z76):Option (Z76 ⊕ Z55):=(fun(a:Int)(b:Z23)=>cond (decide (a<s.2.1)) (cond ((decide (0≤a))&&(decide (a<(b.2.1.length:Int)))) (cond ((decide (0≤a))&&(decide (a<(b.2.2.1.length:Int)))) (some (.inl (wrap .i64 (s.1+(wrap .i64 ((a04 b.2.1 (a01 a) 0)*(a04 b.2.2.1 (a01 a) 0)))),s.2.1,wrap .i64 (a+1),b,()))) none) none) (some (.inr (s.1,b,())))) s.2.2.1 s.2.2.2.1
def a1H(x:Z23):Option Z38:=(y0s a2C (0,(x.2.1.length:Int),0,x,())).bind fun w1=>(a4s (A0o .i64 w1.1 16)).bind fun y2=>some (y2,w1.2.1)
def a7T:FSem:=⟨[.r false (.b Q12)],[.v QI],a1H⟩
def c8t:Hints:=⟨[(58,[3,10,11,.box pinned Q12,Qp 0 pinned,.ref 9 pinned [.snd,.fst]],[Qe 0 [3,.box pinned Q12]])],[],[]⟩
def a1W(s:(Int×Z76)):Option ((Int×Z76) ⊕ Z55):=(fun(a b c d:Int)(e:Z23)=>cond (decide (d<c)) (cond ((decide (0≤d))&&(decide (d<(e.2.2.1.length:Int)))) (cond ((decide (0≤d))&&(decide (d<(e.2.1.length:Int)))) ((show Option (Int×Int×Int×Z76)from cond (decide ((a04 e.2.2.1 (a01 d) 0) > 0)) (some (a,b,d,wrap .i64 ((a04 e.2.1 (a01 d) 0)+b),c,d,e,())) (cond (decide ((a04 e.2.2.1 (a01 d) 0)<0)) (some (a,b,d,wrap .i64 ((a04 e.2.1 (a01 d) 0)-b),c,d,e,())) (some (a,b,d,a04 e.2.1 (a01 d) 0,c,d,e,())))).bind fun z4=>cond ((decide (0≤z4.2.2.1))&&(decide (z4.2.2.1<(z4.2.2.2.2.2.2.1.2.1.length:Int)))) (some (.inl (z4.1,z4.2.1,z4.2.2.2.2.1,wrap .i64 (z4.2.2.2.2.2.1+1),(z4.2.2.2.2.2.2.1.1,a05 z4.2.2.2.2.2.2.1.2.1 (a01 z4.2.2.1) (v0s (v0r z4.2.2.2.1 (-1048576)) 1048576),z4.2.2.2.2.2.2.1.2.2),()))) none) none) none) (some (.inr (a,e,())))) s.1 s.2.1 s.2.2.1 s.2.2.2.1 s.2.2.2.2.1
def a2G(x:(Z23×Int)):Option Z23:=(a4s x.2).bind fun y1=>(show Option Z68 from(a1H x.1).bind fun y2=>cond (decide (y1 > y2.1)) (cond (decide (y2.2.1<0)) none (some (y1,A0n .i64 1 y2.2.1,y2.2,()))) (cond (decide (y1<y2.1)) (cond (decide (y2.2.1<0)) none (some (y1,wrap .i64 (0-(A0n .i64 1 y2.2.1)),y2.2,()))) (some (y1,0,y2.2,())))).bind fun z3=>(y0s a1W (z3.1,z3.2.1,(z3.2.2.1.2.2.1.length:Int),0,z3.2.2.1,())).bind fun w5=>cond (decide (1≤(w5.2.1.2.2.1.length:Int))) (cond (decide (0<(a02 (p0h w5.2.1.2.2.1 1 ((a02 w5.2.1.2.2.1)-1) w5.2.1.2.2.1):Int))) (some (w5.2.1.1,w5.2.1.2.1,a05 (p0h w5.2.1.2.2.1 1 ((a02 w5.2.1.2.2.1)-1) w5.2.1.2.2.1) 0 w5.1,w5.2.1.2.2.2)) none) none
def a8q:FSem:=⟨[.r false (.b Q12),.v QI],[],a2G⟩
def c8u:Hints:=⟨[(122,[1,4,36,37,.box pinned Q12,Qp 0 pinned,.ref 35 pinned [.snd,.snd,.fst]],[Qe 1 [1,.box pinned Q12,Qp 0 pinned]])],[(7,[Qn [1,4,.box pinned Q12,Qp 0 pinned]]),(15667,[Qn [1,4,6,8,36,37,.box pinned Q12,Qp 0 pinned,.ref 35 pinned [.snd,.snd,.fst]]])],[(17,[.p,.p,.q,.q,.q,.p,.p,.q,.q,.x])]⟩
def a4t(s:(Z6×Int×Int×Int×Z75)):Option ((Z6×Int×Int×Int×Z75) ⊕ ((Z6×Z15) ⊕ Z4)):=(fun(a b c:Int)(d:LI)=>cond (decide (c<b)) (cond ((decide (0≤c))&&(decide (c<(d.length:Int)))) ((a1H s.2.2.2.2.2.2.1).bind fun y6=>(a4Z (wrap .i64 ((a04 d (a01 c) 0)-y6.1))).bind fun y7=>cond (!y7) (some (.inr (Sum.inr ((6,[],()))))) ((a2G (y6.2,a04 d (a01 c) 0)).bind fun y8=>cond ((decide (0≤c))&&(decide (c<(d.length:Int)))) (some (.inl (s.1,s.2.1,a,b,wrap .i64 (c+1),a05 d (a01 c) (wrap .i64 ((a04 d (a01 c) 0)-y6.1)),y8,()))) none)) none) (some (.inr (Sum.inl (s.1,s.2.1,a,d,()))))) s.2.2.1 s.2.2.2.1 s.2.2.2.2.1 s.2.2.2.2.2.1
def a4u(s:(Z6×Z15)):Option ((Z6×Z15) ⊕ Z41):=(fun(a:Int)(b:LI)=>cond (decide (a<s.2.1)) ((m0k s.1 a).bind fun x4=>(a7q x4).bind fun y5=>cond (y5.2 != 0) (some (.inr (Sum.inr ((y5.2,[],()))))) ((y0s a4t (s.1,s.2.1,a,(b.length:Int),0,b,y5.1,())).bind fun w9=>match w9 with |.inl a10=>some (.inl (a10.1,a10.2.1,wrap .i64 (a10.2.2.1+1),a10.2.2.2.1,())) |.inr b11=>some (.inr (Sum.inr ((b11.1,b11.2.1,())))))) (some (.inr (Sum.inl (b,()))))) s.2.2.1 s.2.2.2.1
def a7U(x:(LI×Z6)):Option (LI×Int):=(a5Z x.2).bind fun y1=>cond (!y1) (some ([],1)) ((a4r x.1).bind fun y2=>cond (!y2) (some ([],6)) ((a0Y x.1).bind fun y3=>(y0s a4u (x.2,(x.2.length:Int),0,y3,())).bind fun w12=>match w12 with |.inl a13=>some (a13.1,0) |.inr b14=>some (b14.2.1,b14.1)))
def b8l:FSem:=⟨[.v QL,.v (.list false Q3)],[.o QI,.v QI],a7U⟩
def c8v:Hints:=⟨[(250,[.sv 22 (.list false Q3),23,24,.own 6 6 QI],[Qe 0 [.own 6 6 QI],Qr [5,.own 4 4 QI]]),(256414,[.sv 22 (.list false Q3),23,24,37,38,.own 6 6 QI,.box 1030 Q12,Qp 9 1030,.ref 36 6 []],[Qe 2 [.sv 22 (.list false Q3),23,24,.own 6 6 QI],Qr [5,.own 4 4 QI]])],[],[]⟩
def a8H(x:(Z94×LI)):Option (Int×Z94):=(show Option (LI×(LI×(Int×Z97)))from cond (x.1.1==2) ((a3M (x.2,x.1.2.2.1)).bind fun y1=>some (x.2,y1.1,y1.2,x.1,())) (cond (x.1.1==3) ((a5I (x.2,x.1.2.2.2.2.2.1,x.1.2.2.2.1)).bind fun y2=>some (x.2,y2.1,y2.2,x.1,())) (cond (x.1.1==4) ((a6b (x.2,x.1.2.2.2.2.1,x.1.2.2.2.2.2.2.1)).bind fun y3=>cond (y3.2==0) ((a5I (y3.1,x.1.2.2.2.2.2.1,x.1.2.2.2.1)).bind fun y4=>some (y3.1,y4.1,y4.2,x.1,())) (some (y3.1,[],y3.2,x.1,()))) (cond (x.1.1==5) ((a7U (x.2,x.1.2.2.2.2.2.2.2.1)).bind fun y5=>some (x.2,y5.1,y5.2,x.1,())) (some (x.2,[],0,x.1,())))))).bind fun z6=>cond (z6.2.2.1 != 0) (some (z6.2.2.1,z6.2.2.2.1)) ((a3L (z6.2.2.2.1,(z6.1.length:Int))).bind fun y7=>cond ((decide (0≤y7))&&(decide (y7≤(z6.1.length:Int)))) ((a0Y (a06 (a01 y7) z6.1)).bind fun y8=>some (0,z6.2.2.2.1.1,z6.2.2.2.1.2.1,z6.2.2.2.1.2.2.1,z6.2.2.2.1.2.2.2.1,z6.2.2.2.1.2.2.2.2.1,z6.2.2.2.1.2.2.2.2.2.1,z6.2.2.2.1.2.2.2.2.2.2.1,z6.2.2.2.1.2.2.2.2.2.2.2.1,y8,z6.2.2.2.1.2.2.2.2.2.2.2.2.2.1,z6.2.1,z6.2.2.2.1.2.2.2.2.2.2.2.2.2.2.2)) none)
def b9H:FSem:=⟨[.r false (.b Q31),.v QL],[.v QI],a8H⟩
def c8w:Hints:=⟨[],[(15,[Qn [.sv 1 QL,.sv 5 QL,6,.box pinned Q31,Qp 0 pinned]])],[(7,[.v,.p,.p,.q,.q,.p,.p,.q,.q,.x,.x,.q,.q,.q,.x]),(9,[.v,.p,.p,.q,.q,.p,.p,.q,.q,.x,.x,.q,.q,.q,.x]),(11,[.q,.p,.p,.q,.q,.p,.p,.q,.q,.x,.x,.q,.q,.q,.x])]⟩
def a6c(x:(Int×Int)):Option Bool:=cond (decide (1≤x.1)) (cond (decide (x.1≤4096)) (cond (decide (0≤x.2)) (some (decide (x.2≤x.1))) (some false)) (some false)) (some false)
def b9I:FSem:=⟨[.v QI,.v QI],[.v .bool],a6c⟩
def a5v(s:Z15):Option (Z15 ⊕ (LI×Unit)):=(fun(a:LI)=>cond (decide (s.1<0)) none (cond (decide ((a.length:Int)<(A0n .i64 1 s.1))) (cond (lim ((a02 a)+1)) (some (.inl (s.1,s.2.1,a03 a [s.2.1],()))) none) (some (.inr (a,()))))) s.2.2.1
def a2w(x:(Int×Int×Int)):Option LI:=(show Option Z22 from(a6c (x.2.1,x.2.2)).bind fun y1=>cond (!y1) (some (x.1,x.2.1,x.2.2,true,())) (cond (decide (x.1<0)) (some (x.1,x.2.1,x.2.2,true,())) (some (x.1,x.2.1,x.2.2,decide (x.1 > 8),())))).bind fun z2=>cond z2.2.2.2.1 (some []) (cond (decide (z2.1<0)) none ((show Option Z22 from cond (decide (z2.1<0)) none (cond ((A0n .i64 (A0o .i64 z2.2.1 z2.1) z2.1) != z2.2.1) (some (z2.1,z2.2.2.1,A0o .i64 z2.2.1 z2.1,true,())) (some (z2.1,z2.2.2.1,A0o .i64 z2.2.1 z2.1,decide ((A0o .i64 z2.2.1 z2.1)<z2.2.2.1),())))).bind fun z3=>cond z3.2.2.2.1 (some []) ((y0s a5v (z3.1,z3.2.2.1,[wrap .i64 (z3.2.2.1-z3.2.1)],())).bind fun w4=>some w4.1)))
def b7n:FSem:=⟨[.v QI,.v QI,.v QI],[.o QI],a2w⟩
def c8x:Hints:=⟨[(252,[0,7,.own 8 8 QI],[Qe 0 [.own 8 8 QI]])],[(6,[Qn [0,1,2,.sv 20 .bool]]),(30,[Qn [0,2,7,.sv 33 .bool]])],[]⟩
def a3D(s:Z14):Option Z61:=(fun(a:LI)(b c:Int)=>cond (decide (c<b)) ((m0k a c).bind fun x3=>(show Option Z32 from cond (decide (x3<0)) (some (a,b,c,x3 != 31,())) (cond (decide (x3 > 25)) (some (a,b,c,x3 != 31,())) (some (a,b,c,false,())))).bind fun z4=>cond z4.2.2.2.1 (some (.inr (Sum.inr ((false,()))))) (some (.inl (z4.1,z4.2.1,wrap .i64 (z4.2.2.1+1),())))) (some (.inr (Sum.inl ())))) s.1 s.2.1 s.2.2.1
def a7r(x:(Z4×Int×Int)):Option Bool:=(a2w (x.1.1,x.2.1,x.2.2)).bind fun y1=>(show Option (Bool×Z19)from cond ((y1.length:Int)==0) (some (true,x.1,())) (some ((x.1.2.1.length:Int) != (y1.length:Int),x.1,()))).bind fun z2=>cond z2.1 (some false) ((y0s a3D (z2.2.1.2.1,(z2.2.1.2.1.length:Int),0,())).bind fun w5=>match w5 with |.inl a6=>some true |.inr b7=>some b7.1)
def b9J:FSem:=⟨[.v Q7,.v QI,.v QI],[.v .bool],a7r⟩
def c8y:Hints:=⟨[(122,[.sv 27 QL,28,29],[Qe 0 [],Qr [.sv 6 .bool]])],[(14,[Qn [.sv 25 .bool,.vp 3 Q7]]),(7833,[Qn [.sv 27 QL,28,29,.sv 42 .bool]])],[]⟩
def a9N(s:Z14):Option Z61:=(fun(a b:Int)=>cond (decide (b<a)) ((m0k s.1 b).bind fun x3=>(show Option Z32 from cond (decide (x3<(-1073741824))) (some (s.1,a,b,true,())) (some (s.1,a,b,decide (x3≥1073741824),()))).bind fun z4=>cond z4.2.2.2.1 (some (.inr (Sum.inr ((false,()))))) (some (.inl (z4.1,z4.2.1,wrap .i64 (z4.2.2.1+1),())))) (some (.inr (Sum.inl ())))) s.2.1 s.2.2.1
def a5J(x:Z1):Option Bool:=(show Option (LI×(Bool×Unit))from(a6c (x.1,x.2.1)).bind fun y1=>cond (!y1) (some (x.2.2,true,())) (some (x.2.2,(x.2.2.length:Int) != (wrap .i64 (x.1-x.2.1)),()))).bind fun z2=>cond z2.2.1 (some false) ((y0s a9N (z2.1,(z2.1.length:Int),0,())).bind fun w5=>match w5 with |.inl a6=>some true |.inr b7=>some b7.1)
def b7o:FSem:=⟨[.v QI,.v QI,.v QL],[.v .bool],a5J⟩
def c8z:Hints:=⟨[(58,[.sv 21 QL,22,23],[Qe 0 [],Qr [.sv 6 .bool]])],[(6,[Qn [.sv 2 QL,.sv 20 .bool]]),(3737,[Qn [.sv 21 QL,22,23,.sv 32 .bool]])],[]⟩
def a9O(x:Int):Option Int:=(show Option (Int×Bool×Unit)from cond (decide (x<1)) (some (x,true,())) (some (x,decide (x > 31),()))).bind fun z1=>cond z1.2.1 (some 0) (cond (decide ((wrap .i64 (z1.1-1))<0)) none (some (A0n .i64 (-1) (wrap .i64 (z1.1-1)))))
def b8m:FSem:=⟨[.v QI],[.v QI],a9O⟩
def c8A:Hints:=⟨[],[(6,[Qn [0,.sv 8 .bool]])],[]⟩
def a9q(x:Int):Option Int:=(show Option (Int×Bool×Unit)from cond (decide (x<1)) (some (x,true,())) (some (x,decide (x > 31),()))).bind fun z1=>cond z1.2.1 (some 0) (cond (decide ((wrap .i64 (z1.1-1))<0)) none (some (wrap .i64 ((A0n .i64 1 (wrap .i64 (z1.1-1)))-1))))
def b7p:FSem:=⟨[.v QI],[.v QI],a9q⟩
def c8B:Hints:=⟨[],[(6,[Qn [0,.sv 8 .bool]])],[]⟩
def a3l(x:(Int×Int)):Option Bool:=cond (decide (x.2≥1)) (cond (decide (x.2≤31)) ((a9O x.2).bind fun y1=>cond (decide (y1≤x.1)) ((a9q x.2).bind fun y2=>some (decide (x.1≤y2))) (some false)) (some false)) (some false)
def b7q:FSem:=⟨[.v QI,.v QI],[.v .bool],a3l⟩
def a2t(s:Z43):Option (Z43 ⊕ Z27):=(fun(a b:Int)(c:LI)(d e:Int)=>cond (b != 0) (cond (decide (a<32)) ((a3l (b,a)).bind fun y2=>cond (!y2) (some (.inl (wrap .i64 (a+1),b,c,d,e,()))) (some (.inr (a,c,d,e,())))) (some (.inr (a,c,d,e,())))) (some (.inr (a,c,d,e,())))) s.1 s.2.1 s.2.2.1 s.2.2.2.1 s.2.2.2.2.1
def a4O(s:Z27):Option Z58:=(fun(a b:Int)=>cond (decide (b<a)) ((m0k s.2.1 b).bind fun x1=>(y0s a2t (s.1,x1,s.2.1,a,b,())).bind fun w3=>some (.inl (w3.1,w3.2.1,w3.2.2.1,wrap .i64 (w3.2.2.2.1+1),()))) (some (.inr (s.1,())))) s.2.2.1 s.2.2.2.1
def a1j(x:LI):Option Int:=(y0s a4O (0,x,(x.length:Int),0,())).bind fun w4=>some w4.1
def b5T:FSem:=⟨[.v QL],[.v QI],a1j⟩
def c8C:Hints:=⟨[(58,[3,.sv 6 QL,7,8],[Qe 0 [3]]),(7474,[3,5,.sv 6 QL,7,8],[Qe 2 [3,.sv 6 QL,7,8]])],[],[]⟩
def a4J(x:LI):Option Int:=(a1j x).bind fun y1=>some (wrap .i64 (5+(wrap .i64 (y1*(x.length:Int)))))
def b9K:FSem:=⟨[.v QL],[.v QI],a4J⟩
def a1D(x:Int):Option Bool:=cond (decide (0≤x)) (some (decide (x≤25))) (some false)
def b4f:FSem:=⟨[.v QI],[.v .bool],a1D⟩
def a6d(x:Int):Option Bool:=cond (decide ((-1073741824)≤x)) (some (decide (x<1073741824))) (some false)
def b9L:FSem:=⟨[.v QI],[.v .bool],a6d⟩
def a7s(x:Int):Option Int:=(a6d x).bind fun y1=>cond (!y1) (some 0) (cond (decide (x≥0)) (some (wrap .u64 (wrap .i64 (2*x)))) (some (wrap .u64 (wrap .i64 ((wrap .i64 ((-2)*x))-1)))))
def b9M:FSem:=⟨[.v QI],[.v QU],a7s⟩
def a6e(x:(Int×Int)):Option Int:=(show Option Z9 from(a1D x.1).bind fun y1=>cond (!y1) (some (x.1,x.2,true,())) ((a6d x.2).bind fun y2=>some (x.1,x.2,!y2,()))).bind fun z3=>cond z3.2.2.1 (some 0) ((a7s z3.2.1).bind fun y4=>cond (decide (z3.1<0)) none (cond (decide ((wrap .i64 (A0o .u64 y4 z3.1))<32)) (some (wrap .i64 ((wrap .i64 ((wrap .i64 (A0o .u64 y4 z3.1))+1))+z3.1))) (some 65)))
def b9N:FSem:=⟨[.v QI,.v QI],[.v QI],a6e⟩
def c8D:Hints:=⟨[],[(6,[Qn [0,1,.sv 13 .bool]])],[]⟩
def a3m(s:Z43):Option (Z43 ⊕ (Int×Unit)):=(fun(a:LI)(b c:Int)=>cond (decide (c<b)) ((m0k a c).bind fun x1=>(a6e (s.1,x1)).bind fun y2=>some (.inl (s.1,wrap .i64 (s.2.1+y2),a,b,wrap .i64 (c+1),()))) (some (.inr (s.2.1,())))) s.2.2.1 s.2.2.2.1 s.2.2.2.2.1
def a2N(x:(Int×LI)):Option Int:=(y0s a3m (x.1,0,x.2,(x.2.length:Int),0,())).bind fun w3=>some w3.1
def c1H:FSem:=⟨[.v QI,.v QL],[.v QI],a2N⟩
def c8E:Hints:=⟨[(58,[0,5,.sv 8 QL,9,10],[Qe 0 [5]])],[],[]⟩
def a1l(s:(LI×(Int×(Int×(Int×(LI×Z19)))))):Option ((LI×(Int×(Int×(Int×(LI×Z19))))) ⊕ (Int×Unit)):=(fun(a:LI)(b c d:Int)(e:LI)(f:Z4)=>cond (decide (d<c)) (cond ((decide (0≤d))&&(decide (d<(e.length:Int)))) (cond ((decide (0≤(a04 e (a01 d) 0)))&&(decide ((a04 e (a01 d) 0)≤(a.length:Int)))) (cond ((decide (0≤(a04 e (a01 d) 0)))&&(decide ((a04 e (a01 d) 0)≤(a.length:Int)))) ((m0k f.2.1 d).bind fun x5=>cond (x5==31) ((a4J (a06 (a01 (a04 e (a01 d) 0)) a)).bind fun y6=>some (.inl (a23 (a01 (a04 e (a01 d) 0)) (a06 (a02 a) a),wrap .i64 (b+(wrap .i64 (5+y6))),c,wrap .i64 (d+1),e,f,()))) ((m0k f.2.1 d).bind fun x7=>(a2N (x7,a06 (a01 (a04 e (a01 d) 0)) a)).bind fun y8=>some (.inl (a23 (a01 (a04 e (a01 d) 0)) (a06 (a02 a) a),wrap .i64 (b+(wrap .i64 (5+y8))),c,wrap .i64 (d+1),e,f,())))) none) none) none) (some (.inr (b,())))) s.1 s.2.1 s.2.2.1 s.2.2.2.1 s.2.2.2.2.1 s.2.2.2.2.2.1
def a3P(x:(Z4×Z1)):Option Int:=(show Option (Int×(Int×(LI×(Bool×Z19))))from(a7r (x.1,x.2.1,x.2.2.1)).bind fun y1=>cond (!y1) (some (x.2.1,x.2.2.1,x.2.2.2,true,x.1,())) ((a5J (x.2.1,x.2.2.1,x.2.2.2)).bind fun y2=>some (x.2.1,x.2.2.1,x.2.2.2,!y2,x.1,()))).bind fun z3=>cond z3.2.2.2.1 (some 0) ((a2w (z3.2.2.2.2.1.1,z3.1,z3.2.1)).bind fun y4=>(y0s a1l (z3.2.2.1,4,(y4.length:Int),0,y4,z3.2.2.2.2.1,())).bind fun w9=>some w9.1)
def b8n:FSem:=⟨[.v Q7,.v QI,.v QI,.v QL],[.v QI],a3P⟩
def c8F:Hints:=⟨[(122,[.sv 3 QL,9,30,31,.own 29 1029 QI,.vp 4 Q7],[Qe 0 [9]])],[(6,[Qn [1,2,.sv 3 QL,.sv 24 .bool,.vp 4 Q7]])],[]⟩
def a6L(s:Z29):Option (Z29 ⊕ (Int×Unit)):=(fun(a b:Int)=>cond (decide (b≤25)) ((a2N (b,s.1)).bind fun y2=>cond (decide (y2<a)) (some (.inl (s.1,b,y2,wrap .i64 (b+1),()))) (some (.inl (s.1,s.2.1,a,wrap .i64 (b+1),())))) (some (.inr (s.2.1,())))) s.2.2.1 s.2.2.2.1
def a8I(x:LI):Option Int:=(a2N (0,x)).bind fun y1=>(y0s a6L (x,0,y1,1,())).bind fun w3=>some w3.1
def b9O:FSem:=⟨[.v QL],[.v QI],a8I⟩
def c8G:Hints:=⟨[(58,[.sv 0 QL,3,4,5],[Qe 0 [3]])],[],[]⟩
def a6M(x:LI):Option Int:=(a8I x).bind fun y1=>(a4J x).bind fun y2=>(a2N (y1,x)).bind fun y3=>cond (decide (y2<y3)) (some 31) (some y1)
def b5U:FSem:=⟨[.v QL],[.v QI],a6M⟩
def a6n(s:(Int×(Int×(Int×(LI×(Int×(Int×(LI×(Int×(Int×(LI×Z86))))))))))):Option ((Int×(Int×(Int×(LI×(Int×(Int×(LI×(Int×(Int×(LI×Z86)))))))))) ⊕ (Int×(Int×(Int×(LI×(Int×Int×Z86)))))):=(fun(a:Int)(b:LI)(c d:Int)(e:LI)(f g:Int)(h:LI)(i j k:Z4)=>cond (decide (g<f)) (cond ((decide (0≤g))&&(decide (g<(h.length:Int)))) (cond ((decide (0≤(a04 h (a01 g) 0)))&&(decide ((a04 h (a01 g) 0)≤(e.length:Int)))) ((a6M (a06 (a01 (a04 h (a01 g) 0)) e)).bind fun y3=>cond (lim ((a02 k.2.1)+1)) (cond ((decide (0≤(a04 h (a01 g) 0)))&&(decide ((a04 h (a01 g) 0)≤(e.length:Int)))) (some (.inl (s.1,s.2.1,a,b,c,d,a23 (a01 (a04 h (a01 g) 0)) (a06 (a02 e) e),f,wrap .i64 (g+1),h,i,j,(k.1,a03 k.2.1 [y3],k.2.2),()))) none) none) none) none) (some (.inr (s.1,s.2.1,a,b,c,d,i,j,k,())))) s.2.2.1 s.2.2.2.1 s.2.2.2.2.1 s.2.2.2.2.2.1 s.2.2.2.2.2.2.1 s.2.2.2.2.2.2.2.1 s.2.2.2.2.2.2.2.2.1 s.2.2.2.2.2.2.2.2.2.1 s.2.2.2.2.2.2.2.2.2.2.1 s.2.2.2.2.2.2.2.2.2.2.2.1 s.2.2.2.2.2.2.2.2.2.2.2.2.1
def a3f(s:(Int×(Int×(Int×(LI×(Int×Int×Z71)))))):Option ((Int×(Int×(Int×(LI×(Int×Int×Z71))))) ⊕ Z71):=(fun(a b:Int)(c:LI)(d e:Int)(f g:Z4)=>cond (decide (e≤(v0s (v0r b 0) 8))) ((a2w (e,s.1,a)).bind fun y2=>cond ((y2.length:Int)==0) (some (.inl (s.1,a,b,c,d,wrap .i64 (e+1),f,g,()))) ((y0s a6n (s.1,a,b,c,d,e,c,(y2.length:Int),0,y2,f,g,(e,[],()),())).bind fun w4=>(a3P (w4.2.2.2.2.2.2.2.2.1,w4.1,w4.2.1,w4.2.2.2.1)).bind fun y5=>(show Option (Int×(Int×(Int×(LI×(Int×Int×Int×Bool×Z86)))))from cond (w4.2.2.2.2.1==0) (some (w4.1,w4.2.1,w4.2.2.1,w4.2.2.2.1,w4.2.2.2.2.1,w4.2.2.2.2.2.1,y5,true,w4.2.2.2.2.2.2.1,w4.2.2.2.2.2.2.2.1,w4.2.2.2.2.2.2.2.2.1,())) (some (w4.1,w4.2.1,w4.2.2.1,w4.2.2.2.1,w4.2.2.2.2.1,w4.2.2.2.2.2.1,y5,decide (y5<w4.2.2.2.2.1),w4.2.2.2.2.2.2.1,w4.2.2.2.2.2.2.2.1,w4.2.2.2.2.2.2.2.2.1,()))).bind fun z6=>cond z6.2.2.2.2.2.2.2.1 (some (.inl (z6.1,z6.2.1,z6.2.2.1,z6.2.2.2.1,z6.2.2.2.2.2.2.1,wrap .i64 (z6.2.2.2.2.2.1+1),z6.2.2.2.2.2.2.2.2.1,z6.2.2.2.2.2.2.2.2.2.2.1,()))) (some (.inl (z6.1,z6.2.1,z6.2.2.1,z6.2.2.2.1,z6.2.2.2.2.1,wrap .i64 (z6.2.2.2.2.2.1+1),z6.2.2.2.2.2.2.2.2.1,z6.2.2.2.2.2.2.2.2.2.1,()))))) (some (.inr (f,g,())))) s.2.1 s.2.2.1 s.2.2.2.1 s.2.2.2.2.1 s.2.2.2.2.2.1 s.2.2.2.2.2.2.1 s.2.2.2.2.2.2.2.1
def a7V(x:(Int×Z1)):Option (Z4×Int):=(a5J (x.1,x.2.1,x.2.2.2)).bind fun y1=>cond (!y1) (some ((0,[],()),1)) ((y0s a3f (x.1,x.2.1,x.2.2.1,x.2.2.2,0,0,(0,[],()),(0,[],()),())).bind fun w7=>some (w7.2.1,0))
def b8o:FSem:=⟨[.v QI,.v QI,.v QI,.v QL],[.v Q7,.v QI],a7V⟩
def c8H:Hints:=⟨[(250,[0,1,2,.sv 3 QL,11,12,.box 8 Q7,.box 10 Q7,Qp 8 8,Qp 10 10],[Qe 0 [.box 8 Q7,.box 10 Q7,Qp 8 8,Qp 10 10]]),(512634,[0,1,2,.sv 3 QL,11,12,.sv 15 QL,43,44,.own 42 13 QI,.box 8 Q7,.box 10 Q7,.box 14 Q6,Qp 8 8,Qp 10 10,Qp 14 14],[Qe 2 [0,1,2,.sv 3 QL,11,12,.box 8 Q7,.box 10 Q7,.box 14 Q6,Qp 8 8,Qp 10 10,Qp 14 14]])],[(256319,[Qn [0,1,2,.sv 3 QL,11,12,18,.sv 72 .bool,.box 8 Q7,.box 10 Q7,.box 14 Q7,Qp 8 8,Qp 10 10,Qp 14 14]])],[(15,[.q,.q,.v,.v,.v,.v,.q,.x,.x,.x])]⟩
def a4l(s:(LI×(LI×c1C))):Option ((LI×(LI×c1C)) ⊕ ((LI×a9p) ⊕ (Int×Z97))):=(fun(a b:Int)(c d:Z94)=>cond (decide (b<a)) ((m0k s.2.1 b).bind fun x5=>(m0k s.1 0).bind fun x6=>cond (x5 != x6) (some (.inr (Sum.inr ((7,(0,0,0,0,0,[],a00 3 0,[],[],(0,[],()),[],()),()))))) (some (.inl (s.1,s.2.1,a,wrap .i64 (b+1),c,d,())))) (some (.inr (Sum.inl (s.1,c,d,()))))) s.2.2.1 s.2.2.2.1 s.2.2.2.2.1 s.2.2.2.2.2.1
def a9t(x:(Int×(LI×Z94))):Option Z96:=(show Option (Int×(LI×(Int×Bool×a9p)))from cond (decide ((x.2.1.length:Int)<1)) (some (x.1,x.2.1,(x.2.1.length:Int),true,(0,0,0,0,0,[],a00 3 0,[],[],(0,[],()),[],()),x.2.2,())) (cond (decide ((x.2.1.length:Int) > 4096)) (some (x.1,x.2.1,(x.2.1.length:Int),true,(0,0,0,0,0,[],a00 3 0,[],[],(0,[],()),[],()),x.2.2,())) ((a6u (x.1,x.2.2,(x.2.1.length:Int))).bind fun y1=>some (x.1,x.2.1,(x.2.1.length:Int),!y1,(0,0,0,0,0,[],a00 3 0,[],[],(0,[],()),[],()),x.2.2,())))).bind fun z2=>cond z2.2.2.2.1 (some ((0,0,0,0,0,[],a00 3 0,[],[],(0,[],()),[],()),1)) ((a1Y z2.2.1).bind fun y3=>cond (!y3) (some ((0,0,0,0,0,[],a00 3 0,[],[],(0,[],()),[],()),6)) ((a4X (z2.1,z2.2.2.2.2.2.1)).bind fun y4=>cond (z2.1==0) ((y0s a4l (z2.2.1,z2.2.1,(z2.2.1.length:Int),0,z2.2.2.2.2.1,y4,())).bind fun w7=>match w7 with |.inl a8=>((m0k a8.1 0).bind fun x10=>some ((a8.2.2.1.1,a8.2.2.1.2.1,a8.2.2.1.2.2.1,a8.2.2.1.2.2.2.1,a8.2.2.1.2.2.2.2.1,a8.2.2.1.2.2.2.2.2.1,a8.2.2.1.2.2.2.2.2.2.1,a8.2.2.1.2.2.2.2.2.2.2.1,[x10],a8.2.2.1.2.2.2.2.2.2.2.2.2),0)) |.inr b9=>some (b9.2.1,b9.1)) ((a3e z2.2.1).bind fun y11=>(a5F (z2.2.1,y11)).bind fun y12=>cond (y12.2 != 0) (some ((0,0,0,0,0,[],a00 3 0,[],[],(0,[],()),[],()),6)) (cond (z2.1==1) (some ((y4.1,y11,y4.2.2.1,y4.2.2.2.1,y4.2.2.2.2.1,y4.2.2.2.2.2.1,y4.2.2.2.2.2.2.1,y4.2.2.2.2.2.2.2.1,y12.1,y4.2.2.2.2.2.2.2.2.2),0)) ((a8H ((y4.1,y11,y4.2.2),y12.1)).bind fun y13=>cond (y13.1 != 0) (some ((0,0,0,0,0,[],a00 3 0,[],[],(0,[],()),[],()),6)) ((a7V (z2.2.2.1,(y13.2.2.2.2.2.2.2.2.2.1.length:Int),6,y13.2.2.2.2.2.2.2.2.2.2.2.1)).bind fun y14=>cond (y14.2 != 0) (some ((0,0,0,0,0,[],a00 3 0,[],[],(0,[],()),[],()),6)) (some ((y13.2.1,y13.2.2.1,y13.2.2.2.1,y13.2.2.2.2.1,y13.2.2.2.2.2.1,y13.2.2.2.2.2.2.1,y13.2.2.2.2.2.2.2.1,y13.2.2.2.2.2.2.2.2.1,y13.2.2.2.2.2.2.2.2.2.1,y14.1,y13.2.2.2.2.2.2.2.2.2.2.2),0))))))))
def c1I:FSem:=⟨[.v QI,.v QL,.v Q31],[.v Q31,.v QI],a9t⟩
def H58:Hints:=⟨[(4050,[.sv 1 QL,.sv 39 QL,40,41,.box 6 Q31,.box 9 Q31,Qp 6 6,Qp 9 9],[Qe 0 [.sv 1 QL,.box 6 Q31,.box 9 Q31,Qp 6 6,Qp 9 9],Qr [7,.box 6 Q31,Qp 6 6]])],[(14,[Qn [0,.sv 1 QL,8,.sv 28 .bool,.box 6 Q31,.vp 5 Q31,Qp 6 6]])],[]⟩
def a5a(x:Int):Option Bool:=cond (x != 0) (some (x != 1)) (some false)
def b8p:FSem:=⟨[.v QI],[.v .bool],a5a⟩
def a8J(x:Z94):Option Bool:=(a4X (x.1,x)).bind fun y1=>cond (x.2.2.1==y1.2.2.1) (cond (x.2.2.2.1==y1.2.2.2.1) (cond (x.2.2.2.2.1==y1.2.2.2.2.1) (cond (eqT (.arr 3 (.int .i64)) x.2.2.2.2.2.2.1 y1.2.2.2.2.2.2.1) (cond ((x.2.2.2.2.2.1.length:Int)==(y1.2.2.2.2.2.1.length:Int)) (some ((x.2.2.2.2.2.2.2.1.length:Int)==(y1.2.2.2.2.2.2.2.1.length:Int))) (some false)) (some false)) (some false)) (some false)) (some false)
def b9P:FSem:=⟨[.v Q31],[.v .bool],a8J⟩
def a7W(x:Z96):Option Bool:=(show Option b8c from cond (decide (x.2<1)) (some (x.2,true,x.1,())) (cond (decide (x.2 > 4096)) (some (x.2,true,x.1,())) ((a6u (x.1.1,x.1,x.2)).bind fun y1=>cond (!y1) (some (x.2,true,x.1,())) ((a8J x.1).bind fun y2=>some (x.2,!y2,x.1,()))))).bind fun z3=>cond z3.2.1 (some false) ((show Option b8c from cond (decide (z3.2.2.1.2.1<0)) (some (z3.1,true,z3.2.2.1,())) (cond (decide (z3.2.2.1.2.1 > 30)) (some (z3.1,true,z3.2.2.1,())) (cond (z3.2.2.1.1==0) (some (z3.1,z3.2.2.1.2.1 != 0,z3.2.2.1,())) (some (z3.1,false,z3.2.2.1,()))))).bind fun z4=>cond z4.2.1 (some false) ((a3L (z4.2.2.1,z4.1)).bind fun y5=>(show Option (Int×b8c)from cond ((z4.2.2.1.2.2.2.2.2.2.2.2.1.length:Int) != y5) (some (z4.1,y5,true,z4.2.2.1,())) ((a1Y z4.2.2.1.2.2.2.2.2.2.2.2.1).bind fun y6=>cond (!y6) (some (z4.1,y5,true,z4.2.2.1,())) ((a1Y z4.2.2.1.2.2.2.2.2.2.2.2.2.2.1).bind fun y7=>some (z4.1,y5,!y7,z4.2.2.1,())))).bind fun z8=>cond z8.2.2.1 (some false) ((a5a z8.2.2.2.1.1).bind fun y9=>cond (!y9) (cond ((z8.2.2.2.1.2.2.2.2.2.2.2.2.2.2.1.length:Int)==0) (cond (z8.2.2.2.1.2.2.2.2.2.2.2.2.2.1.1==0) (some ((z8.2.2.2.1.2.2.2.2.2.2.2.2.2.1.2.1.length:Int)==0)) (some false)) (some false)) (cond ((z8.2.2.2.1.2.2.2.2.2.2.2.2.2.2.1.length:Int)==(wrap .i64 (z8.1-z8.2.1))) ((a7r (z8.2.2.2.1.2.2.2.2.2.2.2.2.2.1,z8.1,z8.2.1)).bind fun y10=>some y10) (some false)))))
def b8q:FSem:=⟨[.v Q31,.v QI],[.v .bool],a7W⟩
def H75:Hints:=⟨[],[(6,[Qn [1,.sv 24 .bool,.vp 2 Q31]]),(14,[Qn [1,.sv 42 .bool,.vp 2 Q31]]),(62,[Qn [1,5,.sv 62 .bool,.vp 2 Q31]])],[]⟩
def a1b(x:(Int×LI)):Option (Int×LI):=(m0k x.2 (wrap .i64 ((x.2.length:Int)-x.1))).bind fun x1=>some (x1,x.2)
def b4F:FSem:=⟨[.v QI,.r false (.b QL)],[.v QI],a1b⟩
def a7x(x:(LI×Int)):Option Int:=cond (x.2==1) ((a1b (1,x.1)).bind fun y1=>some y1.1) (cond (x.2==2) ((a1b (1,x.1)).bind fun y2=>(a1b (2,y2.2)).bind fun y3=>some (wrap .i64 ((wrap .i64 (2*y2.1))-y3.1))) (cond (x.2==3) ((a1b (1,x.1)).bind fun y4=>(a1b (2,y4.2)).bind fun y5=>(a1b (3,y5.2)).bind fun y6=>some (wrap .i64 ((wrap .i64 ((wrap .i64 (3*y4.1))-(wrap .i64 (3*y5.1))))+y6.1))) (cond (x.2==4) ((a1b (1,x.1)).bind fun y7=>(a1b (2,y7.2)).bind fun y8=>(a1b (3,y8.2)).bind fun y9=>(a1b (4,y9.2)).bind fun y10=>some (wrap .i64 ((wrap .i64 ((wrap .i64 ((wrap .i64 (4*y7.1))-(wrap .i64 (6*y8.1))))+(wrap .i64 (4*y9.1))))-y10.1))) (some 0))))
def b7r:FSem:=⟨[.v QL,.v QI],[.v QI],a7x⟩
def a6o(s:Z53):Option (Z53 ⊕ Z41):=(fun(a b:Int)(c:LI)=>cond (decide (b<a)) ((m0k s.2.1 b).bind fun x5=>(a7x (c,s.1)).bind fun y6=>(a2l [wrap .i64 (x5+y6)]).bind fun y7=>cond (!y7) (some (.inr (Sum.inr ((6,[],()))))) (cond (lim ((a02 c)+1)) (some (.inl (s.1,s.2.1,a,wrap .i64 (b+1),a03 c [wrap .i64 (x5+y6)],()))) none)) (some (.inr (Sum.inl (c,()))))) s.2.2.1 s.2.2.2.1 s.2.2.2.2.1
def a7X(x:Z10):Option (LI×Int):=(show Option Z44 from cond (decide (x.2.2<0)) (some (x.1,x.2.1,x.2.2,true,())) (cond (decide (x.2.2 > 4)) (some (x.1,x.2.1,x.2.2,true,())) (some (x.1,x.2.1,x.2.2,(x.1.length:Int) != x.2.2,())))).bind fun z1=>cond z1.2.2.2.1 (some ([],1)) ((show Option Z44 from(a2l z1.1).bind fun y2=>cond (!y2) (some (z1.1,z1.2.1,z1.2.2.1,true,())) ((a2l z1.2.1).bind fun y3=>some (z1.1,z1.2.1,z1.2.2.1,!y3,()))).bind fun z4=>cond z4.2.2.2.1 (some ([],6)) (cond (lim (a02 z4.1)) ((y0s a6o (z4.2.2.1,z4.2.1,(z4.2.1.length:Int),0,z4.1,())).bind fun w8=>match w8 with |.inl a9=>some (a9.1,0) |.inr b10=>some (b10.2.1,b10.1)) none))
def b8r:FSem:=⟨[.v QL,.v QL,.v QI],[.o QI,.v QI],a7X⟩
def c8I:Hints:=⟨[(250,[2,.sv 34 QL,35,36,.own 8 8 QI],[Qe 0 [.own 8 8 QI],Qr [7,.own 6 6 QI]])],[(6,[Qn [.sv 0 QL,.sv 1 QL,2,.sv 23 .bool]]),(14,[Qn [.sv 0 QL,.sv 1 QL,2,.sv 31 .bool]])],[]⟩
def a5w(s:(LI×Z53)):Option ((LI×Z53) ⊕ Z41):=(fun(a:LI)(b c:Int)(d:LI)=>cond (decide (c<b)) ((m0k a c).bind fun x6=>(a3N (d,s.1,s.2.1)).bind fun y7=>(a4k (wrap .i64 (y7+x6))).bind fun y8=>cond (!y8) (some (.inr (Sum.inr ((6,[],()))))) (cond (lim ((a02 d)+1)) (some (.inl (s.1,s.2.1,a,b,wrap .i64 (c+1),a03 d [wrap .i64 (y7+x6)],()))) none)) (some (.inr (Sum.inl (d,()))))) s.2.2.1 s.2.2.2.1 s.2.2.2.2.1 s.2.2.2.2.2.1
def a5K(x:(LI×Z10)):Option (LI×Int):=(show Option (LI×Z44)from(a3K (x.2.2.1,x.2.2.2)).bind fun y1=>cond (!y1) (some (x.1,x.2.1,x.2.2.1,x.2.2.2,true,())) (some (x.1,x.2.1,x.2.2.1,x.2.2.2,(x.1.length:Int) != (x.2.2.1.length:Int),()))).bind fun z2=>cond z2.2.2.2.2.1 (some ([],1)) ((show Option (LI×Z44)from(a2f z2.1).bind fun y3=>cond (!y3) (some (z2.1,z2.2.1,z2.2.2.1,z2.2.2.2.1,true,())) ((a2f z2.2.1).bind fun y4=>some (z2.1,z2.2.1,z2.2.2.1,z2.2.2.2.1,!y4,()))).bind fun z5=>cond z5.2.2.2.2.1 (some ([],6)) (cond ((decide (0≤(wrap .i64 ((z5.1.length:Int)+(z5.2.1.length:Int)))))&&(lim (a01 (wrap .i64 ((z5.1.length:Int)+(z5.2.1.length:Int)))))) (cond (lim (0+(a02 z5.1))) ((y0s a5w (z5.2.2.1,z5.2.2.2.1,z5.2.1,(z5.2.1.length:Int),0,a03 [] z5.1,())).bind fun w9=>match w9 with |.inl a10=>some (a10.1,0) |.inr b11=>some (b11.2.1,b11.1)) none) none))
def b7s:FSem:=⟨[.v QL,.v QL,.v QL,.v QI],[.o QI,.v QI],a5K⟩
def c8J:Hints:=⟨[(506,[.sv 2 QL,3,.sv 42 QL,43,44,.own 10 10 QI],[Qe 0 [.own 10 10 QI],Qr [9,.own 8 8 QI]])],[(6,[Qn [.sv 0 QL,.sv 1 QL,.sv 2 QL,3,.sv 24 .bool]]),(14,[Qn [.sv 0 QL,.sv 1 QL,.sv 2 QL,3,.sv 32 .bool]])],[]⟩
def a6N(s:Z74):Option (Z74 ⊕ Z41):=(fun(a b:Int)(c d:LI)=>cond (decide (b<a)) ((m0k s.2.1 b).bind fun x3=>(a3C (c,b,s.1,d)).bind fun y4=>(a6a (wrap .i64 (x3+y4))).bind fun y5=>cond (!y5) (some (.inr (Sum.inr ((6,[],()))))) (cond (lim ((a02 c)+1)) (some (.inl (s.1,s.2.1,a,wrap .i64 (b+1),a03 c [wrap .i64 (x3+y4)],d,()))) none)) (some (.inr (Sum.inl (c,()))))) s.2.2.1 s.2.2.2.1 s.2.2.2.2.1 s.2.2.2.2.2.1
def a8K(x:(LI×(Int×LI))):Option (LI×Int):=(a6K (x.2.1,x.2.2)).bind fun y1=>cond (!y1) (some ([],1)) ((a3B x.1).bind fun y2=>cond (!y2) (some ([],6)) (cond ((decide (0≤(x.1.length:Int)))&&(lim (a01 (x.1.length:Int)))) ((y0s a6N (x.2.1,x.1,(x.1.length:Int),0,[],x.2.2,())).bind fun w6=>match w6 with |.inl a7=>some (a7.1,0) |.inr b8=>some (b8.2.1,b8.1)) none))
def b9Q:FSem:=⟨[.v QL,.v QI,.v (.arr 3 QI)],[.o QI,.v QI],a8K⟩
def c8K:Hints:=⟨[(250,[1,.sv 22 QL,23,24,.own 8 8 QI,.vp 5 (.arr 3 QI)],[Qe 0 [.own 8 8 QI],Qr [7,.own 6 6 QI]])],[],[]⟩
def a4v(s:(Int×(Int×(LI×Z75)))):Option ((Int×(Int×(LI×Z75))) ⊕ (Z24 ⊕ Z24)):=(fun(a:Int)(b:LI)(c:Int)(d:LI)=>cond (decide (a<s.1)) (cond ((decide (0≤a))&&(decide (a<(d.length:Int)))) ((a1H s.2.2.2.2.2.1).bind fun y6=>(a4Z (wrap .i64 (y6.1+(a04 d (a01 a) 0)))).bind fun y7=>cond (!y7) (some (.inr (Sum.inr (([],6,d,()))))) ((a2G (y6.2,wrap .i64 (y6.1+(a04 d (a01 a) 0)))).bind fun y8=>cond ((decide (0≤a))&&(decide (a<(d.length:Int)))) (some (.inl (s.1,wrap .i64 (a+1),b,c,a05 d (a01 a) (wrap .i64 (y6.1+(a04 d (a01 a) 0))),y8,()))) none)) none) (some (.inr (Sum.inl (b,c,d,()))))) s.2.1 s.2.2.1 s.2.2.2.1 s.2.2.2.2.1
def a6p(k:Int)(v:(Int×Int×Unit))(s:(Z6×Z24)):Option ((Z6×Z24) ⊕ (Ex×Z6×Z24)):=(a7q v).bind fun y4=>cond (y4.2 != 0) (some (.inr (.ret,s.1,[],y4.2,s.2.2.2.1,()))) ((y0s a4v ((s.2.2.2.1.length:Int),0,s.2.1,s.2.2.1,s.2.2.2.1,y4.1,())).bind fun w9=>match w9 with |.inl a10=>some (.inl (s.1,a10.1,a10.2.1,a10.2.2.1,())) |.inr b11=>some (.inr (.ret,s.1,b11.1,b11.2.1,b11.2.2.1,())))
def a7Y(x:(LI×Z6)):Option (LI×Int):=(a5Z x.2).bind fun y1=>cond (!y1) (some ([],1)) ((a4r x.1).bind fun y2=>cond (!y2) (some ([],6)) ((a0Y x.1).bind fun y3=>cond (lim (a02 x.2)) ((l0f a6p x.2 (a02 x.2) (x.2,[],0,y3,())).bind fun w12=>match w12 with |.inl a13=>some (a13.2.2.2.1,0) |.inr (.normal,a14)=>some (a14.2.2.2.1,0) |.inr (.exit e15,a14)=>(cond (e15==0) (some (a14.2.2.2.1,0)) none) |.inr (.ret,a14)=>some (a14.2.1,a14.2.2.1)) none))
def a7Z:FSem:=⟨[.v QL,.v (.list false Q3)],[.v QL,.v QI],a7Y⟩
def c8L:Hints:=⟨[(8046,[35,36,.box 1001004 QL,.box 1001005 QI,.box 1001006 (.list true QI),.box 1028 Q12,Qp 4 1001004,Qp 5 1001005,Qp 6 1001006,Qp 9 1028,.ref 34 1001006 []],[Qe 2 [.box 1001004 QL,.box 1001005 QI,.box 1001006 (.list true QI),Qp 4 1001004,Qp 5 1001005,Qp 6 1001006],Qr [.box 1001004 QL,.box 1001005 QI,.box 1001006 (.list true QI),Qp 4 1001004,Qp 5 1001005,Qp 6 1001006]])],[],[]⟩
def c4S:Cx:=b2S [(192,a1y),(201,b3H),(247,b0L),(249,b3I),(250,a7T),(251,b2U),(252,a8q)] [(6,.list true QI)] 15875 72057594037927936
def c5Y:HintR:=⟨22,Q3,248,291,[4,5,6],[.sv 22 (.list false Q3),.box 1001004 QL,.box 1001005 QI,.box 1001006 (.list true QI),.ptr 4 1001004 [],.ptr 5 1001005 [],.ptr 6 1001006 []]⟩
theorem c6J(x):z0h c4S c8L c5Y Tryz.f162 a7Z.ps a7Z.rs x=a7Z.F x:=by kernel_rfl
def a6O(s:Z53):Option (Z53 ⊕ Z41):=(fun(a:Int)(b:LI)(c d:Int)(e:LI)=>cond (decide (d<c)) ((m0k b d).bind fun x2=>(show Option (Int×(Int×(LI×(Int×Int×Z7))))from(a4j x2).bind fun y3=>cond (!y3) (some (a,x2,b,c,d,true,e,())) (cond (decide (a<0)) none ((a4j (A0n .i64 x2 a)).bind fun y4=>some (a,x2,b,c,d,!y4,e,())))).bind fun z5=>cond z5.2.2.2.2.2.1 (some (.inr (Sum.inr ((6,[],()))))) (cond (decide (z5.1<0)) none (cond (lim ((a02 z5.2.2.2.2.2.2.1)+1)) (some (.inl (z5.1,z5.2.2.1,z5.2.2.2.1,wrap .i64 (z5.2.2.2.2.1+1),a03 z5.2.2.2.2.2.2.1 [A0n .i64 z5.2.1 z5.1],()))) none))) (some (.inr (Sum.inl (e,()))))) s.1 s.2.1 s.2.2.1 s.2.2.2.1 s.2.2.2.2.1
def a7t(x:(LI×Int)):Option (LI×Int):=(show Option Z18 from cond (decide (x.2<0)) (some (x.1,x.2,true,())) (some (x.1,x.2,decide (x.2 > 30),()))).bind fun z1=>cond z1.2.2.1 (some ([],1)) ((y0s a6O (z1.2.1,z1.1,(z1.1.length:Int),0,[],())).bind fun w6=>match w6 with |.inl a7=>some (a7.1,0) |.inr b8=>some (b8.2.1,b8.1))
def b9R:FSem:=⟨[.v QL,.v QI],[.o QI,.v QI],a7t⟩
def c8M:Hints:=⟨[(122,[1,.sv 15 QL,16,17,.own 6 6 QI],[Qe 0 [.own 6 6 QI],Qr [5,.own 4 4 QI]])],[(6,[Qn [.sv 0 QL,1,.sv 14 .bool]]),(15666,[Qn [1,8,.sv 15 QL,16,17,.sv 30 .bool,.own 6 6 QI]])],[]⟩
def a5L(s:(Int×(Int×(LI×Z97)))):Option ((Int×(Int×(LI×Z97))) ⊕ (LI×Unit)):=cond (decide (s.2.1<s.1)) ((m0k s.2.2.2.1.2.2.2.2.2.2.2.2.1 0).bind fun x1=>cond (lim ((a02 s.2.2.1)+1)) (some (.inl (s.1,wrap .i64 (s.2.1+1),a03 s.2.2.1 [x1],s.2.2.2.1,()))) none) (some (.inr (s.2.2.1,())))
def a9u(x:Z96):Option (LI×Int):=(show Option ((LI×(Int×Z97)) ⊕ Z4)from cond (x.1.1==0) ((y0s a5L (x.2,0,[],x.1,())).bind fun w2=>some (Sum.inr ((0,w2.1,())))) (cond (x.1.1==1) (some (Sum.inl (x.1.2.2.2.2.2.2.2.2.1,0,x.1,()))) (cond (x.1.1==2) ((a7X (x.1.2.2.2.2.2.2.2.2.1,x.1.2.2.2.2.2.2.2.2.2.2.1,x.1.2.2.1)).bind fun y3=>some (Sum.inl (y3.1,y3.2,x.1,()))) (cond (x.1.1==3) ((a5K (x.1.2.2.2.2.2.2.2.2.1,x.1.2.2.2.2.2.2.2.2.2.2.1,x.1.2.2.2.2.2.1,x.1.2.2.2.1)).bind fun y4=>some (Sum.inl (y4.1,y4.2,x.1,()))) (cond (x.1.1==4) ((a5K (x.1.2.2.2.2.2.2.2.2.1,x.1.2.2.2.2.2.2.2.2.2.2.1,x.1.2.2.2.2.2.1,x.1.2.2.2.1)).bind fun y5=>cond (y5.2==0) ((a8K (y5.1,x.1.2.2.2.2.1,x.1.2.2.2.2.2.2.1)).bind fun y6=>some (Sum.inl (y6.1,y6.2,x.1,()))) (some (Sum.inl (y5.1,y5.2,x.1,())))) (cond (x.1.1==5) ((a7Y (x.1.2.2.2.2.2.2.2.2.2.2.1,x.1.2.2.2.2.2.2.2.1)).bind fun y7=>some (Sum.inl (y7.1,y7.2,x.1,()))) (some (Sum.inl ([],0,x.1,()))))))))).bind fun z8=>match z8 with |.inl a9=>(cond (a9.2.1 != 0) (some ([],a9.2.1)) ((a7t (a9.1,a9.2.2.1.2.1)).bind fun y11=>some (y11.1,y11.2))) |.inr b10=>some (b10.2.1,b10.1)
def c1J:FSem:=⟨[.v Q31,.v QI],[.o QI,.v QI],a9u⟩
def H76:Hints:=⟨[(3922,[12,13,.own 6 6 QI,.vp 2 Q31],[Qe 1 [.own 6 6 QI]])],[(15,[Qn [.sv 6 QL,7,.vp 2 Q31],Qr [5,.own 4 6 QI]])],[]⟩
def a9f(x:Z96):Option (LI×Int):=(a7W (x.1,x.2)).bind fun y1=>cond (!y1) (some ([],1)) ((a9u (x.1,x.2)).bind fun y2=>cond (y2.2 != 0) (some ([],1)) (some (y2.1,0)))
def c2Y:FSem:=⟨[.v Q31,.v QI],[.o QI,.v QI],a9f⟩
def a7M(x:Z96):Option Bool:=(a9f (x.1,x.2)).bind fun y1=>some (y1.2==0)
def c2Z:FSem:=⟨[.v Q31,.v QI],[.v .bool],a7M⟩
def a1L(x:(Z5×Int)):Option Z5:=(show Option Z33 from cond ((a18 x.1.2.1 8)==0) (cond (lim ((a02 x.1.1)+1)) (some (x.2,(a03 x.1.1 [0],x.1.2),())) none) (some (x.2,x.1,()))).bind fun z1=>cond ((decide (0≤(wrap .i64 (a09 z1.2.1.2.1 8))))&&(decide ((wrap .i64 (a09 z1.2.1.2.1 8))<(z1.2.1.1.length:Int)))) (cond (decide ((wrap .i64 (7-(a18 z1.2.1.2.1 8)))<0)) none (cond ((decide (0≤(wrap .i64 (a09 z1.2.1.2.1 8))))&&(decide ((wrap .i64 (a09 z1.2.1.2.1 8))<(z1.2.1.1.length:Int)))) (some (a05 z1.2.1.1 (a01 (wrap .i64 (a09 z1.2.1.2.1 8))) (bits .u8 .or (a04 z1.2.1.1 (a01 (wrap .i64 (a09 z1.2.1.2.1 8))) 0) (A0n .u8 z1.1 (wrap .i64 (7-(a18 z1.2.1.2.1 8))))),wrap .i64 (z1.2.1.2.1+1),z1.2.1.2.2)) none)) none
def b3A:FSem:=⟨[.r false (.b Q5),.v QV],[],a1L⟩
def c8N:Hints:=⟨[],[(1,[Qn [.sv 1 QV,.box pinned Q5,Qp 0 pinned]])],[(2,[.p,.p,.q,.q,.p,.p,.q,.q,.v,.q,.q,.v,.p,.p,.q,.q,.v,.v,.v,.x,.x,.x])]⟩
def a3u(s:Z48):Option (Z48 ⊕ Z20):=cond (decide (s.2.1≥0)) (cond (decide (s.2.1<0)) none ((a1L (s.2.2.1,wrap .u8 (bits .u64 .and (A0o .u64 s.1 s.2.1) 1))).bind fun y2=>some (.inl (s.1,wrap .i64 (s.2.1-1),y2,())))) (some (.inr (s.2.2.1,())))
def a0E(x:(Z5×Int×Int)):Option Z16:=(show Option (Int×Int×Bool×Z20)from cond (decide (x.2.2<0)) (some (x.2.1,x.2.2,true,x.1,())) (cond (decide (x.2.2 > 64)) (some (x.2.1,x.2.2,true,x.1,())) (cond (decide (x.2.2<0)) none (some (x.2.1,x.2.2,(A0o .u64 x.2.1 x.2.2) != 0,x.1,()))))).bind fun z1=>cond z1.2.2.1 (some (1,z1.2.2.2.1)) ((y0s a3u (z1.1,wrap .i64 (z1.2.1-1),z1.2.2.2.1,())).bind fun w3=>some (0,w3.1))
def b3B:FSem:=⟨[.r false (.b Q5),.v QU,.v QI],[.v QI],a0E⟩
def c8O:Hints:=⟨[(58,[.sv 1 QU,7,.box pinned Q5,Qp 0 pinned],[Qe 0 [.box pinned Q5]])],[(6,[Qn [.sv 1 QU,2,.sv 19 .bool,.box pinned Q5,Qp 0 pinned]])],[]⟩
def a2m(x:(Z5×Int×Int)):Option Z5:=cond (decide (x.2.2<0)) none ((a0E (x.1,bits .u64 .and (wrap .u64 x.2.1) (wrap .u64 ((A0n .u64 1 x.2.2)-1)),x.2.2)).bind fun y1=>some y1.2)
def b4G:FSem:=⟨[.r false (.b Q5),.v QI,.v QI],[],a2m⟩
def a4P(s:Z77):Option (Z77 ⊕ Z20):=(fun(a b:Int)(c:Z5)=>cond (decide (b<a)) ((m0k s.2.1 b).bind fun x6=>(a2m (c,x6,s.1)).bind fun y7=>some (.inl (s.1,s.2.1,a,wrap .i64 (b+1),y7,()))) (some (.inr (c,())))) s.2.2.1 s.2.2.2.1 s.2.2.2.2.1
def a6P(x:(Z5×Z94)):Option Z5:=(a0E (x.1,wrap .u64 (wrap .i64 ((x.2.2.2.2.2.2.1.length:Int)-1)),5)).bind fun y1=>(a0E (y1.2,wrap .u64 x.2.2.2.2.1,4)).bind fun y2=>(a1j x.2.2.2.2.2.2.1).bind fun y3=>(a0E (y2.2,wrap .u64 y3,5)).bind fun y4=>(y0s a4P (y3,x.2.2.2.2.2.2.1,(x.2.2.2.2.2.2.1.length:Int),0,y4.2,())).bind fun w8=>some w8.1
def b5V:FSem:=⟨[.r false (.b Q5),.v Q31],[],a6P⟩
def c8P:Hints:=⟨[(254,[4,.sv 27 QL,28,29,.box pinned Q5,Qp 0 pinned],[Qe 0 [.box pinned Q5]])],[],[]⟩
def a2O(s:Z48):Option (Z48 ⊕ Z20):=cond (decide (s.2.1<s.1)) ((a1L (s.2.2.1,0)).bind fun y2=>some (.inl (s.1,wrap .i64 (s.2.1+1),y2,()))) (some (.inr (s.2.2.1,())))
def a1U(x:(Z5×Int)):Option Z16:=(show Option (Int×Bool×Z20)from cond (decide (x.2<0)) (some (x.2,true,x.1,())) (some (x.2,decide (x.2 > 4096),x.1,()))).bind fun z1=>cond z1.2.1 (some (1,z1.2.2.1)) ((y0s a2O (z1.1,0,z1.2.2.1,())).bind fun w3=>(a1L (w3.1,1)).bind fun y4=>some (0,y4))
def b2J:FSem:=⟨[.r false (.b Q5),.v QI],[.v QI],a1U⟩
def c8Q:Hints:=⟨[(58,[11,12,.box pinned Q5,Qp 0 pinned],[Qe 0 [.box pinned Q5,Qp 0 pinned]])],[(6,[Qn [1,.sv 10 .bool,.box pinned Q5,Qp 0 pinned]])],[]⟩
def a7y(s:(Int×(LI×Z69))):Option ((Int×(LI×Z69)) ⊕ ((Int×(LI×Z20)) ⊕ Z33)):=(fun(a:LI)(b c:Int)(d:Z5)=>cond (decide (c<b)) ((m0k a c).bind fun x2=>(a6d x2).bind fun y3=>cond (!y3) (some (.inr (Sum.inr ((1,d,()))))) (some (.inl (s.1,s.2.1,a,b,wrap .i64 (c+1),d,())))) (some (.inr (Sum.inl (s.1,s.2.1,d,()))))) s.2.2.1 s.2.2.2.1 s.2.2.2.2.1 s.2.2.2.2.2.1
def a5M(s:Z77):Option (Z77 ⊕ Z20):=(fun(a:Int)(b:LI)(c d:Int)(e:Z5)=>cond (decide (d<c)) ((m0k b d).bind fun x7=>(a7s x7).bind fun y8=>cond (decide (a<0)) none (cond (decide ((A0o .u64 y8 a)<32)) ((a1U (e,wrap .i64 (A0o .u64 y8 a))).bind fun y9=>cond (decide (a<0)) none ((a0E (y9.2,wrap .u64 (y8-(A0n .u64 (A0o .u64 y8 a) a)),a)).bind fun y10=>some (.inl (a,b,c,wrap .i64 (d+1),y10.2,())))) ((a1U (e,32)).bind fun y11=>(a0E (y11.2,y8,32)).bind fun y12=>some (.inl (a,b,c,wrap .i64 (d+1),y12.2,()))))) (some (.inr (e,())))) s.1 s.2.1 s.2.2.1 s.2.2.2.1 s.2.2.2.2.1
def a9v(x:(Z5×(Int×LI))):Option Z16:=(a1D x.2.1).bind fun y1=>cond (!y1) (some (1,x.1)) ((y0s a7y (x.2.1,x.2.2,x.2.2,(x.2.2.length:Int),0,x.1,())).bind fun w4=>match w4 with |.inl a5=>((y0s a5M (a5.1,a5.2.1,(a5.2.1.length:Int),0,a5.2.2.1,())).bind fun w13=>some (0,w13.1)) |.inr b6=>some (b6.1,b6.2.1))
def c1K:FSem:=⟨[.r false (.b Q5),.v QI,.v QL],[.v QI],a9v⟩
def c8R:Hints:=⟨[(58,[1,.sv 2 QL,.sv 16 QL,17,18,.box pinned Q5,Qp 0 pinned],[Qe 0 [1,.sv 2 QL,.box pinned Q5,Qp 0 pinned],Qr [6,.box pinned Q5]]),(122,[1,.sv 26 QL,27,28,.box pinned Q5,Qp 0 pinned],[Qe 2 [.box pinned Q5]])],[],[]⟩
def a6Q(s:(LI×(Int×Int×Int×Z88))):Option ((LI×(Int×Int×Int×Z88)) ⊕ Z88):=(fun(a b c:Int)(d:LI)(e f:Int)(g:LI)(h:Z5)(i:Z4)=>cond (decide (f<e)) ((m0k d f).bind fun x11=>cond (decide (a<0)) none ((a0E (h,bits .u64 .and (wrap .u64 x11) (wrap .u64 ((A0n .u64 1 a)-1)),a)).bind fun y12=>some (.inl (s.1,a,b,c,d,e,wrap .i64 (f+1),g,y12.2,i,())))) (some (.inr (s.1,b,c,g,h,i,())))) s.2.1 s.2.2.1 s.2.2.2.1 s.2.2.2.2.1 s.2.2.2.2.2.1 s.2.2.2.2.2.2.1 s.2.2.2.2.2.2.2.1 s.2.2.2.2.2.2.2.2.1 s.2.2.2.2.2.2.2.2.2.1
def a3E(s:Z88):Option (Z88 ⊕ Z20):=(fun(a:LI)(b c:Int)(d:LI)(e:Z5)(f:Z4)=>cond (decide (c<b)) (cond ((decide (0≤c))&&(decide (c<(d.length:Int)))) (cond ((decide (0≤(a04 d (a01 c) 0)))&&(decide ((a04 d (a01 c) 0)≤(a.length:Int)))) (cond ((decide (0≤(a04 d (a01 c) 0)))&&(decide ((a04 d (a01 c) 0)≤(a.length:Int)))) ((m0k f.2.1 c).bind fun x4=>(a0E (e,wrap .u64 x4,5)).bind fun y5=>(m0k f.2.1 c).bind fun x6=>cond (x6 != 31) ((m0k f.2.1 c).bind fun x7=>(a9v (y5.2,x7,a06 (a01 (a04 d (a01 c) 0)) a)).bind fun y8=>some (.inl (a23 (a01 (a04 d (a01 c) 0)) (a06 (a02 a) a),b,wrap .i64 (c+1),d,y8.2,f,()))) ((a1j (a06 (a01 (a04 d (a01 c) 0)) a)).bind fun y9=>(a0E (y5.2,wrap .u64 y9,5)).bind fun y10=>(y0s a6Q (a23 (a01 (a04 d (a01 c) 0)) (a06 (a02 a) a),y9,b,c,a06 (a01 (a04 d (a01 c) 0)) a,((a02 (a06 (a01 (a04 d (a01 c) 0)) a):Nat):Int),0,d,y10.2,f,())).bind fun w13=>some (.inl (w13.1,w13.2.1,wrap .i64 (w13.2.2.1+1),w13.2.2.2.1,w13.2.2.2.2.1,w13.2.2.2.2.2.1,())))) none) none) none) (some (.inr (e,())))) s.1 s.2.1 s.2.2.1 s.2.2.2.1 s.2.2.2.2.1 s.2.2.2.2.2.1
def a8L(x:(Z5×Z4×Z1)):Option Z16:=(a3P (x.2.1,x.2.2.1,x.2.2.2.1,x.2.2.2.2)).bind fun y1=>cond (y1==0) (some (1,x.1)) ((a0E (x.1,wrap .u64 x.2.1.1,4)).bind fun y2=>(a2w (x.2.1.1,x.2.2.1,x.2.2.2.1)).bind fun y3=>(y0s a3E (x.2.2.2.2,(y3.length:Int),0,y3,y2.2,x.2.1,())).bind fun w14=>some (0,w14.1))
def b9S:FSem:=⟨[.r false (.b Q5),.v Q7,.v QI,.v QI,.v QL],[.v QI],a8L⟩
def c8S:Hints:=⟨[(122,[.sv 4 QL,33,34,.own 32 1032 QI,.box pinned Q5,Qp 0 pinned,.vp 6 Q7],[Qe 0 [.box pinned Q5]]),(2005502,[.sv 4 QL,14,33,34,.sv 73 QL,74,75,.own 32 1032 QI,.box pinned Q5,Qp 0 pinned,.vp 6 Q7],[Qe 2 [.sv 4 QL,33,34,.own 32 1032 QI,.box pinned Q5,Qp 0 pinned,.vp 6 Q7]])],[],[]⟩
def a8a(s:(Int×(Int×(LI×c1z)))):Option ((Int×(Int×(LI×c1z))) ⊕ b1f):=(fun(a:LI)(b:Int)(c:Z5)(d:Z94)=>cond (decide (b<3)) ((m0k a b).bind fun x8=>(a2m (c,x8,8)).bind fun y9=>some (.inl (s.1,s.2.1,a,wrap .i64 (b+1),y9,d,()))) (some (.inr (s.1,s.2.1,c,d,())))) s.2.2.1 s.2.2.2.1 s.2.2.2.2.1 s.2.2.2.2.2.1
def a8b(s:(Int×Int×Z6×b1f)):Option ((Int×Int×Z6×b1f) ⊕ b1f):=(fun(a:Z6)(b c:Int)(d:Z5)(e:Z94)=>cond (decide (c<b)) ((m0k a c).bind fun x18=>(a0E (d,wrap .u64 (wrap .i64 (x18.1-1)),5)).bind fun y19=>(a0E (y19.2,wrap .u64 x18.2.1,4)).bind fun y20=>some (.inl (s.1,s.2.1,a,b,wrap .i64 (c+1),y20.2,e,()))) (some (.inr (s.1,s.2.1,d,e,())))) s.2.2.1 s.2.2.2.1 s.2.2.2.2.1 s.2.2.2.2.2.1 s.2.2.2.2.2.2.1
def a8c(s:(Int×(Int×(LI×b1f)))):Option ((Int×(Int×(LI×b1f))) ⊕ c1z):=(fun(a:LI)(b c:Int)(d:Z5)(e:Z94)=>cond (decide (c<b)) ((m0k a c).bind fun x23=>(a2m (d,x23,s.2.1)).bind fun y24=>some (.inl (s.1,s.2.1,a,b,wrap .i64 (c+1),y24,e,()))) (some (.inr (s.1,d,e,())))) s.2.2.1 s.2.2.2.1 s.2.2.2.2.1 s.2.2.2.2.2.1 s.2.2.2.2.2.2.1
def a7N(x:(Z5×Z96)):Option Z16:=(a7M (x.2.1,x.2.2)).bind fun y1=>cond (!y1) (some (1,x.1)) ((a1j x.2.1.2.2.2.2.2.2.2.2.1).bind fun y2=>(a0E (x.1,wrap .u64 x.2.1.1,3)).bind fun y3=>(a0E (y3.2,wrap .u64 x.2.1.2.1,5)).bind fun y4=>(a0E (y4.2,wrap .u64 y2,5)).bind fun y5=>(show Option b1f from(show Option (b1f ⊕ (b1f ⊕ b1f))from cond (x.2.1.1==2) ((a0E (y5.2,wrap .u64 x.2.1.2.2.1,3)).bind fun y6=>some (Sum.inr (Sum.inl (x.2.2,y2,y6.2,x.2.1,())))) (cond (x.2.1.1==4) ((a0E (y5.2,wrap .u64 (wrap .i64 (x.2.1.2.2.2.2.1-1)),10)).bind fun y7=>(y0s a8a (x.2.2,y2,x.2.1.2.2.2.2.2.2.1,0,y7.2,x.2.1,())).bind fun w10=>some (Sum.inl (w10.1,w10.2.1,w10.2.2.1,w10.2.2.2.1,()))) (cond (x.2.1.1==3) (some (Sum.inl (x.2.2,y2,y5.2,x.2.1,()))) (cond (x.2.1.1==5) (some (Sum.inr (Sum.inr ((x.2.2,y2,y5.2,x.2.1,()))))) (some (Sum.inr (Sum.inl (x.2.2,y2,y5.2,x.2.1,())))))))).bind fun z11=>match z11 with |.inl a12=>((a6P (a12.2.2.1,a12.2.2.2.1)).bind fun y14=>some (a12.1,a12.2.1,y14,a12.2.2.2.1,())) |.inr b13=>(match b13 with |.inl a15=>some (a15.1,a15.2.1,a15.2.2.1,a15.2.2.2.1,()) |.inr b16=>((a0E (b16.2.2.1,wrap .u64 (b16.2.2.2.1.2.2.2.2.2.2.2.1.length:Int),2)).bind fun y17=>(y0s a8b (b16.1,b16.2.1,b16.2.2.2.1.2.2.2.2.2.2.2.1,(b16.2.2.2.1.2.2.2.2.2.2.2.1.length:Int),0,y17.2,b16.2.2.2.1,())).bind fun w21=>some (w21.1,w21.2.1,w21.2.2.1,w21.2.2.2.1,())))).bind fun z22=>(y0s a8c (z22.1,z22.2.1,z22.2.2.2.1.2.2.2.2.2.2.2.2.1,(z22.2.2.2.1.2.2.2.2.2.2.2.2.1.length:Int),0,z22.2.2.1,z22.2.2.2.1,())).bind fun w25=>(a5a w25.2.2.1.1).bind fun y26=>cond (!y26) (some (0,w25.2.1)) ((a8L (w25.2.1,w25.2.2.1.2.2.2.2.2.2.2.2.2.1,w25.1,(w25.2.2.1.2.2.2.2.2.2.2.2.1.length:Int),w25.2.2.1.2.2.2.2.2.2.2.2.2.2.1)).bind fun y27=>some (y27.1,y27.2)))
def c3a:FSem:=⟨[.r false (.b Q5),.v Q31,.v QI],[.v QI],a7N⟩
def H45:Hints:=⟨[(2042,[2,7,.sv 94 QL,95,96,.box pinned Q5,Qp 0 pinned,.vp 4 Q31],[Qe 9 [2,.box pinned Q5,Qp 0 pinned,.vp 4 Q31]]),(32598,[2,7,.sv 75 (.list false Q3),76,77,.box pinned Q5,Qp 0 pinned,.vp 4 Q31],[Qe 7 [2,7,.box pinned Q5,Qp 0 pinned,.vp 4 Q31]]),(260622,[2,7,.sv 57 (.arr 3 QI),58,.box pinned Q5,Qp 0 pinned,.vp 4 Q31],[Qe 5 [2,7,.box pinned Q5,Qp 0 pinned,.vp 4 Q31]])],[(127,[Qn [2,7,.box pinned Q5,Qp 0 pinned,.vp 4 Q31]]),(4072,[Qn [2,7,.box pinned Q5,Qp 0 pinned,.vp 4 Q31],Qe 0 [2,7,.box pinned Q5,Qp 0 pinned,.vp 4 Q31],Qe 4 [2,7,.box pinned Q5,Qp 0 pinned,.vp 4 Q31]])],[]⟩
def a7h(x:Z5):Option Z16:=some (x.2.1,x)
def b3C:FSem:=⟨[.r false (.b Q5)],[.v QI],a7h⟩
def a2a(x:Z96):Option Int:=(a7N (([],0,()),x.1,x.2)).bind fun y1=>cond (y1.1 != 0) (some 0) ((a7h y1.2).bind fun y2=>some y2.1)
def c1L:FSem:=⟨[.v Q31,.v QI],[.v QI],a2a⟩
def a3Q(s:Z43):Option (Z43 ⊕ (Int×Unit)):=(fun(a:Int)(b:LI)(c d:Int)=>cond (decide (d<c)) ((m0k b d).bind fun x1=>cond (decide ((wrap .i64 (d+s.1))≥4)) (some (.inl (s.1,wrap .i64 (a+(v0r x1 (wrap .i64 (0-x1)))),b,c,wrap .i64 (d+1),()))) (some (.inl (s.1,a,b,c,wrap .i64 (d+1),())))) (some (.inr (a,())))) s.2.1 s.2.2.1 s.2.2.2.1 s.2.2.2.2.1
def a7z(x:(LI×Int)):Option Int:=(y0s a3Q (x.2,0,x.1,(x.1.length:Int),0,())).bind fun w2=>some w2.1
def b7t:FSem:=⟨[.v QL,.v QI],[.v QI],a7z⟩
def c8T:Hints:=⟨[(58,[1,5,.sv 8 QL,9,10],[Qe 0 [5]])],[],[]⟩
def a3g(s:Z29):Option (Z29 ⊕ (Int×Unit)):=(fun(a:LI)(b c d:Int)=>cond (decide (d≤4)) ((a3M (a,d)).bind fun y1=>cond (y1.2 != 0) (some (.inl (a,b,c,wrap .i64 (d+1),()))) ((a7z (y1.1,d)).bind fun y2=>(show Option (LI×(Int×Z22))from cond (decide (c<0)) (some (a,b,c,d,y2,true,())) (some (a,b,c,d,y2,decide (y2<c),()))).bind fun z3=>cond z3.2.2.2.2.2.1 (some (.inl (z3.1,z3.2.2.2.1,z3.2.2.2.2.1,wrap .i64 (z3.2.2.2.1+1),()))) (some (.inl (z3.1,z3.2.1,z3.2.2.1,wrap .i64 (z3.2.2.2.1+1),()))))) (some (.inr (b,())))) s.1 s.2.1 s.2.2.1 s.2.2.2.1
def a5b(x:LI):Option Int:=(y0s a3g (x,0,(-1),0,())).bind fun w4=>some w4.1
def b8s:FSem:=⟨[.v QL],[.v QI],a5b⟩
def c8U:Hints:=⟨[(58,[.sv 0 QL,3,4,5],[Qe 0 [3]])],[(7463,[Qn [.sv 0 QL,3,4,5,8,.sv 30 .bool]])],[]⟩
def a2g(x:Int):Option Int:=some (v0s (v0r x (-1048576)) 1048575)
def b5W:FSem:=⟨[.v QI],[.v QI],a2g⟩
def a2Y(s:Z65):Option (Z65 ⊕ Z54):=(fun(a b:Int)(c:LI)(d e:Int)=>cond (decide (a<0)) none ((a2g (A0o .i64 b a)).bind fun y2=>cond (decide (a<0)) none (cond (y2 != (A0o .i64 b a)) (some (.inl (s.1,wrap .i64 (a+1),b,c,d,e,()))) (some (.inr (s.1,a,c,d,e,())))))) s.2.1 s.2.2.1 s.2.2.2.1 s.2.2.2.2.1 s.2.2.2.2.2.1
def a4w(s:Z54):Option (Z54 ⊕ Z5):=(fun(a:LI)(b c:Int)=>cond (decide (c<b)) ((m0k a c).bind fun x1=>(y0s a2Y (s.1,s.2.1,x1,a,b,c,())).bind fun w3=>some (.inl (w3.1,w3.2.1,w3.2.2.1,w3.2.2.2.1,wrap .i64 (w3.2.2.2.2.1+1),()))) (some (.inr (s.1,s.2.1,())))) s.2.2.1 s.2.2.2.1 s.2.2.2.2.1
def a4x(s:Z53):Option (Z53 ⊕ (LI×Unit)):=(fun(a b:Int)(c:LI)=>cond (decide (b<a)) ((m0k s.2.1 b).bind fun x5=>cond (decide (s.1<0)) none (cond ((decide (0≤b))&&(decide (b<(c.length:Int)))) (some (.inl (s.1,s.2.1,a,wrap .i64 (b+1),a05 c (a01 b) (A0o .i64 x5 s.1),()))) none)) (some (.inr (c,())))) s.2.2.1 s.2.2.2.1 s.2.2.2.2.1
def a6q(x:LI):Option LI:=(y0s a4w (x,0,x,(x.length:Int),0,())).bind fun w4=>cond ((decide (0≤(w4.1.length:Int)))&&((decide ((w4.1.length:Int)≤(w4.1.length:Int)))&&(lim (a01 (w4.1.length:Int))))) ((y0s a4x (w4.2.1,w4.1,(w4.1.length:Int),0,a00 (a01 (w4.1.length:Int)) 0,())).bind fun w6=>some w6.1) none
def b4H:FSem:=⟨[.v QL],[.o QI],a6q⟩
def c8V:Hints:=⟨[(58,[.sv 0 QL,3,.sv 9 QL,10,11],[Qe 0 [.sv 0 QL,3]]),(250,[3,.sv 29 QL,30,31,.own 6 6 QI],[Qe 4 [.own 6 6 QI]]),(7474,[.sv 0 QL,3,5,.sv 9 QL,10,11],[Qe 2 [.sv 0 QL,3,.sv 9 QL,10,11]])],[],[(5,[.v,.v,.v,.v,.v,.v,.v,.x])]⟩
def a2P(s:(LI×Z29)):Option ((LI×Z29) ⊕ (Int×Int×Unit)):=(fun(a b:LI)(c d e:Int)=>cond (decide (e<(a.length:Int))) ((m0k a e).bind fun x1=>(m0k b (wrap .i64 (e-1))).bind fun x2=>(m0k a e).bind fun x3=>(m0k a e).bind fun x4=>(m0k b (wrap .i64 (e-1))).bind fun x5=>(m0k b (wrap .i64 (e-1))).bind fun x6=>some (.inl (a,b,wrap .i64 (c+(wrap .i64 (x1*x2))),wrap .i64 (d+(wrap .i64 ((wrap .i64 (x3*x4))+(wrap .i64 (x5*x6))))),wrap .i64 (e+1),()))) (some (.inr (c,d,())))) s.1 s.2.1 s.2.2.1 s.2.2.2.1 s.2.2.2.2.1
def a2Q(s:(Int×Int×Unit)):Option ((Int×Int×Unit) ⊕ (Int×Int×Unit)):=cond (decide (s.2.1≥1099511627776)) (some (.inl (A0o .i64 s.1 1,A0o .i64 s.2.1 1,()))) (some (.inr (s.1,s.2.1,())))
def a4b(x:Z10):Option Int:=(y0s a2P (x.1,x.2.1,0,0,x.2.2,())).bind fun w7=>(y0s a2Q (w7.1,w7.2.1,())).bind fun w8=>cond (w8.2.1==0) (some 0) (cond (w8.2.1==0) none ((show Option (Int×Unit)from cond (w8.2.1==0) none (cond (decide ((a18 (A0n .i64 w8.1 15) w8.2.1)<0)) (some (wrap .i64 ((wrap .i64 (a09 (A0n .i64 w8.1 15) w8.2.1))-1),())) (some (wrap .i64 (a09 (A0n .i64 w8.1 15) w8.2.1),())))).bind fun z9=>some (v0s (v0r z9.1 (-16383)) 16383)))
def b2K:FSem:=⟨[.v QL,.v QL,.v QI],[.v QI],a4b⟩
def c8W:Hints:=⟨[(58,[.sv 0 QL,.sv 1 QL,7,8,9],[Qe 0 [7,8]]),(60,[7,8],[Qe 2 [7,8]])],[(255,[Qn [10]])],[(5,[.v,.v,.v,.v,.v,.v,.v,.v,.v,.v,.v,.x,.x]),(6,[.v,.v,.v,.v,.v,.v,.v,.v,.v,.v,.v,.v,.v,.v,.v,.v,.v,.v,.v,.v,.v,.v,.x,.x])]⟩
def a2H(s:(Int×Int×Z63)):Option ((Int×Int×Z63) ⊕ Z63):=(fun(a b c:Int)(d e f:LI)=>cond (decide (c≥a)) (cond ((decide (0≤c))&&(decide (c<(d.length:Int)))) (cond ((decide (0≤(wrap .i64 (c-1))))&&(decide ((wrap .i64 (c-1))<(e.length:Int)))) ((a2g (wrap .i64 ((a04 d (a01 c) 0)-(A0o .i64 (wrap .i64 (b*(a04 e (a01 (wrap .i64 (c-1))) 0))) 14)))).bind fun y6=>cond ((decide (0≤c))&&(decide (c<(d.length:Int)))) ((a2g (wrap .i64 ((a04 e (a01 (wrap .i64 (c-1))) 0)-(A0o .i64 (wrap .i64 (b*(a04 d (a01 c) 0))) 14)))).bind fun y7=>cond ((decide (0≤c))&&(decide (c<(e.length:Int)))) (some (.inl (s.1,a,b,wrap .i64 (c-1),a05 d (a01 c) y6,a05 e (a01 c) y7,f,()))) none) none) none) none) (some (.inr (s.1,a,d,e,f,())))) s.2.1 s.2.2.1 s.2.2.2.1 s.2.2.2.2.1 s.2.2.2.2.2.1 s.2.2.2.2.2.2.1
def a2I(s:Z63):Option (Z63 ⊕ (LI×Unit)):=(fun(a:Int)(b c d:LI)=>cond (decide (a≤s.1)) ((a4b (b,c,a)).bind fun y5=>cond (lim ((a02 d)+1)) ((y0s a2H (s.1,a,y5,wrap .i64 ((b.length:Int)-1),b,c,a03 d [y5],())).bind fun w8=>some (.inl (w8.1,wrap .i64 (w8.2.1+1),w8.2.2.1,w8.2.2.2.1,w8.2.2.2.2.1,()))) none) (some (.inr (d,())))) s.2.1 s.2.2.1 s.2.2.2.1 s.2.2.2.2.1
def a5x(x:(LI×Int)):Option (LI×Int):=(show Option Z18 from cond (decide (x.2<1)) (some (x.1,x.2,true,())) (cond (decide (x.2 > 32)) (some (x.1,x.2,true,())) (some (x.1,x.2,decide ((x.1.length:Int) > 4096),())))).bind fun z1=>cond z1.2.2.1 (some ([],1)) ((a2f z1.1).bind fun y2=>cond (!y2) (some ([],6)) ((a6q z1.1).bind fun y3=>(a0Y y3).bind fun y4=>cond ((decide (0≤z1.2.1))&&(lim (a01 z1.2.1))) ((y0s a2I (z1.2.1,1,y3,y4,[],())).bind fun w9=>some (w9.1,0)) none))
def b4g:FSem:=⟨[.v QL,.v QI],[.o QI,.v QI],a5x⟩
def c8X:Hints:=⟨[(1018,[1,9,.own 6 6 QI,.own 7 7 QI,.own 8 8 QI],[Qe 0 [.own 8 8 QI]]),(260686,[1,9,10,11,.own 6 6 QI,.own 7 7 QI,.own 8 8 QI],[Qe 2 [1,9,.own 6 6 QI,.own 7 7 QI,.own 8 8 QI]])],[(6,[Qn [.sv 0 QL,1,.sv 24 .bool]])],[(16,[.q,.v,.q,.q,.q,.v,.v,.q,.q,.v,.x])]⟩
def a1M(s:Z39):Option (Z39 ⊕ ((LI×Unit) ⊕ Z5)):=(fun(a:LI)(b c:Int)=>cond (decide (c<b)) ((m0k a c).bind fun x2=>(show Option (LI×Z32)from cond (decide (x2<(-16383))) (some (s.1,a,b,c,true,())) (some (s.1,a,b,c,decide (x2 > 16383),()))).bind fun z3=>cond z3.2.2.2.2.1 (some (.inr (Sum.inr (([],1,()))))) (some (.inl (z3.1,z3.2.1,z3.2.2.1,wrap .i64 (z3.2.2.2.1+1),())))) (some (.inr (Sum.inl (s.1,()))))) s.2.1 s.2.2.1 s.2.2.2.1
def a3s(s:(LI×(Int×(Int×(LI×Z67))))):Option ((LI×(Int×(Int×(LI×Z67)))) ⊕ Z53):=(fun(a:Int)(b:LI)(c d:Int)(e:LI)(f g:Int)(h:LI)=>cond (decide (g<f)) ((m0k e g).bind fun x8=>(m0k s.1 (wrap .i64 ((wrap .i64 (s.2.1-1))-g))).bind fun x9=>cond (lim ((a02 h)+1)) (some (.inl (s.1,s.2.1,a,b,c,d,e,f,wrap .i64 (g+1),a03 h [wrap .i64 (x8-(A0o .i64 (wrap .i64 (a*x9)) 14))],()))) none) (some (.inr (a,b,c,d,h,())))) s.2.2.1 s.2.2.2.1 s.2.2.2.2.1 s.2.2.2.2.2.1 s.2.2.2.2.2.2.1 s.2.2.2.2.2.2.2.1 s.2.2.2.2.2.2.2.2.1 s.2.2.2.2.2.2.2.2.2.1
def a4Q(s:Z39):Option (Z39 ⊕ (LI×Unit)):=(fun(a:LI)(b c:Int)=>cond (decide (c<b)) ((m0k s.2.1 c).bind fun x7=>cond ((decide (0≤(wrap .i64 (c+1))))&&(lim (a01 (wrap .i64 (c+1))))) ((y0s a3s (a,c,x7,s.2.1,b,c,a,(a.length:Int),0,[],())).bind fun w10=>cond (lim ((a02 w10.2.2.2.2.1)+1)) (some (.inl (a03 w10.2.2.2.2.1 [w10.1],w10.2.1,w10.2.2.1,wrap .i64 (w10.2.2.2.1+1),()))) none) none) (some (.inr (a,())))) s.1 s.2.2.1 s.2.2.2.1
def a6R(x:LI):Option (LI×Int):=(show Option (LI×(Bool×Unit))from cond (decide ((x.length:Int)<1)) (some (x,true,())) (some (x,decide ((x.length:Int) > 32),()))).bind fun z1=>cond z1.2.1 (some ([],1)) ((y0s a1M (z1.1,z1.1,(z1.1.length:Int),0,())).bind fun w4=>match w4 with |.inl a5=>((y0s a4Q ([],a5.1,(a5.1.length:Int),0,())).bind fun w11=>some (w11.1,0)) |.inr b6=>some (b6.1,b6.2.1))
def b5X:FSem:=⟨[.v QL],[.v QL,.v QI],a6R⟩
def c8Y:Hints:=⟨[(58,[.sv 0 QL,.sv 20 QL,21,22],[Qe 0 [.sv 0 QL],Qr [.sv 2 QL,3]]),(250,[.sv 6 QL,.sv 34 QL,35,36],[Qe 2 [.sv 6 QL]]),(256410,[.sv 6 QL,7,8,.sv 34 QL,35,36,.sv 44 QL,45,46,.own 9 9 QI],[Qe 4 [8,.sv 34 QL,35,36,.own 9 9 QI]])],[(6,[Qn [.sv 0 QL,.sv 19 .bool]]),(3737,[Qn [.sv 0 QL,.sv 20 QL,21,22,.sv 31 .bool]])],[]⟩
def a1N(s:Z54):Option (Z54 ⊕ (Z5 ⊕ Z15)):=(fun(a:Int)(b:LI)(c d:Int)=>cond (decide (d<c)) ((m0k b d).bind fun x2=>(show Option (LI×(Int×Z32))from cond (decide (x2<(-35184372088832))) (some (s.1,a,b,c,d,true,())) (some (s.1,a,b,c,d,decide (x2 > 35184372088832),()))).bind fun z3=>cond z3.2.2.2.2.2.1 (some (.inr (Sum.inr ((0,1,[],()))))) (some (.inl (z3.1,z3.2.1,z3.2.2.1,z3.2.2.2.1,wrap .i64 (z3.2.2.2.2.1+1),())))) (some (.inr (Sum.inl (s.1,a,()))))) s.2.1 s.2.2.1 s.2.2.2.1 s.2.2.2.2.1
def a1O(s:(LI×(Int×Z67))):Option ((LI×(Int×Z67)) ⊕ Z37):=(fun(a b c:Int)(d:LI)(e f:Int)(g:LI)=>cond (decide (f<e)) ((m0k d f).bind fun x8=>cond (decide (b<0)) none ((a3l (A0o .i64 (wrap .i64 (x8+c)) b,a)).bind fun y9=>cond (!y9) (some (.inr (s.1,a,b,g,()))) (cond (lim ((a02 g)+1)) (some (.inl (s.1,a,b,c,d,e,wrap .i64 (f+1),a03 g [A0o .i64 (wrap .i64 (x8+c)) b],()))) none))) (some (.inr (s.1,a,b,g,())))) s.2.1 s.2.2.1 s.2.2.2.1 s.2.2.2.2.1 s.2.2.2.2.2.1 s.2.2.2.2.2.2.1 s.2.2.2.2.2.2.2.1
def a2u(s:Z14):Option (Z14 ⊕ (Unit ⊕ Z15)):=(fun(a:Int)=>cond (decide (a≤14)) ((show Option Z29 from cond (decide (a > 0)) (cond (decide ((wrap .i64 (a-1))<0)) none (some (s.1,s.2.1,a,A0n .i64 1 (wrap .i64 (a-1)),()))) (some (s.1,s.2.1,a,0,()))).bind fun z7=>cond ((decide (0≤(z7.1.length:Int)))&&(lim (a01 (z7.1.length:Int)))) ((y0s a1O (z7.1,z7.2.1,z7.2.2.1,z7.2.2.2.1,z7.1,(z7.1.length:Int),0,[],())).bind fun w10=>cond ((w10.2.2.2.1.length:Int)==(w10.1.length:Int)) (some (.inr (Sum.inr ((wrap .i64 (14-w10.2.2.1),0,w10.2.2.2.1,()))))) (some (.inl (w10.1,w10.2.1,wrap .i64 (w10.2.2.1+1),())))) none) (some (.inr (Sum.inl ())))) s.2.2.1
def a6S(x:(LI×Int)):Option Z2:=(show Option Z18 from cond (decide ((x.1.length:Int)<1)) (some (x.1,x.2,true,())) (cond (decide ((x.1.length:Int) > 32)) (some (x.1,x.2,true,())) (cond (decide (x.2<2)) (some (x.1,x.2,true,())) (some (x.1,x.2,decide (x.2 > 16),()))))).bind fun z1=>cond z1.2.2.1 (some ([],0,1)) ((y0s a1N (z1.1,z1.2.1,z1.1,(z1.1.length:Int),0,())).bind fun w4=>match w4 with |.inl a5=>((y0s a2u (a5.1,a5.2.1,0,())).bind fun w11=>match w11 with |.inl a12=>some ([],0,6) |.inr b13=>some (b13.2.2.1,b13.1,b13.2.1)) |.inr b6=>some (b6.2.2.1,b6.1,b6.2.1))
def b5Y:FSem:=⟨[.v QL,.v QI],[.o QI,.v QI,.v QI],a6S⟩
def c8Z:Hints:=⟨[(58,[.sv 0 QL,1,.sv 31 QL,32,33],[Qe 0 [.sv 0 QL,1],Qr [5,6,.own 4 4 QI]]),(122,[.sv 0 QL,1,9],[Qe 2 [],Qr [5,6,.own 4 11 QI]]),(125242,[.sv 0 QL,1,9,10,.sv 56 QL,57,58,.own 11 11 QI],[Qe 4 [.sv 0 QL,1,9,.own 11 11 QI]])],[(6,[Qn [.sv 0 QL,1,.sv 30 .bool]]),(3737,[Qn [.sv 0 QL,1,.sv 31 QL,32,33,.sv 42 .bool]]),(3913,[Qn [.sv 0 QL,1,9,10]])],[]⟩
end Go.Ab
namespace Go.Ab
open IntKind(wrap)
open Go.Proofs
set_option maxRecDepth 100000
set_option linter.unusedVariables false
def a3n(x:Z2):Option Z2:=(a5x (x.1,x.2.1)).bind fun y1=>cond (y1.2 != 0) (some ([],0,y1.2)) ((a6R y1.1).bind fun y2=>cond (y2.2 != 0) (some ([],0,y2.2)) ((a6S (y2.1,x.2.2)).bind fun y3=>some (y3.1,y3.2.1,y3.2.2)))
def b7u:FSem:=⟨[.v QL,.v QI,.v QI],[.o QI,.v QI,.v QI],a3n⟩
def b5Z(s:(LI×(Int×Int×Z34))):Option ((LI×(Int×Int×Z34)) ⊕ (LI×(Int×Z34))):=(fun(a:LI)(b c d e f g:Int)=>cond (decide (g<(a.length:Int))) ((m0k a g).bind fun x3=>(m0k a (wrap .i64 (g-e))).bind fun x4=>some (.inl (a,s.2.1,b,c,d,e,wrap .i64 (f+(v0r (wrap .i64 (x3-x4)) (wrap .i64 (0-(wrap .i64 (x3-x4)))))),wrap .i64 (g+1),()))) (some (.inr (a,s.2.1,b,c,d,e,f,())))) s.1 s.2.2.1 s.2.2.2.1 s.2.2.2.2.1 s.2.2.2.2.2.1 s.2.2.2.2.2.2.1 s.2.2.2.2.2.2.2.1
def b6a(s:(LI×Z34)):Option ((LI×Z34) ⊕ (Int×Unit)):=(fun(a b c:Int)=>cond (decide (c≤a)) ((y0s b5Z (s.1,s.2.1,a,b,s.2.2.2.2.1,c,0,a,())).bind fun w5=>(show Option (LI×(Int×Int×Int×Z22))from cond (w5.2.2.2.2.2.1==w5.2.1) (some (w5.1,w5.2.1,w5.2.2.1,w5.2.2.2.1,w5.2.2.2.2.1,w5.2.2.2.2.2.1,w5.2.2.2.2.2.2.1,true,())) (some (w5.1,w5.2.1,w5.2.2.1,w5.2.2.2.1,w5.2.2.2.2.1,w5.2.2.2.2.2.1,w5.2.2.2.2.2.2.1,decide (w5.2.2.2.2.2.2.1<w5.2.2.2.2.1),()))).bind fun z6=>cond z6.2.2.2.2.2.2.2.1 (some (.inl (z6.1,z6.2.1,z6.2.2.1,z6.2.2.2.2.2.1,z6.2.2.2.2.2.2.1,wrap .i64 (z6.2.2.2.2.2.1+1),()))) (some (.inl (z6.1,z6.2.1,z6.2.2.1,z6.2.2.2.1,z6.2.2.2.2.1,wrap .i64 (z6.2.2.2.2.2.1+1),())))) (some (.inr (b,())))) s.2.2.1 s.2.2.2.1 s.2.2.2.2.2.1
def a8M(x:Z2):Option (Int×Int):=(show Option Z32 from cond (decide (x.2.1<2)) (some (x.1,x.2.1,x.2.2,true,())) (cond (decide (x.2.1 > x.2.2)) (some (x.1,x.2.1,x.2.2,true,())) (cond (decide (x.2.2 > 1024)) (some (x.1,x.2.1,x.2.2,true,())) (some (x.1,x.2.1,x.2.2,decide ((x.1.length:Int) > 4096),()))))).bind fun z1=>cond z1.2.2.2.1 (some (0,1)) (cond (decide ((z1.1.length:Int)≤z1.2.2.1)) (some (0,7)) ((a3B z1.1).bind fun y2=>cond (!y2) (some (0,6)) ((y0s b6a (z1.1,z1.2.1,z1.2.2.1,0,0,z1.2.1,())).bind fun w7=>some (w7.1,0))))
def b9T:FSem:=⟨[.v QL,.v QI,.v QI],[.v QI,.v QI],a8M⟩
def c9a:Hints:=⟨[(506,[.sv 0 QL,1,2,8,9,10],[Qe 0 [8]]),(129610,[.sv 0 QL,1,2,8,9,10,11,12],[Qe 2 [.sv 0 QL,1,2,8,9,10,11]])],[(6,[Qn [.sv 0 QL,1,2,.sv 29 .bool]]),(32403,[Qn [.sv 0 QL,1,2,8,9,10,11,.sv 74 .bool]])],[(15,[.v,.v,.v,.v,.v,.v,.v,.v,.v,.v,.x,.x])]⟩
def b2V(x:Unit):Option (List LI):=some ([a05 (a05 (a05 (a00 3 0) 0 0) 1 0) 2 0,a05 (a05 (a05 (a00 3 0) 0 0) 1 64) 2 0,a05 (a05 (a05 (a00 3 0) 0 0) 1 32) 2 0,a05 (a05 (a05 (a00 3 0) 0 16) 1 32) 2 16,a05 (a05 (a05 (a00 3 0) 0 21) 1 22) 2 21,a05 (a05 (a05 (a00 3 0) 0 0) 1 48) 2 0,a05 (a05 (a05 (a00 3 0) 0 (-8)) 1 64) 2 (-8),a05 (a05 (a05 (a00 3 0) 0 32) 1 32) 2 0,a05 (a05 (a05 (a00 3 0) 0 0) 1 32) 2 32]:List LI)
def b8t:FSem:=⟨[],[.o (.arr 3 QI)],b2V⟩
def b6b(s:(LI×(Int×(Int×(Bool×(Int×(Int×(Int×(Int×(Int×((List LI)×(LI×Z36)))))))))))):Option ((LI×(Int×(Int×(Bool×(Int×(Int×(Int×(Int×(Int×((List LI)×(LI×Z36))))))))))) ⊕ (LI×(Int×(Int×(Bool×(Int×(Int×(Int×((List LI)×Z36))))))))):=(fun(a:Int)(b:Bool)(c d e f g:Int)(h:List LI)(i j k l:LI)=>cond (decide (g<f)) (cond ((decide (0≤g))&&(decide (g<(i.length:Int)))) (some (.inl (s.1,s.2.1,a,b,wrap .i64 (c+(v0r (a04 i (a01 g) 0) (wrap .i64 (0-(a04 i (a01 g) 0))))),d,e,f,wrap .i64 (g+1),h,i,j,k,l,()))) none) (some (.inr (s.1,s.2.1,a,b,c,d,e,h,j,k,l,())))) s.2.2.1 s.2.2.2.1 s.2.2.2.2.1 s.2.2.2.2.2.1 s.2.2.2.2.2.2.1 s.2.2.2.2.2.2.2.1 s.2.2.2.2.2.2.2.2.1 s.2.2.2.2.2.2.2.2.2.1 s.2.2.2.2.2.2.2.2.2.2.1 s.2.2.2.2.2.2.2.2.2.2.2.1 s.2.2.2.2.2.2.2.2.2.2.2.2.1 s.2.2.2.2.2.2.2.2.2.2.2.2.2.1
def b6c(s:(LI×(Int×(Int×(Bool×(Int×(Int×((List LI)×Z11)))))))):Option ((LI×(Int×(Int×(Bool×(Int×(Int×((List LI)×Z11))))))) ⊕ (Bool×Z11)):=(fun(a b:Int)(c:Bool)(d e:Int)(f:List LI)(g h:LI)=>cond (decide (e<d)) (cond ((decide (0≤e))&&(decide (e<(f.length:Int)))) ((a6b (s.1,a,a04 f (a01 e) (a00 3 0))).bind fun y3=>cond (y3.2 != 0) (some (.inl (s.1,a,b,c,d,wrap .i64 (e+1),f,g,h,()))) ((y0s b6b (s.1,a,b,c,0,d,e,(y3.1.length:Int),0,f,y3.1,g,h,a04 f (a01 e) (a00 3 0),())).bind fun w4=>(show Option (LI×(Int×(Int×(Bool×(Int×(Int×(Int×(Bool×((List LI)×Z36)))))))))from cond (!w4.2.2.2.1) (some (w4.1,w4.2.1,w4.2.2.1,w4.2.2.2.1,w4.2.2.2.2.1,w4.2.2.2.2.2.1,w4.2.2.2.2.2.2.1,true,w4.2.2.2.2.2.2.2.1,w4.2.2.2.2.2.2.2.2.1,w4.2.2.2.2.2.2.2.2.2.1,w4.2.2.2.2.2.2.2.2.2.2.1,())) (some (w4.1,w4.2.1,w4.2.2.1,w4.2.2.2.1,w4.2.2.2.2.1,w4.2.2.2.2.2.1,w4.2.2.2.2.2.2.1,decide (w4.2.2.2.2.1<w4.2.2.1),w4.2.2.2.2.2.2.2.1,w4.2.2.2.2.2.2.2.2.1,w4.2.2.2.2.2.2.2.2.2.1,w4.2.2.2.2.2.2.2.2.2.2.1,()))).bind fun z5=>cond z5.2.2.2.2.2.2.2.1 (some (.inl (z5.1,z5.2.1,z5.2.2.2.2.1,true,z5.2.2.2.2.2.1,wrap .i64 (z5.2.2.2.2.2.2.1+1),z5.2.2.2.2.2.2.2.2.1,z5.2.2.2.2.2.2.2.2.2.1,z5.2.2.2.2.2.2.2.2.2.2.2.1,()))) (some (.inl (z5.1,z5.2.1,z5.2.2.1,z5.2.2.2.1,z5.2.2.2.2.2.1,wrap .i64 (z5.2.2.2.2.2.2.1+1),z5.2.2.2.2.2.2.2.2.1,z5.2.2.2.2.2.2.2.2.2.1,z5.2.2.2.2.2.2.2.2.2.2.1,()))))) none) (some (.inr (c,g,h,())))) s.2.1 s.2.2.1 s.2.2.2.1 s.2.2.2.2.1 s.2.2.2.2.2.1 s.2.2.2.2.2.2.1 s.2.2.2.2.2.2.2.1 s.2.2.2.2.2.2.2.2.1
def b3J(x:(LI×Int)):Option (LI×Int):=(show Option (LI×(Int×Z7))from cond (decide (x.2<2)) (some (x.1,x.2,true,a00 3 0,())) (some (x.1,x.2,decide (x.2 > 1024),a00 3 0,()))).bind fun z1=>cond z1.2.2.1 (some (a00 3 0,1)) ((b2V ()).bind fun y2=>(y0s b6c (z1.1,z1.2.1,0,false,(y2.length:Int),0,y2,z1.2.2.2.1,a00 3 0,())).bind fun w6=>cond (!w6.1) (some (a00 3 0,6)) (some (w6.2.2.1,0)))
def b9U:FSem:=⟨[.v QL,.v QI],[.v (.arr 3 QI),.v QI],b3J⟩
def c9b:Hints:=⟨[(122,[.sv 0 QL,1,7,.sv 8 .bool,25,26,.own 24 1024 (.arr 3 QI),.box 4 (.arr 3 QI),.box 6 (.arr 3 QI),Qp 4 4,Qp 6 6],[Qe 0 [.sv 8 .bool,.box 4 (.arr 3 QI),.box 6 (.arr 3 QI),Qp 4 4,Qp 6 6]]),(501370,[.sv 0 QL,1,7,.sv 8 .bool,13,25,26,40,41,.own 24 1024 (.arr 3 QI),.own 39 11 QI,.box 4 (.arr 3 QI),.box 6 (.arr 3 QI),.box 10 (.arr 3 QI),Qp 4 4,Qp 6 6,Qp 10 10],[Qe 2 [.sv 0 QL,1,7,.sv 8 .bool,13,25,26,.own 24 1024 (.arr 3 QI),.box 4 (.arr 3 QI),.box 6 (.arr 3 QI),.box 10 (.arr 3 QI),Qp 4 4,Qp 6 6,Qp 10 10]])],[(6,[Qn [.sv 0 QL,1,.sv 21 .bool,.box 4 (.arr 3 QI),Qp 4 4]]),(125343,[Qn [.sv 0 QL,1,7,.sv 8 .bool,13,25,26,.sv 58 .bool,.own 24 1024 (.arr 3 QI),.box 4 (.arr 3 QI),.box 6 (.arr 3 QI),.box 10 (.arr 3 QI),Qp 4 4,Qp 6 6,Qp 10 10]])],[]⟩
def a2Z(x:LI):Option (Z94×Bool):=(a8M (x,16,256)).bind fun y1=>cond (y1.2 != 0) (some ((0,0,0,0,0,[],a00 3 0,[],[],(0,[],()),[],()),false)) ((b3J (x,y1.1)).bind fun y2=>cond (y2.2 != 0) (some ((0,0,0,0,0,[],a00 3 0,[],[],(0,[],()),[],()),false)) ((a6b (x,y1.1,y2.1)).bind fun y3=>cond (y3.2 != 0) (some ((0,0,0,0,0,[],a00 3 0,[],[],(0,[],()),[],()),false)) ((a3n (y3.1,4,12)).bind fun y4=>cond (y4.2.2 != 0) (some ((0,0,0,0,0,[],a00 3 0,[],[],(0,[],()),[],()),false)) (some ((4,0,0,y4.2.1,y1.1,y4.1,y2.1,[],[],(0,[],()),[],()),true)))))
def b8u:FSem:=⟨[.v QL],[.v Q31,.v .bool],a2Z⟩
def a0M(x:(Int×(Int×(LI×Z95)))):Option (LI×Z95):=(a3n (x.2.2.1,x.1,x.2.1)).bind fun y1=>cond (y1.2.2==0) (cond (lim ((a02 x.2.2.2)+1)) (some (x.2.2.1,a03 x.2.2.2 ([(3,0,0,y1.2.1,0,y1.1,a00 3 0,[],[],(0,[],()),[],())]:List Z94))) none) (some (x.2.2.1,x.2.2.2))
def b2W:FSem:=⟨[.v QI,.v QI,.r false (.b QL),.r false (.b (.list true Q31))],[],a0M⟩
def a1V(s:(Int×c1y)):Option ((Int×c1y) ⊕ c1y):=cond (decide (s.1<5)) (cond (lim ((a02 s.2.1)+1)) (some (.inl (wrap .i64 (s.1+1),a03 s.2.1 ([(2,0,s.1,0,0,[],a00 3 0,[],[],(0,[],()),[],())]:List Z94),s.2.2.1,()))) none) (some (.inr (s.2.1,s.2.2.1,())))
def a5y(x:(LI×Int)):Option Z95:=(a5b x.1).bind fun y1=>(show Option (Int×(LI×Z98))from cond (decide (x.2≥1)) ((a0M (4,12,x.1,([(0,0,0,0,0,[],a00 3 0,[],[],(0,[],()),[],()),(1,0,0,0,0,[],a00 3 0,[],[],(0,[],()),[],()),(2,0,y1,0,0,[],a00 3 0,[],[],(0,[],()),[],())]:List Z94))).bind fun y2=>(a0M (8,12,y2.1,y2.2)).bind fun y3=>some (x.2,y3.1,y3.2,())) (some (x.2,x.1,([(0,0,0,0,0,[],a00 3 0,[],[],(0,[],()),[],()),(1,0,0,0,0,[],a00 3 0,[],[],(0,[],()),[],()),(2,0,y1,0,0,[],a00 3 0,[],[],(0,[],()),[],())]:List Z94),()))).bind fun z4=>(show Option (Int×c1y)from cond (decide (z4.1≥2)) (cond (lim ((a02 z4.2.2.1)+1)) (cond (lim ((a02 (a03 z4.2.2.1 ([(5,0,0,0,0,[],a00 3 0,([(16,4,())]:List (Int×Int×Unit)),[],(0,[],()),[],())]:List Z94)))+1)) ((a2Z z4.2.1).bind fun y5=>cond y5.2 (cond (lim ((a02 (a03 (a03 z4.2.2.1 ([(5,0,0,0,0,[],a00 3 0,([(16,4,())]:List (Int×Int×Unit)),[],(0,[],()),[],())]:List Z94)) ([(5,0,0,0,0,[],a00 3 0,([(32,3,()),(16,5,())]:List (Int×Int×Unit)),[],(0,[],()),[],())]:List Z94)))+1)) (some (z4.1,a03 (a03 (a03 z4.2.2.1 ([(5,0,0,0,0,[],a00 3 0,([(16,4,())]:List (Int×Int×Unit)),[],(0,[],()),[],())]:List Z94)) ([(5,0,0,0,0,[],a00 3 0,([(32,3,()),(16,5,())]:List (Int×Int×Unit)),[],(0,[],()),[],())]:List Z94)) ([y5.1]:List Z94),z4.2.1,())) none) (some (z4.1,a03 (a03 z4.2.2.1 ([(5,0,0,0,0,[],a00 3 0,([(16,4,())]:List (Int×Int×Unit)),[],(0,[],()),[],())]:List Z94)) ([(5,0,0,0,0,[],a00 3 0,([(32,3,()),(16,5,())]:List (Int×Int×Unit)),[],(0,[],()),[],())]:List Z94),z4.2.1,()))) none) none) (some (z4.1,z4.2.2.1,z4.2.1,()))).bind fun z6=>(show Option Z98 from cond (decide (z6.1≥3)) ((y0s a1V (0,z6.2.1,z6.2.2.1,())).bind fun w7=>(a0M (1,12,w7.2.1,w7.1)).bind fun y8=>(a0M (2,12,y8.1,y8.2)).bind fun y9=>(a0M (12,14,y9.1,y9.2)).bind fun y10=>(a0M (16,14,y10.1,y10.2)).bind fun y11=>some (y11.2,())) (some (z6.2.1,()))).bind fun z12=>some z12.1
def b4h:FSem:=⟨[.v QL,.v QI],[.v (.list false Q31)],a5y⟩
def H63:Hints:=⟨[(4050,[50,.box 5 (.list true Q31),.box 2 QL,Qp 5 5,.clo 6 141 [2,5]],[Qe 0 [.box 5 (.list true Q31),.box 2 QL,Qp 5 5,.clo 6 141 [2,5]]])],[(15,[Qn [1,.box 2 QL,.box 5 (.list true Q31),Qp 2 2,Qp 5 5,.clo 6 141 [2,5]]]),(31,[Qn [1,.box 5 (.list true Q31),.box 2 QL,Qp 5 5,.clo 6 141 [2,5]]]),(63,[Qn [.box 5 (.list true Q31),Qp 5 5]])],[]⟩
def a5N(s:(LI×(Int×Bool×Z95×c1C))):Option ((LI×(Int×Bool×Z95×c1C)) ⊕ a9p):=(fun(a:LI)(b:Int)(c:Bool)(d:Z95)(e f:Int)(g h:Z94)=>cond (decide (f<e)) ((m0k d f).bind fun x6=>(a9t (x6.1,a,x6)).bind fun y7=>cond (y7.2 != 0) (some (.inl (a,b,c,d,e,wrap .i64 (f+1),g,h,()))) ((a2a (y7.1,(a.length:Int))).bind fun y8=>(show Option (LI×(Int×Bool×Int×Z95×Int×Int×Bool×Z94×a9p))from cond (!c) (some (a,b,c,y8,d,e,f,true,g,h,y7.1,())) (some (a,b,c,y8,d,e,f,decide (y8<b),g,h,y7.1,()))).bind fun z9=>cond z9.2.2.2.2.2.2.2.1 (some (.inl (z9.1,z9.2.2.2.1,true,z9.2.2.2.2.1,z9.2.2.2.2.2.1,wrap .i64 (z9.2.2.2.2.2.2.1+1),z9.2.2.2.2.2.2.2.2.1,z9.2.2.2.2.2.2.2.2.2.2.1,()))) (some (.inl (z9.1,z9.2.1,z9.2.2.1,z9.2.2.2.2.1,z9.2.2.2.2.2.1,wrap .i64 (z9.2.2.2.2.2.2.1+1),z9.2.2.2.2.2.2.2.2.1,z9.2.2.2.2.2.2.2.2.2.1,()))))) (some (.inr (g,h,())))) s.1 s.2.1 s.2.2.1 s.2.2.2.1 s.2.2.2.2.1 s.2.2.2.2.2.1 s.2.2.2.2.2.2.1 s.2.2.2.2.2.2.2.1
def a2b(x:(LI×Int)):Option Z96:=(show Option (LI×b8c)from cond (decide ((x.1.length:Int)<1)) (some (x.1,x.2,true,(0,0,0,0,0,[],a00 3 0,[],[],(0,[],()),[],()),())) (cond (decide ((x.1.length:Int) > 4096)) (some (x.1,x.2,true,(0,0,0,0,0,[],a00 3 0,[],[],(0,[],()),[],()),())) (cond (decide (x.2<0)) (some (x.1,x.2,true,(0,0,0,0,0,[],a00 3 0,[],[],(0,[],()),[],()),())) (some (x.1,x.2,decide (x.2 > 3),(0,0,0,0,0,[],a00 3 0,[],[],(0,[],()),[],()),()))))).bind fun z1=>cond z1.2.2.1 (some ((0,0,0,0,0,[],a00 3 0,[],[],(0,[],()),[],()),1)) ((a1Y z1.1).bind fun y2=>cond (!y2) (some ((0,0,0,0,0,[],a00 3 0,[],[],(0,[],()),[],()),6)) ((a3e z1.1).bind fun y3=>(a5F (z1.1,y3)).bind fun y4=>cond (y4.2 != 0) (some ((0,0,0,0,0,[],a00 3 0,[],[],(0,[],()),[],()),y4.2)) ((a5y (y4.1,z1.2.1)).bind fun y5=>(y0s a5N (z1.1,0,false,y5,(y5.length:Int),0,z1.2.2.2.1,(0,0,0,0,0,[],a00 3 0,[],[],(0,[],()),[],()),())).bind fun w10=>some (w10.2.1,0))))
def c1M:FSem:=⟨[.v QL,.v QI],[.v Q31,.v QI],a2b⟩
def H19:Hints:=⟨[(2042,[.sv 0 QL,9,.sv 10 .bool,.sv 50 (.list false Q31),51,52,.box 4 Q31,.box 8 Q31,Qp 4 4,Qp 8 8],[Qe 0 [.box 4 Q31,.box 8 Q31,Qp 4 4,Qp 8 8]])],[(6,[Qn [.sv 0 QL,1,.sv 31 .bool,.box 4 Q31,Qp 4 4]]),(1045711,[Qn [.sv 0 QL,9,.sv 10 .bool,15,.sv 50 (.list false Q31),51,52,.sv 76 .bool,.box 4 Q31,.box 8 Q31,.box 13 Q31,Qp 4 4,Qp 8 8,Qp 13 13]])],[]⟩
def a4K(x:Z12):Option Int:=cond ((x.2.1.length:Int)==0) (some 0) ((m0k x.2.1 0).bind fun x1=>some (x1.length:Int))
def b9V:FSem:=⟨[.v Q10],[.v QI],a4K⟩
def a5O(x:Int):Option Bool:=cond (decide (4≤x)) (some (decide (x≤24))) (some false)
def b7v:FSem:=⟨[.v QI],[.v .bool],a5O⟩
def a3F(s:((List LI)×(Int×(Int×(LI×Z56))))):Option (((List LI)×(Int×(Int×(LI×Z56)))) ⊕ (((List LI)×Z56) ⊕ (Bool×Unit))):=(fun(a:Int)(b:LI)(c d:Int)(e:Z12)=>cond (decide (d<c)) ((m0k b d).bind fun x8=>(a3l (x8,e.1)).bind fun y9=>cond (!y9) (some (.inr (Sum.inr ((false,()))))) (some (.inl (s.1,s.2.1,a,b,c,wrap .i64 (d+1),e,())))) (some (.inr (Sum.inl (s.1,s.2.1,a,e,()))))) s.2.2.1 s.2.2.2.1 s.2.2.2.2.1 s.2.2.2.2.2.1 s.2.2.2.2.2.2.1
def a3G(s:((List LI)×Z56)):Option (((List LI)×Z56) ⊕ Z0):=cond (decide (s.2.2.1<s.2.1)) ((m0k s.1 s.2.2.1).bind fun x6=>(a4K s.2.2.2.1).bind fun y7=>cond ((x6.length:Int) != y7) (some (.inr (Sum.inr ((false,()))))) ((y0s a3F (s.1,s.2.1,s.2.2.1,x6,(x6.length:Int),0,s.2.2.2.1,())).bind fun w10=>match w10 with |.inl a11=>some (.inl (a11.1,a11.2.1,wrap .i64 (a11.2.2.1+1),a11.2.2.2.1,())) |.inr b12=>some (.inr (Sum.inr ((b12.1,())))))) (some (.inr (Sum.inl ())))
def a6f(x:Z12):Option Bool:=(show Option Z49 from(a5O x.1).bind fun y1=>cond (!y1) (some (true,x,())) (cond (decide ((x.2.1.length:Int)<1)) (some (true,x,())) (some (decide ((x.2.1.length:Int) > 8),x,())))).bind fun z2=>cond z2.1 (some false) ((show Option Z49 from(a4K z2.2.1).bind fun y3=>cond (decide (y3<1)) (some (true,z2.2.1,())) ((a4K z2.2.1).bind fun y4=>some (decide (y4 > 4096),z2.2.1,()))).bind fun z5=>cond z5.1 (some false) ((y0s a3G (z5.2.1.2.1,(z5.2.1.2.1.length:Int),0,z5.2.1,())).bind fun w13=>match w13 with |.inl a14=>some true |.inr b15=>some b15.1))
def b9W:FSem:=⟨[.v Q10],[.v .bool],a6f⟩
def H39:Hints:=⟨[(122,[.sv 32 (.list false QL),33,34,.vp 1 Q10],[Qe 0 [],Qr [.sv 2 .bool]]),(62670,[.sv 32 (.list false QL),33,34,.sv 43 QL,44,45,.vp 1 Q10],[Qe 2 [.sv 32 (.list false QL),33,34,.vp 1 Q10],Qr [.sv 2 .bool]])],[(6,[Qn [.sv 22 .bool,.vp 1 Q10]]),(14,[Qn [.sv 30 .bool,.vp 1 Q10]])],[]⟩
def a5P(x:Z8):Option Bool:=cond (decide (1≤x.1)) (cond (decide (x.1≤1048576)) (cond (decide (1≤x.2.1)) (cond (decide (x.2.1≤8)) ((a5O x.2.2.1).bind fun y1=>some y1) (some false)) (some false)) (some false)) (some false)
def b7w:FSem:=⟨[.v Q8],[.v .bool],a5P⟩
def a7u(x:Int):Option Bool:=cond (decide ((-1073741824)≤x)) (some (decide (x<1073741824))) (some false)
def b9X:FSem:=⟨[.v QI],[.v .bool],a7u⟩
def a3H(s:((List LI)×((List LI)×Z43))):Option (((List LI)×((List LI)×Z43)) ⊕ (((List LI)×Z25) ⊕ (Bool×Unit))):=(fun(a b:Int)(c:LI)(d e:Int)=>cond (decide (e<d)) ((m0k c e).bind fun x5=>(a7u x5).bind fun y6=>cond (!y6) (some (.inr (Sum.inr ((false,()))))) (some (.inl (s.1,s.2.1,a,b,c,d,wrap .i64 (e+1),())))) (some (.inr (Sum.inl (s.1,s.2.1,a,b,()))))) s.2.2.1 s.2.2.2.1 s.2.2.2.2.1 s.2.2.2.2.2.1 s.2.2.2.2.2.2.1
def a3I(s:((List LI)×Z25)):Option (((List LI)×Z25) ⊕ Z0):=(fun(a b:Int)=>cond (decide (b<a)) ((m0k s.2.1 b).bind fun x3=>(m0k s.1 0).bind fun x4=>cond ((x3.length:Int) != (x4.length:Int)) (some (.inr (Sum.inr ((false,()))))) ((y0s a3H (s.1,s.2.1,a,b,x3,(x3.length:Int),0,())).bind fun w7=>match w7 with |.inl a8=>some (.inl (a8.1,a8.2.1,a8.2.2.1,wrap .i64 (a8.2.2.2.1+1),())) |.inr b9=>some (.inr (Sum.inr ((b9.1,())))))) (some (.inr (Sum.inl ())))) s.2.2.1 s.2.2.2.1
def a6g(x:(List LI)):Option Bool:=(show Option ((List LI)×(Bool×Unit))from cond (decide ((x.length:Int)<1)) (some (x,true,())) (cond (decide ((x.length:Int) > 8)) (some (x,true,())) ((m0k x 0).bind fun x1=>some (x,decide ((x1.length:Int) > 4096),())))).bind fun z2=>cond z2.2.1 (some false) ((y0s a3I (z2.1,z2.1,(z2.1.length:Int),0,())).bind fun w10=>match w10 with |.inl a11=>some true |.inr b12=>some b12.1)
def b3K:FSem:=⟨[.v (.list false QL)],[.v .bool],a6g⟩
def c9c:Hints:=⟨[(58,[.sv 0 (.list false QL),.sv 22 (.list false QL),23,24],[Qe 0 [],Qr [.sv 2 .bool]]),(29902,[.sv 0 (.list false QL),.sv 22 (.list false QL),23,24,.sv 35 QL,36,37],[Qe 2 [.sv 0 (.list false QL),.sv 22 (.list false QL),23,24],Qr [.sv 2 .bool]])],[(6,[Qn [.sv 0 (.list false QL),.sv 21 .bool]])],[]⟩
def a5Q(s:(Int×Z17×Int×Int×Unit)):Option ((Int×Z17×Int×Int×Unit) ⊕ Z0):=(fun(a:Int)(b:Z17)(c d:Int)=>cond (decide (d<c)) ((m0k b d).bind fun x2=>(show Option (Int×Z17×Int×Int×Bool×Z8×Unit)from cond (decide (x2.1<0)) (some (a,b,c,d,true,x2,())) (cond (decide (x2.1≥a)) (some (a,b,c,d,true,x2,())) (cond (decide (x2.2.1<0)) (some (a,b,c,d,true,x2,())) (cond (decide (x2.2.1≥a)) (some (a,b,c,d,true,x2,())) (some (a,b,c,d,x2.1==x2.2.1,x2,())))))).bind fun z3=>cond z3.2.2.2.2.1 (some (.inr (Sum.inr ((false,()))))) ((show Option (Int×Z17×Z9)from cond (decide (z3.2.2.2.2.2.1.2.2.1<(-1024))) (some (z3.1,z3.2.1,z3.2.2.1,z3.2.2.2.1,true,())) (some (z3.1,z3.2.1,z3.2.2.1,z3.2.2.2.1,decide (z3.2.2.2.2.2.1.2.2.1 > 1024),()))).bind fun z4=>cond z4.2.2.2.2.1 (some (.inr (Sum.inr ((false,()))))) (some (.inl (z4.1,z4.2.1,z4.2.2.1,wrap .i64 (z4.2.2.2.1+1),()))))) (some (.inr (Sum.inl ())))) s.1 s.2.1 s.2.2.1 s.2.2.2.1
def a6T(x:(Z17×Int)):Option Bool:=(show Option (Z17×Int×Bool×Unit)from cond (decide (x.2<1)) (some (x.1,x.2,true,())) (cond (decide (x.2 > 8)) (some (x.1,x.2,true,())) (some (x.1,x.2,decide ((x.1.length:Int) > 16),())))).bind fun z1=>cond z1.2.2.1 (some false) ((y0s a5Q (z1.2.1,z1.1,(z1.1.length:Int),0,())).bind fun w5=>match w5 with |.inl a6=>some true |.inr b7=>some b7.1)
def b4I:FSem:=⟨[.v (.list false Q8),.v QI],[.v .bool],a6T⟩
def c9d:Hints:=⟨[(58,[1,.sv 18 (.list false Q8),19,20],[Qe 0 [],Qr [.sv 4 .bool]])],[(6,[Qn [.sv 0 (.list false Q8),1,.sv 17 .bool]]),(7474,[Qn [1,.sv 18 (.list false Q8),19,20,.sv 50 .bool,.box 6 Q8,Qp 6 6]]),(7475,[Qn [1,.sv 18 (.list false Q8),19,20,.sv 58 .bool]])],[]⟩
def a5z(s:((List LI)×Z26)):Option (((List LI)×Z26) ⊕ Z3):=cond (decide (s.2.2.1<s.2.1)) ((m0k s.1 s.2.2.1).bind fun x1=>(a0Y x1).bind fun y2=>cond (lim ((a02 s.2.2.2.1)+(a02 (a05 ([[]]:List LI) 0 y2)))) (some (.inl (s.1,s.2.1,wrap .i64 (s.2.2.1+1),a03 s.2.2.2.1 (a05 ([[]]:List LI) 0 y2),()))) none) (some (.inr (s.2.2.2.1,())))
def a5R(x:(List LI)):Option (List LI):=(y0s a5z (x,(x.length:Int),0,([]:(List LI)),())).bind fun w3=>some w3.1
def b2y:FSem:=⟨[.v (.list false QL)],[.o (.list true QI)],a5R⟩
def c9e:Hints:=⟨[(58,[.sv 6 (.list false QL),7,8,.own 3 3 (.list true QI)],[Qe 0 [.own 3 3 (.list true QI)]])],[],[]⟩
def a3h(s:(Int×(Int×(Int×((List LI)×(Z8×Int×Unit)))))):Option ((Int×(Int×(Int×((List LI)×(Z8×Int×Unit))))) ⊕ (Z3 ⊕ (Bool×Z3))):=(fun(a:Int)(b:List LI)(c:Z8)(d:Int)=>cond (decide (a<s.2.1)) (cond ((decide (0≤a))&&(decide (a<((a02 (a04 b (a01 d) []):Nat):Int)))) (cond ((decide (0≤c.2.1))&&(decide (c.2.1<(b.length:Int)))) (cond ((decide (0≤a))&&(decide (a<((a02 (a04 b (a01 c.2.1) []):Nat):Int)))) ((a7u (wrap .i64 ((a04 (a04 b (a01 c.2.1) []) (a01 a) 0)+(wrap .i64 (s.1*(A0o .i64 (wrap .i64 (c.2.2.1*(a04 (a04 b (a01 d) []) (a01 a) 0))) 8)))))).bind fun y1=>cond (!y1) (some (.inr (Sum.inr ((false,b,()))))) (cond ((decide (0≤c.2.1))&&(decide (c.2.1<(b.length:Int)))) (cond ((decide (0≤a))&&(decide (a<((a02 (a04 b (a01 c.2.1) []):Nat):Int)))) (some (.inl (s.1,s.2.1,wrap .i64 (a+1),a05 b (a01 c.2.1) (a05 (a04 b (a01 c.2.1) []) (a01 a) (wrap .i64 ((a04 (a04 b (a01 c.2.1) []) (a01 a) 0)+(wrap .i64 (s.1*(A0o .i64 (wrap .i64 (c.2.2.1*(a04 (a04 b (a01 d) []) (a01 a) 0))) 8)))))),c,((a01 d:Nat):Int),()))) none) none)) none) none) none) (some (.inr (Sum.inl (b,()))))) s.2.2.1 s.2.2.2.1 s.2.2.2.2.1 s.2.2.2.2.2.1
def a6v(x:((List LI)×(Z8×Int))):Option (Bool×(List LI)):=cond ((decide (0≤x.2.1.1))&&(decide (x.2.1.1<(x.1.length:Int)))) ((y0s a3h (x.2.2,((a02 (a04 x.1 (a01 x.2.1.1) []):Nat):Int),0,x.1,x.2.1,((a01 x.2.1.1:Nat):Int),())).bind fun w2=>match w2 with |.inl a3=>some (true,a3.1) |.inr b4=>some (b4.1,b4.2.1)) none
def b2X:FSem:=⟨[.r false (.o (.list true QI)),.v Q8,.v QI],[.v .bool],a6v⟩
def c9f:Hints:=⟨[(26,[2,15,16,.own 0 pinned (.list true QI),.vp 4 Q8,.rfi 14 pinned],[Qe 0 [.own 0 pinned (.list true QI)],Qr [.sv 6 .bool,.own 0 pinned (.list true QI)]])],[],[(4,[.q,.v,.v,.q,.q,.v,.q,.q,.v,.v,.v,.v,.v,.v,.v,.x,.x])]⟩
def a6w(s:(Z17×Z26)):Option ((Z17×Z26) ⊕ (Z3 ⊕ Z13)):=cond (decide (s.2.2.1<s.2.1)) ((m0k s.1 s.2.2.1).bind fun x5=>(a6v (s.2.2.2.1,x5,1)).bind fun y6=>cond (!y6.1) (some (.inr (Sum.inr ((([]:(List LI)),6,()))))) (some (.inl (s.1,s.2.1,wrap .i64 (s.2.2.1+1),y6.2,())))) (some (.inr (Sum.inl (s.2.2.2.1,()))))
def a9g(x:((List LI)×Z17)):Option ((List LI)×Int):=(show Option ((List LI)×(Z17×Bool×Unit))from(a6g x.1).bind fun y1=>cond (!y1) (some (x.1,x.2,true,())) ((a6T (x.2,(x.1.length:Int))).bind fun y2=>some (x.1,x.2,!y2,()))).bind fun z3=>cond z3.2.2.1 (some (([]:(List LI)),1)) ((a5R z3.1).bind fun y4=>(y0s a6w (z3.2.1,(z3.2.1.length:Int),0,y4,())).bind fun w7=>match w7 with |.inl a8=>some (a8.1,0) |.inr b9=>some (b9.1,b9.2.1))
def c3b:FSem:=⟨[.v (.list false QL),.v (.list false Q8)],[.v (.list false QL),.v QI],a9g⟩
def H43:Hints:=⟨[(122,[.sv 21 (.list false Q8),22,23,.own 6 6 (.list true QI)],[Qe 0 [.own 6 6 (.list true QI)],Qr [.sv 4 (.list false QL),5]])],[(6,[Qn [.sv 0 (.list false QL),.sv 1 (.list false Q8),.sv 18 .bool]])],[]⟩
def a5A(s:(Int×(LI×Z40))):Option ((Int×(LI×Z40)) ⊕ Z40):=(fun(a:LI)(b:Int)(c:List LI)(d e:Int)=>cond (decide (b<(a.length:Int))) ((m0k a b).bind fun x3=>(m0k a (wrap .i64 (b-1))).bind fun x4=>(m0k a (wrap .i64 (b-2))).bind fun x5=>some (.inl (wrap .i64 (s.1+(v0r (wrap .i64 ((wrap .i64 (x3-(wrap .i64 (2*x4))))+x5)) (wrap .i64 (0-(wrap .i64 ((wrap .i64 (x3-(wrap .i64 (2*x4))))+x5)))))),a,wrap .i64 (b+1),c,d,e,()))) (some (.inr (s.1,c,d,e,())))) s.2.1 s.2.2.1 s.2.2.2.1 s.2.2.2.2.1 s.2.2.2.2.2.1
def a5B(s:Z40):Option (Z40 ⊕ (Int×Unit)):=(fun(a b:Int)=>cond (decide (b<a)) ((m0k s.2.1 b).bind fun x2=>(y0s a5A (s.1,x2,2,s.2.1,a,b,())).bind fun w6=>some (.inl (w6.1,w6.2.1,w6.2.2.1,wrap .i64 (w6.2.2.2.1+1),()))) (some (.inr (s.1,())))) s.2.2.1 s.2.2.2.1
def a5S(x:(List LI)):Option Int:=(a6g x).bind fun y1=>cond (!y1) (some 0) ((y0s a5B (0,x,(x.length:Int),0,())).bind fun w7=>some w7.1)
def b7x:FSem:=⟨[.v (.list false QL)],[.v QI],a5S⟩
def c9g:Hints:=⟨[(122,[3,.sv 11 (.list false QL),12,13],[Qe 0 [3]]),(31334,[3,.sv 5 QL,6,.sv 11 (.list false QL),12,13],[Qe 2 [3,.sv 11 (.list false QL),12,13]])],[],[(10,[.v,.v,.v,.v,.v,.v,.v,.v,.v,.v,.v,.v,.v,.v,.v,.v,.x,.x])]⟩
def a8d(x:Int):Option Z17:=cond (x==1) (some ([(0,1,(-256),())]:List Z8)) (cond (x==2) (some ([(1,0,(-256),())]:List Z8)) (cond (x==3) (some ([(1,0,(-256),()),(0,1,128,())]:List Z8)) (cond (x==4) (some ([(1,0,(-106),()),(0,1,181,()),(1,0,(-106),())]:List Z8)) (some []))))
def b8v:FSem:=⟨[.v QI],[.o Q8],a8d⟩
def a5c(s:((List LI)×Z8)):Option (((List LI)×Z8) ⊕ (Int×Unit)):=(fun(a:List LI)(b c d:Int)=>cond (decide (d<5)) ((a8d d).bind fun y2=>(a9g (a,y2)).bind fun y3=>cond (y3.2 != 0) (some (.inl (a,b,c,wrap .i64 (d+1),()))) ((a5S y3.1).bind fun y4=>cond (decide (y4<c)) (some (.inl (a,d,y4,wrap .i64 (d+1),()))) (some (.inl (a,b,c,wrap .i64 (d+1),()))))) (some (.inr (b,())))) s.1 s.2.1 s.2.2.1 s.2.2.2.1
def a8N(x:(List LI)):Option Z17:=(a5S x).bind fun y1=>(y0s a5c (x,0,y1,1,())).bind fun w5=>(a8d w5.1).bind fun y6=>some y6
def b9Y:FSem:=⟨[.v (.list false QL)],[.o Q8],a8N⟩
def c9h:Hints:=⟨[(58,[.sv 0 (.list false QL),3,4,5],[Qe 0 [3]])],[],[]⟩
def a5d(s:(Int×Int×Int×Z17×Z81)):Option ((Int×Int×Int×Z17×Z81) ⊕ (Int×Z81)):=(fun(a b:Int)(c d:Z17)(e:Z12)=>cond (decide (b<s.2.1)) (cond ((decide (0≤b))&&(decide (b<(d.length:Int)))) (cond (lim ((a02 c)+1)) (some (.inl (a,s.2.1,wrap .i64 (b+1),a03 c ([(wrap .i64 (((a04 d (a01 b) (0,0,0,())).1)+a),wrap .i64 ((((a04 d (a01 b) (0,0,0,())).2).1)+a),(((a04 d (a01 b) (0,0,0,())).2).2).1,())]:List Z8),d,e,()))) none) none) (some (.inr (a,c,e,())))) s.1 s.2.2.1 s.2.2.2.1 s.2.2.2.2.1 s.2.2.2.2.2.1
def a6U(s:(Int×Z81)):Option ((Int×Z81) ⊕ (Z17×Unit)):=(fun(a:Int)(b:Z12)=>cond (decide ((wrap .i64 (a+1))<(b.2.1.length:Int))) (cond ((decide (0≤(wrap .i64 (a+2))))&&(decide ((wrap .i64 (a+2))≤(b.2.1.length:Int)))) (cond ((decide (0≤a))&&(decide (a≤((a01 (wrap .i64 (a+2)):Nat):Int)))) ((a8N (a23 (a01 a) (a06 (a01 (wrap .i64 (a+2))) b.2.1))).bind fun y2=>(y0s a5d (a,(y2.length:Int),0,s.2.1,y2,b,())).bind fun w3=>some (.inl (wrap .i64 (w3.1+2),w3.2.1,w3.2.2.1,()))) none) none) (some (.inr (s.2.1,())))) s.1 s.2.2.1
def a6h(x:Z12):Option Z17:=(a6f x).bind fun y1=>cond (!y1) (some []) ((y0s a6U (0,[],x,())).bind fun w4=>some w4.1)
def b9Z:FSem:=⟨[.v Q10],[.o Q8],a6h⟩
def H42:Hints:=⟨[(122,[4,.own 3 3 Q8,.vp 1 Q10],[Qe 0 [.own 3 3 Q8]]),(7826,[4,25,26,.own 3 3 Q8,.own 24 1024 Q8,.vp 1 Q10],[Qe 2 [4,.own 3 3 Q8,.vp 1 Q10]])],[],[]⟩
def a4y(s:(Int×((List LI)×(Int×c1D)))):Option ((Int×((List LI)×(Int×c1D))) ⊕ (c4a ⊕ (Int×b2R))):=(fun(a b:Int)(c d:a3j)=>cond (decide (b<a)) ((m0k s.2.1 b).bind fun x8=>(a2b (x8,s.1)).bind fun y9=>cond (y9.2 != 0) (some (.inr (Sum.inr ((y9.2,(0,0,(0,0,0,()),[],[],()),()))))) (cond (lim ((a02 d.2.2.2.2.1)+1)) (some (.inl (s.1,s.2.1,a,wrap .i64 (b+1),c,(d.1,d.2.1,d.2.2.1,d.2.2.2.1,a03 d.2.2.2.2.1 ([y9.1]:List Z94),d.2.2.2.2.2),()))) none)) (some (.inr (Sum.inl (c,d,()))))) s.2.2.1 s.2.2.2.1 s.2.2.2.2.1 s.2.2.2.2.2.1
def a3a(x:(Z12×Z8×Int×Int)):Option (a3j×Int):=(show Option (Int×Int×Bool×a3j×Z12×Z8×Unit)from(a6f x.1).bind fun y1=>cond (!y1) (some (x.2.2.1,x.2.2.2,true,(0,0,(0,0,0,()),[],[],()),x.1,x.2.1,())) ((a5P x.2.1).bind fun y2=>cond (!y2) (some (x.2.2.1,x.2.2.2,true,(0,0,(0,0,0,()),[],[],()),x.1,x.2.1,())) (cond (x.1.1 != x.2.1.2.2.1) (some (x.2.2.1,x.2.2.2,true,(0,0,(0,0,0,()),[],[],()),x.1,x.2.1,())) (cond ((x.1.2.1.length:Int) != x.2.1.2.1) (some (x.2.2.1,x.2.2.2,true,(0,0,(0,0,0,()),[],[],()),x.1,x.2.1,())) (cond (decide (x.2.2.2<0)) (some (x.2.2.1,x.2.2.2,true,(0,0,(0,0,0,()),[],[],()),x.1,x.2.1,())) (cond (decide (x.2.2.2 > 3)) (some (x.2.2.1,x.2.2.2,true,(0,0,(0,0,0,()),[],[],()),x.1,x.2.1,())) (some (x.2.2.1,x.2.2.2,decide (x.2.2.1<0),(0,0,(0,0,0,()),[],[],()),x.1,x.2.1,())))))))).bind fun z3=>cond z3.2.2.1 (some ((0,0,(0,0,0,()),[],[],()),1)) ((a4K z3.2.2.2.2.1).bind fun y4=>cond (decide (z3.1 > (wrap .i64 (4194304-y4)))) (some ((0,0,(0,0,0,()),[],[],()),4)) ((show Option (Int×a3j×a3j×Z30)from cond (decide (z3.2.1 > 0)) ((a6h z3.2.2.2.2.1).bind fun y5=>some (z3.2.1,z3.2.2.2.1,(z3.1,y4,z3.2.2.2.2.2.1,y5,[],()),z3.2.2.2.2.1,())) (some (z3.2.1,z3.2.2.2.1,(z3.1,y4,z3.2.2.2.2.2.1,[],[],()),z3.2.2.2.2.1,()))).bind fun z6=>(a9g (z6.2.2.2.1.2.1,z6.2.2.1.2.2.2.1)).bind fun y7=>cond (y7.2 != 0) (some ((0,0,(0,0,0,()),[],[],()),y7.2)) ((y0s a4y (z6.1,y7.1,(y7.1.length:Int),0,z6.2.1,z6.2.2.1,())).bind fun w10=>match w10 with |.inl a11=>some (a11.2.1,0) |.inr b12=>some (b12.2.1,b12.1))))
def b8w:FSem:=⟨[.v Q10,.v Q8,.v QI,.v QI],[.v Q49,.v QI],a3a⟩
def H12:Hints:=⟨[(2042,[3,.sv 81 (.list false QL),82,83,.box 8 Q49,.box 10 Q48,Qp 8 8,Qp 10 10],[Qe 0 [.box 8 Q49,.box 10 Q48,Qp 8 8,Qp 10 10],Qr [9,.box 8 Q49,Qp 8 8]])],[(6,[Qn [2,3,.sv 51 .bool,.box 8 Q49,.vp 4 Q10,.vp 5 Q8,Qp 8 8]]),(31,[Qn [3,.box 8 Q49,.box 10 Q48,.vp 4 Q10,Qp 8 8,Qp 10 10]])],[(3,[.v,.v,.v,.v,.v,.q,.x])]⟩
def a5T(x:a3j):Option Bool:=(a5P x.2.2.1).bind fun y1=>cond y1 (cond (decide (x.2.1≥1)) (cond (decide (x.2.1≤4096)) (cond (decide (x.1≥0)) (cond (decide (x.1≤(wrap .i64 (4194304-x.2.1)))) ((a6T (x.2.2.2.1,x.2.2.1.2.1)).bind fun y2=>some y2) (some false)) (some false)) (some false)) (some false)) (some false)
def b7y:FSem:=⟨[.v Q49],[.v .bool],a5T⟩
def a5e(k:Int)(v:Z8)(s:(Z17×((List LI)×Z12))):Option ((Z17×((List LI)×Z12)) ⊕ (Ex×(Z17×((List LI)×Z12)))):=(a6v (s.2.2.2.1,v,(-1))).bind fun y5=>cond (!y5.1) (some (.inr (.ret,s.1,([]:(List LI)),6,y5.2,()))) (some (.inl (s.1,s.2.1,s.2.2.1,y5.2,())))
def a8O(x:((List LI)×Z17)):Option ((List LI)×Int):=(show Option ((List LI)×(Z17×Bool×Z13))from(a6g x.1).bind fun y1=>cond (!y1) (some (x.1,x.2,true,([]:(List LI)),0,())) ((a6T (x.2,(x.1.length:Int))).bind fun y2=>some (x.1,x.2,!y2,([]:(List LI)),0,()))).bind fun z3=>cond z3.2.2.1 (some (([]:(List LI)),1)) ((a5R z3.1).bind fun y4=>cond (lim (a02 z3.2.1)) ((l0f a5e z3.2.1 (a02 z3.2.1) (z3.2.1,z3.2.2.2.1,z3.2.2.2.2.1,y4,())).bind fun w6=>match w6 with |.inl a7=>some (a7.2.2.2.1,0) |.inr (.normal,a8)=>some (a8.2.2.2.1,0) |.inr (.exit e9,a8)=>(cond (e9==0) (some (a8.2.2.2.1,0)) none) |.inr (.ret,a8)=>some (a8.2.1,a8.2.2.1)) none)
def a8P:FSem:=⟨[.v (.list false QL),.v (.list false Q8)],[.v (.list false QL),.v QI],a8O⟩
def H73:Hints:=⟨[],[(6,[Qn [.sv 0 (.list false QL),.sv 1 (.list false Q8),.sv 18 .bool,.box 4 (.list false QL),.box 5 QI,Qp 4 4,Qp 5 5]])],[]⟩
def c5Z:Cx:=b2S [(106,b3K),(107,b4I),(108,b2y),(109,b2X)] [(6,.list true (.list true QI))] 3 536870912
def R73:HintR:=⟨21,Q8,156,238,[4,5,6],[.sv 21 (.list false Q8),.box 1001004 (.list false QL),.box 1001005 QI,.box 1001006 (.list true (.list true QI)),.ptr 4 1001004 [],.ptr 5 1001005 [],.ptr 6 1001006 []]⟩
theorem c9i(x):z0h c5Z H73 R73 Tryz.f73 a8P.ps a8P.rs x=a8P.F x:=by kernel_rfl
def a3R(s:(Z95×(Int×(Int×((List LI)×c1B))))):Option ((Z95×(Int×(Int×((List LI)×c1B)))) ⊕ (((List LI)×c1B) ⊕ Z46)):=(fun(a:Int)(b:List LI)(c:Z12)(d:a3j)=>cond (decide (a<s.2.1)) ((m0k s.1 a).bind fun x3=>(a9f (x3,d.2.1)).bind fun y4=>cond (y4.2 != 0) (some (.inr (Sum.inr ((1,(0,([]:(List LI)),()),()))))) (cond (lim ((a02 b)+1)) (some (.inl (s.1,s.2.1,wrap .i64 (a+1),a03 b ([y4.1]:List LI),c,d,()))) none)) (some (.inr (Sum.inl (b,c,d,()))))) s.2.2.1 s.2.2.2.1 s.2.2.2.2.1 s.2.2.2.2.2.1
def a2x(x:a3j):Option (Z12×Int):=(show Option (Bool×c1B)from(a5T x).bind fun y1=>cond (!y1) (some (true,(0,([]:(List LI)),()),x,())) (some ((x.2.2.2.2.1.length:Int) != x.2.2.1.2.1,(0,([]:(List LI)),()),x,()))).bind fun z2=>cond z2.1 (some ((0,([]:(List LI)),()),1)) (cond ((decide (0≤(z2.2.2.1.2.2.2.2.1.length:Int)))&&(lim (a01 (z2.2.2.1.2.2.2.2.1.length:Int)))) ((y0s a3R (z2.2.2.1.2.2.2.2.1,(z2.2.2.1.2.2.2.2.1.length:Int),0,([]:(List LI)),z2.2.1,z2.2.2.1,())).bind fun w5=>match w5 with |.inl a6=>((a8O (a6.1,a6.2.2.1.2.2.2.1)).bind fun y8=>cond (y8.2 != 0) (some ((0,([]:(List LI)),()),1)) ((a6f (a6.2.2.1.2.2.1.2.2.1,y8.1,())).bind fun y9=>cond (!y9) (some ((0,([]:(List LI)),()),1)) (some ((a6.2.2.1.2.2.1.2.2.1,y8.1,()),0)))) |.inr b7=>some (b7.2.1,b7.1)) none)
def b7z:FSem:=⟨[.v Q49],[.v Q10,.v QI],a2x⟩
def H22:Hints:=⟨[(122,[.sv 30 (.list false Q31),31,32,.own 4 4 QL,.box 2 Q10,.vp 1 Q49,Qp 2 2],[Qe 0 [.own 4 4 QL,.box 2 Q10,.vp 1 Q49,Qp 2 2],Qr [3,.box 2 Q10,Qp 2 2]])],[(6,[Qn [.sv 23 .bool,.box 2 Q10,.vp 1 Q49,Qp 2 2]])],[]⟩
def a3y(x:a3j):Option Bool:=(a2x x).bind fun y1=>some (y1.2==0)
def c0A:FSem:=⟨[.v Q49],[.v .bool],a3y⟩
def a2R(s:Z20):Option (Z20 ⊕ Z20):=cond ((a18 s.1.2.1 8) != 0) ((a1L (s.1,0)).bind fun y2=>some (.inl (y2,()))) (some (.inr (s.1,())))
def a4c(x:Z5):Option Z5:=(y0s a2R (x,())).bind fun w3=>some w3.1
def b2L:FSem:=⟨[.r false (.b Q5)],[],a4c⟩
def H46:Hints:=⟨[(2,[.box pinned Q5,Qp 0 pinned],[Qe 0 [.box pinned Q5]])],[],[]⟩
def a4d(x:Z5):Option (LI×Z5):=cond (lim (a02 x.1)) (some (x.1,x)) none
def b2M:FSem:=⟨[.r false (.b Q5)],[.o QV],a4d⟩
def a8Q(x:Int):Option Int:=cond (decide (x≥0)) (some (wrap .u64 (2*(wrap .u64 x)))) (some (wrap .u64 ((wrap .u64 (2*(wrap .u64 (wrap .i64 (0-(wrap .i64 (x+1)))))))+1)))
def c0B:FSem:=⟨[.v QI],[.v QU],a8Q⟩
def a6V(s:Z53):Option (Z53 ⊕ Z53):=(fun(a b c:Int)(d:LI)=>cond (decide (a≥128)) (cond (lim ((a02 d)+1)) (some (.inl (wrap .u64 (a09 a 128),s.2.1,b,c,a03 d [wrap .u8 ((wrap .u8 (a18 a 128))+128)],()))) none) (some (.inr (a,s.2.1,b,c,d,())))) s.1 s.2.2.1 s.2.2.2.1 s.2.2.2.2.1
def a6W(s:Z37):Option (Z37 ⊕ (LI×Unit)):=cond (decide (s.2.2.1<s.2.1)) ((m0k s.1 s.2.2.1).bind fun x1=>(y0s a6V (x1,s.1,s.2.1,s.2.2.1,s.2.2.2.1,())).bind fun w2=>cond (lim ((a02 w2.2.2.2.2.1)+1)) (some (.inl (w2.2.1,w2.2.2.1,wrap .i64 (w2.2.2.2.1+1),a03 w2.2.2.2.2.1 [wrap .u8 w2.1],()))) none) (some (.inr (s.2.2.2.1,())))
def a8R(x:LI):Option LI:=(y0s a6W (x,(x.length:Int),0,[],())).bind fun w3=>some w3.1
def c0C:FSem:=⟨[.v (.list false QU)],[.o QV],a8R⟩
def c9j:Hints:=⟨[(58,[.sv 6 (.list false QU),7,8,.own 3 3 QV],[Qe 0 [.own 3 3 QV]]),(14948,[.sv 5 QU,.sv 6 (.list false QU),7,8,.own 3 3 QV],[Qe 2 [.sv 5 QU,.sv 6 (.list false QU),7,8,.own 3 3 QV]])],[],[]⟩
def a8e(s:Z47):Option (Z47 ⊕ Z27):=(fun(a:Int)(b:LI)(c d e:Int)=>cond (decide (e<8)) (cond ((A0o .u8 a 7)==1) (some (.inl (bits .u8 .xor (A0n .u8 a 1) 7,b,c,d,wrap .i64 (e+1),()))) (some (.inl (A0n .u8 a 1,b,c,d,wrap .i64 (e+1),())))) (some (.inr (a,b,c,d,())))) s.1 s.2.1 s.2.2.1 s.2.2.2.1 s.2.2.2.2.1
def a6r(s:Z27):Option Z58:=(fun(a b:Int)=>cond (decide (b<a)) ((m0k s.2.1 b).bind fun x1=>(y0s a8e (bits .u8 .xor s.1 x1,s.2.1,a,b,0,())).bind fun w2=>some (.inl (w2.1,w2.2.1,w2.2.2.1,wrap .i64 (w2.2.2.2.1+1),()))) (some (.inr (s.1,())))) s.2.2.1 s.2.2.2.1
def a6x(x:LI):Option Int:=(y0s a6r (0,x,(x.length:Int),0,())).bind fun w3=>some w3.1
def b8x:FSem:=⟨[.v QB],[.v QV],a6x⟩
def c9k:Hints:=⟨[(58,[.sv 3 QV,.sv 7 QB,8,9],[Qe 0 [.sv 3 QV]]),(29902,[.sv 3 QV,.sv 7 QB,8,9,16],[Qe 2 [.sv 3 QV,.sv 7 QB,8,9]])],[],[]⟩
def a4z(s:(Int×Z17×Z15)):Option ((Int×Z17×Z15) ⊕ Z4):=(fun(a b:Int)(c:LI)=>cond (decide (b<a)) ((m0k s.2.1 b).bind fun x1=>(a8Q x1.2.2.1).bind fun y2=>cond (lim ((a02 c)+3)) (some (.inl (s.1,s.2.1,a,wrap .i64 (b+1),a03 c [wrap .u64 x1.1,wrap .u64 x1.2.1,y2],()))) none) (some (.inr (s.1,c,())))) s.2.2.1 s.2.2.2.1 s.2.2.2.2.1
def a6s(x:(a3j×Int)):Option LI:=(y0s a4z (x.2,x.1.2.2.2.1,(x.1.2.2.2.1.length:Int),0,([wrap .u64 x.1.1,wrap .u64 x.1.2.1,wrap .u64 x.1.2.2.1.1,wrap .u64 x.1.2.2.1.2.1,wrap .u64 x.1.2.2.1.2.2.1,wrap .u64 (x.1.2.2.2.1.length:Int)]:List Int),())).bind fun w3=>cond (lim ((a02 w3.2.1)+1)) ((a8R (a03 w3.2.1 [wrap .u64 w3.1])).bind fun y4=>cond (lim (2+(a02 y4))) ((a6x (a03 [245,75] y4)).bind fun y5=>cond (lim ((a02 (a03 [245,75] y4))+1)) (some (a03 (a03 [245,75] y4) [y5])) none) none) none
def b4J:FSem:=⟨[.v Q49,.v QI],[.o QV],a6s⟩
def H48:Hints:=⟨[(58,[1,.sv 33 (.list false Q8),34,35,.own 5 5 QU],[Qe 0 [1,.own 5 5 QU]])],[],[(5,[.q,.q,.q,.v,.q,.q,.v,.q,.q,.v,.q,.x,.x])]⟩
def a9r(x:Int):Option Int:=some (v0s (v0r x 0) 8)
def b7A:FSem:=⟨[.v QI],[.v QI],a9r⟩
def a3S(s:Z28):Option (Z28 ⊕ (LI×Unit)):=cond (decide (s.2.2.1<s.2.1)) (cond (lim ((a02 s.2.2.2.1)+1)) (some (.inl (wrap .u64 (a09 s.1 256),s.2.1,wrap .i64 (s.2.2.1+1),a03 s.2.2.2.1 [wrap .u8 (a18 s.1 256)],()))) none) (some (.inr (s.2.2.2.1,())))
def a7A(x:(Int×Int)):Option LI:=(a9r x.2).bind fun y1=>(y0s a3S (x.1,y1,0,[],())).bind fun w2=>some w2.1
def b7B:FSem:=⟨[.v QU,.v QI],[.o QV],a7A⟩
def H91:Hints:=⟨[(58,[.sv 0 QU,7,8,.own 5 5 QV],[Qe 0 [.own 5 5 QV]])],[],[]⟩
def a2A(x:LI):Option LI:=cond (decide (a02 x<2147483648)) (some (List.reverse x)) none
def a8p:FSem:=⟨[.r false (.o QV)],[],a2A⟩
def a8S(x:(Int×Int)):Option LI:=(a7A (x.1,x.2)).bind fun y1=>(a2A y1).bind fun y2=>some y2
def c0D:FSem:=⟨[.v QU,.v QI],[.o QV],a8S⟩
def a7i(s:Z47):Option (Z47 ⊕ Z27):=(fun(a:Int)(b:LI)(c d e:Int)=>cond (decide (e<8)) (cond ((A0o .u16 a 15)==1) (some (.inl (bits .u16 .xor (A0n .u16 a 1) 32773,b,c,d,wrap .i64 (e+1),()))) (some (.inl (A0n .u16 a 1,b,c,d,wrap .i64 (e+1),())))) (some (.inr (a,b,c,d,())))) s.1 s.2.1 s.2.2.1 s.2.2.2.1 s.2.2.2.2.1
def a4R(s:Z27):Option Z58:=(fun(a b:Int)=>cond (decide (b<a)) ((m0k s.2.1 b).bind fun x1=>(y0s a7i (bits .u16 .xor s.1 (A0n .u16 (wrap .u16 x1) 8),s.2.1,a,b,0,())).bind fun w2=>some (.inl (w2.1,w2.2.1,w2.2.2.1,wrap .i64 (w2.2.2.2.1+1),()))) (some (.inr (s.1,())))) s.2.2.1 s.2.2.2.1
def a5f(x:LI):Option Int:=(y0s a4R (0,x,(x.length:Int),0,())).bind fun w3=>some w3.1
def b6d:FSem:=⟨[.v QB],[.v (.int .u16)],a5f⟩
def H50:Hints:=⟨[(58,[.sv 3 (.int .u16),.sv 7 QB,8,9],[Qe 0 [.sv 3 (.int .u16)]]),(29902,[.sv 3 (.int .u16),.sv 7 QB,8,9,18],[Qe 2 [.sv 3 (.int .u16),.sv 7 QB,8,9]])],[],[]⟩
def a6X(s:(Z95×Int×Int×Z5×b2R)):Option ((Z95×Int×Int×Z5×b2R) ⊕ ((Z5×b2R) ⊕ Z4)):=(fun(a:Int)(b:Z5)(c:a3j)=>cond (decide (a<s.2.1)) ((m0k s.1 a).bind fun x2=>(a7N (b,x2,c.2.1)).bind fun y3=>cond (y3.1 != 0) (some (.inr (Sum.inr ((y3.1,[],()))))) (some (.inl (s.1,s.2.1,wrap .i64 (a+1),y3.2,c,())))) (some (.inr (Sum.inl (b,c,()))))) s.2.2.1 s.2.2.2.1 s.2.2.2.2.1
def a2S(x:a3j):Option (LI×Int):=(a3y x).bind fun y1=>cond (!y1) (some ([],1)) ((y0s a6X (x.2.2.2.2.1,(x.2.2.2.2.1.length:Int),0,([],0,()),x,())).bind fun w4=>match w4 with |.inl a5=>((a4c a5.1).bind fun y7=>(a4d y7).bind fun y8=>(a6s (a5.2.1,(y8.1.length:Int))).bind fun y9=>cond (lim ((a02 y9)+(a02 y8.1))) ((a5f (a03 y9 y8.1)).bind fun y10=>(a8S (wrap .u64 y10,2)).bind fun y11=>cond (lim ((a02 (a03 y9 y8.1))+(a02 y11))) (some (a03 (a03 y9 y8.1) y11,0)) none) none) |.inr b6=>some (b6.2.1,b6.1))
def c0E:FSem:=⟨[.v Q49],[.o QV,.v QI],a2S⟩
def H13:Hints:=⟨[(122,[.sv 14 (.list false Q31),15,16,.box 4 Q5,.vp 1 Q49,Qp 4 4],[Qe 0 [.box 4 Q5,.vp 1 Q49,Qp 4 4],Qr [3,.own 2 2 QV]])],[],[]⟩
def a8T(x:LI):Option Z14:=cond (lim (a02 x)) (some (x,0,0,())) none
def c0F:FSem:=⟨[.v QB],[.b Q11],a8T⟩
def a4S(s:Z27):Option (Z27 ⊕ (Unit ⊕ Z8)):=(fun(a:Int)(b:LI)(c d:Int)=>cond (decide (d<c)) ((m0k b d).bind fun x1=>(show Option (Int×Int×Int×Z32)from cond (d==9) (cond (decide (x1 > 1)) (some (a,d,x1,b,c,d,true,())) (cond (decide (d > 0)) (some (a,d,x1,b,c,d,x1==0,())) (some (a,d,x1,b,c,d,false,())))) (cond (decide (d > 0)) (some (a,d,x1,b,c,d,x1==0,())) (some (a,d,x1,b,c,d,false,())))).bind fun z2=>cond z2.2.2.2.2.2.2.1 (some (.inr (Sum.inr ((0,0,2,()))))) (cond (decide ((wrap .i64 (7*z2.2.1))<0)) none (cond (decide (z2.2.2.1<128)) (some (.inr (Sum.inr ((bits .u64 .or z2.1 (A0n .u64 (wrap .u64 (a18 z2.2.2.1 128)) (wrap .i64 (7*z2.2.1))),wrap .i64 (z2.2.1+1),0,()))))) (some (.inl (bits .u64 .or z2.1 (A0n .u64 (wrap .u64 (a18 z2.2.2.1 128)) (wrap .i64 (7*z2.2.1))),z2.2.2.2.1,z2.2.2.2.2.1,wrap .i64 (z2.2.2.2.2.2.1+1),())))))) (some (.inr (Sum.inl ())))) s.1 s.2.1 s.2.2.1 s.2.2.2.1
def a6Y(x:LI):Option (Int×Int×Int):=(y0s a4S (0,x,(x.length:Int),0,())).bind fun w3=>match w3 with |.inl a4=>some (0,0,3) |.inr b5=>some (b5.1,b5.2.1,b5.2.2.1)
def b6e:FSem:=⟨[.v QB],[.v QU,.v QI,.v QI],a6Y⟩
def c9l:Hints:=⟨[(58,[.sv 5 QU,.sv 8 QB,9,10],[Qe 0 [],Qr [.sv 2 QU,3,4]])],[(7474,[Qn [.sv 5 QU,6,.sv 7 QV,.sv 8 QB,9,10,.sv 28 .bool]])],[]⟩
def a0V(x:Z31):Option Z27:=cond (x.1.2.2.1 != 0) (some (0,x.1)) (cond ((decide (0≤x.1.2.1))&&(decide (x.1.2.1≤(x.1.1.length:Int)))) ((a6Y (a23 (a01 x.1.2.1) (a06 (a02 x.1.1) x.1.1))).bind fun y1=>(show Option Z73 from cond (y1.2.2==0) (cond (decide (y1.1 > x.2)) (some (y1.1,y1.2.1,4,x.1,())) (some (y1.1,y1.2.1,y1.2.2,x.1,()))) (some (y1.1,y1.2.1,y1.2.2,x.1,()))).bind fun z2=>cond (z2.2.2.1 != 0) (some (0,z2.2.2.2.1.1,z2.2.2.2.1.2.1,z2.2.2.1,z2.2.2.2.1.2.2.2)) (some (z2.1,z2.2.2.2.1.1,wrap .i64 (z2.2.2.2.1.2.1+z2.2.1),z2.2.2.2.1.2.2))) none)
def b2Y:FSem:=⟨[.r false (.b Q11),.v QU],[.v QU],a0V⟩
def c9m:Hints:=⟨[],[(15,[Qn [.sv 5 QU,6,7,.box pinned Q11,Qp 0 pinned]])],[(3,[.p,.p,.q,.q,.p,.p,.q,.q,.x,.x,.x,.v,.v,.v,.v,.v,.x])]⟩
def a8U(x:Int):Option Int:=cond ((a18 x 2)==0) (some (wrap .i64 (wrap .u64 (a09 x 2)))) (some (wrap .i64 ((wrap .i64 (0-(wrap .i64 (wrap .u64 (a09 x 2)))))-1)))
def c0G:FSem:=⟨[.v QU],[.v QI],a8U⟩
def a6y(x:Z14):Option Z27:=some (x.2.2.1,x)
def b2Z:FSem:=⟨[.r false (.b Q11)],[.v QI],a6y⟩
def a6l(x:Z14):Option Z27:=some (wrap .i64 ((x.1.length:Int)-x.2.1),x)
def b2N:FSem:=⟨[.r false (.b Q11)],[.v QI],a6l⟩
def c9n:Hints:=⟨[],[],[(1,[.p,.p,.q,.q,.v,.p,.p,.q,.q,.x,.x])]⟩
def a7j(x:Z14):Option Z27:=some (x.2.1,x)
def b3D:FSem:=⟨[.r false (.b Q11)],[.v QI],a7j⟩
def a4A(s:(LI×(Int×Int×b5P))):Option ((LI×(Int×Int×b5P)) ⊕ (LI×b5P)):=(fun(a:Int)(b:a3j)(c:Z14)=>cond (decide (a<s.2.1)) ((a0V (c,7)).bind fun y11=>(a0V (y11.2,7)).bind fun y12=>(a0V (y12.2,2048)).bind fun y13=>(a8U y13.1).bind fun y14=>cond (lim ((a02 b.2.2.2.1)+1)) (some (.inl (s.1,s.2.1,wrap .u64 (a+1),(b.1,b.2.1,b.2.2.1,a03 b.2.2.2.1 ([(wrap .i64 y11.1,wrap .i64 y12.1,y14,())]:List Z8),b.2.2.2.2),y13.2,()))) none) (some (.inr (s.1,b,c,())))) s.2.2.1 s.2.2.2.1 s.2.2.2.2.1
def a4B(x:LI):Option (a3j×Int×Int×Int):=cond (decide ((x.length:Int)<2)) (some ((0,0,(0,0,0,()),[],[],()),0,0,3)) ((show Option (LI×(Bool×b2R))from(m0k x 0).bind fun x1=>cond (x1 != 245) (some (x,true,(0,0,(0,0,0,()),[],[],()),())) ((m0k x 1).bind fun x2=>some (x,x2 != 75,(0,0,(0,0,0,()),[],[],()),()))).bind fun z3=>cond z3.2.1 (some ((0,0,(0,0,0,()),[],[],()),0,0,2)) (cond (decide (2≤(z3.1.length:Int))) ((a8T (a23 2 (a06 (a02 z3.1) z3.1))).bind fun y4=>(a0V (y4,4194304)).bind fun y5=>(a0V (y5.2,4096)).bind fun y6=>(a0V (y6.2,1048576)).bind fun y7=>(a0V (y7.2,8)).bind fun y8=>(a0V (y8.2,24)).bind fun y9=>(a0V (y9.2,16)).bind fun y10=>(y0s a4A (z3.1,y10.1,0,(wrap .i64 y5.1,wrap .i64 y6.1,(wrap .i64 y7.1,wrap .i64 y8.1,wrap .i64 y9.1,z3.2.2.1.2.2.1.2.2.2),z3.2.2.1.2.2.2),y10.2,())).bind fun w15=>(a0V (w15.2.2.1,1048576)).bind fun y16=>(a6y y16.2).bind fun y17=>cond (y17.1 != 0) (some ((0,0,(0,0,0,()),[],[],()),0,0,y17.1)) ((a6l y17.2).bind fun y18=>cond (decide (y18.1<1)) (some ((0,0,(0,0,0,()),[],[],()),0,0,3)) ((a7j y18.2).bind fun y19=>cond ((decide (0≤(wrap .i64 (2+y19.1))))&&(decide ((wrap .i64 (2+y19.1))≤(w15.1.length:Int)))) ((a6x (a06 (a01 (wrap .i64 (2+y19.1))) w15.1)).bind fun y20=>(m0k w15.1 (wrap .i64 (2+y19.1))).bind fun x21=>cond (y20 != x21) (some ((0,0,(0,0,0,()),[],[],()),0,0,5)) ((a5T w15.2.1).bind fun y22=>cond (!y22) (some ((0,0,(0,0,0,()),[],[],()),0,0,2)) (some (w15.2.1,wrap .i64 ((wrap .i64 (2+y19.1))+1),wrap .i64 y16.1,0)))) none))) none))
def b4K:FSem:=⟨[.v QB],[.v (.pair QI (.pair QI (.pair Q8 (.pair (.list false Q8) Q32)))),.v QI,.v QI,.v QI],a4B⟩
def H51:Hints:=⟨[(8186,[.sv 0 QB,.sv 54 QU,.sv 55 QU,.box 2 Q47,.box 1029 Q11,Qp 2 2,Qp 6 1029],[Qe 0 [.sv 0 QB,.box 2 Q47,.box 1029 Q11,Qp 2 2,Qp 6 1029]])],[(14,[Qn [.sv 0 QB,.sv 25 .bool,.box 2 Q47,Qp 2 2]])],[(25,[.v,.v,.v,.v,.v,.v,.v,.v,.x])]⟩
def a9w(x:LI):Option Z14:=cond (lim (a02 x)) (some (x,0,0,())) none
def c1N:FSem:=⟨[.v QB],[.b Q11],a9w⟩
def a0K(x:Z14):Option Z27:=some (x.2.2.1,x)
def b3E:FSem:=⟨[.r false (.b Q11)],[.v QI],a0K⟩
def a2h(x:Z14):Option Z27:=some (wrap .i64 ((wrap .i64 (8*(x.1.length:Int)))-x.2.1),x)
def b3a:FSem:=⟨[.r false (.b Q11)],[.v QI],a2h⟩
def H54:Hints:=⟨[],[],[(1,[.p,.p,.q,.q,.v,.v,.p,.p,.q,.q,.x,.x])]⟩
def a1u(x:Z31):Option Z27:=(m0k x.1.1 (wrap .i64 (a09 x.2 8))).bind fun x1=>cond (decide ((wrap .i64 (7-(a18 x.2 8)))<0)) none (some (bits .u8 .and (A0o .u8 x1 (wrap .i64 (7-(a18 x.2 8)))) 1,x.1))
def b3b:FSem:=⟨[.r false (.b Q11),.v QI],[.v QV],a1u⟩
def a3v(s:Z73):Option (Z73 ⊕ Z50):=cond (decide (s.2.2.1<s.2.1)) ((a1u (s.2.2.2.1,s.2.2.2.1.2.1)).bind fun y3=>some (.inl (bits .u64 .or (A0n .u64 s.1 1) (wrap .u64 y3.1),s.2.1,wrap .i64 (s.2.2.1+1),(y3.2.1,wrap .i64 (y3.2.2.1+1),y3.2.2.2),()))) (some (.inr (s.1,s.2.2.2.1,())))
def a0F(x:Z31):Option Z27:=cond (x.1.2.2.1 != 0) (some (0,x.1)) ((show Option Z60 from cond (decide (x.2<0)) (some (x.2,true,x.1,())) (some (x.2,decide (x.2 > 64),x.1,()))).bind fun z1=>cond z1.2.1 (some (0,z1.2.2.1.1,z1.2.2.1.2.1,1,z1.2.2.1.2.2.2)) ((a2h z1.2.2.1).bind fun y2=>cond (decide (z1.1 > y2.1)) (some (0,y2.2.1,y2.2.2.1,3,y2.2.2.2.2)) ((y0s a3v (0,z1.1,0,y2.2,())).bind fun w4=>some (w4.1,w4.2.1))))
def b3F:FSem:=⟨[.r false (.b Q11),.v QI],[.v QU],a0F⟩
def c9o:Hints:=⟨[(506,[.sv 5 QU,27,28,.box pinned Q11,Qp 0 pinned],[Qe 0 [.sv 5 QU,.box pinned Q11]])],[(14,[Qn [1,.sv 16 .bool,.box pinned Q11,Qp 0 pinned]])],[]⟩
def a0W(x:Z31):Option Z27:=(a0F (x.1,x.2)).bind fun y1=>(show Option (Int×Z60)from cond (y1.2.2.2.1 != 0) (some (x.2,y1.1,true,y1.2,())) (some (x.2,y1.1,x.2==0,y1.2,()))).bind fun z2=>cond z2.2.2.1 (some (0,z2.2.2.2.1)) (cond (decide ((wrap .i64 (64-z2.1))<0)) none (cond (decide ((wrap .i64 (64-z2.1))<0)) none (some (A0o .i64 (wrap .i64 (A0n .u64 z2.2.1 (wrap .i64 (64-z2.1)))) (wrap .i64 (64-z2.1)),z2.2.2.2.1))))
def b1N:FSem:=⟨[.r false (.b Q11),.v QI],[.v QI],a0W⟩
def c9p:Hints:=⟨[],[(14,[Qn [1,.sv 5 QU,.sv 17 .bool,.box pinned Q11]])],[]⟩
def a4T(s:(Int×b5O)):Option ((Int×b5O) ⊕ (Int×c1A)):=(fun(a:Int)(b:Z14)(c:Z94)=>cond (decide (a<s.2.1)) ((a0W (b,s.1)).bind fun y4=>cond (lim ((a02 c.2.2.2.2.2.1)+1)) (some (.inl (s.1,s.2.1,wrap .i64 (a+1),y4.2,(c.1,c.2.1,c.2.2.1,c.2.2.2.1,c.2.2.2.2.1,a03 c.2.2.2.2.2.1 [y4.1],c.2.2.2.2.2.2),()))) none) (some (.inr (s.1,c,b,())))) s.2.2.1 s.2.2.2.1 s.2.2.2.2.1
def a6Z(x:(Z14×Z94)):Option (Bool×Z14×Z94):=(a0F (x.1,5)).bind fun y1=>(a0F (y1.2,4)).bind fun y2=>(a0F (y2.2,5)).bind fun y3=>(y0s a4T (wrap .i64 y3.1,wrap .i64 ((wrap .i64 y1.1)+1),0,y3.2,(x.2.1,x.2.2.1,x.2.2.2.1,wrap .i64 y2.1,x.2.2.2.2.2),())).bind fun w5=>(a1j w5.2.1.2.2.2.2.2.1).bind fun y6=>some (y6==w5.1,w5.2.2.1,w5.2.1)
def b6f:FSem:=⟨[.r false (.b Q11),.r false (.b Q30)],[.v .bool],a6Z⟩
def c9q:Hints:=⟨[(250,[6,20,21,.box pinned Q11,.box 1000001 Q30,Qp 0 pinned,Qp 1 1000001],[Qe 0 [6,.box 1000001 Q30,.box pinned Q11,Qp 1 1000001]])],[],[(6,[.p,.p,.p,.r [26,1000001],.r [27,1000001],.p,.v,.w [30,1030,pinned],.q,.a [31,32,1000001],.x,.x,.x])]⟩
def a2L(s:b5O):Option (b5O ⊕ c3Z):=(fun(a:Int)(b:Z14)(c:Z94)=>cond (decide (a<3)) ((a0W (b,8)).bind fun y6=>cond ((decide (0≤a))&&(decide (a<3))) (some (.inl (s.1,wrap .i64 (a+1),y6.2,(c.1,c.2.1,c.2.2.1,c.2.2.2.1,c.2.2.2.2.1,c.2.2.2.2.2.1,a05 c.2.2.2.2.2.2.1 (a01 a) y6.1,c.2.2.2.2.2.2.2),()))) none) (some (.inr (s.1,b,c,())))) s.2.1 s.2.2.1 s.2.2.2.1
def a5C(s:(Int×Bool×b5O)):Option ((Int×Bool×b5O) ⊕ (Int×Bool×c1A)):=(fun(a b:Int)(c:Z14)(d:Z94)=>cond (decide (b<a)) ((a0F (c,5)).bind fun y15=>(a0F (y15.2,4)).bind fun y16=>cond (lim ((a02 d.2.2.2.2.2.2.2.1)+1)) (some (.inl (s.1,s.2.1,a,wrap .u64 (b+1),y16.2,(d.1,d.2.1,d.2.2.1,d.2.2.2.1,d.2.2.2.2.1,d.2.2.2.2.2.1,d.2.2.2.2.2.2.1,a03 d.2.2.2.2.2.2.2.1 ([(wrap .i64 ((wrap .i64 y15.1)+1),wrap .i64 y16.1,())]:List (Int×Int×Unit)),d.2.2.2.2.2.2.2.2),()))) none) (some (.inr (s.1,s.2.1,d,c,())))) s.2.2.1 s.2.2.2.1 s.2.2.2.2.1 s.2.2.2.2.2.1
def a7B(x:Z14):Option (Z94×Int×Bool×Z14):=(a0F (x,3)).bind fun y1=>(a0F (y1.2,5)).bind fun y2=>(a0F (y2.2,5)).bind fun y3=>(show Option (Int×Bool×c1A)from(show Option (c3Z ⊕ ((Int×Bool×c1A) ⊕ (Int×Bool×c5U)))from cond ((wrap .i64 y1.1)==2) ((a0F (y3.2,3)).bind fun y4=>some (Sum.inr (Sum.inl (wrap .i64 y3.1,true,(wrap .i64 y1.1,wrap .i64 y2.1,wrap .i64 y4.1,0,0,[],a00 3 0,[],[],(0,[],()),[],()),y4.2,())))) (cond ((wrap .i64 y1.1)==4) ((a0F (y3.2,10)).bind fun y5=>(y0s a2L (wrap .i64 y3.1,0,y5.2,(wrap .i64 y1.1,wrap .i64 y2.1,0,0,wrap .i64 ((wrap .i64 y5.1)+1),[],a00 3 0,[],[],(0,[],()),[],()),())).bind fun w7=>some (Sum.inl (w7.1,w7.2.1,w7.2.2.1,()))) (cond ((wrap .i64 y1.1)==3) (some (Sum.inl (wrap .i64 y3.1,y3.2,(wrap .i64 y1.1,wrap .i64 y2.1,0,0,0,[],a00 3 0,[],[],(0,[],()),[],()),()))) (cond ((wrap .i64 y1.1)==5) (some (Sum.inr (Sum.inr ((wrap .i64 y3.1,true,y3.2,(wrap .i64 y1.1,wrap .i64 y2.1,0,0,0,[],a00 3 0,[],[],(0,[],()),[],()),()))))) (some (Sum.inr (Sum.inl (wrap .i64 y3.1,true,(wrap .i64 y1.1,wrap .i64 y2.1,0,0,0,[],a00 3 0,[],[],(0,[],()),[],()),y3.2,())))))))).bind fun z8=>match z8 with |.inl a9=>((a6Z (a9.2.1,a9.2.2.1)).bind fun y11=>some (a9.1,y11.1,y11.2.2,y11.2.1,())) |.inr b10=>(match b10 with |.inl a12=>some (a12.1,a12.2.1,a12.2.2.1,a12.2.2.2.1,()) |.inr b13=>((a0F (b13.2.2.1,2)).bind fun y14=>(y0s a5C (b13.1,b13.2.1,y14.1,0,y14.2,b13.2.2.2.1,())).bind fun w17=>some (w17.1,w17.2.1,w17.2.2.1,w17.2.2.2.1,())))).bind fun z18=>some (z18.2.2.1,z18.1,z18.2.1,z18.2.2.2.1)
def b7C:FSem:=⟨[.r false (.b Q11)],[.v (.pair QI (.pair QI (.pair QI (.pair QI (.pair QI (.pair QL (.pair (.arr 3 QI) (.pair (.list false Q3) Q14)))))))),.v QI,.v .bool],a7B⟩
def c9r:Hints:=⟨[(8106,[3,.sv 4 .bool,.sv 50 QU,.sv 51 QU,.box pinned Q11,.box 2 Q30,Qp 0 pinned,Qp 2 2],[Qe 7 [3,.sv 4 .bool,.box 2 Q30,.box pinned Q11,Qp 2 2]]),(129550,[3,38,.box pinned Q11,.box 2 Q30,Qp 0 pinned,Qp 2 2],[Qe 5 [3,.box pinned Q11,.box 2 Q30,Qp 0 pinned,Qp 2 2]])],[(63,[Qn [3,.sv 4 .bool,.box 2 Q30,.box pinned Q11,Qp 2 2]]),(2024,[Qn [3,.box pinned Q11,.box 2 Q30,Qp 0 pinned,Qp 2 2],Qe 0 [3,.sv 4 .bool,.box 2 Q30,.box pinned Q11,Qp 2 2],Qe 4 [3,.sv 4 .bool,.box pinned Q11,.box 2 Q30,Qp 0 pinned,Qp 2 2]])],[]⟩
def a2T(s:Z73):Option (Z73 ⊕ Z50):=(fun(a b:Int)(c:Z14)=>cond (b==(wrap .i64 (8*(c.1.length:Int)))) (some (.inr (0,(c.1,c.2.1,3,c.2.2.2),()))) ((a1u (c,b)).bind fun y2=>cond (y2.1==1) (some (.inr (a,(y2.2.1,wrap .i64 (b+1),y2.2.2.2),()))) (cond (a==s.1) (some (.inr (0,(y2.2.1,y2.2.2.1,2,y2.2.2.2.2),()))) (some (.inl (s.1,wrap .i64 (a+1),wrap .i64 (b+1),y2.2,())))))) s.2.1 s.2.2.1 s.2.2.2.1
def a2J(x:Z31):Option Z27:=cond (x.1.2.2.1 != 0) (some (0,x.1)) ((y0s a2T (v0r x.2 0,0,x.1.2.1,x.1,())).bind fun w3=>some (w3.1,w3.2.1))
def b2O:FSem:=⟨[.r false (.b Q11),.v QI],[.v QI],a2J⟩
def c9s:Hints:=⟨[(62,[1,5,6,.box pinned Q11,Qp 0 pinned],[Qr [4,.box pinned Q11]])],[],[(4,[.p,.p,.q,.q,.v,.x])]⟩
def a5U(x:Int):Option Int:=cond (decide (x≥2147483648)) (some 0) (cond ((a18 x 2)==0) (some (wrap .i64 (wrap .u64 (a09 x 2)))) (some (wrap .i64 ((wrap .i64 (0-(wrap .i64 (wrap .u64 (a09 x 2)))))-1))))
def b7D:FSem:=⟨[.v QU],[.v QI],a5U⟩
def a9x(x:Z31):Option Z43:=(a2J (x.1,32)).bind fun y1=>(a0K y1.2).bind fun y2=>cond (y2.1 != 0) ((a0K y2.2).bind fun y3=>some (0,y3.1,y3.2)) (cond (decide ((wrap .u64 y1.1)<32)) ((a0F (y2.2,x.2)).bind fun y4=>cond (decide (x.2<0)) none ((a5U (wrap .u64 ((A0n .u64 (wrap .u64 y1.1) x.2)+y4.1))).bind fun y5=>(a0K y4.2).bind fun y6=>some (y5,y6.1,y6.2))) ((a0F (y2.2,32)).bind fun y7=>(a0K y7.2).bind fun y8=>cond (y8.1 != 0) ((a0K y8.2).bind fun y9=>some (0,y9.1,y9.2)) ((show Option Z60 from cond (decide (y7.1≥2147483648)) (some (y7.1,true,y8.2,())) (cond (decide (x.2<0)) none (some (y7.1,decide ((A0o .u64 y7.1 x.2)<32),y8.2,())))).bind fun z10=>cond z10.2.1 (some (0,2,z10.2.2.1)) ((a5U z10.1).bind fun y11=>some (y11,0,z10.2.2.1)))))
def c1O:FSem:=⟨[.r false (.b Q11),.v QI],[.v QI,.v QI],a9x⟩
def c9t:Hints:=⟨[],[(254,[Qn [.sv 8 QU,.sv 44 .bool,.box pinned Q11]])],[]⟩
def a7C(s:Z82):Option (Z82 ⊕ (Z57 ⊕ Z70)):=cond (decide (s.2.2.1<s.2.1)) ((a9x (s.2.2.2.2.1,s.1)).bind fun y5=>cond (y5.2.1 != 0) (some (.inr (Sum.inr ((y5.2.1,[],y5.2.2,()))))) (cond (lim ((a02 s.2.2.2.1)+1)) (some (.inl (s.1,s.2.1,wrap .i64 (s.2.2.1+1),a03 s.2.2.2.1 [y5.1],y5.2.2,()))) none)) (some (.inr (Sum.inl (s.2.2.2.1,s.2.2.2.2.1,()))))
def a9y(x:(Z14×Int×Int)):Option Z54:=(show Option (Int×Z60)from(a1D x.2.1).bind fun y1=>cond (!y1) (some (x.2.1,x.2.2,true,x.1,())) (cond (decide (x.2.2<0)) (some (x.2.1,x.2.2,true,x.1,())) (some (x.2.1,x.2.2,decide (x.2.2 > 4194304),x.1,())))).bind fun z2=>cond z2.2.2.1 (some ([],1,z2.2.2.2.1)) ((a0K z2.2.2.2.1).bind fun y3=>cond (y3.1 != 0) ((a0K y3.2).bind fun y4=>some ([],y4.1,y4.2)) ((y0s a7C (z2.1,z2.2.1,0,[],y3.2,())).bind fun w6=>match w6 with |.inl a7=>some (a7.1,0,a7.2.1) |.inr b8=>some (b8.2.1,b8.1,b8.2.2.1)))
def c1P:FSem:=⟨[.r false (.b Q11),.v QI,.v QI],[.o QI,.v QI],a9y⟩
def c9u:Hints:=⟨[(250,[1,27,28,.own 8 8 QI,.box pinned Q11,Qp 0 pinned],[Qe 0 [.own 8 8 QI,.box pinned Q11],Qr [7,.own 6 6 QI,.box pinned Q11]])],[(6,[Qn [1,2,.sv 21 .bool,.box pinned Q11,Qp 0 pinned]])],[]⟩
def a7a(s:(Int×Z82)):Option ((Int×Z82) ⊕ Z78):=(fun(a b c:Int)(d:LI)(e:Z14)=>cond (decide (c<b)) ((a0W (e,a)).bind fun y6=>cond (lim ((a02 d)+1)) (some (.inl (s.1,a,b,wrap .i64 (c+1),a03 d [y6.1],y6.2,()))) none) (some (.inr (s.1,a,d,e,())))) s.2.1 s.2.2.1 s.2.2.2.1 s.2.2.2.2.1 s.2.2.2.2.2.1
def a8V(x:Z31):Option (Int×Z54):=(a0F (x.1,5)).bind fun y1=>(a0K y1.2).bind fun y2=>cond (y2.1 != 0) ((a0K y2.2).bind fun y3=>some (0,[],y3.1,y3.2)) (cond (decide ((wrap .i64 y1.1)≤25)) ((a9y (y2.2,wrap .i64 y1.1,x.2)).bind fun y4=>some (wrap .i64 y1.1,y4.1,y4.2.1,y4.2.2)) (cond ((wrap .i64 y1.1) != 31) (some (0,[],2,y2.2)) ((a0F (y2.2,5)).bind fun y5=>(y0s a7a (wrap .i64 y1.1,wrap .i64 y5.1,x.2,0,[],y5.2,())).bind fun w7=>(a0K w7.2.2.2.1).bind fun y8=>cond (y8.1 != 0) ((a0K y8.2).bind fun y9=>some (0,[],y9.1,y9.2)) ((a1j w7.2.2.1).bind fun y10=>cond (y10 != w7.2.1) (some (0,[],2,y8.2)) (some (w7.1,w7.2.2.1,0,y8.2))))))
def c0H:FSem:=⟨[.r false (.b Q11),.v QI],[.v QI,.o QI,.v QI],a8V⟩
def c9v:Hints:=⟨[(2042,[7,10,37,38,.own 11 11 QI,.box pinned Q11,Qp 0 pinned],[Qe 0 [7,10,.own 11 11 QI,.box pinned Q11,Qp 0 pinned]])],[],[]⟩
def a7b(s:(Int×(Int×(LI×(LI×(Z14×Z71)))))):Option ((Int×(Int×(LI×(LI×(Z14×Z71))))) ⊕ ((LI×(Z4×Z4×Z35)) ⊕ (Int×(LI×(Z4×Z35))))):=(fun(a:Int)(b c:LI)(d:Z14)(e f:Z4)=>cond (decide (a<s.1)) (cond ((decide (0≤a))&&(decide (a<(c.length:Int)))) ((a8V (d,a04 c (a01 a) 0)).bind fun y6=>cond (y6.2.2.1 != 0) (some (.inr (Sum.inr ((y6.2.2.1,[],(0,[],()),y6.2.2.2,()))))) (cond (lim ((a02 f.2.1)+1)) (cond (lim ((a02 b)+(a02 y6.2.1))) (some (.inl (s.1,wrap .i64 (a+1),a03 b y6.2.1,c,y6.2.2.2,e,(f.1,a03 f.2.1 [y6.1],f.2.2),()))) none) none)) none) (some (.inr (Sum.inl (b,e,f,d,()))))) s.2.1 s.2.2.1 s.2.2.2.1 s.2.2.2.2.1 s.2.2.2.2.2.1 s.2.2.2.2.2.2.1
def a8W(x:(Z14×Int×Int)):Option (Z4×Z54):=(a6c (x.2.1,x.2.2)).bind fun y1=>cond (!y1) (some ((0,[],()),[],1,x.1)) ((a0F (x.1,4)).bind fun y2=>(a0K y2.2).bind fun y3=>cond (y3.1 != 0) ((a0K y3.2).bind fun y4=>some ((0,[],()),[],y4.1,y4.2)) ((a2w (wrap .i64 y2.1,x.2.1,x.2.2)).bind fun y5=>cond ((y5.length:Int)==0) (some ((0,[],()),[],2,y3.2)) ((y0s a7b ((y5.length:Int),0,[],y5,y3.2,(0,[],()),(wrap .i64 y2.1,[],()),())).bind fun w7=>match w7 with |.inl a8=>some (a8.2.2.1,a8.1,0,a8.2.2.2.1) |.inr b9=>some (b9.2.2.1,b9.2.1,b9.1,b9.2.2.2.1))))
def c0I:FSem:=⟨[.r false (.b Q11),.v QI,.v QI],[.v Q7,.o QI,.v QI],a8W⟩
def c9w:Hints:=⟨[(4090,[43,44,.own 12 12 QI,.own 42 10 QI,.box pinned Q11,.box 6 Q7,.box 11 Q6,Qp 0 pinned,Qp 6 6,Qp 11 11],[Qe 0 [.own 12 12 QI,.box 6 Q7,.box 11 Q6,.box pinned Q11,Qp 6 6,Qp 11 11],Qr [8,.own 7 7 QI,.box 6 Q7,.box pinned Q11,Qp 6 6]])],[],[]⟩
def a8f(s:(Int×Int×Bool×Int×Int×Z14×a9p)):Option ((Int×Int×Bool×Int×Int×Z14×a9p) ⊕ (Int×Int×Bool×Z14×a9p)):=(fun(a:Int)(b:Bool)(c d:Int)(e:Z14)(f g:Z94)=>cond (decide (d<c)) ((a0W (e,a)).bind fun y7=>cond (lim ((a02 g.2.2.2.2.2.2.2.2.1)+1)) (some (.inl (s.1,a,b,c,wrap .i64 (d+1),y7.2,f,(g.1,g.2.1,g.2.2.1,g.2.2.2.1,g.2.2.2.2.1,g.2.2.2.2.2.1,g.2.2.2.2.2.2.1,g.2.2.2.2.2.2.2.1,a03 g.2.2.2.2.2.2.2.2.1 [y7.1],g.2.2.2.2.2.2.2.2.2),()))) none) (some (.inr (s.1,a,b,e,f,g,())))) s.2.1 s.2.2.1 s.2.2.2.1 s.2.2.2.2.1 s.2.2.2.2.2.1 s.2.2.2.2.2.2.1 s.2.2.2.2.2.2.2.1
def a9h(x:Z31):Option (Z94×Z27):=cond (decide (x.2<1)) (some ((0,0,0,0,0,[],a00 3 0,[],[],(0,[],()),[],()),1,x.1)) (cond (decide (x.2 > 4096)) (some ((0,0,0,0,0,[],a00 3 0,[],[],(0,[],()),[],()),1,x.1)) ((a0K x.1).bind fun y1=>cond (y1.1 != 0) (some ((0,0,0,0,0,[],a00 3 0,[],[],(0,[],()),[],()),y1.1,y1.2)) ((a7B y1.2).bind fun y2=>(a0K y2.2.2.2).bind fun y3=>cond (y3.1 != 0) (some ((0,0,0,0,0,[],a00 3 0,[],[],(0,[],()),[],()),y3.1,y3.2)) ((a6u (y2.1.1,y2.1,x.2)).bind fun y4=>cond (!y4) (some ((0,0,0,0,0,[],a00 3 0,[],[],(0,[],()),[],()),2,y3.2)) ((a3L (y2.1,x.2)).bind fun y5=>(y0s a8f (x.2,y2.2.1,y2.2.2.1,y5,0,y3.2,(0,0,0,0,0,[],a00 3 0,[],[],(0,[],()),[],()),y2.1,())).bind fun w8=>(a0K w8.2.2.2.1).bind fun y9=>cond (y9.1 != 0) (some ((0,0,0,0,0,[],a00 3 0,[],[],(0,[],()),[],()),y9.1,y9.2)) ((a5a w8.2.2.2.2.2.1.1).bind fun y10=>cond y10 ((a8W (y9.2,w8.1,(w8.2.2.2.2.2.1.2.2.2.2.2.2.2.2.1.length:Int))).bind fun y11=>cond (y11.2.2.1 != 0) (some ((0,0,0,0,0,[],a00 3 0,[],[],(0,[],()),[],()),y11.2.2.1,y11.2.2.2)) (cond (!w8.2.2.1) (some ((0,0,0,0,0,[],a00 3 0,[],[],(0,[],()),[],()),2,y11.2.2.2)) ((a1j w8.2.2.2.2.2.1.2.2.2.2.2.2.2.2.1).bind fun y12=>cond (y12 != w8.2.1) (some ((0,0,0,0,0,[],a00 3 0,[],[],(0,[],()),[],()),2,y11.2.2.2)) ((a7M ((w8.2.2.2.2.2.1.1,w8.2.2.2.2.2.1.2.1,w8.2.2.2.2.2.1.2.2.1,w8.2.2.2.2.2.1.2.2.2.1,w8.2.2.2.2.2.1.2.2.2.2.1,w8.2.2.2.2.2.1.2.2.2.2.2.1,w8.2.2.2.2.2.1.2.2.2.2.2.2.1,w8.2.2.2.2.2.1.2.2.2.2.2.2.2.1,w8.2.2.2.2.2.1.2.2.2.2.2.2.2.2.1,y11.1,y11.2.1,w8.2.2.2.2.2.1.2.2.2.2.2.2.2.2.2.2.2),w8.1)).bind fun y13=>cond (!y13) (some ((0,0,0,0,0,[],a00 3 0,[],[],(0,[],()),[],()),2,y11.2.2.2)) (some ((w8.2.2.2.2.2.1.1,w8.2.2.2.2.2.1.2.1,w8.2.2.2.2.2.1.2.2.1,w8.2.2.2.2.2.1.2.2.2.1,w8.2.2.2.2.2.1.2.2.2.2.1,w8.2.2.2.2.2.1.2.2.2.2.2.1,w8.2.2.2.2.2.1.2.2.2.2.2.2.1,w8.2.2.2.2.2.1.2.2.2.2.2.2.2.1,w8.2.2.2.2.2.1.2.2.2.2.2.2.2.2.1,y11.1,y11.2.1,w8.2.2.2.2.2.1.2.2.2.2.2.2.2.2.2.2.2),0,y11.2.2.2)))))) (cond (!w8.2.2.1) (some ((0,0,0,0,0,[],a00 3 0,[],[],(0,[],()),[],()),2,y9.2)) ((a1j w8.2.2.2.2.2.1.2.2.2.2.2.2.2.2.1).bind fun y14=>cond (y14 != w8.2.1) (some ((0,0,0,0,0,[],a00 3 0,[],[],(0,[],()),[],()),2,y9.2)) ((a7M (w8.2.2.2.2.2.1,w8.1)).bind fun y15=>cond (!y15) (some ((0,0,0,0,0,[],a00 3 0,[],[],(0,[],()),[],()),2,y9.2)) (some (w8.2.2.2.2.2.1,0,y9.2)))))))))))
def c3c:FSem:=⟨[.r false (.b Q11),.v QI],[.v Q31,.v QI],a9h⟩
def H53:Hints:=⟨[(1018,[1,8,.sv 9 .bool,47,48,.box pinned Q11,.box 4 Q31,.box 7 (.pair QI (.pair QI (.pair QI (.pair QI (.pair QI (.pair QL (.pair (.arr 3 QI) (.pair (.list false Q3) (.pair (.list true QI) Q13))))))))),Qp 0 pinned,Qp 4 4,Qp 7 7],[Qe 0 [1,8,.sv 9 .bool,.box pinned Q11,.box 4 Q31,.box 7 (.pair QI (.pair QI (.pair QI (.pair QI (.pair QI (.pair QL (.pair (.arr 3 QI) (.pair (.list false Q3) (.pair (.list true QI) Q13))))))))),Qp 0 pinned,Qp 4 4,Qp 7 7]])],[],[(14,[.r [7,50],.r [7,51],.p,.v,.w [54,1054,pinned],.q,.x,.x,.x])]⟩
def a2U(s:Z59):Option (Z59 ⊕ (Z50 ⊕ Z35)):=cond (decide (s.2.1<s.1)) ((a1u (s.2.2.1,s.2.1)).bind fun y1=>cond (y1.1==1) (some (.inr (Sum.inr (((y1.2.1,y1.2.2.1,2,y1.2.2.2.2),()))))) (some (.inl (s.1,wrap .i64 (s.2.1+1),y1.2,())))) (some (.inr (Sum.inl (s.1,s.2.2.1,()))))
def a4e(x:Z14):Option Z14:=cond (x.2.2.1 != 0) (some x) ((y0s a2U (wrap .i64 ((wrap .i64 (a09 (wrap .i64 (x.2.1+7)) 8))*8),x.2.1,x,())).bind fun w2=>match w2 with |.inl a3=>some (a3.2.1.1,a3.1,a3.2.1.2.2) |.inr b4=>some b4.1)
def b2P:FSem:=⟨[.r false (.b Q11)],[],a4e⟩
def H55:Hints:=⟨[(58,[2,3,.box pinned Q11,Qp 0 pinned],[Qe 0 [2,.box pinned Q11,Qp 0 pinned],Qr [.box pinned Q11]])],[],[]⟩
def a6t(s:(Int×Int×Int×a3j×b5P)):Option ((Int×Int×Int×a3j×b5P) ⊕ ((Int×a3j×b5P) ⊕ (Int×Int×b2R))):=(fun(a:Int)(b c:a3j)(d:Z14)=>cond (decide (a<s.2.1)) ((a9h (d,c.2.1)).bind fun y7=>cond (y7.2.1 != 0) (some (.inr (Sum.inr ((0,2,(0,0,(0,0,0,()),[],[],()),()))))) (cond (lim ((a02 c.2.2.2.2.1)+1)) (some (.inl (s.1,s.2.1,wrap .i64 (a+1),b,(c.1,c.2.1,c.2.2.1,c.2.2.2.1,a03 c.2.2.2.2.1 ([y7.1]:List Z94),c.2.2.2.2.2),y7.2.2,()))) none)) (some (.inr (Sum.inl (s.1,b,c,d,()))))) s.2.2.1 s.2.2.2.1 s.2.2.2.2.1 s.2.2.2.2.2.1
def a3T(x:LI):Option (a3j×Int×Int):=(a4B x).bind fun y1=>cond (y1.2.2.2 != 0) (some ((0,0,(0,0,0,()),[],[],()),0,y1.2.2.2)) (cond (decide ((x.length:Int)<(wrap .i64 ((wrap .i64 (y1.2.1+y1.2.2.1))+2)))) (some ((0,0,(0,0,0,()),[],[],()),0,3)) (cond ((decide (0≤(wrap .i64 (y1.2.1+y1.2.2.1))))&&(decide ((wrap .i64 (y1.2.1+y1.2.2.1))≤(x.length:Int)))) ((a5f (a06 (a01 (wrap .i64 (y1.2.1+y1.2.2.1))) x)).bind fun y2=>(m0k x (wrap .i64 (y1.2.1+y1.2.2.1))).bind fun x3=>(m0k x (wrap .i64 ((wrap .i64 (y1.2.1+y1.2.2.1))+1))).bind fun x4=>cond (y2 != (bits .u16 .or (A0n .u16 (wrap .u16 x3) 8) (wrap .u16 x4))) (some ((0,0,(0,0,0,()),[],[],()),0,5)) (cond ((decide (0≤(wrap .i64 (y1.2.1+y1.2.2.1))))&&(decide ((wrap .i64 (y1.2.1+y1.2.2.1))≤(x.length:Int)))) (cond ((decide (0≤y1.2.1))&&(decide (y1.2.1≤((a01 (wrap .i64 (y1.2.1+y1.2.2.1)):Nat):Int)))) ((a9w (a23 (a01 y1.2.1) (a06 (a01 (wrap .i64 (y1.2.1+y1.2.2.1))) x))).bind fun y5=>(y0s a6t (wrap .i64 (y1.2.1+y1.2.2.1),y1.1.2.2.1.2.1,0,(0,0,(0,0,0,()),[],[],()),y1.1,y5,())).bind fun w8=>match w8 with |.inl a9=>((a2h a9.2.2.2.1).bind fun y11=>cond (decide (y11.1≥8)) (some ((0,0,(0,0,0,()),[],[],()),0,2)) ((a4e y11.2).bind fun y12=>(a0K y12).bind fun y13=>cond (y13.1 != 0) (some ((0,0,(0,0,0,()),[],[],()),0,2)) ((a3y a9.2.2.1).bind fun y14=>cond (!y14) (some ((0,0,(0,0,0,()),[],[],()),0,2)) (some (a9.2.2.1,wrap .i64 (a9.1+2),0))))) |.inr b10=>some (b10.2.2.1,b10.1,b10.2.1)) none) none)) none))
def b8y:FSem:=⟨[.v QB],[.v Q49,.v QI,.v QI],a3T⟩
def H15:Hints:=⟨[(2042,[9,59,60,.box 2 Q49,.box 5 Q48,.box 1056 Q11,Qp 2 2,Qp 5 5,Qp 10 1056],[Qe 0 [9,.box 2 Q49,.box 5 Q48,.box 1056 Q11,Qp 2 2,Qp 5 5,Qp 10 1056],Qr [3,4,.box 2 Q49,Qp 2 2]])],[],[(7,[.v,.v,.v,.v,.v,.v,.v,.v,.v,.v,.v,.v,.v,.v,.v,.v,.v,.x])]⟩
def a3U(s:(LI×Z5)):Option ((LI×Z5) ⊕ Z0):=(fun(a:Int)=>cond (decide (a<(s.1.length:Int))) ((m0k s.1 a).bind fun x1=>(m0k s.2.1 a).bind fun x2=>cond (x1 != x2) (some (.inr (Sum.inr ((false,()))))) (some (.inl (s.1,s.2.1,wrap .i64 (a+1),())))) (some (.inr (Sum.inl ())))) s.2.2.1
def a2y(x:(LI×LI)):Option Bool:=cond ((x.1.length:Int) != (x.2.length:Int)) (some false) ((y0s a3U (x.1,x.2,0,())).bind fun w3=>match w3 with |.inl a4=>some true |.inr b5=>some b5.1)
def b7E:FSem:=⟨[.v QL,.v QL],[.v .bool],a2y⟩
def H25:Hints:=⟨[(58,[.sv 0 QL,.sv 1 QL,5],[Qe 0 [],Qr [.sv 4 .bool]])],[],[(6,[.v,.v,.v,.v,.v,.v,.v,.v,.x])]⟩
def b2Q(s:(Z6×Z6×Int×Unit)):Option ((Z6×Z6×Int×Unit) ⊕ Z0):=(fun(a:Int)=>cond (decide (a<(s.1.length:Int))) ((m0k s.1 a).bind fun x1=>(m0k s.2.1 a).bind fun x2=>cond (!(eqT Q3 x1 x2)) (some (.inr (Sum.inr ((false,()))))) (some (.inl (s.1,s.2.1,wrap .i64 (a+1),())))) (some (.inr (Sum.inl ())))) s.2.2.1
def a9P(x:(Z6×Z6)):Option Bool:=cond ((x.1.length:Int) != (x.2.length:Int)) (some false) ((y0s b2Q (x.1,x.2,0,())).bind fun w3=>match w3 with |.inl a4=>some true |.inr b5=>some b5.1)
def b4i:FSem:=⟨[.v (.list false Q3),.v (.list false Q3)],[.v .bool],a9P⟩
def H70:Hints:=⟨[(58,[.sv 0 (.list false Q3),.sv 1 (.list false Q3),5],[Qe 0 [],Qr [.sv 4 .bool]])],[],[(6,[.v,.v,.v,.v,.v,.v,.v,.v,.x])]⟩
def b1r(x:(Z4×Z4)):Option Bool:=cond (x.1.1==x.2.1) ((a2y (x.1.2.1,x.2.2.1)).bind fun y1=>some y1) (some false)
def b6g:FSem:=⟨[.v Q7,.v Q7],[.v .bool],b1r⟩
def b2z(x:(Z94×Z94)):Option Bool:=(fun(a:Z94)=>cond (a.1==x.2.1) (cond (a.2.1==x.2.2.1) (cond (a.2.2.1==x.2.2.2.1) (cond (a.2.2.2.1==x.2.2.2.2.1) (cond (a.2.2.2.2.1==x.2.2.2.2.2.1) ((a2y (a.2.2.2.2.2.1,x.2.2.2.2.2.2.1)).bind fun y1=>cond y1 (cond (eqT (.arr 3 (.int .i64)) a.2.2.2.2.2.2.1 x.2.2.2.2.2.2.2.1) ((a9P (a.2.2.2.2.2.2.2.1,x.2.2.2.2.2.2.2.2.1)).bind fun y2=>cond y2 ((a2y (a.2.2.2.2.2.2.2.2.1,x.2.2.2.2.2.2.2.2.2.1)).bind fun y3=>cond y3 ((b1r (a.2.2.2.2.2.2.2.2.2.1,x.2.2.2.2.2.2.2.2.2.2.1)).bind fun y4=>cond y4 ((a2y (a.2.2.2.2.2.2.2.2.2.2.1,x.2.2.2.2.2.2.2.2.2.2.2.1)).bind fun y5=>some y5) (some false)) (some false)) (some false)) (some false)) (some false)) (some false)) (some false)) (some false)) (some false)) (some false)) x.1
def b7F:FSem:=⟨[.v Q31,.v Q31],[.v .bool],b2z⟩
def b3c(s:(Z17×Z17×Int×Unit)):Option ((Z17×Z17×Int×Unit) ⊕ Z0):=(fun(a:Int)=>cond (decide (a<(s.1.length:Int))) ((m0k s.1 a).bind fun x1=>(m0k s.2.1 a).bind fun x2=>cond (!(eqT Q8 x1 x2)) (some (.inr (Sum.inr ((false,()))))) (some (.inl (s.1,s.2.1,wrap .i64 (a+1),())))) (some (.inr (Sum.inl ())))) s.2.2.1
def b0M(x:(Z17×Z17)):Option Bool:=cond ((x.1.length:Int) != (x.2.length:Int)) (some false) ((y0s b3c (x.1,x.2,0,())).bind fun w3=>match w3 with |.inl a4=>some true |.inr b5=>some b5.1)
def b4L:FSem:=⟨[.v (.list false Q8),.v (.list false Q8)],[.v .bool],b0M⟩
def H57:Hints:=⟨[(58,[.sv 0 (.list false Q8),.sv 1 (.list false Q8),5],[Qe 0 [],Qr [.sv 4 .bool]])],[],[(6,[.v,.v,.v,.v,.v,.v,.v,.v,.x])]⟩
def b3d(s:c1D):Option (c1D ⊕ Z0):=cond (decide (s.1<(s.2.1.2.2.2.2.1.length:Int))) ((m0k s.2.1.2.2.2.2.1 s.1).bind fun x3=>(m0k s.2.2.1.2.2.2.2.1 s.1).bind fun x4=>(b2z (x3,x4)).bind fun y5=>cond (!y5) (some (.inr (Sum.inr ((false,()))))) (some (.inl (wrap .i64 (s.1+1),s.2.1,s.2.2.1,())))) (some (.inr (Sum.inl ())))
def b0N(x:(a3j×a3j)):Option Bool:=(fun(a:a3j)=>(show Option (Bool×c4a)from cond (a.1 != x.2.1) (some (true,a,x.2,())) (cond (a.2.1 != x.2.2.1) (some (true,a,x.2,())) (cond (!(eqT Q8 a.2.2.1 x.2.2.2.1)) (some (true,a,x.2,())) ((b0M (a.2.2.2.1,x.2.2.2.2.1)).bind fun y1=>cond (!y1) (some (true,a,x.2,())) (some ((a.2.2.2.2.1.length:Int) != (x.2.2.2.2.2.1.length:Int),a,x.2,())))))).bind fun z2=>cond z2.1 (some false) ((y0s b3d (0,z2.2.1,z2.2.2.1,())).bind fun w6=>match w6 with |.inl a7=>some true |.inr b8=>some b8.1)) x.1
def b4M:FSem:=⟨[.v Q49,.v Q49],[.v .bool],b0N⟩
def H16:Hints:=⟨[(58,[5,.vp 2 Q49,.vp 3 Q49],[Qe 0 [],Qr [.sv 4 .bool]])],[(6,[Qn [.sv 41 .bool,.vp 2 Q49,.vp 3 Q49]])],[(6,[.v,.v,.v,.v,.v,.v,.v,.v,.v,.v,.x,.x])]⟩
def a4U(s:((List LI)×Z13)):Option (((List LI)×Z13) ⊕ Z0):=(fun(a:Int)=>cond (decide (a<(s.1.length:Int))) ((m0k s.1 a).bind fun x1=>(m0k s.2.1 a).bind fun x2=>(a2y (x1,x2)).bind fun y3=>cond (!y3) (some (.inr (Sum.inr ((false,()))))) (some (.inl (s.1,s.2.1,wrap .i64 (a+1),())))) (some (.inr (Sum.inl ())))) s.2.2.1
def a7c(x:((List LI)×(List LI))):Option Bool:=cond ((x.1.length:Int) != (x.2.length:Int)) (some false) ((y0s a4U (x.1,x.2,0,())).bind fun w4=>match w4 with |.inl a5=>some true |.inr b6=>some b6.1)
def b6h:FSem:=⟨[.v (.list false QL),.v (.list false QL)],[.v .bool],a7c⟩
def H74:Hints:=⟨[(58,[.sv 0 (.list false QL),.sv 1 (.list false QL),5],[Qe 0 [],Qr [.sv 4 .bool]])],[],[(6,[.v,.v,.v,.v,.v,.v,.v,.v,.x,.x])]⟩
def a4C(x:(Z12×Z12)):Option Bool:=cond (x.1.1==x.2.1) ((a7c (x.1.2.1,x.2.2.1)).bind fun y1=>some y1) (some false)
def b4N:FSem:=⟨[.v Q10,.v Q10],[.v .bool],a4C⟩
def a6z(x:LI):Option (Z8×Int×Int×Int):=(a4B x).bind fun y1=>cond (y1.2.2.2 != 0) (some ((0,0,0,()),0,0,y1.2.2.2)) (some (y1.1.2.2.1,y1.1.1,y1.1.2.1,0))
def b8z:FSem:=⟨[.v QB],[.v Q8,.v QI,.v QI,.v QI],a6z⟩
def H27:Hints:=⟨[],[],[(4,[.q,.q,.r [6,23],.r [6,24],.r [6,25],.r [6,26],.w [0,2],.v,.x,.x])]⟩
def b4O(s:Z5):Option (Z5 ⊕ (Unit ⊕ (Int×Unit))):=(fun(a:LI)(b:Int)=>cond (decide (b<(a.length:Int))) (cond ((decide (0≤b))&&(decide (b≤(a.length:Int)))) ((a3T (a23 (a01 b) (a06 (a02 a) a))).bind fun y1=>cond (y1.2.2==0) (some (.inr (Sum.inr ((b,()))))) (some (.inl (a,wrap .i64 (b+1),())))) none) (some (.inr (Sum.inl ())))) s.1 s.2.1
def b3e(x:(LI×Int)):Option Int:=(y0s b4O (x.1,v0r x.2 0,())).bind fun w2=>match w2 with |.inl a3=>some (-1) |.inr b4=>some b4.1
def b8A:FSem:=⟨[.v QB,.v QI],[.v QI],b3e⟩
def H36:Hints:=⟨[(26,[.sv 0 QB,5],[Qe 0 [],Qr [4]])],[],[]⟩
def b1g(x:Unit):Option Bool:=(a3a ((8,([[3,3],[3,3]]:List LI),()),(8000,2,8,()),5,0)).bind fun y1=>(a2S y1.1).bind fun y2=>(a3T y2.1).bind fun y3=>(a2x y3.1).bind fun y4=>(a6z y2.1).bind fun y5=>cond (y1.2==0) (cond (y2.2==0) (cond (y3.2.2==0) (cond (y4.2==0) (cond (y5.2.2.2==0) (cond (y3.2.1==(y2.1.length:Int)) ((b0N (y1.1,y3.1)).bind fun y6=>cond y6 ((a4C ((8,([[3,3],[3,3]]:List LI),()),y4.1)).bind fun y7=>cond y7 (cond (eqT Q8 y5.1 ((8000: Int),(2: Int),(8: Int),())) (cond (y5.2.1==5) (cond (y5.2.2.1==2) (cond (lim (2+(a02 y2.1))) ((b3e (a03 [1,245] y2.1,0)).bind fun y8=>cond (y8==2) (cond (decide ((y2.1.length:Int) > 2)) ((m0k y2.1 0).bind fun x9=>cond (x9==245) ((m0k y2.1 1).bind fun x10=>some (x10==75)) (some false)) (some false)) (some false)) none) (some false)) (some false)) (some false)) (some false)) (some false)) (some false)) (some false)) (some false)) (some false)) (some false)) (some false)
def c0J:FSem:=⟨[],[.v .bool],b1g⟩
def a5V(s:Z56):Option (Z56 ⊕ Z0):=cond (decide (s.2.1<(s.2.2.1.2.1.length:Int))) ((m0k s.2.2.1.2.1 s.2.1).bind fun x1=>cond (decide ((x1.length:Int) > s.1)) (some (.inr (Sum.inr ((false,()))))) (some (.inl (s.1,wrap .i64 (s.2.1+1),s.2.2.1,())))) (some (.inr (Sum.inl ())))
def a9z(x:(Z12×Int)):Option Bool:=cond (decide ((x.1.2.1.length:Int) > 12)) (some false) ((y0s a5V (x.2,0,x.1,())).bind fun w2=>match w2 with |.inl a3=>some true |.inr b4=>some b4.1)
def c1Q:FSem:=⟨[.v Q10,.v QI],[.v .bool],a9z⟩
def H10:Hints:=⟨[(58,[1,5,.vp 2 Q10],[Qe 0 [],Qr [.sv 4 .bool]])],[],[]⟩
def a5g(s:Z13):Option (Z13 ⊕ Z0):=cond (decide (s.2.1<(s.1.length:Int))) ((m0k s.1 s.2.1).bind fun x2=>(m0k s.1 0).bind fun x3=>cond ((x2.length:Int) != (x3.length:Int)) (some (.inr (Sum.inr ((false,()))))) (some (.inl (s.1,wrap .i64 (s.2.1+1),())))) (some (.inr (Sum.inl ())))
def a8X(x:(List LI)):Option Bool:=(show Option ((List LI)×(Bool×Unit))from cond (decide ((x.length:Int)<1)) (some (x,true,())) (some (x,decide ((x.length:Int) > 8),()))).bind fun z1=>cond z1.2.1 (some false) ((y0s a5g (z1.1,0,())).bind fun w4=>match w4 with |.inl a5=>some true |.inr b6=>some b6.1)
def c0K:FSem:=⟨[.v (.list false QL)],[.v .bool],a8X⟩
def H37:Hints:=⟨[(58,[.sv 0 (.list false QL),3],[Qe 0 [],Qr [.sv 2 .bool]])],[(6,[Qn [.sv 0 (.list false QL),.sv 11 .bool]])],[(6,[.v,.v,.v,.v,.v,.v,.v,.v,.v,.x])]⟩
def b4j(x:Int):Option Int:=(show Option (Int×Bool×Unit)from cond (decide (x<1)) (some (x,true,())) (some (x,decide (x > 31),()))).bind fun z1=>cond z1.2.1 (some 0) (cond (decide ((wrap .u64 (wrap .i64 (z1.1-1)))<0)) none (some (A0n .i64 (-1) (wrap .u64 (wrap .i64 (z1.1-1))))))
def c4c:FSem:=⟨[.v QI],[.v QI],b4j⟩
def c9x:Hints:=⟨[],[(6,[Qn [0,.sv 8 .bool]])],[]⟩
def b3f(x:Int):Option Int:=(show Option (Int×Bool×Unit)from cond (decide (x<1)) (some (x,true,())) (some (x,decide (x > 31),()))).bind fun z1=>cond z1.2.1 (some 0) (cond (decide ((wrap .u64 (wrap .i64 (z1.1-1)))<0)) none (some (wrap .i64 ((A0n .i64 1 (wrap .u64 (wrap .i64 (z1.1-1))))-1))))
def c3d:FSem:=⟨[.v QI],[.v QI],b3f⟩
def c9y:Hints:=⟨[],[(6,[Qn [0,.sv 8 .bool]])],[]⟩
def a9i(x:(Int×Int)):Option Bool:=cond (decide (x.2≥1)) (cond (decide (x.2≤31)) ((b4j x.2).bind fun y1=>cond (decide (x.1≥y1)) ((b3f x.2).bind fun y2=>some (decide (x.1≤y2))) (some false)) (some false)) (some false)
def c3e:FSem:=⟨[.v QI,.v QI],[.v .bool],a9i⟩
def a2v(s:Z56):Option (Z56 ⊕ (Z46 ⊕ (Bool×Unit))):=(fun(a b:Int)(c:Z12)=>(m0k c.2.1 a).bind fun x5=>cond (decide (b<(x5.length:Int))) ((m0k c.2.1 a).bind fun x6=>(m0k x6 b).bind fun x7=>(a9i (x7,c.1)).bind fun y8=>cond (!y8) (some (.inr (Sum.inr ((false,()))))) (some (.inl (a,wrap .i64 (b+1),c,())))) (some (.inr (Sum.inl (a,c,()))))) s.1 s.2.1 s.2.2.1
def a3t(s:Z46):Option (Z46 ⊕ Z0):=cond (decide (s.1<(s.2.1.2.1.length:Int))) ((y0s a2v (s.1,0,s.2.1,())).bind fun w9=>match w9 with |.inl a10=>some (.inl (wrap .i64 (a10.1+1),a10.2.1,())) |.inr b11=>some (.inr (Sum.inr ((b11.1,()))))) (some (.inr (Sum.inl ())))
def a5h(x:Z12):Option Bool:=(show Option Z49 from cond (decide (x.1<4)) (some (true,x,())) (cond (decide (x.1 > 24)) (some (true,x,())) ((a8X x.2.1).bind fun y1=>cond (!y1) (some (true,x,())) ((m0k x.2.1 0).bind fun x2=>cond (decide ((x2.length:Int)<1)) (some (true,x,())) ((m0k x.2.1 0).bind fun x3=>some (decide ((x3.length:Int) > 4096),x,())))))).bind fun z4=>cond z4.1 (some false) ((y0s a3t (0,z4.2.1,())).bind fun w12=>match w12 with |.inl a13=>some true |.inr b14=>some b14.1)
def b6i:FSem:=⟨[.v Q10],[.v .bool],a5h⟩
def H11:Hints:=⟨[(58,[3,.vp 1 Q10],[Qe 0 [],Qr [.sv 2 .bool]]),(3730,[3,4,.vp 1 Q10],[Qe 2 [3,.vp 1 Q10],Qr [.sv 2 .bool]])],[(6,[Qn [.sv 34 .bool,.vp 1 Q10]])],[(9,[.v,.v,.v,.v,.v,.v,.v,.v,.v,.v,.x,.x])]⟩
def a2n(s:(Int×Int×Int×Z79)):Option ((Int×Int×Int×Z79) ⊕ Z0):=(fun(a b c:Int)(d:Z8)(e:Z12)=>cond (decide (c≤3)) ((a3a (e,d,bits .i64 .and a 65535,c)).bind fun y5=>(a2S y5.1).bind fun y6=>(a2x y5.1).bind fun y7=>(show Option (Int×(Int×(Int×(Bool×(LI×Z79)))))from cond (y5.2 != 0) (some (a,b,c,true,y6.1,d,e,())) (cond (y6.2 != 0) (some (a,b,c,true,y6.1,d,e,())) (cond (y7.2 != 0) (some (a,b,c,true,y6.1,d,e,())) ((a4C (e,y7.1)).bind fun y8=>some (a,b,c,!y8,y6.1,d,e,()))))).bind fun z9=>cond z9.2.2.2.1 (some (.inr (Sum.inr ((false,()))))) ((show Option (Int×(Int×(Bool×(LI×Z79))))from cond (decide (z9.2.2.1 > 1)) (some (z9.1,z9.2.2.1,decide ((z9.2.2.2.2.1.length:Int) > z9.2.1),z9.2.2.2.2.1,z9.2.2.2.2.2.1,z9.2.2.2.2.2.2.1,())) (some (z9.1,z9.2.2.1,false,z9.2.2.2.2.1,z9.2.2.2.2.2.1,z9.2.2.2.2.2.2.1,()))).bind fun z10=>cond z10.2.2.1 (some (.inr (Sum.inr ((false,()))))) (some (.inl (z10.1,(z10.2.2.2.1.length:Int),wrap .i64 (z10.2.1+1),z10.2.2.2.2.1,z10.2.2.2.2.2.1,()))))) (some (.inr (Sum.inl ())))) s.1 s.2.1 s.2.2.1 s.2.2.2.1 s.2.2.2.2.1
def a7k(x:(Z12×Int)):Option Bool:=(b1g ()).bind fun y1=>cond (!y1) (some false) ((show Option (Int×Z49)from(a9z (x.1,40)).bind fun y2=>cond (!y2) (some (x.2,true,x.1,())) ((a5h x.1).bind fun y3=>some (x.2,!y3,x.1,()))).bind fun z4=>cond z4.2.1 (some true) ((y0s a2n (z4.1,0,0,(48000,(z4.2.2.1.2.1.length:Int),z4.2.2.1.1,()),z4.2.2.1,())).bind fun w11=>match w11 with |.inl a12=>some true |.inr b13=>some b13.1))
def a7l:FSem:=⟨[.v Q10,.v QI],[.v .bool],a7k⟩
def H5:Hints:=⟨[(506,[1,6,7,.box 5 Q8,.vp 2 Q10,Qp 5 5],[Qe 0 [],Qr [.sv 4 .bool]])],[(14,[Qn [1,.sv 23 .bool,.vp 2 Q10]]),(129614,[Qn [1,6,7,.sv 68 .bool,.own 10 10 QV,.box 5 Q8,.vp 2 Q10,Qp 5 5]]),(259230,[Qn [1,7,.sv 76 .bool,.own 10 10 QV,.box 5 Q8,.vp 2 Q10,Qp 5 5]])],[]⟩
end Go.Ab
