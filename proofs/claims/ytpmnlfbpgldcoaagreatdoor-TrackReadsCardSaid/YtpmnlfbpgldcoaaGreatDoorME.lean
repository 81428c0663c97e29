/- Part of the proof: It. Conditions: as each statement tells. -/
import Derived.RangeFuncBound
import Derived.RangeFuncCalls
import Derived.RangeFuncBox
import Derived.WalkKit
import Derived.OwnWalkIn
import Derived.TacticsInMore
import Derived.LoopNIn
import Derived.LoopIn
import Derived.Test.YtpmnlfbpgldcoaaGreatDoorProg
import Derived.KernelRfl
import Derived.Test.YtpmnlfbpgldcoaaGreatDoorMD
noncomputable section
set_option linter.unusedSimpArgs false
set_option linter.unusedVariables false
open Array renaming replicate_succ->a15,replicate_zero->a16
open Int renaming toNat->a00,tdiv->a06,tmod->a09
open List renaming length->a01,append->a02,replicate->a03,getD->a04,take->a05,set->a07,drop->a08,append_toArray->a18,cons_append->a19,size_toArray->a20,push_toArray->a22,length_nil->a23,nil_append->a24
open Nat renaming reduceAdd->a25,reduceSub->a26
open Option renaming getD_some->a27
namespace Go.Ab
open Go.Proofs Go.RowKit
attribute [local go_sem] Oper.semAt_some
set_option maxHeartbeats 1000000 in
theorem e5R:d2X Tryz.prog 269 288:=by
 refine⟨⟨_,_,Tryz.func269,rfl,by kernel_rfl⟩,fun A len cap w=>(callsIn_wide (n:=3)).1 ?_⟩
 refine callsIn_of_wp Tryz.func269 rfl trivial ?_
 simp only[Tryz.ntmps269,a20,lC,a23,a25,a26,a15,a16,a22,a18,a24,a19]
 gi_wp2
 go_ret
 exact⟨rfl,_,rfl⟩
abbrev b6A:Ty:=.pair (.int .i64) (.pair (.int .i64) .unit)
set_option maxRecDepth 100000 in
set_option maxHeartbeats 2000000 in
theorem e2E (l Bs b off len cap:Nat) (p q:Nat->Int) (J:Nat->World->Prop) (Jx:World->Prop) (W:World)
  (hJ:∀k W',J k W'->W'.cell? ⟨Bs,0,none⟩=some (.slice (some ⟨b,off,none⟩) len cap))
  (hlen:len<2147483648)
  (hcs:∀k W',k<len->J (k+1) W'->W'.cell? ⟨b,off+k*2,none⟩=some (.int .i64 (p k))/\W'.cell? ⟨b,off+k*2+1,none⟩=some (.int .i64 (q k)))
  (hY:∀n W',n<len->J (n+1) W'->YieldAt (Fr none) 0 Tryz.prog l #[.int .i64 (n:Int),.agg #[.int .i64 (p n),.int .i64 (q n)]] W' fun en W''=>(en=.returned (.bool true)/\J n W'')\/(en=.returned (.bool false)/\Jx W''))
  (h0:J len W):
  CallsIn (Fr none) 0 Tryz.prog 288 #[.func (.yield l) #[] #[],.pointer (some ⟨Bs,0,none⟩)] W fun en W'=>(∃v,en=.returned v)/\(J 0 W'\/Jx W'):=by
 refine callsIn_of_wp Tryz.func288 rfl trivial ?_
 simp only[Tryz.ntmps288,a20,lC,a23,a25,a26,a15,a16,a22,a18,a24,a19]
 have hBs:=hJ _ _ h0
 gi_wp2
 gi_loopw [3] (fun i wr=>∃k:Nat,k<=len/\i=.int .i64 ((k:Int)-1)/\J k wr) (fun i _=>(intOf i+1).toNat)
 case atStart=>exact⟨len,Nat.le_refl _,rfl,h0⟩
 case round=>
  obtain⟨k,hk,rfl,hJs⟩:=hrel
  cases k with
  |succ n=>
   obtain⟨fn,tmps,assign,body,hy,hR⟩:=hY n wr (by omega) hJs
   have hcx:=hJ _ _ hJs
   obtain⟨hc0,hc1⟩:=hcs n wr (by omega) hJs
   gi_wp2
   refine hR.mono ?_
   rintro e W3 (⟨rfl,hJ3⟩|⟨rfl,hJx3⟩)
   ·gi_wp2
    go_roundw
    case rel=>exact⟨n,by omega,by simp,hJ3⟩
    case measure=>simp[intOf]
   ·gi_wp2
    refine bodyPost_ret (results_none rfl _ _ _) rfl ?_
    exact⟨⟨_,rfl⟩,.inr hJx3⟩
  |zero=>
   gi_wp2
   go_end0
   exact⟨⟨_,rfl⟩,.inl hJs⟩
set_option maxRecDepth 100000 in
set_option maxHeartbeats 2000000 in
theorem e0F (l Bs:Nat) (A:Option Addr) (c:Nat) (J:Nat->World->Prop) (W:World) (hBs:W.cell? ⟨Bs,0,none⟩=some (.slice A 0 c)) (h0:J 0 W):
  CallsIn (Fr none) 0 Tryz.prog 288 #[.func (.yield l) #[] #[],.pointer (some ⟨Bs,0,none⟩)] W fun en W'=>(∃v,en=.returned v)/\J 0 W':=by
 refine callsIn_of_wp Tryz.func288 rfl trivial ?_
 simp only[Tryz.ntmps288,a20,lC,a23,a25,a26,a15,a16,a22,a18,a24,a19]
 gi_wp2
 gi_loopw [3] (fun i wr=>i=.int .i64 (-1)/\J 0 wr) (fun _ _=>0)
 case atStart=>exact⟨rfl,h0⟩
 case round=>
  obtain⟨rfl,hJs⟩:=hrel
  gi_wp2
  go_end0
  exact⟨⟨_,rfl⟩,hJs⟩
theorem d0l{m:Mem}{Sh:Nat->Prop}{b o:Nat}{x:b6A.den}{R}(h:dec m b6A ((Src.at b o).rd m)=some (x,[],R)):
  m b o=some (.int .i64 x.1)/\m b (o+1)=some (.int .i64 x.2.1)/\VOk m Sh b6A x (.agg #[.int .i64 x.1,.int .i64 x.2.1]):=by
 obtain⟨p,q,u⟩:=x;simp only[b6A,dec,Src.rd,Ty.cells,Nat.add_zero]at h
 split at h
 cases h;rename_i r o1 j g
 split at g
 rename_i n c
 split at g
 rename_i e;subst e;simp only[sj]at g;obtain⟨rfl,rfl,rfl⟩:=g
 split at h
 cases h;rename_i s o2 r2 k
 split at k
 cases k;rename_i t i l f
 split at f
 rename_i d a
 split at f
 rename_i e;subst e;simp only[sj]at f k h;obtain⟨rfl,rfl,rfl⟩:=f;obtain⟨rfl,rfl,rfl⟩:=k;obtain⟨⟨rfl,rfl,rfl⟩,-,-⟩:=h;exact⟨c,a,fun _=>⟨_,rfl,rfl⟩,fun h=>(by cases h),[],rfl,by simp⟩;cases f;cases f;cases g;cases g
theorem c0G {P:Program} {f:FuncId} (hb:b6p P f) (args:Array Value) (w:World):(callFunc f args).run P w=.ok (.enter f args) w:=by
 obtain ⟨fn,c',h1,h2,h3⟩:=hb;have h4 : ¬ fn.name = "runtime.NumGoroutine" := by simpa using h3
 simp [callFunc,program,Sem.run,h1,h2,h4,Result.andThen]
theorem e5S:c6S Tryz.prog 288 b6A:=by
 refine⟨fun args w=>c0G ⟨_,_,Tryz.func288,rfl,by kernel_rfl⟩ args w,fun l Bs sv f J D W i t L o=>?_⟩;obtain⟨z,Sh,y⟩:=t _ _ o;obtain⟨A,n,c,rfl,rfl,N,v,j⟩:=y.header
 by_cases hx0:f.length=0
 rw[hx0]at o z;exact(e0F l Bs A c J W z o).mono fun e g h=>⟨h.1,.inl h.2⟩;cases A with
 |none=>have:=j rfl;omega
 |some A=>
  obtain⟨b,off,B⟩:=A
  have:=(v _ rfl).resolve_left (by omega)
  simp only at this;subst this;have u:∀k g,k<f.length->J (k+1) g->∃x,f[k]?=some x/\g.cell? ⟨b,off+k*2,none⟩=some (.int .i64 x.1)/\g.cell? ⟨b,off+k*2+1,none⟩=some (.int .i64 x.2.1):=by
   intro k g p d;obtain⟨-,a,hv⟩:=t _ _ d;obtain⟨C,O,E,R,e,F,G,H,s,I,K⟩:=hv.elem rfl (lG p);simp only[Value.slice.injEq,sj]at e;obtain⟨rfl,rfl,rfl⟩:=e;obtain⟨q,r,-⟩:=d0l (Sh:=a) s;exact⟨_,lG p,q,r⟩
  refine e2E l Bs b off f.length c (fun k=>((f[k]?).getD b6A.dflt).1) (fun k=>((f[k]?).getD b6A.dflt).2.1) J D W (fun k g d=>(t k g d).1) i (fun k g p d=>?_) (fun n g M d=>?_) o;obtain⟨x,m,q,r⟩:=u k g p d;simp only[m,a27];exact⟨q,r⟩;have m:f[n]?=some f[n]:=lG M;simp only[m,a27];refine L n _ _ g m d fun a hv=>?_
  obtain⟨C,O,E,R,e,F,G,H,s,I,K⟩:=hv.elem rfl m;exact(d0l (Sh:=a) s).2.2
set_option maxHeartbeats 1000000 in
theorem e5T:d2X Tryz.prog 161 224:=by
 refine⟨⟨_,_,Tryz.func161,rfl,by kernel_rfl⟩,fun A len cap w=>(callsIn_wide (n:=3)).1 ?_⟩
 refine callsIn_of_wp Tryz.func161 rfl trivial ?_
 simp only[Tryz.ntmps161,a20,lC,a23,a25,a26,a15,a16,a22,a18,a24,a19]
 gi_wp2
 go_ret
 exact⟨rfl,_,rfl⟩
abbrev b9Y:Ty:=.pair (.int .i64) (.pair (.int .i64) (.pair (.int .i64) .unit))
set_option maxRecDepth 100000 in
set_option maxHeartbeats 2000000 in
theorem e2F (l Bs b off len cap:Nat) (p q r:Nat->Int) (J:Nat->World->Prop) (Jx:World->Prop) (W:World)
  (hJ:∀k W',J k W'->W'.cell? ⟨Bs,0,none⟩=some (.slice (some ⟨b,off,none⟩) len cap))
  (hlen:len<2147483648)
  (hcs:∀k W',k<len->J (k+1) W'->W'.cell? ⟨b,off+k*3,none⟩=some (.int .i64 (p k))/\W'.cell? ⟨b,off+k*3+1,none⟩=some (.int .i64 (q k))/\W'.cell? ⟨b,off+k*3+2,none⟩=some (.int .i64 (r k)))
  (hY:∀n W',n<len->J (n+1) W'->YieldAt (Fr none) 0 Tryz.prog l #[.int .i64 (n:Int),.agg #[.int .i64 (p n),.int .i64 (q n),.int .i64 (r n)]] W' fun en W''=>(en=.returned (.bool true)/\J n W'')\/(en=.returned (.bool false)/\Jx W''))
  (h0:J len W):
  CallsIn (Fr none) 0 Tryz.prog 224 #[.func (.yield l) #[] #[],.pointer (some ⟨Bs,0,none⟩)] W fun en W'=>(∃v,en=.returned v)/\(J 0 W'\/Jx W'):=by
 refine callsIn_of_wp Tryz.func224 rfl trivial ?_
 simp only[Tryz.ntmps224,a20,lC,a23,a25,a26,a15,a16,a22,a18,a24,a19]
 have hBs:=hJ _ _ h0
 gi_wp2
 gi_loopw [3] (fun i wr=>∃k:Nat,k<=len/\i=.int .i64 ((k:Int)-1)/\J k wr) (fun i _=>(intOf i+1).toNat)
 case atStart=>exact⟨len,Nat.le_refl _,rfl,h0⟩
 case round=>
  obtain⟨k,hk,rfl,hJs⟩:=hrel
  cases k with
  |succ n=>
   obtain⟨fn,tmps,assign,body,hy,hR⟩:=hY n wr (by omega) hJs
   have hcx:=hJ _ _ hJs
   obtain⟨hc0,hc1,hc2⟩:=hcs n wr (by omega) hJs
   gi_wp2
   refine hR.mono ?_
   rintro e W3 (⟨rfl,hJ3⟩|⟨rfl,hJx3⟩)
   ·gi_wp2
    go_roundw
    case rel=>exact⟨n,by omega,by simp,hJ3⟩
    case measure=>simp[intOf]
   ·gi_wp2
    refine bodyPost_ret (results_none rfl _ _ _) rfl ?_
    exact⟨⟨_,rfl⟩,.inr hJx3⟩
  |zero=>
   gi_wp2
   go_end0
   exact⟨⟨_,rfl⟩,.inl hJs⟩
set_option maxRecDepth 100000 in
set_option maxHeartbeats 2000000 in
theorem e0G (l Bs:Nat) (A:Option Addr) (c:Nat) (J:Nat->World->Prop) (W:World) (hBs:W.cell? ⟨Bs,0,none⟩=some (.slice A 0 c)) (h0:J 0 W):
  CallsIn (Fr none) 0 Tryz.prog 224 #[.func (.yield l) #[] #[],.pointer (some ⟨Bs,0,none⟩)] W fun en W'=>(∃v,en=.returned v)/\J 0 W':=by
 refine callsIn_of_wp Tryz.func224 rfl trivial ?_
 simp only[Tryz.ntmps224,a20,lC,a23,a25,a26,a15,a16,a22,a18,a24,a19]
 gi_wp2
 gi_loopw [3] (fun i wr=>i=.int .i64 (-1)/\J 0 wr) (fun _ _=>0)
 case atStart=>exact⟨rfl,h0⟩
 case round=>
  obtain⟨rfl,hJs⟩:=hrel
  gi_wp2
  go_end0
  exact⟨⟨_,rfl⟩,hJs⟩
theorem c8N{m:Mem}{rd:Nat->Option Value}{x o r}(h:dec m (.int .i64) rd=some (x,o,r)):rd 0=some (.int .i64 x)/\o=[]/\r=[]:=by
 simp only[dec]at h
 split at h
 rename_i k n g
 split at h
 rename_i e;subst e;simp only[sj,pJ]at h;obtain⟨rfl,rfl,rfl⟩:=h;exact⟨g,rfl,rfl⟩;cases h;cases h
theorem c5B{m:Mem}{a b:Ty}{rd:Nat->Option Value}{x o r}(h:dec m (.pair a b) rd=some (x,o,r)):∃o1 g o2 r2,dec m a rd=some (x.1,o1,g)/\dec m b (fun j=>rd (a.cells+j))=some (x.2,o2,r2)/\o=o1++o2/\r=g++r2:=by
 simp only[dec]at h
 split at h
 cases h;rename_i c o1 g f
 split at h
 cases h;rename_i d o2 r2 k;simp only[sj,pJ]at h;obtain⟨rfl,rfl,rfl⟩:=h;exact⟨_,_,_,_,f,k,rfl,rfl⟩
theorem d3b{m:Mem}{Sh:Nat->Prop}{b o:Nat}{x:b9Y.den}{R}(h:dec m b9Y ((Src.at b o).rd m)=some (x,[],R)):
  m b o=some (.int .i64 x.1)/\m b (o+1)=some (.int .i64 x.2.1)/\m b (o+2)=some (.int .i64 x.2.2.1)/\VOk m Sh b9Y x (.agg #[.int .i64 x.1,.int .i64 x.2.1,.int .i64 x.2.2.1]):=by
 obtain⟨_,_,_,_,g,f,-,-⟩:=c5B h;obtain⟨_,_,_,_,k,a,-,-⟩:=c5B f;obtain⟨_,_,_,_,c,-,-,-⟩:=c5B a;exact⟨(c8N g).1,(c8N k).1,(c8N c).1,fun _=>⟨_,rfl,rfl⟩,fun h=>(by cases h),[],rfl,by simp⟩
theorem e5U:c6S Tryz.prog 224 b9Y:=by
 refine⟨fun args w=>c0G ⟨_,_,Tryz.func224,rfl,by kernel_rfl⟩ args w,fun l Bs sv f J E W i u M o=>?_⟩;obtain⟨B,Sh,z⟩:=u _ _ o;obtain⟨A,n,c,rfl,rfl,O,y,j⟩:=z.header
 by_cases hx0:f.length=0
 rw[hx0]at o B;exact(e0G l Bs A c J W B o).mono fun e g h=>⟨h.1,.inl h.2⟩;cases A with
 |none=>have:=j rfl;omega
 |some A=>
  obtain⟨b,off,C⟩:=A
  have:=(y _ rfl).resolve_left (by omega)
  simp only at this;subst this;have v:∀k g,k<f.length->J (k+1) g->∃x,f[k]?=some x/\g.cell? ⟨b,off+k*3,none⟩=some (.int .i64 x.1)/\g.cell? ⟨b,off+k*3+1,none⟩=some (.int .i64 x.2.1)/\g.cell? ⟨b,off+k*3+2,none⟩=some (.int .i64 x.2.2.1):=by
   intro k g p d;obtain⟨-,a,hv⟩:=u _ _ d;obtain⟨D,P,F,R,e,G,H,I,t,K,L⟩:=hv.elem rfl (lG p);simp only[Value.slice.injEq,sj]at e;obtain⟨rfl,rfl,rfl⟩:=e;obtain⟨q,r,s,-⟩:=d3b (Sh:=a) t;exact⟨_,lG p,q,r,s⟩
  refine e2F l Bs b off f.length c (fun k=>((f[k]?).getD b9Y.dflt).1) (fun k=>((f[k]?).getD b9Y.dflt).2.1) (fun k=>((f[k]?).getD b9Y.dflt).2.2.1) J E W (fun k g d=>(u k g d).1) i (fun k g p d=>?_) (fun n g N d=>?_) o;obtain⟨x,m,q,r,s⟩:=v k g p d;simp only[m,a27];exact⟨q,r,s⟩;have m:f[n]?=some f[n]:=lG N;simp only[m,a27];refine M n _ _ g m d fun a hv=>?_
  obtain⟨D,P,F,R,e,G,H,I,t,K,L⟩:=hv.elem rfl m;exact(d3b (Sh:=a) t).2.2.2
end Go.Ab
namespace Go.Ab
open IntKind(wrap)
open Go.Proofs
set_option maxRecDepth 100000
set_option linter.unusedVariables false
abbrev QI:Ty:=.int .i64
abbrev QL:Ty:=.list false QI
abbrev QU:Ty:=.int .u64
abbrev QV:Ty:=.int .u8
abbrev QB:Ty:=.list false QV
abbrev LI:Type:=List Int
instance (n:Nat):OfNat Ent n:=⟨.sv n QI⟩
@[reducible] def Qp(i n:Nat):Ent:=.ptr i n []
@[reducible] def Qn(l:a0h):Ex×a0h:=(.normal,l)
@[reducible] def Qe(n:Nat)(l:a0h):Ex×a0h:=(.exit n,l)
@[reducible] def Qr(l:a0h):Ex×a0h:=(.ret,l)
def QH:Hints:=⟨[],[],[]⟩
abbrev Z0:Type:=(Unit ⊕ (Bool×Unit))
abbrev Z1:Type:=(LI×LI)
abbrev Z2:Type:=((List LI)×Unit)
abbrev Z3:Type:=(Int×(Int×LI))
abbrev Z4:Type:=(LI×(Int×Int))
abbrev Z5:Type:=(List (Int×(Int×Unit)))
abbrev Z6:Type:=(Int×(LI×Unit))
abbrev Z7:Type:=(LI×(Int×Unit))
abbrev Z8:Type:=(Int×(Int×(Int×Unit)))
abbrev Z9:Type:=(Bool×(LI×Unit))
abbrev Z10:Type:=((LI×Unit)×Unit)
abbrev Z11:Type:=(Int×(Int×(Bool×Unit)))
abbrev Z12:Type:=((Int×(Int×Unit))×Unit)
abbrev Z13:Type:=(LI×(LI×Int))
abbrev Z14:Type:=(LI×(Int×LI))
abbrev Z15:Type:=(Int×Z2)
abbrev Z16:Type:=(LI×(LI×Unit))
abbrev Z17:Type:=((List LI)×(Int×Unit))
abbrev Z18:Type:=(LI×(Int×(Int×Unit)))
abbrev Z19:Type:=(List Z8)
abbrev Z20:Type:=(Int×Z6)
abbrev Z21:Type:=(Int×Z7)
abbrev Z22:Type:=(LI×(Int×(Bool×Unit)))
abbrev Z23:Type:=(Z6×Unit)
abbrev Z24:Type:=(Int×Z8)
abbrev Z25:Type:=(Int×Z10)
abbrev Z26:Type:=(Z8×Unit)
abbrev Z27:Type:=(Int×Z11)
abbrev Z28:Type:=(Int×Z16)
abbrev Z29:Type:=(LI×Z6)
abbrev Z30:Type:=(Z15×Int)
abbrev Z31:Type:=(Int×Z18)
abbrev Z32:Type:=(Z18×Int)
abbrev Z33:Type:=(LI×Z8)
abbrev Z34:Type:=(Z15×Unit)
abbrev Z35:Type:=(Int×Z20)
abbrev Z36:Type:=(LI×Z11)
abbrev Z37:Type:=(Z18×Unit)
abbrev Z38:Type:=(Int×Z24)
abbrev Z39:Type:=(Z5×(Int×Unit))
abbrev Z40:Type:=(Int×Z25)
abbrev Z41:Type:=(Bool×Z23)
abbrev Z42:Type:=(LI×Z20)
abbrev Z43:Type:=(Int×Z28)
abbrev Z44:Type:=(Z28×Int)
abbrev Z45:Type:=(Int×Z33)
abbrev Z46:Type:=(Int×Z34)
abbrev Z47:Type:=(Z6×(LI×Unit))
abbrev Z48:Type:=((LI×Unit) ⊕ Z6)
abbrev Z49:Type:=(LI×Z22)
abbrev Z50:Type:=(Int×Z31)
abbrev Z51:Type:=(Z28×Unit)
abbrev Z52:Type:=(Z18×(Int×Int))
abbrev Z53:Type:=(Int×Z35)
abbrev Z54:Type:=(Int×Z37)
abbrev Z55:Type:=(Bool×Z34)
abbrev Z56:Type:=(Int×Z38)
abbrev Z57:Type:=(Z18 ⊕ (Int×Unit))
abbrev Z58:Type:=(Bool×Z37)
abbrev Z59:Type:=((List LI)×Z15)
abbrev Z60:Type:=((List LI)×Z19)
abbrev Z61:Type:=(LI×Z33)
abbrev Z62:Type:=(Int×Z42)
abbrev Z63:Type:=(LI×Z31)
abbrev Z64:Type:=(LI×Z34)
abbrev Z65:Type:=(Z6×Z3)
abbrev Z66:Type:=(LI×Z35)
abbrev Z67:Type:=(LI×Z37)
abbrev Z68:Type:=(Int×Z46)
abbrev Z69:Type:=(Int×Z51)
abbrev Z70:Type:=(Int×Z54)
abbrev Z71:Type:=(Z31 ⊕ (Int×Unit))
abbrev Z72:Type:=(Z19×(Int×(Int×Unit)))
abbrev Z73:Type:=(Int×Z56)
abbrev Z74:Type:=(Int×Z58)
abbrev Z75:Type:=(Z18 ⊕ Z0)
abbrev Z76:Type:=(LI×Z43)
abbrev Z77:Type:=(LI×Z47)
abbrev Z78:Type:=(LI×Z49)
abbrev Z79:Type:=(LI×Z51)
abbrev Z80:Type:=(Int×Z64)
abbrev Z81:Type:=(Int×Z67)
abbrev Z82:Type:=(Int×Z69)
abbrev Z83:Type:=(Int×Z70)
abbrev Z84:Type:=(Z6×Z23)
abbrev Z85:Type:=(Int×Z73)
abbrev Z86:Type:=((LI×Unit)×Z37)
abbrev Z87:Type:=(Int×Z74)
abbrev Z88:Type:=(Int×Z79)
abbrev Z89:Type:=(Int×Z80)
abbrev Z90:Type:=(Int×Z81)
abbrev Z91:Type:=(Int×Z82)
abbrev Z92:Type:=(Z6×Z37)
abbrev Z93:Type:=(Int×Z85)
abbrev Z94:Type:=(Int×Z90)
abbrev Z95:Type:=(Z8×Z61)
abbrev Z96:Type:=(Z5×Z77)
abbrev Z97:Type:=(Z95×Unit)
abbrev Z98:Type:=(Z18×Z84)
abbrev Z99:Type:=(LI×Z96)
abbrev f1y:Type:=(LI×Z98)
abbrev e2G:Type:=(Z95×Z12)
abbrev f1z:Type:=(LI×Z99)
abbrev f1A:Type:=(Int×f1z)
abbrev f1B:Type:=(LI×f1y)
abbrev f1C:Type:=(LI×e2G)
abbrev f1D:Type:=(Z18×Z97)
abbrev f1E:Type:=(Int×f1A)
abbrev d7Y:Type:=(Int×f1B)
abbrev f1F:Type:=(Int×f1C)
abbrev f1G:Type:=(Int×f1E)
abbrev c8O:Type:=(Int×f1F)
abbrev f1H:Type:=(Int×f1G)
abbrev a2H:Type:=(Int×f1H)
abbrev c8P:Type:=(List a2H)
abbrev b2Q:Type:=(a2H×Int)
abbrev c8Q:Type:=(a2H×Unit)
abbrev f1I:Type:=(c8P×Unit)
abbrev d7Z:Type:=(Bool×c8Q)
abbrev f1J:Type:=(LI×c8Q)
abbrev d3c:Type:=(Int×d7Z)
abbrev d8a:Type:=(Z95×Z97)
abbrev f1K:Type:=(Int×f1J)
abbrev f1L:Type:=((LI×Unit)×c8Q)
abbrev d8b:Type:=(Int×d3c)
abbrev d8c:Type:=(Int×f1K)
abbrev d8d:Type:=(Z18×a2H)
abbrev f1M:Type:=(Int×f1L)
abbrev e2H:Type:=(Z18×c8Q)
abbrev c8R:Type:=(a2H×Z37)
abbrev d8e:Type:=(Int×f1M)
abbrev f1N:Type:=(Z19×f1I)
abbrev e2I:Type:=(Int×e2H)
abbrev c8S:Type:=(Int×e2I)
abbrev d8f:Type:=(Z95×f1D)
abbrev f1O:Type:=(Z8×f1N)
abbrev f1P:Type:=(Int×f1O)
abbrev a2Q:Type:=(Int×f1P)
abbrev b1a:Type:=(List a2Q)
abbrev d8g:Type:=(a2Q×Int)
abbrev b2R:Type:=(a2Q×Unit)
abbrev f1Q:Type:=(b1a×Unit)
abbrev d8h:Type:=(Z15×b2R)
abbrev f1R:Type:=(Z5×f1Q)
abbrev d8i:Type:=(a2Q×Z37)
abbrev f1S:Type:=(Int×f1R)
abbrev f1T:Type:=(Int×f1S)
abbrev e2J:Type:=((List LI)×d8h)
abbrev c8T:Type:=(a2H×c8Q)
abbrev d8j:Type:=(Int×e2J)
abbrev a5S:Type:=(Z8×f1T)
abbrev c5C:Type:=(a5S×Int)
abbrev c5D:Type:=(a5S×Unit)
abbrev d8k:Type:=(Z18×c8T)
abbrev f1U:Type:=(Int×d8k)
abbrev d8l:Type:=(Int×f1U)
abbrev e6V:Type:=(a5S×Z26)
abbrev d3d:Type:=(Int×d8l)
abbrev d8m:Type:=(a2Q×b2R)
abbrev f1V:Type:=(a2Q×d8i)
abbrev e2K:Type:=(Int×f1V)
abbrev d8n:Type:=(Int×e2K)
abbrev e2L:Type:=(a5S×c5D)
abbrev d8o:Type:=(Int×e2L)
abbrev d8p:Type:=(a5S×e6V)
abbrev Q0:Ty:=(.pair QI .unit)
abbrev Q1:Ty:=(.pair (.nl QI) .unit)
abbrev Q2:Ty:=(.pair (.list true QV) .unit)
abbrev Q3:Ty:=(.pair (.list true QI) .unit)
abbrev Q4:Ty:=(.pair QL .unit)
abbrev Q5:Ty:=(.pair QI Q0)
abbrev Q6:Ty:=(.pair QU Q0)
abbrev Q7:Ty:=(.pair (.nl QL) .unit)
abbrev Q8:Ty:=(.pair (.list true (.list true QI)) .unit)
abbrev Q9:Ty:=(.pair (.list true QL) .unit)
abbrev Q10:Ty:=(.pair (.list false QL) .unit)
abbrev Q11:Ty:=(.pair (.list true QV) Q0)
abbrev Q12:Ty:=(.pair QI Q3)
abbrev Q13:Ty:=(.pair QI Q4)
abbrev Q14:Ty:=(.pair QI Q5)
abbrev Q15:Ty:=(.pair QI Q6)
abbrev Q16:Ty:=(.pair QU Q5)
abbrev Q17:Ty:=(.pair (.list true QI) Q3)
abbrev Q18:Ty:=(.pair QI Q10)
abbrev Q19:Ty:=(.pair QB Q5)
abbrev Q20:Ty:=(.pair QI Q17)
abbrev Q21:Ty:=(.pair (.list true QI) Q15)
abbrev Q22:Ty:=(.pair (.list true QI) Q16)
abbrev Q23:Ty:=(.pair QL Q15)
abbrev Q24:Ty:=(.pair QL Q16)
abbrev Q25:Ty:=(.pair Q13 Q1)
abbrev Q26:Ty:=(.pair Q13 Q4)
abbrev Q27:Ty:=(.pair (.nl QI) Q25)
abbrev Q28:Ty:=(.pair (.list true QI) Q21)
abbrev Q29:Ty:=(.pair (.list true QI) Q22)
abbrev Q30:Ty:=(.pair QL Q23)
abbrev Q31:Ty:=(.pair QL Q24)
abbrev Q32:Ty:=(.pair (.nl QI) Q26)
abbrev Q33:Ty:=(.pair QL Q26)
abbrev Q34:Ty:=(.pair (.nl Q5) Q27)
abbrev Q35:Ty:=(.pair (.list true Q5) Q32)
abbrev Q36:Ty:=(.pair Q14 Q28)
abbrev Q37:Ty:=(.pair Q14 Q29)
abbrev Q38:Ty:=(.pair Q14 Q30)
abbrev Q39:Ty:=(.pair Q14 Q31)
abbrev Q40:Ty:=(.pair (.list true Q5) Q33)
abbrev Q41:Ty:=(.pair (.list false Q5) Q33)
abbrev Q42:Ty:=(.pair (.arr 3 QI) Q34)
abbrev Q43:Ty:=(.pair (.arr 3 QI) Q35)
abbrev Q44:Ty:=(.pair (.arr 3 QI) Q40)
abbrev Q45:Ty:=(.pair (.arr 3 QI) Q41)
abbrev Q46:Ty:=(.pair (.nl QI) Q42)
abbrev Q47:Ty:=(.pair QI Q46)
abbrev Q48:Ty:=(.pair (.list true QI) Q43)
abbrev Q49:Ty:=(.pair QL Q44)
abbrev Q50:Ty:=(.pair QL Q45)
abbrev Q51:Ty:=(.pair QI Q47)
abbrev Q52:Ty:=(.pair QI Q48)
abbrev Q53:Ty:=(.pair QI Q49)
abbrev Q54:Ty:=(.pair QI Q50)
abbrev Q55:Ty:=(.pair QI Q51)
abbrev Q56:Ty:=(.pair QI Q52)
abbrev Q57:Ty:=(.pair QI Q53)
abbrev Q58:Ty:=(.pair QI Q54)
abbrev Q59:Ty:=(.pair QI Q55)
abbrev Q60:Ty:=(.pair QI Q56)
abbrev Q61:Ty:=(.pair QI Q57)
abbrev Q62:Ty:=(.pair QI Q58)
abbrev Q63:Ty:=(.pair QI Q60)
abbrev Q64:Ty:=(.pair QI Q61)
abbrev Q65:Ty:=(.pair QI Q62)
abbrev Q66:Ty:=(.pair QI Q63)
abbrev Q67:Ty:=(.pair QI Q64)
abbrev Q68:Ty:=(.pair QI Q65)
abbrev Q69:Ty:=(.pair (.nl Q68) .unit)
abbrev Q70:Ty:=(.pair (.list true Q68) .unit)
abbrev Q71:Ty:=(.pair (.list false Q68) .unit)
abbrev Q72:Ty:=(.pair (.nl Q14) Q69)
abbrev Q73:Ty:=(.pair (.list true Q14) Q69)
abbrev Q74:Ty:=(.pair (.list false Q14) Q69)
abbrev Q75:Ty:=(.pair (.list false Q14) Q70)
abbrev Q76:Ty:=(.pair (.list false Q14) Q71)
abbrev Q77:Ty:=(.pair Q14 Q72)
abbrev Q78:Ty:=(.pair Q14 Q73)
abbrev Q79:Ty:=(.pair Q14 Q74)
abbrev Q80:Ty:=(.pair Q14 Q75)
abbrev Q81:Ty:=(.pair Q14 Q76)
abbrev Q82:Ty:=(.pair QI Q77)
abbrev Q83:Ty:=(.pair QI Q78)
abbrev Q84:Ty:=(.pair QI Q79)
abbrev Q85:Ty:=(.pair QI Q80)
abbrev Q86:Ty:=(.pair QI Q81)
abbrev Q87:Ty:=(.pair QI Q83)
abbrev Q88:Ty:=(.pair QI Q84)
abbrev Q89:Ty:=(.pair QI Q85)
abbrev Q90:Ty:=(.pair QI Q86)
abbrev Q91:Ty:=(.pair (.nl Q90) .unit)
abbrev Q92:Ty:=(.pair (.list true Q90) .unit)
abbrev Q93:Ty:=(.pair (.list false Q90) .unit)
abbrev Q94:Ty:=(.pair (.nl Q5) Q91)
abbrev Q95:Ty:=(.pair (.list true Q5) Q92)
abbrev Q96:Ty:=(.pair (.list true Q5) Q93)
abbrev Q97:Ty:=(.pair (.list false Q5) Q93)
abbrev Q98:Ty:=(.pair QU Q94)
abbrev Q99:Ty:=(.pair QU Q95)
abbrev f1W:Ty:=(.pair QU Q96)
abbrev f1X:Ty:=(.pair QU Q97)
abbrev b9Z:Ty:=(.pair QI Q98)
abbrev d8q:Ty:=(.pair QI Q99)
abbrev e6W:Ty:=(.pair QI f1W)
abbrev e6X:Ty:=(.pair QI f1X)
abbrev d8r:Ty:=(.pair Q14 d8q)
abbrev e2M:Ty:=(.pair Q14 e6W)
abbrev a2E:Ty:=(.pair Q14 e6X)
def d2e:List (Nat×Ty):=[(2,.int .i64),(3,.int .i64),(5,.int .u8),(9,.str),(22,.list false QV),(24,.pair QI Q0),(27,.pair QI Q5),(28,.int .u64),(29,.list false Q5),(30,.list false Q90),(32,.pair Q14 e6X),(33,.int .i64),(36,.list false QI),(49,.pair Q14 Q30),(52,.list false Q14),(53,.list false Q68),(55,.pair QI Q86),(56,.list false QL),(58,.pair QI Q10),(64,.pair QI Q0),(66,.pair Q14 Q31),(85,.list false QB),(86,.list false Q18),(96,.int .u32),(107,.pair QB Q5),(117,.arr 3 QI),(118,.list false Q5),(120,.pair QI Q4),(122,.pair QI Q65),(133,.pair QB Q0),(139,.int .u16),(141,.list false QU),(147,.pair QB Q5),(150,.int .u64),(162,.pair QB Q5),(165,.pair QB .unit),(179,.pair QI Q5),(192,.pair QI Q0),(199,.pair QB Q5),(258,.arr 64 QV),(279,.pair QI (.pair QL Q4)),(280,.list false (.arr 3 QI)),(286,.pair QI (.pair QL Q4))]
def T0:Nat->Option Ty:=fun t=>find d2e t
def d8s:List Nat:=[27,64,117,179,192]
def f1Y:Nat->Bool:=fun t=>d8s.contains t
def d3e:List Nat:=[]
def f1Z:Nat->Bool:=fun t=>d3e.contains t
def b7B:(List Int):=[0,1,56,2,57,49,28,3,61,58,42,50,38,29,17,4,62,47,59,36,45,43,51,22,53,39,33,30,24,18,12,5,63,55,48,27,60,41,37,16,46,35,44,21,52,32,23,11,54,26,40,15,34,20,31,10,25,14,19,9,13,8,7,6]
def G0:Nat->Option ((t:Ty)×t.den):=fun g=>find ([(2,⟨.arr 64 QV,b7B⟩)]:List (Nat×((t:Ty)×t.den))) g
@[reducible] def a1d(a:List (Nat×FSem))(b:List (Nat×Ty))(c d:Nat):Cx:=⟨f1Z,f1Y,T0,fun f=>find a f,fun n=>find b n,c.testBit,d.testBit,G0⟩
@[reducible] def rfS(s:FSem)(f:(a2f (s.ps.map PA.ty)).den->Option (a2f ((RA.all s.ps s.rs).map RA.ty)).den):FSem:=⟨s.ps,s.rs,f⟩
def a8K(x:Int):Option Bool:=cond (decide (4<=x)) (some (decide (x<=24))) (some false)
def d1d:FSem:=⟨[.v QI],[.v .bool],a8K⟩
def a8L(x:Z8):Option Bool:=cond (decide (1<=x.1)) (cond (decide (x.1<=1048576)) (cond (decide (1<=x.2.1)) (cond (decide (x.2.1<=8)) ((a8K x.2.2.1).bind fun y1=>some y1) (some false)) (some false)) (some false)) (some false)
def a8M:FSem:=⟨[.v Q14],[.v .bool],a8L⟩
def a7c(x:LI):Option Z18:=cond (lim (a01 x)) (some (x,0,0,())) none
def d5h:FSem:=⟨[.v QB],[.b Q19],a7c⟩
def a3l(s:Z31):Option (Z31 ⊕ (Unit ⊕ Z8)):=(fun(a:Int)(b:LI)(c d:Int)=>cond (decide (d<c)) ((a0m b d).bind fun x1=>(show Option (Int×Int×Int×Z36)from cond (d==9) (cond (decide (x1 > 1)) (some (a,d,x1,b,c,d,true,())) (cond (decide (d > 0)) (some (a,d,x1,b,c,d,x1==0,())) (some (a,d,x1,b,c,d,false,())))) (cond (decide (d > 0)) (some (a,d,x1,b,c,d,x1==0,())) (some (a,d,x1,b,c,d,false,())))).bind fun z2=>cond z2.2.2.2.2.2.2.1 (some (.inr (Sum.inr ((0,0,2,()))))) (cond (decide ((wrap .i64 (7*z2.2.1))<0)) none (cond (decide (z2.2.2.1<128)) (some (.inr (Sum.inr ((bits .u64 .or z2.1 (a0t .u64 (wrap .u64 (a09 z2.2.2.1 128)) (wrap .i64 (7*z2.2.1))),wrap .i64 (z2.2.1+1),0,()))))) (some (.inl (bits .u64 .or z2.1 (a0t .u64 (wrap .u64 (a09 z2.2.2.1 128)) (wrap .i64 (7*z2.2.1))),z2.2.2.2.1,z2.2.2.2.2.1,wrap .i64 (z2.2.2.2.2.2.1+1),())))))) (some (.inr (Sum.inl ())))) s.1 s.2.1 s.2.2.1 s.2.2.2.1
def b3U(x:LI):Option (Int×Int×Int):=(a0d a3l (0,x,(x.length:Int),0,())).bind fun w3=>match w3 with |.inl a4=>some (0,0,3) |.inr b5=>some (b5.1,b5.2.1,b5.2.2.1)
def c8U:FSem:=⟨[.v QB],[.v QU,.v QI,.v QI],b3U⟩
def H84:Hints:=⟨[(58,[.sv 5 QU,.sv 8 QB,9,10],[Qe 0 [],Qr [.sv 2 QU,3,4]])],[(7474,[Qn [.sv 5 QU,6,.sv 7 QV,.sv 8 QB,9,10,.sv 28 .bool]])],[]⟩
def a0B(x:Z32):Option Z31:=cond (x.1.2.2.1 != 0) (some (0,x.1)) (cond ((decide (0<=x.1.2.1))&&(decide (x.1.2.1<=(x.1.1.length:Int)))) ((b3U (a08 (a00 x.1.2.1) (a05 (a01 x.1.1) x.1.1))).bind fun y1=>(show Option Z83 from cond (y1.2.2==0) (cond (decide (y1.1 > x.2)) (some (y1.1,y1.2.1,4,x.1,())) (some (y1.1,y1.2.1,y1.2.2,x.1,()))) (some (y1.1,y1.2.1,y1.2.2,x.1,()))).bind fun z2=>cond (z2.2.2.1 != 0) (some (0,z2.2.2.2.1.1,z2.2.2.2.1.2.1,z2.2.2.1,z2.2.2.2.1.2.2.2)) (some (z2.1,z2.2.2.2.1.1,wrap .i64 (z2.2.2.2.1.2.1+z2.2.1),z2.2.2.2.1.2.2))) none)
def c1P:FSem:=⟨[.r false (.b Q19),.v QU],[.v QU],a0B⟩
def H35:Hints:=⟨[],[(15,[Qn [.sv 5 QU,6,7,.box pinned Q19,Qp 0 pinned]])],[(3,[.p,.p,.q,.q,.p,.p,.q,.q,.x,.x,.x,.v,.v,.v,.v,.v,.x])]⟩
def a4K(x:Z18):Option Z31:=some (x.2.2.1,x)
def c1Q:FSem:=⟨[.r false (.b Q19)],[.v QI],a4K⟩
def a2I(x:Z18):Option Z31:=some (wrap .i64 ((x.1.length:Int)-x.2.1),x)
def c1d:FSem:=⟨[.r false (.b Q19)],[.v QI],a2I⟩
def H37:Hints:=⟨[],[],[(1,[.p,.p,.q,.q,.v,.p,.p,.q,.q,.x,.x])]⟩
def a6f(x:Z32):Option (LI×Z18):=cond (x.1.2.2.1 != 0) (some ([],x.1)) ((a2I x.1).bind fun y1=>cond (decide ((a1s x.2 0) > y1.1)) (some ([],y1.2.1,y1.2.2.1,3,y1.2.2.2.2)) (cond ((decide (0<=(wrap .i64 (y1.2.2.1+(a1s x.2 0)))))&&(decide ((wrap .i64 (y1.2.2.1+(a1s x.2 0)))<=(y1.2.1.length:Int)))) (cond ((decide (0<=y1.2.2.1))&&(decide (y1.2.2.1<=((a00 (wrap .i64 (y1.2.2.1+(a1s x.2 0))):Nat):Int)))) (cond (lim (a01 (a08 (a00 y1.2.2.1) (a05 (a00 (wrap .i64 (y1.2.2.1+(a1s x.2 0)))) y1.2.1)))) (some (a08 (a00 y1.2.2.1) (a05 (a00 (wrap .i64 (y1.2.2.1+(a1s x.2 0)))) y1.2.1),y1.2.1,wrap .i64 (y1.2.2.1+(a1s x.2 0)),y1.2.2.2)) none) none) none))
def c1e:FSem:=⟨[.r false (.b Q19),.v QI],[.o QV],a6f⟩
def H85:Hints:=⟨[],[],[(7,[.p,.p,.q,.q,.p,.p,.q,.q,.p,.p,.q,.q,.v,.v,.x,.x,.x])]⟩
def b5j(x:Int):Option Int:=some (a2P (a1s x 0) 8)
def c0H:FSem:=⟨[.v QI],[.v QI],b5j⟩
def a4Y(s:Z94):Option (Z94 ⊕ Z54):=(fun(a:Int)(b:LI)(c:Z18)=>cond (decide (a<s.2.1)) (cond ((decide (0<=a))&&(decide (a<(b.length:Int)))) (some (.inl (wrap .u64 ((wrap .u64 (s.1*256))+(wrap .u64 (a04 b (a00 a) 0))),s.2.1,wrap .i64 (a+1),b,c,()))) none) (some (.inr (s.1,c,())))) s.2.2.1 s.2.2.2.1 s.2.2.2.2.1
def a4L(x:Z32):Option Z31:=(b5j x.2).bind fun y1=>(a6f (x.1,y1)).bind fun y2=>(a0d a4Y (0,(y2.1.length:Int),0,y2.1,y2.2,())).bind fun w3=>some (w3.1,w3.2.1)
def c1R:FSem:=⟨[.r false (.b Q19),.v QI],[.v QU],a4L⟩
def H38:Hints:=⟨[(58,[.sv 5 QU,12,13,.own 11 1011 QV,.box pinned Q19],[Qe 0 [.sv 5 QU,.box pinned Q19]])],[],[]⟩
def a5o(x:Z18):Option Z31:=some (x.2.1,x)
def c3K:FSem:=⟨[.r false (.b Q19)],[.v QI],a5o⟩
def a9m(s:Z45):Option (Z45 ⊕ Z31):=(fun(a:Int)(b:LI)(c d e:Int)=>cond (decide (e<8)) (cond ((bits .u32 .and a 1)==1) (some (.inl (bits .u32 .xor (a0v .u32 a 1) 3988292384,b,c,d,wrap .i64 (e+1),()))) (some (.inl (a0v .u32 a 1,b,c,d,wrap .i64 (e+1),())))) (some (.inr (a,b,c,d,())))) s.1 s.2.1 s.2.2.1 s.2.2.2.1 s.2.2.2.2.1
def a6g(s:Z31):Option Z71:=(fun(a b:Int)=>cond (decide (b<a)) ((a0m s.2.1 b).bind fun x1=>(a0d a9m (bits .u32 .xor s.1 (wrap .u32 x1),s.2.1,a,b,0,())).bind fun w2=>some (.inl (w2.1,w2.2.1,w2.2.2.1,wrap .i64 (w2.2.2.2.1+1),()))) (some (.inr (s.1,())))) s.2.2.1 s.2.2.2.1
def a8j(x:LI):Option Int:=(a0d a6g (4294967295,x,(x.length:Int),0,())).bind fun w3=>some (bits .u32 .xor (IntKind.max .u32) w3.1)
def b6B:FSem:=⟨[.v QB],[.v (.int .u32)],a8j⟩
def H40:Hints:=⟨[(58,[.sv 3 (.int .u32),.sv 7 QB,8,9],[Qe 0 [.sv 3 (.int .u32)]]),(29902,[.sv 3 (.int .u32),.sv 7 QB,8,9,17],[Qe 2 [.sv 3 (.int .u32),.sv 7 QB,8,9]])],[],[]⟩
def a6A(s:(LI×(Int×Int×Z95×Z95×Z37))):Option ((LI×(Int×Int×Z95×Z95×Z37)) ⊕ (LI×(Z95×Z95×Z37))):=(fun(a:Int)(b c:Z95)(d:Z18)=>cond (decide (a<s.2.1)) ((a0B (d,1048704)).bind fun y6=>cond (lim ((a01 c.2.1)+1)) ((a0B (y6.2,4096)).bind fun y7=>cond (lim ((a01 c.2.2.1)+1)) (some (.inl (s.1,s.2.1,wrap .u64 (a+1),b,(c.1,a02 c.2.1 [wrap .i64 y6.1],a02 c.2.2.1 [wrap .i64 y7.1],c.2.2.2),y7.2,()))) none) none) (some (.inr (s.1,b,c,d,())))) s.2.2.1 s.2.2.2.1 s.2.2.2.2.1 s.2.2.2.2.2.1
def a4M(s:(Int×Int×d8a)):Option ((Int×Int×d8a) ⊕ (d8a ⊕ (Int×Z97))):=(fun(a:Int)(b c:Z95)=>cond (decide (a<s.1)) (cond ((decide (0<=a))&&(decide (a<(c.2.2.1.length:Int)))) (cond ((a04 c.2.2.1 (a00 a) 0)==0) (some (.inr (Sum.inr ((2,((0,0,0,()),[],[],0,0,0,()),()))))) (some (.inl (s.1,wrap .i64 (a+1),b,(c.1,c.2.1,c.2.2.1,wrap .i64 (c.2.2.2.1+(a04 c.2.2.1 (a00 a) 0)),c.2.2.2.2),())))) none) (some (.inr (Sum.inl (b,c,()))))) s.2.1 s.2.2.1 s.2.2.2.1
def a6B(x:LI):Option (Z95×Int):=cond (decide ((x.length:Int)<4)) (some (((0,0,0,()),[],[],0,0,0,()),3)) (cond (decide (4<=(x.length:Int))) (cond ((b2s (a05 4 x)) != [75,78,83,68]) (some (((0,0,0,()),[],[],0,0,0,()),2)) (cond (decide (4<=(x.length:Int))) ((a7c (a08 4 (a05 (a01 x) x))).bind fun y1=>(a0B (y1,1048576)).bind fun y2=>(a0B (y2.2,8)).bind fun y3=>(a0B (y3.2,24)).bind fun y4=>(a0B (y4.2,4096)).bind fun y5=>(a0d a6A (x,y5.1,0,((0,0,0,()),[],[],0,0,0,()),((wrap .i64 y2.1,wrap .i64 y3.1,wrap .i64 y4.1,()),[],[],0,0,0,()),y5.2,())).bind fun w8=>(a4K w8.2.2.2.1).bind fun y9=>cond (y9.1 != 0) (some (((0,0,0,()),[],[],0,0,0,()),y9.1)) ((a2I y9.2).bind fun y10=>cond (decide (y10.1<12)) (some (((0,0,0,()),[],[],0,0,0,()),3)) ((a4L (y10.2,8)).bind fun y11=>(a5o y11.2).bind fun y12=>cond ((decide (0<=(wrap .i64 (4+y12.1))))&&(decide ((wrap .i64 (4+y12.1))<=(w8.1.length:Int)))) ((a8j (a05 (a00 (wrap .i64 (4+y12.1))) w8.1)).bind fun y13=>(a4L (y12.2,4)).bind fun y14=>cond ((wrap .u64 y13) != y14.1) (some (((0,0,0,()),[],[],0,0,0,()),5)) ((a8L w8.2.2.1.1).bind fun y15=>cond (!y15) (some (((0,0,0,()),[],[],0,0,0,()),2)) ((a0d a4M ((w8.2.2.1.2.2.1.length:Int),0,w8.2.1,(w8.2.2.1.1,w8.2.2.1.2.1,w8.2.2.1.2.2.1,w8.2.2.1.2.2.2.1,y11.1,wrap .i64 ((wrap .i64 (4+y12.1))+4),w8.2.2.1.2.2.2.2.2.2),())).bind fun w16=>match w16 with |.inl a17=>(cond (decide (a17.2.1.2.2.2.1 > 4194304)) (some (((0,0,0,()),[],[],0,0,0,()),2)) (some (a17.2.1,0))) |.inr b18=>some (b18.2.1,b18.1)))) none))) none)) none)
def c6T:FSem:=⟨[.v QB],[.v Q38,.v QI],a6B⟩
def H15:Hints:=⟨[(4090,[.sv 0 QB,.sv 38 QU,.sv 39 QU,.box 2 Q38,.box 4 Q36,.box 1021 Q19,Qp 2 2,Qp 4 4,Qp 5 1021],[Qe 0 [.sv 0 QB,.box 2 Q38,.box 4 Q36,.box 1021 Q19,Qp 2 2,Qp 4 4,Qp 5 1021]]),(1048570,[93,94,.box 2 Q38,.box 4 Q36,Qp 2 2,Qp 4 4,.ref 92 4 [.snd,.snd,.fst]],[Qe 2 [.box 2 Q38,.box 4 Q36,Qp 2 2,Qp 4 4],Qr [3,.box 2 Q38,Qp 2 2]])],[],[(12,[.r [4,41],.r [4,42],.q,.w [44,1021,1044],.v,.q,.x,.x,.x]),(13,[.r [4,49],.r [4,50],.q,.w [52,1021,1052],.v,.q,.x,.x,.x])]⟩
def b6C(x:Int):Option Int:=(show Option (Int×Bool×Unit)from cond (decide (x<1)) (some (x,true,())) (some (x,decide (x > 31),()))).bind fun z1=>cond z1.2.1 (some 0) (cond (decide ((wrap .i64 (z1.1-1))<0)) none (some (a0t .i64 (-1) (wrap .i64 (z1.1-1)))))
def d3f:FSem:=⟨[.v QI],[.v QI],b6C⟩
def H68:Hints:=⟨[],[(6,[Qn [0,.sv 8 .bool]])],[]⟩
def b5k(x:Int):Option Int:=(show Option (Int×Bool×Unit)from cond (decide (x<1)) (some (x,true,())) (some (x,decide (x > 31),()))).bind fun z1=>cond z1.2.1 (some 0) (cond (decide ((wrap .i64 (z1.1-1))<0)) none (some (wrap .i64 ((a0t .i64 1 (wrap .i64 (z1.1-1)))-1))))
def d1e:FSem:=⟨[.v QI],[.v QI],b5k⟩
def H69:Hints:=⟨[],[(6,[Qn [0,.sv 8 .bool]])],[]⟩
def a5h(x:(Int×Int)):Option Bool:=cond (decide (x.2>=1)) (cond (decide (x.2<=31)) ((b6C x.2).bind fun y1=>cond (decide (y1<=x.1)) ((b5k x.2).bind fun y2=>some (decide (x.1<=y2))) (some false)) (some false)) (some false)
def b1J:FSem:=⟨[.v QI,.v QI],[.v .bool],a5h⟩
def a5E(x:Z15):Option Int:=cond ((x.2.1.length:Int)==0) (some 0) ((a0m x.2.1 0).bind fun x1=>some (x1.length:Int))
def c4s:FSem:=⟨[.v Q18],[.v QI],a5E⟩
def a5K(s:((List LI)×(Int×(Int×(LI×Z68))))):Option (((List LI)×(Int×(Int×(LI×Z68)))) ⊕ (((List LI)×Z68) ⊕ (Bool×Unit))):=(fun(a:Int)(b:LI)(c d:Int)(e:Z15)=>cond (decide (d<c)) ((a0m b d).bind fun x8=>(a5h (x8,e.1)).bind fun y9=>cond (!y9) (some (.inr (Sum.inr ((false,()))))) (some (.inl (s.1,s.2.1,a,b,c,wrap .i64 (d+1),e,())))) (some (.inr (Sum.inl (s.1,s.2.1,a,e,()))))) s.2.2.1 s.2.2.2.1 s.2.2.2.2.1 s.2.2.2.2.2.1 s.2.2.2.2.2.2.1
def a5L(s:((List LI)×Z68)):Option (((List LI)×Z68) ⊕ Z0):=cond (decide (s.2.2.1<s.2.1)) ((a0m s.1 s.2.2.1).bind fun x6=>(a5E s.2.2.2.1).bind fun y7=>cond ((x6.length:Int) != y7) (some (.inr (Sum.inr ((false,()))))) ((a0d a5K (s.1,s.2.1,s.2.2.1,x6,(x6.length:Int),0,s.2.2.2.1,())).bind fun w10=>match w10 with |.inl a11=>some (.inl (a11.1,a11.2.1,wrap .i64 (a11.2.2.1+1),a11.2.2.2.1,())) |.inr b12=>some (.inr (Sum.inr ((b12.1,())))))) (some (.inr (Sum.inl ())))
def a7d(x:Z15):Option Bool:=(show Option Z55 from(a8K x.1).bind fun y1=>cond (!y1) (some (true,x,())) (cond (decide ((x.2.1.length:Int)<1)) (some (true,x,())) (some (decide ((x.2.1.length:Int) > 8),x,())))).bind fun z2=>cond z2.1 (some false) ((show Option Z55 from(a5E z2.2.1).bind fun y3=>cond (decide (y3<1)) (some (true,z2.2.1,())) ((a5E z2.2.1).bind fun y4=>some (decide (y4 > 4096),z2.2.1,()))).bind fun z5=>cond z5.1 (some false) ((a0d a5L (z5.2.1.2.1,(z5.2.1.2.1.length:Int),0,z5.2.1,())).bind fun w13=>match w13 with |.inl a14=>some true |.inr b15=>some b15.1))
def b8r:FSem:=⟨[.v Q18],[.v .bool],a7d⟩
def H57:Hints:=⟨[(122,[.sv 32 (.list false QL),33,34,.vp 1 Q18],[Qe 0 [],Qr [.sv 2 .bool]]),(62670,[.sv 32 (.list false QL),33,34,.sv 43 QL,44,45,.vp 1 Q18],[Qe 2 [.sv 32 (.list false QL),33,34,.vp 1 Q18],Qr [.sv 2 .bool]])],[(6,[Qn [.sv 22 .bool,.vp 1 Q18]]),(14,[Qn [.sv 30 .bool,.vp 1 Q18]])],[]⟩
def a8N(s:(Int×Z72)):Option ((Int×Z72) ⊕ Z0):=(fun(a:Int)(b:Z19)(c d:Int)=>cond (decide (d<c)) ((a0m b d).bind fun x2=>(show Option (Int×Z19×Int×Int×Bool×Z26)from cond (decide (x2.1<0)) (some (a,b,c,d,true,x2,())) (cond (decide (x2.1>=a)) (some (a,b,c,d,true,x2,())) (cond (decide (x2.2.1<0)) (some (a,b,c,d,true,x2,())) (cond (decide (x2.2.1>=a)) (some (a,b,c,d,true,x2,())) (some (a,b,c,d,x2.1==x2.2.1,x2,())))))).bind fun z3=>cond z3.2.2.2.2.1 (some (.inr (Sum.inr ((false,()))))) ((show Option (Int×Z19×Z11)from cond (decide (z3.2.2.2.2.2.1.2.2.1<(-1024))) (some (z3.1,z3.2.1,z3.2.2.1,z3.2.2.2.1,true,())) (some (z3.1,z3.2.1,z3.2.2.1,z3.2.2.2.1,decide (z3.2.2.2.2.2.1.2.2.1 > 1024),()))).bind fun z4=>cond z4.2.2.2.2.1 (some (.inr (Sum.inr ((false,()))))) (some (.inl (z4.1,z4.2.1,z4.2.2.1,wrap .i64 (z4.2.2.2.1+1),()))))) (some (.inr (Sum.inl ())))) s.1 s.2.1 s.2.2.1 s.2.2.2.1
def b2S(x:(Z19×Int)):Option Bool:=(show Option (Z19×Int×Bool×Unit)from cond (decide (x.2<1)) (some (x.1,x.2,true,())) (cond (decide (x.2 > 8)) (some (x.1,x.2,true,())) (some (x.1,x.2,decide ((x.1.length:Int) > 16),())))).bind fun z1=>cond z1.2.2.1 (some false) ((a0d a8N (z1.2.1,z1.1,(z1.1.length:Int),0,())).bind fun w5=>match w5 with |.inl a6=>some true |.inr b7=>some b7.1)
def c0a:FSem:=⟨[.v (.list false Q14),.v QI],[.v .bool],b2S⟩
def f2a:Hints:=⟨[(58,[1,.sv 18 (.list false Q14),19,20],[Qe 0 [],Qr [.sv 4 .bool]])],[(6,[Qn [.sv 0 (.list false Q14),1,.sv 17 .bool]]),(7474,[Qn [1,.sv 18 (.list false Q14),19,20,.sv 50 .bool,.box 6 Q14,Qp 6 6]]),(7475,[Qn [1,.sv 18 (.list false Q14),19,20,.sv 58 .bool]])],[]⟩
def a8O(x:a2Q):Option Bool:=(a8L x.2.2.1).bind fun y1=>cond y1 (cond (decide (x.2.1>=1)) (cond (decide (x.2.1<=4096)) (cond (decide (x.1>=0)) (cond (decide (x.1<=(wrap .i64 (4194304-x.2.1)))) ((b2S (x.2.2.2.1,x.2.2.1.2.1)).bind fun y2=>some y2) (some false)) (some false)) (some false)) (some false)) (some false)
def d1f:FSem:=⟨[.v Q90],[.v .bool],a8O⟩
def a4B(s:Z18):Option Z75:=(fun(a b:Int)=>cond (decide (b<a)) ((a0m s.1 b).bind fun x1=>(show Option Z36 from cond (decide (x1<(-1073741824))) (some (s.1,a,b,true,())) (some (s.1,a,b,decide (x1>=1073741824),()))).bind fun z2=>cond z2.2.2.2.1 (some (.inr (Sum.inr ((false,()))))) (some (.inl (z2.1,z2.2.1,wrap .i64 (z2.2.2.1+1),())))) (some (.inr (Sum.inl ())))) s.2.1 s.2.2.1
def a6q(x:LI):Option Bool:=(a0d a4B (x,(x.length:Int),0,())).bind fun w3=>match w3 with |.inl a4=>some true |.inr b5=>some b5.1
def b5l:FSem:=⟨[.v QL],[.v .bool],a6q⟩
def f2b:Hints:=⟨[(26,[.sv 5 QL,6,7],[Qe 0 [],Qr [.sv 2 .bool]])],[(1689,[Qn [.sv 5 QL,6,7,.sv 16 .bool]])],[]⟩
def b0f(x:Int):Option Bool:=cond (x != 0) (some (x != 1)) (some false)
def c1S:FSem:=⟨[.v QI],[.v .bool],b0f⟩
def a6C(s:Z18):Option Z75:=(fun(a b:Int)=>cond (decide (b<a)) ((a0m s.1 b).bind fun x2=>(show Option Z36 from cond (decide (x2<(-32768))) (some (s.1,a,b,true,())) (some (s.1,a,b,decide (x2>=32768),()))).bind fun z3=>cond z3.2.2.2.1 (some (.inr (Sum.inr ((false,()))))) (some (.inl (z3.1,z3.2.1,wrap .i64 (z3.2.2.1+1),())))) (some (.inr (Sum.inl ())))) s.2.1 s.2.2.1
def a7H(x:(LI×Int)):Option Bool:=(show Option (LI×(Bool×Unit))from cond (decide ((x.1.length:Int)<1)) (some (x.1,true,())) (cond (decide ((x.1.length:Int) > 32)) (some (x.1,true,())) (cond (decide (x.2<0)) (some (x.1,true,())) (some (x.1,decide (x.2 > 15),()))))).bind fun z1=>cond z1.2.1 (some false) ((a0d a6C (z1.1,(z1.1.length:Int),0,())).bind fun w4=>match w4 with |.inl a5=>some true |.inr b6=>some b6.1)
def c1T:FSem:=⟨[.v QL,.v QI],[.v .bool],a7H⟩
def f2c:Hints:=⟨[(58,[.sv 23 QL,24,25],[Qe 0 [],Qr [.sv 4 .bool]])],[(6,[Qn [.sv 0 QL,.sv 22 .bool]]),(3737,[Qn [.sv 23 QL,24,25,.sv 34 .bool]])],[]⟩
def a8P(s:Z7):Option (Z7 ⊕ Z0):=cond (decide (s.2.1<3)) ((a0m s.1 s.2.1).bind fun x2=>(show Option Z22 from cond (decide (x2<(-64))) (some (s.1,s.2.1,true,())) (some (s.1,s.2.1,decide (x2 > 64),()))).bind fun z3=>cond z3.2.2.1 (some (.inr (Sum.inr ((false,()))))) (some (.inl (z3.1,wrap .i64 (z3.2.1+1),())))) (some (.inr (Sum.inl ())))
def b2T(x:(Int×LI)):Option Bool:=(show Option Z9 from cond (decide (x.1<2)) (some (true,x.2,())) (some (decide (x.1 > 1024),x.2,()))).bind fun z1=>cond z1.1 (some false) ((a0d a8P (z1.2.1,0,())).bind fun w4=>match w4 with |.inl a5=>some true |.inr b6=>some b6.1)
def c6U:FSem:=⟨[.v QI,.v (.arr 3 QI)],[.v .bool],b2T⟩
def f2d:Hints:=⟨[(58,[.sv 13 (.arr 3 QI),14],[Qe 0 [],Qr [.sv 4 .bool]])],[(6,[Qn [.sv 12 .bool,.vp 3 (.arr 3 QI)]]),(3737,[Qn [.sv 13 (.arr 3 QI),14,.sv 22 .bool]])],[]⟩
def a8Q(x:(Int×Int×Unit)):Option Bool:=cond (decide (x.1>=1)) (cond (decide (x.1<=32)) (cond (decide (x.2.1>=0)) (some (decide (x.2.1<=8))) (some false)) (some false)) (some false)
def d1g:FSem:=⟨[.v Q5],[.v .bool],a8Q⟩
def a7I(s:(Z5×Int×Int×Unit)):Option ((Z5×Int×Int×Unit) ⊕ Z0):=cond (decide (s.2.2.1<s.2.1)) ((a0m s.1 s.2.2.1).bind fun x1=>(a8Q x1).bind fun y2=>cond (!y2) (some (.inr (Sum.inr ((false,()))))) (some (.inl (s.1,s.2.1,wrap .i64 (s.2.2.1+1),())))) (some (.inr (Sum.inl ())))
def b1m(x:Z5):Option Bool:=cond (decide ((x.length:Int) > 3)) (some false) ((a0d a7I (x,(x.length:Int),0,())).bind fun w3=>match w3 with |.inl a4=>some true |.inr b5=>some b5.1)
def b8s:FSem:=⟨[.v (.list false Q5)],[.v .bool],b1m⟩
def f2e:Hints:=⟨[(58,[.sv 8 (.list false Q5),9,10],[Qe 0 [],Qr [.sv 2 .bool]])],[],[]⟩
def b4V(x:(Int×b2Q)):Option Bool:=(show Option d8b from cond (x.1==0) (some (x.2.2,x.1,x.1==0,x.2.1,())) (some (x.2.2,x.1,x.1==1,x.2.1,()))).bind fun z1=>cond z1.2.2.1 (some true) (cond (z1.2.1==2) (cond (decide (z1.2.2.2.1.2.2.1>=0)) (cond (decide (z1.2.2.2.1.2.2.1<=4)) (some (decide (z1.2.2.2.1.2.2.1<=z1.1))) (some false)) (some false)) (cond (z1.2.1==3) ((a7H (z1.2.2.2.1.2.2.2.2.2.1,z1.2.2.2.1.2.2.2.1)).bind fun y2=>cond y2 (some (decide ((z1.2.2.2.1.2.2.2.2.2.1.length:Int)<=z1.1))) (some false)) (cond (z1.2.1==4) ((a7H (z1.2.2.2.1.2.2.2.2.2.1,z1.2.2.2.1.2.2.2.1)).bind fun y3=>cond y3 (cond (decide ((z1.2.2.2.1.2.2.2.2.2.1.length:Int)<=z1.1)) ((b2T (z1.2.2.2.1.2.2.2.2.1,z1.2.2.2.1.2.2.2.2.2.2.1)).bind fun y4=>some y4) (some false)) (some false)) (cond (z1.2.1==5) (cond (decide ((z1.2.2.2.1.2.2.2.2.2.2.2.1.length:Int) > 0)) ((b1m z1.2.2.2.1.2.2.2.2.2.2.2.1).bind fun y5=>some y5) (some false)) (some false)))))
def d0m:FSem:=⟨[.v QI,.v Q68,.v QI],[.v .bool],b4V⟩
def f2f:Hints:=⟨[],[(26,[Qn [2,7,.sv 8 .bool,.vp 4 Q68]])],[]⟩
def b0g(x:b2Q):Option Int:=cond (x.1.1==0) (some 1) (cond (x.1.1==1) (some x.2) (cond (x.1.1==2) (some x.1.2.2.1) ((show Option d7Z from cond (x.1.1==3) (some (x.1.1==3,x.1,())) (some (x.1.1==4,x.1,()))).bind fun z1=>cond z1.1 (some (z1.2.1.2.2.2.2.2.1.length:Int)) (some 0))))
def c1U:FSem:=⟨[.v Q68,.v QI],[.v QI],b0g⟩
def f2g:Hints:=⟨[],[(1727,[Qn [.sv 16 .bool,.vp 2 Q68]])],[]⟩
def a2L(x:LI):Option LI:=b6w x
def a1v:FSem:=⟨[.v QL],[.o QI],a2L⟩
def e6Y:Cx:=a1d [] [] 5 0
theorem f2h(x):a1c e6Y QH Tryz.f59 a1v.ps a1v.rs x=a1v.F x:=Eq.trans (show _=c1O x by kernel_rfl) (b9X x)
def a3x(x:LI):Option LI:=b6w x
def a3y:FSem:=⟨[.v QL],[.v QL],a3x⟩
def e4g:Cx:=a1d [] [] 5 0
theorem e8V(x):a1c e4g QH Tryz.f59 a3y.ps a3y.rs x=a3y.F x:=Eq.trans (show _=c1O x by kernel_rfl) (b9X x)
def a1P(x:Z5):Option Z5:=b6w x
def a1Q:FSem:=⟨[.v (.list false Q5)],[.v (.list false Q5)],a1P⟩
def e0H:Cx:=a1d [] [] 5 0
theorem e6Z(x):a1c e0H QH Tryz.f246 a1Q.ps a1Q.rs x=a1Q.F x:=Eq.trans (show _=c1O x by kernel_rfl) (b9X x)
def b6D(x:(Int×a2H)):Option a2H:=(show Option c8T from(show Option ((a2H×c8T) ⊕ (c8T ⊕ (a2H×c8T)))from cond (x.1==2) (some (Sum.inr (Sum.inl ((0,0,0,0,0,[],a03 3 0,[],[],(0,[],()),[],()),(x.1,0,x.2.2.2.1,0,0,[],a03 3 0,[],[],(0,[],()),[],()),())))) (cond (x.1==4) (some (Sum.inl ((0,0,0,0,0,[],a03 3 0,[],[],(0,[],()),[],()),(x.1,0,0,0,x.2.2.2.2.2.1,[],x.2.2.2.2.2.2.2.1,[],[],(0,[],()),[],()),x.2,()))) (cond (x.1==3) (some (Sum.inl ((0,0,0,0,0,[],a03 3 0,[],[],(0,[],()),[],()),(x.1,0,0,0,0,[],a03 3 0,[],[],(0,[],()),[],()),x.2,()))) (cond (x.1==5) (some (Sum.inr (Sum.inr (((0,0,0,0,0,[],a03 3 0,[],[],(0,[],()),[],()),(x.1,0,0,0,0,[],a03 3 0,[],[],(0,[],()),[],()),x.2,()))))) (some (Sum.inr (Sum.inl ((0,0,0,0,0,[],a03 3 0,[],[],(0,[],()),[],()),(x.1,0,0,0,0,[],a03 3 0,[],[],(0,[],()),[],()),())))))))).bind fun z1=>match z1 with |.inl a2=>((a3x a2.2.2.1.2.2.2.2.2.1).bind fun y4=>some (a2.1,(a2.2.1.1,a2.2.1.2.1,a2.2.1.2.2.1,a2.2.2.1.2.2.2.1,a2.2.1.2.2.2.2.1,y4,a2.2.1.2.2.2.2.2.2),())) |.inr b3=>(match b3 with |.inl a5=>some (a5.1,a5.2.1,()) |.inr b6=>((a1P b6.2.2.1.2.2.2.2.2.2.2.1).bind fun y7=>some (b6.1,(b6.2.1.1,b6.2.1.2.1,b6.2.1.2.2.1,b6.2.1.2.2.2.1,b6.2.1.2.2.2.2.1,b6.2.1.2.2.2.2.2.1,b6.2.1.2.2.2.2.2.2.1,y7,b6.2.1.2.2.2.2.2.2.2.2),())))).bind fun z8=>some z8.2.1
def c1V:FSem:=⟨[.v QI,.v Q68],[.v Q68],b6D⟩
def f2i:Hints:=⟨[],[(7,[Qn [.box 4 Q68,.box 5 Q68,Qp 4 4,Qp 5 5]]),(232,[Qn [.box 4 Q68,.box 5 Q68,.vp 3 Q68,Qp 4 4,Qp 5 5],Qe 0 [.box 4 Q68,.box 5 Q68,Qp 4 4,Qp 5 5],Qe 4 [.box 4 Q68,.box 5 Q68,.vp 3 Q68,Qp 4 4,Qp 5 5]])],[(8,[.v,.v,.v,.v,.q,.w [0,5],.x,.x]),(9,[.v,.v,.v,.v,.v,.q,.w [0,5],.x,.x])]⟩
def b4p(x:a2H):Option Bool:=(b6D (x.1,x)).bind fun y1=>cond (x.2.2.1==y1.2.2.1) (cond (x.2.2.2.1==y1.2.2.2.1) (cond (x.2.2.2.2.1==y1.2.2.2.2.1) (cond (eqT (.arr 3 (.int .i64)) x.2.2.2.2.2.2.1 y1.2.2.2.2.2.2.1) (cond ((x.2.2.2.2.2.1.length:Int)==(y1.2.2.2.2.2.1.length:Int)) (some ((x.2.2.2.2.2.2.2.1.length:Int)==(y1.2.2.2.2.2.2.2.1.length:Int))) (some false)) (some false)) (some false)) (some false)) (some false)
def d5i:FSem:=⟨[.v Q68],[.v .bool],b4p⟩
def b1n(x:(Int×Int)):Option Bool:=cond (decide (1<=x.1)) (cond (decide (x.1<=4096)) (cond (decide (0<=x.2)) (some (decide (x.2<=x.1))) (some false)) (some false)) (some false)
def c4t:FSem:=⟨[.v QI,.v QI],[.v .bool],b1n⟩
def a8k(s:Z20):Option (Z20 ⊕ (LI×Unit)):=(fun(a:LI)=>cond (decide (s.1<0)) none (cond (decide ((a.length:Int)<(a0t .i64 1 s.1))) (cond (lim ((a01 a)+1)) (some (.inl (s.1,s.2.1,a02 a [s.2.1],()))) none) (some (.inr (a,()))))) s.2.2.1
def a8R(x:(Int×Int×Int)):Option LI:=(show Option Z27 from(b1n (x.2.1,x.2.2)).bind fun y1=>cond (!y1) (some (x.1,x.2.1,x.2.2,true,())) (cond (decide (x.1<0)) (some (x.1,x.2.1,x.2.2,true,())) (some (x.1,x.2.1,x.2.2,decide (x.1 > 8),())))).bind fun z2=>cond z2.2.2.2.1 (some []) (cond (decide (z2.1<0)) none ((show Option Z27 from cond (decide (z2.1<0)) none (cond ((a0t .i64 (a0v .i64 z2.2.1 z2.1) z2.1) != z2.2.1) (some (z2.1,z2.2.2.1,a0v .i64 z2.2.1 z2.1,true,())) (some (z2.1,z2.2.2.1,a0v .i64 z2.2.1 z2.1,decide ((a0v .i64 z2.2.1 z2.1)<z2.2.2.1),())))).bind fun z3=>cond z3.2.2.2.1 (some []) ((a0d a8k (z3.1,z3.2.2.1,[wrap .i64 (z3.2.2.1-z3.2.1)],())).bind fun w4=>some w4.1)))
def b1K:FSem:=⟨[.v QI,.v QI,.v QI],[.o QI],a8R⟩
def f2j:Hints:=⟨[(252,[0,7,.own 8 8 QI],[Qe 0 [.own 8 8 QI]])],[(6,[Qn [0,1,2,.sv 20 .bool]]),(30,[Qn [0,2,7,.sv 33 .bool]])],[]⟩
def a5M(s:Z18):Option Z75:=(fun(a:LI)(b c:Int)=>cond (decide (c<b)) ((a0m a c).bind fun x3=>(show Option Z36 from cond (decide (x3<0)) (some (a,b,c,x3 != 31,())) (cond (decide (x3 > 25)) (some (a,b,c,x3 != 31,())) (some (a,b,c,false,())))).bind fun z4=>cond z4.2.2.2.1 (some (.inr (Sum.inr ((false,()))))) (some (.inl (z4.1,z4.2.1,wrap .i64 (z4.2.2.1+1),())))) (some (.inr (Sum.inl ())))) s.1 s.2.1 s.2.2.1
def b4q(x:(Z6×Int×Int)):Option Bool:=(a8R (x.1.1,x.2.1,x.2.2)).bind fun y1=>(show Option Z41 from cond ((y1.length:Int)==0) (some (true,x.1,())) (some ((x.1.2.1.length:Int) != (y1.length:Int),x.1,()))).bind fun z2=>cond z2.1 (some false) ((a0d a5M (z2.2.1.2.1,(z2.2.1.2.1.length:Int),0,())).bind fun w5=>match w5 with |.inl a6=>some true |.inr b7=>some b7.1)
def c4u:FSem:=⟨[.v Q13,.v QI,.v QI],[.v .bool],b4q⟩
def f2k:Hints:=⟨[(122,[.sv 27 QL,28,29],[Qe 0 [],Qr [.sv 6 .bool]])],[(14,[Qn [.sv 25 .bool,.vp 3 Q13]]),(7833,[Qn [.sv 27 QL,28,29,.sv 42 .bool]])],[]⟩
def b2U(x:b2Q):Option Bool:=(show Option d3c from cond (decide (x.2<1)) (some (x.2,true,x.1,())) (cond (decide (x.2 > 4096)) (some (x.2,true,x.1,())) ((b4V (x.1.1,x.1,x.2)).bind fun y1=>cond (!y1) (some (x.2,true,x.1,())) ((b4p x.1).bind fun y2=>some (x.2,!y2,x.1,()))))).bind fun z3=>cond z3.2.1 (some false) ((show Option d3c from cond (decide (z3.2.2.1.2.1<0)) (some (z3.1,true,z3.2.2.1,())) (cond (decide (z3.2.2.1.2.1 > 30)) (some (z3.1,true,z3.2.2.1,())) (cond (z3.2.2.1.1==0) (some (z3.1,z3.2.2.1.2.1 != 0,z3.2.2.1,())) (some (z3.1,false,z3.2.2.1,()))))).bind fun z4=>cond z4.2.1 (some false) ((b0g (z4.2.2.1,z4.1)).bind fun y5=>(show Option d8b from cond ((z4.2.2.1.2.2.2.2.2.2.2.2.1.length:Int) != y5) (some (z4.1,y5,true,z4.2.2.1,())) ((a6q z4.2.2.1.2.2.2.2.2.2.2.2.1).bind fun y6=>cond (!y6) (some (z4.1,y5,true,z4.2.2.1,())) ((a6q z4.2.2.1.2.2.2.2.2.2.2.2.2.2.1).bind fun y7=>some (z4.1,y5,!y7,z4.2.2.1,())))).bind fun z8=>cond z8.2.2.1 (some false) ((b0f z8.2.2.2.1.1).bind fun y9=>cond (!y9) (cond ((z8.2.2.2.1.2.2.2.2.2.2.2.2.2.2.1.length:Int)==0) (cond (z8.2.2.2.1.2.2.2.2.2.2.2.2.2.1.1==0) (some ((z8.2.2.2.1.2.2.2.2.2.2.2.2.2.1.2.1.length:Int)==0)) (some false)) (some false)) (cond ((z8.2.2.2.1.2.2.2.2.2.2.2.2.2.2.1.length:Int)==(wrap .i64 (z8.1-z8.2.1))) ((b4q (z8.2.2.2.1.2.2.2.2.2.2.2.2.2.1,z8.1,z8.2.1)).bind fun y10=>some y10) (some false)))))
def d3g:FSem:=⟨[.v Q68,.v QI],[.v .bool],b2U⟩
def f2l:Hints:=⟨[],[(6,[Qn [1,.sv 24 .bool,.vp 2 Q68]]),(14,[Qn [1,.sv 42 .bool,.vp 2 Q68]]),(62,[Qn [1,5,.sv 62 .bool,.vp 2 Q68]])],[]⟩
def b7C(s:Z18):Option Z75:=(fun(a b:Int)=>cond (decide (b<a)) ((a0m s.1 b).bind fun x1=>(show Option Z36 from cond (decide (x1<(-1073741824))) (some (s.1,a,b,true,())) (some (s.1,a,b,decide (x1>=1073741824),()))).bind fun z2=>cond z2.2.2.2.1 (some (.inr (Sum.inr ((false,()))))) (some (.inl (z2.1,z2.2.1,wrap .i64 (z2.2.2.1+1),())))) (some (.inr (Sum.inl ())))) s.2.1 s.2.2.1
def a5T(x:LI):Option Bool:=(a0d b7C (x,(x.length:Int),0,())).bind fun w3=>match w3 with |.inl a4=>some true |.inr b5=>some b5.1
def c1W:FSem:=⟨[.v QL],[.v .bool],a5T⟩
def f2m:Hints:=⟨[(26,[.sv 5 QL,6,7],[Qe 0 [],Qr [.sv 2 .bool]])],[(1689,[Qn [.sv 5 QL,6,7,.sv 16 .bool]])],[]⟩
def a1C(x:(Int×LI)):Option (Int×LI):=(a0m x.2 (wrap .i64 ((x.2.length:Int)-x.1))).bind fun x1=>some (x1,x.2)
def c6V:FSem:=⟨[.v QI,.r false (.b QL)],[.v QI],a1C⟩
def b1L(x:(LI×Int)):Option Int:=cond (x.2==1) ((a1C (1,x.1)).bind fun y1=>some y1.1) (cond (x.2==2) ((a1C (1,x.1)).bind fun y2=>(a1C (2,y2.2)).bind fun y3=>some (wrap .i64 ((wrap .i64 (2*y2.1))-y3.1))) (cond (x.2==3) ((a1C (1,x.1)).bind fun y4=>(a1C (2,y4.2)).bind fun y5=>(a1C (3,y5.2)).bind fun y6=>some (wrap .i64 ((wrap .i64 ((wrap .i64 (3*y4.1))-(wrap .i64 (3*y5.1))))+y6.1))) (cond (x.2==4) ((a1C (1,x.1)).bind fun y7=>(a1C (2,y7.2)).bind fun y8=>(a1C (3,y8.2)).bind fun y9=>(a1C (4,y9.2)).bind fun y10=>some (wrap .i64 ((wrap .i64 ((wrap .i64 ((wrap .i64 (4*y7.1))-(wrap .i64 (6*y8.1))))+(wrap .i64 (4*y9.1))))-y10.1))) (some 0))))
def d1h:FSem:=⟨[.v QL,.v QI],[.v QI],b1L⟩
def a9s(s:Z62):Option (Z62 ⊕ Z48):=(fun(a b:Int)(c:LI)=>cond (decide (b<a)) ((a0m s.2.1 b).bind fun x5=>(b1L (c,s.1)).bind fun y6=>(a5T [wrap .i64 (x5+y6)]).bind fun y7=>cond (!y7) (some (.inr (Sum.inr ((6,[],()))))) (cond (lim ((a01 c)+1)) (some (.inl (s.1,s.2.1,a,wrap .i64 (b+1),a02 c [wrap .i64 (x5+y6)],()))) none)) (some (.inr (Sum.inl (c,()))))) s.2.2.1 s.2.2.2.1 s.2.2.2.2.1
def b2V(x:Z13):Option (LI×Int):=(show Option Z49 from cond (decide (x.2.2<0)) (some (x.1,x.2.1,x.2.2,true,())) (cond (decide (x.2.2 > 4)) (some (x.1,x.2.1,x.2.2,true,())) (some (x.1,x.2.1,x.2.2,(x.1.length:Int) != x.2.2,())))).bind fun z1=>cond z1.2.2.2.1 (some ([],1)) ((show Option Z49 from(a5T z1.1).bind fun y2=>cond (!y2) (some (z1.1,z1.2.1,z1.2.2.1,true,())) ((a5T z1.2.1).bind fun y3=>some (z1.1,z1.2.1,z1.2.2.1,!y3,()))).bind fun z4=>cond z4.2.2.2.1 (some ([],6)) (cond (lim (a01 z4.1)) ((a0d a9s (z4.2.2.1,z4.2.1,(z4.2.1.length:Int),0,z4.1,())).bind fun w8=>match w8 with |.inl a9=>some (a9.1,0) |.inr b10=>some (b10.2.1,b10.1)) none))
def d3h:FSem:=⟨[.v QL,.v QL,.v QI],[.o QI,.v QI],b2V⟩
def f2n:Hints:=⟨[(250,[2,.sv 34 QL,35,36,.own 8 8 QI],[Qe 0 [.own 8 8 QI],Qr [7,.own 6 6 QI]])],[(6,[Qn [.sv 0 QL,.sv 1 QL,2,.sv 23 .bool]]),(14,[Qn [.sv 0 QL,.sv 1 QL,2,.sv 31 .bool]])],[]⟩
def a8S(x:Int):Option Bool:=cond (decide (x>=(-1073741824))) (some (decide (x<1073741824))) (some false)
def c0I:FSem:=⟨[.v QI],[.v .bool],a8S⟩
def a4s(s:Z18):Option Z75:=cond (decide (s.2.2.1<s.2.1)) ((a0m s.1 s.2.2.1).bind fun x1=>(a8S x1).bind fun y2=>cond (!y2) (some (.inr (Sum.inr ((false,()))))) (some (.inl (s.1,s.2.1,wrap .i64 (s.2.2.1+1),())))) (some (.inr (Sum.inl ())))
def a5U(x:LI):Option Bool:=(a0d a4s (x,(x.length:Int),0,())).bind fun w3=>match w3 with |.inl a4=>some true |.inr b5=>some b5.1
def b2n:FSem:=⟨[.v QL],[.v .bool],a5U⟩
def f2o:Hints:=⟨[(26,[.sv 5 QL,6,7],[Qe 0 [],Qr [.sv 2 .bool]])],[],[]⟩
def a4t(s:(LI×Z50)):Option ((LI×Z50) ⊕ (Int×Int×Unit)):=(fun(a:LI)(b c:Int)(d:LI)(e f:Int)=>cond (decide (f<e)) ((a0m d f).bind fun x1=>cond (decide ((wrap .i64 ((wrap .i64 ((a.length:Int)-1))-f))<0)) (some (.inr (b,c,()))) ((a0m a (wrap .i64 ((wrap .i64 ((a.length:Int)-1))-f))).bind fun x2=>some (.inl (a,b,wrap .i64 (c+(wrap .i64 (x1*x2))),d,e,wrap .i64 (f+1),())))) (some (.inr (b,c,())))) s.1 s.2.1 s.2.2.1 s.2.2.2.1 s.2.2.2.2.1 s.2.2.2.2.2.1
def a8l(x:Z13):Option Int:=(a0d a4t (x.1,x.2.2,0,x.2.1,(x.2.1.length:Int),0,())).bind fun w3=>cond (decide (w3.1<0)) none (some (a0v .i64 w3.2.1 w3.1))
def b6E:FSem:=⟨[.v QL,.v QL,.v QI],[.v QI],a8l⟩
def f2p:Hints:=⟨[(58,[.sv 0 QL,2,7,.sv 11 QL,12,13],[Qe 0 [2,7]])],[],[]⟩
def a8m(s:(LI×Z62)):Option ((LI×Z62) ⊕ Z48):=(fun(a:LI)(b c:Int)(d:LI)=>cond (decide (c<b)) ((a0m a c).bind fun x6=>(a8l (d,s.1,s.2.1)).bind fun y7=>(a8S (wrap .i64 (y7+x6))).bind fun y8=>cond (!y8) (some (.inr (Sum.inr ((6,[],()))))) (cond (lim ((a01 d)+1)) (some (.inl (s.1,s.2.1,a,b,wrap .i64 (c+1),a02 d [wrap .i64 (y7+x6)],()))) none)) (some (.inr (Sum.inl (d,()))))) s.2.2.1 s.2.2.2.1 s.2.2.2.2.1 s.2.2.2.2.2.1
def a8T(x:(LI×Z13)):Option (LI×Int):=(show Option Z78 from(a7H (x.2.2.1,x.2.2.2)).bind fun y1=>cond (!y1) (some (x.1,x.2.1,x.2.2.1,x.2.2.2,true,())) (some (x.1,x.2.1,x.2.2.1,x.2.2.2,(x.1.length:Int) != (x.2.2.1.length:Int),()))).bind fun z2=>cond z2.2.2.2.2.1 (some ([],1)) ((show Option Z78 from(a5U z2.1).bind fun y3=>cond (!y3) (some (z2.1,z2.2.1,z2.2.2.1,z2.2.2.2.1,true,())) ((a5U z2.2.1).bind fun y4=>some (z2.1,z2.2.1,z2.2.2.1,z2.2.2.2.1,!y4,()))).bind fun z5=>cond z5.2.2.2.2.1 (some ([],6)) (cond ((decide (0<=(wrap .i64 ((z5.1.length:Int)+(z5.2.1.length:Int)))))&&(lim (a00 (wrap .i64 ((z5.1.length:Int)+(z5.2.1.length:Int)))))) (cond (lim (0+(a01 z5.1))) ((a0d a8m (z5.2.2.1,z5.2.2.2.1,z5.2.1,(z5.2.1.length:Int),0,a02 [] z5.1,())).bind fun w9=>match w9 with |.inl a10=>some (a10.1,0) |.inr b11=>some (b11.2.1,b11.1)) none) none))
def d1i:FSem:=⟨[.v QL,.v QL,.v QL,.v QI],[.o QI,.v QI],a8T⟩
def f2q:Hints:=⟨[(506,[.sv 2 QL,3,.sv 42 QL,43,44,.own 10 10 QI],[Qe 0 [.own 10 10 QI],Qr [9,.own 8 8 QI]])],[(6,[Qn [.sv 0 QL,.sv 1 QL,.sv 2 QL,3,.sv 24 .bool]]),(14,[Qn [.sv 0 QL,.sv 1 QL,.sv 2 QL,3,.sv 32 .bool]])],[]⟩
def b1o(x:Int):Option Bool:=cond (decide (x>=(-1073741824))) (some (decide (x<1073741824))) (some false)
def c4v:FSem:=⟨[.v QI],[.v .bool],b1o⟩
def a5p(s:Z18):Option Z75:=cond (decide (s.2.2.1<s.2.1)) ((a0m s.1 s.2.2.1).bind fun x1=>(b1o x1).bind fun y2=>cond (!y2) (some (.inr (Sum.inr ((false,()))))) (some (.inl (s.1,s.2.1,wrap .i64 (s.2.2.1+1),())))) (some (.inr (Sum.inl ())))
def b0B(x:LI):Option Bool:=(a0d a5p (x,(x.length:Int),0,())).bind fun w3=>match w3 with |.inl a4=>some true |.inr b5=>some b5.1
def b3V:FSem:=⟨[.v QL],[.v .bool],b0B⟩
def f2r:Hints:=⟨[(26,[.sv 5 QL,6,7],[Qe 0 [],Qr [.sv 2 .bool]])],[],[]⟩
def a5q(s:(LI×(Int×Int×Z21))):Option ((LI×(Int×Int×Z21)) ⊕ (Int×Unit)):=(fun(a b c:Int)(d:LI)(e:Int)=>cond (decide (e<3)) ((a0m d e).bind fun x1=>cond (decide ((wrap .i64 ((wrap .i64 ((wrap .i64 (a-b))-1))+e))>=0)) ((a0m s.1 (wrap .i64 ((wrap .i64 ((wrap .i64 (a-b))-1))+e))).bind fun x2=>some (.inl (s.1,a,b,wrap .i64 (c+(wrap .i64 (x1*x2))),d,wrap .i64 (e+1),()))) (some (.inl (s.1,a,b,c,d,wrap .i64 (e+1),())))) (some (.inr (c,())))) s.2.1 s.2.2.1 s.2.2.2.1 s.2.2.2.2.1 s.2.2.2.2.2.1
def a7J(x:(LI×Z3)):Option Int:=(a0d a5q (x.1,x.2.1,x.2.2.1,0,x.2.2.2,0,())).bind fun w3=>some (a0v .i64 w3.1 6)
def b8X:FSem:=⟨[.v QL,.v QI,.v QI,.v (.arr 3 QI)],[.v QI],a7J⟩
def f2s:Hints:=⟨[(58,[.sv 0 QL,1,2,9,.sv 13 (.arr 3 QI),14],[Qe 0 [9]])],[],[]⟩
def b0C(s:(Int×Z76)):Option ((Int×Z76) ⊕ Z48):=(fun(a b:Int)(c d:LI)=>cond (decide (b<a)) ((a0m s.2.1 b).bind fun x3=>(a7J (c,b,s.1,d)).bind fun y4=>(b1o (wrap .i64 (x3+y4))).bind fun y5=>cond (!y5) (some (.inr (Sum.inr ((6,[],()))))) (cond (lim ((a01 c)+1)) (some (.inl (s.1,s.2.1,a,wrap .i64 (b+1),a02 c [wrap .i64 (x3+y4)],d,()))) none)) (some (.inr (Sum.inl (c,()))))) s.2.2.1 s.2.2.2.1 s.2.2.2.2.1 s.2.2.2.2.2.1
def b4r(x:Z14):Option (LI×Int):=(b2T (x.2.1,x.2.2)).bind fun y1=>cond (!y1) (some ([],1)) ((b0B x.1).bind fun y2=>cond (!y2) (some ([],6)) (cond ((decide (0<=(x.1.length:Int)))&&(lim (a00 (x.1.length:Int)))) ((a0d b0C (x.2.1,x.1,(x.1.length:Int),0,[],x.2.2,())).bind fun w6=>match w6 with |.inl a7=>some (a7.1,0) |.inr b8=>some (b8.2.1,b8.1)) none))
def d5j:FSem:=⟨[.v QL,.v QI,.v (.arr 3 QI)],[.o QI,.v QI],b4r⟩
def f2t:Hints:=⟨[(250,[1,.sv 22 QL,23,24,.own 8 8 QI,.vp 5 (.arr 3 QI)],[Qe 0 [.own 8 8 QI],Qr [7,.own 6 6 QI]])],[],[]⟩
def b0h(x:Int):Option Bool:=cond (decide (x>=(-1073741824))) (some (decide (x<1073741824))) (some false)
def b6F:FSem:=⟨[.v QI],[.v .bool],b0h⟩
def a4N(s:Z18):Option Z75:=cond (decide (s.2.2.1<s.2.1)) ((a0m s.1 s.2.2.1).bind fun x1=>(b0h x1).bind fun y2=>cond (!y2) (some (.inr (Sum.inr ((false,()))))) (some (.inl (s.1,s.2.1,wrap .i64 (s.2.2.1+1),())))) (some (.inr (Sum.inl ())))
def a9t(x:LI):Option Bool:=(a0d a4N (x,(x.length:Int),0,())).bind fun w3=>match w3 with |.inl a4=>some true |.inr b5=>some b5.1
def b2W:FSem:=⟨[.v QL],[.v .bool],a9t⟩
def f2u:Hints:=⟨[(26,[.sv 5 QL,6,7],[Qe 0 [],Qr [.sv 2 .bool]])],[],[]⟩
def b4s(x:(Int×Int×Unit)):Option Z44:=(a8Q x).bind fun y1=>cond (!y1) none (cond ((decide (0<=x.1))&&((decide (x.1<=x.1))&&(lim (a00 x.1)))) (cond ((decide (0<=x.1))&&((decide (x.1<=x.1))&&(lim (a00 x.1)))) (some ((x.2.1,a03 (a00 x.1) 0,a03 (a00 x.1) 0,()),0)) none) none)
def b8t:FSem:=⟨[.v Q5],[.b Q20,.v QI],b4s⟩
def f2v:Hints:=⟨[],[],[(3,[.v,.v,.v,.v,.q,.v,.v,.q,.x,.x,.x,.x])]⟩
def a6D(x:Int):Option Int:=some (a2P (a1s x (-1073741824)) 1073741823)
def c6W:FSem:=⟨[.v QI],[.v QI],a6D⟩
def a4p(s:Z91):Option (Z91 ⊕ Z69):=(fun(a:Int)(b:Z28)=>cond (decide (a<s.2.1)) (cond ((decide (0<=a))&&(decide (a<(b.2.1.length:Int)))) (cond ((decide (0<=a))&&(decide (a<(b.2.2.1.length:Int)))) (some (.inl (wrap .i64 (s.1+(wrap .i64 ((a04 b.2.1 (a00 a) 0)*(a04 b.2.2.1 (a00 a) 0)))),s.2.1,wrap .i64 (a+1),b,()))) none) none) (some (.inr (s.1,b,())))) s.2.2.1 s.2.2.2.1
def a3U(x:Z28):Option Z43:=(a0d a4p (0,(x.2.1.length:Int),0,x,())).bind fun w1=>(a6D (a0v .i64 w1.1 16)).bind fun y2=>some (y2,w1.2.1)
def a8n:FSem:=⟨[.r false (.b Q20)],[.v QI],a3U⟩
def f2w:Hints:=⟨[(58,[3,10,11,.box pinned Q20,Qp 0 pinned,.ref 9 pinned [.snd,.fst]],[Qe 0 [3,.box pinned Q20]])],[],[]⟩
def a3s(s:(Int×Z91)):Option ((Int×Z91) ⊕ Z69):=(fun(a b c d:Int)(e:Z28)=>cond (decide (d<c)) (cond ((decide (0<=d))&&(decide (d<(e.2.2.1.length:Int)))) (cond ((decide (0<=d))&&(decide (d<(e.2.1.length:Int)))) ((show Option (Int×Int×Int×Z91)from cond (decide ((a04 e.2.2.1 (a00 d) 0) > 0)) (some (a,b,d,wrap .i64 ((a04 e.2.1 (a00 d) 0)+b),c,d,e,())) (cond (decide ((a04 e.2.2.1 (a00 d) 0)<0)) (some (a,b,d,wrap .i64 ((a04 e.2.1 (a00 d) 0)-b),c,d,e,())) (some (a,b,d,a04 e.2.1 (a00 d) 0,c,d,e,())))).bind fun z4=>cond ((decide (0<=z4.2.2.1))&&(decide (z4.2.2.1<(z4.2.2.2.2.2.2.1.2.1.length:Int)))) (some (.inl (z4.1,z4.2.1,z4.2.2.2.2.1,wrap .i64 (z4.2.2.2.2.2.1+1),(z4.2.2.2.2.2.2.1.1,a07 z4.2.2.2.2.2.2.1.2.1 (a00 z4.2.2.1) (a2P (a1s z4.2.2.2.1 (-1048576)) 1048576),z4.2.2.2.2.2.2.1.2.2),()))) none) none) none) (some (.inr (a,e,())))) s.1 s.2.1 s.2.2.1 s.2.2.2.1 s.2.2.2.2.1
def a6h(x:Z44):Option Z28:=(a6D x.2).bind fun y1=>(show Option Z82 from(a3U x.1).bind fun y2=>cond (decide (y1 > y2.1)) (cond (decide (y2.2.1<0)) none (some (y1,a0t .i64 1 y2.2.1,y2.2,()))) (cond (decide (y1<y2.1)) (cond (decide (y2.2.1<0)) none (some (y1,wrap .i64 (0-(a0t .i64 1 y2.2.1)),y2.2,()))) (some (y1,0,y2.2,())))).bind fun z3=>(a0d a3s (z3.1,z3.2.1,(z3.2.2.1.2.2.1.length:Int),0,z3.2.2.1,())).bind fun w5=>cond (decide (1<=(w5.2.1.2.2.1.length:Int))) (cond (decide (0<(a01 (b5C w5.2.1.2.2.1 1 ((a01 w5.2.1.2.2.1)-1) w5.2.1.2.2.1):Int))) (some (w5.2.1.1,w5.2.1.2.1,a07 (b5C w5.2.1.2.2.1 1 ((a01 w5.2.1.2.2.1)-1) w5.2.1.2.2.1) 0 w5.1,w5.2.1.2.2.2)) none) none
def a9n:FSem:=⟨[.r false (.b Q20),.v QI],[],a6h⟩
def f2x:Hints:=⟨[(122,[1,4,36,37,.box pinned Q20,Qp 0 pinned,.ref 35 pinned [.snd,.snd,.fst]],[Qe 1 [1,.box pinned Q20,Qp 0 pinned]])],[(7,[Qn [1,4,.box pinned Q20,Qp 0 pinned]]),(15667,[Qn [1,4,6,8,36,37,.box pinned Q20,Qp 0 pinned,.ref 35 pinned [.snd,.snd,.fst]]])],[(17,[.p,.p,.q,.q,.q,.p,.p,.q,.q,.x])]⟩
def a6E(s:(Int×(Int×(LI×Z88)))):Option ((Int×(Int×(LI×Z88))) ⊕ (Z29 ⊕ Z29)):=(fun(a:Int)(b:LI)(c:Int)(d:LI)=>cond (decide (a<s.1)) (cond ((decide (0<=a))&&(decide (a<(d.length:Int)))) ((a3U s.2.2.2.2.2.1).bind fun y6=>(b0h (wrap .i64 (y6.1+(a04 d (a00 a) 0)))).bind fun y7=>cond (!y7) (some (.inr (Sum.inr (([],6,d,()))))) ((a6h (y6.2,wrap .i64 (y6.1+(a04 d (a00 a) 0)))).bind fun y8=>cond ((decide (0<=a))&&(decide (a<(d.length:Int)))) (some (.inl (s.1,wrap .i64 (a+1),b,c,a07 d (a00 a) (wrap .i64 (y6.1+(a04 d (a00 a) 0))),y8,()))) none)) none) (some (.inr (Sum.inl (b,c,d,()))))) s.2.1 s.2.2.1 s.2.2.2.1 s.2.2.2.2.1
def a9u(k:Int)(v:(Int×Int×Unit))(s:(Z5×Z29)):Option ((Z5×Z29) ⊕ (Ex×Z5×Z29)):=(b4s v).bind fun y4=>cond (y4.2 != 0) (some (.inr (.ret,s.1,[],y4.2,s.2.2.2.1,()))) ((a0d a6E ((s.2.2.2.1.length:Int),0,s.2.1,s.2.2.1,s.2.2.2.1,y4.1,())).bind fun w9=>match w9 with |.inl a10=>some (.inl (s.1,a10.1,a10.2.1,a10.2.2.1,())) |.inr b11=>some (.inr (.ret,s.1,b11.1,b11.2.1,b11.2.2.1,())))
def b2X(x:(LI×Z5)):Option (LI×Int):=(b1m x.2).bind fun y1=>cond (!y1) (some ([],1)) ((a9t x.1).bind fun y2=>cond (!y2) (some ([],6)) ((a2L x.1).bind fun y3=>cond (lim (a01 x.2)) ((a8i a9u x.2 (a01 x.2) (x.2,[],0,y3,())).bind fun w12=>match w12 with |.inl a13=>some (a13.2.2.2.1,0) |.inr (.normal,a14)=>some (a14.2.2.2.1,0) |.inr (.exit e15,a14)=>(cond (e15==0) (some (a14.2.2.2.1,0)) none) |.inr (.ret,a14)=>some (a14.2.1,a14.2.2.1)) none))
def b2Y:FSem:=⟨[.v QL,.v (.list false Q5)],[.v QL,.v QI],b2X⟩
def f2y:Hints:=⟨[(8046,[35,36,.box 1001004 QL,.box 1001005 QI,.box 1001006 (.list true QI),.box 1028 Q20,Qp 4 1001004,Qp 5 1001005,Qp 6 1001006,Qp 9 1028,.ref 34 1001006 []],[Qe 2 [.box 1001004 QL,.box 1001005 QI,.box 1001006 (.list true QI),Qp 4 1001004,Qp 5 1001005,Qp 6 1001006],Qr [.box 1001004 QL,.box 1001005 QI,.box 1001006 (.list true QI),Qp 4 1001004,Qp 5 1001005,Qp 6 1001006]])],[],[]⟩
def e4h:Cx:=a1d [(59,a1v),(214,b8s),(268,b2W),(270,b8t),(271,a8n),(272,b6F),(273,a9n)] [(6,.list true QI)] 15875 72057594037927936
def e7a:HintR:=⟨22,Q5,269,288,[4,5,6],[.sv 22 (.list false Q5),.box 1001004 QL,.box 1001005 QI,.box 1001006 (.list true QI),.ptr 4 1001004 [],.ptr 5 1001005 [],.ptr 6 1001006 []]⟩
theorem e8W(x):d2d e4h f2y e7a Tryz.f222 b2Y.ps b2Y.rs x=b2Y.F x:=by kernel_rfl
def a8U(x:Int):Option Bool:=cond (decide ((-1073741824)<=x)) (some (decide (x<1073741824))) (some false)
def c0J:FSem:=⟨[.v QI],[.v .bool],a8U⟩
def b0D(s:Z62):Option (Z62 ⊕ Z48):=(fun(a:Int)(b:LI)(c d:Int)(e:LI)=>cond (decide (d<c)) ((a0m b d).bind fun x2=>(show Option (Int×(Int×(LI×(Int×Int×Z9))))from(a8U x2).bind fun y3=>cond (!y3) (some (a,x2,b,c,d,true,e,())) (cond (decide (a<0)) none ((a8U (a0t .i64 x2 a)).bind fun y4=>some (a,x2,b,c,d,!y4,e,())))).bind fun z5=>cond z5.2.2.2.2.2.1 (some (.inr (Sum.inr ((6,[],()))))) (cond (decide (z5.1<0)) none (cond (lim ((a01 z5.2.2.2.2.2.2.1)+1)) (some (.inl (z5.1,z5.2.2.1,z5.2.2.2.1,wrap .i64 (z5.2.2.2.2.1+1),a02 z5.2.2.2.2.2.2.1 [a0t .i64 z5.2.1 z5.1],()))) none))) (some (.inr (Sum.inl (e,()))))) s.1 s.2.1 s.2.2.1 s.2.2.2.1 s.2.2.2.2.1
def b1p(x:(LI×Int)):Option (LI×Int):=(show Option Z22 from cond (decide (x.2<0)) (some (x.1,x.2,true,())) (some (x.1,x.2,decide (x.2 > 30),()))).bind fun z1=>cond z1.2.2.1 (some ([],1)) ((a0d b0D (z1.2.1,z1.1,(z1.1.length:Int),0,[],())).bind fun w6=>match w6 with |.inl a7=>some (a7.1,0) |.inr b8=>some (b8.2.1,b8.1))
def d5k:FSem:=⟨[.v QL,.v QI],[.o QI,.v QI],b1p⟩
def f2z:Hints:=⟨[(122,[1,.sv 15 QL,16,17,.own 6 6 QI],[Qe 0 [.own 6 6 QI],Qr [5,.own 4 4 QI]])],[(6,[Qn [.sv 0 QL,1,.sv 14 .bool]]),(15666,[Qn [1,8,.sv 15 QL,16,17,.sv 30 .bool,.own 6 6 QI]])],[]⟩
def a8V(s:d8c):Option (d8c ⊕ (LI×Unit)):=cond (decide (s.2.1<s.1)) ((a0m s.2.2.2.1.2.2.2.2.2.2.2.2.1 0).bind fun x1=>cond (lim ((a01 s.2.2.1)+1)) (some (.inl (s.1,wrap .i64 (s.2.1+1),a02 s.2.2.1 [x1],s.2.2.2.1,()))) none) (some (.inr (s.2.2.1,())))
def b5M(x:b2Q):Option (LI×Int):=(show Option ((LI×(Int×c8Q)) ⊕ Z6)from cond (x.1.1==0) ((a0d a8V (x.2,0,[],x.1,())).bind fun w2=>some (Sum.inr ((0,w2.1,())))) (cond (x.1.1==1) (some (Sum.inl (x.1.2.2.2.2.2.2.2.2.1,0,x.1,()))) (cond (x.1.1==2) ((b2V (x.1.2.2.2.2.2.2.2.2.1,x.1.2.2.2.2.2.2.2.2.2.2.1,x.1.2.2.1)).bind fun y3=>some (Sum.inl (y3.1,y3.2,x.1,()))) (cond (x.1.1==3) ((a8T (x.1.2.2.2.2.2.2.2.2.1,x.1.2.2.2.2.2.2.2.2.2.2.1,x.1.2.2.2.2.2.1,x.1.2.2.2.1)).bind fun y4=>some (Sum.inl (y4.1,y4.2,x.1,()))) (cond (x.1.1==4) ((a8T (x.1.2.2.2.2.2.2.2.2.1,x.1.2.2.2.2.2.2.2.2.2.2.1,x.1.2.2.2.2.2.1,x.1.2.2.2.1)).bind fun y5=>cond (y5.2==0) ((b4r (y5.1,x.1.2.2.2.2.1,x.1.2.2.2.2.2.2.1)).bind fun y6=>some (Sum.inl (y6.1,y6.2,x.1,()))) (some (Sum.inl (y5.1,y5.2,x.1,())))) (cond (x.1.1==5) ((b2X (x.1.2.2.2.2.2.2.2.2.2.2.1,x.1.2.2.2.2.2.2.2.1)).bind fun y7=>some (Sum.inl (y7.1,y7.2,x.1,()))) (some (Sum.inl ([],0,x.1,()))))))))).bind fun z8=>match z8 with |.inl a9=>(cond (a9.2.1 != 0) (some ([],a9.2.1)) ((b1p (a9.1,a9.2.2.1.2.1)).bind fun y11=>some (y11.1,y11.2))) |.inr b10=>some (b10.2.1,b10.1)
def d8t:FSem:=⟨[.v Q68,.v QI],[.o QI,.v QI],b5M⟩
def f2A:Hints:=⟨[(3922,[12,13,.own 6 6 QI,.vp 2 Q68],[Qe 1 [.own 6 6 QI]])],[(15,[Qn [.sv 6 QL,7,.vp 2 Q68],Qr [5,.own 4 6 QI]])],[]⟩
def b4W(x:b2Q):Option (LI×Int):=(b2U (x.1,x.2)).bind fun y1=>cond (!y1) (some ([],1)) ((b5M (x.1,x.2)).bind fun y2=>cond (y2.2 != 0) (some ([],1)) (some (y2.1,0)))
def e0I:FSem:=⟨[.v Q68,.v QI],[.o QI,.v QI],b4W⟩
def b1q(x:Int):Option Bool:=cond (decide ((-1073741824)<=x)) (some (decide (x<1073741824))) (some false)
def d5l:FSem:=⟨[.v QI],[.v .bool],b1q⟩
def a5N(s:((List LI)×((List LI)×Z50))):Option (((List LI)×((List LI)×Z50)) ⊕ (((List LI)×((List LI)×(Int×Int×Unit))) ⊕ (Bool×Unit))):=(fun(a b:Int)(c:LI)(d e:Int)=>cond (decide (e<d)) ((a0m c e).bind fun x5=>(b1q x5).bind fun y6=>cond (!y6) (some (.inr (Sum.inr ((false,()))))) (some (.inl (s.1,s.2.1,a,b,c,d,wrap .i64 (e+1),())))) (some (.inr (Sum.inl (s.1,s.2.1,a,b,()))))) s.2.2.1 s.2.2.2.1 s.2.2.2.2.1 s.2.2.2.2.2.1 s.2.2.2.2.2.2.1
def a5O(s:((List LI)×((List LI)×(Int×Int×Unit)))):Option (((List LI)×((List LI)×(Int×Int×Unit))) ⊕ Z0):=(fun(a b:Int)=>cond (decide (b<a)) ((a0m s.2.1 b).bind fun x3=>(a0m s.1 0).bind fun x4=>cond ((x3.length:Int) != (x4.length:Int)) (some (.inr (Sum.inr ((false,()))))) ((a0d a5N (s.1,s.2.1,a,b,x3,(x3.length:Int),0,())).bind fun w7=>match w7 with |.inl a8=>some (.inl (a8.1,a8.2.1,a8.2.2.1,wrap .i64 (a8.2.2.2.1+1),())) |.inr b9=>some (.inr (Sum.inr ((b9.1,())))))) (some (.inr (Sum.inl ())))) s.2.2.1 s.2.2.2.1
def b4t(x:(List LI)):Option Bool:=(show Option ((List LI)×(Bool×Unit))from cond (decide ((x.length:Int)<1)) (some (x,true,())) (cond (decide ((x.length:Int) > 8)) (some (x,true,())) ((a0m x 0).bind fun x1=>some (x,decide ((x1.length:Int) > 4096),())))).bind fun z2=>cond z2.2.1 (some false) ((a0d a5O (z2.1,z2.1,(z2.1.length:Int),0,())).bind fun w10=>match w10 with |.inl a11=>some true |.inr b12=>some b12.1)
def b4u:FSem:=⟨[.v (.list false QL)],[.v .bool],b4t⟩
def f2B:Hints:=⟨[(58,[.sv 0 (.list false QL),.sv 22 (.list false QL),23,24],[Qe 0 [],Qr [.sv 2 .bool]]),(29902,[.sv 0 (.list false QL),.sv 22 (.list false QL),23,24,.sv 35 QL,36,37],[Qe 2 [.sv 0 (.list false QL),.sv 22 (.list false QL),23,24],Qr [.sv 2 .bool]])],[(6,[Qn [.sv 0 (.list false QL),.sv 21 .bool]])],[]⟩
def a8o(s:((List LI)×(Int×Z15))):Option (((List LI)×(Int×Z15)) ⊕ Z2):=cond (decide (s.2.2.1<s.2.1)) ((a0m s.1 s.2.2.1).bind fun x1=>(a2L x1).bind fun y2=>cond (lim ((a01 s.2.2.2.1)+(a01 (a07 ([[]]:List LI) 0 y2)))) (some (.inl (s.1,s.2.1,wrap .i64 (s.2.2.1+1),a02 s.2.2.2.1 (a07 ([[]]:List LI) 0 y2),()))) none) (some (.inr (s.2.2.2.1,())))
def b1M(x:(List LI)):Option (List LI):=(a0d a8o (x,(x.length:Int),0,([]:(List LI)),())).bind fun w3=>some w3.1
def b5m:FSem:=⟨[.v (.list false QL)],[.o (.list true QI)],b1M⟩
def f2C:Hints:=⟨[(58,[.sv 6 (.list false QL),7,8,.own 3 3 (.list true QI)],[Qe 0 [.own 3 3 (.list true QI)]])],[],[]⟩
def a4Z(s:(Int×(Int×(Int×((List LI)×(Z8×Int×Unit)))))):Option ((Int×(Int×(Int×((List LI)×(Z8×Int×Unit))))) ⊕ (Z2 ⊕ (Bool×Z2))):=(fun(a:Int)(b:List LI)(c:Z8)(d:Int)=>cond (decide (a<s.2.1)) (cond ((decide (0<=a))&&(decide (a<((a01 (a04 b (a00 d) []):Nat):Int)))) (cond ((decide (0<=c.2.1))&&(decide (c.2.1<(b.length:Int)))) (cond ((decide (0<=a))&&(decide (a<((a01 (a04 b (a00 c.2.1) []):Nat):Int)))) ((b1q (wrap .i64 ((a04 (a04 b (a00 c.2.1) []) (a00 a) 0)+(wrap .i64 (s.1*(a0v .i64 (wrap .i64 (c.2.2.1*(a04 (a04 b (a00 d) []) (a00 a) 0))) 8)))))).bind fun y1=>cond (!y1) (some (.inr (Sum.inr ((false,b,()))))) (cond ((decide (0<=c.2.1))&&(decide (c.2.1<(b.length:Int)))) (cond ((decide (0<=a))&&(decide (a<((a01 (a04 b (a00 c.2.1) []):Nat):Int)))) (some (.inl (s.1,s.2.1,wrap .i64 (a+1),a07 b (a00 c.2.1) (a07 (a04 b (a00 c.2.1) []) (a00 a) (wrap .i64 ((a04 (a04 b (a00 c.2.1) []) (a00 a) 0)+(wrap .i64 (s.1*(a0v .i64 (wrap .i64 (c.2.2.1*(a04 (a04 b (a00 d) []) (a00 a) 0))) 8)))))),c,((a00 d:Nat):Int),()))) none) none)) none) none) none) (some (.inr (Sum.inl (b,()))))) s.2.2.1 s.2.2.2.1 s.2.2.2.2.1 s.2.2.2.2.2.1
def b2Z(x:((List LI)×(Z8×Int))):Option (Bool×(List LI)):=cond ((decide (0<=x.2.1.1))&&(decide (x.2.1.1<(x.1.length:Int)))) ((a0d a4Z (x.2.2,((a01 (a04 x.1 (a00 x.2.1.1) []):Nat):Int),0,x.1,x.2.1,((a00 x.2.1.1:Nat):Int),())).bind fun w2=>match w2 with |.inl a3=>some (true,a3.1) |.inr b4=>some (b4.1,b4.2.1)) none
def b6G:FSem:=⟨[.r false (.o (.list true QI)),.v Q14,.v QI],[.v .bool],b2Z⟩
def f2D:Hints:=⟨[(26,[2,15,16,.own 0 pinned (.list true QI),.vp 4 Q14,.rfi 14 pinned],[Qe 0 [.own 0 pinned (.list true QI)],Qr [.sv 6 .bool,.own 0 pinned (.list true QI)]])],[],[(4,[.q,.v,.v,.q,.q,.v,.q,.q,.v,.v,.v,.v,.v,.v,.v,.x,.x])]⟩
def a7K(k:Int)(v:Z8)(s:(Z19×Z59)):Option ((Z19×Z59) ⊕ (Ex×Z19×Z59)):=(b2Z (s.2.2.2.1,v,(-1))).bind fun y5=>cond (!y5.1) (some (.inr (.ret,s.1,([]:(List LI)),6,y5.2,()))) (some (.inl (s.1,s.2.1,s.2.2.1,y5.2,())))
def b4v(x:Z60):Option ((List LI)×Int):=(show Option ((List LI)×(Z19×Bool×Z17))from(b4t x.1).bind fun y1=>cond (!y1) (some (x.1,x.2,true,([]:(List LI)),0,())) ((b2S (x.2,(x.1.length:Int))).bind fun y2=>some (x.1,x.2,!y2,([]:(List LI)),0,()))).bind fun z3=>cond z3.2.2.1 (some (([]:(List LI)),1)) ((b1M z3.1).bind fun y4=>cond (lim (a01 z3.2.1)) ((a8i a7K z3.2.1 (a01 z3.2.1) (z3.2.1,z3.2.2.2.1,z3.2.2.2.2.1,y4,())).bind fun w6=>match w6 with |.inl a7=>some (a7.2.2.2.1,0) |.inr (.normal,a8)=>some (a8.2.2.2.1,0) |.inr (.exit e9,a8)=>(cond (e9==0) (some (a8.2.2.2.1,0)) none) |.inr (.ret,a8)=>some (a8.2.1,a8.2.2.1)) none)
def b4w:FSem:=⟨[.v (.list false QL),.v (.list false Q14)],[.v (.list false QL),.v QI],b4v⟩
def H95:Hints:=⟨[],[(6,[Qn [.sv 0 (.list false QL),.sv 1 (.list false Q14),.sv 18 .bool,.box 4 (.list false QL),.box 5 QI,Qp 4 4,Qp 5 5]])],[]⟩
def e7b:Cx:=a1d [(129,b4u),(130,c0a),(131,b5m),(132,b6G)] [(6,.list true (.list true QI))] 3 536870912
def R95:HintR:=⟨21,Q14,161,224,[4,5,6],[.sv 21 (.list false Q14),.box 1001004 (.list false QL),.box 1001005 QI,.box 1001006 (.list true (.list true QI)),.ptr 4 1001004 [],.ptr 5 1001005 [],.ptr 6 1001006 []]⟩
theorem f2E(x):d2d e7b H95 R95 Tryz.f95 b4w.ps b4w.rs x=b4w.F x:=by kernel_rfl
def a5V(s:(c8P×Int×d8j)):Option ((c8P×Int×d8j) ⊕ (e2J ⊕ Z46)):=(fun(a:Int)(b:List LI)(c:Z15)(d:a2Q)=>cond (decide (a<s.2.1)) ((a0m s.1 a).bind fun x3=>(b4W (x3,d.2.1)).bind fun y4=>cond (y4.2 != 0) (some (.inr (Sum.inr ((1,(0,([]:(List LI)),()),()))))) (cond (lim ((a01 b)+1)) (some (.inl (s.1,s.2.1,wrap .i64 (a+1),a02 b ([y4.1]:List LI),c,d,()))) none)) (some (.inr (Sum.inl (b,c,d,()))))) s.2.2.1 s.2.2.2.1 s.2.2.2.2.1 s.2.2.2.2.2.1
def a4m(x:a2Q):Option Z30:=(show Option (Bool×d8h)from(a8O x).bind fun y1=>cond (!y1) (some (true,(0,([]:(List LI)),()),x,())) (some ((x.2.2.2.2.1.length:Int) != x.2.2.1.2.1,(0,([]:(List LI)),()),x,()))).bind fun z2=>cond z2.1 (some ((0,([]:(List LI)),()),1)) (cond ((decide (0<=(z2.2.2.1.2.2.2.2.1.length:Int)))&&(lim (a00 (z2.2.2.1.2.2.2.2.1.length:Int)))) ((a0d a5V (z2.2.2.1.2.2.2.2.1,(z2.2.2.1.2.2.2.2.1.length:Int),0,([]:(List LI)),z2.2.1,z2.2.2.1,())).bind fun w5=>match w5 with |.inl a6=>((b4v (a6.1,a6.2.2.1.2.2.2.1)).bind fun y8=>cond (y8.2 != 0) (some ((0,([]:(List LI)),()),1)) ((a7d (a6.2.2.1.2.2.1.2.2.1,y8.1,())).bind fun y9=>cond (!y9) (some ((0,([]:(List LI)),()),1)) (some ((a6.2.2.1.2.2.1.2.2.1,y8.1,()),0)))) |.inr b7=>some (b7.2.1,b7.1)) none)
def c0K:FSem:=⟨[.v Q90],[.v Q18,.v QI],a4m⟩
def H42:Hints:=⟨[(122,[.sv 30 (.list false Q68),31,32,.own 4 4 QL,.box 2 Q18,.vp 1 Q90,Qp 2 2],[Qe 0 [.own 4 4 QL,.box 2 Q18,.vp 1 Q90,Qp 2 2],Qr [3,.box 2 Q18,Qp 2 2]])],[(6,[Qn [.sv 23 .bool,.box 2 Q18,.vp 1 Q90,Qp 2 2]])],[]⟩
def b1r(x:a2Q):Option Bool:=(a4m x).bind fun y1=>some (y1.2==0)
def c4w:FSem:=⟨[.v Q90],[.v .bool],b1r⟩
def b1b(s:Z45):Option (Z45 ⊕ Z31):=(fun(a:Int)(b:LI)(c d e:Int)=>cond (decide (e<8)) (cond ((a0v .u16 a 15)==1) (some (.inl (bits .u16 .xor (a0t .u16 a 1) 32773,b,c,d,wrap .i64 (e+1),()))) (some (.inl (a0t .u16 a 1,b,c,d,wrap .i64 (e+1),())))) (some (.inr (a,b,c,d,())))) s.1 s.2.1 s.2.2.1 s.2.2.2.1 s.2.2.2.2.1
def a7j(s:Z31):Option Z71:=(fun(a b:Int)=>cond (decide (b<a)) ((a0m s.2.1 b).bind fun x1=>(a0d b1b (bits .u16 .xor s.1 (a0t .u16 (wrap .u16 x1) 8),s.2.1,a,b,0,())).bind fun w2=>some (.inl (w2.1,w2.2.1,w2.2.2.1,wrap .i64 (w2.2.2.2.1+1),()))) (some (.inr (s.1,())))) s.2.2.1 s.2.2.2.1
def b0E(x:LI):Option Int:=(a0d a7j (0,x,(x.length:Int),0,())).bind fun w3=>some w3.1
def b8Y:FSem:=⟨[.v QB],[.v (.int .u16)],b0E⟩
def H79:Hints:=⟨[(58,[.sv 3 (.int .u16),.sv 7 QB,8,9],[Qe 0 [.sv 3 (.int .u16)]]),(29902,[.sv 3 (.int .u16),.sv 7 QB,8,9,18],[Qe 2 [.sv 3 (.int .u16),.sv 7 QB,8,9]])],[],[]⟩
def b3a(s:Z45):Option (Z45 ⊕ Z31):=(fun(a:Int)(b:LI)(c d e:Int)=>cond (decide (e<8)) (cond ((a0v .u8 a 7)==1) (some (.inl (bits .u8 .xor (a0t .u8 a 1) 7,b,c,d,wrap .i64 (e+1),()))) (some (.inl (a0t .u8 a 1,b,c,d,wrap .i64 (e+1),())))) (some (.inr (a,b,c,d,())))) s.1 s.2.1 s.2.2.1 s.2.2.2.1 s.2.2.2.2.1
def a9v(s:Z31):Option Z71:=(fun(a b:Int)=>cond (decide (b<a)) ((a0m s.2.1 b).bind fun x1=>(a0d b3a (bits .u8 .xor s.1 x1,s.2.1,a,b,0,())).bind fun w2=>some (.inl (w2.1,w2.2.1,w2.2.2.1,wrap .i64 (w2.2.2.2.1+1),()))) (some (.inr (s.1,())))) s.2.2.1 s.2.2.2.1
def b3b(x:LI):Option Int:=(a0d a9v (0,x,(x.length:Int),0,())).bind fun w3=>some w3.1
def c1X:FSem:=⟨[.v QB],[.v QV],b3b⟩
def f2F:Hints:=⟨[(58,[.sv 3 QV,.sv 7 QB,8,9],[Qe 0 [.sv 3 QV]]),(29902,[.sv 3 QV,.sv 7 QB,8,9,16],[Qe 2 [.sv 3 QV,.sv 7 QB,8,9]])],[],[]⟩
def a3L(x:Int):Option Int:=cond ((a09 x 2)==0) (some (wrap .i64 (wrap .u64 (a06 x 2)))) (some (wrap .i64 ((wrap .i64 (0-(wrap .i64 (wrap .u64 (a06 x 2)))))-1)))
def d5m:FSem:=⟨[.v QU],[.v QI],a3L⟩
def a6F(s:(LI×(Int×Int×d8i))):Option ((LI×(Int×Int×d8i)) ⊕ (LI×d8i)):=(fun(a:Int)(b:a2Q)(c:Z18)=>cond (decide (a<s.2.1)) ((a0B (c,7)).bind fun y11=>(a0B (y11.2,7)).bind fun y12=>(a0B (y12.2,2048)).bind fun y13=>(a3L y13.1).bind fun y14=>cond (lim ((a01 b.2.2.2.1)+1)) (some (.inl (s.1,s.2.1,wrap .u64 (a+1),(b.1,b.2.1,b.2.2.1,a02 b.2.2.2.1 ([(wrap .i64 y11.1,wrap .i64 y12.1,y14,())]:List Z8),b.2.2.2.2),y13.2,()))) none) (some (.inr (s.1,b,c,())))) s.2.2.1 s.2.2.2.1 s.2.2.2.2.1
def a9w(x:LI):Option (a2Q×Int×Int×Int):=cond (decide ((x.length:Int)<2)) (some ((0,0,(0,0,0,()),[],[],()),0,0,3)) ((show Option (LI×(Bool×b2R))from(a0m x 0).bind fun x1=>cond (x1 != 245) (some (x,true,(0,0,(0,0,0,()),[],[],()),())) ((a0m x 1).bind fun x2=>some (x,x2 != 75,(0,0,(0,0,0,()),[],[],()),()))).bind fun z3=>cond z3.2.1 (some ((0,0,(0,0,0,()),[],[],()),0,0,2)) (cond (decide (2<=(z3.1.length:Int))) ((a7c (a08 2 (a05 (a01 z3.1) z3.1))).bind fun y4=>(a0B (y4,4194304)).bind fun y5=>(a0B (y5.2,4096)).bind fun y6=>(a0B (y6.2,1048576)).bind fun y7=>(a0B (y7.2,8)).bind fun y8=>(a0B (y8.2,24)).bind fun y9=>(a0B (y9.2,16)).bind fun y10=>(a0d a6F (z3.1,y10.1,0,(wrap .i64 y5.1,wrap .i64 y6.1,(wrap .i64 y7.1,wrap .i64 y8.1,wrap .i64 y9.1,z3.2.2.1.2.2.1.2.2.2),z3.2.2.1.2.2.2),y10.2,())).bind fun w15=>(a0B (w15.2.2.1,1048576)).bind fun y16=>(a4K y16.2).bind fun y17=>cond (y17.1 != 0) (some ((0,0,(0,0,0,()),[],[],()),0,0,y17.1)) ((a2I y17.2).bind fun y18=>cond (decide (y18.1<1)) (some ((0,0,(0,0,0,()),[],[],()),0,0,3)) ((a5o y18.2).bind fun y19=>cond ((decide (0<=(wrap .i64 (2+y19.1))))&&(decide ((wrap .i64 (2+y19.1))<=(w15.1.length:Int)))) ((b3b (a05 (a00 (wrap .i64 (2+y19.1))) w15.1)).bind fun y20=>(a0m w15.1 (wrap .i64 (2+y19.1))).bind fun x21=>cond (y20 != x21) (some ((0,0,(0,0,0,()),[],[],()),0,0,5)) ((a8O w15.2.1).bind fun y22=>cond (!y22) (some ((0,0,(0,0,0,()),[],[],()),0,0,2)) (some (w15.2.1,wrap .i64 ((wrap .i64 (2+y19.1))+1),wrap .i64 y16.1,0)))) none))) none))
def c6X:FSem:=⟨[.v QB],[.v Q88,.v QI,.v QI,.v QI],a9w⟩
def H87:Hints:=⟨[(8186,[.sv 0 QB,.sv 54 QU,.sv 55 QU,.box 2 Q87,.box 1029 Q19,Qp 2 2,Qp 6 1029],[Qe 0 [.sv 0 QB,.box 2 Q87,.box 1029 Q19,Qp 2 2,Qp 6 1029]])],[(14,[Qn [.sv 0 QB,.sv 25 .bool,.box 2 Q87,Qp 2 2]])],[(25,[.v,.v,.v,.v,.v,.v,.v,.v,.x])]⟩
def b5N(x:LI):Option Z18:=cond (lim (a01 x)) (some (x,0,0,())) none
def d8u:FSem:=⟨[.v QB],[.b Q19],b5N⟩
def a0n(x:Z18):Option Z31:=some (x.2.2.1,x)
def c3L:FSem:=⟨[.r false (.b Q19)],[.v QI],a0n⟩
def b2C(x:b2Q):Option Bool:=(b4W (x.1,x.2)).bind fun y1=>some (y1.2==0)
def d0n:FSem:=⟨[.v Q68,.v QI],[.v .bool],b2C⟩
def a4h(s:Z50):Option (Z50 ⊕ Z31):=(fun(a b:Int)(c:LI)(d e:Int)=>cond (b != 0) (cond (decide (a<32)) ((a5h (b,a)).bind fun y2=>cond (!y2) (some (.inl (wrap .i64 (a+1),b,c,d,e,()))) (some (.inr (a,c,d,e,())))) (some (.inr (a,c,d,e,())))) (some (.inr (a,c,d,e,())))) s.1 s.2.1 s.2.2.1 s.2.2.2.1 s.2.2.2.2.1
def a7k(s:Z31):Option Z71:=(fun(a b:Int)=>cond (decide (b<a)) ((a0m s.2.1 b).bind fun x1=>(a0d a4h (s.1,x1,s.2.1,a,b,())).bind fun w3=>some (.inl (w3.1,w3.2.1,w3.2.2.1,wrap .i64 (w3.2.2.2.1+1),()))) (some (.inr (s.1,())))) s.2.2.1 s.2.2.2.1
def a3B(x:LI):Option Int:=(a0d a7k (0,x,(x.length:Int),0,())).bind fun w4=>some w4.1
def b0F:FSem:=⟨[.v QL],[.v QI],a3B⟩
def f2G:Hints:=⟨[(58,[3,.sv 6 QL,7,8],[Qe 0 [3]]),(7474,[3,5,.sv 6 QL,7,8],[Qe 2 [3,.sv 6 QL,7,8]])],[],[]⟩
def a3C(x:Z18):Option Z31:=some (wrap .i64 ((wrap .i64 (8*(x.1.length:Int)))-x.2.1),x)
def c1Y:FSem:=⟨[.r false (.b Q19)],[.v QI],a3C⟩
def H90:Hints:=⟨[],[],[(1,[.p,.p,.q,.q,.v,.v,.p,.p,.q,.q,.x,.x])]⟩
def a1p(x:Z32):Option Z31:=(a0m x.1.1 (wrap .i64 (a06 x.2 8))).bind fun x1=>cond (decide ((wrap .i64 (7-(a09 x.2 8)))<0)) none (some (bits .u8 .and (a0v .u8 x1 (wrap .i64 (7-(a09 x.2 8)))) 1,x.1))
def c1Z:FSem:=⟨[.r false (.b Q19),.v QI],[.v QV],a1p⟩
def a5x(s:Z83):Option (Z83 ⊕ Z54):=cond (decide (s.2.2.1<s.2.1)) ((a1p (s.2.2.2.1,s.2.2.2.1.2.1)).bind fun y3=>some (.inl (bits .u64 .or (a0t .u64 s.1 1) (wrap .u64 y3.1),s.2.1,wrap .i64 (s.2.2.1+1),(y3.2.1,wrap .i64 (y3.2.2.1+1),y3.2.2.2),()))) (some (.inr (s.1,s.2.2.2.1,())))
def a0x(x:Z32):Option Z31:=cond (x.1.2.2.1 != 0) (some (0,x.1)) ((show Option Z74 from cond (decide (x.2<0)) (some (x.2,true,x.1,())) (some (x.2,decide (x.2 > 64),x.1,()))).bind fun z1=>cond z1.2.1 (some (0,z1.2.2.1.1,z1.2.2.1.2.1,1,z1.2.2.1.2.2.2)) ((a3C z1.2.2.1).bind fun y2=>cond (decide (z1.1 > y2.1)) (some (0,y2.2.1,y2.2.2.1,3,y2.2.2.2.2)) ((a0d a5x (0,z1.1,0,y2.2,())).bind fun w4=>some (w4.1,w4.2.1))))
def c3M:FSem:=⟨[.r false (.b Q19),.v QI],[.v QU],a0x⟩
def f2H:Hints:=⟨[(506,[.sv 5 QU,27,28,.box pinned Q19,Qp 0 pinned],[Qe 0 [.sv 5 QU,.box pinned Q19]])],[(14,[Qn [1,.sv 16 .bool,.box pinned Q19,Qp 0 pinned]])],[]⟩
def a0G(x:Z32):Option Z31:=(a0x (x.1,x.2)).bind fun y1=>(show Option Z87 from cond (y1.2.2.2.1 != 0) (some (x.2,y1.1,true,y1.2,())) (some (x.2,y1.1,x.2==0,y1.2,()))).bind fun z2=>cond z2.2.2.1 (some (0,z2.2.2.2.1)) (cond (decide ((wrap .i64 (64-z2.1))<0)) none (cond (decide ((wrap .i64 (64-z2.1))<0)) none (some (a0v .i64 (wrap .i64 (a0t .u64 z2.2.1 (wrap .i64 (64-z2.1)))) (wrap .i64 (64-z2.1)),z2.2.2.2.1))))
def c0b:FSem:=⟨[.r false (.b Q19),.v QI],[.v QI],a0G⟩
def f2I:Hints:=⟨[],[(14,[Qn [1,.sv 5 QU,.sv 17 .bool,.box pinned Q19]])],[]⟩
def a7l(s:(Int×c8S)):Option ((Int×c8S) ⊕ (Int×c8R)):=(fun(a:Int)(b:Z18)(c:a2H)=>cond (decide (a<s.2.1)) ((a0G (b,s.1)).bind fun y4=>cond (lim ((a01 c.2.2.2.2.2.1)+1)) (some (.inl (s.1,s.2.1,wrap .i64 (a+1),y4.2,(c.1,c.2.1,c.2.2.1,c.2.2.2.1,c.2.2.2.2.1,a02 c.2.2.2.2.2.1 [y4.1],c.2.2.2.2.2.2),()))) none) (some (.inr (s.1,c,b,())))) s.2.2.1 s.2.2.2.1 s.2.2.2.2.1
def b0G(x:d8d):Option (Bool×d8d):=(a0x (x.1,5)).bind fun y1=>(a0x (y1.2,4)).bind fun y2=>(a0x (y2.2,5)).bind fun y3=>(a0d a7l (wrap .i64 y3.1,wrap .i64 ((wrap .i64 y1.1)+1),0,y3.2,(x.2.1,x.2.2.1,x.2.2.2.1,wrap .i64 y2.1,x.2.2.2.2.2),())).bind fun w5=>(a3B w5.2.1.2.2.2.2.2.1).bind fun y6=>some (y6==w5.1,w5.2.2.1,w5.2.1)
def c8V:FSem:=⟨[.r false (.b Q19),.r false (.b Q66)],[.v .bool],b0G⟩
def f2J:Hints:=⟨[(250,[6,20,21,.box pinned Q19,.box 1000001 Q66,Qp 0 pinned,Qp 1 1000001],[Qe 0 [6,.box 1000001 Q66,.box pinned Q19,Qp 1 1000001]])],[],[(6,[.p,.p,.p,.r [26,1000001],.r [27,1000001],.p,.v,.w [30,1030,pinned],.q,.a [31,32,1000001],.x,.x,.x])]⟩
def a5W(s:c8S):Option (c8S ⊕ e2I):=(fun(a:Int)(b:Z18)(c:a2H)=>cond (decide (a<3)) ((a0G (b,8)).bind fun y6=>cond ((decide (0<=a))&&(decide (a<3))) (some (.inl (s.1,wrap .i64 (a+1),y6.2,(c.1,c.2.1,c.2.2.1,c.2.2.2.1,c.2.2.2.2.1,c.2.2.2.2.2.1,a07 c.2.2.2.2.2.2.1 (a00 a) y6.1,c.2.2.2.2.2.2.2),()))) none) (some (.inr (s.1,b,c,())))) s.2.1 s.2.2.1 s.2.2.2.1
def a8p(s:(Int×Bool×c8S)):Option ((Int×Bool×c8S) ⊕ (Int×Bool×c8R)):=(fun(a b:Int)(c:Z18)(d:a2H)=>cond (decide (b<a)) ((a0x (c,5)).bind fun y15=>(a0x (y15.2,4)).bind fun y16=>cond (lim ((a01 d.2.2.2.2.2.2.2.1)+1)) (some (.inl (s.1,s.2.1,a,wrap .u64 (b+1),y16.2,(d.1,d.2.1,d.2.2.1,d.2.2.2.1,d.2.2.2.2.1,d.2.2.2.2.2.1,d.2.2.2.2.2.2.1,a02 d.2.2.2.2.2.2.2.1 ([(wrap .i64 ((wrap .i64 y15.1)+1),wrap .i64 y16.1,())]:List (Int×Int×Unit)),d.2.2.2.2.2.2.2.2),()))) none) (some (.inr (s.1,s.2.1,d,c,())))) s.2.2.1 s.2.2.2.1 s.2.2.2.2.1 s.2.2.2.2.2.1
def a4n(x:Z18):Option (a2H×Int×Bool×Z18):=(a0x (x,3)).bind fun y1=>(a0x (y1.2,5)).bind fun y2=>(a0x (y2.2,5)).bind fun y3=>(show Option (Int×Bool×c8R)from(show Option (e2I ⊕ ((Int×Bool×c8R) ⊕ (Int×Bool×e2H)))from cond ((wrap .i64 y1.1)==2) ((a0x (y3.2,3)).bind fun y4=>some (Sum.inr (Sum.inl (wrap .i64 y3.1,true,(wrap .i64 y1.1,wrap .i64 y2.1,wrap .i64 y4.1,0,0,[],a03 3 0,[],[],(0,[],()),[],()),y4.2,())))) (cond ((wrap .i64 y1.1)==4) ((a0x (y3.2,10)).bind fun y5=>(a0d a5W (wrap .i64 y3.1,0,y5.2,(wrap .i64 y1.1,wrap .i64 y2.1,0,0,wrap .i64 ((wrap .i64 y5.1)+1),[],a03 3 0,[],[],(0,[],()),[],()),())).bind fun w7=>some (Sum.inl (w7.1,w7.2.1,w7.2.2.1,()))) (cond ((wrap .i64 y1.1)==3) (some (Sum.inl (wrap .i64 y3.1,y3.2,(wrap .i64 y1.1,wrap .i64 y2.1,0,0,0,[],a03 3 0,[],[],(0,[],()),[],()),()))) (cond ((wrap .i64 y1.1)==5) (some (Sum.inr (Sum.inr ((wrap .i64 y3.1,true,y3.2,(wrap .i64 y1.1,wrap .i64 y2.1,0,0,0,[],a03 3 0,[],[],(0,[],()),[],()),()))))) (some (Sum.inr (Sum.inl (wrap .i64 y3.1,true,(wrap .i64 y1.1,wrap .i64 y2.1,0,0,0,[],a03 3 0,[],[],(0,[],()),[],()),y3.2,())))))))).bind fun z8=>match z8 with |.inl a9=>((b0G (a9.2.1,a9.2.2.1)).bind fun y11=>some (a9.1,y11.1,y11.2.2,y11.2.1,())) |.inr b10=>(match b10 with |.inl a12=>some (a12.1,a12.2.1,a12.2.2.1,a12.2.2.2.1,()) |.inr b13=>((a0x (b13.2.2.1,2)).bind fun y14=>(a0d a8p (b13.1,b13.2.1,y14.1,0,y14.2,b13.2.2.2.1,())).bind fun w17=>some (w17.1,w17.2.1,w17.2.2.1,w17.2.2.2.1,())))).bind fun z18=>some (z18.2.2.1,z18.1,z18.2.1,z18.2.2.2.1)
def d1j:FSem:=⟨[.r false (.b Q19)],[.v (.pair QI (.pair QI (.pair QI (.pair QI (.pair QI (.pair QL (.pair (.arr 3 QI) (.pair (.list false Q5) Q32)))))))),.v QI,.v .bool],a4n⟩
def f2K:Hints:=⟨[(8106,[3,.sv 4 .bool,.sv 50 QU,.sv 51 QU,.box pinned Q19,.box 2 Q66,Qp 0 pinned,Qp 2 2],[Qe 7 [3,.sv 4 .bool,.box 2 Q66,.box pinned Q19,Qp 2 2]]),(129550,[3,38,.box pinned Q19,.box 2 Q66,Qp 0 pinned,Qp 2 2],[Qe 5 [3,.box pinned Q19,.box 2 Q66,Qp 0 pinned,Qp 2 2]])],[(63,[Qn [3,.sv 4 .bool,.box 2 Q66,.box pinned Q19,Qp 2 2]]),(2024,[Qn [3,.box pinned Q19,.box 2 Q66,Qp 0 pinned,Qp 2 2],Qe 0 [3,.sv 4 .bool,.box 2 Q66,.box pinned Q19,Qp 2 2],Qe 4 [3,.sv 4 .bool,.box pinned Q19,.box 2 Q66,Qp 0 pinned,Qp 2 2]])],[]⟩
def a8q(x:Int):Option Bool:=cond (decide (0<=x)) (some (decide (x<=25))) (some false)
def b2o:FSem:=⟨[.v QI],[.v .bool],a8q⟩
def a1H(s:Z83):Option (Z83 ⊕ Z54):=(fun(a b:Int)(c:Z18)=>cond (b==(wrap .i64 (8*(c.1.length:Int)))) (some (.inr (0,(c.1,c.2.1,3,c.2.2.2),()))) ((a1p (c,b)).bind fun y2=>cond (y2.1==1) (some (.inr (a,(y2.2.1,wrap .i64 (b+1),y2.2.2.2),()))) (cond (a==s.1) (some (.inr (0,(y2.2.1,y2.2.2.1,2,y2.2.2.2.2),()))) (some (.inl (s.1,wrap .i64 (a+1),wrap .i64 (b+1),y2.2,())))))) s.2.1 s.2.2.1 s.2.2.2.1
def a3r(x:Z32):Option Z31:=cond (x.1.2.2.1 != 0) (some (0,x.1)) ((a0d a1H (a1s x.2 0,0,x.1.2.1,x.1,())).bind fun w3=>some (w3.1,w3.2.1))
def c1f:FSem:=⟨[.r false (.b Q19),.v QI],[.v QI],a3r⟩
def f2L:Hints:=⟨[(62,[1,5,6,.box pinned Q19,Qp 0 pinned],[Qr [4,.box pinned Q19]])],[],[(4,[.p,.p,.q,.q,.v,.x])]⟩
def a5i(x:Int):Option Int:=cond (decide (x>=2147483648)) (some 0) (cond ((a09 x 2)==0) (some (wrap .i64 (wrap .u64 (a06 x 2)))) (some (wrap .i64 ((wrap .i64 (0-(wrap .i64 (wrap .u64 (a06 x 2)))))-1))))
def d1k:FSem:=⟨[.v QU],[.v QI],a5i⟩
def a5y(x:Z32):Option Z50:=(a3r (x.1,32)).bind fun y1=>(a0n y1.2).bind fun y2=>cond (y2.1 != 0) ((a0n y2.2).bind fun y3=>some (0,y3.1,y3.2)) (cond (decide ((wrap .u64 y1.1)<32)) ((a0x (y2.2,x.2)).bind fun y4=>cond (decide (x.2<0)) none ((a5i (wrap .u64 ((a0t .u64 (wrap .u64 y1.1) x.2)+y4.1))).bind fun y5=>(a0n y4.2).bind fun y6=>some (y5,y6.1,y6.2))) ((a0x (y2.2,32)).bind fun y7=>(a0n y7.2).bind fun y8=>cond (y8.1 != 0) ((a0n y8.2).bind fun y9=>some (0,y9.1,y9.2)) ((show Option Z74 from cond (decide (y7.1>=2147483648)) (some (y7.1,true,y8.2,())) (cond (decide (x.2<0)) none (some (y7.1,decide ((a0v .u64 y7.1 x.2)<32),y8.2,())))).bind fun z10=>cond z10.2.1 (some (0,2,z10.2.2.1)) ((a5i z10.1).bind fun y11=>some (y11,0,z10.2.2.1)))))
def d8v:FSem:=⟨[.r false (.b Q19),.v QI],[.v QI,.v QI],a5y⟩
def f2M:Hints:=⟨[],[(254,[Qn [.sv 8 QU,.sv 44 .bool,.box pinned Q19]])],[]⟩
def a2c(s:Z94):Option (Z94 ⊕ (Z67 ⊕ Z81)):=cond (decide (s.2.2.1<s.2.1)) ((a5y (s.2.2.2.2.1,s.1)).bind fun y5=>cond (y5.2.1 != 0) (some (.inr (Sum.inr ((y5.2.1,[],y5.2.2,()))))) (cond (lim ((a01 s.2.2.2.1)+1)) (some (.inl (s.1,s.2.1,wrap .i64 (s.2.2.1+1),a02 s.2.2.2.1 [y5.1],y5.2.2,()))) none)) (some (.inr (Sum.inl (s.2.2.2.1,s.2.2.2.2.1,()))))
def b0H(x:Z52):Option Z63:=(show Option Z87 from(a8q x.2.1).bind fun y1=>cond (!y1) (some (x.2.1,x.2.2,true,x.1,())) (cond (decide (x.2.2<0)) (some (x.2.1,x.2.2,true,x.1,())) (some (x.2.1,x.2.2,decide (x.2.2 > 4194304),x.1,())))).bind fun z2=>cond z2.2.2.1 (some ([],1,z2.2.2.2.1)) ((a0n z2.2.2.2.1).bind fun y3=>cond (y3.1 != 0) ((a0n y3.2).bind fun y4=>some ([],y4.1,y4.2)) ((a0d a2c (z2.1,z2.2.1,0,[],y3.2,())).bind fun w6=>match w6 with |.inl a7=>some (a7.1,0,a7.2.1) |.inr b8=>some (b8.2.1,b8.1,b8.2.2.1)))
def d8w:FSem:=⟨[.r false (.b Q19),.v QI,.v QI],[.o QI,.v QI],b0H⟩
def f2N:Hints:=⟨[(250,[1,27,28,.own 8 8 QI,.box pinned Q19,Qp 0 pinned],[Qe 0 [.own 8 8 QI,.box pinned Q19],Qr [7,.own 6 6 QI,.box pinned Q19]])],[(6,[Qn [1,2,.sv 21 .bool,.box pinned Q19,Qp 0 pinned]])],[]⟩
def b0I(s:(Int×Z94)):Option ((Int×Z94) ⊕ Z90):=(fun(a b c:Int)(d:LI)(e:Z18)=>cond (decide (c<b)) ((a0G (e,a)).bind fun y6=>cond (lim ((a01 d)+1)) (some (.inl (s.1,a,b,wrap .i64 (c+1),a02 d [y6.1],y6.2,()))) none) (some (.inr (s.1,a,d,e,())))) s.2.1 s.2.2.1 s.2.2.2.1 s.2.2.2.2.1 s.2.2.2.2.2.1
def a3t(x:Z32):Option (Int×Z63):=(a0x (x.1,5)).bind fun y1=>(a0n y1.2).bind fun y2=>cond (y2.1 != 0) ((a0n y2.2).bind fun y3=>some (0,[],y3.1,y3.2)) (cond (decide ((wrap .i64 y1.1)<=25)) ((b0H (y2.2,wrap .i64 y1.1,x.2)).bind fun y4=>some (wrap .i64 y1.1,y4.1,y4.2.1,y4.2.2)) (cond ((wrap .i64 y1.1) != 31) (some (0,[],2,y2.2)) ((a0x (y2.2,5)).bind fun y5=>(a0d b0I (wrap .i64 y1.1,wrap .i64 y5.1,x.2,0,[],y5.2,())).bind fun w7=>(a0n w7.2.2.2.1).bind fun y8=>cond (y8.1 != 0) ((a0n y8.2).bind fun y9=>some (0,[],y9.1,y9.2)) ((a3B w7.2.2.1).bind fun y10=>cond (y10 != w7.2.1) (some (0,[],2,y8.2)) (some (w7.1,w7.2.2.1,0,y8.2))))))
def d5n:FSem:=⟨[.r false (.b Q19),.v QI],[.v QI,.o QI,.v QI],a3t⟩
def f2O:Hints:=⟨[(2042,[7,10,37,38,.own 11 11 QI,.box pinned Q19,Qp 0 pinned],[Qe 0 [7,10,.own 11 11 QI,.box pinned Q19,Qp 0 pinned]])],[],[]⟩
def a3D(s:(Int×d7Y)):Option ((Int×d7Y) ⊕ ((LI×(Z6×Z92)) ⊕ (Int×(LI×Z92)))):=(fun(a:Int)(b c:LI)(d:Z18)(e f:Z6)=>cond (decide (a<s.1)) (cond ((decide (0<=a))&&(decide (a<(c.length:Int)))) ((a3t (d,a04 c (a00 a) 0)).bind fun y6=>cond (y6.2.2.1 != 0) (some (.inr (Sum.inr ((y6.2.2.1,[],(0,[],()),y6.2.2.2,()))))) (cond (lim ((a01 f.2.1)+1)) (cond (lim ((a01 b)+(a01 y6.2.1))) (some (.inl (s.1,wrap .i64 (a+1),a02 b y6.2.1,c,y6.2.2.2,e,(f.1,a02 f.2.1 [y6.1],f.2.2),()))) none) none)) none) (some (.inr (Sum.inl (b,e,f,d,()))))) s.2.1 s.2.2.1 s.2.2.2.1 s.2.2.2.2.1 s.2.2.2.2.2.1 s.2.2.2.2.2.2.1
def b1s(x:Z52):Option (Z6×Z63):=(b1n (x.2.1,x.2.2)).bind fun y1=>cond (!y1) (some ((0,[],()),[],1,x.1)) ((a0x (x.1,4)).bind fun y2=>(a0n y2.2).bind fun y3=>cond (y3.1 != 0) ((a0n y3.2).bind fun y4=>some ((0,[],()),[],y4.1,y4.2)) ((a8R (wrap .i64 y2.1,x.2.1,x.2.2)).bind fun y5=>cond ((y5.length:Int)==0) (some ((0,[],()),[],2,y3.2)) ((a0d a3D ((y5.length:Int),0,[],y5,y3.2,(0,[],()),(wrap .i64 y2.1,[],()),())).bind fun w7=>match w7 with |.inl a8=>some (a8.2.2.1,a8.1,0,a8.2.2.2.1) |.inr b9=>some (b9.2.2.1,b9.2.1,b9.1,b9.2.2.2.1))))
def d5o:FSem:=⟨[.r false (.b Q19),.v QI,.v QI],[.v Q13,.o QI,.v QI],b1s⟩
def f2P:Hints:=⟨[(4090,[43,44,.own 12 12 QI,.own 42 10 QI,.box pinned Q19,.box 6 Q13,.box 11 Q12,Qp 0 pinned,Qp 6 6,Qp 11 11],[Qe 0 [.own 12 12 QI,.box 6 Q13,.box 11 Q12,.box pinned Q19,Qp 6 6,Qp 11 11],Qr [8,.own 7 7 QI,.box 6 Q13,.box pinned Q19,Qp 6 6]])],[],[]⟩
def b3c(s:(Int×Int×Bool×d8l)):Option ((Int×Int×Bool×d8l) ⊕ (Int×Int×Bool×d8k)):=(fun(a:Int)(b:Bool)(c d:Int)(e:Z18)(f g:a2H)=>cond (decide (d<c)) ((a0G (e,a)).bind fun y7=>cond (lim ((a01 g.2.2.2.2.2.2.2.2.1)+1)) (some (.inl (s.1,a,b,c,wrap .i64 (d+1),y7.2,f,(g.1,g.2.1,g.2.2.1,g.2.2.2.1,g.2.2.2.2.1,g.2.2.2.2.2.1,g.2.2.2.2.2.2.1,g.2.2.2.2.2.2.2.1,a02 g.2.2.2.2.2.2.2.2.1 [y7.1],g.2.2.2.2.2.2.2.2.2),()))) none) (some (.inr (s.1,a,b,e,f,g,())))) s.2.1 s.2.2.1 s.2.2.2.1 s.2.2.2.2.1 s.2.2.2.2.2.1 s.2.2.2.2.2.2.1 s.2.2.2.2.2.2.2.1
def b4X(x:Z32):Option (a2H×Z31):=cond (decide (x.2<1)) (some ((0,0,0,0,0,[],a03 3 0,[],[],(0,[],()),[],()),1,x.1)) (cond (decide (x.2 > 4096)) (some ((0,0,0,0,0,[],a03 3 0,[],[],(0,[],()),[],()),1,x.1)) ((a0n x.1).bind fun y1=>cond (y1.1 != 0) (some ((0,0,0,0,0,[],a03 3 0,[],[],(0,[],()),[],()),y1.1,y1.2)) ((a4n y1.2).bind fun y2=>(a0n y2.2.2.2).bind fun y3=>cond (y3.1 != 0) (some ((0,0,0,0,0,[],a03 3 0,[],[],(0,[],()),[],()),y3.1,y3.2)) ((b4V (y2.1.1,y2.1,x.2)).bind fun y4=>cond (!y4) (some ((0,0,0,0,0,[],a03 3 0,[],[],(0,[],()),[],()),2,y3.2)) ((b0g (y2.1,x.2)).bind fun y5=>(a0d b3c (x.2,y2.2.1,y2.2.2.1,y5,0,y3.2,(0,0,0,0,0,[],a03 3 0,[],[],(0,[],()),[],()),y2.1,())).bind fun w8=>(a0n w8.2.2.2.1).bind fun y9=>cond (y9.1 != 0) (some ((0,0,0,0,0,[],a03 3 0,[],[],(0,[],()),[],()),y9.1,y9.2)) ((b0f w8.2.2.2.2.2.1.1).bind fun y10=>cond y10 ((b1s (y9.2,w8.1,(w8.2.2.2.2.2.1.2.2.2.2.2.2.2.2.1.length:Int))).bind fun y11=>cond (y11.2.2.1 != 0) (some ((0,0,0,0,0,[],a03 3 0,[],[],(0,[],()),[],()),y11.2.2.1,y11.2.2.2)) (cond (!w8.2.2.1) (some ((0,0,0,0,0,[],a03 3 0,[],[],(0,[],()),[],()),2,y11.2.2.2)) ((a3B w8.2.2.2.2.2.1.2.2.2.2.2.2.2.2.1).bind fun y12=>cond (y12 != w8.2.1) (some ((0,0,0,0,0,[],a03 3 0,[],[],(0,[],()),[],()),2,y11.2.2.2)) ((b2C ((w8.2.2.2.2.2.1.1,w8.2.2.2.2.2.1.2.1,w8.2.2.2.2.2.1.2.2.1,w8.2.2.2.2.2.1.2.2.2.1,w8.2.2.2.2.2.1.2.2.2.2.1,w8.2.2.2.2.2.1.2.2.2.2.2.1,w8.2.2.2.2.2.1.2.2.2.2.2.2.1,w8.2.2.2.2.2.1.2.2.2.2.2.2.2.1,w8.2.2.2.2.2.1.2.2.2.2.2.2.2.2.1,y11.1,y11.2.1,w8.2.2.2.2.2.1.2.2.2.2.2.2.2.2.2.2.2),w8.1)).bind fun y13=>cond (!y13) (some ((0,0,0,0,0,[],a03 3 0,[],[],(0,[],()),[],()),2,y11.2.2.2)) (some ((w8.2.2.2.2.2.1.1,w8.2.2.2.2.2.1.2.1,w8.2.2.2.2.2.1.2.2.1,w8.2.2.2.2.2.1.2.2.2.1,w8.2.2.2.2.2.1.2.2.2.2.1,w8.2.2.2.2.2.1.2.2.2.2.2.1,w8.2.2.2.2.2.1.2.2.2.2.2.2.1,w8.2.2.2.2.2.1.2.2.2.2.2.2.2.1,w8.2.2.2.2.2.1.2.2.2.2.2.2.2.2.1,y11.1,y11.2.1,w8.2.2.2.2.2.1.2.2.2.2.2.2.2.2.2.2.2),0,y11.2.2.2)))))) (cond (!w8.2.2.1) (some ((0,0,0,0,0,[],a03 3 0,[],[],(0,[],()),[],()),2,y9.2)) ((a3B w8.2.2.2.2.2.1.2.2.2.2.2.2.2.2.1).bind fun y14=>cond (y14 != w8.2.1) (some ((0,0,0,0,0,[],a03 3 0,[],[],(0,[],()),[],()),2,y9.2)) ((b2C (w8.2.2.2.2.2.1,w8.1)).bind fun y15=>cond (!y15) (some ((0,0,0,0,0,[],a03 3 0,[],[],(0,[],()),[],()),2,y9.2)) (some (w8.2.2.2.2.2.1,0,y9.2)))))))))))
def e0J:FSem:=⟨[.r false (.b Q19),.v QI],[.v Q68,.v QI],b4X⟩
def H89:Hints:=⟨[(1018,[1,8,.sv 9 .bool,47,48,.box pinned Q19,.box 4 Q68,.box 7 (.pair QI (.pair QI (.pair QI (.pair QI (.pair QI (.pair QL (.pair (.arr 3 QI) (.pair (.list false Q5) (.pair (.list true QI) Q26))))))))),Qp 0 pinned,Qp 4 4,Qp 7 7],[Qe 0 [1,8,.sv 9 .bool,.box pinned Q19,.box 4 Q68,.box 7 (.pair QI (.pair QI (.pair QI (.pair QI (.pair QI (.pair QL (.pair (.arr 3 QI) (.pair (.list false Q5) (.pair (.list true QI) Q26))))))))),Qp 0 pinned,Qp 4 4,Qp 7 7]])],[],[(14,[.r [7,50],.r [7,51],.p,.v,.w [54,1054,pinned],.q,.x,.x,.x])]⟩
def a2k(s:Z70):Option (Z70 ⊕ (Z54 ⊕ Z37)):=cond (decide (s.2.1<s.1)) ((a1p (s.2.2.1,s.2.1)).bind fun y1=>cond (y1.1==1) (some (.inr (Sum.inr (((y1.2.1,y1.2.2.1,2,y1.2.2.2.2),()))))) (some (.inl (s.1,wrap .i64 (s.2.1+1),y1.2,())))) (some (.inr (Sum.inl (s.1,s.2.2.1,()))))
def a4u(x:Z18):Option Z18:=cond (x.2.2.1 != 0) (some x) ((a0d a2k (wrap .i64 ((wrap .i64 (a06 (wrap .i64 (x.2.1+7)) 8))*8),x.2.1,x,())).bind fun w2=>match w2 with |.inl a3=>some (a3.2.1.1,a3.1,a3.2.1.2.2) |.inr b4=>some b4.1)
end Go.Ab
namespace Go.Ab
open IntKind(wrap)
open Go.Proofs
set_option maxRecDepth 100000
set_option linter.unusedVariables false
def c1g:FSem:=⟨[.r false (.b Q19)],[],a4u⟩
def H91:Hints:=⟨[(58,[2,3,.box pinned Q19,Qp 0 pinned],[Qe 0 [2,.box pinned Q19,Qp 0 pinned],Qr [.box pinned Q19]])],[],[]⟩
def a3V(s:(Int×d8n)):Option ((Int×d8n) ⊕ (e2K ⊕ (Int×Int×b2R))):=(fun(a:Int)(b c:a2Q)(d:Z18)=>cond (decide (a<s.2.1)) ((b4X (d,c.2.1)).bind fun y7=>cond (y7.2.1 != 0) (some (.inr (Sum.inr ((0,2,(0,0,(0,0,0,()),[],[],()),()))))) (cond (lim ((a01 c.2.2.2.2.1)+1)) (some (.inl (s.1,s.2.1,wrap .i64 (a+1),b,(c.1,c.2.1,c.2.2.1,c.2.2.2.1,a02 c.2.2.2.2.1 ([y7.1]:List a2H),c.2.2.2.2.2),y7.2.2,()))) none)) (some (.inr (Sum.inl (s.1,b,c,d,()))))) s.2.2.1 s.2.2.2.1 s.2.2.2.2.1 s.2.2.2.2.2.1
def b3d(x:LI):Option (a2Q×Int×Int):=(a9w x).bind fun y1=>cond (y1.2.2.2 != 0) (some ((0,0,(0,0,0,()),[],[],()),0,y1.2.2.2)) (cond (decide ((x.length:Int)<(wrap .i64 ((wrap .i64 (y1.2.1+y1.2.2.1))+2)))) (some ((0,0,(0,0,0,()),[],[],()),0,3)) (cond ((decide (0<=(wrap .i64 (y1.2.1+y1.2.2.1))))&&(decide ((wrap .i64 (y1.2.1+y1.2.2.1))<=(x.length:Int)))) ((b0E (a05 (a00 (wrap .i64 (y1.2.1+y1.2.2.1))) x)).bind fun y2=>(a0m x (wrap .i64 (y1.2.1+y1.2.2.1))).bind fun x3=>(a0m x (wrap .i64 ((wrap .i64 (y1.2.1+y1.2.2.1))+1))).bind fun x4=>cond (y2 != (bits .u16 .or (a0t .u16 (wrap .u16 x3) 8) (wrap .u16 x4))) (some ((0,0,(0,0,0,()),[],[],()),0,5)) (cond ((decide (0<=(wrap .i64 (y1.2.1+y1.2.2.1))))&&(decide ((wrap .i64 (y1.2.1+y1.2.2.1))<=(x.length:Int)))) (cond ((decide (0<=y1.2.1))&&(decide (y1.2.1<=((a00 (wrap .i64 (y1.2.1+y1.2.2.1)):Nat):Int)))) ((b5N (a08 (a00 y1.2.1) (a05 (a00 (wrap .i64 (y1.2.1+y1.2.2.1))) x))).bind fun y5=>(a0d a3V (wrap .i64 (y1.2.1+y1.2.2.1),y1.1.2.2.1.2.1,0,(0,0,(0,0,0,()),[],[],()),y1.1,y5,())).bind fun w8=>match w8 with |.inl a9=>((a3C a9.2.2.2.1).bind fun y11=>cond (decide (y11.1>=8)) (some ((0,0,(0,0,0,()),[],[],()),0,2)) ((a4u y11.2).bind fun y12=>(a0n y12).bind fun y13=>cond (y13.1 != 0) (some ((0,0,(0,0,0,()),[],[],()),0,2)) ((b1r a9.2.2.1).bind fun y14=>cond (!y14) (some ((0,0,(0,0,0,()),[],[],()),0,2)) (some (a9.2.2.1,wrap .i64 (a9.1+2),0))))) |.inr b10=>some (b10.2.2.1,b10.1,b10.2.1)) none) none)) none))
def d3i:FSem:=⟨[.v QB],[.v Q90,.v QI,.v QI],b3d⟩
def H41:Hints:=⟨[(2042,[9,59,60,.box 2 Q90,.box 5 Q89,.box 1056 Q19,Qp 2 2,Qp 5 5,Qp 10 1056],[Qe 0 [9,.box 2 Q90,.box 5 Q89,.box 1056 Q19,Qp 2 2,Qp 5 5,Qp 10 1056],Qr [3,4,.box 2 Q90,Qp 2 2]])],[],[(7,[.v,.v,.v,.v,.v,.v,.v,.v,.v,.v,.v,.v,.v,.v,.v,.v,.v,.x])]⟩
def a5X(x:(LI×(Z95×Int×Int×Int))):Option (a2Q×Z30):=(a0m x.2.1.2.1 x.2.2.1).bind fun x1=>cond (decide ((wrap .i64 ((x.1.length:Int)-x.2.2.2.1))<x1)) (some ((0,0,(0,0,0,()),[],[],()),(0,([]:(List LI)),()),3)) (cond ((decide (0<=(wrap .i64 (x.2.2.2.1+x1))))&&(decide ((wrap .i64 (x.2.2.2.1+x1))<=(x.1.length:Int)))) (cond ((decide (0<=x.2.2.2.1))&&(decide (x.2.2.2.1<=((a00 (wrap .i64 (x.2.2.2.1+x1)):Nat):Int)))) ((b3d (a08 (a00 x.2.2.2.1) (a05 (a00 (wrap .i64 (x.2.2.2.1+x1))) x.1))).bind fun y2=>cond (y2.2.2 != 0) (some ((0,0,(0,0,0,()),[],[],()),(0,([]:(List LI)),()),y2.2.2)) ((show Option (Bool×a2Q×d8h)from cond (decide (y2.2.1<x1)) (some (true,(0,0,(0,0,0,()),[],[],()),(0,([]:(List LI)),()),y2.1,())) (cond (!(eqT Q14 y2.1.2.2.1 x.2.1.1)) (some (true,(0,0,(0,0,0,()),[],[],()),(0,([]:(List LI)),()),y2.1,())) (cond (y2.1.1 != x.2.2.2.2) (some (true,(0,0,(0,0,0,()),[],[],()),(0,([]:(List LI)),()),y2.1,())) ((a0m x.2.1.2.2.1 x.2.2.1).bind fun x3=>some (y2.1.2.1 != x3,(0,0,(0,0,0,()),[],[],()),(0,([]:(List LI)),()),y2.1,()))))).bind fun z4=>cond z4.1 (some ((0,0,(0,0,0,()),[],[],()),(0,([]:(List LI)),()),2)) ((a4m z4.2.2.2.1).bind fun y5=>cond (y5.2 != 0) (some ((0,0,(0,0,0,()),[],[],()),(0,([]:(List LI)),()),y5.2)) (some (z4.2.2.2.1,y5.1,0))))) none) none)
def c5E:FSem:=⟨[.v QB,.v Q38,.v QI,.v QI,.v QI],[.v Q90,.v Q18,.v QI],a5X⟩
def H16:Hints:=⟨[],[(126,[Qn [.sv 72 .bool,.box 10 Q90,.box 11 Q18,.box 14 Q90,Qp 10 10,Qp 11 11,Qp 14 14]])],[(7,[.v,.v,.x,.x,.q,.q,.v,.v,.x,.x,.x,.q,.q,.v,.x,.x,.x,.q,.q,.v,.v,.v,.v,.v,.x,.x]),(12,[.q,.r [17,86],.w [0,10],.x,.x])]⟩
def a7m(x:(Int×Int)):Option (Int×Int):=some (wrap .u64 ((wrap .u64 ((wrap .u64 ((a0v .u64 x.1 32)*(a0v .u64 x.2 32)))+(a0v .u64 (wrap .u64 ((wrap .u64 ((a0v .u64 x.1 32)*(bits .u64 .and x.2 4294967295)))+(a0v .u64 (wrap .u64 ((bits .u64 .and x.1 4294967295)*(bits .u64 .and x.2 4294967295))) 32))) 32)))+(a0v .u64 (wrap .u64 ((bits .u64 .and (wrap .u64 ((wrap .u64 ((a0v .u64 x.1 32)*(bits .u64 .and x.2 4294967295)))+(a0v .u64 (wrap .u64 ((bits .u64 .and x.1 4294967295)*(bits .u64 .and x.2 4294967295))) 32))) 4294967295)+(wrap .u64 ((bits .u64 .and x.1 4294967295)*(a0v .u64 x.2 32))))) 32)),wrap .u64 (x.1*x.2))
def c3N:FSem:=⟨[.v QU,.v QU],[.v QU,.v QU],a7m⟩
def b1c(x:(Int×Int×Int)):Option (Int×Int):=cond (decide (x.2.2.toNat<=1)) (some ((((x.1.toNat+x.2.1.toNat+x.2.2.toNat)%18446744073709551616:Nat):Int),(((x.1.toNat+x.2.1.toNat+x.2.2.toNat) / 18446744073709551616:Nat):Int))) none
def c3O:FSem:=⟨[.v QU,.v QU,.v QU],[.v QU,.v QU],b1c⟩
def e7c:Hints:=⟨[],[(3,[Qn [.sv 0 QU,2]]),(7,[Qn [.sv 0 QU,2]]),(15,[Qn [.sv 0 QU,2]])],[]⟩
def b5x(x:Int):Option Int:=a1c (a1d [] [] 5 0) e7c Tryz.f257 [.v (.int .u64)] [.v (.int .i64)] x
def c3P:FSem:=⟨[.v QU],[.v QI],b5x⟩
def a5j(x:Int):Option Int:=(b5x x).bind fun y1=>some (wrap .i64 (64-y1))
def b5n:FSem:=⟨[.v QU],[.v QI],a5j⟩
def a3f(s:Z93):Option (Z93 ⊕ Z85):=(show Option (Z93 ⊕ Z85)from cond (decide (s.2.2.2.2.2.2.2.1>=4294967296)) (some (Sum.inl (s.1,s.2.1,s.2.2.1,s.2.2.2.1,s.2.2.2.2.1,s.2.2.2.2.2.1,s.2.2.2.2.2.2.1,s.2.2.2.2.2.2.2.1,s.2.2.2.2.2.2.2.2.1,()))) (cond (decide ((wrap .u64 (s.2.2.2.2.2.2.2.1*s.2.2.2.1)) > (wrap .u64 ((wrap .u64 (4294967296*s.2.2.2.2.2.2.2.2.1))+s.2.2.2.2.2.1)))) (some (Sum.inl (s.1,s.2.1,s.2.2.1,s.2.2.2.1,s.2.2.2.2.1,s.2.2.2.2.2.1,s.2.2.2.2.2.2.1,s.2.2.2.2.2.2.2.1,s.2.2.2.2.2.2.2.2.1,()))) (some (Sum.inr ((s.1,s.2.1,s.2.2.1,s.2.2.2.1,s.2.2.2.2.1,s.2.2.2.2.2.1,s.2.2.2.2.2.2.1,s.2.2.2.2.2.2.2.1,())))))).bind fun z2=>match z2 with |.inl a3=>(cond (decide ((wrap .u64 (a3.2.2.2.2.2.2.2.2.1+a3.2.2.1))>=4294967296)) (some (.inr (a3.1,a3.2.1,a3.2.2.1,a3.2.2.2.1,a3.2.2.2.2.1,a3.2.2.2.2.2.1,a3.2.2.2.2.2.2.1,wrap .u64 (a3.2.2.2.2.2.2.2.1-1),()))) (some (.inl (a3.1,a3.2.1,a3.2.2.1,a3.2.2.2.1,a3.2.2.2.2.1,a3.2.2.2.2.2.1,a3.2.2.2.2.2.2.1,wrap .u64 (a3.2.2.2.2.2.2.2.1-1),wrap .u64 (a3.2.2.2.2.2.2.2.2.1+a3.2.2.1),())))) |.inr b4=>some (.inr (b4.1,b4.2.1,b4.2.2.1,b4.2.2.2.1,b4.2.2.2.2.1,b4.2.2.2.2.2.1,b4.2.2.2.2.2.2.1,b4.2.2.2.2.2.2.2.1,()))
def a3g(s:Z93):Option (Z93 ⊕ Z56):=(show Option (Z93 ⊕ Z56)from cond (decide (s.2.2.2.2.2.2.2.2.1>=4294967296)) (some (Sum.inl (s.1,s.2.1,s.2.2.1,s.2.2.2.1,s.2.2.2.2.1,s.2.2.2.2.2.1,s.2.2.2.2.2.2.1,s.2.2.2.2.2.2.2.1,s.2.2.2.2.2.2.2.2.1,()))) (cond (decide ((wrap .u64 (s.2.2.2.2.2.2.2.2.1*s.2.2.2.1)) > (wrap .u64 ((wrap .u64 (4294967296*s.2.2.2.2.2.2.1))+s.2.2.2.2.1)))) (some (Sum.inl (s.1,s.2.1,s.2.2.1,s.2.2.2.1,s.2.2.2.2.1,s.2.2.2.2.2.1,s.2.2.2.2.2.2.1,s.2.2.2.2.2.2.2.1,s.2.2.2.2.2.2.2.2.1,()))) (some (Sum.inr ((s.1,s.2.1,s.2.2.2.2.1,s.2.2.2.2.2.1,s.2.2.2.2.2.2.2.1,s.2.2.2.2.2.2.2.2.1,())))))).bind fun z6=>match z6 with |.inl a7=>(cond (decide ((wrap .u64 (a7.2.2.2.2.2.2.1+a7.2.2.1))>=4294967296)) (some (.inr (a7.1,a7.2.1,a7.2.2.2.2.1,a7.2.2.2.2.2.1,a7.2.2.2.2.2.2.2.1,wrap .u64 (a7.2.2.2.2.2.2.2.2.1-1),()))) (some (.inl (a7.1,a7.2.1,a7.2.2.1,a7.2.2.2.1,a7.2.2.2.2.1,a7.2.2.2.2.2.1,wrap .u64 (a7.2.2.2.2.2.2.1+a7.2.2.1),a7.2.2.2.2.2.2.2.1,wrap .u64 (a7.2.2.2.2.2.2.2.2.1-1),())))) |.inr b8=>some (.inr (b8.1,b8.2.1,b8.2.2.1,b8.2.2.2.1,b8.2.2.2.2.1,b8.2.2.2.2.2.1,()))
def a4i(x:(Int×Int×Int)):Option (Int×Int):=cond (x.2.2==0) none (cond (decide (x.2.2<=x.1)) none (cond (x.1==0) (cond (x.2.2==0) none (cond (x.2.2==0) none (some (wrap .u64 (a06 x.2.1 x.2.2),a09 x.2.1 x.2.2)))) ((a5j x.2.2).bind fun y1=>cond (decide ((wrap .u64 y1)<0)) none (cond (decide ((wrap .u64 y1)<0)) none (cond (decide ((wrap .u64 (64-(wrap .u64 y1)))<0)) none (cond (decide ((wrap .u64 y1)<0)) none (cond ((a0v .u64 (a0t .u64 x.2.2 (wrap .u64 y1)) 32)==0) none ((a0d a3f (a0t .u64 x.2.2 (wrap .u64 y1),wrap .u64 y1,a0v .u64 (a0t .u64 x.2.2 (wrap .u64 y1)) 32,bits .u64 .and (a0t .u64 x.2.2 (wrap .u64 y1)) 4294967295,bits .u64 .or (a0t .u64 x.1 (wrap .u64 y1)) (a0v .u64 x.2.1 (wrap .u64 (64-(wrap .u64 y1)))),a0v .u64 (a0t .u64 x.2.1 (wrap .u64 y1)) 32,bits .u64 .and (a0t .u64 x.2.1 (wrap .u64 y1)) 4294967295,wrap .u64 (a06 (bits .u64 .or (a0t .u64 x.1 (wrap .u64 y1)) (a0v .u64 x.2.1 (wrap .u64 (64-(wrap .u64 y1))))) (a0v .u64 (a0t .u64 x.2.2 (wrap .u64 y1)) 32)),wrap .u64 ((bits .u64 .or (a0t .u64 x.1 (wrap .u64 y1)) (a0v .u64 x.2.1 (wrap .u64 (64-(wrap .u64 y1)))))-(wrap .u64 ((wrap .u64 (a06 (bits .u64 .or (a0t .u64 x.1 (wrap .u64 y1)) (a0v .u64 x.2.1 (wrap .u64 (64-(wrap .u64 y1))))) (a0v .u64 (a0t .u64 x.2.2 (wrap .u64 y1)) 32)))*(a0v .u64 (a0t .u64 x.2.2 (wrap .u64 y1)) 32)))),())).bind fun w5=>cond (w5.2.2.1==0) none ((a0d a3g (w5.1,w5.2.1,w5.2.2.1,w5.2.2.2.1,w5.2.2.2.2.2.2.1,w5.2.2.2.2.2.2.2.1,wrap .u64 ((wrap .u64 ((wrap .u64 ((wrap .u64 (w5.2.2.2.2.1*4294967296))+w5.2.2.2.2.2.1))-(wrap .u64 (w5.2.2.2.2.2.2.2.1*w5.1))))-(wrap .u64 ((wrap .u64 (a06 (wrap .u64 ((wrap .u64 ((wrap .u64 (w5.2.2.2.2.1*4294967296))+w5.2.2.2.2.2.1))-(wrap .u64 (w5.2.2.2.2.2.2.2.1*w5.1)))) w5.2.2.1))*w5.2.2.1))),wrap .u64 ((wrap .u64 ((wrap .u64 (w5.2.2.2.2.1*4294967296))+w5.2.2.2.2.2.1))-(wrap .u64 (w5.2.2.2.2.2.2.2.1*w5.1))),wrap .u64 (a06 (wrap .u64 ((wrap .u64 ((wrap .u64 (w5.2.2.2.2.1*4294967296))+w5.2.2.2.2.2.1))-(wrap .u64 (w5.2.2.2.2.2.2.2.1*w5.1)))) w5.2.2.1),())).bind fun w9=>cond (decide (w9.2.1<0)) none (some (wrap .u64 ((wrap .u64 (w9.2.2.2.1*4294967296))+w9.2.2.2.2.2.1),a0v .u64 (wrap .u64 ((wrap .u64 ((wrap .u64 (w9.2.2.2.2.1*4294967296))+w9.2.2.1))-(wrap .u64 (w9.2.2.2.2.2.1*w9.1)))) w9.2.1)))))))))))
def c3Q:FSem:=⟨[.v QU,.v QU,.v QU],[.v QU,.v QU],a4i⟩
def f2Q:Hints:=⟨[(131068,[.sv 2 QU,.sv 8 QU,.sv 9 QU,.sv 10 QU,.sv 11 QU,.sv 13 QU,.sv 14 QU,.sv 15 QU,.sv 16 QU],[Qe 0 [.sv 2 QU,.sv 8 QU,.sv 9 QU,.sv 10 QU,.sv 11 QU,.sv 13 QU,.sv 14 QU,.sv 15 QU]]),(2097148,[.sv 2 QU,.sv 8 QU,.sv 9 QU,.sv 10 QU,.sv 14 QU,.sv 15 QU,.sv 16 QU,.sv 17 QU,.sv 18 QU],[Qe 2 [.sv 2 QU,.sv 8 QU,.sv 14 QU,.sv 15 QU,.sv 17 QU,.sv 18 QU]])],[(262136,[Qn [.sv 2 QU,.sv 8 QU,.sv 9 QU,.sv 10 QU,.sv 11 QU,.sv 13 QU,.sv 14 QU,.sv 15 QU,.sv 16 QU],Qe 0 [.sv 2 QU,.sv 8 QU,.sv 9 QU,.sv 10 QU,.sv 11 QU,.sv 13 QU,.sv 14 QU,.sv 15 QU]]),(4194296,[Qn [.sv 2 QU,.sv 8 QU,.sv 9 QU,.sv 10 QU,.sv 14 QU,.sv 15 QU,.sv 16 QU,.sv 17 QU,.sv 18 QU],Qe 2 [.sv 2 QU,.sv 8 QU,.sv 14 QU,.sv 15 QU,.sv 17 QU,.sv 18 QU]])],[(6,[.v,.v,.v,.v,.v,.v,.v,.x])]⟩
def b1d(x:(Int×Int×Int)):Option Int:=cond (x.2.2==0) none ((a4i (a09 x.1 x.2.2,x.2.1,x.2.2)).bind fun y1=>some y1.2)
def c3R:FSem:=⟨[.v QU,.v QU,.v QU],[.v QU],b1d⟩
def a7e(x:(Int×Int×Int)):Option Int:=(a7m (x.1,x.2.1)).bind fun y1=>(b1c (y1.2,x.2.2,0)).bind fun y2=>(b1d (wrap .u64 (y1.1+y2.2),y2.1,2305843009213693951)).bind fun y3=>some y3
def d5p:FSem:=⟨[.v QU,.v QU,.v QU],[.v QU],a7e⟩
def a9x(s:Z31):Option Z71:=(fun(a b:Int)=>cond (decide (b<a)) ((a0m s.2.1 b).bind fun x1=>(a7e (s.1,1000003,wrap .u64 ((wrap .u64 x1)+1))).bind fun y2=>some (.inl (y2,s.2.1,a,wrap .i64 (b+1),()))) (some (.inr (s.1,())))) s.2.2.1 s.2.2.2.1
def a7L(x:LI):Option Int:=(a0d a9x (0,x,(x.length:Int),0,())).bind fun w3=>some w3.1
def c2a:FSem:=⟨[.v QB],[.v QU],a7L⟩
def H14:Hints:=⟨[(58,[.sv 3 QU,.sv 6 QB,7,8],[Qe 0 [.sv 3 QU]])],[],[]⟩
def a8r(s:(Int×(Int×(Int×((List LI)×Z89))))):Option ((Int×(Int×(Int×((List LI)×Z89)))) ⊕ Z89):=(fun(a:Int)(b:List LI)(c d:Int)(e:LI)(f:Z15)=>cond (decide (d<c)) ((a0m b d).bind fun x3=>(a0m x3 s.1).bind fun x4=>cond (lim ((a01 e)+1)) (some (.inl (s.1,s.2.1,a,b,c,wrap .i64 (d+1),a02 e [x4],f,()))) none) (some (.inr (s.2.1,a,e,f,())))) s.2.2.1 s.2.2.2.1 s.2.2.2.2.1 s.2.2.2.2.2.1 s.2.2.2.2.2.2.1 s.2.2.2.2.2.2.2.1
def a8s(s:Z89):Option (Z89 ⊕ (LI×Unit)):=cond (decide (s.2.1<s.1)) ((a0d a8r (s.2.1,s.1,s.2.1,s.2.2.2.1.2.1,(s.2.2.2.1.2.1.length:Int),0,s.2.2.1,s.2.2.2.1,())).bind fun w5=>some (.inl (w5.1,wrap .i64 (w5.2.1+1),w5.2.2.1,w5.2.2.2.1,()))) (some (.inr (s.2.2.1,())))
def a6r(x:Z15):Option LI:=(a7d x).bind fun y1=>cond (!y1) (some []) ((a5E x).bind fun y2=>(a0d a8s (y2,0,[],x,())).bind fun w6=>some w6.1)
def d1l:FSem:=⟨[.v Q18],[.o QI],a6r⟩
def H22:Hints:=⟨[(122,[11,12,.own 3 3 QI,.vp 1 Q18],[Qe 0 [.own 3 3 QI]]),(31334,[4,11,12,.sv 16 (.list false QL),17,18,.own 3 3 QI,.vp 1 Q18],[Qe 2 [11,12,.own 3 3 QI,.vp 1 Q18]])],[],[]⟩
def a5Y(s:(Int×(Int×(Int×(LI×Z53))))):Option ((Int×(Int×(Int×(LI×Z53)))) ⊕ (Int×Z62)):=(fun(a:Int)(b:LI)(c d e f:Int)(g:LI)=>cond (decide (f<e)) (cond (decide ((wrap .i64 (8*f))<0)) none (cond (lim ((a01 g)+1)) (some (.inl (s.1,s.2.1,a,b,c,d,e,wrap .i64 (f+1),a02 g [wrap .u8 (bits .i64 .and (a0v .i64 a (wrap .i64 (8*f))) 255)],()))) none)) (some (.inr (s.1,s.2.1,b,c,d,g,())))) s.2.2.1 s.2.2.2.1 s.2.2.2.2.1 s.2.2.2.2.2.1 s.2.2.2.2.2.2.1 s.2.2.2.2.2.2.2.1 s.2.2.2.2.2.2.2.2.1
def a8t(s:(Int×Z62)):Option ((Int×Z62) ⊕ Z48):=(fun(a:LI)(b c:Int)(d:LI)=>cond (decide (c<b)) ((a0m a c).bind fun x2=>(a5h (x2,s.1)).bind fun y3=>cond (!y3) (some (.inr (Sum.inr ((6,[],()))))) ((a0d a5Y (s.1,s.2.1,x2,a,b,c,s.2.1,0,d,())).bind fun w4=>some (.inl (w4.1,w4.2.1,w4.2.2.1,w4.2.2.2.1,wrap .i64 (w4.2.2.2.2.1+1),w4.2.2.2.2.2.1,())))) (some (.inr (Sum.inl (d,()))))) s.2.2.1 s.2.2.2.1 s.2.2.2.2.1 s.2.2.2.2.2.1
def b1N(x:(LI×Int)):Option (LI×Int):=(show Option Z22 from cond (decide (x.2<4)) (some (x.1,x.2,true,())) (some (x.1,x.2,decide (x.2 > 24),()))).bind fun z1=>cond z1.2.2.1 (some ([],1)) ((a0d a8t (z1.2.1,wrap .i64 (a06 (wrap .i64 (z1.2.1+7)) 8),z1.1,(z1.1.length:Int),0,[],())).bind fun w5=>match w5 with |.inl a6=>some (a6.1,0) |.inr b7=>some (b7.2.1,b7.1))
def d1m:FSem:=⟨[.v QL,.v QI],[.o QV,.v QI],b1N⟩
def H96:Hints:=⟨[(250,[1,6,.sv 20 QL,21,22,.own 7 7 QV],[Qe 0 [.own 7 7 QV],Qr [5,.own 4 4 QV]]),(128206,[1,6,9,.sv 20 QL,21,22,30,31,.own 7 7 QV],[Qe 2 [1,6,.sv 20 QL,21,22,.own 7 7 QV]])],[(6,[Qn [.sv 0 QL,1,.sv 16 .bool]])],[]⟩
def b3e(x:Z15):Option (LI×Int):=(a7d x).bind fun y1=>cond (!y1) (some ([],1)) ((a6r x).bind fun y2=>(b1N (y2,x.1)).bind fun y3=>some (y3.1,y3.2))
def d3j:FSem:=⟨[.v Q18],[.o QV,.v QI],b3e⟩
def H43:Hints:=⟨[],[],[(3,[.v,.q,.v,.v,.x,.q,.q,.x,.x])]⟩
def a9y(s:Z8):Option (Z8 ⊕ (Int×Unit)):=(fun(a b c:Int)=>cond (decide (a > 0)) ((show Option Z8 from cond ((a09 a 2)==1) ((a7e (b,c,0)).bind fun y1=>some (a,y1,c,())) (some (a,b,c,()))).bind fun z2=>(a7e (z2.2.2.1,z2.2.2.1,0)).bind fun y3=>some (.inl (wrap .i64 (a06 z2.1 2),z2.2.1,y3,()))) (some (.inr (b,())))) s.1 s.2.1 s.2.2.1
def b3f(x:Int):Option Int:=(a0d a9y (a1s x 0,1,1000003,())).bind fun w4=>some w4.1
def d3k:FSem:=⟨[.v QI],[.v QU],b3f⟩
def H97:Hints:=⟨[(58,[0,.sv 3 QU,.sv 4 QU],[Qe 0 [.sv 3 QU]])],[(932,[Qn [0,.sv 3 QU,.sv 4 QU]])],[]⟩
def b4x(x:(Int×Int×Int)):Option (Int×Bool):=(show Option Z27 from cond (decide (x.1>=2305843009213693951)) (some (x.1,x.2.1,x.2.2,true,())) (cond (decide (x.2.1>=2305843009213693951)) (some (x.1,x.2.1,x.2.2,true,())) (some (x.1,x.2.1,x.2.2,decide (x.2.2<0),())))).bind fun z1=>cond z1.2.2.2.1 (some (0,false)) ((b3f z1.2.2.1).bind fun y2=>(a7e (z1.1,y2,z1.2.1)).bind fun y3=>some (y3,true))
def d5q:FSem:=⟨[.v QU,.v QU,.v QI],[.v QU,.v .bool],b4x⟩
def H44:Hints:=⟨[],[(6,[Qn [.sv 0 QU,.sv 1 QU,2,.sv 17 .bool]])],[]⟩
def b0J(x:(Int×Z15)):Option (Int×Bool):=(b3e x.2).bind fun y1=>cond (y1.2 != 0) (some (0,false)) ((a7L y1.1).bind fun y2=>(b4x (x.1,y2,(y1.1.length:Int))).bind fun y3=>some (y3.1,y3.2))
def b3W:FSem:=⟨[.v QU,.v Q18],[.v QU,.v .bool],b0J⟩
def a3W(s:(LI×(Int×(LI×(Int×Int×a5S×Z95×c5D))))):Option ((LI×(Int×(LI×(Int×Int×a5S×Z95×c5D)))) ⊕ ((LI×(Int×a5S×Z95×c5D)) ⊕ (Int×c5D))):=(fun(a:Int)(b:LI)(c d:Int)(e:a5S)(f:Z95)(g:a5S)=>cond (decide (d<c)) ((a0m b d).bind fun x2=>(a5X (s.1,f,d,a,g.2.1)).bind fun y3=>cond (y3.2.2 != 0) (some (.inr (Sum.inr ((y3.2.2,((0,0,0,()),0,0,[],[],()),()))))) ((b0J (g.2.2.1,y3.2.1)).bind fun y4=>cond (lim ((a01 g.2.2.2.1)+1)) (cond (lim ((a01 g.2.2.2.2.1)+1)) (some (.inl (s.1,wrap .i64 (a+x2),b,c,wrap .i64 (d+1),e,f,(g.1,wrap .i64 (g.2.1+y3.1.2.1),y4.1,a02 g.2.2.2.1 ([(g.2.1,wrap .i64 (a-f.2.2.2.2.2.1),())]:List (Int×Int×Unit)),a02 g.2.2.2.2.1 ([y3.1]:List a2Q),g.2.2.2.2.2),()))) none) none)) (some (.inr (Sum.inl (s.1,a,e,f,g,()))))) s.2.1 s.2.2.1 s.2.2.2.1 s.2.2.2.2.1 s.2.2.2.2.2.1 s.2.2.2.2.2.2.1 s.2.2.2.2.2.2.2.1
def a7M(x:LI):Option c5C:=(a6B x).bind fun y1=>cond (y1.2 != 0) (some (((0,0,0,()),0,0,[],[],()),y1.2)) ((a0d a3W (x,y1.1.2.2.2.2.2.1,y1.1.2.1,(y1.1.2.1.length:Int),0,((0,0,0,()),0,0,[],[],()),y1.1,(y1.1.1,0,0,[],[],()),())).bind fun w5=>match w5 with |.inl a6=>(cond (decide (a6.2.1<(a6.1.length:Int))) (some (((0,0,0,()),0,0,[],[],()),2)) (cond (a6.2.2.2.2.1.2.2.1 != a6.2.2.2.1.2.2.2.2.1) (some (((0,0,0,()),0,0,[],[],()),5)) (some (a6.2.2.2.2.1,0)))) |.inr b7=>some (b7.2.1,b7.1))
def c2b:FSem:=⟨[.v QB],[.v a2E,.v QI],a7M⟩
def H5:Hints:=⟨[(506,[.sv 0 QB,7,.sv 28 QL,29,30,.box 2 a2E,.box 4 Q38,.box 6 d8r,Qp 2 2,Qp 4 4,Qp 6 6],[Qe 0 [.sv 0 QB,7,.box 2 a2E,.box 4 Q38,.box 6 d8r,Qp 2 2,Qp 4 4,Qp 6 6],Qr [3,.box 2 a2E,Qp 2 2]])],[],[]⟩
def b0K(s:((List LI)×(Int×Int×Z15×Z15×Z12))):Option (((List LI)×(Int×Int×Z15×Z15×Z12)) ⊕ (Z15×Z34)):=(fun(a:Int)(b c:Z15)(d:Int×(Int×Unit))=>cond (decide (a<s.2.1)) ((a0m s.1 a).bind fun x4=>cond ((decide (0<=d.2.1))&&(decide (d.2.1<=(x4.length:Int)))) (cond ((decide (0<=d.1))&&(decide (d.1<=((a00 d.2.1:Nat):Int)))) ((a3x (a08 (a00 d.1) (a05 (a00 d.2.1) x4))).bind fun y5=>cond (lim ((a01 c.2.1)+1)) (some (.inl (s.1,s.2.1,wrap .i64 (a+1),b,(c.1,a02 c.2.1 ([y5]:List LI),c.2.2),d,()))) none) none) none) (some (.inr (b,c,())))) s.2.2.1 s.2.2.2.1 s.2.2.2.2.1 s.2.2.2.2.2.1
def b4y(x:(Z15×Int×Int×Unit)):Option Z30:=(a7d x.1).bind fun y1=>cond (!y1) (some ((0,([]:(List LI)),()),1)) ((show Option (Bool×Z15×Z15×Z12)from cond (decide (x.2.1<0)) (some (true,(0,([]:(List LI)),()),x.1,x.2,())) (cond (decide (x.2.1>=x.2.2.1)) (some (true,(0,([]:(List LI)),()),x.1,x.2,())) ((a5E x.1).bind fun y2=>some (decide (x.2.2.1 > y2),(0,([]:(List LI)),()),x.1,x.2,())))).bind fun z3=>cond z3.1 (some ((0,([]:(List LI)),()),6)) ((a0d b0K (z3.2.2.1.2.1,(z3.2.2.1.2.1.length:Int),0,z3.2.1,(z3.2.2.1.1,([]:(List LI)),()),z3.2.2.2.1,())).bind fun w6=>some (w6.2.1,0)))
def d5r:FSem:=⟨[.v Q18,.v Q5],[.v Q18,.v QI],b4y⟩
def H21:Hints:=⟨[(250,[.sv 35 (.list false QL),36,37,.box 4 Q18,.box 6 (.pair QI Q9),.vp 3 Q5,Qp 4 4,Qp 6 6],[Qe 0 [.box 4 Q18,.box 6 (.pair QI Q9),Qp 4 4,Qp 6 6]])],[(14,[Qn [.sv 29 .bool,.box 4 Q18,.vp 2 Q18,.vp 3 Q5,Qp 4 4]])],[(3,[.x,.x,.x,.x,.v,.v,.v,.v,.x,.x,.x,.v,.v,.v,.v,.x,.x]),(9,[.q,.q,.v,.v,.v,.v,.v,.v,.v,.q,.x,.x,.x])]⟩
def a2M(s:(LI×(Int×(Int×(LI×c8O))))):Option ((LI×(Int×(Int×(LI×c8O)))) ⊕ Z48):=(fun(a b:Int)(c:LI)(d e:Int)(f:LI)(g:Z95)(h:Int×(Int×Unit))=>cond (decide (e<d)) ((a0m c e).bind fun x3=>(a0m g.2.2.1 e).bind fun x4=>(show Option ((LI×(Int×(Int×(Int×(LI×c8O))))) ⊕ Z6)from cond (decide ((a1s h.1 b)<(a2P h.2.1 (wrap .i64 (b+x4))))) ((a5X (s.1,g,e,a,b)).bind fun y5=>cond (y5.2.2 != 0) (some (Sum.inr ((y5.2.2,[],())))) ((b4y (y5.2.1,wrap .i64 ((a1s h.1 b)-b),wrap .i64 ((a2P h.2.1 (wrap .i64 (b+x4)))-b),())).bind fun y6=>cond (y6.2 != 0) (some (Sum.inr ((y6.2,[],())))) ((a6r y6.1).bind fun y7=>cond (lim ((a01 f)+(a01 y7))) (some (Sum.inl (s.1,a,x3,wrap .i64 (b+x4),c,d,e,a02 f y7,g,h,()))) none))) (some (Sum.inl (s.1,a,x3,wrap .i64 (b+x4),c,d,e,f,g,h,())))).bind fun z8=>match z8 with |.inl a9=>some (.inl (a9.1,wrap .i64 (a9.2.1+a9.2.2.1),a9.2.2.2.1,a9.2.2.2.2.1,a9.2.2.2.2.2.1,wrap .i64 (a9.2.2.2.2.2.2.1+1),a9.2.2.2.2.2.2.2.1,a9.2.2.2.2.2.2.2.2.1,a9.2.2.2.2.2.2.2.2.2.1,())) |.inr b10=>some (.inr (Sum.inr ((b10.1,b10.2.1,()))))) (some (.inr (Sum.inl (f,()))))) s.2.1 s.2.2.1 s.2.2.2.1 s.2.2.2.2.1 s.2.2.2.2.2.1 s.2.2.2.2.2.2.1 s.2.2.2.2.2.2.2.1 s.2.2.2.2.2.2.2.2.1
def a7N(x:Z18):Option (LI×Int):=(a6B x.1).bind fun y1=>cond (y1.2 != 0) (some ([],y1.2)) ((show Option (LI×(Bool×e2G))from cond (decide (x.2.1<0)) (some (x.1,true,y1.1,x.2,())) (cond (decide (x.2.1 > x.2.2.1)) (some (x.1,true,y1.1,x.2,())) (some (x.1,decide (x.2.2.1 > y1.1.2.2.2.1),y1.1,x.2,())))).bind fun z2=>cond z2.2.1 (some ([],6)) ((a0d a2M (z2.1,z2.2.2.1.2.2.2.2.2.1,0,z2.2.2.1.2.1,(z2.2.2.1.2.1.length:Int),0,[],z2.2.2.1,z2.2.2.2.1,())).bind fun w11=>match w11 with |.inl a12=>some (a12.1,0) |.inr b13=>some (b13.2.1,b13.1)))
def c2c:FSem:=⟨[.v QB,.v Q5],[.o QI,.v QI],a7N⟩
def H7:Hints:=⟨[(1018,[.sv 0 QB,9,10,.sv 48 QL,49,50,.own 8 8 QI,.box 6 Q38,.vp 3 Q5,Qp 6 6],[Qe 0 [.own 8 8 QI],Qr [5,.own 4 4 QI]])],[(30,[Qn [.sv 0 QB,.sv 44 .bool,.box 6 Q38,.vp 3 Q5,Qp 6 6]]),(260711,[Qn [.sv 0 QB,9,12,13,.sv 48 QL,49,50,.own 8 8 QI,.box 6 Q38,.vp 3 Q5,Qp 6 6],Qr [5,.own 4 4 QI]])],[(12,[.v,.v,.v,.v,.v,.v,.v,.v,.v,.x])]⟩
def a2T(s:(LI×Z7)):Option ((LI×Z7) ⊕ Z0):=(fun(a:Int)=>cond (decide (a<(s.1.length:Int))) ((a0m s.1 a).bind fun x1=>(a0m s.2.1 a).bind fun x2=>cond (x1 != x2) (some (.inr (Sum.inr ((false,()))))) (some (.inl (s.1,s.2.1,wrap .i64 (a+1),())))) (some (.inr (Sum.inl ())))) s.2.2.1
def a2p(x:Z1):Option Bool:=cond ((x.1.length:Int) != (x.2.length:Int)) (some false) ((a0d a2T (x.1,x.2,0,())).bind fun w3=>match w3 with |.inl a4=>some true |.inr b5=>some b5.1)
def c0L:FSem:=⟨[.v QL,.v QL],[.v .bool],a2p⟩
def H10:Hints:=⟨[(58,[.sv 0 QL,.sv 1 QL,5],[Qe 0 [],Qr [.sv 4 .bool]])],[],[(6,[.v,.v,.v,.v,.v,.v,.v,.v,.x])]⟩
def H28:Hints:=⟨[(1018,[.sv 38 QL,39,40,.box 4 Q18,.box 6 (.pair QI Q8),.vp 3 Q14,Qp 4 4,Qp 6 6],[Qe 0 [.box 4 Q18,.box 6 (.pair QI Q8),Qp 4 4,Qp 6 6],Qr [5,.box 4 Q18,Qp 4 4]])],[],[(9,[.v,.v,.v,.v,.q,.q,.q,.x]),(16,[.s,.s,.u,.q,.q,.v,.q,.q,.v,.q,.b [6,64,65],.x,.x])]⟩
def d3l(x:Z33):Option Z30:=a1c (a1d [(26,a8M),(27,b1J)] [(6,.pair (.int .i64) Q8),(36,.list true (.list true (.int .i64))),(37,.pair (.int .i64) Q8)] 931 8) H28 Tryz.f28 [.v (.list false (.int .i64)),.v Q14] [.v Q18,.v (.int .i64)] x
def c2d:FSem:=⟨[.v QL,.v Q14],[.v Q18,.v QI],d3l⟩
def H71:Hints:=⟨[(122,[.sv 21 (.list false Q14),22,23,.own 6 6 (.list true QI)],[Qe 0 [.own 6 6 (.list true QI)],Qr [.sv 4 (.list false QL),5]])],[(6,[Qn [.sv 0 (.list false QL),.sv 1 (.list false Q14),.sv 18 .bool]])],[]⟩
def e0K(x:Z60):Option ((List LI)×Int):=a1c (a1d [(129,b4u),(130,c0a),(131,b5m),(132,b6G)] [] 115 0) H71 Tryz.f71 [.v (.list false (.list false (.int .i64))),.v (.list false Q14)] [.v (.list false (.list false (.int .i64))),.v (.int .i64)] x
def c2e:FSem:=⟨[.v (.list false QL),.v (.list false Q14)],[.v (.list false QL),.v QI],e0K⟩
def e7d:Hints:=⟨[(122,[3,.sv 11 (.list false QL),12,13],[Qe 0 [3]]),(31334,[3,.sv 5 QL,6,.sv 11 (.list false QL),12,13],[Qe 2 [3,.sv 11 (.list false QL),12,13]])],[],[(10,[.v,.v,.v,.v,.v,.v,.v,.v,.v,.v,.v,.v,.v,.v,.v,.v,.x,.x])]⟩
def d1n(x:(List LI)):Option Int:=a1c (a1d [(129,b4u)] [] 237 0) e7d Tryz.f193 [.v (.list false (.list false (.int .i64)))] [.v (.int .i64)] x
def c0M:FSem:=⟨[.v (.list false QL)],[.v QI],d1n⟩
def d3m(x:Int):Option Z19:=a1c (a1d [] [] 135445 0) QH Tryz.f194 [.v (.int .i64)] [.o Q14] x
def c2f:FSem:=⟨[.v QI],[.o Q14],d3m⟩
def e7e:Hints:=⟨[(58,[.sv 0 (.list false QL),3,4,5],[Qe 0 [3]])],[],[]⟩
def d5s(x:(List LI)):Option Z19:=a1c (a1d [(71,c2e),(193,c0M),(194,c2f)] [] 509 0) e7e Tryz.f128 [.v (.list false (.list false (.int .i64)))] [.o Q14] x
def c4x:FSem:=⟨[.v (.list false QL)],[.o Q14],d5s⟩
def H70:Hints:=⟨[(122,[4,.own 3 3 Q14,.vp 1 Q18],[Qe 0 [.own 3 3 Q14]]),(7826,[4,25,26,.own 3 3 Q14,.own 24 1024 Q14,.vp 1 Q18],[Qe 2 [4,.own 3 3 Q14,.vp 1 Q18]])],[],[]⟩
def d5t(x:Z15):Option Z19:=a1c (a1d [(57,b8r),(128,c4x)] [] 29 2) H70 Tryz.f70 [.v Q18] [.o Q14] x
def c4y:FSem:=⟨[.v Q18],[.o Q14],d5t⟩
def e7f:Hints:=⟨[(122,[1,.sv 15 QL,16,17,.own 6 6 QI],[Qe 0 [.own 6 6 QI],Qr [5,.own 4 4 QI]])],[(6,[Qn [.sv 0 QL,1,.sv 14 .bool]]),(15666,[Qn [1,8,.sv 15 QL,16,17,.sv 30 .bool,.own 6 6 QI]])],[]⟩
def d1o(x:(LI×Int)):Option (LI×Int):=a1c (a1d [(196,c0J)] [] 371 0) e7f Tryz.f134 [.v (.list false (.int .i64)),.v (.int .i64)] [.o (.int .i64),.v (.int .i64)] x
def b5o:FSem:=⟨[.v QL,.v QI],[.o QI,.v QI],d1o⟩
def a8e(x:Int):Option Int:=cond (x==0) (some 64) ((a0m b7B (a0v .u64 (wrap .u64 ((bits .u64 .and x (wrap .u64 (0-x)))*285870213051353865)) 58)).bind fun x1=>some (wrap .i64 x1))
def a1z:FSem:=⟨[.v QU],[.v QI],a8e⟩
def b3g:Cx:=a1d [] [] 5 0
theorem c4z{Z:Type}{cx:Cx}{ops:List Oper}:∀(l1 l2:List (Md×Oper)) (U:AE) (K:AE->Rs Z),a6Y cx ops (l1++l2) U K=a6Y cx ops l1 U fun h=>a6Y cx ops l2 h K
 | [],_,_,_=>rfl
 |(md,o)::l1,l2,U,K=>by
  simp only[a19,a6Y];congr 1;funext h;exact c4z l1 l2 h K
theorem c2g{Z:Type}{cx:Cx}{H:Hints}{a b:Code}{p:Nat}(h:find H.cuts p=none)(U:AE)(K:Ex->AE->Rs Z):a1X cx H (.seq a b) p U K=a1X cx H a (2*p) U fun e g=>match e with
   |.normal=>a1X cx H b (2*p+1) g K
   |e=>K e g:=by
 simp only[a1X,h];rfl
theorem d3n{Z:Type}{cx:Cx}{H:Hints}{id:Nat}{ops:Array Oper}{p:Nat}(U:AE)(K:Ex->AE->Rs Z):a1X cx H (.region id ops false) p U K=a6Y cx ops.toList (ops.toList.map fun o=>(.x,o)) U fun h=>K .normal h:=by
 simp only[a1X,cF]
def b2D:Code:=match Tryz.f197.body with
 |some c=>c
 |none=>.skip
def c8W:Code->Code
 |.seq a _=>a
 |c=>c
def d8x:Code->Code
 |.seq _ b=>b
 |c=>c
def e0L:Code->Array Oper
 |.region _ ops _=>ops
 |_=>#[]
def d6J:Code:=d8x (d8x b2D)
def b6H:List Oper:=(e0L (c8W d6J)).toList
def d3o(x:Int):AE:=(((ini [.v QU] x).set 2 (.val QI (0:Int))).set 3 (.val QU x)).set 4 (.val .bool (x==(0:Int)))
def e4i(x:Int):AE:=(d3o x).set 2 (.val QI (64:Int))
def d3p(e:Ex)(U:AE):Option Int:=match e,U.pd with
  |.exit _,_=>none
  |_,some _=>none
  |_,none=>(U.upto Tryz.f197.ntmps).outs b3g [] Tryz.f197.ntmps [.v QI] (Tryz.f197.results.toList.map .inl) fun y _=>some y
def e4j(x a b c i:Int):AE:=((((((d3o x).set 5 (.val QU x)).set 6 (.val QU x)).set 7 (.val QU a)).set 8 (.val QU b)).set 9 (.val QU c)).set 10 (.val QU i)
set_option maxRecDepth 100000
theorem e2N:b2D=.seq (c8W b2D) (.seq (c8W (d8x b2D)) (.seq (.region 3 (e0L (c8W d6J)) false) .ret)):=by kernel_rfl
theorem e5V(x:Int):a1c b3g QH Tryz.f197 a1z.ps a1z.rs x=a1X b3g QH b2D 1 (ini [.v (.int .u64)] x) d3p:=rfl
theorem e5W(x:Int)(K:Ex->AE->Option Int):a1X b3g QH (c8W b2D) 2 (ini [.v (.int .u64)] x) K=K .normal ((ini [.v (.int .u64)] x).set 2 (.val (.int .i64) (0:Int))):=by kernel_rfl
theorem e5X(x:Int)(K:Ex->AE->Option Int):a1X b3g QH (c8W (d8x b2D)) 6 ((ini [.v (.int .u64)] x).set 2 (.val (.int .i64) (0:Int))) K=bif x==(0:Int)then K .ret (e4i x)else K .normal (d3o x):=by kernel_rfl
theorem e5Y(x:Int):d3p .ret (e4i x)=some (64:Int):=by kernel_rfl
theorem e5Z(x:Int)(K:AE->Option Int):a6Y b3g b6H ((b6H.map fun o=>(Md.x,o)).take 6) (d3o x) K =
  K (e4j x (wrap .u64 (0-x)) (bits .u64 .and x (wrap .u64 (0-x))) (wrap .u64 ((bits .u64 .and x (wrap .u64 (0-x)))*(285870213051353865:Int))) (a0v .u64 (wrap .u64 ((bits .u64 .and x (wrap .u64 (0-x)))*(285870213051353865:Int))) (58:Int))):=by kernel_rfl
theorem e6a(x a b c i:Int):a6Y b3g b6H ((b6H.map fun o=>(Md.x,o)).drop 6) (e4j x a b c i) (fun U=>d3p .ret U)=(a0m b7B i).bind fun h=>some (wrap .i64 h):=by kernel_rfl
theorem e6b(x:Int):a6Y b3g b6H (b6H.map fun o=>(Md.x,o)) (d3o x) (fun U=>d3p .ret U)=(a0m b7B (a0v .u64 (wrap .u64 ((bits .u64 .and x (wrap .u64 (0-x)))*(285870213051353865:Int))) (58:Int))).bind fun h=>some (wrap .i64 h):=by
 rw[<-List.take_append_drop 6 (b6H.map fun o=>(Md.x,o)),c4z,e5Z,e6a]
theorem e7g(x:Int):a1X b3g QH b2D 1 (ini [.v (.int .u64)] x) d3p=a8e x:=by
 rw[e2N,c2g rfl,e5W];simp only[];rw[c2g rfl,e5X];simp only[];rw[c2g rfl,d3n];simp only[a1X];rw[e5Y];exact congrArg (fun z=>bif x==(0:Int)then some (64:Int)else z) (e6b x)
theorem e8X(x):a1c b3g QH Tryz.f197 a1z.ps a1z.rs x=a1z.F x:=(e5V x).trans (e7g x)
def e7h:Hints:=⟨[(58,[3,.sv 6 QL,7,8],[Qe 0 [3]])],[],[]⟩
def c6Y(x:LI):Option Int:=a1c (a1d [(197,a1z)] [] 45 0) e7h Tryz.f135 [.v (.list false (.int .i64))] [.v (.int .i64)] x
def b3h:FSem:=⟨[.v QL],[.v QI],c6Y⟩
def e7i:Hints:=⟨[(250,[25,26,.own 6 6 QI],[Qe 0 [.own 6 6 QI]]),(64098,[7,25,26,.own 6 6 QI],[Qe 2 [25,26,.own 6 6 QI]])],[(6,[Qn [.sv 0 QL,1,.sv 19 .bool]])],[(11,[.q,.v,.q,.v,.v,.q,.q,.q,.v,.q,.q,.v,.x,.x])]⟩
def d3q(x:(LI×Int)):Option (LI×Int):=a1c (a1d [(260,c1W)] [] 243 0) e7i Tryz.f238 [.v (.list false (.int .i64)),.v (.int .i64)] [.o (.int .i64),.v (.int .i64)] x
def b6I:FSem:=⟨[.v QL,.v QI],[.o QI,.v QI],d3q⟩
def e7j:Hints:=⟨[(58,[1,5,.sv 8 QL,9,10],[Qe 0 [5]])],[],[]⟩
def d1p(x:(LI×Int)):Option Int:=a1c (a1d [] [] 243 0) e7j Tryz.f239 [.v (.list false (.int .i64)),.v (.int .i64)] [.v (.int .i64)] x
def c0N:FSem:=⟨[.v QL,.v QI],[.v QI],d1p⟩
def e7k:Hints:=⟨[(58,[.sv 0 QL,3,4,5],[Qe 0 [3]])],[(7463,[Qn [.sv 0 QL,3,4,5,8,.sv 30 .bool]])],[]⟩
def d3r(x:LI):Option Int:=a1c (a1d [(238,b6I),(239,c0N)] [] 509 0) e7k Tryz.f198 [.v (.list false (.int .i64))] [.v (.int .i64)] x
def c2h:FSem:=⟨[.v QL],[.v QI],d3r⟩
def c8X(x:Int):Option Int:=some (a2P (a1s x (-1048576)) 1048575)
def b3X:FSem:=⟨[.v QI],[.v QI],c8X⟩
def e7l:Hints:=⟨[(58,[.sv 0 QL,3,.sv 9 QL,10,11],[Qe 0 [.sv 0 QL,3]]),(250,[3,.sv 29 QL,30,31,.own 6 6 QI],[Qe 4 [.own 6 6 QI]]),(7474,[.sv 0 QL,3,5,.sv 9 QL,10,11],[Qe 2 [.sv 0 QL,3,.sv 9 QL,10,11]])],[],[(5,[.v,.v,.v,.v,.v,.v,.v,.x])]⟩
def c6Z(x:LI):Option LI:=a1c (a1d [(282,b3X)] [] 493 0) e7l Tryz.f280 [.v (.list false (.int .i64))] [.o (.int .i64)] x
def b7D:FSem:=⟨[.v QL],[.o QI],c6Z⟩
def e7m:Hints:=⟨[(58,[.sv 0 QL,.sv 1 QL,7,8,9],[Qe 0 [7,8]]),(60,[7,8],[Qe 2 [7,8]])],[(255,[Qn [10]])],[(5,[.v,.v,.v,.v,.v,.v,.v,.v,.v,.v,.v,.x,.x]),(6,[.v,.v,.v,.v,.v,.v,.v,.v,.v,.v,.v,.v,.v,.v,.v,.v,.v,.v,.v,.v,.v,.v,.x,.x])]⟩
def c1h(x:Z13):Option Int:=a1c (a1d [] [] 1991 0) e7m Tryz.f281 [.v (.list false (.int .i64)),.v (.list false (.int .i64)),.v (.int .i64)] [.v (.int .i64)] x
def b3G:FSem:=⟨[.v QL,.v QL,.v QI],[.v QI],c1h⟩
def e7n:Hints:=⟨[(1018,[1,9,.own 6 6 QI,.own 7 7 QI,.own 8 8 QI],[Qe 0 [.own 8 8 QI]]),(260686,[1,9,10,11,.own 6 6 QI,.own 7 7 QI,.own 8 8 QI],[Qe 2 [1,9,.own 6 6 QI,.own 7 7 QI,.own 8 8 QI]])],[(6,[Qn [.sv 0 QL,1,.sv 24 .bool]])],[(16,[.q,.v,.q,.q,.q,.v,.v,.q,.q,.v,.x])]⟩
def c5F(x:(LI×Int)):Option (LI×Int):=a1c (a1d [(59,a1v),(262,b2n),(280,b7D),(281,b3G),(282,b3X)] [] 16371 0) e7n Tryz.f240 [.v (.list false (.int .i64)),.v (.int .i64)] [.o (.int .i64),.v (.int .i64)] x
def b6J:FSem:=⟨[.v QL,.v QI],[.o QI,.v QI],c5F⟩
def e7o:Hints:=⟨[(58,[.sv 0 QL,.sv 20 QL,21,22],[Qe 0 [.sv 0 QL],Qr [.sv 2 QL,3]]),(250,[.sv 6 QL,.sv 34 QL,35,36],[Qe 2 [.sv 6 QL]]),(256410,[.sv 6 QL,7,8,.sv 34 QL,35,36,.sv 44 QL,45,46,.own 9 9 QI],[Qe 4 [8,.sv 34 QL,35,36,.own 9 9 QI]])],[(6,[Qn [.sv 0 QL,.sv 19 .bool]]),(3737,[Qn [.sv 0 QL,.sv 20 QL,21,22,.sv 31 .bool]])],[]⟩
def c8Y(x:LI):Option (LI×Int):=a1c (a1d [] [] 4077 0) e7o Tryz.f241 [.v (.list false (.int .i64))] [.v (.list false (.int .i64)),.v (.int .i64)] x
def b8Z:FSem:=⟨[.v QL],[.v QL,.v QI],c8Y⟩
def e7p:Hints:=⟨[(58,[.sv 0 QL,1,.sv 31 QL,32,33],[Qe 0 [.sv 0 QL,1],Qr [5,6,.own 4 4 QI]]),(122,[.sv 0 QL,1,9],[Qe 2 [],Qr [5,6,.own 4 11 QI]]),(125242,[.sv 0 QL,1,9,10,.sv 56 QL,57,58,.own 11 11 QI],[Qe 4 [.sv 0 QL,1,9,.own 11 11 QI]])],[(6,[Qn [.sv 0 QL,1,.sv 30 .bool]]),(3737,[Qn [.sv 0 QL,1,.sv 31 QL,32,33,.sv 42 .bool]]),(3913,[Qn [.sv 0 QL,1,9,10]])],[]⟩
def c8Z(x:(LI×Int)):Option Z4:=a1c (a1d [(27,b1J)] [] 28531 0) e7p Tryz.f242 [.v (.list false (.int .i64)),.v (.int .i64)] [.o (.int .i64),.v (.int .i64),.v (.int .i64)] x
def b9a:FSem:=⟨[.v QL,.v QI],[.o QI,.v QI,.v QI],c8Z⟩
def c0O(x:Z4):Option Z4:=a1c (a1d [(240,b6J),(241,b8Z),(242,b9a)] [] 4039 0) QH Tryz.f200 [.v (.list false (.int .i64)),.v (.int .i64),.v (.int .i64)] [.o (.int .i64),.v (.int .i64),.v (.int .i64)] x
def c0P:FSem:=⟨[.v QL,.v QI,.v QI],[.o QI,.v QI,.v QI],c0O⟩
def e7q:Hints:=⟨[(506,[.sv 0 QL,1,2,8,9,10],[Qe 0 [8]]),(129610,[.sv 0 QL,1,2,8,9,10,11,12],[Qe 2 [.sv 0 QL,1,2,8,9,10,11]])],[(6,[Qn [.sv 0 QL,1,2,.sv 29 .bool]]),(32403,[Qn [.sv 0 QL,1,2,8,9,10,11,.sv 74 .bool]])],[(15,[.v,.v,.v,.v,.v,.v,.v,.v,.v,.v,.x,.x])]⟩
def d5u(x:Z4):Option (Int×Int):=a1c (a1d [(265,b3V)] [] 16327 0) e7q Tryz.f243 [.v (.list false (.int .i64)),.v (.int .i64),.v (.int .i64)] [.v (.int .i64),.v (.int .i64)] x
def c4A:FSem:=⟨[.v QL,.v QI,.v QI],[.v QI,.v QI],d5u⟩
def e7r:Hints:=⟨[(250,[.sv 0 QL,1,.sv 22 QL,23,24,.own 8 8 QI,.vp 5 (.arr 3 QI)],[Qe 0 [.own 8 8 QI],Qr [7,.own 6 6 QI]])],[],[]⟩
def d5v(x:Z14):Option (LI×Int):=a1c (a1d [(213,c6U),(265,b3V),(266,b8X),(267,c4v)] [] 4039 32) e7r Tryz.f245 [.v (.list false (.int .i64)),.v (.int .i64),.v (.arr 3 (.int .i64))] [.o (.int .i64),.v (.int .i64)] x
def b4z:FSem:=⟨[.v QL,.v QI,.v (.arr 3 QI)],[.o QI,.v QI],d5v⟩
def d3s(x:Unit):Option (List LI):=a1c (a1d [] [] 1 0) QH Tryz.f283 [] [.o (.arr 3 (.int .i64))] x
def c2i:FSem:=⟨[],[.o (.arr 3 QI)],d3s⟩
def e7s:Hints:=⟨[(122,[.sv 0 QL,1,7,.sv 8 .bool,25,26,.own 24 1024 (.arr 3 QI),.box 4 (.arr 3 QI),.box 6 (.arr 3 QI),Qp 4 4,Qp 6 6],[Qe 0 [.sv 8 .bool,.box 4 (.arr 3 QI),.box 6 (.arr 3 QI),Qp 4 4,Qp 6 6]]),(501370,[.sv 0 QL,1,7,.sv 8 .bool,13,25,26,40,41,.own 24 1024 (.arr 3 QI),.own 39 11 QI,.box 4 (.arr 3 QI),.box 6 (.arr 3 QI),.box 10 (.arr 3 QI),Qp 4 4,Qp 6 6,Qp 10 10],[Qe 2 [.sv 0 QL,1,7,.sv 8 .bool,13,25,26,.own 24 1024 (.arr 3 QI),.box 4 (.arr 3 QI),.box 6 (.arr 3 QI),.box 10 (.arr 3 QI),Qp 4 4,Qp 6 6,Qp 10 10]])],[(6,[Qn [.sv 0 QL,1,.sv 21 .bool,.box 4 (.arr 3 QI),Qp 4 4]]),(125343,[Qn [.sv 0 QL,1,7,.sv 8 .bool,13,25,26,.sv 58 .bool,.own 24 1024 (.arr 3 QI),.box 4 (.arr 3 QI),.box 6 (.arr 3 QI),.box 10 (.arr 3 QI),Qp 4 4,Qp 6 6,Qp 10 10]])],[]⟩
def d5w(x:(LI×Int)):Option (LI×Int):=a1c (a1d [(245,b4z),(283,c2i)] [] 47523 0) e7s Tryz.f244 [.v (.list false (.int .i64)),.v (.int .i64)] [.v (.arr 3 (.int .i64)),.v (.int .i64)] x
def c4B:FSem:=⟨[.v QL,.v QI],[.v (.arr 3 QI),.v QI],d5w⟩
def d3t(x:LI):Option (a2H×Bool):=a1c (a1d [(200,c0P),(243,c4A),(244,c4B),(245,b4z)] [] 953 0) QH Tryz.f201 [.v (.list false (.int .i64))] [.v Q68,.v .bool] x
def c2j:FSem:=⟨[.v QL],[.v Q68,.v .bool],d3t⟩
def c2k(x:(Int×(Int×(LI×c8P)))):Option (LI×c8P):=(c0O (x.2.2.1,x.1,x.2.1)).bind fun y1=>cond (y1.2.2==0) (cond (lim ((a01 x.2.2.2)+1)) (some (x.2.2.1,a02 x.2.2.2 ([(3,0,0,y1.2.1,0,y1.1,a03 3 0,[],[],(0,[],()),[],())]:List a2H))) none) (some (x.2.2.1,x.2.2.2))
def b4Y:FSem:=⟨[.v QI,.v QI,.r false (.b QL),.r false (.b (.list true Q68))],[],c2k⟩
def e7t:Hints:=⟨[(4050,[50,.box 5 (.list true Q68),.box 2 QL,Qp 5 5,.clo 6 199 [2,5]],[Qe 0 [.box 5 (.list true Q68),.box 2 QL,Qp 5 5,.clo 6 199 [2,5]]])],[(15,[Qn [1,.box 2 QL,.box 5 (.list true Q68),Qp 2 2,Qp 5 5,.clo 6 199 [2,5]]]),(31,[Qn [1,.box 5 (.list true Q68),.box 2 QL,Qp 5 5,.clo 6 199 [2,5]]]),(63,[Qn [.box 5 (.list true Q68),Qp 5 5]])],[]⟩
def c5G(x:(LI×Int)):Option c8P:=a1c (a1d [(198,c2h),(199,b4Y),(201,c2j)] [(5,.list true Q68)] 851 147573952589676412928) e7t Tryz.f136 [.v (.list false (.int .i64)),.v (.int .i64)] [.v (.list false Q68)] x
def b6K:FSem:=⟨[.v QL,.v QI],[.v (.list false Q68)],c5G⟩
def e7u:Hints:=⟨[(250,[.sv 0 QL,.sv 1 QL,2,9,.own 8 8 QI],[Qe 0 [.own 8 8 QI],Qr [7,.own 6 6 QI]])],[(6,[Qn [.sv 0 QL,.sv 1 QL,2,.sv 21 .bool]])],[(9,[.v,.v,.v,.v,.v,.v,.v,.v,.v,.v,.x,.x])]⟩
def d1q(x:Z13):Option (LI×Int):=a1c (a1d [(212,c1T),(262,b2n),(263,b6E),(264,c0I)] [] 1991 0) e7u Tryz.f247 [.v (.list false (.int .i64)),.v (.list false (.int .i64)),.v (.int .i64)] [.o (.int .i64),.v (.int .i64)] x
def c0Q:FSem:=⟨[.v QL,.v QL,.v QI],[.o QI,.v QI],d1q⟩
def e7v:Hints:=⟨[(250,[.sv 22 (.list false Q5),23,24,.own 6 6 QI],[Qe 0 [.own 6 6 QI],Qr [5,.own 4 4 QI]]),(256414,[.sv 22 (.list false Q5),23,24,37,38,.own 6 6 QI,.box 1030 Q20,Qp 9 1030,.ref 36 6 []],[Qe 2 [.sv 22 (.list false Q5),23,24,.own 6 6 QI],Qr [5,.own 4 4 QI]])],[],[]⟩
def d3u(x:(LI×Z5)):Option (LI×Int):=a1c (a1d [(59,a1v),(214,b8s),(268,b2W),(270,b8t),(271,a8n),(272,b6F),(273,a9n)] [] 15987 0) e7v Tryz.f248 [.v (.list false (.int .i64)),.v (.list false Q5)] [.o (.int .i64),.v (.int .i64)] x
def c2l:FSem:=⟨[.v QL,.v (.list false Q5)],[.o QI,.v QI],d3u⟩
def e7w:Hints:=⟨[],[(15,[Qn [.sv 1 QL,.sv 5 QL,6,.box pinned Q68,Qp 0 pinned]])],[(7,[.v,.p,.p,.q,.q,.p,.p,.q,.q,.x,.x,.q,.q,.q,.x]),(9,[.v,.p,.p,.q,.q,.p,.p,.q,.q,.x,.x,.q,.q,.q,.x]),(11,[.q,.p,.p,.q,.q,.p,.p,.q,.q,.x,.x,.q,.q,.q,.x])]⟩
def d5x(x:(a2H×LI)):Option (Int×a2H):=a1c (a1d [(59,a1v),(155,c1U),(238,b6I),(245,b4z),(247,c0Q),(248,c2l)] [] 147573952727119562867 0) e7w Tryz.f203 [.r false (.b Q68),.v (.list false (.int .i64))] [.v (.int .i64)] x
def c4C:FSem:=⟨[.r false (.b Q68),.v QL],[.v QI],d5x⟩
def e7x:Hints:=⟨[(58,[.sv 21 QL,22,23],[Qe 0 [],Qr [.sv 6 .bool]])],[(6,[Qn [.sv 2 QL,.sv 20 .bool]]),(3737,[Qn [.sv 21 QL,22,23,.sv 32 .bool]])],[]⟩
def d1r(x:Z3):Option Bool:=a1c (a1d [(215,c4t)] [] 327 0) e7x Tryz.f249 [.v (.int .i64),.v (.int .i64),.v (.list false (.int .i64))] [.v .bool] x
def b5p:FSem:=⟨[.v QI,.v QI,.v QL],[.v .bool],d1r⟩
def c4D(x:LI):Option Int:=(a3B x).bind fun y1=>some (wrap .i64 (5+(wrap .i64 (y1*(x.length:Int)))))
def c4E:FSem:=⟨[.v QL],[.v QI],c4D⟩
def d5y(x:Int):Option Bool:=cond (decide ((-1073741824)<=x)) (some (decide (x<1073741824))) (some false)
def b4A:FSem:=⟨[.v QI],[.v .bool],d5y⟩
def d5z(x:Int):Option Int:=a1c (a1d [(254,b4A)] [] 141 0) QH Tryz.f255 [.v (.int .i64)] [.v (.int .u64)] x
def b8u:FSem:=⟨[.v QI],[.v QU],d5z⟩
def e7y:Hints:=⟨[],[(6,[Qn [0,1,.sv 13 .bool]])],[]⟩
def d5A(x:(Int×Int)):Option Int:=a1c (a1d [(253,b2o),(254,b4A),(255,b8u)] [] 51 0) e7y Tryz.f285 [.v (.int .i64),.v (.int .i64)] [.v (.int .i64)] x
def c4F:FSem:=⟨[.v QI,.v QI],[.v QI],d5A⟩
def e7z:Hints:=⟨[(58,[0,5,.sv 8 QL,9,10],[Qe 0 [5]])],[],[]⟩
def c7a(x:(Int×LI)):Option Int:=a1c (a1d [(285,c4F)] [] 179 0) e7z Tryz.f252 [.v (.int .i64),.v (.list false (.int .i64))] [.v (.int .i64)] x
def c0c:FSem:=⟨[.v QI,.v QL],[.v QI],c7a⟩
def e7A:Hints:=⟨[(122,[.sv 3 QL,9,30,31,.own 29 1029 QI,.vp 4 Q13],[Qe 0 [9]])],[(6,[Qn [1,2,.sv 3 QL,.sv 24 .bool,.vp 4 Q13]])],[]⟩
def d3v(x:Z65):Option Int:=a1c (a1d [(207,b1K),(218,c4u),(249,b5p),(251,c4E),(252,c0c)] [] 7951 16) e7A Tryz.f206 [.v Q13,.v (.int .i64),.v (.int .i64),.v (.list false (.int .i64))] [.v (.int .i64)] x
def b6L:FSem:=⟨[.v Q13,.v QI,.v QI,.v QL],[.v QI],d3v⟩
def e7B:Hints:=⟨[(58,[.sv 0 QL,3,4,5],[Qe 0 [3]])],[],[]⟩
def c4G(x:LI):Option Int:=a1c (a1d [(252,c0c)] [] 125 0) e7B Tryz.f284 [.v (.list false (.int .i64))] [.v (.int .i64)] x
def d5B:FSem:=⟨[.v QL],[.v QI],c4G⟩
def c9a(x:LI):Option Int:=(c4G x).bind fun y1=>(c4D x).bind fun y2=>(c7a (y1,x)).bind fun y3=>cond (decide (y2<y3)) (some 31) (some y1)
def b9b:FSem:=⟨[.v QL],[.v QI],c9a⟩
def e7C:Hints:=⟨[(250,[0,1,2,.sv 3 QL,11,12,.box 8 Q13,.box 10 Q13,Qp 8 8,Qp 10 10],[Qe 0 [.box 8 Q13,.box 10 Q13,Qp 8 8,Qp 10 10]]),(512634,[0,1,2,.sv 3 QL,11,12,.sv 15 QL,43,44,.own 42 13 QI,.box 8 Q13,.box 10 Q13,.box 14 Q12,Qp 8 8,Qp 10 10,Qp 14 14],[Qe 2 [0,1,2,.sv 3 QL,11,12,.box 8 Q13,.box 10 Q13,.box 14 Q12,Qp 8 8,Qp 10 10,Qp 14 14]])],[(256319,[Qn [0,1,2,.sv 3 QL,11,12,18,.sv 72 .bool,.box 8 Q13,.box 10 Q13,.box 14 Q13,Qp 8 8,Qp 10 10,Qp 14 14]])],[(15,[.q,.q,.v,.v,.v,.v,.q,.x,.x,.x])]⟩
def d3w(x:(Int×Z3)):Option (Z6×Int):=a1c (a1d [(206,b6L),(207,b1K),(249,b5p),(250,b9b)] [(14,.pair (.int .i64) Q3),(40,.pair (.int .i64) Q3)] 440847 0) e7C Tryz.f204 [.v (.int .i64),.v (.int .i64),.v (.int .i64),.v (.list false (.int .i64))] [.v Q13,.v (.int .i64)] x
def c2m:FSem:=⟨[.v QI,.v QI,.v QI,.v QL],[.v Q13,.v QI],d3w⟩
def e7D:Hints:=⟨[(4050,[.sv 1 QL,.sv 39 QL,40,41,.box 6 Q68,.box 9 Q68,Qp 6 6,Qp 9 9],[Qe 0 [.sv 1 QL,.box 6 Q68,.box 9 Q68,Qp 6 6,Qp 9 9],Qr [7,.box 6 Q68,Qp 6 6]])],[(14,[Qn [0,.sv 1 QL,8,.sv 28 .bool,.box 6 Q68,.vp 5 Q68,Qp 6 6]])],[]⟩
def d8y(x:(Int×(LI×a2H))):Option b2Q:=a1c (a1d [(133,b5l),(134,b5o),(135,b3h),(154,d0m),(202,c1V),(203,c4C),(204,c2m)] [] 14727 32) e7D Tryz.f137 [.v (.int .i64),.v (.list false (.int .i64)),.v Q68] [.v Q68,.v (.int .i64)] x
def c7b:FSem:=⟨[.v QI,.v QL,.v Q68],[.v Q68,.v QI],d8y⟩
def e7E:Hints:=⟨[],[(1,[Qn [.sv 1 QV,.box pinned Q11,Qp 0 pinned]])],[(2,[.p,.p,.q,.q,.p,.p,.q,.q,.v,.q,.q,.v,.p,.p,.q,.q,.v,.v,.v,.x,.x,.x])]⟩
def c3S(x:(Z7×Int)):Option Z7:=a1c (a1d [] [] 3 0) e7E Tryz.f146 [.r false (.b Q11),.v (.int .u8)] [] x
def a7n:FSem:=⟨[.r false (.b Q11),.v QV],[],c3S⟩
def e7F:Hints:=⟨[(58,[.sv 1 QU,7,.box pinned Q11,Qp 0 pinned],[Qe 0 [.box pinned Q11]])],[(6,[Qn [.sv 1 QU,2,.sv 19 .bool,.box pinned Q11,Qp 0 pinned]])],[]⟩
def b5y(x:(Z7×Int×Int)):Option Z21:=a1c (a1d [(146,a7n)] [] 199 0) e7F Tryz.f141 [.r false (.b Q11),.v (.int .u64),.v (.int .i64)] [.v (.int .i64)] x
def a5r:FSem:=⟨[.r false (.b Q11),.v QU,.v QI],[.v QI],b5y⟩
def c7c(x:(Z7×Int×Int)):Option Z7:=cond (decide (x.2.2<0)) none ((b5y (x.1,bits .u64 .and (wrap .u64 x.2.1) (wrap .u64 ((a0t .u64 1 x.2.2)-1)),x.2.2)).bind fun y1=>some y1.2)
def b3i:FSem:=⟨[.r false (.b Q11),.v QI,.v QI],[],c7c⟩
def e7G:Hints:=⟨[(254,[4,.sv 27 QL,28,29,.box pinned Q11,Qp 0 pinned],[Qe 0 [.box pinned Q11]])],[],[]⟩
def c9b(x:(Z7×a2H)):Option Z7:=a1c (a1d [(140,b0F),(141,a5r),(142,b3i)] [] 83 8) e7G Tryz.f143 [.r false (.b Q11),.v Q68] [] x
def b9c:FSem:=⟨[.r false (.b Q11),.v Q68],[],c9b⟩
def e7H:Hints:=⟨[(58,[11,12,.box pinned Q11,Qp 0 pinned],[Qe 0 [.box pinned Q11,Qp 0 pinned]])],[(6,[Qn [1,.sv 10 .bool,.box pinned Q11,Qp 0 pinned]])],[]⟩
def c1i(x:(Z7×Int)):Option Z21:=a1c (a1d [(146,a7n)] [] 19 0) e7H Tryz.f256 [.r false (.b Q11),.v (.int .i64)] [.v (.int .i64)] x
def b3H:FSem:=⟨[.r false (.b Q11),.v QI],[.v QI],c1i⟩
def e7I:Hints:=⟨[(58,[1,.sv 2 QL,.sv 16 QL,17,18,.box pinned Q11,Qp 0 pinned],[Qe 0 [1,.sv 2 QL,.box pinned Q11,Qp 0 pinned],Qr [6,.box pinned Q11]]),(122,[1,.sv 26 QL,27,28,.box pinned Q11,Qp 0 pinned],[Qe 2 [.box pinned Q11]])],[],[]⟩
def d8z(x:(Z7×(Int×LI))):Option Z21:=a1c (a1d [(141,a5r),(253,b2o),(254,b4A),(255,b8u),(256,b3H)] [] 7495 0) e7I Tryz.f208 [.r false (.b Q11),.v (.int .i64),.v (.list false (.int .i64))] [.v (.int .i64)] x
def c7d:FSem:=⟨[.r false (.b Q11),.v QI,.v QL],[.v QI],d8z⟩
def e7J:Hints:=⟨[(122,[.sv 4 QL,33,34,.own 32 1032 QI,.box pinned Q11,Qp 0 pinned,.vp 6 Q13],[Qe 0 [.box pinned Q11]]),(2005502,[.sv 4 QL,14,33,34,.sv 73 QL,74,75,.own 32 1032 QI,.box pinned Q11,Qp 0 pinned,.vp 6 Q13],[Qe 2 [.sv 4 QL,33,34,.own 32 1032 QI,.box pinned Q11,Qp 0 pinned,.vp 6 Q13]])],[],[]⟩
def d5C(x:(Z7×Z65)):Option Z21:=a1c (a1d [(140,b0F),(141,a5r),(206,b6L),(207,b1K),(208,c7d)] [] 97311 64) e7J Tryz.f145 [.r false (.b Q11),.v Q13,.v (.int .i64),.v (.int .i64),.v (.list false (.int .i64))] [.v (.int .i64)] x
def c4H:FSem:=⟨[.r false (.b Q11),.v Q13,.v QI,.v QI,.v QL],[.v QI],d5C⟩
def H74:Hints:=⟨[(2042,[2,7,.sv 94 QL,95,96,.box pinned Q11,Qp 0 pinned,.vp 4 Q68],[Qe 9 [2,.box pinned Q11,Qp 0 pinned,.vp 4 Q68]]),(32598,[2,7,.sv 75 (.list false Q5),76,77,.box pinned Q11,Qp 0 pinned,.vp 4 Q68],[Qe 7 [2,7,.box pinned Q11,Qp 0 pinned,.vp 4 Q68]]),(260622,[2,7,.sv 57 (.arr 3 QI),58,.box pinned Q11,Qp 0 pinned,.vp 4 Q68],[Qe 5 [2,7,.box pinned Q11,Qp 0 pinned,.vp 4 Q68]])],[(127,[Qn [2,7,.box pinned Q11,Qp 0 pinned,.vp 4 Q68]]),(4072,[Qn [2,7,.box pinned Q11,Qp 0 pinned,.vp 4 Q68],Qe 0 [2,7,.box pinned Q11,Qp 0 pinned,.vp 4 Q68],Qe 4 [2,7,.box pinned Q11,Qp 0 pinned,.vp 4 Q68]])],[]⟩
def d0o(x:(Z7×b2Q)):Option Z21:=a1c (a1d [(139,d0n),(140,b0F),(141,a5r),(142,b3i),(143,b9c),(144,c1S),(145,c4H)] [] 11682311054023 16) H74 Tryz.f74 [.r false (.b Q11),.v Q68,.v (.int .i64)] [.v (.int .i64)] x
def d0p:FSem:=⟨[.r false (.b Q11),.v Q68,.v QI],[.v QI],d0o⟩
def b5z(x:Z7):Option Z21:=some (x.2.1,x)
def c3T:FSem:=⟨[.r false (.b Q11)],[.v QI],b5z⟩
def d8A(x:b2Q):Option Int:=(d0o (([],0,()),x.1,x.2)).bind fun y1=>cond (y1.1 != 0) (some 0) ((b5z y1.2).bind fun y2=>some y2.1)
def c7e:FSem:=⟨[.v Q68,.v QI],[.v QI],d8A⟩
def H72:Hints:=⟨[(2042,[.sv 0 QL,9,.sv 10 .bool,.sv 50 (.list false Q68),51,52,.box 4 Q68,.box 8 Q68,Qp 4 4,Qp 8 8],[Qe 0 [.box 4 Q68,.box 8 Q68,Qp 4 4,Qp 8 8]])],[(6,[Qn [.sv 0 QL,1,.sv 31 .bool,.box 4 Q68,Qp 4 4]]),(1045711,[Qn [.sv 0 QL,9,.sv 10 .bool,15,.sv 50 (.list false Q68),51,52,.sv 76 .bool,.box 4 Q68,.box 8 Q68,.box 13 Q68,Qp 4 4,Qp 8 8,Qp 13 13]])],[]⟩
def d8B(x:(LI×Int)):Option b2Q:=a1c (a1d [(133,b5l),(134,b5o),(135,b3h),(136,b6K),(137,c7b),(138,c7e)] [] 50915 0) H72 Tryz.f72 [.v (.list false (.int .i64)),.v (.int .i64)] [.v Q68,.v (.int .i64)] x
def c7f:FSem:=⟨[.v QL,.v QI],[.v Q68,.v QI],d8B⟩
def H29:Hints:=⟨[(2042,[3,.sv 81 (.list false QL),82,83,.box 8 Q90,.box 10 Q89,Qp 8 8,Qp 10 10],[Qe 0 [.box 8 Q90,.box 10 Q89,Qp 8 8,Qp 10 10],Qr [9,.box 8 Q90,Qp 8 8]])],[(6,[Qn [2,3,.sv 51 .bool,.box 8 Q90,.vp 4 Q18,.vp 5 Q14,Qp 8 8]]),(31,[Qn [3,.box 8 Q90,.box 10 Q89,.vp 4 Q18,Qp 8 8,Qp 10 10]])],[(3,[.v,.v,.v,.v,.v,.q,.x])]⟩
def d3x(x:(Z15×Z8×Int×Int)):Option d8g:=a1c (a1d [(26,a8M),(57,b8r),(58,c4s),(70,c4y),(71,c2e),(72,c7f)] [(10,.pair (.int .i64) Q85),(52,.pair (.int .i64) Q82),(57,.pair (.int .i64) Q82),(63,.pair (.int .i64) Q82),(79,.pair (.int .i64) Q82),(95,.pair (.int .i64) Q82)] 88591 48) H29 Tryz.f29 [.v Q18,.v Q14,.v (.int .i64),.v (.int .i64)] [.v Q90,.v (.int .i64)] x
def c2n:FSem:=⟨[.v Q18,.v Q14,.v QI,.v QI],[.v Q90,.v QI],d3x⟩
def H75:Hints:=⟨[(2,[.box pinned Q11,Qp 0 pinned],[Qe 0 [.box pinned Q11]])],[],[]⟩
def c1j(x:Z7):Option Z7:=a1c (a1d [(146,a7n)] [] 1 0) H75 Tryz.f75 [.r false (.b Q11)] [] x
def b3I:FSem:=⟨[.r false (.b Q11)],[],c1j⟩
def c1k(x:Z7):Option (LI×Z7):=cond (lim (a01 x.1)) (some (x.1,x)) none
def b3J:FSem:=⟨[.r false (.b Q11)],[.o QV],c1k⟩
def H80:Hints:=⟨[(58,[.sv 6 (.list false QU),7,8,.own 3 3 QV],[Qe 0 [.own 3 3 QV]]),(14948,[.sv 5 QU,.sv 6 (.list false QU),7,8,.own 3 3 QV],[Qe 2 [.sv 5 QU,.sv 6 (.list false QU),7,8,.own 3 3 QV]])],[],[]⟩
def d5D(x:LI):Option LI:=a1c (a1d [] [] 45 0) H80 Tryz.f80 [.v (.list false (.int .u64))] [.o (.int .u8)] x
def b8v:FSem:=⟨[.v (.list false QU)],[.o QV],d5D⟩
def d5E(x:Int):Option Int:=a1c (a1d [] [] 5 0) QH Tryz.f147 [.v (.int .i64)] [.v (.int .u64)] x
def c4I:FSem:=⟨[.v QI],[.v QU],d5E⟩
def H77:Hints:=⟨[(58,[1,.sv 33 (.list false Q14),34,35,.own 5 5 QU],[Qe 0 [1,.own 5 5 QU]])],[],[(5,[.q,.q,.q,.v,.q,.q,.v,.q,.q,.v,.q,.x,.x])]⟩
def c7g(x:d8g):Option LI:=a1c (a1d [(80,b8v),(147,c4I),(148,c1X)] [] 307 4) H77 Tryz.f77 [.v Q90,.v (.int .i64)] [.o (.int .u8)] x
def b7E:FSem:=⟨[.v Q90,.v QI],[.o QV],c7g⟩
def e7K:Hints:=⟨[(58,[.sv 0 QU,7,8,.own 5 5 QV],[Qe 0 [.own 5 5 QV]])],[],[]⟩
def c0R(x:(Int×Int)):Option LI:=a1c (a1d [(86,c0H)] [] 51 0) e7K Tryz.f149 [.v (.int .u64),.v (.int .i64)] [.o (.int .u8)] x
def d1s:FSem:=⟨[.v QU,.v QI],[.o QV],c0R⟩
def a7i(x:LI):Option LI:=cond (decide (a01 x<2147483648)) (some (List.reverse x)) none
def b3F:FSem:=⟨[.r false (.o QV)],[],a7i⟩
def d5F(x:(Int×Int)):Option LI:=(c0R (x.1,x.2)).bind fun y1=>(a7i y1).bind fun y2=>some y2
def b8w:FSem:=⟨[.v QU,.v QI],[.o QV],d5F⟩
def H30:Hints:=⟨[(122,[.sv 14 (.list false Q68),15,16,.box 4 Q11,.vp 1 Q90,Qp 4 4],[Qe 0 [.box 4 Q11,.vp 1 Q90,Qp 4 4],Qr [3,.own 2 2 QV]])],[],[]⟩
def d5G(x:a2Q):Option (LI×Int):=a1c (a1d [(73,c4w),(74,d0p),(75,b3I),(76,b3J),(77,b7E),(78,b8w),(79,b8Y)] [(4,.pair (.list true (.int .u8)) Q0)] 909 2) H30 Tryz.f30 [.v Q90] [.o (.int .u8),.v (.int .i64)] x
def b8x:FSem:=⟨[.v Q90],[.o QV,.v QI],d5G⟩
def H32:Hints:=⟨[(122,[5,6,.sv 7 QU,.sv 33 (.list false Q90),34,35,.own 2 2 QB,.own 3 3 Q18,.vp 1 a2E],[Qe 0 [5,.sv 7 QU,.own 2 2 QB,.own 3 3 Q18,.vp 1 a2E],Qr [.sv 4 .bool,.own 2 2 QB,.own 3 3 Q18]])],[(6,[Qn [.sv 31 .bool,.own 2 2 QB,.own 3 3 Q18,.vp 1 a2E]]),(62,[Qn [.sv 117 .bool,.own 2 2 QB,.own 3 3 Q18]]),(15666,[Qn [5,6,.sv 7 QU,8,.sv 33 (.list false Q90),34,35,.sv 50 .bool,.own 2 2 QB,.own 3 3 Q18,.box 9 Q90,.vp 1 a2E,Qp 9 9]]),(31334,[Qn [5,6,.sv 7 QU,.sv 33 (.list false Q90),34,35,.sv 68 .bool,.own 2 2 QB,.own 3 3 Q18,.box 9 Q90,.vp 1 a2E,Qp 9 9]])],[]⟩
def c4J(x:a5S):Option ((List LI)×((List Z15)×Bool)):=a1c (a1d [(17,b3W),(26,a8M),(30,b8x),(42,c0K)] [] 6653 2) H32 Tryz.f32 [.v a2E] [.o (.list false (.int .u8)),.o Q18,.v .bool] x
def c4K:FSem:=⟨[.v a2E],[.o QB,.o Q18,.v .bool],c4J⟩
def H31:Hints:=⟨[(250,[.sv 39 (.list false Q90),40,41,.own 4 4 QB,.own 7 7 QU,.vp 1 a2E],[Qe 0 [.own 4 4 QB,.own 7 7 QU,.vp 1 a2E]]),(4090,[76,77,.own 10 10 QV,.own 75 4 QB],[Qe 2 [.own 10 10 QV]])],[],[(8,[.q,.q,.v,.q,.q,.v,.v,.q,.q,.v,.q,.x,.x])]⟩
def d5H(x:a5S):Option (LI×Int):=a1c (a1d [(32,c4K),(40,b6B),(78,b8w),(80,b8v)] [] 5629 2) H31 Tryz.f31 [.v a2E] [.o (.int .u8),.v (.int .i64)] x
def c4L:FSem:=⟨[.v a2E],[.o QV,.v QI],d5H⟩
def H11:Hints:=⟨[(506,[.sv 1 QL,2,3,10,.sv 62 QL,63,64,.vp 4 Q14],[Qe 0 [.sv 1 QL,2,3,10,.vp 4 Q14],Qr [9,.own 8 8 QV]]),(4090,[.sv 1 QL,2,3,10,14,15,.box 13 d8r,.vp 4 Q14,Qp 13 13],[Qe 2 [.box 13 d8r,Qp 13 13],Qr [9,.own 8 8 QV]])],[(6,[Qn [.sv 1 QL,2,3,.sv 39 .bool,.vp 4 Q14]]),(62,[Qn [.sv 1 QL,2,3,10,.sv 61 .bool,.vp 4 Q14]])],[(20,[.v,.v,.v,.v,.v,.v,.v,.v,.v,.v,.v,.v,.v,.v,.v,.q,.w [0,17],.x])]⟩
def b3Y(x:(Z8×Z4)):Option (LI×Int):=a1c (a1d [(17,b3W),(26,a8M),(27,b1J),(28,c2d),(29,c2n),(30,b8x),(31,c4L)] [(13,.pair Q14 d8q),(76,.pair Q14 b9Z)] 1431311 16) H11 Tryz.f11 [.v Q14,.v (.list false (.int .i64)),.v (.int .i64),.v (.int .i64)] [.o (.int .u8),.v (.int .i64)] x
def b9d:FSem:=⟨[.v Q14,.v QL,.v QI,.v QI],[.o QV,.v QI],b3Y⟩
def c2o(s:(Int×(Int×(LI×((List Z15)×Unit))))):Option ((Int×(Int×(LI×((List Z15)×Unit)))) ⊕ (LI×Unit)):=(fun(a:Int)(b:LI)(c:List Z15)=>cond (decide (a<s.1)) (cond ((decide (0<=a))&&(decide (a<(c.length:Int)))) ((a6r (a04 c (a00 a) (0,([]:(List LI)),()))).bind fun y2=>cond (lim ((a01 b)+(a01 y2))) (some (.inl (s.1,wrap .i64 (a+1),a02 b y2,c,()))) none) none) (some (.inr (b,())))) s.2.1 s.2.2.1 s.2.2.2.1
def b3j(x:a5S):Option (LI×Int):=(c4J x).bind fun y1=>cond (!y1.2.2) (some ([],1)) ((a0d c2o ((y1.2.1.length:Int),0,[],y1.2.1,())).bind fun w3=>some (w3.1,0))
def b7F:FSem:=⟨[.v a2E],[.o QI,.v QI],b3j⟩
def H12:Hints:=⟨[(250,[19,20,.own 7 7 QI,.own 18 5 Q18],[Qe 0 [.own 7 7 QI]])],[],[]⟩
def H13:Hints:=⟨[(26,[1,.sv 9 (.list false Q90),10,11],[Qe 0 [],Qr [4,5]])],[],[]⟩
def b6M(x:c5C):Option (Int×Int):=a1c (a1d [] [] 115 4) H13 Tryz.f13 [.v a2E,.v (.int .i64)] [.v (.int .i64),.v (.int .i64)] x
def c2p:FSem:=⟨[.v a2E,.v QI],[.v QI,.v QI],b6M⟩
def c2q(f0:((Z8×Z4))->Option ((List Int)×Int))(f1:((List Int))->Option c5C)(f2:(a5S)->Option ((List Int)×Int))(f3:(Z18)->Option ((List Int)×Int))(f4:(c5C)->Option (Int×Int))(f5:(Z1)->Option Bool)(f6:((List Int))->Option Int)(x:Unit):Option Bool:=
 (f0 (((8000:Int),((1:Int),((8:Int),()))),(([(1:Int),(2:Int),(3:Int)]:List Int),((2:Int),(0:Int))))).bind fun y1=>
 (f1 y1.1).bind fun y2=>
 (f2 y2.1).bind fun y3=>
 (f3 (y1.1,((1:Int),((3:Int),())))).bind fun y4=>
 (f4 (y2.1,(2:Int))).bind fun y5=>
 bif y1.2==(0:Int)then(
 bif y2.2==(0:Int)then(
 bif y3.2==(0:Int)then(
 bif y4.2==(0:Int)then(
 bif y5.2==(0:Int)then(
 bif ((a01 y2.1.2.2.2.2.1:Nat):Int)==(2:Int)then(
 (f5 (y3.1,([(1:Int),(2:Int),(3:Int)]:List Int))).bind fun y6=>
 bif y6 then(
 (f5 (y4.1,([(2:Int),(3:Int)]:List Int))).bind fun y7=>
 bif y7 then(
 bif y5.1==(1:Int)then(
 (f6 ([(1:Int),(2:Int),(3:Int)]:List Int)).bind fun y8=>
 some (y2.1.2.2.1==y8))
 else some false)
 else some false)
 else some false)
 else some false)
 else some false)
 else some false)
 else some false)
 else some false)
 else some false
def b8y(x:Unit):Option Bool:=c2q b3Y a7M b3j a7N b6M a2p a7L x
def b8z:FSem:=⟨[],[.v .bool],b8y⟩
def H4:Hints:=⟨[],[],[(7,[.x,.x,.x,.x,.x,.x,.x,.x,.x,.x,.x,.x,.x,.x,.x,.x,.x,.x,.x,.x,.x,.x,.x,.x,.x,.q,.q,.x,.x,.x,.q,.q,.x,.x,.x,.x,.x,.x,.x,.q,.q,.q,.q,.x,.x,.x])]⟩
theorem d1t(h:((Z8×Z4))->Option ((List Int)×Int))(g:((List Int))->Option c5C)(f:(a5S)->Option ((List Int)×Int))(k:(Z18)->Option ((List Int)×Int))(a:(c5C)->Option (Int×Int))(b:(Z1)->Option Bool)(c:((List Int))->Option Int)(x:Unit):a1c (a1d [(5,rfS c2b g),(7,rfS c2c k),(10,rfS c0L b),(11,rfS b9d h),(12,rfS b7F f),(13,rfS c2p a),(14,rfS c2a c)] [] 4077 0) H4 Tryz.f4 b8z.ps b8z.rs x=c2q h g f k a b c x:=by kernel_rfl
def a7O(x:LI):Option Z18:=some (x,0,0,())
def c9c:FSem:=⟨[.v QB],[.b Q19],a7O⟩
def a2U(x:Z18):Option Z31:=some (wrap .i64 ((x.1.length:Int)-x.2.1),x)
def c5H:FSem:=⟨[.r false (.b Q19)],[.v QI],a2U⟩
def H48:Hints:=⟨[],[],[(1,[.p,.p,.q,.q,.v,.p,.p,.q,.q,.x,.x])]⟩
def a0N(x:Z32):Option (LI×Z18):=cond (x.1.2.2.1 != 0) (some ([],x.1)) ((a2U x.1).bind fun y1=>cond (decide ((a1s x.2 0) > y1.1)) (some ([],y1.2.1,y1.2.2.1,3,y1.2.2.2.2)) (cond ((decide (0<=(wrap .i64 (y1.2.2.1+(a1s x.2 0)))))&&(decide ((wrap .i64 (y1.2.2.1+(a1s x.2 0)))<=(y1.2.1.length:Int)))) (cond ((decide (0<=y1.2.2.1))&&(decide (y1.2.2.1<=((a00 (wrap .i64 (y1.2.2.1+(a1s x.2 0))):Nat):Int)))) (cond (lim (0+(a01 (a08 (a00 y1.2.2.1) (a05 (a00 (wrap .i64 (y1.2.2.1+(a1s x.2 0)))) y1.2.1))))) (some (a02 [] (a08 (a00 y1.2.2.1) (a05 (a00 (wrap .i64 (y1.2.2.1+(a1s x.2 0)))) y1.2.1)),y1.2.1,wrap .i64 (y1.2.2.1+(a1s x.2 0)),y1.2.2.2)) none) none) none))
def c5I:FSem:=⟨[.r false (.b Q19),.v QI],[.o QV],a0N⟩
def H46:Hints:=⟨[],[],[(7,[.q,.p,.p,.q,.q,.p,.p,.q,.q,.p,.p,.q,.q,.v,.v,.v,.x,.x])]⟩
def a2V(s:Z83):Option (Z83 ⊕ (Z37 ⊕ Z54)):=(fun(a b c:Int)(d:Z18)=>cond (decide ((wrap .i64 (d.2.1+c))<(d.1.length:Int))) ((a0m d.1 (wrap .i64 (d.2.1+c))).bind fun x1=>(show Option (Int×Int×Z87)from cond (c==9) (cond (decide (x1 > 1)) (some (a,b,c,x1,true,d,())) (cond (decide (c > 0)) (some (a,b,c,x1,x1==0,d,())) (some (a,b,c,x1,false,d,())))) (cond (decide (c > 0)) (some (a,b,c,x1,x1==0,d,())) (some (a,b,c,x1,false,d,())))).bind fun z2=>cond z2.2.2.2.2.1 (some (.inr (Sum.inr ((0,(z2.2.2.2.2.2.1.1,z2.2.2.2.2.2.1.2.1,2,z2.2.2.2.2.2.1.2.2.2),()))))) (cond (decide ((wrap .u64 (wrap .i64 (7*z2.2.2.1)))<0)) none (cond (decide (z2.2.2.2.1>=128)) (some (.inl (z2.1,bits .u64 .or z2.2.1 (a0t .u64 (wrap .u64 (bits .u8 .and z2.2.2.2.1 127)) (wrap .u64 (wrap .i64 (7*z2.2.2.1)))),wrap .i64 (z2.2.2.1+1),z2.2.2.2.2.2.1,()))) (cond (decide ((bits .u64 .or z2.2.1 (a0t .u64 (wrap .u64 (bits .u8 .and z2.2.2.2.1 127)) (wrap .u64 (wrap .i64 (7*z2.2.2.1))))) > z2.1)) (some (.inr (Sum.inr ((0,(z2.2.2.2.2.2.1.1,z2.2.2.2.2.2.1.2.1,4,z2.2.2.2.2.2.1.2.2.2),()))))) (some (.inr (Sum.inr ((bits .u64 .or z2.2.1 (a0t .u64 (wrap .u64 (bits .u8 .and z2.2.2.2.1 127)) (wrap .u64 (wrap .i64 (7*z2.2.2.1)))),(z2.2.2.2.2.2.1.1,wrap .i64 ((wrap .i64 (z2.2.2.2.2.2.1.2.1+z2.2.2.1))+1),z2.2.2.2.2.2.1.2.2),()))))))))) (some (.inr (Sum.inl (d,()))))) s.1 s.2.1 s.2.2.1 s.2.2.2.1
def a0J(x:Z32):Option Z31:=cond (x.1.2.2.1 != 0) (some (0,x.1)) ((a0d a2V (x.2,0,0,x.1,())).bind fun w3=>match w3 with |.inl a4=>some (0,a4.1.1,a4.1.2.1,3,a4.1.2.2.2) |.inr b5=>some (b5.1,b5.2.1))
def c7h:FSem:=⟨[.r false (.b Q19),.v QU],[.v QU],a0J⟩
def H47:Hints:=⟨[(122,[.sv 1 QU,.sv 5 QU,6,.box pinned Q19,Qp 0 pinned],[Qe 0 [.box pinned Q19,Qp 0 pinned],Qr [.sv 4 QU,.box pinned Q19]])],[(7826,[Qn [.sv 1 QU,.sv 5 QU,6,.sv 7 QV,.sv 52 .bool,.box pinned Q19,Qp 0 pinned]])],[(5,[.p,.p,.q,.q,.v,.v,.p,.p,.q,.q,.v,.x]),(7,[.p,.p,.q,.q,.p,.p,.q,.q,.v,.v,.x,.x,.x])]⟩
def a6G(s:Z90):Option (Z90 ⊕ Z54):=(fun(a:Int)(b:LI)(c:Z18)=>cond (decide (a<(b.length:Int))) (cond ((decide (0<=a))&&(decide (a<(b.length:Int)))) (some (.inl (bits .u64 .or (a0t .u64 s.1 8) (wrap .u64 (a04 b (a00 a) 0)),wrap .i64 (a+1),b,c,()))) none) (some (.inr (s.1,c,())))) s.2.1 s.2.2.1 s.2.2.2.1
def a3X(x:Z32):Option Z31:=(a0N (x.1,a2P x.2 8)).bind fun y1=>(a0d a6G (0,0,y1.1,y1.2,())).bind fun w2=>some (w2.1,w2.2.1)
def c7i:FSem:=⟨[.r false (.b Q19),.v QI],[.v QU],a3X⟩
def H49:Hints:=⟨[(122,[.sv 6 QU,7,.own 5 5 QV,.box pinned Q19],[Qe 0 [.sv 6 QU,.box pinned Q19]])],[],[]⟩
def b1e(s:Z33):Option (Z33 ⊕ Z18):=(fun(a b c:Int)=>cond (decide (c<8)) (cond ((bits .u32 .and a 1)==1) (some (.inl (s.1,bits .u32 .xor (a0v .u32 a 1) 3988292384,b,wrap .i64 (c+1),()))) (some (.inl (s.1,a0v .u32 a 1,b,wrap .i64 (c+1),())))) (some (.inr (s.1,a,b,())))) s.2.1 s.2.2.1 s.2.2.2.1
def a7o(s:Z18):Option Z57:=cond (decide (s.2.2.1<(s.1.length:Int))) ((a0m s.1 s.2.2.1).bind fun x1=>(a0d b1e (s.1,bits .u32 .xor s.2.1 (wrap .u32 x1),s.2.2.1,0,())).bind fun w2=>some (.inl (w2.1,w2.2.1,wrap .i64 (w2.2.2.1+1),()))) (some (.inr (s.2.1,())))
def b0L(x:LI):Option Int:=(a0d a7o (x,4294967295,0,())).bind fun w3=>some (bits .u32 .xor (IntKind.max .u32) w3.1)
def c9d:FSem:=⟨[.v QB],[.v (.int .u32)],b0L⟩
def H50:Hints:=⟨[(58,[.sv 0 QB,.sv 3 (.int .u32),4],[Qe 0 [.sv 3 (.int .u32)]]),(7462,[.sv 0 QB,.sv 3 (.int .u32),4,5],[Qe 2 [.sv 0 QB,.sv 3 (.int .u32),4]])],[],[]⟩
def a9g(x:Z8):Option Bool:=cond (decide (x.1>=1)) (cond (decide (x.1<=1048576)) (cond (decide (x.2.1>=1)) (cond (decide (x.2.1<=8)) (cond (decide (x.2.2.1>=4)) (some (decide (x.2.2.1<=24))) (some false)) (some false)) (some false)) (some false)) (some false)
def d5I:FSem:=⟨[.v Q14],[.v .bool],a9g⟩
def a8u(s:(LI×(Int×Bool×Int×d8f))):Option ((LI×(Int×Bool×Int×d8f)) ⊕ (LI×(Bool×d8f))):=(fun(a:Int)(b:Bool)(c:Int)(d:Z95)(e:Z18)(f:Z95)=>cond (decide (c<a)) ((a0J (e,1048704)).bind fun y7=>cond (lim ((a01 f.2.1)+1)) ((a0J (y7.2,4096)).bind fun y8=>cond (lim ((a01 f.2.2.1)+1)) (cond b (some (.inl (s.1,a,decide ((wrap .i64 y8.1) > 0),wrap .i64 (c+1),d,y8.2,(f.1,a02 f.2.1 [wrap .i64 y7.1],a02 f.2.2.1 [wrap .i64 y8.1],f.2.2.2.1,f.2.2.2.2.1,wrap .i64 (f.2.2.2.2.2.1+(wrap .i64 y8.1)),f.2.2.2.2.2.2),()))) (some (.inl (s.1,a,false,wrap .i64 (c+1),d,y8.2,(f.1,a02 f.2.1 [wrap .i64 y7.1],a02 f.2.2.1 [wrap .i64 y8.1],f.2.2.2.1,f.2.2.2.2.1,wrap .i64 (f.2.2.2.2.2.1+(wrap .i64 y8.1)),f.2.2.2.2.2.2),())))) none) none) (some (.inr (s.1,b,d,e,f,())))) s.2.1 s.2.2.1 s.2.2.2.1 s.2.2.2.2.1 s.2.2.2.2.2.1 s.2.2.2.2.2.2.1
def a8W(x:LI):Option (Z95×Int):=cond (decide ((x.length:Int)<4)) (some (((0,0,0,()),[],[],0,0,0,()),3)) (cond (decide (4<=(x.length:Int))) (cond ((b2s (a05 4 x)) != [75,78,83,68]) (some (((0,0,0,()),[],[],0,0,0,()),2)) ((a7O x).bind fun y1=>(a0N (y1,4)).bind fun y2=>(a0J (y2.2,1048576)).bind fun y3=>(a0J (y3.2,8)).bind fun y4=>(a0J (y4.2,24)).bind fun y5=>(a0J (y5.2,4096)).bind fun y6=>(a0d a8u (x,wrap .i64 y6.1,true,0,((0,0,0,()),[],[],0,0,0,()),y6.2,((wrap .i64 y3.1,wrap .i64 y4.1,wrap .i64 y5.1,()),[],[],0,0,0,()),())).bind fun w9=>(show Option (LI×(Bool×Bool×d8f))from cond (w9.2.2.2.1.2.2.1==0) ((a2U w9.2.2.2.1).bind fun y10=>some (w9.1,w9.2.1,decide (y10.1<12),w9.2.2.1,y10.2,w9.2.2.2.2.1,())) (some (w9.1,w9.2.1,false,w9.2.2.1,w9.2.2.2.1,w9.2.2.2.2.1,()))).bind fun z11=>cond z11.2.2.1 (some (((0,0,0,()),[],[],0,0,0,()),3)) ((a3X (z11.2.2.2.2.1,8)).bind fun y12=>(a3X (y12.2,4)).bind fun y13=>cond (y13.2.2.2.1 != 0) (some (((0,0,0,()),[],[],0,0,0,()),y13.2.2.2.1)) (cond ((decide (0<=y12.2.2.1))&&(decide (y12.2.2.1<=(z11.1.length:Int)))) ((b0L (a05 (a00 y12.2.2.1) z11.1)).bind fun y14=>cond (y13.1 != (wrap .u64 y14)) (some (((0,0,0,()),[],[],0,0,0,()),5)) ((show Option (Bool×d8a)from(a9g z11.2.2.2.2.2.1.1).bind fun y15=>cond (!y15) (some (true,z11.2.2.2.1,(z11.2.2.2.2.2.1.1,z11.2.2.2.2.2.1.2.1,z11.2.2.2.2.2.1.2.2.1,y12.1,y13.2.2.1,z11.2.2.2.2.2.1.2.2.2.2.2),())) (cond (!z11.2.1) (some (true,z11.2.2.2.1,(z11.2.2.2.2.2.1.1,z11.2.2.2.2.2.1.2.1,z11.2.2.2.2.2.1.2.2.1,y12.1,y13.2.2.1,z11.2.2.2.2.2.1.2.2.2.2.2),())) (some (decide (z11.2.2.2.2.2.1.2.2.2.2.2.1 > 4194304),z11.2.2.2.1,(z11.2.2.2.2.2.1.1,z11.2.2.2.2.2.1.2.1,z11.2.2.2.2.2.1.2.2.1,y12.1,y13.2.2.1,z11.2.2.2.2.2.1.2.2.2.2.2),())))).bind fun z16=>cond z16.1 (some (((0,0,0,()),[],[],0,0,0,()),2)) (some (z16.2.2.1,0)))) none)))) none)
def d1u:FSem:=⟨[.v QB],[.v Q39,.v QI],a8W⟩
def H18:Hints:=⟨[(32762,[.sv 0 QB,6,.sv 7 .bool,8,.box 2 Q39,.box 1022 Q19,.box 5 Q37,Qp 2 2,Qp 4 1022,Qp 5 5],[Qe 0 [.sv 0 QB,.sv 7 .bool,.box 2 Q39,.box 1022 Q19,.box 5 Q37,Qp 2 2,Qp 4 1022,Qp 5 5]])],[(16382,[Qn [.sv 0 QB,.sv 7 .bool,.sv 84 .bool,.box 2 Q39,.box 1022 Q19,.box 5 Q37,Qp 2 2,Qp 4 1022,Qp 5 5]]),(16777167,[Qn [.sv 120 .bool,.box 2 Q39,.box 5 Q37,Qp 2 2,Qp 5 5]])],[(16,[.r [5,48],.r [5,49],.q,.w [51,1022,1051],.v,.q,.x,.x,.x]),(18,[.q,.q,.v,.q,.c [5,62,63],.t,.t,.u,.u,.u,.v,.u,.u,.u,.t,.e,.q,.w [0,5],.x]),(26,[.v,.r [107,1022],.r [108,1022],.r [109,1022],.r [110,1022],.w [0,2],.x])]⟩
def a5Z(s:Z72):Option (Z72 ⊕ Z0):=(fun(a:Z19)(b c:Int)=>cond (decide (c<(a.length:Int))) ((a0m a c).bind fun x2=>(show Option (Z19×Z11)from cond (decide (x2.1<0)) (some (a,b,c,true,())) (cond (decide (x2.1>=b)) (some (a,b,c,true,())) (cond (decide (x2.2.1<0)) (some (a,b,c,true,())) (cond (decide (x2.2.1>=b)) (some (a,b,c,true,())) (cond (x2.1==x2.2.1) (some (a,b,c,true,())) (cond (decide (x2.2.2.1<(-1024))) (some (a,b,c,true,())) (some (a,b,c,decide (x2.2.2.1 > 1024),())))))))).bind fun z3=>cond z3.2.2.2.1 (some (.inr (Sum.inr ((false,()))))) (some (.inl (z3.1,z3.2.1,wrap .i64 (z3.2.2.1+1),())))) (some (.inr (Sum.inl ())))) s.1 s.2.1 s.2.2.1
def a8X(x:(Z19×Int)):Option Bool:=(show Option (Z19×Int×Bool×Unit)from cond (decide (x.2<1)) (some (x.1,x.2,true,())) (cond (decide (x.2 > 8)) (some (x.1,x.2,true,())) (some (x.1,x.2,decide ((x.1.length:Int) > 16),())))).bind fun z1=>cond z1.2.2.1 (some false) ((a0d a5Z (z1.1,z1.2.1,0,())).bind fun w4=>match w4 with |.inl a5=>some true |.inr b6=>some b6.1)
def d1v:FSem:=⟨[.v (.list false Q14),.v QI],[.v .bool],a8X⟩
def f2R:Hints:=⟨[(58,[.sv 0 (.list false Q14),1,5],[Qe 0 [],Qr [.sv 4 .bool]])],[(6,[Qn [.sv 0 (.list false Q14),1,.sv 17 .bool]]),(1865,[Qn [.sv 0 (.list false Q14),1,5,.sv 64 .bool]])],[]⟩
def a8Y(x:a2Q):Option Bool:=(a9g x.2.2.1).bind fun y1=>cond y1 (cond (decide (x.2.1>=1)) (cond (decide (x.2.1<=4096)) (cond (decide (x.1>=0)) (cond (decide (x.1<=(wrap .i64 (4194304-x.2.1)))) ((a8X (x.2.2.2.1,x.2.2.1.2.1)).bind fun y2=>some y2) (some false)) (some false)) (some false)) (some false)) (some false)
def d1w:FSem:=⟨[.v Q90],[.v .bool],a8Y⟩
def b5q(s:Z33):Option (Z33 ⊕ Z18):=(fun(a b c:Int)=>cond (decide (c<8)) (cond (decide (a>=128)) (some (.inl (s.1,bits .u8 .xor (a0t .u8 a 1) 7,b,wrap .i64 (c+1),()))) (some (.inl (s.1,a0t .u8 a 1,b,wrap .i64 (c+1),())))) (some (.inr (s.1,a,b,())))) s.2.1 s.2.2.1 s.2.2.2.1
def b1O(s:Z18):Option Z57:=cond (decide (s.2.2.1<(s.1.length:Int))) ((a0m s.1 s.2.2.1).bind fun x1=>(a0d b5q (s.1,bits .u8 .xor s.2.1 x1,s.2.2.1,0,())).bind fun w2=>some (.inl (w2.1,w2.2.1,wrap .i64 (w2.2.2.1+1),()))) (some (.inr (s.2.1,())))
def b3k(x:LI):Option Int:=(a0d b1O (x,0,0,())).bind fun w3=>some w3.1
def d8C:FSem:=⟨[.v QB],[.v QV],b3k⟩
def f2S:Hints:=⟨[(58,[.sv 0 QB,.sv 3 QV,4],[Qe 0 [.sv 3 QV]]),(7462,[.sv 0 QB,.sv 3 QV,4,5],[Qe 2 [.sv 0 QB,.sv 3 QV,4]])],[],[]⟩
def b6N(x:Int):Option Int:=(show Option (Int×Unit)from cond ((bits .u64 .and x 1)==1) (some (bits .i64 .xor (-1) (wrap .i64 (a0v .u64 x 1)),())) (some (wrap .i64 (a0v .u64 x 1),()))).bind fun z1=>some z1.1
def e2O:FSem:=⟨[.v QU],[.v QI],b6N⟩
def f2T:Hints:=⟨[],[(7,[Qn [3]])],[]⟩
def b1P(s:(LI×(Int×Int×a2Q×Z18×b2R))):Option ((LI×(Int×Int×a2Q×Z18×b2R)) ⊕ (LI×(a2Q×Z18×b2R))):=(fun(a:Int)(b:a2Q)(c:Z18)(d:a2Q)=>cond (decide (a<s.2.1)) ((a0J (c,7)).bind fun y12=>(a0J (y12.2,7)).bind fun y13=>(a0J (y13.2,2048)).bind fun y14=>(b6N y14.1).bind fun y15=>cond (lim ((a01 d.2.2.2.1)+1)) (some (.inl (s.1,s.2.1,wrap .i64 (a+1),b,y14.2,(d.1,d.2.1,d.2.2.1,a02 d.2.2.2.1 ([(wrap .i64 y12.1,wrap .i64 y13.1,y15,())]:List Z8),d.2.2.2.2),()))) none) (some (.inr (s.1,b,c,d,())))) s.2.2.1 s.2.2.2.1 s.2.2.2.2.1 s.2.2.2.2.2.1
def b5O(x:LI):Option (a2Q×Int×Int×Int):=cond (decide ((x.length:Int)<2)) (some ((0,0,(0,0,0,()),[],[],()),0,0,3)) ((show Option (LI×(Bool×b2R))from(a0m x 0).bind fun x1=>cond (x1 != 245) (some (x,true,(0,0,(0,0,0,()),[],[],()),())) ((a0m x 1).bind fun x2=>some (x,x2 != 75,(0,0,(0,0,0,()),[],[],()),()))).bind fun z3=>cond z3.2.1 (some ((0,0,(0,0,0,()),[],[],()),0,0,2)) ((a7O z3.1).bind fun y4=>(a0N (y4,2)).bind fun y5=>(a0J (y5.2,4194304)).bind fun y6=>(a0J (y6.2,4096)).bind fun y7=>(a0J (y7.2,1048576)).bind fun y8=>(a0J (y8.2,8)).bind fun y9=>(a0J (y9.2,24)).bind fun y10=>(a0J (y10.2,16)).bind fun y11=>(a0d b1P (z3.1,wrap .i64 y11.1,0,z3.2.2.1,y11.2,(wrap .i64 y6.1,wrap .i64 y7.1,(wrap .i64 y8.1,wrap .i64 y9.1,wrap .i64 y10.1,()),[],[],()),())).bind fun w16=>(a0J (w16.2.2.1,1048576)).bind fun y17=>(a0N (y17.2,1)).bind fun y18=>cond (y18.2.2.2.1 != 0) (some ((0,0,(0,0,0,()),[],[],()),0,0,y18.2.2.2.1)) (cond (decide (0<(y18.1.length:Int))) (cond ((decide (0<=y17.2.2.1))&&(decide (y17.2.2.1<=(w16.1.length:Int)))) ((b3k (a05 (a00 y17.2.2.1) w16.1)).bind fun y19=>cond ((a04 y18.1 0 0) != y19) (some ((0,0,(0,0,0,()),[],[],()),0,0,5)) ((a8Y w16.2.2.2.1).bind fun y20=>cond (!y20) (some ((0,0,(0,0,0,()),[],[],()),0,0,2)) (some (w16.2.2.2.1,wrap .i64 y17.1,wrap .i64 (y17.2.2.1+1),0)))) none) none)))
def d8D:FSem:=⟨[.v QB],[.v Q88,.v QI,.v QI,.v QI],b5O⟩
def H98:Hints:=⟨[(16378,[.sv 0 QB,8,9,.box 2 Q88,.box 1031 Q19,.box 7 Q87,Qp 2 2,Qp 6 1031,Qp 7 7],[Qe 0 [.sv 0 QB,.box 2 Q88,.box 1031 Q19,.box 7 Q87,Qp 2 2,Qp 6 1031,Qp 7 7]])],[(14,[Qn [.sv 0 QB,.sv 28 .bool,.box 2 Q88,Qp 2 2]])],[(17,[.r [7,70],.r [7,71],.v,.v,.q,.w [75,1031,1075],.v,.v,.q,.x,.x,.x]),(22,[.v,.r [97,1031],.r [98,1031],.r [99,1031],.r [100,1031],.w [0,2],.v,.v,.x]),(23,[.q,.q,.q,.v,.v,.v,.v,.x,.x])]⟩
def b7G(x:Z1):Option Bool:=some ((b2s x.1)==(b2s x.2))
def e0M:FSem:=⟨[.v QB,.v QB],[.v .bool],b7G⟩
def b1t(s:Z20):Option (Z20 ⊕ (LI×Unit)):=cond (decide (s.2.1>=0)) (cond (decide ((wrap .u64 (wrap .i64 (8*s.2.1)))<0)) none (cond (lim ((a01 s.2.2.1)+1)) (some (.inl (s.1,wrap .i64 (s.2.1-1),a02 s.2.2.1 [wrap .u8 (a0v .u64 s.1 (wrap .u64 (wrap .i64 (8*s.2.1))))],()))) none)) (some (.inr (s.2.2.1,())))
def b6O(x:(Int×Int)):Option LI:=(a0d b1t (x.1,wrap .i64 ((a1s (a2P x.2 8) 0)-1),[],())).bind fun w1=>some w1.1
def e2P:FSem:=⟨[.v QU,.v QI],[.o QV],b6O⟩
def f2U:Hints:=⟨[(58,[.sv 0 QU,6,.own 5 5 QV],[Qe 0 [.own 5 5 QV]])],[],[]⟩
def b3l(s:Z33):Option (Z33 ⊕ Z18):=(fun(a b c:Int)=>cond (decide (c<8)) (cond (decide (a>=32768)) (some (.inl (s.1,bits .u16 .xor (a0t .u16 a 1) 32773,b,wrap .i64 (c+1),()))) (some (.inl (s.1,a0t .u16 a 1,b,wrap .i64 (c+1),())))) (some (.inr (s.1,a,b,())))) s.2.1 s.2.2.1 s.2.2.2.1
def a9z(s:Z18):Option Z57:=cond (decide (s.2.2.1<(s.1.length:Int))) ((a0m s.1 s.2.2.1).bind fun x1=>(a0d b3l (s.1,bits .u16 .xor s.2.1 (a0t .u16 (wrap .u16 x1) 8),s.2.2.1,0,())).bind fun w2=>some (.inl (w2.1,w2.2.1,wrap .i64 (w2.2.2.1+1),()))) (some (.inr (s.2.1,())))
def b0i(x:LI):Option Int:=(a0d a9z (x,0,0,())).bind fun w3=>some w3.1
def d3y:FSem:=⟨[.v QB],[.v (.int .u16)],b0i⟩
def f2V:Hints:=⟨[(58,[.sv 0 QB,.sv 3 (.int .u16),4],[Qe 0 [.sv 3 (.int .u16)]]),(7462,[.sv 0 QB,.sv 3 (.int .u16),4,5],[Qe 2 [.sv 0 QB,.sv 3 (.int .u16),4]])],[],[]⟩
def b0M(x:LI):Option Z18:=some (x,0,0,())
def c9e:FSem:=⟨[.v QB],[.b Q19],b0M⟩
def a5k(x:Int):Option Bool:=cond (decide (x>=2)) (some (decide (x<=5))) (some false)
def d1x:FSem:=⟨[.v QI],[.v .bool],a5k⟩
def a4v(s:(Z5×Z39)):Option ((Z5×Z39) ⊕ Z0):=(fun(a:Int)=>cond (decide (a<(s.1.length:Int))) ((a0m s.1 a).bind fun x1=>(a0m s.2.1 a).bind fun x2=>cond (!(eqT Q5 x1 x2)) (some (.inr (Sum.inr ((false,()))))) (some (.inl (s.1,s.2.1,wrap .i64 (a+1),())))) (some (.inr (Sum.inl ())))) s.2.2.1
def a8v(x:(Z5×Z5)):Option Bool:=cond ((x.1.length:Int) != (x.2.length:Int)) (some false) ((a0d a4v (x.1,x.2,0,())).bind fun w3=>match w3 with |.inl a4=>some true |.inr b5=>some b5.1)
def c5J:FSem:=⟨[.v (.list false Q5),.v (.list false Q5)],[.v .bool],a8v⟩
def f2W:Hints:=⟨[(58,[.sv 0 (.list false Q5),.sv 1 (.list false Q5),5],[Qe 0 [],Qr [.sv 4 .bool]])],[],[(6,[.v,.v,.v,.v,.v,.v,.v,.v,.x])]⟩
def b3Z(x:(Z6×Z6)):Option Bool:=cond (x.1.1==x.2.1) ((a2p (x.1.2.1,x.2.2.1)).bind fun y1=>some y1) (some false)
def c9f:FSem:=⟨[.v Q13,.v Q13],[.v .bool],b3Z⟩
def a8Z(x:(a2H×a2H)):Option Bool:=cond (x.1.1==x.2.1) (cond (x.1.2.1==x.2.2.1) (cond (x.1.2.2.1==x.2.2.2.1) (cond (x.1.2.2.2.1==x.2.2.2.2.1) (cond (x.1.2.2.2.2.1==x.2.2.2.2.2.1) ((a2p (x.1.2.2.2.2.2.1,x.2.2.2.2.2.2.1)).bind fun y1=>cond y1 (cond (eqT (.arr 3 (.int .i64)) x.1.2.2.2.2.2.2.1 x.2.2.2.2.2.2.2.1) ((a8v (x.1.2.2.2.2.2.2.2.1,x.2.2.2.2.2.2.2.2.1)).bind fun y2=>cond y2 ((a2p (x.1.2.2.2.2.2.2.2.2.1,x.2.2.2.2.2.2.2.2.2.1)).bind fun y3=>cond y3 ((b3Z (x.1.2.2.2.2.2.2.2.2.2.1,x.2.2.2.2.2.2.2.2.2.2.1)).bind fun y4=>cond y4 ((a2p (x.1.2.2.2.2.2.2.2.2.2.2.1,x.2.2.2.2.2.2.2.2.2.2.2.1)).bind fun y5=>some y5) (some false)) (some false)) (some false)) (some false)) (some false)) (some false)) (some false)) (some false)) (some false)) (some false)
def d1y:FSem:=⟨[.v Q68,.v Q68],[.v .bool],a8Z⟩
def b4B(x:a2H):Option a2H:=cond (x.1==0) (some (x.1,0,0,0,0,[],a03 3 0,[],x.2.2.2.2.2.2.2.2.1,(0,[],()),[],())) (cond (x.1==1) (some (x.1,x.2.1,0,0,0,[],a03 3 0,[],x.2.2.2.2.2.2.2.2.1,(0,[],()),[],())) ((show Option c8T from cond (x.1==2) (some ((0,0,0,0,0,[],a03 3 0,[],[],(0,[],()),[],()),(x.1,x.2.1,x.2.2.1,0,0,[],a03 3 0,[],x.2.2.2.2.2.2.2.2.1,x.2.2.2.2.2.2.2.2.2.1,x.2.2.2.2.2.2.2.2.2.2.1,()),())) (cond (x.1==3) (some ((0,0,0,0,0,[],a03 3 0,[],[],(0,[],()),[],()),(x.1,x.2.1,0,x.2.2.2.1,0,x.2.2.2.2.2.1,a03 3 0,[],x.2.2.2.2.2.2.2.2.1,x.2.2.2.2.2.2.2.2.2.1,x.2.2.2.2.2.2.2.2.2.2.1,()),())) (cond (x.1==4) (some ((0,0,0,0,0,[],a03 3 0,[],[],(0,[],()),[],()),(x.1,x.2.1,0,x.2.2.2.1,x.2.2.2.2.1,x.2.2.2.2.2.1,x.2.2.2.2.2.2.1,[],x.2.2.2.2.2.2.2.2.1,x.2.2.2.2.2.2.2.2.2.1,x.2.2.2.2.2.2.2.2.2.2.1,()),())) (cond (x.1==5) (some ((0,0,0,0,0,[],a03 3 0,[],[],(0,[],()),[],()),(x.1,x.2.1,0,0,0,[],a03 3 0,x.2.2.2.2.2.2.2.1,[],x.2.2.2.2.2.2.2.2.2.1,x.2.2.2.2.2.2.2.2.2.2.1,()),())) (some ((0,0,0,0,0,[],a03 3 0,[],[],(0,[],()),[],()),(x.1,x.2.1,0,0,0,[],a03 3 0,[],x.2.2.2.2.2.2.2.2.1,x.2.2.2.2.2.2.2.2.2.1,x.2.2.2.2.2.2.2.2.2.2.1,()),())))))).bind fun z1=>some z1.2.1))
def d5J:FSem:=⟨[.v Q68],[.v Q68],b4B⟩
def f2X:Hints:=⟨[],[(127,[Qn [.box 2 Q68,.box 3 Q68,Qp 2 2,Qp 3 3]])],[(7,[.v,.v,.v,.v,.q,.w [0,3],.x,.x]),(12,[.v,.v,.v,.v,.q,.w [0,3],.x,.x]),(14,[.v,.v,.v,.v,.v,.v,.v,.v,.q,.w [0,3],.q,.w [0,3],.q,.w [0,3],.x,.x])]⟩
def a4O(s:Z18):Option (Z18 ⊕ (Z7 ⊕ (Bool×Unit))):=(fun(a:LI)(b c:Int)=>cond (decide (c<(a.length:Int))) ((show Option Z36 from(a0m a c).bind fun x1=>cond (decide (x1<(-32768))) (some (a,b,c,true,())) ((a0m a c).bind fun x2=>some (a,b,c,decide (x2>=32768),()))).bind fun z3=>cond z3.2.2.2.1 (some (.inr (Sum.inr ((false,()))))) (some (.inl (z3.1,z3.2.1,wrap .i64 (z3.2.2.1+1),())))) (some (.inr (Sum.inl (a,b,()))))) s.1 s.2.1 s.2.2.1
def a5a(x:(LI×Int)):Option Bool:=(a0d a4O (x.1,x.2,0,())).bind fun w4=>match w4 with |.inl a5=>(cond (decide ((a5.1.length:Int)>=1)) (cond (decide ((a5.1.length:Int)<=32)) (cond (decide (a5.2.1>=0)) (some (decide (a5.2.1<=15))) (some false)) (some false)) (some false)) |.inr b6=>some b6.1
def c7j:FSem:=⟨[.v QL,.v QI],[.v .bool],a5a⟩
def f2Y:Hints:=⟨[(26,[.sv 0 QL,1,5],[Qe 0 [.sv 0 QL,1],Qr [.sv 4 .bool]])],[(420,[Qn [.sv 0 QL,1,5,.sv 23 .bool]])],[]⟩
def a6a(s:Z20):Option (Z20 ⊕ ((Int×Unit) ⊕ (Bool×Unit))):=(fun(a:Int)(b:LI)=>cond (decide (a<3)) ((show Option (Int×Int×Z9)from(a0m b a).bind fun x1=>cond (decide (x1<(-64))) (some (s.1,a,true,b,())) ((a0m b a).bind fun x2=>some (s.1,a,decide (x2 > 64),b,()))).bind fun z3=>cond z3.2.2.1 (some (.inr (Sum.inr ((false,()))))) (some (.inl (z3.1,wrap .i64 (z3.2.1+1),z3.2.2.2.1,())))) (some (.inr (Sum.inl (s.1,()))))) s.2.1 s.2.2.1
def a9a(x:(Int×LI)):Option Bool:=(a0d a6a (x.1,0,x.2,())).bind fun w4=>match w4 with |.inl a5=>(cond (decide (a5.1>=2)) (some (decide (a5.1<=1024))) (some false)) |.inr b6=>some b6.1
def d1z:FSem:=⟨[.v QI,.v (.arr 3 QI)],[.v .bool],a9a⟩
def f2Z:Hints:=⟨[(26,[0,5,.vp 3 (.arr 3 QI)],[Qe 0 [0],Qr [.sv 4 .bool]])],[(420,[Qn [0,5,.sv 19 .bool,.vp 3 (.arr 3 QI)]])],[]⟩
def a7P(x:(Int×Int×Unit)):Option Bool:=cond (decide (x.1>=1)) (cond (decide (x.1<=32)) (cond (decide (x.2.1>=0)) (some (decide (x.2.1<=8))) (some false)) (some false)) (some false)
def c9g:FSem:=⟨[.v Q5],[.v .bool],a7P⟩
def a5s(s:Z39):Option (Z39 ⊕ ((Z5×Unit) ⊕ (Bool×Unit))):=cond (decide (s.2.1<(s.1.length:Int))) ((a0m s.1 s.2.1).bind fun x1=>(a7P x1).bind fun y2=>cond (!y2) (some (.inr (Sum.inr ((false,()))))) (some (.inl (s.1,wrap .i64 (s.2.1+1),())))) (some (.inr (Sum.inl (s.1,()))))
def a7Q(x:Z5):Option Bool:=(a0d a5s (x,0,())).bind fun w3=>match w3 with |.inl a4=>some (decide ((a4.1.length:Int)<=3)) |.inr b5=>some b5.1
def c9h:FSem:=⟨[.v (.list false Q5)],[.v .bool],a7Q⟩
def f3a:Hints:=⟨[(26,[.sv 0 (.list false Q5),3],[Qe 0 [.sv 0 (.list false Q5)],Qr [.sv 2 .bool]])],[],[]⟩
def a9h(x:b2Q):Option Int:=cond (x.1.1==0) (some 1) (cond (x.1.1==1) (some x.2) (cond (x.1.1==2) ((show Option d7Z from cond (decide (x.1.2.2.1>=0)) (cond (decide (x.1.2.2.1<=4)) (some (decide (x.1.2.2.1<=x.2),x.1,())) (some (false,x.1,()))) (some (false,x.1,()))).bind fun z1=>cond z1.1 (some z1.2.1.2.2.1) (some (-1))) ((show Option d8b from cond (x.1.1==3) (some (x.2,x.1.1,x.1.1==3,x.1,())) (some (x.2,x.1.1,x.1.1==4,x.1,()))).bind fun z2=>cond z2.2.2.1 ((show Option d7Z from(a5a (z2.2.2.2.1.2.2.2.2.2.1,z2.2.2.2.1.2.2.2.1)).bind fun y3=>cond y3 (cond (decide ((z2.2.2.2.1.2.2.2.2.2.1.length:Int)<=z2.1)) (cond (z2.2.2.2.1.1==3) (some (true,z2.2.2.2.1,())) ((a9a (z2.2.2.2.1.2.2.2.2.1,z2.2.2.2.1.2.2.2.2.2.2.1)).bind fun y4=>some (y4,z2.2.2.2.1,()))) (some (false,z2.2.2.2.1,()))) (some (false,z2.2.2.2.1,()))).bind fun z5=>cond z5.1 (some (z5.2.1.2.2.2.2.2.1.length:Int)) (some (-1))) (cond (z2.2.1==5) ((show Option (Bool×Unit)from cond (decide ((z2.2.2.2.1.2.2.2.2.2.2.2.1.length:Int) > 0)) ((a7Q z2.2.2.2.1.2.2.2.2.2.2.2.1).bind fun y6=>some (y6,())) (some (false,()))).bind fun z7=>cond z7.1 (some 0) (some (-1))) (some (-1))))))
def d5K:FSem:=⟨[.v Q68,.v QI],[.v QI],a9h⟩
def f3b:Hints:=⟨[],[(1726,[Qn [.sv 27 .bool,.vp 2 Q68]]),(1727,[Qn [1,6,.sv 30 .bool,.vp 2 Q68]]),(6910,[Qn [.sv 56 .bool,.vp 2 Q68]]),(27646,[Qn [.sv 70 .bool]])],[]⟩
def a3p(x:Int):Option Bool:=cond (decide (x>=(-1073741824))) (some (decide (x<1073741824))) (some false)
def e0N:FSem:=⟨[.v QI],[.v .bool],a3p⟩
def a6H(s:Z7):Option (Z7 ⊕ Z0):=cond (decide (s.2.1<(s.1.length:Int))) ((a0m s.1 s.2.1).bind fun x1=>(a3p x1).bind fun y2=>cond (!y2) (some (.inr (Sum.inr ((false,()))))) (some (.inl (s.1,wrap .i64 (s.2.1+1),())))) (some (.inr (Sum.inl ())))
def a2g(x:LI):Option Bool:=(a0d a6H (x,0,())).bind fun w3=>match w3 with |.inl a4=>some true |.inr b5=>some b5.1
def d3z:FSem:=⟨[.v QL],[.v .bool],a2g⟩
def f3c:Hints:=⟨[(26,[.sv 0 QL,3],[Qe 0 [],Qr [.sv 2 .bool]])],[],[]⟩
def b6P(x:(Int×Int)):Option Bool:=cond (decide (x.1>=1)) (cond (decide (x.1<=4096)) (cond (decide (x.2>=0)) (some (decide (x.2<=x.1))) (some false)) (some false)) (some false)
def e2Q:FSem:=⟨[.v QI,.v QI],[.v .bool],b6P⟩
def a6I(s:Z53):Option (Z53 ⊕ Z6):=(fun(a b c:Int)(d:LI)=>cond (decide ((wrap .u64 a)<0)) none (cond (decide (c<(a0t .i64 1 (wrap .u64 a)))) (cond (decide ((wrap .u64 a)<0)) none (cond (lim ((a01 d)+1)) (some (.inl (a,s.2.1,b,wrap .i64 (c+1),a02 d [a0v .i64 s.2.1 (wrap .u64 a)],()))) none)) (some (.inr (b,d,()))))) s.1 s.2.2.1 s.2.2.2.1 s.2.2.2.2.1
def a3Y(x:(Int×Int×Int)):Option LI:=(show Option Z27 from(b6P (x.2.1,x.2.2)).bind fun y1=>cond (!y1) (some (x.1,x.2.1,x.2.2,true,())) (cond (decide (x.1<0)) (some (x.1,x.2.1,x.2.2,true,())) (cond (decide (x.1 > 8)) (some (x.1,x.2.1,x.2.2,true,())) (cond (decide ((wrap .u64 x.1)<0)) none (cond ((a0t .i64 1 (wrap .u64 x.1))==0) none (cond ((a09 x.2.1 (a0t .i64 1 (wrap .u64 x.1))) != 0) (some (x.1,x.2.1,x.2.2,true,())) (cond (decide ((wrap .u64 x.1)<0)) none (some (x.1,x.2.1,x.2.2,decide ((a0v .i64 x.2.1 (wrap .u64 x.1))<x.2.2),()))))))))).bind fun z2=>cond z2.2.2.2.1 (some []) ((a0d a6I (z2.1,z2.2.1,z2.2.2.1,0,[],())).bind fun w3=>cond (decide (0<(w3.2.1.length:Int))) (cond (decide (0<(w3.2.1.length:Int))) (some (a07 w3.2.1 0 (wrap .i64 ((a04 w3.2.1 0 0)-w3.1)))) none) none)
def c7k:FSem:=⟨[.v QI,.v QI,.v QI],[.o QI],a3Y⟩
def f3d:Hints:=⟨[(122,[0,1,2,8,.own 7 7 QI],[Qe 0 [2,.own 7 7 QI]])],[(6,[Qn [0,1,2,.sv 36 .bool]])],[]⟩
def a1J(x:Int):Option Bool:=cond (decide (x>=0)) (some (decide (x<=25))) (some false)
def c9i:FSem:=⟨[.v QI],[.v .bool],a1J⟩
def a4C(s:(Int×Z23)):Option ((Int×Z23) ⊕ Z0):=cond (decide (s.1<(s.2.1.2.1.length:Int))) ((show Option (Int×Z41)from(a0m s.2.1.2.1 s.1).bind fun x3=>(a1J x3).bind fun y4=>cond (!y4) ((a0m s.2.1.2.1 s.1).bind fun x5=>some (s.1,x5 != 31,s.2.1,())) (some (s.1,false,s.2.1,()))).bind fun z6=>cond z6.2.1 (some (.inr (Sum.inr ((false,()))))) (some (.inl (wrap .i64 (z6.1+1),z6.2.2.1,())))) (some (.inr (Sum.inl ())))
def a6s(x:(Z6×Int×Int)):Option Bool:=(a3Y (x.1.1,x.2.1,x.2.2)).bind fun y1=>(show Option Z41 from cond ((y1.length:Int)==0) (some (true,x.1,())) (some ((y1.length:Int) != (x.1.2.1.length:Int),x.1,()))).bind fun z2=>cond z2.1 (some false) ((a0d a4C (0,z2.2.1,())).bind fun w7=>match w7 with |.inl a8=>some true |.inr b9=>some b9.1)
def d1A:FSem:=⟨[.v Q13,.v QI,.v QI],[.v .bool],a6s⟩
def f3e:Hints:=⟨[(122,[8,.vp 3 Q13],[Qe 0 [],Qr [.sv 6 .bool]])],[(14,[Qn [.sv 24 .bool,.vp 3 Q13]]),(1956,[Qn [8,.sv 46 .bool,.vp 3 Q13]])],[]⟩
def b6Q(x:Int):Option LI:=cond ((decide (0<=x))&&(decide (x<5))) (some (a04 ([[],[1],[2,(-1)],[3,(-3),1],[4,(-6),4,(-1)]]:List LI) (a00 x) [])) none
def d3A:FSem:=⟨[.v QI],[.v QL],b6Q⟩
def a4P(s:(LI×(Int×Z66))):Option ((LI×(Int×Z66)) ⊕ (LI×Z62)):=(fun(a:Int)(b:LI)(c d e:Int)(f:LI)=>cond (decide (e<a)) ((a0m b e).bind fun x7=>cond ((decide (0<=(wrap .i64 ((wrap .i64 ((f.length:Int)-1))-e))))&&(decide ((wrap .i64 ((wrap .i64 ((f.length:Int)-1))-e))<(f.length:Int)))) (some (.inl (s.1,a,b,c,wrap .i64 (d+(wrap .i64 (x7*(a04 f (a00 (wrap .i64 ((wrap .i64 ((f.length:Int)-1))-e))) 0)))),wrap .i64 (e+1),f,()))) none) (some (.inr (s.1,a,b,c,d,f,())))) s.2.1 s.2.2.1 s.2.2.2.1 s.2.2.2.2.1 s.2.2.2.2.2.1 s.2.2.2.2.2.2.1
def a6J(s:(LI×(Int×Z29))):Option ((LI×(Int×Z29)) ⊕ Z48):=(fun(a:Int)(b:LI)=>cond (decide (a<(s.1.length:Int))) ((a0m s.1 a).bind fun x6=>(a0d a4P (s.1,s.2.1,s.2.2.1,a,x6,0,b,())).bind fun w8=>(a3p w8.2.2.2.2.1).bind fun y9=>cond (!y9) (some (.inr (Sum.inr ((6,[],()))))) (cond (lim ((a01 w8.2.2.2.2.2.1)+1)) (some (.inl (w8.1,w8.2.1,w8.2.2.1,wrap .i64 (w8.2.2.2.1+1),a02 w8.2.2.2.2.2.1 [w8.2.2.2.2.1],()))) none)) (some (.inr (Sum.inl (b,()))))) s.2.2.2.1 s.2.2.2.2.1
def a9A(x:Z13):Option (LI×Int):=(show Option Z49 from cond (decide (x.2.2<0)) (some (x.1,x.2.1,x.2.2,true,())) (cond (decide (x.2.2 > 4)) (some (x.1,x.2.1,x.2.2,true,())) (some (x.1,x.2.1,x.2.2,(x.1.length:Int) != x.2.2,())))).bind fun z1=>cond z1.2.2.2.1 (some ([],1)) ((show Option Z49 from(a2g z1.1).bind fun y2=>cond (!y2) (some (z1.1,z1.2.1,z1.2.2.1,true,())) ((a2g z1.2.1).bind fun y3=>some (z1.1,z1.2.1,z1.2.2.1,!y3,()))).bind fun z4=>cond z4.2.2.2.1 (some ([],6)) (cond (lim (0+(a01 z4.1))) ((b6Q z4.2.2.1).bind fun y5=>(a0d a6J (z4.2.1,z4.2.2.1,y5,0,a02 [] z4.1,())).bind fun w10=>match w10 with |.inl a11=>some (a11.1,0) |.inr b12=>some (b12.2.1,b12.1)) none))
def c7l:FSem:=⟨[.v QL,.v QL,.v QI],[.o QI,.v QI],a9A⟩
def f3f:Hints:=⟨[(250,[.sv 1 QL,2,.sv 9 QL,10,.own 8 8 QI],[Qe 0 [.own 8 8 QI],Qr [7,.own 6 6 QI]]),(64074,[.sv 1 QL,2,.sv 9 QL,10,11,12,.own 8 8 QI],[Qe 2 [.sv 1 QL,2,.sv 9 QL,10,11,.own 8 8 QI]])],[(6,[Qn [.sv 0 QL,.sv 1 QL,2,.sv 24 .bool]]),(14,[Qn [.sv 0 QL,.sv 1 QL,2,.sv 32 .bool]])],[(13,[.v,.v,.v,.v,.v,.q,.q,.q,.v,.v,.v,.q,.q,.v,.x,.x])]⟩
def a3Z(s:Z61):Option (Z61 ⊕ ((Int×Int×Unit) ⊕ (Int×Unit))):=(fun(a b:LI)(c d e:Int)=>cond (decide (e<(b.length:Int))) (cond (decide (e<(a.length:Int))) ((a0m a (wrap .i64 ((wrap .i64 ((a.length:Int)-1))-e))).bind fun x2=>(a3p x2).bind fun y3=>cond (!y3) (some (.inr (Sum.inr ((0,()))))) ((a0m b e).bind fun x4=>some (.inl (a,b,c,wrap .i64 (d+(wrap .i64 (x4*x2))),wrap .i64 (e+1),())))) (some (.inr (Sum.inl (c,d,()))))) (some (.inr (Sum.inl (c,d,()))))) s.1 s.2.1 s.2.2.1 s.2.2.2.1 s.2.2.2.2.1
def a7p(x:Z13):Option Int:=(a5a (x.2.1,x.2.2)).bind fun y1=>cond (!y1) (some 0) ((a0d a3Z (x.1,x.2.1,x.2.2,0,0,())).bind fun w5=>match w5 with |.inl a6=>(cond (decide ((wrap .u64 a6.1)<0)) none (some (a0v .i64 a6.2.1 (wrap .u64 a6.1)))) |.inr b7=>some b7.1)
def c3U:FSem:=⟨[.v QL,.v QL,.v QI],[.v QI],a7p⟩
def f3g:Hints:=⟨[(122,[.sv 0 QL,.sv 1 QL,2,7,8],[Qe 0 [2,7],Qr [6]])],[],[]⟩
def a6i(s:(LI×Z42)):Option ((LI×Z42) ⊕ Z48):=(fun(a b:Int)(c:LI)=>cond (decide (b<(s.1.length:Int))) ((a0m s.1 b).bind fun x6=>(a7p (c,s.2.1,a)).bind fun y7=>(a3p (wrap .i64 (x6+y7))).bind fun y8=>cond (!y8) (some (.inr (Sum.inr ((6,[],()))))) (cond (lim ((a01 c)+1)) (some (.inl (s.1,s.2.1,a,wrap .i64 (b+1),a02 c [wrap .i64 (x6+y7)],()))) none)) (some (.inr (Sum.inl (c,()))))) s.2.2.1 s.2.2.2.1 s.2.2.2.2.1
def a6b(x:(LI×Z13)):Option (LI×Int):=(show Option Z78 from(a5a (x.2.2.1,x.2.2.2)).bind fun y1=>cond (!y1) (some (x.1,x.2.1,x.2.2.1,x.2.2.2,true,())) (some (x.1,x.2.1,x.2.2.1,x.2.2.2,(x.1.length:Int) != (x.2.2.1.length:Int),()))).bind fun z2=>cond z2.2.2.2.2.1 (some ([],1)) ((show Option Z78 from(a2g z2.1).bind fun y3=>cond (!y3) (some (z2.1,z2.2.1,z2.2.2.1,z2.2.2.2.1,true,())) ((a2g z2.2.1).bind fun y4=>some (z2.1,z2.2.1,z2.2.2.1,z2.2.2.2.1,!y4,()))).bind fun z5=>cond z5.2.2.2.2.1 (some ([],6)) (cond (lim (0+(a01 z5.1))) ((a0d a6i (z5.2.1,z5.2.2.1,z5.2.2.2.1,0,a02 [] z5.1,())).bind fun w9=>match w9 with |.inl a10=>some (a10.1,0) |.inr b11=>some (b11.2.1,b11.1)) none))
def c5K:FSem:=⟨[.v QL,.v QL,.v QL,.v QI],[.o QI,.v QI],a6b⟩
def f3h:Hints:=⟨[(250,[.sv 1 QL,.sv 2 QL,3,11,.own 10 10 QI],[Qe 0 [.own 10 10 QI],Qr [9,.own 8 8 QI]])],[(6,[Qn [.sv 0 QL,.sv 1 QL,.sv 2 QL,3,.sv 23 .bool]]),(14,[Qn [.sv 0 QL,.sv 1 QL,.sv 2 QL,3,.sv 31 .bool]])],[(9,[.v,.v,.v,.v,.q,.v,.v,.q,.x,.x])]⟩
def a4Q(s:Z66):Option (Z66 ⊕ (Int×Unit)):=(fun(a:LI)(b c d:Int)(e:LI)=>cond (decide (d<3)) (cond (decide ((wrap .i64 ((wrap .i64 ((wrap .i64 ((a.length:Int)-b))-1))+d))>=0)) ((a0m e d).bind fun x1=>(a0m a (wrap .i64 ((wrap .i64 ((wrap .i64 ((a.length:Int)-b))-1))+d))).bind fun x2=>some (.inl (a,b,wrap .i64 (c+(wrap .i64 (x1*x2))),wrap .i64 (d+1),e,()))) (some (.inl (a,b,c,wrap .i64 (d+1),e,())))) (some (.inr (c,())))) s.1 s.2.1 s.2.2.1 s.2.2.2.1 s.2.2.2.2.1
def a9B(x:Z14):Option Int:=(a0d a4Q (x.1,x.2.1,0,0,x.2.2,())).bind fun w3=>some (a0v .i64 w3.1 6)
def c7m:FSem:=⟨[.v QL,.v QI,.v (.arr 3 QI)],[.v QI],a9B⟩
def f3i:Hints:=⟨[(58,[.sv 0 QL,1,7,8,.vp 5 (.arr 3 QI)],[Qe 0 [7]])],[],[(7,[.v,.v,.v,.v,.v,.v,.v,.v,.v,.x,.x])]⟩
def a7q(s:Z76):Option (Z76 ⊕ Z48):=(fun(a:Int)(b c:LI)=>cond (decide (a<(s.1.length:Int))) ((a0m s.1 a).bind fun x3=>(a9B (b,s.2.1,c)).bind fun y4=>(a3p (wrap .i64 (x3+y4))).bind fun y5=>cond (!y5) (some (.inr (Sum.inr ((6,[],()))))) (cond (lim ((a01 b)+1)) (some (.inl (s.1,s.2.1,wrap .i64 (a+1),a02 b [wrap .i64 (x3+y4)],c,()))) none)) (some (.inr (Sum.inl (b,()))))) s.2.2.1 s.2.2.2.1 s.2.2.2.2.1
def b0N(x:Z14):Option (LI×Int):=(a9a (x.2.1,x.2.2)).bind fun y1=>cond (!y1) (some ([],1)) ((a2g x.1).bind fun y2=>cond (!y2) (some ([],6)) ((a0d a7q (x.1,x.2.1,0,[],x.2.2,())).bind fun w6=>match w6 with |.inl a7=>some (a7.1,0) |.inr b8=>some (b8.2.1,b8.1)))
def c9j:FSem:=⟨[.v QL,.v QI,.v (.arr 3 QI)],[.o QI,.v QI],b0N⟩
def f3j:Hints:=⟨[(250,[.sv 0 QL,1,9,.own 8 8 QI,.vp 5 (.arr 3 QI)],[Qe 0 [.own 8 8 QI],Qr [7,.own 6 6 QI]])],[],[(9,[.v,.v,.v,.v,.q,.v,.v,.q,.x,.x])]⟩
def a9C(x:(Int×Int×Unit)):Option Z44:=(a7P x).bind fun y1=>cond (!y1) none (cond ((decide (0<=x.1))&&((decide (x.1<=x.1))&&(lim (a00 x.1)))) (cond ((decide (0<=x.1))&&((decide (x.1<=x.1))&&(lim (a00 x.1)))) (some ((x.2.1,a03 (a00 x.1) 0,a03 (a00 x.1) 0,()),0)) none) none)
def c7n:FSem:=⟨[.v Q5],[.b Q20,.v QI],a9C⟩
def f3k:Hints:=⟨[],[],[(3,[.v,.v,.v,.v,.q,.v,.v,.q,.x,.x,.x,.x])]⟩
def b3m(x:Int):Option Int:=some (a2P (a1s x (-1073741824)) 1073741823)
def d8E:FSem:=⟨[.v QI],[.v QI],b3m⟩
def a5b(s:Z82):Option (Z82 ⊕ Z69):=(fun(a:Int)(b:Z28)=>cond (decide (a<(b.2.1.length:Int))) (cond ((decide (0<=a))&&(decide (a<(b.2.1.length:Int)))) (cond ((decide (0<=a))&&(decide (a<(b.2.2.1.length:Int)))) (some (.inl (wrap .i64 (s.1+(wrap .i64 ((a04 b.2.1 (a00 a) 0)*(a04 b.2.2.1 (a00 a) 0)))),wrap .i64 (a+1),b,()))) none) none) (some (.inr (s.1,b,())))) s.2.1 s.2.2.1
end Go.Ab
namespace Go.Ab
open IntKind(wrap)
open Go.Proofs
set_option maxRecDepth 100000
set_option linter.unusedVariables false
def a4R(x:Z28):Option Z43:=(a0d a5b (0,0,x,())).bind fun w1=>(b3m (a0v .i64 w1.1 16)).bind fun y2=>some (y2,w1.2.1)
def c2r:FSem:=⟨[.r false (.b Q20)],[.v QI],a4R⟩
def f3l:Hints:=⟨[(58,[3,4,.box pinned Q20,Qp 0 pinned],[Qe 0 [3,.box pinned Q20]])],[],[(5,[.v,.p,.p,.q,.q,.v,.q,.q,.p,.p,.q,.q,.v,.q,.q,.v,.x,.x])]⟩
def b3n(x:Int):Option Int:=cond (decide (x > 0)) (some 1) (cond (decide (x<0)) (some (-1)) (some 0))
def d8F:FSem:=⟨[.v QI],[.v QI],b3n⟩
def a4a(s:(Int×(Int×(Int×(LI×Z79))))):Option ((Int×(Int×(Int×(LI×Z79)))) ⊕ (Int×(LI×Z79))):=(fun(a:Int)(b c:LI)(d:Z28)=>cond (decide (a<(d.2.1.length:Int))) (cond ((decide (0<=a))&&(decide (a<(d.2.1.length:Int)))) (cond ((decide (0<=a))&&(decide (a<(d.2.2.1.length:Int)))) ((b3n (a04 d.2.2.1 (a00 a) 0)).bind fun y4=>cond (decide ((wrap .u64 d.1)<0)) none (cond (lim ((a01 b)+1)) (some (.inl (s.1,s.2.1,wrap .i64 (a+1),a02 b [a2P (a1s (wrap .i64 ((a04 d.2.1 (a00 a) 0)+(a0t .i64 (wrap .i64 (s.2.1*y4)) (wrap .u64 d.1)))) (-1048576)) 1048576],c,d,()))) none)) none) none) (some (.inr (s.1,b,c,d,())))) s.2.2.1 s.2.2.2.1 s.2.2.2.2.1 s.2.2.2.2.2.1
def a7r(x:Z44):Option Z28:=(b3m x.2).bind fun y1=>(a4R x.1).bind fun y2=>(b3n (wrap .i64 (y1-y2.1))).bind fun y3=>(a0d a4a (y1,y3,0,[],[],y2.2,())).bind fun w5=>cond (lim ((a01 w5.2.2.1)+1)) (cond ((decide (0<=(wrap .i64 ((w5.2.2.2.1.2.2.1.length:Int)-1))))&&(decide ((wrap .i64 ((w5.2.2.2.1.2.2.1.length:Int)-1))<=(w5.2.2.2.1.2.2.1.length:Int)))) (cond (lim ((a01 (a02 w5.2.2.1 [w5.1]))+(a01 (a05 (a00 (wrap .i64 ((w5.2.2.2.1.2.2.1.length:Int)-1))) (a08 0 w5.2.2.2.1.2.2.1))))) (some (w5.2.2.2.1.1,w5.2.1,a02 (a02 w5.2.2.1 [w5.1]) (a05 (a00 (wrap .i64 ((w5.2.2.2.1.2.2.1.length:Int)-1))) (a08 0 w5.2.2.2.1.2.2.1)),w5.2.2.2.1.2.2.2)) none) none) none
def c3V:FSem:=⟨[.r false (.b Q20),.v QI],[],a7r⟩
def f3m:Hints:=⟨[(122,[1,4,7,.own 5 5 QI,.own 6 6 QI,.box pinned Q20,Qp 0 pinned],[Qe 0 [1,.own 5 5 QI,.own 6 6 QI,.box pinned Q20,Qp 0 pinned]])],[],[(6,[.q,.p,.p,.q,.q,.v,.q,.q,.v,.p,.p,.q,.q,.v,.q,.q,.v,.v,.p,.p,.q,.q,.v,.v,.v,.v,.v,.q,.x,.x]),(7,[.q,.v,.q,.w [6,55,56],.p,.p,.r [59,pinned],.r [60,pinned],.p,.p,.r [63,pinned],.r [64,pinned],.r [65,pinned],.v,.r [67,pinned],.x,.x])]⟩
def a4S(s:(Z5×Int×Z88)):Option ((Z5×Int×Z88) ⊕ ((Z5×Z6) ⊕ Z6)):=(fun(a:Int)(b:LI)=>cond (decide (a<(b.length:Int))) (cond ((decide (0<=a))&&(decide (a<(b.length:Int)))) ((a4R s.2.2.2.2.1).bind fun y5=>(a3p (wrap .i64 ((a04 b (a00 a) 0)+y5.1))).bind fun y6=>cond (!y6) (some (.inr (Sum.inr ((6,[],()))))) (cond ((decide (0<=a))&&(decide (a<(b.length:Int)))) ((a7r (y5.2,wrap .i64 ((a04 b (a00 a) 0)+y5.1))).bind fun y7=>some (.inl (s.1,s.2.1,wrap .i64 (a+1),a07 b (a00 a) (wrap .i64 ((a04 b (a00 a) 0)+y5.1)),y7,()))) none)) none) (some (.inr (Sum.inl (s.1,s.2.1,b,()))))) s.2.2.1 s.2.2.2.1
def a6K(s:(Z5×Z6)):Option ((Z5×Z6) ⊕ Z48):=cond (decide (s.2.1>=0)) ((a0m s.1 s.2.1).bind fun x3=>(a9C x3).bind fun y4=>(a0d a4S (s.1,s.2.1,0,s.2.2.1,y4.1,())).bind fun w8=>match w8 with |.inl a9=>some (.inl (a9.1,wrap .i64 (a9.2.1-1),a9.2.2.1,())) |.inr b10=>some (.inr (Sum.inr ((b10.1,b10.2.1,()))))) (some (.inr (Sum.inl (s.2.2.1,()))))
def a9D(x:(LI×Z5)):Option (LI×Int):=(a7Q x.2).bind fun y1=>cond (!y1) (some ([],1)) ((a2g x.1).bind fun y2=>cond (!y2) (some ([],6)) (cond (lim (0+(a01 x.1))) ((a0d a6K (x.2,wrap .i64 ((x.2.length:Int)-1),a02 [] x.1,())).bind fun w11=>match w11 with |.inl a12=>some (a12.1,0) |.inr b13=>some (b13.2.1,b13.1)) none))
def c7o:FSem:=⟨[.v QL,.v (.list false Q5)],[.o QI,.v QI],a9D⟩
def f3n:Hints:=⟨[(250,[.sv 1 (.list false Q5),7,.own 6 6 QI],[Qe 0 [.own 6 6 QI],Qr [5,.own 4 4 QI]]),(32038,[.sv 1 (.list false Q5),7,10,.own 6 6 QI,.box 1033 Q20,Qp 8 1033],[Qe 2 [.sv 1 (.list false Q5),7,.own 6 6 QI],Qr [5,.own 4 4 QI]])],[],[(13,[.r [6,42],.v,.r [6,44],.r [6,45],.q,.w [47,1033,1047],.x,.x])]⟩
def b5P(x:a2H):Option (LI×Int):=cond (x.1==2) ((a9A (x.2.2.2.2.2.2.2.2.1,x.2.2.2.2.2.2.2.2.2.2.1,x.2.2.1)).bind fun y1=>some (y1.1,y1.2)) (cond (x.1==3) ((a6b (x.2.2.2.2.2.2.2.2.1,x.2.2.2.2.2.2.2.2.2.2.1,x.2.2.2.2.2.1,x.2.2.2.1)).bind fun y2=>some (y2.1,y2.2)) (cond (x.1==4) ((a6b (x.2.2.2.2.2.2.2.2.1,x.2.2.2.2.2.2.2.2.2.2.1,x.2.2.2.2.2.1,x.2.2.2.1)).bind fun y3=>cond (y3.2 != 0) (some ([],y3.2)) ((b0N (y3.1,x.2.2.2.2.1,x.2.2.2.2.2.2.1)).bind fun y4=>some (y4.1,y4.2))) (cond (x.1==5) ((a9D (x.2.2.2.2.2.2.2.2.2.2.1,x.2.2.2.2.2.2.2.1)).bind fun y5=>some (y5.1,y5.2)) (some (x.2.2.2.2.2.2.2.2.1,0)))))
def d8G:FSem:=⟨[.v Q68],[.v QL,.v QI],b5P⟩
def b5Q(s:Z42):Option (Z42 ⊕ Z48):=(fun(a:LI)(b c:Int)(d:LI)=>cond (decide (c<(a.length:Int))) ((show Option (LI×(Int×Int×Z9))from(a0m a c).bind fun x2=>(a3p x2).bind fun y3=>cond (!y3) (some (a,b,c,true,d,())) ((a0m a c).bind fun x4=>cond (decide ((wrap .u64 b)<0)) none ((a3p (a0t .i64 x4 (wrap .u64 b))).bind fun y5=>some (a,b,c,!y5,d,())))).bind fun z6=>cond z6.2.2.2.1 (some (.inr (Sum.inr ((6,[],()))))) ((a0m z6.1 z6.2.2.1).bind fun x7=>cond (decide ((wrap .u64 z6.2.1)<0)) none (cond (lim ((a01 z6.2.2.2.2.1)+1)) (some (.inl (z6.1,z6.2.1,wrap .i64 (z6.2.2.1+1),a02 z6.2.2.2.2.1 [a0t .i64 x7 (wrap .u64 z6.2.1)],()))) none))) (some (.inr (Sum.inl (d,()))))) s.1 s.2.1 s.2.2.1 s.2.2.2.1
def c3y(x:(LI×Int)):Option (LI×Int):=(show Option Z22 from cond (decide (x.2<0)) (some (x.1,x.2,true,())) (some (x.1,x.2,decide (x.2 > 30),()))).bind fun z1=>cond z1.2.2.1 (some ([],1)) ((a0d b5Q (z1.1,z1.2.1,0,[],())).bind fun w8=>match w8 with |.inl a9=>some (a9.1,0) |.inr b10=>some (b10.2.1,b10.1))
def e6c:FSem:=⟨[.v QL,.v QI],[.o QI,.v QI],c3y⟩
def f3o:Hints:=⟨[(122,[.sv 0 QL,1,7,.own 6 6 QI],[Qe 0 [.own 6 6 QI],Qr [5,.own 4 4 QI]])],[(6,[Qn [.sv 0 QL,1,.sv 13 .bool]]),(3912,[Qn [.sv 0 QL,1,7,.sv 36 .bool,.own 6 6 QI]])],[]⟩
def a6L(s:d8c):Option (d8c ⊕ (LI×Unit)):=(fun(a:Int)(b:LI)(c:a2H)=>cond (decide (a<s.1)) ((a0m c.2.2.2.2.2.2.2.2.1 0).bind fun x11=>cond ((decide (0<=a))&&(decide (a<(b.length:Int)))) (some (.inl (s.1,wrap .i64 (a+1),a07 b (a00 a) x11,c,()))) none) (some (.inr (b,())))) s.2.1 s.2.2.1 s.2.2.2.1
def b0j(x:b2Q):Option (LI×Bool):=(show Option d3c from cond (decide (x.2<1)) (some (x.2,true,x.1,())) (cond (decide (x.2 > 4096)) (some (x.2,true,x.1,())) (cond (decide (x.1.1<0)) (some (x.2,true,x.1,())) (cond (decide (x.1.1 > 5)) (some (x.2,true,x.1,())) ((b4B x.1).bind fun y1=>(a8Z (x.1,y1)).bind fun y2=>cond (!y2) (some (x.2,true,x.1,())) (cond (decide (x.1.2.1<0)) (some (x.2,true,x.1,())) (some (x.2,decide (x.1.2.1 > 30),x.1,())))))))).bind fun z3=>cond z3.2.1 (some ([],false)) ((a9h (z3.2.2.1,z3.1)).bind fun y4=>(show Option d8b from cond (decide (y4<0)) (some (z3.1,y4,true,z3.2.2.1,())) (cond ((z3.2.2.1.2.2.2.2.2.2.2.2.1.length:Int) != y4) (some (z3.1,y4,true,z3.2.2.1,())) ((a2g z3.2.2.1.2.2.2.2.2.2.2.2.1).bind fun y5=>cond (!y5) (some (z3.1,y4,true,z3.2.2.1,())) ((a2g z3.2.2.1.2.2.2.2.2.2.2.2.2.2.1).bind fun y6=>some (z3.1,y4,!y6,z3.2.2.1,()))))).bind fun z7=>cond z7.2.2.1 (some ([],false)) ((show Option d3c from(a5k z7.2.2.2.1.1).bind fun y8=>cond y8 (cond ((z7.2.2.2.1.2.2.2.2.2.2.2.2.2.2.1.length:Int) != (wrap .i64 (z7.1-z7.2.1))) (some (z7.1,true,z7.2.2.2.1,())) ((a6s (z7.2.2.2.1.2.2.2.2.2.2.2.2.2.1,z7.1,z7.2.1)).bind fun y9=>some (z7.1,!y9,z7.2.2.2.1,()))) (some (z7.1,false,z7.2.2.2.1,()))).bind fun z10=>cond z10.2.1 (some ([],false)) (cond (z10.2.2.1.1==0) (cond ((decide (0<=z10.1))&&((decide (z10.1<=z10.1))&&(lim (a00 z10.1)))) ((a0d a6L (z10.1,0,a03 (a00 z10.1) 0,z10.2.2.1,())).bind fun w12=>some (w12.1,true)) none) ((b5P z10.2.2.1).bind fun y13=>cond (y13.2 != 0) (some ([],false)) ((c3y (y13.1,z10.2.2.1.2.1)).bind fun y14=>some (y14.1,y14.2==0))))))
def d3B:FSem:=⟨[.v Q68,.v QI],[.o QI,.v .bool],b0j⟩
def H61:Hints:=⟨[(8106,[1,8,.own 7 7 QI,.vp 2 Q68],[Qe 0 [.own 7 7 QI]])],[(6,[Qn [1,.sv 45 .bool,.vp 2 Q68]]),(30,[Qn [1,6,.sv 69 .bool,.vp 2 Q68]]),(62,[Qn [1,.sv 89 .bool,.vp 2 Q68]])],[(1,[.x,.x,.x,.x,.x,.x,.x,.x,.x,.x,.x,.x,.x,.x,.x,.x,.x,.v,.v,.v,.x,.x,.x,.x,.x,.x,.x,.x,.x,.x,.x,.x,.x])]⟩
def b3o(x:b2Q):Option Bool:=(b0j (x.1,x.2)).bind fun y1=>some y1.2
def d3C:FSem:=⟨[.v Q68,.v QI],[.v .bool],b3o⟩
def c5L(x:Int):Option Int:=(show Option (Int×Bool×Unit)from cond (decide (x<1)) (some (x,true,())) (some (x,decide (x > 31),()))).bind fun z1=>cond z1.2.1 (some 0) (cond (decide ((wrap .u64 (wrap .i64 (z1.1-1)))<0)) none (some (a0t .i64 (-1) (wrap .u64 (wrap .i64 (z1.1-1))))))
def e2R:FSem:=⟨[.v QI],[.v QI],c5L⟩
def f3p:Hints:=⟨[],[(6,[Qn [0,.sv 8 .bool]])],[]⟩
def c2s(x:Int):Option Int:=(show Option (Int×Bool×Unit)from cond (decide (x<1)) (some (x,true,())) (some (x,decide (x > 31),()))).bind fun z1=>cond z1.2.1 (some 0) (cond (decide ((wrap .u64 (wrap .i64 (z1.1-1)))<0)) none (some (wrap .i64 ((a0t .i64 1 (wrap .u64 (wrap .i64 (z1.1-1))))-1))))
def e0O:FSem:=⟨[.v QI],[.v QI],c2s⟩
def f3q:Hints:=⟨[],[(6,[Qn [0,.sv 8 .bool]])],[]⟩
def b0k(x:(Int×Int)):Option Bool:=cond (decide (x.2>=1)) (cond (decide (x.2<=31)) ((c5L x.2).bind fun y1=>cond (decide (x.1>=y1)) ((c2s x.2).bind fun y2=>some (decide (x.1<=y2))) (some false)) (some false)) (some false)
def e0P:FSem:=⟨[.v QI,.v QI],[.v .bool],b0k⟩
def a9b(s:Z18):Option (Z18 ⊕ Z18):=(fun(a:LI)(b c:Int)=>cond (decide (b<32)) ((a0m a c).bind fun x1=>cond (x1 != 0) ((a0m a c).bind fun x2=>(b0k (x2,b)).bind fun y3=>cond (!y3) (some (.inl (a,wrap .i64 (b+1),c,()))) (some (.inr (a,b,c,())))) (some (.inr (a,b,c,())))) (some (.inr (a,b,c,())))) s.1 s.2.1 s.2.2.1
def b1Q(s:Z18):Option Z57:=cond (decide (s.2.2.1<(s.1.length:Int))) ((a0d a9b (s.1,s.2.1,s.2.2.1,())).bind fun w4=>some (.inl (w4.1,w4.2.1,wrap .i64 (w4.2.2.1+1),()))) (some (.inr (s.2.1,())))
def a6M(x:LI):Option Int:=(a0d b1Q (x,0,0,())).bind fun w5=>some w5.1
def d8H:FSem:=⟨[.v QL],[.v QI],a6M⟩
def f3r:Hints:=⟨[(58,[.sv 0 QL,3,4],[Qe 0 [3]]),(1864,[.sv 0 QL,3,4],[Qe 2 [.sv 0 QL,3,4]])],[],[]⟩
def a6N(s:Z40):Option (Z40 ⊕ Z10):=(fun(a:Int)(b:LI×Unit)=>cond (decide (a>=0)) (cond (decide ((wrap .u64 a)<0)) none (cond (lim ((a01 b.1)+1)) (some (.inl (s.1,wrap .i64 (a-1),(a02 b.1 [wrap .u8 (bits .u64 .and (a0v .u64 s.1 (wrap .u64 a)) 1)],b.2),()))) none)) (some (.inr (b,())))) s.2.1 s.2.2.1
def a0s(x:((LI×Unit)×(Int×Int))):Option Z6:=(show Option (Int×Int×Bool×Z10)from cond (decide (x.2.2<0)) (some (x.2.1,x.2.2,true,x.1,())) (cond (decide (x.2.2 > 64)) (some (x.2.1,x.2.2,true,x.1,())) (cond (decide (x.2.2<64)) (cond (decide ((wrap .u64 x.2.2)<0)) none (some (x.2.1,x.2.2,(a0v .u64 x.2.1 (wrap .u64 x.2.2)) != 0,x.1,()))) (some (x.2.1,x.2.2,false,x.1,()))))).bind fun z1=>cond z1.2.2.1 (some (1,z1.2.2.2.1)) ((a0d a6N (z1.1,wrap .i64 (z1.2.1-1),z1.2.2.2.1,())).bind fun w2=>some (0,w2.1))
def c7p:FSem:=⟨[.r false (.b Q2),.v QU,.v QI],[.v QI],a0s⟩
def f3s:Hints:=⟨[(58,[.sv 1 QU,7,.box pinned Q2,Qp 0 pinned],[Qe 0 [.box pinned Q2]])],[(6,[Qn [.sv 1 QU,2,.sv 24 .bool,.box pinned Q2,Qp 0 pinned]])],[]⟩
def a7s(s:(LI×Z40)):Option ((LI×Z40) ⊕ Z10):=cond (decide (s.2.2.1<(s.1.length:Int))) ((a0m s.1 s.2.2.1).bind fun x2=>cond (decide ((wrap .u64 s.2.1)<0)) none ((a0s (s.2.2.2.1,bits .u64 .and (wrap .u64 x2) (wrap .u64 ((a0t .u64 1 (wrap .u64 s.2.1))-1)),s.2.1)).bind fun y3=>some (.inl (s.1,s.2.1,wrap .i64 (s.2.2.1+1),y3.2,())))) (some (.inr (s.2.2.2.1,())))
def a3E(x:((LI×Unit)×(LI×Int))):Option (LI×Unit):=(a0d a7s (x.2.1,x.2.2,0,x.1,())).bind fun w4=>some w4.1
def c9k:FSem:=⟨[.r false (.b Q2),.v QL,.v QI],[],a3E⟩
def f3t:Hints:=⟨[(6,[.sv 1 QL,2,6,.box pinned Q2,Qp 0 pinned],[Qe 0 [.box pinned Q2]])],[],[]⟩
def a6O(x:((LI×Unit)×a2H)):Option (LI×Unit):=(a0s (x.1,wrap .u64 (wrap .i64 ((x.2.2.2.2.2.2.1.length:Int)-1)),5)).bind fun y1=>(a0s (y1.2,wrap .u64 x.2.2.2.2.1,4)).bind fun y2=>(a6M x.2.2.2.2.2.2.1).bind fun y3=>(a0s (y2.2,wrap .u64 y3,5)).bind fun y4=>(a3E (y4.2,x.2.2.2.2.2.2.1,y3)).bind fun y5=>some y5
def c7q:FSem:=⟨[.r false (.b Q2),.v Q68],[],a6O⟩
def b4a(x:Int):Option Int:=(show Option (Int×Unit)from cond (decide (x<0)) (some (bits .u64 .xor (IntKind.max .u64) (a0t .u64 (wrap .u64 x) 1),())) (some (a0t .u64 (wrap .u64 x) 1,()))).bind fun z1=>some z1.1
def e2S:FSem:=⟨[.v QI],[.v QU],b4a⟩
def f3u:Hints:=⟨[],[(7,[Qn [.sv 3 QU]])],[]⟩
def b4Z(x:Int):Option Int:=(a3p x).bind fun y1=>cond (!y1) (some 0) ((b4a x).bind fun y2=>some y2)
def e0Q:FSem:=⟨[.v QI],[.v QU],b4Z⟩
def b1R(x:(Int×Int)):Option Int:=(show Option Z11 from(a1J x.1).bind fun y1=>cond (!y1) (some (x.1,x.2,true,())) ((a3p x.2).bind fun y2=>some (x.1,x.2,!y2,()))).bind fun z3=>cond z3.2.2.1 (some 0) ((b4Z z3.2.1).bind fun y4=>cond (decide ((wrap .u64 z3.1)<0)) none (cond (decide ((wrap .i64 (a0v .u64 y4 (wrap .u64 z3.1)))<32)) (some (wrap .i64 ((wrap .i64 ((wrap .i64 (a0v .u64 y4 (wrap .u64 z3.1)))+1))+z3.1))) (some 65)))
def d1B:FSem:=⟨[.v QI,.v QI],[.v QI],b1R⟩
def f3v:Hints:=⟨[],[(6,[Qn [0,1,.sv 13 .bool]])],[]⟩
def a9E(s:Z31):Option Z71:=(fun(a:LI)(b c:Int)=>cond (decide (c<(a.length:Int))) ((a0m a c).bind fun x1=>(b1R (s.1,x1)).bind fun y2=>some (.inl (s.1,a,wrap .i64 (b+y2),wrap .i64 (c+1),()))) (some (.inr (b,())))) s.2.1 s.2.2.1 s.2.2.2.1
def b3p(x:(Int×LI)):Option Int:=(a0d a9E (x.1,x.2,0,0,())).bind fun w3=>some w3.1
def d3D:FSem:=⟨[.v QI,.v QL],[.v QI],b3p⟩
def f3w:Hints:=⟨[(58,[0,.sv 1 QL,5,6],[Qe 0 [5]])],[],[]⟩
def b1S(x:(Int×LI)):Option Int:=cond (x.1==31) ((a6M x.2).bind fun y1=>some (wrap .i64 (5+(wrap .i64 ((x.2.length:Int)*y1))))) ((b3p (x.1,x.2)).bind fun y2=>some y2)
def d1C:FSem:=⟨[.v QI,.v QL],[.v QI],b1S⟩
def a7t(s:(LI×(Int×(Int×(Int×(LI×Z23)))))):Option ((LI×(Int×(Int×(Int×(LI×Z23))))) ⊕ (Int×Unit)):=(fun(a b:Int)(c:LI)(d:Z6)=>cond (decide (b<(c.length:Int))) ((a0m d.2.1 b).bind fun x5=>cond ((decide (0<=b))&&(decide (b<(c.length:Int)))) (cond ((decide (0<=(wrap .i64 (a+(a04 c (a00 b) 0)))))&&(decide ((wrap .i64 (a+(a04 c (a00 b) 0)))<=(s.1.length:Int)))) (cond ((decide (0<=a))&&(decide (a<=((a00 (wrap .i64 (a+(a04 c (a00 b) 0))):Nat):Int)))) ((b1S (x5,a08 (a00 a) (a05 (a00 (wrap .i64 (a+(a04 c (a00 b) 0)))) s.1))).bind fun y6=>cond ((decide (0<=b))&&(decide (b<(c.length:Int)))) (some (.inl (s.1,wrap .i64 ((wrap .i64 (s.2.1+5))+y6),wrap .i64 (a+(a04 c (a00 b) 0)),wrap .i64 (b+1),c,d,()))) none) none) none) none) (some (.inr (s.2.1,())))) s.2.2.1 s.2.2.2.1 s.2.2.2.2.1 s.2.2.2.2.2.1
def b0O(x:Z65):Option Int:=(show Option (Int×(Int×(LI×Z41)))from(a6s (x.1,x.2.1,x.2.2.1)).bind fun y1=>cond (!y1) (some (x.2.1,x.2.2.1,x.2.2.2,true,x.1,())) (cond ((x.2.2.2.length:Int) != (wrap .i64 (x.2.1-x.2.2.1))) (some (x.2.1,x.2.2.1,x.2.2.2,true,x.1,())) ((a2g x.2.2.2).bind fun y2=>some (x.2.1,x.2.2.1,x.2.2.2,!y2,x.1,())))).bind fun z3=>cond z3.2.2.2.1 (some 0) ((a3Y (z3.2.2.2.2.1.1,z3.1,z3.2.1)).bind fun y4=>(a0d a7t (z3.2.2.1,4,0,0,y4,z3.2.2.2.2.1,())).bind fun w7=>some w7.1)
def c9l:FSem:=⟨[.v Q13,.v QI,.v QI,.v QL],[.v QI],b0O⟩
def f3x:Hints:=⟨[(250,[.sv 3 QL,9,10,12,.own 11 11 QI,.vp 4 Q13],[Qe 0 [9]])],[(6,[Qn [1,2,.sv 3 QL,.sv 30 .bool,.vp 4 Q13]])],[(8,[.v,.v,.v,.v,.v,.v,.v,.v,.v,.v,.q,.v,.q,.q,.v,.v,.v,.x,.x])]⟩
def a5z(s:Z40):Option (Z40 ⊕ Z10):=cond (decide (s.2.1<s.1)) (cond (lim ((a01 s.2.2.1.1)+1)) (some (.inl (s.1,wrap .i64 (s.2.1+1),(a02 s.2.2.1.1 [0],s.2.2.1.2),()))) none) (some (.inr (s.2.2.1,())))
def a4j(x:((LI×Unit)×Int)):Option Z6:=(show Option (Int×Bool×Z10)from cond (decide (x.2<0)) (some (x.2,true,x.1,())) (some (x.2,decide (x.2 > 4096),x.1,()))).bind fun z1=>cond z1.2.1 (some (1,z1.2.2.1)) ((a0d a5z (z1.1,0,z1.2.2.1,())).bind fun w2=>cond (lim ((a01 w2.1.1)+1)) (some (0,a02 w2.1.1 [1],w2.1.2)) none)
def c3W:FSem:=⟨[.r false (.b Q2),.v QI],[.v QI],a4j⟩
def f3y:Hints:=⟨[(58,[1,5,.box pinned Q2,Qp 0 pinned],[Qe 0 [.box pinned Q2,Qp 0 pinned]])],[(6,[Qn [1,.sv 11 .bool,.box pinned Q2,Qp 0 pinned]])],[]⟩
def a6P(s:(Int×(LI×Z25))):Option ((Int×(LI×Z25)) ⊕ Z10):=(fun(a:Int)(b:LI)(c:Int)(d:LI×Unit)=>cond (decide (c<(b.length:Int))) ((a0m b c).bind fun x4=>(b4Z x4).bind fun y5=>cond (decide ((wrap .u64 a)<0)) none (cond (decide ((wrap .i64 (a0v .u64 y5 (wrap .u64 a)))<32)) ((a4j (d,wrap .i64 (a0v .u64 y5 (wrap .u64 a)))).bind fun y6=>cond (decide ((wrap .u64 a)<0)) none ((a0s (y6.2,bits .u64 .and y5 (wrap .u64 ((a0t .u64 1 (wrap .u64 a))-1)),a)).bind fun y7=>some (.inl (a,b,wrap .i64 (c+1),y7.2,())))) ((a4j (d,32)).bind fun y8=>(a0s (y8.2,y5,32)).bind fun y9=>some (.inl (a,b,wrap .i64 (c+1),y9.2,()))))) (some (.inr (d,())))) s.1 s.2.1 s.2.2.1 s.2.2.2.1
def b3q(x:((LI×Unit)×(Int×LI))):Option Z6:=(show Option (Int×(LI×(Bool×Z10)))from(a1J x.2.1).bind fun y1=>cond (!y1) (some (x.2.1,x.2.2,true,x.1,())) ((a2g x.2.2).bind fun y2=>some (x.2.1,x.2.2,!y2,x.1,()))).bind fun z3=>cond z3.2.2.1 (some (1,z3.2.2.2.1)) ((a0d a6P (z3.1,z3.2.1,0,z3.2.2.2.1,())).bind fun w10=>some (0,w10.1))
def d3E:FSem:=⟨[.r false (.b Q2),.v QI,.v QL],[.v QI],b3q⟩
def f3z:Hints:=⟨[(58,[1,.sv 2 QL,7,.box pinned Q2,Qp 0 pinned],[Qe 0 [.box pinned Q2]])],[(6,[Qn [1,.sv 2 QL,.sv 17 .bool,.box pinned Q2,Qp 0 pinned]])],[]⟩
def a4D(s:(LI×(Int×(Int×(LI×((LI×Unit)×Z23)))))):Option ((LI×(Int×(Int×(LI×((LI×Unit)×Z23))))) ⊕ Z10):=(fun(a:LI)(b c:Int)(d:LI)(e:LI×Unit)(f:Z6)=>cond (decide (c<(d.length:Int))) (cond ((decide (0<=c))&&(decide (c<(d.length:Int)))) (cond ((decide (0<=(wrap .i64 (b+(a04 d (a00 c) 0)))))&&(decide ((wrap .i64 (b+(a04 d (a00 c) 0)))<=(a.length:Int)))) (cond ((decide (0<=b))&&(decide (b<=((a00 (wrap .i64 (b+(a04 d (a00 c) 0))):Nat):Int)))) ((a0m f.2.1 c).bind fun x4=>(a0s (e,wrap .u64 x4,5)).bind fun y5=>(show Option (LI×(Int×(Int×(LI×((LI×Unit)×Z23)))))from(a0m f.2.1 c).bind fun x6=>cond (x6==31) ((a6M (a08 (a00 b) (a05 (a00 (wrap .i64 (b+(a04 d (a00 c) 0)))) a))).bind fun y7=>(a0s (y5.2,wrap .u64 y7,5)).bind fun y8=>(a3E (y8.2,a08 (a00 b) (a05 (a00 (wrap .i64 (b+(a04 d (a00 c) 0)))) a),y7)).bind fun y9=>some (a,b,c,d,y9,f,())) ((a0m f.2.1 c).bind fun x10=>(b3q (y5.2,x10,a08 (a00 b) (a05 (a00 (wrap .i64 (b+(a04 d (a00 c) 0)))) a))).bind fun y11=>some (a,b,c,d,y11.2,f,()))).bind fun z12=>cond ((decide (0<=z12.2.2.1))&&(decide (z12.2.2.1<(z12.2.2.2.1.length:Int)))) (some (.inl (z12.1,wrap .i64 (z12.2.1+(a04 z12.2.2.2.1 (a00 z12.2.2.1) 0)),wrap .i64 (z12.2.2.1+1),z12.2.2.2.1,z12.2.2.2.2.1,z12.2.2.2.2.2.1,()))) none) none) none) none) (some (.inr (e,())))) s.1 s.2.1 s.2.2.1 s.2.2.2.1 s.2.2.2.2.1 s.2.2.2.2.2.1
def b1T(x:((LI×Unit)×Z65)):Option Z6:=(b0O (x.2.1,x.2.2.1,x.2.2.2.1,x.2.2.2.2)).bind fun y1=>cond (y1==0) (some (1,x.1)) ((a0s (x.1,wrap .u64 x.2.1.1,4)).bind fun y2=>(a3Y (x.2.1.1,x.2.2.1,x.2.2.2.1)).bind fun y3=>(a0d a4D (x.2.2.2.2,0,0,y3,y2.2,x.2.1,())).bind fun w13=>some (0,w13.1))
def d1D:FSem:=⟨[.r false (.b Q2),.v Q13,.v QI,.v QI,.v QL],[.v QI],b1T⟩
def f3A:Hints:=⟨[(250,[.sv 4 QL,12,13,.own 11 11 QI,.box pinned Q2,Qp 0 pinned,.vp 6 Q13],[Qe 0 [.box pinned Q2]])],[(16019,[Qn [.sv 4 QL,12,13,.own 11 11 QI,.box pinned Q2,Qp 0 pinned,.vp 6 Q13]])],[]⟩
def a9F(s:(Int×d8e)):Option ((Int×d8e) ⊕ d8e):=(fun(a:Int)(b:LI×Unit)(c:a2H)=>cond (decide (a<(c.2.2.2.2.2.2.2.1.length:Int))) ((a0m c.2.2.2.2.2.2.2.1 a).bind fun x12=>(a0s (b,wrap .u64 (wrap .i64 (x12.1-1)),5)).bind fun y13=>(a0m c.2.2.2.2.2.2.2.1 a).bind fun x14=>(a0s (y13.2,wrap .u64 x14.2.1,4)).bind fun y15=>some (.inl (s.1,s.2.1,wrap .i64 (a+1),y15.2,c,()))) (some (.inr (s.1,s.2.1,b,c,())))) s.2.2.1 s.2.2.2.1 s.2.2.2.2.1
def a3u(x:((LI×Unit)×b2Q)):Option Z6:=(b3o (x.2.1,x.2.2)).bind fun y1=>cond (!y1) (some (1,x.1)) ((a6M x.2.1.2.2.2.2.2.2.2.2.1).bind fun y2=>(a0s (x.1,wrap .u64 x.2.1.1,3)).bind fun y3=>(a0s (y3.2,wrap .u64 x.2.1.2.1,5)).bind fun y4=>(a0s (y4.2,wrap .u64 y2,5)).bind fun y5=>(show Option d8e from cond (x.2.1.1==2) ((a0s (y5.2,wrap .u64 x.2.1.2.2.1,3)).bind fun y6=>some (x.2.2,y2,y6.2,x.2.1,())) (cond (x.2.1.1==3) ((a6O (y5.2,x.2.1)).bind fun y7=>some (x.2.2,y2,y7,x.2.1,())) (cond (x.2.1.1==4) ((a0s (y5.2,wrap .u64 (wrap .i64 (x.2.1.2.2.2.2.1-1)),10)).bind fun y8=>(a3E (y8.2,a05 3 x.2.1.2.2.2.2.2.2.1,8)).bind fun y9=>(a6O (y9,x.2.1)).bind fun y10=>some (x.2.2,y2,y10,x.2.1,())) (cond (x.2.1.1==5) ((a0s (y5.2,wrap .u64 (x.2.1.2.2.2.2.2.2.2.1.length:Int),2)).bind fun y11=>(a0d a9F (x.2.2,y2,0,y11.2,x.2.1,())).bind fun w16=>some (w16.1,w16.2.1,w16.2.2.1,w16.2.2.2.1,())) (some (x.2.2,y2,y5.2,x.2.1,())))))).bind fun z17=>(a3E (z17.2.2.1,z17.2.2.2.1.2.2.2.2.2.2.2.2.1,z17.2.1)).bind fun y18=>(a5k z17.2.2.2.1.1).bind fun y19=>cond y19 ((b1T (y18,z17.2.2.2.1.2.2.2.2.2.2.2.2.2.1,z17.1,(z17.2.2.2.1.2.2.2.2.2.2.2.2.1.length:Int),z17.2.2.2.1.2.2.2.2.2.2.2.2.2.2.1)).bind fun y20=>some (0,y20.2)) (some (0,y18)))
def d3F:FSem:=⟨[.r false (.b Q2),.v Q68,.v QI],[.v QI],a3u⟩
def f3B:Hints:=⟨[(2086902,[2,7,8,.box pinned Q2,Qp 0 pinned,.vp 4 Q68],[Qe 1 [2,7,.box pinned Q2,Qp 0 pinned,.vp 4 Q68]])],[(127,[Qn [2,7,.box pinned Q2,Qp 0 pinned,.vp 4 Q68]])],[]⟩
def a1M(x:Z18):Option Z31:=some (wrap .i64 ((wrap .i64 (8*(x.1.length:Int)))-x.2.1),x)
def c5M:FSem:=⟨[.r false (.b Q19)],[.v QI],a1M⟩
def f3C:Hints:=⟨[],[],[(1,[.p,.p,.q,.q,.v,.v,.p,.p,.q,.q,.x,.x])]⟩
def a5c(x:Z32):Option Z31:=(a0m x.1.1 (wrap .i64 (a06 x.2 8))).bind fun x1=>cond (decide ((wrap .u64 (wrap .i64 (7-(a09 x.2 8))))<0)) none (some (wrap .u64 (bits .u8 .and (a0v .u8 x1 (wrap .u64 (wrap .i64 (7-(a09 x.2 8))))) 1),x.1))
def c7r:FSem:=⟨[.r false (.b Q19),.v QI],[.v QU],a5c⟩
def a6Q(s:Z83):Option (Z83 ⊕ Z70):=(fun(a:Int)(b:Z18)=>cond (decide (a<s.1)) ((a5c (b,wrap .i64 (b.2.1+a))).bind fun y3=>some (.inl (s.1,bits .u64 .or (a0t .u64 s.2.1 1) y3.1,wrap .i64 (a+1),y3.2,()))) (some (.inr (s.1,s.2.1,b,())))) s.2.2.1 s.2.2.2.1
def a0z(x:Z32):Option Z31:=cond (x.1.2.2.1 != 0) (some (0,x.1)) ((show Option Z74 from cond (decide (x.2<0)) (some (x.2,true,x.1,())) (some (x.2,decide (x.2 > 64),x.1,()))).bind fun z1=>cond z1.2.1 (some (0,z1.2.2.1.1,z1.2.2.1.2.1,1,z1.2.2.1.2.2.2)) ((a1M z1.2.2.1).bind fun y2=>cond (decide (z1.1 > y2.1)) (some (0,y2.2.1,y2.2.2.1,3,y2.2.2.2.2)) ((a0d a6Q (z1.1,0,0,y2.2,())).bind fun w4=>some (w4.2.1,w4.2.2.1.1,wrap .i64 (w4.2.2.1.2.1+w4.1),w4.2.2.1.2.2))))
def c7s:FSem:=⟨[.r false (.b Q19),.v QI],[.v QU],a0z⟩
def f3D:Hints:=⟨[(506,[1,.sv 5 QU,6,.box pinned Q19,Qp 0 pinned],[Qe 0 [1,.sv 5 QU,.box pinned Q19,Qp 0 pinned]])],[(14,[Qn [1,.sv 17 .bool,.box pinned Q19,Qp 0 pinned]])],[]⟩
def a3F(x:Z32):Option Z31:=(a0z (x.1,x.2)).bind fun y1=>(show Option Z87 from cond (y1.2.2.2.1 != 0) (some (x.2,y1.1,true,y1.2,())) (some (x.2,y1.1,x.2==0,y1.2,()))).bind fun z2=>cond z2.2.2.1 (some (0,z2.2.2.2.1)) (cond (decide ((wrap .u64 (wrap .i64 (64-z2.1)))<0)) none (cond (decide ((wrap .u64 (wrap .i64 (64-z2.1)))<0)) none (some (a0v .i64 (wrap .i64 (a0t .u64 z2.2.1 (wrap .u64 (wrap .i64 (64-z2.1))))) (wrap .u64 (wrap .i64 (64-z2.1))),z2.2.2.2.1))))
def c2t:FSem:=⟨[.r false (.b Q19),.v QI],[.v QI],a3F⟩
def f3E:Hints:=⟨[],[(14,[Qn [1,.sv 5 QU,.sv 17 .bool,.box pinned Q19]])],[]⟩
def a1V(s:Z94):Option (Z94 ⊕ Z67):=(fun(a:Int)(b:LI)(c:Z18)=>cond (decide (a<s.1)) (cond (c.2.2.1==0) ((a3F (c,s.2.1)).bind fun y1=>cond (lim ((a01 b)+1)) (some (.inl (s.1,s.2.1,wrap .i64 (a+1),a02 b [y1.1],y1.2,()))) none) (some (.inr (b,c,())))) (some (.inr (b,c,())))) s.2.2.1 s.2.2.2.1 s.2.2.2.2.1
def a1K(x:Z52):Option (LI×Z18):=(a0d a1V (x.2.1,x.2.2,0,[],x.1,())).bind fun w2=>some (w2.1,w2.2.1)
def c9m:FSem:=⟨[.r false (.b Q19),.v QI,.v QI],[.o QI],a1K⟩
def f3F:Hints:=⟨[(58,[1,2,8,.own 7 7 QI,.box pinned Q19,Qp 0 pinned],[Qe 0 [.own 7 7 QI,.box pinned Q19]])],[],[]⟩
def a3q(x:d8d):Option d8d:=(a0z (x.1,5)).bind fun y1=>(a0z (y1.2,4)).bind fun y2=>(a0z (y2.2,5)).bind fun y3=>(a1K (y3.2,wrap .i64 ((wrap .i64 y1.1)+1),wrap .i64 y3.1)).bind fun y4=>some (y4.2,x.2.1,x.2.2.1,x.2.2.2.1,wrap .i64 y2.1,x.2.2.2.2.2.1,y4.1,x.2.2.2.2.2.2.2)
def c7t:FSem:=⟨[.r false (.b Q19),.r false (.b Q67)],[],a3q⟩
def a2h(s:Z70):Option (Z70 ⊕ (Z37 ⊕ Z54)):=(fun(a:Int)=>(a1M s.2.2.1).bind fun y1=>cond (decide (a<y1.1)) ((a5c (y1.2,wrap .i64 (y1.2.2.1+a))).bind fun y2=>cond (y2.1==1) (some (.inr (Sum.inr ((a,(y2.2.1,wrap .i64 ((wrap .i64 (y2.2.2.1+a))+1),y2.2.2.2),()))))) (cond (decide (a>=s.1)) (some (.inr (Sum.inr ((0,(y2.2.1,y2.2.2.1,2,y2.2.2.2.2),()))))) (some (.inl (s.1,wrap .i64 (a+1),y2.2,()))))) (some (.inr (Sum.inl (y1.2,()))))) s.2.1
def a4k(x:Z32):Option Z31:=cond (x.1.2.2.1 != 0) (some (0,x.1)) ((a0d a2h (a1s x.2 0,0,x.1,())).bind fun w3=>match w3 with |.inl a4=>some (0,a4.1.1,a4.1.2.1,3,a4.1.2.2.2) |.inr b5=>some (b5.1,b5.2.1))
def c3X:FSem:=⟨[.r false (.b Q19),.v QI],[.v QI],a4k⟩
def f3G:Hints:=⟨[(122,[1,5,.box pinned Q19,Qp 0 pinned],[Qe 0 [.box pinned Q19,Qp 0 pinned],Qr [4,.box pinned Q19]])],[],[]⟩
def b4C(x:Int):Option Int:=cond (decide (x>=2147483648)) (some 0) ((b6N x).bind fun y1=>some y1)
def d5L:FSem:=⟨[.v QU],[.v QI],b4C⟩
def a1D(s:Z94):Option (Z94 ⊕ (Z67 ⊕ Z81)):=(fun(a b c:Int)(d:LI)(e:Z18)=>cond (decide (c<b)) ((a4k (e,32)).bind fun y3=>(show Option ((Int×Z94) ⊕ Z81)from cond (decide (y3.1<32)) (cond (decide ((wrap .u64 a)<0)) none ((a0z (y3.2,a)).bind fun y4=>some (Sum.inl (a,b,c,bits .u64 .or (a0t .u64 (wrap .u64 y3.1) (wrap .u64 a)) y4.1,d,y4.2,())))) ((a0z (y3.2,32)).bind fun y5=>(show Option (Int×Int×Int×Int×Bool×Z67)from cond (y5.2.2.2.1==0) (cond (decide (y5.1>=2147483648)) (some (a,b,c,y5.1,true,d,y5.2,())) (cond (decide ((wrap .u64 a)<0)) none (some (a,b,c,y5.1,decide ((a0v .u64 y5.1 (wrap .u64 a))<32),d,y5.2,())))) (some (a,b,c,y5.1,false,d,y5.2,()))).bind fun z6=>cond z6.2.2.2.2.1 (some (Sum.inr ((2,[],z6.2.2.2.2.2.2.1,())))) (some (Sum.inl (z6.1,z6.2.1,z6.2.2.1,z6.2.2.2.1,z6.2.2.2.2.2.1,z6.2.2.2.2.2.2.1,()))))).bind fun z7=>match z7 with |.inl a8=>(cond (a8.2.2.2.2.2.1.2.2.1 != 0) (some (.inr (Sum.inr ((a8.2.2.2.2.2.1.2.2.1,[],a8.2.2.2.2.2.1,()))))) ((b4C a8.2.2.2.1).bind fun y10=>cond (lim ((a01 a8.2.2.2.2.1)+1)) (some (.inl (a8.1,a8.2.1,wrap .i64 (a8.2.2.1+1),a02 a8.2.2.2.2.1 [y10],a8.2.2.2.2.2.1,()))) none)) |.inr b9=>some (.inr (Sum.inr ((b9.1,b9.2.1,b9.2.2.1,()))))) (some (.inr (Sum.inl (d,e,()))))) s.1 s.2.1 s.2.2.1 s.2.2.2.1 s.2.2.2.2.1
def a7R(x:Z52):Option Z63:=(show Option Z87 from(a1J x.2.1).bind fun y1=>cond (!y1) (some (x.2.1,x.2.2,true,x.1,())) (cond (decide (x.2.2<0)) (some (x.2.1,x.2.2,true,x.1,())) (some (x.2.1,x.2.2,decide (x.2.2 > 4194304),x.1,())))).bind fun z2=>cond z2.2.2.1 (some ([],1,z2.2.2.2.1)) (cond (z2.2.2.2.1.2.2.1 != 0) (some ([],z2.2.2.2.1.2.2.1,z2.2.2.2.1)) ((a0d a1D (z2.1,z2.2.1,0,[],z2.2.2.2.1,())).bind fun w11=>match w11 with |.inl a12=>some (a12.1,0,a12.2.1) |.inr b13=>some (b13.2.1,b13.1,b13.2.2.1)))
def d3G:FSem:=⟨[.r false (.b Q19),.v QI,.v QI],[.o QI,.v QI],a7R⟩
def f3H:Hints:=⟨[(250,[1,2,9,.own 8 8 QI,.box pinned Q19,Qp 0 pinned],[Qe 0 [.own 8 8 QI,.box pinned Q19],Qr [7,.own 6 6 QI,.box pinned Q19]])],[(6,[Qn [1,2,.sv 22 .bool,.box pinned Q19,Qp 0 pinned]]),(16019,[Qn [1,2,9,.sv 11 QU,.own 8 8 QI,.box pinned Q19,Qp 0 pinned],Qr [7,.own 6 6 QI,.box pinned Q19]]),(256311,[Qn [1,2,9,.sv 11 QU,.sv 67 .bool,.own 8 8 QI,.box pinned Q19,Qp 0 pinned]])],[(4,[.p,.p,.q,.q,.v,.x]),(17,[.p,.p,.q,.q,.v,.x])]⟩
def a5F(x:Z52):Option Z63:=cond (x.2.1 != 31) ((a1J x.2.1).bind fun y1=>cond (!y1) (some ([],2,x.1)) ((a7R (x.1,x.2.1,x.2.2)).bind fun y2=>some (y2.1,y2.2.1,y2.2.2))) ((a0z (x.1,5)).bind fun y3=>(a1K (y3.2,x.2.2,wrap .i64 y3.1)).bind fun y4=>cond (y4.2.2.2.1 != 0) (some ([],y4.2.2.2.1,y4.2)) ((a6M y4.1).bind fun y5=>cond (y5 != (wrap .i64 y3.1)) (some ([],2,y4.2)) (some (y4.1,0,y4.2))))
def e0R:FSem:=⟨[.r false (.b Q19),.v QI,.v QI],[.o QI,.v QI],a5F⟩
def f3I:Hints:=⟨[],[],[(8,[.p,.p,.q,.q,.v,.x])]⟩
def a2W(s:d7Y):Option (d7Y ⊕ ((LI×(Z6×Z92)) ⊕ (Int×(LI×Z92)))):=(fun(a:Int)(b c:LI)(d:Z18)(e f:Z6)=>cond (decide (a<(b.length:Int))) ((a0z (d,5)).bind fun y4=>cond (y4.2.2.2.1 != 0) (some (.inr (Sum.inr ((y4.2.2.2.1,[],(0,[],()),y4.2,()))))) (cond (lim ((a01 f.2.1)+1)) (cond ((decide (0<=a))&&(decide (a<(b.length:Int)))) ((a5F (y4.2,wrap .i64 y4.1,a04 b (a00 a) 0)).bind fun y5=>cond (y5.2.1 != 0) (some (.inr (Sum.inr ((y5.2.1,[],(0,[],()),y5.2.2,()))))) (cond (lim ((a01 c)+(a01 y5.1))) (some (.inl (wrap .i64 (a+1),b,a02 c y5.1,y5.2.2,e,(f.1,a02 f.2.1 [wrap .i64 y4.1],f.2.2),()))) none)) none) none)) (some (.inr (Sum.inl (c,e,f,d,()))))) s.1 s.2.1 s.2.2.1 s.2.2.2.1 s.2.2.2.2.1 s.2.2.2.2.2.1
def a6t(x:Z52):Option (Z6×Z63):=(b6P (x.2.1,x.2.2)).bind fun y1=>cond (!y1) (some ((0,[],()),[],1,x.1)) ((a0z (x.1,4)).bind fun y2=>cond (y2.2.2.2.1 != 0) (some ((0,[],()),[],y2.2.2.2.1,y2.2)) ((a3Y (wrap .i64 y2.1,x.2.1,x.2.2)).bind fun y3=>cond ((y3.length:Int)==0) (some ((0,[],()),[],2,y2.2)) ((a0d a2W (0,y3,[],y2.2,(0,[],()),(wrap .i64 y2.1,[],()),())).bind fun w6=>match w6 with |.inl a7=>some (a7.2.2.1,a7.1,0,a7.2.2.2.1) |.inr b8=>some (b8.2.2.1,b8.2.1,b8.1,b8.2.2.2.1))))
def d1E:FSem:=⟨[.r false (.b Q19),.v QI,.v QI],[.v Q13,.o QI,.v QI],a6t⟩
def f3J:Hints:=⟨[(2042,[12,.own 10 10 QI,.own 11 11 QI,.box pinned Q19,.box 6 Q13,.box 9 Q12,Qp 0 pinned,Qp 6 6,Qp 9 9],[Qe 0 [.own 11 11 QI,.box 6 Q13,.box 9 Q12,.box pinned Q19,Qp 6 6,Qp 9 9],Qr [8,.own 7 7 QI,.box 6 Q13,.box pinned Q19,Qp 6 6]])],[],[(5,[.v,.p,.p,.r [33,pinned],.r [34,pinned],.w [0,6],.v,.x]),(15,[.v,.p,.p,.r [61,pinned],.r [62,pinned],.w [0,6],.v,.x])]⟩
def b3r(x:(LI×Unit)):Option Z6:=some ((x.1.length:Int),x)
def c7u:FSem:=⟨[.r false (.b Q2)],[.v QI],b3r⟩
def a5t(s:(Int×Int×Z86)):Option ((Int×Int×Z86) ⊕ (Z86 ⊕ (Bool×Z86))):=(fun(a b:Int)(c:LI×Unit)(d:Z18)=>cond (decide (b<(c.1.length:Int))) (cond ((decide (0<=b))&&(decide (b<(c.1.length:Int)))) ((a0m d.1 (wrap .i64 (a06 (wrap .i64 (a+b)) 8))).bind fun x2=>cond (decide ((wrap .u64 (wrap .i64 (7-(a09 (wrap .i64 (a+b)) 8))))<0)) none (cond ((a04 c.1 (a00 b) 0) != (bits .u8 .and (a0v .u8 x2 (wrap .u64 (wrap .i64 (7-(a09 (wrap .i64 (a+b)) 8))))) 1)) (some (.inr (Sum.inr ((false,c,d,()))))) (some (.inl (a,wrap .i64 (b+1),c,d,()))))) none) (some (.inr (Sum.inl (c,d,()))))) s.1 s.2.1 s.2.2.1 s.2.2.2.1
def a5P(x:((LI×Unit)×Z32)):Option (Bool×((LI×Unit)×Z18)):=(b3r x.1).bind fun y1=>cond (y1.1 != (wrap .i64 (x.2.1.2.1-x.2.2))) (some (false,y1.2,x.2.1)) ((a0d a5t (x.2.2,0,y1.2,x.2.1,())).bind fun w3=>match w3 with |.inl a4=>some (true,a4.1,a4.2.1) |.inr b5=>some (b5.1,b5.2.1,b5.2.2.1))
def c9n:FSem:=⟨[.r false (.b Q2),.r false (.b Q19),.v QI],[.v .bool],a5P⟩
def f3K:Hints:=⟨[(58,[2,7,.box pinned Q2,.box 1000001 Q19,Qp 0 pinned,Qp 1 1000001],[Qe 0 [.box pinned Q2,.box 1000001 Q19],Qr [.sv 6 .bool,.box pinned Q2,.box 1000001 Q19]])],[],[(1,[.p,.w [9,1009,pinned],.p,.p,.r [12,1000001],.r [13,1000001],.v,.v,.x]),(6,[.p,.p,.q,.q,.v,.q,.q,.p,.p,.q,.q,.v,.v,.v,.v,.v,.v,.v,.v,.v,.v,.v,.v,.v,.v,.x])]⟩
def a4b(s:(Int×(Int×(Int×(Int×(LI×d8k)))))):Option ((Int×(Int×(Int×(Int×(LI×d8k))))) ⊕ d3d):=(fun(a b:Int)(c:LI)(d:Z18)(e f:a2H)=>cond (decide (b<(c.length:Int))) (cond ((decide (0<=b))&&(decide (b<(c.length:Int)))) (cond ((decide (0<=b))&&(decide (b<3))) (some (.inl (s.1,s.2.1,a,wrap .i64 (b+1),c,d,e,(f.1,f.2.1,f.2.2.1,f.2.2.2.1,f.2.2.2.2.1,f.2.2.2.2.2.1,a07 f.2.2.2.2.2.2.1 (a00 b) (a04 c (a00 b) 0),f.2.2.2.2.2.2.2),()))) none) none) (some (.inr (s.1,s.2.1,a,d,e,f,())))) s.2.2.1 s.2.2.2.1 s.2.2.2.2.1 s.2.2.2.2.2.1 s.2.2.2.2.2.2.1 s.2.2.2.2.2.2.2.1
def a9G(s:(Int×Int×d3d)):Option ((Int×Int×d3d) ⊕ d3d):=(fun(a b c:Int)(d:Z18)(e f:a2H)=>cond (decide (c<b)) ((a0z (d,5)).bind fun y12=>(a0z (y12.2,4)).bind fun y13=>cond (lim ((a01 f.2.2.2.2.2.2.2.1)+1)) (some (.inl (s.1,s.2.1,a,b,wrap .i64 (c+1),y13.2,e,(f.1,f.2.1,f.2.2.1,f.2.2.2.1,f.2.2.2.2.1,f.2.2.2.2.2.1,f.2.2.2.2.2.2.1,a02 f.2.2.2.2.2.2.2.1 ([(wrap .i64 ((wrap .i64 y12.1)+1),wrap .i64 y13.1,())]:List (Int×Int×Unit)),f.2.2.2.2.2.2.2.2),()))) none) (some (.inr (s.1,s.2.1,a,d,e,f,())))) s.2.2.1 s.2.2.2.1 s.2.2.2.2.1 s.2.2.2.2.2.1 s.2.2.2.2.2.2.1 s.2.2.2.2.2.2.2.1
def a3v(x:Z32):Option (a2H×Z31):=(show Option (Int×Bool×e2H)from cond (decide (x.2<1)) (some (x.2,true,x.1,(0,0,0,0,0,[],a03 3 0,[],[],(0,[],()),[],()),())) (some (x.2,decide (x.2 > 4096),x.1,(0,0,0,0,0,[],a03 3 0,[],[],(0,[],()),[],()),()))).bind fun z1=>cond z1.2.1 (some ((0,0,0,0,0,[],a03 3 0,[],[],(0,[],()),[],()),1,z1.2.2.1)) ((a0z (z1.2.2.1,3)).bind fun y2=>(a0z (y2.2,5)).bind fun y3=>(a0z (y3.2,5)).bind fun y4=>(show Option d3d from cond ((wrap .i64 y2.1)==2) ((a0z (y4.2,3)).bind fun y5=>some (z1.1,z1.2.2.1.2.1,wrap .i64 y4.1,y5.2,z1.2.2.2.1,(wrap .i64 y2.1,wrap .i64 y3.1,wrap .i64 y5.1,0,0,[],a03 3 0,[],[],(0,[],()),[],()),())) (cond ((wrap .i64 y2.1)==3) ((a3q (y4.2,wrap .i64 y2.1,wrap .i64 y3.1,0,0,0,[],a03 3 0,[],[],(0,[],()),[],())).bind fun y6=>some (z1.1,z1.2.2.1.2.1,wrap .i64 y4.1,y6.1,z1.2.2.2.1,y6.2,())) (cond ((wrap .i64 y2.1)==4) ((a0z (y4.2,10)).bind fun y7=>(a1K (y7.2,3,8)).bind fun y8=>(a0d a4b (z1.1,z1.2.2.1.2.1,wrap .i64 y4.1,0,y8.1,y8.2,z1.2.2.2.1,(wrap .i64 y2.1,wrap .i64 y3.1,0,0,wrap .i64 ((wrap .i64 y7.1)+1),[],a03 3 0,[],[],(0,[],()),[],()),())).bind fun w9=>(a3q (w9.2.2.2.1,w9.2.2.2.2.2.1)).bind fun y10=>some (w9.1,w9.2.1,w9.2.2.1,y10.1,w9.2.2.2.2.1,y10.2,())) (cond ((wrap .i64 y2.1)==5) ((a0z (y4.2,2)).bind fun y11=>(a0d a9G (z1.1,z1.2.2.1.2.1,wrap .i64 y4.1,wrap .i64 y11.1,0,y11.2,z1.2.2.2.1,(wrap .i64 y2.1,wrap .i64 y3.1,0,0,0,[],a03 3 0,[],[],(0,[],()),[],()),())).bind fun w14=>some (w14.1,w14.2.1,w14.2.2.1,w14.2.2.2.1,w14.2.2.2.2.1,w14.2.2.2.2.2.1,())) (some (z1.1,z1.2.2.1.2.1,wrap .i64 y4.1,y4.2,z1.2.2.2.1,(wrap .i64 y2.1,wrap .i64 y3.1,0,0,0,[],a03 3 0,[],[],(0,[],()),[],()),())))))).bind fun z15=>cond (z15.2.2.2.1.2.2.1 != 0) (some ((0,0,0,0,0,[],a03 3 0,[],[],(0,[],()),[],()),z15.2.2.2.1.2.2.1,z15.2.2.2.1)) ((a9h (z15.2.2.2.2.2.1,z15.1)).bind fun y16=>cond (decide (y16<0)) (some ((0,0,0,0,0,[],a03 3 0,[],[],(0,[],()),[],()),2,z15.2.2.2.1)) ((a1K (z15.2.2.2.1,y16,z15.2.2.1)).bind fun y17=>cond (y17.2.2.2.1 != 0) (some ((0,0,0,0,0,[],a03 3 0,[],[],(0,[],()),[],()),y17.2.2.2.1,y17.2)) ((show Option (d8l ⊕ (Int×c8R))from(a5k z15.2.2.2.2.2.1.1).bind fun y18=>cond y18 ((a6t (y17.2,z15.1,y16)).bind fun y19=>cond (y19.2.2.1 != 0) (some (Sum.inr ((y19.2.2.1,(0,0,0,0,0,[],a03 3 0,[],[],(0,[],()),[],()),y19.2.2.2,())))) (some (Sum.inl (z15.1,z15.2.1,y19.2.2.2,z15.2.2.2.2.1,(z15.2.2.2.2.2.1.1,z15.2.2.2.2.2.1.2.1,z15.2.2.2.2.2.1.2.2.1,z15.2.2.2.2.2.1.2.2.2.1,z15.2.2.2.2.2.1.2.2.2.2.1,z15.2.2.2.2.2.1.2.2.2.2.2.1,z15.2.2.2.2.2.1.2.2.2.2.2.2.1,z15.2.2.2.2.2.1.2.2.2.2.2.2.2.1,y17.1,y19.1,y19.2.1,z15.2.2.2.2.2.1.2.2.2.2.2.2.2.2.2.2.2),())))) (some (Sum.inl (z15.1,z15.2.1,y17.2,z15.2.2.2.2.1,(z15.2.2.2.2.2.1.1,z15.2.2.2.2.2.1.2.1,z15.2.2.2.2.2.1.2.2.1,z15.2.2.2.2.2.1.2.2.2.1,z15.2.2.2.2.2.1.2.2.2.2.1,z15.2.2.2.2.2.1.2.2.2.2.2.1,z15.2.2.2.2.2.1.2.2.2.2.2.2.1,z15.2.2.2.2.2.1.2.2.2.2.2.2.2.1,y17.1,z15.2.2.2.2.2.1.2.2.2.2.2.2.2.2.2),())))).bind fun z20=>match z20 with |.inl a21=>((show Option (Bool×a2H×c8R)from(a3u (([],()),a21.2.2.2.2.1,a21.1)).bind fun y23=>cond (y23.1 != 0) (some (true,a21.2.2.2.1,a21.2.2.2.2.1,a21.2.2.1,())) ((a5P (y23.2,a21.2.2.1,a21.2.1)).bind fun y24=>some (!y24.1,a21.2.2.2.1,a21.2.2.2.2.1,y24.2.2,()))).bind fun z25=>cond z25.1 (some ((0,0,0,0,0,[],a03 3 0,[],[],(0,[],()),[],()),2,z25.2.2.2.1)) (some (z25.2.2.1,0,z25.2.2.2.1))) |.inr b22=>some (b22.2.1,b22.1,b22.2.2.1)))))
def d3H:FSem:=⟨[.r false (.b Q19),.v QI],[.v Q68,.v QI],a3v⟩
def f3L:Hints:=⟨[(1038298,[1,6,8,10,.own 9 9 QI,.box pinned Q19,.box 4 Q68,.box 7 Q67,Qp 0 pinned,Qp 4 4,Qp 7 7],[Qe 1 [1,6,8,.box pinned Q19,.box 4 Q68,.box 7 Q67,Qp 0 pinned,Qp 4 4,Qp 7 7]]),(1038326,[1,6,8,11,12,.box pinned Q19,.box 4 Q68,.box 7 Q67,Qp 0 pinned,Qp 4 4,Qp 7 7],[Qe 3 [1,6,8,.box pinned Q19,.box 4 Q68,.box 7 Q67,Qp 0 pinned,Qp 4 4,Qp 7 7]])],[(6,[Qn [1,.sv 23 .bool,.box pinned Q19,.box 4 Q68,Qp 0 pinned,Qp 4 4]]),(63,[Qn [1,6,8,.box pinned Q19,.box 4 Q68,.box 7 Q67,Qp 0 pinned,Qp 4 4,Qp 7 7]]),(4095,[Qn [1,6,.box pinned Q19,.box 4 Q68,.box 7 Q68,Qp 0 pinned,Qp 4 4,Qp 7 7],Qr [5,.box 4 Q68,.box pinned Q19,Qp 4 4]]),(32766,[Qn [.sv 161 .bool,.box 4 Q68,.box 7 Q68,.box pinned Q19,Qp 4 4,Qp 7 7]])],[(24,[.r [7,85],.r [7,86],.p,.w [88,1088,pinned],.v,.v,.p,.w [92,1092,pinned],.v,.v,.q,.x,.x,.x]),(26,[.v,.p,.p,.r [106,pinned],.r [107,pinned],.w [0,4],.x]),(32,[.v,.p,.p,.r [127,pinned],.r [128,pinned],.w [0,4],.x])]⟩
def a2A(s:Z54):Option (Z54 ⊕ (Z54 ⊕ Z37)):=cond ((a09 s.1 8) != 0) ((a5c (s.2.1,s.1)).bind fun y1=>cond (y1.1==1) (some (.inr (Sum.inr (((y1.2.1,y1.2.2.1,2,y1.2.2.2.2),()))))) (some (.inl (wrap .i64 (s.1+1),y1.2,())))) (some (.inr (Sum.inl (s.1,s.2.1,()))))
def a5u(x:Z18):Option Z18:=cond (x.2.2.1 != 0) (some x) ((a0d a2A (x.2.1,x,())).bind fun w2=>match w2 with |.inl a3=>some (a3.2.1.1,a3.1,a3.2.1.2.2) |.inr b4=>some b4.1)
def c3Y:FSem:=⟨[.r false (.b Q19)],[],a5u⟩
def f3M:Hints:=⟨[(28,[2,.box pinned Q19,Qp 0 pinned],[Qe 0 [2,.box pinned Q19,Qp 0 pinned],Qr [.box pinned Q19]])],[],[]⟩
def a7S(s:Z17):Option (Z17 ⊕ Z0):=cond (decide (s.2.1<(s.1.length:Int))) ((a0m s.1 s.2.1).bind fun x2=>(a0m s.1 0).bind fun x3=>cond ((x2.length:Int) != (x3.length:Int)) (some (.inr (Sum.inr ((false,()))))) (some (.inl (s.1,wrap .i64 (s.2.1+1),())))) (some (.inr (Sum.inl ())))
def b1u(x:(List LI)):Option Bool:=(show Option ((List LI)×(Bool×Unit))from cond (decide ((x.length:Int)<1)) (some (x,true,())) (some (x,decide ((x.length:Int) > 8),()))).bind fun z1=>cond z1.2.1 (some false) ((a0d a7S (z1.1,0,())).bind fun w4=>match w4 with |.inl a5=>some true |.inr b6=>some b6.1)
def d5M:FSem:=⟨[.v (.list false QL)],[.v .bool],b1u⟩
def f3N:Hints:=⟨[(58,[.sv 0 (.list false QL),3],[Qe 0 [],Qr [.sv 2 .bool]])],[(6,[Qn [.sv 0 (.list false QL),.sv 11 .bool]])],[(6,[.v,.v,.v,.v,.v,.v,.v,.v,.v,.x])]⟩
def a9c(s:Z17):Option (Z17 ⊕ Z0):=cond (decide (s.2.1<(s.1.length:Int))) ((a0m s.1 s.2.1).bind fun x5=>(a2g x5).bind fun y6=>cond (!y6) (some (.inr (Sum.inr ((false,()))))) (some (.inl (s.1,wrap .i64 (s.2.1+1),())))) (some (.inr (Sum.inl ())))
def b5R(x:Z60):Option Bool:=(show Option ((List LI)×(Bool×Unit))from(b1u x.1).bind fun y1=>cond (!y1) (some (x.1,true,())) ((a0m x.1 0).bind fun x2=>cond (decide ((x2.length:Int) > 4096)) (some (x.1,true,())) ((a8X (x.2,(x.1.length:Int))).bind fun y3=>some (x.1,!y3,())))).bind fun z4=>cond z4.2.1 (some false) ((a0d a9c (z4.1,0,())).bind fun w7=>match w7 with |.inl a8=>some true |.inr b9=>some b9.1)
def d8I:FSem:=⟨[.v (.list false QL),.v (.list false Q14)],[.v .bool],b5R⟩
def f3O:Hints:=⟨[(58,[.sv 0 (.list false QL),5],[Qe 0 [],Qr [.sv 4 .bool]])],[(6,[Qn [.sv 0 (.list false QL),.sv 22 .bool]])],[]⟩
def a9H(s:Z59):Option (Z59 ⊕ Z2):=cond (decide (s.2.1<(s.1.length:Int))) ((a0m s.1 s.2.1).bind fun x1=>cond (lim (0+(a01 x1))) (cond (lim ((a01 s.2.2.1)+(a01 (a07 ([[]]:List LI) 0 (a02 [] x1))))) (some (.inl (s.1,wrap .i64 (s.2.1+1),a02 s.2.2.1 (a07 ([[]]:List LI) 0 (a02 [] x1)),()))) none) none) (some (.inr (s.2.2.1,())))
def b3s(x:(List LI)):Option (List LI):=(a0d a9H (x,0,([]:(List LI)),())).bind fun w2=>some w2.1
def d3I:FSem:=⟨[.v (.list false QL)],[.o (.list true QI)],b3s⟩
def f3P:Hints:=⟨[(58,[.sv 0 (.list false QL),4,.own 3 3 (.list true QI)],[Qe 0 [.own 3 3 (.list true QI)]])],[],[]⟩
def a7T(s:(Int×(Int×((List LI)×Z26)))):Option ((Int×(Int×((List LI)×Z26))) ⊕ (Z2 ⊕ (Bool×Z2))):=(fun(a b:Int)(c:List LI)(d:Z8)=>cond (decide (0<(c.length:Int))) (cond (decide (b<((a01 (a04 c 0 []):Nat):Int))) (cond ((decide (0<=d.2.1))&&(decide (d.2.1<(c.length:Int)))) (cond ((decide (0<=d.2.1))&&(decide (d.2.1<(c.length:Int)))) (cond ((decide (0<=b))&&(decide (b<((a01 (a04 c (a00 d.2.1) []):Nat):Int)))) (cond ((decide (0<=d.1))&&(decide (d.1<(c.length:Int)))) (cond ((decide (0<=b))&&(decide (b<((a01 (a04 c (a00 d.1) []):Nat):Int)))) (cond ((decide (0<=b))&&(decide (b<((a01 (a04 c (a00 d.2.1) []):Nat):Int)))) (cond ((decide (0<=d.2.1))&&(decide (d.2.1<((a01 (a07 c (a00 d.2.1) (a07 (a04 c (a00 d.2.1) []) (a00 b) (wrap .i64 ((a04 (a04 c (a00 d.2.1) []) (a00 b) 0)+(wrap .i64 (a*(a0v .i64 (wrap .i64 (d.2.2.1*(a04 (a04 c (a00 d.1) []) (a00 b) 0))) 8))))))):Nat):Int)))) (cond ((decide (0<=b))&&(decide (b<((a01 (a04 (a07 c (a00 d.2.1) (a07 (a04 c (a00 d.2.1) []) (a00 b) (wrap .i64 ((a04 (a04 c (a00 d.2.1) []) (a00 b) 0)+(wrap .i64 (a*(a0v .i64 (wrap .i64 (d.2.2.1*(a04 (a04 c (a00 d.1) []) (a00 b) 0))) 8))))))) (a00 d.2.1) []):Nat):Int)))) ((a3p (a04 (a04 (a07 c (a00 d.2.1) (a07 (a04 c (a00 d.2.1) []) (a00 b) (wrap .i64 ((a04 (a04 c (a00 d.2.1) []) (a00 b) 0)+(wrap .i64 (a*(a0v .i64 (wrap .i64 (d.2.2.1*(a04 (a04 c (a00 d.1) []) (a00 b) 0))) 8))))))) (a00 d.2.1) []) (a00 b) 0)).bind fun y1=>cond (!y1) (some (.inr (Sum.inr ((false,a07 c (a00 d.2.1) (a07 (a04 c (a00 d.2.1) []) (a00 b) (wrap .i64 ((a04 (a04 c (a00 d.2.1) []) (a00 b) 0)+(wrap .i64 (a*(a0v .i64 (wrap .i64 (d.2.2.1*(a04 (a04 c (a00 d.1) []) (a00 b) 0))) 8)))))),()))))) (some (.inl (a,wrap .i64 (b+1),a07 c (a00 d.2.1) (a07 (a04 c (a00 d.2.1) []) (a00 b) (wrap .i64 ((a04 (a04 c (a00 d.2.1) []) (a00 b) 0)+(wrap .i64 (a*(a0v .i64 (wrap .i64 (d.2.2.1*(a04 (a04 c (a00 d.1) []) (a00 b) 0))) 8)))))),d,())))) none) none) none) none) none) none) none) none) (some (.inr (Sum.inl (c,()))))) none) s.1 s.2.1 s.2.2.1 s.2.2.2.1
def b7H(x:((List LI)×(Z8×Int))):Option (Bool×(List LI)):=(a0d a7T (x.2.2,0,x.1,x.2.1,())).bind fun w2=>match w2 with |.inl a3=>some (true,a3.1) |.inr b4=>some (b4.1,b4.2.1)
def e0S:FSem:=⟨[.r false (.o (.list true QI)),.v Q14,.v QI],[.v .bool],b7H⟩
def f3Q:Hints:=⟨[(26,[2,7,.own 0 pinned (.list true QI),.vp 4 Q14],[Qe 0 [.own 0 pinned (.list true QI)],Qr [.sv 6 .bool,.own 0 pinned (.list true QI)]])],[],[(4,[.q,.v,.v,.q,.q,.v,.q,.v,.v,.q,.q,.v,.q,.q,.v,.v,.v,.q,.v,.v,.q,.q,.v,.q,.q,.v,.v,.v,.v,.x,.x])]⟩
def a7u(s:(Z19×Z15)):Option ((Z19×Z15) ⊕ (Z2 ⊕ Z17)):=cond (decide (s.2.1>=0)) ((a0m s.1 s.2.1).bind fun x3=>(b7H (s.2.2.1,x3,(-1))).bind fun y4=>cond (!y4.1) (some (.inr (Sum.inr ((([]:(List LI)),6,()))))) (some (.inl (s.1,wrap .i64 (s.2.1-1),y4.2,())))) (some (.inr (Sum.inl (s.2.2.1,()))))
def b0P(x:Z60):Option ((List LI)×Int):=(b5R (x.1,x.2)).bind fun y1=>cond (!y1) (some (([]:(List LI)),1)) ((b3s x.1).bind fun y2=>(a0d a7u (x.2,wrap .i64 ((x.2.length:Int)-1),y2,())).bind fun w5=>match w5 with |.inl a6=>some (a6.1,0) |.inr b7=>some (b7.1,b7.2.1))
def c9o:FSem:=⟨[.v (.list false QL),.v (.list false Q14)],[.v (.list false QL),.v QI],b0P⟩
def H62:Hints:=⟨[(122,[.sv 1 (.list false Q14),7,.own 6 6 (.list true QI)],[Qe 0 [.own 6 6 (.list true QI)],Qr [.sv 4 (.list false QL),5]])],[],[]⟩
def a4l(s:Z68):Option (Z68 ⊕ (Z46 ⊕ (Bool×Unit))):=(fun(a b:Int)(c:Z15)=>(a0m c.2.1 a).bind fun x5=>cond (decide (b<(x5.length:Int))) ((a0m c.2.1 a).bind fun x6=>(a0m x6 b).bind fun x7=>(b0k (x7,c.1)).bind fun y8=>cond (!y8) (some (.inr (Sum.inr ((false,()))))) (some (.inl (a,wrap .i64 (b+1),c,())))) (some (.inr (Sum.inl (a,c,()))))) s.1 s.2.1 s.2.2.1
def a5v(s:Z46):Option (Z46 ⊕ Z0):=cond (decide (s.1<(s.2.1.2.1.length:Int))) ((a0d a4l (s.1,0,s.2.1,())).bind fun w9=>match w9 with |.inl a10=>some (.inl (wrap .i64 (a10.1+1),a10.2.1,())) |.inr b11=>some (.inr (Sum.inr ((b11.1,()))))) (some (.inr (Sum.inl ())))
def a7U(x:Z15):Option Bool:=(show Option Z55 from cond (decide (x.1<4)) (some (true,x,())) (cond (decide (x.1 > 24)) (some (true,x,())) ((b1u x.2.1).bind fun y1=>cond (!y1) (some (true,x,())) ((a0m x.2.1 0).bind fun x2=>cond (decide ((x2.length:Int)<1)) (some (true,x,())) ((a0m x.2.1 0).bind fun x3=>some (decide ((x3.length:Int) > 4096),x,())))))).bind fun z4=>cond z4.1 (some false) ((a0d a5v (0,z4.2.1,())).bind fun w12=>match w12 with |.inl a13=>some true |.inr b14=>some b14.1)
def c9p:FSem:=⟨[.v Q18],[.v .bool],a7U⟩
def H63:Hints:=⟨[(58,[3,.vp 1 Q18],[Qe 0 [],Qr [.sv 2 .bool]]),(3730,[3,4,.vp 1 Q18],[Qe 2 [3,.vp 1 Q18],Qr [.sv 2 .bool]])],[(6,[Qn [.sv 34 .bool,.vp 1 Q18]])],[(9,[.v,.v,.v,.v,.v,.v,.v,.v,.v,.v,.x,.x])]⟩
def a4w(s:d8j):Option (d8j ⊕ (e2J ⊕ Z55)):=(fun(a:List LI)(b:Z15)(c:a2Q)=>cond (decide (s.1<(c.2.2.2.2.1.length:Int))) ((a0m c.2.2.2.2.1 s.1).bind fun x3=>(b0j (x3,c.2.1)).bind fun y4=>cond (!y4.2) (some (.inr (Sum.inr ((false,(0,([]:(List LI)),()),()))))) (cond (lim ((a01 a)+1)) (some (.inl (wrap .i64 (s.1+1),a02 a ([y4.1]:List LI),b,c,()))) none)) (some (.inr (Sum.inl (a,b,c,()))))) s.2.1 s.2.2.1 s.2.2.2.1
def a2X(x:a2Q):Option (Z15×Bool):=(show Option (Bool×d8h)from(a8Y x).bind fun y1=>cond (!y1) (some (true,(0,([]:(List LI)),()),x,())) (some ((x.2.2.2.2.1.length:Int) != x.2.2.1.2.1,(0,([]:(List LI)),()),x,()))).bind fun z2=>cond z2.1 (some ((0,([]:(List LI)),()),false)) ((a0d a4w (0,([]:(List LI)),z2.2.1,z2.2.2.1,())).bind fun w5=>match w5 with |.inl a6=>((b0P (a6.1,a6.2.2.1.2.2.2.1)).bind fun y8=>(show Option (Bool×Z15×Z34)from cond (y8.2 != 0) (some (true,a6.2.1,(a6.2.2.1.2.2.1.2.2.1,y8.1,()),())) ((a7U (a6.2.2.1.2.2.1.2.2.1,y8.1,())).bind fun y9=>some (!y9,a6.2.1,(a6.2.2.1.2.2.1.2.2.1,y8.1,()),()))).bind fun z10=>cond z10.1 (some ((0,([]:(List LI)),()),false)) (some (z10.2.2.1,true))) |.inr b7=>some (b7.2.1,b7.1))
def c5N:FSem:=⟨[.v Q90],[.v Q18,.v .bool],a2X⟩
def H23:Hints:=⟨[(122,[5,.own 4 4 QL,.box 2 Q18,.vp 1 Q90,Qp 2 2],[Qe 0 [.own 4 4 QL,.box 2 Q18,.vp 1 Q90,Qp 2 2],Qr [.sv 3 .bool,.box 2 Q18,Qp 2 2]])],[(6,[Qn [.sv 22 .bool,.box 2 Q18,.vp 1 Q90,Qp 2 2]]),(254,[Qn [.sv 67 .bool,.box 2 Q18,.box 10 Q18,Qp 2 2,Qp 10 10]])],[(7,[.v,.v,.v,.v,.v,.v,.v,.x,.x,.q,.q,.q,.x])]⟩
def a5Q(x:a2Q):Option Bool:=(a2X x).bind fun y1=>some y1.2
def c9q:FSem:=⟨[.v Q90],[.v .bool],a5Q⟩
def a2Y(s:d8n):Option (d8n ⊕ (e2K ⊕ (Int×Int×b2R))):=(fun(a b:a2Q)(c:Z18)=>cond (decide (s.2.1<b.2.2.1.2.1)) ((a3v (c,b.2.1)).bind fun y7=>cond (y7.2.1 != 0) (some (.inr (Sum.inr ((0,2,(0,0,(0,0,0,()),[],[],()),()))))) (cond (lim ((a01 b.2.2.2.2.1)+1)) (some (.inl (s.1,wrap .i64 (s.2.1+1),a,(b.1,b.2.1,b.2.2.1,b.2.2.2.1,a02 b.2.2.2.2.1 ([y7.1]:List a2H),b.2.2.2.2.2),y7.2.2,()))) none)) (some (.inr (Sum.inl (s.1,a,b,c,()))))) s.2.2.1 s.2.2.2.1 s.2.2.2.2.1
def a9I(x:LI):Option (a2Q×Int×Int):=(b5O x).bind fun y1=>cond (y1.2.2.2 != 0) (some ((0,0,(0,0,0,()),[],[],()),0,y1.2.2.2)) (cond (decide ((x.length:Int)<(wrap .i64 ((wrap .i64 (y1.2.2.1+y1.2.1))+2)))) (some ((0,0,(0,0,0,()),[],[],()),0,3)) (cond ((decide (0<=(wrap .i64 (y1.2.2.1+y1.2.1))))&&(decide ((wrap .i64 (y1.2.2.1+y1.2.1))<=(x.length:Int)))) ((b0i (a05 (a00 (wrap .i64 (y1.2.2.1+y1.2.1))) x)).bind fun y2=>(b6O (wrap .u64 y2,2)).bind fun y3=>cond ((decide (0<=(wrap .i64 ((wrap .i64 (y1.2.2.1+y1.2.1))+2))))&&(decide ((wrap .i64 ((wrap .i64 (y1.2.2.1+y1.2.1))+2))<=(x.length:Int)))) (cond ((decide (0<=(wrap .i64 (y1.2.2.1+y1.2.1))))&&(decide ((wrap .i64 (y1.2.2.1+y1.2.1))<=((a00 (wrap .i64 ((wrap .i64 (y1.2.2.1+y1.2.1))+2)):Nat):Int)))) ((b7G (y3,a08 (a00 (wrap .i64 (y1.2.2.1+y1.2.1))) (a05 (a00 (wrap .i64 ((wrap .i64 (y1.2.2.1+y1.2.1))+2))) x))).bind fun y4=>cond (!y4) (some ((0,0,(0,0,0,()),[],[],()),0,5)) (cond ((decide (0<=(wrap .i64 (y1.2.2.1+y1.2.1))))&&(decide ((wrap .i64 (y1.2.2.1+y1.2.1))<=(x.length:Int)))) (cond ((decide (0<=y1.2.2.1))&&(decide (y1.2.2.1<=((a00 (wrap .i64 (y1.2.2.1+y1.2.1)):Nat):Int)))) ((b0M (a08 (a00 y1.2.2.1) (a05 (a00 (wrap .i64 (y1.2.2.1+y1.2.1))) x))).bind fun y5=>(a0d a2Y (wrap .i64 (y1.2.2.1+y1.2.1),0,(0,0,(0,0,0,()),[],[],()),y1.1,y5,())).bind fun w8=>match w8 with |.inl a9=>((a5u a9.2.2.2.1).bind fun y11=>cond (y11.2.2.1 != 0) (some ((0,0,(0,0,0,()),[],[],()),0,2)) ((a1M y11).bind fun y12=>cond (decide (y12.1 > 0)) (some ((0,0,(0,0,0,()),[],[],()),0,2)) ((a5Q a9.2.2.1).bind fun y13=>cond (!y13) (some ((0,0,(0,0,0,()),[],[],()),0,2)) (some (a9.2.2.1,wrap .i64 (a9.1+2),0))))) |.inr b10=>some (b10.2.2.1,b10.1,b10.2.1)) none) none)) none) none) none))
def c7v:FSem:=⟨[.v QB],[.v Q90,.v QI,.v QI],a9I⟩
def H52:Hints:=⟨[(2042,[9,11,.box 2 Q90,.box 5 Q89,.box 1052 Q19,Qp 2 2,Qp 5 5,Qp 10 1052],[Qe 0 [9,.box 2 Q90,.box 5 Q89,.box 1052 Q19,Qp 2 2,Qp 5 5,Qp 10 1052],Qr [3,4,.box 2 Q90,Qp 2 2]])],[],[(7,[.v,.v,.v,.v,.v,.q,.v,.v,.v,.v,.v,.x,.x])]⟩
def a6R(x:(LI×(Z95×Int×Int×Int))):Option d8g:=(a0m x.2.1.2.1 x.2.2.1).bind fun x1=>cond (decide ((wrap .i64 ((x.1.length:Int)-x.2.2.2.1))<x1)) (some ((0,0,(0,0,0,()),[],[],()),3)) ((a0m x.2.1.2.1 x.2.2.1).bind fun x2=>cond ((decide (0<=(wrap .i64 (x.2.2.2.1+x2))))&&(decide ((wrap .i64 (x.2.2.2.1+x2))<=(x.1.length:Int)))) (cond ((decide (0<=x.2.2.2.1))&&(decide (x.2.2.2.1<=((a00 (wrap .i64 (x.2.2.2.1+x2)):Nat):Int)))) ((a9I (a08 (a00 x.2.2.2.1) (a05 (a00 (wrap .i64 (x.2.2.2.1+x2))) x.1))).bind fun y3=>cond (y3.2.2 != 0) (some ((0,0,(0,0,0,()),[],[],()),y3.2.2)) ((show Option (Bool×d8m)from(a0m x.2.1.2.1 x.2.2.1).bind fun x4=>cond (y3.2.1 != x4) (some (true,(0,0,(0,0,0,()),[],[],()),y3.1,())) (cond (!(eqT Q14 y3.1.2.2.1 x.2.1.1)) (some (true,(0,0,(0,0,0,()),[],[],()),y3.1,())) (cond (y3.1.1 != x.2.2.2.2) (some (true,(0,0,(0,0,0,()),[],[],()),y3.1,())) ((a0m x.2.1.2.2.1 x.2.2.1).bind fun x5=>some (y3.1.2.1 != x5,(0,0,(0,0,0,()),[],[],()),y3.1,()))))).bind fun z6=>cond z6.1 (some ((0,0,(0,0,0,()),[],[],()),2)) (some (z6.2.2.1,0)))) none) none)
def c7w:FSem:=⟨[.v QB,.v Q39,.v QI,.v QI,.v QI],[.v Q90,.v QI],a6R⟩
def H19:Hints:=⟨[],[(62,[Qn [.sv 74 .bool,.box 10 Q90,.box 12 Q90,Qp 10 10,Qp 12 12]])],[(6,[.v,.v,.v,.v,.v,.v,.x,.x,.q,.q,.v,.v,.x,.x,.x,.q,.q,.v,.x,.x,.x,.q,.q,.v,.v,.v,.v,.v,.x,.x])]⟩
def b7I(x:b1a):Option Int:=cond ((x.length:Int)==0) (some 0) ((a0m x (wrap .i64 ((x.length:Int)-1))).bind fun x1=>some (wrap .i64 (x1.1+x1.2.1)))
def e0T:FSem:=⟨[.v (.list false Q90)],[.v QI],b7I⟩
def a5A(s:(Int×(LI×Z10))):Option ((Int×(LI×Z10)) ⊕ (LI×Z10)):=(fun(a:Int)(b:LI)(c:LI×Unit)=>cond (decide (a<(c.1.length:Int))) (cond ((decide (0<=(wrap .i64 (a06 a 8))))&&(decide ((wrap .i64 (a06 a 8))<(b.length:Int)))) (cond ((decide (0<=a))&&(decide (a<(c.1.length:Int)))) (cond (decide ((wrap .u64 (wrap .i64 (7-(a09 a 8))))<0)) none (cond ((decide (0<=(wrap .i64 (a06 a 8))))&&(decide ((wrap .i64 (a06 a 8))<(b.length:Int)))) (some (.inl (wrap .i64 (a+1),a07 b (a00 (wrap .i64 (a06 a 8))) (bits .u8 .or (a04 b (a00 (wrap .i64 (a06 a 8))) 0) (a0t .u8 (a04 c.1 (a00 a) 0) (wrap .u64 (wrap .i64 (7-(a09 a 8)))))),c,()))) none)) none) none) (some (.inr (b,c,())))) s.1 s.2.1 s.2.2.1
def a7v(x:(LI×Unit)):Option Z16:=cond ((decide (0<=(wrap .i64 (a06 (wrap .i64 ((x.1.length:Int)+7)) 8))))&&((decide ((wrap .i64 (a06 (wrap .i64 ((x.1.length:Int)+7)) 8))<=(wrap .i64 (a06 (wrap .i64 ((x.1.length:Int)+7)) 8))))&&(lim (a00 (wrap .i64 (a06 (wrap .i64 ((x.1.length:Int)+7)) 8)))))) ((a0d a5A (0,a03 (a00 (wrap .i64 (a06 (wrap .i64 ((x.1.length:Int)+7)) 8))) 0,x,())).bind fun w1=>some (w1.1,w1.2.1)) none
def c3Z:FSem:=⟨[.r false (.b Q2)],[.o QV],a7v⟩
def f3R:Hints:=⟨[(58,[4,.own 3 3 QV,.box pinned Q2,Qp 0 pinned],[Qe 0 [.own 3 3 QV,.box pinned Q2]])],[],[(5,[.q,.v,.v,.q,.v,.v,.q,.q,.p,.p,.q,.q,.v,.q,.q,.v,.v,.v,.v,.v,.v,.x,.x])]⟩
def a8w(s:Z42):Option (Z42 ⊕ Z42):=(fun(a:Int)(b:LI)=>cond (decide (a>=128)) (cond (lim ((a01 b)+1)) (some (.inl (s.1,s.2.1,a0v .u64 a 7,a02 b [wrap .u8 (bits .u64 .or (bits .u64 .and a 127) 128)],()))) none) (some (.inr (s.1,s.2.1,a,b,())))) s.2.2.1 s.2.2.2.1
def a8x(s:Z29):Option (Z29 ⊕ (LI×Unit)):=cond (decide (s.2.1<(s.1.length:Int))) ((a0m s.1 s.2.1).bind fun x1=>(a0d a8w (s.1,s.2.1,x1,s.2.2.1,())).bind fun w2=>cond (lim ((a01 w2.2.2.2.1)+1)) (some (.inl (w2.1,wrap .i64 (w2.2.1+1),a02 w2.2.2.2.1 [wrap .u8 w2.2.2.1],()))) none) (some (.inr (s.2.2.1,())))
def a3z(x:LI):Option LI:=(a0d a8x (x,0,[],())).bind fun w3=>some w3.1
def d1F:FSem:=⟨[.v (.list false QU)],[.o QV],a3z⟩
def f3S:Hints:=⟨[(58,[.sv 0 (.list false QU),4,.own 3 3 QV],[Qe 0 [.own 3 3 QV]]),(7460,[.sv 0 (.list false QU),4,.sv 5 QU,.own 3 3 QV],[Qe 2 [.sv 0 (.list false QU),4,.sv 5 QU,.own 3 3 QV]])],[],[]⟩
def b1U(s:(Int×(Int×(LI×b2R)))):Option ((Int×(Int×(LI×b2R))) ⊕ Z6):=(fun(a:Int)(b:LI)(c:a2Q)=>cond (decide (a<(c.2.2.2.1.length:Int))) ((a0m c.2.2.2.1 a).bind fun x2=>(b4a x2.2.2.1).bind fun y3=>(a3z [wrap .u64 x2.1,wrap .u64 x2.2.1,y3]).bind fun y4=>cond (lim ((a01 b)+(a01 y4))) (some (.inl (s.1,wrap .i64 (a+1),a02 b y4,c,()))) none) (some (.inr (s.1,b,())))) s.2.1 s.2.2.1 s.2.2.2.1
def b5S(x:d8g):Option LI:=(a3z ([wrap .u64 x.1.1,wrap .u64 x.1.2.1,wrap .u64 x.1.2.2.1.1,wrap .u64 x.1.2.2.1.2.1,wrap .u64 x.1.2.2.1.2.2.1,wrap .u64 (x.1.2.2.2.1.length:Int)]:List Int)).bind fun y1=>(a0d b1U (x.2,0,y1,x.1,())).bind fun w5=>(a3z [wrap .u64 w5.1]).bind fun y6=>cond (lim ((a01 w5.2.1)+(a01 y6))) (cond (lim (2+(a01 (a02 w5.2.1 y6)))) (some (a02 [245,75] (a02 w5.2.1 y6))) none) none
def d8J:FSem:=⟨[.v Q90,.v QI],[.o QV],b5S⟩
def f3T:Hints:=⟨[(58,[1,6,.own 5 5 QV,.vp 2 Q90],[Qe 0 [1,.own 5 5 QV]])],[],[(6,[.q,.q,.q,.v,.q,.q,.v,.q,.q,.v,.q,.q,.x,.x])]⟩
def a7w(s:(Int×((LI×Unit)×b2R))):Option ((Int×((LI×Unit)×b2R)) ⊕ ((LI×Unit)×b2R)):=(fun(a:a2Q)=>cond (decide (s.1<(a.2.2.2.2.1.length:Int))) ((a0m a.2.2.2.2.1 s.1).bind fun x2=>(a3u (s.2.1,x2,a.2.1)).bind fun y3=>some (.inl (wrap .i64 (s.1+1),y3.2,a,()))) (some (.inr (s.2.1,a,())))) s.2.2.1
def a3h(x:a2Q):Option (LI×Int):=(a5Q x).bind fun y1=>cond (!y1) (some ([],1)) ((a0d a7w (0,([],()),x,())).bind fun w4=>(a7v w4.1).bind fun y5=>(b5S (w4.2.1,(y5.1.length:Int))).bind fun y6=>(b3k y6).bind fun y7=>cond (lim ((a01 y6)+1)) (cond (lim ((a01 (a02 y6 [y7]))+(a01 y5.1))) ((b0i (a02 (a02 y6 [y7]) y5.1)).bind fun y8=>(b6O (wrap .u64 y8,2)).bind fun y9=>cond (lim ((a01 (a02 (a02 y6 [y7]) y5.1))+(a01 y9))) (some (a02 (a02 (a02 y6 [y7]) y5.1) y9,0)) none) none) none)
def c9r:FSem:=⟨[.v Q90],[.o QV,.v QI],a3h⟩
def H54:Hints:=⟨[(122,[5,.box 12 Q2,.vp 1 Q90,Qp 4 12],[Qe 0 [.box 12 Q2,.vp 1 Q90,Qp 4 12]])],[],[(7,[.q,.v,.v,.v,.v,.v,.v,.v,.x])]⟩
def b0Q(x:Z15):Option Int:=cond ((x.2.1.length:Int)==0) (some 0) ((a0m x.2.1 0).bind fun x1=>some (x1.length:Int))
def c9s:FSem:=⟨[.v Q18],[.v QI],b0Q⟩
def b0R(s:Z89):Option (Z89 ⊕ Z80):=(fun(a:Int)(b:LI)(c:Z15)=>cond (decide (a<(c.2.1.length:Int))) ((a0m c.2.1 a).bind fun x3=>(a0m x3 s.1).bind fun x4=>cond (lim ((a01 b)+1)) (some (.inl (s.1,wrap .i64 (a+1),a02 b [x4],c,()))) none) (some (.inr (s.1,b,c,())))) s.2.1 s.2.2.1 s.2.2.2.1
def b0S(s:Z80):Option (Z80 ⊕ (LI×Unit)):=(b0Q s.2.2.1).bind fun y2=>cond (decide (s.1<y2)) ((a0d b0R (s.1,0,s.2.1,s.2.2.1,())).bind fun w5=>some (.inl (wrap .i64 (w5.1+1),w5.2.1,w5.2.2.1,()))) (some (.inr (s.2.1,())))
def b1v(x:Z15):Option LI:=(a7U x).bind fun y1=>cond (!y1) (some []) ((a0d b0S (0,[],x,())).bind fun w6=>some w6.1)
def d5N:FSem:=⟨[.v Q18],[.o QI],b1v⟩
def H24:Hints:=⟨[(122,[4,.own 3 3 QI,.vp 1 Q18],[Qe 0 [.own 3 3 QI]]),(7826,[4,5,.own 3 3 QI,.vp 1 Q18],[Qe 2 [4,.own 3 3 QI,.vp 1 Q18]])],[],[]⟩
def b0T(s:(b1a×Z6)):Option ((b1a×Z6) ⊕ ((LI×Unit) ⊕ Z9)):=cond (decide (s.2.1<(s.1.length:Int))) ((a0m s.1 s.2.1).bind fun x1=>(a2X x1).bind fun y2=>cond (!y2.2) (some (.inr (Sum.inr ((false,[],()))))) ((b1v y2.1).bind fun y3=>cond (lim ((a01 s.2.2.1)+(a01 y3))) (some (.inl (s.1,wrap .i64 (s.2.1+1),a02 s.2.2.1 y3,()))) none)) (some (.inr (Sum.inl (s.2.2.1,()))))
def b4D(x:b1a):Option (LI×Bool):=(a0d b0T (x,0,[],())).bind fun w4=>match w4 with |.inl a5=>some (a5.1,true) |.inr b6=>some (b6.2.1,b6.1)
def d5O:FSem:=⟨[.v (.list false Q90)],[.o QI,.v .bool],b4D⟩
def H55:Hints:=⟨[(58,[.sv 0 (.list false Q90),5,.own 4 4 QI],[Qe 0 [.own 4 4 QI],Qr [.sv 3 .bool,.own 2 2 QI]])],[],[]⟩
def b5T(x:Int):Option Bool:=cond (decide (x>=4)) (some (decide (x<=24))) (some false)
def d8K:FSem:=⟨[.v QI],[.v .bool],b5T⟩
def b1V(s:Z35):Option (Z35 ⊕ (LI×Unit)):=(fun(a:Int)(b:LI)=>cond (decide (a<s.2.1)) (cond (decide (a<8)) (cond (decide ((wrap .u64 (wrap .i64 (8*a)))<0)) none (cond (lim ((a01 b)+1)) (some (.inl (s.1,s.2.1,wrap .i64 (a+1),a02 b [wrap .u8 (a0v .u64 s.1 (wrap .u64 (wrap .i64 (8*a))))],()))) none)) (some (.inr (b,())))) (some (.inr (b,())))) s.2.2.1 s.2.2.2.1
def b3t(x:(Int×Int)):Option LI:=(a0d b1V (x.1,x.2,0,[],())).bind fun w1=>some w1.1
def d8L:FSem:=⟨[.v QU,.v QI],[.o QV],b3t⟩
def f3U:Hints:=⟨[(58,[.sv 0 QU,1,6,.own 5 5 QV],[Qe 0 [.own 5 5 QV]])],[],[]⟩
def b3u(s:Z42):Option (Z42 ⊕ Z48):=(fun(a:LI)(b c:Int)(d:LI)=>cond (decide (c<(a.length:Int))) ((a0m a c).bind fun x2=>(b0k (x2,b)).bind fun y3=>cond (!y3) (some (.inr (Sum.inr ((6,[],()))))) ((a0m a c).bind fun x4=>(b3t (wrap .u64 x4,wrap .i64 (a06 (wrap .i64 (b+7)) 8))).bind fun y5=>cond (lim ((a01 d)+(a01 y5))) (some (.inl (a,b,wrap .i64 (c+1),a02 d y5,()))) none)) (some (.inr (Sum.inl (d,()))))) s.1 s.2.1 s.2.2.1 s.2.2.2.1
def b7J(x:(LI×Int)):Option (LI×Int):=(b5T x.2).bind fun y1=>cond (!y1) (some ([],1)) ((a0d b3u (x.1,x.2,0,[],())).bind fun w6=>match w6 with |.inl a7=>some (a7.1,0) |.inr b8=>some (b8.2.1,b8.1))
def e0U:FSem:=⟨[.v QL,.v QI],[.o QV,.v QI],b7J⟩
def f3V:Hints:=⟨[(122,[.sv 0 QL,1,7,.own 6 6 QV],[Qe 0 [.own 6 6 QV],Qr [5,.own 4 4 QV]])],[],[]⟩
def b5a(x:(Int×Int)):Option Int:=some (a09 (wrap .u64 (x.1+x.2)) 2305843009213693951)
def e0V:FSem:=⟨[.v QU,.v QU],[.v QU],b5a⟩
def b7K(x:Int):Option Int:=(b5a (a09 (wrap .u64 ((bits .u64 .and x 1099511627775)*1000003)) 2305843009213693951,a09 (wrap .u64 ((bits .u64 .and (a0t .u64 (wrap .u64 ((a0v .u64 x 40)*1000003)) 40) 2305843009213693951)+(a0v .u64 (wrap .u64 ((a0v .u64 x 40)*1000003)) 21))) 2305843009213693951)).bind fun y1=>some y1
def e0W:FSem:=⟨[.v QU],[.v QU],b7K⟩
def b1W(s:Z18):Option Z57:=cond (decide (s.2.2.1<(s.1.length:Int))) ((b7K s.2.1).bind fun y1=>(a0m s.1 s.2.2.1).bind fun x2=>(b5a (y1,wrap .u64 ((wrap .u64 x2)+1))).bind fun y3=>some (.inl (s.1,y3,wrap .i64 (s.2.2.1+1),()))) (some (.inr (s.2.1,())))
def b5U(x:LI):Option Int:=(a0d b1W (x,0,0,())).bind fun w4=>some w4.1
def d8M:FSem:=⟨[.v QB],[.v QU],b5U⟩
def f3W:Hints:=⟨[(58,[.sv 0 QB,.sv 3 QU,4],[Qe 0 [.sv 3 QU]])],[],[(5,[.v,.v,.v,.v,.v,.v,.v,.v,.x,.x])]⟩
def b1X(x:(LI×Int)):Option Int:=(b7J (x.1,x.2)).bind fun y1=>(b5U y1.1).bind fun y2=>some y2
def d1G:FSem:=⟨[.v QL,.v QI],[.v QU],b1X⟩
def a4E(s:(b1a×Int×Int×Int×d8p)):Option ((b1a×Int×Int×Int×d8p) ⊕ ((b1a×d8p) ⊕ (Bool×c5D))):=(fun(a:b1a)(b c d:Int)(e f:a5S)(g:Z8)=>cond (decide (d<(a.length:Int))) ((a0m a d).bind fun x4=>(a3h x4).bind fun y5=>(show Option (b1a×(Int×(Int×(Int×(Bool×(LI×d8p))))))from cond (y5.2 != 0) (some (a,b,c,d,true,y5.1,e,f,g,())) ((a0m a d).bind fun x6=>cond (!(eqT Q14 x6.2.2.1 g)) (some (a,b,c,d,true,y5.1,e,f,g,())) ((a0m a d).bind fun x7=>some (a,b,c,d,x7.1 != b,y5.1,e,f,g,())))).bind fun z8=>cond z8.2.2.2.2.1 (some (.inr (Sum.inr ((false,((0,0,0,()),0,0,[],[],()),()))))) (cond (lim ((a01 z8.2.2.2.2.2.2.2.1.2.2.2.1)+1)) ((a0m z8.1 z8.2.2.2.1).bind fun x9=>some (.inl (z8.1,wrap .i64 (z8.2.1+x9.2.1),wrap .i64 (z8.2.2.1+(z8.2.2.2.2.2.1.length:Int)),wrap .i64 (z8.2.2.2.1+1),z8.2.2.2.2.2.2.1,(z8.2.2.2.2.2.2.2.1.1,z8.2.2.2.2.2.2.2.1.2.1,z8.2.2.2.2.2.2.2.1.2.2.1,a02 z8.2.2.2.2.2.2.2.1.2.2.2.1 ([(z8.2.1,z8.2.2.1,())]:List (Int×Int×Unit)),z8.2.2.2.2.2.2.2.1.2.2.2.2),z8.2.2.2.2.2.2.2.2.1,()))) none)) (some (.inr (Sum.inl (a,e,f,g,()))))) s.1 s.2.1 s.2.2.1 s.2.2.2.1 s.2.2.2.2.1 s.2.2.2.2.2.1 s.2.2.2.2.2.2.1
def b4E(x:(Z8×b1a)):Option (a5S×Bool):=(show Option (b1a×Bool×e6V)from(a9g x.1).bind fun y1=>cond (!y1) (some (x.2,true,((0,0,0,()),0,0,[],[],()),x.1,())) (some (x.2,decide ((x.2.length:Int) > 4096),((0,0,0,()),0,0,[],[],()),x.1,()))).bind fun z2=>cond z2.2.1 (some (((0,0,0,()),0,0,[],[],()),false)) ((b7I z2.1).bind fun y3=>(a0d a4E (z2.1,0,0,0,z2.2.2.1,(z2.2.2.2.1,y3,0,[],z2.1,()),z2.2.2.2.1,())).bind fun w10=>match w10 with |.inl a11=>((b4D a11.1).bind fun y13=>(b1X (y13.1,a11.2.2.2.1.2.2.1)).bind fun y14=>some ((a11.2.2.1.1,a11.2.2.1.2.1,y14,a11.2.2.1.2.2.2),true)) |.inr b12=>some (b12.2.1,b12.1))
def d5P:FSem:=⟨[.v Q14,.v (.list false Q90)],[.v a2E,.v .bool],b4E⟩
def H20:Hints:=⟨[(250,[.sv 1 (.list false Q90),7,8,9,.box 4 a2E,.box 6 e2M,.vp 2 Q14,Qp 4 4,Qp 6 6],[Qe 0 [.sv 1 (.list false Q90),.box 4 a2E,.box 6 e2M,.vp 2 Q14,Qp 4 4,Qp 6 6],Qr [.sv 5 .bool,.box 4 a2E,Qp 4 4]])],[(6,[Qn [.sv 1 (.list false Q90),.sv 21 .bool,.box 4 a2E,.vp 2 Q14,Qp 4 4]]),(16018,[Qn [.sv 1 (.list false Q90),7,8,9,.sv 61 .bool,.own 10 10 QV,.box 4 a2E,.box 6 e2M,.vp 2 Q14,Qp 4 4,Qp 6 6]])],[(3,[.v,.v,.v,.v,.v,.q,.x]),(9,[.x,.x,.x,.v,.v,.v,.v,.v,.v,.x,.x,.x,.v,.v,.v,.v,.v,.v,.x,.x])]⟩
def a2Z(s:(LI×(Int×Int×Int×b1a×a5S×Z97))):Option ((LI×(Int×Int×Int×b1a×a5S×Z97)) ⊕ ((LI×(Int×b1a×a5S×Z97)) ⊕ (Int×c5D))):=(fun(a b c:Int)(d:b1a)(e:a5S)(f:Z95)=>cond (decide (c<(f.2.1.length:Int))) ((a6R (s.1,f,c,a,b)).bind fun y2=>cond (y2.2 != 0) (some (.inr (Sum.inr ((y2.2,((0,0,0,()),0,0,[],[],()),()))))) (cond (lim ((a01 d)+1)) ((a0m f.2.1 c).bind fun x3=>some (.inl (s.1,wrap .i64 (a+x3),wrap .i64 (b+y2.1.2.1),wrap .i64 (c+1),a02 d ([y2.1]:List a2Q),e,f,()))) none)) (some (.inr (Sum.inl (s.1,a,d,e,f,()))))) s.2.1 s.2.2.1 s.2.2.2.1 s.2.2.2.2.1 s.2.2.2.2.2.1 s.2.2.2.2.2.2.1
def a9J(x:LI):Option c5C:=(a8W x).bind fun y1=>cond (y1.2 != 0) (some (((0,0,0,()),0,0,[],[],()),y1.2)) ((a0d a2Z (x,y1.1.2.2.2.2.1,0,0,[],((0,0,0,()),0,0,[],[],()),y1.1,())).bind fun w4=>match w4 with |.inl a5=>(cond (decide (a5.2.1<(a5.1.length:Int))) (some (((0,0,0,()),0,0,[],[],()),2)) ((b4E (a5.2.2.2.2.1.1,a5.2.2.1)).bind fun y7=>cond (y7.1.2.2.1 != a5.2.2.2.2.1.2.2.2.1) (some (((0,0,0,()),0,0,[],[],()),5)) (some (y7.1,0)))) |.inr b6=>some (b6.2.1,b6.1))
def c7x:FSem:=⟨[.v QB],[.v a2E,.v QI],a9J⟩
def H6:Hints:=⟨[(506,[.sv 0 QB,7,8,9,.own 6 6 Q90,.box 2 a2E,.box 4 Q39,Qp 2 2,Qp 4 4],[Qe 0 [.sv 0 QB,7,.own 6 6 Q90,.box 2 a2E,.box 4 Q39,Qp 2 2,Qp 4 4],Qr [3,.box 2 a2E,Qp 2 2]])],[],[(13,[.v,.q,.q,.v,.v,.v,.v,.v,.q,.q,.v,.v,.x])]⟩
def a2i(s:(LI×(Int×c8O))):Option ((LI×(Int×c8O)) ⊕ Z48):=(fun(a b c:Int)(d:LI)(e:Z95)(f:Int×(Int×Unit))=>cond (decide (c<(e.2.1.length:Int))) ((a0m e.2.2.1 c).bind fun x3=>(show Option ((LI×(Int×c8O)) ⊕ Z6)from cond (decide ((a1s f.1 b)<(a2P f.2.1 (wrap .i64 (b+x3))))) ((a6R (s.1,e,c,a,b)).bind fun y4=>cond (y4.2 != 0) (some (Sum.inr ((y4.2,[],())))) ((a2X y4.1).bind fun y5=>(b1v y5.1).bind fun y6=>cond ((decide (0<=(wrap .i64 ((wrap .i64 ((a2P f.2.1 (wrap .i64 (b+x3)))-b))*e.1.2.1))))&&(decide ((wrap .i64 ((wrap .i64 ((a2P f.2.1 (wrap .i64 (b+x3)))-b))*e.1.2.1))<=(y6.length:Int)))) (cond ((decide (0<=(wrap .i64 ((wrap .i64 ((a1s f.1 b)-b))*e.1.2.1))))&&(decide ((wrap .i64 ((wrap .i64 ((a1s f.1 b)-b))*e.1.2.1))<=((a00 (wrap .i64 ((wrap .i64 ((a2P f.2.1 (wrap .i64 (b+x3)))-b))*e.1.2.1)):Nat):Int)))) (cond (lim ((a01 d)+(a01 (a05 ((a00 (wrap .i64 ((wrap .i64 ((a2P f.2.1 (wrap .i64 (b+x3)))-b))*e.1.2.1)))-(a00 (wrap .i64 ((wrap .i64 ((a1s f.1 b)-b))*e.1.2.1)))) (a08 (a00 (wrap .i64 ((wrap .i64 ((a1s f.1 b)-b))*e.1.2.1))) y6))))) (some (Sum.inl (s.1,a,b,c,a02 d (a05 ((a00 (wrap .i64 ((wrap .i64 ((a2P f.2.1 (wrap .i64 (b+x3)))-b))*e.1.2.1)))-(a00 (wrap .i64 ((wrap .i64 ((a1s f.1 b)-b))*e.1.2.1)))) (a08 (a00 (wrap .i64 ((wrap .i64 ((a1s f.1 b)-b))*e.1.2.1))) y6)),e,f,()))) none) none) none)) (some (Sum.inl (s.1,a,b,c,d,e,f,())))).bind fun z7=>match z7 with |.inl a8=>((a0m a8.2.2.2.2.2.1.2.1 a8.2.2.2.1).bind fun x10=>(a0m a8.2.2.2.2.2.1.2.2.1 a8.2.2.2.1).bind fun x11=>some (.inl (a8.1,wrap .i64 (a8.2.1+x10),wrap .i64 (a8.2.2.1+x11),wrap .i64 (a8.2.2.2.1+1),a8.2.2.2.2.1,a8.2.2.2.2.2.1,a8.2.2.2.2.2.2.1,()))) |.inr b9=>some (.inr (Sum.inr ((b9.1,b9.2.1,()))))) (some (.inr (Sum.inl (d,()))))) s.2.1 s.2.2.1 s.2.2.2.1 s.2.2.2.2.1 s.2.2.2.2.2.1 s.2.2.2.2.2.2.1
def a9K(x:Z18):Option (LI×Int):=(a8W x.1).bind fun y1=>cond (y1.2 != 0) (some ([],y1.2)) ((show Option (LI×(Bool×e2G))from cond (decide (x.2.1<0)) (some (x.1,true,y1.1,x.2,())) (cond (decide (x.2.2.1<x.2.1)) (some (x.1,true,y1.1,x.2,())) (some (x.1,decide (x.2.2.1 > y1.1.2.2.2.2.2.1),y1.1,x.2,())))).bind fun z2=>cond z2.2.1 (some ([],6)) ((a0d a2i (z2.1,z2.2.2.1.2.2.2.2.1,0,0,[],z2.2.2.1,z2.2.2.2.1,())).bind fun w12=>match w12 with |.inl a13=>some (a13.1,0) |.inr b14=>some (b14.2.1,b14.1)))
def c7y:FSem:=⟨[.v QB,.v Q5],[.o QI,.v QI],a9K⟩
def H8:Hints:=⟨[(1018,[.sv 0 QB,9,10,11,.own 8 8 QI,.box 6 Q39,.vp 3 Q5,Qp 6 6],[Qe 0 [.own 8 8 QI],Qr [5,.own 4 4 QI]])],[(30,[Qn [.sv 0 QB,.sv 43 .bool,.box 6 Q39,.vp 3 Q5,Qp 6 6]]),(32585,[Qn [.sv 0 QB,9,10,11,.own 8 8 QI,.box 6 Q39,.vp 3 Q5,Qp 6 6],Qr [5,.own 4 4 QI]])],[(11,[.v,.v,.v,.v,.v,.v,.v,.q,.q,.v,.v,.v,.v,.v,.v,.x]),(19,[.v,.q,.q,.v,.v,.v,.v,.v,.q,.q,.v,.v,.v,.v,.v,.x])]⟩
def a6S(s:(Z19×Z19×Int×Unit)):Option ((Z19×Z19×Int×Unit) ⊕ Z0):=(fun(a:Int)=>cond (decide (a<(s.1.length:Int))) ((a0m s.1 a).bind fun x1=>(a0m s.2.1 a).bind fun x2=>cond (!(eqT Q14 x1 x2)) (some (.inr (Sum.inr ((false,()))))) (some (.inl (s.1,s.2.1,wrap .i64 (a+1),())))) (some (.inr (Sum.inl ())))) s.2.2.1
def a9L(x:(Z19×Z19)):Option Bool:=cond ((x.1.length:Int) != (x.2.length:Int)) (some false) ((a0d a6S (x.1,x.2,0,())).bind fun w3=>match w3 with |.inl a4=>some true |.inr b5=>some b5.1)
def c7z:FSem:=⟨[.v (.list false Q14),.v (.list false Q14)],[.v .bool],a9L⟩
def H65:Hints:=⟨[(58,[.sv 0 (.list false Q14),.sv 1 (.list false Q14),5],[Qe 0 [],Qr [.sv 4 .bool]])],[],[(6,[.v,.v,.v,.v,.v,.v,.v,.v,.x])]⟩
def a6T(s:(Int×d8m)):Option ((Int×d8m) ⊕ Z0):=cond (decide (s.1<(s.2.1.2.2.2.2.1.length:Int))) ((a0m s.2.1.2.2.2.2.1 s.1).bind fun x3=>(a0m s.2.2.1.2.2.2.2.1 s.1).bind fun x4=>(a8Z (x3,x4)).bind fun y5=>cond (!y5) (some (.inr (Sum.inr ((false,()))))) (some (.inl (wrap .i64 (s.1+1),s.2.1,s.2.2.1,())))) (some (.inr (Sum.inl ())))
def a9M(x:(a2Q×a2Q)):Option Bool:=(show Option (Bool×d8m)from cond (x.1.1 != x.2.1) (some (true,x.1,x.2,())) (cond (x.1.2.1 != x.2.2.1) (some (true,x.1,x.2,())) (cond (!(eqT Q14 x.1.2.2.1 x.2.2.2.1)) (some (true,x.1,x.2,())) ((a9L (x.1.2.2.2.1,x.2.2.2.2.1)).bind fun y1=>cond (!y1) (some (true,x.1,x.2,())) (some ((x.1.2.2.2.2.1.length:Int) != (x.2.2.2.2.2.1.length:Int),x.1,x.2,())))))).bind fun z2=>cond z2.1 (some false) ((a0d a6T (0,z2.2.1,z2.2.2.1,())).bind fun w6=>match w6 with |.inl a7=>some true |.inr b8=>some b8.1)
def c7A:FSem:=⟨[.v Q90,.v Q90],[.v .bool],a9M⟩
def H25:Hints:=⟨[(58,[5,.vp 2 Q90,.vp 3 Q90],[Qe 0 [],Qr [.sv 4 .bool]])],[(6,[Qn [.sv 41 .bool,.vp 2 Q90,.vp 3 Q90]])],[(6,[.v,.v,.v,.v,.v,.v,.v,.v,.v,.v,.x,.x])]⟩
def a4T(s:d8o):Option (d8o ⊕ (e2L ⊕ (Bool×Unit))):=cond (decide (s.1<(s.2.1.2.2.2.1.length:Int))) ((a0m s.2.1.2.2.2.1 s.1).bind fun x2=>(a0m s.2.2.1.2.2.2.1 s.1).bind fun x3=>cond (!(eqT Q5 x2 x3)) (some (.inr (Sum.inr ((false,()))))) (some (.inl (wrap .i64 (s.1+1),s.2.1,s.2.2.1,())))) (some (.inr (Sum.inl (s.2.1,s.2.2.1,()))))
def a4U(s:d8o):Option (d8o ⊕ Z0):=cond (decide (s.1<(s.2.1.2.2.2.2.1.length:Int))) ((a0m s.2.1.2.2.2.2.1 s.1).bind fun x7=>(a0m s.2.2.1.2.2.2.2.1 s.1).bind fun x8=>(a9M (x7,x8)).bind fun y9=>cond (!y9) (some (.inr (Sum.inr ((false,()))))) (some (.inl (wrap .i64 (s.1+1),s.2.1,s.2.2.1,())))) (some (.inr (Sum.inl ())))
def a9N(x:(a5S×a5S)):Option Bool:=(show Option (Bool×e2L)from cond (!(eqT Q14 x.1.1 x.2.1)) (some (true,x.1,x.2,())) (cond (x.1.2.1 != x.2.2.1) (some (true,x.1,x.2,())) (cond (x.1.2.2.1 != x.2.2.2.1) (some (true,x.1,x.2,())) (cond ((x.1.2.2.2.1.length:Int) != (x.2.2.2.2.1.length:Int)) (some (true,x.1,x.2,())) (some ((x.1.2.2.2.2.1.length:Int) != (x.2.2.2.2.2.1.length:Int),x.1,x.2,())))))).bind fun z1=>cond z1.1 (some false) ((a0d a4T (0,z1.2.1,z1.2.2.1,())).bind fun w4=>match w4 with |.inl a5=>((a0d a4U (0,a5.1,a5.2.1,())).bind fun w10=>match w10 with |.inl a11=>some true |.inr b12=>some b12.1) |.inr b6=>some b6.1)
def c7B:FSem:=⟨[.v a2E,.v a2E],[.v .bool],a9N⟩
def H9:Hints:=⟨[(58,[5,.vp 2 a2E,.vp 3 a2E],[Qe 0 [.vp 2 a2E,.vp 3 a2E],Qr [.sv 4 .bool]]),(122,[6,.vp 2 a2E,.vp 3 a2E],[Qe 2 [],Qr [.sv 4 .bool]])],[(6,[Qn [.sv 43 .bool,.vp 2 a2E,.vp 3 a2E]])],[(6,[.v,.v,.v,.v,.v,.v,.v,.v,.v,.v,.x]),(11,[.v,.v,.v,.v,.v,.v,.v,.v,.v,.v,.x,.x])]⟩
def b2p(x:Z18):Option Bool:=(b8y ()).bind fun y1=>cond (!y1) (some false) (cond (decide ((x.1.length:Int) > 700)) (some true) ((a7M x.1).bind fun y2=>(a9J x.1).bind fun y3=>(a7N (x.1,x.2)).bind fun y4=>(a9K (x.1,x.2)).bind fun y5=>(a9N (y2.1,y3.1)).bind fun y6=>cond y6 (cond (y2.2==y3.2) ((a2p (y4.1,y5.1)).bind fun y7=>cond y7 (some (y4.2==y5.2)) (some false)) (some false)) (some false)))
def b2q:FSem:=⟨[.v QB,.v Q5],[.v .bool],b2p⟩
end Go.Ab
