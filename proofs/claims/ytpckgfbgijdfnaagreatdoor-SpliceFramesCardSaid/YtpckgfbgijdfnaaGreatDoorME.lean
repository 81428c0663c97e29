/- Part of the proof: It. Conditions: as each statement tells. -/
import Derived.RangeFuncBound
import Derived.RangeFuncCalls
import Derived.RangeFuncBox
import Derived.WalkKit
import Derived.OwnWalkIn
import Derived.TacticsInMore
import Derived.LoopNIn
import Derived.LoopIn
import Derived.Test.YtpckgfbgijdfnaaGreatDoorProg
import Derived.KernelRfl
import Derived.MapKept
import Derived.Carry
import Derived.Deep.LoopGhost
import Derived.Lib.Walk
import Derived.Test.YtpckgfbgijdfnaaGreatDoorMD
noncomputable section
set_option linter.unusedSimpArgs false
set_option linter.unusedVariables false
open Array renaming replicate_succ→a16,replicate_zero→a18
open Int renaming toNat→a00,tmod→a06,tdiv→a08
open List renaming replicate→a01,length→a02,append→a03,getD→a04,set→a05,take→a07,drop→a09,append_toArray→a19,cons_append→a20,size_toArray→a21,push_toArray→a22,length_nil→a23,nil_append→a24,take_succ_eq_append_getElem→a29,take_of_length_le→a32
open Nat renaming reduceAdd→a25,reduceSub→a26,le_refl→a27,lt_of_lt_of_le→a28,le_trans→a33
open Option renaming getD_some→a30,bind_eq_some_iff→a31
namespace Go.Ab
open Go.Proofs Go.RowKit
attribute [local go_sem] Oper.semAt_some
set_option maxHeartbeats 1000000 in
theorem c7J:A0h Tryz.prog 192 206:=by
 refine⟨⟨_,_,Tryz.func192,rfl,by kernel_rfl⟩,fun A len cap w=>(callsIn_wide (n:=3)).1 ?_⟩
 refine callsIn_of_wp Tryz.func192 rfl trivial ?_
 simp only[Tryz.ntmps192,a21,lC,a23,a25,a26,a16,a18,a22,a19,a24,a20]
 gi_wp2
 go_ret
 exact⟨rfl,_,rfl⟩
@[reducible] def b0T:Ty:=.pair (.int .i64) (.pair (.int .i64) .unit)
set_option maxRecDepth 100000 in
set_option maxHeartbeats 2000000 in
theorem c6d (l Bs b off len cap:Nat) (p q:Nat→Int) (J:Nat→World→Prop) (Jx:World→Prop) (W:World)
  (hJ:∀k W',J k W'→W'.cell? ⟨Bs,0,none⟩=some (.slice (some ⟨b,off,none⟩) len cap))
  (hlen:len<2147483648)
  (hcs:∀k W',k<len→J (k+1) W'→W'.cell? ⟨b,off+k*2,none⟩=some (.int .i64 (p k))∧W'.cell? ⟨b,off+k*2+1,none⟩=some (.int .i64 (q k)))
  (hY:∀n W',n<len→J (n+1) W'→YieldAt (Fr none) 0 Tryz.prog l #[.int .i64 (n:Int),.agg #[.int .i64 (p n),.int .i64 (q n)]] W' fun en W''=>(en=.returned (.bool true)∧J n W'')∨(en=.returned (.bool false)∧Jx W''))
  (h0:J len W):
  CallsIn (Fr none) 0 Tryz.prog 206 #[.func (.yield l) #[] #[],.pointer (some ⟨Bs,0,none⟩)] W fun en W'=>(∃v,en=.returned v)∧(J 0 W'∨Jx W'):=by
 refine callsIn_of_wp Tryz.func206 rfl trivial ?_
 simp only[Tryz.ntmps206,a21,lC,a23,a25,a26,a16,a18,a22,a19,a24,a20]
 have hBs:=hJ _ _ h0
 gi_wp2
 gi_loopw [3] (fun i wr=>∃k:Nat,k≤len∧i=.int .i64 ((k:Int)-1)∧J k wr) (fun i _=>(intOf i+1).toNat)
 case atStart=>exact⟨len,a27 _,rfl,h0⟩
 case round=>
  obtain⟨k,hk,rfl,hJs⟩:=hrel
  cases k with
  |succ n=>
   obtain⟨fn,tmps,assign,body,hy,hR⟩:=hY n wr (by omega) hJs
   have hcx:=hJ _ _ hJs
   obtain⟨hc0,hc1⟩:=hcs n wr (by omega) hJs
   gi_wp2
   refine hR.mono ?_
   rintro e W3 (⟨rfl,hJ3⟩|⟨rfl,hJx3⟩)
   ·gi_wp2
    go_roundw
    case rel=>exact⟨n,by omega,by simp,hJ3⟩
    case measure=>simp[intOf]
   ·gi_wp2
    refine bodyPost_ret (results_none rfl _ _ _) rfl ?_
    exact⟨⟨_,rfl⟩,.inr hJx3⟩
  |zero=>
   gi_wp2
   go_end0
   exact⟨⟨_,rfl⟩,.inl hJs⟩
set_option maxRecDepth 100000 in
set_option maxHeartbeats 2000000 in
theorem c4W (l Bs:Nat) (A:Option Addr) (c:Nat) (J:Nat→World→Prop) (W:World) (hBs:W.cell? ⟨Bs,0,none⟩=some (.slice A 0 c)) (h0:J 0 W):
  CallsIn (Fr none) 0 Tryz.prog 206 #[.func (.yield l) #[] #[],.pointer (some ⟨Bs,0,none⟩)] W fun en W'=>(∃v,en=.returned v)∧J 0 W':=by
 refine callsIn_of_wp Tryz.func206 rfl trivial ?_
 simp only[Tryz.ntmps206,a21,lC,a23,a25,a26,a16,a18,a22,a19,a24,a20]
 gi_wp2
 gi_loopw [3] (fun i wr=>i=.int .i64 (-1)∧J 0 wr) (fun _ _=>0)
 case atStart=>exact⟨rfl,h0⟩
 case round=>
  obtain⟨rfl,hJs⟩:=hrel
  gi_wp2
  go_end0
  exact⟨⟨_,rfl⟩,hJs⟩
theorem b8c{m:Mem}{Sh:Nat→Prop}{b o:Nat}{x:b0T.den}{R}(h:dec m b0T ((Src.at b o).rd m)=some (x,[],R)):
  m b o=some (.int .i64 x.1)∧m b (o+1)=some (.int .i64 x.2.1)∧VOk m Sh b0T x (.agg #[.int .i64 x.1,.int .i64 x.2.1]):=by
 obtain⟨p,q,u⟩:=x;simp only[b0T,dec,Src.rd,Ty.cells,Nat.add_zero]at h
 split at h
 cases h;rename_i r o1 j g
 split at g
 rename_i n c
 split at g
 rename_i e;subst e;simp only[sj]at g;obtain⟨rfl,rfl,rfl⟩:=g
 split at h
 cases h;rename_i s o2 r2 k
 split at k
 cases k;rename_i t i l f
 split at f
 rename_i d a
 split at f
 rename_i e;subst e;simp only[sj]at f k h;obtain⟨rfl,rfl,rfl⟩:=f;obtain⟨rfl,rfl,rfl⟩:=k;obtain⟨⟨rfl,rfl,rfl⟩,-,-⟩:=h;exact⟨c,a,fun _=>⟨_,rfl,rfl⟩,fun h=>(by cases h),[],rfl,by simp⟩;cases f;cases f;cases g;cases g
theorem b3n {P:Program} {f:FuncId} (hb:l0x P f) (args:Array Value) (w:World):(callFunc f args).run P w=.ok (.enter f args) w:=by
 obtain ⟨fn,c',h1,h2,h3⟩:=hb;have h4 : ¬ fn.name = "runtime.NumGoroutine" := by simpa using h3
 simp [callFunc,program,Sem.run,h1,h2,h4,Result.andThen]
theorem c7K:w0n Tryz.prog 206 b0T:=by
 refine⟨fun args w=>b3n ⟨_,_,Tryz.func206,rfl,by kernel_rfl⟩ args w,fun l Bs sv f J D W i t L o=>?_⟩;obtain⟨z,Sh,y⟩:=t _ _ o;obtain⟨A,n,c,rfl,rfl,N,v,j⟩:=y.header
 by_cases hx0:f.length=0
 rw[hx0]at o z;exact(c4W l Bs A c J W z o).mono fun e g h=>⟨h.1,.inl h.2⟩;cases A with
 |none=>have:=j rfl;omega
 |some A=>
  obtain⟨b,off,B⟩:=A
  have:=(v _ rfl).resolve_left (by omega)
  simp only at this;subst this;have u:∀k g,k<f.length→J (k+1) g→∃x,f[k]?=some x∧g.cell? ⟨b,off+k*2,none⟩=some (.int .i64 x.1)∧g.cell? ⟨b,off+k*2+1,none⟩=some (.int .i64 x.2.1):=by
   intro k g p d;obtain⟨-,a,hv⟩:=t _ _ d;obtain⟨C,O,E,R,e,F,G,H,s,I,K⟩:=hv.elem rfl (lG p);simp only[Value.slice.injEq,sj]at e;obtain⟨rfl,rfl,rfl⟩:=e;obtain⟨q,r,-⟩:=b8c (Sh:=a) s;exact⟨_,lG p,q,r⟩
  refine c6d l Bs b off f.length c (fun k=>((f[k]?).getD b0T.dflt).1) (fun k=>((f[k]?).getD b0T.dflt).2.1) J D W (fun k g d=>(t k g d).1) i (fun k g p d=>?_) (fun n g M d=>?_) o;obtain⟨x,m,q,r⟩:=u k g p d;simp only[m,a30];exact⟨q,r⟩;have m:f[n]?=some f[n]:=lG M;simp only[m,a30];refine L n _ _ g m d fun a hv=>?_
  obtain⟨C,O,E,R,e,F,G,H,s,I,K⟩:=hv.elem rfl m;exact(b8c (Sh:=a) s).2.2
set_option maxHeartbeats 1000000 in
theorem c7L:A0h Tryz.prog 119 160:=by
 refine⟨⟨_,_,Tryz.func119,rfl,by kernel_rfl⟩,fun A len cap w=>(callsIn_wide (n:=3)).1 ?_⟩
 refine callsIn_of_wp Tryz.func119 rfl trivial ?_
 simp only[Tryz.ntmps119,a21,lC,a23,a25,a26,a16,a18,a22,a19,a24,a20]
 gi_wp2
 go_ret
 exact⟨rfl,_,rfl⟩
@[reducible] def b2D:Ty:=.pair (.int .i64) (.pair (.int .i64) (.pair (.int .i64) .unit))
set_option maxRecDepth 100000 in
set_option maxHeartbeats 2000000 in
theorem c6e (l Bs b off len cap:Nat) (p q r:Nat→Int) (J:Nat→World→Prop) (Jx:World→Prop) (W:World)
  (hJ:∀k W',J k W'→W'.cell? ⟨Bs,0,none⟩=some (.slice (some ⟨b,off,none⟩) len cap))
  (hlen:len<2147483648)
  (hcs:∀k W',k<len→J (k+1) W'→W'.cell? ⟨b,off+k*3,none⟩=some (.int .i64 (p k))∧W'.cell? ⟨b,off+k*3+1,none⟩=some (.int .i64 (q k))∧W'.cell? ⟨b,off+k*3+2,none⟩=some (.int .i64 (r k)))
  (hY:∀n W',n<len→J (n+1) W'→YieldAt (Fr none) 0 Tryz.prog l #[.int .i64 (n:Int),.agg #[.int .i64 (p n),.int .i64 (q n),.int .i64 (r n)]] W' fun en W''=>(en=.returned (.bool true)∧J n W'')∨(en=.returned (.bool false)∧Jx W''))
  (h0:J len W):
  CallsIn (Fr none) 0 Tryz.prog 160 #[.func (.yield l) #[] #[],.pointer (some ⟨Bs,0,none⟩)] W fun en W'=>(∃v,en=.returned v)∧(J 0 W'∨Jx W'):=by
 refine callsIn_of_wp Tryz.func160 rfl trivial ?_
 simp only[Tryz.ntmps160,a21,lC,a23,a25,a26,a16,a18,a22,a19,a24,a20]
 have hBs:=hJ _ _ h0
 gi_wp2
 gi_loopw [3] (fun i wr=>∃k:Nat,k≤len∧i=.int .i64 ((k:Int)-1)∧J k wr) (fun i _=>(intOf i+1).toNat)
 case atStart=>exact⟨len,a27 _,rfl,h0⟩
 case round=>
  obtain⟨k,hk,rfl,hJs⟩:=hrel
  cases k with
  |succ n=>
   obtain⟨fn,tmps,assign,body,hy,hR⟩:=hY n wr (by omega) hJs
   have hcx:=hJ _ _ hJs
   obtain⟨hc0,hc1,hc2⟩:=hcs n wr (by omega) hJs
   gi_wp2
   refine hR.mono ?_
   rintro e W3 (⟨rfl,hJ3⟩|⟨rfl,hJx3⟩)
   ·gi_wp2
    go_roundw
    case rel=>exact⟨n,by omega,by simp,hJ3⟩
    case measure=>simp[intOf]
   ·gi_wp2
    refine bodyPost_ret (results_none rfl _ _ _) rfl ?_
    exact⟨⟨_,rfl⟩,.inr hJx3⟩
  |zero=>
   gi_wp2
   go_end0
   exact⟨⟨_,rfl⟩,.inl hJs⟩
set_option maxRecDepth 100000 in
set_option maxHeartbeats 2000000 in
theorem c4X (l Bs:Nat) (A:Option Addr) (c:Nat) (J:Nat→World→Prop) (W:World) (hBs:W.cell? ⟨Bs,0,none⟩=some (.slice A 0 c)) (h0:J 0 W):
  CallsIn (Fr none) 0 Tryz.prog 160 #[.func (.yield l) #[] #[],.pointer (some ⟨Bs,0,none⟩)] W fun en W'=>(∃v,en=.returned v)∧J 0 W':=by
 refine callsIn_of_wp Tryz.func160 rfl trivial ?_
 simp only[Tryz.ntmps160,a21,lC,a23,a25,a26,a16,a18,a22,a19,a24,a20]
 gi_wp2
 gi_loopw [3] (fun i wr=>i=.int .i64 (-1)∧J 0 wr) (fun _ _=>0)
 case atStart=>exact⟨rfl,h0⟩
 case round=>
  obtain⟨rfl,hJs⟩:=hrel
  gi_wp2
  go_end0
  exact⟨⟨_,rfl⟩,hJs⟩
theorem b7e{m:Mem}{rd:Nat→Option Value}{x o r}(h:dec m (.int .i64) rd=some (x,o,r)):rd 0=some (.int .i64 x)∧o=[]∧r=[]:=by
 simp only[dec]at h
 split at h
 rename_i k n g
 split at h
 rename_i e;subst e;simp only[sj,pJ]at h;obtain⟨rfl,rfl,rfl⟩:=h;exact⟨g,rfl,rfl⟩;cases h;cases h
theorem b5k{m:Mem}{a b:Ty}{rd:Nat→Option Value}{x o r}(h:dec m (.pair a b) rd=some (x,o,r)):∃o1 g o2 r2,dec m a rd=some (x.1,o1,g)∧dec m b (fun j=>rd (a.cells+j))=some (x.2,o2,r2)∧o=o1++o2∧r=g++r2:=by
 simp only[dec]at h
 split at h
 cases h;rename_i c o1 g f
 split at h
 cases h;rename_i d o2 r2 k;simp only[sj,pJ]at h;obtain⟨rfl,rfl,rfl⟩:=h;exact⟨_,_,_,_,f,k,rfl,rfl⟩
theorem b9E{m:Mem}{Sh:Nat→Prop}{b o:Nat}{x:b2D.den}{R}(h:dec m b2D ((Src.at b o).rd m)=some (x,[],R)):
  m b o=some (.int .i64 x.1)∧m b (o+1)=some (.int .i64 x.2.1)∧m b (o+2)=some (.int .i64 x.2.2.1)∧VOk m Sh b2D x (.agg #[.int .i64 x.1,.int .i64 x.2.1,.int .i64 x.2.2.1]):=by
 obtain⟨_,_,_,_,g,f,-,-⟩:=b5k h;obtain⟨_,_,_,_,k,a,-,-⟩:=b5k f;obtain⟨_,_,_,_,c,-,-,-⟩:=b5k a;exact⟨(b7e g).1,(b7e k).1,(b7e c).1,fun _=>⟨_,rfl,rfl⟩,fun h=>(by cases h),[],rfl,by simp⟩
theorem c7M:w0n Tryz.prog 160 b2D:=by
 refine⟨fun args w=>b3n ⟨_,_,Tryz.func160,rfl,by kernel_rfl⟩ args w,fun l Bs sv f J E W i u M o=>?_⟩;obtain⟨B,Sh,z⟩:=u _ _ o;obtain⟨A,n,c,rfl,rfl,O,y,j⟩:=z.header
 by_cases hx0:f.length=0
 rw[hx0]at o B;exact(c4X l Bs A c J W B o).mono fun e g h=>⟨h.1,.inl h.2⟩;cases A with
 |none=>have:=j rfl;omega
 |some A=>
  obtain⟨b,off,C⟩:=A
  have:=(y _ rfl).resolve_left (by omega)
  simp only at this;subst this;have v:∀k g,k<f.length→J (k+1) g→∃x,f[k]?=some x∧g.cell? ⟨b,off+k*3,none⟩=some (.int .i64 x.1)∧g.cell? ⟨b,off+k*3+1,none⟩=some (.int .i64 x.2.1)∧g.cell? ⟨b,off+k*3+2,none⟩=some (.int .i64 x.2.2.1):=by
   intro k g p d;obtain⟨-,a,hv⟩:=u _ _ d;obtain⟨D,P,F,R,e,G,H,I,t,K,L⟩:=hv.elem rfl (lG p);simp only[Value.slice.injEq,sj]at e;obtain⟨rfl,rfl,rfl⟩:=e;obtain⟨q,r,s,-⟩:=b9E (Sh:=a) t;exact⟨_,lG p,q,r,s⟩
  refine c6e l Bs b off f.length c (fun k=>((f[k]?).getD b2D.dflt).1) (fun k=>((f[k]?).getD b2D.dflt).2.1) (fun k=>((f[k]?).getD b2D.dflt).2.2.1) J E W (fun k g d=>(u k g d).1) i (fun k g p d=>?_) (fun n g N d=>?_) o;obtain⟨x,m,q,r,s⟩:=v k g p d;simp only[m,a30];exact⟨q,r,s⟩;have m:f[n]?=some f[n]:=lG N;simp only[m,a30];refine M n _ _ g m d fun a hv=>?_
  obtain⟨D,P,F,R,e,G,H,I,t,K,L⟩:=hv.elem rfl m;exact(b9E (Sh:=a) t).2.2.2
end Go.Ab
namespace Go.Ab
open Go.MapKept
def b2E(w:World)(b:Nat)(L:List ByteArray):Prop:=
 ∃es clock,w.heap[b]?=some (.map es clock)∧(∀e∈es.toList,IsKey .string e.key∧e.val=.bool true)∧∀s,(∃e∈es.toList,e.key=.string s)↔s∈L
section
variable {P:Program} {t kt et:TypeId} {w:World} {b:Nat} {L:List ByteArray}
theorem c4Y(h:b2E w b L)(l:P.underlying t=some (.map kt et))(g:P.underlying kt=some .string)(n:(zeroValue et).run P w=.ok (.bool false) w)(s:ByteArray):
  ∃r,(Instr.lookup t (.map (some b)) (.string s) false).run P w=.ok (.bool r) w∧(r=true↔s∈L):=by
 obtain⟨m,f,hb,i,p⟩:=h;have c:IsKey .string (.string s):=by simp[IsKey]
 rcases findNow_spec c m.toList 0 (fun e a=>(i e a).1)with⟨k,d⟩|⟨j,e,k,d,o⟩;refine⟨false,?_,by grind⟩;simp[Instr.lookup,run_underlying l,MapKept.run_getObj_map hb,run_checkKey g c,run_findKey g k,n,Result.andThen];have a:=List.mem_of_getElem? d;refine⟨true,?_,by grind⟩;simp[Instr.lookup,run_underlying l,MapKept.run_getObj_map hb,run_checkKey g c,run_findKey g k,(i e a).2,Result.andThen]
theorem c6f(h:b2E w b L)(q:P.underlying t=some (.map kt et))(i:P.underlying kt=some .string)(s:ByteArray):
  ∃w',(Instr.mapUpdate t (.map (some b)) (.string s) (.bool true)).run P w=.ok () w'∧b2E w' b (L++[s])∧w'.heap.size=w.heap.size∧(∀c,c≠b→w'.heap[c]?=w.heap[c]?)∧b0x w'=b0x w:=by
 obtain⟨a,g,hb,p,v⟩:=h;have m:IsKey .string (.string s):=by simp[IsKey]
 rcases findNow_spec m a.toList 0 (fun e k=>(p e k).1)with⟨n,r⟩|⟨j,e,n,r,u⟩;refine⟨{ w with heap:=w.heap.setIfInBounds b (.map (a.push { key:=.string s,val:=.bool true,born:=g }) (g+1)) },by simp[Instr.mapUpdate,run_underlying q,MapKept.run_getObj_map hb,run_checkKey i m,run_findKey i n,MapKept.run_setObj_map _ hb,Result.andThen],⟨_,_,(heap_set hb).1,fun e k=>?_,fun s'=>?_⟩,by simp,fun c o=>(heap_set hb).2 c o,rfl⟩
 grind
 rw[mA,←v,Array.toList_push];constructor
 grind
 rintro(⟨e,k,A⟩|k)
 grind
 simp_all;have z:a[j]?=some e:=by simp_all
 have d:∀f,a[j]?=some f→({ f with key:=.string s,val:=.bool true }:MapEntry).key=f.key:=fun f y=>by simp_all
 refine⟨{ w with heap:=w.heap.setIfInBounds b (.map (a.modify j fun e=>{ e with key:=.string s,val:=.bool true }) g) },by simp[Instr.mapUpdate,run_underlying q,MapKept.run_getObj_map hb,run_checkKey i m,run_findKey i n,z,u,run_keyThatStays m,MapKept.run_setObj_map _ hb,Result.andThen],⟨_,_,(heap_set hb).1,fun f k=>⟨isKey_modify (fun x B=>(p x B).1) _ _ d f k,?_⟩,fun s'=>?_⟩,by simp,fun c o=>(heap_set hb).2 c o,rfl⟩
 grind[List.mem_iff_getElem?]
 have C:=modify_keys j (fun e=>{ e with key:=.string s,val:=.bool true }) d;have key:∀(l:List MapEntry),(∃e∈l,e.key=.string s')↔Value.string s'∈l.map (·.key):=fun l=>by simp
 grind
end
end Go.Ab
namespace Go.Ab
open Go.Proofs Go.RowKit Go.MapKept
def a8p(b:Nat)(w w':World):Prop:=w.heap.size≤w'.heap.size∧(∀c,c<w.heap.size→c≠b→w'.heap[c]?=w.heap[c]?)∧b0x w'=b0x w
theorem a8p.trans{b:Nat}{w w' w'':World}(h:a8p b w w')(g:a8p b w' w''):a8p b w w'':=
 ⟨a33 h.1 g.1,fun c f hb=>(g.2.1 c (a28 f h.1) hb).trans (h.2.1 c f hb),g.2.2.trans h.2.2⟩
theorem a8p.refl{b:Nat}{w:World}:a8p b w w:=⟨a27 _,fun _ _ _=>rfl,rfl⟩
def a5M(s:ByteArray):List Int:=s.data.toList.map fun b=>(b.toNat:Int)
theorem c3v{s t:ByteArray}(h:a5M s=a5M t):s=t:=by
 obtain⟨⟨s⟩⟩:=s;obtain⟨⟨t⟩⟩:=t
 have:s=t:=by
  simp[a5M]at h;have key:∀(x y:List UInt8),x.map (fun b=>(b.toNat:Int))=y.map (fun b=>(b.toNat:Int))→x=y:=by
   intro x
   induction x with
   |nil=>simp
   |cons a x ih=>intro y e;cases y with
    |nil=>grind
    |cons b y=>
     grind[UInt8.toNat_inj]
  grind
 grind
def b5S(w:World)(v:Value)(l:List ByteArray):Prop:=
 ∃A c,v=.slice A l.length c∧∀j (h:j<l.length),∃blk off,A=some ⟨blk,off,none⟩∧w.cell? ⟨blk,off+j,none⟩=some (.string l[j])
theorem c4Z{w w':World}{b:Nat}{es:Array MapEntry}{k:Nat}(g:∀c,c<w.heap.size→c≠b→w'.heap[c]?=w.heap[c]?)(hb:w.heap[b]?=some (.map es k)){a:Addr}{v:Value}(h:w.cell? a=some v):w'.cell? a=some v:=by
 grind[World.cell?]
def a4Q(w w':World):Prop:=w.heap.size≤w'.heap.size∧(∀c,c<w.heap.size→w'.heap[c]?=w.heap[c]?)∧b0x w'=b0x w
theorem a4Q.alloc(w:World)(o:Obj):a4Q w (w.alloc o):=⟨b0s _,fun c h=>b0m _ c h,rfl⟩
theorem a4Q.to{b:Nat}{w w':World}(h:a4Q w w'):a8p b w w':=⟨h.1,fun c g _=>h.2.1 c g,h.2.2⟩
theorem a8p.shut{b:Nat}{w w':World}(h:a8p b w w')(hb:w.heap.size≤b):a4Q w w':=⟨h.1,fun c g=>h.2.1 c g (by omega),h.2.2⟩
theorem b2E.kept{w w':World}{b:Nat}{L:List ByteArray}(h:b2E w b L)(c:a4Q w w'):b2E w' b L:=by
 obtain⟨g,k,hb,f,a⟩:=h;exact⟨g,k,(c.2.1 b (Array.getElem?_eq_some_iff.1 hb).1).trans hb,f,a⟩
def inB(la:List ByteArray)(s:ByteArray):Bool:=(la.map a5M).contains (a5M s)
theorem c7N{la:List ByteArray}{s:ByteArray}:inB la s=true↔s∈la:=by
 unfold inB;rw[List.contains_iff_mem,List.mem_map];exact⟨fun⟨t,h,e⟩=>c3v e▸h,fun h=>⟨s,h,rfl⟩⟩
theorem c6g{L:List ByteArray}{i:Nat}(h:i<L.length):L.take i++[L[i]]=L.take (i+1):=(a29 h).symm
theorem a8p.step{b:Nat}{w w' w'':World}(h:a8p b w w')(k:w''.heap.size=w'.heap.size)(g:∀c,c≠b→w''.heap[c]?=w'.heap[c]?)(f:b0x w''=b0x w'):a8p b w w'':=
 h.trans ⟨by omega,fun c _ hb=>g c hb,f⟩
set_option maxHeartbeats 1600000 in
set_option maxRecDepth 1000000 in
theorem c5a {pA pB:Prop} {v1 v2:Value} {la lb:List ByteArray} (w:World) (h1:la.length<2147483648) (h2:lb.length<2147483648)
  (hA:∀W,a4Q w W→Calls Tryz.prog 42 #[v1] W fun e W'=>∃v,e=.returned v∧b5S W' v la∧pA∧a4Q W W')
  (hB:∀W,a4Q w W→Calls Tryz.prog 42 #[v2] W fun e W'=>∃v,e=.returned v∧b5S W' v lb∧pB∧a4Q W W'):
  Calls Tryz.prog 17 #[v1,v2] w fun e W'=>e=.returned (.int .i64 (((lb.filter (inB la)).length:Nat):Int))∧a4Q w W'∧pA∧pB:=by
 have hmm:=@run_makeMap Tryz.prog
 go_enter Tryz.func17,Tryz.ntmps17
 go_wp2_with (go_at_call 42;refine(hA _ (a4Q.alloc w _)).mono ?_;rintro e W1 ⟨v,rfl,⟨A,c,rfl,hrow⟩,hpa,hg1⟩)
 have u96:Tryz.prog.underlying 96=some (.map 9 4):=by rfl
 have u9:Tryz.prog.underlying 9=some .string:=by rfl
 have z4:∀W,(zeroValue 4).run Tryz.prog W=.ok (.bool false) W:=fun W=>by rfl
 have s0:b2E W1 w.heap.size (la.take 0):=by
  refine b2E.kept ⟨#[],0,b0i _,by simp,by simp⟩ hg1
 have hbl:w.heap.size<W1.heap.size:=by
  obtain⟨es,k,hb,-⟩:=s0
  grind
 go_loopg [15] la.length (fun k s15 wr=>∃i:Nat,s15=.int .i64 (i:Int)∧i≤la.length∧la.length-i≤k∧b2E wr w.heap.size (la.take i)∧a8p w.heap.size W1 wr)
 case atStart=>exact⟨0,rfl,Nat.zero_le _,by omega,s0,a8p.refl⟩
 case round=>
  obtain⟨i,rfl,hi,hk,hm,hg⟩:=hrel
  by_cases hlt:i<la.length
  ·obtain⟨blk,off,rfl,hcell⟩:=hrow i hlt
   obtain⟨es0,k0,hb0,-⟩:=id s0
   have hcell:=c4Z hg.2.1 hb0 hcell
   obtain⟨w2,hput,hm2,hsz2,hh2,hio2⟩:=c6f (P:=Tryz.prog) hm u96 u9 la[i]
   rw[c6g hlt]at hm2
   go_wp2
   go_roundg (la.length-(i+1))
   case measure=>omega
   case rel=>exact⟨i+1,by simp,hlt,a27 _,hm2,hg.step hsz2 hh2 hio2⟩
  ·have hfull:la.take i=la:=a32 (by omega)
   rw[hfull]at hm
   have hgr:a4Q w wr:=((a4Q.alloc w (.map #[] 0)).to (b:=w.heap.size)).trans (hg1.to.trans hg) |>.shut (a27 _)
   go_wp2_with (go_at_call 42;refine(hB _ hgr).mono ?_;rintro e W2 ⟨v,rfl,⟨A2,c2,rfl,hrow2⟩,hpb,hg2⟩)
   have hm2:=hm.kept hg2
   go_loopg [25,8] lb.length (fun k s25 s8 wr=>∃j:Nat,s25=.int .i64 (j:Int)∧s8=.int .i64 ((((lb.take j).filter (inB la)).length:Nat):Int)∧j≤lb.length∧lb.length-j≤k∧wr=W2)
   case atStart=>exact⟨0,rfl,rfl,Nat.zero_le _,by omega,rfl⟩
   case round=>
    obtain⟨j,rfl,rfl,hj,hk,rfl⟩:=hrel
    by_cases hlt2:j<lb.length
    ·obtain⟨blk,off,rfl,hcell⟩:=hrow2 j hlt2
     obtain⟨r,hlook,hr⟩:=c4Y (P:=Tryz.prog) hm2 u96 u9 (z4 _) lb[j]
     have hin:inB la lb[j]=r:=by rw[Bool.eq_iff_iff,c7N,hr]
     have hcnt:(lb.take (j+1)).filter (inB la)=(lb.take j).filter (inB la)++if r=true then[lb[j]]else[]:=by
      grind[a29]
     have hle:((lb.take j).filter (inB la)).length≤lb.length:=a33 (List.length_filter_le _ _) (by grind)
     cases r with
     |true=>
      rw[if_pos rfl]at hcnt
      go_wp2
      go_roundg (lb.length-(j+1))
      case measure=>omega
      case rel=>exact⟨j+1,by simp,by grind,hlt2,a27 _,rfl⟩
     |false=>
      rw[if_neg (by simp),List.append_nil]at hcnt
      go_wp2
      go_roundg (lb.length-(j+1))
      all_goals grind
    ·have hfull:lb.take j=lb:=a32 (by omega)
     rw[hfull]
     go_wp2
     go_ret
     exact⟨rfl,⟨a33 hgr.1 hg2.1,fun c hc=>(hg2.2.1 c (a28 hc hgr.1)).trans (hgr.2.1 c hc),hg2.2.2.trans hgr.2.2⟩,hpa,hpb⟩
end Go.Ab
namespace Go.Ab
open IntKind(wrap)
open Go.Proofs
set_option maxRecDepth 100000
set_option linter.unusedVariables false
@[reducible] def QI:Ty:=.int .i64
@[reducible] def QL:Ty:=.list false QI
@[reducible] def QU:Ty:=.int .u64
@[reducible] def QV:Ty:=.int .u8
@[reducible] def QB:Ty:=.list false QV
@[reducible] def LI:Type:=List Int
instance (n:Nat):OfNat Ent n:=⟨.sv n QI⟩
@[reducible] def Qp(i n:Nat):Ent:=.ptr i n []
@[reducible] def Qn(l:a0c):Ex×a0c:=(.normal,l)
@[reducible] def Qe(n:Nat)(l:a0c):Ex×a0c:=(.exit n,l)
@[reducible] def Qr(l:a0c):Ex×a0c:=(.ret,l)
def QH:Hints:=⟨[],[],[]⟩
@[reducible] def Z0:Type:=(Unit ⊕ (Bool×Unit))
@[reducible] def Z1:Type:=(LI×LI)
@[reducible] def Z2:Type:=((List LI)×Unit)
@[reducible] def Z3:Type:=(Int×(Int×LI))
@[reducible] def Z4:Type:=(LI×(Int×Int))
@[reducible] def Z5:Type:=(List (Int×(Int×Unit)))
@[reducible] def Z6:Type:=(Int×(LI×Unit))
@[reducible] def Z7:Type:=(LI×(Int×Unit))
@[reducible] def Z8:Type:=(Int×(Int×(Int×Unit)))
@[reducible] def Z9:Type:=(Bool×(LI×Unit))
@[reducible] def Z10:Type:=(Int×(Int×(Bool×Unit)))
@[reducible] def Z11:Type:=((Int×(Int×Unit))×Unit)
@[reducible] def Z12:Type:=(LI×(LI×Int))
@[reducible] def Z13:Type:=(Int×Z2)
@[reducible] def Z14:Type:=(LI×(LI×Unit))
@[reducible] def Z15:Type:=((List LI)×(Int×Unit))
@[reducible] def Z16:Type:=(LI×(Int×(Int×Unit)))
@[reducible] def Z17:Type:=(List Z8)
@[reducible] def Z18:Type:=(Int×Z6)
@[reducible] def Z19:Type:=(Int×Z7)
@[reducible] def Z20:Type:=(LI×(Int×(Bool×Unit)))
@[reducible] def Z21:Type:=(Z6×Unit)
@[reducible] def Z22:Type:=(Int×Z8)
@[reducible] def Z23:Type:=(Z7×Unit)
@[reducible] def Z24:Type:=(Z8×Unit)
@[reducible] def Z25:Type:=(Int×Z10)
@[reducible] def Z26:Type:=(List Z13)
@[reducible] def Z27:Type:=(Int×Z14)
@[reducible] def Z28:Type:=(LI×Z6)
@[reducible] def Z29:Type:=((List LI)×(Int×(Int×Unit)))
@[reducible] def Z30:Type:=(Int×Z13)
@[reducible] def Z31:Type:=(Z13×Int)
@[reducible] def Z32:Type:=(Int×Z16)
@[reducible] def Z33:Type:=(Z16×Int)
@[reducible] def Z34:Type:=(LI×Z8)
@[reducible] def Z35:Type:=(Z13×Unit)
@[reducible] def Z36:Type:=(Int×Z18)
@[reducible] def Z37:Type:=(LI×Z10)
@[reducible] def Z38:Type:=(Z16×Unit)
@[reducible] def Z39:Type:=(Int×Z22)
@[reducible] def Z40:Type:=(Int×Z23)
@[reducible] def Z41:Type:=(LI×Z14)
@[reducible] def Z42:Type:=(LI×Z16)
@[reducible] def Z43:Type:=(LI×Z18)
@[reducible] def Z44:Type:=(Int×Z27)
@[reducible] def Z45:Type:=(Int×Z29)
@[reducible] def Z46:Type:=(Z26×Unit)
@[reducible] def Z47:Type:=(Int×Z34)
@[reducible] def Z48:Type:=(Int×Z35)
@[reducible] def Z49:Type:=(Z6×(LI×Unit))
@[reducible] def Z50:Type:=((LI×Unit) ⊕ Z6)
@[reducible] def Z51:Type:=(LI×Z20)
@[reducible] def Z52:Type:=(Int×Z32)
@[reducible] def Z53:Type:=(Z27×Unit)
@[reducible] def Z54:Type:=(Int×Z38)
@[reducible] def Z55:Type:=(Bool×Z35)
@[reducible] def Z56:Type:=(Int×Z39)
@[reducible] def Z57:Type:=(Int×Z40)
@[reducible] def Z58:Type:=(Bool×Z38)
@[reducible] def Z59:Type:=(Int×Z41)
@[reducible] def Z60:Type:=(LI×Z34)
@[reducible] def Z61:Type:=(Int×Z43)
@[reducible] def Z62:Type:=(LI×Z32)
@[reducible] def Z63:Type:=(LI×Z35)
@[reducible] def Z64:Type:=(LI×Z38)
@[reducible] def Z65:Type:=(Int×Z48)
@[reducible] def Z66:Type:=(Int×Z53)
@[reducible] def Z67:Type:=(Int×Z54)
@[reducible] def Z68:Type:=(Z32 ⊕ (Int×Unit))
@[reducible] def Z69:Type:=(Int×Z56)
@[reducible] def Z70:Type:=(Int×Z58)
@[reducible] def Z71:Type:=(Z16 ⊕ Z0)
@[reducible] def Z72:Type:=(LI×Z44)
@[reducible] def Z73:Type:=(Int×Z59)
@[reducible] def Z74:Type:=(LI×Z49)
@[reducible] def Z75:Type:=(LI×Z52)
@[reducible] def Z76:Type:=(LI×Z53)
@[reducible] def Z77:Type:=(Int×Z63)
@[reducible] def Z78:Type:=(Int×Z61)
@[reducible] def Z79:Type:=(Int×Z64)
@[reducible] def Z80:Type:=(Int×Z66)
@[reducible] def Z81:Type:=(LI×Z57)
@[reducible] def Z82:Type:=(Int×Z67)
@[reducible] def Z83:Type:=(Z6×Z21)
@[reducible] def Z84:Type:=(Int×Z69)
@[reducible] def Z85:Type:=(Z7×Z21)
@[reducible] def Z86:Type:=(Int×Z72)
@[reducible] def Z87:Type:=(Int×Z76)
@[reducible] def Z88:Type:=(Int×Z77)
@[reducible] def Z89:Type:=(Int×Z79)
@[reducible] def Z90:Type:=(Int×Z80)
@[reducible] def Z91:Type:=(Int×Z81)
@[reducible] def Z92:Type:=(Int×Z84)
@[reducible] def Z93:Type:=(Int×Z89)
@[reducible] def Z94:Type:=(Z17×Z35)
@[reducible] def Z95:Type:=(LI×Z85)
@[reducible] def Z96:Type:=(Z8×Z60)
@[reducible] def Z97:Type:=(Int×Z95)
@[reducible] def Z98:Type:=(Z5×Z74)
@[reducible] def Z99:Type:=(Int×Z97)
@[reducible] def c3w:Type:=(Z96×Unit)
@[reducible] def c3x:Type:=(Z6×Z83)
@[reducible] def d1o:Type:=(LI×Z98)
@[reducible] def b9F:Type:=(LI×Z99)
@[reducible] def d1p:Type:=(LI×d1o)
@[reducible] def d1q:Type:=(Int×d1p)
@[reducible] def d1r:Type:=(Int×d1q)
@[reducible] def d1s:Type:=(Int×d1r)
@[reducible] def d1t:Type:=(Int×d1s)
@[reducible] def a1q:Type:=(Int×d1t)
@[reducible] def a8R:Type:=(List a1q)
@[reducible] def b1M:Type:=(a1q×Int)
@[reducible] def b2F:Type:=(a1q×Unit)
@[reducible] def c6h:Type:=(a8R×Unit)
@[reducible] def c8p:Type:=(Bool×b2F)
@[reducible] def b9G:Type:=(Int×c8p)
@[reducible] def c3y:Type:=(a8R×(LI×Unit))
@[reducible] def d1u:Type:=(Z7×b2F)
@[reducible] def c8q:Type:=(Z16×b2F)
@[reducible] def c3z:Type:=(a1q×Z38)
@[reducible] def c3A:Type:=(Int×d1u)
@[reducible] def d1v:Type:=(Z17×c6h)
@[reducible] def c6i:Type:=(Int×c8q)
@[reducible] def b1N:Type:=(Int×c3A)
@[reducible] def b7f:Type:=(Int×c6i)
@[reducible] def d1w:Type:=(Z8×d1v)
@[reducible] def d1x:Type:=(Int×d1w)
@[reducible] def a1C:Type:=(Int×d1x)
@[reducible] def a3M:Type:=(List a1C)
@[reducible] def b1O:Type:=(a1C×Unit)
@[reducible] def d1y:Type:=(a3M×Unit)
@[reducible] def b9H:Type:=(Z13×b1O)
@[reducible] def d1z:Type:=(Z5×d1y)
@[reducible] def b7g:Type:=(a1C×Z38)
@[reducible] def d1A:Type:=(Int×d1z)
@[reducible] def d1B:Type:=(Int×d1A)
@[reducible] def a9M:Type:=(a1q×b2F)
@[reducible] def d1C:Type:=(Int×a9M)
@[reducible] def c3B:Type:=(Int×d1C)
@[reducible] def a4j:Type:=(Z8×d1B)
@[reducible] def a7z:Type:=(a4j×Unit)
@[reducible] def d1D:Type:=(Z26×a7z)
@[reducible] def c3C:Type:=((List LI)×d1D)
@[reducible] def Q0:Ty:=(.pair QI .unit)
@[reducible] def Q1:Ty:=(.pair (.list true QI) .unit)
@[reducible] def Q2:Ty:=(.pair QL .unit)
@[reducible] def Q3:Ty:=(.pair QI Q0)
@[reducible] def Q4:Ty:=(.pair QU Q0)
@[reducible] def Q5:Ty:=(.pair (.nl QL) .unit)
@[reducible] def Q6:Ty:=(.pair (.list true (.list true QI)) .unit)
@[reducible] def Q7:Ty:=(.pair (.list true QL) .unit)
@[reducible] def Q8:Ty:=(.pair (.list false QL) .unit)
@[reducible] def Q9:Ty:=(.pair (.list true QV) Q0)
@[reducible] def Q10:Ty:=(.pair QI Q1)
@[reducible] def Q11:Ty:=(.pair QI Q2)
@[reducible] def Q12:Ty:=(.pair QI Q3)
@[reducible] def Q13:Ty:=(.pair QI Q4)
@[reducible] def Q14:Ty:=(.pair (.list true QI) Q1)
@[reducible] def Q15:Ty:=(.pair QI Q8)
@[reducible] def Q16:Ty:=(.pair QB Q3)
@[reducible] def Q17:Ty:=(.pair QI Q14)
@[reducible] def Q18:Ty:=(.pair (.list true QI) Q13)
@[reducible] def Q19:Ty:=(.pair QL Q13)
@[reducible] def Q20:Ty:=(.pair Q11 Q2)
@[reducible] def Q21:Ty:=(.pair (.list true QI) Q18)
@[reducible] def Q22:Ty:=(.pair QL Q19)
@[reducible] def Q23:Ty:=(.pair (.nl QI) Q20)
@[reducible] def Q24:Ty:=(.pair QL Q20)
@[reducible] def Q25:Ty:=(.pair (.list true Q3) Q23)
@[reducible] def Q26:Ty:=(.pair Q12 Q21)
@[reducible] def Q27:Ty:=(.pair Q12 Q22)
@[reducible] def Q28:Ty:=(.pair (.list false Q3) Q24)
@[reducible] def Q29:Ty:=(.pair (.arr 3 QI) Q25)
@[reducible] def Q30:Ty:=(.pair (.arr 3 QI) Q28)
@[reducible] def Q31:Ty:=(.pair (.list true QI) Q29)
@[reducible] def Q32:Ty:=(.pair QL Q30)
@[reducible] def Q33:Ty:=(.pair QI Q31)
@[reducible] def Q34:Ty:=(.pair QI Q32)
@[reducible] def Q35:Ty:=(.pair QI Q33)
@[reducible] def Q36:Ty:=(.pair QI Q34)
@[reducible] def Q37:Ty:=(.pair QI Q35)
@[reducible] def Q38:Ty:=(.pair QI Q36)
@[reducible] def Q39:Ty:=(.pair QI Q37)
@[reducible] def Q40:Ty:=(.pair QI Q38)
@[reducible] def Q41:Ty:=(.pair QI Q39)
@[reducible] def Q42:Ty:=(.pair QI Q40)
@[reducible] def Q43:Ty:=(.pair (.nl Q42) .unit)
@[reducible] def Q44:Ty:=(.pair (.list true Q42) .unit)
@[reducible] def Q45:Ty:=(.pair (.list false Q42) .unit)
@[reducible] def Q46:Ty:=(.pair (.nl Q12) Q43)
@[reducible] def Q47:Ty:=(.pair (.list true Q12) Q43)
@[reducible] def Q48:Ty:=(.pair (.list false Q12) Q44)
@[reducible] def Q49:Ty:=(.pair (.list false Q12) Q45)
@[reducible] def Q50:Ty:=(.pair Q12 Q46)
@[reducible] def Q51:Ty:=(.pair Q12 Q47)
@[reducible] def Q52:Ty:=(.pair Q12 Q48)
@[reducible] def Q53:Ty:=(.pair Q12 Q49)
@[reducible] def Q54:Ty:=(.pair QI Q50)
@[reducible] def Q55:Ty:=(.pair QI Q51)
@[reducible] def Q56:Ty:=(.pair QI Q52)
@[reducible] def Q57:Ty:=(.pair QI Q53)
@[reducible] def Q58:Ty:=(.pair QI Q55)
@[reducible] def Q59:Ty:=(.pair QI Q56)
@[reducible] def Q60:Ty:=(.pair QI Q57)
@[reducible] def Q61:Ty:=(.pair (.nl Q60) .unit)
@[reducible] def Q62:Ty:=(.pair (.list true Q60) .unit)
@[reducible] def Q63:Ty:=(.pair (.list false Q60) .unit)
@[reducible] def Q64:Ty:=(.pair (.nl Q3) Q61)
@[reducible] def Q65:Ty:=(.pair (.list true Q3) Q62)
@[reducible] def Q66:Ty:=(.pair (.list false Q3) Q63)
@[reducible] def Q67:Ty:=(.pair QU Q64)
@[reducible] def Q68:Ty:=(.pair QU Q65)
@[reducible] def Q69:Ty:=(.pair QU Q66)
@[reducible] def Q70:Ty:=(.pair QI Q67)
@[reducible] def Q71:Ty:=(.pair QI Q68)
@[reducible] def Q72:Ty:=(.pair QI Q69)
@[reducible] def Q73:Ty:=(.pair Q12 Q71)
@[reducible] def Q74:Ty:=(.pair Q12 Q72)
def b9z:List (Nat×Ty):=[(2,.int .i64),(3,.int .i64),(5,.int .u8),(9,.str),(23,.pair QI Q3),(24,.list false QI),(27,.list false QV),(28,.int .u64),(29,.list false Q3),(30,.list false Q60),(32,.pair Q12 Q72),(36,.pair QI Q0),(38,.int .i64),(48,.list false QL),(50,.pair QI Q8),(53,.list false Q12),(54,.list false Q42),(56,.pair QI Q57),(68,.int .u64),(83,.pair Q12 Q22),(90,.pair QI Q0),(91,.list false QB),(92,.list false Q15),(97,.list false .str),(103,.arr 3 QI),(104,.list false Q3),(106,.pair QI Q2),(108,.pair QI Q40),(113,.pair QB Q0),(119,.int .u16),(142,.int .u32),(147,.pair QI Q3),(162,.pair QI Q0),(165,.list false QU),(172,.pair QB Q3),(190,.pair QB Q3),(223,.arr 64 QV),(249,.list false (.arr 3 QI)),(255,.pair QI (.pair QL Q2))]
def T0:Nat→Option Ty:=fun t=>find b9z t
def c3D:List Nat:=[23,103]
def d1E:Nat→Bool:=fun t=>c3D.contains t
def b9I:List Nat:=[]
def d1F:Nat→Bool:=fun t=>b9I.contains t
def a9h:(List Int):=[0,1,56,2,57,49,28,3,61,58,42,50,38,29,17,4,62,47,59,36,45,43,51,22,53,39,33,30,24,18,12,5,63,55,48,27,60,41,37,16,46,35,44,21,52,32,23,11,54,26,40,15,34,20,31,10,25,14,19,9,13,8,7,6]
def G0:Nat→Option ((t:Ty)×t.den):=fun g=>find ([(0,⟨.arr 64 QV,a9h⟩)]:List (Nat×((t:Ty)×t.den))) g
@[reducible] def b3N(a:List (Nat×FSem))(b:List (Nat×Ty))(c d:Nat):Cx:=⟨d1F,d1E,T0,fun f=>find a f,fun n=>find b n,c.testBit,d.testBit,G0⟩
def a5N(x:Int):Option Bool:=cond (decide (4≤x)) (some (decide (x≤24))) (some false)
def b8H:FSem:=⟨[.v QI],[.v .bool],a5N⟩
def a2e(x:Z8):Option Bool:=cond (decide (1≤x.1)) (cond (decide (x.1≤1048576)) (cond (decide (1≤x.2.1)) (cond (decide (x.2.1≤8)) ((a5N x.2.2.1).bind fun y1=>some y1) (some false)) (some false)) (some false)) (some false)
def b8I:FSem:=⟨[.v Q12],[.v .bool],a2e⟩
def a7G(x:LI):Option Z16:=cond (lim (a02 x)) (some (x,0,0,())) none
def c1T:FSem:=⟨[.v QB],[.b Q16],a7G⟩
def a4R(s:Z32):Option (Z32 ⊕ (Unit ⊕ Z8)):=(fun(a:Int)(b:LI)(c d:Int)=>cond (decide (d<c)) ((m0k b d).bind fun x1=>(show Option (Int×Int×Int×Z37)from cond (d==9) (cond (decide (x1 > 1)) (some (a,d,x1,b,c,d,true,())) (cond (decide (d > 0)) (some (a,d,x1,b,c,d,x1==0,())) (some (a,d,x1,b,c,d,false,())))) (cond (decide (d > 0)) (some (a,d,x1,b,c,d,x1==0,())) (some (a,d,x1,b,c,d,false,())))).bind fun z2=>cond z2.2.2.2.2.2.2.1 (some (.inr (Sum.inr ((0,0,2,()))))) (cond (decide ((wrap .i64 (7*z2.2.1))<0)) none (cond (decide (z2.2.2.1<128)) (some (.inr (Sum.inr ((bits .u64 .or z2.1 (A0n .u64 (wrap .u64 (a06 z2.2.2.1 128)) (wrap .i64 (7*z2.2.1))),wrap .i64 (z2.2.1+1),0,()))))) (some (.inl (bits .u64 .or z2.1 (A0n .u64 (wrap .u64 (a06 z2.2.2.1 128)) (wrap .i64 (7*z2.2.1))),z2.2.2.2.1,z2.2.2.2.2.1,wrap .i64 (z2.2.2.2.2.2.1+1),())))))) (some (.inr (Sum.inl ())))) s.1 s.2.1 s.2.2.1 s.2.2.2.1
def a6Z(x:LI):Option (Int×Int×Int):=(y0s a4R (0,x,(x.length:Int),0,())).bind fun w3=>match w3 with |.inl a4=>some (0,0,3) |.inr b5=>some (b5.1,b5.2.1,b5.2.2.1)
def b7h:FSem:=⟨[.v QB],[.v QU,.v QI,.v QI],a6Z⟩
def d1G:Hints:=⟨[(58,[.sv 5 QU,.sv 8 QB,9,10],[Qe 0 [],Qr [.sv 2 QU,3,4]])],[(7474,[Qn [.sv 5 QU,6,.sv 7 QV,.sv 8 QB,9,10,.sv 28 .bool]])],[]⟩
def a0O(x:Z33):Option Z32:=cond (x.1.2.2.1 != 0) (some (0,x.1)) (cond ((decide (0≤x.1.2.1))&&(decide (x.1.2.1≤(x.1.1.length:Int)))) ((a6Z (a09 (a00 x.1.2.1) (a07 (a02 x.1.1) x.1.1))).bind fun y1=>(show Option Z82 from cond (y1.2.2==0) (cond (decide (y1.1 > x.2)) (some (y1.1,y1.2.1,4,x.1,())) (some (y1.1,y1.2.1,y1.2.2,x.1,()))) (some (y1.1,y1.2.1,y1.2.2,x.1,()))).bind fun z2=>cond (z2.2.2.1 != 0) (some (0,z2.2.2.2.1.1,z2.2.2.2.1.2.1,z2.2.2.1,z2.2.2.2.1.2.2.2)) (some (z2.1,z2.2.2.2.1.1,wrap .i64 (z2.2.2.2.1.2.1+z2.2.1),z2.2.2.2.1.2.2))) none)
def b3O:FSem:=⟨[.r false (.b Q16),.v QU],[.v QU],a0O⟩
def H79:Hints:=⟨[],[(15,[Qn [.sv 5 QU,6,7,.box pinned Q16,Qp 0 pinned]])],[(3,[.p,.p,.q,.q,.p,.p,.q,.q,.x,.x,.x,.v,.v,.v,.v,.v,.x])]⟩
def a4s(x:Z16):Option Z32:=some (x.2.2.1,x)
def b3P:FSem:=⟨[.r false (.b Q16)],[.v QI],a4s⟩
def a2F(x:Z16):Option Z32:=some (wrap .i64 ((x.1.length:Int)-x.2.1),x)
def b3D:FSem:=⟨[.r false (.b Q16)],[.v QI],a2F⟩
def H81:Hints:=⟨[],[],[(1,[.p,.p,.q,.q,.v,.p,.p,.q,.q,.x,.x])]⟩
def a8P(x:Z33):Option Z42:=cond (x.1.2.2.1 != 0) (some ([],x.1)) ((a2F x.1).bind fun y1=>cond (decide ((v0r x.2 0) > y1.1)) (some ([],y1.2.1,y1.2.2.1,3,y1.2.2.2.2)) (cond ((decide (0≤(wrap .i64 (y1.2.2.1+(v0r x.2 0)))))&&(decide ((wrap .i64 (y1.2.2.1+(v0r x.2 0)))≤(y1.2.1.length:Int)))) (cond ((decide (0≤y1.2.2.1))&&(decide (y1.2.2.1≤((a00 (wrap .i64 (y1.2.2.1+(v0r x.2 0))):Nat):Int)))) (cond (lim (a02 (a09 (a00 y1.2.2.1) (a07 (a00 (wrap .i64 (y1.2.2.1+(v0r x.2 0)))) y1.2.1)))) (some (a09 (a00 y1.2.2.1) (a07 (a00 (wrap .i64 (y1.2.2.1+(v0r x.2 0)))) y1.2.1),y1.2.1,wrap .i64 (y1.2.2.1+(v0r x.2 0)),y1.2.2.2)) none) none) none))
def b3E:FSem:=⟨[.r false (.b Q16),.v QI],[.o QV],a8P⟩
def d1H:Hints:=⟨[],[],[(7,[.p,.p,.q,.q,.p,.p,.q,.q,.p,.p,.q,.q,.v,.v,.x,.x,.x])]⟩
def a7S(x:Int):Option Int:=some (v0s (v0r x 0) 8)
def b8J:FSem:=⟨[.v QI],[.v QI],a7S⟩
def b2e(s:Z93):Option (Z93 ⊕ Z54):=(fun(a:Int)(b:LI)(c:Z16)=>cond (decide (a<s.2.1)) (cond ((decide (0≤a))&&(decide (a<(b.length:Int)))) (some (.inl (wrap .u64 ((wrap .u64 (s.1*256))+(wrap .u64 (a04 b (a00 a) 0))),s.2.1,wrap .i64 (a+1),b,c,()))) none) (some (.inr (s.1,c,())))) s.2.2.1 s.2.2.2.1 s.2.2.2.2.1
def a6H(x:Z33):Option Z32:=(a7S x.2).bind fun y1=>(a8P (x.1,y1)).bind fun y2=>(y0s b2e (0,(y2.1.length:Int),0,y2.1,y2.2,())).bind fun w3=>some (w3.1,w3.2.1)
def b3Q:FSem:=⟨[.r false (.b Q16),.v QI],[.v QU],a6H⟩
def H82:Hints:=⟨[(58,[.sv 5 QU,12,13,.own 11 1011 QV,.box pinned Q16],[Qe 0 [.sv 5 QU,.box pinned Q16]])],[],[]⟩
def a4S(x:Z16):Option Z32:=some (x.2.1,x)
def b4A:FSem:=⟨[.r false (.b Q16)],[.v QI],a4S⟩
def b3F(s:Z47):Option (Z47 ⊕ Z32):=(fun(a:Int)(b:LI)(c d e:Int)=>cond (decide (e<8)) (cond ((bits .u32 .and a 1)==1) (some (.inl (bits .u32 .xor (A0o .u32 a 1) 3988292384,b,c,d,wrap .i64 (e+1),()))) (some (.inl (A0o .u32 a 1,b,c,d,wrap .i64 (e+1),())))) (some (.inr (a,b,c,d,())))) s.1 s.2.1 s.2.2.1 s.2.2.2.1 s.2.2.2.2.1
def b3G(s:Z32):Option Z68:=(fun(a b:Int)=>cond (decide (b<a)) ((m0k s.2.1 b).bind fun x1=>(y0s b3F (bits .u32 .xor s.1 (wrap .u32 x1),s.2.1,a,b,0,())).bind fun w2=>some (.inl (w2.1,w2.2.1,w2.2.2.1,wrap .i64 (w2.2.2.2.1+1),()))) (some (.inr (s.1,())))) s.2.2.1 s.2.2.2.1
def a8e(x:LI):Option Int:=(y0s b3G (4294967295,x,(x.length:Int),0,())).bind fun w3=>some (bits .u32 .xor (IntKind.max .u32) w3.1)
def b5l:FSem:=⟨[.v QB],[.v (.int .u32)],a8e⟩
def H84:Hints:=⟨[(58,[.sv 3 (.int .u32),.sv 7 QB,8,9],[Qe 0 [.sv 3 (.int .u32)]]),(29902,[.sv 3 (.int .u32),.sv 7 QB,8,9,17],[Qe 2 [.sv 3 (.int .u32),.sv 7 QB,8,9]])],[],[]⟩
def b3R(s:(LI×(Int×Int×Z96×Z96×Z38))):Option ((LI×(Int×Int×Z96×Z96×Z38)) ⊕ (LI×(Z96×Z96×Z38))):=(fun(a:Int)(b c:Z96)(d:Z16)=>cond (decide (a<s.2.1)) ((a0O (d,1048704)).bind fun y6=>cond (lim ((a02 c.2.1)+1)) ((a0O (y6.2,4096)).bind fun y7=>cond (lim ((a02 c.2.2.1)+1)) (some (.inl (s.1,s.2.1,wrap .u64 (a+1),b,(c.1,a03 c.2.1 [wrap .i64 y6.1],a03 c.2.2.1 [wrap .i64 y7.1],c.2.2.2),y7.2,()))) none) none) (some (.inr (s.1,b,c,d,())))) s.2.2.1 s.2.2.2.1 s.2.2.2.2.1 s.2.2.2.2.2.1
def b3S(s:(Int×Int×Z96×c3w)):Option ((Int×Int×Z96×c3w) ⊕ ((Z96×c3w) ⊕ (Int×c3w))):=(fun(a:Int)(b c:Z96)=>cond (decide (a<s.1)) (cond ((decide (0≤a))&&(decide (a<(c.2.2.1.length:Int)))) (cond ((a04 c.2.2.1 (a00 a) 0)==0) (some (.inr (Sum.inr ((2,((0,0,0,()),[],[],0,0,0,()),()))))) (some (.inl (s.1,wrap .i64 (a+1),b,(c.1,c.2.1,c.2.2.1,wrap .i64 (c.2.2.2.1+(a04 c.2.2.1 (a00 a) 0)),c.2.2.2.2),())))) none) (some (.inr (Sum.inl (b,c,()))))) s.2.1 s.2.2.1 s.2.2.2.1
def b1s(x:LI):Option (Z96×Int):=cond (decide ((x.length:Int)<4)) (some (((0,0,0,()),[],[],0,0,0,()),3)) (cond (decide (4≤(x.length:Int))) (cond ((b2s (a07 4 x)) != [75,78,83,68]) (some (((0,0,0,()),[],[],0,0,0,()),2)) (cond (decide (4≤(x.length:Int))) ((a7G (a09 4 (a07 (a02 x) x))).bind fun y1=>(a0O (y1,1048576)).bind fun y2=>(a0O (y2.2,8)).bind fun y3=>(a0O (y3.2,24)).bind fun y4=>(a0O (y4.2,4096)).bind fun y5=>(y0s b3R (x,y5.1,0,((0,0,0,()),[],[],0,0,0,()),((wrap .i64 y2.1,wrap .i64 y3.1,wrap .i64 y4.1,()),[],[],0,0,0,()),y5.2,())).bind fun w8=>(a4s w8.2.2.2.1).bind fun y9=>cond (y9.1 != 0) (some (((0,0,0,()),[],[],0,0,0,()),y9.1)) ((a2F y9.2).bind fun y10=>cond (decide (y10.1<12)) (some (((0,0,0,()),[],[],0,0,0,()),3)) ((a6H (y10.2,8)).bind fun y11=>(a4S y11.2).bind fun y12=>cond ((decide (0≤(wrap .i64 (4+y12.1))))&&(decide ((wrap .i64 (4+y12.1))≤(w8.1.length:Int)))) ((a8e (a07 (a00 (wrap .i64 (4+y12.1))) w8.1)).bind fun y13=>(a6H (y12.2,4)).bind fun y14=>cond ((wrap .u64 y13) != y14.1) (some (((0,0,0,()),[],[],0,0,0,()),5)) ((a2e w8.2.2.1.1).bind fun y15=>cond (!y15) (some (((0,0,0,()),[],[],0,0,0,()),2)) ((y0s b3S ((w8.2.2.1.2.2.1.length:Int),0,w8.2.1,(w8.2.2.1.1,w8.2.2.1.2.1,w8.2.2.1.2.2.1,w8.2.2.1.2.2.2.1,y11.1,wrap .i64 ((wrap .i64 (4+y12.1))+4),w8.2.2.1.2.2.2.2.2.2),())).bind fun w16=>match w16 with |.inl a17=>(cond (decide (a17.2.1.2.2.2.1 > 4194304)) (some (((0,0,0,()),[],[],0,0,0,()),2)) (some (a17.2.1,0))) |.inr b18=>some (b18.2.1,b18.1)))) none))) none)) none)
def b5T:FSem:=⟨[.v QB],[.v Q27,.v QI],b1s⟩
def H37:Hints:=⟨[(4090,[.sv 0 QB,.sv 38 QU,.sv 39 QU,.box 2 Q27,.box 4 Q26,.box 1021 Q16,Qp 2 2,Qp 4 4,Qp 5 1021],[Qe 0 [.sv 0 QB,.box 2 Q27,.box 4 Q26,.box 1021 Q16,Qp 2 2,Qp 4 4,Qp 5 1021]]),(1048570,[93,94,.box 2 Q27,.box 4 Q26,Qp 2 2,Qp 4 4,.ref 92 4 [.snd,.snd,.fst]],[Qe 2 [.box 2 Q27,.box 4 Q26,Qp 2 2,Qp 4 4],Qr [3,.box 2 Q27,Qp 2 2]])],[],[(12,[.r [4,41],.r [4,42],.q,.w [44,1021,1044],.v,.q,.x,.x,.x]),(13,[.r [4,49],.r [4,50],.q,.w [52,1021,1052],.v,.q,.x,.x,.x])]⟩
def a2r(x:Z13):Option Int:=cond ((x.2.1.length:Int)==0) (some 0) ((m0k x.2.1 0).bind fun x1=>some (x1.length:Int))
def c1U:FSem:=⟨[.v Q15],[.v QI],a2r⟩
def b0U(x:Int):Option Int:=(show Option (Int×Bool×Unit)from cond (decide (x<1)) (some (x,true,())) (some (x,decide (x > 31),()))).bind fun z1=>cond z1.2.1 (some 0) (cond (decide ((wrap .i64 (z1.1-1))<0)) none (some (A0n .i64 (-1) (wrap .i64 (z1.1-1)))))
def b9J:FSem:=⟨[.v QI],[.v QI],b0U⟩
def d1I:Hints:=⟨[],[(6,[Qn [0,.sv 8 .bool]])],[]⟩
def a9N(x:Int):Option Int:=(show Option (Int×Bool×Unit)from cond (decide (x<1)) (some (x,true,())) (some (x,decide (x > 31),()))).bind fun z1=>cond z1.2.1 (some 0) (cond (decide ((wrap .i64 (z1.1-1))<0)) none (some (wrap .i64 ((A0n .i64 1 (wrap .i64 (z1.1-1)))-1))))
def b8K:FSem:=⟨[.v QI],[.v QI],a9N⟩
def d1J:Hints:=⟨[],[(6,[Qn [0,.sv 8 .bool]])],[]⟩
def a1K(x:(Int×Int)):Option Bool:=cond (decide (x.2≥1)) (cond (decide (x.2≤31)) ((b0U x.2).bind fun y1=>cond (decide (y1≤x.1)) ((a9N x.2).bind fun y2=>some (decide (x.1≤y2))) (some false)) (some false)) (some false)
def b8L:FSem:=⟨[.v QI,.v QI],[.v .bool],a1K⟩
def a3D(s:((List LI)×(Int×(Int×(LI×Z65))))):Option (((List LI)×(Int×(Int×(LI×Z65)))) ⊕ (((List LI)×Z65) ⊕ (Bool×Unit))):=(fun(a:Int)(b:LI)(c d:Int)(e:Z13)=>cond (decide (d<c)) ((m0k b d).bind fun x8=>(a1K (x8,e.1)).bind fun y9=>cond (!y9) (some (.inr (Sum.inr ((false,()))))) (some (.inl (s.1,s.2.1,a,b,c,wrap .i64 (d+1),e,())))) (some (.inr (Sum.inl (s.1,s.2.1,a,e,()))))) s.2.2.1 s.2.2.2.1 s.2.2.2.2.1 s.2.2.2.2.2.1 s.2.2.2.2.2.2.1
def a3E(s:((List LI)×Z65)):Option (((List LI)×Z65) ⊕ Z0):=cond (decide (s.2.2.1<s.2.1)) ((m0k s.1 s.2.2.1).bind fun x6=>(a2r s.2.2.2.1).bind fun y7=>cond ((x6.length:Int) != y7) (some (.inr (Sum.inr ((false,()))))) ((y0s a3D (s.1,s.2.1,s.2.2.1,x6,(x6.length:Int),0,s.2.2.2.1,())).bind fun w10=>match w10 with |.inl a11=>some (.inl (a11.1,a11.2.1,wrap .i64 (a11.2.2.1+1),a11.2.2.2.1,())) |.inr b12=>some (.inr (Sum.inr ((b12.1,())))))) (some (.inr (Sum.inl ())))
def a2P(x:Z13):Option Bool:=(show Option Z55 from(a5N x.1).bind fun y1=>cond (!y1) (some (true,x,())) (cond (decide ((x.2.1.length:Int)<1)) (some (true,x,())) (some (decide ((x.2.1.length:Int) > 8),x,())))).bind fun z2=>cond z2.1 (some false) ((show Option Z55 from(a2r z2.2.1).bind fun y3=>cond (decide (y3<1)) (some (true,z2.2.1,())) ((a2r z2.2.1).bind fun y4=>some (decide (y4 > 4096),z2.2.1,()))).bind fun z5=>cond z5.1 (some false) ((y0s a3E (z5.2.1.2.1,(z5.2.1.2.1.length:Int),0,z5.2.1,())).bind fun w13=>match w13 with |.inl a14=>some true |.inr b15=>some b15.1))
def c1V:FSem:=⟨[.v Q15],[.v .bool],a2P⟩
def H44:Hints:=⟨[(122,[.sv 32 (.list false QL),33,34,.vp 1 Q15],[Qe 0 [],Qr [.sv 2 .bool]]),(62670,[.sv 32 (.list false QL),33,34,.sv 43 QL,44,45,.vp 1 Q15],[Qe 2 [.sv 32 (.list false QL),33,34,.vp 1 Q15],Qr [.sv 2 .bool]])],[(6,[Qn [.sv 22 .bool,.vp 1 Q15]]),(14,[Qn [.sv 30 .bool,.vp 1 Q15]])],[]⟩
def a5O(s:(Int×Z17×Int×Int×Unit)):Option ((Int×Z17×Int×Int×Unit) ⊕ Z0):=(fun(a:Int)(b:Z17)(c d:Int)=>cond (decide (d<c)) ((m0k b d).bind fun x2=>(show Option (Int×Z17×Int×Int×Bool×Z24)from cond (decide (x2.1<0)) (some (a,b,c,d,true,x2,())) (cond (decide (x2.1≥a)) (some (a,b,c,d,true,x2,())) (cond (decide (x2.2.1<0)) (some (a,b,c,d,true,x2,())) (cond (decide (x2.2.1≥a)) (some (a,b,c,d,true,x2,())) (some (a,b,c,d,x2.1==x2.2.1,x2,())))))).bind fun z3=>cond z3.2.2.2.2.1 (some (.inr (Sum.inr ((false,()))))) ((show Option (Int×Z17×Z10)from cond (decide (z3.2.2.2.2.2.1.2.2.1<(-1024))) (some (z3.1,z3.2.1,z3.2.2.1,z3.2.2.2.1,true,())) (some (z3.1,z3.2.1,z3.2.2.1,z3.2.2.2.1,decide (z3.2.2.2.2.2.1.2.2.1 > 1024),()))).bind fun z4=>cond z4.2.2.2.2.1 (some (.inr (Sum.inr ((false,()))))) (some (.inl (z4.1,z4.2.1,z4.2.2.1,wrap .i64 (z4.2.2.2.1+1),()))))) (some (.inr (Sum.inl ())))) s.1 s.2.1 s.2.2.1 s.2.2.2.1
def a7a(x:(Z17×Int)):Option Bool:=(show Option (Z17×Int×Bool×Unit)from cond (decide (x.2<1)) (some (x.1,x.2,true,())) (cond (decide (x.2 > 8)) (some (x.1,x.2,true,())) (some (x.1,x.2,decide ((x.1.length:Int) > 16),())))).bind fun z1=>cond z1.2.2.1 (some false) ((y0s a5O (z1.2.1,z1.1,(z1.1.length:Int),0,())).bind fun w5=>match w5 with |.inl a6=>some true |.inr b7=>some b7.1)
def b5U:FSem:=⟨[.v (.list false Q12),.v QI],[.v .bool],a7a⟩
def H88:Hints:=⟨[(58,[1,.sv 18 (.list false Q12),19,20],[Qe 0 [],Qr [.sv 4 .bool]])],[(6,[Qn [.sv 0 (.list false Q12),1,.sv 17 .bool]]),(7474,[Qn [1,.sv 18 (.list false Q12),19,20,.sv 50 .bool,.box 6 Q12,Qp 6 6]]),(7475,[Qn [1,.sv 18 (.list false Q12),19,20,.sv 58 .bool]])],[]⟩
def a5P(x:a1C):Option Bool:=(a2e x.2.2.1).bind fun y1=>cond y1 (cond (decide (x.2.1≥1)) (cond (decide (x.2.1≤4096)) (cond (decide (x.1≥0)) (cond (decide (x.1≤(wrap .i64 (4194304-x.2.1)))) ((a7a (x.2.2.2.1,x.2.2.1.2.1)).bind fun y2=>some y2) (some false)) (some false)) (some false)) (some false)) (some false)
def b8M:FSem:=⟨[.v Q60],[.v .bool],a5P⟩
def a2k(s:Z16):Option Z71:=(fun(a b:Int)=>cond (decide (b<a)) ((m0k s.1 b).bind fun x1=>(show Option Z37 from cond (decide (x1<(-1073741824))) (some (s.1,a,b,true,())) (some (s.1,a,b,decide (x1≥1073741824),()))).bind fun z2=>cond z2.2.2.2.1 (some (.inr (Sum.inr ((false,()))))) (some (.inl (z2.1,z2.2.1,wrap .i64 (z2.2.2.1+1),())))) (some (.inr (Sum.inl ())))) s.2.1 s.2.2.1
def a2f(x:LI):Option Bool:=(y0s a2k (x,(x.length:Int),0,())).bind fun w3=>match w3 with |.inl a4=>some true |.inr b5=>some b5.1
def b8N:FSem:=⟨[.v QL],[.v .bool],a2f⟩
def H91:Hints:=⟨[(26,[.sv 5 QL,6,7],[Qe 0 [],Qr [.sv 2 .bool]])],[(1689,[Qn [.sv 5 QL,6,7,.sv 16 .bool]])],[]⟩
def a5a(x:Int):Option Bool:=cond (x != 0) (some (x != 1)) (some false)
def b9K:FSem:=⟨[.v QI],[.v .bool],a5a⟩
def a4t(s:Z16):Option Z71:=(fun(a b:Int)=>cond (decide (b<a)) ((m0k s.1 b).bind fun x2=>(show Option Z37 from cond (decide (x2<(-32768))) (some (s.1,a,b,true,())) (some (s.1,a,b,decide (x2≥32768),()))).bind fun z3=>cond z3.2.2.2.1 (some (.inr (Sum.inr ((false,()))))) (some (.inl (z3.1,z3.2.1,wrap .i64 (z3.2.2.1+1),())))) (some (.inr (Sum.inl ())))) s.2.1 s.2.2.1
def a3N(x:(LI×Int)):Option Bool:=(show Option (LI×(Bool×Unit))from cond (decide ((x.1.length:Int)<1)) (some (x.1,true,())) (cond (decide ((x.1.length:Int) > 32)) (some (x.1,true,())) (cond (decide (x.2<0)) (some (x.1,true,())) (some (x.1,decide (x.2 > 15),()))))).bind fun z1=>cond z1.2.1 (some false) ((y0s a4t (z1.1,(z1.1.length:Int),0,())).bind fun w4=>match w4 with |.inl a5=>some true |.inr b6=>some b6.1)
def b9L:FSem:=⟨[.v QL,.v QI],[.v .bool],a3N⟩
def d1K:Hints:=⟨[(58,[.sv 23 QL,24,25],[Qe 0 [],Qr [.sv 4 .bool]])],[(6,[Qn [.sv 0 QL,.sv 22 .bool]]),(3737,[Qn [.sv 23 QL,24,25,.sv 34 .bool]])],[]⟩
def a5Q(s:Z7):Option (Z7 ⊕ Z0):=cond (decide (s.2.1<3)) ((m0k s.1 s.2.1).bind fun x2=>(show Option Z20 from cond (decide (x2<(-64))) (some (s.1,s.2.1,true,())) (some (s.1,s.2.1,decide (x2 > 64),()))).bind fun z3=>cond z3.2.2.1 (some (.inr (Sum.inr ((false,()))))) (some (.inl (z3.1,wrap .i64 (z3.2.1+1),())))) (some (.inr (Sum.inl ())))
def a7b(x:(Int×LI)):Option Bool:=(show Option Z9 from cond (decide (x.1<2)) (some (true,x.2,())) (some (decide (x.1 > 1024),x.2,()))).bind fun z1=>cond z1.1 (some false) ((y0s a5Q (z1.2.1,0,())).bind fun w4=>match w4 with |.inl a5=>some true |.inr b6=>some b6.1)
def c3E:FSem:=⟨[.v QI,.v (.arr 3 QI)],[.v .bool],a7b⟩
def d1L:Hints:=⟨[(58,[.sv 13 (.arr 3 QI),14],[Qe 0 [],Qr [.sv 4 .bool]])],[(6,[Qn [.sv 12 .bool,.vp 3 (.arr 3 QI)]]),(3737,[Qn [.sv 13 (.arr 3 QI),14,.sv 22 .bool]])],[]⟩
def a5R(x:(Int×Int×Unit)):Option Bool:=cond (decide (x.1≥1)) (cond (decide (x.1≤32)) (cond (decide (x.2.1≥0)) (some (decide (x.2.1≤8))) (some false)) (some false)) (some false)
def b8O:FSem:=⟨[.v Q3],[.v .bool],a5R⟩
def a5b(s:(Z5×Int×Int×Unit)):Option ((Z5×Int×Int×Unit) ⊕ Z0):=cond (decide (s.2.2.1<s.2.1)) ((m0k s.1 s.2.2.1).bind fun x1=>(a5R x1).bind fun y2=>cond (!y2) (some (.inr (Sum.inr ((false,()))))) (some (.inl (s.1,s.2.1,wrap .i64 (s.2.2.1+1),())))) (some (.inr (Sum.inl ())))
def a6i(x:Z5):Option Bool:=cond (decide ((x.length:Int) > 3)) (some false) ((y0s a5b (x,(x.length:Int),0,())).bind fun w3=>match w3 with |.inl a4=>some true |.inr b5=>some b5.1)
def b4O:FSem:=⟨[.v (.list false Q3)],[.v .bool],a6i⟩
def d1M:Hints:=⟨[(58,[.sv 8 (.list false Q3),9,10],[Qe 0 [],Qr [.sv 2 .bool]])],[],[]⟩
def a6I(x:(Int×b1M)):Option Bool:=(show Option (Int×b9G)from cond (x.1==0) (some (x.2.2,x.1,x.1==0,x.2.1,())) (some (x.2.2,x.1,x.1==1,x.2.1,()))).bind fun z1=>cond z1.2.2.1 (some true) (cond (z1.2.1==2) (cond (decide (z1.2.2.2.1.2.2.1≥0)) (cond (decide (z1.2.2.2.1.2.2.1≤4)) (some (decide (z1.2.2.2.1.2.2.1≤z1.1))) (some false)) (some false)) (cond (z1.2.1==3) ((a3N (z1.2.2.2.1.2.2.2.2.2.1,z1.2.2.2.1.2.2.2.1)).bind fun y2=>cond y2 (some (decide ((z1.2.2.2.1.2.2.2.2.2.1.length:Int)≤z1.1))) (some false)) (cond (z1.2.1==4) ((a3N (z1.2.2.2.1.2.2.2.2.2.1,z1.2.2.2.1.2.2.2.1)).bind fun y3=>cond y3 (cond (decide ((z1.2.2.2.1.2.2.2.2.2.1.length:Int)≤z1.1)) ((a7b (z1.2.2.2.1.2.2.2.2.1,z1.2.2.2.1.2.2.2.2.2.2.1)).bind fun y4=>some y4) (some false)) (some false)) (cond (z1.2.1==5) (cond (decide ((z1.2.2.2.1.2.2.2.2.2.2.2.1.length:Int) > 0)) ((a6i z1.2.2.2.1.2.2.2.2.2.2.2.1).bind fun y5=>some y5) (some false)) (some false)))))
def c5b:FSem:=⟨[.v QI,.v Q42,.v QI],[.v .bool],a6I⟩
def d1N:Hints:=⟨[],[(26,[Qn [2,7,.sv 8 .bool,.vp 4 Q42]])],[]⟩
def a3O(x:b1M):Option Int:=cond (x.1.1==0) (some 1) (cond (x.1.1==1) (some x.2) (cond (x.1.1==2) (some x.1.2.2.1) ((show Option c8p from cond (x.1.1==3) (some (x.1.1==3,x.1,())) (some (x.1.1==4,x.1,()))).bind fun z1=>cond z1.1 (some (z1.2.1.2.2.2.2.2.1.length:Int)) (some 0))))
def b9M:FSem:=⟨[.v Q42,.v QI],[.v QI],a3O⟩
def d1O:Hints:=⟨[],[(1727,[Qn [.sv 16 .bool,.vp 2 Q42]])],[]⟩
def a0Z(x:LI):Option LI:=x0e x
def a1D:FSem:=⟨[.v QL],[.o QI],a0Z⟩
def c8r:Cx:=b3N [] [] 5 0
theorem d1P(x):A0j c8r QH Tryz.f65 a1D.ps a1D.rs x=a1D.F x:=Eq.trans (show _=w0u x by kernel_rfl) (A0x x)
def a2g(x:LI):Option LI:=x0e x
def a2h:FSem:=⟨[.v QL],[.v QL],a2g⟩
def c7h:Cx:=b3N [] [] 5 0
theorem c9v(x):A0j c7h QH Tryz.f65 a2h.ps a2h.rs x=a2h.F x:=Eq.trans (show _=w0u x by kernel_rfl) (A0x x)
def a1g(x:Z5):Option Z5:=x0e x
def a1h:FSem:=⟨[.v (.list false Q3)],[.v (.list false Q3)],a1g⟩
def c5c:Cx:=b3N [] [] 5 0
theorem c8s(x):A0j c5c QH Tryz.f170 a1h.ps a1h.rs x=a1h.F x:=Eq.trans (show _=w0u x by kernel_rfl) (A0x x)
def a5c(x:(Int×a1q)):Option a1q:=(show Option a9M from(show Option ((a1q×a9M) ⊕ (a9M ⊕ (a1q×a9M)))from cond (x.1==2) (some (Sum.inr (Sum.inl ((0,0,0,0,0,[],a01 3 0,[],[],(0,[],()),[],()),(x.1,0,x.2.2.2.1,0,0,[],a01 3 0,[],[],(0,[],()),[],()),())))) (cond (x.1==4) (some (Sum.inl ((0,0,0,0,0,[],a01 3 0,[],[],(0,[],()),[],()),(x.1,0,0,0,x.2.2.2.2.2.1,[],x.2.2.2.2.2.2.2.1,[],[],(0,[],()),[],()),x.2,()))) (cond (x.1==3) (some (Sum.inl ((0,0,0,0,0,[],a01 3 0,[],[],(0,[],()),[],()),(x.1,0,0,0,0,[],a01 3 0,[],[],(0,[],()),[],()),x.2,()))) (cond (x.1==5) (some (Sum.inr (Sum.inr (((0,0,0,0,0,[],a01 3 0,[],[],(0,[],()),[],()),(x.1,0,0,0,0,[],a01 3 0,[],[],(0,[],()),[],()),x.2,()))))) (some (Sum.inr (Sum.inl ((0,0,0,0,0,[],a01 3 0,[],[],(0,[],()),[],()),(x.1,0,0,0,0,[],a01 3 0,[],[],(0,[],()),[],()),())))))))).bind fun z1=>match z1 with |.inl a2=>((a2g a2.2.2.1.2.2.2.2.2.1).bind fun y4=>some (a2.1,(a2.2.1.1,a2.2.1.2.1,a2.2.1.2.2.1,a2.2.2.1.2.2.2.1,a2.2.1.2.2.2.2.1,y4,a2.2.1.2.2.2.2.2.2),())) |.inr b3=>(match b3 with |.inl a5=>some (a5.1,a5.2.1,()) |.inr b6=>((a1g b6.2.2.1.2.2.2.2.2.2.2.1).bind fun y7=>some (b6.1,(b6.2.1.1,b6.2.1.2.1,b6.2.1.2.2.1,b6.2.1.2.2.2.1,b6.2.1.2.2.2.2.1,b6.2.1.2.2.2.2.2.1,b6.2.1.2.2.2.2.2.2.1,y7,b6.2.1.2.2.2.2.2.2.2.2),())))).bind fun z8=>some z8.2.1
def b9N:FSem:=⟨[.v QI,.v Q42],[.v Q42],a5c⟩
def d1Q:Hints:=⟨[],[(7,[Qn [.box 4 Q42,.box 5 Q42,Qp 4 4,Qp 5 5]]),(232,[Qn [.box 4 Q42,.box 5 Q42,.vp 3 Q42,Qp 4 4,Qp 5 5],Qe 0 [.box 4 Q42,.box 5 Q42,Qp 4 4,Qp 5 5],Qe 4 [.box 4 Q42,.box 5 Q42,.vp 3 Q42,Qp 4 4,Qp 5 5]])],[(8,[.v,.v,.v,.v,.q,.w [0,5],.x,.x]),(9,[.v,.v,.v,.v,.v,.q,.w [0,5],.x,.x])]⟩
def a9i(x:a1q):Option Bool:=(a5c (x.1,x)).bind fun y1=>cond (x.2.2.1==y1.2.2.1) (cond (x.2.2.2.1==y1.2.2.2.1) (cond (x.2.2.2.2.1==y1.2.2.2.2.1) (cond (eqT (.arr 3 (.int .i64)) x.2.2.2.2.2.2.1 y1.2.2.2.2.2.2.1) (cond ((x.2.2.2.2.2.1.length:Int)==(y1.2.2.2.2.2.1.length:Int)) (some ((x.2.2.2.2.2.2.2.1.length:Int)==(y1.2.2.2.2.2.2.2.1.length:Int))) (some false)) (some false)) (some false)) (some false)) (some false)
def c1W:FSem:=⟨[.v Q42],[.v .bool],a9i⟩
def a6j(x:(Int×Int)):Option Bool:=cond (decide (1≤x.1)) (cond (decide (x.1≤4096)) (cond (decide (0≤x.2)) (some (decide (x.2≤x.1))) (some false)) (some false)) (some false)
def c1X:FSem:=⟨[.v QI,.v QI],[.v .bool],a6j⟩
def a5A(s:Z18):Option (Z18 ⊕ (LI×Unit)):=(fun(a:LI)=>cond (decide (s.1<0)) none (cond (decide ((a.length:Int)<(A0n .i64 1 s.1))) (cond (lim ((a02 a)+1)) (some (.inl (s.1,s.2.1,a03 a [s.2.1],()))) none) (some (.inr (a,()))))) s.2.2.1
def a2A(x:(Int×Int×Int)):Option LI:=(show Option Z25 from(a6j (x.2.1,x.2.2)).bind fun y1=>cond (!y1) (some (x.1,x.2.1,x.2.2,true,())) (cond (decide (x.1<0)) (some (x.1,x.2.1,x.2.2,true,())) (some (x.1,x.2.1,x.2.2,decide (x.1 > 8),())))).bind fun z2=>cond z2.2.2.2.1 (some []) (cond (decide (z2.1<0)) none ((show Option Z25 from cond (decide (z2.1<0)) none (cond ((A0n .i64 (A0o .i64 z2.2.1 z2.1) z2.1) != z2.2.1) (some (z2.1,z2.2.2.1,A0o .i64 z2.2.1 z2.1,true,())) (some (z2.1,z2.2.2.1,A0o .i64 z2.2.1 z2.1,decide ((A0o .i64 z2.2.1 z2.1)<z2.2.2.1),())))).bind fun z3=>cond z3.2.2.2.1 (some []) ((y0s a5A (z3.1,z3.2.2.1,[wrap .i64 (z3.2.2.1-z3.2.1)],())).bind fun w4=>some w4.1)))
def b8P:FSem:=⟨[.v QI,.v QI,.v QI],[.o QI],a2A⟩
def d1R:Hints:=⟨[(252,[0,7,.own 8 8 QI],[Qe 0 [.own 8 8 QI]])],[(6,[Qn [0,1,2,.sv 20 .bool]]),(30,[Qn [0,2,7,.sv 33 .bool]])],[]⟩
def a3F(s:Z16):Option Z71:=(fun(a:LI)(b c:Int)=>cond (decide (c<b)) ((m0k a c).bind fun x3=>(show Option Z37 from cond (decide (x3<0)) (some (a,b,c,x3 != 31,())) (cond (decide (x3 > 25)) (some (a,b,c,x3 != 31,())) (some (a,b,c,false,())))).bind fun z4=>cond z4.2.2.2.1 (some (.inr (Sum.inr ((false,()))))) (some (.inl (z4.1,z4.2.1,wrap .i64 (z4.2.2.1+1),())))) (some (.inr (Sum.inl ())))) s.1 s.2.1 s.2.2.1
def a7H(x:(Z6×Int×Int)):Option Bool:=(a2A (x.1.1,x.2.1,x.2.2)).bind fun y1=>(show Option (Bool×Z21)from cond ((y1.length:Int)==0) (some (true,x.1,())) (some ((x.1.2.1.length:Int) != (y1.length:Int),x.1,()))).bind fun z2=>cond z2.1 (some false) ((y0s a3F (z2.2.1.2.1,(z2.2.1.2.1.length:Int),0,())).bind fun w5=>match w5 with |.inl a6=>some true |.inr b7=>some b7.1)
def c1Y:FSem:=⟨[.v Q11,.v QI,.v QI],[.v .bool],a7H⟩
def d1S:Hints:=⟨[(122,[.sv 27 QL,28,29],[Qe 0 [],Qr [.sv 6 .bool]])],[(14,[Qn [.sv 25 .bool,.vp 3 Q11]]),(7833,[Qn [.sv 27 QL,28,29,.sv 42 .bool]])],[]⟩
def a8q(x:b1M):Option Bool:=(show Option b9G from cond (decide (x.2<1)) (some (x.2,true,x.1,())) (cond (decide (x.2 > 4096)) (some (x.2,true,x.1,())) ((a6I (x.1.1,x.1,x.2)).bind fun y1=>cond (!y1) (some (x.2,true,x.1,())) ((a9i x.1).bind fun y2=>some (x.2,!y2,x.1,()))))).bind fun z3=>cond z3.2.1 (some false) ((show Option b9G from cond (decide (z3.2.2.1.2.1<0)) (some (z3.1,true,z3.2.2.1,())) (cond (decide (z3.2.2.1.2.1 > 30)) (some (z3.1,true,z3.2.2.1,())) (cond (z3.2.2.1.1==0) (some (z3.1,z3.2.2.1.2.1 != 0,z3.2.2.1,())) (some (z3.1,false,z3.2.2.1,()))))).bind fun z4=>cond z4.2.1 (some false) ((a3O (z4.2.2.1,z4.1)).bind fun y5=>(show Option (Int×b9G)from cond ((z4.2.2.1.2.2.2.2.2.2.2.2.1.length:Int) != y5) (some (z4.1,y5,true,z4.2.2.1,())) ((a2f z4.2.2.1.2.2.2.2.2.2.2.2.1).bind fun y6=>cond (!y6) (some (z4.1,y5,true,z4.2.2.1,())) ((a2f z4.2.2.1.2.2.2.2.2.2.2.2.2.2.1).bind fun y7=>some (z4.1,y5,!y7,z4.2.2.1,())))).bind fun z8=>cond z8.2.2.1 (some false) ((a5a z8.2.2.2.1.1).bind fun y9=>cond (!y9) (cond ((z8.2.2.2.1.2.2.2.2.2.2.2.2.2.2.1.length:Int)==0) (cond (z8.2.2.2.1.2.2.2.2.2.2.2.2.2.1.1==0) (some ((z8.2.2.2.1.2.2.2.2.2.2.2.2.2.1.2.1.length:Int)==0)) (some false)) (some false)) (cond ((z8.2.2.2.1.2.2.2.2.2.2.2.2.2.2.1.length:Int)==(wrap .i64 (z8.1-z8.2.1))) ((a7H (z8.2.2.2.1.2.2.2.2.2.2.2.2.2.1,z8.1,z8.2.1)).bind fun y10=>some y10) (some false)))))
def b9O:FSem:=⟨[.v Q42,.v QI],[.v .bool],a8q⟩
def d1T:Hints:=⟨[],[(6,[Qn [1,.sv 24 .bool,.vp 2 Q42]]),(14,[Qn [1,.sv 42 .bool,.vp 2 Q42]]),(62,[Qn [1,5,.sv 62 .bool,.vp 2 Q42]])],[]⟩
def b1t(s:Z16):Option Z71:=(fun(a b:Int)=>cond (decide (b<a)) ((m0k s.1 b).bind fun x1=>(show Option Z37 from cond (decide (x1<(-1073741824))) (some (s.1,a,b,true,())) (some (s.1,a,b,decide (x1≥1073741824),()))).bind fun z2=>cond z2.2.2.2.1 (some (.inr (Sum.inr ((false,()))))) (some (.inl (z2.1,z2.2.1,wrap .i64 (z2.2.2.1+1),())))) (some (.inr (Sum.inl ())))) s.2.1 s.2.2.1
def a2s(x:LI):Option Bool:=(y0s b1t (x,(x.length:Int),0,())).bind fun w3=>match w3 with |.inl a4=>some true |.inr b5=>some b5.1
def b9P:FSem:=⟨[.v QL],[.v .bool],a2s⟩
def d1U:Hints:=⟨[(26,[.sv 5 QL,6,7],[Qe 0 [],Qr [.sv 2 .bool]])],[(1689,[Qn [.sv 5 QL,6,7,.sv 16 .bool]])],[]⟩
def a1d(x:(Int×LI)):Option (Int×LI):=(m0k x.2 (wrap .i64 ((x.2.length:Int)-x.1))).bind fun x1=>some (x1,x.2)
def b5V:FSem:=⟨[.v QI,.r false (.b QL)],[.v QI],a1d⟩
def a7T(x:(LI×Int)):Option Int:=cond (x.2==1) ((a1d (1,x.1)).bind fun y1=>some y1.1) (cond (x.2==2) ((a1d (1,x.1)).bind fun y2=>(a1d (2,y2.2)).bind fun y3=>some (wrap .i64 ((wrap .i64 (2*y2.1))-y3.1))) (cond (x.2==3) ((a1d (1,x.1)).bind fun y4=>(a1d (2,y4.2)).bind fun y5=>(a1d (3,y5.2)).bind fun y6=>some (wrap .i64 ((wrap .i64 ((wrap .i64 (3*y4.1))-(wrap .i64 (3*y5.1))))+y6.1))) (cond (x.2==4) ((a1d (1,x.1)).bind fun y7=>(a1d (2,y7.2)).bind fun y8=>(a1d (3,y8.2)).bind fun y9=>(a1d (4,y9.2)).bind fun y10=>some (wrap .i64 ((wrap .i64 ((wrap .i64 ((wrap .i64 (4*y7.1))-(wrap .i64 (6*y8.1))))+(wrap .i64 (4*y9.1))))-y10.1))) (some 0))))
def b8Q:FSem:=⟨[.v QL,.v QI],[.v QI],a7T⟩
def a6v(s:Z61):Option (Z61 ⊕ Z50):=(fun(a b:Int)(c:LI)=>cond (decide (b<a)) ((m0k s.2.1 b).bind fun x5=>(a7T (c,s.1)).bind fun y6=>(a2s [wrap .i64 (x5+y6)]).bind fun y7=>cond (!y7) (some (.inr (Sum.inr ((6,[],()))))) (cond (lim ((a02 c)+1)) (some (.inl (s.1,s.2.1,a,wrap .i64 (b+1),a03 c [wrap .i64 (x5+y6)],()))) none)) (some (.inr (Sum.inl (c,()))))) s.2.2.1 s.2.2.2.1 s.2.2.2.2.1
def a8r(x:Z12):Option (LI×Int):=(show Option Z51 from cond (decide (x.2.2<0)) (some (x.1,x.2.1,x.2.2,true,())) (cond (decide (x.2.2 > 4)) (some (x.1,x.2.1,x.2.2,true,())) (some (x.1,x.2.1,x.2.2,(x.1.length:Int) != x.2.2,())))).bind fun z1=>cond z1.2.2.2.1 (some ([],1)) ((show Option Z51 from(a2s z1.1).bind fun y2=>cond (!y2) (some (z1.1,z1.2.1,z1.2.2.1,true,())) ((a2s z1.2.1).bind fun y3=>some (z1.1,z1.2.1,z1.2.2.1,!y3,()))).bind fun z4=>cond z4.2.2.2.1 (some ([],6)) (cond (lim (a02 z4.1)) ((y0s a6v (z4.2.2.1,z4.2.1,(z4.2.1.length:Int),0,z4.1,())).bind fun w8=>match w8 with |.inl a9=>some (a9.1,0) |.inr b10=>some (b10.2.1,b10.1)) none))
def b9Q:FSem:=⟨[.v QL,.v QL,.v QI],[.o QI,.v QI],a8r⟩
def d1V:Hints:=⟨[(250,[2,.sv 34 QL,35,36,.own 8 8 QI],[Qe 0 [.own 8 8 QI],Qr [7,.own 6 6 QI]])],[(6,[Qn [.sv 0 QL,.sv 1 QL,2,.sv 23 .bool]]),(14,[Qn [.sv 0 QL,.sv 1 QL,2,.sv 31 .bool]])],[]⟩
def a4m(x:Int):Option Bool:=cond (decide (x≥(-1073741824))) (some (decide (x<1073741824))) (some false)
def b8R:FSem:=⟨[.v QI],[.v .bool],a4m⟩
def a2G(s:Z16):Option Z71:=cond (decide (s.2.2.1<s.2.1)) ((m0k s.1 s.2.2.1).bind fun x1=>(a4m x1).bind fun y2=>cond (!y2) (some (.inr (Sum.inr ((false,()))))) (some (.inl (s.1,s.2.1,wrap .i64 (s.2.2.1+1),())))) (some (.inr (Sum.inl ())))
def a2l(x:LI):Option Bool:=(y0s a2G (x,(x.length:Int),0,())).bind fun w3=>match w3 with |.inl a4=>some true |.inr b5=>some b5.1
def b5m:FSem:=⟨[.v QL],[.v .bool],a2l⟩
def d1W:Hints:=⟨[(26,[.sv 5 QL,6,7],[Qe 0 [],Qr [.sv 2 .bool]])],[],[]⟩
def a2H(s:Z75):Option (Z75 ⊕ (Int×Int×Unit)):=(fun(a:LI)(b c:Int)(d:LI)(e f:Int)=>cond (decide (f<e)) ((m0k d f).bind fun x1=>cond (decide ((wrap .i64 ((wrap .i64 ((a.length:Int)-1))-f))<0)) (some (.inr (b,c,()))) ((m0k a (wrap .i64 ((wrap .i64 ((a.length:Int)-1))-f))).bind fun x2=>some (.inl (a,b,wrap .i64 (c+(wrap .i64 (x1*x2))),d,e,wrap .i64 (f+1),())))) (some (.inr (b,c,())))) s.1 s.2.1 s.2.2.1 s.2.2.2.1 s.2.2.2.2.1 s.2.2.2.2.2.1
def a3P(x:Z12):Option Int:=(y0s a2H (x.1,x.2.2,0,x.2.1,(x.2.1.length:Int),0,())).bind fun w3=>cond (decide (w3.1<0)) none (some (A0o .i64 w3.2.1 w3.1))
def b5n:FSem:=⟨[.v QL,.v QL,.v QI],[.v QI],a3P⟩
def d1X:Hints:=⟨[(58,[.sv 0 QL,2,7,.sv 11 QL,12,13],[Qe 0 [2,7]])],[],[]⟩
def a5B(s:(LI×Z61)):Option ((LI×Z61) ⊕ Z50):=(fun(a:LI)(b c:Int)(d:LI)=>cond (decide (c<b)) ((m0k a c).bind fun x6=>(a3P (d,s.1,s.2.1)).bind fun y7=>(a4m (wrap .i64 (y7+x6))).bind fun y8=>cond (!y8) (some (.inr (Sum.inr ((6,[],()))))) (cond (lim ((a02 d)+1)) (some (.inl (s.1,s.2.1,a,b,wrap .i64 (c+1),a03 d [wrap .i64 (y7+x6)],()))) none)) (some (.inr (Sum.inl (d,()))))) s.2.2.1 s.2.2.2.1 s.2.2.2.2.1 s.2.2.2.2.2.1
def a5S(x:(LI×Z12)):Option (LI×Int):=(show Option (LI×Z51)from(a3N (x.2.2.1,x.2.2.2)).bind fun y1=>cond (!y1) (some (x.1,x.2.1,x.2.2.1,x.2.2.2,true,())) (some (x.1,x.2.1,x.2.2.1,x.2.2.2,(x.1.length:Int) != (x.2.2.1.length:Int),()))).bind fun z2=>cond z2.2.2.2.2.1 (some ([],1)) ((show Option (LI×Z51)from(a2l z2.1).bind fun y3=>cond (!y3) (some (z2.1,z2.2.1,z2.2.2.1,z2.2.2.2.1,true,())) ((a2l z2.2.1).bind fun y4=>some (z2.1,z2.2.1,z2.2.2.1,z2.2.2.2.1,!y4,()))).bind fun z5=>cond z5.2.2.2.2.1 (some ([],6)) (cond ((decide (0≤(wrap .i64 ((z5.1.length:Int)+(z5.2.1.length:Int)))))&&(lim (a00 (wrap .i64 ((z5.1.length:Int)+(z5.2.1.length:Int)))))) (cond (lim (0+(a02 z5.1))) ((y0s a5B (z5.2.2.1,z5.2.2.2.1,z5.2.1,(z5.2.1.length:Int),0,a03 [] z5.1,())).bind fun w9=>match w9 with |.inl a10=>some (a10.1,0) |.inr b11=>some (b11.2.1,b11.1)) none) none))
def b8S:FSem:=⟨[.v QL,.v QL,.v QL,.v QI],[.o QI,.v QI],a5S⟩
def d1Y:Hints:=⟨[(506,[.sv 2 QL,3,.sv 42 QL,43,44,.own 10 10 QI],[Qe 0 [.own 10 10 QI],Qr [9,.own 8 8 QI]])],[(6,[Qn [.sv 0 QL,.sv 1 QL,.sv 2 QL,3,.sv 24 .bool]]),(14,[Qn [.sv 0 QL,.sv 1 QL,.sv 2 QL,3,.sv 32 .bool]])],[]⟩
def a6k(x:Int):Option Bool:=cond (decide (x≥(-1073741824))) (some (decide (x<1073741824))) (some false)
def c1Z:FSem:=⟨[.v QI],[.v .bool],a6k⟩
def a3p(s:Z16):Option Z71:=cond (decide (s.2.2.1<s.2.1)) ((m0k s.1 s.2.2.1).bind fun x1=>(a6k x1).bind fun y2=>cond (!y2) (some (.inr (Sum.inr ((false,()))))) (some (.inl (s.1,s.2.1,wrap .i64 (s.2.2.1+1),())))) (some (.inr (Sum.inl ())))
def a3G(x:LI):Option Bool:=(y0s a3p (x,(x.length:Int),0,())).bind fun w3=>match w3 with |.inl a4=>some true |.inr b5=>some b5.1
def b7i:FSem:=⟨[.v QL],[.v .bool],a3G⟩
def d1Z:Hints:=⟨[(26,[.sv 5 QL,6,7],[Qe 0 [],Qr [.sv 2 .bool]])],[],[]⟩
def a3q(s:(LI×(Int×Int×Z19))):Option ((LI×(Int×Int×Z19)) ⊕ (Int×Unit)):=(fun(a b c:Int)(d:LI)(e:Int)=>cond (decide (e<3)) ((m0k d e).bind fun x1=>cond (decide ((wrap .i64 ((wrap .i64 ((wrap .i64 (a-b))-1))+e))≥0)) ((m0k s.1 (wrap .i64 ((wrap .i64 ((wrap .i64 (a-b))-1))+e))).bind fun x2=>some (.inl (s.1,a,b,wrap .i64 (c+(wrap .i64 (x1*x2))),d,wrap .i64 (e+1),()))) (some (.inl (s.1,a,b,c,d,wrap .i64 (e+1),())))) (some (.inr (c,())))) s.2.1 s.2.2.1 s.2.2.2.1 s.2.2.2.2.1 s.2.2.2.2.2.1
def a3H(x:(LI×Z3)):Option Int:=(y0s a3q (x.1,x.2.1,x.2.2.1,0,x.2.2.2,0,())).bind fun w3=>some (A0o .i64 w3.1 6)
def b7j:FSem:=⟨[.v QL,.v QI,.v QI,.v (.arr 3 QI)],[.v QI],a3H⟩
def d2a:Hints:=⟨[(58,[.sv 0 QL,1,2,9,.sv 13 (.arr 3 QI),14],[Qe 0 [9]])],[],[]⟩
def a7c(s:Z86):Option (Z86 ⊕ Z50):=(fun(a b:Int)(c d:LI)=>cond (decide (b<a)) ((m0k s.2.1 b).bind fun x3=>(a3H (c,b,s.1,d)).bind fun y4=>(a6k (wrap .i64 (x3+y4))).bind fun y5=>cond (!y5) (some (.inr (Sum.inr ((6,[],()))))) (cond (lim ((a02 c)+1)) (some (.inl (s.1,s.2.1,a,wrap .i64 (b+1),a03 c [wrap .i64 (x3+y4)],d,()))) none)) (some (.inr (Sum.inl (c,()))))) s.2.2.1 s.2.2.2.1 s.2.2.2.2.1 s.2.2.2.2.2.1
def a9j(x:(LI×(Int×LI))):Option (LI×Int):=(a7b (x.2.1,x.2.2)).bind fun y1=>cond (!y1) (some ([],1)) ((a3G x.1).bind fun y2=>cond (!y2) (some ([],6)) (cond ((decide (0≤(x.1.length:Int)))&&(lim (a00 (x.1.length:Int)))) ((y0s a7c (x.2.1,x.1,(x.1.length:Int),0,[],x.2.2,())).bind fun w6=>match w6 with |.inl a7=>some (a7.1,0) |.inr b8=>some (b8.2.1,b8.1)) none))
def c2a:FSem:=⟨[.v QL,.v QI,.v (.arr 3 QI)],[.o QI,.v QI],a9j⟩
def d2b:Hints:=⟨[(250,[1,.sv 22 QL,23,24,.own 8 8 QI,.vp 5 (.arr 3 QI)],[Qe 0 [.own 8 8 QI],Qr [7,.own 6 6 QI]])],[],[]⟩
def a5d(x:Int):Option Bool:=cond (decide (x≥(-1073741824))) (some (decide (x<1073741824))) (some false)
def b3T:FSem:=⟨[.v QI],[.v .bool],a5d⟩
def a2Y(s:Z16):Option Z71:=cond (decide (s.2.2.1<s.2.1)) ((m0k s.1 s.2.2.1).bind fun x1=>(a5d x1).bind fun y2=>cond (!y2) (some (.inr (Sum.inr ((false,()))))) (some (.inl (s.1,s.2.1,wrap .i64 (s.2.2.1+1),())))) (some (.inr (Sum.inl ())))
def a4u(x:LI):Option Bool:=(y0s a2Y (x,(x.length:Int),0,())).bind fun w3=>match w3 with |.inl a4=>some true |.inr b5=>some b5.1
def b1u:FSem:=⟨[.v QL],[.v .bool],a4u⟩
def d2c:Hints:=⟨[(26,[.sv 5 QL,6,7],[Qe 0 [],Qr [.sv 2 .bool]])],[],[]⟩
def a7I(x:(Int×Int×Unit)):Option (Z27×Int):=(a5R x).bind fun y1=>cond (!y1) none (cond ((decide (0≤x.1))&&((decide (x.1≤x.1))&&(lim (a00 x.1)))) (cond ((decide (0≤x.1))&&((decide (x.1≤x.1))&&(lim (a00 x.1)))) (some ((x.2.1,a01 (a00 x.1) 0,a01 (a00 x.1) 0,()),0)) none) none)
def b4P:FSem:=⟨[.v Q3],[.b Q17,.v QI],a7I⟩
def d2d:Hints:=⟨[],[],[(3,[.v,.v,.v,.v,.q,.v,.v,.q,.x,.x,.x,.x])]⟩
def a4v(x:Int):Option Int:=some (v0s (v0r x (-1073741824)) 1073741823)
def b5W:FSem:=⟨[.v QI],[.v QI],a4v⟩
def a2E(s:Z90):Option (Z90 ⊕ Z66):=(fun(a:Int)(b:Z27)=>cond (decide (a<s.2.1)) (cond ((decide (0≤a))&&(decide (a<(b.2.1.length:Int)))) (cond ((decide (0≤a))&&(decide (a<(b.2.2.1.length:Int)))) (some (.inl (wrap .i64 (s.1+(wrap .i64 ((a04 b.2.1 (a00 a) 0)*(a04 b.2.2.1 (a00 a) 0)))),s.2.1,wrap .i64 (a+1),b,()))) none) none) (some (.inr (s.1,b,())))) s.2.2.1 s.2.2.2.1
def a1M(x:Z27):Option Z44:=(y0s a2E (0,(x.2.1.length:Int),0,x,())).bind fun w1=>(a4v (A0o .i64 w1.1 16)).bind fun y2=>some (y2,w1.2.1)
def a8s:FSem:=⟨[.r false (.b Q17)],[.v QI],a1M⟩
def d2e:Hints:=⟨[(58,[3,10,11,.box pinned Q17,Qp 0 pinned,.ref 9 pinned [.snd,.fst]],[Qe 0 [3,.box pinned Q17]])],[],[]⟩
def a2b(s:(Int×Z90)):Option ((Int×Z90) ⊕ Z66):=(fun(a b c d:Int)(e:Z27)=>cond (decide (d<c)) (cond ((decide (0≤d))&&(decide (d<(e.2.2.1.length:Int)))) (cond ((decide (0≤d))&&(decide (d<(e.2.1.length:Int)))) ((show Option (Int×Int×Int×Z90)from cond (decide ((a04 e.2.2.1 (a00 d) 0) > 0)) (some (a,b,d,wrap .i64 ((a04 e.2.1 (a00 d) 0)+b),c,d,e,())) (cond (decide ((a04 e.2.2.1 (a00 d) 0)<0)) (some (a,b,d,wrap .i64 ((a04 e.2.1 (a00 d) 0)-b),c,d,e,())) (some (a,b,d,a04 e.2.1 (a00 d) 0,c,d,e,())))).bind fun z4=>cond ((decide (0≤z4.2.2.1))&&(decide (z4.2.2.1<(z4.2.2.2.2.2.2.1.2.1.length:Int)))) (some (.inl (z4.1,z4.2.1,z4.2.2.2.2.1,wrap .i64 (z4.2.2.2.2.2.1+1),(z4.2.2.2.2.2.2.1.1,a05 z4.2.2.2.2.2.2.1.2.1 (a00 z4.2.2.1) (v0s (v0r z4.2.2.2.1 (-1048576)) 1048576),z4.2.2.2.2.2.2.1.2.2),()))) none) none) none) (some (.inr (a,e,())))) s.1 s.2.1 s.2.2.1 s.2.2.2.1 s.2.2.2.2.1
def a2I(x:(Z27×Int)):Option Z27:=(a4v x.2).bind fun y1=>(show Option Z80 from(a1M x.1).bind fun y2=>cond (decide (y1 > y2.1)) (cond (decide (y2.2.1<0)) none (some (y1,A0n .i64 1 y2.2.1,y2.2,()))) (cond (decide (y1<y2.1)) (cond (decide (y2.2.1<0)) none (some (y1,wrap .i64 (0-(A0n .i64 1 y2.2.1)),y2.2,()))) (some (y1,0,y2.2,())))).bind fun z3=>(y0s a2b (z3.1,z3.2.1,(z3.2.2.1.2.2.1.length:Int),0,z3.2.2.1,())).bind fun w5=>cond (decide (1≤(w5.2.1.2.2.1.length:Int))) (cond (decide (0<(a02 (p0h w5.2.1.2.2.1 1 ((a02 w5.2.1.2.2.1)-1) w5.2.1.2.2.1):Int))) (some (w5.2.1.1,w5.2.1.2.1,a05 (p0h w5.2.1.2.2.1 1 ((a02 w5.2.1.2.2.1)-1) w5.2.1.2.2.1) 0 w5.1,w5.2.1.2.2.2)) none) none
def a8Q:FSem:=⟨[.r false (.b Q17),.v QI],[],a2I⟩
def d2f:Hints:=⟨[(122,[1,4,36,37,.box pinned Q17,Qp 0 pinned,.ref 35 pinned [.snd,.snd,.fst]],[Qe 1 [1,.box pinned Q17,Qp 0 pinned]])],[(7,[Qn [1,4,.box pinned Q17,Qp 0 pinned]]),(15667,[Qn [1,4,6,8,36,37,.box pinned Q17,Qp 0 pinned,.ref 35 pinned [.snd,.snd,.fst]]])],[(17,[.p,.p,.q,.q,.q,.p,.p,.q,.q,.x])]⟩
def a4w(s:(Int×(Int×(LI×Z87)))):Option ((Int×(Int×(LI×Z87))) ⊕ (Z28 ⊕ Z28)):=(fun(a:Int)(b:LI)(c:Int)(d:LI)=>cond (decide (a<s.1)) (cond ((decide (0≤a))&&(decide (a<(d.length:Int)))) ((a1M s.2.2.2.2.2.1).bind fun y6=>(a5d (wrap .i64 (y6.1+(a04 d (a00 a) 0)))).bind fun y7=>cond (!y7) (some (.inr (Sum.inr (([],6,d,()))))) ((a2I (y6.2,wrap .i64 (y6.1+(a04 d (a00 a) 0)))).bind fun y8=>cond ((decide (0≤a))&&(decide (a<(d.length:Int)))) (some (.inl (s.1,wrap .i64 (a+1),b,c,a05 d (a00 a) (wrap .i64 (y6.1+(a04 d (a00 a) 0))),y8,()))) none)) none) (some (.inr (Sum.inl (b,c,d,()))))) s.2.1 s.2.2.1 s.2.2.2.1 s.2.2.2.2.1
def a6w(k:Int)(v:(Int×Int×Unit))(s:(Z5×Z28)):Option ((Z5×Z28) ⊕ (Ex×Z5×Z28)):=(a7I v).bind fun y4=>cond (y4.2 != 0) (some (.inr (.ret,s.1,[],y4.2,s.2.2.2.1,()))) ((y0s a4w ((s.2.2.2.1.length:Int),0,s.2.1,s.2.2.1,s.2.2.2.1,y4.1,())).bind fun w9=>match w9 with |.inl a10=>some (.inl (s.1,a10.1,a10.2.1,a10.2.2.1,())) |.inr b11=>some (.inr (.ret,s.1,b11.1,b11.2.1,b11.2.2.1,())))
def a8t(x:(LI×Z5)):Option (LI×Int):=(a6i x.2).bind fun y1=>cond (!y1) (some ([],1)) ((a4u x.1).bind fun y2=>cond (!y2) (some ([],6)) ((a0Z x.1).bind fun y3=>cond (lim (a02 x.2)) ((l0f a6w x.2 (a02 x.2) (x.2,[],0,y3,())).bind fun w12=>match w12 with |.inl a13=>some (a13.2.2.2.1,0) |.inr (.normal,a14)=>some (a14.2.2.2.1,0) |.inr (.exit e15,a14)=>(cond (e15==0) (some (a14.2.2.2.1,0)) none) |.inr (.ret,a14)=>some (a14.2.1,a14.2.2.1)) none))
def a8u:FSem:=⟨[.v QL,.v (.list false Q3)],[.v QL,.v QI],a8t⟩
def d2g:Hints:=⟨[(8046,[35,36,.box 1001004 QL,.box 1001005 QI,.box 1001006 (.list true QI),.box 1028 Q17,Qp 4 1001004,Qp 5 1001005,Qp 6 1001006,Qp 9 1028,.ref 34 1001006 []],[Qe 2 [.box 1001004 QL,.box 1001005 QI,.box 1001006 (.list true QI),Qp 4 1001004,Qp 5 1001005,Qp 6 1001006],Qr [.box 1001004 QL,.box 1001005 QI,.box 1001006 (.list true QI),Qp 4 1001004,Qp 5 1001005,Qp 6 1001006]])],[],[]⟩
def c7i:Cx:=b3N [(65,a1D),(150,b4O),(191,b1u),(193,b4P),(194,a8s),(195,b3T),(196,a8Q)] [(6,.list true QI)] 15875 72057594037927936
def c8t:HintR:=⟨22,Q3,192,206,[4,5,6],[.sv 22 (.list false Q3),.box 1001004 QL,.box 1001005 QI,.box 1001006 (.list true QI),.ptr 4 1001004 [],.ptr 5 1001005 [],.ptr 6 1001006 []]⟩
theorem c9w(x):z0h c7i d2g c8t Tryz.f158 a8u.ps a8u.rs x=a8u.F x:=by kernel_rfl
def a4n(x:Int):Option Bool:=cond (decide ((-1073741824)≤x)) (some (decide (x<1073741824))) (some false)
def b8T:FSem:=⟨[.v QI],[.v .bool],a4n⟩
def a7d(s:Z61):Option (Z61 ⊕ Z50):=(fun(a:Int)(b:LI)(c d:Int)(e:LI)=>cond (decide (d<c)) ((m0k b d).bind fun x2=>(show Option (Int×(Int×(LI×(Int×Int×Z9))))from(a4n x2).bind fun y3=>cond (!y3) (some (a,x2,b,c,d,true,e,())) (cond (decide (a<0)) none ((a4n (A0n .i64 x2 a)).bind fun y4=>some (a,x2,b,c,d,!y4,e,())))).bind fun z5=>cond z5.2.2.2.2.2.1 (some (.inr (Sum.inr ((6,[],()))))) (cond (decide (z5.1<0)) none (cond (lim ((a02 z5.2.2.2.2.2.2.1)+1)) (some (.inl (z5.1,z5.2.2.1,z5.2.2.2.1,wrap .i64 (z5.2.2.2.2.1+1),a03 z5.2.2.2.2.2.2.1 [A0n .i64 z5.2.1 z5.1],()))) none))) (some (.inr (Sum.inl (e,()))))) s.1 s.2.1 s.2.2.1 s.2.2.2.1 s.2.2.2.2.1
def a7J(x:(LI×Int)):Option (LI×Int):=(show Option Z20 from cond (decide (x.2<0)) (some (x.1,x.2,true,())) (some (x.1,x.2,decide (x.2 > 30),()))).bind fun z1=>cond z1.2.2.1 (some ([],1)) ((y0s a7d (z1.2.1,z1.1,(z1.1.length:Int),0,[],())).bind fun w6=>match w6 with |.inl a7=>some (a7.1,0) |.inr b8=>some (b8.2.1,b8.1))
def c2b:FSem:=⟨[.v QL,.v QI],[.o QI,.v QI],a7J⟩
def d2h:Hints:=⟨[(122,[1,.sv 15 QL,16,17,.own 6 6 QI],[Qe 0 [.own 6 6 QI],Qr [5,.own 4 4 QI]])],[(6,[Qn [.sv 0 QL,1,.sv 14 .bool]]),(15666,[Qn [1,8,.sv 15 QL,16,17,.sv 30 .bool,.own 6 6 QI]])],[]⟩
def a5T(s:(Int×(Int×(LI×b2F)))):Option ((Int×(Int×(LI×b2F))) ⊕ (LI×Unit)):=cond (decide (s.2.1<s.1)) ((m0k s.2.2.2.1.2.2.2.2.2.2.2.2.1 0).bind fun x1=>cond (lim ((a02 s.2.2.1)+1)) (some (.inl (s.1,wrap .i64 (s.2.1+1),a03 s.2.2.1 [x1],s.2.2.2.1,()))) none) (some (.inr (s.2.2.1,())))
def a9X(x:b1M):Option (LI×Int):=(show Option ((LI×(Int×b2F)) ⊕ Z6)from cond (x.1.1==0) ((y0s a5T (x.2,0,[],x.1,())).bind fun w2=>some (Sum.inr ((0,w2.1,())))) (cond (x.1.1==1) (some (Sum.inl (x.1.2.2.2.2.2.2.2.2.1,0,x.1,()))) (cond (x.1.1==2) ((a8r (x.1.2.2.2.2.2.2.2.2.1,x.1.2.2.2.2.2.2.2.2.2.2.1,x.1.2.2.1)).bind fun y3=>some (Sum.inl (y3.1,y3.2,x.1,()))) (cond (x.1.1==3) ((a5S (x.1.2.2.2.2.2.2.2.2.1,x.1.2.2.2.2.2.2.2.2.2.2.1,x.1.2.2.2.2.2.1,x.1.2.2.2.1)).bind fun y4=>some (Sum.inl (y4.1,y4.2,x.1,()))) (cond (x.1.1==4) ((a5S (x.1.2.2.2.2.2.2.2.2.1,x.1.2.2.2.2.2.2.2.2.2.2.1,x.1.2.2.2.2.2.1,x.1.2.2.2.1)).bind fun y5=>cond (y5.2==0) ((a9j (y5.1,x.1.2.2.2.2.1,x.1.2.2.2.2.2.2.1)).bind fun y6=>some (Sum.inl (y6.1,y6.2,x.1,()))) (some (Sum.inl (y5.1,y5.2,x.1,())))) (cond (x.1.1==5) ((a8t (x.1.2.2.2.2.2.2.2.2.2.2.1,x.1.2.2.2.2.2.2.2.1)).bind fun y7=>some (Sum.inl (y7.1,y7.2,x.1,()))) (some (Sum.inl ([],0,x.1,()))))))))).bind fun z8=>match z8 with |.inl a9=>(cond (a9.2.1 != 0) (some ([],a9.2.1)) ((a7J (a9.1,a9.2.2.1.2.1)).bind fun y11=>some (y11.1,y11.2))) |.inr b10=>some (b10.2.1,b10.1)
def c3F:FSem:=⟨[.v Q42,.v QI],[.o QI,.v QI],a9X⟩
def d2i:Hints:=⟨[(3922,[12,13,.own 6 6 QI,.vp 2 Q42],[Qe 1 [.own 6 6 QI]])],[(15,[Qn [.sv 6 QL,7,.vp 2 Q42],Qr [5,.own 4 6 QI]])],[]⟩
def a9E(x:b1M):Option (LI×Int):=(a8q (x.1,x.2)).bind fun y1=>cond (!y1) (some ([],1)) ((a9X (x.1,x.2)).bind fun y2=>cond (y2.2 != 0) (some ([],1)) (some (y2.1,0)))
def c5d:FSem:=⟨[.v Q42,.v QI],[.o QI,.v QI],a9E⟩
def a7K(x:Int):Option Bool:=cond (decide ((-1073741824)≤x)) (some (decide (x<1073741824))) (some false)
def c2c:FSem:=⟨[.v QI],[.v .bool],a7K⟩
def a3I(s:((List LI)×((List LI)×Z52))):Option (((List LI)×((List LI)×Z52)) ⊕ (((List LI)×Z29) ⊕ (Bool×Unit))):=(fun(a b:Int)(c:LI)(d e:Int)=>cond (decide (e<d)) ((m0k c e).bind fun x5=>(a7K x5).bind fun y6=>cond (!y6) (some (.inr (Sum.inr ((false,()))))) (some (.inl (s.1,s.2.1,a,b,c,d,wrap .i64 (e+1),())))) (some (.inr (Sum.inl (s.1,s.2.1,a,b,()))))) s.2.2.1 s.2.2.2.1 s.2.2.2.2.1 s.2.2.2.2.2.1 s.2.2.2.2.2.2.1
def a3J(s:((List LI)×Z29)):Option (((List LI)×Z29) ⊕ Z0):=(fun(a b:Int)=>cond (decide (b<a)) ((m0k s.2.1 b).bind fun x3=>(m0k s.1 0).bind fun x4=>cond ((x3.length:Int) != (x4.length:Int)) (some (.inr (Sum.inr ((false,()))))) ((y0s a3I (s.1,s.2.1,a,b,x3,(x3.length:Int),0,())).bind fun w7=>match w7 with |.inl a8=>some (.inl (a8.1,a8.2.1,a8.2.2.1,wrap .i64 (a8.2.2.2.1+1),())) |.inr b9=>some (.inr (Sum.inr ((b9.1,())))))) (some (.inr (Sum.inl ())))) s.2.2.1 s.2.2.2.1
def a6l(x:(List LI)):Option Bool:=(show Option ((List LI)×(Bool×Unit))from cond (decide ((x.length:Int)<1)) (some (x,true,())) (cond (decide ((x.length:Int) > 8)) (some (x,true,())) ((m0k x 0).bind fun x1=>some (x,decide ((x1.length:Int) > 4096),())))).bind fun z2=>cond z2.2.1 (some false) ((y0s a3J (z2.1,z2.1,(z2.1.length:Int),0,())).bind fun w10=>match w10 with |.inl a11=>some true |.inr b12=>some b12.1)
def b4Q:FSem:=⟨[.v (.list false QL)],[.v .bool],a6l⟩
def H87:Hints:=⟨[(58,[.sv 0 (.list false QL),.sv 22 (.list false QL),23,24],[Qe 0 [],Qr [.sv 2 .bool]]),(29902,[.sv 0 (.list false QL),.sv 22 (.list false QL),23,24,.sv 35 QL,36,37],[Qe 2 [.sv 0 (.list false QL),.sv 22 (.list false QL),23,24],Qr [.sv 2 .bool]])],[(6,[Qn [.sv 0 (.list false QL),.sv 21 .bool]])],[]⟩
def a5C(s:((List LI)×Z30)):Option (((List LI)×Z30) ⊕ Z2):=cond (decide (s.2.2.1<s.2.1)) ((m0k s.1 s.2.2.1).bind fun x1=>(a0Z x1).bind fun y2=>cond (lim ((a02 s.2.2.2.1)+(a02 (a05 ([[]]:List LI) 0 y2)))) (some (.inl (s.1,s.2.1,wrap .i64 (s.2.2.1+1),a03 s.2.2.2.1 (a05 ([[]]:List LI) 0 y2),()))) none) (some (.inr (s.2.2.2.1,())))
def a5U(x:(List LI)):Option (List LI):=(y0s a5C (x,(x.length:Int),0,([]:(List LI)),())).bind fun w3=>some w3.1
def b3o:FSem:=⟨[.v (.list false QL)],[.o (.list true QI)],a5U⟩
def H89:Hints:=⟨[(58,[.sv 6 (.list false QL),7,8,.own 3 3 (.list true QI)],[Qe 0 [.own 3 3 (.list true QI)]])],[],[]⟩
def a3f(s:(Int×(Int×(Int×((List LI)×(Z8×Int×Unit)))))):Option ((Int×(Int×(Int×((List LI)×(Z8×Int×Unit))))) ⊕ (Z2 ⊕ (Bool×Z2))):=(fun(a:Int)(b:List LI)(c:Z8)(d:Int)=>cond (decide (a<s.2.1)) (cond ((decide (0≤a))&&(decide (a<((a02 (a04 b (a00 d) []):Nat):Int)))) (cond ((decide (0≤c.2.1))&&(decide (c.2.1<(b.length:Int)))) (cond ((decide (0≤a))&&(decide (a<((a02 (a04 b (a00 c.2.1) []):Nat):Int)))) ((a7K (wrap .i64 ((a04 (a04 b (a00 c.2.1) []) (a00 a) 0)+(wrap .i64 (s.1*(A0o .i64 (wrap .i64 (c.2.2.1*(a04 (a04 b (a00 d) []) (a00 a) 0))) 8)))))).bind fun y1=>cond (!y1) (some (.inr (Sum.inr ((false,b,()))))) (cond ((decide (0≤c.2.1))&&(decide (c.2.1<(b.length:Int)))) (cond ((decide (0≤a))&&(decide (a<((a02 (a04 b (a00 c.2.1) []):Nat):Int)))) (some (.inl (s.1,s.2.1,wrap .i64 (a+1),a05 b (a00 c.2.1) (a05 (a04 b (a00 c.2.1) []) (a00 a) (wrap .i64 ((a04 (a04 b (a00 c.2.1) []) (a00 a) 0)+(wrap .i64 (s.1*(A0o .i64 (wrap .i64 (c.2.2.1*(a04 (a04 b (a00 d) []) (a00 a) 0))) 8)))))),c,((a00 d:Nat):Int),()))) none) none)) none) none) none) (some (.inr (Sum.inl (b,()))))) s.2.2.1 s.2.2.2.1 s.2.2.2.2.1 s.2.2.2.2.2.1
def a6J(x:((List LI)×(Z8×Int))):Option (Bool×(List LI)):=cond ((decide (0≤x.2.1.1))&&(decide (x.2.1.1<(x.1.length:Int)))) ((y0s a3f (x.2.2,((a02 (a04 x.1 (a00 x.2.1.1) []):Nat):Int),0,x.1,x.2.1,((a00 x.2.1.1:Nat):Int),())).bind fun w2=>match w2 with |.inl a3=>some (true,a3.1) |.inr b4=>some (b4.1,b4.2.1)) none
def b3U:FSem:=⟨[.r false (.o (.list true QI)),.v Q12,.v QI],[.v .bool],a6J⟩
def H90:Hints:=⟨[(26,[2,15,16,.own 0 pinned (.list true QI),.vp 4 Q12,.rfi 14 pinned],[Qe 0 [.own 0 pinned (.list true QI)],Qr [.sv 6 .bool,.own 0 pinned (.list true QI)]])],[],[(4,[.q,.v,.v,.q,.q,.v,.q,.q,.v,.v,.v,.v,.v,.v,.v,.x,.x])]⟩
def a5e(k:Int)(v:Z8)(s:(Z17×((List LI)×Z13))):Option ((Z17×((List LI)×Z13)) ⊕ (Ex×(Z17×((List LI)×Z13)))):=(a6J (s.2.2.2.1,v,(-1))).bind fun y5=>cond (!y5.1) (some (.inr (.ret,s.1,([]:(List LI)),6,y5.2,()))) (some (.inl (s.1,s.2.1,s.2.2.1,y5.2,())))
def a9k(x:((List LI)×Z17)):Option ((List LI)×Int):=(show Option ((List LI)×(Z17×Bool×Z15))from(a6l x.1).bind fun y1=>cond (!y1) (some (x.1,x.2,true,([]:(List LI)),0,())) ((a7a (x.2,(x.1.length:Int))).bind fun y2=>some (x.1,x.2,!y2,([]:(List LI)),0,()))).bind fun z3=>cond z3.2.2.1 (some (([]:(List LI)),1)) ((a5U z3.1).bind fun y4=>cond (lim (a02 z3.2.1)) ((l0f a5e z3.2.1 (a02 z3.2.1) (z3.2.1,z3.2.2.2.1,z3.2.2.2.2.1,y4,())).bind fun w6=>match w6 with |.inl a7=>some (a7.2.2.2.1,0) |.inr (.normal,a8)=>some (a8.2.2.2.1,0) |.inr (.exit e9,a8)=>(cond (e9==0) (some (a8.2.2.2.1,0)) none) |.inr (.ret,a8)=>some (a8.2.1,a8.2.2.1)) none)
def a9l:FSem:=⟨[.v (.list false QL),.v (.list false Q12)],[.v (.list false QL),.v QI],a9k⟩
def H64:Hints:=⟨[],[(6,[Qn [.sv 0 (.list false QL),.sv 1 (.list false Q12),.sv 18 .bool,.box 4 (.list false QL),.box 5 QI,Qp 4 4,Qp 5 5]])],[]⟩
def c8u:Cx:=b3N [(87,b4Q),(88,b5U),(89,b3o),(90,b3U)] [(6,.list true (.list true QI))] 3 536870912
def R64:HintR:=⟨21,Q12,119,160,[4,5,6],[.sv 21 (.list false Q12),.box 1001004 (.list false QL),.box 1001005 QI,.box 1001006 (.list true (.list true QI)),.ptr 4 1001004 [],.ptr 5 1001005 [],.ptr 6 1001006 []]⟩
theorem d2j(x):z0h c8u H64 R64 Tryz.f64 a9l.ps a9l.rs x=a9l.F x:=by kernel_rfl
def a3Q(s:(a8R×(Int×(Int×((List LI)×b9H))))):Option ((a8R×(Int×(Int×((List LI)×b9H)))) ⊕ (((List LI)×b9H) ⊕ Z48)):=(fun(a:Int)(b:List LI)(c:Z13)(d:a1C)=>cond (decide (a<s.2.1)) ((m0k s.1 a).bind fun x3=>(a9E (x3,d.2.1)).bind fun y4=>cond (y4.2 != 0) (some (.inr (Sum.inr ((1,(0,([]:(List LI)),()),()))))) (cond (lim ((a02 b)+1)) (some (.inl (s.1,s.2.1,wrap .i64 (a+1),a03 b ([y4.1]:List LI),c,d,()))) none)) (some (.inr (Sum.inl (b,c,d,()))))) s.2.2.1 s.2.2.2.1 s.2.2.2.2.1 s.2.2.2.2.2.1
def a1t(x:a1C):Option Z31:=(show Option (Bool×b9H)from(a5P x).bind fun y1=>cond (!y1) (some (true,(0,([]:(List LI)),()),x,())) (some ((x.2.2.2.2.1.length:Int) != x.2.2.1.2.1,(0,([]:(List LI)),()),x,()))).bind fun z2=>cond z2.1 (some ((0,([]:(List LI)),()),1)) (cond ((decide (0≤(z2.2.2.1.2.2.2.2.1.length:Int)))&&(lim (a00 (z2.2.2.1.2.2.2.2.1.length:Int)))) ((y0s a3Q (z2.2.2.1.2.2.2.2.1,(z2.2.2.1.2.2.2.2.1.length:Int),0,([]:(List LI)),z2.2.1,z2.2.2.1,())).bind fun w5=>match w5 with |.inl a6=>((a9k (a6.1,a6.2.2.1.2.2.2.1)).bind fun y8=>cond (y8.2 != 0) (some ((0,([]:(List LI)),()),1)) ((a2P (a6.2.2.1.2.2.1.2.2.1,y8.1,())).bind fun y9=>cond (!y9) (some ((0,([]:(List LI)),()),1)) (some ((a6.2.2.1.2.2.1.2.2.1,y8.1,()),0)))) |.inr b7=>some (b7.2.1,b7.1)) none)
def b8U:FSem:=⟨[.v Q60],[.v Q15,.v QI],a1t⟩
def H25:Hints:=⟨[(122,[.sv 30 (.list false Q42),31,32,.own 4 4 QL,.box 2 Q15,.vp 1 Q60,Qp 2 2],[Qe 0 [.own 4 4 QL,.box 2 Q15,.vp 1 Q60,Qp 2 2],Qr [3,.box 2 Q15,Qp 2 2]])],[(6,[Qn [.sv 23 .bool,.box 2 Q15,.vp 1 Q60,Qp 2 2]])],[]⟩
def a3A(x:a1C):Option Bool:=(a1t x).bind fun y1=>some (y1.2==0)
def c2d:FSem:=⟨[.v Q60],[.v .bool],a3A⟩
def a7A(s:Z47):Option (Z47 ⊕ Z32):=(fun(a:Int)(b:LI)(c d e:Int)=>cond (decide (e<8)) (cond ((A0o .u16 a 15)==1) (some (.inl (bits .u16 .xor (A0n .u16 a 1) 32773,b,c,d,wrap .i64 (e+1),()))) (some (.inl (A0n .u16 a 1,b,c,d,wrap .i64 (e+1),())))) (some (.inr (a,b,c,d,())))) s.1 s.2.1 s.2.2.1 s.2.2.2.1 s.2.2.2.2.1
def a4T(s:Z32):Option Z68:=(fun(a b:Int)=>cond (decide (b<a)) ((m0k s.2.1 b).bind fun x1=>(y0s a7A (bits .u16 .xor s.1 (A0n .u16 (wrap .u16 x1) 8),s.2.1,a,b,0,())).bind fun w2=>some (.inl (w2.1,w2.2.1,w2.2.2.1,wrap .i64 (w2.2.2.2.1+1),()))) (some (.inr (s.1,())))) s.2.2.1 s.2.2.2.1
def a5f(x:LI):Option Int:=(y0s a4T (0,x,(x.length:Int),0,())).bind fun w3=>some w3.1
def b7k:FSem:=⟨[.v QB],[.v (.int .u16)],a5f⟩
def H55:Hints:=⟨[(58,[.sv 3 (.int .u16),.sv 7 QB,8,9],[Qe 0 [.sv 3 (.int .u16)]]),(29902,[.sv 3 (.int .u16),.sv 7 QB,8,9,18],[Qe 2 [.sv 3 (.int .u16),.sv 7 QB,8,9]])],[],[]⟩
def a8v(s:Z47):Option (Z47 ⊕ Z32):=(fun(a:Int)(b:LI)(c d e:Int)=>cond (decide (e<8)) (cond ((A0o .u8 a 7)==1) (some (.inl (bits .u8 .xor (A0n .u8 a 1) 7,b,c,d,wrap .i64 (e+1),()))) (some (.inl (A0n .u8 a 1,b,c,d,wrap .i64 (e+1),())))) (some (.inr (a,b,c,d,())))) s.1 s.2.1 s.2.2.1 s.2.2.2.1 s.2.2.2.2.1
def a6x(s:Z32):Option Z68:=(fun(a b:Int)=>cond (decide (b<a)) ((m0k s.2.1 b).bind fun x1=>(y0s a8v (bits .u8 .xor s.1 x1,s.2.1,a,b,0,())).bind fun w2=>some (.inl (w2.1,w2.2.1,w2.2.2.1,wrap .i64 (w2.2.2.2.1+1),()))) (some (.inr (s.1,())))) s.2.2.1 s.2.2.2.1
def a6K(x:LI):Option Int:=(y0s a6x (0,x,(x.length:Int),0,())).bind fun w3=>some w3.1
def b9R:FSem:=⟨[.v QB],[.v QV],a6K⟩
def d2k:Hints:=⟨[(58,[.sv 3 QV,.sv 7 QB,8,9],[Qe 0 [.sv 3 QV]]),(29902,[.sv 3 QV,.sv 7 QB,8,9,16],[Qe 2 [.sv 3 QV,.sv 7 QB,8,9]])],[],[]⟩
def a9m(x:Int):Option Int:=cond ((a06 x 2)==0) (some (wrap .i64 (wrap .u64 (a08 x 2)))) (some (wrap .i64 ((wrap .i64 (0-(wrap .i64 (wrap .u64 (a08 x 2)))))-1)))
def c2e:FSem:=⟨[.v QU],[.v QI],a9m⟩
def a4x(s:(LI×(Int×Int×b7g))):Option ((LI×(Int×Int×b7g)) ⊕ (LI×b7g)):=(fun(a:Int)(b:a1C)(c:Z16)=>cond (decide (a<s.2.1)) ((a0O (c,7)).bind fun y11=>(a0O (y11.2,7)).bind fun y12=>(a0O (y12.2,2048)).bind fun y13=>(a9m y13.1).bind fun y14=>cond (lim ((a02 b.2.2.2.1)+1)) (some (.inl (s.1,s.2.1,wrap .u64 (a+1),(b.1,b.2.1,b.2.2.1,a03 b.2.2.2.1 ([(wrap .i64 y11.1,wrap .i64 y12.1,y14,())]:List Z8),b.2.2.2.2),y13.2,()))) none) (some (.inr (s.1,b,c,())))) s.2.2.1 s.2.2.2.1 s.2.2.2.2.1
def a6y(x:LI):Option (a1C×Int×Int×Int):=cond (decide ((x.length:Int)<2)) (some ((0,0,(0,0,0,()),[],[],()),0,0,3)) ((show Option (LI×(Bool×b1O))from(m0k x 0).bind fun x1=>cond (x1 != 245) (some (x,true,(0,0,(0,0,0,()),[],[],()),())) ((m0k x 1).bind fun x2=>some (x,x2 != 75,(0,0,(0,0,0,()),[],[],()),()))).bind fun z3=>cond z3.2.1 (some ((0,0,(0,0,0,()),[],[],()),0,0,2)) (cond (decide (2≤(z3.1.length:Int))) ((a7G (a09 2 (a07 (a02 z3.1) z3.1))).bind fun y4=>(a0O (y4,4194304)).bind fun y5=>(a0O (y5.2,4096)).bind fun y6=>(a0O (y6.2,1048576)).bind fun y7=>(a0O (y7.2,8)).bind fun y8=>(a0O (y8.2,24)).bind fun y9=>(a0O (y9.2,16)).bind fun y10=>(y0s a4x (z3.1,y10.1,0,(wrap .i64 y5.1,wrap .i64 y6.1,(wrap .i64 y7.1,wrap .i64 y8.1,wrap .i64 y9.1,z3.2.2.1.2.2.1.2.2.2),z3.2.2.1.2.2.2),y10.2,())).bind fun w15=>(a0O (w15.2.2.1,1048576)).bind fun y16=>(a4s y16.2).bind fun y17=>cond (y17.1 != 0) (some ((0,0,(0,0,0,()),[],[],()),0,0,y17.1)) ((a2F y17.2).bind fun y18=>cond (decide (y18.1<1)) (some ((0,0,(0,0,0,()),[],[],()),0,0,3)) ((a4S y18.2).bind fun y19=>cond ((decide (0≤(wrap .i64 (2+y19.1))))&&(decide ((wrap .i64 (2+y19.1))≤(w15.1.length:Int)))) ((a6K (a07 (a00 (wrap .i64 (2+y19.1))) w15.1)).bind fun y20=>(m0k w15.1 (wrap .i64 (2+y19.1))).bind fun x21=>cond (y20 != x21) (some ((0,0,(0,0,0,()),[],[],()),0,0,5)) ((a5P w15.2.1).bind fun y22=>cond (!y22) (some ((0,0,(0,0,0,()),[],[],()),0,0,2)) (some (w15.2.1,wrap .i64 ((wrap .i64 (2+y19.1))+1),wrap .i64 y16.1,0)))) none))) none))
def b5X:FSem:=⟨[.v QB],[.v (.pair QI (.pair QI (.pair Q12 (.pair (.list false Q12) Q43)))),.v QI,.v QI,.v QI],a6y⟩
def H56:Hints:=⟨[(8186,[.sv 0 QB,.sv 54 QU,.sv 55 QU,.box 2 Q58,.box 1029 Q16,Qp 2 2,Qp 6 1029],[Qe 0 [.sv 0 QB,.box 2 Q58,.box 1029 Q16,Qp 2 2,Qp 6 1029]])],[(14,[Qn [.sv 0 QB,.sv 25 .bool,.box 2 Q58,Qp 2 2]])],[(25,[.v,.v,.v,.v,.v,.v,.v,.v,.x])]⟩
def a9Y(x:LI):Option Z16:=cond (lim (a02 x)) (some (x,0,0,())) none
def c3G:FSem:=⟨[.v QB],[.b Q16],a9Y⟩
def a0K(x:Z16):Option Z32:=some (x.2.2.1,x)
def b4B:FSem:=⟨[.r false (.b Q16)],[.v QI],a0K⟩
def a8i(x:b1M):Option Bool:=(a9E (x.1,x.2)).bind fun y1=>some (y1.2==0)
def c5e:FSem:=⟨[.v Q42,.v QI],[.v .bool],a8i⟩
def a2w(s:Z52):Option (Z52 ⊕ Z32):=(fun(a b:Int)(c:LI)(d e:Int)=>cond (b != 0) (cond (decide (a<32)) ((a1K (b,a)).bind fun y2=>cond (!y2) (some (.inl (wrap .i64 (a+1),b,c,d,e,()))) (some (.inr (a,c,d,e,())))) (some (.inr (a,c,d,e,())))) (some (.inr (a,c,d,e,())))) s.1 s.2.1 s.2.2.1 s.2.2.2.1 s.2.2.2.2.1
def a4U(s:Z32):Option Z68:=(fun(a b:Int)=>cond (decide (b<a)) ((m0k s.2.1 b).bind fun x1=>(y0s a2w (s.1,x1,s.2.1,a,b,())).bind fun w3=>some (.inl (w3.1,w3.2.1,w3.2.2.1,wrap .i64 (w3.2.2.2.1+1),()))) (some (.inr (s.1,())))) s.2.2.1 s.2.2.2.1
def a1l(x:LI):Option Int:=(y0s a4U (0,x,(x.length:Int),0,())).bind fun w4=>some w4.1
def b7l:FSem:=⟨[.v QL],[.v QI],a1l⟩
def H98:Hints:=⟨[(58,[3,.sv 6 QL,7,8],[Qe 0 [3]]),(7474,[3,5,.sv 6 QL,7,8],[Qe 2 [3,.sv 6 QL,7,8]])],[],[]⟩
def a2m(x:Z16):Option Z32:=some (wrap .i64 ((wrap .i64 (8*(x.1.length:Int)))-x.2.1),x)
def b3V:FSem:=⟨[.r false (.b Q16)],[.v QI],a2m⟩
def H59:Hints:=⟨[],[],[(1,[.p,.p,.q,.q,.v,.v,.p,.p,.q,.q,.x,.x])]⟩
def a1v(x:Z33):Option Z32:=(m0k x.1.1 (wrap .i64 (a08 x.2 8))).bind fun x1=>cond (decide ((wrap .i64 (7-(a06 x.2 8)))<0)) none (some (bits .u8 .and (A0o .u8 x1 (wrap .i64 (7-(a06 x.2 8)))) 1,x.1))
def b3W:FSem:=⟨[.r false (.b Q16),.v QI],[.v QV],a1v⟩
def a3u(s:Z82):Option (Z82 ⊕ Z54):=cond (decide (s.2.2.1<s.2.1)) ((a1v (s.2.2.2.1,s.2.2.2.1.2.1)).bind fun y3=>some (.inl (bits .u64 .or (A0n .u64 s.1 1) (wrap .u64 y3.1),s.2.1,wrap .i64 (s.2.2.1+1),(y3.2.1,wrap .i64 (y3.2.2.1+1),y3.2.2.2),()))) (some (.inr (s.1,s.2.2.2.1,())))
def a0E(x:Z33):Option Z32:=cond (x.1.2.2.1 != 0) (some (0,x.1)) ((show Option Z70 from cond (decide (x.2<0)) (some (x.2,true,x.1,())) (some (x.2,decide (x.2 > 64),x.1,()))).bind fun z1=>cond z1.2.1 (some (0,z1.2.2.1.1,z1.2.2.1.2.1,1,z1.2.2.1.2.2.2)) ((a2m z1.2.2.1).bind fun y2=>cond (decide (z1.1 > y2.1)) (some (0,y2.2.1,y2.2.2.1,3,y2.2.2.2.2)) ((y0s a3u (0,z1.1,0,y2.2,())).bind fun w4=>some (w4.1,w4.2.1))))
def b4C:FSem:=⟨[.r false (.b Q16),.v QI],[.v QU],a0E⟩
def d2l:Hints:=⟨[(506,[.sv 5 QU,27,28,.box pinned Q16,Qp 0 pinned],[Qe 0 [.sv 5 QU,.box pinned Q16]])],[(14,[Qn [1,.sv 16 .bool,.box pinned Q16,Qp 0 pinned]])],[]⟩
def a0X(x:Z33):Option Z32:=(a0E (x.1,x.2)).bind fun y1=>(show Option (Int×Z70)from cond (y1.2.2.2.1 != 0) (some (x.2,y1.1,true,y1.2,())) (some (x.2,y1.1,x.2==0,y1.2,()))).bind fun z2=>cond z2.2.2.1 (some (0,z2.2.2.2.1)) (cond (decide ((wrap .i64 (64-z2.1))<0)) none (cond (decide ((wrap .i64 (64-z2.1))<0)) none (some (A0o .i64 (wrap .i64 (A0n .u64 z2.2.1 (wrap .i64 (64-z2.1)))) (wrap .i64 (64-z2.1)),z2.2.2.2.1))))
def b2G:FSem:=⟨[.r false (.b Q16),.v QI],[.v QI],a0X⟩
def d2m:Hints:=⟨[],[(14,[Qn [1,.sv 5 QU,.sv 17 .bool,.box pinned Q16]])],[]⟩
def a4V(s:(Int×b7f)):Option ((Int×b7f) ⊕ (Int×c3z)):=(fun(a:Int)(b:Z16)(c:a1q)=>cond (decide (a<s.2.1)) ((a0X (b,s.1)).bind fun y4=>cond (lim ((a02 c.2.2.2.2.2.1)+1)) (some (.inl (s.1,s.2.1,wrap .i64 (a+1),y4.2,(c.1,c.2.1,c.2.2.1,c.2.2.2.1,c.2.2.2.2.1,a03 c.2.2.2.2.2.1 [y4.1],c.2.2.2.2.2.2),()))) none) (some (.inr (s.1,c,b,())))) s.2.2.1 s.2.2.2.1 s.2.2.2.2.1
def a7e(x:(Z16×a1q)):Option (Bool×Z16×a1q):=(a0E (x.1,5)).bind fun y1=>(a0E (y1.2,4)).bind fun y2=>(a0E (y2.2,5)).bind fun y3=>(y0s a4V (wrap .i64 y3.1,wrap .i64 ((wrap .i64 y1.1)+1),0,y3.2,(x.2.1,x.2.2.1,x.2.2.2.1,wrap .i64 y2.1,x.2.2.2.2.2),())).bind fun w5=>(a1l w5.2.1.2.2.2.2.2.1).bind fun y6=>some (y6==w5.1,w5.2.2.1,w5.2.1)
def b7m:FSem:=⟨[.r false (.b Q16),.r false (.b Q41)],[.v .bool],a7e⟩
def d2n:Hints:=⟨[(250,[6,20,21,.box pinned Q16,.box 1000001 Q41,Qp 0 pinned,Qp 1 1000001],[Qe 0 [6,.box 1000001 Q41,.box pinned Q16,Qp 1 1000001]])],[],[(6,[.p,.p,.p,.r [26,1000001],.r [27,1000001],.p,.v,.w [30,1030,pinned],.q,.a [31,32,1000001],.x,.x,.x])]⟩
def a2N(s:b7f):Option (b7f ⊕ c6i):=(fun(a:Int)(b:Z16)(c:a1q)=>cond (decide (a<3)) ((a0X (b,8)).bind fun y6=>cond ((decide (0≤a))&&(decide (a<3))) (some (.inl (s.1,wrap .i64 (a+1),y6.2,(c.1,c.2.1,c.2.2.1,c.2.2.2.1,c.2.2.2.2.1,c.2.2.2.2.2.1,a05 c.2.2.2.2.2.2.1 (a00 a) y6.1,c.2.2.2.2.2.2.2),()))) none) (some (.inr (s.1,b,c,())))) s.2.1 s.2.2.1 s.2.2.2.1
def a5D(s:(Int×Bool×b7f)):Option ((Int×Bool×b7f) ⊕ (Int×Bool×c3z)):=(fun(a b:Int)(c:Z16)(d:a1q)=>cond (decide (b<a)) ((a0E (c,5)).bind fun y15=>(a0E (y15.2,4)).bind fun y16=>cond (lim ((a02 d.2.2.2.2.2.2.2.1)+1)) (some (.inl (s.1,s.2.1,a,wrap .u64 (b+1),y16.2,(d.1,d.2.1,d.2.2.1,d.2.2.2.1,d.2.2.2.2.1,d.2.2.2.2.2.1,d.2.2.2.2.2.2.1,a03 d.2.2.2.2.2.2.2.1 ([(wrap .i64 ((wrap .i64 y15.1)+1),wrap .i64 y16.1,())]:List (Int×Int×Unit)),d.2.2.2.2.2.2.2.2),()))) none) (some (.inr (s.1,s.2.1,d,c,())))) s.2.2.1 s.2.2.2.1 s.2.2.2.2.1 s.2.2.2.2.2.1
def a7U(x:Z16):Option (a1q×Int×Bool×Z16):=(a0E (x,3)).bind fun y1=>(a0E (y1.2,5)).bind fun y2=>(a0E (y2.2,5)).bind fun y3=>(show Option (Int×Bool×c3z)from(show Option (c6i ⊕ ((Int×Bool×c3z) ⊕ (Int×Bool×c8q)))from cond ((wrap .i64 y1.1)==2) ((a0E (y3.2,3)).bind fun y4=>some (Sum.inr (Sum.inl (wrap .i64 y3.1,true,(wrap .i64 y1.1,wrap .i64 y2.1,wrap .i64 y4.1,0,0,[],a01 3 0,[],[],(0,[],()),[],()),y4.2,())))) (cond ((wrap .i64 y1.1)==4) ((a0E (y3.2,10)).bind fun y5=>(y0s a2N (wrap .i64 y3.1,0,y5.2,(wrap .i64 y1.1,wrap .i64 y2.1,0,0,wrap .i64 ((wrap .i64 y5.1)+1),[],a01 3 0,[],[],(0,[],()),[],()),())).bind fun w7=>some (Sum.inl (w7.1,w7.2.1,w7.2.2.1,()))) (cond ((wrap .i64 y1.1)==3) (some (Sum.inl (wrap .i64 y3.1,y3.2,(wrap .i64 y1.1,wrap .i64 y2.1,0,0,0,[],a01 3 0,[],[],(0,[],()),[],()),()))) (cond ((wrap .i64 y1.1)==5) (some (Sum.inr (Sum.inr ((wrap .i64 y3.1,true,y3.2,(wrap .i64 y1.1,wrap .i64 y2.1,0,0,0,[],a01 3 0,[],[],(0,[],()),[],()),()))))) (some (Sum.inr (Sum.inl (wrap .i64 y3.1,true,(wrap .i64 y1.1,wrap .i64 y2.1,0,0,0,[],a01 3 0,[],[],(0,[],()),[],()),y3.2,())))))))).bind fun z8=>match z8 with |.inl a9=>((a7e (a9.2.1,a9.2.2.1)).bind fun y11=>some (a9.1,y11.1,y11.2.2,y11.2.1,())) |.inr b10=>(match b10 with |.inl a12=>some (a12.1,a12.2.1,a12.2.2.1,a12.2.2.2.1,()) |.inr b13=>((a0E (b13.2.2.1,2)).bind fun y14=>(y0s a5D (b13.1,b13.2.1,y14.1,0,y14.2,b13.2.2.2.1,())).bind fun w17=>some (w17.1,w17.2.1,w17.2.2.1,w17.2.2.2.1,())))).bind fun z18=>some (z18.2.2.1,z18.1,z18.2.1,z18.2.2.2.1)
def b8V:FSem:=⟨[.r false (.b Q16)],[.v (.pair QI (.pair QI (.pair QI (.pair QI (.pair QI (.pair QL (.pair (.arr 3 QI) (.pair (.list false Q3) Q23)))))))),.v QI,.v .bool],a7U⟩
def d2o:Hints:=⟨[(8106,[3,.sv 4 .bool,.sv 50 QU,.sv 51 QU,.box pinned Q16,.box 2 Q41,Qp 0 pinned,Qp 2 2],[Qe 7 [3,.sv 4 .bool,.box 2 Q41,.box pinned Q16,Qp 2 2]]),(129550,[3,38,.box pinned Q16,.box 2 Q41,Qp 0 pinned,Qp 2 2],[Qe 5 [3,.box pinned Q16,.box 2 Q41,Qp 0 pinned,Qp 2 2]])],[(63,[Qn [3,.sv 4 .bool,.box 2 Q41,.box pinned Q16,Qp 2 2]]),(2024,[Qn [3,.box pinned Q16,.box 2 Q41,Qp 0 pinned,Qp 2 2],Qe 0 [3,.sv 4 .bool,.box 2 Q41,.box pinned Q16,Qp 2 2],Qe 4 [3,.sv 4 .bool,.box pinned Q16,.box 2 Q41,Qp 0 pinned,Qp 2 2]])],[]⟩
def a1J(x:Int):Option Bool:=cond (decide (0≤x)) (some (decide (x≤25))) (some false)
def b5o:FSem:=⟨[.v QI],[.v .bool],a1J⟩
def a2Q(s:Z82):Option (Z82 ⊕ Z54):=(fun(a b:Int)(c:Z16)=>cond (b==(wrap .i64 (8*(c.1.length:Int)))) (some (.inr (0,(c.1,c.2.1,3,c.2.2.2),()))) ((a1v (c,b)).bind fun y2=>cond (y2.1==1) (some (.inr (a,(y2.2.1,wrap .i64 (b+1),y2.2.2.2),()))) (cond (a==s.1) (some (.inr (0,(y2.2.1,y2.2.2.1,2,y2.2.2.2.2),()))) (some (.inl (s.1,wrap .i64 (a+1),wrap .i64 (b+1),y2.2,())))))) s.2.1 s.2.2.1 s.2.2.2.1
def a2J(x:Z33):Option Z32:=cond (x.1.2.2.1 != 0) (some (0,x.1)) ((y0s a2Q (v0r x.2 0,0,x.1.2.1,x.1,())).bind fun w3=>some (w3.1,w3.2.1))
def b3H:FSem:=⟨[.r false (.b Q16),.v QI],[.v QI],a2J⟩
def d2p:Hints:=⟨[(62,[1,5,6,.box pinned Q16,Qp 0 pinned],[Qr [4,.box pinned Q16]])],[],[(4,[.p,.p,.q,.q,.v,.x])]⟩
def a5V(x:Int):Option Int:=cond (decide (x≥2147483648)) (some 0) (cond ((a06 x 2)==0) (some (wrap .i64 (wrap .u64 (a08 x 2)))) (some (wrap .i64 ((wrap .i64 (0-(wrap .i64 (wrap .u64 (a08 x 2)))))-1))))
def b8W:FSem:=⟨[.v QU],[.v QI],a5V⟩
def a9Z(x:Z33):Option Z52:=(a2J (x.1,32)).bind fun y1=>(a0K y1.2).bind fun y2=>cond (y2.1 != 0) ((a0K y2.2).bind fun y3=>some (0,y3.1,y3.2)) (cond (decide ((wrap .u64 y1.1)<32)) ((a0E (y2.2,x.2)).bind fun y4=>cond (decide (x.2<0)) none ((a5V (wrap .u64 ((A0n .u64 (wrap .u64 y1.1) x.2)+y4.1))).bind fun y5=>(a0K y4.2).bind fun y6=>some (y5,y6.1,y6.2))) ((a0E (y2.2,32)).bind fun y7=>(a0K y7.2).bind fun y8=>cond (y8.1 != 0) ((a0K y8.2).bind fun y9=>some (0,y9.1,y9.2)) ((show Option Z70 from cond (decide (y7.1≥2147483648)) (some (y7.1,true,y8.2,())) (cond (decide (x.2<0)) none (some (y7.1,decide ((A0o .u64 y7.1 x.2)<32),y8.2,())))).bind fun z10=>cond z10.2.1 (some (0,2,z10.2.2.1)) ((a5V z10.1).bind fun y11=>some (y11,0,z10.2.2.1)))))
def c3H:FSem:=⟨[.r false (.b Q16),.v QI],[.v QI,.v QI],a9Z⟩
def d2q:Hints:=⟨[],[(254,[Qn [.sv 8 QU,.sv 44 .bool,.box pinned Q16]])],[]⟩
def a7V(s:Z93):Option (Z93 ⊕ (Z64 ⊕ Z79)):=cond (decide (s.2.2.1<s.2.1)) ((a9Z (s.2.2.2.2.1,s.1)).bind fun y5=>cond (y5.2.1 != 0) (some (.inr (Sum.inr ((y5.2.1,[],y5.2.2,()))))) (cond (lim ((a02 s.2.2.2.1)+1)) (some (.inl (s.1,s.2.1,wrap .i64 (s.2.2.1+1),a03 s.2.2.2.1 [y5.1],y5.2.2,()))) none)) (some (.inr (Sum.inl (s.2.2.2.1,s.2.2.2.2.1,()))))
def b0A(x:(Z16×Int×Int)):Option Z62:=(show Option (Int×Z70)from(a1J x.2.1).bind fun y1=>cond (!y1) (some (x.2.1,x.2.2,true,x.1,())) (cond (decide (x.2.2<0)) (some (x.2.1,x.2.2,true,x.1,())) (some (x.2.1,x.2.2,decide (x.2.2 > 4194304),x.1,())))).bind fun z2=>cond z2.2.2.1 (some ([],1,z2.2.2.2.1)) ((a0K z2.2.2.2.1).bind fun y3=>cond (y3.1 != 0) ((a0K y3.2).bind fun y4=>some ([],y4.1,y4.2)) ((y0s a7V (z2.1,z2.2.1,0,[],y3.2,())).bind fun w6=>match w6 with |.inl a7=>some (a7.1,0,a7.2.1) |.inr b8=>some (b8.2.1,b8.1,b8.2.2.1)))
def c3I:FSem:=⟨[.r false (.b Q16),.v QI,.v QI],[.o QI,.v QI],b0A⟩
def d2r:Hints:=⟨[(250,[1,27,28,.own 8 8 QI,.box pinned Q16,Qp 0 pinned],[Qe 0 [.own 8 8 QI,.box pinned Q16],Qr [7,.own 6 6 QI,.box pinned Q16]])],[(6,[Qn [1,2,.sv 21 .bool,.box pinned Q16,Qp 0 pinned]])],[]⟩
def a7f(s:(Int×Z93)):Option ((Int×Z93) ⊕ Z89):=(fun(a b c:Int)(d:LI)(e:Z16)=>cond (decide (c<b)) ((a0X (e,a)).bind fun y6=>cond (lim ((a02 d)+1)) (some (.inl (s.1,a,b,wrap .i64 (c+1),a03 d [y6.1],y6.2,()))) none) (some (.inr (s.1,a,d,e,())))) s.2.1 s.2.2.1 s.2.2.2.1 s.2.2.2.2.1 s.2.2.2.2.2.1
def a9n(x:Z33):Option (Int×Z62):=(a0E (x.1,5)).bind fun y1=>(a0K y1.2).bind fun y2=>cond (y2.1 != 0) ((a0K y2.2).bind fun y3=>some (0,[],y3.1,y3.2)) (cond (decide ((wrap .i64 y1.1)≤25)) ((b0A (y2.2,wrap .i64 y1.1,x.2)).bind fun y4=>some (wrap .i64 y1.1,y4.1,y4.2.1,y4.2.2)) (cond ((wrap .i64 y1.1) != 31) (some (0,[],2,y2.2)) ((a0E (y2.2,5)).bind fun y5=>(y0s a7f (wrap .i64 y1.1,wrap .i64 y5.1,x.2,0,[],y5.2,())).bind fun w7=>(a0K w7.2.2.2.1).bind fun y8=>cond (y8.1 != 0) ((a0K y8.2).bind fun y9=>some (0,[],y9.1,y9.2)) ((a1l w7.2.2.1).bind fun y10=>cond (y10 != w7.2.1) (some (0,[],2,y8.2)) (some (w7.1,w7.2.2.1,0,y8.2))))))
def c2f:FSem:=⟨[.r false (.b Q16),.v QI],[.v QI,.o QI,.v QI],a9n⟩
def d2s:Hints:=⟨[(2042,[7,10,37,38,.own 11 11 QI,.box pinned Q16,Qp 0 pinned],[Qe 0 [7,10,.own 11 11 QI,.box pinned Q16,Qp 0 pinned]])],[],[]⟩
def a7g(s:(Int×(Int×(LI×(LI×(Z16×Z83)))))):Option ((Int×(Int×(LI×(LI×(Z16×Z83))))) ⊕ ((LI×(Z6×Z6×Z38)) ⊕ (Int×(LI×(Z6×Z38))))):=(fun(a:Int)(b c:LI)(d:Z16)(e f:Z6)=>cond (decide (a<s.1)) (cond ((decide (0≤a))&&(decide (a<(c.length:Int)))) ((a9n (d,a04 c (a00 a) 0)).bind fun y6=>cond (y6.2.2.1 != 0) (some (.inr (Sum.inr ((y6.2.2.1,[],(0,[],()),y6.2.2.2,()))))) (cond (lim ((a02 f.2.1)+1)) (cond (lim ((a02 b)+(a02 y6.2.1))) (some (.inl (s.1,wrap .i64 (a+1),a03 b y6.2.1,c,y6.2.2.2,e,(f.1,a03 f.2.1 [y6.1],f.2.2),()))) none) none)) none) (some (.inr (Sum.inl (b,e,f,d,()))))) s.2.1 s.2.2.1 s.2.2.2.1 s.2.2.2.2.1 s.2.2.2.2.2.1 s.2.2.2.2.2.2.1
def a9o(x:(Z16×Int×Int)):Option (Z6×Z62):=(a6j (x.2.1,x.2.2)).bind fun y1=>cond (!y1) (some ((0,[],()),[],1,x.1)) ((a0E (x.1,4)).bind fun y2=>(a0K y2.2).bind fun y3=>cond (y3.1 != 0) ((a0K y3.2).bind fun y4=>some ((0,[],()),[],y4.1,y4.2)) ((a2A (wrap .i64 y2.1,x.2.1,x.2.2)).bind fun y5=>cond ((y5.length:Int)==0) (some ((0,[],()),[],2,y3.2)) ((y0s a7g ((y5.length:Int),0,[],y5,y3.2,(0,[],()),(wrap .i64 y2.1,[],()),())).bind fun w7=>match w7 with |.inl a8=>some (a8.2.2.1,a8.1,0,a8.2.2.2.1) |.inr b9=>some (b9.2.2.1,b9.2.1,b9.1,b9.2.2.2.1))))
def c2g:FSem:=⟨[.r false (.b Q16),.v QI,.v QI],[.v Q11,.o QI,.v QI],a9o⟩
def d2t:Hints:=⟨[(4090,[43,44,.own 12 12 QI,.own 42 10 QI,.box pinned Q16,.box 6 Q11,.box 11 Q10,Qp 0 pinned,Qp 6 6,Qp 11 11],[Qe 0 [.own 12 12 QI,.box 6 Q11,.box 11 Q10,.box pinned Q16,Qp 6 6,Qp 11 11],Qr [8,.own 7 7 QI,.box 6 Q11,.box pinned Q16,Qp 6 6]])],[],[]⟩
def a8w(s:(Int×Int×Bool×Int×Int×Z16×a9M)):Option ((Int×Int×Bool×Int×Int×Z16×a9M) ⊕ (Int×Int×Bool×Z16×a9M)):=(fun(a:Int)(b:Bool)(c d:Int)(e:Z16)(f g:a1q)=>cond (decide (d<c)) ((a0X (e,a)).bind fun y7=>cond (lim ((a02 g.2.2.2.2.2.2.2.2.1)+1)) (some (.inl (s.1,a,b,c,wrap .i64 (d+1),y7.2,f,(g.1,g.2.1,g.2.2.1,g.2.2.2.1,g.2.2.2.2.1,g.2.2.2.2.2.1,g.2.2.2.2.2.2.1,g.2.2.2.2.2.2.2.1,a03 g.2.2.2.2.2.2.2.2.1 [y7.1],g.2.2.2.2.2.2.2.2.2),()))) none) (some (.inr (s.1,a,b,e,f,g,())))) s.2.1 s.2.2.1 s.2.2.2.1 s.2.2.2.2.1 s.2.2.2.2.2.1 s.2.2.2.2.2.2.1 s.2.2.2.2.2.2.2.1
def a9F(x:Z33):Option (a1q×Z32):=cond (decide (x.2<1)) (some ((0,0,0,0,0,[],a01 3 0,[],[],(0,[],()),[],()),1,x.1)) (cond (decide (x.2 > 4096)) (some ((0,0,0,0,0,[],a01 3 0,[],[],(0,[],()),[],()),1,x.1)) ((a0K x.1).bind fun y1=>cond (y1.1 != 0) (some ((0,0,0,0,0,[],a01 3 0,[],[],(0,[],()),[],()),y1.1,y1.2)) ((a7U y1.2).bind fun y2=>(a0K y2.2.2.2).bind fun y3=>cond (y3.1 != 0) (some ((0,0,0,0,0,[],a01 3 0,[],[],(0,[],()),[],()),y3.1,y3.2)) ((a6I (y2.1.1,y2.1,x.2)).bind fun y4=>cond (!y4) (some ((0,0,0,0,0,[],a01 3 0,[],[],(0,[],()),[],()),2,y3.2)) ((a3O (y2.1,x.2)).bind fun y5=>(y0s a8w (x.2,y2.2.1,y2.2.2.1,y5,0,y3.2,(0,0,0,0,0,[],a01 3 0,[],[],(0,[],()),[],()),y2.1,())).bind fun w8=>(a0K w8.2.2.2.1).bind fun y9=>cond (y9.1 != 0) (some ((0,0,0,0,0,[],a01 3 0,[],[],(0,[],()),[],()),y9.1,y9.2)) ((a5a w8.2.2.2.2.2.1.1).bind fun y10=>cond y10 ((a9o (y9.2,w8.1,(w8.2.2.2.2.2.1.2.2.2.2.2.2.2.2.1.length:Int))).bind fun y11=>cond (y11.2.2.1 != 0) (some ((0,0,0,0,0,[],a01 3 0,[],[],(0,[],()),[],()),y11.2.2.1,y11.2.2.2)) (cond (!w8.2.2.1) (some ((0,0,0,0,0,[],a01 3 0,[],[],(0,[],()),[],()),2,y11.2.2.2)) ((a1l w8.2.2.2.2.2.1.2.2.2.2.2.2.2.2.1).bind fun y12=>cond (y12 != w8.2.1) (some ((0,0,0,0,0,[],a01 3 0,[],[],(0,[],()),[],()),2,y11.2.2.2)) ((a8i ((w8.2.2.2.2.2.1.1,w8.2.2.2.2.2.1.2.1,w8.2.2.2.2.2.1.2.2.1,w8.2.2.2.2.2.1.2.2.2.1,w8.2.2.2.2.2.1.2.2.2.2.1,w8.2.2.2.2.2.1.2.2.2.2.2.1,w8.2.2.2.2.2.1.2.2.2.2.2.2.1,w8.2.2.2.2.2.1.2.2.2.2.2.2.2.1,w8.2.2.2.2.2.1.2.2.2.2.2.2.2.2.1,y11.1,y11.2.1,w8.2.2.2.2.2.1.2.2.2.2.2.2.2.2.2.2.2),w8.1)).bind fun y13=>cond (!y13) (some ((0,0,0,0,0,[],a01 3 0,[],[],(0,[],()),[],()),2,y11.2.2.2)) (some ((w8.2.2.2.2.2.1.1,w8.2.2.2.2.2.1.2.1,w8.2.2.2.2.2.1.2.2.1,w8.2.2.2.2.2.1.2.2.2.1,w8.2.2.2.2.2.1.2.2.2.2.1,w8.2.2.2.2.2.1.2.2.2.2.2.1,w8.2.2.2.2.2.1.2.2.2.2.2.2.1,w8.2.2.2.2.2.1.2.2.2.2.2.2.2.1,w8.2.2.2.2.2.1.2.2.2.2.2.2.2.2.1,y11.1,y11.2.1,w8.2.2.2.2.2.1.2.2.2.2.2.2.2.2.2.2.2),0,y11.2.2.2)))))) (cond (!w8.2.2.1) (some ((0,0,0,0,0,[],a01 3 0,[],[],(0,[],()),[],()),2,y9.2)) ((a1l w8.2.2.2.2.2.1.2.2.2.2.2.2.2.2.1).bind fun y14=>cond (y14 != w8.2.1) (some ((0,0,0,0,0,[],a01 3 0,[],[],(0,[],()),[],()),2,y9.2)) ((a8i (w8.2.2.2.2.2.1,w8.1)).bind fun y15=>cond (!y15) (some ((0,0,0,0,0,[],a01 3 0,[],[],(0,[],()),[],()),2,y9.2)) (some (w8.2.2.2.2.2.1,0,y9.2)))))))))))
def c5f:FSem:=⟨[.r false (.b Q16),.v QI],[.v Q42,.v QI],a9F⟩
def H58:Hints:=⟨[(1018,[1,8,.sv 9 .bool,47,48,.box pinned Q16,.box 4 Q42,.box 7 (.pair QI (.pair QI (.pair QI (.pair QI (.pair QI (.pair QL (.pair (.arr 3 QI) (.pair (.list false Q3) (.pair (.list true QI) Q20))))))))),Qp 0 pinned,Qp 4 4,Qp 7 7],[Qe 0 [1,8,.sv 9 .bool,.box pinned Q16,.box 4 Q42,.box 7 (.pair QI (.pair QI (.pair QI (.pair QI (.pair QI (.pair QL (.pair (.arr 3 QI) (.pair (.list false Q3) (.pair (.list true QI) Q20))))))))),Qp 0 pinned,Qp 4 4,Qp 7 7]])],[],[(14,[.r [7,50],.r [7,51],.p,.v,.w [54,1054,pinned],.q,.x,.x,.x])]⟩
def a2R(s:Z67):Option (Z67 ⊕ (Z54 ⊕ Z38)):=cond (decide (s.2.1<s.1)) ((a1v (s.2.2.1,s.2.1)).bind fun y1=>cond (y1.1==1) (some (.inr (Sum.inr (((y1.2.1,y1.2.2.1,2,y1.2.2.2.2),()))))) (some (.inl (s.1,wrap .i64 (s.2.1+1),y1.2,())))) (some (.inr (Sum.inl (s.1,s.2.2.1,()))))
def a4d(x:Z16):Option Z16:=cond (x.2.2.1 != 0) (some x) ((y0s a2R (wrap .i64 ((wrap .i64 (a08 (wrap .i64 (x.2.1+7)) 8))*8),x.2.1,x,())).bind fun w2=>match w2 with |.inl a3=>some (a3.2.1.1,a3.1,a3.2.1.2.2) |.inr b4=>some b4.1)
def b3I:FSem:=⟨[.r false (.b Q16)],[],a4d⟩
def H60:Hints:=⟨[(58,[2,3,.box pinned Q16,Qp 0 pinned],[Qe 0 [2,.box pinned Q16,Qp 0 pinned],Qr [.box pinned Q16]])],[],[]⟩
def a6z(s:(Int×Int×Int×a1C×b7g)):Option ((Int×Int×Int×a1C×b7g) ⊕ ((Int×a1C×b7g) ⊕ (Int×Int×b1O))):=(fun(a:Int)(b c:a1C)(d:Z16)=>cond (decide (a<s.2.1)) ((a9F (d,c.2.1)).bind fun y7=>cond (y7.2.1 != 0) (some (.inr (Sum.inr ((0,2,(0,0,(0,0,0,()),[],[],()),()))))) (cond (lim ((a02 c.2.2.2.2.1)+1)) (some (.inl (s.1,s.2.1,wrap .i64 (a+1),b,(c.1,c.2.1,c.2.2.1,c.2.2.2.1,a03 c.2.2.2.2.1 ([y7.1]:List a1q),c.2.2.2.2.2),y7.2.2,()))) none)) (some (.inr (Sum.inl (s.1,b,c,d,()))))) s.2.2.1 s.2.2.2.1 s.2.2.2.2.1 s.2.2.2.2.2.1
def a2c(x:LI):Option (a1C×Int×Int):=(a6y x).bind fun y1=>cond (y1.2.2.2 != 0) (some ((0,0,(0,0,0,()),[],[],()),0,y1.2.2.2)) (cond (decide ((x.length:Int)<(wrap .i64 ((wrap .i64 (y1.2.1+y1.2.2.1))+2)))) (some ((0,0,(0,0,0,()),[],[],()),0,3)) (cond ((decide (0≤(wrap .i64 (y1.2.1+y1.2.2.1))))&&(decide ((wrap .i64 (y1.2.1+y1.2.2.1))≤(x.length:Int)))) ((a5f (a07 (a00 (wrap .i64 (y1.2.1+y1.2.2.1))) x)).bind fun y2=>(m0k x (wrap .i64 (y1.2.1+y1.2.2.1))).bind fun x3=>(m0k x (wrap .i64 ((wrap .i64 (y1.2.1+y1.2.2.1))+1))).bind fun x4=>cond (y2 != (bits .u16 .or (A0n .u16 (wrap .u16 x3) 8) (wrap .u16 x4))) (some ((0,0,(0,0,0,()),[],[],()),0,5)) (cond ((decide (0≤(wrap .i64 (y1.2.1+y1.2.2.1))))&&(decide ((wrap .i64 (y1.2.1+y1.2.2.1))≤(x.length:Int)))) (cond ((decide (0≤y1.2.1))&&(decide (y1.2.1≤((a00 (wrap .i64 (y1.2.1+y1.2.2.1)):Nat):Int)))) ((a9Y (a09 (a00 y1.2.1) (a07 (a00 (wrap .i64 (y1.2.1+y1.2.2.1))) x))).bind fun y5=>(y0s a6z (wrap .i64 (y1.2.1+y1.2.2.1),y1.1.2.2.1.2.1,0,(0,0,(0,0,0,()),[],[],()),y1.1,y5,())).bind fun w8=>match w8 with |.inl a9=>((a2m a9.2.2.2.1).bind fun y11=>cond (decide (y11.1≥8)) (some ((0,0,(0,0,0,()),[],[],()),0,2)) ((a4d y11.2).bind fun y12=>(a0K y12).bind fun y13=>cond (y13.1 != 0) (some ((0,0,(0,0,0,()),[],[],()),0,2)) ((a3A a9.2.2.1).bind fun y14=>cond (!y14) (some ((0,0,(0,0,0,()),[],[],()),0,2)) (some (a9.2.2.1,wrap .i64 (a9.1+2),0))))) |.inr b10=>some (b10.2.2.1,b10.1,b10.2.1)) none) none)) none))
end Go.Ab
namespace Go.Ab
open IntKind(wrap)
open Go.Proofs
set_option maxRecDepth 100000
set_option linter.unusedVariables false
def b9S:FSem:=⟨[.v QB],[.v Q60,.v QI,.v QI],a2c⟩
def H24:Hints:=⟨[(2042,[9,59,60,.box 2 Q60,.box 5 Q59,.box 1056 Q16,Qp 2 2,Qp 5 5,Qp 10 1056],[Qe 0 [9,.box 2 Q60,.box 5 Q59,.box 1056 Q16,Qp 2 2,Qp 5 5,Qp 10 1056],Qr [3,4,.box 2 Q60,Qp 2 2]])],[],[(7,[.v,.v,.v,.v,.v,.v,.v,.v,.v,.v,.v,.v,.v,.v,.v,.v,.v,.x])]⟩
def b0V(x:(LI×(Z96×Int×Int×Int))):Option (a1C×Z31):=(fun(a:Z96)(b c:Int)=>(m0k a.2.1 b).bind fun x1=>cond (decide ((wrap .i64 ((x.1.length:Int)-c))<x1)) (some ((0,0,(0,0,0,()),[],[],()),(0,([]:(List LI)),()),3)) (cond ((decide (0≤(wrap .i64 (c+x1))))&&(decide ((wrap .i64 (c+x1))≤(x.1.length:Int)))) (cond ((decide (0≤c))&&(decide (c≤((a00 (wrap .i64 (c+x1)):Nat):Int)))) ((a2c (a09 (a00 c) (a07 (a00 (wrap .i64 (c+x1))) x.1))).bind fun y2=>cond (y2.2.2 != 0) (some ((0,0,(0,0,0,()),[],[],()),(0,([]:(List LI)),()),y2.2.2)) ((show Option (Bool×a1C×b9H)from cond (decide (y2.2.1<x1)) (some (true,(0,0,(0,0,0,()),[],[],()),(0,([]:(List LI)),()),y2.1,())) (cond (!(eqT Q12 y2.1.2.2.1 a.1)) (some (true,(0,0,(0,0,0,()),[],[],()),(0,([]:(List LI)),()),y2.1,())) (cond (y2.1.1 != x.2.2.2.2) (some (true,(0,0,(0,0,0,()),[],[],()),(0,([]:(List LI)),()),y2.1,())) ((m0k a.2.2.1 b).bind fun x3=>some (y2.1.2.1 != x3,(0,0,(0,0,0,()),[],[],()),(0,([]:(List LI)),()),y2.1,()))))).bind fun z4=>cond z4.1 (some ((0,0,(0,0,0,()),[],[],()),(0,([]:(List LI)),()),2)) ((a1t z4.2.2.2.1).bind fun y5=>cond (y5.2 != 0) (some ((0,0,(0,0,0,()),[],[],()),(0,([]:(List LI)),()),y5.2)) (some (z4.2.2.2.1,y5.1,0))))) none) none)) x.2.1 x.2.2.1 x.2.2.2.1
def b5p:FSem:=⟨[.v QB,.v Q27,.v QI,.v QI,.v QI],[.v Q60,.v Q15,.v QI],b0V⟩
def H38:Hints:=⟨[],[(126,[Qn [.sv 72 .bool,.box 10 Q60,.box 11 Q15,.box 14 Q60,Qp 10 10,Qp 11 11,Qp 14 14]])],[(7,[.v,.v,.x,.x,.q,.q,.v,.v,.x,.x,.x,.q,.q,.v,.x,.x,.x,.q,.q,.v,.v,.v,.v,.v,.x,.x]),(12,[.q,.r [17,86],.w [0,10],.x,.x])]⟩
def a9Q(x:(Int×Int)):Option (Int×Int):=some (wrap .u64 ((wrap .u64 ((wrap .u64 ((A0o .u64 x.1 32)*(A0o .u64 x.2 32)))+(A0o .u64 (wrap .u64 ((wrap .u64 ((A0o .u64 x.1 32)*(bits .u64 .and x.2 4294967295)))+(A0o .u64 (wrap .u64 ((bits .u64 .and x.1 4294967295)*(bits .u64 .and x.2 4294967295))) 32))) 32)))+(A0o .u64 (wrap .u64 ((bits .u64 .and (wrap .u64 ((wrap .u64 ((A0o .u64 x.1 32)*(bits .u64 .and x.2 4294967295)))+(A0o .u64 (wrap .u64 ((bits .u64 .and x.1 4294967295)*(bits .u64 .and x.2 4294967295))) 32))) 4294967295)+(wrap .u64 ((bits .u64 .and x.1 4294967295)*(A0o .u64 x.2 32))))) 32)),wrap .u64 (x.1*x.2))
def b4D:FSem:=⟨[.v QU,.v QU],[.v QU,.v QU],a9Q⟩
def a9R(x:(Int×Int×Int)):Option (Int×Int):=cond (decide (x.2.2.toNat≤1)) (some ((((x.1.toNat+x.2.1.toNat+x.2.2.toNat)%18446744073709551616:Nat):Int),(((x.1.toNat+x.2.1.toNat+x.2.2.toNat) / 18446744073709551616:Nat):Int))) none
def b4E:FSem:=⟨[.v QU,.v QU,.v QU],[.v QU,.v QU],a9R⟩
def a9S(x:Int):Option Int:=(show Option (Int×Int×Unit)from cond (decide (x≥4294967296)) (some (A0o .u64 x 32,32,())) (some (x,0,()))).bind fun z1=>(show Option (Int×Int×Unit)from cond (decide (z1.1≥65536)) (some (A0o .u64 z1.1 16,wrap .i64 (z1.2.1+16),())) (some (z1.1,z1.2.1,()))).bind fun z2=>(show Option (Int×Int×Unit)from cond (decide (z2.1≥256)) (some (A0o .u64 z2.1 8,wrap .i64 (z2.2.1+8),())) (some (z2.1,z2.2.1,()))).bind fun z3=>(m0k [0,1,2,2,3,3,3,3,4,4,4,4,4,4,4,4,5,5,5,5,5,5,5,5,5,5,5,5,5,5,5,5,6,6,6,6,6,6,6,6,6,6,6,6,6,6,6,6,6,6,6,6,6,6,6,6,6,6,6,6,6,6,6,6,7,7,7,7,7,7,7,7,7,7,7,7,7,7,7,7,7,7,7,7,7,7,7,7,7,7,7,7,7,7,7,7,7,7,7,7,7,7,7,7,7,7,7,7,7,7,7,7,7,7,7,7,7,7,7,7,7,7,7,7,7,7,7,7,8,8,8,8,8,8,8,8,8,8,8,8,8,8,8,8,8,8,8,8,8,8,8,8,8,8,8,8,8,8,8,8,8,8,8,8,8,8,8,8,8,8,8,8,8,8,8,8,8,8,8,8,8,8,8,8,8,8,8,8,8,8,8,8,8,8,8,8,8,8,8,8,8,8,8,8,8,8,8,8,8,8,8,8,8,8,8,8,8,8,8,8,8,8,8,8,8,8,8,8,8,8,8,8,8,8,8,8,8,8,8,8,8,8,8,8,8,8,8,8,8,8,8,8,8,8,8,8] (wrap .u8 z3.1)).bind fun x4=>some (wrap .i64 (z3.2.1+(wrap .i64 x4)))
def b4F:FSem:=⟨[.v QU],[.v QI],a9S⟩
def d2u:Hints:=⟨[],[(3,[Qn [.sv 0 QU,2]]),(7,[Qn [.sv 0 QU,2]]),(15,[Qn [.sv 0 QU,2]])],[]⟩
def a5W(x:Int):Option Int:=(a9S x).bind fun y1=>some (wrap .i64 (64-y1))
def a9O:FSem:=⟨[.v QU],[.v QI],a5W⟩
def b2H(s:Z92):Option (Z92 ⊕ Z84):=(fun(a b c d e f g h:Int)=>(show Option (Z92 ⊕ Z84)from cond (decide (g≥4294967296)) (some (Sum.inl (s.1,a,b,c,d,e,f,g,h,()))) (cond (decide ((wrap .u64 (g*c)) > (wrap .u64 ((wrap .u64 (4294967296*h))+e)))) (some (Sum.inl (s.1,a,b,c,d,e,f,g,h,()))) (some (Sum.inr ((s.1,a,b,c,d,e,f,g,())))))).bind fun z2=>match z2 with |.inl a3=>(cond (decide ((wrap .u64 (a3.2.2.2.2.2.2.2.2.1+a3.2.2.1))≥4294967296)) (some (.inr (a3.1,a3.2.1,a3.2.2.1,a3.2.2.2.1,a3.2.2.2.2.1,a3.2.2.2.2.2.1,a3.2.2.2.2.2.2.1,wrap .u64 (a3.2.2.2.2.2.2.2.1-1),()))) (some (.inl (a3.1,a3.2.1,a3.2.2.1,a3.2.2.2.1,a3.2.2.2.2.1,a3.2.2.2.2.2.1,a3.2.2.2.2.2.2.1,wrap .u64 (a3.2.2.2.2.2.2.2.1-1),wrap .u64 (a3.2.2.2.2.2.2.2.2.1+a3.2.2.1),())))) |.inr b4=>some (.inr (b4.1,b4.2.1,b4.2.2.1,b4.2.2.2.1,b4.2.2.2.2.1,b4.2.2.2.2.2.1,b4.2.2.2.2.2.2.1,b4.2.2.2.2.2.2.2.1,()))) s.2.1 s.2.2.1 s.2.2.2.1 s.2.2.2.2.1 s.2.2.2.2.2.1 s.2.2.2.2.2.2.1 s.2.2.2.2.2.2.2.1 s.2.2.2.2.2.2.2.2.1
def b2I(s:Z92):Option (Z92 ⊕ Z56):=(fun(a b c d e f g h:Int)=>(show Option (Z92 ⊕ Z56)from cond (decide (h≥4294967296)) (some (Sum.inl (s.1,a,b,c,d,e,f,g,h,()))) (cond (decide ((wrap .u64 (h*c)) > (wrap .u64 ((wrap .u64 (4294967296*f))+d)))) (some (Sum.inl (s.1,a,b,c,d,e,f,g,h,()))) (some (Sum.inr ((s.1,a,d,e,g,h,())))))).bind fun z6=>match z6 with |.inl a7=>(cond (decide ((wrap .u64 (a7.2.2.2.2.2.2.1+a7.2.2.1))≥4294967296)) (some (.inr (a7.1,a7.2.1,a7.2.2.2.2.1,a7.2.2.2.2.2.1,a7.2.2.2.2.2.2.2.1,wrap .u64 (a7.2.2.2.2.2.2.2.2.1-1),()))) (some (.inl (a7.1,a7.2.1,a7.2.2.1,a7.2.2.2.1,a7.2.2.2.2.1,a7.2.2.2.2.2.1,wrap .u64 (a7.2.2.2.2.2.2.1+a7.2.2.1),a7.2.2.2.2.2.2.2.1,wrap .u64 (a7.2.2.2.2.2.2.2.2.1-1),())))) |.inr b8=>some (.inr (b8.1,b8.2.1,b8.2.2.1,b8.2.2.2.1,b8.2.2.2.2.1,b8.2.2.2.2.2.1,()))) s.2.1 s.2.2.1 s.2.2.2.1 s.2.2.2.2.1 s.2.2.2.2.2.1 s.2.2.2.2.2.2.1 s.2.2.2.2.2.2.2.1 s.2.2.2.2.2.2.2.2.1
def a9T(x:(Int×Int×Int)):Option (Int×Int):=(fun(a b:Int)=>cond (x.2.2==0) none (cond (decide (x.2.2≤a)) none (cond (a==0) (cond (x.2.2==0) none (cond (x.2.2==0) none (some (wrap .u64 (a08 b x.2.2),a06 b x.2.2)))) ((a5W x.2.2).bind fun y1=>cond (decide ((wrap .u64 y1)<0)) none (cond (decide ((wrap .u64 y1)<0)) none (cond (decide ((wrap .u64 (64-(wrap .u64 y1)))<0)) none (cond (decide ((wrap .u64 y1)<0)) none (cond ((A0o .u64 (A0n .u64 x.2.2 (wrap .u64 y1)) 32)==0) none ((y0s b2H (A0n .u64 x.2.2 (wrap .u64 y1),wrap .u64 y1,A0o .u64 (A0n .u64 x.2.2 (wrap .u64 y1)) 32,bits .u64 .and (A0n .u64 x.2.2 (wrap .u64 y1)) 4294967295,bits .u64 .or (A0n .u64 a (wrap .u64 y1)) (A0o .u64 b (wrap .u64 (64-(wrap .u64 y1)))),A0o .u64 (A0n .u64 b (wrap .u64 y1)) 32,bits .u64 .and (A0n .u64 b (wrap .u64 y1)) 4294967295,wrap .u64 (a08 (bits .u64 .or (A0n .u64 a (wrap .u64 y1)) (A0o .u64 b (wrap .u64 (64-(wrap .u64 y1))))) (A0o .u64 (A0n .u64 x.2.2 (wrap .u64 y1)) 32)),wrap .u64 ((bits .u64 .or (A0n .u64 a (wrap .u64 y1)) (A0o .u64 b (wrap .u64 (64-(wrap .u64 y1)))))-(wrap .u64 ((wrap .u64 (a08 (bits .u64 .or (A0n .u64 a (wrap .u64 y1)) (A0o .u64 b (wrap .u64 (64-(wrap .u64 y1))))) (A0o .u64 (A0n .u64 x.2.2 (wrap .u64 y1)) 32)))*(A0o .u64 (A0n .u64 x.2.2 (wrap .u64 y1)) 32)))),())).bind fun w5=>cond (w5.2.2.1==0) none ((y0s b2I (w5.1,w5.2.1,w5.2.2.1,w5.2.2.2.1,w5.2.2.2.2.2.2.1,w5.2.2.2.2.2.2.2.1,wrap .u64 ((wrap .u64 ((wrap .u64 ((wrap .u64 (w5.2.2.2.2.1*4294967296))+w5.2.2.2.2.2.1))-(wrap .u64 (w5.2.2.2.2.2.2.2.1*w5.1))))-(wrap .u64 ((wrap .u64 (a08 (wrap .u64 ((wrap .u64 ((wrap .u64 (w5.2.2.2.2.1*4294967296))+w5.2.2.2.2.2.1))-(wrap .u64 (w5.2.2.2.2.2.2.2.1*w5.1)))) w5.2.2.1))*w5.2.2.1))),wrap .u64 ((wrap .u64 ((wrap .u64 (w5.2.2.2.2.1*4294967296))+w5.2.2.2.2.2.1))-(wrap .u64 (w5.2.2.2.2.2.2.2.1*w5.1))),wrap .u64 (a08 (wrap .u64 ((wrap .u64 ((wrap .u64 (w5.2.2.2.2.1*4294967296))+w5.2.2.2.2.2.1))-(wrap .u64 (w5.2.2.2.2.2.2.2.1*w5.1)))) w5.2.2.1),())).bind fun w9=>cond (decide (w9.2.1<0)) none (some (wrap .u64 ((wrap .u64 (w9.2.2.2.1*4294967296))+w9.2.2.2.2.2.1),A0o .u64 (wrap .u64 ((wrap .u64 ((wrap .u64 (w9.2.2.2.2.1*4294967296))+w9.2.2.1))-(wrap .u64 (w9.2.2.2.2.2.1*w9.1)))) w9.2.1)))))))))))) x.1 x.2.1
def b4G:FSem:=⟨[.v QU,.v QU,.v QU],[.v QU,.v QU],a9T⟩
def d2v:Hints:=⟨[(131068,[.sv 2 QU,.sv 8 QU,.sv 9 QU,.sv 10 QU,.sv 11 QU,.sv 13 QU,.sv 14 QU,.sv 15 QU,.sv 16 QU],[Qe 0 [.sv 2 QU,.sv 8 QU,.sv 9 QU,.sv 10 QU,.sv 11 QU,.sv 13 QU,.sv 14 QU,.sv 15 QU]]),(2097148,[.sv 2 QU,.sv 8 QU,.sv 9 QU,.sv 10 QU,.sv 14 QU,.sv 15 QU,.sv 16 QU,.sv 17 QU,.sv 18 QU],[Qe 2 [.sv 2 QU,.sv 8 QU,.sv 14 QU,.sv 15 QU,.sv 17 QU,.sv 18 QU]])],[(262136,[Qn [.sv 2 QU,.sv 8 QU,.sv 9 QU,.sv 10 QU,.sv 11 QU,.sv 13 QU,.sv 14 QU,.sv 15 QU,.sv 16 QU],Qe 0 [.sv 2 QU,.sv 8 QU,.sv 9 QU,.sv 10 QU,.sv 11 QU,.sv 13 QU,.sv 14 QU,.sv 15 QU]]),(4194296,[Qn [.sv 2 QU,.sv 8 QU,.sv 9 QU,.sv 10 QU,.sv 14 QU,.sv 15 QU,.sv 16 QU,.sv 17 QU,.sv 18 QU],Qe 2 [.sv 2 QU,.sv 8 QU,.sv 14 QU,.sv 15 QU,.sv 17 QU,.sv 18 QU]])],[(6,[.v,.v,.v,.v,.v,.v,.v,.x])]⟩
def a9U(x:(Int×Int×Int)):Option Int:=cond (x.2.2==0) none ((a9T (a06 x.1 x.2.2,x.2.1,x.2.2)).bind fun y1=>some y1.2)
def b4H:FSem:=⟨[.v QU,.v QU,.v QU],[.v QU],a9U⟩
def a7L(x:(Int×Int×Int)):Option Int:=(a9Q (x.1,x.2.1)).bind fun y1=>(a9R (y1.2,x.2.2,0)).bind fun y2=>(a9U (wrap .u64 (y1.1+y2.2),y2.1,2305843009213693951)).bind fun y3=>some y3
def c2h:FSem:=⟨[.v QU,.v QU,.v QU],[.v QU],a7L⟩
def b5Y(s:Z8):Option (Z8 ⊕ (Int×Unit)):=(fun(a b c:Int)=>cond (decide (a > 0)) ((show Option Z8 from cond ((a06 a 2)==1) ((a7L (b,c,0)).bind fun y1=>some (a,y1,c,())) (some (a,b,c,()))).bind fun z2=>(a7L (z2.2.2.1,z2.2.2.1,0)).bind fun y3=>some (.inl (wrap .i64 (a08 z2.1 2),z2.2.1,y3,()))) (some (.inr (b,())))) s.1 s.2.1 s.2.2.1
def b3X(x:Int):Option Int:=(y0s b5Y (v0r x 0,1,1000003,())).bind fun w4=>some w4.1
def b9T:FSem:=⟨[.v QI],[.v QU],b3X⟩
def H69:Hints:=⟨[(58,[0,.sv 3 QU,.sv 4 QU],[Qe 0 [.sv 3 QU]])],[(932,[Qn [0,.sv 3 QU,.sv 4 QU]])],[]⟩
def b1P(x:(Int×Int×Int)):Option (Int×Bool):=(show Option Z25 from cond (decide (x.1≥2305843009213693951)) (some (x.1,x.2.1,x.2.2,true,())) (cond (decide (x.2.1≥2305843009213693951)) (some (x.1,x.2.1,x.2.2,true,())) (some (x.1,x.2.1,x.2.2,decide (x.2.2<0),())))).bind fun z1=>cond z1.2.2.2.1 (some (0,false)) ((b3X z1.2.2.1).bind fun y2=>(a7L (z1.1,y2,z1.2.1)).bind fun y3=>some (y3,true))
def c2i:FSem:=⟨[.v QU,.v QU,.v QI],[.v QU,.v .bool],b1P⟩
def H29:Hints:=⟨[],[(6,[Qn [.sv 0 QU,.sv 1 QU,2,.sv 17 .bool]])],[]⟩
def b5q(s:(Int×(Int×(Int×((List LI)×Z88))))):Option ((Int×(Int×(Int×((List LI)×Z88)))) ⊕ Z88):=(fun(a:Int)(b:List LI)(c d:Int)(e:LI)(f:Z13)=>cond (decide (d<c)) ((m0k b d).bind fun x3=>(m0k x3 s.1).bind fun x4=>cond (lim ((a02 e)+1)) (some (.inl (s.1,s.2.1,a,b,c,wrap .i64 (d+1),a03 e [x4],f,()))) none) (some (.inr (s.2.1,a,e,f,())))) s.2.2.1 s.2.2.2.1 s.2.2.2.2.1 s.2.2.2.2.2.1 s.2.2.2.2.2.2.1 s.2.2.2.2.2.2.2.1
def b5r(s:Z88):Option (Z88 ⊕ (LI×Unit)):=cond (decide (s.2.1<s.1)) ((y0s b5q (s.2.1,s.1,s.2.1,s.2.2.2.1.2.1,(s.2.2.2.1.2.1.length:Int),0,s.2.2.1,s.2.2.2.1,())).bind fun w5=>some (.inl (w5.1,wrap .i64 (w5.2.1+1),w5.2.2.1,w5.2.2.2.1,()))) (some (.inr (s.2.2.1,())))
def a9P(x:Z13):Option LI:=(a2P x).bind fun y1=>cond (!y1) (some []) ((a2r x).bind fun y2=>(y0s b5r (y2,0,[],x,())).bind fun w6=>some w6.1)
def b8X:FSem:=⟨[.v Q15],[.o QI],a9P⟩
def H41:Hints:=⟨[(122,[11,12,.own 3 3 QI,.vp 1 Q15],[Qe 0 [.own 3 3 QI]]),(31334,[4,11,12,.sv 16 (.list false QL),17,18,.own 3 3 QI,.vp 1 Q15],[Qe 2 [11,12,.own 3 3 QI,.vp 1 Q15]])],[],[]⟩
def b5s(s:(Int×(Int×(Int×(LI×(Int×Z36)))))):Option ((Int×(Int×(Int×(LI×(Int×Z36))))) ⊕ Z78):=(fun(a:Int)(b:LI)(c d e f:Int)(g:LI)=>cond (decide (f<e)) (cond (decide ((wrap .i64 (8*f))<0)) none (cond (lim ((a02 g)+1)) (some (.inl (s.1,s.2.1,a,b,c,d,e,wrap .i64 (f+1),a03 g [wrap .u8 (bits .i64 .and (A0o .i64 a (wrap .i64 (8*f))) 255)],()))) none)) (some (.inr (s.1,s.2.1,b,c,d,g,())))) s.2.2.1 s.2.2.2.1 s.2.2.2.2.1 s.2.2.2.2.2.1 s.2.2.2.2.2.2.1 s.2.2.2.2.2.2.2.1 s.2.2.2.2.2.2.2.2.1
def b5t(s:Z78):Option (Z78 ⊕ Z50):=(fun(a:LI)(b c:Int)(d:LI)=>cond (decide (c<b)) ((m0k a c).bind fun x2=>(a1K (x2,s.1)).bind fun y3=>cond (!y3) (some (.inr (Sum.inr ((6,[],()))))) ((y0s b5s (s.1,s.2.1,x2,a,b,c,s.2.1,0,d,())).bind fun w4=>some (.inl (w4.1,w4.2.1,w4.2.2.1,w4.2.2.2.1,wrap .i64 (w4.2.2.2.2.1+1),w4.2.2.2.2.2.1,())))) (some (.inr (Sum.inl (d,()))))) s.2.2.1 s.2.2.2.1 s.2.2.2.2.1 s.2.2.2.2.2.1
def b3p(x:(LI×Int)):Option (LI×Int):=(show Option Z20 from cond (decide (x.2<4)) (some (x.1,x.2,true,())) (some (x.1,x.2,decide (x.2 > 24),()))).bind fun z1=>cond z1.2.2.1 (some ([],1)) ((y0s b5t (z1.2.1,wrap .i64 (a08 (wrap .i64 (z1.2.1+7)) 8),z1.1,(z1.1.length:Int),0,[],())).bind fun w5=>match w5 with |.inl a6=>some (a6.1,0) |.inr b7=>some (b7.2.1,b7.1))
def b8Y:FSem:=⟨[.v QL,.v QI],[.o QV,.v QI],b3p⟩
def d2w:Hints:=⟨[(250,[1,6,.sv 20 QL,21,22,.own 7 7 QV],[Qe 0 [.own 7 7 QV],Qr [5,.own 4 4 QV]]),(128206,[1,6,9,.sv 20 QL,21,22,30,31,.own 7 7 QV],[Qe 2 [1,6,.sv 20 QL,21,22,.own 7 7 QV]])],[(6,[Qn [.sv 0 QL,1,.sv 16 .bool]])],[]⟩
def b0W(x:Z13):Option (LI×Int):=(a2P x).bind fun y1=>cond (!y1) (some ([],1)) ((a9P x).bind fun y2=>(b3p (y2,x.1)).bind fun y3=>some (y3.1,y3.2))
def b9U:FSem:=⟨[.v Q15],[.o QV,.v QI],b0W⟩
def H76:Hints:=⟨[],[],[(3,[.v,.q,.v,.v,.x,.q,.q,.x,.x])]⟩
def b5Z(s:Z32):Option Z68:=(fun(a b:Int)=>cond (decide (b<a)) ((m0k s.2.1 b).bind fun x1=>(a7L (s.1,1000003,wrap .u64 ((wrap .u64 x1)+1))).bind fun y2=>some (.inl (y2,s.2.1,a,wrap .i64 (b+1),()))) (some (.inr (s.1,())))) s.2.2.1 s.2.2.2.1
def b0X(x:LI):Option Int:=(y0s b5Z (0,x,(x.length:Int),0,())).bind fun w3=>some w3.1
def b9V:FSem:=⟨[.v QB],[.v QU],b0X⟩
def H77:Hints:=⟨[(58,[.sv 3 QU,.sv 6 QB,7,8],[Qe 0 [.sv 3 QU]])],[],[]⟩
def a7h(x:Z30):Option (Int×Bool):=(b0W x.2).bind fun y1=>cond (y1.2 != 0) (some (0,false)) ((b0X y1.1).bind fun y2=>(b1P (x.1,y2,(y1.1.length:Int))).bind fun y3=>some (y3.1,y3.2))
def b7n:FSem:=⟨[.v QU,.v Q15],[.v QU,.v .bool],a7h⟩
def b6a(s:(LI×(Int×(LI×(Int×Int×a4j×Z96×a7z))))):Option ((LI×(Int×(LI×(Int×Int×a4j×Z96×a7z)))) ⊕ ((LI×(Int×a4j×Z96×a7z)) ⊕ (Int×a7z))):=(fun(a:Int)(b:LI)(c d:Int)(e:a4j)(f:Z96)(g:a4j)=>cond (decide (d<c)) ((m0k b d).bind fun x2=>(b0V (s.1,f,d,a,g.2.1)).bind fun y3=>cond (y3.2.2 != 0) (some (.inr (Sum.inr ((y3.2.2,((0,0,0,()),0,0,[],[],()),()))))) ((a7h (g.2.2.1,y3.2.1)).bind fun y4=>cond (lim ((a02 g.2.2.2.1)+1)) (cond (lim ((a02 g.2.2.2.2.1)+1)) (some (.inl (s.1,wrap .i64 (a+x2),b,c,wrap .i64 (d+1),e,f,(g.1,wrap .i64 (g.2.1+y3.1.2.1),y4.1,a03 g.2.2.2.1 ([(g.2.1,wrap .i64 (a-f.2.2.2.2.2.1),())]:List (Int×Int×Unit)),a03 g.2.2.2.2.1 ([y3.1]:List a1C),g.2.2.2.2.2),()))) none) none)) (some (.inr (Sum.inl (s.1,a,e,f,g,()))))) s.2.1 s.2.2.1 s.2.2.2.1 s.2.2.2.2.1 s.2.2.2.2.2.1 s.2.2.2.2.2.2.1 s.2.2.2.2.2.2.2.1
def a5g(x:LI):Option (a4j×Int):=(b1s x).bind fun y1=>cond (y1.2 != 0) (some (((0,0,0,()),0,0,[],[],()),y1.2)) ((y0s b6a (x,y1.1.2.2.2.2.2.1,y1.1.2.1,(y1.1.2.1.length:Int),0,((0,0,0,()),0,0,[],[],()),y1.1,(y1.1.1,0,0,[],[],()),())).bind fun w5=>match w5 with |.inl a6=>(cond (decide (a6.2.1<(a6.1.length:Int))) (some (((0,0,0,()),0,0,[],[],()),2)) (cond (a6.2.2.2.2.1.2.2.1 != a6.2.2.2.1.2.2.2.2.1) (some (((0,0,0,()),0,0,[],[],()),5)) (some (a6.2.2.2.2.1,0)))) |.inr b7=>some (b7.2.1,b7.1))
def b9W:FSem:=⟨[.v QB],[.v Q74,.v QI],a5g⟩
def H14:Hints:=⟨[(506,[.sv 0 QB,7,.sv 28 QL,29,30,.box 2 Q74,.box 4 Q27,.box 6 Q73,Qp 2 2,Qp 4 4,Qp 6 6],[Qe 0 [.sv 0 QB,7,.box 2 Q74,.box 4 Q27,.box 6 Q73,Qp 2 2,Qp 4 4,Qp 6 6],Qr [3,.box 2 Q74,Qp 2 2]])],[],[]⟩
def a6L(s:(Z17×Z30)):Option ((Z17×Z30) ⊕ (Z2 ⊕ Z15)):=cond (decide (s.2.2.1<s.2.1)) ((m0k s.1 s.2.2.1).bind fun x5=>(a6J (s.2.2.2.1,x5,1)).bind fun y6=>cond (!y6.1) (some (.inr (Sum.inr ((([]:(List LI)),6,()))))) (some (.inl (s.1,s.2.1,wrap .i64 (s.2.2.1+1),y6.2,())))) (some (.inr (Sum.inl (s.2.2.2.1,()))))
def a9G(x:((List LI)×Z17)):Option ((List LI)×Int):=(show Option ((List LI)×(Z17×Bool×Unit))from(a6l x.1).bind fun y1=>cond (!y1) (some (x.1,x.2,true,())) ((a7a (x.2,(x.1.length:Int))).bind fun y2=>some (x.1,x.2,!y2,()))).bind fun z3=>cond z3.2.2.1 (some (([]:(List LI)),1)) ((a5U z3.1).bind fun y4=>(y0s a6L (z3.2.1,(z3.2.1.length:Int),0,y4,())).bind fun w7=>match w7 with |.inl a8=>some (a8.1,0) |.inr b9=>some (b9.1,b9.2.1))
def c5g:FSem:=⟨[.v (.list false QL),.v (.list false Q12)],[.v (.list false QL),.v QI],a9G⟩
def H47:Hints:=⟨[(122,[.sv 21 (.list false Q12),22,23,.own 6 6 (.list true QI)],[Qe 0 [.own 6 6 (.list true QI)],Qr [.sv 4 (.list false QL),5]])],[(6,[Qn [.sv 0 (.list false QL),.sv 1 (.list false Q12),.sv 18 .bool]])],[]⟩
def a5E(s:(Int×(LI×Z45))):Option ((Int×(LI×Z45)) ⊕ Z45):=(fun(a:LI)(b:Int)(c:List LI)(d e:Int)=>cond (decide (b<(a.length:Int))) ((m0k a b).bind fun x3=>(m0k a (wrap .i64 (b-1))).bind fun x4=>(m0k a (wrap .i64 (b-2))).bind fun x5=>some (.inl (wrap .i64 (s.1+(v0r (wrap .i64 ((wrap .i64 (x3-(wrap .i64 (2*x4))))+x5)) (wrap .i64 (0-(wrap .i64 ((wrap .i64 (x3-(wrap .i64 (2*x4))))+x5)))))),a,wrap .i64 (b+1),c,d,e,()))) (some (.inr (s.1,c,d,e,())))) s.2.1 s.2.2.1 s.2.2.2.1 s.2.2.2.2.1 s.2.2.2.2.2.1
def a5F(s:Z45):Option (Z45 ⊕ (Int×Unit)):=(fun(a b:Int)=>cond (decide (b<a)) ((m0k s.2.1 b).bind fun x2=>(y0s a5E (s.1,x2,2,s.2.1,a,b,())).bind fun w6=>some (.inl (w6.1,w6.2.1,w6.2.2.1,wrap .i64 (w6.2.2.2.1+1),()))) (some (.inr (s.1,())))) s.2.2.1 s.2.2.2.1
def a5X(x:(List LI)):Option Int:=(a6l x).bind fun y1=>cond (!y1) (some 0) ((y0s a5F (0,x,(x.length:Int),0,())).bind fun w7=>some w7.1)
def b8Z:FSem:=⟨[.v (.list false QL)],[.v QI],a5X⟩
def d2x:Hints:=⟨[(122,[3,.sv 11 (.list false QL),12,13],[Qe 0 [3]]),(31334,[3,.sv 5 QL,6,.sv 11 (.list false QL),12,13],[Qe 2 [3,.sv 11 (.list false QL),12,13]])],[],[(10,[.v,.v,.v,.v,.v,.v,.v,.v,.v,.v,.v,.v,.v,.v,.v,.v,.x,.x])]⟩
def a8x(x:Int):Option Z17:=cond (x==1) (some ([(0,1,(-256),())]:List Z8)) (cond (x==2) (some ([(1,0,(-256),())]:List Z8)) (cond (x==3) (some ([(1,0,(-256),()),(0,1,128,())]:List Z8)) (cond (x==4) (some ([(1,0,(-106),()),(0,1,181,()),(1,0,(-106),())]:List Z8)) (some []))))
def b9X:FSem:=⟨[.v QI],[.o Q12],a8x⟩
def a5h(s:((List LI)×Z8)):Option (((List LI)×Z8) ⊕ (Int×Unit)):=(fun(a:List LI)(b c d:Int)=>cond (decide (d<5)) ((a8x d).bind fun y2=>(a9G (a,y2)).bind fun y3=>cond (y3.2 != 0) (some (.inl (a,b,c,wrap .i64 (d+1),()))) ((a5X y3.1).bind fun y4=>cond (decide (y4<c)) (some (.inl (a,d,y4,wrap .i64 (d+1),()))) (some (.inl (a,b,c,wrap .i64 (d+1),()))))) (some (.inr (b,())))) s.1 s.2.1 s.2.2.1 s.2.2.2.1
def a9p(x:(List LI)):Option Z17:=(a5X x).bind fun y1=>(y0s a5h (x,0,y1,1,())).bind fun w5=>(a8x w5.1).bind fun y6=>some y6
def c2j:FSem:=⟨[.v (.list false QL)],[.o Q12],a9p⟩
def H86:Hints:=⟨[(58,[.sv 0 (.list false QL),3,4,5],[Qe 0 [3]])],[],[]⟩
def a5i(s:(Int×Int×Int×Z17×Z94)):Option ((Int×Int×Int×Z17×Z94) ⊕ (Int×Z94)):=(fun(a b:Int)(c d:Z17)(e:Z13)=>cond (decide (b<s.2.1)) (cond ((decide (0≤b))&&(decide (b<(d.length:Int)))) (cond (lim ((a02 c)+1)) (some (.inl (a,s.2.1,wrap .i64 (b+1),a03 c ([(wrap .i64 (((a04 d (a00 b) (0,0,0,())).1)+a),wrap .i64 ((((a04 d (a00 b) (0,0,0,())).2).1)+a),(((a04 d (a00 b) (0,0,0,())).2).2).1,())]:List Z8),d,e,()))) none) none) (some (.inr (a,c,e,())))) s.1 s.2.2.1 s.2.2.2.1 s.2.2.2.2.1 s.2.2.2.2.2.1
def a7i(s:(Int×Z94)):Option ((Int×Z94) ⊕ (Z17×Unit)):=(fun(a:Int)(b:Z13)=>cond (decide ((wrap .i64 (a+1))<(b.2.1.length:Int))) (cond ((decide (0≤(wrap .i64 (a+2))))&&(decide ((wrap .i64 (a+2))≤(b.2.1.length:Int)))) (cond ((decide (0≤a))&&(decide (a≤((a00 (wrap .i64 (a+2)):Nat):Int)))) ((a9p (a09 (a00 a) (a07 (a00 (wrap .i64 (a+2))) b.2.1))).bind fun y2=>(y0s a5i (a,(y2.length:Int),0,s.2.1,y2,b,())).bind fun w3=>some (.inl (wrap .i64 (w3.1+2),w3.2.1,w3.2.2.1,()))) none) none) (some (.inr (s.2.1,())))) s.1 s.2.2.1
def a6m(x:Z13):Option Z17:=(a2P x).bind fun y1=>cond (!y1) (some []) ((y0s a7i (0,[],x,())).bind fun w4=>some w4.1)
def c2k:FSem:=⟨[.v Q15],[.o Q12],a6m⟩
def H46:Hints:=⟨[(122,[4,.own 3 3 Q12,.vp 1 Q15],[Qe 0 [.own 3 3 Q12]]),(7826,[4,25,26,.own 3 3 Q12,.own 24 1024 Q12,.vp 1 Q15],[Qe 2 [4,.own 3 3 Q12,.vp 1 Q15]])],[],[]⟩
def a5G(s:Z61):Option (Z61 ⊕ Z50):=(fun(a:Int)(b:LI)(c d:Int)(e:LI)=>cond (decide (d<c)) ((m0k b d).bind fun x2=>(show Option (Int×(Int×(LI×(Int×Int×Z9))))from(a4n x2).bind fun y3=>cond (!y3) (some (a,x2,b,c,d,true,e,())) (cond (decide (a<0)) none (cond ((A0n .i64 1 a)==0) none (some (a,x2,b,c,d,(a06 x2 (A0n .i64 1 a)) != 0,e,()))))).bind fun z4=>cond z4.2.2.2.2.2.1 (some (.inr (Sum.inr ((6,[],()))))) (cond (decide (z4.1<0)) none (cond (lim ((a02 z4.2.2.2.2.2.2.1)+1)) (some (.inl (z4.1,z4.2.2.1,z4.2.2.2.1,wrap .i64 (z4.2.2.2.2.1+1),a03 z4.2.2.2.2.2.2.1 [A0o .i64 z4.2.1 z4.1],()))) none))) (some (.inr (Sum.inl (e,()))))) s.1 s.2.1 s.2.2.1 s.2.2.2.1 s.2.2.2.2.1
def a5Y(x:(LI×Int)):Option (LI×Int):=(show Option Z20 from cond (decide (x.2<0)) (some (x.1,x.2,true,())) (some (x.1,x.2,decide (x.2 > 30),()))).bind fun z1=>cond z1.2.2.1 (some ([],1)) ((y0s a5G (z1.2.1,z1.1,(z1.1.length:Int),0,[],())).bind fun w5=>match w5 with |.inl a6=>some (a6.1,0) |.inr b7=>some (b7.2.1,b7.1))
def b9a:FSem:=⟨[.v QL,.v QI],[.o QI,.v QI],a5Y⟩
def H92:Hints:=⟨[(122,[1,.sv 15 QL,16,17,.own 6 6 QI],[Qe 0 [.own 6 6 QI],Qr [5,.own 4 4 QI]])],[(6,[Qn [.sv 0 QL,1,.sv 14 .bool]]),(15666,[Qn [1,8,.sv 15 QL,16,17,.sv 30 .bool,.own 6 6 QI]])],[]⟩
def a1w(x:Int):Option Int:=cond (x==0) (some 64) ((m0k a9h (A0o .u64 (wrap .u64 ((bits .u64 .and x (wrap .u64 (0-x)))*285870213051353865)) 58)).bind fun x1=>some (wrap .i64 x1))
def a1j:FSem:=⟨[.v QU],[.v QI],a1w⟩
def a8y:Cx:=b3N [] [] 5 0
theorem b4R{ρ:Type}{cx:Cx}{ops:List Oper}:∀(l1 l2:List (Md×Oper)) (Γ:AE) (K:AE→Rs ρ),h0m cx ops (l1++l2) Γ K=h0m cx ops l1 Γ fun Γ'=>h0m cx ops l2 Γ' K
 | [],_,_,_=>rfl
 |(md,o)::l1,l2,Γ,K=>by
  simp only[a20,h0m];congr 1;funext Γ';exact b4R l1 l2 Γ' K
theorem b3Y{ρ:Type}{cx:Cx}{H:Hints}{a b:Code}{p:Nat}(h:find H.cuts p=none)(Γ:AE)(K:Ex→AE→Rs ρ):c0n cx H (.seq a b) p Γ K=c0n cx H a (2*p) Γ fun e Γ'=>match e with
   |.normal=>c0n cx H b (2*p+1) Γ' K
   |e=>K e Γ':=by
 simp only[c0n,h];rfl
theorem b9Y{ρ:Type}{cx:Cx}{H:Hints}{id:Nat}{ops:Array Oper}{p:Nat}(Γ:AE)(K:Ex→AE→Rs ρ):c0n cx H (.region id ops false) p Γ K=h0m cx ops.toList (ops.toList.map fun o=>(.x,o)) Γ fun Γ'=>K .normal Γ':=by
 simp only[c0n,cF]
def a8j:Code:=match Tryz.f134.body with
 |some c=>c
 |none=>.skip
def b7o:Code→Code
 |.seq a _=>a
 |c=>c
def c3J:Code→Code
 |.seq _ b=>b
 |c=>c
def c5h:Code→Array Oper
 |.region _ ops _=>ops
 |_=>#[]
def c3b:Code:=c3J (c3J a8j)
def b0Y:List Oper:=(c5h (b7o c3b)).toList
def Γ134(x:Int):AE:=(((ini [.v QU] x).set 2 (.val QI (0:Int))).set 3 (.val QU x)).set 4 (.val .bool (x==(0:Int)))
def Γ134r(x:Int):AE:=(Γ134 x).set 2 (.val QI (64:Int))
def b9Z(e:Ex)(Γ:AE):Option Int:=match e,Γ.pd with
  |.exit _,_=>none
  |_,some _=>none
  |_,none=>(Γ.upto Tryz.f134.ntmps).outs a8y [] Tryz.f134.ntmps [.v QI] (Tryz.f134.results.toList.map .inl) fun y _=>some y
def Γ134b(x a b c i:Int):AE:=((((((Γ134 x).set 5 (.val QU x)).set 6 (.val QU x)).set 7 (.val QU a)).set 8 (.val QU b)).set 9 (.val QU c)).set 10 (.val QU i)
set_option maxRecDepth 100000
theorem c6j:a8j=.seq (b7o a8j) (.seq (b7o (c3J a8j)) (.seq (.region 3 (c5h (b7o c3b)) false) .ret)):=by kernel_rfl
theorem c7O(x:Int):A0j a8y QH Tryz.f134 a1j.ps a1j.rs x=c0n a8y QH a8j 1 (ini [.v (.int .u64)] x) b9Z:=rfl
theorem c7P(x:Int)(K:Ex→AE→Option Int):c0n a8y QH (b7o a8j) 2 (ini [.v (.int .u64)] x) K=K .normal ((ini [.v (.int .u64)] x).set 2 (.val (.int .i64) (0:Int))):=by kernel_rfl
theorem c7Q(x:Int)(K:Ex→AE→Option Int):c0n a8y QH (b7o (c3J a8j)) 6 ((ini [.v (.int .u64)] x).set 2 (.val (.int .i64) (0:Int))) K=bif x==(0:Int)then K .ret (Γ134r x)else K .normal (Γ134 x):=by kernel_rfl
theorem c7R(x:Int):b9Z .ret (Γ134r x)=some (64:Int):=by kernel_rfl
theorem c7S(x:Int)(K:AE→Option Int):h0m a8y b0Y ((b0Y.map fun o=>(Md.x,o)).take 6) (Γ134 x) K =
  K (Γ134b x (wrap .u64 (0-x)) (bits .u64 .and x (wrap .u64 (0-x))) (wrap .u64 ((bits .u64 .and x (wrap .u64 (0-x)))*(285870213051353865:Int))) (A0o .u64 (wrap .u64 ((bits .u64 .and x (wrap .u64 (0-x)))*(285870213051353865:Int))) (58:Int))):=by kernel_rfl
theorem c7T(x a b c i:Int):h0m a8y b0Y ((b0Y.map fun o=>(Md.x,o)).drop 6) (Γ134b x a b c i) (fun Γ=>b9Z .ret Γ)=(m0k a9h i).bind fun h=>some (wrap .i64 h):=by kernel_rfl
theorem c7U(x:Int):h0m a8y b0Y (b0Y.map fun o=>(Md.x,o)) (Γ134 x) (fun Γ=>b9Z .ret Γ)=(m0k a9h (A0o .u64 (wrap .u64 ((bits .u64 .and x (wrap .u64 (0-x)))*(285870213051353865:Int))) (58:Int))).bind fun h=>some (wrap .i64 h):=by
 rw[←List.take_append_drop 6 (b0Y.map fun o=>(Md.x,o)),b4R,c7S,c7T]
theorem c8v(x:Int):c0n a8y QH a8j 1 (ini [.v (.int .u64)] x) b9Z=a1w x:=by
 rw[c6j,b3Y rfl,c7P];simp only[];rw[b3Y rfl,c7Q];simp only[];rw[b3Y rfl,b9Y];simp only[c0n];rw[c7R];exact congrArg (fun z=>bif x==(0:Int)then some (64:Int)else z) (c7U x)
theorem c9x(x):A0j a8y QH Tryz.f134 a1j.ps a1j.rs x=a1j.F x:=(c7O x).trans (c8v x)
def a4y(s:Z32):Option Z68:=(fun(a b:Int)=>cond (decide (b<a)) ((m0k s.2.1 b).bind fun x1=>some (.inl (bits .i64 .or s.1 x1,s.2.1,a,wrap .i64 (b+1),()))) (some (.inr (s.1,())))) s.2.2.1 s.2.2.2.1
def a3g(x:LI):Option Int:=(y0s a4y (0,x,(x.length:Int),0,())).bind fun w2=>cond (w2.1==0) (some 0) ((a1w (wrap .u64 w2.1)).bind fun y3=>some (v0s y3 30))
def b6b:FSem:=⟨[.v QL],[.v QI],a3g⟩
def H93:Hints:=⟨[(58,[3,.sv 6 QL,7,8],[Qe 0 [3]])],[],[]⟩
def a4z(s:Z36):Option (Z36 ⊕ Z18):=(fun(a b:Int)(c:LI)=>cond (decide ((wrap .i64 (a+1))<(c.length:Int))) (cond ((decide (0≤(wrap .i64 (a+1))))&&(decide ((wrap .i64 (a+1))<(c.length:Int)))) (cond ((decide (0≤a))&&(decide (a<(c.length:Int)))) (cond ((decide (0≤a))&&(decide (a<(c.length:Int)))) (some (.inl (wrap .i64 (a+1),s.2.1,b,a05 c (a00 a) (wrap .i64 ((a04 c (a00 (wrap .i64 (a+1))) 0)-(a04 c (a00 a) 0))),()))) none) none) none) (some (.inr (s.2.1,b,c,())))) s.1 s.2.2.1 s.2.2.2.1
def a6A(s:Z18):Option (Z18 ⊕ (LI×Unit)):=cond (decide (s.2.1<s.1)) ((y0s a4z (0,s.1,s.2.1,s.2.2.1,())).bind fun w3=>cond ((decide (0≤(wrap .i64 ((w3.2.2.1.length:Int)-1))))&&(decide ((wrap .i64 ((w3.2.2.1.length:Int)-1))≤(w3.2.2.1.length:Int)))) (cond (decide ((a00 (wrap .i64 ((w3.2.2.1.length:Int)-1)))≤(a02 w3.2.2.1))) (some (.inl (w3.1,wrap .i64 (w3.2.1+1),a07 (a00 (wrap .i64 ((w3.2.2.1.length:Int)-1))) w3.2.2.1,()))) none) none) (some (.inr (s.2.2.1,())))
def a3R(x:(LI×Int)):Option (LI×Int):=(show Option Z20 from cond (decide (x.2<0)) (some (x.1,x.2,true,())) (cond (decide (x.2 > 4)) (some (x.1,x.2,true,())) (some (x.1,x.2,decide ((x.1.length:Int)<x.2),())))).bind fun z1=>cond z1.2.2.1 (some ([],1)) ((a2s z1.1).bind fun y2=>cond (!y2) (some ([],6)) (cond (lim (a02 z1.1)) ((y0s a6A (z1.2.1,0,z1.1,())).bind fun w4=>(a2s w4.1).bind fun y5=>cond (!y5) (some ([],6)) (some (w4.1,0))) none))
def c0A:FSem:=⟨[.v QL,.v QI],[.o QI,.v QI],a3R⟩
def d2y:Hints:=⟨[(250,[25,26,.own 6 6 QI],[Qe 0 [.own 6 6 QI]]),(64098,[7,25,26,.own 6 6 QI],[Qe 2 [25,26,.own 6 6 QI]])],[(6,[Qn [.sv 0 QL,1,.sv 19 .bool]])],[(11,[.q,.v,.q,.v,.v,.q,.q,.q,.v,.q,.q,.v,.x,.x])]⟩
def a3S(s:Z52):Option (Z52 ⊕ (Int×Unit)):=(fun(a:Int)(b:LI)(c d:Int)=>cond (decide (d<c)) ((m0k b d).bind fun x1=>cond (decide ((wrap .i64 (d+s.1))≥4)) (some (.inl (s.1,wrap .i64 (a+(v0r x1 (wrap .i64 (0-x1)))),b,c,wrap .i64 (d+1),()))) (some (.inl (s.1,a,b,c,wrap .i64 (d+1),())))) (some (.inr (a,())))) s.2.1 s.2.2.1 s.2.2.2.1 s.2.2.2.2.1
def a7W(x:(LI×Int)):Option Int:=(y0s a3S (x.2,0,x.1,(x.1.length:Int),0,())).bind fun w2=>some w2.1
def b9b:FSem:=⟨[.v QL,.v QI],[.v QI],a7W⟩
def d2z:Hints:=⟨[(58,[1,5,.sv 8 QL,9,10],[Qe 0 [5]])],[],[]⟩
def a3h(s:Z34):Option (Z34 ⊕ (Int×Unit)):=(fun(a:LI)(b c d:Int)=>cond (decide (d≤4)) ((a3R (a,d)).bind fun y1=>cond (y1.2 != 0) (some (.inl (a,b,c,wrap .i64 (d+1),()))) ((a7W (y1.1,d)).bind fun y2=>(show Option (LI×(Int×Z25))from cond (decide (c<0)) (some (a,b,c,d,y2,true,())) (some (a,b,c,d,y2,decide (y2<c),()))).bind fun z3=>cond z3.2.2.2.2.2.1 (some (.inl (z3.1,z3.2.2.2.1,z3.2.2.2.2.1,wrap .i64 (z3.2.2.2.1+1),()))) (some (.inl (z3.1,z3.2.1,z3.2.2.1,wrap .i64 (z3.2.2.2.1+1),()))))) (some (.inr (b,())))) s.1 s.2.1 s.2.2.1 s.2.2.2.1
def a5j(x:LI):Option Int:=(y0s a3h (x,0,(-1),0,())).bind fun w4=>some w4.1
def c0B:FSem:=⟨[.v QL],[.v QI],a5j⟩
def d2A:Hints:=⟨[(58,[.sv 0 QL,3,4,5],[Qe 0 [3]])],[(7463,[Qn [.sv 0 QL,3,4,5,8,.sv 30 .bool]])],[]⟩
def a2n(x:Int):Option Int:=some (v0s (v0r x (-1048576)) 1048575)
def b7p:FSem:=⟨[.v QI],[.v QI],a2n⟩
def a2Z(s:Z75):Option (Z75 ⊕ Z62):=(fun(a b:Int)(c:LI)(d e:Int)=>cond (decide (a<0)) none ((a2n (A0o .i64 b a)).bind fun y2=>cond (decide (a<0)) none (cond (y2 != (A0o .i64 b a)) (some (.inl (s.1,wrap .i64 (a+1),b,c,d,e,()))) (some (.inr (s.1,a,c,d,e,())))))) s.2.1 s.2.2.1 s.2.2.2.1 s.2.2.2.2.1 s.2.2.2.2.2.1
def a4A(s:Z62):Option (Z62 ⊕ Z7):=(fun(a:LI)(b c:Int)=>cond (decide (c<b)) ((m0k a c).bind fun x1=>(y0s a2Z (s.1,s.2.1,x1,a,b,c,())).bind fun w3=>some (.inl (w3.1,w3.2.1,w3.2.2.1,w3.2.2.2.1,wrap .i64 (w3.2.2.2.2.1+1),()))) (some (.inr (s.1,s.2.1,())))) s.2.2.1 s.2.2.2.1 s.2.2.2.2.1
def a4B(s:Z61):Option (Z61 ⊕ (LI×Unit)):=(fun(a b:Int)(c:LI)=>cond (decide (b<a)) ((m0k s.2.1 b).bind fun x5=>cond (decide (s.1<0)) none (cond ((decide (0≤b))&&(decide (b<(c.length:Int)))) (some (.inl (s.1,s.2.1,a,wrap .i64 (b+1),a05 c (a00 b) (A0o .i64 x5 s.1),()))) none)) (some (.inr (c,())))) s.2.2.1 s.2.2.2.1 s.2.2.2.2.1
def a6B(x:LI):Option LI:=(y0s a4A (x,0,x,(x.length:Int),0,())).bind fun w4=>cond ((decide (0≤(w4.1.length:Int)))&&((decide ((w4.1.length:Int)≤(w4.1.length:Int)))&&(lim (a00 (w4.1.length:Int))))) ((y0s a4B (w4.2.1,w4.1,(w4.1.length:Int),0,a01 (a00 (w4.1.length:Int)) 0,())).bind fun w6=>some w6.1) none
def b6c:FSem:=⟨[.v QL],[.o QI],a6B⟩
def d2B:Hints:=⟨[(58,[.sv 0 QL,3,.sv 9 QL,10,11],[Qe 0 [.sv 0 QL,3]]),(250,[3,.sv 29 QL,30,31,.own 6 6 QI],[Qe 4 [.own 6 6 QI]]),(7474,[.sv 0 QL,3,5,.sv 9 QL,10,11],[Qe 2 [.sv 0 QL,3,.sv 9 QL,10,11]])],[],[(5,[.v,.v,.v,.v,.v,.v,.v,.x])]⟩
def a2S(s:Z60):Option (Z60 ⊕ (Int×Int×Unit)):=(fun(a b:LI)(c d e:Int)=>cond (decide (e<(a.length:Int))) ((m0k a e).bind fun x1=>(m0k b (wrap .i64 (e-1))).bind fun x2=>(m0k a e).bind fun x3=>(m0k a e).bind fun x4=>(m0k b (wrap .i64 (e-1))).bind fun x5=>(m0k b (wrap .i64 (e-1))).bind fun x6=>some (.inl (a,b,wrap .i64 (c+(wrap .i64 (x1*x2))),wrap .i64 (d+(wrap .i64 ((wrap .i64 (x3*x4))+(wrap .i64 (x5*x6))))),wrap .i64 (e+1),()))) (some (.inr (c,d,())))) s.1 s.2.1 s.2.2.1 s.2.2.2.1 s.2.2.2.2.1
def a2T(s:(Int×Int×Unit)):Option ((Int×Int×Unit) ⊕ (Int×Int×Unit)):=cond (decide (s.2.1≥1099511627776)) (some (.inl (A0o .i64 s.1 1,A0o .i64 s.2.1 1,()))) (some (.inr (s.1,s.2.1,())))
def a4e(x:Z12):Option Int:=(y0s a2S (x.1,x.2.1,0,0,x.2.2,())).bind fun w7=>(y0s a2T (w7.1,w7.2.1,())).bind fun w8=>cond (w8.2.1==0) (some 0) (cond (w8.2.1==0) none ((show Option (Int×Unit)from cond (w8.2.1==0) none (cond (decide ((a06 (A0n .i64 w8.1 15) w8.2.1)<0)) (some (wrap .i64 ((wrap .i64 (a08 (A0n .i64 w8.1 15) w8.2.1))-1),())) (some (wrap .i64 (a08 (A0n .i64 w8.1 15) w8.2.1),())))).bind fun z9=>some (v0s (v0r z9.1 (-16383)) 16383)))
def b3J:FSem:=⟨[.v QL,.v QL,.v QI],[.v QI],a4e⟩
def d2C:Hints:=⟨[(58,[.sv 0 QL,.sv 1 QL,7,8,9],[Qe 0 [7,8]]),(60,[7,8],[Qe 2 [7,8]])],[(255,[Qn [10]])],[(5,[.v,.v,.v,.v,.v,.v,.v,.v,.v,.v,.v,.x,.x]),(6,[.v,.v,.v,.v,.v,.v,.v,.v,.v,.v,.v,.v,.v,.v,.v,.v,.v,.v,.v,.v,.v,.v,.x,.x])]⟩
def a2K(s:(Int×Int×Z73)):Option ((Int×Int×Z73) ⊕ Z73):=(fun(a b c:Int)(d e f:LI)=>cond (decide (c≥a)) (cond ((decide (0≤c))&&(decide (c<(d.length:Int)))) (cond ((decide (0≤(wrap .i64 (c-1))))&&(decide ((wrap .i64 (c-1))<(e.length:Int)))) ((a2n (wrap .i64 ((a04 d (a00 c) 0)-(A0o .i64 (wrap .i64 (b*(a04 e (a00 (wrap .i64 (c-1))) 0))) 14)))).bind fun y6=>cond ((decide (0≤c))&&(decide (c<(d.length:Int)))) ((a2n (wrap .i64 ((a04 e (a00 (wrap .i64 (c-1))) 0)-(A0o .i64 (wrap .i64 (b*(a04 d (a00 c) 0))) 14)))).bind fun y7=>cond ((decide (0≤c))&&(decide (c<(e.length:Int)))) (some (.inl (s.1,a,b,wrap .i64 (c-1),a05 d (a00 c) y6,a05 e (a00 c) y7,f,()))) none) none) none) none) (some (.inr (s.1,a,d,e,f,())))) s.2.1 s.2.2.1 s.2.2.2.1 s.2.2.2.2.1 s.2.2.2.2.2.1 s.2.2.2.2.2.2.1
def a2L(s:Z73):Option (Z73 ⊕ (LI×Unit)):=(fun(a:Int)(b c d:LI)=>cond (decide (a≤s.1)) ((a4e (b,c,a)).bind fun y5=>cond (lim ((a02 d)+1)) ((y0s a2K (s.1,a,y5,wrap .i64 ((b.length:Int)-1),b,c,a03 d [y5],())).bind fun w8=>some (.inl (w8.1,wrap .i64 (w8.2.1+1),w8.2.2.1,w8.2.2.2.1,w8.2.2.2.2.1,()))) none) (some (.inr (d,())))) s.2.1 s.2.2.1 s.2.2.2.1 s.2.2.2.2.1
def a5H(x:(LI×Int)):Option (LI×Int):=(show Option Z20 from cond (decide (x.2<1)) (some (x.1,x.2,true,())) (cond (decide (x.2 > 32)) (some (x.1,x.2,true,())) (some (x.1,x.2,decide ((x.1.length:Int) > 4096),())))).bind fun z1=>cond z1.2.2.1 (some ([],1)) ((a2l z1.1).bind fun y2=>cond (!y2) (some ([],6)) ((a6B z1.1).bind fun y3=>(a0Z y3).bind fun y4=>cond ((decide (0≤z1.2.1))&&(lim (a00 z1.2.1))) ((y0s a2L (z1.2.1,1,y3,y4,[],())).bind fun w9=>some (w9.1,0)) none))
def b5u:FSem:=⟨[.v QL,.v QI],[.o QI,.v QI],a5H⟩
def d2D:Hints:=⟨[(1018,[1,9,.own 6 6 QI,.own 7 7 QI,.own 8 8 QI],[Qe 0 [.own 8 8 QI]]),(260686,[1,9,10,11,.own 6 6 QI,.own 7 7 QI,.own 8 8 QI],[Qe 2 [1,9,.own 6 6 QI,.own 7 7 QI,.own 8 8 QI]])],[(6,[Qn [.sv 0 QL,1,.sv 24 .bool]])],[(16,[.q,.v,.q,.q,.q,.v,.v,.q,.q,.v,.x])]⟩
def a1Q(s:Z42):Option (Z42 ⊕ ((LI×Unit) ⊕ Z7)):=(fun(a:LI)(b c:Int)=>cond (decide (c<b)) ((m0k a c).bind fun x2=>(show Option (LI×Z37)from cond (decide (x2<(-16383))) (some (s.1,a,b,c,true,())) (some (s.1,a,b,c,decide (x2 > 16383),()))).bind fun z3=>cond z3.2.2.2.2.1 (some (.inr (Sum.inr (([],1,()))))) (some (.inl (z3.1,z3.2.1,z3.2.2.1,wrap .i64 (z3.2.2.2.1+1),())))) (some (.inr (Sum.inl (s.1,()))))) s.2.1 s.2.2.1 s.2.2.2.1
def a3r(s:(LI×(Int×(Int×(LI×Z78))))):Option ((LI×(Int×(Int×(LI×Z78)))) ⊕ Z61):=(fun(a:Int)(b:LI)(c d:Int)(e:LI)(f g:Int)(h:LI)=>cond (decide (g<f)) ((m0k e g).bind fun x8=>(m0k s.1 (wrap .i64 ((wrap .i64 (s.2.1-1))-g))).bind fun x9=>cond (lim ((a02 h)+1)) (some (.inl (s.1,s.2.1,a,b,c,d,e,f,wrap .i64 (g+1),a03 h [wrap .i64 (x8-(A0o .i64 (wrap .i64 (a*x9)) 14))],()))) none) (some (.inr (a,b,c,d,h,())))) s.2.2.1 s.2.2.2.1 s.2.2.2.2.1 s.2.2.2.2.2.1 s.2.2.2.2.2.2.1 s.2.2.2.2.2.2.2.1 s.2.2.2.2.2.2.2.2.1 s.2.2.2.2.2.2.2.2.2.1
def a4W(s:Z42):Option (Z42 ⊕ (LI×Unit)):=(fun(a:LI)(b c:Int)=>cond (decide (c<b)) ((m0k s.2.1 c).bind fun x7=>cond ((decide (0≤(wrap .i64 (c+1))))&&(lim (a00 (wrap .i64 (c+1))))) ((y0s a3r (a,c,x7,s.2.1,b,c,a,(a.length:Int),0,[],())).bind fun w10=>cond (lim ((a02 w10.2.2.2.2.1)+1)) (some (.inl (a03 w10.2.2.2.2.1 [w10.1],w10.2.1,w10.2.2.1,wrap .i64 (w10.2.2.2.1+1),()))) none) none) (some (.inr (a,())))) s.1 s.2.2.1 s.2.2.2.1
def a7j(x:LI):Option (LI×Int):=(show Option (LI×(Bool×Unit))from cond (decide ((x.length:Int)<1)) (some (x,true,())) (some (x,decide ((x.length:Int) > 32),()))).bind fun z1=>cond z1.2.1 (some ([],1)) ((y0s a1Q (z1.1,z1.1,(z1.1.length:Int),0,())).bind fun w4=>match w4 with |.inl a5=>((y0s a4W ([],a5.1,(a5.1.length:Int),0,())).bind fun w11=>some (w11.1,0)) |.inr b6=>some (b6.1,b6.2.1))
def b7q:FSem:=⟨[.v QL],[.v QL,.v QI],a7j⟩
def d2E:Hints:=⟨[(58,[.sv 0 QL,.sv 20 QL,21,22],[Qe 0 [.sv 0 QL],Qr [.sv 2 QL,3]]),(250,[.sv 6 QL,.sv 34 QL,35,36],[Qe 2 [.sv 6 QL]]),(256410,[.sv 6 QL,7,8,.sv 34 QL,35,36,.sv 44 QL,45,46,.own 9 9 QI],[Qe 4 [8,.sv 34 QL,35,36,.own 9 9 QI]])],[(6,[Qn [.sv 0 QL,.sv 19 .bool]]),(3737,[Qn [.sv 0 QL,.sv 20 QL,21,22,.sv 31 .bool]])],[]⟩
def a1R(s:Z62):Option (Z62 ⊕ (Z7 ⊕ Z18)):=(fun(a:Int)(b:LI)(c d:Int)=>cond (decide (d<c)) ((m0k b d).bind fun x2=>(show Option (LI×(Int×Z37))from cond (decide (x2<(-35184372088832))) (some (s.1,a,b,c,d,true,())) (some (s.1,a,b,c,d,decide (x2 > 35184372088832),()))).bind fun z3=>cond z3.2.2.2.2.2.1 (some (.inr (Sum.inr ((0,1,[],()))))) (some (.inl (z3.1,z3.2.1,z3.2.2.1,z3.2.2.2.1,wrap .i64 (z3.2.2.2.2.1+1),())))) (some (.inr (Sum.inl (s.1,a,()))))) s.2.1 s.2.2.1 s.2.2.2.1 s.2.2.2.2.1
def a1S(s:(LI×(Int×Z78))):Option ((LI×(Int×Z78)) ⊕ Z43):=(fun(a b c:Int)(d:LI)(e f:Int)(g:LI)=>cond (decide (f<e)) ((m0k d f).bind fun x8=>cond (decide (b<0)) none ((a1K (A0o .i64 (wrap .i64 (x8+c)) b,a)).bind fun y9=>cond (!y9) (some (.inr (s.1,a,b,g,()))) (cond (lim ((a02 g)+1)) (some (.inl (s.1,a,b,c,d,e,wrap .i64 (f+1),a03 g [A0o .i64 (wrap .i64 (x8+c)) b],()))) none))) (some (.inr (s.1,a,b,g,())))) s.2.1 s.2.2.1 s.2.2.2.1 s.2.2.2.2.1 s.2.2.2.2.2.1 s.2.2.2.2.2.2.1 s.2.2.2.2.2.2.2.1
def a2x(s:Z16):Option (Z16 ⊕ (Unit ⊕ Z18)):=(fun(a:Int)=>cond (decide (a≤14)) ((show Option Z34 from cond (decide (a > 0)) (cond (decide ((wrap .i64 (a-1))<0)) none (some (s.1,s.2.1,a,A0n .i64 1 (wrap .i64 (a-1)),()))) (some (s.1,s.2.1,a,0,()))).bind fun z7=>cond ((decide (0≤(z7.1.length:Int)))&&(lim (a00 (z7.1.length:Int)))) ((y0s a1S (z7.1,z7.2.1,z7.2.2.1,z7.2.2.2.1,z7.1,(z7.1.length:Int),0,[],())).bind fun w10=>cond ((w10.2.2.2.1.length:Int)==(w10.1.length:Int)) (some (.inr (Sum.inr ((wrap .i64 (14-w10.2.2.1),0,w10.2.2.2.1,()))))) (some (.inl (w10.1,w10.2.1,wrap .i64 (w10.2.2.1+1),())))) none) (some (.inr (Sum.inl ())))) s.2.2.1
def a7k(x:(LI×Int)):Option Z4:=(show Option Z20 from cond (decide ((x.1.length:Int)<1)) (some (x.1,x.2,true,())) (cond (decide ((x.1.length:Int) > 32)) (some (x.1,x.2,true,())) (cond (decide (x.2<2)) (some (x.1,x.2,true,())) (some (x.1,x.2,decide (x.2 > 16),()))))).bind fun z1=>cond z1.2.2.1 (some ([],0,1)) ((y0s a1R (z1.1,z1.2.1,z1.1,(z1.1.length:Int),0,())).bind fun w4=>match w4 with |.inl a5=>((y0s a2x (a5.1,a5.2.1,0,())).bind fun w11=>match w11 with |.inl a12=>some ([],0,6) |.inr b13=>some (b13.2.2.1,b13.1,b13.2.1)) |.inr b6=>some (b6.2.2.1,b6.1,b6.2.1))
def b7r:FSem:=⟨[.v QL,.v QI],[.o QI,.v QI,.v QI],a7k⟩
def d2F:Hints:=⟨[(58,[.sv 0 QL,1,.sv 31 QL,32,33],[Qe 0 [.sv 0 QL,1],Qr [5,6,.own 4 4 QI]]),(122,[.sv 0 QL,1,9],[Qe 2 [],Qr [5,6,.own 4 11 QI]]),(125242,[.sv 0 QL,1,9,10,.sv 56 QL,57,58,.own 11 11 QI],[Qe 4 [.sv 0 QL,1,9,.own 11 11 QI]])],[(6,[Qn [.sv 0 QL,1,.sv 30 .bool]]),(3737,[Qn [.sv 0 QL,1,.sv 31 QL,32,33,.sv 42 .bool]]),(3913,[Qn [.sv 0 QL,1,9,10]])],[]⟩
def a3l(x:Z4):Option Z4:=(a5H (x.1,x.2.1)).bind fun y1=>cond (y1.2 != 0) (some ([],0,y1.2)) ((a7j y1.1).bind fun y2=>cond (y2.2 != 0) (some ([],0,y2.2)) ((a7k (y2.1,x.2.2)).bind fun y3=>some (y3.1,y3.2.1,y3.2.2)))
def b9c:FSem:=⟨[.v QL,.v QI,.v QI],[.o QI,.v QI,.v QI],a3l⟩
def b7s(s:(LI×Z69)):Option ((LI×Z69) ⊕ (LI×Z56)):=(fun(a:LI)(b c d e f g:Int)=>cond (decide (g<(a.length:Int))) ((m0k a g).bind fun x3=>(m0k a (wrap .i64 (g-e))).bind fun x4=>some (.inl (a,s.2.1,b,c,d,e,wrap .i64 (f+(v0r (wrap .i64 (x3-x4)) (wrap .i64 (0-(wrap .i64 (x3-x4)))))),wrap .i64 (g+1),()))) (some (.inr (a,s.2.1,b,c,d,e,f,())))) s.1 s.2.2.1 s.2.2.2.1 s.2.2.2.2.1 s.2.2.2.2.2.1 s.2.2.2.2.2.2.1 s.2.2.2.2.2.2.2.1
def b7t(s:(LI×Z39)):Option ((LI×Z39) ⊕ (Int×Unit)):=(fun(a b c:Int)=>cond (decide (c≤a)) ((y0s b7s (s.1,s.2.1,a,b,s.2.2.2.2.1,c,0,a,())).bind fun w5=>(show Option (LI×(Int×Int×Int×Z25))from cond (w5.2.2.2.2.2.1==w5.2.1) (some (w5.1,w5.2.1,w5.2.2.1,w5.2.2.2.1,w5.2.2.2.2.1,w5.2.2.2.2.2.1,w5.2.2.2.2.2.2.1,true,())) (some (w5.1,w5.2.1,w5.2.2.1,w5.2.2.2.1,w5.2.2.2.2.1,w5.2.2.2.2.2.1,w5.2.2.2.2.2.2.1,decide (w5.2.2.2.2.2.2.1<w5.2.2.2.2.1),()))).bind fun z6=>cond z6.2.2.2.2.2.2.2.1 (some (.inl (z6.1,z6.2.1,z6.2.2.1,z6.2.2.2.2.2.1,z6.2.2.2.2.2.2.1,wrap .i64 (z6.2.2.2.2.2.1+1),()))) (some (.inl (z6.1,z6.2.1,z6.2.2.1,z6.2.2.2.1,z6.2.2.2.2.1,wrap .i64 (z6.2.2.2.2.2.1+1),())))) (some (.inr (b,())))) s.2.2.1 s.2.2.2.1 s.2.2.2.2.2.1
def a9q(x:Z4):Option (Int×Int):=(show Option Z37 from cond (decide (x.2.1<2)) (some (x.1,x.2.1,x.2.2,true,())) (cond (decide (x.2.1 > x.2.2)) (some (x.1,x.2.1,x.2.2,true,())) (cond (decide (x.2.2 > 1024)) (some (x.1,x.2.1,x.2.2,true,())) (some (x.1,x.2.1,x.2.2,decide ((x.1.length:Int) > 4096),()))))).bind fun z1=>cond z1.2.2.2.1 (some (0,1)) (cond (decide ((z1.1.length:Int)≤z1.2.2.1)) (some (0,7)) ((a3G z1.1).bind fun y2=>cond (!y2) (some (0,6)) ((y0s b7t (z1.1,z1.2.1,z1.2.2.1,0,0,z1.2.1,())).bind fun w7=>some (w7.1,0))))
def c2l:FSem:=⟨[.v QL,.v QI,.v QI],[.v QI,.v QI],a9q⟩
def d2G:Hints:=⟨[(506,[.sv 0 QL,1,2,8,9,10],[Qe 0 [8]]),(129610,[.sv 0 QL,1,2,8,9,10,11,12],[Qe 2 [.sv 0 QL,1,2,8,9,10,11]])],[(6,[Qn [.sv 0 QL,1,2,.sv 29 .bool]]),(32403,[Qn [.sv 0 QL,1,2,8,9,10,11,.sv 74 .bool]])],[(15,[.v,.v,.v,.v,.v,.v,.v,.v,.v,.v,.x,.x])]⟩
def a5k(s:(LI×Z86)):Option ((LI×Z86) ⊕ Z50):=(fun(a:LI)(b c:Int)(d e:LI)=>cond (decide (c<b)) ((m0k a c).bind fun x3=>(a3H (s.1,c,s.2.1,e)).bind fun y4=>(a6k (wrap .i64 (x3-y4))).bind fun y5=>cond (!y5) (some (.inr (Sum.inr ((6,[],()))))) (cond (lim ((a02 d)+1)) (some (.inl (s.1,s.2.1,a,b,wrap .i64 (c+1),a03 d [wrap .i64 (x3-y4)],e,()))) none)) (some (.inr (Sum.inl (d,()))))) s.2.2.1 s.2.2.2.1 s.2.2.2.2.1 s.2.2.2.2.2.1 s.2.2.2.2.2.2.1
def a6n(x:(LI×(Int×LI))):Option (LI×Int):=(a7b (x.2.1,x.2.2)).bind fun y1=>cond (!y1) (some ([],1)) ((a3G x.1).bind fun y2=>cond (!y2) (some ([],6)) (cond ((decide (0≤(x.1.length:Int)))&&(lim (a00 (x.1.length:Int)))) ((y0s a5k (x.1,x.2.1,x.1,(x.1.length:Int),0,[],x.2.2,())).bind fun w6=>match w6 with |.inl a7=>some (a7.1,0) |.inr b8=>some (b8.2.1,b8.1)) none))
def c2m:FSem:=⟨[.v QL,.v QI,.v (.arr 3 QI)],[.o QI,.v QI],a6n⟩
def d2H:Hints:=⟨[(250,[.sv 0 QL,1,.sv 22 QL,23,24,.own 8 8 QI,.vp 5 (.arr 3 QI)],[Qe 0 [.own 8 8 QI],Qr [7,.own 6 6 QI]])],[],[]⟩
def b3Z(x:Unit):Option (List LI):=some ([a05 (a05 (a05 (a01 3 0) 0 0) 1 0) 2 0,a05 (a05 (a05 (a01 3 0) 0 0) 1 64) 2 0,a05 (a05 (a05 (a01 3 0) 0 0) 1 32) 2 0,a05 (a05 (a05 (a01 3 0) 0 16) 1 32) 2 16,a05 (a05 (a05 (a01 3 0) 0 21) 1 22) 2 21,a05 (a05 (a05 (a01 3 0) 0 0) 1 48) 2 0,a05 (a05 (a05 (a01 3 0) 0 (-8)) 1 64) 2 (-8),a05 (a05 (a05 (a01 3 0) 0 32) 1 32) 2 0,a05 (a05 (a05 (a01 3 0) 0 0) 1 32) 2 32]:List LI)
def c0C:FSem:=⟨[],[.o (.arr 3 QI)],b3Z⟩
def b7u(s:(LI×(Int×(Int×(Bool×(Int×(Int×(Int×(Int×(Int×((List LI)×(LI×Z41)))))))))))):Option ((LI×(Int×(Int×(Bool×(Int×(Int×(Int×(Int×(Int×((List LI)×(LI×Z41))))))))))) ⊕ (LI×(Int×(Int×(Bool×(Int×(Int×(Int×((List LI)×Z41))))))))):=(fun(a:Int)(b:Bool)(c d e f g:Int)(h:List LI)(i j k l:LI)=>cond (decide (g<f)) (cond ((decide (0≤g))&&(decide (g<(i.length:Int)))) (some (.inl (s.1,s.2.1,a,b,wrap .i64 (c+(v0r (a04 i (a00 g) 0) (wrap .i64 (0-(a04 i (a00 g) 0))))),d,e,f,wrap .i64 (g+1),h,i,j,k,l,()))) none) (some (.inr (s.1,s.2.1,a,b,c,d,e,h,j,k,l,())))) s.2.2.1 s.2.2.2.1 s.2.2.2.2.1 s.2.2.2.2.2.1 s.2.2.2.2.2.2.1 s.2.2.2.2.2.2.2.1 s.2.2.2.2.2.2.2.2.1 s.2.2.2.2.2.2.2.2.2.1 s.2.2.2.2.2.2.2.2.2.2.1 s.2.2.2.2.2.2.2.2.2.2.2.1 s.2.2.2.2.2.2.2.2.2.2.2.2.1 s.2.2.2.2.2.2.2.2.2.2.2.2.2.1
def b7v(s:(LI×(Int×(Int×(Bool×(Int×(Int×((List LI)×Z14)))))))):Option ((LI×(Int×(Int×(Bool×(Int×(Int×((List LI)×Z14))))))) ⊕ (Bool×Z14)):=(fun(a b:Int)(c:Bool)(d e:Int)(f:List LI)(g h:LI)=>cond (decide (e<d)) (cond ((decide (0≤e))&&(decide (e<(f.length:Int)))) ((a6n (s.1,a,a04 f (a00 e) (a01 3 0))).bind fun y3=>cond (y3.2 != 0) (some (.inl (s.1,a,b,c,d,wrap .i64 (e+1),f,g,h,()))) ((y0s b7u (s.1,a,b,c,0,d,e,(y3.1.length:Int),0,f,y3.1,g,h,a04 f (a00 e) (a01 3 0),())).bind fun w4=>(show Option (LI×(Int×(Int×(Bool×(Int×(Int×(Int×(Bool×((List LI)×Z41)))))))))from cond (!w4.2.2.2.1) (some (w4.1,w4.2.1,w4.2.2.1,w4.2.2.2.1,w4.2.2.2.2.1,w4.2.2.2.2.2.1,w4.2.2.2.2.2.2.1,true,w4.2.2.2.2.2.2.2.1,w4.2.2.2.2.2.2.2.2.1,w4.2.2.2.2.2.2.2.2.2.1,w4.2.2.2.2.2.2.2.2.2.2.1,())) (some (w4.1,w4.2.1,w4.2.2.1,w4.2.2.2.1,w4.2.2.2.2.1,w4.2.2.2.2.2.1,w4.2.2.2.2.2.2.1,decide (w4.2.2.2.2.1<w4.2.2.1),w4.2.2.2.2.2.2.2.1,w4.2.2.2.2.2.2.2.2.1,w4.2.2.2.2.2.2.2.2.2.1,w4.2.2.2.2.2.2.2.2.2.2.1,()))).bind fun z5=>cond z5.2.2.2.2.2.2.2.1 (some (.inl (z5.1,z5.2.1,z5.2.2.2.2.1,true,z5.2.2.2.2.2.1,wrap .i64 (z5.2.2.2.2.2.2.1+1),z5.2.2.2.2.2.2.2.2.1,z5.2.2.2.2.2.2.2.2.2.1,z5.2.2.2.2.2.2.2.2.2.2.2.1,()))) (some (.inl (z5.1,z5.2.1,z5.2.2.1,z5.2.2.2.1,z5.2.2.2.2.2.1,wrap .i64 (z5.2.2.2.2.2.2.1+1),z5.2.2.2.2.2.2.2.2.1,z5.2.2.2.2.2.2.2.2.2.1,z5.2.2.2.2.2.2.2.2.2.2.1,()))))) none) (some (.inr (c,g,h,())))) s.2.1 s.2.2.1 s.2.2.2.1 s.2.2.2.2.1 s.2.2.2.2.2.1 s.2.2.2.2.2.2.1 s.2.2.2.2.2.2.2.1 s.2.2.2.2.2.2.2.2.1
def b4S(x:(LI×Int)):Option (LI×Int):=(show Option (LI×(Int×Z9))from cond (decide (x.2<2)) (some (x.1,x.2,true,a01 3 0,())) (some (x.1,x.2,decide (x.2 > 1024),a01 3 0,()))).bind fun z1=>cond z1.2.2.1 (some (a01 3 0,1)) ((b3Z ()).bind fun y2=>(y0s b7v (z1.1,z1.2.1,0,false,(y2.length:Int),0,y2,z1.2.2.2.1,a01 3 0,())).bind fun w6=>cond (!w6.1) (some (a01 3 0,6)) (some (w6.2.2.1,0)))
def c2n:FSem:=⟨[.v QL,.v QI],[.v (.arr 3 QI),.v QI],b4S⟩
def d2I:Hints:=⟨[(122,[.sv 0 QL,1,7,.sv 8 .bool,25,26,.own 24 1024 (.arr 3 QI),.box 4 (.arr 3 QI),.box 6 (.arr 3 QI),Qp 4 4,Qp 6 6],[Qe 0 [.sv 8 .bool,.box 4 (.arr 3 QI),.box 6 (.arr 3 QI),Qp 4 4,Qp 6 6]]),(501370,[.sv 0 QL,1,7,.sv 8 .bool,13,25,26,40,41,.own 24 1024 (.arr 3 QI),.own 39 11 QI,.box 4 (.arr 3 QI),.box 6 (.arr 3 QI),.box 10 (.arr 3 QI),Qp 4 4,Qp 6 6,Qp 10 10],[Qe 2 [.sv 0 QL,1,7,.sv 8 .bool,13,25,26,.own 24 1024 (.arr 3 QI),.box 4 (.arr 3 QI),.box 6 (.arr 3 QI),.box 10 (.arr 3 QI),Qp 4 4,Qp 6 6,Qp 10 10]])],[(6,[Qn [.sv 0 QL,1,.sv 21 .bool,.box 4 (.arr 3 QI),Qp 4 4]]),(125343,[Qn [.sv 0 QL,1,7,.sv 8 .bool,13,25,26,.sv 58 .bool,.own 24 1024 (.arr 3 QI),.box 4 (.arr 3 QI),.box 6 (.arr 3 QI),.box 10 (.arr 3 QI),Qp 4 4,Qp 6 6,Qp 10 10]])],[]⟩
def a3a(x:LI):Option (a1q×Bool):=(a9q (x,16,256)).bind fun y1=>cond (y1.2 != 0) (some ((0,0,0,0,0,[],a01 3 0,[],[],(0,[],()),[],()),false)) ((b4S (x,y1.1)).bind fun y2=>cond (y2.2 != 0) (some ((0,0,0,0,0,[],a01 3 0,[],[],(0,[],()),[],()),false)) ((a6n (x,y1.1,y2.1)).bind fun y3=>cond (y3.2 != 0) (some ((0,0,0,0,0,[],a01 3 0,[],[],(0,[],()),[],()),false)) ((a3l (y3.1,4,12)).bind fun y4=>cond (y4.2.2 != 0) (some ((0,0,0,0,0,[],a01 3 0,[],[],(0,[],()),[],()),false)) (some ((4,0,0,y4.2.1,y1.1,y4.1,y2.1,[],[],(0,[],()),[],()),true)))))
def c0D:FSem:=⟨[.v QL],[.v Q42,.v .bool],a3a⟩
def a0M(x:(Int×(Int×(LI×a8R)))):Option (LI×a8R):=(a3l (x.2.2.1,x.1,x.2.1)).bind fun y1=>cond (y1.2.2==0) (cond (lim ((a02 x.2.2.2)+1)) (some (x.2.2.1,a03 x.2.2.2 ([(3,0,0,y1.2.1,0,y1.1,a01 3 0,[],[],(0,[],()),[],())]:List a1q))) none) (some (x.2.2.1,x.2.2.2))
def b4a:FSem:=⟨[.v QI,.v QI,.r false (.b QL),.r false (.b (.list true Q42))],[],a0M⟩
def a1Z(s:(Int×c3y)):Option ((Int×c3y) ⊕ c3y):=cond (decide (s.1<5)) (cond (lim ((a02 s.2.1)+1)) (some (.inl (wrap .i64 (s.1+1),a03 s.2.1 ([(2,0,s.1,0,0,[],a01 3 0,[],[],(0,[],()),[],())]:List a1q),s.2.2.1,()))) none) (some (.inr (s.2.1,s.2.2.1,())))
def a5I(x:(LI×Int)):Option a8R:=(a5j x.1).bind fun y1=>(show Option (Int×(LI×c6h))from cond (decide (x.2≥1)) ((a0M (4,12,x.1,([(0,0,0,0,0,[],a01 3 0,[],[],(0,[],()),[],()),(1,0,0,0,0,[],a01 3 0,[],[],(0,[],()),[],()),(2,0,y1,0,0,[],a01 3 0,[],[],(0,[],()),[],())]:List a1q))).bind fun y2=>(a0M (8,12,y2.1,y2.2)).bind fun y3=>some (x.2,y3.1,y3.2,())) (some (x.2,x.1,([(0,0,0,0,0,[],a01 3 0,[],[],(0,[],()),[],()),(1,0,0,0,0,[],a01 3 0,[],[],(0,[],()),[],()),(2,0,y1,0,0,[],a01 3 0,[],[],(0,[],()),[],())]:List a1q),()))).bind fun z4=>(show Option (Int×c3y)from cond (decide (z4.1≥2)) (cond (lim ((a02 z4.2.2.1)+1)) (cond (lim ((a02 (a03 z4.2.2.1 ([(5,0,0,0,0,[],a01 3 0,([(16,4,())]:List (Int×Int×Unit)),[],(0,[],()),[],())]:List a1q)))+1)) ((a3a z4.2.1).bind fun y5=>cond y5.2 (cond (lim ((a02 (a03 (a03 z4.2.2.1 ([(5,0,0,0,0,[],a01 3 0,([(16,4,())]:List (Int×Int×Unit)),[],(0,[],()),[],())]:List a1q)) ([(5,0,0,0,0,[],a01 3 0,([(32,3,()),(16,5,())]:List (Int×Int×Unit)),[],(0,[],()),[],())]:List a1q)))+1)) (some (z4.1,a03 (a03 (a03 z4.2.2.1 ([(5,0,0,0,0,[],a01 3 0,([(16,4,())]:List (Int×Int×Unit)),[],(0,[],()),[],())]:List a1q)) ([(5,0,0,0,0,[],a01 3 0,([(32,3,()),(16,5,())]:List (Int×Int×Unit)),[],(0,[],()),[],())]:List a1q)) ([y5.1]:List a1q),z4.2.1,())) none) (some (z4.1,a03 (a03 z4.2.2.1 ([(5,0,0,0,0,[],a01 3 0,([(16,4,())]:List (Int×Int×Unit)),[],(0,[],()),[],())]:List a1q)) ([(5,0,0,0,0,[],a01 3 0,([(32,3,()),(16,5,())]:List (Int×Int×Unit)),[],(0,[],()),[],())]:List a1q),z4.2.1,()))) none) none) (some (z4.1,z4.2.2.1,z4.2.1,()))).bind fun z6=>(show Option c6h from cond (decide (z6.1≥3)) ((y0s a1Z (0,z6.2.1,z6.2.2.1,())).bind fun w7=>(a0M (1,12,w7.2.1,w7.1)).bind fun y8=>(a0M (2,12,y8.1,y8.2)).bind fun y9=>(a0M (12,14,y9.1,y9.2)).bind fun y10=>(a0M (16,14,y10.1,y10.2)).bind fun y11=>some (y11.2,())) (some (z6.2.1,()))).bind fun z12=>some z12.1
def b5v:FSem:=⟨[.v QL,.v QI],[.v (.list false Q42)],a5I⟩
def H94:Hints:=⟨[(4050,[50,.box 5 (.list true Q42),.box 2 QL,Qp 5 5,.clo 6 136 [2,5]],[Qe 0 [.box 5 (.list true Q42),.box 2 QL,Qp 5 5,.clo 6 136 [2,5]]])],[(15,[Qn [1,.box 2 QL,.box 5 (.list true Q42),Qp 2 2,Qp 5 5,.clo 6 136 [2,5]]]),(31,[Qn [1,.box 5 (.list true Q42),.box 2 QL,Qp 5 5,.clo 6 136 [2,5]]]),(63,[Qn [.box 5 (.list true Q42),Qp 5 5]])],[]⟩
def a3T(s:(LI×Z43)):Option ((LI×Z43) ⊕ Z50):=(fun(a:LI)(b c:Int)(d:LI)=>cond (decide (c<(a.length:Int))) ((m0k a c).bind fun x4=>cond ((decide (0≤c))&&(decide (c≤(a.length:Int)))) ((a3P (a07 (a00 c) a,s.2.1,b)).bind fun y5=>(a4m (wrap .i64 (x4-y5))).bind fun y6=>cond (!y6) (some (.inr (Sum.inr ((6,[],()))))) (cond (lim ((a02 d)+1)) (some (.inl (a,s.2.1,b,wrap .i64 (c+1),a03 d [wrap .i64 (x4-y5)],()))) none)) none) (some (.inr (Sum.inl (d,()))))) s.1 s.2.2.1 s.2.2.2.1 s.2.2.2.2.1
def a5Z(x:Z12):Option (LI×Int):=(show Option Z51 from(a3N (x.2.1,x.2.2)).bind fun y1=>cond (!y1) (some (x.1,x.2.1,x.2.2,true,())) (some (x.1,x.2.1,x.2.2,decide ((x.1.length:Int)<(x.2.1.length:Int)),()))).bind fun z2=>cond z2.2.2.2.1 (some ([],1)) ((a2l z2.1).bind fun y3=>cond (!y3) (some ([],6)) (cond ((decide (0≤(wrap .i64 ((z2.1.length:Int)-(z2.2.1.length:Int)))))&&(lim (a00 (wrap .i64 ((z2.1.length:Int)-(z2.2.1.length:Int)))))) ((y0s a3T (z2.1,z2.2.1,z2.2.2.1,(z2.2.1.length:Int),[],())).bind fun w7=>match w7 with |.inl a8=>some (a8.1,0) |.inr b9=>some (b9.2.1,b9.1)) none))
def b9d:FSem:=⟨[.v QL,.v QL,.v QI],[.o QI,.v QI],a5Z⟩
def d2J:Hints:=⟨[(250,[.sv 0 QL,.sv 1 QL,2,9,.own 8 8 QI],[Qe 0 [.own 8 8 QI],Qr [7,.own 6 6 QI]])],[(6,[Qn [.sv 0 QL,.sv 1 QL,2,.sv 21 .bool]])],[(9,[.v,.v,.v,.v,.v,.v,.v,.v,.v,.v,.x,.x])]⟩
def a4C(s:(Z5×Int×Int×Int×Z87)):Option ((Z5×Int×Int×Int×Z87) ⊕ ((Z5×Z18) ⊕ Z6)):=(fun(a b c:Int)(d:LI)=>cond (decide (c<b)) (cond ((decide (0≤c))&&(decide (c<(d.length:Int)))) ((a1M s.2.2.2.2.2.2.1).bind fun y6=>(a5d (wrap .i64 ((a04 d (a00 c) 0)-y6.1))).bind fun y7=>cond (!y7) (some (.inr (Sum.inr ((6,[],()))))) ((a2I (y6.2,a04 d (a00 c) 0)).bind fun y8=>cond ((decide (0≤c))&&(decide (c<(d.length:Int)))) (some (.inl (s.1,s.2.1,a,b,wrap .i64 (c+1),a05 d (a00 c) (wrap .i64 ((a04 d (a00 c) 0)-y6.1)),y8,()))) none)) none) (some (.inr (Sum.inl (s.1,s.2.1,a,d,()))))) s.2.2.1 s.2.2.2.1 s.2.2.2.2.1 s.2.2.2.2.2.1
def a4D(s:(Z5×Z18)):Option ((Z5×Z18) ⊕ Z50):=(fun(a:Int)(b:LI)=>cond (decide (a<s.2.1)) ((m0k s.1 a).bind fun x4=>(a7I x4).bind fun y5=>cond (y5.2 != 0) (some (.inr (Sum.inr ((y5.2,[],()))))) ((y0s a4C (s.1,s.2.1,a,(b.length:Int),0,b,y5.1,())).bind fun w9=>match w9 with |.inl a10=>some (.inl (a10.1,a10.2.1,wrap .i64 (a10.2.2.1+1),a10.2.2.2.1,())) |.inr b11=>some (.inr (Sum.inr ((b11.1,b11.2.1,())))))) (some (.inr (Sum.inl (b,()))))) s.2.2.1 s.2.2.2.1
def a8z(x:(LI×Z5)):Option (LI×Int):=(a6i x.2).bind fun y1=>cond (!y1) (some ([],1)) ((a4u x.1).bind fun y2=>cond (!y2) (some ([],6)) ((a0Z x.1).bind fun y3=>(y0s a4D (x.2,(x.2.length:Int),0,y3,())).bind fun w12=>match w12 with |.inl a13=>some (a13.1,0) |.inr b14=>some (b14.2.1,b14.1)))
def c0E:FSem:=⟨[.v QL,.v (.list false Q3)],[.o QI,.v QI],a8z⟩
def d2K:Hints:=⟨[(250,[.sv 22 (.list false Q3),23,24,.own 6 6 QI],[Qe 0 [.own 6 6 QI],Qr [5,.own 4 4 QI]]),(256414,[.sv 22 (.list false Q3),23,24,37,38,.own 6 6 QI,.box 1030 Q17,Qp 9 1030,.ref 36 6 []],[Qe 2 [.sv 22 (.list false Q3),23,24,.own 6 6 QI],Qr [5,.own 4 4 QI]])],[],[]⟩
def a9r(x:(a1q×LI)):Option (Int×a1q):=(show Option (LI×(LI×(Int×b2F)))from cond (x.1.1==2) ((a3R (x.2,x.1.2.2.1)).bind fun y1=>some (x.2,y1.1,y1.2,x.1,())) (cond (x.1.1==3) ((a5Z (x.2,x.1.2.2.2.2.2.1,x.1.2.2.2.1)).bind fun y2=>some (x.2,y2.1,y2.2,x.1,())) (cond (x.1.1==4) ((a6n (x.2,x.1.2.2.2.2.1,x.1.2.2.2.2.2.2.1)).bind fun y3=>cond (y3.2==0) ((a5Z (y3.1,x.1.2.2.2.2.2.1,x.1.2.2.2.1)).bind fun y4=>some (y3.1,y4.1,y4.2,x.1,())) (some (y3.1,[],y3.2,x.1,()))) (cond (x.1.1==5) ((a8z (x.2,x.1.2.2.2.2.2.2.2.1)).bind fun y5=>some (x.2,y5.1,y5.2,x.1,())) (some (x.2,[],0,x.1,())))))).bind fun z6=>cond (z6.2.2.1 != 0) (some (z6.2.2.1,z6.2.2.2.1)) ((a3O (z6.2.2.2.1,(z6.1.length:Int))).bind fun y7=>cond ((decide (0≤y7))&&(decide (y7≤(z6.1.length:Int)))) ((a0Z (a07 (a00 y7) z6.1)).bind fun y8=>some (0,z6.2.2.2.1.1,z6.2.2.2.1.2.1,z6.2.2.2.1.2.2.1,z6.2.2.2.1.2.2.2.1,z6.2.2.2.1.2.2.2.2.1,z6.2.2.2.1.2.2.2.2.2.1,z6.2.2.2.1.2.2.2.2.2.2.1,z6.2.2.2.1.2.2.2.2.2.2.2.1,y8,z6.2.2.2.1.2.2.2.2.2.2.2.2.2.1,z6.2.1,z6.2.2.2.1.2.2.2.2.2.2.2.2.2.2.2)) none)
def c2o:FSem:=⟨[.r false (.b Q42),.v QL],[.v QI],a9r⟩
def d2L:Hints:=⟨[],[(15,[Qn [.sv 1 QL,.sv 5 QL,6,.box pinned Q42,Qp 0 pinned]])],[(7,[.v,.p,.p,.q,.q,.p,.p,.q,.q,.x,.x,.q,.q,.q,.x]),(9,[.v,.p,.p,.q,.q,.p,.p,.q,.q,.x,.x,.q,.q,.q,.x]),(11,[.q,.p,.p,.q,.q,.p,.p,.q,.q,.x,.x,.q,.q,.q,.x])]⟩
def b0Z(s:Z16):Option Z71:=(fun(a b:Int)=>cond (decide (b<a)) ((m0k s.1 b).bind fun x3=>(show Option Z37 from cond (decide (x3<(-1073741824))) (some (s.1,a,b,true,())) (some (s.1,a,b,decide (x3≥1073741824),()))).bind fun z4=>cond z4.2.2.2.1 (some (.inr (Sum.inr ((false,()))))) (some (.inl (z4.1,z4.2.1,wrap .i64 (z4.2.2.1+1),())))) (some (.inr (Sum.inl ())))) s.2.1 s.2.2.1
def a6a(x:Z3):Option Bool:=(show Option (LI×(Bool×Unit))from(a6j (x.1,x.2.1)).bind fun y1=>cond (!y1) (some (x.2.2,true,())) (some (x.2.2,(x.2.2.length:Int) != (wrap .i64 (x.1-x.2.1)),()))).bind fun z2=>cond z2.2.1 (some false) ((y0s b0Z (z2.1,(z2.1.length:Int),0,())).bind fun w5=>match w5 with |.inl a6=>some true |.inr b7=>some b7.1)
def b9e:FSem:=⟨[.v QI,.v QI,.v QL],[.v .bool],a6a⟩
def d2M:Hints:=⟨[(58,[.sv 21 QL,22,23],[Qe 0 [],Qr [.sv 6 .bool]])],[(6,[Qn [.sv 2 QL,.sv 20 .bool]]),(3737,[Qn [.sv 21 QL,22,23,.sv 32 .bool]])],[]⟩
def a4N(x:LI):Option Int:=(a1l x).bind fun y1=>some (wrap .i64 (5+(wrap .i64 (y1*(x.length:Int)))))
def c2p:FSem:=⟨[.v QL],[.v QI],a4N⟩
def a6o(x:Int):Option Bool:=cond (decide ((-1073741824)≤x)) (some (decide (x<1073741824))) (some false)
def c2q:FSem:=⟨[.v QI],[.v .bool],a6o⟩
def a7M(x:Int):Option Int:=(a6o x).bind fun y1=>cond (!y1) (some 0) (cond (decide (x≥0)) (some (wrap .u64 (wrap .i64 (2*x)))) (some (wrap .u64 (wrap .i64 ((wrap .i64 ((-2)*x))-1)))))
def c2r:FSem:=⟨[.v QI],[.v QU],a7M⟩
def a6p(x:(Int×Int)):Option Int:=(show Option Z10 from(a1J x.1).bind fun y1=>cond (!y1) (some (x.1,x.2,true,())) ((a6o x.2).bind fun y2=>some (x.1,x.2,!y2,()))).bind fun z3=>cond z3.2.2.1 (some 0) ((a7M z3.2.1).bind fun y4=>cond (decide (z3.1<0)) none (cond (decide ((wrap .i64 (A0o .u64 y4 z3.1))<32)) (some (wrap .i64 ((wrap .i64 ((wrap .i64 (A0o .u64 y4 z3.1))+1))+z3.1))) (some 65)))
def c2s:FSem:=⟨[.v QI,.v QI],[.v QI],a6p⟩
def d2N:Hints:=⟨[],[(6,[Qn [0,1,.sv 13 .bool]])],[]⟩
def a3m(s:Z52):Option (Z52 ⊕ (Int×Unit)):=(fun(a:LI)(b c:Int)=>cond (decide (c<b)) ((m0k a c).bind fun x1=>(a6p (s.1,x1)).bind fun y2=>some (.inl (s.1,wrap .i64 (s.2.1+y2),a,b,wrap .i64 (c+1),()))) (some (.inr (s.2.1,())))) s.2.2.1 s.2.2.2.1 s.2.2.2.2.1
def a2U(x:(Int×LI)):Option Int:=(y0s a3m (x.1,0,x.2,(x.2.length:Int),0,())).bind fun w3=>some w3.1
def c3K:FSem:=⟨[.v QI,.v QL],[.v QI],a2U⟩
def d2O:Hints:=⟨[(58,[0,5,.sv 8 QL,9,10],[Qe 0 [5]])],[],[]⟩
def a1n(s:(LI×(Int×(Int×(Int×(LI×Z21)))))):Option ((LI×(Int×(Int×(Int×(LI×Z21))))) ⊕ (Int×Unit)):=(fun(a:LI)(b c d:Int)(e:LI)(f:Z6)=>cond (decide (d<c)) (cond ((decide (0≤d))&&(decide (d<(e.length:Int)))) (cond ((decide (0≤(a04 e (a00 d) 0)))&&(decide ((a04 e (a00 d) 0)≤(a.length:Int)))) (cond ((decide (0≤(a04 e (a00 d) 0)))&&(decide ((a04 e (a00 d) 0)≤(a.length:Int)))) ((m0k f.2.1 d).bind fun x5=>cond (x5==31) ((a4N (a07 (a00 (a04 e (a00 d) 0)) a)).bind fun y6=>some (.inl (a09 (a00 (a04 e (a00 d) 0)) (a07 (a02 a) a),wrap .i64 (b+(wrap .i64 (5+y6))),c,wrap .i64 (d+1),e,f,()))) ((m0k f.2.1 d).bind fun x7=>(a2U (x7,a07 (a00 (a04 e (a00 d) 0)) a)).bind fun y8=>some (.inl (a09 (a00 (a04 e (a00 d) 0)) (a07 (a02 a) a),wrap .i64 (b+(wrap .i64 (5+y8))),c,wrap .i64 (d+1),e,f,())))) none) none) none) (some (.inr (b,())))) s.1 s.2.1 s.2.2.1 s.2.2.2.1 s.2.2.2.2.1 s.2.2.2.2.2.1
def a3U(x:(Z6×Z3)):Option Int:=(show Option (Int×(Int×(LI×(Bool×Z21))))from(a7H (x.1,x.2.1,x.2.2.1)).bind fun y1=>cond (!y1) (some (x.2.1,x.2.2.1,x.2.2.2,true,x.1,())) ((a6a (x.2.1,x.2.2.1,x.2.2.2)).bind fun y2=>some (x.2.1,x.2.2.1,x.2.2.2,!y2,x.1,()))).bind fun z3=>cond z3.2.2.2.1 (some 0) ((a2A (z3.2.2.2.2.1.1,z3.1,z3.2.1)).bind fun y4=>(y0s a1n (z3.2.2.1,4,(y4.length:Int),0,y4,z3.2.2.2.2.1,())).bind fun w9=>some w9.1)
def c0F:FSem:=⟨[.v Q11,.v QI,.v QI,.v QL],[.v QI],a3U⟩
def d2P:Hints:=⟨[(122,[.sv 3 QL,9,30,31,.own 29 1029 QI,.vp 4 Q11],[Qe 0 [9]])],[(6,[Qn [1,2,.sv 3 QL,.sv 24 .bool,.vp 4 Q11]])],[]⟩
def a7l(s:Z34):Option (Z34 ⊕ (Int×Unit)):=(fun(a b:Int)=>cond (decide (b≤25)) ((a2U (b,s.1)).bind fun y2=>cond (decide (y2<a)) (some (.inl (s.1,b,y2,wrap .i64 (b+1),()))) (some (.inl (s.1,s.2.1,a,wrap .i64 (b+1),())))) (some (.inr (s.2.1,())))) s.2.2.1 s.2.2.2.1
def a9s(x:LI):Option Int:=(a2U (0,x)).bind fun y1=>(y0s a7l (x,0,y1,1,())).bind fun w3=>some w3.1
def c2t:FSem:=⟨[.v QL],[.v QI],a9s⟩
def d2Q:Hints:=⟨[(58,[.sv 0 QL,3,4,5],[Qe 0 [3]])],[],[]⟩
def a7m(x:LI):Option Int:=(a9s x).bind fun y1=>(a4N x).bind fun y2=>(a2U (y1,x)).bind fun y3=>cond (decide (y2<y3)) (some 31) (some y1)
def b7w:FSem:=⟨[.v QL],[.v QI],a7m⟩
def a6C(s:(Int×(Int×(Int×(LI×(Int×(Int×(LI×(Int×(Int×(LI×c3x))))))))))):Option ((Int×(Int×(Int×(LI×(Int×(Int×(LI×(Int×(Int×(LI×c3x)))))))))) ⊕ (Int×(Int×(Int×(LI×(Int×Int×c3x)))))):=(fun(a:Int)(b:LI)(c d:Int)(e:LI)(f g:Int)(h:LI)(i j k:Z6)=>cond (decide (g<f)) (cond ((decide (0≤g))&&(decide (g<(h.length:Int)))) (cond ((decide (0≤(a04 h (a00 g) 0)))&&(decide ((a04 h (a00 g) 0)≤(e.length:Int)))) ((a7m (a07 (a00 (a04 h (a00 g) 0)) e)).bind fun y3=>cond (lim ((a02 k.2.1)+1)) (cond ((decide (0≤(a04 h (a00 g) 0)))&&(decide ((a04 h (a00 g) 0)≤(e.length:Int)))) (some (.inl (s.1,s.2.1,a,b,c,d,a09 (a00 (a04 h (a00 g) 0)) (a07 (a02 e) e),f,wrap .i64 (g+1),h,i,j,(k.1,a03 k.2.1 [y3],k.2.2),()))) none) none) none) none) (some (.inr (s.1,s.2.1,a,b,c,d,i,j,k,())))) s.2.2.1 s.2.2.2.1 s.2.2.2.2.1 s.2.2.2.2.2.1 s.2.2.2.2.2.2.1 s.2.2.2.2.2.2.2.1 s.2.2.2.2.2.2.2.2.1 s.2.2.2.2.2.2.2.2.2.1 s.2.2.2.2.2.2.2.2.2.2.1 s.2.2.2.2.2.2.2.2.2.2.2.1 s.2.2.2.2.2.2.2.2.2.2.2.2.1
def a3i(s:(Int×(Int×(Int×(LI×(Int×Int×Z83)))))):Option ((Int×(Int×(Int×(LI×(Int×Int×Z83))))) ⊕ Z83):=(fun(a b:Int)(c:LI)(d e:Int)(f g:Z6)=>cond (decide (e≤(v0s (v0r b 0) 8))) ((a2A (e,s.1,a)).bind fun y2=>cond ((y2.length:Int)==0) (some (.inl (s.1,a,b,c,d,wrap .i64 (e+1),f,g,()))) ((y0s a6C (s.1,a,b,c,d,e,c,(y2.length:Int),0,y2,f,g,(e,[],()),())).bind fun w4=>(a3U (w4.2.2.2.2.2.2.2.2.1,w4.1,w4.2.1,w4.2.2.2.1)).bind fun y5=>(show Option (Int×(Int×(Int×(LI×(Int×Int×Int×Bool×c3x)))))from cond (w4.2.2.2.2.1==0) (some (w4.1,w4.2.1,w4.2.2.1,w4.2.2.2.1,w4.2.2.2.2.1,w4.2.2.2.2.2.1,y5,true,w4.2.2.2.2.2.2.1,w4.2.2.2.2.2.2.2.1,w4.2.2.2.2.2.2.2.2.1,())) (some (w4.1,w4.2.1,w4.2.2.1,w4.2.2.2.1,w4.2.2.2.2.1,w4.2.2.2.2.2.1,y5,decide (y5<w4.2.2.2.2.1),w4.2.2.2.2.2.2.1,w4.2.2.2.2.2.2.2.1,w4.2.2.2.2.2.2.2.2.1,()))).bind fun z6=>cond z6.2.2.2.2.2.2.2.1 (some (.inl (z6.1,z6.2.1,z6.2.2.1,z6.2.2.2.1,z6.2.2.2.2.2.2.1,wrap .i64 (z6.2.2.2.2.2.1+1),z6.2.2.2.2.2.2.2.2.1,z6.2.2.2.2.2.2.2.2.2.2.1,()))) (some (.inl (z6.1,z6.2.1,z6.2.2.1,z6.2.2.2.1,z6.2.2.2.2.1,wrap .i64 (z6.2.2.2.2.2.1+1),z6.2.2.2.2.2.2.2.2.1,z6.2.2.2.2.2.2.2.2.2.1,()))))) (some (.inr (f,g,())))) s.2.1 s.2.2.1 s.2.2.2.1 s.2.2.2.2.1 s.2.2.2.2.2.1 s.2.2.2.2.2.2.1 s.2.2.2.2.2.2.2.1
def a8A(x:(Int×Z3)):Option (Z6×Int):=(a6a (x.1,x.2.1,x.2.2.2)).bind fun y1=>cond (!y1) (some ((0,[],()),1)) ((y0s a3i (x.1,x.2.1,x.2.2.1,x.2.2.2,0,0,(0,[],()),(0,[],()),())).bind fun w7=>some (w7.2.1,0))
def c0G:FSem:=⟨[.v QI,.v QI,.v QI,.v QL],[.v Q11,.v QI],a8A⟩
def d2R:Hints:=⟨[(250,[0,1,2,.sv 3 QL,11,12,.box 8 Q11,.box 10 Q11,Qp 8 8,Qp 10 10],[Qe 0 [.box 8 Q11,.box 10 Q11,Qp 8 8,Qp 10 10]]),(512634,[0,1,2,.sv 3 QL,11,12,.sv 15 QL,43,44,.own 42 13 QI,.box 8 Q11,.box 10 Q11,.box 14 Q10,Qp 8 8,Qp 10 10,Qp 14 14],[Qe 2 [0,1,2,.sv 3 QL,11,12,.box 8 Q11,.box 10 Q11,.box 14 Q10,Qp 8 8,Qp 10 10,Qp 14 14]])],[(256319,[Qn [0,1,2,.sv 3 QL,11,12,18,.sv 72 .bool,.box 8 Q11,.box 10 Q11,.box 14 Q11,Qp 8 8,Qp 10 10,Qp 14 14]])],[(15,[.q,.q,.v,.v,.v,.v,.q,.x,.x,.x])]⟩
def a4o(s:(LI×(LI×c3B))):Option ((LI×(LI×c3B)) ⊕ ((LI×a9M) ⊕ (Int×b2F))):=(fun(a b:Int)(c d:a1q)=>cond (decide (b<a)) ((m0k s.2.1 b).bind fun x5=>(m0k s.1 0).bind fun x6=>cond (x5 != x6) (some (.inr (Sum.inr ((7,(0,0,0,0,0,[],a01 3 0,[],[],(0,[],()),[],()),()))))) (some (.inl (s.1,s.2.1,a,wrap .i64 (b+1),c,d,())))) (some (.inr (Sum.inl (s.1,c,d,()))))) s.2.2.1 s.2.2.2.1 s.2.2.2.2.1 s.2.2.2.2.2.1
def b0B(x:(Int×(LI×a1q))):Option b1M:=(show Option (Int×(LI×(Int×Bool×a9M)))from cond (decide ((x.2.1.length:Int)<1)) (some (x.1,x.2.1,(x.2.1.length:Int),true,(0,0,0,0,0,[],a01 3 0,[],[],(0,[],()),[],()),x.2.2,())) (cond (decide ((x.2.1.length:Int) > 4096)) (some (x.1,x.2.1,(x.2.1.length:Int),true,(0,0,0,0,0,[],a01 3 0,[],[],(0,[],()),[],()),x.2.2,())) ((a6I (x.1,x.2.2,(x.2.1.length:Int))).bind fun y1=>some (x.1,x.2.1,(x.2.1.length:Int),!y1,(0,0,0,0,0,[],a01 3 0,[],[],(0,[],()),[],()),x.2.2,())))).bind fun z2=>cond z2.2.2.2.1 (some ((0,0,0,0,0,[],a01 3 0,[],[],(0,[],()),[],()),1)) ((a2f z2.2.1).bind fun y3=>cond (!y3) (some ((0,0,0,0,0,[],a01 3 0,[],[],(0,[],()),[],()),6)) ((a5c (z2.1,z2.2.2.2.2.2.1)).bind fun y4=>cond (z2.1==0) ((y0s a4o (z2.2.1,z2.2.1,(z2.2.1.length:Int),0,z2.2.2.2.2.1,y4,())).bind fun w7=>match w7 with |.inl a8=>((m0k a8.1 0).bind fun x10=>some ((a8.2.2.1.1,a8.2.2.1.2.1,a8.2.2.1.2.2.1,a8.2.2.1.2.2.2.1,a8.2.2.1.2.2.2.2.1,a8.2.2.1.2.2.2.2.2.1,a8.2.2.1.2.2.2.2.2.2.1,a8.2.2.1.2.2.2.2.2.2.2.1,[x10],a8.2.2.1.2.2.2.2.2.2.2.2.2),0)) |.inr b9=>some (b9.2.1,b9.1)) ((a3g z2.2.1).bind fun y11=>(a5Y (z2.2.1,y11)).bind fun y12=>cond (y12.2 != 0) (some ((0,0,0,0,0,[],a01 3 0,[],[],(0,[],()),[],()),6)) (cond (z2.1==1) (some ((y4.1,y11,y4.2.2.1,y4.2.2.2.1,y4.2.2.2.2.1,y4.2.2.2.2.2.1,y4.2.2.2.2.2.2.1,y4.2.2.2.2.2.2.2.1,y12.1,y4.2.2.2.2.2.2.2.2.2),0)) ((a9r ((y4.1,y11,y4.2.2),y12.1)).bind fun y13=>cond (y13.1 != 0) (some ((0,0,0,0,0,[],a01 3 0,[],[],(0,[],()),[],()),6)) ((a8A (z2.2.2.1,(y13.2.2.2.2.2.2.2.2.2.1.length:Int),6,y13.2.2.2.2.2.2.2.2.2.2.2.1)).bind fun y14=>cond (y14.2 != 0) (some ((0,0,0,0,0,[],a01 3 0,[],[],(0,[],()),[],()),6)) (some ((y13.2.1,y13.2.2.1,y13.2.2.2.1,y13.2.2.2.2.1,y13.2.2.2.2.2.1,y13.2.2.2.2.2.2.1,y13.2.2.2.2.2.2.2.1,y13.2.2.2.2.2.2.2.2.1,y13.2.2.2.2.2.2.2.2.2.1,y14.1,y13.2.2.2.2.2.2.2.2.2.2.2),0))))))))
def c3L:FSem:=⟨[.v QI,.v QL,.v Q42],[.v Q42,.v QI],b0B⟩
def H95:Hints:=⟨[(4050,[.sv 1 QL,.sv 39 QL,40,41,.box 6 Q42,.box 9 Q42,Qp 6 6,Qp 9 9],[Qe 0 [.sv 1 QL,.box 6 Q42,.box 9 Q42,Qp 6 6,Qp 9 9],Qr [7,.box 6 Q42,Qp 6 6]])],[(14,[Qn [0,.sv 1 QL,8,.sv 28 .bool,.box 6 Q42,.vp 5 Q42,Qp 6 6]])],[]⟩
def a1T(x:(Z7×Int)):Option Z7:=(show Option Z40 from cond ((a06 x.1.2.1 8)==0) (cond (lim ((a02 x.1.1)+1)) (some (x.2,(a03 x.1.1 [0],x.1.2),())) none) (some (x.2,x.1,()))).bind fun z1=>cond ((decide (0≤(wrap .i64 (a08 z1.2.1.2.1 8))))&&(decide ((wrap .i64 (a08 z1.2.1.2.1 8))<(z1.2.1.1.length:Int)))) (cond (decide ((wrap .i64 (7-(a06 z1.2.1.2.1 8)))<0)) none (cond ((decide (0≤(wrap .i64 (a08 z1.2.1.2.1 8))))&&(decide ((wrap .i64 (a08 z1.2.1.2.1 8))<(z1.2.1.1.length:Int)))) (some (a05 z1.2.1.1 (a00 (wrap .i64 (a08 z1.2.1.2.1 8))) (bits .u8 .or (a04 z1.2.1.1 (a00 (wrap .i64 (a08 z1.2.1.2.1 8))) 0) (A0n .u8 z1.1 (wrap .i64 (7-(a06 z1.2.1.2.1 8))))),wrap .i64 (z1.2.1.2.1+1),z1.2.1.2.2)) none)) none
def b4I:FSem:=⟨[.r false (.b Q9),.v QV],[],a1T⟩
def d2S:Hints:=⟨[],[(1,[Qn [.sv 1 QV,.box pinned Q9,Qp 0 pinned]])],[(2,[.p,.p,.q,.q,.p,.p,.q,.q,.v,.q,.q,.v,.p,.p,.q,.q,.v,.v,.v,.x,.x,.x])]⟩
def a3v(s:Z57):Option (Z57 ⊕ Z23):=cond (decide (s.2.1≥0)) (cond (decide (s.2.1<0)) none ((a1T (s.2.2.1,wrap .u8 (bits .u64 .and (A0o .u64 s.1 s.2.1) 1))).bind fun y2=>some (.inl (s.1,wrap .i64 (s.2.1-1),y2,())))) (some (.inr (s.2.2.1,())))
def a0F(x:(Z7×Int×Int)):Option Z19:=(show Option (Int×Int×Bool×Z23)from cond (decide (x.2.2<0)) (some (x.2.1,x.2.2,true,x.1,())) (cond (decide (x.2.2 > 64)) (some (x.2.1,x.2.2,true,x.1,())) (cond (decide (x.2.2<0)) none (some (x.2.1,x.2.2,(A0o .u64 x.2.1 x.2.2) != 0,x.1,()))))).bind fun z1=>cond z1.2.2.1 (some (1,z1.2.2.2.1)) ((y0s a3v (z1.1,wrap .i64 (z1.2.1-1),z1.2.2.2.1,())).bind fun w3=>some (0,w3.1))
def b4J:FSem:=⟨[.r false (.b Q9),.v QU,.v QI],[.v QI],a0F⟩
def H99:Hints:=⟨[(58,[.sv 1 QU,7,.box pinned Q9,Qp 0 pinned],[Qe 0 [.box pinned Q9]])],[(6,[Qn [.sv 1 QU,2,.sv 19 .bool,.box pinned Q9,Qp 0 pinned]])],[]⟩
def a2t(x:(Z7×Int×Int)):Option Z7:=cond (decide (x.2.2<0)) none ((a0F (x.1,bits .u64 .and (wrap .u64 x.2.1) (wrap .u64 ((A0n .u64 1 x.2.2)-1)),x.2.2)).bind fun y1=>some y1.2)
def b6d:FSem:=⟨[.r false (.b Q9),.v QI,.v QI],[],a2t⟩
def a4X(s:Z91):Option (Z91 ⊕ Z23):=(fun(a b:Int)(c:Z7)=>cond (decide (b<a)) ((m0k s.2.1 b).bind fun x6=>(a2t (c,x6,s.1)).bind fun y7=>some (.inl (s.1,s.2.1,a,wrap .i64 (b+1),y7,()))) (some (.inr (c,())))) s.2.2.1 s.2.2.2.1 s.2.2.2.2.1
def a7n(x:(Z7×a1q)):Option Z7:=(a0F (x.1,wrap .u64 (wrap .i64 ((x.2.2.2.2.2.2.1.length:Int)-1)),5)).bind fun y1=>(a0F (y1.2,wrap .u64 x.2.2.2.2.1,4)).bind fun y2=>(a1l x.2.2.2.2.2.2.1).bind fun y3=>(a0F (y2.2,wrap .u64 y3,5)).bind fun y4=>(y0s a4X (y3,x.2.2.2.2.2.2.1,(x.2.2.2.2.2.2.1.length:Int),0,y4.2,())).bind fun w8=>some w8.1
def b7x:FSem:=⟨[.r false (.b Q9),.v Q42],[],a7n⟩
def d2T:Hints:=⟨[(254,[4,.sv 27 QL,28,29,.box pinned Q9,Qp 0 pinned],[Qe 0 [.box pinned Q9]])],[],[]⟩
def a2V(s:Z57):Option (Z57 ⊕ Z23):=cond (decide (s.2.1<s.1)) ((a1T (s.2.2.1,0)).bind fun y2=>some (.inl (s.1,wrap .i64 (s.2.1+1),y2,()))) (some (.inr (s.2.2.1,())))
def a2a(x:(Z7×Int)):Option Z19:=(show Option (Int×Bool×Z23)from cond (decide (x.2<0)) (some (x.2,true,x.1,())) (some (x.2,decide (x.2 > 4096),x.1,()))).bind fun z1=>cond z1.2.1 (some (1,z1.2.2.1)) ((y0s a2V (z1.1,0,z1.2.2.1,())).bind fun w3=>(a1T (w3.1,1)).bind fun y4=>some (0,y4))
def b3K:FSem:=⟨[.r false (.b Q9),.v QI],[.v QI],a2a⟩
def d2U:Hints:=⟨[(58,[11,12,.box pinned Q9,Qp 0 pinned],[Qe 0 [.box pinned Q9,Qp 0 pinned]])],[(6,[Qn [1,.sv 10 .bool,.box pinned Q9,Qp 0 pinned]])],[]⟩
def a7X(s:(Int×(LI×Z81))):Option ((Int×(LI×Z81)) ⊕ ((Int×(LI×Z23)) ⊕ Z40)):=(fun(a:LI)(b c:Int)(d:Z7)=>cond (decide (c<b)) ((m0k a c).bind fun x2=>(a6o x2).bind fun y3=>cond (!y3) (some (.inr (Sum.inr ((1,d,()))))) (some (.inl (s.1,s.2.1,a,b,wrap .i64 (c+1),d,())))) (some (.inr (Sum.inl (s.1,s.2.1,d,()))))) s.2.2.1 s.2.2.2.1 s.2.2.2.2.1 s.2.2.2.2.2.1
def a6b(s:Z91):Option (Z91 ⊕ Z23):=(fun(a:Int)(b:LI)(c d:Int)(e:Z7)=>cond (decide (d<c)) ((m0k b d).bind fun x7=>(a7M x7).bind fun y8=>cond (decide (a<0)) none (cond (decide ((A0o .u64 y8 a)<32)) ((a2a (e,wrap .i64 (A0o .u64 y8 a))).bind fun y9=>cond (decide (a<0)) none ((a0F (y9.2,wrap .u64 (y8-(A0n .u64 (A0o .u64 y8 a) a)),a)).bind fun y10=>some (.inl (a,b,c,wrap .i64 (d+1),y10.2,())))) ((a2a (e,32)).bind fun y11=>(a0F (y11.2,y8,32)).bind fun y12=>some (.inl (a,b,c,wrap .i64 (d+1),y12.2,()))))) (some (.inr (e,())))) s.1 s.2.1 s.2.2.1 s.2.2.2.1 s.2.2.2.2.1
def b0C(x:(Z7×(Int×LI))):Option Z19:=(a1J x.2.1).bind fun y1=>cond (!y1) (some (1,x.1)) ((y0s a7X (x.2.1,x.2.2,x.2.2,(x.2.2.length:Int),0,x.1,())).bind fun w4=>match w4 with |.inl a5=>((y0s a6b (a5.1,a5.2.1,(a5.2.1.length:Int),0,a5.2.2.1,())).bind fun w13=>some (0,w13.1)) |.inr b6=>some (b6.1,b6.2.1))
def c3M:FSem:=⟨[.r false (.b Q9),.v QI,.v QL],[.v QI],b0C⟩
def d2V:Hints:=⟨[(58,[1,.sv 2 QL,.sv 16 QL,17,18,.box pinned Q9,Qp 0 pinned],[Qe 0 [1,.sv 2 QL,.box pinned Q9,Qp 0 pinned],Qr [6,.box pinned Q9]]),(122,[1,.sv 26 QL,27,28,.box pinned Q9,Qp 0 pinned],[Qe 2 [.box pinned Q9]])],[],[]⟩
def a7o(s:(LI×(Int×Int×Int×b9F))):Option ((LI×(Int×Int×Int×b9F)) ⊕ b9F):=(fun(a b c:Int)(d:LI)(e f:Int)(g:LI)(h:Z7)(i:Z6)=>cond (decide (f<e)) ((m0k d f).bind fun x11=>cond (decide (a<0)) none ((a0F (h,bits .u64 .and (wrap .u64 x11) (wrap .u64 ((A0n .u64 1 a)-1)),a)).bind fun y12=>some (.inl (s.1,a,b,c,d,e,wrap .i64 (f+1),g,y12.2,i,())))) (some (.inr (s.1,b,c,g,h,i,())))) s.2.1 s.2.2.1 s.2.2.2.1 s.2.2.2.2.1 s.2.2.2.2.2.1 s.2.2.2.2.2.2.1 s.2.2.2.2.2.2.2.1 s.2.2.2.2.2.2.2.2.1 s.2.2.2.2.2.2.2.2.2.1
def a3K(s:b9F):Option (b9F ⊕ Z23):=(fun(a:LI)(b c:Int)(d:LI)(e:Z7)(f:Z6)=>cond (decide (c<b)) (cond ((decide (0≤c))&&(decide (c<(d.length:Int)))) (cond ((decide (0≤(a04 d (a00 c) 0)))&&(decide ((a04 d (a00 c) 0)≤(a.length:Int)))) (cond ((decide (0≤(a04 d (a00 c) 0)))&&(decide ((a04 d (a00 c) 0)≤(a.length:Int)))) ((m0k f.2.1 c).bind fun x4=>(a0F (e,wrap .u64 x4,5)).bind fun y5=>(m0k f.2.1 c).bind fun x6=>cond (x6 != 31) ((m0k f.2.1 c).bind fun x7=>(b0C (y5.2,x7,a07 (a00 (a04 d (a00 c) 0)) a)).bind fun y8=>some (.inl (a09 (a00 (a04 d (a00 c) 0)) (a07 (a02 a) a),b,wrap .i64 (c+1),d,y8.2,f,()))) ((a1l (a07 (a00 (a04 d (a00 c) 0)) a)).bind fun y9=>(a0F (y5.2,wrap .u64 y9,5)).bind fun y10=>(y0s a7o (a09 (a00 (a04 d (a00 c) 0)) (a07 (a02 a) a),y9,b,c,a07 (a00 (a04 d (a00 c) 0)) a,((a02 (a07 (a00 (a04 d (a00 c) 0)) a):Nat):Int),0,d,y10.2,f,())).bind fun w13=>some (.inl (w13.1,w13.2.1,wrap .i64 (w13.2.2.1+1),w13.2.2.2.1,w13.2.2.2.2.1,w13.2.2.2.2.2.1,())))) none) none) none) (some (.inr (e,())))) s.1 s.2.1 s.2.2.1 s.2.2.2.1 s.2.2.2.2.1 s.2.2.2.2.2.1
def a9t(x:(Z7×Z6×Z3)):Option Z19:=(a3U (x.2.1,x.2.2.1,x.2.2.2.1,x.2.2.2.2)).bind fun y1=>cond (y1==0) (some (1,x.1)) ((a0F (x.1,wrap .u64 x.2.1.1,4)).bind fun y2=>(a2A (x.2.1.1,x.2.2.1,x.2.2.2.1)).bind fun y3=>(y0s a3K (x.2.2.2.2,(y3.length:Int),0,y3,y2.2,x.2.1,())).bind fun w14=>some (0,w14.1))
def c2u:FSem:=⟨[.r false (.b Q9),.v Q11,.v QI,.v QI,.v QL],[.v QI],a9t⟩
def d2W:Hints:=⟨[(122,[.sv 4 QL,33,34,.own 32 1032 QI,.box pinned Q9,Qp 0 pinned,.vp 6 Q11],[Qe 0 [.box pinned Q9]]),(2005502,[.sv 4 QL,14,33,34,.sv 73 QL,74,75,.own 32 1032 QI,.box pinned Q9,Qp 0 pinned,.vp 6 Q11],[Qe 2 [.sv 4 QL,33,34,.own 32 1032 QI,.box pinned Q9,Qp 0 pinned,.vp 6 Q11]])],[],[]⟩
def a8B(s:(Int×(Int×(LI×c3A)))):Option ((Int×(Int×(LI×c3A))) ⊕ b1N):=(fun(a:LI)(b:Int)(c:Z7)(d:a1q)=>cond (decide (b<3)) ((m0k a b).bind fun x8=>(a2t (c,x8,8)).bind fun y9=>some (.inl (s.1,s.2.1,a,wrap .i64 (b+1),y9,d,()))) (some (.inr (s.1,s.2.1,c,d,())))) s.2.2.1 s.2.2.2.1 s.2.2.2.2.1 s.2.2.2.2.2.1
def a8C(s:(Int×Int×Z5×b1N)):Option ((Int×Int×Z5×b1N) ⊕ b1N):=(fun(a:Z5)(b c:Int)(d:Z7)(e:a1q)=>cond (decide (c<b)) ((m0k a c).bind fun x18=>(a0F (d,wrap .u64 (wrap .i64 (x18.1-1)),5)).bind fun y19=>(a0F (y19.2,wrap .u64 x18.2.1,4)).bind fun y20=>some (.inl (s.1,s.2.1,a,b,wrap .i64 (c+1),y20.2,e,()))) (some (.inr (s.1,s.2.1,d,e,())))) s.2.2.1 s.2.2.2.1 s.2.2.2.2.1 s.2.2.2.2.2.1 s.2.2.2.2.2.2.1
def a8D(s:(Int×(Int×(LI×b1N)))):Option ((Int×(Int×(LI×b1N))) ⊕ c3A):=(fun(a:LI)(b c:Int)(d:Z7)(e:a1q)=>cond (decide (c<b)) ((m0k a c).bind fun x23=>(a2t (d,x23,s.2.1)).bind fun y24=>some (.inl (s.1,s.2.1,a,b,wrap .i64 (c+1),y24,e,()))) (some (.inr (s.1,d,e,())))) s.2.2.1 s.2.2.2.1 s.2.2.2.2.1 s.2.2.2.2.2.1 s.2.2.2.2.2.2.1
def a8k(x:(Z7×b1M)):Option Z19:=(a8i (x.2.1,x.2.2)).bind fun y1=>cond (!y1) (some (1,x.1)) ((a1l x.2.1.2.2.2.2.2.2.2.2.1).bind fun y2=>(a0F (x.1,wrap .u64 x.2.1.1,3)).bind fun y3=>(a0F (y3.2,wrap .u64 x.2.1.2.1,5)).bind fun y4=>(a0F (y4.2,wrap .u64 y2,5)).bind fun y5=>(show Option b1N from(show Option (b1N ⊕ (b1N ⊕ b1N))from cond (x.2.1.1==2) ((a0F (y5.2,wrap .u64 x.2.1.2.2.1,3)).bind fun y6=>some (Sum.inr (Sum.inl (x.2.2,y2,y6.2,x.2.1,())))) (cond (x.2.1.1==4) ((a0F (y5.2,wrap .u64 (wrap .i64 (x.2.1.2.2.2.2.1-1)),10)).bind fun y7=>(y0s a8B (x.2.2,y2,x.2.1.2.2.2.2.2.2.1,0,y7.2,x.2.1,())).bind fun w10=>some (Sum.inl (w10.1,w10.2.1,w10.2.2.1,w10.2.2.2.1,()))) (cond (x.2.1.1==3) (some (Sum.inl (x.2.2,y2,y5.2,x.2.1,()))) (cond (x.2.1.1==5) (some (Sum.inr (Sum.inr ((x.2.2,y2,y5.2,x.2.1,()))))) (some (Sum.inr (Sum.inl (x.2.2,y2,y5.2,x.2.1,())))))))).bind fun z11=>match z11 with |.inl a12=>((a7n (a12.2.2.1,a12.2.2.2.1)).bind fun y14=>some (a12.1,a12.2.1,y14,a12.2.2.2.1,())) |.inr b13=>(match b13 with |.inl a15=>some (a15.1,a15.2.1,a15.2.2.1,a15.2.2.2.1,()) |.inr b16=>((a0F (b16.2.2.1,wrap .u64 (b16.2.2.2.1.2.2.2.2.2.2.2.1.length:Int),2)).bind fun y17=>(y0s a8C (b16.1,b16.2.1,b16.2.2.2.1.2.2.2.2.2.2.2.1,(b16.2.2.2.1.2.2.2.2.2.2.2.1.length:Int),0,y17.2,b16.2.2.2.1,())).bind fun w21=>some (w21.1,w21.2.1,w21.2.2.1,w21.2.2.2.1,())))).bind fun z22=>(y0s a8D (z22.1,z22.2.1,z22.2.2.2.1.2.2.2.2.2.2.2.2.1,(z22.2.2.2.1.2.2.2.2.2.2.2.2.1.length:Int),0,z22.2.2.1,z22.2.2.2.1,())).bind fun w25=>(a5a w25.2.2.1.1).bind fun y26=>cond (!y26) (some (0,w25.2.1)) ((a9t (w25.2.1,w25.2.2.1.2.2.2.2.2.2.2.2.2.1,w25.1,(w25.2.2.1.2.2.2.2.2.2.2.2.1.length:Int),w25.2.2.1.2.2.2.2.2.2.2.2.2.2.1)).bind fun y27=>some (y27.1,y27.2)))
def c5i:FSem:=⟨[.r false (.b Q9),.v Q42,.v QI],[.v QI],a8k⟩
def H50:Hints:=⟨[(2042,[2,7,.sv 94 QL,95,96,.box pinned Q9,Qp 0 pinned,.vp 4 Q42],[Qe 9 [2,.box pinned Q9,Qp 0 pinned,.vp 4 Q42]]),(32598,[2,7,.sv 75 (.list false Q3),76,77,.box pinned Q9,Qp 0 pinned,.vp 4 Q42],[Qe 7 [2,7,.box pinned Q9,Qp 0 pinned,.vp 4 Q42]]),(260622,[2,7,.sv 57 (.arr 3 QI),58,.box pinned Q9,Qp 0 pinned,.vp 4 Q42],[Qe 5 [2,7,.box pinned Q9,Qp 0 pinned,.vp 4 Q42]])],[(127,[Qn [2,7,.box pinned Q9,Qp 0 pinned,.vp 4 Q42]]),(4072,[Qn [2,7,.box pinned Q9,Qp 0 pinned,.vp 4 Q42],Qe 0 [2,7,.box pinned Q9,Qp 0 pinned,.vp 4 Q42],Qe 4 [2,7,.box pinned Q9,Qp 0 pinned,.vp 4 Q42]])],[]⟩
def a7B(x:Z7):Option Z19:=some (x.2.1,x)
def b4K:FSem:=⟨[.r false (.b Q9)],[.v QI],a7B⟩
def a3w(x:b1M):Option Int:=(a8k (([],0,()),x.1,x.2)).bind fun y1=>cond (y1.1 != 0) (some 0) ((a7B y1.2).bind fun y2=>some y2.1)
def c3N:FSem:=⟨[.v Q42,.v QI],[.v QI],a3w⟩
def a6c(s:(LI×(Int×Bool×a8R×c3B))):Option ((LI×(Int×Bool×a8R×c3B)) ⊕ a9M):=(fun(a:LI)(b:Int)(c:Bool)(d:a8R)(e f:Int)(g h:a1q)=>cond (decide (f<e)) ((m0k d f).bind fun x6=>(b0B (x6.1,a,x6)).bind fun y7=>cond (y7.2 != 0) (some (.inl (a,b,c,d,e,wrap .i64 (f+1),g,h,()))) ((a3w (y7.1,(a.length:Int))).bind fun y8=>(show Option (LI×(Int×Bool×Int×a8R×Int×Int×Bool×a1q×a9M))from cond (!c) (some (a,b,c,y8,d,e,f,true,g,h,y7.1,())) (some (a,b,c,y8,d,e,f,decide (y8<b),g,h,y7.1,()))).bind fun z9=>cond z9.2.2.2.2.2.2.2.1 (some (.inl (z9.1,z9.2.2.2.1,true,z9.2.2.2.2.1,z9.2.2.2.2.2.1,wrap .i64 (z9.2.2.2.2.2.2.1+1),z9.2.2.2.2.2.2.2.2.1,z9.2.2.2.2.2.2.2.2.2.2.1,()))) (some (.inl (z9.1,z9.2.1,z9.2.2.1,z9.2.2.2.2.1,z9.2.2.2.2.2.1,wrap .i64 (z9.2.2.2.2.2.2.1+1),z9.2.2.2.2.2.2.2.2.1,z9.2.2.2.2.2.2.2.2.2.1,()))))) (some (.inr (g,h,())))) s.1 s.2.1 s.2.2.1 s.2.2.2.1 s.2.2.2.2.1 s.2.2.2.2.2.1 s.2.2.2.2.2.2.1 s.2.2.2.2.2.2.2.1
def a4E(x:(LI×Int)):Option b1M:=(show Option (LI×b9G)from cond (decide ((x.1.length:Int)<1)) (some (x.1,x.2,true,(0,0,0,0,0,[],a01 3 0,[],[],(0,[],()),[],()),())) (cond (decide ((x.1.length:Int) > 4096)) (some (x.1,x.2,true,(0,0,0,0,0,[],a01 3 0,[],[],(0,[],()),[],()),())) (cond (decide (x.2<0)) (some (x.1,x.2,true,(0,0,0,0,0,[],a01 3 0,[],[],(0,[],()),[],()),())) (some (x.1,x.2,decide (x.2 > 3),(0,0,0,0,0,[],a01 3 0,[],[],(0,[],()),[],()),()))))).bind fun z1=>cond z1.2.2.1 (some ((0,0,0,0,0,[],a01 3 0,[],[],(0,[],()),[],()),1)) ((a2f z1.1).bind fun y2=>cond (!y2) (some ((0,0,0,0,0,[],a01 3 0,[],[],(0,[],()),[],()),6)) ((a3g z1.1).bind fun y3=>(a5Y (z1.1,y3)).bind fun y4=>cond (y4.2 != 0) (some ((0,0,0,0,0,[],a01 3 0,[],[],(0,[],()),[],()),y4.2)) ((a5I (y4.1,z1.2.1)).bind fun y5=>(y0s a6c (z1.1,0,false,y5,(y5.length:Int),0,z1.2.2.2.1,(0,0,0,0,0,[],a01 3 0,[],[],(0,[],()),[],()),())).bind fun w10=>some (w10.2.1,0))))
def c3O:FSem:=⟨[.v QL,.v QI],[.v Q42,.v QI],a4E⟩
def H48:Hints:=⟨[(2042,[.sv 0 QL,9,.sv 10 .bool,.sv 50 (.list false Q42),51,52,.box 4 Q42,.box 8 Q42,Qp 4 4,Qp 8 8],[Qe 0 [.box 4 Q42,.box 8 Q42,Qp 4 4,Qp 8 8]])],[(6,[Qn [.sv 0 QL,1,.sv 31 .bool,.box 4 Q42,Qp 4 4]]),(1045711,[Qn [.sv 0 QL,9,.sv 10 .bool,15,.sv 50 (.list false Q42),51,52,.sv 76 .bool,.box 4 Q42,.box 8 Q42,.box 13 Q42,Qp 4 4,Qp 8 8,Qp 13 13]])],[]⟩
def a4F(s:(Int×((List LI)×(Int×Int×a1C×b1O)))):Option ((Int×((List LI)×(Int×Int×a1C×b1O))) ⊕ ((a1C×b1O) ⊕ (Int×b1O))):=(fun(a b:Int)(c d:a1C)=>cond (decide (b<a)) ((m0k s.2.1 b).bind fun x8=>(a4E (x8,s.1)).bind fun y9=>cond (y9.2 != 0) (some (.inr (Sum.inr ((y9.2,(0,0,(0,0,0,()),[],[],()),()))))) (cond (lim ((a02 d.2.2.2.2.1)+1)) (some (.inl (s.1,s.2.1,a,wrap .i64 (b+1),c,(d.1,d.2.1,d.2.2.1,d.2.2.2.1,a03 d.2.2.2.2.1 ([y9.1]:List a1q),d.2.2.2.2.2),()))) none)) (some (.inr (Sum.inl (c,d,()))))) s.2.2.1 s.2.2.2.1 s.2.2.2.2.1 s.2.2.2.2.2.1
def a3b(x:(Z13×Z8×Int×Int)):Option (a1C×Int):=(show Option (Int×Int×Bool×a1C×Z13×Z24)from(a2P x.1).bind fun y1=>cond (!y1) (some (x.2.2.1,x.2.2.2,true,(0,0,(0,0,0,()),[],[],()),x.1,x.2.1,())) ((a2e x.2.1).bind fun y2=>cond (!y2) (some (x.2.2.1,x.2.2.2,true,(0,0,(0,0,0,()),[],[],()),x.1,x.2.1,())) (cond (x.1.1 != x.2.1.2.2.1) (some (x.2.2.1,x.2.2.2,true,(0,0,(0,0,0,()),[],[],()),x.1,x.2.1,())) (cond ((x.1.2.1.length:Int) != x.2.1.2.1) (some (x.2.2.1,x.2.2.2,true,(0,0,(0,0,0,()),[],[],()),x.1,x.2.1,())) (cond (decide (x.2.2.2<0)) (some (x.2.2.1,x.2.2.2,true,(0,0,(0,0,0,()),[],[],()),x.1,x.2.1,())) (cond (decide (x.2.2.2 > 3)) (some (x.2.2.1,x.2.2.2,true,(0,0,(0,0,0,()),[],[],()),x.1,x.2.1,())) (some (x.2.2.1,x.2.2.2,decide (x.2.2.1<0),(0,0,(0,0,0,()),[],[],()),x.1,x.2.1,())))))))).bind fun z3=>cond z3.2.2.1 (some ((0,0,(0,0,0,()),[],[],()),1)) ((a2r z3.2.2.2.2.1).bind fun y4=>cond (decide (z3.1 > (wrap .i64 (4194304-y4)))) (some ((0,0,(0,0,0,()),[],[],()),4)) ((show Option (Int×a1C×a1C×Z35)from cond (decide (z3.2.1 > 0)) ((a6m z3.2.2.2.2.1).bind fun y5=>some (z3.2.1,z3.2.2.2.1,(z3.1,y4,z3.2.2.2.2.2.1,y5,[],()),z3.2.2.2.2.1,())) (some (z3.2.1,z3.2.2.2.1,(z3.1,y4,z3.2.2.2.2.2.1,[],[],()),z3.2.2.2.2.1,()))).bind fun z6=>(a9G (z6.2.2.2.1.2.1,z6.2.2.1.2.2.2.1)).bind fun y7=>cond (y7.2 != 0) (some ((0,0,(0,0,0,()),[],[],()),y7.2)) ((y0s a4F (z6.1,y7.1,(y7.1.length:Int),0,z6.2.1,z6.2.2.1,())).bind fun w10=>match w10 with |.inl a11=>some (a11.2.1,0) |.inr b12=>some (b12.2.1,b12.1))))
def c0H:FSem:=⟨[.v Q15,.v Q12,.v QI,.v QI],[.v Q60,.v QI],a3b⟩
def H20:Hints:=⟨[(2042,[3,.sv 81 (.list false QL),82,83,.box 8 Q60,.box 10 Q59,Qp 8 8,Qp 10 10],[Qe 0 [.box 8 Q60,.box 10 Q59,Qp 8 8,Qp 10 10],Qr [9,.box 8 Q60,Qp 8 8]])],[(6,[Qn [2,3,.sv 51 .bool,.box 8 Q60,.vp 4 Q15,.vp 5 Q12,Qp 8 8]]),(31,[Qn [3,.box 8 Q60,.box 10 Q59,.vp 4 Q15,Qp 8 8,Qp 10 10]])],[(3,[.v,.v,.v,.v,.v,.q,.x])]⟩
def a7p(s:((List LI)×(Int×Int×Z13×Z13×Z11))):Option (((List LI)×(Int×Int×Z13×Z13×Z11)) ⊕ (Z13×Z35)):=(fun(a:Int)(b c:Z13)(d:Int×(Int×Unit))=>cond (decide (a<s.2.1)) ((m0k s.1 a).bind fun x4=>cond ((decide (0≤d.2.1))&&(decide (d.2.1≤(x4.length:Int)))) (cond ((decide (0≤d.1))&&(decide (d.1≤((a00 d.2.1:Nat):Int)))) ((a2g (a09 (a00 d.1) (a07 (a00 d.2.1) x4))).bind fun y5=>cond (lim ((a02 c.2.1)+1)) (some (.inl (s.1,s.2.1,wrap .i64 (a+1),b,(c.1,a03 c.2.1 ([y5]:List LI),c.2.2),d,()))) none) none) none) (some (.inr (b,c,())))) s.2.2.1 s.2.2.2.1 s.2.2.2.2.1 s.2.2.2.2.2.1
def a7N(x:(Z13×Int×Int×Unit)):Option Z31:=(a2P x.1).bind fun y1=>cond (!y1) (some ((0,([]:(List LI)),()),1)) ((show Option (Bool×Z13×Z13×Z11)from cond (decide (x.2.1<0)) (some (true,(0,([]:(List LI)),()),x.1,x.2,())) (cond (decide (x.2.1≥x.2.2.1)) (some (true,(0,([]:(List LI)),()),x.1,x.2,())) ((a2r x.1).bind fun y2=>some (decide (x.2.2.1 > y2),(0,([]:(List LI)),()),x.1,x.2,())))).bind fun z3=>cond z3.1 (some ((0,([]:(List LI)),()),6)) ((y0s a7p (z3.2.2.1.2.1,(z3.2.2.1.2.1.length:Int),0,z3.2.1,(z3.2.2.1.1,([]:(List LI)),()),z3.2.2.2.1,())).bind fun w6=>some (w6.2.1,0)))
def c2v:FSem:=⟨[.v Q15,.v Q3],[.v Q15,.v QI],a7N⟩
def H26:Hints:=⟨[(250,[.sv 35 (.list false QL),36,37,.box 4 Q15,.box 6 (.pair QI Q7),.vp 3 Q3,Qp 4 4,Qp 6 6],[Qe 0 [.box 4 Q15,.box 6 (.pair QI Q7),Qp 4 4,Qp 6 6]])],[(14,[Qn [.sv 29 .bool,.box 4 Q15,.vp 2 Q15,.vp 3 Q3,Qp 4 4]])],[(3,[.x,.x,.x,.x,.v,.v,.v,.v,.x,.x,.x,.v,.v,.v,.v,.x,.x]),(9,[.q,.q,.v,.v,.v,.v,.v,.v,.v,.q,.x,.x,.x])]⟩
def a4G(x:(a1C×(Int×Int×Unit)×Int)):Option (a1C×Int):=(a1t x.1).bind fun y1=>cond (y1.2 != 0) (some ((0,0,(0,0,0,()),[],[],()),y1.2)) ((a7N (y1.1,x.2.1)).bind fun y2=>cond (y2.2 != 0) (some ((0,0,(0,0,0,()),[],[],()),y2.2)) ((a3b (y2.1,x.1.2.2.1,0,x.2.2)).bind fun y3=>some (y3.1,y3.2)))
def b6e:FSem:=⟨[.v Q60,.v Q3,.v QI],[.v Q60,.v QI],a4G⟩
def a2W(s:Z23):Option (Z23 ⊕ Z23):=cond ((a06 s.1.2.1 8) != 0) ((a1T (s.1,0)).bind fun y2=>some (.inl (y2,()))) (some (.inr (s.1,())))
def a4f(x:Z7):Option Z7:=(y0s a2W (x,())).bind fun w3=>some w3.1
def b3L:FSem:=⟨[.r false (.b Q9)],[],a4f⟩
def H51:Hints:=⟨[(2,[.box pinned Q9,Qp 0 pinned],[Qe 0 [.box pinned Q9]])],[],[]⟩
def a4g(x:Z7):Option (LI×Z7):=cond (lim (a02 x.1)) (some (x.1,x)) none
def b3M:FSem:=⟨[.r false (.b Q9)],[.o QV],a4g⟩
def a9u(x:Int):Option Int:=cond (decide (x≥0)) (some (wrap .u64 (2*(wrap .u64 x)))) (some (wrap .u64 ((wrap .u64 (2*(wrap .u64 (wrap .i64 (0-(wrap .i64 (x+1)))))))+1)))
def c2w:FSem:=⟨[.v QI],[.v QU],a9u⟩
def a7q(s:Z61):Option (Z61 ⊕ Z61):=(fun(a b c:Int)(d:LI)=>cond (decide (a≥128)) (cond (lim ((a02 d)+1)) (some (.inl (wrap .u64 (a08 a 128),s.2.1,b,c,a03 d [wrap .u8 ((wrap .u8 (a06 a 128))+128)],()))) none) (some (.inr (a,s.2.1,b,c,d,())))) s.1 s.2.2.1 s.2.2.2.1 s.2.2.2.2.1
def a7r(s:Z43):Option (Z43 ⊕ (LI×Unit)):=cond (decide (s.2.2.1<s.2.1)) ((m0k s.1 s.2.2.1).bind fun x1=>(y0s a7q (x1,s.1,s.2.1,s.2.2.1,s.2.2.2.1,())).bind fun w2=>cond (lim ((a02 w2.2.2.2.2.1)+1)) (some (.inl (w2.2.1,w2.2.2.1,wrap .i64 (w2.2.2.2.1+1),a03 w2.2.2.2.2.1 [wrap .u8 w2.1],()))) none) (some (.inr (s.2.2.2.1,())))
def a7O(x:LI):Option LI:=(y0s a7r (x,(x.length:Int),0,[],())).bind fun w3=>some w3.1
def c2x:FSem:=⟨[.v (.list false QU)],[.o QV],a7O⟩
def d2X:Hints:=⟨[(58,[.sv 6 (.list false QU),7,8,.own 3 3 QV],[Qe 0 [.own 3 3 QV]]),(14948,[.sv 5 QU,.sv 6 (.list false QU),7,8,.own 3 3 QV],[Qe 2 [.sv 5 QU,.sv 6 (.list false QU),7,8,.own 3 3 QV]])],[],[]⟩
def a4H(s:(Int×Z17×Z18)):Option ((Int×Z17×Z18) ⊕ Z6):=(fun(a b:Int)(c:LI)=>cond (decide (b<a)) ((m0k s.2.1 b).bind fun x1=>(a9u x1.2.2.1).bind fun y2=>cond (lim ((a02 c)+3)) (some (.inl (s.1,s.2.1,a,wrap .i64 (b+1),a03 c [wrap .u64 x1.1,wrap .u64 x1.2.1,y2],()))) none) (some (.inr (s.1,c,())))) s.2.2.1 s.2.2.2.1 s.2.2.2.2.1
end Go.Ab
namespace Go.Ab
open IntKind(wrap)
open Go.Proofs
set_option maxRecDepth 100000
set_option linter.unusedVariables false
def a6D(x:(a1C×Int)):Option LI:=(y0s a4H (x.2,x.1.2.2.2.1,(x.1.2.2.2.1.length:Int),0,([wrap .u64 x.1.1,wrap .u64 x.1.2.1,wrap .u64 x.1.2.2.1.1,wrap .u64 x.1.2.2.1.2.1,wrap .u64 x.1.2.2.1.2.2.1,wrap .u64 (x.1.2.2.2.1.length:Int)]:List Int),())).bind fun w3=>cond (lim ((a02 w3.2.1)+1)) ((a7O (a03 w3.2.1 [wrap .u64 w3.1])).bind fun y4=>cond (lim (2+(a02 y4))) ((a6K (a03 [245,75] y4)).bind fun y5=>cond (lim ((a02 (a03 [245,75] y4))+1)) (some (a03 (a03 [245,75] y4) [y5])) none) none) none
def b6f:FSem:=⟨[.v Q60,.v QI],[.o QV],a6D⟩
def H53:Hints:=⟨[(58,[1,.sv 33 (.list false Q12),34,35,.own 5 5 QU],[Qe 0 [1,.own 5 5 QU]])],[],[(5,[.q,.q,.q,.v,.q,.q,.v,.q,.q,.v,.q,.x,.x])]⟩
def a3V(s:Z36):Option (Z36 ⊕ (LI×Unit)):=cond (decide (s.2.2.1<s.2.1)) (cond (lim ((a02 s.2.2.2.1)+1)) (some (.inl (wrap .u64 (a08 s.1 256),s.2.1,wrap .i64 (s.2.2.1+1),a03 s.2.2.2.1 [wrap .u8 (a06 s.1 256)],()))) none) (some (.inr (s.2.2.2.1,())))
def a7Y(x:(Int×Int)):Option LI:=(a7S x.2).bind fun y1=>(y0s a3V (x.1,y1,0,[],())).bind fun w2=>some w2.1
def b9f:FSem:=⟨[.v QU,.v QI],[.o QV],a7Y⟩
def d2Y:Hints:=⟨[(58,[.sv 0 QU,7,8,.own 5 5 QV],[Qe 0 [.own 5 5 QV]])],[],[]⟩
def a2C(x:LI):Option LI:=cond (decide (a02 x<2147483648)) (some (List.reverse x)) none
def a8O:FSem:=⟨[.r false (.o QV)],[],a2C⟩
def a6q(x:(Int×Int)):Option LI:=(a7Y (x.1,x.2)).bind fun y1=>(a2C y1).bind fun y2=>some y2
def c2y:FSem:=⟨[.v QU,.v QI],[.o QV],a6q⟩
def a7s(s:(a8R×Int×Int×Z7×b1O)):Option ((a8R×Int×Int×Z7×b1O) ⊕ ((Z7×b1O) ⊕ Z6)):=(fun(a:Int)(b:Z7)(c:a1C)=>cond (decide (a<s.2.1)) ((m0k s.1 a).bind fun x2=>(a8k (b,x2,c.2.1)).bind fun y3=>cond (y3.1 != 0) (some (.inr (Sum.inr ((y3.1,[],()))))) (some (.inl (s.1,s.2.1,wrap .i64 (a+1),y3.2,c,())))) (some (.inr (Sum.inl (b,c,()))))) s.2.2.1 s.2.2.2.1 s.2.2.2.2.1
def a1r(x:a1C):Option (LI×Int):=(a3A x).bind fun y1=>cond (!y1) (some ([],1)) ((y0s a7s (x.2.2.2.2.1,(x.2.2.2.2.1.length:Int),0,([],0,()),x,())).bind fun w4=>match w4 with |.inl a5=>((a4f a5.1).bind fun y7=>(a4g y7).bind fun y8=>(a6D (a5.2.1,(y8.1.length:Int))).bind fun y9=>cond (lim ((a02 y9)+(a02 y8.1))) ((a5f (a03 y9 y8.1)).bind fun y10=>(a6q (wrap .u64 y10,2)).bind fun y11=>cond (lim ((a02 (a03 y9 y8.1))+(a02 y11))) (some (a03 (a03 y9 y8.1) y11,0)) none) none) |.inr b6=>some (b6.2.1,b6.1))
def c2z:FSem:=⟨[.v Q60],[.o QV,.v QI],a1r⟩
def H21:Hints:=⟨[(122,[.sv 14 (.list false Q42),15,16,.box 4 Q9,.vp 1 Q60,Qp 4 4],[Qe 0 [.box 4 Q9,.vp 1 Q60,Qp 4 4],Qr [3,.own 2 2 QV]])],[],[]⟩
def b7y(s:(Int×Int×Int×a3M×Int×Int×c3C)):Option ((Int×Int×Int×a3M×Int×Int×c3C) ⊕ ((Int×Int×c3C) ⊕ (Bool×((List LI)×Z46)))):=(fun(a b:Int)(c:a3M)(d e:Int)(f:List LI)(g:Z26)(h:a4j)=>cond (decide (e<d)) ((m0k c e).bind fun x3=>(show Option (Int×(Int×(Int×(Int×(a3M×(Int×(Int×(Bool×((List LI)×(Z26×a1C×a7z))))))))))from cond (!(eqT Q12 x3.2.2.1 h.1)) (some (a,s.2.1,b,e,c,d,e,true,f,g,x3,h,())) (some (a,s.2.1,b,e,c,d,e,x3.1 != a,f,g,x3,h,()))).bind fun z4=>cond z4.2.2.2.2.2.2.2.1 (some (.inr (Sum.inr ((false,([]:(List LI)),[],()))))) ((show Option (Int×(Int×(Int×(a3M×(Int×(Int×(Bool×((List LI)×(Z26×a1C×a7z)))))))))from(m0k z4.2.2.2.2.2.2.2.2.2.2.2.1.2.2.2.1 z4.2.2.2.1).bind fun x5=>cond (x5.1 != z4.1) (some (z4.1,z4.2.1,z4.2.2.1,z4.2.2.2.2.1,z4.2.2.2.2.2.1,z4.2.2.2.2.2.2.1,true,z4.2.2.2.2.2.2.2.2.1,z4.2.2.2.2.2.2.2.2.2.1,z4.2.2.2.2.2.2.2.2.2.2.1,z4.2.2.2.2.2.2.2.2.2.2.2.1,())) ((m0k z4.2.2.2.2.2.2.2.2.2.2.2.1.2.2.2.1 z4.2.2.2.1).bind fun x6=>some (z4.1,z4.2.1,z4.2.2.1,z4.2.2.2.2.1,z4.2.2.2.2.2.1,z4.2.2.2.2.2.2.1,x6.2.1 != z4.2.1,z4.2.2.2.2.2.2.2.2.1,z4.2.2.2.2.2.2.2.2.2.1,z4.2.2.2.2.2.2.2.2.2.2.1,z4.2.2.2.2.2.2.2.2.2.2.2.1,()))).bind fun z7=>cond z7.2.2.2.2.2.2.1 (some (.inr (Sum.inr ((false,([]:(List LI)),[],()))))) ((a1t z7.2.2.2.2.2.2.2.2.2.1).bind fun y8=>cond (y8.2 != 0) (some (.inr (Sum.inr ((false,([]:(List LI)),[],()))))) ((a1r z7.2.2.2.2.2.2.2.2.2.1).bind fun y9=>cond (y9.2 != 0) (some (.inr (Sum.inr ((false,([]:(List LI)),[],()))))) ((a7h (z7.2.2.1,y8.1)).bind fun y10=>cond (!y10.2) (some (.inr (Sum.inr ((false,([]:(List LI)),[],()))))) (cond (lim ((a02 z7.2.2.2.2.2.2.2.1)+1)) (cond (lim ((a02 z7.2.2.2.2.2.2.2.2.1)+1)) (some (.inl (wrap .i64 (z7.1+z7.2.2.2.2.2.2.2.2.2.1.2.1),wrap .i64 (z7.2.1+(y9.1.length:Int)),y10.1,z7.2.2.2.1,z7.2.2.2.2.1,wrap .i64 (z7.2.2.2.2.2.1+1),a03 z7.2.2.2.2.2.2.2.1 ([y9.1]:List LI),a03 z7.2.2.2.2.2.2.2.2.1 ([y8.1]:List Z13),z7.2.2.2.2.2.2.2.2.2.2.1,()))) none) none)))))) (some (.inr (Sum.inl (a,b,f,g,h,()))))) s.1 s.2.2.1 s.2.2.2.1 s.2.2.2.2.1 s.2.2.2.2.2.1 s.2.2.2.2.2.2.1 s.2.2.2.2.2.2.2.1 s.2.2.2.2.2.2.2.2.1
def b1Q(x:a4j):Option ((List LI)×(Z26×Bool)):=(show Option (Bool×c3C)from(a2e x.1).bind fun y1=>cond (!y1) (some (true,([]:(List LI)),[],x,())) (cond (decide ((x.2.2.2.2.1.length:Int) > 4096)) (some (true,([]:(List LI)),[],x,())) (some ((x.2.2.2.1.length:Int) != (x.2.2.2.2.1.length:Int),([]:(List LI)),[],x,())))).bind fun z2=>cond z2.1 (some (([]:(List LI)),[],false)) ((y0s b7y (0,0,0,z2.2.2.2.1.2.2.2.2.1,(z2.2.2.2.1.2.2.2.2.1.length:Int),0,z2.2.1,z2.2.2.1,z2.2.2.2.1,())).bind fun w11=>match w11 with |.inl a12=>((show Option (Bool×((List LI)×Z46))from cond (a12.2.2.2.2.1.2.1 != a12.1) (some (true,a12.2.2.1,a12.2.2.2.1,())) (some (a12.2.2.2.2.1.2.2.1 != a12.2.1,a12.2.2.1,a12.2.2.2.1,()))).bind fun z14=>cond z14.1 (some (([]:(List LI)),[],false)) (some (z14.2.1,z14.2.2.1,true))) |.inr b13=>some (b13.2.1,b13.2.2.1,b13.1))
def c2A:FSem:=⟨[.v Q74],[.o QB,.o Q15,.v .bool],b1Q⟩
def H40:Hints:=⟨[(122,[5,6,.sv 7 QU,.sv 33 (.list false Q60),34,35,.own 2 2 QB,.own 3 3 Q15,.vp 1 Q74],[Qe 0 [5,.sv 7 QU,.own 2 2 QB,.own 3 3 Q15,.vp 1 Q74],Qr [.sv 4 .bool,.own 2 2 QB,.own 3 3 Q15]])],[(6,[Qn [.sv 31 .bool,.own 2 2 QB,.own 3 3 Q15,.vp 1 Q74]]),(62,[Qn [.sv 117 .bool,.own 2 2 QB,.own 3 3 Q15]]),(15666,[Qn [5,6,.sv 7 QU,8,.sv 33 (.list false Q60),34,35,.sv 50 .bool,.own 2 2 QB,.own 3 3 Q15,.box 9 Q60,.vp 1 Q74,Qp 9 9]]),(31334,[Qn [5,6,.sv 7 QU,.sv 33 (.list false Q60),34,35,.sv 68 .bool,.own 2 2 QB,.own 3 3 Q15,.box 9 Q60,.vp 1 Q74,Qp 9 9]])],[]⟩
def b7z(s:(a3M×(Int×(Int×((List LI)×(LI×a7z)))))):Option ((a3M×(Int×(Int×((List LI)×(LI×a7z))))) ⊕ ((List LI)×(LI×a7z))):=(fun(a:Int)(b:List LI)(c:LI)(d:a4j)=>cond (decide (a<s.2.1)) ((m0k s.1 a).bind fun x2=>cond ((decide (0≤a))&&(decide (a<(b.length:Int)))) (cond (lim ((a02 c)+2)) (some (.inl (s.1,s.2.1,wrap .i64 (a+1),b,a03 c ([wrap .u64 ((a02 (a04 b (a00 a) []):Nat):Int),wrap .u64 x2.2.1]:List Int),d,()))) none) none) (some (.inr (b,c,d,())))) s.2.2.1 s.2.2.2.1 s.2.2.2.2.1 s.2.2.2.2.2.1
def b7A(s:(Int×(Int×(LI×Z2)))):Option ((Int×(Int×(LI×Z2))) ⊕ (LI×Unit)):=(fun(a:Int)(b:LI)(c:List LI)=>cond (decide (a<s.1)) (cond ((decide (0≤a))&&(decide (a<(c.length:Int)))) (cond (lim ((a02 b)+(a02 (a04 c (a00 a) [])))) (some (.inl (s.1,wrap .i64 (a+1),a03 b (a04 c (a00 a) []),c,()))) none) none) (some (.inr (b,())))) s.2.1 s.2.2.1 s.2.2.2.1
def b1R(x:a4j):Option (LI×Int):=(fun(a:a3M)=>(b1Q x).bind fun y1=>cond (!y1.2.2) (some ([],1)) ((y0s b7z (a,(a.length:Int),0,y1.1,([wrap .u64 x.1.1,wrap .u64 x.1.2.1,wrap .u64 x.1.2.2.1,wrap .u64 (a.length:Int)]:List Int),x,())).bind fun w3=>(a7O w3.2.1).bind fun y4=>cond (lim (4+(a02 y4))) ((a6q (w3.2.2.1.2.2.1,8)).bind fun y5=>cond (lim ((a02 (a03 [75,78,83,68] y4))+(a02 y5))) ((a8e (a03 (a03 [75,78,83,68] y4) y5)).bind fun y6=>(a6q (wrap .u64 y6,4)).bind fun y7=>cond (lim ((a02 (a03 (a03 [75,78,83,68] y4) y5))+(a02 y7))) ((y0s b7A ((w3.1.length:Int),0,a03 (a03 (a03 [75,78,83,68] y4) y5) y7,w3.1,())).bind fun w8=>some (w8.1,0)) none) none) none)) x.2.2.2.2.1
def c2B:FSem:=⟨[.v Q74],[.o QV,.v QI],b1R⟩
def H73:Hints:=⟨[(250,[.sv 39 (.list false Q60),40,41,.own 4 4 QB,.own 7 7 QU,.vp 1 Q74],[Qe 0 [.own 4 4 QB,.own 7 7 QU,.vp 1 Q74]]),(4090,[76,77,.own 10 10 QV,.own 75 4 QB],[Qe 2 [.own 10 10 QV]])],[],[(8,[.q,.q,.v,.q,.q,.v,.v,.q,.q,.v,.q,.x,.x])]⟩
def b2J(s:(Int×a3M×Int×Int×a7z)):Option ((Int×a3M×Int×Int×a7z) ⊕ (a7z ⊕ Z6)):=(fun(a b:Int)(c:a4j)=>cond (decide (b<a)) ((m0k s.2.1 b).bind fun x1=>(a1r (c.2.1,x1.2)).bind fun y2=>cond (y2.2 != 0) (some (.inr (Sum.inr ((y2.2,[],()))))) ((a1t (c.2.1,x1.2)).bind fun y3=>cond (y3.2 != 0) (some (.inr (Sum.inr ((y3.2,[],()))))) ((b0W y3.1).bind fun y4=>cond (y4.2 != 0) (some (.inr (Sum.inr ((y4.2,[],()))))) ((b0X y4.1).bind fun y5=>(b1P (c.2.2.1,y5,(y4.1.length:Int))).bind fun y6=>cond (lim ((a02 c.2.2.2.1)+1)) (cond (lim ((a02 c.2.2.2.2.1)+1)) (some (.inl (wrap .i64 (s.1+(y2.1.length:Int)),s.2.1,a,wrap .i64 (b+1),(c.1,wrap .i64 (c.2.1+x1.2.1),y6.1,a03 c.2.2.2.1 ([(c.2.1,s.1,())]:List (Int×Int×Unit)),a03 c.2.2.2.2.1 ([(c.2.1,x1.2)]:List a1C),c.2.2.2.2.2),()))) none) none)))) (some (.inr (Sum.inl (c,()))))) s.2.2.1 s.2.2.2.1 s.2.2.2.2.1
def a9V(x:(Z8×a3M)):Option (LI×Int):=(y0s b2J (0,x.2,(x.2.length:Int),0,(x.1,0,0,[],[],()),())).bind fun w7=>match w7 with |.inl a8=>((b1R a8.1).bind fun y10=>some (y10.1,y10.2)) |.inr b9=>some (b9.2.1,b9.1)
def b4L:FSem:=⟨[.v Q12,.v (.list false Q60)],[.o QV,.v QI],a9V⟩
def H36:Hints:=⟨[(122,[7,.sv 16 (.list false Q60),17,18,.box 6 Q73,Qp 6 6],[Qe 0 [.box 6 Q73,Qp 6 6],Qr [5,.own 4 4 QV]])],[],[(16,[.q,.q,.q,.q,.q,.q,.x,.x,.v,.v,.q,.w [0,6]])]⟩
def b6g(s:(Int×a3M×Int×Int×a3M×a4j×Z11)):Option ((Int×a3M×Int×Int×a3M×a4j×Z11) ⊕ ((a3M×a7z) ⊕ Z6)):=(fun(a:Int)(b:a3M)(c d:Int)(e:a3M)(f:a4j)(g:Int×(Int×Unit))=>cond (decide (d<c)) ((m0k b d).bind fun x4=>cond (decide ((v0r (wrap .i64 (g.1-x4.1)) 0)≥(v0s (wrap .i64 (g.2.1-x4.1)) x4.2.1))) (some (.inl (a,b,c,wrap .i64 (d+1),e,f,g,()))) ((show Option ((Int×a3M×Int×Int×a3M×a4j×a1C×Z11) ⊕ Z6)from cond (decide ((wrap .i64 ((v0s (wrap .i64 (g.2.1-x4.1)) x4.2.1)-(v0r (wrap .i64 (g.1-x4.1)) 0)))<x4.2.1)) ((a4G (x4,(v0r (wrap .i64 (g.1-x4.1)) 0,v0s (wrap .i64 (g.2.1-x4.1)) x4.2.1,()),a)).bind fun y5=>cond (y5.2 != 0) (some (Sum.inr ((y5.2,[],())))) (some (Sum.inl (a,b,c,d,e,f,y5.1,g,())))) (some (Sum.inl (a,b,c,d,e,f,x4,g,())))).bind fun z6=>match z6 with |.inl a7=>(cond (lim ((a02 a7.2.2.2.2.1)+1)) (some (.inl (a7.1,a7.2.1,a7.2.2.1,wrap .i64 (a7.2.2.2.1+1),a03 a7.2.2.2.2.1 ([a7.2.2.2.2.2.2.1]:List a1C),a7.2.2.2.2.2.1,a7.2.2.2.2.2.2.2.1,()))) none) |.inr b8=>some (.inr (Sum.inr ((b8.1,b8.2.1,())))))) (some (.inr (Sum.inl (e,f,()))))) s.1 s.2.1 s.2.2.1 s.2.2.2.1 s.2.2.2.2.1 s.2.2.2.2.2.1 s.2.2.2.2.2.2.1
def b4b(x:(LI×((Int×Int×Unit)×Int))):Option (LI×Int):=(show Option (LI×(Int×Bool×Z11))from cond (decide (x.2.2<0)) (some (x.1,x.2.2,true,x.2.1,())) (some (x.1,x.2.2,decide (x.2.2 > 3),x.2.1,()))).bind fun z1=>cond z1.2.2.1 (some ([],1)) ((a5g z1.1).bind fun y2=>cond (y2.2 != 0) (some ([],y2.2)) ((show Option (Int×Bool×a4j×Z11)from cond (decide (z1.2.2.2.1.1<0)) (some (z1.2.1,true,y2.1,z1.2.2.2.1,())) (cond (decide (z1.2.2.2.1.1 > z1.2.2.2.1.2.1)) (some (z1.2.1,true,y2.1,z1.2.2.2.1,())) (some (z1.2.1,decide (z1.2.2.2.1.2.1 > y2.1.2.1),y2.1,z1.2.2.2.1,())))).bind fun z3=>cond z3.2.1 (some ([],6)) ((y0s b6g (z3.1,z3.2.2.1.2.2.2.2.1,(z3.2.2.1.2.2.2.2.1.length:Int),0,[],z3.2.2.1,z3.2.2.2.1,())).bind fun w9=>match w9 with |.inl a10=>((a9V (a10.2.1.1,a10.1)).bind fun y12=>some (y12.1,y12.2)) |.inr b11=>some (b11.2.1,b11.1))))
def c0I:FSem:=⟨[.v QB,.v Q3,.v QI],[.o QV,.v QI],b4b⟩
def H13:Hints:=⟨[(1018,[2,.sv 47 (.list false Q60),48,49,.own 10 10 Q60,.box 8 Q74,.vp 4 Q3,Qp 8 8],[Qe 0 [.own 10 10 Q60,.box 8 Q74,Qp 8 8],Qr [7,.own 6 6 QV]])],[(6,[Qn [.sv 0 QB,2,.sv 20 .bool,.vp 4 Q3]]),(62,[Qn [2,.sv 45 .bool,.box 8 Q74,.vp 4 Q3,Qp 8 8]]),(260711,[Qn [2,.sv 47 (.list false Q60),48,49,.own 10 10 Q60,.box 8 Q74,.box 12 Q60,.vp 4 Q3,Qp 8 8,Qp 12 12],Qr [7,.own 6 6 QV]])],[(12,[.v,.v,.q,.q,.v,.v,.v,.v,.q,.q,.v,.q,.q,.v,.v,.x])]⟩
def b4c(s:(Int×(Int×(LI×Z46)))):Option ((Int×(Int×(LI×Z46))) ⊕ (LI×Unit)):=(fun(a:Int)(b:LI)(c:Z26)=>cond (decide (a<s.1)) (cond ((decide (0≤a))&&(decide (a<(c.length:Int)))) ((a9P (a04 c (a00 a) (0,([]:(List LI)),()))).bind fun y2=>cond (lim ((a02 b)+(a02 y2))) (some (.inl (s.1,wrap .i64 (a+1),a03 b y2,c,()))) none) none) (some (.inr (b,())))) s.2.1 s.2.2.1 s.2.2.2.1
def a6E(x:a4j):Option (LI×Int):=(b1Q x).bind fun y1=>cond (!y1.2.2) (some ([],1)) ((y0s b4c ((y1.2.1.length:Int),0,[],y1.2.1,())).bind fun w3=>some (w3.1,0))
def b6h:FSem:=⟨[.v Q74],[.o QI,.v QI],a6E⟩
def H15:Hints:=⟨[(250,[19,20,.own 7 7 QI,.own 18 5 Q15],[Qe 0 [.own 7 7 QI]])],[],[]⟩
def a3W(s:(LI×Z7)):Option ((LI×Z7) ⊕ Z0):=(fun(a:Int)=>cond (decide (a<(s.1.length:Int))) ((m0k s.1 a).bind fun x1=>(m0k s.2.1 a).bind fun x2=>cond (x1 != x2) (some (.inr (Sum.inr ((false,()))))) (some (.inl (s.1,s.2.1,wrap .i64 (a+1),())))) (some (.inr (Sum.inl ())))) s.2.2.1
def a6d(x:Z1):Option Bool:=cond ((x.1.length:Int) != (x.2.length:Int)) (some false) ((y0s a3W (x.1,x.2,0,())).bind fun w3=>match w3 with |.inl a4=>some true |.inr b5=>some b5.1)
def b9g:FSem:=⟨[.v QL,.v QL],[.v .bool],a6d⟩
def H16:Hints:=⟨[(58,[.sv 0 QL,.sv 1 QL,5],[Qe 0 [],Qr [.sv 4 .bool]])],[],[(6,[.v,.v,.v,.v,.v,.v,.v,.v,.x])]⟩
def b2K(s:(a3M×Z30)):Option ((a3M×Z30) ⊕ (Z2 ⊕ Z2)):=cond (decide (s.2.2.1<s.2.1)) ((m0k s.1 s.2.2.1).bind fun x2=>(a1r (0,x2.2)).bind fun y3=>cond (y3.2 != 0) (some (.inr (Sum.inr ((([]:(List LI)),()))))) (cond (lim ((a02 s.2.2.2.1)+1)) (some (.inl (s.1,s.2.1,wrap .i64 (s.2.2.1+1),a03 s.2.2.2.1 ([b2s y3.1]:List LI),()))) none)) (some (.inr (Sum.inl (s.2.2.2.1,()))))
def a3s(x:LI):Option (List LI):=(a5g x).bind fun y1=>cond (y1.2 != 0) (some ([]:(List LI))) ((y0s b2K (y1.1.2.2.2.2.1,(y1.1.2.2.2.2.1.length:Int),0,([]:(List LI)),())).bind fun w4=>match w4 with |.inl a5=>some a5.1 |.inr b6=>some b6.1)
def a2y:FSem:=⟨[.v QB],[.o .str],a3s⟩
def H42:Hints:=⟨[(250,[.sv 18 (.list false Q60),19,20,.own 5 5 .str],[Qe 0 [.own 5 5 .str],Qr [.own 2 2 .str]])],[],[]⟩
def b3q(x:Z1):Option Int:=(a3s x.1).bind fun a=>(a3s x.2).bind fun b=>cond (lim (a02 a)&&lim (a02 b)) (some (((List.filter (fun s=>List.contains a s) b).length:Nat):Int)) none
def b3r:FSem:=⟨[.v QB,.v QB],[.v QI],b3q⟩
def a8S(s:Z42):Option (Z42 ⊕ Z0):=(fun(a b:Int)=>cond (decide (b<a)) ((m0k s.1 b).bind fun x1=>(m0k s.2.1 b).bind fun x2=>cond (x1 != x2) (some (.inr (Sum.inr ((false,()))))) (some (.inl (s.1,s.2.1,a,wrap .i64 (b+1),())))) (some (.inr (Sum.inl ())))) s.2.2.1 s.2.2.2.1
def a6F(x:Z1):Option Bool:=cond ((x.1.length:Int) != (x.2.length:Int)) (some false) ((y0s a8S (x.1,x.2,(x.1.length:Int),0,())).bind fun w3=>match w3 with |.inl a4=>some true |.inr b5=>some b5.1)
def b0D:FSem:=⟨[.v QL,.v QL],[.v .bool],a6F⟩
def H70:Hints:=⟨[(58,[.sv 0 QL,.sv 1 QL,12,13],[Qe 0 [],Qr [.sv 4 .bool]])],[],[(6,[.v,.v,.v,.v,.v,.v,.v,.v,.x])]⟩
def b3s(x:Z1):Option Bool:=(a5g x.1).bind fun y1=>cond (y1.2 != 0) (some false) ((a5g x.2).bind fun y2=>(show Option (Bool×a4j×a7z)from cond (y2.2 != 0) (some (true,y1.1,y2.1,())) (cond (!(eqT Q12 y1.1.1 y2.1.1)) (some (true,y1.1,y2.1,())) (some (y1.1.2.1 != y2.1.2.1,y1.1,y2.1,())))).bind fun z3=>cond z3.1 (some false) ((a6E z3.2.1).bind fun y4=>cond (y4.2 != 0) (some false) ((a6E z3.2.2.1).bind fun y5=>cond (y5.2==0) ((a6F (y4.1,y5.1)).bind fun y6=>some y6) (some false))))
def b9h:FSem:=⟨[.v QB,.v QB],[.v .bool],b3s⟩
def H30:Hints:=⟨[],[(62,[Qn [.sv 37 .bool,.box 5 Q74,.box 7 Q74,Qp 5 5,Qp 7 7]])],[]⟩
def b6i(s:(LI×(Int×Int×Z13×Z13×Z24))):Option ((LI×(Int×Int×Z13×Z13×Z24)) ⊕ ((Z13×Z35) ⊕ Z48)):=(fun(a:Int)(b c:Z13)(d:Z8)=>cond (decide (a<s.2.1)) ((m0k s.1 a).bind fun x2=>(a1K (x2,d.2.2.1)).bind fun y3=>cond (!y3) (some (.inr (Sum.inr ((6,(0,([]:(List LI)),()),()))))) (cond (d.2.1==0) none (cond ((decide (0≤(a06 a d.2.1)))&&(decide ((a06 a d.2.1)<(c.2.1.length:Int)))) (cond (lim ((a02 (a04 c.2.1 (a00 (a06 a d.2.1)) []))+1)) (cond ((decide (0≤(a06 a d.2.1)))&&(decide ((a06 a d.2.1)<((a02 (a05 c.2.1 (a00 (a06 a d.2.1)) (a03 (a04 c.2.1 (a00 (a06 a d.2.1)) []) [x2])):Nat):Int)))) (cond (((a00 (a06 a d.2.1))==(a00 (a06 a d.2.1)))&&true) (cond (((a00 (a06 a d.2.1))==(a00 (a06 a d.2.1)))&&true) (some (.inl (s.1,s.2.1,wrap .i64 (a+1),b,(c.1,a05 c.2.1 (a00 (a06 a d.2.1)) (a03 (a04 c.2.1 (a00 (a06 a d.2.1)) []) [x2]),c.2.2),d,()))) none) none) none) none) none))) (some (.inr (Sum.inl (b,c,()))))) s.2.2.1 s.2.2.2.1 s.2.2.2.2.1 s.2.2.2.2.2.1
def b4d(x:Z34):Option Z31:=(fun(a:LI)(b:Int)=>(a2e x.2).bind fun y1=>cond (!y1) (some ((0,([]:(List LI)),()),1)) (cond ((a.length:Int)==0) (some ((0,([]:(List LI)),()),7)) (cond (b==0) none (cond ((a06 (a.length:Int) b) != 0) (some ((0,([]:(List LI)),()),3)) (cond (b==0) none (cond (decide ((wrap .i64 (a08 (a.length:Int) b)) > 4096)) (some ((0,([]:(List LI)),()),4)) (cond ((decide (0≤b))&&((decide (b≤b))&&(lim (a00 b)))) ((y0s b6i (a,(a.length:Int),0,(0,([]:(List LI)),()),(x.2.2.2.1,a01 (a00 b) [],()),x.2,())).bind fun w4=>match w4 with |.inl a5=>some (a5.2.1,0) |.inr b6=>some (b6.2.1,b6.1)) none))))))) x.1 x.2.2.1
def c0J:FSem:=⟨[.v QL,.v Q12],[.v Q15,.v QI],b4d⟩
def H72:Hints:=⟨[(1018,[.sv 38 QL,39,40,.box 4 Q15,.box 6 (.pair QI Q6),.vp 3 Q12,Qp 4 4,Qp 6 6],[Qe 0 [.box 4 Q15,.box 6 (.pair QI Q6),Qp 4 4,Qp 6 6],Qr [5,.box 4 Q15,Qp 4 4]])],[],[(9,[.v,.v,.v,.v,.q,.q,.q,.x]),(16,[.s,.s,.s,.q,.q,.v,.q,.q,.v,.q,.b [6,64,65],.x,.x])]⟩
def b4M(s:(LI×(Int×(Int×(Int×(LI×(Int×Int×Z24))))))):Option ((LI×(Int×(Int×(Int×(LI×(Int×Int×Z24)))))) ⊕ ((LI×(Int×Int×Int×Z24)) ⊕ Z6)):=(fun(a b:Int)(c:LI)(d e:Int)(f:Z8)=>cond (decide (e<d)) ((m0k c e).bind fun x4=>(a1K (x4,f.2.2.1)).bind fun y5=>cond (!y5) (some (.inr (Sum.inr ((6,[],()))))) (some (.inl (s.1,s.2.1,a,b,c,d,wrap .i64 (e+1),f,())))) (some (.inr (Sum.inl (s.1,s.2.1,a,b,f,()))))) s.2.2.1 s.2.2.2.1 s.2.2.2.2.1 s.2.2.2.2.2.1 s.2.2.2.2.2.2.1 s.2.2.2.2.2.2.2.1
def b4N(s:(LI×(Int×Int×Int×Int×Int×a4j×Z24))):Option ((LI×(Int×Int×Int×Int×Int×a4j×Z24)) ⊕ (a7z ⊕ Z6)):=(fun(a b c d e:Int)(f:a4j)(g:Z8)=>cond (decide (e<c)) (cond ((decide (0≤(wrap .i64 ((v0s (wrap .i64 (e+a)) c)*g.2.1))))&&(decide ((wrap .i64 ((v0s (wrap .i64 (e+a)) c)*g.2.1))≤(s.1.length:Int)))) (cond ((decide (0≤(wrap .i64 (e*g.2.1))))&&(decide ((wrap .i64 (e*g.2.1))≤((a00 (wrap .i64 ((v0s (wrap .i64 (e+a)) c)*g.2.1)):Nat):Int)))) ((b4d (a09 (a00 (wrap .i64 (e*g.2.1))) (a07 (a00 (wrap .i64 ((v0s (wrap .i64 (e+a)) c)*g.2.1))) s.1),g)).bind fun y9=>cond (y9.2 != 0) (some (.inr (Sum.inr ((y9.2,[],()))))) ((a3b (y9.1,g,e,b)).bind fun y10=>cond (y10.2 != 0) (some (.inr (Sum.inr ((y10.2,[],()))))) ((a1r y10.1).bind fun y11=>cond (y11.2 != 0) (some (.inr (Sum.inr ((y11.2,[],()))))) ((a7h (f.2.2.1,y9.1)).bind fun y12=>cond (lim ((a02 f.2.2.2.1)+1)) (cond (lim ((a02 f.2.2.2.2.1)+1)) (some (.inl (s.1,a,b,c,wrap .i64 (d+(y11.1.length:Int)),wrap .i64 (e+a),(f.1,f.2.1,y12.1,a03 f.2.2.2.1 ([(e,d,())]:List (Int×Int×Unit)),a03 f.2.2.2.2.1 ([y10.1]:List a1C),f.2.2.2.2.2),g,()))) none) none)))) none) none) (some (.inr (Sum.inl (f,()))))) s.2.1 s.2.2.1 s.2.2.2.1 s.2.2.2.2.1 s.2.2.2.2.2.1 s.2.2.2.2.2.2.1 s.2.2.2.2.2.2.2.1
def b2f(x:(Z8×Z4)):Option (LI×Int):=(fun(a:Z8)(b:LI)(c:Int)=>(show Option (LI×(Int×Int×Bool×Z24))from(a2e a).bind fun y1=>cond (!y1) (some (b,c,x.2.2.2,true,a,())) (cond (decide (c<1)) (some (b,c,x.2.2.2,true,a,())) (cond (decide (c > 4096)) (some (b,c,x.2.2.2,true,a,())) (cond (decide (x.2.2.2<0)) (some (b,c,x.2.2.2,true,a,())) (some (b,c,x.2.2.2,decide (x.2.2.2 > 3),a,())))))).bind fun z2=>cond z2.2.2.2.1 (some ([],1)) (cond (z2.2.2.2.2.1.2.1==0) none (cond ((a06 (z2.1.length:Int) z2.2.2.2.2.1.2.1) != 0) (some ([],3)) (cond (z2.2.2.2.2.1.2.1==0) none ((show Option (LI×(Int×Int×Int×Bool×Z24))from cond (decide ((wrap .i64 (a08 (z2.1.length:Int) z2.2.2.2.2.1.2.1)) > 4194304)) (some (z2.1,z2.2.1,z2.2.2.1,wrap .i64 (a08 (z2.1.length:Int) z2.2.2.2.2.1.2.1),true,z2.2.2.2.2.1,())) (cond (z2.2.1==0) none (some (z2.1,z2.2.1,z2.2.2.1,wrap .i64 (a08 (z2.1.length:Int) z2.2.2.2.2.1.2.1),decide ((wrap .i64 (a08 (wrap .i64 ((wrap .i64 ((wrap .i64 (a08 (z2.1.length:Int) z2.2.2.2.2.1.2.1))+z2.2.1))-1)) z2.2.1)) > 4096),z2.2.2.2.2.1,())))).bind fun z3=>cond z3.2.2.2.2.1 (some ([],4)) ((y0s b4M (z3.1,z3.2.1,z3.2.2.1,z3.2.2.2.1,z3.1,(z3.1.length:Int),0,z3.2.2.2.2.2.1,())).bind fun w6=>match w6 with |.inl a7=>((y0s b4N (a7.1,a7.2.1,a7.2.2.1,a7.2.2.2.1,0,0,(a7.2.2.2.2.1,a7.2.2.2.1,0,[],[],()),a7.2.2.2.2.1,())).bind fun w13=>match w13 with |.inl a14=>((b1R a14.1).bind fun y16=>some (y16.1,y16.2)) |.inr b15=>some (b15.2.1,b15.1)) |.inr b8=>some (b8.2.1,b8.1))))))) x.1 x.2.1 x.2.2.1
def b7B:FSem:=⟨[.v Q12,.v QL,.v QI,.v QI],[.o QV,.v QI],b2f⟩
def H32:Hints:=⟨[(506,[.sv 1 QL,2,3,10,.sv 62 QL,63,64,.vp 4 Q12],[Qe 0 [.sv 1 QL,2,3,10,.vp 4 Q12],Qr [9,.own 8 8 QV]]),(4090,[.sv 1 QL,2,3,10,14,15,.box 13 Q73,.vp 4 Q12,Qp 13 13],[Qe 2 [.box 13 Q73,Qp 13 13],Qr [9,.own 8 8 QV]])],[(6,[Qn [.sv 1 QL,2,3,.sv 39 .bool,.vp 4 Q12]]),(62,[Qn [.sv 1 QL,2,3,10,.sv 61 .bool,.vp 4 Q12]])],[(20,[.v,.v,.v,.v,.v,.v,.v,.v,.v,.v,.v,.v,.v,.v,.v,.q,.w [0,17],.x])]⟩
def b1S(x:Unit):Option Bool:=(b2f ((8000,1,8,()),[1,2,3,4],2,0)).bind fun y1=>(b4b (y1.1,(1,4,()),0)).bind fun y2=>(a5g y2.1).bind fun y3=>(a6E y3.1).bind fun y4=>cond (y1.2==0) (cond (y2.2==0) (cond (y3.2==0) (cond (y4.2==0) ((a6d (y4.1,[2,3,4])).bind fun y5=>cond y5 (cond ((y3.1.2.2.2.2.1.length:Int)==2) ((b3q (y1.1,y2.1)).bind fun y6=>cond (y6==1) ((b3s (y1.1,y2.1)).bind fun y7=>some (!y7)) (some false)) (some false)) (some false)) (some false)) (some false)) (some false)) (some false)
def c2C:FSem:=⟨[],[.v .bool],b1S⟩
def b0E(x:(Int×Int×Int)):Option (Int×Int×Unit):=cond ((wrap .i64 (x.2.2+1))==0) none (cond ((wrap .i64 ((wrap .i64 (x.2.2-(a06 (bits .i64 .and x.1 65535) (wrap .i64 (x.2.2+1)))))+1))==0) none (some (a06 (bits .i64 .and x.1 65535) (wrap .i64 (x.2.2+1)),wrap .i64 ((a06 (bits .i64 .and x.1 65535) (wrap .i64 (x.2.2+1)))+(a06 (bits .i64 .and x.2.1 65535) (wrap .i64 ((wrap .i64 (x.2.2-(a06 (bits .i64 .and x.1 65535) (wrap .i64 (x.2.2+1)))))+1)))),())))
def c3P:FSem:=⟨[.v QI,.v QI,.v QI],[.v Q3],b0E⟩
def a6e(s:Z65):Option (Z65 ⊕ Z0):=cond (decide (s.2.1<(s.2.2.1.2.1.length:Int))) ((m0k s.2.2.1.2.1 s.2.1).bind fun x1=>cond (decide ((x1.length:Int) > s.1)) (some (.inr (Sum.inr ((false,()))))) (some (.inl (s.1,wrap .i64 (s.2.1+1),s.2.2.1,())))) (some (.inr (Sum.inl ())))
def b0F(x:Z31):Option Bool:=cond (decide ((x.1.2.1.length:Int) > 12)) (some false) ((y0s a6e (x.2,0,x.1,())).bind fun w2=>match w2 with |.inl a3=>some true |.inr b4=>some b4.1)
def c3Q:FSem:=⟨[.v Q15,.v QI],[.v .bool],b0F⟩
def H18:Hints:=⟨[(58,[1,5,.vp 2 Q15],[Qe 0 [],Qr [.sv 4 .bool]])],[],[]⟩
def b5w(x:Int):Option Int:=(show Option (Int×Bool×Unit)from cond (decide (x<1)) (some (x,true,())) (some (x,decide (x > 31),()))).bind fun z1=>cond z1.2.1 (some 0) (cond (decide ((wrap .u64 (wrap .i64 (z1.1-1)))<0)) none (some (A0n .i64 (-1) (wrap .u64 (wrap .i64 (z1.1-1))))))
def c6k:FSem:=⟨[.v QI],[.v QI],b5w⟩
def H74:Hints:=⟨[],[(6,[Qn [0,.sv 8 .bool]])],[]⟩
def b4e(x:Int):Option Int:=(show Option (Int×Bool×Unit)from cond (decide (x<1)) (some (x,true,())) (some (x,decide (x > 31),()))).bind fun z1=>cond z1.2.1 (some 0) (cond (decide ((wrap .u64 (wrap .i64 (z1.1-1)))<0)) none (some (wrap .i64 ((A0n .i64 1 (wrap .u64 (wrap .i64 (z1.1-1))))-1))))
def c5j:FSem:=⟨[.v QI],[.v QI],b4e⟩
def H75:Hints:=⟨[],[(6,[Qn [0,.sv 8 .bool]])],[]⟩
def a9H(x:(Int×Int)):Option Bool:=cond (decide (x.2≥1)) (cond (decide (x.2≤31)) ((b5w x.2).bind fun y1=>cond (decide (x.1≥y1)) ((b4e x.2).bind fun y2=>some (decide (x.1≤y2))) (some false)) (some false)) (some false)
def c5k:FSem:=⟨[.v QI,.v QI],[.v .bool],a9H⟩
def a5l(s:Z15):Option (Z15 ⊕ Z0):=cond (decide (s.2.1<(s.1.length:Int))) ((m0k s.1 s.2.1).bind fun x2=>(m0k s.1 0).bind fun x3=>cond ((x2.length:Int) != (x3.length:Int)) (some (.inr (Sum.inr ((false,()))))) (some (.inl (s.1,wrap .i64 (s.2.1+1),())))) (some (.inr (Sum.inl ())))
def a9v(x:(List LI)):Option Bool:=(show Option ((List LI)×(Bool×Unit))from cond (decide ((x.length:Int)<1)) (some (x,true,())) (some (x,decide ((x.length:Int) > 8),()))).bind fun z1=>cond z1.2.1 (some false) ((y0s a5l (z1.1,0,())).bind fun w4=>match w4 with |.inl a5=>some true |.inr b6=>some b6.1)
def c2D:FSem:=⟨[.v (.list false QL)],[.v .bool],a9v⟩
def H43:Hints:=⟨[(58,[.sv 0 (.list false QL),3],[Qe 0 [],Qr [.sv 2 .bool]])],[(6,[Qn [.sv 0 (.list false QL),.sv 11 .bool]])],[(6,[.v,.v,.v,.v,.v,.v,.v,.v,.v,.x])]⟩
def a2z(s:Z65):Option (Z65 ⊕ (Z48 ⊕ (Bool×Unit))):=(fun(a b:Int)(c:Z13)=>(m0k c.2.1 a).bind fun x5=>cond (decide (b<(x5.length:Int))) ((m0k c.2.1 a).bind fun x6=>(m0k x6 b).bind fun x7=>(a9H (x7,c.1)).bind fun y8=>cond (!y8) (some (.inr (Sum.inr ((false,()))))) (some (.inl (a,wrap .i64 (b+1),c,())))) (some (.inr (Sum.inl (a,c,()))))) s.1 s.2.1 s.2.2.1
def a3t(s:Z48):Option (Z48 ⊕ Z0):=cond (decide (s.1<(s.2.1.2.1.length:Int))) ((y0s a2z (s.1,0,s.2.1,())).bind fun w9=>match w9 with |.inl a10=>some (.inl (wrap .i64 (a10.1+1),a10.2.1,())) |.inr b11=>some (.inr (Sum.inr ((b11.1,()))))) (some (.inr (Sum.inl ())))
def a5m(x:Z13):Option Bool:=(show Option Z55 from cond (decide (x.1<4)) (some (true,x,())) (cond (decide (x.1 > 24)) (some (true,x,())) ((a9v x.2.1).bind fun y1=>cond (!y1) (some (true,x,())) ((m0k x.2.1 0).bind fun x2=>cond (decide ((x2.length:Int)<1)) (some (true,x,())) ((m0k x.2.1 0).bind fun x3=>some (decide ((x3.length:Int) > 4096),x,())))))).bind fun z4=>cond z4.1 (some false) ((y0s a3t (0,z4.2.1,())).bind fun w12=>match w12 with |.inl a13=>some true |.inr b14=>some b14.1)
def b7C:FSem:=⟨[.v Q15],[.v .bool],a5m⟩
def H19:Hints:=⟨[(58,[3,.vp 1 Q15],[Qe 0 [],Qr [.sv 2 .bool]]),(3730,[3,4,.vp 1 Q15],[Qe 2 [3,.vp 1 Q15],Qr [.sv 2 .bool]])],[(6,[Qn [.sv 34 .bool,.vp 1 Q15]])],[(9,[.v,.v,.v,.v,.v,.v,.v,.v,.v,.v,.x,.x])]⟩
def a4p(x:(LI×((Int×Int×Unit)×Int))):Option (LI×Int):=(show Option (LI×(Int×Bool×Z11))from cond (decide (x.2.2<0)) (some (x.1,x.2.2,true,x.2.1,())) (some (x.1,x.2.2,decide (x.2.2 > 3),x.2.1,()))).bind fun z1=>cond z1.2.2.1 (some ([],1)) ((a2c z1.1).bind fun y2=>cond (y2.2.2 != 0) (some ([],y2.2.2)) (cond (decide (y2.2.1<(z1.1.length:Int))) (some ([],2)) ((show Option (Int×Bool×a1C×Z11)from cond (decide (z1.2.2.2.1.1<0)) (some (z1.2.1,true,y2.1,z1.2.2.2.1,())) (cond (decide (z1.2.2.2.1.1≥z1.2.2.2.1.2.1)) (some (z1.2.1,true,y2.1,z1.2.2.2.1,())) (some (z1.2.1,decide (z1.2.2.2.1.2.1 > y2.1.2.1),y2.1,z1.2.2.2.1,())))).bind fun z3=>cond z3.2.1 (some ([],6)) ((a4G (z3.2.2.1,z3.2.2.2.1,z3.1)).bind fun y4=>cond (y4.2 != 0) (some ([],y4.2)) ((a1r y4.1).bind fun y5=>some (y5.1,y5.2))))))
def b9i:FSem:=⟨[.v QB,.v Q3,.v QI],[.o QV,.v QI],a4p⟩
def H23:Hints:=⟨[],[(6,[Qn [.sv 0 QB,2,.sv 17 .bool,.vp 4 Q3]]),(126,[Qn [2,.sv 47 .bool,.box 8 Q60,.vp 4 Q3,Qp 8 8]])],[]⟩
def a4Y(s:((List LI)×Z15)):Option (((List LI)×Z15) ⊕ Z0):=(fun(a:Int)=>cond (decide (a<(s.1.length:Int))) ((m0k s.1 a).bind fun x1=>(m0k s.2.1 a).bind fun x2=>(a6d (x1,x2)).bind fun y3=>cond (!y3) (some (.inr (Sum.inr ((false,()))))) (some (.inl (s.1,s.2.1,wrap .i64 (a+1),())))) (some (.inr (Sum.inl ())))) s.2.2.1
def a7t(x:((List LI)×(List LI))):Option Bool:=cond ((x.1.length:Int) != (x.2.length:Int)) (some false) ((y0s a4Y (x.1,x.2,0,())).bind fun w4=>match w4 with |.inl a5=>some true |.inr b6=>some b6.1)
def b7D:FSem:=⟨[.v (.list false QL),.v (.list false QL)],[.v .bool],a7t⟩
def H66:Hints:=⟨[(58,[.sv 0 (.list false QL),.sv 1 (.list false QL),5],[Qe 0 [],Qr [.sv 4 .bool]])],[],[(6,[.v,.v,.v,.v,.v,.v,.v,.v,.x,.x])]⟩
def a6G(x:(Z13×Z13)):Option Bool:=cond (x.1.1==x.2.1) ((a7t (x.1.2.1,x.2.2.1)).bind fun y1=>some y1) (some false)
def b6j:FSem:=⟨[.v Q15,.v Q15],[.v .bool],a6G⟩
def a6M(x:(Z13×Int×Int×Int×Int)):Option Bool:=(b1S ()).bind fun y1=>cond (!y1) (some false) ((show Option (Int×Int×Int×Int×Z55)from(b0F (x.1,50)).bind fun y2=>cond (!y2) (some (x.2.1,x.2.2.1,x.2.2.2.1,x.2.2.2.2,true,x.1,())) ((a5m x.1).bind fun y3=>some (x.2.1,x.2.2.1,x.2.2.2.1,x.2.2.2.2,!y3,x.1,()))).bind fun z4=>cond z4.2.2.2.2.1 (some true) ((a3b (z4.2.2.2.2.2.1,(48000,(z4.2.2.2.2.2.1.2.1.length:Int),z4.2.2.2.2.2.1.1,()),9,bits .i64 .and z4.2.2.1 3)).bind fun y5=>(a1r y5.1).bind fun y6=>(show Option (Int×Int×Int×Bool×Z63)from cond (y5.2 != 0) (some (z4.1,z4.2.1,z4.2.2.2.1,true,y6.1,z4.2.2.2.2.2.1,())) (some (z4.1,z4.2.1,z4.2.2.2.1,y6.2 != 0,y6.1,z4.2.2.2.2.2.1,()))).bind fun z7=>cond z7.2.2.2.1 (some false) ((a2r z7.2.2.2.2.2.1).bind fun y8=>(b0E (z7.1,z7.2.1,y8)).bind fun y9=>(a4p (z7.2.2.2.2.1,y9,bits .i64 .and z7.2.2.1 3)).bind fun y10=>cond (y9.1==y9.2.1) (cond (y10.2==6) (some ((y10.1.length:Int)==0)) (some false)) ((a2c y10.1).bind fun y11=>(a1t y11.1).bind fun y12=>(a7N (z7.2.2.2.2.2.1,y9)).bind fun y13=>cond (y10.2==0) (cond (y11.2.2==0) (cond (y12.2==0) (cond (y13.2==0) (cond (y11.2.1==(y10.1.length:Int)) (cond (y11.1.1==0) ((a6G (y12.1,y13.1)).bind fun y14=>some y14) (some false)) (some false)) (some false)) (some false)) (some false)) (some false)))))
def a6N:FSem:=⟨[.v Q15,.v QI,.v QI,.v QI,.v QI],[.v .bool],a6M⟩
def H4:Hints:=⟨[],[(14,[Qn [1,2,3,4,.sv 34 .bool,.vp 5 Q15]]),(126,[Qn [1,2,4,.sv 58 .bool,.own 13 13 QV,.vp 5 Q15]])],[]⟩
end Go.Ab
namespace Go.Ab
open Go.Proofs
def toB(x:List Int):ByteArray:=⟨(x.map fun n=>UInt8.ofNat n.toNat).toArray⟩
theorem b6k(s:ByteArray):toB (a5M s)=s:=by
 obtain⟨⟨l⟩⟩:=s;simp only[toB,a5M,List.map_map];congr 1;rw[show(fun n:Int=>UInt8.ofNat n.toNat)∘(fun b:UInt8=>(b.toNat:Int))=id from funext fun b=>by simp]
 simp
theorem c8w{w:World}{v:Value}{la:List (List Int)}{O R}(q:dec (cells w) (.list true .str) ((Src.one v).rd (cells w))=some (la,O,R)):b5S w v (la.map toB)∧(la.map toB).map a5M=la:=by
 rcases z0q (e:=.str) rfl q with⟨rfl,g,-,-⟩|⟨b,n,c,cs,rfl,hb,u,d,-,p,f,-,a⟩;have g:la=[]:=g;subst g;exact⟨⟨none,0,rfl,fun j h=>by grind⟩,rfl⟩;replace d:n=la.length:=d;have key:∀j (h:j<la.length),∃s,cs[j]?=some (.string s)∧la[j]=a5M s:=fun j h=>by
  obtain⟨x,o,r,A,B',z,B,g,k,-,-⟩:=a0u n 0 j a (by omega);have k:la[j]?=some x:=k;rw[lG h]at k;obtain rfl:la[j]=x:=Option.some.inj k;rw[Nat.zero_add]at g;simp[dec,Ty.cells]at g
  split at g
  rename_i s l;exact⟨s,l,(congrArg (·.1) (Option.some.inj g)).symm⟩;simp_all
 refine⟨⟨some b,c,by simp_all,fun j h=>?_⟩,?_⟩;have t:j<la.length:=by simp_all
 obtain⟨s,l,m⟩:=key j t;have i:c≠0:=by omega
 have y:=hb.resolve_left i;refine⟨b.block,b.off,by cases b;simp_all,?_⟩;rw[List.getElem_map,m,b6k];exact f j _ l;rw[List.map_map];refine List.ext_getElem (by simp) fun j g k=>?_
 obtain⟨s,-,m⟩:=key j k;simp_all[b6k]
theorem b3t(T:i0y Tryz.prog G0 42 a2y){w:World}{z:List Int}{la:List (List Int)}(hz:a3s z=some la){Sh:Nat→Prop}{v:Value}(hv:VOk (cells w) Sh (.list false (.int .u8)) z v)(M:∀c,Sh c→c<w.heap.size)
  {B:Base}(Z:GOk G0 B)(Y:B.size=w.heap.size)(G:∀b,B.hp b=w.heap[b]?)(W:World)(A:a4Q w W):
  Calls Tryz.prog 42 #[v] W fun e C=>(∃v,e=.returned v∧b5S C v (la.map toB)∧(la.map toB).map a5M=la∧a4Q W C):=by
 let s:Base:={ size:=W.heap.size,hp:=fun b=>W.heap[b]?,F:=fun _=>False,S:=fun _=>True,io:=b0x W }
 let σ1:Gh:=⟨fun _=>.one undef,fun _=>[],none⟩
 have P:∀n,(ini a2y.ps z).rt n=none:=fun n=>by
  cases O:(ini a2y.ps z).rt n with
  |none=>rfl
  |some r=>
   obtain⟨i,c,a,y,-,k,-⟩:=x0k O
   match i,k with
   |0,k=>cases k
   |i+1,k=>cases k
 have q:Rel s (ini a2y.ps z) 1 (fun i=>(#[v]:Array Value).getD i undef) W σ1:=by
  refine⟨fun n r O=>?_,fun n _=>rfl,fun n=>by simp[σ1],fun n n' _ c f=>by simp[σ1]at f,fun n p hp=>by simp[σ1]at hp,fun i k=>?_,trivial,a27 _,fun b _ _=>rfl,fun c f=>?_,fun i b hb=>(by cases hb),rfl⟩;simp_all
  have:i=0:=by omega
  subst this;show VOk (a0a W σ1.ov) (Shr s W σ1) (.list false (.int .u8)) z v;exact VOk.frame hv (fun c j f=>by show W.cell? _=w.cell? _;simp only[World.cell?,A.2.1 c (M c f)]) (fun c f=>⟨a28 (M c f) A.1,.inl trivial,fun⟨n,H⟩=>by simp[σ1]at H⟩);obtain⟨n,H⟩:=f;simp[σ1]at H
 have E:GOk G0 s:=fun g t x h=>by
  obtain⟨D,-,-,w0,V,X⟩:=Z g t x h;have l:g<w.heap.size:=Y▸D;exact⟨a28 l A.1,trivial,fun h=>h,w0,by rw[V,G];exact(A.2.1 g l).symm,X⟩
 refine(T W s σ1 #[v] z la E hz rfl (fun _=>rfl) rfl rfl q (fun i k=>(by cases k))).mono ?_
 rintro e C ⟨Q,K,rfl,I,d⟩
 obtain⟨u,rfl⟩:∃u,Q=[u]:=by
  match Q,I with
  | [u],_=>simp
 have m:=d.ll;rw[←d.lv]at m;obtain⟨L,rfl⟩:∃L,K=[L]:=by
  match K,m with
  | [L],_=>simp
 obtain⟨D,U⟩:=d.ok 0 ⟨.o .str,la⟩ u L rfl rfl rfl;obtain⟨O',R,N,-,-⟩:=U.rd;rw[D]at N;obtain⟨k1,k2⟩:=c8w N;exact⟨u,rfl,k1,k2,d.size,fun c f=>d.frame c f (fun h=>h),d.still⟩
theorem c6l(q:i0y Tryz.prog G0 42 a2y):i0y Tryz.prog G0 17 b3r:=by
 intro w B σ args (x:List Int×List Int) (y:Int) hG f hB hhp hov hargs hrel hpins;obtain⟨d,z,f⟩:=a31.1 (show(a3s x.1).bind _=some y from f);obtain⟨j,hb,f⟩:=a31.1 f;obtain⟨C,f⟩:=(a0b f).elim id fun h=>by grind
 simp[lim]at C;cases f;have F:args.size=2:=hargs;have D:a0a w σ.ov=cells w:=by rw[hov];rfl
 have l:=hrel.slots 0 (by decide);have a:=hrel.slots 1 (by decide);rw[D]at l a;generalize hv1:args.getD 0 undef=v1 at l;generalize hv2:args.getD 1 undef=v2 at a;have n:args=#[v1,v2]:=by
  rw[←hv1,←hv2];apply Array.ext;omega;intro i m I
  have:i=0∨i=1:=by omega
  rcases this with rfl|rfl<;>simp[Array.getD,F]
 subst n;have t:=b3t q z (v:=v1) l (fun c h=>h.1) hG hB hhp;have u:=b3t q hb (v:=v2) a (fun c h=>h.1) hG hB hhp;refine(c5a (pA:=(d.map toB).map a5M=d) (pB:=(j.map toB).map a5M=j) w (by simp_all) (by simp_all) t u).mono ?_
 rintro e H ⟨rfl,o,E,p⟩
 have g:(((j.map toB).filter (inB (d.map toB))).length:Nat)=(j.filter fun s=>d.contains s).length:=by
  conv=>rhs;rw[←p,List.filter_map,List.length_map]
  congr 2;funext s;simp_all[inB]
 rw[g];refine⟨[.int .i64 _],[(.one undef,[])],rfl,rfl,rfl,rfl,fun k it v L a r m=>?_,by simp,fun k k' L G a r m c A=>?_,by simp,by simp,by rw[hB];exact o.1,fun b hb _=>(o.2.1 b (by omega)).trans (hhp b).symm,o.2.2.trans hrel.still⟩
 ·match k with
  |0=>cases a;cases r;cases m;exact⟨⟨fun h=>(by cases h),fun _=>rfl,[],rfl,by simp⟩,rfl⟩
  |k+1=>grind
 grind
end Go.Ab
