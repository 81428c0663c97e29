/- Part of the proof: It. Conditions: as each statement tells. -/
import Derived.RangeFuncBound
import Derived.RangeFuncCalls
import Derived.RangeFuncBox
import Derived.WalkKit
import Derived.OwnWalkIn
import Derived.TacticsInMore
import Derived.LoopNIn
import Derived.LoopIn
import Derived.Test.YtpckgfbgijdfnaaGreatDoorProg
import Derived.KernelRfl
import Derived.MapKept
import Derived.Carry
import Derived.Deep.LoopGhost
import Derived.Lib.Walk
import Derived.Test.YtpckgfbgijdfnaaGreatDoorMD
noncomputable section
set_option linter.unusedSimpArgs false
set_option linter.unusedVariables false
open Array renaming replicate_succ→a09,replicate_zero→a16
open Int renaming toNat→a00,tmod→a05,tdiv→a07
open List renaming length→a01,replicate→a02,append→a03,getD→a04,take→a06,drop→a08,set→a18,append_toArray→a19,cons_append→a20,size_toArray→a21,push_toArray→a22,length_nil→a23,nil_append→a24,take_succ_eq_append_getElem→a29,take_of_length_le→a32
open Nat renaming reduceAdd→a25,reduceSub→a26,le_refl→a27,lt_of_lt_of_le→a28,le_trans→a33
open Option renaming getD_some→a30,bind_eq_some_iff→a31
namespace Go.Ab
open Go.Proofs Go.RowKit
attribute [local go_sem] Oper.semAt_some
set_option maxHeartbeats 1000000 in
theorem d1L:A0h Tryz.prog 192 206:=by
 refine⟨⟨_,_,Tryz.func192,rfl,by kernel_rfl⟩,fun A len cap w=>(callsIn_wide (n:=3)).1 ?_⟩
 refine callsIn_of_wp Tryz.func192 rfl trivial ?_
 simp only[Tryz.ntmps192,a21,lC,a23,a25,a26,a09,a16,a22,a19,a24,a20]
 gi_wp2
 go_ret
 exact⟨rfl,_,rfl⟩
@[reducible] def b3Z:Ty:=.pair (.int .i64) (.pair (.int .i64) .unit)
set_option maxRecDepth 100000 in
set_option maxHeartbeats 2000000 in
theorem c9m (l Bs b off len cap:Nat) (p q:Nat→Int) (J:Nat→World→Prop) (Jx:World→Prop) (W:World)
  (hJ:∀k W',J k W'→W'.cell? ⟨Bs,0,none⟩=some (.slice (some ⟨b,off,none⟩) len cap))
  (hlen:len<2147483648)
  (hcs:∀k W',k<len→J (k+1) W'→W'.cell? ⟨b,off+k*2,none⟩=some (.int .i64 (p k))∧W'.cell? ⟨b,off+k*2+1,none⟩=some (.int .i64 (q k)))
  (hY:∀n W',n<len→J (n+1) W'→YieldAt (Fr none) 0 Tryz.prog l #[.int .i64 (n:Int),.agg #[.int .i64 (p n),.int .i64 (q n)]] W' fun en W''=>(en=.returned (.bool true)∧J n W'')∨(en=.returned (.bool false)∧Jx W''))
  (h0:J len W):
  CallsIn (Fr none) 0 Tryz.prog 206 #[.func (.yield l) #[] #[],.pointer (some ⟨Bs,0,none⟩)] W fun en W'=>(∃v,en=.returned v)∧(J 0 W'∨Jx W'):=by
 refine callsIn_of_wp Tryz.func206 rfl trivial ?_
 simp only[Tryz.ntmps206,a21,lC,a23,a25,a26,a09,a16,a22,a19,a24,a20]
 have hBs:=hJ _ _ h0
 gi_wp2
 gi_loopw [3] (fun i wr=>∃k:Nat,k≤len∧i=.int .i64 ((k:Int)-1)∧J k wr) (fun i _=>(intOf i+1).toNat)
 case atStart=>exact⟨len,a27 _,rfl,h0⟩
 case round=>
  obtain⟨k,hk,rfl,hJs⟩:=hrel
  cases k with
  |succ n=>
   obtain⟨fn,tmps,assign,body,hy,hR⟩:=hY n wr (by omega) hJs
   have hcx:=hJ _ _ hJs
   obtain⟨hc0,hc1⟩:=hcs n wr (by omega) hJs
   gi_wp2
   refine hR.mono ?_
   rintro e W3 (⟨rfl,hJ3⟩|⟨rfl,hJx3⟩)
   ·gi_wp2
    go_roundw
    case rel=>exact⟨n,by omega,by simp,hJ3⟩
    case measure=>simp[intOf]
   ·gi_wp2
    refine bodyPost_ret (results_none rfl _ _ _) rfl ?_
    exact⟨⟨_,rfl⟩,.inr hJx3⟩
  |zero=>
   gi_wp2
   go_end0
   exact⟨⟨_,rfl⟩,.inl hJs⟩
set_option maxRecDepth 100000 in
set_option maxHeartbeats 2000000 in
theorem c7Z (l Bs:Nat) (A:Option Addr) (c:Nat) (J:Nat→World→Prop) (W:World) (hBs:W.cell? ⟨Bs,0,none⟩=some (.slice A 0 c)) (h0:J 0 W):
  CallsIn (Fr none) 0 Tryz.prog 206 #[.func (.yield l) #[] #[],.pointer (some ⟨Bs,0,none⟩)] W fun en W'=>(∃v,en=.returned v)∧J 0 W':=by
 refine callsIn_of_wp Tryz.func206 rfl trivial ?_
 simp only[Tryz.ntmps206,a21,lC,a23,a25,a26,a09,a16,a22,a19,a24,a20]
 gi_wp2
 gi_loopw [3] (fun i wr=>i=.int .i64 (-1)∧J 0 wr) (fun _ _=>0)
 case atStart=>exact⟨rfl,h0⟩
 case round=>
  obtain⟨rfl,hJs⟩:=hrel
  gi_wp2
  go_end0
  exact⟨⟨_,rfl⟩,hJs⟩
theorem c2A{m:Mem}{Sh:Nat→Prop}{b o:Nat}{x:b3Z.den}{R}(h:dec m b3Z ((Src.at b o).rd m)=some (x,[],R)):
  m b o=some (.int .i64 x.1)∧m b (o+1)=some (.int .i64 x.2.1)∧VOk m Sh b3Z x (.agg #[.int .i64 x.1,.int .i64 x.2.1]):=by
 obtain⟨p,q,u⟩:=x;simp only[b3Z,dec,Src.rd,Ty.cells,Nat.add_zero]at h
 split at h
 cases h;rename_i r o1 j g
 split at g
 rename_i n c
 split at g
 rename_i e;subst e;simp only[sj]at g;obtain⟨rfl,rfl,rfl⟩:=g
 split at h
 cases h;rename_i s o2 r2 k
 split at k
 cases k;rename_i t i l f
 split at f
 rename_i d a
 split at f
 rename_i e;subst e;simp only[sj]at f k h;obtain⟨rfl,rfl,rfl⟩:=f;obtain⟨rfl,rfl,rfl⟩:=k;obtain⟨⟨rfl,rfl,rfl⟩,-,-⟩:=h;exact⟨c,a,fun _=>⟨_,rfl,rfl⟩,fun h=>(by cases h),[],rfl,by simp⟩;cases f;cases f;cases g;cases g
theorem b7h {P:Program} {f:FuncId} (hb:l0x P f) (args:Array Value) (w:World):(callFunc f args).run P w=.ok (.enter f args) w:=by
 obtain ⟨fn,c',h1,h2,h3⟩:=hb;have h4 : ¬ fn.name = "runtime.NumGoroutine" := by simpa using h3
 simp [callFunc,program,Sem.run,h1,h2,h4,Result.andThen]
theorem d1M:w0n Tryz.prog 206 b3Z:=by
 refine⟨fun args w=>b7h ⟨_,_,Tryz.func206,rfl,by kernel_rfl⟩ args w,fun l Bs sv f J D W i t L o=>?_⟩;obtain⟨z,Sh,y⟩:=t _ _ o;obtain⟨A,n,c,rfl,rfl,N,v,j⟩:=y.header
 by_cases hx0:f.length=0
 rw[hx0]at o z;exact(c7Z l Bs A c J W z o).mono fun e g h=>⟨h.1,.inl h.2⟩;cases A with
 |none=>have:=j rfl;omega
 |some A=>
  obtain⟨b,off,B⟩:=A
  have:=(v _ rfl).resolve_left (by omega)
  simp only at this;subst this;have u:∀k g,k<f.length→J (k+1) g→∃x,f[k]?=some x∧g.cell? ⟨b,off+k*2,none⟩=some (.int .i64 x.1)∧g.cell? ⟨b,off+k*2+1,none⟩=some (.int .i64 x.2.1):=by
   intro k g p d;obtain⟨-,a,hv⟩:=t _ _ d;obtain⟨C,O,E,R,e,F,G,H,s,I,K⟩:=hv.elem rfl (lG p);simp only[Value.slice.injEq,sj]at e;obtain⟨rfl,rfl,rfl⟩:=e;obtain⟨q,r,-⟩:=c2A (Sh:=a) s;exact⟨_,lG p,q,r⟩
  refine c9m l Bs b off f.length c (fun k=>((f[k]?).getD b3Z.dflt).1) (fun k=>((f[k]?).getD b3Z.dflt).2.1) J D W (fun k g d=>(t k g d).1) i (fun k g p d=>?_) (fun n g M d=>?_) o;obtain⟨x,m,q,r⟩:=u k g p d;simp only[m,a30];exact⟨q,r⟩;have m:f[n]?=some f[n]:=lG M;simp only[m,a30];refine L n _ _ g m d fun a hv=>?_
  obtain⟨C,O,E,R,e,F,G,H,s,I,K⟩:=hv.elem rfl m;exact(c2A (Sh:=a) s).2.2
set_option maxHeartbeats 1000000 in
theorem d1N:A0h Tryz.prog 119 160:=by
 refine⟨⟨_,_,Tryz.func119,rfl,by kernel_rfl⟩,fun A len cap w=>(callsIn_wide (n:=3)).1 ?_⟩
 refine callsIn_of_wp Tryz.func119 rfl trivial ?_
 simp only[Tryz.ntmps119,a21,lC,a23,a25,a26,a09,a16,a22,a19,a24,a20]
 gi_wp2
 go_ret
 exact⟨rfl,_,rfl⟩
@[reducible] def b6p:Ty:=.pair (.int .i64) (.pair (.int .i64) (.pair (.int .i64) .unit))
set_option maxRecDepth 100000 in
set_option maxHeartbeats 2000000 in
theorem c9n (l Bs b off len cap:Nat) (p q r:Nat→Int) (J:Nat→World→Prop) (Jx:World→Prop) (W:World)
  (hJ:∀k W',J k W'→W'.cell? ⟨Bs,0,none⟩=some (.slice (some ⟨b,off,none⟩) len cap))
  (hlen:len<2147483648)
  (hcs:∀k W',k<len→J (k+1) W'→W'.cell? ⟨b,off+k*3,none⟩=some (.int .i64 (p k))∧W'.cell? ⟨b,off+k*3+1,none⟩=some (.int .i64 (q k))∧W'.cell? ⟨b,off+k*3+2,none⟩=some (.int .i64 (r k)))
  (hY:∀n W',n<len→J (n+1) W'→YieldAt (Fr none) 0 Tryz.prog l #[.int .i64 (n:Int),.agg #[.int .i64 (p n),.int .i64 (q n),.int .i64 (r n)]] W' fun en W''=>(en=.returned (.bool true)∧J n W'')∨(en=.returned (.bool false)∧Jx W''))
  (h0:J len W):
  CallsIn (Fr none) 0 Tryz.prog 160 #[.func (.yield l) #[] #[],.pointer (some ⟨Bs,0,none⟩)] W fun en W'=>(∃v,en=.returned v)∧(J 0 W'∨Jx W'):=by
 refine callsIn_of_wp Tryz.func160 rfl trivial ?_
 simp only[Tryz.ntmps160,a21,lC,a23,a25,a26,a09,a16,a22,a19,a24,a20]
 have hBs:=hJ _ _ h0
 gi_wp2
 gi_loopw [3] (fun i wr=>∃k:Nat,k≤len∧i=.int .i64 ((k:Int)-1)∧J k wr) (fun i _=>(intOf i+1).toNat)
 case atStart=>exact⟨len,a27 _,rfl,h0⟩
 case round=>
  obtain⟨k,hk,rfl,hJs⟩:=hrel
  cases k with
  |succ n=>
   obtain⟨fn,tmps,assign,body,hy,hR⟩:=hY n wr (by omega) hJs
   have hcx:=hJ _ _ hJs
   obtain⟨hc0,hc1,hc2⟩:=hcs n wr (by omega) hJs
   gi_wp2
   refine hR.mono ?_
   rintro e W3 (⟨rfl,hJ3⟩|⟨rfl,hJx3⟩)
   ·gi_wp2
    go_roundw
    case rel=>exact⟨n,by omega,by simp,hJ3⟩
    case measure=>simp[intOf]
   ·gi_wp2
    refine bodyPost_ret (results_none rfl _ _ _) rfl ?_
    exact⟨⟨_,rfl⟩,.inr hJx3⟩
  |zero=>
   gi_wp2
   go_end0
   exact⟨⟨_,rfl⟩,.inl hJs⟩
set_option maxRecDepth 100000 in
set_option maxHeartbeats 2000000 in
theorem c8a (l Bs:Nat) (A:Option Addr) (c:Nat) (J:Nat→World→Prop) (W:World) (hBs:W.cell? ⟨Bs,0,none⟩=some (.slice A 0 c)) (h0:J 0 W):
  CallsIn (Fr none) 0 Tryz.prog 160 #[.func (.yield l) #[] #[],.pointer (some ⟨Bs,0,none⟩)] W fun en W'=>(∃v,en=.returned v)∧J 0 W':=by
 refine callsIn_of_wp Tryz.func160 rfl trivial ?_
 simp only[Tryz.ntmps160,a21,lC,a23,a25,a26,a09,a16,a22,a19,a24,a20]
 gi_wp2
 gi_loopw [3] (fun i wr=>i=.int .i64 (-1)∧J 0 wr) (fun _ _=>0)
 case atStart=>exact⟨rfl,h0⟩
 case round=>
  obtain⟨rfl,hJs⟩:=hrel
  gi_wp2
  go_end0
  exact⟨⟨_,rfl⟩,hJs⟩
theorem c1S{m:Mem}{rd:Nat→Option Value}{x o r}(h:dec m (.int .i64) rd=some (x,o,r)):rd 0=some (.int .i64 x)∧o=[]∧r=[]:=by
 simp only[dec]at h
 split at h
 rename_i k n g
 split at h
 rename_i e;subst e;simp only[sj,pJ]at h;obtain⟨rfl,rfl,rfl⟩:=h;exact⟨g,rfl,rfl⟩;cases h;cases h
theorem b9A{m:Mem}{a b:Ty}{rd:Nat→Option Value}{x o r}(h:dec m (.pair a b) rd=some (x,o,r)):∃o1 g o2 r2,dec m a rd=some (x.1,o1,g)∧dec m b (fun j=>rd (a.cells+j))=some (x.2,o2,r2)∧o=o1++o2∧r=g++r2:=by
 simp only[dec]at h
 split at h
 cases h;rename_i c o1 g f
 split at h
 cases h;rename_i d o2 r2 k;simp only[sj,pJ]at h;obtain⟨rfl,rfl,rfl⟩:=h;exact⟨_,_,_,_,f,k,rfl,rfl⟩
theorem c3O{m:Mem}{Sh:Nat→Prop}{b o:Nat}{x:b6p.den}{R}(h:dec m b6p ((Src.at b o).rd m)=some (x,[],R)):
  m b o=some (.int .i64 x.1)∧m b (o+1)=some (.int .i64 x.2.1)∧m b (o+2)=some (.int .i64 x.2.2.1)∧VOk m Sh b6p x (.agg #[.int .i64 x.1,.int .i64 x.2.1,.int .i64 x.2.2.1]):=by
 obtain⟨_,_,_,_,g,f,-,-⟩:=b9A h;obtain⟨_,_,_,_,k,a,-,-⟩:=b9A f;obtain⟨_,_,_,_,c,-,-,-⟩:=b9A a;exact⟨(c1S g).1,(c1S k).1,(c1S c).1,fun _=>⟨_,rfl,rfl⟩,fun h=>(by cases h),[],rfl,by simp⟩
theorem d1O:w0n Tryz.prog 160 b6p:=by
 refine⟨fun args w=>b7h ⟨_,_,Tryz.func160,rfl,by kernel_rfl⟩ args w,fun l Bs sv f J E W i u M o=>?_⟩;obtain⟨B,Sh,z⟩:=u _ _ o;obtain⟨A,n,c,rfl,rfl,O,y,j⟩:=z.header
 by_cases hx0:f.length=0
 rw[hx0]at o B;exact(c8a l Bs A c J W B o).mono fun e g h=>⟨h.1,.inl h.2⟩;cases A with
 |none=>have:=j rfl;omega
 |some A=>
  obtain⟨b,off,C⟩:=A
  have:=(y _ rfl).resolve_left (by omega)
  simp only at this;subst this;have v:∀k g,k<f.length→J (k+1) g→∃x,f[k]?=some x∧g.cell? ⟨b,off+k*3,none⟩=some (.int .i64 x.1)∧g.cell? ⟨b,off+k*3+1,none⟩=some (.int .i64 x.2.1)∧g.cell? ⟨b,off+k*3+2,none⟩=some (.int .i64 x.2.2.1):=by
   intro k g p d;obtain⟨-,a,hv⟩:=u _ _ d;obtain⟨D,P,F,R,e,G,H,I,t,K,L⟩:=hv.elem rfl (lG p);simp only[Value.slice.injEq,sj]at e;obtain⟨rfl,rfl,rfl⟩:=e;obtain⟨q,r,s,-⟩:=c3O (Sh:=a) t;exact⟨_,lG p,q,r,s⟩
  refine c9n l Bs b off f.length c (fun k=>((f[k]?).getD b6p.dflt).1) (fun k=>((f[k]?).getD b6p.dflt).2.1) (fun k=>((f[k]?).getD b6p.dflt).2.2.1) J E W (fun k g d=>(u k g d).1) i (fun k g p d=>?_) (fun n g N d=>?_) o;obtain⟨x,m,q,r,s⟩:=v k g p d;simp only[m,a30];exact⟨q,r,s⟩;have m:f[n]?=some f[n]:=lG N;simp only[m,a30];refine M n _ _ g m d fun a hv=>?_
  obtain⟨D,P,F,R,e,G,H,I,t,K,L⟩:=hv.elem rfl m;exact(c3O (Sh:=a) t).2.2.2
end Go.Ab
namespace Go.Ab
open Go.MapKept
def b6q(w:World)(b:Nat)(L:List ByteArray):Prop:=
 ∃es clock,w.heap[b]?=some (.map es clock)∧(∀e∈es.toList,IsKey .string e.key∧e.val=.bool true)∧∀s,(∃e∈es.toList,e.key=.string s)↔s∈L
section
variable {P:Program} {t kt et:TypeId} {w:World} {b:Nat} {L:List ByteArray}
theorem c8b(h:b6q w b L)(l:P.underlying t=some (.map kt et))(g:P.underlying kt=some .string)(n:(zeroValue et).run P w=.ok (.bool false) w)(s:ByteArray):
  ∃r,(Instr.lookup t (.map (some b)) (.string s) false).run P w=.ok (.bool r) w∧(r=true↔s∈L):=by
 obtain⟨m,f,hb,i,p⟩:=h;have c:IsKey .string (.string s):=by simp[IsKey]
 rcases findNow_spec c m.toList 0 (fun e a=>(i e a).1)with⟨k,d⟩|⟨j,e,k,d,o⟩;refine⟨false,?_,by grind⟩;simp[Instr.lookup,run_underlying l,MapKept.run_getObj_map hb,run_checkKey g c,run_findKey g k,n,Result.andThen];have a:=List.mem_of_getElem? d;refine⟨true,?_,by grind⟩;simp[Instr.lookup,run_underlying l,MapKept.run_getObj_map hb,run_checkKey g c,run_findKey g k,(i e a).2,Result.andThen]
theorem c9o(h:b6q w b L)(q:P.underlying t=some (.map kt et))(i:P.underlying kt=some .string)(s:ByteArray):
  ∃w',(Instr.mapUpdate t (.map (some b)) (.string s) (.bool true)).run P w=.ok () w'∧b6q w' b (L++[s])∧w'.heap.size=w.heap.size∧(∀c,c≠b→w'.heap[c]?=w.heap[c]?)∧b0x w'=b0x w:=by
 obtain⟨a,g,hb,p,v⟩:=h;have m:IsKey .string (.string s):=by simp[IsKey]
 rcases findNow_spec m a.toList 0 (fun e k=>(p e k).1)with⟨n,r⟩|⟨j,e,n,r,u⟩;refine⟨{ w with heap:=w.heap.setIfInBounds b (.map (a.push { key:=.string s,val:=.bool true,born:=g }) (g+1)) },by simp[Instr.mapUpdate,run_underlying q,MapKept.run_getObj_map hb,run_checkKey i m,run_findKey i n,MapKept.run_setObj_map _ hb,Result.andThen],⟨_,_,(heap_set hb).1,fun e k=>?_,fun s'=>?_⟩,by simp,fun c o=>(heap_set hb).2 c o,rfl⟩
 grind
 rw[mA,←v,Array.toList_push];constructor
 grind
 rintro(⟨e,k,A⟩|k)
 grind
 simp_all;have z:a[j]?=some e:=by simp_all
 have d:∀f,a[j]?=some f→({ f with key:=.string s,val:=.bool true }:MapEntry).key=f.key:=fun f y=>by simp_all
 refine⟨{ w with heap:=w.heap.setIfInBounds b (.map (a.modify j fun e=>{ e with key:=.string s,val:=.bool true }) g) },by simp[Instr.mapUpdate,run_underlying q,MapKept.run_getObj_map hb,run_checkKey i m,run_findKey i n,z,u,run_keyThatStays m,MapKept.run_setObj_map _ hb,Result.andThen],⟨_,_,(heap_set hb).1,fun f k=>⟨isKey_modify (fun x B=>(p x B).1) _ _ d f k,?_⟩,fun s'=>?_⟩,by simp,fun c o=>(heap_set hb).2 c o,rfl⟩
 grind[List.mem_iff_getElem?]
 have C:=modify_keys j (fun e=>{ e with key:=.string s,val:=.bool true }) d;have key:∀(l:List MapEntry),(∃e∈l,e.key=.string s')↔Value.string s'∈l.map (·.key):=fun l=>by simp
 grind
end
end Go.Ab
namespace Go.Ab
open Go.Proofs Go.RowKit Go.MapKept
def b0W(b:Nat)(w w':World):Prop:=w.heap.size≤w'.heap.size∧(∀c,c<w.heap.size→c≠b→w'.heap[c]?=w.heap[c]?)∧b0x w'=b0x w
theorem b0W.trans{b:Nat}{w w' w'':World}(h:b0W b w w')(g:b0W b w' w''):b0W b w w'':=
 ⟨a33 h.1 g.1,fun c f hb=>(g.2.1 c (a28 f h.1) hb).trans (h.2.1 c f hb),g.2.2.trans h.2.2⟩
theorem b0W.refl{b:Nat}{w:World}:b0W b w w:=⟨a27 _,fun _ _ _=>rfl,rfl⟩
def a7n(s:ByteArray):List Int:=s.data.toList.map fun b=>(b.toNat:Int)
theorem c6w{s t:ByteArray}(h:a7n s=a7n t):s=t:=by
 obtain⟨⟨s⟩⟩:=s;obtain⟨⟨t⟩⟩:=t
 have:s=t:=by
  simp[a7n]at h;have key:∀(x y:List UInt8),x.map (fun b=>(b.toNat:Int))=y.map (fun b=>(b.toNat:Int))→x=y:=by
   intro x
   induction x with
   |nil=>simp
   |cons a x ih=>intro y e;cases y with
    |nil=>grind
    |cons b y=>
     grind[UInt8.toNat_inj]
  grind
 grind
def c0D(w:World)(v:Value)(l:List ByteArray):Prop:=
 ∃A c,v=.slice A l.length c∧∀j (h:j<l.length),∃blk off,A=some ⟨blk,off,none⟩∧w.cell? ⟨blk,off+j,none⟩=some (.string l[j])
theorem c8c{w w':World}{b:Nat}{es:Array MapEntry}{k:Nat}(g:∀c,c<w.heap.size→c≠b→w'.heap[c]?=w.heap[c]?)(hb:w.heap[b]?=some (.map es k)){a:Addr}{v:Value}(h:w.cell? a=some v):w'.cell? a=some v:=by
 grind[World.cell?]
def a6h(w w':World):Prop:=w.heap.size≤w'.heap.size∧(∀c,c<w.heap.size→w'.heap[c]?=w.heap[c]?)∧b0x w'=b0x w
theorem a6h.alloc(w:World)(o:Obj):a6h w (w.alloc o):=⟨b0s _,fun c h=>b0m _ c h,rfl⟩
theorem a6h.to{b:Nat}{w w':World}(h:a6h w w'):b0W b w w':=⟨h.1,fun c g _=>h.2.1 c g,h.2.2⟩
theorem b0W.shut{b:Nat}{w w':World}(h:b0W b w w')(hb:w.heap.size≤b):a6h w w':=⟨h.1,fun c g=>h.2.1 c g (by omega),h.2.2⟩
theorem b6q.kept{w w':World}{b:Nat}{L:List ByteArray}(h:b6q w b L)(c:a6h w w'):b6q w' b L:=by
 obtain⟨g,k,hb,f,a⟩:=h;exact⟨g,k,(c.2.1 b (Array.getElem?_eq_some_iff.1 hb).1).trans hb,f,a⟩
def inB(la:List ByteArray)(s:ByteArray):Bool:=(la.map a7n).contains (a7n s)
theorem d1P{la:List ByteArray}{s:ByteArray}:inB la s=true↔s∈la:=by
 unfold inB;rw[List.contains_iff_mem,List.mem_map];exact⟨fun⟨t,h,e⟩=>c6w e▸h,fun h=>⟨s,h,rfl⟩⟩
theorem c9p{L:List ByteArray}{i:Nat}(h:i<L.length):L.take i++[L[i]]=L.take (i+1):=(a29 h).symm
theorem b0W.step{b:Nat}{w w' w'':World}(h:b0W b w w')(k:w''.heap.size=w'.heap.size)(g:∀c,c≠b→w''.heap[c]?=w'.heap[c]?)(f:b0x w''=b0x w'):b0W b w w'':=
 h.trans ⟨by omega,fun c _ hb=>g c hb,f⟩
set_option maxHeartbeats 1600000 in
set_option maxRecDepth 1000000 in
theorem c8d {pA pB:Prop} {v1 v2:Value} {la lb:List ByteArray} (w:World) (h1:la.length<2147483648) (h2:lb.length<2147483648)
  (hA:∀W,a6h w W→Calls Tryz.prog 42 #[v1] W fun e W'=>∃v,e=.returned v∧c0D W' v la∧pA∧a6h W W')
  (hB:∀W,a6h w W→Calls Tryz.prog 42 #[v2] W fun e W'=>∃v,e=.returned v∧c0D W' v lb∧pB∧a6h W W'):
  Calls Tryz.prog 17 #[v1,v2] w fun e W'=>e=.returned (.int .i64 (((lb.filter (inB la)).length:Nat):Int))∧a6h w W'∧pA∧pB:=by
 have hmm:=@run_makeMap Tryz.prog
 go_enter Tryz.func17,Tryz.ntmps17
 go_wp2_with (go_at_call 42;refine(hA _ (a6h.alloc w _)).mono ?_;rintro e W1 ⟨v,rfl,⟨A,c,rfl,hrow⟩,hpa,hg1⟩)
 have u96:Tryz.prog.underlying 96=some (.map 9 4):=by rfl
 have u9:Tryz.prog.underlying 9=some .string:=by rfl
 have z4:∀W,(zeroValue 4).run Tryz.prog W=.ok (.bool false) W:=fun W=>by rfl
 have s0:b6q W1 w.heap.size (la.take 0):=by
  refine b6q.kept ⟨#[],0,b0i _,by simp,by simp⟩ hg1
 have hbl:w.heap.size<W1.heap.size:=by
  obtain⟨es,k,hb,-⟩:=s0
  grind
 go_loopg [15] la.length (fun k s15 wr=>∃i:Nat,s15=.int .i64 (i:Int)∧i≤la.length∧la.length-i≤k∧b6q wr w.heap.size (la.take i)∧b0W w.heap.size W1 wr)
 case atStart=>exact⟨0,rfl,Nat.zero_le _,by omega,s0,b0W.refl⟩
 case round=>
  obtain⟨i,rfl,hi,hk,hm,hg⟩:=hrel
  by_cases hlt:i<la.length
  ·obtain⟨blk,off,rfl,hcell⟩:=hrow i hlt
   obtain⟨es0,k0,hb0,-⟩:=id s0
   have hcell:=c8c hg.2.1 hb0 hcell
   obtain⟨w2,hput,hm2,hsz2,hh2,hio2⟩:=c9o (P:=Tryz.prog) hm u96 u9 la[i]
   rw[c9p hlt]at hm2
   go_wp2
   go_roundg (la.length-(i+1))
   case measure=>omega
   case rel=>exact⟨i+1,by simp,hlt,a27 _,hm2,hg.step hsz2 hh2 hio2⟩
  ·have hfull:la.take i=la:=a32 (by omega)
   rw[hfull]at hm
   have hgr:a6h w wr:=((a6h.alloc w (.map #[] 0)).to (b:=w.heap.size)).trans (hg1.to.trans hg) |>.shut (a27 _)
   go_wp2_with (go_at_call 42;refine(hB _ hgr).mono ?_;rintro e W2 ⟨v,rfl,⟨A2,c2,rfl,hrow2⟩,hpb,hg2⟩)
   have hm2:=hm.kept hg2
   go_loopg [25,8] lb.length (fun k s25 s8 wr=>∃j:Nat,s25=.int .i64 (j:Int)∧s8=.int .i64 ((((lb.take j).filter (inB la)).length:Nat):Int)∧j≤lb.length∧lb.length-j≤k∧wr=W2)
   case atStart=>exact⟨0,rfl,rfl,Nat.zero_le _,by omega,rfl⟩
   case round=>
    obtain⟨j,rfl,rfl,hj,hk,rfl⟩:=hrel
    by_cases hlt2:j<lb.length
    ·obtain⟨blk,off,rfl,hcell⟩:=hrow2 j hlt2
     obtain⟨r,hlook,hr⟩:=c8b (P:=Tryz.prog) hm2 u96 u9 (z4 _) lb[j]
     have hin:inB la lb[j]=r:=by rw[Bool.eq_iff_iff,d1P,hr]
     have hcnt:(lb.take (j+1)).filter (inB la)=(lb.take j).filter (inB la)++if r=true then[lb[j]]else[]:=by
      grind[a29]
     have hle:((lb.take j).filter (inB la)).length≤lb.length:=a33 (List.length_filter_le _ _) (by grind)
     cases r with
     |true=>
      rw[if_pos rfl]at hcnt
      go_wp2
      go_roundg (lb.length-(j+1))
      case measure=>omega
      case rel=>exact⟨j+1,by simp,by grind,hlt2,a27 _,rfl⟩
     |false=>
      rw[if_neg (by simp),List.append_nil]at hcnt
      go_wp2
      go_roundg (lb.length-(j+1))
      all_goals grind
    ·have hfull:lb.take j=lb:=a32 (by omega)
     rw[hfull]
     go_wp2
     go_ret
     exact⟨rfl,⟨a33 hgr.1 hg2.1,fun c hc=>(hg2.2.1 c (a28 hc hgr.1)).trans (hgr.2.1 c hc),hg2.2.2.trans hgr.2.2⟩,hpa,hpb⟩
end Go.Ab
namespace Go.Ab
open IntKind(wrap)
open Go.Proofs
set_option maxRecDepth 100000
set_option linter.unusedVariables false
@[reducible] def QI:Ty:=.int .i64
@[reducible] def QL:Ty:=.list false QI
@[reducible] def QU:Ty:=.int .u64
@[reducible] def QV:Ty:=.int .u8
@[reducible] def QB:Ty:=.list false QV
@[reducible] def LI:Type:=List Int
instance (n:Nat):OfNat Ent n:=⟨.sv n QI⟩
@[reducible] def Qp(i n:Nat):Ent:=.ptr i n []
@[reducible] def Qn(l:a0c):Ex×a0c:=(.normal,l)
@[reducible] def Qe(n:Nat)(l:a0c):Ex×a0c:=(.exit n,l)
@[reducible] def Qr(l:a0c):Ex×a0c:=(.ret,l)
def QH:Hints:=⟨[],[],[]⟩
@[reducible] def Z0:Type:=(Unit ⊕ (Bool×Unit))
@[reducible] def Z1:Type:=(LI×LI)
@[reducible] def Z2:Type:=((List LI)×Unit)
@[reducible] def Z3:Type:=(Int×(Int×LI))
@[reducible] def Z4:Type:=(LI×(Int×Int))
@[reducible] def Z5:Type:=(List (Int×(Int×Unit)))
@[reducible] def Z6:Type:=(Int×(LI×Unit))
@[reducible] def Z7:Type:=(LI×(Int×Unit))
@[reducible] def Z8:Type:=(Int×(Int×(Int×Unit)))
@[reducible] def Z9:Type:=(Int×(Int×(Bool×Unit)))
@[reducible] def Z10:Type:=((Int×(Int×Unit))×Unit)
@[reducible] def Z11:Type:=(LI×(LI×Int))
@[reducible] def Z12:Type:=(Int×Z2)
@[reducible] def Z13:Type:=(LI×(LI×Unit))
@[reducible] def Z14:Type:=(LI×(Int×(Int×Unit)))
@[reducible] def Z15:Type:=(List Z8)
@[reducible] def Z16:Type:=(Int×Z6)
@[reducible] def Z17:Type:=(Int×Z7)
@[reducible] def Z18:Type:=(LI×(Int×(Bool×Unit)))
@[reducible] def Z19:Type:=(Z6×Unit)
@[reducible] def Z20:Type:=(Int×Z8)
@[reducible] def Z21:Type:=(Z7×Unit)
@[reducible] def Z22:Type:=(Z8×Unit)
@[reducible] def Z23:Type:=(Int×Z9)
@[reducible] def Z24:Type:=(List Z12)
@[reducible] def Z25:Type:=(Int×Z13)
@[reducible] def Z26:Type:=(LI×Z6)
@[reducible] def Z27:Type:=((List LI)×(Int×(Int×Unit)))
@[reducible] def Z28:Type:=(Int×Z12)
@[reducible] def Z29:Type:=(Z12×Int)
@[reducible] def Z30:Type:=(Int×Z14)
@[reducible] def Z31:Type:=(Z14×Int)
@[reducible] def Z32:Type:=(LI×Z8)
@[reducible] def Z33:Type:=(Z12×Unit)
@[reducible] def Z34:Type:=(Int×Z16)
@[reducible] def Z35:Type:=(LI×Z9)
@[reducible] def Z36:Type:=(Z14×Unit)
@[reducible] def Z37:Type:=(Int×Z20)
@[reducible] def Z38:Type:=(Int×Z21)
@[reducible] def Z39:Type:=(Int×Z22)
@[reducible] def Z40:Type:=(Bool×Z22)
@[reducible] def Z41:Type:=(LI×Z13)
@[reducible] def Z42:Type:=(LI×Z14)
@[reducible] def Z43:Type:=(LI×Z16)
@[reducible] def Z44:Type:=(Int×Z25)
@[reducible] def Z45:Type:=(Int×Z27)
@[reducible] def Z46:Type:=(Z24×Unit)
@[reducible] def Z47:Type:=(Int×Z32)
@[reducible] def Z48:Type:=(Int×Z33)
@[reducible] def Z49:Type:=(Z6×(LI×Unit))
@[reducible] def Z50:Type:=((LI×Unit) ⊕ Z6)
@[reducible] def Z51:Type:=(LI×Z18)
@[reducible] def Z52:Type:=(Int×Z30)
@[reducible] def Z53:Type:=(Z25×Unit)
@[reducible] def Z54:Type:=(Int×Z36)
@[reducible] def Z55:Type:=(Int×Z37)
@[reducible] def Z56:Type:=(Int×Z38)
@[reducible] def Z57:Type:=(Bool×Z36)
@[reducible] def Z58:Type:=(Int×Z41)
@[reducible] def Z59:Type:=(LI×Z32)
@[reducible] def Z60:Type:=(Int×Z43)
@[reducible] def Z61:Type:=(LI×Z30)
@[reducible] def Z62:Type:=(LI×Z33)
@[reducible] def Z63:Type:=(LI×Z36)
@[reducible] def Z64:Type:=(Int×Z48)
@[reducible] def Z65:Type:=(Int×Z53)
@[reducible] def Z66:Type:=(Int×Z54)
@[reducible] def Z67:Type:=(Z30 ⊕ (Int×Unit))
@[reducible] def Z68:Type:=(Int×Z55)
@[reducible] def Z69:Type:=(Int×Z57)
@[reducible] def Z70:Type:=(Z14 ⊕ Z0)
@[reducible] def Z71:Type:=(LI×Z44)
@[reducible] def Z72:Type:=(Int×Z58)
@[reducible] def Z73:Type:=(LI×Z49)
@[reducible] def Z74:Type:=(LI×Z52)
@[reducible] def Z75:Type:=(LI×Z53)
@[reducible] def Z76:Type:=(Int×Z62)
@[reducible] def Z77:Type:=(Int×Z60)
@[reducible] def Z78:Type:=(Int×Z63)
@[reducible] def Z79:Type:=(Int×Z65)
@[reducible] def Z80:Type:=(LI×Z56)
@[reducible] def Z81:Type:=(Int×Z66)
@[reducible] def Z82:Type:=(Z6×Z19)
@[reducible] def Z83:Type:=(Int×Z68)
@[reducible] def Z84:Type:=(Z7×Z19)
@[reducible] def Z85:Type:=(Int×Z71)
@[reducible] def Z86:Type:=(Int×Z75)
@[reducible] def Z87:Type:=(Int×Z76)
@[reducible] def Z88:Type:=(Int×Z78)
@[reducible] def Z89:Type:=(Int×Z79)
@[reducible] def Z90:Type:=(Int×Z80)
@[reducible] def Z91:Type:=(Int×Z83)
@[reducible] def Z92:Type:=(Int×Z88)
@[reducible] def Z93:Type:=(Z15×Z33)
@[reducible] def Z94:Type:=(LI×Z84)
@[reducible] def Z95:Type:=(Z8×Z59)
@[reducible] def Z96:Type:=(Int×Z94)
@[reducible] def Z97:Type:=(Z5×Z73)
@[reducible] def Z98:Type:=(Int×Z96)
@[reducible] def Z99:Type:=(Z95×Unit)
@[reducible] def c6x:Type:=(Z6×Z82)
@[reducible] def d5O:Type:=(LI×Z97)
@[reducible] def c3P:Type:=(LI×Z98)
@[reducible] def d5P:Type:=(LI×d5O)
@[reducible] def d5Q:Type:=(Int×d5P)
@[reducible] def d5R:Type:=(Int×d5Q)
@[reducible] def d5S:Type:=(Int×d5R)
@[reducible] def d5T:Type:=(Int×d5S)
@[reducible] def a2d:Type:=(Int×d5T)
@[reducible] def b0X:Type:=(List a2d)
@[reducible] def b5o:Type:=(a2d×Int)
@[reducible] def b6r:Type:=(a2d×Unit)
@[reducible] def c9q:Type:=(b0X×Unit)
@[reducible] def d2J:Type:=(Bool×b6r)
@[reducible] def c3Q:Type:=(Int×d2J)
@[reducible] def c6y:Type:=(b0X×(LI×Unit))
@[reducible] def d5U:Type:=(Z7×b6r)
@[reducible] def d2K:Type:=(Z14×b6r)
@[reducible] def c6z:Type:=(a2d×Z36)
@[reducible] def c6A:Type:=(Int×d5U)
@[reducible] def d5V:Type:=(Z15×c9q)
@[reducible] def c9r:Type:=(Int×d2K)
@[reducible] def b5p:Type:=(Int×c6A)
@[reducible] def c1T:Type:=(Int×c9r)
@[reducible] def d5W:Type:=(Z8×d5V)
@[reducible] def d5X:Type:=(Int×d5W)
@[reducible] def a2I:Type:=(Int×d5X)
@[reducible] def a3F:Type:=(List a2I)
@[reducible] def b5q:Type:=(a2I×Unit)
@[reducible] def b7G:Type:=(List a3F)
@[reducible] def c6B:Type:=(a3F×Unit)
@[reducible] def c3R:Type:=(Z12×b5q)
@[reducible] def d5Y:Type:=(Z5×c6B)
@[reducible] def c1U:Type:=(a2I×Z36)
@[reducible] def d5Z:Type:=(Int×d5Y)
@[reducible] def d6a:Type:=(Int×d5Z)
@[reducible] def b2Y:Type:=(a2d×b6r)
@[reducible] def d6b:Type:=(Int×b2Y)
@[reducible] def c6C:Type:=(Int×d6b)
@[reducible] def a8p:Type:=(Z8×d6a)
@[reducible] def b0I:Type:=(a8p×Unit)
@[reducible] def c6D:Type:=(LI×b0I)
@[reducible] def d6c:Type:=(Z24×b0I)
@[reducible] def c6E:Type:=((List LI)×d6c)
@[reducible] def Q0:Ty:=(.pair QI .unit)
@[reducible] def Q1:Ty:=(.pair (.list true QI) .unit)
@[reducible] def Q2:Ty:=(.pair QL .unit)
@[reducible] def Q3:Ty:=(.pair QI Q0)
@[reducible] def Q4:Ty:=(.pair QU Q0)
@[reducible] def Q5:Ty:=(.pair (.nl QL) .unit)
@[reducible] def Q6:Ty:=(.pair (.list true (.list true QI)) .unit)
@[reducible] def Q7:Ty:=(.pair (.list true QL) .unit)
@[reducible] def Q8:Ty:=(.pair (.list false QL) .unit)
@[reducible] def Q9:Ty:=(.pair (.list true QV) Q0)
@[reducible] def Q10:Ty:=(.pair QI Q1)
@[reducible] def Q11:Ty:=(.pair QI Q2)
@[reducible] def Q12:Ty:=(.pair QI Q3)
@[reducible] def Q13:Ty:=(.pair QI Q4)
@[reducible] def Q14:Ty:=(.pair (.list true QI) Q1)
@[reducible] def Q15:Ty:=(.pair QI Q8)
@[reducible] def Q16:Ty:=(.pair QB Q3)
@[reducible] def Q17:Ty:=(.pair QI Q14)
@[reducible] def Q18:Ty:=(.pair (.list true QI) Q13)
@[reducible] def Q19:Ty:=(.pair QL Q13)
@[reducible] def Q20:Ty:=(.pair Q11 Q2)
@[reducible] def Q21:Ty:=(.pair (.list true QI) Q18)
@[reducible] def Q22:Ty:=(.pair QL Q19)
@[reducible] def Q23:Ty:=(.pair (.nl QI) Q20)
@[reducible] def Q24:Ty:=(.pair QL Q20)
@[reducible] def Q25:Ty:=(.pair (.list true Q3) Q23)
@[reducible] def Q26:Ty:=(.pair Q12 Q21)
@[reducible] def Q27:Ty:=(.pair Q12 Q22)
@[reducible] def Q28:Ty:=(.pair (.list false Q3) Q24)
@[reducible] def Q29:Ty:=(.pair (.arr 3 QI) Q25)
@[reducible] def Q30:Ty:=(.pair (.arr 3 QI) Q28)
@[reducible] def Q31:Ty:=(.pair (.list true QI) Q29)
@[reducible] def Q32:Ty:=(.pair QL Q30)
@[reducible] def Q33:Ty:=(.pair QI Q31)
@[reducible] def Q34:Ty:=(.pair QI Q32)
@[reducible] def Q35:Ty:=(.pair QI Q33)
@[reducible] def Q36:Ty:=(.pair QI Q34)
@[reducible] def Q37:Ty:=(.pair QI Q35)
@[reducible] def Q38:Ty:=(.pair QI Q36)
@[reducible] def Q39:Ty:=(.pair QI Q37)
@[reducible] def Q40:Ty:=(.pair QI Q38)
@[reducible] def Q41:Ty:=(.pair QI Q39)
@[reducible] def Q42:Ty:=(.pair QI Q40)
@[reducible] def Q43:Ty:=(.pair (.nl Q42) .unit)
@[reducible] def Q44:Ty:=(.pair (.list true Q42) .unit)
@[reducible] def Q45:Ty:=(.pair (.list false Q42) .unit)
@[reducible] def Q46:Ty:=(.pair (.nl Q12) Q43)
@[reducible] def Q47:Ty:=(.pair (.list true Q12) Q43)
@[reducible] def Q48:Ty:=(.pair (.list false Q12) Q44)
@[reducible] def Q49:Ty:=(.pair (.list false Q12) Q45)
@[reducible] def Q50:Ty:=(.pair Q12 Q46)
@[reducible] def Q51:Ty:=(.pair Q12 Q47)
@[reducible] def Q52:Ty:=(.pair Q12 Q48)
@[reducible] def Q53:Ty:=(.pair Q12 Q49)
@[reducible] def Q54:Ty:=(.pair QI Q50)
@[reducible] def Q55:Ty:=(.pair QI Q51)
@[reducible] def Q56:Ty:=(.pair QI Q52)
@[reducible] def Q57:Ty:=(.pair QI Q53)
@[reducible] def Q58:Ty:=(.pair QI Q55)
@[reducible] def Q59:Ty:=(.pair QI Q56)
@[reducible] def Q60:Ty:=(.pair QI Q57)
@[reducible] def Q61:Ty:=(.pair (.nl Q60) .unit)
@[reducible] def Q62:Ty:=(.pair (.list true Q60) .unit)
@[reducible] def Q63:Ty:=(.pair (.list false Q60) .unit)
@[reducible] def Q64:Ty:=(.pair (.nl Q3) Q61)
@[reducible] def Q65:Ty:=(.pair (.list true Q3) Q62)
@[reducible] def Q66:Ty:=(.pair (.list false Q3) Q63)
@[reducible] def Q67:Ty:=(.pair QU Q64)
@[reducible] def Q68:Ty:=(.pair QU Q65)
@[reducible] def Q69:Ty:=(.pair QU Q66)
@[reducible] def Q70:Ty:=(.pair QI Q67)
@[reducible] def Q71:Ty:=(.pair QI Q68)
@[reducible] def Q72:Ty:=(.pair QI Q69)
@[reducible] def Q73:Ty:=(.pair Q12 Q71)
@[reducible] def Q74:Ty:=(.pair Q12 Q72)
def c3J:List (Nat×Ty):=[(2,.int .i64),(3,.int .i64),(5,.int .u8),(9,.str),(23,.pair QI Q3),(24,.list false QI),(27,.list false QV),(28,.int .u64),(29,.list false Q3),(30,.list false Q60),(32,.pair Q12 Q72),(36,.pair QI Q0),(38,.int .i64),(48,.list false QL),(50,.pair QI Q8),(53,.list false Q12),(54,.list false Q42),(56,.pair QI Q57),(68,.int .u64),(83,.pair Q12 Q22),(90,.pair QI Q0),(91,.list false QB),(92,.list false Q15),(97,.list false .str),(103,.arr 3 QI),(104,.list false Q3),(106,.pair QI Q2),(108,.pair QI Q40),(113,.pair QB Q0),(119,.int .u16),(142,.int .u32),(147,.pair QI Q3),(162,.pair QI Q0),(165,.list false QU),(172,.pair QB Q3),(183,.list false (.list false Q60)),(190,.pair QB Q3),(223,.arr 64 QV),(249,.list false (.arr 3 QI)),(255,.pair QI (.pair QL Q2))]
def T0:Nat→Option Ty:=fun t=>find c3J t
def c6F:List Nat:=[23,103]
def d6d:Nat→Bool:=fun t=>c6F.contains t
def c3S:List Nat:=[]
def d6e:Nat→Bool:=fun t=>c3S.contains t
def b2g:(List Int):=[0,1,56,2,57,49,28,3,61,58,42,50,38,29,17,4,62,47,59,36,45,43,51,22,53,39,33,30,24,18,12,5,63,55,48,27,60,41,37,16,46,35,44,21,52,32,23,11,54,26,40,15,34,20,31,10,25,14,19,9,13,8,7,6]
def G0:Nat→Option ((t:Ty)×t.den):=fun g=>find ([(0,⟨.arr 64 QV,b2g⟩)]:List (Nat×((t:Ty)×t.den))) g
@[reducible] def b2Z(a:List (Nat×FSem))(b:List (Nat×Ty))(c d:List Nat):Cx:=⟨d6e,d6d,T0,fun f=>find a f,fun n=>find b n,fun i=>c.contains i,fun i=>d.contains i,G0⟩
def a7o(x:Int):Option Bool:=cond (decide (4≤x)) (some (decide (x≤24))) (some false)
def b3a:FSem:=⟨[.v QI],[.v .bool],a7o⟩
def a1Z(x:Z8):Option Bool:=cond (decide (1≤x.1)) (cond (decide (x.1≤1048576)) (cond (decide (1≤x.2.1)) (cond (decide (x.2.1≤8)) ((a7o x.2.2.1).bind fun y1=>some y1) (some false)) (some false)) (some false)) (some false)
def a4a:FSem:=⟨[.v Q12],[.v .bool],a1Z⟩
def a6a(x:LI):Option Z14:=cond (lim (a01 x)) (some (x,0,0,())) none
def b5r:FSem:=⟨[.v QB],[.b Q16],a6a⟩
def a6i(s:Z30):Option (Z30 ⊕ (Unit ⊕ Z8)):=cond (decide (s.2.2.2.1<s.2.2.1)) ((m0k s.2.1 s.2.2.2.1).bind fun x1=>(show Option (Int×Int×Int×Z35)from cond (s.2.2.2.1==9) (cond (decide (x1 > 1)) (some (s.1,s.2.2.2.1,x1,s.2.1,s.2.2.1,s.2.2.2.1,true,())) (cond (decide (s.2.2.2.1 > 0)) (some (s.1,s.2.2.2.1,x1,s.2.1,s.2.2.1,s.2.2.2.1,x1==0,())) (some (s.1,s.2.2.2.1,x1,s.2.1,s.2.2.1,s.2.2.2.1,false,())))) (cond (decide (s.2.2.2.1 > 0)) (some (s.1,s.2.2.2.1,x1,s.2.1,s.2.2.1,s.2.2.2.1,x1==0,())) (some (s.1,s.2.2.2.1,x1,s.2.1,s.2.2.1,s.2.2.2.1,false,())))).bind fun z2=>cond z2.2.2.2.2.2.2.1 (some (.inr (Sum.inr ((0,0,2,()))))) (cond (decide ((wrap .i64 (7*z2.2.1))<0)) none (cond (decide (z2.2.2.1<128)) (some (.inr (Sum.inr ((bits .u64 .or z2.1 (A0n .u64 (wrap .u64 (a05 z2.2.2.1 128)) (wrap .i64 (7*z2.2.1))),wrap .i64 (z2.2.1+1),0,()))))) (some (.inl (bits .u64 .or z2.1 (A0n .u64 (wrap .u64 (a05 z2.2.2.1 128)) (wrap .i64 (7*z2.2.1))),z2.2.2.2.1,z2.2.2.2.2.1,wrap .i64 (z2.2.2.2.2.2.1+1),())))))) (some (.inr (Sum.inl ())))
def a8N(x:LI):Option (Int×Int×Int):=(y0s a6i (0,x,(x.length:Int),0,())).bind fun w3=>match w3 with |.inl a4=>some (0,0,3) |.inr b5=>some (b5.1,b5.2.1,b5.2.2.1)
def b5P:FSem:=⟨[.v QB],[.v QU,.v QI,.v QI],a8N⟩
def d6f:Hints:=⟨[(58,[.sv 5 QU,.sv 8 QB,9,10],[Qe 0 [],Qr [.sv 2 QU,3,4]])],[(7474,[Qn [.sv 5 QU,6,.sv 7 QV,.sv 8 QB,9,10,.sv 28 .bool]])],[]⟩
def a0S(x:Z31):Option Z30:=cond (x.1.2.2.1 != 0) (some (0,x.1)) (cond ((decide (0≤x.1.2.1))&&(decide (x.1.2.1≤(x.1.1.length:Int)))) ((a8N (a08 (a00 x.1.2.1) (a06 (a01 x.1.1) x.1.1))).bind fun y1=>(show Option Z81 from cond (y1.2.2==0) (cond (decide (y1.1 > x.2)) (some (y1.1,y1.2.1,4,x.1,())) (some (y1.1,y1.2.1,y1.2.2,x.1,()))) (some (y1.1,y1.2.1,y1.2.2,x.1,()))).bind fun z2=>cond (z2.2.2.1 != 0) (some (0,z2.2.2.2.1.1,z2.2.2.2.1.2.1,z2.2.2.1,z2.2.2.2.1.2.2.2)) (some (z2.1,z2.2.2.2.1.1,wrap .i64 (z2.2.2.2.1.2.1+z2.2.1),z2.2.2.2.1.2.2))) none)
def a8q:FSem:=⟨[.r false (.b Q16),.v QU],[.v QU],a0S⟩
def H79:Hints:=⟨[],[(15,[Qn [.sv 5 QU,6,7,.box pinned Q16,Qp 0 pinned]])],[(3,[.p,.p,.q,.q,.p,.p,.q,.q,.x,.x,.x,.v,.v,.v,.v,.v,.x])]⟩
def a3G(x:Z14):Option Z30:=some (x.2.2.1,x)
def a8r:FSem:=⟨[.r false (.b Q16)],[.v QI],a3G⟩
def a1P(x:Z14):Option Z30:=some (wrap .i64 ((x.1.length:Int)-x.2.1),x)
def a5f:FSem:=⟨[.r false (.b Q16)],[.v QI],a1P⟩
def H81:Hints:=⟨[],[],[(1,[.p,.p,.q,.q,.v,.p,.p,.q,.q,.x,.x])]⟩
def a5g(x:Z31):Option Z42:=cond (x.1.2.2.1 != 0) (some ([],x.1)) ((a1P x.1).bind fun y1=>cond (decide ((v0r x.2 0) > y1.1)) (some ([],y1.2.1,y1.2.2.1,3,y1.2.2.2.2)) (cond ((decide (0≤(wrap .i64 (y1.2.2.1+(v0r x.2 0)))))&&(decide ((wrap .i64 (y1.2.2.1+(v0r x.2 0)))≤(y1.2.1.length:Int)))) (cond ((decide (0≤y1.2.2.1))&&(decide (y1.2.2.1≤((a00 (wrap .i64 (y1.2.2.1+(v0r x.2 0))):Nat):Int)))) (cond (lim (a01 (a08 (a00 y1.2.2.1) (a06 (a00 (wrap .i64 (y1.2.2.1+(v0r x.2 0)))) y1.2.1)))) (some (a08 (a00 y1.2.2.1) (a06 (a00 (wrap .i64 (y1.2.2.1+(v0r x.2 0)))) y1.2.1),y1.2.1,wrap .i64 (y1.2.2.1+(v0r x.2 0)),y1.2.2.2)) none) none) none))
def b1F:FSem:=⟨[.r false (.b Q16),.v QI],[.o QV],a5g⟩
def d6g:Hints:=⟨[],[],[(7,[.p,.p,.q,.q,.p,.p,.q,.q,.p,.p,.q,.q,.v,.v,.x,.x,.x])]⟩
def a4b(x:Int):Option Int:=some (v0s (v0r x 0) 8)
def b3b:FSem:=⟨[.v QI],[.v QI],a4b⟩
def a3Q(s:Z92):Option (Z92 ⊕ Z54):=cond (decide (s.2.2.1<s.2.1)) (cond ((decide (0≤s.2.2.1))&&(decide (s.2.2.1<(s.2.2.2.1.length:Int)))) (some (.inl (wrap .u64 ((wrap .u64 (s.1*256))+(wrap .u64 (a04 s.2.2.2.1 (a00 s.2.2.1) 0))),s.2.1,wrap .i64 (s.2.2.1+1),s.2.2.2.1,s.2.2.2.2.1,()))) none) (some (.inr (s.1,s.2.2.2.2.1,())))
def a3H(x:Z31):Option Z30:=(a4b x.2).bind fun y1=>(a5g (x.1,y1)).bind fun y2=>(y0s a3Q (0,(y2.1.length:Int),0,y2.1,y2.2,())).bind fun w3=>some (w3.1,w3.2.1)
def b2L:FSem:=⟨[.r false (.b Q16),.v QI],[.v QU],a3H⟩
def H82:Hints:=⟨[(58,[.sv 5 QU,12,13,.own 11 1011 QV,.box pinned Q16],[Qe 0 [.sv 5 QU,.box pinned Q16]])],[],[]⟩
def a4i(x:Z14):Option Z30:=some (x.2.1,x)
def a9s:FSem:=⟨[.r false (.b Q16)],[.v QI],a4i⟩
def a7W(s:Z47):Option (Z47 ⊕ Z30):=cond (decide (s.2.2.2.2.1<8)) (cond ((bits .u32 .and s.1 1)==1) (some (.inl (bits .u32 .xor (A0o .u32 s.1 1) 3988292384,s.2.1,s.2.2.1,s.2.2.2.1,wrap .i64 (s.2.2.2.2.1+1),()))) (some (.inl (A0o .u32 s.1 1,s.2.1,s.2.2.1,s.2.2.2.1,wrap .i64 (s.2.2.2.2.1+1),())))) (some (.inr (s.1,s.2.1,s.2.2.1,s.2.2.2.1,())))
def a5h(s:Z30):Option Z67:=cond (decide (s.2.2.2.1<s.2.2.1)) ((m0k s.2.1 s.2.2.2.1).bind fun x1=>(y0s a7W (bits .u32 .xor s.1 (wrap .u32 x1),s.2.1,s.2.2.1,s.2.2.2.1,0,())).bind fun w2=>some (.inl (w2.1,w2.2.1,w2.2.2.1,wrap .i64 (w2.2.2.2.1+1),()))) (some (.inr (s.1,())))
def a4N(x:LI):Option Int:=(y0s a5h (4294967295,x,(x.length:Int),0,())).bind fun w3=>some (bits .u32 .xor (IntKind.max .u32) w3.1)
def b0J:FSem:=⟨[.v QB],[.v (.int .u32)],a4N⟩
def H84:Hints:=⟨[(58,[.sv 3 (.int .u32),.sv 7 QB,8,9],[Qe 0 [.sv 3 (.int .u32)]]),(29902,[.sv 3 (.int .u32),.sv 7 QB,8,9,17],[Qe 2 [.sv 3 (.int .u32),.sv 7 QB,8,9]])],[],[]⟩
def a5z(s:(LI×(Int×Int×Z95×Z95×Z36))):Option ((LI×(Int×Int×Z95×Z95×Z36)) ⊕ (LI×(Z95×Z95×Z36))):=cond (decide (s.2.2.1<s.2.1)) ((a0S (s.2.2.2.2.2.1,1048704)).bind fun y6=>cond (lim ((a01 s.2.2.2.2.1.2.1)+1)) ((a0S (y6.2,4096)).bind fun y7=>cond (lim ((a01 s.2.2.2.2.1.2.2.1)+1)) (some (.inl (s.1,s.2.1,wrap .u64 (s.2.2.1+1),s.2.2.2.1,(s.2.2.2.2.1.1,a03 s.2.2.2.2.1.2.1 [wrap .i64 y6.1],a03 s.2.2.2.2.1.2.2.1 [wrap .i64 y7.1],s.2.2.2.2.1.2.2.2),y7.2,()))) none) none) (some (.inr (s.1,s.2.2.2.1,s.2.2.2.2.1,s.2.2.2.2.2.1,())))
def a5A(s:(Int×Int×Z95×Z99)):Option ((Int×Int×Z95×Z99) ⊕ ((Z95×Z99) ⊕ (Int×Z99))):=cond (decide (s.2.1<s.1)) (cond ((decide (0≤s.2.1))&&(decide (s.2.1<(s.2.2.2.1.2.2.1.length:Int)))) (cond ((a04 s.2.2.2.1.2.2.1 (a00 s.2.1) 0)==0) (some (.inr (Sum.inr ((2,((0,0,0,()),[],[],0,0,0,()),()))))) (some (.inl (s.1,wrap .i64 (s.2.1+1),s.2.2.1,(s.2.2.2.1.1,s.2.2.2.1.2.1,s.2.2.2.1.2.2.1,wrap .i64 (s.2.2.2.1.2.2.2.1+(a04 s.2.2.2.1.2.2.1 (a00 s.2.1) 0)),s.2.2.2.1.2.2.2.2),())))) none) (some (.inr (Sum.inl (s.2.2.1,s.2.2.2.1,()))))
def a5B(x:LI):Option (Z95×Int):=cond (decide ((x.length:Int)<4)) (some (((0,0,0,()),[],[],0,0,0,()),3)) (cond (decide (4≤(x.length:Int))) (cond ((b2s (a06 4 x)) != [75,78,83,68]) (some (((0,0,0,()),[],[],0,0,0,()),2)) (cond (decide (4≤(x.length:Int))) ((a6a (a08 4 (a06 (a01 x) x))).bind fun y1=>(a0S (y1,1048576)).bind fun y2=>(a0S (y2.2,8)).bind fun y3=>(a0S (y3.2,24)).bind fun y4=>(a0S (y4.2,4096)).bind fun y5=>(y0s a5z (x,y5.1,0,((0,0,0,()),[],[],0,0,0,()),((wrap .i64 y2.1,wrap .i64 y3.1,wrap .i64 y4.1,()),[],[],0,0,0,()),y5.2,())).bind fun w8=>(a3G w8.2.2.2.1).bind fun y9=>cond (y9.1 != 0) (some (((0,0,0,()),[],[],0,0,0,()),y9.1)) ((a1P y9.2).bind fun y10=>cond (decide (y10.1<12)) (some (((0,0,0,()),[],[],0,0,0,()),3)) ((a3H (y10.2,8)).bind fun y11=>(a4i y11.2).bind fun y12=>cond ((decide (0≤(wrap .i64 (4+y12.1))))&&(decide ((wrap .i64 (4+y12.1))≤(w8.1.length:Int)))) ((a4N (a06 (a00 (wrap .i64 (4+y12.1))) w8.1)).bind fun y13=>(a3H (y12.2,4)).bind fun y14=>cond ((wrap .u64 y13) != y14.1) (some (((0,0,0,()),[],[],0,0,0,()),5)) ((a1Z w8.2.2.1.1).bind fun y15=>cond (!y15) (some (((0,0,0,()),[],[],0,0,0,()),2)) ((y0s a5A ((w8.2.2.1.2.2.1.length:Int),0,w8.2.1,(w8.2.2.1.1,w8.2.2.1.2.1,w8.2.2.1.2.2.1,w8.2.2.1.2.2.2.1,y11.1,wrap .i64 ((wrap .i64 (4+y12.1))+4),w8.2.2.1.2.2.2.2.2.2),())).bind fun w16=>match w16 with |.inl a17=>(cond (decide (a17.2.1.2.2.2.1 > 4194304)) (some (((0,0,0,()),[],[],0,0,0,()),2)) (some (a17.2.1,0))) |.inr b18=>some (b18.2.1,b18.1)))) none))) none)) none)
def b4M:FSem:=⟨[.v QB],[.v Q27,.v QI],a5B⟩
def H37:Hints:=⟨[(4090,[.sv 0 QB,.sv 38 QU,.sv 39 QU,.box 2 Q27,.box 4 Q26,.box 1021 Q16,Qp 2 2,Qp 4 4,Qp 5 1021],[Qe 0 [.sv 0 QB,.box 2 Q27,.box 4 Q26,.box 1021 Q16,Qp 2 2,Qp 4 4,Qp 5 1021]]),(1048570,[93,94,.box 2 Q27,.box 4 Q26,Qp 2 2,Qp 4 4,.ref 92 4 [.snd,.snd,.fst]],[Qe 2 [.box 2 Q27,.box 4 Q26,Qp 2 2,Qp 4 4],Qr [3,.box 2 Q27,Qp 2 2]])],[],[(12,[.r [4,41],.r [4,42],.q,.w [44,1021,1044],.v,.q,.x,.x,.x]),(13,[.r [4,49],.r [4,50],.q,.w [52,1021,1052],.v,.q,.x,.x,.x])]⟩
def a3v(x:Z12):Option Int:=cond ((x.2.1.length:Int)==0) (some 0) ((m0k x.2.1 0).bind fun x1=>some (x1.length:Int))
def a9C:FSem:=⟨[.v Q15],[.v QI],a3v⟩
def b4a(x:Int):Option Int:=(show Option (Int×Bool×Unit)from cond (decide (x<1)) (some (x,true,())) (some (x,decide (x > 31),()))).bind fun z1=>cond z1.2.1 (some 0) (cond (decide ((wrap .i64 (z1.1-1))<0)) none (some (A0n .i64 (-1) (wrap .i64 (z1.1-1)))))
def b7H:FSem:=⟨[.v QI],[.v QI],b4a⟩
def d6h:Hints:=⟨[],[(6,[Qn [0,.sv 8 .bool]])],[]⟩
def b3c(x:Int):Option Int:=(show Option (Int×Bool×Unit)from cond (decide (x<1)) (some (x,true,())) (some (x,decide (x > 31),()))).bind fun z1=>cond z1.2.1 (some 0) (cond (decide ((wrap .i64 (z1.1-1))<0)) none (some (wrap .i64 ((A0n .i64 1 (wrap .i64 (z1.1-1)))-1))))
def b7i:FSem:=⟨[.v QI],[.v QI],b3c⟩
def d6i:Hints:=⟨[],[(6,[Qn [0,.sv 8 .bool]])],[]⟩
def a2a(x:(Int×Int)):Option Bool:=cond (decide (x.2≥1)) (cond (decide (x.2≤31)) ((b4a x.2).bind fun y1=>cond (decide (y1≤x.1)) ((b3c x.2).bind fun y2=>some (decide (x.1≤y2))) (some false)) (some false)) (some false)
def a4c:FSem:=⟨[.v QI,.v QI],[.v .bool],a2a⟩
def a4C(s:((List LI)×(Int×(Int×(LI×Z64))))):Option (((List LI)×(Int×(Int×(LI×Z64)))) ⊕ (((List LI)×Z64) ⊕ (Bool×Unit))):=cond (decide (s.2.2.2.2.2.1<s.2.2.2.2.1)) ((m0k s.2.2.2.1 s.2.2.2.2.2.1).bind fun x8=>(a2a (x8,s.2.2.2.2.2.2.1.1)).bind fun y9=>cond (!y9) (some (.inr (Sum.inr ((false,()))))) (some (.inl (s.1,s.2.1,s.2.2.1,s.2.2.2.1,s.2.2.2.2.1,wrap .i64 (s.2.2.2.2.2.1+1),s.2.2.2.2.2.2.1,())))) (some (.inr (Sum.inl (s.1,s.2.1,s.2.2.1,s.2.2.2.2.2.2.1,()))))
def a4D(s:((List LI)×Z64)):Option (((List LI)×Z64) ⊕ Z0):=cond (decide (s.2.2.1<s.2.1)) ((m0k s.1 s.2.2.1).bind fun x6=>(a3v s.2.2.2.1).bind fun y7=>cond ((x6.length:Int) != y7) (some (.inr (Sum.inr ((false,()))))) ((y0s a4C (s.1,s.2.1,s.2.2.1,x6,(x6.length:Int),0,s.2.2.2.1,())).bind fun w10=>match w10 with |.inl a11=>some (.inl (a11.1,a11.2.1,wrap .i64 (a11.2.2.1+1),a11.2.2.2.1,())) |.inr b12=>some (.inr (Sum.inr ((b12.1,())))))) (some (.inr (Sum.inl ())))
def a3w(x:Z12):Option Bool:=(show Option (Bool×Z33)from(a7o x.1).bind fun y1=>cond (!y1) (some (true,x,())) (cond (decide ((x.2.1.length:Int)<1)) (some (true,x,())) (some (decide ((x.2.1.length:Int) > 8),x,())))).bind fun z2=>cond z2.1 (some false) ((show Option (Bool×Z33)from(a3v z2.2.1).bind fun y3=>cond (decide (y3<1)) (some (true,z2.2.1,())) ((a3v z2.2.1).bind fun y4=>some (decide (y4 > 4096),z2.2.1,()))).bind fun z5=>cond z5.1 (some false) ((y0s a4D (z5.2.1.2.1,(z5.2.1.2.1.length:Int),0,z5.2.1,())).bind fun w13=>match w13 with |.inl a14=>some true |.inr b15=>some b15.1))
def a6b:FSem:=⟨[.v Q15],[.v .bool],a3w⟩
def H44:Hints:=⟨[(122,[.sv 32 (.list false QL),33,34,.vp 1 Q15],[Qe 0 [],Qr [.sv 2 .bool]]),(62670,[.sv 32 (.list false QL),33,34,.sv 43 QL,44,45,.vp 1 Q15],[Qe 2 [.sv 32 (.list false QL),33,34,.vp 1 Q15],Qr [.sv 2 .bool]])],[(6,[Qn [.sv 22 .bool,.vp 1 Q15]]),(14,[Qn [.sv 30 .bool,.vp 1 Q15]])],[]⟩
def a7p(s:(Int×Z15×Int×Int×Unit)):Option ((Int×Z15×Int×Int×Unit) ⊕ Z0):=cond (decide (s.2.2.2.1<s.2.2.1)) ((m0k s.2.1 s.2.2.2.1).bind fun x2=>(show Option (Int×Z15×Int×Int×Z40)from cond (decide (x2.1<0)) (some (s.1,s.2.1,s.2.2.1,s.2.2.2.1,true,x2,())) (cond (decide (x2.1≥s.1)) (some (s.1,s.2.1,s.2.2.1,s.2.2.2.1,true,x2,())) (cond (decide (x2.2.1<0)) (some (s.1,s.2.1,s.2.2.1,s.2.2.2.1,true,x2,())) (cond (decide (x2.2.1≥s.1)) (some (s.1,s.2.1,s.2.2.1,s.2.2.2.1,true,x2,())) (some (s.1,s.2.1,s.2.2.1,s.2.2.2.1,x2.1==x2.2.1,x2,())))))).bind fun z3=>cond z3.2.2.2.2.1 (some (.inr (Sum.inr ((false,()))))) ((show Option (Int×Z15×Z9)from cond (decide (z3.2.2.2.2.2.1.2.2.1<(-1024))) (some (z3.1,z3.2.1,z3.2.2.1,z3.2.2.2.1,true,())) (some (z3.1,z3.2.1,z3.2.2.1,z3.2.2.2.1,decide (z3.2.2.2.2.2.1.2.2.1 > 1024),()))).bind fun z4=>cond z4.2.2.2.2.1 (some (.inr (Sum.inr ((false,()))))) (some (.inl (z4.1,z4.2.1,z4.2.2.1,wrap .i64 (z4.2.2.2.1+1),()))))) (some (.inr (Sum.inl ())))
def a8O(x:(Z15×Int)):Option Bool:=(show Option (Z15×Int×Bool×Unit)from cond (decide (x.2<1)) (some (x.1,x.2,true,())) (cond (decide (x.2 > 8)) (some (x.1,x.2,true,())) (some (x.1,x.2,decide ((x.1.length:Int) > 16),())))).bind fun z1=>cond z1.2.2.1 (some false) ((y0s a7p (z1.2.1,z1.1,(z1.1.length:Int),0,())).bind fun w5=>match w5 with |.inl a6=>some true |.inr b7=>some b7.1)
def b3w:FSem:=⟨[.v (.list false Q12),.v QI],[.v .bool],a8O⟩
def H88:Hints:=⟨[(58,[1,.sv 18 (.list false Q12),19,20],[Qe 0 [],Qr [.sv 4 .bool]])],[(6,[Qn [.sv 0 (.list false Q12),1,.sv 17 .bool]]),(7474,[Qn [1,.sv 18 (.list false Q12),19,20,.sv 50 .bool,.box 6 Q12,Qp 6 6]]),(7475,[Qn [1,.sv 18 (.list false Q12),19,20,.sv 58 .bool]])],[]⟩
def a7q(x:a2I):Option Bool:=(a1Z x.2.2.1).bind fun y1=>cond y1 (cond (decide (x.2.1≥1)) (cond (decide (x.2.1≤4096)) (cond (decide (x.1≥0)) (cond (decide (x.1≤(wrap .i64 (4194304-x.2.1)))) ((a8O (x.2.2.2.1,x.2.2.1.2.1)).bind fun y2=>some y2) (some false)) (some false)) (some false)) (some false)) (some false)
def b3d:FSem:=⟨[.v Q60],[.v .bool],a7q⟩
def a2J(s:Z14):Option Z70:=cond (decide (s.2.2.1<s.2.1)) ((m0k s.1 s.2.2.1).bind fun x1=>(show Option Z35 from cond (decide (x1<(-1073741824))) (some (s.1,s.2.1,s.2.2.1,true,())) (some (s.1,s.2.1,s.2.2.1,decide (x1≥1073741824),()))).bind fun z2=>cond z2.2.2.2.1 (some (.inr (Sum.inr ((false,()))))) (some (.inl (z2.1,z2.2.1,wrap .i64 (z2.2.2.1+1),())))) (some (.inr (Sum.inl ())))
def a2E(x:LI):Option Bool:=(y0s a2J (x,(x.length:Int),0,())).bind fun w3=>match w3 with |.inl a4=>some true |.inr b5=>some b5.1
def a9U:FSem:=⟨[.v QL],[.v .bool],a2E⟩
def H91:Hints:=⟨[(26,[.sv 5 QL,6,7],[Qe 0 [],Qr [.sv 2 .bool]])],[(1689,[Qn [.sv 5 QL,6,7,.sv 16 .bool]])],[]⟩
def a6t(x:Int):Option Bool:=cond (x != 0) (some (x != 1)) (some false)
def b0Y:FSem:=⟨[.v QI],[.v .bool],a6t⟩
def a5C(s:Z14):Option Z70:=cond (decide (s.2.2.1<s.2.1)) ((m0k s.1 s.2.2.1).bind fun x2=>(show Option Z35 from cond (decide (x2<(-32768))) (some (s.1,s.2.1,s.2.2.1,true,())) (some (s.1,s.2.1,s.2.2.1,decide (x2≥32768),()))).bind fun z3=>cond z3.2.2.2.1 (some (.inr (Sum.inr ((false,()))))) (some (.inl (z3.1,z3.2.1,wrap .i64 (z3.2.2.1+1),())))) (some (.inr (Sum.inl ())))
def a4O(x:(LI×Int)):Option Bool:=(show Option (LI×(Bool×Unit))from cond (decide ((x.1.length:Int)<1)) (some (x.1,true,())) (cond (decide ((x.1.length:Int) > 32)) (some (x.1,true,())) (cond (decide (x.2<0)) (some (x.1,true,())) (some (x.1,decide (x.2 > 15),()))))).bind fun z1=>cond z1.2.1 (some false) ((y0s a5C (z1.1,(z1.1.length:Int),0,())).bind fun w4=>match w4 with |.inl a5=>some true |.inr b6=>some b6.1)
def b0Z:FSem:=⟨[.v QL,.v QI],[.v .bool],a4O⟩
def d6j:Hints:=⟨[(58,[.sv 23 QL,24,25],[Qe 0 [],Qr [.sv 4 .bool]])],[(6,[Qn [.sv 0 QL,.sv 22 .bool]]),(3737,[Qn [.sv 23 QL,24,25,.sv 34 .bool]])],[]⟩
def a7r(s:Z7):Option (Z7 ⊕ Z0):=cond (decide (s.2.1<3)) ((m0k s.1 s.2.1).bind fun x2=>(show Option Z18 from cond (decide (x2<(-64))) (some (s.1,s.2.1,true,())) (some (s.1,s.2.1,decide (x2 > 64),()))).bind fun z3=>cond z3.2.2.1 (some (.inr (Sum.inr ((false,()))))) (some (.inl (z3.1,wrap .i64 (z3.2.1+1),())))) (some (.inr (Sum.inl ())))
def a8P(x:(Int×LI)):Option Bool:=(show Option (Bool×(LI×Unit))from cond (decide (x.1<2)) (some (true,x.2,())) (some (decide (x.1 > 1024),x.2,()))).bind fun z1=>cond z1.1 (some false) ((y0s a7r (z1.2.1,0,())).bind fun w4=>match w4 with |.inl a5=>some true |.inr b6=>some b6.1)
def b3x:FSem:=⟨[.v QI,.v (.arr 3 QI)],[.v .bool],a8P⟩
def d6k:Hints:=⟨[(58,[.sv 13 (.arr 3 QI),14],[Qe 0 [],Qr [.sv 4 .bool]])],[(6,[Qn [.sv 12 .bool,.vp 3 (.arr 3 QI)]]),(3737,[Qn [.sv 13 (.arr 3 QI),14,.sv 22 .bool]])],[]⟩
def a7s(x:(Int×Int×Unit)):Option Bool:=cond (decide (x.1≥1)) (cond (decide (x.1≤32)) (cond (decide (x.2.1≥0)) (some (decide (x.2.1≤8))) (some false)) (some false)) (some false)
def b3e:FSem:=⟨[.v Q3],[.v .bool],a7s⟩
def a6u(s:(Z5×Int×Int×Unit)):Option ((Z5×Int×Int×Unit) ⊕ Z0):=cond (decide (s.2.2.1<s.2.1)) ((m0k s.1 s.2.2.1).bind fun x1=>(a7s x1).bind fun y2=>cond (!y2) (some (.inr (Sum.inr ((false,()))))) (some (.inl (s.1,s.2.1,wrap .i64 (s.2.2.1+1),())))) (some (.inr (Sum.inl ())))
def a7K(x:Z5):Option Bool:=cond (decide ((x.length:Int) > 3)) (some false) ((y0s a6u (x,(x.length:Int),0,())).bind fun w3=>match w3 with |.inl a4=>some true |.inr b5=>some b5.1)
def b2h:FSem:=⟨[.v (.list false Q3)],[.v .bool],a7K⟩
def d6l:Hints:=⟨[(58,[.sv 8 (.list false Q3),9,10],[Qe 0 [],Qr [.sv 2 .bool]])],[],[]⟩
def a8s(x:(Int×b5o)):Option Bool:=(show Option (Int×c3Q)from cond (x.1==0) (some (x.2.2,x.1,x.1==0,x.2.1,())) (some (x.2.2,x.1,x.1==1,x.2.1,()))).bind fun z1=>cond z1.2.2.1 (some true) (cond (z1.2.1==2) (cond (decide (z1.2.2.2.1.2.2.1≥0)) (cond (decide (z1.2.2.2.1.2.2.1≤4)) (some (decide (z1.2.2.2.1.2.2.1≤z1.1))) (some false)) (some false)) (cond (z1.2.1==3) ((a4O (z1.2.2.2.1.2.2.2.2.2.1,z1.2.2.2.1.2.2.2.1)).bind fun y2=>cond y2 (some (decide ((z1.2.2.2.1.2.2.2.2.2.1.length:Int)≤z1.1))) (some false)) (cond (z1.2.1==4) ((a4O (z1.2.2.2.1.2.2.2.2.2.1,z1.2.2.2.1.2.2.2.1)).bind fun y3=>cond y3 (cond (decide ((z1.2.2.2.1.2.2.2.2.2.1.length:Int)≤z1.1)) ((a8P (z1.2.2.2.1.2.2.2.2.1,z1.2.2.2.1.2.2.2.2.2.2.1)).bind fun y4=>some y4) (some false)) (some false)) (cond (z1.2.1==5) (cond (decide ((z1.2.2.2.1.2.2.2.2.2.2.2.1.length:Int) > 0)) ((a7K z1.2.2.2.1.2.2.2.2.2.2.2.1).bind fun y5=>some y5) (some false)) (some false)))))
def b4N:FSem:=⟨[.v QI,.v Q42,.v QI],[.v .bool],a8s⟩
def d6m:Hints:=⟨[],[(26,[Qn [2,7,.sv 8 .bool,.vp 4 Q42]])],[]⟩
def a4P(x:b5o):Option Int:=cond (x.1.1==0) (some 1) (cond (x.1.1==1) (some x.2) (cond (x.1.1==2) (some x.1.2.2.1) ((show Option d2J from cond (x.1.1==3) (some (x.1.1==3,x.1,())) (some (x.1.1==4,x.1,()))).bind fun z1=>cond z1.1 (some (z1.2.1.2.2.2.2.2.1.length:Int)) (some 0))))
def b1a:FSem:=⟨[.v Q42,.v QI],[.v QI],a4P⟩
def d6n:Hints:=⟨[],[(1727,[Qn [.sv 16 .bool,.vp 2 Q42]])],[]⟩
def a1g(x:LI):Option LI:=x0e x
def a1b:FSem:=⟨[.v QL],[.o QI],a1g⟩
def d2L:Cx:=b2Z [] [] [0,2] []
theorem d6o(x):A0j d2L QH Tryz.f65 a1b.ps a1b.rs x=a1b.F x:=Eq.trans (show _=w0u x by kernel_rfl) (A0x x)
def a2F(x:LI):Option LI:=x0e x
def a1v:FSem:=⟨[.v QL],[.v QL],a2F⟩
def d1f:Cx:=b2Z [] [] [0,2] []
theorem d4j(x):A0j d1f QH Tryz.f65 a1v.ps a1v.rs x=a1v.F x:=Eq.trans (show _=w0u x by kernel_rfl) (A0x x)
def a1q(x:Z5):Option Z5:=x0e x
def a1f:FSem:=⟨[.v (.list false Q3)],[.v (.list false Q3)],a1q⟩
def c8e:Cx:=b2Z [] [] [0,2] []
theorem d2M(x):A0j c8e QH Tryz.f170 a1f.ps a1f.rs x=a1f.F x:=Eq.trans (show _=w0u x by kernel_rfl) (A0x x)
def a6v(x:(Int×a2d)):Option a2d:=(show Option b2Y from(show Option ((a2d×b2Y) ⊕ (b2Y ⊕ (a2d×b2Y)))from cond (x.1==2) (some (Sum.inr (Sum.inl ((0,0,0,0,0,[],a02 3 0,[],[],(0,[],()),[],()),(x.1,0,x.2.2.2.1,0,0,[],a02 3 0,[],[],(0,[],()),[],()),())))) (cond (x.1==4) (some (Sum.inl ((0,0,0,0,0,[],a02 3 0,[],[],(0,[],()),[],()),(x.1,0,0,0,x.2.2.2.2.2.1,[],x.2.2.2.2.2.2.2.1,[],[],(0,[],()),[],()),x.2,()))) (cond (x.1==3) (some (Sum.inl ((0,0,0,0,0,[],a02 3 0,[],[],(0,[],()),[],()),(x.1,0,0,0,0,[],a02 3 0,[],[],(0,[],()),[],()),x.2,()))) (cond (x.1==5) (some (Sum.inr (Sum.inr (((0,0,0,0,0,[],a02 3 0,[],[],(0,[],()),[],()),(x.1,0,0,0,0,[],a02 3 0,[],[],(0,[],()),[],()),x.2,()))))) (some (Sum.inr (Sum.inl ((0,0,0,0,0,[],a02 3 0,[],[],(0,[],()),[],()),(x.1,0,0,0,0,[],a02 3 0,[],[],(0,[],()),[],()),())))))))).bind fun z1=>match z1 with |.inl a2=>((a2F a2.2.2.1.2.2.2.2.2.1).bind fun y4=>some (a2.1,(a2.2.1.1,a2.2.1.2.1,a2.2.1.2.2.1,a2.2.2.1.2.2.2.1,a2.2.1.2.2.2.2.1,y4,a2.2.1.2.2.2.2.2.2),())) |.inr b3=>(match b3 with |.inl a5=>some (a5.1,a5.2.1,()) |.inr b6=>((a1q b6.2.2.1.2.2.2.2.2.2.2.1).bind fun y7=>some (b6.1,(b6.2.1.1,b6.2.1.2.1,b6.2.1.2.2.1,b6.2.1.2.2.2.1,b6.2.1.2.2.2.2.1,b6.2.1.2.2.2.2.2.1,b6.2.1.2.2.2.2.2.2.1,y7,b6.2.1.2.2.2.2.2.2.2.2),())))).bind fun z8=>some z8.2.1
def b4b:FSem:=⟨[.v QI,.v Q42],[.v Q42],a6v⟩
def d6p:Hints:=⟨[],[(7,[Qn [.box 4 Q42,.box 5 Q42,Qp 4 4,Qp 5 5]]),(232,[Qn [.box 4 Q42,.box 5 Q42,.vp 3 Q42,Qp 4 4,Qp 5 5],Qe 0 [.box 4 Q42,.box 5 Q42,Qp 4 4,Qp 5 5],Qe 4 [.box 4 Q42,.box 5 Q42,.vp 3 Q42,Qp 4 4,Qp 5 5]])],[(8,[.v,.v,.v,.v,.q,.w [0,5],.x,.x]),(9,[.v,.v,.v,.v,.v,.q,.w [0,5],.x,.x])]⟩
def b2i(x:a2d):Option Bool:=(a6v (x.1,x)).bind fun y1=>cond (x.2.2.1==y1.2.2.1) (cond (x.2.2.2.1==y1.2.2.2.1) (cond (x.2.2.2.2.1==y1.2.2.2.2.1) (cond (eqT (.arr 3 (.int .i64)) x.2.2.2.2.2.2.1 y1.2.2.2.2.2.2.1) (cond ((x.2.2.2.2.2.1.length:Int)==(y1.2.2.2.2.2.1.length:Int)) (some ((x.2.2.2.2.2.2.2.1.length:Int)==(y1.2.2.2.2.2.2.2.1.length:Int))) (some false)) (some false)) (some false)) (some false)) (some false)
def b8I:FSem:=⟨[.v Q42],[.v .bool],b2i⟩
def a7L(x:(Int×Int)):Option Bool:=cond (decide (1≤x.1)) (cond (decide (x.1≤4096)) (cond (decide (0≤x.2)) (some (decide (x.2≤x.1))) (some false)) (some false)) (some false)
def b2j:FSem:=⟨[.v QI,.v QI],[.v .bool],a7L⟩
def a6U(s:Z16):Option (Z16 ⊕ (LI×Unit)):=cond (decide (s.1<0)) none (cond (decide ((s.2.2.1.length:Int)<(A0n .i64 1 s.1))) (cond (lim ((a01 s.2.2.1)+1)) (some (.inl (s.1,s.2.1,a03 s.2.2.1 [s.2.1],()))) none) (some (.inr (s.2.2.1,()))))
def a3g(x:(Int×Int×Int)):Option LI:=(show Option Z23 from(a7L (x.2.1,x.2.2)).bind fun y1=>cond (!y1) (some (x.1,x.2.1,x.2.2,true,())) (cond (decide (x.1<0)) (some (x.1,x.2.1,x.2.2,true,())) (some (x.1,x.2.1,x.2.2,decide (x.1 > 8),())))).bind fun z2=>cond z2.2.2.2.1 (some []) (cond (decide (z2.1<0)) none ((show Option Z23 from cond (decide (z2.1<0)) none (cond ((A0n .i64 (A0o .i64 z2.2.1 z2.1) z2.1) != z2.2.1) (some (z2.1,z2.2.2.1,A0o .i64 z2.2.1 z2.1,true,())) (some (z2.1,z2.2.2.1,A0o .i64 z2.2.1 z2.1,decide ((A0o .i64 z2.2.1 z2.1)<z2.2.2.1),())))).bind fun z3=>cond z3.2.2.2.1 (some []) ((y0s a6U (z3.1,z3.2.2.1,[wrap .i64 (z3.2.2.1-z3.2.1)],())).bind fun w4=>some w4.1)))
def a5q:FSem:=⟨[.v QI,.v QI,.v QI],[.o QI],a3g⟩
def d6q:Hints:=⟨[(252,[0,7,.own 8 8 QI],[Qe 0 [.own 8 8 QI]])],[(6,[Qn [0,1,2,.sv 20 .bool]]),(30,[Qn [0,2,7,.sv 33 .bool]])],[]⟩
def a4E(s:Z14):Option Z70:=cond (decide (s.2.2.1<s.2.1)) ((m0k s.1 s.2.2.1).bind fun x3=>(show Option Z35 from cond (decide (x3<0)) (some (s.1,s.2.1,s.2.2.1,x3 != 31,())) (cond (decide (x3 > 25)) (some (s.1,s.2.1,s.2.2.1,x3 != 31,())) (some (s.1,s.2.1,s.2.2.1,false,())))).bind fun z4=>cond z4.2.2.2.1 (some (.inr (Sum.inr ((false,()))))) (some (.inl (z4.1,z4.2.1,wrap .i64 (z4.2.2.1+1),())))) (some (.inr (Sum.inl ())))
def a9D(x:(Z6×Int×Int)):Option Bool:=(a3g (x.1.1,x.2.1,x.2.2)).bind fun y1=>(show Option (Bool×Z19)from cond ((y1.length:Int)==0) (some (true,x.1,())) (some ((x.1.2.1.length:Int) != (y1.length:Int),x.1,()))).bind fun z2=>cond z2.1 (some false) ((y0s a4E (z2.2.1.2.1,(z2.2.1.2.1.length:Int),0,())).bind fun w5=>match w5 with |.inl a6=>some true |.inr b7=>some b7.1)
def b5s:FSem:=⟨[.v Q11,.v QI,.v QI],[.v .bool],a9D⟩
def d6r:Hints:=⟨[(122,[.sv 27 QL,28,29],[Qe 0 [],Qr [.sv 6 .bool]])],[(14,[Qn [.sv 25 .bool,.vp 3 Q11]]),(7833,[Qn [.sv 27 QL,28,29,.sv 42 .bool]])],[]⟩
def b1b(x:b5o):Option Bool:=(show Option c3Q from cond (decide (x.2<1)) (some (x.2,true,x.1,())) (cond (decide (x.2 > 4096)) (some (x.2,true,x.1,())) ((a8s (x.1.1,x.1,x.2)).bind fun y1=>cond (!y1) (some (x.2,true,x.1,())) ((b2i x.1).bind fun y2=>some (x.2,!y2,x.1,()))))).bind fun z3=>cond z3.2.1 (some false) ((show Option c3Q from cond (decide (z3.2.2.1.2.1<0)) (some (z3.1,true,z3.2.2.1,())) (cond (decide (z3.2.2.1.2.1 > 30)) (some (z3.1,true,z3.2.2.1,())) (cond (z3.2.2.1.1==0) (some (z3.1,z3.2.2.1.2.1 != 0,z3.2.2.1,())) (some (z3.1,false,z3.2.2.1,()))))).bind fun z4=>cond z4.2.1 (some false) ((a4P (z4.2.2.1,z4.1)).bind fun y5=>(show Option (Int×c3Q)from cond ((z4.2.2.1.2.2.2.2.2.2.2.2.1.length:Int) != y5) (some (z4.1,y5,true,z4.2.2.1,())) ((a2E z4.2.2.1.2.2.2.2.2.2.2.2.1).bind fun y6=>cond (!y6) (some (z4.1,y5,true,z4.2.2.1,())) ((a2E z4.2.2.1.2.2.2.2.2.2.2.2.2.2.1).bind fun y7=>some (z4.1,y5,!y7,z4.2.2.1,())))).bind fun z8=>cond z8.2.2.1 (some false) ((a6t z8.2.2.2.1.1).bind fun y9=>cond (!y9) (cond ((z8.2.2.2.1.2.2.2.2.2.2.2.2.2.2.1.length:Int)==0) (cond (z8.2.2.2.1.2.2.2.2.2.2.2.2.2.1.1==0) (some ((z8.2.2.2.1.2.2.2.2.2.2.2.2.2.1.2.1.length:Int)==0)) (some false)) (some false)) (cond ((z8.2.2.2.1.2.2.2.2.2.2.2.2.2.2.1.length:Int)==(wrap .i64 (z8.1-z8.2.1))) ((a9D (z8.2.2.2.1.2.2.2.2.2.2.2.2.2.1,z8.1,z8.2.1)).bind fun y10=>some y10) (some false)))))
def b7I:FSem:=⟨[.v Q42,.v QI],[.v .bool],b1b⟩
def d6s:Hints:=⟨[],[(6,[Qn [1,.sv 24 .bool,.vp 2 Q42]]),(14,[Qn [1,.sv 42 .bool,.vp 2 Q42]]),(62,[Qn [1,5,.sv 62 .bool,.vp 2 Q42]])],[]⟩
def b4O(s:Z14):Option Z70:=cond (decide (s.2.2.1<s.2.1)) ((m0k s.1 s.2.2.1).bind fun x1=>(show Option Z35 from cond (decide (x1<(-1073741824))) (some (s.1,s.2.1,s.2.2.1,true,())) (some (s.1,s.2.1,s.2.2.1,decide (x1≥1073741824),()))).bind fun z2=>cond z2.2.2.2.1 (some (.inr (Sum.inr ((false,()))))) (some (.inl (z2.1,z2.2.1,wrap .i64 (z2.2.2.1+1),())))) (some (.inr (Sum.inl ())))
def a2S(x:LI):Option Bool:=(y0s b4O (x,(x.length:Int),0,())).bind fun w3=>match w3 with |.inl a4=>some true |.inr b5=>some b5.1
def b4c:FSem:=⟨[.v QL],[.v .bool],a2S⟩
def d6t:Hints:=⟨[(26,[.sv 5 QL,6,7],[Qe 0 [],Qr [.sv 2 .bool]])],[(1689,[Qn [.sv 5 QL,6,7,.sv 16 .bool]])],[]⟩
def a1m(x:(Int×LI)):Option (Int×LI):=(m0k x.2 (wrap .i64 ((x.2.length:Int)-x.1))).bind fun x1=>some (x1,x.2)
def b4P:FSem:=⟨[.v QI,.r false (.b QL)],[.v QI],a1m⟩
def a9V(x:(LI×Int)):Option Int:=cond (x.2==1) ((a1m (1,x.1)).bind fun y1=>some y1.1) (cond (x.2==2) ((a1m (1,x.1)).bind fun y2=>(a1m (2,y2.2)).bind fun y3=>some (wrap .i64 ((wrap .i64 (2*y2.1))-y3.1))) (cond (x.2==3) ((a1m (1,x.1)).bind fun y4=>(a1m (2,y4.2)).bind fun y5=>(a1m (3,y5.2)).bind fun y6=>some (wrap .i64 ((wrap .i64 ((wrap .i64 (3*y4.1))-(wrap .i64 (3*y5.1))))+y6.1))) (cond (x.2==4) ((a1m (1,x.1)).bind fun y7=>(a1m (2,y7.2)).bind fun y8=>(a1m (3,y8.2)).bind fun y9=>(a1m (4,y9.2)).bind fun y10=>some (wrap .i64 ((wrap .i64 ((wrap .i64 ((wrap .i64 (4*y7.1))-(wrap .i64 (6*y8.1))))+(wrap .i64 (4*y9.1))))-y10.1))) (some 0))))
def b7j:FSem:=⟨[.v QL,.v QI],[.v QI],a9V⟩
def a8b(s:Z60):Option (Z60 ⊕ Z50):=cond (decide (s.2.2.2.1<s.2.2.1)) ((m0k s.2.1 s.2.2.2.1).bind fun x5=>(a9V (s.2.2.2.2.1,s.1)).bind fun y6=>(a2S [wrap .i64 (x5+y6)]).bind fun y7=>cond (!y7) (some (.inr (Sum.inr ((6,[],()))))) (cond (lim ((a01 s.2.2.2.2.1)+1)) (some (.inl (s.1,s.2.1,s.2.2.1,wrap .i64 (s.2.2.2.1+1),a03 s.2.2.2.2.1 [wrap .i64 (x5+y6)],()))) none)) (some (.inr (Sum.inl (s.2.2.2.2.1,()))))
def b1c(x:Z11):Option (LI×Int):=(show Option Z51 from cond (decide (x.2.2<0)) (some (x.1,x.2.1,x.2.2,true,())) (cond (decide (x.2.2 > 4)) (some (x.1,x.2.1,x.2.2,true,())) (some (x.1,x.2.1,x.2.2,(x.1.length:Int) != x.2.2,())))).bind fun z1=>cond z1.2.2.2.1 (some ([],1)) ((show Option Z51 from(a2S z1.1).bind fun y2=>cond (!y2) (some (z1.1,z1.2.1,z1.2.2.1,true,())) ((a2S z1.2.1).bind fun y3=>some (z1.1,z1.2.1,z1.2.2.1,!y3,()))).bind fun z4=>cond z4.2.2.2.1 (some ([],6)) (cond (lim (a01 z4.1)) ((y0s a8b (z4.2.2.1,z4.2.1,(z4.2.1.length:Int),0,z4.1,())).bind fun w8=>match w8 with |.inl a9=>some (a9.1,0) |.inr b10=>some (b10.2.1,b10.1)) none))
def b7J:FSem:=⟨[.v QL,.v QL,.v QI],[.o QI,.v QI],b1c⟩
def d6u:Hints:=⟨[(250,[2,.sv 34 QL,35,36,.own 8 8 QI],[Qe 0 [.own 8 8 QI],Qr [7,.own 6 6 QI]])],[(6,[Qn [.sv 0 QL,.sv 1 QL,2,.sv 23 .bool]]),(14,[Qn [.sv 0 QL,.sv 1 QL,2,.sv 31 .bool]])],[]⟩
def a5r(x:Int):Option Bool:=cond (decide (x≥(-1073741824))) (some (decide (x<1073741824))) (some false)
def a9W:FSem:=⟨[.v QI],[.v .bool],a5r⟩
def a3k(s:Z14):Option Z70:=cond (decide (s.2.2.1<s.2.1)) ((m0k s.1 s.2.2.1).bind fun x1=>(a5r x1).bind fun y2=>cond (!y2) (some (.inr (Sum.inr ((false,()))))) (some (.inl (s.1,s.2.1,wrap .i64 (s.2.2.1+1),())))) (some (.inr (Sum.inl ())))
def a2K(x:LI):Option Bool:=(y0s a3k (x,(x.length:Int),0,())).bind fun w3=>match w3 with |.inl a4=>some true |.inr b5=>some b5.1
def a6V:FSem:=⟨[.v QL],[.v .bool],a2K⟩
def d6v:Hints:=⟨[(26,[.sv 5 QL,6,7],[Qe 0 [],Qr [.sv 2 .bool]])],[],[]⟩
def a3l(s:Z74):Option (Z74 ⊕ (Int×Int×Unit)):=cond (decide (s.2.2.2.2.2.1<s.2.2.2.2.1)) ((m0k s.2.2.2.1 s.2.2.2.2.2.1).bind fun x1=>cond (decide ((wrap .i64 ((wrap .i64 ((s.1.length:Int)-1))-s.2.2.2.2.2.1))<0)) (some (.inr (s.2.1,s.2.2.1,()))) ((m0k s.1 (wrap .i64 ((wrap .i64 ((s.1.length:Int)-1))-s.2.2.2.2.2.1))).bind fun x2=>some (.inl (s.1,s.2.1,wrap .i64 (s.2.2.1+(wrap .i64 (x1*x2))),s.2.2.2.1,s.2.2.2.2.1,wrap .i64 (s.2.2.2.2.2.1+1),())))) (some (.inr (s.2.1,s.2.2.1,())))
def a4Q(x:Z11):Option Int:=(y0s a3l (x.1,x.2.2,0,x.2.1,(x.2.1.length:Int),0,())).bind fun w3=>cond (decide (w3.1<0)) none (some (A0o .i64 w3.2.1 w3.1))
def b0K:FSem:=⟨[.v QL,.v QL,.v QI],[.v QI],a4Q⟩
def d6w:Hints:=⟨[(58,[.sv 0 QL,2,7,.sv 11 QL,12,13],[Qe 0 [2,7]])],[],[]⟩
def a6W(s:(LI×Z60)):Option ((LI×Z60) ⊕ Z50):=cond (decide (s.2.2.2.2.1<s.2.2.2.1)) ((m0k s.2.2.1 s.2.2.2.2.1).bind fun x6=>(a4Q (s.2.2.2.2.2.1,s.1,s.2.1)).bind fun y7=>(a5r (wrap .i64 (y7+x6))).bind fun y8=>cond (!y8) (some (.inr (Sum.inr ((6,[],()))))) (cond (lim ((a01 s.2.2.2.2.2.1)+1)) (some (.inl (s.1,s.2.1,s.2.2.1,s.2.2.2.1,wrap .i64 (s.2.2.2.2.1+1),a03 s.2.2.2.2.2.1 [wrap .i64 (y7+x6)],()))) none)) (some (.inr (Sum.inl (s.2.2.2.2.2.1,()))))
def a7t(x:(LI×Z11)):Option (LI×Int):=(show Option (LI×Z51)from(a4O (x.2.2.1,x.2.2.2)).bind fun y1=>cond (!y1) (some (x.1,x.2.1,x.2.2.1,x.2.2.2,true,())) (some (x.1,x.2.1,x.2.2.1,x.2.2.2,(x.1.length:Int) != (x.2.2.1.length:Int),()))).bind fun z2=>cond z2.2.2.2.2.1 (some ([],1)) ((show Option (LI×Z51)from(a2K z2.1).bind fun y3=>cond (!y3) (some (z2.1,z2.2.1,z2.2.2.1,z2.2.2.2.1,true,())) ((a2K z2.2.1).bind fun y4=>some (z2.1,z2.2.1,z2.2.2.1,z2.2.2.2.1,!y4,()))).bind fun z5=>cond z5.2.2.2.2.1 (some ([],6)) (cond ((decide (0≤(wrap .i64 ((z5.1.length:Int)+(z5.2.1.length:Int)))))&&(lim (a00 (wrap .i64 ((z5.1.length:Int)+(z5.2.1.length:Int)))))) (cond (lim (0+(a01 z5.1))) ((y0s a6W (z5.2.2.1,z5.2.2.2.1,z5.2.1,(z5.2.1.length:Int),0,a03 [] z5.1,())).bind fun w9=>match w9 with |.inl a10=>some (a10.1,0) |.inr b11=>some (b11.2.1,b11.1)) none) none))
def b7k:FSem:=⟨[.v QL,.v QL,.v QL,.v QI],[.o QI,.v QI],a7t⟩
def d6x:Hints:=⟨[(506,[.sv 2 QL,3,.sv 42 QL,43,44,.own 10 10 QI],[Qe 0 [.own 10 10 QI],Qr [9,.own 8 8 QI]])],[(6,[Qn [.sv 0 QL,.sv 1 QL,.sv 2 QL,3,.sv 24 .bool]]),(14,[Qn [.sv 0 QL,.sv 1 QL,.sv 2 QL,3,.sv 32 .bool]])],[]⟩
def a7M(x:Int):Option Bool:=cond (decide (x≥(-1073741824))) (some (decide (x<1073741824))) (some false)
def b2k:FSem:=⟨[.v QI],[.v .bool],a7M⟩
def a4j(s:Z14):Option Z70:=cond (decide (s.2.2.1<s.2.1)) ((m0k s.1 s.2.2.1).bind fun x1=>(a7M x1).bind fun y2=>cond (!y2) (some (.inr (Sum.inr ((false,()))))) (some (.inl (s.1,s.2.1,wrap .i64 (s.2.2.1+1),())))) (some (.inr (Sum.inl ())))
def a4F(x:LI):Option Bool:=(y0s a4j (x,(x.length:Int),0,())).bind fun w3=>match w3 with |.inl a4=>some true |.inr b5=>some b5.1
def a8Q:FSem:=⟨[.v QL],[.v .bool],a4F⟩
def d6y:Hints:=⟨[(26,[.sv 5 QL,6,7],[Qe 0 [],Qr [.sv 2 .bool]])],[],[]⟩
def a4k(s:(LI×(Int×Int×Z17))):Option ((LI×(Int×Int×Z17)) ⊕ (Int×Unit)):=cond (decide (s.2.2.2.2.2.1<3)) ((m0k s.2.2.2.2.1 s.2.2.2.2.2.1).bind fun x1=>cond (decide ((wrap .i64 ((wrap .i64 ((wrap .i64 (s.2.1-s.2.2.1))-1))+s.2.2.2.2.2.1))≥0)) ((m0k s.1 (wrap .i64 ((wrap .i64 ((wrap .i64 (s.2.1-s.2.2.1))-1))+s.2.2.2.2.2.1))).bind fun x2=>some (.inl (s.1,s.2.1,s.2.2.1,wrap .i64 (s.2.2.2.1+(wrap .i64 (x1*x2))),s.2.2.2.2.1,wrap .i64 (s.2.2.2.2.2.1+1),()))) (some (.inl (s.1,s.2.1,s.2.2.1,s.2.2.2.1,s.2.2.2.2.1,wrap .i64 (s.2.2.2.2.2.1+1),())))) (some (.inr (s.2.2.2.1,())))
def a4G(x:(LI×Z3)):Option Int:=(y0s a4k (x.1,x.2.1,x.2.2.1,0,x.2.2.2,0,())).bind fun w3=>some (A0o .i64 w3.1 6)
def b1M:FSem:=⟨[.v QL,.v QI,.v QI,.v (.arr 3 QI)],[.v QI],a4G⟩
def d6z:Hints:=⟨[(58,[.sv 0 QL,1,2,9,.sv 13 (.arr 3 QI),14],[Qe 0 [9]])],[],[]⟩
def a8R(s:Z85):Option (Z85 ⊕ Z50):=cond (decide (s.2.2.2.1<s.2.2.1)) ((m0k s.2.1 s.2.2.2.1).bind fun x3=>(a4G (s.2.2.2.2.1,s.2.2.2.1,s.1,s.2.2.2.2.2.1)).bind fun y4=>(a7M (wrap .i64 (x3+y4))).bind fun y5=>cond (!y5) (some (.inr (Sum.inr ((6,[],()))))) (cond (lim ((a01 s.2.2.2.2.1)+1)) (some (.inl (s.1,s.2.1,s.2.2.1,wrap .i64 (s.2.2.2.1+1),a03 s.2.2.2.2.1 [wrap .i64 (x3+y4)],s.2.2.2.2.2.1,()))) none)) (some (.inr (Sum.inl (s.2.2.2.2.1,()))))
def b2l(x:(LI×(Int×LI))):Option (LI×Int):=(a8P (x.2.1,x.2.2)).bind fun y1=>cond (!y1) (some ([],1)) ((a4F x.1).bind fun y2=>cond (!y2) (some ([],6)) (cond ((decide (0≤(x.1.length:Int)))&&(lim (a00 (x.1.length:Int)))) ((y0s a8R (x.2.1,x.1,(x.1.length:Int),0,[],x.2.2,())).bind fun w6=>match w6 with |.inl a7=>some (a7.1,0) |.inr b8=>some (b8.2.1,b8.1)) none))
def b8J:FSem:=⟨[.v QL,.v QI,.v (.arr 3 QI)],[.o QI,.v QI],b2l⟩
def d6A:Hints:=⟨[(250,[1,.sv 22 QL,23,24,.own 8 8 QI,.vp 5 (.arr 3 QI)],[Qe 0 [.own 8 8 QI],Qr [7,.own 6 6 QI]])],[],[]⟩
def a6w(x:Int):Option Bool:=cond (decide (x≥(-1073741824))) (some (decide (x<1073741824))) (some false)
def b1d:FSem:=⟨[.v QI],[.v .bool],a6w⟩
def a3I(s:Z14):Option Z70:=cond (decide (s.2.2.1<s.2.1)) ((m0k s.1 s.2.2.1).bind fun x1=>(a6w x1).bind fun y2=>cond (!y2) (some (.inr (Sum.inr ((false,()))))) (some (.inl (s.1,s.2.1,wrap .i64 (s.2.2.1+1),())))) (some (.inr (Sum.inl ())))
def a5D(x:LI):Option Bool:=(y0s a3I (x,(x.length:Int),0,())).bind fun w3=>match w3 with |.inl a4=>some true |.inr b5=>some b5.1
def b1e:FSem:=⟨[.v QL],[.v .bool],a5D⟩
def d6B:Hints:=⟨[(26,[.sv 5 QL,6,7],[Qe 0 [],Qr [.sv 2 .bool]])],[],[]⟩
def a9E(x:(Int×Int×Unit)):Option (Z25×Int):=(a7s x).bind fun y1=>cond (!y1) none (cond ((decide (0≤x.1))&&((decide (x.1≤x.1))&&(lim (a00 x.1)))) (cond ((decide (0≤x.1))&&((decide (x.1≤x.1))&&(lim (a00 x.1)))) (some ((x.2.1,a02 (a00 x.1) 0,a02 (a00 x.1) 0,()),0)) none) none)
def b5t:FSem:=⟨[.v Q3],[.b Q17,.v QI],a9E⟩
def d6C:Hints:=⟨[],[],[(3,[.v,.v,.v,.v,.q,.v,.v,.q,.x,.x,.x,.x])]⟩
def a5E(x:Int):Option Int:=some (v0s (v0r x (-1073741824)) 1073741823)
def b1f:FSem:=⟨[.v QI],[.v QI],a5E⟩
def a3j(s:Z89):Option (Z89 ⊕ Z65):=cond (decide (s.2.2.1<s.2.1)) (cond ((decide (0≤s.2.2.1))&&(decide (s.2.2.1<(s.2.2.2.1.2.1.length:Int)))) (cond ((decide (0≤s.2.2.1))&&(decide (s.2.2.1<(s.2.2.2.1.2.2.1.length:Int)))) (some (.inl (wrap .i64 (s.1+(wrap .i64 ((a04 s.2.2.2.1.2.1 (a00 s.2.2.1) 0)*(a04 s.2.2.2.1.2.2.1 (a00 s.2.2.1) 0)))),s.2.1,wrap .i64 (s.2.2.1+1),s.2.2.2.1,()))) none) none) (some (.inr (s.1,s.2.2.2.1,())))
def a2e(x:Z25):Option Z44:=(y0s a3j (0,(x.2.1.length:Int),0,x,())).bind fun w1=>(a5E (A0o .i64 w1.1 16)).bind fun y2=>some (y2,w1.2.1)
def a4o:FSem:=⟨[.r false (.b Q17)],[.v QI],a2e⟩
def d6D:Hints:=⟨[(58,[3,10,11,.box pinned Q17,Qp 0 pinned,.ref 9 pinned [.snd,.fst]],[Qe 0 [3,.box pinned Q17]])],[],[]⟩
def a2A(s:(Int×Z89)):Option ((Int×Z89) ⊕ Z65):=cond (decide (s.2.2.2.1<s.2.2.1)) (cond ((decide (0≤s.2.2.2.1))&&(decide (s.2.2.2.1<(s.2.2.2.2.1.2.2.1.length:Int)))) (cond ((decide (0≤s.2.2.2.1))&&(decide (s.2.2.2.1<(s.2.2.2.2.1.2.1.length:Int)))) ((show Option (Int×Int×Int×Z89)from cond (decide ((a04 s.2.2.2.2.1.2.2.1 (a00 s.2.2.2.1) 0) > 0)) (some (s.1,s.2.1,s.2.2.2.1,wrap .i64 ((a04 s.2.2.2.2.1.2.1 (a00 s.2.2.2.1) 0)+s.2.1),s.2.2.1,s.2.2.2.1,s.2.2.2.2.1,())) (cond (decide ((a04 s.2.2.2.2.1.2.2.1 (a00 s.2.2.2.1) 0)<0)) (some (s.1,s.2.1,s.2.2.2.1,wrap .i64 ((a04 s.2.2.2.2.1.2.1 (a00 s.2.2.2.1) 0)-s.2.1),s.2.2.1,s.2.2.2.1,s.2.2.2.2.1,())) (some (s.1,s.2.1,s.2.2.2.1,a04 s.2.2.2.2.1.2.1 (a00 s.2.2.2.1) 0,s.2.2.1,s.2.2.2.1,s.2.2.2.2.1,())))).bind fun z4=>cond ((decide (0≤z4.2.2.1))&&(decide (z4.2.2.1<(z4.2.2.2.2.2.2.1.2.1.length:Int)))) (some (.inl (z4.1,z4.2.1,z4.2.2.2.2.1,wrap .i64 (z4.2.2.2.2.2.1+1),(z4.2.2.2.2.2.2.1.1,a18 z4.2.2.2.2.2.2.1.2.1 (a00 z4.2.2.1) (v0s (v0r z4.2.2.2.1 (-1048576)) 1048576),z4.2.2.2.2.2.2.1.2.2),()))) none) none) none) (some (.inr (s.1,s.2.2.2.2.1,())))
def a3m(x:(Z25×Int)):Option Z25:=(a5E x.2).bind fun y1=>(show Option Z79 from(a2e x.1).bind fun y2=>cond (decide (y1 > y2.1)) (cond (decide (y2.2.1<0)) none (some (y1,A0n .i64 1 y2.2.1,y2.2,()))) (cond (decide (y1<y2.1)) (cond (decide (y2.2.1<0)) none (some (y1,wrap .i64 (0-(A0n .i64 1 y2.2.1)),y2.2,()))) (some (y1,0,y2.2,())))).bind fun z3=>(y0s a2A (z3.1,z3.2.1,(z3.2.2.1.2.2.1.length:Int),0,z3.2.2.1,())).bind fun w5=>cond (decide (1≤(w5.2.1.2.2.1.length:Int))) (cond (decide (0<(a01 (p0h w5.2.1.2.2.1 1 ((a01 w5.2.1.2.2.1)-1) w5.2.1.2.2.1):Int))) (some (w5.2.1.1,w5.2.1.2.1,a18 (p0h w5.2.1.2.2.1 1 ((a01 w5.2.1.2.2.1)-1) w5.2.1.2.2.1) 0 w5.1,w5.2.1.2.2.2)) none) none
def a7X:FSem:=⟨[.r false (.b Q17),.v QI],[],a3m⟩
def d6E:Hints:=⟨[(122,[1,4,36,37,.box pinned Q17,Qp 0 pinned,.ref 35 pinned [.snd,.snd,.fst]],[Qe 1 [1,.box pinned Q17,Qp 0 pinned]])],[(7,[Qn [1,4,.box pinned Q17,Qp 0 pinned]]),(15667,[Qn [1,4,6,8,36,37,.box pinned Q17,Qp 0 pinned,.ref 35 pinned [.snd,.snd,.fst]]])],[(17,[.p,.p,.q,.q,.q,.p,.p,.q,.q,.x])]⟩
def a5F(s:(Int×(Int×(LI×Z86)))):Option ((Int×(Int×(LI×Z86))) ⊕ (Z26 ⊕ Z26)):=cond (decide (s.2.1<s.1)) (cond ((decide (0≤s.2.1))&&(decide (s.2.1<(s.2.2.2.2.1.length:Int)))) ((a2e s.2.2.2.2.2.1).bind fun y6=>(a6w (wrap .i64 (y6.1+(a04 s.2.2.2.2.1 (a00 s.2.1) 0)))).bind fun y7=>cond (!y7) (some (.inr (Sum.inr (([],6,s.2.2.2.2.1,()))))) ((a3m (y6.2,wrap .i64 (y6.1+(a04 s.2.2.2.2.1 (a00 s.2.1) 0)))).bind fun y8=>cond ((decide (0≤s.2.1))&&(decide (s.2.1<(s.2.2.2.2.1.length:Int)))) (some (.inl (s.1,wrap .i64 (s.2.1+1),s.2.2.1,s.2.2.2.1,a18 s.2.2.2.2.1 (a00 s.2.1) (wrap .i64 (y6.1+(a04 s.2.2.2.2.1 (a00 s.2.1) 0))),y8,()))) none)) none) (some (.inr (Sum.inl (s.2.2.1,s.2.2.2.1,s.2.2.2.2.1,()))))
def a8c(k:Int)(v:(Int×Int×Unit))(s:(Z5×Z26)):Option ((Z5×Z26) ⊕ (Ex×Z5×Z26)):=(a9E v).bind fun y4=>cond (y4.2 != 0) (some (.inr (.ret,s.1,[],y4.2,s.2.2.2.1,()))) ((y0s a5F ((s.2.2.2.1.length:Int),0,s.2.1,s.2.2.1,s.2.2.2.1,y4.1,())).bind fun w9=>match w9 with |.inl a10=>some (.inl (s.1,a10.1,a10.2.1,a10.2.2.1,())) |.inr b11=>some (.inr (.ret,s.1,b11.1,b11.2.1,b11.2.2.1,())))
def b1g(x:(LI×Z5)):Option (LI×Int):=(a7K x.2).bind fun y1=>cond (!y1) (some ([],1)) ((a5D x.1).bind fun y2=>cond (!y2) (some ([],6)) ((a1g x.1).bind fun y3=>cond (lim (a01 x.2)) ((l0f a8c x.2 (a01 x.2) (x.2,[],0,y3,())).bind fun w12=>match w12 with |.inl a13=>some (a13.2.2.2.1,0) |.inr (.normal,a14)=>some (a14.2.2.2.1,0) |.inr (.exit e15,a14)=>(cond (e15==0) (some (a14.2.2.2.1,0)) none) |.inr (.ret,a14)=>some (a14.2.1,a14.2.2.1)) none))
def a8t:FSem:=⟨[.v QL,.v (.list false Q3)],[.v QL,.v QI],b1g⟩
def d6F:Hints:=⟨[(8046,[35,36,.box 1001004 QL,.box 1001005 QI,.box 1001006 (.list true QI),.box 1028 Q17,Qp 4 1001004,Qp 5 1001005,Qp 6 1001006,Qp 9 1028,.ref 34 1001006 []],[Qe 2 [.box 1001004 QL,.box 1001005 QI,.box 1001006 (.list true QI),Qp 4 1001004,Qp 5 1001005,Qp 6 1001006],Qr [.box 1001004 QL,.box 1001005 QI,.box 1001006 (.list true QI),Qp 4 1001004,Qp 5 1001005,Qp 6 1001006]])],[],[]⟩
def d1g:Cx:=b2Z [(65,a1b),(150,b2h),(191,b1e),(193,b5t),(194,a4o),(195,b1d),(196,a7X)] [(6,.list true QI)] [0,1,9,10,11,12,13] [56]
def d2N:HintR:=⟨22,Q3,192,206,[4,5,6],[.sv 22 (.list false Q3),.box 1001004 QL,.box 1001005 QI,.box 1001006 (.list true QI),.ptr 4 1001004 [],.ptr 5 1001005 [],.ptr 6 1001006 []]⟩
theorem d4k(x):z0h d1g d6F d2N Tryz.f158 a8t.ps a8t.rs x=a8t.F x:=by kernel_rfl
def a5s(x:Int):Option Bool:=cond (decide ((-1073741824)≤x)) (some (decide (x<1073741824))) (some false)
def b3f:FSem:=⟨[.v QI],[.v .bool],a5s⟩
def a8S(s:Z60):Option (Z60 ⊕ Z50):=cond (decide (s.2.2.2.1<s.2.2.1)) ((m0k s.2.1 s.2.2.2.1).bind fun x2=>(show Option (Int×(Int×(LI×(Int×(Int×(Bool×(LI×Unit)))))))from(a5s x2).bind fun y3=>cond (!y3) (some (s.1,x2,s.2.1,s.2.2.1,s.2.2.2.1,true,s.2.2.2.2.1,())) (cond (decide (s.1<0)) none ((a5s (A0n .i64 x2 s.1)).bind fun y4=>some (s.1,x2,s.2.1,s.2.2.1,s.2.2.2.1,!y4,s.2.2.2.2.1,())))).bind fun z5=>cond z5.2.2.2.2.2.1 (some (.inr (Sum.inr ((6,[],()))))) (cond (decide (z5.1<0)) none (cond (lim ((a01 z5.2.2.2.2.2.2.1)+1)) (some (.inl (z5.1,z5.2.2.1,z5.2.2.2.1,wrap .i64 (z5.2.2.2.2.1+1),a03 z5.2.2.2.2.2.2.1 [A0n .i64 z5.2.1 z5.1],()))) none))) (some (.inr (Sum.inl (s.2.2.2.2.1,()))))
def a9F(x:(LI×Int)):Option (LI×Int):=(show Option Z18 from cond (decide (x.2<0)) (some (x.1,x.2,true,())) (some (x.1,x.2,decide (x.2 > 30),()))).bind fun z1=>cond z1.2.2.1 (some ([],1)) ((y0s a8S (z1.2.1,z1.1,(z1.1.length:Int),0,[],())).bind fun w6=>match w6 with |.inl a7=>some (a7.1,0) |.inr b8=>some (b8.2.1,b8.1))
def b8K:FSem:=⟨[.v QL,.v QI],[.o QI,.v QI],a9F⟩
def d6G:Hints:=⟨[(122,[1,.sv 15 QL,16,17,.own 6 6 QI],[Qe 0 [.own 6 6 QI],Qr [5,.own 4 4 QI]])],[(6,[Qn [.sv 0 QL,1,.sv 14 .bool]]),(15666,[Qn [1,8,.sv 15 QL,16,17,.sv 30 .bool,.own 6 6 QI]])],[]⟩
def a7u(s:(Int×(Int×(LI×b6r)))):Option ((Int×(Int×(LI×b6r))) ⊕ (LI×Unit)):=cond (decide (s.2.1<s.1)) ((m0k s.2.2.2.1.2.2.2.2.2.2.2.2.1 0).bind fun x1=>cond (lim ((a01 s.2.2.1)+1)) (some (.inl (s.1,wrap .i64 (s.2.1+1),a03 s.2.2.1 [x1],s.2.2.2.1,()))) none) (some (.inr (s.2.2.1,())))
def b3y(x:b5o):Option (LI×Int):=(show Option ((LI×(Int×b6r)) ⊕ Z6)from cond (x.1.1==0) ((y0s a7u (x.2,0,[],x.1,())).bind fun w2=>some (Sum.inr ((0,w2.1,())))) (cond (x.1.1==1) (some (Sum.inl (x.1.2.2.2.2.2.2.2.2.1,0,x.1,()))) (cond (x.1.1==2) ((b1c (x.1.2.2.2.2.2.2.2.2.1,x.1.2.2.2.2.2.2.2.2.2.2.1,x.1.2.2.1)).bind fun y3=>some (Sum.inl (y3.1,y3.2,x.1,()))) (cond (x.1.1==3) ((a7t (x.1.2.2.2.2.2.2.2.2.1,x.1.2.2.2.2.2.2.2.2.2.2.1,x.1.2.2.2.2.2.1,x.1.2.2.2.1)).bind fun y4=>some (Sum.inl (y4.1,y4.2,x.1,()))) (cond (x.1.1==4) ((a7t (x.1.2.2.2.2.2.2.2.2.1,x.1.2.2.2.2.2.2.2.2.2.2.1,x.1.2.2.2.2.2.1,x.1.2.2.2.1)).bind fun y5=>cond (y5.2==0) ((b2l (y5.1,x.1.2.2.2.2.1,x.1.2.2.2.2.2.2.1)).bind fun y6=>some (Sum.inl (y6.1,y6.2,x.1,()))) (some (Sum.inl (y5.1,y5.2,x.1,())))) (cond (x.1.1==5) ((b1g (x.1.2.2.2.2.2.2.2.2.2.2.1,x.1.2.2.2.2.2.2.2.1)).bind fun y7=>some (Sum.inl (y7.1,y7.2,x.1,()))) (some (Sum.inl ([],0,x.1,()))))))))).bind fun z8=>match z8 with |.inl a9=>(cond (a9.2.1 != 0) (some ([],a9.2.1)) ((a9F (a9.1,a9.2.2.1.2.1)).bind fun y11=>some (y11.1,y11.2))) |.inr b10=>some (b10.2.1,b10.1)
def c0E:FSem:=⟨[.v Q42,.v QI],[.o QI,.v QI],b3y⟩
def d6H:Hints:=⟨[(3922,[12,13,.own 6 6 QI,.vp 2 Q42],[Qe 1 [.own 6 6 QI]])],[(15,[Qn [.sv 6 QL,7,.vp 2 Q42],Qr [5,.own 4 6 QI]])],[]⟩
def b2M(x:b5o):Option (LI×Int):=(b1b (x.1,x.2)).bind fun y1=>cond (!y1) (some ([],1)) ((b3y (x.1,x.2)).bind fun y2=>cond (y2.2 != 0) (some ([],1)) (some (y2.1,0)))
def b7K:FSem:=⟨[.v Q42,.v QI],[.o QI,.v QI],b2M⟩
def a9G(x:Int):Option Bool:=cond (decide ((-1073741824)≤x)) (some (decide (x<1073741824))) (some false)
def b5u:FSem:=⟨[.v QI],[.v .bool],a9G⟩
def a4H(s:((List LI)×((List LI)×Z52))):Option (((List LI)×((List LI)×Z52)) ⊕ (((List LI)×Z27) ⊕ (Bool×Unit))):=cond (decide (s.2.2.2.2.2.2.1<s.2.2.2.2.2.1)) ((m0k s.2.2.2.2.1 s.2.2.2.2.2.2.1).bind fun x5=>(a9G x5).bind fun y6=>cond (!y6) (some (.inr (Sum.inr ((false,()))))) (some (.inl (s.1,s.2.1,s.2.2.1,s.2.2.2.1,s.2.2.2.2.1,s.2.2.2.2.2.1,wrap .i64 (s.2.2.2.2.2.2.1+1),())))) (some (.inr (Sum.inl (s.1,s.2.1,s.2.2.1,s.2.2.2.1,()))))
def a4I(s:((List LI)×Z27)):Option (((List LI)×Z27) ⊕ Z0):=cond (decide (s.2.2.2.1<s.2.2.1)) ((m0k s.2.1 s.2.2.2.1).bind fun x3=>(m0k s.1 0).bind fun x4=>cond ((x3.length:Int) != (x4.length:Int)) (some (.inr (Sum.inr ((false,()))))) ((y0s a4H (s.1,s.2.1,s.2.2.1,s.2.2.2.1,x3,(x3.length:Int),0,())).bind fun w7=>match w7 with |.inl a8=>some (.inl (a8.1,a8.2.1,a8.2.2.1,wrap .i64 (a8.2.2.2.1+1),())) |.inr b9=>some (.inr (Sum.inr ((b9.1,())))))) (some (.inr (Sum.inl ())))
def a7N(x:(List LI)):Option Bool:=(show Option ((List LI)×(Bool×Unit))from cond (decide ((x.length:Int)<1)) (some (x,true,())) (cond (decide ((x.length:Int) > 8)) (some (x,true,())) ((m0k x 0).bind fun x1=>some (x,decide ((x1.length:Int) > 4096),())))).bind fun z2=>cond z2.2.1 (some false) ((y0s a4I (z2.1,z2.1,(z2.1.length:Int),0,())).bind fun w10=>match w10 with |.inl a11=>some true |.inr b12=>some b12.1)
def b2m:FSem:=⟨[.v (.list false QL)],[.v .bool],a7N⟩
def H87:Hints:=⟨[(58,[.sv 0 (.list false QL),.sv 22 (.list false QL),23,24],[Qe 0 [],Qr [.sv 2 .bool]]),(29902,[.sv 0 (.list false QL),.sv 22 (.list false QL),23,24,.sv 35 QL,36,37],[Qe 2 [.sv 0 (.list false QL),.sv 22 (.list false QL),23,24],Qr [.sv 2 .bool]])],[(6,[Qn [.sv 0 (.list false QL),.sv 21 .bool]])],[]⟩
def a6X(s:((List LI)×Z28)):Option (((List LI)×Z28) ⊕ Z2):=cond (decide (s.2.2.1<s.2.1)) ((m0k s.1 s.2.2.1).bind fun x1=>(a1g x1).bind fun y2=>cond (lim ((a01 s.2.2.2.1)+(a01 (a18 ([[]]:List LI) 0 y2)))) (some (.inl (s.1,s.2.1,wrap .i64 (s.2.2.1+1),a03 s.2.2.2.1 (a18 ([[]]:List LI) 0 y2),()))) none) (some (.inr (s.2.2.2.1,())))
def a7v(x:(List LI)):Option (List LI):=(y0s a6X (x,(x.length:Int),0,([]:(List LI)),())).bind fun w3=>some w3.1
def b3g:FSem:=⟨[.v (.list false QL)],[.o (.list true QI)],a7v⟩
def H89:Hints:=⟨[(58,[.sv 6 (.list false QL),7,8,.own 3 3 (.list true QI)],[Qe 0 [.own 3 3 (.list true QI)]])],[],[]⟩
def a3R(s:(Int×(Int×(Int×((List LI)×(Z8×Int×Unit)))))):Option ((Int×(Int×(Int×((List LI)×(Z8×Int×Unit))))) ⊕ (Z2 ⊕ (Bool×Z2))):=cond (decide (s.2.2.1<s.2.1)) (cond ((decide (0≤s.2.2.1))&&(decide (s.2.2.1<((a01 (a04 s.2.2.2.1 (a00 s.2.2.2.2.2.1) []):Nat):Int)))) (cond ((decide (0≤s.2.2.2.2.1.2.1))&&(decide (s.2.2.2.2.1.2.1<(s.2.2.2.1.length:Int)))) (cond ((decide (0≤s.2.2.1))&&(decide (s.2.2.1<((a01 (a04 s.2.2.2.1 (a00 s.2.2.2.2.1.2.1) []):Nat):Int)))) ((a9G (wrap .i64 ((a04 (a04 s.2.2.2.1 (a00 s.2.2.2.2.1.2.1) []) (a00 s.2.2.1) 0)+(wrap .i64 (s.1*(A0o .i64 (wrap .i64 (s.2.2.2.2.1.2.2.1*(a04 (a04 s.2.2.2.1 (a00 s.2.2.2.2.2.1) []) (a00 s.2.2.1) 0))) 8)))))).bind fun y1=>cond (!y1) (some (.inr (Sum.inr ((false,s.2.2.2.1,()))))) (cond ((decide (0≤s.2.2.2.2.1.2.1))&&(decide (s.2.2.2.2.1.2.1<(s.2.2.2.1.length:Int)))) (cond ((decide (0≤s.2.2.1))&&(decide (s.2.2.1<((a01 (a04 s.2.2.2.1 (a00 s.2.2.2.2.1.2.1) []):Nat):Int)))) (some (.inl (s.1,s.2.1,wrap .i64 (s.2.2.1+1),a18 s.2.2.2.1 (a00 s.2.2.2.2.1.2.1) (a18 (a04 s.2.2.2.1 (a00 s.2.2.2.2.1.2.1) []) (a00 s.2.2.1) (wrap .i64 ((a04 (a04 s.2.2.2.1 (a00 s.2.2.2.2.1.2.1) []) (a00 s.2.2.1) 0)+(wrap .i64 (s.1*(A0o .i64 (wrap .i64 (s.2.2.2.2.1.2.2.1*(a04 (a04 s.2.2.2.1 (a00 s.2.2.2.2.2.1) []) (a00 s.2.2.1) 0))) 8)))))),s.2.2.2.2.1,((a00 s.2.2.2.2.2.1:Nat):Int),()))) none) none)) none) none) none) (some (.inr (Sum.inl (s.2.2.2.1,()))))
def a8u(x:((List LI)×(Z8×Int))):Option (Bool×(List LI)):=cond ((decide (0≤x.2.1.1))&&(decide (x.2.1.1<(x.1.length:Int)))) ((y0s a3R (x.2.2,((a01 (a04 x.1 (a00 x.2.1.1) []):Nat):Int),0,x.1,x.2.1,((a00 x.2.1.1:Nat):Int),())).bind fun w2=>match w2 with |.inl a3=>some (true,a3.1) |.inr b4=>some (b4.1,b4.2.1)) none
def b4d:FSem:=⟨[.r false (.o (.list true QI)),.v Q12,.v QI],[.v .bool],a8u⟩
def H90:Hints:=⟨[(26,[2,15,16,.own 0 pinned (.list true QI),.vp 4 Q12,.rfi 14 pinned],[Qe 0 [.own 0 pinned (.list true QI)],Qr [.sv 6 .bool,.own 0 pinned (.list true QI)]])],[],[(4,[.q,.v,.v,.q,.q,.v,.q,.q,.v,.v,.v,.v,.v,.v,.v,.x,.x])]⟩
def a6x(k:Int)(v:Z8)(s:(Z15×((List LI)×Z12))):Option ((Z15×((List LI)×Z12)) ⊕ (Ex×(Z15×((List LI)×Z12)))):=(a8u (s.2.2.2.1,v,(-1))).bind fun y5=>cond (!y5.1) (some (.inr (.ret,s.1,([]:(List LI)),6,y5.2,()))) (some (.inl (s.1,s.2.1,s.2.2.1,y5.2,())))
def b2n(x:((List LI)×Z15)):Option ((List LI)×Int):=(show Option ((List LI)×(Z15×(Bool×((List LI)×(Int×Unit)))))from(a7N x.1).bind fun y1=>cond (!y1) (some (x.1,x.2,true,([]:(List LI)),0,())) ((a8O (x.2,(x.1.length:Int))).bind fun y2=>some (x.1,x.2,!y2,([]:(List LI)),0,()))).bind fun z3=>cond z3.2.2.1 (some (([]:(List LI)),1)) ((a7v z3.1).bind fun y4=>cond (lim (a01 z3.2.1)) ((l0f a6x z3.2.1 (a01 z3.2.1) (z3.2.1,z3.2.2.2.1,z3.2.2.2.2.1,y4,())).bind fun w6=>match w6 with |.inl a7=>some (a7.2.2.2.1,0) |.inr (.normal,a8)=>some (a8.2.2.2.1,0) |.inr (.exit e9,a8)=>(cond (e9==0) (some (a8.2.2.2.1,0)) none) |.inr (.ret,a8)=>some (a8.2.1,a8.2.2.1)) none)
def a9H:FSem:=⟨[.v (.list false QL),.v (.list false Q12)],[.v (.list false QL),.v QI],b2n⟩
def H64:Hints:=⟨[],[(6,[Qn [.sv 0 (.list false QL),.sv 1 (.list false Q12),.sv 18 .bool,.box 4 (.list false QL),.box 5 QI,Qp 4 4,Qp 5 5]])],[]⟩
def d2O:Cx:=b2Z [(87,b2m),(88,b3w),(89,b3g),(90,b4d)] [(6,.list true (.list true QI))] [0,1] [29]
def R64:HintR:=⟨21,Q12,119,160,[4,5,6],[.sv 21 (.list false Q12),.box 1001004 (.list false QL),.box 1001005 QI,.box 1001006 (.list true (.list true QI)),.ptr 4 1001004 [],.ptr 5 1001005 [],.ptr 6 1001006 []]⟩
theorem d6I(x):z0h d2O H64 R64 Tryz.f64 a9H.ps a9H.rs x=a9H.F x:=by kernel_rfl
def a4R(s:(b0X×(Int×(Int×((List LI)×c3R))))):Option ((b0X×(Int×(Int×((List LI)×c3R)))) ⊕ (((List LI)×c3R) ⊕ Z48)):=cond (decide (s.2.2.1<s.2.1)) ((m0k s.1 s.2.2.1).bind fun x3=>(b2M (x3,s.2.2.2.2.2.1.2.1)).bind fun y4=>cond (y4.2 != 0) (some (.inr (Sum.inr ((1,(0,([]:(List LI)),()),()))))) (cond (lim ((a01 s.2.2.2.1)+1)) (some (.inl (s.1,s.2.1,wrap .i64 (s.2.2.1+1),a03 s.2.2.2.1 ([y4.1]:List LI),s.2.2.2.2.1,s.2.2.2.2.2.1,()))) none)) (some (.inr (Sum.inl (s.2.2.2.1,s.2.2.2.2.1,s.2.2.2.2.2.1,()))))
def a2b(x:a2I):Option Z29:=(show Option (Bool×c3R)from(a7q x).bind fun y1=>cond (!y1) (some (true,(0,([]:(List LI)),()),x,())) (some ((x.2.2.2.2.1.length:Int) != x.2.2.1.2.1,(0,([]:(List LI)),()),x,()))).bind fun z2=>cond z2.1 (some ((0,([]:(List LI)),()),1)) (cond ((decide (0≤(z2.2.2.1.2.2.2.2.1.length:Int)))&&(lim (a00 (z2.2.2.1.2.2.2.2.1.length:Int)))) ((y0s a4R (z2.2.2.1.2.2.2.2.1,(z2.2.2.1.2.2.2.2.1.length:Int),0,([]:(List LI)),z2.2.1,z2.2.2.1,())).bind fun w5=>match w5 with |.inl a6=>((b2n (a6.1,a6.2.2.1.2.2.2.1)).bind fun y8=>cond (y8.2 != 0) (some ((0,([]:(List LI)),()),1)) ((a3w (a6.2.2.1.2.2.1.2.2.1,y8.1,())).bind fun y9=>cond (!y9) (some ((0,([]:(List LI)),()),1)) (some ((a6.2.2.1.2.2.1.2.2.1,y8.1,()),0)))) |.inr b7=>some (b7.2.1,b7.1)) none)
def a5t:FSem:=⟨[.v Q60],[.v Q15,.v QI],a2b⟩
def H25:Hints:=⟨[(122,[.sv 30 (.list false Q42),31,32,.own 4 4 QL,.box 2 Q15,.vp 1 Q60,Qp 2 2],[Qe 0 [.own 4 4 QL,.box 2 Q15,.vp 1 Q60,Qp 2 2],Qr [3,.box 2 Q15,Qp 2 2]])],[(6,[Qn [.sv 23 .bool,.box 2 Q15,.vp 1 Q60,Qp 2 2]])],[]⟩
def a4z(x:a2I):Option Bool:=(a2b x).bind fun y1=>some (y1.2==0)
def b5v:FSem:=⟨[.v Q60],[.v .bool],a4z⟩
def a9t(s:Z47):Option (Z47 ⊕ Z30):=cond (decide (s.2.2.2.2.1<8)) (cond ((A0o .u16 s.1 15)==1) (some (.inl (bits .u16 .xor (A0n .u16 s.1 1) 32773,s.2.1,s.2.2.1,s.2.2.2.1,wrap .i64 (s.2.2.2.2.1+1),()))) (some (.inl (A0n .u16 s.1 1,s.2.1,s.2.2.1,s.2.2.2.1,wrap .i64 (s.2.2.2.2.1+1),())))) (some (.inr (s.1,s.2.1,s.2.2.1,s.2.2.2.1,())))
def a6j(s:Z30):Option Z67:=cond (decide (s.2.2.2.1<s.2.2.1)) ((m0k s.2.1 s.2.2.2.1).bind fun x1=>(y0s a9t (bits .u16 .xor s.1 (A0n .u16 (wrap .u16 x1) 8),s.2.1,s.2.2.1,s.2.2.2.1,0,())).bind fun w2=>some (.inl (w2.1,w2.2.1,w2.2.2.1,wrap .i64 (w2.2.2.2.1+1),()))) (some (.inr (s.1,())))
def a6y(x:LI):Option Int:=(y0s a6j (0,x,(x.length:Int),0,())).bind fun w3=>some w3.1
def b1N:FSem:=⟨[.v QB],[.v (.int .u16)],a6y⟩
def H55:Hints:=⟨[(58,[.sv 3 (.int .u16),.sv 7 QB,8,9],[Qe 0 [.sv 3 (.int .u16)]]),(29902,[.sv 3 (.int .u16),.sv 7 QB,8,9,18],[Qe 2 [.sv 3 (.int .u16),.sv 7 QB,8,9]])],[],[]⟩
def b1h(s:Z47):Option (Z47 ⊕ Z30):=cond (decide (s.2.2.2.2.1<8)) (cond ((A0o .u8 s.1 7)==1) (some (.inl (bits .u8 .xor (A0n .u8 s.1 1) 7,s.2.1,s.2.2.1,s.2.2.2.1,wrap .i64 (s.2.2.2.2.1+1),()))) (some (.inl (A0n .u8 s.1 1,s.2.1,s.2.2.1,s.2.2.2.1,wrap .i64 (s.2.2.2.2.1+1),())))) (some (.inr (s.1,s.2.1,s.2.2.1,s.2.2.2.1,())))
def a8d(s:Z30):Option Z67:=cond (decide (s.2.2.2.1<s.2.2.1)) ((m0k s.2.1 s.2.2.2.1).bind fun x1=>(y0s b1h (bits .u8 .xor s.1 x1,s.2.1,s.2.2.1,s.2.2.2.1,0,())).bind fun w2=>some (.inl (w2.1,w2.2.1,w2.2.2.1,wrap .i64 (w2.2.2.2.1+1),()))) (some (.inr (s.1,())))
def a8v(x:LI):Option Int:=(y0s a8d (0,x,(x.length:Int),0,())).bind fun w3=>some w3.1
def b4e:FSem:=⟨[.v QB],[.v QV],a8v⟩
def d6J:Hints:=⟨[(58,[.sv 3 QV,.sv 7 QB,8,9],[Qe 0 [.sv 3 QV]]),(29902,[.sv 3 QV,.sv 7 QB,8,9,16],[Qe 2 [.sv 3 QV,.sv 7 QB,8,9]])],[],[]⟩
def b2o(x:Int):Option Int:=cond ((a05 x 2)==0) (some (wrap .i64 (wrap .u64 (a07 x 2)))) (some (wrap .i64 ((wrap .i64 (0-(wrap .i64 (wrap .u64 (a07 x 2)))))-1)))
def b8L:FSem:=⟨[.v QU],[.v QI],b2o⟩
def a5G(s:(LI×(Int×Int×c1U))):Option ((LI×(Int×Int×c1U)) ⊕ (LI×c1U)):=cond (decide (s.2.2.1<s.2.1)) ((a0S (s.2.2.2.2.1,7)).bind fun y11=>(a0S (y11.2,7)).bind fun y12=>(a0S (y12.2,2048)).bind fun y13=>(b2o y13.1).bind fun y14=>cond (lim ((a01 s.2.2.2.1.2.2.2.1)+1)) (some (.inl (s.1,s.2.1,wrap .u64 (s.2.2.1+1),(s.2.2.2.1.1,s.2.2.2.1.2.1,s.2.2.2.1.2.2.1,a03 s.2.2.2.1.2.2.2.1 ([(wrap .i64 y11.1,wrap .i64 y12.1,y14,())]:List Z8),s.2.2.2.1.2.2.2.2),y13.2,()))) none) (some (.inr (s.1,s.2.2.2.1,s.2.2.2.2.1,())))
def a8e(x:LI):Option (a2I×Int×Int×Int):=cond (decide ((x.length:Int)<2)) (some ((0,0,(0,0,0,()),[],[],()),0,0,3)) ((show Option (LI×(Bool×b5q))from(m0k x 0).bind fun x1=>cond (x1 != 245) (some (x,true,(0,0,(0,0,0,()),[],[],()),())) ((m0k x 1).bind fun x2=>some (x,x2 != 75,(0,0,(0,0,0,()),[],[],()),()))).bind fun z3=>cond z3.2.1 (some ((0,0,(0,0,0,()),[],[],()),0,0,2)) (cond (decide (2≤(z3.1.length:Int))) ((a6a (a08 2 (a06 (a01 z3.1) z3.1))).bind fun y4=>(a0S (y4,4194304)).bind fun y5=>(a0S (y5.2,4096)).bind fun y6=>(a0S (y6.2,1048576)).bind fun y7=>(a0S (y7.2,8)).bind fun y8=>(a0S (y8.2,24)).bind fun y9=>(a0S (y9.2,16)).bind fun y10=>(y0s a5G (z3.1,y10.1,0,(wrap .i64 y5.1,wrap .i64 y6.1,(wrap .i64 y7.1,wrap .i64 y8.1,wrap .i64 y9.1,z3.2.2.1.2.2.1.2.2.2),z3.2.2.1.2.2.2),y10.2,())).bind fun w15=>(a0S (w15.2.2.1,1048576)).bind fun y16=>(a3G y16.2).bind fun y17=>cond (y17.1 != 0) (some ((0,0,(0,0,0,()),[],[],()),0,0,y17.1)) ((a1P y17.2).bind fun y18=>cond (decide (y18.1<1)) (some ((0,0,(0,0,0,()),[],[],()),0,0,3)) ((a4i y18.2).bind fun y19=>cond ((decide (0≤(wrap .i64 (2+y19.1))))&&(decide ((wrap .i64 (2+y19.1))≤(w15.1.length:Int)))) ((a8v (a06 (a00 (wrap .i64 (2+y19.1))) w15.1)).bind fun y20=>(m0k w15.1 (wrap .i64 (2+y19.1))).bind fun x21=>cond (y20 != x21) (some ((0,0,(0,0,0,()),[],[],()),0,0,5)) ((a7q w15.2.1).bind fun y22=>cond (!y22) (some ((0,0,(0,0,0,()),[],[],()),0,0,2)) (some (w15.2.1,wrap .i64 ((wrap .i64 (2+y19.1))+1),wrap .i64 y16.1,0)))) none))) none))
def b4Q:FSem:=⟨[.v QB],[.v (.pair QI (.pair QI (.pair Q12 (.pair (.list false Q12) Q43)))),.v QI,.v QI,.v QI],a8e⟩
def H56:Hints:=⟨[(8186,[.sv 0 QB,.sv 54 QU,.sv 55 QU,.box 2 Q58,.box 1029 Q16,Qp 2 2,Qp 6 1029],[Qe 0 [.sv 0 QB,.box 2 Q58,.box 1029 Q16,Qp 2 2,Qp 6 1029]])],[(14,[Qn [.sv 0 QB,.sv 25 .bool,.box 2 Q58,Qp 2 2]])],[(25,[.v,.v,.v,.v,.v,.v,.v,.v,.x])]⟩
def b3z(x:LI):Option Z14:=cond (lim (a01 x)) (some (x,0,0,())) none
def c0F:FSem:=⟨[.v QB],[.b Q16],b3z⟩
def a0O(x:Z14):Option Z30:=some (x.2.2.1,x)
def a2m:FSem:=⟨[.r false (.b Q16)],[.v QI],a0O⟩
def b0Q(x:b5o):Option Bool:=(b2M (x.1,x.2)).bind fun y1=>some (y1.2==0)
def b7L:FSem:=⟨[.v Q42,.v QI],[.v .bool],b0Q⟩
def a3a(s:Z52):Option (Z52 ⊕ Z30):=cond (s.2.1 != 0) (cond (decide (s.1<32)) ((a2a (s.2.1,s.1)).bind fun y2=>cond (!y2) (some (.inl (wrap .i64 (s.1+1),s.2.1,s.2.2.1,s.2.2.2.1,s.2.2.2.2.1,()))) (some (.inr (s.1,s.2.2.1,s.2.2.2.1,s.2.2.2.2.1,())))) (some (.inr (s.1,s.2.2.1,s.2.2.2.1,s.2.2.2.2.1,())))) (some (.inr (s.1,s.2.2.1,s.2.2.2.1,s.2.2.2.2.1,())))
def a6k(s:Z30):Option Z67:=cond (decide (s.2.2.2.1<s.2.2.1)) ((m0k s.2.1 s.2.2.2.1).bind fun x1=>(y0s a3a (s.1,x1,s.2.1,s.2.2.1,s.2.2.2.1,())).bind fun w3=>some (.inl (w3.1,w3.2.1,w3.2.2.1,wrap .i64 (w3.2.2.2.1+1),()))) (some (.inr (s.1,())))
def a1w(x:LI):Option Int:=(y0s a6k (0,x,(x.length:Int),0,())).bind fun w4=>some w4.1
def a2L:FSem:=⟨[.v QL],[.v QI],a1w⟩
def H98:Hints:=⟨[(58,[3,.sv 6 QL,7,8],[Qe 0 [3]]),(7474,[3,5,.sv 6 QL,7,8],[Qe 2 [3,.sv 6 QL,7,8]])],[],[]⟩
def a2M(x:Z14):Option Z30:=some (wrap .i64 ((wrap .i64 (8*(x.1.length:Int)))-x.2.1),x)
def a8w:FSem:=⟨[.r false (.b Q16)],[.v QI],a2M⟩
def H59:Hints:=⟨[],[],[(1,[.p,.p,.q,.q,.v,.v,.p,.p,.q,.q,.x,.x])]⟩
def a1F(x:Z31):Option Z30:=(m0k x.1.1 (wrap .i64 (a07 x.2 8))).bind fun x1=>cond (decide ((wrap .i64 (7-(a05 x.2 8)))<0)) none (some (bits .u8 .and (A0o .u8 x1 (wrap .i64 (7-(a05 x.2 8)))) 1,x.1))
def a5H:FSem:=⟨[.r false (.b Q16),.v QI],[.v QV],a1F⟩
def a4p(s:Z81):Option (Z81 ⊕ Z54):=cond (decide (s.2.2.1<s.2.1)) ((a1F (s.2.2.2.1,s.2.2.2.1.2.1)).bind fun y3=>some (.inl (bits .u64 .or (A0n .u64 s.1 1) (wrap .u64 y3.1),s.2.1,wrap .i64 (s.2.2.1+1),(y3.2.1,wrap .i64 (y3.2.2.1+1),y3.2.2.2),()))) (some (.inr (s.1,s.2.2.2.1,())))
def a0H(x:Z31):Option Z30:=cond (x.1.2.2.1 != 0) (some (0,x.1)) ((show Option Z69 from cond (decide (x.2<0)) (some (x.2,true,x.1,())) (some (x.2,decide (x.2 > 64),x.1,()))).bind fun z1=>cond z1.2.1 (some (0,z1.2.2.1.1,z1.2.2.1.2.1,1,z1.2.2.1.2.2.2)) ((a2M z1.2.2.1).bind fun y2=>cond (decide (z1.1 > y2.1)) (some (0,y2.2.1,y2.2.2.1,3,y2.2.2.2.2)) ((y0s a4p (0,z1.1,0,y2.2,())).bind fun w4=>some (w4.1,w4.2.1))))
def a2n:FSem:=⟨[.r false (.b Q16),.v QI],[.v QU],a0H⟩
def d6K:Hints:=⟨[(506,[.sv 5 QU,27,28,.box pinned Q16,Qp 0 pinned],[Qe 0 [.sv 5 QU,.box pinned Q16]])],[(14,[Qn [1,.sv 16 .bool,.box pinned Q16,Qp 0 pinned]])],[]⟩
def a1c(x:Z31):Option Z30:=(a0H (x.1,x.2)).bind fun y1=>(show Option (Int×Z69)from cond (y1.2.2.2.1 != 0) (some (x.2,y1.1,true,y1.2,())) (some (x.2,y1.1,x.2==0,y1.2,()))).bind fun z2=>cond z2.2.2.1 (some (0,z2.2.2.2.1)) (cond (decide ((wrap .i64 (64-z2.1))<0)) none (cond (decide ((wrap .i64 (64-z2.1))<0)) none (some (A0o .i64 (wrap .i64 (A0n .u64 z2.2.1 (wrap .i64 (64-z2.1)))) (wrap .i64 (64-z2.1)),z2.2.2.2.1))))
def a2T:FSem:=⟨[.r false (.b Q16),.v QI],[.v QI],a1c⟩
def d6L:Hints:=⟨[],[(14,[Qn [1,.sv 5 QU,.sv 17 .bool,.box pinned Q16]])],[]⟩
def a6l(s:(Int×c1T)):Option ((Int×c1T) ⊕ (Int×c6z)):=cond (decide (s.2.2.1<s.2.1)) ((a1c (s.2.2.2.1,s.1)).bind fun y4=>cond (lim ((a01 s.2.2.2.2.1.2.2.2.2.2.1)+1)) (some (.inl (s.1,s.2.1,wrap .i64 (s.2.2.1+1),y4.2,(s.2.2.2.2.1.1,s.2.2.2.2.1.2.1,s.2.2.2.2.1.2.2.1,s.2.2.2.2.1.2.2.2.1,s.2.2.2.2.1.2.2.2.2.1,a03 s.2.2.2.2.1.2.2.2.2.2.1 [y4.1],s.2.2.2.2.1.2.2.2.2.2.2),()))) none) (some (.inr (s.1,s.2.2.2.2.1,s.2.2.2.1,())))
def a8T(x:(Z14×a2d)):Option (Bool×Z14×a2d):=(a0H (x.1,5)).bind fun y1=>(a0H (y1.2,4)).bind fun y2=>(a0H (y2.2,5)).bind fun y3=>(y0s a6l (wrap .i64 y3.1,wrap .i64 ((wrap .i64 y1.1)+1),0,y3.2,(x.2.1,x.2.2.1,x.2.2.2.1,wrap .i64 y2.1,x.2.2.2.2.2),())).bind fun w5=>(a1w w5.2.1.2.2.2.2.2.1).bind fun y6=>some (y6==w5.1,w5.2.2.1,w5.2.1)
def b5Q:FSem:=⟨[.r false (.b Q16),.r false (.b Q41)],[.v .bool],a8T⟩
def d6M:Hints:=⟨[(250,[6,20,21,.box pinned Q16,.box 1000001 Q41,Qp 0 pinned,Qp 1 1000001],[Qe 0 [6,.box 1000001 Q41,.box pinned Q16,Qp 1 1000001]])],[],[(6,[.p,.p,.p,.r [26,1000001],.r [27,1000001],.p,.v,.w [30,1030,pinned],.q,.a [31,32,1000001],.x,.x,.x])]⟩
def a3s(s:c1T):Option (c1T ⊕ c9r):=cond (decide (s.2.1<3)) ((a1c (s.2.2.1,8)).bind fun y6=>cond ((decide (0≤s.2.1))&&(decide (s.2.1<3))) (some (.inl (s.1,wrap .i64 (s.2.1+1),y6.2,(s.2.2.2.1.1,s.2.2.2.1.2.1,s.2.2.2.1.2.2.1,s.2.2.2.1.2.2.2.1,s.2.2.2.1.2.2.2.2.1,s.2.2.2.1.2.2.2.2.2.1,a18 s.2.2.2.1.2.2.2.2.2.2.1 (a00 s.2.1) y6.1,s.2.2.2.1.2.2.2.2.2.2.2),()))) none) (some (.inr (s.1,s.2.2.1,s.2.2.2.1,())))
def a6Y(s:(Int×Bool×c1T)):Option ((Int×Bool×c1T) ⊕ (Int×Bool×c6z)):=cond (decide (s.2.2.2.1<s.2.2.1)) ((a0H (s.2.2.2.2.1,5)).bind fun y15=>(a0H (y15.2,4)).bind fun y16=>cond (lim ((a01 s.2.2.2.2.2.1.2.2.2.2.2.2.2.1)+1)) (some (.inl (s.1,s.2.1,s.2.2.1,wrap .u64 (s.2.2.2.1+1),y16.2,(s.2.2.2.2.2.1.1,s.2.2.2.2.2.1.2.1,s.2.2.2.2.2.1.2.2.1,s.2.2.2.2.2.1.2.2.2.1,s.2.2.2.2.2.1.2.2.2.2.1,s.2.2.2.2.2.1.2.2.2.2.2.1,s.2.2.2.2.2.1.2.2.2.2.2.2.1,a03 s.2.2.2.2.2.1.2.2.2.2.2.2.2.1 ([(wrap .i64 ((wrap .i64 y15.1)+1),wrap .i64 y16.1,())]:List (Int×Int×Unit)),s.2.2.2.2.2.1.2.2.2.2.2.2.2.2),()))) none) (some (.inr (s.1,s.2.1,s.2.2.2.2.2.1,s.2.2.2.2.1,())))
def a9X(x:Z14):Option (a2d×Int×Bool×Z14):=(a0H (x,3)).bind fun y1=>(a0H (y1.2,5)).bind fun y2=>(a0H (y2.2,5)).bind fun y3=>(show Option (Int×Bool×c6z)from(show Option (c9r ⊕ ((Int×Bool×c6z) ⊕ (Int×Bool×d2K)))from cond ((wrap .i64 y1.1)==2) ((a0H (y3.2,3)).bind fun y4=>some (Sum.inr (Sum.inl (wrap .i64 y3.1,true,(wrap .i64 y1.1,wrap .i64 y2.1,wrap .i64 y4.1,0,0,[],a02 3 0,[],[],(0,[],()),[],()),y4.2,())))) (cond ((wrap .i64 y1.1)==4) ((a0H (y3.2,10)).bind fun y5=>(y0s a3s (wrap .i64 y3.1,0,y5.2,(wrap .i64 y1.1,wrap .i64 y2.1,0,0,wrap .i64 ((wrap .i64 y5.1)+1),[],a02 3 0,[],[],(0,[],()),[],()),())).bind fun w7=>some (Sum.inl (w7.1,w7.2.1,w7.2.2.1,()))) (cond ((wrap .i64 y1.1)==3) (some (Sum.inl (wrap .i64 y3.1,y3.2,(wrap .i64 y1.1,wrap .i64 y2.1,0,0,0,[],a02 3 0,[],[],(0,[],()),[],()),()))) (cond ((wrap .i64 y1.1)==5) (some (Sum.inr (Sum.inr ((wrap .i64 y3.1,true,y3.2,(wrap .i64 y1.1,wrap .i64 y2.1,0,0,0,[],a02 3 0,[],[],(0,[],()),[],()),()))))) (some (Sum.inr (Sum.inl (wrap .i64 y3.1,true,(wrap .i64 y1.1,wrap .i64 y2.1,0,0,0,[],a02 3 0,[],[],(0,[],()),[],()),y3.2,())))))))).bind fun z8=>match z8 with |.inl a9=>((a8T (a9.2.1,a9.2.2.1)).bind fun y11=>some (a9.1,y11.1,y11.2.2,y11.2.1,())) |.inr b10=>(match b10 with |.inl a12=>some (a12.1,a12.2.1,a12.2.2.1,a12.2.2.2.1,()) |.inr b13=>((a0H (b13.2.2.1,2)).bind fun y14=>(y0s a6Y (b13.1,b13.2.1,y14.1,0,y14.2,b13.2.2.2.1,())).bind fun w17=>some (w17.1,w17.2.1,w17.2.2.1,w17.2.2.2.1,())))).bind fun z18=>some (z18.2.2.1,z18.1,z18.2.1,z18.2.2.2.1)
def b7l:FSem:=⟨[.r false (.b Q16)],[.v (.pair QI (.pair QI (.pair QI (.pair QI (.pair QI (.pair QL (.pair (.arr 3 QI) (.pair (.list false Q3) Q23)))))))),.v QI,.v .bool],a9X⟩
def d6N:Hints:=⟨[(8106,[3,.sv 4 .bool,.sv 50 QU,.sv 51 QU,.box pinned Q16,.box 2 Q41,Qp 0 pinned,Qp 2 2],[Qe 7 [3,.sv 4 .bool,.box 2 Q41,.box pinned Q16,Qp 2 2]]),(129550,[3,38,.box pinned Q16,.box 2 Q41,Qp 0 pinned,Qp 2 2],[Qe 5 [3,.box pinned Q16,.box 2 Q41,Qp 0 pinned,Qp 2 2]])],[(63,[Qn [3,.sv 4 .bool,.box 2 Q41,.box pinned Q16,Qp 2 2]]),(2024,[Qn [3,.box pinned Q16,.box 2 Q41,Qp 0 pinned,Qp 2 2],Qe 0 [3,.sv 4 .bool,.box 2 Q41,.box pinned Q16,Qp 2 2],Qe 4 [3,.sv 4 .bool,.box pinned Q16,.box 2 Q41,Qp 0 pinned,Qp 2 2]])],[]⟩
def a1X(x:Int):Option Bool:=cond (decide (0≤x)) (some (decide (x≤25))) (some false)
def a6Z:FSem:=⟨[.v QI],[.v .bool],a1X⟩
def a3x(s:Z81):Option (Z81 ⊕ Z54):=cond (s.2.2.1==(wrap .i64 (8*(s.2.2.2.1.1.length:Int)))) (some (.inr (0,(s.2.2.2.1.1,s.2.2.2.1.2.1,3,s.2.2.2.1.2.2.2),()))) ((a1F (s.2.2.2.1,s.2.2.1)).bind fun y2=>cond (y2.1==1) (some (.inr (s.2.1,(y2.2.1,wrap .i64 (s.2.2.1+1),y2.2.2.2),()))) (cond (s.2.1==s.1) (some (.inr (0,(y2.2.1,y2.2.2.1,2,y2.2.2.2.2),()))) (some (.inl (s.1,wrap .i64 (s.2.1+1),wrap .i64 (s.2.2.1+1),y2.2,())))))
def a3n(x:Z31):Option Z30:=cond (x.1.2.2.1 != 0) (some (0,x.1)) ((y0s a3x (v0r x.2 0,0,x.1.2.1,x.1,())).bind fun w3=>some (w3.1,w3.2.1))
def b1G:FSem:=⟨[.r false (.b Q16),.v QI],[.v QI],a3n⟩
def d6O:Hints:=⟨[(62,[1,5,6,.box pinned Q16,Qp 0 pinned],[Qr [4,.box pinned Q16]])],[],[(4,[.p,.p,.q,.q,.v,.x])]⟩
def a7w(x:Int):Option Int:=cond (decide (x≥2147483648)) (some 0) (cond ((a05 x 2)==0) (some (wrap .i64 (wrap .u64 (a07 x 2)))) (some (wrap .i64 ((wrap .i64 (0-(wrap .i64 (wrap .u64 (a07 x 2)))))-1))))
def b7m:FSem:=⟨[.v QU],[.v QI],a7w⟩
def b3A(x:Z31):Option Z52:=(a3n (x.1,32)).bind fun y1=>(a0O y1.2).bind fun y2=>cond (y2.1 != 0) ((a0O y2.2).bind fun y3=>some (0,y3.1,y3.2)) (cond (decide ((wrap .u64 y1.1)<32)) ((a0H (y2.2,x.2)).bind fun y4=>cond (decide (x.2<0)) none ((a7w (wrap .u64 ((A0n .u64 (wrap .u64 y1.1) x.2)+y4.1))).bind fun y5=>(a0O y4.2).bind fun y6=>some (y5,y6.1,y6.2))) ((a0H (y2.2,32)).bind fun y7=>(a0O y7.2).bind fun y8=>cond (y8.1 != 0) ((a0O y8.2).bind fun y9=>some (0,y9.1,y9.2)) ((show Option Z69 from cond (decide (y7.1≥2147483648)) (some (y7.1,true,y8.2,())) (cond (decide (x.2<0)) none (some (y7.1,decide ((A0o .u64 y7.1 x.2)<32),y8.2,())))).bind fun z10=>cond z10.2.1 (some (0,2,z10.2.2.1)) ((a7w z10.1).bind fun y11=>some (y11,0,z10.2.2.1)))))
def c0G:FSem:=⟨[.r false (.b Q16),.v QI],[.v QI,.v QI],b3A⟩
def d6P:Hints:=⟨[],[(254,[Qn [.sv 8 QU,.sv 44 .bool,.box pinned Q16]])],[]⟩
def a9Y(s:Z92):Option (Z92 ⊕ (Z63 ⊕ Z78)):=cond (decide (s.2.2.1<s.2.1)) ((b3A (s.2.2.2.2.1,s.1)).bind fun y5=>cond (y5.2.1 != 0) (some (.inr (Sum.inr ((y5.2.1,[],y5.2.2,()))))) (cond (lim ((a01 s.2.2.2.1)+1)) (some (.inl (s.1,s.2.1,wrap .i64 (s.2.2.1+1),a03 s.2.2.2.1 [y5.1],y5.2.2,()))) none)) (some (.inr (Sum.inl (s.2.2.2.1,s.2.2.2.2.1,()))))
def b3B(x:(Z14×Int×Int)):Option Z61:=(show Option (Int×Z69)from(a1X x.2.1).bind fun y1=>cond (!y1) (some (x.2.1,x.2.2,true,x.1,())) (cond (decide (x.2.2<0)) (some (x.2.1,x.2.2,true,x.1,())) (some (x.2.1,x.2.2,decide (x.2.2 > 4194304),x.1,())))).bind fun z2=>cond z2.2.2.1 (some ([],1,z2.2.2.2.1)) ((a0O z2.2.2.2.1).bind fun y3=>cond (y3.1 != 0) ((a0O y3.2).bind fun y4=>some ([],y4.1,y4.2)) ((y0s a9Y (z2.1,z2.2.1,0,[],y3.2,())).bind fun w6=>match w6 with |.inl a7=>some (a7.1,0,a7.2.1) |.inr b8=>some (b8.2.1,b8.1,b8.2.2.1)))
def c0H:FSem:=⟨[.r false (.b Q16),.v QI,.v QI],[.o QI,.v QI],b3B⟩
def d6Q:Hints:=⟨[(250,[1,27,28,.own 8 8 QI,.box pinned Q16,Qp 0 pinned],[Qe 0 [.own 8 8 QI,.box pinned Q16],Qr [7,.own 6 6 QI,.box pinned Q16]])],[(6,[Qn [1,2,.sv 21 .bool,.box pinned Q16,Qp 0 pinned]])],[]⟩
def a8U(s:(Int×Z92)):Option ((Int×Z92) ⊕ Z88):=cond (decide (s.2.2.2.1<s.2.2.1)) ((a1c (s.2.2.2.2.2.1,s.2.1)).bind fun y6=>cond (lim ((a01 s.2.2.2.2.1)+1)) (some (.inl (s.1,s.2.1,s.2.2.1,wrap .i64 (s.2.2.2.1+1),a03 s.2.2.2.2.1 [y6.1],y6.2,()))) none) (some (.inr (s.1,s.2.1,s.2.2.2.2.1,s.2.2.2.2.2.1,())))
def b2p(x:Z31):Option (Int×Z61):=(a0H (x.1,5)).bind fun y1=>(a0O y1.2).bind fun y2=>cond (y2.1 != 0) ((a0O y2.2).bind fun y3=>some (0,[],y3.1,y3.2)) (cond (decide ((wrap .i64 y1.1)≤25)) ((b3B (y2.2,wrap .i64 y1.1,x.2)).bind fun y4=>some (wrap .i64 y1.1,y4.1,y4.2.1,y4.2.2)) (cond ((wrap .i64 y1.1) != 31) (some (0,[],2,y2.2)) ((a0H (y2.2,5)).bind fun y5=>(y0s a8U (wrap .i64 y1.1,wrap .i64 y5.1,x.2,0,[],y5.2,())).bind fun w7=>(a0O w7.2.2.2.1).bind fun y8=>cond (y8.1 != 0) ((a0O y8.2).bind fun y9=>some (0,[],y9.1,y9.2)) ((a1w w7.2.2.1).bind fun y10=>cond (y10 != w7.2.1) (some (0,[],2,y8.2)) (some (w7.1,w7.2.2.1,0,y8.2))))))
def b8M:FSem:=⟨[.r false (.b Q16),.v QI],[.v QI,.o QI,.v QI],b2p⟩
def d6R:Hints:=⟨[(2042,[7,10,37,38,.own 11 11 QI,.box pinned Q16,Qp 0 pinned],[Qe 0 [7,10,.own 11 11 QI,.box pinned Q16,Qp 0 pinned]])],[],[]⟩
def a8V(s:(Int×(Int×(LI×(LI×(Z14×Z82)))))):Option ((Int×(Int×(LI×(LI×(Z14×Z82))))) ⊕ ((LI×(Z6×Z6×Z36)) ⊕ (Int×(LI×(Z6×Z36))))):=cond (decide (s.2.1<s.1)) (cond ((decide (0≤s.2.1))&&(decide (s.2.1<(s.2.2.2.1.length:Int)))) ((b2p (s.2.2.2.2.1,a04 s.2.2.2.1 (a00 s.2.1) 0)).bind fun y6=>cond (y6.2.2.1 != 0) (some (.inr (Sum.inr ((y6.2.2.1,[],(0,[],()),y6.2.2.2,()))))) (cond (lim ((a01 s.2.2.2.2.2.2.1.2.1)+1)) (cond (lim ((a01 s.2.2.1)+(a01 y6.2.1))) (some (.inl (s.1,wrap .i64 (s.2.1+1),a03 s.2.2.1 y6.2.1,s.2.2.2.1,y6.2.2.2,s.2.2.2.2.2.1,(s.2.2.2.2.2.2.1.1,a03 s.2.2.2.2.2.2.1.2.1 [y6.1],s.2.2.2.2.2.2.1.2.2),()))) none) none)) none) (some (.inr (Sum.inl (s.2.2.1,s.2.2.2.2.2.1,s.2.2.2.2.2.2.1,s.2.2.2.2.1,()))))
def b2q(x:(Z14×Int×Int)):Option (Z6×Z61):=(a7L (x.2.1,x.2.2)).bind fun y1=>cond (!y1) (some ((0,[],()),[],1,x.1)) ((a0H (x.1,4)).bind fun y2=>(a0O y2.2).bind fun y3=>cond (y3.1 != 0) ((a0O y3.2).bind fun y4=>some ((0,[],()),[],y4.1,y4.2)) ((a3g (wrap .i64 y2.1,x.2.1,x.2.2)).bind fun y5=>cond ((y5.length:Int)==0) (some ((0,[],()),[],2,y3.2)) ((y0s a8V ((y5.length:Int),0,[],y5,y3.2,(0,[],()),(wrap .i64 y2.1,[],()),())).bind fun w7=>match w7 with |.inl a8=>some (a8.2.2.1,a8.1,0,a8.2.2.2.1) |.inr b9=>some (b9.2.2.1,b9.2.1,b9.1,b9.2.2.2.1))))
def b8N:FSem:=⟨[.r false (.b Q16),.v QI,.v QI],[.v Q11,.o QI,.v QI],b2q⟩
def d6S:Hints:=⟨[(4090,[43,44,.own 12 12 QI,.own 42 10 QI,.box pinned Q16,.box 6 Q11,.box 11 Q10,Qp 0 pinned,Qp 6 6,Qp 11 11],[Qe 0 [.own 12 12 QI,.box 6 Q11,.box 11 Q10,.box pinned Q16,Qp 6 6,Qp 11 11],Qr [8,.own 7 7 QI,.box 6 Q11,.box pinned Q16,Qp 6 6]])],[],[]⟩
def b1i(s:(Int×Int×Bool×Int×Int×Z14×b2Y)):Option ((Int×Int×Bool×Int×Int×Z14×b2Y) ⊕ (Int×Int×Bool×Z14×b2Y)):=cond (decide (s.2.2.2.2.1<s.2.2.2.1)) ((a1c (s.2.2.2.2.2.1,s.2.1)).bind fun y7=>cond (lim ((a01 s.2.2.2.2.2.2.2.1.2.2.2.2.2.2.2.2.1)+1)) (some (.inl (s.1,s.2.1,s.2.2.1,s.2.2.2.1,wrap .i64 (s.2.2.2.2.1+1),y7.2,s.2.2.2.2.2.2.1,(s.2.2.2.2.2.2.2.1.1,s.2.2.2.2.2.2.2.1.2.1,s.2.2.2.2.2.2.2.1.2.2.1,s.2.2.2.2.2.2.2.1.2.2.2.1,s.2.2.2.2.2.2.2.1.2.2.2.2.1,s.2.2.2.2.2.2.2.1.2.2.2.2.2.1,s.2.2.2.2.2.2.2.1.2.2.2.2.2.2.1,s.2.2.2.2.2.2.2.1.2.2.2.2.2.2.2.1,a03 s.2.2.2.2.2.2.2.1.2.2.2.2.2.2.2.2.1 [y7.1],s.2.2.2.2.2.2.2.1.2.2.2.2.2.2.2.2.2),()))) none) (some (.inr (s.1,s.2.1,s.2.2.1,s.2.2.2.2.2.1,s.2.2.2.2.2.2.1,s.2.2.2.2.2.2.2.1,())))
def b2N(x:Z31):Option (a2d×Z30):=cond (decide (x.2<1)) (some ((0,0,0,0,0,[],a02 3 0,[],[],(0,[],()),[],()),1,x.1)) (cond (decide (x.2 > 4096)) (some ((0,0,0,0,0,[],a02 3 0,[],[],(0,[],()),[],()),1,x.1)) ((a0O x.1).bind fun y1=>cond (y1.1 != 0) (some ((0,0,0,0,0,[],a02 3 0,[],[],(0,[],()),[],()),y1.1,y1.2)) ((a9X y1.2).bind fun y2=>(a0O y2.2.2.2).bind fun y3=>cond (y3.1 != 0) (some ((0,0,0,0,0,[],a02 3 0,[],[],(0,[],()),[],()),y3.1,y3.2)) ((a8s (y2.1.1,y2.1,x.2)).bind fun y4=>cond (!y4) (some ((0,0,0,0,0,[],a02 3 0,[],[],(0,[],()),[],()),2,y3.2)) ((a4P (y2.1,x.2)).bind fun y5=>(y0s b1i (x.2,y2.2.1,y2.2.2.1,y5,0,y3.2,(0,0,0,0,0,[],a02 3 0,[],[],(0,[],()),[],()),y2.1,())).bind fun w8=>(a0O w8.2.2.2.1).bind fun y9=>cond (y9.1 != 0) (some ((0,0,0,0,0,[],a02 3 0,[],[],(0,[],()),[],()),y9.1,y9.2)) ((a6t w8.2.2.2.2.2.1.1).bind fun y10=>cond y10 ((b2q (y9.2,w8.1,(w8.2.2.2.2.2.1.2.2.2.2.2.2.2.2.1.length:Int))).bind fun y11=>cond (y11.2.2.1 != 0) (some ((0,0,0,0,0,[],a02 3 0,[],[],(0,[],()),[],()),y11.2.2.1,y11.2.2.2)) (cond (!w8.2.2.1) (some ((0,0,0,0,0,[],a02 3 0,[],[],(0,[],()),[],()),2,y11.2.2.2)) ((a1w w8.2.2.2.2.2.1.2.2.2.2.2.2.2.2.1).bind fun y12=>cond (y12 != w8.2.1) (some ((0,0,0,0,0,[],a02 3 0,[],[],(0,[],()),[],()),2,y11.2.2.2)) ((b0Q ((w8.2.2.2.2.2.1.1,w8.2.2.2.2.2.1.2.1,w8.2.2.2.2.2.1.2.2.1,w8.2.2.2.2.2.1.2.2.2.1,w8.2.2.2.2.2.1.2.2.2.2.1,w8.2.2.2.2.2.1.2.2.2.2.2.1,w8.2.2.2.2.2.1.2.2.2.2.2.2.1,w8.2.2.2.2.2.1.2.2.2.2.2.2.2.1,w8.2.2.2.2.2.1.2.2.2.2.2.2.2.2.1,y11.1,y11.2.1,w8.2.2.2.2.2.1.2.2.2.2.2.2.2.2.2.2.2),w8.1)).bind fun y13=>cond (!y13) (some ((0,0,0,0,0,[],a02 3 0,[],[],(0,[],()),[],()),2,y11.2.2.2)) (some ((w8.2.2.2.2.2.1.1,w8.2.2.2.2.2.1.2.1,w8.2.2.2.2.2.1.2.2.1,w8.2.2.2.2.2.1.2.2.2.1,w8.2.2.2.2.2.1.2.2.2.2.1,w8.2.2.2.2.2.1.2.2.2.2.2.1,w8.2.2.2.2.2.1.2.2.2.2.2.2.1,w8.2.2.2.2.2.1.2.2.2.2.2.2.2.1,w8.2.2.2.2.2.1.2.2.2.2.2.2.2.2.1,y11.1,y11.2.1,w8.2.2.2.2.2.1.2.2.2.2.2.2.2.2.2.2.2),0,y11.2.2.2)))))) (cond (!w8.2.2.1) (some ((0,0,0,0,0,[],a02 3 0,[],[],(0,[],()),[],()),2,y9.2)) ((a1w w8.2.2.2.2.2.1.2.2.2.2.2.2.2.2.1).bind fun y14=>cond (y14 != w8.2.1) (some ((0,0,0,0,0,[],a02 3 0,[],[],(0,[],()),[],()),2,y9.2)) ((b0Q (w8.2.2.2.2.2.1,w8.1)).bind fun y15=>cond (!y15) (some ((0,0,0,0,0,[],a02 3 0,[],[],(0,[],()),[],()),2,y9.2)) (some (w8.2.2.2.2.2.1,0,y9.2)))))))))))
def c2B:FSem:=⟨[.r false (.b Q16),.v QI],[.v Q42,.v QI],b2N⟩
def H58:Hints:=⟨[(1018,[1,8,.sv 9 .bool,47,48,.box pinned Q16,.box 4 Q42,.box 7 (.pair QI (.pair QI (.pair QI (.pair QI (.pair QI (.pair QL (.pair (.arr 3 QI) (.pair (.list false Q3) (.pair (.list true QI) Q20))))))))),Qp 0 pinned,Qp 4 4,Qp 7 7],[Qe 0 [1,8,.sv 9 .bool,.box pinned Q16,.box 4 Q42,.box 7 (.pair QI (.pair QI (.pair QI (.pair QI (.pair QI (.pair QL (.pair (.arr 3 QI) (.pair (.list false Q3) (.pair (.list true QI) Q20))))))))),Qp 0 pinned,Qp 4 4,Qp 7 7]])],[],[(14,[.r [7,50],.r [7,51],.p,.v,.w [54,1054,pinned],.q,.x,.x,.x])]⟩
def a3y(s:Z66):Option (Z66 ⊕ (Z54 ⊕ Z36)):=cond (decide (s.2.1<s.1)) ((a1F (s.2.2.1,s.2.1)).bind fun y1=>cond (y1.1==1) (some (.inr (Sum.inr (((y1.2.1,y1.2.2.1,2,y1.2.2.2.2),()))))) (some (.inl (s.1,wrap .i64 (s.2.1+1),y1.2,())))) (some (.inr (Sum.inl (s.1,s.2.2.1,()))))
def a5i(x:Z14):Option Z14:=cond (x.2.2.1 != 0) (some x) ((y0s a3y (wrap .i64 ((wrap .i64 (a07 (wrap .i64 (x.2.1+7)) 8))*8),x.2.1,x,())).bind fun w2=>match w2 with |.inl a3=>some (a3.2.1.1,a3.1,a3.2.1.2.2) |.inr b4=>some b4.1)
def b1H:FSem:=⟨[.r false (.b Q16)],[],a5i⟩
def H60:Hints:=⟨[(58,[2,3,.box pinned Q16,Qp 0 pinned],[Qe 0 [2,.box pinned Q16,Qp 0 pinned],Qr [.box pinned Q16]])],[],[]⟩
end Go.Ab
namespace Go.Ab
open IntKind(wrap)
open Go.Proofs
set_option maxRecDepth 100000
set_option linter.unusedVariables false
def a8f(s:(Int×Int×Int×a2I×c1U)):Option ((Int×Int×Int×a2I×c1U) ⊕ ((Int×a2I×c1U) ⊕ (Int×Int×b5q))):=cond (decide (s.2.2.1<s.2.1)) ((b2N (s.2.2.2.2.2.1,s.2.2.2.2.1.2.1)).bind fun y7=>cond (y7.2.1 != 0) (some (.inr (Sum.inr ((0,2,(0,0,(0,0,0,()),[],[],()),()))))) (cond (lim ((a01 s.2.2.2.2.1.2.2.2.2.1)+1)) (some (.inl (s.1,s.2.1,wrap .i64 (s.2.2.1+1),s.2.2.2.1,(s.2.2.2.2.1.1,s.2.2.2.2.1.2.1,s.2.2.2.2.1.2.2.1,s.2.2.2.2.1.2.2.2.1,a03 s.2.2.2.2.1.2.2.2.2.1 ([y7.1]:List a2d),s.2.2.2.2.1.2.2.2.2.2),y7.2.2,()))) none)) (some (.inr (Sum.inl (s.1,s.2.2.2.1,s.2.2.2.2.1,s.2.2.2.2.2.1,()))))
def a6z(x:LI):Option (a2I×Int×Int):=(a8e x).bind fun y1=>cond (y1.2.2.2 != 0) (some ((0,0,(0,0,0,()),[],[],()),0,y1.2.2.2)) (cond (decide ((x.length:Int)<(wrap .i64 ((wrap .i64 (y1.2.1+y1.2.2.1))+2)))) (some ((0,0,(0,0,0,()),[],[],()),0,3)) (cond ((decide (0≤(wrap .i64 (y1.2.1+y1.2.2.1))))&&(decide ((wrap .i64 (y1.2.1+y1.2.2.1))≤(x.length:Int)))) ((a6y (a06 (a00 (wrap .i64 (y1.2.1+y1.2.2.1))) x)).bind fun y2=>(m0k x (wrap .i64 (y1.2.1+y1.2.2.1))).bind fun x3=>(m0k x (wrap .i64 ((wrap .i64 (y1.2.1+y1.2.2.1))+1))).bind fun x4=>cond (y2 != (bits .u16 .or (A0n .u16 (wrap .u16 x3) 8) (wrap .u16 x4))) (some ((0,0,(0,0,0,()),[],[],()),0,5)) (cond ((decide (0≤(wrap .i64 (y1.2.1+y1.2.2.1))))&&(decide ((wrap .i64 (y1.2.1+y1.2.2.1))≤(x.length:Int)))) (cond ((decide (0≤y1.2.1))&&(decide (y1.2.1≤((a00 (wrap .i64 (y1.2.1+y1.2.2.1)):Nat):Int)))) ((b3z (a08 (a00 y1.2.1) (a06 (a00 (wrap .i64 (y1.2.1+y1.2.2.1))) x))).bind fun y5=>(y0s a8f (wrap .i64 (y1.2.1+y1.2.2.1),y1.1.2.2.1.2.1,0,(0,0,(0,0,0,()),[],[],()),y1.1,y5,())).bind fun w8=>match w8 with |.inl a9=>((a2M a9.2.2.2.1).bind fun y11=>cond (decide (y11.1≥8)) (some ((0,0,(0,0,0,()),[],[],()),0,2)) ((a5i y11.2).bind fun y12=>(a0O y12).bind fun y13=>cond (y13.1 != 0) (some ((0,0,(0,0,0,()),[],[],()),0,2)) ((a4z a9.2.2.1).bind fun y14=>cond (!y14) (some ((0,0,(0,0,0,()),[],[],()),0,2)) (some (a9.2.2.1,wrap .i64 (a9.1+2),0))))) |.inr b10=>some (b10.2.2.1,b10.1,b10.2.1)) none) none)) none))
def b7M:FSem:=⟨[.v QB],[.v Q60,.v QI,.v QI],a6z⟩
def H24:Hints:=⟨[(2042,[9,59,60,.box 2 Q60,.box 5 Q59,.box 1056 Q16,Qp 2 2,Qp 5 5,Qp 10 1056],[Qe 0 [9,.box 2 Q60,.box 5 Q59,.box 1056 Q16,Qp 2 2,Qp 5 5,Qp 10 1056],Qr [3,4,.box 2 Q60,Qp 2 2]])],[],[(7,[.v,.v,.v,.v,.v,.v,.v,.v,.v,.v,.v,.v,.v,.v,.v,.v,.v,.x])]⟩
def a7a(x:(LI×(Z95×Int×Int×Int))):Option (a2I×Z29):=(m0k x.2.1.2.1 x.2.2.1).bind fun x1=>cond (decide ((wrap .i64 ((x.1.length:Int)-x.2.2.2.1))<x1)) (some ((0,0,(0,0,0,()),[],[],()),(0,([]:(List LI)),()),3)) (cond ((decide (0≤(wrap .i64 (x.2.2.2.1+x1))))&&(decide ((wrap .i64 (x.2.2.2.1+x1))≤(x.1.length:Int)))) (cond ((decide (0≤x.2.2.2.1))&&(decide (x.2.2.2.1≤((a00 (wrap .i64 (x.2.2.2.1+x1)):Nat):Int)))) ((a6z (a08 (a00 x.2.2.2.1) (a06 (a00 (wrap .i64 (x.2.2.2.1+x1))) x.1))).bind fun y2=>cond (y2.2.2 != 0) (some ((0,0,(0,0,0,()),[],[],()),(0,([]:(List LI)),()),y2.2.2)) ((show Option (Bool×a2I×c3R)from cond (decide (y2.2.1<x1)) (some (true,(0,0,(0,0,0,()),[],[],()),(0,([]:(List LI)),()),y2.1,())) (cond (!(eqT Q12 y2.1.2.2.1 x.2.1.1)) (some (true,(0,0,(0,0,0,()),[],[],()),(0,([]:(List LI)),()),y2.1,())) (cond (y2.1.1 != x.2.2.2.2) (some (true,(0,0,(0,0,0,()),[],[],()),(0,([]:(List LI)),()),y2.1,())) ((m0k x.2.1.2.2.1 x.2.2.1).bind fun x3=>some (y2.1.2.1 != x3,(0,0,(0,0,0,()),[],[],()),(0,([]:(List LI)),()),y2.1,()))))).bind fun z4=>cond z4.1 (some ((0,0,(0,0,0,()),[],[],()),(0,([]:(List LI)),()),2)) ((a2b z4.2.2.2.1).bind fun y5=>cond (y5.2 != 0) (some ((0,0,(0,0,0,()),[],[],()),(0,([]:(List LI)),()),y5.2)) (some (z4.2.2.2.1,y5.1,0))))) none) none)
def b4f:FSem:=⟨[.v QB,.v Q27,.v QI,.v QI,.v QI],[.v Q60,.v Q15,.v QI],a7a⟩
def H38:Hints:=⟨[],[(126,[Qn [.sv 72 .bool,.box 10 Q60,.box 11 Q15,.box 14 Q60,Qp 10 10,Qp 11 11,Qp 14 14]])],[(7,[.v,.v,.x,.x,.q,.q,.v,.v,.x,.x,.x,.q,.q,.v,.x,.x,.x,.q,.q,.v,.v,.v,.v,.v,.x,.x]),(12,[.q,.r [17,86],.w [0,10],.x,.x])]⟩
def a6m(x:(Int×Int)):Option (Int×Int):=some (wrap .u64 ((wrap .u64 ((wrap .u64 ((A0o .u64 x.1 32)*(A0o .u64 x.2 32)))+(A0o .u64 (wrap .u64 ((wrap .u64 ((A0o .u64 x.1 32)*(bits .u64 .and x.2 4294967295)))+(A0o .u64 (wrap .u64 ((bits .u64 .and x.1 4294967295)*(bits .u64 .and x.2 4294967295))) 32))) 32)))+(A0o .u64 (wrap .u64 ((bits .u64 .and (wrap .u64 ((wrap .u64 ((A0o .u64 x.1 32)*(bits .u64 .and x.2 4294967295)))+(A0o .u64 (wrap .u64 ((bits .u64 .and x.1 4294967295)*(bits .u64 .and x.2 4294967295))) 32))) 4294967295)+(wrap .u64 ((bits .u64 .and x.1 4294967295)*(A0o .u64 x.2 32))))) 32)),wrap .u64 (x.1*x.2))
def b3o:FSem:=⟨[.v QU,.v QU],[.v QU,.v QU],a6m⟩
def a9u(x:(Int×Int×Int)):Option (Int×Int):=cond (decide (x.2.2.toNat≤1)) (some ((((x.1.toNat+x.2.1.toNat+x.2.2.toNat)%18446744073709551616:Nat):Int),(((x.1.toNat+x.2.1.toNat+x.2.2.toNat) / 18446744073709551616:Nat):Int))) none
def b3p:FSem:=⟨[.v QU,.v QU,.v QU],[.v QU,.v QU],a9u⟩
def d2P:Hints:=⟨[],[(3,[Qn [.sv 0 QU,2]]),(7,[Qn [.sv 0 QU,2]]),(15,[Qn [.sv 0 QU,2]])],[]⟩
def b3q(x:Int):Option Int:=A0j (b2Z [] [] [0,2] []) d2P Tryz.f208 [.v (.int .u64)] [.v (.int .i64)] x
def b3r:FSem:=⟨[.v QU],[.v QI],b3q⟩
def a4d(x:Int):Option Int:=(b3q x).bind fun y1=>some (wrap .i64 (64-y1))
def a7x:FSem:=⟨[.v QU],[.v QI],a4d⟩
def a2f(s:Z91):Option (Z91 ⊕ Z83):=(show Option (Z91 ⊕ Z83)from cond (decide (s.2.2.2.2.2.2.2.1≥4294967296)) (some (Sum.inl (s.1,s.2.1,s.2.2.1,s.2.2.2.1,s.2.2.2.2.1,s.2.2.2.2.2.1,s.2.2.2.2.2.2.1,s.2.2.2.2.2.2.2.1,s.2.2.2.2.2.2.2.2.1,()))) (cond (decide ((wrap .u64 (s.2.2.2.2.2.2.2.1*s.2.2.2.1)) > (wrap .u64 ((wrap .u64 (4294967296*s.2.2.2.2.2.2.2.2.1))+s.2.2.2.2.2.1)))) (some (Sum.inl (s.1,s.2.1,s.2.2.1,s.2.2.2.1,s.2.2.2.2.1,s.2.2.2.2.2.1,s.2.2.2.2.2.2.1,s.2.2.2.2.2.2.2.1,s.2.2.2.2.2.2.2.2.1,()))) (some (Sum.inr ((s.1,s.2.1,s.2.2.1,s.2.2.2.1,s.2.2.2.2.1,s.2.2.2.2.2.1,s.2.2.2.2.2.2.1,s.2.2.2.2.2.2.2.1,())))))).bind fun z2=>match z2 with |.inl a3=>(cond (decide ((wrap .u64 (a3.2.2.2.2.2.2.2.2.1+a3.2.2.1))≥4294967296)) (some (.inr (a3.1,a3.2.1,a3.2.2.1,a3.2.2.2.1,a3.2.2.2.2.1,a3.2.2.2.2.2.1,a3.2.2.2.2.2.2.1,wrap .u64 (a3.2.2.2.2.2.2.2.1-1),()))) (some (.inl (a3.1,a3.2.1,a3.2.2.1,a3.2.2.2.1,a3.2.2.2.2.1,a3.2.2.2.2.2.1,a3.2.2.2.2.2.2.1,wrap .u64 (a3.2.2.2.2.2.2.2.1-1),wrap .u64 (a3.2.2.2.2.2.2.2.2.1+a3.2.2.1),())))) |.inr b4=>some (.inr (b4.1,b4.2.1,b4.2.2.1,b4.2.2.2.1,b4.2.2.2.2.1,b4.2.2.2.2.2.1,b4.2.2.2.2.2.2.1,b4.2.2.2.2.2.2.2.1,()))
def a2g(s:Z91):Option (Z91 ⊕ Z55):=(show Option (Z91 ⊕ Z55)from cond (decide (s.2.2.2.2.2.2.2.2.1≥4294967296)) (some (Sum.inl (s.1,s.2.1,s.2.2.1,s.2.2.2.1,s.2.2.2.2.1,s.2.2.2.2.2.1,s.2.2.2.2.2.2.1,s.2.2.2.2.2.2.2.1,s.2.2.2.2.2.2.2.2.1,()))) (cond (decide ((wrap .u64 (s.2.2.2.2.2.2.2.2.1*s.2.2.2.1)) > (wrap .u64 ((wrap .u64 (4294967296*s.2.2.2.2.2.2.1))+s.2.2.2.2.1)))) (some (Sum.inl (s.1,s.2.1,s.2.2.1,s.2.2.2.1,s.2.2.2.2.1,s.2.2.2.2.2.1,s.2.2.2.2.2.2.1,s.2.2.2.2.2.2.2.1,s.2.2.2.2.2.2.2.2.1,()))) (some (Sum.inr ((s.1,s.2.1,s.2.2.2.2.1,s.2.2.2.2.2.1,s.2.2.2.2.2.2.2.1,s.2.2.2.2.2.2.2.2.1,())))))).bind fun z6=>match z6 with |.inl a7=>(cond (decide ((wrap .u64 (a7.2.2.2.2.2.2.1+a7.2.2.1))≥4294967296)) (some (.inr (a7.1,a7.2.1,a7.2.2.2.2.1,a7.2.2.2.2.2.1,a7.2.2.2.2.2.2.2.1,wrap .u64 (a7.2.2.2.2.2.2.2.2.1-1),()))) (some (.inl (a7.1,a7.2.1,a7.2.2.1,a7.2.2.2.1,a7.2.2.2.2.1,a7.2.2.2.2.2.1,wrap .u64 (a7.2.2.2.2.2.2.1+a7.2.2.1),a7.2.2.2.2.2.2.2.1,wrap .u64 (a7.2.2.2.2.2.2.2.2.1-1),())))) |.inr b8=>some (.inr (b8.1,b8.2.1,b8.2.2.1,b8.2.2.2.1,b8.2.2.2.2.1,b8.2.2.2.2.2.1,()))
def a3b(x:(Int×Int×Int)):Option (Int×Int):=cond (x.2.2==0) none (cond (decide (x.2.2≤x.1)) none (cond (x.1==0) (cond (x.2.2==0) none (cond (x.2.2==0) none (some (wrap .u64 (a07 x.2.1 x.2.2),a05 x.2.1 x.2.2)))) ((a4d x.2.2).bind fun y1=>cond (decide ((wrap .u64 y1)<0)) none (cond (decide ((wrap .u64 y1)<0)) none (cond (decide ((wrap .u64 (64-(wrap .u64 y1)))<0)) none (cond (decide ((wrap .u64 y1)<0)) none (cond ((A0o .u64 (A0n .u64 x.2.2 (wrap .u64 y1)) 32)==0) none ((y0s a2f (A0n .u64 x.2.2 (wrap .u64 y1),wrap .u64 y1,A0o .u64 (A0n .u64 x.2.2 (wrap .u64 y1)) 32,bits .u64 .and (A0n .u64 x.2.2 (wrap .u64 y1)) 4294967295,bits .u64 .or (A0n .u64 x.1 (wrap .u64 y1)) (A0o .u64 x.2.1 (wrap .u64 (64-(wrap .u64 y1)))),A0o .u64 (A0n .u64 x.2.1 (wrap .u64 y1)) 32,bits .u64 .and (A0n .u64 x.2.1 (wrap .u64 y1)) 4294967295,wrap .u64 (a07 (bits .u64 .or (A0n .u64 x.1 (wrap .u64 y1)) (A0o .u64 x.2.1 (wrap .u64 (64-(wrap .u64 y1))))) (A0o .u64 (A0n .u64 x.2.2 (wrap .u64 y1)) 32)),wrap .u64 ((bits .u64 .or (A0n .u64 x.1 (wrap .u64 y1)) (A0o .u64 x.2.1 (wrap .u64 (64-(wrap .u64 y1)))))-(wrap .u64 ((wrap .u64 (a07 (bits .u64 .or (A0n .u64 x.1 (wrap .u64 y1)) (A0o .u64 x.2.1 (wrap .u64 (64-(wrap .u64 y1))))) (A0o .u64 (A0n .u64 x.2.2 (wrap .u64 y1)) 32)))*(A0o .u64 (A0n .u64 x.2.2 (wrap .u64 y1)) 32)))),())).bind fun w5=>cond (w5.2.2.1==0) none ((y0s a2g (w5.1,w5.2.1,w5.2.2.1,w5.2.2.2.1,w5.2.2.2.2.2.2.1,w5.2.2.2.2.2.2.2.1,wrap .u64 ((wrap .u64 ((wrap .u64 ((wrap .u64 (w5.2.2.2.2.1*4294967296))+w5.2.2.2.2.2.1))-(wrap .u64 (w5.2.2.2.2.2.2.2.1*w5.1))))-(wrap .u64 ((wrap .u64 (a07 (wrap .u64 ((wrap .u64 ((wrap .u64 (w5.2.2.2.2.1*4294967296))+w5.2.2.2.2.2.1))-(wrap .u64 (w5.2.2.2.2.2.2.2.1*w5.1)))) w5.2.2.1))*w5.2.2.1))),wrap .u64 ((wrap .u64 ((wrap .u64 (w5.2.2.2.2.1*4294967296))+w5.2.2.2.2.2.1))-(wrap .u64 (w5.2.2.2.2.2.2.2.1*w5.1))),wrap .u64 (a07 (wrap .u64 ((wrap .u64 ((wrap .u64 (w5.2.2.2.2.1*4294967296))+w5.2.2.2.2.2.1))-(wrap .u64 (w5.2.2.2.2.2.2.2.1*w5.1)))) w5.2.2.1),())).bind fun w9=>cond (decide (w9.2.1<0)) none (some (wrap .u64 ((wrap .u64 (w9.2.2.2.1*4294967296))+w9.2.2.2.2.2.1),A0o .u64 (wrap .u64 ((wrap .u64 ((wrap .u64 (w9.2.2.2.2.1*4294967296))+w9.2.2.1))-(wrap .u64 (w9.2.2.2.2.2.1*w9.1)))) w9.2.1)))))))))))
def b3s:FSem:=⟨[.v QU,.v QU,.v QU],[.v QU,.v QU],a3b⟩
def d6T:Hints:=⟨[(131068,[.sv 2 QU,.sv 8 QU,.sv 9 QU,.sv 10 QU,.sv 11 QU,.sv 13 QU,.sv 14 QU,.sv 15 QU,.sv 16 QU],[Qe 0 [.sv 2 QU,.sv 8 QU,.sv 9 QU,.sv 10 QU,.sv 11 QU,.sv 13 QU,.sv 14 QU,.sv 15 QU]]),(2097148,[.sv 2 QU,.sv 8 QU,.sv 9 QU,.sv 10 QU,.sv 14 QU,.sv 15 QU,.sv 16 QU,.sv 17 QU,.sv 18 QU],[Qe 2 [.sv 2 QU,.sv 8 QU,.sv 14 QU,.sv 15 QU,.sv 17 QU,.sv 18 QU]])],[(262136,[Qn [.sv 2 QU,.sv 8 QU,.sv 9 QU,.sv 10 QU,.sv 11 QU,.sv 13 QU,.sv 14 QU,.sv 15 QU,.sv 16 QU],Qe 0 [.sv 2 QU,.sv 8 QU,.sv 9 QU,.sv 10 QU,.sv 11 QU,.sv 13 QU,.sv 14 QU,.sv 15 QU]]),(4194296,[Qn [.sv 2 QU,.sv 8 QU,.sv 9 QU,.sv 10 QU,.sv 14 QU,.sv 15 QU,.sv 16 QU,.sv 17 QU,.sv 18 QU],Qe 2 [.sv 2 QU,.sv 8 QU,.sv 14 QU,.sv 15 QU,.sv 17 QU,.sv 18 QU]])],[(6,[.v,.v,.v,.v,.v,.v,.v,.x])]⟩
def a9v(x:(Int×Int×Int)):Option Int:=cond (x.2.2==0) none ((a3b (a05 x.1 x.2.2,x.2.1,x.2.2)).bind fun y1=>some y1.2)
def b3t:FSem:=⟨[.v QU,.v QU,.v QU],[.v QU],a9v⟩
def a6c(x:(Int×Int×Int)):Option Int:=(a6m (x.1,x.2.1)).bind fun y1=>(a9u (y1.2,x.2.2,0)).bind fun y2=>(a9v (wrap .u64 (y1.1+y2.2),y2.1,2305843009213693951)).bind fun y3=>some y3
def b2r:FSem:=⟨[.v QU,.v QU,.v QU],[.v QU],a6c⟩
def a8g(s:Z8):Option (Z8 ⊕ (Int×Unit)):=cond (decide (s.1 > 0)) ((show Option Z8 from cond ((a05 s.1 2)==1) ((a6c (s.2.1,s.2.2.1,0)).bind fun y1=>some (s.1,y1,s.2.2.1,())) (some (s.1,s.2.1,s.2.2.1,()))).bind fun z2=>(a6c (z2.2.2.1,z2.2.2.1,0)).bind fun y3=>some (.inl (wrap .i64 (a07 z2.1 2),z2.2.1,y3,()))) (some (.inr (s.2.1,())))
def b1j(x:Int):Option Int:=(y0s a8g (v0r x 0,1,1000003,())).bind fun w4=>some w4.1
def b7N:FSem:=⟨[.v QI],[.v QU],b1j⟩
def H69:Hints:=⟨[(58,[0,.sv 3 QU,.sv 4 QU],[Qe 0 [.sv 3 QU]])],[(932,[Qn [0,.sv 3 QU,.sv 4 QU]])],[]⟩
def a9I(x:(Int×Int×Int)):Option (Int×Bool):=(show Option Z23 from cond (decide (x.1≥2305843009213693951)) (some (x.1,x.2.1,x.2.2,true,())) (cond (decide (x.2.1≥2305843009213693951)) (some (x.1,x.2.1,x.2.2,true,())) (some (x.1,x.2.1,x.2.2,decide (x.2.2<0),())))).bind fun z1=>cond z1.2.2.2.1 (some (0,false)) ((b1j z1.2.2.1).bind fun y2=>(a6c (z1.1,y2,z1.2.1)).bind fun y3=>some (y3,true))
def b5w:FSem:=⟨[.v QU,.v QU,.v QI],[.v QU,.v .bool],a9I⟩
def H29:Hints:=⟨[],[(6,[Qn [.sv 0 QU,.sv 1 QU,2,.sv 17 .bool]])],[]⟩
def a7b(s:(Int×(Int×(Int×((List LI)×Z87))))):Option ((Int×(Int×(Int×((List LI)×Z87)))) ⊕ Z87):=cond (decide (s.2.2.2.2.2.1<s.2.2.2.2.1)) ((m0k s.2.2.2.1 s.2.2.2.2.2.1).bind fun x3=>(m0k x3 s.1).bind fun x4=>cond (lim ((a01 s.2.2.2.2.2.2.1)+1)) (some (.inl (s.1,s.2.1,s.2.2.1,s.2.2.2.1,s.2.2.2.2.1,wrap .i64 (s.2.2.2.2.2.1+1),a03 s.2.2.2.2.2.2.1 [x4],s.2.2.2.2.2.2.2.1,()))) none) (some (.inr (s.2.1,s.2.2.1,s.2.2.2.2.2.2.1,s.2.2.2.2.2.2.2.1,())))
def a7c(s:Z87):Option (Z87 ⊕ (LI×Unit)):=cond (decide (s.2.1<s.1)) ((y0s a7b (s.2.1,s.1,s.2.1,s.2.2.2.1.2.1,(s.2.2.2.1.2.1.length:Int),0,s.2.2.1,s.2.2.2.1,())).bind fun w5=>some (.inl (w5.1,wrap .i64 (w5.2.1+1),w5.2.2.1,w5.2.2.2.1,()))) (some (.inr (s.2.2.1,())))
def a7y(x:Z12):Option LI:=(a3w x).bind fun y1=>cond (!y1) (some []) ((a3v x).bind fun y2=>(y0s a7c (y2,0,[],x,())).bind fun w6=>some w6.1)
def b3h:FSem:=⟨[.v Q15],[.o QI],a7y⟩
def H41:Hints:=⟨[(122,[11,12,.own 3 3 QI,.vp 1 Q15],[Qe 0 [.own 3 3 QI]]),(31334,[4,11,12,.sv 16 (.list false QL),17,18,.own 3 3 QI,.vp 1 Q15],[Qe 2 [11,12,.own 3 3 QI,.vp 1 Q15]])],[],[]⟩
def a4S(s:(Int×(Int×(Int×(LI×(Int×Z34)))))):Option ((Int×(Int×(Int×(LI×(Int×Z34))))) ⊕ Z77):=cond (decide (s.2.2.2.2.2.2.2.1<s.2.2.2.2.2.2.1)) (cond (decide ((wrap .i64 (8*s.2.2.2.2.2.2.2.1))<0)) none (cond (lim ((a01 s.2.2.2.2.2.2.2.2.1)+1)) (some (.inl (s.1,s.2.1,s.2.2.1,s.2.2.2.1,s.2.2.2.2.1,s.2.2.2.2.2.1,s.2.2.2.2.2.2.1,wrap .i64 (s.2.2.2.2.2.2.2.1+1),a03 s.2.2.2.2.2.2.2.2.1 [wrap .u8 (bits .i64 .and (A0o .i64 s.2.2.1 (wrap .i64 (8*s.2.2.2.2.2.2.2.1))) 255)],()))) none)) (some (.inr (s.1,s.2.1,s.2.2.2.1,s.2.2.2.2.1,s.2.2.2.2.2.1,s.2.2.2.2.2.2.2.2.1,())))
def a7d(s:Z77):Option (Z77 ⊕ Z50):=cond (decide (s.2.2.2.2.1<s.2.2.2.1)) ((m0k s.2.2.1 s.2.2.2.2.1).bind fun x2=>(a2a (x2,s.1)).bind fun y3=>cond (!y3) (some (.inr (Sum.inr ((6,[],()))))) ((y0s a4S (s.1,s.2.1,x2,s.2.2.1,s.2.2.2.1,s.2.2.2.2.1,s.2.1,0,s.2.2.2.2.2.1,())).bind fun w4=>some (.inl (w4.1,w4.2.1,w4.2.2.1,w4.2.2.2.1,wrap .i64 (w4.2.2.2.2.1+1),w4.2.2.2.2.2.1,())))) (some (.inr (Sum.inl (s.2.2.2.2.2.1,()))))
def a9Z(x:(LI×Int)):Option (LI×Int):=(show Option Z18 from cond (decide (x.2<4)) (some (x.1,x.2,true,())) (some (x.1,x.2,decide (x.2 > 24),()))).bind fun z1=>cond z1.2.2.1 (some ([],1)) ((y0s a7d (z1.2.1,wrap .i64 (a07 (wrap .i64 (z1.2.1+7)) 8),z1.1,(z1.1.length:Int),0,[],())).bind fun w5=>match w5 with |.inl a6=>some (a6.1,0) |.inr b7=>some (b7.2.1,b7.1))
def b7n:FSem:=⟨[.v QL,.v QI],[.o QV,.v QI],a9Z⟩
def d6U:Hints:=⟨[(250,[1,6,.sv 20 QL,21,22,.own 7 7 QV],[Qe 0 [.own 7 7 QV],Qr [5,.own 4 4 QV]]),(128206,[1,6,9,.sv 20 QL,21,22,30,31,.own 7 7 QV],[Qe 2 [1,6,.sv 20 QL,21,22,.own 7 7 QV]])],[(6,[Qn [.sv 0 QL,1,.sv 16 .bool]])],[]⟩
def a8x(x:Z12):Option (LI×Int):=(a3w x).bind fun y1=>cond (!y1) (some ([],1)) ((a7y x).bind fun y2=>(a9Z (y2,x.1)).bind fun y3=>some (y3.1,y3.2))
def b4g:FSem:=⟨[.v Q15],[.o QV,.v QI],a8x⟩
def H76:Hints:=⟨[],[],[(3,[.v,.q,.v,.v,.x,.q,.q,.x,.x])]⟩
def a8h(s:Z30):Option Z67:=cond (decide (s.2.2.2.1<s.2.2.1)) ((m0k s.2.1 s.2.2.2.1).bind fun x1=>(a6c (s.1,1000003,wrap .u64 ((wrap .u64 x1)+1))).bind fun y2=>some (.inl (y2,s.2.1,s.2.2.1,wrap .i64 (s.2.2.2.1+1),()))) (some (.inr (s.1,())))
def a8y(x:LI):Option Int:=(y0s a8h (0,x,(x.length:Int),0,())).bind fun w3=>some w3.1
def b4h:FSem:=⟨[.v QB],[.v QU],a8y⟩
def H77:Hints:=⟨[(58,[.sv 3 QU,.sv 6 QB,7,8],[Qe 0 [.sv 3 QU]])],[],[]⟩
def a4J(x:Z28):Option (Int×Bool):=(a8x x.2).bind fun y1=>cond (y1.2 != 0) (some (0,false)) ((a8y y1.1).bind fun y2=>(a9I (x.1,y2,(y1.1.length:Int))).bind fun y3=>some (y3.1,y3.2))
def a8W:FSem:=⟨[.v QU,.v Q15],[.v QU,.v .bool],a4J⟩
def a3S(s:(LI×(Int×(LI×(Int×Int×a8p×Z95×b0I))))):Option ((LI×(Int×(LI×(Int×Int×a8p×Z95×b0I)))) ⊕ ((LI×(Int×a8p×Z95×b0I)) ⊕ (Int×b0I))):=cond (decide (s.2.2.2.2.1<s.2.2.2.1)) ((m0k s.2.2.1 s.2.2.2.2.1).bind fun x2=>(a7a (s.1,s.2.2.2.2.2.2.1,s.2.2.2.2.1,s.2.1,s.2.2.2.2.2.2.2.1.2.1)).bind fun y3=>cond (y3.2.2 != 0) (some (.inr (Sum.inr ((y3.2.2,((0,0,0,()),0,0,[],[],()),()))))) ((a4J (s.2.2.2.2.2.2.2.1.2.2.1,y3.2.1)).bind fun y4=>cond (lim ((a01 s.2.2.2.2.2.2.2.1.2.2.2.1)+1)) (cond (lim ((a01 s.2.2.2.2.2.2.2.1.2.2.2.2.1)+1)) (some (.inl (s.1,wrap .i64 (s.2.1+x2),s.2.2.1,s.2.2.2.1,wrap .i64 (s.2.2.2.2.1+1),s.2.2.2.2.2.1,s.2.2.2.2.2.2.1,(s.2.2.2.2.2.2.2.1.1,wrap .i64 (s.2.2.2.2.2.2.2.1.2.1+y3.1.2.1),y4.1,a03 s.2.2.2.2.2.2.2.1.2.2.2.1 ([(s.2.2.2.2.2.2.2.1.2.1,wrap .i64 (s.2.1-s.2.2.2.2.2.2.1.2.2.2.2.2.1),())]:List (Int×Int×Unit)),a03 s.2.2.2.2.2.2.2.1.2.2.2.2.1 ([y3.1]:List a2I),s.2.2.2.2.2.2.2.1.2.2.2.2.2),()))) none) none)) (some (.inr (Sum.inl (s.1,s.2.1,s.2.2.2.2.2.1,s.2.2.2.2.2.2.1,s.2.2.2.2.2.2.2.1,()))))
def a1K(x:LI):Option (a8p×Int):=(a5B x).bind fun y1=>cond (y1.2 != 0) (some (((0,0,0,()),0,0,[],[],()),y1.2)) ((y0s a3S (x,y1.1.2.2.2.2.2.1,y1.1.2.1,(y1.1.2.1.length:Int),0,((0,0,0,()),0,0,[],[],()),y1.1,(y1.1.1,0,0,[],[],()),())).bind fun w5=>match w5 with |.inl a6=>(cond (decide (a6.2.1<(a6.1.length:Int))) (some (((0,0,0,()),0,0,[],[],()),2)) (cond (a6.2.2.2.2.1.2.2.1 != a6.2.2.2.1.2.2.2.2.1) (some (((0,0,0,()),0,0,[],[],()),5)) (some (a6.2.2.2.2.1,0)))) |.inr b7=>some (b7.2.1,b7.1))
def a4T:FSem:=⟨[.v QB],[.v Q74,.v QI],a1K⟩
def H14:Hints:=⟨[(506,[.sv 0 QB,7,.sv 28 QL,29,30,.box 2 Q74,.box 4 Q27,.box 6 Q73,Qp 2 2,Qp 4 4,Qp 6 6],[Qe 0 [.sv 0 QB,7,.box 2 Q74,.box 4 Q27,.box 6 Q73,Qp 2 2,Qp 4 4,Qp 6 6],Qr [3,.box 2 Q74,Qp 2 2]])],[],[]⟩
def a8z(s:(Z15×Z28)):Option ((Z15×Z28) ⊕ (Z2 ⊕ ((List LI)×(Int×Unit)))):=cond (decide (s.2.2.1<s.2.1)) ((m0k s.1 s.2.2.1).bind fun x5=>(a8u (s.2.2.2.1,x5,1)).bind fun y6=>cond (!y6.1) (some (.inr (Sum.inr ((([]:(List LI)),6,()))))) (some (.inl (s.1,s.2.1,wrap .i64 (s.2.2.1+1),y6.2,())))) (some (.inr (Sum.inl (s.2.2.2.1,()))))
def b2O(x:((List LI)×Z15)):Option ((List LI)×Int):=(show Option ((List LI)×(Z15×Bool×Unit))from(a7N x.1).bind fun y1=>cond (!y1) (some (x.1,x.2,true,())) ((a8O (x.2,(x.1.length:Int))).bind fun y2=>some (x.1,x.2,!y2,()))).bind fun z3=>cond z3.2.2.1 (some (([]:(List LI)),1)) ((a7v z3.1).bind fun y4=>(y0s a8z (z3.2.1,(z3.2.1.length:Int),0,y4,())).bind fun w7=>match w7 with |.inl a8=>some (a8.1,0) |.inr b9=>some (b9.1,b9.2.1))
def b7O:FSem:=⟨[.v (.list false QL),.v (.list false Q12)],[.v (.list false QL),.v QI],b2O⟩
def H47:Hints:=⟨[(122,[.sv 21 (.list false Q12),22,23,.own 6 6 (.list true QI)],[Qe 0 [.own 6 6 (.list true QI)],Qr [.sv 4 (.list false QL),5]])],[(6,[Qn [.sv 0 (.list false QL),.sv 1 (.list false Q12),.sv 18 .bool]])],[]⟩
def a7e(s:(Int×(LI×Z45))):Option ((Int×(LI×Z45)) ⊕ Z45):=cond (decide (s.2.2.1<(s.2.1.length:Int))) ((m0k s.2.1 s.2.2.1).bind fun x3=>(m0k s.2.1 (wrap .i64 (s.2.2.1-1))).bind fun x4=>(m0k s.2.1 (wrap .i64 (s.2.2.1-2))).bind fun x5=>some (.inl (wrap .i64 (s.1+(v0r (wrap .i64 ((wrap .i64 (x3-(wrap .i64 (2*x4))))+x5)) (wrap .i64 (0-(wrap .i64 ((wrap .i64 (x3-(wrap .i64 (2*x4))))+x5)))))),s.2.1,wrap .i64 (s.2.2.1+1),s.2.2.2.1,s.2.2.2.2.1,s.2.2.2.2.2.1,()))) (some (.inr (s.1,s.2.2.2.1,s.2.2.2.2.1,s.2.2.2.2.2.1,())))
def a7f(s:Z45):Option (Z45 ⊕ (Int×Unit)):=cond (decide (s.2.2.2.1<s.2.2.1)) ((m0k s.2.1 s.2.2.2.1).bind fun x2=>(y0s a7e (s.1,x2,2,s.2.1,s.2.2.1,s.2.2.2.1,())).bind fun w6=>some (.inl (w6.1,w6.2.1,w6.2.2.1,wrap .i64 (w6.2.2.2.1+1),()))) (some (.inr (s.1,())))
def a7z(x:(List LI)):Option Int:=(a7N x).bind fun y1=>cond (!y1) (some 0) ((y0s a7f (0,x,(x.length:Int),0,())).bind fun w7=>some w7.1)
def b7o:FSem:=⟨[.v (.list false QL)],[.v QI],a7z⟩
def d6V:Hints:=⟨[(122,[3,.sv 11 (.list false QL),12,13],[Qe 0 [3]]),(31334,[3,.sv 5 QL,6,.sv 11 (.list false QL),12,13],[Qe 2 [3,.sv 11 (.list false QL),12,13]])],[],[(10,[.v,.v,.v,.v,.v,.v,.v,.v,.v,.v,.v,.v,.v,.v,.v,.v,.x,.x])]⟩
def b1k(x:Int):Option Z15:=cond (x==1) (some ([(0,1,(-256),())]:List Z8)) (cond (x==2) (some ([(1,0,(-256),())]:List Z8)) (cond (x==3) (some ([(1,0,(-256),()),(0,1,128,())]:List Z8)) (cond (x==4) (some ([(1,0,(-106),()),(0,1,181,()),(1,0,(-106),())]:List Z8)) (some []))))
def b7P:FSem:=⟨[.v QI],[.o Q12],b1k⟩
def a6A(s:((List LI)×Z8)):Option (((List LI)×Z8) ⊕ (Int×Unit)):=cond (decide (s.2.2.2.1<5)) ((b1k s.2.2.2.1).bind fun y2=>(b2O (s.1,y2)).bind fun y3=>cond (y3.2 != 0) (some (.inl (s.1,s.2.1,s.2.2.1,wrap .i64 (s.2.2.2.1+1),()))) ((a7z y3.1).bind fun y4=>cond (decide (y4<s.2.2.1)) (some (.inl (s.1,s.2.2.2.1,y4,wrap .i64 (s.2.2.2.1+1),()))) (some (.inl (s.1,s.2.1,s.2.2.1,wrap .i64 (s.2.2.2.1+1),()))))) (some (.inr (s.2.1,())))
def b2t(x:(List LI)):Option Z15:=(a7z x).bind fun y1=>(y0s a6A (x,0,y1,1,())).bind fun w5=>(b1k w5.1).bind fun y6=>some y6
def b8O:FSem:=⟨[.v (.list false QL)],[.o Q12],b2t⟩
def H86:Hints:=⟨[(58,[.sv 0 (.list false QL),3,4,5],[Qe 0 [3]])],[],[]⟩
def a6B(s:(Int×Int×Int×Z15×Z93)):Option ((Int×Int×Int×Z15×Z93) ⊕ (Int×Z93)):=cond (decide (s.2.2.1<s.2.1)) (cond ((decide (0≤s.2.2.1))&&(decide (s.2.2.1<(s.2.2.2.2.1.length:Int)))) (cond (lim ((a01 s.2.2.2.1)+1)) (some (.inl (s.1,s.2.1,wrap .i64 (s.2.2.1+1),a03 s.2.2.2.1 ([(wrap .i64 (((a04 s.2.2.2.2.1 (a00 s.2.2.1) (0,0,0,())).1)+s.1),wrap .i64 ((((a04 s.2.2.2.2.1 (a00 s.2.2.1) (0,0,0,())).2).1)+s.1),(((a04 s.2.2.2.2.1 (a00 s.2.2.1) (0,0,0,())).2).2).1,())]:List Z8),s.2.2.2.2.1,s.2.2.2.2.2.1,()))) none) none) (some (.inr (s.1,s.2.2.2.1,s.2.2.2.2.2.1,())))
def a8X(s:(Int×Z93)):Option ((Int×Z93) ⊕ (Z15×Unit)):=cond (decide ((wrap .i64 (s.1+1))<(s.2.2.1.2.1.length:Int))) (cond ((decide (0≤(wrap .i64 (s.1+2))))&&(decide ((wrap .i64 (s.1+2))≤(s.2.2.1.2.1.length:Int)))) (cond ((decide (0≤s.1))&&(decide (s.1≤((a00 (wrap .i64 (s.1+2)):Nat):Int)))) ((b2t (a08 (a00 s.1) (a06 (a00 (wrap .i64 (s.1+2))) s.2.2.1.2.1))).bind fun y2=>(y0s a6B (s.1,(y2.length:Int),0,s.2.1,y2,s.2.2.1,())).bind fun w3=>some (.inl (wrap .i64 (w3.1+2),w3.2.1,w3.2.2.1,()))) none) none) (some (.inr (s.2.1,())))
def a7O(x:Z12):Option Z15:=(a3w x).bind fun y1=>cond (!y1) (some []) ((y0s a8X (0,[],x,())).bind fun w4=>some w4.1)
def b8P:FSem:=⟨[.v Q15],[.o Q12],a7O⟩
def H46:Hints:=⟨[(122,[4,.own 3 3 Q12,.vp 1 Q15],[Qe 0 [.own 3 3 Q12]]),(7826,[4,25,26,.own 3 3 Q12,.own 24 1024 Q12,.vp 1 Q15],[Qe 2 [4,.own 3 3 Q12,.vp 1 Q15]])],[],[]⟩
def a7g(s:Z60):Option (Z60 ⊕ Z50):=cond (decide (s.2.2.2.1<s.2.2.1)) ((m0k s.2.1 s.2.2.2.1).bind fun x2=>(show Option (Int×(Int×(LI×(Int×(Int×(Bool×(LI×Unit)))))))from(a5s x2).bind fun y3=>cond (!y3) (some (s.1,x2,s.2.1,s.2.2.1,s.2.2.2.1,true,s.2.2.2.2.1,())) (cond (decide (s.1<0)) none (cond ((A0n .i64 1 s.1)==0) none (some (s.1,x2,s.2.1,s.2.2.1,s.2.2.2.1,(a05 x2 (A0n .i64 1 s.1)) != 0,s.2.2.2.2.1,()))))).bind fun z4=>cond z4.2.2.2.2.2.1 (some (.inr (Sum.inr ((6,[],()))))) (cond (decide (z4.1<0)) none (cond (lim ((a01 z4.2.2.2.2.2.2.1)+1)) (some (.inl (z4.1,z4.2.2.1,z4.2.2.2.1,wrap .i64 (z4.2.2.2.2.1+1),a03 z4.2.2.2.2.2.2.1 [A0o .i64 z4.2.1 z4.1],()))) none))) (some (.inr (Sum.inl (s.2.2.2.2.1,()))))
def a7A(x:(LI×Int)):Option (LI×Int):=(show Option Z18 from cond (decide (x.2<0)) (some (x.1,x.2,true,())) (some (x.1,x.2,decide (x.2 > 30),()))).bind fun z1=>cond z1.2.2.1 (some ([],1)) ((y0s a7g (z1.2.1,z1.1,(z1.1.length:Int),0,[],())).bind fun w5=>match w5 with |.inl a6=>some (a6.1,0) |.inr b7=>some (b7.2.1,b7.1))
def b3i:FSem:=⟨[.v QL,.v QI],[.o QI,.v QI],a7A⟩
def H92:Hints:=⟨[(122,[1,.sv 15 QL,16,17,.own 6 6 QI],[Qe 0 [.own 6 6 QI],Qr [5,.own 4 4 QI]])],[(6,[Qn [.sv 0 QL,1,.sv 14 .bool]]),(15666,[Qn [1,8,.sv 15 QL,16,17,.sv 30 .bool,.own 6 6 QI]])],[]⟩
def a1G(x:Int):Option Int:=cond (x==0) (some 64) ((m0k b2g (A0o .u64 (wrap .u64 ((bits .u64 .and x (wrap .u64 (0-x)))*285870213051353865)) 58)).bind fun x1=>some (wrap .i64 x1))
def a1i:FSem:=⟨[.v QU],[.v QI],a1G⟩
def b1l:Cx:=b2Z [] [] [0,2] []
theorem b8Q{ρ:Type}{cx:Cx}{ops:List Oper}:∀(l1 l2:List (Md×Oper)) (Γ:AE) (K:AE→Rs ρ),h0m cx ops (l1++l2) Γ K=h0m cx ops l1 Γ fun Γ'=>h0m cx ops l2 Γ' K
 | [],_,_,_=>rfl
 |(md,o)::l1,l2,Γ,K=>by
  simp only[a20,h0m];congr 1;funext Γ';exact b8Q l1 l2 Γ' K
theorem b7Q{ρ:Type}{cx:Cx}{H:Hints}{a b:Code}{p:Nat}(h:find H.cuts p=none)(Γ:AE)(K:Ex→AE→Rs ρ):c0n cx H (.seq a b) p Γ K=c0n cx H a (2*p) Γ fun e Γ'=>match e with
   |.normal=>c0n cx H b (2*p+1) Γ' K
   |e=>K e Γ':=by
 simp only[c0n,h];rfl
theorem c3T{ρ:Type}{cx:Cx}{H:Hints}{id:Nat}{ops:Array Oper}{p:Nat}(Γ:AE)(K:Ex→AE→Rs ρ):c0n cx H (.region id ops false) p Γ K=h0m cx ops.toList (ops.toList.map fun o=>(.x,o)) Γ fun Γ'=>K .normal Γ':=by
 simp only[c0n,cF]
def b0R:Code:=match Tryz.f134.body with
 |some c=>c
 |none=>.skip
def c1V:Code→Code
 |.seq a _=>a
 |c=>c
def c6G:Code→Code
 |.seq _ b=>b
 |c=>c
def c8f:Code→Array Oper
 |.region _ ops _=>ops
 |_=>#[]
def c5Y:Code:=c6G (c6G b0R)
def b4i:List Oper:=(c8f (c1V c5Y)).toList
def Γ134(x:Int):AE:=(((ini [.v QU] x).set 2 (.val QI (0:Int))).set 3 (.val QU x)).set 4 (.val .bool (x==(0:Int)))
def Γ134r(x:Int):AE:=(Γ134 x).set 2 (.val QI (64:Int))
def c3U(e:Ex)(Γ:AE):Option Int:=match e,Γ.pd with
  |.exit _,_=>none
  |_,some _=>none
  |_,none=>(Γ.upto Tryz.f134.ntmps).outs b1l [] Tryz.f134.ntmps [.v QI] (Tryz.f134.results.toList.map .inl) fun y _=>some y
def Γ134b(x a b c i:Int):AE:=((((((Γ134 x).set 5 (.val QU x)).set 6 (.val QU x)).set 7 (.val QU a)).set 8 (.val QU b)).set 9 (.val QU c)).set 10 (.val QU i)
set_option maxRecDepth 100000
theorem c9s:b0R=.seq (c1V b0R) (.seq (c1V (c6G b0R)) (.seq (.region 3 (c8f (c1V c5Y)) false) .ret)):=by kernel_rfl
theorem d1Q(x:Int):A0j b1l QH Tryz.f134 a1i.ps a1i.rs x=c0n b1l QH b0R 1 (ini [.v (.int .u64)] x) c3U:=rfl
theorem d1R(x:Int)(K:Ex→AE→Option Int):c0n b1l QH (c1V b0R) 2 (ini [.v (.int .u64)] x) K=K .normal ((ini [.v (.int .u64)] x).set 2 (.val (.int .i64) (0:Int))):=by kernel_rfl
theorem d1S(x:Int)(K:Ex→AE→Option Int):c0n b1l QH (c1V (c6G b0R)) 6 ((ini [.v (.int .u64)] x).set 2 (.val (.int .i64) (0:Int))) K=bif x==(0:Int)then K .ret (Γ134r x)else K .normal (Γ134 x):=by kernel_rfl
theorem d1T(x:Int):c3U .ret (Γ134r x)=some (64:Int):=by kernel_rfl
theorem d1U(x:Int)(K:AE→Option Int):h0m b1l b4i ((b4i.map fun o=>(Md.x,o)).take 6) (Γ134 x) K =
  K (Γ134b x (wrap .u64 (0-x)) (bits .u64 .and x (wrap .u64 (0-x))) (wrap .u64 ((bits .u64 .and x (wrap .u64 (0-x)))*(285870213051353865:Int))) (A0o .u64 (wrap .u64 ((bits .u64 .and x (wrap .u64 (0-x)))*(285870213051353865:Int))) (58:Int))):=by kernel_rfl
theorem d1V(x a b c i:Int):h0m b1l b4i ((b4i.map fun o=>(Md.x,o)).drop 6) (Γ134b x a b c i) (fun Γ=>c3U .ret Γ)=(m0k b2g i).bind fun h=>some (wrap .i64 h):=by kernel_rfl
theorem d1W(x:Int):h0m b1l b4i (b4i.map fun o=>(Md.x,o)) (Γ134 x) (fun Γ=>c3U .ret Γ)=(m0k b2g (A0o .u64 (wrap .u64 ((bits .u64 .and x (wrap .u64 (0-x)))*(285870213051353865:Int))) (58:Int))).bind fun h=>some (wrap .i64 h):=by
 rw[←List.take_append_drop 6 (b4i.map fun o=>(Md.x,o)),b8Q,d1U,d1V]
theorem d2Q(x:Int):c0n b1l QH b0R 1 (ini [.v (.int .u64)] x) c3U=a1G x:=by
 rw[c9s,b7Q rfl,d1R];simp only[];rw[b7Q rfl,d1S];simp only[];rw[b7Q rfl,c3T];simp only[c0n];rw[d1T];exact congrArg (fun z=>bif x==(0:Int)then some (64:Int)else z) (d1W x)
theorem d4l(x):A0j b1l QH Tryz.f134 a1i.ps a1i.rs x=a1i.F x:=(d1Q x).trans (d2Q x)
def a5I(s:Z30):Option Z67:=cond (decide (s.2.2.2.1<s.2.2.1)) ((m0k s.2.1 s.2.2.2.1).bind fun x1=>some (.inl (bits .i64 .or s.1 x1,s.2.1,s.2.2.1,wrap .i64 (s.2.2.2.1+1),()))) (some (.inr (s.1,())))
def a3T(x:LI):Option Int:=(y0s a5I (0,x,(x.length:Int),0,())).bind fun w2=>cond (w2.1==0) (some 0) ((a1G (wrap .u64 w2.1)).bind fun y3=>some (v0s y3 30))
def b1m:FSem:=⟨[.v QL],[.v QI],a3T⟩
def H93:Hints:=⟨[(58,[3,.sv 6 QL,7,8],[Qe 0 [3]])],[],[]⟩
def a5J(s:Z34):Option (Z34 ⊕ Z16):=cond (decide ((wrap .i64 (s.1+1))<(s.2.2.2.1.length:Int))) (cond ((decide (0≤(wrap .i64 (s.1+1))))&&(decide ((wrap .i64 (s.1+1))<(s.2.2.2.1.length:Int)))) (cond ((decide (0≤s.1))&&(decide (s.1<(s.2.2.2.1.length:Int)))) (cond ((decide (0≤s.1))&&(decide (s.1<(s.2.2.2.1.length:Int)))) (some (.inl (wrap .i64 (s.1+1),s.2.1,s.2.2.1,a18 s.2.2.2.1 (a00 s.1) (wrap .i64 ((a04 s.2.2.2.1 (a00 (wrap .i64 (s.1+1))) 0)-(a04 s.2.2.2.1 (a00 s.1) 0))),()))) none) none) none) (some (.inr (s.2.1,s.2.2.1,s.2.2.2.1,())))
def a8i(s:Z16):Option (Z16 ⊕ (LI×Unit)):=cond (decide (s.2.1<s.1)) ((y0s a5J (0,s.1,s.2.1,s.2.2.1,())).bind fun w3=>cond ((decide (0≤(wrap .i64 ((w3.2.2.1.length:Int)-1))))&&(decide ((wrap .i64 ((w3.2.2.1.length:Int)-1))≤(w3.2.2.1.length:Int)))) (cond (decide ((a00 (wrap .i64 ((w3.2.2.1.length:Int)-1)))≤(a01 w3.2.2.1))) (some (.inl (w3.1,wrap .i64 (w3.2.1+1),a06 (a00 (wrap .i64 ((w3.2.2.1.length:Int)-1))) w3.2.2.1,()))) none) none) (some (.inr (s.2.2.1,())))
def a4U(x:(LI×Int)):Option (LI×Int):=(show Option Z18 from cond (decide (x.2<0)) (some (x.1,x.2,true,())) (cond (decide (x.2 > 4)) (some (x.1,x.2,true,())) (some (x.1,x.2,decide ((x.1.length:Int)<x.2),())))).bind fun z1=>cond z1.2.2.1 (some ([],1)) ((a2S z1.1).bind fun y2=>cond (!y2) (some ([],6)) (cond (lim (a01 z1.1)) ((y0s a8i (z1.2.1,0,z1.1,())).bind fun w4=>(a2S w4.1).bind fun y5=>cond (!y5) (some ([],6)) (some (w4.1,0))) none))
def b4j:FSem:=⟨[.v QL,.v QI],[.o QI,.v QI],a4U⟩
def d6W:Hints:=⟨[(250,[25,26,.own 6 6 QI],[Qe 0 [.own 6 6 QI]]),(64098,[7,25,26,.own 6 6 QI],[Qe 2 [25,26,.own 6 6 QI]])],[(6,[Qn [.sv 0 QL,1,.sv 19 .bool]])],[(11,[.q,.v,.q,.v,.v,.q,.q,.q,.v,.q,.q,.v,.x,.x])]⟩
def a4V(s:Z52):Option (Z52 ⊕ (Int×Unit)):=cond (decide (s.2.2.2.2.1<s.2.2.2.1)) ((m0k s.2.2.1 s.2.2.2.2.1).bind fun x1=>cond (decide ((wrap .i64 (s.2.2.2.2.1+s.1))≥4)) (some (.inl (s.1,wrap .i64 (s.2.1+(v0r x1 (wrap .i64 (0-x1)))),s.2.2.1,s.2.2.2.1,wrap .i64 (s.2.2.2.2.1+1),()))) (some (.inl (s.1,s.2.1,s.2.2.1,s.2.2.2.1,wrap .i64 (s.2.2.2.2.1+1),())))) (some (.inr (s.2.1,())))
def b0A(x:(LI×Int)):Option Int:=(y0s a4V (x.2,0,x.1,(x.1.length:Int),0,())).bind fun w2=>some w2.1
def b7p:FSem:=⟨[.v QL,.v QI],[.v QI],b0A⟩
def d6X:Hints:=⟨[(58,[1,5,.sv 8 QL,9,10],[Qe 0 [5]])],[],[]⟩
def a3U(s:Z32):Option (Z32 ⊕ (Int×Unit)):=cond (decide (s.2.2.2.1≤4)) ((a4U (s.1,s.2.2.2.1)).bind fun y1=>cond (y1.2 != 0) (some (.inl (s.1,s.2.1,s.2.2.1,wrap .i64 (s.2.2.2.1+1),()))) ((b0A (y1.1,s.2.2.2.1)).bind fun y2=>(show Option (LI×(Int×Z23))from cond (decide (s.2.2.1<0)) (some (s.1,s.2.1,s.2.2.1,s.2.2.2.1,y2,true,())) (some (s.1,s.2.1,s.2.2.1,s.2.2.2.1,y2,decide (y2<s.2.2.1),()))).bind fun z3=>cond z3.2.2.2.2.2.1 (some (.inl (z3.1,z3.2.2.2.1,z3.2.2.2.2.1,wrap .i64 (z3.2.2.2.1+1),()))) (some (.inl (z3.1,z3.2.1,z3.2.2.1,wrap .i64 (z3.2.2.2.1+1),()))))) (some (.inr (s.2.1,())))
def a6C(x:LI):Option Int:=(y0s a3U (x,0,(-1),0,())).bind fun w4=>some w4.1
def b7R:FSem:=⟨[.v QL],[.v QI],a6C⟩
def d6Y:Hints:=⟨[(58,[.sv 0 QL,3,4,5],[Qe 0 [3]])],[(7463,[Qn [.sv 0 QL,3,4,5,8,.sv 30 .bool]])],[]⟩
def a2N(x:Int):Option Int:=some (v0s (v0r x (-1048576)) 1048575)
def b1O:FSem:=⟨[.v QI],[.v QI],a2N⟩
def a3J(s:Z74):Option (Z74 ⊕ Z61):=cond (decide (s.2.1<0)) none ((a2N (A0o .i64 s.2.2.1 s.2.1)).bind fun y2=>cond (decide (s.2.1<0)) none (cond (y2 != (A0o .i64 s.2.2.1 s.2.1)) (some (.inl (s.1,wrap .i64 (s.2.1+1),s.2.2.1,s.2.2.2.1,s.2.2.2.2.1,s.2.2.2.2.2.1,()))) (some (.inr (s.1,s.2.1,s.2.2.2.1,s.2.2.2.2.1,s.2.2.2.2.2.1,())))))
def a5K(s:Z61):Option (Z61 ⊕ Z7):=cond (decide (s.2.2.2.2.1<s.2.2.2.1)) ((m0k s.2.2.1 s.2.2.2.2.1).bind fun x1=>(y0s a3J (s.1,s.2.1,x1,s.2.2.1,s.2.2.2.1,s.2.2.2.2.1,())).bind fun w3=>some (.inl (w3.1,w3.2.1,w3.2.2.1,w3.2.2.2.1,wrap .i64 (w3.2.2.2.2.1+1),()))) (some (.inr (s.1,s.2.1,())))
def a5L(s:Z60):Option (Z60 ⊕ (LI×Unit)):=cond (decide (s.2.2.2.1<s.2.2.1)) ((m0k s.2.1 s.2.2.2.1).bind fun x5=>cond (decide (s.1<0)) none (cond ((decide (0≤s.2.2.2.1))&&(decide (s.2.2.2.1<(s.2.2.2.2.1.length:Int)))) (some (.inl (s.1,s.2.1,s.2.2.1,wrap .i64 (s.2.2.2.1+1),a18 s.2.2.2.2.1 (a00 s.2.2.2.1) (A0o .i64 x5 s.1),()))) none)) (some (.inr (s.2.2.2.2.1,())))
def a8j(x:LI):Option LI:=(y0s a5K (x,0,x,(x.length:Int),0,())).bind fun w4=>cond ((decide (0≤(w4.1.length:Int)))&&((decide ((w4.1.length:Int)≤(w4.1.length:Int)))&&(lim (a00 (w4.1.length:Int))))) ((y0s a5L (w4.2.1,w4.1,(w4.1.length:Int),0,a02 (a00 (w4.1.length:Int)) 0,())).bind fun w6=>some w6.1) none
def b4R:FSem:=⟨[.v QL],[.o QI],a8j⟩
def d6Z:Hints:=⟨[(58,[.sv 0 QL,3,.sv 9 QL,10,11],[Qe 0 [.sv 0 QL,3]]),(250,[3,.sv 29 QL,30,31,.own 6 6 QI],[Qe 4 [.own 6 6 QI]]),(7474,[.sv 0 QL,3,5,.sv 9 QL,10,11],[Qe 2 [.sv 0 QL,3,.sv 9 QL,10,11]])],[],[(5,[.v,.v,.v,.v,.v,.v,.v,.x])]⟩
def a3z(s:Z59):Option (Z59 ⊕ (Int×Int×Unit)):=cond (decide (s.2.2.2.2.1<(s.1.length:Int))) ((m0k s.1 s.2.2.2.2.1).bind fun x1=>(m0k s.2.1 (wrap .i64 (s.2.2.2.2.1-1))).bind fun x2=>(m0k s.1 s.2.2.2.2.1).bind fun x3=>(m0k s.1 s.2.2.2.2.1).bind fun x4=>(m0k s.2.1 (wrap .i64 (s.2.2.2.2.1-1))).bind fun x5=>(m0k s.2.1 (wrap .i64 (s.2.2.2.2.1-1))).bind fun x6=>some (.inl (s.1,s.2.1,wrap .i64 (s.2.2.1+(wrap .i64 (x1*x2))),wrap .i64 (s.2.2.2.1+(wrap .i64 ((wrap .i64 (x3*x4))+(wrap .i64 (x5*x6))))),wrap .i64 (s.2.2.2.2.1+1),()))) (some (.inr (s.2.2.1,s.2.2.2.1,())))
def a3A(s:(Int×Int×Unit)):Option ((Int×Int×Unit) ⊕ (Int×Int×Unit)):=cond (decide (s.2.1≥1099511627776)) (some (.inl (A0o .i64 s.1 1,A0o .i64 s.2.1 1,()))) (some (.inr (s.1,s.2.1,())))
def a5j(x:Z11):Option Int:=(y0s a3z (x.1,x.2.1,0,0,x.2.2,())).bind fun w7=>(y0s a3A (w7.1,w7.2.1,())).bind fun w8=>cond (w8.2.1==0) (some 0) (cond (w8.2.1==0) none ((show Option (Int×Unit)from cond (w8.2.1==0) none (cond (decide ((a05 (A0n .i64 w8.1 15) w8.2.1)<0)) (some (wrap .i64 ((wrap .i64 (a07 (A0n .i64 w8.1 15) w8.2.1))-1),())) (some (wrap .i64 (a07 (A0n .i64 w8.1 15) w8.2.1),())))).bind fun z9=>some (v0s (v0r z9.1 (-16383)) 16383)))
def b1I:FSem:=⟨[.v QL,.v QL,.v QI],[.v QI],a5j⟩
def d7a:Hints:=⟨[(58,[.sv 0 QL,.sv 1 QL,7,8,9],[Qe 0 [7,8]]),(60,[7,8],[Qe 2 [7,8]])],[(255,[Qn [10]])],[(5,[.v,.v,.v,.v,.v,.v,.v,.v,.v,.v,.v,.x,.x]),(6,[.v,.v,.v,.v,.v,.v,.v,.v,.v,.v,.v,.v,.v,.v,.v,.v,.v,.v,.v,.v,.v,.v,.x,.x])]⟩
def a3o(s:(Int×Int×Z72)):Option ((Int×Int×Z72) ⊕ Z72):=cond (decide (s.2.2.2.1≥s.2.1)) (cond ((decide (0≤s.2.2.2.1))&&(decide (s.2.2.2.1<(s.2.2.2.2.1.length:Int)))) (cond ((decide (0≤(wrap .i64 (s.2.2.2.1-1))))&&(decide ((wrap .i64 (s.2.2.2.1-1))<(s.2.2.2.2.2.1.length:Int)))) ((a2N (wrap .i64 ((a04 s.2.2.2.2.1 (a00 s.2.2.2.1) 0)-(A0o .i64 (wrap .i64 (s.2.2.1*(a04 s.2.2.2.2.2.1 (a00 (wrap .i64 (s.2.2.2.1-1))) 0))) 14)))).bind fun y6=>cond ((decide (0≤s.2.2.2.1))&&(decide (s.2.2.2.1<(s.2.2.2.2.1.length:Int)))) ((a2N (wrap .i64 ((a04 s.2.2.2.2.2.1 (a00 (wrap .i64 (s.2.2.2.1-1))) 0)-(A0o .i64 (wrap .i64 (s.2.2.1*(a04 s.2.2.2.2.1 (a00 s.2.2.2.1) 0))) 14)))).bind fun y7=>cond ((decide (0≤s.2.2.2.1))&&(decide (s.2.2.2.1<(s.2.2.2.2.2.1.length:Int)))) (some (.inl (s.1,s.2.1,s.2.2.1,wrap .i64 (s.2.2.2.1-1),a18 s.2.2.2.2.1 (a00 s.2.2.2.1) y6,a18 s.2.2.2.2.2.1 (a00 s.2.2.2.1) y7,s.2.2.2.2.2.2.1,()))) none) none) none) none) (some (.inr (s.1,s.2.1,s.2.2.2.2.1,s.2.2.2.2.2.1,s.2.2.2.2.2.2.1,())))
def a3p(s:Z72):Option (Z72 ⊕ (LI×Unit)):=cond (decide (s.2.1≤s.1)) ((a5j (s.2.2.1,s.2.2.2.1,s.2.1)).bind fun y5=>cond (lim ((a01 s.2.2.2.2.1)+1)) ((y0s a3o (s.1,s.2.1,y5,wrap .i64 ((s.2.2.1.length:Int)-1),s.2.2.1,s.2.2.2.1,a03 s.2.2.2.2.1 [y5],())).bind fun w8=>some (.inl (w8.1,wrap .i64 (w8.2.1+1),w8.2.2.1,w8.2.2.2.1,w8.2.2.2.2.1,()))) none) (some (.inr (s.2.2.2.2.1,())))
def a7h(x:(LI×Int)):Option (LI×Int):=(show Option Z18 from cond (decide (x.2<1)) (some (x.1,x.2,true,())) (cond (decide (x.2 > 32)) (some (x.1,x.2,true,())) (some (x.1,x.2,decide ((x.1.length:Int) > 4096),())))).bind fun z1=>cond z1.2.2.1 (some ([],1)) ((a2K z1.1).bind fun y2=>cond (!y2) (some ([],6)) ((a8j z1.1).bind fun y3=>(a1g y3).bind fun y4=>cond ((decide (0≤z1.2.1))&&(lim (a00 z1.2.1))) ((y0s a3p (z1.2.1,1,y3,y4,[],())).bind fun w9=>some (w9.1,0)) none))
def b4k:FSem:=⟨[.v QL,.v QI],[.o QI,.v QI],a7h⟩
def d7b:Hints:=⟨[(1018,[1,9,.own 6 6 QI,.own 7 7 QI,.own 8 8 QI],[Qe 0 [.own 8 8 QI]]),(260686,[1,9,10,11,.own 6 6 QI,.own 7 7 QI,.own 8 8 QI],[Qe 2 [1,9,.own 6 6 QI,.own 7 7 QI,.own 8 8 QI]])],[(6,[Qn [.sv 0 QL,1,.sv 24 .bool]])],[(16,[.q,.v,.q,.q,.q,.v,.v,.q,.q,.v,.x])]⟩
def a2o(s:Z42):Option (Z42 ⊕ ((LI×Unit) ⊕ Z7)):=cond (decide (s.2.2.2.1<s.2.2.1)) ((m0k s.2.1 s.2.2.2.1).bind fun x2=>(show Option (LI×Z35)from cond (decide (x2<(-16383))) (some (s.1,s.2.1,s.2.2.1,s.2.2.2.1,true,())) (some (s.1,s.2.1,s.2.2.1,s.2.2.2.1,decide (x2 > 16383),()))).bind fun z3=>cond z3.2.2.2.2.1 (some (.inr (Sum.inr (([],1,()))))) (some (.inl (z3.1,z3.2.1,z3.2.2.1,wrap .i64 (z3.2.2.2.1+1),())))) (some (.inr (Sum.inl (s.1,()))))
def a4l(s:(LI×(Int×(Int×(LI×Z77))))):Option ((LI×(Int×(Int×(LI×Z77)))) ⊕ Z60):=cond (decide (s.2.2.2.2.2.2.2.2.1<s.2.2.2.2.2.2.2.1)) ((m0k s.2.2.2.2.2.2.1 s.2.2.2.2.2.2.2.2.1).bind fun x8=>(m0k s.1 (wrap .i64 ((wrap .i64 (s.2.1-1))-s.2.2.2.2.2.2.2.2.1))).bind fun x9=>cond (lim ((a01 s.2.2.2.2.2.2.2.2.2.1)+1)) (some (.inl (s.1,s.2.1,s.2.2.1,s.2.2.2.1,s.2.2.2.2.1,s.2.2.2.2.2.1,s.2.2.2.2.2.2.1,s.2.2.2.2.2.2.2.1,wrap .i64 (s.2.2.2.2.2.2.2.2.1+1),a03 s.2.2.2.2.2.2.2.2.2.1 [wrap .i64 (x8-(A0o .i64 (wrap .i64 (s.2.2.1*x9)) 14))],()))) none) (some (.inr (s.2.2.1,s.2.2.2.1,s.2.2.2.2.1,s.2.2.2.2.2.1,s.2.2.2.2.2.2.2.2.2.1,())))
def a6n(s:Z42):Option (Z42 ⊕ (LI×Unit)):=cond (decide (s.2.2.2.1<s.2.2.1)) ((m0k s.2.1 s.2.2.2.1).bind fun x7=>cond ((decide (0≤(wrap .i64 (s.2.2.2.1+1))))&&(lim (a00 (wrap .i64 (s.2.2.2.1+1))))) ((y0s a4l (s.1,s.2.2.2.1,x7,s.2.1,s.2.2.1,s.2.2.2.1,s.1,(s.1.length:Int),0,[],())).bind fun w10=>cond (lim ((a01 w10.2.2.2.2.1)+1)) (some (.inl (a03 w10.2.2.2.2.1 [w10.1],w10.2.1,w10.2.2.1,wrap .i64 (w10.2.2.2.1+1),()))) none) none) (some (.inr (s.1,())))
def a8Y(x:LI):Option (LI×Int):=(show Option (LI×(Bool×Unit))from cond (decide ((x.length:Int)<1)) (some (x,true,())) (some (x,decide ((x.length:Int) > 32),()))).bind fun z1=>cond z1.2.1 (some ([],1)) ((y0s a2o (z1.1,z1.1,(z1.1.length:Int),0,())).bind fun w4=>match w4 with |.inl a5=>((y0s a6n ([],a5.1,(a5.1.length:Int),0,())).bind fun w11=>some (w11.1,0)) |.inr b6=>some (b6.1,b6.2.1))
def b5R:FSem:=⟨[.v QL],[.v QL,.v QI],a8Y⟩
def d7c:Hints:=⟨[(58,[.sv 0 QL,.sv 20 QL,21,22],[Qe 0 [.sv 0 QL],Qr [.sv 2 QL,3]]),(250,[.sv 6 QL,.sv 34 QL,35,36],[Qe 2 [.sv 6 QL]]),(256410,[.sv 6 QL,7,8,.sv 34 QL,35,36,.sv 44 QL,45,46,.own 9 9 QI],[Qe 4 [8,.sv 34 QL,35,36,.own 9 9 QI]])],[(6,[Qn [.sv 0 QL,.sv 19 .bool]]),(3737,[Qn [.sv 0 QL,.sv 20 QL,21,22,.sv 31 .bool]])],[]⟩
def a2p(s:Z61):Option (Z61 ⊕ (Z7 ⊕ Z16)):=cond (decide (s.2.2.2.2.1<s.2.2.2.1)) ((m0k s.2.2.1 s.2.2.2.2.1).bind fun x2=>(show Option (LI×(Int×Z35))from cond (decide (x2<(-35184372088832))) (some (s.1,s.2.1,s.2.2.1,s.2.2.2.1,s.2.2.2.2.1,true,())) (some (s.1,s.2.1,s.2.2.1,s.2.2.2.1,s.2.2.2.2.1,decide (x2 > 35184372088832),()))).bind fun z3=>cond z3.2.2.2.2.2.1 (some (.inr (Sum.inr ((0,1,[],()))))) (some (.inl (z3.1,z3.2.1,z3.2.2.1,z3.2.2.2.1,wrap .i64 (z3.2.2.2.2.1+1),())))) (some (.inr (Sum.inl (s.1,s.2.1,()))))
def a2q(s:(LI×(Int×Z77))):Option ((LI×(Int×Z77)) ⊕ Z43):=cond (decide (s.2.2.2.2.2.2.1<s.2.2.2.2.2.1)) ((m0k s.2.2.2.2.1 s.2.2.2.2.2.2.1).bind fun x8=>cond (decide (s.2.2.1<0)) none ((a2a (A0o .i64 (wrap .i64 (x8+s.2.2.2.1)) s.2.2.1,s.2.1)).bind fun y9=>cond (!y9) (some (.inr (s.1,s.2.1,s.2.2.1,s.2.2.2.2.2.2.2.1,()))) (cond (lim ((a01 s.2.2.2.2.2.2.2.1)+1)) (some (.inl (s.1,s.2.1,s.2.2.1,s.2.2.2.1,s.2.2.2.2.1,s.2.2.2.2.2.1,wrap .i64 (s.2.2.2.2.2.2.1+1),a03 s.2.2.2.2.2.2.2.1 [A0o .i64 (wrap .i64 (x8+s.2.2.2.1)) s.2.2.1],()))) none))) (some (.inr (s.1,s.2.1,s.2.2.1,s.2.2.2.2.2.2.2.1,())))
def a3c(s:Z14):Option (Z14 ⊕ (Unit ⊕ Z16)):=cond (decide (s.2.2.1≤14)) ((show Option Z32 from cond (decide (s.2.2.1 > 0)) (cond (decide ((wrap .i64 (s.2.2.1-1))<0)) none (some (s.1,s.2.1,s.2.2.1,A0n .i64 1 (wrap .i64 (s.2.2.1-1)),()))) (some (s.1,s.2.1,s.2.2.1,0,()))).bind fun z7=>cond ((decide (0≤(z7.1.length:Int)))&&(lim (a00 (z7.1.length:Int)))) ((y0s a2q (z7.1,z7.2.1,z7.2.2.1,z7.2.2.2.1,z7.1,(z7.1.length:Int),0,[],())).bind fun w10=>cond ((w10.2.2.2.1.length:Int)==(w10.1.length:Int)) (some (.inr (Sum.inr ((wrap .i64 (14-w10.2.2.1),0,w10.2.2.2.1,()))))) (some (.inl (w10.1,w10.2.1,wrap .i64 (w10.2.2.1+1),())))) none) (some (.inr (Sum.inl ())))
def a8Z(x:(LI×Int)):Option Z4:=(show Option Z18 from cond (decide ((x.1.length:Int)<1)) (some (x.1,x.2,true,())) (cond (decide ((x.1.length:Int) > 32)) (some (x.1,x.2,true,())) (cond (decide (x.2<2)) (some (x.1,x.2,true,())) (some (x.1,x.2,decide (x.2 > 16),()))))).bind fun z1=>cond z1.2.2.1 (some ([],0,1)) ((y0s a2p (z1.1,z1.2.1,z1.1,(z1.1.length:Int),0,())).bind fun w4=>match w4 with |.inl a5=>((y0s a3c (a5.1,a5.2.1,0,())).bind fun w11=>match w11 with |.inl a12=>some ([],0,6) |.inr b13=>some (b13.2.2.1,b13.1,b13.2.1)) |.inr b6=>some (b6.2.2.1,b6.1,b6.2.1))
def b5S:FSem:=⟨[.v QL,.v QI],[.o QI,.v QI,.v QI],a8Z⟩
def d7d:Hints:=⟨[(58,[.sv 0 QL,1,.sv 31 QL,32,33],[Qe 0 [.sv 0 QL,1],Qr [5,6,.own 4 4 QI]]),(122,[.sv 0 QL,1,9],[Qe 2 [],Qr [5,6,.own 4 11 QI]]),(125242,[.sv 0 QL,1,9,10,.sv 56 QL,57,58,.own 11 11 QI],[Qe 4 [.sv 0 QL,1,9,.own 11 11 QI]])],[(6,[Qn [.sv 0 QL,1,.sv 30 .bool]]),(3737,[Qn [.sv 0 QL,1,.sv 31 QL,32,33,.sv 42 .bool]]),(3913,[Qn [.sv 0 QL,1,9,10]])],[]⟩
def a4e(x:Z4):Option Z4:=(a7h (x.1,x.2.1)).bind fun y1=>cond (y1.2 != 0) (some ([],0,y1.2)) ((a8Y y1.1).bind fun y2=>cond (y2.2 != 0) (some ([],0,y2.2)) ((a8Z (y2.1,x.2.2)).bind fun y3=>some (y3.1,y3.2.1,y3.2.2)))
def b3j:FSem:=⟨[.v QL,.v QI,.v QI],[.o QI,.v QI,.v QI],a4e⟩
def c1W(s:(LI×Z68)):Option ((LI×Z68) ⊕ (LI×Z55)):=cond (decide (s.2.2.2.2.2.2.2.1<(s.1.length:Int))) ((m0k s.1 s.2.2.2.2.2.2.2.1).bind fun x3=>(m0k s.1 (wrap .i64 (s.2.2.2.2.2.2.2.1-s.2.2.2.2.2.1))).bind fun x4=>some (.inl (s.1,s.2.1,s.2.2.1,s.2.2.2.1,s.2.2.2.2.1,s.2.2.2.2.2.1,wrap .i64 (s.2.2.2.2.2.2.1+(v0r (wrap .i64 (x3-x4)) (wrap .i64 (0-(wrap .i64 (x3-x4)))))),wrap .i64 (s.2.2.2.2.2.2.2.1+1),()))) (some (.inr (s.1,s.2.1,s.2.2.1,s.2.2.2.1,s.2.2.2.2.1,s.2.2.2.2.2.1,s.2.2.2.2.2.2.1,())))
def c1X(s:(LI×Z37)):Option ((LI×Z37) ⊕ (Int×Unit)):=cond (decide (s.2.2.2.2.2.1≤s.2.2.1)) ((y0s c1W (s.1,s.2.1,s.2.2.1,s.2.2.2.1,s.2.2.2.2.1,s.2.2.2.2.2.1,0,s.2.2.1,())).bind fun w5=>(show Option (LI×(Int×Int×Int×Z23))from cond (w5.2.2.2.2.2.1==w5.2.1) (some (w5.1,w5.2.1,w5.2.2.1,w5.2.2.2.1,w5.2.2.2.2.1,w5.2.2.2.2.2.1,w5.2.2.2.2.2.2.1,true,())) (some (w5.1,w5.2.1,w5.2.2.1,w5.2.2.2.1,w5.2.2.2.2.1,w5.2.2.2.2.2.1,w5.2.2.2.2.2.2.1,decide (w5.2.2.2.2.2.2.1<w5.2.2.2.2.1),()))).bind fun z6=>cond z6.2.2.2.2.2.2.2.1 (some (.inl (z6.1,z6.2.1,z6.2.2.1,z6.2.2.2.2.2.1,z6.2.2.2.2.2.2.1,wrap .i64 (z6.2.2.2.2.2.1+1),()))) (some (.inl (z6.1,z6.2.1,z6.2.2.1,z6.2.2.2.1,z6.2.2.2.2.1,wrap .i64 (z6.2.2.2.2.2.1+1),())))) (some (.inr (s.2.2.2.1,())))
def b2u(x:Z4):Option (Int×Int):=(show Option Z35 from cond (decide (x.2.1<2)) (some (x.1,x.2.1,x.2.2,true,())) (cond (decide (x.2.1 > x.2.2)) (some (x.1,x.2.1,x.2.2,true,())) (cond (decide (x.2.2 > 1024)) (some (x.1,x.2.1,x.2.2,true,())) (some (x.1,x.2.1,x.2.2,decide ((x.1.length:Int) > 4096),()))))).bind fun z1=>cond z1.2.2.2.1 (some (0,1)) (cond (decide ((z1.1.length:Int)≤z1.2.2.1)) (some (0,7)) ((a4F z1.1).bind fun y2=>cond (!y2) (some (0,6)) ((y0s c1X (z1.1,z1.2.1,z1.2.2.1,0,0,z1.2.1,())).bind fun w7=>some (w7.1,0))))
def b8R:FSem:=⟨[.v QL,.v QI,.v QI],[.v QI,.v QI],b2u⟩
def d7e:Hints:=⟨[(506,[.sv 0 QL,1,2,8,9,10],[Qe 0 [8]]),(129610,[.sv 0 QL,1,2,8,9,10,11,12],[Qe 2 [.sv 0 QL,1,2,8,9,10,11]])],[(6,[Qn [.sv 0 QL,1,2,.sv 29 .bool]]),(32403,[Qn [.sv 0 QL,1,2,8,9,10,11,.sv 74 .bool]])],[(15,[.v,.v,.v,.v,.v,.v,.v,.v,.v,.v,.x,.x])]⟩
def a6D(s:(LI×Z85)):Option ((LI×Z85) ⊕ Z50):=cond (decide (s.2.2.2.2.1<s.2.2.2.1)) ((m0k s.2.2.1 s.2.2.2.2.1).bind fun x3=>(a4G (s.1,s.2.2.2.2.1,s.2.1,s.2.2.2.2.2.2.1)).bind fun y4=>(a7M (wrap .i64 (x3-y4))).bind fun y5=>cond (!y5) (some (.inr (Sum.inr ((6,[],()))))) (cond (lim ((a01 s.2.2.2.2.2.1)+1)) (some (.inl (s.1,s.2.1,s.2.2.1,s.2.2.2.1,wrap .i64 (s.2.2.2.2.1+1),a03 s.2.2.2.2.2.1 [wrap .i64 (x3-y4)],s.2.2.2.2.2.2.1,()))) none)) (some (.inr (Sum.inl (s.2.2.2.2.2.1,()))))
def a9J(x:(LI×(Int×LI))):Option (LI×Int):=(a8P (x.2.1,x.2.2)).bind fun y1=>cond (!y1) (some ([],1)) ((a4F x.1).bind fun y2=>cond (!y2) (some ([],6)) (cond ((decide (0≤(x.1.length:Int)))&&(lim (a00 (x.1.length:Int)))) ((y0s a6D (x.1,x.2.1,x.1,(x.1.length:Int),0,[],x.2.2,())).bind fun w6=>match w6 with |.inl a7=>some (a7.1,0) |.inr b8=>some (b8.2.1,b8.1)) none))
def a9K:FSem:=⟨[.v QL,.v QI,.v (.arr 3 QI)],[.o QI,.v QI],a9J⟩
def d7f:Hints:=⟨[(250,[.sv 0 QL,1,.sv 22 QL,23,24,.own 8 8 QI,.vp 5 (.arr 3 QI)],[Qe 0 [.own 8 8 QI],Qr [7,.own 6 6 QI]])],[],[]⟩
def c3V(x:Unit):Option (List LI):=A0j (b2Z [] [] [0] []) QH Tryz.f201 [] [.o (.arr 3 (.int .i64))] x
def b4l:FSem:=⟨[],[.o (.arr 3 QI)],c3V⟩
def d2R:Hints:=⟨[(122,[.sv 0 QL,1,7,.sv 8 .bool,25,26,.own 24 1024 (.arr 3 QI),.box 4 (.arr 3 QI),.box 6 (.arr 3 QI),Qp 4 4,Qp 6 6],[Qe 0 [.sv 8 .bool,.box 4 (.arr 3 QI),.box 6 (.arr 3 QI),Qp 4 4,Qp 6 6]]),(501370,[.sv 0 QL,1,7,.sv 8 .bool,13,25,26,40,41,.own 24 1024 (.arr 3 QI),.own 39 11 QI,.box 4 (.arr 3 QI),.box 6 (.arr 3 QI),.box 10 (.arr 3 QI),Qp 4 4,Qp 6 6,Qp 10 10],[Qe 2 [.sv 0 QL,1,7,.sv 8 .bool,13,25,26,.own 24 1024 (.arr 3 QI),.box 4 (.arr 3 QI),.box 6 (.arr 3 QI),.box 10 (.arr 3 QI),Qp 4 4,Qp 6 6,Qp 10 10]])],[(6,[Qn [.sv 0 QL,1,.sv 21 .bool,.box 4 (.arr 3 QI),Qp 4 4]]),(125343,[Qn [.sv 0 QL,1,7,.sv 8 .bool,13,25,26,.sv 58 .bool,.own 24 1024 (.arr 3 QI),.box 4 (.arr 3 QI),.box 6 (.arr 3 QI),.box 10 (.arr 3 QI),Qp 4 4,Qp 6 6,Qp 10 10]])],[]⟩
def b8S(x:(LI×Int)):Option (LI×Int):=A0j (b2Z [(169,a9K),(201,b4l)] [] [0,1,5,7,8,11,12,13,15] []) d2R Tryz.f168 [.v (.list false (.int .i64)),.v (.int .i64)] [.v (.arr 3 (.int .i64)),.v (.int .i64)] x
def b8T:FSem:=⟨[.v QL,.v QI],[.v (.arr 3 QI),.v QI],b8S⟩
def a3K(x:LI):Option (a2d×Bool):=(b2u (x,16,256)).bind fun y1=>cond (y1.2 != 0) (some ((0,0,0,0,0,[],a02 3 0,[],[],(0,[],()),[],()),false)) ((b8S (x,y1.1)).bind fun y2=>cond (y2.2 != 0) (some ((0,0,0,0,0,[],a02 3 0,[],[],(0,[],()),[],()),false)) ((a9J (x,y1.1,y2.1)).bind fun y3=>cond (y3.2 != 0) (some ((0,0,0,0,0,[],a02 3 0,[],[],(0,[],()),[],()),false)) ((a4e (y3.1,4,12)).bind fun y4=>cond (y4.2.2 != 0) (some ((0,0,0,0,0,[],a02 3 0,[],[],(0,[],()),[],()),false)) (some ((4,0,0,y4.2.1,y1.1,y4.1,y2.1,[],[],(0,[],()),[],()),true)))))
def b7S:FSem:=⟨[.v QL],[.v Q42,.v .bool],a3K⟩
def a0Q(x:(Int×(Int×(LI×b0X)))):Option (LI×b0X):=(a4e (x.2.2.1,x.1,x.2.1)).bind fun y1=>cond (y1.2.2==0) (cond (lim ((a01 x.2.2.2)+1)) (some (x.2.2.1,a03 x.2.2.2 ([(3,0,0,y1.2.1,0,y1.1,a02 3 0,[],[],(0,[],()),[],())]:List a2d))) none) (some (x.2.2.1,x.2.2.2))
def b2P:FSem:=⟨[.v QI,.v QI,.r false (.b QL),.r false (.b (.list true Q42))],[],a0Q⟩
def a2y(s:(Int×c6y)):Option ((Int×c6y) ⊕ c6y):=cond (decide (s.1<5)) (cond (lim ((a01 s.2.1)+1)) (some (.inl (wrap .i64 (s.1+1),a03 s.2.1 ([(2,0,s.1,0,0,[],a02 3 0,[],[],(0,[],()),[],())]:List a2d),s.2.2.1,()))) none) (some (.inr (s.2.1,s.2.2.1,())))
def a7i(x:(LI×Int)):Option b0X:=(a6C x.1).bind fun y1=>(show Option (Int×(LI×c9q))from cond (decide (x.2≥1)) ((a0Q (4,12,x.1,([(0,0,0,0,0,[],a02 3 0,[],[],(0,[],()),[],()),(1,0,0,0,0,[],a02 3 0,[],[],(0,[],()),[],()),(2,0,y1,0,0,[],a02 3 0,[],[],(0,[],()),[],())]:List a2d))).bind fun y2=>(a0Q (8,12,y2.1,y2.2)).bind fun y3=>some (x.2,y3.1,y3.2,())) (some (x.2,x.1,([(0,0,0,0,0,[],a02 3 0,[],[],(0,[],()),[],()),(1,0,0,0,0,[],a02 3 0,[],[],(0,[],()),[],()),(2,0,y1,0,0,[],a02 3 0,[],[],(0,[],()),[],())]:List a2d),()))).bind fun z4=>(show Option (Int×c6y)from cond (decide (z4.1≥2)) (cond (lim ((a01 z4.2.2.1)+1)) (cond (lim ((a01 (a03 z4.2.2.1 ([(5,0,0,0,0,[],a02 3 0,([(16,4,())]:List (Int×Int×Unit)),[],(0,[],()),[],())]:List a2d)))+1)) ((a3K z4.2.1).bind fun y5=>cond y5.2 (cond (lim ((a01 (a03 (a03 z4.2.2.1 ([(5,0,0,0,0,[],a02 3 0,([(16,4,())]:List (Int×Int×Unit)),[],(0,[],()),[],())]:List a2d)) ([(5,0,0,0,0,[],a02 3 0,([(32,3,()),(16,5,())]:List (Int×Int×Unit)),[],(0,[],()),[],())]:List a2d)))+1)) (some (z4.1,a03 (a03 (a03 z4.2.2.1 ([(5,0,0,0,0,[],a02 3 0,([(16,4,())]:List (Int×Int×Unit)),[],(0,[],()),[],())]:List a2d)) ([(5,0,0,0,0,[],a02 3 0,([(32,3,()),(16,5,())]:List (Int×Int×Unit)),[],(0,[],()),[],())]:List a2d)) ([y5.1]:List a2d),z4.2.1,())) none) (some (z4.1,a03 (a03 z4.2.2.1 ([(5,0,0,0,0,[],a02 3 0,([(16,4,())]:List (Int×Int×Unit)),[],(0,[],()),[],())]:List a2d)) ([(5,0,0,0,0,[],a02 3 0,([(32,3,()),(16,5,())]:List (Int×Int×Unit)),[],(0,[],()),[],())]:List a2d),z4.2.1,()))) none) none) (some (z4.1,z4.2.2.1,z4.2.1,()))).bind fun z6=>(show Option c9q from cond (decide (z6.1≥3)) ((y0s a2y (0,z6.2.1,z6.2.2.1,())).bind fun w7=>(a0Q (1,12,w7.2.1,w7.1)).bind fun y8=>(a0Q (2,12,y8.1,y8.2)).bind fun y9=>(a0Q (12,14,y9.1,y9.2)).bind fun y10=>(a0Q (16,14,y10.1,y10.2)).bind fun y11=>some (y11.2,())) (some (z6.2.1,()))).bind fun z12=>some z12.1
def b4m:FSem:=⟨[.v QL,.v QI],[.v (.list false Q42)],a7i⟩
def H94:Hints:=⟨[(4050,[50,.box 5 (.list true Q42),.box 2 QL,Qp 5 5,.clo 6 136 [2,5]],[Qe 0 [.box 5 (.list true Q42),.box 2 QL,Qp 5 5,.clo 6 136 [2,5]]])],[(15,[Qn [1,.box 2 QL,.box 5 (.list true Q42),Qp 2 2,Qp 5 5,.clo 6 136 [2,5]]]),(31,[Qn [1,.box 5 (.list true Q42),.box 2 QL,Qp 5 5,.clo 6 136 [2,5]]]),(63,[Qn [.box 5 (.list true Q42),Qp 5 5]])],[]⟩
def a4W(s:(LI×Z43)):Option ((LI×Z43) ⊕ Z50):=cond (decide (s.2.2.2.1<(s.1.length:Int))) ((m0k s.1 s.2.2.2.1).bind fun x4=>cond ((decide (0≤s.2.2.2.1))&&(decide (s.2.2.2.1≤(s.1.length:Int)))) ((a4Q (a06 (a00 s.2.2.2.1) s.1,s.2.1,s.2.2.1)).bind fun y5=>(a5r (wrap .i64 (x4-y5))).bind fun y6=>cond (!y6) (some (.inr (Sum.inr ((6,[],()))))) (cond (lim ((a01 s.2.2.2.2.1)+1)) (some (.inl (s.1,s.2.1,s.2.2.1,wrap .i64 (s.2.2.2.1+1),a03 s.2.2.2.2.1 [wrap .i64 (x4-y5)],()))) none)) none) (some (.inr (Sum.inl (s.2.2.2.2.1,()))))
def a7B(x:Z11):Option (LI×Int):=(show Option Z51 from(a4O (x.2.1,x.2.2)).bind fun y1=>cond (!y1) (some (x.1,x.2.1,x.2.2,true,())) (some (x.1,x.2.1,x.2.2,decide ((x.1.length:Int)<(x.2.1.length:Int)),()))).bind fun z2=>cond z2.2.2.2.1 (some ([],1)) ((a2K z2.1).bind fun y3=>cond (!y3) (some ([],6)) (cond ((decide (0≤(wrap .i64 ((z2.1.length:Int)-(z2.2.1.length:Int)))))&&(lim (a00 (wrap .i64 ((z2.1.length:Int)-(z2.2.1.length:Int)))))) ((y0s a4W (z2.1,z2.2.1,z2.2.2.1,(z2.2.1.length:Int),[],())).bind fun w7=>match w7 with |.inl a8=>some (a8.1,0) |.inr b9=>some (b9.2.1,b9.1)) none))
def b7q:FSem:=⟨[.v QL,.v QL,.v QI],[.o QI,.v QI],a7B⟩
def d7g:Hints:=⟨[(250,[.sv 0 QL,.sv 1 QL,2,9,.own 8 8 QI],[Qe 0 [.own 8 8 QI],Qr [7,.own 6 6 QI]])],[(6,[Qn [.sv 0 QL,.sv 1 QL,2,.sv 21 .bool]])],[(9,[.v,.v,.v,.v,.v,.v,.v,.v,.v,.v,.x,.x])]⟩
def a5M(s:(Z5×Int×Int×Int×Z86)):Option ((Z5×Int×Int×Int×Z86) ⊕ ((Z5×Z16) ⊕ Z6)):=cond (decide (s.2.2.2.2.1<s.2.2.2.1)) (cond ((decide (0≤s.2.2.2.2.1))&&(decide (s.2.2.2.2.1<(s.2.2.2.2.2.1.length:Int)))) ((a2e s.2.2.2.2.2.2.1).bind fun y6=>(a6w (wrap .i64 ((a04 s.2.2.2.2.2.1 (a00 s.2.2.2.2.1) 0)-y6.1))).bind fun y7=>cond (!y7) (some (.inr (Sum.inr ((6,[],()))))) ((a3m (y6.2,a04 s.2.2.2.2.2.1 (a00 s.2.2.2.2.1) 0)).bind fun y8=>cond ((decide (0≤s.2.2.2.2.1))&&(decide (s.2.2.2.2.1<(s.2.2.2.2.2.1.length:Int)))) (some (.inl (s.1,s.2.1,s.2.2.1,s.2.2.2.1,wrap .i64 (s.2.2.2.2.1+1),a18 s.2.2.2.2.2.1 (a00 s.2.2.2.2.1) (wrap .i64 ((a04 s.2.2.2.2.2.1 (a00 s.2.2.2.2.1) 0)-y6.1)),y8,()))) none)) none) (some (.inr (Sum.inl (s.1,s.2.1,s.2.2.1,s.2.2.2.2.2.1,()))))
def a5N(s:(Z5×Z16)):Option ((Z5×Z16) ⊕ Z50):=cond (decide (s.2.2.1<s.2.1)) ((m0k s.1 s.2.2.1).bind fun x4=>(a9E x4).bind fun y5=>cond (y5.2 != 0) (some (.inr (Sum.inr ((y5.2,[],()))))) ((y0s a5M (s.1,s.2.1,s.2.2.1,(s.2.2.2.1.length:Int),0,s.2.2.2.1,y5.1,())).bind fun w9=>match w9 with |.inl a10=>some (.inl (a10.1,a10.2.1,wrap .i64 (a10.2.2.1+1),a10.2.2.2.1,())) |.inr b11=>some (.inr (Sum.inr ((b11.1,b11.2.1,())))))) (some (.inr (Sum.inl (s.2.2.2.1,()))))
def b1n(x:(LI×Z5)):Option (LI×Int):=(a7K x.2).bind fun y1=>cond (!y1) (some ([],1)) ((a5D x.1).bind fun y2=>cond (!y2) (some ([],6)) ((a1g x.1).bind fun y3=>(y0s a5N (x.2,(x.2.length:Int),0,y3,())).bind fun w12=>match w12 with |.inl a13=>some (a13.1,0) |.inr b14=>some (b14.2.1,b14.1)))
def b7T:FSem:=⟨[.v QL,.v (.list false Q3)],[.o QI,.v QI],b1n⟩
def d7h:Hints:=⟨[(250,[.sv 22 (.list false Q3),23,24,.own 6 6 QI],[Qe 0 [.own 6 6 QI],Qr [5,.own 4 4 QI]]),(256414,[.sv 22 (.list false Q3),23,24,37,38,.own 6 6 QI,.box 1030 Q17,Qp 9 1030,.ref 36 6 []],[Qe 2 [.sv 22 (.list false Q3),23,24,.own 6 6 QI],Qr [5,.own 4 4 QI]])],[],[]⟩
def b2v(x:(a2d×LI)):Option (Int×a2d):=(show Option (LI×(LI×(Int×b6r)))from cond (x.1.1==2) ((a4U (x.2,x.1.2.2.1)).bind fun y1=>some (x.2,y1.1,y1.2,x.1,())) (cond (x.1.1==3) ((a7B (x.2,x.1.2.2.2.2.2.1,x.1.2.2.2.1)).bind fun y2=>some (x.2,y2.1,y2.2,x.1,())) (cond (x.1.1==4) ((a9J (x.2,x.1.2.2.2.2.1,x.1.2.2.2.2.2.2.1)).bind fun y3=>cond (y3.2==0) ((a7B (y3.1,x.1.2.2.2.2.2.1,x.1.2.2.2.1)).bind fun y4=>some (y3.1,y4.1,y4.2,x.1,())) (some (y3.1,[],y3.2,x.1,()))) (cond (x.1.1==5) ((b1n (x.2,x.1.2.2.2.2.2.2.2.1)).bind fun y5=>some (x.2,y5.1,y5.2,x.1,())) (some (x.2,[],0,x.1,())))))).bind fun z6=>cond (z6.2.2.1 != 0) (some (z6.2.2.1,z6.2.2.2.1)) ((a4P (z6.2.2.2.1,(z6.1.length:Int))).bind fun y7=>cond ((decide (0≤y7))&&(decide (y7≤(z6.1.length:Int)))) ((a1g (a06 (a00 y7) z6.1)).bind fun y8=>some (0,z6.2.2.2.1.1,z6.2.2.2.1.2.1,z6.2.2.2.1.2.2.1,z6.2.2.2.1.2.2.2.1,z6.2.2.2.1.2.2.2.2.1,z6.2.2.2.1.2.2.2.2.2.1,z6.2.2.2.1.2.2.2.2.2.2.1,z6.2.2.2.1.2.2.2.2.2.2.2.1,y8,z6.2.2.2.1.2.2.2.2.2.2.2.2.2.1,z6.2.1,z6.2.2.2.1.2.2.2.2.2.2.2.2.2.2.2)) none)
def b8U:FSem:=⟨[.r false (.b Q42),.v QL],[.v QI],b2v⟩
def d7i:Hints:=⟨[],[(15,[Qn [.sv 1 QL,.sv 5 QL,6,.box pinned Q42,Qp 0 pinned]])],[(7,[.v,.p,.p,.q,.q,.p,.p,.q,.q,.x,.x,.q,.q,.q,.x]),(9,[.v,.p,.p,.q,.q,.p,.p,.q,.q,.x,.x,.q,.q,.q,.x]),(11,[.q,.p,.p,.q,.q,.p,.p,.q,.q,.x,.x,.q,.q,.q,.x])]⟩
def b4n(s:Z14):Option Z70:=cond (decide (s.2.2.1<s.2.1)) ((m0k s.1 s.2.2.1).bind fun x3=>(show Option Z35 from cond (decide (x3<(-1073741824))) (some (s.1,s.2.1,s.2.2.1,true,())) (some (s.1,s.2.1,s.2.2.1,decide (x3≥1073741824),()))).bind fun z4=>cond z4.2.2.2.1 (some (.inr (Sum.inr ((false,()))))) (some (.inl (z4.1,z4.2.1,wrap .i64 (z4.2.2.1+1),())))) (some (.inr (Sum.inl ())))
def a7C(x:Z3):Option Bool:=(show Option (LI×(Bool×Unit))from(a7L (x.1,x.2.1)).bind fun y1=>cond (!y1) (some (x.2.2,true,())) (some (x.2.2,(x.2.2.length:Int) != (wrap .i64 (x.1-x.2.1)),()))).bind fun z2=>cond z2.2.1 (some false) ((y0s b4n (z2.1,(z2.1.length:Int),0,())).bind fun w5=>match w5 with |.inl a6=>some true |.inr b7=>some b7.1)
def b3k:FSem:=⟨[.v QI,.v QI,.v QL],[.v .bool],a7C⟩
def d7j:Hints:=⟨[(58,[.sv 21 QL,22,23],[Qe 0 [],Qr [.sv 6 .bool]])],[(6,[Qn [.sv 2 QL,.sv 20 .bool]]),(3737,[Qn [.sv 21 QL,22,23,.sv 32 .bool]])],[]⟩
def a6d(x:LI):Option Int:=(a1w x).bind fun y1=>some (wrap .i64 (5+(wrap .i64 (y1*(x.length:Int)))))
def b5x:FSem:=⟨[.v QL],[.v QI],a6d⟩
def a7P(x:Int):Option Bool:=cond (decide ((-1073741824)≤x)) (some (decide (x<1073741824))) (some false)
def b2w:FSem:=⟨[.v QI],[.v .bool],a7P⟩
def a9L(x:Int):Option Int:=(a7P x).bind fun y1=>cond (!y1) (some 0) (cond (decide (x≥0)) (some (wrap .u64 (wrap .i64 (2*x)))) (some (wrap .u64 (wrap .i64 ((wrap .i64 ((-2)*x))-1)))))
def b5y:FSem:=⟨[.v QI],[.v QU],a9L⟩
def a7Q(x:(Int×Int)):Option Int:=(show Option Z9 from(a1X x.1).bind fun y1=>cond (!y1) (some (x.1,x.2,true,())) ((a7P x.2).bind fun y2=>some (x.1,x.2,!y2,()))).bind fun z3=>cond z3.2.2.1 (some 0) ((a9L z3.2.1).bind fun y4=>cond (decide (z3.1<0)) none (cond (decide ((wrap .i64 (A0o .u64 y4 z3.1))<32)) (some (wrap .i64 ((wrap .i64 ((wrap .i64 (A0o .u64 y4 z3.1))+1))+z3.1))) (some 65)))
def b8V:FSem:=⟨[.v QI,.v QI],[.v QI],a7Q⟩
def d7k:Hints:=⟨[],[(6,[Qn [0,1,.sv 13 .bool]])],[]⟩
def a4f(s:Z52):Option (Z52 ⊕ (Int×Unit)):=cond (decide (s.2.2.2.2.1<s.2.2.2.1)) ((m0k s.2.2.1 s.2.2.2.2.1).bind fun x1=>(a7Q (s.1,x1)).bind fun y2=>some (.inl (s.1,wrap .i64 (s.2.1+y2),s.2.2.1,s.2.2.2.1,wrap .i64 (s.2.2.2.2.1+1),()))) (some (.inr (s.2.1,())))
def a3B(x:(Int×LI)):Option Int:=(y0s a4f (x.1,0,x.2,(x.2.length:Int),0,())).bind fun w3=>some w3.1
def b3C:FSem:=⟨[.v QI,.v QL],[.v QI],a3B⟩
def d7l:Hints:=⟨[(58,[0,5,.sv 8 QL,9,10],[Qe 0 [5]])],[],[]⟩
def a1y(s:(LI×(Int×(Int×(Int×(LI×Z19)))))):Option ((LI×(Int×(Int×(Int×(LI×Z19))))) ⊕ (Int×Unit)):=cond (decide (s.2.2.2.1<s.2.2.1)) (cond ((decide (0≤s.2.2.2.1))&&(decide (s.2.2.2.1<(s.2.2.2.2.1.length:Int)))) (cond ((decide (0≤(a04 s.2.2.2.2.1 (a00 s.2.2.2.1) 0)))&&(decide ((a04 s.2.2.2.2.1 (a00 s.2.2.2.1) 0)≤(s.1.length:Int)))) (cond ((decide (0≤(a04 s.2.2.2.2.1 (a00 s.2.2.2.1) 0)))&&(decide ((a04 s.2.2.2.2.1 (a00 s.2.2.2.1) 0)≤(s.1.length:Int)))) ((m0k s.2.2.2.2.2.1.2.1 s.2.2.2.1).bind fun x5=>cond (x5==31) ((a6d (a06 (a00 (a04 s.2.2.2.2.1 (a00 s.2.2.2.1) 0)) s.1)).bind fun y6=>some (.inl (a08 (a00 (a04 s.2.2.2.2.1 (a00 s.2.2.2.1) 0)) (a06 (a01 s.1) s.1),wrap .i64 (s.2.1+(wrap .i64 (5+y6))),s.2.2.1,wrap .i64 (s.2.2.2.1+1),s.2.2.2.2.1,s.2.2.2.2.2.1,()))) ((m0k s.2.2.2.2.2.1.2.1 s.2.2.2.1).bind fun x7=>(a3B (x7,a06 (a00 (a04 s.2.2.2.2.1 (a00 s.2.2.2.1) 0)) s.1)).bind fun y8=>some (.inl (a08 (a00 (a04 s.2.2.2.2.1 (a00 s.2.2.2.1) 0)) (a06 (a01 s.1) s.1),wrap .i64 (s.2.1+(wrap .i64 (5+y8))),s.2.2.1,wrap .i64 (s.2.2.2.1+1),s.2.2.2.2.1,s.2.2.2.2.2.1,())))) none) none) none) (some (.inr (s.2.1,())))
def a4X(x:(Z6×Z3)):Option Int:=(show Option (Int×(Int×(LI×(Bool×Z19))))from(a9D (x.1,x.2.1,x.2.2.1)).bind fun y1=>cond (!y1) (some (x.2.1,x.2.2.1,x.2.2.2,true,x.1,())) ((a7C (x.2.1,x.2.2.1,x.2.2.2)).bind fun y2=>some (x.2.1,x.2.2.1,x.2.2.2,!y2,x.1,()))).bind fun z3=>cond z3.2.2.2.1 (some 0) ((a3g (z3.2.2.2.2.1.1,z3.1,z3.2.1)).bind fun y4=>(y0s a1y (z3.2.2.1,4,(y4.length:Int),0,y4,z3.2.2.2.2.1,())).bind fun w9=>some w9.1)
def b4o:FSem:=⟨[.v Q11,.v QI,.v QI,.v QL],[.v QI],a4X⟩
def d7m:Hints:=⟨[(122,[.sv 3 QL,9,30,31,.own 29 1029 QI,.vp 4 Q11],[Qe 0 [9]])],[(6,[Qn [1,2,.sv 3 QL,.sv 24 .bool,.vp 4 Q11]])],[]⟩
def a9a(s:Z32):Option (Z32 ⊕ (Int×Unit)):=cond (decide (s.2.2.2.1≤25)) ((a3B (s.2.2.2.1,s.1)).bind fun y2=>cond (decide (y2<s.2.2.1)) (some (.inl (s.1,s.2.2.2.1,y2,wrap .i64 (s.2.2.2.1+1),()))) (some (.inl (s.1,s.2.1,s.2.2.1,wrap .i64 (s.2.2.2.1+1),())))) (some (.inr (s.2.1,())))
def b2x(x:LI):Option Int:=(a3B (0,x)).bind fun y1=>(y0s a9a (x,0,y1,1,())).bind fun w3=>some w3.1
def b8W:FSem:=⟨[.v QL],[.v QI],b2x⟩
def d7n:Hints:=⟨[(58,[.sv 0 QL,3,4,5],[Qe 0 [3]])],[],[]⟩
def a9b(x:LI):Option Int:=(b2x x).bind fun y1=>(a6d x).bind fun y2=>(a3B (y1,x)).bind fun y3=>cond (decide (y2<y3)) (some 31) (some y1)
def b5T:FSem:=⟨[.v QL],[.v QI],a9b⟩
def a8k(s:(Int×(Int×(Int×(LI×(Int×(Int×(LI×(Int×(Int×(LI×c6x))))))))))):Option ((Int×(Int×(Int×(LI×(Int×(Int×(LI×(Int×(Int×(LI×c6x)))))))))) ⊕ (Int×(Int×(Int×(LI×(Int×Int×c6x)))))):=cond (decide (s.2.2.2.2.2.2.2.2.1<s.2.2.2.2.2.2.2.1)) (cond ((decide (0≤s.2.2.2.2.2.2.2.2.1))&&(decide (s.2.2.2.2.2.2.2.2.1<(s.2.2.2.2.2.2.2.2.2.1.length:Int)))) (cond ((decide (0≤(a04 s.2.2.2.2.2.2.2.2.2.1 (a00 s.2.2.2.2.2.2.2.2.1) 0)))&&(decide ((a04 s.2.2.2.2.2.2.2.2.2.1 (a00 s.2.2.2.2.2.2.2.2.1) 0)≤(s.2.2.2.2.2.2.1.length:Int)))) ((a9b (a06 (a00 (a04 s.2.2.2.2.2.2.2.2.2.1 (a00 s.2.2.2.2.2.2.2.2.1) 0)) s.2.2.2.2.2.2.1)).bind fun y3=>cond (lim ((a01 s.2.2.2.2.2.2.2.2.2.2.2.2.1.2.1)+1)) (cond ((decide (0≤(a04 s.2.2.2.2.2.2.2.2.2.1 (a00 s.2.2.2.2.2.2.2.2.1) 0)))&&(decide ((a04 s.2.2.2.2.2.2.2.2.2.1 (a00 s.2.2.2.2.2.2.2.2.1) 0)≤(s.2.2.2.2.2.2.1.length:Int)))) (some (.inl (s.1,s.2.1,s.2.2.1,s.2.2.2.1,s.2.2.2.2.1,s.2.2.2.2.2.1,a08 (a00 (a04 s.2.2.2.2.2.2.2.2.2.1 (a00 s.2.2.2.2.2.2.2.2.1) 0)) (a06 (a01 s.2.2.2.2.2.2.1) s.2.2.2.2.2.2.1),s.2.2.2.2.2.2.2.1,wrap .i64 (s.2.2.2.2.2.2.2.2.1+1),s.2.2.2.2.2.2.2.2.2.1,s.2.2.2.2.2.2.2.2.2.2.1,s.2.2.2.2.2.2.2.2.2.2.2.1,(s.2.2.2.2.2.2.2.2.2.2.2.2.1.1,a03 s.2.2.2.2.2.2.2.2.2.2.2.2.1.2.1 [y3],s.2.2.2.2.2.2.2.2.2.2.2.2.1.2.2),()))) none) none) none) none) (some (.inr (s.1,s.2.1,s.2.2.1,s.2.2.2.1,s.2.2.2.2.1,s.2.2.2.2.2.1,s.2.2.2.2.2.2.2.2.2.2.1,s.2.2.2.2.2.2.2.2.2.2.2.1,s.2.2.2.2.2.2.2.2.2.2.2.2.1,())))
def a3V(s:(Int×(Int×(Int×(LI×(Int×Int×Z82)))))):Option ((Int×(Int×(Int×(LI×(Int×Int×Z82))))) ⊕ Z82):=cond (decide (s.2.2.2.2.2.1≤(v0s (v0r s.2.2.1 0) 8))) ((a3g (s.2.2.2.2.2.1,s.1,s.2.1)).bind fun y2=>cond ((y2.length:Int)==0) (some (.inl (s.1,s.2.1,s.2.2.1,s.2.2.2.1,s.2.2.2.2.1,wrap .i64 (s.2.2.2.2.2.1+1),s.2.2.2.2.2.2.1,s.2.2.2.2.2.2.2.1,()))) ((y0s a8k (s.1,s.2.1,s.2.2.1,s.2.2.2.1,s.2.2.2.2.1,s.2.2.2.2.2.1,s.2.2.2.1,(y2.length:Int),0,y2,s.2.2.2.2.2.2.1,s.2.2.2.2.2.2.2.1,(s.2.2.2.2.2.1,[],()),())).bind fun w4=>(a4X (w4.2.2.2.2.2.2.2.2.1,w4.1,w4.2.1,w4.2.2.2.1)).bind fun y5=>(show Option (Int×(Int×(Int×(LI×(Int×Int×Int×Bool×c6x)))))from cond (w4.2.2.2.2.1==0) (some (w4.1,w4.2.1,w4.2.2.1,w4.2.2.2.1,w4.2.2.2.2.1,w4.2.2.2.2.2.1,y5,true,w4.2.2.2.2.2.2.1,w4.2.2.2.2.2.2.2.1,w4.2.2.2.2.2.2.2.2.1,())) (some (w4.1,w4.2.1,w4.2.2.1,w4.2.2.2.1,w4.2.2.2.2.1,w4.2.2.2.2.2.1,y5,decide (y5<w4.2.2.2.2.1),w4.2.2.2.2.2.2.1,w4.2.2.2.2.2.2.2.1,w4.2.2.2.2.2.2.2.2.1,()))).bind fun z6=>cond z6.2.2.2.2.2.2.2.1 (some (.inl (z6.1,z6.2.1,z6.2.2.1,z6.2.2.2.1,z6.2.2.2.2.2.2.1,wrap .i64 (z6.2.2.2.2.2.1+1),z6.2.2.2.2.2.2.2.2.1,z6.2.2.2.2.2.2.2.2.2.2.1,()))) (some (.inl (z6.1,z6.2.1,z6.2.2.1,z6.2.2.2.1,z6.2.2.2.2.1,wrap .i64 (z6.2.2.2.2.2.1+1),z6.2.2.2.2.2.2.2.2.1,z6.2.2.2.2.2.2.2.2.2.1,()))))) (some (.inr (s.2.2.2.2.2.2.1,s.2.2.2.2.2.2.2.1,())))
def b1o(x:(Int×Z3)):Option (Z6×Int):=(a7C (x.1,x.2.1,x.2.2.2)).bind fun y1=>cond (!y1) (some ((0,[],()),1)) ((y0s a3V (x.1,x.2.1,x.2.2.1,x.2.2.2,0,0,(0,[],()),(0,[],()),())).bind fun w7=>some (w7.2.1,0))
def b7U:FSem:=⟨[.v QI,.v QI,.v QI,.v QL],[.v Q11,.v QI],b1o⟩
def d7o:Hints:=⟨[(250,[0,1,2,.sv 3 QL,11,12,.box 8 Q11,.box 10 Q11,Qp 8 8,Qp 10 10],[Qe 0 [.box 8 Q11,.box 10 Q11,Qp 8 8,Qp 10 10]]),(512634,[0,1,2,.sv 3 QL,11,12,.sv 15 QL,43,44,.own 42 13 QI,.box 8 Q11,.box 10 Q11,.box 14 Q10,Qp 8 8,Qp 10 10,Qp 14 14],[Qe 2 [0,1,2,.sv 3 QL,11,12,.box 8 Q11,.box 10 Q11,.box 14 Q10,Qp 8 8,Qp 10 10,Qp 14 14]])],[(256319,[Qn [0,1,2,.sv 3 QL,11,12,18,.sv 72 .bool,.box 8 Q11,.box 10 Q11,.box 14 Q11,Qp 8 8,Qp 10 10,Qp 14 14]])],[(15,[.q,.q,.v,.v,.v,.v,.q,.x,.x,.x])]⟩
def a5u(s:(LI×(LI×c6C))):Option ((LI×(LI×c6C)) ⊕ ((LI×b2Y) ⊕ (Int×b6r))):=cond (decide (s.2.2.2.1<s.2.2.1)) ((m0k s.2.1 s.2.2.2.1).bind fun x5=>(m0k s.1 0).bind fun x6=>cond (x5 != x6) (some (.inr (Sum.inr ((7,(0,0,0,0,0,[],a02 3 0,[],[],(0,[],()),[],()),()))))) (some (.inl (s.1,s.2.1,s.2.2.1,wrap .i64 (s.2.2.2.1+1),s.2.2.2.2.1,s.2.2.2.2.2.1,())))) (some (.inr (Sum.inl (s.1,s.2.2.2.2.1,s.2.2.2.2.2.1,()))))
def b3D(x:(Int×(LI×a2d))):Option b5o:=(show Option (Int×(LI×(Int×Bool×b2Y)))from cond (decide ((x.2.1.length:Int)<1)) (some (x.1,x.2.1,(x.2.1.length:Int),true,(0,0,0,0,0,[],a02 3 0,[],[],(0,[],()),[],()),x.2.2,())) (cond (decide ((x.2.1.length:Int) > 4096)) (some (x.1,x.2.1,(x.2.1.length:Int),true,(0,0,0,0,0,[],a02 3 0,[],[],(0,[],()),[],()),x.2.2,())) ((a8s (x.1,x.2.2,(x.2.1.length:Int))).bind fun y1=>some (x.1,x.2.1,(x.2.1.length:Int),!y1,(0,0,0,0,0,[],a02 3 0,[],[],(0,[],()),[],()),x.2.2,())))).bind fun z2=>cond z2.2.2.2.1 (some ((0,0,0,0,0,[],a02 3 0,[],[],(0,[],()),[],()),1)) ((a2E z2.2.1).bind fun y3=>cond (!y3) (some ((0,0,0,0,0,[],a02 3 0,[],[],(0,[],()),[],()),6)) ((a6v (z2.1,z2.2.2.2.2.2.1)).bind fun y4=>cond (z2.1==0) ((y0s a5u (z2.2.1,z2.2.1,(z2.2.1.length:Int),0,z2.2.2.2.2.1,y4,())).bind fun w7=>match w7 with |.inl a8=>((m0k a8.1 0).bind fun x10=>some ((a8.2.2.1.1,a8.2.2.1.2.1,a8.2.2.1.2.2.1,a8.2.2.1.2.2.2.1,a8.2.2.1.2.2.2.2.1,a8.2.2.1.2.2.2.2.2.1,a8.2.2.1.2.2.2.2.2.2.1,a8.2.2.1.2.2.2.2.2.2.2.1,[x10],a8.2.2.1.2.2.2.2.2.2.2.2.2),0)) |.inr b9=>some (b9.2.1,b9.1)) ((a3T z2.2.1).bind fun y11=>(a7A (z2.2.1,y11)).bind fun y12=>cond (y12.2 != 0) (some ((0,0,0,0,0,[],a02 3 0,[],[],(0,[],()),[],()),6)) (cond (z2.1==1) (some ((y4.1,y11,y4.2.2.1,y4.2.2.2.1,y4.2.2.2.2.1,y4.2.2.2.2.2.1,y4.2.2.2.2.2.2.1,y4.2.2.2.2.2.2.2.1,y12.1,y4.2.2.2.2.2.2.2.2.2),0)) ((b2v ((y4.1,y11,y4.2.2),y12.1)).bind fun y13=>cond (y13.1 != 0) (some ((0,0,0,0,0,[],a02 3 0,[],[],(0,[],()),[],()),6)) ((b1o (z2.2.2.1,(y13.2.2.2.2.2.2.2.2.2.1.length:Int),6,y13.2.2.2.2.2.2.2.2.2.2.2.1)).bind fun y14=>cond (y14.2 != 0) (some ((0,0,0,0,0,[],a02 3 0,[],[],(0,[],()),[],()),6)) (some ((y13.2.1,y13.2.2.1,y13.2.2.2.1,y13.2.2.2.2.1,y13.2.2.2.2.2.1,y13.2.2.2.2.2.2.1,y13.2.2.2.2.2.2.2.1,y13.2.2.2.2.2.2.2.2.1,y13.2.2.2.2.2.2.2.2.2.1,y14.1,y13.2.2.2.2.2.2.2.2.2.2.2),0))))))))
def c0I:FSem:=⟨[.v QI,.v QL,.v Q42],[.v Q42,.v QI],b3D⟩
def H95:Hints:=⟨[(4050,[.sv 1 QL,.sv 39 QL,40,41,.box 6 Q42,.box 9 Q42,Qp 6 6,Qp 9 9],[Qe 0 [.sv 1 QL,.box 6 Q42,.box 9 Q42,Qp 6 6,Qp 9 9],Qr [7,.box 6 Q42,Qp 6 6]])],[(14,[Qn [0,.sv 1 QL,8,.sv 28 .bool,.box 6 Q42,.vp 5 Q42,Qp 6 6]])],[]⟩
def a2r(x:(Z7×Int)):Option Z7:=(show Option Z38 from cond ((a05 x.1.2.1 8)==0) (cond (lim ((a01 x.1.1)+1)) (some (x.2,(a03 x.1.1 [0],x.1.2),())) none) (some (x.2,x.1,()))).bind fun z1=>cond ((decide (0≤(wrap .i64 (a07 z1.2.1.2.1 8))))&&(decide ((wrap .i64 (a07 z1.2.1.2.1 8))<(z1.2.1.1.length:Int)))) (cond (decide ((wrap .i64 (7-(a05 z1.2.1.2.1 8)))<0)) none (cond ((decide (0≤(wrap .i64 (a07 z1.2.1.2.1 8))))&&(decide ((wrap .i64 (a07 z1.2.1.2.1 8))<(z1.2.1.1.length:Int)))) (some (a18 z1.2.1.1 (a00 (wrap .i64 (a07 z1.2.1.2.1 8))) (bits .u8 .or (a04 z1.2.1.1 (a00 (wrap .i64 (a07 z1.2.1.2.1 8))) 0) (A0n .u8 z1.1 (wrap .i64 (7-(a05 z1.2.1.2.1 8))))),wrap .i64 (z1.2.1.2.1+1),z1.2.1.2.2)) none)) none
def a6o:FSem:=⟨[.r false (.b Q9),.v QV],[],a2r⟩
def d7p:Hints:=⟨[],[(1,[Qn [.sv 1 QV,.box pinned Q9,Qp 0 pinned]])],[(2,[.p,.p,.q,.q,.p,.p,.q,.q,.v,.q,.q,.v,.p,.p,.q,.q,.v,.v,.v,.x,.x,.x])]⟩
def a4q(s:Z56):Option (Z56 ⊕ Z21):=cond (decide (s.2.1≥0)) (cond (decide (s.2.1<0)) none ((a2r (s.2.2.1,wrap .u8 (bits .u64 .and (A0o .u64 s.1 s.2.1) 1))).bind fun y2=>some (.inl (s.1,wrap .i64 (s.2.1-1),y2,())))) (some (.inr (s.2.2.1,())))
def a0I(x:(Z7×Int×Int)):Option Z17:=(show Option (Int×Int×Bool×Z21)from cond (decide (x.2.2<0)) (some (x.2.1,x.2.2,true,x.1,())) (cond (decide (x.2.2 > 64)) (some (x.2.1,x.2.2,true,x.1,())) (cond (decide (x.2.2<0)) none (some (x.2.1,x.2.2,(A0o .u64 x.2.1 x.2.2) != 0,x.1,()))))).bind fun z1=>cond z1.2.2.1 (some (1,z1.2.2.2.1)) ((y0s a4q (z1.1,wrap .i64 (z1.2.1-1),z1.2.2.2.1,())).bind fun w3=>some (0,w3.1))
def a3d:FSem:=⟨[.r false (.b Q9),.v QU,.v QI],[.v QI],a0I⟩
def H99:Hints:=⟨[(58,[.sv 1 QU,7,.box pinned Q9,Qp 0 pinned],[Qe 0 [.box pinned Q9]])],[(6,[Qn [.sv 1 QU,2,.sv 19 .bool,.box pinned Q9,Qp 0 pinned]])],[]⟩
def a2U(x:(Z7×Int×Int)):Option Z7:=cond (decide (x.2.2<0)) none ((a0I (x.1,bits .u64 .and (wrap .u64 x.2.1) (wrap .u64 ((A0n .u64 1 x.2.2)-1)),x.2.2)).bind fun y1=>some y1.2)
def b1p:FSem:=⟨[.r false (.b Q9),.v QI,.v QI],[],a2U⟩
def a6p(s:Z90):Option (Z90 ⊕ Z21):=cond (decide (s.2.2.2.1<s.2.2.1)) ((m0k s.2.1 s.2.2.2.1).bind fun x6=>(a2U (s.2.2.2.2.1,x6,s.1)).bind fun y7=>some (.inl (s.1,s.2.1,s.2.2.1,wrap .i64 (s.2.2.2.1+1),y7,()))) (some (.inr (s.2.2.2.2.1,())))
def a9c(x:(Z7×a2d)):Option Z7:=(a0I (x.1,wrap .u64 (wrap .i64 ((x.2.2.2.2.2.2.1.length:Int)-1)),5)).bind fun y1=>(a0I (y1.2,wrap .u64 x.2.2.2.2.1,4)).bind fun y2=>(a1w x.2.2.2.2.2.2.1).bind fun y3=>(a0I (y2.2,wrap .u64 y3,5)).bind fun y4=>(y0s a6p (y3,x.2.2.2.2.2.2.1,(x.2.2.2.2.2.2.1.length:Int),0,y4.2,())).bind fun w8=>some w8.1
def b5U:FSem:=⟨[.r false (.b Q9),.v Q42],[],a9c⟩
def d7q:Hints:=⟨[(254,[4,.sv 27 QL,28,29,.box pinned Q9,Qp 0 pinned],[Qe 0 [.box pinned Q9]])],[],[]⟩
def a3C(s:Z56):Option (Z56 ⊕ Z21):=cond (decide (s.2.1<s.1)) ((a2r (s.2.2.1,0)).bind fun y2=>some (.inl (s.1,wrap .i64 (s.2.1+1),y2,()))) (some (.inr (s.2.2.1,())))
def a2z(x:(Z7×Int)):Option Z17:=(show Option (Int×Bool×Z21)from cond (decide (x.2<0)) (some (x.2,true,x.1,())) (some (x.2,decide (x.2 > 4096),x.1,()))).bind fun z1=>cond z1.2.1 (some (1,z1.2.2.1)) ((y0s a3C (z1.1,0,z1.2.2.1,())).bind fun w3=>(a2r (w3.1,1)).bind fun y4=>some (0,y4))
def b1J:FSem:=⟨[.r false (.b Q9),.v QI],[.v QI],a2z⟩
def d7r:Hints:=⟨[(58,[11,12,.box pinned Q9,Qp 0 pinned],[Qe 0 [.box pinned Q9,Qp 0 pinned]])],[(6,[Qn [1,.sv 10 .bool,.box pinned Q9,Qp 0 pinned]])],[]⟩
def b0B(s:(Int×(LI×Z80))):Option ((Int×(LI×Z80)) ⊕ ((Int×(LI×Z21)) ⊕ Z38)):=cond (decide (s.2.2.2.2.1<s.2.2.2.1)) ((m0k s.2.2.1 s.2.2.2.2.1).bind fun x2=>(a7P x2).bind fun y3=>cond (!y3) (some (.inr (Sum.inr ((1,s.2.2.2.2.2.1,()))))) (some (.inl (s.1,s.2.1,s.2.2.1,s.2.2.2.1,wrap .i64 (s.2.2.2.2.1+1),s.2.2.2.2.2.1,())))) (some (.inr (Sum.inl (s.1,s.2.1,s.2.2.2.2.2.1,()))))
def a7D(s:Z90):Option (Z90 ⊕ Z21):=cond (decide (s.2.2.2.1<s.2.2.1)) ((m0k s.2.1 s.2.2.2.1).bind fun x7=>(a9L x7).bind fun y8=>cond (decide (s.1<0)) none (cond (decide ((A0o .u64 y8 s.1)<32)) ((a2z (s.2.2.2.2.1,wrap .i64 (A0o .u64 y8 s.1))).bind fun y9=>cond (decide (s.1<0)) none ((a0I (y9.2,wrap .u64 (y8-(A0n .u64 (A0o .u64 y8 s.1) s.1)),s.1)).bind fun y10=>some (.inl (s.1,s.2.1,s.2.2.1,wrap .i64 (s.2.2.2.1+1),y10.2,())))) ((a2z (s.2.2.2.2.1,32)).bind fun y11=>(a0I (y11.2,y8,32)).bind fun y12=>some (.inl (s.1,s.2.1,s.2.2.1,wrap .i64 (s.2.2.2.1+1),y12.2,()))))) (some (.inr (s.2.2.2.2.1,())))
def b3E(x:(Z7×(Int×LI))):Option Z17:=(a1X x.2.1).bind fun y1=>cond (!y1) (some (1,x.1)) ((y0s b0B (x.2.1,x.2.2,x.2.2,(x.2.2.length:Int),0,x.1,())).bind fun w4=>match w4 with |.inl a5=>((y0s a7D (a5.1,a5.2.1,(a5.2.1.length:Int),0,a5.2.2.1,())).bind fun w13=>some (0,w13.1)) |.inr b6=>some (b6.1,b6.2.1))
def c0J:FSem:=⟨[.r false (.b Q9),.v QI,.v QL],[.v QI],b3E⟩
def d7s:Hints:=⟨[(58,[1,.sv 2 QL,.sv 16 QL,17,18,.box pinned Q9,Qp 0 pinned],[Qe 0 [1,.sv 2 QL,.box pinned Q9,Qp 0 pinned],Qr [6,.box pinned Q9]]),(122,[1,.sv 26 QL,27,28,.box pinned Q9,Qp 0 pinned],[Qe 2 [.box pinned Q9]])],[],[]⟩
def a9d(s:(LI×(Int×Int×Int×c3P))):Option ((LI×(Int×Int×Int×c3P)) ⊕ c3P):=cond (decide (s.2.2.2.2.2.2.1<s.2.2.2.2.2.1)) ((m0k s.2.2.2.2.1 s.2.2.2.2.2.2.1).bind fun x11=>cond (decide (s.2.1<0)) none ((a0I (s.2.2.2.2.2.2.2.2.1,bits .u64 .and (wrap .u64 x11) (wrap .u64 ((A0n .u64 1 s.2.1)-1)),s.2.1)).bind fun y12=>some (.inl (s.1,s.2.1,s.2.2.1,s.2.2.2.1,s.2.2.2.2.1,s.2.2.2.2.2.1,wrap .i64 (s.2.2.2.2.2.2.1+1),s.2.2.2.2.2.2.2.1,y12.2,s.2.2.2.2.2.2.2.2.2.1,())))) (some (.inr (s.1,s.2.2.1,s.2.2.2.1,s.2.2.2.2.2.2.2.1,s.2.2.2.2.2.2.2.2.1,s.2.2.2.2.2.2.2.2.2.1,())))
def a4K(s:c3P):Option (c3P ⊕ Z21):=cond (decide (s.2.2.1<s.2.1)) (cond ((decide (0≤s.2.2.1))&&(decide (s.2.2.1<(s.2.2.2.1.length:Int)))) (cond ((decide (0≤(a04 s.2.2.2.1 (a00 s.2.2.1) 0)))&&(decide ((a04 s.2.2.2.1 (a00 s.2.2.1) 0)≤(s.1.length:Int)))) (cond ((decide (0≤(a04 s.2.2.2.1 (a00 s.2.2.1) 0)))&&(decide ((a04 s.2.2.2.1 (a00 s.2.2.1) 0)≤(s.1.length:Int)))) ((m0k s.2.2.2.2.2.1.2.1 s.2.2.1).bind fun x4=>(a0I (s.2.2.2.2.1,wrap .u64 x4,5)).bind fun y5=>(m0k s.2.2.2.2.2.1.2.1 s.2.2.1).bind fun x6=>cond (x6 != 31) ((m0k s.2.2.2.2.2.1.2.1 s.2.2.1).bind fun x7=>(b3E (y5.2,x7,a06 (a00 (a04 s.2.2.2.1 (a00 s.2.2.1) 0)) s.1)).bind fun y8=>some (.inl (a08 (a00 (a04 s.2.2.2.1 (a00 s.2.2.1) 0)) (a06 (a01 s.1) s.1),s.2.1,wrap .i64 (s.2.2.1+1),s.2.2.2.1,y8.2,s.2.2.2.2.2.1,()))) ((a1w (a06 (a00 (a04 s.2.2.2.1 (a00 s.2.2.1) 0)) s.1)).bind fun y9=>(a0I (y5.2,wrap .u64 y9,5)).bind fun y10=>(y0s a9d (a08 (a00 (a04 s.2.2.2.1 (a00 s.2.2.1) 0)) (a06 (a01 s.1) s.1),y9,s.2.1,s.2.2.1,a06 (a00 (a04 s.2.2.2.1 (a00 s.2.2.1) 0)) s.1,((a01 (a06 (a00 (a04 s.2.2.2.1 (a00 s.2.2.1) 0)) s.1):Nat):Int),0,s.2.2.2.1,y10.2,s.2.2.2.2.2.1,())).bind fun w13=>some (.inl (w13.1,w13.2.1,wrap .i64 (w13.2.2.1+1),w13.2.2.2.1,w13.2.2.2.2.1,w13.2.2.2.2.2.1,())))) none) none) none) (some (.inr (s.2.2.2.2.1,())))
def b2y(x:(Z7×Z6×Z3)):Option Z17:=(a4X (x.2.1,x.2.2.1,x.2.2.2.1,x.2.2.2.2)).bind fun y1=>cond (y1==0) (some (1,x.1)) ((a0I (x.1,wrap .u64 x.2.1.1,4)).bind fun y2=>(a3g (x.2.1.1,x.2.2.1,x.2.2.2.1)).bind fun y3=>(y0s a4K (x.2.2.2.2,(y3.length:Int),0,y3,y2.2,x.2.1,())).bind fun w14=>some (0,w14.1))
def b8X:FSem:=⟨[.r false (.b Q9),.v Q11,.v QI,.v QI,.v QL],[.v QI],b2y⟩
def d7t:Hints:=⟨[(122,[.sv 4 QL,33,34,.own 32 1032 QI,.box pinned Q9,Qp 0 pinned,.vp 6 Q11],[Qe 0 [.box pinned Q9]]),(2005502,[.sv 4 QL,14,33,34,.sv 73 QL,74,75,.own 32 1032 QI,.box pinned Q9,Qp 0 pinned,.vp 6 Q11],[Qe 2 [.sv 4 QL,33,34,.own 32 1032 QI,.box pinned Q9,Qp 0 pinned,.vp 6 Q11]])],[],[]⟩
def b1q(s:(Int×(Int×(LI×c6A)))):Option ((Int×(Int×(LI×c6A))) ⊕ b5p):=cond (decide (s.2.2.2.1<3)) ((m0k s.2.2.1 s.2.2.2.1).bind fun x8=>(a2U (s.2.2.2.2.1,x8,8)).bind fun y9=>some (.inl (s.1,s.2.1,s.2.2.1,wrap .i64 (s.2.2.2.1+1),y9,s.2.2.2.2.2.1,()))) (some (.inr (s.1,s.2.1,s.2.2.2.2.1,s.2.2.2.2.2.1,())))
def b1r(s:(Int×Int×Z5×b5p)):Option ((Int×Int×Z5×b5p) ⊕ b5p):=cond (decide (s.2.2.2.2.1<s.2.2.2.1)) ((m0k s.2.2.1 s.2.2.2.2.1).bind fun x18=>(a0I (s.2.2.2.2.2.1,wrap .u64 (wrap .i64 (x18.1-1)),5)).bind fun y19=>(a0I (y19.2,wrap .u64 x18.2.1,4)).bind fun y20=>some (.inl (s.1,s.2.1,s.2.2.1,s.2.2.2.1,wrap .i64 (s.2.2.2.2.1+1),y20.2,s.2.2.2.2.2.2.1,()))) (some (.inr (s.1,s.2.1,s.2.2.2.2.2.1,s.2.2.2.2.2.2.1,())))
def b1s(s:(Int×(Int×(LI×b5p)))):Option ((Int×(Int×(LI×b5p))) ⊕ c6A):=cond (decide (s.2.2.2.2.1<s.2.2.2.1)) ((m0k s.2.2.1 s.2.2.2.2.1).bind fun x23=>(a2U (s.2.2.2.2.2.1,x23,s.2.1)).bind fun y24=>some (.inl (s.1,s.2.1,s.2.2.1,s.2.2.2.1,wrap .i64 (s.2.2.2.2.1+1),y24,s.2.2.2.2.2.2.1,()))) (some (.inr (s.1,s.2.2.2.2.2.1,s.2.2.2.2.2.2.1,())))
def b0S(x:(Z7×b5o)):Option Z17:=(b0Q (x.2.1,x.2.2)).bind fun y1=>cond (!y1) (some (1,x.1)) ((a1w x.2.1.2.2.2.2.2.2.2.2.1).bind fun y2=>(a0I (x.1,wrap .u64 x.2.1.1,3)).bind fun y3=>(a0I (y3.2,wrap .u64 x.2.1.2.1,5)).bind fun y4=>(a0I (y4.2,wrap .u64 y2,5)).bind fun y5=>(show Option b5p from(show Option (b5p ⊕ (b5p ⊕ b5p))from cond (x.2.1.1==2) ((a0I (y5.2,wrap .u64 x.2.1.2.2.1,3)).bind fun y6=>some (Sum.inr (Sum.inl (x.2.2,y2,y6.2,x.2.1,())))) (cond (x.2.1.1==4) ((a0I (y5.2,wrap .u64 (wrap .i64 (x.2.1.2.2.2.2.1-1)),10)).bind fun y7=>(y0s b1q (x.2.2,y2,x.2.1.2.2.2.2.2.2.1,0,y7.2,x.2.1,())).bind fun w10=>some (Sum.inl (w10.1,w10.2.1,w10.2.2.1,w10.2.2.2.1,()))) (cond (x.2.1.1==3) (some (Sum.inl (x.2.2,y2,y5.2,x.2.1,()))) (cond (x.2.1.1==5) (some (Sum.inr (Sum.inr ((x.2.2,y2,y5.2,x.2.1,()))))) (some (Sum.inr (Sum.inl (x.2.2,y2,y5.2,x.2.1,())))))))).bind fun z11=>match z11 with |.inl a12=>((a9c (a12.2.2.1,a12.2.2.2.1)).bind fun y14=>some (a12.1,a12.2.1,y14,a12.2.2.2.1,())) |.inr b13=>(match b13 with |.inl a15=>some (a15.1,a15.2.1,a15.2.2.1,a15.2.2.2.1,()) |.inr b16=>((a0I (b16.2.2.1,wrap .u64 (b16.2.2.2.1.2.2.2.2.2.2.2.1.length:Int),2)).bind fun y17=>(y0s b1r (b16.1,b16.2.1,b16.2.2.2.1.2.2.2.2.2.2.2.1,(b16.2.2.2.1.2.2.2.2.2.2.2.1.length:Int),0,y17.2,b16.2.2.2.1,())).bind fun w21=>some (w21.1,w21.2.1,w21.2.2.1,w21.2.2.2.1,())))).bind fun z22=>(y0s b1s (z22.1,z22.2.1,z22.2.2.2.1.2.2.2.2.2.2.2.2.1,(z22.2.2.2.1.2.2.2.2.2.2.2.2.1.length:Int),0,z22.2.2.1,z22.2.2.2.1,())).bind fun w25=>(a6t w25.2.2.1.1).bind fun y26=>cond (!y26) (some (0,w25.2.1)) ((b2y (w25.2.1,w25.2.2.1.2.2.2.2.2.2.2.2.2.1,w25.1,(w25.2.2.1.2.2.2.2.2.2.2.2.1.length:Int),w25.2.2.1.2.2.2.2.2.2.2.2.2.2.1)).bind fun y27=>some (y27.1,y27.2)))
def b7V:FSem:=⟨[.r false (.b Q9),.v Q42,.v QI],[.v QI],b0S⟩
def H50:Hints:=⟨[(2042,[2,7,.sv 94 QL,95,96,.box pinned Q9,Qp 0 pinned,.vp 4 Q42],[Qe 9 [2,.box pinned Q9,Qp 0 pinned,.vp 4 Q42]]),(32598,[2,7,.sv 75 (.list false Q3),76,77,.box pinned Q9,Qp 0 pinned,.vp 4 Q42],[Qe 7 [2,7,.box pinned Q9,Qp 0 pinned,.vp 4 Q42]]),(260622,[2,7,.sv 57 (.arr 3 QI),58,.box pinned Q9,Qp 0 pinned,.vp 4 Q42],[Qe 5 [2,7,.box pinned Q9,Qp 0 pinned,.vp 4 Q42]])],[(127,[Qn [2,7,.box pinned Q9,Qp 0 pinned,.vp 4 Q42]]),(4072,[Qn [2,7,.box pinned Q9,Qp 0 pinned,.vp 4 Q42],Qe 0 [2,7,.box pinned Q9,Qp 0 pinned,.vp 4 Q42],Qe 4 [2,7,.box pinned Q9,Qp 0 pinned,.vp 4 Q42]])],[]⟩
def a9w(x:Z7):Option Z17:=some (x.2.1,x)
def b3u:FSem:=⟨[.r false (.b Q9)],[.v QI],a9w⟩
def a4r(x:b5o):Option Int:=(b0S (([],0,()),x.1,x.2)).bind fun y1=>cond (y1.1 != 0) (some 0) ((a9w y1.2).bind fun y2=>some y2.1)
def c0K:FSem:=⟨[.v Q42,.v QI],[.v QI],a4r⟩
def a7E(s:(LI×(Int×Bool×b0X×c6C))):Option ((LI×(Int×Bool×b0X×c6C)) ⊕ b2Y):=cond (decide (s.2.2.2.2.2.1<s.2.2.2.2.1)) ((m0k s.2.2.2.1 s.2.2.2.2.2.1).bind fun x6=>(b3D (x6.1,s.1,x6)).bind fun y7=>cond (y7.2 != 0) (some (.inl (s.1,s.2.1,s.2.2.1,s.2.2.2.1,s.2.2.2.2.1,wrap .i64 (s.2.2.2.2.2.1+1),s.2.2.2.2.2.2.1,s.2.2.2.2.2.2.2.1,()))) ((a4r (y7.1,(s.1.length:Int))).bind fun y8=>(show Option (LI×(Int×Bool×Int×b0X×Int×Int×Bool×a2d×b2Y))from cond (!s.2.2.1) (some (s.1,s.2.1,s.2.2.1,y8,s.2.2.2.1,s.2.2.2.2.1,s.2.2.2.2.2.1,true,s.2.2.2.2.2.2.1,s.2.2.2.2.2.2.2.1,y7.1,())) (some (s.1,s.2.1,s.2.2.1,y8,s.2.2.2.1,s.2.2.2.2.1,s.2.2.2.2.2.1,decide (y8<s.2.1),s.2.2.2.2.2.2.1,s.2.2.2.2.2.2.2.1,y7.1,()))).bind fun z9=>cond z9.2.2.2.2.2.2.2.1 (some (.inl (z9.1,z9.2.2.2.1,true,z9.2.2.2.2.1,z9.2.2.2.2.2.1,wrap .i64 (z9.2.2.2.2.2.2.1+1),z9.2.2.2.2.2.2.2.2.1,z9.2.2.2.2.2.2.2.2.2.2.1,()))) (some (.inl (z9.1,z9.2.1,z9.2.2.1,z9.2.2.2.2.1,z9.2.2.2.2.2.1,wrap .i64 (z9.2.2.2.2.2.2.1+1),z9.2.2.2.2.2.2.2.2.1,z9.2.2.2.2.2.2.2.2.2.1,()))))) (some (.inr (s.2.2.2.2.2.2.1,s.2.2.2.2.2.2.2.1,())))
def a5O(x:(LI×Int)):Option b5o:=(show Option (LI×c3Q)from cond (decide ((x.1.length:Int)<1)) (some (x.1,x.2,true,(0,0,0,0,0,[],a02 3 0,[],[],(0,[],()),[],()),())) (cond (decide ((x.1.length:Int) > 4096)) (some (x.1,x.2,true,(0,0,0,0,0,[],a02 3 0,[],[],(0,[],()),[],()),())) (cond (decide (x.2<0)) (some (x.1,x.2,true,(0,0,0,0,0,[],a02 3 0,[],[],(0,[],()),[],()),())) (some (x.1,x.2,decide (x.2 > 3),(0,0,0,0,0,[],a02 3 0,[],[],(0,[],()),[],()),()))))).bind fun z1=>cond z1.2.2.1 (some ((0,0,0,0,0,[],a02 3 0,[],[],(0,[],()),[],()),1)) ((a2E z1.1).bind fun y2=>cond (!y2) (some ((0,0,0,0,0,[],a02 3 0,[],[],(0,[],()),[],()),6)) ((a3T z1.1).bind fun y3=>(a7A (z1.1,y3)).bind fun y4=>cond (y4.2 != 0) (some ((0,0,0,0,0,[],a02 3 0,[],[],(0,[],()),[],()),y4.2)) ((a7i (y4.1,z1.2.1)).bind fun y5=>(y0s a7E (z1.1,0,false,y5,(y5.length:Int),0,z1.2.2.2.1,(0,0,0,0,0,[],a02 3 0,[],[],(0,[],()),[],()),())).bind fun w10=>some (w10.2.1,0))))
def c0L:FSem:=⟨[.v QL,.v QI],[.v Q42,.v QI],a5O⟩
def H48:Hints:=⟨[(2042,[.sv 0 QL,9,.sv 10 .bool,.sv 50 (.list false Q42),51,52,.box 4 Q42,.box 8 Q42,Qp 4 4,Qp 8 8],[Qe 0 [.box 4 Q42,.box 8 Q42,Qp 4 4,Qp 8 8]])],[(6,[Qn [.sv 0 QL,1,.sv 31 .bool,.box 4 Q42,Qp 4 4]]),(1045711,[Qn [.sv 0 QL,9,.sv 10 .bool,15,.sv 50 (.list false Q42),51,52,.sv 76 .bool,.box 4 Q42,.box 8 Q42,.box 13 Q42,Qp 4 4,Qp 8 8,Qp 13 13]])],[]⟩
def a5P(s:(Int×((List LI)×(Int×Int×a2I×b5q)))):Option ((Int×((List LI)×(Int×Int×a2I×b5q))) ⊕ ((a2I×b5q) ⊕ (Int×b5q))):=cond (decide (s.2.2.2.1<s.2.2.1)) ((m0k s.2.1 s.2.2.2.1).bind fun x8=>(a5O (x8,s.1)).bind fun y9=>cond (y9.2 != 0) (some (.inr (Sum.inr ((y9.2,(0,0,(0,0,0,()),[],[],()),()))))) (cond (lim ((a01 s.2.2.2.2.2.1.2.2.2.2.1)+1)) (some (.inl (s.1,s.2.1,s.2.2.1,wrap .i64 (s.2.2.2.1+1),s.2.2.2.2.1,(s.2.2.2.2.2.1.1,s.2.2.2.2.2.1.2.1,s.2.2.2.2.2.1.2.2.1,s.2.2.2.2.2.1.2.2.2.1,a03 s.2.2.2.2.2.1.2.2.2.2.1 ([y9.1]:List a2d),s.2.2.2.2.2.1.2.2.2.2.2),()))) none)) (some (.inr (Sum.inl (s.2.2.2.2.1,s.2.2.2.2.2.1,()))))
def a2V(x:(Z12×Z8×Int×Int)):Option (a2I×Int):=(show Option (Int×Int×Bool×a2I×Z12×Z22)from(a3w x.1).bind fun y1=>cond (!y1) (some (x.2.2.1,x.2.2.2,true,(0,0,(0,0,0,()),[],[],()),x.1,x.2.1,())) ((a1Z x.2.1).bind fun y2=>cond (!y2) (some (x.2.2.1,x.2.2.2,true,(0,0,(0,0,0,()),[],[],()),x.1,x.2.1,())) (cond (x.1.1 != x.2.1.2.2.1) (some (x.2.2.1,x.2.2.2,true,(0,0,(0,0,0,()),[],[],()),x.1,x.2.1,())) (cond ((x.1.2.1.length:Int) != x.2.1.2.1) (some (x.2.2.1,x.2.2.2,true,(0,0,(0,0,0,()),[],[],()),x.1,x.2.1,())) (cond (decide (x.2.2.2<0)) (some (x.2.2.1,x.2.2.2,true,(0,0,(0,0,0,()),[],[],()),x.1,x.2.1,())) (cond (decide (x.2.2.2 > 3)) (some (x.2.2.1,x.2.2.2,true,(0,0,(0,0,0,()),[],[],()),x.1,x.2.1,())) (some (x.2.2.1,x.2.2.2,decide (x.2.2.1<0),(0,0,(0,0,0,()),[],[],()),x.1,x.2.1,())))))))).bind fun z3=>cond z3.2.2.1 (some ((0,0,(0,0,0,()),[],[],()),1)) ((a3v z3.2.2.2.2.1).bind fun y4=>cond (decide (z3.1 > (wrap .i64 (4194304-y4)))) (some ((0,0,(0,0,0,()),[],[],()),4)) ((show Option (Int×a2I×a2I×Z33)from cond (decide (z3.2.1 > 0)) ((a7O z3.2.2.2.2.1).bind fun y5=>some (z3.2.1,z3.2.2.2.1,(z3.1,y4,z3.2.2.2.2.2.1,y5,[],()),z3.2.2.2.2.1,())) (some (z3.2.1,z3.2.2.2.1,(z3.1,y4,z3.2.2.2.2.2.1,[],[],()),z3.2.2.2.2.1,()))).bind fun z6=>(b2O (z6.2.2.2.1.2.1,z6.2.2.1.2.2.2.1)).bind fun y7=>cond (y7.2 != 0) (some ((0,0,(0,0,0,()),[],[],()),y7.2)) ((y0s a5P (z6.1,y7.1,(y7.1.length:Int),0,z6.2.1,z6.2.2.1,())).bind fun w10=>match w10 with |.inl a11=>some (a11.2.1,0) |.inr b12=>some (b12.2.1,b12.1))))
def b4p:FSem:=⟨[.v Q15,.v Q12,.v QI,.v QI],[.v Q60,.v QI],a2V⟩
def H20:Hints:=⟨[(2042,[3,.sv 81 (.list false QL),82,83,.box 8 Q60,.box 10 Q59,Qp 8 8,Qp 10 10],[Qe 0 [.box 8 Q60,.box 10 Q59,Qp 8 8,Qp 10 10],Qr [9,.box 8 Q60,Qp 8 8]])],[(6,[Qn [2,3,.sv 51 .bool,.box 8 Q60,.vp 4 Q15,.vp 5 Q12,Qp 8 8]]),(31,[Qn [3,.box 8 Q60,.box 10 Q59,.vp 4 Q15,Qp 8 8,Qp 10 10]])],[(3,[.v,.v,.v,.v,.v,.q,.x])]⟩
def a9e(s:((List LI)×(Int×Int×Z12×Z12×Z10))):Option (((List LI)×(Int×Int×Z12×Z12×Z10)) ⊕ (Z12×Z33)):=cond (decide (s.2.2.1<s.2.1)) ((m0k s.1 s.2.2.1).bind fun x4=>cond ((decide (0≤s.2.2.2.2.2.1.2.1))&&(decide (s.2.2.2.2.2.1.2.1≤(x4.length:Int)))) (cond ((decide (0≤s.2.2.2.2.2.1.1))&&(decide (s.2.2.2.2.2.1.1≤((a00 s.2.2.2.2.2.1.2.1:Nat):Int)))) ((a2F (a08 (a00 s.2.2.2.2.2.1.1) (a06 (a00 s.2.2.2.2.2.1.2.1) x4))).bind fun y5=>cond (lim ((a01 s.2.2.2.2.1.2.1)+1)) (some (.inl (s.1,s.2.1,wrap .i64 (s.2.2.1+1),s.2.2.2.1,(s.2.2.2.2.1.1,a03 s.2.2.2.2.1.2.1 ([y5]:List LI),s.2.2.2.2.1.2.2),s.2.2.2.2.2.1,()))) none) none) none) (some (.inr (s.2.2.2.1,s.2.2.2.2.1,())))
def b2z(x:(Z12×Int×Int×Unit)):Option Z29:=(a3w x.1).bind fun y1=>cond (!y1) (some ((0,([]:(List LI)),()),1)) ((show Option (Bool×Z12×Z12×Z10)from cond (decide (x.2.1<0)) (some (true,(0,([]:(List LI)),()),x.1,x.2,())) (cond (decide (x.2.1≥x.2.2.1)) (some (true,(0,([]:(List LI)),()),x.1,x.2,())) ((a3v x.1).bind fun y2=>some (decide (x.2.2.1 > y2),(0,([]:(List LI)),()),x.1,x.2,())))).bind fun z3=>cond z3.1 (some ((0,([]:(List LI)),()),6)) ((y0s a9e (z3.2.2.1.2.1,(z3.2.2.1.2.1.length:Int),0,z3.2.1,(z3.2.2.1.1,([]:(List LI)),()),z3.2.2.2.1,())).bind fun w6=>some (w6.2.1,0)))
def b8Y:FSem:=⟨[.v Q15,.v Q3],[.v Q15,.v QI],b2z⟩
def H26:Hints:=⟨[(250,[.sv 35 (.list false QL),36,37,.box 4 Q15,.box 6 (.pair QI Q7),.vp 3 Q3,Qp 4 4,Qp 6 6],[Qe 0 [.box 4 Q15,.box 6 (.pair QI Q7),Qp 4 4,Qp 6 6]])],[(14,[Qn [.sv 29 .bool,.box 4 Q15,.vp 2 Q15,.vp 3 Q3,Qp 4 4]])],[(3,[.x,.x,.x,.x,.v,.v,.v,.v,.x,.x,.x,.v,.v,.v,.v,.x,.x]),(9,[.q,.q,.v,.v,.v,.v,.v,.v,.v,.q,.x,.x,.x])]⟩
def a8l(x:(a2I×(Int×Int×Unit)×Int)):Option (a2I×Int):=(a2b x.1).bind fun y1=>cond (y1.2 != 0) (some ((0,0,(0,0,0,()),[],[],()),y1.2)) ((b2z (y1.1,x.2.1)).bind fun y2=>cond (y2.2 != 0) (some ((0,0,(0,0,0,()),[],[],()),y2.2)) ((a2V (y2.1,x.1.2.2.1,0,x.2.2)).bind fun y3=>some (y3.1,y3.2)))
def b4S:FSem:=⟨[.v Q60,.v Q3,.v QI],[.v Q60,.v QI],a8l⟩
def a3D(s:Z21):Option (Z21 ⊕ Z21):=cond ((a05 s.1.2.1 8) != 0) ((a2r (s.1,0)).bind fun y2=>some (.inl (y2,()))) (some (.inr (s.1,())))
def a5k(x:Z7):Option Z7:=(y0s a3D (x,())).bind fun w3=>some w3.1
end Go.Ab
namespace Go.Ab
open IntKind(wrap)
open Go.Proofs
set_option maxRecDepth 100000
set_option linter.unusedVariables false
def b1K:FSem:=⟨[.r false (.b Q9)],[],a5k⟩
def H51:Hints:=⟨[(2,[.box pinned Q9,Qp 0 pinned],[Qe 0 [.box pinned Q9]])],[],[]⟩
def a5l(x:Z7):Option (LI×Z7):=cond (lim (a01 x.1)) (some (x.1,x)) none
def b1L:FSem:=⟨[.r false (.b Q9)],[.o QV],a5l⟩
def b2A(x:Int):Option Int:=cond (decide (x≥0)) (some (wrap .u64 (2*(wrap .u64 x)))) (some (wrap .u64 ((wrap .u64 (2*(wrap .u64 (wrap .i64 (0-(wrap .i64 (x+1)))))))+1)))
def b8Z:FSem:=⟨[.v QI],[.v QU],b2A⟩
def a9f(s:Z60):Option (Z60 ⊕ Z60):=cond (decide (s.1≥128)) (cond (lim ((a01 s.2.2.2.2.1)+1)) (some (.inl (wrap .u64 (a07 s.1 128),s.2.1,s.2.2.1,s.2.2.2.1,a03 s.2.2.2.2.1 [wrap .u8 ((wrap .u8 (a05 s.1 128))+128)],()))) none) (some (.inr (s.1,s.2.1,s.2.2.1,s.2.2.2.1,s.2.2.2.2.1,())))
def a9g(s:Z43):Option (Z43 ⊕ (LI×Unit)):=cond (decide (s.2.2.1<s.2.1)) ((m0k s.1 s.2.2.1).bind fun x1=>(y0s a9f (x1,s.1,s.2.1,s.2.2.1,s.2.2.2.1,())).bind fun w2=>cond (lim ((a01 w2.2.2.2.2.1)+1)) (some (.inl (w2.2.1,w2.2.2.1,wrap .i64 (w2.2.2.2.1+1),a03 w2.2.2.2.2.1 [wrap .u8 w2.1],()))) none) (some (.inr (s.2.2.2.1,())))
def a9M(x:LI):Option LI:=(y0s a9g (x,(x.length:Int),0,[],())).bind fun w3=>some w3.1
def b5z:FSem:=⟨[.v (.list false QU)],[.o QV],a9M⟩
def d7u:Hints:=⟨[(58,[.sv 6 (.list false QU),7,8,.own 3 3 QV],[Qe 0 [.own 3 3 QV]]),(14948,[.sv 5 QU,.sv 6 (.list false QU),7,8,.own 3 3 QV],[Qe 2 [.sv 5 QU,.sv 6 (.list false QU),7,8,.own 3 3 QV]])],[],[]⟩
def a5Q(s:(Int×Z15×Z16)):Option ((Int×Z15×Z16) ⊕ Z6):=cond (decide (s.2.2.2.1<s.2.2.1)) ((m0k s.2.1 s.2.2.2.1).bind fun x1=>(b2A x1.2.2.1).bind fun y2=>cond (lim ((a01 s.2.2.2.2.1)+3)) (some (.inl (s.1,s.2.1,s.2.2.1,wrap .i64 (s.2.2.2.1+1),a03 s.2.2.2.2.1 [wrap .u64 x1.1,wrap .u64 x1.2.1,y2],()))) none) (some (.inr (s.1,s.2.2.2.2.1,())))
def a8m(x:(a2I×Int)):Option LI:=(y0s a5Q (x.2,x.1.2.2.2.1,(x.1.2.2.2.1.length:Int),0,([wrap .u64 x.1.1,wrap .u64 x.1.2.1,wrap .u64 x.1.2.2.1.1,wrap .u64 x.1.2.2.1.2.1,wrap .u64 x.1.2.2.1.2.2.1,wrap .u64 (x.1.2.2.2.1.length:Int)]:List Int),())).bind fun w3=>cond (lim ((a01 w3.2.1)+1)) ((a9M (a03 w3.2.1 [wrap .u64 w3.1])).bind fun y4=>cond (lim (2+(a01 y4))) ((a8v (a03 [245,75] y4)).bind fun y5=>cond (lim ((a01 (a03 [245,75] y4))+1)) (some (a03 (a03 [245,75] y4) [y5])) none) none) none
def b4T:FSem:=⟨[.v Q60,.v QI],[.o QV],a8m⟩
def H53:Hints:=⟨[(58,[1,.sv 33 (.list false Q12),34,35,.own 5 5 QU],[Qe 0 [1,.own 5 5 QU]])],[],[(5,[.q,.q,.q,.v,.q,.q,.v,.q,.q,.v,.q,.x,.x])]⟩
def a1Y(s:Z34):Option (Z34 ⊕ (LI×Unit)):=cond (decide (s.2.2.1<s.2.1)) (cond (lim ((a01 s.2.2.2.1)+1)) (some (.inl (wrap .u64 (a07 s.1 256),s.2.1,wrap .i64 (s.2.2.1+1),a03 s.2.2.2.1 [wrap .u8 (a05 s.1 256)],()))) none) (some (.inr (s.2.2.2.1,())))
def a5v(x:(Int×Int)):Option LI:=(a4b x.2).bind fun y1=>(y0s a1Y (x.1,y1,0,[],())).bind fun w2=>some w2.1
def b7r:FSem:=⟨[.v QU,.v QI],[.o QV],a5v⟩
def d7v:Hints:=⟨[(58,[.sv 0 QU,7,8,.own 5 5 QV],[Qe 0 [.own 5 5 QV]])],[],[]⟩
def a1V(x:LI):Option LI:=cond (decide (a01 x<2147483648)) (some (List.reverse x)) none
def a6g:FSem:=⟨[.r false (.o QV)],[],a1V⟩
def a4A(x:(Int×Int)):Option LI:=(a5v (x.1,x.2)).bind fun y1=>(a1V y1).bind fun y2=>some y2
def b5A:FSem:=⟨[.v QU,.v QI],[.o QV],a4A⟩
def a9h(s:(b0X×Int×Int×Z7×b5q)):Option ((b0X×Int×Int×Z7×b5q) ⊕ ((Z7×b5q) ⊕ Z6)):=cond (decide (s.2.2.1<s.2.1)) ((m0k s.1 s.2.2.1).bind fun x2=>(b0S (s.2.2.2.1,x2,s.2.2.2.2.1.2.1)).bind fun y3=>cond (y3.1 != 0) (some (.inr (Sum.inr ((y3.1,[],()))))) (some (.inl (s.1,s.2.1,wrap .i64 (s.2.2.1+1),y3.2,s.2.2.2.2.1,())))) (some (.inr (Sum.inl (s.2.2.2.1,s.2.2.2.2.1,()))))
def a2B(x:a2I):Option (LI×Int):=(a4z x).bind fun y1=>cond (!y1) (some ([],1)) ((y0s a9h (x.2.2.2.2.1,(x.2.2.2.2.1.length:Int),0,([],0,()),x,())).bind fun w4=>match w4 with |.inl a5=>((a5k a5.1).bind fun y7=>(a5l y7).bind fun y8=>(a8m (a5.2.1,(y8.1.length:Int))).bind fun y9=>cond (lim ((a01 y9)+(a01 y8.1))) ((a6y (a03 y9 y8.1)).bind fun y10=>(a4A (wrap .u64 y10,2)).bind fun y11=>cond (lim ((a01 (a03 y9 y8.1))+(a01 y11))) (some (a03 (a03 y9 y8.1) y11,0)) none) none) |.inr b6=>some (b6.2.1,b6.1))
def a9N:FSem:=⟨[.v Q60],[.o QV,.v QI],a2B⟩
def H21:Hints:=⟨[(122,[.sv 14 (.list false Q42),15,16,.box 4 Q9,.vp 1 Q60,Qp 4 4],[Qe 0 [.box 4 Q9,.vp 1 Q60,Qp 4 4],Qr [3,.own 2 2 QV]])],[],[]⟩
def a9i(s:(Int×Int×Int×a3F×Int×Int×c6E)):Option ((Int×Int×Int×a3F×Int×Int×c6E) ⊕ ((Int×Int×c6E) ⊕ (Bool×((List LI)×Z46)))):=cond (decide (s.2.2.2.2.2.1<s.2.2.2.2.1)) ((m0k s.2.2.2.1 s.2.2.2.2.2.1).bind fun x3=>(show Option (Int×(Int×(Int×(Int×(a3F×(Int×(Int×(Bool×((List LI)×(Z24×a2I×b0I))))))))))from cond (!(eqT Q12 x3.2.2.1 s.2.2.2.2.2.2.2.2.1.1)) (some (s.1,s.2.1,s.2.2.1,s.2.2.2.2.2.1,s.2.2.2.1,s.2.2.2.2.1,s.2.2.2.2.2.1,true,s.2.2.2.2.2.2.1,s.2.2.2.2.2.2.2.1,x3,s.2.2.2.2.2.2.2.2.1,())) (some (s.1,s.2.1,s.2.2.1,s.2.2.2.2.2.1,s.2.2.2.1,s.2.2.2.2.1,s.2.2.2.2.2.1,x3.1 != s.1,s.2.2.2.2.2.2.1,s.2.2.2.2.2.2.2.1,x3,s.2.2.2.2.2.2.2.2.1,()))).bind fun z4=>cond z4.2.2.2.2.2.2.2.1 (some (.inr (Sum.inr ((false,([]:(List LI)),[],()))))) ((show Option (Int×(Int×(Int×(a3F×(Int×(Int×(Bool×((List LI)×(Z24×a2I×b0I)))))))))from(m0k z4.2.2.2.2.2.2.2.2.2.2.2.1.2.2.2.1 z4.2.2.2.1).bind fun x5=>cond (x5.1 != z4.1) (some (z4.1,z4.2.1,z4.2.2.1,z4.2.2.2.2.1,z4.2.2.2.2.2.1,z4.2.2.2.2.2.2.1,true,z4.2.2.2.2.2.2.2.2.1,z4.2.2.2.2.2.2.2.2.2.1,z4.2.2.2.2.2.2.2.2.2.2.1,z4.2.2.2.2.2.2.2.2.2.2.2.1,())) ((m0k z4.2.2.2.2.2.2.2.2.2.2.2.1.2.2.2.1 z4.2.2.2.1).bind fun x6=>some (z4.1,z4.2.1,z4.2.2.1,z4.2.2.2.2.1,z4.2.2.2.2.2.1,z4.2.2.2.2.2.2.1,x6.2.1 != z4.2.1,z4.2.2.2.2.2.2.2.2.1,z4.2.2.2.2.2.2.2.2.2.1,z4.2.2.2.2.2.2.2.2.2.2.1,z4.2.2.2.2.2.2.2.2.2.2.2.1,()))).bind fun z7=>cond z7.2.2.2.2.2.2.1 (some (.inr (Sum.inr ((false,([]:(List LI)),[],()))))) ((a2b z7.2.2.2.2.2.2.2.2.2.1).bind fun y8=>cond (y8.2 != 0) (some (.inr (Sum.inr ((false,([]:(List LI)),[],()))))) ((a2B z7.2.2.2.2.2.2.2.2.2.1).bind fun y9=>cond (y9.2 != 0) (some (.inr (Sum.inr ((false,([]:(List LI)),[],()))))) ((a4J (z7.2.2.1,y8.1)).bind fun y10=>cond (!y10.2) (some (.inr (Sum.inr ((false,([]:(List LI)),[],()))))) (cond (lim ((a01 z7.2.2.2.2.2.2.2.1)+1)) (cond (lim ((a01 z7.2.2.2.2.2.2.2.2.1)+1)) (some (.inl (wrap .i64 (z7.1+z7.2.2.2.2.2.2.2.2.2.1.2.1),wrap .i64 (z7.2.1+(y9.1.length:Int)),y10.1,z7.2.2.2.1,z7.2.2.2.2.1,wrap .i64 (z7.2.2.2.2.2.1+1),a03 z7.2.2.2.2.2.2.2.1 ([y9.1]:List LI),a03 z7.2.2.2.2.2.2.2.2.1 ([y8.1]:List Z12),z7.2.2.2.2.2.2.2.2.2.2.1,()))) none) none)))))) (some (.inr (Sum.inl (s.1,s.2.2.1,s.2.2.2.2.2.2.1,s.2.2.2.2.2.2.2.1,s.2.2.2.2.2.2.2.2.1,()))))
def a9O(x:a8p):Option ((List LI)×(Z24×Bool)):=(show Option (Bool×c6E)from(a1Z x.1).bind fun y1=>cond (!y1) (some (true,([]:(List LI)),[],x,())) (cond (decide ((x.2.2.2.2.1.length:Int) > 4096)) (some (true,([]:(List LI)),[],x,())) (some ((x.2.2.2.1.length:Int) != (x.2.2.2.2.1.length:Int),([]:(List LI)),[],x,())))).bind fun z2=>cond z2.1 (some (([]:(List LI)),[],false)) ((y0s a9i (0,0,0,z2.2.2.2.1.2.2.2.2.1,(z2.2.2.2.1.2.2.2.2.1.length:Int),0,z2.2.1,z2.2.2.1,z2.2.2.2.1,())).bind fun w11=>match w11 with |.inl a12=>((show Option (Bool×((List LI)×Z46))from cond (a12.2.2.2.2.1.2.1 != a12.1) (some (true,a12.2.2.1,a12.2.2.2.1,())) (some (a12.2.2.2.2.1.2.2.1 != a12.2.1,a12.2.2.1,a12.2.2.2.1,()))).bind fun z14=>cond z14.1 (some (([]:(List LI)),[],false)) (some (z14.2.1,z14.2.2.1,true))) |.inr b13=>some (b13.2.1,b13.2.2.1,b13.1))
def b5B:FSem:=⟨[.v Q74],[.o QB,.o Q15,.v .bool],a9O⟩
def H40:Hints:=⟨[(122,[5,6,.sv 7 QU,.sv 33 (.list false Q60),34,35,.own 2 2 QB,.own 3 3 Q15,.vp 1 Q74],[Qe 0 [5,.sv 7 QU,.own 2 2 QB,.own 3 3 Q15,.vp 1 Q74],Qr [.sv 4 .bool,.own 2 2 QB,.own 3 3 Q15]])],[(6,[Qn [.sv 31 .bool,.own 2 2 QB,.own 3 3 Q15,.vp 1 Q74]]),(62,[Qn [.sv 117 .bool,.own 2 2 QB,.own 3 3 Q15]]),(15666,[Qn [5,6,.sv 7 QU,8,.sv 33 (.list false Q60),34,35,.sv 50 .bool,.own 2 2 QB,.own 3 3 Q15,.box 9 Q60,.vp 1 Q74,Qp 9 9]]),(31334,[Qn [5,6,.sv 7 QU,.sv 33 (.list false Q60),34,35,.sv 68 .bool,.own 2 2 QB,.own 3 3 Q15,.box 9 Q60,.vp 1 Q74,Qp 9 9]])],[]⟩
def a9j(s:(a3F×(Int×(Int×((List LI)×c6D))))):Option ((a3F×(Int×(Int×((List LI)×c6D)))) ⊕ ((List LI)×c6D)):=cond (decide (s.2.2.1<s.2.1)) ((m0k s.1 s.2.2.1).bind fun x2=>cond ((decide (0≤s.2.2.1))&&(decide (s.2.2.1<(s.2.2.2.1.length:Int)))) (cond (lim ((a01 s.2.2.2.2.1)+2)) (some (.inl (s.1,s.2.1,wrap .i64 (s.2.2.1+1),s.2.2.2.1,a03 s.2.2.2.2.1 ([wrap .u64 ((a01 (a04 s.2.2.2.1 (a00 s.2.2.1) []):Nat):Int),wrap .u64 x2.2.1]:List Int),s.2.2.2.2.2.1,()))) none) none) (some (.inr (s.2.2.2.1,s.2.2.2.2.1,s.2.2.2.2.2.1,())))
def a9k(s:(Int×(Int×(LI×Z2)))):Option ((Int×(Int×(LI×Z2))) ⊕ (LI×Unit)):=cond (decide (s.2.1<s.1)) (cond ((decide (0≤s.2.1))&&(decide (s.2.1<(s.2.2.2.1.length:Int)))) (cond (lim ((a01 s.2.2.1)+(a01 (a04 s.2.2.2.1 (a00 s.2.1) [])))) (some (.inl (s.1,wrap .i64 (s.2.1+1),a03 s.2.2.1 (a04 s.2.2.2.1 (a00 s.2.1) []),s.2.2.2.1,()))) none) none) (some (.inr (s.2.2.1,())))
def a9P(x:a8p):Option (LI×Int):=(a9O x).bind fun y1=>cond (!y1.2.2) (some ([],1)) ((y0s a9j (x.2.2.2.2.1,(x.2.2.2.2.1.length:Int),0,y1.1,([wrap .u64 x.1.1,wrap .u64 x.1.2.1,wrap .u64 x.1.2.2.1,wrap .u64 (x.2.2.2.2.1.length:Int)]:List Int),x,())).bind fun w3=>(a9M w3.2.1).bind fun y4=>cond (lim (4+(a01 y4))) ((a4A (w3.2.2.1.2.2.1,8)).bind fun y5=>cond (lim ((a01 (a03 [75,78,83,68] y4))+(a01 y5))) ((a4N (a03 (a03 [75,78,83,68] y4) y5)).bind fun y6=>(a4A (wrap .u64 y6,4)).bind fun y7=>cond (lim ((a01 (a03 (a03 [75,78,83,68] y4) y5))+(a01 y7))) ((y0s a9k ((w3.1.length:Int),0,a03 (a03 (a03 [75,78,83,68] y4) y5) y7,w3.1,())).bind fun w8=>some (w8.1,0)) none) none) none)
def b5C:FSem:=⟨[.v Q74],[.o QV,.v QI],a9P⟩
def H73:Hints:=⟨[(250,[.sv 39 (.list false Q60),40,41,.own 4 4 QB,.own 7 7 QU,.vp 1 Q74],[Qe 0 [.own 4 4 QB,.own 7 7 QU,.vp 1 Q74]]),(4090,[76,77,.own 10 10 QV,.own 75 4 QB],[Qe 2 [.own 10 10 QV]])],[],[(8,[.q,.q,.v,.q,.q,.v,.v,.q,.q,.v,.q,.x,.x])]⟩
def a4s(s:(Int×a3F×Int×Int×b0I)):Option ((Int×a3F×Int×Int×b0I) ⊕ (b0I ⊕ Z6)):=cond (decide (s.2.2.2.1<s.2.2.1)) ((m0k s.2.1 s.2.2.2.1).bind fun x1=>(a2B (s.2.2.2.2.1.2.1,x1.2)).bind fun y2=>cond (y2.2 != 0) (some (.inr (Sum.inr ((y2.2,[],()))))) ((a2b (s.2.2.2.2.1.2.1,x1.2)).bind fun y3=>cond (y3.2 != 0) (some (.inr (Sum.inr ((y3.2,[],()))))) ((a8x y3.1).bind fun y4=>cond (y4.2 != 0) (some (.inr (Sum.inr ((y4.2,[],()))))) ((a8y y4.1).bind fun y5=>(a9I (s.2.2.2.2.1.2.2.1,y5,(y4.1.length:Int))).bind fun y6=>cond (lim ((a01 s.2.2.2.2.1.2.2.2.1)+1)) (cond (lim ((a01 s.2.2.2.2.1.2.2.2.2.1)+1)) (some (.inl (wrap .i64 (s.1+(y2.1.length:Int)),s.2.1,s.2.2.1,wrap .i64 (s.2.2.2.1+1),(s.2.2.2.2.1.1,wrap .i64 (s.2.2.2.2.1.2.1+x1.2.1),y6.1,a03 s.2.2.2.2.1.2.2.2.1 ([(s.2.2.2.2.1.2.1,s.1,())]:List (Int×Int×Unit)),a03 s.2.2.2.2.1.2.2.2.2.1 ([(s.2.2.2.2.1.2.1,x1.2)]:List a2I),s.2.2.2.2.1.2.2.2.2.2),()))) none) none)))) (some (.inr (Sum.inl (s.2.2.2.2.1,()))))
def a4m(x:(Z8×a3F)):Option (LI×Int):=(y0s a4s (0,x.2,(x.2.length:Int),0,(x.1,0,0,[],[],()),())).bind fun w7=>match w7 with |.inl a8=>((a9P a8.1).bind fun y10=>some (y10.1,y10.2)) |.inr b9=>some (b9.2.1,b9.1)
def a9x:FSem:=⟨[.v Q12,.v (.list false Q60)],[.o QV,.v QI],a4m⟩
def H36:Hints:=⟨[(122,[7,.sv 16 (.list false Q60),17,18,.box 6 Q73,Qp 6 6],[Qe 0 [.box 6 Q73,Qp 6 6],Qr [5,.own 4 4 QV]])],[],[(16,[.q,.q,.q,.q,.q,.q,.x,.x,.v,.v,.q,.w [0,6]])]⟩
def a3W(s:(Int×a3F×Int×Int×a3F×a8p×Z10)):Option ((Int×a3F×Int×Int×a3F×a8p×Z10) ⊕ ((a3F×b0I) ⊕ Z6)):=cond (decide (s.2.2.2.1<s.2.2.1)) ((m0k s.2.1 s.2.2.2.1).bind fun x4=>cond (decide ((v0r (wrap .i64 (s.2.2.2.2.2.2.1.1-x4.1)) 0)≥(v0s (wrap .i64 (s.2.2.2.2.2.2.1.2.1-x4.1)) x4.2.1))) (some (.inl (s.1,s.2.1,s.2.2.1,wrap .i64 (s.2.2.2.1+1),s.2.2.2.2.1,s.2.2.2.2.2.1,s.2.2.2.2.2.2.1,()))) ((show Option ((Int×a3F×Int×Int×a3F×a8p×a2I×Z10) ⊕ Z6)from cond (decide ((wrap .i64 ((v0s (wrap .i64 (s.2.2.2.2.2.2.1.2.1-x4.1)) x4.2.1)-(v0r (wrap .i64 (s.2.2.2.2.2.2.1.1-x4.1)) 0)))<x4.2.1)) ((a8l (x4,(v0r (wrap .i64 (s.2.2.2.2.2.2.1.1-x4.1)) 0,v0s (wrap .i64 (s.2.2.2.2.2.2.1.2.1-x4.1)) x4.2.1,()),s.1)).bind fun y5=>cond (y5.2 != 0) (some (Sum.inr ((y5.2,[],())))) (some (Sum.inl (s.1,s.2.1,s.2.2.1,s.2.2.2.1,s.2.2.2.2.1,s.2.2.2.2.2.1,y5.1,s.2.2.2.2.2.2.1,())))) (some (Sum.inl (s.1,s.2.1,s.2.2.1,s.2.2.2.1,s.2.2.2.2.1,s.2.2.2.2.2.1,x4,s.2.2.2.2.2.2.1,())))).bind fun z6=>match z6 with |.inl a7=>(cond (lim ((a01 a7.2.2.2.2.1)+1)) (some (.inl (a7.1,a7.2.1,a7.2.2.1,wrap .i64 (a7.2.2.2.1+1),a03 a7.2.2.2.2.1 ([a7.2.2.2.2.2.2.1]:List a2I),a7.2.2.2.2.2.1,a7.2.2.2.2.2.2.2.1,()))) none) |.inr b8=>some (.inr (Sum.inr ((b8.1,b8.2.1,())))))) (some (.inr (Sum.inl (s.2.2.2.2.1,s.2.2.2.2.2.1,()))))
def a6E(x:(LI×((Int×Int×Unit)×Int))):Option (LI×Int):=(show Option (LI×(Int×Bool×Z10))from cond (decide (x.2.2<0)) (some (x.1,x.2.2,true,x.2.1,())) (some (x.1,x.2.2,decide (x.2.2 > 3),x.2.1,()))).bind fun z1=>cond z1.2.2.1 (some ([],1)) ((a1K z1.1).bind fun y2=>cond (y2.2 != 0) (some ([],y2.2)) ((show Option (Int×Bool×a8p×Z10)from cond (decide (z1.2.2.2.1.1<0)) (some (z1.2.1,true,y2.1,z1.2.2.2.1,())) (cond (decide (z1.2.2.2.1.1 > z1.2.2.2.1.2.1)) (some (z1.2.1,true,y2.1,z1.2.2.2.1,())) (some (z1.2.1,decide (z1.2.2.2.1.2.1 > y2.1.2.1),y2.1,z1.2.2.2.1,())))).bind fun z3=>cond z3.2.1 (some ([],6)) ((y0s a3W (z3.1,z3.2.2.1.2.2.2.2.1,(z3.2.2.1.2.2.2.2.1.length:Int),0,[],z3.2.2.1,z3.2.2.2.1,())).bind fun w9=>match w9 with |.inl a10=>((a4m (a10.2.1.1,a10.1)).bind fun y12=>some (y12.1,y12.2)) |.inr b11=>some (b11.2.1,b11.1))))
def b4q:FSem:=⟨[.v QB,.v Q3,.v QI],[.o QV,.v QI],a6E⟩
def H13:Hints:=⟨[(1018,[2,.sv 47 (.list false Q60),48,49,.own 10 10 Q60,.box 8 Q74,.vp 4 Q3,Qp 8 8],[Qe 0 [.own 10 10 Q60,.box 8 Q74,Qp 8 8],Qr [7,.own 6 6 QV]])],[(6,[Qn [.sv 0 QB,2,.sv 20 .bool,.vp 4 Q3]]),(62,[Qn [2,.sv 45 .bool,.box 8 Q74,.vp 4 Q3,Qp 8 8]]),(260711,[Qn [2,.sv 47 (.list false Q60),48,49,.own 10 10 Q60,.box 8 Q74,.box 12 Q60,.vp 4 Q3,Qp 8 8,Qp 12 12],Qr [7,.own 6 6 QV]])],[(12,[.v,.v,.q,.q,.v,.v,.v,.v,.q,.q,.v,.q,.q,.v,.v,.x])]⟩
def a5R(s:(Int×(Int×(LI×Z46)))):Option ((Int×(Int×(LI×Z46))) ⊕ (LI×Unit)):=cond (decide (s.2.1<s.1)) (cond ((decide (0≤s.2.1))&&(decide (s.2.1<(s.2.2.2.1.length:Int)))) ((a7y (a04 s.2.2.2.1 (a00 s.2.1) (0,([]:(List LI)),()))).bind fun y2=>cond (lim ((a01 s.2.2.1)+(a01 y2))) (some (.inl (s.1,wrap .i64 (s.2.1+1),a03 s.2.2.1 y2,s.2.2.2.1,()))) none) none) (some (.inr (s.2.2.1,())))
def a2W(x:a8p):Option (LI×Int):=(a9O x).bind fun y1=>cond (!y1.2.2) (some ([],1)) ((y0s a5R ((y1.2.1.length:Int),0,[],y1.2.1,())).bind fun w3=>some (w3.1,0))
def b1t:FSem:=⟨[.v Q74],[.o QI,.v QI],a2W⟩
def H15:Hints:=⟨[(250,[19,20,.own 7 7 QI,.own 18 5 Q15],[Qe 0 [.own 7 7 QI]])],[],[]⟩
def H16:Hints:=⟨[(58,[.sv 0 QL,.sv 1 QL,5],[Qe 0 [],Qr [.sv 4 .bool]])],[],[(6,[.v,.v,.v,.v,.v,.v,.v,.v,.x])]⟩
def b7s(x:Z1):Option Bool:=A0j (b2Z [] [] [0,1,4,5] []) H16 Tryz.f16 [.v (.list false (.int .i64)),.v (.list false (.int .i64))] [.v .bool] x
def b7t:FSem:=⟨[.v QL,.v QL],[.v .bool],b7s⟩
def b6s(s:(a3F×Z28)):Option ((a3F×Z28) ⊕ (Z2 ⊕ Z2)):=cond (decide (s.2.2.1<s.2.1)) ((m0k s.1 s.2.2.1).bind fun x2=>(a2B (0,x2.2)).bind fun y3=>cond (y3.2 != 0) (some (.inr (Sum.inr ((([]:(List LI)),()))))) (cond (lim ((a01 s.2.2.2.1)+1)) (some (.inl (s.1,s.2.1,wrap .i64 (s.2.2.1+1),a03 s.2.2.2.1 ([b2s y3.1]:List LI),()))) none)) (some (.inr (Sum.inl (s.2.2.2.1,()))))
def a4n(x:LI):Option (List LI):=(a1K x).bind fun y1=>cond (y1.2 != 0) (some ([]:(List LI))) ((y0s b6s (y1.1.2.2.2.2.1,(y1.1.2.2.2.2.1.length:Int),0,([]:(List LI)),())).bind fun w4=>match w4 with |.inl a5=>some a5.1 |.inr b6=>some b6.1)
def a3e:FSem:=⟨[.v QB],[.o .str],a4n⟩
def H42:Hints:=⟨[(250,[.sv 18 (.list false Q60),19,20,.own 5 5 .str],[Qe 0 [.own 5 5 .str],Qr [.own 2 2 .str]])],[],[]⟩
def b7u(x:Z1):Option Int:=(a4n x.1).bind fun a=>(a4n x.2).bind fun b=>cond (lim (a01 a)&&lim (a01 b)) (some (((List.filter (fun s=>List.contains a s) b).length:Nat):Int)) none
def b3l:FSem:=⟨[.v QB,.v QB],[.v QI],b7u⟩
def a2h(s:Z42):Option (Z42 ⊕ Z0):=cond (decide (s.2.2.2.1<s.2.2.1)) ((m0k s.1 s.2.2.2.1).bind fun x1=>(m0k s.2.1 s.2.2.2.1).bind fun x2=>cond (x1 != x2) (some (.inr (Sum.inr ((false,()))))) (some (.inl (s.1,s.2.1,s.2.2.1,wrap .i64 (s.2.2.2.1+1),())))) (some (.inr (Sum.inl ())))
def a2Q(x:Z1):Option Bool:=cond ((x.1.length:Int) != (x.2.length:Int)) (some false) ((y0s a2h (x.1,x.2,(x.1.length:Int),0,())).bind fun w3=>match w3 with |.inl a4=>some true |.inr b5=>some b5.1)
def a8n:FSem:=⟨[.v QL,.v QL],[.v .bool],a2Q⟩
def H70:Hints:=⟨[(58,[.sv 0 QL,.sv 1 QL,12,13],[Qe 0 [],Qr [.sv 4 .bool]])],[],[(6,[.v,.v,.v,.v,.v,.v,.v,.v,.x])]⟩
def a7F(x:Z1):Option Bool:=(a1K x.1).bind fun y1=>cond (y1.2 != 0) (some false) ((a1K x.2).bind fun y2=>(show Option (Bool×a8p×b0I)from cond (y2.2 != 0) (some (true,y1.1,y2.1,())) (cond (!(eqT Q12 y1.1.1 y2.1.1)) (some (true,y1.1,y2.1,())) (some (y1.1.2.1 != y2.1.2.1,y1.1,y2.1,())))).bind fun z3=>cond z3.1 (some false) ((a2W z3.2.1).bind fun y4=>cond (y4.2 != 0) (some false) ((a2W z3.2.2.1).bind fun y5=>cond (y5.2==0) ((a2Q (y4.1,y5.1)).bind fun y6=>some y6) (some false))))
def b3m:FSem:=⟨[.v QB,.v QB],[.v .bool],a7F⟩
def H30:Hints:=⟨[],[(62,[Qn [.sv 37 .bool,.box 5 Q74,.box 7 Q74,Qp 5 5,Qp 7 7]])],[]⟩
def a8o(s:(LI×(Int×Int×Z12×Z12×Z22))):Option ((LI×(Int×Int×Z12×Z12×Z22)) ⊕ ((Z12×Z33) ⊕ Z48)):=cond (decide (s.2.2.1<s.2.1)) ((m0k s.1 s.2.2.1).bind fun x2=>(a2a (x2,s.2.2.2.2.2.1.2.2.1)).bind fun y3=>cond (!y3) (some (.inr (Sum.inr ((6,(0,([]:(List LI)),()),()))))) (cond (s.2.2.2.2.2.1.2.1==0) none (cond ((decide (0≤(a05 s.2.2.1 s.2.2.2.2.2.1.2.1)))&&(decide ((a05 s.2.2.1 s.2.2.2.2.2.1.2.1)<(s.2.2.2.2.1.2.1.length:Int)))) (cond (lim ((a01 (a04 s.2.2.2.2.1.2.1 (a00 (a05 s.2.2.1 s.2.2.2.2.2.1.2.1)) []))+1)) (cond ((decide (0≤(a05 s.2.2.1 s.2.2.2.2.2.1.2.1)))&&(decide ((a05 s.2.2.1 s.2.2.2.2.2.1.2.1)<((a01 (a18 s.2.2.2.2.1.2.1 (a00 (a05 s.2.2.1 s.2.2.2.2.2.1.2.1)) (a03 (a04 s.2.2.2.2.1.2.1 (a00 (a05 s.2.2.1 s.2.2.2.2.2.1.2.1)) []) [x2])):Nat):Int)))) (cond (((a00 (a05 s.2.2.1 s.2.2.2.2.2.1.2.1))==(a00 (a05 s.2.2.1 s.2.2.2.2.2.1.2.1)))&&true) (cond (((a00 (a05 s.2.2.1 s.2.2.2.2.2.1.2.1))==(a00 (a05 s.2.2.1 s.2.2.2.2.2.1.2.1)))&&true) (some (.inl (s.1,s.2.1,wrap .i64 (s.2.2.1+1),s.2.2.2.1,(s.2.2.2.2.1.1,a18 s.2.2.2.2.1.2.1 (a00 (a05 s.2.2.1 s.2.2.2.2.2.1.2.1)) (a03 (a04 s.2.2.2.2.1.2.1 (a00 (a05 s.2.2.1 s.2.2.2.2.2.1.2.1)) []) [x2]),s.2.2.2.2.1.2.2),s.2.2.2.2.2.1,()))) none) none) none) none) none))) (some (.inr (Sum.inl (s.2.2.2.1,s.2.2.2.2.1,()))))
def b1u(x:Z32):Option Z29:=(a1Z x.2).bind fun y1=>cond (!y1) (some ((0,([]:(List LI)),()),1)) (cond ((x.1.length:Int)==0) (some ((0,([]:(List LI)),()),7)) (cond (x.2.2.1==0) none (cond ((a05 (x.1.length:Int) x.2.2.1) != 0) (some ((0,([]:(List LI)),()),3)) (cond (x.2.2.1==0) none (cond (decide ((wrap .i64 (a07 (x.1.length:Int) x.2.2.1)) > 4096)) (some ((0,([]:(List LI)),()),4)) (cond ((decide (0≤x.2.2.1))&&((decide (x.2.2.1≤x.2.2.1))&&(lim (a00 x.2.2.1)))) ((y0s a8o (x.1,(x.1.length:Int),0,(0,([]:(List LI)),()),(x.2.2.2.1,a02 (a00 x.2.2.1) [],()),x.2,())).bind fun w4=>match w4 with |.inl a5=>some (a5.2.1,0) |.inr b6=>some (b6.2.1,b6.1)) none))))))
def b7W:FSem:=⟨[.v QL,.v Q12],[.v Q15,.v QI],b1u⟩
def H72:Hints:=⟨[(1018,[.sv 38 QL,39,40,.box 4 Q15,.box 6 (.pair QI Q6),.vp 3 Q12,Qp 4 4,Qp 6 6],[Qe 0 [.box 4 Q15,.box 6 (.pair QI Q6),Qp 4 4,Qp 6 6],Qr [5,.box 4 Q15,Qp 4 4]])],[],[(9,[.v,.v,.v,.v,.q,.q,.q,.x]),(16,[.s,.s,.s,.q,.q,.v,.q,.q,.v,.q,.b [6,64,65],.x,.x])]⟩
def a6q(s:(LI×(Int×(Int×(Int×(LI×(Int×Z39))))))):Option ((LI×(Int×(Int×(Int×(LI×(Int×Z39)))))) ⊕ ((LI×(Int×Int×Z39)) ⊕ Z6)):=cond (decide (s.2.2.2.2.2.2.1<s.2.2.2.2.2.1)) ((m0k s.2.2.2.2.1 s.2.2.2.2.2.2.1).bind fun x4=>(a2a (x4,s.2.2.2.2.2.2.2.1.2.2.1)).bind fun y5=>cond (!y5) (some (.inr (Sum.inr ((6,[],()))))) (some (.inl (s.1,s.2.1,s.2.2.1,s.2.2.2.1,s.2.2.2.2.1,s.2.2.2.2.2.1,wrap .i64 (s.2.2.2.2.2.2.1+1),s.2.2.2.2.2.2.2.1,())))) (some (.inr (Sum.inl (s.1,s.2.1,s.2.2.1,s.2.2.2.1,s.2.2.2.2.2.2.2.1,()))))
def a6r(s:(LI×(Int×Int×Int×Int×Int×a8p×Z22))):Option ((LI×(Int×Int×Int×Int×Int×a8p×Z22)) ⊕ (b0I ⊕ Z6)):=cond (decide (s.2.2.2.2.2.1<s.2.2.2.1)) (cond ((decide (0≤(wrap .i64 ((v0s (wrap .i64 (s.2.2.2.2.2.1+s.2.1)) s.2.2.2.1)*s.2.2.2.2.2.2.2.1.2.1))))&&(decide ((wrap .i64 ((v0s (wrap .i64 (s.2.2.2.2.2.1+s.2.1)) s.2.2.2.1)*s.2.2.2.2.2.2.2.1.2.1))≤(s.1.length:Int)))) (cond ((decide (0≤(wrap .i64 (s.2.2.2.2.2.1*s.2.2.2.2.2.2.2.1.2.1))))&&(decide ((wrap .i64 (s.2.2.2.2.2.1*s.2.2.2.2.2.2.2.1.2.1))≤((a00 (wrap .i64 ((v0s (wrap .i64 (s.2.2.2.2.2.1+s.2.1)) s.2.2.2.1)*s.2.2.2.2.2.2.2.1.2.1)):Nat):Int)))) ((b1u (a08 (a00 (wrap .i64 (s.2.2.2.2.2.1*s.2.2.2.2.2.2.2.1.2.1))) (a06 (a00 (wrap .i64 ((v0s (wrap .i64 (s.2.2.2.2.2.1+s.2.1)) s.2.2.2.1)*s.2.2.2.2.2.2.2.1.2.1))) s.1),s.2.2.2.2.2.2.2.1)).bind fun y9=>cond (y9.2 != 0) (some (.inr (Sum.inr ((y9.2,[],()))))) ((a2V (y9.1,s.2.2.2.2.2.2.2.1,s.2.2.2.2.2.1,s.2.2.1)).bind fun y10=>cond (y10.2 != 0) (some (.inr (Sum.inr ((y10.2,[],()))))) ((a2B y10.1).bind fun y11=>cond (y11.2 != 0) (some (.inr (Sum.inr ((y11.2,[],()))))) ((a4J (s.2.2.2.2.2.2.1.2.2.1,y9.1)).bind fun y12=>cond (lim ((a01 s.2.2.2.2.2.2.1.2.2.2.1)+1)) (cond (lim ((a01 s.2.2.2.2.2.2.1.2.2.2.2.1)+1)) (some (.inl (s.1,s.2.1,s.2.2.1,s.2.2.2.1,wrap .i64 (s.2.2.2.2.1+(y11.1.length:Int)),wrap .i64 (s.2.2.2.2.2.1+s.2.1),(s.2.2.2.2.2.2.1.1,s.2.2.2.2.2.2.1.2.1,y12.1,a03 s.2.2.2.2.2.2.1.2.2.2.1 ([(s.2.2.2.2.2.1,s.2.2.2.2.1,())]:List (Int×Int×Unit)),a03 s.2.2.2.2.2.2.1.2.2.2.2.1 ([y10.1]:List a2I),s.2.2.2.2.2.2.1.2.2.2.2.2),s.2.2.2.2.2.2.2.1,()))) none) none)))) none) none) (some (.inr (Sum.inl (s.2.2.2.2.2.2.1,()))))
def a6F(x:(Z8×Z4)):Option (LI×Int):=(show Option (LI×(Int×Int×Z40))from(a1Z x.1).bind fun y1=>cond (!y1) (some (x.2.1,x.2.2.1,x.2.2.2,true,x.1,())) (cond (decide (x.2.2.1<1)) (some (x.2.1,x.2.2.1,x.2.2.2,true,x.1,())) (cond (decide (x.2.2.1 > 4096)) (some (x.2.1,x.2.2.1,x.2.2.2,true,x.1,())) (cond (decide (x.2.2.2<0)) (some (x.2.1,x.2.2.1,x.2.2.2,true,x.1,())) (some (x.2.1,x.2.2.1,x.2.2.2,decide (x.2.2.2 > 3),x.1,())))))).bind fun z2=>cond z2.2.2.2.1 (some ([],1)) (cond (z2.2.2.2.2.1.2.1==0) none (cond ((a05 (z2.1.length:Int) z2.2.2.2.2.1.2.1) != 0) (some ([],3)) (cond (z2.2.2.2.2.1.2.1==0) none ((show Option (LI×(Int×Int×Int×Z40))from cond (decide ((wrap .i64 (a07 (z2.1.length:Int) z2.2.2.2.2.1.2.1)) > 4194304)) (some (z2.1,z2.2.1,z2.2.2.1,wrap .i64 (a07 (z2.1.length:Int) z2.2.2.2.2.1.2.1),true,z2.2.2.2.2.1,())) (cond (z2.2.1==0) none (some (z2.1,z2.2.1,z2.2.2.1,wrap .i64 (a07 (z2.1.length:Int) z2.2.2.2.2.1.2.1),decide ((wrap .i64 (a07 (wrap .i64 ((wrap .i64 ((wrap .i64 (a07 (z2.1.length:Int) z2.2.2.2.2.1.2.1))+z2.2.1))-1)) z2.2.1)) > 4096),z2.2.2.2.2.1,())))).bind fun z3=>cond z3.2.2.2.2.1 (some ([],4)) ((y0s a6q (z3.1,z3.2.1,z3.2.2.1,z3.2.2.2.1,z3.1,(z3.1.length:Int),0,z3.2.2.2.2.2.1,())).bind fun w6=>match w6 with |.inl a7=>((y0s a6r (a7.1,a7.2.1,a7.2.2.1,a7.2.2.2.1,0,0,(a7.2.2.2.2.1,a7.2.2.2.1,0,[],[],()),a7.2.2.2.2.1,())).bind fun w13=>match w13 with |.inl a14=>((a9P a14.1).bind fun y16=>some (y16.1,y16.2)) |.inr b15=>some (b15.2.1,b15.1)) |.inr b8=>some (b8.2.1,b8.1))))))
def b1P:FSem:=⟨[.v Q12,.v QL,.v QI,.v QI],[.o QV,.v QI],a6F⟩
def H32:Hints:=⟨[(506,[.sv 1 QL,2,3,10,.sv 62 QL,63,64,.vp 4 Q12],[Qe 0 [.sv 1 QL,2,3,10,.vp 4 Q12],Qr [9,.own 8 8 QV]]),(4090,[.sv 1 QL,2,3,10,14,15,.box 13 Q73,.vp 4 Q12,Qp 13 13],[Qe 2 [.box 13 Q73,Qp 13 13],Qr [9,.own 8 8 QV]])],[(6,[Qn [.sv 1 QL,2,3,.sv 39 .bool,.vp 4 Q12]]),(62,[Qn [.sv 1 QL,2,3,10,.sv 61 .bool,.vp 4 Q12]])],[(20,[.v,.v,.v,.v,.v,.v,.v,.v,.v,.v,.v,.v,.v,.v,.v,.q,.w [0,17],.x])]⟩
def b5D(x:Unit):Option Bool:=(a6F ((8000,1,8,()),[1,2,3,4],2,0)).bind fun y1=>(a6E (y1.1,(1,4,()),0)).bind fun y2=>(a1K y2.1).bind fun y3=>(a2W y3.1).bind fun y4=>cond (y1.2==0) (cond (y2.2==0) (cond (y3.2==0) (cond (y4.2==0) ((b7s (y4.1,[2,3,4])).bind fun y5=>cond y5 (cond ((y3.1.2.2.2.2.1.length:Int)==2) ((b7u (y1.1,y2.1)).bind fun y6=>cond (y6==1) ((a7F (y1.1,y2.1)).bind fun y7=>some (!y7)) (some false)) (some false)) (some false)) (some false)) (some false)) (some false)) (some false)
def b9a:FSem:=⟨[],[.v .bool],b5D⟩
def b2B(x:Z8):Option Bool:=cond (decide (x.1≥1)) (cond (decide (x.1≤1048576)) (cond (decide (x.2.1≥1)) (cond (decide (x.2.1≤8)) (cond (decide (x.2.2.1≥4)) (some (decide (x.2.2.1≤24))) (some false)) (some false)) (some false)) (some false)) (some false)
def b9b:FSem:=⟨[.v Q12],[.v .bool],b2B⟩
def b9B(x:Int):Option Int:=(show Option (Int×Bool×Unit)from cond (decide (x<1)) (some (x,true,())) (some (x,decide (x > 31),()))).bind fun z1=>cond z1.2.1 (some 0) (cond (decide ((wrap .u64 (wrap .i64 (z1.1-1)))<0)) none (some (A0n .i64 (-1) (wrap .u64 (wrap .i64 (z1.1-1))))))
def c3W:FSem:=⟨[.v QI],[.v QI],b9B⟩
def H74:Hints:=⟨[],[(6,[Qn [0,.sv 8 .bool]])],[]⟩
def b7X(x:Int):Option Int:=(show Option (Int×Bool×Unit)from cond (decide (x<1)) (some (x,true,())) (some (x,decide (x > 31),()))).bind fun z1=>cond z1.2.1 (some 0) (cond (decide ((wrap .u64 (wrap .i64 (z1.1-1)))<0)) none (some (wrap .i64 ((A0n .i64 1 (wrap .u64 (wrap .i64 (z1.1-1))))-1))))
def c2C:FSem:=⟨[.v QI],[.v QI],b7X⟩
def H75:Hints:=⟨[],[(6,[Qn [0,.sv 8 .bool]])],[]⟩
def b2Q(x:(Int×Int)):Option Bool:=cond (decide (x.2≥1)) (cond (decide (x.2≤31)) ((b9B x.2).bind fun y1=>cond (decide (x.1≥y1)) ((b7X x.2).bind fun y2=>some (decide (x.1≤y2))) (some false)) (some false)) (some false)
def c2D:FSem:=⟨[.v QI,.v QI],[.v .bool],b2Q⟩
def a7G(s:(LI×Z39)):Option ((LI×Z39) ⊕ Z0):=cond (decide (s.2.1<(s.1.length:Int))) ((m0k s.1 s.2.1).bind fun x3=>(b2Q (x3,s.2.2.1.2.2.1)).bind fun y4=>cond (!y4) (some (.inr (Sum.inr ((false,()))))) (some (.inl (s.1,wrap .i64 (s.2.1+1),s.2.2.1,())))) (some (.inr (Sum.inl ())))
def b3F(x:(Z8×(LI×Int))):Option Bool:=(show Option (LI×Z40)from(b2B x.1).bind fun y1=>cond (!y1) (some (x.2.1,true,x.1,())) (cond (decide ((x.2.1.length:Int) > x.2.2)) (some (x.2.1,true,x.1,())) (cond (x.1.2.1==0) none (some (x.2.1,(a05 (x.2.1.length:Int) x.1.2.1) != 0,x.1,()))))).bind fun z2=>cond z2.2.1 (some false) ((y0s a7G (z2.1,0,z2.2.2.1,())).bind fun w5=>match w5 with |.inl a6=>some true |.inr b7=>some b7.1)
def c0M:FSem:=⟨[.v Q12,.v QL,.v QI],[.v .bool],b3F⟩
def H10:Hints:=⟨[(58,[.sv 1 QL,7,.vp 3 Q12],[Qe 0 [],Qr [.sv 6 .bool]])],[(6,[Qn [.sv 1 QL,.sv 24 .bool,.vp 3 Q12]])],[(6,[.v,.v,.v,.v,.v,.v,.x,.x])]⟩
def b1v(x:(Z8×Z4)):Option (LI×(a8p×Bool)):=(a6F (x.1,x.2.1,wrap .i64 (1+(bits .i64 .and x.2.2.1 63)),bits .i64 .and x.2.2.2 3)).bind fun y1=>(a1K y1.1).bind fun y2=>cond (y1.2==0) (some (y1.1,y2.1,y2.2==0)) (some (y1.1,y2.1,false))
def c0N:FSem:=⟨[.v Q12,.v QL,.v QI,.v QI],[.v QB,.v Q74,.v .bool],b1v⟩
def H11:Hints:=⟨[],[],[(3,[.v,.q,.v,.v,.v,.v,.v,.v,.v,.w [0,9],.x])]⟩
def a1z(x:(a3F×Int)):Option a3F:=cond (decide (x.2<(0:Int))) none (cond (decide ((wrap .i64 (x.2-(0:Int))) > (0:Int))) (cond (decide (0≤wrap .i64 (x.2-(0:Int)))&&lim (a00 (wrap .i64 (x.2-(0:Int))))) (cond (lim (a01 (a02 (a00 (wrap .i64 (x.2-(0:Int)))) ((0:Int),(0:Int),((0:Int),(0:Int),(0:Int),()),([]:Z15),([]:b0X),())))) (cond (decide ((0:Int)≤((a01 (a02 (a00 (wrap .i64 (x.2-(0:Int)))) ((0:Int),(0:Int),((0:Int),(0:Int),(0:Int),()),([]:Z15),([]:b0X),())):Nat):Int))) (some ([]:a3F)) none) none) none) (some ([]:a3F)))
def a3L:FSem:=⟨[.v (.nl Q60),.v QI],[.o Q60],a1z⟩
def a1n(s:(b7G×Int×b7G×Int×Int×Unit)):Option ((b7G×Int×b7G×Int×Int×Unit) ⊕ (b7G×Int×Unit)):=cond (decide (s.2.2.2.2.1<s.2.2.2.1)) ((m0k s.2.2.1 s.2.2.2.2.1).bind fun x1=>cond (decide ((wrap .i64 (s.2.1+(x1.length:Int)))<0)) none (some (.inl (s.1,wrap .i64 (s.2.1+(x1.length:Int)),s.2.2.1,s.2.2.2.1,wrap .i64 (s.2.2.2.2.1+1),())))) (some (.inr (s.1,s.2.1,())))
def a1o(s:(b7G×Int×Int×c6B)):Option ((b7G×Int×Int×c6B) ⊕ c6B):=cond (decide (s.2.2.1<s.2.1)) ((m0k s.1 s.2.2.1).bind fun x4=>cond (lim ((a01 s.2.2.2.1)+(a01 x4))) (some (.inl (s.1,s.2.1,wrap .i64 (s.2.2.1+1),a03 s.2.2.2.1 x4,()))) none) (some (.inr (s.2.2.2.1,())))
def a1r(x:b7G):Option a3F:=(y0s a1n (x,0,x,(x.length:Int),0,())).bind fun w2=>(a1z ([],w2.2.1)).bind fun y3=>(y0s a1o (w2.1,(w2.1.length:Int),0,y3,())).bind fun w5=>some w5.1
def a3q:FSem:=⟨[.v (.list false (.list false Q60))],[.o Q60],a1r⟩
def H67:Hints:=⟨[(58,[.sv 0 (.list false (.list false Q60)),3,.sv 9 (.list false (.list false Q60)),10,11],[Qe 0 [.sv 0 (.list false (.list false Q60)),3]]),(250,[.sv 25 (.list false (.list false Q60)),26,27,.own 6 6 Q60],[Qe 2 [.own 6 6 Q60]])],[],[]⟩
def b0C(x:Z1):Option (LI×Int):=(a1K x.1).bind fun y1=>cond (y1.2 != 0) (some ([],y1.2)) ((a1K x.2).bind fun y2=>cond (y2.2 != 0) (some ([],y2.2)) (cond (!(eqT Q12 y1.1.1 y2.1.1)) (some ([],2)) ((show Option (Bool×a8p×b0I)from cond (decide ((wrap .i64 (y1.1.2.1+y2.1.2.1)) > 4194304)) (some (true,y1.1,y2.1,())) (some (decide ((wrap .i64 ((y1.1.2.2.2.2.1.length:Int)+(y2.1.2.2.2.2.1.length:Int))) > 4096),y1.1,y2.1,()))).bind fun z3=>cond z3.1 (some ([],4)) ((a1r ([z3.2.1.2.2.2.2.1,z3.2.2.1.2.2.2.2.1]:List a3F)).bind fun y4=>(a4m (z3.2.1.1,y4)).bind fun y5=>some (y5.1,y5.2)))))
def b7v:FSem:=⟨[.v QB,.v QB],[.o QV,.v QI],b0C⟩
def H28:Hints:=⟨[],[(254,[Qn [.sv 45 .bool,.box 6 Q74,.box 8 Q74,Qp 6 6,Qp 8 8]])],[(11,[.q,.q,.q,.q,.q,.q,.v,.q,.x,.q,.q,.x,.x])]⟩
def b2R(x:Z1):Option Bool:=some ((b2s x.1)==(b2s x.2))
def c2E:FSem:=⟨[.v QB,.v QB],[.v .bool],b2R⟩
def a8A(x:(Z8×(LI×(Int×Int×Int)))):Option Bool:=(b5D ()).bind fun y1=>cond (!y1) (some false) ((b3F (x.1,x.2.1,100)).bind fun y2=>cond (!y2) (some true) ((b1v (x.1,x.2.1,x.2.2.1,x.2.2.2.1)).bind fun y3=>cond (!y3.2.2) (some false) (cond ((wrap .i64 (y3.2.1.2.1+1))==0) none ((a6E (y3.1,(0,a05 (bits .i64 .and x.2.2.2.2 65535) (wrap .i64 (y3.2.1.2.1+1)),()),1)).bind fun y4=>(a6E (y3.1,(a05 (bits .i64 .and x.2.2.2.2 65535) (wrap .i64 (y3.2.1.2.1+1)),y3.2.1.2.1,()),1)).bind fun y5=>(b0C (y4.1,y5.1)).bind fun y6=>(show Option (Int×(LI×(Int×Bool×c6D)))from cond (y4.2 != 0) (some (x.2.2.1,y3.1,a05 (bits .i64 .and x.2.2.2.2 65535) (wrap .i64 (y3.2.1.2.1+1)),true,y6.1,y3.2.1,())) (cond (y5.2 != 0) (some (x.2.2.1,y3.1,a05 (bits .i64 .and x.2.2.2.2 65535) (wrap .i64 (y3.2.1.2.1+1)),true,y6.1,y3.2.1,())) (cond (y6.2 != 0) (some (x.2.2.1,y3.1,a05 (bits .i64 .and x.2.2.2.2 65535) (wrap .i64 (y3.2.1.2.1+1)),true,y6.1,y3.2.1,())) ((a7F (y3.1,y6.1)).bind fun y7=>some (x.2.2.1,y3.1,a05 (bits .i64 .and x.2.2.2.2 65535) (wrap .i64 (y3.2.1.2.1+1)),!y7,y6.1,y3.2.1,()))))).bind fun z8=>cond z8.2.2.2.1 (some false) (cond ((wrap .i64 (1+(bits .i64 .and z8.1 63)))==0) none (cond ((a05 z8.2.2.1 (wrap .i64 (1+(bits .i64 .and z8.1 63)))) != 0) (cond (z8.2.2.1 != z8.2.2.2.2.2.1.2.1) (some true) ((b2R (z8.2.1,z8.2.2.2.2.1)).bind fun y9=>some y9)) ((b2R (z8.2.1,z8.2.2.2.2.1)).bind fun y10=>some y10)))))))
def a8B:FSem:=⟨[.v Q12,.v QL,.v QI,.v QI,.v QI],[.v .bool],a8A⟩
def H6:Hints:=⟨[],[(2046,[Qn [2,.sv 11 QB,14,.sv 81 .bool,.own 19 19 QV,.box 12 Q74,Qp 12 12]])],[]⟩
end Go.Ab
namespace Go.Ab
open Go.Proofs
def toB(x:List Int):ByteArray:=⟨(x.map fun n=>UInt8.ofNat n.toNat).toArray⟩
theorem c0O(s:ByteArray):toB (a7n s)=s:=by
 obtain⟨⟨l⟩⟩:=s;simp only[toB,a7n,List.map_map];congr 1;rw[show(fun n:Int=>UInt8.ofNat n.toNat)∘(fun b:UInt8=>(b.toNat:Int))=id from funext fun b=>by simp]
 simp
theorem d2S{w:World}{v:Value}{la:List (List Int)}{O R}(q:dec (cells w) (.list true .str) ((Src.one v).rd (cells w))=some (la,O,R)):c0D w v (la.map toB)∧(la.map toB).map a7n=la:=by
 rcases z0q (e:=.str) rfl q with⟨rfl,g,-,-⟩|⟨b,n,c,cs,rfl,hb,u,d,-,p,f,-,a⟩;have g:la=[]:=g;subst g;exact⟨⟨none,0,rfl,fun j h=>by grind⟩,rfl⟩;replace d:n=la.length:=d;have key:∀j (h:j<la.length),∃s,cs[j]?=some (.string s)∧la[j]=a7n s:=fun j h=>by
  obtain⟨x,o,r,A,B',z,B,g,k,-,-⟩:=a0u n 0 j a (by omega);have k:la[j]?=some x:=k;rw[lG h]at k;obtain rfl:la[j]=x:=Option.some.inj k;rw[Nat.zero_add]at g;simp[dec,Ty.cells]at g
  split at g
  rename_i s l;exact⟨s,l,(congrArg (·.1) (Option.some.inj g)).symm⟩;simp_all
 refine⟨⟨some b,c,by simp_all,fun j h=>?_⟩,?_⟩;have t:j<la.length:=by simp_all
 obtain⟨s,l,m⟩:=key j t;have i:c≠0:=by omega
 have y:=hb.resolve_left i;refine⟨b.block,b.off,by cases b;simp_all,?_⟩;rw[List.getElem_map,m,c0O];exact f j _ l;rw[List.map_map];refine List.ext_getElem (by simp) fun j g k=>?_
 obtain⟨s,-,m⟩:=key j k;simp_all[c0O]
theorem b7w(fs:i0y Tryz.prog G0 42 a3e){w:World}{z:List Int}{la:List (List Int)}(Y:a4n z=some la){Sh:Nat→Prop}{v:Value}(hv:VOk (cells w) Sh (.list false (.int .u8)) z v)(K:∀c,Sh c→c<w.heap.size)
  {B:Base}(X:GOk G0 B)(V:B.size=w.heap.size)(E:∀b,B.hp b=w.heap[b]?)(W:World)(s:a6h w W):
  Calls Tryz.prog 42 #[v] W fun e A=>(∃v,e=.returned v∧c0D A v (la.map toB)∧(la.map toB).map a7n=la∧a6h W A):=by
 let q:Base:={ size:=W.heap.size,hp:=fun b=>W.heap[b]?,F:=fun _=>False,S:=fun _=>True,io:=b0x W }
 let σ1:Gh:=⟨fun _=>.one undef,fun _=>[],none⟩
 have O:∀n,(ini a3e.ps z).rt n=none:=fun n=>by
  cases N:(ini a3e.ps z).rt n with
  |none=>rfl
  |some r=>
   obtain⟨i,c,a,y,-,hi,-⟩:=x0k N
   match i,hi with
   |0,hi=>cases hi
   |i+1,hi=>cases hi
 have m:Rel q (ini a3e.ps z) 1 (fun i=>(#[v]:Array Value).getD i undef) W σ1:=by
  refine⟨fun n r N=>?_,fun n _=>rfl,fun n=>by simp[σ1],fun n n' _ c f=>by simp[σ1]at f,fun n p hp=>by simp[σ1]at hp,fun i hi=>?_,trivial,a27 _,fun b _ _=>rfl,fun c f=>?_,fun i b hb=>(by cases hb),rfl⟩;simp_all
  have:i=0:=by omega
  subst this;show VOk (a0a W σ1.ov) (Shr q W σ1) (.list false (.int .u8)) z v;exact VOk.frame hv (fun c j f=>by show W.cell? _=w.cell? _;simp only[World.cell?,s.2.1 c (K c f)]) (fun c f=>⟨a28 (K c f) s.1,.inl trivial,fun⟨n,G⟩=>by simp[σ1]at G⟩);obtain⟨n,G⟩:=f;simp[σ1]at G
 have D:GOk G0 q:=fun g t x h=>by
  obtain⟨C,-,-,w0,T,U⟩:=X g t x h;have d:g<w.heap.size:=V▸C;exact⟨a28 d s.1,trivial,fun h=>h,w0,by rw[T,E];exact(s.2.1 g d).symm,U⟩
 refine(fs W q σ1 #[v] z la D Y rfl (fun _=>rfl) rfl rfl m (fun i hi=>(by cases hi))).mono ?_
 rintro e A ⟨P,I,rfl,H,k⟩
 obtain⟨u,rfl⟩:∃u,P=[u]:=by
  match P,H with
  | [u],_=>simp
 have l:=k.ll;rw[←k.lv]at l;obtain⟨L,rfl⟩:∃L,I=[L]:=by
  match I,l with
  | [L],_=>simp
 obtain⟨C,Q⟩:=k.ok 0 ⟨.o .str,la⟩ u L rfl rfl rfl;obtain⟨O',R,M,-,-⟩:=Q.rd;rw[C]at M;obtain⟨Z,k2⟩:=d2S M;exact⟨u,rfl,Z,k2,k.size,fun c f=>k.frame c f (fun h=>h),k.still⟩
theorem c9t(fs:i0y Tryz.prog G0 42 a3e):i0y Tryz.prog G0 17 b3l:=by
 intro w B σ args (x:List Int×List Int) (y:Int) hG f hB hhp hov hargs hrel hpins;obtain⟨d,u,f⟩:=a31.1 (show(a4n x.1).bind _=some y from f);obtain⟨j,hb,f⟩:=a31.1 f;obtain⟨A,f⟩:=(a0b f).elim id fun h=>by grind
 simp[lim]at A;cases f;have E:args.size=2:=hargs;have C:a0a w σ.ov=cells w:=by rw[hov];rfl
 have l:=hrel.slots 0 (by decide);have a:=hrel.slots 1 (by decide);rw[C]at l a;generalize hv1:args.getD 0 undef=v1 at l;generalize hv2:args.getD 1 undef=v2 at a;have n:args=#[v1,v2]:=by
  rw[←hv1,←hv2];apply Array.ext;omega;intro i m H
  have:i=0∨i=1:=by omega
  rcases this with rfl|rfl<;>simp[Array.getD,E]
 subst n;have r:=b7w fs u (v:=v1) l (fun c h=>h.1) hG hB hhp;have t:=b7w fs hb (v:=v2) a (fun c h=>h.1) hG hB hhp;refine(c8d (pA:=(d.map toB).map a7n=d) (pB:=(j.map toB).map a7n=j) w (by simp_all) (by simp_all) r t).mono ?_
 rintro e G ⟨rfl,o,D,p⟩
 have g:(((j.map toB).filter (inB (d.map toB))).length:Nat)=(j.filter fun s=>d.contains s).length:=by
  conv=>rhs;rw[←p,List.filter_map,List.length_map]
  congr 2;funext s;simp_all[inB]
 rw[g];refine⟨[.int .i64 _],[(.one undef,[])],rfl,rfl,rfl,rfl,fun k it v L a q m=>?_,by simp,fun k k' L F a q m c z=>?_,by simp,by simp,by rw[hB];exact o.1,fun b hb _=>(o.2.1 b (by omega)).trans (hhp b).symm,o.2.2.trans hrel.still⟩
 ·match k with
  |0=>cases a;cases q;cases m;exact⟨⟨fun h=>(by cases h),fun _=>rfl,[],rfl,by simp⟩,rfl⟩
  |k+1=>grind
 grind
end Go.Ab
