/- Part of the proof: It. Conditions: as each statement tells. -/
import Derived.RangeFuncBound
import Derived.RangeFuncCalls
import Derived.RangeFuncBox
import Derived.WalkKit
import Derived.OwnWalkIn
import Derived.TacticsInMore
import Derived.LoopNIn
import Derived.LoopIn
import Derived.Test.YtojedkpkkiecfaaGreatDoorProg
import Derived.KernelRfl
import Derived.MapKept
import Derived.Carry
import Derived.Deep.LoopGhost
import Derived.Lib.Walk
import Derived.Test.YtojedkpkkiecfaaGreatDoorMD
noncomputable section
set_option linter.unusedSimpArgs false
set_option linter.unusedVariables false
open Array renaming replicate_succ→a16,replicate_zero→a18
open Int renaming toNat→a00,tmod→a06,tdiv→a08
open List renaming replicate→a01,length→a02,append→a03,getD→a04,set→a05,take→a07,drop→a09,append_toArray→a19,cons_append→a20,size_toArray→a21,push_toArray→a22,length_nil→a23,nil_append→a24,take_succ_eq_append_getElem→a29,take_of_length_le→a32
open Nat renaming reduceAdd→a25,reduceSub→a26,le_refl→a27,lt_of_lt_of_le→a28,le_trans→a33
open Option renaming getD_some→a30,bind_eq_some_iff→a31
namespace Go.Ab
open Go.Proofs Go.RowKit
attribute [local go_sem] Oper.semAt_some
set_option maxHeartbeats 1000000 in
theorem d2f:A0h Tryz.prog 192 206:=by
 refine⟨⟨_,_,Tryz.func192,rfl,by kernel_rfl⟩,fun A len cap w=>(callsIn_wide (n:=3)).1 ?_⟩
 refine callsIn_of_wp Tryz.func192 rfl trivial ?_
 simp only[Tryz.ntmps192,a21,lC,a23,a25,a26,a16,a18,a22,a19,a24,a20]
 gi_wp2
 go_ret
 exact⟨rfl,_,rfl⟩
@[reducible] def b2D:Ty:=.pair (.int .i64) (.pair (.int .i64) .unit)
set_option maxRecDepth 100000 in
set_option maxHeartbeats 2000000 in
theorem c9B (l Bs b off len cap:Nat) (p q:Nat→Int) (J:Nat→World→Prop) (Jx:World→Prop) (W:World)
  (hJ:∀k W',J k W'→W'.cell? ⟨Bs,0,none⟩=some (.slice (some ⟨b,off,none⟩) len cap))
  (hlen:len<2147483648)
  (hcs:∀k W',k<len→J (k+1) W'→W'.cell? ⟨b,off+k*2,none⟩=some (.int .i64 (p k))∧W'.cell? ⟨b,off+k*2+1,none⟩=some (.int .i64 (q k)))
  (hY:∀n W',n<len→J (n+1) W'→YieldAt (Fr none) 0 Tryz.prog l #[.int .i64 (n:Int),.agg #[.int .i64 (p n),.int .i64 (q n)]] W' fun en W''=>(en=.returned (.bool true)∧J n W'')∨(en=.returned (.bool false)∧Jx W''))
  (h0:J len W):
  CallsIn (Fr none) 0 Tryz.prog 206 #[.func (.yield l) #[] #[],.pointer (some ⟨Bs,0,none⟩)] W fun en W'=>(∃v,en=.returned v)∧(J 0 W'∨Jx W'):=by
 refine callsIn_of_wp Tryz.func206 rfl trivial ?_
 simp only[Tryz.ntmps206,a21,lC,a23,a25,a26,a16,a18,a22,a19,a24,a20]
 have hBs:=hJ _ _ h0
 gi_wp2
 gi_loopw [3] (fun i wr=>∃k:Nat,k≤len∧i=.int .i64 ((k:Int)-1)∧J k wr) (fun i _=>(intOf i+1).toNat)
 case atStart=>exact⟨len,a27 _,rfl,h0⟩
 case round=>
  obtain⟨k,hk,rfl,hJs⟩:=hrel
  cases k with
  |succ n=>
   obtain⟨fn,tmps,assign,body,hy,hR⟩:=hY n wr (by omega) hJs
   have hcx:=hJ _ _ hJs
   obtain⟨hc0,hc1⟩:=hcs n wr (by omega) hJs
   gi_wp2
   refine hR.mono ?_
   rintro e W3 (⟨rfl,hJ3⟩|⟨rfl,hJx3⟩)
   ·gi_wp2
    go_roundw
    case rel=>exact⟨n,by omega,by simp,hJ3⟩
    case measure=>simp[intOf]
   ·gi_wp2
    refine bodyPost_ret (results_none rfl _ _ _) rfl ?_
    exact⟨⟨_,rfl⟩,.inr hJx3⟩
  |zero=>
   gi_wp2
   go_end0
   exact⟨⟨_,rfl⟩,.inl hJs⟩
set_option maxRecDepth 100000 in
set_option maxHeartbeats 2000000 in
theorem c8d (l Bs:Nat) (A:Option Addr) (c:Nat) (J:Nat→World→Prop) (W:World) (hBs:W.cell? ⟨Bs,0,none⟩=some (.slice A 0 c)) (h0:J 0 W):
  CallsIn (Fr none) 0 Tryz.prog 206 #[.func (.yield l) #[] #[],.pointer (some ⟨Bs,0,none⟩)] W fun en W'=>(∃v,en=.returned v)∧J 0 W':=by
 refine callsIn_of_wp Tryz.func206 rfl trivial ?_
 simp only[Tryz.ntmps206,a21,lC,a23,a25,a26,a16,a18,a22,a19,a24,a20]
 gi_wp2
 gi_loopw [3] (fun i wr=>i=.int .i64 (-1)∧J 0 wr) (fun _ _=>0)
 case atStart=>exact⟨rfl,h0⟩
 case round=>
  obtain⟨rfl,hJs⟩:=hrel
  gi_wp2
  go_end0
  exact⟨⟨_,rfl⟩,hJs⟩
theorem c0I{m:Mem}{Sh:Nat→Prop}{b o:Nat}{x:b2D.den}{R}(h:dec m b2D ((Src.at b o).rd m)=some (x,[],R)):
  m b o=some (.int .i64 x.1)∧m b (o+1)=some (.int .i64 x.2.1)∧VOk m Sh b2D x (.agg #[.int .i64 x.1,.int .i64 x.2.1]):=by
 obtain⟨p,q,u⟩:=x;simp only[b2D,dec,Src.rd,Ty.cells,Nat.add_zero]at h
 split at h
 cases h;rename_i r o1 j g
 split at g
 rename_i n c
 split at g
 rename_i e;subst e;simp only[sj]at g;obtain⟨rfl,rfl,rfl⟩:=g
 split at h
 cases h;rename_i s o2 r2 k
 split at k
 cases k;rename_i t i l f
 split at f
 rename_i d a
 split at f
 rename_i e;subst e;simp only[sj]at f k h;obtain⟨rfl,rfl,rfl⟩:=f;obtain⟨rfl,rfl,rfl⟩:=k;obtain⟨⟨rfl,rfl,rfl⟩,-,-⟩:=h;exact⟨c,a,fun _=>⟨_,rfl,rfl⟩,fun h=>(by cases h),[],rfl,by simp⟩;cases f;cases f;cases g;cases g
theorem b5f {P:Program} {f:FuncId} (hb:l0x P f) (args:Array Value) (w:World):(callFunc f args).run P w=.ok (.enter f args) w:=by
 obtain ⟨fn,c',h1,h2,h3⟩:=hb;have h4 : ¬ fn.name = "runtime.NumGoroutine" := by simpa using h3
 simp [callFunc,program,Sem.run,h1,h2,h4,Result.andThen]
theorem d2g:w0n Tryz.prog 206 b2D:=by
 refine⟨fun args w=>b5f ⟨_,_,Tryz.func206,rfl,by kernel_rfl⟩ args w,fun l Bs sv f J D W i t L o=>?_⟩;obtain⟨z,Sh,y⟩:=t _ _ o;obtain⟨A,n,c,rfl,rfl,N,v,j⟩:=y.header
 by_cases hx0:f.length=0
 rw[hx0]at o z;exact(c8d l Bs A c J W z o).mono fun e g h=>⟨h.1,.inl h.2⟩;cases A with
 |none=>have:=j rfl;omega
 |some A=>
  obtain⟨b,off,B⟩:=A
  have:=(v _ rfl).resolve_left (by omega)
  simp only at this;subst this;have u:∀k g,k<f.length→J (k+1) g→∃x,f[k]?=some x∧g.cell? ⟨b,off+k*2,none⟩=some (.int .i64 x.1)∧g.cell? ⟨b,off+k*2+1,none⟩=some (.int .i64 x.2.1):=by
   intro k g p d;obtain⟨-,a,hv⟩:=t _ _ d;obtain⟨C,O,E,R,e,F,G,H,s,I,K⟩:=hv.elem rfl (lG p);simp only[Value.slice.injEq,sj]at e;obtain⟨rfl,rfl,rfl⟩:=e;obtain⟨q,r,-⟩:=c0I (Sh:=a) s;exact⟨_,lG p,q,r⟩
  refine c9B l Bs b off f.length c (fun k=>((f[k]?).getD b2D.dflt).1) (fun k=>((f[k]?).getD b2D.dflt).2.1) J D W (fun k g d=>(t k g d).1) i (fun k g p d=>?_) (fun n g M d=>?_) o;obtain⟨x,m,q,r⟩:=u k g p d;simp only[m,a30];exact⟨q,r⟩;have m:f[n]?=some f[n]:=lG M;simp only[m,a30];refine L n _ _ g m d fun a hv=>?_
  obtain⟨C,O,E,R,e,F,G,H,s,I,K⟩:=hv.elem rfl m;exact(c0I (Sh:=a) s).2.2
set_option maxHeartbeats 1000000 in
theorem d2h:A0h Tryz.prog 119 160:=by
 refine⟨⟨_,_,Tryz.func119,rfl,by kernel_rfl⟩,fun A len cap w=>(callsIn_wide (n:=3)).1 ?_⟩
 refine callsIn_of_wp Tryz.func119 rfl trivial ?_
 simp only[Tryz.ntmps119,a21,lC,a23,a25,a26,a16,a18,a22,a19,a24,a20]
 gi_wp2
 go_ret
 exact⟨rfl,_,rfl⟩
@[reducible] def b4l:Ty:=.pair (.int .i64) (.pair (.int .i64) (.pair (.int .i64) .unit))
set_option maxRecDepth 100000 in
set_option maxHeartbeats 2000000 in
theorem c9C (l Bs b off len cap:Nat) (p q r:Nat→Int) (J:Nat→World→Prop) (Jx:World→Prop) (W:World)
  (hJ:∀k W',J k W'→W'.cell? ⟨Bs,0,none⟩=some (.slice (some ⟨b,off,none⟩) len cap))
  (hlen:len<2147483648)
  (hcs:∀k W',k<len→J (k+1) W'→W'.cell? ⟨b,off+k*3,none⟩=some (.int .i64 (p k))∧W'.cell? ⟨b,off+k*3+1,none⟩=some (.int .i64 (q k))∧W'.cell? ⟨b,off+k*3+2,none⟩=some (.int .i64 (r k)))
  (hY:∀n W',n<len→J (n+1) W'→YieldAt (Fr none) 0 Tryz.prog l #[.int .i64 (n:Int),.agg #[.int .i64 (p n),.int .i64 (q n),.int .i64 (r n)]] W' fun en W''=>(en=.returned (.bool true)∧J n W'')∨(en=.returned (.bool false)∧Jx W''))
  (h0:J len W):
  CallsIn (Fr none) 0 Tryz.prog 160 #[.func (.yield l) #[] #[],.pointer (some ⟨Bs,0,none⟩)] W fun en W'=>(∃v,en=.returned v)∧(J 0 W'∨Jx W'):=by
 refine callsIn_of_wp Tryz.func160 rfl trivial ?_
 simp only[Tryz.ntmps160,a21,lC,a23,a25,a26,a16,a18,a22,a19,a24,a20]
 have hBs:=hJ _ _ h0
 gi_wp2
 gi_loopw [3] (fun i wr=>∃k:Nat,k≤len∧i=.int .i64 ((k:Int)-1)∧J k wr) (fun i _=>(intOf i+1).toNat)
 case atStart=>exact⟨len,a27 _,rfl,h0⟩
 case round=>
  obtain⟨k,hk,rfl,hJs⟩:=hrel
  cases k with
  |succ n=>
   obtain⟨fn,tmps,assign,body,hy,hR⟩:=hY n wr (by omega) hJs
   have hcx:=hJ _ _ hJs
   obtain⟨hc0,hc1,hc2⟩:=hcs n wr (by omega) hJs
   gi_wp2
   refine hR.mono ?_
   rintro e W3 (⟨rfl,hJ3⟩|⟨rfl,hJx3⟩)
   ·gi_wp2
    go_roundw
    case rel=>exact⟨n,by omega,by simp,hJ3⟩
    case measure=>simp[intOf]
   ·gi_wp2
    refine bodyPost_ret (results_none rfl _ _ _) rfl ?_
    exact⟨⟨_,rfl⟩,.inr hJx3⟩
  |zero=>
   gi_wp2
   go_end0
   exact⟨⟨_,rfl⟩,.inl hJs⟩
set_option maxRecDepth 100000 in
set_option maxHeartbeats 2000000 in
theorem c8e (l Bs:Nat) (A:Option Addr) (c:Nat) (J:Nat→World→Prop) (W:World) (hBs:W.cell? ⟨Bs,0,none⟩=some (.slice A 0 c)) (h0:J 0 W):
  CallsIn (Fr none) 0 Tryz.prog 160 #[.func (.yield l) #[] #[],.pointer (some ⟨Bs,0,none⟩)] W fun en W'=>(∃v,en=.returned v)∧J 0 W':=by
 refine callsIn_of_wp Tryz.func160 rfl trivial ?_
 simp only[Tryz.ntmps160,a21,lC,a23,a25,a26,a16,a18,a22,a19,a24,a20]
 gi_wp2
 gi_loopw [3] (fun i wr=>i=.int .i64 (-1)∧J 0 wr) (fun _ _=>0)
 case atStart=>exact⟨rfl,h0⟩
 case round=>
  obtain⟨rfl,hJs⟩:=hrel
  gi_wp2
  go_end0
  exact⟨⟨_,rfl⟩,hJs⟩
theorem b9m{m:Mem}{rd:Nat→Option Value}{x o r}(h:dec m (.int .i64) rd=some (x,o,r)):rd 0=some (.int .i64 x)∧o=[]∧r=[]:=by
 simp only[dec]at h
 split at h
 rename_i k n g
 split at h
 rename_i e;subst e;simp only[sj,pJ]at h;obtain⟨rfl,rfl,rfl⟩:=h;exact⟨g,rfl,rfl⟩;cases h;cases h
theorem b7m{m:Mem}{a b:Ty}{rd:Nat→Option Value}{x o r}(h:dec m (.pair a b) rd=some (x,o,r)):∃o1 g o2 r2,dec m a rd=some (x.1,o1,g)∧dec m b (fun j=>rd (a.cells+j))=some (x.2,o2,r2)∧o=o1++o2∧r=g++r2:=by
 simp only[dec]at h
 split at h
 cases h;rename_i c o1 g f
 split at h
 cases h;rename_i d o2 r2 k;simp only[sj,pJ]at h;obtain⟨rfl,rfl,rfl⟩:=h;exact⟨_,_,_,_,f,k,rfl,rfl⟩
theorem c2v{m:Mem}{Sh:Nat→Prop}{b o:Nat}{x:b4l.den}{R}(h:dec m b4l ((Src.at b o).rd m)=some (x,[],R)):
  m b o=some (.int .i64 x.1)∧m b (o+1)=some (.int .i64 x.2.1)∧m b (o+2)=some (.int .i64 x.2.2.1)∧VOk m Sh b4l x (.agg #[.int .i64 x.1,.int .i64 x.2.1,.int .i64 x.2.2.1]):=by
 obtain⟨_,_,_,_,g,f,-,-⟩:=b7m h;obtain⟨_,_,_,_,k,a,-,-⟩:=b7m f;obtain⟨_,_,_,_,c,-,-,-⟩:=b7m a;exact⟨(b9m g).1,(b9m k).1,(b9m c).1,fun _=>⟨_,rfl,rfl⟩,fun h=>(by cases h),[],rfl,by simp⟩
theorem d2i:w0n Tryz.prog 160 b4l:=by
 refine⟨fun args w=>b5f ⟨_,_,Tryz.func160,rfl,by kernel_rfl⟩ args w,fun l Bs sv f J E W i u M o=>?_⟩;obtain⟨B,Sh,z⟩:=u _ _ o;obtain⟨A,n,c,rfl,rfl,O,y,j⟩:=z.header
 by_cases hx0:f.length=0
 rw[hx0]at o B;exact(c8e l Bs A c J W B o).mono fun e g h=>⟨h.1,.inl h.2⟩;cases A with
 |none=>have:=j rfl;omega
 |some A=>
  obtain⟨b,off,C⟩:=A
  have:=(y _ rfl).resolve_left (by omega)
  simp only at this;subst this;have v:∀k g,k<f.length→J (k+1) g→∃x,f[k]?=some x∧g.cell? ⟨b,off+k*3,none⟩=some (.int .i64 x.1)∧g.cell? ⟨b,off+k*3+1,none⟩=some (.int .i64 x.2.1)∧g.cell? ⟨b,off+k*3+2,none⟩=some (.int .i64 x.2.2.1):=by
   intro k g p d;obtain⟨-,a,hv⟩:=u _ _ d;obtain⟨D,P,F,R,e,G,H,I,t,K,L⟩:=hv.elem rfl (lG p);simp only[Value.slice.injEq,sj]at e;obtain⟨rfl,rfl,rfl⟩:=e;obtain⟨q,r,s,-⟩:=c2v (Sh:=a) t;exact⟨_,lG p,q,r,s⟩
  refine c9C l Bs b off f.length c (fun k=>((f[k]?).getD b4l.dflt).1) (fun k=>((f[k]?).getD b4l.dflt).2.1) (fun k=>((f[k]?).getD b4l.dflt).2.2.1) J E W (fun k g d=>(u k g d).1) i (fun k g p d=>?_) (fun n g N d=>?_) o;obtain⟨x,m,q,r,s⟩:=v k g p d;simp only[m,a30];exact⟨q,r,s⟩;have m:f[n]?=some f[n]:=lG N;simp only[m,a30];refine M n _ _ g m d fun a hv=>?_
  obtain⟨D,P,F,R,e,G,H,I,t,K,L⟩:=hv.elem rfl m;exact(c2v (Sh:=a) t).2.2.2
end Go.Ab
namespace Go.Ab
open Go.MapKept
def b4m(w:World)(b:Nat)(L:List ByteArray):Prop:=
 ∃es clock,w.heap[b]?=some (.map es clock)∧(∀e∈es.toList,IsKey .string e.key∧e.val=.bool true)∧∀s,(∃e∈es.toList,e.key=.string s)↔s∈L
section
variable {P:Program} {t kt et:TypeId} {w:World} {b:Nat} {L:List ByteArray}
theorem c8f(h:b4m w b L)(l:P.underlying t=some (.map kt et))(g:P.underlying kt=some .string)(n:(zeroValue et).run P w=.ok (.bool false) w)(s:ByteArray):
  ∃r,(Instr.lookup t (.map (some b)) (.string s) false).run P w=.ok (.bool r) w∧(r=true↔s∈L):=by
 obtain⟨m,f,hb,i,p⟩:=h;have c:IsKey .string (.string s):=by simp[IsKey]
 rcases findNow_spec c m.toList 0 (fun e a=>(i e a).1)with⟨k,d⟩|⟨j,e,k,d,o⟩;refine⟨false,?_,by grind⟩;simp[Instr.lookup,run_underlying l,MapKept.run_getObj_map hb,run_checkKey g c,run_findKey g k,n,Result.andThen];have a:=List.mem_of_getElem? d;refine⟨true,?_,by grind⟩;simp[Instr.lookup,run_underlying l,MapKept.run_getObj_map hb,run_checkKey g c,run_findKey g k,(i e a).2,Result.andThen]
theorem c9D(h:b4m w b L)(q:P.underlying t=some (.map kt et))(i:P.underlying kt=some .string)(s:ByteArray):
  ∃w',(Instr.mapUpdate t (.map (some b)) (.string s) (.bool true)).run P w=.ok () w'∧b4m w' b (L++[s])∧w'.heap.size=w.heap.size∧(∀c,c≠b→w'.heap[c]?=w.heap[c]?)∧b0x w'=b0x w:=by
 obtain⟨a,g,hb,p,v⟩:=h;have m:IsKey .string (.string s):=by simp[IsKey]
 rcases findNow_spec m a.toList 0 (fun e k=>(p e k).1)with⟨n,r⟩|⟨j,e,n,r,u⟩;refine⟨{ w with heap:=w.heap.setIfInBounds b (.map (a.push { key:=.string s,val:=.bool true,born:=g }) (g+1)) },by simp[Instr.mapUpdate,run_underlying q,MapKept.run_getObj_map hb,run_checkKey i m,run_findKey i n,MapKept.run_setObj_map _ hb,Result.andThen],⟨_,_,(heap_set hb).1,fun e k=>?_,fun s'=>?_⟩,by simp,fun c o=>(heap_set hb).2 c o,rfl⟩
 grind
 rw[mA,←v,Array.toList_push];constructor
 grind
 rintro(⟨e,k,A⟩|k)
 grind
 simp_all;have z:a[j]?=some e:=by simp_all
 have d:∀f,a[j]?=some f→({ f with key:=.string s,val:=.bool true }:MapEntry).key=f.key:=fun f y=>by simp_all
 refine⟨{ w with heap:=w.heap.setIfInBounds b (.map (a.modify j fun e=>{ e with key:=.string s,val:=.bool true }) g) },by simp[Instr.mapUpdate,run_underlying q,MapKept.run_getObj_map hb,run_checkKey i m,run_findKey i n,z,u,run_keyThatStays m,MapKept.run_setObj_map _ hb,Result.andThen],⟨_,_,(heap_set hb).1,fun f k=>⟨isKey_modify (fun x B=>(p x B).1) _ _ d f k,?_⟩,fun s'=>?_⟩,by simp,fun c o=>(heap_set hb).2 c o,rfl⟩
 grind[List.mem_iff_getElem?]
 have C:=modify_keys j (fun e=>{ e with key:=.string s,val:=.bool true }) d;have key:∀(l:List MapEntry),(∃e∈l,e.key=.string s')↔Value.string s'∈l.map (·.key):=fun l=>by simp
 grind
end
end Go.Ab
namespace Go.Ab
open Go.Proofs Go.RowKit Go.MapKept
def a9S(b:Nat)(w w':World):Prop:=w.heap.size≤w'.heap.size∧(∀c,c<w.heap.size→c≠b→w'.heap[c]?=w.heap[c]?)∧b0x w'=b0x w
theorem a9S.trans{b:Nat}{w w' w'':World}(h:a9S b w w')(g:a9S b w' w''):a9S b w w'':=
 ⟨a33 h.1 g.1,fun c f hb=>(g.2.1 c (a28 f h.1) hb).trans (h.2.1 c f hb),g.2.2.trans h.2.2⟩
theorem a9S.refl{b:Nat}{w:World}:a9S b w w:=⟨a27 _,fun _ _ _=>rfl,rfl⟩
def a7a(s:ByteArray):List Int:=s.data.toList.map fun b=>(b.toNat:Int)
theorem c6q{s t:ByteArray}(h:a7a s=a7a t):s=t:=by
 obtain⟨⟨s⟩⟩:=s;obtain⟨⟨t⟩⟩:=t
 have:s=t:=by
  simp[a7a]at h;have key:∀(x y:List UInt8),x.map (fun b=>(b.toNat:Int))=y.map (fun b=>(b.toNat:Int))→x=y:=by
   intro x
   induction x with
   |nil=>simp
   |cons a x ih=>intro y e;cases y with
    |nil=>grind
    |cons b y=>
     grind[UInt8.toNat_inj]
  grind
 grind
def b7V(w:World)(v:Value)(l:List ByteArray):Prop:=
 ∃A c,v=.slice A l.length c∧∀j (h:j<l.length),∃blk off,A=some ⟨blk,off,none⟩∧w.cell? ⟨blk,off+j,none⟩=some (.string l[j])
theorem c8g{w w':World}{b:Nat}{es:Array MapEntry}{k:Nat}(g:∀c,c<w.heap.size→c≠b→w'.heap[c]?=w.heap[c]?)(hb:w.heap[b]?=some (.map es k)){a:Addr}{v:Value}(h:w.cell? a=some v):w'.cell? a=some v:=by
 grind[World.cell?]
def a5Y(w w':World):Prop:=w.heap.size≤w'.heap.size∧(∀c,c<w.heap.size→w'.heap[c]?=w.heap[c]?)∧b0x w'=b0x w
theorem a5Y.alloc(w:World)(o:Obj):a5Y w (w.alloc o):=⟨b0s _,fun c h=>b0m _ c h,rfl⟩
theorem a5Y.to{b:Nat}{w w':World}(h:a5Y w w'):a9S b w w':=⟨h.1,fun c g _=>h.2.1 c g,h.2.2⟩
theorem a9S.shut{b:Nat}{w w':World}(h:a9S b w w')(hb:w.heap.size≤b):a5Y w w':=⟨h.1,fun c g=>h.2.1 c g (by omega),h.2.2⟩
theorem b4m.kept{w w':World}{b:Nat}{L:List ByteArray}(h:b4m w b L)(c:a5Y w w'):b4m w' b L:=by
 obtain⟨g,k,hb,f,a⟩:=h;exact⟨g,k,(c.2.1 b (Array.getElem?_eq_some_iff.1 hb).1).trans hb,f,a⟩
def inB(la:List ByteArray)(s:ByteArray):Bool:=(la.map a7a).contains (a7a s)
theorem d2j{la:List ByteArray}{s:ByteArray}:inB la s=true↔s∈la:=by
 unfold inB;rw[List.contains_iff_mem,List.mem_map];exact⟨fun⟨t,h,e⟩=>c6q e▸h,fun h=>⟨s,h,rfl⟩⟩
theorem c9E{L:List ByteArray}{i:Nat}(h:i<L.length):L.take i++[L[i]]=L.take (i+1):=(a29 h).symm
theorem a9S.step{b:Nat}{w w' w'':World}(h:a9S b w w')(k:w''.heap.size=w'.heap.size)(g:∀c,c≠b→w''.heap[c]?=w'.heap[c]?)(f:b0x w''=b0x w'):a9S b w w'':=
 h.trans ⟨by omega,fun c _ hb=>g c hb,f⟩
set_option maxHeartbeats 1600000 in
set_option maxRecDepth 1000000 in
theorem c8h {pA pB:Prop} {v1 v2:Value} {la lb:List ByteArray} (w:World) (h1:la.length<2147483648) (h2:lb.length<2147483648)
  (hA:∀W,a5Y w W→Calls Tryz.prog 42 #[v1] W fun e W'=>∃v,e=.returned v∧b7V W' v la∧pA∧a5Y W W')
  (hB:∀W,a5Y w W→Calls Tryz.prog 42 #[v2] W fun e W'=>∃v,e=.returned v∧b7V W' v lb∧pB∧a5Y W W'):
  Calls Tryz.prog 17 #[v1,v2] w fun e W'=>e=.returned (.int .i64 (((lb.filter (inB la)).length:Nat):Int))∧a5Y w W'∧pA∧pB:=by
 have hmm:=@run_makeMap Tryz.prog
 go_enter Tryz.func17,Tryz.ntmps17
 go_wp2_with (go_at_call 42;refine(hA _ (a5Y.alloc w _)).mono ?_;rintro e W1 ⟨v,rfl,⟨A,c,rfl,hrow⟩,hpa,hg1⟩)
 have u96:Tryz.prog.underlying 96=some (.map 9 4):=by rfl
 have u9:Tryz.prog.underlying 9=some .string:=by rfl
 have z4:∀W,(zeroValue 4).run Tryz.prog W=.ok (.bool false) W:=fun W=>by rfl
 have s0:b4m W1 w.heap.size (la.take 0):=by
  refine b4m.kept ⟨#[],0,b0i _,by simp,by simp⟩ hg1
 have hbl:w.heap.size<W1.heap.size:=by
  obtain⟨es,k,hb,-⟩:=s0
  grind
 go_loopg [15] la.length (fun k s15 wr=>∃i:Nat,s15=.int .i64 (i:Int)∧i≤la.length∧la.length-i≤k∧b4m wr w.heap.size (la.take i)∧a9S w.heap.size W1 wr)
 case atStart=>exact⟨0,rfl,Nat.zero_le _,by omega,s0,a9S.refl⟩
 case round=>
  obtain⟨i,rfl,hi,hk,hm,hg⟩:=hrel
  by_cases hlt:i<la.length
  ·obtain⟨blk,off,rfl,hcell⟩:=hrow i hlt
   obtain⟨es0,k0,hb0,-⟩:=id s0
   have hcell:=c8g hg.2.1 hb0 hcell
   obtain⟨w2,hput,hm2,hsz2,hh2,hio2⟩:=c9D (P:=Tryz.prog) hm u96 u9 la[i]
   rw[c9E hlt]at hm2
   go_wp2
   go_roundg (la.length-(i+1))
   case measure=>omega
   case rel=>exact⟨i+1,by simp,hlt,a27 _,hm2,hg.step hsz2 hh2 hio2⟩
  ·have hfull:la.take i=la:=a32 (by omega)
   rw[hfull]at hm
   have hgr:a5Y w wr:=((a5Y.alloc w (.map #[] 0)).to (b:=w.heap.size)).trans (hg1.to.trans hg) |>.shut (a27 _)
   go_wp2_with (go_at_call 42;refine(hB _ hgr).mono ?_;rintro e W2 ⟨v,rfl,⟨A2,c2,rfl,hrow2⟩,hpb,hg2⟩)
   have hm2:=hm.kept hg2
   go_loopg [25,8] lb.length (fun k s25 s8 wr=>∃j:Nat,s25=.int .i64 (j:Int)∧s8=.int .i64 ((((lb.take j).filter (inB la)).length:Nat):Int)∧j≤lb.length∧lb.length-j≤k∧wr=W2)
   case atStart=>exact⟨0,rfl,rfl,Nat.zero_le _,by omega,rfl⟩
   case round=>
    obtain⟨j,rfl,rfl,hj,hk,rfl⟩:=hrel
    by_cases hlt2:j<lb.length
    ·obtain⟨blk,off,rfl,hcell⟩:=hrow2 j hlt2
     obtain⟨r,hlook,hr⟩:=c8f (P:=Tryz.prog) hm2 u96 u9 (z4 _) lb[j]
     have hin:inB la lb[j]=r:=by rw[Bool.eq_iff_iff,d2j,hr]
     have hcnt:(lb.take (j+1)).filter (inB la)=(lb.take j).filter (inB la)++if r=true then[lb[j]]else[]:=by
      grind[a29]
     have hle:((lb.take j).filter (inB la)).length≤lb.length:=a33 (List.length_filter_le _ _) (by grind)
     cases r with
     |true=>
      rw[if_pos rfl]at hcnt
      go_wp2
      go_roundg (lb.length-(j+1))
      case measure=>omega
      case rel=>exact⟨j+1,by simp,by grind,hlt2,a27 _,rfl⟩
     |false=>
      rw[if_neg (by simp),List.append_nil]at hcnt
      go_wp2
      go_roundg (lb.length-(j+1))
      all_goals grind
    ·have hfull:lb.take j=lb:=a32 (by omega)
     rw[hfull]
     go_wp2
     go_ret
     exact⟨rfl,⟨a33 hgr.1 hg2.1,fun c hc=>(hg2.2.1 c (a28 hc hgr.1)).trans (hgr.2.1 c hc),hg2.2.2.trans hgr.2.2⟩,hpa,hpb⟩
end Go.Ab
namespace Go.Ab
open IntKind(wrap)
open Go.Proofs
set_option maxRecDepth 100000
set_option linter.unusedVariables false
@[reducible] def QI:Ty:=.int .i64
@[reducible] def QL:Ty:=.list false QI
@[reducible] def QU:Ty:=.int .u64
@[reducible] def QV:Ty:=.int .u8
@[reducible] def QB:Ty:=.list false QV
@[reducible] def LI:Type:=List Int
instance (n:Nat):OfNat Ent n:=⟨.sv n QI⟩
@[reducible] def Qp(i n:Nat):Ent:=.ptr i n []
@[reducible] def Qn(l:a0c):Ex×a0c:=(.normal,l)
@[reducible] def Qe(n:Nat)(l:a0c):Ex×a0c:=(.exit n,l)
@[reducible] def Qr(l:a0c):Ex×a0c:=(.ret,l)
def QH:Hints:=⟨[],[],[]⟩
@[reducible] def Z0:Type:=(Unit ⊕ (Bool×Unit))
@[reducible] def Z1:Type:=(LI×LI)
@[reducible] def Z2:Type:=((List LI)×Unit)
@[reducible] def Z3:Type:=(Int×(Int×LI))
@[reducible] def Z4:Type:=(LI×(Int×Int))
@[reducible] def Z5:Type:=(List (Int×(Int×Unit)))
@[reducible] def Z6:Type:=(Int×(LI×Unit))
@[reducible] def Z7:Type:=(LI×(Int×Unit))
@[reducible] def Z8:Type:=(Int×(Int×(Int×Unit)))
@[reducible] def Z9:Type:=(Bool×(LI×Unit))
@[reducible] def Z10:Type:=(Int×(Int×(Bool×Unit)))
@[reducible] def Z11:Type:=((Int×(Int×Unit))×Unit)
@[reducible] def Z12:Type:=(LI×(LI×Int))
@[reducible] def Z13:Type:=(Int×Z2)
@[reducible] def Z14:Type:=(LI×(LI×Unit))
@[reducible] def Z15:Type:=(LI×(Int×(Int×Unit)))
@[reducible] def Z16:Type:=(List Z8)
@[reducible] def Z17:Type:=(Int×Z6)
@[reducible] def Z18:Type:=(Int×Z7)
@[reducible] def Z19:Type:=(LI×(Int×(Bool×Unit)))
@[reducible] def Z20:Type:=(Z6×Unit)
@[reducible] def Z21:Type:=(Int×Z8)
@[reducible] def Z22:Type:=(Z7×Unit)
@[reducible] def Z23:Type:=(Z8×Unit)
@[reducible] def Z24:Type:=(Int×Z10)
@[reducible] def Z25:Type:=(List Z13)
@[reducible] def Z26:Type:=(Int×Z14)
@[reducible] def Z27:Type:=(LI×Z6)
@[reducible] def Z28:Type:=((List LI)×(Int×(Int×Unit)))
@[reducible] def Z29:Type:=(Int×Z13)
@[reducible] def Z30:Type:=(Z13×Int)
@[reducible] def Z31:Type:=(Int×Z15)
@[reducible] def Z32:Type:=(Z15×Int)
@[reducible] def Z33:Type:=(LI×Z8)
@[reducible] def Z34:Type:=(Z13×Unit)
@[reducible] def Z35:Type:=(Int×Z17)
@[reducible] def Z36:Type:=(LI×Z10)
@[reducible] def Z37:Type:=(Z15×Unit)
@[reducible] def Z38:Type:=(Int×Z21)
@[reducible] def Z39:Type:=(Int×Z22)
@[reducible] def Z40:Type:=(Int×Z23)
@[reducible] def Z41:Type:=(Bool×Z23)
@[reducible] def Z42:Type:=(LI×Z14)
@[reducible] def Z43:Type:=(LI×Z15)
@[reducible] def Z44:Type:=(LI×Z17)
@[reducible] def Z45:Type:=(Int×Z26)
@[reducible] def Z46:Type:=(Int×Z28)
@[reducible] def Z47:Type:=(Z25×Unit)
@[reducible] def Z48:Type:=(Int×Z33)
@[reducible] def Z49:Type:=(Int×Z34)
@[reducible] def Z50:Type:=(Z6×(LI×Unit))
@[reducible] def Z51:Type:=((LI×Unit) ⊕ Z6)
@[reducible] def Z52:Type:=(LI×Z19)
@[reducible] def Z53:Type:=(Int×Z31)
@[reducible] def Z54:Type:=(Z26×Unit)
@[reducible] def Z55:Type:=(Int×Z37)
@[reducible] def Z56:Type:=(Int×Z38)
@[reducible] def Z57:Type:=(Int×Z39)
@[reducible] def Z58:Type:=(Bool×Z37)
@[reducible] def Z59:Type:=(Int×Z42)
@[reducible] def Z60:Type:=(LI×Z33)
@[reducible] def Z61:Type:=(Int×Z44)
@[reducible] def Z62:Type:=(LI×Z31)
@[reducible] def Z63:Type:=(LI×Z34)
@[reducible] def Z64:Type:=(LI×Z37)
@[reducible] def Z65:Type:=(Int×Z49)
@[reducible] def Z66:Type:=(Int×Z54)
@[reducible] def Z67:Type:=(Int×Z55)
@[reducible] def Z68:Type:=(Z31 ⊕ (Int×Unit))
@[reducible] def Z69:Type:=(Int×Z56)
@[reducible] def Z70:Type:=(Int×Z58)
@[reducible] def Z71:Type:=(Z15 ⊕ Z0)
@[reducible] def Z72:Type:=(LI×Z45)
@[reducible] def Z73:Type:=(Int×Z59)
@[reducible] def Z74:Type:=(LI×Z50)
@[reducible] def Z75:Type:=(LI×Z53)
@[reducible] def Z76:Type:=(LI×Z54)
@[reducible] def Z77:Type:=(Int×Z63)
@[reducible] def Z78:Type:=(Int×Z61)
@[reducible] def Z79:Type:=(Int×Z64)
@[reducible] def Z80:Type:=(Int×Z66)
@[reducible] def Z81:Type:=(LI×Z57)
@[reducible] def Z82:Type:=(Int×Z67)
@[reducible] def Z83:Type:=(Z6×Z20)
@[reducible] def Z84:Type:=(Int×Z69)
@[reducible] def Z85:Type:=(Z7×Z20)
@[reducible] def Z86:Type:=(Int×Z72)
@[reducible] def Z87:Type:=(Int×Z76)
@[reducible] def Z88:Type:=(Int×Z77)
@[reducible] def Z89:Type:=(Int×Z79)
@[reducible] def Z90:Type:=(Int×Z80)
@[reducible] def Z91:Type:=(Int×Z81)
@[reducible] def Z92:Type:=(Int×Z84)
@[reducible] def Z93:Type:=(Int×Z89)
@[reducible] def Z94:Type:=(Z16×Z34)
@[reducible] def Z95:Type:=(LI×Z85)
@[reducible] def Z96:Type:=(Z8×Z60)
@[reducible] def Z97:Type:=(Int×Z95)
@[reducible] def Z98:Type:=(Z5×Z74)
@[reducible] def Z99:Type:=(Int×Z97)
@[reducible] def c6r:Type:=(Z96×Unit)
@[reducible] def c6s:Type:=(Z6×Z83)
@[reducible] def d6j:Type:=(LI×Z98)
@[reducible] def c2w:Type:=(LI×Z99)
@[reducible] def d6k:Type:=(LI×d6j)
@[reducible] def d6l:Type:=(Int×d6k)
@[reducible] def d6m:Type:=(Int×d6l)
@[reducible] def d6n:Type:=(Int×d6m)
@[reducible] def d6o:Type:=(Int×d6n)
@[reducible] def a1B:Type:=(Int×d6o)
@[reducible] def a9D:Type:=(List a1B)
@[reducible] def b3z:Type:=(a1B×Int)
@[reducible] def b4n:Type:=(a1B×Unit)
@[reducible] def c9F:Type:=(a9D×Unit)
@[reducible] def d3c:Type:=(Bool×b4n)
@[reducible] def c2x:Type:=(Int×d3c)
@[reducible] def c6t:Type:=(a9D×(LI×Unit))
@[reducible] def d6p:Type:=(Z7×b4n)
@[reducible] def d3d:Type:=(Z15×b4n)
@[reducible] def c6u:Type:=(a1B×Z37)
@[reducible] def c6v:Type:=(Int×d6p)
@[reducible] def d6q:Type:=(Z16×c9F)
@[reducible] def c9G:Type:=(Int×d3d)
@[reducible] def b3A:Type:=(Int×c6v)
@[reducible] def b9n:Type:=(Int×c9G)
@[reducible] def d6r:Type:=(Z8×d6q)
@[reducible] def d6s:Type:=(Int×d6r)
@[reducible] def a1V:Type:=(Int×d6s)
@[reducible] def a2U:Type:=(List a1V)
@[reducible] def b3B:Type:=(a1V×Unit)
@[reducible] def b4o:Type:=(List a2U)
@[reducible] def c6w:Type:=(a2U×Unit)
@[reducible] def c2y:Type:=(Z13×b3B)
@[reducible] def d6t:Type:=(Z5×c6w)
@[reducible] def b9o:Type:=(a1V×Z37)
@[reducible] def d6u:Type:=(Int×d6t)
@[reducible] def d6v:Type:=(Int×d6u)
@[reducible] def b1W:Type:=(a1B×b4n)
@[reducible] def d6w:Type:=(Int×b1W)
@[reducible] def c6x:Type:=(Int×d6w)
@[reducible] def a3X:Type:=(Z8×d6v)
@[reducible] def b0W:Type:=(a3X×Unit)
@[reducible] def d3e:Type:=(Int×b0W)
@[reducible] def c2z:Type:=(LI×b0W)
@[reducible] def c2A:Type:=(Int×d3e)
@[reducible] def d6x:Type:=(Z25×b0W)
@[reducible] def c6y:Type:=((List LI)×d6x)
@[reducible] def Q0:Ty:=(.pair QI .unit)
@[reducible] def Q1:Ty:=(.pair (.list true QI) .unit)
@[reducible] def Q2:Ty:=(.pair QL .unit)
@[reducible] def Q3:Ty:=(.pair QI Q0)
@[reducible] def Q4:Ty:=(.pair QU Q0)
@[reducible] def Q5:Ty:=(.pair (.nl QL) .unit)
@[reducible] def Q6:Ty:=(.pair (.list true (.list true QI)) .unit)
@[reducible] def Q7:Ty:=(.pair (.list true QL) .unit)
@[reducible] def Q8:Ty:=(.pair (.list false QL) .unit)
@[reducible] def Q9:Ty:=(.pair (.list true QV) Q0)
@[reducible] def Q10:Ty:=(.pair QI Q1)
@[reducible] def Q11:Ty:=(.pair QI Q2)
@[reducible] def Q12:Ty:=(.pair QI Q3)
@[reducible] def Q13:Ty:=(.pair QI Q4)
@[reducible] def Q14:Ty:=(.pair (.list true QI) Q1)
@[reducible] def Q15:Ty:=(.pair QI Q8)
@[reducible] def Q16:Ty:=(.pair QB Q3)
@[reducible] def Q17:Ty:=(.pair QI Q14)
@[reducible] def Q18:Ty:=(.pair (.list true QI) Q13)
@[reducible] def Q19:Ty:=(.pair QL Q13)
@[reducible] def Q20:Ty:=(.pair Q11 Q2)
@[reducible] def Q21:Ty:=(.pair (.list true QI) Q18)
@[reducible] def Q22:Ty:=(.pair QL Q19)
@[reducible] def Q23:Ty:=(.pair (.nl QI) Q20)
@[reducible] def Q24:Ty:=(.pair QL Q20)
@[reducible] def Q25:Ty:=(.pair (.list true Q3) Q23)
@[reducible] def Q26:Ty:=(.pair Q12 Q21)
@[reducible] def Q27:Ty:=(.pair Q12 Q22)
@[reducible] def Q28:Ty:=(.pair (.list false Q3) Q24)
@[reducible] def Q29:Ty:=(.pair (.arr 3 QI) Q25)
@[reducible] def Q30:Ty:=(.pair (.arr 3 QI) Q28)
@[reducible] def Q31:Ty:=(.pair (.list true QI) Q29)
@[reducible] def Q32:Ty:=(.pair QL Q30)
@[reducible] def Q33:Ty:=(.pair QI Q31)
@[reducible] def Q34:Ty:=(.pair QI Q32)
@[reducible] def Q35:Ty:=(.pair QI Q33)
@[reducible] def Q36:Ty:=(.pair QI Q34)
@[reducible] def Q37:Ty:=(.pair QI Q35)
@[reducible] def Q38:Ty:=(.pair QI Q36)
@[reducible] def Q39:Ty:=(.pair QI Q37)
@[reducible] def Q40:Ty:=(.pair QI Q38)
@[reducible] def Q41:Ty:=(.pair QI Q39)
@[reducible] def Q42:Ty:=(.pair QI Q40)
@[reducible] def Q43:Ty:=(.pair (.nl Q42) .unit)
@[reducible] def Q44:Ty:=(.pair (.list true Q42) .unit)
@[reducible] def Q45:Ty:=(.pair (.list false Q42) .unit)
@[reducible] def Q46:Ty:=(.pair (.nl Q12) Q43)
@[reducible] def Q47:Ty:=(.pair (.list true Q12) Q43)
@[reducible] def Q48:Ty:=(.pair (.list false Q12) Q44)
@[reducible] def Q49:Ty:=(.pair (.list false Q12) Q45)
@[reducible] def Q50:Ty:=(.pair Q12 Q46)
@[reducible] def Q51:Ty:=(.pair Q12 Q47)
@[reducible] def Q52:Ty:=(.pair Q12 Q48)
@[reducible] def Q53:Ty:=(.pair Q12 Q49)
@[reducible] def Q54:Ty:=(.pair QI Q50)
@[reducible] def Q55:Ty:=(.pair QI Q51)
@[reducible] def Q56:Ty:=(.pair QI Q52)
@[reducible] def Q57:Ty:=(.pair QI Q53)
@[reducible] def Q58:Ty:=(.pair QI Q55)
@[reducible] def Q59:Ty:=(.pair QI Q56)
@[reducible] def Q60:Ty:=(.pair QI Q57)
@[reducible] def Q61:Ty:=(.pair (.nl Q60) .unit)
@[reducible] def Q62:Ty:=(.pair (.list true Q60) .unit)
@[reducible] def Q63:Ty:=(.pair (.list false Q60) .unit)
@[reducible] def Q64:Ty:=(.pair (.nl Q3) Q61)
@[reducible] def Q65:Ty:=(.pair (.list true Q3) Q62)
@[reducible] def Q66:Ty:=(.pair (.list false Q3) Q63)
@[reducible] def Q67:Ty:=(.pair QU Q64)
@[reducible] def Q68:Ty:=(.pair QU Q65)
@[reducible] def Q69:Ty:=(.pair QU Q66)
@[reducible] def Q70:Ty:=(.pair QI Q67)
@[reducible] def Q71:Ty:=(.pair QI Q68)
@[reducible] def Q72:Ty:=(.pair QI Q69)
@[reducible] def Q73:Ty:=(.pair Q12 Q71)
@[reducible] def Q74:Ty:=(.pair Q12 Q72)
def c2q:List (Nat×Ty):=[(2,.int .i64),(3,.int .i64),(5,.int .u8),(9,.str),(23,.pair QI Q3),(24,.list false QI),(27,.list false QV),(28,.int .u64),(29,.list false Q3),(30,.list false Q60),(32,.pair Q12 Q72),(36,.pair QI Q0),(38,.int .i64),(48,.list false QL),(50,.pair QI Q8),(53,.list false Q12),(54,.list false Q42),(56,.pair QI Q57),(68,.int .u64),(83,.pair Q12 Q22),(90,.pair QI Q0),(91,.list false QB),(92,.list false Q15),(97,.list false .str),(103,.arr 3 QI),(104,.list false Q3),(106,.pair QI Q2),(108,.pair QI Q40),(113,.pair QB Q0),(119,.int .u16),(142,.int .u32),(147,.pair QI Q3),(162,.pair QI Q0),(165,.list false QU),(172,.pair QB Q3),(183,.list false (.list false Q60)),(190,.pair QB Q3),(223,.arr 64 QV),(249,.list false (.arr 3 QI)),(255,.pair QI (.pair QL Q2))]
def T0:Nat→Option Ty:=fun t=>find c2q t
def c6z:List Nat:=[23,103]
def d6y:Nat→Bool:=fun t=>c6z.contains t
def c2B:List Nat:=[]
def d6z:Nat→Bool:=fun t=>c2B.contains t
def b1o:(List Int):=[0,1,56,2,57,49,28,3,61,58,42,50,38,29,17,4,62,47,59,36,45,43,51,22,53,39,33,30,24,18,12,5,63,55,48,27,60,41,37,16,46,35,44,21,52,32,23,11,54,26,40,15,34,20,31,10,25,14,19,9,13,8,7,6]
def G0:Nat→Option ((t:Ty)×t.den):=fun g=>find ([(0,⟨.arr 64 QV,b1o⟩)]:List (Nat×((t:Ty)×t.den))) g
@[reducible] def b5B(a:List (Nat×FSem))(b:List (Nat×Ty))(c d:Nat):Cx:=⟨d6z,d6y,T0,fun f=>find a f,fun n=>find b n,c.testBit,d.testBit,G0⟩
def a7b(x:Int):Option Bool:=cond (decide (4≤x)) (some (decide (x≤24))) (some false)
def c1z:FSem:=⟨[.v QI],[.v .bool],a7b⟩
def a2d(x:Z8):Option Bool:=cond (decide (1≤x.1)) (cond (decide (x.1≤1048576)) (cond (decide (1≤x.2.1)) (cond (decide (x.2.1≤8)) ((a7b x.2.2.1).bind fun y1=>some y1) (some false)) (some false)) (some false)) (some false)
def c1A:FSem:=⟨[.v Q12],[.v .bool],a2d⟩
def a5T(x:LI):Option Z15:=cond (lim (a02 x)) (some (x,0,0,())) none
def c4G:FSem:=⟨[.v QB],[.b Q16],a5T⟩
def a5Z(s:Z31):Option (Z31 ⊕ (Unit ⊕ Z8)):=(fun(a:Int)(b:LI)(c d:Int)=>cond (decide (d<c)) ((m0k b d).bind fun x1=>(show Option (Int×Int×Int×Z36)from cond (d==9) (cond (decide (x1 > 1)) (some (a,d,x1,b,c,d,true,())) (cond (decide (d > 0)) (some (a,d,x1,b,c,d,x1==0,())) (some (a,d,x1,b,c,d,false,())))) (cond (decide (d > 0)) (some (a,d,x1,b,c,d,x1==0,())) (some (a,d,x1,b,c,d,false,())))).bind fun z2=>cond z2.2.2.2.2.2.2.1 (some (.inr (Sum.inr ((0,0,2,()))))) (cond (decide ((wrap .i64 (7*z2.2.1))<0)) none (cond (decide (z2.2.2.1<128)) (some (.inr (Sum.inr ((bits .u64 .or z2.1 (A0n .u64 (wrap .u64 (a06 z2.2.2.1 128)) (wrap .i64 (7*z2.2.1))),wrap .i64 (z2.2.1+1),0,()))))) (some (.inl (bits .u64 .or z2.1 (A0n .u64 (wrap .u64 (a06 z2.2.2.1 128)) (wrap .i64 (7*z2.2.1))),z2.2.2.2.1,z2.2.2.2.2.1,wrap .i64 (z2.2.2.2.2.2.1+1),())))))) (some (.inr (Sum.inl ())))) s.1 s.2.1 s.2.2.1 s.2.2.2.1
def a8u(x:LI):Option (Int×Int×Int):=(y0s a5Z (0,x,(x.length:Int),0,())).bind fun w3=>match w3 with |.inl a4=>some (0,0,3) |.inr b5=>some (b5.1,b5.2.1,b5.2.2.1)
def b9p:FSem:=⟨[.v QB],[.v QU,.v QI,.v QI],a8u⟩
def d6A:Hints:=⟨[(58,[.sv 5 QU,.sv 8 QB,9,10],[Qe 0 [],Qr [.sv 2 QU,3,4]])],[(7474,[Qn [.sv 5 QU,6,.sv 7 QV,.sv 8 QB,9,10,.sv 28 .bool]])],[]⟩
def a0S(x:Z32):Option Z31:=cond (x.1.2.2.1 != 0) (some (0,x.1)) (cond ((decide (0≤x.1.2.1))&&(decide (x.1.2.1≤(x.1.1.length:Int)))) ((a8u (a09 (a00 x.1.2.1) (a07 (a02 x.1.1) x.1.1))).bind fun y1=>(show Option Z82 from cond (y1.2.2==0) (cond (decide (y1.1 > x.2)) (some (y1.1,y1.2.1,4,x.1,())) (some (y1.1,y1.2.1,y1.2.2,x.1,()))) (some (y1.1,y1.2.1,y1.2.2,x.1,()))).bind fun z2=>cond (z2.2.2.1 != 0) (some (0,z2.2.2.2.1.1,z2.2.2.2.1.2.1,z2.2.2.1,z2.2.2.2.1.2.2.2)) (some (z2.1,z2.2.2.2.1.1,wrap .i64 (z2.2.2.2.1.2.1+z2.2.1),z2.2.2.2.1.2.2))) none)
def b5C:FSem:=⟨[.r false (.b Q16),.v QU],[.v QU],a0S⟩
def H79:Hints:=⟨[],[(15,[Qn [.sv 5 QU,6,7,.box pinned Q16,Qp 0 pinned]])],[(3,[.p,.p,.q,.q,.p,.p,.q,.q,.x,.x,.x,.v,.v,.v,.v,.v,.x])]⟩
def a3E(x:Z15):Option Z31:=some (x.2.2.1,x)
def b5D:FSem:=⟨[.r false (.b Q16)],[.v QI],a3E⟩
def a1P(x:Z15):Option Z31:=some (wrap .i64 ((x.1.length:Int)-x.2.1),x)
def b5t:FSem:=⟨[.r false (.b Q16)],[.v QI],a1P⟩
def H81:Hints:=⟨[],[],[(1,[.p,.p,.q,.q,.v,.p,.p,.q,.q,.x,.x])]⟩
def a5b(x:Z32):Option Z43:=cond (x.1.2.2.1 != 0) (some ([],x.1)) ((a1P x.1).bind fun y1=>cond (decide ((v0r x.2 0) > y1.1)) (some ([],y1.2.1,y1.2.2.1,3,y1.2.2.2.2)) (cond ((decide (0≤(wrap .i64 (y1.2.2.1+(v0r x.2 0)))))&&(decide ((wrap .i64 (y1.2.2.1+(v0r x.2 0)))≤(y1.2.1.length:Int)))) (cond ((decide (0≤y1.2.2.1))&&(decide (y1.2.2.1≤((a00 (wrap .i64 (y1.2.2.1+(v0r x.2 0))):Nat):Int)))) (cond (lim (a02 (a09 (a00 y1.2.2.1) (a07 (a00 (wrap .i64 (y1.2.2.1+(v0r x.2 0)))) y1.2.1)))) (some (a09 (a00 y1.2.2.1) (a07 (a00 (wrap .i64 (y1.2.2.1+(v0r x.2 0)))) y1.2.1),y1.2.1,wrap .i64 (y1.2.2.1+(v0r x.2 0)),y1.2.2.2)) none) none) none))
def b5u:FSem:=⟨[.r false (.b Q16),.v QI],[.o QV],a5b⟩
def d6B:Hints:=⟨[],[],[(7,[.p,.p,.q,.q,.p,.p,.q,.q,.p,.p,.q,.q,.v,.v,.x,.x,.x])]⟩
def a3Y(x:Int):Option Int:=some (v0s (v0r x 0) 8)
def c1B:FSem:=⟨[.v QI],[.v QI],a3Y⟩
def a3N(s:Z93):Option (Z93 ⊕ Z55):=(fun(a:Int)(b:LI)(c:Z15)=>cond (decide (a<s.2.1)) (cond ((decide (0≤a))&&(decide (a<(b.length:Int)))) (some (.inl (wrap .u64 ((wrap .u64 (s.1*256))+(wrap .u64 (a04 b (a00 a) 0))),s.2.1,wrap .i64 (a+1),b,c,()))) none) (some (.inr (s.1,c,())))) s.2.2.1 s.2.2.2.1 s.2.2.2.2.1
def a3F(x:Z32):Option Z31:=(a3Y x.2).bind fun y1=>(a5b (x.1,y1)).bind fun y2=>(y0s a3N (0,(y2.1.length:Int),0,y2.1,y2.2,())).bind fun w3=>some (w3.1,w3.2.1)
def b5E:FSem:=⟨[.r false (.b Q16),.v QI],[.v QU],a3F⟩
def H82:Hints:=⟨[(58,[.sv 5 QU,12,13,.own 11 1011 QV,.box pinned Q16],[Qe 0 [.sv 5 QU,.box pinned Q16]])],[],[]⟩
def a4e(x:Z15):Option Z31:=some (x.2.1,x)
def b6x:FSem:=⟨[.r false (.b Q16)],[.v QI],a4e⟩
def a7L(s:Z48):Option (Z48 ⊕ Z31):=(fun(a:Int)(b:LI)(c d e:Int)=>cond (decide (e<8)) (cond ((bits .u32 .and a 1)==1) (some (.inl (bits .u32 .xor (A0o .u32 a 1) 3988292384,b,c,d,wrap .i64 (e+1),()))) (some (.inl (A0o .u32 a 1,b,c,d,wrap .i64 (e+1),())))) (some (.inr (a,b,c,d,())))) s.1 s.2.1 s.2.2.1 s.2.2.2.1 s.2.2.2.2.1
def a5c(s:Z31):Option Z68:=(fun(a b:Int)=>cond (decide (b<a)) ((m0k s.2.1 b).bind fun x1=>(y0s a7L (bits .u32 .xor s.1 (wrap .u32 x1),s.2.1,a,b,0,())).bind fun w2=>some (.inl (w2.1,w2.2.1,w2.2.2.1,wrap .i64 (w2.2.2.2.1+1),()))) (some (.inr (s.1,())))) s.2.2.1 s.2.2.2.1
def a4I(x:LI):Option Int:=(y0s a5c (4294967295,x,(x.length:Int),0,())).bind fun w3=>some (bits .u32 .xor (IntKind.max .u32) w3.1)
def b7n:FSem:=⟨[.v QB],[.v (.int .u32)],a4I⟩
def H84:Hints:=⟨[(58,[.sv 3 (.int .u32),.sv 7 QB,8,9],[Qe 0 [.sv 3 (.int .u32)]]),(29902,[.sv 3 (.int .u32),.sv 7 QB,8,9,17],[Qe 2 [.sv 3 (.int .u32),.sv 7 QB,8,9]])],[],[]⟩
def a5s(s:(LI×(Int×Int×Z96×Z96×Z37))):Option ((LI×(Int×Int×Z96×Z96×Z37)) ⊕ (LI×(Z96×Z96×Z37))):=(fun(a:Int)(b c:Z96)(d:Z15)=>cond (decide (a<s.2.1)) ((a0S (d,1048704)).bind fun y6=>cond (lim ((a02 c.2.1)+1)) ((a0S (y6.2,4096)).bind fun y7=>cond (lim ((a02 c.2.2.1)+1)) (some (.inl (s.1,s.2.1,wrap .u64 (a+1),b,(c.1,a03 c.2.1 [wrap .i64 y6.1],a03 c.2.2.1 [wrap .i64 y7.1],c.2.2.2),y7.2,()))) none) none) (some (.inr (s.1,b,c,d,())))) s.2.2.1 s.2.2.2.1 s.2.2.2.2.1 s.2.2.2.2.2.1
def a5t(s:(Int×Int×Z96×c6r)):Option ((Int×Int×Z96×c6r) ⊕ ((Z96×c6r) ⊕ (Int×c6r))):=(fun(a:Int)(b c:Z96)=>cond (decide (a<s.1)) (cond ((decide (0≤a))&&(decide (a<(c.2.2.1.length:Int)))) (cond ((a04 c.2.2.1 (a00 a) 0)==0) (some (.inr (Sum.inr ((2,((0,0,0,()),[],[],0,0,0,()),()))))) (some (.inl (s.1,wrap .i64 (a+1),b,(c.1,c.2.1,c.2.2.1,wrap .i64 (c.2.2.2.1+(a04 c.2.2.1 (a00 a) 0)),c.2.2.2.2),())))) none) (some (.inr (Sum.inl (b,c,()))))) s.2.1 s.2.2.1 s.2.2.2.1
def a5u(x:LI):Option (Z96×Int):=cond (decide ((x.length:Int)<4)) (some (((0,0,0,()),[],[],0,0,0,()),3)) (cond (decide (4≤(x.length:Int))) (cond ((b2s (a07 4 x)) != [75,78,83,68]) (some (((0,0,0,()),[],[],0,0,0,()),2)) (cond (decide (4≤(x.length:Int))) ((a5T (a09 4 (a07 (a02 x) x))).bind fun y1=>(a0S (y1,1048576)).bind fun y2=>(a0S (y2.2,8)).bind fun y3=>(a0S (y3.2,24)).bind fun y4=>(a0S (y4.2,4096)).bind fun y5=>(y0s a5s (x,y5.1,0,((0,0,0,()),[],[],0,0,0,()),((wrap .i64 y2.1,wrap .i64 y3.1,wrap .i64 y4.1,()),[],[],0,0,0,()),y5.2,())).bind fun w8=>(a3E w8.2.2.2.1).bind fun y9=>cond (y9.1 != 0) (some (((0,0,0,()),[],[],0,0,0,()),y9.1)) ((a1P y9.2).bind fun y10=>cond (decide (y10.1<12)) (some (((0,0,0,()),[],[],0,0,0,()),3)) ((a3F (y10.2,8)).bind fun y11=>(a4e y11.2).bind fun y12=>cond ((decide (0≤(wrap .i64 (4+y12.1))))&&(decide ((wrap .i64 (4+y12.1))≤(w8.1.length:Int)))) ((a4I (a07 (a00 (wrap .i64 (4+y12.1))) w8.1)).bind fun y13=>(a3F (y12.2,4)).bind fun y14=>cond ((wrap .u64 y13) != y14.1) (some (((0,0,0,()),[],[],0,0,0,()),5)) ((a2d w8.2.2.1.1).bind fun y15=>cond (!y15) (some (((0,0,0,()),[],[],0,0,0,()),2)) ((y0s a5t ((w8.2.2.1.2.2.1.length:Int),0,w8.2.1,(w8.2.2.1.1,w8.2.2.1.2.1,w8.2.2.1.2.2.1,w8.2.2.1.2.2.2.1,y11.1,wrap .i64 ((wrap .i64 (4+y12.1))+4),w8.2.2.1.2.2.2.2.2.2),())).bind fun w16=>match w16 with |.inl a17=>(cond (decide (a17.2.1.2.2.2.1 > 4194304)) (some (((0,0,0,()),[],[],0,0,0,()),2)) (some (a17.2.1,0))) |.inr b18=>some (b18.2.1,b18.1)))) none))) none)) none)
def b7W:FSem:=⟨[.v QB],[.v Q27,.v QI],a5u⟩
def H37:Hints:=⟨[(4090,[.sv 0 QB,.sv 38 QU,.sv 39 QU,.box 2 Q27,.box 4 Q26,.box 1021 Q16,Qp 2 2,Qp 4 4,Qp 5 1021],[Qe 0 [.sv 0 QB,.box 2 Q27,.box 4 Q26,.box 1021 Q16,Qp 2 2,Qp 4 4,Qp 5 1021]]),(1048570,[93,94,.box 2 Q27,.box 4 Q26,Qp 2 2,Qp 4 4,.ref 92 4 [.snd,.snd,.fst]],[Qe 2 [.box 2 Q27,.box 4 Q26,Qp 2 2,Qp 4 4],Qr [3,.box 2 Q27,Qp 2 2]])],[],[(12,[.r [4,41],.r [4,42],.q,.w [44,1021,1044],.v,.q,.x,.x,.x]),(13,[.r [4,49],.r [4,50],.q,.w [52,1021,1052],.v,.q,.x,.x,.x])]⟩
def a3u(x:Z13):Option Int:=cond ((x.2.1.length:Int)==0) (some 0) ((m0k x.2.1 0).bind fun x1=>some (x1.length:Int))
def c4H:FSem:=⟨[.v Q15],[.v QI],a3u⟩
def b2E(x:Int):Option Int:=(show Option (Int×Bool×Unit)from cond (decide (x<1)) (some (x,true,())) (some (x,decide (x > 31),()))).bind fun z1=>cond z1.2.1 (some 0) (cond (decide ((wrap .i64 (z1.1-1))<0)) none (some (A0n .i64 (-1) (wrap .i64 (z1.1-1)))))
def c2C:FSem:=⟨[.v QI],[.v QI],b2E⟩
def d6C:Hints:=⟨[],[(6,[Qn [0,.sv 8 .bool]])],[]⟩
def b1X(x:Int):Option Int:=(show Option (Int×Bool×Unit)from cond (decide (x<1)) (some (x,true,())) (some (x,decide (x > 31),()))).bind fun z1=>cond z1.2.1 (some 0) (cond (decide ((wrap .i64 (z1.1-1))<0)) none (some (wrap .i64 ((A0n .i64 1 (wrap .i64 (z1.1-1)))-1))))
def c1C:FSem:=⟨[.v QI],[.v QI],b1X⟩
def d6D:Hints:=⟨[],[(6,[Qn [0,.sv 8 .bool]])],[]⟩
def a2e(x:(Int×Int)):Option Bool:=cond (decide (x.2≥1)) (cond (decide (x.2≤31)) ((b2E x.2).bind fun y1=>cond (decide (y1≤x.1)) ((b1X x.2).bind fun y2=>some (decide (x.1≤y2))) (some false)) (some false)) (some false)
def c1D:FSem:=⟨[.v QI,.v QI],[.v .bool],a2e⟩
def a4x(s:((List LI)×(Int×(Int×(LI×Z65))))):Option (((List LI)×(Int×(Int×(LI×Z65)))) ⊕ (((List LI)×Z65) ⊕ (Bool×Unit))):=(fun(a:Int)(b:LI)(c d:Int)(e:Z13)=>cond (decide (d<c)) ((m0k b d).bind fun x8=>(a2e (x8,e.1)).bind fun y9=>cond (!y9) (some (.inr (Sum.inr ((false,()))))) (some (.inl (s.1,s.2.1,a,b,c,wrap .i64 (d+1),e,())))) (some (.inr (Sum.inl (s.1,s.2.1,a,e,()))))) s.2.2.1 s.2.2.2.1 s.2.2.2.2.1 s.2.2.2.2.2.1 s.2.2.2.2.2.2.1
def a4y(s:((List LI)×Z65)):Option (((List LI)×Z65) ⊕ Z0):=cond (decide (s.2.2.1<s.2.1)) ((m0k s.1 s.2.2.1).bind fun x6=>(a3u s.2.2.2.1).bind fun y7=>cond ((x6.length:Int) != y7) (some (.inr (Sum.inr ((false,()))))) ((y0s a4x (s.1,s.2.1,s.2.2.1,x6,(x6.length:Int),0,s.2.2.2.1,())).bind fun w10=>match w10 with |.inl a11=>some (.inl (a11.1,a11.2.1,wrap .i64 (a11.2.2.1+1),a11.2.2.2.1,())) |.inr b12=>some (.inr (Sum.inr ((b12.1,())))))) (some (.inr (Sum.inl ())))
def a3v(x:Z13):Option Bool:=(show Option (Bool×Z34)from(a7b x.1).bind fun y1=>cond (!y1) (some (true,x,())) (cond (decide ((x.2.1.length:Int)<1)) (some (true,x,())) (some (decide ((x.2.1.length:Int) > 8),x,())))).bind fun z2=>cond z2.1 (some false) ((show Option (Bool×Z34)from(a3u z2.2.1).bind fun y3=>cond (decide (y3<1)) (some (true,z2.2.1,())) ((a3u z2.2.1).bind fun y4=>some (decide (y4 > 4096),z2.2.1,()))).bind fun z5=>cond z5.1 (some false) ((y0s a4y (z5.2.1.2.1,(z5.2.1.2.1.length:Int),0,z5.2.1,())).bind fun w13=>match w13 with |.inl a14=>some true |.inr b15=>some b15.1))
def c4I:FSem:=⟨[.v Q15],[.v .bool],a3v⟩
def H44:Hints:=⟨[(122,[.sv 32 (.list false QL),33,34,.vp 1 Q15],[Qe 0 [],Qr [.sv 2 .bool]]),(62670,[.sv 32 (.list false QL),33,34,.sv 43 QL,44,45,.vp 1 Q15],[Qe 2 [.sv 32 (.list false QL),33,34,.vp 1 Q15],Qr [.sv 2 .bool]])],[(6,[Qn [.sv 22 .bool,.vp 1 Q15]]),(14,[Qn [.sv 30 .bool,.vp 1 Q15]])],[]⟩
def a7c(s:(Int×Z16×Int×Int×Unit)):Option ((Int×Z16×Int×Int×Unit) ⊕ Z0):=(fun(a:Int)(b:Z16)(c d:Int)=>cond (decide (d<c)) ((m0k b d).bind fun x2=>(show Option (Int×Z16×Int×Int×Z41)from cond (decide (x2.1<0)) (some (a,b,c,d,true,x2,())) (cond (decide (x2.1≥a)) (some (a,b,c,d,true,x2,())) (cond (decide (x2.2.1<0)) (some (a,b,c,d,true,x2,())) (cond (decide (x2.2.1≥a)) (some (a,b,c,d,true,x2,())) (some (a,b,c,d,x2.1==x2.2.1,x2,())))))).bind fun z3=>cond z3.2.2.2.2.1 (some (.inr (Sum.inr ((false,()))))) ((show Option (Int×Z16×Z10)from cond (decide (z3.2.2.2.2.2.1.2.2.1<(-1024))) (some (z3.1,z3.2.1,z3.2.2.1,z3.2.2.2.1,true,())) (some (z3.1,z3.2.1,z3.2.2.1,z3.2.2.2.1,decide (z3.2.2.2.2.2.1.2.2.1 > 1024),()))).bind fun z4=>cond z4.2.2.2.2.1 (some (.inr (Sum.inr ((false,()))))) (some (.inl (z4.1,z4.2.1,z4.2.2.1,wrap .i64 (z4.2.2.2.1+1),()))))) (some (.inr (Sum.inl ())))) s.1 s.2.1 s.2.2.1 s.2.2.2.1
def a8v(x:(Z16×Int)):Option Bool:=(show Option (Z16×Int×Bool×Unit)from cond (decide (x.2<1)) (some (x.1,x.2,true,())) (cond (decide (x.2 > 8)) (some (x.1,x.2,true,())) (some (x.1,x.2,decide ((x.1.length:Int) > 16),())))).bind fun z1=>cond z1.2.2.1 (some false) ((y0s a7c (z1.2.1,z1.1,(z1.1.length:Int),0,())).bind fun w5=>match w5 with |.inl a6=>some true |.inr b7=>some b7.1)
def b7X:FSem:=⟨[.v (.list false Q12),.v QI],[.v .bool],a8v⟩
def H88:Hints:=⟨[(58,[1,.sv 18 (.list false Q12),19,20],[Qe 0 [],Qr [.sv 4 .bool]])],[(6,[Qn [.sv 0 (.list false Q12),1,.sv 17 .bool]]),(7474,[Qn [1,.sv 18 (.list false Q12),19,20,.sv 50 .bool,.box 6 Q12,Qp 6 6]]),(7475,[Qn [1,.sv 18 (.list false Q12),19,20,.sv 58 .bool]])],[]⟩
def a7d(x:a1V):Option Bool:=(a2d x.2.2.1).bind fun y1=>cond y1 (cond (decide (x.2.1≥1)) (cond (decide (x.2.1≤4096)) (cond (decide (x.1≥0)) (cond (decide (x.1≤(wrap .i64 (4194304-x.2.1)))) ((a8v (x.2.2.2.1,x.2.2.1.2.1)).bind fun y2=>some y2) (some false)) (some false)) (some false)) (some false)) (some false)
def c1E:FSem:=⟨[.v Q60],[.v .bool],a7d⟩
def a2M(s:Z15):Option Z71:=(fun(a b:Int)=>cond (decide (b<a)) ((m0k s.1 b).bind fun x1=>(show Option Z36 from cond (decide (x1<(-1073741824))) (some (s.1,a,b,true,())) (some (s.1,a,b,decide (x1≥1073741824),()))).bind fun z2=>cond z2.2.2.2.1 (some (.inr (Sum.inr ((false,()))))) (some (.inl (z2.1,z2.2.1,wrap .i64 (z2.2.2.1+1),())))) (some (.inr (Sum.inl ())))) s.2.1 s.2.2.1
def a2H(x:LI):Option Bool:=(y0s a2M (x,(x.length:Int),0,())).bind fun w3=>match w3 with |.inl a4=>some true |.inr b5=>some b5.1
def c1F:FSem:=⟨[.v QL],[.v .bool],a2H⟩
def H91:Hints:=⟨[(26,[.sv 5 QL,6,7],[Qe 0 [],Qr [.sv 2 .bool]])],[(1689,[Qn [.sv 5 QL,6,7,.sv 16 .bool]])],[]⟩
def a6j(x:Int):Option Bool:=cond (x != 0) (some (x != 1)) (some false)
def c2D:FSem:=⟨[.v QI],[.v .bool],a6j⟩
def a5v(s:Z15):Option Z71:=(fun(a b:Int)=>cond (decide (b<a)) ((m0k s.1 b).bind fun x2=>(show Option Z36 from cond (decide (x2<(-32768))) (some (s.1,a,b,true,())) (some (s.1,a,b,decide (x2≥32768),()))).bind fun z3=>cond z3.2.2.2.1 (some (.inr (Sum.inr ((false,()))))) (some (.inl (z3.1,z3.2.1,wrap .i64 (z3.2.2.1+1),())))) (some (.inr (Sum.inl ())))) s.2.1 s.2.2.1
def a4J(x:(LI×Int)):Option Bool:=(show Option (LI×(Bool×Unit))from cond (decide ((x.1.length:Int)<1)) (some (x.1,true,())) (cond (decide ((x.1.length:Int) > 32)) (some (x.1,true,())) (cond (decide (x.2<0)) (some (x.1,true,())) (some (x.1,decide (x.2 > 15),()))))).bind fun z1=>cond z1.2.1 (some false) ((y0s a5v (z1.1,(z1.1.length:Int),0,())).bind fun w4=>match w4 with |.inl a5=>some true |.inr b6=>some b6.1)
def c2E:FSem:=⟨[.v QL,.v QI],[.v .bool],a4J⟩
def d6E:Hints:=⟨[(58,[.sv 23 QL,24,25],[Qe 0 [],Qr [.sv 4 .bool]])],[(6,[Qn [.sv 0 QL,.sv 22 .bool]]),(3737,[Qn [.sv 23 QL,24,25,.sv 34 .bool]])],[]⟩
def a7e(s:Z7):Option (Z7 ⊕ Z0):=cond (decide (s.2.1<3)) ((m0k s.1 s.2.1).bind fun x2=>(show Option Z19 from cond (decide (x2<(-64))) (some (s.1,s.2.1,true,())) (some (s.1,s.2.1,decide (x2 > 64),()))).bind fun z3=>cond z3.2.2.1 (some (.inr (Sum.inr ((false,()))))) (some (.inl (z3.1,wrap .i64 (z3.2.1+1),())))) (some (.inr (Sum.inl ())))
def a8w(x:(Int×LI)):Option Bool:=(show Option Z9 from cond (decide (x.1<2)) (some (true,x.2,())) (some (decide (x.1 > 1024),x.2,()))).bind fun z1=>cond z1.1 (some false) ((y0s a7e (z1.2.1,0,())).bind fun w4=>match w4 with |.inl a5=>some true |.inr b6=>some b6.1)
def c6A:FSem:=⟨[.v QI,.v (.arr 3 QI)],[.v .bool],a8w⟩
def d6F:Hints:=⟨[(58,[.sv 13 (.arr 3 QI),14],[Qe 0 [],Qr [.sv 4 .bool]])],[(6,[Qn [.sv 12 .bool,.vp 3 (.arr 3 QI)]]),(3737,[Qn [.sv 13 (.arr 3 QI),14,.sv 22 .bool]])],[]⟩
def a7f(x:(Int×Int×Unit)):Option Bool:=cond (decide (x.1≥1)) (cond (decide (x.1≤32)) (cond (decide (x.2.1≥0)) (some (decide (x.2.1≤8))) (some false)) (some false)) (some false)
def c1G:FSem:=⟨[.v Q3],[.v .bool],a7f⟩
def a6k(s:(Z5×Int×Int×Unit)):Option ((Z5×Int×Int×Unit) ⊕ Z0):=cond (decide (s.2.2.1<s.2.1)) ((m0k s.1 s.2.2.1).bind fun x1=>(a7f x1).bind fun y2=>cond (!y2) (some (.inr (Sum.inr ((false,()))))) (some (.inl (s.1,s.2.1,wrap .i64 (s.2.2.1+1),())))) (some (.inr (Sum.inl ())))
def a7z(x:Z5):Option Bool:=cond (decide ((x.length:Int) > 3)) (some false) ((y0s a6k (x,(x.length:Int),0,())).bind fun w3=>match w3 with |.inl a4=>some true |.inr b5=>some b5.1)
def b6J:FSem:=⟨[.v (.list false Q3)],[.v .bool],a7z⟩
def d6G:Hints:=⟨[(58,[.sv 8 (.list false Q3),9,10],[Qe 0 [],Qr [.sv 2 .bool]])],[],[]⟩
def a8c(x:(Int×b3z)):Option Bool:=(show Option (Int×c2x)from cond (x.1==0) (some (x.2.2,x.1,x.1==0,x.2.1,())) (some (x.2.2,x.1,x.1==1,x.2.1,()))).bind fun z1=>cond z1.2.2.1 (some true) (cond (z1.2.1==2) (cond (decide (z1.2.2.2.1.2.2.1≥0)) (cond (decide (z1.2.2.2.1.2.2.1≤4)) (some (decide (z1.2.2.2.1.2.2.1≤z1.1))) (some false)) (some false)) (cond (z1.2.1==3) ((a4J (z1.2.2.2.1.2.2.2.2.2.1,z1.2.2.2.1.2.2.2.1)).bind fun y2=>cond y2 (some (decide ((z1.2.2.2.1.2.2.2.2.2.1.length:Int)≤z1.1))) (some false)) (cond (z1.2.1==4) ((a4J (z1.2.2.2.1.2.2.2.2.2.1,z1.2.2.2.1.2.2.2.1)).bind fun y3=>cond y3 (cond (decide ((z1.2.2.2.1.2.2.2.2.2.1.length:Int)≤z1.1)) ((a8w (z1.2.2.2.1.2.2.2.2.1,z1.2.2.2.1.2.2.2.2.2.2.1)).bind fun y4=>some y4) (some false)) (some false)) (cond (z1.2.1==5) (cond (decide ((z1.2.2.2.1.2.2.2.2.2.2.2.1.length:Int) > 0)) ((a7z z1.2.2.2.1.2.2.2.2.2.2.2.1).bind fun y5=>some y5) (some false)) (some false)))))
def c8i:FSem:=⟨[.v QI,.v Q42,.v QI],[.v .bool],a8c⟩
def d6H:Hints:=⟨[],[(26,[Qn [2,7,.sv 8 .bool,.vp 4 Q42]])],[]⟩
def a4K(x:b3z):Option Int:=cond (x.1.1==0) (some 1) (cond (x.1.1==1) (some x.2) (cond (x.1.1==2) (some x.1.2.2.1) ((show Option d3c from cond (x.1.1==3) (some (x.1.1==3,x.1,())) (some (x.1.1==4,x.1,()))).bind fun z1=>cond z1.1 (some (z1.2.1.2.2.2.2.2.1.length:Int)) (some 0))))
def c2F:FSem:=⟨[.v Q42,.v QI],[.v QI],a4K⟩
def d6I:Hints:=⟨[],[(1727,[Qn [.sv 16 .bool,.vp 2 Q42]])],[]⟩
def a1e(x:LI):Option LI:=x0e x
def a1R:FSem:=⟨[.v QL],[.o QI],a1e⟩
def d3f:Cx:=b5B [] [] 5 0
theorem d6J(x):A0j d3f QH Tryz.f65 a1R.ps a1R.rs x=a1R.F x:=Eq.trans (show _=w0u x by kernel_rfl) (A0x x)
def a2I(x:LI):Option LI:=x0e x
def a2J:FSem:=⟨[.v QL],[.v QL],a2I⟩
def d1z:Cx:=b5B [] [] 5 0
theorem d4E(x):A0j d1z QH Tryz.f65 a2J.ps a2J.rs x=a2J.F x:=Eq.trans (show _=w0u x by kernel_rfl) (A0x x)
def a1n(x:Z5):Option Z5:=x0e x
def a1o:FSem:=⟨[.v (.list false Q3)],[.v (.list false Q3)],a1n⟩
def c8j:Cx:=b5B [] [] 5 0
theorem d3g(x):A0j c8j QH Tryz.f170 a1o.ps a1o.rs x=a1o.F x:=Eq.trans (show _=w0u x by kernel_rfl) (A0x x)
def a6l(x:(Int×a1B)):Option a1B:=(show Option b1W from(show Option ((a1B×b1W) ⊕ (b1W ⊕ (a1B×b1W)))from cond (x.1==2) (some (Sum.inr (Sum.inl ((0,0,0,0,0,[],a01 3 0,[],[],(0,[],()),[],()),(x.1,0,x.2.2.2.1,0,0,[],a01 3 0,[],[],(0,[],()),[],()),())))) (cond (x.1==4) (some (Sum.inl ((0,0,0,0,0,[],a01 3 0,[],[],(0,[],()),[],()),(x.1,0,0,0,x.2.2.2.2.2.1,[],x.2.2.2.2.2.2.2.1,[],[],(0,[],()),[],()),x.2,()))) (cond (x.1==3) (some (Sum.inl ((0,0,0,0,0,[],a01 3 0,[],[],(0,[],()),[],()),(x.1,0,0,0,0,[],a01 3 0,[],[],(0,[],()),[],()),x.2,()))) (cond (x.1==5) (some (Sum.inr (Sum.inr (((0,0,0,0,0,[],a01 3 0,[],[],(0,[],()),[],()),(x.1,0,0,0,0,[],a01 3 0,[],[],(0,[],()),[],()),x.2,()))))) (some (Sum.inr (Sum.inl ((0,0,0,0,0,[],a01 3 0,[],[],(0,[],()),[],()),(x.1,0,0,0,0,[],a01 3 0,[],[],(0,[],()),[],()),())))))))).bind fun z1=>match z1 with |.inl a2=>((a2I a2.2.2.1.2.2.2.2.2.1).bind fun y4=>some (a2.1,(a2.2.1.1,a2.2.1.2.1,a2.2.1.2.2.1,a2.2.2.1.2.2.2.1,a2.2.1.2.2.2.2.1,y4,a2.2.1.2.2.2.2.2.2),())) |.inr b3=>(match b3 with |.inl a5=>some (a5.1,a5.2.1,()) |.inr b6=>((a1n b6.2.2.1.2.2.2.2.2.2.2.1).bind fun y7=>some (b6.1,(b6.2.1.1,b6.2.1.2.1,b6.2.1.2.2.1,b6.2.1.2.2.2.1,b6.2.1.2.2.2.2.1,b6.2.1.2.2.2.2.2.1,b6.2.1.2.2.2.2.2.2.1,y7,b6.2.1.2.2.2.2.2.2.2.2),())))).bind fun z8=>some z8.2.1
def c2G:FSem:=⟨[.v QI,.v Q42],[.v Q42],a6l⟩
def d6K:Hints:=⟨[],[(7,[Qn [.box 4 Q42,.box 5 Q42,Qp 4 4,Qp 5 5]]),(232,[Qn [.box 4 Q42,.box 5 Q42,.vp 3 Q42,Qp 4 4,Qp 5 5],Qe 0 [.box 4 Q42,.box 5 Q42,Qp 4 4,Qp 5 5],Qe 4 [.box 4 Q42,.box 5 Q42,.vp 3 Q42,Qp 4 4,Qp 5 5]])],[(8,[.v,.v,.v,.v,.q,.w [0,5],.x,.x]),(9,[.v,.v,.v,.v,.v,.q,.w [0,5],.x,.x])]⟩
def b1p(x:a1B):Option Bool:=(a6l (x.1,x)).bind fun y1=>cond (x.2.2.1==y1.2.2.1) (cond (x.2.2.2.1==y1.2.2.2.1) (cond (x.2.2.2.2.1==y1.2.2.2.2.1) (cond (eqT (.arr 3 (.int .i64)) x.2.2.2.2.2.2.1 y1.2.2.2.2.2.2.1) (cond ((x.2.2.2.2.2.1.length:Int)==(y1.2.2.2.2.2.1.length:Int)) (some ((x.2.2.2.2.2.2.2.1.length:Int)==(y1.2.2.2.2.2.2.2.1.length:Int))) (some false)) (some false)) (some false)) (some false)) (some false)
def c4J:FSem:=⟨[.v Q42],[.v .bool],b1p⟩
def a7A(x:(Int×Int)):Option Bool:=cond (decide (1≤x.1)) (cond (decide (x.1≤4096)) (cond (decide (0≤x.2)) (some (decide (x.2≤x.1))) (some false)) (some false)) (some false)
def c4K:FSem:=⟨[.v QI,.v QI],[.v .bool],a7A⟩
def a6J(s:Z17):Option (Z17 ⊕ (LI×Unit)):=(fun(a:LI)=>cond (decide (s.1<0)) none (cond (decide ((a.length:Int)<(A0n .i64 1 s.1))) (cond (lim ((a02 a)+1)) (some (.inl (s.1,s.2.1,a03 a [s.2.1],()))) none) (some (.inr (a,()))))) s.2.2.1
def a3h(x:(Int×Int×Int)):Option LI:=(show Option Z24 from(a7A (x.2.1,x.2.2)).bind fun y1=>cond (!y1) (some (x.1,x.2.1,x.2.2,true,())) (cond (decide (x.1<0)) (some (x.1,x.2.1,x.2.2,true,())) (some (x.1,x.2.1,x.2.2,decide (x.1 > 8),())))).bind fun z2=>cond z2.2.2.2.1 (some []) (cond (decide (z2.1<0)) none ((show Option Z24 from cond (decide (z2.1<0)) none (cond ((A0n .i64 (A0o .i64 z2.2.1 z2.1) z2.1) != z2.2.1) (some (z2.1,z2.2.2.1,A0o .i64 z2.2.1 z2.1,true,())) (some (z2.1,z2.2.2.1,A0o .i64 z2.2.1 z2.1,decide ((A0o .i64 z2.2.1 z2.1)<z2.2.2.1),())))).bind fun z3=>cond z3.2.2.2.1 (some []) ((y0s a6J (z3.1,z3.2.2.1,[wrap .i64 (z3.2.2.1-z3.2.1)],())).bind fun w4=>some w4.1)))
def c1H:FSem:=⟨[.v QI,.v QI,.v QI],[.o QI],a3h⟩
def d6L:Hints:=⟨[(252,[0,7,.own 8 8 QI],[Qe 0 [.own 8 8 QI]])],[(6,[Qn [0,1,2,.sv 20 .bool]]),(30,[Qn [0,2,7,.sv 33 .bool]])],[]⟩
def a4z(s:Z15):Option Z71:=(fun(a:LI)(b c:Int)=>cond (decide (c<b)) ((m0k a c).bind fun x3=>(show Option Z36 from cond (decide (x3<0)) (some (a,b,c,x3 != 31,())) (cond (decide (x3 > 25)) (some (a,b,c,x3 != 31,())) (some (a,b,c,false,())))).bind fun z4=>cond z4.2.2.2.1 (some (.inr (Sum.inr ((false,()))))) (some (.inl (z4.1,z4.2.1,wrap .i64 (z4.2.2.1+1),())))) (some (.inr (Sum.inl ())))) s.1 s.2.1 s.2.2.1
def a9g(x:(Z6×Int×Int)):Option Bool:=(a3h (x.1.1,x.2.1,x.2.2)).bind fun y1=>(show Option (Bool×Z20)from cond ((y1.length:Int)==0) (some (true,x.1,())) (some ((x.1.2.1.length:Int) != (y1.length:Int),x.1,()))).bind fun z2=>cond z2.1 (some false) ((y0s a4z (z2.2.1.2.1,(z2.2.1.2.1.length:Int),0,())).bind fun w5=>match w5 with |.inl a6=>some true |.inr b7=>some b7.1)
def c4L:FSem:=⟨[.v Q11,.v QI,.v QI],[.v .bool],a9g⟩
def d6M:Hints:=⟨[(122,[.sv 27 QL,28,29],[Qe 0 [],Qr [.sv 6 .bool]])],[(14,[Qn [.sv 25 .bool,.vp 3 Q11]]),(7833,[Qn [.sv 27 QL,28,29,.sv 42 .bool]])],[]⟩
def a9T(x:b3z):Option Bool:=(show Option c2x from cond (decide (x.2<1)) (some (x.2,true,x.1,())) (cond (decide (x.2 > 4096)) (some (x.2,true,x.1,())) ((a8c (x.1.1,x.1,x.2)).bind fun y1=>cond (!y1) (some (x.2,true,x.1,())) ((b1p x.1).bind fun y2=>some (x.2,!y2,x.1,()))))).bind fun z3=>cond z3.2.1 (some false) ((show Option c2x from cond (decide (z3.2.2.1.2.1<0)) (some (z3.1,true,z3.2.2.1,())) (cond (decide (z3.2.2.1.2.1 > 30)) (some (z3.1,true,z3.2.2.1,())) (cond (z3.2.2.1.1==0) (some (z3.1,z3.2.2.1.2.1 != 0,z3.2.2.1,())) (some (z3.1,false,z3.2.2.1,()))))).bind fun z4=>cond z4.2.1 (some false) ((a4K (z4.2.2.1,z4.1)).bind fun y5=>(show Option (Int×c2x)from cond ((z4.2.2.1.2.2.2.2.2.2.2.2.1.length:Int) != y5) (some (z4.1,y5,true,z4.2.2.1,())) ((a2H z4.2.2.1.2.2.2.2.2.2.2.2.1).bind fun y6=>cond (!y6) (some (z4.1,y5,true,z4.2.2.1,())) ((a2H z4.2.2.1.2.2.2.2.2.2.2.2.2.2.1).bind fun y7=>some (z4.1,y5,!y7,z4.2.2.1,())))).bind fun z8=>cond z8.2.2.1 (some false) ((a6j z8.2.2.2.1.1).bind fun y9=>cond (!y9) (cond ((z8.2.2.2.1.2.2.2.2.2.2.2.2.2.2.1.length:Int)==0) (cond (z8.2.2.2.1.2.2.2.2.2.2.2.2.2.1.1==0) (some ((z8.2.2.2.1.2.2.2.2.2.2.2.2.2.1.2.1.length:Int)==0)) (some false)) (some false)) (cond ((z8.2.2.2.1.2.2.2.2.2.2.2.2.2.2.1.length:Int)==(wrap .i64 (z8.1-z8.2.1))) ((a9g (z8.2.2.2.1.2.2.2.2.2.2.2.2.2.1,z8.1,z8.2.1)).bind fun y10=>some y10) (some false)))))
def c2H:FSem:=⟨[.v Q42,.v QI],[.v .bool],a9T⟩
def d6N:Hints:=⟨[],[(6,[Qn [1,.sv 24 .bool,.vp 2 Q42]]),(14,[Qn [1,.sv 42 .bool,.vp 2 Q42]]),(62,[Qn [1,5,.sv 62 .bool,.vp 2 Q42]])],[]⟩
def b3c(s:Z15):Option Z71:=(fun(a b:Int)=>cond (decide (b<a)) ((m0k s.1 b).bind fun x1=>(show Option Z36 from cond (decide (x1<(-1073741824))) (some (s.1,a,b,true,())) (some (s.1,a,b,decide (x1≥1073741824),()))).bind fun z2=>cond z2.2.2.2.1 (some (.inr (Sum.inr ((false,()))))) (some (.inl (z2.1,z2.2.1,wrap .i64 (z2.2.2.1+1),())))) (some (.inr (Sum.inl ())))) s.2.1 s.2.2.1
def a2V(x:LI):Option Bool:=(y0s b3c (x,(x.length:Int),0,())).bind fun w3=>match w3 with |.inl a4=>some true |.inr b5=>some b5.1
def c2I:FSem:=⟨[.v QL],[.v .bool],a2V⟩
def d6O:Hints:=⟨[(26,[.sv 5 QL,6,7],[Qe 0 [],Qr [.sv 2 .bool]])],[(1689,[Qn [.sv 5 QL,6,7,.sv 16 .bool]])],[]⟩
def a1j(x:(Int×LI)):Option (Int×LI):=(m0k x.2 (wrap .i64 ((x.2.length:Int)-x.1))).bind fun x1=>some (x1,x.2)
def b7Y:FSem:=⟨[.v QI,.r false (.b QL)],[.v QI],a1j⟩
def a9s(x:(LI×Int)):Option Int:=cond (x.2==1) ((a1j (1,x.1)).bind fun y1=>some y1.1) (cond (x.2==2) ((a1j (1,x.1)).bind fun y2=>(a1j (2,y2.2)).bind fun y3=>some (wrap .i64 ((wrap .i64 (2*y2.1))-y3.1))) (cond (x.2==3) ((a1j (1,x.1)).bind fun y4=>(a1j (2,y4.2)).bind fun y5=>(a1j (3,y5.2)).bind fun y6=>some (wrap .i64 ((wrap .i64 ((wrap .i64 (3*y4.1))-(wrap .i64 (3*y5.1))))+y6.1))) (cond (x.2==4) ((a1j (1,x.1)).bind fun y7=>(a1j (2,y7.2)).bind fun y8=>(a1j (3,y8.2)).bind fun y9=>(a1j (4,y9.2)).bind fun y10=>some (wrap .i64 ((wrap .i64 ((wrap .i64 ((wrap .i64 (4*y7.1))-(wrap .i64 (6*y8.1))))+(wrap .i64 (4*y9.1))))-y10.1))) (some 0))))
def c1I:FSem:=⟨[.v QL,.v QI],[.v QI],a9s⟩
def a7P(s:Z61):Option (Z61 ⊕ Z51):=(fun(a b:Int)(c:LI)=>cond (decide (b<a)) ((m0k s.2.1 b).bind fun x5=>(a9s (c,s.1)).bind fun y6=>(a2V [wrap .i64 (x5+y6)]).bind fun y7=>cond (!y7) (some (.inr (Sum.inr ((6,[],()))))) (cond (lim ((a02 c)+1)) (some (.inl (s.1,s.2.1,a,wrap .i64 (b+1),a03 c [wrap .i64 (x5+y6)],()))) none)) (some (.inr (Sum.inl (c,()))))) s.2.2.1 s.2.2.2.1 s.2.2.2.2.1
def a9U(x:Z12):Option (LI×Int):=(show Option Z52 from cond (decide (x.2.2<0)) (some (x.1,x.2.1,x.2.2,true,())) (cond (decide (x.2.2 > 4)) (some (x.1,x.2.1,x.2.2,true,())) (some (x.1,x.2.1,x.2.2,(x.1.length:Int) != x.2.2,())))).bind fun z1=>cond z1.2.2.2.1 (some ([],1)) ((show Option Z52 from(a2V z1.1).bind fun y2=>cond (!y2) (some (z1.1,z1.2.1,z1.2.2.1,true,())) ((a2V z1.2.1).bind fun y3=>some (z1.1,z1.2.1,z1.2.2.1,!y3,()))).bind fun z4=>cond z4.2.2.2.1 (some ([],6)) (cond (lim (a02 z4.1)) ((y0s a7P (z4.2.2.1,z4.2.1,(z4.2.1.length:Int),0,z4.1,())).bind fun w8=>match w8 with |.inl a9=>some (a9.1,0) |.inr b10=>some (b10.2.1,b10.1)) none))
def c2J:FSem:=⟨[.v QL,.v QL,.v QI],[.o QI,.v QI],a9U⟩
def d6P:Hints:=⟨[(250,[2,.sv 34 QL,35,36,.own 8 8 QI],[Qe 0 [.own 8 8 QI],Qr [7,.own 6 6 QI]])],[(6,[Qn [.sv 0 QL,.sv 1 QL,2,.sv 23 .bool]]),(14,[Qn [.sv 0 QL,.sv 1 QL,2,.sv 31 .bool]])],[]⟩
def a5l(x:Int):Option Bool:=cond (decide (x≥(-1073741824))) (some (decide (x<1073741824))) (some false)
def c1J:FSem:=⟨[.v QI],[.v .bool],a5l⟩
def a3l(s:Z15):Option Z71:=cond (decide (s.2.2.1<s.2.1)) ((m0k s.1 s.2.2.1).bind fun x1=>(a5l x1).bind fun y2=>cond (!y2) (some (.inr (Sum.inr ((false,()))))) (some (.inl (s.1,s.2.1,wrap .i64 (s.2.2.1+1),())))) (some (.inr (Sum.inl ())))
def a2N(x:LI):Option Bool:=(y0s a3l (x,(x.length:Int),0,())).bind fun w3=>match w3 with |.inl a4=>some true |.inr b5=>some b5.1
def b7o:FSem:=⟨[.v QL],[.v .bool],a2N⟩
def d6Q:Hints:=⟨[(26,[.sv 5 QL,6,7],[Qe 0 [],Qr [.sv 2 .bool]])],[],[]⟩
def a3m(s:Z75):Option (Z75 ⊕ (Int×Int×Unit)):=(fun(a:LI)(b c:Int)(d:LI)(e f:Int)=>cond (decide (f<e)) ((m0k d f).bind fun x1=>cond (decide ((wrap .i64 ((wrap .i64 ((a.length:Int)-1))-f))<0)) (some (.inr (b,c,()))) ((m0k a (wrap .i64 ((wrap .i64 ((a.length:Int)-1))-f))).bind fun x2=>some (.inl (a,b,wrap .i64 (c+(wrap .i64 (x1*x2))),d,e,wrap .i64 (f+1),())))) (some (.inr (b,c,())))) s.1 s.2.1 s.2.2.1 s.2.2.2.1 s.2.2.2.2.1 s.2.2.2.2.2.1
def a4L(x:Z12):Option Int:=(y0s a3m (x.1,x.2.2,0,x.2.1,(x.2.1.length:Int),0,())).bind fun w3=>cond (decide (w3.1<0)) none (some (A0o .i64 w3.2.1 w3.1))
def b7p:FSem:=⟨[.v QL,.v QL,.v QI],[.v QI],a4L⟩
def d6R:Hints:=⟨[(58,[.sv 0 QL,2,7,.sv 11 QL,12,13],[Qe 0 [2,7]])],[],[]⟩
def a6K(s:(LI×Z61)):Option ((LI×Z61) ⊕ Z51):=(fun(a:LI)(b c:Int)(d:LI)=>cond (decide (c<b)) ((m0k a c).bind fun x6=>(a4L (d,s.1,s.2.1)).bind fun y7=>(a5l (wrap .i64 (y7+x6))).bind fun y8=>cond (!y8) (some (.inr (Sum.inr ((6,[],()))))) (cond (lim ((a02 d)+1)) (some (.inl (s.1,s.2.1,a,b,wrap .i64 (c+1),a03 d [wrap .i64 (y7+x6)],()))) none)) (some (.inr (Sum.inl (d,()))))) s.2.2.1 s.2.2.2.1 s.2.2.2.2.1 s.2.2.2.2.2.1
def a7g(x:(LI×Z12)):Option (LI×Int):=(show Option (LI×Z52)from(a4J (x.2.2.1,x.2.2.2)).bind fun y1=>cond (!y1) (some (x.1,x.2.1,x.2.2.1,x.2.2.2,true,())) (some (x.1,x.2.1,x.2.2.1,x.2.2.2,(x.1.length:Int) != (x.2.2.1.length:Int),()))).bind fun z2=>cond z2.2.2.2.2.1 (some ([],1)) ((show Option (LI×Z52)from(a2N z2.1).bind fun y3=>cond (!y3) (some (z2.1,z2.2.1,z2.2.2.1,z2.2.2.2.1,true,())) ((a2N z2.2.1).bind fun y4=>some (z2.1,z2.2.1,z2.2.2.1,z2.2.2.2.1,!y4,()))).bind fun z5=>cond z5.2.2.2.2.1 (some ([],6)) (cond ((decide (0≤(wrap .i64 ((z5.1.length:Int)+(z5.2.1.length:Int)))))&&(lim (a00 (wrap .i64 ((z5.1.length:Int)+(z5.2.1.length:Int)))))) (cond (lim (0+(a02 z5.1))) ((y0s a6K (z5.2.2.1,z5.2.2.2.1,z5.2.1,(z5.2.1.length:Int),0,a03 [] z5.1,())).bind fun w9=>match w9 with |.inl a10=>some (a10.1,0) |.inr b11=>some (b11.2.1,b11.1)) none) none))
def c1K:FSem:=⟨[.v QL,.v QL,.v QL,.v QI],[.o QI,.v QI],a7g⟩
def d6S:Hints:=⟨[(506,[.sv 2 QL,3,.sv 42 QL,43,44,.own 10 10 QI],[Qe 0 [.own 10 10 QI],Qr [9,.own 8 8 QI]])],[(6,[Qn [.sv 0 QL,.sv 1 QL,.sv 2 QL,3,.sv 24 .bool]]),(14,[Qn [.sv 0 QL,.sv 1 QL,.sv 2 QL,3,.sv 32 .bool]])],[]⟩
def a7B(x:Int):Option Bool:=cond (decide (x≥(-1073741824))) (some (decide (x<1073741824))) (some false)
def c4M:FSem:=⟨[.v QI],[.v .bool],a7B⟩
def a4f(s:Z15):Option Z71:=cond (decide (s.2.2.1<s.2.1)) ((m0k s.1 s.2.2.1).bind fun x1=>(a7B x1).bind fun y2=>cond (!y2) (some (.inr (Sum.inr ((false,()))))) (some (.inl (s.1,s.2.1,wrap .i64 (s.2.2.1+1),())))) (some (.inr (Sum.inl ())))
def a4A(x:LI):Option Bool:=(y0s a4f (x,(x.length:Int),0,())).bind fun w3=>match w3 with |.inl a4=>some true |.inr b5=>some b5.1
def b9q:FSem:=⟨[.v QL],[.v .bool],a4A⟩
def d6T:Hints:=⟨[(26,[.sv 5 QL,6,7],[Qe 0 [],Qr [.sv 2 .bool]])],[],[]⟩
def a4g(s:(LI×(Int×Int×Z18))):Option ((LI×(Int×Int×Z18)) ⊕ (Int×Unit)):=(fun(a b c:Int)(d:LI)(e:Int)=>cond (decide (e<3)) ((m0k d e).bind fun x1=>cond (decide ((wrap .i64 ((wrap .i64 ((wrap .i64 (a-b))-1))+e))≥0)) ((m0k s.1 (wrap .i64 ((wrap .i64 ((wrap .i64 (a-b))-1))+e))).bind fun x2=>some (.inl (s.1,a,b,wrap .i64 (c+(wrap .i64 (x1*x2))),d,wrap .i64 (e+1),()))) (some (.inl (s.1,a,b,c,d,wrap .i64 (e+1),())))) (some (.inr (c,())))) s.2.1 s.2.2.1 s.2.2.2.1 s.2.2.2.2.1 s.2.2.2.2.2.1
def a4B(x:(LI×Z3)):Option Int:=(y0s a4g (x.1,x.2.1,x.2.2.1,0,x.2.2.2,0,())).bind fun w3=>some (A0o .i64 w3.1 6)
def b9r:FSem:=⟨[.v QL,.v QI,.v QI,.v (.arr 3 QI)],[.v QI],a4B⟩
def d6U:Hints:=⟨[(58,[.sv 0 QL,1,2,9,.sv 13 (.arr 3 QI),14],[Qe 0 [9]])],[],[]⟩
def a8x(s:Z86):Option (Z86 ⊕ Z51):=(fun(a b:Int)(c d:LI)=>cond (decide (b<a)) ((m0k s.2.1 b).bind fun x3=>(a4B (c,b,s.1,d)).bind fun y4=>(a7B (wrap .i64 (x3+y4))).bind fun y5=>cond (!y5) (some (.inr (Sum.inr ((6,[],()))))) (cond (lim ((a02 c)+1)) (some (.inl (s.1,s.2.1,a,wrap .i64 (b+1),a03 c [wrap .i64 (x3+y4)],d,()))) none)) (some (.inr (Sum.inl (c,()))))) s.2.2.1 s.2.2.2.1 s.2.2.2.2.1 s.2.2.2.2.2.1
def b1q(x:(LI×(Int×LI))):Option (LI×Int):=(a8w (x.2.1,x.2.2)).bind fun y1=>cond (!y1) (some ([],1)) ((a4A x.1).bind fun y2=>cond (!y2) (some ([],6)) (cond ((decide (0≤(x.1.length:Int)))&&(lim (a00 (x.1.length:Int)))) ((y0s a8x (x.2.1,x.1,(x.1.length:Int),0,[],x.2.2,())).bind fun w6=>match w6 with |.inl a7=>some (a7.1,0) |.inr b8=>some (b8.2.1,b8.1)) none))
def c4N:FSem:=⟨[.v QL,.v QI,.v (.arr 3 QI)],[.o QI,.v QI],b1q⟩
def d6V:Hints:=⟨[(250,[1,.sv 22 QL,23,24,.own 8 8 QI,.vp 5 (.arr 3 QI)],[Qe 0 [.own 8 8 QI],Qr [7,.own 6 6 QI]])],[],[]⟩
def a6m(x:Int):Option Bool:=cond (decide (x≥(-1073741824))) (some (decide (x<1073741824))) (some false)
def b5F:FSem:=⟨[.v QI],[.v .bool],a6m⟩
def a3G(s:Z15):Option Z71:=cond (decide (s.2.2.1<s.2.1)) ((m0k s.1 s.2.2.1).bind fun x1=>(a6m x1).bind fun y2=>cond (!y2) (some (.inr (Sum.inr ((false,()))))) (some (.inl (s.1,s.2.1,wrap .i64 (s.2.2.1+1),())))) (some (.inr (Sum.inl ())))
def a5w(x:LI):Option Bool:=(y0s a3G (x,(x.length:Int),0,())).bind fun w3=>match w3 with |.inl a4=>some true |.inr b5=>some b5.1
def b3d:FSem:=⟨[.v QL],[.v .bool],a5w⟩
def d6W:Hints:=⟨[(26,[.sv 5 QL,6,7],[Qe 0 [],Qr [.sv 2 .bool]])],[],[]⟩
def a9h(x:(Int×Int×Unit)):Option (Z26×Int):=(a7f x).bind fun y1=>cond (!y1) none (cond ((decide (0≤x.1))&&((decide (x.1≤x.1))&&(lim (a00 x.1)))) (cond ((decide (0≤x.1))&&((decide (x.1≤x.1))&&(lim (a00 x.1)))) (some ((x.2.1,a01 (a00 x.1) 0,a01 (a00 x.1) 0,()),0)) none) none)
def b6K:FSem:=⟨[.v Q3],[.b Q17,.v QI],a9h⟩
def d6X:Hints:=⟨[],[],[(3,[.v,.v,.v,.v,.q,.v,.v,.q,.x,.x,.x,.x])]⟩
def a5x(x:Int):Option Int:=some (v0s (v0r x (-1073741824)) 1073741823)
def b7Z:FSem:=⟨[.v QI],[.v QI],a5x⟩
def a3k(s:Z90):Option (Z90 ⊕ Z66):=(fun(a:Int)(b:Z26)=>cond (decide (a<s.2.1)) (cond ((decide (0≤a))&&(decide (a<(b.2.1.length:Int)))) (cond ((decide (0≤a))&&(decide (a<(b.2.2.1.length:Int)))) (some (.inl (wrap .i64 (s.1+(wrap .i64 ((a04 b.2.1 (a00 a) 0)*(a04 b.2.2.1 (a00 a) 0)))),s.2.1,wrap .i64 (a+1),b,()))) none) none) (some (.inr (s.1,b,())))) s.2.2.1 s.2.2.2.1
def a2h(x:Z26):Option Z45:=(y0s a3k (0,(x.2.1.length:Int),0,x,())).bind fun w1=>(a5x (A0o .i64 w1.1 16)).bind fun y2=>some (y2,w1.2.1)
def a9V:FSem:=⟨[.r false (.b Q17)],[.v QI],a2h⟩
def d6Y:Hints:=⟨[(58,[3,10,11,.box pinned Q17,Qp 0 pinned,.ref 9 pinned [.snd,.fst]],[Qe 0 [3,.box pinned Q17]])],[],[]⟩
def a2E(s:(Int×Z90)):Option ((Int×Z90) ⊕ Z66):=(fun(a b c d:Int)(e:Z26)=>cond (decide (d<c)) (cond ((decide (0≤d))&&(decide (d<(e.2.2.1.length:Int)))) (cond ((decide (0≤d))&&(decide (d<(e.2.1.length:Int)))) ((show Option (Int×Int×Int×Z90)from cond (decide ((a04 e.2.2.1 (a00 d) 0) > 0)) (some (a,b,d,wrap .i64 ((a04 e.2.1 (a00 d) 0)+b),c,d,e,())) (cond (decide ((a04 e.2.2.1 (a00 d) 0)<0)) (some (a,b,d,wrap .i64 ((a04 e.2.1 (a00 d) 0)-b),c,d,e,())) (some (a,b,d,a04 e.2.1 (a00 d) 0,c,d,e,())))).bind fun z4=>cond ((decide (0≤z4.2.2.1))&&(decide (z4.2.2.1<(z4.2.2.2.2.2.2.1.2.1.length:Int)))) (some (.inl (z4.1,z4.2.1,z4.2.2.2.2.1,wrap .i64 (z4.2.2.2.2.2.1+1),(z4.2.2.2.2.2.2.1.1,a05 z4.2.2.2.2.2.2.1.2.1 (a00 z4.2.2.1) (v0s (v0r z4.2.2.2.1 (-1048576)) 1048576),z4.2.2.2.2.2.2.1.2.2),()))) none) none) none) (some (.inr (a,e,())))) s.1 s.2.1 s.2.2.1 s.2.2.2.1 s.2.2.2.2.1
def a3n(x:(Z26×Int)):Option Z26:=(a5x x.2).bind fun y1=>(show Option Z80 from(a2h x.1).bind fun y2=>cond (decide (y1 > y2.1)) (cond (decide (y2.2.1<0)) none (some (y1,A0n .i64 1 y2.2.1,y2.2,()))) (cond (decide (y1<y2.1)) (cond (decide (y2.2.1<0)) none (some (y1,wrap .i64 (0-(A0n .i64 1 y2.2.1)),y2.2,()))) (some (y1,0,y2.2,())))).bind fun z3=>(y0s a2E (z3.1,z3.2.1,(z3.2.2.1.2.2.1.length:Int),0,z3.2.2.1,())).bind fun w5=>cond (decide (1≤(w5.2.1.2.2.1.length:Int))) (cond (decide (0<(a02 (p0h w5.2.1.2.2.1 1 ((a02 w5.2.1.2.2.1)-1) w5.2.1.2.2.1):Int))) (some (w5.2.1.1,w5.2.1.2.1,a05 (p0h w5.2.1.2.2.1 1 ((a02 w5.2.1.2.2.1)-1) w5.2.1.2.2.1) 0 w5.1,w5.2.1.2.2.2)) none) none
def b0V:FSem:=⟨[.r false (.b Q17),.v QI],[],a3n⟩
def d6Z:Hints:=⟨[(122,[1,4,36,37,.box pinned Q17,Qp 0 pinned,.ref 35 pinned [.snd,.snd,.fst]],[Qe 1 [1,.box pinned Q17,Qp 0 pinned]])],[(7,[Qn [1,4,.box pinned Q17,Qp 0 pinned]]),(15667,[Qn [1,4,6,8,36,37,.box pinned Q17,Qp 0 pinned,.ref 35 pinned [.snd,.snd,.fst]]])],[(17,[.p,.p,.q,.q,.q,.p,.p,.q,.q,.x])]⟩
def a5y(s:(Int×(Int×(LI×Z87)))):Option ((Int×(Int×(LI×Z87))) ⊕ (Z27 ⊕ Z27)):=(fun(a:Int)(b:LI)(c:Int)(d:LI)=>cond (decide (a<s.1)) (cond ((decide (0≤a))&&(decide (a<(d.length:Int)))) ((a2h s.2.2.2.2.2.1).bind fun y6=>(a6m (wrap .i64 (y6.1+(a04 d (a00 a) 0)))).bind fun y7=>cond (!y7) (some (.inr (Sum.inr (([],6,d,()))))) ((a3n (y6.2,wrap .i64 (y6.1+(a04 d (a00 a) 0)))).bind fun y8=>cond ((decide (0≤a))&&(decide (a<(d.length:Int)))) (some (.inl (s.1,wrap .i64 (a+1),b,c,a05 d (a00 a) (wrap .i64 (y6.1+(a04 d (a00 a) 0))),y8,()))) none)) none) (some (.inr (Sum.inl (b,c,d,()))))) s.2.1 s.2.2.1 s.2.2.2.1 s.2.2.2.2.1
def a7Q(k:Int)(v:(Int×Int×Unit))(s:(Z5×Z27)):Option ((Z5×Z27) ⊕ (Ex×Z5×Z27)):=(a9h v).bind fun y4=>cond (y4.2 != 0) (some (.inr (.ret,s.1,[],y4.2,s.2.2.2.1,()))) ((y0s a5y ((s.2.2.2.1.length:Int),0,s.2.1,s.2.2.1,s.2.2.2.1,y4.1,())).bind fun w9=>match w9 with |.inl a10=>some (.inl (s.1,a10.1,a10.2.1,a10.2.2.1,())) |.inr b11=>some (.inr (.ret,s.1,b11.1,b11.2.1,b11.2.2.1,())))
def a9W(x:(LI×Z5)):Option (LI×Int):=(a7z x.2).bind fun y1=>cond (!y1) (some ([],1)) ((a5w x.1).bind fun y2=>cond (!y2) (some ([],6)) ((a1e x.1).bind fun y3=>cond (lim (a02 x.2)) ((l0f a7Q x.2 (a02 x.2) (x.2,[],0,y3,())).bind fun w12=>match w12 with |.inl a13=>some (a13.2.2.2.1,0) |.inr (.normal,a14)=>some (a14.2.2.2.1,0) |.inr (.exit e15,a14)=>(cond (e15==0) (some (a14.2.2.2.1,0)) none) |.inr (.ret,a14)=>some (a14.2.1,a14.2.2.1)) none))
def a9X:FSem:=⟨[.v QL,.v (.list false Q3)],[.v QL,.v QI],a9W⟩
def d7a:Hints:=⟨[(8046,[35,36,.box 1001004 QL,.box 1001005 QI,.box 1001006 (.list true QI),.box 1028 Q17,Qp 4 1001004,Qp 5 1001005,Qp 6 1001006,Qp 9 1028,.ref 34 1001006 []],[Qe 2 [.box 1001004 QL,.box 1001005 QI,.box 1001006 (.list true QI),Qp 4 1001004,Qp 5 1001005,Qp 6 1001006],Qr [.box 1001004 QL,.box 1001005 QI,.box 1001006 (.list true QI),Qp 4 1001004,Qp 5 1001005,Qp 6 1001006]])],[],[]⟩
def d1A:Cx:=b5B [(65,a1R),(150,b6J),(191,b3d),(193,b6K),(194,a9V),(195,b5F),(196,b0V)] [(6,.list true QI)] 15875 72057594037927936
def d3h:HintR:=⟨22,Q3,192,206,[4,5,6],[.sv 22 (.list false Q3),.box 1001004 QL,.box 1001005 QI,.box 1001006 (.list true QI),.ptr 4 1001004 [],.ptr 5 1001005 [],.ptr 6 1001006 []]⟩
theorem d4F(x):z0h d1A d7a d3h Tryz.f158 a9X.ps a9X.rs x=a9X.F x:=by kernel_rfl
def a5m(x:Int):Option Bool:=cond (decide ((-1073741824)≤x)) (some (decide (x<1073741824))) (some false)
def c1L:FSem:=⟨[.v QI],[.v .bool],a5m⟩
def a8y(s:Z61):Option (Z61 ⊕ Z51):=(fun(a:Int)(b:LI)(c d:Int)(e:LI)=>cond (decide (d<c)) ((m0k b d).bind fun x2=>(show Option (Int×(Int×(LI×(Int×Int×Z9))))from(a5m x2).bind fun y3=>cond (!y3) (some (a,x2,b,c,d,true,e,())) (cond (decide (a<0)) none ((a5m (A0n .i64 x2 a)).bind fun y4=>some (a,x2,b,c,d,!y4,e,())))).bind fun z5=>cond z5.2.2.2.2.2.1 (some (.inr (Sum.inr ((6,[],()))))) (cond (decide (z5.1<0)) none (cond (lim ((a02 z5.2.2.2.2.2.2.1)+1)) (some (.inl (z5.1,z5.2.2.1,z5.2.2.2.1,wrap .i64 (z5.2.2.2.2.1+1),a03 z5.2.2.2.2.2.2.1 [A0n .i64 z5.2.1 z5.1],()))) none))) (some (.inr (Sum.inl (e,()))))) s.1 s.2.1 s.2.2.1 s.2.2.2.1 s.2.2.2.2.1
def a9i(x:(LI×Int)):Option (LI×Int):=(show Option Z19 from cond (decide (x.2<0)) (some (x.1,x.2,true,())) (some (x.1,x.2,decide (x.2 > 30),()))).bind fun z1=>cond z1.2.2.1 (some ([],1)) ((y0s a8y (z1.2.1,z1.1,(z1.1.length:Int),0,[],())).bind fun w6=>match w6 with |.inl a7=>some (a7.1,0) |.inr b8=>some (b8.2.1,b8.1))
def c4O:FSem:=⟨[.v QL,.v QI],[.o QI,.v QI],a9i⟩
def d7b:Hints:=⟨[(122,[1,.sv 15 QL,16,17,.own 6 6 QI],[Qe 0 [.own 6 6 QI],Qr [5,.own 4 4 QI]])],[(6,[Qn [.sv 0 QL,1,.sv 14 .bool]]),(15666,[Qn [1,8,.sv 15 QL,16,17,.sv 30 .bool,.own 6 6 QI]])],[]⟩
def a7h(s:(Int×(Int×(LI×b4n)))):Option ((Int×(Int×(LI×b4n))) ⊕ (LI×Unit)):=cond (decide (s.2.1<s.1)) ((m0k s.2.2.2.1.2.2.2.2.2.2.2.2.1 0).bind fun x1=>cond (lim ((a02 s.2.2.1)+1)) (some (.inl (s.1,wrap .i64 (s.2.1+1),a03 s.2.2.1 [x1],s.2.2.2.1,()))) none) (some (.inr (s.2.2.1,())))
def b2c(x:b3z):Option (LI×Int):=(show Option ((LI×(Int×b4n)) ⊕ Z6)from cond (x.1.1==0) ((y0s a7h (x.2,0,[],x.1,())).bind fun w2=>some (Sum.inr ((0,w2.1,())))) (cond (x.1.1==1) (some (Sum.inl (x.1.2.2.2.2.2.2.2.2.1,0,x.1,()))) (cond (x.1.1==2) ((a9U (x.1.2.2.2.2.2.2.2.2.1,x.1.2.2.2.2.2.2.2.2.2.2.1,x.1.2.2.1)).bind fun y3=>some (Sum.inl (y3.1,y3.2,x.1,()))) (cond (x.1.1==3) ((a7g (x.1.2.2.2.2.2.2.2.2.1,x.1.2.2.2.2.2.2.2.2.2.2.1,x.1.2.2.2.2.2.1,x.1.2.2.2.1)).bind fun y4=>some (Sum.inl (y4.1,y4.2,x.1,()))) (cond (x.1.1==4) ((a7g (x.1.2.2.2.2.2.2.2.2.1,x.1.2.2.2.2.2.2.2.2.2.2.1,x.1.2.2.2.2.2.1,x.1.2.2.2.1)).bind fun y5=>cond (y5.2==0) ((b1q (y5.1,x.1.2.2.2.2.1,x.1.2.2.2.2.2.2.1)).bind fun y6=>some (Sum.inl (y6.1,y6.2,x.1,()))) (some (Sum.inl (y5.1,y5.2,x.1,())))) (cond (x.1.1==5) ((a9W (x.1.2.2.2.2.2.2.2.2.2.2.1,x.1.2.2.2.2.2.2.2.1)).bind fun y7=>some (Sum.inl (y7.1,y7.2,x.1,()))) (some (Sum.inl ([],0,x.1,()))))))))).bind fun z8=>match z8 with |.inl a9=>(cond (a9.2.1 != 0) (some ([],a9.2.1)) ((a9i (a9.1,a9.2.2.1.2.1)).bind fun y11=>some (y11.1,y11.2))) |.inr b10=>some (b10.2.1,b10.1)
def c6B:FSem:=⟨[.v Q42,.v QI],[.o QI,.v QI],b2c⟩
def d7c:Hints:=⟨[(3922,[12,13,.own 6 6 QI,.vp 2 Q42],[Qe 1 [.own 6 6 QI]])],[(15,[Qn [.sv 6 QL,7,.vp 2 Q42],Qr [5,.own 4 6 QI]])],[]⟩
def b1N(x:b3z):Option (LI×Int):=(a9T (x.1,x.2)).bind fun y1=>cond (!y1) (some ([],1)) ((b2c (x.1,x.2)).bind fun y2=>cond (y2.2 != 0) (some ([],1)) (some (y2.1,0)))
def c8k:FSem:=⟨[.v Q42,.v QI],[.o QI,.v QI],b1N⟩
def a9j(x:Int):Option Bool:=cond (decide ((-1073741824)≤x)) (some (decide (x<1073741824))) (some false)
def c4P:FSem:=⟨[.v QI],[.v .bool],a9j⟩
def a4C(s:((List LI)×((List LI)×Z53))):Option (((List LI)×((List LI)×Z53)) ⊕ (((List LI)×Z28) ⊕ (Bool×Unit))):=(fun(a b:Int)(c:LI)(d e:Int)=>cond (decide (e<d)) ((m0k c e).bind fun x5=>(a9j x5).bind fun y6=>cond (!y6) (some (.inr (Sum.inr ((false,()))))) (some (.inl (s.1,s.2.1,a,b,c,d,wrap .i64 (e+1),())))) (some (.inr (Sum.inl (s.1,s.2.1,a,b,()))))) s.2.2.1 s.2.2.2.1 s.2.2.2.2.1 s.2.2.2.2.2.1 s.2.2.2.2.2.2.1
def a4D(s:((List LI)×Z28)):Option (((List LI)×Z28) ⊕ Z0):=(fun(a b:Int)=>cond (decide (b<a)) ((m0k s.2.1 b).bind fun x3=>(m0k s.1 0).bind fun x4=>cond ((x3.length:Int) != (x4.length:Int)) (some (.inr (Sum.inr ((false,()))))) ((y0s a4C (s.1,s.2.1,a,b,x3,(x3.length:Int),0,())).bind fun w7=>match w7 with |.inl a8=>some (.inl (a8.1,a8.2.1,a8.2.2.1,wrap .i64 (a8.2.2.2.1+1),())) |.inr b9=>some (.inr (Sum.inr ((b9.1,())))))) (some (.inr (Sum.inl ())))) s.2.2.1 s.2.2.2.1
def a7C(x:(List LI)):Option Bool:=(show Option ((List LI)×(Bool×Unit))from cond (decide ((x.length:Int)<1)) (some (x,true,())) (cond (decide ((x.length:Int) > 8)) (some (x,true,())) ((m0k x 0).bind fun x1=>some (x,decide ((x1.length:Int) > 4096),())))).bind fun z2=>cond z2.2.1 (some false) ((y0s a4D (z2.1,z2.1,(z2.1.length:Int),0,())).bind fun w10=>match w10 with |.inl a11=>some true |.inr b12=>some b12.1)
def b6L:FSem:=⟨[.v (.list false QL)],[.v .bool],a7C⟩
def H87:Hints:=⟨[(58,[.sv 0 (.list false QL),.sv 22 (.list false QL),23,24],[Qe 0 [],Qr [.sv 2 .bool]]),(29902,[.sv 0 (.list false QL),.sv 22 (.list false QL),23,24,.sv 35 QL,36,37],[Qe 2 [.sv 0 (.list false QL),.sv 22 (.list false QL),23,24],Qr [.sv 2 .bool]])],[(6,[Qn [.sv 0 (.list false QL),.sv 21 .bool]])],[]⟩
def a6L(s:((List LI)×Z29)):Option (((List LI)×Z29) ⊕ Z2):=cond (decide (s.2.2.1<s.2.1)) ((m0k s.1 s.2.2.1).bind fun x1=>(a1e x1).bind fun y2=>cond (lim ((a02 s.2.2.2.1)+(a02 (a05 ([[]]:List LI) 0 y2)))) (some (.inl (s.1,s.2.1,wrap .i64 (s.2.2.1+1),a03 s.2.2.2.1 (a05 ([[]]:List LI) 0 y2),()))) none) (some (.inr (s.2.2.2.1,())))
def a7i(x:(List LI)):Option (List LI):=(y0s a6L (x,(x.length:Int),0,([]:(List LI)),())).bind fun w3=>some w3.1
def b5g:FSem:=⟨[.v (.list false QL)],[.o (.list true QI)],a7i⟩
def H89:Hints:=⟨[(58,[.sv 6 (.list false QL),7,8,.own 3 3 (.list true QI)],[Qe 0 [.own 3 3 (.list true QI)]])],[],[]⟩
def a3O(s:(Int×(Int×(Int×((List LI)×(Z8×Int×Unit)))))):Option ((Int×(Int×(Int×((List LI)×(Z8×Int×Unit))))) ⊕ (Z2 ⊕ (Bool×Z2))):=(fun(a:Int)(b:List LI)(c:Z8)(d:Int)=>cond (decide (a<s.2.1)) (cond ((decide (0≤a))&&(decide (a<((a02 (a04 b (a00 d) []):Nat):Int)))) (cond ((decide (0≤c.2.1))&&(decide (c.2.1<(b.length:Int)))) (cond ((decide (0≤a))&&(decide (a<((a02 (a04 b (a00 c.2.1) []):Nat):Int)))) ((a9j (wrap .i64 ((a04 (a04 b (a00 c.2.1) []) (a00 a) 0)+(wrap .i64 (s.1*(A0o .i64 (wrap .i64 (c.2.2.1*(a04 (a04 b (a00 d) []) (a00 a) 0))) 8)))))).bind fun y1=>cond (!y1) (some (.inr (Sum.inr ((false,b,()))))) (cond ((decide (0≤c.2.1))&&(decide (c.2.1<(b.length:Int)))) (cond ((decide (0≤a))&&(decide (a<((a02 (a04 b (a00 c.2.1) []):Nat):Int)))) (some (.inl (s.1,s.2.1,wrap .i64 (a+1),a05 b (a00 c.2.1) (a05 (a04 b (a00 c.2.1) []) (a00 a) (wrap .i64 ((a04 (a04 b (a00 c.2.1) []) (a00 a) 0)+(wrap .i64 (s.1*(A0o .i64 (wrap .i64 (c.2.2.1*(a04 (a04 b (a00 d) []) (a00 a) 0))) 8)))))),c,((a00 d:Nat):Int),()))) none) none)) none) none) none) (some (.inr (Sum.inl (b,()))))) s.2.2.1 s.2.2.2.1 s.2.2.2.2.1 s.2.2.2.2.2.1
def a8d(x:((List LI)×(Z8×Int))):Option (Bool×(List LI)):=cond ((decide (0≤x.2.1.1))&&(decide (x.2.1.1<(x.1.length:Int)))) ((y0s a3O (x.2.2,((a02 (a04 x.1 (a00 x.2.1.1) []):Nat):Int),0,x.1,x.2.1,((a00 x.2.1.1:Nat):Int),())).bind fun w2=>match w2 with |.inl a3=>some (true,a3.1) |.inr b4=>some (b4.1,b4.2.1)) none
def b5G:FSem:=⟨[.r false (.o (.list true QI)),.v Q12,.v QI],[.v .bool],a8d⟩
def H90:Hints:=⟨[(26,[2,15,16,.own 0 pinned (.list true QI),.vp 4 Q12,.rfi 14 pinned],[Qe 0 [.own 0 pinned (.list true QI)],Qr [.sv 6 .bool,.own 0 pinned (.list true QI)]])],[],[(4,[.q,.v,.v,.q,.q,.v,.q,.q,.v,.v,.v,.v,.v,.v,.v,.x,.x])]⟩
def a6n(k:Int)(v:Z8)(s:(Z16×((List LI)×Z13))):Option ((Z16×((List LI)×Z13)) ⊕ (Ex×(Z16×((List LI)×Z13)))):=(a8d (s.2.2.2.1,v,(-1))).bind fun y5=>cond (!y5.1) (some (.inr (.ret,s.1,([]:(List LI)),6,y5.2,()))) (some (.inl (s.1,s.2.1,s.2.2.1,y5.2,())))
def b1r(x:((List LI)×Z16)):Option ((List LI)×Int):=(show Option ((List LI)×(Z16×(Bool×((List LI)×(Int×Unit)))))from(a7C x.1).bind fun y1=>cond (!y1) (some (x.1,x.2,true,([]:(List LI)),0,())) ((a8v (x.2,(x.1.length:Int))).bind fun y2=>some (x.1,x.2,!y2,([]:(List LI)),0,()))).bind fun z3=>cond z3.2.2.1 (some (([]:(List LI)),1)) ((a7i z3.1).bind fun y4=>cond (lim (a02 z3.2.1)) ((l0f a6n z3.2.1 (a02 z3.2.1) (z3.2.1,z3.2.2.2.1,z3.2.2.2.2.1,y4,())).bind fun w6=>match w6 with |.inl a7=>some (a7.2.2.2.1,0) |.inr (.normal,a8)=>some (a8.2.2.2.1,0) |.inr (.exit e9,a8)=>(cond (e9==0) (some (a8.2.2.2.1,0)) none) |.inr (.ret,a8)=>some (a8.2.1,a8.2.2.1)) none)
def b1s:FSem:=⟨[.v (.list false QL),.v (.list false Q12)],[.v (.list false QL),.v QI],b1r⟩
def H64:Hints:=⟨[],[(6,[Qn [.sv 0 (.list false QL),.sv 1 (.list false Q12),.sv 18 .bool,.box 4 (.list false QL),.box 5 QI,Qp 4 4,Qp 5 5]])],[]⟩
def d3i:Cx:=b5B [(87,b6L),(88,b7X),(89,b5g),(90,b5G)] [(6,.list true (.list true QI))] 3 536870912
def R64:HintR:=⟨21,Q12,119,160,[4,5,6],[.sv 21 (.list false Q12),.box 1001004 (.list false QL),.box 1001005 QI,.box 1001006 (.list true (.list true QI)),.ptr 4 1001004 [],.ptr 5 1001005 [],.ptr 6 1001006 []]⟩
theorem d7d(x):z0h d3i H64 R64 Tryz.f64 b1s.ps b1s.rs x=b1s.F x:=by kernel_rfl
def a4M(s:(a9D×(Int×(Int×((List LI)×c2y))))):Option ((a9D×(Int×(Int×((List LI)×c2y)))) ⊕ (((List LI)×c2y) ⊕ Z49)):=(fun(a:Int)(b:List LI)(c:Z13)(d:a1V)=>cond (decide (a<s.2.1)) ((m0k s.1 a).bind fun x3=>(b1N (x3,d.2.1)).bind fun y4=>cond (y4.2 != 0) (some (.inr (Sum.inr ((1,(0,([]:(List LI)),()),()))))) (cond (lim ((a02 b)+1)) (some (.inl (s.1,s.2.1,wrap .i64 (a+1),a03 b ([y4.1]:List LI),c,d,()))) none)) (some (.inr (Sum.inl (b,c,d,()))))) s.2.2.1 s.2.2.2.1 s.2.2.2.2.1 s.2.2.2.2.2.1
def a2f(x:a1V):Option Z30:=(show Option (Bool×c2y)from(a7d x).bind fun y1=>cond (!y1) (some (true,(0,([]:(List LI)),()),x,())) (some ((x.2.2.2.2.1.length:Int) != x.2.2.1.2.1,(0,([]:(List LI)),()),x,()))).bind fun z2=>cond z2.1 (some ((0,([]:(List LI)),()),1)) (cond ((decide (0≤(z2.2.2.1.2.2.2.2.1.length:Int)))&&(lim (a00 (z2.2.2.1.2.2.2.2.1.length:Int)))) ((y0s a4M (z2.2.2.1.2.2.2.2.1,(z2.2.2.1.2.2.2.2.1.length:Int),0,([]:(List LI)),z2.2.1,z2.2.2.1,())).bind fun w5=>match w5 with |.inl a6=>((b1r (a6.1,a6.2.2.1.2.2.2.1)).bind fun y8=>cond (y8.2 != 0) (some ((0,([]:(List LI)),()),1)) ((a3v (a6.2.2.1.2.2.1.2.2.1,y8.1,())).bind fun y9=>cond (!y9) (some ((0,([]:(List LI)),()),1)) (some ((a6.2.2.1.2.2.1.2.2.1,y8.1,()),0)))) |.inr b7=>some (b7.2.1,b7.1)) none)
def c1M:FSem:=⟨[.v Q60],[.v Q15,.v QI],a2f⟩
def H25:Hints:=⟨[(122,[.sv 30 (.list false Q42),31,32,.own 4 4 QL,.box 2 Q15,.vp 1 Q60,Qp 2 2],[Qe 0 [.own 4 4 QL,.box 2 Q15,.vp 1 Q60,Qp 2 2],Qr [3,.box 2 Q15,Qp 2 2]])],[(6,[Qn [.sv 23 .bool,.box 2 Q15,.vp 1 Q60,Qp 2 2]])],[]⟩
def a4u(x:a1V):Option Bool:=(a2f x).bind fun y1=>some (y1.2==0)
def c4Q:FSem:=⟨[.v Q60],[.v .bool],a4u⟩
def a8X(s:Z48):Option (Z48 ⊕ Z31):=(fun(a:Int)(b:LI)(c d e:Int)=>cond (decide (e<8)) (cond ((A0o .u16 a 15)==1) (some (.inl (bits .u16 .xor (A0n .u16 a 1) 32773,b,c,d,wrap .i64 (e+1),()))) (some (.inl (A0n .u16 a 1,b,c,d,wrap .i64 (e+1),())))) (some (.inr (a,b,c,d,())))) s.1 s.2.1 s.2.2.1 s.2.2.2.1 s.2.2.2.2.1
def a6a(s:Z31):Option Z68:=(fun(a b:Int)=>cond (decide (b<a)) ((m0k s.2.1 b).bind fun x1=>(y0s a8X (bits .u16 .xor s.1 (A0n .u16 (wrap .u16 x1) 8),s.2.1,a,b,0,())).bind fun w2=>some (.inl (w2.1,w2.2.1,w2.2.2.1,wrap .i64 (w2.2.2.2.1+1),()))) (some (.inr (s.1,())))) s.2.2.1 s.2.2.2.1
def a6o(x:LI):Option Int:=(y0s a6a (0,x,(x.length:Int),0,())).bind fun w3=>some w3.1
def b9s:FSem:=⟨[.v QB],[.v (.int .u16)],a6o⟩
def H55:Hints:=⟨[(58,[.sv 3 (.int .u16),.sv 7 QB,8,9],[Qe 0 [.sv 3 (.int .u16)]]),(29902,[.sv 3 (.int .u16),.sv 7 QB,8,9,18],[Qe 2 [.sv 3 (.int .u16),.sv 7 QB,8,9]])],[],[]⟩
def a9Y(s:Z48):Option (Z48 ⊕ Z31):=(fun(a:Int)(b:LI)(c d e:Int)=>cond (decide (e<8)) (cond ((A0o .u8 a 7)==1) (some (.inl (bits .u8 .xor (A0n .u8 a 1) 7,b,c,d,wrap .i64 (e+1),()))) (some (.inl (A0n .u8 a 1,b,c,d,wrap .i64 (e+1),())))) (some (.inr (a,b,c,d,())))) s.1 s.2.1 s.2.2.1 s.2.2.2.1 s.2.2.2.2.1
def a7R(s:Z31):Option Z68:=(fun(a b:Int)=>cond (decide (b<a)) ((m0k s.2.1 b).bind fun x1=>(y0s a9Y (bits .u8 .xor s.1 x1,s.2.1,a,b,0,())).bind fun w2=>some (.inl (w2.1,w2.2.1,w2.2.2.1,wrap .i64 (w2.2.2.2.1+1),()))) (some (.inr (s.1,())))) s.2.2.1 s.2.2.2.1
def a8e(x:LI):Option Int:=(y0s a7R (0,x,(x.length:Int),0,())).bind fun w3=>some w3.1
def c2K:FSem:=⟨[.v QB],[.v QV],a8e⟩
def d7e:Hints:=⟨[(58,[.sv 3 QV,.sv 7 QB,8,9],[Qe 0 [.sv 3 QV]]),(29902,[.sv 3 QV,.sv 7 QB,8,9,16],[Qe 2 [.sv 3 QV,.sv 7 QB,8,9]])],[],[]⟩
def b1t(x:Int):Option Int:=cond ((a06 x 2)==0) (some (wrap .i64 (wrap .u64 (a08 x 2)))) (some (wrap .i64 ((wrap .i64 (0-(wrap .i64 (wrap .u64 (a08 x 2)))))-1)))
def c4R:FSem:=⟨[.v QU],[.v QI],b1t⟩
def a5z(s:(LI×(Int×Int×b9o))):Option ((LI×(Int×Int×b9o)) ⊕ (LI×b9o)):=(fun(a:Int)(b:a1V)(c:Z15)=>cond (decide (a<s.2.1)) ((a0S (c,7)).bind fun y11=>(a0S (y11.2,7)).bind fun y12=>(a0S (y12.2,2048)).bind fun y13=>(b1t y13.1).bind fun y14=>cond (lim ((a02 b.2.2.2.1)+1)) (some (.inl (s.1,s.2.1,wrap .u64 (a+1),(b.1,b.2.1,b.2.2.1,a03 b.2.2.2.1 ([(wrap .i64 y11.1,wrap .i64 y12.1,y14,())]:List Z8),b.2.2.2.2),y13.2,()))) none) (some (.inr (s.1,b,c,())))) s.2.2.1 s.2.2.2.1 s.2.2.2.2.1
def a7S(x:LI):Option (a1V×Int×Int×Int):=cond (decide ((x.length:Int)<2)) (some ((0,0,(0,0,0,()),[],[],()),0,0,3)) ((show Option (LI×(Bool×b3B))from(m0k x 0).bind fun x1=>cond (x1 != 245) (some (x,true,(0,0,(0,0,0,()),[],[],()),())) ((m0k x 1).bind fun x2=>some (x,x2 != 75,(0,0,(0,0,0,()),[],[],()),()))).bind fun z3=>cond z3.2.1 (some ((0,0,(0,0,0,()),[],[],()),0,0,2)) (cond (decide (2≤(z3.1.length:Int))) ((a5T (a09 2 (a07 (a02 z3.1) z3.1))).bind fun y4=>(a0S (y4,4194304)).bind fun y5=>(a0S (y5.2,4096)).bind fun y6=>(a0S (y6.2,1048576)).bind fun y7=>(a0S (y7.2,8)).bind fun y8=>(a0S (y8.2,24)).bind fun y9=>(a0S (y9.2,16)).bind fun y10=>(y0s a5z (z3.1,y10.1,0,(wrap .i64 y5.1,wrap .i64 y6.1,(wrap .i64 y7.1,wrap .i64 y8.1,wrap .i64 y9.1,z3.2.2.1.2.2.1.2.2.2),z3.2.2.1.2.2.2),y10.2,())).bind fun w15=>(a0S (w15.2.2.1,1048576)).bind fun y16=>(a3E y16.2).bind fun y17=>cond (y17.1 != 0) (some ((0,0,(0,0,0,()),[],[],()),0,0,y17.1)) ((a1P y17.2).bind fun y18=>cond (decide (y18.1<1)) (some ((0,0,(0,0,0,()),[],[],()),0,0,3)) ((a4e y18.2).bind fun y19=>cond ((decide (0≤(wrap .i64 (2+y19.1))))&&(decide ((wrap .i64 (2+y19.1))≤(w15.1.length:Int)))) ((a8e (a07 (a00 (wrap .i64 (2+y19.1))) w15.1)).bind fun y20=>(m0k w15.1 (wrap .i64 (2+y19.1))).bind fun x21=>cond (y20 != x21) (some ((0,0,(0,0,0,()),[],[],()),0,0,5)) ((a7d w15.2.1).bind fun y22=>cond (!y22) (some ((0,0,(0,0,0,()),[],[],()),0,0,2)) (some (w15.2.1,wrap .i64 ((wrap .i64 (2+y19.1))+1),wrap .i64 y16.1,0)))) none))) none))
def b8a:FSem:=⟨[.v QB],[.v (.pair QI (.pair QI (.pair Q12 (.pair (.list false Q12) Q43)))),.v QI,.v QI,.v QI],a7S⟩
def H56:Hints:=⟨[(8186,[.sv 0 QB,.sv 54 QU,.sv 55 QU,.box 2 Q58,.box 1029 Q16,Qp 2 2,Qp 6 1029],[Qe 0 [.sv 0 QB,.box 2 Q58,.box 1029 Q16,Qp 2 2,Qp 6 1029]])],[(14,[Qn [.sv 0 QB,.sv 25 .bool,.box 2 Q58,Qp 2 2]])],[(25,[.v,.v,.v,.v,.v,.v,.v,.v,.x])]⟩
def b2d(x:LI):Option Z15:=cond (lim (a02 x)) (some (x,0,0,())) none
def c6C:FSem:=⟨[.v QB],[.b Q16],b2d⟩
def a0O(x:Z15):Option Z31:=some (x.2.2.1,x)
def b6y:FSem:=⟨[.r false (.b Q16)],[.v QI],a0O⟩
def a9L(x:b3z):Option Bool:=(b1N (x.1,x.2)).bind fun y1=>some (y1.2==0)
def c8l:FSem:=⟨[.v Q42,.v QI],[.v .bool],a9L⟩
def a3b(s:Z53):Option (Z53 ⊕ Z31):=(fun(a b:Int)(c:LI)(d e:Int)=>cond (b != 0) (cond (decide (a<32)) ((a2e (b,a)).bind fun y2=>cond (!y2) (some (.inl (wrap .i64 (a+1),b,c,d,e,()))) (some (.inr (a,c,d,e,())))) (some (.inr (a,c,d,e,())))) (some (.inr (a,c,d,e,())))) s.1 s.2.1 s.2.2.1 s.2.2.2.1 s.2.2.2.2.1
def a6b(s:Z31):Option Z68:=(fun(a b:Int)=>cond (decide (b<a)) ((m0k s.2.1 b).bind fun x1=>(y0s a3b (s.1,x1,s.2.1,a,b,())).bind fun w3=>some (.inl (w3.1,w3.2.1,w3.2.2.1,wrap .i64 (w3.2.2.2.1+1),()))) (some (.inr (s.1,())))) s.2.2.1 s.2.2.2.1
def a1u(x:LI):Option Int:=(y0s a6b (0,x,(x.length:Int),0,())).bind fun w4=>some w4.1
def b9t:FSem:=⟨[.v QL],[.v QI],a1u⟩
def H98:Hints:=⟨[(58,[3,.sv 6 QL,7,8],[Qe 0 [3]]),(7474,[3,5,.sv 6 QL,7,8],[Qe 2 [3,.sv 6 QL,7,8]])],[],[]⟩
def a2O(x:Z15):Option Z31:=some (wrap .i64 ((wrap .i64 (8*(x.1.length:Int)))-x.2.1),x)
def b5H:FSem:=⟨[.r false (.b Q16)],[.v QI],a2O⟩
def H59:Hints:=⟨[],[],[(1,[.p,.p,.q,.q,.v,.v,.p,.p,.q,.q,.x,.x])]⟩
def a1G(x:Z32):Option Z31:=(m0k x.1.1 (wrap .i64 (a08 x.2 8))).bind fun x1=>cond (decide ((wrap .i64 (7-(a06 x.2 8)))<0)) none (some (bits .u8 .and (A0o .u8 x1 (wrap .i64 (7-(a06 x.2 8)))) 1,x.1))
def b5I:FSem:=⟨[.r false (.b Q16),.v QI],[.v QV],a1G⟩
def a4j(s:Z82):Option (Z82 ⊕ Z55):=cond (decide (s.2.2.1<s.2.1)) ((a1G (s.2.2.2.1,s.2.2.2.1.2.1)).bind fun y3=>some (.inl (bits .u64 .or (A0n .u64 s.1 1) (wrap .u64 y3.1),s.2.1,wrap .i64 (s.2.2.1+1),(y3.2.1,wrap .i64 (y3.2.2.1+1),y3.2.2.2),()))) (some (.inr (s.1,s.2.2.2.1,())))
def a0H(x:Z32):Option Z31:=cond (x.1.2.2.1 != 0) (some (0,x.1)) ((show Option Z70 from cond (decide (x.2<0)) (some (x.2,true,x.1,())) (some (x.2,decide (x.2 > 64),x.1,()))).bind fun z1=>cond z1.2.1 (some (0,z1.2.2.1.1,z1.2.2.1.2.1,1,z1.2.2.1.2.2.2)) ((a2O z1.2.2.1).bind fun y2=>cond (decide (z1.1 > y2.1)) (some (0,y2.2.1,y2.2.2.1,3,y2.2.2.2.2)) ((y0s a4j (0,z1.1,0,y2.2,())).bind fun w4=>some (w4.1,w4.2.1))))
def b6z:FSem:=⟨[.r false (.b Q16),.v QI],[.v QU],a0H⟩
def d7f:Hints:=⟨[(506,[.sv 5 QU,27,28,.box pinned Q16,Qp 0 pinned],[Qe 0 [.sv 5 QU,.box pinned Q16]])],[(14,[Qn [1,.sv 16 .bool,.box pinned Q16,Qp 0 pinned]])],[]⟩
def a1c(x:Z32):Option Z31:=(a0H (x.1,x.2)).bind fun y1=>(show Option (Int×Z70)from cond (y1.2.2.2.1 != 0) (some (x.2,y1.1,true,y1.2,())) (some (x.2,y1.1,x.2==0,y1.2,()))).bind fun z2=>cond z2.2.2.1 (some (0,z2.2.2.2.1)) (cond (decide ((wrap .i64 (64-z2.1))<0)) none (cond (decide ((wrap .i64 (64-z2.1))<0)) none (some (A0o .i64 (wrap .i64 (A0n .u64 z2.2.1 (wrap .i64 (64-z2.1)))) (wrap .i64 (64-z2.1)),z2.2.2.2.1))))
def b4p:FSem:=⟨[.r false (.b Q16),.v QI],[.v QI],a1c⟩
def d7g:Hints:=⟨[],[(14,[Qn [1,.sv 5 QU,.sv 17 .bool,.box pinned Q16]])],[]⟩
def a6c(s:(Int×b9n)):Option ((Int×b9n) ⊕ (Int×c6u)):=(fun(a:Int)(b:Z15)(c:a1B)=>cond (decide (a<s.2.1)) ((a1c (b,s.1)).bind fun y4=>cond (lim ((a02 c.2.2.2.2.2.1)+1)) (some (.inl (s.1,s.2.1,wrap .i64 (a+1),y4.2,(c.1,c.2.1,c.2.2.1,c.2.2.2.1,c.2.2.2.2.1,a03 c.2.2.2.2.2.1 [y4.1],c.2.2.2.2.2.2),()))) none) (some (.inr (s.1,c,b,())))) s.2.2.1 s.2.2.2.1 s.2.2.2.2.1
def a8z(x:(Z15×a1B)):Option (Bool×Z15×a1B):=(a0H (x.1,5)).bind fun y1=>(a0H (y1.2,4)).bind fun y2=>(a0H (y2.2,5)).bind fun y3=>(y0s a6c (wrap .i64 y3.1,wrap .i64 ((wrap .i64 y1.1)+1),0,y3.2,(x.2.1,x.2.2.1,x.2.2.2.1,wrap .i64 y2.1,x.2.2.2.2.2),())).bind fun w5=>(a1u w5.2.1.2.2.2.2.2.1).bind fun y6=>some (y6==w5.1,w5.2.2.1,w5.2.1)
def b9u:FSem:=⟨[.r false (.b Q16),.r false (.b Q41)],[.v .bool],a8z⟩
def d7h:Hints:=⟨[(250,[6,20,21,.box pinned Q16,.box 1000001 Q41,Qp 0 pinned,Qp 1 1000001],[Qe 0 [6,.box 1000001 Q41,.box pinned Q16,Qp 1 1000001]])],[],[(6,[.p,.p,.p,.r [26,1000001],.r [27,1000001],.p,.v,.w [30,1030,pinned],.q,.a [31,32,1000001],.x,.x,.x])]⟩
def a3s(s:b9n):Option (b9n ⊕ c9G):=(fun(a:Int)(b:Z15)(c:a1B)=>cond (decide (a<3)) ((a1c (b,8)).bind fun y6=>cond ((decide (0≤a))&&(decide (a<3))) (some (.inl (s.1,wrap .i64 (a+1),y6.2,(c.1,c.2.1,c.2.2.1,c.2.2.2.1,c.2.2.2.2.1,c.2.2.2.2.2.1,a05 c.2.2.2.2.2.2.1 (a00 a) y6.1,c.2.2.2.2.2.2.2),()))) none) (some (.inr (s.1,b,c,())))) s.2.1 s.2.2.1 s.2.2.2.1
def a6M(s:(Int×Bool×b9n)):Option ((Int×Bool×b9n) ⊕ (Int×Bool×c6u)):=(fun(a b:Int)(c:Z15)(d:a1B)=>cond (decide (b<a)) ((a0H (c,5)).bind fun y15=>(a0H (y15.2,4)).bind fun y16=>cond (lim ((a02 d.2.2.2.2.2.2.2.1)+1)) (some (.inl (s.1,s.2.1,a,wrap .u64 (b+1),y16.2,(d.1,d.2.1,d.2.2.1,d.2.2.2.1,d.2.2.2.2.1,d.2.2.2.2.2.1,d.2.2.2.2.2.2.1,a03 d.2.2.2.2.2.2.2.1 ([(wrap .i64 ((wrap .i64 y15.1)+1),wrap .i64 y16.1,())]:List (Int×Int×Unit)),d.2.2.2.2.2.2.2.2),()))) none) (some (.inr (s.1,s.2.1,d,c,())))) s.2.2.1 s.2.2.2.1 s.2.2.2.2.1 s.2.2.2.2.2.1
def a9t(x:Z15):Option (a1B×Int×Bool×Z15):=(a0H (x,3)).bind fun y1=>(a0H (y1.2,5)).bind fun y2=>(a0H (y2.2,5)).bind fun y3=>(show Option (Int×Bool×c6u)from(show Option (c9G ⊕ ((Int×Bool×c6u) ⊕ (Int×Bool×d3d)))from cond ((wrap .i64 y1.1)==2) ((a0H (y3.2,3)).bind fun y4=>some (Sum.inr (Sum.inl (wrap .i64 y3.1,true,(wrap .i64 y1.1,wrap .i64 y2.1,wrap .i64 y4.1,0,0,[],a01 3 0,[],[],(0,[],()),[],()),y4.2,())))) (cond ((wrap .i64 y1.1)==4) ((a0H (y3.2,10)).bind fun y5=>(y0s a3s (wrap .i64 y3.1,0,y5.2,(wrap .i64 y1.1,wrap .i64 y2.1,0,0,wrap .i64 ((wrap .i64 y5.1)+1),[],a01 3 0,[],[],(0,[],()),[],()),())).bind fun w7=>some (Sum.inl (w7.1,w7.2.1,w7.2.2.1,()))) (cond ((wrap .i64 y1.1)==3) (some (Sum.inl (wrap .i64 y3.1,y3.2,(wrap .i64 y1.1,wrap .i64 y2.1,0,0,0,[],a01 3 0,[],[],(0,[],()),[],()),()))) (cond ((wrap .i64 y1.1)==5) (some (Sum.inr (Sum.inr ((wrap .i64 y3.1,true,y3.2,(wrap .i64 y1.1,wrap .i64 y2.1,0,0,0,[],a01 3 0,[],[],(0,[],()),[],()),()))))) (some (Sum.inr (Sum.inl (wrap .i64 y3.1,true,(wrap .i64 y1.1,wrap .i64 y2.1,0,0,0,[],a01 3 0,[],[],(0,[],()),[],()),y3.2,())))))))).bind fun z8=>match z8 with |.inl a9=>((a8z (a9.2.1,a9.2.2.1)).bind fun y11=>some (a9.1,y11.1,y11.2.2,y11.2.1,())) |.inr b10=>(match b10 with |.inl a12=>some (a12.1,a12.2.1,a12.2.2.1,a12.2.2.2.1,()) |.inr b13=>((a0H (b13.2.2.1,2)).bind fun y14=>(y0s a6M (b13.1,b13.2.1,y14.1,0,y14.2,b13.2.2.2.1,())).bind fun w17=>some (w17.1,w17.2.1,w17.2.2.1,w17.2.2.2.1,())))).bind fun z18=>some (z18.2.2.1,z18.1,z18.2.1,z18.2.2.2.1)
def c1N:FSem:=⟨[.r false (.b Q16)],[.v (.pair QI (.pair QI (.pair QI (.pair QI (.pair QI (.pair QL (.pair (.arr 3 QI) (.pair (.list false Q3) Q23)))))))),.v QI,.v .bool],a9t⟩
def d7i:Hints:=⟨[(8106,[3,.sv 4 .bool,.sv 50 QU,.sv 51 QU,.box pinned Q16,.box 2 Q41,Qp 0 pinned,Qp 2 2],[Qe 7 [3,.sv 4 .bool,.box 2 Q41,.box pinned Q16,Qp 2 2]]),(129550,[3,38,.box pinned Q16,.box 2 Q41,Qp 0 pinned,Qp 2 2],[Qe 5 [3,.box pinned Q16,.box 2 Q41,Qp 0 pinned,Qp 2 2]])],[(63,[Qn [3,.sv 4 .bool,.box 2 Q41,.box pinned Q16,Qp 2 2]]),(2024,[Qn [3,.box pinned Q16,.box 2 Q41,Qp 0 pinned,Qp 2 2],Qe 0 [3,.sv 4 .bool,.box 2 Q41,.box pinned Q16,Qp 2 2],Qe 4 [3,.sv 4 .bool,.box pinned Q16,.box 2 Q41,Qp 0 pinned,Qp 2 2]])],[]⟩
def a2a(x:Int):Option Bool:=cond (decide (0≤x)) (some (decide (x≤25))) (some false)
def b7q:FSem:=⟨[.v QI],[.v .bool],a2a⟩
def a3w(s:Z82):Option (Z82 ⊕ Z55):=(fun(a b:Int)(c:Z15)=>cond (b==(wrap .i64 (8*(c.1.length:Int)))) (some (.inr (0,(c.1,c.2.1,3,c.2.2.2),()))) ((a1G (c,b)).bind fun y2=>cond (y2.1==1) (some (.inr (a,(y2.2.1,wrap .i64 (b+1),y2.2.2.2),()))) (cond (a==s.1) (some (.inr (0,(y2.2.1,y2.2.2.1,2,y2.2.2.2.2),()))) (some (.inl (s.1,wrap .i64 (a+1),wrap .i64 (b+1),y2.2,())))))) s.2.1 s.2.2.1 s.2.2.2.1
def a3o(x:Z32):Option Z31:=cond (x.1.2.2.1 != 0) (some (0,x.1)) ((y0s a3w (v0r x.2 0,0,x.1.2.1,x.1,())).bind fun w3=>some (w3.1,w3.2.1))
def b5v:FSem:=⟨[.r false (.b Q16),.v QI],[.v QI],a3o⟩
def d7j:Hints:=⟨[(62,[1,5,6,.box pinned Q16,Qp 0 pinned],[Qr [4,.box pinned Q16]])],[],[(4,[.p,.p,.q,.q,.v,.x])]⟩
def a7j(x:Int):Option Int:=cond (decide (x≥2147483648)) (some 0) (cond ((a06 x 2)==0) (some (wrap .i64 (wrap .u64 (a08 x 2)))) (some (wrap .i64 ((wrap .i64 (0-(wrap .i64 (wrap .u64 (a08 x 2)))))-1))))
def c1O:FSem:=⟨[.v QU],[.v QI],a7j⟩
def b2e(x:Z32):Option Z53:=(a3o (x.1,32)).bind fun y1=>(a0O y1.2).bind fun y2=>cond (y2.1 != 0) ((a0O y2.2).bind fun y3=>some (0,y3.1,y3.2)) (cond (decide ((wrap .u64 y1.1)<32)) ((a0H (y2.2,x.2)).bind fun y4=>cond (decide (x.2<0)) none ((a7j (wrap .u64 ((A0n .u64 (wrap .u64 y1.1) x.2)+y4.1))).bind fun y5=>(a0O y4.2).bind fun y6=>some (y5,y6.1,y6.2))) ((a0H (y2.2,32)).bind fun y7=>(a0O y7.2).bind fun y8=>cond (y8.1 != 0) ((a0O y8.2).bind fun y9=>some (0,y9.1,y9.2)) ((show Option Z70 from cond (decide (y7.1≥2147483648)) (some (y7.1,true,y8.2,())) (cond (decide (x.2<0)) none (some (y7.1,decide ((A0o .u64 y7.1 x.2)<32),y8.2,())))).bind fun z10=>cond z10.2.1 (some (0,2,z10.2.2.1)) ((a7j z10.1).bind fun y11=>some (y11,0,z10.2.2.1)))))
def c6D:FSem:=⟨[.r false (.b Q16),.v QI],[.v QI,.v QI],b2e⟩
def d7k:Hints:=⟨[],[(254,[Qn [.sv 8 QU,.sv 44 .bool,.box pinned Q16]])],[]⟩
def a9u(s:Z93):Option (Z93 ⊕ (Z64 ⊕ Z79)):=cond (decide (s.2.2.1<s.2.1)) ((b2e (s.2.2.2.2.1,s.1)).bind fun y5=>cond (y5.2.1 != 0) (some (.inr (Sum.inr ((y5.2.1,[],y5.2.2,()))))) (cond (lim ((a02 s.2.2.2.1)+1)) (some (.inl (s.1,s.2.1,wrap .i64 (s.2.2.1+1),a03 s.2.2.2.1 [y5.1],y5.2.2,()))) none)) (some (.inr (Sum.inl (s.2.2.2.1,s.2.2.2.2.1,()))))
def b2f(x:(Z15×Int×Int)):Option Z62:=(show Option (Int×Z70)from(a2a x.2.1).bind fun y1=>cond (!y1) (some (x.2.1,x.2.2,true,x.1,())) (cond (decide (x.2.2<0)) (some (x.2.1,x.2.2,true,x.1,())) (some (x.2.1,x.2.2,decide (x.2.2 > 4194304),x.1,())))).bind fun z2=>cond z2.2.2.1 (some ([],1,z2.2.2.2.1)) ((a0O z2.2.2.2.1).bind fun y3=>cond (y3.1 != 0) ((a0O y3.2).bind fun y4=>some ([],y4.1,y4.2)) ((y0s a9u (z2.1,z2.2.1,0,[],y3.2,())).bind fun w6=>match w6 with |.inl a7=>some (a7.1,0,a7.2.1) |.inr b8=>some (b8.2.1,b8.1,b8.2.2.1)))
def c6E:FSem:=⟨[.r false (.b Q16),.v QI,.v QI],[.o QI,.v QI],b2f⟩
def d7l:Hints:=⟨[(250,[1,27,28,.own 8 8 QI,.box pinned Q16,Qp 0 pinned],[Qe 0 [.own 8 8 QI,.box pinned Q16],Qr [7,.own 6 6 QI,.box pinned Q16]])],[(6,[Qn [1,2,.sv 21 .bool,.box pinned Q16,Qp 0 pinned]])],[]⟩
def a8A(s:(Int×Z93)):Option ((Int×Z93) ⊕ Z89):=(fun(a b c:Int)(d:LI)(e:Z15)=>cond (decide (c<b)) ((a1c (e,a)).bind fun y6=>cond (lim ((a02 d)+1)) (some (.inl (s.1,a,b,wrap .i64 (c+1),a03 d [y6.1],y6.2,()))) none) (some (.inr (s.1,a,d,e,())))) s.2.1 s.2.2.1 s.2.2.2.1 s.2.2.2.2.1 s.2.2.2.2.2.1
def b1u(x:Z32):Option (Int×Z62):=(a0H (x.1,5)).bind fun y1=>(a0O y1.2).bind fun y2=>cond (y2.1 != 0) ((a0O y2.2).bind fun y3=>some (0,[],y3.1,y3.2)) (cond (decide ((wrap .i64 y1.1)≤25)) ((b2f (y2.2,wrap .i64 y1.1,x.2)).bind fun y4=>some (wrap .i64 y1.1,y4.1,y4.2.1,y4.2.2)) (cond ((wrap .i64 y1.1) != 31) (some (0,[],2,y2.2)) ((a0H (y2.2,5)).bind fun y5=>(y0s a8A (wrap .i64 y1.1,wrap .i64 y5.1,x.2,0,[],y5.2,())).bind fun w7=>(a0O w7.2.2.2.1).bind fun y8=>cond (y8.1 != 0) ((a0O y8.2).bind fun y9=>some (0,[],y9.1,y9.2)) ((a1u w7.2.2.1).bind fun y10=>cond (y10 != w7.2.1) (some (0,[],2,y8.2)) (some (w7.1,w7.2.2.1,0,y8.2))))))
def c4S:FSem:=⟨[.r false (.b Q16),.v QI],[.v QI,.o QI,.v QI],b1u⟩
def d7m:Hints:=⟨[(2042,[7,10,37,38,.own 11 11 QI,.box pinned Q16,Qp 0 pinned],[Qe 0 [7,10,.own 11 11 QI,.box pinned Q16,Qp 0 pinned]])],[],[]⟩
def a8B(s:(Int×(Int×(LI×(LI×(Z15×Z83)))))):Option ((Int×(Int×(LI×(LI×(Z15×Z83))))) ⊕ ((LI×(Z6×Z6×Z37)) ⊕ (Int×(LI×(Z6×Z37))))):=(fun(a:Int)(b c:LI)(d:Z15)(e f:Z6)=>cond (decide (a<s.1)) (cond ((decide (0≤a))&&(decide (a<(c.length:Int)))) ((b1u (d,a04 c (a00 a) 0)).bind fun y6=>cond (y6.2.2.1 != 0) (some (.inr (Sum.inr ((y6.2.2.1,[],(0,[],()),y6.2.2.2,()))))) (cond (lim ((a02 f.2.1)+1)) (cond (lim ((a02 b)+(a02 y6.2.1))) (some (.inl (s.1,wrap .i64 (a+1),a03 b y6.2.1,c,y6.2.2.2,e,(f.1,a03 f.2.1 [y6.1],f.2.2),()))) none) none)) none) (some (.inr (Sum.inl (b,e,f,d,()))))) s.2.1 s.2.2.1 s.2.2.2.1 s.2.2.2.2.1 s.2.2.2.2.2.1 s.2.2.2.2.2.2.1
def b1v(x:(Z15×Int×Int)):Option (Z6×Z62):=(a7A (x.2.1,x.2.2)).bind fun y1=>cond (!y1) (some ((0,[],()),[],1,x.1)) ((a0H (x.1,4)).bind fun y2=>(a0O y2.2).bind fun y3=>cond (y3.1 != 0) ((a0O y3.2).bind fun y4=>some ((0,[],()),[],y4.1,y4.2)) ((a3h (wrap .i64 y2.1,x.2.1,x.2.2)).bind fun y5=>cond ((y5.length:Int)==0) (some ((0,[],()),[],2,y3.2)) ((y0s a8B ((y5.length:Int),0,[],y5,y3.2,(0,[],()),(wrap .i64 y2.1,[],()),())).bind fun w7=>match w7 with |.inl a8=>some (a8.2.2.1,a8.1,0,a8.2.2.2.1) |.inr b9=>some (b9.2.2.1,b9.2.1,b9.1,b9.2.2.2.1))))
def c4T:FSem:=⟨[.r false (.b Q16),.v QI,.v QI],[.v Q11,.o QI,.v QI],b1v⟩
def d7n:Hints:=⟨[(4090,[43,44,.own 12 12 QI,.own 42 10 QI,.box pinned Q16,.box 6 Q11,.box 11 Q10,Qp 0 pinned,Qp 6 6,Qp 11 11],[Qe 0 [.own 12 12 QI,.box 6 Q11,.box 11 Q10,.box pinned Q16,Qp 6 6,Qp 11 11],Qr [8,.own 7 7 QI,.box 6 Q11,.box pinned Q16,Qp 6 6]])],[],[]⟩
def a9Z(s:(Int×Int×Bool×Int×Int×Z15×b1W)):Option ((Int×Int×Bool×Int×Int×Z15×b1W) ⊕ (Int×Int×Bool×Z15×b1W)):=(fun(a:Int)(b:Bool)(c d:Int)(e:Z15)(f g:a1B)=>cond (decide (d<c)) ((a1c (e,a)).bind fun y7=>cond (lim ((a02 g.2.2.2.2.2.2.2.2.1)+1)) (some (.inl (s.1,a,b,c,wrap .i64 (d+1),y7.2,f,(g.1,g.2.1,g.2.2.1,g.2.2.2.1,g.2.2.2.2.1,g.2.2.2.2.2.1,g.2.2.2.2.2.2.1,g.2.2.2.2.2.2.2.1,a03 g.2.2.2.2.2.2.2.2.1 [y7.1],g.2.2.2.2.2.2.2.2.2),()))) none) (some (.inr (s.1,a,b,e,f,g,())))) s.2.1 s.2.2.1 s.2.2.2.1 s.2.2.2.2.1 s.2.2.2.2.2.1 s.2.2.2.2.2.2.1 s.2.2.2.2.2.2.2.1
def b1O(x:Z32):Option (a1B×Z31):=cond (decide (x.2<1)) (some ((0,0,0,0,0,[],a01 3 0,[],[],(0,[],()),[],()),1,x.1)) (cond (decide (x.2 > 4096)) (some ((0,0,0,0,0,[],a01 3 0,[],[],(0,[],()),[],()),1,x.1)) ((a0O x.1).bind fun y1=>cond (y1.1 != 0) (some ((0,0,0,0,0,[],a01 3 0,[],[],(0,[],()),[],()),y1.1,y1.2)) ((a9t y1.2).bind fun y2=>(a0O y2.2.2.2).bind fun y3=>cond (y3.1 != 0) (some ((0,0,0,0,0,[],a01 3 0,[],[],(0,[],()),[],()),y3.1,y3.2)) ((a8c (y2.1.1,y2.1,x.2)).bind fun y4=>cond (!y4) (some ((0,0,0,0,0,[],a01 3 0,[],[],(0,[],()),[],()),2,y3.2)) ((a4K (y2.1,x.2)).bind fun y5=>(y0s a9Z (x.2,y2.2.1,y2.2.2.1,y5,0,y3.2,(0,0,0,0,0,[],a01 3 0,[],[],(0,[],()),[],()),y2.1,())).bind fun w8=>(a0O w8.2.2.2.1).bind fun y9=>cond (y9.1 != 0) (some ((0,0,0,0,0,[],a01 3 0,[],[],(0,[],()),[],()),y9.1,y9.2)) ((a6j w8.2.2.2.2.2.1.1).bind fun y10=>cond y10 ((b1v (y9.2,w8.1,(w8.2.2.2.2.2.1.2.2.2.2.2.2.2.2.1.length:Int))).bind fun y11=>cond (y11.2.2.1 != 0) (some ((0,0,0,0,0,[],a01 3 0,[],[],(0,[],()),[],()),y11.2.2.1,y11.2.2.2)) (cond (!w8.2.2.1) (some ((0,0,0,0,0,[],a01 3 0,[],[],(0,[],()),[],()),2,y11.2.2.2)) ((a1u w8.2.2.2.2.2.1.2.2.2.2.2.2.2.2.1).bind fun y12=>cond (y12 != w8.2.1) (some ((0,0,0,0,0,[],a01 3 0,[],[],(0,[],()),[],()),2,y11.2.2.2)) ((a9L ((w8.2.2.2.2.2.1.1,w8.2.2.2.2.2.1.2.1,w8.2.2.2.2.2.1.2.2.1,w8.2.2.2.2.2.1.2.2.2.1,w8.2.2.2.2.2.1.2.2.2.2.1,w8.2.2.2.2.2.1.2.2.2.2.2.1,w8.2.2.2.2.2.1.2.2.2.2.2.2.1,w8.2.2.2.2.2.1.2.2.2.2.2.2.2.1,w8.2.2.2.2.2.1.2.2.2.2.2.2.2.2.1,y11.1,y11.2.1,w8.2.2.2.2.2.1.2.2.2.2.2.2.2.2.2.2.2),w8.1)).bind fun y13=>cond (!y13) (some ((0,0,0,0,0,[],a01 3 0,[],[],(0,[],()),[],()),2,y11.2.2.2)) (some ((w8.2.2.2.2.2.1.1,w8.2.2.2.2.2.1.2.1,w8.2.2.2.2.2.1.2.2.1,w8.2.2.2.2.2.1.2.2.2.1,w8.2.2.2.2.2.1.2.2.2.2.1,w8.2.2.2.2.2.1.2.2.2.2.2.1,w8.2.2.2.2.2.1.2.2.2.2.2.2.1,w8.2.2.2.2.2.1.2.2.2.2.2.2.2.1,w8.2.2.2.2.2.1.2.2.2.2.2.2.2.2.1,y11.1,y11.2.1,w8.2.2.2.2.2.1.2.2.2.2.2.2.2.2.2.2.2),0,y11.2.2.2)))))) (cond (!w8.2.2.1) (some ((0,0,0,0,0,[],a01 3 0,[],[],(0,[],()),[],()),2,y9.2)) ((a1u w8.2.2.2.2.2.1.2.2.2.2.2.2.2.2.1).bind fun y14=>cond (y14 != w8.2.1) (some ((0,0,0,0,0,[],a01 3 0,[],[],(0,[],()),[],()),2,y9.2)) ((a9L (w8.2.2.2.2.2.1,w8.1)).bind fun y15=>cond (!y15) (some ((0,0,0,0,0,[],a01 3 0,[],[],(0,[],()),[],()),2,y9.2)) (some (w8.2.2.2.2.2.1,0,y9.2)))))))))))
def c8m:FSem:=⟨[.r false (.b Q16),.v QI],[.v Q42,.v QI],b1O⟩
def H58:Hints:=⟨[(1018,[1,8,.sv 9 .bool,47,48,.box pinned Q16,.box 4 Q42,.box 7 (.pair QI (.pair QI (.pair QI (.pair QI (.pair QI (.pair QL (.pair (.arr 3 QI) (.pair (.list false Q3) (.pair (.list true QI) Q20))))))))),Qp 0 pinned,Qp 4 4,Qp 7 7],[Qe 0 [1,8,.sv 9 .bool,.box pinned Q16,.box 4 Q42,.box 7 (.pair QI (.pair QI (.pair QI (.pair QI (.pair QI (.pair QL (.pair (.arr 3 QI) (.pair (.list false Q3) (.pair (.list true QI) Q20))))))))),Qp 0 pinned,Qp 4 4,Qp 7 7]])],[],[(14,[.r [7,50],.r [7,51],.p,.v,.w [54,1054,pinned],.q,.x,.x,.x])]⟩
def a3x(s:Z67):Option (Z67 ⊕ (Z55 ⊕ Z37)):=cond (decide (s.2.1<s.1)) ((a1G (s.2.2.1,s.2.1)).bind fun y1=>cond (y1.1==1) (some (.inr (Sum.inr (((y1.2.1,y1.2.2.1,2,y1.2.2.2.2),()))))) (some (.inl (s.1,wrap .i64 (s.2.1+1),y1.2,())))) (some (.inr (Sum.inl (s.1,s.2.2.1,()))))
def a5d(x:Z15):Option Z15:=cond (x.2.2.1 != 0) (some x) ((y0s a3x (wrap .i64 ((wrap .i64 (a08 (wrap .i64 (x.2.1+7)) 8))*8),x.2.1,x,())).bind fun w2=>match w2 with |.inl a3=>some (a3.2.1.1,a3.1,a3.2.1.2.2) |.inr b4=>some b4.1)
def b5w:FSem:=⟨[.r false (.b Q16)],[],a5d⟩
def H60:Hints:=⟨[(58,[2,3,.box pinned Q16,Qp 0 pinned],[Qe 0 [2,.box pinned Q16,Qp 0 pinned],Qr [.box pinned Q16]])],[],[]⟩
def a7T(s:(Int×Int×Int×a1V×b9o)):Option ((Int×Int×Int×a1V×b9o) ⊕ ((Int×a1V×b9o) ⊕ (Int×Int×b3B))):=(fun(a:Int)(b c:a1V)(d:Z15)=>cond (decide (a<s.2.1)) ((b1O (d,c.2.1)).bind fun y7=>cond (y7.2.1 != 0) (some (.inr (Sum.inr ((0,2,(0,0,(0,0,0,()),[],[],()),()))))) (cond (lim ((a02 c.2.2.2.2.1)+1)) (some (.inl (s.1,s.2.1,wrap .i64 (a+1),b,(c.1,c.2.1,c.2.2.1,c.2.2.2.1,a03 c.2.2.2.2.1 ([y7.1]:List a1B),c.2.2.2.2.2),y7.2.2,()))) none)) (some (.inr (Sum.inl (s.1,b,c,d,()))))) s.2.2.1 s.2.2.2.1 s.2.2.2.2.1 s.2.2.2.2.2.1
def a6p(x:LI):Option (a1V×Int×Int):=(a7S x).bind fun y1=>cond (y1.2.2.2 != 0) (some ((0,0,(0,0,0,()),[],[],()),0,y1.2.2.2)) (cond (decide ((x.length:Int)<(wrap .i64 ((wrap .i64 (y1.2.1+y1.2.2.1))+2)))) (some ((0,0,(0,0,0,()),[],[],()),0,3)) (cond ((decide (0≤(wrap .i64 (y1.2.1+y1.2.2.1))))&&(decide ((wrap .i64 (y1.2.1+y1.2.2.1))≤(x.length:Int)))) ((a6o (a07 (a00 (wrap .i64 (y1.2.1+y1.2.2.1))) x)).bind fun y2=>(m0k x (wrap .i64 (y1.2.1+y1.2.2.1))).bind fun x3=>(m0k x (wrap .i64 ((wrap .i64 (y1.2.1+y1.2.2.1))+1))).bind fun x4=>cond (y2 != (bits .u16 .or (A0n .u16 (wrap .u16 x3) 8) (wrap .u16 x4))) (some ((0,0,(0,0,0,()),[],[],()),0,5)) (cond ((decide (0≤(wrap .i64 (y1.2.1+y1.2.2.1))))&&(decide ((wrap .i64 (y1.2.1+y1.2.2.1))≤(x.length:Int)))) (cond ((decide (0≤y1.2.1))&&(decide (y1.2.1≤((a00 (wrap .i64 (y1.2.1+y1.2.2.1)):Nat):Int)))) ((b2d (a09 (a00 y1.2.1) (a07 (a00 (wrap .i64 (y1.2.1+y1.2.2.1))) x))).bind fun y5=>(y0s a7T (wrap .i64 (y1.2.1+y1.2.2.1),y1.1.2.2.1.2.1,0,(0,0,(0,0,0,()),[],[],()),y1.1,y5,())).bind fun w8=>match w8 with |.inl a9=>((a2O a9.2.2.2.1).bind fun y11=>cond (decide (y11.1≥8)) (some ((0,0,(0,0,0,()),[],[],()),0,2)) ((a5d y11.2).bind fun y12=>(a0O y12).bind fun y13=>cond (y13.1 != 0) (some ((0,0,(0,0,0,()),[],[],()),0,2)) ((a4u a9.2.2.1).bind fun y14=>cond (!y14) (some ((0,0,(0,0,0,()),[],[],()),0,2)) (some (a9.2.2.1,wrap .i64 (a9.1+2),0))))) |.inr b10=>some (b10.2.2.1,b10.1,b10.2.1)) none) none)) none))
end Go.Ab
namespace Go.Ab
open IntKind(wrap)
open Go.Proofs
set_option maxRecDepth 100000
set_option linter.unusedVariables false
def c2L:FSem:=⟨[.v QB],[.v Q60,.v QI,.v QI],a6p⟩
def H24:Hints:=⟨[(2042,[9,59,60,.box 2 Q60,.box 5 Q59,.box 1056 Q16,Qp 2 2,Qp 5 5,Qp 10 1056],[Qe 0 [9,.box 2 Q60,.box 5 Q59,.box 1056 Q16,Qp 2 2,Qp 5 5,Qp 10 1056],Qr [3,4,.box 2 Q60,Qp 2 2]])],[],[(7,[.v,.v,.v,.v,.v,.v,.v,.v,.v,.v,.v,.v,.v,.v,.v,.v,.v,.x])]⟩
def a6N(x:(LI×(Z96×Int×Int×Int))):Option (a1V×Z30):=(m0k x.2.1.2.1 x.2.2.1).bind fun x1=>cond (decide ((wrap .i64 ((x.1.length:Int)-x.2.2.2.1))<x1)) (some ((0,0,(0,0,0,()),[],[],()),(0,([]:(List LI)),()),3)) (cond ((decide (0≤(wrap .i64 (x.2.2.2.1+x1))))&&(decide ((wrap .i64 (x.2.2.2.1+x1))≤(x.1.length:Int)))) (cond ((decide (0≤x.2.2.2.1))&&(decide (x.2.2.2.1≤((a00 (wrap .i64 (x.2.2.2.1+x1)):Nat):Int)))) ((a6p (a09 (a00 x.2.2.2.1) (a07 (a00 (wrap .i64 (x.2.2.2.1+x1))) x.1))).bind fun y2=>cond (y2.2.2 != 0) (some ((0,0,(0,0,0,()),[],[],()),(0,([]:(List LI)),()),y2.2.2)) ((show Option (Bool×a1V×c2y)from cond (decide (y2.2.1<x1)) (some (true,(0,0,(0,0,0,()),[],[],()),(0,([]:(List LI)),()),y2.1,())) (cond (!(eqT Q12 y2.1.2.2.1 x.2.1.1)) (some (true,(0,0,(0,0,0,()),[],[],()),(0,([]:(List LI)),()),y2.1,())) (cond (y2.1.1 != x.2.2.2.2) (some (true,(0,0,(0,0,0,()),[],[],()),(0,([]:(List LI)),()),y2.1,())) ((m0k x.2.1.2.2.1 x.2.2.1).bind fun x3=>some (y2.1.2.1 != x3,(0,0,(0,0,0,()),[],[],()),(0,([]:(List LI)),()),y2.1,()))))).bind fun z4=>cond z4.1 (some ((0,0,(0,0,0,()),[],[],()),(0,([]:(List LI)),()),2)) ((a2f z4.2.2.2.1).bind fun y5=>cond (y5.2 != 0) (some ((0,0,(0,0,0,()),[],[],()),(0,([]:(List LI)),()),y5.2)) (some (z4.2.2.2.1,y5.1,0))))) none) none)
def b7r:FSem:=⟨[.v QB,.v Q27,.v QI,.v QI,.v QI],[.v Q60,.v Q15,.v QI],a6N⟩
def H38:Hints:=⟨[],[(126,[Qn [.sv 72 .bool,.box 10 Q60,.box 11 Q15,.box 14 Q60,Qp 10 10,Qp 11 11,Qp 14 14]])],[(7,[.v,.v,.x,.x,.q,.q,.v,.v,.x,.x,.x,.q,.q,.v,.x,.x,.x,.q,.q,.v,.v,.v,.v,.v,.x,.x]),(12,[.q,.r [17,86],.w [0,10],.x,.x])]⟩
def a6d(x:(Int×Int)):Option (Int×Int):=some (wrap .u64 ((wrap .u64 ((wrap .u64 ((A0o .u64 x.1 32)*(A0o .u64 x.2 32)))+(A0o .u64 (wrap .u64 ((wrap .u64 ((A0o .u64 x.1 32)*(bits .u64 .and x.2 4294967295)))+(A0o .u64 (wrap .u64 ((bits .u64 .and x.1 4294967295)*(bits .u64 .and x.2 4294967295))) 32))) 32)))+(A0o .u64 (wrap .u64 ((bits .u64 .and (wrap .u64 ((wrap .u64 ((A0o .u64 x.1 32)*(bits .u64 .and x.2 4294967295)))+(A0o .u64 (wrap .u64 ((bits .u64 .and x.1 4294967295)*(bits .u64 .and x.2 4294967295))) 32))) 4294967295)+(wrap .u64 ((bits .u64 .and x.1 4294967295)*(A0o .u64 x.2 32))))) 32)),wrap .u64 (x.1*x.2))
def b6A:FSem:=⟨[.v QU,.v QU],[.v QU,.v QU],a6d⟩
def a8Y(x:(Int×Int×Int)):Option (Int×Int):=cond (decide (x.2.2.toNat≤1)) (some ((((x.1.toNat+x.2.1.toNat+x.2.2.toNat)%18446744073709551616:Nat):Int),(((x.1.toNat+x.2.1.toNat+x.2.2.toNat) / 18446744073709551616:Nat):Int))) none
def b6B:FSem:=⟨[.v QU,.v QU,.v QU],[.v QU,.v QU],a8Y⟩
def b2a(x:Int):Option Int:=(show Option (Int×Int×Unit)from cond (decide (x≥4294967296)) (some (A0o .u64 x 32,32,())) (some (x,0,()))).bind fun z1=>(show Option (Int×Int×Unit)from cond (decide (z1.1≥65536)) (some (A0o .u64 z1.1 16,wrap .i64 (z1.2.1+16),())) (some (z1.1,z1.2.1,()))).bind fun z2=>(show Option (Int×Int×Unit)from cond (decide (z2.1≥256)) (some (A0o .u64 z2.1 8,wrap .i64 (z2.2.1+8),())) (some (z2.1,z2.2.1,()))).bind fun z3=>(m0k [0,1,2,2,3,3,3,3,4,4,4,4,4,4,4,4,5,5,5,5,5,5,5,5,5,5,5,5,5,5,5,5,6,6,6,6,6,6,6,6,6,6,6,6,6,6,6,6,6,6,6,6,6,6,6,6,6,6,6,6,6,6,6,6,7,7,7,7,7,7,7,7,7,7,7,7,7,7,7,7,7,7,7,7,7,7,7,7,7,7,7,7,7,7,7,7,7,7,7,7,7,7,7,7,7,7,7,7,7,7,7,7,7,7,7,7,7,7,7,7,7,7,7,7,7,7,7,7,8,8,8,8,8,8,8,8,8,8,8,8,8,8,8,8,8,8,8,8,8,8,8,8,8,8,8,8,8,8,8,8,8,8,8,8,8,8,8,8,8,8,8,8,8,8,8,8,8,8,8,8,8,8,8,8,8,8,8,8,8,8,8,8,8,8,8,8,8,8,8,8,8,8,8,8,8,8,8,8,8,8,8,8,8,8,8,8,8,8,8,8,8,8,8,8,8,8,8,8,8,8,8,8,8,8,8,8,8,8,8,8,8,8,8,8,8,8,8,8,8,8,8,8,8,8,8,8] (wrap .u8 z3.1)).bind fun x4=>some (wrap .i64 (z3.2.1+(wrap .i64 x4)))
def b6C:FSem:=⟨[.v QU],[.v QI],b2a⟩
def d7o:Hints:=⟨[],[(3,[Qn [.sv 0 QU,2]]),(7,[Qn [.sv 0 QU,2]]),(15,[Qn [.sv 0 QU,2]])],[]⟩
def a3Z(x:Int):Option Int:=(b2a x).bind fun y1=>some (wrap .i64 (64-y1))
def b1Y:FSem:=⟨[.v QU],[.v QI],a3Z⟩
def a2i(s:Z92):Option (Z92 ⊕ Z84):=(show Option (Z92 ⊕ Z84)from cond (decide (s.2.2.2.2.2.2.2.1≥4294967296)) (some (Sum.inl (s.1,s.2.1,s.2.2.1,s.2.2.2.1,s.2.2.2.2.1,s.2.2.2.2.2.1,s.2.2.2.2.2.2.1,s.2.2.2.2.2.2.2.1,s.2.2.2.2.2.2.2.2.1,()))) (cond (decide ((wrap .u64 (s.2.2.2.2.2.2.2.1*s.2.2.2.1)) > (wrap .u64 ((wrap .u64 (4294967296*s.2.2.2.2.2.2.2.2.1))+s.2.2.2.2.2.1)))) (some (Sum.inl (s.1,s.2.1,s.2.2.1,s.2.2.2.1,s.2.2.2.2.1,s.2.2.2.2.2.1,s.2.2.2.2.2.2.1,s.2.2.2.2.2.2.2.1,s.2.2.2.2.2.2.2.2.1,()))) (some (Sum.inr ((s.1,s.2.1,s.2.2.1,s.2.2.2.1,s.2.2.2.2.1,s.2.2.2.2.2.1,s.2.2.2.2.2.2.1,s.2.2.2.2.2.2.2.1,())))))).bind fun z2=>match z2 with |.inl a3=>(cond (decide ((wrap .u64 (a3.2.2.2.2.2.2.2.2.1+a3.2.2.1))≥4294967296)) (some (.inr (a3.1,a3.2.1,a3.2.2.1,a3.2.2.2.1,a3.2.2.2.2.1,a3.2.2.2.2.2.1,a3.2.2.2.2.2.2.1,wrap .u64 (a3.2.2.2.2.2.2.2.1-1),()))) (some (.inl (a3.1,a3.2.1,a3.2.2.1,a3.2.2.2.1,a3.2.2.2.2.1,a3.2.2.2.2.2.1,a3.2.2.2.2.2.2.1,wrap .u64 (a3.2.2.2.2.2.2.2.1-1),wrap .u64 (a3.2.2.2.2.2.2.2.2.1+a3.2.2.1),())))) |.inr b4=>some (.inr (b4.1,b4.2.1,b4.2.2.1,b4.2.2.2.1,b4.2.2.2.2.1,b4.2.2.2.2.2.1,b4.2.2.2.2.2.2.1,b4.2.2.2.2.2.2.2.1,()))
def a2j(s:Z92):Option (Z92 ⊕ Z56):=(show Option (Z92 ⊕ Z56)from cond (decide (s.2.2.2.2.2.2.2.2.1≥4294967296)) (some (Sum.inl (s.1,s.2.1,s.2.2.1,s.2.2.2.1,s.2.2.2.2.1,s.2.2.2.2.2.1,s.2.2.2.2.2.2.1,s.2.2.2.2.2.2.2.1,s.2.2.2.2.2.2.2.2.1,()))) (cond (decide ((wrap .u64 (s.2.2.2.2.2.2.2.2.1*s.2.2.2.1)) > (wrap .u64 ((wrap .u64 (4294967296*s.2.2.2.2.2.2.1))+s.2.2.2.2.1)))) (some (Sum.inl (s.1,s.2.1,s.2.2.1,s.2.2.2.1,s.2.2.2.2.1,s.2.2.2.2.2.1,s.2.2.2.2.2.2.1,s.2.2.2.2.2.2.2.1,s.2.2.2.2.2.2.2.2.1,()))) (some (Sum.inr ((s.1,s.2.1,s.2.2.2.2.1,s.2.2.2.2.2.1,s.2.2.2.2.2.2.2.1,s.2.2.2.2.2.2.2.2.1,())))))).bind fun z6=>match z6 with |.inl a7=>(cond (decide ((wrap .u64 (a7.2.2.2.2.2.2.1+a7.2.2.1))≥4294967296)) (some (.inr (a7.1,a7.2.1,a7.2.2.2.2.1,a7.2.2.2.2.2.1,a7.2.2.2.2.2.2.2.1,wrap .u64 (a7.2.2.2.2.2.2.2.2.1-1),()))) (some (.inl (a7.1,a7.2.1,a7.2.2.1,a7.2.2.2.1,a7.2.2.2.2.1,a7.2.2.2.2.2.1,wrap .u64 (a7.2.2.2.2.2.2.1+a7.2.2.1),a7.2.2.2.2.2.2.2.1,wrap .u64 (a7.2.2.2.2.2.2.2.2.1-1),())))) |.inr b8=>some (.inr (b8.1,b8.2.1,b8.2.2.1,b8.2.2.2.1,b8.2.2.2.2.1,b8.2.2.2.2.2.1,()))
def a3c(x:(Int×Int×Int)):Option (Int×Int):=cond (x.2.2==0) none (cond (decide (x.2.2≤x.1)) none (cond (x.1==0) (cond (x.2.2==0) none (cond (x.2.2==0) none (some (wrap .u64 (a08 x.2.1 x.2.2),a06 x.2.1 x.2.2)))) ((a3Z x.2.2).bind fun y1=>cond (decide ((wrap .u64 y1)<0)) none (cond (decide ((wrap .u64 y1)<0)) none (cond (decide ((wrap .u64 (64-(wrap .u64 y1)))<0)) none (cond (decide ((wrap .u64 y1)<0)) none (cond ((A0o .u64 (A0n .u64 x.2.2 (wrap .u64 y1)) 32)==0) none ((y0s a2i (A0n .u64 x.2.2 (wrap .u64 y1),wrap .u64 y1,A0o .u64 (A0n .u64 x.2.2 (wrap .u64 y1)) 32,bits .u64 .and (A0n .u64 x.2.2 (wrap .u64 y1)) 4294967295,bits .u64 .or (A0n .u64 x.1 (wrap .u64 y1)) (A0o .u64 x.2.1 (wrap .u64 (64-(wrap .u64 y1)))),A0o .u64 (A0n .u64 x.2.1 (wrap .u64 y1)) 32,bits .u64 .and (A0n .u64 x.2.1 (wrap .u64 y1)) 4294967295,wrap .u64 (a08 (bits .u64 .or (A0n .u64 x.1 (wrap .u64 y1)) (A0o .u64 x.2.1 (wrap .u64 (64-(wrap .u64 y1))))) (A0o .u64 (A0n .u64 x.2.2 (wrap .u64 y1)) 32)),wrap .u64 ((bits .u64 .or (A0n .u64 x.1 (wrap .u64 y1)) (A0o .u64 x.2.1 (wrap .u64 (64-(wrap .u64 y1)))))-(wrap .u64 ((wrap .u64 (a08 (bits .u64 .or (A0n .u64 x.1 (wrap .u64 y1)) (A0o .u64 x.2.1 (wrap .u64 (64-(wrap .u64 y1))))) (A0o .u64 (A0n .u64 x.2.2 (wrap .u64 y1)) 32)))*(A0o .u64 (A0n .u64 x.2.2 (wrap .u64 y1)) 32)))),())).bind fun w5=>cond (w5.2.2.1==0) none ((y0s a2j (w5.1,w5.2.1,w5.2.2.1,w5.2.2.2.1,w5.2.2.2.2.2.2.1,w5.2.2.2.2.2.2.2.1,wrap .u64 ((wrap .u64 ((wrap .u64 ((wrap .u64 (w5.2.2.2.2.1*4294967296))+w5.2.2.2.2.2.1))-(wrap .u64 (w5.2.2.2.2.2.2.2.1*w5.1))))-(wrap .u64 ((wrap .u64 (a08 (wrap .u64 ((wrap .u64 ((wrap .u64 (w5.2.2.2.2.1*4294967296))+w5.2.2.2.2.2.1))-(wrap .u64 (w5.2.2.2.2.2.2.2.1*w5.1)))) w5.2.2.1))*w5.2.2.1))),wrap .u64 ((wrap .u64 ((wrap .u64 (w5.2.2.2.2.1*4294967296))+w5.2.2.2.2.2.1))-(wrap .u64 (w5.2.2.2.2.2.2.2.1*w5.1))),wrap .u64 (a08 (wrap .u64 ((wrap .u64 ((wrap .u64 (w5.2.2.2.2.1*4294967296))+w5.2.2.2.2.2.1))-(wrap .u64 (w5.2.2.2.2.2.2.2.1*w5.1)))) w5.2.2.1),())).bind fun w9=>cond (decide (w9.2.1<0)) none (some (wrap .u64 ((wrap .u64 (w9.2.2.2.1*4294967296))+w9.2.2.2.2.2.1),A0o .u64 (wrap .u64 ((wrap .u64 ((wrap .u64 (w9.2.2.2.2.1*4294967296))+w9.2.2.1))-(wrap .u64 (w9.2.2.2.2.2.1*w9.1)))) w9.2.1)))))))))))
def b6D:FSem:=⟨[.v QU,.v QU,.v QU],[.v QU,.v QU],a3c⟩
def d7p:Hints:=⟨[(131068,[.sv 2 QU,.sv 8 QU,.sv 9 QU,.sv 10 QU,.sv 11 QU,.sv 13 QU,.sv 14 QU,.sv 15 QU,.sv 16 QU],[Qe 0 [.sv 2 QU,.sv 8 QU,.sv 9 QU,.sv 10 QU,.sv 11 QU,.sv 13 QU,.sv 14 QU,.sv 15 QU]]),(2097148,[.sv 2 QU,.sv 8 QU,.sv 9 QU,.sv 10 QU,.sv 14 QU,.sv 15 QU,.sv 16 QU,.sv 17 QU,.sv 18 QU],[Qe 2 [.sv 2 QU,.sv 8 QU,.sv 14 QU,.sv 15 QU,.sv 17 QU,.sv 18 QU]])],[(262136,[Qn [.sv 2 QU,.sv 8 QU,.sv 9 QU,.sv 10 QU,.sv 11 QU,.sv 13 QU,.sv 14 QU,.sv 15 QU,.sv 16 QU],Qe 0 [.sv 2 QU,.sv 8 QU,.sv 9 QU,.sv 10 QU,.sv 11 QU,.sv 13 QU,.sv 14 QU,.sv 15 QU]]),(4194296,[Qn [.sv 2 QU,.sv 8 QU,.sv 9 QU,.sv 10 QU,.sv 14 QU,.sv 15 QU,.sv 16 QU,.sv 17 QU,.sv 18 QU],Qe 2 [.sv 2 QU,.sv 8 QU,.sv 14 QU,.sv 15 QU,.sv 17 QU,.sv 18 QU]])],[(6,[.v,.v,.v,.v,.v,.v,.v,.x])]⟩
def a8Z(x:(Int×Int×Int)):Option Int:=cond (x.2.2==0) none ((a3c (a06 x.1 x.2.2,x.2.1,x.2.2)).bind fun y1=>some y1.2)
def b6E:FSem:=⟨[.v QU,.v QU,.v QU],[.v QU],a8Z⟩
def a5U(x:(Int×Int×Int)):Option Int:=(a6d (x.1,x.2.1)).bind fun y1=>(a8Y (y1.2,x.2.2,0)).bind fun y2=>(a8Z (wrap .u64 (y1.1+y2.2),y2.1,2305843009213693951)).bind fun y3=>some y3
def c4U:FSem:=⟨[.v QU,.v QU,.v QU],[.v QU],a5U⟩
def a7U(s:Z8):Option (Z8 ⊕ (Int×Unit)):=(fun(a b c:Int)=>cond (decide (a > 0)) ((show Option Z8 from cond ((a06 a 2)==1) ((a5U (b,c,0)).bind fun y1=>some (a,y1,c,())) (some (a,b,c,()))).bind fun z2=>(a5U (z2.2.2.1,z2.2.2.1,0)).bind fun y3=>some (.inl (wrap .i64 (a08 z2.1 2),z2.2.1,y3,()))) (some (.inr (b,())))) s.1 s.2.1 s.2.2.1
def b0A(x:Int):Option Int:=(y0s a7U (v0r x 0,1,1000003,())).bind fun w4=>some w4.1
def c2M:FSem:=⟨[.v QI],[.v QU],b0A⟩
def H69:Hints:=⟨[(58,[0,.sv 3 QU,.sv 4 QU],[Qe 0 [.sv 3 QU]])],[(932,[Qn [0,.sv 3 QU,.sv 4 QU]])],[]⟩
def a9k(x:(Int×Int×Int)):Option (Int×Bool):=(show Option Z24 from cond (decide (x.1≥2305843009213693951)) (some (x.1,x.2.1,x.2.2,true,())) (cond (decide (x.2.1≥2305843009213693951)) (some (x.1,x.2.1,x.2.2,true,())) (some (x.1,x.2.1,x.2.2,decide (x.2.2<0),())))).bind fun z1=>cond z1.2.2.2.1 (some (0,false)) ((b0A z1.2.2.1).bind fun y2=>(a5U (z1.1,y2,z1.2.1)).bind fun y3=>some (y3,true))
def c4V:FSem:=⟨[.v QU,.v QU,.v QI],[.v QU,.v .bool],a9k⟩
def H29:Hints:=⟨[],[(6,[Qn [.sv 0 QU,.sv 1 QU,2,.sv 17 .bool]])],[]⟩
def a6O(s:(Int×(Int×(Int×((List LI)×Z88))))):Option ((Int×(Int×(Int×((List LI)×Z88)))) ⊕ Z88):=(fun(a:Int)(b:List LI)(c d:Int)(e:LI)(f:Z13)=>cond (decide (d<c)) ((m0k b d).bind fun x3=>(m0k x3 s.1).bind fun x4=>cond (lim ((a02 e)+1)) (some (.inl (s.1,s.2.1,a,b,c,wrap .i64 (d+1),a03 e [x4],f,()))) none) (some (.inr (s.2.1,a,e,f,())))) s.2.2.1 s.2.2.2.1 s.2.2.2.2.1 s.2.2.2.2.2.1 s.2.2.2.2.2.2.1 s.2.2.2.2.2.2.2.1
def a6P(s:Z88):Option (Z88 ⊕ (LI×Unit)):=cond (decide (s.2.1<s.1)) ((y0s a6O (s.2.1,s.1,s.2.1,s.2.2.2.1.2.1,(s.2.2.2.1.2.1.length:Int),0,s.2.2.1,s.2.2.2.1,())).bind fun w5=>some (.inl (w5.1,wrap .i64 (w5.2.1+1),w5.2.2.1,w5.2.2.2.1,()))) (some (.inr (s.2.2.1,())))
def a7k(x:Z13):Option LI:=(a3v x).bind fun y1=>cond (!y1) (some []) ((a3u x).bind fun y2=>(y0s a6P (y2,0,[],x,())).bind fun w6=>some w6.1)
def c1P:FSem:=⟨[.v Q15],[.o QI],a7k⟩
def H41:Hints:=⟨[(122,[11,12,.own 3 3 QI,.vp 1 Q15],[Qe 0 [.own 3 3 QI]]),(31334,[4,11,12,.sv 16 (.list false QL),17,18,.own 3 3 QI,.vp 1 Q15],[Qe 2 [11,12,.own 3 3 QI,.vp 1 Q15]])],[],[]⟩
def a4N(s:(Int×(Int×(Int×(LI×(Int×Z35)))))):Option ((Int×(Int×(Int×(LI×(Int×Z35))))) ⊕ Z78):=(fun(a:Int)(b:LI)(c d e f:Int)(g:LI)=>cond (decide (f<e)) (cond (decide ((wrap .i64 (8*f))<0)) none (cond (lim ((a02 g)+1)) (some (.inl (s.1,s.2.1,a,b,c,d,e,wrap .i64 (f+1),a03 g [wrap .u8 (bits .i64 .and (A0o .i64 a (wrap .i64 (8*f))) 255)],()))) none)) (some (.inr (s.1,s.2.1,b,c,d,g,())))) s.2.2.1 s.2.2.2.1 s.2.2.2.2.1 s.2.2.2.2.2.1 s.2.2.2.2.2.2.1 s.2.2.2.2.2.2.2.1 s.2.2.2.2.2.2.2.2.1
def a6Q(s:Z78):Option (Z78 ⊕ Z51):=(fun(a:LI)(b c:Int)(d:LI)=>cond (decide (c<b)) ((m0k a c).bind fun x2=>(a2e (x2,s.1)).bind fun y3=>cond (!y3) (some (.inr (Sum.inr ((6,[],()))))) ((y0s a4N (s.1,s.2.1,x2,a,b,c,s.2.1,0,d,())).bind fun w4=>some (.inl (w4.1,w4.2.1,w4.2.2.1,w4.2.2.2.1,wrap .i64 (w4.2.2.2.2.1+1),w4.2.2.2.2.2.1,())))) (some (.inr (Sum.inl (d,()))))) s.2.2.1 s.2.2.2.1 s.2.2.2.2.1 s.2.2.2.2.2.1
def a9v(x:(LI×Int)):Option (LI×Int):=(show Option Z19 from cond (decide (x.2<4)) (some (x.1,x.2,true,())) (some (x.1,x.2,decide (x.2 > 24),()))).bind fun z1=>cond z1.2.2.1 (some ([],1)) ((y0s a6Q (z1.2.1,wrap .i64 (a08 (wrap .i64 (z1.2.1+7)) 8),z1.1,(z1.1.length:Int),0,[],())).bind fun w5=>match w5 with |.inl a6=>some (a6.1,0) |.inr b7=>some (b7.2.1,b7.1))
def c1Q:FSem:=⟨[.v QL,.v QI],[.o QV,.v QI],a9v⟩
def d7q:Hints:=⟨[(250,[1,6,.sv 20 QL,21,22,.own 7 7 QV],[Qe 0 [.own 7 7 QV],Qr [5,.own 4 4 QV]]),(128206,[1,6,9,.sv 20 QL,21,22,30,31,.own 7 7 QV],[Qe 2 [1,6,.sv 20 QL,21,22,.own 7 7 QV]])],[(6,[Qn [.sv 0 QL,1,.sv 16 .bool]])],[]⟩
def a8f(x:Z13):Option (LI×Int):=(a3v x).bind fun y1=>cond (!y1) (some ([],1)) ((a7k x).bind fun y2=>(a9v (y2,x.1)).bind fun y3=>some (y3.1,y3.2))
def c2N:FSem:=⟨[.v Q15],[.o QV,.v QI],a8f⟩
def H76:Hints:=⟨[],[],[(3,[.v,.q,.v,.v,.x,.q,.q,.x,.x])]⟩
def a7V(s:Z31):Option Z68:=(fun(a b:Int)=>cond (decide (b<a)) ((m0k s.2.1 b).bind fun x1=>(a5U (s.1,1000003,wrap .u64 ((wrap .u64 x1)+1))).bind fun y2=>some (.inl (y2,s.2.1,a,wrap .i64 (b+1),()))) (some (.inr (s.1,())))) s.2.2.1 s.2.2.2.1
def a8g(x:LI):Option Int:=(y0s a7V (0,x,(x.length:Int),0,())).bind fun w3=>some w3.1
def c2O:FSem:=⟨[.v QB],[.v QU],a8g⟩
def H77:Hints:=⟨[(58,[.sv 3 QU,.sv 6 QB,7,8],[Qe 0 [.sv 3 QU]])],[],[]⟩
def a4E(x:Z29):Option (Int×Bool):=(a8f x.2).bind fun y1=>cond (y1.2 != 0) (some (0,false)) ((a8g y1.1).bind fun y2=>(a9k (x.1,y2,(y1.1.length:Int))).bind fun y3=>some (y3.1,y3.2))
def b9v:FSem:=⟨[.v QU,.v Q15],[.v QU,.v .bool],a4E⟩
def a3P(s:(LI×(Int×(LI×(Int×Int×a3X×Z96×b0W))))):Option ((LI×(Int×(LI×(Int×Int×a3X×Z96×b0W)))) ⊕ ((LI×(Int×a3X×Z96×b0W)) ⊕ d3e)):=(fun(a:Int)(b:LI)(c d:Int)(e:a3X)(f:Z96)(g:a3X)=>cond (decide (d<c)) ((m0k b d).bind fun x2=>(a6N (s.1,f,d,a,g.2.1)).bind fun y3=>cond (y3.2.2 != 0) (some (.inr (Sum.inr ((y3.2.2,((0,0,0,()),0,0,[],[],()),()))))) ((a4E (g.2.2.1,y3.2.1)).bind fun y4=>cond (lim ((a02 g.2.2.2.1)+1)) (cond (lim ((a02 g.2.2.2.2.1)+1)) (some (.inl (s.1,wrap .i64 (a+x2),b,c,wrap .i64 (d+1),e,f,(g.1,wrap .i64 (g.2.1+y3.1.2.1),y4.1,a03 g.2.2.2.1 ([(g.2.1,wrap .i64 (a-f.2.2.2.2.2.1),())]:List (Int×Int×Unit)),a03 g.2.2.2.2.1 ([y3.1]:List a1V),g.2.2.2.2.2),()))) none) none)) (some (.inr (Sum.inl (s.1,a,e,f,g,()))))) s.2.1 s.2.2.1 s.2.2.2.1 s.2.2.2.2.1 s.2.2.2.2.2.1 s.2.2.2.2.2.2.1 s.2.2.2.2.2.2.2.1
def a1E(x:LI):Option (a3X×Int):=(a5u x).bind fun y1=>cond (y1.2 != 0) (some (((0,0,0,()),0,0,[],[],()),y1.2)) ((y0s a3P (x,y1.1.2.2.2.2.2.1,y1.1.2.1,(y1.1.2.1.length:Int),0,((0,0,0,()),0,0,[],[],()),y1.1,(y1.1.1,0,0,[],[],()),())).bind fun w5=>match w5 with |.inl a6=>(cond (decide (a6.2.1<(a6.1.length:Int))) (some (((0,0,0,()),0,0,[],[],()),2)) (cond (a6.2.2.2.2.1.2.2.1 != a6.2.2.2.1.2.2.2.2.1) (some (((0,0,0,()),0,0,[],[],()),5)) (some (a6.2.2.2.2.1,0)))) |.inr b7=>some (b7.2.1,b7.1))
def c2P:FSem:=⟨[.v QB],[.v Q74,.v QI],a1E⟩
def H14:Hints:=⟨[(506,[.sv 0 QB,7,.sv 28 QL,29,30,.box 2 Q74,.box 4 Q27,.box 6 Q73,Qp 2 2,Qp 4 4,Qp 6 6],[Qe 0 [.sv 0 QB,7,.box 2 Q74,.box 4 Q27,.box 6 Q73,Qp 2 2,Qp 4 4,Qp 6 6],Qr [3,.box 2 Q74,Qp 2 2]])],[],[]⟩
def a8h(s:(Z16×Z29)):Option ((Z16×Z29) ⊕ (Z2 ⊕ ((List LI)×(Int×Unit)))):=cond (decide (s.2.2.1<s.2.1)) ((m0k s.1 s.2.2.1).bind fun x5=>(a8d (s.2.2.2.1,x5,1)).bind fun y6=>cond (!y6.1) (some (.inr (Sum.inr ((([]:(List LI)),6,()))))) (some (.inl (s.1,s.2.1,wrap .i64 (s.2.2.1+1),y6.2,())))) (some (.inr (Sum.inl (s.2.2.2.1,()))))
def b1P(x:((List LI)×Z16)):Option ((List LI)×Int):=(show Option ((List LI)×(Z16×Bool×Unit))from(a7C x.1).bind fun y1=>cond (!y1) (some (x.1,x.2,true,())) ((a8v (x.2,(x.1.length:Int))).bind fun y2=>some (x.1,x.2,!y2,()))).bind fun z3=>cond z3.2.2.1 (some (([]:(List LI)),1)) ((a7i z3.1).bind fun y4=>(y0s a8h (z3.2.1,(z3.2.1.length:Int),0,y4,())).bind fun w7=>match w7 with |.inl a8=>some (a8.1,0) |.inr b9=>some (b9.1,b9.2.1))
def c8n:FSem:=⟨[.v (.list false QL),.v (.list false Q12)],[.v (.list false QL),.v QI],b1P⟩
def H47:Hints:=⟨[(122,[.sv 21 (.list false Q12),22,23,.own 6 6 (.list true QI)],[Qe 0 [.own 6 6 (.list true QI)],Qr [.sv 4 (.list false QL),5]])],[(6,[Qn [.sv 0 (.list false QL),.sv 1 (.list false Q12),.sv 18 .bool]])],[]⟩
def a6R(s:(Int×(LI×Z46))):Option ((Int×(LI×Z46)) ⊕ Z46):=(fun(a:LI)(b:Int)(c:List LI)(d e:Int)=>cond (decide (b<(a.length:Int))) ((m0k a b).bind fun x3=>(m0k a (wrap .i64 (b-1))).bind fun x4=>(m0k a (wrap .i64 (b-2))).bind fun x5=>some (.inl (wrap .i64 (s.1+(v0r (wrap .i64 ((wrap .i64 (x3-(wrap .i64 (2*x4))))+x5)) (wrap .i64 (0-(wrap .i64 ((wrap .i64 (x3-(wrap .i64 (2*x4))))+x5)))))),a,wrap .i64 (b+1),c,d,e,()))) (some (.inr (s.1,c,d,e,())))) s.2.1 s.2.2.1 s.2.2.2.1 s.2.2.2.2.1 s.2.2.2.2.2.1
def a6S(s:Z46):Option (Z46 ⊕ (Int×Unit)):=(fun(a b:Int)=>cond (decide (b<a)) ((m0k s.2.1 b).bind fun x2=>(y0s a6R (s.1,x2,2,s.2.1,a,b,())).bind fun w6=>some (.inl (w6.1,w6.2.1,w6.2.2.1,wrap .i64 (w6.2.2.2.1+1),()))) (some (.inr (s.1,())))) s.2.2.1 s.2.2.2.1
def a7l(x:(List LI)):Option Int:=(a7C x).bind fun y1=>cond (!y1) (some 0) ((y0s a6S (0,x,(x.length:Int),0,())).bind fun w7=>some w7.1)
def c1R:FSem:=⟨[.v (.list false QL)],[.v QI],a7l⟩
def d7r:Hints:=⟨[(122,[3,.sv 11 (.list false QL),12,13],[Qe 0 [3]]),(31334,[3,.sv 5 QL,6,.sv 11 (.list false QL),12,13],[Qe 2 [3,.sv 11 (.list false QL),12,13]])],[],[(10,[.v,.v,.v,.v,.v,.v,.v,.v,.v,.v,.v,.v,.v,.v,.v,.v,.x,.x])]⟩
def b0B(x:Int):Option Z16:=cond (x==1) (some ([(0,1,(-256),())]:List Z8)) (cond (x==2) (some ([(1,0,(-256),())]:List Z8)) (cond (x==3) (some ([(1,0,(-256),()),(0,1,128,())]:List Z8)) (cond (x==4) (some ([(1,0,(-106),()),(0,1,181,()),(1,0,(-106),())]:List Z8)) (some []))))
def c2Q:FSem:=⟨[.v QI],[.o Q12],b0B⟩
def a6q(s:((List LI)×Z8)):Option (((List LI)×Z8) ⊕ (Int×Unit)):=(fun(a:List LI)(b c d:Int)=>cond (decide (d<5)) ((b0B d).bind fun y2=>(b1P (a,y2)).bind fun y3=>cond (y3.2 != 0) (some (.inl (a,b,c,wrap .i64 (d+1),()))) ((a7l y3.1).bind fun y4=>cond (decide (y4<c)) (some (.inl (a,d,y4,wrap .i64 (d+1),()))) (some (.inl (a,b,c,wrap .i64 (d+1),()))))) (some (.inr (b,())))) s.1 s.2.1 s.2.2.1 s.2.2.2.1
def b1w(x:(List LI)):Option Z16:=(a7l x).bind fun y1=>(y0s a6q (x,0,y1,1,())).bind fun w5=>(b0B w5.1).bind fun y6=>some y6
def c4W:FSem:=⟨[.v (.list false QL)],[.o Q12],b1w⟩
def H86:Hints:=⟨[(58,[.sv 0 (.list false QL),3,4,5],[Qe 0 [3]])],[],[]⟩
def a6r(s:(Int×Int×Int×Z16×Z94)):Option ((Int×Int×Int×Z16×Z94) ⊕ (Int×Z94)):=(fun(a b:Int)(c d:Z16)(e:Z13)=>cond (decide (b<s.2.1)) (cond ((decide (0≤b))&&(decide (b<(d.length:Int)))) (cond (lim ((a02 c)+1)) (some (.inl (a,s.2.1,wrap .i64 (b+1),a03 c ([(wrap .i64 (((a04 d (a00 b) (0,0,0,())).1)+a),wrap .i64 ((((a04 d (a00 b) (0,0,0,())).2).1)+a),(((a04 d (a00 b) (0,0,0,())).2).2).1,())]:List Z8),d,e,()))) none) none) (some (.inr (a,c,e,())))) s.1 s.2.2.1 s.2.2.2.1 s.2.2.2.2.1 s.2.2.2.2.2.1
def a8C(s:(Int×Z94)):Option ((Int×Z94) ⊕ (Z16×Unit)):=(fun(a:Int)(b:Z13)=>cond (decide ((wrap .i64 (a+1))<(b.2.1.length:Int))) (cond ((decide (0≤(wrap .i64 (a+2))))&&(decide ((wrap .i64 (a+2))≤(b.2.1.length:Int)))) (cond ((decide (0≤a))&&(decide (a≤((a00 (wrap .i64 (a+2)):Nat):Int)))) ((b1w (a09 (a00 a) (a07 (a00 (wrap .i64 (a+2))) b.2.1))).bind fun y2=>(y0s a6r (a,(y2.length:Int),0,s.2.1,y2,b,())).bind fun w3=>some (.inl (wrap .i64 (w3.1+2),w3.2.1,w3.2.2.1,()))) none) none) (some (.inr (s.2.1,())))) s.1 s.2.2.1
def a7D(x:Z13):Option Z16:=(a3v x).bind fun y1=>cond (!y1) (some []) ((y0s a8C (0,[],x,())).bind fun w4=>some w4.1)
def c4X:FSem:=⟨[.v Q15],[.o Q12],a7D⟩
def H46:Hints:=⟨[(122,[4,.own 3 3 Q12,.vp 1 Q15],[Qe 0 [.own 3 3 Q12]]),(7826,[4,25,26,.own 3 3 Q12,.own 24 1024 Q12,.vp 1 Q15],[Qe 2 [4,.own 3 3 Q12,.vp 1 Q15]])],[],[]⟩
def a6T(s:Z61):Option (Z61 ⊕ Z51):=(fun(a:Int)(b:LI)(c d:Int)(e:LI)=>cond (decide (d<c)) ((m0k b d).bind fun x2=>(show Option (Int×(Int×(LI×(Int×Int×Z9))))from(a5m x2).bind fun y3=>cond (!y3) (some (a,x2,b,c,d,true,e,())) (cond (decide (a<0)) none (cond ((A0n .i64 1 a)==0) none (some (a,x2,b,c,d,(a06 x2 (A0n .i64 1 a)) != 0,e,()))))).bind fun z4=>cond z4.2.2.2.2.2.1 (some (.inr (Sum.inr ((6,[],()))))) (cond (decide (z4.1<0)) none (cond (lim ((a02 z4.2.2.2.2.2.2.1)+1)) (some (.inl (z4.1,z4.2.2.1,z4.2.2.2.1,wrap .i64 (z4.2.2.2.2.1+1),a03 z4.2.2.2.2.2.2.1 [A0o .i64 z4.2.1 z4.1],()))) none))) (some (.inr (Sum.inl (e,()))))) s.1 s.2.1 s.2.2.1 s.2.2.2.1 s.2.2.2.2.1
def a7m(x:(LI×Int)):Option (LI×Int):=(show Option Z19 from cond (decide (x.2<0)) (some (x.1,x.2,true,())) (some (x.1,x.2,decide (x.2 > 30),()))).bind fun z1=>cond z1.2.2.1 (some ([],1)) ((y0s a6T (z1.2.1,z1.1,(z1.1.length:Int),0,[],())).bind fun w5=>match w5 with |.inl a6=>some (a6.1,0) |.inr b7=>some (b7.2.1,b7.1))
def c1S:FSem:=⟨[.v QL,.v QI],[.o QI,.v QI],a7m⟩
def H92:Hints:=⟨[(122,[1,.sv 15 QL,16,17,.own 6 6 QI],[Qe 0 [.own 6 6 QI],Qr [5,.own 4 4 QI]])],[(6,[Qn [.sv 0 QL,1,.sv 14 .bool]]),(15666,[Qn [1,8,.sv 15 QL,16,17,.sv 30 .bool,.own 6 6 QI]])],[]⟩
def a1H(x:Int):Option Int:=cond (x==0) (some 64) ((m0k b1o (A0o .u64 (wrap .u64 ((bits .u64 .and x (wrap .u64 (0-x)))*285870213051353865)) 58)).bind fun x1=>some (wrap .i64 x1))
def a1r:FSem:=⟨[.v QU],[.v QI],a1H⟩
def b0C:Cx:=b5B [] [] 5 0
theorem b6M{ρ:Type}{cx:Cx}{ops:List Oper}:∀(l1 l2:List (Md×Oper)) (Γ:AE) (K:AE→Rs ρ),h0m cx ops (l1++l2) Γ K=h0m cx ops l1 Γ fun Γ'=>h0m cx ops l2 Γ' K
 | [],_,_,_=>rfl
 |(md,o)::l1,l2,Γ,K=>by
  simp only[a20,h0m];congr 1;funext Γ';exact b6M l1 l2 Γ' K
theorem b5J{ρ:Type}{cx:Cx}{H:Hints}{a b:Code}{p:Nat}(h:find H.cuts p=none)(Γ:AE)(K:Ex→AE→Rs ρ):c0n cx H (.seq a b) p Γ K=c0n cx H a (2*p) Γ fun e Γ'=>match e with
   |.normal=>c0n cx H b (2*p+1) Γ' K
   |e=>K e Γ':=by
 simp only[c0n,h];rfl
theorem c2R{ρ:Type}{cx:Cx}{H:Hints}{id:Nat}{ops:Array Oper}{p:Nat}(Γ:AE)(K:Ex→AE→Rs ρ):c0n cx H (.region id ops false) p Γ K=h0m cx ops.toList (ops.toList.map fun o=>(.x,o)) Γ fun Γ'=>K .normal Γ':=by
 simp only[c0n,cF]
def a9M:Code:=match Tryz.f134.body with
 |some c=>c
 |none=>.skip
def b9w:Code→Code
 |.seq a _=>a
 |c=>c
def c6F:Code→Code
 |.seq _ b=>b
 |c=>c
def c8o:Code→Array Oper
 |.region _ ops _=>ops
 |_=>#[]
def c5R:Code:=c6F (c6F a9M)
def b2F:List Oper:=(c8o (b9w c5R)).toList
def Γ134(x:Int):AE:=(((ini [.v QU] x).set 2 (.val QI (0:Int))).set 3 (.val QU x)).set 4 (.val .bool (x==(0:Int)))
def Γ134r(x:Int):AE:=(Γ134 x).set 2 (.val QI (64:Int))
def c2S(e:Ex)(Γ:AE):Option Int:=match e,Γ.pd with
  |.exit _,_=>none
  |_,some _=>none
  |_,none=>(Γ.upto Tryz.f134.ntmps).outs b0C [] Tryz.f134.ntmps [.v QI] (Tryz.f134.results.toList.map .inl) fun y _=>some y
def Γ134b(x a b c i:Int):AE:=((((((Γ134 x).set 5 (.val QU x)).set 6 (.val QU x)).set 7 (.val QU a)).set 8 (.val QU b)).set 9 (.val QU c)).set 10 (.val QU i)
set_option maxRecDepth 100000
theorem c9H:a9M=.seq (b9w a9M) (.seq (b9w (c6F a9M)) (.seq (.region 3 (c8o (b9w c5R)) false) .ret)):=by kernel_rfl
theorem d2k(x:Int):A0j b0C QH Tryz.f134 a1r.ps a1r.rs x=c0n b0C QH a9M 1 (ini [.v (.int .u64)] x) c2S:=rfl
theorem d2l(x:Int)(K:Ex→AE→Option Int):c0n b0C QH (b9w a9M) 2 (ini [.v (.int .u64)] x) K=K .normal ((ini [.v (.int .u64)] x).set 2 (.val (.int .i64) (0:Int))):=by kernel_rfl
theorem d2m(x:Int)(K:Ex→AE→Option Int):c0n b0C QH (b9w (c6F a9M)) 6 ((ini [.v (.int .u64)] x).set 2 (.val (.int .i64) (0:Int))) K=bif x==(0:Int)then K .ret (Γ134r x)else K .normal (Γ134 x):=by kernel_rfl
theorem d2n(x:Int):c2S .ret (Γ134r x)=some (64:Int):=by kernel_rfl
theorem d2o(x:Int)(K:AE→Option Int):h0m b0C b2F ((b2F.map fun o=>(Md.x,o)).take 6) (Γ134 x) K =
  K (Γ134b x (wrap .u64 (0-x)) (bits .u64 .and x (wrap .u64 (0-x))) (wrap .u64 ((bits .u64 .and x (wrap .u64 (0-x)))*(285870213051353865:Int))) (A0o .u64 (wrap .u64 ((bits .u64 .and x (wrap .u64 (0-x)))*(285870213051353865:Int))) (58:Int))):=by kernel_rfl
theorem d2p(x a b c i:Int):h0m b0C b2F ((b2F.map fun o=>(Md.x,o)).drop 6) (Γ134b x a b c i) (fun Γ=>c2S .ret Γ)=(m0k b1o i).bind fun h=>some (wrap .i64 h):=by kernel_rfl
theorem d2q(x:Int):h0m b0C b2F (b2F.map fun o=>(Md.x,o)) (Γ134 x) (fun Γ=>c2S .ret Γ)=(m0k b1o (A0o .u64 (wrap .u64 ((bits .u64 .and x (wrap .u64 (0-x)))*(285870213051353865:Int))) (58:Int))).bind fun h=>some (wrap .i64 h):=by
 rw[←List.take_append_drop 6 (b2F.map fun o=>(Md.x,o)),b6M,d2o,d2p]
theorem d3j(x:Int):c0n b0C QH a9M 1 (ini [.v (.int .u64)] x) c2S=a1H x:=by
 rw[c9H,b5J rfl,d2l];simp only[];rw[b5J rfl,d2m];simp only[];rw[b5J rfl,c2R];simp only[c0n];rw[d2n];exact congrArg (fun z=>bif x==(0:Int)then some (64:Int)else z) (d2q x)
theorem d4G(x):A0j b0C QH Tryz.f134 a1r.ps a1r.rs x=a1r.F x:=(d2k x).trans (d3j x)
def a5A(s:Z31):Option Z68:=(fun(a b:Int)=>cond (decide (b<a)) ((m0k s.2.1 b).bind fun x1=>some (.inl (bits .i64 .or s.1 x1,s.2.1,a,wrap .i64 (b+1),()))) (some (.inr (s.1,())))) s.2.2.1 s.2.2.2.1
def a3Q(x:LI):Option Int:=(y0s a5A (0,x,(x.length:Int),0,())).bind fun w2=>cond (w2.1==0) (some 0) ((a1H (wrap .u64 w2.1)).bind fun y3=>some (v0s y3 30))
def b8b:FSem:=⟨[.v QL],[.v QI],a3Q⟩
def H93:Hints:=⟨[(58,[3,.sv 6 QL,7,8],[Qe 0 [3]])],[],[]⟩
def a5B(s:Z35):Option (Z35 ⊕ Z17):=(fun(a b:Int)(c:LI)=>cond (decide ((wrap .i64 (a+1))<(c.length:Int))) (cond ((decide (0≤(wrap .i64 (a+1))))&&(decide ((wrap .i64 (a+1))<(c.length:Int)))) (cond ((decide (0≤a))&&(decide (a<(c.length:Int)))) (cond ((decide (0≤a))&&(decide (a<(c.length:Int)))) (some (.inl (wrap .i64 (a+1),s.2.1,b,a05 c (a00 a) (wrap .i64 ((a04 c (a00 (wrap .i64 (a+1))) 0)-(a04 c (a00 a) 0))),()))) none) none) none) (some (.inr (s.2.1,b,c,())))) s.1 s.2.2.1 s.2.2.2.1
def a7W(s:Z17):Option (Z17 ⊕ (LI×Unit)):=cond (decide (s.2.1<s.1)) ((y0s a5B (0,s.1,s.2.1,s.2.2.1,())).bind fun w3=>cond ((decide (0≤(wrap .i64 ((w3.2.2.1.length:Int)-1))))&&(decide ((wrap .i64 ((w3.2.2.1.length:Int)-1))≤(w3.2.2.1.length:Int)))) (cond (decide ((a00 (wrap .i64 ((w3.2.2.1.length:Int)-1)))≤(a02 w3.2.2.1))) (some (.inl (w3.1,wrap .i64 (w3.2.1+1),a07 (a00 (wrap .i64 ((w3.2.2.1.length:Int)-1))) w3.2.2.1,()))) none) none) (some (.inr (s.2.2.1,())))
def a4O(x:(LI×Int)):Option (LI×Int):=(show Option Z19 from cond (decide (x.2<0)) (some (x.1,x.2,true,())) (cond (decide (x.2 > 4)) (some (x.1,x.2,true,())) (some (x.1,x.2,decide ((x.1.length:Int)<x.2),())))).bind fun z1=>cond z1.2.2.1 (some ([],1)) ((a2V z1.1).bind fun y2=>cond (!y2) (some ([],6)) (cond (lim (a02 z1.1)) ((y0s a7W (z1.2.1,0,z1.1,())).bind fun w4=>(a2V w4.1).bind fun y5=>cond (!y5) (some ([],6)) (some (w4.1,0))) none))
def c2T:FSem:=⟨[.v QL,.v QI],[.o QI,.v QI],a4O⟩
def d7s:Hints:=⟨[(250,[25,26,.own 6 6 QI],[Qe 0 [.own 6 6 QI]]),(64098,[7,25,26,.own 6 6 QI],[Qe 2 [25,26,.own 6 6 QI]])],[(6,[Qn [.sv 0 QL,1,.sv 19 .bool]])],[(11,[.q,.v,.q,.v,.v,.q,.q,.q,.v,.q,.q,.v,.x,.x])]⟩
def a4P(s:Z53):Option (Z53 ⊕ (Int×Unit)):=(fun(a:Int)(b:LI)(c d:Int)=>cond (decide (d<c)) ((m0k b d).bind fun x1=>cond (decide ((wrap .i64 (d+s.1))≥4)) (some (.inl (s.1,wrap .i64 (a+(v0r x1 (wrap .i64 (0-x1)))),b,c,wrap .i64 (d+1),()))) (some (.inl (s.1,a,b,c,wrap .i64 (d+1),())))) (some (.inr (a,())))) s.2.1 s.2.2.1 s.2.2.2.1 s.2.2.2.2.1
def a9w(x:(LI×Int)):Option Int:=(y0s a4P (x.2,0,x.1,(x.1.length:Int),0,())).bind fun w2=>some w2.1
def c1T:FSem:=⟨[.v QL,.v QI],[.v QI],a9w⟩
def d7t:Hints:=⟨[(58,[1,5,.sv 8 QL,9,10],[Qe 0 [5]])],[],[]⟩
def a3R(s:Z33):Option (Z33 ⊕ (Int×Unit)):=(fun(a:LI)(b c d:Int)=>cond (decide (d≤4)) ((a4O (a,d)).bind fun y1=>cond (y1.2 != 0) (some (.inl (a,b,c,wrap .i64 (d+1),()))) ((a9w (y1.1,d)).bind fun y2=>(show Option (LI×(Int×Z24))from cond (decide (c<0)) (some (a,b,c,d,y2,true,())) (some (a,b,c,d,y2,decide (y2<c),()))).bind fun z3=>cond z3.2.2.2.2.2.1 (some (.inl (z3.1,z3.2.2.2.1,z3.2.2.2.2.1,wrap .i64 (z3.2.2.2.1+1),()))) (some (.inl (z3.1,z3.2.1,z3.2.2.1,wrap .i64 (z3.2.2.2.1+1),()))))) (some (.inr (b,())))) s.1 s.2.1 s.2.2.1 s.2.2.2.1
def a6s(x:LI):Option Int:=(y0s a3R (x,0,(-1),0,())).bind fun w4=>some w4.1
def c2U:FSem:=⟨[.v QL],[.v QI],a6s⟩
def d7u:Hints:=⟨[(58,[.sv 0 QL,3,4,5],[Qe 0 [3]])],[(7463,[Qn [.sv 0 QL,3,4,5,8,.sv 30 .bool]])],[]⟩
def a2P(x:Int):Option Int:=some (v0s (v0r x (-1048576)) 1048575)
def b9x:FSem:=⟨[.v QI],[.v QI],a2P⟩
def a3H(s:Z75):Option (Z75 ⊕ Z62):=(fun(a b:Int)(c:LI)(d e:Int)=>cond (decide (a<0)) none ((a2P (A0o .i64 b a)).bind fun y2=>cond (decide (a<0)) none (cond (y2 != (A0o .i64 b a)) (some (.inl (s.1,wrap .i64 (a+1),b,c,d,e,()))) (some (.inr (s.1,a,c,d,e,())))))) s.2.1 s.2.2.1 s.2.2.2.1 s.2.2.2.2.1 s.2.2.2.2.2.1
def a5C(s:Z62):Option (Z62 ⊕ Z7):=(fun(a:LI)(b c:Int)=>cond (decide (c<b)) ((m0k a c).bind fun x1=>(y0s a3H (s.1,s.2.1,x1,a,b,c,())).bind fun w3=>some (.inl (w3.1,w3.2.1,w3.2.2.1,w3.2.2.2.1,wrap .i64 (w3.2.2.2.2.1+1),()))) (some (.inr (s.1,s.2.1,())))) s.2.2.1 s.2.2.2.1 s.2.2.2.2.1
def a5D(s:Z61):Option (Z61 ⊕ (LI×Unit)):=(fun(a b:Int)(c:LI)=>cond (decide (b<a)) ((m0k s.2.1 b).bind fun x5=>cond (decide (s.1<0)) none (cond ((decide (0≤b))&&(decide (b<(c.length:Int)))) (some (.inl (s.1,s.2.1,a,wrap .i64 (b+1),a05 c (a00 b) (A0o .i64 x5 s.1),()))) none)) (some (.inr (c,())))) s.2.2.1 s.2.2.2.1 s.2.2.2.2.1
def a7X(x:LI):Option LI:=(y0s a5C (x,0,x,(x.length:Int),0,())).bind fun w4=>cond ((decide (0≤(w4.1.length:Int)))&&((decide ((w4.1.length:Int)≤(w4.1.length:Int)))&&(lim (a00 (w4.1.length:Int))))) ((y0s a5D (w4.2.1,w4.1,(w4.1.length:Int),0,a01 (a00 (w4.1.length:Int)) 0,())).bind fun w6=>some w6.1) none
def b8c:FSem:=⟨[.v QL],[.o QI],a7X⟩
def d7v:Hints:=⟨[(58,[.sv 0 QL,3,.sv 9 QL,10,11],[Qe 0 [.sv 0 QL,3]]),(250,[3,.sv 29 QL,30,31,.own 6 6 QI],[Qe 4 [.own 6 6 QI]]),(7474,[.sv 0 QL,3,5,.sv 9 QL,10,11],[Qe 2 [.sv 0 QL,3,.sv 9 QL,10,11]])],[],[(5,[.v,.v,.v,.v,.v,.v,.v,.x])]⟩
def a3y(s:Z60):Option (Z60 ⊕ (Int×Int×Unit)):=(fun(a b:LI)(c d e:Int)=>cond (decide (e<(a.length:Int))) ((m0k a e).bind fun x1=>(m0k b (wrap .i64 (e-1))).bind fun x2=>(m0k a e).bind fun x3=>(m0k a e).bind fun x4=>(m0k b (wrap .i64 (e-1))).bind fun x5=>(m0k b (wrap .i64 (e-1))).bind fun x6=>some (.inl (a,b,wrap .i64 (c+(wrap .i64 (x1*x2))),wrap .i64 (d+(wrap .i64 ((wrap .i64 (x3*x4))+(wrap .i64 (x5*x6))))),wrap .i64 (e+1),()))) (some (.inr (c,d,())))) s.1 s.2.1 s.2.2.1 s.2.2.2.1 s.2.2.2.2.1
def a3z(s:(Int×Int×Unit)):Option ((Int×Int×Unit) ⊕ (Int×Int×Unit)):=cond (decide (s.2.1≥1099511627776)) (some (.inl (A0o .i64 s.1 1,A0o .i64 s.2.1 1,()))) (some (.inr (s.1,s.2.1,())))
def a5e(x:Z12):Option Int:=(y0s a3y (x.1,x.2.1,0,0,x.2.2,())).bind fun w7=>(y0s a3z (w7.1,w7.2.1,())).bind fun w8=>cond (w8.2.1==0) (some 0) (cond (w8.2.1==0) none ((show Option (Int×Unit)from cond (w8.2.1==0) none (cond (decide ((a06 (A0n .i64 w8.1 15) w8.2.1)<0)) (some (wrap .i64 ((wrap .i64 (a08 (A0n .i64 w8.1 15) w8.2.1))-1),())) (some (wrap .i64 (a08 (A0n .i64 w8.1 15) w8.2.1),())))).bind fun z9=>some (v0s (v0r z9.1 (-16383)) 16383)))
def b5x:FSem:=⟨[.v QL,.v QL,.v QI],[.v QI],a5e⟩
def d7w:Hints:=⟨[(58,[.sv 0 QL,.sv 1 QL,7,8,9],[Qe 0 [7,8]]),(60,[7,8],[Qe 2 [7,8]])],[(255,[Qn [10]])],[(5,[.v,.v,.v,.v,.v,.v,.v,.v,.v,.v,.v,.x,.x]),(6,[.v,.v,.v,.v,.v,.v,.v,.v,.v,.v,.v,.v,.v,.v,.v,.v,.v,.v,.v,.v,.v,.v,.x,.x])]⟩
def a3p(s:(Int×Int×Z73)):Option ((Int×Int×Z73) ⊕ Z73):=(fun(a b c:Int)(d e f:LI)=>cond (decide (c≥a)) (cond ((decide (0≤c))&&(decide (c<(d.length:Int)))) (cond ((decide (0≤(wrap .i64 (c-1))))&&(decide ((wrap .i64 (c-1))<(e.length:Int)))) ((a2P (wrap .i64 ((a04 d (a00 c) 0)-(A0o .i64 (wrap .i64 (b*(a04 e (a00 (wrap .i64 (c-1))) 0))) 14)))).bind fun y6=>cond ((decide (0≤c))&&(decide (c<(d.length:Int)))) ((a2P (wrap .i64 ((a04 e (a00 (wrap .i64 (c-1))) 0)-(A0o .i64 (wrap .i64 (b*(a04 d (a00 c) 0))) 14)))).bind fun y7=>cond ((decide (0≤c))&&(decide (c<(e.length:Int)))) (some (.inl (s.1,a,b,wrap .i64 (c-1),a05 d (a00 c) y6,a05 e (a00 c) y7,f,()))) none) none) none) none) (some (.inr (s.1,a,d,e,f,())))) s.2.1 s.2.2.1 s.2.2.2.1 s.2.2.2.2.1 s.2.2.2.2.2.1 s.2.2.2.2.2.2.1
def a3q(s:Z73):Option (Z73 ⊕ (LI×Unit)):=(fun(a:Int)(b c d:LI)=>cond (decide (a≤s.1)) ((a5e (b,c,a)).bind fun y5=>cond (lim ((a02 d)+1)) ((y0s a3p (s.1,a,y5,wrap .i64 ((b.length:Int)-1),b,c,a03 d [y5],())).bind fun w8=>some (.inl (w8.1,wrap .i64 (w8.2.1+1),w8.2.2.1,w8.2.2.2.1,w8.2.2.2.2.1,()))) none) (some (.inr (d,())))) s.2.1 s.2.2.1 s.2.2.2.1 s.2.2.2.2.1
def a6U(x:(LI×Int)):Option (LI×Int):=(show Option Z19 from cond (decide (x.2<1)) (some (x.1,x.2,true,())) (cond (decide (x.2 > 32)) (some (x.1,x.2,true,())) (some (x.1,x.2,decide ((x.1.length:Int) > 4096),())))).bind fun z1=>cond z1.2.2.1 (some ([],1)) ((a2N z1.1).bind fun y2=>cond (!y2) (some ([],6)) ((a7X z1.1).bind fun y3=>(a1e y3).bind fun y4=>cond ((decide (0≤z1.2.1))&&(lim (a00 z1.2.1))) ((y0s a3q (z1.2.1,1,y3,y4,[],())).bind fun w9=>some (w9.1,0)) none))
def b7s:FSem:=⟨[.v QL,.v QI],[.o QI,.v QI],a6U⟩
def d7x:Hints:=⟨[(1018,[1,9,.own 6 6 QI,.own 7 7 QI,.own 8 8 QI],[Qe 0 [.own 8 8 QI]]),(260686,[1,9,10,11,.own 6 6 QI,.own 7 7 QI,.own 8 8 QI],[Qe 2 [1,9,.own 6 6 QI,.own 7 7 QI,.own 8 8 QI]])],[(6,[Qn [.sv 0 QL,1,.sv 24 .bool]])],[(16,[.q,.v,.q,.q,.q,.v,.v,.q,.q,.v,.x])]⟩
def a2p(s:Z43):Option (Z43 ⊕ ((LI×Unit) ⊕ Z7)):=(fun(a:LI)(b c:Int)=>cond (decide (c<b)) ((m0k a c).bind fun x2=>(show Option (LI×Z36)from cond (decide (x2<(-16383))) (some (s.1,a,b,c,true,())) (some (s.1,a,b,c,decide (x2 > 16383),()))).bind fun z3=>cond z3.2.2.2.2.1 (some (.inr (Sum.inr (([],1,()))))) (some (.inl (z3.1,z3.2.1,z3.2.2.1,wrap .i64 (z3.2.2.2.1+1),())))) (some (.inr (Sum.inl (s.1,()))))) s.2.1 s.2.2.1 s.2.2.2.1
def a4h(s:(LI×(Int×(Int×(LI×Z78))))):Option ((LI×(Int×(Int×(LI×Z78)))) ⊕ Z61):=(fun(a:Int)(b:LI)(c d:Int)(e:LI)(f g:Int)(h:LI)=>cond (decide (g<f)) ((m0k e g).bind fun x8=>(m0k s.1 (wrap .i64 ((wrap .i64 (s.2.1-1))-g))).bind fun x9=>cond (lim ((a02 h)+1)) (some (.inl (s.1,s.2.1,a,b,c,d,e,f,wrap .i64 (g+1),a03 h [wrap .i64 (x8-(A0o .i64 (wrap .i64 (a*x9)) 14))],()))) none) (some (.inr (a,b,c,d,h,())))) s.2.2.1 s.2.2.2.1 s.2.2.2.2.1 s.2.2.2.2.2.1 s.2.2.2.2.2.2.1 s.2.2.2.2.2.2.2.1 s.2.2.2.2.2.2.2.2.1 s.2.2.2.2.2.2.2.2.2.1
def a6e(s:Z43):Option (Z43 ⊕ (LI×Unit)):=(fun(a:LI)(b c:Int)=>cond (decide (c<b)) ((m0k s.2.1 c).bind fun x7=>cond ((decide (0≤(wrap .i64 (c+1))))&&(lim (a00 (wrap .i64 (c+1))))) ((y0s a4h (a,c,x7,s.2.1,b,c,a,(a.length:Int),0,[],())).bind fun w10=>cond (lim ((a02 w10.2.2.2.2.1)+1)) (some (.inl (a03 w10.2.2.2.2.1 [w10.1],w10.2.1,w10.2.2.1,wrap .i64 (w10.2.2.2.1+1),()))) none) none) (some (.inr (a,())))) s.1 s.2.2.1 s.2.2.2.1
def a8D(x:LI):Option (LI×Int):=(show Option (LI×(Bool×Unit))from cond (decide ((x.length:Int)<1)) (some (x,true,())) (some (x,decide ((x.length:Int) > 32),()))).bind fun z1=>cond z1.2.1 (some ([],1)) ((y0s a2p (z1.1,z1.1,(z1.1.length:Int),0,())).bind fun w4=>match w4 with |.inl a5=>((y0s a6e ([],a5.1,(a5.1.length:Int),0,())).bind fun w11=>some (w11.1,0)) |.inr b6=>some (b6.1,b6.2.1))
def b9y:FSem:=⟨[.v QL],[.v QL,.v QI],a8D⟩
def d7y:Hints:=⟨[(58,[.sv 0 QL,.sv 20 QL,21,22],[Qe 0 [.sv 0 QL],Qr [.sv 2 QL,3]]),(250,[.sv 6 QL,.sv 34 QL,35,36],[Qe 2 [.sv 6 QL]]),(256410,[.sv 6 QL,7,8,.sv 34 QL,35,36,.sv 44 QL,45,46,.own 9 9 QI],[Qe 4 [8,.sv 34 QL,35,36,.own 9 9 QI]])],[(6,[Qn [.sv 0 QL,.sv 19 .bool]]),(3737,[Qn [.sv 0 QL,.sv 20 QL,21,22,.sv 31 .bool]])],[]⟩
def a2q(s:Z62):Option (Z62 ⊕ (Z7 ⊕ Z17)):=(fun(a:Int)(b:LI)(c d:Int)=>cond (decide (d<c)) ((m0k b d).bind fun x2=>(show Option (LI×(Int×Z36))from cond (decide (x2<(-35184372088832))) (some (s.1,a,b,c,d,true,())) (some (s.1,a,b,c,d,decide (x2 > 35184372088832),()))).bind fun z3=>cond z3.2.2.2.2.2.1 (some (.inr (Sum.inr ((0,1,[],()))))) (some (.inl (z3.1,z3.2.1,z3.2.2.1,z3.2.2.2.1,wrap .i64 (z3.2.2.2.2.1+1),())))) (some (.inr (Sum.inl (s.1,a,()))))) s.2.1 s.2.2.1 s.2.2.2.1 s.2.2.2.2.1
def a2r(s:(LI×(Int×Z78))):Option ((LI×(Int×Z78)) ⊕ Z44):=(fun(a b c:Int)(d:LI)(e f:Int)(g:LI)=>cond (decide (f<e)) ((m0k d f).bind fun x8=>cond (decide (b<0)) none ((a2e (A0o .i64 (wrap .i64 (x8+c)) b,a)).bind fun y9=>cond (!y9) (some (.inr (s.1,a,b,g,()))) (cond (lim ((a02 g)+1)) (some (.inl (s.1,a,b,c,d,e,wrap .i64 (f+1),a03 g [A0o .i64 (wrap .i64 (x8+c)) b],()))) none))) (some (.inr (s.1,a,b,g,())))) s.2.1 s.2.2.1 s.2.2.2.1 s.2.2.2.2.1 s.2.2.2.2.2.1 s.2.2.2.2.2.2.1 s.2.2.2.2.2.2.2.1
def a3d(s:Z15):Option (Z15 ⊕ (Unit ⊕ Z17)):=(fun(a:Int)=>cond (decide (a≤14)) ((show Option Z33 from cond (decide (a > 0)) (cond (decide ((wrap .i64 (a-1))<0)) none (some (s.1,s.2.1,a,A0n .i64 1 (wrap .i64 (a-1)),()))) (some (s.1,s.2.1,a,0,()))).bind fun z7=>cond ((decide (0≤(z7.1.length:Int)))&&(lim (a00 (z7.1.length:Int)))) ((y0s a2r (z7.1,z7.2.1,z7.2.2.1,z7.2.2.2.1,z7.1,(z7.1.length:Int),0,[],())).bind fun w10=>cond ((w10.2.2.2.1.length:Int)==(w10.1.length:Int)) (some (.inr (Sum.inr ((wrap .i64 (14-w10.2.2.1),0,w10.2.2.2.1,()))))) (some (.inl (w10.1,w10.2.1,wrap .i64 (w10.2.2.1+1),())))) none) (some (.inr (Sum.inl ())))) s.2.2.1
def a8E(x:(LI×Int)):Option Z4:=(show Option Z19 from cond (decide ((x.1.length:Int)<1)) (some (x.1,x.2,true,())) (cond (decide ((x.1.length:Int) > 32)) (some (x.1,x.2,true,())) (cond (decide (x.2<2)) (some (x.1,x.2,true,())) (some (x.1,x.2,decide (x.2 > 16),()))))).bind fun z1=>cond z1.2.2.1 (some ([],0,1)) ((y0s a2q (z1.1,z1.2.1,z1.1,(z1.1.length:Int),0,())).bind fun w4=>match w4 with |.inl a5=>((y0s a3d (a5.1,a5.2.1,0,())).bind fun w11=>match w11 with |.inl a12=>some ([],0,6) |.inr b13=>some (b13.2.2.1,b13.1,b13.2.1)) |.inr b6=>some (b6.2.2.1,b6.1,b6.2.1))
def b9z:FSem:=⟨[.v QL,.v QI],[.o QI,.v QI,.v QI],a8E⟩
def d7z:Hints:=⟨[(58,[.sv 0 QL,1,.sv 31 QL,32,33],[Qe 0 [.sv 0 QL,1],Qr [5,6,.own 4 4 QI]]),(122,[.sv 0 QL,1,9],[Qe 2 [],Qr [5,6,.own 4 11 QI]]),(125242,[.sv 0 QL,1,9,10,.sv 56 QL,57,58,.own 11 11 QI],[Qe 4 [.sv 0 QL,1,9,.own 11 11 QI]])],[(6,[Qn [.sv 0 QL,1,.sv 30 .bool]]),(3737,[Qn [.sv 0 QL,1,.sv 31 QL,32,33,.sv 42 .bool]]),(3913,[Qn [.sv 0 QL,1,9,10]])],[]⟩
def a4a(x:Z4):Option Z4:=(a6U (x.1,x.2.1)).bind fun y1=>cond (y1.2 != 0) (some ([],0,y1.2)) ((a8D y1.1).bind fun y2=>cond (y2.2 != 0) (some ([],0,y2.2)) ((a8E (y2.1,x.2.2)).bind fun y3=>some (y3.1,y3.2.1,y3.2.2)))
def c1U:FSem:=⟨[.v QL,.v QI,.v QI],[.o QI,.v QI,.v QI],a4a⟩
def b9A(s:(LI×Z69)):Option ((LI×Z69) ⊕ (LI×Z56)):=(fun(a:LI)(b c d e f g:Int)=>cond (decide (g<(a.length:Int))) ((m0k a g).bind fun x3=>(m0k a (wrap .i64 (g-e))).bind fun x4=>some (.inl (a,s.2.1,b,c,d,e,wrap .i64 (f+(v0r (wrap .i64 (x3-x4)) (wrap .i64 (0-(wrap .i64 (x3-x4)))))),wrap .i64 (g+1),()))) (some (.inr (a,s.2.1,b,c,d,e,f,())))) s.1 s.2.2.1 s.2.2.2.1 s.2.2.2.2.1 s.2.2.2.2.2.1 s.2.2.2.2.2.2.1 s.2.2.2.2.2.2.2.1
def b9B(s:(LI×Z38)):Option ((LI×Z38) ⊕ (Int×Unit)):=(fun(a b c:Int)=>cond (decide (c≤a)) ((y0s b9A (s.1,s.2.1,a,b,s.2.2.2.2.1,c,0,a,())).bind fun w5=>(show Option (LI×(Int×Int×Int×Z24))from cond (w5.2.2.2.2.2.1==w5.2.1) (some (w5.1,w5.2.1,w5.2.2.1,w5.2.2.2.1,w5.2.2.2.2.1,w5.2.2.2.2.2.1,w5.2.2.2.2.2.2.1,true,())) (some (w5.1,w5.2.1,w5.2.2.1,w5.2.2.2.1,w5.2.2.2.2.1,w5.2.2.2.2.2.1,w5.2.2.2.2.2.2.1,decide (w5.2.2.2.2.2.2.1<w5.2.2.2.2.1),()))).bind fun z6=>cond z6.2.2.2.2.2.2.2.1 (some (.inl (z6.1,z6.2.1,z6.2.2.1,z6.2.2.2.2.2.1,z6.2.2.2.2.2.2.1,wrap .i64 (z6.2.2.2.2.2.1+1),()))) (some (.inl (z6.1,z6.2.1,z6.2.2.1,z6.2.2.2.1,z6.2.2.2.2.1,wrap .i64 (z6.2.2.2.2.2.1+1),())))) (some (.inr (b,())))) s.2.2.1 s.2.2.2.1 s.2.2.2.2.2.1
def b1x(x:Z4):Option (Int×Int):=(show Option Z36 from cond (decide (x.2.1<2)) (some (x.1,x.2.1,x.2.2,true,())) (cond (decide (x.2.1 > x.2.2)) (some (x.1,x.2.1,x.2.2,true,())) (cond (decide (x.2.2 > 1024)) (some (x.1,x.2.1,x.2.2,true,())) (some (x.1,x.2.1,x.2.2,decide ((x.1.length:Int) > 4096),()))))).bind fun z1=>cond z1.2.2.2.1 (some (0,1)) (cond (decide ((z1.1.length:Int)≤z1.2.2.1)) (some (0,7)) ((a4A z1.1).bind fun y2=>cond (!y2) (some (0,6)) ((y0s b9B (z1.1,z1.2.1,z1.2.2.1,0,0,z1.2.1,())).bind fun w7=>some (w7.1,0))))
def c4Y:FSem:=⟨[.v QL,.v QI,.v QI],[.v QI,.v QI],b1x⟩
def d7A:Hints:=⟨[(506,[.sv 0 QL,1,2,8,9,10],[Qe 0 [8]]),(129610,[.sv 0 QL,1,2,8,9,10,11,12],[Qe 2 [.sv 0 QL,1,2,8,9,10,11]])],[(6,[Qn [.sv 0 QL,1,2,.sv 29 .bool]]),(32403,[Qn [.sv 0 QL,1,2,8,9,10,11,.sv 74 .bool]])],[(15,[.v,.v,.v,.v,.v,.v,.v,.v,.v,.v,.x,.x])]⟩
def a6t(s:(LI×Z86)):Option ((LI×Z86) ⊕ Z51):=(fun(a:LI)(b c:Int)(d e:LI)=>cond (decide (c<b)) ((m0k a c).bind fun x3=>(a4B (s.1,c,s.2.1,e)).bind fun y4=>(a7B (wrap .i64 (x3-y4))).bind fun y5=>cond (!y5) (some (.inr (Sum.inr ((6,[],()))))) (cond (lim ((a02 d)+1)) (some (.inl (s.1,s.2.1,a,b,wrap .i64 (c+1),a03 d [wrap .i64 (x3-y4)],e,()))) none)) (some (.inr (Sum.inl (d,()))))) s.2.2.1 s.2.2.2.1 s.2.2.2.2.1 s.2.2.2.2.2.1 s.2.2.2.2.2.2.1
def a7E(x:(LI×(Int×LI))):Option (LI×Int):=(a8w (x.2.1,x.2.2)).bind fun y1=>cond (!y1) (some ([],1)) ((a4A x.1).bind fun y2=>cond (!y2) (some ([],6)) (cond ((decide (0≤(x.1.length:Int)))&&(lim (a00 (x.1.length:Int)))) ((y0s a6t (x.1,x.2.1,x.1,(x.1.length:Int),0,[],x.2.2,())).bind fun w6=>match w6 with |.inl a7=>some (a7.1,0) |.inr b8=>some (b8.2.1,b8.1)) none))
def c4Z:FSem:=⟨[.v QL,.v QI,.v (.arr 3 QI)],[.o QI,.v QI],a7E⟩
def d7B:Hints:=⟨[(250,[.sv 0 QL,1,.sv 22 QL,23,24,.own 8 8 QI,.vp 5 (.arr 3 QI)],[Qe 0 [.own 8 8 QI],Qr [7,.own 6 6 QI]])],[],[]⟩
def b5K(x:Unit):Option (List LI):=some ([a05 (a05 (a05 (a01 3 0) 0 0) 1 0) 2 0,a05 (a05 (a05 (a01 3 0) 0 0) 1 64) 2 0,a05 (a05 (a05 (a01 3 0) 0 0) 1 32) 2 0,a05 (a05 (a05 (a01 3 0) 0 16) 1 32) 2 16,a05 (a05 (a05 (a01 3 0) 0 21) 1 22) 2 21,a05 (a05 (a05 (a01 3 0) 0 0) 1 48) 2 0,a05 (a05 (a05 (a01 3 0) 0 (-8)) 1 64) 2 (-8),a05 (a05 (a05 (a01 3 0) 0 32) 1 32) 2 0,a05 (a05 (a05 (a01 3 0) 0 0) 1 32) 2 32]:List LI)
def c2V:FSem:=⟨[],[.o (.arr 3 QI)],b5K⟩
def b9C(s:(LI×(Int×(Int×(Bool×(Int×(Int×(Int×(Int×(Int×((List LI)×(LI×Z42)))))))))))):Option ((LI×(Int×(Int×(Bool×(Int×(Int×(Int×(Int×(Int×((List LI)×(LI×Z42))))))))))) ⊕ (LI×(Int×(Int×(Bool×(Int×(Int×(Int×((List LI)×Z42))))))))):=(fun(a:Int)(b:Bool)(c d e f g:Int)(h:List LI)(i j k l:LI)=>cond (decide (g<f)) (cond ((decide (0≤g))&&(decide (g<(i.length:Int)))) (some (.inl (s.1,s.2.1,a,b,wrap .i64 (c+(v0r (a04 i (a00 g) 0) (wrap .i64 (0-(a04 i (a00 g) 0))))),d,e,f,wrap .i64 (g+1),h,i,j,k,l,()))) none) (some (.inr (s.1,s.2.1,a,b,c,d,e,h,j,k,l,())))) s.2.2.1 s.2.2.2.1 s.2.2.2.2.1 s.2.2.2.2.2.1 s.2.2.2.2.2.2.1 s.2.2.2.2.2.2.2.1 s.2.2.2.2.2.2.2.2.1 s.2.2.2.2.2.2.2.2.2.1 s.2.2.2.2.2.2.2.2.2.2.1 s.2.2.2.2.2.2.2.2.2.2.2.1 s.2.2.2.2.2.2.2.2.2.2.2.2.1 s.2.2.2.2.2.2.2.2.2.2.2.2.2.1
def b9D(s:(LI×(Int×(Int×(Bool×(Int×(Int×((List LI)×Z14)))))))):Option ((LI×(Int×(Int×(Bool×(Int×(Int×((List LI)×Z14))))))) ⊕ (Bool×Z14)):=(fun(a b:Int)(c:Bool)(d e:Int)(f:List LI)(g h:LI)=>cond (decide (e<d)) (cond ((decide (0≤e))&&(decide (e<(f.length:Int)))) ((a7E (s.1,a,a04 f (a00 e) (a01 3 0))).bind fun y3=>cond (y3.2 != 0) (some (.inl (s.1,a,b,c,d,wrap .i64 (e+1),f,g,h,()))) ((y0s b9C (s.1,a,b,c,0,d,e,(y3.1.length:Int),0,f,y3.1,g,h,a04 f (a00 e) (a01 3 0),())).bind fun w4=>(show Option (LI×(Int×(Int×(Bool×(Int×(Int×(Int×(Bool×((List LI)×Z42)))))))))from cond (!w4.2.2.2.1) (some (w4.1,w4.2.1,w4.2.2.1,w4.2.2.2.1,w4.2.2.2.2.1,w4.2.2.2.2.2.1,w4.2.2.2.2.2.2.1,true,w4.2.2.2.2.2.2.2.1,w4.2.2.2.2.2.2.2.2.1,w4.2.2.2.2.2.2.2.2.2.1,w4.2.2.2.2.2.2.2.2.2.2.1,())) (some (w4.1,w4.2.1,w4.2.2.1,w4.2.2.2.1,w4.2.2.2.2.1,w4.2.2.2.2.2.1,w4.2.2.2.2.2.2.1,decide (w4.2.2.2.2.1<w4.2.2.1),w4.2.2.2.2.2.2.2.1,w4.2.2.2.2.2.2.2.2.1,w4.2.2.2.2.2.2.2.2.2.1,w4.2.2.2.2.2.2.2.2.2.2.1,()))).bind fun z5=>cond z5.2.2.2.2.2.2.2.1 (some (.inl (z5.1,z5.2.1,z5.2.2.2.2.1,true,z5.2.2.2.2.2.1,wrap .i64 (z5.2.2.2.2.2.2.1+1),z5.2.2.2.2.2.2.2.2.1,z5.2.2.2.2.2.2.2.2.2.1,z5.2.2.2.2.2.2.2.2.2.2.2.1,()))) (some (.inl (z5.1,z5.2.1,z5.2.2.1,z5.2.2.2.1,z5.2.2.2.2.2.1,wrap .i64 (z5.2.2.2.2.2.2.1+1),z5.2.2.2.2.2.2.2.2.1,z5.2.2.2.2.2.2.2.2.2.1,z5.2.2.2.2.2.2.2.2.2.2.1,()))))) none) (some (.inr (c,g,h,())))) s.2.1 s.2.2.1 s.2.2.2.1 s.2.2.2.2.1 s.2.2.2.2.2.1 s.2.2.2.2.2.2.1 s.2.2.2.2.2.2.2.1 s.2.2.2.2.2.2.2.2.1
def b6N(x:(LI×Int)):Option (LI×Int):=(show Option (LI×(Int×Z9))from cond (decide (x.2<2)) (some (x.1,x.2,true,a01 3 0,())) (some (x.1,x.2,decide (x.2 > 1024),a01 3 0,()))).bind fun z1=>cond z1.2.2.1 (some (a01 3 0,1)) ((b5K ()).bind fun y2=>(y0s b9D (z1.1,z1.2.1,0,false,(y2.length:Int),0,y2,z1.2.2.2.1,a01 3 0,())).bind fun w6=>cond (!w6.1) (some (a01 3 0,6)) (some (w6.2.2.1,0)))
def c5a:FSem:=⟨[.v QL,.v QI],[.v (.arr 3 QI),.v QI],b6N⟩
def d7C:Hints:=⟨[(122,[.sv 0 QL,1,7,.sv 8 .bool,25,26,.own 24 1024 (.arr 3 QI),.box 4 (.arr 3 QI),.box 6 (.arr 3 QI),Qp 4 4,Qp 6 6],[Qe 0 [.sv 8 .bool,.box 4 (.arr 3 QI),.box 6 (.arr 3 QI),Qp 4 4,Qp 6 6]]),(501370,[.sv 0 QL,1,7,.sv 8 .bool,13,25,26,40,41,.own 24 1024 (.arr 3 QI),.own 39 11 QI,.box 4 (.arr 3 QI),.box 6 (.arr 3 QI),.box 10 (.arr 3 QI),Qp 4 4,Qp 6 6,Qp 10 10],[Qe 2 [.sv 0 QL,1,7,.sv 8 .bool,13,25,26,.own 24 1024 (.arr 3 QI),.box 4 (.arr 3 QI),.box 6 (.arr 3 QI),.box 10 (.arr 3 QI),Qp 4 4,Qp 6 6,Qp 10 10]])],[(6,[Qn [.sv 0 QL,1,.sv 21 .bool,.box 4 (.arr 3 QI),Qp 4 4]]),(125343,[Qn [.sv 0 QL,1,7,.sv 8 .bool,13,25,26,.sv 58 .bool,.own 24 1024 (.arr 3 QI),.box 4 (.arr 3 QI),.box 6 (.arr 3 QI),.box 10 (.arr 3 QI),Qp 4 4,Qp 6 6,Qp 10 10]])],[]⟩
def a3I(x:LI):Option (a1B×Bool):=(b1x (x,16,256)).bind fun y1=>cond (y1.2 != 0) (some ((0,0,0,0,0,[],a01 3 0,[],[],(0,[],()),[],()),false)) ((b6N (x,y1.1)).bind fun y2=>cond (y2.2 != 0) (some ((0,0,0,0,0,[],a01 3 0,[],[],(0,[],()),[],()),false)) ((a7E (x,y1.1,y2.1)).bind fun y3=>cond (y3.2 != 0) (some ((0,0,0,0,0,[],a01 3 0,[],[],(0,[],()),[],()),false)) ((a4a (y3.1,4,12)).bind fun y4=>cond (y4.2.2 != 0) (some ((0,0,0,0,0,[],a01 3 0,[],[],(0,[],()),[],()),false)) (some ((4,0,0,y4.2.1,y1.1,y4.1,y2.1,[],[],(0,[],()),[],()),true)))))
def c2W:FSem:=⟨[.v QL],[.v Q42,.v .bool],a3I⟩
def a0Q(x:(Int×(Int×(LI×a9D)))):Option (LI×a9D):=(a4a (x.2.2.1,x.1,x.2.1)).bind fun y1=>cond (y1.2.2==0) (cond (lim ((a02 x.2.2.2)+1)) (some (x.2.2.1,a03 x.2.2.2 ([(3,0,0,y1.2.1,0,y1.1,a01 3 0,[],[],(0,[],()),[],())]:List a1B))) none) (some (x.2.2.1,x.2.2.2))
def b5L:FSem:=⟨[.v QI,.v QI,.r false (.b QL),.r false (.b (.list true Q42))],[],a0Q⟩
def a2B(s:(Int×c6t)):Option ((Int×c6t) ⊕ c6t):=cond (decide (s.1<5)) (cond (lim ((a02 s.2.1)+1)) (some (.inl (wrap .i64 (s.1+1),a03 s.2.1 ([(2,0,s.1,0,0,[],a01 3 0,[],[],(0,[],()),[],())]:List a1B),s.2.2.1,()))) none) (some (.inr (s.2.1,s.2.2.1,())))
def a6V(x:(LI×Int)):Option a9D:=(a6s x.1).bind fun y1=>(show Option (Int×(LI×c9F))from cond (decide (x.2≥1)) ((a0Q (4,12,x.1,([(0,0,0,0,0,[],a01 3 0,[],[],(0,[],()),[],()),(1,0,0,0,0,[],a01 3 0,[],[],(0,[],()),[],()),(2,0,y1,0,0,[],a01 3 0,[],[],(0,[],()),[],())]:List a1B))).bind fun y2=>(a0Q (8,12,y2.1,y2.2)).bind fun y3=>some (x.2,y3.1,y3.2,())) (some (x.2,x.1,([(0,0,0,0,0,[],a01 3 0,[],[],(0,[],()),[],()),(1,0,0,0,0,[],a01 3 0,[],[],(0,[],()),[],()),(2,0,y1,0,0,[],a01 3 0,[],[],(0,[],()),[],())]:List a1B),()))).bind fun z4=>(show Option (Int×c6t)from cond (decide (z4.1≥2)) (cond (lim ((a02 z4.2.2.1)+1)) (cond (lim ((a02 (a03 z4.2.2.1 ([(5,0,0,0,0,[],a01 3 0,([(16,4,())]:List (Int×Int×Unit)),[],(0,[],()),[],())]:List a1B)))+1)) ((a3I z4.2.1).bind fun y5=>cond y5.2 (cond (lim ((a02 (a03 (a03 z4.2.2.1 ([(5,0,0,0,0,[],a01 3 0,([(16,4,())]:List (Int×Int×Unit)),[],(0,[],()),[],())]:List a1B)) ([(5,0,0,0,0,[],a01 3 0,([(32,3,()),(16,5,())]:List (Int×Int×Unit)),[],(0,[],()),[],())]:List a1B)))+1)) (some (z4.1,a03 (a03 (a03 z4.2.2.1 ([(5,0,0,0,0,[],a01 3 0,([(16,4,())]:List (Int×Int×Unit)),[],(0,[],()),[],())]:List a1B)) ([(5,0,0,0,0,[],a01 3 0,([(32,3,()),(16,5,())]:List (Int×Int×Unit)),[],(0,[],()),[],())]:List a1B)) ([y5.1]:List a1B),z4.2.1,())) none) (some (z4.1,a03 (a03 z4.2.2.1 ([(5,0,0,0,0,[],a01 3 0,([(16,4,())]:List (Int×Int×Unit)),[],(0,[],()),[],())]:List a1B)) ([(5,0,0,0,0,[],a01 3 0,([(32,3,()),(16,5,())]:List (Int×Int×Unit)),[],(0,[],()),[],())]:List a1B),z4.2.1,()))) none) none) (some (z4.1,z4.2.2.1,z4.2.1,()))).bind fun z6=>(show Option c9F from cond (decide (z6.1≥3)) ((y0s a2B (0,z6.2.1,z6.2.2.1,())).bind fun w7=>(a0Q (1,12,w7.2.1,w7.1)).bind fun y8=>(a0Q (2,12,y8.1,y8.2)).bind fun y9=>(a0Q (12,14,y9.1,y9.2)).bind fun y10=>(a0Q (16,14,y10.1,y10.2)).bind fun y11=>some (y11.2,())) (some (z6.2.1,()))).bind fun z12=>some z12.1
def b7t:FSem:=⟨[.v QL,.v QI],[.v (.list false Q42)],a6V⟩
def H94:Hints:=⟨[(4050,[50,.box 5 (.list true Q42),.box 2 QL,Qp 5 5,.clo 6 136 [2,5]],[Qe 0 [.box 5 (.list true Q42),.box 2 QL,Qp 5 5,.clo 6 136 [2,5]]])],[(15,[Qn [1,.box 2 QL,.box 5 (.list true Q42),Qp 2 2,Qp 5 5,.clo 6 136 [2,5]]]),(31,[Qn [1,.box 5 (.list true Q42),.box 2 QL,Qp 5 5,.clo 6 136 [2,5]]]),(63,[Qn [.box 5 (.list true Q42),Qp 5 5]])],[]⟩
def a4Q(s:(LI×Z44)):Option ((LI×Z44) ⊕ Z51):=(fun(a:LI)(b c:Int)(d:LI)=>cond (decide (c<(a.length:Int))) ((m0k a c).bind fun x4=>cond ((decide (0≤c))&&(decide (c≤(a.length:Int)))) ((a4L (a07 (a00 c) a,s.2.1,b)).bind fun y5=>(a5l (wrap .i64 (x4-y5))).bind fun y6=>cond (!y6) (some (.inr (Sum.inr ((6,[],()))))) (cond (lim ((a02 d)+1)) (some (.inl (a,s.2.1,b,wrap .i64 (c+1),a03 d [wrap .i64 (x4-y5)],()))) none)) none) (some (.inr (Sum.inl (d,()))))) s.1 s.2.2.1 s.2.2.2.1 s.2.2.2.2.1
def a7n(x:Z12):Option (LI×Int):=(show Option Z52 from(a4J (x.2.1,x.2.2)).bind fun y1=>cond (!y1) (some (x.1,x.2.1,x.2.2,true,())) (some (x.1,x.2.1,x.2.2,decide ((x.1.length:Int)<(x.2.1.length:Int)),()))).bind fun z2=>cond z2.2.2.2.1 (some ([],1)) ((a2N z2.1).bind fun y3=>cond (!y3) (some ([],6)) (cond ((decide (0≤(wrap .i64 ((z2.1.length:Int)-(z2.2.1.length:Int)))))&&(lim (a00 (wrap .i64 ((z2.1.length:Int)-(z2.2.1.length:Int)))))) ((y0s a4Q (z2.1,z2.2.1,z2.2.2.1,(z2.2.1.length:Int),[],())).bind fun w7=>match w7 with |.inl a8=>some (a8.1,0) |.inr b9=>some (b9.2.1,b9.1)) none))
def c1V:FSem:=⟨[.v QL,.v QL,.v QI],[.o QI,.v QI],a7n⟩
def d7D:Hints:=⟨[(250,[.sv 0 QL,.sv 1 QL,2,9,.own 8 8 QI],[Qe 0 [.own 8 8 QI],Qr [7,.own 6 6 QI]])],[(6,[Qn [.sv 0 QL,.sv 1 QL,2,.sv 21 .bool]])],[(9,[.v,.v,.v,.v,.v,.v,.v,.v,.v,.v,.x,.x])]⟩
def a5E(s:(Z5×Int×Int×Int×Z87)):Option ((Z5×Int×Int×Int×Z87) ⊕ ((Z5×Z17) ⊕ Z6)):=(fun(a b c:Int)(d:LI)=>cond (decide (c<b)) (cond ((decide (0≤c))&&(decide (c<(d.length:Int)))) ((a2h s.2.2.2.2.2.2.1).bind fun y6=>(a6m (wrap .i64 ((a04 d (a00 c) 0)-y6.1))).bind fun y7=>cond (!y7) (some (.inr (Sum.inr ((6,[],()))))) ((a3n (y6.2,a04 d (a00 c) 0)).bind fun y8=>cond ((decide (0≤c))&&(decide (c<(d.length:Int)))) (some (.inl (s.1,s.2.1,a,b,wrap .i64 (c+1),a05 d (a00 c) (wrap .i64 ((a04 d (a00 c) 0)-y6.1)),y8,()))) none)) none) (some (.inr (Sum.inl (s.1,s.2.1,a,d,()))))) s.2.2.1 s.2.2.2.1 s.2.2.2.2.1 s.2.2.2.2.2.1
def a5F(s:(Z5×Z17)):Option ((Z5×Z17) ⊕ Z51):=(fun(a:Int)(b:LI)=>cond (decide (a<s.2.1)) ((m0k s.1 a).bind fun x4=>(a9h x4).bind fun y5=>cond (y5.2 != 0) (some (.inr (Sum.inr ((y5.2,[],()))))) ((y0s a5E (s.1,s.2.1,a,(b.length:Int),0,b,y5.1,())).bind fun w9=>match w9 with |.inl a10=>some (.inl (a10.1,a10.2.1,wrap .i64 (a10.2.2.1+1),a10.2.2.2.1,())) |.inr b11=>some (.inr (Sum.inr ((b11.1,b11.2.1,())))))) (some (.inr (Sum.inl (b,()))))) s.2.2.1 s.2.2.2.1
def b0D(x:(LI×Z5)):Option (LI×Int):=(a7z x.2).bind fun y1=>cond (!y1) (some ([],1)) ((a5w x.1).bind fun y2=>cond (!y2) (some ([],6)) ((a1e x.1).bind fun y3=>(y0s a5F (x.2,(x.2.length:Int),0,y3,())).bind fun w12=>match w12 with |.inl a13=>some (a13.1,0) |.inr b14=>some (b14.2.1,b14.1)))
def c2X:FSem:=⟨[.v QL,.v (.list false Q3)],[.o QI,.v QI],b0D⟩
def d7E:Hints:=⟨[(250,[.sv 22 (.list false Q3),23,24,.own 6 6 QI],[Qe 0 [.own 6 6 QI],Qr [5,.own 4 4 QI]]),(256414,[.sv 22 (.list false Q3),23,24,37,38,.own 6 6 QI,.box 1030 Q17,Qp 9 1030,.ref 36 6 []],[Qe 2 [.sv 22 (.list false Q3),23,24,.own 6 6 QI],Qr [5,.own 4 4 QI]])],[],[]⟩
def b1y(x:(a1B×LI)):Option (Int×a1B):=(show Option (LI×(LI×(Int×b4n)))from cond (x.1.1==2) ((a4O (x.2,x.1.2.2.1)).bind fun y1=>some (x.2,y1.1,y1.2,x.1,())) (cond (x.1.1==3) ((a7n (x.2,x.1.2.2.2.2.2.1,x.1.2.2.2.1)).bind fun y2=>some (x.2,y2.1,y2.2,x.1,())) (cond (x.1.1==4) ((a7E (x.2,x.1.2.2.2.2.1,x.1.2.2.2.2.2.2.1)).bind fun y3=>cond (y3.2==0) ((a7n (y3.1,x.1.2.2.2.2.2.1,x.1.2.2.2.1)).bind fun y4=>some (y3.1,y4.1,y4.2,x.1,())) (some (y3.1,[],y3.2,x.1,()))) (cond (x.1.1==5) ((b0D (x.2,x.1.2.2.2.2.2.2.2.1)).bind fun y5=>some (x.2,y5.1,y5.2,x.1,())) (some (x.2,[],0,x.1,())))))).bind fun z6=>cond (z6.2.2.1 != 0) (some (z6.2.2.1,z6.2.2.2.1)) ((a4K (z6.2.2.2.1,(z6.1.length:Int))).bind fun y7=>cond ((decide (0≤y7))&&(decide (y7≤(z6.1.length:Int)))) ((a1e (a07 (a00 y7) z6.1)).bind fun y8=>some (0,z6.2.2.2.1.1,z6.2.2.2.1.2.1,z6.2.2.2.1.2.2.1,z6.2.2.2.1.2.2.2.1,z6.2.2.2.1.2.2.2.2.1,z6.2.2.2.1.2.2.2.2.2.1,z6.2.2.2.1.2.2.2.2.2.2.1,z6.2.2.2.1.2.2.2.2.2.2.2.1,y8,z6.2.2.2.1.2.2.2.2.2.2.2.2.2.1,z6.2.1,z6.2.2.2.1.2.2.2.2.2.2.2.2.2.2.2)) none)
def c5b:FSem:=⟨[.r false (.b Q42),.v QL],[.v QI],b1y⟩
def d7F:Hints:=⟨[],[(15,[Qn [.sv 1 QL,.sv 5 QL,6,.box pinned Q42,Qp 0 pinned]])],[(7,[.v,.p,.p,.q,.q,.p,.p,.q,.q,.x,.x,.q,.q,.q,.x]),(9,[.v,.p,.p,.q,.q,.p,.p,.q,.q,.x,.x,.q,.q,.q,.x]),(11,[.q,.p,.p,.q,.q,.p,.p,.q,.q,.x,.x,.q,.q,.q,.x])]⟩
def b2G(s:Z15):Option Z71:=(fun(a b:Int)=>cond (decide (b<a)) ((m0k s.1 b).bind fun x3=>(show Option Z36 from cond (decide (x3<(-1073741824))) (some (s.1,a,b,true,())) (some (s.1,a,b,decide (x3≥1073741824),()))).bind fun z4=>cond z4.2.2.2.1 (some (.inr (Sum.inr ((false,()))))) (some (.inl (z4.1,z4.2.1,wrap .i64 (z4.2.2.1+1),())))) (some (.inr (Sum.inl ())))) s.2.1 s.2.2.1
def a7o(x:Z3):Option Bool:=(show Option (LI×(Bool×Unit))from(a7A (x.1,x.2.1)).bind fun y1=>cond (!y1) (some (x.2.2,true,())) (some (x.2.2,(x.2.2.length:Int) != (wrap .i64 (x.1-x.2.1)),()))).bind fun z2=>cond z2.2.1 (some false) ((y0s b2G (z2.1,(z2.1.length:Int),0,())).bind fun w5=>match w5 with |.inl a6=>some true |.inr b7=>some b7.1)
def c1W:FSem:=⟨[.v QI,.v QI,.v QL],[.v .bool],a7o⟩
def d7G:Hints:=⟨[(58,[.sv 21 QL,22,23],[Qe 0 [],Qr [.sv 6 .bool]])],[(6,[Qn [.sv 2 QL,.sv 20 .bool]]),(3737,[Qn [.sv 21 QL,22,23,.sv 32 .bool]])],[]⟩
def a5V(x:LI):Option Int:=(a1u x).bind fun y1=>some (wrap .i64 (5+(wrap .i64 (y1*(x.length:Int)))))
def c5c:FSem:=⟨[.v QL],[.v QI],a5V⟩
def a7F(x:Int):Option Bool:=cond (decide ((-1073741824)≤x)) (some (decide (x<1073741824))) (some false)
def c5d:FSem:=⟨[.v QI],[.v .bool],a7F⟩
def a9l(x:Int):Option Int:=(a7F x).bind fun y1=>cond (!y1) (some 0) (cond (decide (x≥0)) (some (wrap .u64 (wrap .i64 (2*x)))) (some (wrap .u64 (wrap .i64 ((wrap .i64 ((-2)*x))-1)))))
def c5e:FSem:=⟨[.v QI],[.v QU],a9l⟩
def a7G(x:(Int×Int)):Option Int:=(show Option Z10 from(a2a x.1).bind fun y1=>cond (!y1) (some (x.1,x.2,true,())) ((a7F x.2).bind fun y2=>some (x.1,x.2,!y2,()))).bind fun z3=>cond z3.2.2.1 (some 0) ((a9l z3.2.1).bind fun y4=>cond (decide (z3.1<0)) none (cond (decide ((wrap .i64 (A0o .u64 y4 z3.1))<32)) (some (wrap .i64 ((wrap .i64 ((wrap .i64 (A0o .u64 y4 z3.1))+1))+z3.1))) (some 65)))
def c5f:FSem:=⟨[.v QI,.v QI],[.v QI],a7G⟩
def d7H:Hints:=⟨[],[(6,[Qn [0,1,.sv 13 .bool]])],[]⟩
def a4b(s:Z53):Option (Z53 ⊕ (Int×Unit)):=(fun(a:LI)(b c:Int)=>cond (decide (c<b)) ((m0k a c).bind fun x1=>(a7G (s.1,x1)).bind fun y2=>some (.inl (s.1,wrap .i64 (s.2.1+y2),a,b,wrap .i64 (c+1),()))) (some (.inr (s.2.1,())))) s.2.2.1 s.2.2.2.1 s.2.2.2.2.1
def a3A(x:(Int×LI)):Option Int:=(y0s a4b (x.1,0,x.2,(x.2.length:Int),0,())).bind fun w3=>some w3.1
def c6G:FSem:=⟨[.v QI,.v QL],[.v QI],a3A⟩
def d7I:Hints:=⟨[(58,[0,5,.sv 8 QL,9,10],[Qe 0 [5]])],[],[]⟩
def a1w(s:(LI×(Int×(Int×(Int×(LI×Z20)))))):Option ((LI×(Int×(Int×(Int×(LI×Z20))))) ⊕ (Int×Unit)):=(fun(a:LI)(b c d:Int)(e:LI)(f:Z6)=>cond (decide (d<c)) (cond ((decide (0≤d))&&(decide (d<(e.length:Int)))) (cond ((decide (0≤(a04 e (a00 d) 0)))&&(decide ((a04 e (a00 d) 0)≤(a.length:Int)))) (cond ((decide (0≤(a04 e (a00 d) 0)))&&(decide ((a04 e (a00 d) 0)≤(a.length:Int)))) ((m0k f.2.1 d).bind fun x5=>cond (x5==31) ((a5V (a07 (a00 (a04 e (a00 d) 0)) a)).bind fun y6=>some (.inl (a09 (a00 (a04 e (a00 d) 0)) (a07 (a02 a) a),wrap .i64 (b+(wrap .i64 (5+y6))),c,wrap .i64 (d+1),e,f,()))) ((m0k f.2.1 d).bind fun x7=>(a3A (x7,a07 (a00 (a04 e (a00 d) 0)) a)).bind fun y8=>some (.inl (a09 (a00 (a04 e (a00 d) 0)) (a07 (a02 a) a),wrap .i64 (b+(wrap .i64 (5+y8))),c,wrap .i64 (d+1),e,f,())))) none) none) none) (some (.inr (b,())))) s.1 s.2.1 s.2.2.1 s.2.2.2.1 s.2.2.2.2.1 s.2.2.2.2.2.1
def a4R(x:(Z6×Z3)):Option Int:=(show Option (Int×(Int×(LI×(Bool×Z20))))from(a9g (x.1,x.2.1,x.2.2.1)).bind fun y1=>cond (!y1) (some (x.2.1,x.2.2.1,x.2.2.2,true,x.1,())) ((a7o (x.2.1,x.2.2.1,x.2.2.2)).bind fun y2=>some (x.2.1,x.2.2.1,x.2.2.2,!y2,x.1,()))).bind fun z3=>cond z3.2.2.2.1 (some 0) ((a3h (z3.2.2.2.2.1.1,z3.1,z3.2.1)).bind fun y4=>(y0s a1w (z3.2.2.1,4,(y4.length:Int),0,y4,z3.2.2.2.2.1,())).bind fun w9=>some w9.1)
def c2Y:FSem:=⟨[.v Q11,.v QI,.v QI,.v QL],[.v QI],a4R⟩
def d7J:Hints:=⟨[(122,[.sv 3 QL,9,30,31,.own 29 1029 QI,.vp 4 Q11],[Qe 0 [9]])],[(6,[Qn [1,2,.sv 3 QL,.sv 24 .bool,.vp 4 Q11]])],[]⟩
def a8F(s:Z33):Option (Z33 ⊕ (Int×Unit)):=(fun(a b:Int)=>cond (decide (b≤25)) ((a3A (b,s.1)).bind fun y2=>cond (decide (y2<a)) (some (.inl (s.1,b,y2,wrap .i64 (b+1),()))) (some (.inl (s.1,s.2.1,a,wrap .i64 (b+1),())))) (some (.inr (s.2.1,())))) s.2.2.1 s.2.2.2.1
def b1z(x:LI):Option Int:=(a3A (0,x)).bind fun y1=>(y0s a8F (x,0,y1,1,())).bind fun w3=>some w3.1
def c5g:FSem:=⟨[.v QL],[.v QI],b1z⟩
def d7K:Hints:=⟨[(58,[.sv 0 QL,3,4,5],[Qe 0 [3]])],[],[]⟩
def a8G(x:LI):Option Int:=(b1z x).bind fun y1=>(a5V x).bind fun y2=>(a3A (y1,x)).bind fun y3=>cond (decide (y2<y3)) (some 31) (some y1)
def b9E:FSem:=⟨[.v QL],[.v QI],a8G⟩
def a7Y(s:(Int×(Int×(Int×(LI×(Int×(Int×(LI×(Int×(Int×(LI×c6s))))))))))):Option ((Int×(Int×(Int×(LI×(Int×(Int×(LI×(Int×(Int×(LI×c6s)))))))))) ⊕ (Int×(Int×(Int×(LI×(Int×Int×c6s)))))):=(fun(a:Int)(b:LI)(c d:Int)(e:LI)(f g:Int)(h:LI)(i j k:Z6)=>cond (decide (g<f)) (cond ((decide (0≤g))&&(decide (g<(h.length:Int)))) (cond ((decide (0≤(a04 h (a00 g) 0)))&&(decide ((a04 h (a00 g) 0)≤(e.length:Int)))) ((a8G (a07 (a00 (a04 h (a00 g) 0)) e)).bind fun y3=>cond (lim ((a02 k.2.1)+1)) (cond ((decide (0≤(a04 h (a00 g) 0)))&&(decide ((a04 h (a00 g) 0)≤(e.length:Int)))) (some (.inl (s.1,s.2.1,a,b,c,d,a09 (a00 (a04 h (a00 g) 0)) (a07 (a02 e) e),f,wrap .i64 (g+1),h,i,j,(k.1,a03 k.2.1 [y3],k.2.2),()))) none) none) none) none) (some (.inr (s.1,s.2.1,a,b,c,d,i,j,k,())))) s.2.2.1 s.2.2.2.1 s.2.2.2.2.1 s.2.2.2.2.2.1 s.2.2.2.2.2.2.1 s.2.2.2.2.2.2.2.1 s.2.2.2.2.2.2.2.2.1 s.2.2.2.2.2.2.2.2.2.1 s.2.2.2.2.2.2.2.2.2.2.1 s.2.2.2.2.2.2.2.2.2.2.2.1 s.2.2.2.2.2.2.2.2.2.2.2.2.1
def a3S(s:(Int×(Int×(Int×(LI×(Int×Int×Z83)))))):Option ((Int×(Int×(Int×(LI×(Int×Int×Z83))))) ⊕ Z83):=(fun(a b:Int)(c:LI)(d e:Int)(f g:Z6)=>cond (decide (e≤(v0s (v0r b 0) 8))) ((a3h (e,s.1,a)).bind fun y2=>cond ((y2.length:Int)==0) (some (.inl (s.1,a,b,c,d,wrap .i64 (e+1),f,g,()))) ((y0s a7Y (s.1,a,b,c,d,e,c,(y2.length:Int),0,y2,f,g,(e,[],()),())).bind fun w4=>(a4R (w4.2.2.2.2.2.2.2.2.1,w4.1,w4.2.1,w4.2.2.2.1)).bind fun y5=>(show Option (Int×(Int×(Int×(LI×(Int×Int×Int×Bool×c6s)))))from cond (w4.2.2.2.2.1==0) (some (w4.1,w4.2.1,w4.2.2.1,w4.2.2.2.1,w4.2.2.2.2.1,w4.2.2.2.2.2.1,y5,true,w4.2.2.2.2.2.2.1,w4.2.2.2.2.2.2.2.1,w4.2.2.2.2.2.2.2.2.1,())) (some (w4.1,w4.2.1,w4.2.2.1,w4.2.2.2.1,w4.2.2.2.2.1,w4.2.2.2.2.2.1,y5,decide (y5<w4.2.2.2.2.1),w4.2.2.2.2.2.2.1,w4.2.2.2.2.2.2.2.1,w4.2.2.2.2.2.2.2.2.1,()))).bind fun z6=>cond z6.2.2.2.2.2.2.2.1 (some (.inl (z6.1,z6.2.1,z6.2.2.1,z6.2.2.2.1,z6.2.2.2.2.2.2.1,wrap .i64 (z6.2.2.2.2.2.1+1),z6.2.2.2.2.2.2.2.2.1,z6.2.2.2.2.2.2.2.2.2.2.1,()))) (some (.inl (z6.1,z6.2.1,z6.2.2.1,z6.2.2.2.1,z6.2.2.2.2.1,wrap .i64 (z6.2.2.2.2.2.1+1),z6.2.2.2.2.2.2.2.2.1,z6.2.2.2.2.2.2.2.2.2.1,()))))) (some (.inr (f,g,())))) s.2.1 s.2.2.1 s.2.2.2.1 s.2.2.2.2.1 s.2.2.2.2.2.1 s.2.2.2.2.2.2.1 s.2.2.2.2.2.2.2.1
def b0E(x:(Int×Z3)):Option (Z6×Int):=(a7o (x.1,x.2.1,x.2.2.2)).bind fun y1=>cond (!y1) (some ((0,[],()),1)) ((y0s a3S (x.1,x.2.1,x.2.2.1,x.2.2.2,0,0,(0,[],()),(0,[],()),())).bind fun w7=>some (w7.2.1,0))
def c2Z:FSem:=⟨[.v QI,.v QI,.v QI,.v QL],[.v Q11,.v QI],b0E⟩
def d7L:Hints:=⟨[(250,[0,1,2,.sv 3 QL,11,12,.box 8 Q11,.box 10 Q11,Qp 8 8,Qp 10 10],[Qe 0 [.box 8 Q11,.box 10 Q11,Qp 8 8,Qp 10 10]]),(512634,[0,1,2,.sv 3 QL,11,12,.sv 15 QL,43,44,.own 42 13 QI,.box 8 Q11,.box 10 Q11,.box 14 Q10,Qp 8 8,Qp 10 10,Qp 14 14],[Qe 2 [0,1,2,.sv 3 QL,11,12,.box 8 Q11,.box 10 Q11,.box 14 Q10,Qp 8 8,Qp 10 10,Qp 14 14]])],[(256319,[Qn [0,1,2,.sv 3 QL,11,12,18,.sv 72 .bool,.box 8 Q11,.box 10 Q11,.box 14 Q11,Qp 8 8,Qp 10 10,Qp 14 14]])],[(15,[.q,.q,.v,.v,.v,.v,.q,.x,.x,.x])]⟩
def a5n(s:(LI×(LI×c6x))):Option ((LI×(LI×c6x)) ⊕ ((LI×b1W) ⊕ (Int×b4n))):=(fun(a b:Int)(c d:a1B)=>cond (decide (b<a)) ((m0k s.2.1 b).bind fun x5=>(m0k s.1 0).bind fun x6=>cond (x5 != x6) (some (.inr (Sum.inr ((7,(0,0,0,0,0,[],a01 3 0,[],[],(0,[],()),[],()),()))))) (some (.inl (s.1,s.2.1,a,wrap .i64 (b+1),c,d,())))) (some (.inr (Sum.inl (s.1,c,d,()))))) s.2.2.1 s.2.2.2.1 s.2.2.2.2.1 s.2.2.2.2.2.1
def b2g(x:(Int×(LI×a1B))):Option b3z:=(show Option (Int×(LI×(Int×Bool×b1W)))from cond (decide ((x.2.1.length:Int)<1)) (some (x.1,x.2.1,(x.2.1.length:Int),true,(0,0,0,0,0,[],a01 3 0,[],[],(0,[],()),[],()),x.2.2,())) (cond (decide ((x.2.1.length:Int) > 4096)) (some (x.1,x.2.1,(x.2.1.length:Int),true,(0,0,0,0,0,[],a01 3 0,[],[],(0,[],()),[],()),x.2.2,())) ((a8c (x.1,x.2.2,(x.2.1.length:Int))).bind fun y1=>some (x.1,x.2.1,(x.2.1.length:Int),!y1,(0,0,0,0,0,[],a01 3 0,[],[],(0,[],()),[],()),x.2.2,())))).bind fun z2=>cond z2.2.2.2.1 (some ((0,0,0,0,0,[],a01 3 0,[],[],(0,[],()),[],()),1)) ((a2H z2.2.1).bind fun y3=>cond (!y3) (some ((0,0,0,0,0,[],a01 3 0,[],[],(0,[],()),[],()),6)) ((a6l (z2.1,z2.2.2.2.2.2.1)).bind fun y4=>cond (z2.1==0) ((y0s a5n (z2.2.1,z2.2.1,(z2.2.1.length:Int),0,z2.2.2.2.2.1,y4,())).bind fun w7=>match w7 with |.inl a8=>((m0k a8.1 0).bind fun x10=>some ((a8.2.2.1.1,a8.2.2.1.2.1,a8.2.2.1.2.2.1,a8.2.2.1.2.2.2.1,a8.2.2.1.2.2.2.2.1,a8.2.2.1.2.2.2.2.2.1,a8.2.2.1.2.2.2.2.2.2.1,a8.2.2.1.2.2.2.2.2.2.2.1,[x10],a8.2.2.1.2.2.2.2.2.2.2.2.2),0)) |.inr b9=>some (b9.2.1,b9.1)) ((a3Q z2.2.1).bind fun y11=>(a7m (z2.2.1,y11)).bind fun y12=>cond (y12.2 != 0) (some ((0,0,0,0,0,[],a01 3 0,[],[],(0,[],()),[],()),6)) (cond (z2.1==1) (some ((y4.1,y11,y4.2.2.1,y4.2.2.2.1,y4.2.2.2.2.1,y4.2.2.2.2.2.1,y4.2.2.2.2.2.2.1,y4.2.2.2.2.2.2.2.1,y12.1,y4.2.2.2.2.2.2.2.2.2),0)) ((b1y ((y4.1,y11,y4.2.2),y12.1)).bind fun y13=>cond (y13.1 != 0) (some ((0,0,0,0,0,[],a01 3 0,[],[],(0,[],()),[],()),6)) ((b0E (z2.2.2.1,(y13.2.2.2.2.2.2.2.2.2.1.length:Int),6,y13.2.2.2.2.2.2.2.2.2.2.2.1)).bind fun y14=>cond (y14.2 != 0) (some ((0,0,0,0,0,[],a01 3 0,[],[],(0,[],()),[],()),6)) (some ((y13.2.1,y13.2.2.1,y13.2.2.2.1,y13.2.2.2.2.1,y13.2.2.2.2.2.1,y13.2.2.2.2.2.2.1,y13.2.2.2.2.2.2.2.1,y13.2.2.2.2.2.2.2.2.1,y13.2.2.2.2.2.2.2.2.2.1,y14.1,y13.2.2.2.2.2.2.2.2.2.2.2),0))))))))
def c6H:FSem:=⟨[.v QI,.v QL,.v Q42],[.v Q42,.v QI],b2g⟩
def H95:Hints:=⟨[(4050,[.sv 1 QL,.sv 39 QL,40,41,.box 6 Q42,.box 9 Q42,Qp 6 6,Qp 9 9],[Qe 0 [.sv 1 QL,.box 6 Q42,.box 9 Q42,Qp 6 6,Qp 9 9],Qr [7,.box 6 Q42,Qp 6 6]])],[(14,[Qn [0,.sv 1 QL,8,.sv 28 .bool,.box 6 Q42,.vp 5 Q42,Qp 6 6]])],[]⟩
def a2s(x:(Z7×Int)):Option Z7:=(show Option Z39 from cond ((a06 x.1.2.1 8)==0) (cond (lim ((a02 x.1.1)+1)) (some (x.2,(a03 x.1.1 [0],x.1.2),())) none) (some (x.2,x.1,()))).bind fun z1=>cond ((decide (0≤(wrap .i64 (a08 z1.2.1.2.1 8))))&&(decide ((wrap .i64 (a08 z1.2.1.2.1 8))<(z1.2.1.1.length:Int)))) (cond (decide ((wrap .i64 (7-(a06 z1.2.1.2.1 8)))<0)) none (cond ((decide (0≤(wrap .i64 (a08 z1.2.1.2.1 8))))&&(decide ((wrap .i64 (a08 z1.2.1.2.1 8))<(z1.2.1.1.length:Int)))) (some (a05 z1.2.1.1 (a00 (wrap .i64 (a08 z1.2.1.2.1 8))) (bits .u8 .or (a04 z1.2.1.1 (a00 (wrap .i64 (a08 z1.2.1.2.1 8))) 0) (A0n .u8 z1.1 (wrap .i64 (7-(a06 z1.2.1.2.1 8))))),wrap .i64 (z1.2.1.2.1+1),z1.2.1.2.2)) none)) none
def b6F:FSem:=⟨[.r false (.b Q9),.v QV],[],a2s⟩
def d7M:Hints:=⟨[],[(1,[Qn [.sv 1 QV,.box pinned Q9,Qp 0 pinned]])],[(2,[.p,.p,.q,.q,.p,.p,.q,.q,.v,.q,.q,.v,.p,.p,.q,.q,.v,.v,.v,.x,.x,.x])]⟩
def a4k(s:Z57):Option (Z57 ⊕ Z22):=cond (decide (s.2.1≥0)) (cond (decide (s.2.1<0)) none ((a2s (s.2.2.1,wrap .u8 (bits .u64 .and (A0o .u64 s.1 s.2.1) 1))).bind fun y2=>some (.inl (s.1,wrap .i64 (s.2.1-1),y2,())))) (some (.inr (s.2.2.1,())))
def a0I(x:(Z7×Int×Int)):Option Z18:=(show Option (Int×Int×Bool×Z22)from cond (decide (x.2.2<0)) (some (x.2.1,x.2.2,true,x.1,())) (cond (decide (x.2.2 > 64)) (some (x.2.1,x.2.2,true,x.1,())) (cond (decide (x.2.2<0)) none (some (x.2.1,x.2.2,(A0o .u64 x.2.1 x.2.2) != 0,x.1,()))))).bind fun z1=>cond z1.2.2.1 (some (1,z1.2.2.2.1)) ((y0s a4k (z1.1,wrap .i64 (z1.2.1-1),z1.2.2.2.1,())).bind fun w3=>some (0,w3.1))
def b6G:FSem:=⟨[.r false (.b Q9),.v QU,.v QI],[.v QI],a0I⟩
def H99:Hints:=⟨[(58,[.sv 1 QU,7,.box pinned Q9,Qp 0 pinned],[Qe 0 [.box pinned Q9]])],[(6,[Qn [.sv 1 QU,2,.sv 19 .bool,.box pinned Q9,Qp 0 pinned]])],[]⟩
def a2W(x:(Z7×Int×Int)):Option Z7:=cond (decide (x.2.2<0)) none ((a0I (x.1,bits .u64 .and (wrap .u64 x.2.1) (wrap .u64 ((A0n .u64 1 x.2.2)-1)),x.2.2)).bind fun y1=>some y1.2)
def b8d:FSem:=⟨[.r false (.b Q9),.v QI,.v QI],[],a2W⟩
def a6f(s:Z91):Option (Z91 ⊕ Z22):=(fun(a b:Int)(c:Z7)=>cond (decide (b<a)) ((m0k s.2.1 b).bind fun x6=>(a2W (c,x6,s.1)).bind fun y7=>some (.inl (s.1,s.2.1,a,wrap .i64 (b+1),y7,()))) (some (.inr (c,())))) s.2.2.1 s.2.2.2.1 s.2.2.2.2.1
def a8H(x:(Z7×a1B)):Option Z7:=(a0I (x.1,wrap .u64 (wrap .i64 ((x.2.2.2.2.2.2.1.length:Int)-1)),5)).bind fun y1=>(a0I (y1.2,wrap .u64 x.2.2.2.2.1,4)).bind fun y2=>(a1u x.2.2.2.2.2.2.1).bind fun y3=>(a0I (y2.2,wrap .u64 y3,5)).bind fun y4=>(y0s a6f (y3,x.2.2.2.2.2.2.1,(x.2.2.2.2.2.2.1.length:Int),0,y4.2,())).bind fun w8=>some w8.1
def b9F:FSem:=⟨[.r false (.b Q9),.v Q42],[],a8H⟩
def d7N:Hints:=⟨[(254,[4,.sv 27 QL,28,29,.box pinned Q9,Qp 0 pinned],[Qe 0 [.box pinned Q9]])],[],[]⟩
def a3B(s:Z57):Option (Z57 ⊕ Z22):=cond (decide (s.2.1<s.1)) ((a2s (s.2.2.1,0)).bind fun y2=>some (.inl (s.1,wrap .i64 (s.2.1+1),y2,()))) (some (.inr (s.2.2.1,())))
def a2C(x:(Z7×Int)):Option Z18:=(show Option (Int×Bool×Z22)from cond (decide (x.2<0)) (some (x.2,true,x.1,())) (some (x.2,decide (x.2 > 4096),x.1,()))).bind fun z1=>cond z1.2.1 (some (1,z1.2.2.1)) ((y0s a3B (z1.1,0,z1.2.2.1,())).bind fun w3=>(a2s (w3.1,1)).bind fun y4=>some (0,y4))
def b5y:FSem:=⟨[.r false (.b Q9),.v QI],[.v QI],a2C⟩
def d7O:Hints:=⟨[(58,[11,12,.box pinned Q9,Qp 0 pinned],[Qe 0 [.box pinned Q9,Qp 0 pinned]])],[(6,[Qn [1,.sv 10 .bool,.box pinned Q9,Qp 0 pinned]])],[]⟩
def a9x(s:(Int×(LI×Z81))):Option ((Int×(LI×Z81)) ⊕ ((Int×(LI×Z22)) ⊕ Z39)):=(fun(a:LI)(b c:Int)(d:Z7)=>cond (decide (c<b)) ((m0k a c).bind fun x2=>(a7F x2).bind fun y3=>cond (!y3) (some (.inr (Sum.inr ((1,d,()))))) (some (.inl (s.1,s.2.1,a,b,wrap .i64 (c+1),d,())))) (some (.inr (Sum.inl (s.1,s.2.1,d,()))))) s.2.2.1 s.2.2.2.1 s.2.2.2.2.1 s.2.2.2.2.2.1
def a7p(s:Z91):Option (Z91 ⊕ Z22):=(fun(a:Int)(b:LI)(c d:Int)(e:Z7)=>cond (decide (d<c)) ((m0k b d).bind fun x7=>(a9l x7).bind fun y8=>cond (decide (a<0)) none (cond (decide ((A0o .u64 y8 a)<32)) ((a2C (e,wrap .i64 (A0o .u64 y8 a))).bind fun y9=>cond (decide (a<0)) none ((a0I (y9.2,wrap .u64 (y8-(A0n .u64 (A0o .u64 y8 a) a)),a)).bind fun y10=>some (.inl (a,b,c,wrap .i64 (d+1),y10.2,())))) ((a2C (e,32)).bind fun y11=>(a0I (y11.2,y8,32)).bind fun y12=>some (.inl (a,b,c,wrap .i64 (d+1),y12.2,()))))) (some (.inr (e,())))) s.1 s.2.1 s.2.2.1 s.2.2.2.1 s.2.2.2.2.1
def b2h(x:(Z7×(Int×LI))):Option Z18:=(a2a x.2.1).bind fun y1=>cond (!y1) (some (1,x.1)) ((y0s a9x (x.2.1,x.2.2,x.2.2,(x.2.2.length:Int),0,x.1,())).bind fun w4=>match w4 with |.inl a5=>((y0s a7p (a5.1,a5.2.1,(a5.2.1.length:Int),0,a5.2.2.1,())).bind fun w13=>some (0,w13.1)) |.inr b6=>some (b6.1,b6.2.1))
def c6I:FSem:=⟨[.r false (.b Q9),.v QI,.v QL],[.v QI],b2h⟩
def d7P:Hints:=⟨[(58,[1,.sv 2 QL,.sv 16 QL,17,18,.box pinned Q9,Qp 0 pinned],[Qe 0 [1,.sv 2 QL,.box pinned Q9,Qp 0 pinned],Qr [6,.box pinned Q9]]),(122,[1,.sv 26 QL,27,28,.box pinned Q9,Qp 0 pinned],[Qe 2 [.box pinned Q9]])],[],[]⟩
def a8I(s:(LI×(Int×Int×Int×c2w))):Option ((LI×(Int×Int×Int×c2w)) ⊕ c2w):=(fun(a b c:Int)(d:LI)(e f:Int)(g:LI)(h:Z7)(i:Z6)=>cond (decide (f<e)) ((m0k d f).bind fun x11=>cond (decide (a<0)) none ((a0I (h,bits .u64 .and (wrap .u64 x11) (wrap .u64 ((A0n .u64 1 a)-1)),a)).bind fun y12=>some (.inl (s.1,a,b,c,d,e,wrap .i64 (f+1),g,y12.2,i,())))) (some (.inr (s.1,b,c,g,h,i,())))) s.2.1 s.2.2.1 s.2.2.2.1 s.2.2.2.2.1 s.2.2.2.2.2.1 s.2.2.2.2.2.2.1 s.2.2.2.2.2.2.2.1 s.2.2.2.2.2.2.2.2.1 s.2.2.2.2.2.2.2.2.2.1
def a4F(s:c2w):Option (c2w ⊕ Z22):=(fun(a:LI)(b c:Int)(d:LI)(e:Z7)(f:Z6)=>cond (decide (c<b)) (cond ((decide (0≤c))&&(decide (c<(d.length:Int)))) (cond ((decide (0≤(a04 d (a00 c) 0)))&&(decide ((a04 d (a00 c) 0)≤(a.length:Int)))) (cond ((decide (0≤(a04 d (a00 c) 0)))&&(decide ((a04 d (a00 c) 0)≤(a.length:Int)))) ((m0k f.2.1 c).bind fun x4=>(a0I (e,wrap .u64 x4,5)).bind fun y5=>(m0k f.2.1 c).bind fun x6=>cond (x6 != 31) ((m0k f.2.1 c).bind fun x7=>(b2h (y5.2,x7,a07 (a00 (a04 d (a00 c) 0)) a)).bind fun y8=>some (.inl (a09 (a00 (a04 d (a00 c) 0)) (a07 (a02 a) a),b,wrap .i64 (c+1),d,y8.2,f,()))) ((a1u (a07 (a00 (a04 d (a00 c) 0)) a)).bind fun y9=>(a0I (y5.2,wrap .u64 y9,5)).bind fun y10=>(y0s a8I (a09 (a00 (a04 d (a00 c) 0)) (a07 (a02 a) a),y9,b,c,a07 (a00 (a04 d (a00 c) 0)) a,((a02 (a07 (a00 (a04 d (a00 c) 0)) a):Nat):Int),0,d,y10.2,f,())).bind fun w13=>some (.inl (w13.1,w13.2.1,wrap .i64 (w13.2.2.1+1),w13.2.2.2.1,w13.2.2.2.2.1,w13.2.2.2.2.2.1,())))) none) none) none) (some (.inr (e,())))) s.1 s.2.1 s.2.2.1 s.2.2.2.1 s.2.2.2.2.1 s.2.2.2.2.2.1
def b1A(x:(Z7×Z6×Z3)):Option Z18:=(a4R (x.2.1,x.2.2.1,x.2.2.2.1,x.2.2.2.2)).bind fun y1=>cond (y1==0) (some (1,x.1)) ((a0I (x.1,wrap .u64 x.2.1.1,4)).bind fun y2=>(a3h (x.2.1.1,x.2.2.1,x.2.2.2.1)).bind fun y3=>(y0s a4F (x.2.2.2.2,(y3.length:Int),0,y3,y2.2,x.2.1,())).bind fun w14=>some (0,w14.1))
def c5h:FSem:=⟨[.r false (.b Q9),.v Q11,.v QI,.v QI,.v QL],[.v QI],b1A⟩
def d7Q:Hints:=⟨[(122,[.sv 4 QL,33,34,.own 32 1032 QI,.box pinned Q9,Qp 0 pinned,.vp 6 Q11],[Qe 0 [.box pinned Q9]]),(2005502,[.sv 4 QL,14,33,34,.sv 73 QL,74,75,.own 32 1032 QI,.box pinned Q9,Qp 0 pinned,.vp 6 Q11],[Qe 2 [.sv 4 QL,33,34,.own 32 1032 QI,.box pinned Q9,Qp 0 pinned,.vp 6 Q11]])],[],[]⟩
def b0F(s:(Int×(Int×(LI×c6v)))):Option ((Int×(Int×(LI×c6v))) ⊕ b3A):=(fun(a:LI)(b:Int)(c:Z7)(d:a1B)=>cond (decide (b<3)) ((m0k a b).bind fun x8=>(a2W (c,x8,8)).bind fun y9=>some (.inl (s.1,s.2.1,a,wrap .i64 (b+1),y9,d,()))) (some (.inr (s.1,s.2.1,c,d,())))) s.2.2.1 s.2.2.2.1 s.2.2.2.2.1 s.2.2.2.2.2.1
def b0G(s:(Int×Int×Z5×b3A)):Option ((Int×Int×Z5×b3A) ⊕ b3A):=(fun(a:Z5)(b c:Int)(d:Z7)(e:a1B)=>cond (decide (c<b)) ((m0k a c).bind fun x18=>(a0I (d,wrap .u64 (wrap .i64 (x18.1-1)),5)).bind fun y19=>(a0I (y19.2,wrap .u64 x18.2.1,4)).bind fun y20=>some (.inl (s.1,s.2.1,a,b,wrap .i64 (c+1),y20.2,e,()))) (some (.inr (s.1,s.2.1,d,e,())))) s.2.2.1 s.2.2.2.1 s.2.2.2.2.1 s.2.2.2.2.2.1 s.2.2.2.2.2.2.1
def b0H(s:(Int×(Int×(LI×b3A)))):Option ((Int×(Int×(LI×b3A))) ⊕ c6v):=(fun(a:LI)(b c:Int)(d:Z7)(e:a1B)=>cond (decide (c<b)) ((m0k a c).bind fun x23=>(a2W (d,x23,s.2.1)).bind fun y24=>some (.inl (s.1,s.2.1,a,b,wrap .i64 (c+1),y24,e,()))) (some (.inr (s.1,d,e,())))) s.2.2.1 s.2.2.2.1 s.2.2.2.2.1 s.2.2.2.2.2.1 s.2.2.2.2.2.2.1
def a9N(x:(Z7×b3z)):Option Z18:=(a9L (x.2.1,x.2.2)).bind fun y1=>cond (!y1) (some (1,x.1)) ((a1u x.2.1.2.2.2.2.2.2.2.2.1).bind fun y2=>(a0I (x.1,wrap .u64 x.2.1.1,3)).bind fun y3=>(a0I (y3.2,wrap .u64 x.2.1.2.1,5)).bind fun y4=>(a0I (y4.2,wrap .u64 y2,5)).bind fun y5=>(show Option b3A from(show Option (b3A ⊕ (b3A ⊕ b3A))from cond (x.2.1.1==2) ((a0I (y5.2,wrap .u64 x.2.1.2.2.1,3)).bind fun y6=>some (Sum.inr (Sum.inl (x.2.2,y2,y6.2,x.2.1,())))) (cond (x.2.1.1==4) ((a0I (y5.2,wrap .u64 (wrap .i64 (x.2.1.2.2.2.2.1-1)),10)).bind fun y7=>(y0s b0F (x.2.2,y2,x.2.1.2.2.2.2.2.2.1,0,y7.2,x.2.1,())).bind fun w10=>some (Sum.inl (w10.1,w10.2.1,w10.2.2.1,w10.2.2.2.1,()))) (cond (x.2.1.1==3) (some (Sum.inl (x.2.2,y2,y5.2,x.2.1,()))) (cond (x.2.1.1==5) (some (Sum.inr (Sum.inr ((x.2.2,y2,y5.2,x.2.1,()))))) (some (Sum.inr (Sum.inl (x.2.2,y2,y5.2,x.2.1,())))))))).bind fun z11=>match z11 with |.inl a12=>((a8H (a12.2.2.1,a12.2.2.2.1)).bind fun y14=>some (a12.1,a12.2.1,y14,a12.2.2.2.1,())) |.inr b13=>(match b13 with |.inl a15=>some (a15.1,a15.2.1,a15.2.2.1,a15.2.2.2.1,()) |.inr b16=>((a0I (b16.2.2.1,wrap .u64 (b16.2.2.2.1.2.2.2.2.2.2.2.1.length:Int),2)).bind fun y17=>(y0s b0G (b16.1,b16.2.1,b16.2.2.2.1.2.2.2.2.2.2.2.1,(b16.2.2.2.1.2.2.2.2.2.2.2.1.length:Int),0,y17.2,b16.2.2.2.1,())).bind fun w21=>some (w21.1,w21.2.1,w21.2.2.1,w21.2.2.2.1,())))).bind fun z22=>(y0s b0H (z22.1,z22.2.1,z22.2.2.2.1.2.2.2.2.2.2.2.2.1,(z22.2.2.2.1.2.2.2.2.2.2.2.2.1.length:Int),0,z22.2.2.1,z22.2.2.2.1,())).bind fun w25=>(a6j w25.2.2.1.1).bind fun y26=>cond (!y26) (some (0,w25.2.1)) ((b1A (w25.2.1,w25.2.2.1.2.2.2.2.2.2.2.2.2.1,w25.1,(w25.2.2.1.2.2.2.2.2.2.2.2.1.length:Int),w25.2.2.1.2.2.2.2.2.2.2.2.2.2.1)).bind fun y27=>some (y27.1,y27.2)))
def c8p:FSem:=⟨[.r false (.b Q9),.v Q42,.v QI],[.v QI],a9N⟩
def H50:Hints:=⟨[(2042,[2,7,.sv 94 QL,95,96,.box pinned Q9,Qp 0 pinned,.vp 4 Q42],[Qe 9 [2,.box pinned Q9,Qp 0 pinned,.vp 4 Q42]]),(32598,[2,7,.sv 75 (.list false Q3),76,77,.box pinned Q9,Qp 0 pinned,.vp 4 Q42],[Qe 7 [2,7,.box pinned Q9,Qp 0 pinned,.vp 4 Q42]]),(260622,[2,7,.sv 57 (.arr 3 QI),58,.box pinned Q9,Qp 0 pinned,.vp 4 Q42],[Qe 5 [2,7,.box pinned Q9,Qp 0 pinned,.vp 4 Q42]])],[(127,[Qn [2,7,.box pinned Q9,Qp 0 pinned,.vp 4 Q42]]),(4072,[Qn [2,7,.box pinned Q9,Qp 0 pinned,.vp 4 Q42],Qe 0 [2,7,.box pinned Q9,Qp 0 pinned,.vp 4 Q42],Qe 4 [2,7,.box pinned Q9,Qp 0 pinned,.vp 4 Q42]])],[]⟩
def a9a(x:Z7):Option Z18:=some (x.2.1,x)
def b6H:FSem:=⟨[.r false (.b Q9)],[.v QI],a9a⟩
def a4l(x:b3z):Option Int:=(a9N (([],0,()),x.1,x.2)).bind fun y1=>cond (y1.1 != 0) (some 0) ((a9a y1.2).bind fun y2=>some y2.1)
def c6J:FSem:=⟨[.v Q42,.v QI],[.v QI],a4l⟩
def a7q(s:(LI×(Int×Bool×a9D×c6x))):Option ((LI×(Int×Bool×a9D×c6x)) ⊕ b1W):=(fun(a:LI)(b:Int)(c:Bool)(d:a9D)(e f:Int)(g h:a1B)=>cond (decide (f<e)) ((m0k d f).bind fun x6=>(b2g (x6.1,a,x6)).bind fun y7=>cond (y7.2 != 0) (some (.inl (a,b,c,d,e,wrap .i64 (f+1),g,h,()))) ((a4l (y7.1,(a.length:Int))).bind fun y8=>(show Option (LI×(Int×Bool×Int×a9D×Int×Int×Bool×a1B×b1W))from cond (!c) (some (a,b,c,y8,d,e,f,true,g,h,y7.1,())) (some (a,b,c,y8,d,e,f,decide (y8<b),g,h,y7.1,()))).bind fun z9=>cond z9.2.2.2.2.2.2.2.1 (some (.inl (z9.1,z9.2.2.2.1,true,z9.2.2.2.2.1,z9.2.2.2.2.2.1,wrap .i64 (z9.2.2.2.2.2.2.1+1),z9.2.2.2.2.2.2.2.2.1,z9.2.2.2.2.2.2.2.2.2.2.1,()))) (some (.inl (z9.1,z9.2.1,z9.2.2.1,z9.2.2.2.2.1,z9.2.2.2.2.2.1,wrap .i64 (z9.2.2.2.2.2.2.1+1),z9.2.2.2.2.2.2.2.2.1,z9.2.2.2.2.2.2.2.2.2.1,()))))) (some (.inr (g,h,())))) s.1 s.2.1 s.2.2.1 s.2.2.2.1 s.2.2.2.2.1 s.2.2.2.2.2.1 s.2.2.2.2.2.2.1 s.2.2.2.2.2.2.2.1
def a5G(x:(LI×Int)):Option b3z:=(show Option (LI×c2x)from cond (decide ((x.1.length:Int)<1)) (some (x.1,x.2,true,(0,0,0,0,0,[],a01 3 0,[],[],(0,[],()),[],()),())) (cond (decide ((x.1.length:Int) > 4096)) (some (x.1,x.2,true,(0,0,0,0,0,[],a01 3 0,[],[],(0,[],()),[],()),())) (cond (decide (x.2<0)) (some (x.1,x.2,true,(0,0,0,0,0,[],a01 3 0,[],[],(0,[],()),[],()),())) (some (x.1,x.2,decide (x.2 > 3),(0,0,0,0,0,[],a01 3 0,[],[],(0,[],()),[],()),()))))).bind fun z1=>cond z1.2.2.1 (some ((0,0,0,0,0,[],a01 3 0,[],[],(0,[],()),[],()),1)) ((a2H z1.1).bind fun y2=>cond (!y2) (some ((0,0,0,0,0,[],a01 3 0,[],[],(0,[],()),[],()),6)) ((a3Q z1.1).bind fun y3=>(a7m (z1.1,y3)).bind fun y4=>cond (y4.2 != 0) (some ((0,0,0,0,0,[],a01 3 0,[],[],(0,[],()),[],()),y4.2)) ((a6V (y4.1,z1.2.1)).bind fun y5=>(y0s a7q (z1.1,0,false,y5,(y5.length:Int),0,z1.2.2.2.1,(0,0,0,0,0,[],a01 3 0,[],[],(0,[],()),[],()),())).bind fun w10=>some (w10.2.1,0))))
def c6K:FSem:=⟨[.v QL,.v QI],[.v Q42,.v QI],a5G⟩
def H48:Hints:=⟨[(2042,[.sv 0 QL,9,.sv 10 .bool,.sv 50 (.list false Q42),51,52,.box 4 Q42,.box 8 Q42,Qp 4 4,Qp 8 8],[Qe 0 [.box 4 Q42,.box 8 Q42,Qp 4 4,Qp 8 8]])],[(6,[Qn [.sv 0 QL,1,.sv 31 .bool,.box 4 Q42,Qp 4 4]]),(1045711,[Qn [.sv 0 QL,9,.sv 10 .bool,15,.sv 50 (.list false Q42),51,52,.sv 76 .bool,.box 4 Q42,.box 8 Q42,.box 13 Q42,Qp 4 4,Qp 8 8,Qp 13 13]])],[]⟩
def a5H(s:(Int×((List LI)×(Int×Int×a1V×b3B)))):Option ((Int×((List LI)×(Int×Int×a1V×b3B))) ⊕ ((a1V×b3B) ⊕ (Int×b3B))):=(fun(a b:Int)(c d:a1V)=>cond (decide (b<a)) ((m0k s.2.1 b).bind fun x8=>(a5G (x8,s.1)).bind fun y9=>cond (y9.2 != 0) (some (.inr (Sum.inr ((y9.2,(0,0,(0,0,0,()),[],[],()),()))))) (cond (lim ((a02 d.2.2.2.2.1)+1)) (some (.inl (s.1,s.2.1,a,wrap .i64 (b+1),c,(d.1,d.2.1,d.2.2.1,d.2.2.2.1,a03 d.2.2.2.2.1 ([y9.1]:List a1B),d.2.2.2.2.2),()))) none)) (some (.inr (Sum.inl (c,d,()))))) s.2.2.1 s.2.2.2.1 s.2.2.2.2.1 s.2.2.2.2.2.1
def a2X(x:(Z13×Z8×Int×Int)):Option (a1V×Int):=(show Option (Int×Int×Bool×a1V×Z13×Z23)from(a3v x.1).bind fun y1=>cond (!y1) (some (x.2.2.1,x.2.2.2,true,(0,0,(0,0,0,()),[],[],()),x.1,x.2.1,())) ((a2d x.2.1).bind fun y2=>cond (!y2) (some (x.2.2.1,x.2.2.2,true,(0,0,(0,0,0,()),[],[],()),x.1,x.2.1,())) (cond (x.1.1 != x.2.1.2.2.1) (some (x.2.2.1,x.2.2.2,true,(0,0,(0,0,0,()),[],[],()),x.1,x.2.1,())) (cond ((x.1.2.1.length:Int) != x.2.1.2.1) (some (x.2.2.1,x.2.2.2,true,(0,0,(0,0,0,()),[],[],()),x.1,x.2.1,())) (cond (decide (x.2.2.2<0)) (some (x.2.2.1,x.2.2.2,true,(0,0,(0,0,0,()),[],[],()),x.1,x.2.1,())) (cond (decide (x.2.2.2 > 3)) (some (x.2.2.1,x.2.2.2,true,(0,0,(0,0,0,()),[],[],()),x.1,x.2.1,())) (some (x.2.2.1,x.2.2.2,decide (x.2.2.1<0),(0,0,(0,0,0,()),[],[],()),x.1,x.2.1,())))))))).bind fun z3=>cond z3.2.2.1 (some ((0,0,(0,0,0,()),[],[],()),1)) ((a3u z3.2.2.2.2.1).bind fun y4=>cond (decide (z3.1 > (wrap .i64 (4194304-y4)))) (some ((0,0,(0,0,0,()),[],[],()),4)) ((show Option (Int×a1V×a1V×Z34)from cond (decide (z3.2.1 > 0)) ((a7D z3.2.2.2.2.1).bind fun y5=>some (z3.2.1,z3.2.2.2.1,(z3.1,y4,z3.2.2.2.2.2.1,y5,[],()),z3.2.2.2.2.1,())) (some (z3.2.1,z3.2.2.2.1,(z3.1,y4,z3.2.2.2.2.2.1,[],[],()),z3.2.2.2.2.1,()))).bind fun z6=>(b1P (z6.2.2.2.1.2.1,z6.2.2.1.2.2.2.1)).bind fun y7=>cond (y7.2 != 0) (some ((0,0,(0,0,0,()),[],[],()),y7.2)) ((y0s a5H (z6.1,y7.1,(y7.1.length:Int),0,z6.2.1,z6.2.2.1,())).bind fun w10=>match w10 with |.inl a11=>some (a11.2.1,0) |.inr b12=>some (b12.2.1,b12.1))))
def c3a:FSem:=⟨[.v Q15,.v Q12,.v QI,.v QI],[.v Q60,.v QI],a2X⟩
def H20:Hints:=⟨[(2042,[3,.sv 81 (.list false QL),82,83,.box 8 Q60,.box 10 Q59,Qp 8 8,Qp 10 10],[Qe 0 [.box 8 Q60,.box 10 Q59,Qp 8 8,Qp 10 10],Qr [9,.box 8 Q60,Qp 8 8]])],[(6,[Qn [2,3,.sv 51 .bool,.box 8 Q60,.vp 4 Q15,.vp 5 Q12,Qp 8 8]]),(31,[Qn [3,.box 8 Q60,.box 10 Q59,.vp 4 Q15,Qp 8 8,Qp 10 10]])],[(3,[.v,.v,.v,.v,.v,.q,.x])]⟩
def a8J(s:((List LI)×(Int×Int×Z13×Z13×Z11))):Option (((List LI)×(Int×Int×Z13×Z13×Z11)) ⊕ (Z13×Z34)):=(fun(a:Int)(b c:Z13)(d:Int×(Int×Unit))=>cond (decide (a<s.2.1)) ((m0k s.1 a).bind fun x4=>cond ((decide (0≤d.2.1))&&(decide (d.2.1≤(x4.length:Int)))) (cond ((decide (0≤d.1))&&(decide (d.1≤((a00 d.2.1:Nat):Int)))) ((a2I (a09 (a00 d.1) (a07 (a00 d.2.1) x4))).bind fun y5=>cond (lim ((a02 c.2.1)+1)) (some (.inl (s.1,s.2.1,wrap .i64 (a+1),b,(c.1,a03 c.2.1 ([y5]:List LI),c.2.2),d,()))) none) none) none) (some (.inr (b,c,())))) s.2.2.1 s.2.2.2.1 s.2.2.2.2.1 s.2.2.2.2.2.1
def b1B(x:(Z13×Int×Int×Unit)):Option Z30:=(a3v x.1).bind fun y1=>cond (!y1) (some ((0,([]:(List LI)),()),1)) ((show Option (Bool×Z13×Z13×Z11)from cond (decide (x.2.1<0)) (some (true,(0,([]:(List LI)),()),x.1,x.2,())) (cond (decide (x.2.1≥x.2.2.1)) (some (true,(0,([]:(List LI)),()),x.1,x.2,())) ((a3u x.1).bind fun y2=>some (decide (x.2.2.1 > y2),(0,([]:(List LI)),()),x.1,x.2,())))).bind fun z3=>cond z3.1 (some ((0,([]:(List LI)),()),6)) ((y0s a8J (z3.2.2.1.2.1,(z3.2.2.1.2.1.length:Int),0,z3.2.1,(z3.2.2.1.1,([]:(List LI)),()),z3.2.2.2.1,())).bind fun w6=>some (w6.2.1,0)))
def c5i:FSem:=⟨[.v Q15,.v Q3],[.v Q15,.v QI],b1B⟩
def H26:Hints:=⟨[(250,[.sv 35 (.list false QL),36,37,.box 4 Q15,.box 6 (.pair QI Q7),.vp 3 Q3,Qp 4 4,Qp 6 6],[Qe 0 [.box 4 Q15,.box 6 (.pair QI Q7),Qp 4 4,Qp 6 6]])],[(14,[Qn [.sv 29 .bool,.box 4 Q15,.vp 2 Q15,.vp 3 Q3,Qp 4 4]])],[(3,[.x,.x,.x,.x,.v,.v,.v,.v,.x,.x,.x,.v,.v,.v,.v,.x,.x]),(9,[.q,.q,.v,.v,.v,.v,.v,.v,.v,.q,.x,.x,.x])]⟩
def a7Z(x:(a1V×(Int×Int×Unit)×Int)):Option (a1V×Int):=(a2f x.1).bind fun y1=>cond (y1.2 != 0) (some ((0,0,(0,0,0,()),[],[],()),y1.2)) ((b1B (y1.1,x.2.1)).bind fun y2=>cond (y2.2 != 0) (some ((0,0,(0,0,0,()),[],[],()),y2.2)) ((a2X (y2.1,x.1.2.2.1,0,x.2.2)).bind fun y3=>some (y3.1,y3.2)))
def b8e:FSem:=⟨[.v Q60,.v Q3,.v QI],[.v Q60,.v QI],a7Z⟩
def a3C(s:Z22):Option (Z22 ⊕ Z22):=cond ((a06 s.1.2.1 8) != 0) ((a2s (s.1,0)).bind fun y2=>some (.inl (y2,()))) (some (.inr (s.1,())))
def a5f(x:Z7):Option Z7:=(y0s a3C (x,())).bind fun w3=>some w3.1
def b5z:FSem:=⟨[.r false (.b Q9)],[],a5f⟩
def H51:Hints:=⟨[(2,[.box pinned Q9,Qp 0 pinned],[Qe 0 [.box pinned Q9]])],[],[]⟩
def a5g(x:Z7):Option (LI×Z7):=cond (lim (a02 x.1)) (some (x.1,x)) none
def b5A:FSem:=⟨[.r false (.b Q9)],[.o QV],a5g⟩
def b1C(x:Int):Option Int:=cond (decide (x≥0)) (some (wrap .u64 (2*(wrap .u64 x)))) (some (wrap .u64 ((wrap .u64 (2*(wrap .u64 (wrap .i64 (0-(wrap .i64 (x+1)))))))+1)))
def c5j:FSem:=⟨[.v QI],[.v QU],b1C⟩
def a8K(s:Z61):Option (Z61 ⊕ Z61):=(fun(a b c:Int)(d:LI)=>cond (decide (a≥128)) (cond (lim ((a02 d)+1)) (some (.inl (wrap .u64 (a08 a 128),s.2.1,b,c,a03 d [wrap .u8 ((wrap .u8 (a06 a 128))+128)],()))) none) (some (.inr (a,s.2.1,b,c,d,())))) s.1 s.2.2.1 s.2.2.2.1 s.2.2.2.2.1
def a8L(s:Z44):Option (Z44 ⊕ (LI×Unit)):=cond (decide (s.2.2.1<s.2.1)) ((m0k s.1 s.2.2.1).bind fun x1=>(y0s a8K (x1,s.1,s.2.1,s.2.2.1,s.2.2.2.1,())).bind fun w2=>cond (lim ((a02 w2.2.2.2.2.1)+1)) (some (.inl (w2.2.1,w2.2.2.1,wrap .i64 (w2.2.2.2.1+1),a03 w2.2.2.2.2.1 [wrap .u8 w2.1],()))) none) (some (.inr (s.2.2.2.1,())))
def a9m(x:LI):Option LI:=(y0s a8L (x,(x.length:Int),0,[],())).bind fun w3=>some w3.1
end Go.Ab
namespace Go.Ab
open IntKind(wrap)
open Go.Proofs
set_option maxRecDepth 100000
set_option linter.unusedVariables false
def c5k:FSem:=⟨[.v (.list false QU)],[.o QV],a9m⟩
def d7R:Hints:=⟨[(58,[.sv 6 (.list false QU),7,8,.own 3 3 QV],[Qe 0 [.own 3 3 QV]]),(14948,[.sv 5 QU,.sv 6 (.list false QU),7,8,.own 3 3 QV],[Qe 2 [.sv 5 QU,.sv 6 (.list false QU),7,8,.own 3 3 QV]])],[],[]⟩
def a5I(s:(Int×Z16×Z17)):Option ((Int×Z16×Z17) ⊕ Z6):=(fun(a b:Int)(c:LI)=>cond (decide (b<a)) ((m0k s.2.1 b).bind fun x1=>(b1C x1.2.2.1).bind fun y2=>cond (lim ((a02 c)+3)) (some (.inl (s.1,s.2.1,a,wrap .i64 (b+1),a03 c [wrap .u64 x1.1,wrap .u64 x1.2.1,y2],()))) none) (some (.inr (s.1,c,())))) s.2.2.1 s.2.2.2.1 s.2.2.2.2.1
def a8a(x:(a1V×Int)):Option LI:=(y0s a5I (x.2,x.1.2.2.2.1,(x.1.2.2.2.1.length:Int),0,([wrap .u64 x.1.1,wrap .u64 x.1.2.1,wrap .u64 x.1.2.2.1.1,wrap .u64 x.1.2.2.1.2.1,wrap .u64 x.1.2.2.1.2.2.1,wrap .u64 (x.1.2.2.2.1.length:Int)]:List Int),())).bind fun w3=>cond (lim ((a02 w3.2.1)+1)) ((a9m (a03 w3.2.1 [wrap .u64 w3.1])).bind fun y4=>cond (lim (2+(a02 y4))) ((a8e (a03 [245,75] y4)).bind fun y5=>cond (lim ((a02 (a03 [245,75] y4))+1)) (some (a03 (a03 [245,75] y4) [y5])) none) none) none
def b8f:FSem:=⟨[.v Q60,.v QI],[.o QV],a8a⟩
def H53:Hints:=⟨[(58,[1,.sv 33 (.list false Q12),34,35,.own 5 5 QU],[Qe 0 [1,.own 5 5 QU]])],[],[(5,[.q,.q,.q,.v,.q,.q,.v,.q,.q,.v,.q,.x,.x])]⟩
def a2b(s:Z35):Option (Z35 ⊕ (LI×Unit)):=cond (decide (s.2.2.1<s.2.1)) (cond (lim ((a02 s.2.2.2.1)+1)) (some (.inl (wrap .u64 (a08 s.1 256),s.2.1,wrap .i64 (s.2.2.1+1),a03 s.2.2.2.1 [wrap .u8 (a06 s.1 256)],()))) none) (some (.inr (s.2.2.2.1,())))
def a5o(x:(Int×Int)):Option LI:=(a3Y x.2).bind fun y1=>(y0s a2b (x.1,y1,0,[],())).bind fun w2=>some w2.1
def c1X:FSem:=⟨[.v QU,.v QI],[.o QV],a5o⟩
def d7S:Hints:=⟨[(58,[.sv 0 QU,7,8,.own 5 5 QV],[Qe 0 [.own 5 5 QV]])],[],[]⟩
def a1Z(x:LI):Option LI:=cond (decide (a02 x<2147483648)) (some (List.reverse x)) none
def b0U:FSem:=⟨[.r false (.o QV)],[],a1Z⟩
def a4v(x:(Int×Int)):Option LI:=(a5o (x.1,x.2)).bind fun y1=>(a1Z y1).bind fun y2=>some y2
def c5l:FSem:=⟨[.v QU,.v QI],[.o QV],a4v⟩
def a8M(s:(a9D×Int×Int×Z7×b3B)):Option ((a9D×Int×Int×Z7×b3B) ⊕ ((Z7×b3B) ⊕ Z6)):=(fun(a:Int)(b:Z7)(c:a1V)=>cond (decide (a<s.2.1)) ((m0k s.1 a).bind fun x2=>(a9N (b,x2,c.2.1)).bind fun y3=>cond (y3.1 != 0) (some (.inr (Sum.inr ((y3.1,[],()))))) (some (.inl (s.1,s.2.1,wrap .i64 (a+1),y3.2,c,())))) (some (.inr (Sum.inl (b,c,()))))) s.2.2.1 s.2.2.2.1 s.2.2.2.2.1
def a2F(x:a1V):Option (LI×Int):=(a4u x).bind fun y1=>cond (!y1) (some ([],1)) ((y0s a8M (x.2.2.2.2.1,(x.2.2.2.2.1.length:Int),0,([],0,()),x,())).bind fun w4=>match w4 with |.inl a5=>((a5f a5.1).bind fun y7=>(a5g y7).bind fun y8=>(a8a (a5.2.1,(y8.1.length:Int))).bind fun y9=>cond (lim ((a02 y9)+(a02 y8.1))) ((a6o (a03 y9 y8.1)).bind fun y10=>(a4v (wrap .u64 y10,2)).bind fun y11=>cond (lim ((a02 (a03 y9 y8.1))+(a02 y11))) (some (a03 (a03 y9 y8.1) y11,0)) none) none) |.inr b6=>some (b6.2.1,b6.1))
def c5m:FSem:=⟨[.v Q60],[.o QV,.v QI],a2F⟩
def H21:Hints:=⟨[(122,[.sv 14 (.list false Q42),15,16,.box 4 Q9,.vp 1 Q60,Qp 4 4],[Qe 0 [.box 4 Q9,.vp 1 Q60,Qp 4 4],Qr [3,.own 2 2 QV]])],[],[]⟩
def a8N(s:(Int×Int×Int×a2U×Int×Int×c6y)):Option ((Int×Int×Int×a2U×Int×Int×c6y) ⊕ ((Int×Int×c6y) ⊕ (Bool×((List LI)×Z47)))):=(fun(a b:Int)(c:a2U)(d e:Int)(f:List LI)(g:Z25)(h:a3X)=>cond (decide (e<d)) ((m0k c e).bind fun x3=>(show Option (Int×(Int×(Int×(Int×(a2U×(Int×(Int×(Bool×((List LI)×(Z25×a1V×b0W))))))))))from cond (!(eqT Q12 x3.2.2.1 h.1)) (some (a,s.2.1,b,e,c,d,e,true,f,g,x3,h,())) (some (a,s.2.1,b,e,c,d,e,x3.1 != a,f,g,x3,h,()))).bind fun z4=>cond z4.2.2.2.2.2.2.2.1 (some (.inr (Sum.inr ((false,([]:(List LI)),[],()))))) ((show Option (Int×(Int×(Int×(a2U×(Int×(Int×(Bool×((List LI)×(Z25×a1V×b0W)))))))))from(m0k z4.2.2.2.2.2.2.2.2.2.2.2.1.2.2.2.1 z4.2.2.2.1).bind fun x5=>cond (x5.1 != z4.1) (some (z4.1,z4.2.1,z4.2.2.1,z4.2.2.2.2.1,z4.2.2.2.2.2.1,z4.2.2.2.2.2.2.1,true,z4.2.2.2.2.2.2.2.2.1,z4.2.2.2.2.2.2.2.2.2.1,z4.2.2.2.2.2.2.2.2.2.2.1,z4.2.2.2.2.2.2.2.2.2.2.2.1,())) ((m0k z4.2.2.2.2.2.2.2.2.2.2.2.1.2.2.2.1 z4.2.2.2.1).bind fun x6=>some (z4.1,z4.2.1,z4.2.2.1,z4.2.2.2.2.1,z4.2.2.2.2.2.1,z4.2.2.2.2.2.2.1,x6.2.1 != z4.2.1,z4.2.2.2.2.2.2.2.2.1,z4.2.2.2.2.2.2.2.2.2.1,z4.2.2.2.2.2.2.2.2.2.2.1,z4.2.2.2.2.2.2.2.2.2.2.2.1,()))).bind fun z7=>cond z7.2.2.2.2.2.2.1 (some (.inr (Sum.inr ((false,([]:(List LI)),[],()))))) ((a2f z7.2.2.2.2.2.2.2.2.2.1).bind fun y8=>cond (y8.2 != 0) (some (.inr (Sum.inr ((false,([]:(List LI)),[],()))))) ((a2F z7.2.2.2.2.2.2.2.2.2.1).bind fun y9=>cond (y9.2 != 0) (some (.inr (Sum.inr ((false,([]:(List LI)),[],()))))) ((a4E (z7.2.2.1,y8.1)).bind fun y10=>cond (!y10.2) (some (.inr (Sum.inr ((false,([]:(List LI)),[],()))))) (cond (lim ((a02 z7.2.2.2.2.2.2.2.1)+1)) (cond (lim ((a02 z7.2.2.2.2.2.2.2.2.1)+1)) (some (.inl (wrap .i64 (z7.1+z7.2.2.2.2.2.2.2.2.2.1.2.1),wrap .i64 (z7.2.1+(y9.1.length:Int)),y10.1,z7.2.2.2.1,z7.2.2.2.2.1,wrap .i64 (z7.2.2.2.2.2.1+1),a03 z7.2.2.2.2.2.2.2.1 ([y9.1]:List LI),a03 z7.2.2.2.2.2.2.2.2.1 ([y8.1]:List Z13),z7.2.2.2.2.2.2.2.2.2.2.1,()))) none) none)))))) (some (.inr (Sum.inl (a,b,f,g,h,()))))) s.1 s.2.2.1 s.2.2.2.1 s.2.2.2.2.1 s.2.2.2.2.2.1 s.2.2.2.2.2.2.1 s.2.2.2.2.2.2.2.1 s.2.2.2.2.2.2.2.2.1
def a9n(x:a3X):Option ((List LI)×(Z25×Bool)):=(show Option (Bool×c6y)from(a2d x.1).bind fun y1=>cond (!y1) (some (true,([]:(List LI)),[],x,())) (cond (decide ((x.2.2.2.2.1.length:Int) > 4096)) (some (true,([]:(List LI)),[],x,())) (some ((x.2.2.2.1.length:Int) != (x.2.2.2.2.1.length:Int),([]:(List LI)),[],x,())))).bind fun z2=>cond z2.1 (some (([]:(List LI)),[],false)) ((y0s a8N (0,0,0,z2.2.2.2.1.2.2.2.2.1,(z2.2.2.2.1.2.2.2.2.1.length:Int),0,z2.2.1,z2.2.2.1,z2.2.2.2.1,())).bind fun w11=>match w11 with |.inl a12=>((show Option (Bool×((List LI)×Z47))from cond (a12.2.2.2.2.1.2.1 != a12.1) (some (true,a12.2.2.1,a12.2.2.2.1,())) (some (a12.2.2.2.2.1.2.2.1 != a12.2.1,a12.2.2.1,a12.2.2.2.1,()))).bind fun z14=>cond z14.1 (some (([]:(List LI)),[],false)) (some (z14.2.1,z14.2.2.1,true))) |.inr b13=>some (b13.2.1,b13.2.2.1,b13.1))
def c5n:FSem:=⟨[.v Q74],[.o QB,.o Q15,.v .bool],a9n⟩
def H40:Hints:=⟨[(122,[5,6,.sv 7 QU,.sv 33 (.list false Q60),34,35,.own 2 2 QB,.own 3 3 Q15,.vp 1 Q74],[Qe 0 [5,.sv 7 QU,.own 2 2 QB,.own 3 3 Q15,.vp 1 Q74],Qr [.sv 4 .bool,.own 2 2 QB,.own 3 3 Q15]])],[(6,[Qn [.sv 31 .bool,.own 2 2 QB,.own 3 3 Q15,.vp 1 Q74]]),(62,[Qn [.sv 117 .bool,.own 2 2 QB,.own 3 3 Q15]]),(15666,[Qn [5,6,.sv 7 QU,8,.sv 33 (.list false Q60),34,35,.sv 50 .bool,.own 2 2 QB,.own 3 3 Q15,.box 9 Q60,.vp 1 Q74,Qp 9 9]]),(31334,[Qn [5,6,.sv 7 QU,.sv 33 (.list false Q60),34,35,.sv 68 .bool,.own 2 2 QB,.own 3 3 Q15,.box 9 Q60,.vp 1 Q74,Qp 9 9]])],[]⟩
def a8O(s:(a2U×(Int×(Int×((List LI)×c2z))))):Option ((a2U×(Int×(Int×((List LI)×c2z)))) ⊕ ((List LI)×c2z)):=(fun(a:Int)(b:List LI)(c:LI)(d:a3X)=>cond (decide (a<s.2.1)) ((m0k s.1 a).bind fun x2=>cond ((decide (0≤a))&&(decide (a<(b.length:Int)))) (cond (lim ((a02 c)+2)) (some (.inl (s.1,s.2.1,wrap .i64 (a+1),b,a03 c ([wrap .u64 ((a02 (a04 b (a00 a) []):Nat):Int),wrap .u64 x2.2.1]:List Int),d,()))) none) none) (some (.inr (b,c,d,())))) s.2.2.1 s.2.2.2.1 s.2.2.2.2.1 s.2.2.2.2.2.1
def a8P(s:(Int×(Int×(LI×Z2)))):Option ((Int×(Int×(LI×Z2))) ⊕ (LI×Unit)):=(fun(a:Int)(b:LI)(c:List LI)=>cond (decide (a<s.1)) (cond ((decide (0≤a))&&(decide (a<(c.length:Int)))) (cond (lim ((a02 b)+(a02 (a04 c (a00 a) [])))) (some (.inl (s.1,wrap .i64 (a+1),a03 b (a04 c (a00 a) []),c,()))) none) none) (some (.inr (b,())))) s.2.1 s.2.2.1 s.2.2.2.1
def a9o(x:a3X):Option (LI×Int):=(a9n x).bind fun y1=>cond (!y1.2.2) (some ([],1)) ((y0s a8O (x.2.2.2.2.1,(x.2.2.2.2.1.length:Int),0,y1.1,([wrap .u64 x.1.1,wrap .u64 x.1.2.1,wrap .u64 x.1.2.2.1,wrap .u64 (x.2.2.2.2.1.length:Int)]:List Int),x,())).bind fun w3=>(a9m w3.2.1).bind fun y4=>cond (lim (4+(a02 y4))) ((a4v (w3.2.2.1.2.2.1,8)).bind fun y5=>cond (lim ((a02 (a03 [75,78,83,68] y4))+(a02 y5))) ((a4I (a03 (a03 [75,78,83,68] y4) y5)).bind fun y6=>(a4v (wrap .u64 y6,4)).bind fun y7=>cond (lim ((a02 (a03 (a03 [75,78,83,68] y4) y5))+(a02 y7))) ((y0s a8P ((w3.1.length:Int),0,a03 (a03 (a03 [75,78,83,68] y4) y5) y7,w3.1,())).bind fun w8=>some (w8.1,0)) none) none) none)
def c5o:FSem:=⟨[.v Q74],[.o QV,.v QI],a9o⟩
def H73:Hints:=⟨[(250,[.sv 39 (.list false Q60),40,41,.own 4 4 QB,.own 7 7 QU,.vp 1 Q74],[Qe 0 [.own 4 4 QB,.own 7 7 QU,.vp 1 Q74]]),(4090,[76,77,.own 10 10 QV,.own 75 4 QB],[Qe 2 [.own 10 10 QV]])],[],[(8,[.q,.q,.v,.q,.q,.v,.v,.q,.q,.v,.q,.x,.x])]⟩
def a4m(s:(Int×a2U×c2A)):Option ((Int×a2U×c2A) ⊕ (b0W ⊕ Z6)):=(fun(a b:Int)(c:a3X)=>cond (decide (b<a)) ((m0k s.2.1 b).bind fun x1=>(a2F (c.2.1,x1.2)).bind fun y2=>cond (y2.2 != 0) (some (.inr (Sum.inr ((y2.2,[],()))))) ((a2f (c.2.1,x1.2)).bind fun y3=>cond (y3.2 != 0) (some (.inr (Sum.inr ((y3.2,[],()))))) ((a8f y3.1).bind fun y4=>cond (y4.2 != 0) (some (.inr (Sum.inr ((y4.2,[],()))))) ((a8g y4.1).bind fun y5=>(a9k (c.2.2.1,y5,(y4.1.length:Int))).bind fun y6=>cond (lim ((a02 c.2.2.2.1)+1)) (cond (lim ((a02 c.2.2.2.2.1)+1)) (some (.inl (wrap .i64 (s.1+(y2.1.length:Int)),s.2.1,a,wrap .i64 (b+1),(c.1,wrap .i64 (c.2.1+x1.2.1),y6.1,a03 c.2.2.2.1 ([(c.2.1,s.1,())]:List (Int×Int×Unit)),a03 c.2.2.2.2.1 ([(c.2.1,x1.2)]:List a1V),c.2.2.2.2.2),()))) none) none)))) (some (.inr (Sum.inl (c,()))))) s.2.2.1 s.2.2.2.1 s.2.2.2.2.1
def a4i(x:(Z8×a2U)):Option (LI×Int):=(y0s a4m (0,x.2,(x.2.length:Int),0,(x.1,0,0,[],[],()),())).bind fun w7=>match w7 with |.inl a8=>((a9o a8.1).bind fun y10=>some (y10.1,y10.2)) |.inr b9=>some (b9.2.1,b9.1)
def b6I:FSem:=⟨[.v Q12,.v (.list false Q60)],[.o QV,.v QI],a4i⟩
def H36:Hints:=⟨[(122,[7,.sv 16 (.list false Q60),17,18,.box 6 Q73,Qp 6 6],[Qe 0 [.box 6 Q73,Qp 6 6],Qr [5,.own 4 4 QV]])],[],[(16,[.q,.q,.q,.q,.q,.q,.x,.x,.v,.v,.q,.w [0,6]])]⟩
def a3T(s:(Int×a2U×Int×Int×a2U×a3X×Z11)):Option ((Int×a2U×Int×Int×a2U×a3X×Z11) ⊕ ((a2U×b0W) ⊕ Z6)):=(fun(a:Int)(b:a2U)(c d:Int)(e:a2U)(f:a3X)(g:Int×(Int×Unit))=>cond (decide (d<c)) ((m0k b d).bind fun x4=>cond (decide ((v0r (wrap .i64 (g.1-x4.1)) 0)≥(v0s (wrap .i64 (g.2.1-x4.1)) x4.2.1))) (some (.inl (a,b,c,wrap .i64 (d+1),e,f,g,()))) ((show Option ((Int×a2U×Int×Int×a2U×a3X×a1V×Z11) ⊕ Z6)from cond (decide ((wrap .i64 ((v0s (wrap .i64 (g.2.1-x4.1)) x4.2.1)-(v0r (wrap .i64 (g.1-x4.1)) 0)))<x4.2.1)) ((a7Z (x4,(v0r (wrap .i64 (g.1-x4.1)) 0,v0s (wrap .i64 (g.2.1-x4.1)) x4.2.1,()),a)).bind fun y5=>cond (y5.2 != 0) (some (Sum.inr ((y5.2,[],())))) (some (Sum.inl (a,b,c,d,e,f,y5.1,g,())))) (some (Sum.inl (a,b,c,d,e,f,x4,g,())))).bind fun z6=>match z6 with |.inl a7=>(cond (lim ((a02 a7.2.2.2.2.1)+1)) (some (.inl (a7.1,a7.2.1,a7.2.2.1,wrap .i64 (a7.2.2.2.1+1),a03 a7.2.2.2.2.1 ([a7.2.2.2.2.2.2.1]:List a1V),a7.2.2.2.2.2.1,a7.2.2.2.2.2.2.2.1,()))) none) |.inr b8=>some (.inr (Sum.inr ((b8.1,b8.2.1,())))))) (some (.inr (Sum.inl (e,f,()))))) s.1 s.2.1 s.2.2.1 s.2.2.2.1 s.2.2.2.2.1 s.2.2.2.2.2.1 s.2.2.2.2.2.2.1
def a4S(x:(LI×((Int×Int×Unit)×Int))):Option (LI×Int):=(show Option (LI×(Int×Bool×Z11))from cond (decide (x.2.2<0)) (some (x.1,x.2.2,true,x.2.1,())) (some (x.1,x.2.2,decide (x.2.2 > 3),x.2.1,()))).bind fun z1=>cond z1.2.2.1 (some ([],1)) ((a1E z1.1).bind fun y2=>cond (y2.2 != 0) (some ([],y2.2)) ((show Option (Int×Bool×a3X×Z11)from cond (decide (z1.2.2.2.1.1<0)) (some (z1.2.1,true,y2.1,z1.2.2.2.1,())) (cond (decide (z1.2.2.2.1.1 > z1.2.2.2.1.2.1)) (some (z1.2.1,true,y2.1,z1.2.2.2.1,())) (some (z1.2.1,decide (z1.2.2.2.1.2.1 > y2.1.2.1),y2.1,z1.2.2.2.1,())))).bind fun z3=>cond z3.2.1 (some ([],6)) ((y0s a3T (z3.1,z3.2.2.1.2.2.2.2.1,(z3.2.2.1.2.2.2.2.1.length:Int),0,[],z3.2.2.1,z3.2.2.2.1,())).bind fun w9=>match w9 with |.inl a10=>((a4i (a10.2.1.1,a10.1)).bind fun y12=>some (y12.1,y12.2)) |.inr b11=>some (b11.2.1,b11.1))))
def c3b:FSem:=⟨[.v QB,.v Q3,.v QI],[.o QV,.v QI],a4S⟩
def H13:Hints:=⟨[(1018,[2,.sv 47 (.list false Q60),48,49,.own 10 10 Q60,.box 8 Q74,.vp 4 Q3,Qp 8 8],[Qe 0 [.own 10 10 Q60,.box 8 Q74,Qp 8 8],Qr [7,.own 6 6 QV]])],[(6,[Qn [.sv 0 QB,2,.sv 20 .bool,.vp 4 Q3]]),(62,[Qn [2,.sv 45 .bool,.box 8 Q74,.vp 4 Q3,Qp 8 8]]),(260711,[Qn [2,.sv 47 (.list false Q60),48,49,.own 10 10 Q60,.box 8 Q74,.box 12 Q60,.vp 4 Q3,Qp 8 8,Qp 12 12],Qr [7,.own 6 6 QV]])],[(12,[.v,.v,.q,.q,.v,.v,.v,.v,.q,.q,.v,.q,.q,.v,.v,.x])]⟩
def a5J(s:(Int×(Int×(LI×Z47)))):Option ((Int×(Int×(LI×Z47))) ⊕ (LI×Unit)):=(fun(a:Int)(b:LI)(c:Z25)=>cond (decide (a<s.1)) (cond ((decide (0≤a))&&(decide (a<(c.length:Int)))) ((a7k (a04 c (a00 a) (0,([]:(List LI)),()))).bind fun y2=>cond (lim ((a02 b)+(a02 y2))) (some (.inl (s.1,wrap .i64 (a+1),a03 b y2,c,()))) none) none) (some (.inr (b,())))) s.2.1 s.2.2.1 s.2.2.2.1
def a2w(x:a3X):Option (LI×Int):=(a9n x).bind fun y1=>cond (!y1.2.2) (some ([],1)) ((y0s a5J ((y1.2.1.length:Int),0,[],y1.2.1,())).bind fun w3=>some (w3.1,0))
def b8g:FSem:=⟨[.v Q74],[.o QI,.v QI],a2w⟩
def H15:Hints:=⟨[(250,[19,20,.own 7 7 QI,.own 18 5 Q15],[Qe 0 [.own 7 7 QI]])],[],[]⟩
def a4T(s:(LI×Z7)):Option ((LI×Z7) ⊕ Z0):=(fun(a:Int)=>cond (decide (a<(s.1.length:Int))) ((m0k s.1 a).bind fun x1=>(m0k s.2.1 a).bind fun x2=>cond (x1 != x2) (some (.inr (Sum.inr ((false,()))))) (some (.inl (s.1,s.2.1,wrap .i64 (a+1),())))) (some (.inr (Sum.inl ())))) s.2.2.1
def a7r(x:Z1):Option Bool:=cond ((x.1.length:Int) != (x.2.length:Int)) (some false) ((y0s a4T (x.1,x.2,0,())).bind fun w3=>match w3 with |.inl a4=>some true |.inr b5=>some b5.1)
def c1Y:FSem:=⟨[.v QL,.v QL],[.v .bool],a7r⟩
def H16:Hints:=⟨[(58,[.sv 0 QL,.sv 1 QL,5],[Qe 0 [],Qr [.sv 4 .bool]])],[],[(6,[.v,.v,.v,.v,.v,.v,.v,.v,.x])]⟩
def a4n(s:(a2U×Z29)):Option ((a2U×Z29) ⊕ (Z2 ⊕ Z2)):=cond (decide (s.2.2.1<s.2.1)) ((m0k s.1 s.2.2.1).bind fun x2=>(a2F (0,x2.2)).bind fun y3=>cond (y3.2 != 0) (some (.inr (Sum.inr ((([]:(List LI)),()))))) (cond (lim ((a02 s.2.2.2.1)+1)) (some (.inl (s.1,s.2.1,wrap .i64 (s.2.2.1+1),a03 s.2.2.2.1 ([b2s y3.1]:List LI),()))) none)) (some (.inr (Sum.inl (s.2.2.2.1,()))))
def a2t(x:LI):Option (List LI):=(a1E x).bind fun y1=>cond (y1.2 != 0) (some ([]:(List LI))) ((y0s a4n (y1.1.2.2.2.2.1,(y1.1.2.2.2.2.1.length:Int),0,([]:(List LI)),())).bind fun w4=>match w4 with |.inl a5=>some a5.1 |.inr b6=>some b6.1)
def a3e:FSem:=⟨[.v QB],[.o .str],a2t⟩
def H42:Hints:=⟨[(250,[.sv 18 (.list false Q60),19,20,.own 5 5 .str],[Qe 0 [.own 5 5 .str],Qr [.own 2 2 .str]])],[],[]⟩
def a7s(x:Z1):Option Int:=(a2t x.1).bind fun a=>(a2t x.2).bind fun b=>cond (lim (a02 a)&&lim (a02 b)) (some (((List.filter (fun s=>List.contains a s) b).length:Nat):Int)) none
def b5h:FSem:=⟨[.v QB,.v QB],[.v QI],a7s⟩
def a2k(s:Z43):Option (Z43 ⊕ Z0):=(fun(a b:Int)=>cond (decide (b<a)) ((m0k s.1 b).bind fun x1=>(m0k s.2.1 b).bind fun x2=>cond (x1 != x2) (some (.inr (Sum.inr ((false,()))))) (some (.inl (s.1,s.2.1,a,wrap .i64 (b+1),())))) (some (.inr (Sum.inl ())))) s.2.2.1 s.2.2.2.1
def a2S(x:Z1):Option Bool:=cond ((x.1.length:Int) != (x.2.length:Int)) (some false) ((y0s a2k (x.1,x.2,(x.1.length:Int),0,())).bind fun w3=>match w3 with |.inl a4=>some true |.inr b5=>some b5.1)
def b2i:FSem:=⟨[.v QL,.v QL],[.v .bool],a2S⟩
def H70:Hints:=⟨[(58,[.sv 0 QL,.sv 1 QL,12,13],[Qe 0 [],Qr [.sv 4 .bool]])],[],[(6,[.v,.v,.v,.v,.v,.v,.v,.v,.x])]⟩
def a7t(x:Z1):Option Bool:=(a1E x.1).bind fun y1=>cond (y1.2 != 0) (some false) ((a1E x.2).bind fun y2=>(show Option (Bool×a3X×b0W)from cond (y2.2 != 0) (some (true,y1.1,y2.1,())) (cond (!(eqT Q12 y1.1.1 y2.1.1)) (some (true,y1.1,y2.1,())) (some (y1.1.2.1 != y2.1.2.1,y1.1,y2.1,())))).bind fun z3=>cond z3.1 (some false) ((a2w z3.2.1).bind fun y4=>cond (y4.2 != 0) (some false) ((a2w z3.2.2.1).bind fun y5=>cond (y5.2==0) ((a2S (y4.1,y5.1)).bind fun y6=>some y6) (some false))))
def c1Z:FSem:=⟨[.v QB,.v QB],[.v .bool],a7t⟩
def H30:Hints:=⟨[],[(62,[Qn [.sv 37 .bool,.box 5 Q74,.box 7 Q74,Qp 5 5,Qp 7 7]])],[]⟩
def a8b(s:(LI×(Int×Int×Z13×Z13×Z23))):Option ((LI×(Int×Int×Z13×Z13×Z23)) ⊕ ((Z13×Z34) ⊕ Z49)):=(fun(a:Int)(b c:Z13)(d:Z8)=>cond (decide (a<s.2.1)) ((m0k s.1 a).bind fun x2=>(a2e (x2,d.2.2.1)).bind fun y3=>cond (!y3) (some (.inr (Sum.inr ((6,(0,([]:(List LI)),()),()))))) (cond (d.2.1==0) none (cond ((decide (0≤(a06 a d.2.1)))&&(decide ((a06 a d.2.1)<(c.2.1.length:Int)))) (cond (lim ((a02 (a04 c.2.1 (a00 (a06 a d.2.1)) []))+1)) (cond ((decide (0≤(a06 a d.2.1)))&&(decide ((a06 a d.2.1)<((a02 (a05 c.2.1 (a00 (a06 a d.2.1)) (a03 (a04 c.2.1 (a00 (a06 a d.2.1)) []) [x2])):Nat):Int)))) (cond (((a00 (a06 a d.2.1))==(a00 (a06 a d.2.1)))&&true) (cond (((a00 (a06 a d.2.1))==(a00 (a06 a d.2.1)))&&true) (some (.inl (s.1,s.2.1,wrap .i64 (a+1),b,(c.1,a05 c.2.1 (a00 (a06 a d.2.1)) (a03 (a04 c.2.1 (a00 (a06 a d.2.1)) []) [x2]),c.2.2),d,()))) none) none) none) none) none))) (some (.inr (Sum.inl (b,c,()))))) s.2.2.1 s.2.2.2.1 s.2.2.2.2.1 s.2.2.2.2.2.1
def b0I(x:Z33):Option Z30:=(a2d x.2).bind fun y1=>cond (!y1) (some ((0,([]:(List LI)),()),1)) (cond ((x.1.length:Int)==0) (some ((0,([]:(List LI)),()),7)) (cond (x.2.2.1==0) none (cond ((a06 (x.1.length:Int) x.2.2.1) != 0) (some ((0,([]:(List LI)),()),3)) (cond (x.2.2.1==0) none (cond (decide ((wrap .i64 (a08 (x.1.length:Int) x.2.2.1)) > 4096)) (some ((0,([]:(List LI)),()),4)) (cond ((decide (0≤x.2.2.1))&&((decide (x.2.2.1≤x.2.2.1))&&(lim (a00 x.2.2.1)))) ((y0s a8b (x.1,(x.1.length:Int),0,(0,([]:(List LI)),()),(x.2.2.2.1,a01 (a00 x.2.2.1) [],()),x.2,())).bind fun w4=>match w4 with |.inl a5=>some (a5.2.1,0) |.inr b6=>some (b6.2.1,b6.1)) none))))))
def c3c:FSem:=⟨[.v QL,.v Q12],[.v Q15,.v QI],b0I⟩
def H72:Hints:=⟨[(1018,[.sv 38 QL,39,40,.box 4 Q15,.box 6 (.pair QI Q6),.vp 3 Q12,Qp 4 4,Qp 6 6],[Qe 0 [.box 4 Q15,.box 6 (.pair QI Q6),Qp 4 4,Qp 6 6],Qr [5,.box 4 Q15,Qp 4 4]])],[],[(9,[.v,.v,.v,.v,.q,.q,.q,.x]),(16,[.s,.s,.s,.q,.q,.v,.q,.q,.v,.q,.b [6,64,65],.x,.x])]⟩
def a6g(s:(LI×(Int×(Int×(Int×(LI×(Int×Z40))))))):Option ((LI×(Int×(Int×(Int×(LI×(Int×Z40)))))) ⊕ ((LI×(Int×Int×Z40)) ⊕ Z6)):=(fun(a b:Int)(c:LI)(d e:Int)(f:Z8)=>cond (decide (e<d)) ((m0k c e).bind fun x4=>(a2e (x4,f.2.2.1)).bind fun y5=>cond (!y5) (some (.inr (Sum.inr ((6,[],()))))) (some (.inl (s.1,s.2.1,a,b,c,d,wrap .i64 (e+1),f,())))) (some (.inr (Sum.inl (s.1,s.2.1,a,b,f,()))))) s.2.2.1 s.2.2.2.1 s.2.2.2.2.1 s.2.2.2.2.2.1 s.2.2.2.2.2.2.1 s.2.2.2.2.2.2.2.1
def a6h(s:(LI×(Int×Int×Int×Int×Int×a3X×Z23))):Option ((LI×(Int×Int×Int×Int×Int×a3X×Z23)) ⊕ (b0W ⊕ Z6)):=(fun(a b c d e:Int)(f:a3X)(g:Z8)=>cond (decide (e<c)) (cond ((decide (0≤(wrap .i64 ((v0s (wrap .i64 (e+a)) c)*g.2.1))))&&(decide ((wrap .i64 ((v0s (wrap .i64 (e+a)) c)*g.2.1))≤(s.1.length:Int)))) (cond ((decide (0≤(wrap .i64 (e*g.2.1))))&&(decide ((wrap .i64 (e*g.2.1))≤((a00 (wrap .i64 ((v0s (wrap .i64 (e+a)) c)*g.2.1)):Nat):Int)))) ((b0I (a09 (a00 (wrap .i64 (e*g.2.1))) (a07 (a00 (wrap .i64 ((v0s (wrap .i64 (e+a)) c)*g.2.1))) s.1),g)).bind fun y9=>cond (y9.2 != 0) (some (.inr (Sum.inr ((y9.2,[],()))))) ((a2X (y9.1,g,e,b)).bind fun y10=>cond (y10.2 != 0) (some (.inr (Sum.inr ((y10.2,[],()))))) ((a2F y10.1).bind fun y11=>cond (y11.2 != 0) (some (.inr (Sum.inr ((y11.2,[],()))))) ((a4E (f.2.2.1,y9.1)).bind fun y12=>cond (lim ((a02 f.2.2.2.1)+1)) (cond (lim ((a02 f.2.2.2.2.1)+1)) (some (.inl (s.1,a,b,c,wrap .i64 (d+(y11.1.length:Int)),wrap .i64 (e+a),(f.1,f.2.1,y12.1,a03 f.2.2.2.1 ([(e,d,())]:List (Int×Int×Unit)),a03 f.2.2.2.2.1 ([y10.1]:List a1V),f.2.2.2.2.2),g,()))) none) none)))) none) none) (some (.inr (Sum.inl (f,()))))) s.2.1 s.2.2.1 s.2.2.2.1 s.2.2.2.2.1 s.2.2.2.2.2.1 s.2.2.2.2.2.2.1 s.2.2.2.2.2.2.2.1
def a6u(x:(Z8×Z4)):Option (LI×Int):=(show Option (LI×(Int×Int×Z41))from(a2d x.1).bind fun y1=>cond (!y1) (some (x.2.1,x.2.2.1,x.2.2.2,true,x.1,())) (cond (decide (x.2.2.1<1)) (some (x.2.1,x.2.2.1,x.2.2.2,true,x.1,())) (cond (decide (x.2.2.1 > 4096)) (some (x.2.1,x.2.2.1,x.2.2.2,true,x.1,())) (cond (decide (x.2.2.2<0)) (some (x.2.1,x.2.2.1,x.2.2.2,true,x.1,())) (some (x.2.1,x.2.2.1,x.2.2.2,decide (x.2.2.2 > 3),x.1,())))))).bind fun z2=>cond z2.2.2.2.1 (some ([],1)) (cond (z2.2.2.2.2.1.2.1==0) none (cond ((a06 (z2.1.length:Int) z2.2.2.2.2.1.2.1) != 0) (some ([],3)) (cond (z2.2.2.2.2.1.2.1==0) none ((show Option (LI×(Int×Int×Int×Z41))from cond (decide ((wrap .i64 (a08 (z2.1.length:Int) z2.2.2.2.2.1.2.1)) > 4194304)) (some (z2.1,z2.2.1,z2.2.2.1,wrap .i64 (a08 (z2.1.length:Int) z2.2.2.2.2.1.2.1),true,z2.2.2.2.2.1,())) (cond (z2.2.1==0) none (some (z2.1,z2.2.1,z2.2.2.1,wrap .i64 (a08 (z2.1.length:Int) z2.2.2.2.2.1.2.1),decide ((wrap .i64 (a08 (wrap .i64 ((wrap .i64 ((wrap .i64 (a08 (z2.1.length:Int) z2.2.2.2.2.1.2.1))+z2.2.1))-1)) z2.2.1)) > 4096),z2.2.2.2.2.1,())))).bind fun z3=>cond z3.2.2.2.2.1 (some ([],4)) ((y0s a6g (z3.1,z3.2.1,z3.2.2.1,z3.2.2.2.1,z3.1,(z3.1.length:Int),0,z3.2.2.2.2.2.1,())).bind fun w6=>match w6 with |.inl a7=>((y0s a6h (a7.1,a7.2.1,a7.2.2.1,a7.2.2.2.1,0,0,(a7.2.2.2.2.1,a7.2.2.2.1,0,[],[],()),a7.2.2.2.2.1,())).bind fun w13=>match w13 with |.inl a14=>((a9o a14.1).bind fun y16=>some (y16.1,y16.2)) |.inr b15=>some (b15.2.1,b15.1)) |.inr b8=>some (b8.2.1,b8.1))))))
def b9G:FSem:=⟨[.v Q12,.v QL,.v QI,.v QI],[.o QV,.v QI],a6u⟩
def H32:Hints:=⟨[(506,[.sv 1 QL,2,3,10,.sv 62 QL,63,64,.vp 4 Q12],[Qe 0 [.sv 1 QL,2,3,10,.vp 4 Q12],Qr [9,.own 8 8 QV]]),(4090,[.sv 1 QL,2,3,10,14,15,.box 13 Q73,.vp 4 Q12,Qp 13 13],[Qe 2 [.box 13 Q73,Qp 13 13],Qr [9,.own 8 8 QV]])],[(6,[Qn [.sv 1 QL,2,3,.sv 39 .bool,.vp 4 Q12]]),(62,[Qn [.sv 1 QL,2,3,10,.sv 61 .bool,.vp 4 Q12]])],[(20,[.v,.v,.v,.v,.v,.v,.v,.v,.v,.v,.v,.v,.v,.v,.v,.q,.w [0,17],.x])]⟩
def b3C(x:Unit):Option Bool:=(a6u ((8000,1,8,()),[1,2,3,4],2,0)).bind fun y1=>(a4S (y1.1,(1,4,()),0)).bind fun y2=>(a1E y2.1).bind fun y3=>(a2w y3.1).bind fun y4=>cond (y1.2==0) (cond (y2.2==0) (cond (y3.2==0) (cond (y4.2==0) ((a7r (y4.1,[2,3,4])).bind fun y5=>cond y5 (cond ((y3.1.2.2.2.2.1.length:Int)==2) ((a7s (y1.1,y2.1)).bind fun y6=>cond (y6==1) ((a7t (y1.1,y2.1)).bind fun y7=>some (!y7)) (some false)) (some false)) (some false)) (some false)) (some false)) (some false)) (some false)
def c5p:FSem:=⟨[],[.v .bool],b3C⟩
def b1D(x:Z8):Option Bool:=cond (decide (x.1≥1)) (cond (decide (x.1≤1048576)) (cond (decide (x.2.1≥1)) (cond (decide (x.2.1≤8)) (cond (decide (x.2.2.1≥4)) (some (decide (x.2.2.1≤24))) (some false)) (some false)) (some false)) (some false)) (some false)
def c5q:FSem:=⟨[.v Q12],[.v .bool],b1D⟩
def b7u(x:Int):Option Int:=(show Option (Int×Bool×Unit)from cond (decide (x<1)) (some (x,true,())) (some (x,decide (x > 31),()))).bind fun z1=>cond z1.2.1 (some 0) (cond (decide ((wrap .u64 (wrap .i64 (z1.1-1)))<0)) none (some (A0n .i64 (-1) (wrap .u64 (wrap .i64 (z1.1-1))))))
def c9I:FSem:=⟨[.v QI],[.v QI],b7u⟩
def H74:Hints:=⟨[],[(6,[Qn [0,.sv 8 .bool]])],[]⟩
def b5M(x:Int):Option Int:=(show Option (Int×Bool×Unit)from cond (decide (x<1)) (some (x,true,())) (some (x,decide (x > 31),()))).bind fun z1=>cond z1.2.1 (some 0) (cond (decide ((wrap .u64 (wrap .i64 (z1.1-1)))<0)) none (some (wrap .i64 ((A0n .i64 1 (wrap .u64 (wrap .i64 (z1.1-1))))-1))))
def c8q:FSem:=⟨[.v QI],[.v QI],b5M⟩
def H75:Hints:=⟨[],[(6,[Qn [0,.sv 8 .bool]])],[]⟩
def b1Q(x:(Int×Int)):Option Bool:=cond (decide (x.2≥1)) (cond (decide (x.2≤31)) ((b7u x.2).bind fun y1=>cond (decide (x.1≥y1)) ((b5M x.2).bind fun y2=>some (decide (x.1≤y2))) (some false)) (some false)) (some false)
def c8r:FSem:=⟨[.v QI,.v QI],[.v .bool],b1Q⟩
def a7u(s:(LI×Z40)):Option ((LI×Z40) ⊕ Z0):=cond (decide (s.2.1<(s.1.length:Int))) ((m0k s.1 s.2.1).bind fun x3=>(b1Q (x3,s.2.2.1.2.2.1)).bind fun y4=>cond (!y4) (some (.inr (Sum.inr ((false,()))))) (some (.inl (s.1,wrap .i64 (s.2.1+1),s.2.2.1,())))) (some (.inr (Sum.inl ())))
def b2j(x:(Z8×(LI×Int))):Option Bool:=(show Option (LI×Z41)from(b1D x.1).bind fun y1=>cond (!y1) (some (x.2.1,true,x.1,())) (cond (decide ((x.2.1.length:Int) > x.2.2)) (some (x.2.1,true,x.1,())) (cond (x.1.2.1==0) none (some (x.2.1,(a06 (x.2.1.length:Int) x.1.2.1) != 0,x.1,()))))).bind fun z2=>cond z2.2.1 (some false) ((y0s a7u (z2.1,0,z2.2.2.1,())).bind fun w5=>match w5 with |.inl a6=>some true |.inr b7=>some b7.1)
def c6L:FSem:=⟨[.v Q12,.v QL,.v QI],[.v .bool],b2j⟩
def H10:Hints:=⟨[(58,[.sv 1 QL,7,.vp 3 Q12],[Qe 0 [],Qr [.sv 6 .bool]])],[(6,[Qn [.sv 1 QL,.sv 24 .bool,.vp 3 Q12]])],[(6,[.v,.v,.v,.v,.v,.v,.x,.x])]⟩
def b0J(x:(Z8×Z4)):Option (LI×(a3X×Bool)):=(a6u (x.1,x.2.1,wrap .i64 (1+(bits .i64 .and x.2.2.1 63)),bits .i64 .and x.2.2.2 3)).bind fun y1=>(a1E y1.1).bind fun y2=>cond (y1.2==0) (some (y1.1,y2.1,y2.2==0)) (some (y1.1,y2.1,false))
def c6M:FSem:=⟨[.v Q12,.v QL,.v QI,.v QI],[.v QB,.v Q74,.v .bool],b0J⟩
def H11:Hints:=⟨[],[],[(3,[.v,.q,.v,.v,.v,.v,.v,.v,.v,.w [0,9],.x])]⟩
def a1x(x:(a2U×Int)):Option a2U:=cond (decide (x.2<(0:Int))) none (cond (decide ((wrap .i64 (x.2-(0:Int))) > (0:Int))) (cond (decide (0≤wrap .i64 (x.2-(0:Int)))&&lim (a00 (wrap .i64 (x.2-(0:Int))))) (cond (lim (a02 (a01 (a00 (wrap .i64 (x.2-(0:Int)))) ((0:Int),(0:Int),((0:Int),(0:Int),(0:Int),()),([]:Z16),([]:a9D),())))) (cond (decide ((0:Int)≤((a02 (a01 (a00 (wrap .i64 (x.2-(0:Int)))) ((0:Int),(0:Int),((0:Int),(0:Int),(0:Int),()),([]:Z16),([]:a9D),())):Nat):Int))) (some ([]:a2U)) none) none) none) (some ([]:a2U)))
def a8i:FSem:=⟨[.v (.nl Q60),.v QI],[.o Q60],a1x⟩
def a1k(s:(b4o×Int×b4o×Int×Int×Unit)):Option ((b4o×Int×b4o×Int×Int×Unit) ⊕ (b4o×Int×Unit)):=(fun(a:Int)(b:b4o)(c d:Int)=>cond (decide (d<c)) ((m0k b d).bind fun x1=>cond (decide ((wrap .i64 (a+(x1.length:Int)))<0)) none (some (.inl (s.1,wrap .i64 (a+(x1.length:Int)),b,c,wrap .i64 (d+1),())))) (some (.inr (s.1,a,())))) s.2.1 s.2.2.1 s.2.2.2.1 s.2.2.2.2.1
def a1l(s:(b4o×Int×Int×c6w)):Option ((b4o×Int×Int×c6w) ⊕ c6w):=(fun(a:Int)(b:a2U)=>cond (decide (a<s.2.1)) ((m0k s.1 a).bind fun x4=>cond (lim ((a02 b)+(a02 x4))) (some (.inl (s.1,s.2.1,wrap .i64 (a+1),a03 b x4,()))) none) (some (.inr (b,())))) s.2.2.1 s.2.2.2.1
def a1p(x:b4o):Option a2U:=(y0s a1k (x,0,x,(x.length:Int),0,())).bind fun w2=>(a1x ([],w2.2.1)).bind fun y3=>(y0s a1l (w2.1,(w2.1.length:Int),0,y3,())).bind fun w5=>some w5.1
def a7M:FSem:=⟨[.v (.list false (.list false Q60))],[.o Q60],a1p⟩
def H67:Hints:=⟨[(58,[.sv 0 (.list false (.list false Q60)),3,.sv 9 (.list false (.list false Q60)),10,11],[Qe 0 [.sv 0 (.list false (.list false Q60)),3]]),(250,[.sv 25 (.list false (.list false Q60)),26,27,.own 6 6 Q60],[Qe 2 [.own 6 6 Q60]])],[],[]⟩
def a7v(x:Z1):Option (LI×Int):=(a1E x.1).bind fun y1=>cond (y1.2 != 0) (some ([],y1.2)) ((a1E x.2).bind fun y2=>cond (y2.2 != 0) (some ([],y2.2)) (cond (!(eqT Q12 y1.1.1 y2.1.1)) (some ([],2)) ((show Option (Bool×a3X×b0W)from cond (decide ((wrap .i64 (y1.1.2.1+y2.1.2.1)) > 4194304)) (some (true,y1.1,y2.1,())) (some (decide ((wrap .i64 ((y1.1.2.2.2.2.1.length:Int)+(y2.1.2.2.2.2.1.length:Int))) > 4096),y1.1,y2.1,()))).bind fun z3=>cond z3.1 (some ([],4)) ((a1p ([z3.2.1.2.2.2.2.1,z3.2.2.1.2.2.2.2.1]:List a2U)).bind fun y4=>(a4i (z3.2.1.1,y4)).bind fun y5=>some (y5.1,y5.2)))))
def c2a:FSem:=⟨[.v QB,.v QB],[.o QV,.v QI],a7v⟩
def H28:Hints:=⟨[],[(254,[Qn [.sv 45 .bool,.box 6 Q74,.box 8 Q74,Qp 6 6,Qp 8 8]])],[(11,[.q,.q,.q,.q,.q,.q,.v,.q,.x,.q,.q,.x,.x])]⟩
def a2D(s:(LI×(LI×(LI×(LI×c2A))))):Option ((LI×(LI×(LI×(LI×c2A)))) ⊕ ((LI×(LI×(LI×c2z))) ⊕ (Bool×Unit))):=(fun(a b c:LI)(d e:Int)(f:a3X)=>cond (decide (e≤(a.length:Int))) ((show Option (LI×(LI×(LI×(LI×(Int×c2A)))))from cond (decide (e<(a.length:Int))) ((m0k a e).bind fun x6=>some (s.1,a,b,c,d,e,v0s (wrap .i64 (d+(a06 (wrap .i64 x6) 20))) f.2.1,f,())) (some (s.1,a,b,c,d,e,f.2.1,f,()))).bind fun z7=>(a4S (z7.2.2.1,(z7.2.2.2.2.1,z7.2.2.2.2.2.2.1,()),1)).bind fun y8=>(a7v (z7.2.2.2.1,y8.1)).bind fun y9=>(show Option (LI×(LI×(LI×(Int×Int×Bool×c2z))))from cond (y8.2 != 0) (some (z7.1,z7.2.1,z7.2.2.1,z7.2.2.2.2.2.1,z7.2.2.2.2.2.2.1,true,y9.1,z7.2.2.2.2.2.2.2.1,())) (some (z7.1,z7.2.1,z7.2.2.1,z7.2.2.2.2.2.1,z7.2.2.2.2.2.2.1,y9.2 != 0,y9.1,z7.2.2.2.2.2.2.2.1,()))).bind fun z10=>cond z10.2.2.2.2.2.1 (some (.inr (Sum.inr ((false,()))))) (some (.inl (z10.1,z10.2.1,z10.2.2.1,z10.2.2.2.2.2.2.1,z10.2.2.2.2.1,wrap .i64 (z10.2.2.2.1+1),z10.2.2.2.2.2.2.2.1,())))) (some (.inr (Sum.inl (s.1,a,b,c,f,()))))) s.2.1 s.2.2.1 s.2.2.2.1 s.2.2.2.2.1 s.2.2.2.2.2.1 s.2.2.2.2.2.2.1
def a9E(x:(Z8×(LI×Z3))):Option Bool:=(b3C ()).bind fun y1=>cond (!y1) (some false) ((show Option (LI×(Int×(Int×(LI×Z41))))from(b2j (x.1,x.2.1,60)).bind fun y2=>cond (!y2) (some (x.2.1,x.2.2.1,x.2.2.2.1,x.2.2.2.2,true,x.1,())) (some (x.2.1,x.2.2.1,x.2.2.2.1,x.2.2.2.2,decide ((x.2.2.2.2.length:Int) > 8),x.1,()))).bind fun z3=>cond z3.2.2.2.2.1 (some true) ((b0J (z3.2.2.2.2.2.1,z3.1,z3.2.1,z3.2.2.1)).bind fun y4=>cond (!y4.2.2) (some false) ((a4S (y4.1,(0,0,()),0)).bind fun y5=>cond (y5.2 != 0) (some false) ((y0s a2D (z3.1,z3.2.2.2.1,y4.1,y5.1,0,0,y4.2.1,())).bind fun w11=>match w11 with |.inl a12=>((a1E a12.2.2.2.1).bind fun y14=>(a2w y14.1).bind fun y15=>cond (y14.2==0) (cond (y15.2==0) ((a7r (y15.1,a12.1)).bind fun y16=>cond y16 ((a7t (a12.2.2.2.1,a12.2.2.1)).bind fun y17=>cond y17 ((a7s (a12.2.2.1,a12.2.2.2.1)).bind fun y18=>cond (decide (y18≥(wrap .i64 ((a12.2.2.2.2.1.2.2.2.2.1.length:Int)-(a12.2.1.length:Int))))) (some (y14.1.2.2.1==a12.2.2.2.2.1.2.2.1)) (some false)) (some false)) (some false)) (some false)) (some false)) |.inr b13=>some b13.1))))
def a9F:FSem:=⟨[.v Q12,.v QL,.v QI,.v QI,.v QB],[.v .bool],a9E⟩
def H8:Hints:=⟨[(4090,[.sv 1 QL,.sv 4 QB,.sv 11 QB,.sv 14 QB,16,17,.box 12 Q74,Qp 12 12],[Qe 0 [.sv 1 QL,.sv 4 QB,.sv 11 QB,.sv 14 QB,.box 12 Q74,Qp 12 12],Qr [.sv 10 .bool]])],[(14,[Qn [.sv 1 QL,2,3,.sv 4 QB,.sv 37 .bool,.vp 5 Q12]]),(130889,[Qn [.sv 1 QL,.sv 4 QB,.sv 11 QB,.sv 14 QB,16,17,18,.box 12 Q74,Qp 12 12]]),(2094238,[Qn [.sv 1 QL,.sv 4 QB,.sv 11 QB,17,18,.sv 99 .bool,.own 21 21 QV,.box 12 Q74,Qp 12 12]])],[(17,[.v,.v,.v,.v,.v,.v,.v,.v,.q,.q,.x,.x]),(25,[.x,.x,.x,.x,.x,.x,.x,.q,.v,.x,.x,.x,.v,.v,.x,.x,.x,.v,.v,.v,.q,.q,.v,.v,.v,.v,.x,.x,.x,.q,.q,.q,.q,.x,.x,.x])]⟩
end Go.Ab
namespace Go.Ab
open Go.Proofs
def toB(x:List Int):ByteArray:=⟨(x.map fun n=>UInt8.ofNat n.toNat).toArray⟩
theorem b8h(s:ByteArray):toB (a7a s)=s:=by
 obtain⟨⟨l⟩⟩:=s;simp only[toB,a7a,List.map_map];congr 1;rw[show(fun n:Int=>UInt8.ofNat n.toNat)∘(fun b:UInt8=>(b.toNat:Int))=id from funext fun b=>by simp]
 simp
theorem d3k{w:World}{v:Value}{la:List (List Int)}{O R}(q:dec (cells w) (.list true .str) ((Src.one v).rd (cells w))=some (la,O,R)):b7V w v (la.map toB)∧(la.map toB).map a7a=la:=by
 rcases z0q (e:=.str) rfl q with⟨rfl,g,-,-⟩|⟨b,n,c,cs,rfl,hb,u,d,-,p,f,-,a⟩;have g:la=[]:=g;subst g;exact⟨⟨none,0,rfl,fun j h=>by grind⟩,rfl⟩;replace d:n=la.length:=d;have key:∀j (h:j<la.length),∃s,cs[j]?=some (.string s)∧la[j]=a7a s:=fun j h=>by
  obtain⟨x,o,r,A,B',z,B,g,k,-,-⟩:=a0u n 0 j a (by omega);have k:la[j]?=some x:=k;rw[lG h]at k;obtain rfl:la[j]=x:=Option.some.inj k;rw[Nat.zero_add]at g;simp[dec,Ty.cells]at g
  split at g
  rename_i s l;exact⟨s,l,(congrArg (·.1) (Option.some.inj g)).symm⟩;simp_all
 refine⟨⟨some b,c,by simp_all,fun j h=>?_⟩,?_⟩;have t:j<la.length:=by simp_all
 obtain⟨s,l,m⟩:=key j t;have i:c≠0:=by omega
 have y:=hb.resolve_left i;refine⟨b.block,b.off,by cases b;simp_all,?_⟩;rw[List.getElem_map,m,b8h];exact f j _ l;rw[List.map_map];refine List.ext_getElem (by simp) fun j g k=>?_
 obtain⟨s,-,m⟩:=key j k;simp_all[b8h]
theorem b5i(fs:i0y Tryz.prog G0 42 a3e){w:World}{z:List Int}{la:List (List Int)}(Y:a2t z=some la){Sh:Nat→Prop}{v:Value}(hv:VOk (cells w) Sh (.list false (.int .u8)) z v)(K:∀c,Sh c→c<w.heap.size)
  {B:Base}(X:GOk G0 B)(V:B.size=w.heap.size)(E:∀b,B.hp b=w.heap[b]?)(W:World)(s:a5Y w W):
  Calls Tryz.prog 42 #[v] W fun e A=>(∃v,e=.returned v∧b7V A v (la.map toB)∧(la.map toB).map a7a=la∧a5Y W A):=by
 let q:Base:={ size:=W.heap.size,hp:=fun b=>W.heap[b]?,F:=fun _=>False,S:=fun _=>True,io:=b0x W }
 let σ1:Gh:=⟨fun _=>.one undef,fun _=>[],none⟩
 have O:∀n,(ini a3e.ps z).rt n=none:=fun n=>by
  cases N:(ini a3e.ps z).rt n with
  |none=>rfl
  |some r=>
   obtain⟨i,c,a,y,-,hi,-⟩:=x0k N
   match i,hi with
   |0,hi=>cases hi
   |i+1,hi=>cases hi
 have m:Rel q (ini a3e.ps z) 1 (fun i=>(#[v]:Array Value).getD i undef) W σ1:=by
  refine⟨fun n r N=>?_,fun n _=>rfl,fun n=>by simp[σ1],fun n n' _ c f=>by simp[σ1]at f,fun n p hp=>by simp[σ1]at hp,fun i hi=>?_,trivial,a27 _,fun b _ _=>rfl,fun c f=>?_,fun i b hb=>(by cases hb),rfl⟩;simp_all
  have:i=0:=by omega
  subst this;show VOk (a0a W σ1.ov) (Shr q W σ1) (.list false (.int .u8)) z v;exact VOk.frame hv (fun c j f=>by show W.cell? _=w.cell? _;simp only[World.cell?,s.2.1 c (K c f)]) (fun c f=>⟨a28 (K c f) s.1,.inl trivial,fun⟨n,G⟩=>by simp[σ1]at G⟩);obtain⟨n,G⟩:=f;simp[σ1]at G
 have D:GOk G0 q:=fun g t x h=>by
  obtain⟨C,-,-,w0,T,U⟩:=X g t x h;have d:g<w.heap.size:=V▸C;exact⟨a28 d s.1,trivial,fun h=>h,w0,by rw[T,E];exact(s.2.1 g d).symm,U⟩
 refine(fs W q σ1 #[v] z la D Y rfl (fun _=>rfl) rfl rfl m (fun i hi=>(by cases hi))).mono ?_
 rintro e A ⟨P,I,rfl,H,k⟩
 obtain⟨u,rfl⟩:∃u,P=[u]:=by
  match P,H with
  | [u],_=>simp
 have l:=k.ll;rw[←k.lv]at l;obtain⟨L,rfl⟩:∃L,I=[L]:=by
  match I,l with
  | [L],_=>simp
 obtain⟨C,Q⟩:=k.ok 0 ⟨.o .str,la⟩ u L rfl rfl rfl;obtain⟨O',R,M,-,-⟩:=Q.rd;rw[C]at M;obtain⟨Z,k2⟩:=d3k M;exact⟨u,rfl,Z,k2,k.size,fun c f=>k.frame c f (fun h=>h),k.still⟩
theorem c9J(fs:i0y Tryz.prog G0 42 a3e):i0y Tryz.prog G0 17 b5h:=by
 intro w B σ args (x:List Int×List Int) (y:Int) hG f hB hhp hov hargs hrel hpins;obtain⟨d,u,f⟩:=a31.1 (show(a2t x.1).bind _=some y from f);obtain⟨j,hb,f⟩:=a31.1 f;obtain⟨A,f⟩:=(a0b f).elim id fun h=>by grind
 simp[lim]at A;cases f;have E:args.size=2:=hargs;have C:a0a w σ.ov=cells w:=by rw[hov];rfl
 have l:=hrel.slots 0 (by decide);have a:=hrel.slots 1 (by decide);rw[C]at l a;generalize hv1:args.getD 0 undef=v1 at l;generalize hv2:args.getD 1 undef=v2 at a;have n:args=#[v1,v2]:=by
  rw[←hv1,←hv2];apply Array.ext;omega;intro i m H
  have:i=0∨i=1:=by omega
  rcases this with rfl|rfl<;>simp[Array.getD,E]
 subst n;have r:=b5i fs u (v:=v1) l (fun c h=>h.1) hG hB hhp;have t:=b5i fs hb (v:=v2) a (fun c h=>h.1) hG hB hhp;refine(c8h (pA:=(d.map toB).map a7a=d) (pB:=(j.map toB).map a7a=j) w (by simp_all) (by simp_all) r t).mono ?_
 rintro e G ⟨rfl,o,D,p⟩
 have g:(((j.map toB).filter (inB (d.map toB))).length:Nat)=(j.filter fun s=>d.contains s).length:=by
  conv=>rhs;rw[←p,List.filter_map,List.length_map]
  congr 2;funext s;simp_all[inB]
 rw[g];refine⟨[.int .i64 _],[(.one undef,[])],rfl,rfl,rfl,rfl,fun k it v L a q m=>?_,by simp,fun k k' L F a q m c z=>?_,by simp,by simp,by rw[hB];exact o.1,fun b hb _=>(o.2.1 b (by omega)).trans (hhp b).symm,o.2.2.trans hrel.still⟩
 ·match k with
  |0=>cases a;cases q;cases m;exact⟨⟨fun h=>(by cases h),fun _=>rfl,[],rfl,by simp⟩,rfl⟩
  |k+1=>grind
 grind
end Go.Ab
