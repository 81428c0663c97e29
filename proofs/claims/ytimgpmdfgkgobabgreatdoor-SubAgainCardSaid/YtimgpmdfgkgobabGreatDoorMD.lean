/- Part of the proof: F, It, PA, QA, QB, QC, QD, QE, QF, S. Conditions: as each statement tells. -/
import Derived.RangeFuncBound
import Derived.RangeFuncCalls
import Derived.RangeFuncBox
import Derived.WalkKit
import Derived.OwnWalkIn
import Derived.TacticsInMore
import Derived.LoopNIn
import Derived.LoopIn
import Derived.Test.YtimgpmdfgkgobabGreatDoorProg
import Derived.KernelRfl
import Derived.Test.YtimgpmdfgkgobabGreatDoorMC
noncomputable section
set_option linter.unusedSimpArgs false
set_option linter.unusedVariables false
open Array renaming replicate_succ→a29,replicate_zero→a30
open Bool renaming and_self→a08,true_and→a16,and_eq_false_iff→a20,false_and→a34
open Int renaming toNat→a01,tdiv→a23,add_bmod_bmod→a25,tmod→a26,sub_bmod_bmod→a38,bmod_sub_bmod→a39,bmod_add_bmod→a40,one_mul→a49
open List renaming replicate→a00,getD→a02,length→a03,append→a04,set→a05,drop_eq_getElem_cons→a06,take→a07,nil_append→a09,drop_zero→a17,zipWith→a18,drop_length→a19,drop→a22,append_eq→a24,cons_append→a27,length_take→a28,getElem_zipWith→a31,length_nil→a32,append_toArray→a33,size_toArray→a35,push_toArray→a37,getElem_mem→a41,take_of_length_le→a42,drop_eq_nil_of_le→a43,take_add_one→a46,take_zero→a50
open Nat renaming lt_trans→a21,reduceAdd→a36,reduceSub→a44,sub_self→a45,le_refl→a47
open Option renaming getD_some→a48
namespace Go.Ab
open Go.Proofs Go.RowKit
attribute [local go_sem] Oper.semAt_some
set_option maxHeartbeats 1000000 in
theorem d6S:d3Y Tryz.prog 114 149:=by
 refine⟨⟨_,_,Tryz.func114,rfl,by kernel_rfl⟩,fun A len cap w=>(callsIn_wide (n:=3)).1 ?_⟩
 refine callsIn_of_wp Tryz.func114 rfl trivial ?_
 simp only[Tryz.ntmps114,a35,lC,a32,a36,a44,a29,a30,a37,a33,a09,a27]
 gi_wp2
 go_ret
 exact⟨rfl,_,rfl⟩
@[reducible] def b6v:Ty:=.pair (.int .i64) (.pair (.int .i64) .unit)
set_option maxRecDepth 100000 in
set_option maxHeartbeats 2000000 in
theorem d5c (l Bs b off len cap:Nat) (p q:Nat→Int) (J:Nat→World→Prop) (Jx:World→Prop) (W:World)
  (hJ:∀k W',J k W'→W'.cell? ⟨Bs,0,none⟩=some (.slice (some ⟨b,off,none⟩) len cap))
  (hlen:len<2147483648)
  (hcs:∀k W',k<len→J (k+1) W'→W'.cell? ⟨b,off+k*2,none⟩=some (.int .i64 (p k))∧W'.cell? ⟨b,off+k*2+1,none⟩=some (.int .i64 (q k)))
  (hY:∀n W',n<len→J (n+1) W'→YieldAt (Fr none) 0 Tryz.prog l #[.int .i64 (n:Int),.agg #[.int .i64 (p n),.int .i64 (q n)]] W' fun en W''=>(en=.returned (.bool true)∧J n W'')∨(en=.returned (.bool false)∧Jx W''))
  (h0:J len W):
  CallsIn (Fr none) 0 Tryz.prog 149 #[.func (.yield l) #[] #[],.pointer (some ⟨Bs,0,none⟩)] W fun en W'=>(∃v,en=.returned v)∧(J 0 W'∨Jx W'):=by
 refine callsIn_of_wp Tryz.func149 rfl trivial ?_
 simp only[Tryz.ntmps149,a35,lC,a32,a36,a44,a29,a30,a37,a33,a09,a27]
 have hBs:=hJ _ _ h0
 gi_wp2
 gi_loopw [3] (fun i wr=>∃k:Nat,k≤len∧i=.int .i64 ((k:Int)-1)∧J k wr) (fun i _=>(intOf i+1).toNat)
 case atStart=>exact⟨len,a47 _,rfl,h0⟩
 case round=>
  obtain⟨k,hk,rfl,hJs⟩:=hrel
  cases k with
  |succ n=>
   obtain⟨fn,tmps,assign,body,hy,hR⟩:=hY n wr (by omega) hJs
   have hcx:=hJ _ _ hJs
   obtain⟨hc0,hc1⟩:=hcs n wr (by omega) hJs
   gi_wp2
   refine hR.mono ?_
   rintro e W3 (⟨rfl,hJ3⟩|⟨rfl,hJx3⟩)
   ·gi_wp2
    go_roundw
    case rel=>exact⟨n,by omega,by simp,hJ3⟩
    case measure=>simp[intOf]
   ·gi_wp2
    refine bodyPost_ret (results_none rfl _ _ _) rfl ?_
    exact⟨⟨_,rfl⟩,.inr hJx3⟩
  |zero=>
   gi_wp2
   go_end0
   exact⟨⟨_,rfl⟩,.inl hJs⟩
set_option maxRecDepth 100000 in
set_option maxHeartbeats 2000000 in
theorem d3Z (l Bs:Nat) (A:Option Addr) (c:Nat) (J:Nat→World→Prop) (W:World) (hBs:W.cell? ⟨Bs,0,none⟩=some (.slice A 0 c)) (h0:J 0 W):
  CallsIn (Fr none) 0 Tryz.prog 149 #[.func (.yield l) #[] #[],.pointer (some ⟨Bs,0,none⟩)] W fun en W'=>(∃v,en=.returned v)∧J 0 W':=by
 refine callsIn_of_wp Tryz.func149 rfl trivial ?_
 simp only[Tryz.ntmps149,a35,lC,a32,a36,a44,a29,a30,a37,a33,a09,a27]
 gi_wp2
 gi_loopw [3] (fun i wr=>i=.int .i64 (-1)∧J 0 wr) (fun _ _=>0)
 case atStart=>exact⟨rfl,h0⟩
 case round=>
  obtain⟨rfl,hJs⟩:=hrel
  gi_wp2
  go_end0
  exact⟨⟨_,rfl⟩,hJs⟩
theorem c7j{m:Mem}{Sh:Nat→Prop}{b o:Nat}{x:b6v.den}{R}(h:dec m b6v ((Src.at b o).rd m)=some (x,[],R)):
  m b o=some (.int .i64 x.1)∧m b (o+1)=some (.int .i64 x.2.1)∧VOk m Sh b6v x (.agg #[.int .i64 x.1,.int .i64 x.2.1]):=by
 obtain⟨p,q,u⟩:=x;simp only[b6v,dec,Src.rd,Ty.cells,Nat.add_zero]at h
 split at h
 cases h;rename_i x1 o1 r1 h1
 split at h1
 rename_i n hn
 split at h1
 rename_i e;subst e;simp only[sj]at h1;obtain⟨rfl,rfl,rfl⟩:=h1
 split at h
 cases h;rename_i x2 o2 r2 h2
 split at h2
 cases h2;rename_i x3 o3 r3 h3
 split at h3
 rename_i n' hn'
 split at h3
 rename_i e;subst e;simp only[sj]at h3 h2 h;obtain⟨rfl,rfl,rfl⟩:=h3;obtain⟨rfl,rfl,rfl⟩:=h2;obtain⟨⟨rfl,rfl,rfl⟩,-,-⟩:=h;exact⟨hn,hn',fun _=>⟨_,rfl,rfl⟩,fun h=>(by cases h),[],rfl,by simp⟩;cases h3;cases h3;cases h1;cases h1
theorem c7O {P:Program} {f:FuncId} (hb:b2B P f) (args:Array Value) (w:World):(callFunc f args).run P w=.ok (.enter f args) w:=by
 obtain ⟨fn,c',h1,h2,h3⟩:=hb;have h4 : ¬ fn.name = "runtime.NumGoroutine" := by simpa using h3
 simp [callFunc,program,Sem.run,h1,h2,h4,Result.andThen]
theorem d6T:c9e Tryz.prog 149 b6v:=by
 refine⟨fun args w=>c7O ⟨_,_,Tryz.func149,rfl,by kernel_rfl⟩ args w,fun l Bs sv xs J Jx W hlen hJ hY h0=>?_⟩;obtain⟨hc,Sh,hsv⟩:=hJ _ _ h0;obtain⟨A,n,c,rfl,rfl,hnc,hsp,hnil⟩:=hsv.header
 by_cases hx0:xs.length=0
 rw[hx0]at h0 hc;exact(d3Z l Bs A c J W hc h0).mono fun e W' h=>⟨h.1,.inl h.2⟩;cases A with
 |none=>have:=hnil rfl;omega
 |some A=>
  obtain⟨b,off,spot⟩:=A
  have:=(hsp _ rfl).resolve_left (by omega)
  simp only at this;subst this;have hel:∀k W',k<xs.length→J (k+1) W'→∃x,xs[k]?=some x∧W'.cell? ⟨b,off+k*2,none⟩=some (.int .i64 x.1)∧W'.cell? ⟨b,off+k*2+1,none⟩=some (.int .i64 x.2.1):=by
   intro k W' hk hj;obtain⟨-,Sh',hv⟩:=hJ _ _ hj;obtain⟨A',n',c',R,e,h1,h2,h3,h4,h5,h6⟩:=hv.elem rfl (lG hk);simp only[Value.slice.injEq,sj]at e;obtain⟨rfl,rfl,rfl⟩:=e;obtain⟨g1,g2,-⟩:=c7j (Sh:=Sh') h4;exact⟨_,lG hk,g1,g2⟩
  refine d5c l Bs b off xs.length c (fun k=>((xs[k]?).getD b6v.dflt).1) (fun k=>((xs[k]?).getD b6v.dflt).2.1) J Jx W (fun k W' hj=>(hJ k W' hj).1) hlen (fun k W' hk hj=>?_) (fun n W' hn hj=>?_) h0;obtain⟨x,hx,g1,g2⟩:=hel k W' hk hj;simp only[hx,a48];exact⟨g1,g2⟩;have hx:xs[n]?=some xs[n]:=lG hn;simp only[hx,a48];refine hY n _ _ W' hx hj fun Sh' hv=>?_
  obtain⟨A',n',c',R,e,h1,h2,h3,h4,h5,h6⟩:=hv.elem rfl hx;exact(c7j (Sh:=Sh') h4).2.2
end Go.Ab
namespace Go.Ab
open IntKind(wrap)
open Go.Proofs
set_option maxRecDepth 100000
set_option linter.unusedVariables false
@[reducible] def QI:Ty:=.int .i64
@[reducible] def QL:Ty:=.list false QI
@[reducible] def Z0:Type:=(Unit ⊕ (Bool×Unit))
@[reducible] def Z1:Type:=(Int×(Int×(List Int)))
@[reducible] def Z2:Type:=((List Int)×(Int×Int))
@[reducible] def Z3:Type:=(Int×((List Int)×Unit))
@[reducible] def Z4:Type:=((List Int)×(Int×Unit))
@[reducible] def Z5:Type:=(List (Int×(Int×Unit)))
@[reducible] def Z6:Type:=(Bool×((List Int)×Unit))
@[reducible] def Z7:Type:=((List Int)×(Bool×Unit))
@[reducible] def Z8:Type:=(Int×(Int×(Int×Unit)))
@[reducible] def Z9:Type:=(((List Int)×Unit)×Unit)
@[reducible] def Z10:Type:=(Int×(Int×(Bool×Unit)))
@[reducible] def Z11:Type:=((List Int)×((List Int)×Int))
@[reducible] def Z12:Type:=((List Int)×(Int×(List Int)))
@[reducible] def Z13:Type:=((List Int)×((List Int)×Unit))
@[reducible] def Z14:Type:=((List Int)×(Int×(Int×Unit)))
@[reducible] def Z15:Type:=(Int×Z3)
@[reducible] def Z16:Type:=(Int×Z4)
@[reducible] def Z17:Type:=(Int×Z6)
@[reducible] def Z18:Type:=((List Int)×(Int×(Bool×Unit)))
@[reducible] def Z19:Type:=(Z3×Unit)
@[reducible] def Z20:Type:=(Z4×Unit)
@[reducible] def Z21:Type:=(Int×Z8)
@[reducible] def Z22:Type:=(Bool×Z3)
@[reducible] def Z23:Type:=(Int×Z9)
@[reducible] def Z24:Type:=(Int×Z10)
@[reducible] def Z25:Type:=((List (List Int))×((List Int)×Unit))
@[reducible] def Z26:Type:=(Int×Z13)
@[reducible] def Z27:Type:=((List Int)×Z5)
@[reducible] def Z28:Type:=((List Int)×Z3)
@[reducible] def Z29:Type:=(Int×Z14)
@[reducible] def Z30:Type:=(Int×Z15)
@[reducible] def Z31:Type:=((List Int)×Z8)
@[reducible] def Z32:Type:=((List Int)×Z10)
@[reducible] def Z33:Type:=(Int×Z17)
@[reducible] def Z34:Type:=(Int×Z20)
@[reducible] def Z35:Type:=(Int×Z21)
@[reducible] def Z36:Type:=(Z5×(Int×Unit))
@[reducible] def Z37:Type:=(Int×Z23)
@[reducible] def Z38:Type:=(Bool×Z19)
@[reducible] def Z39:Type:=(Int×Z24)
@[reducible] def Z40:Type:=((List Int)×Z13)
@[reducible] def Z41:Type:=((List Int)×Z15)
@[reducible] def Z42:Type:=(Int×Z26)
@[reducible] def Z43:Type:=(Z26×Int)
@[reducible] def Z44:Type:=((List Int)×Z14)
@[reducible] def Z45:Type:=(((List Int)×Unit) ⊕ Z3)
@[reducible] def Z46:Type:=(Z3×((List Int)×Unit))
@[reducible] def Z47:Type:=(Int×Z29)
@[reducible] def Z48:Type:=((List Int)×Z18)
@[reducible] def Z49:Type:=(Z26×Unit)
@[reducible] def Z50:Type:=((List Int)×Z19)
@[reducible] def Z51:Type:=(Int×Z30)
@[reducible] def Z52:Type:=(Int×Z34)
@[reducible] def Z53:Type:=(Int×Z35)
@[reducible] def Z54:Type:=(Z14 ⊕ (Int×Unit))
@[reducible] def Z55:Type:=(Z4 ⊕ Z0)
@[reducible] def Z56:Type:=(Int×Z40)
@[reducible] def Z57:Type:=(Int×Z41)
@[reducible] def Z58:Type:=(Z3×Z1)
@[reducible] def Z59:Type:=((List Int)×Z29)
@[reducible] def Z60:Type:=((List Int)×Z31)
@[reducible] def Z61:Type:=((List Int)×Z30)
@[reducible] def Z62:Type:=((List Int)×Z33)
@[reducible] def Z63:Type:=(Int×Z49)
@[reducible] def Z64:Type:=(Int×Z50)
@[reducible] def Z65:Type:=(Z5×Z3)
@[reducible] def Z66:Type:=(Z14 ⊕ Z0)
@[reducible] def Z67:Type:=((List Int)×Z41)
@[reducible] def Z68:Type:=((List Int)×Z42)
@[reducible] def Z69:Type:=(Int×Z56)
@[reducible] def Z70:Type:=((List Int)×Z46)
@[reducible] def Z71:Type:=((List Int)×Z47)
@[reducible] def Z72:Type:=((List Int)×Z49)
@[reducible] def Z73:Type:=((List Int)×Z48)
@[reducible] def Z74:Type:=(Int×Z57)
@[reducible] def Z75:Type:=(Int×Z63)
@[reducible] def Z76:Type:=(Int×Z64)
@[reducible] def Z77:Type:=((List Int)×Z52)
@[reducible] def Z78:Type:=(Z3×Z19)
@[reducible] def Z79:Type:=(Z4×Z19)
@[reducible] def Z80:Type:=(Int×Z68)
@[reducible] def Z81:Type:=((List Int)×Z57)
@[reducible] def Z82:Type:=(Int×Z69)
@[reducible] def Z83:Type:=(Int×Z72)
@[reducible] def Z84:Type:=(Int×Z75)
@[reducible] def Z85:Type:=(Int×Z76)
@[reducible] def Z86:Type:=(Int×Z77)
@[reducible] def Z87:Type:=(Int×Z78)
@[reducible] def Z88:Type:=(Int×Z83)
@[reducible] def Z89:Type:=((List Int)×Z79)
@[reducible] def Z90:Type:=(Int×Z87)
@[reducible] def Z91:Type:=((List Int)×Z85)
@[reducible] def Z92:Type:=(Int×Z89)
@[reducible] def Z93:Type:=(Z5×Z70)
@[reducible] def Z94:Type:=((List Int)×Z90)
@[reducible] def Z95:Type:=(Int×Z92)
@[reducible] def Z96:Type:=(Z3×Z78)
@[reducible] def Z97:Type:=(Int×Z94)
@[reducible] def Z98:Type:=((List Int)×Z93)
@[reducible] def Z99:Type:=((List Int)×Z95)
@[reducible] def d2g:Type:=(Z5×Z88)
@[reducible] def d9h:Type:=((List Int)×Z96)
@[reducible] def d9i:Type:=(Int×Z97)
@[reducible] def d9j:Type:=(Int×d9h)
@[reducible] def d2h:Type:=(Int×d9i)
@[reducible] def d9k:Type:=((List Int)×Z98)
@[reducible] def d2i:Type:=(Int×d9j)
@[reducible] def d9l:Type:=(Int×d9k)
@[reducible] def d9m:Type:=(Int×d9l)
@[reducible] def d9n:Type:=(Int×d9m)
@[reducible] def d9o:Type:=(Int×d9n)
@[reducible] def a2c:Type:=(Int×d9o)
@[reducible] def b2b:Type:=(List a2c)
@[reducible] def a9T:Type:=(a2c×Int)
@[reducible] def c1C:Type:=(a2c×Unit)
@[reducible] def c9i:Type:=(b2b×Unit)
@[reducible] def d2j:Type:=(Bool×c1C)
@[reducible] def d7s:Type:=((List Int)×c1C)
@[reducible] def d9p:Type:=(Int×c9i)
@[reducible] def c1D:Type:=(Int×d2j)
@[reducible] def d2k:Type:=(b2b×((List Int)×Unit))
@[reducible] def d9q:Type:=(Int×d7s)
@[reducible] def d9r:Type:=(((List Int)×Unit)×c1C)
@[reducible] def d2l:Type:=(Int×c1D)
@[reducible] def d2m:Type:=((List Int)×d9p)
@[reducible] def d2n:Type:=(Int×d9q)
@[reducible] def d9s:Type:=(Z4×c1C)
@[reducible] def d9t:Type:=(Int×d9r)
@[reducible] def d2o:Type:=(Int×d9s)
@[reducible] def d2p:Type:=(Int×d9t)
@[reducible] def b8p:Type:=(Int×d2o)
@[reducible] def b3Q:Type:=(a2c×c1C)
@[reducible] def d7t:Type:=(Int×b3Q)
@[reducible] def d2q:Type:=(Int×d7t)
@[reducible] def d2r:Type:=(a2c×b3Q)
@[reducible] def Q0:Ty:=(.pair QI .unit)
@[reducible] def Q1:Ty:=(.pair (.list true (.int .u8)) .unit)
@[reducible] def Q2:Ty:=(.pair (.list true QI) .unit)
@[reducible] def Q3:Ty:=(.pair QL .unit)
@[reducible] def Q4:Ty:=(.pair QI Q0)
@[reducible] def Q5:Ty:=(.pair (.list true (.int .u8)) Q0)
@[reducible] def Q6:Ty:=(.pair QI Q2)
@[reducible] def Q7:Ty:=(.pair QI Q3)
@[reducible] def Q8:Ty:=(.pair (.list true QI) Q2)
@[reducible] def Q9:Ty:=(.pair QI Q8)
@[reducible] def Q10:Ty:=(.pair Q7 Q3)
@[reducible] def Q11:Ty:=(.pair QL Q10)
@[reducible] def Q12:Ty:=(.pair (.list false Q4) Q11)
@[reducible] def Q13:Ty:=(.pair (.arr 3 QI) Q12)
@[reducible] def Q14:Ty:=(.pair QL Q13)
@[reducible] def Q15:Ty:=(.pair QI Q14)
@[reducible] def Q16:Ty:=(.pair QI Q15)
@[reducible] def Q17:Ty:=(.pair QI Q16)
@[reducible] def Q18:Ty:=(.pair QI Q17)
@[reducible] def Q19:Ty:=(.pair QI Q18)
def c8r:List (Nat×Ty):=[(2,.int .i64),(3,.int .i64),(5,.int .u8),(22,.list false (.int .i16)),(24,.list false QI),(25,.int .i16),(26,.arr 3 QI),(27,.list false Q4),(29,.pair QI Q3),(31,.pair QI Q18),(32,.int .i64),(45,.list false Q19),(56,.list false (.int .u8)),(58,.pair (.list false (.int .u8)) Q0),(64,.int .u64),(69,.pair QI Q0),(72,.int .u64),(78,.pair (.list false (.int .u8)) .unit),(98,.arr 64 (.int .u8)),(126,.list false (.arr 3 QI)),(137,.pair QI (.pair QL Q3)),(142,.pair QI (.pair QL Q3)),(147,.list false QL)]
def T0:Nat→Option Ty:=fun t=>find c8r t
def d2s:List Nat:=[26,69]
def d9u:Nat→Bool:=fun t=>d2s.contains t
def c9j:List Nat:=[]
def d9v:Nat→Bool:=fun t=>c9j.contains t
def b4k:(List Int):=[0,1,56,2,57,49,28,3,61,58,42,50,38,29,17,4,62,47,59,36,45,43,51,22,53,39,33,30,24,18,12,5,63,55,48,27,60,41,37,16,46,35,44,21,52,32,23,11,54,26,40,15,34,20,31,10,25,14,19,9,13,8,7,6]
def G0:Nat→Option ((t:Ty)×t.den):=fun g=>find ([(0,⟨.arr 64 (.int .u8),b4k⟩)]:List (Nat×((t:Ty)×t.den))) g
@[reducible] def c4b(a:List (Nat×FSem))(b:List (Nat×Ty))(c d:List Nat):Cx:=⟨d9v,d9u,T0,fun f=>find a f,fun n=>find b n,fun i=>c.contains i,fun i=>d.contains i,G0⟩
def a3v(s:Z14):Option Z66:= cond (decide (s.2.2.1<s.2.1)) ((a0r s.1 s.2.2.1).bind fun x1=> (show Option Z32 from cond (decide (x1<(-1073741824))) (some (s.1,s.2.1,s.2.2.1,true,())) (some (s.1,s.2.1,s.2.2.1,decide (x1≥1073741824),()))).bind fun z2=> cond z2.2.2.2.1 (some (.inr (Sum.inr ((false,()))))) (some (.inl (z2.1,z2.2.1,wrap .i64 (z2.2.2.1+1),())))) (some (.inr (Sum.inl ())))
def a2P(x:(List Int)):Option Bool:= (a0e a3v (x,(x.length:Int),0,())).bind fun w3=> match w3 with |.inl a4=>some true |.inr b5=>some b5.1
def b1A:FSem:=⟨[.v QL],[.v .bool],a2P⟩
def H12:Hints:=⟨[(26,[.sv 5 QL,.sv 6 QI,.sv 7 QI],[(.exit 0,[]),(.ret,[.sv 2 .bool])])],[(1689,[(.normal,[.sv 5 QL,.sv 6 QI,.sv 7 QI,.sv 16 .bool])])],[]⟩
def a6M(x:Int):Option Bool:= cond (decide ((-1073741824)≤x)) (some (decide (x<1073741824))) (some false)
def b5d:FSem:=⟨[.v QI],[.v .bool],a6M⟩
def H32:Hints:=⟨[],[],[]⟩
def a8w(s:Z57):Option (Z57 ⊕ Z45):= cond (decide (s.2.2.2.1<s.2.2.1)) ((a0r s.2.1 s.2.2.2.1).bind fun x2=> (show Option (Int×Int×Z62)from(a6M x2).bind fun y3=> cond (!y3) (some (s.1,x2,s.2.1,s.2.2.1,s.2.2.2.1,true,s.2.2.2.2.1,())) (cond (decide (s.1<0)) none (cond ((a0D .i64 1 s.1)==0) none (some (s.1,x2,s.2.1,s.2.2.1,s.2.2.2.1,(a26 x2 (a0D .i64 1 s.1)) != 0,s.2.2.2.2.1,()))))).bind fun z4=> cond z4.2.2.2.2.2.1 (some (.inr (Sum.inr ((6,[],()))))) (cond (decide (z4.1<0)) none (cond (lim ((a03 z4.2.2.2.2.2.2.1)+1)) (some (.inl (z4.1,z4.2.2.1,z4.2.2.2.1,wrap .i64 (z4.2.2.2.2.1+1),a04 z4.2.2.2.2.2.2.1 [a0m .i64 z4.2.1 z4.1],()))) none))) (some (.inr (Sum.inl (s.2.2.2.2.1,()))))
def a8R(x:((List Int)×Int)):Option ((List Int)×Int):= (show Option Z18 from cond (decide (x.2<0)) (some (x.1,x.2,true,())) (some (x.1,x.2,decide (x.2 > 30),()))).bind fun z1=> cond z1.2.2.1 (some ([],1)) ((a0e a8w (z1.2.1,z1.1,(z1.1.length:Int),0,[],())).bind fun w5=> match w5 with |.inl a6=>some (a6.1,0) |.inr b7=>some (b7.2.1,b7.1))
def b5e:FSem:=⟨[.v QL,.v QI],[.o QI,.v QI],a8R⟩
def H13:Hints:=⟨[(122,[.sv 1 QI,.sv 15 QL,.sv 16 QI,.sv 17 QI,.own 6 6 QI],[(.exit 0,[.own 6 6 QI]),(.ret,[.sv 5 QI,.own 4 4 QI])])],[(6,[(.normal,[.sv 0 QL,.sv 1 QI,.sv 14 .bool])]),(15666,[(.normal,[.sv 1 QI,.sv 8 QI,.sv 15 QL,.sv 16 QI,.sv 17 QI,.sv 30 .bool,.own 6 6 QI])])],[]⟩
def a2p(x:Int):Option Int:= cond (x==0) (some 64) ((a0r b4k (a0m .u64 (wrap .u64 ((bits .u64 .and x (wrap .u64 (0-x)))*285870213051353865)) 58)).bind fun x1=> some (wrap .i64 x1))
def a1t:FSem:=⟨[.v (.int .u64)],[.v QI],a2p⟩
def H33:Hints:=⟨[],[],[]⟩
def b6w:Cx:=c4b [] [] [0,2] []
theorem c3h{ρ:Type}{cx:Cx}{ops:List Oper}:∀(l1 l2:List (Md×Oper)) (Γ:AE) (K:AE→Rs ρ),a7E cx ops (l1++l2) Γ K=a7E cx ops l1 Γ fun Γ'=>a7E cx ops l2 Γ' K
 | [],_,_,_=>rfl
 |(md,o)::l1,l2,Γ,K=>by
  simp only[a27,a7E];congr 1;funext Γ';exact c3h l1 l2 Γ' K
theorem c1E{ρ:Type}{cx:Cx}{H:Hints}{a b:Code}{p:Nat}(h:find H.cuts p=none)(Γ:AE)(K:Ex→AE→Rs ρ):a1S cx H (.seq a b) p Γ K=a1S cx H a (2*p) Γ fun e Γ'=>match e with
   |.normal=>a1S cx H b (2*p+1) Γ' K
   |e=>K e Γ':=by
 simp only[a1S,h];rfl
theorem c9k{ρ:Type}{cx:Cx}{H:Hints}{id:Nat}{ops:Array Oper}{p:Nat}(Γ:AE)(K:Ex→AE→Rs ρ):a1S cx H (.region id ops false) p Γ K=a7E cx ops.toList (ops.toList.map fun o=>(.x,o)) Γ fun Γ'=>K .normal Γ':=by
 simp only[a1S,cF]
def b4O:Code:=match Tryz.f33.body with
 |some c=>c
 |none=>.skip
def c6v:Code→Code
 |.seq a _=>a
 |c=>c
def d2t:Code→Code
 |.seq _ b=>b
 |c=>c
def d4a:Code→Array Oper
 |.region _ ops _=>ops
 |_=>#[]
def d4b:Code:=d2t (d2t b4O)
def b9P:List Oper:=(d4a (c6v d4b)).toList
def Γ33(x:Int):AE:=(((ini [.v (.int .u64)] x).set 2 (.val QI (0:Int))).set 3 (.val (.int .u64) x)).set 4 (.val .bool (x==(0:Int)))
def Γ33r(x:Int):AE:=(Γ33 x).set 2 (.val QI (64:Int))
def K33(e:Ex)(Γ:AE):Option Int:=match e,Γ.pd with
  |.exit _,_=>none
  |_,some _=>none
  |_,none=>(Γ.upto Tryz.f33.ntmps).outs b6w [] Tryz.f33.ntmps [.v QI] (Tryz.f33.results.toList.map .inl) fun y _=>some y
def Γ33b(x a b c i:Int):AE:=((((((Γ33 x).set 5 (.val (.int .u64) x)).set 6 (.val (.int .u64) x)).set 7 (.val (.int .u64) a)).set 8 (.val (.int .u64) b)).set 9 (.val (.int .u64) c)).set 10 (.val (.int .u64) i)
set_option maxRecDepth 100000
theorem d6U:b4O=.seq (c6v b4O) (.seq (c6v (d2t b4O)) (.seq (.region 3 (d4a (c6v d4b)) false) .ret)):=by kernel_rfl
theorem d7u(x:Int):c1c b6w H33 Tryz.f33 a1t.ps a1t.rs x=a1S b6w H33 b4O 1 (ini [.v (.int .u64)] x) K33:=rfl
theorem d7v(x:Int)(K:Ex→AE→Option Int):a1S b6w H33 (c6v b4O) 2 (ini [.v (.int .u64)] x) K=K .normal ((ini [.v (.int .u64)] x).set 2 (.val (.int .i64) (0:Int))):=by kernel_rfl
theorem d7w(x:Int)(K:Ex→AE→Option Int):a1S b6w H33 (c6v (d2t b4O)) 6 ((ini [.v (.int .u64)] x).set 2 (.val (.int .i64) (0:Int))) K=bif x==(0:Int)then K .ret (Γ33r x)else K .normal (Γ33 x):=by kernel_rfl
theorem d7x(x:Int):K33 .ret (Γ33r x)=some (64:Int):=by kernel_rfl
theorem d7y(x:Int)(K:AE→Option Int):a7E b6w b9P ((b9P.map fun o=>(Md.x,o)).take 6) (Γ33 x) K =
  K (Γ33b x (wrap .u64 (0-x)) (bits .u64 .and x (wrap .u64 (0-x))) (wrap .u64 ((bits .u64 .and x (wrap .u64 (0-x)))*(285870213051353865:Int))) (a0m .u64 (wrap .u64 ((bits .u64 .and x (wrap .u64 (0-x)))*(285870213051353865:Int))) (58:Int))):=by kernel_rfl
theorem d7z(x a b c i:Int):a7E b6w b9P ((b9P.map fun o=>(Md.x,o)).drop 6) (Γ33b x a b c i) (fun Γ=>K33 .ret Γ)=(a0r b4k i).bind fun x1=>some (wrap .i64 x1):=by kernel_rfl
theorem d7A(x:Int):a7E b6w b9P (b9P.map fun o=>(Md.x,o)) (Γ33 x) (fun Γ=>K33 .ret Γ)=(a0r b4k (a0m .u64 (wrap .u64 ((bits .u64 .and x (wrap .u64 (0-x)))*(285870213051353865:Int))) (58:Int))).bind fun x1=>some (wrap .i64 x1):=by
 rw[←List.take_append_drop 6 (b9P.map fun o=>(Md.x,o)),c3h,d7y,d7z]
theorem d8i(x:Int):a1S b6w H33 b4O 1 (ini [.v (.int .u64)] x) K33=a2p x:=by
 rw[d6U,c1E rfl,d7v];simp only[];rw[c1E rfl,d7w];simp only[];rw[c1E rfl,c9k];simp only[a1S];rw[d7x];exact congrArg (fun z=>bif x==(0:Int)then some (64:Int)else z) (d7A x)
theorem d9w(x):c1c b6w H33 Tryz.f33 a1t.ps a1t.rs x=a1t.F x:=(d7u x).trans (d8i x)
def a7d(s:Z29):Option (Z29 ⊕ (Int×Unit)):= cond (decide (s.2.2.2.1<s.2.2.1)) ((a0r s.2.1 s.2.2.2.1).bind fun x1=> some (.inl (bits .i64 .or s.1 x1,s.2.1,s.2.2.1,wrap .i64 (s.2.2.2.1+1),()))) (some (.inr (s.1,())))
def a5j(x:(List Int)):Option Int:= (a0e a7d (0,x,(x.length:Int),0,())).bind fun w2=> cond (w2.1==0) (some 0) ((a2p (wrap .u64 w2.1)).bind fun y3=> some (a2d y3 30))
def b2H:FSem:=⟨[.v QL],[.v QI],a5j⟩
def H14:Hints:=⟨[(58,[.sv 3 QI,.sv 6 QL,.sv 7 QI,.sv 8 QI],[(.exit 0,[.sv 3 QI])])],[],[]⟩
def a5k(s:Z14):Option Z66:= cond (decide (s.2.2.1<s.2.1)) ((a0r s.1 s.2.2.1).bind fun x2=> (show Option Z32 from cond (decide (x2<(-32768))) (some (s.1,s.2.1,s.2.2.1,true,())) (some (s.1,s.2.1,s.2.2.1,decide (x2≥32768),()))).bind fun z3=> cond z3.2.2.2.1 (some (.inr (Sum.inr ((false,()))))) (some (.inl (z3.1,z3.2.1,wrap .i64 (z3.2.2.1+1),())))) (some (.inr (Sum.inl ())))
def a6o(x:((List Int)×Int)):Option Bool:= (show Option Z7 from cond (decide ((x.1.length:Int)<1)) (some (x.1,true,())) (cond (decide ((x.1.length:Int) > 32)) (some (x.1,true,())) (cond (decide (x.2<0)) (some (x.1,true,())) (some (x.1,decide (x.2 > 15),()))))).bind fun z1=> cond z1.2.1 (some false) ((a0e a5k (z1.1,(z1.1.length:Int),0,())).bind fun w4=> match w4 with |.inl a5=>some true |.inr b6=>some b6.1)
def b2I:FSem:=⟨[.v QL,.v QI],[.v .bool],a6o⟩
def H59:Hints:=⟨[(58,[.sv 23 QL,.sv 24 QI,.sv 25 QI],[(.exit 0,[]),(.ret,[.sv 4 .bool])])],[(6,[(.normal,[.sv 0 QL,.sv 22 .bool])]),(3737,[(.normal,[.sv 23 QL,.sv 24 QI,.sv 25 QI,.sv 34 .bool])])],[]⟩
def a6N(s:Z4):Option Z55:= cond (decide (s.2.1<3)) ((a0r s.1 s.2.1).bind fun x2=> (show Option Z18 from cond (decide (x2<(-64))) (some (s.1,s.2.1,true,())) (some (s.1,s.2.1,decide (x2 > 64),()))).bind fun z3=> cond z3.2.2.1 (some (.inr (Sum.inr ((false,()))))) (some (.inl (z3.1,wrap .i64 (z3.2.1+1),())))) (some (.inr (Sum.inl ())))
def b0r(x:(Int×(List Int))):Option Bool:= (show Option Z6 from cond (decide (x.1<2)) (some (true,x.2,())) (some (decide (x.1 > 1024),x.2,()))).bind fun z1=> cond z1.1 (some false) ((a0e a6N (z1.2.1,0,())).bind fun w4=> match w4 with |.inl a5=>some true |.inr b6=>some b6.1)
def b5J:FSem:=⟨[.v QI,.v (.arr 3 QI)],[.v .bool],b0r⟩
def H60:Hints:=⟨[(58,[.sv 13 (.arr 3 QI),.sv 14 QI],[(.exit 0,[]),(.ret,[.sv 4 .bool])])],[(6,[(.normal,[.sv 12 .bool,.vp 3 (.arr 3 QI)])]),(3737,[(.normal,[.sv 13 (.arr 3 QI),.sv 14 QI,.sv 22 .bool])])],[]⟩
def a8S(x:(Int×Int×Unit)):Option Bool:= cond (decide (x.1≥1)) (cond (decide (x.1≤32)) (cond (decide (x.2.1≥0)) (some (decide (x.2.1≤8))) (some false)) (some false)) (some false)
def b5f:FSem:=⟨[.v Q4],[.v .bool],a8S⟩
def d9x:Hints:=⟨[],[],[]⟩
def a8a(s:(Z5×Int×Int×Unit)):Option ((Z5×Int×Int×Unit) ⊕ Z0):= cond (decide (s.2.2.1<s.2.1)) ((a0r s.1 s.2.2.1).bind fun x1=> (a8S x1).bind fun y2=> cond (!y2) (some (.inr (Sum.inr ((false,()))))) (some (.inl (s.1,s.2.1,wrap .i64 (s.2.2.1+1),())))) (some (.inr (Sum.inl ())))
def a9h(x:Z5):Option Bool:= cond (decide ((x.length:Int) > 3)) (some false) ((a0e a8a (x,(x.length:Int),0,())).bind fun w3=> match w3 with |.inl a4=>some true |.inr b5=>some b5.1)
def b4l:FSem:=⟨[.v (.list false Q4)],[.v .bool],a9h⟩
def H61:Hints:=⟨[(58,[.sv 8 (.list false Q4),.sv 9 QI,.sv 10 QI],[(.exit 0,[]),(.ret,[.sv 2 .bool])])],[],[]⟩
def b4P(x:(Int×a9T)):Option Bool:= (show Option d2l from cond (x.1==0) (some (x.2.2,x.1,x.1==0,x.2.1,())) (some (x.2.2,x.1,x.1==1,x.2.1,()))).bind fun z1=> cond z1.2.2.1 (some true) (cond (z1.2.1==2) (cond (decide (z1.2.2.2.1.2.2.1≥0)) (cond (decide (z1.2.2.2.1.2.2.1≤4)) (some (decide (z1.2.2.2.1.2.2.1≤z1.1))) (some false)) (some false)) (cond (z1.2.1==3) ((a6o (z1.2.2.2.1.2.2.2.2.2.1,z1.2.2.2.1.2.2.2.1)).bind fun y2=> cond y2 (some (decide ((z1.2.2.2.1.2.2.2.2.2.1.length:Int)≤z1.1))) (some false)) (cond (z1.2.1==4) ((a6o (z1.2.2.2.1.2.2.2.2.2.1,z1.2.2.2.1.2.2.2.1)).bind fun y3=> cond y3 (cond (decide ((z1.2.2.2.1.2.2.2.2.2.1.length:Int)≤z1.1)) ((b0r (z1.2.2.2.1.2.2.2.2.1,z1.2.2.2.1.2.2.2.2.2.2.1)).bind fun y4=> some y4) (some false)) (some false)) (cond (z1.2.1==5) (cond (decide ((z1.2.2.2.1.2.2.2.2.2.2.2.1.length:Int) > 0)) ((a9h z1.2.2.2.1.2.2.2.2.2.2.2.1).bind fun y5=> some y5) (some false)) (some false)))))
def c1F:FSem:=⟨[.v QI,.v Q19,.v QI],[.v .bool],b4P⟩
def H26:Hints:=⟨[],[(26,[(.normal,[.sv 2 QI,.sv 7 QI,.sv 8 .bool,.vp 4 Q19])])],[]⟩
def a1F(x:(List Int)):Option (List Int):= b6r x
def a1m:FSem:=⟨[.v QL],[.o QI],a1F⟩
def H62:Hints:=⟨[],[],[]⟩
def d7B:Cx:=c4b [] [] [0,2] []
theorem d9y(x):c1c d7B H62 Tryz.f62 a1m.ps a1m.rs x=a1m.F x:=Eq.trans (show _=c1B x by kernel_rfl) (b9O x)
def a5r(x:(List Int)):Option (List Int):= b6r x
def a2y:FSem:=⟨[.v QL],[.v QL],a5r⟩
def d9z:Hints:=⟨[],[],[]⟩
def d5Y:Cx:=c4b [] [] [0,2] []
theorem d8j(x):c1c d5Y d9z Tryz.f62 a2y.ps a2y.rs x=a2y.F x:=Eq.trans (show _=c1B x by kernel_rfl) (b9O x)
def a1O(x:Z5):Option Z5:= b6r x
def a1k:FSem:=⟨[.v (.list false Q4)],[.v (.list false Q4)],a1O⟩
def d9A:Hints:=⟨[],[],[]⟩
def d5Z:Cx:=c4b [] [] [0,2] []
theorem d8k(x):c1c d5Z d9A Tryz.f63 a1k.ps a1k.rs x=a1k.F x:=Eq.trans (show _=c1B x by kernel_rfl) (b9O x)
def a8b(x:(Int×a2c)):Option a2c:= (show Option b3Q from(show Option (d2r ⊕ (b3Q ⊕ d2r))from cond (x.1==2) (some (Sum.inr (Sum.inl ((0,0,0,0,0,[],a00 3 0,[],[],(0,[],()),[],()),(x.1,0,x.2.2.2.1,0,0,[],a00 3 0,[],[],(0,[],()),[],()),())))) (cond (x.1==4) (some (Sum.inl ((0,0,0,0,0,[],a00 3 0,[],[],(0,[],()),[],()),(x.1,0,0,0,x.2.2.2.2.2.1,[],x.2.2.2.2.2.2.2.1,[],[],(0,[],()),[],()),x.2,()))) (cond (x.1==3) (some (Sum.inl ((0,0,0,0,0,[],a00 3 0,[],[],(0,[],()),[],()),(x.1,0,0,0,0,[],a00 3 0,[],[],(0,[],()),[],()),x.2,()))) (cond (x.1==5) (some (Sum.inr (Sum.inr (((0,0,0,0,0,[],a00 3 0,[],[],(0,[],()),[],()),(x.1,0,0,0,0,[],a00 3 0,[],[],(0,[],()),[],()),x.2,()))))) (some (Sum.inr (Sum.inl ((0,0,0,0,0,[],a00 3 0,[],[],(0,[],()),[],()),(x.1,0,0,0,0,[],a00 3 0,[],[],(0,[],()),[],()),())))))))).bind fun z1=> match z1 with |.inl a2=>((a5r a2.2.2.1.2.2.2.2.2.1).bind fun y4=> some (a2.1,(a2.2.1.1,a2.2.1.2.1,a2.2.1.2.2.1,a2.2.2.1.2.2.2.1,a2.2.1.2.2.2.2.1,y4,a2.2.1.2.2.2.2.2.2),())) |.inr b3=>(match b3 with |.inl a5=>some (a5.1,a5.2.1,()) |.inr b6=>((a1O b6.2.2.1.2.2.2.2.2.2.2.1).bind fun y7=> some (b6.1,(b6.2.1.1,b6.2.1.2.1,b6.2.1.2.2.1,b6.2.1.2.2.2.1,b6.2.1.2.2.2.2.1,b6.2.1.2.2.2.2.2.1,b6.2.1.2.2.2.2.2.2.1,y7,b6.2.1.2.2.2.2.2.2.2.2),())))).bind fun z8=> some z8.2.1
def b6x:FSem:=⟨[.v QI,.v Q19],[.v Q19],a8b⟩
def H27:Hints:=⟨[],[(7,[(.normal,[.box 4 Q19,.box 5 Q19,.ptr 4 4 [],.ptr 5 5 []])]),(232,[(.normal,[.box 4 Q19,.box 5 Q19,.vp 3 Q19,.ptr 4 4 [],.ptr 5 5 []]),(.exit 0,[.box 4 Q19,.box 5 Q19,.ptr 4 4 [],.ptr 5 5 []]),(.exit 4,[.box 4 Q19,.box 5 Q19,.vp 3 Q19,.ptr 4 4 [],.ptr 5 5 []])])],[(8,[.v,.v,.v,.v,.q,.w [0,5],.x,.x]),(9,[.v,.v,.v,.v,.v,.q,.w [0,5],.x,.x])]⟩
def a9U(x:a9T):Option Int:= cond (x.1.1==0) (some 1) (cond (x.1.1==1) (some x.2) (cond (x.1.1==2) (some x.1.2.2.1) ((show Option d2j from cond (x.1.1==3) (some (x.1.1==3,x.1,())) (some (x.1.1==4,x.1,()))).bind fun z1=> cond z1.1 (some (z1.2.1.2.2.2.2.2.1.length:Int)) (some 0))))
def b6y:FSem:=⟨[.v Q19,.v QI],[.v QI],a9U⟩
def H51:Hints:=⟨[],[(1727,[(.normal,[.sv 16 .bool,.vp 2 Q19])])],[]⟩
def b7v(s:Z14):Option Z66:= cond (decide (s.2.2.1<s.2.1)) ((a0r s.1 s.2.2.1).bind fun x1=> (show Option Z32 from cond (decide (x1<(-1073741824))) (some (s.1,s.2.1,s.2.2.1,true,())) (some (s.1,s.2.1,s.2.2.1,decide (x1≥1073741824),()))).bind fun z2=> cond z2.2.2.2.1 (some (.inr (Sum.inr ((false,()))))) (some (.inl (z2.1,z2.2.1,wrap .i64 (z2.2.2.1+1),())))) (some (.inr (Sum.inl ())))
def a3n(x:(List Int)):Option Bool:= (a0e b7v (x,(x.length:Int),0,())).bind fun w3=> match w3 with |.inl a4=>some true |.inr b5=>some b5.1
def b6z:FSem:=⟨[.v QL],[.v .bool],a3n⟩
def d9B:Hints:=⟨[(26,[.sv 5 QL,.sv 6 QI,.sv 7 QI],[(.exit 0,[]),(.ret,[.sv 2 .bool])])],[(1689,[(.normal,[.sv 5 QL,.sv 6 QI,.sv 7 QI,.sv 16 .bool])])],[]⟩
def a7e(s:Z30):Option (Z30 ⊕ Z15):= cond (decide ((wrap .i64 (s.1+1))<(s.2.2.2.1.length:Int))) (cond ((decide (0≤(wrap .i64 (s.1+1))))&&(decide ((wrap .i64 (s.1+1))<(s.2.2.2.1.length:Int)))) (cond ((decide (0≤s.1))&&(decide (s.1<(s.2.2.2.1.length:Int)))) (cond ((decide (0≤s.1))&&(decide (s.1<(s.2.2.2.1.length:Int)))) (some (.inl (wrap .i64 (s.1+1),s.2.1,s.2.2.1,a05 s.2.2.2.1 (a01 s.1) (wrap .i64 ((a02 s.2.2.2.1 (a01 (wrap .i64 (s.1+1))) 0)-(a02 s.2.2.2.1 (a01 s.1) 0))),()))) none) none) none) (some (.inr (s.2.1,s.2.2.1,s.2.2.2.1,())))
def a9w(s:Z15):Option (Z15 ⊕ ((List Int)×Unit)):= cond (decide (s.2.1<s.1)) ((a0e a7e (0,s.1,s.2.1,s.2.2.1,())).bind fun w3=> cond ((decide (0≤(wrap .i64 ((w3.2.2.1.length:Int)-1))))&&(decide ((wrap .i64 ((w3.2.2.1.length:Int)-1))≤(w3.2.2.1.length:Int)))) (cond (decide ((a01 (wrap .i64 ((w3.2.2.1.length:Int)-1)))≤(a03 w3.2.2.1))) (some (.inl (w3.1,wrap .i64 (w3.2.1+1),a07 (a01 (wrap .i64 ((w3.2.2.1.length:Int)-1))) w3.2.2.1,()))) none) none) (some (.inr (s.2.2.1,())))
def a3Y(x:((List Int)×Int)):Option ((List Int)×Int):= (show Option Z18 from cond (decide (x.2<0)) (some (x.1,x.2,true,())) (cond (decide (x.2 > 4)) (some (x.1,x.2,true,())) (some (x.1,x.2,decide ((x.1.length:Int)<x.2),())))).bind fun z1=> cond z1.2.2.1 (some ([],1)) ((a3n z1.1).bind fun y2=> cond (!y2) (some ([],6)) (cond (lim (a03 z1.1)) ((a0e a9w (z1.2.1,0,z1.1,())).bind fun w4=> (a3n w4.1).bind fun y5=> cond (!y5) (some ([],6)) (some (w4.1,0))) none))
def b6A:FSem:=⟨[.v QL,.v QI],[.o QI,.v QI],a3Y⟩
def H64:Hints:=⟨[(250,[.sv 25 QI,.sv 26 QI,.own 6 6 QI],[(.exit 0,[.own 6 6 QI])]),(64098,[.sv 7 QI,.sv 25 QI,.sv 26 QI,.own 6 6 QI],[(.exit 2,[.sv 25 QI,.sv 26 QI,.own 6 6 QI])])],[(6,[(.normal,[.sv 0 QL,.sv 1 QI,.sv 19 .bool])])],[(11,[.q,.v,.q,.v,.v,.q,.q,.q,.v,.q,.q,.v,.x,.x])]⟩
def a6O(x:Int):Option Bool:= cond (decide (x≥(-1073741824))) (some (decide (x<1073741824))) (some false)
def b1B:FSem:=⟨[.v QI],[.v .bool],a6O⟩
def d9C:Hints:=⟨[],[],[]⟩
def a4y(s:Z14):Option Z66:= cond (decide (s.2.2.1<s.2.1)) ((a0r s.1 s.2.2.1).bind fun x1=> (a6O x1).bind fun y2=> cond (!y2) (some (.inr (Sum.inr ((false,()))))) (some (.inl (s.1,s.2.1,wrap .i64 (s.2.2.1+1),())))) (some (.inr (Sum.inl ())))
def a3w(x:(List Int)):Option Bool:= (a0e a4y (x,(x.length:Int),0,())).bind fun w3=> match w3 with |.inl a4=>some true |.inr b5=>some b5.1
def a8x:FSem:=⟨[.v QL],[.v .bool],a3w⟩
def d9D:Hints:=⟨[(26,[.sv 5 QL,.sv 6 QI,.sv 7 QI],[(.exit 0,[]),(.ret,[.sv 2 .bool])])],[],[]⟩
def a4z(s:Z71):Option (Z71 ⊕ (Int×Int×Unit)):= cond (decide (s.2.2.2.2.2.1<s.2.2.2.2.1)) ((a0r s.2.2.2.1 s.2.2.2.2.2.1).bind fun x1=> cond (decide ((wrap .i64 ((wrap .i64 ((s.1.length:Int)-1))-s.2.2.2.2.2.1))<0)) (some (.inr (s.2.1,s.2.2.1,()))) ((a0r s.1 (wrap .i64 ((wrap .i64 ((s.1.length:Int)-1))-s.2.2.2.2.2.1))).bind fun x2=> some (.inl (s.1,s.2.1,wrap .i64 (s.2.2.1+(wrap .i64 (x1*x2))),s.2.2.2.1,s.2.2.2.2.1,wrap .i64 (s.2.2.2.2.2.1+1),())))) (some (.inr (s.2.1,s.2.2.1,())))
def a6p(x:Z11):Option Int:= (a0e a4z (x.1,x.2.2,0,x.2.1,(x.2.1.length:Int),0,())).bind fun w3=> cond (decide (w3.1<0)) none (some (a0m .i64 w3.2.1 w3.1))
def b2c:FSem:=⟨[.v QL,.v QL,.v QI],[.v QI],a6p⟩
def d9E:Hints:=⟨[(58,[.sv 0 QL,.sv 2 QI,.sv 7 QI,.sv 11 QL,.sv 12 QI,.sv 13 QI],[(.exit 0,[.sv 2 QI,.sv 7 QI])])],[],[]⟩
def a6q(s:Z67):Option (Z67 ⊕ Z45):= cond (decide (s.2.2.2.1<(s.1.length:Int))) ((a0r s.1 s.2.2.2.1).bind fun x4=> cond ((decide (0≤s.2.2.2.1))&&(decide (s.2.2.2.1≤(s.1.length:Int)))) ((a6p (a07 (a01 s.2.2.2.1) s.1,s.2.1,s.2.2.1)).bind fun y5=> (a6O (wrap .i64 (x4-y5))).bind fun y6=> cond (!y6) (some (.inr (Sum.inr ((6,[],()))))) (cond (lim ((a03 s.2.2.2.2.1)+1)) (some (.inl (s.1,s.2.1,s.2.2.1,wrap .i64 (s.2.2.2.1+1),a04 s.2.2.2.2.1 [wrap .i64 (x4-y5)],()))) none)) none) (some (.inr (Sum.inl (s.2.2.2.2.1,()))))
def a8T(x:Z11):Option ((List Int)×Int):= (show Option Z48 from(a6o (x.2.1,x.2.2)).bind fun y1=> cond (!y1) (some (x.1,x.2.1,x.2.2,true,())) (some (x.1,x.2.1,x.2.2,decide ((x.1.length:Int)<(x.2.1.length:Int)),()))).bind fun z2=> cond z2.2.2.2.1 (some ([],1)) ((a3w z2.1).bind fun y3=> cond (!y3) (some ([],6)) (cond ((decide (0≤(wrap .i64 ((z2.1.length:Int)-(z2.2.1.length:Int)))))&&(lim (a01 (wrap .i64 ((z2.1.length:Int)-(z2.2.1.length:Int)))))) ((a0e a6q (z2.1,z2.2.1,z2.2.2.1,(z2.2.1.length:Int),[],())).bind fun w7=> match w7 with |.inl a8=>some (a8.1,0) |.inr b9=>some (b9.2.1,b9.1)) none))
def c0C:FSem:=⟨[.v QL,.v QL,.v QI],[.o QI,.v QI],a8T⟩
def H65:Hints:=⟨[(250,[.sv 0 QL,.sv 1 QL,.sv 2 QI,.sv 9 QI,.own 8 8 QI],[(.exit 0,[.own 8 8 QI]),(.ret,[.sv 7 QI,.own 6 6 QI])])],[(6,[(.normal,[.sv 0 QL,.sv 1 QL,.sv 2 QI,.sv 21 .bool])])],[(9,[.v,.v,.v,.v,.v,.v,.v,.v,.v,.v,.x,.x])]⟩
def a9i(x:Int):Option Bool:= cond (decide (x≥(-1073741824))) (some (decide (x<1073741824))) (some false)
def b4m:FSem:=⟨[.v QI],[.v .bool],a9i⟩
def d9F:Hints:=⟨[],[],[]⟩
def a5A(s:Z14):Option Z66:= cond (decide (s.2.2.1<s.2.1)) ((a0r s.1 s.2.2.1).bind fun x1=> (a9i x1).bind fun y2=> cond (!y2) (some (.inr (Sum.inr ((false,()))))) (some (.inl (s.1,s.2.1,wrap .i64 (s.2.2.1+1),())))) (some (.inr (Sum.inl ())))
def a6d(x:(List Int)):Option Bool:= (a0e a5A (x,(x.length:Int),0,())).bind fun w3=> match w3 with |.inl a4=>some true |.inr b5=>some b5.1
def b0s:FSem:=⟨[.v QL],[.v .bool],a6d⟩
def d9G:Hints:=⟨[(26,[.sv 5 QL,.sv 6 QI,.sv 7 QI],[(.exit 0,[]),(.ret,[.sv 2 .bool])])],[],[]⟩
def a5B(s:((List Int)×(Int×Int×Z16))):Option (((List Int)×(Int×Int×Z16)) ⊕ (Int×Unit)):= cond (decide (s.2.2.2.2.2.1<3)) ((a0r s.2.2.2.2.1 s.2.2.2.2.2.1).bind fun x1=> cond (decide ((wrap .i64 ((wrap .i64 ((wrap .i64 (s.2.1-s.2.2.1))-1))+s.2.2.2.2.2.1))≥0)) ((a0r s.1 (wrap .i64 ((wrap .i64 ((wrap .i64 (s.2.1-s.2.2.1))-1))+s.2.2.2.2.2.1))).bind fun x2=> some (.inl (s.1,s.2.1,s.2.2.1,wrap .i64 (s.2.2.2.1+(wrap .i64 (x1*x2))),s.2.2.2.2.1,wrap .i64 (s.2.2.2.2.2.1+1),()))) (some (.inl (s.1,s.2.1,s.2.2.1,s.2.2.2.1,s.2.2.2.2.1,wrap .i64 (s.2.2.2.2.2.1+1),())))) (some (.inr (s.2.2.2.1,())))
def a6e(x:((List Int)×Z1)):Option Int:= (a0e a5B (x.1,x.2.1,x.2.2.1,0,x.2.2.2,0,())).bind fun w3=> some (a0m .i64 w3.1 6)
def b3R:FSem:=⟨[.v QL,.v QI,.v QI,.v (.arr 3 QI)],[.v QI],a6e⟩
def d9H:Hints:=⟨[(58,[.sv 0 QL,.sv 1 QI,.sv 2 QI,.sv 9 QI,.sv 13 (.arr 3 QI),.sv 14 QI],[(.exit 0,[.sv 9 QI])])],[],[]⟩
def a8c(s:((List Int)×Z80)):Option (((List Int)×Z80) ⊕ Z45):= cond (decide (s.2.2.2.2.1<s.2.2.2.1)) ((a0r s.2.2.1 s.2.2.2.2.1).bind fun x3=> (a6e (s.1,s.2.2.2.2.1,s.2.1,s.2.2.2.2.2.2.1)).bind fun y4=> (a9i (wrap .i64 (x3-y4))).bind fun y5=> cond (!y5) (some (.inr (Sum.inr ((6,[],()))))) (cond (lim ((a03 s.2.2.2.2.2.1)+1)) (some (.inl (s.1,s.2.1,s.2.2.1,s.2.2.2.1,wrap .i64 (s.2.2.2.2.1+1),a04 s.2.2.2.2.2.1 [wrap .i64 (x3-y4)],s.2.2.2.2.2.2.1,()))) none)) (some (.inr (Sum.inl (s.2.2.2.2.2.1,()))))
def a9j(x:Z12):Option ((List Int)×Int):= (b0r (x.2.1,x.2.2)).bind fun y1=> cond (!y1) (some ([],1)) ((a6d x.1).bind fun y2=> cond (!y2) (some ([],6)) (cond ((decide (0≤(x.1.length:Int)))&&(lim (a01 (x.1.length:Int)))) ((a0e a8c (x.1,x.2.1,x.1,(x.1.length:Int),0,[],x.2.2,())).bind fun w6=> match w6 with |.inl a7=>some (a7.1,0) |.inr b8=>some (b8.2.1,b8.1)) none))
def b4n:FSem:=⟨[.v QL,.v QI,.v (.arr 3 QI)],[.o QI,.v QI],a9j⟩
def H66:Hints:=⟨[(250,[.sv 0 QL,.sv 1 QI,.sv 22 QL,.sv 23 QI,.sv 24 QI,.own 8 8 QI,.vp 5 (.arr 3 QI)],[(.exit 0,[.own 8 8 QI]),(.ret,[.sv 7 QI,.own 6 6 QI])])],[],[]⟩
def a8d(x:Int):Option Bool:= cond (decide (x≥(-1073741824))) (some (decide (x<1073741824))) (some false)
def b2J:FSem:=⟨[.v QI],[.v .bool],a8d⟩
def d9I:Hints:=⟨[],[],[]⟩
def a4Y(s:Z14):Option Z66:= cond (decide (s.2.2.1<s.2.1)) ((a0r s.1 s.2.2.1).bind fun x1=> (a8d x1).bind fun y2=> cond (!y2) (some (.inr (Sum.inr ((false,()))))) (some (.inl (s.1,s.2.1,wrap .i64 (s.2.2.1+1),())))) (some (.inr (Sum.inl ())))
def a7f(x:(List Int)):Option Bool:= (a0e a4Y (x,(x.length:Int),0,())).bind fun w3=> match w3 with |.inl a4=>some true |.inr b5=>some b5.1
def b2K:FSem:=⟨[.v QL],[.v .bool],a7f⟩
def d9J:Hints:=⟨[(26,[.sv 5 QL,.sv 6 QI,.sv 7 QI],[(.exit 0,[]),(.ret,[.sv 2 .bool])])],[],[]⟩
def b1f(x:(Int×Int×Unit)):Option Z43:= (a8S x).bind fun y1=> cond (!y1) none (cond ((decide (0≤x.1))&&((decide (x.1≤x.1))&&(lim (a01 x.1)))) (cond ((decide (0≤x.1))&&((decide (x.1≤x.1))&&(lim (a01 x.1)))) (some ((x.2.1,a00 (a01 x.1) 0,a00 (a01 x.1) 0,()),0)) none) none)
def b8q:FSem:=⟨[.v Q4],[.b Q9,.v QI],b1f⟩
def d9K:Hints:=⟨[],[],[(3,[.v,.v,.v,.v,.q,.v,.v,.q,.x,.x,.x,.x])]⟩
def a7g(x:Int):Option Int:= some (a2d (a1r x (-1073741824)) 1073741823)
def b2L:FSem:=⟨[.v QI],[.v QI],a7g⟩
def d9L:Hints:=⟨[],[],[]⟩
def a4v(s:Z84):Option (Z84 ⊕ Z63):= cond (decide (s.2.2.1<s.2.1)) (cond ((decide (0≤s.2.2.1))&&(decide (s.2.2.1<(s.2.2.2.1.2.1.length:Int)))) (cond ((decide (0≤s.2.2.1))&&(decide (s.2.2.1<(s.2.2.2.1.2.2.1.length:Int)))) (some (.inl (wrap .i64 (s.1+(wrap .i64 ((a02 s.2.2.2.1.2.1 (a01 s.2.2.1) 0)*(a02 s.2.2.2.1.2.2.1 (a01 s.2.2.1) 0)))),s.2.1,wrap .i64 (s.2.2.1+1),s.2.2.2.1,()))) none) none) (some (.inr (s.1,s.2.2.2.1,())))
def a2S(x:Z26):Option Z42:= (a0e a4v (0,(x.2.1.length:Int),0,x,())).bind fun w1=> (a7g (a0m .i64 w1.1 16)).bind fun y2=> some (y2,w1.2.1)
def a5N:FSem:=⟨[.r false (.b Q9)],[.v QI],a2S⟩
def d9M:Hints:=⟨[(58,[.sv 3 QI,.sv 10 QI,.sv 11 QI,.box pinned Q9,.ptr 0 pinned [],.ref 9 pinned [.snd,.fst]],[(.exit 0,[.sv 3 QI,.box pinned Q9])])],[],[]⟩
def a3o(s:(Int×Z84)):Option ((Int×Z84) ⊕ Z63):= cond (decide (s.2.2.2.1<s.2.2.1)) (cond ((decide (0≤s.2.2.2.1))&&(decide (s.2.2.2.1<(s.2.2.2.2.1.2.2.1.length:Int)))) (cond ((decide (0≤s.2.2.2.1))&&(decide (s.2.2.2.1<(s.2.2.2.2.1.2.1.length:Int)))) ((show Option (Int×Int×Int×Z84)from cond (decide ((a02 s.2.2.2.2.1.2.2.1 (a01 s.2.2.2.1) 0) > 0)) (some (s.1,s.2.1,s.2.2.2.1,wrap .i64 ((a02 s.2.2.2.2.1.2.1 (a01 s.2.2.2.1) 0)+s.2.1),s.2.2.1,s.2.2.2.1,s.2.2.2.2.1,())) (cond (decide ((a02 s.2.2.2.2.1.2.2.1 (a01 s.2.2.2.1) 0)<0)) (some (s.1,s.2.1,s.2.2.2.1,wrap .i64 ((a02 s.2.2.2.2.1.2.1 (a01 s.2.2.2.1) 0)-s.2.1),s.2.2.1,s.2.2.2.1,s.2.2.2.2.1,())) (some (s.1,s.2.1,s.2.2.2.1,a02 s.2.2.2.2.1.2.1 (a01 s.2.2.2.1) 0,s.2.2.1,s.2.2.2.1,s.2.2.2.2.1,())))).bind fun z4=> cond ((decide (0≤z4.2.2.1))&&(decide (z4.2.2.1<(z4.2.2.2.2.2.2.1.2.1.length:Int)))) (some (.inl (z4.1,z4.2.1,z4.2.2.2.2.1,wrap .i64 (z4.2.2.2.2.2.1+1),(z4.2.2.2.2.2.2.1.1,a05 z4.2.2.2.2.2.2.1.2.1 (a01 z4.2.2.1) (a2d (a1r z4.2.2.2.1 (-1048576)) 1048576),z4.2.2.2.2.2.2.1.2.2),()))) none) none) none) (some (.inr (s.1,s.2.2.2.2.1,())))
def a4A(x:Z43):Option Z26:= (a7g x.2).bind fun y1=> (show Option Z75 from(a2S x.1).bind fun y2=> cond (decide (y1 > y2.1)) (cond (decide (y2.2.1<0)) none (some (y1,a0D .i64 1 y2.2.1,y2.2,()))) (cond (decide (y1<y2.1)) (cond (decide (y2.2.1<0)) none (some (y1,wrap .i64 (0-(a0D .i64 1 y2.2.1)),y2.2,()))) (some (y1,0,y2.2,())))).bind fun z3=> (a0e a3o (z3.1,z3.2.1,(z3.2.2.1.2.2.1.length:Int),0,z3.2.2.1,())).bind fun w5=> cond (decide (1≤(w5.2.1.2.2.1.length:Int))) (cond (decide (0<(a03 (b5D w5.2.1.2.2.1 1 ((a03 w5.2.1.2.2.1)-1) w5.2.1.2.2.1):Int))) (some (w5.2.1.1,w5.2.1.2.1,a05 (b5D w5.2.1.2.2.1 1 ((a03 w5.2.1.2.2.1)-1) w5.2.1.2.2.1) 0 w5.1,w5.2.1.2.2.2)) none) none
def a9t:FSem:=⟨[.r false (.b Q9),.v QI],[],a4A⟩
def d9N:Hints:=⟨[(122,[.sv 1 QI,.sv 4 QI,.sv 36 QI,.sv 37 QI,.box pinned Q9,.ptr 0 pinned [],.ref 35 pinned [.snd,.snd,.fst]],[(.exit 1,[.sv 1 QI,.box pinned Q9,.ptr 0 pinned []])])],[(7,[(.normal,[.sv 1 QI,.sv 4 QI,.box pinned Q9,.ptr 0 pinned []])]),(15667,[(.normal,[.sv 1 QI,.sv 4 QI,.sv 6 QI,.sv 8 QI,.sv 36 QI,.sv 37 QI,.box pinned Q9,.ptr 0 pinned [],.ref 35 pinned [.snd,.snd,.fst]])])],[(17,[.p,.p,.q,.q,.q,.p,.p,.q,.q,.x])]⟩
def a7h(s:(Z5×Int×Int×Z88)):Option ((Z5×Int×Int×Z88) ⊕ ((Z5×Z15) ⊕ Z3)):= cond (decide (s.2.2.2.2.1<s.2.2.2.1)) (cond ((decide (0≤s.2.2.2.2.1))&&(decide (s.2.2.2.2.1<(s.2.2.2.2.2.1.length:Int)))) ((a2S s.2.2.2.2.2.2.1).bind fun y6=> (a8d (wrap .i64 ((a02 s.2.2.2.2.2.1 (a01 s.2.2.2.2.1) 0)-y6.1))).bind fun y7=> cond (!y7) (some (.inr (Sum.inr ((6,[],()))))) ((a4A (y6.2,a02 s.2.2.2.2.2.1 (a01 s.2.2.2.2.1) 0)).bind fun y8=> cond ((decide (0≤s.2.2.2.2.1))&&(decide (s.2.2.2.2.1<(s.2.2.2.2.2.1.length:Int)))) (some (.inl (s.1,s.2.1,s.2.2.1,s.2.2.2.1,wrap .i64 (s.2.2.2.2.1+1),a05 s.2.2.2.2.2.1 (a01 s.2.2.2.2.1) (wrap .i64 ((a02 s.2.2.2.2.2.1 (a01 s.2.2.2.2.1) 0)-y6.1)),y8,()))) none)) none) (some (.inr (Sum.inl (s.1,s.2.1,s.2.2.1,s.2.2.2.2.2.1,()))))
def a7i(s:(Z5×Z15)):Option ((Z5×Z15) ⊕ Z45):= cond (decide (s.2.2.1<s.2.1)) ((a0r s.1 s.2.2.1).bind fun x4=> (b1f x4).bind fun y5=> cond (y5.2 != 0) (some (.inr (Sum.inr ((y5.2,[],()))))) ((a0e a7h (s.1,s.2.1,s.2.2.1,(s.2.2.2.1.length:Int),0,s.2.2.2.1,y5.1,())).bind fun w9=> match w9 with |.inl a10=>some (.inl (a10.1,a10.2.1,wrap .i64 (a10.2.2.1+1),a10.2.2.2.1,())) |.inr b11=>some (.inr (Sum.inr ((b11.1,b11.2.1,())))))) (some (.inr (Sum.inl (s.2.2.2.1,()))))
def b2M(x:Z27):Option ((List Int)×Int):= (a9h x.2).bind fun y1=> cond (!y1) (some ([],1)) ((a7f x.1).bind fun y2=> cond (!y2) (some ([],6)) ((a1F x.1).bind fun y3=> (a0e a7i (x.2,(x.2.length:Int),0,y3,())).bind fun w12=> match w12 with |.inl a13=>some (a13.1,0) |.inr b14=>some (b14.2.1,b14.1)))
def c1G:FSem:=⟨[.v QL,.v (.list false Q4)],[.o QI,.v QI],b2M⟩
def H67:Hints:=⟨[(250,[.sv 22 (.list false Q4),.sv 23 QI,.sv 24 QI,.own 6 6 QI],[(.exit 0,[.own 6 6 QI]),(.ret,[.sv 5 QI,.own 4 4 QI])]),(256414,[.sv 22 (.list false Q4),.sv 23 QI,.sv 24 QI,.sv 37 QI,.sv 38 QI,.own 6 6 QI,.box 1030 Q9,.ptr 9 1030 [],.ref 36 6 []],[(.exit 2,[.sv 22 (.list false Q4),.sv 23 QI,.sv 24 QI,.own 6 6 QI]),(.ret,[.sv 5 QI,.own 4 4 QI])])],[],[]⟩
def b4o(x:(a2c×(List Int))):Option (Int×a2c):= (show Option ((List Int)×((List Int)×(Int×c1C)))from cond (x.1.1==2) ((a3Y (x.2,x.1.2.2.1)).bind fun y1=> some (x.2,y1.1,y1.2,x.1,())) (cond (x.1.1==3) ((a8T (x.2,x.1.2.2.2.2.2.1,x.1.2.2.2.1)).bind fun y2=> some (x.2,y2.1,y2.2,x.1,())) (cond (x.1.1==4) ((a9j (x.2,x.1.2.2.2.2.1,x.1.2.2.2.2.2.2.1)).bind fun y3=> cond (y3.2==0) ((a8T (y3.1,x.1.2.2.2.2.2.1,x.1.2.2.2.1)).bind fun y4=> some (y3.1,y4.1,y4.2,x.1,())) (some (y3.1,[],y3.2,x.1,()))) (cond (x.1.1==5) ((b2M (x.2,x.1.2.2.2.2.2.2.2.1)).bind fun y5=> some (x.2,y5.1,y5.2,x.1,())) (some (x.2,[],0,x.1,())))))).bind fun z6=> cond (z6.2.2.1 != 0) (some (z6.2.2.1,z6.2.2.2.1)) ((a9U (z6.2.2.2.1,(z6.1.length:Int))).bind fun y7=> cond ((decide (0≤y7))&&(decide (y7≤(z6.1.length:Int)))) ((a1F (a07 (a01 y7) z6.1)).bind fun y8=> some (0,z6.2.2.2.1.1,z6.2.2.2.1.2.1,z6.2.2.2.1.2.2.1,z6.2.2.2.1.2.2.2.1,z6.2.2.2.1.2.2.2.2.1,z6.2.2.2.1.2.2.2.2.2.1,z6.2.2.2.1.2.2.2.2.2.2.1,z6.2.2.2.1.2.2.2.2.2.2.2.1,y8,z6.2.2.2.1.2.2.2.2.2.2.2.2.2.1,z6.2.1,z6.2.2.2.1.2.2.2.2.2.2.2.2.2.2.2)) none)
def c3i:FSem:=⟨[.r false (.b Q19),.v QL],[.v QI],b4o⟩
def H28:Hints:=⟨[],[(15,[(.normal,[.sv 1 QL,.sv 5 QL,.sv 6 QI,.box pinned Q19,.ptr 0 pinned []])])],[(7,[.v,.p,.p,.q,.q,.p,.p,.q,.q,.x,.x,.q,.q,.q,.x]),(9,[.v,.p,.p,.q,.q,.p,.p,.q,.q,.x,.x,.q,.q,.q,.x]),(11,[.q,.p,.p,.q,.q,.p,.p,.q,.q,.x,.x,.q,.q,.q,.x])]⟩
def b1g(x:(Int×Int)):Option Bool:= cond (decide (1≤x.1)) (cond (decide (x.1≤4096)) (cond (decide (0≤x.2)) (some (decide (x.2≤x.1))) (some false)) (some false)) (some false)
def b8r:FSem:=⟨[.v QI,.v QI],[.v .bool],b1g⟩
def d9O:Hints:=⟨[],[],[]⟩
def b6B(s:Z14):Option Z66:= cond (decide (s.2.2.1<s.2.1)) ((a0r s.1 s.2.2.1).bind fun x3=> (show Option Z32 from cond (decide (x3<(-1073741824))) (some (s.1,s.2.1,s.2.2.1,true,())) (some (s.1,s.2.1,s.2.2.1,decide (x3≥1073741824),()))).bind fun z4=> cond z4.2.2.2.1 (some (.inr (Sum.inr ((false,()))))) (some (.inl (z4.1,z4.2.1,wrap .i64 (z4.2.2.1+1),())))) (some (.inr (Sum.inl ())))
def a8U(x:Z1):Option Bool:= (show Option Z7 from(b1g (x.1,x.2.1)).bind fun y1=> cond (!y1) (some (x.2.2,true,())) (some (x.2.2,(x.2.2.length:Int) != (wrap .i64 (x.1-x.2.1)),()))).bind fun z2=> cond z2.2.1 (some false) ((a0e b6B (z2.1,(z2.1.length:Int),0,())).bind fun w5=> match w5 with |.inl a6=>some true |.inr b7=>some b7.1)
def b5g:FSem:=⟨[.v QI,.v QI,.v QL],[.v .bool],a8U⟩
def H68:Hints:=⟨[(58,[.sv 21 QL,.sv 22 QI,.sv 23 QI],[(.exit 0,[]),(.ret,[.sv 6 .bool])])],[(6,[(.normal,[.sv 2 QL,.sv 20 .bool])]),(3737,[(.normal,[.sv 21 QL,.sv 22 QI,.sv 23 QI,.sv 32 .bool])])],[]⟩
def a8y(s:Z15):Option (Z15 ⊕ ((List Int)×Unit)):= cond (decide (s.1<0)) none (cond (decide ((s.2.2.1.length:Int)<(a0D .i64 1 s.1))) (cond (lim ((a03 s.2.2.1)+1)) (some (.inl (s.1,s.2.1,a04 s.2.2.1 [s.2.1],()))) none) (some (.inr (s.2.2.1,()))))
def a5s(x:(Int×Int×Int)):Option (List Int):= (show Option Z24 from(b1g (x.2.1,x.2.2)).bind fun y1=> cond (!y1) (some (x.1,x.2.1,x.2.2,true,())) (cond (decide (x.1<0)) (some (x.1,x.2.1,x.2.2,true,())) (some (x.1,x.2.1,x.2.2,decide (x.1 > 8),())))).bind fun z2=> cond z2.2.2.2.1 (some []) (cond (decide (z2.1<0)) none ((show Option Z24 from cond (decide (z2.1<0)) none (cond ((a0D .i64 (a0m .i64 z2.2.1 z2.1) z2.1) != z2.2.1) (some (z2.1,z2.2.2.1,a0m .i64 z2.2.1 z2.1,true,())) (some (z2.1,z2.2.2.1,a0m .i64 z2.2.1 z2.1,decide ((a0m .i64 z2.2.1 z2.1)<z2.2.2.1),())))).bind fun z3=> cond z3.2.2.2.1 (some []) ((a0e a8y (z3.1,z3.2.2.1,[wrap .i64 (z3.2.2.1-z3.2.1)],())).bind fun w4=> some w4.1)))
def a8V:FSem:=⟨[.v QI,.v QI,.v QI],[.o QI],a5s⟩
def H69:Hints:=⟨[(252,[.sv 0 QI,.sv 7 QI,.own 8 8 QI],[(.exit 0,[.own 8 8 QI])])],[(6,[(.normal,[.sv 0 QI,.sv 1 QI,.sv 2 QI,.sv 20 .bool])]),(30,[(.normal,[.sv 0 QI,.sv 2 QI,.sv 7 QI,.sv 33 .bool])])],[]⟩
def a6r(x:Int):Option Bool:= cond (decide (0≤x)) (some (decide (x≤25))) (some false)
def b2d:FSem:=⟨[.v QI],[.v .bool],a6r⟩
def d9P:Hints:=⟨[],[],[]⟩
def a9k(x:Int):Option Bool:= cond (decide ((-1073741824)≤x)) (some (decide (x<1073741824))) (some false)
def b4p:FSem:=⟨[.v QI],[.v .bool],a9k⟩
def d9Q:Hints:=⟨[],[],[]⟩
def b1h(x:Int):Option Int:= (a9k x).bind fun y1=> cond (!y1) (some 0) (cond (decide (x≥0)) (some (wrap .u64 (wrap .i64 (2*x)))) (some (wrap .u64 (wrap .i64 ((wrap .i64 ((-2)*x))-1)))))
def b8s:FSem:=⟨[.v QI],[.v (.int .u64)],b1h⟩
def d9R:Hints:=⟨[],[],[]⟩
def a9l(x:(Int×Int)):Option Int:= (show Option Z10 from(a6r x.1).bind fun y1=> cond (!y1) (some (x.1,x.2,true,())) ((a9k x.2).bind fun y2=> some (x.1,x.2,!y2,()))).bind fun z3=> cond z3.2.2.1 (some 0) ((b1h z3.2.1).bind fun y4=> cond (decide (z3.1<0)) none (cond (decide ((wrap .i64 (a0m .u64 y4 z3.1))<32)) (some (wrap .i64 ((wrap .i64 ((wrap .i64 (a0m .u64 y4 z3.1))+1))+z3.1))) (some 65)))
def c3j:FSem:=⟨[.v QI,.v QI],[.v QI],a9l⟩
def d9S:Hints:=⟨[],[(6,[(.normal,[.sv 0 QI,.sv 1 QI,.sv 13 .bool])])],[]⟩
def a5t(s:Z47):Option (Z47 ⊕ (Int×Unit)):= cond (decide (s.2.2.2.2.1<s.2.2.2.1)) ((a0r s.2.2.1 s.2.2.2.2.1).bind fun x1=> (a9l (s.1,x1)).bind fun y2=> some (.inl (s.1,wrap .i64 (s.2.1+y2),s.2.2.1,s.2.2.2.1,wrap .i64 (s.2.2.2.2.1+1),()))) (some (.inr (s.2.1,())))
def a4R(x:(Int×(List Int))):Option Int:= (a0e a5t (x.1,0,x.2,(x.2.length:Int),0,())).bind fun w3=> some w3.1
def b5K:FSem:=⟨[.v QI,.v QL],[.v QI],a4R⟩
def d9T:Hints:=⟨[(58,[.sv 0 QI,.sv 5 QI,.sv 8 QL,.sv 9 QI,.sv 10 QI],[(.exit 0,[.sv 5 QI])])],[],[]⟩
def a8e(s:Z31):Option (Z31 ⊕ (Int×Unit)):= cond (decide (s.2.2.2.1≤25)) ((a4R (s.2.2.2.1,s.1)).bind fun y2=> cond (decide (y2<s.2.2.1)) (some (.inl (s.1,s.2.2.2.1,y2,wrap .i64 (s.2.2.2.1+1),()))) (some (.inl (s.1,s.2.1,s.2.2.1,wrap .i64 (s.2.2.2.1+1),())))) (some (.inr (s.2.1,())))
def b4q(x:(List Int)):Option Int:= (a4R (0,x)).bind fun y1=> (a0e a8e (x,0,y1,1,())).bind fun w3=> some w3.1
def c3k:FSem:=⟨[.v QL],[.v QI],b4q⟩
def d9U:Hints:=⟨[(58,[.sv 0 QL,.sv 3 QI,.sv 4 QI,.sv 5 QI],[(.exit 0,[.sv 3 QI])])],[],[]⟩
def b6C(x:Int):Option Int:= (show Option (Int×Bool×Unit)from cond (decide (x<1)) (some (x,true,())) (some (x,decide (x > 31),()))).bind fun z1=> cond z1.2.1 (some 0) (cond (decide ((wrap .i64 (z1.1-1))<0)) none (some (a0D .i64 (-1) (wrap .i64 (z1.1-1)))))
def c1H:FSem:=⟨[.v QI],[.v QI],b6C⟩
def d9V:Hints:=⟨[],[(6,[(.normal,[.sv 0 QI,.sv 8 .bool])])],[]⟩
def b5h(x:Int):Option Int:= (show Option (Int×Bool×Unit)from cond (decide (x<1)) (some (x,true,())) (some (x,decide (x > 31),()))).bind fun z1=> cond z1.2.1 (some 0) (cond (decide ((wrap .i64 (z1.1-1))<0)) none (some (wrap .i64 ((a0D .i64 1 (wrap .i64 (z1.1-1)))-1))))
def c0D:FSem:=⟨[.v QI],[.v QI],b5h⟩
def d9W:Hints:=⟨[],[(6,[(.normal,[.sv 0 QI,.sv 8 .bool])])],[]⟩
def a6P(x:(Int×Int)):Option Bool:= cond (decide (x.2≥1)) (cond (decide (x.2≤31)) ((b6C x.2).bind fun y1=> cond (decide (y1≤x.1)) ((b5h x.2).bind fun y2=> some (decide (x.1≤y2))) (some false)) (some false)) (some false)
def b5i:FSem:=⟨[.v QI,.v QI],[.v .bool],a6P⟩
def d9X:Hints:=⟨[],[],[]⟩
def a4n(s:Z47):Option (Z47 ⊕ Z29):= cond (s.2.1 != 0) (cond (decide (s.1<32)) ((a6P (s.2.1,s.1)).bind fun y2=> cond (!y2) (some (.inl (wrap .i64 (s.1+1),s.2.1,s.2.2.1,s.2.2.2.1,s.2.2.2.2.1,()))) (some (.inr (s.1,s.2.2.1,s.2.2.2.1,s.2.2.2.2.1,())))) (some (.inr (s.1,s.2.2.1,s.2.2.2.1,s.2.2.2.2.1,())))) (some (.inr (s.1,s.2.2.1,s.2.2.2.1,s.2.2.2.2.1,())))
def a7L(s:Z29):Option (Z29 ⊕ (Int×Unit)):= cond (decide (s.2.2.2.1<s.2.2.1)) ((a0r s.2.1 s.2.2.2.1).bind fun x1=> (a0e a4n (s.1,x1,s.2.1,s.2.2.1,s.2.2.2.1,())).bind fun w3=> some (.inl (w3.1,w3.2.1,w3.2.2.1,wrap .i64 (w3.2.2.2.1+1),()))) (some (.inr (s.1,())))
def a4G(x:(List Int)):Option Int:= (a0e a7L (0,x,(x.length:Int),0,())).bind fun w4=> some w4.1
def a8f:FSem:=⟨[.v QL],[.v QI],a4G⟩
def H73:Hints:=⟨[(58,[.sv 3 QI,.sv 6 QL,.sv 7 QI,.sv 8 QI],[(.exit 0,[.sv 3 QI])]),(7474,[.sv 3 QI,.sv 5 QI,.sv 6 QL,.sv 7 QI,.sv 8 QI],[(.exit 2,[.sv 3 QI,.sv 6 QL,.sv 7 QI,.sv 8 QI])])],[],[]⟩
def a7H(x:(List Int)):Option Int:= (a4G x).bind fun y1=> some (wrap .i64 (5+(wrap .i64 (y1*(x.length:Int)))))
def b8t:FSem:=⟨[.v QL],[.v QI],a7H⟩
def d9Y:Hints:=⟨[],[],[]⟩
def b0t(x:(List Int)):Option Int:= (b4q x).bind fun y1=> (a7H x).bind fun y2=> (a4R (y1,x)).bind fun y3=> cond (decide (y2<y3)) (some 31) (some y1)
def b8Y:FSem:=⟨[.v QL],[.v QI],b0t⟩
def H70:Hints:=⟨[],[],[]⟩
def a4H(s:Z14):Option Z66:= cond (decide (s.2.2.1<s.2.1)) ((a0r s.1 s.2.2.1).bind fun x3=> (show Option Z32 from cond (decide (x3<0)) (some (s.1,s.2.1,s.2.2.1,x3 != 31,())) (cond (decide (x3 > 25)) (some (s.1,s.2.1,s.2.2.1,x3 != 31,())) (some (s.1,s.2.1,s.2.2.1,false,())))).bind fun z4=> cond z4.2.2.2.1 (some (.inr (Sum.inr ((false,()))))) (some (.inl (z4.1,z4.2.1,wrap .i64 (z4.2.2.1+1),())))) (some (.inr (Sum.inl ())))
def b1i(x:(Z3×Int×Int)):Option Bool:= (a5s (x.1.1,x.2.1,x.2.2)).bind fun y1=> (show Option Z38 from cond ((y1.length:Int)==0) (some (true,x.1,())) (some ((x.1.2.1.length:Int) != (y1.length:Int),x.1,()))).bind fun z2=> cond z2.1 (some false) ((a0e a4H (z2.2.1.2.1,(z2.2.1.2.1.length:Int),0,())).bind fun w5=> match w5 with |.inl a6=>some true |.inr b7=>some b7.1)
def b8u:FSem:=⟨[.v Q7,.v QI,.v QI],[.v .bool],b1i⟩
def H53:Hints:=⟨[(122,[.sv 27 QL,.sv 28 QI,.sv 29 QI],[(.exit 0,[]),(.ret,[.sv 6 .bool])])],[(14,[(.normal,[.sv 25 .bool,.vp 3 Q7])]),(7833,[(.normal,[.sv 27 QL,.sv 28 QI,.sv 29 QI,.sv 42 .bool])])],[]⟩
def a1Y(s:Z91):Option (Z91 ⊕ (Int×Unit)):= cond (decide (s.2.2.2.1<s.2.2.1)) (cond ((decide (0≤s.2.2.2.1))&&(decide (s.2.2.2.1<(s.2.2.2.2.1.length:Int)))) (cond ((decide (0≤(a02 s.2.2.2.2.1 (a01 s.2.2.2.1) 0)))&&(decide ((a02 s.2.2.2.2.1 (a01 s.2.2.2.1) 0)≤(s.1.length:Int)))) (cond ((decide (0≤(a02 s.2.2.2.2.1 (a01 s.2.2.2.1) 0)))&&(decide ((a02 s.2.2.2.2.1 (a01 s.2.2.2.1) 0)≤(s.1.length:Int)))) ((a0r s.2.2.2.2.2.1.2.1 s.2.2.2.1).bind fun x5=> cond (x5==31) ((a7H (a07 (a01 (a02 s.2.2.2.2.1 (a01 s.2.2.2.1) 0)) s.1)).bind fun y6=> some (.inl (a22 (a01 (a02 s.2.2.2.2.1 (a01 s.2.2.2.1) 0)) (a07 (a03 s.1) s.1),wrap .i64 (s.2.1+(wrap .i64 (5+y6))),s.2.2.1,wrap .i64 (s.2.2.2.1+1),s.2.2.2.2.1,s.2.2.2.2.2.1,()))) ((a0r s.2.2.2.2.2.1.2.1 s.2.2.2.1).bind fun x7=> (a4R (x7,a07 (a01 (a02 s.2.2.2.2.1 (a01 s.2.2.2.1) 0)) s.1)).bind fun y8=> some (.inl (a22 (a01 (a02 s.2.2.2.2.1 (a01 s.2.2.2.1) 0)) (a07 (a03 s.1) s.1),wrap .i64 (s.2.1+(wrap .i64 (5+y8))),s.2.2.1,wrap .i64 (s.2.2.2.1+1),s.2.2.2.2.1,s.2.2.2.2.2.1,())))) none) none) none) (some (.inr (s.2.1,())))
def a6s(x:Z58):Option Int:= (show Option (Int×(Int×((List Int)×Z38)))from(b1i (x.1,x.2.1,x.2.2.1)).bind fun y1=> cond (!y1) (some (x.2.1,x.2.2.1,x.2.2.2,true,x.1,())) ((a8U (x.2.1,x.2.2.1,x.2.2.2)).bind fun y2=> some (x.2.1,x.2.2.1,x.2.2.2,!y2,x.1,()))).bind fun z3=> cond z3.2.2.2.1 (some 0) ((a5s (z3.2.2.2.2.1.1,z3.1,z3.2.1)).bind fun y4=> (a0e a1Y (z3.2.2.1,4,(y4.length:Int),0,y4,z3.2.2.2.2.1,())).bind fun w9=> some w9.1)
def b6D:FSem:=⟨[.v Q7,.v QI,.v QI,.v QL],[.v QI],a6s⟩
def H71:Hints:=⟨[(122,[.sv 3 QL,.sv 9 QI,.sv 30 QI,.sv 31 QI,.own 29 1029 QI,.vp 4 Q7],[(.exit 0,[.sv 9 QI])])],[(6,[(.normal,[.sv 1 QI,.sv 2 QI,.sv 3 QL,.sv 24 .bool,.vp 4 Q7])])],[]⟩
def a9x(s:(Int×(Int×(Int×((List Int)×(Int×(Int×((List Int)×d2i)))))))):Option ((Int×(Int×(Int×((List Int)×(Int×(Int×((List Int)×d2i))))))) ⊕ (Int×(Int×(Int×((List Int)×(Int×Int×Z96)))))):= cond (decide (s.2.2.2.2.2.2.2.2.1<s.2.2.2.2.2.2.2.1)) (cond ((decide (0≤s.2.2.2.2.2.2.2.2.1))&&(decide (s.2.2.2.2.2.2.2.2.1<(s.2.2.2.2.2.2.2.2.2.1.length:Int)))) (cond ((decide (0≤(a02 s.2.2.2.2.2.2.2.2.2.1 (a01 s.2.2.2.2.2.2.2.2.1) 0)))&&(decide ((a02 s.2.2.2.2.2.2.2.2.2.1 (a01 s.2.2.2.2.2.2.2.2.1) 0)≤(s.2.2.2.2.2.2.1.length:Int)))) ((b0t (a07 (a01 (a02 s.2.2.2.2.2.2.2.2.2.1 (a01 s.2.2.2.2.2.2.2.2.1) 0)) s.2.2.2.2.2.2.1)).bind fun y3=> cond (lim ((a03 s.2.2.2.2.2.2.2.2.2.2.2.2.1.2.1)+1)) (cond ((decide (0≤(a02 s.2.2.2.2.2.2.2.2.2.1 (a01 s.2.2.2.2.2.2.2.2.1) 0)))&&(decide ((a02 s.2.2.2.2.2.2.2.2.2.1 (a01 s.2.2.2.2.2.2.2.2.1) 0)≤(s.2.2.2.2.2.2.1.length:Int)))) (some (.inl (s.1,s.2.1,s.2.2.1,s.2.2.2.1,s.2.2.2.2.1,s.2.2.2.2.2.1,a22 (a01 (a02 s.2.2.2.2.2.2.2.2.2.1 (a01 s.2.2.2.2.2.2.2.2.1) 0)) (a07 (a03 s.2.2.2.2.2.2.1) s.2.2.2.2.2.2.1),s.2.2.2.2.2.2.2.1,wrap .i64 (s.2.2.2.2.2.2.2.2.1+1),s.2.2.2.2.2.2.2.2.2.1,s.2.2.2.2.2.2.2.2.2.2.1,s.2.2.2.2.2.2.2.2.2.2.2.1,(s.2.2.2.2.2.2.2.2.2.2.2.2.1.1,a04 s.2.2.2.2.2.2.2.2.2.2.2.2.1.2.1 [y3],s.2.2.2.2.2.2.2.2.2.2.2.2.1.2.2),()))) none) none) none) none) (some (.inr (s.1,s.2.1,s.2.2.1,s.2.2.2.1,s.2.2.2.2.1,s.2.2.2.2.2.1,s.2.2.2.2.2.2.2.2.2.2.1,s.2.2.2.2.2.2.2.2.2.2.2.1,s.2.2.2.2.2.2.2.2.2.2.2.2.1,())))
def a3Z(s:d2h):Option (d2h ⊕ Z78):= cond (decide (s.2.2.2.2.2.1≤(a2d (a1r s.2.2.1 0) 8))) ((a5s (s.2.2.2.2.2.1,s.1,s.2.1)).bind fun y2=> cond ((y2.length:Int)==0) (some (.inl (s.1,s.2.1,s.2.2.1,s.2.2.2.1,s.2.2.2.2.1,wrap .i64 (s.2.2.2.2.2.1+1),s.2.2.2.2.2.2.1,s.2.2.2.2.2.2.2.1,()))) ((a0e a9x (s.1,s.2.1,s.2.2.1,s.2.2.2.1,s.2.2.2.2.1,s.2.2.2.2.2.1,s.2.2.2.1,(y2.length:Int),0,y2,s.2.2.2.2.2.2.1,s.2.2.2.2.2.2.2.1,(s.2.2.2.2.2.1,[],()),())).bind fun w4=> (a6s (w4.2.2.2.2.2.2.2.2.1,w4.1,w4.2.1,w4.2.2.2.1)).bind fun y5=> (show Option (Int×(Int×(Int×((List Int)×(Int×Int×Int×Bool×Z96)))))from cond (w4.2.2.2.2.1==0) (some (w4.1,w4.2.1,w4.2.2.1,w4.2.2.2.1,w4.2.2.2.2.1,w4.2.2.2.2.2.1,y5,true,w4.2.2.2.2.2.2.1,w4.2.2.2.2.2.2.2.1,w4.2.2.2.2.2.2.2.2.1,())) (some (w4.1,w4.2.1,w4.2.2.1,w4.2.2.2.1,w4.2.2.2.2.1,w4.2.2.2.2.2.1,y5,decide (y5<w4.2.2.2.2.1),w4.2.2.2.2.2.2.1,w4.2.2.2.2.2.2.2.1,w4.2.2.2.2.2.2.2.2.1,()))).bind fun z6=> cond z6.2.2.2.2.2.2.2.1 (some (.inl (z6.1,z6.2.1,z6.2.2.1,z6.2.2.2.1,z6.2.2.2.2.2.2.1,wrap .i64 (z6.2.2.2.2.2.1+1),z6.2.2.2.2.2.2.2.2.1,z6.2.2.2.2.2.2.2.2.2.2.1,()))) (some (.inl (z6.1,z6.2.1,z6.2.2.1,z6.2.2.2.1,z6.2.2.2.2.1,wrap .i64 (z6.2.2.2.2.2.1+1),z6.2.2.2.2.2.2.2.2.1,z6.2.2.2.2.2.2.2.2.2.1,()))))) (some (.inr (s.2.2.2.2.2.2.1,s.2.2.2.2.2.2.2.1,())))
def b2N(x:(Int×Z1)):Option (Z3×Int):= (a8U (x.1,x.2.1,x.2.2.2)).bind fun y1=> cond (!y1) (some ((0,[],()),1)) ((a0e a3Z (x.1,x.2.1,x.2.2.1,x.2.2.2,0,0,(0,[],()),(0,[],()),())).bind fun w7=> some (w7.2.1,0))
def c1I:FSem:=⟨[.v QI,.v QI,.v QI,.v QL],[.v Q7,.v QI],b2N⟩
def H29:Hints:=⟨[(250,[.sv 0 QI,.sv 1 QI,.sv 2 QI,.sv 3 QL,.sv 11 QI,.sv 12 QI,.box 8 Q7,.box 10 Q7,.ptr 8 8 [],.ptr 10 10 []],[(.exit 0,[.box 8 Q7,.box 10 Q7,.ptr 8 8 [],.ptr 10 10 []])]),(512634,[.sv 0 QI,.sv 1 QI,.sv 2 QI,.sv 3 QL,.sv 11 QI,.sv 12 QI,.sv 15 QL,.sv 43 QI,.sv 44 QI,.own 42 13 QI,.box 8 Q7,.box 10 Q7,.box 14 Q6,.ptr 8 8 [],.ptr 10 10 [],.ptr 14 14 []],[(.exit 2,[.sv 0 QI,.sv 1 QI,.sv 2 QI,.sv 3 QL,.sv 11 QI,.sv 12 QI,.box 8 Q7,.box 10 Q7,.box 14 Q6,.ptr 8 8 [],.ptr 10 10 [],.ptr 14 14 []])])],[(256319,[(.normal,[.sv 0 QI,.sv 1 QI,.sv 2 QI,.sv 3 QL,.sv 11 QI,.sv 12 QI,.sv 18 QI,.sv 72 .bool,.box 8 Q7,.box 10 Q7,.box 14 Q7,.ptr 8 8 [],.ptr 10 10 [],.ptr 14 14 []])])],[(15,[.q,.q,.v,.v,.v,.v,.q,.x,.x,.x])]⟩
def a6Q(s:((List Int)×((List Int)×d2q))):Option (((List Int)×((List Int)×d2q)) ⊕ (((List Int)×b3Q) ⊕ (Int×c1C))):= cond (decide (s.2.2.2.1<s.2.2.1)) ((a0r s.2.1 s.2.2.2.1).bind fun x5=> (a0r s.1 0).bind fun x6=> cond (x5 != x6) (some (.inr (Sum.inr ((7,(0,0,0,0,0,[],a00 3 0,[],[],(0,[],()),[],()),()))))) (some (.inl (s.1,s.2.1,s.2.2.1,wrap .i64 (s.2.2.2.1+1),s.2.2.2.2.1,s.2.2.2.2.2.1,())))) (some (.inr (Sum.inl (s.1,s.2.2.2.2.1,s.2.2.2.2.2.1,()))))
def b2O(x:(Int×((List Int)×a2c))):Option a9T:= (show Option (Int×((List Int)×(Int×Bool×b3Q)))from cond (decide ((x.2.1.length:Int)<1)) (some (x.1,x.2.1,(x.2.1.length:Int),true,(0,0,0,0,0,[],a00 3 0,[],[],(0,[],()),[],()),x.2.2,())) (cond (decide ((x.2.1.length:Int) > 4096)) (some (x.1,x.2.1,(x.2.1.length:Int),true,(0,0,0,0,0,[],a00 3 0,[],[],(0,[],()),[],()),x.2.2,())) ((b4P (x.1,x.2.2,(x.2.1.length:Int))).bind fun y1=> some (x.1,x.2.1,(x.2.1.length:Int),!y1,(0,0,0,0,0,[],a00 3 0,[],[],(0,[],()),[],()),x.2.2,())))).bind fun z2=> cond z2.2.2.2.1 (some ((0,0,0,0,0,[],a00 3 0,[],[],(0,[],()),[],()),1)) ((a2P z2.2.1).bind fun y3=> cond (!y3) (some ((0,0,0,0,0,[],a00 3 0,[],[],(0,[],()),[],()),6)) ((a8b (z2.1,z2.2.2.2.2.2.1)).bind fun y4=> cond (z2.1==0) ((a0e a6Q (z2.2.1,z2.2.1,(z2.2.1.length:Int),0,z2.2.2.2.2.1,y4,())).bind fun w7=> match w7 with |.inl a8=>((a0r a8.1 0).bind fun x10=> some ((a8.2.2.1.1,a8.2.2.1.2.1,a8.2.2.1.2.2.1,a8.2.2.1.2.2.2.1,a8.2.2.1.2.2.2.2.1,a8.2.2.1.2.2.2.2.2.1,a8.2.2.1.2.2.2.2.2.2.1,a8.2.2.1.2.2.2.2.2.2.2.1,[x10],a8.2.2.1.2.2.2.2.2.2.2.2.2),0)) |.inr b9=>some (b9.2.1,b9.1)) ((a5j z2.2.1).bind fun y11=> (a8R (z2.2.1,y11)).bind fun y12=> cond (y12.2 != 0) (some ((0,0,0,0,0,[],a00 3 0,[],[],(0,[],()),[],()),6)) (cond (z2.1==1) (some ((y4.1,y11,y4.2.2.1,y4.2.2.2.1,y4.2.2.2.2.1,y4.2.2.2.2.2.1,y4.2.2.2.2.2.2.1,y4.2.2.2.2.2.2.2.1,y12.1,y4.2.2.2.2.2.2.2.2.2),0)) ((b4o ((y4.1,y11,y4.2.2),y12.1)).bind fun y13=> cond (y13.1 != 0) (some ((0,0,0,0,0,[],a00 3 0,[],[],(0,[],()),[],()),6)) ((b2N (z2.2.2.1,(y13.2.2.2.2.2.2.2.2.2.1.length:Int),6,y13.2.2.2.2.2.2.2.2.2.2.2.1)).bind fun y14=> cond (y14.2 != 0) (some ((0,0,0,0,0,[],a00 3 0,[],[],(0,[],()),[],()),6)) (some ((y13.2.1,y13.2.2.1,y13.2.2.2.1,y13.2.2.2.2.1,y13.2.2.2.2.2.1,y13.2.2.2.2.2.2.1,y13.2.2.2.2.2.2.2.1,y13.2.2.2.2.2.2.2.2.1,y13.2.2.2.2.2.2.2.2.2.1,y14.1,y13.2.2.2.2.2.2.2.2.2.2.2),0))))))))
def b9Q:FSem:=⟨[.v QI,.v QL,.v Q19],[.v Q19,.v QI],b2O⟩
def H10:Hints:=⟨[(4050,[.sv 1 QL,.sv 39 QL,.sv 40 QI,.sv 41 QI,.box 6 Q19,.box 9 Q19,.ptr 6 6 [],.ptr 9 9 []],[(.exit 0,[.sv 1 QL,.box 6 Q19,.box 9 Q19,.ptr 6 6 [],.ptr 9 9 []]),(.ret,[.sv 7 QI,.box 6 Q19,.ptr 6 6 []])])],[(14,[(.normal,[.sv 0 QI,.sv 1 QL,.sv 8 QI,.sv 28 .bool,.box 6 Q19,.vp 5 Q19,.ptr 6 6 []])])],[]⟩
def a9V(x:Int):Option Bool:= cond (x != 0) (some (x != 1)) (some false)
def b6E:FSem:=⟨[.v QI],[.v .bool],a9V⟩
def H52:Hints:=⟨[],[],[]⟩
def b4r(x:a2c):Option Bool:= (a8b (x.1,x)).bind fun y1=> cond (x.2.2.1==y1.2.2.1) (cond (x.2.2.2.1==y1.2.2.2.1) (cond (x.2.2.2.2.1==y1.2.2.2.2.1) (cond (eqT (.arr 3 (.int .i64)) x.2.2.2.2.2.2.1 y1.2.2.2.2.2.2.1) (cond ((x.2.2.2.2.2.1.length:Int)==(y1.2.2.2.2.2.1.length:Int)) (some ((x.2.2.2.2.2.2.2.1.length:Int)==(y1.2.2.2.2.2.2.2.1.length:Int))) (some false)) (some false)) (some false)) (some false)) (some false)
def c3l:FSem:=⟨[.v Q19],[.v .bool],b4r⟩
def H50:Hints:=⟨[],[],[]⟩
def b2P(x:a9T):Option Bool:= (show Option c1D from cond (decide (x.2<1)) (some (x.2,true,x.1,())) (cond (decide (x.2 > 4096)) (some (x.2,true,x.1,())) ((b4P (x.1.1,x.1,x.2)).bind fun y1=> cond (!y1) (some (x.2,true,x.1,())) ((b4r x.1).bind fun y2=> some (x.2,!y2,x.1,()))))).bind fun z3=> cond z3.2.1 (some false) ((show Option c1D from cond (decide (z3.2.2.1.2.1<0)) (some (z3.1,true,z3.2.2.1,())) (cond (decide (z3.2.2.1.2.1 > 30)) (some (z3.1,true,z3.2.2.1,())) (cond (z3.2.2.1.1==0) (some (z3.1,z3.2.2.1.2.1 != 0,z3.2.2.1,())) (some (z3.1,false,z3.2.2.1,()))))).bind fun z4=> cond z4.2.1 (some false) ((a9U (z4.2.2.1,z4.1)).bind fun y5=> (show Option d2l from cond ((z4.2.2.1.2.2.2.2.2.2.2.2.1.length:Int) != y5) (some (z4.1,y5,true,z4.2.2.1,())) ((a2P z4.2.2.1.2.2.2.2.2.2.2.2.1).bind fun y6=> cond (!y6) (some (z4.1,y5,true,z4.2.2.1,())) ((a2P z4.2.2.1.2.2.2.2.2.2.2.2.2.2.1).bind fun y7=> some (z4.1,y5,!y7,z4.2.2.1,())))).bind fun z8=> cond z8.2.2.1 (some false) ((a9V z8.2.2.2.1.1).bind fun y9=> cond (!y9) (cond ((z8.2.2.2.1.2.2.2.2.2.2.2.2.2.2.1.length:Int)==0) (cond (z8.2.2.2.1.2.2.2.2.2.2.2.2.2.1.1==0) (some ((z8.2.2.2.1.2.2.2.2.2.2.2.2.2.1.2.1.length:Int)==0)) (some false)) (some false)) (cond ((z8.2.2.2.1.2.2.2.2.2.2.2.2.2.2.1.length:Int)==(wrap .i64 (z8.1-z8.2.1))) ((b1i (z8.2.2.2.1.2.2.2.2.2.2.2.2.2.1,z8.1,z8.2.1)).bind fun y10=> some y10) (some false)))))
def c1J:FSem:=⟨[.v Q19,.v QI],[.v .bool],b2P⟩
def H22:Hints:=⟨[],[(6,[(.normal,[.sv 1 QI,.sv 24 .bool,.vp 2 Q19])]),(14,[(.normal,[.sv 1 QI,.sv 42 .bool,.vp 2 Q19])]),(62,[(.normal,[.sv 1 QI,.sv 5 QI,.sv 62 .bool,.vp 2 Q19])])],[]⟩
def a1w(x:(Int×(List Int))):Option (Int×(List Int)):= (a0r x.2 (wrap .i64 ((x.2.length:Int)-x.1))).bind fun x1=> some (x1,x.2)
def b7w:FSem:=⟨[.v QI,.r false (.b QL)],[.v QI],a1w⟩
def d9Z:Hints:=⟨[],[],[]⟩
def b1C(x:((List Int)×Int)):Option Int:= cond (x.2==1) ((a1w (1,x.1)).bind fun y1=> some y1.1) (cond (x.2==2) ((a1w (1,x.1)).bind fun y2=> (a1w (2,y2.2)).bind fun y3=> some (wrap .i64 ((wrap .i64 (2*y2.1))-y3.1))) (cond (x.2==3) ((a1w (1,x.1)).bind fun y4=> (a1w (2,y4.2)).bind fun y5=> (a1w (3,y5.2)).bind fun y6=> some (wrap .i64 ((wrap .i64 ((wrap .i64 (3*y4.1))-(wrap .i64 (3*y5.1))))+y6.1))) (cond (x.2==4) ((a1w (1,x.1)).bind fun y7=> (a1w (2,y7.2)).bind fun y8=> (a1w (3,y8.2)).bind fun y9=> (a1w (4,y9.2)).bind fun y10=> some (wrap .i64 ((wrap .i64 ((wrap .i64 ((wrap .i64 (4*y7.1))-(wrap .i64 (6*y8.1))))+(wrap .i64 (4*y9.1))))-y10.1))) (some 0))))
def c0E:FSem:=⟨[.v QL,.v QI],[.v QI],b1C⟩
def e0a:Hints:=⟨[],[],[]⟩
def a9y(s:Z57):Option (Z57 ⊕ Z45):= cond (decide (s.2.2.2.1<s.2.2.1)) ((a0r s.2.1 s.2.2.2.1).bind fun x5=> (b1C (s.2.2.2.2.1,s.1)).bind fun y6=> (a3n [wrap .i64 (x5+y6)]).bind fun y7=> cond (!y7) (some (.inr (Sum.inr ((6,[],()))))) (cond (lim ((a03 s.2.2.2.2.1)+1)) (some (.inl (s.1,s.2.1,s.2.2.1,wrap .i64 (s.2.2.2.1+1),a04 s.2.2.2.2.1 [wrap .i64 (x5+y6)],()))) none)) (some (.inr (Sum.inl (s.2.2.2.2.1,()))))
def b2Q(x:Z11):Option ((List Int)×Int):= (show Option Z48 from cond (decide (x.2.2<0)) (some (x.1,x.2.1,x.2.2,true,())) (cond (decide (x.2.2 > 4)) (some (x.1,x.2.1,x.2.2,true,())) (some (x.1,x.2.1,x.2.2,(x.1.length:Int) != x.2.2,())))).bind fun z1=> cond z1.2.2.2.1 (some ([],1)) ((show Option Z48 from(a3n z1.1).bind fun y2=> cond (!y2) (some (z1.1,z1.2.1,z1.2.2.1,true,())) ((a3n z1.2.1).bind fun y3=> some (z1.1,z1.2.1,z1.2.2.1,!y3,()))).bind fun z4=> cond z4.2.2.2.1 (some ([],6)) (cond (lim (a03 z4.1)) ((a0e a9y (z4.2.2.1,z4.2.1,(z4.2.1.length:Int),0,z4.1,())).bind fun w8=> match w8 with |.inl a9=>some (a9.1,0) |.inr b10=>some (b10.2.1,b10.1)) none))
def c1K:FSem:=⟨[.v QL,.v QL,.v QI],[.o QI,.v QI],b2Q⟩
def H54:Hints:=⟨[(250,[.sv 2 QI,.sv 34 QL,.sv 35 QI,.sv 36 QI,.own 8 8 QI],[(.exit 0,[.own 8 8 QI]),(.ret,[.sv 7 QI,.own 6 6 QI])])],[(6,[(.normal,[.sv 0 QL,.sv 1 QL,.sv 2 QI,.sv 23 .bool])]),(14,[(.normal,[.sv 0 QL,.sv 1 QL,.sv 2 QI,.sv 31 .bool])])],[]⟩
def a8z(s:Z81):Option (Z81 ⊕ Z45):= cond (decide (s.2.2.2.2.1<s.2.2.2.1)) ((a0r s.2.2.1 s.2.2.2.2.1).bind fun x6=> (a6p (s.2.2.2.2.2.1,s.1,s.2.1)).bind fun y7=> (a6O (wrap .i64 (y7+x6))).bind fun y8=> cond (!y8) (some (.inr (Sum.inr ((6,[],()))))) (cond (lim ((a03 s.2.2.2.2.2.1)+1)) (some (.inl (s.1,s.2.1,s.2.2.1,s.2.2.2.1,wrap .i64 (s.2.2.2.2.1+1),a04 s.2.2.2.2.2.1 [wrap .i64 (y7+x6)],()))) none)) (some (.inr (Sum.inl (s.2.2.2.2.2.1,()))))
def a8W(x:((List Int)×Z11)):Option ((List Int)×Int):= (show Option Z73 from(a6o (x.2.2.1,x.2.2.2)).bind fun y1=> cond (!y1) (some (x.1,x.2.1,x.2.2.1,x.2.2.2,true,())) (some (x.1,x.2.1,x.2.2.1,x.2.2.2,(x.1.length:Int) != (x.2.2.1.length:Int),()))).bind fun z2=> cond z2.2.2.2.2.1 (some ([],1)) ((show Option Z73 from(a3w z2.1).bind fun y3=> cond (!y3) (some (z2.1,z2.2.1,z2.2.2.1,z2.2.2.2.1,true,())) ((a3w z2.2.1).bind fun y4=> some (z2.1,z2.2.1,z2.2.2.1,z2.2.2.2.1,!y4,()))).bind fun z5=> cond z5.2.2.2.2.1 (some ([],6)) (cond ((decide (0≤(wrap .i64 ((z5.1.length:Int)+(z5.2.1.length:Int)))))&&(lim (a01 (wrap .i64 ((z5.1.length:Int)+(z5.2.1.length:Int)))))) (cond (lim (0+(a03 z5.1))) ((a0e a8z (z5.2.2.1,z5.2.2.2.1,z5.2.1,(z5.2.1.length:Int),0,a04 [] z5.1,())).bind fun w9=> match w9 with |.inl a10=>some (a10.1,0) |.inr b11=>some (b11.2.1,b11.1)) none) none))
def c0F:FSem:=⟨[.v QL,.v QL,.v QL,.v QI],[.o QI,.v QI],a8W⟩
def H55:Hints:=⟨[(506,[.sv 2 QL,.sv 3 QI,.sv 42 QL,.sv 43 QI,.sv 44 QI,.own 10 10 QI],[(.exit 0,[.own 10 10 QI]),(.ret,[.sv 9 QI,.own 8 8 QI])])],[(6,[(.normal,[.sv 0 QL,.sv 1 QL,.sv 2 QL,.sv 3 QI,.sv 24 .bool])]),(14,[(.normal,[.sv 0 QL,.sv 1 QL,.sv 2 QL,.sv 3 QI,.sv 32 .bool])])],[]⟩
def b0u(s:Z80):Option (Z80 ⊕ Z45):= cond (decide (s.2.2.2.1<s.2.2.1)) ((a0r s.2.1 s.2.2.2.1).bind fun x3=> (a6e (s.2.2.2.2.1,s.2.2.2.1,s.1,s.2.2.2.2.2.1)).bind fun y4=> (a9i (wrap .i64 (x3+y4))).bind fun y5=> cond (!y5) (some (.inr (Sum.inr ((6,[],()))))) (cond (lim ((a03 s.2.2.2.2.1)+1)) (some (.inl (s.1,s.2.1,s.2.2.1,wrap .i64 (s.2.2.2.1+1),a04 s.2.2.2.2.1 [wrap .i64 (x3+y4)],s.2.2.2.2.2.1,()))) none)) (some (.inr (Sum.inl (s.2.2.2.2.1,()))))
def b4s(x:Z12):Option ((List Int)×Int):= (b0r (x.2.1,x.2.2)).bind fun y1=> cond (!y1) (some ([],1)) ((a6d x.1).bind fun y2=> cond (!y2) (some ([],6)) (cond ((decide (0≤(x.1.length:Int)))&&(lim (a01 (x.1.length:Int)))) ((a0e b0u (x.2.1,x.1,(x.1.length:Int),0,[],x.2.2,())).bind fun w6=> match w6 with |.inl a7=>some (a7.1,0) |.inr b8=>some (b8.2.1,b8.1)) none))
def c3m:FSem:=⟨[.v QL,.v QI,.v (.arr 3 QI)],[.o QI,.v QI],b4s⟩
def H56:Hints:=⟨[(250,[.sv 1 QI,.sv 22 QL,.sv 23 QI,.sv 24 QI,.own 8 8 QI,.vp 5 (.arr 3 QI)],[(.exit 0,[.own 8 8 QI]),(.ret,[.sv 7 QI,.own 6 6 QI])])],[],[]⟩
def a7j(s:(Int×(Int×((List Int)×Z83)))):Option ((Int×(Int×((List Int)×Z83))) ⊕ (Z28 ⊕ Z28)):= cond (decide (s.2.1<s.1)) (cond ((decide (0≤s.2.1))&&(decide (s.2.1<(s.2.2.2.2.1.length:Int)))) ((a2S s.2.2.2.2.2.1).bind fun y6=> (a8d (wrap .i64 (y6.1+(a02 s.2.2.2.2.1 (a01 s.2.1) 0)))).bind fun y7=> cond (!y7) (some (.inr (Sum.inr (([],6,s.2.2.2.2.1,()))))) ((a4A (y6.2,wrap .i64 (y6.1+(a02 s.2.2.2.2.1 (a01 s.2.1) 0)))).bind fun y8=> cond ((decide (0≤s.2.1))&&(decide (s.2.1<(s.2.2.2.2.1.length:Int)))) (some (.inl (s.1,wrap .i64 (s.2.1+1),s.2.2.1,s.2.2.2.1,a05 s.2.2.2.2.1 (a01 s.2.1) (wrap .i64 (y6.1+(a02 s.2.2.2.2.1 (a01 s.2.1) 0))),y8,()))) none)) none) (some (.inr (Sum.inl (s.2.2.1,s.2.2.2.1,s.2.2.2.2.1,()))))
def a9z(k:Int)(v:(Int×Int×Unit))(s:(Z5×Z28)):Option ((Z5×Z28) ⊕ (Ex×Z5×Z28)):= (b1f v).bind fun y4=> cond (y4.2 != 0) (some (.inr (.ret,s.1,[],y4.2,s.2.2.2.1,()))) ((a0e a7j ((s.2.2.2.1.length:Int),0,s.2.1,s.2.2.1,s.2.2.2.1,y4.1,())).bind fun w9=> match w9 with |.inl a10=>some (.inl (s.1,a10.1,a10.2.1,a10.2.2.1,())) |.inr b11=>some (.inr (.ret,s.1,b11.1,b11.2.1,b11.2.2.1,())))
def b2R(x:Z27):Option ((List Int)×Int):= (a9h x.2).bind fun y1=> cond (!y1) (some ([],1)) ((a7f x.1).bind fun y2=> cond (!y2) (some ([],6)) ((a1F x.1).bind fun y3=> cond (lim (a03 x.2)) ((b4j a9z x.2 (a03 x.2) (x.2,[],0,y3,())).bind fun w12=> match w12 with |.inl a13=>some (a13.2.2.2.1,0) |.inr (.normal,a14)=>some (a14.2.2.2.1,0) |.inr (.exit e15,a14)=>(cond (e15==0) (some (a14.2.2.2.1,0)) none) |.inr (.ret,a14)=>some (a14.2.1,a14.2.2.1)) none))
def a9W:FSem:=⟨[.v QL,.v (.list false Q4)],[.v QL,.v QI],b2R⟩
def H57:Hints:=⟨[(8046,[.sv 35 QI,.sv 36 QI,.box 1001004 QL,.box 1001005 QI,.box 1001006 (.list true QI),.box 1028 Q9,.ptr 4 1001004 [],.ptr 5 1001005 [],.ptr 6 1001006 [],.ptr 9 1028 [],.ref 34 1001006 []],[(.exit 2,[.box 1001004 QL,.box 1001005 QI,.box 1001006 (.list true QI),.ptr 4 1001004 [],.ptr 5 1001005 [],.ptr 6 1001006 []]),(.ret,[.box 1001004 QL,.box 1001005 QI,.box 1001006 (.list true QI),.ptr 4 1001004 [],.ptr 5 1001005 [],.ptr 6 1001006 []])])],[],[]⟩
def d7C:Cx:=c4b [(61,b4l),(62,a1m),(113,b2K),(115,b8q),(116,a5N),(117,b2J),(118,a9t)] [(6,.list true QI)] [0,1,9,10,11,12,13] [56]
def R57:HintR:=⟨22,Q4,114,149,[4,5,6],[.sv 22 (.list false Q4),.box 1001004 QL,.box 1001005 QI,.box 1001006 (.list true QI),.ptr 4 1001004 [],.ptr 5 1001005 [],.ptr 6 1001006 []]⟩
theorem e0b(x):d2b d7C H57 R57 Tryz.f57 a9W.ps a9W.rs x=a9W.F x:=by kernel_rfl
def b0v(s:Z57):Option (Z57 ⊕ Z45):= cond (decide (s.2.2.2.1<s.2.2.1)) ((a0r s.2.1 s.2.2.2.1).bind fun x2=> (show Option (Int×Int×Z62)from(a6M x2).bind fun y3=> cond (!y3) (some (s.1,x2,s.2.1,s.2.2.1,s.2.2.2.1,true,s.2.2.2.2.1,())) (cond (decide (s.1<0)) none ((a6M (a0D .i64 x2 s.1)).bind fun y4=> some (s.1,x2,s.2.1,s.2.2.1,s.2.2.2.1,!y4,s.2.2.2.2.1,())))).bind fun z5=> cond z5.2.2.2.2.2.1 (some (.inr (Sum.inr ((6,[],()))))) (cond (decide (z5.1<0)) none (cond (lim ((a03 z5.2.2.2.2.2.2.1)+1)) (some (.inl (z5.1,z5.2.2.1,z5.2.2.2.1,wrap .i64 (z5.2.2.2.2.1+1),a04 z5.2.2.2.2.2.2.1 [a0D .i64 z5.2.1 z5.1],()))) none))) (some (.inr (Sum.inl (s.2.2.2.2.1,()))))
def b1j(x:((List Int)×Int)):Option ((List Int)×Int):= (show Option Z18 from cond (decide (x.2<0)) (some (x.1,x.2,true,())) (some (x.1,x.2,decide (x.2 > 30),()))).bind fun z1=> cond z1.2.2.1 (some ([],1)) ((a0e b0v (z1.2.1,z1.1,(z1.1.length:Int),0,[],())).bind fun w6=> match w6 with |.inl a7=>some (a7.1,0) |.inr b8=>some (b8.2.1,b8.1))
def c3n:FSem:=⟨[.v QL,.v QI],[.o QI,.v QI],b1j⟩
def H58:Hints:=⟨[(122,[.sv 1 QI,.sv 15 QL,.sv 16 QI,.sv 17 QI,.own 6 6 QI],[(.exit 0,[.own 6 6 QI]),(.ret,[.sv 5 QI,.own 4 4 QI])])],[(6,[(.normal,[.sv 0 QL,.sv 1 QI,.sv 14 .bool])]),(15666,[(.normal,[.sv 1 QI,.sv 8 QI,.sv 15 QL,.sv 16 QI,.sv 17 QI,.sv 30 .bool,.own 6 6 QI])])],[]⟩
def a8X(s:d2n):Option (d2n ⊕ ((List Int)×Unit)):= cond (decide (s.2.1<s.1)) ((a0r s.2.2.2.1.2.2.2.2.2.2.2.2.1 0).bind fun x1=> cond (lim ((a03 s.2.2.1)+1)) (some (.inl (s.1,wrap .i64 (s.2.1+1),a04 s.2.2.1 [x1],s.2.2.2.1,()))) none) (some (.inr (s.2.2.1,())))
def b5L(x:a9T):Option ((List Int)×Int):= (show Option (((List Int)×(Int×c1C)) ⊕ Z3)from cond (x.1.1==0) ((a0e a8X (x.2,0,[],x.1,())).bind fun w2=> some (Sum.inr ((0,w2.1,())))) (cond (x.1.1==1) (some (Sum.inl (x.1.2.2.2.2.2.2.2.2.1,0,x.1,()))) (cond (x.1.1==2) ((b2Q (x.1.2.2.2.2.2.2.2.2.1,x.1.2.2.2.2.2.2.2.2.2.2.1,x.1.2.2.1)).bind fun y3=> some (Sum.inl (y3.1,y3.2,x.1,()))) (cond (x.1.1==3) ((a8W (x.1.2.2.2.2.2.2.2.2.1,x.1.2.2.2.2.2.2.2.2.2.2.1,x.1.2.2.2.2.2.1,x.1.2.2.2.1)).bind fun y4=> some (Sum.inl (y4.1,y4.2,x.1,()))) (cond (x.1.1==4) ((a8W (x.1.2.2.2.2.2.2.2.2.1,x.1.2.2.2.2.2.2.2.2.2.2.1,x.1.2.2.2.2.2.1,x.1.2.2.2.1)).bind fun y5=> cond (y5.2==0) ((b4s (y5.1,x.1.2.2.2.2.1,x.1.2.2.2.2.2.2.1)).bind fun y6=> some (Sum.inl (y6.1,y6.2,x.1,()))) (some (Sum.inl (y5.1,y5.2,x.1,())))) (cond (x.1.1==5) ((b2R (x.1.2.2.2.2.2.2.2.2.2.2.1,x.1.2.2.2.2.2.2.2.1)).bind fun y7=> some (Sum.inl (y7.1,y7.2,x.1,()))) (some (Sum.inl ([],0,x.1,()))))))))).bind fun z8=> match z8 with |.inl a9=>(cond (a9.2.1 != 0) (some ([],a9.2.1)) ((b1j (a9.1,a9.2.2.1.2.1)).bind fun y11=> some (y11.1,y11.2))) |.inr b10=>some (b10.2.1,b10.1)
def c5g:FSem:=⟨[.v Q19,.v QI],[.o QI,.v QI],b5L⟩
def H23:Hints:=⟨[(3922,[.sv 12 QI,.sv 13 QI,.own 6 6 QI,.vp 2 Q19],[(.exit 1,[.own 6 6 QI])])],[(15,[(.normal,[.sv 6 QL,.sv 7 QI,.vp 2 Q19]),(.ret,[.sv 5 QI,.own 4 6 QI])])],[]⟩
def b2o(x:a9T):Option ((List Int)×Int):= (b2P (x.1,x.2)).bind fun y1=> cond (!y1) (some ([],1)) ((b5L (x.1,x.2)).bind fun y2=> cond (y2.2 != 0) (some ([],1)) (some (y2.1,0)))
def b7x:FSem:=⟨[.v Q19,.v QI],[.o QI,.v QI],b2o⟩
def H7:Hints:=⟨[],[],[]⟩
def b7y(x:a9T):Option Bool:= (b2o (x.1,x.2)).bind fun y1=> some (y1.2==0)
def c7k:FSem:=⟨[.v Q19,.v QI],[.v .bool],b7y⟩
def H72:Hints:=⟨[],[],[]⟩
def a4o(x:(Z4×Int)):Option Z4:= (show Option Z34 from cond ((a26 x.1.2.1 8)==0) (cond (lim ((a03 x.1.1)+1)) (some (x.2,(a04 x.1.1 [0],x.1.2),())) none) (some (x.2,x.1,()))).bind fun z1=> cond ((decide (0≤(wrap .i64 (a23 z1.2.1.2.1 8))))&&(decide ((wrap .i64 (a23 z1.2.1.2.1 8))<(z1.2.1.1.length:Int)))) (cond (decide ((wrap .i64 (7-(a26 z1.2.1.2.1 8)))<0)) none (cond ((decide (0≤(wrap .i64 (a23 z1.2.1.2.1 8))))&&(decide ((wrap .i64 (a23 z1.2.1.2.1 8))<(z1.2.1.1.length:Int)))) (some (a05 z1.2.1.1 (a01 (wrap .i64 (a23 z1.2.1.2.1 8))) (bits .u8 .or (a02 z1.2.1.1 (a01 (wrap .i64 (a23 z1.2.1.2.1 8))) 0) (a0D .u8 z1.1 (wrap .i64 (7-(a26 z1.2.1.2.1 8))))),wrap .i64 (z1.2.1.2.1+1),z1.2.1.2.2)) none)) none
def b0U:FSem:=⟨[.r false (.b Q5),.v (.int .u8)],[],a4o⟩
def e0c:Hints:=⟨[],[(1,[(.normal,[.sv 1 (.int .u8),.box pinned Q5,.ptr 0 pinned []])])],[(2,[.p,.p,.q,.q,.p,.p,.q,.q,.v,.q,.q,.v,.p,.p,.q,.q,.v,.v,.v,.x,.x,.x])]⟩
def a5O(s:Z52):Option (Z52 ⊕ Z20):= cond (decide (s.2.1≥0)) (cond (decide (s.2.1<0)) none ((a4o (s.2.2.1,wrap .u8 (bits .u64 .and (a0m .u64 s.1 s.2.1) 1))).bind fun y2=> some (.inl (s.1,wrap .i64 (s.2.1-1),y2,())))) (some (.inr (s.2.2.1,())))
def a0n(x:(Z4×Int×Int)):Option Z16:= (show Option (Int×Int×Bool×Z20)from cond (decide (x.2.2<0)) (some (x.2.1,x.2.2,true,x.1,())) (cond (decide (x.2.2 > 64)) (some (x.2.1,x.2.2,true,x.1,())) (cond (decide (x.2.2<0)) none (some (x.2.1,x.2.2,(a0m .u64 x.2.1 x.2.2) != 0,x.1,()))))).bind fun z1=> cond z1.2.2.1 (some (1,z1.2.2.2.1)) ((a0e a5O (z1.1,wrap .i64 (z1.2.1-1),z1.2.2.2.1,())).bind fun w3=> some (0,w3.1))
def a4p:FSem:=⟨[.r false (.b Q5),.v (.int .u64),.v QI],[.v QI],a0n⟩
def H74:Hints:=⟨[(58,[.sv 1 (.int .u64),.sv 7 QI,.box pinned Q5,.ptr 0 pinned []],[(.exit 0,[.box pinned Q5])])],[(6,[(.normal,[.sv 1 (.int .u64),.sv 2 QI,.sv 19 .bool,.box pinned Q5,.ptr 0 pinned []])])],[]⟩
def a4a(x:(Z4×Int×Int)):Option Z4:= cond (decide (x.2.2<0)) none ((a0n (x.1,bits .u64 .and (wrap .u64 x.2.1) (wrap .u64 ((a0D .u64 1 x.2.2)-1)),x.2.2)).bind fun y1=> some y1.2)
def b2S:FSem:=⟨[.r false (.b Q5),.v QI,.v QI],[],a4a⟩
def H75:Hints:=⟨[],[],[]⟩
def a7M(s:Z86):Option (Z86 ⊕ Z20):= cond (decide (s.2.2.2.1<s.2.2.1)) ((a0r s.2.1 s.2.2.2.1).bind fun x6=> (a4a (s.2.2.2.2.1,x6,s.1)).bind fun y7=> some (.inl (s.1,s.2.1,s.2.2.1,wrap .i64 (s.2.2.2.1+1),y7,()))) (some (.inr (s.2.2.2.2.1,())))
def b0w(x:(Z4×a2c)):Option Z4:= (a0n (x.1,wrap .u64 (wrap .i64 ((x.2.2.2.2.2.2.1.length:Int)-1)),5)).bind fun y1=> (a0n (y1.2,wrap .u64 x.2.2.2.2.1,4)).bind fun y2=> (a4G x.2.2.2.2.2.2.1).bind fun y3=> (a0n (y2.2,wrap .u64 y3,5)).bind fun y4=> (a0e a7M (y3,x.2.2.2.2.2.2.1,(x.2.2.2.2.2.2.1.length:Int),0,y4.2,())).bind fun w8=> some w8.1
def b8Z:FSem:=⟨[.r false (.b Q5),.v Q19],[],b0w⟩
def H76:Hints:=⟨[(254,[.sv 4 QI,.sv 27 QL,.sv 28 QI,.sv 29 QI,.box pinned Q5,.ptr 0 pinned []],[(.exit 0,[.box pinned Q5])])],[],[]⟩
def a4S(s:Z52):Option (Z52 ⊕ Z20):= cond (decide (s.2.1<s.1)) ((a4o (s.2.2.1,0)).bind fun y2=> some (.inl (s.1,wrap .i64 (s.2.1+1),y2,()))) (some (.inr (s.2.2.1,())))
def a3l(x:(Z4×Int)):Option Z16:= (show Option (Int×Bool×Z20)from cond (decide (x.2<0)) (some (x.2,true,x.1,())) (some (x.2,decide (x.2 > 4096),x.1,()))).bind fun z1=> cond z1.2.1 (some (1,z1.2.2.1)) ((a0e a4S (z1.1,0,z1.2.2.1,())).bind fun w3=> (a4o (w3.1,1)).bind fun y4=> some (0,y4))
def b3C:FSem:=⟨[.r false (.b Q5),.v QI],[.v QI],a3l⟩
def e0d:Hints:=⟨[(58,[.sv 11 QI,.sv 12 QI,.box pinned Q5,.ptr 0 pinned []],[(.exit 0,[.box pinned Q5,.ptr 0 pinned []])])],[(6,[(.normal,[.sv 1 QI,.sv 10 .bool,.box pinned Q5,.ptr 0 pinned []])])],[]⟩
def b1D(s:(Int×((List Int)×Z77))):Option ((Int×((List Int)×Z77)) ⊕ ((Int×((List Int)×Z20)) ⊕ Z34)):= cond (decide (s.2.2.2.2.1<s.2.2.2.1)) ((a0r s.2.2.1 s.2.2.2.2.1).bind fun x2=> (a9k x2).bind fun y3=> cond (!y3) (some (.inr (Sum.inr ((1,s.2.2.2.2.2.1,()))))) (some (.inl (s.1,s.2.1,s.2.2.1,s.2.2.2.1,wrap .i64 (s.2.2.2.2.1+1),s.2.2.2.2.2.1,())))) (some (.inr (Sum.inl (s.1,s.2.1,s.2.2.2.2.2.1,()))))
def a8Y(s:Z86):Option (Z86 ⊕ Z20):= cond (decide (s.2.2.2.1<s.2.2.1)) ((a0r s.2.1 s.2.2.2.1).bind fun x7=> (b1h x7).bind fun y8=> cond (decide (s.1<0)) none (cond (decide ((a0m .u64 y8 s.1)<32)) ((a3l (s.2.2.2.2.1,wrap .i64 (a0m .u64 y8 s.1))).bind fun y9=> cond (decide (s.1<0)) none ((a0n (y9.2,wrap .u64 (y8-(a0D .u64 (a0m .u64 y8 s.1) s.1)),s.1)).bind fun y10=> some (.inl (s.1,s.2.1,s.2.2.1,wrap .i64 (s.2.2.2.1+1),y10.2,())))) ((a3l (s.2.2.2.2.1,32)).bind fun y11=> (a0n (y11.2,y8,32)).bind fun y12=> some (.inl (s.1,s.2.1,s.2.2.1,wrap .i64 (s.2.2.2.1+1),y12.2,()))))) (some (.inr (s.2.2.2.2.1,())))
def b5M(x:(Z4×(Int×(List Int)))):Option Z16:= (a6r x.2.1).bind fun y1=> cond (!y1) (some (1,x.1)) ((a0e b1D (x.2.1,x.2.2,x.2.2,(x.2.2.length:Int),0,x.1,())).bind fun w4=> match w4 with |.inl a5=>((a0e a8Y (a5.1,a5.2.1,(a5.2.1.length:Int),0,a5.2.2.1,())).bind fun w13=> some (0,w13.1)) |.inr b6=>some (b6.1,b6.2.1))
def c5h:FSem:=⟨[.r false (.b Q5),.v QI,.v QL],[.v QI],b5M⟩
def e0e:Hints:=⟨[(58,[.sv 1 QI,.sv 2 QL,.sv 16 QL,.sv 17 QI,.sv 18 QI,.box pinned Q5,.ptr 0 pinned []],[(.exit 0,[.sv 1 QI,.sv 2 QL,.box pinned Q5,.ptr 0 pinned []]),(.ret,[.sv 6 QI,.box pinned Q5])]),(122,[.sv 1 QI,.sv 26 QL,.sv 27 QI,.sv 28 QI,.box pinned Q5,.ptr 0 pinned []],[(.exit 2,[.box pinned Q5])])],[],[]⟩
def b0x(s:((List Int)×(Int×Int×Int×Z99))):Option (((List Int)×(Int×Int×Int×Z99)) ⊕ Z99):= cond (decide (s.2.2.2.2.2.2.1<s.2.2.2.2.2.1)) ((a0r s.2.2.2.2.1 s.2.2.2.2.2.2.1).bind fun x11=> cond (decide (s.2.1<0)) none ((a0n (s.2.2.2.2.2.2.2.2.1,bits .u64 .and (wrap .u64 x11) (wrap .u64 ((a0D .u64 1 s.2.1)-1)),s.2.1)).bind fun y12=> some (.inl (s.1,s.2.1,s.2.2.1,s.2.2.2.1,s.2.2.2.2.1,s.2.2.2.2.2.1,wrap .i64 (s.2.2.2.2.2.2.1+1),s.2.2.2.2.2.2.2.1,y12.2,s.2.2.2.2.2.2.2.2.2.1,())))) (some (.inr (s.1,s.2.2.1,s.2.2.2.1,s.2.2.2.2.2.2.2.1,s.2.2.2.2.2.2.2.2.1,s.2.2.2.2.2.2.2.2.2.1,())))
def a6f(s:Z99):Option (Z99 ⊕ Z20):= cond (decide (s.2.2.1<s.2.1)) (cond ((decide (0≤s.2.2.1))&&(decide (s.2.2.1<(s.2.2.2.1.length:Int)))) (cond ((decide (0≤(a02 s.2.2.2.1 (a01 s.2.2.1) 0)))&&(decide ((a02 s.2.2.2.1 (a01 s.2.2.1) 0)≤(s.1.length:Int)))) (cond ((decide (0≤(a02 s.2.2.2.1 (a01 s.2.2.1) 0)))&&(decide ((a02 s.2.2.2.1 (a01 s.2.2.1) 0)≤(s.1.length:Int)))) ((a0r s.2.2.2.2.2.1.2.1 s.2.2.1).bind fun x4=> (a0n (s.2.2.2.2.1,wrap .u64 x4,5)).bind fun y5=> (a0r s.2.2.2.2.2.1.2.1 s.2.2.1).bind fun x6=> cond (x6 != 31) ((a0r s.2.2.2.2.2.1.2.1 s.2.2.1).bind fun x7=> (b5M (y5.2,x7,a07 (a01 (a02 s.2.2.2.1 (a01 s.2.2.1) 0)) s.1)).bind fun y8=> some (.inl (a22 (a01 (a02 s.2.2.2.1 (a01 s.2.2.1) 0)) (a07 (a03 s.1) s.1),s.2.1,wrap .i64 (s.2.2.1+1),s.2.2.2.1,y8.2,s.2.2.2.2.2.1,()))) ((a4G (a07 (a01 (a02 s.2.2.2.1 (a01 s.2.2.1) 0)) s.1)).bind fun y9=> (a0n (y5.2,wrap .u64 y9,5)).bind fun y10=> (a0e b0x (a22 (a01 (a02 s.2.2.2.1 (a01 s.2.2.1) 0)) (a07 (a03 s.1) s.1),y9,s.2.1,s.2.2.1,a07 (a01 (a02 s.2.2.2.1 (a01 s.2.2.1) 0)) s.1,((a03 (a07 (a01 (a02 s.2.2.2.1 (a01 s.2.2.1) 0)) s.1):Nat):Int),0,s.2.2.2.1,y10.2,s.2.2.2.2.2.1,())).bind fun w13=> some (.inl (w13.1,w13.2.1,wrap .i64 (w13.2.2.1+1),w13.2.2.2.1,w13.2.2.2.2.1,w13.2.2.2.2.2.1,())))) none) none) none) (some (.inr (s.2.2.2.2.1,())))
def b4t(x:(Z4×Z58)):Option Z16:= (a6s (x.2.1,x.2.2.1,x.2.2.2.1,x.2.2.2.2)).bind fun y1=> cond (y1==0) (some (1,x.1)) ((a0n (x.1,wrap .u64 x.2.1.1,4)).bind fun y2=> (a5s (x.2.1.1,x.2.2.1,x.2.2.2.1)).bind fun y3=> (a0e a6f (x.2.2.2.2,(y3.length:Int),0,y3,y2.2,x.2.1,())).bind fun w14=> some (0,w14.1))
def c3o:FSem:=⟨[.r false (.b Q5),.v Q7,.v QI,.v QI,.v QL],[.v QI],b4t⟩
def H77:Hints:=⟨[(122,[.sv 4 QL,.sv 33 QI,.sv 34 QI,.own 32 1032 QI,.box pinned Q5,.ptr 0 pinned [],.vp 6 Q7],[(.exit 0,[.box pinned Q5])]),(2005502,[.sv 4 QL,.sv 14 QI,.sv 33 QI,.sv 34 QI,.sv 73 QL,.sv 74 QI,.sv 75 QI,.own 32 1032 QI,.box pinned Q5,.ptr 0 pinned [],.vp 6 Q7],[(.exit 2,[.sv 4 QL,.sv 33 QI,.sv 34 QI,.own 32 1032 QI,.box pinned Q5,.ptr 0 pinned [],.vp 6 Q7])])],[],[]⟩
def b2T(s:(Int×(Int×((List Int)×d2o)))):Option ((Int×(Int×((List Int)×d2o))) ⊕ b8p):= cond (decide (s.2.2.2.1<3)) ((a0r s.2.2.1 s.2.2.2.1).bind fun x8=> (a4a (s.2.2.2.2.1,x8,8)).bind fun y9=> some (.inl (s.1,s.2.1,s.2.2.1,wrap .i64 (s.2.2.2.1+1),y9,s.2.2.2.2.2.1,()))) (some (.inr (s.1,s.2.1,s.2.2.2.2.1,s.2.2.2.2.2.1,())))
def b2U(s:(Int×Int×Z5×b8p)):Option ((Int×Int×Z5×b8p) ⊕ b8p):= cond (decide (s.2.2.2.2.1<s.2.2.2.1)) ((a0r s.2.2.1 s.2.2.2.2.1).bind fun x18=> (a0n (s.2.2.2.2.2.1,wrap .u64 (wrap .i64 (x18.1-1)),5)).bind fun y19=> (a0n (y19.2,wrap .u64 x18.2.1,4)).bind fun y20=> some (.inl (s.1,s.2.1,s.2.2.1,s.2.2.2.1,wrap .i64 (s.2.2.2.2.1+1),y20.2,s.2.2.2.2.2.2.1,()))) (some (.inr (s.1,s.2.1,s.2.2.2.2.2.1,s.2.2.2.2.2.2.1,())))
def b2V(s:(Int×(Int×((List Int)×b8p)))):Option ((Int×(Int×((List Int)×b8p))) ⊕ d2o):= cond (decide (s.2.2.2.2.1<s.2.2.2.1)) ((a0r s.2.2.1 s.2.2.2.2.1).bind fun x23=> (a4a (s.2.2.2.2.2.1,x23,s.2.1)).bind fun y24=> some (.inl (s.1,s.2.1,s.2.2.1,s.2.2.2.1,wrap .i64 (s.2.2.2.2.1+1),y24,s.2.2.2.2.2.2.1,()))) (some (.inr (s.1,s.2.2.2.2.2.1,s.2.2.2.2.2.2.1,())))
def b7z(x:(Z4×a9T)):Option Z16:= (b7y (x.2.1,x.2.2)).bind fun y1=> cond (!y1) (some (1,x.1)) ((a4G x.2.1.2.2.2.2.2.2.2.2.1).bind fun y2=> (a0n (x.1,wrap .u64 x.2.1.1,3)).bind fun y3=> (a0n (y3.2,wrap .u64 x.2.1.2.1,5)).bind fun y4=> (a0n (y4.2,wrap .u64 y2,5)).bind fun y5=> (show Option b8p from(show Option (b8p ⊕ (b8p ⊕ b8p))from cond (x.2.1.1==2) ((a0n (y5.2,wrap .u64 x.2.1.2.2.1,3)).bind fun y6=> some (Sum.inr (Sum.inl (x.2.2,y2,y6.2,x.2.1,())))) (cond (x.2.1.1==4) ((a0n (y5.2,wrap .u64 (wrap .i64 (x.2.1.2.2.2.2.1-1)),10)).bind fun y7=> (a0e b2T (x.2.2,y2,x.2.1.2.2.2.2.2.2.1,0,y7.2,x.2.1,())).bind fun w10=> some (Sum.inl (w10.1,w10.2.1,w10.2.2.1,w10.2.2.2.1,()))) (cond (x.2.1.1==3) (some (Sum.inl (x.2.2,y2,y5.2,x.2.1,()))) (cond (x.2.1.1==5) (some (Sum.inr (Sum.inr ((x.2.2,y2,y5.2,x.2.1,()))))) (some (Sum.inr (Sum.inl (x.2.2,y2,y5.2,x.2.1,())))))))).bind fun z11=> match z11 with |.inl a12=>((b0w (a12.2.2.1,a12.2.2.2.1)).bind fun y14=> some (a12.1,a12.2.1,y14,a12.2.2.2.1,())) |.inr b13=>(match b13 with |.inl a15=>some (a15.1,a15.2.1,a15.2.2.1,a15.2.2.2.1,()) |.inr b16=>((a0n (b16.2.2.1,wrap .u64 (b16.2.2.2.1.2.2.2.2.2.2.2.1.length:Int),2)).bind fun y17=> (a0e b2U (b16.1,b16.2.1,b16.2.2.2.1.2.2.2.2.2.2.2.1,(b16.2.2.2.1.2.2.2.2.2.2.2.1.length:Int),0,y17.2,b16.2.2.2.1,())).bind fun w21=> some (w21.1,w21.2.1,w21.2.2.1,w21.2.2.2.1,())))).bind fun z22=> (a0e b2V (z22.1,z22.2.1,z22.2.2.2.1.2.2.2.2.2.2.2.2.1,(z22.2.2.2.1.2.2.2.2.2.2.2.2.1.length:Int),0,z22.2.2.1,z22.2.2.2.1,())).bind fun w25=> (a9V w25.2.2.1.1).bind fun y26=> cond (!y26) (some (0,w25.2.1)) ((b4t (w25.2.1,w25.2.2.1.2.2.2.2.2.2.2.2.2.1,w25.1,(w25.2.2.1.2.2.2.2.2.2.2.2.1.length:Int),w25.2.2.1.2.2.2.2.2.2.2.2.2.2.1)).bind fun y27=> some (y27.1,y27.2)))
def c7l:FSem:=⟨[.r false (.b Q5),.v Q19,.v QI],[.v QI],b7z⟩
def H30:Hints:=⟨[(2042,[.sv 2 QI,.sv 7 QI,.sv 94 QL,.sv 95 QI,.sv 96 QI,.box pinned Q5,.ptr 0 pinned [],.vp 4 Q19],[(.exit 9,[.sv 2 QI,.box pinned Q5,.ptr 0 pinned [],.vp 4 Q19])]),(32598,[.sv 2 QI,.sv 7 QI,.sv 75 (.list false Q4),.sv 76 QI,.sv 77 QI,.box pinned Q5,.ptr 0 pinned [],.vp 4 Q19],[(.exit 7,[.sv 2 QI,.sv 7 QI,.box pinned Q5,.ptr 0 pinned [],.vp 4 Q19])]),(260622,[.sv 2 QI,.sv 7 QI,.sv 57 (.arr 3 QI),.sv 58 QI,.box pinned Q5,.ptr 0 pinned [],.vp 4 Q19],[(.exit 5,[.sv 2 QI,.sv 7 QI,.box pinned Q5,.ptr 0 pinned [],.vp 4 Q19])])],[(127,[(.normal,[.sv 2 QI,.sv 7 QI,.box pinned Q5,.ptr 0 pinned [],.vp 4 Q19])]),(4072,[(.normal,[.sv 2 QI,.sv 7 QI,.box pinned Q5,.ptr 0 pinned [],.vp 4 Q19]),(.exit 0,[.sv 2 QI,.sv 7 QI,.box pinned Q5,.ptr 0 pinned [],.vp 4 Q19]),(.exit 4,[.sv 2 QI,.sv 7 QI,.box pinned Q5,.ptr 0 pinned [],.vp 4 Q19])])],[]⟩
def b0V(x:Z4):Option Z16:= some (x.2.1,x)
def b5u:FSem:=⟨[.r false (.b Q5)],[.v QI],b0V⟩
def H31:Hints:=⟨[],[],[]⟩
def b2W(x:a9T):Option Int:= (b7z (([],0,()),x.1,x.2)).bind fun y1=> cond (y1.1 != 0) (some 0) ((b0V y1.2).bind fun y2=> some y2.1)
def b9R:FSem:=⟨[.v Q19,.v QI],[.v QI],b2W⟩
def H11:Hints:=⟨[],[],[]⟩
def a2v(s:Z47):Option (Z47 ⊕ (Int×Unit)):= cond (decide (s.2.2.2.2.1<s.2.2.2.1)) ((a0r s.2.2.1 s.2.2.2.2.1).bind fun x1=> cond (decide ((wrap .i64 (s.2.2.2.2.1+s.1))≥4)) (some (.inl (s.1,wrap .i64 (s.2.1+(a1r x1 (wrap .i64 (0-x1)))),s.2.2.1,s.2.2.2.1,wrap .i64 (s.2.2.2.2.1+1),()))) (some (.inl (s.1,s.2.1,s.2.2.1,s.2.2.2.1,wrap .i64 (s.2.2.2.2.1+1),())))) (some (.inr (s.2.1,())))
def a6R(x:((List Int)×Int)):Option Int:= (a0e a2v (x.2,0,x.1,(x.1.length:Int),0,())).bind fun w2=> some w2.1
def c0G:FSem:=⟨[.v QL,.v QI],[.v QI],a6R⟩
def H78:Hints:=⟨[(58,[.sv 1 QI,.sv 5 QI,.sv 8 QL,.sv 9 QI,.sv 10 QI],[(.exit 0,[.sv 5 QI])])],[],[]⟩
def a1x(s:Z31):Option (Z31 ⊕ (Int×Unit)):= cond (decide (s.2.2.2.1≤4)) ((a3Y (s.1,s.2.2.2.1)).bind fun y1=> cond (y1.2 != 0) (some (.inl (s.1,s.2.1,s.2.2.1,wrap .i64 (s.2.2.2.1+1),()))) ((a6R (y1.1,s.2.2.2.1)).bind fun y2=> (show Option ((List Int)×Z39)from cond (decide (s.2.2.1<0)) (some (s.1,s.2.1,s.2.2.1,s.2.2.2.1,y2,true,())) (some (s.1,s.2.1,s.2.2.1,s.2.2.2.1,y2,decide (y2<s.2.2.1),()))).bind fun z3=> cond z3.2.2.2.2.2.1 (some (.inl (z3.1,z3.2.2.2.1,z3.2.2.2.2.1,wrap .i64 (z3.2.2.2.1+1),()))) (some (.inl (z3.1,z3.2.1,z3.2.2.1,wrap .i64 (z3.2.2.2.1+1),()))))) (some (.inr (s.2.1,())))
def a4Z(x:(List Int)):Option Int:= (a0e a1x (x,0,(-1),0,())).bind fun w4=> some w4.1
def c1L:FSem:=⟨[.v QL],[.v QI],a4Z⟩
def H34:Hints:=⟨[(58,[.sv 0 QL,.sv 3 QI,.sv 4 QI,.sv 5 QI],[(.exit 0,[.sv 3 QI])])],[(7463,[(.normal,[.sv 0 QL,.sv 3 QI,.sv 4 QI,.sv 5 QI,.sv 8 QI,.sv 30 .bool])])],[]⟩
def a2l(x:Int):Option Int:= some (a2d (a1r x (-1048576)) 1048575)
def b3S:FSem:=⟨[.v QI],[.v QI],a2l⟩
def e0f:Hints:=⟨[],[],[]⟩
def a2q(s:Z71):Option (Z71 ⊕ Z59):= cond (decide (s.2.1<0)) none ((a2l (a0m .i64 s.2.2.1 s.2.1)).bind fun y2=> cond (decide (s.2.1<0)) none (cond (y2 != (a0m .i64 s.2.2.1 s.2.1)) (some (.inl (s.1,wrap .i64 (s.2.1+1),s.2.2.1,s.2.2.2.1,s.2.2.2.2.1,s.2.2.2.2.2.1,()))) (some (.inr (s.1,s.2.1,s.2.2.2.1,s.2.2.2.2.1,s.2.2.2.2.2.1,())))))
def a2L(s:Z59):Option (Z59 ⊕ Z4):= cond (decide (s.2.2.2.2.1<s.2.2.2.1)) ((a0r s.2.2.1 s.2.2.2.2.1).bind fun x1=> (a0e a2q (s.1,s.2.1,x1,s.2.2.1,s.2.2.2.1,s.2.2.2.2.1,())).bind fun w3=> some (.inl (w3.1,w3.2.1,w3.2.2.1,w3.2.2.2.1,wrap .i64 (w3.2.2.2.2.1+1),()))) (some (.inr (s.1,s.2.1,())))
def a2M(s:Z57):Option (Z57 ⊕ ((List Int)×Unit)):= cond (decide (s.2.2.2.1<s.2.2.1)) ((a0r s.2.1 s.2.2.2.1).bind fun x5=> cond (decide (s.1<0)) none (cond ((decide (0≤s.2.2.2.1))&&(decide (s.2.2.2.1<(s.2.2.2.2.1.length:Int)))) (some (.inl (s.1,s.2.1,s.2.2.1,wrap .i64 (s.2.2.2.1+1),a05 s.2.2.2.2.1 (a01 s.2.2.2.1) (a0m .i64 x5 s.1),()))) none)) (some (.inr (s.2.2.2.2.1,())))
def a4b(x:(List Int)):Option (List Int):= (a0e a2L (x,0,x,(x.length:Int),0,())).bind fun w4=> cond ((decide (0≤(w4.1.length:Int)))&&((decide ((w4.1.length:Int)≤(w4.1.length:Int)))&&(lim (a01 (w4.1.length:Int))))) ((a0e a2M (w4.2.1,w4.1,(w4.1.length:Int),0,a00 (a01 (w4.1.length:Int)) 0,())).bind fun w6=> some w6.1) none
def b7A:FSem:=⟨[.v QL],[.o QI],a4b⟩
def e0g:Hints:=⟨[(58,[.sv 0 QL,.sv 3 QI,.sv 9 QL,.sv 10 QI,.sv 11 QI],[(.exit 0,[.sv 0 QL,.sv 3 QI])]),(250,[.sv 3 QI,.sv 29 QL,.sv 30 QI,.sv 31 QI,.own 6 6 QI],[(.exit 4,[.own 6 6 QI])]),(7474,[.sv 0 QL,.sv 3 QI,.sv 5 QI,.sv 9 QL,.sv 10 QI,.sv 11 QI],[(.exit 2,[.sv 0 QL,.sv 3 QI,.sv 9 QL,.sv 10 QI,.sv 11 QI])])],[],[(5,[.v,.v,.v,.v,.v,.v,.v,.x])]⟩
def a2C(s:Z60):Option (Z60 ⊕ (Int×Int×Unit)):= cond (decide (s.2.2.2.2.1<(s.1.length:Int))) ((a0r s.1 s.2.2.2.2.1).bind fun x1=> (a0r s.2.1 (wrap .i64 (s.2.2.2.2.1-1))).bind fun x2=> (a0r s.1 s.2.2.2.2.1).bind fun x3=> (a0r s.1 s.2.2.2.2.1).bind fun x4=> (a0r s.2.1 (wrap .i64 (s.2.2.2.2.1-1))).bind fun x5=> (a0r s.2.1 (wrap .i64 (s.2.2.2.2.1-1))).bind fun x6=> some (.inl (s.1,s.2.1,wrap .i64 (s.2.2.1+(wrap .i64 (x1*x2))),wrap .i64 (s.2.2.2.1+(wrap .i64 ((wrap .i64 (x3*x4))+(wrap .i64 (x5*x6))))),wrap .i64 (s.2.2.2.2.1+1),()))) (some (.inr (s.2.2.1,s.2.2.2.1,())))
def a3p(s:(Int×Int×Unit)):Option ((Int×Int×Unit) ⊕ (Int×Int×Unit)):= cond (decide (s.2.1≥1099511627776)) (some (.inl (a0m .i64 s.1 1,a0m .i64 s.2.1 1,()))) (some (.inr (s.1,s.2.1,())))
def a3m(x:Z11):Option Int:= (a0e a2C (x.1,x.2.1,0,0,x.2.2,())).bind fun w7=> (a0e a3p (w7.1,w7.2.1,())).bind fun w8=> cond (w8.2.1==0) (some 0) (cond (w8.2.1==0) none ((show Option (Int×Unit)from cond (w8.2.1==0) none (cond (decide ((a26 (a0D .i64 w8.1 15) w8.2.1)<0)) (some (wrap .i64 ((wrap .i64 (a23 (a0D .i64 w8.1 15) w8.2.1))-1),())) (some (wrap .i64 (a23 (a0D .i64 w8.1 15) w8.2.1),())))).bind fun z9=> some (a2d (a1r z9.1 (-16383)) 16383)))
def b3D:FSem:=⟨[.v QL,.v QL,.v QI],[.v QI],a3m⟩
def e0h:Hints:=⟨[(58,[.sv 0 QL,.sv 1 QL,.sv 7 QI,.sv 8 QI,.sv 9 QI],[(.exit 0,[.sv 7 QI,.sv 8 QI])]),(60,[.sv 7 QI,.sv 8 QI],[(.exit 2,[.sv 7 QI,.sv 8 QI])])],[(255,[(.normal,[.sv 10 QI])])],[(5,[.v,.v,.v,.v,.v,.v,.v,.v,.v,.v,.v,.x,.x]),(6,[.v,.v,.v,.v,.v,.v,.v,.v,.v,.v,.v,.v,.v,.v,.v,.v,.v,.v,.v,.v,.v,.v,.x,.x])]⟩
def a1z(s:(Int×Z82)):Option ((Int×Z82) ⊕ Z69):= cond (decide (s.2.2.2.1≥s.2.1)) (cond ((decide (0≤s.2.2.2.1))&&(decide (s.2.2.2.1<(s.2.2.2.2.1.length:Int)))) (cond ((decide (0≤(wrap .i64 (s.2.2.2.1-1))))&&(decide ((wrap .i64 (s.2.2.2.1-1))<(s.2.2.2.2.2.1.length:Int)))) ((a2l (wrap .i64 ((a02 s.2.2.2.2.1 (a01 s.2.2.2.1) 0)-(a0m .i64 (wrap .i64 (s.2.2.1*(a02 s.2.2.2.2.2.1 (a01 (wrap .i64 (s.2.2.2.1-1))) 0))) 14)))).bind fun y6=> cond ((decide (0≤s.2.2.2.1))&&(decide (s.2.2.2.1<(s.2.2.2.2.1.length:Int)))) ((a2l (wrap .i64 ((a02 s.2.2.2.2.2.1 (a01 (wrap .i64 (s.2.2.2.1-1))) 0)-(a0m .i64 (wrap .i64 (s.2.2.1*(a02 s.2.2.2.2.1 (a01 s.2.2.2.1) 0))) 14)))).bind fun y7=> cond ((decide (0≤s.2.2.2.1))&&(decide (s.2.2.2.1<(s.2.2.2.2.2.1.length:Int)))) (some (.inl (s.1,s.2.1,s.2.2.1,wrap .i64 (s.2.2.2.1-1),a05 s.2.2.2.2.1 (a01 s.2.2.2.1) y6,a05 s.2.2.2.2.2.1 (a01 s.2.2.2.1) y7,s.2.2.2.2.2.2.1,()))) none) none) none) none) (some (.inr (s.1,s.2.1,s.2.2.2.2.1,s.2.2.2.2.2.1,s.2.2.2.2.2.2.1,())))
end Go.Ab
namespace Go.Ab
open IntKind(wrap)
open Go.Proofs
set_option maxRecDepth 100000
set_option linter.unusedVariables false
def a2f(s:Z69):Option (Z69 ⊕ ((List Int)×Unit)):= cond (decide (s.2.1≤s.1)) ((a3m (s.2.2.1,s.2.2.2.1,s.2.1)).bind fun y5=> cond (lim ((a03 s.2.2.2.2.1)+1)) ((a0e a1z (s.1,s.2.1,y5,wrap .i64 ((s.2.2.1.length:Int)-1),s.2.2.1,s.2.2.2.1,a04 s.2.2.2.2.1 [y5],())).bind fun w8=> some (.inl (w8.1,wrap .i64 (w8.2.1+1),w8.2.2.1,w8.2.2.2.1,w8.2.2.2.2.1,()))) none) (some (.inr (s.2.2.2.2.1,())))
def a3x(x:((List Int)×Int)):Option ((List Int)×Int):= (show Option Z18 from cond (decide (x.2<1)) (some (x.1,x.2,true,())) (cond (decide (x.2 > 32)) (some (x.1,x.2,true,())) (some (x.1,x.2,decide ((x.1.length:Int) > 4096),())))).bind fun z1=> cond z1.2.2.1 (some ([],1)) ((a3w z1.1).bind fun y2=> cond (!y2) (some ([],6)) ((a4b z1.1).bind fun y3=> (a1F y3).bind fun y4=> cond ((decide (0≤z1.2.1))&&(lim (a01 z1.2.1))) ((a0e a2f (z1.2.1,1,y3,y4,[],())).bind fun w9=> some (w9.1,0)) none))
def b6F:FSem:=⟨[.v QL,.v QI],[.o QI,.v QI],a3x⟩
def H79:Hints:=⟨[(1018,[.sv 1 QI,.sv 9 QI,.own 6 6 QI,.own 7 7 QI,.own 8 8 QI],[(.exit 0,[.own 8 8 QI])]),(260686,[.sv 1 QI,.sv 9 QI,.sv 10 QI,.sv 11 QI,.own 6 6 QI,.own 7 7 QI,.own 8 8 QI],[(.exit 2,[.sv 1 QI,.sv 9 QI,.own 6 6 QI,.own 7 7 QI,.own 8 8 QI])])],[(6,[(.normal,[.sv 0 QL,.sv 1 QI,.sv 24 .bool])])],[(16,[.q,.v,.q,.q,.q,.v,.v,.q,.q,.v,.x])]⟩
def a1e(s:Z44):Option (Z44 ⊕ (((List Int)×Unit) ⊕ Z4)):= cond (decide (s.2.2.2.1<s.2.2.1)) ((a0r s.2.1 s.2.2.2.1).bind fun x2=> (show Option ((List Int)×Z32)from cond (decide (x2<(-16383))) (some (s.1,s.2.1,s.2.2.1,s.2.2.2.1,true,())) (some (s.1,s.2.1,s.2.2.1,s.2.2.2.1,decide (x2 > 16383),()))).bind fun z3=> cond z3.2.2.2.2.1 (some (.inr (Sum.inr (([],1,()))))) (some (.inl (z3.1,z3.2.1,z3.2.2.1,wrap .i64 (z3.2.2.2.1+1),())))) (some (.inr (Sum.inl (s.1,()))))
def a2h(s:((List Int)×(Int×(Int×((List Int)×Z74))))):Option (((List Int)×(Int×(Int×((List Int)×Z74)))) ⊕ Z57):= cond (decide (s.2.2.2.2.2.2.2.2.1<s.2.2.2.2.2.2.2.1)) ((a0r s.2.2.2.2.2.2.1 s.2.2.2.2.2.2.2.2.1).bind fun x8=> (a0r s.1 (wrap .i64 ((wrap .i64 (s.2.1-1))-s.2.2.2.2.2.2.2.2.1))).bind fun x9=> cond (lim ((a03 s.2.2.2.2.2.2.2.2.2.1)+1)) (some (.inl (s.1,s.2.1,s.2.2.1,s.2.2.2.1,s.2.2.2.2.1,s.2.2.2.2.2.1,s.2.2.2.2.2.2.1,s.2.2.2.2.2.2.2.1,wrap .i64 (s.2.2.2.2.2.2.2.2.1+1),a04 s.2.2.2.2.2.2.2.2.2.1 [wrap .i64 (x8-(a0m .i64 (wrap .i64 (s.2.2.1*x9)) 14))],()))) none) (some (.inr (s.2.2.1,s.2.2.2.1,s.2.2.2.2.1,s.2.2.2.2.2.1,s.2.2.2.2.2.2.2.2.2.1,())))
def a3b(s:Z44):Option (Z44 ⊕ ((List Int)×Unit)):= cond (decide (s.2.2.2.1<s.2.2.1)) ((a0r s.2.1 s.2.2.2.1).bind fun x7=> cond ((decide (0≤(wrap .i64 (s.2.2.2.1+1))))&&(lim (a01 (wrap .i64 (s.2.2.2.1+1))))) ((a0e a2h (s.1,s.2.2.2.1,x7,s.2.1,s.2.2.1,s.2.2.2.1,s.1,(s.1.length:Int),0,[],())).bind fun w10=> cond (lim ((a03 w10.2.2.2.2.1)+1)) (some (.inl (a04 w10.2.2.2.2.1 [w10.1],w10.2.1,w10.2.2.1,wrap .i64 (w10.2.2.2.1+1),()))) none) none) (some (.inr (s.1,())))
def a4I(x:(List Int)):Option ((List Int)×Int):= (show Option Z7 from cond (decide ((x.length:Int)<1)) (some (x,true,())) (some (x,decide ((x.length:Int) > 32),()))).bind fun z1=> cond z1.2.1 (some ([],1)) ((a0e a1e (z1.1,z1.1,(z1.1.length:Int),0,())).bind fun w4=> match w4 with |.inl a5=>((a0e a3b ([],a5.1,(a5.1.length:Int),0,())).bind fun w11=> some (w11.1,0)) |.inr b6=>some (b6.1,b6.2.1))
def b9a:FSem:=⟨[.v QL],[.v QL,.v QI],a4I⟩
def H80:Hints:=⟨[(58,[.sv 0 QL,.sv 20 QL,.sv 21 QI,.sv 22 QI],[(.exit 0,[.sv 0 QL]),(.ret,[.sv 2 QL,.sv 3 QI])]),(250,[.sv 6 QL,.sv 34 QL,.sv 35 QI,.sv 36 QI],[(.exit 2,[.sv 6 QL])]),(256410,[.sv 6 QL,.sv 7 QI,.sv 8 QI,.sv 34 QL,.sv 35 QI,.sv 36 QI,.sv 44 QL,.sv 45 QI,.sv 46 QI,.own 9 9 QI],[(.exit 4,[.sv 8 QI,.sv 34 QL,.sv 35 QI,.sv 36 QI,.own 9 9 QI])])],[(6,[(.normal,[.sv 0 QL,.sv 19 .bool])]),(3737,[(.normal,[.sv 0 QL,.sv 20 QL,.sv 21 QI,.sv 22 QI,.sv 31 .bool])])],[]⟩
def a1f(s:Z59):Option (Z59 ⊕ (Z4 ⊕ Z15)):= cond (decide (s.2.2.2.2.1<s.2.2.2.1)) ((a0r s.2.2.1 s.2.2.2.2.1).bind fun x2=> (show Option ((List Int)×(Int×Z32))from cond (decide (x2<(-35184372088832))) (some (s.1,s.2.1,s.2.2.1,s.2.2.2.1,s.2.2.2.2.1,true,())) (some (s.1,s.2.1,s.2.2.1,s.2.2.2.1,s.2.2.2.2.1,decide (x2 > 35184372088832),()))).bind fun z3=> cond z3.2.2.2.2.2.1 (some (.inr (Sum.inr ((0,1,[],()))))) (some (.inl (z3.1,z3.2.1,z3.2.2.1,z3.2.2.2.1,wrap .i64 (z3.2.2.2.2.1+1),())))) (some (.inr (Sum.inl (s.1,s.2.1,()))))
def a1B(s:((List Int)×(Int×Z74))):Option (((List Int)×(Int×Z74)) ⊕ Z41):= cond (decide (s.2.2.2.2.2.2.1<s.2.2.2.2.2.1)) ((a0r s.2.2.2.2.1 s.2.2.2.2.2.2.1).bind fun x8=> cond (decide (s.2.2.1<0)) none ((a6P (a0m .i64 (wrap .i64 (x8+s.2.2.2.1)) s.2.2.1,s.2.1)).bind fun y9=> cond (!y9) (some (.inr (s.1,s.2.1,s.2.2.1,s.2.2.2.2.2.2.2.1,()))) (cond (lim ((a03 s.2.2.2.2.2.2.2.1)+1)) (some (.inl (s.1,s.2.1,s.2.2.1,s.2.2.2.1,s.2.2.2.2.1,s.2.2.2.2.2.1,wrap .i64 (s.2.2.2.2.2.2.1+1),a04 s.2.2.2.2.2.2.2.1 [a0m .i64 (wrap .i64 (x8+s.2.2.2.1)) s.2.2.1],()))) none))) (some (.inr (s.1,s.2.1,s.2.2.1,s.2.2.2.2.2.2.2.1,())))
def a1C(s:Z14):Option (Z14 ⊕ (Unit ⊕ Z15)):= cond (decide (s.2.2.1≤14)) ((show Option Z31 from cond (decide (s.2.2.1 > 0)) (cond (decide ((wrap .i64 (s.2.2.1-1))<0)) none (some (s.1,s.2.1,s.2.2.1,a0D .i64 1 (wrap .i64 (s.2.2.1-1)),()))) (some (s.1,s.2.1,s.2.2.1,0,()))).bind fun z7=> cond ((decide (0≤(z7.1.length:Int)))&&(lim (a01 (z7.1.length:Int)))) ((a0e a1B (z7.1,z7.2.1,z7.2.2.1,z7.2.2.2.1,z7.1,(z7.1.length:Int),0,[],())).bind fun w10=> cond ((w10.2.2.2.1.length:Int)==(w10.1.length:Int)) (some (.inr (Sum.inr ((wrap .i64 (14-w10.2.2.1),0,w10.2.2.2.1,()))))) (some (.inl (w10.1,w10.2.1,wrap .i64 (w10.2.2.1+1),())))) none) (some (.inr (Sum.inl ())))
def a6g(x:((List Int)×Int)):Option Z2:= (show Option Z18 from cond (decide ((x.1.length:Int)<1)) (some (x.1,x.2,true,())) (cond (decide ((x.1.length:Int) > 32)) (some (x.1,x.2,true,())) (cond (decide (x.2<2)) (some (x.1,x.2,true,())) (some (x.1,x.2,decide (x.2 > 16),()))))).bind fun z1=> cond z1.2.2.1 (some ([],0,1)) ((a0e a1f (z1.1,z1.2.1,z1.1,(z1.1.length:Int),0,())).bind fun w4=> match w4 with |.inl a5=>((a0e a1C (a5.1,a5.2.1,0,())).bind fun w11=> match w11 with |.inl a12=>some ([],0,6) |.inr b13=>some (b13.2.2.1,b13.1,b13.2.1)) |.inr b6=>some (b6.2.2.1,b6.1,b6.2.1))
def b9b:FSem:=⟨[.v QL,.v QI],[.o QI,.v QI,.v QI],a6g⟩
def H81:Hints:=⟨[(58,[.sv 0 QL,.sv 1 QI,.sv 31 QL,.sv 32 QI,.sv 33 QI],[(.exit 0,[.sv 0 QL,.sv 1 QI]),(.ret,[.sv 5 QI,.sv 6 QI,.own 4 4 QI])]),(122,[.sv 0 QL,.sv 1 QI,.sv 9 QI],[(.exit 2,[]),(.ret,[.sv 5 QI,.sv 6 QI,.own 4 11 QI])]),(125242,[.sv 0 QL,.sv 1 QI,.sv 9 QI,.sv 10 QI,.sv 56 QL,.sv 57 QI,.sv 58 QI,.own 11 11 QI],[(.exit 4,[.sv 0 QL,.sv 1 QI,.sv 9 QI,.own 11 11 QI])])],[(6,[(.normal,[.sv 0 QL,.sv 1 QI,.sv 30 .bool])]),(3737,[(.normal,[.sv 0 QL,.sv 1 QI,.sv 31 QL,.sv 32 QI,.sv 33 QI,.sv 42 .bool])]),(3913,[(.normal,[.sv 0 QL,.sv 1 QI,.sv 9 QI,.sv 10 QI])])],[]⟩
def a3q(x:Z2):Option Z2:= (a3x (x.1,x.2.1)).bind fun y1=> cond (y1.2 != 0) (some ([],0,y1.2)) ((a4I y1.1).bind fun y2=> cond (y2.2 != 0) (some ([],0,y2.2)) ((a6g (y2.1,x.2.2)).bind fun y3=> some (y3.1,y3.2.1,y3.2.2)))
def b5j:FSem:=⟨[.v QL,.v QI,.v QI],[.o QI,.v QI,.v QI],a3q⟩
def H36:Hints:=⟨[],[],[]⟩
def b0y(s:((List Int)×(Int×Z53))):Option (((List Int)×(Int×Z53)) ⊕ ((List Int)×Z53)):= cond (decide (s.2.2.2.2.2.2.2.1<(s.1.length:Int))) ((a0r s.1 s.2.2.2.2.2.2.2.1).bind fun x3=> (a0r s.1 (wrap .i64 (s.2.2.2.2.2.2.2.1-s.2.2.2.2.2.1))).bind fun x4=> some (.inl (s.1,s.2.1,s.2.2.1,s.2.2.2.1,s.2.2.2.2.1,s.2.2.2.2.2.1,wrap .i64 (s.2.2.2.2.2.2.1+(a1r (wrap .i64 (x3-x4)) (wrap .i64 (0-(wrap .i64 (x3-x4)))))),wrap .i64 (s.2.2.2.2.2.2.2.1+1),()))) (some (.inr (s.1,s.2.1,s.2.2.1,s.2.2.2.1,s.2.2.2.2.1,s.2.2.2.2.2.1,s.2.2.2.2.2.2.1,())))
def b0z(s:((List Int)×Z35)):Option (((List Int)×Z35) ⊕ (Int×Unit)):= cond (decide (s.2.2.2.2.2.1≤s.2.2.1)) ((a0e b0y (s.1,s.2.1,s.2.2.1,s.2.2.2.1,s.2.2.2.2.1,s.2.2.2.2.2.1,0,s.2.2.1,())).bind fun w5=> (show Option ((List Int)×(Int×Int×Z39))from cond (w5.2.2.2.2.2.1==w5.2.1) (some (w5.1,w5.2.1,w5.2.2.1,w5.2.2.2.1,w5.2.2.2.2.1,w5.2.2.2.2.2.1,w5.2.2.2.2.2.2.1,true,())) (some (w5.1,w5.2.1,w5.2.2.1,w5.2.2.2.1,w5.2.2.2.2.1,w5.2.2.2.2.2.1,w5.2.2.2.2.2.2.1,decide (w5.2.2.2.2.2.2.1<w5.2.2.2.2.1),()))).bind fun z6=> cond z6.2.2.2.2.2.2.2.1 (some (.inl (z6.1,z6.2.1,z6.2.2.1,z6.2.2.2.2.2.1,z6.2.2.2.2.2.2.1,wrap .i64 (z6.2.2.2.2.2.1+1),()))) (some (.inl (z6.1,z6.2.1,z6.2.2.1,z6.2.2.2.1,z6.2.2.2.2.1,wrap .i64 (z6.2.2.2.2.2.1+1),())))) (some (.inr (s.2.2.2.1,())))
def a9m(x:Z2):Option (Int×Int):= (show Option Z32 from cond (decide (x.2.1<2)) (some (x.1,x.2.1,x.2.2,true,())) (cond (decide (x.2.1 > x.2.2)) (some (x.1,x.2.1,x.2.2,true,())) (cond (decide (x.2.2 > 1024)) (some (x.1,x.2.1,x.2.2,true,())) (some (x.1,x.2.1,x.2.2,decide ((x.1.length:Int) > 4096),()))))).bind fun z1=> cond z1.2.2.2.1 (some (0,1)) (cond (decide ((z1.1.length:Int)≤z1.2.2.1)) (some (0,7)) ((a6d z1.1).bind fun y2=> cond (!y2) (some (0,6)) ((a0e b0z (z1.1,z1.2.1,z1.2.2.1,0,0,z1.2.1,())).bind fun w7=> some (w7.1,0))))
def c3p:FSem:=⟨[.v QL,.v QI,.v QI],[.v QI,.v QI],a9m⟩
def H82:Hints:=⟨[(506,[.sv 0 QL,.sv 1 QI,.sv 2 QI,.sv 8 QI,.sv 9 QI,.sv 10 QI],[(.exit 0,[.sv 8 QI])]),(129610,[.sv 0 QL,.sv 1 QI,.sv 2 QI,.sv 8 QI,.sv 9 QI,.sv 10 QI,.sv 11 QI,.sv 12 QI],[(.exit 2,[.sv 0 QL,.sv 1 QI,.sv 2 QI,.sv 8 QI,.sv 9 QI,.sv 10 QI,.sv 11 QI])])],[(6,[(.normal,[.sv 0 QL,.sv 1 QI,.sv 2 QI,.sv 29 .bool])]),(32403,[(.normal,[.sv 0 QL,.sv 1 QI,.sv 2 QI,.sv 8 QI,.sv 9 QI,.sv 10 QI,.sv 11 QI,.sv 74 .bool])])],[(15,[.v,.v,.v,.v,.v,.v,.v,.v,.v,.v,.x,.x])]⟩
def b6G(x:Unit):Option (List (List Int)):= some ([a05 (a05 (a05 (a00 3 0) 0 0) 1 0) 2 0,a05 (a05 (a05 (a00 3 0) 0 0) 1 64) 2 0,a05 (a05 (a05 (a00 3 0) 0 0) 1 32) 2 0,a05 (a05 (a05 (a00 3 0) 0 16) 1 32) 2 16,a05 (a05 (a05 (a00 3 0) 0 21) 1 22) 2 21,a05 (a05 (a05 (a00 3 0) 0 0) 1 48) 2 0,a05 (a05 (a05 (a00 3 0) 0 (-8)) 1 64) 2 (-8),a05 (a05 (a05 (a00 3 0) 0 32) 1 32) 2 0,a05 (a05 (a05 (a00 3 0) 0 0) 1 32) 2 32]:List (List Int))
def c1M:FSem:=⟨[],[.o (.arr 3 QI)],b6G⟩
def e0i:Hints:=⟨[],[],[]⟩
def a8g(s:((List Int)×(Int×(Int×(Bool×(Int×(Int×(Int×(Int×(Int×((List (List Int))×((List Int)×Z40)))))))))))):Option (((List Int)×(Int×(Int×(Bool×(Int×(Int×(Int×(Int×(Int×((List (List Int))×((List Int)×Z40))))))))))) ⊕ ((List Int)×(Int×(Int×(Bool×(Int×(Int×(Int×((List (List Int))×Z40))))))))):= cond (decide (s.2.2.2.2.2.2.2.2.1<s.2.2.2.2.2.2.2.1)) (cond ((decide (0≤s.2.2.2.2.2.2.2.2.1))&&(decide (s.2.2.2.2.2.2.2.2.1<(s.2.2.2.2.2.2.2.2.2.2.1.length:Int)))) (some (.inl (s.1,s.2.1,s.2.2.1,s.2.2.2.1,wrap .i64 (s.2.2.2.2.1+(a1r (a02 s.2.2.2.2.2.2.2.2.2.2.1 (a01 s.2.2.2.2.2.2.2.2.1) 0) (wrap .i64 (0-(a02 s.2.2.2.2.2.2.2.2.2.2.1 (a01 s.2.2.2.2.2.2.2.2.1) 0))))),s.2.2.2.2.2.1,s.2.2.2.2.2.2.1,s.2.2.2.2.2.2.2.1,wrap .i64 (s.2.2.2.2.2.2.2.2.1+1),s.2.2.2.2.2.2.2.2.2.1,s.2.2.2.2.2.2.2.2.2.2.1,s.2.2.2.2.2.2.2.2.2.2.2.1,s.2.2.2.2.2.2.2.2.2.2.2.2.1,s.2.2.2.2.2.2.2.2.2.2.2.2.2.1,()))) none) (some (.inr (s.1,s.2.1,s.2.2.1,s.2.2.2.1,s.2.2.2.2.1,s.2.2.2.2.2.1,s.2.2.2.2.2.2.1,s.2.2.2.2.2.2.2.2.2.1,s.2.2.2.2.2.2.2.2.2.2.2.1,s.2.2.2.2.2.2.2.2.2.2.2.2.1,s.2.2.2.2.2.2.2.2.2.2.2.2.2.1,())))
def a8h(s:((List Int)×(Int×(Int×(Bool×(Int×(Int×((List (List Int))×Z13)))))))):Option (((List Int)×(Int×(Int×(Bool×(Int×(Int×((List (List Int))×Z13))))))) ⊕ (Bool×Z13)):= cond (decide (s.2.2.2.2.2.1<s.2.2.2.2.1)) (cond ((decide (0≤s.2.2.2.2.2.1))&&(decide (s.2.2.2.2.2.1<(s.2.2.2.2.2.2.1.length:Int)))) ((a9j (s.1,s.2.1,a02 s.2.2.2.2.2.2.1 (a01 s.2.2.2.2.2.1) (a00 3 0))).bind fun y3=> cond (y3.2 != 0) (some (.inl (s.1,s.2.1,s.2.2.1,s.2.2.2.1,s.2.2.2.2.1,wrap .i64 (s.2.2.2.2.2.1+1),s.2.2.2.2.2.2.1,s.2.2.2.2.2.2.2.1,s.2.2.2.2.2.2.2.2.1,()))) ((a0e a8g (s.1,s.2.1,s.2.2.1,s.2.2.2.1,0,s.2.2.2.2.1,s.2.2.2.2.2.1,(y3.1.length:Int),0,s.2.2.2.2.2.2.1,y3.1,s.2.2.2.2.2.2.2.1,s.2.2.2.2.2.2.2.2.1,a02 s.2.2.2.2.2.2.1 (a01 s.2.2.2.2.2.1) (a00 3 0),())).bind fun w4=> (show Option ((List Int)×(Int×(Int×(Bool×(Int×(Int×(Int×(Bool×((List (List Int))×Z40)))))))))from cond (!w4.2.2.2.1) (some (w4.1,w4.2.1,w4.2.2.1,w4.2.2.2.1,w4.2.2.2.2.1,w4.2.2.2.2.2.1,w4.2.2.2.2.2.2.1,true,w4.2.2.2.2.2.2.2.1,w4.2.2.2.2.2.2.2.2.1,w4.2.2.2.2.2.2.2.2.2.1,w4.2.2.2.2.2.2.2.2.2.2.1,())) (some (w4.1,w4.2.1,w4.2.2.1,w4.2.2.2.1,w4.2.2.2.2.1,w4.2.2.2.2.2.1,w4.2.2.2.2.2.2.1,decide (w4.2.2.2.2.1<w4.2.2.1),w4.2.2.2.2.2.2.2.1,w4.2.2.2.2.2.2.2.2.1,w4.2.2.2.2.2.2.2.2.2.1,w4.2.2.2.2.2.2.2.2.2.2.1,()))).bind fun z5=> cond z5.2.2.2.2.2.2.2.1 (some (.inl (z5.1,z5.2.1,z5.2.2.2.2.1,true,z5.2.2.2.2.2.1,wrap .i64 (z5.2.2.2.2.2.2.1+1),z5.2.2.2.2.2.2.2.2.1,z5.2.2.2.2.2.2.2.2.2.1,z5.2.2.2.2.2.2.2.2.2.2.2.1,()))) (some (.inl (z5.1,z5.2.1,z5.2.2.1,z5.2.2.2.1,z5.2.2.2.2.2.1,wrap .i64 (z5.2.2.2.2.2.2.1+1),z5.2.2.2.2.2.2.2.2.1,z5.2.2.2.2.2.2.2.2.2.1,z5.2.2.2.2.2.2.2.2.2.2.1,()))))) none) (some (.inr (s.2.2.2.1,s.2.2.2.2.2.2.2.1,s.2.2.2.2.2.2.2.2.1,())))
def b1k(x:((List Int)×Int)):Option ((List Int)×Int):= (show Option ((List Int)×Z17)from cond (decide (x.2<2)) (some (x.1,x.2,true,a00 3 0,())) (some (x.1,x.2,decide (x.2 > 1024),a00 3 0,()))).bind fun z1=> cond z1.2.2.1 (some (a00 3 0,1)) ((b6G ()).bind fun y2=> (a0e a8h (z1.1,z1.2.1,0,false,(y2.length:Int),0,y2,z1.2.2.2.1,a00 3 0,())).bind fun w6=> cond (!w6.1) (some (a00 3 0,6)) (some (w6.2.2.1,0)))
def c3q:FSem:=⟨[.v QL,.v QI],[.v (.arr 3 QI),.v QI],b1k⟩
def H83:Hints:=⟨[(122,[.sv 0 QL,.sv 1 QI,.sv 7 QI,.sv 8 .bool,.sv 25 QI,.sv 26 QI,.own 24 1024 (.arr 3 QI),.box 4 (.arr 3 QI),.box 6 (.arr 3 QI),.ptr 4 4 [],.ptr 6 6 []],[(.exit 0,[.sv 8 .bool,.box 4 (.arr 3 QI),.box 6 (.arr 3 QI),.ptr 4 4 [],.ptr 6 6 []])]),(501370,[.sv 0 QL,.sv 1 QI,.sv 7 QI,.sv 8 .bool,.sv 13 QI,.sv 25 QI,.sv 26 QI,.sv 40 QI,.sv 41 QI,.own 24 1024 (.arr 3 QI),.own 39 11 QI,.box 4 (.arr 3 QI),.box 6 (.arr 3 QI),.box 10 (.arr 3 QI),.ptr 4 4 [],.ptr 6 6 [],.ptr 10 10 []],[(.exit 2,[.sv 0 QL,.sv 1 QI,.sv 7 QI,.sv 8 .bool,.sv 13 QI,.sv 25 QI,.sv 26 QI,.own 24 1024 (.arr 3 QI),.box 4 (.arr 3 QI),.box 6 (.arr 3 QI),.box 10 (.arr 3 QI),.ptr 4 4 [],.ptr 6 6 [],.ptr 10 10 []])])],[(6,[(.normal,[.sv 0 QL,.sv 1 QI,.sv 21 .bool,.box 4 (.arr 3 QI),.ptr 4 4 []])]),(125343,[(.normal,[.sv 0 QL,.sv 1 QI,.sv 7 QI,.sv 8 .bool,.sv 13 QI,.sv 25 QI,.sv 26 QI,.sv 58 .bool,.own 24 1024 (.arr 3 QI),.box 4 (.arr 3 QI),.box 6 (.arr 3 QI),.box 10 (.arr 3 QI),.ptr 4 4 [],.ptr 6 6 [],.ptr 10 10 []])])],[]⟩
def a1D(x:(List Int)):Option (a2c×Bool):= (a9m (x,16,256)).bind fun y1=> cond (y1.2 != 0) (some ((0,0,0,0,0,[],a00 3 0,[],[],(0,[],()),[],()),false)) ((b1k (x,y1.1)).bind fun y2=> cond (y2.2 != 0) (some ((0,0,0,0,0,[],a00 3 0,[],[],(0,[],()),[],()),false)) ((a9j (x,y1.1,y2.1)).bind fun y3=> cond (y3.2 != 0) (some ((0,0,0,0,0,[],a00 3 0,[],[],(0,[],()),[],()),false)) ((a3q (y3.1,4,12)).bind fun y4=> cond (y4.2.2 != 0) (some ((0,0,0,0,0,[],a00 3 0,[],[],(0,[],()),[],()),false)) (some ((4,0,0,y4.2.1,y1.1,y4.1,y2.1,[],[],(0,[],()),[],()),true)))))
def c1N:FSem:=⟨[.v QL],[.v Q19,.v .bool],a1D⟩
def H37:Hints:=⟨[],[],[]⟩
def a0A(x:(Int×(Int×((List Int)×b2b)))):Option ((List Int)×b2b):= (a3q (x.2.2.1,x.1,x.2.1)).bind fun y1=> cond (y1.2.2==0) (cond (lim ((a03 x.2.2.2)+1)) (some (x.2.2.1,a04 x.2.2.2 ([(3,0,0,y1.2.1,0,y1.1,a00 3 0,[],[],(0,[],()),[],())]:List a2c))) none) (some (x.2.2.1,x.2.2.2))
def b4Q:FSem:=⟨[.v QI,.v QI,.r false (.b QL),.r false (.b (.list true Q19))],[],a0A⟩
def H35:Hints:=⟨[],[],[]⟩
def a2H(s:(Int×d2k)):Option ((Int×d2k) ⊕ d2k):= cond (decide (s.1<5)) (cond (lim ((a03 s.2.1)+1)) (some (.inl (wrap .i64 (s.1+1),a04 s.2.1 ([(2,0,s.1,0,0,[],a00 3 0,[],[],(0,[],()),[],())]:List a2c),s.2.2.1,()))) none) (some (.inr (s.2.1,s.2.2.1,())))
def a8A(x:((List Int)×Int)):Option b2b:= (a4Z x.1).bind fun y1=> (show Option (Int×((List Int)×c9i))from cond (decide (x.2≥1)) ((a0A (4,12,x.1,([(0,0,0,0,0,[],a00 3 0,[],[],(0,[],()),[],()),(1,0,0,0,0,[],a00 3 0,[],[],(0,[],()),[],()),(2,0,y1,0,0,[],a00 3 0,[],[],(0,[],()),[],())]:List a2c))).bind fun y2=> (a0A (8,12,y2.1,y2.2)).bind fun y3=> some (x.2,y3.1,y3.2,())) (some (x.2,x.1,([(0,0,0,0,0,[],a00 3 0,[],[],(0,[],()),[],()),(1,0,0,0,0,[],a00 3 0,[],[],(0,[],()),[],()),(2,0,y1,0,0,[],a00 3 0,[],[],(0,[],()),[],())]:List a2c),()))).bind fun z4=> (show Option (Int×d2k)from cond (decide (z4.1≥2)) (cond (lim ((a03 z4.2.2.1)+1)) (cond (lim ((a03 (a04 z4.2.2.1 ([(5,0,0,0,0,[],a00 3 0,([(16,4,())]:List (Int×Int×Unit)),[],(0,[],()),[],())]:List a2c)))+1)) ((a1D z4.2.1).bind fun y5=> cond y5.2 (cond (lim ((a03 (a04 (a04 z4.2.2.1 ([(5,0,0,0,0,[],a00 3 0,([(16,4,())]:List (Int×Int×Unit)),[],(0,[],()),[],())]:List a2c)) ([(5,0,0,0,0,[],a00 3 0,([(32,3,()),(16,5,())]:List (Int×Int×Unit)),[],(0,[],()),[],())]:List a2c)))+1)) (some (z4.1,a04 (a04 (a04 z4.2.2.1 ([(5,0,0,0,0,[],a00 3 0,([(16,4,())]:List (Int×Int×Unit)),[],(0,[],()),[],())]:List a2c)) ([(5,0,0,0,0,[],a00 3 0,([(32,3,()),(16,5,())]:List (Int×Int×Unit)),[],(0,[],()),[],())]:List a2c)) ([y5.1]:List a2c),z4.2.1,())) none) (some (z4.1,a04 (a04 z4.2.2.1 ([(5,0,0,0,0,[],a00 3 0,([(16,4,())]:List (Int×Int×Unit)),[],(0,[],()),[],())]:List a2c)) ([(5,0,0,0,0,[],a00 3 0,([(32,3,()),(16,5,())]:List (Int×Int×Unit)),[],(0,[],()),[],())]:List a2c),z4.2.1,()))) none) none) (some (z4.1,z4.2.2.1,z4.2.1,()))).bind fun z6=> (show Option c9i from cond (decide (z6.1≥3)) ((a0e a2H (0,z6.2.1,z6.2.2.1,())).bind fun w7=> (a0A (1,12,w7.2.1,w7.1)).bind fun y8=> (a0A (2,12,y8.1,y8.2)).bind fun y9=> (a0A (12,14,y9.1,y9.2)).bind fun y10=> (a0A (16,14,y10.1,y10.2)).bind fun y11=> some (y11.2,())) (some (z6.2.1,()))).bind fun z12=> some z12.1
def b6H:FSem:=⟨[.v QL,.v QI],[.v (.list false Q19)],a8A⟩
def H15:Hints:=⟨[(4050,[.sv 50 QI,.box 5 (.list true Q19),.box 2 QL,.ptr 5 5 [],.clo 6 35 [2,5]],[(.exit 0,[.box 5 (.list true Q19),.box 2 QL,.ptr 5 5 [],.clo 6 35 [2,5]])])],[(15,[(.normal,[.sv 1 QI,.box 2 QL,.box 5 (.list true Q19),.ptr 2 2 [],.ptr 5 5 [],.clo 6 35 [2,5]])]),(31,[(.normal,[.sv 1 QI,.box 5 (.list true Q19),.box 2 QL,.ptr 5 5 [],.clo 6 35 [2,5]])]),(63,[(.normal,[.box 5 (.list true Q19),.ptr 5 5 []])])],[]⟩
def a8Z(s:((List Int)×(Int×Bool×b2b×d2q))):Option (((List Int)×(Int×Bool×b2b×d2q)) ⊕ b3Q):= cond (decide (s.2.2.2.2.2.1<s.2.2.2.2.1)) ((a0r s.2.2.2.1 s.2.2.2.2.2.1).bind fun x6=> (b2O (x6.1,s.1,x6)).bind fun y7=> cond (y7.2 != 0) (some (.inl (s.1,s.2.1,s.2.2.1,s.2.2.2.1,s.2.2.2.2.1,wrap .i64 (s.2.2.2.2.2.1+1),s.2.2.2.2.2.2.1,s.2.2.2.2.2.2.2.1,()))) ((b2W (y7.1,(s.1.length:Int))).bind fun y8=> (show Option ((List Int)×(Int×Bool×Int×b2b×Int×Int×Bool×d2r))from cond (!s.2.2.1) (some (s.1,s.2.1,s.2.2.1,y8,s.2.2.2.1,s.2.2.2.2.1,s.2.2.2.2.2.1,true,s.2.2.2.2.2.2.1,s.2.2.2.2.2.2.2.1,y7.1,())) (some (s.1,s.2.1,s.2.2.1,y8,s.2.2.2.1,s.2.2.2.2.1,s.2.2.2.2.2.1,decide (y8<s.2.1),s.2.2.2.2.2.2.1,s.2.2.2.2.2.2.2.1,y7.1,()))).bind fun z9=> cond z9.2.2.2.2.2.2.2.1 (some (.inl (z9.1,z9.2.2.2.1,true,z9.2.2.2.2.1,z9.2.2.2.2.2.1,wrap .i64 (z9.2.2.2.2.2.2.1+1),z9.2.2.2.2.2.2.2.2.1,z9.2.2.2.2.2.2.2.2.2.2.1,()))) (some (.inl (z9.1,z9.2.1,z9.2.2.1,z9.2.2.2.2.1,z9.2.2.2.2.2.1,wrap .i64 (z9.2.2.2.2.2.2.1+1),z9.2.2.2.2.2.2.2.2.1,z9.2.2.2.2.2.2.2.2.2.1,()))))) (some (.inr (s.2.2.2.2.2.2.1,s.2.2.2.2.2.2.2.1,())))
def b0A(x:((List Int)×Int)):Option a9T:= (show Option ((List Int)×c1D)from cond (decide ((x.1.length:Int)<1)) (some (x.1,x.2,true,(0,0,0,0,0,[],a00 3 0,[],[],(0,[],()),[],()),())) (cond (decide ((x.1.length:Int) > 4096)) (some (x.1,x.2,true,(0,0,0,0,0,[],a00 3 0,[],[],(0,[],()),[],()),())) (cond (decide (x.2<0)) (some (x.1,x.2,true,(0,0,0,0,0,[],a00 3 0,[],[],(0,[],()),[],()),())) (some (x.1,x.2,decide (x.2 > 3),(0,0,0,0,0,[],a00 3 0,[],[],(0,[],()),[],()),()))))).bind fun z1=> cond z1.2.2.1 (some ((0,0,0,0,0,[],a00 3 0,[],[],(0,[],()),[],()),1)) ((a2P z1.1).bind fun y2=> cond (!y2) (some ((0,0,0,0,0,[],a00 3 0,[],[],(0,[],()),[],()),6)) ((a5j z1.1).bind fun y3=> (a8R (z1.1,y3)).bind fun y4=> cond (y4.2 != 0) (some ((0,0,0,0,0,[],a00 3 0,[],[],(0,[],()),[],()),y4.2)) ((a8A (y4.1,z1.2.1)).bind fun y5=> (a0e a8Z (z1.1,0,false,y5,(y5.length:Int),0,z1.2.2.2.1,(0,0,0,0,0,[],a00 3 0,[],[],(0,[],()),[],()),())).bind fun w10=> some (w10.2.1,0))))
def b9S:FSem:=⟨[.v QL,.v QI],[.v Q19,.v QI],b0A⟩
def H5:Hints:=⟨[(2042,[.sv 0 QL,.sv 9 QI,.sv 10 .bool,.sv 50 (.list false Q19),.sv 51 QI,.sv 52 QI,.box 4 Q19,.box 8 Q19,.ptr 4 4 [],.ptr 8 8 []],[(.exit 0,[.box 4 Q19,.box 8 Q19,.ptr 4 4 [],.ptr 8 8 []])])],[(6,[(.normal,[.sv 0 QL,.sv 1 QI,.sv 31 .bool,.box 4 Q19,.ptr 4 4 []])]),(1045711,[(.normal,[.sv 0 QL,.sv 9 QI,.sv 10 .bool,.sv 15 QI,.sv 50 (.list false Q19),.sv 51 QI,.sv 52 QI,.sv 76 .bool,.box 4 Q19,.box 8 Q19,.box 13 Q19,.ptr 4 4 [],.ptr 8 8 [],.ptr 13 13 []])])],[]⟩
def a6t(s:((List Int)×Z4)):Option (((List Int)×Z4) ⊕ Z0):= cond (decide (s.2.2.1<(s.1.length:Int))) ((a0r s.1 s.2.2.1).bind fun x1=> (a0r s.2.1 s.2.2.1).bind fun x2=> cond (x1 != x2) (some (.inr (Sum.inr ((false,()))))) (some (.inl (s.1,s.2.1,wrap .i64 (s.2.2.1+1),())))) (some (.inr (Sum.inl ())))
def a2i(x:((List Int)×(List Int))):Option Bool:= cond ((x.1.length:Int) != (x.2.length:Int)) (some false) ((a0e a6t (x.1,x.2,0,())).bind fun w3=> match w3 with |.inl a4=>some true |.inr b5=>some b5.1)
def a9a:FSem:=⟨[.v QL,.v QL],[.v .bool],a2i⟩
def H9:Hints:=⟨[(58,[.sv 0 QL,.sv 1 QL,.sv 5 QI],[(.exit 0,[]),(.ret,[.sv 4 .bool])])],[],[(6,[.v,.v,.v,.v,.v,.v,.v,.v,.x])]⟩
def b8v(x:Unit):Option Bool:= (b2O (2,[4,8,12,16],0,0,1,0,0,[],a00 3 0,[],[],(0,[],()),[],())).bind fun y1=> (b2o (y1.1,4)).bind fun y2=> (b0A ([6,6,6],0)).bind fun y3=> cond (y1.2==0) (cond (y2.2==0) (cond (y3.2==0) (cond (y1.1.2.1==2) ((a2i (y1.1.2.2.2.2.2.2.2.2.1,[1])).bind fun y4=> cond y4 ((a2i (y1.1.2.2.2.2.2.2.2.2.2.2.1,[1,1,1])).bind fun y5=> cond y5 ((a2i (y2.1,[4,8,12,16])).bind fun y6=> cond y6 (cond (y3.1.1==0) ((a2i (y3.1.2.2.2.2.2.2.2.2.1,[6])).bind fun y7=> cond y7 ((b2W (y3.1,3)).bind fun y8=> some (y8==17)) (some false)) (some false)) (some false)) (some false)) (some false)) (some false)) (some false)) (some false)) (some false)
def c3s:FSem:=⟨[],[.v .bool],b8v⟩
def H4:Hints:=⟨[],[],[]⟩
def a3D(x:Int):Option Bool:= cond (decide (x≥(-1073741824))) (some (decide (x<1073741824))) (some false)
def a5X:FSem:=⟨[.v QI],[.v .bool],a3D⟩
def H38:Hints:=⟨[],[],[]⟩
def a7k(s:Z4):Option Z55:= cond (decide (s.2.1<(s.1.length:Int))) ((a0r s.1 s.2.1).bind fun x1=> (a3D x1).bind fun y2=> cond (!y2) (some (.inr (Sum.inr ((false,()))))) (some (.inl (s.1,wrap .i64 (s.2.1+1),())))) (some (.inr (Sum.inl ())))
def a0H(x:(List Int)):Option Bool:= (a0e a7k (x,0,())).bind fun w3=> match w3 with |.inl a4=>some true |.inr b5=>some b5.1
def a1l:FSem:=⟨[.v QL],[.v .bool],a0H⟩
def H16:Hints:=⟨[(26,[.sv 0 QL,.sv 3 QI],[(.exit 0,[]),(.ret,[.sv 2 .bool])])],[],[]⟩
def b0B(s:Z14):Option Z54:= cond (decide (s.2.2.1<(s.1.length:Int))) ((a0r s.1 s.2.2.1).bind fun x1=> some (.inl (s.1,bits .i64 .or s.2.1 x1,wrap .i64 (s.2.2.1+1),()))) (some (.inr (s.2.1,())))
def a6h(s:(Int×Int×Unit)):Option ((Int×Int×Unit) ⊕ (Int×Unit)):= cond (s.1 != 0) (cond (decide (s.2.1<30)) (cond (decide ((wrap .u64 s.2.1)<0)) none (cond ((bits .i64 .and (a0m .i64 s.1 (wrap .u64 s.2.1)) 1)==0) (some (.inl (s.1,wrap .i64 (s.2.1+1),()))) (some (.inr (s.2.1,()))))) (some (.inr (s.2.1,())))) (some (.inr (s.2.1,())))
def a7I(x:(List Int)):Option Int:= (a0e b0B (x,0,0,())).bind fun w2=> (a0e a6h (w2.1,0,())).bind fun w3=> some w3.1
def b4u:FSem:=⟨[.v QL],[.v QI],a7I⟩
def H18:Hints:=⟨[(58,[.sv 0 QL,.sv 3 QI,.sv 4 QI],[(.exit 0,[.sv 3 QI])]),(124,[.sv 3 QI,.sv 5 QI],[(.exit 2,[.sv 5 QI])])],[],[]⟩
def c9l(s:Z4):Option Z55:= cond (decide (s.2.1<(s.1.length:Int))) ((a0r s.1 s.2.1).bind fun x1=> cond (x1 != 0) (some (.inr (Sum.inr ((false,()))))) (some (.inl (s.1,wrap .i64 (s.2.1+1),())))) (some (.inr (Sum.inl ())))
def c7m(x:(List Int)):Option Bool:= (a0e c9l (x,0,())).bind fun w2=> match w2 with |.inl a3=>some true |.inr b4=>some b4.1
def c7n:FSem:=⟨[.v QL],[.v .bool],c7m⟩
def H39:Hints:=⟨[(26,[.sv 0 QL,.sv 3 QI],[(.exit 0,[]),(.ret,[.sv 2 .bool])])],[],[]⟩
def b2X(s:Z41):Option (Z41 ⊕ ((List Int)×Unit)):= cond (decide (s.2.2.1<(s.1.length:Int))) ((a0r s.1 s.2.2.1).bind fun x6=> cond (decide ((wrap .u64 s.2.1)<0)) none (cond (lim ((a03 s.2.2.2.1)+1)) (some (.inl (s.1,s.2.1,wrap .i64 (s.2.2.1+1),a04 s.2.2.2.1 [a0m .i64 x6 (wrap .u64 s.2.1)],()))) none)) (some (.inr (s.2.2.2.1,())))
def b4R(x:((List Int)×Int)):Option ((List Int)×Int):= (show Option Z18 from cond (decide (x.2<0)) (some (x.1,x.2,true,())) (some (x.1,x.2,decide (x.2 > 30),()))).bind fun z1=> cond z1.2.2.1 (some ([],1)) ((show Option Z18 from(a0H z1.1).bind fun y2=> cond (!y2) (some (z1.1,z1.2.1,true,())) ((a7I z1.1).bind fun y3=> cond (decide (y3<z1.2.1)) ((c7m z1.1).bind fun y4=> some (z1.1,z1.2.1,!y4,())) (some (z1.1,z1.2.1,false,())))).bind fun z5=> cond z5.2.2.1 (some ([],6)) ((a0e b2X (z5.1,z5.2.1,0,[],())).bind fun w7=> some (w7.1,0)))
def c1O:FSem:=⟨[.v QL,.v QI],[.o QI,.v QI],b4R⟩
def H17:Hints:=⟨[(250,[.sv 0 QL,.sv 1 QI,.sv 7 QI,.own 6 6 QI],[(.exit 0,[.own 6 6 QI])])],[(6,[(.normal,[.sv 0 QL,.sv 1 QI,.sv 13 .bool])]),(14,[(.normal,[.sv 0 QL,.sv 1 QI,.sv 27 .bool])])],[]⟩
def a5a(s:Z81):Option (Z81 ⊕ Z41):= cond (decide (s.2.2.2.2.1<(s.2.2.1.length:Int))) ((a0r s.2.2.1 s.2.2.2.2.1).bind fun x2=> (a0r s.2.2.1 (wrap .i64 (s.2.2.2.2.1-1))).bind fun x3=> cond (lim ((a03 s.2.2.2.2.2.1)+1)) (some (.inl (s.1,s.2.1,s.2.2.1,s.2.2.2.1,wrap .i64 (s.2.2.2.2.1+1),a04 s.2.2.2.2.2.1 [wrap .i64 (x2-x3)],()))) none) (some (.inr (s.1,s.2.1,s.2.2.2.1,s.2.2.2.2.2.1,())))
def a7l(s:((List Int)×Z16)):Option (((List Int)×Z16) ⊕ Z13):= cond (decide (s.2.2.2.1<s.2.1)) ((a0e a5a (s.1,s.2.1,s.2.2.1,s.2.2.2.1,1,[],())).bind fun w4=> some (.inl (w4.1,w4.2.1,w4.2.2.2.1,wrap .i64 (w4.2.2.1+1),()))) (some (.inr (s.1,s.2.2.1,())))
def a3g(x:((List Int)×Int)):Option ((List Int)×Int):= (show Option Z18 from cond (decide (x.2<0)) (some (x.1,x.2,true,())) (cond (decide (x.2 > 4)) (some (x.1,x.2,true,())) (some (x.1,x.2,decide ((x.1.length:Int)<x.2),())))).bind fun z1=> cond z1.2.2.1 (some ([],1)) (cond (lim (0+(a03 z1.1))) ((a0e a7l (z1.1,z1.2.1,a04 [] z1.1,0,())).bind fun w5=> (show Option Z7 from(a0H w5.1).bind fun y6=> cond (!y6) (some (w5.2.1,true,())) ((a0H w5.2.1).bind fun y7=> some (w5.2.1,!y7,()))).bind fun z8=> cond z8.2.1 (some ([],6)) (some (z8.1,0))) none)
def a9A:FSem:=⟨[.v QL,.v QI],[.v QL,.v QI],a3g⟩
def H84:Hints:=⟨[(122,[.sv 0 QL,.sv 1 QI,.sv 6 QL,.sv 7 QI],[(.exit 0,[.sv 0 QL,.sv 6 QL])]),(31306,[.sv 0 QL,.sv 1 QI,.sv 6 QL,.sv 7 QI,.sv 9 QI,.own 8 8 QI],[(.exit 2,[.sv 0 QL,.sv 1 QI,.sv 7 QI,.own 8 8 QI])])],[(6,[(.normal,[.sv 0 QL,.sv 1 QI,.sv 21 .bool])]),(62,[(.normal,[.sv 6 QL,.sv 57 .bool])])],[(11,[.q,.q,.v,.q,.q,.q,.v,.v,.q,.q,.v,.q,.x,.x])]⟩
def b4S(x:Int):Option Int:= some (a1r x (wrap .i64 (0-x)))
def c1P:FSem:=⟨[.v QI],[.v QI],b4S⟩
def e0j:Hints:=⟨[],[],[]⟩
def a8i(s:Z14):Option Z54:= cond (decide (s.2.2.1<(s.1.length:Int))) ((a0r s.1 s.2.2.1).bind fun x1=> (b4S x1).bind fun y2=> some (.inl (s.1,wrap .i64 (s.2.1+y2),wrap .i64 (s.2.2.1+1),()))) (some (.inr (s.2.1,())))
def a9n(x:((List Int)×Int)):Option Int:= (a0e a8i (x.1,0,a1r x.2 0,())).bind fun w3=> some w3.1
def b8w:FSem:=⟨[.v QL,.v QI],[.v QI],a9n⟩
def e0k:Hints:=⟨[(58,[.sv 0 QL,.sv 5 QI,.sv 6 QI],[(.exit 0,[.sv 5 QI])])],[],[]⟩
def a7N(x:((List Int)×Int)):Option Int:= (a3g (x.1,x.2)).bind fun y1=> cond (y1.2 != 0) (some 0) ((a9n (y1.1,wrap .i64 (4-x.2))).bind fun y2=> some y2)
def b5v:FSem:=⟨[.v QL,.v QI],[.v QI],a7N⟩
def H85:Hints:=⟨[],[],[]⟩
def a2N(s:Z31):Option (Z31 ⊕ (Int×Unit)):= cond (decide (s.2.2.2.1<5)) ((a3g (s.1,s.2.2.2.1)).bind fun y1=> (a7N (s.1,s.2.2.2.1)).bind fun y2=> (show Option ((List Int)×Z39)from cond (y1.2==0) (cond (decide (s.2.1<0)) (some (s.1,s.2.1,s.2.2.1,s.2.2.2.1,y2,true,())) (some (s.1,s.2.1,s.2.2.1,s.2.2.2.1,y2,decide (y2<s.2.2.1),()))) (some (s.1,s.2.1,s.2.2.1,s.2.2.2.1,y2,false,()))).bind fun z3=> cond z3.2.2.2.2.2.1 (some (.inl (z3.1,z3.2.2.2.1,z3.2.2.2.2.1,wrap .i64 (z3.2.2.2.1+1),()))) (some (.inl (z3.1,z3.2.1,z3.2.2.1,wrap .i64 (z3.2.2.2.1+1),())))) (some (.inr (s.2.1,())))
def a7m(x:(List Int)):Option Int:= (a0e a2N (x,(-1),0,0,())).bind fun w4=> some (a1r w4.1 0)
def b7B:FSem:=⟨[.v QL],[.v QI],a7m⟩
def H40:Hints:=⟨[(58,[.sv 0 QL,.sv 3 QI,.sv 4 QI,.sv 5 QI],[(.exit 0,[.sv 3 QI])])],[(3731,[(.normal,[.sv 0 QL,.sv 3 QI,.sv 4 QI,.sv 5 QI,.sv 8 QI,.sv 32 .bool])])],[]⟩
def b0C(x:Int):Option Int:= some (a2d (a1r x (-1048576)) 1048575)
def b9T:FSem:=⟨[.v QI],[.v QI],b0C⟩
def e0l:Hints:=⟨[],[],[]⟩
def a5l(s:Z22):Option (Z22 ⊕ Z6):= cond (decide (s.2.1<(s.2.2.1.length:Int))) (cond s.1 (cond ((decide (0≤s.2.1))&&(decide (s.2.1<(s.2.2.1.length:Int)))) ((b0C (a02 s.2.2.1 (a01 s.2.1) 0)).bind fun y2=> cond ((decide (0≤s.2.1))&&(decide (s.2.1<(s.2.2.1.length:Int)))) (some (.inl (y2==(a02 s.2.2.1 (a01 s.2.1) 0),wrap .i64 (s.2.1+1),s.2.2.1,()))) none) none) (some (.inl (false,wrap .i64 (s.2.1+1),s.2.2.1,())))) (some (.inr (s.1,s.2.2.1,())))
def a7n(s:Z3):Option (Z3 ⊕ ((List Int)×Unit)):= cond (decide (s.1<(s.2.1.length:Int))) (cond ((decide (0≤s.1))&&(decide (s.1<(s.2.1.length:Int)))) (cond ((decide (0≤s.1))&&(decide (s.1<(s.2.1.length:Int)))) (some (.inl (wrap .i64 (s.1+1),a05 s.2.1 (a01 s.1) (a0m .i64 (a02 s.2.1 (a01 s.1) 0) 1),()))) none) none) (some (.inr (s.2.1,())))
def a7o(s:((List Int)×Unit)):Option (((List Int)×Unit) ⊕ ((List Int)×Unit)):= (a0e a5l (true,0,s.1,())).bind fun w3=> cond w3.1 (some (.inr (w3.2.1,()))) ((a0e a7n (0,w3.2.1,())).bind fun w4=> some (.inl (w4.1,())))
def a8j(x:(List Int)):Option (List Int):= cond (lim (0+(a03 x))) ((a0e a7o (a04 [] x,())).bind fun w5=> some w5.1) none
def c1Q:FSem:=⟨[.v QL],[.o QI],a8j⟩
def e0m:Hints:=⟨[(14,[.own 3 3 QI],[(.ret,[.own 2 3 QI])]),(906,[.sv 4 .bool,.sv 5 QI,.own 3 3 QI],[(.exit 2,[.sv 4 .bool,.own 3 3 QI])]),(1822,[.sv 6 QI,.own 3 3 QI],[(.exit 4,[.own 3 3 QI])])],[],[(6,[.x,.x,.q,.v,.q,.q,.v,.q,.v,.q,.q,.x,.x,.x])]⟩
def b9U(x:(Int×Int)):Option Int:= cond (x.2==0) none ((show Option (Int×Unit)from cond (x.2==0) none (cond (decide ((a26 x.1 x.2)<0)) (some (wrap .i64 ((wrap .i64 (a23 x.1 x.2))-1),())) (some (wrap .i64 (a23 x.1 x.2),())))).bind fun z1=> some z1.1)
def c5i:FSem:=⟨[.v QI,.v QI],[.v QI],b9U⟩
def e0n:Hints:=⟨[],[(7,[(.normal,[.sv 5 QI])])],[]⟩
def a9u(s:Z60):Option (Z60 ⊕ (Int×Int×Unit)):= cond (decide (s.2.2.2.2.1<(s.1.length:Int))) ((a0r s.1 s.2.2.2.2.1).bind fun x1=> (a0r s.2.1 (wrap .i64 (s.2.2.2.2.1-1))).bind fun x2=> (a0r s.1 s.2.2.2.2.1).bind fun x3=> (a0r s.1 s.2.2.2.2.1).bind fun x4=> (a0r s.2.1 (wrap .i64 (s.2.2.2.2.1-1))).bind fun x5=> (a0r s.2.1 (wrap .i64 (s.2.2.2.2.1-1))).bind fun x6=> some (.inl (s.1,s.2.1,wrap .i64 (s.2.2.1+(wrap .i64 (x1*x2))),wrap .i64 ((wrap .i64 (s.2.2.2.1+(wrap .i64 (x3*x4))))+(wrap .i64 (x5*x6))),wrap .i64 (s.2.2.2.2.1+1),()))) (some (.inr (s.2.2.1,s.2.2.2.1,())))
def b3E(s:(Int×Int×Unit)):Option ((Int×Int×Unit) ⊕ (Int×Int×Unit)):= cond (decide (s.2.1≥1099511627776)) (some (.inl (a0m .i64 s.1 1,a0m .i64 s.2.1 1,()))) (some (.inr (s.1,s.2.1,())))
def a6u(x:Z11):Option Int:= (a0e a9u (x.1,x.2.1,0,0,x.2.2,())).bind fun w7=> (a0e b3E (w7.1,w7.2.1,())).bind fun w8=> cond (w8.2.1==0) (some 0) ((b9U (wrap .i64 (w8.1*32768),w8.2.1)).bind fun y9=> some (a2d (a1r y9 (-16383)) 16383))
def b6I:FSem:=⟨[.v QL,.v QL,.v QI],[.v QI],a6u⟩
def e0o:Hints:=⟨[(58,[.sv 0 QL,.sv 1 QL,.sv 7 QI,.sv 8 QI,.sv 9 QI],[(.exit 0,[.sv 7 QI,.sv 8 QI])]),(60,[.sv 7 QI,.sv 8 QI],[(.exit 2,[.sv 7 QI,.sv 8 QI])])],[],[(5,[.v,.v,.v,.v,.v,.v,.v,.v,.v,.v,.v,.x,.x]),(6,[.v,.v,.v,.v,.v,.v,.v,.v,.v,.v,.v,.v,.v,.v,.v,.v,.v,.v,.v,.v,.v,.v,.x,.x])]⟩
def a2D(s:(Int×((List Int)×Z82))):Option ((Int×((List Int)×Z82)) ⊕ Z82):= cond (decide (s.2.2.2.2.1<(s.2.2.2.2.2.1.length:Int))) (cond ((decide (0≤s.2.2.2.2.1))&&(decide (s.2.2.2.2.1<(s.2.2.2.2.2.1.length:Int)))) ((a0r s.2.1 (wrap .i64 (s.2.2.2.2.1-1))).bind fun x6=> (b0C (wrap .i64 ((a02 s.2.2.2.2.2.1 (a01 s.2.2.2.2.1) 0)-(a0m .i64 (wrap .i64 (s.2.2.2.1*x6)) 14)))).bind fun y7=> cond ((decide (0≤s.2.2.2.2.1))&&(decide (s.2.2.2.2.1<(s.2.2.2.2.2.1.length:Int)))) ((b0C (wrap .i64 (x6-(a0m .i64 (wrap .i64 (s.2.2.2.1*(a02 s.2.2.2.2.2.1 (a01 s.2.2.2.2.1) 0))) 14)))).bind fun y8=> cond ((decide (0≤s.2.2.2.2.1))&&(decide (s.2.2.2.2.1<(s.2.2.2.2.2.2.2.1.length:Int)))) (some (.inl (s.1,s.2.1,s.2.2.1,s.2.2.2.1,wrap .i64 (s.2.2.2.2.1+1),a05 s.2.2.2.2.2.1 (a01 s.2.2.2.2.1) y7,s.2.2.2.2.2.2.1,a05 s.2.2.2.2.2.2.2.1 (a01 s.2.2.2.2.1) y8,()))) none) none) none) (some (.inr (s.1,s.2.2.1,s.2.2.2.1,s.2.2.2.2.2.1,s.2.2.2.2.2.2.1,s.2.2.2.2.2.2.2.1,())))
def a4T(s:(Int×((List Int)×Z26))):Option ((Int×((List Int)×Z26)) ⊕ ((List Int)×Unit)):= cond (decide (s.2.2.1≤s.1)) ((a6u (s.2.2.2.1,s.2.1,s.2.2.1)).bind fun y5=> cond (lim (0+(a03 s.2.1))) ((a0e a2D (s.1,s.2.1,s.2.2.1,y5,s.2.2.1,s.2.2.2.1,s.2.2.2.2.1,a04 [] s.2.1,())).bind fun w9=> cond (lim ((a03 w9.2.2.2.2.1)+1)) (some (.inl (w9.1,w9.2.2.2.2.2.1,wrap .i64 (w9.2.1+1),w9.2.2.2.1,a04 w9.2.2.2.2.1 [w9.2.2.1],()))) none) none) (some (.inr (s.2.2.2.2.1,())))
def a6D(x:((List Int)×Int)):Option ((List Int)×Int):= (show Option Z18 from cond (decide (x.2<1)) (some (x.1,x.2,true,())) (cond (decide (x.2 > 32)) (some (x.1,x.2,true,())) (some (x.1,x.2,decide ((x.1.length:Int) > 4096),())))).bind fun z1=> cond z1.2.2.1 (some ([],1)) ((a0H z1.1).bind fun y2=> cond (!y2) (some ([],6)) ((a8j z1.1).bind fun y3=> (a8j z1.1).bind fun y4=> (a0e a4T (z1.2.1,y4,1,y3,[],())).bind fun w10=> some (w10.1,0)))
def b3F:FSem:=⟨[.v QL,.v QI],[.o QI,.v QI],a6D⟩
def e0p:Hints:=⟨[(506,[.sv 1 QI,.sv 7 QL,.sv 9 QI,.own 6 6 QI,.own 8 8 QI],[(.exit 0,[.own 8 8 QI])]),(259226,[.sv 1 QI,.sv 7 QL,.sv 9 QI,.sv 10 QI,.sv 12 QI,.own 6 6 QI,.own 8 8 QI,.own 11 11 QI],[(.exit 2,[.sv 1 QI,.sv 9 QI,.sv 10 QI,.own 6 6 QI,.own 8 8 QI,.own 11 11 QI])])],[(6,[(.normal,[.sv 0 QL,.sv 1 QI,.sv 25 .bool])])],[(15,[.q,.v,.q,.q,.q,.v,.v,.q,.q,.v,.x])]⟩
def a2w(s:Z4):Option (Z4 ⊕ Z45):= cond (decide (s.2.1<(s.1.length:Int))) ((show Option Z18 from(a0r s.1 s.2.1).bind fun x2=> cond (decide (x2≤(-16384))) (some (s.1,s.2.1,true,())) ((a0r s.1 s.2.1).bind fun x3=> some (s.1,s.2.1,decide (x3≥16384),()))).bind fun z4=> cond z4.2.2.1 (some (.inr (Sum.inr ((1,[],()))))) (some (.inl (z4.1,wrap .i64 (z4.2.1+1),())))) (some (.inr (Sum.inl (s.1,()))))
def a4c(s:Z68):Option (Z68 ⊕ Z28):= cond (decide (s.2.2.1<s.2.1)) (cond ((decide (0≤s.2.2.1))&&(decide (s.2.2.1<(s.2.2.2.2.1.length:Int)))) ((a0r s.1 s.2.1).bind fun x8=> cond ((decide (0≤(wrap .i64 ((wrap .i64 (s.2.1-1))-s.2.2.1))))&&(decide ((wrap .i64 ((wrap .i64 (s.2.1-1))-s.2.2.1))<(s.2.2.2.2.1.length:Int)))) (cond ((decide (0≤s.2.2.1))&&(decide (s.2.2.1<(s.2.2.2.1.length:Int)))) (some (.inl (s.1,s.2.1,wrap .i64 (s.2.2.1+1),a05 s.2.2.2.1 (a01 s.2.2.1) (wrap .i64 ((a02 s.2.2.2.2.1 (a01 s.2.2.1) 0)-(a0m .i64 (wrap .i64 (x8*(a02 s.2.2.2.2.1 (a01 (wrap .i64 ((wrap .i64 (s.2.1-1))-s.2.2.1))) 0))) 14))),s.2.2.2.2.1,()))) none) none) none) (some (.inr (s.1,s.2.1,s.2.2.2.1,())))
def a5P(s:Z28):Option (Z28 ⊕ ((List Int)×Unit)):= cond (decide (s.2.1<(s.1.length:Int))) (cond (lim (0+(a03 s.2.2.1))) ((a0e a4c (s.1,s.2.1,0,s.2.2.1,a04 [] s.2.2.1,())).bind fun w9=> (a0r w9.1 w9.2.1).bind fun x10=> cond (lim ((a03 w9.2.2.1)+1)) (some (.inl (w9.1,wrap .i64 (w9.2.1+1),a04 w9.2.2.1 [x10],()))) none) none) (some (.inr (s.2.2.1,())))
def a5C(x:(List Int)):Option ((List Int)×Int):= (show Option Z7 from cond (decide ((x.length:Int)<1)) (some (x,true,())) (some (x,decide ((x.length:Int) > 32),()))).bind fun z1=> cond z1.2.1 (some ([],1)) ((a0e a2w (z1.1,0,())).bind fun w5=> match w5 with |.inl a6=>((a0e a5P (a6.1,0,[],())).bind fun w11=> some (w11.1,0)) |.inr b7=>some (b7.2.1,b7.1))
def b5w:FSem:=⟨[.v QL],[.o QI,.v QI],a5C⟩
def e0q:Hints:=⟨[(58,[.sv 0 QL,.sv 4 QI],[(.exit 0,[.sv 0 QL]),(.ret,[.sv 3 QI,.own 2 2 QI])]),(250,[.sv 0 QL,.sv 6 QI,.own 5 5 QI],[(.exit 2,[.own 5 5 QI])]),(64074,[.sv 0 QL,.sv 6 QI,.sv 8 QI,.own 5 5 QI,.own 7 7 QI],[(.exit 4,[.sv 0 QL,.sv 6 QI,.own 5 5 QI])])],[(6,[(.normal,[.sv 0 QL,.sv 16 .bool])]),(932,[(.normal,[.sv 0 QL,.sv 4 QI,.sv 34 .bool])])],[(16,[.q,.v,.q,.v,.q,.q,.v,.v,.v,.v,.q,.v,.v,.v,.v,.q,.q,.v,.v,.v,.x,.x])]⟩
def c4c(x:Int):Option Int:= (show Option (Int×Bool×Unit)from cond (decide (x<1)) (some (x,true,())) (some (x,decide (x > 31),()))).bind fun z1=> cond z1.2.1 (some 0) (cond (decide ((wrap .u64 (wrap .i64 (z1.1-1)))<0)) none (some (a0D .i64 (-1) (wrap .u64 (wrap .i64 (z1.1-1))))))
def c9m:FSem:=⟨[.v QI],[.v QI],c4c⟩
def e0r:Hints:=⟨[],[(6,[(.normal,[.sv 0 QI,.sv 8 .bool])])],[]⟩
def c1R(x:Int):Option Int:= (show Option (Int×Bool×Unit)from cond (decide (x<1)) (some (x,true,())) (some (x,decide (x > 31),()))).bind fun z1=> cond z1.2.1 (some 0) (cond (decide ((wrap .u64 (wrap .i64 (z1.1-1)))<0)) none (some (wrap .i64 ((a0D .i64 1 (wrap .u64 (wrap .i64 (z1.1-1))))-1))))
def c7o:FSem:=⟨[.v QI],[.v QI],c1R⟩
def e0s:Hints:=⟨[],[(6,[(.normal,[.sv 0 QI,.sv 8 .bool])])],[]⟩
def b2p(x:(Int×Int)):Option Bool:= cond (decide (x.2≥1)) (cond (decide (x.2≤31)) ((c4c x.2).bind fun y1=> cond (decide (x.1≥y1)) ((c1R x.2).bind fun y2=> some (decide (x.1≤y2))) (some false)) (some false)) (some false)
def c1S:FSem:=⟨[.v QI,.v QI],[.v .bool],b2p⟩
def e0t:Hints:=⟨[],[],[]⟩
def a2x(s:Z14):Option (Z14 ⊕ (Z4 ⊕ Z15)):= cond (decide (s.2.2.1<(s.1.length:Int))) ((show Option Z32 from(a0r s.1 s.2.2.1).bind fun x2=> cond (decide (x2<(-35184372088832))) (some (s.1,s.2.1,s.2.2.1,true,())) ((a0r s.1 s.2.2.1).bind fun x3=> some (s.1,s.2.1,s.2.2.1,decide (x3 > 35184372088832),()))).bind fun z4=> cond z4.2.2.2.1 (some (.inr (Sum.inr ((0,1,[],()))))) (some (.inl (z4.1,z4.2.1,wrap .i64 (z4.2.2.1+1),())))) (some (.inr (Sum.inl (s.1,s.2.1,()))))
def a2T(s:((List Int)×(Int×Int×Int×Z22))):Option (((List Int)×(Int×Int×Int×Z22)) ⊕ Z62):= cond (decide (s.2.2.2.2.2.1<(s.1.length:Int))) ((a0r s.1 s.2.2.2.2.2.1).bind fun x9=> cond (decide ((wrap .u64 s.2.2.1)<0)) none (cond (lim ((a03 s.2.2.2.2.2.2.1)+1)) (cond s.2.2.2.2.1 ((b2p (a0m .i64 (wrap .i64 (x9+s.2.2.2.1)) (wrap .u64 s.2.2.1),s.2.1)).bind fun y10=> some (.inl (s.1,s.2.1,s.2.2.1,s.2.2.2.1,y10,wrap .i64 (s.2.2.2.2.2.1+1),a04 s.2.2.2.2.2.2.1 [a0m .i64 (wrap .i64 (x9+s.2.2.2.1)) (wrap .u64 s.2.2.1)],()))) (some (.inl (s.1,s.2.1,s.2.2.1,s.2.2.2.1,false,wrap .i64 (s.2.2.2.2.2.1+1),a04 s.2.2.2.2.2.2.1 [a0m .i64 (wrap .i64 (x9+s.2.2.2.1)) (wrap .u64 s.2.2.1)],())))) none)) (some (.inr (s.1,s.2.1,s.2.2.1,s.2.2.2.2.1,s.2.2.2.2.2.2.1,())))
def a4d(s:Z14):Option (Z14 ⊕ (Unit ⊕ Z15)):= cond (decide (s.2.2.1≤14)) ((show Option Z31 from cond (decide (s.2.2.1 > 0)) (cond (decide ((wrap .u64 (wrap .i64 (s.2.2.1-1)))<0)) none (some (s.1,s.2.1,s.2.2.1,a0D .i64 1 (wrap .u64 (wrap .i64 (s.2.2.1-1))),()))) (some (s.1,s.2.1,s.2.2.1,0,()))).bind fun z8=> (a0e a2T (z8.1,z8.2.1,z8.2.2.1,z8.2.2.2.1,true,0,[],())).bind fun w11=> cond w11.2.2.2.1 (some (.inr (Sum.inr ((wrap .i64 (14-w11.2.2.1),0,w11.2.2.2.2.1,()))))) (some (.inl (w11.1,w11.2.1,wrap .i64 (w11.2.2.1+1),())))) (some (.inr (Sum.inl ())))
def a7O(x:((List Int)×Int)):Option Z2:= (show Option Z18 from cond (decide ((x.1.length:Int)<1)) (some (x.1,x.2,true,())) (cond (decide ((x.1.length:Int) > 32)) (some (x.1,x.2,true,())) (cond (decide (x.2<2)) (some (x.1,x.2,true,())) (some (x.1,x.2,decide (x.2 > 16),()))))).bind fun z1=> cond z1.2.2.1 (some ([],0,1)) ((a0e a2x (z1.1,z1.2.1,0,())).bind fun w5=> match w5 with |.inl a6=>((a0e a4d (a6.1,a6.2.1,0,())).bind fun w12=> match w12 with |.inl a13=>some ([],0,6) |.inr b14=>some (b14.2.2.1,b14.1,b14.2.1)) |.inr b7=>some (b7.2.2.1,b7.1,b7.2.1))
def b5x:FSem:=⟨[.v QL,.v QI],[.o QI,.v QI,.v QI],a7O⟩
def e0u:Hints:=⟨[(58,[.sv 0 QL,.sv 1 QI,.sv 7 QI],[(.exit 0,[.sv 0 QL,.sv 1 QI]),(.ret,[.sv 5 QI,.sv 6 QI,.own 4 4 QI])]),(122,[.sv 0 QL,.sv 1 QI,.sv 8 QI],[(.exit 2,[]),(.ret,[.sv 5 QI,.sv 6 QI,.own 4 10 QI])]),(250490,[.sv 0 QL,.sv 1 QI,.sv 8 QI,.sv 9 QI,.sv 11 .bool,.sv 12 QI,.own 10 10 QI],[(.exit 4,[.sv 0 QL,.sv 1 QI,.sv 8 QI,.sv 11 .bool,.own 10 10 QI])])],[(6,[(.normal,[.sv 0 QL,.sv 1 QI,.sv 29 .bool])]),(932,[(.normal,[.sv 0 QL,.sv 1 QI,.sv 7 QI,.sv 47 .bool])]),(3913,[(.normal,[.sv 0 QL,.sv 1 QI,.sv 8 QI,.sv 9 QI])])],[]⟩
def a8B(x:Z2):Option Z2:= (a6D (x.1,x.2.1)).bind fun y1=> cond (y1.2 != 0) (some ([],0,y1.2)) ((a5C y1.1).bind fun y2=> cond (y2.2 != 0) (some ([],0,y2.2)) ((a7O (y2.1,x.2.2)).bind fun y3=> some (y3.1,y3.2.1,y3.2.2)))
def b6J:FSem:=⟨[.v QL,.v QI,.v QI],[.o QI,.v QI,.v QI],a8B⟩
def e0v:Hints:=⟨[],[],[]⟩
def a9X(x:Z2):Option (a2c×Bool):= (a8B (x.1,x.2.1,x.2.2)).bind fun y1=> some ((3,0,0,y1.2.1,0,y1.1,a00 3 0,[],[],(0,[],()),[],()),y1.2.2==0)
def b6K:FSem:=⟨[.v QL,.v QI,.v QI],[.v Q19,.v .bool],a9X⟩
def H86:Hints:=⟨[],[],[]⟩
def a1q(x:(b2b×Z2)):Option (b2b×b2b):= (a9X (x.2.1,x.2.2.1,x.2.2.2)).bind fun y1=> cond y1.2 (cond (lim ((a03 x.1)+1)) (some (a04 x.1 ([y1.1]:List a2c),[])) none) (some (x.1,[]))
def c5j:FSem:=⟨[.r true (.o Q19),.v QL,.v QI,.v QI],[.o Q19],a1q⟩
def H41:Hints:=⟨[],[],[]⟩
def a7P(s:((List Int)×Z53)):Option (((List Int)×Z53) ⊕ ((List Int)×Z35)):= cond (decide (s.2.2.2.2.2.2.1<(s.1.length:Int))) ((a0r s.1 s.2.2.2.2.2.2.1).bind fun x3=> (a0r s.1 (wrap .i64 (s.2.2.2.2.2.2.1-s.2.2.2.2.1))).bind fun x4=> (b4S (wrap .i64 (x3-x4))).bind fun y5=> some (.inl (s.1,s.2.1,s.2.2.1,s.2.2.2.1,s.2.2.2.2.1,wrap .i64 (s.2.2.2.2.2.1+y5),wrap .i64 (s.2.2.2.2.2.2.1+1),()))) (some (.inr (s.1,s.2.1,s.2.2.1,s.2.2.2.1,s.2.2.2.2.1,s.2.2.2.2.2.1,())))
def a7Q(s:((List Int)×Z21)):Option (((List Int)×Z21) ⊕ (Int×Unit)):= cond (decide (s.2.2.2.2.1≤s.2.1)) ((a0e a7P (s.1,s.2.1,s.2.2.1,s.2.2.2.1,s.2.2.2.2.1,0,s.2.1,())).bind fun w6=> (show Option ((List Int)×(Int×Z39))from cond (w6.2.2.1==0) (some (w6.1,w6.2.1,w6.2.2.1,w6.2.2.2.1,w6.2.2.2.2.1,w6.2.2.2.2.2.1,true,())) (some (w6.1,w6.2.1,w6.2.2.1,w6.2.2.2.1,w6.2.2.2.2.1,w6.2.2.2.2.2.1,decide (w6.2.2.2.2.2.1<w6.2.2.2.1),()))).bind fun z7=> cond z7.2.2.2.2.2.2.1 (some (.inl (z7.1,z7.2.1,z7.2.2.2.2.1,z7.2.2.2.2.2.1,wrap .i64 (z7.2.2.2.2.1+1),()))) (some (.inl (z7.1,z7.2.1,z7.2.2.1,z7.2.2.2.1,wrap .i64 (z7.2.2.2.2.1+1),())))) (some (.inr (s.2.2.1,())))
def a6i(x:Z2):Option (Int×Int):= (show Option Z32 from cond (decide (x.2.1<2)) (some (x.1,x.2.1,x.2.2,true,())) (cond (decide (x.2.2<x.2.1)) (some (x.1,x.2.1,x.2.2,true,())) (cond (decide (x.2.2 > 1024)) (some (x.1,x.2.1,x.2.2,true,())) (some (x.1,x.2.1,x.2.2,decide ((x.1.length:Int) > 4096),()))))).bind fun z1=> cond z1.2.2.2.1 (some (0,1)) (cond (decide ((z1.1.length:Int)≤z1.2.2.1)) (some (0,7)) ((a0H z1.1).bind fun y2=> cond (!y2) (some (0,6)) ((a0e a7Q (z1.1,z1.2.2.1,0,0,z1.2.1,())).bind fun w8=> some (w8.1,0))))
def b9c:FSem:=⟨[.v QL,.v QI,.v QI],[.v QI,.v QI],a6i⟩
def H87:Hints:=⟨[(122,[.sv 0 QL,.sv 2 QI,.sv 8 QI,.sv 9 QI,.sv 10 QI],[(.exit 1,[.sv 8 QI])]),(31306,[.sv 0 QL,.sv 2 QI,.sv 8 QI,.sv 9 QI,.sv 10 QI,.sv 11 QI,.sv 12 QI],[(.exit 3,[.sv 0 QL,.sv 2 QI,.sv 8 QI,.sv 9 QI,.sv 10 QI,.sv 11 QI])])],[(12,[(.normal,[.sv 0 QL,.sv 1 QI,.sv 2 QI,.sv 13 .bool])]),(7827,[(.normal,[.sv 0 QL,.sv 2 QI,.sv 8 QI,.sv 9 QI,.sv 10 QI,.sv 11 QI,.sv 72 .bool])])],[(15,[.v,.v,.v,.v,.v,.v,.v,.v,.v,.v,.v,.v,.v,.x,.x])]⟩
def a4J(s:Z15):Option (Z15 ⊕ ((Int×Unit) ⊕ (Bool×Unit))):= cond (decide (s.2.1<3)) ((show Option Z33 from(a0r s.2.2.1 s.2.1).bind fun x1=> cond (decide (x1<(-64))) (some (s.1,s.2.1,true,s.2.2.1,())) ((a0r s.2.2.1 s.2.1).bind fun x2=> some (s.1,s.2.1,decide (x2 > 64),s.2.2.1,()))).bind fun z3=> cond z3.2.2.1 (some (.inr (Sum.inr ((false,()))))) (some (.inl (z3.1,wrap .i64 (z3.2.1+1),z3.2.2.2.1,())))) (some (.inr (Sum.inl (s.1,()))))
def a6S(x:(Int×(List Int))):Option Bool:= (a0e a4J (x.1,0,x.2,())).bind fun w4=> match w4 with |.inl a5=>(cond (decide (a5.1≥2)) (some (decide (a5.1≤1024))) (some false)) |.inr b6=>some b6.1
def b1E:FSem:=⟨[.v QI,.v (.arr 3 QI)],[.v .bool],a6S⟩
def H91:Hints:=⟨[(26,[.sv 0 QI,.sv 5 QI,.vp 3 (.arr 3 QI)],[(.exit 0,[.sv 0 QI]),(.ret,[.sv 4 .bool])])],[(420,[(.normal,[.sv 0 QI,.sv 5 QI,.sv 19 .bool,.vp 3 (.arr 3 QI)])])],[]⟩
def a5b(s:Z61):Option (Z61 ⊕ (Int×Unit)):= cond (decide (s.2.2.2.1<3)) (cond (decide ((wrap .i64 ((wrap .i64 ((wrap .i64 ((s.1.length:Int)-s.2.1))-1))+s.2.2.2.1))≥0)) ((a0r s.2.2.2.2.1 s.2.2.2.1).bind fun x1=> (a0r s.1 (wrap .i64 ((wrap .i64 ((wrap .i64 ((s.1.length:Int)-s.2.1))-1))+s.2.2.2.1))).bind fun x2=> some (.inl (s.1,s.2.1,wrap .i64 (s.2.2.1+(wrap .i64 (x1*x2))),wrap .i64 (s.2.2.2.1+1),s.2.2.2.2.1,()))) (some (.inl (s.1,s.2.1,s.2.2.1,wrap .i64 (s.2.2.2.1+1),s.2.2.2.2.1,())))) (some (.inr (s.2.2.1,())))
def a7p(x:Z12):Option Int:= (a0e a5b (x.1,x.2.1,0,0,x.2.2,())).bind fun w3=> some (a0m .i64 w3.1 6)
def b2Y:FSem:=⟨[.v QL,.v QI,.v (.arr 3 QI)],[.v QI],a7p⟩
def e0w:Hints:=⟨[(58,[.sv 0 QL,.sv 1 QI,.sv 7 QI,.sv 8 QI,.vp 5 (.arr 3 QI)],[(.exit 0,[.sv 7 QI])])],[],[(7,[.v,.v,.v,.v,.v,.v,.v,.v,.v,.x,.x])]⟩
def a7R(s:Z68):Option (Z68 ⊕ ((List Int)×Unit)):= cond (decide (s.2.2.1<(s.1.length:Int))) ((a0r s.1 s.2.2.1).bind fun x3=> cond ((decide (0≤s.2.2.1))&&(decide (s.2.2.1≤(s.1.length:Int)))) ((a7p (a07 (a01 s.2.2.1) s.1,s.2.1,s.2.2.2.2.1)).bind fun y4=> cond (lim ((a03 s.2.2.2.1)+1)) (some (.inl (s.1,s.2.1,wrap .i64 (s.2.2.1+1),a04 s.2.2.2.1 [wrap .i64 (x3-y4)],s.2.2.2.2.1,()))) none) none) (some (.inr (s.2.2.2.1,())))
def a6j(x:Z12):Option ((List Int)×Int):= (a6S (x.2.1,x.2.2)).bind fun y1=> cond (!y1) (some ([],1)) ((a0H x.1).bind fun y2=> cond (!y2) (some ([],6)) ((a0e a7R (x.1,x.2.1,0,[],x.2.2,())).bind fun w5=> (a0H w5.1).bind fun y6=> cond (!y6) (some ([],6)) (some (w5.1,0))))
def b0D:FSem:=⟨[.v QL,.v QI,.v (.arr 3 QI)],[.o QI,.v QI],a6j⟩
def H89:Hints:=⟨[(250,[.sv 0 QL,.sv 1 QI,.sv 9 QI,.own 8 8 QI,.vp 5 (.arr 3 QI)],[(.exit 0,[.own 8 8 QI])])],[],[(9,[.q,.v,.v,.v,.v,.v,.v,.v,.v,.v,.v,.v,.q,.x,.x])]⟩
def b2Z(x:Unit):Option (List (List Int)):= some ([a05 (a05 (a05 (a00 3 0) 0 0) 1 0) 2 0,a05 (a05 (a05 (a00 3 0) 0 0) 1 64) 2 0,a05 (a05 (a05 (a00 3 0) 0 0) 1 32) 2 0,a05 (a05 (a05 (a00 3 0) 0 16) 1 32) 2 16,a05 (a05 (a05 (a00 3 0) 0 21) 1 22) 2 21,a05 (a05 (a05 (a00 3 0) 0 0) 1 48) 2 0,a05 (a05 (a05 (a00 3 0) 0 (-8)) 1 64) 2 (-8),a05 (a05 (a05 (a00 3 0) 0 32) 1 32) 2 0,a05 (a05 (a05 (a00 3 0) 0 0) 1 32) 2 32]:List (List Int))
def b7C:FSem:=⟨[],[.o (.arr 3 QI)],b2Z⟩
def e0x:Hints:=⟨[],[],[]⟩
def a5D(s:((List Int)×(Int×Int×Int×Int×Z25))):Option (((List Int)×(Int×Int×Int×Int×Z25)) ⊕ (Int×Z25)):= cond (decide (s.2.2.2.2.1<(s.2.2.2.2.2.1.length:Int))) (cond ((decide (0≤s.2.2.2.2.1))&&(decide (s.2.2.2.2.1<(s.2.2.2.2.2.1.length:Int)))) ((a6j (s.1,s.2.1,a02 s.2.2.2.2.2.1 (a01 s.2.2.2.2.1) (a00 3 0))).bind fun y3=> (a9n (y3.1,0)).bind fun y4=> (show Option ((List Int)×(Int×Int×Int×Int×Int×Bool×Z25))from cond (y3.2==0) (cond (decide (s.2.2.1<0)) (some (s.1,s.2.1,s.2.2.1,s.2.2.2.1,s.2.2.2.2.1,y4,true,s.2.2.2.2.2.1,s.2.2.2.2.2.2.1,())) (some (s.1,s.2.1,s.2.2.1,s.2.2.2.1,s.2.2.2.2.1,y4,decide (y4<s.2.2.2.1),s.2.2.2.2.2.1,s.2.2.2.2.2.2.1,()))) (some (s.1,s.2.1,s.2.2.1,s.2.2.2.1,s.2.2.2.2.1,y4,false,s.2.2.2.2.2.1,s.2.2.2.2.2.2.1,()))).bind fun z5=> cond z5.2.2.2.2.2.2.1 (some (.inl (z5.1,z5.2.1,z5.2.2.2.2.1,z5.2.2.2.2.2.1,wrap .i64 (z5.2.2.2.2.1+1),z5.2.2.2.2.2.2.2.1,z5.2.2.2.2.2.2.2.2.1,()))) (some (.inl (z5.1,z5.2.1,z5.2.2.1,z5.2.2.2.1,wrap .i64 (z5.2.2.2.2.1+1),z5.2.2.2.2.2.2.2.1,z5.2.2.2.2.2.2.2.2.1,())))) none) (some (.inr (s.2.2.1,s.2.2.2.2.2.1,s.2.2.2.2.2.2.1,())))
def a8k(x:((List Int)×Int)):Option ((List Int)×Int):= (show Option ((List Int)×Z17)from cond (decide (x.2<2)) (some (x.1,x.2,true,a00 3 0,())) (some (x.1,x.2,decide (x.2 > 1024),a00 3 0,()))).bind fun z1=> cond z1.2.2.1 (some (a00 3 0,1)) ((b2Z ()).bind fun y2=> (a0e a5D (z1.1,z1.2.1,(-1),0,0,y2,z1.2.2.2.1,())).bind fun w6=> cond (decide (w6.1<0)) (some (a00 3 0,6)) (cond ((decide (0≤w6.1))&&(decide (w6.1<(w6.2.1.length:Int)))) (some (a02 w6.2.1 (a01 w6.1) (a00 3 0),0)) none))
def b9d:FSem:=⟨[.v QL,.v QI],[.v (.arr 3 QI),.v QI],a8k⟩
def H88:Hints:=⟨[(250,[.sv 0 QL,.sv 1 QI,.sv 7 QI,.sv 8 QI,.sv 9 QI,.own 6 6 (.arr 3 QI),.box 4 (.arr 3 QI),.ptr 4 4 []],[(.exit 0,[.sv 7 QI,.own 6 6 (.arr 3 QI),.box 4 (.arr 3 QI),.ptr 4 4 []])])],[(6,[(.normal,[.sv 0 QL,.sv 1 QI,.sv 18 .bool,.box 4 (.arr 3 QI),.ptr 4 4 []])]),(16019,[(.normal,[.sv 0 QL,.sv 1 QI,.sv 7 QI,.sv 8 QI,.sv 9 QI,.sv 12 QI,.sv 49 .bool,.own 6 6 (.arr 3 QI),.box 4 (.arr 3 QI),.ptr 4 4 []])])],[]⟩
def a2U(x:(List Int)):Option (a2c×Bool):= (a6i (x,16,256)).bind fun y1=> cond (y1.2 != 0) (some ((0,0,0,0,0,[],a00 3 0,[],[],(0,[],()),[],()),false)) ((a8k (x,y1.1)).bind fun y2=> cond (y2.2 != 0) (some ((0,0,0,0,0,[],a00 3 0,[],[],(0,[],()),[],()),false)) ((a6j (x,y1.1,y2.1)).bind fun y3=> cond (y3.2 != 0) (some ((0,0,0,0,0,[],a00 3 0,[],[],(0,[],()),[],()),false)) ((a9X (y3.1,4,12)).bind fun y4=> some ((4,y4.1.2.1,y4.1.2.2.1,y4.1.2.2.2.1,y1.1,y4.1.2.2.2.2.2.1,y2.1,y4.1.2.2.2.2.2.2.2),y4.2))))
def c5k:FSem:=⟨[.v QL],[.v Q19,.v .bool],a2U⟩
def H42:Hints:=⟨[],[],[(11,[.v,.r [6,45],.q,.w [0,10],.q,.w [0,10],.x,.x])]⟩
def a4K(s:d2m):Option (d2m ⊕ ((List Int)×c9i)):= cond (decide (s.2.1<5)) (cond (lim ((a03 s.2.2.1)+1)) (some (.inl (s.1,wrap .i64 (s.2.1+1),a04 s.2.2.1 ([(2,0,s.2.1,0,0,[],a00 3 0,[],[],(0,[],()),[],())]:List a2c),()))) none) (some (.inr (s.1,s.2.2.1,())))
def b4v(x:((List Int)×Int)):Option b2b:= (a7m x.1).bind fun y1=> (show Option d2m from cond (decide (x.2≥1)) ((a1q (([(0,0,0,0,0,[],a00 3 0,[],[],(0,[],()),[],()),(1,0,0,0,0,[],a00 3 0,[],[],(0,[],()),[],()),(2,0,y1,0,0,[],a00 3 0,[],[],(0,[],()),[],())]:List a2c),x.1,4,12)).bind fun y2=> (a1q (y2.1,x.1,8,12)).bind fun y3=> some (x.1,x.2,y3.1,())) (some (x.1,x.2,([(0,0,0,0,0,[],a00 3 0,[],[],(0,[],()),[],()),(1,0,0,0,0,[],a00 3 0,[],[],(0,[],()),[],()),(2,0,y1,0,0,[],a00 3 0,[],[],(0,[],()),[],())]:List a2c),()))).bind fun z4=> (show Option d2m from cond (decide (z4.2.1≥2)) (cond (lim ((a03 z4.2.2.1)+2)) ((a2U z4.1).bind fun y5=> cond y5.2 (cond (lim ((a03 (a04 z4.2.2.1 ([(5,0,0,0,0,[],a00 3 0,([(16,4,())]:List (Int×Int×Unit)),[],(0,[],()),[],()),(5,0,0,0,0,[],a00 3 0,([(32,3,()),(16,5,())]:List (Int×Int×Unit)),[],(0,[],()),[],())]:List a2c)))+1)) (some (z4.1,z4.2.1,a04 (a04 z4.2.2.1 ([(5,0,0,0,0,[],a00 3 0,([(16,4,())]:List (Int×Int×Unit)),[],(0,[],()),[],()),(5,0,0,0,0,[],a00 3 0,([(32,3,()),(16,5,())]:List (Int×Int×Unit)),[],(0,[],()),[],())]:List a2c)) ([y5.1]:List a2c),())) none) (some (z4.1,z4.2.1,a04 z4.2.2.1 ([(5,0,0,0,0,[],a00 3 0,([(16,4,())]:List (Int×Int×Unit)),[],(0,[],()),[],()),(5,0,0,0,0,[],a00 3 0,([(32,3,()),(16,5,())]:List (Int×Int×Unit)),[],(0,[],()),[],())]:List a2c),()))) none) (some (z4.1,z4.2.1,z4.2.2.1,()))).bind fun z6=> (show Option c9i from cond (decide (z6.2.1≥3)) ((a0e a4K (z6.1,0,z6.2.2.1,())).bind fun w7=> (a1q (w7.2.1,w7.1,1,12)).bind fun y8=> (a1q (y8.1,w7.1,2,12)).bind fun y9=> (a1q (y9.1,w7.1,12,14)).bind fun y10=> (a1q (y10.1,w7.1,16,14)).bind fun y11=> some (y11.1,())) (some (z6.2.2.1,()))).bind fun z12=> some z12.1
def c3t:FSem:=⟨[.v QL,.v QI],[.o Q19],b4v⟩
def H19:Hints:=⟨[(2002,[.sv 0 QL,.sv 8 QI,.own 5 5 Q19],[(.exit 0,[.sv 0 QL,.own 5 5 Q19])])],[(7,[(.normal,[.sv 0 QL,.sv 1 QI,.own 5 5 Q19])]),(15,[(.normal,[.sv 0 QL,.sv 1 QI,.own 5 5 Q19])]),(31,[(.normal,[.own 5 5 Q19])])],[]⟩
def a3E(s:Z14):Option (Z14 ⊕ (Z4 ⊕ (Bool×Unit))):= cond (decide (s.2.2.1<(s.1.length:Int))) ((show Option Z32 from(a0r s.1 s.2.2.1).bind fun x1=> cond (decide (x1<(-32768))) (some (s.1,s.2.1,s.2.2.1,true,())) ((a0r s.1 s.2.2.1).bind fun x2=> some (s.1,s.2.1,s.2.2.1,decide (x2≥32768),()))).bind fun z3=> cond z3.2.2.2.1 (some (.inr (Sum.inr ((false,()))))) (some (.inl (z3.1,z3.2.1,wrap .i64 (z3.2.2.1+1),())))) (some (.inr (Sum.inl (s.1,s.2.1,()))))
def a4e(x:((List Int)×Int)):Option Bool:= (a0e a3E (x.1,x.2,0,())).bind fun w4=> match w4 with |.inl a5=>(cond (decide ((a5.1.length:Int)≥1)) (cond (decide ((a5.1.length:Int)≤32)) (cond (decide (a5.2.1≥0)) (some (decide (a5.2.1≤15))) (some false)) (some false)) (some false)) |.inr b6=>some b6.1
def a7q:FSem:=⟨[.v QL,.v QI],[.v .bool],a4e⟩
def H90:Hints:=⟨[(26,[.sv 0 QL,.sv 1 QI,.sv 5 QI],[(.exit 0,[.sv 0 QL,.sv 1 QI]),(.ret,[.sv 4 .bool])])],[(420,[(.normal,[.sv 0 QL,.sv 1 QI,.sv 5 QI,.sv 23 .bool])])],[]⟩
def a8l(x:(Int×Int×Unit)):Option Bool:= cond (decide (x.1≥1)) (cond (decide (x.1≤32)) (cond (decide (x.2.1≥0)) (some (decide (x.2.1≤8))) (some false)) (some false)) (some false)
def b3T:FSem:=⟨[.v Q4],[.v .bool],a8l⟩
def e0y:Hints:=⟨[],[],[]⟩
def a5E(s:Z36):Option (Z36 ⊕ ((Z5×Unit) ⊕ (Bool×Unit))):= cond (decide (s.2.1<(s.1.length:Int))) ((a0r s.1 s.2.1).bind fun x1=> (a8l x1).bind fun y2=> cond (!y2) (some (.inr (Sum.inr ((false,()))))) (some (.inl (s.1,wrap .i64 (s.2.1+1),())))) (some (.inr (Sum.inl (s.1,()))))
def a6k(x:Z5):Option Bool:= (a0e a5E (x,0,())).bind fun w3=> match w3 with |.inl a4=>some (decide ((a4.1.length:Int)≤3)) |.inr b5=>some b5.1
def b0E:FSem:=⟨[.v (.list false Q4)],[.v .bool],a6k⟩
def H92:Hints:=⟨[(26,[.sv 0 (.list false Q4),.sv 3 QI],[(.exit 0,[.sv 0 (.list false Q4)]),(.ret,[.sv 2 .bool])])],[],[]⟩
def b1l(x:a9T):Option Int:= cond (x.1.1==0) (some 1) (cond (x.1.1==1) (some x.2) (cond (x.1.1==2) ((show Option d2j from cond (decide (x.1.2.2.1≥0)) (cond (decide (x.1.2.2.1≤4)) (some (decide (x.1.2.2.1≤x.2),x.1,())) (some (false,x.1,()))) (some (false,x.1,()))).bind fun z1=> cond z1.1 (some z1.2.1.2.2.1) (some (-1))) ((show Option d2l from cond (x.1.1==3) (some (x.2,x.1.1,x.1.1==3,x.1,())) (some (x.2,x.1.1,x.1.1==4,x.1,()))).bind fun z2=> cond z2.2.2.1 ((show Option d2j from(a4e (z2.2.2.2.1.2.2.2.2.2.1,z2.2.2.2.1.2.2.2.1)).bind fun y3=> cond y3 (cond (decide ((z2.2.2.2.1.2.2.2.2.2.1.length:Int)≤z2.1)) (cond (z2.2.2.2.1.1==3) (some (true,z2.2.2.2.1,())) ((a6S (z2.2.2.2.1.2.2.2.2.1,z2.2.2.2.1.2.2.2.2.2.2.1)).bind fun y4=> some (y4,z2.2.2.2.1,()))) (some (false,z2.2.2.2.1,()))) (some (false,z2.2.2.2.1,()))).bind fun z5=> cond z5.1 (some (z5.2.1.2.2.2.2.2.1.length:Int)) (some (-1))) (cond (z2.2.1==5) ((show Option (Bool×Unit)from cond (decide ((z2.2.2.2.1.2.2.2.2.2.2.2.1.length:Int) > 0)) ((a6k z2.2.2.2.1.2.2.2.2.2.2.2.1).bind fun y6=> some (y6,())) (some (false,()))).bind fun z7=> cond z7.1 (some 0) (some (-1))) (some (-1))))))
def b8x:FSem:=⟨[.v Q19,.v QI],[.v QI],b1l⟩
def H43:Hints:=⟨[],[(1726,[(.normal,[.sv 27 .bool,.vp 2 Q19])]),(1727,[(.normal,[.sv 1 QI,.sv 6 QI,.sv 30 .bool,.vp 2 Q19])]),(6910,[(.normal,[.sv 56 .bool,.vp 2 Q19])]),(27646,[(.normal,[.sv 70 .bool])])],[]⟩
def a6l(s:Z4):Option Z55:= cond (decide (s.2.1<(s.1.length:Int))) ((a0r s.1 s.2.1).bind fun x1=> (a0r s.1 0).bind fun x2=> cond (x1 != x2) (some (.inr (Sum.inr ((false,()))))) (some (.inl (s.1,wrap .i64 (s.2.1+1),())))) (some (.inr (Sum.inl ())))
def b4w(x:(List Int)):Option Bool:= (a0e a6l (x,1,())).bind fun w3=> match w3 with |.inl a4=>some true |.inr b5=>some b5.1
def c3u:FSem:=⟨[.v QL],[.v .bool],b4w⟩
def H44:Hints:=⟨[(26,[.sv 0 QL,.sv 3 QI],[(.exit 0,[]),(.ret,[.sv 2 .bool])])],[],[(4,[.v,.v,.v,.v,.v,.v,.v,.x])]⟩
def a4f(s:Z60):Option (Z60 ⊕ ((Int×Int×Unit) ⊕ (Int×Unit))):= cond (decide (s.2.2.2.2.1<(s.2.1.length:Int))) (cond (decide (s.2.2.2.2.1<(s.1.length:Int))) ((a0r s.1 (wrap .i64 ((wrap .i64 ((s.1.length:Int)-1))-s.2.2.2.2.1))).bind fun x2=> (a3D x2).bind fun y3=> cond (!y3) (some (.inr (Sum.inr ((0,()))))) ((a0r s.2.1 s.2.2.2.2.1).bind fun x4=> some (.inl (s.1,s.2.1,s.2.2.1,wrap .i64 (s.2.2.2.1+(wrap .i64 (x4*x2))),wrap .i64 (s.2.2.2.2.1+1),())))) (some (.inr (Sum.inl (s.2.2.1,s.2.2.2.1,()))))) (some (.inr (Sum.inl (s.2.2.1,s.2.2.2.1,()))))
def a5F(x:Z11):Option Int:= (a4e (x.2.1,x.2.2)).bind fun y1=> cond (!y1) (some 0) ((a0e a4f (x.1,x.2.1,x.2.2,0,0,())).bind fun w5=> match w5 with |.inl a6=>(cond (decide ((wrap .u64 a6.1)<0)) none (some (a0m .i64 a6.2.1 (wrap .u64 a6.1)))) |.inr b7=>some b7.1)
def b0W:FSem:=⟨[.v QL,.v QL,.v QI],[.v QI],a5F⟩
def e0z:Hints:=⟨[(122,[.sv 0 QL,.sv 1 QL,.sv 2 QI,.sv 7 QI,.sv 8 QI],[(.exit 0,[.sv 2 QI,.sv 7 QI]),(.ret,[.sv 6 QI])])],[],[]⟩
def a6E(s:Z67):Option (Z67 ⊕ ((List Int)×Unit)):= cond (decide (s.2.2.2.1<(s.1.length:Int))) ((a0r s.1 s.2.2.2.1).bind fun x4=> cond ((decide (0≤s.2.2.2.1))&&(decide (s.2.2.2.1≤(s.1.length:Int)))) ((a5F (a07 (a01 s.2.2.2.1) s.1,s.2.1,s.2.2.1)).bind fun y5=> cond (lim ((a03 s.2.2.2.2.1)+1)) (some (.inl (s.1,s.2.1,s.2.2.1,wrap .i64 (s.2.2.2.1+1),a04 s.2.2.2.2.1 [wrap .i64 (x4-y5)],()))) none) none) (some (.inr (s.2.2.2.2.1,())))
def a8C(x:Z11):Option ((List Int)×Int):= (show Option Z48 from(a4e (x.2.1,x.2.2)).bind fun y1=> cond (!y1) (some (x.1,x.2.1,x.2.2,true,())) (some (x.1,x.2.1,x.2.2,decide ((x.1.length:Int)<(x.2.1.length:Int)),()))).bind fun z2=> cond z2.2.2.2.1 (some ([],1)) ((a0H z2.1).bind fun y3=> cond (!y3) (some ([],6)) ((a0e a6E (z2.1,z2.2.1,z2.2.2.1,(z2.2.1.length:Int),[],())).bind fun w6=> (a0H w6.1).bind fun y7=> cond (!y7) (some ([],6)) (some (w6.1,0))))
def b6L:FSem:=⟨[.v QL,.v QL,.v QI],[.o QI,.v QI],a8C⟩
def H93:Hints:=⟨[(250,[.sv 0 QL,.sv 1 QL,.sv 2 QI,.sv 9 QI,.own 8 8 QI],[(.exit 0,[.own 8 8 QI])])],[(6,[(.normal,[.sv 0 QL,.sv 1 QL,.sv 2 QI,.sv 20 .bool])])],[(9,[.q,.v,.v,.v,.v,.v,.v,.v,.v,.v,.v,.v,.q,.x,.x])]⟩
def a7r(x:(Int×Int×Unit)):Option Z43:= (a8l x).bind fun y1=> cond (!y1) none (cond ((decide (0≤x.1))&&((decide (x.1≤x.1))&&(lim (a01 x.1)))) (cond ((decide (0≤x.1))&&((decide (x.1≤x.1))&&(lim (a01 x.1)))) (some ((x.2.1,a00 (a01 x.1) 0,a00 (a01 x.1) 0,()),0)) none) none)
def b3a:FSem:=⟨[.v Q4],[.b Q9,.v QI],a7r⟩
def e0A:Hints:=⟨[],[],[(3,[.v,.v,.v,.v,.q,.v,.v,.q,.x,.x,.x,.x])]⟩
def b3b(x:Int):Option Int:= some (a2d (a1r x (-1073741824)) 1073741823)
def b9V:FSem:=⟨[.v QI],[.v QI],b3b⟩
def e0B:Hints:=⟨[],[],[]⟩
def a5m(s:Z75):Option (Z75 ⊕ Z63):= cond (decide (s.2.1<(s.2.2.1.2.1.length:Int))) (cond ((decide (0≤s.2.1))&&(decide (s.2.1<(s.2.2.1.2.1.length:Int)))) (cond ((decide (0≤s.2.1))&&(decide (s.2.1<(s.2.2.1.2.2.1.length:Int)))) (some (.inl (wrap .i64 (s.1+(wrap .i64 ((a02 s.2.2.1.2.1 (a01 s.2.1) 0)*(a02 s.2.2.1.2.2.1 (a01 s.2.1) 0)))),wrap .i64 (s.2.1+1),s.2.2.1,()))) none) none) (some (.inr (s.1,s.2.2.1,())))
def a3F(x:Z26):Option Z42:= (a0e a5m (0,0,x,())).bind fun w1=> (b3b (a0m .i64 w1.1 16)).bind fun y2=> some (y2,w1.2.1)
def a7s:FSem:=⟨[.r false (.b Q9)],[.v QI],a3F⟩
def e0C:Hints:=⟨[(58,[.sv 3 QI,.sv 4 QI,.box pinned Q9,.ptr 0 pinned []],[(.exit 0,[.sv 3 QI,.box pinned Q9])])],[],[(5,[.v,.p,.p,.q,.q,.v,.q,.q,.p,.p,.q,.q,.v,.q,.q,.v,.x,.x])]⟩
def b3c(x:Int):Option Int:= cond (decide (x > 0)) (some 1) (cond (decide (x<0)) (some (-1)) (some 0))
def c5l:FSem:=⟨[.v QI],[.v QI],b3c⟩
def e0D:Hints:=⟨[],[],[]⟩
def a4g(s:(Int×(Int×(Int×((List Int)×Z72))))):Option ((Int×(Int×(Int×((List Int)×Z72)))) ⊕ (Int×((List Int)×Z72))):= cond (decide (s.2.2.1<(s.2.2.2.2.2.1.2.1.length:Int))) (cond ((decide (0≤s.2.2.1))&&(decide (s.2.2.1<(s.2.2.2.2.2.1.2.1.length:Int)))) (cond ((decide (0≤s.2.2.1))&&(decide (s.2.2.1<(s.2.2.2.2.2.1.2.2.1.length:Int)))) ((b3c (a02 s.2.2.2.2.2.1.2.2.1 (a01 s.2.2.1) 0)).bind fun y4=> cond (decide ((wrap .u64 s.2.2.2.2.2.1.1)<0)) none (cond (lim ((a03 s.2.2.2.1)+1)) (some (.inl (s.1,s.2.1,wrap .i64 (s.2.2.1+1),a04 s.2.2.2.1 [a2d (a1r (wrap .i64 ((a02 s.2.2.2.2.2.1.2.1 (a01 s.2.2.1) 0)+(a0D .i64 (wrap .i64 (s.2.1*y4)) (wrap .u64 s.2.2.2.2.2.1.1)))) (-1048576)) 1048576],s.2.2.2.2.1,s.2.2.2.2.2.1,()))) none)) none) none) (some (.inr (s.1,s.2.2.2.1,s.2.2.2.2.1,s.2.2.2.2.2.1,())))
def a5G(x:Z43):Option Z26:= (b3b x.2).bind fun y1=> (a3F x.1).bind fun y2=> (b3c (wrap .i64 (y1-y2.1))).bind fun y3=> (a0e a4g (y1,y3,0,[],[],y2.2,())).bind fun w5=> cond (lim ((a03 w5.2.2.1)+1)) (cond ((decide (0≤(wrap .i64 ((w5.2.2.2.1.2.2.1.length:Int)-1))))&&(decide ((wrap .i64 ((w5.2.2.2.1.2.2.1.length:Int)-1))≤(w5.2.2.2.1.2.2.1.length:Int)))) (cond (lim ((a03 (a04 w5.2.2.1 [w5.1]))+(a03 (a07 (a01 (wrap .i64 ((w5.2.2.2.1.2.2.1.length:Int)-1))) (a22 0 w5.2.2.2.1.2.2.1))))) (some (w5.2.2.2.1.1,w5.2.1,a04 (a04 w5.2.2.1 [w5.1]) (a07 (a01 (wrap .i64 ((w5.2.2.2.1.2.2.1.length:Int)-1))) (a22 0 w5.2.2.2.1.2.2.1)),w5.2.2.2.1.2.2.2)) none) none) none
def b0X:FSem:=⟨[.r false (.b Q9),.v QI],[],a5G⟩
def e0E:Hints:=⟨[(122,[.sv 1 QI,.sv 4 QI,.sv 7 QI,.own 5 5 QI,.own 6 6 QI,.box pinned Q9,.ptr 0 pinned []],[(.exit 0,[.sv 1 QI,.own 5 5 QI,.own 6 6 QI,.box pinned Q9,.ptr 0 pinned []])])],[],[(6,[.q,.p,.p,.q,.q,.v,.q,.q,.v,.p,.p,.q,.q,.v,.q,.q,.v,.v,.p,.p,.q,.q,.v,.v,.v,.v,.v,.q,.x,.x]),(7,[.q,.v,.q,.w [6,55,56],.p,.p,.r [59,pinned],.r [60,pinned],.p,.p,.r [63,pinned],.r [64,pinned],.r [65,pinned],.v,.r [67,pinned],.x,.x])]⟩
def a7t(s:d2g):Option (d2g ⊕ Z65):= cond (decide (s.2.2.1<(s.2.2.2.1.length:Int))) (cond ((decide (0≤s.2.2.1))&&(decide (s.2.2.1<(s.2.2.2.1.length:Int)))) ((a3F s.2.2.2.2.1).bind fun y5=> cond ((decide (0≤s.2.2.1))&&(decide (s.2.2.1<(s.2.2.2.1.length:Int)))) ((a5G (y5.2,a02 s.2.2.2.1 (a01 s.2.2.1) 0)).bind fun y6=> some (.inl (s.1,s.2.1,wrap .i64 (s.2.2.1+1),a05 s.2.2.2.1 (a01 s.2.2.1) (wrap .i64 ((a02 s.2.2.2.1 (a01 s.2.2.1) 0)-y5.1)),y6,()))) none) none) (some (.inr (s.1,s.2.1,s.2.2.2.1,())))
def a5c(s:Z65):Option (Z65 ⊕ Z45):= cond (decide (s.2.1<(s.1.length:Int))) ((a0r s.1 s.2.1).bind fun x3=> (a7r x3).bind fun y4=> (a0e a7t (s.1,s.2.1,0,s.2.2.1,y4.1,())).bind fun w7=> (a0H w7.2.2.1).bind fun y8=> cond (!y8) (some (.inr (Sum.inr ((6,[],()))))) (some (.inl (w7.1,wrap .i64 (w7.2.1+1),w7.2.2.1,())))) (some (.inr (Sum.inl (s.2.2.1,()))))
def a9B(x:Z27):Option ((List Int)×Int):= (a6k x.2).bind fun y1=> cond (!y1) (some ([],1)) ((a0H x.1).bind fun y2=> cond (!y2) (some ([],6)) (cond (lim (0+(a03 x.1))) ((a0e a5c (x.2,0,a04 [] x.1,())).bind fun w9=> match w9 with |.inl a10=>some (a10.1,0) |.inr b11=>some (b11.2.1,b11.1)) none))
def b7D:FSem:=⟨[.v QL,.v (.list false Q4)],[.o QI,.v QI],a9B⟩
def H94:Hints:=⟨[(250,[.sv 1 (.list false Q4),.sv 7 QI,.own 6 6 QI],[(.exit 0,[.own 6 6 QI]),(.ret,[.sv 5 QI,.own 4 4 QI])]),(64074,[.sv 1 (.list false Q4),.sv 7 QI,.sv 10 QI,.own 6 6 QI,.box 1032 Q9,.ptr 8 1032 []],[(.exit 2,[.sv 1 (.list false Q4),.sv 7 QI,.own 6 6 QI])])],[],[]⟩
def b0F(x:(a2c×(List Int))):Option Z11:= cond (x.1.1==2) ((a3g (x.2,x.1.2.2.1)).bind fun y1=> cond ((decide (0≤x.1.2.2.1))&&(decide (x.1.2.2.1≤(x.2.length:Int)))) (some (a07 (a01 x.1.2.2.1) x.2,y1.1,y1.2)) none) ((show Option ((List Int)×c1D)from cond (x.1.1==3) (some (x.2,x.1.1,x.1.1==3,x.1,())) (some (x.2,x.1.1,x.1.1==4,x.1,()))).bind fun z2=> cond z2.2.2.1 ((show Option (d7s ⊕ ((List Int)×Z4))from cond (z2.2.2.2.1.1==4) ((a6j (z2.1,z2.2.2.2.1.2.2.2.2.1,z2.2.2.2.1.2.2.2.2.2.2.1)).bind fun y3=> cond (y3.2 != 0) (some (Sum.inr (([],[],y3.2,())))) (some (Sum.inl (y3.1,z2.2.2.2.1,())))) (some (Sum.inl (z2.1,z2.2.2.2.1,())))).bind fun z4=> match z4 with |.inl a5=>((a8C (a5.1,a5.2.1.2.2.2.2.2.1,a5.2.1.2.2.2.1)).bind fun y7=> cond ((decide (0≤(a5.2.1.2.2.2.2.2.1.length:Int)))&&(decide ((a5.2.1.2.2.2.2.2.1.length:Int)≤(a5.1.length:Int)))) (some (a07 (a01 (a5.2.1.2.2.2.2.2.1.length:Int)) a5.1,y7.1,y7.2)) none) |.inr b6=>some (b6.1,b6.2.1,b6.2.2.1)) (cond (z2.2.1==5) ((a9B (z2.1,z2.2.2.2.1.2.2.2.2.2.2.2.1)).bind fun y8=> some ([],y8.1,y8.2)) (some (z2.1,[],0))))
def c5m:FSem:=⟨[.v Q19,.v QL],[.v QL,.v QL,.v QI],b0F⟩
def H45:Hints:=⟨[],[(107,[(.normal,[.sv 1 QL,.sv 16 QI,.sv 32 .bool,.vp 2 Q19])]),(430,[(.normal,[.sv 1 QL,.vp 2 Q19]),(.ret,[.sv 4 QL,.sv 5 QL,.sv 6 QI])])],[]⟩
def a5u(x:Int):Option Bool:= cond (decide (x≥2)) (some (decide (x≤5))) (some false)
def b1F:FSem:=⟨[.v QI],[.v .bool],a5u⟩
def H46:Hints:=⟨[],[],[]⟩
def b6M(x:(Int×Int)):Option Bool:= cond (decide (x.1≥1)) (cond (decide (x.1≤4096)) (cond (decide (x.2≥0)) (some (decide (x.2≤x.1))) (some false)) (some false)) (some false)
def c4d:FSem:=⟨[.v QI,.v QI],[.v .bool],b6M⟩
def H95:Hints:=⟨[],[],[]⟩
def a7u(s:Z51):Option (Z51 ⊕ Z3):= cond (decide ((wrap .u64 s.1)<0)) none (cond (decide (s.2.2.2.1<(a0D .i64 1 (wrap .u64 s.1)))) (cond (decide ((wrap .u64 s.1)<0)) none (cond (lim ((a03 s.2.2.2.2.1)+1)) (some (.inl (s.1,s.2.1,s.2.2.1,wrap .i64 (s.2.2.2.1+1),a04 s.2.2.2.2.1 [a0m .i64 s.2.1 (wrap .u64 s.1)],()))) none)) (some (.inr (s.2.2.1,s.2.2.2.2.1,()))))
def a4h(x:(Int×Int×Int)):Option (List Int):= (show Option Z24 from(b6M (x.2.1,x.2.2)).bind fun y1=> cond (!y1) (some (x.1,x.2.1,x.2.2,true,())) (cond (decide (x.1<0)) (some (x.1,x.2.1,x.2.2,true,())) (cond (decide (x.1 > 8)) (some (x.1,x.2.1,x.2.2,true,())) (cond (decide ((wrap .u64 x.1)<0)) none (cond ((a0D .i64 1 (wrap .u64 x.1))==0) none (cond ((a26 x.2.1 (a0D .i64 1 (wrap .u64 x.1))) != 0) (some (x.1,x.2.1,x.2.2,true,())) (cond (decide ((wrap .u64 x.1)<0)) none (some (x.1,x.2.1,x.2.2,decide ((a0m .i64 x.2.1 (wrap .u64 x.1))<x.2.2),()))))))))).bind fun z2=> cond z2.2.2.2.1 (some []) ((a0e a7u (z2.1,z2.2.1,z2.2.2.1,0,[],())).bind fun w3=> cond (decide (0<(w3.2.1.length:Int))) (cond (decide (0<(w3.2.1.length:Int))) (some (a05 w3.2.1 0 (wrap .i64 ((a02 w3.2.1 0 0)-w3.1)))) none) none)
def a7v:FSem:=⟨[.v QI,.v QI,.v QI],[.o QI],a4h⟩
def H96:Hints:=⟨[(122,[.sv 0 QI,.sv 1 QI,.sv 2 QI,.sv 8 QI,.own 7 7 QI],[(.exit 0,[.sv 2 QI,.own 7 7 QI])])],[(6,[(.normal,[.sv 0 QI,.sv 1 QI,.sv 2 QI,.sv 36 .bool])])],[]⟩
def a3G(x:Int):Option Bool:= cond (decide (x≥0)) (some (decide (x≤25))) (some false)
def b0G:FSem:=⟨[.v QI],[.v .bool],a3G⟩
def e0F:Hints:=⟨[],[],[]⟩
def c4e(x:Int):Option Int:= (show Option (Int×Unit)from cond (decide (x<0)) (some (bits .u64 .xor (IntKind.max .u64) (a0D .u64 (wrap .u64 x) 1),())) (some (a0D .u64 (wrap .u64 x) 1,()))).bind fun z1=> some z1.1
def c9n:FSem:=⟨[.v QI],[.v (.int .u64)],c4e⟩
def e0G:Hints:=⟨[],[(7,[(.normal,[.sv 3 (.int .u64)])])],[]⟩
def b4T(x:Int):Option Int:= (a3D x).bind fun y1=> cond (!y1) (some 0) ((c4e x).bind fun y2=> some y2)
def c1T:FSem:=⟨[.v QI],[.v (.int .u64)],b4T⟩
def e0H:Hints:=⟨[],[],[]⟩
def a6T(x:(Int×Int)):Option Int:= (show Option Z10 from(a3G x.1).bind fun y1=> cond (!y1) (some (x.1,x.2,true,())) ((a3D x.2).bind fun y2=> some (x.1,x.2,!y2,()))).bind fun z3=> cond z3.2.2.1 (some 0) ((b4T z3.2.1).bind fun y4=> cond (decide ((wrap .u64 z3.1)<0)) none (cond (decide ((wrap .i64 (a0m .u64 y4 (wrap .u64 z3.1)))<32)) (some (wrap .i64 ((wrap .i64 ((wrap .i64 (a0m .u64 y4 (wrap .u64 z3.1)))+1))+z3.1))) (some 65)))
def c0H:FSem:=⟨[.v QI,.v QI],[.v QI],a6T⟩
def e0I:Hints:=⟨[],[(6,[(.normal,[.sv 0 QI,.sv 1 QI,.sv 13 .bool])])],[]⟩
def a4i(s:Z29):Option (Z29 ⊕ (Int×Unit)):= cond (decide (s.2.2.2.1<(s.2.1.length:Int))) ((a0r s.2.1 s.2.2.2.1).bind fun x1=> (a6T (s.1,x1)).bind fun y2=> some (.inl (s.1,s.2.1,wrap .i64 (s.2.2.1+y2),wrap .i64 (s.2.2.2.1+1),()))) (some (.inr (s.2.2.1,())))
def a4j(x:(Int×(List Int))):Option Int:= (a0e a4i (x.1,x.2,0,0,())).bind fun w3=> some w3.1
def b3d:FSem:=⟨[.v QI,.v QL],[.v QI],a4j⟩
def e0J:Hints:=⟨[(58,[.sv 0 QI,.sv 1 QL,.sv 5 QI,.sv 6 QI],[(.exit 0,[.sv 5 QI])])],[],[]⟩
def a6v(s:Z14):Option Z54:= cond (decide (s.2.2.1≤25)) ((a4j (s.2.2.1,s.1)).bind fun y1=> (a4j (s.2.1,s.1)).bind fun y2=> cond (decide (y1<y2)) (some (.inl (s.1,s.2.2.1,wrap .i64 (s.2.2.1+1),()))) (some (.inl (s.1,s.2.1,wrap .i64 (s.2.2.1+1),())))) (some (.inr (s.2.1,())))
def b1G(x:(List Int)):Option Int:= (a0e a6v (x,0,1,())).bind fun w3=> some w3.1
def c0I:FSem:=⟨[.v QL],[.v QI],b1G⟩
def e0K:Hints:=⟨[(58,[.sv 0 QL,.sv 3 QI,.sv 4 QI],[(.exit 0,[.sv 3 QI])])],[],[]⟩
def a6U(s:Z14):Option (Z14 ⊕ Z14):= cond (decide (s.2.1<32)) ((a0r s.1 s.2.2.1).bind fun x1=> cond (x1 != 0) ((a0r s.1 s.2.2.1).bind fun x2=> (b2p (x2,s.2.1)).bind fun y3=> cond (!y3) (some (.inl (s.1,wrap .i64 (s.2.1+1),s.2.2.1,()))) (some (.inr (s.1,s.2.1,s.2.2.1,())))) (some (.inr (s.1,s.2.1,s.2.2.1,())))) (some (.inr (s.1,s.2.1,s.2.2.1,())))
def b1H(s:Z14):Option Z54:= cond (decide (s.2.2.1<(s.1.length:Int))) ((a0e a6U (s.1,s.2.1,s.2.2.1,())).bind fun w4=> some (.inl (w4.1,w4.2.1,wrap .i64 (w4.2.2.1+1),()))) (some (.inr (s.2.1,())))
def a8D(x:(List Int)):Option Int:= (a0e b1H (x,0,0,())).bind fun w5=> some w5.1
def b3e:FSem:=⟨[.v QL],[.v QI],a8D⟩
def e0L:Hints:=⟨[(58,[.sv 0 QL,.sv 3 QI,.sv 4 QI],[(.exit 0,[.sv 3 QI])]),(1864,[.sv 0 QL,.sv 3 QI,.sv 4 QI],[(.exit 2,[.sv 0 QL,.sv 3 QI,.sv 4 QI])])],[],[]⟩
def a3r(x:(Int×(List Int))):Option Int:= cond (x.1==31) ((a8D x.2).bind fun y1=> some (wrap .i64 (5+(wrap .i64 ((x.2.length:Int)*y1))))) ((a4j (x.1,x.2)).bind fun y2=> some y2)
def b5k:FSem:=⟨[.v QI,.v QL],[.v QI],a3r⟩
def e0M:Hints:=⟨[],[],[]⟩
def b5N(x:(List Int)):Option Int:= (b1G x).bind fun y1=> (a3r (31,x)).bind fun y2=> (a4j (y1,x)).bind fun y3=> cond (decide (y2<y3)) (some 31) (some y1)
def c5n:FSem:=⟨[.v QL],[.v QI],b5N⟩
def H97:Hints:=⟨[],[],[]⟩
def a4L(s:(Int×Z19)):Option ((Int×Z19) ⊕ Z0):= cond (decide (s.1<(s.2.1.2.1.length:Int))) ((show Option (Int×Z38)from(a0r s.2.1.2.1 s.1).bind fun x3=> (a3G x3).bind fun y4=> cond (!y4) ((a0r s.2.1.2.1 s.1).bind fun x5=> some (s.1,x5 != 31,s.2.1,())) (some (s.1,false,s.2.1,()))).bind fun z6=> cond z6.2.1 (some (.inr (Sum.inr ((false,()))))) (some (.inl (wrap .i64 (z6.1+1),z6.2.2.1,())))) (some (.inr (Sum.inl ())))
def a6V(x:(Z3×Int×Int)):Option Bool:= (a4h (x.1.1,x.2.1,x.2.2)).bind fun y1=> (show Option Z38 from cond ((y1.length:Int)==0) (some (true,x.1,())) (some ((y1.length:Int) != (x.1.2.1.length:Int),x.1,()))).bind fun z2=> cond z2.1 (some false) ((a0e a4L (0,z2.2.1,())).bind fun w7=> match w7 with |.inl a8=>some true |.inr b9=>some b9.1)
def b5l:FSem:=⟨[.v Q7,.v QI,.v QI],[.v .bool],a6V⟩
def e0N:Hints:=⟨[(122,[.sv 8 QI,.vp 3 Q7],[(.exit 0,[]),(.ret,[.sv 6 .bool])])],[(14,[(.normal,[.sv 24 .bool,.vp 3 Q7])]),(1956,[(.normal,[.sv 8 QI,.sv 46 .bool,.vp 3 Q7])])],[]⟩
def a3c(s:Z91):Option (Z91 ⊕ (Int×Unit)):= cond (decide (s.2.2.2.1<(s.2.2.2.2.1.length:Int))) ((a0r s.2.2.2.2.2.1.2.1 s.2.2.2.1).bind fun x5=> cond ((decide (0≤s.2.2.2.1))&&(decide (s.2.2.2.1<(s.2.2.2.2.1.length:Int)))) (cond ((decide (0≤(wrap .i64 (s.2.2.1+(a02 s.2.2.2.2.1 (a01 s.2.2.2.1) 0)))))&&(decide ((wrap .i64 (s.2.2.1+(a02 s.2.2.2.2.1 (a01 s.2.2.2.1) 0)))≤(s.1.length:Int)))) (cond ((decide (0≤s.2.2.1))&&(decide (s.2.2.1≤((a01 (wrap .i64 (s.2.2.1+(a02 s.2.2.2.2.1 (a01 s.2.2.2.1) 0))):Nat):Int)))) ((a3r (x5,a22 (a01 s.2.2.1) (a07 (a01 (wrap .i64 (s.2.2.1+(a02 s.2.2.2.2.1 (a01 s.2.2.2.1) 0)))) s.1))).bind fun y6=> cond ((decide (0≤s.2.2.2.1))&&(decide (s.2.2.2.1<(s.2.2.2.2.1.length:Int)))) (some (.inl (s.1,wrap .i64 ((wrap .i64 (s.2.1+5))+y6),wrap .i64 (s.2.2.1+(a02 s.2.2.2.2.1 (a01 s.2.2.2.1) 0)),wrap .i64 (s.2.2.2.1+1),s.2.2.2.2.1,s.2.2.2.2.2.1,()))) none) none) none) none) (some (.inr (s.2.1,())))
def a2V(x:Z58):Option Int:= (show Option (Int×(Int×((List Int)×Z38)))from(a6V (x.1,x.2.1,x.2.2.1)).bind fun y1=> cond (!y1) (some (x.2.1,x.2.2.1,x.2.2.2,true,x.1,())) (cond ((x.2.2.2.length:Int) != (wrap .i64 (x.2.1-x.2.2.1))) (some (x.2.1,x.2.2.1,x.2.2.2,true,x.1,())) ((a0H x.2.2.2).bind fun y2=> some (x.2.1,x.2.2.1,x.2.2.2,!y2,x.1,())))).bind fun z3=> cond z3.2.2.2.1 (some 0) ((a4h (z3.2.2.2.2.1.1,z3.1,z3.2.1)).bind fun y4=> (a0e a3c (z3.2.2.1,4,0,0,y4,z3.2.2.2.2.1,())).bind fun w7=> some w7.1)
def b3U:FSem:=⟨[.v Q7,.v QI,.v QI,.v QL],[.v QI],a2V⟩
def H98:Hints:=⟨[(250,[.sv 3 QL,.sv 9 QI,.sv 10 QI,.sv 12 QI,.own 11 11 QI,.vp 4 Q7],[(.exit 0,[.sv 9 QI])])],[(6,[(.normal,[.sv 1 QI,.sv 2 QI,.sv 3 QL,.sv 30 .bool,.vp 4 Q7])])],[(8,[.v,.v,.v,.v,.v,.v,.v,.v,.v,.v,.q,.v,.q,.q,.v,.v,.v,.x,.x])]⟩
def a4q(s:(Int×(Int×(Int×((List Int)×(Int×Int×d2i)))))):Option ((Int×(Int×(Int×((List Int)×(Int×Int×d2i))))) ⊕ (Int×(Int×(Int×((List Int)×(Int×Int×Z96)))))):= cond (decide (s.2.2.2.2.2.2.2.1<(s.2.2.2.2.2.2.2.2.1.length:Int))) (cond ((decide (0≤s.2.2.2.2.2.2.2.1))&&(decide (s.2.2.2.2.2.2.2.1<(s.2.2.2.2.2.2.2.2.1.length:Int)))) (cond ((decide (0≤(wrap .i64 (s.2.2.2.2.2.2.1+(a02 s.2.2.2.2.2.2.2.2.1 (a01 s.2.2.2.2.2.2.2.1) 0)))))&&(decide ((wrap .i64 (s.2.2.2.2.2.2.1+(a02 s.2.2.2.2.2.2.2.2.1 (a01 s.2.2.2.2.2.2.2.1) 0)))≤(s.2.2.2.1.length:Int)))) (cond ((decide (0≤s.2.2.2.2.2.2.1))&&(decide (s.2.2.2.2.2.2.1≤((a01 (wrap .i64 (s.2.2.2.2.2.2.1+(a02 s.2.2.2.2.2.2.2.2.1 (a01 s.2.2.2.2.2.2.2.1) 0))):Nat):Int)))) ((b5N (a22 (a01 s.2.2.2.2.2.2.1) (a07 (a01 (wrap .i64 (s.2.2.2.2.2.2.1+(a02 s.2.2.2.2.2.2.2.2.1 (a01 s.2.2.2.2.2.2.2.1) 0)))) s.2.2.2.1))).bind fun y5=> cond (lim ((a03 s.2.2.2.2.2.2.2.2.2.2.2.1.2.1)+1)) (cond ((decide (0≤s.2.2.2.2.2.2.2.1))&&(decide (s.2.2.2.2.2.2.2.1<(s.2.2.2.2.2.2.2.2.1.length:Int)))) (some (.inl (s.1,s.2.1,s.2.2.1,s.2.2.2.1,s.2.2.2.2.1,s.2.2.2.2.2.1,wrap .i64 (s.2.2.2.2.2.2.1+(a02 s.2.2.2.2.2.2.2.2.1 (a01 s.2.2.2.2.2.2.2.1) 0)),wrap .i64 (s.2.2.2.2.2.2.2.1+1),s.2.2.2.2.2.2.2.2.1,s.2.2.2.2.2.2.2.2.2.1,s.2.2.2.2.2.2.2.2.2.2.1,(s.2.2.2.2.2.2.2.2.2.2.2.1.1,a04 s.2.2.2.2.2.2.2.2.2.2.2.1.2.1 [y5],s.2.2.2.2.2.2.2.2.2.2.2.1.2.2),()))) none) none) none) none) none) (some (.inr (s.1,s.2.1,s.2.2.1,s.2.2.2.1,s.2.2.2.2.1,s.2.2.2.2.2.1,s.2.2.2.2.2.2.2.2.2.1,s.2.2.2.2.2.2.2.2.2.2.1,s.2.2.2.2.2.2.2.2.2.2.2.1,())))
def a3d(s:d2h):Option (d2h ⊕ Z78):= cond (decide (s.2.2.2.2.2.1≤(a2d (a1r s.2.2.1 0) 8))) ((a4h (s.2.2.2.2.2.1,s.1,s.2.1)).bind fun y4=> (a0e a4q (s.1,s.2.1,s.2.2.1,s.2.2.2.1,s.2.2.2.2.1,s.2.2.2.2.2.1,0,0,y4,s.2.2.2.2.2.2.1,s.2.2.2.2.2.2.2.1,(s.2.2.2.2.2.1,[],()),())).bind fun w6=> (a2V (w6.2.2.2.2.2.2.2.2.1,w6.1,w6.2.1,w6.2.2.2.1)).bind fun y7=> (show Option (Int×(Int×(Int×((List Int)×(Int×Int×Int×Bool×Z96)))))from cond (decide (y7 > 0)) (cond (w6.2.2.2.2.1==0) (some (w6.1,w6.2.1,w6.2.2.1,w6.2.2.2.1,w6.2.2.2.2.1,w6.2.2.2.2.2.1,y7,true,w6.2.2.2.2.2.2.1,w6.2.2.2.2.2.2.2.1,w6.2.2.2.2.2.2.2.2.1,())) (some (w6.1,w6.2.1,w6.2.2.1,w6.2.2.2.1,w6.2.2.2.2.1,w6.2.2.2.2.2.1,y7,decide (y7<w6.2.2.2.2.1),w6.2.2.2.2.2.2.1,w6.2.2.2.2.2.2.2.1,w6.2.2.2.2.2.2.2.2.1,()))) (some (w6.1,w6.2.1,w6.2.2.1,w6.2.2.2.1,w6.2.2.2.2.1,w6.2.2.2.2.2.1,y7,false,w6.2.2.2.2.2.2.1,w6.2.2.2.2.2.2.2.1,w6.2.2.2.2.2.2.2.2.1,()))).bind fun z8=> cond z8.2.2.2.2.2.2.2.1 (some (.inl (z8.1,z8.2.1,z8.2.2.1,z8.2.2.2.1,z8.2.2.2.2.2.2.1,wrap .i64 (z8.2.2.2.2.2.1+1),z8.2.2.2.2.2.2.2.2.1,z8.2.2.2.2.2.2.2.2.2.2.1,()))) (some (.inl (z8.1,z8.2.1,z8.2.2.1,z8.2.2.2.1,z8.2.2.2.2.1,wrap .i64 (z8.2.2.2.2.2.1+1),z8.2.2.2.2.2.2.2.2.1,z8.2.2.2.2.2.2.2.2.2.1,())))) (some (.inr (s.2.2.2.2.2.2.1,s.2.2.2.2.2.2.2.1,())))
def b0H(x:(Int×Z1)):Option (Z3×Int):= (show Option (Int×(Int×(Int×((List Int)×Z38))))from(b6M (x.1,x.2.1)).bind fun y1=> cond (!y1) (some (x.1,x.2.1,x.2.2.1,x.2.2.2,true,(0,[],()),())) (cond ((x.2.2.2.length:Int) != (wrap .i64 (x.1-x.2.1))) (some (x.1,x.2.1,x.2.2.1,x.2.2.2,true,(0,[],()),())) ((a0H x.2.2.2).bind fun y2=> some (x.1,x.2.1,x.2.2.1,x.2.2.2,!y2,(0,[],()),())))).bind fun z3=> cond z3.2.2.2.2.1 (some ((0,[],()),1)) ((a0e a3d (z3.1,z3.2.1,z3.2.2.1,z3.2.2.2.1,0,0,z3.2.2.2.2.2.1,(0,[],()),())).bind fun w9=> some (w9.2.1,0))
def b9e:FSem:=⟨[.v QI,.v QI,.v QI,.v QL],[.v Q7,.v QI],b0H⟩
def H47:Hints:=⟨[(250,[.sv 0 QI,.sv 1 QI,.sv 2 QI,.sv 3 QL,.sv 11 QI,.sv 12 QI,.box 8 Q7,.box 10 Q7,.ptr 8 8 [],.ptr 10 10 []],[(.exit 0,[.box 8 Q7,.box 10 Q7,.ptr 8 8 [],.ptr 10 10 []])]),(128154,[.sv 0 QI,.sv 1 QI,.sv 2 QI,.sv 3 QL,.sv 11 QI,.sv 12 QI,.sv 14 QI,.sv 16 QI,.own 13 13 QI,.box 8 Q7,.box 10 Q7,.box 15 Q6,.ptr 8 8 [],.ptr 10 10 [],.ptr 15 15 []],[(.exit 2,[.sv 0 QI,.sv 1 QI,.sv 2 QI,.sv 3 QL,.sv 11 QI,.sv 12 QI,.box 8 Q7,.box 10 Q7,.box 15 Q6,.ptr 8 8 [],.ptr 10 10 [],.ptr 15 15 []])])],[(6,[(.normal,[.sv 0 QI,.sv 1 QI,.sv 2 QI,.sv 3 QL,.sv 34 .bool,.box 8 Q7,.ptr 8 8 []])]),(64079,[(.normal,[.sv 0 QI,.sv 1 QI,.sv 2 QI,.sv 3 QL,.sv 11 QI,.sv 12 QI,.sv 17 QI,.sv 91 .bool,.box 8 Q7,.box 10 Q7,.box 15 Q7,.ptr 8 8 [],.ptr 10 10 [],.ptr 15 15 []])])],[(13,[.q,.q,.v,.v,.v,.q,.v,.q,.q,.v,.v,.v,.q,.x,.x,.x])]⟩
def b1I(x:(Int×((List Int)×a2c))):Option a9T:= (show Option (Int×((List Int)×d7t))from cond (x.1==2) (some (x.1,x.2.1,(x.2.1.length:Int),(0,0,0,0,0,[],a00 3 0,[],[],(0,[],()),[],()),(x.1,0,x.2.2.2.2.1,0,0,[],a00 3 0,[],[],(0,[],()),[],()),())) (cond (x.1==3) (some (x.1,x.2.1,(x.2.1.length:Int),(0,0,0,0,0,[],a00 3 0,[],[],(0,[],()),[],()),(x.1,0,0,x.2.2.2.2.2.1,0,x.2.2.2.2.2.2.2.1,a00 3 0,[],[],(0,[],()),[],()),())) (cond (x.1==4) (some (x.1,x.2.1,(x.2.1.length:Int),(0,0,0,0,0,[],a00 3 0,[],[],(0,[],()),[],()),(x.1,0,0,x.2.2.2.2.2.1,x.2.2.2.2.2.2.1,x.2.2.2.2.2.2.2.1,x.2.2.2.2.2.2.2.2.1,[],[],(0,[],()),[],()),())) (cond (x.1==5) (some (x.1,x.2.1,(x.2.1.length:Int),(0,0,0,0,0,[],a00 3 0,[],[],(0,[],()),[],()),(x.1,0,0,0,0,[],a00 3 0,x.2.2.2.2.2.2.2.2.2.1,[],(0,[],()),[],()),())) (some (x.1,x.2.1,(x.2.1.length:Int),(0,0,0,0,0,[],a00 3 0,[],[],(0,[],()),[],()),(x.1,0,0,0,0,[],a00 3 0,[],[],(0,[],()),[],()),())))))).bind fun z1=> (show Option (Int×((List Int)×(Int×Bool×b3Q)))from cond (decide (z1.2.2.1<1)) (some (z1.1,z1.2.1,z1.2.2.1,true,z1.2.2.2.1,z1.2.2.2.2.1,())) (cond (decide (z1.2.2.1 > 4096)) (some (z1.1,z1.2.1,z1.2.2.1,true,z1.2.2.2.1,z1.2.2.2.2.1,())) ((b1l (z1.2.2.2.2.1,z1.2.2.1)).bind fun y2=> some (z1.1,z1.2.1,z1.2.2.1,decide (y2<0),z1.2.2.2.1,z1.2.2.2.2.1,())))).bind fun z3=> cond z3.2.2.2.1 (some ((0,0,0,0,0,[],a00 3 0,[],[],(0,[],()),[],()),1)) ((a0H z3.2.1).bind fun y4=> cond (!y4) (some ((0,0,0,0,0,[],a00 3 0,[],[],(0,[],()),[],()),6)) (cond (z3.1==0) ((b4w z3.2.1).bind fun y5=> cond (!y5) (some ((0,0,0,0,0,[],a00 3 0,[],[],(0,[],()),[],()),7)) (cond (decide (1≤(z3.2.1.length:Int))) (some ((z3.2.2.2.2.2.1.1,z3.2.2.2.2.2.1.2.1,z3.2.2.2.2.2.1.2.2.1,z3.2.2.2.2.2.1.2.2.2.1,z3.2.2.2.2.2.1.2.2.2.2.1,z3.2.2.2.2.2.1.2.2.2.2.2.1,z3.2.2.2.2.2.1.2.2.2.2.2.2.1,z3.2.2.2.2.2.1.2.2.2.2.2.2.2.1,a07 1 z3.2.1,z3.2.2.2.2.2.1.2.2.2.2.2.2.2.2.2),0)) none)) ((a7I z3.2.1).bind fun y6=> (b4R (z3.2.1,y6)).bind fun y7=> (b0F ((z3.2.2.2.2.2.1.1,y6,z3.2.2.2.2.2.1.2.2),y7.1)).bind fun y8=> cond (y8.2.2 != 0) (some ((0,0,0,0,0,[],a00 3 0,[],[],(0,[],()),[],()),6)) ((show Option b3Q from(a5u z3.1).bind fun y9=> cond y9 ((b0H (z3.2.2.1,(y8.1.length:Int),6,y8.2.1)).bind fun y10=> some (z3.2.2.2.2.1,(z3.2.2.2.2.2.1.1,y6,z3.2.2.2.2.2.1.2.2.1,z3.2.2.2.2.2.1.2.2.2.1,z3.2.2.2.2.2.1.2.2.2.2.1,z3.2.2.2.2.2.1.2.2.2.2.2.1,z3.2.2.2.2.2.1.2.2.2.2.2.2.1,z3.2.2.2.2.2.1.2.2.2.2.2.2.2.1,y8.1,y10.1,y8.2.1,z3.2.2.2.2.2.1.2.2.2.2.2.2.2.2.2.2.2),())) (some (z3.2.2.2.2.1,(z3.2.2.2.2.2.1.1,y6,z3.2.2.2.2.2.1.2.2.1,z3.2.2.2.2.2.1.2.2.2.1,z3.2.2.2.2.2.1.2.2.2.2.1,z3.2.2.2.2.2.1.2.2.2.2.2.1,z3.2.2.2.2.2.1.2.2.2.2.2.2.1,z3.2.2.2.2.2.1.2.2.2.2.2.2.2.1,y8.1,z3.2.2.2.2.2.1.2.2.2.2.2.2.2.2.2.1,y8.2.1,z3.2.2.2.2.2.1.2.2.2.2.2.2.2.2.2.2.2),()))).bind fun z11=> some (z11.2.1,0)))))
def c0J:FSem:=⟨[.v QI,.v QL,.v Q19],[.v Q19,.v QI],b1I⟩
def H20:Hints:=⟨[],[(15,[(.normal,[.sv 0 QI,.sv 1 QL,.sv 8 QI,.box 6 Q19,.box 9 Q19,.ptr 6 6 [],.ptr 9 9 []])]),(62,[(.normal,[.sv 0 QI,.sv 1 QL,.sv 8 QI,.sv 63 .bool,.box 6 Q19,.box 9 Q19,.ptr 6 6 [],.ptr 9 9 []])]),(8191,[(.normal,[.box 6 Q19,.box 9 Q19,.ptr 6 6 [],.ptr 9 9 []])])],[(7,[.v,.v,.v,.v,.q,.w [0,9],.x,.x]),(9,[.v,.v,.v,.v,.v,.v,.v,.v,.q,.w [0,9],.q,.w [0,9],.q,.w [0,9],.x,.x])]⟩
def a4B(s:(Z5×Z36)):Option ((Z5×Z36) ⊕ Z0):= cond (decide (s.2.2.1<(s.1.length:Int))) ((a0r s.1 s.2.2.1).bind fun x1=> (a0r s.2.1 s.2.2.1).bind fun x2=> cond (!(eqT Q4 x1 x2)) (some (.inr (Sum.inr ((false,()))))) (some (.inl (s.1,s.2.1,wrap .i64 (s.2.2.1+1),())))) (some (.inr (Sum.inl ())))
def a8E(x:(Z5×Z5)):Option Bool:= cond ((x.1.length:Int) != (x.2.length:Int)) (some false) ((a0e a4B (x.1,x.2,0,())).bind fun w3=> match w3 with |.inl a4=>some true |.inr b5=>some b5.1)
def b6N:FSem:=⟨[.v (.list false Q4),.v (.list false Q4)],[.v .bool],a8E⟩
def H24:Hints:=⟨[(58,[.sv 0 (.list false Q4),.sv 1 (.list false Q4),.sv 5 QI],[(.exit 0,[]),(.ret,[.sv 4 .bool])])],[],[(6,[.v,.v,.v,.v,.v,.v,.v,.v,.x])]⟩
def b3V(x:(Z3×Z3)):Option Bool:= cond (x.1.1==x.2.1) ((a2i (x.1.2.1,x.2.2.1)).bind fun y1=> some y1) (some false)
def b9f:FSem:=⟨[.v Q7,.v Q7],[.v .bool],b3V⟩
def H25:Hints:=⟨[],[],[]⟩
def a9b(x:(a2c×a2c)):Option Bool:= cond (x.1.1==x.2.1) (cond (x.1.2.1==x.2.2.1) (cond (x.1.2.2.1==x.2.2.2.1) (cond (x.1.2.2.2.1==x.2.2.2.2.1) (cond (x.1.2.2.2.2.1==x.2.2.2.2.2.1) ((a2i (x.1.2.2.2.2.2.1,x.2.2.2.2.2.2.1)).bind fun y1=> cond y1 (cond (eqT (.arr 3 (.int .i64)) x.1.2.2.2.2.2.2.1 x.2.2.2.2.2.2.2.1) ((a8E (x.1.2.2.2.2.2.2.2.1,x.2.2.2.2.2.2.2.2.1)).bind fun y2=> cond y2 ((a2i (x.1.2.2.2.2.2.2.2.2.1,x.2.2.2.2.2.2.2.2.2.1)).bind fun y3=> cond y3 ((b3V (x.1.2.2.2.2.2.2.2.2.2.1,x.2.2.2.2.2.2.2.2.2.2.1)).bind fun y4=> cond y4 ((a2i (x.1.2.2.2.2.2.2.2.2.2.2.1,x.2.2.2.2.2.2.2.2.2.2.2.1)).bind fun y5=> some y5) (some false)) (some false)) (some false)) (some false)) (some false)) (some false)) (some false)) (some false)) (some false)) (some false)
def b5m:FSem:=⟨[.v Q19,.v Q19],[.v .bool],a9b⟩
def H8:Hints:=⟨[],[],[]⟩
def b4x(x:a2c):Option a2c:= cond (x.1==0) (some (x.1,0,0,0,0,[],a00 3 0,[],x.2.2.2.2.2.2.2.2.1,(0,[],()),[],())) (cond (x.1==1) (some (x.1,x.2.1,0,0,0,[],a00 3 0,[],x.2.2.2.2.2.2.2.2.1,(0,[],()),[],())) ((show Option b3Q from cond (x.1==2) (some ((0,0,0,0,0,[],a00 3 0,[],[],(0,[],()),[],()),(x.1,x.2.1,x.2.2.1,0,0,[],a00 3 0,[],x.2.2.2.2.2.2.2.2.1,x.2.2.2.2.2.2.2.2.2.1,x.2.2.2.2.2.2.2.2.2.2.1,()),())) (cond (x.1==3) (some ((0,0,0,0,0,[],a00 3 0,[],[],(0,[],()),[],()),(x.1,x.2.1,0,x.2.2.2.1,0,x.2.2.2.2.2.1,a00 3 0,[],x.2.2.2.2.2.2.2.2.1,x.2.2.2.2.2.2.2.2.2.1,x.2.2.2.2.2.2.2.2.2.2.1,()),())) (cond (x.1==4) (some ((0,0,0,0,0,[],a00 3 0,[],[],(0,[],()),[],()),(x.1,x.2.1,0,x.2.2.2.1,x.2.2.2.2.1,x.2.2.2.2.2.1,x.2.2.2.2.2.2.1,[],x.2.2.2.2.2.2.2.2.1,x.2.2.2.2.2.2.2.2.2.1,x.2.2.2.2.2.2.2.2.2.2.1,()),())) (cond (x.1==5) (some ((0,0,0,0,0,[],a00 3 0,[],[],(0,[],()),[],()),(x.1,x.2.1,0,0,0,[],a00 3 0,x.2.2.2.2.2.2.2.1,[],x.2.2.2.2.2.2.2.2.2.1,x.2.2.2.2.2.2.2.2.2.2.1,()),())) (some ((0,0,0,0,0,[],a00 3 0,[],[],(0,[],()),[],()),(x.1,x.2.1,0,0,0,[],a00 3 0,[],x.2.2.2.2.2.2.2.2.1,x.2.2.2.2.2.2.2.2.2.1,x.2.2.2.2.2.2.2.2.2.2.1,()),())))))).bind fun z1=> some z1.2.1))
def c3v:FSem:=⟨[.v Q19],[.v Q19],b4x⟩
def e0O:Hints:=⟨[],[(127,[(.normal,[.box 2 Q19,.box 3 Q19,.ptr 2 2 [],.ptr 3 3 []])])],[(7,[.v,.v,.v,.v,.q,.w [0,3],.x,.x]),(12,[.v,.v,.v,.v,.q,.w [0,3],.x,.x]),(14,[.v,.v,.v,.v,.v,.v,.v,.v,.q,.w [0,3],.q,.w [0,3],.q,.w [0,3],.x,.x])]⟩
def b6O(x:Int):Option (List Int):= cond ((decide (0≤x))&&(decide (x<5))) (some (a02 ([[],[1],[2,(-1)],[3,(-3),1],[4,(-6),4,(-1)]]:List (List Int)) (a01 x) [])) none
def c1U:FSem:=⟨[.v QI],[.v QL],b6O⟩
def e0P:Hints:=⟨[],[],[]⟩
def a5d(s:((List Int)×(Int×Z61))):Option (((List Int)×(Int×Z61)) ⊕ Z81):= cond (decide (s.2.2.2.2.2.1<s.2.1)) ((a0r s.2.2.1 s.2.2.2.2.2.1).bind fun x7=> cond ((decide (0≤(wrap .i64 ((wrap .i64 ((s.2.2.2.2.2.2.1.length:Int)-1))-s.2.2.2.2.2.1))))&&(decide ((wrap .i64 ((wrap .i64 ((s.2.2.2.2.2.2.1.length:Int)-1))-s.2.2.2.2.2.1))<(s.2.2.2.2.2.2.1.length:Int)))) (some (.inl (s.1,s.2.1,s.2.2.1,s.2.2.2.1,wrap .i64 (s.2.2.2.2.1+(wrap .i64 (x7*(a02 s.2.2.2.2.2.2.1 (a01 (wrap .i64 ((wrap .i64 ((s.2.2.2.2.2.2.1.length:Int)-1))-s.2.2.2.2.2.1))) 0)))),wrap .i64 (s.2.2.2.2.2.1+1),s.2.2.2.2.2.2.1,()))) none) (some (.inr (s.1,s.2.1,s.2.2.1,s.2.2.2.1,s.2.2.2.2.1,s.2.2.2.2.2.2.1,())))
end Go.Ab
namespace Go.Ab
open IntKind(wrap)
open Go.Proofs
set_option maxRecDepth 100000
set_option linter.unusedVariables false
def a7w(s:((List Int)×(Int×Z28))):Option (((List Int)×(Int×Z28)) ⊕ Z45):= cond (decide (s.2.2.2.1<(s.1.length:Int))) ((a0r s.1 s.2.2.2.1).bind fun x6=> (a0e a5d (s.1,s.2.1,s.2.2.1,s.2.2.2.1,x6,0,s.2.2.2.2.1,())).bind fun w8=> (a3D w8.2.2.2.2.1).bind fun y9=> cond (!y9) (some (.inr (Sum.inr ((6,[],()))))) (cond (lim ((a03 w8.2.2.2.2.2.1)+1)) (some (.inl (w8.1,w8.2.1,w8.2.2.1,wrap .i64 (w8.2.2.2.1+1),a04 w8.2.2.2.2.2.1 [w8.2.2.2.2.1],()))) none)) (some (.inr (Sum.inl (s.2.2.2.2.1,()))))
def a9C(x:Z11):Option ((List Int)×Int):= (show Option Z48 from cond (decide (x.2.2<0)) (some (x.1,x.2.1,x.2.2,true,())) (cond (decide (x.2.2 > 4)) (some (x.1,x.2.1,x.2.2,true,())) (some (x.1,x.2.1,x.2.2,(x.1.length:Int) != x.2.2,())))).bind fun z1=> cond z1.2.2.2.1 (some ([],1)) ((show Option Z48 from(a0H z1.1).bind fun y2=> cond (!y2) (some (z1.1,z1.2.1,z1.2.2.1,true,())) ((a0H z1.2.1).bind fun y3=> some (z1.1,z1.2.1,z1.2.2.1,!y3,()))).bind fun z4=> cond z4.2.2.2.1 (some ([],6)) (cond (lim (0+(a03 z4.1))) ((b6O z4.2.2.1).bind fun y5=> (a0e a7w (z4.2.1,z4.2.2.1,y5,0,a04 [] z4.1,())).bind fun w10=> match w10 with |.inl a11=>some (a11.1,0) |.inr b12=>some (b12.2.1,b12.1)) none))
def b7E:FSem:=⟨[.v QL,.v QL,.v QI],[.o QI,.v QI],a9C⟩
def e0Q:Hints:=⟨[(250,[.sv 1 QL,.sv 2 QI,.sv 9 QL,.sv 10 QI,.own 8 8 QI],[(.exit 0,[.own 8 8 QI]),(.ret,[.sv 7 QI,.own 6 6 QI])]),(64074,[.sv 1 QL,.sv 2 QI,.sv 9 QL,.sv 10 QI,.sv 11 QI,.sv 12 QI,.own 8 8 QI],[(.exit 2,[.sv 1 QL,.sv 2 QI,.sv 9 QL,.sv 10 QI,.sv 11 QI,.own 8 8 QI])])],[(6,[(.normal,[.sv 0 QL,.sv 1 QL,.sv 2 QI,.sv 24 .bool])]),(14,[(.normal,[.sv 0 QL,.sv 1 QL,.sv 2 QI,.sv 32 .bool])])],[(13,[.v,.v,.v,.v,.v,.q,.q,.q,.v,.v,.v,.q,.q,.v,.x,.x])]⟩
def a6F(s:Z67):Option (Z67 ⊕ Z45):= cond (decide (s.2.2.2.1<(s.1.length:Int))) ((a0r s.1 s.2.2.2.1).bind fun x6=> (a5F (s.2.2.2.2.1,s.2.1,s.2.2.1)).bind fun y7=> (a3D (wrap .i64 (x6+y7))).bind fun y8=> cond (!y8) (some (.inr (Sum.inr ((6,[],()))))) (cond (lim ((a03 s.2.2.2.2.1)+1)) (some (.inl (s.1,s.2.1,s.2.2.1,wrap .i64 (s.2.2.2.1+1),a04 s.2.2.2.2.1 [wrap .i64 (x6+y7)],()))) none)) (some (.inr (Sum.inl (s.2.2.2.2.1,()))))
def a6w(x:((List Int)×Z11)):Option ((List Int)×Int):= (show Option Z73 from(a4e (x.2.2.1,x.2.2.2)).bind fun y1=> cond (!y1) (some (x.1,x.2.1,x.2.2.1,x.2.2.2,true,())) (some (x.1,x.2.1,x.2.2.1,x.2.2.2,(x.1.length:Int) != (x.2.2.1.length:Int),()))).bind fun z2=> cond z2.2.2.2.2.1 (some ([],1)) ((show Option Z73 from(a0H z2.1).bind fun y3=> cond (!y3) (some (z2.1,z2.2.1,z2.2.2.1,z2.2.2.2.1,true,())) ((a0H z2.2.1).bind fun y4=> some (z2.1,z2.2.1,z2.2.2.1,z2.2.2.2.1,!y4,()))).bind fun z5=> cond z5.2.2.2.2.1 (some ([],6)) (cond (lim (0+(a03 z5.1))) ((a0e a6F (z5.2.1,z5.2.2.1,z5.2.2.2.1,0,a04 [] z5.1,())).bind fun w9=> match w9 with |.inl a10=>some (a10.1,0) |.inr b11=>some (b11.2.1,b11.1)) none))
def b6P:FSem:=⟨[.v QL,.v QL,.v QL,.v QI],[.o QI,.v QI],a6w⟩
def e0R:Hints:=⟨[(250,[.sv 1 QL,.sv 2 QL,.sv 3 QI,.sv 11 QI,.own 10 10 QI],[(.exit 0,[.own 10 10 QI]),(.ret,[.sv 9 QI,.own 8 8 QI])])],[(6,[(.normal,[.sv 0 QL,.sv 1 QL,.sv 2 QL,.sv 3 QI,.sv 23 .bool])]),(14,[(.normal,[.sv 0 QL,.sv 1 QL,.sv 2 QL,.sv 3 QI,.sv 31 .bool])])],[(9,[.v,.v,.v,.v,.q,.v,.v,.q,.x,.x])]⟩
def a7S(s:Z68):Option (Z68 ⊕ Z45):= cond (decide (s.2.2.1<(s.1.length:Int))) ((a0r s.1 s.2.2.1).bind fun x3=> (a7p (s.2.2.2.1,s.2.1,s.2.2.2.2.1)).bind fun y4=> (a3D (wrap .i64 (x3+y4))).bind fun y5=> cond (!y5) (some (.inr (Sum.inr ((6,[],()))))) (cond (lim ((a03 s.2.2.2.1)+1)) (some (.inl (s.1,s.2.1,wrap .i64 (s.2.2.1+1),a04 s.2.2.2.1 [wrap .i64 (x3+y4)],s.2.2.2.2.1,()))) none)) (some (.inr (Sum.inl (s.2.2.2.1,()))))
def b0I(x:Z12):Option ((List Int)×Int):= (a6S (x.2.1,x.2.2)).bind fun y1=> cond (!y1) (some ([],1)) ((a0H x.1).bind fun y2=> cond (!y2) (some ([],6)) ((a0e a7S (x.1,x.2.1,0,[],x.2.2,())).bind fun w6=> match w6 with |.inl a7=>some (a7.1,0) |.inr b8=>some (b8.2.1,b8.1)))
def b9g:FSem:=⟨[.v QL,.v QI,.v (.arr 3 QI)],[.o QI,.v QI],b0I⟩
def e0S:Hints:=⟨[(250,[.sv 0 QL,.sv 1 QI,.sv 9 QI,.own 8 8 QI,.vp 5 (.arr 3 QI)],[(.exit 0,[.own 8 8 QI]),(.ret,[.sv 7 QI,.own 6 6 QI])])],[],[(9,[.v,.v,.v,.v,.q,.v,.v,.q,.x,.x])]⟩
def a5e(s:d2g):Option (d2g ⊕ (Z65 ⊕ Z3)):= cond (decide (s.2.2.1<(s.2.2.2.1.length:Int))) (cond ((decide (0≤s.2.2.1))&&(decide (s.2.2.1<(s.2.2.2.1.length:Int)))) ((a3F s.2.2.2.2.1).bind fun y5=> (a3D (wrap .i64 ((a02 s.2.2.2.1 (a01 s.2.2.1) 0)+y5.1))).bind fun y6=> cond (!y6) (some (.inr (Sum.inr ((6,[],()))))) (cond ((decide (0≤s.2.2.1))&&(decide (s.2.2.1<(s.2.2.2.1.length:Int)))) ((a5G (y5.2,wrap .i64 ((a02 s.2.2.2.1 (a01 s.2.2.1) 0)+y5.1))).bind fun y7=> some (.inl (s.1,s.2.1,wrap .i64 (s.2.2.1+1),a05 s.2.2.2.1 (a01 s.2.2.1) (wrap .i64 ((a02 s.2.2.2.1 (a01 s.2.2.1) 0)+y5.1)),y7,()))) none)) none) (some (.inr (Sum.inl (s.1,s.2.1,s.2.2.2.1,()))))
def a5f(s:Z65):Option (Z65 ⊕ Z45):= cond (decide (s.2.1≥0)) ((a0r s.1 s.2.1).bind fun x3=> (a7r x3).bind fun y4=> (a0e a5e (s.1,s.2.1,0,s.2.2.1,y4.1,())).bind fun w8=> match w8 with |.inl a9=>some (.inl (a9.1,wrap .i64 (a9.2.1-1),a9.2.2.1,())) |.inr b10=>some (.inr (Sum.inr ((b10.1,b10.2.1,()))))) (some (.inr (Sum.inl (s.2.2.1,()))))
def a9D(x:Z27):Option ((List Int)×Int):= (a6k x.2).bind fun y1=> cond (!y1) (some ([],1)) ((a0H x.1).bind fun y2=> cond (!y2) (some ([],6)) (cond (lim (0+(a03 x.1))) ((a0e a5f (x.2,wrap .i64 ((x.2.length:Int)-1),a04 [] x.1,())).bind fun w11=> match w11 with |.inl a12=>some (a12.1,0) |.inr b13=>some (b13.2.1,b13.1)) none))
def b7F:FSem:=⟨[.v QL,.v (.list false Q4)],[.o QI,.v QI],a9D⟩
def e0T:Hints:=⟨[(250,[.sv 1 (.list false Q4),.sv 7 QI,.own 6 6 QI],[(.exit 0,[.own 6 6 QI]),(.ret,[.sv 5 QI,.own 4 4 QI])]),(32038,[.sv 1 (.list false Q4),.sv 7 QI,.sv 10 QI,.own 6 6 QI,.box 1033 Q9,.ptr 8 1033 []],[(.exit 2,[.sv 1 (.list false Q4),.sv 7 QI,.own 6 6 QI]),(.ret,[.sv 5 QI,.own 4 4 QI])])],[],[(13,[.r [6,42],.v,.r [6,44],.r [6,45],.q,.w [47,1033,1047],.x,.x])]⟩
def b5O(x:a2c):Option ((List Int)×Int):= cond (x.1==2) ((a9C (x.2.2.2.2.2.2.2.2.1,x.2.2.2.2.2.2.2.2.2.2.1,x.2.2.1)).bind fun y1=> some (y1.1,y1.2)) (cond (x.1==3) ((a6w (x.2.2.2.2.2.2.2.2.1,x.2.2.2.2.2.2.2.2.2.2.1,x.2.2.2.2.2.1,x.2.2.2.1)).bind fun y2=> some (y2.1,y2.2)) (cond (x.1==4) ((a6w (x.2.2.2.2.2.2.2.2.1,x.2.2.2.2.2.2.2.2.2.2.1,x.2.2.2.2.2.1,x.2.2.2.1)).bind fun y3=> cond (y3.2 != 0) (some ([],y3.2)) ((b0I (y3.1,x.2.2.2.2.1,x.2.2.2.2.2.2.1)).bind fun y4=> some (y4.1,y4.2))) (cond (x.1==5) ((a9D (x.2.2.2.2.2.2.2.2.2.2.1,x.2.2.2.2.2.2.2.1)).bind fun y5=> some (y5.1,y5.2)) (some (x.2.2.2.2.2.2.2.2.1,0)))))
def c5o:FSem:=⟨[.v Q19],[.v QL,.v QI],b5O⟩
def e0U:Hints:=⟨[],[],[]⟩
def b5P(s:Z41):Option (Z41 ⊕ Z45):= cond (decide (s.2.2.1<(s.1.length:Int))) ((show Option Z62 from(a0r s.1 s.2.2.1).bind fun x2=> (a3D x2).bind fun y3=> cond (!y3) (some (s.1,s.2.1,s.2.2.1,true,s.2.2.2.1,())) ((a0r s.1 s.2.2.1).bind fun x4=> cond (decide ((wrap .u64 s.2.1)<0)) none ((a3D (a0D .i64 x4 (wrap .u64 s.2.1))).bind fun y5=> some (s.1,s.2.1,s.2.2.1,!y5,s.2.2.2.1,())))).bind fun z6=> cond z6.2.2.2.1 (some (.inr (Sum.inr ((6,[],()))))) ((a0r z6.1 z6.2.2.1).bind fun x7=> cond (decide ((wrap .u64 z6.2.1)<0)) none (cond (lim ((a03 z6.2.2.2.2.1)+1)) (some (.inl (z6.1,z6.2.1,wrap .i64 (z6.2.2.1+1),a04 z6.2.2.2.2.1 [a0D .i64 x7 (wrap .u64 z6.2.1)],()))) none))) (some (.inr (Sum.inl (s.2.2.2.1,()))))
def c2J(x:((List Int)×Int)):Option ((List Int)×Int):= (show Option Z18 from cond (decide (x.2<0)) (some (x.1,x.2,true,())) (some (x.1,x.2,decide (x.2 > 30),()))).bind fun z1=> cond z1.2.2.1 (some ([],1)) ((a0e b5P (z1.1,z1.2.1,0,[],())).bind fun w8=> match w8 with |.inl a9=>some (a9.1,0) |.inr b10=>some (b10.2.1,b10.1))
def d1j:FSem:=⟨[.v QL,.v QI],[.o QI,.v QI],c2J⟩
def e0V:Hints:=⟨[(122,[.sv 0 QL,.sv 1 QI,.sv 7 QI,.own 6 6 QI],[(.exit 0,[.own 6 6 QI]),(.ret,[.sv 5 QI,.own 4 4 QI])])],[(6,[(.normal,[.sv 0 QL,.sv 1 QI,.sv 13 .bool])]),(3912,[(.normal,[.sv 0 QL,.sv 1 QI,.sv 7 QI,.sv 36 .bool,.own 6 6 QI])])],[]⟩
def a7x(s:d2n):Option (d2n ⊕ ((List Int)×Unit)):= cond (decide (s.2.1<s.1)) ((a0r s.2.2.2.1.2.2.2.2.2.2.2.2.1 0).bind fun x11=> cond ((decide (0≤s.2.1))&&(decide (s.2.1<(s.2.2.1.length:Int)))) (some (.inl (s.1,wrap .i64 (s.2.1+1),a05 s.2.2.1 (a01 s.2.1) x11,s.2.2.2.1,()))) none) (some (.inr (s.2.2.1,())))
def b3f(x:a9T):Option ((List Int)×Bool):= (show Option c1D from cond (decide (x.2<1)) (some (x.2,true,x.1,())) (cond (decide (x.2 > 4096)) (some (x.2,true,x.1,())) (cond (decide (x.1.1<0)) (some (x.2,true,x.1,())) (cond (decide (x.1.1 > 5)) (some (x.2,true,x.1,())) ((b4x x.1).bind fun y1=> (a9b (x.1,y1)).bind fun y2=> cond (!y2) (some (x.2,true,x.1,())) (cond (decide (x.1.2.1<0)) (some (x.2,true,x.1,())) (some (x.2,decide (x.1.2.1 > 30),x.1,())))))))).bind fun z3=> cond z3.2.1 (some ([],false)) ((b1l (z3.2.2.1,z3.1)).bind fun y4=> (show Option d2l from cond (decide (y4<0)) (some (z3.1,y4,true,z3.2.2.1,())) (cond ((z3.2.2.1.2.2.2.2.2.2.2.2.1.length:Int) != y4) (some (z3.1,y4,true,z3.2.2.1,())) ((a0H z3.2.2.1.2.2.2.2.2.2.2.2.1).bind fun y5=> cond (!y5) (some (z3.1,y4,true,z3.2.2.1,())) ((a0H z3.2.2.1.2.2.2.2.2.2.2.2.2.2.1).bind fun y6=> some (z3.1,y4,!y6,z3.2.2.1,()))))).bind fun z7=> cond z7.2.2.1 (some ([],false)) ((show Option c1D from(a5u z7.2.2.2.1.1).bind fun y8=> cond y8 (cond ((z7.2.2.2.1.2.2.2.2.2.2.2.2.2.2.1.length:Int) != (wrap .i64 (z7.1-z7.2.1))) (some (z7.1,true,z7.2.2.2.1,())) ((a6V (z7.2.2.2.1.2.2.2.2.2.2.2.2.2.1,z7.1,z7.2.1)).bind fun y9=> some (z7.1,!y9,z7.2.2.2.1,()))) (some (z7.1,false,z7.2.2.2.1,()))).bind fun z10=> cond z10.2.1 (some ([],false)) (cond (z10.2.2.1.1==0) (cond ((decide (0≤z10.1))&&((decide (z10.1≤z10.1))&&(lim (a01 z10.1)))) ((a0e a7x (z10.1,0,a00 (a01 z10.1) 0,z10.2.2.1,())).bind fun w12=> some (w12.1,true)) none) ((b5O z10.2.2.1).bind fun y13=> cond (y13.2 != 0) (some ([],false)) ((c2J (y13.1,z10.2.2.1.2.1)).bind fun y14=> some (y14.1,y14.2==0))))))
def c1V:FSem:=⟨[.v Q19,.v QI],[.o QI,.v .bool],b3f⟩
def e0W:Hints:=⟨[(8106,[.sv 1 QI,.sv 8 QI,.own 7 7 QI,.vp 2 Q19],[(.exit 0,[.own 7 7 QI])])],[(6,[(.normal,[.sv 1 QI,.sv 45 .bool,.vp 2 Q19])]),(30,[(.normal,[.sv 1 QI,.sv 6 QI,.sv 69 .bool,.vp 2 Q19])]),(62,[(.normal,[.sv 1 QI,.sv 89 .bool,.vp 2 Q19])])],[(1,[.x,.x,.x,.x,.x,.x,.x,.x,.x,.x,.x,.x,.x,.x,.x,.x,.x,.v,.v,.v,.x,.x,.x,.x,.x,.x,.x,.x,.x,.x,.x,.x,.x])]⟩
def b3g(x:a9T):Option Bool:= (b3f (x.1,x.2)).bind fun y1=> some y1.2
def c1W:FSem:=⟨[.v Q19,.v QI],[.v .bool],b3g⟩
def H99:Hints:=⟨[],[],[]⟩
def a7y(s:Z37):Option (Z37 ⊕ Z9):= cond (decide (s.2.1≥0)) (cond (decide ((wrap .u64 s.2.1)<0)) none (cond (lim ((a03 s.2.2.1.1)+1)) (some (.inl (s.1,wrap .i64 (s.2.1-1),(a04 s.2.2.1.1 [wrap .u8 (bits .u64 .and (a0m .u64 s.1 (wrap .u64 s.2.1)) 1)],s.2.2.1.2),()))) none)) (some (.inr (s.2.2.1,())))
def a0t(x:(((List Int)×Unit)×(Int×Int))):Option Z3:= (show Option (Int×Int×Bool×Z9)from cond (decide (x.2.2<0)) (some (x.2.1,x.2.2,true,x.1,())) (cond (decide (x.2.2 > 64)) (some (x.2.1,x.2.2,true,x.1,())) (cond (decide (x.2.2<64)) (cond (decide ((wrap .u64 x.2.2)<0)) none (some (x.2.1,x.2.2,(a0m .u64 x.2.1 (wrap .u64 x.2.2)) != 0,x.1,()))) (some (x.2.1,x.2.2,false,x.1,()))))).bind fun z1=> cond z1.2.2.1 (some (1,z1.2.2.2.1)) ((a0e a7y (z1.1,wrap .i64 (z1.2.1-1),z1.2.2.2.1,())).bind fun w2=> some (0,w2.1))
def a5n:FSem:=⟨[.r false (.b Q1),.v (.int .u64),.v QI],[.v QI],a0t⟩
def e0X:Hints:=⟨[(58,[.sv 1 (.int .u64),.sv 7 QI,.box pinned Q1,.ptr 0 pinned []],[(.exit 0,[.box pinned Q1])])],[(6,[(.normal,[.sv 1 (.int .u64),.sv 2 QI,.sv 24 .bool,.box pinned Q1,.ptr 0 pinned []])])],[]⟩
def a7T(s:((List Int)×Z37)):Option (((List Int)×Z37) ⊕ Z9):= cond (decide (s.2.2.1<(s.1.length:Int))) ((a0r s.1 s.2.2.1).bind fun x2=> cond (decide ((wrap .u64 s.2.1)<0)) none ((a0t (s.2.2.2.1,bits .u64 .and (wrap .u64 x2) (wrap .u64 ((a0D .u64 1 (wrap .u64 s.2.1))-1)),s.2.1)).bind fun y3=> some (.inl (s.1,s.2.1,wrap .i64 (s.2.2.1+1),y3.2,())))) (some (.inr (s.2.2.2.1,())))
def a3H(x:(((List Int)×Unit)×((List Int)×Int))):Option ((List Int)×Unit):= (a0e a7T (x.2.1,x.2.2,0,x.1,())).bind fun w4=> some w4.1
def b0J:FSem:=⟨[.r false (.b Q1),.v QL,.v QI],[],a3H⟩
def e0Y:Hints:=⟨[(6,[.sv 1 QL,.sv 2 QI,.sv 6 QI,.box pinned Q1,.ptr 0 pinned []],[(.exit 0,[.box pinned Q1])])],[],[]⟩
def a7z(x:(((List Int)×Unit)×a2c)):Option ((List Int)×Unit):= (a0t (x.1,wrap .u64 (wrap .i64 ((x.2.2.2.2.2.2.1.length:Int)-1)),5)).bind fun y1=> (a0t (y1.2,wrap .u64 x.2.2.2.2.1,4)).bind fun y2=> (a8D x.2.2.2.2.2.2.1).bind fun y3=> (a0t (y2.2,wrap .u64 y3,5)).bind fun y4=> (a3H (y4.2,x.2.2.2.2.2.2.1,y3)).bind fun y5=> some y5
def b7G:FSem:=⟨[.r false (.b Q1),.v Q19],[],a7z⟩
def e0Z:Hints:=⟨[],[],[]⟩
def a5Q(s:Z37):Option (Z37 ⊕ Z9):= cond (decide (s.2.1<s.1)) (cond (lim ((a03 s.2.2.1.1)+1)) (some (.inl (s.1,wrap .i64 (s.2.1+1),(a04 s.2.2.1.1 [0],s.2.2.1.2),()))) none) (some (.inr (s.2.2.1,())))
def a4r(x:(((List Int)×Unit)×Int)):Option Z3:= (show Option (Int×Bool×Z9)from cond (decide (x.2<0)) (some (x.2,true,x.1,())) (some (x.2,decide (x.2 > 4096),x.1,()))).bind fun z1=> cond z1.2.1 (some (1,z1.2.2.1)) ((a0e a5Q (z1.1,0,z1.2.2.1,())).bind fun w2=> cond (lim ((a03 w2.1.1)+1)) (some (0,a04 w2.1.1 [1],w2.1.2)) none)
def b5y:FSem:=⟨[.r false (.b Q1),.v QI],[.v QI],a4r⟩
def e1a:Hints:=⟨[(58,[.sv 1 QI,.sv 5 QI,.box pinned Q1,.ptr 0 pinned []],[(.exit 0,[.box pinned Q1,.ptr 0 pinned []])])],[(6,[(.normal,[.sv 1 QI,.sv 11 .bool,.box pinned Q1,.ptr 0 pinned []])])],[]⟩
def a7A(s:(Int×((List Int)×Z23))):Option ((Int×((List Int)×Z23)) ⊕ Z9):= cond (decide (s.2.2.1<(s.2.1.length:Int))) ((a0r s.2.1 s.2.2.1).bind fun x4=> (b4T x4).bind fun y5=> cond (decide ((wrap .u64 s.1)<0)) none (cond (decide ((wrap .i64 (a0m .u64 y5 (wrap .u64 s.1)))<32)) ((a4r (s.2.2.2.1,wrap .i64 (a0m .u64 y5 (wrap .u64 s.1)))).bind fun y6=> cond (decide ((wrap .u64 s.1)<0)) none ((a0t (y6.2,bits .u64 .and y5 (wrap .u64 ((a0D .u64 1 (wrap .u64 s.1))-1)),s.1)).bind fun y7=> some (.inl (s.1,s.2.1,wrap .i64 (s.2.2.1+1),y7.2,())))) ((a4r (s.2.2.2.1,32)).bind fun y8=> (a0t (y8.2,y5,32)).bind fun y9=> some (.inl (s.1,s.2.1,wrap .i64 (s.2.2.1+1),y9.2,()))))) (some (.inr (s.2.2.2.1,())))
def b3h(x:(((List Int)×Unit)×(Int×(List Int)))):Option Z3:= (show Option (Int×((List Int)×(Bool×Z9)))from(a3G x.2.1).bind fun y1=> cond (!y1) (some (x.2.1,x.2.2,true,x.1,())) ((a0H x.2.2).bind fun y2=> some (x.2.1,x.2.2,!y2,x.1,()))).bind fun z3=> cond z3.2.2.1 (some (1,z3.2.2.2.1)) ((a0e a7A (z3.1,z3.2.1,0,z3.2.2.2.1,())).bind fun w10=> some (0,w10.1))
def c1X:FSem:=⟨[.r false (.b Q1),.v QI,.v QL],[.v QI],b3h⟩
def e1b:Hints:=⟨[(58,[.sv 1 QI,.sv 2 QL,.sv 7 QI,.box pinned Q1,.ptr 0 pinned []],[(.exit 0,[.box pinned Q1])])],[(6,[(.normal,[.sv 1 QI,.sv 2 QL,.sv 17 .bool,.box pinned Q1,.ptr 0 pinned []])])],[]⟩
def a4M(s:((List Int)×(Int×(Int×((List Int)×(((List Int)×Unit)×Z19)))))):Option (((List Int)×(Int×(Int×((List Int)×(((List Int)×Unit)×Z19))))) ⊕ Z9):= cond (decide (s.2.2.1<(s.2.2.2.1.length:Int))) (cond ((decide (0≤s.2.2.1))&&(decide (s.2.2.1<(s.2.2.2.1.length:Int)))) (cond ((decide (0≤(wrap .i64 (s.2.1+(a02 s.2.2.2.1 (a01 s.2.2.1) 0)))))&&(decide ((wrap .i64 (s.2.1+(a02 s.2.2.2.1 (a01 s.2.2.1) 0)))≤(s.1.length:Int)))) (cond ((decide (0≤s.2.1))&&(decide (s.2.1≤((a01 (wrap .i64 (s.2.1+(a02 s.2.2.2.1 (a01 s.2.2.1) 0))):Nat):Int)))) ((a0r s.2.2.2.2.2.1.2.1 s.2.2.1).bind fun x4=> (a0t (s.2.2.2.2.1,wrap .u64 x4,5)).bind fun y5=> (show Option ((List Int)×(Int×(Int×((List Int)×(((List Int)×Unit)×Z19)))))from(a0r s.2.2.2.2.2.1.2.1 s.2.2.1).bind fun x6=> cond (x6==31) ((a8D (a22 (a01 s.2.1) (a07 (a01 (wrap .i64 (s.2.1+(a02 s.2.2.2.1 (a01 s.2.2.1) 0)))) s.1))).bind fun y7=> (a0t (y5.2,wrap .u64 y7,5)).bind fun y8=> (a3H (y8.2,a22 (a01 s.2.1) (a07 (a01 (wrap .i64 (s.2.1+(a02 s.2.2.2.1 (a01 s.2.2.1) 0)))) s.1),y7)).bind fun y9=> some (s.1,s.2.1,s.2.2.1,s.2.2.2.1,y9,s.2.2.2.2.2.1,())) ((a0r s.2.2.2.2.2.1.2.1 s.2.2.1).bind fun x10=> (b3h (y5.2,x10,a22 (a01 s.2.1) (a07 (a01 (wrap .i64 (s.2.1+(a02 s.2.2.2.1 (a01 s.2.2.1) 0)))) s.1))).bind fun y11=> some (s.1,s.2.1,s.2.2.1,s.2.2.2.1,y11.2,s.2.2.2.2.2.1,()))).bind fun z12=> cond ((decide (0≤z12.2.2.1))&&(decide (z12.2.2.1<(z12.2.2.2.1.length:Int)))) (some (.inl (z12.1,wrap .i64 (z12.2.1+(a02 z12.2.2.2.1 (a01 z12.2.2.1) 0)),wrap .i64 (z12.2.2.1+1),z12.2.2.2.1,z12.2.2.2.2.1,z12.2.2.2.2.2.1,()))) none) none) none) none) (some (.inr (s.2.2.2.2.1,())))
def b1J(x:(((List Int)×Unit)×Z58)):Option Z3:= (a2V (x.2.1,x.2.2.1,x.2.2.2.1,x.2.2.2.2)).bind fun y1=> cond (y1==0) (some (1,x.1)) ((a0t (x.1,wrap .u64 x.2.1.1,4)).bind fun y2=> (a4h (x.2.1.1,x.2.2.1,x.2.2.2.1)).bind fun y3=> (a0e a4M (x.2.2.2.2,0,0,y3,y2.2,x.2.1,())).bind fun w13=> some (0,w13.1))
def c0K:FSem:=⟨[.r false (.b Q1),.v Q7,.v QI,.v QI,.v QL],[.v QI],b1J⟩
def e1c:Hints:=⟨[(250,[.sv 4 QL,.sv 12 QI,.sv 13 QI,.own 11 11 QI,.box pinned Q1,.ptr 0 pinned [],.vp 6 Q7],[(.exit 0,[.box pinned Q1])])],[(16019,[(.normal,[.sv 4 QL,.sv 12 QI,.sv 13 QI,.own 11 11 QI,.box pinned Q1,.ptr 0 pinned [],.vp 6 Q7])])],[]⟩
def a9E(s:(Int×d2p)):Option ((Int×d2p) ⊕ d2p):= cond (decide (s.2.2.1<(s.2.2.2.2.1.2.2.2.2.2.2.2.1.length:Int))) ((a0r s.2.2.2.2.1.2.2.2.2.2.2.2.1 s.2.2.1).bind fun x12=> (a0t (s.2.2.2.1,wrap .u64 (wrap .i64 (x12.1-1)),5)).bind fun y13=> (a0r s.2.2.2.2.1.2.2.2.2.2.2.2.1 s.2.2.1).bind fun x14=> (a0t (y13.2,wrap .u64 x14.2.1,4)).bind fun y15=> some (.inl (s.1,s.2.1,wrap .i64 (s.2.2.1+1),y15.2,s.2.2.2.2.1,()))) (some (.inr (s.1,s.2.1,s.2.2.2.1,s.2.2.2.2.1,())))
def b3i(x:(((List Int)×Unit)×a9T)):Option Z3:= (b3g (x.2.1,x.2.2)).bind fun y1=> cond (!y1) (some (1,x.1)) ((a8D x.2.1.2.2.2.2.2.2.2.2.1).bind fun y2=> (a0t (x.1,wrap .u64 x.2.1.1,3)).bind fun y3=> (a0t (y3.2,wrap .u64 x.2.1.2.1,5)).bind fun y4=> (a0t (y4.2,wrap .u64 y2,5)).bind fun y5=> (show Option d2p from cond (x.2.1.1==2) ((a0t (y5.2,wrap .u64 x.2.1.2.2.1,3)).bind fun y6=> some (x.2.2,y2,y6.2,x.2.1,())) (cond (x.2.1.1==3) ((a7z (y5.2,x.2.1)).bind fun y7=> some (x.2.2,y2,y7,x.2.1,())) (cond (x.2.1.1==4) ((a0t (y5.2,wrap .u64 (wrap .i64 (x.2.1.2.2.2.2.1-1)),10)).bind fun y8=> (a3H (y8.2,a07 3 x.2.1.2.2.2.2.2.2.1,8)).bind fun y9=> (a7z (y9,x.2.1)).bind fun y10=> some (x.2.2,y2,y10,x.2.1,())) (cond (x.2.1.1==5) ((a0t (y5.2,wrap .u64 (x.2.1.2.2.2.2.2.2.2.1.length:Int),2)).bind fun y11=> (a0e a9E (x.2.2,y2,0,y11.2,x.2.1,())).bind fun w16=> some (w16.1,w16.2.1,w16.2.2.1,w16.2.2.2.1,())) (some (x.2.2,y2,y5.2,x.2.1,())))))).bind fun z17=> (a3H (z17.2.2.1,z17.2.2.2.1.2.2.2.2.2.2.2.2.1,z17.2.1)).bind fun y18=> (a5u z17.2.2.2.1.1).bind fun y19=> cond y19 ((b1J (y18,z17.2.2.2.1.2.2.2.2.2.2.2.2.2.1,z17.1,(z17.2.2.2.1.2.2.2.2.2.2.2.2.1.length:Int),z17.2.2.2.1.2.2.2.2.2.2.2.2.2.2.1)).bind fun y20=> some (0,y20.2)) (some (0,y18)))
def c1Y:FSem:=⟨[.r false (.b Q1),.v Q19,.v QI],[.v QI],b3i⟩
def H48:Hints:=⟨[(2086902,[.sv 2 QI,.sv 7 QI,.sv 8 QI,.box pinned Q1,.ptr 0 pinned [],.vp 4 Q19],[(.exit 1,[.sv 2 QI,.sv 7 QI,.box pinned Q1,.ptr 0 pinned [],.vp 4 Q19])])],[(127,[(.normal,[.sv 2 QI,.sv 7 QI,.box pinned Q1,.ptr 0 pinned [],.vp 4 Q19])])],[]⟩
def b3j(x:((List Int)×Unit)):Option Z3:= some ((x.1.length:Int),x)
def b7H:FSem:=⟨[.r false (.b Q1)],[.v QI],b3j⟩
def H49:Hints:=⟨[],[],[]⟩
def b1K(x:a9T):Option Int:= (b3i (([],()),x.1,x.2)).bind fun y1=> (b3j y1.2).bind fun y2=> some y2.1
def c0L:FSem:=⟨[.v Q19,.v QI],[.v QI],b1K⟩
def H21:Hints:=⟨[],[],[]⟩
def a6x(s:((List Int)×(Int×Int×b2b×b3Q))):Option (((List Int)×(Int×Int×b2b×b3Q)) ⊕ b3Q):= cond (decide (s.2.2.1<(s.2.2.2.1.length:Int))) (cond ((decide (0≤s.2.2.1))&&(decide (s.2.2.1<(s.2.2.2.1.length:Int)))) (cond ((decide (0≤s.2.2.1))&&(decide (s.2.2.1<(s.2.2.2.1.length:Int)))) ((b1I ((a02 s.2.2.2.1 (a01 s.2.2.1) (0,0,0,0,0,[],a00 3 0,[],[],(0,[],()),[],())).1,s.1,a02 s.2.2.2.1 (a01 s.2.2.1) (0,0,0,0,0,[],a00 3 0,[],[],(0,[],()),[],()))).bind fun y6=> cond (y6.2 != 0) (some (.inl (s.1,s.2.1,wrap .i64 (s.2.2.1+1),s.2.2.2.1,s.2.2.2.2.1,s.2.2.2.2.2.1,()))) ((b1K (y6.1,(s.1.length:Int))).bind fun y7=> (show Option ((List Int)×(Int×Int×Int×Bool×b2b×d2r))from cond (s.2.1==0) (some (s.1,s.2.1,s.2.2.1,y7,true,s.2.2.2.1,s.2.2.2.2.1,s.2.2.2.2.2.1,y6.1,())) (some (s.1,s.2.1,s.2.2.1,y7,decide (y7<s.2.1),s.2.2.2.1,s.2.2.2.2.1,s.2.2.2.2.2.1,y6.1,()))).bind fun z8=> cond z8.2.2.2.2.1 (some (.inl (z8.1,z8.2.2.2.1,wrap .i64 (z8.2.2.1+1),z8.2.2.2.2.2.1,z8.2.2.2.2.2.2.1,z8.2.2.2.2.2.2.2.2.1,()))) (some (.inl (z8.1,z8.2.1,wrap .i64 (z8.2.2.1+1),z8.2.2.2.2.2.1,z8.2.2.2.2.2.2.1,z8.2.2.2.2.2.2.2.1,()))))) none) none) (some (.inr (s.2.2.2.2.1,s.2.2.2.2.2.1,())))
def b1L(x:((List Int)×Int)):Option a9T:= (show Option ((List Int)×c1D)from cond (decide ((x.1.length:Int)<1)) (some (x.1,x.2,true,(0,0,0,0,0,[],a00 3 0,[],[],(0,[],()),[],()),())) (cond (decide ((x.1.length:Int) > 4096)) (some (x.1,x.2,true,(0,0,0,0,0,[],a00 3 0,[],[],(0,[],()),[],()),())) (cond (decide (x.2<0)) (some (x.1,x.2,true,(0,0,0,0,0,[],a00 3 0,[],[],(0,[],()),[],()),())) (some (x.1,x.2,decide (x.2 > 3),(0,0,0,0,0,[],a00 3 0,[],[],(0,[],()),[],()),()))))).bind fun z1=> cond z1.2.2.1 (some ((0,0,0,0,0,[],a00 3 0,[],[],(0,[],()),[],()),1)) ((a0H z1.1).bind fun y2=> cond (!y2) (some ((0,0,0,0,0,[],a00 3 0,[],[],(0,[],()),[],()),6)) ((a7I z1.1).bind fun y3=> (b4R (z1.1,y3)).bind fun y4=> (b4v (y4.1,z1.2.1)).bind fun y5=> (a0e a6x (z1.1,0,0,y5,z1.2.2.2.1,(0,0,0,0,0,[],a00 3 0,[],[],(0,[],()),[],()),())).bind fun w9=> some (w9.2.1,0)))
def c0M:FSem:=⟨[.v QL,.v QI],[.v Q19,.v QI],b1L⟩
def H6:Hints:=⟨[(2042,[.sv 0 QL,.sv 10 QI,.sv 11 QI,.own 8 8 Q19,.box 4 Q19,.box 9 Q19,.ptr 4 4 [],.ptr 9 9 []],[(.exit 0,[.box 4 Q19,.box 9 Q19,.ptr 4 4 [],.ptr 9 9 []])])],[(6,[(.normal,[.sv 0 QL,.sv 1 QI,.sv 30 .bool,.box 4 Q19,.ptr 4 4 []])]),(261415,[(.normal,[.sv 0 QL,.sv 10 QI,.sv 11 QI,.sv 14 QI,.sv 78 .bool,.own 8 8 Q19,.box 4 Q19,.box 9 Q19,.box 12 Q19,.ptr 4 4 [],.ptr 9 9 [],.ptr 12 12 []])])],[(12,[.q,.v,.q,.q,.q,.v,.q,.v,.q,.q,.v,.v,.v,.v,.q,.w [0,12],.x])]⟩
def a5H(s:((List Int)×Z51)):Option (((List Int)×Z51) ⊕ Z3):= cond (decide (s.2.2.2.2.1<290)) (cond (s.2.2.2.1==0) none ((a0r s.1 (a26 s.2.2.2.2.1 s.2.2.2.1)).bind fun x3=> cond (s.2.2.2.1==0) none (cond (lim ((a03 s.2.2.2.2.2.1)+1)) (some (.inl (s.1,s.2.1,s.2.2.1,s.2.2.2.1,wrap .i64 (s.2.2.2.2.1+1),a04 s.2.2.2.2.2.1 [wrap .i64 ((wrap .i64 x3)+(wrap .i64 ((wrap .i64 (a23 s.2.2.2.2.1 s.2.2.2.1))*(wrap .i64 (a26 s.2.1 5)))))],()))) none))) (some (.inr (s.2.2.1,s.2.2.2.2.2.1,())))
def b3W(x:Z2):Option Bool:= (b8v ()).bind fun y1=> cond (!y1) (some false) ((show Option ((List Int)×Z24)from cond (decide ((x.1.length:Int)<1)) (some (x.1,x.2.1,x.2.2,(x.1.length:Int),true,())) (some (x.1,x.2.1,x.2.2,(x.1.length:Int),decide ((x.1.length:Int) > 40),()))).bind fun z2=> cond z2.2.2.2.2.1 (some true) ((a0e a5H (z2.1,z2.2.1,z2.2.2.1,z2.2.2.2.1,0,[],())).bind fun w4=> (b0A (w4.2.1,bits .i64 .and w4.1 3)).bind fun y5=> (b1L (w4.2.1,bits .i64 .and w4.1 3)).bind fun y6=> (b2o (y5.1,(w4.2.1.length:Int))).bind fun y7=> (a9b (y5.1,y6.1)).bind fun y8=> cond y8 (cond (y5.2==y6.2) (cond (y7.2==0) ((a2i (y7.1,w4.2.1)).bind fun y9=> some y9) (some false)) (some false)) (some false)))
def b9h:FSem:=⟨[.v (.list false (.int .i16)),.v (.int .u8),.v QI],[.v .bool],b3W⟩
def H3:Hints:=⟨[(506,[.sv 0 (.list false (.int .i16)),.sv 1 (.int .u8),.sv 2 QI,.sv 7 QI,.sv 9 QI,.own 8 8 QI],[(.exit 0,[.sv 2 QI,.own 8 8 QI])])],[(30,[(.normal,[.sv 0 (.list false (.int .i16)),.sv 1 (.int .u8),.sv 2 QI,.sv 7 QI,.sv 25 .bool])])],[(10,[.q,.v,.v,.v,.v,.v,.v,.v,.v,.v,.v,.v,.v,.v,.v,.v,.q,.x,.x])]⟩
end Go.Ab
namespace Go.Ab
open Go.Proofs
set_option maxRecDepth 100000
theorem c2K:Tryz.prog.follows .mixedOrders=true:=by kernel_rfl
theorem e1d:d5U Tryz.prog c8r=true:=by kernel_rfl
theorem e1e:d5V Tryz.prog c9j=true:=by kernel_rfl
theorem e1f:d5W Tryz.prog c8r d2s=true:=by kernel_rfl
theorem laidOut:laidOutB Tryz.prog=true:=by kernel_rfl
@[reducible] def Ok0(n:Nat)(s:FSem):Prop:=a4X Tryz.prog G0 n s∧b2B Tryz.prog n
theorem cxo{a:List (Nat×FSem)}{b:List (Nat×Ty)}{c d:List Nat}(h:∀p∈a,Ok0 p.1 p.2):CxOk Tryz.prog (c4b a b c d):=
 CxOk.of (CxTy.of (tab:=c8r) (l:=d2s) (q:=c9j) (fun _=>rfl) (fun _=>rfl) (fun _=>rfl) e1d e1e e1f) (fun _=>rfl) h
theorem fo (a : List (Nat × FSem)) (b : List (Nat × Ty)) (c d : List Nat) (H : Hints) {n : Nat} {fn : Func} {e : Code} {s : FSem} (h : ∀ p ∈ a, Ok0 p.1 p.2) (hf : Tryz.prog.funcs[n]? = some fn) (hb : fn.body = some e := by rfl) (hk : d4Z fn e H s = true := by kernel_rfl) (hn : (fn.name == "runtime.NumGoroutine") = false := by kernel_rfl) (hq : ∀ x, c1c (c4b a b c d) H fn s.ps s.rs x = s.F x := by intro x; kernel_rfl) : Ok0 n s :=
 ⟨a4X.of (cxo h) c2K hf hb hk hq,⟨_,_,hf,hb,hn⟩⟩
theorem d5d:Ok0 12 b1A:=
 fo [] [] [0,2,4] [] H12 a0 Tryz.func12
theorem d7D:Ok0 32 b5d:=
 fo [] [] [0,2] [] H32 a0 Tryz.func32
theorem d7E:Ok0 13 b5e:=
 fo [(32,b5d)] [] [0,1,4,5,6,8] [] H13 (a1 d7D a0) Tryz.func13
theorem e1g:Ok0 33 a1t:=
 ⟨a4X.of (cx:=b6w) (cxo a0) c2K Tryz.func33 rfl (by kernel_rfl) d9w,⟨_,_,Tryz.func33,rfl,by kernel_rfl⟩⟩
theorem d7F:Ok0 14 b2H:=
 fo [(33,a1t)] [] [0,2,3,5] [] H14 (a1 e1g a0) Tryz.func14
theorem d5e:Ok0 59 b2I:=
 fo [] [] [0,1,4,6] [] H59 a0 Tryz.func59
theorem d5f:Ok0 60 b5J:=
 fo [] [] [0,1,4,6] [3] H60 a0 Tryz.func60
theorem d6a:Ok0 119 b5f:=
 fo [] [] [0,2] [1] d9x a0 Tryz.func119
theorem d5g:Ok0 61 b4l:=
 fo [(119,b5f)] [] [0,2] [] H61 (a1 d6a a0) Tryz.func61
theorem d7G:Ok0 26 c1F:=
 fo [(59,b2I),(60,b5J),(61,b4l)] [] [0,1,2,6,8,11,27,41,62] [4] H26 (a1 d5e (a1 d5f (a1 d5g a0))) Tryz.func26
theorem d2u:Ok0 62 a1m:=
 ⟨a4X.of (cx:=d7B) (cxo a0) c2K Tryz.func62 rfl (by kernel_rfl) d9y,⟨_,_,Tryz.func62,rfl,by kernel_rfl⟩⟩
theorem d8l:Ok0 62 a2y:=
 ⟨a4X.of (cx:=d5Y) (cxo a0) c2K Tryz.func62 rfl (by kernel_rfl) d8j,⟨_,_,Tryz.func62,rfl,by kernel_rfl⟩⟩
theorem d8m:Ok0 63 a1k:=
 ⟨a4X.of (cx:=d5Z) (cxo a0) c2K Tryz.func63 rfl (by kernel_rfl) d8k,⟨_,_,Tryz.func63,rfl,by kernel_rfl⟩⟩
theorem d7H:Ok0 27 b6x:=
 fo [(62,a2y),(63,a1k)] [] [0,1,9,11,13,15] [3] H27 (a1 d8l (a1 d8m a0)) Tryz.func27
theorem d7I:Ok0 51 b6y:=
 fo [] [] [0,1,4,7,9,12,16] [2] H51 a0 Tryz.func51
theorem d6b:Ok0 105 b6z:=
 fo [] [] [0,2,4] [] d9B a0 Tryz.func105
theorem d7J:Ok0 64 b6A:=
 fo [(105,b6z)] [] [0,1,4,5,6,7] [] H64 (a1 d6b a0) Tryz.func64
theorem d2v:Ok0 109 b1B:=
 fo [] [] [0,2] [] d9C a0 Tryz.func109
theorem d2w:Ok0 107 a8x:=
 fo [(109,b1B)] [] [0,2,4] [] d9D (a1 d2v a0) Tryz.func107
theorem d6c:Ok0 108 b2c:=
 fo [] [] [0,1,2,6,7,8,9,10] [] d9E a0 Tryz.func108
theorem e1h:Ok0 65 c0C:=
 fo [(59,b2I),(107,a8x),(108,b2c),(109,b1B)] [] [0,1,2,6,7,8,9,10] [] H65 (a1 d5e (a1 d2w (a1 d6c (a1 d2v a0)))) Tryz.func65
theorem d2x:Ok0 112 b4m:=
 fo [] [] [0,2] [] d9F a0 Tryz.func112
theorem d2y:Ok0 110 b0s:=
 fo [(112,b4m)] [] [0,2,4] [] d9G (a1 d2x a0) Tryz.func110
theorem d6d:Ok0 111 b3R:=
 fo [] [] [0,1,2,3,8,9,10,11,12] [7] d9H a0 Tryz.func111
theorem d5h:Ok0 66 b4n:=
 fo [(60,b5J),(110,b0s),(111,b3R),(112,b4m)] [] [0,1,2,6,7,8,9,10,11] [5] H66 (a1 d5f (a1 d2y (a1 d6d (a1 d2x a0)))) Tryz.func66
theorem d2z:Ok0 117 b2J:=
 fo [] [] [0,2] [] d9I a0 Tryz.func117
theorem d6e:Ok0 113 b2K:=
 fo [(117,b2J)] [] [0,2,4] [] d9J (a1 d2z a0) Tryz.func113
theorem d6f:Ok0 115 b8q:=
 fo [(119,b5f)] [(15,.pair QI Q8),(16,.pair QI Q8)] [0,2,3] [1] d9K (a1 d6a a0) Tryz.func115
theorem d6g:Ok0 150 b2L:=
 fo [] [] [0,2] [] d9L a0 Tryz.func150
theorem d2A:Ok0 116 a5N:=
 fo [(150,b2L)] [] [0,2,3,4,5] [] d9M (a1 d6g a0) Tryz.func116
theorem d6h:Ok0 118 a9t:=
 fo [(116,a5N),(150,b2L)] [] [0,1,4,5,6,7,8,13,22] [] d9N (a1 d2A (a1 d6g a0)) Tryz.func118
theorem e1i:Ok0 67 c1G:=
 fo [(61,b4l),(62,a1m),(113,b2K),(115,b8q),(116,a5N),(117,b2J),(118,a9t)] [] [0,1,4,5,6,9,10,11,12,13] [] H67 (a1 d5g (a1 d2u (a1 d6e (a1 d6f (a1 d2A (a1 d2z (a1 d6h a0))))))) Tryz.func67
theorem e1j:Ok0 28 c3i:=
 fo [(51,b6y),(62,a1m),(64,b6A),(65,c0C),(66,b4n),(67,c1G)] [] [0,1,4,5,6,11,22,37,67] [] H28 (a1 d7I (a1 d2u (a1 d7J (a1 e1h (a1 d5h (a1 e1i a0)))))) Tryz.func28
theorem d6i:Ok0 120 b8r:=
 fo [] [] [0,1,4] [] d9O a0 Tryz.func120
theorem d7K:Ok0 68 b5g:=
 fo [(120,b8r)] [] [0,1,2,6,8] [] H68 (a1 d6i a0) Tryz.func68
theorem d2B:Ok0 69 a8V:=
 fo [(120,b8r)] [] [0,1,2,6,7,8] [] H69 (a1 d6i a0) Tryz.func69
theorem d6j:Ok0 154 b2d:=
 fo [] [] [0,2] [] d9P a0 Tryz.func154
theorem d2C:Ok0 155 b4p:=
 fo [] [] [0,2] [] d9Q a0 Tryz.func155
theorem d6k:Ok0 156 b8s:=
 fo [(155,b4p)] [] [0,2,3,7] [] d9R (a1 d2C a0) Tryz.func156
theorem d8n:Ok0 151 c3j:=
 fo [(154,b2d),(155,b4p),(156,b8s)] [] [0,1,4,5] [] d9S (a1 d6j (a1 d2C (a1 d6k a0))) Tryz.func151
theorem d2D:Ok0 123 b5K:=
 fo [(151,c3j)] [] [0,1,4,5,7] [] d9T (a1 d8n a0) Tryz.func123
theorem d8o:Ok0 121 c3k:=
 fo [(123,b5K)] [] [0,2,3,4,5,6] [] d9U (a1 d2D a0) Tryz.func121
theorem d8p:Ok0 152 c1H:=
 fo [] [] [0,2] [] d9V a0 Tryz.func152
theorem d8q:Ok0 153 c0D:=
 fo [] [] [0,2] [] d9W a0 Tryz.func153
theorem d6l:Ok0 124 b5i:=
 fo [(152,c1H),(153,c0D)] [] [0,1,4] [] d9X (a1 d8p (a1 d8q a0)) Tryz.func124
theorem d2E:Ok0 73 a8f:=
 fo [(124,b5i)] [] [0,2,3,5] [] H73 (a1 d6l a0) Tryz.func73
theorem d6m:Ok0 122 b8t:=
 fo [(73,a8f)] [] [0,2] [] d9Y (a1 d2E a0) Tryz.func122
theorem e1k:Ok0 70 b8Y:=
 fo [(121,c3k),(122,b8t),(123,b5K)] [] [0,2,3] [] H70 (a1 d8o (a1 d6m (a1 d2D a0))) Tryz.func70
theorem d7L:Ok0 53 b8u:=
 fo [(69,a8V)] [] [0,1,2,6,7,9] [3] H53 (a1 d2B a0) Tryz.func53
theorem d7M:Ok0 71 b6D:=
 fo [(53,b8u),(68,b5g),(69,a8V),(122,b8t),(123,b5K)] [] [0,1,2,3,8,9,10,11,12] [4] H71 (a1 d7L (a1 d7K (a1 d2B (a1 d6m (a1 d2D a0))))) Tryz.func71
theorem e1l:Ok0 29 c1I:=
 fo [(68,b5g),(69,a8V),(70,b8Y),(71,b6D)] [(14,.pair QI Q2),(40,.pair QI Q2)] [0,1,2,3,9,11,12,13,15,17,18] [] H29 (a1 d7K (a1 d2B (a1 e1k (a1 d7M a0)))) Tryz.func29
theorem d7N:Ok0 10 b9Q:=
 fo [(12,b1A),(13,b5e),(14,b2H),(26,c1F),(27,b6x),(28,c3i),(29,c1I)] [] [0,1,2,7,8,11,12,13] [5] H10 (a1 d5d (a1 d7E (a1 d7F (a1 d7G (a1 d7H (a1 e1j (a1 e1l a0))))))) Tryz.func10
theorem d7O:Ok0 52 b6E:=
 fo [] [] [0,2] [] H52 a0 Tryz.func52
theorem e1m:Ok0 50 c3l:=
 fo [(27,b6x)] [] [0,2] [1] H50 (a1 d7H a0) Tryz.func50
theorem e1n:Ok0 22 c1J:=
 fo [(12,b1A),(26,c1F),(50,c3l),(51,b6y),(52,b6E),(53,b8u)] [] [0,1,4,5] [2] H22 (a1 d5d (a1 d7G (a1 e1m (a1 d7I (a1 d7O (a1 d7L a0)))))) Tryz.func22
theorem d8r:Ok0 148 b7w:=
 fo [] [] [0,1,3] [] d9Z a0 Tryz.func148
theorem d8s:Ok0 106 c0E:=
 fo [(148,b7w)] [] [0,1,4,5,8,12,20,32] [] e0a (a1 d8r a0) Tryz.func106
theorem e1o:Ok0 54 c1K:=
 fo [(105,b6z),(106,c0E)] [] [0,1,2,6,7,8,10,11] [] H54 (a1 d6b (a1 d8s a0)) Tryz.func54
theorem e1p:Ok0 55 c0F:=
 fo [(59,b2I),(107,a8x),(108,b2c),(109,b1B)] [] [0,1,2,3,8,9,10,12,13] [] H55 (a1 d5e (a1 d2w (a1 d6c (a1 d2v a0)))) Tryz.func55
theorem e1q:Ok0 56 c3m:=
 fo [(60,b5J),(110,b0s),(111,b3R),(112,b4m)] [] [0,1,2,6,7,8,9,10,11] [5] H56 (a1 d5f (a1 d2y (a1 d6d (a1 d2x a0)))) Tryz.func56
theorem e1r:Ok0 57 a9W:=
 ⟨a4X.ofR (cx:=d7C) (cxo (a1 d5g (a1 d2u (a1 d6e (a1 d6f (a1 d2A (a1 d2z (a1 d6h a0)))))))) c2K (r:=R57) ⟨d6S,d6T⟩ Tryz.func57 rfl (by kernel_rfl) e0b,⟨_,_,Tryz.func57,rfl,by kernel_rfl⟩⟩
theorem e1s:Ok0 58 c3n:=
 fo [(32,b5d)] [] [0,1,4,5,6,8] [] H58 (a1 d7D a0) Tryz.func58
theorem e1t:Ok0 23 c5g:=
 fo [(54,c1K),(55,c0F),(56,c3m),(57,a9W),(58,c3n)] [] [0,1,4,5,6,7,10,24,28,40,54,79] [2] H23 (a1 e1o (a1 e1p (a1 e1q (a1 e1r (a1 e1s a0))))) Tryz.func23
theorem fs7:Ok0 7 b7x:=
 fo [(22,c1J),(23,c5g)] [] [0,1,4,5,6,7] [2] H7 (a1 e1n (a1 e1t a0)) Tryz.func7
theorem e1u:Ok0 72 c7k:=
 fo [(7,b7x)] [] [0,1,4,5,6] [2] H72 (a1 fs7 a0) Tryz.func72
theorem d6n:Ok0 125 b0U:=
 fo [] [] [0,1] [] e0c a0 Tryz.func125
theorem c9o:Ok0 74 a4p:=
 fo [(125,b0U)] [] [0,1,2,6,7] [] H74 (a1 d6n a0) Tryz.func74
theorem d7P:Ok0 75 b2S:=
 fo [(74,a4p)] [] [0,1,2] [] H75 (a1 c9o a0) Tryz.func75
theorem e1v:Ok0 76 b8Z:=
 fo [(73,a8f),(74,a4p),(75,b2S)] [] [0,1,4,6] [3] H76 (a1 d2E (a1 c9o (a1 d7P a0))) Tryz.func76
theorem d8t:Ok0 157 b3C:=
 fo [(125,b0U)] [] [0,1,4] [] e0d (a1 d6n a0) Tryz.func157
theorem d8u:Ok0 126 c5h:=
 fo [(74,a4p),(154,b2d),(155,b4p),(156,b8s),(157,b3C)] [] [0,1,2,6,8,10,11,12] [] e0e (a1 c9o (a1 d6j (a1 d2C (a1 d6k (a1 d8t a0))))) Tryz.func126
theorem e1w:Ok0 77 c3o:=
 fo [(69,a8V),(71,b6D),(73,a8f),(74,a4p),(126,c5h)] [] [0,1,2,3,4,10,11,12,13,14,16] [6] H77 (a1 d2B (a1 d7M (a1 d2E (a1 c9o (a1 d8u a0))))) Tryz.func77
theorem e1x:Ok0 30 c7l:=
 fo [(52,b6E),(72,c7k),(73,a8f),(74,a4p),(75,b2S),(76,b8Z),(77,c3o)] [] [0,1,2,6,7,9,13,37,39,41,43] [4] H30 (a1 d7O (a1 e1u (a1 d2E (a1 c9o (a1 d7P (a1 e1v (a1 e1w a0))))))) Tryz.func30
theorem e1y:Ok0 31 b5u:=
 fo [] [] [0,2] [] H31 a0 Tryz.func31
theorem d7Q:Ok0 11 b9R:=
 fo [(30,c7l),(31,b5u)] [(5,.pair (.list true (.int .u8)) Q0)] [0,1,4] [2] H11 (a1 e1x (a1 e1y a0)) Tryz.func11
theorem e1z:Ok0 78 c0G:=
 fo [] [] [0,1,4,5,6,7] [] H78 a0 Tryz.func78
theorem e1A:Ok0 34 c1L:=
 fo [(64,b6A),(78,c0G)] [] [0,2,3,4,5,6,7,8] [] H34 (a1 d7J (a1 e1z a0)) Tryz.func34
theorem d6o:Ok0 129 b3S:=
 fo [] [] [0,2] [] e0f a0 Tryz.func129
theorem d8v:Ok0 127 b7A:=
 fo [(129,b3S)] [] [0,2,3,5,6,7,8] [] e0g (a1 d6o a0) Tryz.func127
theorem d8w:Ok0 128 b3D:=
 fo [] [] [0,1,2,6,7,8,9,10] [] e0h a0 Tryz.func128
theorem e1B:Ok0 79 b6F:=
 fo [(62,a1m),(107,a8x),(127,b7A),(128,b3D),(129,b3S)] [] [0,1,4,5,6,7,8,9,10,11,12,13] [] H79 (a1 d2u (a1 d2w (a1 d8v (a1 d8w (a1 d6o a0))))) Tryz.func79
theorem e1C:Ok0 80 b9a:=
 fo [] [] [0,2,3,5,6,7,8,9,10,11] [] H80 a0 Tryz.func80
theorem e1D:Ok0 81 b9b:=
 fo [(124,b5i)] [] [0,1,4,5,6,8,9,10,11,13,14] [] H81 (a1 d6l a0) Tryz.func81
theorem d7R:Ok0 36 b5j:=
 fo [(79,b6F),(80,b9a),(81,b9b)] [] [0,1,2,6,7,8,9,10,11] [] H36 (a1 e1B (a1 e1C (a1 e1D a0))) Tryz.func36
theorem e1E:Ok0 82 c3p:=
 fo [(110,b0s)] [] [0,1,2,6,7,8,9,10,11,12,13] [] H82 (a1 d2y a0) Tryz.func82
theorem d8x:Ok0 130 c1M:=
 fo [] [] [0] [] e0i a0 Tryz.func130
theorem e1F:Ok0 83 c3q:=
 fo [(66,b4n),(130,c1M)] [] [0,1,5,7,8,11,12,13,15] [] H83 (a1 d5h (a1 d8x a0)) Tryz.func83
theorem e1G:Ok0 37 c1N:=
 fo [(36,b5j),(66,b4n),(82,c3p),(83,c3q)] [] [0,3,4,5,7,8,9] [] H37 (a1 d7R (a1 d5h (a1 e1E (a1 e1F a0)))) Tryz.func37
theorem e1H:Ok0 35 b4Q:=
 fo [(36,b5j)] [] [0,1,2,3,6,7,8] [] H35 (a1 d7R a0) Tryz.func35
theorem e1I:Ok0 15 b6H:=
 fo [(34,c1L),(35,b4Q),(37,c1N)] [(5,.list true Q19)] [0,1,4,6,8,9] [67] H15 (a1 e1A (a1 e1H (a1 e1G a0))) Tryz.func15
theorem fs5:Ok0 5 b9S:=
 fo [(10,b9Q),(11,b9R),(12,b1A),(13,b5e),(14,b2H),(15,b6H)] [] [0,1,5,6,7,9,10,14,15] [] H5 (a1 d7N (a1 d7Q (a1 d5d (a1 d7E (a1 d7F (a1 e1I a0)))))) Tryz.func5
theorem fs9:Ok0 9 a9a:=
 fo [] [] [0,1,4,5] [] H9 a0 Tryz.func9
theorem fs4:Ok0 4 c3s:=
 fo [(5,b9S),(7,b7x),(9,a9a),(10,b9Q),(11,b9R)] [] [0,2,3,4,6] [] H4 (a1 fs5 (a1 fs7 (a1 fs9 (a1 d7N (a1 d7Q a0))))) Tryz.func4
theorem b9W:Ok0 38 a5X:=
 fo [] [] [0,2] [] H38 a0 Tryz.func38
theorem a9Y:Ok0 16 a1l:=
 fo [(38,a5X)] [] [0,2,3] [] H16 (a1 b9W a0) Tryz.func16
theorem d5i:Ok0 18 b4u:=
 fo [] [] [0,2,3,4,5] [] H18 a0 Tryz.func18
theorem e1J:Ok0 39 c7n:=
 fo [] [] [0,2,3] [] H39 a0 Tryz.func39
theorem d7S:Ok0 17 c1O:=
 fo [(16,a1l),(18,b4u),(39,c7n)] [] [0,1,4,5,6,7] [] H17 (a1 a9Y (a1 d5i (a1 e1J a0))) Tryz.func17
theorem d5j:Ok0 84 a9A:=
 fo [(16,a1l)] [] [0,1,4,5,6,7,8,9] [] H84 (a1 a9Y a0) Tryz.func84
theorem d6p:Ok0 133 c1P:=
 fo [] [] [0,2] [] e0j a0 Tryz.func133
theorem d6q:Ok0 131 b8w:=
 fo [(133,c1P)] [] [0,1,4,5,6] [] e0k (a1 d6p a0) Tryz.func131
theorem e1K:Ok0 85 b5v:=
 fo [(84,a9A),(131,b8w)] [] [0,1,4,5,6] [] H85 (a1 d5j (a1 d6q a0)) Tryz.func85
theorem e1L:Ok0 40 b7B:=
 fo [(84,a9A),(85,b5v)] [] [0,2,3,4,5,6,7,8] [] H40 (a1 d5j (a1 e1K a0)) Tryz.func40
theorem d6r:Ok0 174 b9T:=
 fo [] [] [0,2] [] e0l a0 Tryz.func174
theorem d8y:Ok0 172 c1Q:=
 fo [(174,b9T)] [] [0,2,3,4,5,6] [] e0m (a1 d6r a0) Tryz.func172
theorem d8z:Ok0 180 c5i:=
 fo [] [] [0,1,4,5] [] e0n a0 Tryz.func180
theorem d8A:Ok0 173 b6I:=
 fo [(180,c5i)] [] [0,1,2,6,7,8,9] [] e0o (a1 d8z a0) Tryz.func173
theorem d8B:Ok0 158 b3F:=
 fo [(16,a1l),(172,c1Q),(173,b6I),(174,b9T)] [] [0,1,4,5,6,7,8,9,10,11,12,13,14] [] e0p (a1 a9Y (a1 d8y (a1 d8A (a1 d6r a0)))) Tryz.func158
theorem d8C:Ok0 159 b5w:=
 fo [] [] [0,2,3,4,5,6,7,8] [] e0q a0 Tryz.func159
theorem d8D:Ok0 168 c9m:=
 fo [] [] [0,2] [] e0r a0 Tryz.func168
theorem d8E:Ok0 169 c7o:=
 fo [] [] [0,2] [] e0s a0 Tryz.func169
theorem d6s:Ok0 146 c1S:=
 fo [(168,c9m),(169,c7o)] [] [0,1,4] [] e0t (a1 d8D (a1 d8E a0)) Tryz.func146
theorem d8F:Ok0 160 b5x:=
 fo [(146,c1S)] [] [0,1,4,5,6,7,8,9,10,11,12,13] [] e0u (a1 d6s a0) Tryz.func160
theorem d8G:Ok0 132 b6J:=
 fo [(158,b3F),(159,b5w),(160,b5x)] [] [0,1,2,6,7,8,9,10,11,12] [] e0v (a1 d8B (a1 d8C (a1 d8F a0))) Tryz.func132
theorem d7T:Ok0 86 b6K:=
 fo [(132,b6J)] [] [0,1,2,7,8,9,10] [] H86 (a1 d8G a0) Tryz.func86
theorem e1M:Ok0 41 c5j:=
 fo [(86,b6K)] [] [0,1,2,3,8,10] [] H41 (a1 d7T a0) Tryz.func41
theorem e1N:Ok0 87 b9c:=
 fo [(16,a1l),(133,c1P)] [] [0,1,2,6,7,8,9,10,11,12,13,30,35] [] H87 (a1 a9Y (a1 d6p a0)) Tryz.func87
theorem d5k:Ok0 91 b1E:=
 fo [] [] [0,1,4,5] [3] H91 a0 Tryz.func91
theorem d6t:Ok0 135 b2Y:=
 fo [] [] [0,1,2,6,7,8,9] [5] e0w a0 Tryz.func135
theorem d5l:Ok0 89 b0D:=
 fo [(16,a1l),(91,b1E),(135,b2Y)] [] [0,1,2,6,7,8,9] [5] H89 (a1 a9Y (a1 d5k (a1 d6t a0))) Tryz.func89
theorem d8H:Ok0 134 b7C:=
 fo [] [] [0] [] e0x a0 Tryz.func134
theorem e1O:Ok0 88 b9d:=
 fo [(89,b0D),(131,b8w),(134,b7C)] [] [0,1,5,6,7,8,9,10,11,12] [] H88 (a1 d5l (a1 d6q (a1 d8H a0))) Tryz.func88
theorem e1P:Ok0 42 c5k:=
 fo [(86,b6K),(87,b9c),(88,b9d),(89,b0D)] [] [0,3,4,5,7,8,9,11] [] H42 (a1 d7T (a1 e1N (a1 e1O (a1 d5l a0)))) Tryz.func42
theorem e1Q:Ok0 19 c3t:=
 fo [(40,b7B),(41,c5j),(42,c5k)] [] [0,1,4,5,7,8] [] H19 (a1 e1L (a1 e1M (a1 e1P a0))) Tryz.func19
theorem d2F:Ok0 90 a7q:=
 fo [] [] [0,1,4,5] [] H90 a0 Tryz.func90
theorem d6u:Ok0 136 b3T:=
 fo [] [] [0,2] [1] e0y a0 Tryz.func136
theorem d5m:Ok0 92 b0E:=
 fo [(136,b3T)] [] [0,2,3] [] H92 (a1 d6u a0) Tryz.func92
theorem d7U:Ok0 43 b8x:=
 fo [(90,a7q),(91,b1E),(92,b0E)] [] [0,1,4,7,9,12,30,60] [2] H43 (a1 d2F (a1 d5k (a1 d5m a0))) Tryz.func43
theorem e1R:Ok0 44 c3u:=
 fo [] [] [0,2,3] [] H44 a0 Tryz.func44
theorem d6v:Ok0 137 b0W:=
 fo [(38,a5X),(90,a7q)] [] [0,1,2,6,7,8,9] [] e0z (a1 b9W (a1 d2F a0)) Tryz.func137
theorem e1S:Ok0 93 b6L:=
 fo [(16,a1l),(90,a7q),(137,b0W)] [] [0,1,2,6,7,8,9] [] H93 (a1 a9Y (a1 d2F (a1 d6v a0))) Tryz.func93
theorem d6w:Ok0 138 b3a:=
 fo [(136,b3T)] [(15,.pair QI Q8),(16,.pair QI Q8)] [0,2,3] [1] e0A (a1 d6u a0) Tryz.func138
theorem d6x:Ok0 161 b9V:=
 fo [] [] [0,2] [] e0B a0 Tryz.func161
theorem d2G:Ok0 139 a7s:=
 fo [(161,b9V)] [] [0,2,3,4] [] e0C (a1 d6x a0) Tryz.func139
theorem d8I:Ok0 162 c5l:=
 fo [] [] [0,2,3,6] [] e0D a0 Tryz.func162
theorem d6y:Ok0 140 b0X:=
 fo [(139,a7s),(161,b9V),(162,c5l)] [] [0,1,4,5,6,7] [] e0E (a1 d2G (a1 d6x (a1 d8I a0))) Tryz.func140
theorem e1T:Ok0 94 b7D:=
 fo [(16,a1l),(92,b0E),(138,b3a),(139,a7s),(140,b0X)] [] [0,1,4,5,6,7,8,9,10,11] [] H94 (a1 a9Y (a1 d5m (a1 d6w (a1 d2G (a1 d6y a0))))) Tryz.func94
theorem e1U:Ok0 45 c5m:=
 fo [(84,a9A),(89,b0D),(93,b6L),(94,b7D)] [] [0,1,4,5,6,7,8,9,10,11,12,13,14,17,32,67] [2] H45 (a1 d5j (a1 d5l (a1 e1S (a1 e1T a0)))) Tryz.func45
theorem d5n:Ok0 46 b1F:=
 fo [] [] [0,2] [] H46 a0 Tryz.func46
theorem d7V:Ok0 95 c4d:=
 fo [] [] [0,1,4] [] H95 a0 Tryz.func95
theorem d2H:Ok0 96 a7v:=
 fo [(95,c4d)] [] [0,1,2,6,7,8] [] H96 (a1 d7V a0) Tryz.func96
theorem d2I:Ok0 164 b0G:=
 fo [] [] [0,2] [] e0F a0 Tryz.func164
theorem d8J:Ok0 179 c9n:=
 fo [] [] [0,2,3] [] e0G a0 Tryz.func179
theorem d6z:Ok0 170 c1T:=
 fo [(38,a5X),(179,c9n)] [] [0,2] [] e0H (a1 b9W (a1 d8J a0)) Tryz.func170
theorem d8K:Ok0 163 c0H:=
 fo [(38,a5X),(164,b0G),(170,c1T)] [] [0,1,4,5] [] e0I (a1 b9W (a1 d2I (a1 d6z a0))) Tryz.func163
theorem d2J:Ok0 143 b3d:=
 fo [(163,c0H)] [] [0,1,4,5,6] [] e0J (a1 d8K a0) Tryz.func143
theorem d8L:Ok0 141 c0I:=
 fo [(143,b3d)] [] [0,2,3,4] [] e0K (a1 d2J a0) Tryz.func141
theorem c8s:Ok0 100 b3e:=
 fo [(146,c1S)] [] [0,2,3,4] [] e0L (a1 d6s a0) Tryz.func100
theorem d6A:Ok0 142 b5k:=
 fo [(100,b3e),(143,b3d)] [] [0,1,4] [] e0M (a1 c8s (a1 d2J a0)) Tryz.func142
theorem e1V:Ok0 97 c5n:=
 fo [(141,c0I),(142,b5k),(143,b3d)] [] [0,2,3] [] H97 (a1 d8L (a1 d6A (a1 d2J a0))) Tryz.func97
theorem d6B:Ok0 144 b5l:=
 fo [(96,a7v),(164,b0G)] [] [0,1,2,6,7,8] [3] e0N (a1 d2H (a1 d2I a0)) Tryz.func144
theorem d7W:Ok0 98 b3U:=
 fo [(16,a1l),(96,a7v),(142,b5k),(144,b5l)] [] [0,1,2,3,8,9,10,11,12] [4] H98 (a1 a9Y (a1 d2H (a1 d6A (a1 d6B a0)))) Tryz.func98
theorem e1W:Ok0 47 b9e:=
 fo [(16,a1l),(95,c4d),(96,a7v),(97,c5n),(98,b3U)] [(15,.pair QI Q2),(48,.pair QI Q2)] [0,1,2,3,9,11,12,13,14,16,17] [] H47 (a1 a9Y (a1 d7V (a1 d2H (a1 e1V (a1 d7W a0))))) Tryz.func47
theorem e1X:Ok0 20 c0J:=
 fo [(16,a1l),(17,c1O),(18,b4u),(43,b8x),(44,c3u),(45,c5m),(46,b1F),(47,b9e)] [] [0,1,2,7,8,10,11,12,13,14,20,25,33,47] [5] H20 (a1 a9Y (a1 d7S (a1 d5i (a1 d7U (a1 e1R (a1 e1U (a1 d5n (a1 e1W a0)))))))) Tryz.func20
theorem e1Y:Ok0 24 b6N:=
 fo [] [] [0,1,4,5] [] H24 a0 Tryz.func24
theorem e1Z:Ok0 25 b9f:=
 fo [(9,a9a)] [] [0,1,4] [2,3] H25 (a1 fs9 a0) Tryz.func25
theorem fs8:Ok0 8 b5m:=
 fo [(9,a9a),(24,b6N),(25,b9f)] [] [0,1,4] [2,3] H8 (a1 fs9 (a1 e1Y (a1 e1Z a0))) Tryz.func8
theorem d8M:Ok0 165 c3v:=
 fo [] [] [0,28,33,41,55] [1] e0O a0 Tryz.func165
theorem d8N:Ok0 181 c1U:=
 fo [] [] [0,2] [] e0P a0 Tryz.func181
theorem d8O:Ok0 175 b7E:=
 fo [(16,a1l),(38,a5X),(181,c1U)] [] [0,1,2,6,7,8,9,10,11,12] [] e0Q (a1 a9Y (a1 b9W (a1 d8N a0))) Tryz.func175
theorem d8P:Ok0 176 b6P:=
 fo [(16,a1l),(38,a5X),(90,a7q),(137,b0W)] [] [0,1,2,3,8,9,10,11,12] [] e0R (a1 a9Y (a1 b9W (a1 d2F (a1 d6v a0)))) Tryz.func176
theorem d8Q:Ok0 177 b9g:=
 fo [(16,a1l),(38,a5X),(91,b1E),(135,b2Y)] [] [0,1,2,6,7,8,9,10] [5] e0S (a1 a9Y (a1 b9W (a1 d5k (a1 d6t a0)))) Tryz.func177
theorem d8R:Ok0 178 b7F:=
 fo [(16,a1l),(38,a5X),(92,b0E),(138,b3a),(139,a7s),(140,b0X)] [] [0,1,4,5,6,7,8,9,10,11] [] e0T (a1 a9Y (a1 b9W (a1 d5m (a1 d6w (a1 d2G (a1 d6y a0)))))) Tryz.func178
theorem d8S:Ok0 166 c5o:=
 fo [(175,b7E),(176,b6P),(177,b9g),(178,b7F)] [] [0,2,3,4,5,8,19,32,57] [1] e0U (a1 d8O (a1 d8P (a1 d8Q (a1 d8R a0)))) Tryz.func166
theorem d8T:Ok0 167 d1j:=
 fo [(38,a5X)] [] [0,1,4,5,6,7] [] e0V (a1 b9W a0) Tryz.func167
theorem d8U:Ok0 145 c1V:=
 fo [(8,b5m),(16,a1l),(43,b8x),(46,b1F),(144,b5l),(165,c3v),(166,c5o),(167,d1j)] [] [0,1,4,5,6,7,8,9,10,11,12] [2] e0W (a1 fs8 (a1 a9Y (a1 d7U (a1 d5n (a1 d6B (a1 d8M (a1 d8S (a1 d8T a0)))))))) Tryz.func145
theorem e2a:Ok0 99 c1W:=
 fo [(145,c1V)] [] [0,1,4,5,6] [2] H99 (a1 d8U a0) Tryz.func99
theorem c5p:Ok0 101 a5n:=
 fo [] [] [0,1,2,6,7] [] e0X a0 Tryz.func101
theorem d2K:Ok0 103 b0J:=
 fo [(101,a5n)] [] [0,1,2,6] [] e0Y (a1 c5p a0) Tryz.func103
theorem d8V:Ok0 102 b7G:=
 fo [(100,b3e),(101,a5n),(103,b0J)] [] [0,1,4] [3] e0Z (a1 c8s (a1 c5p (a1 d2K a0))) Tryz.func102
theorem d8W:Ok0 171 b5y:=
 fo [] [] [0,1,4,5] [] e1a a0 Tryz.func171
theorem d8X:Ok0 147 c1X:=
 fo [(16,a1l),(101,a5n),(164,b0G),(170,c1T),(171,b5y)] [] [0,1,2,6,7,8,9] [] e1b (a1 a9Y (a1 c5p (a1 d2I (a1 d6z (a1 d8W a0))))) Tryz.func147
theorem d8Y:Ok0 104 c0K:=
 fo [(96,a7v),(98,b3U),(100,b3e),(101,a5n),(103,b0J),(147,c1X)] [] [0,1,2,3,4,10,11,12,13,14,15] [6] e1c (a1 d2H (a1 d7W (a1 c8s (a1 c5p (a1 d2K (a1 d8X a0)))))) Tryz.func104
theorem e2b:Ok0 48 c1Y:=
 fo [(46,b1F),(99,c1W),(100,b3e),(101,a5n),(102,b7G),(103,b0J),(104,c0K)] [] [0,1,2,6,7,8,32,39,44,59] [4] H48 (a1 d5n (a1 e2a (a1 c8s (a1 c5p (a1 d8V (a1 d2K (a1 d8Y a0))))))) Tryz.func48
theorem e2c:Ok0 49 b7H:=
 fo [] [] [0,2] [] H49 a0 Tryz.func49
theorem e2d:Ok0 21 c0L:=
 fo [(48,c1Y),(49,b7H)] [(6,.pair (.list true (.int .u8)) .unit),(7,.pair (.list true (.int .u8)) .unit)] [0,1,4,5] [2] H21 (a1 e2b (a1 e2c a0)) Tryz.func21
theorem fs6:Ok0 6 c0M:=
 fo [(16,a1l),(17,c1O),(18,b4u),(19,c3t),(20,c0J),(21,c0L)] [] [0,1,5,6,7,8,10,11,13,14] [] H6 (a1 a9Y (a1 d7S (a1 d5i (a1 e1Q (a1 e1X (a1 e2d a0)))))) Tryz.func6
theorem fs3:Ok0 3 b9h:=
 fo [(4,c3s),(5,b9S),(6,c0M),(7,b7x),(8,b5m),(9,a9a)] [] [0,1,2,6,7,8,9,11,13,14,15] [] H3 (a1 fs4 (a1 fs5 (a1 fs6 (a1 fs7 (a1 fs8 (a1 fs9 a0)))))) Tryz.func3
end Go.Ab
namespace Go.Ab
open IntKind(wrap)
section
variable {σ β:Type} {f:σ→Option (σ ⊕ β)}
theorem b9X:∀(n m:Nat)(s:σ){b:β},a3N f n s=some b→a3N f (n+m) s=some b
 |0,_,s,b,h=>by simp[a3N]at h
 |n+1,m,s,b,h=>by
  rw[show n+1+m=n+m+1 from by omega];simp only[a3N]at h⊢
  split at h
  cases h;rename_i s' hs;exact b9X n m s' h;exact h
theorem c7p{n m:Nat}{s:σ}{b b':β}(h:a3N f n s=some b)(h':a3N f m s=some b'):b=b':=by
 have h1:=b9X n m s h;have h2:=b9X m n s h';rw[Nat.add_comm,h1]at h2;exact Option.some.inj h2
theorem d5o{n:Nat}{s:σ}{b:β}(h:a3N f n s=some b):b9A f s=some b:=by
 unfold b9A;have hx:∃n b,a3N f n s=some b:=⟨n,b,h⟩;rw[dif_pos hx];exact congrArg some (c7p hx.choose_spec.choose_spec h)
theorem c6w{n:Nat}{s:σ}{b:β}(h:a3N f n s=some b):a0e f s=some b:=by
 unfold a0e;split;rename_i b' hb;rw[c7p hb h];exact d5o h
theorem c7q{s:σ}(h:∀n,a3N f n s=none):a0e f s=none:=by
 unfold a0e;rw[h 400];show b9A f s=none;unfold b9A;rw[dif_neg]
 rintro⟨n,b,hn⟩
 rw[h n]at hn;cases hn
theorem a0h{s:σ}{b:β}(h:f s=some (.inr b)):a0e f s=some b:=c6w (n:=1) (by simp[a3N,h])
theorem a0k{s s':σ}(h:f s=some (.inl s')):a0e f s=a0e f s':=by
 by_cases hx:∃n b,a3N f n s'=some b
 obtain⟨n,b,hb⟩:=hx;rw[c6w hb];exact c6w (n:=n+1) (by simp[a3N,h,hb])
 ·have h':∀n,a3N f n s'=none:=fun n=>by
   cases hn:a3N f n s' with
   |none=>rfl
   |some b=>exact absurd ⟨n,b,hn⟩ hx
  rw[c7q h'];refine c7q fun n=>?_
  cases n with
  |zero=>rfl
  |succ n=>simp[a3N,h,h' n]
theorem d1k(S:Nat→σ)(n:Nat){b:β}(hstep:∀i,i<n→f (S i)=some (.inl (S (i+1))))(hexit:f (S n)=some (.inr b)):∀(k:Nat),k≤n→a0e f (S (n-k))=some b
 |0,_=>a0h hexit
 |k+1,hk=>by
  rw[a0k (hstep (n-(k+1)) (by omega)),show n-(k+1)+1=n-k from by omega];exact d1k S n hstep hexit k (by omega)
theorem a0G(S:Nat→σ)(n:Nat){b:β}(hstep:∀i,i<n→f (S i)=some (.inl (S (i+1))))(hexit:f (S n)=some (.inr b)):a0e f (S 0)=some b:=by
 have:=d1k S n hstep hexit n (a47 _)
 rwa [a45]at this
end
theorem a0l{n:Int}(h:-9223372036854775808≤n∧n≤9223372036854775807):wrap .i64 n=n:=by
 simp only[wrap,IntKind.bits,IntKind.signed]
 simp
 split<;>omega
theorem a1o{n:Int}(h:0≤n∧n<18446744073709551616):wrap .u64 n=n:=by
 simp only[wrap,IntKind.bits,IntKind.signed]
 simp
 omega
theorem c6x(x y:Int):a2d x y=min x y:=by
 simp only[a2d,cond_eq_ite,dT]
 split<;>omega
theorem d1l(x y:Int):a1r x y=max x y:=by
 simp only[a1r,cond_eq_ite,dT]
 split<;>omega
theorem a9Z{n:Nat}(h:n<2147483648):lim n=true:=by simp[lim,h]
end Go.Ab
namespace Go.Ab
open IntKind(wrap)
section
variable {α A σ β:Type}
def a3s(g:A→α→A ⊕ β):List α→A→A ⊕ β
 | [],a=>.inl a
 |x::r,a=>match g a x with
  |.inl a'=>a3s g r a'
  |.inr b=>.inr b
def b3k(fin:A→β):A ⊕ β→β
 |.inl a=>fin a
 |.inr b=>b
theorem b9i{f:σ→Option (σ ⊕ β)}(l:List α)(S:Nat→A→σ)(g:A→α→A ⊕ β)(I:Nat→A→Prop)(fin:A→β)
  (hstep:∀i (h:i<l.length) a,I i a→(∀a',g a l[i]=.inl a'→f (S i a)=some (.inl (S (i+1) a'))∧I (i+1) a')∧(∀b,g a l[i]=.inr b→f (S i a)=some (.inr b)))
  (hexit:∀a,I l.length a→f (S l.length a)=some (.inr (fin a))):∀(k i:Nat)(a:A),i+k=l.length→I i a→a0e f (S i a)=some (b3k fin (a3s g (l.drop i) a))
 |0,i,a,hi,ha=>by
  obtain rfl:i=l.length:=by omega
  rw[a19];exact a0h (hexit a ha)
 |k+1,i,a,hi,ha=>by
  have hlt:i<l.length:=by omega
  rw[a06 hlt];obtain⟨h1,h2⟩:=hstep i hlt a ha;simp only[a3s];cases hg:g a l[i]with
  |inl a'=>
   obtain⟨h3,h4⟩:=h1 a' hg;rw[a0k h3];exact b9i l S g I fin hstep hexit k (i+1) a' (by omega) h4
  |inr b=>exact a0h (h2 b hg)
theorem a2F{f:σ→Option (σ ⊕ β)}(l:List α)(S:Nat→A→σ)(g:A→α→A ⊕ β)(I:Nat→A→Prop)(fin:A→β)
  (hstep:∀i (h:i<l.length) a,I i a→(∀a',g a l[i]=.inl a'→f (S i a)=some (.inl (S (i+1) a'))∧I (i+1) a')∧(∀b,g a l[i]=.inr b→f (S i a)=some (.inr b)))
  (hexit:∀a,I l.length a→f (S l.length a)=some (.inr (fin a))){a:A}(ha:I 0 a):a0e f (S 0 a)=some (b3k fin (a3s g l a)):=by
 have:=b9i l S g I fin hstep hexit l.length 0 a (by omega) ha
 rwa [a17]at this
theorem a1V{f:σ→Option (σ ⊕ β)}(l:List α)(S:Nat→σ)(p:α→Bool){bt bf:β}
  (hgood:∀i (h:i<l.length),p l[i]=true→f (S i)=some (.inl (S (i+1))))(hbad:∀i (h:i<l.length),p l[i]=false→f (S i)=some (.inr bf))
  (hexit:f (S l.length)=some (.inr bt)):a0e f (S 0)=some (bif l.all p then bt else bf):=by
 have h:=a2F (A:=Unit) l (fun i _=>S i) (fun _ x=>bif p x then .inl ()else .inr bf) (fun _ _=>True) (fun _=>bt) (fun i h a _=>?_) (fun _ _=>hexit) (a:=()) trivial
 ·rw[h];congr 1;clear h hgood hbad hexit
  induction l with
  |nil=>rfl
  |cons x l ih=>
   simp only[a3s,List.all_cons];cases p x with
   |true=>simpa using ih
   |false=>rfl
 ·cases hp:p l[i]with
  |true=>exact⟨fun a' _=>⟨hgood i h hp,trivial⟩,fun b hb=>by simp[hp]at hb⟩
  |false=>exact⟨fun a' ha=>by simp[hp]at ha,fun b hb=>by simp[hp]at hb;rw[←hb];exact hbad i h hp⟩
end
theorem a0d{α:Type}{l:List α}{i:Nat}(h:i<l.length):a0r l (i:Int)=some l[i]:=by
 unfold a0r;rw[if_pos (Int.natCast_nonneg i),tN,lG h]
def a0b(x:Int):Bool:=decide (-1073741824≤x)&&decide (x<1073741824)
theorem a3h{x:Int}:a0b x=true↔-1073741824≤x∧x<1073741824:=by simp[a0b]
def short{α:Type}(l:List α):Prop:=l.length<1000000
theorem a0c{i:Nat}(h:i<1000000):wrap .i64 ((i:Int)+1)=((i+1:Nat):Int):=by
 rw[a0l (by omega)];omega
theorem dlt{i n:Nat}(h:i<n):decide ((i:Int)<(n:Int))=true:=by simp;omega
theorem dge(n:Nat):decide ((n:Int)<(n:Int))=false:=by simp
theorem a6m{l:List Int}(hl:short l):a2P l=some (l.all a0b):=by
 unfold a2P
 have:=a1V (f:=a3v) l (fun i=>(l,(l.length:Int),(i:Int),())) a0b (bt:=Sum.inl ()) (bf:=Sum.inr (false,()))
  (fun i h hp=>by
   have hp:=a3h.1 hp;have h1:decide (l[i] < -1073741824)=false:=by simp;omega
   have h2:decide (l[i]≥1073741824)=false:=by simp;omega
   simp only[a3v,dlt h,cT,a0d h,oB,h1,h2,cF,a0c (a21 h hl)])
  (fun i h hp=>by
   simp only[a3v,dlt h,cT,a0d h,oB]
   by_cases h1:l[i] < -1073741824
   simp[h1];have h2:l[i]≥1073741824:=by
    simp only[a0b,a20,decide_eq_false_iff_not]at hp;omega
   simp[h1,h2])
  (by simp[a3v])
 simp only[nZ]at this;rw[this];cases l.all a0b<;>rfl
end Go.Ab
namespace Go.Ab
theorem a8m(x:Int):a6O x=some (a0b x):=by
 unfold a6O a0b
 by_cases h:-1073741824≤x<;>simp[h]
theorem b0a(x:Int):a9i x=some (a0b x):=by
 unfold a9i a0b
 by_cases h:-1073741824≤x<;>simp[h]
theorem a6W(x:Int):a8d x=some (a0b x):=by
 unfold a8d a0b
 by_cases h:-1073741824≤x<;>simp[h]
theorem a2Q(x:Int):a3D x=some (a0b x):=by
 unfold a3D a0b
 by_cases h:-1073741824≤x<;>simp[h]
theorem b9j(x:Int):a6M x=some (a0b x):=by
 unfold a6M a0b
 by_cases h:-1073741824≤x<;>simp[h]
theorem a5I{l:List Int}(hl:short l):a3w l=some (l.all a0b):=by
 unfold a3w
 have:=a1V (f:=a4y) l (fun i=>(l,(l.length:Int),(i:Int),())) a0b (bt:=Sum.inl ()) (bf:=Sum.inr (false,()))
  (fun i h hp=>by simp[a4y,a0d h,a8m,hp,a0c (a21 h hl),h])
  (fun i h hp=>by simp[a4y,a0d h,a8m,hp,h])
  (by simp[a4y])
 simp only[nZ]at this;rw[this];cases l.all a0b<;>rfl
theorem b3l{l:List Int}(hl:short l):a6d l=some (l.all a0b):=by
 unfold a6d
 have:=a1V (f:=a5A) l (fun i=>(l,(l.length:Int),(i:Int),())) a0b (bt:=Sum.inl ()) (bf:=Sum.inr (false,()))
  (fun i h hp=>by simp[a5A,a0d h,b0a,hp,a0c (a21 h hl),h])
  (fun i h hp=>by simp[a5A,a0d h,b0a,hp,h])
  (by simp[a5A])
 simp only[nZ]at this;rw[this];cases l.all a0b<;>rfl
theorem b6Q{l:List Int}(hl:short l):a7f l=some (l.all a0b):=by
 unfold a7f
 have:=a1V (f:=a4Y) l (fun i=>(l,(l.length:Int),(i:Int),())) a0b (bt:=Sum.inl ()) (bf:=Sum.inr (false,()))
  (fun i h hp=>by simp[a4Y,a0d h,a6W,hp,a0c (a21 h hl),h])
  (fun i h hp=>by simp[a4Y,a0d h,a6W,hp,h])
  (by simp[a4Y])
 simp only[nZ]at this;rw[this];cases l.all a0b<;>rfl
theorem a0B{l:List Int}(hl:short l):a0H l=some (l.all a0b):=by
 unfold a0H
 have:=a1V (f:=a7k) l (fun i=>(l,(i:Int),())) a0b (bt:=Sum.inl ()) (bf:=Sum.inr (false,()))
  (fun i h hp=>by simp[a7k,a0d h,a2Q,hp,a0c (a21 h hl),h])
  (fun i h hp=>by simp[a7k,a0d h,a2Q,hp,h])
  (by simp[a7k])
 simp only[nZ]at this;rw[this];cases l.all a0b<;>rfl
theorem a9c{l:List Int}(hl:short l):a3n l=some (l.all a0b):=by
 have e:b7v=a3v:=rfl
 have:a3n l=a2P l:=by unfold a3n a2P;rw[e]
 rw[this,a6m hl]
def b5Q(x:Int):Bool:=decide (-32768≤x)&&decide (x<32768)
def a6y(c:List Int)(s:Int):Bool:=decide (1≤c.length)&&(decide (c.length≤32)&&(decide (0≤s)&&(decide (s≤15)&&c.all b5Q)))
theorem b1M{c:List Int}{s:Int}(hl:short c):a6o (c,s)=some (a6y c s):=by
 have:=a1V (f:=a5k) c (fun i=>(c,(c.length:Int),(i:Int),())) b5Q (bt:=Sum.inl ()) (bf:=Sum.inr (false,()))
  (fun i h hp=>by
   simp only[b5Q,bA,dT]at hp;have h1:¬ c[i] < -32768:=by omega
   have h2:¬ c[i]≥32768:=by omega
   simp[a5k,a0d h,a0c (a21 h hl),h,h1,h2])
  (fun i h hp=>by
   simp only[b5Q,a20,decide_eq_false_iff_not]at hp
   by_cases h1:c[i] < -32768
   simp[a5k,a0d h,h,h1];have h2:c[i]≥32768:=by omega
   simp[a5k,a0d h,h,h1,h2])
  (by simp[a5k])
 simp only[nZ]at this;unfold a6o a6y
 by_cases h1:c.length<1
 have:((c.length:Nat):Int)<1:=by omega
 have:¬ 1≤c.length:=by omega
 simp[*]
 by_cases h2:c.length > 32
 have:((c.length:Nat):Int) > 32:=by omega
 have:¬ ((c.length:Nat):Int)<1:=by omega
 have:¬ c.length≤32:=by omega
 simp[*]
 by_cases h3:s<0
 have:¬ ((c.length:Nat):Int) > 32:=by omega
 have:¬ ((c.length:Nat):Int)<1:=by omega
 have:¬ 0≤s:=by omega
 simp[*]
 by_cases h4:s > 15
 have:¬ ((c.length:Nat):Int) > 32:=by omega
 have:¬ ((c.length:Nat):Int)<1:=by omega
 have:¬ s≤15:=by omega
 simp[*];have g1:¬ ((c.length:Nat):Int) > 32:=by omega
 have g2:¬ ((c.length:Nat):Int)<1:=by omega
 simp only[g1,g2,h3,h4,decide_false,cF,oB,this];have g3:1≤c.length:=by omega
 have g4:c.length≤32:=by omega
 have g5:0≤s:=by omega
 have g6:s≤15:=by omega
 simp only[g3,g4,g5,g6,decide_true,a16];cases c.all b5Q<;>rfl
theorem a6z{c:List Int}{s:Int}(hl:short c):a4e (c,s)=some (a6y c s):=by
 have:=a1V (f:=a3E) c (fun i=>(c,s,(i:Int),())) b5Q (bt:=Sum.inl (c,s,())) (bf:=Sum.inr (false,()))
  (fun i h hp=>by
   simp only[b5Q,bA,dT]at hp;have h1:¬ c[i] < -32768:=by omega
   have h2:¬ c[i]≥32768:=by omega
   simp[a3E,a0d h,a0c (a21 h hl),h,h1,h2])
  (fun i h hp=>by
   simp only[b5Q,a20,decide_eq_false_iff_not]at hp
   by_cases h1:c[i] < -32768
   simp[a3E,a0d h,h,h1];have h2:c[i]≥32768:=by omega
   simp[a3E,a0d h,h,h1,h2])
  (by simp[a3E])
 simp only[nZ]at this;unfold a4e a6y;rw[this];cases hc:c.all b5Q with
 |false=>simp
 |true=>
  simp only[cT,oB,Bool.and_true]
  by_cases h1:1≤c.length
  by_cases h2:c.length≤32
  by_cases h3:0≤s
  have g1:((c.length:Nat):Int)≥1:=by omega
  have g2:((c.length:Nat):Int)≤32:=by omega
  simp[*];have g1:((c.length:Nat):Int)≥1:=by omega
  have g2:((c.length:Nat):Int)≤32:=by omega
  have g3:¬ s≥0:=by omega
  simp[*];have g1:((c.length:Nat):Int)≥1:=by omega
  have g2:¬ ((c.length:Nat):Int)≤32:=by omega
  simp[*];have g1:¬ ((c.length:Nat):Int)≥1:=by omega
  simp only[g1,h1,decide_false,cF,a34]
def b8y(x:Int):Bool:=decide (-64≤x)&&decide (x≤64)
def a5R(lag:Int)(t:List Int):Bool:=decide (2≤lag)&&(decide (lag≤1024)&&t.all b8y)
theorem b8z{t:List Int}{lag:Int}(ht:t.length=3):b0r (lag,t)=some (a5R lag t):=by
 have:=a1V (f:=a6N) t (fun i=>(t,(i:Int),())) b8y (bt:=Sum.inl ()) (bf:=Sum.inr (false,()))
  (fun i h hp=>by
   simp only[b8y,bA,dT]at hp;have h0:(i:Int)<3:=by omega
   have h1:¬ t[i] < -64:=by omega
   have h2:¬ t[i] > 64:=by omega
   simp[a6N,a0d h,a0c (show i<1000000 by omega),h0,h1,h2])
  (fun i h hp=>by
   simp only[b8y,a20,decide_eq_false_iff_not]at hp;have h0:(i:Int)<3:=by omega
   by_cases h1:t[i] < -64
   simp[a6N,a0d h,h0,h1];have h2:t[i] > 64:=by omega
   simp[a6N,a0d h,h0,h1,h2])
  (by rw[ht];simp[a6N])
 simp only[nZ]at this;unfold b0r a5R
 by_cases h1:lag<2
 have:¬ 2≤lag:=by omega
 simp[*]
 by_cases h2:lag > 1024
 have:¬ lag≤1024:=by omega
 simp[*];have g1:2≤lag:=by omega
 have g2:lag≤1024:=by omega
 simp only[h1,h2,g1,g2,decide_false,decide_true,cF,oB,this,a16];cases t.all b8y<;>rfl
theorem b3X{t:List Int}{lag:Int}(ht:t.length=3):a6S (lag,t)=some (a5R lag t):=by
 have:=a1V (f:=a4J) t (fun i=>(lag,(i:Int),t,())) b8y (bt:=Sum.inl (lag,())) (bf:=Sum.inr (false,()))
  (fun i h hp=>by
   simp only[b8y,bA,dT]at hp;have h0:(i:Int)<3:=by omega
   have h1:¬ t[i] < -64:=by omega
   have h2:¬ t[i] > 64:=by omega
   simp[a4J,a0d h,a0c (show i<1000000 by omega),h0,h1,h2])
  (fun i h hp=>by
   simp only[b8y,a20,decide_eq_false_iff_not]at hp;have h0:(i:Int)<3:=by omega
   by_cases h1:t[i] < -64
   simp[a4J,a0d h,h0,h1];have h2:t[i] > 64:=by omega
   simp[a4J,a0d h,h0,h1,h2])
  (by rw[ht];simp[a4J])
 simp only[nZ]at this;unfold a6S a5R;rw[this];cases hc:t.all b8y with
 |false=>simp
 |true=>
  simp only[cT,oB,Bool.and_true]
  by_cases h1:2≤lag<;>simp[h1]
def a3I(s:Int×(Int×Unit)):Bool:=decide (1≤s.1)&&(decide (s.1≤32)&&(decide (0≤s.2.1)&&decide (s.2.1≤8)))
def a5J(l:List (Int×Int×Unit)):Bool:=decide (l.length≤3)&&l.all a3I
theorem b3Y(s:Int×(Int×Unit)):a8S s=some (a3I s):=by
 unfold a8S a3I
 by_cases h1:1≤s.1<;>by_cases h2:s.1≤32<;>by_cases h3:0≤s.2.1<;>simp[h1,h2,h3]
theorem b3m(s:Int×(Int×Unit)):a8l s=some (a3I s):=by
 unfold a8l a3I
 by_cases h1:1≤s.1<;>by_cases h2:s.1≤32<;>by_cases h3:0≤s.2.1<;>simp[h1,h2,h3]
theorem b6R{l:List (Int×Int×Unit)}(hl:short l):a9h l=some (a5J l):=by
 have:=a1V (f:=a8a) l (fun i=>(l,(l.length:Int),(i:Int),())) a3I (bt:=Sum.inl ()) (bf:=Sum.inr (false,()))
  (fun i h hp=>by simp[a8a,a0d h,b3Y,hp,a0c (a21 h hl),h])
  (fun i h hp=>by simp[a8a,a0d h,b3Y,hp,h])
  (by simp[a8a])
 simp only[nZ]at this;unfold a9h a5J
 by_cases h:l.length≤3
 have g:¬ ((l.length:Nat):Int) > 3:=by omega
 simp only[g,h,decide_false,decide_true,cF,this,oB,a16];cases l.all a3I<;>rfl;have g:((l.length:Nat):Int) > 3:=by omega
 simp[g,h]
theorem b3n{l:List (Int×Int×Unit)}(hl:short l):a6k l=some (a5J l):=by
 have:=a1V (f:=a5E) l (fun i=>(l,(i:Int),())) a3I (bt:=Sum.inl (l,())) (bf:=Sum.inr (false,()))
  (fun i h hp=>by simp[a5E,a0d h,b3m,hp,a0c (a21 h hl),h])
  (fun i h hp=>by simp[a5E,a0d h,b3m,hp,h])
  (by simp[a5E])
 simp only[nZ]at this;unfold a6k a5J;rw[this];cases l.all a3I with
 |false=>simp
 |true=>
  by_cases h:l.length≤3
  have g:((l.length:Nat):Int)≤3:=by omega
  simp[g,h];have g:¬ ((l.length:Nat):Int)≤3:=by omega
  simp only[cT,oB,g,h,decide_false,a34]
end Go.Ab
namespace Go.Ab
open IntKind(wrap)
@[reducible] def W(n:Int):Int:=wrap .i64 n
theorem a8t(n:Int):wrap .i64 n=Int.bmod n 18446744073709551616:=by
 simp only[wrap,IntKind.bits,IntKind.signed,Int.bmod]
 simp
 split<;>split<;>omega
theorem b7I{n:Int}(h:a0b n=true):W n=n:=by
 have:=a3h.1 h
 exact a0l (by omega)
def a4k(guess:List Int→Int):List Int→List Int→Option (List Int)
 | [],out=>some out
 |x::r,out=>bif a0b (W (x+guess out))then a4k guess r (out++[W (x+guess out)])else none
def a9F{β:Type}(guess:List Int→Int)(bad:β)(out:List Int)(x:Int):List Int ⊕ β:=bif a0b (W (x+guess out))then .inl (out++[W (x+guess out)])else .inr bad
theorem a8F{β:Type}(guess:List Int→Int)(bad:β)(fin:List Int→β):∀(l out:List Int),b3k fin (a3s (a9F guess bad) l out)=match a4k guess l out with|some r=>fin r|none=>bad
 | [],out=>rfl
 |x::l,out=>by
  simp only[a3s,a9F,a4k];cases a0b (W (x+guess out))with
  |true=>exact a8F guess bad fin l _
  |false=>rfl
theorem b5R(guess:List Int→Int):∀(l out r:List Int),out.all a0b=true→a4k guess l out=some r→r.all a0b=true∧r.length=out.length+l.length
 | [],out,r,h,e=>by simp only[a4k,sj]at e;subst e;exact⟨h,by simp⟩
 |x::l,out,r,h,e=>by
  simp only[a4k]at e;cases hw:a0b (W (x+guess out))with
  |true=>
   rw[hw]at e;obtain⟨h1,h2⟩:=b5R guess l _ r (by simp[h,hw]) e;exact⟨h1,by rw[h2];simp;omega⟩
  |false=>rw[hw]at e;cases e
def a1d:Option (List Int)→List Int×Int
 |some r=>(r,0)
 |none=>([],6)
def atB(out:List Int)(i:Nat):Int:=out.getD (out.length-i) 0
def a3y(o:Nat)(out:List Int):Int:=match o with
 | 1=>atB out 1
 | 2=>2*atB out 1-atB out 2
 | 3=>3*atB out 1-3*atB out 2+atB out 3
 | 4=>4*atB out 1-6*atB out 2+4*atB out 3-atB out 4
 |_=>0
theorem b5S{out:List Int}{i:Nat}(hi:1≤i)(h:i≤out.length)(hs:short out):a1w ((i:Int),out)=some (atB out i,out):=by
 unfold a1w;have hs:out.length<1000000:=hs;have e:wrap .i64 (((out.length:Nat):Int)-(i:Int))=((out.length-i:Nat):Int):=by rw[a0l (by omega)];omega
 simp only[e,a0d (show out.length-i<out.length by omega),oB,atB];rw[lD,lG (by omega)];rfl
theorem c6y{out:List Int}{o:Nat}(ho:o≤4)(h:o≤out.length)(hs:short out):∃g,b1C (out,(o:Int))=some g∧∀x,W (x+g)=W (x+a3y o out):=by
 have g1:=fun(h':1≤out.length)=>b5S (i:=1) (by omega) h' hs;have g2:=fun(h':2≤out.length)=>b5S (i:=2) (by omega) h' hs;have g3:=fun(h':3≤out.length)=>b5S (i:=3) (by omega) h' hs;have g4:=fun(h':4≤out.length)=>b5S (i:=4) (by omega) h' hs;simp only[Int.natCast_one,Int.cast_ofNat_Int]at g1 g2 g3 g4;unfold b1C;have h5:o=0∨o=1∨o=2∨o=3∨o=4:=by omega
 rcases h5 with rfl|rfl|rfl|rfl|rfl;exact⟨0,rfl,fun x=>rfl⟩;exact⟨_,by simp[g1 (by omega)];rfl,fun x=>rfl⟩;refine⟨_,by simp[g1 (by omega),g2 (by omega)];rfl,fun x=>?_⟩;simp only[W,a8t,a3y,a25,a38,a39];refine⟨_,by simp[g1 (by omega),g2 (by omega),g3 (by omega)];rfl,fun x=>?_⟩;simp only[W,a8t,a3y,a25,a38,a39,a40];refine⟨_,by simp[g1 (by omega),g2 (by omega),g3 (by omega),g4 (by omega)];rfl,fun x=>?_⟩;simp only[W,a8t,a3y,a25,a38,a39,a40]
theorem a0q{n:Nat}(h:n<1000000):lim n=true:=a9Z (by omega)
theorem c7P{warm rest:List Int}{o:Nat}(ho:o≤4)(hw:warm.length=o)(hr:rest.length<100000):
  b2Q (warm,rest,(o:Int))=some (a1d (bif warm.all a0b&&rest.all a0b then a4k (a3y o) rest warm else none)):=by
 have hsw:short warm:=by unfold short;omega
 have hsr:short rest:=by unfold short;omega
 unfold b2Q;have h1:¬ (o:Int)<0:=by omega
 have h2:¬ (o:Int) > 4:=by omega
 have h3:(((warm.length:Nat):Int) != (o:Int))=false:=by simp;omega
 simp only[h1,h2,h3,decide_false,cF,oB,a9c hsw,a9c hsr];cases hw1:warm.all a0b with
 |false=>rfl
 |true=>
  simp only[bT,cF,oB,a16];cases hw2:rest.all a0b with
  |false=>rfl
  |true=>
   simp only[bT,cF,cT,a0q hsw]
   have:=a2F (f:=a9y) rest (fun i out=>((o:Int),rest,(rest.length:Int),(i:Int),out,())) (a9F (a3y o) (Sum.inr ((6:Int),([]:List Int),())))
    (fun i out=>o≤out.length∧out.length≤o+i) (fun out=>Sum.inl (out,()))
    (fun i h out hI=>by
     have hlt:i<1000000:=by omega
     have hso:short out:=by unfold short;omega
     obtain⟨g,hg,hgw⟩:=c6y ho hI.1 hso;have e:wrap .i64 (rest[i]+g)=W (rest[i]+a3y o out):=hgw _;have hone:a3n [W (rest[i]+a3y o out)]=some (a0b (W (rest[i]+a3y o out))):=by rw[a9c (by simp[short])];simp
     simp only[a9y,dlt h,cT,a0d h,oB,hg,e,hone,a9F];cases hb:a0b (W (rest[i]+a3y o out))with
     |true=>
      simp only[cT,bT,cF,a0q (show out.length+1<1000000 by omega),a0c hlt];refine⟨fun a' ha=>?_,fun b hb=>(by cases hb)⟩;simp only[Sum.inl.injEq]at ha;subst ha;exact⟨rfl,by simp;omega,by simp;omega⟩
     |false=>
      refine⟨fun a' ha=>(by cases ha),fun b hb=>?_⟩;simp only[cF,Sum.inr.injEq]at hb;subst hb;rfl)
    (fun out _=>by simp[a9y]) (a:=warm) ⟨by omega,by omega⟩
   simp only[nZ,a8F]at this;rw[this];cases a4k (a3y o) rest warm<;>rfl
def b5n(o:Nat):List Int:=match o with
 | 1=>[1]
 | 2=>[2,-1]
 | 3=>[3,-3,1]
 | 4=>[4,-6,4,-1]
 |_=>[]
theorem d4c{o:Nat}(ho:o≤4):b6O (o:Int)=some (b5n o):=by
 have h5:o=0∨o=1∨o=2∨o=3∨o=4:=by omega
 rcases h5 with rfl|rfl|rfl|rfl|rfl<;>rfl
theorem d0y{o:Nat}(ho:o≤4):(b5n o).length=o:=by
 have h5:o=0∨o=1∨o=2∨o=3∨o=4:=by omega
 rcases h5 with rfl|rfl|rfl|rfl|rfl<;>rfl
def c1Z(o:Nat)(out:List Int)(x:Int):Nat→Int
 |0=>x
 |k+1=>W (c1Z o out x k+W ((b5n o).getD k 0*atB out (k+1)))
theorem c5q{rest out:List Int}{o:Nat}{i x:Int}(ho:o≤4)(h:o≤out.length)(hs:short out)(hx:a0b x=true):
  a0e a5d (rest,(o:Int),b5n o,i,x,(0:Int),out,())=some (rest,(o:Int),b5n o,i,W (x+a3y o out),out,()):=by
 have hs:out.length<1000000:=hs
 have:=a0G (f:=a5d) (fun k=>(rest,(o:Int),b5n o,i,c1Z o out x k,(k:Int),out,()))
  o (b:=(rest,(o:Int),b5n o,i,c1Z o out x o,out,())) (fun k hk=>by
   have e1:wrap .i64 (((out.length:Nat):Int)-1)=((out.length-1:Nat):Int):=by rw[a0l (by omega)];omega
   have e2:wrap .i64 (((out.length-1:Nat):Int)-(k:Int))=((out.length-(k+1):Nat):Int):=by rw[a0l (by omega)];omega
   have h1:(0:Int)≤((out.length-(k+1):Nat):Int):=by omega
   have h2:((out.length-(k+1):Nat):Int)<((out.length:Nat):Int):=by omega
   have h3:k<(b5n o).length:=by rw[d0y ho];exact hk
   have h4:(b5n o)[k]=(b5n o).getD k 0:=by rw[lD,lG h3];rfl
   simp only[a5d,dlt hk,cT,a0d h3,oB,e1,e2,h1,h2,decide_true,a08,tN,a0c (show k<1000000 by omega),c1Z,atB,h4])
  (by simp[a5d])
 simp only[nZ,c1Z]at this;rw[this];have key:c1Z o out x o=W (x+a3y o out):=by
  have h5:o=0∨o=1∨o=2∨o=3∨o=4:=by omega
  rcases h5 with rfl|rfl|rfl|rfl|rfl;simp only[c1Z,a3y,Int.add_zero];exact(b7I hx).symm
  all_goals
   simp only[c1Z,b5n,a3y,List.getD_cons_zero,List.getD_cons_succ,Nat.zero_add,a36,W,a8t,a25,a40];congr 1;omega
 rw[key]
theorem c4f{warm rest:List Int}{o:Nat}(ho:o≤4)(hw:warm.length=o)(hr:rest.length<100000):
  a9C (warm,rest,(o:Int))=some (a1d (bif warm.all a0b&&rest.all a0b then a4k (a3y o) rest warm else none)):=by
 have hsw:short warm:=by unfold short;omega
 have hsr:short rest:=by unfold short;omega
 unfold a9C;have h1:¬ (o:Int)<0:=by omega
 have h2:¬ (o:Int) > 4:=by omega
 have h3:(((warm.length:Nat):Int) != (o:Int))=false:=by simp;omega
 simp only[h1,h2,h3,decide_false,cF,oB,a0B hsw,a0B hsr];cases hw1:warm.all a0b with
 |false=>rfl
 |true=>
  simp only[bT,cF,oB,a16];cases hw2:rest.all a0b with
  |false=>rfl
  |true=>
   have hlw:lim (0+warm.length)=true:=a0q (by omega);simp only[bT,cF,cT,hlw,d4c ho,oB,a24,a09]
   have:=a2F (f:=a7w) rest (fun i out=>(rest,(o:Int),b5n o,(i:Int),out,())) (a9F (a3y o) (Sum.inr ((6:Int),([]:List Int),())))
    (fun i out=>o≤out.length∧out.length≤o+i) (fun out=>Sum.inl (out,()))
    (fun i h out hI=>by
     have hlt:i<1000000:=by omega
     have hso:short out:=by unfold short;omega
     have hwx:a0b rest[i]=true:=lA.1 hw2 _ (a41 h);simp only[a7w,dlt h,cT,a0d h,oB,c5q ho hI.1 hso hwx,a2Q,a9F];cases hb:a0b (W (rest[i]+a3y o out))with
     |true=>
      simp only[cT,bT,cF,a0q (show out.length+1<1000000 by omega),a0c hlt];refine⟨fun a' ha=>?_,fun b hb=>(by cases hb)⟩;simp only[Sum.inl.injEq]at ha;subst ha;exact⟨rfl,by simp;omega,by simp;omega⟩
     |false=>
      refine⟨fun a' ha=>(by cases ha),fun b hb=>?_⟩;simp only[cF,Sum.inr.injEq]at hb;subst hb;rfl)
    (fun out _=>by simp[a7w]) (a:=warm) ⟨by omega,by omega⟩
   simp only[nZ,a8F]at this;rw[this];cases a4k (a3y o) rest warm<;>rfl
end Go.Ab
namespace Go.Ab
open IntKind(wrap)
def c2a(out:List Int):List Int→Nat→Int→Int
 | [],_,acc=>acc
 |c::r,i,acc=>bif decide (i<out.length)then c2a out r (i+1) (W (acc+W (c*atB out (i+1))))else acc
def a7J(c:List Int)(s:Int)(out:List Int):Int:=a0m .i64 (c2a out c 0 0) s
theorem d4d{out:List Int}{i:Nat}(h:i<out.length)(hs:short out):a0r out (wrap .i64 (wrap .i64 (((out.length:Nat):Int)-1)-(i:Int)))=some (atB out (i+1)):=by
 have hs:out.length<1000000:=hs;have e1:wrap .i64 (((out.length:Nat):Int)-1)=((out.length-1:Nat):Int):=by rw[a0l (by omega)];omega
 have e2:wrap .i64 (((out.length-1:Nat):Int)-(i:Int))=((out.length-(i+1):Nat):Int):=by rw[a0l (by omega)];omega
 rw[e1,e2,a0d (show out.length-(i+1)<out.length by omega),atB,lD,lG (by omega)];rfl
theorem d5p{out:List Int}{i:Nat}(h:i<out.length)(hw:out.all a0b=true):a0b (atB out (i+1))=true:=by
 rw[atB,lD,lG (show out.length-(i+1)<out.length by omega)];exact lA.1 hw _ (a41 _)
theorem c2b{out c:List Int}{s:Int}(hs:short out)(hc:short c):∀(k i:Nat)(acc:Int),i+k=c.length→
  a0e a4z (out,s,acc,c,(c.length:Int),(i:Int),())=some (s,c2a out (c.drop i) i acc,())
 |0,i,acc,h=>by
  obtain rfl:i=c.length:=by omega
  rw[a19];exact a0h (by simp[a4z,c2a])
 |k+1,i,acc,h=>by
  have hlt:i<c.length:=by omega
  have hs':out.length<1000000:=hs;have hc':c.length<1000000:=hc;rw[a06 hlt,c2a];have e1:wrap .i64 (((out.length:Nat):Int)-1)=((out.length:Nat):Int)-1:=a0l (by omega);have e2:wrap .i64 (((out.length:Nat):Int)-1-(i:Int))=((out.length:Nat):Int)-1-(i:Int):=a0l (by omega)
  by_cases hi:i<out.length
  have hd:decide (wrap .i64 (wrap .i64 (((out.length:Nat):Int)-1)-(i:Int))<0)=false:=by rw[e1,e2];simp;omega
  simp only[hi,decide_true,cT];rw[a0k (s':=(out,s,W (acc+W (c[i]*atB out (i+1))),c,(c.length:Int),((i+1:Nat):Int),())) (by
   simp only[a4z,dlt hlt,cT,a0d hlt,oB,hd,cF,d4d hi hs,a0c (show i<1000000 by omega)])]
  exact c2b hs hc k (i+1) _ (by omega);have hd:decide (wrap .i64 (wrap .i64 (((out.length:Nat):Int)-1)-(i:Int))<0)=true:=by rw[e1,e2];simp;omega
  simp only[hi,decide_false,cF];exact a0h (by simp only[a4z,dlt hlt,cT,a0d hlt,oB,hd])
theorem b9Y{out c:List Int}{s:Int}(hs:short out)(hc:short c)(h0:0≤s):a6p (out,c,s)=some (a7J c s out):=by
 have:=c2b (s:=s) hs hc c.length 0 0 (by omega)
 simp only[nZ,a17]at this;unfold a6p;simp only[this,oB]
 have:¬ s<0:=by omega
 simp[this,a7J]
theorem c5r{out c:List Int}{s:Int}(hs:short out)(hc:short c)(hw:out.all a0b=true):∀(k i:Nat)(acc:Int),i+k=c.length→
  a0e a4f (out,c,s,acc,(i:Int),())=some (Sum.inl (s,c2a out (c.drop i) i acc,()))
 |0,i,acc,h=>by
  obtain rfl:i=c.length:=by omega
  rw[a19];exact a0h (by simp[a4f,c2a])
 |k+1,i,acc,h=>by
  have hlt:i<c.length:=by omega
  have hs':out.length<1000000:=hs;have hc':c.length<1000000:=hc;rw[a06 hlt,c2a]
  by_cases hi:i<out.length
  simp only[hi,decide_true,cT];rw[a0k (s':=(out,c,s,W (acc+W (c[i]*atB out (i+1))),((i+1:Nat):Int),())) (by
   simp only[a4f,dlt hlt,dlt hi,cT,d4d hi hs,oB,a2Q,d5p hi hw,bT,cF,a0d hlt,a0c (show i<1000000 by omega)])]
  exact c5r hs hc hw k (i+1) _ (by omega);have hd:decide ((i:Int)<((out.length:Nat):Int))=false:=by simp;omega
  simp only[hi,decide_false,cF];exact a0h (by simp only[a4f,dlt hlt,cT,hd,cF])
theorem c3w{s:Int}(h:0≤s)(h':s≤64):wrap .u64 s=s:=a1o (by omega)
theorem b4U{out c:List Int}{s:Int}(hs:short out)(hc:short c)(hw:out.all a0b=true)(hl:a6y c s=true):a5F (out,c,s)=some (a7J c s out):=by
 have:=c5r (s:=s) hs hc hw c.length 0 0 (by omega)
 simp only[nZ,a17]at this;unfold a5F;simp only[a6z hc,hl,oB,bT,cF,this];simp only[a6y,bA,dT]at hl
 have:¬ s<0:=by omega
 simp[c3w (show 0≤s by omega) (by omega),this,a7J]
def b3o(warm rest c:List Int)(s:Int):Option (List Int):=bif warm.all a0b&&rest.all a0b then a4k (a7J c s) rest warm else none
theorem b9k{warm rest c:List Int}{s:Int}(hl:a6y c s=true)(hw:warm.length=c.length)(hr:rest.length<100000):
  a8W (warm,rest,c,s)=some (a1d (b3o warm rest c s)):=by
 have hl':=hl;simp only[a6y,bA,dT]at hl';have hsc:short c:=by unfold short;omega
 have hsw:short warm:=by unfold short;omega
 have hsr:short rest:=by unfold short;omega
 unfold a8W;have h3:(((warm.length:Nat):Int) != ((c.length:Nat):Int))=false:=by simp;omega
 simp only[b1M hsc,hl,oB,bT,cF,h3,a5I hsw,a5I hsr,b3o];cases hw1:warm.all a0b with
 |false=>rfl
 |true=>
  simp only[bT,cF,oB,a16];cases hw2:rest.all a0b with
  |false=>rfl
  |true=>
   have e1:wrap .i64 (((warm.length:Nat):Int)+((rest.length:Nat):Int))=((warm.length+rest.length:Nat):Int):=by rw[a0l (by omega)];omega
   have h4:(0:Int)≤((warm.length+rest.length:Nat):Int):=by omega
   simp only[bT,cF,cT,e1,h4,decide_true,tN,a0q (show warm.length+rest.length<1000000 by omega),a0q (show 0+warm.length<1000000 by omega),a08,a24,a09]
   have:=a2F (f:=a8z) rest (fun i out=>(c,s,rest,(rest.length:Int),(i:Int),out,())) (a9F (a7J c s) (Sum.inr ((6:Int),([]:List Int),())))
    (fun i out=>out.length≤warm.length+i) (fun out=>Sum.inl (out,()))
    (fun i h out hI=>by
     have hlt:i<1000000:=by omega
     have hso:short out:=by unfold short;omega
     have e:wrap .i64 (a7J c s out+rest[i])=W (rest[i]+a7J c s out):=by rw[Int.add_comm]
     simp only[a8z,dlt h,cT,a0d h,oB,b9Y hso hsc hl'.2.2.1,e,a8m,a9F];cases hb:a0b (W (rest[i]+a7J c s out))with
     |true=>
      simp only[cT,bT,cF,a0q (show out.length+1<1000000 by omega),a0c hlt];refine⟨fun a' ha=>?_,fun b hb=>(by cases hb)⟩;simp only[Sum.inl.injEq]at ha;subst ha;exact⟨rfl,by simp;omega⟩
     |false=>
      refine⟨fun a' ha=>(by cases ha),fun b hb=>?_⟩;simp only[cF,Sum.inr.injEq]at hb;subst hb;rfl)
    (fun out _=>by simp[a8z]) (a:=warm) (by omega)
   simp only[nZ,a8F]at this;rw[this];cases a4k (a7J c s) rest warm<;>rfl
theorem b5z{warm rest c:List Int}{s:Int}(hl:a6y c s=true)(hw:warm.length=c.length)(hr:rest.length<100000):
  a6w (warm,rest,c,s)=some (a1d (b3o warm rest c s)):=by
 have hl':=hl;simp only[a6y,bA,dT]at hl';have hsc:short c:=by unfold short;omega
 have hsw:short warm:=by unfold short;omega
 have hsr:short rest:=by unfold short;omega
 unfold a6w;have h3:(((warm.length:Nat):Int) != ((c.length:Nat):Int))=false:=by simp;omega
 simp only[a6z hsc,hl,oB,bT,cF,h3,a0B hsw,a0B hsr,b3o];cases hw1:warm.all a0b with
 |false=>rfl
 |true=>
  simp only[bT,cF,oB,a16];cases hw2:rest.all a0b with
  |false=>rfl
  |true=>
   simp only[bT,cF,cT,a0q (show 0+warm.length<1000000 by omega),a24,a09]
   have:=a2F (f:=a6F) rest (fun i out=>(rest,c,s,(i:Int),out,())) (a9F (a7J c s) (Sum.inr ((6:Int),([]:List Int),())))
    (fun i out=>out.length≤warm.length+i∧out.all a0b=true) (fun out=>Sum.inl (out,()))
    (fun i h out hI=>by
     have hlt:i<1000000:=by omega
     have hso:short out:=by unfold short;omega
     simp only[a6F,dlt h,cT,a0d h,oB,b4U hso hsc hI.2 hl,a2Q,a9F];cases hb:a0b (W (rest[i]+a7J c s out))with
     |true=>
      simp only[cT,bT,cF,a0q (show out.length+1<1000000 by omega),a0c hlt];refine⟨fun a' ha=>?_,fun b hb=>(by cases hb)⟩;simp only[Sum.inl.injEq]at ha;subst ha;exact⟨rfl,by simp;omega,by simp[hI.2,hb]⟩
     |false=>
      refine⟨fun a' ha=>(by cases ha),fun b hb=>?_⟩;simp only[cF,Sum.inr.injEq]at hb;subst hb;rfl)
    (fun out _=>by simp[a6F]) (a:=warm) ⟨by omega,hw1⟩
   simp only[nZ,a8F]at this;rw[this];cases a4k (a7J c s) rest warm<;>rfl
end Go.Ab
namespace Go.Ab
open IntKind(wrap)
def c2c(out:List Int)(lag:Int):List Int→Nat→Int→Int
 | [],_,acc=>acc
 |t::r,i,acc=>c2c out lag r (i+1) (bif decide (0≤(out.length:Int)-lag-1+i)then W (acc+W (t*out.getD ((out.length:Int)-lag-1+i).toNat 0))else acc)
def a5o(lag:Int)(t:List Int)(out:List Int):Int:=a0m .i64 (c2c out lag t 0 0) 6
theorem b9Z{out:List Int}{j:Int}(h0:0≤j)(h:j<out.length):a0r out j=some (out.getD j.toNat 0):=by
 obtain⟨n,rfl⟩:=Int.eq_ofNat_of_zero_le h0;have hn:n<out.length:=by omega
 rw[a0d hn,tN,lD,lG hn];rfl
theorem d1m{n i:Nat}{lag:Int}(h1:2≤lag)(h2:lag≤1024)(hn:n<1000000)(hi:i<3):
  wrap .i64 (wrap .i64 (wrap .i64 ((n:Int)-lag)-1)+(i:Int))=(n:Int)-lag-1+i:=by
 rw[a0l (n:=(n:Int)-lag) (by omega),a0l (n:=(n:Int)-lag-1) (by omega),a0l (by omega)]
theorem d4e{l:List Int}{n j:Nat}(h:j<n):(l.take n).getD j 0=l.getD j 0:=by
 simp only[lD,List.getElem?_take,h,if_true]
theorem b0Y{l t:List Int}{lag:Int}{n:Nat}(hn:n≤l.length)(hs:short l)(ht:t.length=3)(h1:2≤lag)(h2:lag≤1024):∀(k i:Nat)(acc:Int),i+k=3→
  a0e a5B (l,(n:Int),lag,acc,t,(i:Int),())=some (c2c (l.take n) lag (t.drop i) i acc,())
 |0,i,acc,h=>by
  obtain rfl:i=t.length:=by omega
  rw[a19];exact a0h (by rw[ht];simp[a5B,c2c])
 |k+1,i,acc,h=>by
  have hlt:i<t.length:=by omega
  have hi3:decide ((i:Int)<3)=true:=by simp;omega
  have hs':l.length<1000000:=hs;have hln:(l.take n).length=n:=by rw[a28];omega
  have e:=d1m (n:=n) (i:=i) h1 h2 (by omega) (by omega);rw[a06 hlt,c2c,hln]
  by_cases hp:0≤(n:Int)-lag-1+i
  have hd:decide ((n:Int)-lag-1+i≥0)=true:=by simp;omega
  simp only[hp,decide_true,cT];rw[d4e (show((n:Int)-lag-1+i).toNat<n by omega),a0k (s':=(l,(n:Int),lag,W (acc+W (t[i]*l.getD ((n:Int)-lag-1+i).toNat 0)),t,((i+1:Nat):Int),())) (by
   simp only[a5B,hi3,cT,a0d hlt,oB,e,hd,b9Z hp (show(n:Int)-lag-1+(i:Int)<(l.length:Int)by omega),a0c (show i<1000000 by omega)])]
  exact b0Y hn hs ht h1 h2 k (i+1) _ (by omega);have hd:decide ((n:Int)-lag-1+i≥0)=false:=by simp;omega
  simp only[hp,decide_false,cF];rw[a0k (s':=(l,(n:Int),lag,acc,t,((i+1:Nat):Int),())) (by
   simp only[a5B,hi3,cT,a0d hlt,oB,e,hd,cF,a0c (show i<1000000 by omega)])]
  exact b0Y hn hs ht h1 h2 k (i+1) _ (by omega)
theorem b7J{l t:List Int}{lag:Int}{n:Nat}(hn:n≤l.length)(hs:short l)(ht:t.length=3)(h1:2≤lag)(h2:lag≤1024):
  a6e (l,(n:Int),lag,t)=some (a5o lag t (l.take n)):=by
 have:=b0Y (t:=t) hn hs ht h1 h2 3 0 0 (by omega)
 simp only[nZ,a17]at this;unfold a6e;simp only[this,oB,a5o]
theorem c5s{out t:List Int}{lag:Int}(hs:short out)(ht:t.length=3)(h1:2≤lag)(h2:lag≤1024):a6e (out,(out.length:Int),lag,t)=some (a5o lag t out):=by
 rw[b7J (a47 _) hs ht h1 h2,List.take_length]
theorem b0b{out t:List Int}{lag:Int}(hs:short out)(ht:t.length=3)(h1:2≤lag)(h2:lag≤1024):∀(k i:Nat)(acc:Int),i+k=3→
  a0e a5b (out,lag,acc,(i:Int),t,())=some (c2c out lag (t.drop i) i acc,())
 |0,i,acc,h=>by
  obtain rfl:i=t.length:=by omega
  rw[a19];exact a0h (by rw[ht];simp[a5b,c2c])
 |k+1,i,acc,h=>by
  have hlt:i<t.length:=by omega
  have hi3:decide ((i:Int)<3)=true:=by simp;omega
  have hs':out.length<1000000:=hs;have e:=d1m (i:=i) h1 h2 hs' (by omega);rw[a06 hlt,c2c]
  by_cases hp:0≤(out.length:Int)-lag-1+i
  have hd:decide ((out.length:Int)-lag-1+i≥0)=true:=by simp;omega
  simp only[hp,decide_true,cT];rw[a0k (s':=(out,lag,W (acc+W (t[i]*out.getD ((out.length:Int)-lag-1+i).toNat 0)),((i+1:Nat):Int),t,())) (by
   simp only[a5b,hi3,cT,a0d hlt,oB,e,hd,b9Z hp (show(out.length:Int)-lag-1+(i:Int)<(out.length:Int)by omega),a0c (show i<1000000 by omega)])]
  exact b0b hs ht h1 h2 k (i+1) _ (by omega);have hd:decide ((out.length:Int)-lag-1+i≥0)=false:=by simp;omega
  simp only[hp,decide_false,cF];rw[a0k (s':=(out,lag,acc,((i+1:Nat):Int),t,())) (by
   simp only[a5b,hi3,cT,e,hd,cF,a0c (show i<1000000 by omega)])]
  exact b0b hs ht h1 h2 k (i+1) _ (by omega)
theorem b6S{out t:List Int}{lag:Int}(hs:short out)(ht:t.length=3)(h1:2≤lag)(h2:lag≤1024):a7p (out,lag,t)=some (a5o lag t out):=by
 have:=b0b (out:=out) (t:=t) hs ht h1 h2 3 0 0 (by omega)
 simp only[nZ,a17]at this;unfold a7p;simp only[this,oB,a5o]
def b3p(rest:List Int)(lag:Int)(t:List Int):Option (List Int):=bif rest.all a0b then a4k (a5o lag t) rest []else none
theorem c9p{rest t:List Int}{lag:Int}(hl:a5R lag t=true)(ht:t.length=3)(hr:rest.length<100000):b4s (rest,lag,t)=some (a1d (b3p rest lag t)):=by
 have hl':=hl;simp only[a5R,bA,dT]at hl';have hsr:short rest:=by unfold short;omega
 unfold b4s;simp only[b8z ht,hl,oB,bT,cF,b3l hsr,b3p];cases hw2:rest.all a0b with
 |false=>rfl
 |true=>
  have h4:(0:Int)≤((rest.length:Nat):Int):=by omega
  simp only[bT,cF,cT,h4,decide_true,tN,a0q hsr,a08]
  have:=a2F (f:=b0u) rest (fun i out=>(lag,rest,(rest.length:Int),(i:Int),out,t,())) (a9F (a5o lag t) (Sum.inr ((6:Int),([]:List Int),())))
   (fun i out=>out.length=i) (fun out=>Sum.inl (out,()))
   (fun i h out hI=>by
    have hlt:i<1000000:=by omega
    have hso:short out:=by unfold short;omega
    have hp:=c5s (out:=out) (t:=t) (lag:=lag) hso ht hl'.1 hl'.2.1;rw[hI]at hp;simp only[b0u,dlt h,cT,a0d h,oB,hp,b0a,a9F];cases hb:a0b (W (rest[i]+a5o lag t out))with
    |true=>
     simp only[cT,bT,cF,a0q (show out.length+1<1000000 by omega),a0c hlt];refine⟨fun a' ha=>?_,fun b hb=>(by cases hb)⟩;simp only[Sum.inl.injEq]at ha;subst ha;exact⟨rfl,by simp;omega⟩
    |false=>
     refine⟨fun a' ha=>(by cases ha),fun b hb=>?_⟩;simp only[cF,Sum.inr.injEq]at hb;subst hb;rfl)
   (fun out _=>by simp[b0u]) (a:=[]) rfl
  simp only[nZ,a8F]at this;rw[this];cases a4k (a5o lag t) rest []<;>rfl
theorem c5t{rest t:List Int}{lag:Int}(hl:a5R lag t=true)(ht:t.length=3)(hr:rest.length<100000):b0I (rest,lag,t)=some (a1d (b3p rest lag t)):=by
 have hl':=hl;simp only[a5R,bA,dT]at hl';have hsr:short rest:=by unfold short;omega
 unfold b0I;simp only[b3X ht,hl,oB,bT,cF,a0B hsr,b3p];cases hw2:rest.all a0b with
 |false=>rfl
 |true=>
  simp only[bT,cF,cT]
  have:=a2F (f:=a7S) rest (fun i out=>(rest,lag,(i:Int),out,t,())) (a9F (a5o lag t) (Sum.inr ((6:Int),([]:List Int),())))
   (fun i out=>out.length=i) (fun out=>Sum.inl (out,()))
   (fun i h out hI=>by
    have hlt:i<1000000:=by omega
    have hso:short out:=by unfold short;omega
    simp only[a7S,dlt h,cT,a0d h,oB,b6S hso ht hl'.1 hl'.2.1,a2Q,a9F];cases hb:a0b (W (rest[i]+a5o lag t out))with
    |true=>
     simp only[cT,bT,cF,a0q (show out.length+1<1000000 by omega),a0c hlt];refine⟨fun a' ha=>?_,fun b hb=>(by cases hb)⟩;simp only[Sum.inl.injEq]at ha;subst ha;exact⟨rfl,by simp;omega⟩
    |false=>
     refine⟨fun a' ha=>(by cases ha),fun b hb=>?_⟩;simp only[cF,Sum.inr.injEq]at hb;subst hb;rfl)
   (fun out _=>by simp[a7S]) (a:=[]) rfl
  simp only[nZ,a8F]at this;rw[this];cases a4k (a5o lag t) rest []<;>rfl
def b9l{β:Type}(n:Int)(bad:β)(out:List Int)(x:Int):List Int ⊕ β:=bif a0b x&&a0b (a0D .i64 x n)then .inl (out++[a0D .i64 x n])else .inr bad
def upO(n:Int)(l:List Int):Option (List Int):=bif l.all (fun x=>a0b x&&a0b (a0D .i64 x n))then some (l.map fun x=>a0D .i64 x n)else none
theorem b8A{β:Type}(n:Int)(bad:β)(fin:List Int→β):∀(l out:List Int),b3k fin (a3s (b9l n bad) l out)=match upO n l with|some r=>fin (out++r)|none=>bad
 | [],out=>by simp[a3s,b3k,upO]
 |x::l,out=>by
  simp only[a3s,b9l,upO,List.all_cons];cases hx:(a0b x&&a0b (a0D .i64 x n))with
  |true=>
   simp only[cT,a16];rw[b8A n bad fin l _];simp only[upO];cases l.all (fun x=>a0b x&&a0b (a0D .i64 x n))with
   |true=>simp
   |false=>rfl
  |false=>rfl
theorem c9q{l:List Int}{n:Int}(h0:0≤n)(h1:n≤30)(hr:l.length<100000):b1j (l,n)=some (a1d (upO n l)):=by
 have hsr:short l:=by unfold short;omega
 have g1:¬ n<0:=by omega
 have g2:¬ n > 30:=by omega
 unfold b1j;simp only[g1,g2,decide_false,cF,oB]
 have:=a2F (f:=b0v) l (fun i out=>(n,l,(l.length:Int),(i:Int),out,())) (b9l n (Sum.inr ((6:Int),([]:List Int),())))
  (fun i out=>out.length=i) (fun out=>Sum.inl (out,()))
  (fun i h out hI=>by
   have hlt:i<1000000:=by omega
   simp only[b0v,dlt h,cT,a0d h,oB,b9j,b9l,g1,decide_false,cF];cases hb:a0b l[i]with
   |true=>
    cases hb2:a0b (a0D .i64 l[i] n)with
    |true=>
     simp only[cT,bT,cF,oB,g1,decide_false,a0q (show out.length+1<1000000 by omega),a0c hlt,a08];refine⟨fun a' ha=>?_,fun b hb=>(by cases hb)⟩;simp only[Sum.inl.injEq]at ha;subst ha;exact⟨rfl,by simp;omega⟩
    |false=>
     refine⟨fun a' ha=>(by cases ha),fun b hb=>?_⟩;simp only[a16,cF,Sum.inr.injEq]at hb;subst hb;rfl
   |false=>
    refine⟨fun a' ha=>(by cases ha),fun b hb=>?_⟩;simp only[a34,cF,Sum.inr.injEq]at hb;subst hb;rfl)
  (fun out _=>by simp[b0v]) (a:=[]) rfl
 simp only[nZ,b8A,a09]at this;rw[this];cases upO n l<;>rfl
theorem d4f{l:List Int}{n:Int}(h0:0≤n)(h1:n≤30)(hr:l.length<100000):c2J (l,n)=some (a1d (upO n l)):=by
 have hsr:short l:=by unfold short;omega
 have g1:¬ n<0:=by omega
 have g2:¬ n > 30:=by omega
 have hw:=c3w h0 (by omega);unfold c2J;simp only[g1,g2,decide_false,cF,oB]
 have:=a2F (f:=b5P) l (fun i out=>(l,n,(i:Int),out,())) (b9l n (Sum.inr ((6:Int),([]:List Int),())))
  (fun i out=>out.length=i) (fun out=>Sum.inl (out,()))
  (fun i h out hI=>by
   have hlt:i<1000000:=by omega
   simp only[b5P,dlt h,cT,a0d h,oB,a2Q,b9l,hw,g1,decide_false,cF];cases hb:a0b l[i]with
   |true=>
    cases hb2:a0b (a0D .i64 l[i] n)with
    |true=>
     simp only[cT,bT,cF,oB,hw,g1,decide_false,a0d h,a0q (show out.length+1<1000000 by omega),a0c hlt,a08];refine⟨fun a' ha=>?_,fun b hb=>(by cases hb)⟩;simp only[Sum.inl.injEq]at ha;subst ha;exact⟨rfl,by simp;omega⟩
    |false=>
     refine⟨fun a' ha=>(by cases ha),fun b hb=>?_⟩;simp only[a16,cF,Sum.inr.injEq]at hb;subst hb;rfl
   |false=>
    refine⟨fun a' ha=>(by cases ha),fun b hb=>?_⟩;simp only[a34,cF,Sum.inr.injEq]at hb;subst hb;rfl)
  (fun out _=>by simp[b5P]) (a:=[]) rfl
 simp only[nZ,b8A,a09]at this;rw[this];cases upO n l<;>rfl
end Go.Ab
namespace Go.Ab
open IntKind(wrap)
@[reducible] def Fil:Type:=Int×((List Int)×((List Int)×Unit))
def a1M(x:Int):Int:=a2d (a1r x (-1073741824)) 1073741823
def c5u(x:Int):Int:=a2d (a1r x (-1048576)) 1048576
theorem c2d(x:Int):-1073741824≤a1M x∧a1M x≤1073741823:=by
 simp only[a1M,c6x,d1l];omega
theorem c9r(x:Int):-1048576≤c5u x∧c5u x≤1048576:=by
 simp only[c5u,c6x,d1l];omega
def c6z:List Int→List Int→Int→Int
 |a::w,b::h,acc=>c6z w h (W (acc+W (a*b)))
 |_,_,acc=>acc
def a0J(f:Fil):Int:=a1M (a0m .i64 (c6z f.2.1 f.2.2.1 0) 16)
structure FilOk (f:Fil):Prop where
 len:f.2.1.length=f.2.2.1.length
 pos:1≤f.2.1.length
 most:f.2.1.length≤32
 rate:0≤f.1∧f.1≤8
 small:∀x∈f.2.1,-1048576≤x∧x≤1048576
theorem b0c{l:List Int}{i:Nat}(h:i<l.length):a02 l i 0=l[i]:=by
 rw[lD,lG h];rfl
theorem b6T{f:Fil}(hf:FilOk f):∀(k i:Nat)(acc:Int),i+k=f.2.1.length→
  a0e a4v (acc,(f.2.1.length:Int),(i:Int),f,())=some (c6z (f.2.1.drop i) (f.2.2.1.drop i) acc,f,())
 |0,i,acc,h=>by
  obtain rfl:i=f.2.1.length:=by omega
  rw[a19,a0h (b:=(acc,f,())) (by simp[a4v])];rfl
 |k+1,i,acc,h=>by
  have h1:i<f.2.1.length:=by omega
  have h2:i<f.2.2.1.length:=by rw[←hf.len];exact h1
  have hm:=hf.most;rw[a06 h1,a06 h2,c6z];have h0:decide ((0:Int)≤(i:Int))=true:=by simp
  rw[a0k (s':=(W (acc+W (f.2.1[i]*f.2.2.1[i])),(f.2.1.length:Int),((i+1:Nat):Int),f,())) (by
   simp only[a4v,dlt h1,dlt h2,h0,cT,a08,tN,b0c h1,b0c h2,a0c (show i<1000000 by omega)])]
  exact b6T hf k (i+1) _ (by omega)
theorem a8n{f:Fil}(hf:FilOk f):a2S f=some (a0J f,f):=by
 have:=b6T hf f.2.1.length 0 0 (by omega)
 simp only[nZ,a17]at this;unfold a2S;simp only[this,oB,a7g];rfl
theorem b9m{f:Fil}(hf:FilOk f):∀(k i:Nat)(acc:Int),i+k=f.2.1.length→
  a0e a5m (acc,(i:Int),f,())=some (c6z (f.2.1.drop i) (f.2.2.1.drop i) acc,f,())
 |0,i,acc,h=>by
  obtain rfl:i=f.2.1.length:=by omega
  rw[a19,a0h (b:=(acc,f,())) (by simp[a5m])];rfl
 |k+1,i,acc,h=>by
  have h1:i<f.2.1.length:=by omega
  have h2:i<f.2.2.1.length:=by rw[←hf.len];exact h1
  have hm:=hf.most;rw[a06 h1,a06 h2,c6z];have h0:decide ((0:Int)≤(i:Int))=true:=by simp
  rw[a0k (s':=(W (acc+W (f.2.1[i]*f.2.2.1[i])),((i+1:Nat):Int),f,())) (by
   simp only[a5m,dlt h1,dlt h2,h0,cT,a08,tN,b0c h1,b0c h2,a0c (show i<1000000 by omega)])]
  exact b9m hf k (i+1) _ (by omega)
theorem b3q{f:Fil}(hf:FilOk f):a3F f=some (a0J f,f):=by
 have:=b9m hf f.2.1.length 0 0 (by omega)
 simp only[nZ,a17]at this;unfold a3F;simp only[this,oB,b3b];rfl
def a7U(x:Int):Int:=if 0<x then 1 else if x<0 then -1 else 0
def b4y(r:Int)(x g:Int):Int:=a7U (x-g)*2^r.toNat
def b5o(st:Int)(w h:Int):Int:=c5u (W (w+a7U h*st))
def b0K(f:Fil)(x:Int):Fil:=
 (f.1,a18 (b5o (b4y f.1 (a1M x) (a0J f))) f.2.1 f.2.2.1,a1M x::f.2.2.1.take (f.2.2.1.length-1),f.2.2.2)
theorem c0a{f:Fil}(hf:FilOk f)(x:Int):FilOk (b0K f x):=by
 obtain⟨h1,h2,h3,h4,h5⟩:=hf;have e:(a18 (b5o (b4y f.1 (a1M x) (a0J f))) f.2.1 f.2.2.1).length=f.2.1.length:=by simp;omega
 refine⟨?_,?_,?_,h4,?_⟩;show(a18 _ _ _).length=(a1M x::f.2.2.1.take (f.2.2.1.length-1)).length;rw[e];simp;omega;show 1≤(a18 _ _ _).length;rw[e];exact h2;show(a18 _ _ _).length≤32;rw[e];exact h3;intro y hy;have hy:y∈a18 (b5o (b4y f.1 (a1M x) (a0J f))) f.2.1 f.2.2.1:=hy;obtain⟨i,hi,rfl⟩:=List.mem_iff_getElem.1 hy;simp only[a31];exact c9r _
theorem a9o(x:Int):(0<x∧a7U x=1)∨(x<0∧a7U x=-1)∨(x=0∧a7U x=0):=by
 unfold a7U
 by_cases h:0<x
 exact .inl ⟨h,by rw[if_pos h]⟩
 by_cases h':x<0
 exact .inr (.inl ⟨h',by rw[if_neg h,if_pos h']⟩);exact .inr (.inr ⟨by omega,by rw[if_neg h,if_neg h']⟩)
theorem c4g{r:Int}(h:0≤r∧r≤8):(2:Int)^r.toNat≤256∧1≤(2:Int)^r.toNat:=by
 have:r.toNat=0∨r.toNat=1∨r.toNat=2∨r.toNat=3∨r.toNat=4∨r.toNat=5∨r.toNat=6∨r.toNat=7∨r.toNat=8:=by omega
 rcases this with e|e|e|e|e|e|e|e|e<;>rw[e]<;>decide
theorem c7r{r:Int}(h:0≤r∧r≤8){x:Int}(hx:-1≤x∧x≤1):a0D .i64 x r=x*2^r.toNat:=by
 have hp:=c4g h;have hb:min r.toNat 64=r.toNat:=by omega
 unfold a0D;show wrap .i64 (x*2^(min r.toNat 64))=_;rw[hb]
 have:x=-1∨x=0∨x=1:=by omega
 rcases this with rfl|rfl|rfl;exact a0l (by omega);exact a0l (by omega);exact a0l (by omega)
theorem c7Q{f:Fil}(hf:FilOk f)(x:Int):
  (bif decide (a1M x > a0J f)then bif decide (f.1<0)then(none:Option (Int×Int×Fil×Unit))else some (a1M x,a0D .i64 (1:Int) f.1,f,())
   else bif decide (a1M x<a0J f)then bif decide (f.1<0)then none else some (a1M x,wrap .i64 (0-(a0D .i64 (1:Int) f.1)),f,())
   else some (a1M x,(0:Int),f,()))=some (a1M x,b4y f.1 (a1M x) (a0J f),f,()):=by
 have hr:¬ f.1<0:=by have:=hf.rate;omega
 have hp:=c4g hf.rate;have hg:=c7r hf.rate (x:=1) (by omega);rw[a49]at hg;rcases a9o (a1M x-a0J f)with⟨h1,h2⟩|⟨h1,h2⟩|⟨h1,h2⟩;have h3:a1M x > a0J f:=by omega
 simp only[h3,hr,decide_true,decide_false,cT,cF,b4y,h2,a49,hg];have h3:¬ a1M x > a0J f:=by omega
 have h4:a1M x<a0J f:=by omega
 simp only[h3,h4,hr,decide_true,decide_false,cT,cF,b4y,h2,hg];rw[a0l (by omega)];congr 3;omega;have h3:¬ a1M x > a0J f:=by omega
 have h4:¬ a1M x<a0J f:=by omega
 simp only[h3,h4,decide_false,cF,b4y,h2,Int.zero_mul]
theorem c9s{l z:List Int}{i:Nat}(hi:i<l.length)(hz:z.length=l.length):(z.take i++l.drop i).set i (z[i]'(by omega))=z.take (i+1)++l.drop (i+1):=by
 have h1:(z.take i).length=i:=by rw[a28];omega
 have h2:z.take (i+1)=z.take i++[z[i]'(by omega)]:=by rw[a46,lG (show i<z.length by omega)];rfl
 rw[List.set_append_right _ _ (by omega),h1,a45,a06 hi,List.set_cons_zero,h2,aA];rfl
theorem d5q{l z:List Int}{i:Nat}(hi:i<l.length)(hz:z.length=l.length):a02 (z.take i++l.drop i) i 0=l[i]:=by
 have h1:(z.take i).length=i:=by rw[a28];omega
 rw[lD,List.getElem?_append_right (by omega),h1,a45,List.getElem?_drop,Nat.add_zero,lG hi];rfl
theorem d4g{f:Fil}(hf:FilOk f){i:Nat}(h:i<f.2.1.length):-1048576≤f.2.1[i]∧f.2.1[i]≤1048576:=hf.small _ (a41 h)
theorem c5v{f:Fil}(hf:FilOk f){x1 st:Int}(hst:-256≤st∧st≤256):
  a0e a3o (x1,st,(f.2.2.1.length:Int),(0:Int),f,())=some (x1,(f.1,a18 (b5o st) f.2.1 f.2.2.1,f.2.2),()):=by
 obtain⟨z,hz⟩:∃z,a18 (b5o st) f.2.1 f.2.2.1=z:=⟨_,rfl⟩;have hlen:=hf.len;have hzl:z.length=f.2.1.length:=by rw[←hz];simp;omega
 have hm:=hf.most
 have:=a0G (f:=a3o) (fun i=>(x1,st,(f.2.2.1.length:Int),(i:Int),(f.1,z.take i++f.2.1.drop i,f.2.2),()))
  f.2.2.1.length (b:=(x1,(f.1,z,f.2.2),())) (fun i hi=>by
   have hi1:i<f.2.1.length:=by omega
   have h0:decide ((0:Int)≤(i:Int))=true:=by simp
   have hl1:(z.take i++f.2.1.drop i).length=f.2.1.length:=by simp;omega
   have hl2:decide ((i:Int)<((z.take i++f.2.1.drop i).length:Int))=true:=by rw[hl1];simp;omega
   have hzi:z[i]'(by omega)=b5o st f.2.1[i] f.2.2.1[i]:=by simp only[←hz,a31]
   have hsm:=d4g hf hi1;have hset:=c9s hi1 hzl;rw[hzi]at hset;simp only[a3o,dlt hi,h0,hl2,cT,a08,tN,b0c hi,d5q hi1 hzl];rcases a9o f.2.2.1[i]with⟨h1,h2⟩|⟨h1,h2⟩|⟨h1,h2⟩;have h3:f.2.2.1[i] > 0:=h1;simp only[b5o,h2,a49]at hset;simp only[h3,decide_true,cT,oB,h0,hl2,a08,tN,a0c (show i<1000000 by omega)];exact congrArg (fun l=>some (Sum.inl (x1,st,(f.2.2.1.length:Int),((i+1:Nat):Int),(f.1,l,f.2.2),()))) hset;have h3:¬ f.2.2.1[i] > 0:=by omega
   have e:f.2.1[i]+-1*st=f.2.1[i]-st:=by omega
   simp only[b5o,h2,e]at hset;simp only[h3,h1,decide_true,decide_false,cT,cF,oB,h0,hl2,a08,tN,a0c (show i<1000000 by omega)];exact congrArg (fun l=>some (Sum.inl (x1,st,(f.2.2.1.length:Int),((i+1:Nat):Int),(f.1,l,f.2.2),()))) hset;have h3:¬ f.2.2.1[i] > 0:=by omega
   have h4:¬ f.2.2.1[i]<0:=by omega
   have e:W (f.2.1[i]+0*st)=f.2.1[i]:=by rw[Int.zero_mul,Int.add_zero];exact a0l (by omega)
   simp only[b5o,h2,e]at hset;simp only[h3,h4,decide_false,cF,oB,h0,hl2,cT,a08,tN,a0c (show i<1000000 by omega)];exact congrArg (fun l=>some (Sum.inl (x1,st,(f.2.2.1.length:Int),((i+1:Nat):Int),(f.1,l,f.2.2),()))) hset)
  (by
   have e1:z.take f.2.2.1.length=z:=a42 (by omega);have e2:f.2.1.drop f.2.2.1.length=[]:=a43 (by omega);simp[a3o,e1,e2])
 simp only[nZ,a50,a17,a09]at this;rw[hz];exact this
theorem d0z{f:Fil}(hf:FilOk f)(x g:Int):-256≤b4y f.1 x g∧b4y f.1 x g≤256:=by
 have hp:=c4g hf.rate;unfold b4y;rcases a9o (x-g)with⟨-,h2⟩|⟨-,h2⟩|⟨-,h2⟩<;>rw[h2]<;>omega
theorem c0N{f:Fil}(hf:FilOk f)(x:Int):a4A (f,x)=some (b0K f x):=by
 unfold a4A;have hs:=c7Q hf x;simp only[a7g,oB,a8n hf];have hs':(bif decide (a2d (a1r x (-1073741824)) 1073741823 > a0J f)then bif decide (f.1<0)then(none:Option (Int×Int×Fil×Unit))else some (a2d (a1r x (-1073741824)) 1073741823,a0D .i64 (1:Int) f.1,f,())
   else bif decide (a2d (a1r x (-1073741824)) 1073741823<a0J f)then bif decide (f.1<0)then none else some (a2d (a1r x (-1073741824)) 1073741823,wrap .i64 (0-(a0D .i64 (1:Int) f.1)),f,())
   else some (a2d (a1r x (-1073741824)) 1073741823,(0:Int),f,()))=_:=hs
 rw[hs'];simp only[oB,c5v hf (d0z hf _ _)];have h1:f.2.2.1.length≥1:=by have:=hf.pos;have:=hf.len;omega
 have h2:decide ((1:Int)≤((f.2.2.1.length:Nat):Int))=true:=by simp;omega
 have e:b5D f.2.2.1 1 (f.2.2.1.length-1) f.2.2.1=f.2.2.1.take 1++f.2.2.1.take (f.2.2.1.length-1):=by
  unfold b5D;rw[Nat.min_eq_left (by omega),a43 (by omega),List.append_nil]
 have hl:(f.2.2.1.take 1++f.2.2.1.take (f.2.2.1.length-1)).length=f.2.2.1.length:=by simp;omega
 have h3:decide ((0:Int)<(((f.2.2.1.take 1++f.2.2.1.take (f.2.2.1.length-1)).length:Nat):Int))=true:=by rw[hl];simp;omega
 simp only[h2,cT,e,h3];congr 1;have e2:(f.2.2.1.take 1++f.2.2.1.take (f.2.2.1.length-1)).set 0 (a1M x)=a1M x::f.2.2.1.take (f.2.2.1.length-1):=by
  cases hc:f.2.2.1 with
  |nil=>rw[hc]at h1;simp at h1
  |cons a l=>simp
 rw[e2];rfl
theorem c3x(x:Int):b3c x=some (a7U x):=by
 unfold b3c;rcases a9o x with⟨h1,h2⟩|⟨h1,h2⟩|⟨h1,h2⟩
 have:x > 0:=h1
 simp[this,h2]
 have:¬ x > 0:=by omega
 simp[this,h1,h2];subst h1;simp[h2]
theorem c7R{f:Fil}(hf:FilOk f){x1 s:Int}(hs:-1≤s∧s≤1):
  a0e a4g (x1,s,(0:Int),([]:List Int),([]:List Int),f,())=some (x1,a18 (b5o (s*2^f.1.toNat)) f.2.1 f.2.2.1,([]:List Int),f,()):=by
 obtain⟨z,hz⟩:∃z,a18 (b5o (s*2^f.1.toNat)) f.2.1 f.2.2.1=z:=⟨_,rfl⟩;have hlen:=hf.len;have hzl:z.length=f.2.1.length:=by rw[←hz];simp;omega
 have hm:=hf.most;have hr:=hf.rate;have hu:wrap .u64 f.1=f.1:=a1o (by omega);have hr0:¬ f.1<0:=by omega
 have:=a0G (f:=a4g) (fun i=>(x1,s,(i:Int),z.take i,([]:List Int),f,()))
  f.2.1.length (b:=(x1,z,([]:List Int),f,())) (fun i hi=>by
   have hi2:i<f.2.2.1.length:=by omega
   have h0:decide ((0:Int)≤(i:Int))=true:=by simp
   have hzi:z[i]'(by omega)=b5o (s*2^f.1.toNat) f.2.1[i] f.2.2.1[i]:=by simp only[←hz,a31]
   have hss:-1≤s*a7U f.2.2.1[i]∧s*a7U f.2.2.1[i]≤1:=by
    rcases a9o f.2.2.1[i]with⟨-,h2⟩|⟨-,h2⟩|⟨-,h2⟩<;>rw[h2]<;>omega
   have e1:wrap .i64 (s*a7U f.2.2.1[i])=s*a7U f.2.2.1[i]:=a0l (by omega);have e2:=c7r hr hss;have e3:a2d (a1r (wrap .i64 (f.2.1[i]+s*a7U f.2.2.1[i]*2^f.1.toNat)) (-1048576)) 1048576=z[i]'(by omega):=by
    rw[hzi,show s*a7U f.2.2.1[i]*2^f.1.toNat=a7U f.2.2.1[i]*(s*2^f.1.toNat)by rw[Int.mul_comm s,Int.mul_assoc]];rfl
   have e4:z.take i++[z[i]'(by omega)]=z.take (i+1):=by rw[a46,lG (by omega)];rfl
   have hl:(z.take i).length+1<1000000:=by rw[a28];omega
   simp only[a4g,dlt hi,dlt hi2,h0,cT,a08,tN,b0c hi,b0c hi2,c3x,oB,hu,hr0,decide_false,cF,a0q hl,e1,e2,e3,a24,e4,a0c (show i<1000000 by omega)])
  (by
   have e1:z.take f.2.1.length=z:=a42 (by omega);simp[a4g,e1])
 simp only[nZ,a50]at this;rw[hz];exact this
theorem c9t(f:Fil):-1073741824≤a0J f∧a0J f≤1073741823:=c2d _
theorem c3y{f:Fil}(hf:FilOk f)(x:Int):a5G (f,x)=some (b0K f x):=by
 unfold a5G;have hc:=c2d x;have hg:=c9t f;have e1:wrap .i64 (a1M x-a0J f)=a1M x-a0J f:=a0l (by omega);have hs:-1≤a7U (a1M x-a0J f)∧a7U (a1M x-a0J f)≤1:=by
  rcases a9o (a1M x-a0J f)with⟨-,h2⟩|⟨-,h2⟩|⟨-,h2⟩<;>rw[h2]<;>omega
 have h0:b3b x=some (a1M x):=rfl;have hm:=hf.most;have hlen:=hf.len;have hpos:=hf.pos;have e2:wrap .i64 (((f.2.2.1.length:Nat):Int)-1)=((f.2.2.1.length-1:Nat):Int):=by rw[a0l (by omega)];omega
 have h3:decide ((0:Int)≤((f.2.2.1.length-1:Nat):Int))=true:=by simp
 have h4:decide (((f.2.2.1.length-1:Nat):Int)≤((f.2.2.1.length:Nat):Int))=true:=by simp
 have hl:([a1M x]:List Int).length+(f.2.2.1.take (f.2.2.1.length-1)).length<1000000:=by simp;omega
 simp only[h0,oB,b3q hf,e1,c3x,c7R hf hs,a32,a0q (show 0+1<1000000 by omega),cT,e2,h3,h4,a08,tN,a17,a24,a09,a0q hl];rfl
end Go.Ab
