/- Part of the proof: F, It, PA, QA, QB, QC, QD, QE, QF, S. Conditions: as each statement tells. -/
import Derived.RangeFuncBound
import Derived.RangeFuncCalls
import Derived.RangeFuncBox
import Derived.WalkKit
import Derived.OwnWalkIn
import Derived.TacticsInMore
import Derived.LoopNIn
import Derived.LoopIn
import Derived.Test.YtimgpmdfgkgobaaGreatDoorProg
import Derived.KernelRfl
import Derived.Test.YtimgpmdfgkgobaaGreatDoorMD
noncomputable section
set_option linter.unusedSimpArgs false
set_option linter.unusedVariables false
open Array renaming replicate_succ→a28,replicate_zero→a29
open Bool renaming and_self→a08,true_and→a16,and_eq_false_iff→a20,false_and→a33
open Int renaming toNat→a01,tdiv→a23,add_bmod_bmod→a25,tmod→a34,sub_bmod_bmod→a38,bmod_sub_bmod→a39,bmod_add_bmod→a40,one_mul→a49
open List renaming replicate→a00,getD→a02,length→a03,append→a04,set→a05,drop_eq_getElem_cons→a06,take→a07,nil_append→a09,drop_zero→a17,zipWith→a18,drop_length→a19,drop→a22,append_eq→a24,cons_append→a26,length_take→a27,getElem_zipWith→a30,length_nil→a31,append_toArray→a32,size_toArray→a35,push_toArray→a37,getElem_mem→a41,take_of_length_le→a42,drop_eq_nil_of_le→a43,take_add_one→a46,take_zero→a50
open Nat renaming lt_trans→a21,reduceAdd→a36,reduceSub→a44,sub_self→a45,le_refl→a47
open Option renaming getD_some→a48
namespace Go.Ab
open Go.Proofs Go.RowKit
attribute [local go_sem] Oper.semAt_some
set_option maxHeartbeats 1000000 in
theorem d6N:d3Q Tryz.prog 260 295:=by
 refine⟨⟨_,_,Tryz.func260,rfl,by kernel_rfl⟩,fun A len cap w=>(callsIn_wide (n:=3)).1 ?_⟩
 refine callsIn_of_wp Tryz.func260 rfl trivial ?_
 simp only[Tryz.ntmps260,a35,lC,a31,a36,a44,a28,a29,a37,a32,a09,a26]
 gi_wp2
 go_ret
 exact⟨rfl,_,rfl⟩
@[reducible] def b6e:Ty:=.pair (.int .i64) (.pair (.int .i64) .unit)
set_option maxRecDepth 100000 in
set_option maxHeartbeats 2000000 in
theorem d4U (l Bs b off len cap:Nat) (p q:Nat→Int) (J:Nat→World→Prop) (Jx:World→Prop) (W:World)
  (hJ:∀k W',J k W'→W'.cell? ⟨Bs,0,none⟩=some (.slice (some ⟨b,off,none⟩) len cap))
  (hlen:len<2147483648)
  (hcs:∀k W',k<len→J (k+1) W'→W'.cell? ⟨b,off+k*2,none⟩=some (.int .i64 (p k))∧W'.cell? ⟨b,off+k*2+1,none⟩=some (.int .i64 (q k)))
  (hY:∀n W',n<len→J (n+1) W'→YieldAt (Fr none) 0 Tryz.prog l #[.int .i64 (n:Int),.agg #[.int .i64 (p n),.int .i64 (q n)]] W' fun en W''=>(en=.returned (.bool true)∧J n W'')∨(en=.returned (.bool false)∧Jx W''))
  (h0:J len W):
  CallsIn (Fr none) 0 Tryz.prog 295 #[.func (.yield l) #[] #[],.pointer (some ⟨Bs,0,none⟩)] W fun en W'=>(∃v,en=.returned v)∧(J 0 W'∨Jx W'):=by
 refine callsIn_of_wp Tryz.func295 rfl trivial ?_
 simp only[Tryz.ntmps295,a35,lC,a31,a36,a44,a28,a29,a37,a32,a09,a26]
 have hBs:=hJ _ _ h0
 gi_wp2
 gi_loopw [3] (fun i wr=>∃k:Nat,k≤len∧i=.int .i64 ((k:Int)-1)∧J k wr) (fun i _=>(intOf i+1).toNat)
 case atStart=>exact⟨len,a47 _,rfl,h0⟩
 case round=>
  obtain⟨k,hk,rfl,hJs⟩:=hrel
  cases k with
  |succ n=>
   obtain⟨fn,tmps,assign,body,hy,hR⟩:=hY n wr (by omega) hJs
   have hcx:=hJ _ _ hJs
   obtain⟨hc0,hc1⟩:=hcs n wr (by omega) hJs
   gi_wp2
   refine hR.mono ?_
   rintro e W3 (⟨rfl,hJ3⟩|⟨rfl,hJx3⟩)
   ·gi_wp2
    go_roundw
    case rel=>exact⟨n,by omega,by simp,hJ3⟩
    case measure=>simp[intOf]
   ·gi_wp2
    refine bodyPost_ret (results_none rfl _ _ _) rfl ?_
    exact⟨⟨_,rfl⟩,.inr hJx3⟩
  |zero=>
   gi_wp2
   go_end0
   exact⟨⟨_,rfl⟩,.inl hJs⟩
set_option maxRecDepth 100000 in
set_option maxHeartbeats 2000000 in
theorem d3R (l Bs:Nat) (A:Option Addr) (c:Nat) (J:Nat→World→Prop) (W:World) (hBs:W.cell? ⟨Bs,0,none⟩=some (.slice A 0 c)) (h0:J 0 W):
  CallsIn (Fr none) 0 Tryz.prog 295 #[.func (.yield l) #[] #[],.pointer (some ⟨Bs,0,none⟩)] W fun en W'=>(∃v,en=.returned v)∧J 0 W':=by
 refine callsIn_of_wp Tryz.func295 rfl trivial ?_
 simp only[Tryz.ntmps295,a35,lC,a31,a36,a44,a28,a29,a37,a32,a09,a26]
 gi_wp2
 gi_loopw [3] (fun i wr=>i=.int .i64 (-1)∧J 0 wr) (fun _ _=>0)
 case atStart=>exact⟨rfl,h0⟩
 case round=>
  obtain⟨rfl,hJs⟩:=hrel
  gi_wp2
  go_end0
  exact⟨⟨_,rfl⟩,hJs⟩
theorem c6U{m:Mem}{Sh:Nat→Prop}{b o:Nat}{x:b6e.den}{R}(h:dec m b6e ((Src.at b o).rd m)=some (x,[],R)):
  m b o=some (.int .i64 x.1)∧m b (o+1)=some (.int .i64 x.2.1)∧VOk m Sh b6e x (.agg #[.int .i64 x.1,.int .i64 x.2.1]):=by
 obtain⟨p,q,u⟩:=x;simp only[b6e,dec,Src.rd,Ty.cells,Nat.add_zero]at h
 split at h
 cases h;rename_i x1 o1 r1 h1
 split at h1
 rename_i n hn
 split at h1
 rename_i e;subst e;simp only[sj]at h1;obtain⟨rfl,rfl,rfl⟩:=h1
 split at h
 cases h;rename_i x2 o2 r2 h2
 split at h2
 cases h2;rename_i x3 o3 r3 h3
 split at h3
 rename_i n' hn'
 split at h3
 rename_i e;subst e;simp only[sj]at h3 h2 h;obtain⟨rfl,rfl,rfl⟩:=h3;obtain⟨rfl,rfl,rfl⟩:=h2;obtain⟨⟨rfl,rfl,rfl⟩,-,-⟩:=h;exact⟨hn,hn',fun _=>⟨_,rfl,rfl⟩,fun h=>(by cases h),[],rfl,by simp⟩;cases h3;cases h3;cases h1;cases h1
theorem c7x {P:Program} {f:FuncId} (hb:b2k P f) (args:Array Value) (w:World):(callFunc f args).run P w=.ok (.enter f args) w:=by
 obtain ⟨fn,c',h1,h2,h3⟩:=hb;have h4 : ¬ fn.name = "runtime.NumGoroutine" := by simpa using h3
 simp [callFunc,program,Sem.run,h1,h2,h4,Result.andThen]
theorem d6O:c8S Tryz.prog 295 b6e:=by
 refine⟨fun args w=>c7x ⟨_,_,Tryz.func295,rfl,by kernel_rfl⟩ args w,fun l Bs sv xs J Jx W hlen hJ hY h0=>?_⟩;obtain⟨hc,Sh,hsv⟩:=hJ _ _ h0;obtain⟨A,n,c,rfl,rfl,hnc,hsp,hnil⟩:=hsv.header
 by_cases hx0:xs.length=0
 rw[hx0]at h0 hc;exact(d3R l Bs A c J W hc h0).mono fun e W' h=>⟨h.1,.inl h.2⟩;cases A with
 |none=>have:=hnil rfl;omega
 |some A=>
  obtain⟨b,off,spot⟩:=A
  have:=(hsp _ rfl).resolve_left (by omega)
  simp only at this;subst this;have hel:∀k W',k<xs.length→J (k+1) W'→∃x,xs[k]?=some x∧W'.cell? ⟨b,off+k*2,none⟩=some (.int .i64 x.1)∧W'.cell? ⟨b,off+k*2+1,none⟩=some (.int .i64 x.2.1):=by
   intro k W' hk hj;obtain⟨-,Sh',hv⟩:=hJ _ _ hj;obtain⟨A',n',c',R,e,h1,h2,h3,h4,h5,h6⟩:=hv.elem rfl (lG hk);simp only[Value.slice.injEq,sj]at e;obtain⟨rfl,rfl,rfl⟩:=e;obtain⟨g1,g2,-⟩:=c6U (Sh:=Sh') h4;exact⟨_,lG hk,g1,g2⟩
  refine d4U l Bs b off xs.length c (fun k=>((xs[k]?).getD b6e.dflt).1) (fun k=>((xs[k]?).getD b6e.dflt).2.1) J Jx W (fun k W' hj=>(hJ k W' hj).1) hlen (fun k W' hk hj=>?_) (fun n W' hn hj=>?_) h0;obtain⟨x,hx,g1,g2⟩:=hel k W' hk hj;simp only[hx,a48];exact⟨g1,g2⟩;have hx:xs[n]?=some xs[n]:=lG hn;simp only[hx,a48];refine hY n _ _ W' hx hj fun Sh' hv=>?_
  obtain⟨A',n',c',R,e,h1,h2,h3,h4,h5,h6⟩:=hv.elem rfl hx;exact(c6U (Sh:=Sh') h4).2.2
end Go.Ab
namespace Go.Ab
open IntKind(wrap)
open Go.Proofs
set_option maxRecDepth 100000
set_option linter.unusedVariables false
@[reducible] def QI:Ty:=.int .i64
@[reducible] def QL:Ty:=.list false QI
@[reducible] def Z0:Type:=(Unit ⊕ (Bool×Unit))
@[reducible] def Z1:Type:=(Int×(Int×(List Int)))
@[reducible] def Z2:Type:=((List Int)×(Int×Int))
@[reducible] def Z3:Type:=(Int×((List Int)×Unit))
@[reducible] def Z4:Type:=((List Int)×(Int×Unit))
@[reducible] def Z5:Type:=(List (Int×(Int×Unit)))
@[reducible] def Z6:Type:=(Bool×((List Int)×Unit))
@[reducible] def Z7:Type:=((List Int)×(Bool×Unit))
@[reducible] def Z8:Type:=(Int×(Int×(Int×Unit)))
@[reducible] def Z9:Type:=(((List Int)×Unit)×Unit)
@[reducible] def Z10:Type:=(Int×(Int×(Bool×Unit)))
@[reducible] def Z11:Type:=((List Int)×((List Int)×Int))
@[reducible] def Z12:Type:=((List Int)×(Int×(List Int)))
@[reducible] def Z13:Type:=((List Int)×((List Int)×Unit))
@[reducible] def Z14:Type:=((List Int)×(Int×(Int×Unit)))
@[reducible] def Z15:Type:=(Int×Z3)
@[reducible] def Z16:Type:=(Int×Z4)
@[reducible] def Z17:Type:=(Int×Z6)
@[reducible] def Z18:Type:=((List Int)×(Int×(Bool×Unit)))
@[reducible] def Z19:Type:=(Z3×Unit)
@[reducible] def Z20:Type:=(Z4×Unit)
@[reducible] def Z21:Type:=(Int×Z8)
@[reducible] def Z22:Type:=(Bool×Z3)
@[reducible] def Z23:Type:=(Int×Z9)
@[reducible] def Z24:Type:=(Int×Z10)
@[reducible] def Z25:Type:=((List (List Int))×((List Int)×Unit))
@[reducible] def Z26:Type:=(Int×Z13)
@[reducible] def Z27:Type:=((List Int)×Z5)
@[reducible] def Z28:Type:=((List Int)×Z3)
@[reducible] def Z29:Type:=(Int×Z14)
@[reducible] def Z30:Type:=(Int×Z15)
@[reducible] def Z31:Type:=((List Int)×Z8)
@[reducible] def Z32:Type:=((List Int)×Z10)
@[reducible] def Z33:Type:=(Int×Z17)
@[reducible] def Z34:Type:=(Int×Z20)
@[reducible] def Z35:Type:=(Int×Z21)
@[reducible] def Z36:Type:=(Z5×(Int×Unit))
@[reducible] def Z37:Type:=(Int×Z23)
@[reducible] def Z38:Type:=(Bool×Z19)
@[reducible] def Z39:Type:=(Int×Z24)
@[reducible] def Z40:Type:=((List Int)×Z13)
@[reducible] def Z41:Type:=((List Int)×Z15)
@[reducible] def Z42:Type:=(Int×Z26)
@[reducible] def Z43:Type:=(Z26×Int)
@[reducible] def Z44:Type:=((List Int)×Z14)
@[reducible] def Z45:Type:=(((List Int)×Unit) ⊕ Z3)
@[reducible] def Z46:Type:=(Z3×((List Int)×Unit))
@[reducible] def Z47:Type:=(Int×Z29)
@[reducible] def Z48:Type:=((List Int)×Z18)
@[reducible] def Z49:Type:=(Z26×Unit)
@[reducible] def Z50:Type:=((List Int)×Z19)
@[reducible] def Z51:Type:=(Int×Z34)
@[reducible] def Z52:Type:=(Int×Z35)
@[reducible] def Z53:Type:=(Z14 ⊕ (Int×Unit))
@[reducible] def Z54:Type:=(Z4 ⊕ Z0)
@[reducible] def Z55:Type:=(Int×Z40)
@[reducible] def Z56:Type:=(Int×Z41)
@[reducible] def Z57:Type:=(Z3×Z1)
@[reducible] def Z58:Type:=((List Int)×Z29)
@[reducible] def Z59:Type:=((List Int)×Z31)
@[reducible] def Z60:Type:=((List Int)×Z30)
@[reducible] def Z61:Type:=((List Int)×Z33)
@[reducible] def Z62:Type:=(Int×Z49)
@[reducible] def Z63:Type:=(Int×Z50)
@[reducible] def Z64:Type:=(Z5×Z3)
@[reducible] def Z65:Type:=(Z14 ⊕ Z0)
@[reducible] def Z66:Type:=((List Int)×Z41)
@[reducible] def Z67:Type:=((List Int)×Z42)
@[reducible] def Z68:Type:=(Int×Z55)
@[reducible] def Z69:Type:=((List Int)×Z46)
@[reducible] def Z70:Type:=((List Int)×Z47)
@[reducible] def Z71:Type:=((List Int)×Z49)
@[reducible] def Z72:Type:=((List Int)×Z48)
@[reducible] def Z73:Type:=(Int×Z56)
@[reducible] def Z74:Type:=(Int×Z62)
@[reducible] def Z75:Type:=(Int×Z63)
@[reducible] def Z76:Type:=((List Int)×Z51)
@[reducible] def Z77:Type:=(Z3×Z19)
@[reducible] def Z78:Type:=(Z4×Z19)
@[reducible] def Z79:Type:=(Int×Z67)
@[reducible] def Z80:Type:=((List Int)×Z56)
@[reducible] def Z81:Type:=(Int×Z68)
@[reducible] def Z82:Type:=(Int×Z71)
@[reducible] def Z83:Type:=(Int×Z74)
@[reducible] def Z84:Type:=(Int×Z75)
@[reducible] def Z85:Type:=(Int×Z76)
@[reducible] def Z86:Type:=(Int×Z77)
@[reducible] def Z87:Type:=(Int×Z82)
@[reducible] def Z88:Type:=((List Int)×Z78)
@[reducible] def Z89:Type:=(Int×Z86)
@[reducible] def Z90:Type:=((List Int)×Z84)
@[reducible] def Z91:Type:=(Int×Z88)
@[reducible] def Z92:Type:=(Z5×Z69)
@[reducible] def Z93:Type:=((List Int)×Z89)
@[reducible] def Z94:Type:=(Int×Z91)
@[reducible] def Z95:Type:=(Z3×Z77)
@[reducible] def Z96:Type:=(Int×Z93)
@[reducible] def Z97:Type:=((List Int)×Z92)
@[reducible] def Z98:Type:=((List Int)×Z94)
@[reducible] def Z99:Type:=(Z5×Z87)
@[reducible] def d9E:Type:=((List Int)×Z95)
@[reducible] def d9F:Type:=(Int×Z96)
@[reducible] def d9G:Type:=(Int×d9E)
@[reducible] def d1T:Type:=(Int×d9F)
@[reducible] def d9H:Type:=((List Int)×Z97)
@[reducible] def d1U:Type:=(Int×d9G)
@[reducible] def d9I:Type:=(Int×d9H)
@[reducible] def d9J:Type:=(Int×d9I)
@[reducible] def d9K:Type:=(Int×d9J)
@[reducible] def d9L:Type:=(Int×d9K)
@[reducible] def a2a:Type:=(Int×d9L)
@[reducible] def b1M:Type:=(List a2a)
@[reducible] def a9G:Type:=(a2a×Int)
@[reducible] def c1d:Type:=(a2a×Unit)
@[reducible] def c8W:Type:=(b1M×Unit)
@[reducible] def d1V:Type:=(Bool×c1d)
@[reducible] def d7s:Type:=((List Int)×c1d)
@[reducible] def d9M:Type:=(Int×c8W)
@[reducible] def c1e:Type:=(Int×d1V)
@[reducible] def d1W:Type:=(b1M×((List Int)×Unit))
@[reducible] def d9N:Type:=(Int×d7s)
@[reducible] def d9O:Type:=(((List Int)×Unit)×c1d)
@[reducible] def d1X:Type:=(Int×c1e)
@[reducible] def d1Y:Type:=((List Int)×d9M)
@[reducible] def d1Z:Type:=(Int×d9N)
@[reducible] def d9P:Type:=(Z4×c1d)
@[reducible] def d9Q:Type:=(Int×d9O)
@[reducible] def d2a:Type:=(Int×d9P)
@[reducible] def d2b:Type:=(Int×d9Q)
@[reducible] def b7V:Type:=(Int×d2a)
@[reducible] def b3z:Type:=(a2a×c1d)
@[reducible] def d7t:Type:=(Int×b3z)
@[reducible] def d2c:Type:=(Int×d7t)
@[reducible] def d2d:Type:=(a2a×b3z)
@[reducible] def Q0:Ty:=(.pair QI .unit)
@[reducible] def Q1:Ty:=(.pair (.list true (.int .u8)) .unit)
@[reducible] def Q2:Ty:=(.pair (.list true QI) .unit)
@[reducible] def Q3:Ty:=(.pair QL .unit)
@[reducible] def Q4:Ty:=(.pair QI Q0)
@[reducible] def Q5:Ty:=(.pair (.list true (.int .u8)) Q0)
@[reducible] def Q6:Ty:=(.pair QI Q2)
@[reducible] def Q7:Ty:=(.pair QI Q3)
@[reducible] def Q8:Ty:=(.pair (.list true QI) Q2)
@[reducible] def Q9:Ty:=(.pair QI Q8)
@[reducible] def Q10:Ty:=(.pair Q7 Q3)
@[reducible] def Q11:Ty:=(.pair QL Q10)
@[reducible] def Q12:Ty:=(.pair (.list false Q4) Q11)
@[reducible] def Q13:Ty:=(.pair (.arr 3 QI) Q12)
@[reducible] def Q14:Ty:=(.pair QL Q13)
@[reducible] def Q15:Ty:=(.pair QI Q14)
@[reducible] def Q16:Ty:=(.pair QI Q15)
@[reducible] def Q17:Ty:=(.pair QI Q16)
@[reducible] def Q18:Ty:=(.pair QI Q17)
@[reducible] def Q19:Ty:=(.pair QI Q18)
def c8b:List (Nat×Ty):=[(2,.int .i64),(3,.int .i64),(5,.int .u8),(25,.list false Q19),(30,.list false QL),(33,.int .i64),(38,.list false (.int .u8)),(56,.list false QI),(57,.arr 3 QI),(58,.list false Q4),(60,.pair QI Q3),(62,.pair QI Q18),(70,.int .u64),(90,.pair (.list false (.int .u8)) Q0),(96,.int .u64),(100,.pair (.list false (.int .u8)) .unit),(148,.pair QI Q0),(220,.arr 64 (.int .u8)),(248,.list false (.arr 3 QI)),(252,.pair QI (.pair QL Q3)),(254,.pair QI (.pair QL Q3))]
def T0:Nat→Option Ty:=fun t=>find c8b t
def d2e:List Nat:=[57,148]
def d9R:Nat→Bool:=fun t=>d2e.contains t
def c8X:List Nat:=[]
def d9S:Nat→Bool:=fun t=>c8X.contains t
def b3T:(List Int):=[0,1,56,2,57,49,28,3,61,58,42,50,38,29,17,4,62,47,59,36,45,43,51,22,53,39,33,30,24,18,12,5,63,55,48,27,60,41,37,16,46,35,44,21,52,32,23,11,54,26,40,15,34,20,31,10,25,14,19,9,13,8,7,6]
def G0:Nat→Option ((t:Ty)×t.den):=fun g=>find ([(0,⟨.arr 64 (.int .u8),b3T⟩)]:List (Nat×((t:Ty)×t.den))) g
@[reducible] def c3G(a:List (Nat×FSem))(b:List (Nat×Ty))(c d:List Nat):Cx:=⟨d9S,d9R,T0,fun f=>find a f,fun n=>find b n,fun i=>c.contains i,fun i=>d.contains i,G0⟩
def a3s(s:Z14):Option Z65:= cond (decide (s.2.2.1<s.2.1)) ((a0r s.1 s.2.2.1).bind fun x1=> (show Option Z32 from cond (decide (x1<(-1073741824))) (some (s.1,s.2.1,s.2.2.1,true,())) (some (s.1,s.2.1,s.2.2.1,decide (x1≥1073741824),()))).bind fun z2=> cond z2.2.2.2.1 (some (.inr (Sum.inr ((false,()))))) (some (.inl (z2.1,z2.2.1,wrap .i64 (z2.2.2.1+1),())))) (some (.inr (Sum.inl ())))
def a2O(x:(List Int)):Option Bool:= (a0e a3s (x,(x.length:Int),0,())).bind fun w3=> match w3 with |.inl a4=>some true |.inr b5=>some b5.1
def b1k:FSem:=⟨[.v QL],[.v .bool],a2O⟩
def H90:Hints:=⟨[(26,[.sv 5 QL,.sv 6 QI,.sv 7 QI],[(.exit 0,[]),(.ret,[.sv 2 .bool])])],[(1689,[(.normal,[.sv 5 QL,.sv 6 QI,.sv 7 QI,.sv 16 .bool])])],[]⟩
def a6D(x:Int):Option Bool:= cond (decide ((-1073741824)≤x)) (some (decide (x<1073741824))) (some false)
def b4L:FSem:=⟨[.v QI],[.v .bool],a6D⟩
def d9T:Hints:=⟨[],[],[]⟩
def a8i(s:Z56):Option (Z56 ⊕ Z45):= cond (decide (s.2.2.2.1<s.2.2.1)) ((a0r s.2.1 s.2.2.2.1).bind fun x2=> (show Option (Int×Int×Z61)from(a6D x2).bind fun y3=> cond (!y3) (some (s.1,x2,s.2.1,s.2.2.1,s.2.2.2.1,true,s.2.2.2.2.1,())) (cond (decide (s.1<0)) none (cond ((a0F .i64 1 s.1)==0) none (some (s.1,x2,s.2.1,s.2.2.1,s.2.2.2.1,(a34 x2 (a0F .i64 1 s.1)) != 0,s.2.2.2.2.1,()))))).bind fun z4=> cond z4.2.2.2.2.2.1 (some (.inr (Sum.inr ((6,[],()))))) (cond (decide (z4.1<0)) none (cond (lim ((a03 z4.2.2.2.2.2.2.1)+1)) (some (.inl (z4.1,z4.2.2.1,z4.2.2.2.1,wrap .i64 (z4.2.2.2.2.1+1),a04 z4.2.2.2.2.2.2.1 [a0l .i64 z4.2.1 z4.1],()))) none))) (some (.inr (Sum.inl (s.2.2.2.2.1,()))))
def a8F(x:((List Int)×Int)):Option ((List Int)×Int):= (show Option Z18 from cond (decide (x.2<0)) (some (x.1,x.2,true,())) (some (x.1,x.2,decide (x.2 > 30),()))).bind fun z1=> cond z1.2.2.1 (some ([],1)) ((a0e a8i (z1.2.1,z1.1,(z1.1.length:Int),0,[],())).bind fun w5=> match w5 with |.inl a6=>some (a6.1,0) |.inr b7=>some (b7.2.1,b7.1))
def b4M:FSem:=⟨[.v QL,.v QI],[.o QI,.v QI],a8F⟩
def H91:Hints:=⟨[(122,[.sv 1 QI,.sv 15 QL,.sv 16 QI,.sv 17 QI,.own 6 6 QI],[(.exit 0,[.own 6 6 QI]),(.ret,[.sv 5 QI,.own 4 4 QI])])],[(6,[(.normal,[.sv 0 QL,.sv 1 QI,.sv 14 .bool])]),(15666,[(.normal,[.sv 1 QI,.sv 8 QI,.sv 15 QL,.sv 16 QI,.sv 17 QI,.sv 30 .bool,.own 6 6 QI])])],[]⟩
def a2m(x:Int):Option Int:= cond (x==0) (some 64) ((a0r b3T (a0l .u64 (wrap .u64 ((bits .u64 .and x (wrap .u64 (0-x)))*285870213051353865)) 58)).bind fun x1=> some (wrap .i64 x1))
def a1r:FSem:=⟨[.v (.int .u64)],[.v QI],a2m⟩
def c6b:Hints:=⟨[],[],[]⟩
def b2q:Cx:=c3G [] [] [0,2] []
theorem c2N{ρ:Type}{cx:Cx}{ops:List Oper}:∀(l1 l2:List (Md×Oper)) (Γ:AE) (K:AE→Rs ρ),a7t cx ops (l1++l2) Γ K=a7t cx ops l1 Γ fun Γ'=>a7t cx ops l2 Γ' K
 | [],_,_,_=>rfl
 |(md,o)::l1,l2,Γ,K=>by
  simp only[a26,a7t];congr 1;funext Γ';exact c2N l1 l2 Γ' K
theorem c1f{ρ:Type}{cx:Cx}{H:Hints}{a b:Code}{p:Nat}(h:find H.cuts p=none)(Γ:AE)(K:Ex→AE→Rs ρ):a1R cx H (.seq a b) p Γ K=a1R cx H a (2*p) Γ fun e Γ'=>match e with
   |.normal=>a1R cx H b (2*p+1) Γ' K
   |e=>K e Γ':=by
 simp only[a1R,h];rfl
theorem c8Y{ρ:Type}{cx:Cx}{H:Hints}{id:Nat}{ops:Array Oper}{p:Nat}(Γ:AE)(K:Ex→AE→Rs ρ):a1R cx H (.region id ops false) p Γ K=a7t cx ops.toList (ops.toList.map fun o=>(.x,o)) Γ fun Γ'=>K .normal Γ':=by
 simp only[a1R,cF]
def b1Z:Code:=match Tryz.f174.body with
 |some c=>c
 |none=>.skip
def c6c:Code→Code
 |.seq a _=>a
 |c=>c
def d2f:Code→Code
 |.seq _ b=>b
 |c=>c
def d3S:Code→Array Oper
 |.region _ ops _=>ops
 |_=>#[]
def d0W:Code:=d2f (d2f b1Z)
def b6f:List Oper:=(d3S (c6c d0W)).toList
def Γ174(x:Int):AE:=(((ini [.v (.int .u64)] x).set 2 (.val QI (0:Int))).set 3 (.val (.int .u64) x)).set 4 (.val .bool (x==(0:Int)))
def Γ174r(x:Int):AE:=(Γ174 x).set 2 (.val QI (64:Int))
def c8Z(e:Ex)(Γ:AE):Option Int:=match e,Γ.pd with
  |.exit _,_=>none
  |_,some _=>none
  |_,none=>(Γ.upto Tryz.f174.ntmps).outs b2q [] Tryz.f174.ntmps [.v QI] (Tryz.f174.results.toList.map .inl) fun y _=>some y
def Γ174b(x a b c i:Int):AE:=((((((Γ174 x).set 5 (.val (.int .u64) x)).set 6 (.val (.int .u64) x)).set 7 (.val (.int .u64) a)).set 8 (.val (.int .u64) b)).set 9 (.val (.int .u64) c)).set 10 (.val (.int .u64) i)
set_option maxRecDepth 100000
theorem d4V:b1Z=.seq (c6c b1Z) (.seq (c6c (d2f b1Z)) (.seq (.region 3 (d3S (c6c d0W)) false) .ret)):=by kernel_rfl
theorem d6P(x:Int):c0D b2q c6b Tryz.f174 a1r.ps a1r.rs x=a1R b2q c6b b1Z 1 (ini [.v (.int .u64)] x) c8Z:=rfl
theorem d6Q(x:Int)(K:Ex→AE→Option Int):a1R b2q c6b (c6c b1Z) 2 (ini [.v (.int .u64)] x) K=K .normal ((ini [.v (.int .u64)] x).set 2 (.val (.int .i64) (0:Int))):=by kernel_rfl
theorem d6R(x:Int)(K:Ex→AE→Option Int):a1R b2q c6b (c6c (d2f b1Z)) 6 ((ini [.v (.int .u64)] x).set 2 (.val (.int .i64) (0:Int))) K=bif x==(0:Int)then K .ret (Γ174r x)else K .normal (Γ174 x):=by kernel_rfl
theorem d6S(x:Int):c8Z .ret (Γ174r x)=some (64:Int):=by kernel_rfl
theorem d6T(x:Int)(K:AE→Option Int):a7t b2q b6f ((b6f.map fun o=>(Md.x,o)).take 6) (Γ174 x) K =
  K (Γ174b x (wrap .u64 (0-x)) (bits .u64 .and x (wrap .u64 (0-x))) (wrap .u64 ((bits .u64 .and x (wrap .u64 (0-x)))*(285870213051353865:Int))) (a0l .u64 (wrap .u64 ((bits .u64 .and x (wrap .u64 (0-x)))*(285870213051353865:Int))) (58:Int))):=by kernel_rfl
theorem d6U(x a b c i:Int):a7t b2q b6f ((b6f.map fun o=>(Md.x,o)).drop 6) (Γ174b x a b c i) (fun Γ=>c8Z .ret Γ)=(a0r b3T i).bind fun x1=>some (wrap .i64 x1):=by kernel_rfl
theorem d6V(x:Int):a7t b2q b6f (b6f.map fun o=>(Md.x,o)) (Γ174 x) (fun Γ=>c8Z .ret Γ)=(a0r b3T (a0l .u64 (wrap .u64 ((bits .u64 .and x (wrap .u64 (0-x)))*(285870213051353865:Int))) (58:Int))).bind fun x1=>some (wrap .i64 x1):=by
 rw[←List.take_append_drop 6 (b6f.map fun o=>(Md.x,o)),c2N,d6T,d6U]
theorem d7u(x:Int):a1R b2q c6b b1Z 1 (ini [.v (.int .u64)] x) c8Z=a2m x:=by
 rw[d4V,c1f rfl,d6Q];simp only[];rw[c1f rfl,d6R];simp only[];rw[c1f rfl,c8Y];simp only[a1R];rw[d6S];exact congrArg (fun z=>bif x==(0:Int)then some (64:Int)else z) (d6V x)
theorem d7R(x):c0D b2q c6b Tryz.f174 a1r.ps a1r.rs x=a1r.F x:=(d6P x).trans (d7u x)
def a6T(s:Z29):Option (Z29 ⊕ (Int×Unit)):= cond (decide (s.2.2.2.1<s.2.2.1)) ((a0r s.2.1 s.2.2.2.1).bind fun x1=> some (.inl (bits .i64 .or s.1 x1,s.2.1,s.2.2.1,wrap .i64 (s.2.2.2.1+1),()))) (some (.inr (s.1,())))
def a5i(x:(List Int)):Option Int:= (a0e a6T (0,x,(x.length:Int),0,())).bind fun w2=> cond (w2.1==0) (some 0) ((a2m (wrap .u64 w2.1)).bind fun y3=> some (a2v y3 30))
def b2r:FSem:=⟨[.v QL],[.v QI],a5i⟩
def H92:Hints:=⟨[(58,[.sv 3 QI,.sv 6 QL,.sv 7 QI,.sv 8 QI],[(.exit 0,[.sv 3 QI])])],[],[]⟩
def a5j(s:Z14):Option Z65:= cond (decide (s.2.2.1<s.2.1)) ((a0r s.1 s.2.2.1).bind fun x2=> (show Option Z32 from cond (decide (x2<(-32768))) (some (s.1,s.2.1,s.2.2.1,true,())) (some (s.1,s.2.1,s.2.2.1,decide (x2≥32768),()))).bind fun z3=> cond z3.2.2.2.1 (some (.inr (Sum.inr ((false,()))))) (some (.inl (z3.1,z3.2.1,wrap .i64 (z3.2.2.1+1),())))) (some (.inr (Sum.inl ())))
def a6i(x:((List Int)×Int)):Option Bool:= (show Option Z7 from cond (decide ((x.1.length:Int)<1)) (some (x.1,true,())) (cond (decide ((x.1.length:Int) > 32)) (some (x.1,true,())) (cond (decide (x.2<0)) (some (x.1,true,())) (some (x.1,decide (x.2 > 15),()))))).bind fun z1=> cond z1.2.1 (some false) ((a0e a5j (z1.1,(z1.1.length:Int),0,())).bind fun w4=> match w4 with |.inl a5=>some true |.inr b6=>some b6.1)
def b2t:FSem:=⟨[.v QL,.v QI],[.v .bool],a6i⟩
def d9U:Hints:=⟨[(58,[.sv 23 QL,.sv 24 QI,.sv 25 QI],[(.exit 0,[]),(.ret,[.sv 4 .bool])])],[(6,[(.normal,[.sv 0 QL,.sv 22 .bool])]),(3737,[(.normal,[.sv 23 QL,.sv 24 QI,.sv 25 QI,.sv 34 .bool])])],[]⟩
def a6E(s:Z4):Option Z54:= cond (decide (s.2.1<3)) ((a0r s.1 s.2.1).bind fun x2=> (show Option Z18 from cond (decide (x2<(-64))) (some (s.1,s.2.1,true,())) (some (s.1,s.2.1,decide (x2 > 64),()))).bind fun z3=> cond z3.2.2.1 (some (.inr (Sum.inr ((false,()))))) (some (.inl (z3.1,wrap .i64 (z3.2.1+1),())))) (some (.inr (Sum.inl ())))
def b0d(x:(Int×(List Int))):Option Bool:= (show Option Z6 from cond (decide (x.1<2)) (some (true,x.2,())) (some (decide (x.1 > 1024),x.2,()))).bind fun z1=> cond z1.1 (some false) ((a0e a6E (z1.2.1,0,())).bind fun w4=> match w4 with |.inl a5=>some true |.inr b6=>some b6.1)
def b5r:FSem:=⟨[.v QI,.v (.arr 3 QI)],[.v .bool],b0d⟩
def d9V:Hints:=⟨[(58,[.sv 13 (.arr 3 QI),.sv 14 QI],[(.exit 0,[]),(.ret,[.sv 4 .bool])])],[(6,[(.normal,[.sv 12 .bool,.vp 3 (.arr 3 QI)])]),(3737,[(.normal,[.sv 13 (.arr 3 QI),.sv 14 QI,.sv 22 .bool])])],[]⟩
def a8G(x:(Int×Int×Unit)):Option Bool:= cond (decide (x.1≥1)) (cond (decide (x.1≤32)) (cond (decide (x.2.1≥0)) (some (decide (x.2.1≤8))) (some false)) (some false)) (some false)
def b4N:FSem:=⟨[.v Q4],[.v .bool],a8G⟩
def d9W:Hints:=⟨[],[],[]⟩
def a7Q(s:(Z5×Int×Int×Unit)):Option ((Z5×Int×Int×Unit) ⊕ Z0):= cond (decide (s.2.2.1<s.2.1)) ((a0r s.1 s.2.2.1).bind fun x1=> (a8G x1).bind fun y2=> cond (!y2) (some (.inr (Sum.inr ((false,()))))) (some (.inl (s.1,s.2.1,wrap .i64 (s.2.2.1+1),())))) (some (.inr (Sum.inl ())))
def a8V(x:Z5):Option Bool:= cond (decide ((x.length:Int) > 3)) (some false) ((a0e a7Q (x,(x.length:Int),0,())).bind fun w3=> match w3 with |.inl a4=>some true |.inr b5=>some b5.1)
def b3U:FSem:=⟨[.v (.list false Q4)],[.v .bool],a8V⟩
def d9X:Hints:=⟨[(58,[.sv 8 (.list false Q4),.sv 9 QI,.sv 10 QI],[(.exit 0,[]),(.ret,[.sv 2 .bool])])],[],[]⟩
def b4x(x:(Int×a9G)):Option Bool:= (show Option d1X from cond (x.1==0) (some (x.2.2,x.1,x.1==0,x.2.1,())) (some (x.2.2,x.1,x.1==1,x.2.1,()))).bind fun z1=> cond z1.2.2.1 (some true) (cond (z1.2.1==2) (cond (decide (z1.2.2.2.1.2.2.1≥0)) (cond (decide (z1.2.2.2.1.2.2.1≤4)) (some (decide (z1.2.2.2.1.2.2.1≤z1.1))) (some false)) (some false)) (cond (z1.2.1==3) ((a6i (z1.2.2.2.1.2.2.2.2.2.1,z1.2.2.2.1.2.2.2.1)).bind fun y2=> cond y2 (some (decide ((z1.2.2.2.1.2.2.2.2.2.1.length:Int)≤z1.1))) (some false)) (cond (z1.2.1==4) ((a6i (z1.2.2.2.1.2.2.2.2.2.1,z1.2.2.2.1.2.2.2.1)).bind fun y3=> cond y3 (cond (decide ((z1.2.2.2.1.2.2.2.2.2.1.length:Int)≤z1.1)) ((b0d (z1.2.2.2.1.2.2.2.2.1,z1.2.2.2.1.2.2.2.2.2.2.1)).bind fun y4=> some y4) (some false)) (some false)) (cond (z1.2.1==5) (cond (decide ((z1.2.2.2.1.2.2.2.2.2.2.2.1.length:Int) > 0)) ((a8V z1.2.2.2.1.2.2.2.2.2.2.2.1).bind fun y5=> some y5) (some false)) (some false)))))
def c1g:FSem:=⟨[.v QI,.v Q19,.v QI],[.v .bool],b4x⟩
def d9Y:Hints:=⟨[],[(26,[(.normal,[.sv 2 QI,.sv 7 QI,.sv 8 .bool,.vp 4 Q19])])],[]⟩
def a1C(x:(List Int)):Option (List Int):= b6a x
def a1l:FSem:=⟨[.v QL],[.o QI],a1C⟩
def H87:Hints:=⟨[],[],[]⟩
def d7v:Cx:=c3G [] [] [0,2] []
theorem d9Z(x):c0D d7v H87 Tryz.f87 a1l.ps a1l.rs x=a1l.F x:=Eq.trans (show _=c1c x by kernel_rfl) (b9u x)
def a5r(x:(List Int)):Option (List Int):= b6a x
def a2w:FSem:=⟨[.v QL],[.v QL],a5r⟩
def e0a:Hints:=⟨[],[],[]⟩
def d5G:Cx:=c3G [] [] [0,2] []
theorem d7S(x):c0D d5G e0a Tryz.f87 a2w.ps a2w.rs x=a2w.F x:=Eq.trans (show _=c1c x by kernel_rfl) (b9u x)
def a1M(x:Z5):Option Z5:= b6a x
def a1j:FSem:=⟨[.v (.list false Q4)],[.v (.list false Q4)],a1M⟩
def d7T:Hints:=⟨[],[],[]⟩
def d3T:Cx:=c3G [] [] [0,2] []
theorem d7w(x):c0D d3T d7T Tryz.f229 a1j.ps a1j.rs x=a1j.F x:=Eq.trans (show _=c1c x by kernel_rfl) (b9u x)
def a7R(x:(Int×a2a)):Option a2a:= (show Option b3z from(show Option (d2d ⊕ (b3z ⊕ d2d))from cond (x.1==2) (some (Sum.inr (Sum.inl ((0,0,0,0,0,[],a00 3 0,[],[],(0,[],()),[],()),(x.1,0,x.2.2.2.1,0,0,[],a00 3 0,[],[],(0,[],()),[],()),())))) (cond (x.1==4) (some (Sum.inl ((0,0,0,0,0,[],a00 3 0,[],[],(0,[],()),[],()),(x.1,0,0,0,x.2.2.2.2.2.1,[],x.2.2.2.2.2.2.2.1,[],[],(0,[],()),[],()),x.2,()))) (cond (x.1==3) (some (Sum.inl ((0,0,0,0,0,[],a00 3 0,[],[],(0,[],()),[],()),(x.1,0,0,0,0,[],a00 3 0,[],[],(0,[],()),[],()),x.2,()))) (cond (x.1==5) (some (Sum.inr (Sum.inr (((0,0,0,0,0,[],a00 3 0,[],[],(0,[],()),[],()),(x.1,0,0,0,0,[],a00 3 0,[],[],(0,[],()),[],()),x.2,()))))) (some (Sum.inr (Sum.inl ((0,0,0,0,0,[],a00 3 0,[],[],(0,[],()),[],()),(x.1,0,0,0,0,[],a00 3 0,[],[],(0,[],()),[],()),())))))))).bind fun z1=> match z1 with |.inl a2=>((a5r a2.2.2.1.2.2.2.2.2.1).bind fun y4=> some (a2.1,(a2.2.1.1,a2.2.1.2.1,a2.2.1.2.2.1,a2.2.2.1.2.2.2.1,a2.2.1.2.2.2.2.1,y4,a2.2.1.2.2.2.2.2.2),())) |.inr b3=>(match b3 with |.inl a5=>some (a5.1,a5.2.1,()) |.inr b6=>((a1M b6.2.2.1.2.2.2.2.2.2.2.1).bind fun y7=> some (b6.1,(b6.2.1.1,b6.2.1.2.1,b6.2.1.2.2.1,b6.2.1.2.2.2.1,b6.2.1.2.2.2.2.1,b6.2.1.2.2.2.2.2.1,b6.2.1.2.2.2.2.2.2.1,y7,b6.2.1.2.2.2.2.2.2.2.2),())))).bind fun z8=> some z8.2.1
def b6g:FSem:=⟨[.v QI,.v Q19],[.v Q19],a7R⟩
def e0b:Hints:=⟨[],[(7,[(.normal,[.box 4 Q19,.box 5 Q19,.ptr 4 4 [],.ptr 5 5 []])]),(232,[(.normal,[.box 4 Q19,.box 5 Q19,.vp 3 Q19,.ptr 4 4 [],.ptr 5 5 []]),(.exit 0,[.box 4 Q19,.box 5 Q19,.ptr 4 4 [],.ptr 5 5 []]),(.exit 4,[.box 4 Q19,.box 5 Q19,.vp 3 Q19,.ptr 4 4 [],.ptr 5 5 []])])],[(8,[.v,.v,.v,.v,.q,.w [0,5],.x,.x]),(9,[.v,.v,.v,.v,.v,.q,.w [0,5],.x,.x])]⟩
def a9H(x:a9G):Option Int:= cond (x.1.1==0) (some 1) (cond (x.1.1==1) (some x.2) (cond (x.1.1==2) (some x.1.2.2.1) ((show Option d1V from cond (x.1.1==3) (some (x.1.1==3,x.1,())) (some (x.1.1==4,x.1,()))).bind fun z1=> cond z1.1 (some (z1.2.1.2.2.2.2.2.1.length:Int)) (some 0))))
def b6h:FSem:=⟨[.v Q19,.v QI],[.v QI],a9H⟩
def e0c:Hints:=⟨[],[(1727,[(.normal,[.sv 16 .bool,.vp 2 Q19])])],[]⟩
def b6Z(s:Z14):Option Z65:= cond (decide (s.2.2.1<s.2.1)) ((a0r s.1 s.2.2.1).bind fun x1=> (show Option Z32 from cond (decide (x1<(-1073741824))) (some (s.1,s.2.1,s.2.2.1,true,())) (some (s.1,s.2.1,s.2.2.1,decide (x1≥1073741824),()))).bind fun z2=> cond z2.2.2.2.1 (some (.inr (Sum.inr ((false,()))))) (some (.inl (z2.1,z2.2.1,wrap .i64 (z2.2.2.1+1),())))) (some (.inr (Sum.inl ())))
def a3j(x:(List Int)):Option Bool:= (a0e b6Z (x,(x.length:Int),0,())).bind fun w3=> match w3 with |.inl a4=>some true |.inr b5=>some b5.1
def b6i:FSem:=⟨[.v QL],[.v .bool],a3j⟩
def e0d:Hints:=⟨[(26,[.sv 5 QL,.sv 6 QI,.sv 7 QI],[(.exit 0,[]),(.ret,[.sv 2 .bool])])],[(1689,[(.normal,[.sv 5 QL,.sv 6 QI,.sv 7 QI,.sv 16 .bool])])],[]⟩
def a6U(s:Z30):Option (Z30 ⊕ Z15):= cond (decide ((wrap .i64 (s.1+1))<(s.2.2.2.1.length:Int))) (cond ((decide (0≤(wrap .i64 (s.1+1))))&&(decide ((wrap .i64 (s.1+1))<(s.2.2.2.1.length:Int)))) (cond ((decide (0≤s.1))&&(decide (s.1<(s.2.2.2.1.length:Int)))) (cond ((decide (0≤s.1))&&(decide (s.1<(s.2.2.2.1.length:Int)))) (some (.inl (wrap .i64 (s.1+1),s.2.1,s.2.2.1,a05 s.2.2.2.1 (a01 s.1) (wrap .i64 ((a02 s.2.2.2.1 (a01 (wrap .i64 (s.1+1))) 0)-(a02 s.2.2.2.1 (a01 s.1) 0))),()))) none) none) none) (some (.inr (s.2.1,s.2.2.1,s.2.2.2.1,())))
def a9j(s:Z15):Option (Z15 ⊕ ((List Int)×Unit)):= cond (decide (s.2.1<s.1)) ((a0e a6U (0,s.1,s.2.1,s.2.2.1,())).bind fun w3=> cond ((decide (0≤(wrap .i64 ((w3.2.2.1.length:Int)-1))))&&(decide ((wrap .i64 ((w3.2.2.1.length:Int)-1))≤(w3.2.2.1.length:Int)))) (cond (decide ((a01 (wrap .i64 ((w3.2.2.1.length:Int)-1)))≤(a03 w3.2.2.1))) (some (.inl (w3.1,wrap .i64 (w3.2.1+1),a07 (a01 (wrap .i64 ((w3.2.2.1.length:Int)-1))) w3.2.2.1,()))) none) none) (some (.inr (s.2.2.1,())))
def a3W(x:((List Int)×Int)):Option ((List Int)×Int):= (show Option Z18 from cond (decide (x.2<0)) (some (x.1,x.2,true,())) (cond (decide (x.2 > 4)) (some (x.1,x.2,true,())) (some (x.1,x.2,decide ((x.1.length:Int)<x.2),())))).bind fun z1=> cond z1.2.2.1 (some ([],1)) ((a3j z1.1).bind fun y2=> cond (!y2) (some ([],6)) (cond (lim (a03 z1.1)) ((a0e a9j (z1.2.1,0,z1.1,())).bind fun w4=> (a3j w4.1).bind fun y5=> cond (!y5) (some ([],6)) (some (w4.1,0))) none))
def b6j:FSem:=⟨[.v QL,.v QI],[.o QI,.v QI],a3W⟩
def e0e:Hints:=⟨[(250,[.sv 25 QI,.sv 26 QI,.own 6 6 QI],[(.exit 0,[.own 6 6 QI])]),(64098,[.sv 7 QI,.sv 25 QI,.sv 26 QI,.own 6 6 QI],[(.exit 2,[.sv 25 QI,.sv 26 QI,.own 6 6 QI])])],[(6,[(.normal,[.sv 0 QL,.sv 1 QI,.sv 19 .bool])])],[(11,[.q,.v,.q,.v,.v,.q,.q,.q,.v,.q,.q,.v,.x,.x])]⟩
def a6F(x:Int):Option Bool:= cond (decide (x≥(-1073741824))) (some (decide (x<1073741824))) (some false)
def b1l:FSem:=⟨[.v QI],[.v .bool],a6F⟩
def e0f:Hints:=⟨[],[],[]⟩
def a4x(s:Z14):Option Z65:= cond (decide (s.2.2.1<s.2.1)) ((a0r s.1 s.2.2.1).bind fun x1=> (a6F x1).bind fun y2=> cond (!y2) (some (.inr (Sum.inr ((false,()))))) (some (.inl (s.1,s.2.1,wrap .i64 (s.2.2.1+1),())))) (some (.inr (Sum.inl ())))
def a3t(x:(List Int)):Option Bool:= (a0e a4x (x,(x.length:Int),0,())).bind fun w3=> match w3 with |.inl a4=>some true |.inr b5=>some b5.1
def a8j:FSem:=⟨[.v QL],[.v .bool],a3t⟩
def e0g:Hints:=⟨[(26,[.sv 5 QL,.sv 6 QI,.sv 7 QI],[(.exit 0,[]),(.ret,[.sv 2 .bool])])],[],[]⟩
def a4y(s:Z70):Option (Z70 ⊕ (Int×Int×Unit)):= cond (decide (s.2.2.2.2.2.1<s.2.2.2.2.1)) ((a0r s.2.2.2.1 s.2.2.2.2.2.1).bind fun x1=> cond (decide ((wrap .i64 ((wrap .i64 ((s.1.length:Int)-1))-s.2.2.2.2.2.1))<0)) (some (.inr (s.2.1,s.2.2.1,()))) ((a0r s.1 (wrap .i64 ((wrap .i64 ((s.1.length:Int)-1))-s.2.2.2.2.2.1))).bind fun x2=> some (.inl (s.1,s.2.1,wrap .i64 (s.2.2.1+(wrap .i64 (x1*x2))),s.2.2.2.1,s.2.2.2.2.1,wrap .i64 (s.2.2.2.2.2.1+1),())))) (some (.inr (s.2.1,s.2.2.1,())))
def a6j(x:Z11):Option Int:= (a0e a4y (x.1,x.2.2,0,x.2.1,(x.2.1.length:Int),0,())).bind fun w3=> cond (decide (w3.1<0)) none (some (a0l .i64 w3.2.1 w3.1))
def b1N:FSem:=⟨[.v QL,.v QL,.v QI],[.v QI],a6j⟩
def e0h:Hints:=⟨[(58,[.sv 0 QL,.sv 2 QI,.sv 7 QI,.sv 11 QL,.sv 12 QI,.sv 13 QI],[(.exit 0,[.sv 2 QI,.sv 7 QI])])],[],[]⟩
def a6k(s:Z66):Option (Z66 ⊕ Z45):= cond (decide (s.2.2.2.1<(s.1.length:Int))) ((a0r s.1 s.2.2.2.1).bind fun x4=> cond ((decide (0≤s.2.2.2.1))&&(decide (s.2.2.2.1≤(s.1.length:Int)))) ((a6j (a07 (a01 s.2.2.2.1) s.1,s.2.1,s.2.2.1)).bind fun y5=> (a6F (wrap .i64 (x4-y5))).bind fun y6=> cond (!y6) (some (.inr (Sum.inr ((6,[],()))))) (cond (lim ((a03 s.2.2.2.2.1)+1)) (some (.inl (s.1,s.2.1,s.2.2.1,wrap .i64 (s.2.2.2.1+1),a04 s.2.2.2.2.1 [wrap .i64 (x4-y5)],()))) none)) none) (some (.inr (Sum.inl (s.2.2.2.2.1,()))))
def a8H(x:Z11):Option ((List Int)×Int):= (show Option Z48 from(a6i (x.2.1,x.2.2)).bind fun y1=> cond (!y1) (some (x.1,x.2.1,x.2.2,true,())) (some (x.1,x.2.1,x.2.2,decide ((x.1.length:Int)<(x.2.1.length:Int)),()))).bind fun z2=> cond z2.2.2.2.1 (some ([],1)) ((a3t z2.1).bind fun y3=> cond (!y3) (some ([],6)) (cond ((decide (0≤(wrap .i64 ((z2.1.length:Int)-(z2.2.1.length:Int)))))&&(lim (a01 (wrap .i64 ((z2.1.length:Int)-(z2.2.1.length:Int)))))) ((a0e a6k (z2.1,z2.2.1,z2.2.2.1,(z2.2.1.length:Int),[],())).bind fun w7=> match w7 with |.inl a8=>some (a8.1,0) |.inr b9=>some (b9.2.1,b9.1)) none))
def c0f:FSem:=⟨[.v QL,.v QL,.v QI],[.o QI,.v QI],a8H⟩
def e0i:Hints:=⟨[(250,[.sv 0 QL,.sv 1 QL,.sv 2 QI,.sv 9 QI,.own 8 8 QI],[(.exit 0,[.own 8 8 QI]),(.ret,[.sv 7 QI,.own 6 6 QI])])],[(6,[(.normal,[.sv 0 QL,.sv 1 QL,.sv 2 QI,.sv 21 .bool])])],[(9,[.v,.v,.v,.v,.v,.v,.v,.v,.v,.v,.x,.x])]⟩
def a8W(x:Int):Option Bool:= cond (decide (x≥(-1073741824))) (some (decide (x<1073741824))) (some false)
def b3V:FSem:=⟨[.v QI],[.v .bool],a8W⟩
def e0j:Hints:=⟨[],[],[]⟩
def a5y(s:Z14):Option Z65:= cond (decide (s.2.2.1<s.2.1)) ((a0r s.1 s.2.2.1).bind fun x1=> (a8W x1).bind fun y2=> cond (!y2) (some (.inr (Sum.inr ((false,()))))) (some (.inl (s.1,s.2.1,wrap .i64 (s.2.2.1+1),())))) (some (.inr (Sum.inl ())))
def a5Z(x:(List Int)):Option Bool:= (a0e a5y (x,(x.length:Int),0,())).bind fun w3=> match w3 with |.inl a4=>some true |.inr b5=>some b5.1
def b0e:FSem:=⟨[.v QL],[.v .bool],a5Z⟩
def e0k:Hints:=⟨[(26,[.sv 5 QL,.sv 6 QI,.sv 7 QI],[(.exit 0,[]),(.ret,[.sv 2 .bool])])],[],[]⟩
def a5z(s:((List Int)×(Int×Int×Z16))):Option (((List Int)×(Int×Int×Z16)) ⊕ (Int×Unit)):= cond (decide (s.2.2.2.2.2.1<3)) ((a0r s.2.2.2.2.1 s.2.2.2.2.2.1).bind fun x1=> cond (decide ((wrap .i64 ((wrap .i64 ((wrap .i64 (s.2.1-s.2.2.1))-1))+s.2.2.2.2.2.1))≥0)) ((a0r s.1 (wrap .i64 ((wrap .i64 ((wrap .i64 (s.2.1-s.2.2.1))-1))+s.2.2.2.2.2.1))).bind fun x2=> some (.inl (s.1,s.2.1,s.2.2.1,wrap .i64 (s.2.2.2.1+(wrap .i64 (x1*x2))),s.2.2.2.2.1,wrap .i64 (s.2.2.2.2.2.1+1),()))) (some (.inl (s.1,s.2.1,s.2.2.1,s.2.2.2.1,s.2.2.2.2.1,wrap .i64 (s.2.2.2.2.2.1+1),())))) (some (.inr (s.2.2.2.1,())))
def a6a(x:((List Int)×Z1)):Option Int:= (a0e a5z (x.1,x.2.1,x.2.2.1,0,x.2.2.2,0,())).bind fun w3=> some (a0l .i64 w3.1 6)
def b3A:FSem:=⟨[.v QL,.v QI,.v QI,.v (.arr 3 QI)],[.v QI],a6a⟩
def e0l:Hints:=⟨[(58,[.sv 0 QL,.sv 1 QI,.sv 2 QI,.sv 9 QI,.sv 13 (.arr 3 QI),.sv 14 QI],[(.exit 0,[.sv 9 QI])])],[],[]⟩
def a7S(s:((List Int)×Z79)):Option (((List Int)×Z79) ⊕ Z45):= cond (decide (s.2.2.2.2.1<s.2.2.2.1)) ((a0r s.2.2.1 s.2.2.2.2.1).bind fun x3=> (a6a (s.1,s.2.2.2.2.1,s.2.1,s.2.2.2.2.2.2.1)).bind fun y4=> (a8W (wrap .i64 (x3-y4))).bind fun y5=> cond (!y5) (some (.inr (Sum.inr ((6,[],()))))) (cond (lim ((a03 s.2.2.2.2.2.1)+1)) (some (.inl (s.1,s.2.1,s.2.2.1,s.2.2.2.1,wrap .i64 (s.2.2.2.2.1+1),a04 s.2.2.2.2.2.1 [wrap .i64 (x3-y4)],s.2.2.2.2.2.2.1,()))) none)) (some (.inr (Sum.inl (s.2.2.2.2.2.1,()))))
def a8X(x:Z12):Option ((List Int)×Int):= (b0d (x.2.1,x.2.2)).bind fun y1=> cond (!y1) (some ([],1)) ((a5Z x.1).bind fun y2=> cond (!y2) (some ([],6)) (cond ((decide (0≤(x.1.length:Int)))&&(lim (a01 (x.1.length:Int)))) ((a0e a7S (x.1,x.2.1,x.1,(x.1.length:Int),0,[],x.2.2,())).bind fun w6=> match w6 with |.inl a7=>some (a7.1,0) |.inr b8=>some (b8.2.1,b8.1)) none))
def b3W:FSem:=⟨[.v QL,.v QI,.v (.arr 3 QI)],[.o QI,.v QI],a8X⟩
def e0m:Hints:=⟨[(250,[.sv 0 QL,.sv 1 QI,.sv 22 QL,.sv 23 QI,.sv 24 QI,.own 8 8 QI,.vp 5 (.arr 3 QI)],[(.exit 0,[.own 8 8 QI]),(.ret,[.sv 7 QI,.own 6 6 QI])])],[],[]⟩
def a7T(x:Int):Option Bool:= cond (decide (x≥(-1073741824))) (some (decide (x<1073741824))) (some false)
def b2u:FSem:=⟨[.v QI],[.v .bool],a7T⟩
def e0n:Hints:=⟨[],[],[]⟩
def a4X(s:Z14):Option Z65:= cond (decide (s.2.2.1<s.2.1)) ((a0r s.1 s.2.2.1).bind fun x1=> (a7T x1).bind fun y2=> cond (!y2) (some (.inr (Sum.inr ((false,()))))) (some (.inl (s.1,s.2.1,wrap .i64 (s.2.2.1+1),())))) (some (.inr (Sum.inl ())))
def a6V(x:(List Int)):Option Bool:= (a0e a4X (x,(x.length:Int),0,())).bind fun w3=> match w3 with |.inl a4=>some true |.inr b5=>some b5.1
def b2v:FSem:=⟨[.v QL],[.v .bool],a6V⟩
def e0o:Hints:=⟨[(26,[.sv 5 QL,.sv 6 QI,.sv 7 QI],[(.exit 0,[]),(.ret,[.sv 2 .bool])])],[],[]⟩
def b0Q(x:(Int×Int×Unit)):Option Z43:= (a8G x).bind fun y1=> cond (!y1) none (cond ((decide (0≤x.1))&&((decide (x.1≤x.1))&&(lim (a01 x.1)))) (cond ((decide (0≤x.1))&&((decide (x.1≤x.1))&&(lim (a01 x.1)))) (some ((x.2.1,a00 (a01 x.1) 0,a00 (a01 x.1) 0,()),0)) none) none)
def b7W:FSem:=⟨[.v Q4],[.b Q9,.v QI],b0Q⟩
def e0p:Hints:=⟨[],[],[(3,[.v,.v,.v,.v,.q,.v,.v,.q,.x,.x,.x,.x])]⟩
def a6W(x:Int):Option Int:= some (a2v (a1D x (-1073741824)) 1073741823)
def b2w:FSem:=⟨[.v QI],[.v QI],a6W⟩
def e0q:Hints:=⟨[],[],[]⟩
def a4u(s:Z83):Option (Z83 ⊕ Z62):= cond (decide (s.2.2.1<s.2.1)) (cond ((decide (0≤s.2.2.1))&&(decide (s.2.2.1<(s.2.2.2.1.2.1.length:Int)))) (cond ((decide (0≤s.2.2.1))&&(decide (s.2.2.1<(s.2.2.2.1.2.2.1.length:Int)))) (some (.inl (wrap .i64 (s.1+(wrap .i64 ((a02 s.2.2.2.1.2.1 (a01 s.2.2.1) 0)*(a02 s.2.2.2.1.2.2.1 (a01 s.2.2.1) 0)))),s.2.1,wrap .i64 (s.2.2.1+1),s.2.2.2.1,()))) none) none) (some (.inr (s.1,s.2.2.2.1,())))
def a2R(x:Z26):Option Z42:= (a0e a4u (0,(x.2.1.length:Int),0,x,())).bind fun w1=> (a6W (a0l .i64 w1.1 16)).bind fun y2=> some (y2,w1.2.1)
def a5K:FSem:=⟨[.r false (.b Q9)],[.v QI],a2R⟩
def e0r:Hints:=⟨[(58,[.sv 3 QI,.sv 10 QI,.sv 11 QI,.box pinned Q9,.ptr 0 pinned [],.ref 9 pinned [.snd,.fst]],[(.exit 0,[.sv 3 QI,.box pinned Q9])])],[],[]⟩
def a3k(s:(Int×Z83)):Option ((Int×Z83) ⊕ Z62):= cond (decide (s.2.2.2.1<s.2.2.1)) (cond ((decide (0≤s.2.2.2.1))&&(decide (s.2.2.2.1<(s.2.2.2.2.1.2.2.1.length:Int)))) (cond ((decide (0≤s.2.2.2.1))&&(decide (s.2.2.2.1<(s.2.2.2.2.1.2.1.length:Int)))) ((show Option (Int×Int×Int×Z83)from cond (decide ((a02 s.2.2.2.2.1.2.2.1 (a01 s.2.2.2.1) 0) > 0)) (some (s.1,s.2.1,s.2.2.2.1,wrap .i64 ((a02 s.2.2.2.2.1.2.1 (a01 s.2.2.2.1) 0)+s.2.1),s.2.2.1,s.2.2.2.1,s.2.2.2.2.1,())) (cond (decide ((a02 s.2.2.2.2.1.2.2.1 (a01 s.2.2.2.1) 0)<0)) (some (s.1,s.2.1,s.2.2.2.1,wrap .i64 ((a02 s.2.2.2.2.1.2.1 (a01 s.2.2.2.1) 0)-s.2.1),s.2.2.1,s.2.2.2.1,s.2.2.2.2.1,())) (some (s.1,s.2.1,s.2.2.2.1,a02 s.2.2.2.2.1.2.1 (a01 s.2.2.2.1) 0,s.2.2.1,s.2.2.2.1,s.2.2.2.2.1,())))).bind fun z4=> cond ((decide (0≤z4.2.2.1))&&(decide (z4.2.2.1<(z4.2.2.2.2.2.2.1.2.1.length:Int)))) (some (.inl (z4.1,z4.2.1,z4.2.2.2.2.1,wrap .i64 (z4.2.2.2.2.2.1+1),(z4.2.2.2.2.2.2.1.1,a05 z4.2.2.2.2.2.2.1.2.1 (a01 z4.2.2.1) (a2v (a1D z4.2.2.2.1 (-1048576)) 1048576),z4.2.2.2.2.2.2.1.2.2),()))) none) none) none) (some (.inr (s.1,s.2.2.2.2.1,())))
def a4z(x:Z43):Option Z26:= (a6W x.2).bind fun y1=> (show Option Z74 from(a2R x.1).bind fun y2=> cond (decide (y1 > y2.1)) (cond (decide (y2.2.1<0)) none (some (y1,a0F .i64 1 y2.2.1,y2.2,()))) (cond (decide (y1<y2.1)) (cond (decide (y2.2.1<0)) none (some (y1,wrap .i64 (0-(a0F .i64 1 y2.2.1)),y2.2,()))) (some (y1,0,y2.2,())))).bind fun z3=> (a0e a3k (z3.1,z3.2.1,(z3.2.2.1.2.2.1.length:Int),0,z3.2.2.1,())).bind fun w5=> cond (decide (1≤(w5.2.1.2.2.1.length:Int))) (cond (decide (0<(a03 (b5l w5.2.1.2.2.1 1 ((a03 w5.2.1.2.2.1)-1) w5.2.1.2.2.1):Int))) (some (w5.2.1.1,w5.2.1.2.1,a05 (b5l w5.2.1.2.2.1 1 ((a03 w5.2.1.2.2.1)-1) w5.2.1.2.2.1) 0 w5.1,w5.2.1.2.2.2)) none) none
def a9f:FSem:=⟨[.r false (.b Q9),.v QI],[],a4z⟩
def e0s:Hints:=⟨[(122,[.sv 1 QI,.sv 4 QI,.sv 36 QI,.sv 37 QI,.box pinned Q9,.ptr 0 pinned [],.ref 35 pinned [.snd,.snd,.fst]],[(.exit 1,[.sv 1 QI,.box pinned Q9,.ptr 0 pinned []])])],[(7,[(.normal,[.sv 1 QI,.sv 4 QI,.box pinned Q9,.ptr 0 pinned []])]),(15667,[(.normal,[.sv 1 QI,.sv 4 QI,.sv 6 QI,.sv 8 QI,.sv 36 QI,.sv 37 QI,.box pinned Q9,.ptr 0 pinned [],.ref 35 pinned [.snd,.snd,.fst]])])],[(17,[.p,.p,.q,.q,.q,.p,.p,.q,.q,.x])]⟩
def a6X(s:(Z5×Int×Int×Z87)):Option ((Z5×Int×Int×Z87) ⊕ ((Z5×Z15) ⊕ Z3)):= cond (decide (s.2.2.2.2.1<s.2.2.2.1)) (cond ((decide (0≤s.2.2.2.2.1))&&(decide (s.2.2.2.2.1<(s.2.2.2.2.2.1.length:Int)))) ((a2R s.2.2.2.2.2.2.1).bind fun y6=> (a7T (wrap .i64 ((a02 s.2.2.2.2.2.1 (a01 s.2.2.2.2.1) 0)-y6.1))).bind fun y7=> cond (!y7) (some (.inr (Sum.inr ((6,[],()))))) ((a4z (y6.2,a02 s.2.2.2.2.2.1 (a01 s.2.2.2.2.1) 0)).bind fun y8=> cond ((decide (0≤s.2.2.2.2.1))&&(decide (s.2.2.2.2.1<(s.2.2.2.2.2.1.length:Int)))) (some (.inl (s.1,s.2.1,s.2.2.1,s.2.2.2.1,wrap .i64 (s.2.2.2.2.1+1),a05 s.2.2.2.2.2.1 (a01 s.2.2.2.2.1) (wrap .i64 ((a02 s.2.2.2.2.2.1 (a01 s.2.2.2.2.1) 0)-y6.1)),y8,()))) none)) none) (some (.inr (Sum.inl (s.1,s.2.1,s.2.2.1,s.2.2.2.2.2.1,()))))
def a6Y(s:(Z5×Z15)):Option ((Z5×Z15) ⊕ Z45):= cond (decide (s.2.2.1<s.2.1)) ((a0r s.1 s.2.2.1).bind fun x4=> (b0Q x4).bind fun y5=> cond (y5.2 != 0) (some (.inr (Sum.inr ((y5.2,[],()))))) ((a0e a6X (s.1,s.2.1,s.2.2.1,(s.2.2.2.1.length:Int),0,s.2.2.2.1,y5.1,())).bind fun w9=> match w9 with |.inl a10=>some (.inl (a10.1,a10.2.1,wrap .i64 (a10.2.2.1+1),a10.2.2.2.1,())) |.inr b11=>some (.inr (Sum.inr ((b11.1,b11.2.1,())))))) (some (.inr (Sum.inl (s.2.2.2.1,()))))
def b2x(x:Z27):Option ((List Int)×Int):= (a8V x.2).bind fun y1=> cond (!y1) (some ([],1)) ((a6V x.1).bind fun y2=> cond (!y2) (some ([],6)) ((a1C x.1).bind fun y3=> (a0e a6Y (x.2,(x.2.length:Int),0,y3,())).bind fun w12=> match w12 with |.inl a13=>some (a13.1,0) |.inr b14=>some (b14.2.1,b14.1)))
def c1h:FSem:=⟨[.v QL,.v (.list false Q4)],[.o QI,.v QI],b2x⟩
def e0t:Hints:=⟨[(250,[.sv 22 (.list false Q4),.sv 23 QI,.sv 24 QI,.own 6 6 QI],[(.exit 0,[.own 6 6 QI]),(.ret,[.sv 5 QI,.own 4 4 QI])]),(256414,[.sv 22 (.list false Q4),.sv 23 QI,.sv 24 QI,.sv 37 QI,.sv 38 QI,.own 6 6 QI,.box 1030 Q9,.ptr 9 1030 [],.ref 36 6 []],[(.exit 2,[.sv 22 (.list false Q4),.sv 23 QI,.sv 24 QI,.own 6 6 QI]),(.ret,[.sv 5 QI,.own 4 4 QI])])],[],[]⟩
def b3X(x:(a2a×(List Int))):Option (Int×a2a):= (show Option ((List Int)×((List Int)×(Int×c1d)))from cond (x.1.1==2) ((a3W (x.2,x.1.2.2.1)).bind fun y1=> some (x.2,y1.1,y1.2,x.1,())) (cond (x.1.1==3) ((a8H (x.2,x.1.2.2.2.2.2.1,x.1.2.2.2.1)).bind fun y2=> some (x.2,y2.1,y2.2,x.1,())) (cond (x.1.1==4) ((a8X (x.2,x.1.2.2.2.2.1,x.1.2.2.2.2.2.2.1)).bind fun y3=> cond (y3.2==0) ((a8H (y3.1,x.1.2.2.2.2.2.1,x.1.2.2.2.1)).bind fun y4=> some (y3.1,y4.1,y4.2,x.1,())) (some (y3.1,[],y3.2,x.1,()))) (cond (x.1.1==5) ((b2x (x.2,x.1.2.2.2.2.2.2.2.1)).bind fun y5=> some (x.2,y5.1,y5.2,x.1,())) (some (x.2,[],0,x.1,())))))).bind fun z6=> cond (z6.2.2.1 != 0) (some (z6.2.2.1,z6.2.2.2.1)) ((a9H (z6.2.2.2.1,(z6.1.length:Int))).bind fun y7=> cond ((decide (0≤y7))&&(decide (y7≤(z6.1.length:Int)))) ((a1C (a07 (a01 y7) z6.1)).bind fun y8=> some (0,z6.2.2.2.1.1,z6.2.2.2.1.2.1,z6.2.2.2.1.2.2.1,z6.2.2.2.1.2.2.2.1,z6.2.2.2.1.2.2.2.2.1,z6.2.2.2.1.2.2.2.2.2.1,z6.2.2.2.1.2.2.2.2.2.2.1,z6.2.2.2.1.2.2.2.2.2.2.2.1,y8,z6.2.2.2.1.2.2.2.2.2.2.2.2.2.1,z6.2.1,z6.2.2.2.1.2.2.2.2.2.2.2.2.2.2.2)) none)
def c2O:FSem:=⟨[.r false (.b Q19),.v QL],[.v QI],b3X⟩
def e0u:Hints:=⟨[],[(15,[(.normal,[.sv 1 QL,.sv 5 QL,.sv 6 QI,.box pinned Q19,.ptr 0 pinned []])])],[(7,[.v,.p,.p,.q,.q,.p,.p,.q,.q,.x,.x,.q,.q,.q,.x]),(9,[.v,.p,.p,.q,.q,.p,.p,.q,.q,.x,.x,.q,.q,.q,.x]),(11,[.q,.p,.p,.q,.q,.p,.p,.q,.q,.x,.x,.q,.q,.q,.x])]⟩
def b0R(x:(Int×Int)):Option Bool:= cond (decide (1≤x.1)) (cond (decide (x.1≤4096)) (cond (decide (0≤x.2)) (some (decide (x.2≤x.1))) (some false)) (some false)) (some false)
def b7X:FSem:=⟨[.v QI,.v QI],[.v .bool],b0R⟩
def e0v:Hints:=⟨[],[],[]⟩
def a8k(s:Z15):Option (Z15 ⊕ ((List Int)×Unit)):= cond (decide (s.1<0)) none (cond (decide ((s.2.2.1.length:Int)<(a0F .i64 1 s.1))) (cond (lim ((a03 s.2.2.1)+1)) (some (.inl (s.1,s.2.1,a04 s.2.2.1 [s.2.1],()))) none) (some (.inr (s.2.2.1,()))))
def a5s(x:(Int×Int×Int)):Option (List Int):= (show Option Z24 from(b0R (x.2.1,x.2.2)).bind fun y1=> cond (!y1) (some (x.1,x.2.1,x.2.2,true,())) (cond (decide (x.1<0)) (some (x.1,x.2.1,x.2.2,true,())) (some (x.1,x.2.1,x.2.2,decide (x.1 > 8),())))).bind fun z2=> cond z2.2.2.2.1 (some []) (cond (decide (z2.1<0)) none ((show Option Z24 from cond (decide (z2.1<0)) none (cond ((a0F .i64 (a0l .i64 z2.2.1 z2.1) z2.1) != z2.2.1) (some (z2.1,z2.2.2.1,a0l .i64 z2.2.1 z2.1,true,())) (some (z2.1,z2.2.2.1,a0l .i64 z2.2.1 z2.1,decide ((a0l .i64 z2.2.1 z2.1)<z2.2.2.1),())))).bind fun z3=> cond z3.2.2.2.1 (some []) ((a0e a8k (z3.1,z3.2.2.1,[wrap .i64 (z3.2.2.1-z3.2.1)],())).bind fun w4=> some w4.1)))
def a8I:FSem:=⟨[.v QI,.v QI,.v QI],[.o QI],a5s⟩
def e0w:Hints:=⟨[(252,[.sv 0 QI,.sv 7 QI,.own 8 8 QI],[(.exit 0,[.own 8 8 QI])])],[(6,[(.normal,[.sv 0 QI,.sv 1 QI,.sv 2 QI,.sv 20 .bool])]),(30,[(.normal,[.sv 0 QI,.sv 2 QI,.sv 7 QI,.sv 33 .bool])])],[]⟩
def a4F(s:Z14):Option Z65:= cond (decide (s.2.2.1<s.2.1)) ((a0r s.1 s.2.2.1).bind fun x3=> (show Option Z32 from cond (decide (x3<0)) (some (s.1,s.2.1,s.2.2.1,x3 != 31,())) (cond (decide (x3 > 25)) (some (s.1,s.2.1,s.2.2.1,x3 != 31,())) (some (s.1,s.2.1,s.2.2.1,false,())))).bind fun z4=> cond z4.2.2.2.1 (some (.inr (Sum.inr ((false,()))))) (some (.inl (z4.1,z4.2.1,wrap .i64 (z4.2.2.1+1),())))) (some (.inr (Sum.inl ())))
def b0S(x:(Z3×Int×Int)):Option Bool:= (a5s (x.1.1,x.2.1,x.2.2)).bind fun y1=> (show Option Z38 from cond ((y1.length:Int)==0) (some (true,x.1,())) (some ((x.1.2.1.length:Int) != (y1.length:Int),x.1,()))).bind fun z2=> cond z2.1 (some false) ((a0e a4F (z2.2.1.2.1,(z2.2.1.2.1.length:Int),0,())).bind fun w5=> match w5 with |.inl a6=>some true |.inr b7=>some b7.1)
def b7Y:FSem:=⟨[.v Q7,.v QI,.v QI],[.v .bool],b0S⟩
def e0x:Hints:=⟨[(122,[.sv 27 QL,.sv 28 QI,.sv 29 QI],[(.exit 0,[]),(.ret,[.sv 6 .bool])])],[(14,[(.normal,[.sv 25 .bool,.vp 3 Q7])]),(7833,[(.normal,[.sv 27 QL,.sv 28 QI,.sv 29 QI,.sv 42 .bool])])],[]⟩
def b6k(s:Z14):Option Z65:= cond (decide (s.2.2.1<s.2.1)) ((a0r s.1 s.2.2.1).bind fun x3=> (show Option Z32 from cond (decide (x3<(-1073741824))) (some (s.1,s.2.1,s.2.2.1,true,())) (some (s.1,s.2.1,s.2.2.1,decide (x3≥1073741824),()))).bind fun z4=> cond z4.2.2.2.1 (some (.inr (Sum.inr ((false,()))))) (some (.inl (z4.1,z4.2.1,wrap .i64 (z4.2.2.1+1),())))) (some (.inr (Sum.inl ())))
def a8J(x:Z1):Option Bool:= (show Option Z7 from(b0R (x.1,x.2.1)).bind fun y1=> cond (!y1) (some (x.2.2,true,())) (some (x.2.2,(x.2.2.length:Int) != (wrap .i64 (x.1-x.2.1)),()))).bind fun z2=> cond z2.2.1 (some false) ((a0e b6k (z2.1,(z2.1.length:Int),0,())).bind fun w5=> match w5 with |.inl a6=>some true |.inr b7=>some b7.1)
def b4O:FSem:=⟨[.v QI,.v QI,.v QL],[.v .bool],a8J⟩
def e0y:Hints:=⟨[(58,[.sv 21 QL,.sv 22 QI,.sv 23 QI],[(.exit 0,[]),(.ret,[.sv 6 .bool])])],[(6,[(.normal,[.sv 2 QL,.sv 20 .bool])]),(3737,[(.normal,[.sv 21 QL,.sv 22 QI,.sv 23 QI,.sv 32 .bool])])],[]⟩
def b6l(x:Int):Option Int:= (show Option (Int×Bool×Unit)from cond (decide (x<1)) (some (x,true,())) (some (x,decide (x > 31),()))).bind fun z1=> cond z1.2.1 (some 0) (cond (decide ((wrap .i64 (z1.1-1))<0)) none (some (a0F .i64 (-1) (wrap .i64 (z1.1-1)))))
def c1i:FSem:=⟨[.v QI],[.v QI],b6l⟩
def e0z:Hints:=⟨[],[(6,[(.normal,[.sv 0 QI,.sv 8 .bool])])],[]⟩
def b4P(x:Int):Option Int:= (show Option (Int×Bool×Unit)from cond (decide (x<1)) (some (x,true,())) (some (x,decide (x > 31),()))).bind fun z1=> cond z1.2.1 (some 0) (cond (decide ((wrap .i64 (z1.1-1))<0)) none (some (wrap .i64 ((a0F .i64 1 (wrap .i64 (z1.1-1)))-1))))
def c0g:FSem:=⟨[.v QI],[.v QI],b4P⟩
def e0A:Hints:=⟨[],[(6,[(.normal,[.sv 0 QI,.sv 8 .bool])])],[]⟩
def a6G(x:(Int×Int)):Option Bool:= cond (decide (x.2≥1)) (cond (decide (x.2≤31)) ((b6l x.2).bind fun y1=> cond (decide (y1≤x.1)) ((b4P x.2).bind fun y2=> some (decide (x.1≤y2))) (some false)) (some false)) (some false)
def b4Q:FSem:=⟨[.v QI,.v QI],[.v .bool],a6G⟩
def e0B:Hints:=⟨[],[],[]⟩
def a4l(s:Z47):Option (Z47 ⊕ Z29):= cond (s.2.1 != 0) (cond (decide (s.1<32)) ((a6G (s.2.1,s.1)).bind fun y2=> cond (!y2) (some (.inl (wrap .i64 (s.1+1),s.2.1,s.2.2.1,s.2.2.2.1,s.2.2.2.2.1,()))) (some (.inr (s.1,s.2.2.1,s.2.2.2.1,s.2.2.2.2.1,())))) (some (.inr (s.1,s.2.2.1,s.2.2.2.1,s.2.2.2.2.1,())))) (some (.inr (s.1,s.2.2.1,s.2.2.2.1,s.2.2.2.2.1,())))
def a7A(s:Z29):Option (Z29 ⊕ (Int×Unit)):= cond (decide (s.2.2.2.1<s.2.2.1)) ((a0r s.2.1 s.2.2.2.1).bind fun x1=> (a0e a4l (s.1,x1,s.2.1,s.2.2.1,s.2.2.2.1,())).bind fun w3=> some (.inl (w3.1,w3.2.1,w3.2.2.1,wrap .i64 (w3.2.2.2.1+1),()))) (some (.inr (s.1,())))
def a4G(x:(List Int)):Option Int:= (a0e a7A (0,x,(x.length:Int),0,())).bind fun w4=> some w4.1
def a7U:FSem:=⟨[.v QL],[.v QI],a4G⟩
def e0C:Hints:=⟨[(58,[.sv 3 QI,.sv 6 QL,.sv 7 QI,.sv 8 QI],[(.exit 0,[.sv 3 QI])]),(7474,[.sv 3 QI,.sv 5 QI,.sv 6 QL,.sv 7 QI,.sv 8 QI],[(.exit 2,[.sv 3 QI,.sv 6 QL,.sv 7 QI,.sv 8 QI])])],[],[]⟩
def a7w(x:(List Int)):Option Int:= (a4G x).bind fun y1=> some (wrap .i64 (5+(wrap .i64 (y1*(x.length:Int)))))
def b7Z:FSem:=⟨[.v QL],[.v QI],a7w⟩
def e0D:Hints:=⟨[],[],[]⟩
def a6l(x:Int):Option Bool:= cond (decide (0≤x)) (some (decide (x≤25))) (some false)
def b1O:FSem:=⟨[.v QI],[.v .bool],a6l⟩
def e0E:Hints:=⟨[],[],[]⟩
def a8Y(x:Int):Option Bool:= cond (decide ((-1073741824)≤x)) (some (decide (x<1073741824))) (some false)
def b3Y:FSem:=⟨[.v QI],[.v .bool],a8Y⟩
def e0F:Hints:=⟨[],[],[]⟩
def b0T(x:Int):Option Int:= (a8Y x).bind fun y1=> cond (!y1) (some 0) (cond (decide (x≥0)) (some (wrap .u64 (wrap .i64 (2*x)))) (some (wrap .u64 (wrap .i64 ((wrap .i64 ((-2)*x))-1)))))
def b8a:FSem:=⟨[.v QI],[.v (.int .u64)],b0T⟩
def e0G:Hints:=⟨[],[],[]⟩
def a8Z(x:(Int×Int)):Option Int:= (show Option Z10 from(a6l x.1).bind fun y1=> cond (!y1) (some (x.1,x.2,true,())) ((a8Y x.2).bind fun y2=> some (x.1,x.2,!y2,()))).bind fun z3=> cond z3.2.2.1 (some 0) ((b0T z3.2.1).bind fun y4=> cond (decide (z3.1<0)) none (cond (decide ((wrap .i64 (a0l .u64 y4 z3.1))<32)) (some (wrap .i64 ((wrap .i64 ((wrap .i64 (a0l .u64 y4 z3.1))+1))+z3.1))) (some 65)))
def c2P:FSem:=⟨[.v QI,.v QI],[.v QI],a8Z⟩
def e0H:Hints:=⟨[],[(6,[(.normal,[.sv 0 QI,.sv 1 QI,.sv 13 .bool])])],[]⟩
def a5t(s:Z47):Option (Z47 ⊕ (Int×Unit)):= cond (decide (s.2.2.2.2.1<s.2.2.2.1)) ((a0r s.2.2.1 s.2.2.2.2.1).bind fun x1=> (a8Z (s.1,x1)).bind fun y2=> some (.inl (s.1,wrap .i64 (s.2.1+y2),s.2.2.1,s.2.2.2.1,wrap .i64 (s.2.2.2.2.1+1),()))) (some (.inr (s.2.1,())))
def a4Q(x:(Int×(List Int))):Option Int:= (a0e a5t (x.1,0,x.2,(x.2.length:Int),0,())).bind fun w3=> some w3.1
def b5s:FSem:=⟨[.v QI,.v QL],[.v QI],a4Q⟩
def e0I:Hints:=⟨[(58,[.sv 0 QI,.sv 5 QI,.sv 8 QL,.sv 9 QI,.sv 10 QI],[(.exit 0,[.sv 5 QI])])],[],[]⟩
def a1X(s:Z90):Option (Z90 ⊕ (Int×Unit)):= cond (decide (s.2.2.2.1<s.2.2.1)) (cond ((decide (0≤s.2.2.2.1))&&(decide (s.2.2.2.1<(s.2.2.2.2.1.length:Int)))) (cond ((decide (0≤(a02 s.2.2.2.2.1 (a01 s.2.2.2.1) 0)))&&(decide ((a02 s.2.2.2.2.1 (a01 s.2.2.2.1) 0)≤(s.1.length:Int)))) (cond ((decide (0≤(a02 s.2.2.2.2.1 (a01 s.2.2.2.1) 0)))&&(decide ((a02 s.2.2.2.2.1 (a01 s.2.2.2.1) 0)≤(s.1.length:Int)))) ((a0r s.2.2.2.2.2.1.2.1 s.2.2.2.1).bind fun x5=> cond (x5==31) ((a7w (a07 (a01 (a02 s.2.2.2.2.1 (a01 s.2.2.2.1) 0)) s.1)).bind fun y6=> some (.inl (a22 (a01 (a02 s.2.2.2.2.1 (a01 s.2.2.2.1) 0)) (a07 (a03 s.1) s.1),wrap .i64 (s.2.1+(wrap .i64 (5+y6))),s.2.2.1,wrap .i64 (s.2.2.2.1+1),s.2.2.2.2.1,s.2.2.2.2.2.1,()))) ((a0r s.2.2.2.2.2.1.2.1 s.2.2.2.1).bind fun x7=> (a4Q (x7,a07 (a01 (a02 s.2.2.2.2.1 (a01 s.2.2.2.1) 0)) s.1)).bind fun y8=> some (.inl (a22 (a01 (a02 s.2.2.2.2.1 (a01 s.2.2.2.1) 0)) (a07 (a03 s.1) s.1),wrap .i64 (s.2.1+(wrap .i64 (5+y8))),s.2.2.1,wrap .i64 (s.2.2.2.1+1),s.2.2.2.2.1,s.2.2.2.2.2.1,())))) none) none) none) (some (.inr (s.2.1,())))
def a6m(x:Z57):Option Int:= (show Option (Int×(Int×((List Int)×Z38)))from(b0S (x.1,x.2.1,x.2.2.1)).bind fun y1=> cond (!y1) (some (x.2.1,x.2.2.1,x.2.2.2,true,x.1,())) ((a8J (x.2.1,x.2.2.1,x.2.2.2)).bind fun y2=> some (x.2.1,x.2.2.1,x.2.2.2,!y2,x.1,()))).bind fun z3=> cond z3.2.2.2.1 (some 0) ((a5s (z3.2.2.2.2.1.1,z3.1,z3.2.1)).bind fun y4=> (a0e a1X (z3.2.2.1,4,(y4.length:Int),0,y4,z3.2.2.2.2.1,())).bind fun w9=> some w9.1)
def b6m:FSem:=⟨[.v Q7,.v QI,.v QI,.v QL],[.v QI],a6m⟩
def e0J:Hints:=⟨[(122,[.sv 3 QL,.sv 9 QI,.sv 30 QI,.sv 31 QI,.own 29 1029 QI,.vp 4 Q7],[(.exit 0,[.sv 9 QI])])],[(6,[(.normal,[.sv 1 QI,.sv 2 QI,.sv 3 QL,.sv 24 .bool,.vp 4 Q7])])],[]⟩
def b0f(s:Z31):Option (Z31 ⊕ (Int×Unit)):= cond (decide (s.2.2.2.1≤25)) ((a4Q (s.2.2.2.1,s.1)).bind fun y2=> cond (decide (y2<s.2.2.1)) (some (.inl (s.1,s.2.2.2.1,y2,wrap .i64 (s.2.2.2.1+1),()))) (some (.inl (s.1,s.2.1,s.2.2.1,wrap .i64 (s.2.2.2.1+1),())))) (some (.inr (s.2.1,())))
def b3Z(x:(List Int)):Option Int:= (a4Q (0,x)).bind fun y1=> (a0e b0f (x,0,y1,1,())).bind fun w3=> some w3.1
def c2Q:FSem:=⟨[.v QL],[.v QI],b3Z⟩
def e0K:Hints:=⟨[(58,[.sv 0 QL,.sv 3 QI,.sv 4 QI,.sv 5 QI],[(.exit 0,[.sv 3 QI])])],[],[]⟩
def b0g(x:(List Int)):Option Int:= (b3Z x).bind fun y1=> (a7w x).bind fun y2=> (a4Q (y1,x)).bind fun y3=> cond (decide (y2<y3)) (some 31) (some y1)
def b8E:FSem:=⟨[.v QL],[.v QI],b0g⟩
def e0L:Hints:=⟨[],[],[]⟩
def a9k(s:(Int×(Int×(Int×((List Int)×(Int×(Int×((List Int)×d1U)))))))):Option ((Int×(Int×(Int×((List Int)×(Int×(Int×((List Int)×d1U))))))) ⊕ (Int×(Int×(Int×((List Int)×(Int×Int×Z95)))))):= cond (decide (s.2.2.2.2.2.2.2.2.1<s.2.2.2.2.2.2.2.1)) (cond ((decide (0≤s.2.2.2.2.2.2.2.2.1))&&(decide (s.2.2.2.2.2.2.2.2.1<(s.2.2.2.2.2.2.2.2.2.1.length:Int)))) (cond ((decide (0≤(a02 s.2.2.2.2.2.2.2.2.2.1 (a01 s.2.2.2.2.2.2.2.2.1) 0)))&&(decide ((a02 s.2.2.2.2.2.2.2.2.2.1 (a01 s.2.2.2.2.2.2.2.2.1) 0)≤(s.2.2.2.2.2.2.1.length:Int)))) ((b0g (a07 (a01 (a02 s.2.2.2.2.2.2.2.2.2.1 (a01 s.2.2.2.2.2.2.2.2.1) 0)) s.2.2.2.2.2.2.1)).bind fun y3=> cond (lim ((a03 s.2.2.2.2.2.2.2.2.2.2.2.2.1.2.1)+1)) (cond ((decide (0≤(a02 s.2.2.2.2.2.2.2.2.2.1 (a01 s.2.2.2.2.2.2.2.2.1) 0)))&&(decide ((a02 s.2.2.2.2.2.2.2.2.2.1 (a01 s.2.2.2.2.2.2.2.2.1) 0)≤(s.2.2.2.2.2.2.1.length:Int)))) (some (.inl (s.1,s.2.1,s.2.2.1,s.2.2.2.1,s.2.2.2.2.1,s.2.2.2.2.2.1,a22 (a01 (a02 s.2.2.2.2.2.2.2.2.2.1 (a01 s.2.2.2.2.2.2.2.2.1) 0)) (a07 (a03 s.2.2.2.2.2.2.1) s.2.2.2.2.2.2.1),s.2.2.2.2.2.2.2.1,wrap .i64 (s.2.2.2.2.2.2.2.2.1+1),s.2.2.2.2.2.2.2.2.2.1,s.2.2.2.2.2.2.2.2.2.2.1,s.2.2.2.2.2.2.2.2.2.2.2.1,(s.2.2.2.2.2.2.2.2.2.2.2.2.1.1,a04 s.2.2.2.2.2.2.2.2.2.2.2.2.1.2.1 [y3],s.2.2.2.2.2.2.2.2.2.2.2.2.1.2.2),()))) none) none) none) none) (some (.inr (s.1,s.2.1,s.2.2.1,s.2.2.2.1,s.2.2.2.2.1,s.2.2.2.2.2.1,s.2.2.2.2.2.2.2.2.2.2.1,s.2.2.2.2.2.2.2.2.2.2.2.1,s.2.2.2.2.2.2.2.2.2.2.2.2.1,())))
def a5k(s:d1T):Option (d1T ⊕ Z77):= cond (decide (s.2.2.2.2.2.1≤(a2v (a1D s.2.2.1 0) 8))) ((a5s (s.2.2.2.2.2.1,s.1,s.2.1)).bind fun y2=> cond ((y2.length:Int)==0) (some (.inl (s.1,s.2.1,s.2.2.1,s.2.2.2.1,s.2.2.2.2.1,wrap .i64 (s.2.2.2.2.2.1+1),s.2.2.2.2.2.2.1,s.2.2.2.2.2.2.2.1,()))) ((a0e a9k (s.1,s.2.1,s.2.2.1,s.2.2.2.1,s.2.2.2.2.1,s.2.2.2.2.2.1,s.2.2.2.1,(y2.length:Int),0,y2,s.2.2.2.2.2.2.1,s.2.2.2.2.2.2.2.1,(s.2.2.2.2.2.1,[],()),())).bind fun w4=> (a6m (w4.2.2.2.2.2.2.2.2.1,w4.1,w4.2.1,w4.2.2.2.1)).bind fun y5=> (show Option (Int×(Int×(Int×((List Int)×(Int×Int×Int×Bool×Z95)))))from cond (w4.2.2.2.2.1==0) (some (w4.1,w4.2.1,w4.2.2.1,w4.2.2.2.1,w4.2.2.2.2.1,w4.2.2.2.2.2.1,y5,true,w4.2.2.2.2.2.2.1,w4.2.2.2.2.2.2.2.1,w4.2.2.2.2.2.2.2.2.1,())) (some (w4.1,w4.2.1,w4.2.2.1,w4.2.2.2.1,w4.2.2.2.2.1,w4.2.2.2.2.2.1,y5,decide (y5<w4.2.2.2.2.1),w4.2.2.2.2.2.2.1,w4.2.2.2.2.2.2.2.1,w4.2.2.2.2.2.2.2.2.1,()))).bind fun z6=> cond z6.2.2.2.2.2.2.2.1 (some (.inl (z6.1,z6.2.1,z6.2.2.1,z6.2.2.2.1,z6.2.2.2.2.2.2.1,wrap .i64 (z6.2.2.2.2.2.1+1),z6.2.2.2.2.2.2.2.2.1,z6.2.2.2.2.2.2.2.2.2.2.1,()))) (some (.inl (z6.1,z6.2.1,z6.2.2.1,z6.2.2.2.1,z6.2.2.2.2.1,wrap .i64 (z6.2.2.2.2.2.1+1),z6.2.2.2.2.2.2.2.2.1,z6.2.2.2.2.2.2.2.2.2.1,()))))) (some (.inr (s.2.2.2.2.2.2.1,s.2.2.2.2.2.2.2.1,())))
def b2y(x:(Int×Z1)):Option (Z3×Int):= (a8J (x.1,x.2.1,x.2.2.2)).bind fun y1=> cond (!y1) (some ((0,[],()),1)) ((a0e a5k (x.1,x.2.1,x.2.2.1,x.2.2.2,0,0,(0,[],()),(0,[],()),())).bind fun w7=> some (w7.2.1,0))
def c1j:FSem:=⟨[.v QI,.v QI,.v QI,.v QL],[.v Q7,.v QI],b2y⟩
def e0M:Hints:=⟨[(250,[.sv 0 QI,.sv 1 QI,.sv 2 QI,.sv 3 QL,.sv 11 QI,.sv 12 QI,.box 8 Q7,.box 10 Q7,.ptr 8 8 [],.ptr 10 10 []],[(.exit 0,[.box 8 Q7,.box 10 Q7,.ptr 8 8 [],.ptr 10 10 []])]),(512634,[.sv 0 QI,.sv 1 QI,.sv 2 QI,.sv 3 QL,.sv 11 QI,.sv 12 QI,.sv 15 QL,.sv 43 QI,.sv 44 QI,.own 42 13 QI,.box 8 Q7,.box 10 Q7,.box 14 Q6,.ptr 8 8 [],.ptr 10 10 [],.ptr 14 14 []],[(.exit 2,[.sv 0 QI,.sv 1 QI,.sv 2 QI,.sv 3 QL,.sv 11 QI,.sv 12 QI,.box 8 Q7,.box 10 Q7,.box 14 Q6,.ptr 8 8 [],.ptr 10 10 [],.ptr 14 14 []])])],[(256319,[(.normal,[.sv 0 QI,.sv 1 QI,.sv 2 QI,.sv 3 QL,.sv 11 QI,.sv 12 QI,.sv 18 QI,.sv 72 .bool,.box 8 Q7,.box 10 Q7,.box 14 Q7,.ptr 8 8 [],.ptr 10 10 [],.ptr 14 14 []])])],[(15,[.q,.q,.v,.v,.v,.v,.q,.x,.x,.x])]⟩
def a6H(s:((List Int)×((List Int)×d2c))):Option (((List Int)×((List Int)×d2c)) ⊕ (((List Int)×b3z) ⊕ (Int×c1d))):= cond (decide (s.2.2.2.1<s.2.2.1)) ((a0r s.2.1 s.2.2.2.1).bind fun x5=> (a0r s.1 0).bind fun x6=> cond (x5 != x6) (some (.inr (Sum.inr ((7,(0,0,0,0,0,[],a00 3 0,[],[],(0,[],()),[],()),()))))) (some (.inl (s.1,s.2.1,s.2.2.1,wrap .i64 (s.2.2.2.1+1),s.2.2.2.2.1,s.2.2.2.2.2.1,())))) (some (.inr (Sum.inl (s.1,s.2.2.2.2.1,s.2.2.2.2.2.1,()))))
def b2z(x:(Int×((List Int)×a2a))):Option a9G:= (show Option (Int×((List Int)×(Int×Bool×b3z)))from cond (decide ((x.2.1.length:Int)<1)) (some (x.1,x.2.1,(x.2.1.length:Int),true,(0,0,0,0,0,[],a00 3 0,[],[],(0,[],()),[],()),x.2.2,())) (cond (decide ((x.2.1.length:Int) > 4096)) (some (x.1,x.2.1,(x.2.1.length:Int),true,(0,0,0,0,0,[],a00 3 0,[],[],(0,[],()),[],()),x.2.2,())) ((b4x (x.1,x.2.2,(x.2.1.length:Int))).bind fun y1=> some (x.1,x.2.1,(x.2.1.length:Int),!y1,(0,0,0,0,0,[],a00 3 0,[],[],(0,[],()),[],()),x.2.2,())))).bind fun z2=> cond z2.2.2.2.1 (some ((0,0,0,0,0,[],a00 3 0,[],[],(0,[],()),[],()),1)) ((a2O z2.2.1).bind fun y3=> cond (!y3) (some ((0,0,0,0,0,[],a00 3 0,[],[],(0,[],()),[],()),6)) ((a7R (z2.1,z2.2.2.2.2.2.1)).bind fun y4=> cond (z2.1==0) ((a0e a6H (z2.2.1,z2.2.1,(z2.2.1.length:Int),0,z2.2.2.2.2.1,y4,())).bind fun w7=> match w7 with |.inl a8=>((a0r a8.1 0).bind fun x10=> some ((a8.2.2.1.1,a8.2.2.1.2.1,a8.2.2.1.2.2.1,a8.2.2.1.2.2.2.1,a8.2.2.1.2.2.2.2.1,a8.2.2.1.2.2.2.2.2.1,a8.2.2.1.2.2.2.2.2.2.1,a8.2.2.1.2.2.2.2.2.2.2.1,[x10],a8.2.2.1.2.2.2.2.2.2.2.2.2),0)) |.inr b9=>some (b9.2.1,b9.1)) ((a5i z2.2.1).bind fun y11=> (a8F (z2.2.1,y11)).bind fun y12=> cond (y12.2 != 0) (some ((0,0,0,0,0,[],a00 3 0,[],[],(0,[],()),[],()),6)) (cond (z2.1==1) (some ((y4.1,y11,y4.2.2.1,y4.2.2.2.1,y4.2.2.2.2.1,y4.2.2.2.2.2.1,y4.2.2.2.2.2.2.1,y4.2.2.2.2.2.2.2.1,y12.1,y4.2.2.2.2.2.2.2.2.2),0)) ((b3X ((y4.1,y11,y4.2.2),y12.1)).bind fun y13=> cond (y13.1 != 0) (some ((0,0,0,0,0,[],a00 3 0,[],[],(0,[],()),[],()),6)) ((b2y (z2.2.2.1,(y13.2.2.2.2.2.2.2.2.2.1.length:Int),6,y13.2.2.2.2.2.2.2.2.2.2.2.1)).bind fun y14=> cond (y14.2 != 0) (some ((0,0,0,0,0,[],a00 3 0,[],[],(0,[],()),[],()),6)) (some ((y13.2.1,y13.2.2.1,y13.2.2.2.1,y13.2.2.2.2.1,y13.2.2.2.2.2.1,y13.2.2.2.2.2.2.1,y13.2.2.2.2.2.2.2.1,y13.2.2.2.2.2.2.2.2.1,y13.2.2.2.2.2.2.2.2.2.1,y14.1,y13.2.2.2.2.2.2.2.2.2.2.2),0))))))))
def b9v:FSem:=⟨[.v QI,.v QL,.v Q19],[.v Q19,.v QI],b2z⟩
def H86:Hints:=⟨[(4050,[.sv 1 QL,.sv 39 QL,.sv 40 QI,.sv 41 QI,.box 6 Q19,.box 9 Q19,.ptr 6 6 [],.ptr 9 9 []],[(.exit 0,[.sv 1 QL,.box 6 Q19,.box 9 Q19,.ptr 6 6 [],.ptr 9 9 []]),(.ret,[.sv 7 QI,.box 6 Q19,.ptr 6 6 []])])],[(14,[(.normal,[.sv 0 QI,.sv 1 QL,.sv 8 QI,.sv 28 .bool,.box 6 Q19,.vp 5 Q19,.ptr 6 6 []])])],[]⟩
def a9I(x:Int):Option Bool:= cond (x != 0) (some (x != 1)) (some false)
def b6n:FSem:=⟨[.v QI],[.v .bool],a9I⟩
def e0N:Hints:=⟨[],[],[]⟩
def b4a(x:a2a):Option Bool:= (a7R (x.1,x)).bind fun y1=> cond (x.2.2.1==y1.2.2.1) (cond (x.2.2.2.1==y1.2.2.2.1) (cond (x.2.2.2.2.1==y1.2.2.2.2.1) (cond (eqT (.arr 3 (.int .i64)) x.2.2.2.2.2.2.1 y1.2.2.2.2.2.2.1) (cond ((x.2.2.2.2.2.1.length:Int)==(y1.2.2.2.2.2.1.length:Int)) (some ((x.2.2.2.2.2.2.2.1.length:Int)==(y1.2.2.2.2.2.2.2.1.length:Int))) (some false)) (some false)) (some false)) (some false)) (some false)
def c2R:FSem:=⟨[.v Q19],[.v .bool],b4a⟩
def e0O:Hints:=⟨[],[],[]⟩
def b2A(x:a9G):Option Bool:= (show Option c1e from cond (decide (x.2<1)) (some (x.2,true,x.1,())) (cond (decide (x.2 > 4096)) (some (x.2,true,x.1,())) ((b4x (x.1.1,x.1,x.2)).bind fun y1=> cond (!y1) (some (x.2,true,x.1,())) ((b4a x.1).bind fun y2=> some (x.2,!y2,x.1,()))))).bind fun z3=> cond z3.2.1 (some false) ((show Option c1e from cond (decide (z3.2.2.1.2.1<0)) (some (z3.1,true,z3.2.2.1,())) (cond (decide (z3.2.2.1.2.1 > 30)) (some (z3.1,true,z3.2.2.1,())) (cond (z3.2.2.1.1==0) (some (z3.1,z3.2.2.1.2.1 != 0,z3.2.2.1,())) (some (z3.1,false,z3.2.2.1,()))))).bind fun z4=> cond z4.2.1 (some false) ((a9H (z4.2.2.1,z4.1)).bind fun y5=> (show Option d1X from cond ((z4.2.2.1.2.2.2.2.2.2.2.2.1.length:Int) != y5) (some (z4.1,y5,true,z4.2.2.1,())) ((a2O z4.2.2.1.2.2.2.2.2.2.2.2.1).bind fun y6=> cond (!y6) (some (z4.1,y5,true,z4.2.2.1,())) ((a2O z4.2.2.1.2.2.2.2.2.2.2.2.2.2.1).bind fun y7=> some (z4.1,y5,!y7,z4.2.2.1,())))).bind fun z8=> cond z8.2.2.1 (some false) ((a9I z8.2.2.2.1.1).bind fun y9=> cond (!y9) (cond ((z8.2.2.2.1.2.2.2.2.2.2.2.2.2.2.1.length:Int)==0) (cond (z8.2.2.2.1.2.2.2.2.2.2.2.2.2.1.1==0) (some ((z8.2.2.2.1.2.2.2.2.2.2.2.2.2.1.2.1.length:Int)==0)) (some false)) (some false)) (cond ((z8.2.2.2.1.2.2.2.2.2.2.2.2.2.2.1.length:Int)==(wrap .i64 (z8.1-z8.2.1))) ((b0S (z8.2.2.2.1.2.2.2.2.2.2.2.2.2.1,z8.1,z8.2.1)).bind fun y10=> some y10) (some false)))))
def c1k:FSem:=⟨[.v Q19,.v QI],[.v .bool],b2A⟩
def e0P:Hints:=⟨[],[(6,[(.normal,[.sv 1 QI,.sv 24 .bool,.vp 2 Q19])]),(14,[(.normal,[.sv 1 QI,.sv 42 .bool,.vp 2 Q19])]),(62,[(.normal,[.sv 1 QI,.sv 5 QI,.sv 62 .bool,.vp 2 Q19])])],[]⟩
def a1u(x:(Int×(List Int))):Option (Int×(List Int)):= (a0r x.2 (wrap .i64 ((x.2.length:Int)-x.1))).bind fun x1=> some (x1,x.2)
def b7a:FSem:=⟨[.v QI,.r false (.b QL)],[.v QI],a1u⟩
def e0Q:Hints:=⟨[],[],[]⟩
def b1m(x:((List Int)×Int)):Option Int:= cond (x.2==1) ((a1u (1,x.1)).bind fun y1=> some y1.1) (cond (x.2==2) ((a1u (1,x.1)).bind fun y2=> (a1u (2,y2.2)).bind fun y3=> some (wrap .i64 ((wrap .i64 (2*y2.1))-y3.1))) (cond (x.2==3) ((a1u (1,x.1)).bind fun y4=> (a1u (2,y4.2)).bind fun y5=> (a1u (3,y5.2)).bind fun y6=> some (wrap .i64 ((wrap .i64 ((wrap .i64 (3*y4.1))-(wrap .i64 (3*y5.1))))+y6.1))) (cond (x.2==4) ((a1u (1,x.1)).bind fun y7=> (a1u (2,y7.2)).bind fun y8=> (a1u (3,y8.2)).bind fun y9=> (a1u (4,y9.2)).bind fun y10=> some (wrap .i64 ((wrap .i64 ((wrap .i64 ((wrap .i64 (4*y7.1))-(wrap .i64 (6*y8.1))))+(wrap .i64 (4*y9.1))))-y10.1))) (some 0))))
def c0h:FSem:=⟨[.v QL,.v QI],[.v QI],b1m⟩
def e0R:Hints:=⟨[],[],[]⟩
def a9l(s:Z56):Option (Z56 ⊕ Z45):= cond (decide (s.2.2.2.1<s.2.2.1)) ((a0r s.2.1 s.2.2.2.1).bind fun x5=> (b1m (s.2.2.2.2.1,s.1)).bind fun y6=> (a3j [wrap .i64 (x5+y6)]).bind fun y7=> cond (!y7) (some (.inr (Sum.inr ((6,[],()))))) (cond (lim ((a03 s.2.2.2.2.1)+1)) (some (.inl (s.1,s.2.1,s.2.2.1,wrap .i64 (s.2.2.2.1+1),a04 s.2.2.2.2.1 [wrap .i64 (x5+y6)],()))) none)) (some (.inr (Sum.inl (s.2.2.2.2.1,()))))
def b2B(x:Z11):Option ((List Int)×Int):= (show Option Z48 from cond (decide (x.2.2<0)) (some (x.1,x.2.1,x.2.2,true,())) (cond (decide (x.2.2 > 4)) (some (x.1,x.2.1,x.2.2,true,())) (some (x.1,x.2.1,x.2.2,(x.1.length:Int) != x.2.2,())))).bind fun z1=> cond z1.2.2.2.1 (some ([],1)) ((show Option Z48 from(a3j z1.1).bind fun y2=> cond (!y2) (some (z1.1,z1.2.1,z1.2.2.1,true,())) ((a3j z1.2.1).bind fun y3=> some (z1.1,z1.2.1,z1.2.2.1,!y3,()))).bind fun z4=> cond z4.2.2.2.1 (some ([],6)) (cond (lim (a03 z4.1)) ((a0e a9l (z4.2.2.1,z4.2.1,(z4.2.1.length:Int),0,z4.1,())).bind fun w8=> match w8 with |.inl a9=>some (a9.1,0) |.inr b10=>some (b10.2.1,b10.1)) none))
def c1l:FSem:=⟨[.v QL,.v QL,.v QI],[.o QI,.v QI],b2B⟩
def e0S:Hints:=⟨[(250,[.sv 2 QI,.sv 34 QL,.sv 35 QI,.sv 36 QI,.own 8 8 QI],[(.exit 0,[.own 8 8 QI]),(.ret,[.sv 7 QI,.own 6 6 QI])])],[(6,[(.normal,[.sv 0 QL,.sv 1 QL,.sv 2 QI,.sv 23 .bool])]),(14,[(.normal,[.sv 0 QL,.sv 1 QL,.sv 2 QI,.sv 31 .bool])])],[]⟩
def a8l(s:Z80):Option (Z80 ⊕ Z45):= cond (decide (s.2.2.2.2.1<s.2.2.2.1)) ((a0r s.2.2.1 s.2.2.2.2.1).bind fun x6=> (a6j (s.2.2.2.2.2.1,s.1,s.2.1)).bind fun y7=> (a6F (wrap .i64 (y7+x6))).bind fun y8=> cond (!y8) (some (.inr (Sum.inr ((6,[],()))))) (cond (lim ((a03 s.2.2.2.2.2.1)+1)) (some (.inl (s.1,s.2.1,s.2.2.1,s.2.2.2.1,wrap .i64 (s.2.2.2.2.1+1),a04 s.2.2.2.2.2.1 [wrap .i64 (y7+x6)],()))) none)) (some (.inr (Sum.inl (s.2.2.2.2.2.1,()))))
def a8K(x:((List Int)×Z11)):Option ((List Int)×Int):= (show Option Z72 from(a6i (x.2.2.1,x.2.2.2)).bind fun y1=> cond (!y1) (some (x.1,x.2.1,x.2.2.1,x.2.2.2,true,())) (some (x.1,x.2.1,x.2.2.1,x.2.2.2,(x.1.length:Int) != (x.2.2.1.length:Int),()))).bind fun z2=> cond z2.2.2.2.2.1 (some ([],1)) ((show Option Z72 from(a3t z2.1).bind fun y3=> cond (!y3) (some (z2.1,z2.2.1,z2.2.2.1,z2.2.2.2.1,true,())) ((a3t z2.2.1).bind fun y4=> some (z2.1,z2.2.1,z2.2.2.1,z2.2.2.2.1,!y4,()))).bind fun z5=> cond z5.2.2.2.2.1 (some ([],6)) (cond ((decide (0≤(wrap .i64 ((z5.1.length:Int)+(z5.2.1.length:Int)))))&&(lim (a01 (wrap .i64 ((z5.1.length:Int)+(z5.2.1.length:Int)))))) (cond (lim (0+(a03 z5.1))) ((a0e a8l (z5.2.2.1,z5.2.2.2.1,z5.2.1,(z5.2.1.length:Int),0,a04 [] z5.1,())).bind fun w9=> match w9 with |.inl a10=>some (a10.1,0) |.inr b11=>some (b11.2.1,b11.1)) none) none))
def c0i:FSem:=⟨[.v QL,.v QL,.v QL,.v QI],[.o QI,.v QI],a8K⟩
def e0T:Hints:=⟨[(506,[.sv 2 QL,.sv 3 QI,.sv 42 QL,.sv 43 QI,.sv 44 QI,.own 10 10 QI],[(.exit 0,[.own 10 10 QI]),(.ret,[.sv 9 QI,.own 8 8 QI])])],[(6,[(.normal,[.sv 0 QL,.sv 1 QL,.sv 2 QL,.sv 3 QI,.sv 24 .bool])]),(14,[(.normal,[.sv 0 QL,.sv 1 QL,.sv 2 QL,.sv 3 QI,.sv 32 .bool])])],[]⟩
def b0h(s:Z79):Option (Z79 ⊕ Z45):= cond (decide (s.2.2.2.1<s.2.2.1)) ((a0r s.2.1 s.2.2.2.1).bind fun x3=> (a6a (s.2.2.2.2.1,s.2.2.2.1,s.1,s.2.2.2.2.2.1)).bind fun y4=> (a8W (wrap .i64 (x3+y4))).bind fun y5=> cond (!y5) (some (.inr (Sum.inr ((6,[],()))))) (cond (lim ((a03 s.2.2.2.2.1)+1)) (some (.inl (s.1,s.2.1,s.2.2.1,wrap .i64 (s.2.2.2.1+1),a04 s.2.2.2.2.1 [wrap .i64 (x3+y4)],s.2.2.2.2.2.1,()))) none)) (some (.inr (Sum.inl (s.2.2.2.2.1,()))))
def b4b(x:Z12):Option ((List Int)×Int):= (b0d (x.2.1,x.2.2)).bind fun y1=> cond (!y1) (some ([],1)) ((a5Z x.1).bind fun y2=> cond (!y2) (some ([],6)) (cond ((decide (0≤(x.1.length:Int)))&&(lim (a01 (x.1.length:Int)))) ((a0e b0h (x.2.1,x.1,(x.1.length:Int),0,[],x.2.2,())).bind fun w6=> match w6 with |.inl a7=>some (a7.1,0) |.inr b8=>some (b8.2.1,b8.1)) none))
def c2S:FSem:=⟨[.v QL,.v QI,.v (.arr 3 QI)],[.o QI,.v QI],b4b⟩
def e0U:Hints:=⟨[(250,[.sv 1 QI,.sv 22 QL,.sv 23 QI,.sv 24 QI,.own 8 8 QI,.vp 5 (.arr 3 QI)],[(.exit 0,[.own 8 8 QI]),(.ret,[.sv 7 QI,.own 6 6 QI])])],[],[]⟩
def a6Z(s:(Int×(Int×((List Int)×Z82)))):Option ((Int×(Int×((List Int)×Z82))) ⊕ (Z28 ⊕ Z28)):= cond (decide (s.2.1<s.1)) (cond ((decide (0≤s.2.1))&&(decide (s.2.1<(s.2.2.2.2.1.length:Int)))) ((a2R s.2.2.2.2.2.1).bind fun y6=> (a7T (wrap .i64 (y6.1+(a02 s.2.2.2.2.1 (a01 s.2.1) 0)))).bind fun y7=> cond (!y7) (some (.inr (Sum.inr (([],6,s.2.2.2.2.1,()))))) ((a4z (y6.2,wrap .i64 (y6.1+(a02 s.2.2.2.2.1 (a01 s.2.1) 0)))).bind fun y8=> cond ((decide (0≤s.2.1))&&(decide (s.2.1<(s.2.2.2.2.1.length:Int)))) (some (.inl (s.1,wrap .i64 (s.2.1+1),s.2.2.1,s.2.2.2.1,a05 s.2.2.2.2.1 (a01 s.2.1) (wrap .i64 (y6.1+(a02 s.2.2.2.2.1 (a01 s.2.1) 0))),y8,()))) none)) none) (some (.inr (Sum.inl (s.2.2.1,s.2.2.2.1,s.2.2.2.2.1,()))))
def a9m(k:Int)(v:(Int×Int×Unit))(s:(Z5×Z28)):Option ((Z5×Z28) ⊕ (Ex×Z5×Z28)):= (b0Q v).bind fun y4=> cond (y4.2 != 0) (some (.inr (.ret,s.1,[],y4.2,s.2.2.2.1,()))) ((a0e a6Z ((s.2.2.2.1.length:Int),0,s.2.1,s.2.2.1,s.2.2.2.1,y4.1,())).bind fun w9=> match w9 with |.inl a10=>some (.inl (s.1,a10.1,a10.2.1,a10.2.2.1,())) |.inr b11=>some (.inr (.ret,s.1,b11.1,b11.2.1,b11.2.2.1,())))
def b2C(x:Z27):Option ((List Int)×Int):= (a8V x.2).bind fun y1=> cond (!y1) (some ([],1)) ((a6V x.1).bind fun y2=> cond (!y2) (some ([],6)) ((a1C x.1).bind fun y3=> cond (lim (a03 x.2)) ((b3S a9m x.2 (a03 x.2) (x.2,[],0,y3,())).bind fun w12=> match w12 with |.inl a13=>some (a13.2.2.2.1,0) |.inr (.normal,a14)=>some (a14.2.2.2.1,0) |.inr (.exit e15,a14)=>(cond (e15==0) (some (a14.2.2.2.1,0)) none) |.inr (.ret,a14)=>some (a14.2.1,a14.2.2.1)) none))
def a9J:FSem:=⟨[.v QL,.v (.list false Q4)],[.v QL,.v QI],b2C⟩
def e0V:Hints:=⟨[(8046,[.sv 35 QI,.sv 36 QI,.box 1001004 QL,.box 1001005 QI,.box 1001006 (.list true QI),.box 1028 Q9,.ptr 4 1001004 [],.ptr 5 1001005 [],.ptr 6 1001006 [],.ptr 9 1028 [],.ref 34 1001006 []],[(.exit 2,[.box 1001004 QL,.box 1001005 QI,.box 1001006 (.list true QI),.ptr 4 1001004 [],.ptr 5 1001005 [],.ptr 6 1001006 []]),(.ret,[.box 1001004 QL,.box 1001005 QI,.box 1001006 (.list true QI),.ptr 4 1001004 [],.ptr 5 1001005 [],.ptr 6 1001006 []])])],[],[]⟩
def d5H:Cx:=c3G [(87,a1l),(219,b3U),(259,b2v),(261,b7W),(262,a5K),(263,b2u),(264,a9f)] [(6,.list true QI)] [0,1,9,10,11,12,13] [56]
def d7x:HintR:=⟨22,Q4,260,295,[4,5,6],[.sv 22 (.list false Q4),.box 1001004 QL,.box 1001005 QI,.box 1001006 (.list true QI),.ptr 4 1001004 [],.ptr 5 1001005 [],.ptr 6 1001006 []]⟩
theorem d7U(x):d1O d5H e0V d7x Tryz.f193 a9J.ps a9J.rs x=a9J.F x:=by kernel_rfl
def b0i(s:Z56):Option (Z56 ⊕ Z45):= cond (decide (s.2.2.2.1<s.2.2.1)) ((a0r s.2.1 s.2.2.2.1).bind fun x2=> (show Option (Int×Int×Z61)from(a6D x2).bind fun y3=> cond (!y3) (some (s.1,x2,s.2.1,s.2.2.1,s.2.2.2.1,true,s.2.2.2.2.1,())) (cond (decide (s.1<0)) none ((a6D (a0F .i64 x2 s.1)).bind fun y4=> some (s.1,x2,s.2.1,s.2.2.1,s.2.2.2.1,!y4,s.2.2.2.2.1,())))).bind fun z5=> cond z5.2.2.2.2.2.1 (some (.inr (Sum.inr ((6,[],()))))) (cond (decide (z5.1<0)) none (cond (lim ((a03 z5.2.2.2.2.2.2.1)+1)) (some (.inl (z5.1,z5.2.2.1,z5.2.2.2.1,wrap .i64 (z5.2.2.2.2.1+1),a04 z5.2.2.2.2.2.2.1 [a0F .i64 z5.2.1 z5.1],()))) none))) (some (.inr (Sum.inl (s.2.2.2.2.1,()))))
def b0U(x:((List Int)×Int)):Option ((List Int)×Int):= (show Option Z18 from cond (decide (x.2<0)) (some (x.1,x.2,true,())) (some (x.1,x.2,decide (x.2 > 30),()))).bind fun z1=> cond z1.2.2.1 (some ([],1)) ((a0e b0i (z1.2.1,z1.1,(z1.1.length:Int),0,[],())).bind fun w6=> match w6 with |.inl a7=>some (a7.1,0) |.inr b8=>some (b8.2.1,b8.1))
def c2T:FSem:=⟨[.v QL,.v QI],[.o QI,.v QI],b0U⟩
def e0W:Hints:=⟨[(122,[.sv 1 QI,.sv 15 QL,.sv 16 QI,.sv 17 QI,.own 6 6 QI],[(.exit 0,[.own 6 6 QI]),(.ret,[.sv 5 QI,.own 4 4 QI])])],[(6,[(.normal,[.sv 0 QL,.sv 1 QI,.sv 14 .bool])]),(15666,[(.normal,[.sv 1 QI,.sv 8 QI,.sv 15 QL,.sv 16 QI,.sv 17 QI,.sv 30 .bool,.own 6 6 QI])])],[]⟩
def a8L(s:d1Z):Option (d1Z ⊕ ((List Int)×Unit)):= cond (decide (s.2.1<s.1)) ((a0r s.2.2.2.1.2.2.2.2.2.2.2.2.1 0).bind fun x1=> cond (lim ((a03 s.2.2.1)+1)) (some (.inl (s.1,wrap .i64 (s.2.1+1),a04 s.2.2.1 [x1],s.2.2.2.1,()))) none) (some (.inr (s.2.2.1,())))
def b5t(x:a9G):Option ((List Int)×Int):= (show Option (((List Int)×(Int×c1d)) ⊕ Z3)from cond (x.1.1==0) ((a0e a8L (x.2,0,[],x.1,())).bind fun w2=> some (Sum.inr ((0,w2.1,())))) (cond (x.1.1==1) (some (Sum.inl (x.1.2.2.2.2.2.2.2.2.1,0,x.1,()))) (cond (x.1.1==2) ((b2B (x.1.2.2.2.2.2.2.2.2.1,x.1.2.2.2.2.2.2.2.2.2.2.1,x.1.2.2.1)).bind fun y3=> some (Sum.inl (y3.1,y3.2,x.1,()))) (cond (x.1.1==3) ((a8K (x.1.2.2.2.2.2.2.2.2.1,x.1.2.2.2.2.2.2.2.2.2.2.1,x.1.2.2.2.2.2.1,x.1.2.2.2.1)).bind fun y4=> some (Sum.inl (y4.1,y4.2,x.1,()))) (cond (x.1.1==4) ((a8K (x.1.2.2.2.2.2.2.2.2.1,x.1.2.2.2.2.2.2.2.2.2.2.1,x.1.2.2.2.2.2.1,x.1.2.2.2.1)).bind fun y5=> cond (y5.2==0) ((b4b (y5.1,x.1.2.2.2.2.1,x.1.2.2.2.2.2.2.1)).bind fun y6=> some (Sum.inl (y6.1,y6.2,x.1,()))) (some (Sum.inl (y5.1,y5.2,x.1,())))) (cond (x.1.1==5) ((b2C (x.1.2.2.2.2.2.2.2.2.2.2.1,x.1.2.2.2.2.2.2.2.1)).bind fun y7=> some (Sum.inl (y7.1,y7.2,x.1,()))) (some (Sum.inl ([],0,x.1,()))))))))).bind fun z8=> match z8 with |.inl a9=>(cond (a9.2.1 != 0) (some ([],a9.2.1)) ((b0U (a9.1,a9.2.2.1.2.1)).bind fun y11=> some (y11.1,y11.2))) |.inr b10=>some (b10.2.1,b10.1)
def c4L:FSem:=⟨[.v Q19,.v QI],[.o QI,.v QI],b5t⟩
def e0X:Hints:=⟨[(3922,[.sv 12 QI,.sv 13 QI,.own 6 6 QI,.vp 2 Q19],[(.exit 1,[.own 6 6 QI])])],[(15,[(.normal,[.sv 6 QL,.sv 7 QI,.vp 2 Q19]),(.ret,[.sv 5 QI,.own 4 6 QI])])],[]⟩
def b4y(x:a9G):Option ((List Int)×Int):= (b2A (x.1,x.2)).bind fun y1=> cond (!y1) (some ([],1)) ((b5t (x.1,x.2)).bind fun y2=> cond (y2.2 != 0) (some ([],1)) (some (y2.1,0)))
def c1m:FSem:=⟨[.v Q19,.v QI],[.o QI,.v QI],b4y⟩
def H45:Hints:=⟨[],[],[]⟩
def b7b(x:a9G):Option Bool:= (b4y (x.1,x.2)).bind fun y1=> some (y1.2==0)
def c6V:FSem:=⟨[.v Q19,.v QI],[.v .bool],b7b⟩
def e0Y:Hints:=⟨[],[],[]⟩
def a4m(x:(Z4×Int)):Option Z4:= (show Option Z34 from cond ((a34 x.1.2.1 8)==0) (cond (lim ((a03 x.1.1)+1)) (some (x.2,(a04 x.1.1 [0],x.1.2),())) none) (some (x.2,x.1,()))).bind fun z1=> cond ((decide (0≤(wrap .i64 (a23 z1.2.1.2.1 8))))&&(decide ((wrap .i64 (a23 z1.2.1.2.1 8))<(z1.2.1.1.length:Int)))) (cond (decide ((wrap .i64 (7-(a34 z1.2.1.2.1 8)))<0)) none (cond ((decide (0≤(wrap .i64 (a23 z1.2.1.2.1 8))))&&(decide ((wrap .i64 (a23 z1.2.1.2.1 8))<(z1.2.1.1.length:Int)))) (some (a05 z1.2.1.1 (a01 (wrap .i64 (a23 z1.2.1.2.1 8))) (bits .u8 .or (a02 z1.2.1.1 (a01 (wrap .i64 (a23 z1.2.1.2.1 8))) 0) (a0F .u8 z1.1 (wrap .i64 (7-(a34 z1.2.1.2.1 8))))),wrap .i64 (z1.2.1.2.1+1),z1.2.1.2.2)) none)) none
def b0F:FSem:=⟨[.r false (.b Q5),.v (.int .u8)],[],a4m⟩
def e0Z:Hints:=⟨[],[(1,[(.normal,[.sv 1 (.int .u8),.box pinned Q5,.ptr 0 pinned []])])],[(2,[.p,.p,.q,.q,.p,.p,.q,.q,.v,.q,.q,.v,.p,.p,.q,.q,.v,.v,.v,.x,.x,.x])]⟩
def a5L(s:Z51):Option (Z51 ⊕ Z20):= cond (decide (s.2.1≥0)) (cond (decide (s.2.1<0)) none ((a4m (s.2.2.1,wrap .u8 (bits .u64 .and (a0l .u64 s.1 s.2.1) 1))).bind fun y2=> some (.inl (s.1,wrap .i64 (s.2.1-1),y2,())))) (some (.inr (s.2.2.1,())))
def a0m(x:(Z4×Int×Int)):Option Z16:= (show Option (Int×Int×Bool×Z20)from cond (decide (x.2.2<0)) (some (x.2.1,x.2.2,true,x.1,())) (cond (decide (x.2.2 > 64)) (some (x.2.1,x.2.2,true,x.1,())) (cond (decide (x.2.2<0)) none (some (x.2.1,x.2.2,(a0l .u64 x.2.1 x.2.2) != 0,x.1,()))))).bind fun z1=> cond z1.2.2.1 (some (1,z1.2.2.2.1)) ((a0e a5L (z1.1,wrap .i64 (z1.2.1-1),z1.2.2.2.1,())).bind fun w3=> some (0,w3.1))
def a4n:FSem:=⟨[.r false (.b Q5),.v (.int .u64),.v QI],[.v QI],a0m⟩
def e1a:Hints:=⟨[(58,[.sv 1 (.int .u64),.sv 7 QI,.box pinned Q5,.ptr 0 pinned []],[(.exit 0,[.box pinned Q5])])],[(6,[(.normal,[.sv 1 (.int .u64),.sv 2 QI,.sv 19 .bool,.box pinned Q5,.ptr 0 pinned []])])],[]⟩
def a3X(x:(Z4×Int×Int)):Option Z4:= cond (decide (x.2.2<0)) none ((a0m (x.1,bits .u64 .and (wrap .u64 x.2.1) (wrap .u64 ((a0F .u64 1 x.2.2)-1)),x.2.2)).bind fun y1=> some y1.2)
def b2D:FSem:=⟨[.r false (.b Q5),.v QI,.v QI],[],a3X⟩
def e1b:Hints:=⟨[],[],[]⟩
def a7B(s:Z85):Option (Z85 ⊕ Z20):= cond (decide (s.2.2.2.1<s.2.2.1)) ((a0r s.2.1 s.2.2.2.1).bind fun x6=> (a3X (s.2.2.2.2.1,x6,s.1)).bind fun y7=> some (.inl (s.1,s.2.1,s.2.2.1,wrap .i64 (s.2.2.2.1+1),y7,()))) (some (.inr (s.2.2.2.2.1,())))
def b0j(x:(Z4×a2a)):Option Z4:= (a0m (x.1,wrap .u64 (wrap .i64 ((x.2.2.2.2.2.2.1.length:Int)-1)),5)).bind fun y1=> (a0m (y1.2,wrap .u64 x.2.2.2.2.1,4)).bind fun y2=> (a4G x.2.2.2.2.2.2.1).bind fun y3=> (a0m (y2.2,wrap .u64 y3,5)).bind fun y4=> (a0e a7B (y3,x.2.2.2.2.2.2.1,(x.2.2.2.2.2.2.1.length:Int),0,y4.2,())).bind fun w8=> some w8.1
def b8F:FSem:=⟨[.r false (.b Q5),.v Q19],[],b0j⟩
def e1c:Hints:=⟨[(254,[.sv 4 QI,.sv 27 QL,.sv 28 QI,.sv 29 QI,.box pinned Q5,.ptr 0 pinned []],[(.exit 0,[.box pinned Q5])])],[],[]⟩
def a4R(s:Z51):Option (Z51 ⊕ Z20):= cond (decide (s.2.1<s.1)) ((a4m (s.2.2.1,0)).bind fun y2=> some (.inl (s.1,wrap .i64 (s.2.1+1),y2,()))) (some (.inr (s.2.2.1,())))
def a3h(x:(Z4×Int)):Option Z16:= (show Option (Int×Bool×Z20)from cond (decide (x.2<0)) (some (x.2,true,x.1,())) (some (x.2,decide (x.2 > 4096),x.1,()))).bind fun z1=> cond z1.2.1 (some (1,z1.2.2.1)) ((a0e a4R (z1.1,0,z1.2.2.1,())).bind fun w3=> (a4m (w3.1,1)).bind fun y4=> some (0,y4))
def b3l:FSem:=⟨[.r false (.b Q5),.v QI],[.v QI],a3h⟩
def e1d:Hints:=⟨[(58,[.sv 11 QI,.sv 12 QI,.box pinned Q5,.ptr 0 pinned []],[(.exit 0,[.box pinned Q5,.ptr 0 pinned []])])],[(6,[(.normal,[.sv 1 QI,.sv 10 .bool,.box pinned Q5,.ptr 0 pinned []])])],[]⟩
def b1n(s:(Int×((List Int)×Z76))):Option ((Int×((List Int)×Z76)) ⊕ ((Int×((List Int)×Z20)) ⊕ Z34)):= cond (decide (s.2.2.2.2.1<s.2.2.2.1)) ((a0r s.2.2.1 s.2.2.2.2.1).bind fun x2=> (a8Y x2).bind fun y3=> cond (!y3) (some (.inr (Sum.inr ((1,s.2.2.2.2.2.1,()))))) (some (.inl (s.1,s.2.1,s.2.2.1,s.2.2.2.1,wrap .i64 (s.2.2.2.2.1+1),s.2.2.2.2.2.1,())))) (some (.inr (Sum.inl (s.1,s.2.1,s.2.2.2.2.2.1,()))))
def a8M(s:Z85):Option (Z85 ⊕ Z20):= cond (decide (s.2.2.2.1<s.2.2.1)) ((a0r s.2.1 s.2.2.2.1).bind fun x7=> (b0T x7).bind fun y8=> cond (decide (s.1<0)) none (cond (decide ((a0l .u64 y8 s.1)<32)) ((a3h (s.2.2.2.2.1,wrap .i64 (a0l .u64 y8 s.1))).bind fun y9=> cond (decide (s.1<0)) none ((a0m (y9.2,wrap .u64 (y8-(a0F .u64 (a0l .u64 y8 s.1) s.1)),s.1)).bind fun y10=> some (.inl (s.1,s.2.1,s.2.2.1,wrap .i64 (s.2.2.2.1+1),y10.2,())))) ((a3h (s.2.2.2.2.1,32)).bind fun y11=> (a0m (y11.2,y8,32)).bind fun y12=> some (.inl (s.1,s.2.1,s.2.2.1,wrap .i64 (s.2.2.2.1+1),y12.2,()))))) (some (.inr (s.2.2.2.2.1,())))
def b5u(x:(Z4×(Int×(List Int)))):Option Z16:= (a6l x.2.1).bind fun y1=> cond (!y1) (some (1,x.1)) ((a0e b1n (x.2.1,x.2.2,x.2.2,(x.2.2.length:Int),0,x.1,())).bind fun w4=> match w4 with |.inl a5=>((a0e a8M (a5.1,a5.2.1,(a5.2.1.length:Int),0,a5.2.2.1,())).bind fun w13=> some (0,w13.1)) |.inr b6=>some (b6.1,b6.2.1))
def c4M:FSem:=⟨[.r false (.b Q5),.v QI,.v QL],[.v QI],b5u⟩
def e1e:Hints:=⟨[(58,[.sv 1 QI,.sv 2 QL,.sv 16 QL,.sv 17 QI,.sv 18 QI,.box pinned Q5,.ptr 0 pinned []],[(.exit 0,[.sv 1 QI,.sv 2 QL,.box pinned Q5,.ptr 0 pinned []]),(.ret,[.sv 6 QI,.box pinned Q5])]),(122,[.sv 1 QI,.sv 26 QL,.sv 27 QI,.sv 28 QI,.box pinned Q5,.ptr 0 pinned []],[(.exit 2,[.box pinned Q5])])],[],[]⟩
def b0k(s:((List Int)×(Int×Int×Int×Z98))):Option (((List Int)×(Int×Int×Int×Z98)) ⊕ Z98):= cond (decide (s.2.2.2.2.2.2.1<s.2.2.2.2.2.1)) ((a0r s.2.2.2.2.1 s.2.2.2.2.2.2.1).bind fun x11=> cond (decide (s.2.1<0)) none ((a0m (s.2.2.2.2.2.2.2.2.1,bits .u64 .and (wrap .u64 x11) (wrap .u64 ((a0F .u64 1 s.2.1)-1)),s.2.1)).bind fun y12=> some (.inl (s.1,s.2.1,s.2.2.1,s.2.2.2.1,s.2.2.2.2.1,s.2.2.2.2.2.1,wrap .i64 (s.2.2.2.2.2.2.1+1),s.2.2.2.2.2.2.2.1,y12.2,s.2.2.2.2.2.2.2.2.2.1,())))) (some (.inr (s.1,s.2.2.1,s.2.2.2.1,s.2.2.2.2.2.2.2.1,s.2.2.2.2.2.2.2.2.1,s.2.2.2.2.2.2.2.2.2.1,())))
def a6b(s:Z98):Option (Z98 ⊕ Z20):= cond (decide (s.2.2.1<s.2.1)) (cond ((decide (0≤s.2.2.1))&&(decide (s.2.2.1<(s.2.2.2.1.length:Int)))) (cond ((decide (0≤(a02 s.2.2.2.1 (a01 s.2.2.1) 0)))&&(decide ((a02 s.2.2.2.1 (a01 s.2.2.1) 0)≤(s.1.length:Int)))) (cond ((decide (0≤(a02 s.2.2.2.1 (a01 s.2.2.1) 0)))&&(decide ((a02 s.2.2.2.1 (a01 s.2.2.1) 0)≤(s.1.length:Int)))) ((a0r s.2.2.2.2.2.1.2.1 s.2.2.1).bind fun x4=> (a0m (s.2.2.2.2.1,wrap .u64 x4,5)).bind fun y5=> (a0r s.2.2.2.2.2.1.2.1 s.2.2.1).bind fun x6=> cond (x6 != 31) ((a0r s.2.2.2.2.2.1.2.1 s.2.2.1).bind fun x7=> (b5u (y5.2,x7,a07 (a01 (a02 s.2.2.2.1 (a01 s.2.2.1) 0)) s.1)).bind fun y8=> some (.inl (a22 (a01 (a02 s.2.2.2.1 (a01 s.2.2.1) 0)) (a07 (a03 s.1) s.1),s.2.1,wrap .i64 (s.2.2.1+1),s.2.2.2.1,y8.2,s.2.2.2.2.2.1,()))) ((a4G (a07 (a01 (a02 s.2.2.2.1 (a01 s.2.2.1) 0)) s.1)).bind fun y9=> (a0m (y5.2,wrap .u64 y9,5)).bind fun y10=> (a0e b0k (a22 (a01 (a02 s.2.2.2.1 (a01 s.2.2.1) 0)) (a07 (a03 s.1) s.1),y9,s.2.1,s.2.2.1,a07 (a01 (a02 s.2.2.2.1 (a01 s.2.2.1) 0)) s.1,((a03 (a07 (a01 (a02 s.2.2.2.1 (a01 s.2.2.1) 0)) s.1):Nat):Int),0,s.2.2.2.1,y10.2,s.2.2.2.2.2.1,())).bind fun w13=> some (.inl (w13.1,w13.2.1,wrap .i64 (w13.2.2.1+1),w13.2.2.2.1,w13.2.2.2.2.1,w13.2.2.2.2.2.1,())))) none) none) none) (some (.inr (s.2.2.2.2.1,())))
def b4c(x:(Z4×Z57)):Option Z16:= (a6m (x.2.1,x.2.2.1,x.2.2.2.1,x.2.2.2.2)).bind fun y1=> cond (y1==0) (some (1,x.1)) ((a0m (x.1,wrap .u64 x.2.1.1,4)).bind fun y2=> (a5s (x.2.1.1,x.2.2.1,x.2.2.2.1)).bind fun y3=> (a0e a6b (x.2.2.2.2,(y3.length:Int),0,y3,y2.2,x.2.1,())).bind fun w14=> some (0,w14.1))
def c2U:FSem:=⟨[.r false (.b Q5),.v Q7,.v QI,.v QI,.v QL],[.v QI],b4c⟩
def e1f:Hints:=⟨[(122,[.sv 4 QL,.sv 33 QI,.sv 34 QI,.own 32 1032 QI,.box pinned Q5,.ptr 0 pinned [],.vp 6 Q7],[(.exit 0,[.box pinned Q5])]),(2005502,[.sv 4 QL,.sv 14 QI,.sv 33 QI,.sv 34 QI,.sv 73 QL,.sv 74 QI,.sv 75 QI,.own 32 1032 QI,.box pinned Q5,.ptr 0 pinned [],.vp 6 Q7],[(.exit 2,[.sv 4 QL,.sv 33 QI,.sv 34 QI,.own 32 1032 QI,.box pinned Q5,.ptr 0 pinned [],.vp 6 Q7])])],[],[]⟩
def b2E(s:(Int×(Int×((List Int)×d2a)))):Option ((Int×(Int×((List Int)×d2a))) ⊕ b7V):= cond (decide (s.2.2.2.1<3)) ((a0r s.2.2.1 s.2.2.2.1).bind fun x8=> (a3X (s.2.2.2.2.1,x8,8)).bind fun y9=> some (.inl (s.1,s.2.1,s.2.2.1,wrap .i64 (s.2.2.2.1+1),y9,s.2.2.2.2.2.1,()))) (some (.inr (s.1,s.2.1,s.2.2.2.2.1,s.2.2.2.2.2.1,())))
def b2F(s:(Int×Int×Z5×b7V)):Option ((Int×Int×Z5×b7V) ⊕ b7V):= cond (decide (s.2.2.2.2.1<s.2.2.2.1)) ((a0r s.2.2.1 s.2.2.2.2.1).bind fun x18=> (a0m (s.2.2.2.2.2.1,wrap .u64 (wrap .i64 (x18.1-1)),5)).bind fun y19=> (a0m (y19.2,wrap .u64 x18.2.1,4)).bind fun y20=> some (.inl (s.1,s.2.1,s.2.2.1,s.2.2.2.1,wrap .i64 (s.2.2.2.2.1+1),y20.2,s.2.2.2.2.2.2.1,()))) (some (.inr (s.1,s.2.1,s.2.2.2.2.2.1,s.2.2.2.2.2.2.1,())))
def b2G(s:(Int×(Int×((List Int)×b7V)))):Option ((Int×(Int×((List Int)×b7V))) ⊕ d2a):= cond (decide (s.2.2.2.2.1<s.2.2.2.1)) ((a0r s.2.2.1 s.2.2.2.2.1).bind fun x23=> (a3X (s.2.2.2.2.2.1,x23,s.2.1)).bind fun y24=> some (.inl (s.1,s.2.1,s.2.2.1,s.2.2.2.1,wrap .i64 (s.2.2.2.2.1+1),y24,s.2.2.2.2.2.2.1,()))) (some (.inr (s.1,s.2.2.2.2.2.1,s.2.2.2.2.2.2.1,())))
def b7c(x:(Z4×a9G)):Option Z16:= (b7b (x.2.1,x.2.2)).bind fun y1=> cond (!y1) (some (1,x.1)) ((a4G x.2.1.2.2.2.2.2.2.2.2.1).bind fun y2=> (a0m (x.1,wrap .u64 x.2.1.1,3)).bind fun y3=> (a0m (y3.2,wrap .u64 x.2.1.2.1,5)).bind fun y4=> (a0m (y4.2,wrap .u64 y2,5)).bind fun y5=> (show Option b7V from(show Option (b7V ⊕ (b7V ⊕ b7V))from cond (x.2.1.1==2) ((a0m (y5.2,wrap .u64 x.2.1.2.2.1,3)).bind fun y6=> some (Sum.inr (Sum.inl (x.2.2,y2,y6.2,x.2.1,())))) (cond (x.2.1.1==4) ((a0m (y5.2,wrap .u64 (wrap .i64 (x.2.1.2.2.2.2.1-1)),10)).bind fun y7=> (a0e b2E (x.2.2,y2,x.2.1.2.2.2.2.2.2.1,0,y7.2,x.2.1,())).bind fun w10=> some (Sum.inl (w10.1,w10.2.1,w10.2.2.1,w10.2.2.2.1,()))) (cond (x.2.1.1==3) (some (Sum.inl (x.2.2,y2,y5.2,x.2.1,()))) (cond (x.2.1.1==5) (some (Sum.inr (Sum.inr ((x.2.2,y2,y5.2,x.2.1,()))))) (some (Sum.inr (Sum.inl (x.2.2,y2,y5.2,x.2.1,())))))))).bind fun z11=> match z11 with |.inl a12=>((b0j (a12.2.2.1,a12.2.2.2.1)).bind fun y14=> some (a12.1,a12.2.1,y14,a12.2.2.2.1,())) |.inr b13=>(match b13 with |.inl a15=>some (a15.1,a15.2.1,a15.2.2.1,a15.2.2.2.1,()) |.inr b16=>((a0m (b16.2.2.1,wrap .u64 (b16.2.2.2.1.2.2.2.2.2.2.2.1.length:Int),2)).bind fun y17=> (a0e b2F (b16.1,b16.2.1,b16.2.2.2.1.2.2.2.2.2.2.2.1,(b16.2.2.2.1.2.2.2.2.2.2.2.1.length:Int),0,y17.2,b16.2.2.2.1,())).bind fun w21=> some (w21.1,w21.2.1,w21.2.2.1,w21.2.2.2.1,())))).bind fun z22=> (a0e b2G (z22.1,z22.2.1,z22.2.2.2.1.2.2.2.2.2.2.2.2.1,(z22.2.2.2.1.2.2.2.2.2.2.2.2.1.length:Int),0,z22.2.2.1,z22.2.2.2.1,())).bind fun w25=> (a9I w25.2.2.1.1).bind fun y26=> cond (!y26) (some (0,w25.2.1)) ((b4c (w25.2.1,w25.2.2.1.2.2.2.2.2.2.2.2.2.1,w25.1,(w25.2.2.1.2.2.2.2.2.2.2.2.1.length:Int),w25.2.2.1.2.2.2.2.2.2.2.2.2.2.1)).bind fun y27=> some (y27.1,y27.2)))
def c6W:FSem:=⟨[.r false (.b Q5),.v Q19,.v QI],[.v QI],b7c⟩
def H51:Hints:=⟨[(2042,[.sv 2 QI,.sv 7 QI,.sv 94 QL,.sv 95 QI,.sv 96 QI,.box pinned Q5,.ptr 0 pinned [],.vp 4 Q19],[(.exit 9,[.sv 2 QI,.box pinned Q5,.ptr 0 pinned [],.vp 4 Q19])]),(32598,[.sv 2 QI,.sv 7 QI,.sv 75 (.list false Q4),.sv 76 QI,.sv 77 QI,.box pinned Q5,.ptr 0 pinned [],.vp 4 Q19],[(.exit 7,[.sv 2 QI,.sv 7 QI,.box pinned Q5,.ptr 0 pinned [],.vp 4 Q19])]),(260622,[.sv 2 QI,.sv 7 QI,.sv 57 (.arr 3 QI),.sv 58 QI,.box pinned Q5,.ptr 0 pinned [],.vp 4 Q19],[(.exit 5,[.sv 2 QI,.sv 7 QI,.box pinned Q5,.ptr 0 pinned [],.vp 4 Q19])])],[(127,[(.normal,[.sv 2 QI,.sv 7 QI,.box pinned Q5,.ptr 0 pinned [],.vp 4 Q19])]),(4072,[(.normal,[.sv 2 QI,.sv 7 QI,.box pinned Q5,.ptr 0 pinned [],.vp 4 Q19]),(.exit 0,[.sv 2 QI,.sv 7 QI,.box pinned Q5,.ptr 0 pinned [],.vp 4 Q19]),(.exit 4,[.sv 2 QI,.sv 7 QI,.box pinned Q5,.ptr 0 pinned [],.vp 4 Q19])])],[]⟩
def b0G(x:Z4):Option Z16:= some (x.2.1,x)
def b5c:FSem:=⟨[.r false (.b Q5)],[.v QI],b0G⟩
def e1g:Hints:=⟨[],[],[]⟩
def b2H(x:a9G):Option Int:= (b7c (([],0,()),x.1,x.2)).bind fun y1=> cond (y1.1 != 0) (some 0) ((b0G y1.2).bind fun y2=> some y2.1)
def b9w:FSem:=⟨[.v Q19,.v QI],[.v QI],b2H⟩
def H89:Hints:=⟨[],[],[]⟩
def a2s(s:Z47):Option (Z47 ⊕ (Int×Unit)):= cond (decide (s.2.2.2.2.1<s.2.2.2.1)) ((a0r s.2.2.1 s.2.2.2.2.1).bind fun x1=> cond (decide ((wrap .i64 (s.2.2.2.2.1+s.1))≥4)) (some (.inl (s.1,wrap .i64 (s.2.1+(a1D x1 (wrap .i64 (0-x1)))),s.2.2.1,s.2.2.2.1,wrap .i64 (s.2.2.2.2.1+1),()))) (some (.inl (s.1,s.2.1,s.2.2.1,s.2.2.2.1,wrap .i64 (s.2.2.2.2.1+1),())))) (some (.inr (s.2.1,())))
def a6I(x:((List Int)×Int)):Option Int:= (a0e a2s (x.2,0,x.1,(x.1.length:Int),0,())).bind fun w2=> some w2.1
def c0j:FSem:=⟨[.v QL,.v QI],[.v QI],a6I⟩
def e1h:Hints:=⟨[(58,[.sv 1 QI,.sv 5 QI,.sv 8 QL,.sv 9 QI,.sv 10 QI],[(.exit 0,[.sv 5 QI])])],[],[]⟩
def a1v(s:Z31):Option (Z31 ⊕ (Int×Unit)):= cond (decide (s.2.2.2.1≤4)) ((a3W (s.1,s.2.2.2.1)).bind fun y1=> cond (y1.2 != 0) (some (.inl (s.1,s.2.1,s.2.2.1,wrap .i64 (s.2.2.2.1+1),()))) ((a6I (y1.1,s.2.2.2.1)).bind fun y2=> (show Option ((List Int)×Z39)from cond (decide (s.2.2.1<0)) (some (s.1,s.2.1,s.2.2.1,s.2.2.2.1,y2,true,())) (some (s.1,s.2.1,s.2.2.1,s.2.2.2.1,y2,decide (y2<s.2.2.1),()))).bind fun z3=> cond z3.2.2.2.2.2.1 (some (.inl (z3.1,z3.2.2.2.1,z3.2.2.2.2.1,wrap .i64 (z3.2.2.2.1+1),()))) (some (.inl (z3.1,z3.2.1,z3.2.2.1,wrap .i64 (z3.2.2.2.1+1),()))))) (some (.inr (s.2.1,())))
def a4Y(x:(List Int)):Option Int:= (a0e a1v (x,0,(-1),0,())).bind fun w4=> some w4.1
def c1n:FSem:=⟨[.v QL],[.v QI],a4Y⟩
def e1i:Hints:=⟨[(58,[.sv 0 QL,.sv 3 QI,.sv 4 QI,.sv 5 QI],[(.exit 0,[.sv 3 QI])])],[(7463,[(.normal,[.sv 0 QL,.sv 3 QI,.sv 4 QI,.sv 5 QI,.sv 8 QI,.sv 30 .bool])])],[]⟩
def a2i(x:Int):Option Int:= some (a2v (a1D x (-1048576)) 1048575)
def b3B:FSem:=⟨[.v QI],[.v QI],a2i⟩
def e1j:Hints:=⟨[],[],[]⟩
def a2n(s:Z70):Option (Z70 ⊕ Z58):= cond (decide (s.2.1<0)) none ((a2i (a0l .i64 s.2.2.1 s.2.1)).bind fun y2=> cond (decide (s.2.1<0)) none (cond (y2 != (a0l .i64 s.2.2.1 s.2.1)) (some (.inl (s.1,wrap .i64 (s.2.1+1),s.2.2.1,s.2.2.2.1,s.2.2.2.2.1,s.2.2.2.2.2.1,()))) (some (.inr (s.1,s.2.1,s.2.2.2.1,s.2.2.2.2.1,s.2.2.2.2.2.1,())))))
def a2J(s:Z58):Option (Z58 ⊕ Z4):= cond (decide (s.2.2.2.2.1<s.2.2.2.1)) ((a0r s.2.2.1 s.2.2.2.2.1).bind fun x1=> (a0e a2n (s.1,s.2.1,x1,s.2.2.1,s.2.2.2.1,s.2.2.2.2.1,())).bind fun w3=> some (.inl (w3.1,w3.2.1,w3.2.2.1,w3.2.2.2.1,wrap .i64 (w3.2.2.2.2.1+1),()))) (some (.inr (s.1,s.2.1,())))
def a2K(s:Z56):Option (Z56 ⊕ ((List Int)×Unit)):= cond (decide (s.2.2.2.1<s.2.2.1)) ((a0r s.2.1 s.2.2.2.1).bind fun x5=> cond (decide (s.1<0)) none (cond ((decide (0≤s.2.2.2.1))&&(decide (s.2.2.2.1<(s.2.2.2.2.1.length:Int)))) (some (.inl (s.1,s.2.1,s.2.2.1,wrap .i64 (s.2.2.2.1+1),a05 s.2.2.2.2.1 (a01 s.2.2.2.1) (a0l .i64 x5 s.1),()))) none)) (some (.inr (s.2.2.2.2.1,())))
def a3Y(x:(List Int)):Option (List Int):= (a0e a2J (x,0,x,(x.length:Int),0,())).bind fun w4=> cond ((decide (0≤(w4.1.length:Int)))&&((decide ((w4.1.length:Int)≤(w4.1.length:Int)))&&(lim (a01 (w4.1.length:Int))))) ((a0e a2K (w4.2.1,w4.1,(w4.1.length:Int),0,a00 (a01 (w4.1.length:Int)) 0,())).bind fun w6=> some w6.1) none
def b7d:FSem:=⟨[.v QL],[.o QI],a3Y⟩
def e1k:Hints:=⟨[(58,[.sv 0 QL,.sv 3 QI,.sv 9 QL,.sv 10 QI,.sv 11 QI],[(.exit 0,[.sv 0 QL,.sv 3 QI])]),(250,[.sv 3 QI,.sv 29 QL,.sv 30 QI,.sv 31 QI,.own 6 6 QI],[(.exit 4,[.own 6 6 QI])]),(7474,[.sv 0 QL,.sv 3 QI,.sv 5 QI,.sv 9 QL,.sv 10 QI,.sv 11 QI],[(.exit 2,[.sv 0 QL,.sv 3 QI,.sv 9 QL,.sv 10 QI,.sv 11 QI])])],[],[(5,[.v,.v,.v,.v,.v,.v,.v,.x])]⟩
def a2A(s:Z59):Option (Z59 ⊕ (Int×Int×Unit)):= cond (decide (s.2.2.2.2.1<(s.1.length:Int))) ((a0r s.1 s.2.2.2.2.1).bind fun x1=> (a0r s.2.1 (wrap .i64 (s.2.2.2.2.1-1))).bind fun x2=> (a0r s.1 s.2.2.2.2.1).bind fun x3=> (a0r s.1 s.2.2.2.2.1).bind fun x4=> (a0r s.2.1 (wrap .i64 (s.2.2.2.2.1-1))).bind fun x5=> (a0r s.2.1 (wrap .i64 (s.2.2.2.2.1-1))).bind fun x6=> some (.inl (s.1,s.2.1,wrap .i64 (s.2.2.1+(wrap .i64 (x1*x2))),wrap .i64 (s.2.2.2.1+(wrap .i64 ((wrap .i64 (x3*x4))+(wrap .i64 (x5*x6))))),wrap .i64 (s.2.2.2.2.1+1),()))) (some (.inr (s.2.2.1,s.2.2.2.1,())))
def a3l(s:(Int×Int×Unit)):Option ((Int×Int×Unit) ⊕ (Int×Int×Unit)):= cond (decide (s.2.1≥1099511627776)) (some (.inl (a0l .i64 s.1 1,a0l .i64 s.2.1 1,()))) (some (.inr (s.1,s.2.1,())))
def a3i(x:Z11):Option Int:= (a0e a2A (x.1,x.2.1,0,0,x.2.2,())).bind fun w7=> (a0e a3l (w7.1,w7.2.1,())).bind fun w8=> cond (w8.2.1==0) (some 0) (cond (w8.2.1==0) none ((show Option (Int×Unit)from cond (w8.2.1==0) none (cond (decide ((a34 (a0F .i64 w8.1 15) w8.2.1)<0)) (some (wrap .i64 ((wrap .i64 (a23 (a0F .i64 w8.1 15) w8.2.1))-1),())) (some (wrap .i64 (a23 (a0F .i64 w8.1 15) w8.2.1),())))).bind fun z9=> some (a2v (a1D z9.1 (-16383)) 16383)))
def b3m:FSem:=⟨[.v QL,.v QL,.v QI],[.v QI],a3i⟩
def e1l:Hints:=⟨[(58,[.sv 0 QL,.sv 1 QL,.sv 7 QI,.sv 8 QI,.sv 9 QI],[(.exit 0,[.sv 7 QI,.sv 8 QI])]),(60,[.sv 7 QI,.sv 8 QI],[(.exit 2,[.sv 7 QI,.sv 8 QI])])],[(255,[(.normal,[.sv 10 QI])])],[(5,[.v,.v,.v,.v,.v,.v,.v,.v,.v,.v,.v,.x,.x]),(6,[.v,.v,.v,.v,.v,.v,.v,.v,.v,.v,.v,.v,.v,.v,.v,.v,.v,.v,.v,.v,.v,.v,.x,.x])]⟩
def a1x(s:(Int×Z81)):Option ((Int×Z81) ⊕ Z68):= cond (decide (s.2.2.2.1≥s.2.1)) (cond ((decide (0≤s.2.2.2.1))&&(decide (s.2.2.2.1<(s.2.2.2.2.1.length:Int)))) (cond ((decide (0≤(wrap .i64 (s.2.2.2.1-1))))&&(decide ((wrap .i64 (s.2.2.2.1-1))<(s.2.2.2.2.2.1.length:Int)))) ((a2i (wrap .i64 ((a02 s.2.2.2.2.1 (a01 s.2.2.2.1) 0)-(a0l .i64 (wrap .i64 (s.2.2.1*(a02 s.2.2.2.2.2.1 (a01 (wrap .i64 (s.2.2.2.1-1))) 0))) 14)))).bind fun y6=> cond ((decide (0≤s.2.2.2.1))&&(decide (s.2.2.2.1<(s.2.2.2.2.1.length:Int)))) ((a2i (wrap .i64 ((a02 s.2.2.2.2.2.1 (a01 (wrap .i64 (s.2.2.2.1-1))) 0)-(a0l .i64 (wrap .i64 (s.2.2.1*(a02 s.2.2.2.2.1 (a01 s.2.2.2.1) 0))) 14)))).bind fun y7=> cond ((decide (0≤s.2.2.2.1))&&(decide (s.2.2.2.1<(s.2.2.2.2.2.1.length:Int)))) (some (.inl (s.1,s.2.1,s.2.2.1,wrap .i64 (s.2.2.2.1-1),a05 s.2.2.2.2.1 (a01 s.2.2.2.1) y6,a05 s.2.2.2.2.2.1 (a01 s.2.2.2.1) y7,s.2.2.2.2.2.2.1,()))) none) none) none) none) (some (.inr (s.1,s.2.1,s.2.2.2.2.1,s.2.2.2.2.2.1,s.2.2.2.2.2.2.1,())))
end Go.Ab
namespace Go.Ab
open IntKind(wrap)
open Go.Proofs
set_option maxRecDepth 100000
set_option linter.unusedVariables false
def a2d(s:Z68):Option (Z68 ⊕ ((List Int)×Unit)):= cond (decide (s.2.1≤s.1)) ((a3i (s.2.2.1,s.2.2.2.1,s.2.1)).bind fun y5=> cond (lim ((a03 s.2.2.2.2.1)+1)) ((a0e a1x (s.1,s.2.1,y5,wrap .i64 ((s.2.2.1.length:Int)-1),s.2.2.1,s.2.2.2.1,a04 s.2.2.2.2.1 [y5],())).bind fun w8=> some (.inl (w8.1,wrap .i64 (w8.2.1+1),w8.2.2.1,w8.2.2.2.1,w8.2.2.2.2.1,()))) none) (some (.inr (s.2.2.2.2.1,())))
def a3u(x:((List Int)×Int)):Option ((List Int)×Int):= (show Option Z18 from cond (decide (x.2<1)) (some (x.1,x.2,true,())) (cond (decide (x.2 > 32)) (some (x.1,x.2,true,())) (some (x.1,x.2,decide ((x.1.length:Int) > 4096),())))).bind fun z1=> cond z1.2.2.1 (some ([],1)) ((a3t z1.1).bind fun y2=> cond (!y2) (some ([],6)) ((a3Y z1.1).bind fun y3=> (a1C y3).bind fun y4=> cond ((decide (0≤z1.2.1))&&(lim (a01 z1.2.1))) ((a0e a2d (z1.2.1,1,y3,y4,[],())).bind fun w9=> some (w9.1,0)) none))
def b6o:FSem:=⟨[.v QL,.v QI],[.o QI,.v QI],a3u⟩
def e1m:Hints:=⟨[(1018,[.sv 1 QI,.sv 9 QI,.own 6 6 QI,.own 7 7 QI,.own 8 8 QI],[(.exit 0,[.own 8 8 QI])]),(260686,[.sv 1 QI,.sv 9 QI,.sv 10 QI,.sv 11 QI,.own 6 6 QI,.own 7 7 QI,.own 8 8 QI],[(.exit 2,[.sv 1 QI,.sv 9 QI,.own 6 6 QI,.own 7 7 QI,.own 8 8 QI])])],[(6,[(.normal,[.sv 0 QL,.sv 1 QI,.sv 24 .bool])])],[(16,[.q,.v,.q,.q,.q,.v,.v,.q,.q,.v,.x])]⟩
def a1d(s:Z44):Option (Z44 ⊕ (((List Int)×Unit) ⊕ Z4)):= cond (decide (s.2.2.2.1<s.2.2.1)) ((a0r s.2.1 s.2.2.2.1).bind fun x2=> (show Option ((List Int)×Z32)from cond (decide (x2<(-16383))) (some (s.1,s.2.1,s.2.2.1,s.2.2.2.1,true,())) (some (s.1,s.2.1,s.2.2.1,s.2.2.2.1,decide (x2 > 16383),()))).bind fun z3=> cond z3.2.2.2.2.1 (some (.inr (Sum.inr (([],1,()))))) (some (.inl (z3.1,z3.2.1,z3.2.2.1,wrap .i64 (z3.2.2.2.1+1),())))) (some (.inr (Sum.inl (s.1,()))))
def a2f(s:((List Int)×(Int×(Int×((List Int)×Z73))))):Option (((List Int)×(Int×(Int×((List Int)×Z73)))) ⊕ Z56):= cond (decide (s.2.2.2.2.2.2.2.2.1<s.2.2.2.2.2.2.2.1)) ((a0r s.2.2.2.2.2.2.1 s.2.2.2.2.2.2.2.2.1).bind fun x8=> (a0r s.1 (wrap .i64 ((wrap .i64 (s.2.1-1))-s.2.2.2.2.2.2.2.2.1))).bind fun x9=> cond (lim ((a03 s.2.2.2.2.2.2.2.2.2.1)+1)) (some (.inl (s.1,s.2.1,s.2.2.1,s.2.2.2.1,s.2.2.2.2.1,s.2.2.2.2.2.1,s.2.2.2.2.2.2.1,s.2.2.2.2.2.2.2.1,wrap .i64 (s.2.2.2.2.2.2.2.2.1+1),a04 s.2.2.2.2.2.2.2.2.2.1 [wrap .i64 (x8-(a0l .i64 (wrap .i64 (s.2.2.1*x9)) 14))],()))) none) (some (.inr (s.2.2.1,s.2.2.2.1,s.2.2.2.2.1,s.2.2.2.2.2.1,s.2.2.2.2.2.2.2.2.2.1,())))
def a2Z(s:Z44):Option (Z44 ⊕ ((List Int)×Unit)):= cond (decide (s.2.2.2.1<s.2.2.1)) ((a0r s.2.1 s.2.2.2.1).bind fun x7=> cond ((decide (0≤(wrap .i64 (s.2.2.2.1+1))))&&(lim (a01 (wrap .i64 (s.2.2.2.1+1))))) ((a0e a2f (s.1,s.2.2.2.1,x7,s.2.1,s.2.2.1,s.2.2.2.1,s.1,(s.1.length:Int),0,[],())).bind fun w10=> cond (lim ((a03 w10.2.2.2.2.1)+1)) (some (.inl (a04 w10.2.2.2.2.1 [w10.1],w10.2.1,w10.2.2.1,wrap .i64 (w10.2.2.2.1+1),()))) none) none) (some (.inr (s.1,())))
def a4H(x:(List Int)):Option ((List Int)×Int):= (show Option Z7 from cond (decide ((x.length:Int)<1)) (some (x,true,())) (some (x,decide ((x.length:Int) > 32),()))).bind fun z1=> cond z1.2.1 (some ([],1)) ((a0e a1d (z1.1,z1.1,(z1.1.length:Int),0,())).bind fun w4=> match w4 with |.inl a5=>((a0e a2Z ([],a5.1,(a5.1.length:Int),0,())).bind fun w11=> some (w11.1,0)) |.inr b6=>some (b6.1,b6.2.1))
def b8G:FSem:=⟨[.v QL],[.v QL,.v QI],a4H⟩
def e1n:Hints:=⟨[(58,[.sv 0 QL,.sv 20 QL,.sv 21 QI,.sv 22 QI],[(.exit 0,[.sv 0 QL]),(.ret,[.sv 2 QL,.sv 3 QI])]),(250,[.sv 6 QL,.sv 34 QL,.sv 35 QI,.sv 36 QI],[(.exit 2,[.sv 6 QL])]),(256410,[.sv 6 QL,.sv 7 QI,.sv 8 QI,.sv 34 QL,.sv 35 QI,.sv 36 QI,.sv 44 QL,.sv 45 QI,.sv 46 QI,.own 9 9 QI],[(.exit 4,[.sv 8 QI,.sv 34 QL,.sv 35 QI,.sv 36 QI,.own 9 9 QI])])],[(6,[(.normal,[.sv 0 QL,.sv 19 .bool])]),(3737,[(.normal,[.sv 0 QL,.sv 20 QL,.sv 21 QI,.sv 22 QI,.sv 31 .bool])])],[]⟩
def a1e(s:Z58):Option (Z58 ⊕ (Z4 ⊕ Z15)):= cond (decide (s.2.2.2.2.1<s.2.2.2.1)) ((a0r s.2.2.1 s.2.2.2.2.1).bind fun x2=> (show Option ((List Int)×(Int×Z32))from cond (decide (x2<(-35184372088832))) (some (s.1,s.2.1,s.2.2.1,s.2.2.2.1,s.2.2.2.2.1,true,())) (some (s.1,s.2.1,s.2.2.1,s.2.2.2.1,s.2.2.2.2.1,decide (x2 > 35184372088832),()))).bind fun z3=> cond z3.2.2.2.2.2.1 (some (.inr (Sum.inr ((0,1,[],()))))) (some (.inl (z3.1,z3.2.1,z3.2.2.1,z3.2.2.2.1,wrap .i64 (z3.2.2.2.2.1+1),())))) (some (.inr (Sum.inl (s.1,s.2.1,()))))
def a1z(s:((List Int)×(Int×Z73))):Option (((List Int)×(Int×Z73)) ⊕ Z41):= cond (decide (s.2.2.2.2.2.2.1<s.2.2.2.2.2.1)) ((a0r s.2.2.2.2.1 s.2.2.2.2.2.2.1).bind fun x8=> cond (decide (s.2.2.1<0)) none ((a6G (a0l .i64 (wrap .i64 (x8+s.2.2.2.1)) s.2.2.1,s.2.1)).bind fun y9=> cond (!y9) (some (.inr (s.1,s.2.1,s.2.2.1,s.2.2.2.2.2.2.2.1,()))) (cond (lim ((a03 s.2.2.2.2.2.2.2.1)+1)) (some (.inl (s.1,s.2.1,s.2.2.1,s.2.2.2.1,s.2.2.2.2.1,s.2.2.2.2.2.1,wrap .i64 (s.2.2.2.2.2.2.1+1),a04 s.2.2.2.2.2.2.2.1 [a0l .i64 (wrap .i64 (x8+s.2.2.2.1)) s.2.2.1],()))) none))) (some (.inr (s.1,s.2.1,s.2.2.1,s.2.2.2.2.2.2.2.1,())))
def a1A(s:Z14):Option (Z14 ⊕ (Unit ⊕ Z15)):= cond (decide (s.2.2.1≤14)) ((show Option Z31 from cond (decide (s.2.2.1 > 0)) (cond (decide ((wrap .i64 (s.2.2.1-1))<0)) none (some (s.1,s.2.1,s.2.2.1,a0F .i64 1 (wrap .i64 (s.2.2.1-1)),()))) (some (s.1,s.2.1,s.2.2.1,0,()))).bind fun z7=> cond ((decide (0≤(z7.1.length:Int)))&&(lim (a01 (z7.1.length:Int)))) ((a0e a1z (z7.1,z7.2.1,z7.2.2.1,z7.2.2.2.1,z7.1,(z7.1.length:Int),0,[],())).bind fun w10=> cond ((w10.2.2.2.1.length:Int)==(w10.1.length:Int)) (some (.inr (Sum.inr ((wrap .i64 (14-w10.2.2.1),0,w10.2.2.2.1,()))))) (some (.inl (w10.1,w10.2.1,wrap .i64 (w10.2.2.1+1),())))) none) (some (.inr (Sum.inl ())))
def a6c(x:((List Int)×Int)):Option Z2:= (show Option Z18 from cond (decide ((x.1.length:Int)<1)) (some (x.1,x.2,true,())) (cond (decide ((x.1.length:Int) > 32)) (some (x.1,x.2,true,())) (cond (decide (x.2<2)) (some (x.1,x.2,true,())) (some (x.1,x.2,decide (x.2 > 16),()))))).bind fun z1=> cond z1.2.2.1 (some ([],0,1)) ((a0e a1e (z1.1,z1.2.1,z1.1,(z1.1.length:Int),0,())).bind fun w4=> match w4 with |.inl a5=>((a0e a1A (a5.1,a5.2.1,0,())).bind fun w11=> match w11 with |.inl a12=>some ([],0,6) |.inr b13=>some (b13.2.2.1,b13.1,b13.2.1)) |.inr b6=>some (b6.2.2.1,b6.1,b6.2.1))
def b8H:FSem:=⟨[.v QL,.v QI],[.o QI,.v QI,.v QI],a6c⟩
def e1o:Hints:=⟨[(58,[.sv 0 QL,.sv 1 QI,.sv 31 QL,.sv 32 QI,.sv 33 QI],[(.exit 0,[.sv 0 QL,.sv 1 QI]),(.ret,[.sv 5 QI,.sv 6 QI,.own 4 4 QI])]),(122,[.sv 0 QL,.sv 1 QI,.sv 9 QI],[(.exit 2,[]),(.ret,[.sv 5 QI,.sv 6 QI,.own 4 11 QI])]),(125242,[.sv 0 QL,.sv 1 QI,.sv 9 QI,.sv 10 QI,.sv 56 QL,.sv 57 QI,.sv 58 QI,.own 11 11 QI],[(.exit 4,[.sv 0 QL,.sv 1 QI,.sv 9 QI,.own 11 11 QI])])],[(6,[(.normal,[.sv 0 QL,.sv 1 QI,.sv 30 .bool])]),(3737,[(.normal,[.sv 0 QL,.sv 1 QI,.sv 31 QL,.sv 32 QI,.sv 33 QI,.sv 42 .bool])]),(3913,[(.normal,[.sv 0 QL,.sv 1 QI,.sv 9 QI,.sv 10 QI])])],[]⟩
def a3m(x:Z2):Option Z2:= (a3u (x.1,x.2.1)).bind fun y1=> cond (y1.2 != 0) (some ([],0,y1.2)) ((a4H y1.1).bind fun y2=> cond (y2.2 != 0) (some ([],0,y2.2)) ((a6c (y2.1,x.2.2)).bind fun y3=> some (y3.1,y3.2.1,y3.2.2)))
def b4R:FSem:=⟨[.v QL,.v QI,.v QI],[.o QI,.v QI,.v QI],a3m⟩
def e1p:Hints:=⟨[],[],[]⟩
def c6d(s:((List Int)×(Int×Z52))):Option (((List Int)×(Int×Z52)) ⊕ ((List Int)×Z52)):= cond (decide (s.2.2.2.2.2.2.2.1<(s.1.length:Int))) ((a0r s.1 s.2.2.2.2.2.2.2.1).bind fun x3=> (a0r s.1 (wrap .i64 (s.2.2.2.2.2.2.2.1-s.2.2.2.2.2.1))).bind fun x4=> some (.inl (s.1,s.2.1,s.2.2.1,s.2.2.2.1,s.2.2.2.2.1,s.2.2.2.2.2.1,wrap .i64 (s.2.2.2.2.2.2.1+(a1D (wrap .i64 (x3-x4)) (wrap .i64 (0-(wrap .i64 (x3-x4)))))),wrap .i64 (s.2.2.2.2.2.2.2.1+1),()))) (some (.inr (s.1,s.2.1,s.2.2.1,s.2.2.2.1,s.2.2.2.2.1,s.2.2.2.2.2.1,s.2.2.2.2.2.2.1,())))
def c6e(s:((List Int)×Z35)):Option (((List Int)×Z35) ⊕ (Int×Unit)):= cond (decide (s.2.2.2.2.2.1≤s.2.2.1)) ((a0e c6d (s.1,s.2.1,s.2.2.1,s.2.2.2.1,s.2.2.2.2.1,s.2.2.2.2.2.1,0,s.2.2.1,())).bind fun w5=> (show Option ((List Int)×(Int×Int×Z39))from cond (w5.2.2.2.2.2.1==w5.2.1) (some (w5.1,w5.2.1,w5.2.2.1,w5.2.2.2.1,w5.2.2.2.2.1,w5.2.2.2.2.2.1,w5.2.2.2.2.2.2.1,true,())) (some (w5.1,w5.2.1,w5.2.2.1,w5.2.2.2.1,w5.2.2.2.2.1,w5.2.2.2.2.2.1,w5.2.2.2.2.2.2.1,decide (w5.2.2.2.2.2.2.1<w5.2.2.2.2.1),()))).bind fun z6=> cond z6.2.2.2.2.2.2.2.1 (some (.inl (z6.1,z6.2.1,z6.2.2.1,z6.2.2.2.2.2.1,z6.2.2.2.2.2.2.1,wrap .i64 (z6.2.2.2.2.2.1+1),()))) (some (.inl (z6.1,z6.2.1,z6.2.2.1,z6.2.2.2.1,z6.2.2.2.2.1,wrap .i64 (z6.2.2.2.2.2.1+1),())))) (some (.inr (s.2.2.2.1,())))
def b4d(x:Z2):Option (Int×Int):= (show Option Z32 from cond (decide (x.2.1<2)) (some (x.1,x.2.1,x.2.2,true,())) (cond (decide (x.2.1 > x.2.2)) (some (x.1,x.2.1,x.2.2,true,())) (cond (decide (x.2.2 > 1024)) (some (x.1,x.2.1,x.2.2,true,())) (some (x.1,x.2.1,x.2.2,decide ((x.1.length:Int) > 4096),()))))).bind fun z1=> cond z1.2.2.2.1 (some (0,1)) (cond (decide ((z1.1.length:Int)≤z1.2.2.1)) (some (0,7)) ((a5Z z1.1).bind fun y2=> cond (!y2) (some (0,6)) ((a0e c6e (z1.1,z1.2.1,z1.2.2.1,0,0,z1.2.1,())).bind fun w7=> some (w7.1,0))))
def c2V:FSem:=⟨[.v QL,.v QI,.v QI],[.v QI,.v QI],b4d⟩
def e1q:Hints:=⟨[(506,[.sv 0 QL,.sv 1 QI,.sv 2 QI,.sv 8 QI,.sv 9 QI,.sv 10 QI],[(.exit 0,[.sv 8 QI])]),(129610,[.sv 0 QL,.sv 1 QI,.sv 2 QI,.sv 8 QI,.sv 9 QI,.sv 10 QI,.sv 11 QI,.sv 12 QI],[(.exit 2,[.sv 0 QL,.sv 1 QI,.sv 2 QI,.sv 8 QI,.sv 9 QI,.sv 10 QI,.sv 11 QI])])],[(6,[(.normal,[.sv 0 QL,.sv 1 QI,.sv 2 QI,.sv 29 .bool])]),(32403,[(.normal,[.sv 0 QL,.sv 1 QI,.sv 2 QI,.sv 8 QI,.sv 9 QI,.sv 10 QI,.sv 11 QI,.sv 74 .bool])])],[(15,[.v,.v,.v,.v,.v,.v,.v,.v,.v,.v,.x,.x])]⟩
def c1o(x:Unit):Option (List (List Int)):= some ([a05 (a05 (a05 (a00 3 0) 0 0) 1 0) 2 0,a05 (a05 (a05 (a00 3 0) 0 0) 1 64) 2 0,a05 (a05 (a05 (a00 3 0) 0 0) 1 32) 2 0,a05 (a05 (a05 (a00 3 0) 0 16) 1 32) 2 16,a05 (a05 (a05 (a00 3 0) 0 21) 1 22) 2 21,a05 (a05 (a05 (a00 3 0) 0 0) 1 48) 2 0,a05 (a05 (a05 (a00 3 0) 0 (-8)) 1 64) 2 (-8),a05 (a05 (a05 (a00 3 0) 0 32) 1 32) 2 0,a05 (a05 (a05 (a00 3 0) 0 0) 1 32) 2 32]:List (List Int))
def c1p:FSem:=⟨[],[.o (.arr 3 QI)],c1o⟩
def e1r:Hints:=⟨[],[],[]⟩
def c6f(s:((List Int)×(Int×(Int×(Bool×(Int×(Int×(Int×(Int×(Int×((List (List Int))×((List Int)×Z40)))))))))))):Option (((List Int)×(Int×(Int×(Bool×(Int×(Int×(Int×(Int×(Int×((List (List Int))×((List Int)×Z40))))))))))) ⊕ ((List Int)×(Int×(Int×(Bool×(Int×(Int×(Int×((List (List Int))×Z40))))))))):= cond (decide (s.2.2.2.2.2.2.2.2.1<s.2.2.2.2.2.2.2.1)) (cond ((decide (0≤s.2.2.2.2.2.2.2.2.1))&&(decide (s.2.2.2.2.2.2.2.2.1<(s.2.2.2.2.2.2.2.2.2.2.1.length:Int)))) (some (.inl (s.1,s.2.1,s.2.2.1,s.2.2.2.1,wrap .i64 (s.2.2.2.2.1+(a1D (a02 s.2.2.2.2.2.2.2.2.2.2.1 (a01 s.2.2.2.2.2.2.2.2.1) 0) (wrap .i64 (0-(a02 s.2.2.2.2.2.2.2.2.2.2.1 (a01 s.2.2.2.2.2.2.2.2.1) 0))))),s.2.2.2.2.2.1,s.2.2.2.2.2.2.1,s.2.2.2.2.2.2.2.1,wrap .i64 (s.2.2.2.2.2.2.2.2.1+1),s.2.2.2.2.2.2.2.2.2.1,s.2.2.2.2.2.2.2.2.2.2.1,s.2.2.2.2.2.2.2.2.2.2.2.1,s.2.2.2.2.2.2.2.2.2.2.2.2.1,s.2.2.2.2.2.2.2.2.2.2.2.2.2.1,()))) none) (some (.inr (s.1,s.2.1,s.2.2.1,s.2.2.2.1,s.2.2.2.2.1,s.2.2.2.2.2.1,s.2.2.2.2.2.2.1,s.2.2.2.2.2.2.2.2.2.1,s.2.2.2.2.2.2.2.2.2.2.2.1,s.2.2.2.2.2.2.2.2.2.2.2.2.1,s.2.2.2.2.2.2.2.2.2.2.2.2.2.1,())))
def c6g(s:((List Int)×(Int×(Int×(Bool×(Int×(Int×((List (List Int))×Z13)))))))):Option (((List Int)×(Int×(Int×(Bool×(Int×(Int×((List (List Int))×Z13))))))) ⊕ (Bool×Z13)):= cond (decide (s.2.2.2.2.2.1<s.2.2.2.2.1)) (cond ((decide (0≤s.2.2.2.2.2.1))&&(decide (s.2.2.2.2.2.1<(s.2.2.2.2.2.2.1.length:Int)))) ((a8X (s.1,s.2.1,a02 s.2.2.2.2.2.2.1 (a01 s.2.2.2.2.2.1) (a00 3 0))).bind fun y3=> cond (y3.2 != 0) (some (.inl (s.1,s.2.1,s.2.2.1,s.2.2.2.1,s.2.2.2.2.1,wrap .i64 (s.2.2.2.2.2.1+1),s.2.2.2.2.2.2.1,s.2.2.2.2.2.2.2.1,s.2.2.2.2.2.2.2.2.1,()))) ((a0e c6f (s.1,s.2.1,s.2.2.1,s.2.2.2.1,0,s.2.2.2.2.1,s.2.2.2.2.2.1,(y3.1.length:Int),0,s.2.2.2.2.2.2.1,y3.1,s.2.2.2.2.2.2.2.1,s.2.2.2.2.2.2.2.2.1,a02 s.2.2.2.2.2.2.1 (a01 s.2.2.2.2.2.1) (a00 3 0),())).bind fun w4=> (show Option ((List Int)×(Int×(Int×(Bool×(Int×(Int×(Int×(Bool×((List (List Int))×Z40)))))))))from cond (!w4.2.2.2.1) (some (w4.1,w4.2.1,w4.2.2.1,w4.2.2.2.1,w4.2.2.2.2.1,w4.2.2.2.2.2.1,w4.2.2.2.2.2.2.1,true,w4.2.2.2.2.2.2.2.1,w4.2.2.2.2.2.2.2.2.1,w4.2.2.2.2.2.2.2.2.2.1,w4.2.2.2.2.2.2.2.2.2.2.1,())) (some (w4.1,w4.2.1,w4.2.2.1,w4.2.2.2.1,w4.2.2.2.2.1,w4.2.2.2.2.2.1,w4.2.2.2.2.2.2.1,decide (w4.2.2.2.2.1<w4.2.2.1),w4.2.2.2.2.2.2.2.1,w4.2.2.2.2.2.2.2.2.1,w4.2.2.2.2.2.2.2.2.2.1,w4.2.2.2.2.2.2.2.2.2.2.1,()))).bind fun z5=> cond z5.2.2.2.2.2.2.2.1 (some (.inl (z5.1,z5.2.1,z5.2.2.2.2.1,true,z5.2.2.2.2.2.1,wrap .i64 (z5.2.2.2.2.2.2.1+1),z5.2.2.2.2.2.2.2.2.1,z5.2.2.2.2.2.2.2.2.2.1,z5.2.2.2.2.2.2.2.2.2.2.2.1,()))) (some (.inl (z5.1,z5.2.1,z5.2.2.1,z5.2.2.2.1,z5.2.2.2.2.2.1,wrap .i64 (z5.2.2.2.2.2.2.1+1),z5.2.2.2.2.2.2.2.2.1,z5.2.2.2.2.2.2.2.2.2.1,z5.2.2.2.2.2.2.2.2.2.2.1,()))))) none) (some (.inr (s.2.2.2.1,s.2.2.2.2.2.2.2.1,s.2.2.2.2.2.2.2.2.1,())))
def c2W(x:((List Int)×Int)):Option ((List Int)×Int):= (show Option ((List Int)×Z17)from cond (decide (x.2<2)) (some (x.1,x.2,true,a00 3 0,())) (some (x.1,x.2,decide (x.2 > 1024),a00 3 0,()))).bind fun z1=> cond z1.2.2.1 (some (a00 3 0,1)) ((c1o ()).bind fun y2=> (a0e c6g (z1.1,z1.2.1,0,false,(y2.length:Int),0,y2,z1.2.2.2.1,a00 3 0,())).bind fun w6=> cond (!w6.1) (some (a00 3 0,6)) (some (w6.2.2.1,0)))
def c2X:FSem:=⟨[.v QL,.v QI],[.v (.arr 3 QI),.v QI],c2W⟩
def e1s:Hints:=⟨[(122,[.sv 0 QL,.sv 1 QI,.sv 7 QI,.sv 8 .bool,.sv 25 QI,.sv 26 QI,.own 24 1024 (.arr 3 QI),.box 4 (.arr 3 QI),.box 6 (.arr 3 QI),.ptr 4 4 [],.ptr 6 6 []],[(.exit 0,[.sv 8 .bool,.box 4 (.arr 3 QI),.box 6 (.arr 3 QI),.ptr 4 4 [],.ptr 6 6 []])]),(501370,[.sv 0 QL,.sv 1 QI,.sv 7 QI,.sv 8 .bool,.sv 13 QI,.sv 25 QI,.sv 26 QI,.sv 40 QI,.sv 41 QI,.own 24 1024 (.arr 3 QI),.own 39 11 QI,.box 4 (.arr 3 QI),.box 6 (.arr 3 QI),.box 10 (.arr 3 QI),.ptr 4 4 [],.ptr 6 6 [],.ptr 10 10 []],[(.exit 2,[.sv 0 QL,.sv 1 QI,.sv 7 QI,.sv 8 .bool,.sv 13 QI,.sv 25 QI,.sv 26 QI,.own 24 1024 (.arr 3 QI),.box 4 (.arr 3 QI),.box 6 (.arr 3 QI),.box 10 (.arr 3 QI),.ptr 4 4 [],.ptr 6 6 [],.ptr 10 10 []])])],[(6,[(.normal,[.sv 0 QL,.sv 1 QI,.sv 21 .bool,.box 4 (.arr 3 QI),.ptr 4 4 []])]),(125343,[(.normal,[.sv 0 QL,.sv 1 QI,.sv 7 QI,.sv 8 .bool,.sv 13 QI,.sv 25 QI,.sv 26 QI,.sv 58 .bool,.own 24 1024 (.arr 3 QI),.box 4 (.arr 3 QI),.box 6 (.arr 3 QI),.box 10 (.arr 3 QI),.ptr 4 4 [],.ptr 6 6 [],.ptr 10 10 []])])],[]⟩
def a4Z(x:(List Int)):Option (a2a×Bool):= (b4d (x,16,256)).bind fun y1=> cond (y1.2 != 0) (some ((0,0,0,0,0,[],a00 3 0,[],[],(0,[],()),[],()),false)) ((c2W (x,y1.1)).bind fun y2=> cond (y2.2 != 0) (some ((0,0,0,0,0,[],a00 3 0,[],[],(0,[],()),[],()),false)) ((a8X (x,y1.1,y2.1)).bind fun y3=> cond (y3.2 != 0) (some ((0,0,0,0,0,[],a00 3 0,[],[],(0,[],()),[],()),false)) ((a3m (y3.1,4,12)).bind fun y4=> cond (y4.2.2 != 0) (some ((0,0,0,0,0,[],a00 3 0,[],[],(0,[],()),[],()),false)) (some ((4,0,0,y4.2.1,y1.1,y4.1,y2.1,[],[],(0,[],()),[],()),true)))))
def c1q:FSem:=⟨[.v QL],[.v Q19,.v .bool],a4Z⟩
def e1t:Hints:=⟨[],[],[]⟩
def a0z(x:(Int×(Int×((List Int)×b1M)))):Option ((List Int)×b1M):= (a3m (x.2.2.1,x.1,x.2.1)).bind fun y1=> cond (y1.2.2==0) (cond (lim ((a03 x.2.2.2)+1)) (some (x.2.2.1,a04 x.2.2.2 ([(3,0,0,y1.2.1,0,y1.1,a00 3 0,[],[],(0,[],()),[],())]:List a2a))) none) (some (x.2.2.1,x.2.2.2))
def b4z:FSem:=⟨[.v QI,.v QI,.r false (.b QL),.r false (.b (.list true Q19))],[],a0z⟩
def e1u:Hints:=⟨[],[],[]⟩
def a2E(s:(Int×d1W)):Option ((Int×d1W) ⊕ d1W):= cond (decide (s.1<5)) (cond (lim ((a03 s.2.1)+1)) (some (.inl (wrap .i64 (s.1+1),a04 s.2.1 ([(2,0,s.1,0,0,[],a00 3 0,[],[],(0,[],()),[],())]:List a2a),s.2.2.1,()))) none) (some (.inr (s.2.1,s.2.2.1,())))
def a8m(x:((List Int)×Int)):Option b1M:= (a4Y x.1).bind fun y1=> (show Option (Int×((List Int)×c8W))from cond (decide (x.2≥1)) ((a0z (4,12,x.1,([(0,0,0,0,0,[],a00 3 0,[],[],(0,[],()),[],()),(1,0,0,0,0,[],a00 3 0,[],[],(0,[],()),[],()),(2,0,y1,0,0,[],a00 3 0,[],[],(0,[],()),[],())]:List a2a))).bind fun y2=> (a0z (8,12,y2.1,y2.2)).bind fun y3=> some (x.2,y3.1,y3.2,())) (some (x.2,x.1,([(0,0,0,0,0,[],a00 3 0,[],[],(0,[],()),[],()),(1,0,0,0,0,[],a00 3 0,[],[],(0,[],()),[],()),(2,0,y1,0,0,[],a00 3 0,[],[],(0,[],()),[],())]:List a2a),()))).bind fun z4=> (show Option (Int×d1W)from cond (decide (z4.1≥2)) (cond (lim ((a03 z4.2.2.1)+1)) (cond (lim ((a03 (a04 z4.2.2.1 ([(5,0,0,0,0,[],a00 3 0,([(16,4,())]:List (Int×Int×Unit)),[],(0,[],()),[],())]:List a2a)))+1)) ((a4Z z4.2.1).bind fun y5=> cond y5.2 (cond (lim ((a03 (a04 (a04 z4.2.2.1 ([(5,0,0,0,0,[],a00 3 0,([(16,4,())]:List (Int×Int×Unit)),[],(0,[],()),[],())]:List a2a)) ([(5,0,0,0,0,[],a00 3 0,([(32,3,()),(16,5,())]:List (Int×Int×Unit)),[],(0,[],()),[],())]:List a2a)))+1)) (some (z4.1,a04 (a04 (a04 z4.2.2.1 ([(5,0,0,0,0,[],a00 3 0,([(16,4,())]:List (Int×Int×Unit)),[],(0,[],()),[],())]:List a2a)) ([(5,0,0,0,0,[],a00 3 0,([(32,3,()),(16,5,())]:List (Int×Int×Unit)),[],(0,[],()),[],())]:List a2a)) ([y5.1]:List a2a),z4.2.1,())) none) (some (z4.1,a04 (a04 z4.2.2.1 ([(5,0,0,0,0,[],a00 3 0,([(16,4,())]:List (Int×Int×Unit)),[],(0,[],()),[],())]:List a2a)) ([(5,0,0,0,0,[],a00 3 0,([(32,3,()),(16,5,())]:List (Int×Int×Unit)),[],(0,[],()),[],())]:List a2a),z4.2.1,()))) none) none) (some (z4.1,z4.2.2.1,z4.2.1,()))).bind fun z6=> (show Option c8W from cond (decide (z6.1≥3)) ((a0e a2E (0,z6.2.1,z6.2.2.1,())).bind fun w7=> (a0z (1,12,w7.2.1,w7.1)).bind fun y8=> (a0z (2,12,y8.1,y8.2)).bind fun y9=> (a0z (12,14,y9.1,y9.2)).bind fun y10=> (a0z (16,14,y10.1,y10.2)).bind fun y11=> some (y11.2,())) (some (z6.2.1,()))).bind fun z12=> some z12.1
def b6p:FSem:=⟨[.v QL,.v QI],[.v (.list false Q19)],a8m⟩
def H93:Hints:=⟨[(4050,[.sv 50 QI,.box 5 (.list true Q19),.box 2 QL,.ptr 5 5 [],.clo 6 176 [2,5]],[(.exit 0,[.box 5 (.list true Q19),.box 2 QL,.ptr 5 5 [],.clo 6 176 [2,5]])])],[(15,[(.normal,[.sv 1 QI,.box 2 QL,.box 5 (.list true Q19),.ptr 2 2 [],.ptr 5 5 [],.clo 6 176 [2,5]])]),(31,[(.normal,[.sv 1 QI,.box 5 (.list true Q19),.box 2 QL,.ptr 5 5 [],.clo 6 176 [2,5]])]),(63,[(.normal,[.box 5 (.list true Q19),.ptr 5 5 []])])],[]⟩
def a8N(s:((List Int)×(Int×Bool×b1M×d2c))):Option (((List Int)×(Int×Bool×b1M×d2c)) ⊕ b3z):= cond (decide (s.2.2.2.2.2.1<s.2.2.2.2.1)) ((a0r s.2.2.2.1 s.2.2.2.2.2.1).bind fun x6=> (b2z (x6.1,s.1,x6)).bind fun y7=> cond (y7.2 != 0) (some (.inl (s.1,s.2.1,s.2.2.1,s.2.2.2.1,s.2.2.2.2.1,wrap .i64 (s.2.2.2.2.2.1+1),s.2.2.2.2.2.2.1,s.2.2.2.2.2.2.2.1,()))) ((b2H (y7.1,(s.1.length:Int))).bind fun y8=> (show Option ((List Int)×(Int×Bool×Int×b1M×Int×Int×Bool×d2d))from cond (!s.2.2.1) (some (s.1,s.2.1,s.2.2.1,y8,s.2.2.2.1,s.2.2.2.2.1,s.2.2.2.2.2.1,true,s.2.2.2.2.2.2.1,s.2.2.2.2.2.2.2.1,y7.1,())) (some (s.1,s.2.1,s.2.2.1,y8,s.2.2.2.1,s.2.2.2.2.1,s.2.2.2.2.2.1,decide (y8<s.2.1),s.2.2.2.2.2.2.1,s.2.2.2.2.2.2.2.1,y7.1,()))).bind fun z9=> cond z9.2.2.2.2.2.2.2.1 (some (.inl (z9.1,z9.2.2.2.1,true,z9.2.2.2.2.1,z9.2.2.2.2.2.1,wrap .i64 (z9.2.2.2.2.2.2.1+1),z9.2.2.2.2.2.2.2.2.1,z9.2.2.2.2.2.2.2.2.2.2.1,()))) (some (.inl (z9.1,z9.2.1,z9.2.2.1,z9.2.2.2.2.1,z9.2.2.2.2.2.1,wrap .i64 (z9.2.2.2.2.2.2.1+1),z9.2.2.2.2.2.2.2.2.1,z9.2.2.2.2.2.2.2.2.2.1,()))))) (some (.inr (s.2.2.2.2.2.2.1,s.2.2.2.2.2.2.2.1,())))
def a3Z(x:((List Int)×Int)):Option a9G:= (show Option ((List Int)×c1e)from cond (decide ((x.1.length:Int)<1)) (some (x.1,x.2,true,(0,0,0,0,0,[],a00 3 0,[],[],(0,[],()),[],()),())) (cond (decide ((x.1.length:Int) > 4096)) (some (x.1,x.2,true,(0,0,0,0,0,[],a00 3 0,[],[],(0,[],()),[],()),())) (cond (decide (x.2<0)) (some (x.1,x.2,true,(0,0,0,0,0,[],a00 3 0,[],[],(0,[],()),[],()),())) (some (x.1,x.2,decide (x.2 > 3),(0,0,0,0,0,[],a00 3 0,[],[],(0,[],()),[],()),()))))).bind fun z1=> cond z1.2.2.1 (some ((0,0,0,0,0,[],a00 3 0,[],[],(0,[],()),[],()),1)) ((a2O z1.1).bind fun y2=> cond (!y2) (some ((0,0,0,0,0,[],a00 3 0,[],[],(0,[],()),[],()),6)) ((a5i z1.1).bind fun y3=> (a8F (z1.1,y3)).bind fun y4=> cond (y4.2 != 0) (some ((0,0,0,0,0,[],a00 3 0,[],[],(0,[],()),[],()),y4.2)) ((a8m (y4.1,z1.2.1)).bind fun y5=> (a0e a8N (z1.1,0,false,y5,(y5.length:Int),0,z1.2.2.2.1,(0,0,0,0,0,[],a00 3 0,[],[],(0,[],()),[],()),())).bind fun w10=> some (w10.2.1,0))))
def b9x:FSem:=⟨[.v QL,.v QI],[.v Q19,.v QI],a3Z⟩
def H40:Hints:=⟨[(2042,[.sv 0 QL,.sv 9 QI,.sv 10 .bool,.sv 50 (.list false Q19),.sv 51 QI,.sv 52 QI,.box 4 Q19,.box 8 Q19,.ptr 4 4 [],.ptr 8 8 []],[(.exit 0,[.box 4 Q19,.box 8 Q19,.ptr 4 4 [],.ptr 8 8 []])])],[(6,[(.normal,[.sv 0 QL,.sv 1 QI,.sv 31 .bool,.box 4 Q19,.ptr 4 4 []])]),(1045711,[(.normal,[.sv 0 QL,.sv 9 QI,.sv 10 .bool,.sv 15 QI,.sv 50 (.list false Q19),.sv 51 QI,.sv 52 QI,.sv 76 .bool,.box 4 Q19,.box 8 Q19,.box 13 Q19,.ptr 4 4 [],.ptr 8 8 [],.ptr 13 13 []])])],[]⟩
def a6n(s:((List Int)×Z4)):Option (((List Int)×Z4) ⊕ Z0):= cond (decide (s.2.2.1<(s.1.length:Int))) ((a0r s.1 s.2.2.1).bind fun x1=> (a0r s.2.1 s.2.2.1).bind fun x2=> cond (x1 != x2) (some (.inr (Sum.inr ((false,()))))) (some (.inl (s.1,s.2.1,wrap .i64 (s.2.2.1+1),())))) (some (.inr (Sum.inl ())))
def a2x(x:((List Int)×(List Int))):Option Bool:= cond ((x.1.length:Int) != (x.2.length:Int)) (some false) ((a0e a6n (x.1,x.2,0,())).bind fun w3=> match w3 with |.inl a4=>some true |.inr b5=>some b5.1)
def b1o:FSem:=⟨[.v QL,.v QL],[.v .bool],a2x⟩
def H88:Hints:=⟨[(58,[.sv 0 QL,.sv 1 QL,.sv 5 QI],[(.exit 0,[]),(.ret,[.sv 4 .bool])])],[],[(6,[.v,.v,.v,.v,.v,.v,.v,.v,.x])]⟩
def b8b(x:Unit):Option Bool:= (b2z (2,[4,8,12,16],0,0,1,0,0,[],a00 3 0,[],[],(0,[],()),[],())).bind fun y1=> (b4y (y1.1,4)).bind fun y2=> (a3Z ([6,6,6],0)).bind fun y3=> cond (y1.2==0) (cond (y2.2==0) (cond (y3.2==0) (cond (y1.1.2.1==2) ((a2x (y1.1.2.2.2.2.2.2.2.2.1,[1])).bind fun y4=> cond y4 ((a2x (y1.1.2.2.2.2.2.2.2.2.2.2.1,[1,1,1])).bind fun y5=> cond y5 ((a2x (y2.1,[4,8,12,16])).bind fun y6=> cond y6 (cond (y3.1.1==0) ((a2x (y3.1.2.2.2.2.2.2.2.2.1,[6])).bind fun y7=> cond y7 ((b2H (y3.1,3)).bind fun y8=> some (y8==17)) (some false)) (some false)) (some false)) (some false)) (some false)) (some false)) (some false)) (some false)) (some false)
def c2Y:FSem:=⟨[],[.v .bool],b8b⟩
def H39:Hints:=⟨[],[],[]⟩
def a3A(x:Int):Option Bool:= cond (decide (x≥(-1073741824))) (some (decide (x<1073741824))) (some false)
def a5T:FSem:=⟨[.v QI],[.v .bool],a3A⟩
def e1v:Hints:=⟨[],[],[]⟩
def a7a(s:Z4):Option Z54:= cond (decide (s.2.1<(s.1.length:Int))) ((a0r s.1 s.2.1).bind fun x1=> (a3A x1).bind fun y2=> cond (!y2) (some (.inr (Sum.inr ((false,()))))) (some (.inl (s.1,wrap .i64 (s.2.1+1),())))) (some (.inr (Sum.inl ())))
def a0G(x:(List Int)):Option Bool:= (a0e a7a (x,0,())).bind fun w3=> match w3 with |.inl a4=>some true |.inr b5=>some b5.1
def a1k:FSem:=⟨[.v QL],[.v .bool],a0G⟩
def H94:Hints:=⟨[(26,[.sv 0 QL,.sv 3 QI],[(.exit 0,[]),(.ret,[.sv 2 .bool])])],[],[]⟩
def b0l(s:Z14):Option Z53:= cond (decide (s.2.2.1<(s.1.length:Int))) ((a0r s.1 s.2.2.1).bind fun x1=> some (.inl (s.1,bits .i64 .or s.2.1 x1,wrap .i64 (s.2.2.1+1),()))) (some (.inr (s.2.1,())))
def a6d(s:(Int×Int×Unit)):Option ((Int×Int×Unit) ⊕ (Int×Unit)):= cond (s.1 != 0) (cond (decide (s.2.1<30)) (cond (decide ((wrap .u64 s.2.1)<0)) none (cond ((bits .i64 .and (a0l .i64 s.1 (wrap .u64 s.2.1)) 1)==0) (some (.inl (s.1,wrap .i64 (s.2.1+1),()))) (some (.inr (s.2.1,()))))) (some (.inr (s.2.1,())))) (some (.inr (s.2.1,())))
def a7x(x:(List Int)):Option Int:= (a0e b0l (x,0,0,())).bind fun w2=> (a0e a6d (w2.1,0,())).bind fun w3=> some w3.1
def b4e:FSem:=⟨[.v QL],[.v QI],a7x⟩
def H96:Hints:=⟨[(58,[.sv 0 QL,.sv 3 QI,.sv 4 QI],[(.exit 0,[.sv 3 QI])]),(124,[.sv 3 QI,.sv 5 QI],[(.exit 2,[.sv 5 QI])])],[],[]⟩
def c9a(s:Z4):Option Z54:= cond (decide (s.2.1<(s.1.length:Int))) ((a0r s.1 s.2.1).bind fun x1=> cond (x1 != 0) (some (.inr (Sum.inr ((false,()))))) (some (.inl (s.1,wrap .i64 (s.2.1+1),())))) (some (.inr (Sum.inl ())))
def c6X(x:(List Int)):Option Bool:= (a0e c9a (x,0,())).bind fun w2=> match w2 with |.inl a3=>some true |.inr b4=>some b4.1
def c6Y:FSem:=⟨[.v QL],[.v .bool],c6X⟩
def e1w:Hints:=⟨[(26,[.sv 0 QL,.sv 3 QI],[(.exit 0,[]),(.ret,[.sv 2 .bool])])],[],[]⟩
def b2I(s:Z41):Option (Z41 ⊕ ((List Int)×Unit)):= cond (decide (s.2.2.1<(s.1.length:Int))) ((a0r s.1 s.2.2.1).bind fun x6=> cond (decide ((wrap .u64 s.2.1)<0)) none (cond (lim ((a03 s.2.2.2.1)+1)) (some (.inl (s.1,s.2.1,wrap .i64 (s.2.2.1+1),a04 s.2.2.2.1 [a0l .i64 x6 (wrap .u64 s.2.1)],()))) none)) (some (.inr (s.2.2.2.1,())))
def b4A(x:((List Int)×Int)):Option ((List Int)×Int):= (show Option Z18 from cond (decide (x.2<0)) (some (x.1,x.2,true,())) (some (x.1,x.2,decide (x.2 > 30),()))).bind fun z1=> cond z1.2.2.1 (some ([],1)) ((show Option Z18 from(a0G z1.1).bind fun y2=> cond (!y2) (some (z1.1,z1.2.1,true,())) ((a7x z1.1).bind fun y3=> cond (decide (y3<z1.2.1)) ((c6X z1.1).bind fun y4=> some (z1.1,z1.2.1,!y4,())) (some (z1.1,z1.2.1,false,())))).bind fun z5=> cond z5.2.2.1 (some ([],6)) ((a0e b2I (z5.1,z5.2.1,0,[],())).bind fun w7=> some (w7.1,0)))
def c1r:FSem:=⟨[.v QL,.v QI],[.o QI,.v QI],b4A⟩
def H95:Hints:=⟨[(250,[.sv 0 QL,.sv 1 QI,.sv 7 QI,.own 6 6 QI],[(.exit 0,[.own 6 6 QI])])],[(6,[(.normal,[.sv 0 QL,.sv 1 QI,.sv 13 .bool])]),(14,[(.normal,[.sv 0 QL,.sv 1 QI,.sv 27 .bool])])],[]⟩
def a5a(s:Z80):Option (Z80 ⊕ Z41):= cond (decide (s.2.2.2.2.1<(s.2.2.1.length:Int))) ((a0r s.2.2.1 s.2.2.2.2.1).bind fun x2=> (a0r s.2.2.1 (wrap .i64 (s.2.2.2.2.1-1))).bind fun x3=> cond (lim ((a03 s.2.2.2.2.2.1)+1)) (some (.inl (s.1,s.2.1,s.2.2.1,s.2.2.2.1,wrap .i64 (s.2.2.2.2.1+1),a04 s.2.2.2.2.2.1 [wrap .i64 (x2-x3)],()))) none) (some (.inr (s.1,s.2.1,s.2.2.2.1,s.2.2.2.2.2.1,())))
def a7b(s:((List Int)×Z16)):Option (((List Int)×Z16) ⊕ Z13):= cond (decide (s.2.2.2.1<s.2.1)) ((a0e a5a (s.1,s.2.1,s.2.2.1,s.2.2.2.1,1,[],())).bind fun w4=> some (.inl (w4.1,w4.2.1,w4.2.2.2.1,wrap .i64 (w4.2.2.1+1),()))) (some (.inr (s.1,s.2.2.1,())))
def a3d(x:((List Int)×Int)):Option ((List Int)×Int):= (show Option Z18 from cond (decide (x.2<0)) (some (x.1,x.2,true,())) (cond (decide (x.2 > 4)) (some (x.1,x.2,true,())) (some (x.1,x.2,decide ((x.1.length:Int)<x.2),())))).bind fun z1=> cond z1.2.2.1 (some ([],1)) (cond (lim (0+(a03 z1.1))) ((a0e a7b (z1.1,z1.2.1,a04 [] z1.1,0,())).bind fun w5=> (show Option Z7 from(a0G w5.1).bind fun y6=> cond (!y6) (some (w5.2.1,true,())) ((a0G w5.2.1).bind fun y7=> some (w5.2.1,!y7,()))).bind fun z8=> cond z8.2.1 (some ([],6)) (some (z8.1,0))) none)
def a9n:FSem:=⟨[.v QL,.v QI],[.v QL,.v QI],a3d⟩
def e1x:Hints:=⟨[(122,[.sv 0 QL,.sv 1 QI,.sv 6 QL,.sv 7 QI],[(.exit 0,[.sv 0 QL,.sv 6 QL])]),(31306,[.sv 0 QL,.sv 1 QI,.sv 6 QL,.sv 7 QI,.sv 9 QI,.own 8 8 QI],[(.exit 2,[.sv 0 QL,.sv 1 QI,.sv 7 QI,.own 8 8 QI])])],[(6,[(.normal,[.sv 0 QL,.sv 1 QI,.sv 21 .bool])]),(62,[(.normal,[.sv 6 QL,.sv 57 .bool])])],[(11,[.q,.q,.v,.q,.q,.q,.v,.v,.q,.q,.v,.q,.x,.x])]⟩
def b7e(x:Int):Option Int:= some (a1D x (wrap .i64 (0-x)))
def c1s:FSem:=⟨[.v QI],[.v QI],b7e⟩
def e1y:Hints:=⟨[],[],[]⟩
def a7V(s:Z14):Option Z53:= cond (decide (s.2.2.1<(s.1.length:Int))) ((a0r s.1 s.2.2.1).bind fun x1=> (b7e x1).bind fun y2=> some (.inl (s.1,wrap .i64 (s.2.1+y2),wrap .i64 (s.2.2.1+1),()))) (some (.inr (s.2.1,())))
def b0V(x:((List Int)×Int)):Option Int:= (a0e a7V (x.1,0,a1D x.2 0,())).bind fun w3=> some w3.1
def b8c:FSem:=⟨[.v QL,.v QI],[.v QI],b0V⟩
def e1z:Hints:=⟨[(58,[.sv 0 QL,.sv 5 QI,.sv 6 QI],[(.exit 0,[.sv 5 QI])])],[],[]⟩
def a7C(x:((List Int)×Int)):Option Int:= (a3d (x.1,x.2)).bind fun y1=> cond (y1.2 != 0) (some 0) ((b0V (y1.1,wrap .i64 (4-x.2))).bind fun y2=> some y2)
def b5d:FSem:=⟨[.v QL,.v QI],[.v QI],a7C⟩
def e1A:Hints:=⟨[],[],[]⟩
def a2L(s:Z31):Option (Z31 ⊕ (Int×Unit)):= cond (decide (s.2.2.2.1<5)) ((a3d (s.1,s.2.2.2.1)).bind fun y1=> (a7C (s.1,s.2.2.2.1)).bind fun y2=> (show Option ((List Int)×Z39)from cond (y1.2==0) (cond (decide (s.2.1<0)) (some (s.1,s.2.1,s.2.2.1,s.2.2.2.1,y2,true,())) (some (s.1,s.2.1,s.2.2.1,s.2.2.2.1,y2,decide (y2<s.2.2.1),()))) (some (s.1,s.2.1,s.2.2.1,s.2.2.2.1,y2,false,()))).bind fun z3=> cond z3.2.2.2.2.2.1 (some (.inl (z3.1,z3.2.2.2.1,z3.2.2.2.2.1,wrap .i64 (z3.2.2.2.1+1),()))) (some (.inl (z3.1,z3.2.1,z3.2.2.1,wrap .i64 (z3.2.2.2.1+1),())))) (some (.inr (s.2.1,())))
def a7c(x:(List Int)):Option Int:= (a0e a2L (x,(-1),0,0,())).bind fun w4=> some (a1D w4.1 0)
def b7f:FSem:=⟨[.v QL],[.v QI],a7c⟩
def e1B:Hints:=⟨[(58,[.sv 0 QL,.sv 3 QI,.sv 4 QI,.sv 5 QI],[(.exit 0,[.sv 3 QI])])],[(3731,[(.normal,[.sv 0 QL,.sv 3 QI,.sv 4 QI,.sv 5 QI,.sv 8 QI,.sv 32 .bool])])],[]⟩
def b0m(x:Int):Option Int:= some (a2v (a1D x (-1048576)) 1048575)
def b9y:FSem:=⟨[.v QI],[.v QI],b0m⟩
def e1C:Hints:=⟨[],[],[]⟩
def a5l(s:Z22):Option (Z22 ⊕ Z6):= cond (decide (s.2.1<(s.2.2.1.length:Int))) (cond s.1 (cond ((decide (0≤s.2.1))&&(decide (s.2.1<(s.2.2.1.length:Int)))) ((b0m (a02 s.2.2.1 (a01 s.2.1) 0)).bind fun y2=> cond ((decide (0≤s.2.1))&&(decide (s.2.1<(s.2.2.1.length:Int)))) (some (.inl (y2==(a02 s.2.2.1 (a01 s.2.1) 0),wrap .i64 (s.2.1+1),s.2.2.1,()))) none) none) (some (.inl (false,wrap .i64 (s.2.1+1),s.2.2.1,())))) (some (.inr (s.1,s.2.2.1,())))
def a7d(s:Z3):Option (Z3 ⊕ ((List Int)×Unit)):= cond (decide (s.1<(s.2.1.length:Int))) (cond ((decide (0≤s.1))&&(decide (s.1<(s.2.1.length:Int)))) (cond ((decide (0≤s.1))&&(decide (s.1<(s.2.1.length:Int)))) (some (.inl (wrap .i64 (s.1+1),a05 s.2.1 (a01 s.1) (a0l .i64 (a02 s.2.1 (a01 s.1) 0) 1),()))) none) none) (some (.inr (s.2.1,())))
def a7e(s:((List Int)×Unit)):Option (((List Int)×Unit) ⊕ ((List Int)×Unit)):= (a0e a5l (true,0,s.1,())).bind fun w3=> cond w3.1 (some (.inr (w3.2.1,()))) ((a0e a7d (0,w3.2.1,())).bind fun w4=> some (.inl (w4.1,())))
def a7W(x:(List Int)):Option (List Int):= cond (lim (0+(a03 x))) ((a0e a7e (a04 [] x,())).bind fun w5=> some w5.1) none
def c1t:FSem:=⟨[.v QL],[.o QI],a7W⟩
def e1D:Hints:=⟨[(14,[.own 3 3 QI],[(.ret,[.own 2 3 QI])]),(906,[.sv 4 .bool,.sv 5 QI,.own 3 3 QI],[(.exit 2,[.sv 4 .bool,.own 3 3 QI])]),(1822,[.sv 6 QI,.own 3 3 QI],[(.exit 4,[.own 3 3 QI])])],[],[(6,[.x,.x,.q,.v,.q,.q,.v,.q,.v,.q,.q,.x,.x,.x])]⟩
def b9z(x:(Int×Int)):Option Int:= cond (x.2==0) none ((show Option (Int×Unit)from cond (x.2==0) none (cond (decide ((a34 x.1 x.2)<0)) (some (wrap .i64 ((wrap .i64 (a23 x.1 x.2))-1),())) (some (wrap .i64 (a23 x.1 x.2),())))).bind fun z1=> some z1.1)
def c4N:FSem:=⟨[.v QI,.v QI],[.v QI],b9z⟩
def e1E:Hints:=⟨[],[(7,[(.normal,[.sv 5 QI])])],[]⟩
def a9g(s:Z59):Option (Z59 ⊕ (Int×Int×Unit)):= cond (decide (s.2.2.2.2.1<(s.1.length:Int))) ((a0r s.1 s.2.2.2.2.1).bind fun x1=> (a0r s.2.1 (wrap .i64 (s.2.2.2.2.1-1))).bind fun x2=> (a0r s.1 s.2.2.2.2.1).bind fun x3=> (a0r s.1 s.2.2.2.2.1).bind fun x4=> (a0r s.2.1 (wrap .i64 (s.2.2.2.2.1-1))).bind fun x5=> (a0r s.2.1 (wrap .i64 (s.2.2.2.2.1-1))).bind fun x6=> some (.inl (s.1,s.2.1,wrap .i64 (s.2.2.1+(wrap .i64 (x1*x2))),wrap .i64 ((wrap .i64 (s.2.2.2.1+(wrap .i64 (x3*x4))))+(wrap .i64 (x5*x6))),wrap .i64 (s.2.2.2.2.1+1),()))) (some (.inr (s.2.2.1,s.2.2.2.1,())))
def b3n(s:(Int×Int×Unit)):Option ((Int×Int×Unit) ⊕ (Int×Int×Unit)):= cond (decide (s.2.1≥1099511627776)) (some (.inl (a0l .i64 s.1 1,a0l .i64 s.2.1 1,()))) (some (.inr (s.1,s.2.1,())))
def a6o(x:Z11):Option Int:= (a0e a9g (x.1,x.2.1,0,0,x.2.2,())).bind fun w7=> (a0e b3n (w7.1,w7.2.1,())).bind fun w8=> cond (w8.2.1==0) (some 0) ((b9z (wrap .i64 (w8.1*32768),w8.2.1)).bind fun y9=> some (a2v (a1D y9 (-16383)) 16383))
def b6q:FSem:=⟨[.v QL,.v QL,.v QI],[.v QI],a6o⟩
def e1F:Hints:=⟨[(58,[.sv 0 QL,.sv 1 QL,.sv 7 QI,.sv 8 QI,.sv 9 QI],[(.exit 0,[.sv 7 QI,.sv 8 QI])]),(60,[.sv 7 QI,.sv 8 QI],[(.exit 2,[.sv 7 QI,.sv 8 QI])])],[],[(5,[.v,.v,.v,.v,.v,.v,.v,.v,.v,.v,.v,.x,.x]),(6,[.v,.v,.v,.v,.v,.v,.v,.v,.v,.v,.v,.v,.v,.v,.v,.v,.v,.v,.v,.v,.v,.v,.x,.x])]⟩
def a2B(s:(Int×((List Int)×Z81))):Option ((Int×((List Int)×Z81)) ⊕ Z81):= cond (decide (s.2.2.2.2.1<(s.2.2.2.2.2.1.length:Int))) (cond ((decide (0≤s.2.2.2.2.1))&&(decide (s.2.2.2.2.1<(s.2.2.2.2.2.1.length:Int)))) ((a0r s.2.1 (wrap .i64 (s.2.2.2.2.1-1))).bind fun x6=> (b0m (wrap .i64 ((a02 s.2.2.2.2.2.1 (a01 s.2.2.2.2.1) 0)-(a0l .i64 (wrap .i64 (s.2.2.2.1*x6)) 14)))).bind fun y7=> cond ((decide (0≤s.2.2.2.2.1))&&(decide (s.2.2.2.2.1<(s.2.2.2.2.2.1.length:Int)))) ((b0m (wrap .i64 (x6-(a0l .i64 (wrap .i64 (s.2.2.2.1*(a02 s.2.2.2.2.2.1 (a01 s.2.2.2.2.1) 0))) 14)))).bind fun y8=> cond ((decide (0≤s.2.2.2.2.1))&&(decide (s.2.2.2.2.1<(s.2.2.2.2.2.2.2.1.length:Int)))) (some (.inl (s.1,s.2.1,s.2.2.1,s.2.2.2.1,wrap .i64 (s.2.2.2.2.1+1),a05 s.2.2.2.2.2.1 (a01 s.2.2.2.2.1) y7,s.2.2.2.2.2.2.1,a05 s.2.2.2.2.2.2.2.1 (a01 s.2.2.2.2.1) y8,()))) none) none) none) (some (.inr (s.1,s.2.2.1,s.2.2.2.1,s.2.2.2.2.2.1,s.2.2.2.2.2.2.1,s.2.2.2.2.2.2.2.1,())))
def a4S(s:(Int×((List Int)×Z26))):Option ((Int×((List Int)×Z26)) ⊕ ((List Int)×Unit)):= cond (decide (s.2.2.1≤s.1)) ((a6o (s.2.2.2.1,s.2.1,s.2.2.1)).bind fun y5=> cond (lim (0+(a03 s.2.1))) ((a0e a2B (s.1,s.2.1,s.2.2.1,y5,s.2.2.1,s.2.2.2.1,s.2.2.2.2.1,a04 [] s.2.1,())).bind fun w9=> cond (lim ((a03 w9.2.2.2.2.1)+1)) (some (.inl (w9.1,w9.2.2.2.2.2.1,wrap .i64 (w9.2.1+1),w9.2.2.2.1,a04 w9.2.2.2.2.1 [w9.2.2.1],()))) none) none) (some (.inr (s.2.2.2.2.1,())))
def a6v(x:((List Int)×Int)):Option ((List Int)×Int):= (show Option Z18 from cond (decide (x.2<1)) (some (x.1,x.2,true,())) (cond (decide (x.2 > 32)) (some (x.1,x.2,true,())) (some (x.1,x.2,decide ((x.1.length:Int) > 4096),())))).bind fun z1=> cond z1.2.2.1 (some ([],1)) ((a0G z1.1).bind fun y2=> cond (!y2) (some ([],6)) ((a7W z1.1).bind fun y3=> (a7W z1.1).bind fun y4=> (a0e a4S (z1.2.1,y4,1,y3,[],())).bind fun w10=> some (w10.1,0)))
def b3o:FSem:=⟨[.v QL,.v QI],[.o QI,.v QI],a6v⟩
def e1G:Hints:=⟨[(506,[.sv 1 QI,.sv 7 QL,.sv 9 QI,.own 6 6 QI,.own 8 8 QI],[(.exit 0,[.own 8 8 QI])]),(259226,[.sv 1 QI,.sv 7 QL,.sv 9 QI,.sv 10 QI,.sv 12 QI,.own 6 6 QI,.own 8 8 QI,.own 11 11 QI],[(.exit 2,[.sv 1 QI,.sv 9 QI,.sv 10 QI,.own 6 6 QI,.own 8 8 QI,.own 11 11 QI])])],[(6,[(.normal,[.sv 0 QL,.sv 1 QI,.sv 25 .bool])])],[(15,[.q,.v,.q,.q,.q,.v,.v,.q,.q,.v,.x])]⟩
def a2t(s:Z4):Option (Z4 ⊕ Z45):= cond (decide (s.2.1<(s.1.length:Int))) ((show Option Z18 from(a0r s.1 s.2.1).bind fun x2=> cond (decide (x2≤(-16384))) (some (s.1,s.2.1,true,())) ((a0r s.1 s.2.1).bind fun x3=> some (s.1,s.2.1,decide (x3≥16384),()))).bind fun z4=> cond z4.2.2.1 (some (.inr (Sum.inr ((1,[],()))))) (some (.inl (z4.1,wrap .i64 (z4.2.1+1),())))) (some (.inr (Sum.inl (s.1,()))))
def a4a(s:Z67):Option (Z67 ⊕ Z28):= cond (decide (s.2.2.1<s.2.1)) (cond ((decide (0≤s.2.2.1))&&(decide (s.2.2.1<(s.2.2.2.2.1.length:Int)))) ((a0r s.1 s.2.1).bind fun x8=> cond ((decide (0≤(wrap .i64 ((wrap .i64 (s.2.1-1))-s.2.2.1))))&&(decide ((wrap .i64 ((wrap .i64 (s.2.1-1))-s.2.2.1))<(s.2.2.2.2.1.length:Int)))) (cond ((decide (0≤s.2.2.1))&&(decide (s.2.2.1<(s.2.2.2.1.length:Int)))) (some (.inl (s.1,s.2.1,wrap .i64 (s.2.2.1+1),a05 s.2.2.2.1 (a01 s.2.2.1) (wrap .i64 ((a02 s.2.2.2.2.1 (a01 s.2.2.1) 0)-(a0l .i64 (wrap .i64 (x8*(a02 s.2.2.2.2.1 (a01 (wrap .i64 ((wrap .i64 (s.2.1-1))-s.2.2.1))) 0))) 14))),s.2.2.2.2.1,()))) none) none) none) (some (.inr (s.1,s.2.1,s.2.2.2.1,())))
def a5M(s:Z28):Option (Z28 ⊕ ((List Int)×Unit)):= cond (decide (s.2.1<(s.1.length:Int))) (cond (lim (0+(a03 s.2.2.1))) ((a0e a4a (s.1,s.2.1,0,s.2.2.1,a04 [] s.2.2.1,())).bind fun w9=> (a0r w9.1 w9.2.1).bind fun x10=> cond (lim ((a03 w9.2.2.1)+1)) (some (.inl (w9.1,wrap .i64 (w9.2.1+1),a04 w9.2.2.1 [x10],()))) none) none) (some (.inr (s.2.2.1,())))
def a5A(x:(List Int)):Option ((List Int)×Int):= (show Option Z7 from cond (decide ((x.length:Int)<1)) (some (x,true,())) (some (x,decide ((x.length:Int) > 32),()))).bind fun z1=> cond z1.2.1 (some ([],1)) ((a0e a2t (z1.1,0,())).bind fun w5=> match w5 with |.inl a6=>((a0e a5M (a6.1,0,[],())).bind fun w11=> some (w11.1,0)) |.inr b7=>some (b7.2.1,b7.1))
def b5e:FSem:=⟨[.v QL],[.o QI,.v QI],a5A⟩
def e1H:Hints:=⟨[(58,[.sv 0 QL,.sv 4 QI],[(.exit 0,[.sv 0 QL]),(.ret,[.sv 3 QI,.own 2 2 QI])]),(250,[.sv 0 QL,.sv 6 QI,.own 5 5 QI],[(.exit 2,[.own 5 5 QI])]),(64074,[.sv 0 QL,.sv 6 QI,.sv 8 QI,.own 5 5 QI,.own 7 7 QI],[(.exit 4,[.sv 0 QL,.sv 6 QI,.own 5 5 QI])])],[(6,[(.normal,[.sv 0 QL,.sv 16 .bool])]),(932,[(.normal,[.sv 0 QL,.sv 4 QI,.sv 34 .bool])])],[(16,[.q,.v,.q,.v,.q,.q,.v,.v,.v,.v,.q,.v,.v,.v,.v,.q,.q,.v,.v,.v,.x,.x])]⟩
def c3H(x:Int):Option Int:= (show Option (Int×Bool×Unit)from cond (decide (x<1)) (some (x,true,())) (some (x,decide (x > 31),()))).bind fun z1=> cond z1.2.1 (some 0) (cond (decide ((wrap .u64 (wrap .i64 (z1.1-1)))<0)) none (some (a0F .i64 (-1) (wrap .u64 (wrap .i64 (z1.1-1))))))
def c9b:FSem:=⟨[.v QI],[.v QI],c3H⟩
def e1I:Hints:=⟨[],[(6,[(.normal,[.sv 0 QI,.sv 8 .bool])])],[]⟩
def c1u(x:Int):Option Int:= (show Option (Int×Bool×Unit)from cond (decide (x<1)) (some (x,true,())) (some (x,decide (x > 31),()))).bind fun z1=> cond z1.2.1 (some 0) (cond (decide ((wrap .u64 (wrap .i64 (z1.1-1)))<0)) none (some (wrap .i64 ((a0F .i64 1 (wrap .u64 (wrap .i64 (z1.1-1))))-1))))
def c6Z:FSem:=⟨[.v QI],[.v QI],c1u⟩
def e1J:Hints:=⟨[],[(6,[(.normal,[.sv 0 QI,.sv 8 .bool])])],[]⟩
def b2a(x:(Int×Int)):Option Bool:= cond (decide (x.2≥1)) (cond (decide (x.2≤31)) ((c3H x.2).bind fun y1=> cond (decide (x.1≥y1)) ((c1u x.2).bind fun y2=> some (decide (x.1≤y2))) (some false)) (some false)) (some false)
def c1v:FSem:=⟨[.v QI,.v QI],[.v .bool],b2a⟩
def H85:Hints:=⟨[],[],[]⟩
def a2u(s:Z14):Option (Z14 ⊕ (Z4 ⊕ Z15)):= cond (decide (s.2.2.1<(s.1.length:Int))) ((show Option Z32 from(a0r s.1 s.2.2.1).bind fun x2=> cond (decide (x2<(-35184372088832))) (some (s.1,s.2.1,s.2.2.1,true,())) ((a0r s.1 s.2.2.1).bind fun x3=> some (s.1,s.2.1,s.2.2.1,decide (x3 > 35184372088832),()))).bind fun z4=> cond z4.2.2.2.1 (some (.inr (Sum.inr ((0,1,[],()))))) (some (.inl (z4.1,z4.2.1,wrap .i64 (z4.2.2.1+1),())))) (some (.inr (Sum.inl (s.1,s.2.1,()))))
def a2S(s:((List Int)×(Int×Int×Int×Z22))):Option (((List Int)×(Int×Int×Int×Z22)) ⊕ Z61):= cond (decide (s.2.2.2.2.2.1<(s.1.length:Int))) ((a0r s.1 s.2.2.2.2.2.1).bind fun x9=> cond (decide ((wrap .u64 s.2.2.1)<0)) none (cond (lim ((a03 s.2.2.2.2.2.2.1)+1)) (cond s.2.2.2.2.1 ((b2a (a0l .i64 (wrap .i64 (x9+s.2.2.2.1)) (wrap .u64 s.2.2.1),s.2.1)).bind fun y10=> some (.inl (s.1,s.2.1,s.2.2.1,s.2.2.2.1,y10,wrap .i64 (s.2.2.2.2.2.1+1),a04 s.2.2.2.2.2.2.1 [a0l .i64 (wrap .i64 (x9+s.2.2.2.1)) (wrap .u64 s.2.2.1)],()))) (some (.inl (s.1,s.2.1,s.2.2.1,s.2.2.2.1,false,wrap .i64 (s.2.2.2.2.2.1+1),a04 s.2.2.2.2.2.2.1 [a0l .i64 (wrap .i64 (x9+s.2.2.2.1)) (wrap .u64 s.2.2.1)],())))) none)) (some (.inr (s.1,s.2.1,s.2.2.1,s.2.2.2.2.1,s.2.2.2.2.2.2.1,())))
def a4b(s:Z14):Option (Z14 ⊕ (Unit ⊕ Z15)):= cond (decide (s.2.2.1≤14)) ((show Option Z31 from cond (decide (s.2.2.1 > 0)) (cond (decide ((wrap .u64 (wrap .i64 (s.2.2.1-1)))<0)) none (some (s.1,s.2.1,s.2.2.1,a0F .i64 1 (wrap .u64 (wrap .i64 (s.2.2.1-1))),()))) (some (s.1,s.2.1,s.2.2.1,0,()))).bind fun z8=> (a0e a2S (z8.1,z8.2.1,z8.2.2.1,z8.2.2.2.1,true,0,[],())).bind fun w11=> cond w11.2.2.2.1 (some (.inr (Sum.inr ((wrap .i64 (14-w11.2.2.1),0,w11.2.2.2.2.1,()))))) (some (.inl (w11.1,w11.2.1,wrap .i64 (w11.2.2.1+1),())))) (some (.inr (Sum.inl ())))
def a7D(x:((List Int)×Int)):Option Z2:= (show Option Z18 from cond (decide ((x.1.length:Int)<1)) (some (x.1,x.2,true,())) (cond (decide ((x.1.length:Int) > 32)) (some (x.1,x.2,true,())) (cond (decide (x.2<2)) (some (x.1,x.2,true,())) (some (x.1,x.2,decide (x.2 > 16),()))))).bind fun z1=> cond z1.2.2.1 (some ([],0,1)) ((a0e a2u (z1.1,z1.2.1,0,())).bind fun w5=> match w5 with |.inl a6=>((a0e a4b (a6.1,a6.2.1,0,())).bind fun w12=> match w12 with |.inl a13=>some ([],0,6) |.inr b14=>some (b14.2.2.1,b14.1,b14.2.1)) |.inr b7=>some (b7.2.2.1,b7.1,b7.2.1))
def b5f:FSem:=⟨[.v QL,.v QI],[.o QI,.v QI,.v QI],a7D⟩
def e1K:Hints:=⟨[(58,[.sv 0 QL,.sv 1 QI,.sv 7 QI],[(.exit 0,[.sv 0 QL,.sv 1 QI]),(.ret,[.sv 5 QI,.sv 6 QI,.own 4 4 QI])]),(122,[.sv 0 QL,.sv 1 QI,.sv 8 QI],[(.exit 2,[]),(.ret,[.sv 5 QI,.sv 6 QI,.own 4 10 QI])]),(250490,[.sv 0 QL,.sv 1 QI,.sv 8 QI,.sv 9 QI,.sv 11 .bool,.sv 12 QI,.own 10 10 QI],[(.exit 4,[.sv 0 QL,.sv 1 QI,.sv 8 QI,.sv 11 .bool,.own 10 10 QI])])],[(6,[(.normal,[.sv 0 QL,.sv 1 QI,.sv 29 .bool])]),(932,[(.normal,[.sv 0 QL,.sv 1 QI,.sv 7 QI,.sv 47 .bool])]),(3913,[(.normal,[.sv 0 QL,.sv 1 QI,.sv 8 QI,.sv 9 QI])])],[]⟩
def a8n(x:Z2):Option Z2:= (a6v (x.1,x.2.1)).bind fun y1=> cond (y1.2 != 0) (some ([],0,y1.2)) ((a5A y1.1).bind fun y2=> cond (y2.2 != 0) (some ([],0,y2.2)) ((a7D (y2.1,x.2.2)).bind fun y3=> some (y3.1,y3.2.1,y3.2.2)))
def b6r:FSem:=⟨[.v QL,.v QI,.v QI],[.o QI,.v QI,.v QI],a8n⟩
def e1L:Hints:=⟨[],[],[]⟩
def a9K(x:Z2):Option (a2a×Bool):= (a8n (x.1,x.2.1,x.2.2)).bind fun y1=> some ((3,0,0,y1.2.1,0,y1.1,a00 3 0,[],[],(0,[],()),[],()),y1.2.2==0)
def b6s:FSem:=⟨[.v QL,.v QI,.v QI],[.v Q19,.v .bool],a9K⟩
def e1M:Hints:=⟨[],[],[]⟩
def a1o(x:(b1M×Z2)):Option (b1M×b1M):= (a9K (x.2.1,x.2.2.1,x.2.2.2)).bind fun y1=> cond y1.2 (cond (lim ((a03 x.1)+1)) (some (a04 x.1 ([y1.1]:List a2a),[])) none) (some (x.1,[]))
def c4O:FSem:=⟨[.r true (.o Q19),.v QL,.v QI,.v QI],[.o Q19],a1o⟩
def e1N:Hints:=⟨[],[],[]⟩
def c2v(s:((List Int)×Z52)):Option (((List Int)×Z52) ⊕ ((List Int)×Z35)):= cond (decide (s.2.2.2.2.2.2.1<(s.1.length:Int))) ((a0r s.1 s.2.2.2.2.2.2.1).bind fun x3=> (a0r s.1 (wrap .i64 (s.2.2.2.2.2.2.1-s.2.2.2.2.1))).bind fun x4=> (b7e (wrap .i64 (x3-x4))).bind fun y5=> some (.inl (s.1,s.2.1,s.2.2.1,s.2.2.2.1,s.2.2.2.2.1,wrap .i64 (s.2.2.2.2.2.1+y5),wrap .i64 (s.2.2.2.2.2.2.1+1),()))) (some (.inr (s.1,s.2.1,s.2.2.1,s.2.2.2.1,s.2.2.2.2.1,s.2.2.2.2.2.1,())))
def c2w(s:((List Int)×Z21)):Option (((List Int)×Z21) ⊕ (Int×Unit)):= cond (decide (s.2.2.2.2.1≤s.2.1)) ((a0e c2v (s.1,s.2.1,s.2.2.1,s.2.2.2.1,s.2.2.2.2.1,0,s.2.1,())).bind fun w6=> (show Option ((List Int)×(Int×Z39))from cond (w6.2.2.1==0) (some (w6.1,w6.2.1,w6.2.2.1,w6.2.2.2.1,w6.2.2.2.2.1,w6.2.2.2.2.2.1,true,())) (some (w6.1,w6.2.1,w6.2.2.1,w6.2.2.2.1,w6.2.2.2.2.1,w6.2.2.2.2.2.1,decide (w6.2.2.2.2.2.1<w6.2.2.2.1),()))).bind fun z7=> cond z7.2.2.2.2.2.2.1 (some (.inl (z7.1,z7.2.1,z7.2.2.2.2.1,z7.2.2.2.2.2.1,wrap .i64 (z7.2.2.2.2.1+1),()))) (some (.inl (z7.1,z7.2.1,z7.2.2.1,z7.2.2.2.1,wrap .i64 (z7.2.2.2.2.1+1),())))) (some (.inr (s.2.2.1,())))
def b0n(x:Z2):Option (Int×Int):= (show Option Z32 from cond (decide (x.2.1<2)) (some (x.1,x.2.1,x.2.2,true,())) (cond (decide (x.2.2<x.2.1)) (some (x.1,x.2.1,x.2.2,true,())) (cond (decide (x.2.2 > 1024)) (some (x.1,x.2.1,x.2.2,true,())) (some (x.1,x.2.1,x.2.2,decide ((x.1.length:Int) > 4096),()))))).bind fun z1=> cond z1.2.2.2.1 (some (0,1)) (cond (decide ((z1.1.length:Int)≤z1.2.2.1)) (some (0,7)) ((a0G z1.1).bind fun y2=> cond (!y2) (some (0,6)) ((a0e c2w (z1.1,z1.2.2.1,0,0,z1.2.1,())).bind fun w8=> some (w8.1,0))))
def b8I:FSem:=⟨[.v QL,.v QI,.v QI],[.v QI,.v QI],b0n⟩
def e1O:Hints:=⟨[(122,[.sv 0 QL,.sv 2 QI,.sv 8 QI,.sv 9 QI,.sv 10 QI],[(.exit 1,[.sv 8 QI])]),(31306,[.sv 0 QL,.sv 2 QI,.sv 8 QI,.sv 9 QI,.sv 10 QI,.sv 11 QI,.sv 12 QI],[(.exit 3,[.sv 0 QL,.sv 2 QI,.sv 8 QI,.sv 9 QI,.sv 10 QI,.sv 11 QI])])],[(12,[(.normal,[.sv 0 QL,.sv 1 QI,.sv 2 QI,.sv 13 .bool])]),(7827,[(.normal,[.sv 0 QL,.sv 2 QI,.sv 8 QI,.sv 9 QI,.sv 10 QI,.sv 11 QI,.sv 72 .bool])])],[(15,[.v,.v,.v,.v,.v,.v,.v,.v,.v,.v,.v,.v,.v,.x,.x])]⟩
def a4I(s:Z15):Option (Z15 ⊕ ((Int×Unit) ⊕ (Bool×Unit))):= cond (decide (s.2.1<3)) ((show Option Z33 from(a0r s.2.2.1 s.2.1).bind fun x1=> cond (decide (x1<(-64))) (some (s.1,s.2.1,true,s.2.2.1,())) ((a0r s.2.2.1 s.2.1).bind fun x2=> some (s.1,s.2.1,decide (x2 > 64),s.2.2.1,()))).bind fun z3=> cond z3.2.2.1 (some (.inr (Sum.inr ((false,()))))) (some (.inl (z3.1,wrap .i64 (z3.2.1+1),z3.2.2.2.1,())))) (some (.inr (Sum.inl (s.1,()))))
def a6J(x:(Int×(List Int))):Option Bool:= (a0e a4I (x.1,0,x.2,())).bind fun w4=> match w4 with |.inl a5=>(cond (decide (a5.1≥2)) (some (decide (a5.1≤1024))) (some false)) |.inr b6=>some b6.1
def b1p:FSem:=⟨[.v QI,.v (.arr 3 QI)],[.v .bool],a6J⟩
def e1P:Hints:=⟨[(26,[.sv 0 QI,.sv 5 QI,.vp 3 (.arr 3 QI)],[(.exit 0,[.sv 0 QI]),(.ret,[.sv 4 .bool])])],[(420,[(.normal,[.sv 0 QI,.sv 5 QI,.sv 19 .bool,.vp 3 (.arr 3 QI)])])],[]⟩
def a5b(s:Z60):Option (Z60 ⊕ (Int×Unit)):= cond (decide (s.2.2.2.1<3)) (cond (decide ((wrap .i64 ((wrap .i64 ((wrap .i64 ((s.1.length:Int)-s.2.1))-1))+s.2.2.2.1))≥0)) ((a0r s.2.2.2.2.1 s.2.2.2.1).bind fun x1=> (a0r s.1 (wrap .i64 ((wrap .i64 ((wrap .i64 ((s.1.length:Int)-s.2.1))-1))+s.2.2.2.1))).bind fun x2=> some (.inl (s.1,s.2.1,wrap .i64 (s.2.2.1+(wrap .i64 (x1*x2))),wrap .i64 (s.2.2.2.1+1),s.2.2.2.2.1,()))) (some (.inl (s.1,s.2.1,s.2.2.1,wrap .i64 (s.2.2.2.1+1),s.2.2.2.2.1,())))) (some (.inr (s.2.2.1,())))
def a7f(x:Z12):Option Int:= (a0e a5b (x.1,x.2.1,0,0,x.2.2,())).bind fun w3=> some (a0l .i64 w3.1 6)
def b2J:FSem:=⟨[.v QL,.v QI,.v (.arr 3 QI)],[.v QI],a7f⟩
def e1Q:Hints:=⟨[(58,[.sv 0 QL,.sv 1 QI,.sv 7 QI,.sv 8 QI,.vp 5 (.arr 3 QI)],[(.exit 0,[.sv 7 QI])])],[],[(7,[.v,.v,.v,.v,.v,.v,.v,.v,.v,.x,.x])]⟩
def a7E(s:Z67):Option (Z67 ⊕ ((List Int)×Unit)):= cond (decide (s.2.2.1<(s.1.length:Int))) ((a0r s.1 s.2.2.1).bind fun x3=> cond ((decide (0≤s.2.2.1))&&(decide (s.2.2.1≤(s.1.length:Int)))) ((a7f (a07 (a01 s.2.2.1) s.1,s.2.1,s.2.2.2.2.1)).bind fun y4=> cond (lim ((a03 s.2.2.2.1)+1)) (some (.inl (s.1,s.2.1,wrap .i64 (s.2.2.1+1),a04 s.2.2.2.1 [wrap .i64 (x3-y4)],s.2.2.2.2.1,()))) none) none) (some (.inr (s.2.2.2.1,())))
def a6e(x:Z12):Option ((List Int)×Int):= (a6J (x.2.1,x.2.2)).bind fun y1=> cond (!y1) (some ([],1)) ((a0G x.1).bind fun y2=> cond (!y2) (some ([],6)) ((a0e a7E (x.1,x.2.1,0,[],x.2.2,())).bind fun w5=> (a0G w5.1).bind fun y6=> cond (!y6) (some ([],6)) (some (w5.1,0))))
def b0o:FSem:=⟨[.v QL,.v QI,.v (.arr 3 QI)],[.o QI,.v QI],a6e⟩
def e1R:Hints:=⟨[(250,[.sv 0 QL,.sv 1 QI,.sv 9 QI,.own 8 8 QI,.vp 5 (.arr 3 QI)],[(.exit 0,[.own 8 8 QI])])],[],[(9,[.q,.v,.v,.v,.v,.v,.v,.v,.v,.v,.v,.v,.q,.x,.x])]⟩
def b7g(x:Unit):Option (List (List Int)):= some ([a05 (a05 (a05 (a00 3 0) 0 0) 1 0) 2 0,a05 (a05 (a05 (a00 3 0) 0 0) 1 64) 2 0,a05 (a05 (a05 (a00 3 0) 0 0) 1 32) 2 0,a05 (a05 (a05 (a00 3 0) 0 16) 1 32) 2 16,a05 (a05 (a05 (a00 3 0) 0 21) 1 22) 2 21,a05 (a05 (a05 (a00 3 0) 0 0) 1 48) 2 0,a05 (a05 (a05 (a00 3 0) 0 (-8)) 1 64) 2 (-8),a05 (a05 (a05 (a00 3 0) 0 32) 1 32) 2 0,a05 (a05 (a05 (a00 3 0) 0 0) 1 32) 2 32]:List (List Int))
def b7h:FSem:=⟨[],[.o (.arr 3 QI)],b7g⟩
def e1S:Hints:=⟨[],[],[]⟩
def c2x(s:((List Int)×(Int×Int×Int×Int×Z25))):Option (((List Int)×(Int×Int×Int×Int×Z25)) ⊕ (Int×Z25)):= cond (decide (s.2.2.2.2.1<(s.2.2.2.2.2.1.length:Int))) (cond ((decide (0≤s.2.2.2.2.1))&&(decide (s.2.2.2.2.1<(s.2.2.2.2.2.1.length:Int)))) ((a6e (s.1,s.2.1,a02 s.2.2.2.2.2.1 (a01 s.2.2.2.2.1) (a00 3 0))).bind fun y3=> (b0V (y3.1,0)).bind fun y4=> (show Option ((List Int)×(Int×Int×Int×Int×Int×Bool×Z25))from cond (y3.2==0) (cond (decide (s.2.2.1<0)) (some (s.1,s.2.1,s.2.2.1,s.2.2.2.1,s.2.2.2.2.1,y4,true,s.2.2.2.2.2.1,s.2.2.2.2.2.2.1,())) (some (s.1,s.2.1,s.2.2.1,s.2.2.2.1,s.2.2.2.2.1,y4,decide (y4<s.2.2.2.1),s.2.2.2.2.2.1,s.2.2.2.2.2.2.1,()))) (some (s.1,s.2.1,s.2.2.1,s.2.2.2.1,s.2.2.2.2.1,y4,false,s.2.2.2.2.2.1,s.2.2.2.2.2.2.1,()))).bind fun z5=> cond z5.2.2.2.2.2.2.1 (some (.inl (z5.1,z5.2.1,z5.2.2.2.2.1,z5.2.2.2.2.2.1,wrap .i64 (z5.2.2.2.2.1+1),z5.2.2.2.2.2.2.2.1,z5.2.2.2.2.2.2.2.2.1,()))) (some (.inl (z5.1,z5.2.1,z5.2.2.1,z5.2.2.2.1,wrap .i64 (z5.2.2.2.2.1+1),z5.2.2.2.2.2.2.2.1,z5.2.2.2.2.2.2.2.2.1,())))) none) (some (.inr (s.2.2.1,s.2.2.2.2.2.1,s.2.2.2.2.2.2.1,())))
def b8J(x:((List Int)×Int)):Option ((List Int)×Int):= (show Option ((List Int)×Z17)from cond (decide (x.2<2)) (some (x.1,x.2,true,a00 3 0,())) (some (x.1,x.2,decide (x.2 > 1024),a00 3 0,()))).bind fun z1=> cond z1.2.2.1 (some (a00 3 0,1)) ((b7g ()).bind fun y2=> (a0e c2x (z1.1,z1.2.1,(-1),0,0,y2,z1.2.2.2.1,())).bind fun w6=> cond (decide (w6.1<0)) (some (a00 3 0,6)) (cond ((decide (0≤w6.1))&&(decide (w6.1<(w6.2.1.length:Int)))) (some (a02 w6.2.1 (a01 w6.1) (a00 3 0),0)) none))
def b8K:FSem:=⟨[.v QL,.v QI],[.v (.arr 3 QI),.v QI],b8J⟩
def e1T:Hints:=⟨[(250,[.sv 0 QL,.sv 1 QI,.sv 7 QI,.sv 8 QI,.sv 9 QI,.own 6 6 (.arr 3 QI),.box 4 (.arr 3 QI),.ptr 4 4 []],[(.exit 0,[.sv 7 QI,.own 6 6 (.arr 3 QI),.box 4 (.arr 3 QI),.ptr 4 4 []])])],[(6,[(.normal,[.sv 0 QL,.sv 1 QI,.sv 18 .bool,.box 4 (.arr 3 QI),.ptr 4 4 []])]),(16019,[(.normal,[.sv 0 QL,.sv 1 QI,.sv 7 QI,.sv 8 QI,.sv 9 QI,.sv 12 QI,.sv 49 .bool,.own 6 6 (.arr 3 QI),.box 4 (.arr 3 QI),.ptr 4 4 []])])],[]⟩
def b0p(x:(List Int)):Option (a2a×Bool):= (b0n (x,16,256)).bind fun y1=> cond (y1.2 != 0) (some ((0,0,0,0,0,[],a00 3 0,[],[],(0,[],()),[],()),false)) ((b8J (x,y1.1)).bind fun y2=> cond (y2.2 != 0) (some ((0,0,0,0,0,[],a00 3 0,[],[],(0,[],()),[],()),false)) ((a6e (x,y1.1,y2.1)).bind fun y3=> cond (y3.2 != 0) (some ((0,0,0,0,0,[],a00 3 0,[],[],(0,[],()),[],()),false)) ((a9K (y3.1,4,12)).bind fun y4=> some ((4,y4.1.2.1,y4.1.2.2.1,y4.1.2.2.2.1,y1.1,y4.1.2.2.2.2.2.1,y2.1,y4.1.2.2.2.2.2.2.2),y4.2))))
def c4P:FSem:=⟨[.v QL],[.v Q19,.v .bool],b0p⟩
def e1U:Hints:=⟨[],[],[(11,[.v,.r [6,45],.q,.w [0,10],.q,.w [0,10],.x,.x])]⟩
def a4J(s:d1Y):Option (d1Y ⊕ ((List Int)×c8W)):= cond (decide (s.2.1<5)) (cond (lim ((a03 s.2.2.1)+1)) (some (.inl (s.1,wrap .i64 (s.2.1+1),a04 s.2.2.1 ([(2,0,s.2.1,0,0,[],a00 3 0,[],[],(0,[],()),[],())]:List a2a),()))) none) (some (.inr (s.1,s.2.2.1,())))
def b4f(x:((List Int)×Int)):Option b1M:= (a7c x.1).bind fun y1=> (show Option d1Y from cond (decide (x.2≥1)) ((a1o (([(0,0,0,0,0,[],a00 3 0,[],[],(0,[],()),[],()),(1,0,0,0,0,[],a00 3 0,[],[],(0,[],()),[],()),(2,0,y1,0,0,[],a00 3 0,[],[],(0,[],()),[],())]:List a2a),x.1,4,12)).bind fun y2=> (a1o (y2.1,x.1,8,12)).bind fun y3=> some (x.1,x.2,y3.1,())) (some (x.1,x.2,([(0,0,0,0,0,[],a00 3 0,[],[],(0,[],()),[],()),(1,0,0,0,0,[],a00 3 0,[],[],(0,[],()),[],()),(2,0,y1,0,0,[],a00 3 0,[],[],(0,[],()),[],())]:List a2a),()))).bind fun z4=> (show Option d1Y from cond (decide (z4.2.1≥2)) (cond (lim ((a03 z4.2.2.1)+2)) ((b0p z4.1).bind fun y5=> cond y5.2 (cond (lim ((a03 (a04 z4.2.2.1 ([(5,0,0,0,0,[],a00 3 0,([(16,4,())]:List (Int×Int×Unit)),[],(0,[],()),[],()),(5,0,0,0,0,[],a00 3 0,([(32,3,()),(16,5,())]:List (Int×Int×Unit)),[],(0,[],()),[],())]:List a2a)))+1)) (some (z4.1,z4.2.1,a04 (a04 z4.2.2.1 ([(5,0,0,0,0,[],a00 3 0,([(16,4,())]:List (Int×Int×Unit)),[],(0,[],()),[],()),(5,0,0,0,0,[],a00 3 0,([(32,3,()),(16,5,())]:List (Int×Int×Unit)),[],(0,[],()),[],())]:List a2a)) ([y5.1]:List a2a),())) none) (some (z4.1,z4.2.1,a04 z4.2.2.1 ([(5,0,0,0,0,[],a00 3 0,([(16,4,())]:List (Int×Int×Unit)),[],(0,[],()),[],()),(5,0,0,0,0,[],a00 3 0,([(32,3,()),(16,5,())]:List (Int×Int×Unit)),[],(0,[],()),[],())]:List a2a),()))) none) (some (z4.1,z4.2.1,z4.2.2.1,()))).bind fun z6=> (show Option c8W from cond (decide (z6.2.1≥3)) ((a0e a4J (z6.1,0,z6.2.2.1,())).bind fun w7=> (a1o (w7.2.1,w7.1,1,12)).bind fun y8=> (a1o (y8.1,w7.1,2,12)).bind fun y9=> (a1o (y9.1,w7.1,12,14)).bind fun y10=> (a1o (y10.1,w7.1,16,14)).bind fun y11=> some (y11.1,())) (some (z6.2.2.1,()))).bind fun z12=> some z12.1
def c2Z:FSem:=⟨[.v QL,.v QI],[.o Q19],b4f⟩
def H97:Hints:=⟨[(2002,[.sv 0 QL,.sv 8 QI,.own 5 5 Q19],[(.exit 0,[.sv 0 QL,.own 5 5 Q19])])],[(7,[(.normal,[.sv 0 QL,.sv 1 QI,.own 5 5 Q19])]),(15,[(.normal,[.sv 0 QL,.sv 1 QI,.own 5 5 Q19])]),(31,[(.normal,[.own 5 5 Q19])])],[]⟩
def a3B(s:Z14):Option (Z14 ⊕ (Z4 ⊕ (Bool×Unit))):= cond (decide (s.2.2.1<(s.1.length:Int))) ((show Option Z32 from(a0r s.1 s.2.2.1).bind fun x1=> cond (decide (x1<(-32768))) (some (s.1,s.2.1,s.2.2.1,true,())) ((a0r s.1 s.2.2.1).bind fun x2=> some (s.1,s.2.1,s.2.2.1,decide (x2≥32768),()))).bind fun z3=> cond z3.2.2.2.1 (some (.inr (Sum.inr ((false,()))))) (some (.inl (z3.1,z3.2.1,wrap .i64 (z3.2.2.1+1),())))) (some (.inr (Sum.inl (s.1,s.2.1,()))))
def a4c(x:((List Int)×Int)):Option Bool:= (a0e a3B (x.1,x.2,0,())).bind fun w4=> match w4 with |.inl a5=>(cond (decide ((a5.1.length:Int)≥1)) (cond (decide ((a5.1.length:Int)≤32)) (cond (decide (a5.2.1≥0)) (some (decide (a5.2.1≤15))) (some false)) (some false)) (some false)) |.inr b6=>some b6.1
def a7g:FSem:=⟨[.v QL,.v QI],[.v .bool],a4c⟩
def e1V:Hints:=⟨[(26,[.sv 0 QL,.sv 1 QI,.sv 5 QI],[(.exit 0,[.sv 0 QL,.sv 1 QI]),(.ret,[.sv 4 .bool])])],[(420,[(.normal,[.sv 0 QL,.sv 1 QI,.sv 5 QI,.sv 23 .bool])])],[]⟩
def a7X(x:(Int×Int×Unit)):Option Bool:= cond (decide (x.1≥1)) (cond (decide (x.1≤32)) (cond (decide (x.2.1≥0)) (some (decide (x.2.1≤8))) (some false)) (some false)) (some false)
def b3C:FSem:=⟨[.v Q4],[.v .bool],a7X⟩
def e1W:Hints:=⟨[],[],[]⟩
def a5B(s:Z36):Option (Z36 ⊕ ((Z5×Unit) ⊕ (Bool×Unit))):= cond (decide (s.2.1<(s.1.length:Int))) ((a0r s.1 s.2.1).bind fun x1=> (a7X x1).bind fun y2=> cond (!y2) (some (.inr (Sum.inr ((false,()))))) (some (.inl (s.1,wrap .i64 (s.2.1+1),())))) (some (.inr (Sum.inl (s.1,()))))
def a6f(x:Z5):Option Bool:= (a0e a5B (x,0,())).bind fun w3=> match w3 with |.inl a4=>some (decide ((a4.1.length:Int)≤3)) |.inr b5=>some b5.1
def b0q:FSem:=⟨[.v (.list false Q4)],[.v .bool],a6f⟩
def e1X:Hints:=⟨[(26,[.sv 0 (.list false Q4),.sv 3 QI],[(.exit 0,[.sv 0 (.list false Q4)]),(.ret,[.sv 2 .bool])])],[],[]⟩
def b0W(x:a9G):Option Int:= cond (x.1.1==0) (some 1) (cond (x.1.1==1) (some x.2) (cond (x.1.1==2) ((show Option d1V from cond (decide (x.1.2.2.1≥0)) (cond (decide (x.1.2.2.1≤4)) (some (decide (x.1.2.2.1≤x.2),x.1,())) (some (false,x.1,()))) (some (false,x.1,()))).bind fun z1=> cond z1.1 (some z1.2.1.2.2.1) (some (-1))) ((show Option d1X from cond (x.1.1==3) (some (x.2,x.1.1,x.1.1==3,x.1,())) (some (x.2,x.1.1,x.1.1==4,x.1,()))).bind fun z2=> cond z2.2.2.1 ((show Option d1V from(a4c (z2.2.2.2.1.2.2.2.2.2.1,z2.2.2.2.1.2.2.2.1)).bind fun y3=> cond y3 (cond (decide ((z2.2.2.2.1.2.2.2.2.2.1.length:Int)≤z2.1)) (cond (z2.2.2.2.1.1==3) (some (true,z2.2.2.2.1,())) ((a6J (z2.2.2.2.1.2.2.2.2.1,z2.2.2.2.1.2.2.2.2.2.2.1)).bind fun y4=> some (y4,z2.2.2.2.1,()))) (some (false,z2.2.2.2.1,()))) (some (false,z2.2.2.2.1,()))).bind fun z5=> cond z5.1 (some (z5.2.1.2.2.2.2.2.1.length:Int)) (some (-1))) (cond (z2.2.1==5) ((show Option (Bool×Unit)from cond (decide ((z2.2.2.2.1.2.2.2.2.2.2.2.1.length:Int) > 0)) ((a6f z2.2.2.2.1.2.2.2.2.2.2.2.1).bind fun y6=> some (y6,())) (some (false,()))).bind fun z7=> cond z7.1 (some 0) (some (-1))) (some (-1))))))
def b8d:FSem:=⟨[.v Q19,.v QI],[.v QI],b0W⟩
def e1Y:Hints:=⟨[],[(1726,[(.normal,[.sv 27 .bool,.vp 2 Q19])]),(1727,[(.normal,[.sv 1 QI,.sv 6 QI,.sv 30 .bool,.vp 2 Q19])]),(6910,[(.normal,[.sv 56 .bool,.vp 2 Q19])]),(27646,[(.normal,[.sv 70 .bool])])],[]⟩
def a5u(x:Int):Option Bool:= cond (decide (x≥2)) (some (decide (x≤5))) (some false)
def b1q:FSem:=⟨[.v QI],[.v .bool],a5u⟩
def e1Z:Hints:=⟨[],[],[]⟩
def a6g(s:Z4):Option Z54:= cond (decide (s.2.1<(s.1.length:Int))) ((a0r s.1 s.2.1).bind fun x1=> (a0r s.1 0).bind fun x2=> cond (x1 != x2) (some (.inr (Sum.inr ((false,()))))) (some (.inl (s.1,wrap .i64 (s.2.1+1),())))) (some (.inr (Sum.inl ())))
def b4g(x:(List Int)):Option Bool:= (a0e a6g (x,1,())).bind fun w3=> match w3 with |.inl a4=>some true |.inr b5=>some b5.1
def c3a:FSem:=⟨[.v QL],[.v .bool],b4g⟩
def e2a:Hints:=⟨[(26,[.sv 0 QL,.sv 3 QI],[(.exit 0,[]),(.ret,[.sv 2 .bool])])],[],[(4,[.v,.v,.v,.v,.v,.v,.v,.x])]⟩
def a4d(s:Z59):Option (Z59 ⊕ ((Int×Int×Unit) ⊕ (Int×Unit))):= cond (decide (s.2.2.2.2.1<(s.2.1.length:Int))) (cond (decide (s.2.2.2.2.1<(s.1.length:Int))) ((a0r s.1 (wrap .i64 ((wrap .i64 ((s.1.length:Int)-1))-s.2.2.2.2.1))).bind fun x2=> (a3A x2).bind fun y3=> cond (!y3) (some (.inr (Sum.inr ((0,()))))) ((a0r s.2.1 s.2.2.2.2.1).bind fun x4=> some (.inl (s.1,s.2.1,s.2.2.1,wrap .i64 (s.2.2.2.1+(wrap .i64 (x4*x2))),wrap .i64 (s.2.2.2.2.1+1),())))) (some (.inr (Sum.inl (s.2.2.1,s.2.2.2.1,()))))) (some (.inr (Sum.inl (s.2.2.1,s.2.2.2.1,()))))
def a5C(x:Z11):Option Int:= (a4c (x.2.1,x.2.2)).bind fun y1=> cond (!y1) (some 0) ((a0e a4d (x.1,x.2.1,x.2.2,0,0,())).bind fun w5=> match w5 with |.inl a6=>(cond (decide ((wrap .u64 a6.1)<0)) none (some (a0l .i64 a6.2.1 (wrap .u64 a6.1)))) |.inr b7=>some b7.1)
def b0H:FSem:=⟨[.v QL,.v QL,.v QI],[.v QI],a5C⟩
def e2b:Hints:=⟨[(122,[.sv 0 QL,.sv 1 QL,.sv 2 QI,.sv 7 QI,.sv 8 QI],[(.exit 0,[.sv 2 QI,.sv 7 QI]),(.ret,[.sv 6 QI])])],[],[]⟩
def a6w(s:Z66):Option (Z66 ⊕ ((List Int)×Unit)):= cond (decide (s.2.2.2.1<(s.1.length:Int))) ((a0r s.1 s.2.2.2.1).bind fun x4=> cond ((decide (0≤s.2.2.2.1))&&(decide (s.2.2.2.1≤(s.1.length:Int)))) ((a5C (a07 (a01 s.2.2.2.1) s.1,s.2.1,s.2.2.1)).bind fun y5=> cond (lim ((a03 s.2.2.2.2.1)+1)) (some (.inl (s.1,s.2.1,s.2.2.1,wrap .i64 (s.2.2.2.1+1),a04 s.2.2.2.2.1 [wrap .i64 (x4-y5)],()))) none) none) (some (.inr (s.2.2.2.2.1,())))
def a8o(x:Z11):Option ((List Int)×Int):= (show Option Z48 from(a4c (x.2.1,x.2.2)).bind fun y1=> cond (!y1) (some (x.1,x.2.1,x.2.2,true,())) (some (x.1,x.2.1,x.2.2,decide ((x.1.length:Int)<(x.2.1.length:Int)),()))).bind fun z2=> cond z2.2.2.2.1 (some ([],1)) ((a0G z2.1).bind fun y3=> cond (!y3) (some ([],6)) ((a0e a6w (z2.1,z2.2.1,z2.2.2.1,(z2.2.1.length:Int),[],())).bind fun w6=> (a0G w6.1).bind fun y7=> cond (!y7) (some ([],6)) (some (w6.1,0))))
def b6t:FSem:=⟨[.v QL,.v QL,.v QI],[.o QI,.v QI],a8o⟩
def e2c:Hints:=⟨[(250,[.sv 0 QL,.sv 1 QL,.sv 2 QI,.sv 9 QI,.own 8 8 QI],[(.exit 0,[.own 8 8 QI])])],[(6,[(.normal,[.sv 0 QL,.sv 1 QL,.sv 2 QI,.sv 20 .bool])])],[(9,[.q,.v,.v,.v,.v,.v,.v,.v,.v,.v,.v,.v,.q,.x,.x])]⟩
def a7h(x:(Int×Int×Unit)):Option Z43:= (a7X x).bind fun y1=> cond (!y1) none (cond ((decide (0≤x.1))&&((decide (x.1≤x.1))&&(lim (a01 x.1)))) (cond ((decide (0≤x.1))&&((decide (x.1≤x.1))&&(lim (a01 x.1)))) (some ((x.2.1,a00 (a01 x.1) 0,a00 (a01 x.1) 0,()),0)) none) none)
def b2K:FSem:=⟨[.v Q4],[.b Q9,.v QI],a7h⟩
def e2d:Hints:=⟨[],[],[(3,[.v,.v,.v,.v,.q,.v,.v,.q,.x,.x,.x,.x])]⟩
def b2L(x:Int):Option Int:= some (a2v (a1D x (-1073741824)) 1073741823)
def b9A:FSem:=⟨[.v QI],[.v QI],b2L⟩
def e2e:Hints:=⟨[],[],[]⟩
def a5m(s:Z74):Option (Z74 ⊕ Z62):= cond (decide (s.2.1<(s.2.2.1.2.1.length:Int))) (cond ((decide (0≤s.2.1))&&(decide (s.2.1<(s.2.2.1.2.1.length:Int)))) (cond ((decide (0≤s.2.1))&&(decide (s.2.1<(s.2.2.1.2.2.1.length:Int)))) (some (.inl (wrap .i64 (s.1+(wrap .i64 ((a02 s.2.2.1.2.1 (a01 s.2.1) 0)*(a02 s.2.2.1.2.2.1 (a01 s.2.1) 0)))),wrap .i64 (s.2.1+1),s.2.2.1,()))) none) none) (some (.inr (s.1,s.2.2.1,())))
def a3C(x:Z26):Option Z42:= (a0e a5m (0,0,x,())).bind fun w1=> (b2L (a0l .i64 w1.1 16)).bind fun y2=> some (y2,w1.2.1)
def a7i:FSem:=⟨[.r false (.b Q9)],[.v QI],a3C⟩
def e2f:Hints:=⟨[(58,[.sv 3 QI,.sv 4 QI,.box pinned Q9,.ptr 0 pinned []],[(.exit 0,[.sv 3 QI,.box pinned Q9])])],[],[(5,[.v,.p,.p,.q,.q,.v,.q,.q,.p,.p,.q,.q,.v,.q,.q,.v,.x,.x])]⟩
def b2M(x:Int):Option Int:= cond (decide (x > 0)) (some 1) (cond (decide (x<0)) (some (-1)) (some 0))
def c4Q:FSem:=⟨[.v QI],[.v QI],b2M⟩
def e2g:Hints:=⟨[],[],[]⟩
def a4e(s:(Int×(Int×(Int×((List Int)×Z71))))):Option ((Int×(Int×(Int×((List Int)×Z71)))) ⊕ (Int×((List Int)×Z71))):= cond (decide (s.2.2.1<(s.2.2.2.2.2.1.2.1.length:Int))) (cond ((decide (0≤s.2.2.1))&&(decide (s.2.2.1<(s.2.2.2.2.2.1.2.1.length:Int)))) (cond ((decide (0≤s.2.2.1))&&(decide (s.2.2.1<(s.2.2.2.2.2.1.2.2.1.length:Int)))) ((b2M (a02 s.2.2.2.2.2.1.2.2.1 (a01 s.2.2.1) 0)).bind fun y4=> cond (decide ((wrap .u64 s.2.2.2.2.2.1.1)<0)) none (cond (lim ((a03 s.2.2.2.1)+1)) (some (.inl (s.1,s.2.1,wrap .i64 (s.2.2.1+1),a04 s.2.2.2.1 [a2v (a1D (wrap .i64 ((a02 s.2.2.2.2.2.1.2.1 (a01 s.2.2.1) 0)+(a0F .i64 (wrap .i64 (s.2.1*y4)) (wrap .u64 s.2.2.2.2.2.1.1)))) (-1048576)) 1048576],s.2.2.2.2.1,s.2.2.2.2.2.1,()))) none)) none) none) (some (.inr (s.1,s.2.2.2.1,s.2.2.2.2.1,s.2.2.2.2.2.1,())))
def a5D(x:Z43):Option Z26:= (b2L x.2).bind fun y1=> (a3C x.1).bind fun y2=> (b2M (wrap .i64 (y1-y2.1))).bind fun y3=> (a0e a4e (y1,y3,0,[],[],y2.2,())).bind fun w5=> cond (lim ((a03 w5.2.2.1)+1)) (cond ((decide (0≤(wrap .i64 ((w5.2.2.2.1.2.2.1.length:Int)-1))))&&(decide ((wrap .i64 ((w5.2.2.2.1.2.2.1.length:Int)-1))≤(w5.2.2.2.1.2.2.1.length:Int)))) (cond (lim ((a03 (a04 w5.2.2.1 [w5.1]))+(a03 (a07 (a01 (wrap .i64 ((w5.2.2.2.1.2.2.1.length:Int)-1))) (a22 0 w5.2.2.2.1.2.2.1))))) (some (w5.2.2.2.1.1,w5.2.1,a04 (a04 w5.2.2.1 [w5.1]) (a07 (a01 (wrap .i64 ((w5.2.2.2.1.2.2.1.length:Int)-1))) (a22 0 w5.2.2.2.1.2.2.1)),w5.2.2.2.1.2.2.2)) none) none) none
def b0I:FSem:=⟨[.r false (.b Q9),.v QI],[],a5D⟩
def e2h:Hints:=⟨[(122,[.sv 1 QI,.sv 4 QI,.sv 7 QI,.own 5 5 QI,.own 6 6 QI,.box pinned Q9,.ptr 0 pinned []],[(.exit 0,[.sv 1 QI,.own 5 5 QI,.own 6 6 QI,.box pinned Q9,.ptr 0 pinned []])])],[],[(6,[.q,.p,.p,.q,.q,.v,.q,.q,.v,.p,.p,.q,.q,.v,.q,.q,.v,.v,.p,.p,.q,.q,.v,.v,.v,.v,.v,.q,.x,.x]),(7,[.q,.v,.q,.w [6,55,56],.p,.p,.r [59,pinned],.r [60,pinned],.p,.p,.r [63,pinned],.r [64,pinned],.r [65,pinned],.v,.r [67,pinned],.x,.x])]⟩
def a7j(s:Z99):Option (Z99 ⊕ Z64):= cond (decide (s.2.2.1<(s.2.2.2.1.length:Int))) (cond ((decide (0≤s.2.2.1))&&(decide (s.2.2.1<(s.2.2.2.1.length:Int)))) ((a3C s.2.2.2.2.1).bind fun y5=> cond ((decide (0≤s.2.2.1))&&(decide (s.2.2.1<(s.2.2.2.1.length:Int)))) ((a5D (y5.2,a02 s.2.2.2.1 (a01 s.2.2.1) 0)).bind fun y6=> some (.inl (s.1,s.2.1,wrap .i64 (s.2.2.1+1),a05 s.2.2.2.1 (a01 s.2.2.1) (wrap .i64 ((a02 s.2.2.2.1 (a01 s.2.2.1) 0)-y5.1)),y6,()))) none) none) (some (.inr (s.1,s.2.1,s.2.2.2.1,())))
def a5c(s:Z64):Option (Z64 ⊕ Z45):= cond (decide (s.2.1<(s.1.length:Int))) ((a0r s.1 s.2.1).bind fun x3=> (a7h x3).bind fun y4=> (a0e a7j (s.1,s.2.1,0,s.2.2.1,y4.1,())).bind fun w7=> (a0G w7.2.2.1).bind fun y8=> cond (!y8) (some (.inr (Sum.inr ((6,[],()))))) (some (.inl (w7.1,wrap .i64 (w7.2.1+1),w7.2.2.1,())))) (some (.inr (Sum.inl (s.2.2.1,()))))
def a9o(x:Z27):Option ((List Int)×Int):= (a6f x.2).bind fun y1=> cond (!y1) (some ([],1)) ((a0G x.1).bind fun y2=> cond (!y2) (some ([],6)) (cond (lim (0+(a03 x.1))) ((a0e a5c (x.2,0,a04 [] x.1,())).bind fun w9=> match w9 with |.inl a10=>some (a10.1,0) |.inr b11=>some (b11.2.1,b11.1)) none))
def b7i:FSem:=⟨[.v QL,.v (.list false Q4)],[.o QI,.v QI],a9o⟩
def e2i:Hints:=⟨[(250,[.sv 1 (.list false Q4),.sv 7 QI,.own 6 6 QI],[(.exit 0,[.own 6 6 QI]),(.ret,[.sv 5 QI,.own 4 4 QI])]),(64074,[.sv 1 (.list false Q4),.sv 7 QI,.sv 10 QI,.own 6 6 QI,.box 1032 Q9,.ptr 8 1032 []],[(.exit 2,[.sv 1 (.list false Q4),.sv 7 QI,.own 6 6 QI])])],[],[]⟩
def b0r(x:(a2a×(List Int))):Option Z11:= cond (x.1.1==2) ((a3d (x.2,x.1.2.2.1)).bind fun y1=> cond ((decide (0≤x.1.2.2.1))&&(decide (x.1.2.2.1≤(x.2.length:Int)))) (some (a07 (a01 x.1.2.2.1) x.2,y1.1,y1.2)) none) ((show Option ((List Int)×c1e)from cond (x.1.1==3) (some (x.2,x.1.1,x.1.1==3,x.1,())) (some (x.2,x.1.1,x.1.1==4,x.1,()))).bind fun z2=> cond z2.2.2.1 ((show Option (d7s ⊕ ((List Int)×Z4))from cond (z2.2.2.2.1.1==4) ((a6e (z2.1,z2.2.2.2.1.2.2.2.2.1,z2.2.2.2.1.2.2.2.2.2.2.1)).bind fun y3=> cond (y3.2 != 0) (some (Sum.inr (([],[],y3.2,())))) (some (Sum.inl (y3.1,z2.2.2.2.1,())))) (some (Sum.inl (z2.1,z2.2.2.2.1,())))).bind fun z4=> match z4 with |.inl a5=>((a8o (a5.1,a5.2.1.2.2.2.2.2.1,a5.2.1.2.2.2.1)).bind fun y7=> cond ((decide (0≤(a5.2.1.2.2.2.2.2.1.length:Int)))&&(decide ((a5.2.1.2.2.2.2.2.1.length:Int)≤(a5.1.length:Int)))) (some (a07 (a01 (a5.2.1.2.2.2.2.2.1.length:Int)) a5.1,y7.1,y7.2)) none) |.inr b6=>some (b6.1,b6.2.1,b6.2.2.1)) (cond (z2.2.1==5) ((a9o (z2.1,z2.2.2.2.1.2.2.2.2.2.2.2.1)).bind fun y8=> some ([],y8.1,y8.2)) (some (z2.1,[],0))))
def c4R:FSem:=⟨[.v Q19,.v QL],[.v QL,.v QL,.v QI],b0r⟩
def e2j:Hints:=⟨[],[(107,[(.normal,[.sv 1 QL,.sv 16 QI,.sv 32 .bool,.vp 2 Q19])]),(430,[(.normal,[.sv 1 QL,.vp 2 Q19]),(.ret,[.sv 4 QL,.sv 5 QL,.sv 6 QI])])],[]⟩
def b6u(x:(Int×Int)):Option Bool:= cond (decide (x.1≥1)) (cond (decide (x.1≤4096)) (cond (decide (x.2≥0)) (some (decide (x.2≤x.1))) (some false)) (some false)) (some false)
def c3I:FSem:=⟨[.v QI,.v QI],[.v .bool],b6u⟩
def e2k:Hints:=⟨[],[],[]⟩
def a7k(s:(Int×Z30)):Option ((Int×Z30) ⊕ Z3):= cond (decide ((wrap .u64 s.1)<0)) none (cond (decide (s.2.2.2.1<(a0F .i64 1 (wrap .u64 s.1)))) (cond (decide ((wrap .u64 s.1)<0)) none (cond (lim ((a03 s.2.2.2.2.1)+1)) (some (.inl (s.1,s.2.1,s.2.2.1,wrap .i64 (s.2.2.2.1+1),a04 s.2.2.2.2.1 [a0l .i64 s.2.1 (wrap .u64 s.1)],()))) none)) (some (.inr (s.2.2.1,s.2.2.2.2.1,()))))
def a4f(x:(Int×Int×Int)):Option (List Int):= (show Option Z24 from(b6u (x.2.1,x.2.2)).bind fun y1=> cond (!y1) (some (x.1,x.2.1,x.2.2,true,())) (cond (decide (x.1<0)) (some (x.1,x.2.1,x.2.2,true,())) (cond (decide (x.1 > 8)) (some (x.1,x.2.1,x.2.2,true,())) (cond (decide ((wrap .u64 x.1)<0)) none (cond ((a0F .i64 1 (wrap .u64 x.1))==0) none (cond ((a34 x.2.1 (a0F .i64 1 (wrap .u64 x.1))) != 0) (some (x.1,x.2.1,x.2.2,true,())) (cond (decide ((wrap .u64 x.1)<0)) none (some (x.1,x.2.1,x.2.2,decide ((a0l .i64 x.2.1 (wrap .u64 x.1))<x.2.2),()))))))))).bind fun z2=> cond z2.2.2.2.1 (some []) ((a0e a7k (z2.1,z2.2.1,z2.2.2.1,0,[],())).bind fun w3=> cond (decide (0<(w3.2.1.length:Int))) (cond (decide (0<(w3.2.1.length:Int))) (some (a05 w3.2.1 0 (wrap .i64 ((a02 w3.2.1 0 0)-w3.1)))) none) none)
def a7l:FSem:=⟨[.v QI,.v QI,.v QI],[.o QI],a4f⟩
def e2l:Hints:=⟨[(122,[.sv 0 QI,.sv 1 QI,.sv 2 QI,.sv 8 QI,.own 7 7 QI],[(.exit 0,[.sv 2 QI,.own 7 7 QI])])],[(6,[(.normal,[.sv 0 QI,.sv 1 QI,.sv 2 QI,.sv 36 .bool])])],[]⟩
def a3D(x:Int):Option Bool:= cond (decide (x≥0)) (some (decide (x≤25))) (some false)
def b0s:FSem:=⟨[.v QI],[.v .bool],a3D⟩
def e2m:Hints:=⟨[],[],[]⟩
def a4K(s:(Int×Z19)):Option ((Int×Z19) ⊕ Z0):= cond (decide (s.1<(s.2.1.2.1.length:Int))) ((show Option (Int×Z38)from(a0r s.2.1.2.1 s.1).bind fun x3=> (a3D x3).bind fun y4=> cond (!y4) ((a0r s.2.1.2.1 s.1).bind fun x5=> some (s.1,x5 != 31,s.2.1,())) (some (s.1,false,s.2.1,()))).bind fun z6=> cond z6.2.1 (some (.inr (Sum.inr ((false,()))))) (some (.inl (wrap .i64 (z6.1+1),z6.2.2.1,())))) (some (.inr (Sum.inl ())))
def a6K(x:(Z3×Int×Int)):Option Bool:= (a4f (x.1.1,x.2.1,x.2.2)).bind fun y1=> (show Option Z38 from cond ((y1.length:Int)==0) (some (true,x.1,())) (some ((y1.length:Int) != (x.1.2.1.length:Int),x.1,()))).bind fun z2=> cond z2.1 (some false) ((a0e a4K (0,z2.2.1,())).bind fun w7=> match w7 with |.inl a8=>some true |.inr b9=>some b9.1)
def b4S:FSem:=⟨[.v Q7,.v QI,.v QI],[.v .bool],a6K⟩
def e2n:Hints:=⟨[(122,[.sv 8 QI,.vp 3 Q7],[(.exit 0,[]),(.ret,[.sv 6 .bool])])],[(14,[(.normal,[.sv 24 .bool,.vp 3 Q7])]),(1956,[(.normal,[.sv 8 QI,.sv 46 .bool,.vp 3 Q7])])],[]⟩
def a8O(s:Z14):Option (Z14 ⊕ Z14):= cond (decide (s.2.1<32)) ((a0r s.1 s.2.2.1).bind fun x1=> cond (x1 != 0) ((a0r s.1 s.2.2.1).bind fun x2=> (b2a (x2,s.2.1)).bind fun y3=> cond (!y3) (some (.inl (s.1,wrap .i64 (s.2.1+1),s.2.2.1,()))) (some (.inr (s.1,s.2.1,s.2.2.1,())))) (some (.inr (s.1,s.2.1,s.2.2.1,())))) (some (.inr (s.1,s.2.1,s.2.2.1,())))
def b1r(s:Z14):Option Z53:= cond (decide (s.2.2.1<(s.1.length:Int))) ((a0e a8O (s.1,s.2.1,s.2.2.1,())).bind fun w4=> some (.inl (w4.1,w4.2.1,wrap .i64 (w4.2.2.1+1),()))) (some (.inr (s.2.1,())))
def a8p(x:(List Int)):Option Int:= (a0e b1r (x,0,0,())).bind fun w5=> some w5.1
def b2N:FSem:=⟨[.v QL],[.v QI],a8p⟩
def e2o:Hints:=⟨[(58,[.sv 0 QL,.sv 3 QI,.sv 4 QI],[(.exit 0,[.sv 3 QI])]),(1864,[.sv 0 QL,.sv 3 QI,.sv 4 QI],[(.exit 2,[.sv 0 QL,.sv 3 QI,.sv 4 QI])])],[],[]⟩
def c3J(x:Int):Option Int:= (show Option (Int×Unit)from cond (decide (x<0)) (some (bits .u64 .xor (IntKind.max .u64) (a0F .u64 (wrap .u64 x) 1),())) (some (a0F .u64 (wrap .u64 x) 1,()))).bind fun z1=> some z1.1
def c9c:FSem:=⟨[.v QI],[.v (.int .u64)],c3J⟩
def e2p:Hints:=⟨[],[(7,[(.normal,[.sv 3 (.int .u64)])])],[]⟩
def b4B(x:Int):Option Int:= (a3A x).bind fun y1=> cond (!y1) (some 0) ((c3J x).bind fun y2=> some y2)
def c1w:FSem:=⟨[.v QI],[.v (.int .u64)],b4B⟩
def e2q:Hints:=⟨[],[],[]⟩
def a6L(x:(Int×Int)):Option Int:= (show Option Z10 from(a3D x.1).bind fun y1=> cond (!y1) (some (x.1,x.2,true,())) ((a3A x.2).bind fun y2=> some (x.1,x.2,!y2,()))).bind fun z3=> cond z3.2.2.1 (some 0) ((b4B z3.2.1).bind fun y4=> cond (decide ((wrap .u64 z3.1)<0)) none (cond (decide ((wrap .i64 (a0l .u64 y4 (wrap .u64 z3.1)))<32)) (some (wrap .i64 ((wrap .i64 ((wrap .i64 (a0l .u64 y4 (wrap .u64 z3.1)))+1))+z3.1))) (some 65)))
def c0k:FSem:=⟨[.v QI,.v QI],[.v QI],a6L⟩
def e2r:Hints:=⟨[],[(6,[(.normal,[.sv 0 QI,.sv 1 QI,.sv 13 .bool])])],[]⟩
def a4g(s:Z29):Option (Z29 ⊕ (Int×Unit)):= cond (decide (s.2.2.2.1<(s.2.1.length:Int))) ((a0r s.2.1 s.2.2.2.1).bind fun x1=> (a6L (s.1,x1)).bind fun y2=> some (.inl (s.1,s.2.1,wrap .i64 (s.2.2.1+y2),wrap .i64 (s.2.2.2.1+1),()))) (some (.inr (s.2.2.1,())))
def a4h(x:(Int×(List Int))):Option Int:= (a0e a4g (x.1,x.2,0,0,())).bind fun w3=> some w3.1
def b2O:FSem:=⟨[.v QI,.v QL],[.v QI],a4h⟩
def e2s:Hints:=⟨[(58,[.sv 0 QI,.sv 1 QL,.sv 5 QI,.sv 6 QI],[(.exit 0,[.sv 5 QI])])],[],[]⟩
def a3n(x:(Int×(List Int))):Option Int:= cond (x.1==31) ((a8p x.2).bind fun y1=> some (wrap .i64 (5+(wrap .i64 ((x.2.length:Int)*y1))))) ((a4h (x.1,x.2)).bind fun y2=> some y2)
def b4T:FSem:=⟨[.v QI,.v QL],[.v QI],a3n⟩
def e2t:Hints:=⟨[],[],[]⟩
def a3a(s:Z90):Option (Z90 ⊕ (Int×Unit)):= cond (decide (s.2.2.2.1<(s.2.2.2.2.1.length:Int))) ((a0r s.2.2.2.2.2.1.2.1 s.2.2.2.1).bind fun x5=> cond ((decide (0≤s.2.2.2.1))&&(decide (s.2.2.2.1<(s.2.2.2.2.1.length:Int)))) (cond ((decide (0≤(wrap .i64 (s.2.2.1+(a02 s.2.2.2.2.1 (a01 s.2.2.2.1) 0)))))&&(decide ((wrap .i64 (s.2.2.1+(a02 s.2.2.2.2.1 (a01 s.2.2.2.1) 0)))≤(s.1.length:Int)))) (cond ((decide (0≤s.2.2.1))&&(decide (s.2.2.1≤((a01 (wrap .i64 (s.2.2.1+(a02 s.2.2.2.2.1 (a01 s.2.2.2.1) 0))):Nat):Int)))) ((a3n (x5,a22 (a01 s.2.2.1) (a07 (a01 (wrap .i64 (s.2.2.1+(a02 s.2.2.2.2.1 (a01 s.2.2.2.1) 0)))) s.1))).bind fun y6=> cond ((decide (0≤s.2.2.2.1))&&(decide (s.2.2.2.1<(s.2.2.2.2.1.length:Int)))) (some (.inl (s.1,wrap .i64 ((wrap .i64 (s.2.1+5))+y6),wrap .i64 (s.2.2.1+(a02 s.2.2.2.2.1 (a01 s.2.2.2.1) 0)),wrap .i64 (s.2.2.2.1+1),s.2.2.2.2.1,s.2.2.2.2.2.1,()))) none) none) none) none) (some (.inr (s.2.1,())))
def a2T(x:Z57):Option Int:= (show Option (Int×(Int×((List Int)×Z38)))from(a6K (x.1,x.2.1,x.2.2.1)).bind fun y1=> cond (!y1) (some (x.2.1,x.2.2.1,x.2.2.2,true,x.1,())) (cond ((x.2.2.2.length:Int) != (wrap .i64 (x.2.1-x.2.2.1))) (some (x.2.1,x.2.2.1,x.2.2.2,true,x.1,())) ((a0G x.2.2.2).bind fun y2=> some (x.2.1,x.2.2.1,x.2.2.2,!y2,x.1,())))).bind fun z3=> cond z3.2.2.2.1 (some 0) ((a4f (z3.2.2.2.2.1.1,z3.1,z3.2.1)).bind fun y4=> (a0e a3a (z3.2.2.1,4,0,0,y4,z3.2.2.2.2.1,())).bind fun w7=> some w7.1)
def b3D:FSem:=⟨[.v Q7,.v QI,.v QI,.v QL],[.v QI],a2T⟩
def e2u:Hints:=⟨[(250,[.sv 3 QL,.sv 9 QI,.sv 10 QI,.sv 12 QI,.own 11 11 QI,.vp 4 Q7],[(.exit 0,[.sv 9 QI])])],[(6,[(.normal,[.sv 1 QI,.sv 2 QI,.sv 3 QL,.sv 30 .bool,.vp 4 Q7])])],[(8,[.v,.v,.v,.v,.v,.v,.v,.v,.v,.v,.q,.v,.q,.q,.v,.v,.v,.x,.x])]⟩
def a8q(s:Z14):Option Z53:= cond (decide (s.2.2.1≤25)) ((a4h (s.2.2.1,s.1)).bind fun y1=> (a4h (s.2.1,s.1)).bind fun y2=> cond (decide (y1<y2)) (some (.inl (s.1,s.2.2.1,wrap .i64 (s.2.2.1+1),()))) (some (.inl (s.1,s.2.1,wrap .i64 (s.2.2.1+1),())))) (some (.inr (s.2.1,())))
def b1s(x:(List Int)):Option Int:= (a0e a8q (x,0,1,())).bind fun w3=> some w3.1
def c0l:FSem:=⟨[.v QL],[.v QI],b1s⟩
def e2v:Hints:=⟨[(58,[.sv 0 QL,.sv 3 QI,.sv 4 QI],[(.exit 0,[.sv 3 QI])])],[],[]⟩
def b5v(x:(List Int)):Option Int:= (b1s x).bind fun y1=> (a3n (31,x)).bind fun y2=> (a4h (y1,x)).bind fun y3=> cond (decide (y2<y3)) (some 31) (some y1)
def c4S:FSem:=⟨[.v QL],[.v QI],b5v⟩
def e2w:Hints:=⟨[],[],[]⟩
def a5E(s:(Int×(Int×(Int×((List Int)×(Int×Int×d1U)))))):Option ((Int×(Int×(Int×((List Int)×(Int×Int×d1U))))) ⊕ (Int×(Int×(Int×((List Int)×(Int×Int×Z95)))))):= cond (decide (s.2.2.2.2.2.2.2.1<(s.2.2.2.2.2.2.2.2.1.length:Int))) (cond ((decide (0≤s.2.2.2.2.2.2.2.1))&&(decide (s.2.2.2.2.2.2.2.1<(s.2.2.2.2.2.2.2.2.1.length:Int)))) (cond ((decide (0≤(wrap .i64 (s.2.2.2.2.2.2.1+(a02 s.2.2.2.2.2.2.2.2.1 (a01 s.2.2.2.2.2.2.2.1) 0)))))&&(decide ((wrap .i64 (s.2.2.2.2.2.2.1+(a02 s.2.2.2.2.2.2.2.2.1 (a01 s.2.2.2.2.2.2.2.1) 0)))≤(s.2.2.2.1.length:Int)))) (cond ((decide (0≤s.2.2.2.2.2.2.1))&&(decide (s.2.2.2.2.2.2.1≤((a01 (wrap .i64 (s.2.2.2.2.2.2.1+(a02 s.2.2.2.2.2.2.2.2.1 (a01 s.2.2.2.2.2.2.2.1) 0))):Nat):Int)))) ((b5v (a22 (a01 s.2.2.2.2.2.2.1) (a07 (a01 (wrap .i64 (s.2.2.2.2.2.2.1+(a02 s.2.2.2.2.2.2.2.2.1 (a01 s.2.2.2.2.2.2.2.1) 0)))) s.2.2.2.1))).bind fun y5=> cond (lim ((a03 s.2.2.2.2.2.2.2.2.2.2.2.1.2.1)+1)) (cond ((decide (0≤s.2.2.2.2.2.2.2.1))&&(decide (s.2.2.2.2.2.2.2.1<(s.2.2.2.2.2.2.2.2.1.length:Int)))) (some (.inl (s.1,s.2.1,s.2.2.1,s.2.2.2.1,s.2.2.2.2.1,s.2.2.2.2.2.1,wrap .i64 (s.2.2.2.2.2.2.1+(a02 s.2.2.2.2.2.2.2.2.1 (a01 s.2.2.2.2.2.2.2.1) 0)),wrap .i64 (s.2.2.2.2.2.2.2.1+1),s.2.2.2.2.2.2.2.2.1,s.2.2.2.2.2.2.2.2.2.1,s.2.2.2.2.2.2.2.2.2.2.1,(s.2.2.2.2.2.2.2.2.2.2.2.1.1,a04 s.2.2.2.2.2.2.2.2.2.2.2.1.2.1 [y5],s.2.2.2.2.2.2.2.2.2.2.2.1.2.2),()))) none) none) none) none) none) (some (.inr (s.1,s.2.1,s.2.2.1,s.2.2.2.1,s.2.2.2.2.1,s.2.2.2.2.2.1,s.2.2.2.2.2.2.2.2.2.1,s.2.2.2.2.2.2.2.2.2.2.1,s.2.2.2.2.2.2.2.2.2.2.2.1,())))
def a4o(s:d1T):Option (d1T ⊕ Z77):= cond (decide (s.2.2.2.2.2.1≤(a2v (a1D s.2.2.1 0) 8))) ((a4f (s.2.2.2.2.2.1,s.1,s.2.1)).bind fun y4=> (a0e a5E (s.1,s.2.1,s.2.2.1,s.2.2.2.1,s.2.2.2.2.1,s.2.2.2.2.2.1,0,0,y4,s.2.2.2.2.2.2.1,s.2.2.2.2.2.2.2.1,(s.2.2.2.2.2.1,[],()),())).bind fun w6=> (a2T (w6.2.2.2.2.2.2.2.2.1,w6.1,w6.2.1,w6.2.2.2.1)).bind fun y7=> (show Option (Int×(Int×(Int×((List Int)×(Int×Int×Int×Bool×Z95)))))from cond (decide (y7 > 0)) (cond (w6.2.2.2.2.1==0) (some (w6.1,w6.2.1,w6.2.2.1,w6.2.2.2.1,w6.2.2.2.2.1,w6.2.2.2.2.2.1,y7,true,w6.2.2.2.2.2.2.1,w6.2.2.2.2.2.2.2.1,w6.2.2.2.2.2.2.2.2.1,())) (some (w6.1,w6.2.1,w6.2.2.1,w6.2.2.2.1,w6.2.2.2.2.1,w6.2.2.2.2.2.1,y7,decide (y7<w6.2.2.2.2.1),w6.2.2.2.2.2.2.1,w6.2.2.2.2.2.2.2.1,w6.2.2.2.2.2.2.2.2.1,()))) (some (w6.1,w6.2.1,w6.2.2.1,w6.2.2.2.1,w6.2.2.2.2.1,w6.2.2.2.2.2.1,y7,false,w6.2.2.2.2.2.2.1,w6.2.2.2.2.2.2.2.1,w6.2.2.2.2.2.2.2.2.1,()))).bind fun z8=> cond z8.2.2.2.2.2.2.2.1 (some (.inl (z8.1,z8.2.1,z8.2.2.1,z8.2.2.2.1,z8.2.2.2.2.2.2.1,wrap .i64 (z8.2.2.2.2.2.1+1),z8.2.2.2.2.2.2.2.2.1,z8.2.2.2.2.2.2.2.2.2.2.1,()))) (some (.inl (z8.1,z8.2.1,z8.2.2.1,z8.2.2.2.1,z8.2.2.2.2.1,wrap .i64 (z8.2.2.2.2.2.1+1),z8.2.2.2.2.2.2.2.2.1,z8.2.2.2.2.2.2.2.2.2.1,())))) (some (.inr (s.2.2.2.2.2.2.1,s.2.2.2.2.2.2.2.1,())))
def b0t(x:(Int×Z1)):Option (Z3×Int):= (show Option (Int×(Int×(Int×((List Int)×Z38))))from(b6u (x.1,x.2.1)).bind fun y1=> cond (!y1) (some (x.1,x.2.1,x.2.2.1,x.2.2.2,true,(0,[],()),())) (cond ((x.2.2.2.length:Int) != (wrap .i64 (x.1-x.2.1))) (some (x.1,x.2.1,x.2.2.1,x.2.2.2,true,(0,[],()),())) ((a0G x.2.2.2).bind fun y2=> some (x.1,x.2.1,x.2.2.1,x.2.2.2,!y2,(0,[],()),())))).bind fun z3=> cond z3.2.2.2.2.1 (some ((0,[],()),1)) ((a0e a4o (z3.1,z3.2.1,z3.2.2.1,z3.2.2.2.1,0,0,z3.2.2.2.2.2.1,(0,[],()),())).bind fun w9=> some (w9.2.1,0))
def b8L:FSem:=⟨[.v QI,.v QI,.v QI,.v QL],[.v Q7,.v QI],b0t⟩
def e2x:Hints:=⟨[(250,[.sv 0 QI,.sv 1 QI,.sv 2 QI,.sv 3 QL,.sv 11 QI,.sv 12 QI,.box 8 Q7,.box 10 Q7,.ptr 8 8 [],.ptr 10 10 []],[(.exit 0,[.box 8 Q7,.box 10 Q7,.ptr 8 8 [],.ptr 10 10 []])]),(128154,[.sv 0 QI,.sv 1 QI,.sv 2 QI,.sv 3 QL,.sv 11 QI,.sv 12 QI,.sv 14 QI,.sv 16 QI,.own 13 13 QI,.box 8 Q7,.box 10 Q7,.box 15 Q6,.ptr 8 8 [],.ptr 10 10 [],.ptr 15 15 []],[(.exit 2,[.sv 0 QI,.sv 1 QI,.sv 2 QI,.sv 3 QL,.sv 11 QI,.sv 12 QI,.box 8 Q7,.box 10 Q7,.box 15 Q6,.ptr 8 8 [],.ptr 10 10 [],.ptr 15 15 []])])],[(6,[(.normal,[.sv 0 QI,.sv 1 QI,.sv 2 QI,.sv 3 QL,.sv 34 .bool,.box 8 Q7,.ptr 8 8 []])]),(64079,[(.normal,[.sv 0 QI,.sv 1 QI,.sv 2 QI,.sv 3 QL,.sv 11 QI,.sv 12 QI,.sv 17 QI,.sv 91 .bool,.box 8 Q7,.box 10 Q7,.box 15 Q7,.ptr 8 8 [],.ptr 10 10 [],.ptr 15 15 []])])],[(13,[.q,.q,.v,.v,.v,.q,.v,.q,.q,.v,.v,.v,.q,.x,.x,.x])]⟩
def b1t(x:(Int×((List Int)×a2a))):Option a9G:= (show Option (Int×((List Int)×d7t))from cond (x.1==2) (some (x.1,x.2.1,(x.2.1.length:Int),(0,0,0,0,0,[],a00 3 0,[],[],(0,[],()),[],()),(x.1,0,x.2.2.2.2.1,0,0,[],a00 3 0,[],[],(0,[],()),[],()),())) (cond (x.1==3) (some (x.1,x.2.1,(x.2.1.length:Int),(0,0,0,0,0,[],a00 3 0,[],[],(0,[],()),[],()),(x.1,0,0,x.2.2.2.2.2.1,0,x.2.2.2.2.2.2.2.1,a00 3 0,[],[],(0,[],()),[],()),())) (cond (x.1==4) (some (x.1,x.2.1,(x.2.1.length:Int),(0,0,0,0,0,[],a00 3 0,[],[],(0,[],()),[],()),(x.1,0,0,x.2.2.2.2.2.1,x.2.2.2.2.2.2.1,x.2.2.2.2.2.2.2.1,x.2.2.2.2.2.2.2.2.1,[],[],(0,[],()),[],()),())) (cond (x.1==5) (some (x.1,x.2.1,(x.2.1.length:Int),(0,0,0,0,0,[],a00 3 0,[],[],(0,[],()),[],()),(x.1,0,0,0,0,[],a00 3 0,x.2.2.2.2.2.2.2.2.2.1,[],(0,[],()),[],()),())) (some (x.1,x.2.1,(x.2.1.length:Int),(0,0,0,0,0,[],a00 3 0,[],[],(0,[],()),[],()),(x.1,0,0,0,0,[],a00 3 0,[],[],(0,[],()),[],()),())))))).bind fun z1=> (show Option (Int×((List Int)×(Int×Bool×b3z)))from cond (decide (z1.2.2.1<1)) (some (z1.1,z1.2.1,z1.2.2.1,true,z1.2.2.2.1,z1.2.2.2.2.1,())) (cond (decide (z1.2.2.1 > 4096)) (some (z1.1,z1.2.1,z1.2.2.1,true,z1.2.2.2.1,z1.2.2.2.2.1,())) ((b0W (z1.2.2.2.2.1,z1.2.2.1)).bind fun y2=> some (z1.1,z1.2.1,z1.2.2.1,decide (y2<0),z1.2.2.2.1,z1.2.2.2.2.1,())))).bind fun z3=> cond z3.2.2.2.1 (some ((0,0,0,0,0,[],a00 3 0,[],[],(0,[],()),[],()),1)) ((a0G z3.2.1).bind fun y4=> cond (!y4) (some ((0,0,0,0,0,[],a00 3 0,[],[],(0,[],()),[],()),6)) (cond (z3.1==0) ((b4g z3.2.1).bind fun y5=> cond (!y5) (some ((0,0,0,0,0,[],a00 3 0,[],[],(0,[],()),[],()),7)) (cond (decide (1≤(z3.2.1.length:Int))) (some ((z3.2.2.2.2.2.1.1,z3.2.2.2.2.2.1.2.1,z3.2.2.2.2.2.1.2.2.1,z3.2.2.2.2.2.1.2.2.2.1,z3.2.2.2.2.2.1.2.2.2.2.1,z3.2.2.2.2.2.1.2.2.2.2.2.1,z3.2.2.2.2.2.1.2.2.2.2.2.2.1,z3.2.2.2.2.2.1.2.2.2.2.2.2.2.1,a07 1 z3.2.1,z3.2.2.2.2.2.1.2.2.2.2.2.2.2.2.2),0)) none)) ((a7x z3.2.1).bind fun y6=> (b4A (z3.2.1,y6)).bind fun y7=> (b0r ((z3.2.2.2.2.2.1.1,y6,z3.2.2.2.2.2.1.2.2),y7.1)).bind fun y8=> cond (y8.2.2 != 0) (some ((0,0,0,0,0,[],a00 3 0,[],[],(0,[],()),[],()),6)) ((show Option b3z from(a5u z3.1).bind fun y9=> cond y9 ((b0t (z3.2.2.1,(y8.1.length:Int),6,y8.2.1)).bind fun y10=> some (z3.2.2.2.2.1,(z3.2.2.2.2.2.1.1,y6,z3.2.2.2.2.2.1.2.2.1,z3.2.2.2.2.2.1.2.2.2.1,z3.2.2.2.2.2.1.2.2.2.2.1,z3.2.2.2.2.2.1.2.2.2.2.2.1,z3.2.2.2.2.2.1.2.2.2.2.2.2.1,z3.2.2.2.2.2.1.2.2.2.2.2.2.2.1,y8.1,y10.1,y8.2.1,z3.2.2.2.2.2.1.2.2.2.2.2.2.2.2.2.2.2),())) (some (z3.2.2.2.2.1,(z3.2.2.2.2.2.1.1,y6,z3.2.2.2.2.2.1.2.2.1,z3.2.2.2.2.2.1.2.2.2.1,z3.2.2.2.2.2.1.2.2.2.2.1,z3.2.2.2.2.2.1.2.2.2.2.2.1,z3.2.2.2.2.2.1.2.2.2.2.2.2.1,z3.2.2.2.2.2.1.2.2.2.2.2.2.2.1,y8.1,z3.2.2.2.2.2.1.2.2.2.2.2.2.2.2.2.1,y8.2.1,z3.2.2.2.2.2.1.2.2.2.2.2.2.2.2.2.2.2),()))).bind fun z11=> some (z11.2.1,0)))))
def c0m:FSem:=⟨[.v QI,.v QL,.v Q19],[.v Q19,.v QI],b1t⟩
def H98:Hints:=⟨[],[(15,[(.normal,[.sv 0 QI,.sv 1 QL,.sv 8 QI,.box 6 Q19,.box 9 Q19,.ptr 6 6 [],.ptr 9 9 []])]),(62,[(.normal,[.sv 0 QI,.sv 1 QL,.sv 8 QI,.sv 63 .bool,.box 6 Q19,.box 9 Q19,.ptr 6 6 [],.ptr 9 9 []])]),(8191,[(.normal,[.box 6 Q19,.box 9 Q19,.ptr 6 6 [],.ptr 9 9 []])])],[(7,[.v,.v,.v,.v,.q,.w [0,9],.x,.x]),(9,[.v,.v,.v,.v,.v,.v,.v,.v,.q,.w [0,9],.q,.w [0,9],.q,.w [0,9],.x,.x])]⟩
def a4A(s:(Z5×Z36)):Option ((Z5×Z36) ⊕ Z0):= cond (decide (s.2.2.1<(s.1.length:Int))) ((a0r s.1 s.2.2.1).bind fun x1=> (a0r s.2.1 s.2.2.1).bind fun x2=> cond (!(eqT Q4 x1 x2)) (some (.inr (Sum.inr ((false,()))))) (some (.inl (s.1,s.2.1,wrap .i64 (s.2.2.1+1),())))) (some (.inr (Sum.inl ())))
def a8r(x:(Z5×Z5)):Option Bool:= cond ((x.1.length:Int) != (x.2.length:Int)) (some false) ((a0e a4A (x.1,x.2,0,())).bind fun w3=> match w3 with |.inl a4=>some true |.inr b5=>some b5.1)
def b6v:FSem:=⟨[.v (.list false Q4),.v (.list false Q4)],[.v .bool],a8r⟩
def e2y:Hints:=⟨[(58,[.sv 0 (.list false Q4),.sv 1 (.list false Q4),.sv 5 QI],[(.exit 0,[]),(.ret,[.sv 4 .bool])])],[],[(6,[.v,.v,.v,.v,.v,.v,.v,.v,.x])]⟩
def b3E(x:(Z3×Z3)):Option Bool:= cond (x.1.1==x.2.1) ((a2x (x.1.2.1,x.2.2.1)).bind fun y1=> some y1) (some false)
def b8M:FSem:=⟨[.v Q7,.v Q7],[.v .bool],b3E⟩
def e2z:Hints:=⟨[],[],[]⟩
def a8P(x:(a2a×a2a)):Option Bool:= cond (x.1.1==x.2.1) (cond (x.1.2.1==x.2.2.1) (cond (x.1.2.2.1==x.2.2.2.1) (cond (x.1.2.2.2.1==x.2.2.2.2.1) (cond (x.1.2.2.2.2.1==x.2.2.2.2.2.1) ((a2x (x.1.2.2.2.2.2.1,x.2.2.2.2.2.2.1)).bind fun y1=> cond y1 (cond (eqT (.arr 3 (.int .i64)) x.1.2.2.2.2.2.2.1 x.2.2.2.2.2.2.2.1) ((a8r (x.1.2.2.2.2.2.2.2.1,x.2.2.2.2.2.2.2.2.1)).bind fun y2=> cond y2 ((a2x (x.1.2.2.2.2.2.2.2.2.1,x.2.2.2.2.2.2.2.2.2.1)).bind fun y3=> cond y3 ((b3E (x.1.2.2.2.2.2.2.2.2.2.1,x.2.2.2.2.2.2.2.2.2.2.1)).bind fun y4=> cond y4 ((a2x (x.1.2.2.2.2.2.2.2.2.2.2.1,x.2.2.2.2.2.2.2.2.2.2.2.1)).bind fun y5=> some y5) (some false)) (some false)) (some false)) (some false)) (some false)) (some false)) (some false)) (some false)) (some false)) (some false)
def b4U:FSem:=⟨[.v Q19,.v Q19],[.v .bool],a8P⟩
def H42:Hints:=⟨[],[],[]⟩
def b4h(x:a2a):Option a2a:= cond (x.1==0) (some (x.1,0,0,0,0,[],a00 3 0,[],x.2.2.2.2.2.2.2.2.1,(0,[],()),[],())) (cond (x.1==1) (some (x.1,x.2.1,0,0,0,[],a00 3 0,[],x.2.2.2.2.2.2.2.2.1,(0,[],()),[],())) ((show Option b3z from cond (x.1==2) (some ((0,0,0,0,0,[],a00 3 0,[],[],(0,[],()),[],()),(x.1,x.2.1,x.2.2.1,0,0,[],a00 3 0,[],x.2.2.2.2.2.2.2.2.1,x.2.2.2.2.2.2.2.2.2.1,x.2.2.2.2.2.2.2.2.2.2.1,()),())) (cond (x.1==3) (some ((0,0,0,0,0,[],a00 3 0,[],[],(0,[],()),[],()),(x.1,x.2.1,0,x.2.2.2.1,0,x.2.2.2.2.2.1,a00 3 0,[],x.2.2.2.2.2.2.2.2.1,x.2.2.2.2.2.2.2.2.2.1,x.2.2.2.2.2.2.2.2.2.2.1,()),())) (cond (x.1==4) (some ((0,0,0,0,0,[],a00 3 0,[],[],(0,[],()),[],()),(x.1,x.2.1,0,x.2.2.2.1,x.2.2.2.2.1,x.2.2.2.2.2.1,x.2.2.2.2.2.2.1,[],x.2.2.2.2.2.2.2.2.1,x.2.2.2.2.2.2.2.2.2.1,x.2.2.2.2.2.2.2.2.2.2.1,()),())) (cond (x.1==5) (some ((0,0,0,0,0,[],a00 3 0,[],[],(0,[],()),[],()),(x.1,x.2.1,0,0,0,[],a00 3 0,x.2.2.2.2.2.2.2.1,[],x.2.2.2.2.2.2.2.2.2.1,x.2.2.2.2.2.2.2.2.2.2.1,()),())) (some ((0,0,0,0,0,[],a00 3 0,[],[],(0,[],()),[],()),(x.1,x.2.1,0,0,0,[],a00 3 0,[],x.2.2.2.2.2.2.2.2.1,x.2.2.2.2.2.2.2.2.2.1,x.2.2.2.2.2.2.2.2.2.2.1,()),())))))).bind fun z1=> some z1.2.1))
def c3b:FSem:=⟨[.v Q19],[.v Q19],b4h⟩
def e2A:Hints:=⟨[],[(127,[(.normal,[.box 2 Q19,.box 3 Q19,.ptr 2 2 [],.ptr 3 3 []])])],[(7,[.v,.v,.v,.v,.q,.w [0,3],.x,.x]),(12,[.v,.v,.v,.v,.q,.w [0,3],.x,.x]),(14,[.v,.v,.v,.v,.v,.v,.v,.v,.q,.w [0,3],.q,.w [0,3],.q,.w [0,3],.x,.x])]⟩
def b6w(x:Int):Option (List Int):= cond ((decide (0≤x))&&(decide (x<5))) (some (a02 ([[],[1],[2,(-1)],[3,(-3),1],[4,(-6),4,(-1)]]:List (List Int)) (a01 x) [])) none
def c1x:FSem:=⟨[.v QI],[.v QL],b6w⟩
def e2B:Hints:=⟨[],[],[]⟩
def a5d(s:((List Int)×(Int×Z60))):Option (((List Int)×(Int×Z60)) ⊕ Z80):= cond (decide (s.2.2.2.2.2.1<s.2.1)) ((a0r s.2.2.1 s.2.2.2.2.2.1).bind fun x7=> cond ((decide (0≤(wrap .i64 ((wrap .i64 ((s.2.2.2.2.2.2.1.length:Int)-1))-s.2.2.2.2.2.1))))&&(decide ((wrap .i64 ((wrap .i64 ((s.2.2.2.2.2.2.1.length:Int)-1))-s.2.2.2.2.2.1))<(s.2.2.2.2.2.2.1.length:Int)))) (some (.inl (s.1,s.2.1,s.2.2.1,s.2.2.2.1,wrap .i64 (s.2.2.2.2.1+(wrap .i64 (x7*(a02 s.2.2.2.2.2.2.1 (a01 (wrap .i64 ((wrap .i64 ((s.2.2.2.2.2.2.1.length:Int)-1))-s.2.2.2.2.2.1))) 0)))),wrap .i64 (s.2.2.2.2.2.1+1),s.2.2.2.2.2.2.1,()))) none) (some (.inr (s.1,s.2.1,s.2.2.1,s.2.2.2.1,s.2.2.2.2.1,s.2.2.2.2.2.2.1,())))
end Go.Ab
namespace Go.Ab
open IntKind(wrap)
open Go.Proofs
set_option maxRecDepth 100000
set_option linter.unusedVariables false
def a7m(s:((List Int)×(Int×Z28))):Option (((List Int)×(Int×Z28)) ⊕ Z45):= cond (decide (s.2.2.2.1<(s.1.length:Int))) ((a0r s.1 s.2.2.2.1).bind fun x6=> (a0e a5d (s.1,s.2.1,s.2.2.1,s.2.2.2.1,x6,0,s.2.2.2.2.1,())).bind fun w8=> (a3A w8.2.2.2.2.1).bind fun y9=> cond (!y9) (some (.inr (Sum.inr ((6,[],()))))) (cond (lim ((a03 w8.2.2.2.2.2.1)+1)) (some (.inl (w8.1,w8.2.1,w8.2.2.1,wrap .i64 (w8.2.2.2.1+1),a04 w8.2.2.2.2.2.1 [w8.2.2.2.2.1],()))) none)) (some (.inr (Sum.inl (s.2.2.2.2.1,()))))
def a9p(x:Z11):Option ((List Int)×Int):= (show Option Z48 from cond (decide (x.2.2<0)) (some (x.1,x.2.1,x.2.2,true,())) (cond (decide (x.2.2 > 4)) (some (x.1,x.2.1,x.2.2,true,())) (some (x.1,x.2.1,x.2.2,(x.1.length:Int) != x.2.2,())))).bind fun z1=> cond z1.2.2.2.1 (some ([],1)) ((show Option Z48 from(a0G z1.1).bind fun y2=> cond (!y2) (some (z1.1,z1.2.1,z1.2.2.1,true,())) ((a0G z1.2.1).bind fun y3=> some (z1.1,z1.2.1,z1.2.2.1,!y3,()))).bind fun z4=> cond z4.2.2.2.1 (some ([],6)) (cond (lim (0+(a03 z4.1))) ((b6w z4.2.2.1).bind fun y5=> (a0e a7m (z4.2.1,z4.2.2.1,y5,0,a04 [] z4.1,())).bind fun w10=> match w10 with |.inl a11=>some (a11.1,0) |.inr b12=>some (b12.2.1,b12.1)) none))
def b7j:FSem:=⟨[.v QL,.v QL,.v QI],[.o QI,.v QI],a9p⟩
def e2C:Hints:=⟨[(250,[.sv 1 QL,.sv 2 QI,.sv 9 QL,.sv 10 QI,.own 8 8 QI],[(.exit 0,[.own 8 8 QI]),(.ret,[.sv 7 QI,.own 6 6 QI])]),(64074,[.sv 1 QL,.sv 2 QI,.sv 9 QL,.sv 10 QI,.sv 11 QI,.sv 12 QI,.own 8 8 QI],[(.exit 2,[.sv 1 QL,.sv 2 QI,.sv 9 QL,.sv 10 QI,.sv 11 QI,.own 8 8 QI])])],[(6,[(.normal,[.sv 0 QL,.sv 1 QL,.sv 2 QI,.sv 24 .bool])]),(14,[(.normal,[.sv 0 QL,.sv 1 QL,.sv 2 QI,.sv 32 .bool])])],[(13,[.v,.v,.v,.v,.v,.q,.q,.q,.v,.v,.v,.q,.q,.v,.x,.x])]⟩
def a6x(s:Z66):Option (Z66 ⊕ Z45):= cond (decide (s.2.2.2.1<(s.1.length:Int))) ((a0r s.1 s.2.2.2.1).bind fun x6=> (a5C (s.2.2.2.2.1,s.2.1,s.2.2.1)).bind fun y7=> (a3A (wrap .i64 (x6+y7))).bind fun y8=> cond (!y8) (some (.inr (Sum.inr ((6,[],()))))) (cond (lim ((a03 s.2.2.2.2.1)+1)) (some (.inl (s.1,s.2.1,s.2.2.1,wrap .i64 (s.2.2.2.1+1),a04 s.2.2.2.2.1 [wrap .i64 (x6+y7)],()))) none)) (some (.inr (Sum.inl (s.2.2.2.2.1,()))))
def a6p(x:((List Int)×Z11)):Option ((List Int)×Int):= (show Option Z72 from(a4c (x.2.2.1,x.2.2.2)).bind fun y1=> cond (!y1) (some (x.1,x.2.1,x.2.2.1,x.2.2.2,true,())) (some (x.1,x.2.1,x.2.2.1,x.2.2.2,(x.1.length:Int) != (x.2.2.1.length:Int),()))).bind fun z2=> cond z2.2.2.2.2.1 (some ([],1)) ((show Option Z72 from(a0G z2.1).bind fun y3=> cond (!y3) (some (z2.1,z2.2.1,z2.2.2.1,z2.2.2.2.1,true,())) ((a0G z2.2.1).bind fun y4=> some (z2.1,z2.2.1,z2.2.2.1,z2.2.2.2.1,!y4,()))).bind fun z5=> cond z5.2.2.2.2.1 (some ([],6)) (cond (lim (0+(a03 z5.1))) ((a0e a6x (z5.2.1,z5.2.2.1,z5.2.2.2.1,0,a04 [] z5.1,())).bind fun w9=> match w9 with |.inl a10=>some (a10.1,0) |.inr b11=>some (b11.2.1,b11.1)) none))
def b6x:FSem:=⟨[.v QL,.v QL,.v QL,.v QI],[.o QI,.v QI],a6p⟩
def e2D:Hints:=⟨[(250,[.sv 1 QL,.sv 2 QL,.sv 3 QI,.sv 11 QI,.own 10 10 QI],[(.exit 0,[.own 10 10 QI]),(.ret,[.sv 9 QI,.own 8 8 QI])])],[(6,[(.normal,[.sv 0 QL,.sv 1 QL,.sv 2 QL,.sv 3 QI,.sv 23 .bool])]),(14,[(.normal,[.sv 0 QL,.sv 1 QL,.sv 2 QL,.sv 3 QI,.sv 31 .bool])])],[(9,[.v,.v,.v,.v,.q,.v,.v,.q,.x,.x])]⟩
def a7F(s:Z67):Option (Z67 ⊕ Z45):= cond (decide (s.2.2.1<(s.1.length:Int))) ((a0r s.1 s.2.2.1).bind fun x3=> (a7f (s.2.2.2.1,s.2.1,s.2.2.2.2.1)).bind fun y4=> (a3A (wrap .i64 (x3+y4))).bind fun y5=> cond (!y5) (some (.inr (Sum.inr ((6,[],()))))) (cond (lim ((a03 s.2.2.2.1)+1)) (some (.inl (s.1,s.2.1,wrap .i64 (s.2.2.1+1),a04 s.2.2.2.1 [wrap .i64 (x3+y4)],s.2.2.2.2.1,()))) none)) (some (.inr (Sum.inl (s.2.2.2.1,()))))
def b0u(x:Z12):Option ((List Int)×Int):= (a6J (x.2.1,x.2.2)).bind fun y1=> cond (!y1) (some ([],1)) ((a0G x.1).bind fun y2=> cond (!y2) (some ([],6)) ((a0e a7F (x.1,x.2.1,0,[],x.2.2,())).bind fun w6=> match w6 with |.inl a7=>some (a7.1,0) |.inr b8=>some (b8.2.1,b8.1)))
def b8N:FSem:=⟨[.v QL,.v QI,.v (.arr 3 QI)],[.o QI,.v QI],b0u⟩
def e2E:Hints:=⟨[(250,[.sv 0 QL,.sv 1 QI,.sv 9 QI,.own 8 8 QI,.vp 5 (.arr 3 QI)],[(.exit 0,[.own 8 8 QI]),(.ret,[.sv 7 QI,.own 6 6 QI])])],[],[(9,[.v,.v,.v,.v,.q,.v,.v,.q,.x,.x])]⟩
def a5e(s:Z99):Option (Z99 ⊕ (Z64 ⊕ Z3)):= cond (decide (s.2.2.1<(s.2.2.2.1.length:Int))) (cond ((decide (0≤s.2.2.1))&&(decide (s.2.2.1<(s.2.2.2.1.length:Int)))) ((a3C s.2.2.2.2.1).bind fun y5=> (a3A (wrap .i64 ((a02 s.2.2.2.1 (a01 s.2.2.1) 0)+y5.1))).bind fun y6=> cond (!y6) (some (.inr (Sum.inr ((6,[],()))))) (cond ((decide (0≤s.2.2.1))&&(decide (s.2.2.1<(s.2.2.2.1.length:Int)))) ((a5D (y5.2,wrap .i64 ((a02 s.2.2.2.1 (a01 s.2.2.1) 0)+y5.1))).bind fun y7=> some (.inl (s.1,s.2.1,wrap .i64 (s.2.2.1+1),a05 s.2.2.2.1 (a01 s.2.2.1) (wrap .i64 ((a02 s.2.2.2.1 (a01 s.2.2.1) 0)+y5.1)),y7,()))) none)) none) (some (.inr (Sum.inl (s.1,s.2.1,s.2.2.2.1,()))))
def a5f(s:Z64):Option (Z64 ⊕ Z45):= cond (decide (s.2.1≥0)) ((a0r s.1 s.2.1).bind fun x3=> (a7h x3).bind fun y4=> (a0e a5e (s.1,s.2.1,0,s.2.2.1,y4.1,())).bind fun w8=> match w8 with |.inl a9=>some (.inl (a9.1,wrap .i64 (a9.2.1-1),a9.2.2.1,())) |.inr b10=>some (.inr (Sum.inr ((b10.1,b10.2.1,()))))) (some (.inr (Sum.inl (s.2.2.1,()))))
def a9q(x:Z27):Option ((List Int)×Int):= (a6f x.2).bind fun y1=> cond (!y1) (some ([],1)) ((a0G x.1).bind fun y2=> cond (!y2) (some ([],6)) (cond (lim (0+(a03 x.1))) ((a0e a5f (x.2,wrap .i64 ((x.2.length:Int)-1),a04 [] x.1,())).bind fun w11=> match w11 with |.inl a12=>some (a12.1,0) |.inr b13=>some (b13.2.1,b13.1)) none))
def b7k:FSem:=⟨[.v QL,.v (.list false Q4)],[.o QI,.v QI],a9q⟩
def e2F:Hints:=⟨[(250,[.sv 1 (.list false Q4),.sv 7 QI,.own 6 6 QI],[(.exit 0,[.own 6 6 QI]),(.ret,[.sv 5 QI,.own 4 4 QI])]),(32038,[.sv 1 (.list false Q4),.sv 7 QI,.sv 10 QI,.own 6 6 QI,.box 1033 Q9,.ptr 8 1033 []],[(.exit 2,[.sv 1 (.list false Q4),.sv 7 QI,.own 6 6 QI]),(.ret,[.sv 5 QI,.own 4 4 QI])])],[],[(13,[.r [6,42],.v,.r [6,44],.r [6,45],.q,.w [47,1033,1047],.x,.x])]⟩
def b5w(x:a2a):Option ((List Int)×Int):= cond (x.1==2) ((a9p (x.2.2.2.2.2.2.2.2.1,x.2.2.2.2.2.2.2.2.2.2.1,x.2.2.1)).bind fun y1=> some (y1.1,y1.2)) (cond (x.1==3) ((a6p (x.2.2.2.2.2.2.2.2.1,x.2.2.2.2.2.2.2.2.2.2.1,x.2.2.2.2.2.1,x.2.2.2.1)).bind fun y2=> some (y2.1,y2.2)) (cond (x.1==4) ((a6p (x.2.2.2.2.2.2.2.2.1,x.2.2.2.2.2.2.2.2.2.2.1,x.2.2.2.2.2.1,x.2.2.2.1)).bind fun y3=> cond (y3.2 != 0) (some ([],y3.2)) ((b0u (y3.1,x.2.2.2.2.1,x.2.2.2.2.2.2.1)).bind fun y4=> some (y4.1,y4.2))) (cond (x.1==5) ((a9q (x.2.2.2.2.2.2.2.2.2.2.1,x.2.2.2.2.2.2.2.1)).bind fun y5=> some (y5.1,y5.2)) (some (x.2.2.2.2.2.2.2.2.1,0)))))
def c4T:FSem:=⟨[.v Q19],[.v QL,.v QI],b5w⟩
def e2G:Hints:=⟨[],[],[]⟩
def b5x(s:Z41):Option (Z41 ⊕ Z45):= cond (decide (s.2.2.1<(s.1.length:Int))) ((show Option Z61 from(a0r s.1 s.2.2.1).bind fun x2=> (a3A x2).bind fun y3=> cond (!y3) (some (s.1,s.2.1,s.2.2.1,true,s.2.2.2.1,())) ((a0r s.1 s.2.2.1).bind fun x4=> cond (decide ((wrap .u64 s.2.1)<0)) none ((a3A (a0F .i64 x4 (wrap .u64 s.2.1))).bind fun y5=> some (s.1,s.2.1,s.2.2.1,!y5,s.2.2.2.1,())))).bind fun z6=> cond z6.2.2.2.1 (some (.inr (Sum.inr ((6,[],()))))) ((a0r z6.1 z6.2.2.1).bind fun x7=> cond (decide ((wrap .u64 z6.2.1)<0)) none (cond (lim ((a03 z6.2.2.2.2.1)+1)) (some (.inl (z6.1,z6.2.1,wrap .i64 (z6.2.2.1+1),a04 z6.2.2.2.2.1 [a0F .i64 x7 (wrap .u64 z6.2.1)],()))) none))) (some (.inr (Sum.inl (s.2.2.2.1,()))))
def c2l(x:((List Int)×Int)):Option ((List Int)×Int):= (show Option Z18 from cond (decide (x.2<0)) (some (x.1,x.2,true,())) (some (x.1,x.2,decide (x.2 > 30),()))).bind fun z1=> cond z1.2.2.1 (some ([],1)) ((a0e b5x (z1.1,z1.2.1,0,[],())).bind fun w8=> match w8 with |.inl a9=>some (a9.1,0) |.inr b10=>some (b10.2.1,b10.1))
def d0X:FSem:=⟨[.v QL,.v QI],[.o QI,.v QI],c2l⟩
def e2H:Hints:=⟨[(122,[.sv 0 QL,.sv 1 QI,.sv 7 QI,.own 6 6 QI],[(.exit 0,[.own 6 6 QI]),(.ret,[.sv 5 QI,.own 4 4 QI])])],[(6,[(.normal,[.sv 0 QL,.sv 1 QI,.sv 13 .bool])]),(3912,[(.normal,[.sv 0 QL,.sv 1 QI,.sv 7 QI,.sv 36 .bool,.own 6 6 QI])])],[]⟩
def a7n(s:d1Z):Option (d1Z ⊕ ((List Int)×Unit)):= cond (decide (s.2.1<s.1)) ((a0r s.2.2.2.1.2.2.2.2.2.2.2.2.1 0).bind fun x11=> cond ((decide (0≤s.2.1))&&(decide (s.2.1<(s.2.2.1.length:Int)))) (some (.inl (s.1,wrap .i64 (s.2.1+1),a05 s.2.2.1 (a01 s.2.1) x11,s.2.2.2.1,()))) none) (some (.inr (s.2.2.1,())))
def b2P(x:a9G):Option ((List Int)×Bool):= (show Option c1e from cond (decide (x.2<1)) (some (x.2,true,x.1,())) (cond (decide (x.2 > 4096)) (some (x.2,true,x.1,())) (cond (decide (x.1.1<0)) (some (x.2,true,x.1,())) (cond (decide (x.1.1 > 5)) (some (x.2,true,x.1,())) ((b4h x.1).bind fun y1=> (a8P (x.1,y1)).bind fun y2=> cond (!y2) (some (x.2,true,x.1,())) (cond (decide (x.1.2.1<0)) (some (x.2,true,x.1,())) (some (x.2,decide (x.1.2.1 > 30),x.1,())))))))).bind fun z3=> cond z3.2.1 (some ([],false)) ((b0W (z3.2.2.1,z3.1)).bind fun y4=> (show Option d1X from cond (decide (y4<0)) (some (z3.1,y4,true,z3.2.2.1,())) (cond ((z3.2.2.1.2.2.2.2.2.2.2.2.1.length:Int) != y4) (some (z3.1,y4,true,z3.2.2.1,())) ((a0G z3.2.2.1.2.2.2.2.2.2.2.2.1).bind fun y5=> cond (!y5) (some (z3.1,y4,true,z3.2.2.1,())) ((a0G z3.2.2.1.2.2.2.2.2.2.2.2.2.2.1).bind fun y6=> some (z3.1,y4,!y6,z3.2.2.1,()))))).bind fun z7=> cond z7.2.2.1 (some ([],false)) ((show Option c1e from(a5u z7.2.2.2.1.1).bind fun y8=> cond y8 (cond ((z7.2.2.2.1.2.2.2.2.2.2.2.2.2.2.1.length:Int) != (wrap .i64 (z7.1-z7.2.1))) (some (z7.1,true,z7.2.2.2.1,())) ((a6K (z7.2.2.2.1.2.2.2.2.2.2.2.2.2.1,z7.1,z7.2.1)).bind fun y9=> some (z7.1,!y9,z7.2.2.2.1,()))) (some (z7.1,false,z7.2.2.2.1,()))).bind fun z10=> cond z10.2.1 (some ([],false)) (cond (z10.2.2.1.1==0) (cond ((decide (0≤z10.1))&&((decide (z10.1≤z10.1))&&(lim (a01 z10.1)))) ((a0e a7n (z10.1,0,a00 (a01 z10.1) 0,z10.2.2.1,())).bind fun w12=> some (w12.1,true)) none) ((b5w z10.2.2.1).bind fun y13=> cond (y13.2 != 0) (some ([],false)) ((c2l (y13.1,z10.2.2.1.2.1)).bind fun y14=> some (y14.1,y14.2==0))))))
def c1y:FSem:=⟨[.v Q19,.v QI],[.o QI,.v .bool],b2P⟩
def H49:Hints:=⟨[(8106,[.sv 1 QI,.sv 8 QI,.own 7 7 QI,.vp 2 Q19],[(.exit 0,[.own 7 7 QI])])],[(6,[(.normal,[.sv 1 QI,.sv 45 .bool,.vp 2 Q19])]),(30,[(.normal,[.sv 1 QI,.sv 6 QI,.sv 69 .bool,.vp 2 Q19])]),(62,[(.normal,[.sv 1 QI,.sv 89 .bool,.vp 2 Q19])])],[(1,[.x,.x,.x,.x,.x,.x,.x,.x,.x,.x,.x,.x,.x,.x,.x,.x,.x,.v,.v,.v,.x,.x,.x,.x,.x,.x,.x,.x,.x,.x,.x,.x,.x])]⟩
def b2Q(x:a9G):Option Bool:= (b2P (x.1,x.2)).bind fun y1=> some y1.2
def c1z:FSem:=⟨[.v Q19,.v QI],[.v .bool],b2Q⟩
def e2I:Hints:=⟨[],[],[]⟩
def a7o(s:Z37):Option (Z37 ⊕ Z9):= cond (decide (s.2.1≥0)) (cond (decide ((wrap .u64 s.2.1)<0)) none (cond (lim ((a03 s.2.2.1.1)+1)) (some (.inl (s.1,wrap .i64 (s.2.1-1),(a04 s.2.2.1.1 [wrap .u8 (bits .u64 .and (a0l .u64 s.1 (wrap .u64 s.2.1)) 1)],s.2.2.1.2),()))) none)) (some (.inr (s.2.2.1,())))
def a0t(x:(((List Int)×Unit)×(Int×Int))):Option Z3:= (show Option (Int×Int×Bool×Z9)from cond (decide (x.2.2<0)) (some (x.2.1,x.2.2,true,x.1,())) (cond (decide (x.2.2 > 64)) (some (x.2.1,x.2.2,true,x.1,())) (cond (decide (x.2.2<64)) (cond (decide ((wrap .u64 x.2.2)<0)) none (some (x.2.1,x.2.2,(a0l .u64 x.2.1 (wrap .u64 x.2.2)) != 0,x.1,()))) (some (x.2.1,x.2.2,false,x.1,()))))).bind fun z1=> cond z1.2.2.1 (some (1,z1.2.2.2.1)) ((a0e a7o (z1.1,wrap .i64 (z1.2.1-1),z1.2.2.2.1,())).bind fun w2=> some (0,w2.1))
def a5n:FSem:=⟨[.r false (.b Q1),.v (.int .u64),.v QI],[.v QI],a0t⟩
def e2J:Hints:=⟨[(58,[.sv 1 (.int .u64),.sv 7 QI,.box pinned Q1,.ptr 0 pinned []],[(.exit 0,[.box pinned Q1])])],[(6,[(.normal,[.sv 1 (.int .u64),.sv 2 QI,.sv 24 .bool,.box pinned Q1,.ptr 0 pinned []])])],[]⟩
def a7G(s:((List Int)×Z37)):Option (((List Int)×Z37) ⊕ Z9):= cond (decide (s.2.2.1<(s.1.length:Int))) ((a0r s.1 s.2.2.1).bind fun x2=> cond (decide ((wrap .u64 s.2.1)<0)) none ((a0t (s.2.2.2.1,bits .u64 .and (wrap .u64 x2) (wrap .u64 ((a0F .u64 1 (wrap .u64 s.2.1))-1)),s.2.1)).bind fun y3=> some (.inl (s.1,s.2.1,wrap .i64 (s.2.2.1+1),y3.2,())))) (some (.inr (s.2.2.2.1,())))
def a3E(x:(((List Int)×Unit)×((List Int)×Int))):Option ((List Int)×Unit):= (a0e a7G (x.2.1,x.2.2,0,x.1,())).bind fun w4=> some w4.1
def b0v:FSem:=⟨[.r false (.b Q1),.v QL,.v QI],[],a3E⟩
def e2K:Hints:=⟨[(6,[.sv 1 QL,.sv 2 QI,.sv 6 QI,.box pinned Q1,.ptr 0 pinned []],[(.exit 0,[.box pinned Q1])])],[],[]⟩
def a7p(x:(((List Int)×Unit)×a2a)):Option ((List Int)×Unit):= (a0t (x.1,wrap .u64 (wrap .i64 ((x.2.2.2.2.2.2.1.length:Int)-1)),5)).bind fun y1=> (a0t (y1.2,wrap .u64 x.2.2.2.2.1,4)).bind fun y2=> (a8p x.2.2.2.2.2.2.1).bind fun y3=> (a0t (y2.2,wrap .u64 y3,5)).bind fun y4=> (a3E (y4.2,x.2.2.2.2.2.2.1,y3)).bind fun y5=> some y5
def b7l:FSem:=⟨[.r false (.b Q1),.v Q19],[],a7p⟩
def e2L:Hints:=⟨[],[],[]⟩
def a5N(s:Z37):Option (Z37 ⊕ Z9):= cond (decide (s.2.1<s.1)) (cond (lim ((a03 s.2.2.1.1)+1)) (some (.inl (s.1,wrap .i64 (s.2.1+1),(a04 s.2.2.1.1 [0],s.2.2.1.2),()))) none) (some (.inr (s.2.2.1,())))
def a4p(x:(((List Int)×Unit)×Int)):Option Z3:= (show Option (Int×Bool×Z9)from cond (decide (x.2<0)) (some (x.2,true,x.1,())) (some (x.2,decide (x.2 > 4096),x.1,()))).bind fun z1=> cond z1.2.1 (some (1,z1.2.2.1)) ((a0e a5N (z1.1,0,z1.2.2.1,())).bind fun w2=> cond (lim ((a03 w2.1.1)+1)) (some (0,a04 w2.1.1 [1],w2.1.2)) none)
def b5g:FSem:=⟨[.r false (.b Q1),.v QI],[.v QI],a4p⟩
def e2M:Hints:=⟨[(58,[.sv 1 QI,.sv 5 QI,.box pinned Q1,.ptr 0 pinned []],[(.exit 0,[.box pinned Q1,.ptr 0 pinned []])])],[(6,[(.normal,[.sv 1 QI,.sv 11 .bool,.box pinned Q1,.ptr 0 pinned []])])],[]⟩
def a7q(s:(Int×((List Int)×Z23))):Option ((Int×((List Int)×Z23)) ⊕ Z9):= cond (decide (s.2.2.1<(s.2.1.length:Int))) ((a0r s.2.1 s.2.2.1).bind fun x4=> (b4B x4).bind fun y5=> cond (decide ((wrap .u64 s.1)<0)) none (cond (decide ((wrap .i64 (a0l .u64 y5 (wrap .u64 s.1)))<32)) ((a4p (s.2.2.2.1,wrap .i64 (a0l .u64 y5 (wrap .u64 s.1)))).bind fun y6=> cond (decide ((wrap .u64 s.1)<0)) none ((a0t (y6.2,bits .u64 .and y5 (wrap .u64 ((a0F .u64 1 (wrap .u64 s.1))-1)),s.1)).bind fun y7=> some (.inl (s.1,s.2.1,wrap .i64 (s.2.2.1+1),y7.2,())))) ((a4p (s.2.2.2.1,32)).bind fun y8=> (a0t (y8.2,y5,32)).bind fun y9=> some (.inl (s.1,s.2.1,wrap .i64 (s.2.2.1+1),y9.2,()))))) (some (.inr (s.2.2.2.1,())))
def b2R(x:(((List Int)×Unit)×(Int×(List Int)))):Option Z3:= (show Option (Int×((List Int)×(Bool×Z9)))from(a3D x.2.1).bind fun y1=> cond (!y1) (some (x.2.1,x.2.2,true,x.1,())) ((a0G x.2.2).bind fun y2=> some (x.2.1,x.2.2,!y2,x.1,()))).bind fun z3=> cond z3.2.2.1 (some (1,z3.2.2.2.1)) ((a0e a7q (z3.1,z3.2.1,0,z3.2.2.2.1,())).bind fun w10=> some (0,w10.1))
def c1A:FSem:=⟨[.r false (.b Q1),.v QI,.v QL],[.v QI],b2R⟩
def e2N:Hints:=⟨[(58,[.sv 1 QI,.sv 2 QL,.sv 7 QI,.box pinned Q1,.ptr 0 pinned []],[(.exit 0,[.box pinned Q1])])],[(6,[(.normal,[.sv 1 QI,.sv 2 QL,.sv 17 .bool,.box pinned Q1,.ptr 0 pinned []])])],[]⟩
def a4L(s:((List Int)×(Int×(Int×((List Int)×(((List Int)×Unit)×Z19)))))):Option (((List Int)×(Int×(Int×((List Int)×(((List Int)×Unit)×Z19))))) ⊕ Z9):= cond (decide (s.2.2.1<(s.2.2.2.1.length:Int))) (cond ((decide (0≤s.2.2.1))&&(decide (s.2.2.1<(s.2.2.2.1.length:Int)))) (cond ((decide (0≤(wrap .i64 (s.2.1+(a02 s.2.2.2.1 (a01 s.2.2.1) 0)))))&&(decide ((wrap .i64 (s.2.1+(a02 s.2.2.2.1 (a01 s.2.2.1) 0)))≤(s.1.length:Int)))) (cond ((decide (0≤s.2.1))&&(decide (s.2.1≤((a01 (wrap .i64 (s.2.1+(a02 s.2.2.2.1 (a01 s.2.2.1) 0))):Nat):Int)))) ((a0r s.2.2.2.2.2.1.2.1 s.2.2.1).bind fun x4=> (a0t (s.2.2.2.2.1,wrap .u64 x4,5)).bind fun y5=> (show Option ((List Int)×(Int×(Int×((List Int)×(((List Int)×Unit)×Z19)))))from(a0r s.2.2.2.2.2.1.2.1 s.2.2.1).bind fun x6=> cond (x6==31) ((a8p (a22 (a01 s.2.1) (a07 (a01 (wrap .i64 (s.2.1+(a02 s.2.2.2.1 (a01 s.2.2.1) 0)))) s.1))).bind fun y7=> (a0t (y5.2,wrap .u64 y7,5)).bind fun y8=> (a3E (y8.2,a22 (a01 s.2.1) (a07 (a01 (wrap .i64 (s.2.1+(a02 s.2.2.2.1 (a01 s.2.2.1) 0)))) s.1),y7)).bind fun y9=> some (s.1,s.2.1,s.2.2.1,s.2.2.2.1,y9,s.2.2.2.2.2.1,())) ((a0r s.2.2.2.2.2.1.2.1 s.2.2.1).bind fun x10=> (b2R (y5.2,x10,a22 (a01 s.2.1) (a07 (a01 (wrap .i64 (s.2.1+(a02 s.2.2.2.1 (a01 s.2.2.1) 0)))) s.1))).bind fun y11=> some (s.1,s.2.1,s.2.2.1,s.2.2.2.1,y11.2,s.2.2.2.2.2.1,()))).bind fun z12=> cond ((decide (0≤z12.2.2.1))&&(decide (z12.2.2.1<(z12.2.2.2.1.length:Int)))) (some (.inl (z12.1,wrap .i64 (z12.2.1+(a02 z12.2.2.2.1 (a01 z12.2.2.1) 0)),wrap .i64 (z12.2.2.1+1),z12.2.2.2.1,z12.2.2.2.2.1,z12.2.2.2.2.2.1,()))) none) none) none) none) (some (.inr (s.2.2.2.2.1,())))
def b1u(x:(((List Int)×Unit)×Z57)):Option Z3:= (a2T (x.2.1,x.2.2.1,x.2.2.2.1,x.2.2.2.2)).bind fun y1=> cond (y1==0) (some (1,x.1)) ((a0t (x.1,wrap .u64 x.2.1.1,4)).bind fun y2=> (a4f (x.2.1.1,x.2.2.1,x.2.2.2.1)).bind fun y3=> (a0e a4L (x.2.2.2.2,0,0,y3,y2.2,x.2.1,())).bind fun w13=> some (0,w13.1))
def c0n:FSem:=⟨[.r false (.b Q1),.v Q7,.v QI,.v QI,.v QL],[.v QI],b1u⟩
def e2O:Hints:=⟨[(250,[.sv 4 QL,.sv 12 QI,.sv 13 QI,.own 11 11 QI,.box pinned Q1,.ptr 0 pinned [],.vp 6 Q7],[(.exit 0,[.box pinned Q1])])],[(16019,[(.normal,[.sv 4 QL,.sv 12 QI,.sv 13 QI,.own 11 11 QI,.box pinned Q1,.ptr 0 pinned [],.vp 6 Q7])])],[]⟩
def a9r(s:(Int×d2b)):Option ((Int×d2b) ⊕ d2b):= cond (decide (s.2.2.1<(s.2.2.2.2.1.2.2.2.2.2.2.2.1.length:Int))) ((a0r s.2.2.2.2.1.2.2.2.2.2.2.2.1 s.2.2.1).bind fun x12=> (a0t (s.2.2.2.1,wrap .u64 (wrap .i64 (x12.1-1)),5)).bind fun y13=> (a0r s.2.2.2.2.1.2.2.2.2.2.2.2.1 s.2.2.1).bind fun x14=> (a0t (y13.2,wrap .u64 x14.2.1,4)).bind fun y15=> some (.inl (s.1,s.2.1,wrap .i64 (s.2.2.1+1),y15.2,s.2.2.2.2.1,()))) (some (.inr (s.1,s.2.1,s.2.2.2.1,s.2.2.2.2.1,())))
def b2S(x:(((List Int)×Unit)×a9G)):Option Z3:= (b2Q (x.2.1,x.2.2)).bind fun y1=> cond (!y1) (some (1,x.1)) ((a8p x.2.1.2.2.2.2.2.2.2.2.1).bind fun y2=> (a0t (x.1,wrap .u64 x.2.1.1,3)).bind fun y3=> (a0t (y3.2,wrap .u64 x.2.1.2.1,5)).bind fun y4=> (a0t (y4.2,wrap .u64 y2,5)).bind fun y5=> (show Option d2b from cond (x.2.1.1==2) ((a0t (y5.2,wrap .u64 x.2.1.2.2.1,3)).bind fun y6=> some (x.2.2,y2,y6.2,x.2.1,())) (cond (x.2.1.1==3) ((a7p (y5.2,x.2.1)).bind fun y7=> some (x.2.2,y2,y7,x.2.1,())) (cond (x.2.1.1==4) ((a0t (y5.2,wrap .u64 (wrap .i64 (x.2.1.2.2.2.2.1-1)),10)).bind fun y8=> (a3E (y8.2,a07 3 x.2.1.2.2.2.2.2.2.1,8)).bind fun y9=> (a7p (y9,x.2.1)).bind fun y10=> some (x.2.2,y2,y10,x.2.1,())) (cond (x.2.1.1==5) ((a0t (y5.2,wrap .u64 (x.2.1.2.2.2.2.2.2.2.1.length:Int),2)).bind fun y11=> (a0e a9r (x.2.2,y2,0,y11.2,x.2.1,())).bind fun w16=> some (w16.1,w16.2.1,w16.2.2.1,w16.2.2.2.1,())) (some (x.2.2,y2,y5.2,x.2.1,())))))).bind fun z17=> (a3E (z17.2.2.1,z17.2.2.2.1.2.2.2.2.2.2.2.2.1,z17.2.1)).bind fun y18=> (a5u z17.2.2.2.1.1).bind fun y19=> cond y19 ((b1u (y18,z17.2.2.2.1.2.2.2.2.2.2.2.2.2.1,z17.1,(z17.2.2.2.1.2.2.2.2.2.2.2.2.1.length:Int),z17.2.2.2.1.2.2.2.2.2.2.2.2.2.2.1)).bind fun y20=> some (0,y20.2)) (some (0,y18)))
def c1B:FSem:=⟨[.r false (.b Q1),.v Q19,.v QI],[.v QI],b2S⟩
def H58:Hints:=⟨[(2086902,[.sv 2 QI,.sv 7 QI,.sv 8 QI,.box pinned Q1,.ptr 0 pinned [],.vp 4 Q19],[(.exit 1,[.sv 2 QI,.sv 7 QI,.box pinned Q1,.ptr 0 pinned [],.vp 4 Q19])])],[(127,[(.normal,[.sv 2 QI,.sv 7 QI,.box pinned Q1,.ptr 0 pinned [],.vp 4 Q19])])],[]⟩
def b2T(x:((List Int)×Unit)):Option Z3:= some ((x.1.length:Int),x)
def b7m:FSem:=⟨[.r false (.b Q1)],[.v QI],b2T⟩
def e2P:Hints:=⟨[],[],[]⟩
def b1v(x:a9G):Option Int:= (b2S (([],()),x.1,x.2)).bind fun y1=> (b2T y1.2).bind fun y2=> some y2.1
def c0o:FSem:=⟨[.v Q19,.v QI],[.v QI],b1v⟩
def H99:Hints:=⟨[],[],[]⟩
def a6q(s:((List Int)×(Int×Int×b1M×b3z))):Option (((List Int)×(Int×Int×b1M×b3z)) ⊕ b3z):= cond (decide (s.2.2.1<(s.2.2.2.1.length:Int))) (cond ((decide (0≤s.2.2.1))&&(decide (s.2.2.1<(s.2.2.2.1.length:Int)))) (cond ((decide (0≤s.2.2.1))&&(decide (s.2.2.1<(s.2.2.2.1.length:Int)))) ((b1t ((a02 s.2.2.2.1 (a01 s.2.2.1) (0,0,0,0,0,[],a00 3 0,[],[],(0,[],()),[],())).1,s.1,a02 s.2.2.2.1 (a01 s.2.2.1) (0,0,0,0,0,[],a00 3 0,[],[],(0,[],()),[],()))).bind fun y6=> cond (y6.2 != 0) (some (.inl (s.1,s.2.1,wrap .i64 (s.2.2.1+1),s.2.2.2.1,s.2.2.2.2.1,s.2.2.2.2.2.1,()))) ((b1v (y6.1,(s.1.length:Int))).bind fun y7=> (show Option ((List Int)×(Int×Int×Int×Bool×b1M×d2d))from cond (s.2.1==0) (some (s.1,s.2.1,s.2.2.1,y7,true,s.2.2.2.1,s.2.2.2.2.1,s.2.2.2.2.2.1,y6.1,())) (some (s.1,s.2.1,s.2.2.1,y7,decide (y7<s.2.1),s.2.2.2.1,s.2.2.2.2.1,s.2.2.2.2.2.1,y6.1,()))).bind fun z8=> cond z8.2.2.2.2.1 (some (.inl (z8.1,z8.2.2.2.1,wrap .i64 (z8.2.2.1+1),z8.2.2.2.2.2.1,z8.2.2.2.2.2.2.1,z8.2.2.2.2.2.2.2.2.1,()))) (some (.inl (z8.1,z8.2.1,wrap .i64 (z8.2.2.1+1),z8.2.2.2.2.2.1,z8.2.2.2.2.2.2.1,z8.2.2.2.2.2.2.2.1,()))))) none) none) (some (.inr (s.2.2.2.2.1,s.2.2.2.2.2.1,())))
def a3o(x:((List Int)×Int)):Option a9G:= (show Option ((List Int)×c1e)from cond (decide ((x.1.length:Int)<1)) (some (x.1,x.2,true,(0,0,0,0,0,[],a00 3 0,[],[],(0,[],()),[],()),())) (cond (decide ((x.1.length:Int) > 4096)) (some (x.1,x.2,true,(0,0,0,0,0,[],a00 3 0,[],[],(0,[],()),[],()),())) (cond (decide (x.2<0)) (some (x.1,x.2,true,(0,0,0,0,0,[],a00 3 0,[],[],(0,[],()),[],()),())) (some (x.1,x.2,decide (x.2 > 3),(0,0,0,0,0,[],a00 3 0,[],[],(0,[],()),[],()),()))))).bind fun z1=> cond z1.2.2.1 (some ((0,0,0,0,0,[],a00 3 0,[],[],(0,[],()),[],()),1)) ((a0G z1.1).bind fun y2=> cond (!y2) (some ((0,0,0,0,0,[],a00 3 0,[],[],(0,[],()),[],()),6)) ((a7x z1.1).bind fun y3=> (b4A (z1.1,y3)).bind fun y4=> (b4f (y4.1,z1.2.1)).bind fun y5=> (a0e a6q (z1.1,0,0,y5,z1.2.2.2.1,(0,0,0,0,0,[],a00 3 0,[],[],(0,[],()),[],()),())).bind fun w9=> some (w9.2.1,0)))
def c0p:FSem:=⟨[.v QL,.v QI],[.v Q19,.v QI],a3o⟩
def H41:Hints:=⟨[(2042,[.sv 0 QL,.sv 10 QI,.sv 11 QI,.own 8 8 Q19,.box 4 Q19,.box 9 Q19,.ptr 4 4 [],.ptr 9 9 []],[(.exit 0,[.box 4 Q19,.box 9 Q19,.ptr 4 4 [],.ptr 9 9 []])])],[(6,[(.normal,[.sv 0 QL,.sv 1 QI,.sv 30 .bool,.box 4 Q19,.ptr 4 4 []])]),(261415,[(.normal,[.sv 0 QL,.sv 10 QI,.sv 11 QI,.sv 14 QI,.sv 78 .bool,.own 8 8 Q19,.box 4 Q19,.box 9 Q19,.box 12 Q19,.ptr 4 4 [],.ptr 9 9 [],.ptr 12 12 []])])],[(12,[.q,.v,.q,.q,.q,.v,.q,.v,.q,.q,.v,.v,.v,.v,.q,.w [0,12],.x])]⟩
def b3F(x:((List Int)×Int)):Option Bool:= (b8b ()).bind fun y1=> cond (!y1) (some false) (cond (decide ((x.1.length:Int) > 60)) (some true) ((a3Z (x.1,x.2)).bind fun y2=> (a3o (x.1,x.2)).bind fun y3=> (a8P (y2.1,y3.1)).bind fun y4=> cond y4 (some (y2.2==y3.2)) (some false)))
def b8O:FSem:=⟨[.v QL,.v QI],[.v .bool],b3F⟩
def H14:Hints:=⟨[],[],[]⟩
end Go.Ab
namespace Go.Ab
open Go.Proofs
set_option maxRecDepth 100000
theorem c2m:Tryz.prog.follows .mixedOrders=true:=by kernel_rfl
theorem e2Q:d5C Tryz.prog c8b=true:=by kernel_rfl
theorem e2R:d5D Tryz.prog c8X=true:=by kernel_rfl
theorem e2S:d5E Tryz.prog c8b d2e=true:=by kernel_rfl
theorem laidOut:laidOutB Tryz.prog=true:=by kernel_rfl
@[reducible] def Ok0(n:Nat)(s:FSem):Prop:=a4W Tryz.prog G0 n s∧b2k Tryz.prog n
theorem cxo{a:List (Nat×FSem)}{b:List (Nat×Ty)}{c d:List Nat}(h:∀p∈a,Ok0 p.1 p.2):CxOk Tryz.prog (c3G a b c d):=
 CxOk.of (CxTy.of (tab:=c8b) (l:=d2e) (q:=c8X) (fun _=>rfl) (fun _=>rfl) (fun _=>rfl) e2Q e2R e2S) (fun _=>rfl) h
theorem fo (a : List (Nat × FSem)) (b : List (Nat × Ty)) (c d : List Nat) (H : Hints) {n : Nat} {fn : Func} {e : Code} {s : FSem} (h : ∀ p ∈ a, Ok0 p.1 p.2) (hf : Tryz.prog.funcs[n]? = some fn) (hb : fn.body = some e := by rfl) (hk : d4R fn e H s = true := by kernel_rfl) (hn : (fn.name == "runtime.NumGoroutine") = false := by kernel_rfl) (hq : ∀ x, c0D (c3G a b c d) H fn s.ps s.rs x = s.F x := by intro x; kernel_rfl) : Ok0 n s :=
 ⟨a4W.of (cxo h) c2m hf hb hk hq,⟨_,_,hf,hb,hn⟩⟩
theorem d4W:Ok0 90 b1k:=
 fo [] [] [0,2,4] [] H90 a0 Tryz.func90
theorem d5I:Ok0 173 b4L:=
 fo [] [] [0,2] [] d9T a0 Tryz.func173
theorem d7y:Ok0 91 b4M:=
 fo [(173,b4L)] [] [0,1,4,5,6,8] [] H91 (a1 d5I a0) Tryz.func91
theorem d7V:Ok0 174 a1r:=
 ⟨a4W.of (cx:=b2q) (cxo a0) c2m Tryz.func174 rfl (by kernel_rfl) d7R,⟨_,_,Tryz.func174,rfl,by kernel_rfl⟩⟩
theorem d7z:Ok0 92 b2r:=
 fo [(174,a1r)] [] [0,2,3,5] [] H92 (a1 d7V a0) Tryz.func92
theorem d2g:Ok0 217 b2t:=
 fo [] [] [0,1,4,6] [] d9U a0 Tryz.func217
theorem d2h:Ok0 218 b5r:=
 fo [] [] [0,1,4,6] [3] d9V a0 Tryz.func218
theorem d5J:Ok0 281 b4N:=
 fo [] [] [0,2] [1] d9W a0 Tryz.func281
theorem d2i:Ok0 219 b3U:=
 fo [(281,b4N)] [] [0,2] [] d9X (a1 d5J a0) Tryz.func219
theorem d5K:Ok0 149 c1g:=
 fo [(217,b2t),(218,b5r),(219,b3U)] [] [0,1,2,6,8,11,27,41,62] [4] d9Y (a1 d2g (a1 d2h (a1 d2i a0))) Tryz.func149
theorem d2j:Ok0 87 a1l:=
 ⟨a4W.of (cx:=d7v) (cxo a0) c2m Tryz.func87 rfl (by kernel_rfl) d9Z,⟨_,_,Tryz.func87,rfl,by kernel_rfl⟩⟩
theorem d7W:Ok0 87 a2w:=
 ⟨a4W.of (cx:=d5G) (cxo a0) c2m Tryz.func87 rfl (by kernel_rfl) d7S,⟨_,_,Tryz.func87,rfl,by kernel_rfl⟩⟩
theorem d7A:Ok0 229 a1j:=
 ⟨a4W.of (cx:=d3T) (cxo a0) c2m Tryz.func229 rfl (by kernel_rfl) d7w,⟨_,_,Tryz.func229,rfl,by kernel_rfl⟩⟩
theorem d5L:Ok0 169 b6g:=
 fo [(87,a2w),(229,a1j)] [] [0,1,9,11,13,15] [3] e0b (a1 d7W (a1 d7A a0)) Tryz.func169
theorem d5M:Ok0 150 b6h:=
 fo [] [] [0,1,4,7,9,12,16] [2] e0c a0 Tryz.func150
theorem d5N:Ok0 251 b6i:=
 fo [] [] [0,2,4] [] e0d a0 Tryz.func251
theorem d5O:Ok0 230 b6j:=
 fo [(251,b6i)] [] [0,1,4,5,6,7] [] e0e (a1 d5N a0) Tryz.func230
theorem d2k:Ok0 255 b1l:=
 fo [] [] [0,2] [] e0f a0 Tryz.func255
theorem d2l:Ok0 253 a8j:=
 fo [(255,b1l)] [] [0,2,4] [] e0g (a1 d2k a0) Tryz.func253
theorem d5P:Ok0 254 b1N:=
 fo [] [] [0,1,2,6,7,8,9,10] [] e0h a0 Tryz.func254
theorem d7X:Ok0 231 c0f:=
 fo [(217,b2t),(253,a8j),(254,b1N),(255,b1l)] [] [0,1,2,6,7,8,9,10] [] e0i (a1 d2g (a1 d2l (a1 d5P (a1 d2k a0)))) Tryz.func231
theorem d2m:Ok0 258 b3V:=
 fo [] [] [0,2] [] e0j a0 Tryz.func258
theorem d2n:Ok0 256 b0e:=
 fo [(258,b3V)] [] [0,2,4] [] e0k (a1 d2m a0) Tryz.func256
theorem d5Q:Ok0 257 b3A:=
 fo [] [] [0,1,2,3,8,9,10,11,12] [7] e0l a0 Tryz.func257
theorem d2o:Ok0 232 b3W:=
 fo [(218,b5r),(256,b0e),(257,b3A),(258,b3V)] [] [0,1,2,6,7,8,9,10,11] [5] e0m (a1 d2h (a1 d2n (a1 d5Q (a1 d2m a0)))) Tryz.func232
theorem d2p:Ok0 263 b2u:=
 fo [] [] [0,2] [] e0n a0 Tryz.func263
theorem d5R:Ok0 259 b2v:=
 fo [(263,b2u)] [] [0,2,4] [] e0o (a1 d2p a0) Tryz.func259
theorem d5S:Ok0 261 b7W:=
 fo [(281,b4N)] [(15,.pair QI Q8),(16,.pair QI Q8)] [0,2,3] [1] e0p (a1 d5J a0) Tryz.func261
theorem d5T:Ok0 296 b2w:=
 fo [] [] [0,2] [] e0q a0 Tryz.func296
theorem d2q:Ok0 262 a5K:=
 fo [(296,b2w)] [] [0,2,3,4,5] [] e0r (a1 d5T a0) Tryz.func262
theorem d5U:Ok0 264 a9f:=
 fo [(262,a5K),(296,b2w)] [] [0,1,4,5,6,7,8,13,22] [] e0s (a1 d2q (a1 d5T a0)) Tryz.func264
theorem d7Y:Ok0 233 c1h:=
 fo [(87,a1l),(219,b3U),(259,b2v),(261,b7W),(262,a5K),(263,b2u),(264,a9f)] [] [0,1,4,5,6,9,10,11,12,13] [] e0t (a1 d2j (a1 d2i (a1 d5R (a1 d5S (a1 d2q (a1 d2p (a1 d5U a0))))))) Tryz.func233
theorem d7Z:Ok0 170 c2O:=
 fo [(87,a1l),(150,b6h),(230,b6j),(231,c0f),(232,b3W),(233,c1h)] [] [0,1,4,5,6,11,22,37,67] [] e0u (a1 d2j (a1 d5M (a1 d5O (a1 d7X (a1 d2o (a1 d7Y a0)))))) Tryz.func170
theorem d5V:Ok0 220 b7X:=
 fo [] [] [0,1,4] [] e0v a0 Tryz.func220
theorem c8c:Ok0 209 a8I:=
 fo [(220,b7X)] [] [0,1,2,6,7,8] [] e0w (a1 d5V a0) Tryz.func209
theorem d5W:Ok0 189 b7Y:=
 fo [(209,a8I)] [] [0,1,2,6,7,9] [3] e0x (a1 c8c a0) Tryz.func189
theorem d5X:Ok0 234 b4O:=
 fo [(220,b7X)] [] [0,1,2,6,8] [] e0y (a1 d5V a0) Tryz.func234
theorem d8a:Ok0 197 c1i:=
 fo [] [] [0,2] [] e0z a0 Tryz.func197
theorem d8b:Ok0 198 c0g:=
 fo [] [] [0,2] [] e0A a0 Tryz.func198
theorem d5Y:Ok0 110 b4Q:=
 fo [(197,c1i),(198,c0g)] [] [0,1,4] [] e0B (a1 d8a (a1 d8b a0)) Tryz.func110
theorem c8d:Ok0 122 a7U:=
 fo [(110,b4Q)] [] [0,2,3,5] [] e0C (a1 d5Y a0) Tryz.func122
theorem d5Z:Ok0 272 b7Z:=
 fo [(122,a7U)] [] [0,2] [] e0D (a1 c8d a0) Tryz.func272
theorem d6a:Ok0 274 b1O:=
 fo [] [] [0,2] [] e0E a0 Tryz.func274
theorem d2r:Ok0 275 b3Y:=
 fo [] [] [0,2] [] e0F a0 Tryz.func275
theorem d6b:Ok0 276 b8a:=
 fo [(275,b3Y)] [] [0,2,3,7] [] e0G (a1 d2r a0) Tryz.func276
theorem d8c:Ok0 299 c2P:=
 fo [(274,b1O),(275,b3Y),(276,b8a)] [] [0,1,4,5] [] e0H (a1 d6a (a1 d2r (a1 d6b a0))) Tryz.func299
theorem d2s:Ok0 273 b5s:=
 fo [(299,c2P)] [] [0,1,4,5,7] [] e0I (a1 d8c a0) Tryz.func273
theorem d6c:Ok0 208 b6m:=
 fo [(189,b7Y),(209,a8I),(234,b4O),(272,b7Z),(273,b5s)] [] [0,1,2,3,8,9,10,11,12] [4] e0J (a1 d5W (a1 c8c (a1 d5X (a1 d5Z (a1 d2s a0))))) Tryz.func208
theorem d8d:Ok0 284 c2Q:=
 fo [(273,b5s)] [] [0,2,3,4,5,6] [] e0K (a1 d2s a0) Tryz.func284
theorem d8e:Ok0 235 b8E:=
 fo [(272,b7Z),(273,b5s),(284,c2Q)] [] [0,2,3] [] e0L (a1 d5Z (a1 d2s (a1 d8d a0))) Tryz.func235
theorem d8f:Ok0 171 c1j:=
 fo [(208,b6m),(209,a8I),(234,b4O),(235,b8E)] [(14,.pair QI Q2),(40,.pair QI Q2)] [0,1,2,3,9,11,12,13,15,17,18] [] e0M (a1 d6c (a1 c8c (a1 d5X (a1 d8e a0)))) Tryz.func171
theorem d7B:Ok0 86 b9v:=
 fo [(90,b1k),(91,b4M),(92,b2r),(149,c1g),(169,b6g),(170,c2O),(171,c1j)] [] [0,1,2,7,8,11,12,13] [5] H86 (a1 d4W (a1 d7y (a1 d7z (a1 d5K (a1 d5L (a1 d7Z (a1 d8f a0))))))) Tryz.func86
theorem d6d:Ok0 126 b6n:=
 fo [] [] [0,2] [] e0N a0 Tryz.func126
theorem d8g:Ok0 188 c2R:=
 fo [(169,b6g)] [] [0,2] [1] e0O (a1 d5L a0) Tryz.func188
theorem d8h:Ok0 103 c1k:=
 fo [(90,b1k),(126,b6n),(149,c1g),(150,b6h),(188,c2R),(189,b7Y)] [] [0,1,4,5] [2] e0P (a1 d4W (a1 d6d (a1 d5K (a1 d5M (a1 d8g (a1 d5W a0)))))) Tryz.func103
theorem d8i:Ok0 294 b7a:=
 fo [] [] [0,1,3] [] e0Q a0 Tryz.func294
theorem d8j:Ok0 252 c0h:=
 fo [(294,b7a)] [] [0,1,4,5,8,12,20,32] [] e0R (a1 d8i a0) Tryz.func252
theorem d8k:Ok0 190 c1l:=
 fo [(251,b6i),(252,c0h)] [] [0,1,2,6,7,8,10,11] [] e0S (a1 d5N (a1 d8j a0)) Tryz.func190
theorem d8l:Ok0 191 c0i:=
 fo [(217,b2t),(253,a8j),(254,b1N),(255,b1l)] [] [0,1,2,3,8,9,10,12,13] [] e0T (a1 d2g (a1 d2l (a1 d5P (a1 d2k a0)))) Tryz.func191
theorem d8m:Ok0 192 c2S:=
 fo [(218,b5r),(256,b0e),(257,b3A),(258,b3V)] [] [0,1,2,6,7,8,9,10,11] [5] e0U (a1 d2h (a1 d2n (a1 d5Q (a1 d2m a0)))) Tryz.func192
theorem d8n:Ok0 193 a9J:=
 ⟨a4W.ofR (cx:=d5H) (cxo (a1 d2j (a1 d2i (a1 d5R (a1 d5S (a1 d2q (a1 d2p (a1 d5U a0)))))))) c2m (r:=d7x) ⟨d6N,d6O⟩ Tryz.func193 rfl (by kernel_rfl) d7U,⟨_,_,Tryz.func193,rfl,by kernel_rfl⟩⟩
theorem d8o:Ok0 194 c2T:=
 fo [(173,b4L)] [] [0,1,4,5,6,8] [] e0W (a1 d5I a0) Tryz.func194
theorem d8p:Ok0 104 c4L:=
 fo [(190,c1l),(191,c0i),(192,c2S),(193,a9J),(194,c2T)] [] [0,1,4,5,6,7,10,24,28,40,54,79] [2] e0X (a1 d8k (a1 d8l (a1 d8m (a1 d8n (a1 d8o a0))))) Tryz.func104
theorem d7C:Ok0 45 c1m:=
 fo [(103,c1k),(104,c4L)] [] [0,1,4,5,6,7] [2] H45 (a1 d8h (a1 d8p a0)) Tryz.func45
theorem d8q:Ok0 121 c6V:=
 fo [(45,c1m)] [] [0,1,4,5,6] [2] e0Y (a1 d7C a0) Tryz.func121
theorem d6e:Ok0 128 b0F:=
 fo [] [] [0,1] [] e0Z a0 Tryz.func128
theorem c4U:Ok0 123 a4n:=
 fo [(128,b0F)] [] [0,1,2,6,7] [] e1a (a1 d6e a0) Tryz.func123
theorem d6f:Ok0 124 b2D:=
 fo [(123,a4n)] [] [0,1,2] [] e1b (a1 c4U a0) Tryz.func124
theorem d8r:Ok0 125 b8F:=
 fo [(122,a7U),(123,a4n),(124,b2D)] [] [0,1,4,6] [3] e1c (a1 c8d (a1 c4U (a1 d6f a0))) Tryz.func125
theorem d8s:Ok0 277 b3l:=
 fo [(128,b0F)] [] [0,1,4] [] e1d (a1 d6e a0) Tryz.func277
theorem d8t:Ok0 210 c4M:=
 fo [(123,a4n),(274,b1O),(275,b3Y),(276,b8a),(277,b3l)] [] [0,1,2,6,8,10,11,12] [] e1e (a1 c4U (a1 d6a (a1 d2r (a1 d6b (a1 d8s a0))))) Tryz.func210
theorem d8u:Ok0 127 c2U:=
 fo [(122,a7U),(123,a4n),(208,b6m),(209,a8I),(210,c4M)] [] [0,1,2,3,4,10,11,12,13,14,16] [6] e1f (a1 c8d (a1 c4U (a1 d6c (a1 c8c (a1 d8t a0))))) Tryz.func127
theorem e2T:Ok0 51 c6W:=
 fo [(121,c6V),(122,a7U),(123,a4n),(124,b2D),(125,b8F),(126,b6n),(127,c2U)] [] [0,1,2,6,7,9,13,37,39,41,43] [4] H51 (a1 d8q (a1 c8d (a1 c4U (a1 d6f (a1 d8r (a1 d6d (a1 d8u a0))))))) Tryz.func51
theorem d8v:Ok0 172 b5c:=
 fo [] [] [0,2] [] e1g a0 Tryz.func172
theorem d7D:Ok0 89 b9w:=
 fo [(51,c6W),(172,b5c)] [(5,.pair (.list true (.int .u8)) Q0)] [0,1,4] [2] H89 (a1 e2T (a1 d8v a0)) Tryz.func89
theorem d8w:Ok0 236 c0j:=
 fo [] [] [0,1,4,5,6,7] [] e1h a0 Tryz.func236
theorem d8x:Ok0 175 c1n:=
 fo [(230,b6j),(236,c0j)] [] [0,2,3,4,5,6,7,8] [] e1i (a1 d5O (a1 d8w a0)) Tryz.func175
theorem d6g:Ok0 287 b3B:=
 fo [] [] [0,2] [] e1j a0 Tryz.func287
theorem d8y:Ok0 285 b7d:=
 fo [(287,b3B)] [] [0,2,3,5,6,7,8] [] e1k (a1 d6g a0) Tryz.func285
theorem d8z:Ok0 286 b3m:=
 fo [] [] [0,1,2,6,7,8,9,10] [] e1l a0 Tryz.func286
theorem d8A:Ok0 237 b6o:=
 fo [(87,a1l),(253,a8j),(285,b7d),(286,b3m),(287,b3B)] [] [0,1,4,5,6,7,8,9,10,11,12,13] [] e1m (a1 d2j (a1 d2l (a1 d8y (a1 d8z (a1 d6g a0))))) Tryz.func237
theorem d8B:Ok0 238 b8G:=
 fo [] [] [0,2,3,5,6,7,8,9,10,11] [] e1n a0 Tryz.func238
theorem d8C:Ok0 239 b8H:=
 fo [(110,b4Q)] [] [0,1,4,5,6,8,9,10,11,13,14] [] e1o (a1 d5Y a0) Tryz.func239
theorem d6h:Ok0 177 b4R:=
 fo [(237,b6o),(238,b8G),(239,b8H)] [] [0,1,2,6,7,8,9,10,11] [] e1p (a1 d8A (a1 d8B (a1 d8C a0))) Tryz.func177
theorem d8D:Ok0 240 c2V:=
 fo [(256,b0e)] [] [0,1,2,6,7,8,9,10,11,12,13] [] e1q (a1 d2n a0) Tryz.func240
theorem d8E:Ok0 288 c1p:=
 fo [] [] [0] [] e1r a0 Tryz.func288
theorem d8F:Ok0 241 c2X:=
 fo [(232,b3W),(288,c1p)] [] [0,1,5,7,8,11,12,13,15] [] e1s (a1 d2o (a1 d8E a0)) Tryz.func241
theorem d8G:Ok0 178 c1q:=
 fo [(177,b4R),(232,b3W),(240,c2V),(241,c2X)] [] [0,3,4,5,7,8,9] [] e1t (a1 d6h (a1 d2o (a1 d8D (a1 d8F a0)))) Tryz.func178
theorem d8H:Ok0 176 b4z:=
 fo [(177,b4R)] [] [0,1,2,3,6,7,8] [] e1u (a1 d6h a0) Tryz.func176
theorem e2U:Ok0 93 b6p:=
 fo [(175,c1n),(176,b4z),(178,c1q)] [(5,.list true Q19)] [0,1,4,6,8,9] [67] H93 (a1 d8x (a1 d8H (a1 d8G a0))) Tryz.func93
theorem d7E:Ok0 40 b9x:=
 fo [(86,b9v),(89,b9w),(90,b1k),(91,b4M),(92,b2r),(93,b6p)] [] [0,1,5,6,7,9,10,14,15] [] H40 (a1 d7B (a1 d7D (a1 d4W (a1 d7y (a1 d7z (a1 e2U a0)))))) Tryz.func40
theorem d4X:Ok0 88 b1o:=
 fo [] [] [0,1,4,5] [] H88 a0 Tryz.func88
theorem e2V:Ok0 39 c2Y:=
 fo [(40,b9x),(45,c1m),(86,b9v),(88,b1o),(89,b9w)] [] [0,2,3,4,6] [] H39 (a1 d7E (a1 d7C (a1 d7B (a1 d4X (a1 d7D a0))))) Tryz.func39
theorem b5y:Ok0 179 a5T:=
 fo [] [] [0,2] [] e1v a0 Tryz.func179
theorem a9L:Ok0 94 a1k:=
 fo [(179,a5T)] [] [0,2,3] [] H94 (a1 b5y a0) Tryz.func94
theorem d4Y:Ok0 96 b4e:=
 fo [] [] [0,2,3,4,5] [] H96 a0 Tryz.func96
theorem d8I:Ok0 180 c6Y:=
 fo [] [] [0,2,3] [] e1w a0 Tryz.func180
theorem d7F:Ok0 95 c1r:=
 fo [(94,a1k),(96,b4e),(180,c6Y)] [] [0,1,4,5,6,7] [] H95 (a1 a9L (a1 d4Y (a1 d8I a0))) Tryz.func95
theorem d2t:Ok0 242 a9n:=
 fo [(94,a1k)] [] [0,1,4,5,6,7,8,9] [] e1x (a1 a9L a0) Tryz.func242
theorem d6i:Ok0 228 c1s:=
 fo [] [] [0,2] [] e1y a0 Tryz.func228
theorem d6j:Ok0 289 b8c:=
 fo [(228,c1s)] [] [0,1,4,5,6] [] e1z (a1 d6i a0) Tryz.func289
theorem d8J:Ok0 243 b5d:=
 fo [(242,a9n),(289,b8c)] [] [0,1,4,5,6] [] e1A (a1 d2t (a1 d6j a0)) Tryz.func243
theorem d8K:Ok0 181 b7f:=
 fo [(242,a9n),(243,b5d)] [] [0,2,3,4,5,6,7,8] [] e1B (a1 d2t (a1 d8J a0)) Tryz.func181
theorem d6k:Ok0 311 b9y:=
 fo [] [] [0,2] [] e1C a0 Tryz.func311
theorem d8L:Ok0 309 c1t:=
 fo [(311,b9y)] [] [0,2,3,4,5,6] [] e1D (a1 d6k a0) Tryz.func309
theorem d8M:Ok0 312 c4N:=
 fo [] [] [0,1,4,5] [] e1E a0 Tryz.func312
theorem d8N:Ok0 310 b6q:=
 fo [(312,c4N)] [] [0,1,2,6,7,8,9] [] e1F (a1 d8M a0) Tryz.func310
theorem d8O:Ok0 303 b3o:=
 fo [(94,a1k),(309,c1t),(310,b6q),(311,b9y)] [] [0,1,4,5,6,7,8,9,10,11,12,13,14] [] e1G (a1 a9L (a1 d8L (a1 d8N (a1 d6k a0)))) Tryz.func303
theorem d8P:Ok0 304 b5e:=
 fo [] [] [0,2,3,4,5,6,7,8] [] e1H a0 Tryz.func304
theorem d8Q:Ok0 167 c9b:=
 fo [] [] [0,2] [] e1I a0 Tryz.func167
theorem d8R:Ok0 168 c6Z:=
 fo [] [] [0,2] [] e1J a0 Tryz.func168
theorem d7G:Ok0 85 c1v:=
 fo [(167,c9b),(168,c6Z)] [] [0,1,4] [] H85 (a1 d8Q (a1 d8R a0)) Tryz.func85
theorem d8S:Ok0 305 b5f:=
 fo [(85,c1v)] [] [0,1,4,5,6,7,8,9,10,11,12,13] [] e1K (a1 d7G a0) Tryz.func305
theorem d8T:Ok0 290 b6r:=
 fo [(303,b3o),(304,b5e),(305,b5f)] [] [0,1,2,6,7,8,9,10,11,12] [] e1L (a1 d8O (a1 d8P (a1 d8S a0))) Tryz.func290
theorem d6l:Ok0 244 b6s:=
 fo [(290,b6r)] [] [0,1,2,7,8,9,10] [] e1M (a1 d8T a0) Tryz.func244
theorem d8U:Ok0 182 c4O:=
 fo [(244,b6s)] [] [0,1,2,3,8,10] [] e1N (a1 d6l a0) Tryz.func182
theorem d8V:Ok0 245 b8I:=
 fo [(94,a1k),(228,c1s)] [] [0,1,2,6,7,8,9,10,11,12,13,30,35] [] e1O (a1 a9L (a1 d6i a0)) Tryz.func245
theorem d2u:Ok0 200 b1p:=
 fo [] [] [0,1,4,5] [3] e1P a0 Tryz.func200
theorem d6m:Ok0 268 b2J:=
 fo [] [] [0,1,2,6,7,8,9] [5] e1Q a0 Tryz.func268
theorem d2v:Ok0 247 b0o:=
 fo [(94,a1k),(200,b1p),(268,b2J)] [] [0,1,2,6,7,8,9] [5] e1R (a1 a9L (a1 d2u (a1 d6m a0))) Tryz.func247
theorem d8W:Ok0 291 b7h:=
 fo [] [] [0] [] e1S a0 Tryz.func291
theorem d8X:Ok0 246 b8K:=
 fo [(247,b0o),(289,b8c),(291,b7h)] [] [0,1,5,6,7,8,9,10,11,12] [] e1T (a1 d2v (a1 d6j (a1 d8W a0))) Tryz.func246
theorem d8Y:Ok0 183 c4P:=
 fo [(244,b6s),(245,b8I),(246,b8K),(247,b0o)] [] [0,3,4,5,7,8,9,11] [] e1U (a1 d6l (a1 d8V (a1 d8X (a1 d2v a0)))) Tryz.func183
theorem e2W:Ok0 97 c2Z:=
 fo [(181,b7f),(182,c4O),(183,c4P)] [] [0,1,4,5,7,8] [] H97 (a1 d8K (a1 d8U (a1 d8Y a0))) Tryz.func97
theorem c8e:Ok0 199 a7g:=
 fo [] [] [0,1,4,5] [] e1V a0 Tryz.func199
theorem d6n:Ok0 265 b3C:=
 fo [] [] [0,2] [1] e1W a0 Tryz.func265
theorem d2w:Ok0 201 b0q:=
 fo [(265,b3C)] [] [0,2,3] [] e1X (a1 d6n a0) Tryz.func201
theorem d6o:Ok0 113 b8d:=
 fo [(199,a7g),(200,b1p),(201,b0q)] [] [0,1,4,7,9,12,30,60] [2] e1Y (a1 c8e (a1 d2u (a1 d2w a0))) Tryz.func113
theorem d2x:Ok0 114 b1q:=
 fo [] [] [0,2] [] e1Z a0 Tryz.func114
theorem d8Z:Ok0 184 c3a:=
 fo [] [] [0,2,3] [] e2a a0 Tryz.func184
theorem d6p:Ok0 267 b0H:=
 fo [(179,a5T),(199,a7g)] [] [0,1,2,6,7,8,9] [] e2b (a1 b5y (a1 c8e a0)) Tryz.func267
theorem d9a:Ok0 248 b6t:=
 fo [(94,a1k),(199,a7g),(267,b0H)] [] [0,1,2,6,7,8,9] [] e2c (a1 a9L (a1 c8e (a1 d6p a0))) Tryz.func248
theorem d6q:Ok0 269 b2K:=
 fo [(265,b3C)] [(15,.pair QI Q8),(16,.pair QI Q8)] [0,2,3] [1] e2d (a1 d6n a0) Tryz.func269
theorem d6r:Ok0 297 b9A:=
 fo [] [] [0,2] [] e2e a0 Tryz.func297
theorem d2y:Ok0 270 a7i:=
 fo [(297,b9A)] [] [0,2,3,4] [] e2f (a1 d6r a0) Tryz.func270
theorem d9b:Ok0 298 c4Q:=
 fo [] [] [0,2,3,6] [] e2g a0 Tryz.func298
theorem d6s:Ok0 271 b0I:=
 fo [(270,a7i),(297,b9A),(298,c4Q)] [] [0,1,4,5,6,7] [] e2h (a1 d2y (a1 d6r (a1 d9b a0))) Tryz.func271
theorem d9c:Ok0 249 b7i:=
 fo [(94,a1k),(201,b0q),(269,b2K),(270,a7i),(271,b0I)] [] [0,1,4,5,6,7,8,9,10,11] [] e2i (a1 a9L (a1 d2w (a1 d6q (a1 d2y (a1 d6s a0))))) Tryz.func249
theorem d9d:Ok0 185 c4R:=
 fo [(242,a9n),(247,b0o),(248,b6t),(249,b7i)] [] [0,1,4,5,6,7,8,9,10,11,12,13,14,17,32,67] [2] e2j (a1 d2t (a1 d2v (a1 d9a (a1 d9c a0)))) Tryz.func185
theorem d6t:Ok0 224 c3I:=
 fo [] [] [0,1,4] [] e2k a0 Tryz.func224
theorem c8f:Ok0 202 a7l:=
 fo [(224,c3I)] [] [0,1,2,6,7,8] [] e2l (a1 d6t a0) Tryz.func202
theorem d2z:Ok0 203 b0s:=
 fo [] [] [0,2] [] e2m a0 Tryz.func203
theorem d6u:Ok0 115 b4S:=
 fo [(202,a7l),(203,b0s)] [] [0,1,2,6,7,8] [3] e2n (a1 c8f (a1 d2z a0)) Tryz.func115
theorem c8g:Ok0 135 b2N:=
 fo [(85,c1v)] [] [0,2,3,4] [] e2o (a1 d7G a0) Tryz.func135
theorem d9e:Ok0 141 c9c:=
 fo [] [] [0,2,3] [] e2p a0 Tryz.func141
theorem d6v:Ok0 279 c1w:=
 fo [(141,c9c),(179,a5T)] [] [0,2] [] e2q (a1 d9e (a1 b5y a0)) Tryz.func279
theorem d9f:Ok0 306 c0k:=
 fo [(179,a5T),(203,b0s),(279,c1w)] [] [0,1,4,5] [] e2r (a1 b5y (a1 d2z (a1 d6v a0))) Tryz.func306
theorem d2A:Ok0 293 b2O:=
 fo [(306,c0k)] [] [0,1,4,5,6] [] e2s (a1 d9f a0) Tryz.func293
theorem d6w:Ok0 278 b4T:=
 fo [(135,b2N),(293,b2O)] [] [0,1,4] [] e2t (a1 c8g (a1 d2A a0)) Tryz.func278
theorem d6x:Ok0 212 b3D:=
 fo [(94,a1k),(115,b4S),(202,a7l),(278,b4T)] [] [0,1,2,3,8,9,10,11,12] [4] e2u (a1 a9L (a1 d6u (a1 c8f (a1 d6w a0)))) Tryz.func212
theorem d9g:Ok0 292 c0l:=
 fo [(293,b2O)] [] [0,2,3,4] [] e2v (a1 d2A a0) Tryz.func292
theorem d9h:Ok0 250 c4S:=
 fo [(278,b4T),(292,c0l),(293,b2O)] [] [0,2,3] [] e2w (a1 d6w (a1 d9g (a1 d2A a0))) Tryz.func250
theorem d9i:Ok0 186 b8L:=
 fo [(94,a1k),(202,a7l),(212,b3D),(224,c3I),(250,c4S)] [(15,.pair QI Q2),(48,.pair QI Q2)] [0,1,2,3,9,11,12,13,14,16,17] [] e2x (a1 a9L (a1 c8f (a1 d6x (a1 d6t (a1 d9h a0))))) Tryz.func186
theorem e2X:Ok0 98 c0m:=
 fo [(94,a1k),(95,c1r),(96,b4e),(113,b8d),(114,b1q),(184,c3a),(185,c4R),(186,b8L)] [] [0,1,2,7,8,10,11,12,13,14,20,25,33,47] [5] H98 (a1 a9L (a1 d7F (a1 d4Y (a1 d6o (a1 d2x (a1 d8Z (a1 d9d (a1 d9i a0)))))))) Tryz.func98
theorem d9j:Ok0 100 b6v:=
 fo [] [] [0,1,4,5] [] e2y a0 Tryz.func100
theorem d9k:Ok0 101 b8M:=
 fo [(88,b1o)] [] [0,1,4] [2,3] e2z (a1 d4X a0) Tryz.func101
theorem d7H:Ok0 42 b4U:=
 fo [(88,b1o),(100,b6v),(101,b8M)] [] [0,1,4] [2,3] H42 (a1 d4X (a1 d9j (a1 d9k a0))) Tryz.func42
theorem d9l:Ok0 112 c3b:=
 fo [] [] [0,28,33,41,55] [1] e2A a0 Tryz.func112
theorem d9m:Ok0 266 c1x:=
 fo [] [] [0,2] [] e2B a0 Tryz.func266
theorem d9n:Ok0 204 b7j:=
 fo [(94,a1k),(179,a5T),(266,c1x)] [] [0,1,2,6,7,8,9,10,11,12] [] e2C (a1 a9L (a1 b5y (a1 d9m a0))) Tryz.func204
theorem d9o:Ok0 205 b6x:=
 fo [(94,a1k),(179,a5T),(199,a7g),(267,b0H)] [] [0,1,2,3,8,9,10,11,12] [] e2D (a1 a9L (a1 b5y (a1 c8e (a1 d6p a0)))) Tryz.func205
theorem d9p:Ok0 206 b8N:=
 fo [(94,a1k),(179,a5T),(200,b1p),(268,b2J)] [] [0,1,2,6,7,8,9,10] [5] e2E (a1 a9L (a1 b5y (a1 d2u (a1 d6m a0)))) Tryz.func206
theorem d9q:Ok0 207 b7k:=
 fo [(94,a1k),(179,a5T),(201,b0q),(269,b2K),(270,a7i),(271,b0I)] [] [0,1,4,5,6,7,8,9,10,11] [] e2F (a1 a9L (a1 b5y (a1 d2w (a1 d6q (a1 d2y (a1 d6s a0)))))) Tryz.func207
theorem d9r:Ok0 116 c4T:=
 fo [(204,b7j),(205,b6x),(206,b8N),(207,b7k)] [] [0,2,3,4,5,8,19,32,57] [1] e2G (a1 d9n (a1 d9o (a1 d9p (a1 d9q a0)))) Tryz.func116
theorem d9s:Ok0 117 d0X:=
 fo [(179,a5T)] [] [0,1,4,5,6,7] [] e2H (a1 b5y a0) Tryz.func117
theorem e2Y:Ok0 49 c1y:=
 fo [(42,b4U),(94,a1k),(112,c3b),(113,b8d),(114,b1q),(115,b4S),(116,c4T),(117,d0X)] [] [0,1,4,5,6,7,8,9,10,11,12] [2] H49 (a1 d7H (a1 a9L (a1 d9l (a1 d6o (a1 d2x (a1 d6u (a1 d9r (a1 d9s a0)))))))) Tryz.func49
theorem d9t:Ok0 134 c1z:=
 fo [(49,c1y)] [] [0,1,4,5,6] [2] e2I (a1 e2Y a0) Tryz.func134
theorem c4V:Ok0 136 a5n:=
 fo [] [] [0,1,2,6,7] [] e2J a0 Tryz.func136
theorem d2B:Ok0 138 b0v:=
 fo [(136,a5n)] [] [0,1,2,6] [] e2K (a1 c4V a0) Tryz.func138
theorem d9u:Ok0 137 b7l:=
 fo [(135,b2N),(136,a5n),(138,b0v)] [] [0,1,4] [3] e2L (a1 c8g (a1 c4V (a1 d2B a0))) Tryz.func137
theorem d9v:Ok0 280 b5g:=
 fo [] [] [0,1,4,5] [] e2M a0 Tryz.func280
theorem d9w:Ok0 213 c1A:=
 fo [(94,a1k),(136,a5n),(203,b0s),(279,c1w),(280,b5g)] [] [0,1,2,6,7,8,9] [] e2N (a1 a9L (a1 c4V (a1 d2z (a1 d6v (a1 d9v a0))))) Tryz.func213
theorem d9x:Ok0 139 c0n:=
 fo [(135,b2N),(136,a5n),(138,b0v),(202,a7l),(212,b3D),(213,c1A)] [] [0,1,2,3,4,10,11,12,13,14,15] [6] e2O (a1 c8g (a1 c4V (a1 d2B (a1 c8f (a1 d6x (a1 d9w a0)))))) Tryz.func139
theorem e2Z:Ok0 58 c1B:=
 fo [(114,b1q),(134,c1z),(135,b2N),(136,a5n),(137,b7l),(138,b0v),(139,c0n)] [] [0,1,2,6,7,8,32,39,44,59] [4] H58 (a1 d2x (a1 d9t (a1 c8g (a1 c4V (a1 d9u (a1 d2B (a1 d9x a0))))))) Tryz.func58
theorem d9y:Ok0 187 b7m:=
 fo [] [] [0,2] [] e2P a0 Tryz.func187
theorem e3a:Ok0 99 c0o:=
 fo [(58,c1B),(187,b7m)] [(6,.pair (.list true (.int .u8)) .unit),(7,.pair (.list true (.int .u8)) .unit)] [0,1,4,5] [2] H99 (a1 e2Z (a1 d9y a0)) Tryz.func99
theorem e3b:Ok0 41 c0p:=
 fo [(94,a1k),(95,c1r),(96,b4e),(97,c2Z),(98,c0m),(99,c0o)] [] [0,1,5,6,7,8,10,11,13,14] [] H41 (a1 a9L (a1 d7F (a1 d4Y (a1 e2W (a1 e2X (a1 e3a a0)))))) Tryz.func41
theorem e3c:Ok0 14 b8O:=
 fo [(39,c2Y),(40,b9x),(41,c0p),(42,b4U)] [] [0,1,4,6,8] [] H14 (a1 e2V (a1 d7E (a1 e3b (a1 d7H a0)))) Tryz.func14
end Go.Ab
namespace Go.Ab
open IntKind(wrap)
section
variable {σ β:Type} {f:σ→Option (σ ⊕ β)}
theorem b9B:∀(n m:Nat)(s:σ){b:β},a3L f n s=some b→a3L f (n+m) s=some b
 |0,_,s,b,h=>by simp[a3L]at h
 |n+1,m,s,b,h=>by
  rw[show n+1+m=n+m+1 from by omega];simp only[a3L]at h⊢
  split at h
  cases h;rename_i s' hs;exact b9B n m s' h;exact h
theorem c7a{n m:Nat}{s:σ}{b b':β}(h:a3L f n s=some b)(h':a3L f m s=some b'):b=b':=by
 have h1:=b9B n m s h;have h2:=b9B m n s h';rw[Nat.add_comm,h1]at h2;exact Option.some.inj h2
theorem d4Z{n:Nat}{s:σ}{b:β}(h:a3L f n s=some b):b9g f s=some b:=by
 unfold b9g;have hx:∃n b,a3L f n s=some b:=⟨n,b,h⟩;rw[dif_pos hx];exact congrArg some (c7a hx.choose_spec.choose_spec h)
theorem c6h{n:Nat}{s:σ}{b:β}(h:a3L f n s=some b):a0e f s=some b:=by
 unfold a0e;split;rename_i b' hb;rw[c7a hb h];exact d4Z h
theorem c7b{s:σ}(h:∀n,a3L f n s=none):a0e f s=none:=by
 unfold a0e;rw[h 400];show b9g f s=none;unfold b9g;rw[dif_neg]
 rintro⟨n,b,hn⟩
 rw[h n]at hn;cases hn
theorem a0j{s:σ}{b:β}(h:f s=some (.inr b)):a0e f s=some b:=c6h (n:=1) (by simp[a3L,h])
theorem a0p{s s':σ}(h:f s=some (.inl s')):a0e f s=a0e f s':=by
 by_cases hx:∃n b,a3L f n s'=some b
 obtain⟨n,b,hb⟩:=hx;rw[c6h hb];exact c6h (n:=n+1) (by simp[a3L,h,hb])
 ·have h':∀n,a3L f n s'=none:=fun n=>by
   cases hn:a3L f n s' with
   |none=>rfl
   |some b=>exact absurd ⟨n,b,hn⟩ hx
  rw[c7b h'];refine c7b fun n=>?_
  cases n with
  |zero=>rfl
  |succ n=>simp[a3L,h,h' n]
theorem d0Y(S:Nat→σ)(n:Nat){b:β}(hstep:∀i,i<n→f (S i)=some (.inl (S (i+1))))(hexit:f (S n)=some (.inr b)):∀(k:Nat),k≤n→a0e f (S (n-k))=some b
 |0,_=>a0j hexit
 |k+1,hk=>by
  rw[a0p (hstep (n-(k+1)) (by omega)),show n-(k+1)+1=n-k from by omega];exact d0Y S n hstep hexit k (by omega)
theorem a0I(S:Nat→σ)(n:Nat){b:β}(hstep:∀i,i<n→f (S i)=some (.inl (S (i+1))))(hexit:f (S n)=some (.inr b)):a0e f (S 0)=some b:=by
 have:=d0Y S n hstep hexit n (a47 _)
 rwa [a45]at this
end
theorem a0k{n:Int}(h:-9223372036854775808≤n∧n≤9223372036854775807):wrap .i64 n=n:=by
 simp only[wrap,IntKind.bits,IntKind.signed]
 simp
 split<;>omega
theorem a1p{n:Int}(h:0≤n∧n<18446744073709551616):wrap .u64 n=n:=by
 simp only[wrap,IntKind.bits,IntKind.signed]
 simp
 omega
theorem c6i(x y:Int):a2v x y=min x y:=by
 simp only[a2v,cond_eq_ite,dT]
 split<;>omega
theorem d0Z(x y:Int):a1D x y=max x y:=by
 simp only[a1D,cond_eq_ite,dT]
 split<;>omega
theorem b0X{n:Nat}(h:n<2147483648):lim n=true:=by simp[lim,h]
end Go.Ab
namespace Go.Ab
open IntKind(wrap)
section
variable {α A σ β:Type}
def a3p(g:A→α→A ⊕ β):List α→A→A ⊕ β
 | [],a=>.inl a
 |x::r,a=>match g a x with
  |.inl a'=>a3p g r a'
  |.inr b=>.inr b
def b2U(fin:A→β):A ⊕ β→β
 |.inl a=>fin a
 |.inr b=>b
theorem b8P{f:σ→Option (σ ⊕ β)}(l:List α)(S:Nat→A→σ)(g:A→α→A ⊕ β)(I:Nat→A→Prop)(fin:A→β)
  (hstep:∀i (h:i<l.length) a,I i a→(∀a',g a l[i]=.inl a'→f (S i a)=some (.inl (S (i+1) a'))∧I (i+1) a')∧(∀b,g a l[i]=.inr b→f (S i a)=some (.inr b)))
  (hexit:∀a,I l.length a→f (S l.length a)=some (.inr (fin a))):∀(k i:Nat)(a:A),i+k=l.length→I i a→a0e f (S i a)=some (b2U fin (a3p g (l.drop i) a))
 |0,i,a,hi,ha=>by
  obtain rfl:i=l.length:=by omega
  rw[a19];exact a0j (hexit a ha)
 |k+1,i,a,hi,ha=>by
  have hlt:i<l.length:=by omega
  rw[a06 hlt];obtain⟨h1,h2⟩:=hstep i hlt a ha;simp only[a3p];cases hg:g a l[i]with
  |inl a'=>
   obtain⟨h3,h4⟩:=h1 a' hg;rw[a0p h3];exact b8P l S g I fin hstep hexit k (i+1) a' (by omega) h4
  |inr b=>exact a0j (h2 b hg)
theorem a2M{f:σ→Option (σ ⊕ β)}(l:List α)(S:Nat→A→σ)(g:A→α→A ⊕ β)(I:Nat→A→Prop)(fin:A→β)
  (hstep:∀i (h:i<l.length) a,I i a→(∀a',g a l[i]=.inl a'→f (S i a)=some (.inl (S (i+1) a'))∧I (i+1) a')∧(∀b,g a l[i]=.inr b→f (S i a)=some (.inr b)))
  (hexit:∀a,I l.length a→f (S l.length a)=some (.inr (fin a))){a:A}(ha:I 0 a):a0e f (S 0 a)=some (b2U fin (a3p g l a)):=by
 have:=b8P l S g I fin hstep hexit l.length 0 a (by omega) ha
 rwa [a17]at this
theorem a1U{f:σ→Option (σ ⊕ β)}(l:List α)(S:Nat→σ)(p:α→Bool){bt bf:β}
  (hgood:∀i (h:i<l.length),p l[i]=true→f (S i)=some (.inl (S (i+1))))(hbad:∀i (h:i<l.length),p l[i]=false→f (S i)=some (.inr bf))
  (hexit:f (S l.length)=some (.inr bt)):a0e f (S 0)=some (bif l.all p then bt else bf):=by
 have h:=a2M (A:=Unit) l (fun i _=>S i) (fun _ x=>bif p x then .inl ()else .inr bf) (fun _ _=>True) (fun _=>bt) (fun i h a _=>?_) (fun _ _=>hexit) (a:=()) trivial
 ·rw[h];congr 1;clear h hgood hbad hexit
  induction l with
  |nil=>rfl
  |cons x l ih=>
   simp only[a3p,List.all_cons];cases p x with
   |true=>simpa using ih
   |false=>rfl
 ·cases hp:p l[i]with
  |true=>exact⟨fun a' _=>⟨hgood i h hp,trivial⟩,fun b hb=>by simp[hp]at hb⟩
  |false=>exact⟨fun a' ha=>by simp[hp]at ha,fun b hb=>by simp[hp]at hb;rw[←hb];exact hbad i h hp⟩
end
theorem a0d{α:Type}{l:List α}{i:Nat}(h:i<l.length):a0r l (i:Int)=some l[i]:=by
 unfold a0r;rw[if_pos (Int.natCast_nonneg i),tN,lG h]
def a0b(x:Int):Bool:=decide (-1073741824≤x)&&decide (x<1073741824)
theorem a3F{x:Int}:a0b x=true↔-1073741824≤x∧x<1073741824:=by simp[a0b]
def short{α:Type}(l:List α):Prop:=l.length<1000000
theorem a0c{i:Nat}(h:i<1000000):wrap .i64 ((i:Int)+1)=((i+1:Nat):Int):=by
 rw[a0k (by omega)];omega
theorem dlt{i n:Nat}(h:i<n):decide ((i:Int)<(n:Int))=true:=by simp;omega
theorem dge(n:Nat):decide ((n:Int)<(n:Int))=false:=by simp
theorem a4M{l:List Int}(hl:short l):a2O l=some (l.all a0b):=by
 unfold a2O
 have:=a1U (f:=a3s) l (fun i=>(l,(l.length:Int),(i:Int),())) a0b (bt:=Sum.inl ()) (bf:=Sum.inr (false,()))
  (fun i h hp=>by
   have hp:=a3F.1 hp;have h1:decide (l[i] < -1073741824)=false:=by simp;omega
   have h2:decide (l[i]≥1073741824)=false:=by simp;omega
   simp only[a3s,dlt h,cT,a0d h,oB,h1,h2,cF,a0c (a21 h hl)])
  (fun i h hp=>by
   simp only[a3s,dlt h,cT,a0d h,oB]
   by_cases h1:l[i] < -1073741824
   simp[h1];have h2:l[i]≥1073741824:=by
    simp only[a0b,a20,decide_eq_false_iff_not]at hp;omega
   simp[h1,h2])
  (by simp[a3s])
 simp only[nZ]at this;rw[this];cases l.all a0b<;>rfl
end Go.Ab
namespace Go.Ab
theorem a7Y(x:Int):a6F x=some (a0b x):=by
 unfold a6F a0b
 by_cases h:-1073741824≤x<;>simp[h]
theorem a9M(x:Int):a8W x=some (a0b x):=by
 unfold a8W a0b
 by_cases h:-1073741824≤x<;>simp[h]
theorem a6M(x:Int):a7T x=some (a0b x):=by
 unfold a7T a0b
 by_cases h:-1073741824≤x<;>simp[h]
theorem a2P(x:Int):a3A x=some (a0b x):=by
 unfold a3A a0b
 by_cases h:-1073741824≤x<;>simp[h]
theorem b8Q(x:Int):a6D x=some (a0b x):=by
 unfold a6D a0b
 by_cases h:-1073741824≤x<;>simp[h]
theorem a5F{l:List Int}(hl:short l):a3t l=some (l.all a0b):=by
 unfold a3t
 have:=a1U (f:=a4x) l (fun i=>(l,(l.length:Int),(i:Int),())) a0b (bt:=Sum.inl ()) (bf:=Sum.inr (false,()))
  (fun i h hp=>by simp[a4x,a0d h,a7Y,hp,a0c (a21 h hl),h])
  (fun i h hp=>by simp[a4x,a0d h,a7Y,hp,h])
  (by simp[a4x])
 simp only[nZ]at this;rw[this];cases l.all a0b<;>rfl
theorem b7n{l:List Int}(hl:short l):a5Z l=some (l.all a0b):=by
 unfold a5Z
 have:=a1U (f:=a5y) l (fun i=>(l,(l.length:Int),(i:Int),())) a0b (bt:=Sum.inl ()) (bf:=Sum.inr (false,()))
  (fun i h hp=>by simp[a5y,a0d h,a9M,hp,a0c (a21 h hl),h])
  (fun i h hp=>by simp[a5y,a0d h,a9M,hp,h])
  (by simp[a5y])
 simp only[nZ]at this;rw[this];cases l.all a0b<;>rfl
theorem b6y{l:List Int}(hl:short l):a6V l=some (l.all a0b):=by
 unfold a6V
 have:=a1U (f:=a4X) l (fun i=>(l,(l.length:Int),(i:Int),())) a0b (bt:=Sum.inl ()) (bf:=Sum.inr (false,()))
  (fun i h hp=>by simp[a4X,a0d h,a6M,hp,a0c (a21 h hl),h])
  (fun i h hp=>by simp[a4X,a0d h,a6M,hp,h])
  (by simp[a4X])
 simp only[nZ]at this;rw[this];cases l.all a0b<;>rfl
theorem a0A{l:List Int}(hl:short l):a0G l=some (l.all a0b):=by
 unfold a0G
 have:=a1U (f:=a7a) l (fun i=>(l,(i:Int),())) a0b (bt:=Sum.inl ()) (bf:=Sum.inr (false,()))
  (fun i h hp=>by simp[a7a,a0d h,a2P,hp,a0c (a21 h hl),h])
  (fun i h hp=>by simp[a7a,a0d h,a2P,hp,h])
  (by simp[a7a])
 simp only[nZ]at this;rw[this];cases l.all a0b<;>rfl
theorem a8Q{l:List Int}(hl:short l):a3j l=some (l.all a0b):=by
 have e:b6Z=a3s:=rfl
 have:a3j l=a2O l:=by unfold a3j a2O;rw[e]
 rw[this,a4M hl]
def b5z(x:Int):Bool:=decide (-32768≤x)&&decide (x<32768)
def a6r(c:List Int)(s:Int):Bool:=decide (1≤c.length)&&(decide (c.length≤32)&&(decide (0≤s)&&(decide (s≤15)&&c.all b5z)))
theorem b1w{c:List Int}{s:Int}(hl:short c):a6i (c,s)=some (a6r c s):=by
 have:=a1U (f:=a5j) c (fun i=>(c,(c.length:Int),(i:Int),())) b5z (bt:=Sum.inl ()) (bf:=Sum.inr (false,()))
  (fun i h hp=>by
   simp only[b5z,bA,dT]at hp;have h1:¬ c[i] < -32768:=by omega
   have h2:¬ c[i]≥32768:=by omega
   simp[a5j,a0d h,a0c (a21 h hl),h,h1,h2])
  (fun i h hp=>by
   simp only[b5z,a20,decide_eq_false_iff_not]at hp
   by_cases h1:c[i] < -32768
   simp[a5j,a0d h,h,h1];have h2:c[i]≥32768:=by omega
   simp[a5j,a0d h,h,h1,h2])
  (by simp[a5j])
 simp only[nZ]at this;unfold a6i a6r
 by_cases h1:c.length<1
 have:((c.length:Nat):Int)<1:=by omega
 have:¬ 1≤c.length:=by omega
 simp[*]
 by_cases h2:c.length > 32
 have:((c.length:Nat):Int) > 32:=by omega
 have:¬ ((c.length:Nat):Int)<1:=by omega
 have:¬ c.length≤32:=by omega
 simp[*]
 by_cases h3:s<0
 have:¬ ((c.length:Nat):Int) > 32:=by omega
 have:¬ ((c.length:Nat):Int)<1:=by omega
 have:¬ 0≤s:=by omega
 simp[*]
 by_cases h4:s > 15
 have:¬ ((c.length:Nat):Int) > 32:=by omega
 have:¬ ((c.length:Nat):Int)<1:=by omega
 have:¬ s≤15:=by omega
 simp[*];have g1:¬ ((c.length:Nat):Int) > 32:=by omega
 have g2:¬ ((c.length:Nat):Int)<1:=by omega
 simp only[g1,g2,h3,h4,decide_false,cF,oB,this];have g3:1≤c.length:=by omega
 have g4:c.length≤32:=by omega
 have g5:0≤s:=by omega
 have g6:s≤15:=by omega
 simp only[g3,g4,g5,g6,decide_true,a16];cases c.all b5z<;>rfl
theorem a6s{c:List Int}{s:Int}(hl:short c):a4c (c,s)=some (a6r c s):=by
 have:=a1U (f:=a3B) c (fun i=>(c,s,(i:Int),())) b5z (bt:=Sum.inl (c,s,())) (bf:=Sum.inr (false,()))
  (fun i h hp=>by
   simp only[b5z,bA,dT]at hp;have h1:¬ c[i] < -32768:=by omega
   have h2:¬ c[i]≥32768:=by omega
   simp[a3B,a0d h,a0c (a21 h hl),h,h1,h2])
  (fun i h hp=>by
   simp only[b5z,a20,decide_eq_false_iff_not]at hp
   by_cases h1:c[i] < -32768
   simp[a3B,a0d h,h,h1];have h2:c[i]≥32768:=by omega
   simp[a3B,a0d h,h,h1,h2])
  (by simp[a3B])
 simp only[nZ]at this;unfold a4c a6r;rw[this];cases hc:c.all b5z with
 |false=>simp
 |true=>
  simp only[cT,oB,Bool.and_true]
  by_cases h1:1≤c.length
  by_cases h2:c.length≤32
  by_cases h3:0≤s
  have g1:((c.length:Nat):Int)≥1:=by omega
  have g2:((c.length:Nat):Int)≤32:=by omega
  simp[*];have g1:((c.length:Nat):Int)≥1:=by omega
  have g2:((c.length:Nat):Int)≤32:=by omega
  have g3:¬ s≥0:=by omega
  simp[*];have g1:((c.length:Nat):Int)≥1:=by omega
  have g2:¬ ((c.length:Nat):Int)≤32:=by omega
  simp[*];have g1:¬ ((c.length:Nat):Int)≥1:=by omega
  simp only[g1,h1,decide_false,cF,a33]
def b9C(x:Int):Bool:=decide (-64≤x)&&decide (x≤64)
def a7H(lag:Int)(t:List Int):Bool:=decide (2≤lag)&&(decide (lag≤1024)&&t.all b9C)
theorem b8e{t:List Int}{lag:Int}(ht:t.length=3):b0d (lag,t)=some (a7H lag t):=by
 have:=a1U (f:=a6E) t (fun i=>(t,(i:Int),())) b9C (bt:=Sum.inl ()) (bf:=Sum.inr (false,()))
  (fun i h hp=>by
   simp only[b9C,bA,dT]at hp;have h0:(i:Int)<3:=by omega
   have h1:¬ t[i] < -64:=by omega
   have h2:¬ t[i] > 64:=by omega
   simp[a6E,a0d h,a0c (show i<1000000 by omega),h0,h1,h2])
  (fun i h hp=>by
   simp only[b9C,a20,decide_eq_false_iff_not]at hp;have h0:(i:Int)<3:=by omega
   by_cases h1:t[i] < -64
   simp[a6E,a0d h,h0,h1];have h2:t[i] > 64:=by omega
   simp[a6E,a0d h,h0,h1,h2])
  (by rw[ht];simp[a6E])
 simp only[nZ]at this;unfold b0d a7H
 by_cases h1:lag<2
 have:¬ 2≤lag:=by omega
 simp[*]
 by_cases h2:lag > 1024
 have:¬ lag≤1024:=by omega
 simp[*];have g1:2≤lag:=by omega
 have g2:lag≤1024:=by omega
 simp only[h1,h2,g1,g2,decide_false,decide_true,cF,oB,this,a16];cases t.all b9C<;>rfl
theorem b3G{t:List Int}{lag:Int}(ht:t.length=3):a6J (lag,t)=some (a7H lag t):=by
 have:=a1U (f:=a4I) t (fun i=>(lag,(i:Int),t,())) b9C (bt:=Sum.inl (lag,())) (bf:=Sum.inr (false,()))
  (fun i h hp=>by
   simp only[b9C,bA,dT]at hp;have h0:(i:Int)<3:=by omega
   have h1:¬ t[i] < -64:=by omega
   have h2:¬ t[i] > 64:=by omega
   simp[a4I,a0d h,a0c (show i<1000000 by omega),h0,h1,h2])
  (fun i h hp=>by
   simp only[b9C,a20,decide_eq_false_iff_not]at hp;have h0:(i:Int)<3:=by omega
   by_cases h1:t[i] < -64
   simp[a4I,a0d h,h0,h1];have h2:t[i] > 64:=by omega
   simp[a4I,a0d h,h0,h1,h2])
  (by rw[ht];simp[a4I])
 simp only[nZ]at this;unfold a6J a7H;rw[this];cases hc:t.all b9C with
 |false=>simp
 |true=>
  simp only[cT,oB,Bool.and_true]
  by_cases h1:2≤lag<;>simp[h1]
def a3G(s:Int×(Int×Unit)):Bool:=decide (1≤s.1)&&(decide (s.1≤32)&&(decide (0≤s.2.1)&&decide (s.2.1≤8)))
def a5G(l:List (Int×Int×Unit)):Bool:=decide (l.length≤3)&&l.all a3G
theorem b3H(s:Int×(Int×Unit)):a8G s=some (a3G s):=by
 unfold a8G a3G
 by_cases h1:1≤s.1<;>by_cases h2:s.1≤32<;>by_cases h3:0≤s.2.1<;>simp[h1,h2,h3]
theorem b2V(s:Int×(Int×Unit)):a7X s=some (a3G s):=by
 unfold a7X a3G
 by_cases h1:1≤s.1<;>by_cases h2:s.1≤32<;>by_cases h3:0≤s.2.1<;>simp[h1,h2,h3]
theorem b6z{l:List (Int×Int×Unit)}(hl:short l):a8V l=some (a5G l):=by
 have:=a1U (f:=a7Q) l (fun i=>(l,(l.length:Int),(i:Int),())) a3G (bt:=Sum.inl ()) (bf:=Sum.inr (false,()))
  (fun i h hp=>by simp[a7Q,a0d h,b3H,hp,a0c (a21 h hl),h])
  (fun i h hp=>by simp[a7Q,a0d h,b3H,hp,h])
  (by simp[a7Q])
 simp only[nZ]at this;unfold a8V a5G
 by_cases h:l.length≤3
 have g:¬ ((l.length:Nat):Int) > 3:=by omega
 simp only[g,h,decide_false,decide_true,cF,this,oB,a16];cases l.all a3G<;>rfl;have g:((l.length:Nat):Int) > 3:=by omega
 simp[g,h]
theorem b2W{l:List (Int×Int×Unit)}(hl:short l):a6f l=some (a5G l):=by
 have:=a1U (f:=a5B) l (fun i=>(l,(i:Int),())) a3G (bt:=Sum.inl (l,())) (bf:=Sum.inr (false,()))
  (fun i h hp=>by simp[a5B,a0d h,b2V,hp,a0c (a21 h hl),h])
  (fun i h hp=>by simp[a5B,a0d h,b2V,hp,h])
  (by simp[a5B])
 simp only[nZ]at this;unfold a6f a5G;rw[this];cases l.all a3G with
 |false=>simp
 |true=>
  by_cases h:l.length≤3
  have g:((l.length:Nat):Int)≤3:=by omega
  simp[g,h];have g:¬ ((l.length:Nat):Int)≤3:=by omega
  simp only[cT,oB,g,h,decide_false,a33]
end Go.Ab
namespace Go.Ab
open IntKind(wrap)
@[reducible] def W(n:Int):Int:=wrap .i64 n
theorem a8f(n:Int):wrap .i64 n=Int.bmod n 18446744073709551616:=by
 simp only[wrap,IntKind.bits,IntKind.signed,Int.bmod]
 simp
 split<;>split<;>omega
theorem b7o{n:Int}(h:a0b n=true):W n=n:=by
 have:=a3F.1 h
 exact a0k (by omega)
def a4i(guess:List Int→Int):List Int→List Int→Option (List Int)
 | [],out=>some out
 |x::r,out=>bif a0b (W (x+guess out))then a4i guess r (out++[W (x+guess out)])else none
def a9s{β:Type}(guess:List Int→Int)(bad:β)(out:List Int)(x:Int):List Int ⊕ β:=bif a0b (W (x+guess out))then .inl (out++[W (x+guess out)])else .inr bad
theorem a8s{β:Type}(guess:List Int→Int)(bad:β)(fin:List Int→β):∀(l out:List Int),b2U fin (a3p (a9s guess bad) l out)=match a4i guess l out with|some r=>fin r|none=>bad
 | [],out=>rfl
 |x::l,out=>by
  simp only[a3p,a9s,a4i];cases a0b (W (x+guess out))with
  |true=>exact a8s guess bad fin l _
  |false=>rfl
theorem b5A(guess:List Int→Int):∀(l out r:List Int),out.all a0b=true→a4i guess l out=some r→r.all a0b=true∧r.length=out.length+l.length
 | [],out,r,h,e=>by simp only[a4i,sj]at e;subst e;exact⟨h,by simp⟩
 |x::l,out,r,h,e=>by
  simp only[a4i]at e;cases hw:a0b (W (x+guess out))with
  |true=>
   rw[hw]at e;obtain⟨h1,h2⟩:=b5A guess l _ r (by simp[h,hw]) e;exact⟨h1,by rw[h2];simp;omega⟩
  |false=>rw[hw]at e;cases e
def a1J:Option (List Int)→List Int×Int
 |some r=>(r,0)
 |none=>([],6)
def atB(out:List Int)(i:Nat):Int:=out.getD (out.length-i) 0
def a3v(o:Nat)(out:List Int):Int:=match o with
 | 1=>atB out 1
 | 2=>2*atB out 1-atB out 2
 | 3=>3*atB out 1-3*atB out 2+atB out 3
 | 4=>4*atB out 1-6*atB out 2+4*atB out 3-atB out 4
 |_=>0
theorem b5B{out:List Int}{i:Nat}(hi:1≤i)(h:i≤out.length)(hs:short out):a1u ((i:Int),out)=some (atB out i,out):=by
 unfold a1u;have hs:out.length<1000000:=hs;have e:wrap .i64 (((out.length:Nat):Int)-(i:Int))=((out.length-i:Nat):Int):=by rw[a0k (by omega)];omega
 simp only[e,a0d (show out.length-i<out.length by omega),oB,atB];rw[lD,lG (by omega)];rfl
theorem c6j{out:List Int}{o:Nat}(ho:o≤4)(h:o≤out.length)(hs:short out):∃g,b1m (out,(o:Int))=some g∧∀x,W (x+g)=W (x+a3v o out):=by
 have g1:=fun(h':1≤out.length)=>b5B (i:=1) (by omega) h' hs;have g2:=fun(h':2≤out.length)=>b5B (i:=2) (by omega) h' hs;have g3:=fun(h':3≤out.length)=>b5B (i:=3) (by omega) h' hs;have g4:=fun(h':4≤out.length)=>b5B (i:=4) (by omega) h' hs;simp only[Int.natCast_one,Int.cast_ofNat_Int]at g1 g2 g3 g4;unfold b1m;have h5:o=0∨o=1∨o=2∨o=3∨o=4:=by omega
 rcases h5 with rfl|rfl|rfl|rfl|rfl;exact⟨0,rfl,fun x=>rfl⟩;exact⟨_,by simp[g1 (by omega)];rfl,fun x=>rfl⟩;refine⟨_,by simp[g1 (by omega),g2 (by omega)];rfl,fun x=>?_⟩;simp only[W,a8f,a3v,a25,a38,a39];refine⟨_,by simp[g1 (by omega),g2 (by omega),g3 (by omega)];rfl,fun x=>?_⟩;simp only[W,a8f,a3v,a25,a38,a39,a40];refine⟨_,by simp[g1 (by omega),g2 (by omega),g3 (by omega),g4 (by omega)];rfl,fun x=>?_⟩;simp only[W,a8f,a3v,a25,a38,a39,a40]
theorem a0q{n:Nat}(h:n<1000000):lim n=true:=b0X (by omega)
theorem c7y{warm rest:List Int}{o:Nat}(ho:o≤4)(hw:warm.length=o)(hr:rest.length<100000):
  b2B (warm,rest,(o:Int))=some (a1J (bif warm.all a0b&&rest.all a0b then a4i (a3v o) rest warm else none)):=by
 have hsw:short warm:=by unfold short;omega
 have hsr:short rest:=by unfold short;omega
 unfold b2B;have h1:¬ (o:Int)<0:=by omega
 have h2:¬ (o:Int) > 4:=by omega
 have h3:(((warm.length:Nat):Int) != (o:Int))=false:=by simp;omega
 simp only[h1,h2,h3,decide_false,cF,oB,a8Q hsw,a8Q hsr];cases hw1:warm.all a0b with
 |false=>rfl
 |true=>
  simp only[bT,cF,oB,a16];cases hw2:rest.all a0b with
  |false=>rfl
  |true=>
   simp only[bT,cF,cT,a0q hsw]
   have:=a2M (f:=a9l) rest (fun i out=>((o:Int),rest,(rest.length:Int),(i:Int),out,())) (a9s (a3v o) (Sum.inr ((6:Int),([]:List Int),())))
    (fun i out=>o≤out.length∧out.length≤o+i) (fun out=>Sum.inl (out,()))
    (fun i h out hI=>by
     have hlt:i<1000000:=by omega
     have hso:short out:=by unfold short;omega
     obtain⟨g,hg,hgw⟩:=c6j ho hI.1 hso;have e:wrap .i64 (rest[i]+g)=W (rest[i]+a3v o out):=hgw _;have hone:a3j [W (rest[i]+a3v o out)]=some (a0b (W (rest[i]+a3v o out))):=by rw[a8Q (by simp[short])];simp
     simp only[a9l,dlt h,cT,a0d h,oB,hg,e,hone,a9s];cases hb:a0b (W (rest[i]+a3v o out))with
     |true=>
      simp only[cT,bT,cF,a0q (show out.length+1<1000000 by omega),a0c hlt];refine⟨fun a' ha=>?_,fun b hb=>(by cases hb)⟩;simp only[Sum.inl.injEq]at ha;subst ha;exact⟨rfl,by simp;omega,by simp;omega⟩
     |false=>
      refine⟨fun a' ha=>(by cases ha),fun b hb=>?_⟩;simp only[cF,Sum.inr.injEq]at hb;subst hb;rfl)
    (fun out _=>by simp[a9l]) (a:=warm) ⟨by omega,by omega⟩
   simp only[nZ,a8s]at this;rw[this];cases a4i (a3v o) rest warm<;>rfl
def b4V(o:Nat):List Int:=match o with
 | 1=>[1]
 | 2=>[2,-1]
 | 3=>[3,-3,1]
 | 4=>[4,-6,4,-1]
 |_=>[]
theorem d3U{o:Nat}(ho:o≤4):b6w (o:Int)=some (b4V o):=by
 have h5:o=0∨o=1∨o=2∨o=3∨o=4:=by omega
 rcases h5 with rfl|rfl|rfl|rfl|rfl<;>rfl
theorem d0l{o:Nat}(ho:o≤4):(b4V o).length=o:=by
 have h5:o=0∨o=1∨o=2∨o=3∨o=4:=by omega
 rcases h5 with rfl|rfl|rfl|rfl|rfl<;>rfl
def c1C(o:Nat)(out:List Int)(x:Int):Nat→Int
 |0=>x
 |k+1=>W (c1C o out x k+W ((b4V o).getD k 0*atB out (k+1)))
theorem c4W{rest out:List Int}{o:Nat}{i x:Int}(ho:o≤4)(h:o≤out.length)(hs:short out)(hx:a0b x=true):
  a0e a5d (rest,(o:Int),b4V o,i,x,(0:Int),out,())=some (rest,(o:Int),b4V o,i,W (x+a3v o out),out,()):=by
 have hs:out.length<1000000:=hs
 have:=a0I (f:=a5d) (fun k=>(rest,(o:Int),b4V o,i,c1C o out x k,(k:Int),out,()))
  o (b:=(rest,(o:Int),b4V o,i,c1C o out x o,out,())) (fun k hk=>by
   have e1:wrap .i64 (((out.length:Nat):Int)-1)=((out.length-1:Nat):Int):=by rw[a0k (by omega)];omega
   have e2:wrap .i64 (((out.length-1:Nat):Int)-(k:Int))=((out.length-(k+1):Nat):Int):=by rw[a0k (by omega)];omega
   have h1:(0:Int)≤((out.length-(k+1):Nat):Int):=by omega
   have h2:((out.length-(k+1):Nat):Int)<((out.length:Nat):Int):=by omega
   have h3:k<(b4V o).length:=by rw[d0l ho];exact hk
   have h4:(b4V o)[k]=(b4V o).getD k 0:=by rw[lD,lG h3];rfl
   simp only[a5d,dlt hk,cT,a0d h3,oB,e1,e2,h1,h2,decide_true,a08,tN,a0c (show k<1000000 by omega),c1C,atB,h4])
  (by simp[a5d])
 simp only[nZ,c1C]at this;rw[this];have key:c1C o out x o=W (x+a3v o out):=by
  have h5:o=0∨o=1∨o=2∨o=3∨o=4:=by omega
  rcases h5 with rfl|rfl|rfl|rfl|rfl;simp only[c1C,a3v,Int.add_zero];exact(b7o hx).symm
  all_goals
   simp only[c1C,b4V,a3v,List.getD_cons_zero,List.getD_cons_succ,Nat.zero_add,a36,W,a8f,a25,a40];congr 1;omega
 rw[key]
theorem c3K{warm rest:List Int}{o:Nat}(ho:o≤4)(hw:warm.length=o)(hr:rest.length<100000):
  a9p (warm,rest,(o:Int))=some (a1J (bif warm.all a0b&&rest.all a0b then a4i (a3v o) rest warm else none)):=by
 have hsw:short warm:=by unfold short;omega
 have hsr:short rest:=by unfold short;omega
 unfold a9p;have h1:¬ (o:Int)<0:=by omega
 have h2:¬ (o:Int) > 4:=by omega
 have h3:(((warm.length:Nat):Int) != (o:Int))=false:=by simp;omega
 simp only[h1,h2,h3,decide_false,cF,oB,a0A hsw,a0A hsr];cases hw1:warm.all a0b with
 |false=>rfl
 |true=>
  simp only[bT,cF,oB,a16];cases hw2:rest.all a0b with
  |false=>rfl
  |true=>
   have hlw:lim (0+warm.length)=true:=a0q (by omega);simp only[bT,cF,cT,hlw,d3U ho,oB,a24,a09]
   have:=a2M (f:=a7m) rest (fun i out=>(rest,(o:Int),b4V o,(i:Int),out,())) (a9s (a3v o) (Sum.inr ((6:Int),([]:List Int),())))
    (fun i out=>o≤out.length∧out.length≤o+i) (fun out=>Sum.inl (out,()))
    (fun i h out hI=>by
     have hlt:i<1000000:=by omega
     have hso:short out:=by unfold short;omega
     have hwx:a0b rest[i]=true:=lA.1 hw2 _ (a41 h);simp only[a7m,dlt h,cT,a0d h,oB,c4W ho hI.1 hso hwx,a2P,a9s];cases hb:a0b (W (rest[i]+a3v o out))with
     |true=>
      simp only[cT,bT,cF,a0q (show out.length+1<1000000 by omega),a0c hlt];refine⟨fun a' ha=>?_,fun b hb=>(by cases hb)⟩;simp only[Sum.inl.injEq]at ha;subst ha;exact⟨rfl,by simp;omega,by simp;omega⟩
     |false=>
      refine⟨fun a' ha=>(by cases ha),fun b hb=>?_⟩;simp only[cF,Sum.inr.injEq]at hb;subst hb;rfl)
    (fun out _=>by simp[a7m]) (a:=warm) ⟨by omega,by omega⟩
   simp only[nZ,a8s]at this;rw[this];cases a4i (a3v o) rest warm<;>rfl
end Go.Ab
namespace Go.Ab
open IntKind(wrap)
def c1D(out:List Int):List Int→Nat→Int→Int
 | [],_,acc=>acc
 |c::r,i,acc=>bif decide (i<out.length)then c1D out r (i+1) (W (acc+W (c*atB out (i+1))))else acc
def a7y(c:List Int)(s:Int)(out:List Int):Int:=a0l .i64 (c1D out c 0 0) s
theorem d3V{out:List Int}{i:Nat}(h:i<out.length)(hs:short out):a0r out (wrap .i64 (wrap .i64 (((out.length:Nat):Int)-1)-(i:Int)))=some (atB out (i+1)):=by
 have hs:out.length<1000000:=hs;have e1:wrap .i64 (((out.length:Nat):Int)-1)=((out.length-1:Nat):Int):=by rw[a0k (by omega)];omega
 have e2:wrap .i64 (((out.length-1:Nat):Int)-(i:Int))=((out.length-(i+1):Nat):Int):=by rw[a0k (by omega)];omega
 rw[e1,e2,a0d (show out.length-(i+1)<out.length by omega),atB,lD,lG (by omega)];rfl
theorem d5a{out:List Int}{i:Nat}(h:i<out.length)(hw:out.all a0b=true):a0b (atB out (i+1))=true:=by
 rw[atB,lD,lG (show out.length-(i+1)<out.length by omega)];exact lA.1 hw _ (a41 _)
theorem c1E{out c:List Int}{s:Int}(hs:short out)(hc:short c):∀(k i:Nat)(acc:Int),i+k=c.length→
  a0e a4y (out,s,acc,c,(c.length:Int),(i:Int),())=some (s,c1D out (c.drop i) i acc,())
 |0,i,acc,h=>by
  obtain rfl:i=c.length:=by omega
  rw[a19];exact a0j (by simp[a4y,c1D])
 |k+1,i,acc,h=>by
  have hlt:i<c.length:=by omega
  have hs':out.length<1000000:=hs;have hc':c.length<1000000:=hc;rw[a06 hlt,c1D];have e1:wrap .i64 (((out.length:Nat):Int)-1)=((out.length:Nat):Int)-1:=a0k (by omega);have e2:wrap .i64 (((out.length:Nat):Int)-1-(i:Int))=((out.length:Nat):Int)-1-(i:Int):=a0k (by omega)
  by_cases hi:i<out.length
  have hd:decide (wrap .i64 (wrap .i64 (((out.length:Nat):Int)-1)-(i:Int))<0)=false:=by rw[e1,e2];simp;omega
  simp only[hi,decide_true,cT];rw[a0p (s':=(out,s,W (acc+W (c[i]*atB out (i+1))),c,(c.length:Int),((i+1:Nat):Int),())) (by
   simp only[a4y,dlt hlt,cT,a0d hlt,oB,hd,cF,d3V hi hs,a0c (show i<1000000 by omega)])]
  exact c1E hs hc k (i+1) _ (by omega);have hd:decide (wrap .i64 (wrap .i64 (((out.length:Nat):Int)-1)-(i:Int))<0)=true:=by rw[e1,e2];simp;omega
  simp only[hi,decide_false,cF];exact a0j (by simp only[a4y,dlt hlt,cT,a0d hlt,oB,hd])
theorem b9D{out c:List Int}{s:Int}(hs:short out)(hc:short c)(h0:0≤s):a6j (out,c,s)=some (a7y c s out):=by
 have:=c1E (s:=s) hs hc c.length 0 0 (by omega)
 simp only[nZ,a17]at this;unfold a6j;simp only[this,oB]
 have:¬ s<0:=by omega
 simp[this,a7y]
theorem c4X{out c:List Int}{s:Int}(hs:short out)(hc:short c)(hw:out.all a0b=true):∀(k i:Nat)(acc:Int),i+k=c.length→
  a0e a4d (out,c,s,acc,(i:Int),())=some (Sum.inl (s,c1D out (c.drop i) i acc,()))
 |0,i,acc,h=>by
  obtain rfl:i=c.length:=by omega
  rw[a19];exact a0j (by simp[a4d,c1D])
 |k+1,i,acc,h=>by
  have hlt:i<c.length:=by omega
  have hs':out.length<1000000:=hs;have hc':c.length<1000000:=hc;rw[a06 hlt,c1D]
  by_cases hi:i<out.length
  simp only[hi,decide_true,cT];rw[a0p (s':=(out,c,s,W (acc+W (c[i]*atB out (i+1))),((i+1:Nat):Int),())) (by
   simp only[a4d,dlt hlt,dlt hi,cT,d3V hi hs,oB,a2P,d5a hi hw,bT,cF,a0d hlt,a0c (show i<1000000 by omega)])]
  exact c4X hs hc hw k (i+1) _ (by omega);have hd:decide ((i:Int)<((out.length:Nat):Int))=false:=by simp;omega
  simp only[hi,decide_false,cF];exact a0j (by simp only[a4d,dlt hlt,cT,hd,cF])
theorem c3c{s:Int}(h:0≤s)(h':s≤64):wrap .u64 s=s:=a1p (by omega)
theorem b4C{out c:List Int}{s:Int}(hs:short out)(hc:short c)(hw:out.all a0b=true)(hl:a6r c s=true):a5C (out,c,s)=some (a7y c s out):=by
 have:=c4X (s:=s) hs hc hw c.length 0 0 (by omega)
 simp only[nZ,a17]at this;unfold a5C;simp only[a6s hc,hl,oB,bT,cF,this];simp only[a6r,bA,dT]at hl
 have:¬ s<0:=by omega
 simp[c3c (show 0≤s by omega) (by omega),this,a7y]
def b2X(warm rest c:List Int)(s:Int):Option (List Int):=bif warm.all a0b&&rest.all a0b then a4i (a7y c s) rest warm else none
theorem b8R{warm rest c:List Int}{s:Int}(hl:a6r c s=true)(hw:warm.length=c.length)(hr:rest.length<100000):
  a8K (warm,rest,c,s)=some (a1J (b2X warm rest c s)):=by
 have hl':=hl;simp only[a6r,bA,dT]at hl';have hsc:short c:=by unfold short;omega
 have hsw:short warm:=by unfold short;omega
 have hsr:short rest:=by unfold short;omega
 unfold a8K;have h3:(((warm.length:Nat):Int) != ((c.length:Nat):Int))=false:=by simp;omega
 simp only[b1w hsc,hl,oB,bT,cF,h3,a5F hsw,a5F hsr,b2X];cases hw1:warm.all a0b with
 |false=>rfl
 |true=>
  simp only[bT,cF,oB,a16];cases hw2:rest.all a0b with
  |false=>rfl
  |true=>
   have e1:wrap .i64 (((warm.length:Nat):Int)+((rest.length:Nat):Int))=((warm.length+rest.length:Nat):Int):=by rw[a0k (by omega)];omega
   have h4:(0:Int)≤((warm.length+rest.length:Nat):Int):=by omega
   simp only[bT,cF,cT,e1,h4,decide_true,tN,a0q (show warm.length+rest.length<1000000 by omega),a0q (show 0+warm.length<1000000 by omega),a08,a24,a09]
   have:=a2M (f:=a8l) rest (fun i out=>(c,s,rest,(rest.length:Int),(i:Int),out,())) (a9s (a7y c s) (Sum.inr ((6:Int),([]:List Int),())))
    (fun i out=>out.length≤warm.length+i) (fun out=>Sum.inl (out,()))
    (fun i h out hI=>by
     have hlt:i<1000000:=by omega
     have hso:short out:=by unfold short;omega
     have e:wrap .i64 (a7y c s out+rest[i])=W (rest[i]+a7y c s out):=by rw[Int.add_comm]
     simp only[a8l,dlt h,cT,a0d h,oB,b9D hso hsc hl'.2.2.1,e,a7Y,a9s];cases hb:a0b (W (rest[i]+a7y c s out))with
     |true=>
      simp only[cT,bT,cF,a0q (show out.length+1<1000000 by omega),a0c hlt];refine⟨fun a' ha=>?_,fun b hb=>(by cases hb)⟩;simp only[Sum.inl.injEq]at ha;subst ha;exact⟨rfl,by simp;omega⟩
     |false=>
      refine⟨fun a' ha=>(by cases ha),fun b hb=>?_⟩;simp only[cF,Sum.inr.injEq]at hb;subst hb;rfl)
    (fun out _=>by simp[a8l]) (a:=warm) (by omega)
   simp only[nZ,a8s]at this;rw[this];cases a4i (a7y c s) rest warm<;>rfl
theorem b5h{warm rest c:List Int}{s:Int}(hl:a6r c s=true)(hw:warm.length=c.length)(hr:rest.length<100000):
  a6p (warm,rest,c,s)=some (a1J (b2X warm rest c s)):=by
 have hl':=hl;simp only[a6r,bA,dT]at hl';have hsc:short c:=by unfold short;omega
 have hsw:short warm:=by unfold short;omega
 have hsr:short rest:=by unfold short;omega
 unfold a6p;have h3:(((warm.length:Nat):Int) != ((c.length:Nat):Int))=false:=by simp;omega
 simp only[a6s hsc,hl,oB,bT,cF,h3,a0A hsw,a0A hsr,b2X];cases hw1:warm.all a0b with
 |false=>rfl
 |true=>
  simp only[bT,cF,oB,a16];cases hw2:rest.all a0b with
  |false=>rfl
  |true=>
   simp only[bT,cF,cT,a0q (show 0+warm.length<1000000 by omega),a24,a09]
   have:=a2M (f:=a6x) rest (fun i out=>(rest,c,s,(i:Int),out,())) (a9s (a7y c s) (Sum.inr ((6:Int),([]:List Int),())))
    (fun i out=>out.length≤warm.length+i∧out.all a0b=true) (fun out=>Sum.inl (out,()))
    (fun i h out hI=>by
     have hlt:i<1000000:=by omega
     have hso:short out:=by unfold short;omega
     simp only[a6x,dlt h,cT,a0d h,oB,b4C hso hsc hI.2 hl,a2P,a9s];cases hb:a0b (W (rest[i]+a7y c s out))with
     |true=>
      simp only[cT,bT,cF,a0q (show out.length+1<1000000 by omega),a0c hlt];refine⟨fun a' ha=>?_,fun b hb=>(by cases hb)⟩;simp only[Sum.inl.injEq]at ha;subst ha;exact⟨rfl,by simp;omega,by simp[hI.2,hb]⟩
     |false=>
      refine⟨fun a' ha=>(by cases ha),fun b hb=>?_⟩;simp only[cF,Sum.inr.injEq]at hb;subst hb;rfl)
    (fun out _=>by simp[a6x]) (a:=warm) ⟨by omega,hw1⟩
   simp only[nZ,a8s]at this;rw[this];cases a4i (a7y c s) rest warm<;>rfl
end Go.Ab
namespace Go.Ab
open IntKind(wrap)
def c1F(out:List Int)(lag:Int):List Int→Nat→Int→Int
 | [],_,acc=>acc
 |t::r,i,acc=>c1F out lag r (i+1) (bif decide (0≤(out.length:Int)-lag-1+i)then W (acc+W (t*out.getD ((out.length:Int)-lag-1+i).toNat 0))else acc)
def a5o(lag:Int)(t:List Int)(out:List Int):Int:=a0l .i64 (c1F out lag t 0 0) 6
theorem b9E{out:List Int}{j:Int}(h0:0≤j)(h:j<out.length):a0r out j=some (out.getD j.toNat 0):=by
 obtain⟨n,rfl⟩:=Int.eq_ofNat_of_zero_le h0;have hn:n<out.length:=by omega
 rw[a0d hn,tN,lD,lG hn];rfl
theorem d1a{n i:Nat}{lag:Int}(h1:2≤lag)(h2:lag≤1024)(hn:n<1000000)(hi:i<3):
  wrap .i64 (wrap .i64 (wrap .i64 ((n:Int)-lag)-1)+(i:Int))=(n:Int)-lag-1+i:=by
 rw[a0k (n:=(n:Int)-lag) (by omega),a0k (n:=(n:Int)-lag-1) (by omega),a0k (by omega)]
theorem d3W{l:List Int}{n j:Nat}(h:j<n):(l.take n).getD j 0=l.getD j 0:=by
 simp only[lD,List.getElem?_take,h,if_true]
theorem b0J{l t:List Int}{lag:Int}{n:Nat}(hn:n≤l.length)(hs:short l)(ht:t.length=3)(h1:2≤lag)(h2:lag≤1024):∀(k i:Nat)(acc:Int),i+k=3→
  a0e a5z (l,(n:Int),lag,acc,t,(i:Int),())=some (c1F (l.take n) lag (t.drop i) i acc,())
 |0,i,acc,h=>by
  obtain rfl:i=t.length:=by omega
  rw[a19];exact a0j (by rw[ht];simp[a5z,c1F])
 |k+1,i,acc,h=>by
  have hlt:i<t.length:=by omega
  have hi3:decide ((i:Int)<3)=true:=by simp;omega
  have hs':l.length<1000000:=hs;have hln:(l.take n).length=n:=by rw[a27];omega
  have e:=d1a (n:=n) (i:=i) h1 h2 (by omega) (by omega);rw[a06 hlt,c1F,hln]
  by_cases hp:0≤(n:Int)-lag-1+i
  have hd:decide ((n:Int)-lag-1+i≥0)=true:=by simp;omega
  simp only[hp,decide_true,cT];rw[d3W (show((n:Int)-lag-1+i).toNat<n by omega),a0p (s':=(l,(n:Int),lag,W (acc+W (t[i]*l.getD ((n:Int)-lag-1+i).toNat 0)),t,((i+1:Nat):Int),())) (by
   simp only[a5z,hi3,cT,a0d hlt,oB,e,hd,b9E hp (show(n:Int)-lag-1+(i:Int)<(l.length:Int)by omega),a0c (show i<1000000 by omega)])]
  exact b0J hn hs ht h1 h2 k (i+1) _ (by omega);have hd:decide ((n:Int)-lag-1+i≥0)=false:=by simp;omega
  simp only[hp,decide_false,cF];rw[a0p (s':=(l,(n:Int),lag,acc,t,((i+1:Nat):Int),())) (by
   simp only[a5z,hi3,cT,a0d hlt,oB,e,hd,cF,a0c (show i<1000000 by omega)])]
  exact b0J hn hs ht h1 h2 k (i+1) _ (by omega)
theorem b7p{l t:List Int}{lag:Int}{n:Nat}(hn:n≤l.length)(hs:short l)(ht:t.length=3)(h1:2≤lag)(h2:lag≤1024):
  a6a (l,(n:Int),lag,t)=some (a5o lag t (l.take n)):=by
 have:=b0J (t:=t) hn hs ht h1 h2 3 0 0 (by omega)
 simp only[nZ,a17]at this;unfold a6a;simp only[this,oB,a5o]
theorem c4Y{out t:List Int}{lag:Int}(hs:short out)(ht:t.length=3)(h1:2≤lag)(h2:lag≤1024):a6a (out,(out.length:Int),lag,t)=some (a5o lag t out):=by
 rw[b7p (a47 _) hs ht h1 h2,List.take_length]
theorem a9N{out t:List Int}{lag:Int}(hs:short out)(ht:t.length=3)(h1:2≤lag)(h2:lag≤1024):∀(k i:Nat)(acc:Int),i+k=3→
  a0e a5b (out,lag,acc,(i:Int),t,())=some (c1F out lag (t.drop i) i acc,())
 |0,i,acc,h=>by
  obtain rfl:i=t.length:=by omega
  rw[a19];exact a0j (by rw[ht];simp[a5b,c1F])
 |k+1,i,acc,h=>by
  have hlt:i<t.length:=by omega
  have hi3:decide ((i:Int)<3)=true:=by simp;omega
  have hs':out.length<1000000:=hs;have e:=d1a (i:=i) h1 h2 hs' (by omega);rw[a06 hlt,c1F]
  by_cases hp:0≤(out.length:Int)-lag-1+i
  have hd:decide ((out.length:Int)-lag-1+i≥0)=true:=by simp;omega
  simp only[hp,decide_true,cT];rw[a0p (s':=(out,lag,W (acc+W (t[i]*out.getD ((out.length:Int)-lag-1+i).toNat 0)),((i+1:Nat):Int),t,())) (by
   simp only[a5b,hi3,cT,a0d hlt,oB,e,hd,b9E hp (show(out.length:Int)-lag-1+(i:Int)<(out.length:Int)by omega),a0c (show i<1000000 by omega)])]
  exact a9N hs ht h1 h2 k (i+1) _ (by omega);have hd:decide ((out.length:Int)-lag-1+i≥0)=false:=by simp;omega
  simp only[hp,decide_false,cF];rw[a0p (s':=(out,lag,acc,((i+1:Nat):Int),t,())) (by
   simp only[a5b,hi3,cT,e,hd,cF,a0c (show i<1000000 by omega)])]
  exact a9N hs ht h1 h2 k (i+1) _ (by omega)
theorem b6A{out t:List Int}{lag:Int}(hs:short out)(ht:t.length=3)(h1:2≤lag)(h2:lag≤1024):a7f (out,lag,t)=some (a5o lag t out):=by
 have:=a9N (out:=out) (t:=t) hs ht h1 h2 3 0 0 (by omega)
 simp only[nZ,a17]at this;unfold a7f;simp only[this,oB,a5o]
def b2Y(rest:List Int)(lag:Int)(t:List Int):Option (List Int):=bif rest.all a0b then a4i (a5o lag t) rest []else none
theorem c9d{rest t:List Int}{lag:Int}(hl:a7H lag t=true)(ht:t.length=3)(hr:rest.length<100000):b4b (rest,lag,t)=some (a1J (b2Y rest lag t)):=by
 have hl':=hl;simp only[a7H,bA,dT]at hl';have hsr:short rest:=by unfold short;omega
 unfold b4b;simp only[b8e ht,hl,oB,bT,cF,b7n hsr,b2Y];cases hw2:rest.all a0b with
 |false=>rfl
 |true=>
  have h4:(0:Int)≤((rest.length:Nat):Int):=by omega
  simp only[bT,cF,cT,h4,decide_true,tN,a0q hsr,a08]
  have:=a2M (f:=b0h) rest (fun i out=>(lag,rest,(rest.length:Int),(i:Int),out,t,())) (a9s (a5o lag t) (Sum.inr ((6:Int),([]:List Int),())))
   (fun i out=>out.length=i) (fun out=>Sum.inl (out,()))
   (fun i h out hI=>by
    have hlt:i<1000000:=by omega
    have hso:short out:=by unfold short;omega
    have hp:=c4Y (out:=out) (t:=t) (lag:=lag) hso ht hl'.1 hl'.2.1;rw[hI]at hp;simp only[b0h,dlt h,cT,a0d h,oB,hp,a9M,a9s];cases hb:a0b (W (rest[i]+a5o lag t out))with
    |true=>
     simp only[cT,bT,cF,a0q (show out.length+1<1000000 by omega),a0c hlt];refine⟨fun a' ha=>?_,fun b hb=>(by cases hb)⟩;simp only[Sum.inl.injEq]at ha;subst ha;exact⟨rfl,by simp;omega⟩
    |false=>
     refine⟨fun a' ha=>(by cases ha),fun b hb=>?_⟩;simp only[cF,Sum.inr.injEq]at hb;subst hb;rfl)
   (fun out _=>by simp[b0h]) (a:=[]) rfl
  simp only[nZ,a8s]at this;rw[this];cases a4i (a5o lag t) rest []<;>rfl
theorem c4Z{rest t:List Int}{lag:Int}(hl:a7H lag t=true)(ht:t.length=3)(hr:rest.length<100000):b0u (rest,lag,t)=some (a1J (b2Y rest lag t)):=by
 have hl':=hl;simp only[a7H,bA,dT]at hl';have hsr:short rest:=by unfold short;omega
 unfold b0u;simp only[b3G ht,hl,oB,bT,cF,a0A hsr,b2Y];cases hw2:rest.all a0b with
 |false=>rfl
 |true=>
  simp only[bT,cF,cT]
  have:=a2M (f:=a7F) rest (fun i out=>(rest,lag,(i:Int),out,t,())) (a9s (a5o lag t) (Sum.inr ((6:Int),([]:List Int),())))
   (fun i out=>out.length=i) (fun out=>Sum.inl (out,()))
   (fun i h out hI=>by
    have hlt:i<1000000:=by omega
    have hso:short out:=by unfold short;omega
    simp only[a7F,dlt h,cT,a0d h,oB,b6A hso ht hl'.1 hl'.2.1,a2P,a9s];cases hb:a0b (W (rest[i]+a5o lag t out))with
    |true=>
     simp only[cT,bT,cF,a0q (show out.length+1<1000000 by omega),a0c hlt];refine⟨fun a' ha=>?_,fun b hb=>(by cases hb)⟩;simp only[Sum.inl.injEq]at ha;subst ha;exact⟨rfl,by simp;omega⟩
    |false=>
     refine⟨fun a' ha=>(by cases ha),fun b hb=>?_⟩;simp only[cF,Sum.inr.injEq]at hb;subst hb;rfl)
   (fun out _=>by simp[a7F]) (a:=[]) rfl
  simp only[nZ,a8s]at this;rw[this];cases a4i (a5o lag t) rest []<;>rfl
def b8S{β:Type}(n:Int)(bad:β)(out:List Int)(x:Int):List Int ⊕ β:=bif a0b x&&a0b (a0F .i64 x n)then .inl (out++[a0F .i64 x n])else .inr bad
def upO(n:Int)(l:List Int):Option (List Int):=bif l.all (fun x=>a0b x&&a0b (a0F .i64 x n))then some (l.map fun x=>a0F .i64 x n)else none
theorem b8f{β:Type}(n:Int)(bad:β)(fin:List Int→β):∀(l out:List Int),b2U fin (a3p (b8S n bad) l out)=match upO n l with|some r=>fin (out++r)|none=>bad
 | [],out=>by simp[a3p,b2U,upO]
 |x::l,out=>by
  simp only[a3p,b8S,upO,List.all_cons];cases hx:(a0b x&&a0b (a0F .i64 x n))with
  |true=>
   simp only[cT,a16];rw[b8f n bad fin l _];simp only[upO];cases l.all (fun x=>a0b x&&a0b (a0F .i64 x n))with
   |true=>simp
   |false=>rfl
  |false=>rfl
theorem c9e{l:List Int}{n:Int}(h0:0≤n)(h1:n≤30)(hr:l.length<100000):b0U (l,n)=some (a1J (upO n l)):=by
 have hsr:short l:=by unfold short;omega
 have g1:¬ n<0:=by omega
 have g2:¬ n > 30:=by omega
 unfold b0U;simp only[g1,g2,decide_false,cF,oB]
 have:=a2M (f:=b0i) l (fun i out=>(n,l,(l.length:Int),(i:Int),out,())) (b8S n (Sum.inr ((6:Int),([]:List Int),())))
  (fun i out=>out.length=i) (fun out=>Sum.inl (out,()))
  (fun i h out hI=>by
   have hlt:i<1000000:=by omega
   simp only[b0i,dlt h,cT,a0d h,oB,b8Q,b8S,g1,decide_false,cF];cases hb:a0b l[i]with
   |true=>
    cases hb2:a0b (a0F .i64 l[i] n)with
    |true=>
     simp only[cT,bT,cF,oB,g1,decide_false,a0q (show out.length+1<1000000 by omega),a0c hlt,a08];refine⟨fun a' ha=>?_,fun b hb=>(by cases hb)⟩;simp only[Sum.inl.injEq]at ha;subst ha;exact⟨rfl,by simp;omega⟩
    |false=>
     refine⟨fun a' ha=>(by cases ha),fun b hb=>?_⟩;simp only[a16,cF,Sum.inr.injEq]at hb;subst hb;rfl
   |false=>
    refine⟨fun a' ha=>(by cases ha),fun b hb=>?_⟩;simp only[a33,cF,Sum.inr.injEq]at hb;subst hb;rfl)
  (fun out _=>by simp[b0i]) (a:=[]) rfl
 simp only[nZ,b8f,a09]at this;rw[this];cases upO n l<;>rfl
theorem d3X{l:List Int}{n:Int}(h0:0≤n)(h1:n≤30)(hr:l.length<100000):c2l (l,n)=some (a1J (upO n l)):=by
 have hsr:short l:=by unfold short;omega
 have g1:¬ n<0:=by omega
 have g2:¬ n > 30:=by omega
 have hw:=c3c h0 (by omega);unfold c2l;simp only[g1,g2,decide_false,cF,oB]
 have:=a2M (f:=b5x) l (fun i out=>(l,n,(i:Int),out,())) (b8S n (Sum.inr ((6:Int),([]:List Int),())))
  (fun i out=>out.length=i) (fun out=>Sum.inl (out,()))
  (fun i h out hI=>by
   have hlt:i<1000000:=by omega
   simp only[b5x,dlt h,cT,a0d h,oB,a2P,b8S,hw,g1,decide_false,cF];cases hb:a0b l[i]with
   |true=>
    cases hb2:a0b (a0F .i64 l[i] n)with
    |true=>
     simp only[cT,bT,cF,oB,hw,g1,decide_false,a0d h,a0q (show out.length+1<1000000 by omega),a0c hlt,a08];refine⟨fun a' ha=>?_,fun b hb=>(by cases hb)⟩;simp only[Sum.inl.injEq]at ha;subst ha;exact⟨rfl,by simp;omega⟩
    |false=>
     refine⟨fun a' ha=>(by cases ha),fun b hb=>?_⟩;simp only[a16,cF,Sum.inr.injEq]at hb;subst hb;rfl
   |false=>
    refine⟨fun a' ha=>(by cases ha),fun b hb=>?_⟩;simp only[a33,cF,Sum.inr.injEq]at hb;subst hb;rfl)
  (fun out _=>by simp[b5x]) (a:=[]) rfl
 simp only[nZ,b8f,a09]at this;rw[this];cases upO n l<;>rfl
end Go.Ab
namespace Go.Ab
open IntKind(wrap)
@[reducible] def Fil:Type:=Int×((List Int)×((List Int)×Unit))
def a1K(x:Int):Int:=a2v (a1D x (-1073741824)) 1073741823
def c5a(x:Int):Int:=a2v (a1D x (-1048576)) 1048576
theorem c1G(x:Int):-1073741824≤a1K x∧a1K x≤1073741823:=by
 simp only[a1K,c6i,d0Z];omega
theorem c9f(x:Int):-1048576≤c5a x∧c5a x≤1048576:=by
 simp only[c5a,c6i,d0Z];omega
def c6k:List Int→List Int→Int→Int
 |a::w,b::h,acc=>c6k w h (W (acc+W (a*b)))
 |_,_,acc=>acc
def a0J(f:Fil):Int:=a1K (a0l .i64 (c6k f.2.1 f.2.2.1 0) 16)
structure FilOk (f:Fil):Prop where
 len:f.2.1.length=f.2.2.1.length
 pos:1≤f.2.1.length
 most:f.2.1.length≤32
 rate:0≤f.1∧f.1≤8
 small:∀x∈f.2.1,-1048576≤x∧x≤1048576
theorem a9O{l:List Int}{i:Nat}(h:i<l.length):a02 l i 0=l[i]:=by
 rw[lD,lG h];rfl
theorem b6B{f:Fil}(hf:FilOk f):∀(k i:Nat)(acc:Int),i+k=f.2.1.length→
  a0e a4u (acc,(f.2.1.length:Int),(i:Int),f,())=some (c6k (f.2.1.drop i) (f.2.2.1.drop i) acc,f,())
 |0,i,acc,h=>by
  obtain rfl:i=f.2.1.length:=by omega
  rw[a19,a0j (b:=(acc,f,())) (by simp[a4u])];rfl
 |k+1,i,acc,h=>by
  have h1:i<f.2.1.length:=by omega
  have h2:i<f.2.2.1.length:=by rw[←hf.len];exact h1
  have hm:=hf.most;rw[a06 h1,a06 h2,c6k];have h0:decide ((0:Int)≤(i:Int))=true:=by simp
  rw[a0p (s':=(W (acc+W (f.2.1[i]*f.2.2.1[i])),(f.2.1.length:Int),((i+1:Nat):Int),f,())) (by
   simp only[a4u,dlt h1,dlt h2,h0,cT,a08,tN,a9O h1,a9O h2,a0c (show i<1000000 by omega)])]
  exact b6B hf k (i+1) _ (by omega)
theorem a7Z{f:Fil}(hf:FilOk f):a2R f=some (a0J f,f):=by
 have:=b6B hf f.2.1.length 0 0 (by omega)
 simp only[nZ,a17]at this;unfold a2R;simp only[this,oB,a6W];rfl
theorem b8T{f:Fil}(hf:FilOk f):∀(k i:Nat)(acc:Int),i+k=f.2.1.length→
  a0e a5m (acc,(i:Int),f,())=some (c6k (f.2.1.drop i) (f.2.2.1.drop i) acc,f,())
 |0,i,acc,h=>by
  obtain rfl:i=f.2.1.length:=by omega
  rw[a19,a0j (b:=(acc,f,())) (by simp[a5m])];rfl
 |k+1,i,acc,h=>by
  have h1:i<f.2.1.length:=by omega
  have h2:i<f.2.2.1.length:=by rw[←hf.len];exact h1
  have hm:=hf.most;rw[a06 h1,a06 h2,c6k];have h0:decide ((0:Int)≤(i:Int))=true:=by simp
  rw[a0p (s':=(W (acc+W (f.2.1[i]*f.2.2.1[i])),((i+1:Nat):Int),f,())) (by
   simp only[a5m,dlt h1,dlt h2,h0,cT,a08,tN,a9O h1,a9O h2,a0c (show i<1000000 by omega)])]
  exact b8T hf k (i+1) _ (by omega)
theorem b2Z{f:Fil}(hf:FilOk f):a3C f=some (a0J f,f):=by
 have:=b8T hf f.2.1.length 0 0 (by omega)
 simp only[nZ,a17]at this;unfold a3C;simp only[this,oB,b2L];rfl
def a7I(x:Int):Int:=if 0<x then 1 else if x<0 then -1 else 0
def b4i(r:Int)(x g:Int):Int:=a7I (x-g)*2^r.toNat
def b4W(st:Int)(w h:Int):Int:=c5a (W (w+a7I h*st))
def b0w(f:Fil)(x:Int):Fil:=
 (f.1,a18 (b4W (b4i f.1 (a1K x) (a0J f))) f.2.1 f.2.2.1,a1K x::f.2.2.1.take (f.2.2.1.length-1),f.2.2.2)
theorem b9F{f:Fil}(hf:FilOk f)(x:Int):FilOk (b0w f x):=by
 obtain⟨h1,h2,h3,h4,h5⟩:=hf;have e:(a18 (b4W (b4i f.1 (a1K x) (a0J f))) f.2.1 f.2.2.1).length=f.2.1.length:=by simp;omega
 refine⟨?_,?_,?_,h4,?_⟩;show(a18 _ _ _).length=(a1K x::f.2.2.1.take (f.2.2.1.length-1)).length;rw[e];simp;omega;show 1≤(a18 _ _ _).length;rw[e];exact h2;show(a18 _ _ _).length≤32;rw[e];exact h3;intro y hy;have hy:y∈a18 (b4W (b4i f.1 (a1K x) (a0J f))) f.2.1 f.2.2.1:=hy;obtain⟨i,hi,rfl⟩:=List.mem_iff_getElem.1 hy;simp only[a30];exact c9f _
theorem a9a(x:Int):(0<x∧a7I x=1)∨(x<0∧a7I x=-1)∨(x=0∧a7I x=0):=by
 unfold a7I
 by_cases h:0<x
 exact .inl ⟨h,by rw[if_pos h]⟩
 by_cases h':x<0
 exact .inr (.inl ⟨h',by rw[if_neg h,if_pos h']⟩);exact .inr (.inr ⟨by omega,by rw[if_neg h,if_neg h']⟩)
theorem c3L{r:Int}(h:0≤r∧r≤8):(2:Int)^r.toNat≤256∧1≤(2:Int)^r.toNat:=by
 have:r.toNat=0∨r.toNat=1∨r.toNat=2∨r.toNat=3∨r.toNat=4∨r.toNat=5∨r.toNat=6∨r.toNat=7∨r.toNat=8:=by omega
 rcases this with e|e|e|e|e|e|e|e|e<;>rw[e]<;>decide
theorem c7c{r:Int}(h:0≤r∧r≤8){x:Int}(hx:-1≤x∧x≤1):a0F .i64 x r=x*2^r.toNat:=by
 have hp:=c3L h;have hb:min r.toNat 64=r.toNat:=by omega
 unfold a0F;show wrap .i64 (x*2^(min r.toNat 64))=_;rw[hb]
 have:x=-1∨x=0∨x=1:=by omega
 rcases this with rfl|rfl|rfl;exact a0k (by omega);exact a0k (by omega);exact a0k (by omega)
theorem c7z{f:Fil}(hf:FilOk f)(x:Int):
  (bif decide (a1K x > a0J f)then bif decide (f.1<0)then(none:Option (Int×Int×Fil×Unit))else some (a1K x,a0F .i64 (1:Int) f.1,f,())
   else bif decide (a1K x<a0J f)then bif decide (f.1<0)then none else some (a1K x,wrap .i64 (0-(a0F .i64 (1:Int) f.1)),f,())
   else some (a1K x,(0:Int),f,()))=some (a1K x,b4i f.1 (a1K x) (a0J f),f,()):=by
 have hr:¬ f.1<0:=by have:=hf.rate;omega
 have hp:=c3L hf.rate;have hg:=c7c hf.rate (x:=1) (by omega);rw[a49]at hg;rcases a9a (a1K x-a0J f)with⟨h1,h2⟩|⟨h1,h2⟩|⟨h1,h2⟩;have h3:a1K x > a0J f:=by omega
 simp only[h3,hr,decide_true,decide_false,cT,cF,b4i,h2,a49,hg];have h3:¬ a1K x > a0J f:=by omega
 have h4:a1K x<a0J f:=by omega
 simp only[h3,h4,hr,decide_true,decide_false,cT,cF,b4i,h2,hg];rw[a0k (by omega)];congr 3;omega;have h3:¬ a1K x > a0J f:=by omega
 have h4:¬ a1K x<a0J f:=by omega
 simp only[h3,h4,decide_false,cF,b4i,h2,Int.zero_mul]
theorem c9g{l z:List Int}{i:Nat}(hi:i<l.length)(hz:z.length=l.length):(z.take i++l.drop i).set i (z[i]'(by omega))=z.take (i+1)++l.drop (i+1):=by
 have h1:(z.take i).length=i:=by rw[a27];omega
 have h2:z.take (i+1)=z.take i++[z[i]'(by omega)]:=by rw[a46,lG (show i<z.length by omega)];rfl
 rw[List.set_append_right _ _ (by omega),h1,a45,a06 hi,List.set_cons_zero,h2,aA];rfl
theorem d5b{l z:List Int}{i:Nat}(hi:i<l.length)(hz:z.length=l.length):a02 (z.take i++l.drop i) i 0=l[i]:=by
 have h1:(z.take i).length=i:=by rw[a27];omega
 rw[lD,List.getElem?_append_right (by omega),h1,a45,List.getElem?_drop,Nat.add_zero,lG hi];rfl
theorem d3Y{f:Fil}(hf:FilOk f){i:Nat}(h:i<f.2.1.length):-1048576≤f.2.1[i]∧f.2.1[i]≤1048576:=hf.small _ (a41 h)
theorem c5b{f:Fil}(hf:FilOk f){x1 st:Int}(hst:-256≤st∧st≤256):
  a0e a3k (x1,st,(f.2.2.1.length:Int),(0:Int),f,())=some (x1,(f.1,a18 (b4W st) f.2.1 f.2.2.1,f.2.2),()):=by
 obtain⟨z,hz⟩:∃z,a18 (b4W st) f.2.1 f.2.2.1=z:=⟨_,rfl⟩;have hlen:=hf.len;have hzl:z.length=f.2.1.length:=by rw[←hz];simp;omega
 have hm:=hf.most
 have:=a0I (f:=a3k) (fun i=>(x1,st,(f.2.2.1.length:Int),(i:Int),(f.1,z.take i++f.2.1.drop i,f.2.2),()))
  f.2.2.1.length (b:=(x1,(f.1,z,f.2.2),())) (fun i hi=>by
   have hi1:i<f.2.1.length:=by omega
   have h0:decide ((0:Int)≤(i:Int))=true:=by simp
   have hl1:(z.take i++f.2.1.drop i).length=f.2.1.length:=by simp;omega
   have hl2:decide ((i:Int)<((z.take i++f.2.1.drop i).length:Int))=true:=by rw[hl1];simp;omega
   have hzi:z[i]'(by omega)=b4W st f.2.1[i] f.2.2.1[i]:=by simp only[←hz,a30]
   have hsm:=d3Y hf hi1;have hset:=c9g hi1 hzl;rw[hzi]at hset;simp only[a3k,dlt hi,h0,hl2,cT,a08,tN,a9O hi,d5b hi1 hzl];rcases a9a f.2.2.1[i]with⟨h1,h2⟩|⟨h1,h2⟩|⟨h1,h2⟩;have h3:f.2.2.1[i] > 0:=h1;simp only[b4W,h2,a49]at hset;simp only[h3,decide_true,cT,oB,h0,hl2,a08,tN,a0c (show i<1000000 by omega)];exact congrArg (fun l=>some (Sum.inl (x1,st,(f.2.2.1.length:Int),((i+1:Nat):Int),(f.1,l,f.2.2),()))) hset;have h3:¬ f.2.2.1[i] > 0:=by omega
   have e:f.2.1[i]+-1*st=f.2.1[i]-st:=by omega
   simp only[b4W,h2,e]at hset;simp only[h3,h1,decide_true,decide_false,cT,cF,oB,h0,hl2,a08,tN,a0c (show i<1000000 by omega)];exact congrArg (fun l=>some (Sum.inl (x1,st,(f.2.2.1.length:Int),((i+1:Nat):Int),(f.1,l,f.2.2),()))) hset;have h3:¬ f.2.2.1[i] > 0:=by omega
   have h4:¬ f.2.2.1[i]<0:=by omega
   have e:W (f.2.1[i]+0*st)=f.2.1[i]:=by rw[Int.zero_mul,Int.add_zero];exact a0k (by omega)
   simp only[b4W,h2,e]at hset;simp only[h3,h4,decide_false,cF,oB,h0,hl2,cT,a08,tN,a0c (show i<1000000 by omega)];exact congrArg (fun l=>some (Sum.inl (x1,st,(f.2.2.1.length:Int),((i+1:Nat):Int),(f.1,l,f.2.2),()))) hset)
  (by
   have e1:z.take f.2.2.1.length=z:=a42 (by omega);have e2:f.2.1.drop f.2.2.1.length=[]:=a43 (by omega);simp[a3k,e1,e2])
 simp only[nZ,a50,a17,a09]at this;rw[hz];exact this
theorem d0m{f:Fil}(hf:FilOk f)(x g:Int):-256≤b4i f.1 x g∧b4i f.1 x g≤256:=by
 have hp:=c3L hf.rate;unfold b4i;rcases a9a (x-g)with⟨-,h2⟩|⟨-,h2⟩|⟨-,h2⟩<;>rw[h2]<;>omega
theorem c0q{f:Fil}(hf:FilOk f)(x:Int):a4z (f,x)=some (b0w f x):=by
 unfold a4z;have hs:=c7z hf x;simp only[a6W,oB,a7Z hf];have hs':(bif decide (a2v (a1D x (-1073741824)) 1073741823 > a0J f)then bif decide (f.1<0)then(none:Option (Int×Int×Fil×Unit))else some (a2v (a1D x (-1073741824)) 1073741823,a0F .i64 (1:Int) f.1,f,())
   else bif decide (a2v (a1D x (-1073741824)) 1073741823<a0J f)then bif decide (f.1<0)then none else some (a2v (a1D x (-1073741824)) 1073741823,wrap .i64 (0-(a0F .i64 (1:Int) f.1)),f,())
   else some (a2v (a1D x (-1073741824)) 1073741823,(0:Int),f,()))=_:=hs
 rw[hs'];simp only[oB,c5b hf (d0m hf _ _)];have h1:f.2.2.1.length≥1:=by have:=hf.pos;have:=hf.len;omega
 have h2:decide ((1:Int)≤((f.2.2.1.length:Nat):Int))=true:=by simp;omega
 have e:b5l f.2.2.1 1 (f.2.2.1.length-1) f.2.2.1=f.2.2.1.take 1++f.2.2.1.take (f.2.2.1.length-1):=by
  unfold b5l;rw[Nat.min_eq_left (by omega),a43 (by omega),List.append_nil]
 have hl:(f.2.2.1.take 1++f.2.2.1.take (f.2.2.1.length-1)).length=f.2.2.1.length:=by simp;omega
 have h3:decide ((0:Int)<(((f.2.2.1.take 1++f.2.2.1.take (f.2.2.1.length-1)).length:Nat):Int))=true:=by rw[hl];simp;omega
 simp only[h2,cT,e,h3];congr 1;have e2:(f.2.2.1.take 1++f.2.2.1.take (f.2.2.1.length-1)).set 0 (a1K x)=a1K x::f.2.2.1.take (f.2.2.1.length-1):=by
  cases hc:f.2.2.1 with
  |nil=>rw[hc]at h1;simp at h1
  |cons a l=>simp
 rw[e2];rfl
theorem c3d(x:Int):b2M x=some (a7I x):=by
 unfold b2M;rcases a9a x with⟨h1,h2⟩|⟨h1,h2⟩|⟨h1,h2⟩
 have:x > 0:=h1
 simp[this,h2]
 have:¬ x > 0:=by omega
 simp[this,h1,h2];subst h1;simp[h2]
theorem c7A{f:Fil}(hf:FilOk f){x1 s:Int}(hs:-1≤s∧s≤1):
  a0e a4e (x1,s,(0:Int),([]:List Int),([]:List Int),f,())=some (x1,a18 (b4W (s*2^f.1.toNat)) f.2.1 f.2.2.1,([]:List Int),f,()):=by
 obtain⟨z,hz⟩:∃z,a18 (b4W (s*2^f.1.toNat)) f.2.1 f.2.2.1=z:=⟨_,rfl⟩;have hlen:=hf.len;have hzl:z.length=f.2.1.length:=by rw[←hz];simp;omega
 have hm:=hf.most;have hr:=hf.rate;have hu:wrap .u64 f.1=f.1:=a1p (by omega);have hr0:¬ f.1<0:=by omega
 have:=a0I (f:=a4e) (fun i=>(x1,s,(i:Int),z.take i,([]:List Int),f,()))
  f.2.1.length (b:=(x1,z,([]:List Int),f,())) (fun i hi=>by
   have hi2:i<f.2.2.1.length:=by omega
   have h0:decide ((0:Int)≤(i:Int))=true:=by simp
   have hzi:z[i]'(by omega)=b4W (s*2^f.1.toNat) f.2.1[i] f.2.2.1[i]:=by simp only[←hz,a30]
   have hss:-1≤s*a7I f.2.2.1[i]∧s*a7I f.2.2.1[i]≤1:=by
    rcases a9a f.2.2.1[i]with⟨-,h2⟩|⟨-,h2⟩|⟨-,h2⟩<;>rw[h2]<;>omega
   have e1:wrap .i64 (s*a7I f.2.2.1[i])=s*a7I f.2.2.1[i]:=a0k (by omega);have e2:=c7c hr hss;have e3:a2v (a1D (wrap .i64 (f.2.1[i]+s*a7I f.2.2.1[i]*2^f.1.toNat)) (-1048576)) 1048576=z[i]'(by omega):=by
    rw[hzi,show s*a7I f.2.2.1[i]*2^f.1.toNat=a7I f.2.2.1[i]*(s*2^f.1.toNat)by rw[Int.mul_comm s,Int.mul_assoc]];rfl
   have e4:z.take i++[z[i]'(by omega)]=z.take (i+1):=by rw[a46,lG (by omega)];rfl
   have hl:(z.take i).length+1<1000000:=by rw[a27];omega
   simp only[a4e,dlt hi,dlt hi2,h0,cT,a08,tN,a9O hi,a9O hi2,c3d,oB,hu,hr0,decide_false,cF,a0q hl,e1,e2,e3,a24,e4,a0c (show i<1000000 by omega)])
  (by
   have e1:z.take f.2.1.length=z:=a42 (by omega);simp[a4e,e1])
 simp only[nZ,a50]at this;rw[hz];exact this
theorem c9h(f:Fil):-1073741824≤a0J f∧a0J f≤1073741823:=c1G _
theorem c3e{f:Fil}(hf:FilOk f)(x:Int):a5D (f,x)=some (b0w f x):=by
 unfold a5D;have hc:=c1G x;have hg:=c9h f;have e1:wrap .i64 (a1K x-a0J f)=a1K x-a0J f:=a0k (by omega);have hs:-1≤a7I (a1K x-a0J f)∧a7I (a1K x-a0J f)≤1:=by
  rcases a9a (a1K x-a0J f)with⟨-,h2⟩|⟨-,h2⟩|⟨-,h2⟩<;>rw[h2]<;>omega
 have h0:b2L x=some (a1K x):=rfl;have hm:=hf.most;have hlen:=hf.len;have hpos:=hf.pos;have e2:wrap .i64 (((f.2.2.1.length:Nat):Int)-1)=((f.2.2.1.length-1:Nat):Int):=by rw[a0k (by omega)];omega
 have h3:decide ((0:Int)≤((f.2.2.1.length-1:Nat):Int))=true:=by simp
 have h4:decide (((f.2.2.1.length-1:Nat):Int)≤((f.2.2.1.length:Nat):Int))=true:=by simp
 have hl:([a1K x]:List Int).length+(f.2.2.1.take (f.2.2.1.length-1)).length<1000000:=by simp;omega
 simp only[h0,oB,b2Z hf,e1,c3d,c7A hf hs,a31,a0q (show 0+1<1000000 by omega),cT,e2,h3,h4,a08,tN,a17,a24,a09,a0q hl];rfl
end Go.Ab
