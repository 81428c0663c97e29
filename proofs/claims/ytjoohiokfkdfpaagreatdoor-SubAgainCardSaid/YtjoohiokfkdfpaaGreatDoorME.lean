/- Part of the proof: It. Conditions: as each statement tells. -/
import Derived.RangeFuncBound
import Derived.RangeFuncCalls
import Derived.RangeFuncBox
import Derived.WalkKit
import Derived.OwnWalkIn
import Derived.TacticsInMore
import Derived.LoopNIn
import Derived.LoopIn
import Derived.Test.YtjoohiokfkdfpaaGreatDoorProg
import Derived.KernelRfl
import Derived.Test.YtjoohiokfkdfpaaGreatDoorMD
noncomputable section
set_option linter.unusedSimpArgs false
set_option linter.unusedVariables false
open Array renaming replicate_succ→a17,replicate_zero→a18
open Int renaming toNat→a01,tdiv→a08,tmod→a09
open List renaming replicate→a00,getD→a02,length→a03,append→a04,set→a05,take→a06,drop→a07,cons_append→a16,append_toArray→a19,size_toArray→a20,push_toArray→a21,length_nil→a22,nil_append→a23
open Nat renaming reduceAdd→a24,reduceSub→a25
open Option renaming getD_some→a26
namespace Go.Ab
open Go.Proofs Go.RowKit
attribute [local go_sem] Oper.semAt_some
set_option maxHeartbeats 1000000 in
theorem c5Y:A0h Tryz.prog 248 291:=by
 refine⟨⟨_,_,Tryz.func248,rfl,by kernel_rfl⟩,fun A len cap w=>(callsIn_wide (n:=3)).1 ?_⟩
 refine callsIn_of_wp Tryz.func248 rfl trivial ?_
 simp only[Tryz.ntmps248,a20,lC,a22,a24,a25,a17,a18,a21,a19,a23,a16]
 gi_wp2
 go_ret
 exact⟨rfl,_,rfl⟩
@[reducible] def b1k:Ty:=.pair (.int .i64) (.pair (.int .i64) .unit)
set_option maxRecDepth 100000 in
set_option maxHeartbeats 2000000 in
theorem c4v (l Bs b off len cap:Nat) (p q:Nat→Int) (J:Nat→World→Prop) (Jx:World→Prop) (W:World)
  (hJ:∀k W',J k W'→W'.cell? ⟨Bs,0,none⟩=some (.slice (some ⟨b,off,none⟩) len cap))
  (hlen:len<2147483648)
  (hcs:∀k W',k<len→J (k+1) W'→W'.cell? ⟨b,off+k*2,none⟩=some (.int .i64 (p k))∧W'.cell? ⟨b,off+k*2+1,none⟩=some (.int .i64 (q k)))
  (hY:∀n W',n<len→J (n+1) W'→YieldAt (Fr none) 0 Tryz.prog l #[.int .i64 (n:Int),.agg #[.int .i64 (p n),.int .i64 (q n)]] W' fun en W''=>(en=.returned (.bool true)∧J n W'')∨(en=.returned (.bool false)∧Jx W''))
  (h0:J len W):
  CallsIn (Fr none) 0 Tryz.prog 291 #[.func (.yield l) #[] #[],.pointer (some ⟨Bs,0,none⟩)] W fun en W'=>(∃v,en=.returned v)∧(J 0 W'∨Jx W'):=by
 refine callsIn_of_wp Tryz.func291 rfl trivial ?_
 simp only[Tryz.ntmps291,a20,lC,a22,a24,a25,a17,a18,a21,a19,a23,a16]
 have hBs:=hJ _ _ h0
 gi_wp2
 gi_loopw [3] (fun i wr=>∃k:Nat,k≤len∧i=.int .i64 ((k:Int)-1)∧J k wr) (fun i _=>(intOf i+1).toNat)
 case atStart=>exact⟨len,Nat.le_refl _,rfl,h0⟩
 case round=>
  obtain⟨k,hk,rfl,hJs⟩:=hrel
  cases k with
  |succ n=>
   obtain⟨fn,tmps,assign,body,hy,hR⟩:=hY n wr (by omega) hJs
   have hcx:=hJ _ _ hJs
   obtain⟨hc0,hc1⟩:=hcs n wr (by omega) hJs
   gi_wp2
   refine hR.mono ?_
   rintro e W3 (⟨rfl,hJ3⟩|⟨rfl,hJx3⟩)
   ·gi_wp2
    go_roundw
    case rel=>exact⟨n,by omega,by simp,hJ3⟩
    case measure=>simp[intOf]
   ·gi_wp2
    refine bodyPost_ret (results_none rfl _ _ _) rfl ?_
    exact⟨⟨_,rfl⟩,.inr hJx3⟩
  |zero=>
   gi_wp2
   go_end0
   exact⟨⟨_,rfl⟩,.inl hJs⟩
set_option maxRecDepth 100000 in
set_option maxHeartbeats 2000000 in
theorem c3H (l Bs:Nat) (A:Option Addr) (c:Nat) (J:Nat→World→Prop) (W:World) (hBs:W.cell? ⟨Bs,0,none⟩=some (.slice A 0 c)) (h0:J 0 W):
  CallsIn (Fr none) 0 Tryz.prog 291 #[.func (.yield l) #[] #[],.pointer (some ⟨Bs,0,none⟩)] W fun en W'=>(∃v,en=.returned v)∧J 0 W':=by
 refine callsIn_of_wp Tryz.func291 rfl trivial ?_
 simp only[Tryz.ntmps291,a20,lC,a22,a24,a25,a17,a18,a21,a19,a23,a16]
 gi_wp2
 gi_loopw [3] (fun i wr=>i=.int .i64 (-1)∧J 0 wr) (fun _ _=>0)
 case atStart=>exact⟨rfl,h0⟩
 case round=>
  obtain⟨rfl,hJs⟩:=hrel
  gi_wp2
  go_end0
  exact⟨⟨_,rfl⟩,hJs⟩
theorem b7D{m:Mem}{Sh:Nat→Prop}{b o:Nat}{x:b1k.den}{R}(h:dec m b1k ((Src.at b o).rd m)=some (x,[],R)):
  m b o=some (.int .i64 x.1)∧m b (o+1)=some (.int .i64 x.2.1)∧VOk m Sh b1k x (.agg #[.int .i64 x.1,.int .i64 x.2.1]):=by
 obtain⟨p,q,u⟩:=x;simp only[b1k,dec,Src.rd,Ty.cells,Nat.add_zero]at h
 split at h
 cases h;rename_i r o1 j g
 split at g
 rename_i n c
 split at g
 rename_i e;subst e;simp only[sj]at g;obtain⟨rfl,rfl,rfl⟩:=g
 split at h
 cases h;rename_i s o2 r2 k
 split at k
 cases k;rename_i t i l f
 split at f
 rename_i d a
 split at f
 rename_i e;subst e;simp only[sj]at f k h;obtain⟨rfl,rfl,rfl⟩:=f;obtain⟨rfl,rfl,rfl⟩:=k;obtain⟨⟨rfl,rfl,rfl⟩,-,-⟩:=h;exact⟨c,a,fun _=>⟨_,rfl,rfl⟩,fun h=>(by cases h),[],rfl,by simp⟩;cases f;cases f;cases g;cases g
theorem b7W {P:Program} {f:FuncId} (hb:l0x P f) (args:Array Value) (w:World):(callFunc f args).run P w=.ok (.enter f args) w:=by
 obtain ⟨fn,c',h1,h2,h3⟩:=hb;have h4 : ¬ fn.name = "runtime.NumGoroutine" := by simpa using h3
 simp [callFunc,program,Sem.run,h1,h2,h4,Result.andThen]
theorem c5Z:w0n Tryz.prog 291 b1k:=by
 refine⟨fun args w=>b7W ⟨_,_,Tryz.func291,rfl,by kernel_rfl⟩ args w,fun l Bs sv f J D W i t L o=>?_⟩;obtain⟨z,Sh,y⟩:=t _ _ o;obtain⟨A,n,c,rfl,rfl,N,v,j⟩:=y.header
 by_cases hx0:f.length=0
 rw[hx0]at o z;exact(c3H l Bs A c J W z o).mono fun e g h=>⟨h.1,.inl h.2⟩;cases A with
 |none=>have:=j rfl;omega
 |some A=>
  obtain⟨b,off,B⟩:=A
  have:=(v _ rfl).resolve_left (by omega)
  simp only at this;subst this;have u:∀k g,k<f.length→J (k+1) g→∃x,f[k]?=some x∧g.cell? ⟨b,off+k*2,none⟩=some (.int .i64 x.1)∧g.cell? ⟨b,off+k*2+1,none⟩=some (.int .i64 x.2.1):=by
   intro k g p d;obtain⟨-,a,hv⟩:=t _ _ d;obtain⟨C,O,E,R,e,F,G,H,s,I,K⟩:=hv.elem rfl (lG p);simp only[Value.slice.injEq,sj]at e;obtain⟨rfl,rfl,rfl⟩:=e;obtain⟨q,r,-⟩:=b7D (Sh:=a) s;exact⟨_,lG p,q,r⟩
  refine c4v l Bs b off f.length c (fun k=>((f[k]?).getD b1k.dflt).1) (fun k=>((f[k]?).getD b1k.dflt).2.1) J D W (fun k g d=>(t k g d).1) i (fun k g p d=>?_) (fun n g M d=>?_) o;obtain⟨x,m,q,r⟩:=u k g p d;simp only[m,a26];exact⟨q,r⟩;have m:f[n]?=some f[n]:=lG M;simp only[m,a26];refine L n _ _ g m d fun a hv=>?_
  obtain⟨C,O,E,R,e,F,G,H,s,I,K⟩:=hv.elem rfl m;exact(b7D (Sh:=a) s).2.2
end Go.Ab
namespace Go.Ab
open IntKind(wrap)
open Go.Proofs
set_option maxRecDepth 100000
set_option linter.unusedVariables false
@[reducible] def QI:Ty:=.int .i64
@[reducible] def QL:Ty:=.list false QI
@[reducible] def QU:Ty:=.int .u64
@[reducible] def QV:Ty:=.int .u8
@[reducible] def QB:Ty:=.list false QV
@[reducible] def LI:Type:=List Int
instance (n:Nat):OfNat Ent n:=⟨.sv n QI⟩
@[reducible] def Qp(i n:Nat):Ent:=.ptr i n []
@[reducible] def Qn(l:a0c):Ex×a0c:=(.normal,l)
@[reducible] def Qe(n:Nat)(l:a0c):Ex×a0c:=(.exit n,l)
@[reducible] def Qr(l:a0c):Ex×a0c:=(.ret,l)
def QH:Hints:=⟨[],[],[]⟩
@[reducible] def Z0:Type:=(Unit ⊕ (Bool×Unit))
@[reducible] def Z1:Type:=(Int×(Int×LI))
@[reducible] def Z2:Type:=(LI×(Int×Int))
@[reducible] def Z3:Type:=(Int×(LI×Unit))
@[reducible] def Z4:Type:=(LI×(Int×Unit))
@[reducible] def Z5:Type:=(List (Int×(Int×Unit)))
@[reducible] def Z6:Type:=(Bool×(LI×Unit))
@[reducible] def Z7:Type:=(LI×(Bool×Unit))
@[reducible] def Z8:Type:=(Int×(Int×(Int×Unit)))
@[reducible] def Z9:Type:=((LI×Unit)×Unit)
@[reducible] def Z10:Type:=(Int×(Int×(Bool×Unit)))
@[reducible] def Z11:Type:=(LI×(LI×Int))
@[reducible] def Z12:Type:=(LI×(Int×LI))
@[reducible] def Z13:Type:=(LI×(LI×Unit))
@[reducible] def Z14:Type:=(LI×(Int×(Int×Unit)))
@[reducible] def Z15:Type:=(Int×Z3)
@[reducible] def Z16:Type:=(Int×Z4)
@[reducible] def Z17:Type:=(Int×Z6)
@[reducible] def Z18:Type:=(LI×(Int×(Bool×Unit)))
@[reducible] def Z19:Type:=(Z3×Unit)
@[reducible] def Z20:Type:=(Z4×Unit)
@[reducible] def Z21:Type:=(Int×Z8)
@[reducible] def Z22:Type:=(Bool×Z3)
@[reducible] def Z23:Type:=(Int×Z9)
@[reducible] def Z24:Type:=(Int×Z10)
@[reducible] def Z25:Type:=((List LI)×(LI×Unit))
@[reducible] def Z26:Type:=(Int×Z13)
@[reducible] def Z27:Type:=(LI×Z5)
@[reducible] def Z28:Type:=(LI×Z3)
@[reducible] def Z29:Type:=(Int×Z14)
@[reducible] def Z30:Type:=(Int×Z15)
@[reducible] def Z31:Type:=(LI×Z8)
@[reducible] def Z32:Type:=(LI×Z10)
@[reducible] def Z33:Type:=(Int×Z17)
@[reducible] def Z34:Type:=(Int×Z20)
@[reducible] def Z35:Type:=(Int×Z21)
@[reducible] def Z36:Type:=(Z5×(Int×Unit))
@[reducible] def Z37:Type:=(Int×Z23)
@[reducible] def Z38:Type:=(Bool×Z19)
@[reducible] def Z39:Type:=(Int×Z24)
@[reducible] def Z40:Type:=(LI×Z13)
@[reducible] def Z41:Type:=(LI×Z15)
@[reducible] def Z42:Type:=(Int×Z26)
@[reducible] def Z43:Type:=(Z26×Int)
@[reducible] def Z44:Type:=(LI×Z14)
@[reducible] def Z45:Type:=((LI×Unit) ⊕ Z3)
@[reducible] def Z46:Type:=(Z3×(LI×Unit))
@[reducible] def Z47:Type:=(Int×Z29)
@[reducible] def Z48:Type:=(LI×Z18)
@[reducible] def Z49:Type:=(Z26×Unit)
@[reducible] def Z50:Type:=(LI×Z19)
@[reducible] def Z51:Type:=(Int×Z30)
@[reducible] def Z52:Type:=(Int×Z34)
@[reducible] def Z53:Type:=(Int×Z35)
@[reducible] def Z54:Type:=(Z14 ⊕ (Int×Unit))
@[reducible] def Z55:Type:=(Z4 ⊕ Z0)
@[reducible] def Z56:Type:=(Int×Z40)
@[reducible] def Z57:Type:=(Int×Z41)
@[reducible] def Z58:Type:=(Z3×Z1)
@[reducible] def Z59:Type:=(LI×Z29)
@[reducible] def Z60:Type:=(LI×Z31)
@[reducible] def Z61:Type:=(LI×Z30)
@[reducible] def Z62:Type:=(LI×Z33)
@[reducible] def Z63:Type:=(Int×Z49)
@[reducible] def Z64:Type:=(Int×Z50)
@[reducible] def Z65:Type:=(Z5×Z3)
@[reducible] def Z66:Type:=(Z14 ⊕ Z0)
@[reducible] def Z67:Type:=(LI×Z41)
@[reducible] def Z68:Type:=(LI×Z42)
@[reducible] def Z69:Type:=(Int×Z56)
@[reducible] def Z70:Type:=(LI×Z46)
@[reducible] def Z71:Type:=(LI×Z47)
@[reducible] def Z72:Type:=(LI×Z49)
@[reducible] def Z73:Type:=(LI×Z48)
@[reducible] def Z74:Type:=(Int×Z57)
@[reducible] def Z75:Type:=(Int×Z63)
@[reducible] def Z76:Type:=(Int×Z64)
@[reducible] def Z77:Type:=(LI×Z52)
@[reducible] def Z78:Type:=(Z3×Z19)
@[reducible] def Z79:Type:=(Z4×Z19)
@[reducible] def Z80:Type:=(Int×Z68)
@[reducible] def Z81:Type:=(LI×Z57)
@[reducible] def Z82:Type:=(Int×Z69)
@[reducible] def Z83:Type:=(Int×Z72)
@[reducible] def Z84:Type:=(Int×Z75)
@[reducible] def Z85:Type:=(Int×Z76)
@[reducible] def Z86:Type:=(Int×Z77)
@[reducible] def Z87:Type:=(Int×Z78)
@[reducible] def Z88:Type:=(Int×Z83)
@[reducible] def Z89:Type:=(LI×Z79)
@[reducible] def Z90:Type:=(Int×Z87)
@[reducible] def Z91:Type:=(LI×Z85)
@[reducible] def Z92:Type:=(Int×Z89)
@[reducible] def Z93:Type:=(Z5×Z70)
@[reducible] def Z94:Type:=(LI×Z90)
@[reducible] def Z95:Type:=(Int×Z92)
@[reducible] def Z96:Type:=(Z3×Z78)
@[reducible] def Z97:Type:=(Int×Z94)
@[reducible] def Z98:Type:=(LI×Z93)
@[reducible] def Z99:Type:=(LI×Z95)
@[reducible] def c2a:Type:=(Z5×Z88)
@[reducible] def c8F:Type:=(LI×Z96)
@[reducible] def c8G:Type:=(Int×Z97)
@[reducible] def c8H:Type:=(Int×c8F)
@[reducible] def c2b:Type:=(Int×c8G)
@[reducible] def c8I:Type:=(LI×Z98)
@[reducible] def c2c:Type:=(Int×c8H)
@[reducible] def c8J:Type:=(Int×c8I)
@[reducible] def c8K:Type:=(Int×c8J)
@[reducible] def c8L:Type:=(Int×c8K)
@[reducible] def c8M:Type:=(Int×c8L)
@[reducible] def a1h:Type:=(Int×c8M)
@[reducible] def a7i:Type:=(List a1h)
@[reducible] def a7j:Type:=(a1h×Int)
@[reducible] def b3I:Type:=(a1h×Unit)
@[reducible] def b9d:Type:=(a7i×Unit)
@[reducible] def c2d:Type:=(Bool×b3I)
@[reducible] def c6u:Type:=(LI×b3I)
@[reducible] def c8N:Type:=(Int×b9d)
@[reducible] def b3J:Type:=(Int×c2d)
@[reducible] def c2e:Type:=(a7i×(LI×Unit))
@[reducible] def c8O:Type:=(Int×c6u)
@[reducible] def c8P:Type:=((LI×Unit)×b3I)
@[reducible] def c2f:Type:=(Int×b3J)
@[reducible] def c2g:Type:=(LI×c8N)
@[reducible] def c2h:Type:=(Int×c8O)
@[reducible] def c8Q:Type:=(Z4×b3I)
@[reducible] def c8R:Type:=(Int×c8P)
@[reducible] def c2i:Type:=(Int×c8Q)
@[reducible] def c2j:Type:=(Int×c8R)
@[reducible] def b2n:Type:=(Int×c2i)
@[reducible] def a9x:Type:=(a1h×b3I)
@[reducible] def c6v:Type:=(Int×a9x)
@[reducible] def c2k:Type:=(Int×c6v)
@[reducible] def c2l:Type:=(a1h×a9x)
@[reducible] def Q0:Ty:=(.pair QI .unit)
@[reducible] def Q1:Ty:=(.pair (.list true QV) .unit)
@[reducible] def Q2:Ty:=(.pair (.list true QI) .unit)
@[reducible] def Q3:Ty:=(.pair QL .unit)
@[reducible] def Q4:Ty:=(.pair QI Q0)
@[reducible] def Q5:Ty:=(.pair (.list true QV) Q0)
@[reducible] def Q6:Ty:=(.pair QI Q2)
@[reducible] def Q7:Ty:=(.pair QI Q3)
@[reducible] def Q8:Ty:=(.pair (.list true QI) Q2)
@[reducible] def Q9:Ty:=(.pair QI Q8)
@[reducible] def Q10:Ty:=(.pair Q7 Q3)
@[reducible] def Q11:Ty:=(.pair QL Q10)
@[reducible] def Q12:Ty:=(.pair (.list false Q4) Q11)
@[reducible] def Q13:Ty:=(.pair (.arr 3 QI) Q12)
@[reducible] def Q14:Ty:=(.pair QL Q13)
@[reducible] def Q15:Ty:=(.pair QI Q14)
@[reducible] def Q16:Ty:=(.pair QI Q15)
@[reducible] def Q17:Ty:=(.pair QI Q16)
@[reducible] def Q18:Ty:=(.pair QI Q17)
@[reducible] def Q19:Ty:=(.pair QI Q18)
def b8V:List (Nat×Ty):=[(2,.int .i64),(3,.int .i64),(5,.int .u8),(22,.list false QL),(31,.list false Q19),(34,.int .i64),(37,.list false QV),(46,.list false QI),(47,.arr 3 QI),(48,.list false Q4),(50,.pair QI Q3),(52,.pair QI Q18),(60,.list false (.int .i16)),(61,.int .i16),(74,.int .u64),(93,.pair QB Q0),(103,.int .u64),(161,.pair QI Q0),(198,.pair QB .unit),(243,.arr 64 QV),(274,.list false (.arr 3 QI)),(283,.pair QI (.pair QL Q3)),(293,.pair QI (.pair QL Q3))]
def T0:Nat→Option Ty:=fun t=>find b8V t
def c2m:List Nat:=[47,161]
def c8S:Nat→Bool:=fun t=>c2m.contains t
def b9e:List Nat:=[]
def c8T:Nat→Bool:=fun t=>b9e.contains t
def a9N:(List Int):=[0,1,56,2,57,49,28,3,61,58,42,50,38,29,17,4,62,47,59,36,45,43,51,22,53,39,33,30,24,18,12,5,63,55,48,27,60,41,37,16,46,35,44,21,52,32,23,11,54,26,40,15,34,20,31,10,25,14,19,9,13,8,7,6]
def G0:Nat→Option ((t:Ty)×t.den):=fun g=>find ([(0,⟨.arr 64 QV,a9N⟩)]:List (Nat×((t:Ty)×t.den))) g
@[reducible] def b5d(a:List (Nat×FSem))(b:List (Nat×Ty))(c d:Nat):Cx:=⟨c8T,c8S,T0,fun f=>find a f,fun n=>find b n,c.testBit,d.testBit,G0⟩
def a2w(s:Z14):Option Z66:=(fun(a b:Int)=>cond (decide (b<a)) ((m0k s.1 b).bind fun x1=>(show Option Z32 from cond (decide (x1<(-1073741824))) (some (s.1,a,b,true,())) (some (s.1,a,b,decide (x1≥1073741824),()))).bind fun z2=>cond z2.2.2.2.1 (some (.inr (Sum.inr ((false,()))))) (some (.inl (z2.1,z2.2.1,wrap .i64 (z2.2.2.1+1),())))) (some (.inr (Sum.inl ())))) s.2.1 s.2.2.1
def a2o(x:LI):Option Bool:=(y0s a2w (x,(x.length:Int),0,())).bind fun w3=>match w3 with |.inl a4=>some true |.inr b5=>some b5.1
def b7X:FSem:=⟨[.v QL],[.v .bool],a2o⟩
def H60:Hints:=⟨[(26,[.sv 5 QL,6,7],[Qe 0 [],Qr [.sv 2 .bool]])],[(1689,[Qn [.sv 5 QL,6,7,.sv 16 .bool]])],[]⟩
def a4R(x:Int):Option Bool:=cond (decide ((-1073741824)≤x)) (some (decide (x<1073741824))) (some false)
def b7Y:FSem:=⟨[.v QI],[.v .bool],a4R⟩
def a6l(s:Z57):Option (Z57 ⊕ Z45):=(fun(a:Int)(b:LI)(c d:Int)(e:LI)=>cond (decide (d<c)) ((m0k b d).bind fun x2=>(show Option (Int×Int×Z62)from(a4R x2).bind fun y3=>cond (!y3) (some (a,x2,b,c,d,true,e,())) (cond (decide (a<0)) none (cond ((A0n .i64 1 a)==0) none (some (a,x2,b,c,d,(a09 x2 (A0n .i64 1 a)) != 0,e,()))))).bind fun z4=>cond z4.2.2.2.2.2.1 (some (.inr (Sum.inr ((6,[],()))))) (cond (decide (z4.1<0)) none (cond (lim ((a03 z4.2.2.2.2.2.2.1)+1)) (some (.inl (z4.1,z4.2.2.1,z4.2.2.2.1,wrap .i64 (z4.2.2.2.2.1+1),a04 z4.2.2.2.2.2.2.1 [A0o .i64 z4.2.1 z4.1],()))) none))) (some (.inr (Sum.inl (e,()))))) s.1 s.2.1 s.2.2.1 s.2.2.2.1 s.2.2.2.2.1
def a6B(x:(LI×Int)):Option (LI×Int):=(show Option Z18 from cond (decide (x.2<0)) (some (x.1,x.2,true,())) (some (x.1,x.2,decide (x.2 > 30),()))).bind fun z1=>cond z1.2.2.1 (some ([],1)) ((y0s a6l (z1.2.1,z1.1,(z1.1.length:Int),0,[],())).bind fun w5=>match w5 with |.inl a6=>some (a6.1,0) |.inr b7=>some (b7.2.1,b7.1))
def b7Z:FSem:=⟨[.v QL,.v QI],[.o QI,.v QI],a6B⟩
def H61:Hints:=⟨[(122,[1,.sv 15 QL,16,17,.own 6 6 QI],[Qe 0 [.own 6 6 QI],Qr [5,.own 4 4 QI]])],[(6,[Qn [.sv 0 QL,1,.sv 14 .bool]]),(15666,[Qn [1,8,.sv 15 QL,16,17,.sv 30 .bool,.own 6 6 QI]])],[]⟩
def a1K(x:Int):Option Int:=cond (x==0) (some 64) ((m0k a9N (A0o .u64 (wrap .u64 ((bits .u64 .and x (wrap .u64 (0-x)))*285870213051353865)) 58)).bind fun x1=>some (wrap .i64 x1))
def a1u:FSem:=⟨[.v QU],[.v QI],a1K⟩
def a8H:Cx:=b5d [] [] 5 0
theorem b4K{ρ:Type}{cx:Cx}{ops:List Oper}:∀(l1 l2:List (Md×Oper)) (Γ:AE) (K:AE→Rs ρ),h0m cx ops (l1++l2) Γ K=h0m cx ops l1 Γ fun Γ'=>h0m cx ops l2 Γ' K
 | [],_,_,_=>rfl
 |(md,o)::l1,l2,Γ,K=>by
  simp only[a16,h0m];congr 1;funext Γ';exact b4K l1 l2 Γ' K
theorem b3K{ρ:Type}{cx:Cx}{H:Hints}{a b:Code}{p:Nat}(h:find H.cuts p=none)(Γ:AE)(K:Ex→AE→Rs ρ):c0n cx H (.seq a b) p Γ K=c0n cx H a (2*p) Γ fun e Γ'=>match e with
   |.normal=>c0n cx H b (2*p+1) Γ' K
   |e=>K e Γ':=by
 simp only[c0n,h];rfl
theorem b9f{ρ:Type}{cx:Cx}{H:Hints}{id:Nat}{ops:Array Oper}{p:Nat}(Γ:AE)(K:Ex→AE→Rs ρ):c0n cx H (.region id ops false) p Γ K=h0m cx ops.toList (ops.toList.map fun o=>(.x,o)) Γ fun Γ'=>K .normal Γ':=by
 simp only[c0n,cF]
def a8B:Code:=match Tryz.f139.body with
 |some c=>c
 |none=>.skip
def b6W:Code→Code
 |.seq a _=>a
 |c=>c
def c2n:Code→Code
 |.seq _ b=>b
 |c=>c
def c3I:Code→Array Oper
 |.region _ ops _=>ops
 |_=>#[]
def c1P:Code:=c2n (c2n a8B)
def b1l:List Oper:=(c3I (b6W c1P)).toList
def Γ139(x:Int):AE:=(((ini [.v QU] x).set 2 (.val QI (0:Int))).set 3 (.val QU x)).set 4 (.val .bool (x==(0:Int)))
def Γ139r(x:Int):AE:=(Γ139 x).set 2 (.val QI (64:Int))
def b9g(e:Ex)(Γ:AE):Option Int:=match e,Γ.pd with
  |.exit _,_=>none
  |_,some _=>none
  |_,none=>(Γ.upto Tryz.f139.ntmps).outs a8H [] Tryz.f139.ntmps [.v QI] (Tryz.f139.results.toList.map .inl) fun y _=>some y
def Γ139b(x a b c i:Int):AE:=((((((Γ139 x).set 5 (.val QU x)).set 6 (.val QU x)).set 7 (.val QU a)).set 8 (.val QU b)).set 9 (.val QU c)).set 10 (.val QU i)
set_option maxRecDepth 100000
theorem c4w:a8B=.seq (b6W a8B) (.seq (b6W (c2n a8B)) (.seq (.region 3 (c3I (b6W c1P)) false) .ret)):=by kernel_rfl
theorem c6a(x:Int):A0j a8H QH Tryz.f139 a1u.ps a1u.rs x=c0n a8H QH a8B 1 (ini [.v (.int .u64)] x) b9g:=rfl
theorem c6b(x:Int)(K:Ex→AE→Option Int):c0n a8H QH (b6W a8B) 2 (ini [.v (.int .u64)] x) K=K .normal ((ini [.v (.int .u64)] x).set 2 (.val (.int .i64) (0:Int))):=by kernel_rfl
theorem c6c(x:Int)(K:Ex→AE→Option Int):c0n a8H QH (b6W (c2n a8B)) 6 ((ini [.v (.int .u64)] x).set 2 (.val (.int .i64) (0:Int))) K=bif x==(0:Int)then K .ret (Γ139r x)else K .normal (Γ139 x):=by kernel_rfl
theorem c6d(x:Int):b9g .ret (Γ139r x)=some (64:Int):=by kernel_rfl
theorem c6e(x:Int)(K:AE→Option Int):h0m a8H b1l ((b1l.map fun o=>(Md.x,o)).take 6) (Γ139 x) K =
  K (Γ139b x (wrap .u64 (0-x)) (bits .u64 .and x (wrap .u64 (0-x))) (wrap .u64 ((bits .u64 .and x (wrap .u64 (0-x)))*(285870213051353865:Int))) (A0o .u64 (wrap .u64 ((bits .u64 .and x (wrap .u64 (0-x)))*(285870213051353865:Int))) (58:Int))):=by kernel_rfl
theorem c6f(x a b c i:Int):h0m a8H b1l ((b1l.map fun o=>(Md.x,o)).drop 6) (Γ139b x a b c i) (fun Γ=>b9g .ret Γ)=(m0k a9N i).bind fun h=>some (wrap .i64 h):=by kernel_rfl
theorem c6g(x:Int):h0m a8H b1l (b1l.map fun o=>(Md.x,o)) (Γ139 x) (fun Γ=>b9g .ret Γ)=(m0k a9N (A0o .u64 (wrap .u64 ((bits .u64 .and x (wrap .u64 (0-x)))*(285870213051353865:Int))) (58:Int))).bind fun h=>some (wrap .i64 h):=by
 rw[←List.take_append_drop 6 (b1l.map fun o=>(Md.x,o)),b4K,c6e,c6f]
theorem c6w(x:Int):c0n a8H QH a8B 1 (ini [.v (.int .u64)] x) b9g=a1K x:=by
 rw[c4w,b3K rfl,c6b];simp only[];rw[b3K rfl,c6c];simp only[];rw[b3K rfl,b9f];simp only[c0n];rw[c6d];exact congrArg (fun z=>bif x==(0:Int)then some (64:Int)else z) (c6g x)
theorem c6V(x):A0j a8H QH Tryz.f139 a1u.ps a1u.rs x=a1u.F x:=(c6a x).trans (c6w x)
def a5b(s:Z29):Option (Z29 ⊕ (Int×Unit)):=(fun(a b:Int)=>cond (decide (b<a)) ((m0k s.2.1 b).bind fun x1=>some (.inl (bits .i64 .or s.1 x1,s.2.1,a,wrap .i64 (b+1),()))) (some (.inr (s.1,())))) s.2.2.1 s.2.2.2.1
def a3I(x:LI):Option Int:=(y0s a5b (0,x,(x.length:Int),0,())).bind fun w2=>cond (w2.1==0) (some 0) ((a1K (wrap .u64 w2.1)).bind fun y3=>some (v0s y3 30))
def b5O:FSem:=⟨[.v QL],[.v QI],a3I⟩
def H62:Hints:=⟨[(58,[3,.sv 6 QL,7,8],[Qe 0 [3]])],[],[]⟩
def a5c(s:Z14):Option Z66:=(fun(a b:Int)=>cond (decide (b<a)) ((m0k s.1 b).bind fun x2=>(show Option Z32 from cond (decide (x2<(-32768))) (some (s.1,a,b,true,())) (some (s.1,a,b,decide (x2≥32768),()))).bind fun z3=>cond z3.2.2.2.1 (some (.inr (Sum.inr ((false,()))))) (some (.inl (z3.1,z3.2.1,wrap .i64 (z3.2.2.1+1),())))) (some (.inr (Sum.inl ())))) s.2.1 s.2.2.1
def a4x(x:(LI×Int)):Option Bool:=(show Option Z7 from cond (decide ((x.1.length:Int)<1)) (some (x.1,true,())) (cond (decide ((x.1.length:Int) > 32)) (some (x.1,true,())) (cond (decide (x.2<0)) (some (x.1,true,())) (some (x.1,decide (x.2 > 15),()))))).bind fun z1=>cond z1.2.1 (some false) ((y0s a5c (z1.1,(z1.1.length:Int),0,())).bind fun w4=>match w4 with |.inl a5=>some true |.inr b6=>some b6.1)
def b9h:FSem:=⟨[.v QL,.v QI],[.v .bool],a4x⟩
def c8U:Hints:=⟨[(58,[.sv 23 QL,24,25],[Qe 0 [],Qr [.sv 4 .bool]])],[(6,[Qn [.sv 0 QL,.sv 22 .bool]]),(3737,[Qn [.sv 23 QL,24,25,.sv 34 .bool]])],[]⟩
def a6C(s:Z4):Option Z55:=cond (decide (s.2.1<3)) ((m0k s.1 s.2.1).bind fun x2=>(show Option Z18 from cond (decide (x2<(-64))) (some (s.1,s.2.1,true,())) (some (s.1,s.2.1,decide (x2 > 64),()))).bind fun z3=>cond z3.2.2.1 (some (.inr (Sum.inr ((false,()))))) (some (.inl (z3.1,wrap .i64 (z3.2.1+1),())))) (some (.inr (Sum.inl ())))
def a7y(x:(Int×LI)):Option Bool:=(show Option Z6 from cond (decide (x.1<2)) (some (true,x.2,())) (some (decide (x.1 > 1024),x.2,()))).bind fun z1=>cond z1.1 (some false) ((y0s a6C (z1.2.1,0,())).bind fun w4=>match w4 with |.inl a5=>some true |.inr b6=>some b6.1)
def c2o:FSem:=⟨[.v QI,.v (.arr 3 QI)],[.v .bool],a7y⟩
def c8V:Hints:=⟨[(58,[.sv 13 (.arr 3 QI),14],[Qe 0 [],Qr [.sv 4 .bool]])],[(6,[Qn [.sv 12 .bool,.vp 3 (.arr 3 QI)]]),(3737,[Qn [.sv 13 (.arr 3 QI),14,.sv 22 .bool]])],[]⟩
def a6D(x:(Int×Int×Unit)):Option Bool:=cond (decide (x.1≥1)) (cond (decide (x.1≤32)) (cond (decide (x.2.1≥0)) (some (decide (x.2.1≤8))) (some false)) (some false)) (some false)
def b8a:FSem:=⟨[.v Q4],[.v .bool],a6D⟩
def a5S(s:(Z5×Int×Int×Unit)):Option ((Z5×Int×Int×Unit) ⊕ Z0):=cond (decide (s.2.2.1<s.2.1)) ((m0k s.1 s.2.2.1).bind fun x1=>(a6D x1).bind fun y2=>cond (!y2) (some (.inr (Sum.inr ((false,()))))) (some (.inl (s.1,s.2.1,wrap .i64 (s.2.2.1+1),())))) (some (.inr (Sum.inl ())))
def a6N(x:Z5):Option Bool:=cond (decide ((x.length:Int) > 3)) (some false) ((y0s a5S (x,(x.length:Int),0,())).bind fun w3=>match w3 with |.inl a4=>some true |.inr b5=>some b5.1)
def b4L:FSem:=⟨[.v (.list false Q4)],[.v .bool],a6N⟩
def c8W:Hints:=⟨[(58,[.sv 8 (.list false Q4),9,10],[Qe 0 [],Qr [.sv 2 .bool]])],[],[]⟩
def b0D(x:(Int×a7j)):Option Bool:=(show Option c2f from cond (x.1==0) (some (x.2.2,x.1,x.1==0,x.2.1,())) (some (x.2.2,x.1,x.1==1,x.2.1,()))).bind fun z1=>cond z1.2.2.1 (some true) (cond (z1.2.1==2) (cond (decide (z1.2.2.2.1.2.2.1≥0)) (cond (decide (z1.2.2.2.1.2.2.1≤4)) (some (decide (z1.2.2.2.1.2.2.1≤z1.1))) (some false)) (some false)) (cond (z1.2.1==3) ((a4x (z1.2.2.2.1.2.2.2.2.2.1,z1.2.2.2.1.2.2.2.1)).bind fun y2=>cond y2 (some (decide ((z1.2.2.2.1.2.2.2.2.2.1.length:Int)≤z1.1))) (some false)) (cond (z1.2.1==4) ((a4x (z1.2.2.2.1.2.2.2.2.2.1,z1.2.2.2.1.2.2.2.1)).bind fun y3=>cond y3 (cond (decide ((z1.2.2.2.1.2.2.2.2.2.1.length:Int)≤z1.1)) ((a7y (z1.2.2.2.1.2.2.2.2.1,z1.2.2.2.1.2.2.2.2.2.2.1)).bind fun y4=>some y4) (some false)) (some false)) (cond (z1.2.1==5) (cond (decide ((z1.2.2.2.1.2.2.2.2.2.2.2.1.length:Int) > 0)) ((a6N z1.2.2.2.1.2.2.2.2.2.2.2.1).bind fun y5=>some y5) (some false)) (some false)))))
def c3J:FSem:=⟨[.v QI,.v Q19,.v QI],[.v .bool],b0D⟩
def c8X:Hints:=⟨[],[(26,[Qn [2,7,.sv 8 .bool,.vp 4 Q19]])],[]⟩
def a1n(x:LI):Option LI:=x0e x
def a1U:FSem:=⟨[.v QL],[.o QI],a1n⟩
def c5g:Cx:=b5d [] [] 5 0
theorem c6W(x):A0j c5g QH Tryz.f192 a1U.ps a1U.rs x=a1U.F x:=Eq.trans (show _=w0u x by kernel_rfl) (A0x x)
def a3P(x:LI):Option LI:=x0e x
def a2p:FSem:=⟨[.v QL],[.v QL],a3P⟩
def c3K:Cx:=b5d [] [] 5 0
theorem c6x(x):A0j c3K QH Tryz.f192 a2p.ps a2p.rs x=a2p.F x:=Eq.trans (show _=w0u x by kernel_rfl) (A0x x)
def a1s(x:Z5):Option Z5:=x0e x
def a1t:FSem:=⟨[.v (.list false Q4)],[.v (.list false Q4)],a1s⟩
def c3L:Cx:=b5d [] [] 5 0
theorem c6y(x):A0j c3L QH Tryz.f204 a1t.ps a1t.rs x=a1t.F x:=Eq.trans (show _=w0u x by kernel_rfl) (A0x x)
def a5T(x:(Int×a1h)):Option a1h:=(show Option a9x from(show Option (c2l ⊕ (a9x ⊕ c2l))from cond (x.1==2) (some (Sum.inr (Sum.inl ((0,0,0,0,0,[],a00 3 0,[],[],(0,[],()),[],()),(x.1,0,x.2.2.2.1,0,0,[],a00 3 0,[],[],(0,[],()),[],()),())))) (cond (x.1==4) (some (Sum.inl ((0,0,0,0,0,[],a00 3 0,[],[],(0,[],()),[],()),(x.1,0,0,0,x.2.2.2.2.2.1,[],x.2.2.2.2.2.2.2.1,[],[],(0,[],()),[],()),x.2,()))) (cond (x.1==3) (some (Sum.inl ((0,0,0,0,0,[],a00 3 0,[],[],(0,[],()),[],()),(x.1,0,0,0,0,[],a00 3 0,[],[],(0,[],()),[],()),x.2,()))) (cond (x.1==5) (some (Sum.inr (Sum.inr (((0,0,0,0,0,[],a00 3 0,[],[],(0,[],()),[],()),(x.1,0,0,0,0,[],a00 3 0,[],[],(0,[],()),[],()),x.2,()))))) (some (Sum.inr (Sum.inl ((0,0,0,0,0,[],a00 3 0,[],[],(0,[],()),[],()),(x.1,0,0,0,0,[],a00 3 0,[],[],(0,[],()),[],()),())))))))).bind fun z1=>match z1 with |.inl a2=>((a3P a2.2.2.1.2.2.2.2.2.1).bind fun y4=>some (a2.1,(a2.2.1.1,a2.2.1.2.1,a2.2.1.2.2.1,a2.2.2.1.2.2.2.1,a2.2.1.2.2.2.2.1,y4,a2.2.1.2.2.2.2.2.2),())) |.inr b3=>(match b3 with |.inl a5=>some (a5.1,a5.2.1,()) |.inr b6=>((a1s b6.2.2.1.2.2.2.2.2.2.2.1).bind fun y7=>some (b6.1,(b6.2.1.1,b6.2.1.2.1,b6.2.1.2.2.1,b6.2.1.2.2.2.1,b6.2.1.2.2.2.2.1,b6.2.1.2.2.2.2.2.1,b6.2.1.2.2.2.2.2.2.1,y7,b6.2.1.2.2.2.2.2.2.2.2),())))).bind fun z8=>some z8.2.1
def b9i:FSem:=⟨[.v QI,.v Q19],[.v Q19],a5T⟩
def c8Y:Hints:=⟨[],[(7,[Qn [.box 4 Q19,.box 5 Q19,Qp 4 4,Qp 5 5]]),(232,[Qn [.box 4 Q19,.box 5 Q19,.vp 3 Q19,Qp 4 4,Qp 5 5],Qe 0 [.box 4 Q19,.box 5 Q19,Qp 4 4,Qp 5 5],Qe 4 [.box 4 Q19,.box 5 Q19,.vp 3 Q19,Qp 4 4,Qp 5 5]])],[(8,[.v,.v,.v,.v,.q,.w [0,5],.x,.x]),(9,[.v,.v,.v,.v,.v,.q,.w [0,5],.x,.x])]⟩
def a7k(x:a7j):Option Int:=cond (x.1.1==0) (some 1) (cond (x.1.1==1) (some x.2) (cond (x.1.1==2) (some x.1.2.2.1) ((show Option c2d from cond (x.1.1==3) (some (x.1.1==3,x.1,())) (some (x.1.1==4,x.1,()))).bind fun z1=>cond z1.1 (some (z1.2.1.2.2.2.2.2.1.length:Int)) (some 0))))
def b9j:FSem:=⟨[.v Q19,.v QI],[.v QI],a7k⟩
def c8Z:Hints:=⟨[],[(1727,[Qn [.sv 16 .bool,.vp 2 Q19]])],[]⟩
def b1N(s:Z14):Option Z66:=(fun(a b:Int)=>cond (decide (b<a)) ((m0k s.1 b).bind fun x1=>(show Option Z32 from cond (decide (x1<(-1073741824))) (some (s.1,a,b,true,())) (some (s.1,a,b,decide (x1≥1073741824),()))).bind fun z2=>cond z2.2.2.2.1 (some (.inr (Sum.inr ((false,()))))) (some (.inl (z2.1,z2.2.1,wrap .i64 (z2.2.2.1+1),())))) (some (.inr (Sum.inl ())))) s.2.1 s.2.2.1
def a2N(x:LI):Option Bool:=(y0s b1N (x,(x.length:Int),0,())).bind fun w3=>match w3 with |.inl a4=>some true |.inr b5=>some b5.1
def b9k:FSem:=⟨[.v QL],[.v .bool],a2N⟩
def c9a:Hints:=⟨[(26,[.sv 5 QL,6,7],[Qe 0 [],Qr [.sv 2 .bool]])],[(1689,[Qn [.sv 5 QL,6,7,.sv 16 .bool]])],[]⟩
def a5d(s:Z30):Option (Z30 ⊕ Z15):=(fun(a b:Int)(c:LI)=>cond (decide ((wrap .i64 (a+1))<(c.length:Int))) (cond ((decide (0≤(wrap .i64 (a+1))))&&(decide ((wrap .i64 (a+1))<(c.length:Int)))) (cond ((decide (0≤a))&&(decide (a<(c.length:Int)))) (cond ((decide (0≤a))&&(decide (a<(c.length:Int)))) (some (.inl (wrap .i64 (a+1),s.2.1,b,a05 c (a01 a) (wrap .i64 ((a02 c (a01 (wrap .i64 (a+1))) 0)-(a02 c (a01 a) 0))),()))) none) none) none) (some (.inr (s.2.1,b,c,())))) s.1 s.2.2.1 s.2.2.2.1
def a6Z(s:Z15):Option (Z15 ⊕ (LI×Unit)):=cond (decide (s.2.1<s.1)) ((y0s a5d (0,s.1,s.2.1,s.2.2.1,())).bind fun w3=>cond ((decide (0≤(wrap .i64 ((w3.2.2.1.length:Int)-1))))&&(decide ((wrap .i64 ((w3.2.2.1.length:Int)-1))≤(w3.2.2.1.length:Int)))) (cond (decide ((a01 (wrap .i64 ((w3.2.2.1.length:Int)-1)))≤(a03 w3.2.2.1))) (some (.inl (w3.1,wrap .i64 (w3.2.1+1),a06 (a01 (wrap .i64 ((w3.2.2.1.length:Int)-1))) w3.2.2.1,()))) none) none) (some (.inr (s.2.2.1,())))
def a2O(x:(LI×Int)):Option (LI×Int):=(show Option Z18 from cond (decide (x.2<0)) (some (x.1,x.2,true,())) (cond (decide (x.2 > 4)) (some (x.1,x.2,true,())) (some (x.1,x.2,decide ((x.1.length:Int)<x.2),())))).bind fun z1=>cond z1.2.2.1 (some ([],1)) ((a2N z1.1).bind fun y2=>cond (!y2) (some ([],6)) (cond (lim (a03 z1.1)) ((y0s a6Z (z1.2.1,0,z1.1,())).bind fun w4=>(a2N w4.1).bind fun y5=>cond (!y5) (some ([],6)) (some (w4.1,0))) none))
def b9l:FSem:=⟨[.v QL,.v QI],[.o QI,.v QI],a2O⟩
def c9b:Hints:=⟨[(250,[25,26,.own 6 6 QI],[Qe 0 [.own 6 6 QI]]),(64098,[7,25,26,.own 6 6 QI],[Qe 2 [25,26,.own 6 6 QI]])],[(6,[Qn [.sv 0 QL,1,.sv 19 .bool]])],[(11,[.q,.v,.q,.v,.v,.q,.q,.q,.v,.q,.q,.v,.x,.x])]⟩
def a4S(x:Int):Option Bool:=cond (decide (x≥(-1073741824))) (some (decide (x<1073741824))) (some false)
def b8b:FSem:=⟨[.v QI],[.v .bool],a4S⟩
def a3j(s:Z14):Option Z66:=cond (decide (s.2.2.1<s.2.1)) ((m0k s.1 s.2.2.1).bind fun x1=>(a4S x1).bind fun y2=>cond (!y2) (some (.inr (Sum.inr ((false,()))))) (some (.inl (s.1,s.2.1,wrap .i64 (s.2.2.1+1),())))) (some (.inr (Sum.inl ())))
def a2x(x:LI):Option Bool:=(y0s a3j (x,(x.length:Int),0,())).bind fun w3=>match w3 with |.inl a4=>some true |.inr b5=>some b5.1
def b5e:FSem:=⟨[.v QL],[.v .bool],a2x⟩
def c9c:Hints:=⟨[(26,[.sv 5 QL,6,7],[Qe 0 [],Qr [.sv 2 .bool]])],[],[]⟩
def a3k(s:Z71):Option (Z71 ⊕ (Int×Int×Unit)):=(fun(a:LI)(b c:Int)(d:LI)(e f:Int)=>cond (decide (f<e)) ((m0k d f).bind fun x1=>cond (decide ((wrap .i64 ((wrap .i64 ((a.length:Int)-1))-f))<0)) (some (.inr (b,c,()))) ((m0k a (wrap .i64 ((wrap .i64 ((a.length:Int)-1))-f))).bind fun x2=>some (.inl (a,b,wrap .i64 (c+(wrap .i64 (x1*x2))),d,e,wrap .i64 (f+1),())))) (some (.inr (b,c,())))) s.1 s.2.1 s.2.2.1 s.2.2.2.1 s.2.2.2.2.1 s.2.2.2.2.2.1
def a4y(x:Z11):Option Int:=(y0s a3k (x.1,x.2.2,0,x.2.1,(x.2.1.length:Int),0,())).bind fun w3=>cond (decide (w3.1<0)) none (some (A0o .i64 w3.2.1 w3.1))
def b5f:FSem:=⟨[.v QL,.v QL,.v QI],[.v QI],a4y⟩
def c9d:Hints:=⟨[(58,[.sv 0 QL,2,7,.sv 11 QL,12,13],[Qe 0 [2,7]])],[],[]⟩
def a4z(s:Z67):Option (Z67 ⊕ Z45):=(fun(a:LI)(b c:Int)(d:LI)=>cond (decide (c<(a.length:Int))) ((m0k a c).bind fun x4=>cond ((decide (0≤c))&&(decide (c≤(a.length:Int)))) ((a4y (a06 (a01 c) a,s.2.1,b)).bind fun y5=>(a4S (wrap .i64 (x4-y5))).bind fun y6=>cond (!y6) (some (.inr (Sum.inr ((6,[],()))))) (cond (lim ((a03 d)+1)) (some (.inl (a,s.2.1,b,wrap .i64 (c+1),a04 d [wrap .i64 (x4-y5)],()))) none)) none) (some (.inr (Sum.inl (d,()))))) s.1 s.2.2.1 s.2.2.2.1 s.2.2.2.2.1
def a6E(x:Z11):Option (LI×Int):=(show Option Z48 from(a4x (x.2.1,x.2.2)).bind fun y1=>cond (!y1) (some (x.1,x.2.1,x.2.2,true,())) (some (x.1,x.2.1,x.2.2,decide ((x.1.length:Int)<(x.2.1.length:Int)),()))).bind fun z2=>cond z2.2.2.2.1 (some ([],1)) ((a2x z2.1).bind fun y3=>cond (!y3) (some ([],6)) (cond ((decide (0≤(wrap .i64 ((z2.1.length:Int)-(z2.2.1.length:Int)))))&&(lim (a01 (wrap .i64 ((z2.1.length:Int)-(z2.2.1.length:Int)))))) ((y0s a4z (z2.1,z2.2.1,z2.2.2.1,(z2.2.1.length:Int),[],())).bind fun w7=>match w7 with |.inl a8=>some (a8.1,0) |.inr b9=>some (b9.2.1,b9.1)) none))
def b8c:FSem:=⟨[.v QL,.v QL,.v QI],[.o QI,.v QI],a6E⟩
def c9e:Hints:=⟨[(250,[.sv 0 QL,.sv 1 QL,2,9,.own 8 8 QI],[Qe 0 [.own 8 8 QI],Qr [7,.own 6 6 QI]])],[(6,[Qn [.sv 0 QL,.sv 1 QL,2,.sv 21 .bool]])],[(9,[.v,.v,.v,.v,.v,.v,.v,.v,.v,.v,.x,.x])]⟩
def a6O(x:Int):Option Bool:=cond (decide (x≥(-1073741824))) (some (decide (x<1073741824))) (some false)
def c0U:FSem:=⟨[.v QI],[.v .bool],a6O⟩
def a3U(s:Z14):Option Z66:=cond (decide (s.2.2.1<s.2.1)) ((m0k s.1 s.2.2.1).bind fun x1=>(a6O x1).bind fun y2=>cond (!y2) (some (.inr (Sum.inr ((false,()))))) (some (.inl (s.1,s.2.1,wrap .i64 (s.2.2.1+1),())))) (some (.inr (Sum.inl ())))
def a4l(x:LI):Option Bool:=(y0s a3U (x,(x.length:Int),0,())).bind fun w3=>match w3 with |.inl a4=>some true |.inr b5=>some b5.1
def b6X:FSem:=⟨[.v QL],[.v .bool],a4l⟩
def c9f:Hints:=⟨[(26,[.sv 5 QL,6,7],[Qe 0 [],Qr [.sv 2 .bool]])],[],[]⟩
def a3V(s:(LI×(Int×Int×Z16))):Option ((LI×(Int×Int×Z16)) ⊕ (Int×Unit)):=(fun(a b c:Int)(d:LI)(e:Int)=>cond (decide (e<3)) ((m0k d e).bind fun x1=>cond (decide ((wrap .i64 ((wrap .i64 ((wrap .i64 (a-b))-1))+e))≥0)) ((m0k s.1 (wrap .i64 ((wrap .i64 ((wrap .i64 (a-b))-1))+e))).bind fun x2=>some (.inl (s.1,a,b,wrap .i64 (c+(wrap .i64 (x1*x2))),d,wrap .i64 (e+1),()))) (some (.inl (s.1,a,b,c,d,wrap .i64 (e+1),())))) (some (.inr (c,())))) s.2.1 s.2.2.1 s.2.2.2.1 s.2.2.2.2.1 s.2.2.2.2.2.1
def a4m(x:(LI×Z1)):Option Int:=(y0s a3V (x.1,x.2.1,x.2.2.1,0,x.2.2.2,0,())).bind fun w3=>some (A0o .i64 w3.1 6)
def b6Y:FSem:=⟨[.v QL,.v QI,.v QI,.v (.arr 3 QI)],[.v QI],a4m⟩
def c9g:Hints:=⟨[(58,[.sv 0 QL,1,2,9,.sv 13 (.arr 3 QI),14],[Qe 0 [9]])],[],[]⟩
def a5U(s:(LI×Z80)):Option ((LI×Z80) ⊕ Z45):=(fun(a:LI)(b c:Int)(d e:LI)=>cond (decide (c<b)) ((m0k a c).bind fun x3=>(a4m (s.1,c,s.2.1,e)).bind fun y4=>(a6O (wrap .i64 (x3-y4))).bind fun y5=>cond (!y5) (some (.inr (Sum.inr ((6,[],()))))) (cond (lim ((a03 d)+1)) (some (.inl (s.1,s.2.1,a,b,wrap .i64 (c+1),a04 d [wrap .i64 (x3-y4)],e,()))) none)) (some (.inr (Sum.inl (d,()))))) s.2.2.1 s.2.2.2.1 s.2.2.2.2.1 s.2.2.2.2.2.1 s.2.2.2.2.2.2.1
def a6P(x:Z12):Option (LI×Int):=(a7y (x.2.1,x.2.2)).bind fun y1=>cond (!y1) (some ([],1)) ((a4l x.1).bind fun y2=>cond (!y2) (some ([],6)) (cond ((decide (0≤(x.1.length:Int)))&&(lim (a01 (x.1.length:Int)))) ((y0s a5U (x.1,x.2.1,x.1,(x.1.length:Int),0,[],x.2.2,())).bind fun w6=>match w6 with |.inl a7=>some (a7.1,0) |.inr b8=>some (b8.2.1,b8.1)) none))
def c0V:FSem:=⟨[.v QL,.v QI,.v (.arr 3 QI)],[.o QI,.v QI],a6P⟩
def c9h:Hints:=⟨[(250,[.sv 0 QL,1,.sv 22 QL,23,24,.own 8 8 QI,.vp 5 (.arr 3 QI)],[Qe 0 [.own 8 8 QI],Qr [7,.own 6 6 QI]])],[],[]⟩
def a5V(x:Int):Option Bool:=cond (decide (x≥(-1073741824))) (some (decide (x<1073741824))) (some false)
def b3L:FSem:=⟨[.v QI],[.v .bool],a5V⟩
def a3y(s:Z14):Option Z66:=cond (decide (s.2.2.1<s.2.1)) ((m0k s.1 s.2.2.1).bind fun x1=>(a5V x1).bind fun y2=>cond (!y2) (some (.inr (Sum.inr ((false,()))))) (some (.inl (s.1,s.2.1,wrap .i64 (s.2.2.1+1),())))) (some (.inr (Sum.inl ())))
def a5e(x:LI):Option Bool:=(y0s a3y (x,(x.length:Int),0,())).bind fun w3=>match w3 with |.inl a4=>some true |.inr b5=>some b5.1
def b1O:FSem:=⟨[.v QL],[.v .bool],a5e⟩
def c9i:Hints:=⟨[(26,[.sv 5 QL,6,7],[Qe 0 [],Qr [.sv 2 .bool]])],[],[]⟩
def a7Y(x:(Int×Int×Unit)):Option Z43:=(a6D x).bind fun y1=>cond (!y1) none (cond ((decide (0≤x.1))&&((decide (x.1≤x.1))&&(lim (a01 x.1)))) (cond ((decide (0≤x.1))&&((decide (x.1≤x.1))&&(lim (a01 x.1)))) (some ((x.2.1,a00 (a01 x.1) 0,a00 (a01 x.1) 0,()),0)) none) none)
def b4M:FSem:=⟨[.v Q4],[.b Q9,.v QI],a7Y⟩
def c9j:Hints:=⟨[],[],[(3,[.v,.v,.v,.v,.q,.v,.v,.q,.x,.x,.x,.x])]⟩
def a5f(x:Int):Option Int:=some (v0s (v0r x (-1073741824)) 1073741823)
def b5P:FSem:=⟨[.v QI],[.v QI],a5f⟩
def a3i(s:Z84):Option (Z84 ⊕ Z63):=(fun(a:Int)(b:Z26)=>cond (decide (a<s.2.1)) (cond ((decide (0≤a))&&(decide (a<(b.2.1.length:Int)))) (cond ((decide (0≤a))&&(decide (a<(b.2.2.1.length:Int)))) (some (.inl (wrap .i64 (s.1+(wrap .i64 ((a02 b.2.1 (a01 a) 0)*(a02 b.2.2.1 (a01 a) 0)))),s.2.1,wrap .i64 (a+1),b,()))) none) none) (some (.inr (s.1,b,())))) s.2.2.1 s.2.2.2.1
def a1Z(x:Z26):Option Z42:=(y0s a3i (0,(x.2.1.length:Int),0,x,())).bind fun w1=>(a5f (A0o .i64 w1.1 16)).bind fun y2=>some (y2,w1.2.1)
def a8I:FSem:=⟨[.r false (.b Q9)],[.v QI],a1Z⟩
def c9k:Hints:=⟨[(58,[3,10,11,.box pinned Q9,Qp 0 pinned,.ref 9 pinned [.snd,.fst]],[Qe 0 [3,.box pinned Q9]])],[],[]⟩
def a2m(s:(Int×Z84)):Option ((Int×Z84) ⊕ Z63):=(fun(a b c d:Int)(e:Z26)=>cond (decide (d<c)) (cond ((decide (0≤d))&&(decide (d<(e.2.2.1.length:Int)))) (cond ((decide (0≤d))&&(decide (d<(e.2.1.length:Int)))) ((show Option (Int×Int×Int×Z84)from cond (decide ((a02 e.2.2.1 (a01 d) 0) > 0)) (some (a,b,d,wrap .i64 ((a02 e.2.1 (a01 d) 0)+b),c,d,e,())) (cond (decide ((a02 e.2.2.1 (a01 d) 0)<0)) (some (a,b,d,wrap .i64 ((a02 e.2.1 (a01 d) 0)-b),c,d,e,())) (some (a,b,d,a02 e.2.1 (a01 d) 0,c,d,e,())))).bind fun z4=>cond ((decide (0≤z4.2.2.1))&&(decide (z4.2.2.1<(z4.2.2.2.2.2.2.1.2.1.length:Int)))) (some (.inl (z4.1,z4.2.1,z4.2.2.2.2.1,wrap .i64 (z4.2.2.2.2.2.1+1),(z4.2.2.2.2.2.2.1.1,a05 z4.2.2.2.2.2.2.1.2.1 (a01 z4.2.2.1) (v0s (v0r z4.2.2.2.1 (-1048576)) 1048576),z4.2.2.2.2.2.2.1.2.2),()))) none) none) none) (some (.inr (a,e,())))) s.1 s.2.1 s.2.2.1 s.2.2.2.1 s.2.2.2.2.1
def a3l(x:Z43):Option Z26:=(a5f x.2).bind fun y1=>(show Option Z75 from(a1Z x.1).bind fun y2=>cond (decide (y1 > y2.1)) (cond (decide (y2.2.1<0)) none (some (y1,A0n .i64 1 y2.2.1,y2.2,()))) (cond (decide (y1<y2.1)) (cond (decide (y2.2.1<0)) none (some (y1,wrap .i64 (0-(A0n .i64 1 y2.2.1)),y2.2,()))) (some (y1,0,y2.2,())))).bind fun z3=>(y0s a2m (z3.1,z3.2.1,(z3.2.2.1.2.2.1.length:Int),0,z3.2.2.1,())).bind fun w5=>cond (decide (1≤(w5.2.1.2.2.1.length:Int))) (cond (decide (0<(a03 (p0h w5.2.1.2.2.1 1 ((a03 w5.2.1.2.2.1)-1) w5.2.1.2.2.1):Int))) (some (w5.2.1.1,w5.2.1.2.1,a05 (p0h w5.2.1.2.2.1 1 ((a03 w5.2.1.2.2.1)-1) w5.2.1.2.2.1) 0 w5.1,w5.2.1.2.2.2)) none) none
def a9u:FSem:=⟨[.r false (.b Q9),.v QI],[],a3l⟩
def c9l:Hints:=⟨[(122,[1,4,36,37,.box pinned Q9,Qp 0 pinned,.ref 35 pinned [.snd,.snd,.fst]],[Qe 1 [1,.box pinned Q9,Qp 0 pinned]])],[(7,[Qn [1,4,.box pinned Q9,Qp 0 pinned]]),(15667,[Qn [1,4,6,8,36,37,.box pinned Q9,Qp 0 pinned,.ref 35 pinned [.snd,.snd,.fst]]])],[(17,[.p,.p,.q,.q,.q,.p,.p,.q,.q,.x])]⟩
def a5g(s:(Z5×Int×Int×Z88)):Option ((Z5×Int×Int×Z88) ⊕ ((Z5×Z15) ⊕ Z3)):=(fun(a b c:Int)(d:LI)=>cond (decide (c<b)) (cond ((decide (0≤c))&&(decide (c<(d.length:Int)))) ((a1Z s.2.2.2.2.2.2.1).bind fun y6=>(a5V (wrap .i64 ((a02 d (a01 c) 0)-y6.1))).bind fun y7=>cond (!y7) (some (.inr (Sum.inr ((6,[],()))))) ((a3l (y6.2,a02 d (a01 c) 0)).bind fun y8=>cond ((decide (0≤c))&&(decide (c<(d.length:Int)))) (some (.inl (s.1,s.2.1,a,b,wrap .i64 (c+1),a05 d (a01 c) (wrap .i64 ((a02 d (a01 c) 0)-y6.1)),y8,()))) none)) none) (some (.inr (Sum.inl (s.1,s.2.1,a,d,()))))) s.2.2.1 s.2.2.2.1 s.2.2.2.2.1 s.2.2.2.2.2.1
def a5h(s:(Z5×Z15)):Option ((Z5×Z15) ⊕ Z45):=(fun(a:Int)(b:LI)=>cond (decide (a<s.2.1)) ((m0k s.1 a).bind fun x4=>(a7Y x4).bind fun y5=>cond (y5.2 != 0) (some (.inr (Sum.inr ((y5.2,[],()))))) ((y0s a5g (s.1,s.2.1,a,(b.length:Int),0,b,y5.1,())).bind fun w9=>match w9 with |.inl a10=>some (.inl (a10.1,a10.2.1,wrap .i64 (a10.2.2.1+1),a10.2.2.2.1,())) |.inr b11=>some (.inr (Sum.inr ((b11.1,b11.2.1,())))))) (some (.inr (Sum.inl (b,()))))) s.2.2.1 s.2.2.2.1
def a8J(x:Z27):Option (LI×Int):=(a6N x.2).bind fun y1=>cond (!y1) (some ([],1)) ((a5e x.1).bind fun y2=>cond (!y2) (some ([],6)) ((a1n x.1).bind fun y3=>(y0s a5h (x.2,(x.2.length:Int),0,y3,())).bind fun w12=>match w12 with |.inl a13=>some (a13.1,0) |.inr b14=>some (b14.2.1,b14.1)))
def b9m:FSem:=⟨[.v QL,.v (.list false Q4)],[.o QI,.v QI],a8J⟩
def c9m:Hints:=⟨[(250,[.sv 22 (.list false Q4),23,24,.own 6 6 QI],[Qe 0 [.own 6 6 QI],Qr [5,.own 4 4 QI]]),(256414,[.sv 22 (.list false Q4),23,24,37,38,.own 6 6 QI,.box 1030 Q9,Qp 9 1030,.ref 36 6 []],[Qe 2 [.sv 22 (.list false Q4),23,24,.own 6 6 QI],Qr [5,.own 4 4 QI]])],[],[]⟩
def a9O(x:(a1h×LI)):Option (Int×a1h):=(show Option (LI×(LI×(Int×b3I)))from cond (x.1.1==2) ((a2O (x.2,x.1.2.2.1)).bind fun y1=>some (x.2,y1.1,y1.2,x.1,())) (cond (x.1.1==3) ((a6E (x.2,x.1.2.2.2.2.2.1,x.1.2.2.2.1)).bind fun y2=>some (x.2,y2.1,y2.2,x.1,())) (cond (x.1.1==4) ((a6P (x.2,x.1.2.2.2.2.1,x.1.2.2.2.2.2.2.1)).bind fun y3=>cond (y3.2==0) ((a6E (y3.1,x.1.2.2.2.2.2.1,x.1.2.2.2.1)).bind fun y4=>some (y3.1,y4.1,y4.2,x.1,())) (some (y3.1,[],y3.2,x.1,()))) (cond (x.1.1==5) ((a8J (x.2,x.1.2.2.2.2.2.2.2.1)).bind fun y5=>some (x.2,y5.1,y5.2,x.1,())) (some (x.2,[],0,x.1,())))))).bind fun z6=>cond (z6.2.2.1 != 0) (some (z6.2.2.1,z6.2.2.2.1)) ((a7k (z6.2.2.2.1,(z6.1.length:Int))).bind fun y7=>cond ((decide (0≤y7))&&(decide (y7≤(z6.1.length:Int)))) ((a1n (a06 (a01 y7) z6.1)).bind fun y8=>some (0,z6.2.2.2.1.1,z6.2.2.2.1.2.1,z6.2.2.2.1.2.2.1,z6.2.2.2.1.2.2.2.1,z6.2.2.2.1.2.2.2.2.1,z6.2.2.2.1.2.2.2.2.2.1,z6.2.2.2.1.2.2.2.2.2.2.1,z6.2.2.2.1.2.2.2.2.2.2.2.1,y8,z6.2.2.2.1.2.2.2.2.2.2.2.2.2.1,z6.2.1,z6.2.2.2.1.2.2.2.2.2.2.2.2.2.2.2)) none)
def c0W:FSem:=⟨[.r false (.b Q19),.v QL],[.v QI],a9O⟩
def c9n:Hints:=⟨[],[(15,[Qn [.sv 1 QL,.sv 5 QL,6,.box pinned Q19,Qp 0 pinned]])],[(7,[.v,.p,.p,.q,.q,.p,.p,.q,.q,.x,.x,.q,.q,.q,.x]),(9,[.v,.p,.p,.q,.q,.p,.p,.q,.q,.x,.x,.q,.q,.q,.x]),(11,[.q,.p,.p,.q,.q,.p,.p,.q,.q,.x,.x,.q,.q,.q,.x])]⟩
def a7Z(x:(Int×Int)):Option Bool:=cond (decide (1≤x.1)) (cond (decide (x.1≤4096)) (cond (decide (0≤x.2)) (some (decide (x.2≤x.1))) (some false)) (some false)) (some false)
def c0X:FSem:=⟨[.v QI,.v QI],[.v .bool],a7Z⟩
def a6m(s:Z15):Option (Z15 ⊕ (LI×Unit)):=(fun(a:LI)=>cond (decide (s.1<0)) none (cond (decide ((a.length:Int)<(A0n .i64 1 s.1))) (cond (lim ((a03 a)+1)) (some (.inl (s.1,s.2.1,a04 a [s.2.1],()))) none) (some (.inr (a,()))))) s.2.2.1
def a3Q(x:(Int×Int×Int)):Option LI:=(show Option Z24 from(a7Z (x.2.1,x.2.2)).bind fun y1=>cond (!y1) (some (x.1,x.2.1,x.2.2,true,())) (cond (decide (x.1<0)) (some (x.1,x.2.1,x.2.2,true,())) (some (x.1,x.2.1,x.2.2,decide (x.1 > 8),())))).bind fun z2=>cond z2.2.2.2.1 (some []) (cond (decide (z2.1<0)) none ((show Option Z24 from cond (decide (z2.1<0)) none (cond ((A0n .i64 (A0o .i64 z2.2.1 z2.1) z2.1) != z2.2.1) (some (z2.1,z2.2.2.1,A0o .i64 z2.2.1 z2.1,true,())) (some (z2.1,z2.2.2.1,A0o .i64 z2.2.1 z2.1,decide ((A0o .i64 z2.2.1 z2.1)<z2.2.2.1),())))).bind fun z3=>cond z3.2.2.2.1 (some []) ((y0s a6m (z3.1,z3.2.2.1,[wrap .i64 (z3.2.2.1-z3.2.1)],())).bind fun w4=>some w4.1)))
def b8d:FSem:=⟨[.v QI,.v QI,.v QI],[.o QI],a3Q⟩
def c9o:Hints:=⟨[(252,[0,7,.own 8 8 QI],[Qe 0 [.own 8 8 QI]])],[(6,[Qn [0,1,2,.sv 20 .bool]]),(30,[Qn [0,2,7,.sv 33 .bool]])],[]⟩
def a4n(s:Z14):Option Z66:=(fun(a:LI)(b c:Int)=>cond (decide (c<b)) ((m0k a c).bind fun x3=>(show Option Z32 from cond (decide (x3<0)) (some (a,b,c,x3 != 31,())) (cond (decide (x3 > 25)) (some (a,b,c,x3 != 31,())) (some (a,b,c,false,())))).bind fun z4=>cond z4.2.2.2.1 (some (.inr (Sum.inr ((false,()))))) (some (.inl (z4.1,z4.2.1,wrap .i64 (z4.2.2.1+1),())))) (some (.inr (Sum.inl ())))) s.1 s.2.1 s.2.2.1
def a8a(x:(Z3×Int×Int)):Option Bool:=(a3Q (x.1.1,x.2.1,x.2.2)).bind fun y1=>(show Option Z38 from cond ((y1.length:Int)==0) (some (true,x.1,())) (some ((x.1.2.1.length:Int) != (y1.length:Int),x.1,()))).bind fun z2=>cond z2.1 (some false) ((y0s a4n (z2.2.1.2.1,(z2.2.1.2.1.length:Int),0,())).bind fun w5=>match w5 with |.inl a6=>some true |.inr b7=>some b7.1)
def c0Y:FSem:=⟨[.v Q7,.v QI,.v QI],[.v .bool],a8a⟩
def c9p:Hints:=⟨[(122,[.sv 27 QL,28,29],[Qe 0 [],Qr [.sv 6 .bool]])],[(14,[Qn [.sv 25 .bool,.vp 3 Q7]]),(7833,[Qn [.sv 27 QL,28,29,.sv 42 .bool]])],[]⟩
def b1m(s:Z14):Option Z66:=(fun(a b:Int)=>cond (decide (b<a)) ((m0k s.1 b).bind fun x3=>(show Option Z32 from cond (decide (x3<(-1073741824))) (some (s.1,a,b,true,())) (some (s.1,a,b,decide (x3≥1073741824),()))).bind fun z4=>cond z4.2.2.2.1 (some (.inr (Sum.inr ((false,()))))) (some (.inl (z4.1,z4.2.1,wrap .i64 (z4.2.2.1+1),())))) (some (.inr (Sum.inl ())))) s.2.1 s.2.2.1
def a6F(x:Z1):Option Bool:=(show Option Z7 from(a7Z (x.1,x.2.1)).bind fun y1=>cond (!y1) (some (x.2.2,true,())) (some (x.2.2,(x.2.2.length:Int) != (wrap .i64 (x.1-x.2.1)),()))).bind fun z2=>cond z2.2.1 (some false) ((y0s b1m (z2.1,(z2.1.length:Int),0,())).bind fun w5=>match w5 with |.inl a6=>some true |.inr b7=>some b7.1)
def b8e:FSem:=⟨[.v QI,.v QI,.v QL],[.v .bool],a6F⟩
def c9q:Hints:=⟨[(58,[.sv 21 QL,22,23],[Qe 0 [],Qr [.sv 6 .bool]])],[(6,[Qn [.sv 2 QL,.sv 20 .bool]]),(3737,[Qn [.sv 21 QL,22,23,.sv 32 .bool]])],[]⟩
def b1n(x:Int):Option Int:=(show Option (Int×Bool×Unit)from cond (decide (x<1)) (some (x,true,())) (some (x,decide (x > 31),()))).bind fun z1=>cond z1.2.1 (some 0) (cond (decide ((wrap .i64 (z1.1-1))<0)) none (some (A0n .i64 (-1) (wrap .i64 (z1.1-1)))))
def b9n:FSem:=⟨[.v QI],[.v QI],b1n⟩
def c9r:Hints:=⟨[],[(6,[Qn [0,.sv 8 .bool]])],[]⟩
def b0M(x:Int):Option Int:=(show Option (Int×Bool×Unit)from cond (decide (x<1)) (some (x,true,())) (some (x,decide (x > 31),()))).bind fun z1=>cond z1.2.1 (some 0) (cond (decide ((wrap .i64 (z1.1-1))<0)) none (some (wrap .i64 ((A0n .i64 1 (wrap .i64 (z1.1-1)))-1))))
def b8f:FSem:=⟨[.v QI],[.v QI],b0M⟩
def c9s:Hints:=⟨[],[(6,[Qn [0,.sv 8 .bool]])],[]⟩
def a4T(x:(Int×Int)):Option Bool:=cond (decide (x.2≥1)) (cond (decide (x.2≤31)) ((b1n x.2).bind fun y1=>cond (decide (y1≤x.1)) ((b0M x.2).bind fun y2=>some (decide (x.1≤y2))) (some false)) (some false)) (some false)
def b8g:FSem:=⟨[.v QI,.v QI],[.v .bool],a4T⟩
def a3b(s:Z47):Option (Z47 ⊕ Z29):=(fun(a b:Int)(c:LI)(d e:Int)=>cond (b != 0) (cond (decide (a<32)) ((a4T (b,a)).bind fun y2=>cond (!y2) (some (.inl (wrap .i64 (a+1),b,c,d,e,()))) (some (.inr (a,c,d,e,())))) (some (.inr (a,c,d,e,())))) (some (.inr (a,c,d,e,())))) s.1 s.2.1 s.2.2.1 s.2.2.2.1 s.2.2.2.2.1
def a5I(s:Z29):Option (Z29 ⊕ (Int×Unit)):=(fun(a b:Int)=>cond (decide (b<a)) ((m0k s.2.1 b).bind fun x1=>(y0s a3b (s.1,x1,s.2.1,a,b,())).bind fun w3=>some (.inl (w3.1,w3.2.1,w3.2.2.1,wrap .i64 (w3.2.2.2.1+1),()))) (some (.inr (s.1,())))) s.2.2.1 s.2.2.2.1
def a3o(x:LI):Option Int:=(y0s a5I (0,x,(x.length:Int),0,())).bind fun w4=>some w4.1
def b6Z:FSem:=⟨[.v QL],[.v QI],a3o⟩
def c9t:Hints:=⟨[(58,[3,.sv 6 QL,7,8],[Qe 0 [3]]),(7474,[3,5,.sv 6 QL,7,8],[Qe 2 [3,.sv 6 QL,7,8]])],[],[]⟩
def a5D(x:LI):Option Int:=(a3o x).bind fun y1=>some (wrap .i64 (5+(wrap .i64 (y1*(x.length:Int)))))
def c0Z:FSem:=⟨[.v QL],[.v QI],a5D⟩
def a4A(x:Int):Option Bool:=cond (decide (0≤x)) (some (decide (x≤25))) (some false)
def b5g:FSem:=⟨[.v QI],[.v .bool],a4A⟩
def a6Q(x:Int):Option Bool:=cond (decide ((-1073741824)≤x)) (some (decide (x<1073741824))) (some false)
def c1a:FSem:=⟨[.v QI],[.v .bool],a6Q⟩
def a8b(x:Int):Option Int:=(a6Q x).bind fun y1=>cond (!y1) (some 0) (cond (decide (x≥0)) (some (wrap .u64 (wrap .i64 (2*x)))) (some (wrap .u64 (wrap .i64 ((wrap .i64 ((-2)*x))-1)))))
def c1b:FSem:=⟨[.v QI],[.v QU],a8b⟩
def a6R(x:(Int×Int)):Option Int:=(show Option Z10 from(a4A x.1).bind fun y1=>cond (!y1) (some (x.1,x.2,true,())) ((a6Q x.2).bind fun y2=>some (x.1,x.2,!y2,()))).bind fun z3=>cond z3.2.2.1 (some 0) ((a8b z3.2.1).bind fun y4=>cond (decide (z3.1<0)) none (cond (decide ((wrap .i64 (A0o .u64 y4 z3.1))<32)) (some (wrap .i64 ((wrap .i64 ((wrap .i64 (A0o .u64 y4 z3.1))+1))+z3.1))) (some 65)))
def c1c:FSem:=⟨[.v QI,.v QI],[.v QI],a6R⟩
def c9u:Hints:=⟨[],[(6,[Qn [0,1,.sv 13 .bool]])],[]⟩
def a3R(s:Z47):Option (Z47 ⊕ (Int×Unit)):=(fun(a:LI)(b c:Int)=>cond (decide (c<b)) ((m0k a c).bind fun x1=>(a6R (s.1,x1)).bind fun y2=>some (.inl (s.1,wrap .i64 (s.2.1+y2),a,b,wrap .i64 (c+1),()))) (some (.inr (s.2.1,())))) s.2.2.1 s.2.2.2.1 s.2.2.2.2.1
def a3u(x:(Int×LI)):Option Int:=(y0s a3R (x.1,0,x.2,(x.2.length:Int),0,())).bind fun w3=>some w3.1
def c2p:FSem:=⟨[.v QI,.v QL],[.v QI],a3u⟩
def c9v:Hints:=⟨[(58,[0,5,.sv 8 QL,9,10],[Qe 0 [5]])],[],[]⟩
def a1z(s:Z91):Option (Z91 ⊕ (Int×Unit)):=(fun(a:LI)(b c d:Int)(e:LI)(f:Z3)=>cond (decide (d<c)) (cond ((decide (0≤d))&&(decide (d<(e.length:Int)))) (cond ((decide (0≤(a02 e (a01 d) 0)))&&(decide ((a02 e (a01 d) 0)≤(a.length:Int)))) (cond ((decide (0≤(a02 e (a01 d) 0)))&&(decide ((a02 e (a01 d) 0)≤(a.length:Int)))) ((m0k f.2.1 d).bind fun x5=>cond (x5==31) ((a5D (a06 (a01 (a02 e (a01 d) 0)) a)).bind fun y6=>some (.inl (a07 (a01 (a02 e (a01 d) 0)) (a06 (a03 a) a),wrap .i64 (b+(wrap .i64 (5+y6))),c,wrap .i64 (d+1),e,f,()))) ((m0k f.2.1 d).bind fun x7=>(a3u (x7,a06 (a01 (a02 e (a01 d) 0)) a)).bind fun y8=>some (.inl (a07 (a01 (a02 e (a01 d) 0)) (a06 (a03 a) a),wrap .i64 (b+(wrap .i64 (5+y8))),c,wrap .i64 (d+1),e,f,())))) none) none) none) (some (.inr (b,())))) s.1 s.2.1 s.2.2.1 s.2.2.2.1 s.2.2.2.2.1 s.2.2.2.2.2.1
def a4B(x:Z58):Option Int:=(show Option (Int×(Int×(LI×Z38)))from(a8a (x.1,x.2.1,x.2.2.1)).bind fun y1=>cond (!y1) (some (x.2.1,x.2.2.1,x.2.2.2,true,x.1,())) ((a6F (x.2.1,x.2.2.1,x.2.2.2)).bind fun y2=>some (x.2.1,x.2.2.1,x.2.2.2,!y2,x.1,()))).bind fun z3=>cond z3.2.2.2.1 (some 0) ((a3Q (z3.2.2.2.2.1.1,z3.1,z3.2.1)).bind fun y4=>(y0s a1z (z3.2.2.1,4,(y4.length:Int),0,y4,z3.2.2.2.2.1,())).bind fun w9=>some w9.1)
def b9o:FSem:=⟨[.v Q7,.v QI,.v QI,.v QL],[.v QI],a4B⟩
def c9w:Hints:=⟨[(122,[.sv 3 QL,9,30,31,.own 29 1029 QI,.vp 4 Q7],[Qe 0 [9]])],[(6,[Qn [1,2,.sv 3 QL,.sv 24 .bool,.vp 4 Q7]])],[]⟩
def a7z(s:Z31):Option (Z31 ⊕ (Int×Unit)):=(fun(a b:Int)=>cond (decide (b≤25)) ((a3u (b,s.1)).bind fun y2=>cond (decide (y2<a)) (some (.inl (s.1,b,y2,wrap .i64 (b+1),()))) (some (.inl (s.1,s.2.1,a,wrap .i64 (b+1),())))) (some (.inr (s.2.1,())))) s.2.2.1 s.2.2.2.1
def a9P(x:LI):Option Int:=(a3u (0,x)).bind fun y1=>(y0s a7z (x,0,y1,1,())).bind fun w3=>some w3.1
def c1d:FSem:=⟨[.v QL],[.v QI],a9P⟩
def c9x:Hints:=⟨[(58,[.sv 0 QL,3,4,5],[Qe 0 [3]])],[],[]⟩
def a7A(x:LI):Option Int:=(a9P x).bind fun y1=>(a5D x).bind fun y2=>(a3u (y1,x)).bind fun y3=>cond (decide (y2<y3)) (some 31) (some y1)
def b7a:FSem:=⟨[.v QL],[.v QI],a7A⟩
def a7a(s:(Int×(Int×(Int×(LI×(Int×(Int×(LI×c2c)))))))):Option ((Int×(Int×(Int×(LI×(Int×(Int×(LI×c2c))))))) ⊕ (Int×(Int×(Int×(LI×(Int×Int×Z96)))))):=(fun(a:Int)(b:LI)(c d:Int)(e:LI)(f g:Int)(h:LI)(i j k:Z3)=>cond (decide (g<f)) (cond ((decide (0≤g))&&(decide (g<(h.length:Int)))) (cond ((decide (0≤(a02 h (a01 g) 0)))&&(decide ((a02 h (a01 g) 0)≤(e.length:Int)))) ((a7A (a06 (a01 (a02 h (a01 g) 0)) e)).bind fun y3=>cond (lim ((a03 k.2.1)+1)) (cond ((decide (0≤(a02 h (a01 g) 0)))&&(decide ((a02 h (a01 g) 0)≤(e.length:Int)))) (some (.inl (s.1,s.2.1,a,b,c,d,a07 (a01 (a02 h (a01 g) 0)) (a06 (a03 e) e),f,wrap .i64 (g+1),h,i,j,(k.1,a04 k.2.1 [y3],k.2.2),()))) none) none) none) none) (some (.inr (s.1,s.2.1,a,b,c,d,i,j,k,())))) s.2.2.1 s.2.2.2.1 s.2.2.2.2.1 s.2.2.2.2.2.1 s.2.2.2.2.2.2.1 s.2.2.2.2.2.2.2.1 s.2.2.2.2.2.2.2.2.1 s.2.2.2.2.2.2.2.2.2.1 s.2.2.2.2.2.2.2.2.2.2.1 s.2.2.2.2.2.2.2.2.2.2.2.1 s.2.2.2.2.2.2.2.2.2.2.2.2.1
def a3J(s:c2b):Option (c2b ⊕ Z78):=(fun(a b:Int)(c:LI)(d e:Int)(f g:Z3)=>cond (decide (e≤(v0s (v0r b 0) 8))) ((a3Q (e,s.1,a)).bind fun y2=>cond ((y2.length:Int)==0) (some (.inl (s.1,a,b,c,d,wrap .i64 (e+1),f,g,()))) ((y0s a7a (s.1,a,b,c,d,e,c,(y2.length:Int),0,y2,f,g,(e,[],()),())).bind fun w4=>(a4B (w4.2.2.2.2.2.2.2.2.1,w4.1,w4.2.1,w4.2.2.2.1)).bind fun y5=>(show Option (Int×(Int×(Int×(LI×(Int×Int×Int×Bool×Z96)))))from cond (w4.2.2.2.2.1==0) (some (w4.1,w4.2.1,w4.2.2.1,w4.2.2.2.1,w4.2.2.2.2.1,w4.2.2.2.2.2.1,y5,true,w4.2.2.2.2.2.2.1,w4.2.2.2.2.2.2.2.1,w4.2.2.2.2.2.2.2.2.1,())) (some (w4.1,w4.2.1,w4.2.2.1,w4.2.2.2.1,w4.2.2.2.2.1,w4.2.2.2.2.2.1,y5,decide (y5<w4.2.2.2.2.1),w4.2.2.2.2.2.2.1,w4.2.2.2.2.2.2.2.1,w4.2.2.2.2.2.2.2.2.1,()))).bind fun z6=>cond z6.2.2.2.2.2.2.2.1 (some (.inl (z6.1,z6.2.1,z6.2.2.1,z6.2.2.2.1,z6.2.2.2.2.2.2.1,wrap .i64 (z6.2.2.2.2.2.1+1),z6.2.2.2.2.2.2.2.2.1,z6.2.2.2.2.2.2.2.2.2.2.1,()))) (some (.inl (z6.1,z6.2.1,z6.2.2.1,z6.2.2.2.1,z6.2.2.2.2.1,wrap .i64 (z6.2.2.2.2.2.1+1),z6.2.2.2.2.2.2.2.2.1,z6.2.2.2.2.2.2.2.2.2.1,()))))) (some (.inr (f,g,())))) s.2.1 s.2.2.1 s.2.2.2.1 s.2.2.2.2.1 s.2.2.2.2.2.1 s.2.2.2.2.2.2.1 s.2.2.2.2.2.2.2.1
def a8K(x:(Int×Z1)):Option (Z3×Int):=(a6F (x.1,x.2.1,x.2.2.2)).bind fun y1=>cond (!y1) (some ((0,[],()),1)) ((y0s a3J (x.1,x.2.1,x.2.2.1,x.2.2.2,0,0,(0,[],()),(0,[],()),())).bind fun w7=>some (w7.2.1,0))
def b9p:FSem:=⟨[.v QI,.v QI,.v QI,.v QL],[.v Q7,.v QI],a8K⟩
def c9y:Hints:=⟨[(250,[0,1,2,.sv 3 QL,11,12,.box 8 Q7,.box 10 Q7,Qp 8 8,Qp 10 10],[Qe 0 [.box 8 Q7,.box 10 Q7,Qp 8 8,Qp 10 10]]),(512634,[0,1,2,.sv 3 QL,11,12,.sv 15 QL,43,44,.own 42 13 QI,.box 8 Q7,.box 10 Q7,.box 14 Q6,Qp 8 8,Qp 10 10,Qp 14 14],[Qe 2 [0,1,2,.sv 3 QL,11,12,.box 8 Q7,.box 10 Q7,.box 14 Q6,Qp 8 8,Qp 10 10,Qp 14 14]])],[(256319,[Qn [0,1,2,.sv 3 QL,11,12,18,.sv 72 .bool,.box 8 Q7,.box 10 Q7,.box 14 Q7,Qp 8 8,Qp 10 10,Qp 14 14]])],[(15,[.q,.q,.v,.v,.v,.v,.q,.x,.x,.x])]⟩
def a4U(s:(LI×(LI×c2k))):Option ((LI×(LI×c2k)) ⊕ ((LI×a9x) ⊕ (Int×b3I))):=(fun(a b:Int)(c d:a1h)=>cond (decide (b<a)) ((m0k s.2.1 b).bind fun x5=>(m0k s.1 0).bind fun x6=>cond (x5 != x6) (some (.inr (Sum.inr ((7,(0,0,0,0,0,[],a00 3 0,[],[],(0,[],()),[],()),()))))) (some (.inl (s.1,s.2.1,a,wrap .i64 (b+1),c,d,())))) (some (.inr (Sum.inl (s.1,c,d,()))))) s.2.2.1 s.2.2.2.1 s.2.2.2.2.1 s.2.2.2.2.2.1
def a8L(x:(Int×(LI×a1h))):Option a7j:=(show Option (Int×(LI×(Int×Bool×a9x)))from cond (decide ((x.2.1.length:Int)<1)) (some (x.1,x.2.1,(x.2.1.length:Int),true,(0,0,0,0,0,[],a00 3 0,[],[],(0,[],()),[],()),x.2.2,())) (cond (decide ((x.2.1.length:Int) > 4096)) (some (x.1,x.2.1,(x.2.1.length:Int),true,(0,0,0,0,0,[],a00 3 0,[],[],(0,[],()),[],()),x.2.2,())) ((b0D (x.1,x.2.2,(x.2.1.length:Int))).bind fun y1=>some (x.1,x.2.1,(x.2.1.length:Int),!y1,(0,0,0,0,0,[],a00 3 0,[],[],(0,[],()),[],()),x.2.2,())))).bind fun z2=>cond z2.2.2.2.1 (some ((0,0,0,0,0,[],a00 3 0,[],[],(0,[],()),[],()),1)) ((a2o z2.2.1).bind fun y3=>cond (!y3) (some ((0,0,0,0,0,[],a00 3 0,[],[],(0,[],()),[],()),6)) ((a5T (z2.1,z2.2.2.2.2.2.1)).bind fun y4=>cond (z2.1==0) ((y0s a4U (z2.2.1,z2.2.1,(z2.2.1.length:Int),0,z2.2.2.2.2.1,y4,())).bind fun w7=>match w7 with |.inl a8=>((m0k a8.1 0).bind fun x10=>some ((a8.2.2.1.1,a8.2.2.1.2.1,a8.2.2.1.2.2.1,a8.2.2.1.2.2.2.1,a8.2.2.1.2.2.2.2.1,a8.2.2.1.2.2.2.2.2.1,a8.2.2.1.2.2.2.2.2.2.1,a8.2.2.1.2.2.2.2.2.2.2.1,[x10],a8.2.2.1.2.2.2.2.2.2.2.2.2),0)) |.inr b9=>some (b9.2.1,b9.1)) ((a3I z2.2.1).bind fun y11=>(a6B (z2.2.1,y11)).bind fun y12=>cond (y12.2 != 0) (some ((0,0,0,0,0,[],a00 3 0,[],[],(0,[],()),[],()),6)) (cond (z2.1==1) (some ((y4.1,y11,y4.2.2.1,y4.2.2.2.1,y4.2.2.2.2.1,y4.2.2.2.2.2.1,y4.2.2.2.2.2.2.1,y4.2.2.2.2.2.2.2.1,y12.1,y4.2.2.2.2.2.2.2.2.2),0)) ((a9O ((y4.1,y11,y4.2.2),y12.1)).bind fun y13=>cond (y13.1 != 0) (some ((0,0,0,0,0,[],a00 3 0,[],[],(0,[],()),[],()),6)) ((a8K (z2.2.2.1,(y13.2.2.2.2.2.2.2.2.2.1.length:Int),6,y13.2.2.2.2.2.2.2.2.2.2.2.1)).bind fun y14=>cond (y14.2 != 0) (some ((0,0,0,0,0,[],a00 3 0,[],[],(0,[],()),[],()),6)) (some ((y13.2.1,y13.2.2.1,y13.2.2.2.1,y13.2.2.2.2.1,y13.2.2.2.2.2.1,y13.2.2.2.2.2.2.1,y13.2.2.2.2.2.2.2.1,y13.2.2.2.2.2.2.2.2.1,y13.2.2.2.2.2.2.2.2.2.1,y14.1,y13.2.2.2.2.2.2.2.2.2.2.2),0))))))))
def c2q:FSem:=⟨[.v QI,.v QL,.v Q19],[.v Q19,.v QI],a8L⟩
def H58:Hints:=⟨[(4050,[.sv 1 QL,.sv 39 QL,40,41,.box 6 Q19,.box 9 Q19,Qp 6 6,Qp 9 9],[Qe 0 [.sv 1 QL,.box 6 Q19,.box 9 Q19,Qp 6 6,Qp 9 9],Qr [7,.box 6 Q19,Qp 6 6]])],[(14,[Qn [0,.sv 1 QL,8,.sv 28 .bool,.box 6 Q19,.vp 5 Q19,Qp 6 6]])],[]⟩
def a7l(x:Int):Option Bool:=cond (x != 0) (some (x != 1)) (some false)
def b9q:FSem:=⟨[.v QI],[.v .bool],a7l⟩
def a9Q(x:a1h):Option Bool:=(a5T (x.1,x)).bind fun y1=>cond (x.2.2.1==y1.2.2.1) (cond (x.2.2.2.1==y1.2.2.2.1) (cond (x.2.2.2.2.1==y1.2.2.2.2.1) (cond (eqT (.arr 3 (.int .i64)) x.2.2.2.2.2.2.1 y1.2.2.2.2.2.2.1) (cond ((x.2.2.2.2.2.1.length:Int)==(y1.2.2.2.2.2.1.length:Int)) (some ((x.2.2.2.2.2.2.2.1.length:Int)==(y1.2.2.2.2.2.2.2.1.length:Int))) (some false)) (some false)) (some false)) (some false)) (some false)
def c1e:FSem:=⟨[.v Q19],[.v .bool],a9Q⟩
def a8M(x:a7j):Option Bool:=(show Option b3J from cond (decide (x.2<1)) (some (x.2,true,x.1,())) (cond (decide (x.2 > 4096)) (some (x.2,true,x.1,())) ((b0D (x.1.1,x.1,x.2)).bind fun y1=>cond (!y1) (some (x.2,true,x.1,())) ((a9Q x.1).bind fun y2=>some (x.2,!y2,x.1,()))))).bind fun z3=>cond z3.2.1 (some false) ((show Option b3J from cond (decide (z3.2.2.1.2.1<0)) (some (z3.1,true,z3.2.2.1,())) (cond (decide (z3.2.2.1.2.1 > 30)) (some (z3.1,true,z3.2.2.1,())) (cond (z3.2.2.1.1==0) (some (z3.1,z3.2.2.1.2.1 != 0,z3.2.2.1,())) (some (z3.1,false,z3.2.2.1,()))))).bind fun z4=>cond z4.2.1 (some false) ((a7k (z4.2.2.1,z4.1)).bind fun y5=>(show Option c2f from cond ((z4.2.2.1.2.2.2.2.2.2.2.2.1.length:Int) != y5) (some (z4.1,y5,true,z4.2.2.1,())) ((a2o z4.2.2.1.2.2.2.2.2.2.2.2.1).bind fun y6=>cond (!y6) (some (z4.1,y5,true,z4.2.2.1,())) ((a2o z4.2.2.1.2.2.2.2.2.2.2.2.2.2.1).bind fun y7=>some (z4.1,y5,!y7,z4.2.2.1,())))).bind fun z8=>cond z8.2.2.1 (some false) ((a7l z8.2.2.2.1.1).bind fun y9=>cond (!y9) (cond ((z8.2.2.2.1.2.2.2.2.2.2.2.2.2.2.1.length:Int)==0) (cond (z8.2.2.2.1.2.2.2.2.2.2.2.2.2.1.1==0) (some ((z8.2.2.2.1.2.2.2.2.2.2.2.2.2.1.2.1.length:Int)==0)) (some false)) (some false)) (cond ((z8.2.2.2.1.2.2.2.2.2.2.2.2.2.2.1.length:Int)==(wrap .i64 (z8.1-z8.2.1))) ((a8a (z8.2.2.2.1.2.2.2.2.2.2.2.2.2.1,z8.1,z8.2.1)).bind fun y10=>some y10) (some false)))))
def b9r:FSem:=⟨[.v Q19,.v QI],[.v .bool],a8M⟩
def H75:Hints:=⟨[],[(6,[Qn [1,.sv 24 .bool,.vp 2 Q19]]),(14,[Qn [1,.sv 42 .bool,.vp 2 Q19]]),(62,[Qn [1,5,.sv 62 .bool,.vp 2 Q19]])],[]⟩
def a1f(x:(Int×LI)):Option (Int×LI):=(m0k x.2 (wrap .i64 ((x.2.length:Int)-x.1))).bind fun x1=>some (x1,x.2)
def b5Q:FSem:=⟨[.v QI,.r false (.b QL)],[.v QI],a1f⟩
def a8j(x:(LI×Int)):Option Int:=cond (x.2==1) ((a1f (1,x.1)).bind fun y1=>some y1.1) (cond (x.2==2) ((a1f (1,x.1)).bind fun y2=>(a1f (2,y2.2)).bind fun y3=>some (wrap .i64 ((wrap .i64 (2*y2.1))-y3.1))) (cond (x.2==3) ((a1f (1,x.1)).bind fun y4=>(a1f (2,y4.2)).bind fun y5=>(a1f (3,y5.2)).bind fun y6=>some (wrap .i64 ((wrap .i64 ((wrap .i64 (3*y4.1))-(wrap .i64 (3*y5.1))))+y6.1))) (cond (x.2==4) ((a1f (1,x.1)).bind fun y7=>(a1f (2,y7.2)).bind fun y8=>(a1f (3,y8.2)).bind fun y9=>(a1f (4,y9.2)).bind fun y10=>some (wrap .i64 ((wrap .i64 ((wrap .i64 ((wrap .i64 (4*y7.1))-(wrap .i64 (6*y8.1))))+(wrap .i64 (4*y9.1))))-y10.1))) (some 0))))
def b8h:FSem:=⟨[.v QL,.v QI],[.v QI],a8j⟩
def a7b(s:Z57):Option (Z57 ⊕ Z45):=(fun(a b:Int)(c:LI)=>cond (decide (b<a)) ((m0k s.2.1 b).bind fun x5=>(a8j (c,s.1)).bind fun y6=>(a2N [wrap .i64 (x5+y6)]).bind fun y7=>cond (!y7) (some (.inr (Sum.inr ((6,[],()))))) (cond (lim ((a03 c)+1)) (some (.inl (s.1,s.2.1,a,wrap .i64 (b+1),a04 c [wrap .i64 (x5+y6)],()))) none)) (some (.inr (Sum.inl (c,()))))) s.2.2.1 s.2.2.2.1 s.2.2.2.2.1
def a8N(x:Z11):Option (LI×Int):=(show Option Z48 from cond (decide (x.2.2<0)) (some (x.1,x.2.1,x.2.2,true,())) (cond (decide (x.2.2 > 4)) (some (x.1,x.2.1,x.2.2,true,())) (some (x.1,x.2.1,x.2.2,(x.1.length:Int) != x.2.2,())))).bind fun z1=>cond z1.2.2.2.1 (some ([],1)) ((show Option Z48 from(a2N z1.1).bind fun y2=>cond (!y2) (some (z1.1,z1.2.1,z1.2.2.1,true,())) ((a2N z1.2.1).bind fun y3=>some (z1.1,z1.2.1,z1.2.2.1,!y3,()))).bind fun z4=>cond z4.2.2.2.1 (some ([],6)) (cond (lim (a03 z4.1)) ((y0s a7b (z4.2.2.1,z4.2.1,(z4.2.1.length:Int),0,z4.1,())).bind fun w8=>match w8 with |.inl a9=>some (a9.1,0) |.inr b10=>some (b10.2.1,b10.1)) none))
def b9s:FSem:=⟨[.v QL,.v QL,.v QI],[.o QI,.v QI],a8N⟩
def c9z:Hints:=⟨[(250,[2,.sv 34 QL,35,36,.own 8 8 QI],[Qe 0 [.own 8 8 QI],Qr [7,.own 6 6 QI]])],[(6,[Qn [.sv 0 QL,.sv 1 QL,2,.sv 23 .bool]]),(14,[Qn [.sv 0 QL,.sv 1 QL,2,.sv 31 .bool]])],[]⟩
def a6n(s:Z81):Option (Z81 ⊕ Z45):=(fun(a:LI)(b c:Int)(d:LI)=>cond (decide (c<b)) ((m0k a c).bind fun x6=>(a4y (d,s.1,s.2.1)).bind fun y7=>(a4S (wrap .i64 (y7+x6))).bind fun y8=>cond (!y8) (some (.inr (Sum.inr ((6,[],()))))) (cond (lim ((a03 d)+1)) (some (.inl (s.1,s.2.1,a,b,wrap .i64 (c+1),a04 d [wrap .i64 (y7+x6)],()))) none)) (some (.inr (Sum.inl (d,()))))) s.2.2.1 s.2.2.2.1 s.2.2.2.2.1 s.2.2.2.2.2.1
def a6G(x:(LI×Z11)):Option (LI×Int):=(show Option Z73 from(a4x (x.2.2.1,x.2.2.2)).bind fun y1=>cond (!y1) (some (x.1,x.2.1,x.2.2.1,x.2.2.2,true,())) (some (x.1,x.2.1,x.2.2.1,x.2.2.2,(x.1.length:Int) != (x.2.2.1.length:Int),()))).bind fun z2=>cond z2.2.2.2.2.1 (some ([],1)) ((show Option Z73 from(a2x z2.1).bind fun y3=>cond (!y3) (some (z2.1,z2.2.1,z2.2.2.1,z2.2.2.2.1,true,())) ((a2x z2.2.1).bind fun y4=>some (z2.1,z2.2.1,z2.2.2.1,z2.2.2.2.1,!y4,()))).bind fun z5=>cond z5.2.2.2.2.1 (some ([],6)) (cond ((decide (0≤(wrap .i64 ((z5.1.length:Int)+(z5.2.1.length:Int)))))&&(lim (a01 (wrap .i64 ((z5.1.length:Int)+(z5.2.1.length:Int)))))) (cond (lim (0+(a03 z5.1))) ((y0s a6n (z5.2.2.1,z5.2.2.2.1,z5.2.1,(z5.2.1.length:Int),0,a04 [] z5.1,())).bind fun w9=>match w9 with |.inl a10=>some (a10.1,0) |.inr b11=>some (b11.2.1,b11.1)) none) none))
def b8i:FSem:=⟨[.v QL,.v QL,.v QL,.v QI],[.o QI,.v QI],a6G⟩
def c9A:Hints:=⟨[(506,[.sv 2 QL,3,.sv 42 QL,43,44,.own 10 10 QI],[Qe 0 [.own 10 10 QI],Qr [9,.own 8 8 QI]])],[(6,[Qn [.sv 0 QL,.sv 1 QL,.sv 2 QL,3,.sv 24 .bool]]),(14,[Qn [.sv 0 QL,.sv 1 QL,.sv 2 QL,3,.sv 32 .bool]])],[]⟩
def a7B(s:Z80):Option (Z80 ⊕ Z45):=(fun(a b:Int)(c d:LI)=>cond (decide (b<a)) ((m0k s.2.1 b).bind fun x3=>(a4m (c,b,s.1,d)).bind fun y4=>(a6O (wrap .i64 (x3+y4))).bind fun y5=>cond (!y5) (some (.inr (Sum.inr ((6,[],()))))) (cond (lim ((a03 c)+1)) (some (.inl (s.1,s.2.1,a,wrap .i64 (b+1),a04 c [wrap .i64 (x3+y4)],d,()))) none)) (some (.inr (Sum.inl (c,()))))) s.2.2.1 s.2.2.2.1 s.2.2.2.2.1 s.2.2.2.2.2.1
def a9R(x:Z12):Option (LI×Int):=(a7y (x.2.1,x.2.2)).bind fun y1=>cond (!y1) (some ([],1)) ((a4l x.1).bind fun y2=>cond (!y2) (some ([],6)) (cond ((decide (0≤(x.1.length:Int)))&&(lim (a01 (x.1.length:Int)))) ((y0s a7B (x.2.1,x.1,(x.1.length:Int),0,[],x.2.2,())).bind fun w6=>match w6 with |.inl a7=>some (a7.1,0) |.inr b8=>some (b8.2.1,b8.1)) none))
def c1f:FSem:=⟨[.v QL,.v QI,.v (.arr 3 QI)],[.o QI,.v QI],a9R⟩
def c9B:Hints:=⟨[(250,[1,.sv 22 QL,23,24,.own 8 8 QI,.vp 5 (.arr 3 QI)],[Qe 0 [.own 8 8 QI],Qr [7,.own 6 6 QI]])],[],[]⟩
def a5i(s:(Int×(Int×(LI×Z83)))):Option ((Int×(Int×(LI×Z83))) ⊕ (Z28 ⊕ Z28)):=(fun(a:Int)(b:LI)(c:Int)(d:LI)=>cond (decide (a<s.1)) (cond ((decide (0≤a))&&(decide (a<(d.length:Int)))) ((a1Z s.2.2.2.2.2.1).bind fun y6=>(a5V (wrap .i64 (y6.1+(a02 d (a01 a) 0)))).bind fun y7=>cond (!y7) (some (.inr (Sum.inr (([],6,d,()))))) ((a3l (y6.2,wrap .i64 (y6.1+(a02 d (a01 a) 0)))).bind fun y8=>cond ((decide (0≤a))&&(decide (a<(d.length:Int)))) (some (.inl (s.1,wrap .i64 (a+1),b,c,a05 d (a01 a) (wrap .i64 (y6.1+(a02 d (a01 a) 0))),y8,()))) none)) none) (some (.inr (Sum.inl (b,c,d,()))))) s.2.1 s.2.2.1 s.2.2.2.1 s.2.2.2.2.1
def a7c(k:Int)(v:(Int×Int×Unit))(s:(Z5×Z28)):Option ((Z5×Z28) ⊕ (Ex×Z5×Z28)):=(a7Y v).bind fun y4=>cond (y4.2 != 0) (some (.inr (.ret,s.1,[],y4.2,s.2.2.2.1,()))) ((y0s a5i ((s.2.2.2.1.length:Int),0,s.2.1,s.2.2.1,s.2.2.2.1,y4.1,())).bind fun w9=>match w9 with |.inl a10=>some (.inl (s.1,a10.1,a10.2.1,a10.2.2.1,())) |.inr b11=>some (.inr (.ret,s.1,b11.1,b11.2.1,b11.2.2.1,())))
def a8O(x:Z27):Option (LI×Int):=(a6N x.2).bind fun y1=>cond (!y1) (some ([],1)) ((a5e x.1).bind fun y2=>cond (!y2) (some ([],6)) ((a1n x.1).bind fun y3=>cond (lim (a03 x.2)) ((l0f a7c x.2 (a03 x.2) (x.2,[],0,y3,())).bind fun w12=>match w12 with |.inl a13=>some (a13.2.2.2.1,0) |.inr (.normal,a14)=>some (a14.2.2.2.1,0) |.inr (.exit e15,a14)=>(cond (e15==0) (some (a14.2.2.2.1,0)) none) |.inr (.ret,a14)=>some (a14.2.1,a14.2.2.1)) none))
def a8P:FSem:=⟨[.v QL,.v (.list false Q4)],[.v QL,.v QI],a8O⟩
def c9C:Hints:=⟨[(8046,[35,36,.box 1001004 QL,.box 1001005 QI,.box 1001006 (.list true QI),.box 1028 Q9,Qp 4 1001004,Qp 5 1001005,Qp 6 1001006,Qp 9 1028,.ref 34 1001006 []],[Qe 2 [.box 1001004 QL,.box 1001005 QI,.box 1001006 (.list true QI),Qp 4 1001004,Qp 5 1001005,Qp 6 1001006],Qr [.box 1001004 QL,.box 1001005 QI,.box 1001006 (.list true QI),Qp 4 1001004,Qp 5 1001005,Qp 6 1001006]])],[],[]⟩
def c5h:Cx:=b5d [(192,a1U),(201,b4L),(247,b1O),(249,b4M),(250,a8I),(251,b3L),(252,a9u)] [(6,.list true QI)] 15875 72057594037927936
def c6z:HintR:=⟨22,Q4,248,291,[4,5,6],[.sv 22 (.list false Q4),.box 1001004 QL,.box 1001005 QI,.box 1001006 (.list true QI),.ptr 4 1001004 [],.ptr 5 1001005 [],.ptr 6 1001006 []]⟩
theorem c6X(x):z0h c5h c9C c6z Tryz.f162 a8P.ps a8P.rs x=a8P.F x:=by kernel_rfl
def a7C(s:Z57):Option (Z57 ⊕ Z45):=(fun(a:Int)(b:LI)(c d:Int)(e:LI)=>cond (decide (d<c)) ((m0k b d).bind fun x2=>(show Option (Int×Int×Z62)from(a4R x2).bind fun y3=>cond (!y3) (some (a,x2,b,c,d,true,e,())) (cond (decide (a<0)) none ((a4R (A0n .i64 x2 a)).bind fun y4=>some (a,x2,b,c,d,!y4,e,())))).bind fun z5=>cond z5.2.2.2.2.2.1 (some (.inr (Sum.inr ((6,[],()))))) (cond (decide (z5.1<0)) none (cond (lim ((a03 z5.2.2.2.2.2.2.1)+1)) (some (.inl (z5.1,z5.2.2.1,z5.2.2.2.1,wrap .i64 (z5.2.2.2.2.1+1),a04 z5.2.2.2.2.2.2.1 [A0n .i64 z5.2.1 z5.1],()))) none))) (some (.inr (Sum.inl (e,()))))) s.1 s.2.1 s.2.2.1 s.2.2.2.1 s.2.2.2.2.1
def a8c(x:(LI×Int)):Option (LI×Int):=(show Option Z18 from cond (decide (x.2<0)) (some (x.1,x.2,true,())) (some (x.1,x.2,decide (x.2 > 30),()))).bind fun z1=>cond z1.2.2.1 (some ([],1)) ((y0s a7C (z1.2.1,z1.1,(z1.1.length:Int),0,[],())).bind fun w6=>match w6 with |.inl a7=>some (a7.1,0) |.inr b8=>some (b8.2.1,b8.1))
def c1g:FSem:=⟨[.v QL,.v QI],[.o QI,.v QI],a8c⟩
def c9D:Hints:=⟨[(122,[1,.sv 15 QL,16,17,.own 6 6 QI],[Qe 0 [.own 6 6 QI],Qr [5,.own 4 4 QI]])],[(6,[Qn [.sv 0 QL,1,.sv 14 .bool]]),(15666,[Qn [1,8,.sv 15 QL,16,17,.sv 30 .bool,.own 6 6 QI]])],[]⟩
def a6H(s:c2h):Option (c2h ⊕ (LI×Unit)):=cond (decide (s.2.1<s.1)) ((m0k s.2.2.2.1.2.2.2.2.2.2.2.2.1 0).bind fun x1=>cond (lim ((a03 s.2.2.1)+1)) (some (.inl (s.1,wrap .i64 (s.2.1+1),a04 s.2.2.1 [x1],s.2.2.2.1,()))) none) (some (.inr (s.2.2.1,())))
def b0Y(x:a7j):Option (LI×Int):=(show Option ((LI×(Int×b3I)) ⊕ Z3)from cond (x.1.1==0) ((y0s a6H (x.2,0,[],x.1,())).bind fun w2=>some (Sum.inr ((0,w2.1,())))) (cond (x.1.1==1) (some (Sum.inl (x.1.2.2.2.2.2.2.2.2.1,0,x.1,()))) (cond (x.1.1==2) ((a8N (x.1.2.2.2.2.2.2.2.2.1,x.1.2.2.2.2.2.2.2.2.2.2.1,x.1.2.2.1)).bind fun y3=>some (Sum.inl (y3.1,y3.2,x.1,()))) (cond (x.1.1==3) ((a6G (x.1.2.2.2.2.2.2.2.2.1,x.1.2.2.2.2.2.2.2.2.2.2.1,x.1.2.2.2.2.2.1,x.1.2.2.2.1)).bind fun y4=>some (Sum.inl (y4.1,y4.2,x.1,()))) (cond (x.1.1==4) ((a6G (x.1.2.2.2.2.2.2.2.2.1,x.1.2.2.2.2.2.2.2.2.2.2.1,x.1.2.2.2.2.2.1,x.1.2.2.2.1)).bind fun y5=>cond (y5.2==0) ((a9R (y5.1,x.1.2.2.2.2.1,x.1.2.2.2.2.2.2.1)).bind fun y6=>some (Sum.inl (y6.1,y6.2,x.1,()))) (some (Sum.inl (y5.1,y5.2,x.1,())))) (cond (x.1.1==5) ((a8O (x.1.2.2.2.2.2.2.2.2.2.2.1,x.1.2.2.2.2.2.2.2.1)).bind fun y7=>some (Sum.inl (y7.1,y7.2,x.1,()))) (some (Sum.inl ([],0,x.1,()))))))))).bind fun z8=>match z8 with |.inl a9=>(cond (a9.2.1 != 0) (some ([],a9.2.1)) ((a8c (a9.1,a9.2.2.1.2.1)).bind fun y11=>some (y11.1,y11.2))) |.inr b10=>some (b10.2.1,b10.1)
def c2r:FSem:=⟨[.v Q19,.v QI],[.o QI,.v QI],b0Y⟩
def H76:Hints:=⟨[(3922,[12,13,.own 6 6 QI,.vp 2 Q19],[Qe 1 [.own 6 6 QI]])],[(15,[Qn [.sv 6 QL,7,.vp 2 Q19],Qr [5,.own 4 6 QI]])],[]⟩
def a8C(x:a7j):Option (LI×Int):=(a8M (x.1,x.2)).bind fun y1=>cond (!y1) (some ([],1)) ((b0Y (x.1,x.2)).bind fun y2=>cond (y2.2 != 0) (some ([],1)) (some (y2.1,0)))
def c3M:FSem:=⟨[.v Q19,.v QI],[.o QI,.v QI],a8C⟩
def b1P(x:a7j):Option Bool:=(a8C (x.1,x.2)).bind fun y1=>some (y1.2==0)
def c3N:FSem:=⟨[.v Q19,.v QI],[.v .bool],b1P⟩
def a3c(x:(Z4×Int)):Option Z4:=(show Option Z34 from cond ((a09 x.1.2.1 8)==0) (cond (lim ((a03 x.1.1)+1)) (some (x.2,(a04 x.1.1 [0],x.1.2),())) none) (some (x.2,x.1,()))).bind fun z1=>cond ((decide (0≤(wrap .i64 (a08 z1.2.1.2.1 8))))&&(decide ((wrap .i64 (a08 z1.2.1.2.1 8))<(z1.2.1.1.length:Int)))) (cond (decide ((wrap .i64 (7-(a09 z1.2.1.2.1 8)))<0)) none (cond ((decide (0≤(wrap .i64 (a08 z1.2.1.2.1 8))))&&(decide ((wrap .i64 (a08 z1.2.1.2.1 8))<(z1.2.1.1.length:Int)))) (some (a05 z1.2.1.1 (a01 (wrap .i64 (a08 z1.2.1.2.1 8))) (bits .u8 .or (a02 z1.2.1.1 (a01 (wrap .i64 (a08 z1.2.1.2.1 8))) 0) (A0n .u8 z1.1 (wrap .i64 (7-(a09 z1.2.1.2.1 8))))),wrap .i64 (z1.2.1.2.1+1),z1.2.1.2.2)) none)) none
def b4A:FSem:=⟨[.r false (.b Q5),.v QV],[],a3c⟩
def c9E:Hints:=⟨[],[(1,[Qn [.sv 1 QV,.box pinned Q5,Qp 0 pinned]])],[(2,[.p,.p,.q,.q,.p,.p,.q,.q,.v,.q,.q,.v,.p,.p,.q,.q,.v,.v,.v,.x,.x,.x])]⟩
def a4e(s:Z52):Option (Z52 ⊕ Z20):=cond (decide (s.2.1≥0)) (cond (decide (s.2.1<0)) none ((a3c (s.2.2.1,wrap .u8 (bits .u64 .and (A0o .u64 s.1 s.2.1) 1))).bind fun y2=>some (.inl (s.1,wrap .i64 (s.2.1-1),y2,())))) (some (.inr (s.2.2.1,())))
def a0F(x:(Z4×Int×Int)):Option Z16:=(show Option (Int×Int×Bool×Z20)from cond (decide (x.2.2<0)) (some (x.2.1,x.2.2,true,x.1,())) (cond (decide (x.2.2 > 64)) (some (x.2.1,x.2.2,true,x.1,())) (cond (decide (x.2.2<0)) none (some (x.2.1,x.2.2,(A0o .u64 x.2.1 x.2.2) != 0,x.1,()))))).bind fun z1=>cond z1.2.2.1 (some (1,z1.2.2.2.1)) ((y0s a4e (z1.1,wrap .i64 (z1.2.1-1),z1.2.2.2.1,())).bind fun w3=>some (0,w3.1))
def b4B:FSem:=⟨[.r false (.b Q5),.v QU,.v QI],[.v QI],a0F⟩
def c9F:Hints:=⟨[(58,[.sv 1 QU,7,.box pinned Q5,Qp 0 pinned],[Qe 0 [.box pinned Q5]])],[(6,[Qn [.sv 1 QU,2,.sv 19 .bool,.box pinned Q5,Qp 0 pinned]])],[]⟩
def a2P(x:(Z4×Int×Int)):Option Z4:=cond (decide (x.2.2<0)) none ((a0F (x.1,bits .u64 .and (wrap .u64 x.2.1) (wrap .u64 ((A0n .u64 1 x.2.2)-1)),x.2.2)).bind fun y1=>some y1.2)
def b5R:FSem:=⟨[.r false (.b Q5),.v QI,.v QI],[],a2P⟩
def a5J(s:Z86):Option (Z86 ⊕ Z20):=(fun(a b:Int)(c:Z4)=>cond (decide (b<a)) ((m0k s.2.1 b).bind fun x6=>(a2P (c,x6,s.1)).bind fun y7=>some (.inl (s.1,s.2.1,a,wrap .i64 (b+1),y7,()))) (some (.inr (c,())))) s.2.2.1 s.2.2.2.1 s.2.2.2.2.1
def a7D(x:(Z4×a1h)):Option Z4:=(a0F (x.1,wrap .u64 (wrap .i64 ((x.2.2.2.2.2.2.1.length:Int)-1)),5)).bind fun y1=>(a0F (y1.2,wrap .u64 x.2.2.2.2.1,4)).bind fun y2=>(a3o x.2.2.2.2.2.2.1).bind fun y3=>(a0F (y2.2,wrap .u64 y3,5)).bind fun y4=>(y0s a5J (y3,x.2.2.2.2.2.2.1,(x.2.2.2.2.2.2.1.length:Int),0,y4.2,())).bind fun w8=>some w8.1
def b7b:FSem:=⟨[.r false (.b Q5),.v Q19],[],a7D⟩
def c9G:Hints:=⟨[(254,[4,.sv 27 QL,28,29,.box pinned Q5,Qp 0 pinned],[Qe 0 [.box pinned Q5]])],[],[]⟩
def a3v(s:Z52):Option (Z52 ⊕ Z20):=cond (decide (s.2.1<s.1)) ((a3c (s.2.2.1,0)).bind fun y2=>some (.inl (s.1,wrap .i64 (s.2.1+1),y2,()))) (some (.inr (s.2.2.1,())))
def a2j(x:(Z4×Int)):Option Z16:=(show Option (Int×Bool×Z20)from cond (decide (x.2<0)) (some (x.2,true,x.1,())) (some (x.2,decide (x.2 > 4096),x.1,()))).bind fun z1=>cond z1.2.1 (some (1,z1.2.2.1)) ((y0s a3v (z1.1,0,z1.2.2.1,())).bind fun w3=>(a3c (w3.1,1)).bind fun y4=>some (0,y4))
def b3F:FSem:=⟨[.r false (.b Q5),.v QI],[.v QI],a2j⟩
def c9H:Hints:=⟨[(58,[11,12,.box pinned Q5,Qp 0 pinned],[Qe 0 [.box pinned Q5,Qp 0 pinned]])],[(6,[Qn [1,.sv 10 .bool,.box pinned Q5,Qp 0 pinned]])],[]⟩
def a8k(s:(Int×(LI×Z77))):Option ((Int×(LI×Z77)) ⊕ ((Int×(LI×Z20)) ⊕ Z34)):=(fun(a:LI)(b c:Int)(d:Z4)=>cond (decide (c<b)) ((m0k a c).bind fun x2=>(a6Q x2).bind fun y3=>cond (!y3) (some (.inr (Sum.inr ((1,d,()))))) (some (.inl (s.1,s.2.1,a,b,wrap .i64 (c+1),d,())))) (some (.inr (Sum.inl (s.1,s.2.1,d,()))))) s.2.2.1 s.2.2.2.1 s.2.2.2.2.1 s.2.2.2.2.2.1
def a6I(s:Z86):Option (Z86 ⊕ Z20):=(fun(a:Int)(b:LI)(c d:Int)(e:Z4)=>cond (decide (d<c)) ((m0k b d).bind fun x7=>(a8b x7).bind fun y8=>cond (decide (a<0)) none (cond (decide ((A0o .u64 y8 a)<32)) ((a2j (e,wrap .i64 (A0o .u64 y8 a))).bind fun y9=>cond (decide (a<0)) none ((a0F (y9.2,wrap .u64 (y8-(A0n .u64 (A0o .u64 y8 a) a)),a)).bind fun y10=>some (.inl (a,b,c,wrap .i64 (d+1),y10.2,())))) ((a2j (e,32)).bind fun y11=>(a0F (y11.2,y8,32)).bind fun y12=>some (.inl (a,b,c,wrap .i64 (d+1),y12.2,()))))) (some (.inr (e,())))) s.1 s.2.1 s.2.2.1 s.2.2.2.1 s.2.2.2.2.1
def b0Z(x:(Z4×(Int×LI))):Option Z16:=(a4A x.2.1).bind fun y1=>cond (!y1) (some (1,x.1)) ((y0s a8k (x.2.1,x.2.2,x.2.2,(x.2.2.length:Int),0,x.1,())).bind fun w4=>match w4 with |.inl a5=>((y0s a6I (a5.1,a5.2.1,(a5.2.1.length:Int),0,a5.2.2.1,())).bind fun w13=>some (0,w13.1)) |.inr b6=>some (b6.1,b6.2.1))
def c2s:FSem:=⟨[.r false (.b Q5),.v QI,.v QL],[.v QI],b0Z⟩
def c9I:Hints:=⟨[(58,[1,.sv 2 QL,.sv 16 QL,17,18,.box pinned Q5,Qp 0 pinned],[Qe 0 [1,.sv 2 QL,.box pinned Q5,Qp 0 pinned],Qr [6,.box pinned Q5]]),(122,[1,.sv 26 QL,27,28,.box pinned Q5,Qp 0 pinned],[Qe 2 [.box pinned Q5]])],[],[]⟩
def a7E(s:(LI×(Int×Int×Int×Z99))):Option ((LI×(Int×Int×Int×Z99)) ⊕ Z99):=(fun(a b c:Int)(d:LI)(e f:Int)(g:LI)(h:Z4)(i:Z3)=>cond (decide (f<e)) ((m0k d f).bind fun x11=>cond (decide (a<0)) none ((a0F (h,bits .u64 .and (wrap .u64 x11) (wrap .u64 ((A0n .u64 1 a)-1)),a)).bind fun y12=>some (.inl (s.1,a,b,c,d,e,wrap .i64 (f+1),g,y12.2,i,())))) (some (.inr (s.1,b,c,g,h,i,())))) s.2.1 s.2.2.1 s.2.2.2.1 s.2.2.2.2.1 s.2.2.2.2.2.1 s.2.2.2.2.2.2.1 s.2.2.2.2.2.2.2.1 s.2.2.2.2.2.2.2.2.1 s.2.2.2.2.2.2.2.2.2.1
def a4o(s:Z99):Option (Z99 ⊕ Z20):=(fun(a:LI)(b c:Int)(d:LI)(e:Z4)(f:Z3)=>cond (decide (c<b)) (cond ((decide (0≤c))&&(decide (c<(d.length:Int)))) (cond ((decide (0≤(a02 d (a01 c) 0)))&&(decide ((a02 d (a01 c) 0)≤(a.length:Int)))) (cond ((decide (0≤(a02 d (a01 c) 0)))&&(decide ((a02 d (a01 c) 0)≤(a.length:Int)))) ((m0k f.2.1 c).bind fun x4=>(a0F (e,wrap .u64 x4,5)).bind fun y5=>(m0k f.2.1 c).bind fun x6=>cond (x6 != 31) ((m0k f.2.1 c).bind fun x7=>(b0Z (y5.2,x7,a06 (a01 (a02 d (a01 c) 0)) a)).bind fun y8=>some (.inl (a07 (a01 (a02 d (a01 c) 0)) (a06 (a03 a) a),b,wrap .i64 (c+1),d,y8.2,f,()))) ((a3o (a06 (a01 (a02 d (a01 c) 0)) a)).bind fun y9=>(a0F (y5.2,wrap .u64 y9,5)).bind fun y10=>(y0s a7E (a07 (a01 (a02 d (a01 c) 0)) (a06 (a03 a) a),y9,b,c,a06 (a01 (a02 d (a01 c) 0)) a,((a03 (a06 (a01 (a02 d (a01 c) 0)) a):Nat):Int),0,d,y10.2,f,())).bind fun w13=>some (.inl (w13.1,w13.2.1,wrap .i64 (w13.2.2.1+1),w13.2.2.2.1,w13.2.2.2.2.1,w13.2.2.2.2.2.1,())))) none) none) none) (some (.inr (e,())))) s.1 s.2.1 s.2.2.1 s.2.2.2.1 s.2.2.2.2.1 s.2.2.2.2.2.1
def a9S(x:(Z4×Z58)):Option Z16:=(a4B (x.2.1,x.2.2.1,x.2.2.2.1,x.2.2.2.2)).bind fun y1=>cond (y1==0) (some (1,x.1)) ((a0F (x.1,wrap .u64 x.2.1.1,4)).bind fun y2=>(a3Q (x.2.1.1,x.2.2.1,x.2.2.2.1)).bind fun y3=>(y0s a4o (x.2.2.2.2,(y3.length:Int),0,y3,y2.2,x.2.1,())).bind fun w14=>some (0,w14.1))
def c1h:FSem:=⟨[.r false (.b Q5),.v Q7,.v QI,.v QI,.v QL],[.v QI],a9S⟩
def c9J:Hints:=⟨[(122,[.sv 4 QL,33,34,.own 32 1032 QI,.box pinned Q5,Qp 0 pinned,.vp 6 Q7],[Qe 0 [.box pinned Q5]]),(2005502,[.sv 4 QL,14,33,34,.sv 73 QL,74,75,.own 32 1032 QI,.box pinned Q5,Qp 0 pinned,.vp 6 Q7],[Qe 2 [.sv 4 QL,33,34,.own 32 1032 QI,.box pinned Q5,Qp 0 pinned,.vp 6 Q7]])],[],[]⟩
def a8Q(s:(Int×(Int×(LI×c2i)))):Option ((Int×(Int×(LI×c2i))) ⊕ b2n):=(fun(a:LI)(b:Int)(c:Z4)(d:a1h)=>cond (decide (b<3)) ((m0k a b).bind fun x8=>(a2P (c,x8,8)).bind fun y9=>some (.inl (s.1,s.2.1,a,wrap .i64 (b+1),y9,d,()))) (some (.inr (s.1,s.2.1,c,d,())))) s.2.2.1 s.2.2.2.1 s.2.2.2.2.1 s.2.2.2.2.2.1
def a8R(s:(Int×Int×Z5×b2n)):Option ((Int×Int×Z5×b2n) ⊕ b2n):=(fun(a:Z5)(b c:Int)(d:Z4)(e:a1h)=>cond (decide (c<b)) ((m0k a c).bind fun x18=>(a0F (d,wrap .u64 (wrap .i64 (x18.1-1)),5)).bind fun y19=>(a0F (y19.2,wrap .u64 x18.2.1,4)).bind fun y20=>some (.inl (s.1,s.2.1,a,b,wrap .i64 (c+1),y20.2,e,()))) (some (.inr (s.1,s.2.1,d,e,())))) s.2.2.1 s.2.2.2.1 s.2.2.2.2.1 s.2.2.2.2.2.1 s.2.2.2.2.2.2.1
def a8S(s:(Int×(Int×(LI×b2n)))):Option ((Int×(Int×(LI×b2n))) ⊕ c2i):=(fun(a:LI)(b c:Int)(d:Z4)(e:a1h)=>cond (decide (c<b)) ((m0k a c).bind fun x23=>(a2P (d,x23,s.2.1)).bind fun y24=>some (.inl (s.1,s.2.1,a,b,wrap .i64 (c+1),y24,e,()))) (some (.inr (s.1,d,e,())))) s.2.2.1 s.2.2.2.1 s.2.2.2.2.1 s.2.2.2.2.2.1 s.2.2.2.2.2.2.1
def b1Q(x:(Z4×a7j)):Option Z16:=(b1P (x.2.1,x.2.2)).bind fun y1=>cond (!y1) (some (1,x.1)) ((a3o x.2.1.2.2.2.2.2.2.2.2.1).bind fun y2=>(a0F (x.1,wrap .u64 x.2.1.1,3)).bind fun y3=>(a0F (y3.2,wrap .u64 x.2.1.2.1,5)).bind fun y4=>(a0F (y4.2,wrap .u64 y2,5)).bind fun y5=>(show Option b2n from(show Option (b2n ⊕ (b2n ⊕ b2n))from cond (x.2.1.1==2) ((a0F (y5.2,wrap .u64 x.2.1.2.2.1,3)).bind fun y6=>some (Sum.inr (Sum.inl (x.2.2,y2,y6.2,x.2.1,())))) (cond (x.2.1.1==4) ((a0F (y5.2,wrap .u64 (wrap .i64 (x.2.1.2.2.2.2.1-1)),10)).bind fun y7=>(y0s a8Q (x.2.2,y2,x.2.1.2.2.2.2.2.2.1,0,y7.2,x.2.1,())).bind fun w10=>some (Sum.inl (w10.1,w10.2.1,w10.2.2.1,w10.2.2.2.1,()))) (cond (x.2.1.1==3) (some (Sum.inl (x.2.2,y2,y5.2,x.2.1,()))) (cond (x.2.1.1==5) (some (Sum.inr (Sum.inr ((x.2.2,y2,y5.2,x.2.1,()))))) (some (Sum.inr (Sum.inl (x.2.2,y2,y5.2,x.2.1,())))))))).bind fun z11=>match z11 with |.inl a12=>((a7D (a12.2.2.1,a12.2.2.2.1)).bind fun y14=>some (a12.1,a12.2.1,y14,a12.2.2.2.1,())) |.inr b13=>(match b13 with |.inl a15=>some (a15.1,a15.2.1,a15.2.2.1,a15.2.2.2.1,()) |.inr b16=>((a0F (b16.2.2.1,wrap .u64 (b16.2.2.2.1.2.2.2.2.2.2.2.1.length:Int),2)).bind fun y17=>(y0s a8R (b16.1,b16.2.1,b16.2.2.2.1.2.2.2.2.2.2.2.1,(b16.2.2.2.1.2.2.2.2.2.2.2.1.length:Int),0,y17.2,b16.2.2.2.1,())).bind fun w21=>some (w21.1,w21.2.1,w21.2.2.1,w21.2.2.2.1,())))).bind fun z22=>(y0s a8S (z22.1,z22.2.1,z22.2.2.2.1.2.2.2.2.2.2.2.2.1,(z22.2.2.2.1.2.2.2.2.2.2.2.2.1.length:Int),0,z22.2.2.1,z22.2.2.2.1,())).bind fun w25=>(a7l w25.2.2.1.1).bind fun y26=>cond (!y26) (some (0,w25.2.1)) ((a9S (w25.2.1,w25.2.2.1.2.2.2.2.2.2.2.2.2.1,w25.1,(w25.2.2.1.2.2.2.2.2.2.2.2.1.length:Int),w25.2.2.1.2.2.2.2.2.2.2.2.2.2.1)).bind fun y27=>some (y27.1,y27.2)))
def c3O:FSem:=⟨[.r false (.b Q5),.v Q19,.v QI],[.v QI],b1Q⟩
def H45:Hints:=⟨[(2042,[2,7,.sv 94 QL,95,96,.box pinned Q5,Qp 0 pinned,.vp 4 Q19],[Qe 9 [2,.box pinned Q5,Qp 0 pinned,.vp 4 Q19]]),(32598,[2,7,.sv 75 (.list false Q4),76,77,.box pinned Q5,Qp 0 pinned,.vp 4 Q19],[Qe 7 [2,7,.box pinned Q5,Qp 0 pinned,.vp 4 Q19]]),(260622,[2,7,.sv 57 (.arr 3 QI),58,.box pinned Q5,Qp 0 pinned,.vp 4 Q19],[Qe 5 [2,7,.box pinned Q5,Qp 0 pinned,.vp 4 Q19]])],[(127,[Qn [2,7,.box pinned Q5,Qp 0 pinned,.vp 4 Q19]]),(4072,[Qn [2,7,.box pinned Q5,Qp 0 pinned,.vp 4 Q19],Qe 0 [2,7,.box pinned Q5,Qp 0 pinned,.vp 4 Q19],Qe 4 [2,7,.box pinned Q5,Qp 0 pinned,.vp 4 Q19]])],[]⟩
def a7U(x:Z4):Option Z16:=some (x.2.1,x)
def b4C:FSem:=⟨[.r false (.b Q5)],[.v QI],a7U⟩
def a8T(x:a7j):Option Int:=(b1Q (([],0,()),x.1,x.2)).bind fun y1=>cond (y1.1 != 0) (some 0) ((a7U y1.2).bind fun y2=>some y2.1)
def c2t:FSem:=⟨[.v Q19,.v QI],[.v QI],a8T⟩
def a1M(s:Z47):Option (Z47 ⊕ (Int×Unit)):=(fun(a:Int)(b:LI)(c d:Int)=>cond (decide (d<c)) ((m0k b d).bind fun x1=>cond (decide ((wrap .i64 (d+s.1))≥4)) (some (.inl (s.1,wrap .i64 (a+(v0r x1 (wrap .i64 (0-x1)))),b,c,wrap .i64 (d+1),()))) (some (.inl (s.1,a,b,c,wrap .i64 (d+1),())))) (some (.inr (a,())))) s.2.1 s.2.2.1 s.2.2.2.1 s.2.2.2.2.1
def a4V(x:(LI×Int)):Option Int:=(y0s a1M (x.2,0,x.1,(x.1.length:Int),0,())).bind fun w2=>some w2.1
def b8j:FSem:=⟨[.v QL,.v QI],[.v QI],a4V⟩
def c9K:Hints:=⟨[(58,[1,5,.sv 8 QL,9,10],[Qe 0 [5]])],[],[]⟩
def a1A(s:Z31):Option (Z31 ⊕ (Int×Unit)):=(fun(a:LI)(b c d:Int)=>cond (decide (d≤4)) ((a2O (a,d)).bind fun y1=>cond (y1.2 != 0) (some (.inl (a,b,c,wrap .i64 (d+1),()))) ((a4V (y1.1,d)).bind fun y2=>(show Option (LI×Z39)from cond (decide (c<0)) (some (a,b,c,d,y2,true,())) (some (a,b,c,d,y2,decide (y2<c),()))).bind fun z3=>cond z3.2.2.2.2.2.1 (some (.inl (z3.1,z3.2.2.2.1,z3.2.2.2.2.1,wrap .i64 (z3.2.2.2.1+1),()))) (some (.inl (z3.1,z3.2.1,z3.2.2.1,wrap .i64 (z3.2.2.2.1+1),()))))) (some (.inr (b,())))) s.1 s.2.1 s.2.2.1 s.2.2.2.1
def a3z(x:LI):Option Int:=(y0s a1A (x,0,(-1),0,())).bind fun w4=>some w4.1
def b9t:FSem:=⟨[.v QL],[.v QI],a3z⟩
def c9L:Hints:=⟨[(58,[.sv 0 QL,3,4,5],[Qe 0 [3]])],[(7463,[Qn [.sv 0 QL,3,4,5,8,.sv 30 .bool]])],[]⟩
def a1I(x:Int):Option Int:=some (v0s (v0r x (-1048576)) 1048575)
def b7c:FSem:=⟨[.v QI],[.v QI],a1I⟩
def a1L(s:Z71):Option (Z71 ⊕ Z59):=(fun(a b:Int)(c:LI)(d e:Int)=>cond (decide (a<0)) none ((a1I (A0o .i64 b a)).bind fun y2=>cond (decide (a<0)) none (cond (y2 != (A0o .i64 b a)) (some (.inl (s.1,wrap .i64 (a+1),b,c,d,e,()))) (some (.inr (s.1,a,c,d,e,())))))) s.2.1 s.2.2.1 s.2.2.2.1 s.2.2.2.2.1 s.2.2.2.2.2.1
def a1V(s:Z59):Option (Z59 ⊕ Z4):=(fun(a:LI)(b c:Int)=>cond (decide (c<b)) ((m0k a c).bind fun x1=>(y0s a1L (s.1,s.2.1,x1,a,b,c,())).bind fun w3=>some (.inl (w3.1,w3.2.1,w3.2.2.1,w3.2.2.2.1,wrap .i64 (w3.2.2.2.2.1+1),()))) (some (.inr (s.1,s.2.1,())))) s.2.2.1 s.2.2.2.1 s.2.2.2.2.1
def a1W(s:Z57):Option (Z57 ⊕ (LI×Unit)):=(fun(a b:Int)(c:LI)=>cond (decide (b<a)) ((m0k s.2.1 b).bind fun x5=>cond (decide (s.1<0)) none (cond ((decide (0≤b))&&(decide (b<(c.length:Int)))) (some (.inl (s.1,s.2.1,a,wrap .i64 (b+1),a05 c (a01 b) (A0o .i64 x5 s.1),()))) none)) (some (.inr (c,())))) s.2.2.1 s.2.2.2.1 s.2.2.2.2.1
def a2Q(x:LI):Option LI:=(y0s a1V (x,0,x,(x.length:Int),0,())).bind fun w4=>cond ((decide (0≤(w4.1.length:Int)))&&((decide ((w4.1.length:Int)≤(w4.1.length:Int)))&&(lim (a01 (w4.1.length:Int))))) ((y0s a1W (w4.2.1,w4.1,(w4.1.length:Int),0,a00 (a01 (w4.1.length:Int)) 0,())).bind fun w6=>some w6.1) none
def b5S:FSem:=⟨[.v QL],[.o QI],a2Q⟩
def c9M:Hints:=⟨[(58,[.sv 0 QL,3,.sv 9 QL,10,11],[Qe 0 [.sv 0 QL,3]]),(250,[3,.sv 29 QL,30,31,.own 6 6 QI],[Qe 4 [.own 6 6 QI]]),(7474,[.sv 0 QL,3,5,.sv 9 QL,10,11],[Qe 2 [.sv 0 QL,3,.sv 9 QL,10,11]])],[],[(5,[.v,.v,.v,.v,.v,.v,.v,.x])]⟩
def a1Q(s:Z60):Option (Z60 ⊕ (Int×Int×Unit)):=cond (decide (s.2.2.2.2.1<(s.1.length:Int))) ((m0k s.1 s.2.2.2.2.1).bind fun x1=>(m0k s.2.1 (wrap .i64 (s.2.2.2.2.1-1))).bind fun x2=>(m0k s.1 s.2.2.2.2.1).bind fun x3=>(m0k s.1 s.2.2.2.2.1).bind fun x4=>(m0k s.2.1 (wrap .i64 (s.2.2.2.2.1-1))).bind fun x5=>(m0k s.2.1 (wrap .i64 (s.2.2.2.2.1-1))).bind fun x6=>some (.inl (s.1,s.2.1,wrap .i64 (s.2.2.1+(wrap .i64 (x1*x2))),wrap .i64 (s.2.2.2.1+(wrap .i64 ((wrap .i64 (x3*x4))+(wrap .i64 (x5*x6))))),wrap .i64 (s.2.2.2.2.1+1),()))) (some (.inr (s.2.2.1,s.2.2.2.1,())))
def a2n(s:(Int×Int×Unit)):Option ((Int×Int×Unit) ⊕ (Int×Int×Unit)):=cond (decide (s.2.1≥1099511627776)) (some (.inl (A0o .i64 s.1 1,A0o .i64 s.2.1 1,()))) (some (.inr (s.1,s.2.1,())))
def a2k(x:Z11):Option Int:=(y0s a1Q (x.1,x.2.1,0,0,x.2.2,())).bind fun w7=>(y0s a2n (w7.1,w7.2.1,())).bind fun w8=>cond (w8.2.1==0) (some 0) (cond (w8.2.1==0) none ((show Option (Int×Unit)from cond (w8.2.1==0) none (cond (decide ((a09 (A0n .i64 w8.1 15) w8.2.1)<0)) (some (wrap .i64 ((wrap .i64 (a08 (A0n .i64 w8.1 15) w8.2.1))-1),())) (some (wrap .i64 (a08 (A0n .i64 w8.1 15) w8.2.1),())))).bind fun z9=>some (v0s (v0r z9.1 (-16383)) 16383)))
def b3G:FSem:=⟨[.v QL,.v QL,.v QI],[.v QI],a2k⟩
def c9N:Hints:=⟨[(58,[.sv 0 QL,.sv 1 QL,7,8,9],[Qe 0 [7,8]]),(60,[7,8],[Qe 2 [7,8]])],[(255,[Qn [10]])],[(5,[.v,.v,.v,.v,.v,.v,.v,.v,.v,.v,.v,.x,.x]),(6,[.v,.v,.v,.v,.v,.v,.v,.v,.v,.v,.v,.v,.v,.v,.v,.v,.v,.v,.v,.v,.v,.v,.x,.x])]⟩
def a1g(s:(Int×Z82)):Option ((Int×Z82) ⊕ Z69):=(fun(a b c:Int)(d e f:LI)=>cond (decide (c≥a)) (cond ((decide (0≤c))&&(decide (c<(d.length:Int)))) (cond ((decide (0≤(wrap .i64 (c-1))))&&(decide ((wrap .i64 (c-1))<(e.length:Int)))) ((a1I (wrap .i64 ((a02 d (a01 c) 0)-(A0o .i64 (wrap .i64 (b*(a02 e (a01 (wrap .i64 (c-1))) 0))) 14)))).bind fun y6=>cond ((decide (0≤c))&&(decide (c<(d.length:Int)))) ((a1I (wrap .i64 ((a02 e (a01 (wrap .i64 (c-1))) 0)-(A0o .i64 (wrap .i64 (b*(a02 d (a01 c) 0))) 14)))).bind fun y7=>cond ((decide (0≤c))&&(decide (c<(e.length:Int)))) (some (.inl (s.1,a,b,wrap .i64 (c-1),a05 d (a01 c) y6,a05 e (a01 c) y7,f,()))) none) none) none) none) (some (.inr (s.1,a,d,e,f,())))) s.2.1 s.2.2.1 s.2.2.2.1 s.2.2.2.2.1 s.2.2.2.2.2.1 s.2.2.2.2.2.2.1
def a1F(s:Z69):Option (Z69 ⊕ (LI×Unit)):=(fun(a:Int)(b c d:LI)=>cond (decide (a≤s.1)) ((a2k (b,c,a)).bind fun y5=>cond (lim ((a03 d)+1)) ((y0s a1g (s.1,a,y5,wrap .i64 ((b.length:Int)-1),b,c,a04 d [y5],())).bind fun w8=>some (.inl (w8.1,wrap .i64 (w8.2.1+1),w8.2.2.1,w8.2.2.2.1,w8.2.2.2.2.1,()))) none) (some (.inr (d,())))) s.2.1 s.2.2.1 s.2.2.2.1 s.2.2.2.2.1
def a2y(x:(LI×Int)):Option (LI×Int):=(show Option Z18 from cond (decide (x.2<1)) (some (x.1,x.2,true,())) (cond (decide (x.2 > 32)) (some (x.1,x.2,true,())) (some (x.1,x.2,decide ((x.1.length:Int) > 4096),())))).bind fun z1=>cond z1.2.2.1 (some ([],1)) ((a2x z1.1).bind fun y2=>cond (!y2) (some ([],6)) ((a2Q z1.1).bind fun y3=>(a1n y3).bind fun y4=>cond ((decide (0≤z1.2.1))&&(lim (a01 z1.2.1))) ((y0s a1F (z1.2.1,1,y3,y4,[],())).bind fun w9=>some (w9.1,0)) none))
def b5h:FSem:=⟨[.v QL,.v QI],[.o QI,.v QI],a2y⟩
def c9O:Hints:=⟨[(1018,[1,9,.own 6 6 QI,.own 7 7 QI,.own 8 8 QI],[Qe 0 [.own 8 8 QI]]),(260686,[1,9,10,11,.own 6 6 QI,.own 7 7 QI,.own 8 8 QI],[Qe 2 [1,9,.own 6 6 QI,.own 7 7 QI,.own 8 8 QI]])],[(6,[Qn [.sv 0 QL,1,.sv 24 .bool]])],[(16,[.q,.v,.q,.q,.q,.v,.v,.q,.q,.v,.x])]⟩
def a0Y(s:Z44):Option (Z44 ⊕ ((LI×Unit) ⊕ Z4)):=(fun(a:LI)(b c:Int)=>cond (decide (c<b)) ((m0k a c).bind fun x2=>(show Option (LI×Z32)from cond (decide (x2<(-16383))) (some (s.1,a,b,c,true,())) (some (s.1,a,b,c,decide (x2 > 16383),()))).bind fun z3=>cond z3.2.2.2.2.1 (some (.inr (Sum.inr (([],1,()))))) (some (.inl (z3.1,z3.2.1,z3.2.2.1,wrap .i64 (z3.2.2.2.1+1),())))) (some (.inr (Sum.inl (s.1,()))))) s.2.1 s.2.2.1 s.2.2.2.1
def a1G(s:(LI×(Int×(Int×(LI×Z74))))):Option ((LI×(Int×(Int×(LI×Z74)))) ⊕ Z57):=(fun(a:Int)(b:LI)(c d:Int)(e:LI)(f g:Int)(h:LI)=>cond (decide (g<f)) ((m0k e g).bind fun x8=>(m0k s.1 (wrap .i64 ((wrap .i64 (s.2.1-1))-g))).bind fun x9=>cond (lim ((a03 h)+1)) (some (.inl (s.1,s.2.1,a,b,c,d,e,f,wrap .i64 (g+1),a04 h [wrap .i64 (x8-(A0o .i64 (wrap .i64 (a*x9)) 14))],()))) none) (some (.inr (a,b,c,d,h,())))) s.2.2.1 s.2.2.2.1 s.2.2.2.2.1 s.2.2.2.2.2.1 s.2.2.2.2.2.2.1 s.2.2.2.2.2.2.2.1 s.2.2.2.2.2.2.2.2.1 s.2.2.2.2.2.2.2.2.2.1
def a2f(s:Z44):Option (Z44 ⊕ (LI×Unit)):=(fun(a:LI)(b c:Int)=>cond (decide (c<b)) ((m0k s.2.1 c).bind fun x7=>cond ((decide (0≤(wrap .i64 (c+1))))&&(lim (a01 (wrap .i64 (c+1))))) ((y0s a1G (a,c,x7,s.2.1,b,c,a,(a.length:Int),0,[],())).bind fun w10=>cond (lim ((a03 w10.2.2.2.2.1)+1)) (some (.inl (a04 w10.2.2.2.2.1 [w10.1],w10.2.1,w10.2.2.1,wrap .i64 (w10.2.2.2.1+1),()))) none) none) (some (.inr (a,())))) s.1 s.2.2.1 s.2.2.2.1
def a3p(x:LI):Option (LI×Int):=(show Option Z7 from cond (decide ((x.length:Int)<1)) (some (x,true,())) (some (x,decide ((x.length:Int) > 32),()))).bind fun z1=>cond z1.2.1 (some ([],1)) ((y0s a0Y (z1.1,z1.1,(z1.1.length:Int),0,())).bind fun w4=>match w4 with |.inl a5=>((y0s a2f ([],a5.1,(a5.1.length:Int),0,())).bind fun w11=>some (w11.1,0)) |.inr b6=>some (b6.1,b6.2.1))
def b7d:FSem:=⟨[.v QL],[.v QL,.v QI],a3p⟩
def c9P:Hints:=⟨[(58,[.sv 0 QL,.sv 20 QL,21,22],[Qe 0 [.sv 0 QL],Qr [.sv 2 QL,3]]),(250,[.sv 6 QL,.sv 34 QL,35,36],[Qe 2 [.sv 6 QL]]),(256410,[.sv 6 QL,7,8,.sv 34 QL,35,36,.sv 44 QL,45,46,.own 9 9 QI],[Qe 4 [8,.sv 34 QL,35,36,.own 9 9 QI]])],[(6,[Qn [.sv 0 QL,.sv 19 .bool]]),(3737,[Qn [.sv 0 QL,.sv 20 QL,21,22,.sv 31 .bool]])],[]⟩
def a0Z(s:Z59):Option (Z59 ⊕ (Z4 ⊕ Z15)):=(fun(a:Int)(b:LI)(c d:Int)=>cond (decide (d<c)) ((m0k b d).bind fun x2=>(show Option (LI×(Int×Z32))from cond (decide (x2<(-35184372088832))) (some (s.1,a,b,c,d,true,())) (some (s.1,a,b,c,d,decide (x2 > 35184372088832),()))).bind fun z3=>cond z3.2.2.2.2.2.1 (some (.inr (Sum.inr ((0,1,[],()))))) (some (.inl (z3.1,z3.2.1,z3.2.2.1,z3.2.2.2.1,wrap .i64 (z3.2.2.2.2.1+1),())))) (some (.inr (Sum.inl (s.1,a,()))))) s.2.1 s.2.2.1 s.2.2.2.1 s.2.2.2.2.1
def a1j(s:(LI×(Int×Z74))):Option ((LI×(Int×Z74)) ⊕ Z41):=(fun(a b c:Int)(d:LI)(e f:Int)(g:LI)=>cond (decide (f<e)) ((m0k d f).bind fun x8=>cond (decide (b<0)) none ((a4T (A0o .i64 (wrap .i64 (x8+c)) b,a)).bind fun y9=>cond (!y9) (some (.inr (s.1,a,b,g,()))) (cond (lim ((a03 g)+1)) (some (.inl (s.1,a,b,c,d,e,wrap .i64 (f+1),a04 g [A0o .i64 (wrap .i64 (x8+c)) b],()))) none))) (some (.inr (s.1,a,b,g,())))) s.2.1 s.2.2.1 s.2.2.2.1 s.2.2.2.2.1 s.2.2.2.2.2.1 s.2.2.2.2.2.2.1 s.2.2.2.2.2.2.2.1
def a1v(s:Z14):Option (Z14 ⊕ (Unit ⊕ Z15)):=(fun(a:Int)=>cond (decide (a≤14)) ((show Option Z31 from cond (decide (a > 0)) (cond (decide ((wrap .i64 (a-1))<0)) none (some (s.1,s.2.1,a,A0n .i64 1 (wrap .i64 (a-1)),()))) (some (s.1,s.2.1,a,0,()))).bind fun z7=>cond ((decide (0≤(z7.1.length:Int)))&&(lim (a01 (z7.1.length:Int)))) ((y0s a1j (z7.1,z7.2.1,z7.2.2.1,z7.2.2.2.1,z7.1,(z7.1.length:Int),0,[],())).bind fun w10=>cond ((w10.2.2.2.1.length:Int)==(w10.1.length:Int)) (some (.inr (Sum.inr ((wrap .i64 (14-w10.2.2.1),0,w10.2.2.2.1,()))))) (some (.inl (w10.1,w10.2.1,wrap .i64 (w10.2.2.1+1),())))) none) (some (.inr (Sum.inl ())))) s.2.2.1
def a4p(x:(LI×Int)):Option Z2:=(show Option Z18 from cond (decide ((x.1.length:Int)<1)) (some (x.1,x.2,true,())) (cond (decide ((x.1.length:Int) > 32)) (some (x.1,x.2,true,())) (cond (decide (x.2<2)) (some (x.1,x.2,true,())) (some (x.1,x.2,decide (x.2 > 16),()))))).bind fun z1=>cond z1.2.2.1 (some ([],0,1)) ((y0s a0Z (z1.1,z1.2.1,z1.1,(z1.1.length:Int),0,())).bind fun w4=>match w4 with |.inl a5=>((y0s a1v (a5.1,a5.2.1,0,())).bind fun w11=>match w11 with |.inl a12=>some ([],0,6) |.inr b13=>some (b13.2.2.1,b13.1,b13.2.1)) |.inr b6=>some (b6.2.2.1,b6.1,b6.2.1))
def b7e:FSem:=⟨[.v QL,.v QI],[.o QI,.v QI,.v QI],a4p⟩
def c9Q:Hints:=⟨[(58,[.sv 0 QL,1,.sv 31 QL,32,33],[Qe 0 [.sv 0 QL,1],Qr [5,6,.own 4 4 QI]]),(122,[.sv 0 QL,1,9],[Qe 2 [],Qr [5,6,.own 4 11 QI]]),(125242,[.sv 0 QL,1,9,10,.sv 56 QL,57,58,.own 11 11 QI],[Qe 4 [.sv 0 QL,1,9,.own 11 11 QI]])],[(6,[Qn [.sv 0 QL,1,.sv 30 .bool]]),(3737,[Qn [.sv 0 QL,1,.sv 31 QL,32,33,.sv 42 .bool]]),(3913,[Qn [.sv 0 QL,1,9,10]])],[]⟩
def a2q(x:Z2):Option Z2:=(a2y (x.1,x.2.1)).bind fun y1=>cond (y1.2 != 0) (some ([],0,y1.2)) ((a3p y1.1).bind fun y2=>cond (y2.2 != 0) (some ([],0,y2.2)) ((a4p (y2.1,x.2.2)).bind fun y3=>some (y3.1,y3.2.1,y3.2.2)))
def b8k:FSem:=⟨[.v QL,.v QI,.v QI],[.o QI,.v QI,.v QI],a2q⟩
def a7F(s:(LI×(Int×Z53))):Option ((LI×(Int×Z53)) ⊕ (LI×Z53)):=(fun(a:LI)(b c d e f g:Int)=>cond (decide (g<(a.length:Int))) ((m0k a g).bind fun x3=>(m0k a (wrap .i64 (g-e))).bind fun x4=>some (.inl (a,s.2.1,b,c,d,e,wrap .i64 (f+(v0r (wrap .i64 (x3-x4)) (wrap .i64 (0-(wrap .i64 (x3-x4)))))),wrap .i64 (g+1),()))) (some (.inr (a,s.2.1,b,c,d,e,f,())))) s.1 s.2.2.1 s.2.2.2.1 s.2.2.2.2.1 s.2.2.2.2.2.1 s.2.2.2.2.2.2.1 s.2.2.2.2.2.2.2.1
def a7G(s:(LI×Z35)):Option ((LI×Z35) ⊕ (Int×Unit)):=(fun(a b c:Int)=>cond (decide (c≤a)) ((y0s a7F (s.1,s.2.1,a,b,s.2.2.2.2.1,c,0,a,())).bind fun w5=>(show Option (LI×(Int×Int×Z39))from cond (w5.2.2.2.2.2.1==w5.2.1) (some (w5.1,w5.2.1,w5.2.2.1,w5.2.2.2.1,w5.2.2.2.2.1,w5.2.2.2.2.2.1,w5.2.2.2.2.2.2.1,true,())) (some (w5.1,w5.2.1,w5.2.2.1,w5.2.2.2.1,w5.2.2.2.2.1,w5.2.2.2.2.2.1,w5.2.2.2.2.2.2.1,decide (w5.2.2.2.2.2.2.1<w5.2.2.2.2.1),()))).bind fun z6=>cond z6.2.2.2.2.2.2.2.1 (some (.inl (z6.1,z6.2.1,z6.2.2.1,z6.2.2.2.2.2.1,z6.2.2.2.2.2.2.1,wrap .i64 (z6.2.2.2.2.2.1+1),()))) (some (.inl (z6.1,z6.2.1,z6.2.2.1,z6.2.2.2.1,z6.2.2.2.2.1,wrap .i64 (z6.2.2.2.2.2.1+1),())))) (some (.inr (b,())))) s.2.2.1 s.2.2.2.1 s.2.2.2.2.2.1
end Go.Ab
namespace Go.Ab
open IntKind(wrap)
open Go.Proofs
set_option maxRecDepth 100000
set_option linter.unusedVariables false
def a6S(x:Z2):Option (Int×Int):=(show Option Z32 from cond (decide (x.2.1<2)) (some (x.1,x.2.1,x.2.2,true,())) (cond (decide (x.2.1 > x.2.2)) (some (x.1,x.2.1,x.2.2,true,())) (cond (decide (x.2.2 > 1024)) (some (x.1,x.2.1,x.2.2,true,())) (some (x.1,x.2.1,x.2.2,decide ((x.1.length:Int) > 4096),()))))).bind fun z1=>cond z1.2.2.2.1 (some (0,1)) (cond (decide ((z1.1.length:Int)≤z1.2.2.1)) (some (0,7)) ((a4l z1.1).bind fun y2=>cond (!y2) (some (0,6)) ((y0s a7G (z1.1,z1.2.1,z1.2.2.1,0,0,z1.2.1,())).bind fun w7=>some (w7.1,0))))
def c1i:FSem:=⟨[.v QL,.v QI,.v QI],[.v QI,.v QI],a6S⟩
def c9R:Hints:=⟨[(506,[.sv 0 QL,1,2,8,9,10],[Qe 0 [8]]),(129610,[.sv 0 QL,1,2,8,9,10,11,12],[Qe 2 [.sv 0 QL,1,2,8,9,10,11]])],[(6,[Qn [.sv 0 QL,1,2,.sv 29 .bool]]),(32403,[Qn [.sv 0 QL,1,2,8,9,10,11,.sv 74 .bool]])],[(15,[.v,.v,.v,.v,.v,.v,.v,.v,.v,.v,.x,.x])]⟩
def b1o(x:Unit):Option (List LI):=some ([a05 (a05 (a05 (a00 3 0) 0 0) 1 0) 2 0,a05 (a05 (a05 (a00 3 0) 0 0) 1 64) 2 0,a05 (a05 (a05 (a00 3 0) 0 0) 1 32) 2 0,a05 (a05 (a05 (a00 3 0) 0 16) 1 32) 2 16,a05 (a05 (a05 (a00 3 0) 0 21) 1 22) 2 21,a05 (a05 (a05 (a00 3 0) 0 0) 1 48) 2 0,a05 (a05 (a05 (a00 3 0) 0 (-8)) 1 64) 2 (-8),a05 (a05 (a05 (a00 3 0) 0 32) 1 32) 2 0,a05 (a05 (a05 (a00 3 0) 0 0) 1 32) 2 32]:List LI)
def b9u:FSem:=⟨[],[.o (.arr 3 QI)],b1o⟩
def a5W(s:(LI×(Int×(Int×(Bool×(Int×(Int×(Int×(Int×(Int×((List LI)×(LI×Z40)))))))))))):Option ((LI×(Int×(Int×(Bool×(Int×(Int×(Int×(Int×(Int×((List LI)×(LI×Z40))))))))))) ⊕ (LI×(Int×(Int×(Bool×(Int×(Int×(Int×((List LI)×Z40))))))))):=(fun(a:Int)(b:Bool)(c d e f g:Int)(h:List LI)(i j k l:LI)=>cond (decide (g<f)) (cond ((decide (0≤g))&&(decide (g<(i.length:Int)))) (some (.inl (s.1,s.2.1,a,b,wrap .i64 (c+(v0r (a02 i (a01 g) 0) (wrap .i64 (0-(a02 i (a01 g) 0))))),d,e,f,wrap .i64 (g+1),h,i,j,k,l,()))) none) (some (.inr (s.1,s.2.1,a,b,c,d,e,h,j,k,l,())))) s.2.2.1 s.2.2.2.1 s.2.2.2.2.1 s.2.2.2.2.2.1 s.2.2.2.2.2.2.1 s.2.2.2.2.2.2.2.1 s.2.2.2.2.2.2.2.2.1 s.2.2.2.2.2.2.2.2.2.1 s.2.2.2.2.2.2.2.2.2.2.1 s.2.2.2.2.2.2.2.2.2.2.2.1 s.2.2.2.2.2.2.2.2.2.2.2.2.1 s.2.2.2.2.2.2.2.2.2.2.2.2.2.1
def a5X(s:(LI×(Int×(Int×(Bool×(Int×(Int×((List LI)×Z13)))))))):Option ((LI×(Int×(Int×(Bool×(Int×(Int×((List LI)×Z13))))))) ⊕ (Bool×Z13)):=(fun(a b:Int)(c:Bool)(d e:Int)(f:List LI)(g h:LI)=>cond (decide (e<d)) (cond ((decide (0≤e))&&(decide (e<(f.length:Int)))) ((a6P (s.1,a,a02 f (a01 e) (a00 3 0))).bind fun y3=>cond (y3.2 != 0) (some (.inl (s.1,a,b,c,d,wrap .i64 (e+1),f,g,h,()))) ((y0s a5W (s.1,a,b,c,0,d,e,(y3.1.length:Int),0,f,y3.1,g,h,a02 f (a01 e) (a00 3 0),())).bind fun w4=>(show Option (LI×(Int×(Int×(Bool×(Int×(Int×(Int×(Bool×((List LI)×Z40)))))))))from cond (!w4.2.2.2.1) (some (w4.1,w4.2.1,w4.2.2.1,w4.2.2.2.1,w4.2.2.2.2.1,w4.2.2.2.2.2.1,w4.2.2.2.2.2.2.1,true,w4.2.2.2.2.2.2.2.1,w4.2.2.2.2.2.2.2.2.1,w4.2.2.2.2.2.2.2.2.2.1,w4.2.2.2.2.2.2.2.2.2.2.1,())) (some (w4.1,w4.2.1,w4.2.2.1,w4.2.2.2.1,w4.2.2.2.2.1,w4.2.2.2.2.2.1,w4.2.2.2.2.2.2.1,decide (w4.2.2.2.2.1<w4.2.2.1),w4.2.2.2.2.2.2.2.1,w4.2.2.2.2.2.2.2.2.1,w4.2.2.2.2.2.2.2.2.2.1,w4.2.2.2.2.2.2.2.2.2.2.1,()))).bind fun z5=>cond z5.2.2.2.2.2.2.2.1 (some (.inl (z5.1,z5.2.1,z5.2.2.2.2.1,true,z5.2.2.2.2.2.1,wrap .i64 (z5.2.2.2.2.2.2.1+1),z5.2.2.2.2.2.2.2.2.1,z5.2.2.2.2.2.2.2.2.2.1,z5.2.2.2.2.2.2.2.2.2.2.2.1,()))) (some (.inl (z5.1,z5.2.1,z5.2.2.1,z5.2.2.2.1,z5.2.2.2.2.2.1,wrap .i64 (z5.2.2.2.2.2.2.1+1),z5.2.2.2.2.2.2.2.2.1,z5.2.2.2.2.2.2.2.2.2.1,z5.2.2.2.2.2.2.2.2.2.2.1,()))))) none) (some (.inr (c,g,h,())))) s.2.1 s.2.2.1 s.2.2.2.1 s.2.2.2.2.1 s.2.2.2.2.2.1 s.2.2.2.2.2.2.1 s.2.2.2.2.2.2.2.1 s.2.2.2.2.2.2.2.2.1
def a8d(x:(LI×Int)):Option (LI×Int):=(show Option (LI×Z17)from cond (decide (x.2<2)) (some (x.1,x.2,true,a00 3 0,())) (some (x.1,x.2,decide (x.2 > 1024),a00 3 0,()))).bind fun z1=>cond z1.2.2.1 (some (a00 3 0,1)) ((b1o ()).bind fun y2=>(y0s a5X (z1.1,z1.2.1,0,false,(y2.length:Int),0,y2,z1.2.2.2.1,a00 3 0,())).bind fun w6=>cond (!w6.1) (some (a00 3 0,6)) (some (w6.2.2.1,0)))
def c1j:FSem:=⟨[.v QL,.v QI],[.v (.arr 3 QI),.v QI],a8d⟩
def c9S:Hints:=⟨[(122,[.sv 0 QL,1,7,.sv 8 .bool,25,26,.own 24 1024 (.arr 3 QI),.box 4 (.arr 3 QI),.box 6 (.arr 3 QI),Qp 4 4,Qp 6 6],[Qe 0 [.sv 8 .bool,.box 4 (.arr 3 QI),.box 6 (.arr 3 QI),Qp 4 4,Qp 6 6]]),(501370,[.sv 0 QL,1,7,.sv 8 .bool,13,25,26,40,41,.own 24 1024 (.arr 3 QI),.own 39 11 QI,.box 4 (.arr 3 QI),.box 6 (.arr 3 QI),.box 10 (.arr 3 QI),Qp 4 4,Qp 6 6,Qp 10 10],[Qe 2 [.sv 0 QL,1,7,.sv 8 .bool,13,25,26,.own 24 1024 (.arr 3 QI),.box 4 (.arr 3 QI),.box 6 (.arr 3 QI),.box 10 (.arr 3 QI),Qp 4 4,Qp 6 6,Qp 10 10]])],[(6,[Qn [.sv 0 QL,1,.sv 21 .bool,.box 4 (.arr 3 QI),Qp 4 4]]),(125343,[Qn [.sv 0 QL,1,7,.sv 8 .bool,13,25,26,.sv 58 .bool,.own 24 1024 (.arr 3 QI),.box 4 (.arr 3 QI),.box 6 (.arr 3 QI),.box 10 (.arr 3 QI),Qp 4 4,Qp 6 6,Qp 10 10]])],[]⟩
def a1k(x:LI):Option (a1h×Bool):=(a6S (x,16,256)).bind fun y1=>cond (y1.2 != 0) (some ((0,0,0,0,0,[],a00 3 0,[],[],(0,[],()),[],()),false)) ((a8d (x,y1.1)).bind fun y2=>cond (y2.2 != 0) (some ((0,0,0,0,0,[],a00 3 0,[],[],(0,[],()),[],()),false)) ((a6P (x,y1.1,y2.1)).bind fun y3=>cond (y3.2 != 0) (some ((0,0,0,0,0,[],a00 3 0,[],[],(0,[],()),[],()),false)) ((a2q (y3.1,4,12)).bind fun y4=>cond (y4.2.2 != 0) (some ((0,0,0,0,0,[],a00 3 0,[],[],(0,[],()),[],()),false)) (some ((4,0,0,y4.2.1,y1.1,y4.1,y2.1,[],[],(0,[],()),[],()),true)))))
def b9v:FSem:=⟨[.v QL],[.v Q19,.v .bool],a1k⟩
def a0M(x:(Int×(Int×(LI×a7i)))):Option (LI×a7i):=(a2q (x.2.2.1,x.1,x.2.1)).bind fun y1=>cond (y1.2.2==0) (cond (lim ((a03 x.2.2.2)+1)) (some (x.2.2.1,a04 x.2.2.2 ([(3,0,0,y1.2.1,0,y1.1,a00 3 0,[],[],(0,[],()),[],())]:List a1h))) none) (some (x.2.2.1,x.2.2.2))
def b3M:FSem:=⟨[.v QI,.v QI,.r false (.b QL),.r false (.b (.list true Q19))],[],a0M⟩
def a2l(s:(Int×c2e)):Option ((Int×c2e) ⊕ c2e):=cond (decide (s.1<5)) (cond (lim ((a03 s.2.1)+1)) (some (.inl (wrap .i64 (s.1+1),a04 s.2.1 ([(2,0,s.1,0,0,[],a00 3 0,[],[],(0,[],()),[],())]:List a1h),s.2.2.1,()))) none) (some (.inr (s.2.1,s.2.2.1,())))
def a6o(x:(LI×Int)):Option a7i:=(a3z x.1).bind fun y1=>(show Option (Int×(LI×b9d))from cond (decide (x.2≥1)) ((a0M (4,12,x.1,([(0,0,0,0,0,[],a00 3 0,[],[],(0,[],()),[],()),(1,0,0,0,0,[],a00 3 0,[],[],(0,[],()),[],()),(2,0,y1,0,0,[],a00 3 0,[],[],(0,[],()),[],())]:List a1h))).bind fun y2=>(a0M (8,12,y2.1,y2.2)).bind fun y3=>some (x.2,y3.1,y3.2,())) (some (x.2,x.1,([(0,0,0,0,0,[],a00 3 0,[],[],(0,[],()),[],()),(1,0,0,0,0,[],a00 3 0,[],[],(0,[],()),[],()),(2,0,y1,0,0,[],a00 3 0,[],[],(0,[],()),[],())]:List a1h),()))).bind fun z4=>(show Option (Int×c2e)from cond (decide (z4.1≥2)) (cond (lim ((a03 z4.2.2.1)+1)) (cond (lim ((a03 (a04 z4.2.2.1 ([(5,0,0,0,0,[],a00 3 0,([(16,4,())]:List (Int×Int×Unit)),[],(0,[],()),[],())]:List a1h)))+1)) ((a1k z4.2.1).bind fun y5=>cond y5.2 (cond (lim ((a03 (a04 (a04 z4.2.2.1 ([(5,0,0,0,0,[],a00 3 0,([(16,4,())]:List (Int×Int×Unit)),[],(0,[],()),[],())]:List a1h)) ([(5,0,0,0,0,[],a00 3 0,([(32,3,()),(16,5,())]:List (Int×Int×Unit)),[],(0,[],()),[],())]:List a1h)))+1)) (some (z4.1,a04 (a04 (a04 z4.2.2.1 ([(5,0,0,0,0,[],a00 3 0,([(16,4,())]:List (Int×Int×Unit)),[],(0,[],()),[],())]:List a1h)) ([(5,0,0,0,0,[],a00 3 0,([(32,3,()),(16,5,())]:List (Int×Int×Unit)),[],(0,[],()),[],())]:List a1h)) ([y5.1]:List a1h),z4.2.1,())) none) (some (z4.1,a04 (a04 z4.2.2.1 ([(5,0,0,0,0,[],a00 3 0,([(16,4,())]:List (Int×Int×Unit)),[],(0,[],()),[],())]:List a1h)) ([(5,0,0,0,0,[],a00 3 0,([(32,3,()),(16,5,())]:List (Int×Int×Unit)),[],(0,[],()),[],())]:List a1h),z4.2.1,()))) none) none) (some (z4.1,z4.2.2.1,z4.2.1,()))).bind fun z6=>(show Option b9d from cond (decide (z6.1≥3)) ((y0s a2l (0,z6.2.1,z6.2.2.1,())).bind fun w7=>(a0M (1,12,w7.2.1,w7.1)).bind fun y8=>(a0M (2,12,y8.1,y8.2)).bind fun y9=>(a0M (12,14,y9.1,y9.2)).bind fun y10=>(a0M (16,14,y10.1,y10.2)).bind fun y11=>some (y11.2,())) (some (z6.2.1,()))).bind fun z12=>some z12.1
def b5i:FSem:=⟨[.v QL,.v QI],[.v (.list false Q19)],a6o⟩
def H63:Hints:=⟨[(4050,[50,.box 5 (.list true Q19),.box 2 QL,Qp 5 5,.clo 6 141 [2,5]],[Qe 0 [.box 5 (.list true Q19),.box 2 QL,Qp 5 5,.clo 6 141 [2,5]]])],[(15,[Qn [1,.box 2 QL,.box 5 (.list true Q19),Qp 2 2,Qp 5 5,.clo 6 141 [2,5]]]),(31,[Qn [1,.box 5 (.list true Q19),.box 2 QL,Qp 5 5,.clo 6 141 [2,5]]]),(63,[Qn [.box 5 (.list true Q19),Qp 5 5]])],[]⟩
def a6J(s:(LI×(Int×Bool×a7i×c2k))):Option ((LI×(Int×Bool×a7i×c2k)) ⊕ a9x):=(fun(a:LI)(b:Int)(c:Bool)(d:a7i)(e f:Int)(g h:a1h)=>cond (decide (f<e)) ((m0k d f).bind fun x6=>(a8L (x6.1,a,x6)).bind fun y7=>cond (y7.2 != 0) (some (.inl (a,b,c,d,e,wrap .i64 (f+1),g,h,()))) ((a8T (y7.1,(a.length:Int))).bind fun y8=>(show Option (LI×(Int×Bool×Int×a7i×Int×Int×Bool×c2l))from cond (!c) (some (a,b,c,y8,d,e,f,true,g,h,y7.1,())) (some (a,b,c,y8,d,e,f,decide (y8<b),g,h,y7.1,()))).bind fun z9=>cond z9.2.2.2.2.2.2.2.1 (some (.inl (z9.1,z9.2.2.2.1,true,z9.2.2.2.2.1,z9.2.2.2.2.2.1,wrap .i64 (z9.2.2.2.2.2.2.1+1),z9.2.2.2.2.2.2.2.2.1,z9.2.2.2.2.2.2.2.2.2.2.1,()))) (some (.inl (z9.1,z9.2.1,z9.2.2.1,z9.2.2.2.2.1,z9.2.2.2.2.2.1,wrap .i64 (z9.2.2.2.2.2.2.1+1),z9.2.2.2.2.2.2.2.2.1,z9.2.2.2.2.2.2.2.2.2.1,()))))) (some (.inr (g,h,())))) s.1 s.2.1 s.2.2.1 s.2.2.2.1 s.2.2.2.2.1 s.2.2.2.2.2.1 s.2.2.2.2.2.2.1 s.2.2.2.2.2.2.2.1
def a7H(x:(LI×Int)):Option a7j:=(show Option (LI×b3J)from cond (decide ((x.1.length:Int)<1)) (some (x.1,x.2,true,(0,0,0,0,0,[],a00 3 0,[],[],(0,[],()),[],()),())) (cond (decide ((x.1.length:Int) > 4096)) (some (x.1,x.2,true,(0,0,0,0,0,[],a00 3 0,[],[],(0,[],()),[],()),())) (cond (decide (x.2<0)) (some (x.1,x.2,true,(0,0,0,0,0,[],a00 3 0,[],[],(0,[],()),[],()),())) (some (x.1,x.2,decide (x.2 > 3),(0,0,0,0,0,[],a00 3 0,[],[],(0,[],()),[],()),()))))).bind fun z1=>cond z1.2.2.1 (some ((0,0,0,0,0,[],a00 3 0,[],[],(0,[],()),[],()),1)) ((a2o z1.1).bind fun y2=>cond (!y2) (some ((0,0,0,0,0,[],a00 3 0,[],[],(0,[],()),[],()),6)) ((a3I z1.1).bind fun y3=>(a6B (z1.1,y3)).bind fun y4=>cond (y4.2 != 0) (some ((0,0,0,0,0,[],a00 3 0,[],[],(0,[],()),[],()),y4.2)) ((a6o (y4.1,z1.2.1)).bind fun y5=>(y0s a6J (z1.1,0,false,y5,(y5.length:Int),0,z1.2.2.2.1,(0,0,0,0,0,[],a00 3 0,[],[],(0,[],()),[],()),())).bind fun w10=>some (w10.2.1,0))))
def c2u:FSem:=⟨[.v QL,.v QI],[.v Q19,.v QI],a7H⟩
def H19:Hints:=⟨[(2042,[.sv 0 QL,9,.sv 10 .bool,.sv 50 (.list false Q19),51,52,.box 4 Q19,.box 8 Q19,Qp 4 4,Qp 8 8],[Qe 0 [.box 4 Q19,.box 8 Q19,Qp 4 4,Qp 8 8]])],[(6,[Qn [.sv 0 QL,1,.sv 31 .bool,.box 4 Q19,Qp 4 4]]),(1045711,[Qn [.sv 0 QL,9,.sv 10 .bool,15,.sv 50 (.list false Q19),51,52,.sv 76 .bool,.box 4 Q19,.box 8 Q19,.box 13 Q19,Qp 4 4,Qp 8 8,Qp 13 13]])],[]⟩
def a4C(s:(LI×Z4)):Option ((LI×Z4) ⊕ Z0):=(fun(a:Int)=>cond (decide (a<(s.1.length:Int))) ((m0k s.1 a).bind fun x1=>(m0k s.2.1 a).bind fun x2=>cond (x1 != x2) (some (.inr (Sum.inr ((false,()))))) (some (.inl (s.1,s.2.1,wrap .i64 (a+1),())))) (some (.inr (Sum.inl ())))) s.2.2.1
def a1H(x:(LI×LI)):Option Bool:=cond ((x.1.length:Int) != (x.2.length:Int)) (some false) ((y0s a4C (x.1,x.2,0,())).bind fun w3=>match w3 with |.inl a4=>some true |.inr b5=>some b5.1)
def b8l:FSem:=⟨[.v QL,.v QL],[.v .bool],a1H⟩
def H25:Hints:=⟨[(58,[.sv 0 QL,.sv 1 QL,5],[Qe 0 [],Qr [.sv 4 .bool]])],[],[(6,[.v,.v,.v,.v,.v,.v,.v,.v,.x])]⟩
def b2o(x:Unit):Option Bool:=(a8L (2,[4,8,12,16],0,0,1,0,0,[],a00 3 0,[],[],(0,[],()),[],())).bind fun y1=>(a8C (y1.1,4)).bind fun y2=>(a7H ([6,6,6],0)).bind fun y3=>cond (y1.2==0) (cond (y2.2==0) (cond (y3.2==0) (cond (y1.1.2.1==2) ((a1H (y1.1.2.2.2.2.2.2.2.2.1,[1])).bind fun y4=>cond y4 ((a1H (y1.1.2.2.2.2.2.2.2.2.2.2.1,[1,1,1])).bind fun y5=>cond y5 ((a1H (y2.1,[4,8,12,16])).bind fun y6=>cond y6 (cond (y3.1.1==0) ((a1H (y3.1.2.2.2.2.2.2.2.2.1,[6])).bind fun y7=>cond y7 ((a8T (y3.1,3)).bind fun y8=>some (y8==17)) (some false)) (some false)) (some false)) (some false)) (some false)) (some false)) (some false)) (some false)) (some false)
def c1k:FSem:=⟨[],[.v .bool],b2o⟩
def a2A(x:Int):Option Bool:=cond (decide (x≥(-1073741824))) (some (decide (x<1073741824))) (some false)
def c3P:FSem:=⟨[.v QI],[.v .bool],a2A⟩
def a5j(s:Z4):Option Z55:=cond (decide (s.2.1<(s.1.length:Int))) ((m0k s.1 s.2.1).bind fun x1=>(a2A x1).bind fun y2=>cond (!y2) (some (.inr (Sum.inr ((false,()))))) (some (.inl (s.1,wrap .i64 (s.2.1+1),())))) (some (.inr (Sum.inl ())))
def a0R(x:LI):Option Bool:=(y0s a5j (x,0,())).bind fun w3=>match w3 with |.inl a4=>some true |.inr b5=>some b5.1
def b9w:FSem:=⟨[.v QL],[.v .bool],a0R⟩
def H64:Hints:=⟨[(26,[.sv 0 QL,3],[Qe 0 [],Qr [.sv 2 .bool]])],[],[]⟩
def a7I(s:Z14):Option Z54:=cond (decide (s.2.2.1<(s.1.length:Int))) ((m0k s.1 s.2.2.1).bind fun x1=>some (.inl (s.1,bits .i64 .or s.2.1 x1,wrap .i64 (s.2.2.1+1),()))) (some (.inr (s.2.1,())))
def a4q(s:(Int×Int×Unit)):Option ((Int×Int×Unit) ⊕ (Int×Unit)):=(fun(a:Int)=>cond (s.1 != 0) (cond (decide (a<30)) (cond (decide ((wrap .u64 a)<0)) none (cond ((bits .i64 .and (A0o .i64 s.1 (wrap .u64 a)) 1)==0) (some (.inl (s.1,wrap .i64 (a+1),()))) (some (.inr (a,()))))) (some (.inr (a,())))) (some (.inr (a,())))) s.2.1
def a5E(x:LI):Option Int:=(y0s a7I (x,0,0,())).bind fun w2=>(y0s a4q (w2.1,0,())).bind fun w3=>some w3.1
def c1l:FSem:=⟨[.v QL],[.v QI],a5E⟩
def H66:Hints:=⟨[(58,[.sv 0 QL,3,4],[Qe 0 [3]]),(124,[3,5],[Qe 2 [5]])],[],[]⟩
def b9x(s:Z4):Option Z55:=cond (decide (s.2.1<(s.1.length:Int))) ((m0k s.1 s.2.1).bind fun x1=>cond (x1 != 0) (some (.inr (Sum.inr ((false,()))))) (some (.inl (s.1,wrap .i64 (s.2.1+1),())))) (some (.inr (Sum.inl ())))
def b7E(x:LI):Option Bool:=(y0s b9x (x,0,())).bind fun w2=>match w2 with |.inl a3=>some true |.inr b4=>some b4.1
def c3Q:FSem:=⟨[.v QL],[.v .bool],b7E⟩
def c9T:Hints:=⟨[(26,[.sv 0 QL,3],[Qe 0 [],Qr [.sv 2 .bool]])],[],[]⟩
def a8U(s:Z41):Option (Z41 ⊕ (LI×Unit)):=(fun(a b:Int)(c:LI)=>cond (decide (b<(s.1.length:Int))) ((m0k s.1 b).bind fun x6=>cond (decide ((wrap .u64 a)<0)) none (cond (lim ((a03 c)+1)) (some (.inl (s.1,a,wrap .i64 (b+1),a04 c [A0o .i64 x6 (wrap .u64 a)],()))) none)) (some (.inr (c,())))) s.2.1 s.2.2.1 s.2.2.2.1
def b0E(x:(LI×Int)):Option (LI×Int):=(show Option Z18 from cond (decide (x.2<0)) (some (x.1,x.2,true,())) (some (x.1,x.2,decide (x.2 > 30),()))).bind fun z1=>cond z1.2.2.1 (some ([],1)) ((show Option Z18 from(a0R z1.1).bind fun y2=>cond (!y2) (some (z1.1,z1.2.1,true,())) ((a5E z1.1).bind fun y3=>cond (decide (y3<z1.2.1)) ((b7E z1.1).bind fun y4=>some (z1.1,z1.2.1,!y4,())) (some (z1.1,z1.2.1,false,())))).bind fun z5=>cond z5.2.2.1 (some ([],6)) ((y0s a8U (z5.1,z5.2.1,0,[],())).bind fun w7=>some (w7.1,0)))
def c3R:FSem:=⟨[.v QL,.v QI],[.o QI,.v QI],b0E⟩
def H65:Hints:=⟨[(250,[.sv 0 QL,1,7,.own 6 6 QI],[Qe 0 [.own 6 6 QI]])],[(6,[Qn [.sv 0 QL,1,.sv 13 .bool]]),(14,[Qn [.sv 0 QL,1,.sv 27 .bool]])],[]⟩
def a3A(s:Z81):Option (Z81 ⊕ Z41):=(fun(a:LI)(b c:Int)(d:LI)=>cond (decide (c<(a.length:Int))) ((m0k a c).bind fun x2=>(m0k a (wrap .i64 (c-1))).bind fun x3=>cond (lim ((a03 d)+1)) (some (.inl (s.1,s.2.1,a,b,wrap .i64 (c+1),a04 d [wrap .i64 (x2-x3)],()))) none) (some (.inr (s.1,s.2.1,b,d,())))) s.2.2.1 s.2.2.2.1 s.2.2.2.2.1 s.2.2.2.2.2.1
def a5k(s:(LI×Z16)):Option ((LI×Z16) ⊕ Z13):=cond (decide (s.2.2.2.1<s.2.1)) ((y0s a3A (s.1,s.2.1,s.2.2.1,s.2.2.2.1,1,[],())).bind fun w4=>some (.inl (w4.1,w4.2.1,w4.2.2.2.1,wrap .i64 (w4.2.2.1+1),()))) (some (.inr (s.1,s.2.2.1,())))
def a2h(x:(LI×Int)):Option (LI×Int):=(show Option Z18 from cond (decide (x.2<0)) (some (x.1,x.2,true,())) (cond (decide (x.2 > 4)) (some (x.1,x.2,true,())) (some (x.1,x.2,decide ((x.1.length:Int)<x.2),())))).bind fun z1=>cond z1.2.2.1 (some ([],1)) (cond (lim (0+(a03 z1.1))) ((y0s a5k (z1.1,z1.2.1,a04 [] z1.1,0,())).bind fun w5=>(show Option Z7 from(a0R w5.1).bind fun y6=>cond (!y6) (some (w5.2.1,true,())) ((a0R w5.2.1).bind fun y7=>some (w5.2.1,!y7,()))).bind fun z8=>cond z8.2.1 (some ([],6)) (some (z8.1,0))) none)
def b5T:FSem:=⟨[.v QL,.v QI],[.v QL,.v QI],a2h⟩
def c9U:Hints:=⟨[(122,[.sv 0 QL,1,.sv 6 QL,7],[Qe 0 [.sv 0 QL,.sv 6 QL]]),(31306,[.sv 0 QL,1,.sv 6 QL,7,9,.own 8 8 QI],[Qe 2 [.sv 0 QL,1,7,.own 8 8 QI]])],[(6,[Qn [.sv 0 QL,1,.sv 21 .bool]]),(62,[Qn [.sv 6 QL,.sv 57 .bool]])],[(11,[.q,.q,.v,.q,.q,.q,.v,.v,.q,.q,.v,.q,.x,.x])]⟩
def b0F(x:Int):Option Int:=some (v0r x (wrap .i64 (0-x)))
def c3S:FSem:=⟨[.v QI],[.v QI],b0F⟩
def a5Y(s:Z14):Option Z54:=cond (decide (s.2.2.1<(s.1.length:Int))) ((m0k s.1 s.2.2.1).bind fun x1=>(b0F x1).bind fun y2=>some (.inl (s.1,wrap .i64 (s.2.1+y2),wrap .i64 (s.2.2.1+1),()))) (some (.inr (s.2.1,())))
def a6T(x:(LI×Int)):Option Int:=(y0s a5Y (x.1,0,v0r x.2 0,())).bind fun w3=>some w3.1
def c1m:FSem:=⟨[.v QL,.v QI],[.v QI],a6T⟩
def c9V:Hints:=⟨[(58,[.sv 0 QL,5,6],[Qe 0 [5]])],[],[]⟩
def a5K(x:(LI×Int)):Option Int:=(a2h (x.1,x.2)).bind fun y1=>cond (y1.2 != 0) (some 0) ((a6T (y1.1,wrap .i64 (4-x.2))).bind fun y2=>some y2)
def b4D:FSem:=⟨[.v QL,.v QI],[.v QI],a5K⟩
def a2B(s:Z31):Option (Z31 ⊕ (Int×Unit)):=(fun(a:LI)(b c d:Int)=>cond (decide (d<5)) ((a2h (a,d)).bind fun y1=>(a5K (a,d)).bind fun y2=>(show Option (LI×Z39)from cond (y1.2==0) (cond (decide (b<0)) (some (a,b,c,d,y2,true,())) (some (a,b,c,d,y2,decide (y2<c),()))) (some (a,b,c,d,y2,false,()))).bind fun z3=>cond z3.2.2.2.2.2.1 (some (.inl (z3.1,z3.2.2.2.1,z3.2.2.2.2.1,wrap .i64 (z3.2.2.2.1+1),()))) (some (.inl (z3.1,z3.2.1,z3.2.2.1,wrap .i64 (z3.2.2.2.1+1),())))) (some (.inr (b,())))) s.1 s.2.1 s.2.2.1 s.2.2.2.1
def a5l(x:LI):Option Int:=(y0s a2B (x,(-1),0,0,())).bind fun w4=>some (v0r w4.1 0)
def b5U:FSem:=⟨[.v QL],[.v QI],a5l⟩
def c9W:Hints:=⟨[(58,[.sv 0 QL,3,4,5],[Qe 0 [3]])],[(3731,[Qn [.sv 0 QL,3,4,5,8,.sv 32 .bool]])],[]⟩
def a7J(x:Int):Option Int:=some (v0s (v0r x (-1048576)) 1048575)
def c2v:FSem:=⟨[.v QI],[.v QI],a7J⟩
def a3K(s:Z22):Option (Z22 ⊕ Z6):=(fun(a:Int)(b:LI)=>cond (decide (a<(b.length:Int))) (cond s.1 (cond ((decide (0≤a))&&(decide (a<(b.length:Int)))) ((a7J (a02 b (a01 a) 0)).bind fun y2=>cond ((decide (0≤a))&&(decide (a<(b.length:Int)))) (some (.inl (y2==(a02 b (a01 a) 0),wrap .i64 (a+1),b,()))) none) none) (some (.inl (false,wrap .i64 (a+1),b,())))) (some (.inr (s.1,b,())))) s.2.1 s.2.2.1
def a5m(s:Z3):Option (Z3 ⊕ (LI×Unit)):=(fun(a:Int)(b:LI)=>cond (decide (a<(b.length:Int))) (cond ((decide (0≤a))&&(decide (a<(b.length:Int)))) (cond ((decide (0≤a))&&(decide (a<(b.length:Int)))) (some (.inl (wrap .i64 (a+1),a05 b (a01 a) (A0o .i64 (a02 b (a01 a) 0) 1),()))) none) none) (some (.inr (b,())))) s.1 s.2.1
def a5n(s:(LI×Unit)):Option ((LI×Unit) ⊕ (LI×Unit)):=(y0s a3K (true,0,s.1,())).bind fun w3=>cond w3.1 (some (.inr (w3.2.1,()))) ((y0s a5m (0,w3.2.1,())).bind fun w4=>some (.inl (w4.1,())))
def a5Z(x:LI):Option LI:=cond (lim (0+(a03 x))) ((y0s a5n (a04 [] x,())).bind fun w5=>some w5.1) none
def b9y:FSem:=⟨[.v QL],[.o QI],a5Z⟩
def c9X:Hints:=⟨[(14,[.own 3 3 QI],[Qr [.own 2 3 QI]]),(906,[.sv 4 .bool,5,.own 3 3 QI],[Qe 2 [.sv 4 .bool,.own 3 3 QI]]),(1822,[6,.own 3 3 QI],[Qe 4 [.own 3 3 QI]])],[],[(6,[.x,.x,.q,.v,.q,.q,.v,.q,.v,.q,.q,.x,.x,.x])]⟩
def b2S(x:(Int×Int)):Option Int:=cond (x.2==0) none ((show Option (Int×Unit)from cond (x.2==0) none (cond (decide ((a09 x.1 x.2)<0)) (some (wrap .i64 ((wrap .i64 (a08 x.1 x.2))-1),())) (some (wrap .i64 (a08 x.1 x.2),())))).bind fun z1=>some z1.1)
def c2w:FSem:=⟨[.v QI,.v QI],[.v QI],b2S⟩
def c9Y:Hints:=⟨[],[(7,[Qn [5]])],[]⟩
def a6Y(s:Z60):Option (Z60 ⊕ (Int×Int×Unit)):=cond (decide (s.2.2.2.2.1<(s.1.length:Int))) ((m0k s.1 s.2.2.2.2.1).bind fun x1=>(m0k s.2.1 (wrap .i64 (s.2.2.2.2.1-1))).bind fun x2=>(m0k s.1 s.2.2.2.2.1).bind fun x3=>(m0k s.1 s.2.2.2.2.1).bind fun x4=>(m0k s.2.1 (wrap .i64 (s.2.2.2.2.1-1))).bind fun x5=>(m0k s.2.1 (wrap .i64 (s.2.2.2.2.1-1))).bind fun x6=>some (.inl (s.1,s.2.1,wrap .i64 (s.2.2.1+(wrap .i64 (x1*x2))),wrap .i64 ((wrap .i64 (s.2.2.2.1+(wrap .i64 (x3*x4))))+(wrap .i64 (x5*x6))),wrap .i64 (s.2.2.2.2.1+1),()))) (some (.inr (s.2.2.1,s.2.2.2.1,())))
def a9v(s:(Int×Int×Unit)):Option ((Int×Int×Unit) ⊕ (Int×Int×Unit)):=cond (decide (s.2.1≥1099511627776)) (some (.inl (A0o .i64 s.1 1,A0o .i64 s.2.1 1,()))) (some (.inr (s.1,s.2.1,())))
def a4D(x:Z11):Option Int:=(y0s a6Y (x.1,x.2.1,0,0,x.2.2,())).bind fun w7=>(y0s a9v (w7.1,w7.2.1,())).bind fun w8=>cond (w8.2.1==0) (some 0) ((b2S (wrap .i64 (w8.1*32768),w8.2.1)).bind fun y9=>some (v0s (v0r y9 (-16383)) 16383))
def b5j:FSem:=⟨[.v QL,.v QL,.v QI],[.v QI],a4D⟩
def c9Z:Hints:=⟨[(58,[.sv 0 QL,.sv 1 QL,7,8,9],[Qe 0 [7,8]]),(60,[7,8],[Qe 2 [7,8]])],[],[(5,[.v,.v,.v,.v,.v,.v,.v,.v,.v,.v,.v,.x,.x]),(6,[.v,.v,.v,.v,.v,.v,.v,.v,.v,.v,.v,.v,.v,.v,.v,.v,.v,.v,.v,.v,.v,.v,.x,.x])]⟩
def a1R(s:(Int×(LI×Z82))):Option ((Int×(LI×Z82)) ⊕ Z82):=(fun(a b c:Int)(d e f:LI)=>cond (decide (c<(d.length:Int))) (cond ((decide (0≤c))&&(decide (c<(d.length:Int)))) ((m0k s.2.1 (wrap .i64 (c-1))).bind fun x6=>(a7J (wrap .i64 ((a02 d (a01 c) 0)-(A0o .i64 (wrap .i64 (b*x6)) 14)))).bind fun y7=>cond ((decide (0≤c))&&(decide (c<(d.length:Int)))) ((a7J (wrap .i64 (x6-(A0o .i64 (wrap .i64 (b*(a02 d (a01 c) 0))) 14)))).bind fun y8=>cond ((decide (0≤c))&&(decide (c<(f.length:Int)))) (some (.inl (s.1,s.2.1,a,b,wrap .i64 (c+1),a05 d (a01 c) y7,e,a05 f (a01 c) y8,()))) none) none) none) (some (.inr (s.1,a,b,d,e,f,())))) s.2.2.1 s.2.2.2.1 s.2.2.2.2.1 s.2.2.2.2.2.1 s.2.2.2.2.2.2.1 s.2.2.2.2.2.2.2.1
def a3w(s:(Int×(LI×Z26))):Option ((Int×(LI×Z26)) ⊕ (LI×Unit)):=(fun(a:LI)(b:Int)(c d:LI)=>cond (decide (b≤s.1)) ((a4D (c,a,b)).bind fun y5=>cond (lim (0+(a03 a))) ((y0s a1R (s.1,a,b,y5,b,c,d,a04 [] a,())).bind fun w9=>cond (lim ((a03 w9.2.2.2.2.1)+1)) (some (.inl (w9.1,w9.2.2.2.2.2.1,wrap .i64 (w9.2.1+1),w9.2.2.2.1,a04 w9.2.2.2.2.1 [w9.2.2.1],()))) none) none) (some (.inr (d,())))) s.2.1 s.2.2.1 s.2.2.2.1 s.2.2.2.2.1
def a4M(x:(LI×Int)):Option (LI×Int):=(show Option Z18 from cond (decide (x.2<1)) (some (x.1,x.2,true,())) (cond (decide (x.2 > 32)) (some (x.1,x.2,true,())) (some (x.1,x.2,decide ((x.1.length:Int) > 4096),())))).bind fun z1=>cond z1.2.2.1 (some ([],1)) ((a0R z1.1).bind fun y2=>cond (!y2) (some ([],6)) ((a5Z z1.1).bind fun y3=>(a5Z z1.1).bind fun y4=>(y0s a3w (z1.2.1,y4,1,y3,[],())).bind fun w10=>some (w10.1,0)))
def b3H:FSem:=⟨[.v QL,.v QI],[.o QI,.v QI],a4M⟩
def d0A:Hints:=⟨[(506,[1,.sv 7 QL,9,.own 6 6 QI,.own 8 8 QI],[Qe 0 [.own 8 8 QI]]),(259226,[1,.sv 7 QL,9,10,12,.own 6 6 QI,.own 8 8 QI,.own 11 11 QI],[Qe 2 [1,9,10,.own 6 6 QI,.own 8 8 QI,.own 11 11 QI]])],[(6,[Qn [.sv 0 QL,1,.sv 25 .bool]])],[(15,[.q,.v,.q,.q,.q,.v,.v,.q,.q,.v,.x])]⟩
def a1N(s:Z4):Option (Z4 ⊕ Z45):=(fun(a:LI)(b:Int)=>cond (decide (b<(a.length:Int))) ((show Option Z18 from(m0k a b).bind fun x2=>cond (decide (x2≤(-16384))) (some (a,b,true,())) ((m0k a b).bind fun x3=>some (a,b,decide (x3≥16384),()))).bind fun z4=>cond z4.2.2.1 (some (.inr (Sum.inr ((1,[],()))))) (some (.inl (z4.1,wrap .i64 (z4.2.1+1),())))) (some (.inr (Sum.inl (a,()))))) s.1 s.2.1
def a2R(s:Z68):Option (Z68 ⊕ Z28):=(fun(a b:Int)(c d:LI)=>cond (decide (b<a)) (cond ((decide (0≤b))&&(decide (b<(d.length:Int)))) ((m0k s.1 a).bind fun x8=>cond ((decide (0≤(wrap .i64 ((wrap .i64 (a-1))-b))))&&(decide ((wrap .i64 ((wrap .i64 (a-1))-b))<(d.length:Int)))) (cond ((decide (0≤b))&&(decide (b<(c.length:Int)))) (some (.inl (s.1,a,wrap .i64 (b+1),a05 c (a01 b) (wrap .i64 ((a02 d (a01 b) 0)-(A0o .i64 (wrap .i64 (x8*(a02 d (a01 (wrap .i64 ((wrap .i64 (a-1))-b))) 0))) 14))),d,()))) none) none) none) (some (.inr (s.1,a,c,())))) s.2.1 s.2.2.1 s.2.2.2.1 s.2.2.2.2.1
def a4f(s:Z28):Option (Z28 ⊕ (LI×Unit)):=(fun(a:LI)=>cond (decide (s.2.1<(s.1.length:Int))) (cond (lim (0+(a03 a))) ((y0s a2R (s.1,s.2.1,0,a,a04 [] a,())).bind fun w9=>(m0k w9.1 w9.2.1).bind fun x10=>cond (lim ((a03 w9.2.2.1)+1)) (some (.inl (w9.1,wrap .i64 (w9.2.1+1),a04 w9.2.2.1 [x10],()))) none) none) (some (.inr (a,())))) s.2.2.1
def a3W(x:LI):Option (LI×Int):=(show Option Z7 from cond (decide ((x.length:Int)<1)) (some (x,true,())) (some (x,decide ((x.length:Int) > 32),()))).bind fun z1=>cond z1.2.1 (some ([],1)) ((y0s a1N (z1.1,0,())).bind fun w5=>match w5 with |.inl a6=>((y0s a4f (a6.1,0,[],())).bind fun w11=>some (w11.1,0)) |.inr b7=>some (b7.2.1,b7.1))
def b4E:FSem:=⟨[.v QL],[.o QI,.v QI],a3W⟩
def d0B:Hints:=⟨[(58,[.sv 0 QL,4],[Qe 0 [.sv 0 QL],Qr [3,.own 2 2 QI]]),(250,[.sv 0 QL,6,.own 5 5 QI],[Qe 2 [.own 5 5 QI]]),(64074,[.sv 0 QL,6,8,.own 5 5 QI,.own 7 7 QI],[Qe 4 [.sv 0 QL,6,.own 5 5 QI]])],[(6,[Qn [.sv 0 QL,.sv 16 .bool]]),(932,[Qn [.sv 0 QL,4,.sv 34 .bool]])],[(16,[.q,.v,.q,.v,.q,.q,.v,.v,.v,.v,.q,.v,.v,.v,.v,.q,.q,.v,.v,.v,.x,.x])]⟩
def b5k(x:Int):Option Int:=(show Option (Int×Bool×Unit)from cond (decide (x<1)) (some (x,true,())) (some (x,decide (x > 31),()))).bind fun z1=>cond z1.2.1 (some 0) (cond (decide ((wrap .u64 (wrap .i64 (z1.1-1)))<0)) none (some (A0n .i64 (-1) (wrap .u64 (wrap .i64 (z1.1-1))))))
def c4x:FSem:=⟨[.v QI],[.v QI],b5k⟩
def d0C:Hints:=⟨[],[(6,[Qn [0,.sv 8 .bool]])],[]⟩
def b3N(x:Int):Option Int:=(show Option (Int×Bool×Unit)from cond (decide (x<1)) (some (x,true,())) (some (x,decide (x > 31),()))).bind fun z1=>cond z1.2.1 (some 0) (cond (decide ((wrap .u64 (wrap .i64 (z1.1-1)))<0)) none (some (wrap .i64 ((A0n .i64 1 (wrap .u64 (wrap .i64 (z1.1-1))))-1))))
def c3T:FSem:=⟨[.v QI],[.v QI],b3N⟩
def d0D:Hints:=⟨[],[(6,[Qn [0,.sv 8 .bool]])],[]⟩
def a8D(x:(Int×Int)):Option Bool:=cond (decide (x.2≥1)) (cond (decide (x.2≤31)) ((b5k x.2).bind fun y1=>cond (decide (x.1≥y1)) ((b3N x.2).bind fun y2=>some (decide (x.1≤y2))) (some false)) (some false)) (some false)
def c3U:FSem:=⟨[.v QI,.v QI],[.v .bool],a8D⟩
def a1O(s:Z14):Option (Z14 ⊕ (Z4 ⊕ Z15)):=(fun(a:LI)(b c:Int)=>cond (decide (c<(a.length:Int))) ((show Option Z32 from(m0k a c).bind fun x2=>cond (decide (x2<(-35184372088832))) (some (a,b,c,true,())) ((m0k a c).bind fun x3=>some (a,b,c,decide (x3 > 35184372088832),()))).bind fun z4=>cond z4.2.2.2.1 (some (.inr (Sum.inr ((0,1,[],()))))) (some (.inl (z4.1,z4.2.1,wrap .i64 (z4.2.2.1+1),())))) (some (.inr (Sum.inl (a,b,()))))) s.1 s.2.1 s.2.2.1
def a2a(s:(LI×(Int×Int×Int×Z22))):Option ((LI×(Int×Int×Int×Z22)) ⊕ Z62):=(fun(a:LI)(b c d:Int)(e:Bool)(f:Int)(g:LI)=>cond (decide (f<(a.length:Int))) ((m0k a f).bind fun x9=>cond (decide ((wrap .u64 c)<0)) none (cond (lim ((a03 g)+1)) (cond e ((a8D (A0o .i64 (wrap .i64 (x9+d)) (wrap .u64 c),b)).bind fun y10=>some (.inl (a,b,c,d,y10,wrap .i64 (f+1),a04 g [A0o .i64 (wrap .i64 (x9+d)) (wrap .u64 c)],()))) (some (.inl (a,b,c,d,false,wrap .i64 (f+1),a04 g [A0o .i64 (wrap .i64 (x9+d)) (wrap .u64 c)],())))) none)) (some (.inr (a,b,c,e,g,())))) s.1 s.2.1 s.2.2.1 s.2.2.2.1 s.2.2.2.2.1 s.2.2.2.2.2.1 s.2.2.2.2.2.2.1
def a2S(s:Z14):Option (Z14 ⊕ (Unit ⊕ Z15)):=(fun(a:Int)=>cond (decide (a≤14)) ((show Option Z31 from cond (decide (a > 0)) (cond (decide ((wrap .u64 (wrap .i64 (a-1)))<0)) none (some (s.1,s.2.1,a,A0n .i64 1 (wrap .u64 (wrap .i64 (a-1))),()))) (some (s.1,s.2.1,a,0,()))).bind fun z8=>(y0s a2a (z8.1,z8.2.1,z8.2.2.1,z8.2.2.2.1,true,0,[],())).bind fun w11=>cond w11.2.2.2.1 (some (.inr (Sum.inr ((wrap .i64 (14-w11.2.2.1),0,w11.2.2.2.2.1,()))))) (some (.inl (w11.1,w11.2.1,wrap .i64 (w11.2.2.1+1),())))) (some (.inr (Sum.inl ())))) s.2.2.1
def a5L(x:(LI×Int)):Option Z2:=(show Option Z18 from cond (decide ((x.1.length:Int)<1)) (some (x.1,x.2,true,())) (cond (decide ((x.1.length:Int) > 32)) (some (x.1,x.2,true,())) (cond (decide (x.2<2)) (some (x.1,x.2,true,())) (some (x.1,x.2,decide (x.2 > 16),()))))).bind fun z1=>cond z1.2.2.1 (some ([],0,1)) ((y0s a1O (z1.1,z1.2.1,0,())).bind fun w5=>match w5 with |.inl a6=>((y0s a2S (a6.1,a6.2.1,0,())).bind fun w12=>match w12 with |.inl a13=>some ([],0,6) |.inr b14=>some (b14.2.2.1,b14.1,b14.2.1)) |.inr b7=>some (b7.2.2.1,b7.1,b7.2.1))
def b4F:FSem:=⟨[.v QL,.v QI],[.o QI,.v QI,.v QI],a5L⟩
def d0E:Hints:=⟨[(58,[.sv 0 QL,1,7],[Qe 0 [.sv 0 QL,1],Qr [5,6,.own 4 4 QI]]),(122,[.sv 0 QL,1,8],[Qe 2 [],Qr [5,6,.own 4 10 QI]]),(250490,[.sv 0 QL,1,8,9,.sv 11 .bool,12,.own 10 10 QI],[Qe 4 [.sv 0 QL,1,8,.sv 11 .bool,.own 10 10 QI]])],[(6,[Qn [.sv 0 QL,1,.sv 29 .bool]]),(932,[Qn [.sv 0 QL,1,7,.sv 47 .bool]]),(3913,[Qn [.sv 0 QL,1,8,9]])],[]⟩
def a6p(x:Z2):Option Z2:=(a4M (x.1,x.2.1)).bind fun y1=>cond (y1.2 != 0) (some ([],0,y1.2)) ((a3W y1.1).bind fun y2=>cond (y2.2 != 0) (some ([],0,y2.2)) ((a5L (y2.1,x.2.2)).bind fun y3=>some (y3.1,y3.2.1,y3.2.2)))
def b5l:FSem:=⟨[.v QL,.v QI,.v QI],[.o QI,.v QI,.v QI],a6p⟩
def a7m(x:Z2):Option (a1h×Bool):=(a6p (x.1,x.2.1,x.2.2)).bind fun y1=>some ((3,0,0,y1.2.1,0,y1.1,a00 3 0,[],[],(0,[],()),[],()),y1.2.2==0)
def b9z:FSem:=⟨[.v QL,.v QI,.v QI],[.v Q19,.v .bool],a7m⟩
def a1b(x:(a7i×Z2)):Option (a7i×a7i):=(a7m (x.2.1,x.2.2.1,x.2.2.2)).bind fun y1=>cond y1.2 (cond (lim ((a03 x.1)+1)) (some (a04 x.1 ([y1.1]:List a1h),[])) none) (some (x.1,[]))
def c2x:FSem:=⟨[.r true (.o Q19),.v QL,.v QI,.v QI],[.o Q19],a1b⟩
def a5M(s:(LI×Z53)):Option ((LI×Z53) ⊕ (LI×Z35)):=(fun(a:LI)(b c d e f:Int)=>cond (decide (f<(a.length:Int))) ((m0k a f).bind fun x3=>(m0k a (wrap .i64 (f-d))).bind fun x4=>(b0F (wrap .i64 (x3-x4))).bind fun y5=>some (.inl (a,s.2.1,b,c,d,wrap .i64 (e+y5),wrap .i64 (f+1),()))) (some (.inr (a,s.2.1,b,c,d,e,())))) s.1 s.2.2.1 s.2.2.2.1 s.2.2.2.2.1 s.2.2.2.2.2.1 s.2.2.2.2.2.2.1
def a5N(s:(LI×Z21)):Option ((LI×Z21) ⊕ (Int×Unit)):=cond (decide (s.2.2.2.2.1≤s.2.1)) ((y0s a5M (s.1,s.2.1,s.2.2.1,s.2.2.2.1,s.2.2.2.2.1,0,s.2.1,())).bind fun w6=>(show Option (LI×(Int×Z39))from cond (w6.2.2.1==0) (some (w6.1,w6.2.1,w6.2.2.1,w6.2.2.2.1,w6.2.2.2.2.1,w6.2.2.2.2.2.1,true,())) (some (w6.1,w6.2.1,w6.2.2.1,w6.2.2.2.1,w6.2.2.2.2.1,w6.2.2.2.2.2.1,decide (w6.2.2.2.2.2.1<w6.2.2.2.1),()))).bind fun z7=>cond z7.2.2.2.2.2.2.1 (some (.inl (z7.1,z7.2.1,z7.2.2.2.2.1,z7.2.2.2.2.2.1,wrap .i64 (z7.2.2.2.2.1+1),()))) (some (.inl (z7.1,z7.2.1,z7.2.2.1,z7.2.2.2.1,wrap .i64 (z7.2.2.2.2.1+1),())))) (some (.inr (s.2.2.1,())))
def a4r(x:Z2):Option (Int×Int):=(show Option Z32 from cond (decide (x.2.1<2)) (some (x.1,x.2.1,x.2.2,true,())) (cond (decide (x.2.2<x.2.1)) (some (x.1,x.2.1,x.2.2,true,())) (cond (decide (x.2.2 > 1024)) (some (x.1,x.2.1,x.2.2,true,())) (some (x.1,x.2.1,x.2.2,decide ((x.1.length:Int) > 4096),()))))).bind fun z1=>cond z1.2.2.2.1 (some (0,1)) (cond (decide ((z1.1.length:Int)≤z1.2.2.1)) (some (0,7)) ((a0R z1.1).bind fun y2=>cond (!y2) (some (0,6)) ((y0s a5N (z1.1,z1.2.2.1,0,0,z1.2.1,())).bind fun w8=>some (w8.1,0))))
def b7f:FSem:=⟨[.v QL,.v QI,.v QI],[.v QI,.v QI],a4r⟩
def d0F:Hints:=⟨[(122,[.sv 0 QL,2,8,9,10],[Qe 1 [8]]),(31306,[.sv 0 QL,2,8,9,10,11,12],[Qe 3 [.sv 0 QL,2,8,9,10,11]])],[(12,[Qn [.sv 0 QL,1,2,.sv 13 .bool]]),(7827,[Qn [.sv 0 QL,2,8,9,10,11,.sv 72 .bool]])],[(15,[.v,.v,.v,.v,.v,.v,.v,.v,.v,.v,.v,.v,.v,.x,.x])]⟩
def a4E(s:Z15):Option (Z15 ⊕ ((Int×Unit) ⊕ (Bool×Unit))):=(fun(a:Int)(b:LI)=>cond (decide (a<3)) ((show Option Z33 from(m0k b a).bind fun x1=>cond (decide (x1<(-64))) (some (s.1,a,true,b,())) ((m0k b a).bind fun x2=>some (s.1,a,decide (x2 > 64),b,()))).bind fun z3=>cond z3.2.2.1 (some (.inr (Sum.inr ((false,()))))) (some (.inl (z3.1,wrap .i64 (z3.2.1+1),z3.2.2.2.1,())))) (some (.inr (Sum.inl (s.1,()))))) s.2.1 s.2.2.1
def a4W(x:(Int×LI)):Option Bool:=(y0s a4E (x.1,0,x.2,())).bind fun w4=>match w4 with |.inl a5=>(cond (decide (a5.1≥2)) (some (decide (a5.1≤1024))) (some false)) |.inr b6=>some b6.1
def b8m:FSem:=⟨[.v QI,.v (.arr 3 QI)],[.v .bool],a4W⟩
def d0G:Hints:=⟨[(26,[0,5,.vp 3 (.arr 3 QI)],[Qe 0 [0],Qr [.sv 4 .bool]])],[(420,[Qn [0,5,.sv 19 .bool,.vp 3 (.arr 3 QI)]])],[]⟩
def a3B(s:Z61):Option (Z61 ⊕ (Int×Unit)):=(fun(a:LI)(b c d:Int)(e:LI)=>cond (decide (d<3)) (cond (decide ((wrap .i64 ((wrap .i64 ((wrap .i64 ((a.length:Int)-b))-1))+d))≥0)) ((m0k e d).bind fun x1=>(m0k a (wrap .i64 ((wrap .i64 ((wrap .i64 ((a.length:Int)-b))-1))+d))).bind fun x2=>some (.inl (a,b,wrap .i64 (c+(wrap .i64 (x1*x2))),wrap .i64 (d+1),e,()))) (some (.inl (a,b,c,wrap .i64 (d+1),e,())))) (some (.inr (c,())))) s.1 s.2.1 s.2.2.1 s.2.2.2.1 s.2.2.2.2.1
def a5o(x:Z12):Option Int:=(y0s a3B (x.1,x.2.1,0,0,x.2.2,())).bind fun w3=>some (A0o .i64 w3.1 6)
def b5V:FSem:=⟨[.v QL,.v QI,.v (.arr 3 QI)],[.v QI],a5o⟩
def d0H:Hints:=⟨[(58,[.sv 0 QL,1,7,8,.vp 5 (.arr 3 QI)],[Qe 0 [7]])],[],[(7,[.v,.v,.v,.v,.v,.v,.v,.v,.v,.x,.x])]⟩
def a5O(s:Z68):Option (Z68 ⊕ (LI×Unit)):=(fun(a:LI)(b:Int)(c d:LI)=>cond (decide (b<(a.length:Int))) ((m0k a b).bind fun x3=>cond ((decide (0≤b))&&(decide (b≤(a.length:Int)))) ((a5o (a06 (a01 b) a,s.2.1,d)).bind fun y4=>cond (lim ((a03 c)+1)) (some (.inl (a,s.2.1,wrap .i64 (b+1),a04 c [wrap .i64 (x3-y4)],d,()))) none) none) (some (.inr (c,())))) s.1 s.2.2.1 s.2.2.2.1 s.2.2.2.2.1
def a4s(x:Z12):Option (LI×Int):=(a4W (x.2.1,x.2.2)).bind fun y1=>cond (!y1) (some ([],1)) ((a0R x.1).bind fun y2=>cond (!y2) (some ([],6)) ((y0s a5O (x.1,x.2.1,0,[],x.2.2,())).bind fun w5=>(a0R w5.1).bind fun y6=>cond (!y6) (some ([],6)) (some (w5.1,0))))
def b7g:FSem:=⟨[.v QL,.v QI,.v (.arr 3 QI)],[.o QI,.v QI],a4s⟩
def d0I:Hints:=⟨[(250,[.sv 0 QL,1,9,.own 8 8 QI,.vp 5 (.arr 3 QI)],[Qe 0 [.own 8 8 QI]])],[],[(9,[.q,.v,.v,.v,.v,.v,.v,.v,.v,.v,.v,.v,.q,.x,.x])]⟩
def a8V(x:Unit):Option (List LI):=some ([a05 (a05 (a05 (a00 3 0) 0 0) 1 0) 2 0,a05 (a05 (a05 (a00 3 0) 0 0) 1 64) 2 0,a05 (a05 (a05 (a00 3 0) 0 0) 1 32) 2 0,a05 (a05 (a05 (a00 3 0) 0 16) 1 32) 2 16,a05 (a05 (a05 (a00 3 0) 0 21) 1 22) 2 21,a05 (a05 (a05 (a00 3 0) 0 0) 1 48) 2 0,a05 (a05 (a05 (a00 3 0) 0 (-8)) 1 64) 2 (-8),a05 (a05 (a05 (a00 3 0) 0 32) 1 32) 2 0,a05 (a05 (a05 (a00 3 0) 0 0) 1 32) 2 32]:List LI)
def b5W:FSem:=⟨[],[.o (.arr 3 QI)],a8V⟩
def a3X(s:(LI×(Int×Int×Int×Int×Z25))):Option ((LI×(Int×Int×Int×Int×Z25)) ⊕ (Int×Z25)):=(fun(a:LI)(b c d e:Int)(f:List LI)(g:LI)=>cond (decide (e<(f.length:Int))) (cond ((decide (0≤e))&&(decide (e<(f.length:Int)))) ((a4s (a,b,a02 f (a01 e) (a00 3 0))).bind fun y3=>(a6T (y3.1,0)).bind fun y4=>(show Option (LI×(Int×Int×Int×Int×Int×Bool×Z25))from cond (y3.2==0) (cond (decide (c<0)) (some (a,b,c,d,e,y4,true,f,g,())) (some (a,b,c,d,e,y4,decide (y4<d),f,g,()))) (some (a,b,c,d,e,y4,false,f,g,()))).bind fun z5=>cond z5.2.2.2.2.2.2.1 (some (.inl (z5.1,z5.2.1,z5.2.2.2.2.1,z5.2.2.2.2.2.1,wrap .i64 (z5.2.2.2.2.1+1),z5.2.2.2.2.2.2.2.1,z5.2.2.2.2.2.2.2.2.1,()))) (some (.inl (z5.1,z5.2.1,z5.2.2.1,z5.2.2.2.1,wrap .i64 (z5.2.2.2.2.1+1),z5.2.2.2.2.2.2.2.1,z5.2.2.2.2.2.2.2.2.1,())))) none) (some (.inr (c,f,g,())))) s.1 s.2.1 s.2.2.1 s.2.2.2.1 s.2.2.2.2.1 s.2.2.2.2.2.1 s.2.2.2.2.2.2.1
def a6a(x:(LI×Int)):Option (LI×Int):=(show Option (LI×Z17)from cond (decide (x.2<2)) (some (x.1,x.2,true,a00 3 0,())) (some (x.1,x.2,decide (x.2 > 1024),a00 3 0,()))).bind fun z1=>cond z1.2.2.1 (some (a00 3 0,1)) ((a8V ()).bind fun y2=>(y0s a3X (z1.1,z1.2.1,(-1),0,0,y2,z1.2.2.2.1,())).bind fun w6=>cond (decide (w6.1<0)) (some (a00 3 0,6)) (cond ((decide (0≤w6.1))&&(decide (w6.1<(w6.2.1.length:Int)))) (some (a02 w6.2.1 (a01 w6.1) (a00 3 0),0)) none))
def b7h:FSem:=⟨[.v QL,.v QI],[.v (.arr 3 QI),.v QI],a6a⟩
def d0J:Hints:=⟨[(250,[.sv 0 QL,1,7,8,9,.own 6 6 (.arr 3 QI),.box 4 (.arr 3 QI),Qp 4 4],[Qe 0 [7,.own 6 6 (.arr 3 QI),.box 4 (.arr 3 QI),Qp 4 4]])],[(6,[Qn [.sv 0 QL,1,.sv 18 .bool,.box 4 (.arr 3 QI),Qp 4 4]]),(16019,[Qn [.sv 0 QL,1,7,8,9,12,.sv 49 .bool,.own 6 6 (.arr 3 QI),.box 4 (.arr 3 QI),Qp 4 4]])],[]⟩
def a2b(x:LI):Option (a1h×Bool):=(a4r (x,16,256)).bind fun y1=>cond (y1.2 != 0) (some ((0,0,0,0,0,[],a00 3 0,[],[],(0,[],()),[],()),false)) ((a6a (x,y1.1)).bind fun y2=>cond (y2.2 != 0) (some ((0,0,0,0,0,[],a00 3 0,[],[],(0,[],()),[],()),false)) ((a4s (x,y1.1,y2.1)).bind fun y3=>cond (y3.2 != 0) (some ((0,0,0,0,0,[],a00 3 0,[],[],(0,[],()),[],()),false)) ((a7m (y3.1,4,12)).bind fun y4=>some ((4,y4.1.2.1,y4.1.2.2.1,y4.1.2.2.2.1,y1.1,y4.1.2.2.2.2.2.1,y2.1,y4.1.2.2.2.2.2.2.2),y4.2))))
def c2y:FSem:=⟨[.v QL],[.v Q19,.v .bool],a2b⟩
def d0K:Hints:=⟨[],[],[(11,[.v,.r [6,45],.q,.w [0,10],.q,.w [0,10],.x,.x])]⟩
def a4t(s:c2g):Option (c2g ⊕ (LI×b9d)):=cond (decide (s.2.1<5)) (cond (lim ((a03 s.2.2.1)+1)) (some (.inl (s.1,wrap .i64 (s.2.1+1),a04 s.2.2.1 ([(2,0,s.2.1,0,0,[],a00 3 0,[],[],(0,[],()),[],())]:List a1h),()))) none) (some (.inr (s.1,s.2.2.1,())))
def a9T(x:(LI×Int)):Option a7i:=(a5l x.1).bind fun y1=>(show Option c2g from cond (decide (x.2≥1)) ((a1b (([(0,0,0,0,0,[],a00 3 0,[],[],(0,[],()),[],()),(1,0,0,0,0,[],a00 3 0,[],[],(0,[],()),[],()),(2,0,y1,0,0,[],a00 3 0,[],[],(0,[],()),[],())]:List a1h),x.1,4,12)).bind fun y2=>(a1b (y2.1,x.1,8,12)).bind fun y3=>some (x.1,x.2,y3.1,())) (some (x.1,x.2,([(0,0,0,0,0,[],a00 3 0,[],[],(0,[],()),[],()),(1,0,0,0,0,[],a00 3 0,[],[],(0,[],()),[],()),(2,0,y1,0,0,[],a00 3 0,[],[],(0,[],()),[],())]:List a1h),()))).bind fun z4=>(show Option c2g from cond (decide (z4.2.1≥2)) (cond (lim ((a03 z4.2.2.1)+2)) ((a2b z4.1).bind fun y5=>cond y5.2 (cond (lim ((a03 (a04 z4.2.2.1 ([(5,0,0,0,0,[],a00 3 0,([(16,4,())]:List (Int×Int×Unit)),[],(0,[],()),[],()),(5,0,0,0,0,[],a00 3 0,([(32,3,()),(16,5,())]:List (Int×Int×Unit)),[],(0,[],()),[],())]:List a1h)))+1)) (some (z4.1,z4.2.1,a04 (a04 z4.2.2.1 ([(5,0,0,0,0,[],a00 3 0,([(16,4,())]:List (Int×Int×Unit)),[],(0,[],()),[],()),(5,0,0,0,0,[],a00 3 0,([(32,3,()),(16,5,())]:List (Int×Int×Unit)),[],(0,[],()),[],())]:List a1h)) ([y5.1]:List a1h),())) none) (some (z4.1,z4.2.1,a04 z4.2.2.1 ([(5,0,0,0,0,[],a00 3 0,([(16,4,())]:List (Int×Int×Unit)),[],(0,[],()),[],()),(5,0,0,0,0,[],a00 3 0,([(32,3,()),(16,5,())]:List (Int×Int×Unit)),[],(0,[],()),[],())]:List a1h),()))) none) (some (z4.1,z4.2.1,z4.2.2.1,()))).bind fun z6=>(show Option b9d from cond (decide (z6.2.1≥3)) ((y0s a4t (z6.1,0,z6.2.2.1,())).bind fun w7=>(a1b (w7.2.1,w7.1,1,12)).bind fun y8=>(a1b (y8.1,w7.1,2,12)).bind fun y9=>(a1b (y9.1,w7.1,12,14)).bind fun y10=>(a1b (y10.1,w7.1,16,14)).bind fun y11=>some (y11.1,())) (some (z6.2.2.1,()))).bind fun z12=>some z12.1
def c1n:FSem:=⟨[.v QL,.v QI],[.o Q19],a9T⟩
def H67:Hints:=⟨[(2002,[.sv 0 QL,8,.own 5 5 Q19],[Qe 0 [.sv 0 QL,.own 5 5 Q19]])],[(7,[Qn [.sv 0 QL,1,.own 5 5 Q19]]),(15,[Qn [.sv 0 QL,1,.own 5 5 Q19]]),(31,[Qn [.own 5 5 Q19]])],[]⟩
def a3C(s:Z14):Option (Z14 ⊕ (Z4 ⊕ (Bool×Unit))):=(fun(a:LI)(b c:Int)=>cond (decide (c<(a.length:Int))) ((show Option Z32 from(m0k a c).bind fun x1=>cond (decide (x1<(-32768))) (some (a,b,c,true,())) ((m0k a c).bind fun x2=>some (a,b,c,decide (x2≥32768),()))).bind fun z3=>cond z3.2.2.2.1 (some (.inr (Sum.inr ((false,()))))) (some (.inl (z3.1,z3.2.1,wrap .i64 (z3.2.2.1+1),())))) (some (.inr (Sum.inl (a,b,()))))) s.1 s.2.1 s.2.2.1
def a2T(x:(LI×Int)):Option Bool:=(y0s a3C (x.1,x.2,0,())).bind fun w4=>match w4 with |.inl a5=>(cond (decide ((a5.1.length:Int)≥1)) (cond (decide ((a5.1.length:Int)≤32)) (cond (decide (a5.2.1≥0)) (some (decide (a5.2.1≤15))) (some false)) (some false)) (some false)) |.inr b6=>some b6.1
def b5X:FSem:=⟨[.v QL,.v QI],[.v .bool],a2T⟩
def d0L:Hints:=⟨[(26,[.sv 0 QL,1,5],[Qe 0 [.sv 0 QL,1],Qr [.sv 4 .bool]])],[(420,[Qn [.sv 0 QL,1,5,.sv 23 .bool]])],[]⟩
def a6b(x:(Int×Int×Unit)):Option Bool:=cond (decide (x.1≥1)) (cond (decide (x.1≤32)) (cond (decide (x.2.1≥0)) (some (decide (x.2.1≤8))) (some false)) (some false)) (some false)
def b7i:FSem:=⟨[.v Q4],[.v .bool],a6b⟩
def a3Y(s:Z36):Option (Z36 ⊕ ((Z5×Unit) ⊕ (Bool×Unit))):=cond (decide (s.2.1<(s.1.length:Int))) ((m0k s.1 s.2.1).bind fun x1=>(a6b x1).bind fun y2=>cond (!y2) (some (.inr (Sum.inr ((false,()))))) (some (.inl (s.1,wrap .i64 (s.2.1+1),())))) (some (.inr (Sum.inl (s.1,()))))
def a4u(x:Z5):Option Bool:=(y0s a3Y (x,0,())).bind fun w3=>match w3 with |.inl a4=>some (decide ((a4.1.length:Int)≤3)) |.inr b5=>some b5.1
def b7j:FSem:=⟨[.v (.list false Q4)],[.v .bool],a4u⟩
def d0M:Hints:=⟨[(26,[.sv 0 (.list false Q4),3],[Qe 0 [.sv 0 (.list false Q4)],Qr [.sv 2 .bool]])],[],[]⟩
def a8e(x:a7j):Option Int:=cond (x.1.1==0) (some 1) (cond (x.1.1==1) (some x.2) (cond (x.1.1==2) ((show Option c2d from cond (decide (x.1.2.2.1≥0)) (cond (decide (x.1.2.2.1≤4)) (some (decide (x.1.2.2.1≤x.2),x.1,())) (some (false,x.1,()))) (some (false,x.1,()))).bind fun z1=>cond z1.1 (some z1.2.1.2.2.1) (some (-1))) ((show Option c2f from cond (x.1.1==3) (some (x.2,x.1.1,x.1.1==3,x.1,())) (some (x.2,x.1.1,x.1.1==4,x.1,()))).bind fun z2=>cond z2.2.2.1 ((show Option c2d from(a2T (z2.2.2.2.1.2.2.2.2.2.1,z2.2.2.2.1.2.2.2.1)).bind fun y3=>cond y3 (cond (decide ((z2.2.2.2.1.2.2.2.2.2.1.length:Int)≤z2.1)) (cond (z2.2.2.2.1.1==3) (some (true,z2.2.2.2.1,())) ((a4W (z2.2.2.2.1.2.2.2.2.1,z2.2.2.2.1.2.2.2.2.2.2.1)).bind fun y4=>some (y4,z2.2.2.2.1,()))) (some (false,z2.2.2.2.1,()))) (some (false,z2.2.2.2.1,()))).bind fun z5=>cond z5.1 (some (z5.2.1.2.2.2.2.2.1.length:Int)) (some (-1))) (cond (z2.2.1==5) ((show Option (Bool×Unit)from cond (decide ((z2.2.2.2.1.2.2.2.2.2.2.2.1.length:Int) > 0)) ((a4u z2.2.2.2.1.2.2.2.2.2.2.2.1).bind fun y6=>some (y6,())) (some (false,()))).bind fun z7=>cond z7.1 (some 0) (some (-1))) (some (-1))))))
def c1o:FSem:=⟨[.v Q19,.v QI],[.v QI],a8e⟩
def d0N:Hints:=⟨[],[(1726,[Qn [.sv 27 .bool,.vp 2 Q19]]),(1727,[Qn [1,6,.sv 30 .bool,.vp 2 Q19]]),(6910,[Qn [.sv 56 .bool,.vp 2 Q19]]),(27646,[Qn [.sv 70 .bool]])],[]⟩
def a4v(s:Z4):Option Z55:=cond (decide (s.2.1<(s.1.length:Int))) ((m0k s.1 s.2.1).bind fun x1=>(m0k s.1 0).bind fun x2=>cond (x1 != x2) (some (.inr (Sum.inr ((false,()))))) (some (.inl (s.1,wrap .i64 (s.2.1+1),())))) (some (.inr (Sum.inl ())))
def a9U(x:LI):Option Bool:=(y0s a4v (x,1,())).bind fun w3=>match w3 with |.inl a4=>some true |.inr b5=>some b5.1
def c1p:FSem:=⟨[.v QL],[.v .bool],a9U⟩
def d0O:Hints:=⟨[(26,[.sv 0 QL,3],[Qe 0 [],Qr [.sv 2 .bool]])],[],[(4,[.v,.v,.v,.v,.v,.v,.v,.x])]⟩
def a2U(s:Z60):Option (Z60 ⊕ ((Int×Int×Unit) ⊕ (Int×Unit))):=(fun(a b:LI)(c d e:Int)=>cond (decide (e<(b.length:Int))) (cond (decide (e<(a.length:Int))) ((m0k a (wrap .i64 ((wrap .i64 ((a.length:Int)-1))-e))).bind fun x2=>(a2A x2).bind fun y3=>cond (!y3) (some (.inr (Sum.inr ((0,()))))) ((m0k b e).bind fun x4=>some (.inl (a,b,c,wrap .i64 (d+(wrap .i64 (x4*x2))),wrap .i64 (e+1),())))) (some (.inr (Sum.inl (c,d,()))))) (some (.inr (Sum.inl (c,d,()))))) s.1 s.2.1 s.2.2.1 s.2.2.2.1 s.2.2.2.2.1
def a3Z(x:Z11):Option Int:=(a2T (x.2.1,x.2.2)).bind fun y1=>cond (!y1) (some 0) ((y0s a2U (x.1,x.2.1,x.2.2,0,0,())).bind fun w5=>match w5 with |.inl a6=>(cond (decide ((wrap .u64 a6.1)<0)) none (some (A0o .i64 a6.2.1 (wrap .u64 a6.1)))) |.inr b7=>some b7.1)
def b4G:FSem:=⟨[.v QL,.v QL,.v QI],[.v QI],a3Z⟩
def d0P:Hints:=⟨[(122,[.sv 0 QL,.sv 1 QL,2,7,8],[Qe 0 [2,7],Qr [6]])],[],[]⟩
def a4N(s:Z67):Option (Z67 ⊕ (LI×Unit)):=(fun(a:LI)(b c:Int)(d:LI)=>cond (decide (c<(a.length:Int))) ((m0k a c).bind fun x4=>cond ((decide (0≤c))&&(decide (c≤(a.length:Int)))) ((a3Z (a06 (a01 c) a,s.2.1,b)).bind fun y5=>cond (lim ((a03 d)+1)) (some (.inl (a,s.2.1,b,wrap .i64 (c+1),a04 d [wrap .i64 (x4-y5)],()))) none) none) (some (.inr (d,())))) s.1 s.2.2.1 s.2.2.2.1 s.2.2.2.2.1
def a6q(x:Z11):Option (LI×Int):=(show Option Z48 from(a2T (x.2.1,x.2.2)).bind fun y1=>cond (!y1) (some (x.1,x.2.1,x.2.2,true,())) (some (x.1,x.2.1,x.2.2,decide ((x.1.length:Int)<(x.2.1.length:Int)),()))).bind fun z2=>cond z2.2.2.2.1 (some ([],1)) ((a0R z2.1).bind fun y3=>cond (!y3) (some ([],6)) ((y0s a4N (z2.1,z2.2.1,z2.2.2.1,(z2.2.1.length:Int),[],())).bind fun w6=>(a0R w6.1).bind fun y7=>cond (!y7) (some ([],6)) (some (w6.1,0))))
def b5m:FSem:=⟨[.v QL,.v QL,.v QI],[.o QI,.v QI],a6q⟩
def d0Q:Hints:=⟨[(250,[.sv 0 QL,.sv 1 QL,2,9,.own 8 8 QI],[Qe 0 [.own 8 8 QI]])],[(6,[Qn [.sv 0 QL,.sv 1 QL,2,.sv 20 .bool]])],[(9,[.q,.v,.v,.v,.v,.v,.v,.v,.v,.v,.v,.v,.q,.x,.x])]⟩
def a5p(x:(Int×Int×Unit)):Option Z43:=(a6b x).bind fun y1=>cond (!y1) none (cond ((decide (0≤x.1))&&((decide (x.1≤x.1))&&(lim (a01 x.1)))) (cond ((decide (0≤x.1))&&((decide (x.1≤x.1))&&(lim (a01 x.1)))) (some ((x.2.1,a00 (a01 x.1) 0,a00 (a01 x.1) 0,()),0)) none) none)
def b5Y:FSem:=⟨[.v Q4],[.b Q9,.v QI],a5p⟩
def d0R:Hints:=⟨[],[],[(3,[.v,.v,.v,.v,.q,.v,.v,.q,.x,.x,.x,.x])]⟩
def a8W(x:Int):Option Int:=some (v0s (v0r x (-1073741824)) 1073741823)
def c2z:FSem:=⟨[.v QI],[.v QI],a8W⟩
def a3L(s:Z75):Option (Z75 ⊕ Z63):=(fun(a:Int)(b:Z26)=>cond (decide (a<(b.2.1.length:Int))) (cond ((decide (0≤a))&&(decide (a<(b.2.1.length:Int)))) (cond ((decide (0≤a))&&(decide (a<(b.2.2.1.length:Int)))) (some (.inl (wrap .i64 (s.1+(wrap .i64 ((a02 b.2.1 (a01 a) 0)*(a02 b.2.2.1 (a01 a) 0)))),wrap .i64 (a+1),b,()))) none) none) (some (.inr (s.1,b,())))) s.2.1 s.2.2.1
def a2C(x:Z26):Option Z42:=(y0s a3L (0,0,x,())).bind fun w1=>(a8W (A0o .i64 w1.1 16)).bind fun y2=>some (y2,w1.2.1)
def b3O:FSem:=⟨[.r false (.b Q9)],[.v QI],a2C⟩
def d0S:Hints:=⟨[(58,[3,4,.box pinned Q9,Qp 0 pinned],[Qe 0 [3,.box pinned Q9]])],[],[(5,[.v,.p,.p,.q,.q,.v,.q,.q,.p,.p,.q,.q,.v,.q,.q,.v,.x,.x])]⟩
def a8X(x:Int):Option Int:=cond (decide (x > 0)) (some 1) (cond (decide (x<0)) (some (-1)) (some 0))
def c2A:FSem:=⟨[.v QI],[.v QI],a8X⟩
def a2V(s:(Int×(Int×(Int×(LI×Z72))))):Option ((Int×(Int×(Int×(LI×Z72)))) ⊕ (Int×(LI×Z72))):=(fun(a:Int)(b c:LI)(d:Z26)=>cond (decide (a<(d.2.1.length:Int))) (cond ((decide (0≤a))&&(decide (a<(d.2.1.length:Int)))) (cond ((decide (0≤a))&&(decide (a<(d.2.2.1.length:Int)))) ((a8X (a02 d.2.2.1 (a01 a) 0)).bind fun y4=>cond (decide ((wrap .u64 d.1)<0)) none (cond (lim ((a03 b)+1)) (some (.inl (s.1,s.2.1,wrap .i64 (a+1),a04 b [v0s (v0r (wrap .i64 ((a02 d.2.1 (a01 a) 0)+(A0n .i64 (wrap .i64 (s.2.1*y4)) (wrap .u64 d.1)))) (-1048576)) 1048576],c,d,()))) none)) none) none) (some (.inr (s.1,b,c,d,())))) s.2.2.1 s.2.2.2.1 s.2.2.2.2.1 s.2.2.2.2.2.1
def a4a(x:Z43):Option Z26:=(a8W x.2).bind fun y1=>(a2C x.1).bind fun y2=>(a8X (wrap .i64 (y1-y2.1))).bind fun y3=>(y0s a2V (y1,y3,0,[],[],y2.2,())).bind fun w5=>cond (lim ((a03 w5.2.2.1)+1)) (cond ((decide (0≤(wrap .i64 ((w5.2.2.2.1.2.2.1.length:Int)-1))))&&(decide ((wrap .i64 ((w5.2.2.2.1.2.2.1.length:Int)-1))≤(w5.2.2.2.1.2.2.1.length:Int)))) (cond (lim ((a03 (a04 w5.2.2.1 [w5.1]))+(a03 (a06 (a01 (wrap .i64 ((w5.2.2.2.1.2.2.1.length:Int)-1))) (a07 0 w5.2.2.2.1.2.2.1))))) (some (w5.2.2.2.1.1,w5.2.1,a04 (a04 w5.2.2.1 [w5.1]) (a06 (a01 (wrap .i64 ((w5.2.2.2.1.2.2.1.length:Int)-1))) (a07 0 w5.2.2.2.1.2.2.1)),w5.2.2.2.1.2.2.2)) none) none) none
def b4H:FSem:=⟨[.r false (.b Q9),.v QI],[],a4a⟩
def d0T:Hints:=⟨[(122,[1,4,7,.own 5 5 QI,.own 6 6 QI,.box pinned Q9,Qp 0 pinned],[Qe 0 [1,.own 5 5 QI,.own 6 6 QI,.box pinned Q9,Qp 0 pinned]])],[],[(6,[.q,.p,.p,.q,.q,.v,.q,.q,.v,.p,.p,.q,.q,.v,.q,.q,.v,.v,.p,.p,.q,.q,.v,.v,.v,.v,.v,.q,.x,.x]),(7,[.q,.v,.q,.w [6,55,56],.p,.p,.r [59,pinned],.r [60,pinned],.p,.p,.r [63,pinned],.r [64,pinned],.r [65,pinned],.v,.r [67,pinned],.x,.x])]⟩
def a5q(s:c2a):Option (c2a ⊕ Z65):=(fun(a:Int)(b:LI)=>cond (decide (a<(b.length:Int))) (cond ((decide (0≤a))&&(decide (a<(b.length:Int)))) ((a2C s.2.2.2.2.1).bind fun y5=>cond ((decide (0≤a))&&(decide (a<(b.length:Int)))) ((a4a (y5.2,a02 b (a01 a) 0)).bind fun y6=>some (.inl (s.1,s.2.1,wrap .i64 (a+1),a05 b (a01 a) (wrap .i64 ((a02 b (a01 a) 0)-y5.1)),y6,()))) none) none) (some (.inr (s.1,s.2.1,b,())))) s.2.2.1 s.2.2.2.1
def a3D(s:Z65):Option (Z65 ⊕ Z45):=cond (decide (s.2.1<(s.1.length:Int))) ((m0k s.1 s.2.1).bind fun x3=>(a5p x3).bind fun y4=>(y0s a5q (s.1,s.2.1,0,s.2.2.1,y4.1,())).bind fun w7=>(a0R w7.2.2.1).bind fun y8=>cond (!y8) (some (.inr (Sum.inr ((6,[],()))))) (some (.inl (w7.1,wrap .i64 (w7.2.1+1),w7.2.2.1,())))) (some (.inr (Sum.inl (s.2.2.1,()))))
def a7d(x:Z27):Option (LI×Int):=(a4u x.2).bind fun y1=>cond (!y1) (some ([],1)) ((a0R x.1).bind fun y2=>cond (!y2) (some ([],6)) (cond (lim (0+(a03 x.1))) ((y0s a3D (x.2,0,a04 [] x.1,())).bind fun w9=>match w9 with |.inl a10=>some (a10.1,0) |.inr b11=>some (b11.2.1,b11.1)) none))
def b5Z:FSem:=⟨[.v QL,.v (.list false Q4)],[.o QI,.v QI],a7d⟩
def d0U:Hints:=⟨[(250,[.sv 1 (.list false Q4),7,.own 6 6 QI],[Qe 0 [.own 6 6 QI],Qr [5,.own 4 4 QI]]),(64074,[.sv 1 (.list false Q4),7,10,.own 6 6 QI,.box 1032 Q9,Qp 8 1032],[Qe 2 [.sv 1 (.list false Q4),7,.own 6 6 QI]])],[],[]⟩
def a8Y(x:(a1h×LI)):Option Z11:=cond (x.1.1==2) ((a2h (x.2,x.1.2.2.1)).bind fun y1=>cond ((decide (0≤x.1.2.2.1))&&(decide (x.1.2.2.1≤(x.2.length:Int)))) (some (a06 (a01 x.1.2.2.1) x.2,y1.1,y1.2)) none) ((show Option (LI×b3J)from cond (x.1.1==3) (some (x.2,x.1.1,x.1.1==3,x.1,())) (some (x.2,x.1.1,x.1.1==4,x.1,()))).bind fun z2=>cond z2.2.2.1 ((show Option (c6u ⊕ (LI×Z4))from cond (z2.2.2.2.1.1==4) ((a4s (z2.1,z2.2.2.2.1.2.2.2.2.1,z2.2.2.2.1.2.2.2.2.2.2.1)).bind fun y3=>cond (y3.2 != 0) (some (Sum.inr (([],[],y3.2,())))) (some (Sum.inl (y3.1,z2.2.2.2.1,())))) (some (Sum.inl (z2.1,z2.2.2.2.1,())))).bind fun z4=>match z4 with |.inl a5=>((a6q (a5.1,a5.2.1.2.2.2.2.2.1,a5.2.1.2.2.2.1)).bind fun y7=>cond ((decide (0≤(a5.2.1.2.2.2.2.2.1.length:Int)))&&(decide ((a5.2.1.2.2.2.2.2.1.length:Int)≤(a5.1.length:Int)))) (some (a06 (a01 (a5.2.1.2.2.2.2.2.1.length:Int)) a5.1,y7.1,y7.2)) none) |.inr b6=>some (b6.1,b6.2.1,b6.2.2.1)) (cond (z2.2.1==5) ((a7d (z2.1,z2.2.2.2.1.2.2.2.2.2.2.2.1)).bind fun y8=>some ([],y8.1,y8.2)) (some (z2.1,[],0))))
def c2B:FSem:=⟨[.v Q19,.v QL],[.v QL,.v QL,.v QI],a8Y⟩
def d0V:Hints:=⟨[],[(107,[Qn [.sv 1 QL,16,.sv 32 .bool,.vp 2 Q19]]),(430,[Qn [.sv 1 QL,.vp 2 Q19],Qr [.sv 4 QL,.sv 5 QL,6]])],[]⟩
def a3S(x:Int):Option Bool:=cond (decide (x≥2)) (some (decide (x≤5))) (some false)
def b8n:FSem:=⟨[.v QI],[.v .bool],a3S⟩
def b1p(x:(Int×Int)):Option Bool:=cond (decide (x.1≥1)) (cond (decide (x.1≤4096)) (cond (decide (x.2≥0)) (some (decide (x.2≤x.1))) (some false)) (some false)) (some false)
def c4y:FSem:=⟨[.v QI,.v QI],[.v .bool],b1p⟩
def a5r(s:Z51):Option (Z51 ⊕ Z3):=(fun(a b c:Int)(d:LI)=>cond (decide ((wrap .u64 a)<0)) none (cond (decide (c<(A0n .i64 1 (wrap .u64 a)))) (cond (decide ((wrap .u64 a)<0)) none (cond (lim ((a03 d)+1)) (some (.inl (a,s.2.1,b,wrap .i64 (c+1),a04 d [A0o .i64 s.2.1 (wrap .u64 a)],()))) none)) (some (.inr (b,d,()))))) s.1 s.2.2.1 s.2.2.2.1 s.2.2.2.2.1
def a2W(x:(Int×Int×Int)):Option LI:=(show Option Z24 from(b1p (x.2.1,x.2.2)).bind fun y1=>cond (!y1) (some (x.1,x.2.1,x.2.2,true,())) (cond (decide (x.1<0)) (some (x.1,x.2.1,x.2.2,true,())) (cond (decide (x.1 > 8)) (some (x.1,x.2.1,x.2.2,true,())) (cond (decide ((wrap .u64 x.1)<0)) none (cond ((A0n .i64 1 (wrap .u64 x.1))==0) none (cond ((a09 x.2.1 (A0n .i64 1 (wrap .u64 x.1))) != 0) (some (x.1,x.2.1,x.2.2,true,())) (cond (decide ((wrap .u64 x.1)<0)) none (some (x.1,x.2.1,x.2.2,decide ((A0o .i64 x.2.1 (wrap .u64 x.1))<x.2.2),()))))))))).bind fun z2=>cond z2.2.2.2.1 (some []) ((y0s a5r (z2.1,z2.2.1,z2.2.2.1,0,[],())).bind fun w3=>cond (decide (0<(w3.2.1.length:Int))) (cond (decide (0<(w3.2.1.length:Int))) (some (a05 w3.2.1 0 (wrap .i64 ((a02 w3.2.1 0 0)-w3.1)))) none) none)
def b6a:FSem:=⟨[.v QI,.v QI,.v QI],[.o QI],a2W⟩
def d0W:Hints:=⟨[(122,[0,1,2,8,.own 7 7 QI],[Qe 0 [2,.own 7 7 QI]])],[(6,[Qn [0,1,2,.sv 36 .bool]])],[]⟩
def a2D(x:Int):Option Bool:=cond (decide (x≥0)) (some (decide (x≤25))) (some false)
def b7k:FSem:=⟨[.v QI],[.v .bool],a2D⟩
def b5n(x:Int):Option Int:=(show Option (Int×Unit)from cond (decide (x<0)) (some (bits .u64 .xor (IntKind.max .u64) (A0n .u64 (wrap .u64 x) 1),())) (some (A0n .u64 (wrap .u64 x) 1,()))).bind fun z1=>some z1.1
def c4z:FSem:=⟨[.v QI],[.v QU],b5n⟩
def d0X:Hints:=⟨[],[(7,[Qn [.sv 3 QU]])],[]⟩
def b0G(x:Int):Option Int:=(a2A x).bind fun y1=>cond (!y1) (some 0) ((b5n x).bind fun y2=>some y2)
def c3V:FSem:=⟨[.v QI],[.v QU],b0G⟩
def a4X(x:(Int×Int)):Option Int:=(show Option Z10 from(a2D x.1).bind fun y1=>cond (!y1) (some (x.1,x.2,true,())) ((a2A x.2).bind fun y2=>some (x.1,x.2,!y2,()))).bind fun z3=>cond z3.2.2.1 (some 0) ((b0G z3.2.1).bind fun y4=>cond (decide ((wrap .u64 z3.1)<0)) none (cond (decide ((wrap .i64 (A0o .u64 y4 (wrap .u64 z3.1)))<32)) (some (wrap .i64 ((wrap .i64 ((wrap .i64 (A0o .u64 y4 (wrap .u64 z3.1)))+1))+z3.1))) (some 65)))
def b8o:FSem:=⟨[.v QI,.v QI],[.v QI],a4X⟩
def d0Y:Hints:=⟨[],[(6,[Qn [0,1,.sv 13 .bool]])],[]⟩
def a2X(s:Z29):Option (Z29 ⊕ (Int×Unit)):=(fun(a:LI)(b c:Int)=>cond (decide (c<(a.length:Int))) ((m0k a c).bind fun x1=>(a4X (s.1,x1)).bind fun y2=>some (.inl (s.1,a,wrap .i64 (b+y2),wrap .i64 (c+1),()))) (some (.inr (b,())))) s.2.1 s.2.2.1 s.2.2.2.1
def a2Y(x:(Int×LI)):Option Int:=(y0s a2X (x.1,x.2,0,0,())).bind fun w3=>some w3.1
def b9A:FSem:=⟨[.v QI,.v QL],[.v QI],a2Y⟩
def d0Z:Hints:=⟨[(58,[0,.sv 1 QL,5,6],[Qe 0 [5]])],[],[]⟩
def a6r(s:Z14):Option Z54:=(fun(a:LI)(b c:Int)=>cond (decide (c≤25)) ((a2Y (c,a)).bind fun y1=>(a2Y (b,a)).bind fun y2=>cond (decide (y1<y2)) (some (.inl (a,c,wrap .i64 (c+1),()))) (some (.inl (a,b,wrap .i64 (c+1),())))) (some (.inr (b,())))) s.1 s.2.1 s.2.2.1
def a8l(x:LI):Option Int:=(y0s a6r (x,0,1,())).bind fun w3=>some w3.1
def b8p:FSem:=⟨[.v QL],[.v QI],a8l⟩
def d1a:Hints:=⟨[(58,[.sv 0 QL,3,4],[Qe 0 [3]])],[],[]⟩
def a6K(s:Z14):Option (Z14 ⊕ Z14):=(fun(a:LI)(b c:Int)=>cond (decide (b<32)) ((m0k a c).bind fun x1=>cond (x1 != 0) ((m0k a c).bind fun x2=>(a8D (x2,b)).bind fun y3=>cond (!y3) (some (.inl (a,wrap .i64 (b+1),c,()))) (some (.inr (a,b,c,())))) (some (.inr (a,b,c,())))) (some (.inr (a,b,c,())))) s.1 s.2.1 s.2.2.1
def a8m(s:Z14):Option Z54:=cond (decide (s.2.2.1<(s.1.length:Int))) ((y0s a6K (s.1,s.2.1,s.2.2.1,())).bind fun w4=>some (.inl (w4.1,w4.2.1,wrap .i64 (w4.2.2.1+1),()))) (some (.inr (s.2.1,())))
def a6s(x:LI):Option Int:=(y0s a8m (x,0,0,())).bind fun w5=>some w5.1
def c2C:FSem:=⟨[.v QL],[.v QI],a6s⟩
def d1b:Hints:=⟨[(58,[.sv 0 QL,3,4],[Qe 0 [3]]),(1864,[.sv 0 QL,3,4],[Qe 2 [.sv 0 QL,3,4]])],[],[]⟩
def a2r(x:(Int×LI)):Option Int:=cond (x.1==31) ((a6s x.2).bind fun y1=>some (wrap .i64 (5+(wrap .i64 ((x.2.length:Int)*y1))))) ((a2Y (x.1,x.2)).bind fun y2=>some y2)
def b8q:FSem:=⟨[.v QI,.v QL],[.v QI],a2r⟩
def b1a(x:LI):Option Int:=(a8l x).bind fun y1=>(a2r (31,x)).bind fun y2=>(a2Y (y1,x)).bind fun y3=>cond (decide (y2<y3)) (some 31) (some y1)
def c2D:FSem:=⟨[.v QL],[.v QI],b1a⟩
def a3q(s:(Int×Z19)):Option ((Int×Z19) ⊕ Z0):=cond (decide (s.1<(s.2.1.2.1.length:Int))) ((show Option (Int×Z38)from(m0k s.2.1.2.1 s.1).bind fun x3=>(a2D x3).bind fun y4=>cond (!y4) ((m0k s.2.1.2.1 s.1).bind fun x5=>some (s.1,x5 != 31,s.2.1,())) (some (s.1,false,s.2.1,()))).bind fun z6=>cond z6.2.1 (some (.inr (Sum.inr ((false,()))))) (some (.inl (wrap .i64 (z6.1+1),z6.2.2.1,())))) (some (.inr (Sum.inl ())))
def a4Y(x:(Z3×Int×Int)):Option Bool:=(a2W (x.1.1,x.2.1,x.2.2)).bind fun y1=>(show Option Z38 from cond ((y1.length:Int)==0) (some (true,x.1,())) (some ((y1.length:Int) != (x.1.2.1.length:Int),x.1,()))).bind fun z2=>cond z2.1 (some false) ((y0s a3q (0,z2.2.1,())).bind fun w7=>match w7 with |.inl a8=>some true |.inr b9=>some b9.1)
def b8r:FSem:=⟨[.v Q7,.v QI,.v QI],[.v .bool],a4Y⟩
def d1c:Hints:=⟨[(122,[8,.vp 3 Q7],[Qe 0 [],Qr [.sv 6 .bool]])],[(14,[Qn [.sv 24 .bool,.vp 3 Q7]]),(1956,[Qn [8,.sv 46 .bool,.vp 3 Q7]])],[]⟩
def a2g(s:Z91):Option (Z91 ⊕ (Int×Unit)):=(fun(a b:Int)(c:LI)(d:Z3)=>cond (decide (b<(c.length:Int))) ((m0k d.2.1 b).bind fun x5=>cond ((decide (0≤b))&&(decide (b<(c.length:Int)))) (cond ((decide (0≤(wrap .i64 (a+(a02 c (a01 b) 0)))))&&(decide ((wrap .i64 (a+(a02 c (a01 b) 0)))≤(s.1.length:Int)))) (cond ((decide (0≤a))&&(decide (a≤((a01 (wrap .i64 (a+(a02 c (a01 b) 0))):Nat):Int)))) ((a2r (x5,a07 (a01 a) (a06 (a01 (wrap .i64 (a+(a02 c (a01 b) 0)))) s.1))).bind fun y6=>cond ((decide (0≤b))&&(decide (b<(c.length:Int)))) (some (.inl (s.1,wrap .i64 ((wrap .i64 (s.2.1+5))+y6),wrap .i64 (a+(a02 c (a01 b) 0)),wrap .i64 (b+1),c,d,()))) none) none) none) none) (some (.inr (s.2.1,())))) s.2.2.1 s.2.2.2.1 s.2.2.2.2.1 s.2.2.2.2.2.1
def a2c(x:Z58):Option Int:=(show Option (Int×(Int×(LI×Z38)))from(a4Y (x.1,x.2.1,x.2.2.1)).bind fun y1=>cond (!y1) (some (x.2.1,x.2.2.1,x.2.2.2,true,x.1,())) (cond ((x.2.2.2.length:Int) != (wrap .i64 (x.2.1-x.2.2.1))) (some (x.2.1,x.2.2.1,x.2.2.2,true,x.1,())) ((a0R x.2.2.2).bind fun y2=>some (x.2.1,x.2.2.1,x.2.2.2,!y2,x.1,())))).bind fun z3=>cond z3.2.2.2.1 (some 0) ((a2W (z3.2.2.2.2.1.1,z3.1,z3.2.1)).bind fun y4=>(y0s a2g (z3.2.2.1,4,0,0,y4,z3.2.2.2.2.1,())).bind fun w7=>some w7.1)
def b7l:FSem:=⟨[.v Q7,.v QI,.v QI,.v QL],[.v QI],a2c⟩
def d1d:Hints:=⟨[(250,[.sv 3 QL,9,10,12,.own 11 11 QI,.vp 4 Q7],[Qe 0 [9]])],[(6,[Qn [1,2,.sv 3 QL,.sv 30 .bool,.vp 4 Q7]])],[(8,[.v,.v,.v,.v,.v,.v,.v,.v,.v,.v,.q,.v,.q,.q,.v,.v,.v,.x,.x])]⟩
def a4b(s:(Int×(Int×(Int×(LI×(Int×Int×c2c)))))):Option ((Int×(Int×(Int×(LI×(Int×Int×c2c))))) ⊕ (Int×(Int×(Int×(LI×(Int×Int×Z96)))))):=(fun(a:Int)(b:LI)(c d e f:Int)(g:LI)(h i j:Z3)=>cond (decide (f<(g.length:Int))) (cond ((decide (0≤f))&&(decide (f<(g.length:Int)))) (cond ((decide (0≤(wrap .i64 (e+(a02 g (a01 f) 0)))))&&(decide ((wrap .i64 (e+(a02 g (a01 f) 0)))≤(b.length:Int)))) (cond ((decide (0≤e))&&(decide (e≤((a01 (wrap .i64 (e+(a02 g (a01 f) 0))):Nat):Int)))) ((b1a (a07 (a01 e) (a06 (a01 (wrap .i64 (e+(a02 g (a01 f) 0)))) b))).bind fun y5=>cond (lim ((a03 j.2.1)+1)) (cond ((decide (0≤f))&&(decide (f<(g.length:Int)))) (some (.inl (s.1,s.2.1,a,b,c,d,wrap .i64 (e+(a02 g (a01 f) 0)),wrap .i64 (f+1),g,h,i,(j.1,a04 j.2.1 [y5],j.2.2),()))) none) none) none) none) none) (some (.inr (s.1,s.2.1,a,b,c,d,h,i,j,())))) s.2.2.1 s.2.2.2.1 s.2.2.2.2.1 s.2.2.2.2.2.1 s.2.2.2.2.2.2.1 s.2.2.2.2.2.2.2.1 s.2.2.2.2.2.2.2.2.1 s.2.2.2.2.2.2.2.2.2.1 s.2.2.2.2.2.2.2.2.2.2.1 s.2.2.2.2.2.2.2.2.2.2.2.1
def a3d(s:c2b):Option (c2b ⊕ Z78):=(fun(a b:Int)(c d:Z3)=>cond (decide (b≤(v0s (v0r a 0) 8))) ((a2W (b,s.1,s.2.1)).bind fun y4=>(y0s a4b (s.1,s.2.1,a,s.2.2.2.1,s.2.2.2.2.1,b,0,0,y4,c,d,(b,[],()),())).bind fun w6=>(a2c (w6.2.2.2.2.2.2.2.2.1,w6.1,w6.2.1,w6.2.2.2.1)).bind fun y7=>(show Option (Int×(Int×(Int×(LI×(Int×Int×Int×Bool×Z96)))))from cond (decide (y7 > 0)) (cond (w6.2.2.2.2.1==0) (some (w6.1,w6.2.1,w6.2.2.1,w6.2.2.2.1,w6.2.2.2.2.1,w6.2.2.2.2.2.1,y7,true,w6.2.2.2.2.2.2.1,w6.2.2.2.2.2.2.2.1,w6.2.2.2.2.2.2.2.2.1,())) (some (w6.1,w6.2.1,w6.2.2.1,w6.2.2.2.1,w6.2.2.2.2.1,w6.2.2.2.2.2.1,y7,decide (y7<w6.2.2.2.2.1),w6.2.2.2.2.2.2.1,w6.2.2.2.2.2.2.2.1,w6.2.2.2.2.2.2.2.2.1,()))) (some (w6.1,w6.2.1,w6.2.2.1,w6.2.2.2.1,w6.2.2.2.2.1,w6.2.2.2.2.2.1,y7,false,w6.2.2.2.2.2.2.1,w6.2.2.2.2.2.2.2.1,w6.2.2.2.2.2.2.2.2.1,()))).bind fun z8=>cond z8.2.2.2.2.2.2.2.1 (some (.inl (z8.1,z8.2.1,z8.2.2.1,z8.2.2.2.1,z8.2.2.2.2.2.2.1,wrap .i64 (z8.2.2.2.2.2.1+1),z8.2.2.2.2.2.2.2.2.1,z8.2.2.2.2.2.2.2.2.2.2.1,()))) (some (.inl (z8.1,z8.2.1,z8.2.2.1,z8.2.2.2.1,z8.2.2.2.2.1,wrap .i64 (z8.2.2.2.2.2.1+1),z8.2.2.2.2.2.2.2.2.1,z8.2.2.2.2.2.2.2.2.2.1,())))) (some (.inr (c,d,())))) s.2.2.1 s.2.2.2.2.2.1 s.2.2.2.2.2.2.1 s.2.2.2.2.2.2.2.1
def a7K(x:(Int×Z1)):Option (Z3×Int):=(show Option (Int×(Int×(Int×(LI×Z38))))from(b1p (x.1,x.2.1)).bind fun y1=>cond (!y1) (some (x.1,x.2.1,x.2.2.1,x.2.2.2,true,(0,[],()),())) (cond ((x.2.2.2.length:Int) != (wrap .i64 (x.1-x.2.1))) (some (x.1,x.2.1,x.2.2.1,x.2.2.2,true,(0,[],()),())) ((a0R x.2.2.2).bind fun y2=>some (x.1,x.2.1,x.2.2.1,x.2.2.2,!y2,(0,[],()),())))).bind fun z3=>cond z3.2.2.2.2.1 (some ((0,[],()),1)) ((y0s a3d (z3.1,z3.2.1,z3.2.2.1,z3.2.2.2.1,0,0,z3.2.2.2.2.2.1,(0,[],()),())).bind fun w9=>some (w9.2.1,0))
def b7m:FSem:=⟨[.v QI,.v QI,.v QI,.v QL],[.v Q7,.v QI],a7K⟩
def d1e:Hints:=⟨[(250,[0,1,2,.sv 3 QL,11,12,.box 8 Q7,.box 10 Q7,Qp 8 8,Qp 10 10],[Qe 0 [.box 8 Q7,.box 10 Q7,Qp 8 8,Qp 10 10]]),(128154,[0,1,2,.sv 3 QL,11,12,14,16,.own 13 13 QI,.box 8 Q7,.box 10 Q7,.box 15 Q6,Qp 8 8,Qp 10 10,Qp 15 15],[Qe 2 [0,1,2,.sv 3 QL,11,12,.box 8 Q7,.box 10 Q7,.box 15 Q6,Qp 8 8,Qp 10 10,Qp 15 15]])],[(6,[Qn [0,1,2,.sv 3 QL,.sv 34 .bool,.box 8 Q7,Qp 8 8]]),(64079,[Qn [0,1,2,.sv 3 QL,11,12,17,.sv 91 .bool,.box 8 Q7,.box 10 Q7,.box 15 Q7,Qp 8 8,Qp 10 10,Qp 15 15]])],[(13,[.q,.q,.v,.v,.v,.q,.v,.q,.q,.v,.v,.v,.q,.x,.x,.x])]⟩
def a8n(x:(Int×(LI×a1h))):Option a7j:=(show Option (Int×(LI×c6v))from cond (x.1==2) (some (x.1,x.2.1,(x.2.1.length:Int),(0,0,0,0,0,[],a00 3 0,[],[],(0,[],()),[],()),(x.1,0,x.2.2.2.2.1,0,0,[],a00 3 0,[],[],(0,[],()),[],()),())) (cond (x.1==3) (some (x.1,x.2.1,(x.2.1.length:Int),(0,0,0,0,0,[],a00 3 0,[],[],(0,[],()),[],()),(x.1,0,0,x.2.2.2.2.2.1,0,x.2.2.2.2.2.2.2.1,a00 3 0,[],[],(0,[],()),[],()),())) (cond (x.1==4) (some (x.1,x.2.1,(x.2.1.length:Int),(0,0,0,0,0,[],a00 3 0,[],[],(0,[],()),[],()),(x.1,0,0,x.2.2.2.2.2.1,x.2.2.2.2.2.2.1,x.2.2.2.2.2.2.2.1,x.2.2.2.2.2.2.2.2.1,[],[],(0,[],()),[],()),())) (cond (x.1==5) (some (x.1,x.2.1,(x.2.1.length:Int),(0,0,0,0,0,[],a00 3 0,[],[],(0,[],()),[],()),(x.1,0,0,0,0,[],a00 3 0,x.2.2.2.2.2.2.2.2.2.1,[],(0,[],()),[],()),())) (some (x.1,x.2.1,(x.2.1.length:Int),(0,0,0,0,0,[],a00 3 0,[],[],(0,[],()),[],()),(x.1,0,0,0,0,[],a00 3 0,[],[],(0,[],()),[],()),())))))).bind fun z1=>(show Option (Int×(LI×(Int×Bool×a9x)))from cond (decide (z1.2.2.1<1)) (some (z1.1,z1.2.1,z1.2.2.1,true,z1.2.2.2.1,z1.2.2.2.2.1,())) (cond (decide (z1.2.2.1 > 4096)) (some (z1.1,z1.2.1,z1.2.2.1,true,z1.2.2.2.1,z1.2.2.2.2.1,())) ((a8e (z1.2.2.2.2.1,z1.2.2.1)).bind fun y2=>some (z1.1,z1.2.1,z1.2.2.1,decide (y2<0),z1.2.2.2.1,z1.2.2.2.2.1,())))).bind fun z3=>cond z3.2.2.2.1 (some ((0,0,0,0,0,[],a00 3 0,[],[],(0,[],()),[],()),1)) ((a0R z3.2.1).bind fun y4=>cond (!y4) (some ((0,0,0,0,0,[],a00 3 0,[],[],(0,[],()),[],()),6)) (cond (z3.1==0) ((a9U z3.2.1).bind fun y5=>cond (!y5) (some ((0,0,0,0,0,[],a00 3 0,[],[],(0,[],()),[],()),7)) (cond (decide (1≤(z3.2.1.length:Int))) (some ((z3.2.2.2.2.2.1.1,z3.2.2.2.2.2.1.2.1,z3.2.2.2.2.2.1.2.2.1,z3.2.2.2.2.2.1.2.2.2.1,z3.2.2.2.2.2.1.2.2.2.2.1,z3.2.2.2.2.2.1.2.2.2.2.2.1,z3.2.2.2.2.2.1.2.2.2.2.2.2.1,z3.2.2.2.2.2.1.2.2.2.2.2.2.2.1,a06 1 z3.2.1,z3.2.2.2.2.2.1.2.2.2.2.2.2.2.2.2),0)) none)) ((a5E z3.2.1).bind fun y6=>(b0E (z3.2.1,y6)).bind fun y7=>(a8Y ((z3.2.2.2.2.2.1.1,y6,z3.2.2.2.2.2.1.2.2),y7.1)).bind fun y8=>cond (y8.2.2 != 0) (some ((0,0,0,0,0,[],a00 3 0,[],[],(0,[],()),[],()),6)) ((show Option a9x from(a3S z3.1).bind fun y9=>cond y9 ((a7K (z3.2.2.1,(y8.1.length:Int),6,y8.2.1)).bind fun y10=>some (z3.2.2.2.2.1,(z3.2.2.2.2.2.1.1,y6,z3.2.2.2.2.2.1.2.2.1,z3.2.2.2.2.2.1.2.2.2.1,z3.2.2.2.2.2.1.2.2.2.2.1,z3.2.2.2.2.2.1.2.2.2.2.2.1,z3.2.2.2.2.2.1.2.2.2.2.2.2.1,z3.2.2.2.2.2.1.2.2.2.2.2.2.2.1,y8.1,y10.1,y8.2.1,z3.2.2.2.2.2.1.2.2.2.2.2.2.2.2.2.2.2),())) (some (z3.2.2.2.2.1,(z3.2.2.2.2.2.1.1,y6,z3.2.2.2.2.2.1.2.2.1,z3.2.2.2.2.2.1.2.2.2.1,z3.2.2.2.2.2.1.2.2.2.2.1,z3.2.2.2.2.2.1.2.2.2.2.2.1,z3.2.2.2.2.2.1.2.2.2.2.2.2.1,z3.2.2.2.2.2.1.2.2.2.2.2.2.2.1,y8.1,z3.2.2.2.2.2.1.2.2.2.2.2.2.2.2.2.1,y8.2.1,z3.2.2.2.2.2.1.2.2.2.2.2.2.2.2.2.2.2),()))).bind fun z11=>some (z11.2.1,0)))))
def b8s:FSem:=⟨[.v QI,.v QL,.v Q19],[.v Q19,.v QI],a8n⟩
def H68:Hints:=⟨[],[(15,[Qn [0,.sv 1 QL,8,.box 6 Q19,.box 9 Q19,Qp 6 6,Qp 9 9]]),(62,[Qn [0,.sv 1 QL,8,.sv 63 .bool,.box 6 Q19,.box 9 Q19,Qp 6 6,Qp 9 9]]),(8191,[Qn [.box 6 Q19,.box 9 Q19,Qp 6 6,Qp 9 9]])],[(7,[.v,.v,.v,.v,.q,.w [0,9],.x,.x]),(9,[.v,.v,.v,.v,.v,.v,.v,.v,.q,.w [0,9],.q,.w [0,9],.q,.w [0,9],.x,.x])]⟩
def a3m(s:(Z5×Z36)):Option ((Z5×Z36) ⊕ Z0):=(fun(a:Int)=>cond (decide (a<(s.1.length:Int))) ((m0k s.1 a).bind fun x1=>(m0k s.2.1 a).bind fun x2=>cond (!(eqT Q4 x1 x2)) (some (.inr (Sum.inr ((false,()))))) (some (.inl (s.1,s.2.1,wrap .i64 (a+1),())))) (some (.inr (Sum.inl ())))) s.2.2.1
def a6t(x:(Z5×Z5)):Option Bool:=cond ((x.1.length:Int) != (x.2.length:Int)) (some false) ((y0s a3m (x.1,x.2,0,())).bind fun w3=>match w3 with |.inl a4=>some true |.inr b5=>some b5.1)
def b5o:FSem:=⟨[.v (.list false Q4),.v (.list false Q4)],[.v .bool],a6t⟩
def H70:Hints:=⟨[(58,[.sv 0 (.list false Q4),.sv 1 (.list false Q4),5],[Qe 0 [],Qr [.sv 4 .bool]])],[],[(6,[.v,.v,.v,.v,.v,.v,.v,.v,.x])]⟩
def a9y(x:(Z3×Z3)):Option Bool:=cond (x.1.1==x.2.1) ((a1H (x.1.2.1,x.2.2.1)).bind fun y1=>some y1) (some false)
def b7n:FSem:=⟨[.v Q7,.v Q7],[.v .bool],a9y⟩
def a6L(x:(a1h×a1h)):Option Bool:=cond (x.1.1==x.2.1) (cond (x.1.2.1==x.2.2.1) (cond (x.1.2.2.1==x.2.2.2.1) (cond (x.1.2.2.2.1==x.2.2.2.2.1) (cond (x.1.2.2.2.2.1==x.2.2.2.2.2.1) ((a1H (x.1.2.2.2.2.2.1,x.2.2.2.2.2.2.1)).bind fun y1=>cond y1 (cond (eqT (.arr 3 (.int .i64)) x.1.2.2.2.2.2.2.1 x.2.2.2.2.2.2.2.1) ((a6t (x.1.2.2.2.2.2.2.2.1,x.2.2.2.2.2.2.2.2.1)).bind fun y2=>cond y2 ((a1H (x.1.2.2.2.2.2.2.2.2.1,x.2.2.2.2.2.2.2.2.2.1)).bind fun y3=>cond y3 ((a9y (x.1.2.2.2.2.2.2.2.2.2.1,x.2.2.2.2.2.2.2.2.2.2.1)).bind fun y4=>cond y4 ((a1H (x.1.2.2.2.2.2.2.2.2.2.2.1,x.2.2.2.2.2.2.2.2.2.2.2.1)).bind fun y5=>some y5) (some false)) (some false)) (some false)) (some false)) (some false)) (some false)) (some false)) (some false)) (some false)) (some false)
def b8t:FSem:=⟨[.v Q19,.v Q19],[.v .bool],a6L⟩
def a9V(x:a1h):Option a1h:=cond (x.1==0) (some (x.1,0,0,0,0,[],a00 3 0,[],x.2.2.2.2.2.2.2.2.1,(0,[],()),[],())) (cond (x.1==1) (some (x.1,x.2.1,0,0,0,[],a00 3 0,[],x.2.2.2.2.2.2.2.2.1,(0,[],()),[],())) ((show Option a9x from cond (x.1==2) (some ((0,0,0,0,0,[],a00 3 0,[],[],(0,[],()),[],()),(x.1,x.2.1,x.2.2.1,0,0,[],a00 3 0,[],x.2.2.2.2.2.2.2.2.1,x.2.2.2.2.2.2.2.2.2.1,x.2.2.2.2.2.2.2.2.2.2.1,()),())) (cond (x.1==3) (some ((0,0,0,0,0,[],a00 3 0,[],[],(0,[],()),[],()),(x.1,x.2.1,0,x.2.2.2.1,0,x.2.2.2.2.2.1,a00 3 0,[],x.2.2.2.2.2.2.2.2.1,x.2.2.2.2.2.2.2.2.2.1,x.2.2.2.2.2.2.2.2.2.2.1,()),())) (cond (x.1==4) (some ((0,0,0,0,0,[],a00 3 0,[],[],(0,[],()),[],()),(x.1,x.2.1,0,x.2.2.2.1,x.2.2.2.2.1,x.2.2.2.2.2.1,x.2.2.2.2.2.2.1,[],x.2.2.2.2.2.2.2.2.1,x.2.2.2.2.2.2.2.2.2.1,x.2.2.2.2.2.2.2.2.2.2.1,()),())) (cond (x.1==5) (some ((0,0,0,0,0,[],a00 3 0,[],[],(0,[],()),[],()),(x.1,x.2.1,0,0,0,[],a00 3 0,x.2.2.2.2.2.2.2.1,[],x.2.2.2.2.2.2.2.2.2.1,x.2.2.2.2.2.2.2.2.2.2.1,()),())) (some ((0,0,0,0,0,[],a00 3 0,[],[],(0,[],()),[],()),(x.1,x.2.1,0,0,0,[],a00 3 0,[],x.2.2.2.2.2.2.2.2.1,x.2.2.2.2.2.2.2.2.2.1,x.2.2.2.2.2.2.2.2.2.2.1,()),())))))).bind fun z1=>some z1.2.1))
def c1q:FSem:=⟨[.v Q19],[.v Q19],a9V⟩
def d1f:Hints:=⟨[],[(127,[Qn [.box 2 Q19,.box 3 Q19,Qp 2 2,Qp 3 3]])],[(7,[.v,.v,.v,.v,.q,.w [0,3],.x,.x]),(12,[.v,.v,.v,.v,.q,.w [0,3],.x,.x]),(14,[.v,.v,.v,.v,.v,.v,.v,.v,.q,.w [0,3],.q,.w [0,3],.q,.w [0,3],.x,.x])]⟩
def b1q(x:Int):Option LI:=cond ((decide (0≤x))&&(decide (x<5))) (some (a02 ([[],[1],[2,(-1)],[3,(-3),1],[4,(-6),4,(-1)]]:List LI) (a01 x) [])) none
def b9B:FSem:=⟨[.v QI],[.v QL],b1q⟩
def a3E(s:(LI×(Int×Z61))):Option ((LI×(Int×Z61)) ⊕ Z81):=(fun(a:Int)(b:LI)(c d e:Int)(f:LI)=>cond (decide (e<a)) ((m0k b e).bind fun x7=>cond ((decide (0≤(wrap .i64 ((wrap .i64 ((f.length:Int)-1))-e))))&&(decide ((wrap .i64 ((wrap .i64 ((f.length:Int)-1))-e))<(f.length:Int)))) (some (.inl (s.1,a,b,c,wrap .i64 (d+(wrap .i64 (x7*(a02 f (a01 (wrap .i64 ((wrap .i64 ((f.length:Int)-1))-e))) 0)))),wrap .i64 (e+1),f,()))) none) (some (.inr (s.1,a,b,c,d,f,())))) s.2.1 s.2.2.1 s.2.2.2.1 s.2.2.2.2.1 s.2.2.2.2.2.1 s.2.2.2.2.2.2.1
def a5s(s:(LI×(Int×Z28))):Option ((LI×(Int×Z28)) ⊕ Z45):=(fun(a:Int)(b:LI)=>cond (decide (a<(s.1.length:Int))) ((m0k s.1 a).bind fun x6=>(y0s a3E (s.1,s.2.1,s.2.2.1,a,x6,0,b,())).bind fun w8=>(a2A w8.2.2.2.2.1).bind fun y9=>cond (!y9) (some (.inr (Sum.inr ((6,[],()))))) (cond (lim ((a03 w8.2.2.2.2.2.1)+1)) (some (.inl (w8.1,w8.2.1,w8.2.2.1,wrap .i64 (w8.2.2.2.1+1),a04 w8.2.2.2.2.2.1 [w8.2.2.2.2.1],()))) none)) (some (.inr (Sum.inl (b,()))))) s.2.2.2.1 s.2.2.2.2.1
def a7e(x:Z11):Option (LI×Int):=(show Option Z48 from cond (decide (x.2.2<0)) (some (x.1,x.2.1,x.2.2,true,())) (cond (decide (x.2.2 > 4)) (some (x.1,x.2.1,x.2.2,true,())) (some (x.1,x.2.1,x.2.2,(x.1.length:Int) != x.2.2,())))).bind fun z1=>cond z1.2.2.2.1 (some ([],1)) ((show Option Z48 from(a0R z1.1).bind fun y2=>cond (!y2) (some (z1.1,z1.2.1,z1.2.2.1,true,())) ((a0R z1.2.1).bind fun y3=>some (z1.1,z1.2.1,z1.2.2.1,!y3,()))).bind fun z4=>cond z4.2.2.2.1 (some ([],6)) (cond (lim (0+(a03 z4.1))) ((b1q z4.2.2.1).bind fun y5=>(y0s a5s (z4.2.1,z4.2.2.1,y5,0,a04 [] z4.1,())).bind fun w10=>match w10 with |.inl a11=>some (a11.1,0) |.inr b12=>some (b12.2.1,b12.1)) none))
def b6b:FSem:=⟨[.v QL,.v QL,.v QI],[.o QI,.v QI],a7e⟩
def d1g:Hints:=⟨[(250,[.sv 1 QL,2,.sv 9 QL,10,.own 8 8 QI],[Qe 0 [.own 8 8 QI],Qr [7,.own 6 6 QI]]),(64074,[.sv 1 QL,2,.sv 9 QL,10,11,12,.own 8 8 QI],[Qe 2 [.sv 1 QL,2,.sv 9 QL,10,11,.own 8 8 QI]])],[(6,[Qn [.sv 0 QL,.sv 1 QL,2,.sv 24 .bool]]),(14,[Qn [.sv 0 QL,.sv 1 QL,2,.sv 32 .bool]])],[(13,[.v,.v,.v,.v,.v,.q,.q,.q,.v,.v,.v,.q,.q,.v,.x,.x])]⟩
def a4O(s:Z67):Option (Z67 ⊕ Z45):=(fun(a b:Int)(c:LI)=>cond (decide (b<(s.1.length:Int))) ((m0k s.1 b).bind fun x6=>(a3Z (c,s.2.1,a)).bind fun y7=>(a2A (wrap .i64 (x6+y7))).bind fun y8=>cond (!y8) (some (.inr (Sum.inr ((6,[],()))))) (cond (lim ((a03 c)+1)) (some (.inl (s.1,s.2.1,a,wrap .i64 (b+1),a04 c [wrap .i64 (x6+y7)],()))) none)) (some (.inr (Sum.inl (c,()))))) s.2.2.1 s.2.2.2.1 s.2.2.2.2.1
def a4F(x:(LI×Z11)):Option (LI×Int):=(show Option Z73 from(a2T (x.2.2.1,x.2.2.2)).bind fun y1=>cond (!y1) (some (x.1,x.2.1,x.2.2.1,x.2.2.2,true,())) (some (x.1,x.2.1,x.2.2.1,x.2.2.2,(x.1.length:Int) != (x.2.2.1.length:Int),()))).bind fun z2=>cond z2.2.2.2.2.1 (some ([],1)) ((show Option Z73 from(a0R z2.1).bind fun y3=>cond (!y3) (some (z2.1,z2.2.1,z2.2.2.1,z2.2.2.2.1,true,())) ((a0R z2.2.1).bind fun y4=>some (z2.1,z2.2.1,z2.2.2.1,z2.2.2.2.1,!y4,()))).bind fun z5=>cond z5.2.2.2.2.1 (some ([],6)) (cond (lim (0+(a03 z5.1))) ((y0s a4O (z5.2.1,z5.2.2.1,z5.2.2.2.1,0,a04 [] z5.1,())).bind fun w9=>match w9 with |.inl a10=>some (a10.1,0) |.inr b11=>some (b11.2.1,b11.1)) none))
def b5p:FSem:=⟨[.v QL,.v QL,.v QL,.v QI],[.o QI,.v QI],a4F⟩
def d1h:Hints:=⟨[(250,[.sv 1 QL,.sv 2 QL,3,11,.own 10 10 QI],[Qe 0 [.own 10 10 QI],Qr [9,.own 8 8 QI]])],[(6,[Qn [.sv 0 QL,.sv 1 QL,.sv 2 QL,3,.sv 23 .bool]]),(14,[Qn [.sv 0 QL,.sv 1 QL,.sv 2 QL,3,.sv 31 .bool]])],[(9,[.v,.v,.v,.v,.q,.v,.v,.q,.x,.x])]⟩
def a5P(s:Z68):Option (Z68 ⊕ Z45):=(fun(a:Int)(b c:LI)=>cond (decide (a<(s.1.length:Int))) ((m0k s.1 a).bind fun x3=>(a5o (b,s.2.1,c)).bind fun y4=>(a2A (wrap .i64 (x3+y4))).bind fun y5=>cond (!y5) (some (.inr (Sum.inr ((6,[],()))))) (cond (lim ((a03 b)+1)) (some (.inl (s.1,s.2.1,wrap .i64 (a+1),a04 b [wrap .i64 (x3+y4)],c,()))) none)) (some (.inr (Sum.inl (b,()))))) s.2.2.1 s.2.2.2.1 s.2.2.2.2.1
def a7L(x:Z12):Option (LI×Int):=(a4W (x.2.1,x.2.2)).bind fun y1=>cond (!y1) (some ([],1)) ((a0R x.1).bind fun y2=>cond (!y2) (some ([],6)) ((y0s a5P (x.1,x.2.1,0,[],x.2.2,())).bind fun w6=>match w6 with |.inl a7=>some (a7.1,0) |.inr b8=>some (b8.2.1,b8.1)))
def b7o:FSem:=⟨[.v QL,.v QI,.v (.arr 3 QI)],[.o QI,.v QI],a7L⟩
def d1i:Hints:=⟨[(250,[.sv 0 QL,1,9,.own 8 8 QI,.vp 5 (.arr 3 QI)],[Qe 0 [.own 8 8 QI],Qr [7,.own 6 6 QI]])],[],[(9,[.v,.v,.v,.v,.q,.v,.v,.q,.x,.x])]⟩
def a3F(s:c2a):Option (c2a ⊕ (Z65 ⊕ Z3)):=(fun(a:Int)(b:LI)=>cond (decide (a<(b.length:Int))) (cond ((decide (0≤a))&&(decide (a<(b.length:Int)))) ((a2C s.2.2.2.2.1).bind fun y5=>(a2A (wrap .i64 ((a02 b (a01 a) 0)+y5.1))).bind fun y6=>cond (!y6) (some (.inr (Sum.inr ((6,[],()))))) (cond ((decide (0≤a))&&(decide (a<(b.length:Int)))) ((a4a (y5.2,wrap .i64 ((a02 b (a01 a) 0)+y5.1))).bind fun y7=>some (.inl (s.1,s.2.1,wrap .i64 (a+1),a05 b (a01 a) (wrap .i64 ((a02 b (a01 a) 0)+y5.1)),y7,()))) none)) none) (some (.inr (Sum.inl (s.1,s.2.1,b,()))))) s.2.2.1 s.2.2.2.1
def a5t(s:Z65):Option (Z65 ⊕ Z45):=cond (decide (s.2.1≥0)) ((m0k s.1 s.2.1).bind fun x3=>(a5p x3).bind fun y4=>(y0s a3F (s.1,s.2.1,0,s.2.2.1,y4.1,())).bind fun w8=>match w8 with |.inl a9=>some (.inl (a9.1,wrap .i64 (a9.2.1-1),a9.2.2.1,())) |.inr b10=>some (.inr (Sum.inr ((b10.1,b10.2.1,()))))) (some (.inr (Sum.inl (s.2.2.1,()))))
def a7f(x:Z27):Option (LI×Int):=(a4u x.2).bind fun y1=>cond (!y1) (some ([],1)) ((a0R x.1).bind fun y2=>cond (!y2) (some ([],6)) (cond (lim (0+(a03 x.1))) ((y0s a5t (x.2,wrap .i64 ((x.2.length:Int)-1),a04 [] x.1,())).bind fun w11=>match w11 with |.inl a12=>some (a12.1,0) |.inr b13=>some (b13.2.1,b13.1)) none))
def b6c:FSem:=⟨[.v QL,.v (.list false Q4)],[.o QI,.v QI],a7f⟩
def d1j:Hints:=⟨[(250,[.sv 1 (.list false Q4),7,.own 6 6 QI],[Qe 0 [.own 6 6 QI],Qr [5,.own 4 4 QI]]),(32038,[.sv 1 (.list false Q4),7,10,.own 6 6 QI,.box 1033 Q9,Qp 8 1033],[Qe 2 [.sv 1 (.list false Q4),7,.own 6 6 QI],Qr [5,.own 4 4 QI]])],[],[(13,[.r [6,42],.v,.r [6,44],.r [6,45],.q,.w [47,1033,1047],.x,.x])]⟩
def b1b(x:a1h):Option (LI×Int):=cond (x.1==2) ((a7e (x.2.2.2.2.2.2.2.2.1,x.2.2.2.2.2.2.2.2.2.2.1,x.2.2.1)).bind fun y1=>some (y1.1,y1.2)) (cond (x.1==3) ((a4F (x.2.2.2.2.2.2.2.2.1,x.2.2.2.2.2.2.2.2.2.2.1,x.2.2.2.2.2.1,x.2.2.2.1)).bind fun y2=>some (y2.1,y2.2)) (cond (x.1==4) ((a4F (x.2.2.2.2.2.2.2.2.1,x.2.2.2.2.2.2.2.2.2.2.1,x.2.2.2.2.2.1,x.2.2.2.1)).bind fun y3=>cond (y3.2 != 0) (some ([],y3.2)) ((a7L (y3.1,x.2.2.2.2.1,x.2.2.2.2.2.2.1)).bind fun y4=>some (y4.1,y4.2))) (cond (x.1==5) ((a7f (x.2.2.2.2.2.2.2.2.2.2.1,x.2.2.2.2.2.2.2.1)).bind fun y5=>some (y5.1,y5.2)) (some (x.2.2.2.2.2.2.2.2.1,0)))))
def c2E:FSem:=⟨[.v Q19],[.v QL,.v QI],b1b⟩
def b1c(s:Z41):Option (Z41 ⊕ Z45):=(fun(a:LI)(b c:Int)(d:LI)=>cond (decide (c<(a.length:Int))) ((show Option Z62 from(m0k a c).bind fun x2=>(a2A x2).bind fun y3=>cond (!y3) (some (a,b,c,true,d,())) ((m0k a c).bind fun x4=>cond (decide ((wrap .u64 b)<0)) none ((a2A (A0n .i64 x4 (wrap .u64 b))).bind fun y5=>some (a,b,c,!y5,d,())))).bind fun z6=>cond z6.2.2.2.1 (some (.inr (Sum.inr ((6,[],()))))) ((m0k z6.1 z6.2.2.1).bind fun x7=>cond (decide ((wrap .u64 z6.2.1)<0)) none (cond (lim ((a03 z6.2.2.2.2.1)+1)) (some (.inl (z6.1,z6.2.1,wrap .i64 (z6.2.2.1+1),a04 z6.2.2.2.2.1 [A0n .i64 x7 (wrap .u64 z6.2.1)],()))) none))) (some (.inr (Sum.inl (d,()))))) s.1 s.2.1 s.2.2.1 s.2.2.2.1
def b4r(x:(LI×Int)):Option (LI×Int):=(show Option Z18 from cond (decide (x.2<0)) (some (x.1,x.2,true,())) (some (x.1,x.2,decide (x.2 > 30),()))).bind fun z1=>cond z1.2.2.1 (some ([],1)) ((y0s b1c (z1.1,z1.2.1,0,[],())).bind fun w8=>match w8 with |.inl a9=>some (a9.1,0) |.inr b10=>some (b10.2.1,b10.1))
def c6h:FSem:=⟨[.v QL,.v QI],[.o QI,.v QI],b4r⟩
def d1k:Hints:=⟨[(122,[.sv 0 QL,1,7,.own 6 6 QI],[Qe 0 [.own 6 6 QI],Qr [5,.own 4 4 QI]])],[(6,[Qn [.sv 0 QL,1,.sv 13 .bool]]),(3912,[Qn [.sv 0 QL,1,7,.sv 36 .bool,.own 6 6 QI]])],[]⟩
def a5u(s:c2h):Option (c2h ⊕ (LI×Unit)):=(fun(a:Int)(b:LI)(c:a1h)=>cond (decide (a<s.1)) ((m0k c.2.2.2.2.2.2.2.2.1 0).bind fun x11=>cond ((decide (0≤a))&&(decide (a<(b.length:Int)))) (some (.inl (s.1,wrap .i64 (a+1),a05 b (a01 a) x11,c,()))) none) (some (.inr (b,())))) s.2.1 s.2.2.1 s.2.2.2.1
def a8Z(x:a7j):Option (LI×Bool):=(show Option b3J from cond (decide (x.2<1)) (some (x.2,true,x.1,())) (cond (decide (x.2 > 4096)) (some (x.2,true,x.1,())) (cond (decide (x.1.1<0)) (some (x.2,true,x.1,())) (cond (decide (x.1.1 > 5)) (some (x.2,true,x.1,())) ((a9V x.1).bind fun y1=>(a6L (x.1,y1)).bind fun y2=>cond (!y2) (some (x.2,true,x.1,())) (cond (decide (x.1.2.1<0)) (some (x.2,true,x.1,())) (some (x.2,decide (x.1.2.1 > 30),x.1,())))))))).bind fun z3=>cond z3.2.1 (some ([],false)) ((a8e (z3.2.2.1,z3.1)).bind fun y4=>(show Option c2f from cond (decide (y4<0)) (some (z3.1,y4,true,z3.2.2.1,())) (cond ((z3.2.2.1.2.2.2.2.2.2.2.2.1.length:Int) != y4) (some (z3.1,y4,true,z3.2.2.1,())) ((a0R z3.2.2.1.2.2.2.2.2.2.2.2.1).bind fun y5=>cond (!y5) (some (z3.1,y4,true,z3.2.2.1,())) ((a0R z3.2.2.1.2.2.2.2.2.2.2.2.2.2.1).bind fun y6=>some (z3.1,y4,!y6,z3.2.2.1,()))))).bind fun z7=>cond z7.2.2.1 (some ([],false)) ((show Option b3J from(a3S z7.2.2.2.1.1).bind fun y8=>cond y8 (cond ((z7.2.2.2.1.2.2.2.2.2.2.2.2.2.2.1.length:Int) != (wrap .i64 (z7.1-z7.2.1))) (some (z7.1,true,z7.2.2.2.1,())) ((a4Y (z7.2.2.2.1.2.2.2.2.2.2.2.2.2.1,z7.1,z7.2.1)).bind fun y9=>some (z7.1,!y9,z7.2.2.2.1,()))) (some (z7.1,false,z7.2.2.2.1,()))).bind fun z10=>cond z10.2.1 (some ([],false)) (cond (z10.2.2.1.1==0) (cond ((decide (0≤z10.1))&&((decide (z10.1≤z10.1))&&(lim (a01 z10.1)))) ((y0s a5u (z10.1,0,a00 (a01 z10.1) 0,z10.2.2.1,())).bind fun w12=>some (w12.1,true)) none) ((b1b z10.2.2.1).bind fun y13=>cond (y13.2 != 0) (some ([],false)) ((b4r (y13.1,z10.2.2.1.2.1)).bind fun y14=>some (y14.1,y14.2==0))))))
def b9C:FSem:=⟨[.v Q19,.v QI],[.o QI,.v .bool],a8Z⟩
def d1l:Hints:=⟨[(8106,[1,8,.own 7 7 QI,.vp 2 Q19],[Qe 0 [.own 7 7 QI]])],[(6,[Qn [1,.sv 45 .bool,.vp 2 Q19]]),(30,[Qn [1,6,.sv 69 .bool,.vp 2 Q19]]),(62,[Qn [1,.sv 89 .bool,.vp 2 Q19]])],[(1,[.x,.x,.x,.x,.x,.x,.x,.x,.x,.x,.x,.x,.x,.x,.x,.x,.x,.v,.v,.v,.x,.x,.x,.x,.x,.x,.x,.x,.x,.x,.x,.x,.x])]⟩
def a9a(x:a7j):Option Bool:=(a8Z (x.1,x.2)).bind fun y1=>some y1.2
def b9D:FSem:=⟨[.v Q19,.v QI],[.v .bool],a9a⟩
def a5v(s:Z37):Option (Z37 ⊕ Z9):=(fun(a:Int)(b:LI×Unit)=>cond (decide (a≥0)) (cond (decide ((wrap .u64 a)<0)) none (cond (lim ((a03 b.1)+1)) (some (.inl (s.1,wrap .i64 (a-1),(a04 b.1 [wrap .u8 (bits .u64 .and (A0o .u64 s.1 (wrap .u64 a)) 1)],b.2),()))) none)) (some (.inr (b,())))) s.2.1 s.2.2.1
def a0K(x:((LI×Unit)×(Int×Int))):Option Z3:=(show Option (Int×Int×Bool×Z9)from cond (decide (x.2.2<0)) (some (x.2.1,x.2.2,true,x.1,())) (cond (decide (x.2.2 > 64)) (some (x.2.1,x.2.2,true,x.1,())) (cond (decide (x.2.2<64)) (cond (decide ((wrap .u64 x.2.2)<0)) none (some (x.2.1,x.2.2,(A0o .u64 x.2.1 (wrap .u64 x.2.2)) != 0,x.1,()))) (some (x.2.1,x.2.2,false,x.1,()))))).bind fun z1=>cond z1.2.2.1 (some (1,z1.2.2.2.1)) ((y0s a5v (z1.1,wrap .i64 (z1.2.1-1),z1.2.2.2.1,())).bind fun w2=>some (0,w2.1))
def b6d:FSem:=⟨[.r false (.b Q1),.v QU,.v QI],[.v QI],a0K⟩
def d1m:Hints:=⟨[(58,[.sv 1 QU,7,.box pinned Q1,Qp 0 pinned],[Qe 0 [.box pinned Q1]])],[(6,[Qn [.sv 1 QU,2,.sv 24 .bool,.box pinned Q1,Qp 0 pinned]])],[]⟩
def a5Q(s:(LI×Z37)):Option ((LI×Z37) ⊕ Z9):=cond (decide (s.2.2.1<(s.1.length:Int))) ((m0k s.1 s.2.2.1).bind fun x2=>cond (decide ((wrap .u64 s.2.1)<0)) none ((a0K (s.2.2.2.1,bits .u64 .and (wrap .u64 x2) (wrap .u64 ((A0n .u64 1 (wrap .u64 s.2.1))-1)),s.2.1)).bind fun y3=>some (.inl (s.1,s.2.1,wrap .i64 (s.2.2.1+1),y3.2,())))) (some (.inr (s.2.2.2.1,())))
def a2E(x:((LI×Unit)×(LI×Int))):Option (LI×Unit):=(y0s a5Q (x.2.1,x.2.2,0,x.1,())).bind fun w4=>some w4.1
def b7p:FSem:=⟨[.r false (.b Q1),.v QL,.v QI],[],a2E⟩
def d1n:Hints:=⟨[(6,[.sv 1 QL,2,6,.box pinned Q1,Qp 0 pinned],[Qe 0 [.box pinned Q1]])],[],[]⟩
def a5w(x:((LI×Unit)×a1h)):Option (LI×Unit):=(a0K (x.1,wrap .u64 (wrap .i64 ((x.2.2.2.2.2.2.1.length:Int)-1)),5)).bind fun y1=>(a0K (y1.2,wrap .u64 x.2.2.2.2.1,4)).bind fun y2=>(a6s x.2.2.2.2.2.2.1).bind fun y3=>(a0K (y2.2,wrap .u64 y3,5)).bind fun y4=>(a2E (y4.2,x.2.2.2.2.2.2.1,y3)).bind fun y5=>some y5
def b6e:FSem:=⟨[.r false (.b Q1),.v Q19],[],a5w⟩
def a4g(s:Z37):Option (Z37 ⊕ Z9):=cond (decide (s.2.1<s.1)) (cond (lim ((a03 s.2.2.1.1)+1)) (some (.inl (s.1,wrap .i64 (s.2.1+1),(a04 s.2.2.1.1 [0],s.2.2.1.2),()))) none) (some (.inr (s.2.2.1,())))
def a3e(x:((LI×Unit)×Int)):Option Z3:=(show Option (Int×Bool×Z9)from cond (decide (x.2<0)) (some (x.2,true,x.1,())) (some (x.2,decide (x.2 > 4096),x.1,()))).bind fun z1=>cond z1.2.1 (some (1,z1.2.2.1)) ((y0s a4g (z1.1,0,z1.2.2.1,())).bind fun w2=>cond (lim ((a03 w2.1.1)+1)) (some (0,a04 w2.1.1 [1],w2.1.2)) none)
def b4I:FSem:=⟨[.r false (.b Q1),.v QI],[.v QI],a3e⟩
def d1o:Hints:=⟨[(58,[1,5,.box pinned Q1,Qp 0 pinned],[Qe 0 [.box pinned Q1,Qp 0 pinned]])],[(6,[Qn [1,.sv 11 .bool,.box pinned Q1,Qp 0 pinned]])],[]⟩
def a5x(s:(Int×(LI×Z23))):Option ((Int×(LI×Z23)) ⊕ Z9):=(fun(a:Int)(b:LI)(c:Int)(d:LI×Unit)=>cond (decide (c<(b.length:Int))) ((m0k b c).bind fun x4=>(b0G x4).bind fun y5=>cond (decide ((wrap .u64 a)<0)) none (cond (decide ((wrap .i64 (A0o .u64 y5 (wrap .u64 a)))<32)) ((a3e (d,wrap .i64 (A0o .u64 y5 (wrap .u64 a)))).bind fun y6=>cond (decide ((wrap .u64 a)<0)) none ((a0K (y6.2,bits .u64 .and y5 (wrap .u64 ((A0n .u64 1 (wrap .u64 a))-1)),a)).bind fun y7=>some (.inl (a,b,wrap .i64 (c+1),y7.2,())))) ((a3e (d,32)).bind fun y8=>(a0K (y8.2,y5,32)).bind fun y9=>some (.inl (a,b,wrap .i64 (c+1),y9.2,()))))) (some (.inr (d,())))) s.1 s.2.1 s.2.2.1 s.2.2.2.1
def a9b(x:((LI×Unit)×(Int×LI))):Option Z3:=(show Option (Int×(LI×(Bool×Z9)))from(a2D x.2.1).bind fun y1=>cond (!y1) (some (x.2.1,x.2.2,true,x.1,())) ((a0R x.2.2).bind fun y2=>some (x.2.1,x.2.2,!y2,x.1,()))).bind fun z3=>cond z3.2.2.1 (some (1,z3.2.2.2.1)) ((y0s a5x (z3.1,z3.2.1,0,z3.2.2.2.1,())).bind fun w10=>some (0,w10.1))
def b9E:FSem:=⟨[.r false (.b Q1),.v QI,.v QL],[.v QI],a9b⟩
def d1p:Hints:=⟨[(58,[1,.sv 2 QL,7,.box pinned Q1,Qp 0 pinned],[Qe 0 [.box pinned Q1]])],[(6,[Qn [1,.sv 2 QL,.sv 17 .bool,.box pinned Q1,Qp 0 pinned]])],[]⟩
def a3r(s:(LI×(Int×(Int×(LI×((LI×Unit)×Z19)))))):Option ((LI×(Int×(Int×(LI×((LI×Unit)×Z19))))) ⊕ Z9):=(fun(a:LI)(b c:Int)(d:LI)(e:LI×Unit)(f:Z3)=>cond (decide (c<(d.length:Int))) (cond ((decide (0≤c))&&(decide (c<(d.length:Int)))) (cond ((decide (0≤(wrap .i64 (b+(a02 d (a01 c) 0)))))&&(decide ((wrap .i64 (b+(a02 d (a01 c) 0)))≤(a.length:Int)))) (cond ((decide (0≤b))&&(decide (b≤((a01 (wrap .i64 (b+(a02 d (a01 c) 0))):Nat):Int)))) ((m0k f.2.1 c).bind fun x4=>(a0K (e,wrap .u64 x4,5)).bind fun y5=>(show Option (LI×(Int×(Int×(LI×((LI×Unit)×Z19)))))from(m0k f.2.1 c).bind fun x6=>cond (x6==31) ((a6s (a07 (a01 b) (a06 (a01 (wrap .i64 (b+(a02 d (a01 c) 0)))) a))).bind fun y7=>(a0K (y5.2,wrap .u64 y7,5)).bind fun y8=>(a2E (y8.2,a07 (a01 b) (a06 (a01 (wrap .i64 (b+(a02 d (a01 c) 0)))) a),y7)).bind fun y9=>some (a,b,c,d,y9,f,())) ((m0k f.2.1 c).bind fun x10=>(a9b (y5.2,x10,a07 (a01 b) (a06 (a01 (wrap .i64 (b+(a02 d (a01 c) 0)))) a))).bind fun y11=>some (a,b,c,d,y11.2,f,()))).bind fun z12=>cond ((decide (0≤z12.2.2.1))&&(decide (z12.2.2.1<(z12.2.2.2.1.length:Int)))) (some (.inl (z12.1,wrap .i64 (z12.2.1+(a02 z12.2.2.2.1 (a01 z12.2.2.1) 0)),wrap .i64 (z12.2.2.1+1),z12.2.2.2.1,z12.2.2.2.2.1,z12.2.2.2.2.2.1,()))) none) none) none) none) (some (.inr (e,())))) s.1 s.2.1 s.2.2.1 s.2.2.2.1 s.2.2.2.2.1 s.2.2.2.2.2.1
def a8o(x:((LI×Unit)×Z58)):Option Z3:=(a2c (x.2.1,x.2.2.1,x.2.2.2.1,x.2.2.2.2)).bind fun y1=>cond (y1==0) (some (1,x.1)) ((a0K (x.1,wrap .u64 x.2.1.1,4)).bind fun y2=>(a2W (x.2.1.1,x.2.2.1,x.2.2.2.1)).bind fun y3=>(y0s a3r (x.2.2.2.2,0,0,y3,y2.2,x.2.1,())).bind fun w13=>some (0,w13.1))
def b8u:FSem:=⟨[.r false (.b Q1),.v Q7,.v QI,.v QI,.v QL],[.v QI],a8o⟩
def d1q:Hints:=⟨[(250,[.sv 4 QL,12,13,.own 11 11 QI,.box pinned Q1,Qp 0 pinned,.vp 6 Q7],[Qe 0 [.box pinned Q1]])],[(16019,[Qn [.sv 4 QL,12,13,.own 11 11 QI,.box pinned Q1,Qp 0 pinned,.vp 6 Q7]])],[]⟩
end Go.Ab
namespace Go.Ab
open IntKind(wrap)
open Go.Proofs
set_option maxRecDepth 100000
set_option linter.unusedVariables false
def a7g(s:(Int×c2j)):Option ((Int×c2j) ⊕ c2j):=(fun(a:Int)(b:LI×Unit)(c:a1h)=>cond (decide (a<(c.2.2.2.2.2.2.2.1.length:Int))) ((m0k c.2.2.2.2.2.2.2.1 a).bind fun x12=>(a0K (b,wrap .u64 (wrap .i64 (x12.1-1)),5)).bind fun y13=>(m0k c.2.2.2.2.2.2.2.1 a).bind fun x14=>(a0K (y13.2,wrap .u64 x14.2.1,4)).bind fun y15=>some (.inl (s.1,s.2.1,wrap .i64 (a+1),y15.2,c,()))) (some (.inr (s.1,s.2.1,b,c,())))) s.2.2.1 s.2.2.2.1 s.2.2.2.2.1
def a9c(x:((LI×Unit)×a7j)):Option Z3:=(a9a (x.2.1,x.2.2)).bind fun y1=>cond (!y1) (some (1,x.1)) ((a6s x.2.1.2.2.2.2.2.2.2.2.1).bind fun y2=>(a0K (x.1,wrap .u64 x.2.1.1,3)).bind fun y3=>(a0K (y3.2,wrap .u64 x.2.1.2.1,5)).bind fun y4=>(a0K (y4.2,wrap .u64 y2,5)).bind fun y5=>(show Option c2j from cond (x.2.1.1==2) ((a0K (y5.2,wrap .u64 x.2.1.2.2.1,3)).bind fun y6=>some (x.2.2,y2,y6.2,x.2.1,())) (cond (x.2.1.1==3) ((a5w (y5.2,x.2.1)).bind fun y7=>some (x.2.2,y2,y7,x.2.1,())) (cond (x.2.1.1==4) ((a0K (y5.2,wrap .u64 (wrap .i64 (x.2.1.2.2.2.2.1-1)),10)).bind fun y8=>(a2E (y8.2,a06 3 x.2.1.2.2.2.2.2.2.1,8)).bind fun y9=>(a5w (y9,x.2.1)).bind fun y10=>some (x.2.2,y2,y10,x.2.1,())) (cond (x.2.1.1==5) ((a0K (y5.2,wrap .u64 (x.2.1.2.2.2.2.2.2.2.1.length:Int),2)).bind fun y11=>(y0s a7g (x.2.2,y2,0,y11.2,x.2.1,())).bind fun w16=>some (w16.1,w16.2.1,w16.2.2.1,w16.2.2.2.1,())) (some (x.2.2,y2,y5.2,x.2.1,())))))).bind fun z17=>(a2E (z17.2.2.1,z17.2.2.2.1.2.2.2.2.2.2.2.2.1,z17.2.1)).bind fun y18=>(a3S z17.2.2.2.1.1).bind fun y19=>cond y19 ((a8o (y18,z17.2.2.2.1.2.2.2.2.2.2.2.2.2.1,z17.1,(z17.2.2.2.1.2.2.2.2.2.2.2.2.1.length:Int),z17.2.2.2.1.2.2.2.2.2.2.2.2.2.2.1)).bind fun y20=>some (0,y20.2)) (some (0,y18)))
def b9F:FSem:=⟨[.r false (.b Q1),.v Q19,.v QI],[.v QI],a9c⟩
def d1r:Hints:=⟨[(2086902,[2,7,8,.box pinned Q1,Qp 0 pinned,.vp 4 Q19],[Qe 1 [2,7,.box pinned Q1,Qp 0 pinned,.vp 4 Q19]])],[(127,[Qn [2,7,.box pinned Q1,Qp 0 pinned,.vp 4 Q19]])],[]⟩
def a9d(x:(LI×Unit)):Option Z3:=some ((x.1.length:Int),x)
def b6f:FSem:=⟨[.r false (.b Q1)],[.v QI],a9d⟩
def a8p(x:a7j):Option Int:=(a9c (([],()),x.1,x.2)).bind fun y1=>(a9d y1.2).bind fun y2=>some y2.1
def b8v:FSem:=⟨[.v Q19,.v QI],[.v QI],a8p⟩
def a4G(s:(LI×(Int×Int×a7i×a9x))):Option ((LI×(Int×Int×a7i×a9x)) ⊕ a9x):=(fun(a:LI)(b c:Int)(d:a7i)(e f:a1h)=>cond (decide (c<(d.length:Int))) (cond ((decide (0≤c))&&(decide (c<(d.length:Int)))) (cond ((decide (0≤c))&&(decide (c<(d.length:Int)))) ((a8n ((a02 d (a01 c) (0,0,0,0,0,[],a00 3 0,[],[],(0,[],()),[],())).1,a,a02 d (a01 c) (0,0,0,0,0,[],a00 3 0,[],[],(0,[],()),[],()))).bind fun y6=>cond (y6.2 != 0) (some (.inl (a,b,wrap .i64 (c+1),d,e,f,()))) ((a8p (y6.1,(a.length:Int))).bind fun y7=>(show Option (LI×(Int×Int×Int×Bool×a7i×c2l))from cond (b==0) (some (a,b,c,y7,true,d,e,f,y6.1,())) (some (a,b,c,y7,decide (y7<b),d,e,f,y6.1,()))).bind fun z8=>cond z8.2.2.2.2.1 (some (.inl (z8.1,z8.2.2.2.1,wrap .i64 (z8.2.2.1+1),z8.2.2.2.2.2.1,z8.2.2.2.2.2.2.1,z8.2.2.2.2.2.2.2.2.1,()))) (some (.inl (z8.1,z8.2.1,wrap .i64 (z8.2.2.1+1),z8.2.2.2.2.2.1,z8.2.2.2.2.2.2.1,z8.2.2.2.2.2.2.2.1,()))))) none) none) (some (.inr (e,f,())))) s.1 s.2.1 s.2.2.1 s.2.2.2.1 s.2.2.2.2.1 s.2.2.2.2.2.1
def a8q(x:(LI×Int)):Option a7j:=(show Option (LI×b3J)from cond (decide ((x.1.length:Int)<1)) (some (x.1,x.2,true,(0,0,0,0,0,[],a00 3 0,[],[],(0,[],()),[],()),())) (cond (decide ((x.1.length:Int) > 4096)) (some (x.1,x.2,true,(0,0,0,0,0,[],a00 3 0,[],[],(0,[],()),[],()),())) (cond (decide (x.2<0)) (some (x.1,x.2,true,(0,0,0,0,0,[],a00 3 0,[],[],(0,[],()),[],()),())) (some (x.1,x.2,decide (x.2 > 3),(0,0,0,0,0,[],a00 3 0,[],[],(0,[],()),[],()),()))))).bind fun z1=>cond z1.2.2.1 (some ((0,0,0,0,0,[],a00 3 0,[],[],(0,[],()),[],()),1)) ((a0R z1.1).bind fun y2=>cond (!y2) (some ((0,0,0,0,0,[],a00 3 0,[],[],(0,[],()),[],()),6)) ((a5E z1.1).bind fun y3=>(b0E (z1.1,y3)).bind fun y4=>(a9T (y4.1,z1.2.1)).bind fun y5=>(y0s a4G (z1.1,0,0,y5,z1.2.2.2.1,(0,0,0,0,0,[],a00 3 0,[],[],(0,[],()),[],()),())).bind fun w9=>some (w9.2.1,0)))
def b8w:FSem:=⟨[.v QL,.v QI],[.v Q19,.v QI],a8q⟩
def H20:Hints:=⟨[(2042,[.sv 0 QL,10,11,.own 8 8 Q19,.box 4 Q19,.box 9 Q19,Qp 4 4,Qp 9 9],[Qe 0 [.box 4 Q19,.box 9 Q19,Qp 4 4,Qp 9 9]])],[(6,[Qn [.sv 0 QL,1,.sv 30 .bool,.box 4 Q19,Qp 4 4]]),(261415,[Qn [.sv 0 QL,10,11,14,.sv 78 .bool,.own 8 8 Q19,.box 4 Q19,.box 9 Q19,.box 12 Q19,Qp 4 4,Qp 9 9,Qp 12 12]])],[(12,[.q,.v,.q,.q,.q,.v,.q,.v,.q,.q,.v,.v,.v,.v,.q,.w [0,12],.x])]⟩
def a4c(s:(LI×Z51)):Option ((LI×Z51) ⊕ Z3):=(fun(a b c:Int)(d:LI)=>cond (decide (c<290)) (cond (b==0) none ((m0k s.1 (a09 c b)).bind fun x3=>cond (b==0) none (cond (lim ((a03 d)+1)) (some (.inl (s.1,s.2.1,a,b,wrap .i64 (c+1),a04 d [wrap .i64 ((wrap .i64 x3)+(wrap .i64 ((wrap .i64 (a08 c b))*(wrap .i64 (a09 s.2.1 5)))))],()))) none))) (some (.inr (a,d,())))) s.2.2.1 s.2.2.2.1 s.2.2.2.2.1 s.2.2.2.2.2.1
def a9z(x:Z2):Option Bool:=(b2o ()).bind fun y1=>cond (!y1) (some false) ((show Option (LI×Z24)from cond (decide ((x.1.length:Int)<1)) (some (x.1,x.2.1,x.2.2,(x.1.length:Int),true,())) (some (x.1,x.2.1,x.2.2,(x.1.length:Int),decide ((x.1.length:Int) > 40),()))).bind fun z2=>cond z2.2.2.2.2.1 (some true) ((y0s a4c (z2.1,z2.2.1,z2.2.2.1,z2.2.2.2.1,0,[],())).bind fun w4=>(a7H (w4.2.1,bits .i64 .and w4.1 3)).bind fun y5=>(a8q (w4.2.1,bits .i64 .and w4.1 3)).bind fun y6=>(a8C (y5.1,(w4.2.1.length:Int))).bind fun y7=>(a6L (y5.1,y6.1)).bind fun y8=>cond y8 (cond (y5.2==y6.2) (cond (y7.2==0) ((a1H (y7.1,w4.2.1)).bind fun y9=>some y9) (some false)) (some false)) (some false)))
def a9A:FSem:=⟨[.v (.list false (.int .i16)),.v QV,.v QI],[.v .bool],a9z⟩
def H6:Hints:=⟨[(506,[.sv 0 (.list false (.int .i16)),.sv 1 QV,2,7,9,.own 8 8 QI],[Qe 0 [2,.own 8 8 QI]])],[(30,[Qn [.sv 0 (.list false (.int .i16)),.sv 1 QV,2,7,.sv 25 .bool]])],[(10,[.q,.v,.v,.v,.v,.v,.v,.v,.v,.v,.v,.v,.v,.v,.v,.v,.q,.x,.x])]⟩
end Go.Ab
