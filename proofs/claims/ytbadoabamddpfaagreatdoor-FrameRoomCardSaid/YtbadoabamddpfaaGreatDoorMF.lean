/- Part of the proof: QQ. Conditions: as each statement tells. -/
import Derived.KernelRfl
import Derived.Test.YtbadoabamddpfaaGreatDoorME
noncomputable section
set_option linter.unusedSimpArgs false
set_option linter.unusedVariables false
open BitVec renaming ofInt→a02,toNat_ofInt→a27,ofInt_natCast→a44,toNat_or→a47,toNat_ofNat→a51,toNat_and→a83
open Bool renaming and_self→a03,not_false→a18,not_eq_true'→a28,or_eq_true→a33,true_and→a34,eq_false_iff→a77,or_eq_false_iff→a91
open Int renaming eq_ofNat_of_zero_le→a00,cast_ofNat_Int→a09,toNat→a21,natCast_dvd_natCast→a23,tmod→a30,fdiv_eq_ediv_of_nonneg→a32,tmod_eq_emod_of_nonneg→a46,tdiv→a48,natCast_mul→a49,dvd_mul_of_dvd_left→a52,mul_nonneg→a56,toNat_of_nonneg→a70,natCast_nonneg→a74,tdiv_eq_ediv_of_nonneg→a76,mul_fdiv_cancel_left→a79,dvd_add_left→a82,mul_comm→a85,dvd_zero→a98,emod_eq_of_lt→b01,sub_mul→b04,fdiv→b09,natCast_add→b18,natCast_inj→b20
open List renaming replicate→a01,nil_append→a04,drop_eq_getElem_cons→a05,all_cons→a06,getElem_mem→a07,append_eq→a08,length_nil→a17,length_take→a22,getElem?_append_right→a26,append_nil→a29,drop_zero→a31,take_succ_eq_append_getElem→a36,take_length→a37,length→a39,length_singleton→a41,length_drop→a45,getElem?_take→a50,length_eq_zero_iff→a54,flatMap_cons→a57,getElem?_set_self→a58,map_cons→a59,singleton_append→a60,cons_append→a61,mem_of_mem_take→a64,mem_of_mem_drop→a65,getElem?_set_ne→a66,mem_cons_self→a73,mem_singleton→a75,ext_getElem?→a78,drop_length→a81,not_mem_nil→a84,take_of_length_le→a87,eq_nil_or_concat→a89,take→a90,mem_append_left→a92,sum_cons→a93,getElem?_drop→a95,mem_replicate→a96,mem_map→a99,drop→b03,mem_flatMap→b07,flatMap_nil→b08,foldl_cons→b17,foldr_cons→b19,getD→b21
open Nat renaming pow_le_pow_right→a16,two_pow_pos→a20,le_refl→a24,mul_le_mul_right→a35,mod_eq_of_lt→a38,mod_lt→a40,two_pow_add_eq_or_of_lt→a42,lt_trans→a43,pow_succ→a53,mul_le_mul→a55,div_lt_iff_lt_mul→a62,and_two_pow_sub_one_eq_mod→a63,div_le_self→a67,pow_dvd_pow→a68,mul_comm→a69,testBit_two_pow_mul_add→a71,lt_of_le_of_lt→a72,div_eq_of_lt→a80,add_sub_cancel_left→a86,min_eq_left→a88,mul_assoc→a94,add_zero→a97,or_lt_two_pow→b00,add_mod_right→b02,mul_one→b05,lt_of_not_le→b06
open Option renaming bind_eq_some_iff→a19,map_eq_some_iff→a25
namespace Go.Ab
variable {L P R d ks l part r wm:List Int}{a i m n o v w:Nat}{c:List (List Int)}{g k rate sign start warm x:Int}{p:Prt}{s:Sub}{zn:List Nat}{α:Type}
open IntKind(wrap)
theorem b6V{c:List Int}{wd:Nat}(k:wd≤32)(g:c.length<10000):∀(j i:Nat)(L:List Int),i+j=c.length→L.length+64*j<999990000→
  x0r a4V ((wd:Int),c,(c.length:Int),(i:Int),wL L,())=some (wL (a1r wd (c.drop i) L),())
 |0,i,L,hi,_=>by
  obtain rfl:i=c.length:=by omega
  simp_all[a0H,a4V,a1r]
 |j+1,i,L,hi,hb=>by
  have h:i<c.length:=by omega
  have f:=a0R (a0P c[i] wd) wd L;rw[a05 h,a0I (s':=((wd:Int),c,(c.length:Int),((i+1:Nat):Int),wL (a0L (a0P c[i] wd) wd L),())) (by
   simp only[a4V,dlt h,cT,a0B h,oB,b1U (show wd≤63 by omega) (show L.length<999999000 by omega),a0C (show i<1000000 by omega)])]
  exact b6V k g j (i+1) _ (by omega) (by omega)
theorem b8m{t:List Int}{n wd:Int}{s:Sub}(a:t.length=3):∀(j i:Nat)(L:List Int),i+j=3→L.length+64*j<999990000→
  x0r a8C (n,wd,t,(i:Int),wL L,s,())=some (n,wd,wL (a1r 8 (t.drop i) L),s,())
 |0,i,L,hi,_=>by
  obtain rfl:i=t.length:=by omega
  grind[a0H,a8C,a1r]
 |j+1,i,L,hi,hb=>by
  have h:i<t.length:=by omega
  have f:decide ((i:Int)<3)=true:=by grind
  have k:=a0R (a0P t[i] 8) 8 L;have g:a2r (wL L,t[i],(8:Int))=some (wL (a0L (a0P t[i] 8) 8 L)):=b1U (n:=8) (by omega) (by omega);rw[a05 h,a0I (s':=(n,wd,t,((i+1:Nat):Int),wL (a0L (a0P t[i] 8) 8 L),s,())) (by
   simp only[a8C,f,cT,a0B h,oB,g,a0C (show i<1000000 by omega)])]
  exact b8m a j (i+1) _ (by omega) (by omega)
theorem b8n{l:List Int}{n:Int}{wd:Nat}{s:Sub}(k:wd≤32)(g:l.length<10000):∀(j i:Nat)(L:List Int),i+j=l.length→L.length+64*j<999990000→
  x0r a8E (n,(wd:Int),l,(l.length:Int),(i:Int),wL L,s,())=some (n,wL (a1r wd (l.drop i) L),s,())
 |0,i,L,hi,_=>by
  obtain rfl:i=l.length:=by omega
  simp_all[a0H,a8E,a1r]
 |j+1,i,L,hi,hb=>by
  have h:i<l.length:=by omega
  have f:=a0R (a0P l[i] wd) wd L;rw[a05 h,a0I (s':=(n,(wd:Int),l,(l.length:Int),((i+1:Nat):Int),wL (a0L (a0P l[i] wd) wd L),s,())) (by
   simp only[a8E,dlt h,cT,a0B h,oB,b1U (show wd≤63 by omega) (show L.length<999999000 by omega),a0C (show i<1000000 by omega)])]
  exact b8n k g j (i+1) _ (by omega) (by omega)
def a5r(s:Stg)(L:List Int):List Int:=a0L (wrap .u64 s.2.1) 4 (a0L (wrap .u64 (wrap .i64 (s.1-1))) 5 L)
def a2z(st:List Stg)(L:List Int):List Int:=st.foldl (fun L s=>a5r s L) L
theorem b4A(s:Stg)(L:List Int):(a5r s L).length≤L.length+9:=by
 grind[a0R,a5r]
theorem b3s:∀(st:List Stg)(L:List Int),(a2z st L).length≤L.length+9*st.length
 | [],L=>by simp[a2z]
 |s::st,L=>by
  have h:=b4A s L;have g:=b3s st (a5r s L);have e:a2z (s::st) L=a2z st (a5r s L):=rfl
  grind
theorem b5P{st:List Stg}{n wd:Int}{s:Sub}(a:st.length<10000):∀(j i:Nat)(L:List Int),i+j=st.length→L.length+64*j<999990000→
  x0r a8D (n,wd,st,(st.length:Int),(i:Int),wL L,s,())=some (n,wd,wL (a2z (st.drop i) L),s,())
 |0,i,L,hi,_=>by
  obtain rfl:i=st.length:=by omega
  simp_all[a0H,a8D,a2z]
 |j+1,i,L,hi,hb=>by
  have h:i<st.length:=by omega
  have k:=a0R (wrap .u64 (wrap .i64 (st[i].1-1))) 5 L;have b:=b4A st[i] L;have g:a0F (wL L,wrap .u64 (wrap .i64 (st[i].1-1)),(5:Int))=some (a6V (wrap .u64 (wrap .i64 (st[i].1-1))) 5,wL (a0L (wrap .u64 (wrap .i64 (st[i].1-1))) 5 L)):=a2L (n:=5) (by omega) (by omega);have f:a0F (wL (a0L (wrap .u64 (wrap .i64 (st[i].1-1))) 5 L),wrap .u64 st[i].2.1,(4:Int))=some (a6V (wrap .u64 st[i].2.1) 4,wL (a5r st[i] L)):=a2L (n:=4) (by omega) (by omega);rw[a05 h,a0I (s':=(n,wd,st,(st.length:Int),((i+1:Nat):Int),wL (a5r st[i] L),s,())) (by
   simp only[a8D,dlt h,cT,a0B h,oB,g,f,a0C (show i<1000000 by omega)])]
  exact b5P a j (i+1) _ (by omega) (by omega)
def a5s(s:Sub)(L:List Int):List Int:=
 a1r (a0G s.2.2.2.2.2.1) s.2.2.2.2.2.1 (a0L ((a0G s.2.2.2.2.2.1:Nat):Int) 5 (a0L (wrap .u64 s.2.2.2.1) 4 (a0L (wrap .u64 (wrap .i64 (((s.2.2.2.2.2.1.length:Nat):Int)-1))) 5 L)))
theorem b8T{s:Sub}(h:s.2.2.2.2.2.1.length≤40)(L:List Int):(a5s s L).length≤L.length+2000:=by
 unfold a5s;have f:=a0R (wrap .u64 (wrap .i64 (((s.2.2.2.2.2.1.length:Nat):Int)-1))) 5 L;have k:=a0R (wrap .u64 s.2.2.2.1) 4 (a0L (wrap .u64 (wrap .i64 (((s.2.2.2.2.2.1.length:Nat):Int)-1))) 5 L);have a:=a0R ((a0G s.2.2.2.2.2.1:Nat):Int) 5 (a0L (wrap .u64 s.2.2.2.1) 4 (a0L (wrap .u64 (wrap .i64 (((s.2.2.2.2.2.1.length:Nat):Int)-1))) 5 L));have b:=a5p (a0G s.2.2.2.2.2.1) s.2.2.2.2.2.1 (a0L ((a0G s.2.2.2.2.2.1:Nat):Int) 5 (a0L (wrap .u64 s.2.2.2.1) 4 (a0L (wrap .u64 (wrap .i64 (((s.2.2.2.2.2.1.length:Nat):Int)-1))) 5 L)));have g:=a5v s.2.2.2.2.2.1
 have:a0G s.2.2.2.2.2.1*s.2.2.2.2.2.1.length≤32*40:=a55 g h
 omega
theorem b5Q(h:s.2.2.2.2.2.1.length≤40)(l:L.length<900000000):a7i (wL L,s)=some (wL (a5s s L)):=by
 have e:=a0R (wrap .u64 (wrap .i64 (((s.2.2.2.2.2.1.length:Nat):Int)-1))) 5 L;have i:=a0R (wrap .u64 s.2.2.2.1) 4 (a0L (wrap .u64 (wrap .i64 (((s.2.2.2.2.2.1.length:Nat):Int)-1))) 5 L);have j:=a0R ((a0G s.2.2.2.2.2.1:Nat):Int) 5 (a0L (wrap .u64 s.2.2.2.1) 4 (a0L (wrap .u64 (wrap .i64 (((s.2.2.2.2.2.1.length:Nat):Int)-1))) 5 L));have k:=a5v s.2.2.2.2.2.1;have f:wrap .u64 ((a0G s.2.2.2.2.2.1:Nat):Int)=((a0G s.2.2.2.2.2.1:Nat):Int):=a0S (by omega);have a:a0F (wL L,wrap .u64 (wrap .i64 (((s.2.2.2.2.2.1.length:Nat):Int)-1)),(5:Int))=some (a6V (wrap .u64 (wrap .i64 (((s.2.2.2.2.2.1.length:Nat):Int)-1))) 5,wL (a0L (wrap .u64 (wrap .i64 (((s.2.2.2.2.2.1.length:Nat):Int)-1))) 5 L)):=a2L (n:=5) (by omega) (by omega);have b:a0F (wL (a0L (wrap .u64 (wrap .i64 (((s.2.2.2.2.2.1.length:Nat):Int)-1))) 5 L),wrap .u64 s.2.2.2.1,(4:Int))=some (a6V (wrap .u64 s.2.2.2.1) 4,wL (a0L (wrap .u64 s.2.2.2.1) 4 (a0L (wrap .u64 (wrap .i64 (((s.2.2.2.2.2.1.length:Nat):Int)-1))) 5 L))):=a2L (n:=4) (by omega) (by omega);have d:a0F (wL (a0L (wrap .u64 s.2.2.2.1) 4 (a0L (wrap .u64 (wrap .i64 (((s.2.2.2.2.2.1.length:Nat):Int)-1))) 5 L)),((a0G s.2.2.2.2.2.1:Nat):Int),(5:Int))=some (a6V ((a0G s.2.2.2.2.2.1:Nat):Int) 5,wL (a0L ((a0G s.2.2.2.2.2.1:Nat):Int) 5 (a0L (wrap .u64 s.2.2.2.1) 4 (a0L (wrap .u64 (wrap .i64 (((s.2.2.2.2.2.1.length:Nat):Int)-1))) 5 L)))):=a2L (n:=5) (by omega) (by omega);have g:=b6V (c:=s.2.2.2.2.2.1) k (by omega) s.2.2.2.2.2.1.length 0 (a0L ((a0G s.2.2.2.2.2.1:Nat):Int) 5 (a0L (wrap .u64 s.2.2.2.1) 4 (a0L (wrap .u64 (wrap .i64 (((s.2.2.2.2.2.1.length:Nat):Int)-1))) 5 L))) (by omega) (by omega);simp at g;unfold a7i;simp only[a,b,a1W (show short s.2.2.2.2.2.1 by unfold short;omega),f,d,g,oB,a5s]
def a9R(s:Sub)(L:List Int):List Int:=
 a0L ((a0G s.2.2.2.2.2.2.2.2.1:Nat):Int) 5 (a0L (wrap .u64 s.2.1) 5 (a0L (wrap .u64 s.1) 3 L))
def a2f(s:Sub)(L:List Int):List Int:=
 if s.1=2 then a0L (wrap .u64 s.2.2.1) 3 L
 else if s.1=3 then a5s s L
 else if s.1=4 then a5s s (a1r 8 s.2.2.2.2.2.2.1 (a0L (wrap .u64 (wrap .i64 (s.2.2.2.2.1-1))) 10 L))
 else if s.1=5 then a2z s.2.2.2.2.2.2.2.1 (a0L (wrap .u64 ((s.2.2.2.2.2.2.2.1.length:Nat):Int)) 2 L)
 else L
theorem b9I(h:SmallS s)(L:List Int):(a2f s L).length≤L.length+3000:=by
 have f:=h.coefs;have k:=h.taps;have g:=h.stages
 grind[a2f,a0R,b8T,a5p,b3s]
theorem b4B:∀(zs:List Nat)(ks l L:List Int),ks.all kB=true→(a3Z zs ks l L).length≤L.length+10*zs.length+100*l.length
 |z::zs,k::ks,l,L,h=>by
  simp only[a06,bA]at h;have g:=b5a h.1 (l.take z) L;have f:=b4B zs ks (l.drop z) (a7Y k (l.take z) L) h.2;rw[a22]at g;rw[a45]at f;simp only[a3Z,lC];omega
 | [],_,_,_,_=>by simp_all[a3Z]
 |_::_,[],_,_,_=>by grind[a3Z]
def a4q(s:Sub)(zn:List Nat)(L:List Int):List Int:=
 if s.1=0∨s.1=1 then a1r (a0G s.2.2.2.2.2.2.2.2.1) s.2.2.2.2.2.2.2.2.1 (a2f s (a9R s L))
 else a3D s.2.2.2.2.2.2.2.2.2.1 zn s.2.2.2.2.2.2.2.2.2.2.1 (a1r (a0G s.2.2.2.2.2.2.2.2.1) s.2.2.2.2.2.2.2.2.1 (a2f s (a9R s L)))
theorem b3P(h:SmallS s){n:Int}(S:L.length<100000000):
  ∃(e:Int)(L':List Int),a8h (wL L,s,n)=some (e,wL L')∧(e=0∨L'=L)∧L'.length≤L.length+700000∧
   ((a1U s n).isSome=true→e=0∧∃a,L'=a4q s a L∧(s.1≠0∧s.1≠1→PartsOk s.2.2.2.2.2.2.2.2.2.1 n ((s.2.2.2.2.2.2.2.2.1.length:Nat):Int) s.2.2.2.2.2.2.2.2.2.2.1 a))∧((a1U s n).isSome=false→e=1∧L'=L):=by
 unfold a8h;simp only[b6R h,oB];cases hs:(a1U s n).isSome with
 |false=>exact⟨1,L,rfl,.inr rfl,by omega,fun h=>(by grind),fun _=>⟨rfl,rfl⟩⟩
 |true=>
  have hp:a1l s n:=by
   grind[a1U]
  obtain⟨Q,R,A,-,-,-,-,v,E,B,-,p⟩:=hp;have b:=c3a A;have m:=a5v s.2.2.2.2.2.2.2.2.1;have u:short s.2.2.2.2.2.2.2.2.1:=by have:=h.warm;unfold short;omega
  have c:=h.warm;have r:=h.rest;have C:=h.stages;have D:=h.taps;have T:=a0R (wrap .u64 s.1) 3 L;have U:=a0R (wrap .u64 s.2.1) 5 (a0L (wrap .u64 s.1) 3 L);have V:=a0R ((a0G s.2.2.2.2.2.2.2.2.1:Nat):Int) 5 (a0L (wrap .u64 s.2.1) 5 (a0L (wrap .u64 s.1) 3 L));have z:wrap .u64 ((a0G s.2.2.2.2.2.2.2.2.1:Nat):Int)=((a0G s.2.2.2.2.2.2.2.2.1:Nat):Int):=a0S (by omega);have I:a0F (wL L,wrap .u64 s.1,(3:Int))=some (a6V (wrap .u64 s.1) 3,wL (a0L (wrap .u64 s.1) 3 L)):=a2L (n:=3) (by omega) (by omega);have K:a0F (wL (a0L (wrap .u64 s.1) 3 L),wrap .u64 s.2.1,(5:Int))=some (a6V (wrap .u64 s.2.1) 5,wL (a0L (wrap .u64 s.2.1) 5 (a0L (wrap .u64 s.1) 3 L))):=a2L (n:=5) (by omega) (by omega);have w:a0F (wL (a0L (wrap .u64 s.2.1) 5 (a0L (wrap .u64 s.1) 3 L)),((a0G s.2.2.2.2.2.2.2.2.1:Nat):Int),(5:Int))=some (a6V ((a0G s.2.2.2.2.2.2.2.2.1:Nat):Int) 5,wL (a9R s L)):=a2L (n:=5) (by omega) (by omega);have N:(a9R s L).length≤L.length+13:=by unfold a9R;omega
  generalize hM:a9R s L=M at w N;have X:=b9I h M;have O:=a5p (a0G s.2.2.2.2.2.2.2.2.1) s.2.2.2.2.2.2.2.2.1 (a2f s M);have Y:a0G s.2.2.2.2.2.2.2.2.1*s.2.2.2.2.2.2.2.2.1.length≤32*5000:=a55 m c;have g:=b8n (l:=s.2.2.2.2.2.2.2.2.1) (n:=n) (s:=s) m (by omega) s.2.2.2.2.2.2.2.2.1.length 0 (a2f s M) (by omega) (by omega);simp at g

  have i:=b5P (st:=s.2.2.2.2.2.2.2.1) (n:=n) (wd:=((a0G s.2.2.2.2.2.2.2.2.1:Nat):Int)) (s:=s) (by omega) s.2.2.2.2.2.2.2.1.length 0 (a0L (wrap .u64 ((s.2.2.2.2.2.2.2.1.length:Nat):Int)) 2 M) (by omega) (by grind[a0R]);have Z:=a0R (wrap .u64 (wrap .i64 (s.2.2.2.2.1-1))) 10 M;have q9:=a5p 8 s.2.2.2.2.2.2.1 (a0L (wrap .u64 (wrap .i64 (s.2.2.2.2.1-1))) 10 M);have j:=b8m (t:=s.2.2.2.2.2.2.1) (n:=n) (wd:=((a0G s.2.2.2.2.2.2.2.2.1:Nat):Int)) (s:=s) D 3 0 (a0L (wrap .u64 (wrap .i64 (s.2.2.2.2.1-1))) 10 M) (by rfl) (by omega);simp at i j;have F:a0F (wL M,wrap .u64 s.2.2.1,(3:Int))=some (a6V (wrap .u64 s.2.2.1) 3,wL (a0L (wrap .u64 s.2.2.1) 3 M)):=a2L (n:=3) (by omega) (by omega);have G:a0F (wL M,wrap .u64 (wrap .i64 (s.2.2.2.2.1-1)),(10:Int))=some (a6V (wrap .u64 (wrap .i64 (s.2.2.2.2.1-1))) 10,wL (a0L (wrap .u64 (wrap .i64 (s.2.2.2.2.1-1))) 10 M)):=a2L (n:=10) (by omega) (by omega);have H:a0F (wL M,wrap .u64 ((s.2.2.2.2.2.2.2.1.length:Nat):Int),(2:Int))=some (a6V (wrap .u64 ((s.2.2.2.2.2.2.2.1.length:Nat):Int)) 2,wL (a0L (wrap .u64 ((s.2.2.2.2.2.2.2.1.length:Nat):Int)) 2 M)):=a2L (n:=2) (by omega) (by omega);have x:=b5Q (s:=s) h.coefs (L:=M) (by omega);have y:=b5Q (s:=s) h.coefs (L:=a1r 8 s.2.2.2.2.2.2.1 (a0L (wrap .u64 (wrap .i64 (s.2.2.2.2.1-1))) 10 M)) (by omega);simp only[bT,cF,a1W u,oB,I,K,z,w];generalize hPM:a1r (a0G s.2.2.2.2.2.2.2.2.1) s.2.2.2.2.2.2.2.2.1 (a2f s M)=PM at g O

  have o:∀(d:s.1≠0∧s.1≠1),∃a,PartsOk s.2.2.2.2.2.2.2.2.2.1 n ((s.2.2.2.2.2.2.2.2.1.length:Nat):Int) s.2.2.2.2.2.2.2.2.2.2.1 a:=fun d=>by
   simp_all[PartsOk.of]
  rcases b with k|k|k|k|k|k;have f:a2f s M=M:=by unfold a2f;grind
  rw[f]at g;refine⟨0,PM,?_,.inl rfl,by omega,fun _=>⟨rfl,[],by simp_all[a4q],fun h=>absurd k (by omega)⟩,fun h=>by grind⟩;simp only[k,show((0:Int)==2)=false from rfl,show((0:Int)==4)=false from rfl,show((0:Int)==3)=false from rfl,show((0:Int)==5)=false from rfl,cF,oB,g,a5u]
  simp
  have f:a2f s M=M:=by unfold a2f;grind
  rw[f]at g;refine⟨0,PM,?_,.inl rfl,by omega,fun _=>⟨rfl,[],by simp_all[a4q],fun h=>absurd k (by omega)⟩,fun h=>by grind⟩;simp only[k,show((1:Int)==2)=false from rfl,show((1:Int)==4)=false from rfl,show((1:Int)==3)=false from rfl,show((1:Int)==5)=false from rfl,cF,oB,g,a5u]
  simp
  all_goals
   obtain⟨a,q⟩:=o (by omega);have t1:=b9H (L:=PM) q (by omega);have P:(a3D s.2.2.2.2.2.2.2.2.2.1 a s.2.2.2.2.2.2.2.2.2.2.1 PM).length≤L.length+700000:=by
    have z1:=a0R (wrap .u64 s.2.2.2.2.2.2.2.2.2.1.1) 4 PM;have z2:=b4B a s.2.2.2.2.2.2.2.2.2.1.2.1 s.2.2.2.2.2.2.2.2.2.2.1 (a0L (wrap .u64 s.2.2.2.2.2.2.2.2.2.1.1) 4 PM) q.all;have z3:=q.len
    grind[a3D]
   refine⟨0,a3D s.2.2.2.2.2.2.2.2.2.1 a s.2.2.2.2.2.2.2.2.2.2.1 PM,?_,.inl rfl,P,fun _=>⟨rfl,a,by simp_all[a4q],fun _=>q⟩,fun h=>by grind⟩
  have f:a2f s M=a0L (wrap .u64 s.2.2.1) 3 M:=by unfold a2f;grind
  rw[f]at g;simp only[k,show((2:Int)==2)=true from rfl,cT,F,oB,g,a5u]
  grind
  have f:a2f s M=a5s s M:=by unfold a2f;grind
  rw[f]at g;simp only[k,show((3:Int)==2)=false from rfl,show((3:Int)==4)=false from rfl,show((3:Int)==3)=true from rfl,cT,cF,x,oB,g,a5u]
  grind
  have f:a2f s M=a5s s (a1r 8 s.2.2.2.2.2.2.1 (a0L (wrap .u64 (wrap .i64 (s.2.2.2.2.1-1))) 10 M)):=by unfold a2f;grind
  rw[f]at g;simp only[k,show((4:Int)==2)=false from rfl,show((4:Int)==4)=true from rfl,cT,cF,G,j,y,oB,g,a5u]
  grind
  have f:a2f s M=a2z s.2.2.2.2.2.2.2.1 (a0L (wrap .u64 ((s.2.2.2.2.2.2.2.1.length:Nat):Int)) 2 M):=by unfold a2f;grind
  rw[f]at g;simp only[k,show((5:Int)==2)=false from rfl,show((5:Int)==4)=false from rfl,show((5:Int)==3)=false from rfl,show((5:Int)==5)=true from rfl,cT,cF,H,i,oB,g,a5u]
  grind
theorem b2U(h:List Nat):(a1h h).map a21=h:=by
 unfold a1h;rw[List.map_map]
 have:a21∘(fun(a:Nat)=>(a:Int))=id:=by rfl
 simp_all
def a3y(s:Sub)(n:Int):Int:=
 if(a1U s n).isSome=true then(((a4q s ((a1B s.2.2.2.2.2.2.2.2.2.1.1 n ((s.2.2.2.2.2.2.2.2.1.length:Nat):Int)).map a21) []).length:Nat):Int)else 0
theorem b7U{n:Int}(h:s.1≠0∧s.1≠1→PartsOk s.2.2.2.2.2.2.2.2.2.1 n ((s.2.2.2.2.2.2.2.2.1.length:Nat):Int) s.2.2.2.2.2.2.2.2.2.2.1 zn)(L:List Int):
  a4q s zn L=a4q s ((a1B s.2.2.2.2.2.2.2.2.2.1.1 n ((s.2.2.2.2.2.2.2.2.1.length:Nat):Int)).map a21) L:=by
 by_cases hk:s.1=0∨s.1=1
 unfold a4q;rw[if_pos hk,if_pos hk];rw[(h (not_or.1 hk)).sizes,b2U]
theorem b7V(h:SmallS s)(n:Int):a2U (s,n)=some (a3y s n):=by
 obtain⟨e,f,g,-,-,k,a⟩:=b3P h (n:=n) (L:=[]) (by simp);have b:wL []=(([]:List Int),(0:Int),()):=rfl;rw[b]at g;obtain⟨d,-⟩:=a4N f;unfold a2U a3y;simp only[g,oB,a7u];cases hs:(a1U s n).isSome with
 |false=>
  obtain⟨rfl,rfl⟩:=a hs;rfl
 |true=>
  obtain⟨rfl,i,rfl,c⟩:=k hs;rw[if_pos rfl,←b7U c];simp only[d,show((0:Int) != 0)=false from rfl,cF]
def dif:List Int→List Int
 |a::b::r=>W (b-a)::dif (b::r)
 |_=>[]
theorem a4H:∀l:List Int,(dif l).length=l.length-1
 | []=>rfl
 | [_]=>rfl
 |a::b::r=>by simp[dif,a4H (b::r)]
theorem b7W:∀(l:List Int)(i:Nat)(x y:Int),l[i]?=some x→l[i+1]?=some y→(dif l)[i]?=some (W (y-x))
 |a::b::r,0,x,y,h1,h2=>by simp at h1 h2;subst h1;subst h2;rfl
 |a::b::r,i+1,x,y,h1,h2=>by
  simp only[dif,List.getElem?_cons_succ]at h1 h2⊢;exact b7W (b::r) i x y h1 h2
 | [_],0,x,y,h1,h2=>by simp at h2
 | [_],i+1,x,y,h1,h2=>by simp at h1
 | [],i,x,y,h1,h2=>by simp at h1
def a1E:Nat→List Int→List Int
 |0,l=>l
 |o+1,l=>dif (a1E o l)
theorem a4O(l:List Int):∀o,(a1E o l).length=l.length-o
 |0=>rfl
 |o+1=>by simp only[a1E,a4H,a4O l o];omega
theorem b3Q(h:short l)(o:Nat):short (a1E o l):=by
 have h:l.length<1000000:=h;show(a1E o l).length<1000000;rw[a4O];omega
def a8Q(l:List Int)(i:Nat):List Int:=(dif l).take i++l.drop i
theorem b2V(h:i≤l.length-1):(a8Q l i).length=l.length:=by
 simp only[a8Q,lN,a22,a45,a4H];omega
theorem b8o{j:Nat}(h:i≤l.length-1)(g:i≤j):(a8Q l i).getD j 0=l.getD j 0:=by
 have e:((dif l).take i).length=i:=by rw[a22,a4H];omega
 rw[lD,lD,a8Q,a26 (by omega),e,a95];congr 2;omega
theorem c3W(h:i<l.length-1):(a8Q l i).set i (W (l.getD (i+1) 0-l.getD i 0))=a8Q l (i+1):=by
 have e:((dif l).take i).length=i:=by rw[a22,a4H];omega
 have f:l[i]?=some l[i]:=lG (by omega);have k:l[i+1]?=some l[i+1]:=lG (by omega);have a:=b7W l i _ _ f k;have g:i<(dif l).length:=by rw[a4H];omega
 simp only[a8Q];rw[List.set_append,if_neg (by omega),e,Nat.sub_self,a05 (show i<l.length by omega),List.set_cons_zero,a36 g,aA];have b:(dif l)[i]=W (l.getD (i+1) 0-l.getD i 0):=by
  rw[lG g]at a;rw[Option.some.inj a,lD,lD,f,k];rfl
 rw[b];rfl
theorem c2m{o:Int}(d:short l)(h:1≤l.length):x0r a4s ((0:Int),o,k,l,())=some (o,k,a8Q l (l.length-1),()):=by
 have d:l.length<1000000:=d;have r:a8Q l 0=l:=by simp[a8Q]
 have:=a2t (f:=a4s) (fun i:Nat=>((i:Int),o,k,a8Q l i,())) (l.length-1) (b:=(o,k,a8Q l (l.length-1),()))
  (fun i u=>by
   have c:wrap .i64 ((i:Int)+1)=((i+1:Nat):Int):=a0C (by omega);have a:=b2V (l:=l) (i:=i) (by omega);have g:decide (((i+1:Nat):Int)<((l.length:Nat):Int))=true:=by simp;omega
   have e:decide ((0:Int)≤((i+1:Nat):Int))=true:=by simp;omega
   have m:decide ((0:Int)≤(i:Int))=true:=by simp
   have n:decide ((i:Int)<((l.length:Nat):Int))=true:=by simp;omega
   have s:a21 ((i+1:Nat):Int)=i+1:=by omega
   have t:a21 (i:Int)=i:=by omega
   have st:=c3W (l:=l) (i:=i) (by omega);have p:=b8o (l:=l) (i:=i) (j:=i+1) (by omega) (by omega);have q:=b8o (l:=l) (i:=i) (j:=i) (by omega) (by omega);simp only[W]at st;simp only[a4s,c,a,g,e,m,n,s,t,p,q,st,a03,cT])
  (by
   have a:=b2V (l:=l) (i:=l.length-1) (by omega);have c:wrap .i64 (((l.length-1:Nat):Int)+1)=((l.length:Nat):Int):=by rw[a0D (by omega)];omega
   have g:decide (((l.length:Nat):Int)<((l.length:Nat):Int))=false:=by simp
   simp only[a4s,c,a,g,cF])
 simp only[nZ,a09,r]at this;exact this
theorem c3d:(a8Q l (l.length-1)).take (l.length-1)=dif l:=by
 have e:(dif l).take (l.length-1)=dif l:=a87 (by rw[a4H];omega);rw[a8Q,e,List.take_append_of_le_length (by rw[a4H];omega),e]
theorem b4C(A:o≤4)(z:o≤l.length)(g:short l)(v:l.all a0A=true):
  a3O (l,(o:Int))=some (bif (a1E o l).all a0A then(a1E o l,0)else([],6)):=by
 have u:l.length<1000000:=g;have h:=a2t (f:=a6B) (fun k:Nat=>((o:Int),(k:Int),a1E k l,())) o (b:=(a1E o l,()))
  (fun k y=>by
   have c:1≤(a1E k l).length:=by rw[a4O];omega
   have s:(a1E k l).length<1000000:=b3Q g k;have a:decide ((k:Int)<(o:Int))=true:=by simp;omega
   have t:=b2V (l:=a1E k l) (i:=(a1E k l).length-1) (by omega);have x:wrap .i64 ((((a1E k l).length:Nat):Int)-1)=(((a1E k l).length-1:Nat):Int):=by rw[a0D (by omega)];omega
   have w2:wrap .i64 ((k:Int)+1)=((k+1:Nat):Int):=a0C (by omega);have n:decide ((0:Int)≤(((a1E k l).length-1:Nat):Int))=true:=by simp
   have p:decide ((((a1E k l).length-1:Nat):Int)≤(((a1E k l).length:Nat):Int))=true:=by simp
   have q:decide ((a1E k l).length-1≤(a1E k l).length)=true:=by simp
   have w:a21 (((a1E k l).length-1:Nat):Int)=(a1E k l).length-1:=by omega
   simp only[a6B,a,cT,c2m (b3Q g k) c,oB,t,x,w2,n,p,q,w,a03,c3d,a1E])
  (by
   have a:decide ((o:Int)<(o:Int))=false:=by simp
   simp only[a6B,a,cF])
 have d:decide ((o:Int)<0)=false:=by simp
 have e:decide ((o:Int) > 4)=false:=by simp;omega
 have j:decide (((l.length:Nat):Int)<(o:Int))=false:=by simp;omega
 have m:lim l.length=true:=a1f (by omega);simp only[nZ,a09]at h;have r:a1E 0 l=l:=rfl;rw[r]at h;unfold a3O;simp only[d,e,j,m,cF,cT,oB,a6j g,v,bT,h,a6j (b3Q g o)];cases (a1E o l).all a0A<;>rfl
def ex:Nat→(Nat→Int)→Nat→Int
 |0,f,i=>f i
 |o+1,f,i=>ex o f (i+1)-ex o f i
theorem b6l{l:List Int}(g:l.all a0A=true):∀(o i:Nat),i+o<l.length→(a1E o l)[i]?=some (W (ex o (fun j=>l.getD j 0) i))
 |0,i,h=>by
  have h:i<l.length:=by omega
  have e:l.getD i 0=l[i]:=by simp[lD,h]
  simp only[a1E,ex,e];rw[lG h,b4X (lA.1 g _ (a07 h))]
 |o+1,i,h=>by
  have f:=b6l g o i (by omega);have k:=b6l g o (i+1) (by omega);simp only[a1E,ex];rw[b7W _ i _ _ f k];simp only[W,a6T,Int.sub_bmod_bmod,Int.bmod_sub_bmod]
theorem c3e(p:l.all a0A=true){j:Nat}(s:o≤4)(h:o+j<l.length):W (W (ex o (fun j=>l.getD j 0) j)+a3X o (l.take (o+j)))=l.getD (o+j) 0:=by
 have a:a0A (l.getD (o+j) 0)=true:=by
  have e:l.getD (o+j) 0=l[o+j]:=by simp[lD,h]
  rw[e];exact lA.1 p _ (a07 h)
 have g:∀i:Nat,1≤i→i≤o→atB (l.take (o+j)) i=l.getD (o+j-i) 0:=fun i q r=>by
  simp only[atB,a22,a88 (Nat.le_of_lt h),lD,a50];rw[if_pos (by omega)]
 have d:ex o (fun j=>l.getD j 0) j+a3X o (l.take (o+j))=l.getD (o+j) 0:=by
  have n:o=0∨o=1∨o=2∨o=3∨o=4:=by omega
  rcases n with rfl|rfl|rfl|rfl|rfl;simp[ex,a3X];simp only[ex,a3X,g 1 (by omega) (by omega)];have f:1+j-1=j:=by omega
  have k:j+1=1+j:=by omega
  rw[f,k];omega;simp only[ex,a3X,g 1 (by omega) (by omega),g 2 (by omega) (by omega)];have f:2+j-1=j+1:=by omega
  have k:2+j-2=j:=by omega
  have b:j+1+1=2+j:=by omega
  rw[f,k,b];omega;simp only[ex,a3X,g 1 (by omega) (by omega),g 2 (by omega) (by omega),g 3 (by omega) (by omega)];have f:3+j-1=j+1+1:=by omega
  have k:3+j-2=j+1:=by omega
  have b:3+j-3=j:=by omega
  have c:j+1+1+1=3+j:=by omega
  rw[f,k,b,c];omega;simp only[ex,a3X,g 1 (by omega) (by omega),g 2 (by omega) (by omega),g 3 (by omega) (by omega),g 4 (by omega) (by omega)];have f:4+j-1=j+1+1+1:=by omega
  have k:4+j-2=j+1+1:=by omega
  have b:4+j-3=j+1:=by omega
  have c:4+j-4=j:=by omega
  have m:j+1+1+1+1=4+j:=by omega
  rw[f,k,b,c,m];omega
 have:W (W (ex o (fun j=>l.getD j 0) j)+a3X o (l.take (o+j)))=W (ex o (fun j=>l.getD j 0) j+a3X o (l.take (o+j))):=by
  simp only[W,a6T,Int.bmod_add_bmod]
 rw[this,d,b4X a]
theorem b9J{l:List Int}(f:l.all a0A=true){o:Nat}(b:o≤4):∀(k j:Nat),o+j+k=l.length→a3x (a3X o) ((a1E o l).drop j) (l.take (o+j))=some l
 |0,j,h=>by
  rw[List.drop_of_length_le (by rw[a4O];omega),a87 (by omega)];rfl
 |k+1,j,h=>by
  have g:j<(a1E o l).length:=by rw[a4O];omega
  have a:=b6l f o j (by omega);rw[lG g]at a;have e:=Option.some.inj a;have c:l.getD (o+j) 0=l[o+j]:=by simp[lD,show o+j<l.length by omega]
  have st:=c3e f b (show o+j<l.length by omega);rw[c]at st;rw[a05 g,e];simp only[a3x,st,lA.1 f _ (a07 (show o+j<l.length by omega)),cT];have d:l.take (o+j)++[l[o+j]]=l.take (o+(j+1)):=by
   rw[show o+(j+1)=(o+j)+1 by omega]
   simp
  rw[d];exact b9J f b k (j+1) (by omega)
theorem a6v{σ β:Type}{f:σ→Option (σ ⊕ β)}(I:Nat→σ→Prop)(Q:β→Prop)(n:Nat)(a:∀i s,i<n→I i s→∃s',f s=some (.inl s')∧I (i+1) s')
  (g:∀s,I n s→∃b,f s=some (.inr b)∧Q b):∀(k i:Nat)(s:σ),i+k=n→I i s→∃b,x0r f s=some b∧Q b
 |0,i,s,h,hi=>by
  obtain rfl:i=n:=by omega
  obtain⟨b,c,d⟩:=g s hi;exact⟨b,a0H c,d⟩
 |k+1,i,s,h,hi=>by
  obtain⟨s',c,d⟩:=a i s (by omega) hi;rw[a0I c];exact a6v I Q n a g k (i+1) s' (by omega) d
theorem b5R(y:Int):0≤wrap .u64 y∧wrap .u64 y<18446744073709551616:=by
 simp only[wrap,IntKind.bits,IntKind.signed]
 simp
 omega
def a9S(n:Int)(x:Int):Bool:=a0A x&&!(a30 x (z0g .i64 1 n) != 0)
def b3R{β:Type}(n:Int)(bad:β)(out:List Int)(x:Int):List Int ⊕ β:=bif a9S n x then .inl (out++[z0h .i64 x n])else .inr bad
def a8R(n:Int)(l:List Int):Option (List Int):=bif l.all (a9S n)then some (l.map fun x=>z0h .i64 x n)else none
theorem b4D{β:Type}(n:Int)(h:β)(g:List Int→β):∀(l out:List Int),a7x g (a2u (b3R n h) l out)=match a8R n l with|some r=>g (out++r)|none=>h
 | [],out=>by simp[a2u,a7x,a8R]
 |x::l,out=>by
  simp only[a2u,b3R,a8R,a06];cases hx:a9S n x with
  |true=>
   simp only[cT,a34];rw[b4D n h g l _];simp only[a8R];cases l.all (a9S n)with
   |true=>simp
   |false=>rfl
  |false=>rfl
theorem b9K{o:Nat}(h:o≤30):z0g .i64 1 (o:Int)=((2^o:Nat):Int):=by
 have g:2^o≤2^30:=a16 (by omega) h
 have:=b6i (N:=1) (o:=o) (by omega) (by omega)
 simpa using this
theorem b3t(m:o≤30)(q:l.length<100000):a5U (l,(o:Int))=some (a4i (a8R (o:Int) l)):=by
 have n:short l:=by unfold short;omega
 have k:¬ (o:Int)<0:=by omega
 have e:¬ (o:Int) > 30:=by omega
 have j:(z0g .i64 (1:Int) (o:Int)==0)=false:=by
  rw[b9K m]
  have:0<2^o:=a20 o
  simp only[beq_eq_false_iff_ne,ne_eq];omega
 unfold a5U;simp only[k,e,decide_false,cF,oB]
 have:=a1I (f:=a5C) l (fun i out=>((o:Int),l,(l.length:Int),(i:Int),out,())) (b3R (o:Int) (Sum.inr ((6:Int),([]:List Int),())))
  (fun i out=>out.length=i) (fun out=>Sum.inl (out,()))
  (fun i h out p=>by
   have c:i<1000000:=by omega
   simp only[a5C,dlt h,cT,a0B h,oB,b3l,b3R,a9S,k,j,decide_false,cF];cases hb:a0A l[i]with
   |true=>
    cases hb2:(a30 l[i] (z0g .i64 1 (o:Int)) != 0)with
    |false=>
     simp only[cT,bT,cF,oB,k,decide_false,a0Q (show out.length+1<1000000 by omega),a0C c,a03,a18,hb2];refine⟨fun d g=>?_,fun b hb=>(by cases hb)⟩;simp only[Sum.inl.injEq]at g;subst g;exact⟨rfl,by simp;omega⟩
    |true=>
     refine⟨fun d g=>(by simp at g),fun b hb=>?_⟩;simp only[a34,bT,cF,Sum.inr.injEq]at hb;subst hb;simp[hb2]
   |false=>
    refine⟨fun d g=>(by simp at g),fun b hb=>?_⟩;simp only[Bool.false_and,cF,Sum.inr.injEq]at hb;subst hb;rfl)
  (fun out _=>by simp[a5C]) (a:=[]) rfl
 simp only[nZ,b4D,a04]at this;rw[this];cases a8R (o:Int) l<;>rfl
theorem b6m(h:o≤30)(k:a9S (o:Int) x=true):a0A (z0h .i64 x (o:Int))=true∧z0g .i64 (z0h .i64 x (o:Int)) (o:Int)=x∧a0A x=true:=by
 simp only[a9S,b9K h,bA,a28,bne_eq_false_iff_eq]at k;obtain⟨f,d⟩:=k;obtain⟨c,rfl⟩:=Int.dvd_of_tmod_eq_zero d;have g:=a1z.1 f;have e:min (a21 (o:Int)) (IntKind.bits .i64)=o:=by simp only[tN,IntKind.bits];omega
 have hp:(0:Int)<2^o:=Int.pow_pos (by omega);have b:((2^o:Nat):Int)=2^o:=by simp
 rw[b]at g f⊢;have a:z0h .i64 (2^o*c) (o:Int)=c:=by
  unfold z0h;rw[e];exact a79 _ (by omega)
 rw[a];refine⟨a1z.2 ?_,?_,f⟩;generalize (2:Int)^o=p at hp g;have i:p*c=(p-1)*c+c:=by rw[b04];omega
 by_cases hc:0≤c
 have:=a56 (show 0≤p-1 by omega) hc
 omega
 have:=a56 (show 0≤p-1 by omega) (show 0≤-c by omega)
 rw[Int.mul_neg]at this;omega;unfold z0g;rw[e,a85];exact a0D (by omega)
theorem c5B(h:o≤30)(f:a8R (o:Int) l=some d):d.all a0A=true∧d.length=l.length∧upO (o:Int) d=some l:=by
 unfold a8R at f;cases ha:l.all (a9S (o:Int))with
 |false=>rw[ha]at f;cases f
 |true=>
  rw[ha]at f;simp only[cT,sj]at f;subst f;have g:=lA.1 ha;refine⟨?_,by simp,?_⟩;simp only[List.all_map];exact lA.2 fun x k=>(b6m h (g x k)).1;have a:(l.map fun x=>z0h .i64 x (o:Int)).all (fun x=>a0A x&&a0A (z0g .i64 x (o:Int)))=true:=by
   simp only[List.all_map];refine lA.2 fun x k=>?_
   obtain⟨c,e,i⟩:=b6m h (g x k);simp only[Function.comp,c,e,i,a03]
  unfold upO;rw[a];simp only[cT,sj,List.map_map];have b:l.map ((fun x=>z0g .i64 x (o:Int))∘fun x=>z0h .i64 x (o:Int))=l.map id:=List.map_congr_left (fun x k=>(b6m h (g x k)).2.1);rw[b,List.map_id]
theorem c2n{n warm:Int}(h:a5o n warm=true):(a1B 0 n warm).length≠0:=by
 have g:=h;simp only[a5o,bA,dT]at g;unfold a1B b3n;have e:((n.toNat / 2^(0:Int).toNat:Nat):Int)=n:=by simp;omega
 have f:n.toNat%2^(0:Int).toNat=0:=by simp;omega
 simp only[h,e,f];simp[g.2.2.2]
theorem a6X{N n:Nat}(g:n≤63)(h:N<2^n)(L:List Int):(a0L (N:Int) n L).length=L.length+n:=by
 grind[a0L,a5w,a80,b2w]
def a4I(k:Nat)(x:Int):Nat:=if a0M x / 2^k<32 then a0M x / 2^k+1+k else 65
theorem b9L{k:Nat}(h:k≤25)(x:Int):a4I k x≤65:=by
 grind[a4I]
theorem c3f{k:Nat}(a:k≤25)(g:a0A x=true)(L:List Int):(a5L k x L).length=L.length+a4I k x:=by
 unfold a5L a4I;have hp:0<2^k:=a20 k;have h:a0M x%2^k<2^k:=a40 _ hp;have f:=a8d g;split;rw[a6X (by omega) h,a8N];omega
 grind[a6X,a8N]
theorem b6W{k:Nat}(g:k≤25):∀(l L:List Int),l.all a0A=true→(a3Y k l L).length=L.length+(l.map (a4I k)).sum
 | [],L,_=>by rfl
 |x::l,L,h=>by
  simp only[a06,bA]at h;have e:a3Y k (x::l) L=a3Y k l (a5L k x L):=rfl;rw[e,b6W g l _ h.2,c3f g h.1,a59,a93];omega
theorem b9M{k:Nat}(c:k≤25)(g:a0A x=true):a6t ((k:Int),x)=some ((a4I k x:Nat):Int):=by
 have d:=a8d g;have f:z0h .u64 ((a0M x:Nat):Int) (k:Int)=((a0M x / 2^k:Nat):Int):=a5w (by omega);have a:wrap .i64 ((a0M x / 2^k:Nat):Int)=((a0M x / 2^k:Nat):Int):=b1V (a72 (a67 _ _) d);have h:decide ((k:Int)<0)=false:=by simp
 unfold a6t a4I;simp only[a7z c,a8O,g,oB,bT,cF,a8P g,h,f,a];generalize a0M x / 2^k=q
 by_cases hq:q<32
 have b:decide ((q:Int)<32)=true:=decide_eq_true (by omega);simp only[b,cT,if_pos hq]
 grind[a0D]
 grind
theorem b9N{f:Int→Nat}{M:Nat}(h:∀x,f x≤M):∀l:List Int,(l.map f).sum≤M*l.length
 | []=>by simp
 |x::l=>by
  have:=h x
  have:=b9N h l
  rw[a59,a93,lC,Nat.mul_add,b05];omega
theorem b9O{f:Int→Nat}{l:List Int}{i:Nat}(h:i<l.length):((l.take (i+1)).map f).sum=((l.take i).map f).sum+f l[i]:=by
 rw[a36 h,pA,List.sum_append];rfl
theorem b5S{k:Nat}(a:k≤25)(d:l.all a0A=true)(j:l.length<10000):a2S ((k:Int),l)=some (((l.map (a4I k)).sum:Nat):Int):=by
 have:=a2t (f:=a3l) (fun i:Nat=>((k:Int),((((l.take i).map (a4I k)).sum:Nat):Int),l,(l.length:Int),(i:Int),())) l.length (b:=((((l.map (a4I k)).sum:Nat):Int),()))
  (fun i h=>by
   have c:=b9M a (lA.1 d _ (a07 h));have g:=b9N (b9L a) (l.take (i+1));rw[b9O h]at g;rw[a22]at g;have e:wrap .i64 (((((l.take i).map (a4I k)).sum:Nat):Int)+((a4I k l[i]:Nat):Int))=((((l.take (i+1)).map (a4I k)).sum:Nat):Int):=by
    grind[b9O,a0D]
   simp only[a3l,dlt h,cT,a0B h,oB,c,e,a0C (show i<1000000 by omega)])
  (by simp_all[a3l])
 unfold a2S;simp_all
theorem c3X(x:Int)(f:n≤62):∃N:Nat,a0P x n=(N:Int)∧N<2^n:=by
 obtain⟨h,g⟩:=b5R x;obtain⟨y,k⟩:=a00 h;have hp:0<2^n:=a20 n;refine⟨y%2^n,?_,a40 _ hp⟩
 grind[a0P,b9F]
theorem b2y{n:Nat}(h:n≤62):∀(l L:List Int),(a1r n l L).length=L.length+n*l.length
 | [],L=>by rfl
 |x::l,L=>by
  have e:a1r n (x::l) L=a1r n l (a0L (a0P x n) n L):=rfl;obtain⟨N,g,f⟩:=c3X x h;rw[e,b2y h l,g,a6X (by omega) f,lC,Nat.mul_add,b05];omega
theorem c6s{x:Int}(h:a0A x=true):a1s x ((31:Nat):Int)=true:=by
 have:=a1z.1 h
 have g:z0g .i64 (-1) (((31:Nat):Int)-1)=-1073741824:=by rfl
 have f:wrap .i64 (z0g .i64 1 (((31:Nat):Int)-1)-1)=1073741823:=by rfl
 unfold a1s
 grind
theorem b6X{x:Int}(h:a0A x=true):∀(k w:Nat),w+k=32→1≤k→a1C x k w≤31
 |k+1,w,hk,_=>by
  simp[a1C]
  by_cases h31:w=31
  grind[c6s]
  ·cases (x != 0)&&!a1s x w with
   |true=>exact b6X h k (w+1) (by omega) (by omega)
   |false=>grind
theorem b2z:∀(l:List Int)(w:Nat),l.all a0A=true→w≤31→l.foldl (fun w x=>a1C x (32-w) w) w≤31
 | [],w,_,h=>h
 |x::l,w,hl,h=>by
  simp only[a06,bA]at hl;exact b2z l _ hl.2 (b6X hl.1 (32-w) w (by omega) (by omega))
theorem a1J{l:List Int}(h:l.all a0A=true):a0G l≤31:=b2z l 0 h (by omega)
theorem b1W(g:l.length<10000):a4M l=some (((5+a0G l*l.length:Nat)):Int):=by
 have h:=a5v l;have f:a0G l*l.length≤32*l.length:=a35 _ h;unfold a4M;simp only[a1W (show short l by unfold short;omega),oB]
 grind[a0D]
def a9T(k:Int)(part:List Int):Nat:=5+(if k=31 then 5+a0G part*part.length else(part.map (a4I k.toNat)).sum)
def a4J:List Nat→List Int→List Int→Nat
 |z::zs,k::ks,l=>a9T k (l.take z)+a4J zs ks (l.drop z)
 |_,_,_=>0
theorem a1X{q:Nat}(h:q<2147483648):wrap .u64 (q:Int)=(q:Int):=a0S (by omega)
theorem c3g(h:kB k=true)(g:part.all a0A=true)(L:List Int):(a7Y k part L).length=L.length+a9T k part:=by
 simp[kB]at h;obtain⟨K,rfl⟩:=a00 (show 0≤k by omega)
 grind[a6X,a1J,a7Y,a9T,a1X,b2y,b6W]
theorem b6Y:∀(zs:List Nat)(ks l L:List Int),ks.all kB=true→l.all a0A=true→(a3Z zs ks l L).length=L.length+a4J zs ks l
 |z::zs,k::ks,l,L,h,hw=>by
  simp only[a06,bA]at h;have g:(l.take z).all a0A=true:=lA.2 fun x a=>lA.1 hw x (a64 a);have f:(l.drop z).all a0A=true:=lA.2 fun x a=>lA.1 hw x (a65 a);simp only[a3Z,a4J];rw[b6Y zs ks _ _ h.2 f,c3g h.1 g];omega
 | [],_,_,_,_,_=>by rfl
 |_::_,[],_,_,_,_=>by rfl
theorem c3Y(h:kB k=true)(part:List Int):a9T k part≤10+65*part.length:=by
 simp[kB]at h;unfold a9T;split;have g:a0G part*part.length≤32*part.length:=a35 _ (a5v part);omega
 have:=b9N (b9L (k:=k.toNat) (by omega)) part
 omega
theorem b1X{zn:List Nat}{p:Prt}(E:p.2.1.length=zn.length)(a:p.2.1.all kB=true)(F:zn.length≤256):∀(j i:Nat)(l:List Int)(c:Nat),i+j=zn.length→(zn.drop i).sum=l.length→l.all a0A=true→l.length≤5000→c+10*j+65*l.length<1000000→
  x0r a1m (l,(c:Int),(zn.length:Int),(i:Int),a1h zn,p,())=some (((c+a4J (zn.drop i) (p.2.1.drop i) l:Nat):Int),())
 |0,i,l,c,hi,_,_,_,_=>by
  obtain rfl:i=zn.length:=by omega
  grind[a0H,a1m,a4J]
 |j+1,i,l,c,hi,hsum,hw,hl5,hb=>by
  have h:i<zn.length:=by omega
  have f:i<p.2.1.length:=by omega
  have o:=lA.1 a _ (a07 f);rw[b3O h]at hsum;have z:decide ((0:Int)≤(i:Int))=true:=by simp
  have A:decide ((i:Int)<(((a1h zn).length:Nat):Int))=true:=by simp_all[a1n]
  have B:decide ((0:Int)≤((zn[i]:Nat):Int))=true:=by simp
  have C:decide (((zn[i]:Nat):Int)≤((l.length:Nat):Int))=true:=by grind
  have d:(l.take zn[i]).length=zn[i]:=by simp_all
  have e:(l.drop zn[i]).length=(zn.drop (i+1)).sum:=by grind
  have v:(l.take zn[i]).all a0A=true:=lA.2 fun x y=>lA.1 hw x (a64 y);have w:(l.drop zn[i]).all a0A=true:=lA.2 fun x y=>lA.1 hw x (a65 y);have g:=c3Y o (l.take zn[i]);rw[d]at g;have n:a1m (l,(c:Int),(zn.length:Int),(i:Int),a1h zn,p,())=some (.inl (l.drop zn[i],((c+a9T p.2.1[i] (l.take zn[i]):Nat):Int),(zn.length:Int),((i+1:Nat):Int),a1h zn,p,())):=by
   by_cases h31:p.2.1[i]=31
   have b:(p.2.1[i]==31)=true:=by simp_all
   have m:=b1W (l:=l.take zn[i]) (by omega);have u:a9T p.2.1[i] (l.take zn[i])=5+(5+a0G (l.take zn[i])*(l.take zn[i]).length):=by simp_all[a9T]
   rw[u]at g⊢;generalize 5+a0G (l.take zn[i])*(l.take zn[i]).length=r at m g⊢;have s:wrap .i64 (5+(r:Int))=5+(r:Int):=a0D (by omega);have t:wrap .i64 ((c:Int)+(5+(r:Int)))=((c+(5+r):Nat):Int):=by grind[a0D]
   simp only[a1m,dlt h,z,A,a6W h,B,C,cT,a03,tN,a0B f,oB,b,m,s,t,a37,a0C (show i<1000000 by omega)];have b:(p.2.1[i]==31)=false:=by simp_all
   have q:=o;simp[kB]at q;obtain⟨K,D⟩:=a00 (show 0≤p.2.1[i]by omega);have m:=b5S (k:=K) (by omega) v (by omega);have u:a9T p.2.1[i] (l.take zn[i])=5+((l.take zn[i]).map (a4I K)).sum:=by simp_all[a9T]
   rw[←D]at m;rw[u]at g⊢;generalize ((l.take zn[i]).map (a4I K)).sum=r at m g⊢;have s:wrap .i64 (5+(r:Int))=5+(r:Int):=a0D (by omega);have t:wrap .i64 ((c:Int)+(5+(r:Int)))=((c+(5+r):Nat):Int):=by grind[a0D]
   simp only[a1m,dlt h,z,A,a6W h,B,C,cT,cF,a03,tN,a0B f,oB,b,m,s,t,a37,a0C (show i<1000000 by omega)]
  rw[a0I n,b1X E a F j (i+1) (l.drop zn[i]) _ (by omega) e.symm w (by omega) (by omega)];rw[a05 h,a05 f]
  grind[a4J]
theorem b8U{n:Int}(h:PartsOk p n warm l zn):a3U (p,n,warm,l)=some ((4+a4J zn p.2.1 l:Nat):Int):=by
 have f:Go.Ab.short p.2.1:=by have:=h.ks;have:=h.len;unfold Go.Ab.short;omega
 have k:=h.short;have a:=h.len;have g:=b1X h.ks h.all h.len zn.length 0 l 4 (by omega) (by rw[a31];exact h.sum) h.wide h.short (by omega);simp only[nZ,a09,a31]at g;unfold a3U;simp only[b1R f,h.may,a9k h.row h.rest h.wide h.short,oB,bT,cF,a1L,h.sizes,a1n,g]
theorem b8V{n:Int}(h:PartsOk p n warm l zn)(L:List Int):(a3D p zn l L).length=L.length+(4+a4J zn p.2.1 l):=by
 obtain⟨o,g⟩:=a00 h.order.1;have f:=h.order.2;unfold a3D;rw[b6Y _ _ _ _ h.all h.wide,g,a1X (by omega),a6X (by omega) (by omega)];omega
def a1G(o:Int):Sub:=((0:Int),(0:Int),o,(0:Int),(0:Int),([]:List Int),a01 3 (0:Int),([]:List Stg),([]:List Int),((0:Int),([]:List Int),()),([]:List Int),())
theorem c1e(o:Int):SmallS (a1G o):=⟨by simp[a1G],by simp[a1G],by simp[a1G],by simp[a1G],by simp[a1G],by simp[a1G]⟩
theorem c2o(h:-1048576≤x∧x≤1048575):v0a (u0z x (-1048576)) 1048575=x:=by
 unfold v0a u0z;have g:decide ((-1048576:Int) > x)=false:=decide_eq_false (by omega);have f:decide ((1048575:Int)<x)=false:=decide_eq_false (by omega);simp only[g,cF,f]
theorem c8c(h:a0A x=true):-1048576≤z0h .i64 x ((10:Nat):Int)∧z0h .i64 x ((10:Nat):Int)≤1048575:=by
 have g:=a1z.1 h;have e:z0h .i64 x ((10:Nat):Int)=x / 1024:=by
  show b09 x 1024=_;exact a32 _ (by decide)
 rw[e];omega
theorem b8p{x:Int}(f:a0A x=true){a l:List Int}{n i:Int}:∀(k s:Nat),s+k=10→∃s':Nat,s'≤10∧x0r a2Z (a,(s:Int),x,l,n,i,())=some (a,(s':Int),l,n,i,())
 |0,s,h=>by
  obtain rfl:s=10:=by omega
  have g:decide (((10:Nat):Int)<0)=false:=by decide
  have d:=c2o (c8c f);refine⟨10,a24 _,a0H ?_⟩;simp only[a2Z,g,cF,a2k,oB,d,bne_self_eq_false]
 |k+1,s,h=>by
  have g:decide ((s:Int)<0)=false:=decide_eq_false (by omega);cases hc:(v0a (u0z (z0h .i64 x (s:Int)) (-1048576)) 1048575 != z0h .i64 x (s:Int))with
  |false=>exact⟨s,by omega,a0H (by simp only[a2Z,g,cF,a2k,oB,hc])⟩
  |true=>
   obtain⟨s',b,c⟩:=b8p f (a:=a) (l:=l) (n:=n) (i:=i) k (s+1) (by omega);refine⟨s',b,?_⟩;rw[a0I (s':=(a,((s+1:Nat):Int),x,l,n,i,())) (by simp only[a2Z,g,cF,a2k,oB,hc,cT,a0C (show s<1000000 by omega)])];exact c
theorem c1f(y:l.all a0A=true)(A:l.length<100000):∃r,a6C l=some r∧r.length=l.length:=by
 obtain⟨b,t,s,z,x⟩:=a6v (f:=a4t) (fun i st=>∃s:Nat,s≤10∧st=(l,(s:Int),l,(l.length:Int),(i:Int),())) (fun b=>∃s:Nat,s≤10∧b=(l,(s:Int),())) l.length
  (fun i st g h=>by
   obtain⟨s,u,rfl⟩:=h;obtain⟨s',p,e⟩:=b8p (lA.1 y _ (a07 g)) (a:=l) (l:=l) (n:=(l.length:Int)) (i:=(i:Int)) (10-s) s (by omega);exact⟨_,by simp only[a4t,dlt g,cT,a0B g,oB,e,a0C (show i<1000000 by omega)]<;>rfl,s',p,rfl⟩)
  (fun st h=>by
   obtain⟨s,u,rfl⟩:=h;exact⟨_,by simp only[a4t,dge,cF]<;>rfl,s,u,rfl⟩) l.length 0 _ (by omega) ⟨0,by omega,rfl⟩
 subst x;obtain⟨c,q,o,v,w⟩:=a6v (f:=a4u) (fun i st=>∃o:List Int,st=((s:Int),l,(l.length:Int),(i:Int),o,())∧o.length=l.length) (fun b=>∃o:List Int,b=(o,())∧o.length=l.length) l.length
  (fun i st g h=>by
   obtain⟨o,rfl,m⟩:=h;have k:decide ((s:Int)<0)=false:=decide_eq_false (by omega);have d:decide ((0:Int)≤(i:Int))=true:=by simp
   have j:decide ((i:Int)<((o.length:Nat):Int))=true:=decide_eq_true (by omega);exact⟨_,by simp only[a4u,dlt g,cT,a0B g,oB,k,cF,d,j,a03,a0C (show i<1000000 by omega)]<;>rfl,_,rfl,by simp[m]⟩)
  (fun st h=>by
   obtain⟨o,rfl,m⟩:=h;exact⟨_,by simp only[a4u,dge,cF]<;>rfl,o,rfl,m⟩) l.length 0 _ (by omega) ⟨a01 l.length 0,rfl,by simp⟩
 subst v;refine⟨o,?_,w⟩;have k:decide ((0:Int)≤((l.length:Nat):Int))=true:=by simp
 have d:decide (((l.length:Nat):Int)≤((l.length:Nat):Int))=true:=by simp
 have j:lim l.length=true:=a0Q (by omega);simp only[nZ]at t q;unfold a6C;simp only[t,oB,k,d,j,tN,a03,cT,q]
theorem b6Z:∀(N:Nat)(num den:Int),den.toNat≤N→∃a b,x0r a2R (num,den,())=some (a,b,())
 |N,num,den,h=>by
  by_cases hd:den≥1099511627776
  ·have g:decide (den≥(1099511627776:Int))=true:=decide_eq_true hd;have e:z0h .i64 den 1=den / 2:=by
    show b09 den 2=_;exact a32 _ (by decide)
   rw[a0I (s':=(z0h .i64 num 1,den / 2,())) (by simp only[a2R,g,cT,e])]
   match N with
   |0=>omega
   |N+1=>exact b6Z N _ _ (by omega)
  have g:decide (den≥(1099511627776:Int))=false:=decide_eq_false hd;exact⟨num,den,a0H (by simp only[a2R,g,cF])⟩
theorem b7a{f g:List Int}(u:1≤m)(r:g.length=f.length)(t:f.length<100000)(q:m<1000):∃k,a4c (f,g,(m:Int))=some k:=by
 obtain⟨b,n,d,den,o⟩:=a6v (f:=a2Q) (fun i st=>∃d den:Int,st=(f,g,d,den,((m+i:Nat):Int),())) (fun b=>∃d den:Int,b=(d,den,())) (f.length-m)
  (fun i st s h=>by
   obtain⟨d,den,rfl⟩:=h;have j:m+i<f.length:=by omega
   have e:wrap .i64 (((m+i:Nat):Int)-1)=((m+i-1:Nat):Int):=by rw[a0D (by omega)];omega
   exact⟨_,by simp only[a2Q,dlt j,cT,a0B j,e,a0B (show m+i-1<g.length by omega),oB,a0C (show m+i<1000000 by omega)]<;>rfl,_,_,rfl⟩)
  (fun st h=>by
   obtain⟨d,den,rfl⟩:=h;have l:decide (((m+(f.length-m):Nat):Int)<((f.length:Nat):Int))=false:=decide_eq_false (by omega);exact⟨_,by simp only[a2Q,l,cF]<;>rfl,_,_,rfl⟩) (f.length-m) 0 (f,g,0,0,(m:Int),()) (by omega) ⟨0,0,rfl⟩
 subst o;obtain⟨a,c,p⟩:=b6Z den.toNat d den (a24 _);unfold a4c;simp only[n,oB,p];cases hc:(c==0)with
 |true=>exact⟨0,rfl⟩
 |false=>
  simp only[cF];cases decide ((z0g .i64 a 15).tmod c<0)<;>exact⟨_,rfl⟩
theorem b8W{f g:List Int}{order:Int}(y:1≤m)(u:g.length=f.length)(x:f.length<100000)(v:m<1000):
  ∃f' a:List Int,x0r a2H (order,(m:Int),k,((f.length:Nat):Int)-1,f,g,ks,())=some (order,(m:Int),f',a,ks,())∧f'.length=f.length∧a.length=f.length:=by
 obtain⟨b,l,f',a,s,t⟩:=a6v (f:=a2H) (fun i st=>∃f' a:List Int,st=(order,(m:Int),k,((f.length:Nat):Int)-1-(i:Int),f',a,ks,())∧f'.length=f.length∧a.length=f.length)
  (fun b=>∃f' a:List Int,b=(order,(m:Int),f',a,ks,())∧f'.length=f.length∧a.length=f.length) (f.length-m)
  (fun i st w h=>by
   obtain⟨f',a,rfl,c,d⟩:=h;have j:decide (((f.length:Nat):Int)-1-(i:Int)≥(m:Int))=true:=decide_eq_true (by omega);have n:decide ((0:Int)≤((f.length:Nat):Int)-1-(i:Int))=true:=decide_eq_true (by omega);have o:decide (((f.length:Nat):Int)-1-(i:Int)<((f'.length:Nat):Int))=true:=decide_eq_true (by omega);have p:decide (((f.length:Nat):Int)-1-(i:Int)<((a.length:Nat):Int))=true:=decide_eq_true (by omega);have e:wrap .i64 (((f.length:Nat):Int)-1-(i:Int)-1)=((f.length:Nat):Int)-1-((i+1:Nat):Int):=by rw[a0D (by omega)];omega
   have q:decide ((0:Int)≤((f.length:Nat):Int)-1-((i+1:Nat):Int))=true:=decide_eq_true (by omega);have r:decide (((f.length:Nat):Int)-1-((i+1:Nat):Int)<((a.length:Nat):Int))=true:=decide_eq_true (by omega);exact⟨_,by simp only[a2H,j,n,o,p,e,q,r,cT,a03,a2k,oB]<;>rfl,_,_,rfl,by simp[c],by simp[d]⟩)
  (fun st h=>by
   obtain⟨f',a,rfl,c,d⟩:=h;have j:decide (((f.length:Nat):Int)-1-((f.length-m:Nat):Int)≥(m:Int))=false:=decide_eq_false (by omega);exact⟨_,by simp only[a2H,j,cF]<;>rfl,f',a,rfl,c,d⟩) (f.length-m) 0 _ (by omega) ⟨f,g,rfl,rfl,u⟩
 subst s;simp only[nZ,Int.sub_zero]at l;exact⟨f',a,l,t⟩
theorem b9P{f g:List Int}(y:o≤32)(v:g.length=f.length)(x:f.length<100000):∃ks:List Int,x0r a2I ((o:Int),(1:Int),f,g,([]:List Int),())=some (ks,())∧ks.length=o:=by
 obtain⟨b,j,ks,r,s⟩:=a6v (f:=a2I) (fun i st=>∃f' a ks:List Int,st=((o:Int),((i+1:Nat):Int),f',a,ks,())∧f'.length=f.length∧a.length=f.length∧ks.length=i)
  (fun b=>∃ks:List Int,b=(ks,())∧ks.length=o) o
  (fun i st w h=>by
   obtain⟨f',a,ks,rfl,l,n,p⟩:=h;have d:decide (((i+1:Nat):Int)≤(o:Int))=true:=decide_eq_true (by omega);obtain⟨k,q⟩:=b7a (f:=f') (g:=a) (m:=i+1) (by omega) (by omega) (by omega) (by omega);have e:wrap .i64 (((f'.length:Nat):Int)-1)=((f'.length:Nat):Int)-1:=a0D (by omega);obtain⟨t,u,j,r,s⟩:=b8W (f:=f') (g:=a) (ks:=ks++[k]) (m:=i+1) (order:=(o:Int)) (k:=k) (by omega) (by omega) (by omega) (by omega);have c:lim (ks.length+1)=true:=a0Q (by omega);exact⟨_,by simp only[a2I,d,cT,q,oB,c,e,a08,j,a0C (show i+1<1000000 by omega)]<;>rfl,t,u,ks++[k],rfl,by omega,by omega,by simp[p]⟩)
  (fun st h=>by
   obtain⟨f',a,ks,rfl,l,n,p⟩:=h;have d:decide (((o+1:Nat):Int)≤(o:Int))=false:=decide_eq_false (by omega);exact⟨_,by simp only[a2I,d,cF]<;>rfl,ks,rfl,p⟩) o 0 _ (by omega) ⟨f,g,[],rfl,rfl,v,rfl⟩
 subst r;exact⟨ks,j,s⟩
theorem b9Q(h:l.all a0A=true)(t:l.length≤4096)(s:1≤o)(m:o≤32):∃ks:List Int,a5E (l,(o:Int))=some (ks,0)∧ks.length=o:=by
 have p:short l:=by unfold short;omega
 obtain⟨r,e,q⟩:=c1f h (by omega);have n:short r:=by unfold short;omega
 obtain⟨ks,i,j⟩:=b9P (f:=r) (g:=r) m rfl (by omega);have k:decide ((o:Int)<1)=false:=decide_eq_false (by omega);have a:decide ((o:Int) > 32)=false:=decide_eq_false (by omega);have b:decide (((l.length:Nat):Int) > 4096)=false:=decide_eq_false (by omega);have c:decide ((0:Int)≤(o:Int))=true:=by simp
 have d:lim o=true:=a0Q (by omega);refine⟨ks,?_,j⟩;unfold a5E;simp only[k,a,b,c,d,cF,cT,oB,a4Z p,h,bT,e,a6U n,tN,a03,i]
theorem b1Y{σ β:Type}{f:σ→Option (σ ⊕ β)}(I:Nat→σ→Prop)(Q:β→Prop)(n:Nat)(a:∀i s,i<n→I i s→(∃s',f s=some (.inl s')∧I (i+1) s')∨(∃b,f s=some (.inr b)∧Q b))
  (g:∀s,I n s→∃b,f s=some (.inr b)∧Q b):∀(k i:Nat)(s:σ),i+k=n→I i s→∃b,x0r f s=some b∧Q b
 |0,i,s,h,hi=>by
  obtain rfl:i=n:=by omega
  obtain⟨b,c,d⟩:=g s hi;exact⟨b,a0H c,d⟩
 |k+1,i,s,h,hi=>by
  rcases a i s (by omega) hi with⟨s',c,d⟩|⟨b,c,d⟩;rw[a0I c];exact b1Y I Q n a g k (i+1) s' (by omega) d;exact⟨b,a0H c,d⟩
theorem c1g(k:ks.length≤32):∃b,x0r a1N (ks,ks,(ks.length:Int),(0:Int),())=some b∧(b=.inl (ks,())∨b=.inr (([]:List Int),(1:Int),())):=
 b1Y (f:=a1N) (fun i s=>s=(ks,ks,(ks.length:Int),(i:Int),())) (fun b=>b=.inl (ks,())∨b=.inr (([]:List Int),(1:Int),())) ks.length
  (fun i s g h=>by
   subst h;cases h1:decide (ks[i]<(-16383:Int))with
   |true=>exact Or.inr ⟨_,by simp only[a1N,dlt g,cT,a0B g,oB,h1]<;>rfl,Or.inr rfl⟩
   |false=>
    cases h2:decide (ks[i] > (16383:Int))with
    |true=>exact Or.inr ⟨_,by simp only[a1N,dlt g,cT,cF,a0B g,oB,h1,h2]<;>rfl,Or.inr rfl⟩
    |false=>exact Or.inl ⟨_,by simp only[a1N,dlt g,cT,cF,a0B g,oB,h1,h2,a0C (show i<1000000 by omega)]<;>rfl,rfl⟩)
  (fun s h=>by
   subst h;exact⟨_,by simp only[a1N,dge,cF]<;>rfl,Or.inl rfl⟩) ks.length 0 _ (by omega) rfl
theorem c1h{c a:List Int}{n:Int}(t:c.length=i)(u:i≤32):
  ∃g:List Int,x0r a3p (c,(i:Int),k,a,n,(i:Int),c,(c.length:Int),(0:Int),([]:List Int),())=some (k,a,n,(i:Int),g,())∧g.length=i:=by
 obtain⟨b,p,g,q,r⟩:=a6v (f:=a3p) (fun j s=>∃g:List Int,s=(c,(i:Int),k,a,n,(i:Int),c,(c.length:Int),(j:Int),g,())∧g.length=j)
  (fun b=>∃g:List Int,b=(k,a,n,(i:Int),g,())∧g.length=c.length) c.length
  (fun j s l h=>by
   obtain⟨g,rfl,e⟩:=h;have m:wrap .i64 ((i:Int)-1)=(i:Int)-1:=a0D (by omega);have o:wrap .i64 ((i:Int)-1-(j:Int))=((i-1-j:Nat):Int):=by rw[a0D (by omega)];omega
   have d:lim (g.length+1)=true:=a0Q (by omega);exact⟨_,by simp only[a3p,dlt l,cT,a0B l,oB,m,o,a0B (show i-1-j<c.length by omega),d,a0C (show j<1000000 by omega),a08]<;>rfl,_,rfl,by simp[e]⟩)
  (fun s h=>by
   obtain⟨g,rfl,e⟩:=h;exact⟨_,by simp only[a3p,dge,cF]<;>rfl,g,rfl,e⟩) c.length 0 _ (by omega) ⟨[],rfl,rfl⟩
 subst q;exact⟨g,p,by omega⟩
theorem c2p(C:1≤ks.length)(w:ks.length≤32):∃c e,a7a ks=some (c,e)∧(e=0→c.length=ks.length):=by
 obtain⟨b,q,t⟩:=c1g w;have l:decide (((ks.length:Nat):Int)<1)=false:=decide_eq_false (by omega);have m:decide (((ks.length:Nat):Int) > 32)=false:=decide_eq_false (by omega);unfold a7a;simp only[l,m,cF,oB,q];rcases t with rfl|rfl;obtain⟨r,d,c,u,v⟩:=a6v (f:=a4S) (fun i s=>∃c:List Int,s=(c,ks,(ks.length:Int),(i:Int),())∧c.length=i) (fun r=>∃c:List Int,r=(c,())∧c.length=ks.length) ks.length
  (fun i s j h=>by
   obtain⟨c,rfl,g⟩:=h;have p:wrap .i64 ((i:Int)+1)=((i+1:Nat):Int):=a0C (by omega);have o:decide ((0:Int)≤((i+1:Nat):Int))=true:=by simp;omega
   have x:lim (i+1)=true:=a0Q (by omega);obtain⟨B,z,A⟩:=c1h (c:=c) (a:=ks) (i:=i) (k:=ks[i]) (n:=(ks.length:Int)) g (by omega);have y:lim (B.length+1)=true:=a0Q (by omega);exact⟨_,by simp only[a4S,dlt j,cT,a0B j,oB,p,o,tN,x,a03,z,y,a08]<;>rfl,_,rfl,by simp[A]⟩)
  (fun s h=>by
   obtain⟨c,rfl,g⟩:=h;exact⟨_,by simp only[a4S,dge,cF]<;>rfl,c,rfl,g⟩) ks.length 0 _ (by omega) ⟨[],rfl,rfl⟩
 subst u;simp only[nZ]at d;exact⟨c,0,by simp only[d,oB],fun _=>v⟩;exact⟨[],1,rfl,fun h=>absurd h (by decide)⟩
theorem c1i{c:List Int}{s:Nat}{half:Int}(m:c.length≤32)(e:w≤32):
  ∃out:List Int,x0r a1P (c,(w:Int),(s:Int),half,c,(c.length:Int),(0:Int),([]:List Int),())=some (c,(w:Int),(s:Int),out,()):=by
 obtain⟨b,i,out,l⟩:=b1Y (f:=a1P) (fun j st=>∃out:List Int,st=(c,(w:Int),(s:Int),half,c,(c.length:Int),(j:Int),out,())∧out.length=j)
  (fun b=>∃out:List Int,b=(c,(w:Int),(s:Int),out,())) c.length
  (fun j st k h=>by
   obtain⟨out,rfl,d⟩:=h;have a:decide ((s:Int)<0)=false:=decide_eq_false (by omega);have g:lim (out.length+1)=true:=a0Q (by omega);cases hf:a1s (z0h .i64 (wrap .i64 (c[j]+half)) (s:Int)) (w:Int)with
   |true=>exact Or.inl ⟨_,by simp only[a1P,dlt k,cT,a0B k,oB,a,cF,a5q e,hf,bT,g,a0C (show j<1000000 by omega),a08]<;>rfl,_,rfl,by simp[d]⟩
   |false=>exact Or.inr ⟨_,by simp only[a1P,dlt k,cT,a0B k,oB,a,cF,a5q e,hf,a18]<;>rfl,out,rfl⟩)
  (fun st h=>by
   obtain⟨out,rfl,d⟩:=h;exact⟨_,by simp only[a1P,dge,cF]<;>rfl,out,rfl⟩) c.length 0 _ (by omega) ⟨[],rfl,rfl⟩
 subst l;exact⟨out,i⟩
theorem c1j{c:List Int}{w:Int}(k:c.length≤32):∃b,x0r a1O (c,w,c,(c.length:Int),(0:Int),())=some b∧(b=.inl (c,w,())∨b=.inr ((0:Int),(1:Int),([]:List Int),())):=
 b1Y (f:=a1O) (fun i s=>s=(c,w,c,(c.length:Int),(i:Int),())) (fun b=>b=.inl (c,w,())∨b=.inr ((0:Int),(1:Int),([]:List Int),())) c.length
  (fun i s g h=>by
   subst h;cases h1:decide (c[i]<(-35184372088832:Int))with
   |true=>exact Or.inr ⟨_,by simp only[a1O,dlt g,cT,a0B g,oB,h1]<;>rfl,Or.inr rfl⟩
   |false=>
    cases h2:decide (c[i] > (35184372088832:Int))with
    |true=>exact Or.inr ⟨_,by simp only[a1O,dlt g,cT,cF,a0B g,oB,h1,h2]<;>rfl,Or.inr rfl⟩
    |false=>exact Or.inl ⟨_,by simp only[a1O,dlt g,cT,cF,a0B g,oB,h1,h2,a0C (show i<1000000 by omega)]<;>rfl,rfl⟩)
  (fun s h=>by
   subst h;exact⟨_,by simp only[a1O,dge,cF]<;>rfl,Or.inl rfl⟩) c.length 0 _ (by omega) rfl
theorem c2q{c:List Int}(B:1≤c.length)(q:c.length≤32)(D:2≤w∧w≤16):∃o sh e,a7b (c,(w:Int))=some (o,sh,e)∧(e=0→o.length=c.length):=by
 obtain⟨b,y,z⟩:=c1j (w:=(w:Int)) q;have t:decide (((c.length:Nat):Int)<1)=false:=decide_eq_false (by omega);have u:decide (((c.length:Nat):Int) > 32)=false:=decide_eq_false (by omega);have v:decide ((w:Int)<2)=false:=decide_eq_false (by omega);have x:decide ((w:Int) > 16)=false:=decide_eq_false (by omega);unfold a7b;simp only[t,u,v,x,cF,oB,y];rcases z with rfl|rfl
 ·obtain⟨r,p,A⟩:=b1Y (f:=a1Q) (fun i s=>s=(c,(w:Int),(i:Int),())) (fun r=>r=.inl ()∨∃(sh:Int)(o:List Int),r=.inr (sh,(0:Int),o,())∧o.length=c.length) 15
   (fun i s C h=>by
    subst h;have d:decide ((i:Int)≤14)=true:=decide_eq_true (by omega);have j:decide ((0:Int)≤((c.length:Nat):Int))=true:=by simp
    have l:lim c.length=true:=a0Q (by omega);have k:∀g:Int,∃o:List Int,x0r a1P (c,(w:Int),(i:Int),g,c,(c.length:Int),(0:Int),([]:List Int),())=some (c,(w:Int),(i:Int),o,()):=fun g=>c1i q (by omega)
    by_cases hp:(i:Int) > 0
    ·have n:wrap .i64 ((i:Int)-1)=(i:Int)-1:=a0D (by omega);have m:decide ((i:Int)-1<0)=false:=decide_eq_false (by omega);obtain⟨o,a⟩:=k (z0g .i64 1 ((i:Int)-1));cases hc:((((o.length:Nat):Int))==((c.length:Nat):Int))with
     |true=>exact Or.inr ⟨_,by simp only[a1Q,d,cT,hp,decide_true,n,m,cF,oB,j,tN,l,a03,a,hc]<;>rfl,Or.inr ⟨_,o,rfl,by have:=beq_iff_eq.1 hc;omega⟩⟩
     |false=>exact Or.inl ⟨_,by simp only[a1Q,d,cT,hp,decide_true,n,m,cF,oB,j,tN,l,a03,a,hc,a0C (show i<1000000 by omega)]<;>rfl,rfl⟩
    ·obtain⟨o,a⟩:=k 0;cases hc:((((o.length:Nat):Int))==((c.length:Nat):Int))with
     |true=>exact Or.inr ⟨_,by simp only[a1Q,d,cT,hp,decide_false,cF,oB,j,tN,l,a03,a,hc]<;>rfl,Or.inr ⟨_,o,rfl,by have:=beq_iff_eq.1 hc;omega⟩⟩
     |false=>exact Or.inl ⟨_,by simp only[a1Q,d,cT,hp,decide_false,cF,oB,j,tN,l,a03,a,hc,a0C (show i<1000000 by omega)]<;>rfl,rfl⟩)
   (fun s h=>by
    subst h;have d:decide (((15:Nat):Int)≤14)=false:=by decide
    exact⟨_,by simp only[a1Q,d,cF]<;>rfl,Or.inl rfl⟩) 15 0 (c,(w:Int),(0:Int),()) (by omega) rfl
  rcases A with rfl|⟨sh,o,rfl,a⟩;exact⟨[],0,6,by simp only[p,oB],fun h=>absurd h (by decide)⟩;exact⟨o,sh,0,by simp only[p,oB],fun _=>a⟩
 exact⟨[],0,1,rfl,fun h=>absurd h (by decide)⟩
theorem c3h(q:l.all a0A=true)(p:l.length≤4096)(j:1≤o)(m:o≤32)(n:2≤w∧w≤16):∃c sh e,a3j (l,(o:Int),(w:Int))=some (c,sh,e)∧(e=0→c.length=o):=by
 obtain⟨ks,a,s⟩:=b9Q q p j m;obtain⟨c,e,b,g⟩:=c2p (ks:=ks) (by omega) (by omega);unfold a3j;simp only[a,oB,show((0:Int) != 0)=false from rfl,cF,b]
 by_cases he:e=0
 subst he;obtain⟨r,sh,k,d,i⟩:=c2q (c:=c) (w:=w) (by have:=g rfl;omega) (by have:=g rfl;omega) n
 have:=g rfl
 exact⟨r,sh,k,by simp only[show((0:Int) != 0)=false from rfl,cF,d,oB],fun h=>by have:=i h;omega⟩;have f:(e != 0)=true:=by simpa using he
 exact⟨[],0,e,by simp only[f,cT],fun h=>absurd h he⟩
theorem c2r(c:l.length<100000)(d:o≤4):∃v,a7P (l,(o:Int))=some v:=by
 obtain⟨b,k,v,a⟩:=a6v (f:=a3P) (fun i s=>∃v:Int,s=((o:Int),v,l,(l.length:Int),(i:Int),())) (fun b=>∃v:Int,b=(v,())) l.length
  (fun i s g h=>by
   obtain⟨v,rfl⟩:=h;cases hc:decide (wrap .i64 ((i:Int)+(o:Int))≥4)with
   |true=>exact⟨_,by simp only[a3P,dlt g,cT,a0B g,oB,hc,a0C (show i<1000000 by omega)]<;>rfl,_,rfl⟩
   |false=>exact⟨_,by simp only[a3P,dlt g,cT,cF,a0B g,oB,hc,a0C (show i<1000000 by omega)]<;>rfl,_,rfl⟩)
  (fun s h=>by
   obtain⟨v,rfl⟩:=h;exact⟨_,by simp only[a3P,dge,cF]<;>rfl,v,rfl⟩) l.length 0 ((o:Int),(0:Int),l,(l.length:Int),(0:Int),()) (by omega) ⟨0,rfl⟩
 subst a;refine⟨v,?_⟩;unfold a7P;simp only[k,oB]
theorem b7b(k:o≤4)(b:l.length<100000)(a:l.all a0A=true):∃r e,a3O (l,(o:Int))=some (r,e)∧r.length≤l.length:=by
 by_cases hn:o≤l.length
 ·rw[b4C k hn (by unfold short;omega) a];cases (a1E o l).all a0A with
  |true=>exact⟨_,_,rfl,by rw[a4O];omega⟩
  |false=>exact⟨_,_,rfl,by simp⟩
 have h:decide ((o:Int)<0)=false:=decide_eq_false (by omega);have g:decide ((o:Int) > 4)=false:=decide_eq_false (by omega);have f:decide (((l.length:Nat):Int)<(o:Int))=true:=decide_eq_true (by omega);exact⟨[],1,by unfold a3O;simp only[h,g,f,cF,cT,oB],by simp⟩
theorem b7c(n:l.length<100000)(p:l.all a0A=true):∃o:Nat,a5c l=some (o:Int)∧o≤4:=by
 obtain⟨b,d,o,j,m⟩:=a6v (f:=a2q) (fun i s=>∃(o:Nat)(v:Int),s=(l,(o:Int),v,(i:Int),())∧o≤4) (fun b=>∃o:Nat,b=((o:Int),())∧o≤4) 5
  (fun i s t h=>by
   obtain⟨o,v,rfl,a⟩:=h;have g:decide ((i:Int)≤4)=true:=decide_eq_true (by omega);obtain⟨r,e,k,q⟩:=b7b (o:=i) (by omega) n p;obtain⟨y,c⟩:=c2r (l:=r) (o:=i) (by omega) (by omega);cases hc:(e != 0)with
   |true=>exact⟨_,by simp only[a2q,g,cT,k,oB,hc,a0C (show i<1000000 by omega)]<;>rfl,o,v,rfl,a⟩
   |false=>
    cases h4:decide (v<0)with
    |true=>exact⟨_,by simp only[a2q,g,cT,cF,k,oB,hc,c,h4,a0C (show i<1000000 by omega)]<;>rfl,i,y,rfl,by omega⟩
    |false=>
     cases h5:decide (y<v)with
     |true=>exact⟨_,by simp only[a2q,g,cT,cF,k,oB,hc,c,h4,h5,a0C (show i<1000000 by omega)]<;>rfl,i,y,rfl,by omega⟩
     |false=>exact⟨_,by simp only[a2q,g,cT,cF,k,oB,hc,c,h4,h5,a0C (show i<1000000 by omega)]<;>rfl,o,v,rfl,a⟩)
  (fun s h=>by
   obtain⟨o,v,rfl,a⟩:=h;have g:decide (((5:Nat):Int)≤4)=false:=by decide
   exact⟨_,by simp only[a2q,g,cF]<;>rfl,o,rfl,a⟩) 5 0 (l,(0:Int),(-1:Int),(0:Int),()) (by omega) ⟨0,-1,rfl,by omega⟩
 subst j;refine⟨o,?_,m⟩;unfold a5c;simp only[d,oB]
def a7Z(g:List Int→Int):List Int→List Int→List Int
 | [],_=>[]
 |x::r,done=>W (x-g done)::a7Z g r (done++[x])
theorem b1Z(g:List Int→Int):∀r done,(a7Z g r done).length=r.length
 | [],_=>rfl
 |x::r,done=>by simp[a7Z,b1Z g r]
theorem c3i(h:a0A x=true):W (W (x-g)+g)=x:=by
 have:=b4X h
 simp_all[a6T]
theorem b3S(g:List Int→Int):∀(r done:List Int),r.all a0A=true→a3x g (a7Z g r done) done=some (done++r)
 | [],done,_=>by simp[a7Z,a3x]
 |x::r,done,h=>by
  rw[a06,bA]at h;simp only[a7Z,a3x,c3i h.1,h.1,cT,b3S g r (done++[x]) h.2,aA,a60]
def a9U(g:List Int→Int)(r done:List Int):Option (List Int):=bif (a7Z g r done).all a0A then some (a7Z g r done)else none
def b2A{β:Type}(g:List Int→Int)(bad:β)(a:List Int×List Int)(x:Int):(List Int×List Int) ⊕ β:=
 bif a0A (W (x-g a.1))then .inl (a.1++[x],a.2++[W (x-g a.1)])else .inr bad
theorem b3T{β:Type}(g:List Int→Int)(f:β)(k:List Int×List Int→β):∀(r done acc:List Int),
  a7x k (a2u (b2A g f) r (done,acc))=match a9U g r done with|some e=>k (done++r,acc++e)|none=>f
 | [],done,acc=>by grind[a2u,a7x,a9U,a7Z]
 |x::r,done,acc=>by
  simp[a2u,b2A];cases h:a0A (W (x-g done))with
  |true=>
   simp
   rw[b3T g f k r];simp only[a9U,a7Z,a06,h,a34]
   grind
  |false=>simp_all[a7x,a9U,a7Z]
theorem b7d{g:List Int→Int}{done e:List Int}(h:a9U g r done=some e):e=a7Z g r done∧e.all a0A=true:=by
 unfold a9U at h
 grind
theorem b8q(h:i<l.length):l.take i++[l[i]]=l.take (i+1):=by simp
theorem b3U{l:List Int}{p:Int→Bool}(h:l.all p=true)(i:Nat):(l.take i).all p=true:=by
 grind
theorem c3Z{p:Int→Bool}(h:l.all p=true)(i:Nat):(l.drop i).all p=true:=by
 grind
theorem b8r{σ β:Type}{f:σ→Option (σ ⊕ β)}(l:List Int)(k:Nat)(r:k≤l.length)(S:Nat→List Int→σ)(g:List Int×List Int→Int→(List Int×List Int) ⊕ β)(d:List Int→β)
  (j:∀i (h:i<l.length) c,k≤i→c.length=i-k→(∀a',g (l.take i,c) l[i]=.inl a'→f (S i c)=some (.inl (S (i+1) a'.2))∧a'.1=l.take (i+1)∧a'.2.length=i+1-k)∧(∀b,g (l.take i,c) l[i]=.inr b→f (S i c)=some (.inr b)))
  (e:∀c,c.length=l.length-k→f (S l.length c)=some (.inr (d c))):x0r f (S k [])=some (a7x (fun a=>d a.2) (a2u g (l.drop k) (l.take k,[]))):=by
 have h:=a1I (f:=f) (l.drop k) (fun i a=>S (k+i) a.2) g (fun i a=>a.1=l.take (k+i)∧a.2.length=i) (fun a=>d a.2)
  (fun i p a n=>by
   obtain⟨a1,c⟩:=a;obtain⟨m,o⟩:=n;simp only at m o;subst m;rw[a45]at p;have q:k+i<l.length:=by omega
   grind)
  (fun a n=>by
   simp_all) (a:=(l.take k,[])) ⟨by simp,rfl⟩
 omega
def b3V(l c:List Int)(s:Int):Option (List Int):=bif l.all a0A then a9U (a9h c s) (l.drop c.length) (l.take c.length)else none
theorem b3u{c:List Int}{s:Int}(w:a8c c s=true)(u:c.length≤l.length)(z:l.length<100000):
  a5X (l,c,s)=some (a4i (b3V l c s)):=by
 have n:short l:=by unfold short;omega
 have k:short c:=by unfold short;omega
 have e:0≤s:=by simp_all[a8c]
 have p:decide (((l.length:Nat):Int)<((c.length:Nat):Int))=false:=by simp_all
 unfold a5X b3V;simp only[a7W k,w,oB,bT,cF,p,a4Z n];cases hw:l.all a0A with
 |false=>rfl
 |true=>
  have q:wrap .i64 (((l.length:Nat):Int)-((c.length:Nat):Int))=((l.length-c.length:Nat):Int):=by grind[a0D]
  have y:decide ((0:Int)≤((l.length-c.length:Nat):Int))=true:=by simp
  have r:lim (l.length-c.length)=true:=a0Q (by omega);simp[q,r]
  have:=b8r (f:=a3T) l c.length u (fun i h=>(l,c,s,(i:Int),h,())) (b2A (a9h c s) (.inr ((6:Int),([]:List Int),()))) (fun h=>.inl (h,()))
   (fun i a h v d=>by
    have o:short (l.take i):=by unfold short;grind
    have j:decide ((0:Int)≤(i:Int))=true:=by simp
    have m:decide ((i:Int)≤((l.length:Nat):Int))=true:=by grind
    have t:lim (h.length+1)=true:=a0Q (by omega);constructor
    ·intro x g;unfold b2A at g;cases hq:a0A (W (l[i]-a9h c s (l.take i)))with
     |false=>simp_all
     |true=>
      simp only[hq,cT,Sum.inl.injEq]at g;subst g;refine⟨?_,b8q a,by grind⟩;simp only[a3T,dlt a,cT,a0B a,oB,j,m,a03,tN,b3K o k e,a5m,hq,bT,cF,t,a0C (a43 a n),a08]
    ·intro b hb;unfold b2A at hb;cases hq:a0A (W (l[i]-a9h c s (l.take i)))with
     |true=>simp_all
     |false=>
      simp[hq]at hb;subst hb;simp only[a3T,dlt a,cT,a0B a,oB,j,m,a03,tN,b3K o k e,a5m,hq,a18])
   (fun h d=>by simp[a3T])
  rw[this,b3T];cases a9U (a9h c s) (l.drop c.length) (l.take c.length)<;>rfl
theorem b3W{c:List Int}{s:Int}(h:b3V l c s=some r):b1N (l.take c.length) r c s=some l∧r.all a0A=true∧r.length=l.length-c.length:=by
 unfold b3V at h;cases hw:l.all a0A with
 |false=>simp_all
 |true=>
  simp[hw]at h;obtain⟨e,g⟩:=b7d h;refine⟨?_,g,by simp_all[b1Z]⟩;simp[b1N,b3U hw,g]
  grind[b3S,List.take_append_drop]
def b3v(l:List Int)(lag:Int)(t:List Int):Option (List Int):=bif l.all a0A then a9U (a7X lag t) l []else none
theorem b9R{t:List Int}{lag:Int}(p:a9P lag t=true)(d:t.length=3)(s:l.length<100000):
  a7C (l,lag,t)=some (a4i (b3v l lag t)):=by
 have c:short l:=by unfold short;omega
 obtain⟨j,m⟩:2≤lag∧lag≤1024:=by simp_all[a9P]
 unfold a7C b3v;simp only[b2Q d,p,oB,bT,cF,b2p c];cases hw:l.all a0A with
 |false=>rfl
 |true=>
  have r:decide ((0:Int)≤((l.length:Nat):Int))=true:=by simp
  have e:lim l.length=true:=a0Q (by omega);simp[e]
  have:=b8r (f:=a5d) l 0 (Nat.zero_le _) (fun i h=>(l,lag,l,(l.length:Int),(i:Int),h,t,())) (b2A (a7X lag t) (.inr ((6:Int),([]:List Int),()))) (fun h=>.inl (h,()))
   (fun i a h o k=>by
    have n:lim (h.length+1)=true:=a0Q (by omega);have hp:=b2r (lag:=lag) (t:=t) (Nat.le_of_lt a) c d j m;constructor
    ·intro q g;unfold b2A at g;cases hq:a0A (W (l[i]-a7X lag t (l.take i)))with
     |false=>simp_all
     |true=>
      simp only[hq,cT,Sum.inl.injEq]at g;subst g;refine⟨?_,b8q a,by simp_all⟩;simp only[a5d,dlt a,cT,a0B a,oB,hp,a6S,hq,bT,cF,n,a0C (a43 a c),a08]
    ·intro b hb;unfold b2A at hb;cases hq:a0A (W (l[i]-a7X lag t (l.take i)))with
     |true=>simp_all
     |false=>
      simp_all[a5d,a0B,a6S])
   (fun h k=>by simp[a5d])
  simp only[nZ]at this;rw[this,b3T,a31,List.take_zero];cases a9U (a7X lag t) l []<;>rfl
theorem b5b{t:List Int}{lag:Int}(h:b3v l lag t=some r):b2t r lag t=some l∧r.all a0A=true∧r.length=l.length:=by
 unfold b3v at h;cases hw:l.all a0A with
 |false=>simp_all
 |true=>
  simp[hw]at h;obtain⟨e,g⟩:=b7d h;refine⟨?_,g,by rw[e,b1Z]⟩;simp[b2t,g];simp_all[b3S]
def rsG:List Int→Fil→List Int
 | [],_=>[]
 |x::r,f=>W (x-a1c f)::rsG r (b1m f x)
theorem b3X:∀r f,(rsG r f).length=r.length
 | [],_=>rfl
 |x::r,f=>by simp[rsG,b3X r]
def rsO:List Int→List Int→Fil→Option (List Int)
 | [],done,_=>some done
 |x::r,done,f=>bif a0A (W (x-a1c f))then rsO r (done++[W (x-a1c f)]) (b1m f x)else none
theorem c3j:∀(r done:List Int)(f:Fil),rsO r done f=bif (rsG r f).all a0A then some (done++rsG r f)else none
 | [],done,f=>by simp[rsO,rsG]
 |x::r,done,f=>by
  simp only[rsO,rsG,a06];cases a0A (W (x-a1c f))with
  |false=>rfl
  |true=>simp only[cT,a34,c3j r,aA,a60]
theorem c1v:∀(r z:List Int)(f:Fil),r.all a0A=true→stO (rsG r f) z f=some (z++r)
 | [],z,f,_=>by simp[rsG,stO]
 |x::r,z,f,h=>by
  rw[a06,bA]at h;have e:W (a1c f+W (x-a1c f))=x:=by rw[Int.add_comm];exact c3i h.1
  simp only[rsG,stO,e,h.1,cT,c1v r _ _ h.2,aA,a60]
theorem b2B{row:List Int}{a:List Stg}{b c:Int}(l:short row):∀(k i:Nat)(done:List Int)(f:Fil),i+k=row.length→done.length=i→FilOk f→
  x0r a4y (a,b,c,(row.length:Int),(i:Int),done++row.drop i,f,())=some (match rsO (row.drop i) done f with
   |some r=>.inl (a,b,c,r,())
   |none=>.inr ((6:Int),([]:List Int),()))
 |0,i,done,f,h,hd,hf=>by
  obtain rfl:i=row.length:=by omega
  rw[a81,a29];exact a0H (b:=Sum.inl (a,b,c,done,())) (by simp[a4y])
 |k+1,i,done,f,h,hd,hf=>by
  have g:i<row.length:=by omega
  have n:row.length<1000000:=l;have e:decide ((0:Int)≤(i:Int))=true:=by simp
  have m:(done++row.drop i).length=row.length:=by simp;omega
  have j:decide ((i:Int)<(((done++row.drop i).length:Nat):Int))=true:=by rw[m];simp;omega
  have d:rsO (row.drop i) done f=bif a0A (W (row[i]-a1c f))then rsO (row.drop (i+1)) (done++[W (row[i]-a1c f)]) (b1m f row[i])else none:=by
   rw[a05 g];rfl
  rw[d];cases hw:a0A (W (row[i]-a1c f))with
  |true=>
   rw[a0I (s':=(a,b,c,(row.length:Int),((i+1:Nat):Int),(done++[W (row[i]-a1c f)])++row.drop (i+1),b1m f row[i],())) (by
    simp only[a4y,dlt g,e,j,cT,a03,a5n hf,oB,tN,b2u hd g,a4p,hw,bT,cF,b4x hf,b9x hd g,a0C (show i<1000000 by omega)])]
   exact b2B l k (i+1) _ _ (by omega) (by simp;omega) (b9w hf _)
  |false=>
   exact a0H (by
    simp only[a4y,dlt g,e,j,cT,a03,a5n hf,oB,tN,b2u hd g,a4p,hw,a18];rfl)
def lRO:List Stg→List Int→Option (List Int)
 | [],row=>some row
 |s::r,row=>match rsO row [] (a9i s)with
  |some row'=>lRO r row'
  |none=>none
theorem b9S{row:List Int}{f:Fil}(h:rsO row [] f=some d):d=rsG row f∧d.all a0A=true:=by
 rw[c3j]at h;cases hc:(rsG row f).all a0A with
 |true=>simp only[hc,cT,a04,sj]at h;subst h;exact⟨rfl,hc⟩
 |false=>simp[hc]at h
theorem b8s:∀(a b:List Stg)(row:List Int),lO (a++b) row=match lO a row with|some r=>lO b r|none=>none
 | [],b,row=>rfl
 |s::a,b,row=>by
  simp only[a61,lO];split;exact b8s a b _;rfl
theorem b9T:∀(st:List Stg)(row d:List Int),row.all a0A=true→lRO st row=some d→lO st.reverse d=some row∧d.all a0A=true∧d.length=row.length
 | [],row,d,hw,h=>by
  simp only[lRO,sj]at h;subst h;exact⟨rfl,hw,rfl⟩
 |s::st,row,d,hw,h=>by
  simp only[lRO]at h
  split at h
  rename_i g c;obtain⟨e,f⟩:=b9S c;obtain⟨k,a,b⟩:=b9T st g d f h;refine⟨?_,a,by rw[b,e,b3X]⟩;rw[List.reverse_cons,b8s,k];simp only[lO];rw[e,c1v row [] _ hw,a04];cases h
theorem b0Y{st:List Stg}(i:∀s∈st,stageB s=true)(l:st.length≤3):∀(j k:Nat)(row:List Int),k+j=st.length→short row→
  x0r a4z (st,(st.length:Int),(k:Int),row,())=some (match lRO (st.drop k) row with
   |some r=>.inl (r,())
   |none=>.inr ((6:Int),([]:List Int),()))
 |0,k,row,h,hs=>by
  obtain rfl:k=st.length:=by omega
  rw[a81];exact a0H (by simp[a4z,lRO])
 |j+1,k,row,h,hs=>by
  have f:k<st.length:=by omega
  have g:=i _ (a07 f);have d:=b2B (a:=st) (b:=(st.length:Int)) (c:=(k:Int)) hs row.length 0 [] (a9i st[k]) (by omega) rfl (c1u g);simp only[nZ,a31,a04]at d;have e:((0:Int) != 0)=false:=rfl;rw[a05 f];simp only[lRO];cases hr:rsO row [] (a9i st[k])with
  |some r=>
   rw[hr]at d;rw[a0I (s':=(st,(st.length:Int),((k+1:Nat):Int),r,())) (by simp only[a4z,dlt f,cT,a0B f,oB,b1P g,e,cF,d,a0C (show k<1000000 by omega)])];exact b0Y i l j (k+1) r (by omega) (by have:=(b9S hr).1;unfold short at hs⊢;rw[this,b3X];exact hs)
  |none=>
   rw[hr]at d;exact a0H (by simp only[a4z,dlt f,cT,a0B f,oB,b1P g,e,cF,d])
def b1q(l:List Int)(st:List Stg):Option (List Int):=bif l.all a0A then lRO st l else none
theorem b8X{st:List Stg}(k:a7J st=true)(a:l.length<100000):a8v (l,st)=some (a4i (b1q l st)):=by
 have h:=k;simp only[a7J,bA,dT]at h;have f:short st:=by unfold short;omega
 have g:short l:=by unfold short;omega
 unfold a8v b1q;simp only[b1M f,k,oB,bT,cF,b1L g];cases hw:l.all a0A with
 |false=>rfl
 |true=>
  have:=b0Y (lA.1 h.2) h.1 st.length 0 l (by omega) g
  simp only[nZ,a31]at this;simp only[bT,cF,cT,a6U g,oB,this];cases lRO st l<;>rfl
theorem b7e{st:List Stg}(h:b1q l st=some r):b0E r st=some l∧r.all a0A=true∧r.length=l.length:=by
 unfold b1q at h;cases hw:l.all a0A with
 |false=>simp[hw]at h
 |true=>
  simp only[hw,cT]at h;obtain⟨f,g,k⟩:=b9T st l r hw h;exact⟨by simp only[b0E,g,cT,f],g,k⟩
theorem p64{w:Nat}(h:w≤64):((2^w:Nat):Int) ∣ 18446744073709551616:=a23.2 (a68 2 h)
theorem c6t(n:Int):∃q,wrap .i64 n=n+18446744073709551616*q:=by
 rw[a6T,Int.bmod];split;exact⟨-(n / 18446744073709551616),by omega⟩;exact⟨-(n / 18446744073709551616)-1,by omega⟩
theorem c4a(h:w≤64)(n:Int):((2^w:Nat):Int) ∣ wrap .i64 n↔((2^w:Nat):Int) ∣ n:=by
 obtain⟨q,g⟩:=c6t n;rw[g]
 grind[a82,a52,p64]
theorem b8t(h:w≤64)(a:Int):2^w ∣ (a02 64 a).toNat↔((2^w:Nat):Int) ∣ a:=by
 have e:(((a02 64 a).toNat:Nat):Int)=a+18446744073709551616*-(a / 18446744073709551616):=by
  rw[a27];omega
 rw[←a23,e]
 grind[a82,a52,p64]
theorem c2s(w x y:Nat):2^w ∣ (x ||| y)↔2^w ∣ x∧2^w ∣ y:=by
 simp_all[Nat.dvd_iff_mod_eq_zero,Nat.or_mod_two_pow]
theorem c6u(h:w≤64)(a b:Int):((2^w:Nat):Int) ∣ bits .i64 .or a b↔((2^w:Nat):Int) ∣ a∧((2^w:Nat):Int) ∣ b:=by
 show((2^w:Nat):Int) ∣ wrap .i64 ((((a02 64 a) ||| (a02 64 b)).toNat:Nat):Int)↔_;rw[c4a h,a23,a47,c2s,b8t h,b8t h]
def orI(l:List Int)(a:Int):Int:=l.foldl (fun a x=>bits .i64 .or a x) a
theorem b3w{w:Nat}(h:w≤64):∀(l:List Int)(a:Int),((2^w:Nat):Int) ∣ orI l a↔((2^w:Nat):Int) ∣ a∧∀x∈l,((2^w:Nat):Int) ∣ x
 | [],a=>by simp[orI]
 |x::l,a=>by
  show((2^w:Nat):Int) ∣ orI l (bits .i64 .or a x)↔_;rw[b3w h l,c6u h];simp_all[and_assoc]
theorem b9U:∀(l:List Int),(∀x∈l,x=0)→orI l 0=0
 | [],_=>rfl
 |x::l,h=>by
  have g:=h x (a73);subst g;show orI l (bits .i64 .or 0 0)=0;rw[show bits .i64 .or 0 0=0 from by rfl];simp_all[b9U]
theorem c6v(k:l.all a0A=true)(h:∃x∈l,x≠0):orI l 0≠0:=by
 intro e;obtain⟨x,g,f⟩:=h;have b:=((b3w (w:=62) (by omega) l 0).1 (by omega)).2 x g;have a:=a1z.1 (lA.1 k x g);omega
def a7r(l:List Int)(w:Nat):Prop:=
 ((∀x∈l,x=0)∧w=0)∨((∃x∈l,x≠0)∧w≤30∧(∀x∈l,((2^w:Nat):Int) ∣ x)∧(w=30∨∃x∈l,¬ ((2^(w+1):Nat):Int) ∣ x))
theorem c2t{v w:Nat}(h:v≤w){x:Int}(g:((2^w:Nat):Int) ∣ x):((2^v:Nat):Int) ∣ x:=
 Int.dvd_trans (a23.2 (a68 2 h)) g
theorem a7r.unique(hv:a7r l v)(g:a7r l w):v=w:=by
 have d:∀{v w:Nat},v≤30→w≤30→(∀x∈l,((2^w:Nat):Int) ∣ x)→(v=30∨∃x∈l,¬ ((2^(v+1):Nat):Int) ∣ x)→w≤v:=by
  grind[c2t]
 rcases hv with⟨f,hv⟩|⟨⟨x,c,h⟩,hv1,hv2,hv3⟩
 ·rcases g with⟨-,g⟩|⟨⟨x,c,h⟩,-⟩
  all_goals grind
 ·rcases g with⟨f,-⟩|⟨-,k,a,b⟩
  all_goals grind
theorem b9V:∀(n N:Nat),N≤n→0<N→∃k m,N=2^k*(2*m+1)
 |0,N,h,h0=>absurd h0 (by omega)
 |n+1,N,h,h0=>by
  by_cases he:N%2=0
  obtain⟨k,m,e⟩:=b9V n (N / 2) (by omega) (by omega);refine⟨k+1,m,?_⟩;rw[a53,a69 (2^k) 2,a94,←e];omega;exact⟨0,N / 2,by omega⟩
theorem c5C{k:Nat}(h:2^k*(2*m+1)<2^64):(2^k*(2*m+1)) &&& (2^64-2^k*(2*m+1))=2^k:=by
 have hp:1≤2^k:=Nat.one_le_two_pow;have n:k<64:=by
  refine b06 fun g=>?_
  have d:2^64≤2^k:=a16 (by simp) g
  grind
 have e:2^k*(2*m+1)=(2^k*(2*m)+(2^k-1))+1:=by grind
 have l:2^k*(2*m)+(2^k-1)<2^64:=by omega
 refine Nat.eq_of_testBit_eq fun i=>?_
 have a:(2^64-2^k*(2*m+1)).testBit i=(decide (i<64)&&!(2^k*(2*m)+(2^k-1)).testBit i):=by
  rw[e];exact Nat.testBit_two_pow_sub_succ l i
 have f:=a71 (2*m+1) (b:=0) (i:=k) (by omega) i;rw[a97]at f;have c:=a71 (2*m) (b:=2^k-1) (i:=k) (by omega) i;rw[Nat.testBit_and,a,f,c,Nat.testBit_two_pow]
 by_cases d:i<k
 grind
 by_cases h2:k=i
 simp_all;obtain⟨j,rfl⟩:∃j,i=k+(j+1):=⟨i-k-1,by omega⟩;have o:k+(j+1)-k=j+1:=by omega
 have p:(2*m+1) / 2=m:=by omega
 simp_all[Nat.testBit_succ]
theorem c4b:∀k:Nat,k<64→a9r[(2^k*285870213051353865)%18446744073709551616 / 288230376151711744]?=some (k:Int):=by
 have h:∀k:Fin 64,a9r[(2^k.val*285870213051353865)%18446744073709551616 / 288230376151711744]?=some (k.val:Int):=by decide
 exact fun k g=>h ⟨k,g⟩
theorem c1k{k:Nat}:¬ 2^(k+1) ∣ 2^k*(2*m+1):=by
 rintro⟨c,h⟩
 rw[a53,a94]at h
 grind[Nat.eq_of_mul_eq_mul_left]
theorem c4c{N:Nat}(d:0<N)(h:N<18446744073709551616):∃k:Nat,a1t (N:Int)=some (k:Int)∧2^k ∣ N∧¬ 2^(k+1) ∣ N:=by
 obtain⟨k,m,e⟩:=b9V N N (a24 _) d;have n:2^k≤N:=by grind
 have i:k<64:=by
  refine b06 fun g=>?_
  have l:2^64≤2^k:=a16 (by simp) g;omega
 refine⟨k,?_,⟨_,e⟩,e▸c1k⟩;have hb:bits .u64 .and (N:Int) (wrap .u64 (0-(N:Int)))=((2^k:Nat):Int):=by
  have b:wrap .u64 (0-(N:Int))=((18446744073709551616-N:Nat):Int):=by
   grind[wrap,IntKind.bits,IntKind.signed]
  rw[b];show wrap .u64 (((a02 64 (N:Int)) &&& (a02 64 ((18446744073709551616-N:Nat):Int))).toNat:Int)=_;rw[a44,a44,a83,a51,a51,a38 h,a38 (by omega)]
  have:=c5C (k:=k) (m:=m) (by omega)
  rw[←e]at this;rw[show(18446744073709551616:Nat)=2^64 from rfl,this];exact a0S (by omega)
 have j:((N:Int)==0)=false:=by grind
 unfold a1t;rw[hb,j,cF];have f:wrap .u64 (((2^k:Nat):Int)*285870213051353865)=(((2^k*285870213051353865)%18446744073709551616:Nat):Int):=by
  rfl
 have a:=c4b k i;generalize (2^k*285870213051353865)%18446744073709551616=M at f a;have c:=a5w (N:=M) (o:=58) (by omega);rw[f,show(58:Int)=((58:Nat):Int)from rfl,c,show 2^58=288230376151711744 from rfl];generalize M / 288230376151711744=J at a
 grind[a0B,a0D]
theorem c4d(g:n≤62)(c:Int):z0h .i64 (((2^n:Nat):Int)*c) (n:Int)=c:=by
 have hp:0<2^n:=a20 n;have e:min (a21 (n:Int)) (IntKind.bits .i64)=n:=by grind[IntKind.bits]
 have h:((2^n:Nat):Int)=2^n:=by simp
 unfold z0h
 grind[a79]
theorem c1w{l:List Int}(f:short l):∀(k i:Nat)(a:Int),i+k=l.length→x0r a4r (a,l,(l.length:Int),(i:Int),())=some (orI (l.drop i) a,())
 |0,i,a,h=>by
  obtain rfl:i=l.length:=by omega
  simp_all[a0H,a4r,orI]
 |k+1,i,a,h=>by
  have g:i<l.length:=by omega
  have b:l.length<1000000:=f;rw[a05 g,a0I (s':=(bits .i64 .or a l[i],l,(l.length:Int),((i+1:Nat):Int),())) (by
   simp only[a4r,dlt g,cT,a0B g,oB,a0C (show i<1000000 by omega)])]
  exact c1w f k (i+1) _ (by omega)
theorem c1l{l:List Int}{r:Nat}(g:r≤30)(h:r=30∨¬ ((2^(r+1):Nat):Int) ∣ orI l 0):r=30∨∃x∈l,¬ ((2^(r+1):Nat):Int) ∣ x:=by
 grind[b3w,a98]
theorem b6n{l:List Int}(y:short l)(j:l.all a0A=true):∃w:Nat,a3e l=some (w:Int)∧w≤30∧a7r l w:=by
 have a:=c1w y l.length 0 0 (by omega);simp at a;unfold a3e;simp[a]
 by_cases hz:∀x∈l,x=0
 have e:=b9U l hz;exact⟨0,by simp_all,by omega,.inl ⟨hz,rfl⟩⟩
 ·have g:∃x∈l,x≠0:=Classical.byContradiction fun m=>hz fun x g=>Classical.byContradiction fun s=>m ⟨x,g,s⟩;have t:=c6v j g;have n:(orI l 0==0)=false:=by simp_all
  obtain⟨q,u⟩:∃q,wrap .u64 (orI l 0)=orI l 0+18446744073709551616*q:=⟨-(orI l 0 / 18446744073709551616),by
   grind[wrap,IntKind.bits,IntKind.signed]⟩
  obtain⟨B,r2⟩:=b5R (orI l 0);obtain⟨N,d⟩:=a00 B;have b:∀v,v≤64→(2^v ∣ N↔((2^v:Nat):Int) ∣ orI l 0):=fun v hv=>by
   rw[←a23,←d,u]
   grind[a82,a52,p64]
  have h:0<N:=by
   refine Nat.pos_of_ne_zero fun C=>?_
   obtain⟨x,f,A⟩:=g;have E:=((b3w (w:=62) (by omega) l 0).1 ((b 62 (by omega)).1 (by omega))).2 x f;have z:=a1z.1 (lA.1 j x f);omega
  obtain⟨k,p,c,r⟩:=c4c h (by omega);have i:k≤63:=by
   refine Nat.le_of_not_lt fun o=>?_
   have a:2^64≤2^k:=a16 (by simp) (by omega)
   have:=Nat.le_of_dvd h c
   omega
  simp only[n,cF,d,p,oB];have D:v0a (k:Int) 30=((min k 30:Nat):Int):=by rw[c1t];omega
  refine⟨min k 30,by grind,by omega,.inr ⟨g,by omega,?_,?_⟩⟩
  all_goals grind[b3w,Nat.dvd_trans,a68,c1l]
theorem c5D(g:w≤30)(d:l.all a0A=true)(h:a7r l w):a8R (w:Int) l=some (l.map fun x=>z0h .i64 x (w:Int)):=by
 have f:∀x∈l,((2^w:Nat):Int) ∣ x:=by
  rcases h with⟨h,-⟩|⟨-,-,h,-⟩
  all_goals grind[a98]
 have:l.all (a9S (w:Int))=true:=by
  rw[lA];intro x k;obtain⟨c,a⟩:=f x k;have b:a30 x (z0g .i64 1 (w:Int))=0:=by simp_all[b9K]
  simp_all[a9S]
 simp only[a8R,this,cT]
def b5c(k:Nat)(l:List Int):Nat:=(l.map (a4I k)).sum
def rbN(l:List Int):Nat→Nat
 |0=>0
 |i+1=>if b5c (i+1) l<b5c (rbN l i) l then i+1 else rbN l i
theorem b9W(l:List Int):∀i,rbN l i≤i
 |0=>a24 _
 |i+1=>by
  have:=b9W l i
  simp only[rbN]
  split<;>omega
theorem b3Y{k:Nat}(h:k≤25)(f:l.all a0A=true)(g:l.length<10000):a2S ((k:Int),l)=some ((b5c k l:Nat):Int):=b5S h f g
theorem c6w{b:Nat}(h:a<b):decide ((a:Int)<(b:Int))=true:=decide_eq_true (by omega)
theorem c2u{b:Nat}(h:¬ a<b):decide ((a:Int)<(b:Int))=false:=decide_eq_false (by omega)
theorem b5d(g:l.all a0A=true)(h:l.length<10000):a9C l=some ((rbN l 25:Nat):Int):=by
 have:=a2t (f:=a7e) (fun i:Nat=>(l,((rbN l i:Nat):Int),((b5c (rbN l i) l:Nat):Int),((i+1:Nat):Int),())) 25 (b:=(((rbN l 25:Nat):Int),()))
  (fun i n=>by
   have a:decide (((i+1:Nat):Int)≤25)=true:=decide_eq_true (by omega);have d:wrap .i64 (((i+1:Nat):Int)+1)=((i+1+1:Nat):Int):=a0C (by omega);have c:=b3Y (k:=i+1) (by omega) g h
   by_cases hlt:b5c (i+1) l<b5c (rbN l i) l
   simp_all[a7e,rbN];simp only[a7e,a,cT,cF,c,oB,d,c2u hlt,rbN,hlt,if_false])
  (by
   rfl)
 have m:=b3Y (k:=0) (by omega) g h;have j:((0+1:Nat):Int)=1:=rfl;have e:rbN l 0=0:=rfl;simp_all[a9C]
def b1r(l:List Int):Int:=if 5+a0G l*l.length<b5c (rbN l 25) l then 31 else((rbN l 25:Nat):Int)
theorem c2v(l:List Int):kB (b1r l)=true:=by
 have:=b9W l 25
 unfold b1r;split;rfl;simp only[kB,a33,bA,dT];omega
theorem b7f(g:l.all a0A=true)(h:l.length<10000):a7f l=some (b1r l):=by
 have a:=b9W l 25;have f:=b3Y (k:=rbN l 25) a g h;unfold a7f b1r
 by_cases hlt:5+a0G l*l.length<b5c (rbN l 25) l
 simp only[b5d g h,b1W h,f,oB,c6w hlt,cT,hlt,if_true];simp only[b5d g h,b1W h,f,oB,c2u hlt,cF,hlt,if_false]
def a2n:List Nat→List Int→List Int
 | [],_=>[]
 |z::zs,l=>b1r (l.take z)::a2n zs (l.drop z)
theorem b3x:∀zs l,(a2n zs l).length=zs.length
 | [],_=>rfl
 |z::zs,l=>by simp[a2n,b3x zs]
theorem b7g:∀zs l,(a2n zs l).all kB=true
 | [],_=>rfl
 |z::zs,l=>by simp[a2n,b7g zs,c2v]
theorem b4E{zn:List Nat}{n warm most least order:Int}{L:List Int}{a b:Prt}(m:zn.length≤256):∀(j i:Nat)(rest ks:List Int),i+j=zn.length→(zn.drop i).sum=rest.length→rest.all a0A=true→rest.length≤5000→ks.length=i→
  x0r a6D (n,warm,most,L,least,order,rest,((zn.length:Nat):Int),(i:Int),a1h zn,a,b,(order,ks,()),())=some (n,warm,most,L,least,order,a,b,(order,ks++a2n (zn.drop i) rest,()),())
 |0,i,rest,ks,h,_,_,_,_=>by
  obtain rfl:i=zn.length:=by omega
  simp_all[a0H,a6D,a2n]
 |j+1,i,rest,ks,h,hr,hwr,hr5,hki=>by
  have g:i<zn.length:=by omega
  rw[b3O g]at hr;have k:decide ((0:Int)≤(i:Int))=true:=by simp
  have c:decide ((i:Int)<(((a1h zn).length:Nat):Int))=true:=by simp_all[a1n]
  have d:decide ((0:Int)≤((zn[i]:Nat):Int))=true:=by simp
  have e:decide (((zn[i]:Nat):Int)≤((rest.length:Nat):Int))=true:=by grind
  have l:=b7f (b3U hwr zn[i]) (by grind);have f:lim (ks.length+1)=true:=a0Q (by omega);rw[a05 g,a0I (s':=(n,warm,most,L,least,order,rest.drop zn[i],((zn.length:Nat):Int),((i+1:Nat):Int),a1h zn,a,b,(order,ks++[b1r (rest.take zn[i])],()),())) (by
   simp only[a6D,dlt g,k,c,a6W g,d,e,cT,a03,tN,l,oB,f,a37,a0C (show i<1000000 by omega),a08])]
  rw[b4E m j (i+1) _ _ (by omega) (by grind) (c3Z hwr _) (by grind) (by simp_all)];simp_all[a2n]
def zsN(o n warm:Int):List Nat:=(a1B o n warm).map a21
def b1n(o n warm:Int)(l:List Int):Prt:=(o,a2n (zsN o n warm) l,())
def b7h(o n warm:Int)(l:List Int):Nat:=4+a4J (zsN o n warm) (a2n (zsN o n warm) l) l
def a1v(n warm:Int)(l:List Int):Nat→Prt×Nat
 |0=>((0,[],()),0)
 |i+1=>if(a1B (i:Int) n warm).length=0 then a1v n warm l i else
   if(a1v n warm l i).2=0∨b7h (i:Int) n warm l<(a1v n warm l i).2 then(b1n (i:Int) n warm l,b7h (i:Int) n warm l)else a1v n warm l i
def b5l(n warm:Int)(l:List Int):Prt:=(a1v n warm l 7).1
theorem c1x{n:Int}(b:(a1B (o:Int) n warm).length≠0)(a:(l.length:Int)=n-warm)(c:l.all a0A=true)(k:l.length≤5000):
  ∃h,a1B (o:Int) n warm=a1h h∧zsN (o:Int) n warm=h∧h.length≤256∧h.sum=l.length∧a4G (b1n (o:Int) n warm l) n warm=true∧PartsOk (b1n (o:Int) n warm l) n warm l h:=by
 obtain⟨h,e,i,j⟩:=b2T b;have d:zsN (o:Int) n warm=h:=by simp_all[zsN,b2U]
 have hp:a4G (b1n (o:Int) n warm l) n warm=true:=by
  simp only[a4G,b1n,bA,a28,beq_eq_false_iff_ne,ne_eq,beq_iff_eq];simp_all[a1n,b3x,b7g]
 obtain⟨f,g⟩:=PartsOk.of hp a c k
 have:f=h:=by
  have m:=g.sizes
  grind[b1n,b2U]
 grind
theorem b3Z{n warm:Int}{l:List Int}(b:a5o n warm=true)(f:(l.length:Int)=n-warm)(a:l.all a0A=true)(g:l.length≤5000):∀i,1≤i→(a1v n warm l i).2≠0∧a4G (a1v n warm l i).1 n warm=true
 |0,h=>absurd h (by omega)
 |i+1,_=>by
  by_cases hs:(a1B (i:Int) n warm).length=0
  ·simp only[a1v,hs,if_true];cases i with
   |zero=>grind[c2n]
   |succ i=>exact b3Z b f a g (i+1) (by omega)
  ·obtain⟨c,-,-,-,-,hp,-⟩:=c1x hs f a g;simp only[a1v,hs,if_false];split;simp_all[b7h]
   ·rename_i k;cases i with
    |zero=>exact absurd (Or.inl rfl) k
    |succ i=>exact b3Z b f a g (i+1) (by omega)
theorem c4e{n:Int}(f:a5o n warm=true)(g:(l.length:Int)=n-warm)(k:l.all a0A=true)(h:l.length≤5000):a4G (b5l n warm l) n warm=true:=
 (b3Z f g k h 7 (by omega)).2
theorem b8Y{n:Int}(A:a5o n warm=true)(x:(l.length:Int)=n-warm)(t:l.all a0A=true)(s:l.length≤5000):
  a8w (n,warm,(6:Int),l)=some (b5l n warm l,0):=by
 have:=a2t (f:=a3f) (fun i:Nat=>(n,warm,(6:Int),l,(((a1v n warm l i).2:Nat):Int),(i:Int),((0:Int),([]:List Int),()),(a1v n warm l i).1,())) 7 (b:=(((0:Int),([]:List Int),()),b5l n warm l,()))
  (fun i z=>by
   have j:decide ((i:Int)≤v0a (u0z 6 0) 8)=true:=decide_eq_true (by have:v0a (u0z 6 0) 8=6:=rfl;omega);have r:wrap .i64 ((i:Int)+1)=((i+1:Nat):Int):=a0C (by omega)
   by_cases hs:(a1B (i:Int) n warm).length=0
   simp_all[a1v,a3f,a1L];have hb:((((a1B (i:Int) n warm).length:Nat):Int)==0)=false:=by simp_all
   obtain⟨h,p,o,w,y,-,q⟩:=c1x hs x t s;have d:=b4E (n:=n) (warm:=warm) (most:=6) (least:=(((a1v n warm l i).2:Nat):Int)) (order:=(i:Int)) (L:=l) (a:=((0:Int),([]:List Int),())) (b:=(a1v n warm l i).1) w h.length 0 l [] (by omega) (by simp_all) t s rfl;simp at d;have e:=b8U q;simp only[b1n,o]at e;have k:(((h.length:Nat):Int)==0)=false:=by simp_all[a1n]
   have m:(((a1h h).length:Nat):Int)=((h.length:Nat):Int):=by rw[a1n]
   have v:b1n (i:Int) n warm l=((i:Int),a2n h l,()):=by simp only[b1n,o]
   have u:b7h (i:Int) n warm l=4+a4J h (a2n h l) l:=by simp only[b7h,o]
   by_cases hz:(a1v n warm l i).2=0
   have g:((((a1v n warm l i).2:Nat):Int)==0)=true:=by simp_all
   have c:a1v n warm l (i+1)=(((i:Int),a2n h l,()),4+a4J h (a2n h l) l):=by simp_all[a1v]
   simp only[a3f,j,cT,a1L,oB,p,m,k,cF,d,e,r,c,g];have g:((((a1v n warm l i).2:Nat):Int)==0)=false:=by simp_all
   by_cases hlt:4+a4J h (a2n h l) l<(a1v n warm l i).2
   have c:a1v n warm l (i+1)=(((i:Int),a2n h l,()),4+a4J h (a2n h l) l):=by simp_all[a1v]
   simp only[a3f,j,cT,a1L,oB,p,m,k,cF,d,e,r,c,g,c6w hlt];have c:a1v n warm l (i+1)=a1v n warm l i:=by simp only[a1v,hs,if_false,hz,false_or,v,u,hlt]
   simp only[a3f,j,cT,a1L,oB,p,m,k,cF,d,e,r,c,g,c2u hlt])
  (by
   rfl)
 simp_all[a1v,a8w,a9k]
def a0T(k:Int)(s:Sub):Sub:=
 (k,(0:Int),(if k=2 then s.2.2.1 else 0),(if k=3∨k=4 then s.2.2.2.1 else 0),(if k=4 then s.2.2.2.2.1 else 0),(if k=3∨k=4 then s.2.2.2.2.2.1 else[]),
  ((if k=4 then s.2.2.2.2.2.2.1 else a01 3 (0:Int)),(if k=5 then s.2.2.2.2.2.2.2.1 else[]),([]:List Int),((0:Int),([]:List Int),()),([]:List Int),()))
def z0:Prt:=((0:Int),([]:List Int),())
def a1D(s:Sub)(w:Nat)(wm:List Int)(p:Prt)(r:List Int):Sub:=
 (s.1,(w:Int),s.2.2.1,s.2.2.2.1,s.2.2.2.2.1,s.2.2.2.2.2.1,s.2.2.2.2.2.2.1,s.2.2.2.2.2.2.2.1,wm,p,r,())
theorem c3k(h:SmallS s)(k:Int):a5f (k,s)=some (a0T k s):=by
 have f:short s.2.2.2.2.2.1:=by have:=h.coefs;unfold short;omega
 have g:short s.2.2.2.2.2.2.2.1:=by have:=h.stages;unfold short;omega
 grind[a5f,a0T,b3N,b5O]
theorem b9X(h:SmallS s)(k:Int):SmallS (a0T k s):=by
 have g:=h.coefs;have f:=h.taps;have a:=h.stages;refine⟨?_,?_,?_,by simp[a0T],by simp[a0T],by simp[a0T]⟩<;>simp only[a0T]<;>split<;>first|omega|simp
theorem c2w{n:Int}:a3m (a0T k s).1 (a0T k s) n↔a3m k s n:=by
 unfold a3m a0T
 grind
open Classical in
def a2D (l:List Int):Nat:=if h:∃w,a7r l w then h.choose else 0
theorem c5E{l:List Int}{w:Nat}(h:a7r l w):a2D l=w:=by
 unfold a2D;rw[dif_pos ⟨w,h⟩];exact(Classical.choose_spec (⟨w,h⟩:∃w,a7r l w)).unique h
def a1a(l:List Int):List Int:=l.map fun x=>z0h .i64 x (a2D l:Int)
theorem a7K(h:short l)(g:l.all a0A=true):a3e l=some ((a2D l:Nat):Int)∧a2D l≤30∧a7r l (a2D l):=by
 grind[b6n,c5E]
theorem a5M(a:l.length≤4096)(f:l.all a0A=true):a8R ((a2D l:Nat):Int) l=some (a1a l)∧(a1a l).all a0A=true∧(a1a l).length=l.length∧upO ((a2D l:Nat):Int) (a1a l)=some l:=by
 obtain⟨-,g,k⟩:=a7K (show short l by unfold short;omega) f;have h:=c5D g f k;exact⟨h,c5B g h⟩
def a4g(k:Int)(s:Sub)(d:List Int):Option (List Int×List Int):=
 if k=2 then(bif (a1E s.2.2.1.toNat d).all a0A then some (d.take s.2.2.1.toNat,a1E s.2.2.1.toNat d)else none)
 else if k=3 then(b3V d s.2.2.2.2.2.1 s.2.2.2.1).map fun r=>(d.take s.2.2.2.2.2.1.length,r)
 else if k=4 then(b3v d s.2.2.2.2.1 s.2.2.2.2.2.2.1).bind fun x=>(b3V x s.2.2.2.2.2.1 s.2.2.2.1).map fun r=>(x.take s.2.2.2.2.2.1.length,r)
 else(b1q d s.2.2.2.2.2.2.2.1).map fun r=>([],r)
theorem b9Y(j:k=2∨k=3∨k=4∨k=5)(i:a3m k s (d.length:Int))(n:d.all a0A=true)(h:a4g k s d=some (wm,r)):
  wm.length≤d.length∧r.length=d.length-wm.length∧r.all a0A=true∧wm.all a0A=true:=by
 have f:=i;simp only[a3m]at f;rcases j with rfl|rfl|rfl|rfl
 ·have:0≤s.2.2.1∧s.2.2.1≤(d.length:Int):=by omega
  simp[a4g]at h;cases hq:(a1E s.2.2.1.toNat d).all a0A with
  |false=>simp_all
  |true=>
   simp[hq]at h;obtain⟨rfl,rfl⟩:=h;simp_all[a4O,b3U]
 have:(s.2.2.2.2.2.1.length:Int)≤(d.length:Int):=by omega
 simp only[a4g,show ¬ (3:Int)=2 by simp,if_false,if_true,a25,pJ]at h;obtain⟨c,g,rfl,rfl⟩:=h;obtain⟨-,a,b⟩:=b3W g
 grind
 have:(s.2.2.2.2.2.1.length:Int)≤(d.length:Int):=by omega
 simp only[a4g,show ¬ (4:Int)=2 by simp,show ¬ (4:Int)=3 by simp,if_false,if_true,a19,a25,pJ]at h;obtain⟨x,e,c,g,rfl,rfl⟩:=h;obtain⟨-,l,m⟩:=b5b e;obtain⟨-,a,b⟩:=b3W g
 grind
 simp only[a4g,show ¬ (5:Int)=2 by simp,show ¬ (5:Int)=3 by simp,show ¬ (5:Int)=4 by simp,if_false,a25,pJ]at h;obtain⟨c,g,rfl,rfl⟩:=h;obtain⟨-,a,b⟩:=b7e g;simp_all
theorem c4f(v:k=2∨k=3∨k=4∨k=5)(h:SmallS s)(q:a3m k s (d.length:Int))(D:d.length≤4096)(y:d.all a0A=true)(w:Nat):
  a9z (a1D (a0T k s) w [] z0 [],d)=some (match a4g k s d with|none=>(6,a1D (a0T k s) w [] z0 [])|some (wm,r)=>(0,a1D (a0T k s) w wm z0 r)):=by
 have l:=h.taps;have g:=h.stages;have i:short d:=by unfold short;omega
 obtain⟨k',w',o,sh,lag,c,t,st,z,p,E,u⟩:=s;simp only[a3m]at q l g;unfold a9z;rcases v with rfl|rfl|rfl|rfl;obtain⟨n,C,e⟩:0≤o∧o≤4∧o≤(d.length:Int):=by omega
 obtain⟨O,rfl⟩:=a00 n;have g:short (d.take O):=by unfold short;grind
 have j:decide ((O:Int)≤((d.length:Nat):Int))=true:=by simp_all
 simp only[a1D,a0T,a4g,if_true,show((2:Int)==2)=true from rfl,cT,b4C (show O≤4 by omega) (show O≤d.length by omega) i y,oB,tN]
 grind[b0F,a1V,a6U]
 ·obtain⟨f,e⟩:a8c c sh=true∧(c.length:Int)≤(d.length:Int):=by simp_all
  have g:short (d.take c.length):=by unfold short;grind
  have m:decide ((0:Int)≤((c.length:Nat):Int))=true:=by simp
  have j:decide (((c.length:Nat):Int)≤((d.length:Nat):Int))=true:=by simp_all
  simp only[a1D,a0T,a4g,show((3:Int)==2)=false from rfl,show((3:Int)==3)=true from rfl,show ¬ (3:Int)=2 by simp,show ¬ (3:Int)=4 by simp,show ¬ (3:Int)=5 by simp,true_or,if_true,if_false,cT,cF,b3u f (show c.length≤d.length by omega) (show d.length<100000 by omega),oB];cases b3V d c sh with
  |none=>rfl
  |some r=>simp_all[a4i,b0F,a1V,a6U]
 ·obtain⟨f,e,a⟩:a8c c sh=true∧(c.length:Int)≤(d.length:Int)∧a9P lag t=true:=by simp_all
  simp[a1D,a0T,a4g,b9R a l (show d.length<100000 by omega)];cases hx:b3v d lag t with
  |none=>rfl
  |some x=>
   obtain⟨-,A,B⟩:=b5b hx;have g:short (x.take c.length):=by unfold short;grind
   have m:decide ((0:Int)≤((c.length:Nat):Int))=true:=by simp
   have j:decide (((c.length:Nat):Int)≤((x.length:Nat):Int))=true:=by simp_all
   simp[a4i,b3u f (show c.length≤x.length by omega) (show x.length<100000 by omega)]
   grind[b0F,a1V,a6U]
 ·obtain⟨e,b⟩:0<st.length∧a7J st=true:=by simp_all
  have g:short (d.take 0):=by simp[short]
  simp only[a1D,a0T,a4g,show((5:Int)==2)=false from rfl,show((5:Int)==3)=false from rfl,show((5:Int)==4)=false from rfl,show((5:Int)==5)=true from rfl,show ¬ (5:Int)=2 by simp,show ¬ (5:Int)=3 by simp,show ¬ (5:Int)=4 by simp,or_self,if_true,if_false,cT,cF,b8X b (show d.length<100000 by omega),oB];cases b1q d st with
  |none=>rfl
  |some r=>
   rfl
open Classical in

def a1j (k:Int) (l:List Int) (s:Sub):Sub×Int:=
 if ¬ (1≤l.length∧l.length≤4096∧a3m k s (l.length:Int))then(a1G 0,1)
 else if l.all a0A=false then(a1G 0,6)
 else if k=0 then(bif l.all (fun x=>x==l.headD 0)then(a1D (a0T 0 s) 0 [l.headD 0] z0 [],0)else(a1G 0,7))
 else if k=1 then(a1D (a0T 1 s) (a2D l) (a1a l) z0 [],0)
 else match a4g k s (a1a l)with
  |none=>(a1G 0,6)
  |some (wm,r)=>(a1D (a0T k s) (a2D l) wm (b5l (l.length:Int) (wm.length:Int) r) r,0)
theorem c2x(h:1≤l.length):l0z l 0=some (l.headD 0):=by
 cases l with
 |nil=>grind
 |cons a l=>rfl
theorem b9Z(k:1≤l.length)(c:short l)(a b:Sub):
  x0r a4o (l,l,(l.length:Int),(0:Int),a,b,())=some (bif l.all (fun x=>x==l.headD 0)then .inl (l,a,b,())else .inr ((7:Int),a1G 0,())):=by
 have:=a1x (f:=a4o) l (fun i=>(l,l,(l.length:Int),(i:Int),a,b,())) (fun x=>x==l.headD 0) (bt:=Sum.inl (l,a,b,())) (bf:=Sum.inr ((7:Int),a1G 0,()))
  (fun i h hp=>by
   have g:(l[i] != l.headD 0)=false:=by simp_all
   simp only[a4o,dlt h,cT,a0B h,oB,c2x k,g,cF,a0C (a43 h c)])
  (fun i h hp=>by
   have g:(l[i] != l.headD 0)=true:=by simp_all
   simp only[a4o,dlt h,cT,a0B h,oB,c2x k,g];rfl)
  (by simp[a4o])
 omega
theorem b5T{n:Int}(h:a3m k s n)(g:k≠0)(f:k≠1):k=2∨k=3∨k=4∨k=5:=by
 rcases h with h|h|⟨h,-⟩|⟨h,-⟩|⟨h,-⟩|⟨h,-⟩;omega;omega
 all_goals omega
theorem c5F(h:SmallS s)(k:Int)(D:l.length≤100000):b1c (k,l,s)=some (a1j k l s):=by
 have j:short l:=by unfold short;omega
 unfold b1c a1j
 by_cases h1:1≤l.length
 rotate_left;have e:decide (((l.length:Nat):Int)<1)=true:=decide_eq_true (by omega);rw[if_pos (fun g=>h1 g.1)];simp only[e,cT,oB];rfl;have a:decide (((l.length:Nat):Int)<1)=false:=decide_eq_false (by omega)
 by_cases h2:l.length≤4096
 rotate_left;have e:decide (((l.length:Nat):Int) > 4096)=true:=decide_eq_true (by omega);rw[if_pos (fun g=>h2 g.2.1)];simp only[a,e,cT,cF,oB];rfl;have o:decide (((l.length:Nat):Int) > 4096)=false:=decide_eq_false (by omega)
 by_cases h3:a3m k s (l.length:Int)
 rotate_left;have b:b1T k s (l.length:Int)=false:=by simp[b1T,h3]
 rw[if_pos (fun g=>h3 g.2.2)];simp only[a,o,b3o h,b,cF,a18,cT,oB];rfl;have b:b1T k s (l.length:Int)=true:=by simp[b1T,h3]
 rw[if_neg (fun g=>g ⟨h1,h2,h3⟩)];simp only[a,o,b3o h,b,cF,bT,oB,a3N j];cases hw:l.all a0A with
 |false=>rfl
 |true=>
  simp only[bT,cF,c3k h,oB];rw[if_neg (by simp)]
  by_cases h0:k=0
  ·subst h0;have w:=b9Z h1 j (a1G 0) (a0T 0 s);have v:a1G 0=((0:Int),(0:Int),(0:Int),(0:Int),(0:Int),([]:(List Int)),a01 3 (0:Int),([]:(List (Int×Int×Unit))),([]:(List Int)),((0:Int),([]:(List Int)),()),([]:(List Int)),()):=rfl;rw[←v,if_pos rfl];simp only[show((0:Int)==0)=true from rfl,cT,w,oB];cases l.all (fun x=>x==l.headD 0)with
   |false=>rfl
   |true=>simp only[cT,c2x h1,oB];rfl
  ·obtain⟨z,A,-⟩:=a7K j hw;obtain⟨t,n,C,-⟩:=a5M h2 hw;have c:(k==0)=false:=by grind
   rw[if_neg h0];simp only[c,cF,z,oB,b3t A (show l.length<100000 by omega),t,a4i,show((0:Int) != 0)=false from rfl]
   by_cases hk1:k=1
   subst hk1;rfl
   ·have i:(k==1)=false:=by simp_all
    have p:=b5T h3 h0 hk1;rw[if_neg hk1];have m:=c4f p h (d:=a1a l) (by simp_all) (by omega) n (a2D l);have u:((a0T k s).1,((a2D l:Nat):Int),(a0T k s).2.2)=a1D (a0T k s) (a2D l) [] z0 []:=rfl;simp only[i,cF,u,m,oB];cases hr:a4g k s (a1a l)with
    |none=>rfl
    |some q=>
     obtain⟨B,r⟩:=q;obtain⟨E,r2,y,-⟩:=b9Y p (by simp_all) n hr;have f:a5o (l.length:Int) (B.length:Int)=true:=by simp_all[a5o]
     have hb:=b8Y f (l:=r) (by omega) y (by omega);simp only[show((0:Int) != 0)=false from rfl,cF,a1D,hb,oB]
theorem c3l{n:Int}(h:a4G p n warm=true):p.2.1.length≤256:=by
 simp only[a4G,bA,a28,beq_eq_false_iff_ne,ne_eq,beq_iff_eq]at h;obtain⟨k,g,-,f⟩:=b2T h.1;rw[←h.2.1,g,a1n];exact f
theorem b4a(h:SmallS s)(g:wm.length≤5000)(f:r.length≤5000)(k:p.2.1.length≤300):SmallS (a1D s w wm p r):=
 ⟨h.coefs,h.taps,h.stages,g,f,k⟩
theorem c2y(g:(a1j k l s).2=0):
  1≤l.length∧l.length≤4096∧a3m k s (l.length:Int)∧l.all a0A=true∧
   ((k=0∧l.all (fun x=>x==l.headD 0)=true∧(a1j k l s).1=a1D (a0T 0 s) 0 [l.headD 0] z0 [])∨
    (k=1∧(a1j k l s).1=a1D (a0T 1 s) (a2D l) (a1a l) z0 [])∨
     ((k=2∨k=3∨k=4∨k=5)∧∃c r,a4g k s (a1a l)=some (c,r)∧(a1j k l s).1=a1D (a0T k s) (a2D l) c (b5l (l.length:Int) (c.length:Int) r) r)):=by
 unfold a1j at g⊢
 split at g
 cases g;rename_i f;have f:1≤l.length∧l.length≤4096∧a3m k s (l.length:Int):=Classical.byContradiction f;refine⟨f.1,f.2.1,f.2.2,?_⟩;rw[if_neg (fun h=>h f)]
 split at g
 cases g;rename_i e;have d:l.all a0A=true:=by simpa using e
 refine⟨d,?_⟩;rw[if_neg e]
 split at g
 ·rename_i a;rw[if_pos a];cases hq:l.all (fun x=>x==l.headD 0)with
  |false=>rw[hq]at g;cases g
  |true=>exact .inl ⟨a,rfl,rfl⟩
 rename_i a;rw[if_neg a]
 split at g
 rename_i b;rw[if_pos b];exact .inr (.inl ⟨b,rfl⟩);rename_i b;rw[if_neg b];refine .inr (.inr ⟨b5T f.2.2 a b,?_⟩);cases hr:a4g k s (a1a l)with
 |none=>rw[hr]at g;cases g
 |some q=>
  obtain⟨c,r⟩:=q;exact⟨c,r,rfl,rfl⟩
theorem b2a:b3p (a1D (a0T k s) w wm p r):=by
 unfold b3p a1D a0T;refine⟨fun h=>if_neg h,fun h=>if_neg (not_or.2 h),fun h=>if_neg h,fun h=>if_neg h,fun h=>if_neg (not_or.2 h),fun h=>if_neg h⟩
theorem b6o{n:Int}(h:a3m k s n):a3m (a1D (a0T k s) w wm p r).1 (a1D (a0T k s) w wm p r) n:=c2w.2 h
theorem c4g(h:l.all (fun x=>x==l.headD 0)=true):a01 l.length (l.headD 0)=l:=by
 refine(List.eq_replicate_iff.2 ⟨rfl,fun x g=>?_⟩).symm
 have:=lA.1 h x g
 simpa using this
theorem b7X(L:SmallS s)(I:(a1j k l s).2=0):
  SmallS (a1j k l s).1∧(a1j k l s).1.1=k∧a1l (a1j k l s).1 (l.length:Int)∧a1U (a1j k l s).1 (l.length:Int)=some l:=by
 obtain⟨T,K,b,z,M⟩:=c2y I;have P:short l:=by unfold short;omega
 obtain⟨-,Y,-⟩:=a7K P z;obtain⟨R,w,B,C⟩:=a5M K z;have n:∀m:Sub,a1l m (l.length:Int)→b9A m (l.length:Int)=some l→a1U m (l.length:Int)=some l:=fun m c d=>by unfold a1U;rw[if_pos c,d]
 have i:=b9X L k;rcases M with⟨rfl,t,e⟩|⟨rfl,e⟩|⟨y,q,r,f,e⟩
 ·rw[e];have g:a1l (a1D (a0T 0 s) 0 [l.headD 0] z0 []) (l.length:Int):=by
   have N:a0A (l.headD 0)=true:=by
    cases l with
    |nil=>rfl
    |cons a l=>exact lA.1 z _ a73
   exact⟨by omega,by omega,b6o b,b2a,Int.le_refl _,(by decide:(0:Int)≤30),fun _=>rfl,rfl,by simp only[a1D,a06,N,List.all_nil];rfl,rfl,fun _=>⟨rfl,rfl,rfl⟩,fun h=>absurd rfl h.1⟩
  refine⟨b4a i (by simp) (by simp) (by simp[z0]),rfl,g,n _ g ?_⟩;show some (a01 (l.length:Int).toNat (l.headD 0))=some l;rw[tN,c4g t]
 rw[e];have g:a1l (a1D (a0T 1 s) (a2D l) (a1a l) z0 []) (l.length:Int):=
  ⟨by omega,by omega,b6o b,b2a,a74 _,(by show((a2D l:Nat):Int)≤30;omega),fun h=>absurd h (by decide:¬ (1:Int)=0),by show(((a1a l).length:Nat):Int)=(l.length:Int);rw[B],w,rfl,fun _=>⟨rfl,rfl,rfl⟩,fun h=>absurd rfl h.2⟩
 refine⟨b4a i (by omega) (by simp) (by simp[z0]),rfl,g,n _ g ?_⟩;show upO ((a2D l:Nat):Int) (a1a l)=some l;exact C
 ·rw[e];obtain⟨X,r2,E,Q⟩:=b9Y y (by rw[B];exact b) w f;have u:a5o (l.length:Int) (q.length:Int)=true:=by simp only[a5o,bA,dT];omega
  have hp:=c4e u (l:=r) (by omega) E (by omega);generalize b5l (l.length:Int) (q.length:Int) r=p at hp;have O:=c3l hp

  have v:a1V (a1D (a0T k s) (a2D l) q p r) (l.length:Int)=(q.length:Int)∧backP (a1D (a0T k s) (a2D l) q p r)=some (a1a l):=by
   simp only[a3m]at b;rcases y with rfl|rfl|rfl|rfl
   ·obtain⟨U,V,D⟩:0≤s.2.2.1∧s.2.2.1≤4∧s.2.2.1≤(l.length:Int):=by simp at b;omega
    simp only[a4g,if_true]at f;cases hq:(a1E s.2.2.1.toNat (a1a l)).all a0A with
    |false=>simp[hq]at f
    |true=>
     simp only[hq,cT,sj,pJ]at f;obtain⟨rfl,rfl⟩:=f;refine⟨?_,?_⟩;show s.2.2.1=_;rw[a22];omega;show b6j ((a1a l).take s.2.2.1.toNat) (a1E s.2.2.1.toNat (a1a l)) s.2.2.1=some (a1a l);have hb:=b9J w (o:=s.2.2.1.toNat) (by omega) ((a1a l).length-s.2.2.1.toNat) 0 (by omega);rw[a31,a97]at hb;unfold b6j;rw[b3U w,hq];exact hb
   have D:(s.2.2.2.2.2.1.length:Int)≤(l.length:Int):=by simp at b;omega
   simp only[a4g,show ¬ (3:Int)=2 by decide,if_false,if_true,a25,pJ]at f;obtain⟨A,c,rfl,rfl⟩:=f;obtain⟨d,-,-⟩:=b3W c;refine⟨?_,?_⟩;show((s.2.2.2.2.2.1.length:Nat):Int)=_;rw[a22];omega;exact d;have D:(s.2.2.2.2.2.1.length:Int)≤(l.length:Int):=by simp at b;omega
   simp only[a4g,show ¬ (4:Int)=2 by decide,show ¬ (4:Int)=3 by decide,if_false,if_true,a19,a25,pJ]at f;obtain⟨x,H,A,c,rfl,rfl⟩:=f;obtain⟨G,-,S⟩:=b5b H;obtain⟨d,-,-⟩:=b3W c;refine⟨?_,?_⟩;show((s.2.2.2.2.2.1.length:Nat):Int)=_;rw[a22];omega;show(b1N (x.take s.2.2.2.2.2.1.length) A s.2.2.2.2.2.1 s.2.2.2.1).bind (fun l=>b2t l s.2.2.2.2.1 s.2.2.2.2.2.2.1)=_;rw[d];exact G;simp only[a4g,show ¬ (5:Int)=2 by decide,show ¬ (5:Int)=3 by decide,show ¬ (5:Int)=4 by decide,if_false,a25,pJ]at f;obtain⟨A,c,rfl,rfl⟩:=f;obtain⟨d,-,-⟩:=b7e c;exact⟨rfl,d⟩
  have j:¬ (k=0∨k=1):=by rcases y with rfl|rfl|rfl|rfl<;>decide
  have g:a1l (a1D (a0T k s) (a2D l) q p r) (l.length:Int):=by
   unfold a1l;rw[v.1];exact⟨by omega,by omega,b6o b,b2a,a74 _,(by show((a2D l:Nat):Int)≤30;omega),fun h=>absurd (.inl h) j,rfl,Q,E,fun h=>absurd h j,fun _=>⟨(by show((r.length:Nat):Int)=_;omega),hp⟩⟩
  refine⟨b4a i (by omega) (by omega) (by omega),rfl,g,n _ g ?_⟩;have F:¬ (a1D (a0T k s) (a2D l) q p r).1=0:=fun h=>j (.inl h);unfold b9A;rw[if_neg F,v.2];exact C
theorem c2z:SmallS (a1G 0):=c1e 0
def cS(k o sh:Int)(c:List Int)(st:List Stg):Sub:=
 (k,(0:Int),o,sh,(0:Int),c,a01 3 (0:Int),st,([]:List Int),((0:Int),([]:List Int),()),([]:List Int),())
theorem a9l{k o sh:Int}{c:List Int}{st:List Stg}(h:c.length≤40)(g:st.length≤6):SmallS (cS k o sh c st):=
 ⟨h,rfl,g,by simp[cS],by simp[cS],by simp[cS]⟩
def b1o(d:List Int)(o w:Int):List Int×(Int×Int):=(a3j (d,o,w)).getD ([],0,1)
def a9m(d:List Int)(o w:Int):List Sub:=bif (b1o d o w).2.2==0 then[cS 3 0 (b1o d o w).2.1 (b1o d o w).1 []]else[]
def c2A(d:List Int):Int:=(a5c d).getD 0
def b4b(d:List Int):Sub×Bool:=(a3a d).getD (a1G 0,false)
def b6p(d:List Int):List Sub:=bif (b4b d).2 then[(b4b d).1]else[]
def a9n(i:Nat):List Sub:=(List.range i).map fun(j:Nat)=>cS 2 (j:Int) 0 [] []
def a1Y(d:List Int):List Sub:=[cS 0 0 0 [] [],cS 1 0 0 [] [],cS 2 (c2A d) 0 [] []]
def a3g(d:List Int)(k:Int):List Sub:=if 1≤k then a9m d 4 12++a9m d 8 12 else[]
def a9V(d:List Int)(k:Int):List Sub:=if 2≤k then[cS 5 0 0 [] [((16:Int),(4:Int),())],cS 5 0 0 [] [((32:Int),(3:Int),()),((16:Int),(5:Int),())]]++b6p d else[]
def b9g(d:List Int)(k:Int):List Sub:=if 3≤k then a9n 5++(a9m d 1 12++(a9m d 2 12++(a9m d 12 14++a9m d 16 14)))else[]
def a3z(d:List Int)(k:Int):List Sub:=a1Y d++(a3g d k++(a9V d k++b9g d k))
def b7i(d:List Int):Prop:=a3a d=some (b4b d)∧((b4b d).2=true→SmallS (b4b d).1)
theorem c0A(a:d.all a0A=true)(k:d.length≤4096)(h:1≤o)(g:o≤32)(f:2≤w∧w≤16):
  a3j (d,(o:Int),(w:Int))=some (b1o d o w)∧((b1o d o w).2.2=0→(b1o d o w).1.length=o):=by
 obtain⟨c,sh,e,b,i⟩:=c3h a k h g f;unfold b1o;simp_all
theorem a9o(d:List Int)(o w:Int):(a9m d o w).length≤1:=by
 grind[a9m]
theorem a9p(c:d.all a0A=true)(b:d.length≤4096)(f:1≤o)(k:o≤32)(a:2≤w∧w≤16){L:List Sub}(e:L.length<1000):
  a0N ((o:Int),(w:Int),d,L)=some (d,L++a9m d o w):=by
 obtain⟨g,-⟩:=c0A c b f k a;have h:lim (L.length+1)=true:=a0Q (by omega);unfold a0N a9m;simp only[g,oB];cases (b1o d o w).2.2==0 with
 |true=>simp only[cT,h];rfl
 |false=>simp
theorem c2B{L:List Sub}(k:L.length<1000):x0r a1Z ((0:Int),L,d,())=some (L++a9n 5,d,()):=by
 have:=a2t (f:=a1Z) (fun i:Nat=>((i:Int),L++a9n i,d,())) 5 (b:=(L++a9n 5,d,()))
  (fun i a=>by
   have g:decide ((i:Int)<5)=true:=decide_eq_true (by omega);have h:lim ((L++a9n i).length+1)=true:=a0Q (by simp[a9n];omega);have e:(L++a9n i)++[cS 2 (i:Int) 0 [] []]=L++a9n (i+1):=by simp[a9n,List.range_succ]
   rw[←e];simp only[a1Z,g,cT,h,a0C (show i<1000000 by omega)];rfl)
  (by
   rfl)
 simp at this;rw[show a9n 0=[]from rfl,a29]at this;omega
theorem c5G(a:d.all a0A=true)(c:d.length≤4096)(l:b7i d)(k:Int):a5F (d,k)=some (a3z d k):=by
 obtain⟨o,E,F⟩:=b7c (show d.length<100000 by omega) a;have hb:c2A d=(o:Int):=by simp_all[c2A]
 have D:(b6p d).length≤1:=by grind[b6p]
 have P:=a9o d 4 12;have Q:=a9o d 8 12;have N:=a9o d 1 12;have O:=a9o d 2 12;have G:=a9o d 12 14;have y:=fun L (hL:L.length<1000)=>a9p (L:=L) a c (o:=4) (w:=12) (by omega) (by omega) (by omega) hL;have z:=fun L (hL:L.length<1000)=>a9p (L:=L) a c (o:=8) (w:=12) (by omega) (by omega) (by omega) hL;have v:=fun L (hL:L.length<1000)=>a9p (L:=L) a c (o:=1) (w:=12) (by omega) (by omega) (by omega) hL;have x:=fun L (hL:L.length<1000)=>a9p (L:=L) a c (o:=2) (w:=12) (by omega) (by omega) (by omega) hL;have i:=fun L (hL:L.length<1000)=>a9p (L:=L) a c (o:=12) (w:=14) (by omega) (by omega) (by omega) hL;have j:=fun L (hL:L.length<1000)=>a9p (L:=L) a c (o:=16) (w:=14) (by omega) (by omega) (by omega) hL;simp at y z v x i j;have R:(a1Y d).length=3:=rfl;have S:(a3g d k).length≤2:=by unfold a3g;split<;>simp<;>omega
 have T:(a9V d k).length≤3:=by unfold a9V;split<;>simp<;>omega
 have U:(a9n 5).length=5:=rfl;have M:(bif decide (k≥1)then((a0N ((4:Int),(12:Int),d,a1Y d)).bind fun n=>(a0N ((8:Int),(12:Int),n.1,n.2)).bind fun p=>some (k,p.1,p.2,()))else some (k,d,a1Y d,()))=some (k,d,a1Y d++a3g d k,()):=by
  unfold a3g
  by_cases h:1≤k
  have e:decide (k≥1)=true:=decide_eq_true h;simp only[e,cT,y (a1Y d) (by omega),oB,z (a1Y d++a9m d 4 12) (by grind),if_pos h,aA]
  grind
 have C:a5F (d,k)=(a5c d).bind fun A=>
   (show Option (Int×((List Int)×((List Sub)×Unit)))from bif decide (k≥1)then((a0N ((4:Int),(12:Int),d,[cS 0 0 0 [] [],cS 1 0 0 [] [],cS 2 A 0 [] []])).bind fun n=>(a0N ((8:Int),(12:Int),n.1,n.2)).bind fun p=>some (k,p.1,p.2,()))else some (k,d,[cS 0 0 0 [] [],cS 1 0 0 [] [],cS 2 A 0 [] []],())).bind fun g=>
   (show Option (Int×((List Sub)×((List Int)×Unit)))from bif decide (g.1≥2)then(bif lim (g.2.2.1.length+1)then(bif lim ((g.2.2.1++[cS 5 0 0 [] [((16:Int),(4:Int),())]]).length+1)then((a3a g.2.1).bind fun q=>
    bif q.2 then(bif lim ((g.2.2.1++[cS 5 0 0 [] [((16:Int),(4:Int),())]]++[cS 5 0 0 [] [((32:Int),(3:Int),()),((16:Int),(5:Int),())]]).length+1)then some (g.1,g.2.2.1++[cS 5 0 0 [] [((16:Int),(4:Int),())]]++[cS 5 0 0 [] [((32:Int),(3:Int),()),((16:Int),(5:Int),())]]++[q.1],g.2.1,())else none)
    else some (g.1,g.2.2.1++[cS 5 0 0 [] [((16:Int),(4:Int),())]]++[cS 5 0 0 [] [((32:Int),(3:Int),()),((16:Int),(5:Int),())]],g.2.1,()))else none)else none)else some (g.1,g.2.2.1,g.2.1,())).bind fun t=>
   (show Option ((List Sub)×Unit)from bif decide (t.1≥3)then((x0r a1Z ((0:Int),t.2.1,t.2.2.1,())).bind fun m=>(a0N ((1:Int),(12:Int),m.2.1,m.1)).bind fun r=>(a0N ((2:Int),(12:Int),r.1,r.2)).bind fun s=>
    (a0N ((12:Int),(14:Int),s.1,s.2)).bind fun f=>(a0N ((16:Int),(14:Int),f.1,f.2)).bind fun b=>some (b.2,()))else some (t.2.1,())).bind fun u=>some u.1:=rfl
 have B:[cS 0 0 0 [] [],cS 1 0 0 [] [],cS 2 (o:Int) 0 [] []]=a1Y d:=by unfold a1Y;grind
 have V:(bif decide (k≥2)then(bif lim ((a1Y d++a3g d k).length+1)then(bif lim ((a1Y d++a3g d k++[cS 5 0 0 [] [((16:Int),(4:Int),())]]).length+1)then((a3a d).bind fun q=>
    bif q.2 then(bif lim ((a1Y d++a3g d k++[cS 5 0 0 [] [((16:Int),(4:Int),())]]++[cS 5 0 0 [] [((32:Int),(3:Int),()),((16:Int),(5:Int),())]]).length+1)then some (k,a1Y d++a3g d k++[cS 5 0 0 [] [((16:Int),(4:Int),())]]++[cS 5 0 0 [] [((32:Int),(3:Int),()),((16:Int),(5:Int),())]]++[q.1],d,())else none)
    else some (k,a1Y d++a3g d k++[cS 5 0 0 [] [((16:Int),(4:Int),())]]++[cS 5 0 0 [] [((32:Int),(3:Int),()),((16:Int),(5:Int),())]],d,()))else none)else none)else some (k,a1Y d++a3g d k,d,()):Option (Int×((List Sub)×((List Int)×Unit))))=some (k,a1Y d++(a3g d k++a9V d k),d,()):=by
  unfold a9V
  by_cases h:2≤k
  have e:decide (k≥2)=true:=decide_eq_true h;have H:lim ((a1Y d++a3g d k).length+1)=true:=a0Q (by grind);have I:lim ((a1Y d++a3g d k++[cS 5 0 0 [] [((16:Int),(4:Int),())]]).length+1)=true:=a0Q (by simp;omega);have K:lim ((a1Y d++a3g d k++[cS 5 0 0 [] [((16:Int),(4:Int),())]]++[cS 5 0 0 [] [((32:Int),(3:Int),()),((16:Int),(5:Int),())]]).length+1)=true:=a0Q (by simp;omega);simp only[e,H,I,K,cT,l.1,oB,if_pos h,b6p];cases (b4b d).2<;>simp
  grind
 have X:(bif decide (k≥3)then((x0r a1Z ((0:Int),a1Y d++(a3g d k++a9V d k),d,())).bind fun m=>(a0N ((1:Int),(12:Int),m.2.1,m.1)).bind fun r=>(a0N ((2:Int),(12:Int),r.1,r.2)).bind fun s=>
    (a0N ((12:Int),(14:Int),s.1,s.2)).bind fun f=>(a0N ((16:Int),(14:Int),f.1,f.2)).bind fun b=>some (b.2,()))else some (a1Y d++(a3g d k++a9V d k),()):Option ((List Sub)×Unit))=some (a3z d k,()):=by
  unfold a3z b9g
  by_cases h:3≤k
  have e:decide (k≥3)=true:=decide_eq_true h;simp only[e,cT,c2B (L:=a1Y d++(a3g d k++a9V d k)) (by simp;omega),oB,if_pos h];rw[v _ (by simp;omega)];simp only[oB];rw[x _ (by simp;omega)];simp only[oB];rw[i _ (by simp;omega)];simp only[oB];rw[j _ (by simp;omega)]
  simp
  grind
 rw[C,E,oB,B];simp only[];rw[M];simp only[oB];simp_all
theorem b7j(l:d.all a0A=true)(i:d.length≤4096)(f:b7i d)(k:Int):∀c∈a3z d k,SmallS c:=by
 have g:∀(o w:Nat),1≤o→o≤32→2≤w∧w≤16→∀c∈a9m d o w,SmallS c:=fun o w a b e c h=>by
  obtain⟨-,m⟩:=c0A l i a b e;unfold a9m at h;cases he:(b1o d o w).2.2==0 with
  |false=>simp_all
  |true=>
   rw[he]at h;simp at h
   grind[a9l]
 intro c h;simp[a3z]at h;rcases h with h|h|h|h;simp[a1Y]at h;rcases h with rfl|rfl|rfl<;>exact a9l (by simp) (by simp);unfold a3g at h
 split at h
 simp at h;rcases h with h|h;exact g 4 12 (by omega) (by omega) (by omega) c h;exact g 8 12 (by omega) (by omega) (by omega) c h;simp_all
 ·unfold a9V at h
  split at h
  ·simp only[mA,mC,a84,or_false]at h;rcases h with(rfl|rfl)|h;simp_all[a9l];simp_all[a9l]
   ·unfold b6p at h;cases hg:(b4b d).2 with
    |false=>simp_all
    |true=>
     rw[hg]at h;simp at h;subst h;exact f.2 hg
  simp_all
 unfold b9g at h
 split at h
 simp only[mA,a9n,a99]at h;rcases h with⟨j,-,rfl⟩|h|h|h|h;simp_all[a9l];exact g 1 12 (by omega) (by omega) (by omega) c h;exact g 2 12 (by omega) (by omega) (by omega) c h;exact g 12 14 (by omega) (by omega) (by omega) c h;exact g 16 14 (by omega) (by omega) (by omega) c h;simp_all
theorem c4h(g:d.length≤256):a3a d=some (a1G 0,false):=by
 have h:a9x (d,(16:Int),(256:Int))=some (0,7):=by
  unfold a9x
  grind
 unfold a3a;simp only[h,oB,show((7:Int) != 0)=true from rfl,cT];rfl
theorem c6x(g:d.length≤256):b7i d:=by
 have h:=c4h g
 have:b4b d=(a1G 0,false):=by unfold b4b;simp_all
 exact⟨by simp_all,fun f=>by simp_all⟩
def b3y(l:List Int)(a:Int×(Bool×Sub))(c:Sub):Int×(Bool×Sub):=
 bif (a1j c.1 l c).2 != 0 then a else bif !a.2.1 || decide (a3y (a1j c.1 l c).1 (l.length:Int)<a.1)then(a3y (a1j c.1 l c).1 (l.length:Int),true,(a1j c.1 l c).1)else a
def b4c(l:List Int)(cs:List Sub):Int×(Bool×Sub):=cs.foldl (b3y l) (0,false,a1G 0)
theorem b4d{α A β:Type}(g:A→α→A)(h:A→β):∀(l:List α)(a:A),a7x h (a2u (fun a x=>.inl (g a x)) l a)=h (l.foldl g a)
 | [],_=>rfl
 |x::l,a=>b4d g h l (g a x)
theorem c1m(h:SmallS s):SmallS (a1j k l s).1:=by
 by_cases h0:(a1j k l s).2=0
 exact(b7X h h0).1
 have:(a1j k l s).1=a1G 0:=by
  unfold a1j at h0⊢
  grind
 simp_all[c2z]
theorem c3m{cs:List Sub}(j:∀c∈cs,SmallS c)(p:l.length≤4096)(o:cs.length<1000):
  x0r a6c (l,(0:Int),false,cs,((cs.length:Nat):Int),(0:Int),a1G 0,a1G 0,())=some (a1G 0,(b4c l cs).2.2,()):=by
 have:=a1I (f:=a6c) cs (fun i a=>(l,a.1,a.2.1,cs,((cs.length:Nat):Int),(i:Int),a1G 0,a.2.2,())) (fun a x=>.inl (b3y l a x)) (fun _ _=>True) (fun a=>(a1G 0,a.2.2,()))
  (fun i g a _=>by
   refine⟨fun n h=>?_,fun b hb=>by grind⟩;simp at h;subst h;refine⟨?_,trivial⟩;have d:=j _ (a07 g);have e:=b7V (c1m (k:=cs[i].1) (l:=l) d) (l.length:Int);unfold b3y;simp only[a6c,dlt g,cT,a0B g,oB,c5F d cs[i].1 (show l.length≤100000 by omega),e,a0C (show i<1000000 by omega)];cases (a1j cs[i].1 l cs[i]).2 != 0 with
   |true=>rfl
   |false=>
    have m:=a0C (show i<1000000 by omega)
    grind)
  (fun a _=>by simp_all[a6c]) (a:=((0:Int),false,a1G 0)) trivial
 simp at this;rw[this,b4d];rfl
theorem c5H(v:1≤l.length)(c:l.length≤4096)(a:l.all a0A=true)(h:b7i (a1a l))(u:0≤k)(x:k≤3):
  a3v (l,k)=some ((b4c l (a3z (a1a l) k)).2.2,0):=by
 have d:short l:=by unfold short;omega
 obtain⟨r,s,-⟩:=a7K d a;obtain⟨e,b,t,-⟩:=a5M c a;have i:decide (((l.length:Nat):Int)<1)=false:=decide_eq_false (by omega);have j:decide (((l.length:Nat):Int) > 4096)=false:=decide_eq_false (by omega);have m:decide (k<0)=false:=decide_eq_false (by omega);have n:decide (k > 3)=false:=decide_eq_false (by omega);have f:(a3z (a1a l) k).length<1000:=by
  have g:=fun o w=>a9o (a1a l) o w;have y:=g 4 12;have z:=g 8 12;have A:=g 1 12;have B:=g 2 12;have C:=g 12 14;have D:=g 16 14;have p:(b6p (a1a l)).length≤1:=by grind[b6p]
  simp only[a3z,a1Y,a3g,a9V,b9g,lN]
  grind[a9n]
 have hb:=c3m (l:=l) (b7j b (by omega) h k) c f;have q:a1G 0=((0:Int),(0:Int),(0:Int),(0:Int),(0:Int),([]:(List Int)),a01 3 (0:Int),([]:(List (Int×Int×Unit))),([]:(List Int)),((0:Int),([]:(List Int)),()),([]:(List Int)),()):=rfl;unfold a3v;simp only[←q,i,j,m,n,cF,oB,a3N d,a,bT,r,b3t s (show l.length<100000 by omega),e,a4i,show((0:Int) != 0)=false from rfl,c5G b (show(a1a l).length≤4096 by omega) h,hb]
theorem a3n(v:Int)(n:Nat)(L:List Int):(a0L v n L).length=L.length+(a0L v n []).length:=by
 unfold a0L;cases (z0h .u64 v (n:Int) != 0)<;>simp
theorem a8i(n:Nat):∀(l L:List Int),(a1r n l L).length=L.length+(a1r n l []).length
 | [],L=>by simp[a1r]
 |x::l,L=>by
  show(a1r n l (a0L (a0P x n) n L)).length=L.length+(a1r n l (a0L (a0P x n) n [])).length;rw[a8i n l,a8i n l (a0L (a0P x n) n []),a3n];omega
theorem a9W:∀(st:List Stg)(L:List Int),(a2z st L).length=L.length+(a2z st []).length
 | [],L=>by simp[a2z]
 |s::st,L=>by
  show(a2z st (a5r s L)).length=L.length+(a2z st (a5r s [])).length;rw[a9W st,a9W st (a5r s [])];unfold a5r;rw[a3n,a3n _ 5 L,a3n _ 4 (a0L _ 5 [])];omega
theorem b4e(s:Sub)(L:List Int):(a5s s L).length=L.length+(a5s s []).length:=by
 unfold a5s;rw[a8i,a3n,a3n _ 4,a3n _ 5 L]
 conv=>rhs;rw[a8i,a3n,a3n _ 4]
 omega
theorem b8u(s:Sub)(L:List Int):(a2f s L).length=L.length+(a2f s []).length:=by
 unfold a2f;split;rw[a3n];split;rw[b4e];split;rw[b4e,a8i,a3n]
 conv=>rhs;rw[b4e,a8i]
 omega;split;rw[a9W,a3n]
 conv=>rhs;rw[a9W]
 omega
 simp
theorem c4i(k:0≤s.1∧s.1≤5)(a:0≤s.2.1∧s.2.1≤30)(f:s.2.2.2.2.2.2.2.2.1.all a0A=true)(L:List Int):(a9R s L).length=L.length+13:=by
 obtain⟨K,g⟩:=a00 k.1;obtain⟨w,h⟩:=a00 a.1
 have:=a1J f
 unfold a9R;rw[g,h,a1X (q:=K) (by omega),a1X (q:=w) (by omega),a6X (n:=5) (by omega) (by omega),a6X (n:=5) (by omega) (by omega),a6X (n:=3) (by omega) (by omega)]
def c2C(s:Sub)(zn:List Nat):Nat:=
 13+(a2f s []).length+a0G s.2.2.2.2.2.2.2.2.1*s.2.2.2.2.2.2.2.2.1.length+if s.1=0∨s.1=1 then 0 else 4+a4J zn s.2.2.2.2.2.2.2.2.2.1.2.1 s.2.2.2.2.2.2.2.2.2.2.1
theorem b4f{n:Int}(h:a3m k s n):0≤k∧k≤5:=by
 rcases h with h|h|⟨h,-⟩|⟨h,-⟩|⟨h,-⟩|⟨h,-⟩<;>omega
theorem b2W{n:Int}(h:(a1U s n).isSome=true):a1l s n:=by
 unfold a1U at h
 split at h
 assumption
 cases h
theorem c5I{n:Int}(h:(a1U s n).isSome=true)(d:s.1≠0∧s.1≠1→PartsOk s.2.2.2.2.2.2.2.2.2.1 n ((s.2.2.2.2.2.2.2.2.1.length:Nat):Int) s.2.2.2.2.2.2.2.2.2.2.1 zn)(L:List Int):
  (a4q s zn L).length=L.length+c2C s zn:=by
 obtain⟨e,i,b,-,k,a,-,-,f,-⟩:=b2W h;have c:=a1J f;have g:=c4i (b4f b) ⟨k,a⟩ f L;unfold a4q c2C
 by_cases hk:s.1=0∨s.1=1
 rw[if_pos hk,if_pos hk,b2y (by omega),b8u,g];omega;rw[if_neg hk,if_neg hk,b8V (d (not_or.1 hk)),b2y (by omega),b8u,g];omega
theorem c4j(h:SmallS s){n:Int}(f:(a1U s n).isSome=true):∃g,a3y s n=((c2C s g:Nat):Int)∧(s.1≠0∧s.1≠1→PartsOk s.2.2.2.2.2.2.2.2.2.1 n ((s.2.2.2.2.2.2.2.2.1.length:Nat):Int) s.2.2.2.2.2.2.2.2.2.2.1 g):=by
 obtain⟨e,b,-,-,-,a,-⟩:=b3P h (n:=n) (L:=[]) (by simp);obtain⟨-,g,-,k⟩:=a f;refine⟨g,?_,k⟩;unfold a3y;rw[if_pos f,←b7U k,c5I f k]
 simp
structure Shifted (l m:List Int) (n:Nat):Prop where
 len:m.length=l.length
 wl:l.all a0A=true
 wm:m.all a0A=true
 down:a1a m=a1a l
 waste:a2D m=a2D l+n
 fl:l.all (fun x=>x==l.headD 0)=false
 fm:m.all (fun x=>x==m.headD 0)=false
structure BestIs (l:List Int) (cs:List Sub) (a:Int×(Bool×Sub)):Prop where
 one:a.2.1=true→∃c∈cs,(a1j c.1 l c).2=0∧a.2.2=(a1j c.1 l c).1∧a.1=a3y a.2.2 (l.length:Int)
 least:∀c∈cs,(a1j c.1 l c).2=0→a.2.1=true∧a.1≤a3y (a1j c.1 l c).1 (l.length:Int)
theorem b5e{l:List Int}:∀(cs ds:List Sub)(a:Int×(Bool×Sub)),BestIs l ds a→BestIs l (ds++cs) (cs.foldl (b3y l) a)
 | [],ds,a,h=>by rw[a29];exact h
 |c::cs,ds,a,h=>by
  rw[b17,show ds++c::cs=(ds++[c])++cs by simp];refine b5e cs (ds++[c]) _ ?_
  unfold b3y
  by_cases h0:(a1j c.1 l c).2=0
  ·have e:((a1j c.1 l c).2 != 0)=false:=by rw[h0];rfl
   rw[e,cF];cases hq:(!a.2.1 || decide (a3y (a1j c.1 l c).1 (l.length:Int)<a.1))with
   |true=>
    refine⟨fun _=>⟨c,by simp,h0,rfl,rfl⟩,fun d f k=>⟨rfl,?_⟩⟩;rcases mA.1 f with f|f;obtain⟨i,j⟩:=h.least d f k;rw[i]at hq;simp only[bT,Bool.false_or,dT]at hq;exact Int.le_trans (Int.le_of_lt hq) j;simp only[a75]at f;subst f;exact Int.le_refl _
   |false=>
    simp only[a91,Bool.not_eq_false',decide_eq_false_iff_not]at hq;refine⟨fun b=>?_,fun d f k=>?_⟩;obtain⟨d,f,g⟩:=h.one b;exact⟨d,a92 _ f,g⟩;rcases mA.1 f with f|f;exact h.least d f k;simp only[a75]at f;subst f;exact⟨hq.1,Int.not_lt.1 hq.2⟩
  have e:((a1j c.1 l c).2 != 0)=true:=by simpa using h0
  rw[e,cT];refine⟨fun b=>?_,fun d f k=>?_⟩;obtain⟨d,f,g⟩:=h.one b;exact⟨d,a92 _ f,g⟩;rcases mA.1 f with f|f;exact h.least d f k;simp only[a75]at f;subst f;exact absurd k h0
theorem b7Y(l:List Int)(cs:List Sub):BestIs l cs (b4c l cs):=
 b5e cs [] _ ⟨fun h=>(by cases h),fun _ h=>(by cases h)⟩
theorem b4g(h:1≤l.length)(g:l.length≤4096)(f:l.all a0A=true):a1j 1 l (cS 1 0 0 [] [])=(a1D (a0T 1 (cS 1 0 0 [] [])) (a2D l) (a1a l) z0 [],0):=by
 unfold a1j;rw[if_neg (fun q=>q ⟨h,g,.inr (.inl rfl)⟩),if_neg (by rw[f];decide),if_neg (by decide),if_pos rfl]
theorem c2D(h:1≤l.length)(g:l.length≤4096)(f:l.all a0A=true)(d:List Int)(k:Int):(b4c l (a3z d k)).2.1=true:=
 ((b7Y l (a3z d k)).least (cS 1 0 0 [] []) (by simp[a3z,a1Y]) (by rw[show(cS 1 0 0 [] []).1=1 from rfl,b4g h g f])).1
def inW(x:Int)(v:Nat):Bool:=decide (x=0) || a1s x (v:Int)
theorem c4k:a1s x (v:Int)=true↔1≤v∧v≤31∧-((2^(v-1):Nat):Int)≤x∧x≤((2^(v-1):Nat):Int)-1:=by
 by_cases hv:1≤v∧v≤31
 have e:((v:Int)-1)=((v-1:Nat):Int):=by omega
 have hp:2^(v-1)≤2^30:=a16 (by omega) (by omega);have b:=a20 (v-1);have g:z0g .i64 1 ((v-1:Nat):Int)=((2^(v-1):Nat):Int):=b9K (by omega);have f:z0g .i64 (-1) ((v-1:Nat):Int)=-((2^(v-1):Nat):Int):=by
  have a:min (a21 ((v-1:Nat):Int)) (IntKind.bits .i64)=v-1:=by simp only[tN,IntKind.bits];omega
  unfold z0g;rw[a,show(-1:Int)*2^(v-1)=-((2^(v-1):Nat):Int)by simp];exact a0D (by omega)
 have k:wrap .i64 (((2^(v-1):Nat):Int)-1)=((2^(v-1):Nat):Int)-1:=a0D (by omega);simp only[a1s,e,g,f,k,bA,dT];constructor;intro h;exact⟨hv.1,hv.2,h.2.2.1,h.2.2.2⟩;intro h;exact⟨by omega,by omega,h.2.2.1,h.2.2.2⟩;constructor;intro h;simp only[a1s,bA,dT]at h;omega;intro h;omega
theorem b5m:inW x v=true↔x=0∨(1≤v∧v≤31∧-((2^(v-1):Nat):Int)≤x∧x≤((2^(v-1):Nat):Int)-1):=by
 simp only[inW,a33,dT,c4k]
theorem c4l(h:v≤w)(f:w≤31)(g:inW x v=true):inW x w=true:=by
 rw[b5m]at g⊢;rcases g with g|⟨k,a,b,c⟩;exact .inl g
 have:2^(v-1)≤2^(w-1):=a16 (by omega) (by omega)
 exact .inr ⟨by omega,f,by omega,by omega⟩
theorem c4m(h:a0A x=true):inW x 31=true:=by
 have:=a1z.1 h
 rw[b5m];exact .inr ⟨by omega,by omega,by rw[show((2^(31-1):Nat):Int)=1073741824 from rfl];omega,by rw[show((2^(31-1):Nat):Int)=1073741824 from rfl];omega⟩
theorem b8v{x:Int}(b:a0A x=true):∀(k w:Nat),w+k=32→w≤31→w≤a1C x k w∧a1C x k w≤31∧inW x (a1C x k w)=true∧∀v,w≤v→inW x v=true→v≤31→a1C x k w≤v
 |0,w,h,g=>absurd g (by omega)
 |k+1,w,h,g=>by
  by_cases hin:inW x w=true
  ·have:a1C x (k+1) w=w:=by
    unfold a1C;cases f:(x != 0)&&!a1s x (w:Int)with
    |false=>rfl
    |true=>
     simp only[bA,bne_iff_ne,ne_eq,a28]at f;simp only[inW,a33,dT,f.2,Bool.false_eq_true,or_false]at hin;exact absurd hin f.1
   rw[this];exact⟨a24 _,g,hin,fun v hv _ _=>hv⟩
  have f:((x != 0)&&!a1s x (w:Int))=true:=by
   simp only[inW,a33,dT,not_or,Bool.not_eq_true]at hin;simp only[bA,bne_iff_ne,ne_eq,a28];exact hin
  have j:w≠31:=fun e=>hin (by rw[e];exact c4m b);have e:a1C x (k+1) w=a1C x k (w+1):=by
   show(bif (x != 0)&&!a1s x (w:Int)then a1C x k (w+1)else w)=_;rw[f,cT]
  obtain⟨l,c,d,i⟩:=b8v b k (w+1) (by omega) (by omega);rw[e];refine⟨by omega,c,d,fun v hv a g=>i v ?_ a g⟩;rcases Nat.lt_or_ge w v with q|q;exact q
  have:v=w:=by omega
  exact absurd (this▸a) hin
theorem a8S:∀(l:List Int)(w:Nat),l.all a0A=true→w≤31→
  w≤l.foldl (fun w x=>a1C x (32-w) w) w∧l.foldl (fun w x=>a1C x (32-w) w) w≤31∧(∀x∈l,inW x (l.foldl (fun w x=>a1C x (32-w) w) w)=true)∧∀v,w≤v→v≤31→(∀x∈l,inW x v=true)→l.foldl (fun w x=>a1C x (32-w) w) w≤v
 | [],w,_,h31=>⟨a24 _,h31,by simp,fun v hv _ _=>hv⟩
 |x::l,w,h,h31=>by
  rw[a06,bA]at h;obtain⟨m,e,i,j⟩:=b8v h.1 (32-w) w (by omega) h31;obtain⟨b,a,c,d⟩:=a8S l (a1C x (32-w) w) h.2 e;simp only[b17];refine⟨by omega,a,fun y k=>?_,fun v hv f g=>?_⟩;rcases mC.1 k with rfl|k;exact c4l b a i;exact c y k;exact d v (j v hv (g x a73) f) f fun y k=>g y (List.mem_cons_of_mem _ k)
theorem c0B(h:l.all a0A=true):∀x∈l,inW x (a0G l)=true:=(a8S l 0 h (by omega)).2.2.1
theorem b5U(h:l.all a0A=true)(hv:v≤31)(g:∀x∈l,inW x v=true):a0G l≤v:=(a8S l 0 h (by omega)).2.2.2 v (by omega) hv g
theorem c4n(e:w≤30)(a:((2^w:Nat):Int) ∣ x)(h:inW x v=true):inW (z0h .i64 x (w:Int)) v=true:=by
 obtain⟨c,rfl⟩:=a;rw[c4d (by omega)];rw[b5m]at h⊢;have hp:(1:Int)≤((2^w:Nat):Int):=by have:=a20 w;omega
 generalize ((2^w:Nat):Int)=p at h hp;rcases h with h|⟨f,k,b,d⟩;rcases Int.mul_eq_zero.1 h with h|h;omega;exact .inl h;refine .inr ⟨f,k,?_,?_⟩
 by_cases hc:0≤c
 have:(0:Int)≤((2^(v-1):Nat):Int):=a74 _
 omega;have g:=a56 (show 0≤p-1 by omega) (show 0≤-c by omega);rw[Int.mul_neg,b04]at g;omega
 by_cases hc:0≤c
 have g:=a56 (show 0≤p-1 by omega) hc;rw[b04]at g;omega
 have:(1:Int)≤((2^(v-1):Nat):Int):=by have:=a20 (v-1);omega
 omega
theorem c2E(b:l.length≤4096)(h:l.all a0A=true):a0G (a1a l)≤a0G l:=by
 obtain⟨-,d,e⟩:=a7K (show short l by unfold short;omega) h;obtain⟨-,a,-,-⟩:=a5M b h;have k:∀x∈l,((2^a2D l:Nat):Int) ∣ x:=by
  rcases e with⟨g,-⟩|⟨-,-,g,-⟩;exact fun x f=>by rw[g x f];exact a98 _
  exact g
 refine b5U a (a1J h) fun y c=>?_
 obtain⟨x,f,rfl⟩:=a99.1 c;exact c4n d (k x f) (c0B h x f)
theorem c2F(c:1≤l.length)(h:l.length≤4096)(f:l.all a0A=true):a3y (a1j 1 l (cS 1 0 0 [] [])).1 (l.length:Int)=((13+a0G (a1a l)*l.length:Nat):Int):=by
 have d:SmallS (cS 1 0 0 [] []):=a9l (by simp) (by simp);have g:=b4g c h f;obtain⟨a1,-,-,a⟩:=b7X d (k:=1) (l:=l) (by rw[g]);obtain⟨j,i,-⟩:=c4j a1 (by rw[a];rfl);obtain⟨-,-,b,-⟩:=a5M h f;rw[i,g];have e:c2C (a1D (a0T 1 (cS 1 0 0 [] [])) (a2D l) (a1a l) z0 []) j=13+0+a0G (a1a l)*(a1a l).length+0:=rfl;rw[e,b];rfl
theorem c2G(b:1≤l.length)(f:l.length≤4096)(a:l.all a0A=true)(g:b7i (a1a l))(d:0≤k)(t:k≤3):
  ∃s,a3v (l,k)=some (s,0)∧SmallS s∧a1U s (l.length:Int)=some l∧s=(b4c l (a3z (a1a l) k)).2.2∧a3y s (l.length:Int)=(b4c l (a3z (a1a l) k)).1∧a3y s (l.length:Int)≤((13+a0G l*l.length:Nat):Int)∧
   (∀c∈a3z (a1a l) k,(a1j c.1 l c).2=0→a3y s (l.length:Int)≤a3y (a1j c.1 l c).1 (l.length:Int)):=by
 obtain⟨-,p,u,-⟩:=a5M f a;have hb:=c5H b f a g d t;have j:=c2D b f a (a1a l) k;obtain⟨c,i,q,r,o⟩:=(b7Y l (a3z (a1a l) k)).one j;have e:=b7j p (by omega) g k c i;obtain⟨m,-,-,n⟩:=b7X e q;rw[←r]at m n;have h:∀c∈a3z (a1a l) k,(a1j c.1 l c).2=0→a3y (b4c l (a3z (a1a l) k)).2.2 (l.length:Int)≤a3y (a1j c.1 l c).1 (l.length:Int):=fun c i d=>by
  rw[←o];exact((b7Y l (a3z (a1a l) k)).least c i d).2
 refine⟨_,hb,m,n,rfl,o.symm,?_,h⟩;have hp:=h (cS 1 0 0 [] []) (by simp[a3z,a1Y]) (by rw[show(cS 1 0 0 [] []).1=1 from rfl,b4g b f a]);rw[show(cS 1 0 0 [] []).1=1 from rfl,c2F b f a]at hp
 have:=a35 l.length (c2E f a)
 omega
@[reducible] def Rd:Type:=(List Int)×(Int×(Int×Unit))
def a1o(L:List Int):Prop:=∀b∈L,b=0∨b=1
def b1s(bs:List Int)(i:Nat):Bool:=(bs.getD (i / 8) 0).toNat.testBit (7-i%8)
theorem or8{x y:Nat}(h:x<256)(g:y<256):bits .u8 .or (x:Int) (y:Int)=((x ||| y:Nat):Int):=by
 show wrap .u8 (((a02 8 (x:Int)) ||| (a02 8 (y:Int))).toNat:Int)=_;rw[a44,a44,a47,a51,a51,a38 h,a38 g,a8M]
 have:x ||| y<2^8:=b00 h g
 omega
theorem d1E{b:Int}(hb:b=0∨b=1){r:Nat}(g:r<8):z0g .u8 b (7-(r:Int))=((b.toNat*2^(7-r):Nat):Int):=by
 have h:∀r:Fin 8,z0g .u8 0 (7-(r.1:Int))=((0*2^(7-r.1):Nat):Int)∧z0g .u8 1 (7-(r.1:Int))=((1*2^(7-r.1):Nat):Int):=by decide +kernel
 rcases hb with rfl|rfl;exact(h ⟨r,g⟩).1;exact(h ⟨r,g⟩).2
theorem c4o{x:Nat}(h:x<256){r:Nat}(g:r<8):bits .u8 .and (z0h .u8 (x:Int) (7-(r:Int))) 1=if x.testBit (7-r)then 1 else 0:=by
 have e:z0h .u8 (x:Int) (7-(r:Int))=((x / 2^(7-r):Nat):Int):=by
  show b09 (x:Int) (2^(min (7-(r:Int)).toNat 8))=_
  grind
 rw[e];have f:x / 2^(7-r)<256:=a72 (a67 _ _) h;show wrap .u8 (((a02 8 ((x / 2^(7-r):Nat):Int)) &&& (a02 8 1)).toNat:Int)=_
 grind[a02,a8M]
theorem c3n(L:List Int)(b:Int)(i:Nat):(L++[b]).getD i 0=if i=L.length then b else L.getD i 0:=by
 grind
theorem c0C(h:List Int)(k:Nat)(y:Int)(g:k<h.length)(j:Nat):(h.set k y).getD j 0=if j=k then y else h.getD j 0:=by
 grind
theorem b8w:∀(n:Nat)(L:List Int),L.length=n→a1o L→(∀j,0≤(wL L).1.getD j 0∧(wL L).1.getD j 0<256)∧∀i,b1s (wL L).1 i=decide (L.getD i 0=1)
 |0,L,h,_=>by
  simp_all[wL,b1s]
 |n+1,L,h,hL=>by
  obtain⟨g,b,rfl⟩:∃g b,L=g++[b]:=by
   rcases a89 L with rfl|⟨g,b,e⟩
   all_goals simp_all
  have hb:b=0∨b=1:=hL b (by simp);obtain⟨v,w⟩:=b8w n g (by simp_all) fun c D=>hL c (by grind);obtain⟨o,p⟩:=a4N g;rw[b7R];generalize wL g=wr at o p v w⊢;obtain⟨d,m,u⟩:=wr;have o:m=(g.length:Int):=o;have p:d.length=(g.length+7) / 8:=p;subst o;have e8:((g.length:Int) / 8).toNat=g.length / 8:=by rfl
  have r:(g.length:Int)%8=((g.length%8:Nat):Int):=by rfl
  obtain⟨f,a,y,z⟩:∃f:List Int,(if(g.length:Int)%8=0 then d++[0]else d)=f∧g.length / 8<f.length∧∀j,f.getD j 0=d.getD j 0:=by
   grind
  rw[r]at a;have C:g.length%8<8:=a40 _ (by simp);obtain⟨x,s⟩:∃x:Nat,d.getD (g.length / 8) 0=(x:Int):=a00 (v _).1;have k:x<256:=by
   grind
  have t:b.toNat*2^(7-g.length%8)<256:=by
   have hp:2^(7-g.length%8)≤2^7:=a16 (by simp) (by omega)
   grind
  have B:x ||| b.toNat*2^(7-g.length%8)<2^8:=b00 k t;have l:(b7Q (d,(g.length:Int),u) b).1=f.set (g.length / 8) ((x ||| b.toNat*2^(7-g.length%8):Nat):Int):=by
   unfold b7Q;simp only[a,e8,r];rw[z,s,d1E hb C,or8 k t]
  rw[l];refine⟨fun j=>?_,fun i=>?_⟩
  grind[c0C]
  ·unfold b1s;rw[c0C _ _ _ y,c3n];have q:=w i;unfold b1s at q
   by_cases hk:i / 8=g.length / 8
   ·rw[if_pos hk,tN,Nat.testBit_or];rw[hk,s,tN]at q;rw[q];have A:(b.toNat*2^(7-g.length%8)).testBit (7-i%8)=(decide (b=1)&&decide (i=g.length)):=by
     rcases hb with rfl|rfl
     all_goals grind
    grind
   grind
theorem c5J(h:a1o L):(∀j,0≤(wL L).1.getD j 0∧(wL L).1.getD j 0<256)∧∀i,b1s (wL L).1 i=decide (L.getD i 0=1):=b8w _ L rfl h
def rdr(P R:List Int):Rd:=((wL (P++R)).1,(P.length:Int),(0:Int),())
theorem b7Z(k:a1o L)(o:L.length<1000000000)(l:i<L.length)(t:Int×(Int×Unit)):
  a1u (((wL L).1,t),(i:Int))=some (L.getD i 0,(wL L).1,t):=by
 obtain⟨d,e⟩:=c5J k;obtain⟨-,n⟩:=a4N L;have m:a30 (i:Int) 8=((i%8:Nat):Int):=by rfl
 have j:a48 (i:Int) 8=((i / 8:Nat):Int):=by rfl
 have b:wrap .i64 ((i / 8:Nat):Int)=((i / 8:Nat):Int):=a0D (by omega);have c:wrap .i64 (7-((i%8:Nat):Int))=7-((i%8:Nat):Int):=a0D (by omega);have g:decide (7-((i%8:Nat):Int)<0)=false:=by grind
 have hb:i / 8<(wL L).1.length:=by omega
 have f:(wL L).1[i / 8]=(wL L).1.getD (i / 8) 0:=by grind
 unfold a1u;simp only[m,j,b,c,g,a0B hb,oB,cF];obtain⟨x,a⟩:∃x:Nat,(wL L).1.getD (i / 8) 0=(x:Int):=a00 (d _).1;have h:x<256:=by grind
 rw[f,a,c4o h (a40 _ (by simp))]
 have:=e i
 unfold b1s at this;rw[a,tN]at this;rw[this];have hv:L.getD i 0=0∨L.getD i 0=1:=by
  have:L.getD i 0=L[i]:=by simp_all
  rw[this];exact k _ (a07 l)
 grind
theorem c3o(hv:v<18446744073709551616)(h:i≤64):a5K (v:Int) i=((v / 2^i%2:Nat):Int):=by
 unfold a5K;rw[a5w h];have g:v / 2^i<18446744073709551616:=a72 (a67 _ _) hv;show wrap .u8 (wrap .u64 (((a02 64 ((v / 2^i:Nat):Int)) &&& (a02 64 1)).toNat:Int))=_
 grind[a02,a0S,a8M]
theorem a1o.app{A B:List Int}(h:a1o A)(g:a1o B):a1o (A++B):=fun b hb=>(mA.1 hb).elim (h b) (g b)
theorem orU{b:Nat}(k:a<18446744073709551616)(hb:b<2)(f:a%2=0):bits .u64 .or (a:Int) (b:Int)=((a+b:Nat):Int):=by
 show wrap .u64 (((a02 64 (a:Int) ||| a02 64 (b:Int)).toNat:Nat):Int)=_;have g:(a02 64 (a:Int)).toNat=a:=by simp_all
 have h:(a02 64 (b:Int)).toNat=b:=by grind
 rw[a47,g,h];have e:a ||| b=a+b:=by
  have:=a42 (i:=1) (b:=b) (by omega) (a / 2)
  grind
 grind[a0S]
theorem c0D{v:Nat}(hv:v<9223372036854775808){n:Nat}(q:n≤62):∀(m:Nat)(P R:List Int),m≤n→a1o (P++(pb (v:Int) m++R))→(P++(pb (v:Int) m++R)).length<1000000000→
  x0r a3w (((v / 2^m:Nat):Int),(n:Int),((n-m:Nat):Int),rdr P (pb (v:Int) m++R),())=some ((v:Int),rdr (P++pb (v:Int) m) R,())
 |0,P,R,_,_,_=>by
  grind[a0H,a3w,pb]
 |m+1,P,R,hm,hok,hlen=>by
  have l:decide (((n-(m+1):Nat):Int)<(n:Int))=true:=by grind
  have a:a1u (rdr P (pb (v:Int) (m+1)++R),(P.length:Int))=some (a5K v m,rdr P (pb (v:Int) (m+1)++R)):=by
   have:=b7Z hok hlen (i:=P.length) (by simp[pb]) ((P.length:Int),(0:Int),())
   rw[show(P++(pb (v:Int) (m+1)++R)).getD P.length 0=a5K v m from by simp_all[pb]]at this;exact this
  have g:=c3o (v:=v) (by omega) (i:=m) (by omega);have b:v / 2^m%2<2:=a40 _ (by simp);have f:v / 2^(m+1)=v / 2^m / 2:=by grind[Nat.div_div_eq_div_mul]
  have p:v / 2^m≤v:=a67 _ _;have d:z0g .u64 ((v / 2^(m+1):Nat):Int) 1=((v / 2^(m+1)*2^1:Nat):Int):=b0G (o:=1) (by omega) (by omega);have h:bits .u64 .or ((v / 2^(m+1)*2^1:Nat):Int) (wrap .u64 (a5K (v:Int) m))=((v / 2^m:Nat):Int):=by
   rw[g,a0S (by omega),orU (by omega) b (by omega),f];omega
  have e:wrap .i64 (((n-(m+1):Nat):Int)+1)=((n-m:Nat):Int):=by grind[a0D]
  have j:wrap .i64 ((P.length:Int)+1)=(((P++[a5K v m]).length:Nat):Int):=by
   grind[a0D]
  have k:P++(pb (v:Int) (m+1)++R)=(P++[a5K v m])++(pb (v:Int) m++R):=by simp[pb]
  have c:((rdr P (pb (v:Int) (m+1)++R)).1,(((P++[a5K v m]).length:Nat):Int),(rdr P (pb (v:Int) (m+1)++R)).2.2)=rdr (P++[a5K v m]) (pb (v:Int) m++R):=by
   unfold rdr;simp_all
  rw[a0I (s':=(((v / 2^m:Nat):Int),(n:Int),((n-m:Nat):Int),rdr (P++[a5K v m]) (pb (v:Int) m++R),())) (by
   simp only[a3w,l,cT];rw[show(rdr P (pb (v:Int) (m+1)++R)).2.1=(P.length:Int)from rfl,a];simp only[oB,d,h,e];rw[show(rdr P (pb (v:Int) (m+1)++R)).2.1=(P.length:Int)from rfl,j,c])]
  rw[c0D hv q m _ _ (by omega) (by simp_all) (by simp_all)];simp[pb]
theorem c3p(a:n≤62)(hv:v<2^n)(g:a1o (P++(pb (v:Int) n++R)))(k:(P++(pb (v:Int) n++R)).length<200000000):
  a0E (rdr P (pb (v:Int) n++R),(n:Int))=some ((v:Int),rdr (P++pb (v:Int) n) R):=by
 have h:v<9223372036854775808:=Nat.lt_of_lt_of_le hv (Nat.le_trans (a16 (by simp) a) (by simp));have f:=c0D h a n P R (by omega) g (by omega);rw[a80 hv,Nat.sub_self]at f;simp at f;obtain⟨-,e⟩:=a4N (P++(pb (v:Int) n++R));have j:=b2w (v:Int) n;have i:(P++(pb (v:Int) n++R)).length=P.length+n+R.length:=by grind
 have e8:wrap .i64 ((8:Int)*(((wL (P++(pb (v:Int) n++R))).1.length:Nat):Int))=(8:Int)*(((wL (P++(pb (v:Int) n++R))).1.length:Nat):Int):=a0D (by omega);have d:wrap .i64 ((8:Int)*(((wL (P++(pb (v:Int) n++R))).1.length:Nat):Int)-(P.length:Int))=(8:Int)*(((wL (P++(pb (v:Int) n++R))).1.length:Nat):Int)-(P.length:Int):=a0D (by omega);have b:decide ((n:Int)<0)=false:=by simp
 have c:decide ((n:Int) > 64)=false:=by grind
 have l:decide ((n:Int) > (8:Int)*(((wL (P++(pb (v:Int) n++R))).1.length:Nat):Int)-(P.length:Int))=false:=by
  grind
 unfold a0E a2m;rw[show(rdr P (pb (v:Int) n++R)).2.2.1=0 from rfl];simp only[bne_self_eq_false,cF,b,c,oB];rw[show(rdr P (pb (v:Int) n++R)).1=(wL (P++(pb (v:Int) n++R))).1 from rfl,show(rdr P (pb (v:Int) n++R)).2.1=(P.length:Int)from rfl,e8,d]
 grind
def b2X(n:Nat)(x:Int):Prop:=-((2^n:Nat):Int)≤2*x∧2*x<((2^n:Nat):Int)
theorem b8x(f:n≤62)(x:Int):∃v:Nat,a0P x n=(v:Int)∧v<2^n∧(v:Int)=x%((2^n:Nat):Int):=by
 have k:wrap .u64 x=x%18446744073709551616:=by simp[wrap,IntKind.bits,IntKind.signed]
 obtain⟨y,g⟩:∃y:Nat,x%18446744073709551616=(y:Int):=a00 (Int.emod_nonneg _ (by decide));have h:y<18446744073709551616:=by omega
 refine⟨y%2^n,?_,a40 _ (a20 n),?_⟩;unfold a0P;rw[k,g];exact b9F h f;rw[Int.natCast_emod,←g];refine Int.emod_emod_of_dvd x ?_
 have:(2:Nat)^n ∣ 2^64:=a68 2 (by omega)
 exact a23.2 this
theorem c3q(t:n≤62)(B:b2X n x)(j:a1o (P++(pb (a0P x n) n++R)))(f:(P++(pb (a0P x n) n++R)).length<200000000):
  a0X (rdr P (pb (a0P x n) n++R),(n:Int))=some (x,rdr (P++pb (a0P x n) n) R):=by
 obtain⟨v,hv,i,a⟩:=b8x t x;rw[hv]at j f⊢;have d:=c3p t i j f;obtain⟨b,c⟩:=B;have E:=a20 n;have q:(v:Int)=x∧0≤x∨(v:Int)=x+((2^n:Nat):Int)∧x<0:=by
  by_cases h0:0≤x
  exact .inl ⟨by rw[a];exact b01 h0 (by omega),h0⟩;refine .inr ⟨?_,by omega⟩;rw[a,←Int.add_emod_right];exact b01 (by omega) (by omega)
 unfold a0X;simp only[d,oB];rw[show(rdr (P++pb (v:Int) n) R).2.2.1=0 from rfl];simp only[bne_self_eq_false,cF,oB];cases n with
 |zero=>
  have o:x=0:=by simp at b c;omega
  subst o;rfl
 |succ k=>
  have p:(((k+1:Nat):Int)==0)=false:=by simp only[beq_eq_false_iff_ne];omega
  have A:wrap .i64 ((64:Int)-((k+1:Nat):Int))=((64-(k+1):Nat):Int):=by rw[a0D (by omega)];omega
  have z:decide (((64-(k+1):Nat):Int)<0)=false:=by simp
  simp only[p,cF,A,z];have s:64-(k+1)+(k+1)=64:=by omega
  generalize 64-(k+1)=m at s⊢;have l:2^m*2^(k+1)=18446744073709551616:=by rw[←Nat.pow_add,s]
  have g:((2^m:Nat):Int)*((2^(k+1):Nat):Int)=18446744073709551616:=by rw[←a49,l];rfl
  have hp:=a20 m;have r:z0g .u64 (v:Int) (m:Int)=(v:Int)*((2^m:Nat):Int):=by
   show wrap .u64 ((v:Int)*2^(min (m:Int).toNat 64))=_;rw[tN,a88 (by omega)];have e:(2:Int)^m=((2^m:Nat):Int):=by simp
   rw[e];refine a0S ⟨a56 (by omega) (by omega),?_⟩
   have:v*2^m<2^(k+1)*2^m:=Nat.mul_lt_mul_of_pos_right i hp
   rw[←a49];rw[a69 (2^(k+1)),l]at this;omega
  have u:-9223372036854775808≤x*((2^m:Nat):Int):=by
   have:=Int.mul_le_mul_of_nonneg_right b (show(0:Int)≤((2^m:Nat):Int)by omega)
   have e:-((2^(k+1):Nat):Int)*((2^m:Nat):Int)=-18446744073709551616:=by rw[Int.neg_mul,a85,g]
   rw[e,Int.mul_assoc]at this;omega
  have w:x*((2^m:Nat):Int)<9223372036854775808:=by
   have:=Int.mul_lt_mul_of_pos_right c (show(0:Int)<((2^m:Nat):Int)by omega)
   rw[a85 ((2^(k+1):Nat):Int),g,Int.mul_assoc]at this;omega
  have D:wrap .i64 ((v:Int)*((2^m:Nat):Int))=x*((2^m:Nat):Int):=by
   rcases q with⟨h,-⟩|⟨h,-⟩;rw[h];exact a0D (by omega);rw[h,Int.add_mul,a85 ((2^(k+1):Nat):Int),g];generalize x*((2^m:Nat):Int)=y at u w⊢;have o:y<0∨0≤y:=by omega
   simp only[wrap,IntKind.bits,IntKind.signed]
   simp
   split<;>omega
  have C:z0h .i64 (x*((2^m:Nat):Int)) (m:Int)=x:=by
   show b09 (x*((2^m:Nat):Int)) (2^(min (m:Int).toNat 64))=x;rw[tN,a88 (by omega)];have e:(2:Int)^m=((2^m:Nat):Int):=by simp
   rw[e,a32 _ (by omega)];exact Int.mul_ediv_cancel _ (by omega)
  rw[r,D,C]
theorem c2H(P:List Int)(n:Nat)(R:List Int){c:Nat}(h:c<n):(P++(a01 n 0++1::R)).getD (P.length+c) 0=0:=by
 simp only[lD];rw[a26 (by omega),a86,List.getElem?_append_left (by simpa using h)];simp[h]
theorem c4p(P:List Int)(n:Nat)(R:List Int):(P++(a01 n 0++1::R)).getD (P.length+n) 0=1:=by
 simp only[lD];rw[a26 (by omega),a86,a26 (by simp)]
 simp
theorem c3r{lm:Nat}(y:n≤lm)(w:lm<1000000)(q:a1o (P++(a01 n 0++1::R)))(s:(P++(a01 n 0++1::R)).length<200000000):
  a1A (rdr P (a01 n 0++1::R),(lm:Int))=some ((n:Int),rdr (P++(a01 n 0++[1])) R):=by
 obtain⟨-,u⟩:=a4N (P++(a01 n 0++1::R));have v:(P++(a01 n 0++1::R)).length=P.length+n+1+R.length:=by simp;omega
 have e8:wrap .i64 ((8:Int)*(((wL (P++(a01 n 0++1::R))).1.length:Nat):Int))=(8:Int)*(((wL (P++(a01 n 0++1::R))).1.length:Nat):Int):=a0D (by omega);have j:∀c,c≤n→a1u (rdr P (a01 n 0++1::R),((P.length:Int)+(c:Int)))=some (if c=n then 1 else 0,rdr P (a01 n 0++1::R)):=fun c o=>by
  have:=b7Z q (by omega) (i:=P.length+c) (by omega) ((P.length:Int),(0:Int),())
  rw[b18]at this;refine this.trans ?_
  by_cases e:c=n
  subst e;rw[c4p,if_pos rfl];rfl;rw[c2H P n R (by omega),if_neg e];rfl
 have k:∀c:Nat,c≤n→(((P.length:Int)+(c:Int))==(8:Int)*(((wL (P++(a01 n 0++1::R))).1.length:Nat):Int))=false:=fun c o=>by
  simp only[beq_eq_false_iff_ne];omega
 have m:wrap .i64 ((P.length:Int)+(n:Int)+1)=(((P++(a01 n 0++[1])).length:Nat):Int):=by
  rw[a0D (by omega)];simp;omega
 have g:P++(a01 n 0++1::R)=(P++(a01 n 0++[1]))++R:=by simp
 have r:((rdr P (a01 n 0++1::R)).1,(((P++(a01 n 0++[1])).length:Nat):Int),(rdr P (a01 n 0++1::R)).2.2)=rdr (P++(a01 n 0++[1])) R:=by
  unfold rdr;rw[g]
 have a:(rdr P (a01 n 0++1::R)).1=(wL (P++(a01 n 0++1::R))).1:=rfl;have h:=a2t (f:=a2W) (fun c:Nat=>((lm:Int),(c:Int),(P.length:Int)+(c:Int),rdr P (a01 n 0++1::R),())) n (b:=((n:Int),rdr (P++(a01 n 0++[1])) R,()))
  (fun c o=>by
   have l:((0:Int)==1)=false:=rfl;have t:(((c:Nat):Int)==(lm:Int))=false:=by simp only[beq_eq_false_iff_ne];omega
   have x:wrap .i64 ((c:Int)+1)=((c+1:Nat):Int):=a0C (by omega);have w2:wrap .i64 ((P.length:Int)+(c:Int)+1)=(P.length:Int)+((c+1:Nat):Int):=by rw[a0D (by omega)];omega
   simp only[a2W,a,e8,k c (by omega),cF,j c (by omega),oB,if_neg (Nat.ne_of_lt o),l,t,x,w2])
  (by
   have l:((1:Int)==1)=true:=rfl;simp only[a2W,a,e8,k n (a24 _),cF,j n (a24 _),oB,if_pos rfl,l,cT,m];rw[←a,r];rfl)
 unfold a1A;rw[show(rdr P (a01 n 0++1::R)).2.2.1=0 from rfl,show(rdr P (a01 n 0++1::R)).2.1=(P.length:Int)from rfl];have p:u0z (lm:Int) 0=(lm:Int):=by
  have d:decide ((0:Int) > (lm:Int))=false:=by simp
  simp only[u0z,d,cF]
 simp only[nZ,Int.add_zero,a09]at h;simp only[bne_self_eq_false,cF,p,h,oB]
def OkR(P R:List Int):Prop:=a1o (P++R)∧(P++R).length<200000000
theorem OkR.shift{A:List Int}(h:OkR P (A++R)):OkR (P++A) R:=by
 unfold OkR at h⊢
 rwa [aA]
theorem a3c(g:n≤62)(hv:v<2^n)(h:OkR P (pb (v:Int) n++R)):a0E (rdr P (pb (v:Int) n++R),(n:Int))=some ((v:Int),rdr (P++pb (v:Int) n) R):=c3p g hv h.1 h.2
theorem a8j(f:n≤62)(g:b2X n x)(h:OkR P (pb (a0P x n) n++R)):a0X (rdr P (pb (a0P x n) n++R),(n:Int))=some (x,rdr (P++pb (a0P x n) n) R):=c3q f g h.1 h.2
def unB(n:Nat):List Int:=a01 n 0++[1]
theorem c0E{lm:Nat}(f:n≤lm)(g:lm<1000000)(h:OkR P (unB n++R)):a1A (rdr P (unB n++R),(lm:Int))=some ((n:Int),rdr (P++unB n) R):=by
 have e:unB n++R=a01 n 0++1::R:=by simp[unB]
 rw[e]at h⊢;exact c3r f g h.1 h.2
theorem a2j{v n:Nat}(h:n≤63)(hv:v<2^n)(L:List Int):a0L (v:Int) n L=L++pb (v:Int) n:=by
 unfold a0L;rw[a5w (N:=v) (o:=n) (by omega),a80 hv]
 simp
def a8a(k:Nat)(x:Int):List Int:=
 if a0M x / 2^k<32 then unB (a0M x / 2^k)++pb ((a0M x%2^k:Nat):Int) k else unB 32++pb ((a0M x:Nat):Int) 32
theorem c3s{k:Nat}(f:k≤25)(g:a0A x=true)(L:List Int):a5L k x L=L++a8a k x:=by
 have h:=a8d g;unfold a5L a8a;split;rw[a2j (by omega) (a40 _ (a20 k))];simp[unL,unB];rw[a2j (by omega) (by omega)];simp[unL,unB]
theorem c3t(f:a0A x=true):a6f ((a0M x:Nat):Int)=some x:=by
 have b:=a8d f;have d:=a1z.1 f;have c:a30 ((a0M x:Nat):Int) 2=((a0M x:Nat):Int)%2:=a46 (by omega);have a:a48 ((a0M x:Nat):Int) 2=((a0M x:Nat):Int) / 2:=a76 (by omega);have k:decide (((a0M x:Nat):Int)≥2147483648)=false:=by simp only[ge_iff_le,decide_eq_false_iff_not];omega
 unfold a6f;simp only[k,cF,c,a]
 by_cases h0:0≤x
 have e:((a0M x:Nat):Int)=2*x:=by unfold a0M;rw[if_pos h0];omega
 rw[e];have h:((2*x)%2==(0:Int))=true:=by simp only[beq_iff_eq];omega
 have g:2*x / 2=x:=by omega
 simp only[h,cT,g];rw[a0S (by omega),a0D (by omega)];have e:((a0M x:Nat):Int)=-2*x-1:=by unfold a0M;rw[if_neg h0];omega
 rw[e];have h:((-2*x-1)%2==(0:Int))=false:=by simp only[beq_eq_false_iff_ne];omega
 have g:(-2*x-1) / 2=-x-1:=by omega
 simp only[h,cF,g];rw[a0S (n:=-x-1) (by omega),a0D (n:=-x-1) (by omega),a0D (n:=0-(-x-1)) (by omega),a0D (by omega)];congr 1;omega
theorem c1n{k:Nat}(w:k≤25)(q:a0A x=true)(h:OkR P (a8a k x++R)):b1g (rdr P (a8a k x++R),(k:Int))=some (x,(0:Int),rdr (P++a8a k x) R):=by
 have u:=a8d q;have g:=c3t q;unfold b1g a0K;unfold a8a at h⊢;have r:∀A B:List Int,(rdr A B).2.2.1=0:=fun _ _=>rfl;split;rename_i l;rw[if_pos l,aA]at h;have e:=c0E (n:=a0M x / 2^k) (lm:=32) (by omega) (by omega) h;have i:=a3c (n:=k) (v:=a0M x%2^k) (by omega) (a40 _ (a20 k)) h.shift;have d:wrap .u64 ((a0M x / 2^k:Nat):Int)=((a0M x / 2^k:Nat):Int):=a1X (by omega);have b:decide (((a0M x / 2^k:Nat):Int)<32)=true:=by simp only[dT];omega
 have c:decide ((k:Int)<0)=false:=by simp
 have p:a0M x / 2^k*2^k≤a0M x:=Nat.div_mul_le_self _ _;have m:z0g .u64 ((a0M x / 2^k:Nat):Int) (k:Int)=((a0M x / 2^k*2^k:Nat):Int):=b0G (by omega) (by omega);have a:wrap .u64 (((a0M x / 2^k*2^k:Nat):Int)+((a0M x%2^k:Nat):Int))=((a0M x:Nat):Int):=by
  rw[←b18,Nat.div_add_mod',a0S (by omega)]
 rw[aA];have f:a1A (rdr P (unB (a0M x / 2^k)++(pb ((a0M x%2^k:Nat):Int) k++R)),(32:Int))=_:=e;simp only[f,oB,r,bne_self_eq_false,cF,d,b,cT,i,c,m,a,g];rw[aA];rename_i l;rw[if_neg l,aA]at h;have e:=c0E (n:=32) (lm:=32) (by omega) (by omega) h;have i:=a3c (n:=32) (v:=a0M x) (by omega) (by omega) h.shift;have d:wrap .u64 (32:Int)=32:=a0S (by omega);have b:decide ((32:Int)<32)=false:=by simp
 have c:decide ((k:Int)<0)=false:=by simp
 have s:decide (((a0M x:Nat):Int)≥2147483648)=false:=by simp only[ge_iff_le,decide_eq_false_iff_not];omega
 have o:z0h .u64 ((a0M x:Nat):Int) (k:Int)=((a0M x / 2^k:Nat):Int):=a5w (by omega);have t:decide (((a0M x / 2^k:Nat):Int)<32)=false:=by simp only[decide_eq_false_iff_not];omega
 rw[aA];have f:a1A (rdr P (unB 32++(pb ((a0M x:Nat):Int) 32++R)),(32:Int))=some ((32:Int),_):=e;have j:a0E (rdr (P++unB 32) (pb ((a0M x:Nat):Int) 32++R),(32:Int))=_:=i;simp only[f,oB,r,bne_self_eq_false,cF,d,b,j,c,s,o,t,g];rw[aA]
def a2M(k:Nat)(l:List Int):List Int:=l.flatMap (a8a k)
theorem b7k{k:Nat}(g:k≤25):∀(l L:List Int),l.all a0A=true→a3Y k l L=L++a2M k l
 | [],L,_=>by simp[a3Y,a2M]
 |x::l,L,h=>by
  simp only[a06,bA]at h;show a3Y k l (a5L k x L)=_;rw[b7k g l _ h.2,c3s g h.1];simp[a2M]
theorem b4F{k:Nat}(f:k≤25){N:Nat}(c:N<1000000):∀(l done P R:List Int),l.all a0A=true→done.length+l.length=N→OkR P (a2M k l++R)→
  x0r a7V ((k:Int),(N:Int),(done.length:Int),done,rdr P (a2M k l++R),())=some (Sum.inl (done++l,rdr (P++a2M k l) R,()))
 | [],done,P,R,_,hl,_=>by
  have:done.length=N:=by simpa using hl
  subst this;have d:decide ((done.length:Int)<(done.length:Int))=false:=by simp
  rw[a0H (b:=Sum.inl (done,rdr P R,())) (by simp only[a7V,d,cF];simp[a2M])];simp[a2M]
 |x::l,done,P,R,h,hl,hok=>by
  simp only[a06,bA]at h;rw[lC]at hl;have e:a2M k (x::l)++R=a8a k x++(a2M k l++R):=by simp[a2M]
  rw[e]at hok⊢;have d:decide ((done.length:Int)<(N:Int))=true:=by simp;omega
  have a:=c1n f h.1 hok;have g:lim (a39 done+1)=true:=a1f (by omega);have i:wrap .i64 ((done.length:Int)+1)=(((done++[x]).length:Nat):Int):=by rw[a0D (by omega)];simp
  rw[a0I (s':=((k:Int),(N:Int),(((done++[x]).length:Nat):Int),done++[x],rdr (P++a8a k x) (a2M k l++R),())) (by
   simp only[a7V,d,cT,a,oB,bne_self_eq_false,cF,g,i,a08])]
  rw[b4F f c l (done++[x]) (P++a8a k x) R h.2 (by simp;omega) hok.shift];simp[a2M]
theorem c1o{k:Nat}(c:k≤25)(h:l.all a0A=true)(d:l.length<1000000)(b:OkR P (a2M k l++R)):
  b1h (rdr P (a2M k l++R),(k:Int),((l.length:Nat):Int))=some (l,(0:Int),rdr (P++a2M k l) R):=by
 have hp:a1H (k:Int)=some true:=by
  unfold a1H;have f:decide ((k:Int)≥0)=true:=by simp
  have a:decide ((k:Int)≤25)=true:=by simp;omega
  simp[f,a]
 have f:decide (((l.length:Nat):Int)<0)=false:=by simp
 have a:decide (((l.length:Nat):Int) > 4194304)=false:=by simp;omega
 have e:∀A B:List Int,(rdr A B).2.2.1=0:=fun _ _=>rfl;have g:=b4F c d l [] P R h (by simp) b;simp only[a17,nZ,a04,a09]at g;unfold b1h a0K;simp only[hp,oB,bT,cF,f,a,e,bne_self_eq_false]
 erw[g]
 rfl
theorem c4q(h:inW x v=true):b2X v x:=by
 have hp:=a20 v;rcases b5m.1 h with rfl|⟨g,-,f,k⟩;exact⟨by omega,by omega⟩;have e:2^v=2^(v-1)*2:=by rw[←a53];congr 1;omega
 unfold b2X;rw[e];omega
theorem b4h(h:l.all a0A=true):∀x∈l,b2X (a0G l) x:=fun x g=>c4q (c0B h x g)
def sB(n:Nat)(l:List Int):List Int:=l.flatMap fun x=>pb (a0P x n) n
theorem a8k{n:Nat}(g:n≤62):∀(l L:List Int),a1r n l L=L++sB n l
 | [],L=>by simp[a1r,sB]
 |x::l,L=>by
  show a1r n l (a0L (a0P x n) n L)=_;obtain⟨v,hv,h,-⟩:=b8x g x;rw[a8k g l,hv,a2j (by omega) h,←hv];simp[sB]
theorem b8a(n:Nat)(x:Int)(l R:List Int):sB n (x::l)++R=pb (a0P x n) n++(sB n l++R):=by simp[sB]
theorem b3z{k:Int}{n:Nat}(f:n≤62){N:Nat}(c:N<1000000):∀(l done P R:List Int),(∀x∈l,b2X n x)→done.length+l.length=N→OkR P (sB n l++R)→
  x0r a7p (k,(n:Int),(N:Int),(done.length:Int),done,rdr P (sB n l++R),())=some (k,(n:Int),done++l,rdr (P++sB n l) R,())
 | [],done,P,R,_,hl,_=>by
  have:done.length=N:=by simpa using hl
  subst this;have d:decide ((done.length:Int)<(done.length:Int))=false:=by simp
  rw[a0H (b:=(k,(n:Int),done,rdr P R,())) (by simp only[a7p,d,cF];simp[sB])];simp[sB]
 |x::l,done,P,R,h,hl,hok=>by
  rw[lC]at hl;rw[b8a]at hok⊢;have d:decide ((done.length:Int)<(N:Int))=true:=by simp;omega
  have a:=a8j f (h x (by simp)) hok;have g:lim (a39 done+1)=true:=a1f (by omega);have e:wrap .i64 ((done.length:Int)+1)=(((done++[x]).length:Nat):Int):=by rw[a0D (by omega)];simp
  rw[a0I (s':=(k,(n:Int),(N:Int),(((done++[x]).length:Nat):Int),done++[x],rdr (P++pb (a0P x n) n) (sB n l++R),())) (by
   simp only[a7p,d,cT,a,oB,g,e,a08])]
  rw[b3z f c l (done++[x]) _ R (fun y i=>h y (by simp[i])) (by simp;omega) hok.shift];simp[sB]
def a8T(k:Int)(part:List Int):List Int:=if k=31 then pb 31 5++(pb ((a0G part:Nat):Int) 5++sB (a0G part) part)else pb k 5++a2M k.toNat part
theorem c3u(a:kB k=true)(f:part.all a0A=true)(L:List Int):a7Y k part L=L++a8T k part:=by
 have b:=a1J f;simp only[kB,a33,bA,dT,beq_iff_eq]at a;obtain⟨K,rfl⟩:=a00 (show 0≤k by omega);unfold a7Y a8T;rw[a1X (by omega)];have g:=a2j (v:=K) (n:=5) (by omega) (by omega) L;split;rename_i h;rw[a8k (by omega),a2j (v:=a0G part) (n:=5) (by omega) (by omega),g,h]
 simp
 rw[b7k (by omega) _ _ f,g]
 simp
theorem c0F(o:kB k=true)(e:part.all a0A=true)(d:part.length<1000000)(h:OkR P (a8T k part++R)):
  a9M (rdr P (a8T k part++R),((part.length:Nat):Int))=some (k,part,(0:Int),rdr (P++a8T k part) R):=by
 have q:=a1J e;have i:∀A B:List Int,(rdr A B).2.2.1=0:=fun _ _=>rfl;simp only[kB,a33,bA,dT,beq_iff_eq]at o;obtain⟨K,rfl⟩:=a00 (show 0≤k by omega);unfold a9M a0K;unfold a8T at h⊢;split;rename_i f;rw[if_pos f,aA,aA]at h;rw[aA,aA];obtain rfl:K=31:=by omega
 have c:a0E (rdr P (pb 31 5++(pb ((a0G part:Nat):Int) 5++(sB (a0G part) part++R))),(5:Int))=_:=a3c (v:=31) (n:=5) (by omega) (by omega) h;have g:=h.shift;have l:a0E (rdr (P++pb 31 5) (pb ((a0G part:Nat):Int) 5++(sB (a0G part) part++R)),(5:Int))=_:=a3c (v:=a0G part) (n:=5) (by omega) (by omega) g;have a:=b3z (k:=31) (n:=a0G part) (by omega) d part [] _ R (b4h e) (by simp) g.shift;simp only[a17,nZ,a04,a09]at a;have j:wrap .i64 ((31:Nat):Int)=31:=by decide
 have w2:wrap .i64 ((a0G part:Nat):Int)=((a0G part:Nat):Int):=a0D (by omega);have b:decide ((31:Int)≤25)=false:=by decide
 have r:((31:Int) != 31)=false:=by decide
 rw[c];simp only[oB,i,bne_self_eq_false,cF,j,b]
 erw[l]
 simp only[oB,w2]
 erw[a]
 simp only[oB,i,bne_self_eq_false,cF,a1W (show short part from d)]
 simp
 rename_i f;rw[if_neg f,aA]at h;rw[aA];have m:K≤25:=by omega
 have c:a0E (rdr P (pb (K:Int) 5++(a2M ((K:Int).toNat) part++R)),(5:Int))=_:=a3c (v:=K) (n:=5) (by omega) (by omega) h;have p:=c1o m e d h.shift;have j:wrap .i64 (K:Int)=(K:Int):=a0D (by omega);have b:decide ((K:Int)≤25)=true:=by simp;omega
 rw[c];simp only[oB,i,bne_self_eq_false,cF,j,b,cT]
 erw[p]
 simp
def a1F:List Nat→List Int→List Int→List Int
 |z::zs,k::ks,l=>a8T k (l.take z)++a1F zs ks (l.drop z)
 |_,_,_=>[]
theorem b8y(h:l.all a0A=true)(z:Nat):(l.take z).all a0A=true:=lA.2 fun x g=>lA.1 h x (a64 g)
theorem b8z(h:l.all a0A=true)(z:Nat):(l.drop z).all a0A=true:=lA.2 fun x g=>lA.1 h x (a65 g)
theorem b7l:∀(zs:List Nat)(ks l L:List Int),ks.all kB=true→l.all a0A=true→a3Z zs ks l L=L++a1F zs ks l
 |z::zs,k::ks,l,L,hk,hw=>by
  simp only[a06,bA]at hk;simp only[a3Z,a1F];rw[b7l zs ks _ _ hk.2 (b8z hw z),c3u hk.1 (b8y hw z)]
  simp
 | [],_,_,L,_,_=>by simp[a3Z,a1F]
 |_::_,[],_,L,_,_=>by simp[a3Z,a1F]
theorem c3v(h:List Nat)(z:Nat)(g:List Nat):(a1h (h++z::g)).getD h.length 0=(z:Int):=by
 simp_all[a1h]
theorem b3A{o:Int}{z0:Prt}:∀(zs:List Nat)(ks l dk acc P R:List Int)(dz:List Nat),ks.length=zs.length→ks.all kB=true→zs.sum=l.length→l.all a0A=true→
  dk.length=dz.length→(dz++zs).length≤256→acc.length+l.length≤10000→OkR P (a1F zs ks l++R)→
  x0r a7q (((a1h (dz++zs)).length:Int),(dz.length:Int),acc,a1h (dz++zs),rdr P (a1F zs ks l++R),z0,(o,dk,()),()) =
   some (Sum.inl (acc++l,z0,(o,dk++ks,()),rdr (P++a1F zs ks l) R,()))
 | [],ks,l,dk,acc,P,R,dz,hk,_,hs,_,_,_,_,_=>by
  obtain rfl:ks=[]:=a54.1 hk;obtain rfl:l=[]:=a54.1 (by simp_all);have d:decide ((dz.length:Int)<((a1h (dz++[])).length:Int))=false:=by simp[a1n]
  rw[a0H (b:=Sum.inl (acc,z0,(o,dk,()),rdr P R,())) (by simp only[a7q,d,cF];rfl)];simp[a1F]
 |z::zs,[],_,_,_,_,_,_,hk,_,_,_,_,_,_,_=>by simp_all
 |z::zs,k::ks,l,dk,acc,P,R,dz,hk,hkb,hs,hw,hd,h256,hacc,hok=>by
  simp only[a06,bA]at hkb;rw[a93]at hs;have p:z≤l.length:=by omega
  have a:(l.take z).length=z:=by simp_all
  have e:a1F (z::zs) (k::ks) l++R=a8T k (l.take z)++(a1F zs ks (l.drop z)++R):=by simp[a1F]
  rw[e]at hok⊢;have j:(a1h (dz++z::zs)).length=dz.length+1+zs.length:=by grind[a1n]
  have d:decide ((dz.length:Int)<((a1h (dz++z::zs)).length:Int))=true:=by grind
  have m:decide ((0:Int)≤(dz.length:Int))=true:=by simp
  have h:=c0F hkb.1 (b8y hw z) (by omega) hok;rw[a]at h;have i:((0:Int) != 0)=false:=rfl;rw[lN,lC]at h256;have g:lim (a39 dk+1)=true:=a1f (by omega);have f:lim (a39 acc+a39 (l.take z))=true:=a1f (by omega);have c:wrap .i64 ((dz.length:Int)+1)=(((dz++[z]).length:Nat):Int):=by grind[a0D]
  have n:dz++z::zs=(dz++[z])++zs:=by simp
  rw[a0I (s':=(((a1h ((dz++[z])++zs)).length:Int),(((dz++[z]).length:Nat):Int),acc++l.take z,a1h ((dz++[z])++zs),rdr (P++a8T k (l.take z)) (a1F zs ks (l.drop z)++R),z0,(o,dk++[k],()),())) (by
   simp only[a7q,d,m,a03,cT,tN,c3v,h,oB,i,cF,g,f,c,a08]
   simp)]
  rw[b3A zs ks (l.drop z) (dk++[k]) (acc++l.take z) _ R (dz++[z]) (by grind) hkb.2 (by grind) (b8z hw z) (by grind) (by grind) (by grind) hok.shift];simp[a1F]
def a5x(p:Prt)(zn:List Nat)(l:List Int):List Int:=pb p.1 4++a1F zn p.2.1 l
theorem b8Z{n:Int}(h:PartsOk p n warm l zn)(L:List Int):a3D p zn l L=L++a5x p zn l:=by
 obtain⟨o,ks,u⟩:=p;have g:=h.order;simp only at g;obtain⟨O,rfl⟩:=a00 g.1;unfold a3D a5x;simp only;rw[a1X (by omega),a2j (n:=4) (by omega) (by omega),b7l _ _ _ _ h.all h.wide]
 simp
theorem c0G{n:Int}(h:PartsOk p n warm l zn)(g:OkR P (a5x p zn l++R)):
  a9N (rdr P (a5x p zn l++R),n,warm)=some (p,l,(0:Int),rdr (P++a5x p zn l) R):=by
 obtain⟨o,ks,u⟩:=p;have c:=h.order;have m:=h.short;have b:=h.len;simp only at c;obtain⟨O,rfl⟩:=a00 c.1;have i:∀A B:List Int,(rdr A B).2.2.1=0:=fun _ _=>rfl;have f:=h.may;unfold a4G at f;simp only[bA,a28,beq_eq_false_iff_ne]at f;have d:=h.sizes;simp only at d;have a:(((a1h zn).length:Int)==0)=false:=by
  grind
 unfold a5x at g⊢;simp only at g⊢;rw[aA]at g⊢;have e:a0E (rdr P (pb (O:Int) 4++(a1F zn ks l++R)),(4:Int))=_:=a3c (v:=O) (n:=4) (by omega) (by omega) g;have j:wrap .i64 (O:Int)=(O:Int):=a0D (by omega);have k:=b3A (o:=(O:Int)) (z0:=((0:Int),([]:List Int),())) zn ks l [] [] _ R [] h.ks h.all h.sum h.wide rfl (by simp_all) (by grind) g.shift;simp only[a17,nZ,a04,a09]at k;unfold a9N a0K;simp[b1Q,h.row];rw[e];simp[i,j,a1L,d,a];simp_all
def a6k(s:Sub):List Int:=
 pb ((s.2.2.2.2.2.1.length-1:Nat):Int) 5++(pb s.2.2.2.1 4++(pb ((a0G s.2.2.2.2.2.1:Nat):Int) 5++sB (a0G s.2.2.2.2.2.1) s.2.2.2.2.2.1))
theorem b8A{c:List Int}{t:Int}(h:a8c c t=true):1≤c.length∧c.length≤32∧0≤t∧t≤15∧c.all a0A=true:=by
 simp only[a8c,bA,dT]at h;obtain⟨g,f,k,a,b⟩:=h;refine⟨g,f,k,a,lA.2 fun x d=>?_⟩
 have:=lA.1 b x d
 simp[b6L]at this;rw[a1z];omega
theorem b7m(h:a8c s.2.2.2.2.2.1 s.2.2.2.1=true)(L:List Int):a5s s L=L++a6k s:=by
 obtain⟨a,b,g,d,f⟩:=b8A h;have k:=a1J f;unfold a5s a6k;generalize s.2.2.2.2.2.1=c at *;generalize s.2.2.2.1=t at *;obtain⟨T,rfl⟩:=a00 g
 grind[a0D,a0S,a8k,a2j]
def b4i(s:Sub)(c:List Int):Sub:=(s.1,s.2.1,s.2.2.1,s.2.2.2.1,s.2.2.2.2.1,c,s.2.2.2.2.2.2)
def b8b(s:Sub)(t:Int):Sub:=(s.1,s.2.1,s.2.2.1,t,s.2.2.2.2)
theorem b7n{n:Nat}(g:n≤62){N:Nat}(f:N<1000000)(s:Sub):∀(l done P R:List Int),(∀x∈l,b2X n x)→done.length+l.length=N→OkR P (sB n l++R)→
  x0r a4Y ((n:Int),(N:Int),(done.length:Int),rdr P (sB n l++R),b4i s done,())=some ((n:Int),b4i s (done++l),rdr (P++sB n l) R,())
 | [],done,P,R,_,hl,_=>by
  have:done.length=N:=by omega
  subst this;have d:decide ((done.length:Int)<(done.length:Int))=false:=by simp
  simp_all[a0H,a4Y,sB]
 |x::l,done,P,R,h,hl,hok=>by
  rw[lC]at hl;rw[b8a]at hok⊢;have d:decide ((done.length:Int)<(N:Int))=true:=by grind
  have a:=a8j g (h x (by simp)) hok;have k:lim (a39 done+1)=true:=a1f (by omega);have b:wrap .i64 ((done.length:Int)+1)=(((done++[x]).length:Nat):Int):=by grind[a0D]
  rw[a0I (s':=((n:Int),(N:Int),(((done++[x]).length:Nat):Int),rdr (P++pb (a0P x n) n) (sB n l++R),b4i s (done++[x]),())) (by
   simp_all[a4Y,b4i])]
  rw[b7n g f s l (done++[x]) _ R (fun y c=>h y (by grind)) (by grind) hok.shift];simp[sB]
theorem b5V{s0:Sub}(h:a8c s.2.2.2.2.2.1 s.2.2.2.1=true)(r:s0.2.2.2.2.2.1=[])(g:OkR P (a6k s++R)):
  a7o (rdr P (a6k s++R),s0)=some (true,rdr (P++a6k s) R,b4i (b8b s0 s.2.2.2.1) s.2.2.2.2.2.1):=by
 obtain⟨u,w,l,x,d⟩:=b8A h;have m:=a1J d;unfold a6k at g⊢;generalize s.2.2.2.2.2.1=c at *;generalize s.2.2.2.1=t at *;obtain⟨T,rfl⟩:=a00 l;simp at g⊢;have e:a0E (rdr P (pb ((c.length-1:Nat):Int) 5++(pb (T:Int) 4++(pb ((a0G c:Nat):Int) 5++(sB (a0G c) c++R)))),(5:Int))=_:=a3c (v:=c.length-1) (n:=5) (by omega) (by omega) g;have f:=g.shift;have i:a0E (rdr (P++pb ((c.length-1:Nat):Int) 5) (pb (T:Int) 4++(pb ((a0G c:Nat):Int) 5++(sB (a0G c) c++R))),(4:Int))=_:=a3c (v:=T) (n:=4) (by omega) (by omega) f;have k:=f.shift;have j:a0E (rdr (P++pb ((c.length-1:Nat):Int) 5++pb (T:Int) 4) (pb ((a0G c:Nat):Int) 5++(sB (a0G c) c++R)),(5:Int))=_:=a3c (v:=a0G c) (n:=5) (by omega) (by omega) k;have a:=b7n (n:=a0G c) (by omega) (N:=c.length) (by omega) (b8b s0 (T:Int)) c [] _ R (b4h d) (by simp) k.shift;simp only[a17,nZ,a04,a09]at a;have o:wrap .i64 ((c.length-1:Nat):Int)=((c.length-1:Nat):Int):=a0D (by omega);have w2:wrap .i64 (((c.length-1:Nat):Int)+1)=(c.length:Int):=by grind[a0D]
 have p:wrap .i64 (T:Int)=(T:Int):=a0D (by omega);have q:wrap .i64 ((a0G c:Nat):Int)=((a0G c:Nat):Int):=a0D (by omega);have b:((s0.1,s0.2.1,s0.2.2.1,(T:Int),s0.2.2.2.2):Sub)=b4i (b8b s0 (T:Int)) []:=by
  grind[b4i,b8b]
 unfold a7o;rw[e]
 simp
 rw[i];simp only[oB];rw[j];simp only[oB,o,w2,p,q]
 erw[b,a]
 simp only[oB];rw[show(b4i (b8b s0 (T:Int)) c).2.2.2.2.2.1=c from rfl,a1W (show short c by unfold short;omega)]
 simp
def a6z(st:List Stg):List Int:=st.flatMap fun g=>pb (g.1-1) 5++pb g.2.1 4
theorem b5W{g:Stg}(h:Ab.stageB g=true):1≤g.1∧g.1≤32∧0≤g.2.1∧g.2.1≤8:=by
 simp only[Ab.stageB,bA,dT]at h;exact⟨h.1,h.2.1,h.2.2.1,h.2.2.2⟩
theorem b5X:∀(st:List Stg)(L:List Int),st.all Ab.stageB=true→a2z st L=L++a6z st
 | [],L,_=>by simp[a2z,a6z]
 |g::st,L,h=>by
  simp only[a06,bA]at h;obtain⟨c,d,f,e⟩:=b5W h.1;show a2z st (a5r g L)=_;rw[b5X st _ h.2];obtain⟨a,b,u⟩:=g;simp only at c d f e;obtain⟨B,rfl⟩:=a00 f;obtain⟨A,k⟩:=a00 (show 0≤a-1 by omega);unfold a5r;simp only;rw[k,b1V (q:=A) (by omega),a1X (q:=A) (by omega),a1X (q:=B) (by omega),a2j (v:=A) (n:=5) (by omega) (by omega),a2j (v:=B) (n:=4) (by omega) (by omega)];simp[a6z,k]
def a4h(s:Sub):List Int:=
 if s.1=2 then pb s.2.2.1 3
 else if s.1=3 then a6k s
 else if s.1=4 then pb (s.2.2.2.2.1-1) 10++(sB 8 s.2.2.2.2.2.2.1++a6k s)
 else if s.1=5 then pb ((s.2.2.2.2.2.2.2.1.length:Nat):Int) 2++a6z s.2.2.2.2.2.2.2.1
 else[]
theorem b8B{n:Int}(h:a3m s.1 s n)(L:List Int):a2f s L=L++a4h s:=by
 unfold a2f a4h;rcases h with k|k|⟨k,g,f,-⟩|⟨k,g,-⟩|⟨k,g,-,b⟩|⟨k,g,f⟩;simp[k];simp[k];rw[if_pos k,if_pos k];obtain⟨A,a⟩:=a00 g;rw[a,a1X (by omega),a2j (n:=3) (by omega) (by omega)];rw[if_neg (by omega),if_pos k,if_neg (by omega),if_pos k,b7m g];rw[if_neg (by omega),if_neg (by omega),if_pos k,if_neg (by omega),if_neg (by omega),if_pos k,b7m g,a8k (by omega)];simp only[a9P,bA,dT]at b;obtain⟨A,a⟩:=a00 (show 0≤s.2.2.2.2.1-1 by omega);rw[a,b1V (by omega),a1X (by omega),a2j (n:=10) (by omega) (by omega)]
 simp
 rw[if_neg (by omega),if_neg (by omega),if_neg (by omega),if_pos k,if_neg (by omega),if_neg (by omega),if_neg (by omega),if_pos k];simp only[a7J,bA,dT]at f;rw[b5X _ _ f.2,a1X (by omega),a2j (n:=2) (by omega) (by omega)]
 simp
def b2C(s:Sub):List Int:=pb s.1 3++(pb s.2.1 5++pb ((a0G s.2.2.2.2.2.2.2.2.1:Nat):Int) 5)
theorem c3w(k:0≤s.1∧s.1≤5)(a:0≤s.2.1∧s.2.1≤30)(f:s.2.2.2.2.2.2.2.2.1.all a0A=true)(L:List Int):a9R s L=L++b2C s:=by
 obtain⟨K,g⟩:=a00 k.1;obtain⟨w,h⟩:=a00 a.1
 have:=a1J f
 unfold a9R b2C;rw[g,h,a1X (q:=K) (by omega),a1X (q:=w) (by omega),a2j (v:=a0G s.2.2.2.2.2.2.2.2.1) (n:=5) (by omega) (by omega),a2j (v:=w) (n:=5) (by omega) (by omega),a2j (v:=K) (n:=3) (by omega) (by omega)]
 simp
def a3o(s:Sub):Sub:=(s.1,s.2.1,s.2.2.1,s.2.2.2.1,s.2.2.2.2.1,s.2.2.2.2.2.1,s.2.2.2.2.2.2.1,s.2.2.2.2.2.2.2.1,[],(0,[],()),[],())
theorem b5Y{wd N:Nat}{ok:Bool}(q:N<1000)(k w:Int):∀(st done:List Stg)(P R:List Int),st.all Ab.stageB=true→done.length+st.length=N→OkR P (a6z st++R)→
  x0r a5J ((wd:Int),ok,(N:Int),(done.length:Int),rdr P (a6z st++R),(k,w,0,0,0,[],[0,0,0],done,[],(0,[],()),[],()),()) =
   some ((wd:Int),ok,(k,w,0,0,0,[],[0,0,0],done++st,[],(0,[],()),[],()),rdr (P++a6z st) R,())
 | [],done,P,R,_,hl,_=>by
  have:done.length=N:=by simpa using hl
  subst this;have d:decide ((done.length:Int)<(done.length:Int))=false:=by simp
  rw[a0H (b:=((wd:Int),ok,(k,w,0,0,0,[],[0,0,0],done,[],(0,[],()),[],()),rdr P R,())) (by simp only[a5J,d,cF];simp[a6z])];simp[a6z]
 |g::st,done,P,R,h,hl,hok=>by
  simp only[a06,bA]at h;rw[lC]at hl;obtain⟨m,o,i,p⟩:=b5W h.1;obtain⟨a,b,u⟩:=g;simp only at m o i p;obtain⟨B,rfl⟩:=a00 i;obtain⟨A,x⟩:=a00 (show 0≤a-1 by omega);obtain rfl:a=(A:Int)+1:=by omega
  have e:a6z (((A:Int)+1,(B:Int),u)::st)++R=pb (A:Int) 5++(pb (B:Int) 4++(a6z st++R)):=by simp[a6z]
  rw[e]at hok⊢;have d:decide ((done.length:Int)<(N:Int))=true:=by simp;omega
  have j:a0E (rdr P (pb (A:Int) 5++(pb (B:Int) 4++(a6z st++R))),(5:Int))=_:=a3c (v:=A) (n:=5) (by omega) (by omega) hok;have f:=hok.shift;have l:a0E (rdr (P++pb (A:Int) 5) (pb (B:Int) 4++(a6z st++R)),(4:Int))=_:=a3c (v:=B) (n:=4) (by omega) (by omega) f;have c:lim (a39 done+1)=true:=a1f (by omega);have s:wrap .i64 (A:Int)=(A:Int):=a0D (by omega);have w2:wrap .i64 (B:Int)=(B:Int):=a0D (by omega);have t:wrap .i64 ((A:Int)+1)=(A:Int)+1:=a0D (by omega);have r:wrap .u64 ((done.length:Int)+1)=(((done++[((A:Int)+1,(B:Int),u)]).length:Nat):Int):=by rw[a0S (by omega)];simp
  rw[a0I (s':=((wd:Int),ok,(N:Int),(((done++[((A:Int)+1,(B:Int),u)]).length:Nat):Int),rdr (P++pb (A:Int) 5++pb (B:Int) 4) (a6z st++R),(k,w,0,0,0,[],[0,0,0],done++[((A:Int)+1,(B:Int),u)],[],(0,[],()),[],()),())) (by
    simp only[a5J,d,cT,j,oB,l,c,s,w2,t,r,a08])]
  rw[b5Y q k w st (done++[((A:Int)+1,(B:Int),u)]) _ R h.2 (by simp;omega) f.shift];simp[a6z]
theorem b8c(h:b3J x=true):b2X 8 x:=by
 simp only[b3J,bA,dT]at h;unfold b2X;omega
theorem c3x{wd:Nat}{w:Int}{a b c:Int}(u:b3J a=true)(hb:b3J b=true)(v:b3J c=true)(f:OkR P (sB 8 [a,b,c]++R)):
  x0r a2P ((wd:Int),(0:Int),rdr P (sB 8 [a,b,c]++R),(k,w,0,0,g,[],[0,0,0],[],[],(0,[],()),[],()),()) =
   some ((wd:Int),rdr (P++sB 8 [a,b,c]) R,(k,w,0,0,g,[],[a,b,c],[],[],(0,[],()),[],()),()):=by
 have e:sB 8 [a,b,c]++R=pb (a0P a 8) 8++(pb (a0P b 8) 8++(pb (a0P c 8) 8++R)):=by simp[sB]
 rw[e]at f⊢;have r:a0X (rdr P (pb (a0P a 8) 8++(pb (a0P b 8) 8++(pb (a0P c 8) 8++R))),(8:Int))=_:=a8j (n:=8) (by omega) (b8c u) f;have h:=f.shift;have s:a0X (rdr (P++pb (a0P a 8) 8) (pb (a0P b 8) 8++(pb (a0P c 8) 8++R)),(8:Int))=_:=a8j (n:=8) (by omega) (b8c hb) h;have d:=h.shift;have t:a0X (rdr (P++pb (a0P a 8) 8++pb (a0P b 8) 8) (pb (a0P c 8) 8++R),(8:Int))=_:=a8j (n:=8) (by omega) (b8c v) d;have x:wrap .i64 ((0:Int)+1)=1:=by decide
 have y:wrap .i64 ((1:Int)+1)=2:=by decide
 have w2:wrap .i64 ((2:Int)+1)=3:=by decide
 have m:decide ((0:Int)<3)=true:=by decide
 have i:decide ((0:Int)≤0)=true:=by decide
 have o:decide ((1:Int)<3)=true:=by decide
 have j:decide ((0:Int)≤1)=true:=by decide
 have p:decide ((2:Int)<3)=true:=by decide
 have l:decide ((0:Int)≤2)=true:=by decide
 have q:decide ((3:Int)<3)=false:=by decide
 rw[a0I (s':=((wd:Int),(1:Int),rdr (P++pb (a0P a 8) 8) (pb (a0P b 8) 8++(pb (a0P c 8) 8++R)),(k,w,0,0,g,[],[a,0,0],[],[],(0,[],()),[],()),())) (by
  simp only[a2P,m,i,a03,cT,r,oB,x];rfl)]
 rw[a0I (s':=((wd:Int),(2:Int),rdr (P++pb (a0P a 8) 8++pb (a0P b 8) 8) (pb (a0P c 8) 8++R),(k,w,0,0,g,[],[a,b,0],[],[],(0,[],()),[],()),())) (by
  simp only[a2P,o,j,a03,cT,s,oB,y];rfl)]
 rw[a0I (s':=((wd:Int),(3:Int),rdr (P++pb (a0P a 8) 8++pb (a0P b 8) 8++pb (a0P c 8) 8) R,(k,w,0,0,g,[],[a,b,c],[],[],(0,[],()),[],()),())) (by
  simp only[a2P,p,l,a03,cT,t,oB,w2];rfl)]
 rw[a0H (b:=((wd:Int),rdr (P++pb (a0P a 8) 8++pb (a0P b 8) 8++pb (a0P c 8) 8) R,(k,w,0,0,g,[],[a,b,c],[],[],(0,[],()),[],()),())) (by
  simp only[a2P,q,cF])]
 simp[sB]
theorem c2I{s:Sub}{n:Int}(hs:a1l s n)(ht:s.2.2.2.2.2.2.1.length=3){P R:List Int}(i:OkR P (b2C s++(a4h s++R))):
  a7U (rdr P (b2C s++(a4h s++R)))=some (a3o s,((a0G s.2.2.2.2.2.2.2.2.1:Nat):Int),true,rdr (P++(b2C s++a4h s)) R):=by
 obtain⟨-,-,hf,ha,M,Q,-,-,S,-⟩:=hs;obtain⟨k,w,o,sh,g,c,t,st,a,b,d,u⟩:=s;have hk:=b4f hf;simp only at hk M Q S ht;have h0:=a1J S;obtain⟨K,rfl⟩:=a00 hk.1;obtain⟨W,rfl⟩:=a00 M;unfold b2C at i⊢;simp only[aA]at i⊢;have g1:a0E (rdr P (pb (K:Int) 3++(pb (W:Int) 5++(pb ((a0G a:Nat):Int) 5++(a4h ((K:Int),(W:Int),o,sh,g,c,t,st,a,b,d,u)++R)))),(3:Int))=_:=a3c (v:=K) (n:=3) (by omega) (by omega) i;have j:=i.shift;have g2:a0E (rdr (P++pb (K:Int) 3) (pb (W:Int) 5++(pb ((a0G a:Nat):Int) 5++(a4h ((K:Int),(W:Int),o,sh,g,c,t,st,a,b,d,u)++R))),(5:Int))=_:=a3c (v:=W) (n:=5) (by omega) (by omega) j;have l:=j.shift;have g3:a0E (rdr (P++pb (K:Int) 3++pb (W:Int) 5) (pb ((a0G a:Nat):Int) 5++(a4h ((K:Int),(W:Int),o,sh,g,c,t,st,a,b,d,u)++R)),(5:Int))=_:=a3c (v:=a0G a) (n:=5) (by omega) (by omega) l;have f:=l.shift;have wK:wrap .i64 (K:Int)=(K:Int):=a0D (by omega);have wW:wrap .i64 (W:Int)=(W:Int):=a0D (by omega);have wd:wrap .i64 ((a0G a:Nat):Int)=((a0G a:Nat):Int):=a0D (by omega);unfold a7U;rw[g1];simp only[oB];rw[g2];simp only[oB];rw[g3];simp only[oB,wK,wW,wd];generalize hX:P++pb (K:Int) 3++pb (W:Int) 5++pb ((a0G a:Nat):Int) 5=X at f⊢;have L:∀B:List Int,P++(pb (K:Int) 3++(pb (W:Int) 5++(pb ((a0G a:Nat):Int) 5++B)))=X++B:=fun B=>by rw[←hX];simp
 rw[L];obtain⟨a1,E,r,C,F,D⟩:=ha;simp only at a1 E r C F D;clear g1 g2 g3 i j l hX L;rcases hf with h|h|⟨h,m,I,-⟩|⟨h,m,-⟩|⟨h,m,-,U⟩|⟨h,m,I⟩
 
 simp only at h;obtain rfl:=a1 (by omega);obtain rfl:=E (by omega);obtain rfl:=r (by omega);obtain rfl:=C (by omega);obtain rfl:=F (by omega);obtain rfl:=D (by omega);rw[h];have hb:a4h ((0:Int),(W:Int),0,0,0,[],[0,0,0],[],a,b,d,u)=[]:=rfl;rw[hb,a04,a29];rfl;simp only at h;obtain rfl:=a1 (by omega);obtain rfl:=E (by omega);obtain rfl:=r (by omega);obtain rfl:=C (by omega);obtain rfl:=F (by omega);obtain rfl:=D (by omega);rw[h];have hb:a4h ((1:Int),(W:Int),0,0,0,[],[0,0,0],[],a,b,d,u)=[]:=rfl;rw[hb,a04,a29];rfl;simp only at h m I;obtain rfl:=E (by omega);obtain rfl:=r (by omega);obtain rfl:=C (by omega);obtain rfl:=F (by omega);obtain rfl:=D (by omega);rw[h]at f⊢;obtain⟨O,rfl⟩:=a00 m;have hb:a4h ((2:Int),(W:Int),(O:Int),0,0,[],[0,0,0],[],a,b,d,u)=pb (O:Int) 3:=rfl;rw[hb]at f⊢;have e:((2:Int)==2)=true:=rfl;have q:a0E (rdr X (pb (O:Int) 3++R),(3:Int))=_:=a3c (v:=O) (n:=3) (by omega) (by omega) f;have wO:wrap .i64 (O:Int)=(O:Int):=a0D (by omega);simp only[e,cT,q,oB,wO];rfl;simp only at h m;obtain rfl:=a1 (by omega);obtain rfl:=r (by omega);obtain rfl:=C (by omega);obtain rfl:=D (by omega);rw[h]at f⊢;have hb:a4h ((3:Int),(W:Int),0,sh,0,c,[0,0,0],[],a,b,d,u)=a6k ((3:Int),(W:Int),0,sh,0,c,[0,0,0],[],a,b,d,u):=rfl;rw[hb]at f⊢;have G:((3:Int)==2)=false:=rfl;have H:((3:Int)==4)=false:=rfl;have Y:((3:Int)==3)=true:=rfl;have q:=b5V (s:=((3:Int),(W:Int),0,sh,0,c,[0,0,0],[],a,b,d,u)) (s0:=((3:Int),(W:Int),0,0,0,[],a01 3 0,[],[],(0,[],()),[],())) m rfl f;simp only[G,Y,H,cT,cF,oB]
 erw[q]
 rfl
 ·simp only at h m U;obtain rfl:=a1 (by omega);obtain rfl:=D (by omega);rw[h]at f⊢;simp only[a9P,bA,dT]at U;obtain⟨U,h5,V⟩:=U;obtain⟨A,hA⟩:=a00 (show 0≤g-1 by omega);obtain rfl:g=(A:Int)+1:=by omega
  obtain⟨x,y,z,rfl⟩:∃x y z,t=[x,y,z]:=by
   match t,ht with
   | [x,y,z],_=>exact⟨x,y,z,rfl⟩
  simp only[a06,List.all_nil,Bool.and_true,bA]at V;have hb:a4h ((4:Int),(W:Int),0,sh,(A:Int)+1,c,[x,y,z],[],a,b,d,u)=pb (A:Int) 10++(sB 8 [x,y,z]++a6k ((4:Int),(W:Int),0,sh,(A:Int)+1,c,[x,y,z],[],a,b,d,u)):=by
   show pb ((A:Int)+1-1) 10++_=_;rw[hA]
  rw[hb]at f⊢;simp only[aA]at f⊢;have G:((4:Int)==2)=false:=rfl;have H:((4:Int)==4)=true:=rfl;have q:a0E (rdr X (pb (A:Int) 10++(sB 8 [x,y,z]++(a6k ((4:Int),(W:Int),0,sh,(A:Int)+1,c,[x,y,z],[],a,b,d,u)++R))),(10:Int))=_:=a3c (v:=A) (n:=10) (by omega) (by omega) f;have p:=f.shift;have wA:wrap .i64 (A:Int)=(A:Int):=a0D (by omega);have Z:wrap .i64 ((A:Int)+1)=(A:Int)+1:=a0D (by omega);have T:=c3x (wd:=a0G a) (k:=4) (w:=(W:Int)) (g:=(A:Int)+1) V.1 V.2.1 V.2.2 p;have g6:=b5V (s:=((4:Int),(W:Int),0,sh,(A:Int)+1,c,[x,y,z],[],a,b,d,u)) (s0:=((4:Int),(W:Int),0,0,(A:Int)+1,[],[x,y,z],[],[],(0,[],()),[],())) m rfl p.shift;simp only[G,H,cT,cF,q,oB,wA,Z]
  erw[T]
  simp only[oB]
  erw[g6]
  simp only[oB,a3o,b4i,b8b,aA]
 simp only at h m I;obtain rfl:=a1 (by omega);obtain rfl:=E (by omega);obtain rfl:=r (by omega);obtain rfl:=C (by omega);obtain rfl:=F (by omega);rw[h]at f⊢;simp only[a7J,bA,dT]at I;have hb:a4h ((5:Int),(W:Int),0,0,0,[],[0,0,0],st,a,b,d,u)=pb ((st.length:Nat):Int) 2++a6z st:=rfl;rw[hb]at f⊢;simp only[aA]at f⊢;have G:((5:Int)==2)=false:=rfl;have H:((5:Int)==4)=false:=rfl;have Y:((5:Int)==3)=false:=rfl;have e5:((5:Int)==5)=true:=rfl;have q:a0E (rdr X (pb ((st.length:Nat):Int) 2++(a6z st++R)),(2:Int))=_:=a3c (v:=st.length) (n:=2) (by omega) (by omega) f;have T:=b5Y (wd:=a0G a) (ok:=true) (N:=st.length) (by omega) (5:Int) (W:Int) st [] _ R I.2 (by simp) f.shift;simp only[a17,nZ,a04,a09]at T;simp only[G,Y,H,e5,cT,cF,oB]
 erw[q]
 simp only[oB]
 erw[T]
 simp only[oB,a3o,aA]
def a5N(s:Sub)(zn:List Nat):List Int:=
 (b2C s++a4h s)++(sB (a0G s.2.2.2.2.2.2.2.2.1) s.2.2.2.2.2.2.2.2.1++if s.1=0∨s.1=1 then[]else a5x s.2.2.2.2.2.2.2.2.2.1 zn s.2.2.2.2.2.2.2.2.2.2.1)
theorem b5Z{n:Int}(b:a1l s n)(d:s.1≠0∧s.1≠1→PartsOk s.2.2.2.2.2.2.2.2.2.1 n ((s.2.2.2.2.2.2.2.2.1.length:Nat):Int) s.2.2.2.2.2.2.2.2.2.2.1 zn)(L:List Int):
  a4q s zn L=L++a5N s zn:=by
 obtain⟨-,-,h,-,k,a,-,-,f,-⟩:=b;have c:=a1J f;have g:=c3w (b4f h) ⟨k,a⟩ f L;unfold a4q a5N
 by_cases hk:s.1=0∨s.1=1
 rw[if_pos hk,if_pos hk,a8k (by omega),b8B h,g]
 simp
 rw[if_neg hk,if_neg hk,b8Z (d (not_or.1 hk)),a8k (by omega),b8B h,g]
 simp
def a6A(s:Sub)(l:List Int):Sub:=(s.1,s.2.1,s.2.2.1,s.2.2.2.1,s.2.2.2.2.1,s.2.2.2.2.2.1,s.2.2.2.2.2.2.1,s.2.2.2.2.2.2.2.1,l,s.2.2.2.2.2.2.2.2.2)
theorem b8C{wd:Nat}(f:wd≤62){N:Nat}(a:N<1000000)(n:Int)(ok:Bool)(z s:Sub):∀(l done P R:List Int),(∀x∈l,b2X wd x)→done.length+l.length=N→OkR P (sB wd l++R)→
  x0r a8H (n,(wd:Int),ok,(N:Int),(done.length:Int),rdr P (sB wd l++R),z,a6A s done,())=some (n,(wd:Int),ok,rdr (P++sB wd l) R,z,a6A s (done++l),())
 | [],done,P,R,_,hl,_=>by
  have:done.length=N:=by simpa using hl
  subst this;have d:decide ((done.length:Int)<(done.length:Int))=false:=by simp
  rw[a0H (b:=(n,(wd:Int),ok,rdr P R,z,a6A s done,())) (by simp only[a8H,d,cF];simp[sB])];simp[sB]
 |x::l,done,P,R,h,hl,hok=>by
  rw[lC]at hl;rw[b8a]at hok⊢;have d:decide ((done.length:Int)<(N:Int))=true:=by simp;omega
  have k:=a8j f (h x (by simp)) hok;have g:lim (a39 done+1)=true:=a1f (by omega);have c:wrap .i64 ((done.length:Int)+1)=(((done++[x]).length:Nat):Int):=by rw[a0D (by omega)];simp
  rw[a0I (s':=(n,(wd:Int),ok,(N:Int),(((done++[x]).length:Nat):Int),rdr (P++pb (a0P x wd) wd) (sB wd l++R),z,a6A s (done++[x]),())) (by
   simp only[a8H,d,cT,k,oB,a6A,g,c,a08])]
  rw[b8C f a n ok z s l (done++[x]) _ R (fun y e=>h y (by simp[e])) (by simp;omega) hok.shift];simp[sB]
theorem c2J(h:SmallS s):SmallS (a3o s) where
 coefs:=h.coefs
 taps:=h.taps
 stages:=h.stages
 warm:=by show([]:List Int).length≤5000;simp
 rest:=by show([]:List Int).length≤5000;simp
 ks:=by show([]:List Int).length≤_;simp
theorem c5K(h:SmallS s){n:Int}(K:(a1U s n).isSome=true)(T:s.1≠0∧s.1≠1→PartsOk s.2.2.2.2.2.2.2.2.2.1 n ((s.2.2.2.2.2.2.2.2.1.length:Nat):Int) s.2.2.2.2.2.2.2.2.2.2.1 zn)(d:OkR P (a5N s zn++R)):b0C (rdr P (a5N s zn++R),n)=some (s,(0:Int),rdr (P++a5N s zn) R):=by
 have L:=b2W K;have j:=@c2I s n L h.taps P;have y:=L;obtain⟨U,V,Q,-,-,-,-,C,r,-,x,-⟩:=y;have S:=a1J r;have D:=h.warm;have M:decide (n<1)=false:=by simp;omega
 have O:decide (n > 4096)=false:=by simp;omega
 have m:∀A B:List Int,(rdr A B).2.2.1=0:=fun _ _=>rfl;have p:a6L ((a3o s).1,a3o s,n)=some true:=by
  rw[b3o (c2J h)];unfold b1T
  have:a3m (a3o s).1 (a3o s) n:=Q
  simp only[this,decide_true]
 have l:a3R (a3o s,n)=some ((s.2.2.2.2.2.2.2.2.1.length:Nat):Int):=by
  rw[b0F]
  have:a1V (a3o s) n=a1V s n:=rfl
  rw[this,←C]
 have a:=b6R h n;rw[K]at a;have f:a1k s.2.2.2.2.2.2.2.2.1=some ((a0G s.2.2.2.2.2.2.2.2.1:Nat):Int):=a1W (by unfold short;omega);unfold b0C a0K;unfold a5N at d⊢;simp only[aA]at d⊢;have e:OkR (P++(b2C s++a4h s)) (sB (a0G s.2.2.2.2.2.2.2.2.1) s.2.2.2.2.2.2.2.2.1++((if s.1=0∨s.1=1 then[]else a5x s.2.2.2.2.2.2.2.2.2.1 zn s.2.2.2.2.2.2.2.2.2.2.1)++R)):=OkR.shift (by rw[aA];exact d)
 have I:=fun(ok:Bool) (z:Sub)=>b8C (wd:=a0G s.2.2.2.2.2.2.2.2.1) (by omega) (N:=s.2.2.2.2.2.2.2.2.1.length) (by omega) n ok z (a3o s) s.2.2.2.2.2.2.2.2.1 [] _ _ (b4h r) (by simp) e;simp only[a17,nZ,a04,a09]at I;simp only[M,O,cF,m,bne_self_eq_false,oB];rw[j d];simp only[m,bne_self_eq_false,cF,oB,p,bT,l];rw[show((a3o s:Sub))=a6A (a3o s) []from rfl]
 erw[I]
 simp only[oB,m,bne_self_eq_false,cF];rw[show(a6A (a3o s) s.2.2.2.2.2.2.2.2.1).1=s.1 from rfl,a5u];simp only[oB]
 by_cases hk:s.1=0∨s.1=1
 have v:decide (s.1≠0∧s.1≠1)=false:=by simp only[decide_eq_false_iff_not];omega
 have b:a6A (a3o s) s.2.2.2.2.2.2.2.2.1=s:=by
  obtain⟨F,G,H⟩:=x hk;obtain⟨k,w,o,sh,g,c,t,st,wm,⟨X,Y,Z⟩,re,u⟩:=s;simp only at F G H;subst F G H;rfl
 rw[b];simp only[v,cF,bT,f,oB,bne_self_eq_false,a,if_pos hk,a04,a29]
 simp
 have v:decide (s.1≠0∧s.1≠1)=true:=by simp only[dT];omega
 have hp:=T (not_or.1 hk);have i:=e.shift;rw[if_neg hk]at i;have q:=c0G hp i;simp only[v,cT,if_neg hk];rw[show(a6A (a3o s) s.2.2.2.2.2.2.2.2.1).2.2.2.2.2.2.2.2.1=s.2.2.2.2.2.2.2.2.1 from rfl]
 erw[q]
 have E:((0:Int) != 0)=false:=rfl;simp only[oB,E,cF,bT,f,bne_self_eq_false];have b:((a6A (a3o s) s.2.2.2.2.2.2.2.2.1).1,(a6A (a3o s) s.2.2.2.2.2.2.2.2.1).2.1,(a6A (a3o s) s.2.2.2.2.2.2.2.2.1).2.2.1,(a6A (a3o s) s.2.2.2.2.2.2.2.2.1).2.2.2.1,(a6A (a3o s) s.2.2.2.2.2.2.2.2.1).2.2.2.2.1,(a6A (a3o s) s.2.2.2.2.2.2.2.2.1).2.2.2.2.2.1,(a6A (a3o s) s.2.2.2.2.2.2.2.2.1).2.2.2.2.2.2.1,(a6A (a3o s) s.2.2.2.2.2.2.2.2.1).2.2.2.2.2.2.2.1,s.2.2.2.2.2.2.2.2.1,s.2.2.2.2.2.2.2.2.2.1,s.2.2.2.2.2.2.2.2.2.2.1,(a6A (a3o s) s.2.2.2.2.2.2.2.2.1).2.2.2.2.2.2.2.2.2.2.2)=s:=rfl
 erw[b]
 simp only[a,oB,bT,cF]
 simp
theorem c8d(y:Int):bits .u64 .and y 1=y%2:=by
 have h:((a02 64 y) &&& (a02 64 1)).toNat=(y%18446744073709551616).toNat%2:=by
  rw[a83,a27];have e:(a02 64 1).toNat=2^1-1:=by decide
  rw[e,a63];rfl
 show wrap .u64 ((((a02 64 y) &&& (a02 64 1)).toNat:Nat):Int)=_;rw[h,a0S (by omega)];omega
theorem a1M(v:Int):∀n,a1o (pb v n)
 |0=>fun b hb=>by cases hb
 |n+1=>fun b hb=>by
  rcases mC.1 hb with rfl|hb;unfold a5K;rw[c8d,a8M];omega;exact a1M v n b hb
theorem c1y(n:Nat):a1o (unB n):=fun b hb=>by
 rcases mA.1 hb with hb|hb;exact .inl (a96.1 hb).2;exact .inr (by simpa using hb)
theorem b2D{f:α→List Int}{l:List α}(h:∀x,a1o (f x)):a1o (l.flatMap f):=fun b hb=>by
 obtain⟨x,-,g⟩:=b07.1 hb;exact h x b g
theorem c3y(k:Nat)(x:Int):a1o (a8a k x):=by
 unfold a8a;split;exact(c1y _).app (a1M _ _);exact(c1y _).app (a1M _ _)
theorem b5n(n:Nat)(l:List Int):a1o (sB n l):=b2D fun _=>a1M _ _
theorem c3z(k:Int)(l:List Int):a1o (a8T k l):=by
 unfold a8T;split;exact(a1M _ _).app ((a1M _ _).app (b5n _ _));exact(a1M _ _).app (b2D fun _=>c3y _ _)
theorem b4j:a1o []:=fun b hb=>by cases hb
theorem b7o:∀(zs:List Nat)(ks l:List Int),a1o (a1F zs ks l)
 |z::zs,k::ks,l=>by
  simp only[a1F];exact(c3z _ _).app (b7o zs ks _)
 | [],_,_=>by simp only[a1F];exact b4j
 |_::_,[],_=>by simp only[a1F];exact b4j
theorem b7p(s:Sub):a1o (a6k s):=(a1M _ _).app ((a1M _ _).app ((a1M _ _).app (b5n _ _)))
theorem c3A(s:Sub):a1o (a4h s):=by
 unfold a4h;split;exact a1M _ _;split;exact b7p s;split;exact(a1M _ _).app ((b5n _ _).app (b7p s));split;exact(a1M _ _).app (b2D fun _=>(a1M _ _).app (a1M _ _));exact b4j
theorem c4r(s:Sub)(h:List Nat):a1o (a5N s h):=by
 refine(((a1M _ _).app ((a1M _ _).app (a1M _ _))).app (c3A s)).app ((b5n _ _).app ?_);split;exact b4j;exact(a1M _ _).app (b7o _ _ _)
theorem c0H(h:SmallS s){n:Int}(k:(a1U s n).isSome=true)(j:L.length<50000000):
  ∃g,a8h (wL L,s,n)=some (0,wL (L++a5N s g))∧a2U (s,n)=some (((a5N s g).length:Nat):Int)∧(a5N s g).length≤700000∧
   (s.1≠0∧s.1≠1→PartsOk s.2.2.2.2.2.2.2.2.2.1 n ((s.2.2.2.2.2.2.2.2.1.length:Nat):Int) s.2.2.2.2.2.2.2.2.2.2.1 g):=by
 obtain⟨e,i,a,-,b,d,-⟩:=b3P h (n:=n) (L:=L) (by omega);obtain⟨rfl,g,rfl,f⟩:=d k;have c:=b2W k;rw[b5Z c f]at a b;refine⟨g,a,?_,by simp at b;omega,f⟩;rw[b7V h];unfold a3y;rw[if_pos k,←b7U f,b5Z c f]
 simp
theorem c6y(g:L.length<1000000000):b1f (wL L).1=some (rdr [] L):=by
 obtain⟨-,h⟩:=a4N L;unfold b1f;rw[a1f (by omega)];rfl
theorem c4s(g:L.length<1000000000):a4e (wL L)=some ((wL L).1,wL L):=by
 obtain⟨-,h⟩:=a4N L;unfold a4e;rw[a1f (by omega)];rfl
def a0O(n:Nat):List Int:=if h:n<128 then[(n:Int)]else((n%128+128:Nat):Int)::a0O (n / 128)
termination_by n
decreasing_by omega
theorem b3B(h:n<128):a0O n=[(n:Int)]:=by rw[a0O,dif_pos h]
theorem b3C(h:¬ n<128):a0O n=((n%128+128:Nat):Int)::a0O (n / 128):=by rw[a0O,dif_neg h]
theorem a9q:∀(k n:Nat),n<128^(k+1)→1≤(a0O n).length∧(a0O n).length≤k+1
 |0,n,h=>by rw[b3B (by omega)];simp
 |k+1,n,h=>by
  by_cases hn:n<128
  rw[b3B hn];simp;rw[b3C hn]
  have:=a9q k (n / 128) (by rw[a62 (by omega)];rw[a53]at h;exact h)
  simp only[lC];omega
theorem c1z:∀(k n:Nat)(a:List Int)(b c:Int)(out:List Int),n<128^(k+1)→k≤8→out.length+k<1000000→
  ∃r g,x0r a7k ((n:Int),a,b,c,out,())=some (((r:Nat):Int),a,b,c,out++g,())∧a0O n=g++[(r:Int)]∧r<128
 |k,n,a,b,c,out,h,hk,ho=>by
  by_cases hn:n<128
  refine⟨n,[],?_,by rw[b3B hn];rfl,hn⟩;rw[a0H (b:=((n:Int),a,b,c,out,())) (by
   have d:decide ((n:Int)≥128)=false:=by simp;omega
   simp only[a7k,d,cF])]
  simp
  ·cases k with
   |zero=>omega
   |succ k=>
    have p:n / 128<128^(k+1):=by rw[a62 (by omega)];rw[a53]at h;exact h
    have f:n<18446744073709551616:=by
     have:128^(k+1+1)≤128^9:=a16 (by omega) (by omega)
     have e:(128:Nat)^9=9223372036854775808:=by decide
     omega
    obtain⟨r,g,l,m,o⟩:=c1z k (n / 128) a b c (out++[((n%128+128:Nat):Int)]) p (by omega) (by simp;omega);refine⟨r,((n%128+128:Nat):Int)::g,?_,by rw[b3C hn,m];rfl,o⟩;have d:decide ((n:Int)≥128)=true:=by simp;omega
    have i:wrap .u64 (a48 (n:Int) 128)=((n / 128:Nat):Int):=by
     rw[show a48 (n:Int) 128=((n / 128:Nat):Int)from rfl];exact a0S (by omega)
    have j:wrap .u8 (wrap .u8 (a30 (n:Int) 128)+128)=((n%128+128:Nat):Int):=by
     rw[show a30 (n:Int) 128=((n%128:Nat):Int)from rfl,a8M,a8M];omega
    rw[a0I (s':=(((n / 128:Nat):Int),a,b,c,out++[((n%128+128:Nat):Int)],())) (by
     simp only[a7k,d,cT,a1f (show out.length+1<2147483648 by omega),i,j,a08])]
    rw[l]
    simp
theorem b2b{α β γ:Type}(f:α→List γ):∀(l:List α)(a:List γ),a2u (β:=β) (fun a x=>.inl (a++f x)) l a=.inl (a++l.flatMap f)
 | [],a=>by simp[a2u]
 |x::l,a=>by simp only[a2u];rw[b2b f l];simp
def asI(ns:List Nat):List Int:=ns.map fun n:Nat=>(n:Int)
theorem c0I{ns:List Nat}(h:∀n∈ns,n<9223372036854775808)(u:ns.length≤1000):a9H (asI ns)=some (ns.flatMap a0O):=by
 have m:(asI ns).length=ns.length:=by simp[asI]
 have:=a1I (f:=a7l) (asI ns) (fun i (a:List Int)=>(asI ns,((asI ns).length:Int),(i:Int),a,())) (fun a x=>.inl (a++a0O x.toNat)) (fun i a=>a.length≤10*i) (fun a=>(a,()))
  (fun i l a q=>⟨fun s g=>by
   have c:i<ns.length:=by omega
   have o:(asI ns)[i]=((ns[i]:Nat):Int):=by simp[asI]
   have hb:=h ns[i] (a07 c);have k:ns[i]<128^(8+1):=by rw[show(128:Nat)^(8+1)=9223372036854775808 from by decide];exact hb
   obtain⟨r,d,p,j,t⟩:=c1z 8 ns[i] (asI ns) ((asI ns).length:Int) (i:Int) a k (a24 _) (by omega);have hv:=a9q 8 ns[i] k;rw[j]at hv;simp only[lN,lC,a17]at hv;simp only[o,tN,j,Sum.inl.injEq]at g;subst g;have e:wrap .u8 (r:Int)=(r:Int):=by rw[a8M];omega
   refine⟨?_,by simp;omega⟩;simp only[a7l,dlt l,cT,a0B l,o,oB,p,a1f (show(a++d).length+1<2147483648 by simp;omega),a0C (show i<1000000 by omega),e,a08,aA],fun b hb=>by cases hb⟩)
  (fun a q=>by simp only[a7l,dge,cF]) (a:=[]) (by simp)
 unfold a9H;simp only[nZ]at this;rw[this,b2b];simp[a7x,asI,List.flatMap_map]
theorem orA{b k:Nat}(f:a<2^k)(c:b*2^k+a<18446744073709551616):bits .u64 .or (a:Int) ((b*2^k:Nat):Int)=((a+b*2^k:Nat):Int):=by
 show wrap .u64 (((a02 64 (a:Int) ||| a02 64 ((b*2^k:Nat):Int)).toNat:Nat):Int)=_;have g:(a02 64 (a:Int)).toNat=a:=by rw[a27];omega
 have h:(a02 64 ((b*2^k:Nat):Int)).toNat=b*2^k:=by rw[a27];omega
 rw[a47,g,h];have e:a ||| b*2^k=a+b*2^k:=by
  have:=a42 (i:=k) (b:=a) f b
  rw[Nat.or_comm,a69 b,←this,Nat.add_comm]
 rw[e];exact a0S (by omega)
theorem b6a{rest:List Int}:∀(j m i acc:Nat)(P:List Int),m<128^(j+1)→P.length=i→(i=0∨1≤m)→acc<2^(7*i)→m*2^(7*i)+acc<9223372036854775808→(P++(a0O m++rest)).length<1000000→
  x0r a4X ((acc:Int),P++(a0O m++rest),((P++(a0O m++rest)).length:Nat),(i:Int),())=some (.inr (((acc+m*2^(7*i):Nat):Int),((i+(a0O m).length:Nat):Int),(0:Int),()))
 |j,m,i,acc,P,hj,hP,hm,ha,hs,hl=>by
  have v:i≤8:=by
   rcases hm with r|h1;omega;apply Classical.byContradiction;intro B;have z:2^(7*9)≤2^(7*i):=a16 (by omega) (by omega);have A:2^(7*i)≤m*2^(7*i):=Nat.le_mul_of_pos_left _ (by omega);have e:(2:Nat)^(7*9)=9223372036854775808:=by decide
   omega
  have a:wrap .i64 ((7:Int)*(i:Int))=((7*i:Nat):Int):=by rw[a0D (by omega)];omega
  have l:decide ((((7*i:Nat):Int))<0)=false:=by simp;omega
  have b:wrap .i64 ((i:Int)+1)=((i+1:Nat):Int):=a0C (by omega);have y:∀c:Nat,c<256→(i=9→False):=fun _ _ h=>by omega
  have s:((i:Int)==9)=false:=by simp;omega
  have g:∀(c:Nat)(q:List Int),c<256→a0O m=(c:Int)::q→(i=0∨c≠0)→
    a4X ((acc:Int),P++(a0O m++rest),((P++(a0O m++rest)).length:Nat),(i:Int),()) =
     bif decide ((c:Int)<128)then some (.inr (Sum.inr (bits .u64 .or (acc:Int) (z0g .u64 (wrap .u64 (a30 (c:Int) 128)) ((7*i:Nat):Int)),((i+1:Nat):Int),(0:Int),())))
     else some (.inl (bits .u64 .or (acc:Int) (z0g .u64 (wrap .u64 (a30 (c:Int) 128)) ((7*i:Nat):Int)),P++(a0O m++rest),((P++(a0O m++rest)).length:Nat),((i+1:Nat):Int),())):=fun c q t hv r=>by
   have f:i<(P++(a0O m++rest)).length:=by rw[hv];simp;omega
   have u:l0z (P++(a0O m++rest)) (i:Int)=some (c:Int):=by
    rw[a0B f];congr 1;subst hP;simp[hv]
   have w:(decide ((i:Int) > 0)=true→((c:Int)==0)=false):=fun h=>by
    simp only[dT]at h;simp only[beq_eq_false_iff_ne,ne_eq];omega
   simp only[a4X,dlt f,cT,u,oB,s,cF];cases o:decide ((i:Int) > 0)with
   |true=>simp only[cT,oB,w o,cF,a,l,b]
   |false=>simp only[oB,cF,a,l,b]
  have n:∀c:Nat,c%128*2^(7*i)+acc<9223372036854775808→bits .u64 .or (acc:Int) (z0g .u64 (wrap .u64 (a30 (c:Int) 128)) ((7*i:Nat):Int))=((acc+c%128*2^(7*i):Nat):Int):=fun c t=>by
   rw[show a30 (c:Int) 128=((c%128:Nat):Int)from rfl,a0S (by omega),b0G (by omega) (by omega)];exact orA ha (by omega)
  by_cases hm128:m<128
  rw[a0H (g m [] (by omega) (b3B hm128) (by omega) |>.trans (by
   have d:decide ((m:Int)<128)=true:=by simp;omega
   simp only[d,cT];rfl))]
  rw[n m (by rw[a38 hm128];exact hs),a38 hm128,b3B hm128];rfl
  ·cases j with
   |zero=>omega
   |succ j=>
    have o:m / 128<128^(j+1):=by rw[a62 (by omega)];rw[a53]at hj;exact hj
    have k:2^(7*(i+1))=128*2^(7*i):=by rw[show 7*(i+1)=7+7*i from by omega,Nat.pow_add]
    have p:m*2^(7*i)=m%128*2^(7*i)+m / 128*2^(7*(i+1)):=by
     rw[k,←a94,←Nat.add_mul];congr 1;omega
    have hb:m%128*2^(7*i)≤127*2^(7*i):=a35 _ (by omega);rw[a0I (g (m%128+128) (a0O (m / 128)) (by omega) (b3C hm128) (by omega) |>.trans (by
     have d:decide (((m%128+128:Nat):Int)<128)=false:=by simp;omega
     simp only[d,cF];rfl))]
    rw[n (m%128+128) (by rw[b02,Nat.mod_mod];omega),b02,Nat.mod_mod];have e:P++(a0O m++rest)=(P++[((m%128+128:Nat):Int)])++(a0O (m / 128)++rest):=by rw[b3C hm128];simp
    rw[e]at hl⊢;have x:=b6a j (m / 128) (i+1) (acc+m%128*2^(7*i)) (P++[((m%128+128:Nat):Int)]) o (by simp[hP]) (.inr (by omega)) (by rw[k];omega) (by omega) hl;rw[x,p,b3C hm128];congr 3;omega
    simp;omega
theorem c3B(h:n<9223372036854775808){rest:List Int}(g:(a0O n++rest).length<1000000):a7n (a0O n++rest)=some ((n:Int),(((a0O n).length:Nat):Int),(0:Int)):=by
 have:=b6a (rest:=rest) 8 n 0 0 [] (by rw[show(128:Nat)^(8+1)=9223372036854775808 from by decide];exact h) rfl (.inl rfl) (by simp) (by simpa using h) g
 simp only[a04,nZ,Nat.mul_zero,Nat.pow_zero,b05,Nat.zero_add,a09]at this;unfold a7n;rw[this];rfl
def ord(P R:List Int):List Int×(Int×Int×Unit):=(P++R,(P.length:Int),(0:Int),())
theorem a7L(d:n<9223372036854775808){most:Int}(i:(n:Int)≤most)(f:(P++(a0O n++R)).length<1000000):
  a0V (ord P (a0O n++R),most)=some ((n:Int),ord (P++a0O n) R):=by
 have c:b03 (a21 (P.length:Int)) (a90 (P++(a0O n++R)).length (P++(a0O n++R)))=a0O n++R:=by
  rw[a37,tN,List.drop_left]
 have g:((0:Int) != 0)=false:=rfl;have k:decide ((0:Int)≤(P.length:Int))=true:=by simp
 have a:decide ((P.length:Int)≤((P++(a0O n++R)).length:Int))=true:=by simp;omega
 have b:decide ((n:Int) > most)=false:=by simp;omega
 have h:(a0O n++R).length<1000000:=by rw[lN]at f;omega
 have e:wrap .i64 ((P.length:Int)+((a0O n).length:Int))=(((P++a0O n).length:Nat):Int):=by
  rw[a0D (by simp only[lN]at f;omega)];simp
 unfold a0V ord;simp only[g,cF,k,a,a03,cT];rw[c,c3B d h];simp only[oB,beq_self_eq_true,cT,b,cF,g,e,aA]
def a7A(g:Int):Nat:=if 0≤g then(2*g).toNat else(-2*g-1).toNat
theorem c6z(h:-100000≤g∧g≤100000):a9I g=some ((a7A g:Nat):Int):=by
 unfold a9I a7A
 by_cases hg:0≤g
 have d:decide (g≥0)=true:=by simpa using hg
 rw[d,cT,if_pos hg,a0S (n:=g) (by omega),a0S (by omega),a70 (by omega)];have d:decide (g≥0)=false:=by simp;omega
 rw[d,cF,if_neg hg,a0D (n:=g+1) (by omega),a0D (by omega),a0S (n:=0-(g+1)) (by omega),a0S (n:=2*(0-(g+1))) (by omega),a0S (by omega),a70 (by omega)];congr 1;omega
theorem c1A(h:-(m:Int)≤g∧g≤(m:Int)):a7A g≤2*m:=by
 unfold a7A
 split<;>omega
theorem c6A(h:-100000≤g∧g≤100000):a9L ((a7A g:Nat):Int)=some g:=by
 unfold a9L;have f:a30 ((a7A g:Nat):Int) 2=((a7A g%2:Nat):Int):=rfl;have k:a48 ((a7A g:Nat):Int) 2=((a7A g / 2:Nat):Int):=rfl;rw[f,k];unfold a7A
 by_cases hg:0≤g
 rw[if_pos hg];have d:((((2*g).toNat%2:Nat):Int)==0)=true:=by simp;omega
 rw[d,cT,a0S (by omega),a0D (by omega)];congr 1;omega;rw[if_neg hg];have d:((((-2*g-1).toNat%2:Nat):Int)==0)=false:=by simp;omega
 rw[d,cF,a0S (by omega),a0D (n:=(((-2*g-1).toNat / 2:Nat):Int)) (by omega),a0D (n:=0-(((-2*g-1).toNat / 2:Nat):Int)) (by omega),a0D (by omega)];congr 1;omega
def e8(s:Int):Int:=bif (z0h .u8 s 7)==(1:Int)then bits .u8 .xor (z0g .u8 s 1) 7 else z0g .u8 s 1
def e16(s:Int):Int:=bif (z0h .u16 s 15)==(1:Int)then bits .u16 .xor (z0g .u16 s 1) 32773 else z0g .u16 s 1
def rep{α:Type}(f:α→α):Nat→α→α
 |0,s=>s
 |n+1,s=>rep f n (f s)
def g8(s c:Int):Int:=rep e8 8 (bits .u8 .xor s c)
def g16(s c:Int):Int:=rep e16 8 (bits .u16 .xor s (z0g .u16 (wrap .u16 c) 8))
theorem b7q(l:List Int)(n i:Int):∀(j k:Nat)(s:Int),k+j=8→x0r a8F (s,l,n,i,(k:Int),())=some (rep e8 j s,l,n,i,())
 |0,k,s,h=>by
  obtain rfl:k=8:=by omega
  exact a0H rfl
 |j+1,k,s,h=>by
  have d:decide ((k:Int)<8)=true:=by simp;omega
  rw[a0I (s':=(e8 s,l,n,i,((k+1:Nat):Int),())) (by
   simp only[a8F,d,cT,a0C (show k<1000000 by omega),e8];cases (z0h .u8 s 7==1:Bool)<;>rfl)]
  exact b7q l n i j (k+1) (e8 s) (by omega)
theorem b5f(l:List Int)(n i:Int):∀(j k:Nat)(s:Int),k+j=8→x0r a7v (s,l,n,i,(k:Int),())=some (rep e16 j s,l,n,i,())
 |0,k,s,h=>by
  obtain rfl:k=8:=by omega
  exact a0H rfl
 |j+1,k,s,h=>by
  have d:decide ((k:Int)<8)=true:=by simp;omega
  rw[a0I (s':=(e16 s,l,n,i,((k+1:Nat):Int),())) (by
   simp only[a7v,d,cT,a0C (show k<1000000 by omega),e16];cases (z0h .u16 s 15==1:Bool)<;>rfl)]
  exact b5f l n i j (k+1) (e16 s) (by omega)
def b4k(l:List Int):Int:=l.foldl g8 0
def a2v(l:List Int):Int:=l.foldl g16 0
theorem c0J(h:short l):a6N l=some (b4k l):=by
 have:=a1I (f:=a6G) (β:=Int×Unit) l (fun i (a:Int)=>(a,l,(l.length:Int),(i:Int),())) (fun a x=>.inl (g8 a x)) (fun _ _=>True) (fun a=>(a,()))
  (fun i k a _=>⟨fun c g=>by
   simp only[Sum.inl.injEq]at g;subst g
   have:=b7q l (l.length:Int) (i:Int) 8 0 (bits .u8 .xor a l[i]) rfl
   simp only[nZ]at this;refine⟨?_,trivial⟩;simp only[a6G,dlt k,cT,a0B k,oB,this,a0C (a43 k h),g8],fun b hb=>by cases hb⟩)
  (fun a d=>by simp only[a6G,dge,cF]) (a:=0) trivial
 unfold a6N;simp only[nZ]at this;rw[this,b4d];rfl
theorem b7r(h:short l):a5j l=some (a2v l):=by
 have:=a1I (f:=a4W) (β:=Int×Unit) l (fun i (a:Int)=>(a,l,(l.length:Int),(i:Int),())) (fun a x=>.inl (g16 a x)) (fun _ _=>True) (fun a=>(a,()))
  (fun i k a _=>⟨fun c g=>by
   simp only[Sum.inl.injEq]at g;subst g
   have:=b5f l (l.length:Int) (i:Int) 8 0 (bits .u16 .xor a (z0g .u16 (wrap .u16 l[i]) 8)) rfl
   simp only[nZ]at this;refine⟨?_,trivial⟩;simp only[a4W,dlt k,cT,a0B k,oB,this,a0C (a43 k h),g16],fun b hb=>by cases hb⟩)
  (fun a d=>by simp only[a4W,dge,cF]) (a:=0) trivial
 unfold a5j;simp only[nZ]at this;rw[this,b4d];rfl
theorem b1t(n:Int):wrap .u16 n=n%65536:=by simp[wrap,IntKind.bits,IntKind.signed]
theorem c3C(s:Int):0≤e16 s∧e16 s<65536:=by
 unfold e16;cases (z0h .u16 s 15==1:Bool);simp only[cF,z0g,b1t];omega;simp only[cT,bits,b1t];omega
theorem b6b(l:List Int):0≤a2v l∧a2v l<65536:=by
 unfold a2v;rcases a89 l with rfl|⟨L,b,rfl⟩
 simp
 rw[List.concat_eq_append,List.foldl_append];exact c3C _
theorem d1F{v:Int}(h:0≤v∧v<65536):a9J (v,2)=some [v / 256,v%256]:=by
 have g:wrap .u64 (a48 v 256)=v / 256:=by rw[a76 h.1];exact a0S (by omega)
 have f:wrap .u8 (a30 v 256)=v%256:=by rw[a46 h.1,a8M];omega
 have k:wrap .u8 (a30 (v / 256) 256)=v / 256:=by rw[a46 (by omega),a8M];omega
 have s0:a3W (v,(2:Int),(0:Int),([]:List Int),())=some (.inl (v / 256,(2:Int),(1:Int),[v%256],())):=by
  simp only[a3W,show decide ((0:Int)<2)=true from rfl,cT,a1f (show([]:List Int).length+1<2147483648 by simp),g,f];rfl
 have c:a3W (v / 256,(2:Int),(1:Int),[v%256],())=some (.inl (wrap .u64 (a48 (v / 256) 256),(2:Int),(2:Int),[v%256,v / 256],())):=by
  simp only[a3W,show decide ((1:Int)<2)=true from rfl,cT,a1f (show([v%256]:List Int).length+1<2147483648 by simp),k];rfl
 have a:a7T (v,2)=some [v%256,v / 256]:=by
  unfold a7T b0U;simp only[oB];rw[show v0a (u0z (2:Int) 0) 8=2 from rfl,a0I s0,a0I c,a0H (b:=([v%256,v / 256],())) rfl];rfl
 unfold a9J a2C;simp only[a,oB];rfl
@[reducible] def a0U:Type:=Int×(Int×(Int×Unit))
@[reducible] def a1p:Type:=Int×(Int×(a0U×(List a0U×(List Sub×Unit))))
variable {f:a1p}
@[reducible] def a1w:Type:=Int×(List (List Int)×Unit)
variable {b:a1w}
def a2g(n:Int)(s:a0U):Bool:=!(decide (s.1<0) || decide (s.1≥n) || decide (s.2.1<0) || decide (s.2.1≥n) || s.1==s.2.1)&&!(decide (s.2.2.1 < -1024) || decide (s.2.2.1 > 1024))
theorem a2B{n:Int}{s:a0U}:a2g n s=true↔0≤s.1∧s.1<n∧0≤s.2.1∧s.2.1<n∧s.1≠s.2.1∧-1024≤s.2.2.1∧s.2.2.1≤1024:=by
 simp only[a2g,bA,a28,a91,decide_eq_false_iff_not,beq_eq_false_iff_ne];omega
def a4j(l:List a0U)(n:Int):Prop:=1≤n∧n≤8∧l.length≤16∧l.all (a2g n)=true
instance (l:List a0U) (n:Int):Decidable (a4j l n):=by unfold a4j;infer_instance
theorem b2Y(l:List a0U)(n:Int):a6Y (l,n)=some (decide (a4j l n)):=by
 unfold a6Y a4j
 by_cases h1:n<1
 grind
 by_cases h2:n > 8
 grind
 by_cases h3:((l.length:Nat):Int) > 16
 grind
 have g:=a1x (f:=a5R) (β:=Unit ⊕ (Bool×Unit)) l (fun i=>(n,l,(l.length:Int),(i:Int),())) (a2g n) (bt:=Sum.inl ()) (bf:=Sum.inr (false,()))
  (fun i h hp=>by
   obtain⟨a1,m,o,p,q,r,s⟩:=a2B.1 hp;have k:decide (l[i].1<0)=false:=by simp_all
   have a:decide (l[i].1≥n)=false:=by simp_all
   have b:decide (l[i].2.1<0)=false:=by simp_all
   have c:decide (l[i].2.1≥n)=false:=by simp_all
   have d:(l[i].1==l[i].2.1)=false:=by simp_all
   have e:decide (l[i].2.2.1 < -1024)=false:=by simp_all
   have j:decide (l[i].2.2.1 > 1024)=false:=by simp_all
   simp only[a5R,dlt h,cT,a0B h,oB,k,a,b,c,d,e,j,cF,a0C (show i<1000000 by omega)])
  (fun i h hp=>by
   simp only[a5R,dlt h,cT,a0B h,oB]
   grind[a2g])
  (by simp[a5R])
 grind
def b6q(f:a0U):Prop:=1≤f.1∧f.1≤1048576∧1≤f.2.1∧f.2.1≤8∧4≤f.2.2.1∧f.2.2.1≤24
instance (f:a0U):Decidable (b6q f):=by unfold b6q;infer_instance
theorem b3D(f:a0U):a5Q f=some (decide (b6q f)):=by
 unfold a5Q a5P b6q
 grind
def frP(f:a1p):Prop:=b6q f.2.2.1∧1≤f.2.1∧f.2.1≤4096∧0≤f.1∧f.1≤4194304-f.2.1∧a4j f.2.2.2.1 f.2.2.1.2.1
instance (f:a1p):Decidable (frP f):=by unfold frP;infer_instance
theorem b3E(f:a1p):a6d f=some (decide (frP f)):=by
 unfold a6d frP;rw[b3D,b2Y]
 by_cases h1:b6q f.2.2.1<;>by_cases h2:1≤f.2.1<;>by_cases h3:f.2.1≤4096<;>by_cases h4:0≤f.1<;>simp[h1,h2,h3,h4]
 have h:wrap .i64 ((4194304:Int)-f.2.1)=4194304-f.2.1:=a0D (by omega);rw[h]
 grind
def a6l(s:a0U):List Nat:=[s.1.toNat,s.2.1.toNat,a7A s.2.2.1]
def a4K(s:a0U):List Int:=a0O s.1.toNat++(a0O s.2.1.toNat++a0O (a7A s.2.2.1))
def hb(f:a1p)(body:Nat):List Int:=
 [245,75]++(a0O f.1.toNat++(a0O f.2.1.toNat++(a0O f.2.2.1.1.toNat++(a0O f.2.2.1.2.1.toNat++(a0O f.2.2.1.2.2.1.toNat++(a0O f.2.2.2.1.length++(f.2.2.2.1.flatMap a4K++a0O body)))))))
def a1q(f:a1p)(body:Nat):List Int:=hb f body++[b4k (hb f body)]
theorem a8l{n:Nat}(h:n<9223372036854775808):1≤(a0O n).length∧(a0O n).length≤9:=a9q 8 n (by omega)
theorem c3D{n:Int}(g:n≤8){s:a0U}(h:a2g n s=true):(a4K s).length≤27:=by
 grind[a2B,a8l,a7A,a4K]
theorem b8D{n:Int}(g:n≤8):∀(l:List a0U),l.all (a2g n)=true→(l.flatMap a4K).length≤27*l.length
 | [],_=>by simp
 |s::l,h=>by
  simp only[a06,bA]at h
  have:=c3D g h.1
  have:=b8D g l h.2
  simp only[a57,lN,lC];omega
theorem c0K(g:frP f){body:Nat}(h:body≤1048576):2≤(hb f body).length∧(hb f body).length≤600:=by
 obtain⟨⟨q,r2,k,a,b,c⟩,l1,l2,s1,s2,m1,m2,m3,m4⟩:=g;have d:=a8l (n:=f.1.toNat) (by omega);have e:=a8l (n:=f.2.1.toNat) (by omega);have i:=a8l (n:=f.2.2.1.1.toNat) (by omega);have j:=a8l (n:=f.2.2.1.2.1.toNat) (by omega);have l:=a8l (n:=f.2.2.1.2.2.1.toNat) (by omega);have m:=a8l (n:=f.2.2.2.1.length) (by omega);have o:=a8l (n:=body) (by omega);have p:=b8D m2 _ m4;simp only[hb,lN,lC,a17];omega
theorem c1B:∀l:List a0U,(l.flatMap a6l).length=3*l.length
 | []=>rfl
 |s::l=>by simp only[a57,lN,lC,c1B l];simp only[a6l,lC,a17];omega
theorem c2K(A:frP f){body:Nat}(q:body≤1048576):a6H (f,(body:Int))=some (a1q f body):=by
 have t:=A;obtain⟨⟨O,r2,K,L,M,N⟩,l1,l2,s1,s2,m1,m2,m3,m4⟩:=t;have k:∀s∈f.2.2.2.1,a2g f.2.2.1.2.1 s=true:=fun s w=>lA.1 m4 s w;have h:=a1I (f:=a4C) (β:=Int×(List Int×Unit)) f.2.2.2.1 (fun i (a:List Int)=>((body:Int),f.2.2.2.1,((f.2.2.2.1.length:Nat):Int),(i:Int),a,())) (fun a x=>.inl (a++asI (a6l x))) (fun i a=>a.length=6+3*i) (fun a=>((body:Int),a,()))
  (fun i u a G=>⟨fun I j=>by
   simp at j;subst j;obtain⟨a1,C,D,E,F,y,z⟩:=a2B.1 (k _ (a07 u));refine⟨?_,by grind[asI,a6l]⟩;simp only[a4C,dlt u,cT,a0B u,oB,c6z (g:=f.2.2.2.1[i].2.2.1) (by omega),a1f (show a.length+3<2147483648 by omega),a0C (show i<1000000 by omega),a08]
   grind[a0S,asI,a6l],fun b hb=>by grind⟩)
  (fun a G=>by simp_all[a4C]) (a:=asI [f.1.toNat,f.2.1.toNat,f.2.2.1.1.toNat,f.2.2.1.2.1.toNat,f.2.2.1.2.2.1.toNat,f.2.2.2.1.length]) (by rfl)
 rw[b2b]at h;simp[a7x]at h;have d:([wrap .u64 f.1,wrap .u64 f.2.1,wrap .u64 f.2.2.1.1,wrap .u64 f.2.2.1.2.1,wrap .u64 f.2.2.1.2.2.1,wrap .u64 ((f.2.2.2.1.length:Nat):Int)]:List Int)=asI [f.1.toNat,f.2.1.toNat,f.2.2.1.1.toNat,f.2.2.1.2.1.toNat,f.2.2.1.2.2.1.toNat,f.2.2.2.1.length]:=by
  grind[a0S,asI]
 have o:asI [f.1.toNat,f.2.1.toNat,f.2.2.1.1.toNat,f.2.2.1.2.1.toNat,f.2.2.1.2.2.1.toNat,f.2.2.2.1.length]++f.2.2.2.1.flatMap (fun x=>asI (a6l x))++[((body:Nat):Int)]=asI ([f.1.toNat,f.2.1.toNat,f.2.2.1.1.toNat,f.2.2.1.2.1.toNat,f.2.2.1.2.2.1.toNat,f.2.2.2.1.length]++f.2.2.2.1.flatMap a6l++[body]):=by
  simp_all[asI,List.map_flatMap]
 have v:∀n∈[f.1.toNat,f.2.1.toNat,f.2.2.1.1.toNat,f.2.2.1.2.1.toNat,f.2.2.1.2.2.1.toNat,f.2.2.2.1.length]++f.2.2.2.1.flatMap a6l++[body],n<9223372036854775808:=fun n e=>by
  simp only[mA,mC,a84,or_false,b07]at e;rcases e with(e|⟨s,w,e⟩)|e;omega;obtain⟨a1,C,D,E,F,y,z⟩:=a2B.1 (k _ w)
  have:=c1A (m:=1024) ⟨y,z⟩
  simp[a6l]at e;omega;omega
 have B:=c1B f.2.2.2.1;have p:=c0I v (by grind);have c:(([f.1.toNat,f.2.1.toNat,f.2.2.1.1.toNat,f.2.2.1.2.1.toNat,f.2.2.1.2.2.1.toNat,f.2.2.2.1.length]++f.2.2.2.1.flatMap a6l++[body]).flatMap a0O)=(hb f body).drop 2:=by
  simp only[hb,List.flatMap_append,a57,b08,a29,aA,List.flatMap_assoc,a61,a04,List.drop_succ_cons,a31];congr 7;exact congrArg (fun g=>List.flatMap g f.2.2.2.1) (funext fun s=>by simp[a4K,a6l])
 have r:[245,75]++(hb f body).drop 2=hb f body:=by rfl
 have H:=c0K A q;unfold a6H;simp only[d];rw[h];simp only[oB,a08];have l:=congrArg a39 o;rw[show(asI ([f.1.toNat,f.2.1.toNat,f.2.2.1.1.toNat,f.2.2.1.2.1.toNat,f.2.2.1.2.2.1.toNat,f.2.2.2.1.length]++f.2.2.2.1.flatMap a6l++[body])).length=7+3*f.2.2.2.1.length from by grind[asI,lC]]at l;rw[lN,a41]at l;rw[a0S (n:=(body:Int)) (by omega),a1f (by omega),cT,o,p];simp only[oB,c,a08,r];rw[a1f (by grind),cT,c0J (show short (hb f body)by unfold short;omega)]
 simp
 rw[a1f (by omega),cT];rfl
def c2L(f:a1p):a1p:=(f.1,f.2.1,f.2.2.1,f.2.2.2.1,[],())
theorem a3E{A:List Int}{k:Nat}(h:(P++(A++R)).length<k):((P++A)++R).length<k:=by rw[aA];exact h
theorem b7s{x:List Int}{ch:Int}(d:ch≤8)(s l:Int)(c:a0U)(u:List Sub×Unit){N:Nat}(p:N≤16){R:List Int}:∀(rest done:List a0U)(P:List Int),rest.all (a2g ch)=true→done.length+rest.length=N→
  (P++(rest.flatMap a4K++R)).length<1000000→
  x0r a4D (x,(N:Int),(done.length:Int),(s,l,c,done,u),ord P (rest.flatMap a4K++R),())=some (x,(s,l,c,done++rest,u),ord (P++rest.flatMap a4K) R,())
 | [],done,P,_,hl,_=>by
  have e:done.length=N:=by simpa using hl
  rw[e,a0H (b:=(x,(s,l,c,done,u),ord P R,())) (by simp only[a4D,dge,cF];rfl)]
  simp
 |g::rest,done,P,h,hl,hlen=>by
  simp only[a06,bA]at h;rw[lC]at hl;obtain⟨a1,z,A,B,C,i,j⟩:=a2B.1 h.1;have D:=c1A (m:=1024) ⟨i,j⟩;have o:(g::rest).flatMap a4K++R=a0O g.1.toNat++(a0O g.2.1.toNat++(a0O (a7A g.2.2.1)++(rest.flatMap a4K++R))):=by simp[a4K]
  rw[o]at hlen⊢;have t:=a7L (n:=g.1.toNat) (most:=7) (by omega) (by omega) hlen;have f:=a3E hlen;have v:=a7L (n:=g.2.1.toNat) (most:=7) (by omega) (by omega) f;have k:=a3E f;have w:=a7L (n:=a7A g.2.2.1) (most:=2048) (by omega) (by omega) k;have a:=a3E k;have r:wrap .u64 ((done.length:Int)+1)=(((done++[g]).length:Nat):Int):=by rw[a0S (by omega)];simp
  have y:wrap .i64 ((g.1.toNat:Nat):Int)=g.1:=by rw[a0D (by omega)];omega
  have w2:wrap .i64 ((g.2.1.toNat:Nat):Int)=g.2.1:=by rw[a0D (by omega)];omega
  have q:decide ((done.length:Int)<(N:Int))=true:=by simp;omega
  rw[a0I (s':=(x,(N:Int),(((done++[g]).length:Nat):Int),(s,l,c,done++[g],u),ord (P++a0O g.1.toNat++a0O g.2.1.toNat++a0O (a7A g.2.2.1)) (rest.flatMap a4K++R),())) (by
   simp only[a4D,q,cT,t,v,w,oB,c6A (g:=g.2.2.1) (by omega),a1f (show done.length+1<2147483648 by omega),y,w2,r,a08])]
  rw[b7s d s l c u p rest (done++[g]) _ h.2 (by simp;omega) a];simp[a4K]
theorem b7t(p:frP f){body:Nat}(o:body≤1048576)(hl:(a1q f body++R).length<1000000):
  a4E (a1q f body++R)=some (c2L f,((a1q f body).length:Int),(body:Int),(0:Int)):=by
 have q:=p;obtain⟨⟨r1,r2,c1,c2,d1,d2⟩,l1,l2,s1,s2,m1,m2,m3,m4⟩:=q;have X:=c0K p o

 have d:a1q f body++R=[245,75]++(a0O f.1.toNat++(a0O f.2.1.toNat++(a0O f.2.2.1.1.toNat++(a0O f.2.2.1.2.1.toNat++(a0O f.2.2.1.2.2.1.toNat++(a0O f.2.2.2.1.length++(f.2.2.2.1.flatMap a4K++(a0O body++([b4k (hb f body)]++R))))))))):=by
  simp[a1q,hb]
 generalize hx:a1q f body++R=x at *;have Y:2≤x.length:=by rw[d];simp
 have S:l0z x 0=some 245:=by rw[d];rfl
 have U:l0z x 1=some 75:=by rw[d];rfl
 have k:b03 2 (a90 x.length x)=a0O f.1.toNat++(a0O f.2.1.toNat++(a0O f.2.2.1.1.toNat++(a0O f.2.2.1.2.1.toNat++(a0O f.2.2.1.2.2.1.toNat++(a0O f.2.2.2.1.length++(f.2.2.2.1.flatMap a4K++(a0O body++([b4k (hb f body)]++R)))))))):=by
  rw[a37,d];rfl
 have h:([]++(a0O f.1.toNat++(a0O f.2.1.toNat++(a0O f.2.2.1.1.toNat++(a0O f.2.2.1.2.1.toNat++(a0O f.2.2.1.2.2.1.toNat++(a0O f.2.2.2.1.length++(f.2.2.2.1.flatMap a4K++(a0O body++([b4k (hb f body)]++R))))))))):List Int).length<1000000:=by
  rw[←k];simp;omega
 have E:=a7L (n:=f.1.toNat) (most:=4194304) (by omega) (by omega) h;have y:=a3E h;have F:=a7L (n:=f.2.1.toNat) (most:=4096) (by omega) (by omega) y;have z:=a3E y;have G:=a7L (n:=f.2.2.1.1.toNat) (most:=1048576) (by omega) (by omega) z;have A:=a3E z;have H:=a7L (n:=f.2.2.1.2.1.toNat) (most:=8) (by omega) (by omega) A;have B:=a3E A;have I:=a7L (n:=f.2.2.1.2.2.1.toNat) (most:=24) (by omega) (by omega) B;have C:=a3E B;have K:=a7L (n:=f.2.2.2.1.length) (most:=16) (by omega) (by omega) C;have D:=a3E C;have a:=b7s (x:=x) m2 f.1 f.2.1 f.2.2.1 ([],()) m3 f.2.2.2.1 [] _ m4 (by simp) D;have V:=a3E D;have i:=a7L (n:=body) (most:=1048576) (by omega) (by omega) V;simp only[a17,nZ,a04,a09]at E F G H I K i a;have w1:wrap .i64 ((f.1.toNat:Nat):Int)=f.1:=by rw[a0D (by omega)];omega
 have w2:wrap .i64 ((f.2.1.toNat:Nat):Int)=f.2.1:=by rw[a0D (by omega)];omega
 have w3:wrap .i64 ((f.2.2.1.1.toNat:Nat):Int)=f.2.2.1.1:=by rw[a0D (by omega)];omega
 have w4:wrap .i64 ((f.2.2.1.2.1.toNat:Nat):Int)=f.2.2.1.2.1:=by rw[a0D (by omega)];omega
 have w5:wrap .i64 ((f.2.2.1.2.2.1.toNat:Nat):Int)=f.2.2.1.2.2.1:=by rw[a0D (by omega)];omega
 have l:a0O f.1.toNat++a0O f.2.1.toNat++a0O f.2.2.1.1.toNat++a0O f.2.2.1.2.1.toNat++a0O f.2.2.1.2.2.1.toNat++a0O f.2.2.2.1.length++f.2.2.2.1.flatMap a4K++a0O body=(hb f body).drop 2:=by simp[hb]
 rw[l]at i;have u:ord ((hb f body).drop 2) ([b4k (hb f body)]++R)=(x.drop 2,(((hb f body).length-2:Nat):Int),(0:Int),()):=by
  unfold ord;rw[a45,←hx];congr 1;unfold a1q;rw[aA,List.drop_append_of_le_length (by omega)]
 rw[u]at i;have b:wrap .i64 (((x.drop 2).length:Int)-(((hb f body).length-2:Nat):Int))=((1+R.length:Nat):Int):=by
  have:x.length=(hb f body).length+(1+R.length):=by rw[←hx];simp[a1q];omega
  rw[a45,a0D (by omega)];omega
 have m:wrap .i64 ((2:Int)+(((hb f body).length-2:Nat):Int))=(((hb f body).length:Nat):Int):=by rw[a0D (by omega)];omega
 have t:(hb f body).length<x.length:=by rw[←hx];simp[a1q]
 have c:a90 (hb f body).length x=hb f body:=by rw[←hx];simp[a1q]
 have s:l0z x (((hb f body).length:Nat):Int)=some (b4k (hb f body)):=by rw[a0B t];congr 1;subst hx;simp[a1q]
 have Q:decide (((x.length:Nat):Int)<2)=false:=by simp;omega
 have j:decide ((2:Int)≤((x.length:Nat):Int))=true:=by simp;omega
 have L:((245:Int) != 245)=false:=rfl;have M:((75:Int) != 75)=false:=rfl;have e:∀T:List Int,T.length<1000000→a9K T=some (ord [] T):=fun T d=>by unfold a9K;rw[a1f (by omega)];rfl
 have g:=h;rw[a04]at g;have z0:((0:Int) != 0)=false:=rfl;have N:decide (((1+R.length:Nat):Int)<1)=false:=by simp;omega
 have O:decide ((0:Int)≤(((hb f body).length:Nat):Int))=true:=by simp
 have P:decide ((((hb f body).length:Nat):Int)≤((x.length:Nat):Int))=true:=by simp;omega
 have Z:(b4k (hb f body) != b4k (hb f body))=false:=bne_self_eq_false _;have r:frP (f.1,f.2.1,f.2.2.1,f.2.2.2.1,([]:List Sub),()):=p;have w:wrap .i64 ((((hb f body).length:Nat):Int)+1)=(((a1q f body).length:Nat):Int):=by rw[a0D (by omega)];simp[a1q]
 have v:wrap .i64 ((body:Nat):Int)=(body:Int):=a0D (by omega);unfold a4E;simp only[Q,cF,S,U,oB,L,M,j,cT];rw[k,e _ g];simp only[oB,E,F,G,H,I,K,w1,w2,w3,w4,w5]
 erw[a]
 simp only[oB,i,a6O,z0,cF,a6y,a7w,b,N,m,O,P,a03,cT,tN,c,c0J (show short (hb f body)by unfold short;omega),s,Z];rw[b3E,decide_eq_true r];simp only[oB,bT,cF,w,v];rfl
@[reducible] def PZ:Type:=Sub×List Nat
def c2M(n:Int)(p:PZ):Prop:=SmallS p.1∧(a1U p.1 n).isSome=true∧(p.1.1≠0∧p.1.1≠1→PartsOk p.1.2.2.2.2.2.2.2.2.2.1 n ((p.1.2.2.2.2.2.2.2.2.1.length:Nat):Int) p.1.2.2.2.2.2.2.2.2.2.2.1 p.2)
def a0J(l:List PZ):List Int:=l.flatMap fun p=>a5N p.1 p.2
theorem b8E(l:List PZ):a1o (a0J l):=b2D fun _=>c4r _ _
theorem b8F(x:a1p)(all:List Sub)(n:all.length≤8):∀(rest done:List Sub)(L:List Int),done++rest=all→(∀s∈rest,SmallS s∧(a1U s x.2.1).isSome=true)→L.length+700000*rest.length<40000000→
  ∃zs:List PZ,zs.map (·.1)=rest∧(∀p∈zs,c2M x.2.1 p)∧(a0J zs).length≤700000*rest.length∧((∀s∈rest,∃c,a2U (s,x.2.1)=some (c:Int))∧some (((a0J zs).length:Nat):Int)=rest.foldr (fun s a=>a.bind fun a=>(a2U (s,x.2.1)).bind fun c=>some (c+a)) (some 0))∧
   x0r a7m (all,(all.length:Int),(done.length:Int),wL L,x,())=some (.inl (wL (L++a0J zs),x,()))
 | [],done,L,hd,_,_=>by
  have e:done=all:=by simpa using hd
  subst e;refine⟨[],rfl,by simp,by simp[a0J],⟨by simp,by simp[a0J]⟩,?_⟩;rw[a0H (b:=Sum.inl (wL L,x,())) (by simp only[a7m,dge,cF])];simp[a0J]
 |s::rest,done,L,hd,h,hL=>by
  obtain⟨j,i⟩:=h s (by simp);rw[lC]at hL;obtain⟨k,l,d,u,m⟩:=c0H j i (L:=L) (by omega);obtain⟨zs,k1,k2,k3,⟨q,r⟩,k6⟩:=b8F x all n rest (done++[s]) (L++a5N s k) (by simpa using hd) (fun t f=>h t (by simp[f])) (by rw[lN];omega);have g:done.length<all.length:=by rw[←hd];simp
  have o:l0z all (done.length:Int)=some s:=by rw[a0B g];subst hd;simp
  refine⟨(s,k)::zs,by simp[k1],fun p hp=>?_,?_,⟨fun t f=>?_,?_⟩,?_⟩;rcases mC.1 hp with rfl|hp;exact⟨j,i,m⟩;exact k2 p hp;simp only[a0J,a57,lN,lC];simp only[a0J]at k3;omega;rcases mC.1 f with rfl|f;exact⟨_,d⟩;exact q t f;simp only[b19,←r,oB,d];simp[a0J];have z0:((0:Int) != 0)=false:=rfl;rw[a0I (s':=(all,(all.length:Int),(((done++[s]).length:Nat):Int),wL (L++a5N s k),x,())) (by
   simp only[a7m,dlt g,cT,o,oB,l,z0,cF,a0C (show done.length<1000000 by omega)]
   simp)]
  rw[k6];simp[a0J]
def a4a(k:Nat):Nat:=(8-k%8)%8
def a2d(L:List Int):List Int:=L++a01 (a4a L.length) 0
theorem b7u:∀(k:Nat)(L:List Int),a4a L.length=k→L.length+k<900000000→x0r a2V (wL L,())=some (wL (L++a01 k 0),())
 |k,L,hk,hL=>by
  have f:=(a4N L).1;have h:a30 (wL L).2.1 8=((L.length%8:Nat):Int):=by rw[f];rfl
  unfold a4a at hk;cases k with
  |zero=>
   have:L.length%8=0:=by omega
   rw[a0H (b:=(wL L,())) (by
    simp only[a2V,h,this];rfl)]
   simp
  |succ k=>
   have hb:(((L.length%8:Nat):Int) != 0)=true:=by simp;omega
   rw[a0I (s':=(wL (L++[0]),())) (by
    simp only[a2V,h,hb,cT,b6T (show L.length<1000000000 by omega),oB])]
   rw[b7u k (L++[0]) (by unfold a4a;rw[lN,a41];omega) (by rw[lN,a41];omega)];rw[aA];rfl
theorem c4t(h:L.length<800000000):a4d (wL L)=some (wL (a2d L)):=by
 unfold a4d;rw[b7u _ L rfl (by unfold a4a;omega)];rfl
def a3A(L:List Int):List Int:=(wL (a2d L)).1
theorem b2E(L:List Int):(a3A L).length=(L.length+7) / 8∧8*(a3A L).length=(a2d L).length:=by
 have:=(a4N (a2d L)).2
 unfold a3A;rw[this];unfold a2d a4a;simp only[lN,List.length_replicate];omega
def a4k(f:a1p)(L:List Int):List Int:=a1q f (a3A L).length++a3A L
def a2N(f:a1p)(L:List Int):List Int:=a4k f L++[a2v (a4k f L) / 256,a2v (a4k f L)%256]
theorem b6r(h:frP f)(a:L.length≤5600000):(a4k f L).length≤700700∧(a3A L).length≤700000:=by
 have g:=(b2E L).1;have k:=c0K h (body:=(a3A L).length) (by omega);simp only[a4k,a1q,lN,a41];omega
theorem c0L(j:a3C f=some true)(d:frP f)(e:f.2.2.2.2.1.length≤8)(m:∀s∈f.2.2.2.2.1,SmallS s∧(a1U s f.2.1).isSome=true):
  ∃zs:List PZ,zs.map (·.1)=f.2.2.2.2.1∧(∀p∈zs,c2M f.2.1 p)∧(a0J zs).length≤5600000∧
   some (((a0J zs).length:Nat):Int)=f.2.2.2.2.1.foldr (fun s a=>a.bind fun a=>(a2U (s,f.2.1)).bind fun c=>some (c+a)) (some 0)∧a6u f=some (a2N f (a0J zs),0):=by
 obtain⟨zs,k1,k2,k3,⟨-,n⟩,k6⟩:=b8F f f.2.2.2.2.1 e f.2.2.2.2.1 [] [] rfl m (by simp;omega);have b:(a0J zs).length≤5600000:=by omega
 refine⟨zs,k1,k2,b,n,?_⟩;rw[a04,a17]at k6;have hp:=b6r d b;have k:wL []=(([]:List Int),(0:Int),()):=rfl;rw[k]at k6;have g:(a2d (a0J zs)).length<1000000000:=by
  have:=(b2E (a0J zs)).2
  omega
 have l:=b6b (a4k f (a0J zs));have h:a1q f (a3A (a0J zs)).length++a3A (a0J zs)=a4k f (a0J zs):=rfl;have i:(a1q f (a3A (a0J zs)).length).length+(a3A (a0J zs)).length=(a4k f (a0J zs)).length:=by rw[←h,lN]
 unfold a6u;simp only[j,oB,bT,cF]
 erw[k6]
 simp only[oB,c4t (show(a0J zs).length<800000000 by omega),c4s g]
 erw[c2K d (show(a3A (a0J zs)).length≤1048576 by omega)]
 simp only[oB,a08];rw[show(wL (a2d (a0J zs))).1=a3A (a0J zs)from rfl];rw[h,a1f (by omega),cT,b7r (show short (a4k f (a0J zs))by unfold short;omega)];simp only[oB];rw[a0S (by omega),d1F l];simp only[oB];rw[a1f (by simp;omega),cT];rfl
def a7s(f:a1p)(l:List Sub):a1p:=(f.1,f.2.1,f.2.2.1,f.2.2.2.1,l,())
theorem c2N(f:a1p):a7s f f.2.2.2.2.1=f:=rfl
theorem b7v(f g:a1p)(e:Int){N:Nat}(d:N≤8){Z:List Int}:∀(rest:List PZ)(done:List Sub)(P:List Int),done.length+rest.length=N→(∀p∈rest,c2M f.2.1 p)→OkR P (a0J rest++Z)→
  x0r a6I (e,(N:Int),(done.length:Int),g,a7s f done,rdr P (a0J rest++Z),())=some (.inl (e,g,a7s f (done++rest.map (·.1)),rdr (P++a0J rest) Z,()))
 | [],done,P,hl,_,_=>by
  have a:done.length=N:=by simpa using hl
  rw[a,a0H (b:=Sum.inl (e,g,a7s f done,rdr P Z,())) (by simp only[a6I,dge,cF];rfl)];simp[a0J]
 |p::rest,done,P,hl,h,hok=>by
  rw[lC]at hl;obtain⟨n,l,o⟩:=h p (by simp);have c:a0J (p::rest)++Z=a5N p.1 p.2++(a0J rest++Z):=by simp[a0J]
  rw[c]at hok⊢;have j:=c5K n l o hok;have i:decide ((done.length:Int)<(N:Int))=true:=by simp;omega
  have z0:((0:Int) != 0)=false:=rfl;rw[a0I (s':=(e,(N:Int),(((done++[p.1]).length:Nat):Int),g,a7s f (done++[p.1]),rdr (P++a5N p.1 p.2) (a0J rest++Z),())) (by
   have k:b0C (rdr P (a5N p.1 p.2++(a0J rest++Z)),(a7s f done).2.1)=some (p.1,(0:Int),rdr (P++a5N p.1 p.2) (a0J rest++Z)):=j;simp only[a6I,i,cT,k,oB,z0,cF];rw[show(a7s f done).2.2.2.2.1=done from rfl,a1f (show done.length+1<2147483648 by omega),cT,a0C (show done.length<1000000 by omega)];rw[show(((done++[p.1]).length:Nat):Int)=((done.length+1:Nat):Int)from by simp];rfl)]
  rw[b7v f g e d rest (done++[p.1]) _ (by simp;omega) (fun q m=>h q (by simp[m])) hok.shift];simp[a0J]
theorem b6c{L:List Int}(f:a1o L)(a:L.length<500000000)(t:Int×(Int×Unit)):∀(k i:Nat),i+k=L.length→(∀j,i≤j→L.getD j 0=0)→
  x0r a2X ((L.length:Int),(i:Int),((wL L).1,t),())=some (.inl ((L.length:Int),((wL L).1,t),()))
 |0,i,h,_=>by
  obtain rfl:i=L.length:=by omega
  exact a0H (by simp only[a2X,dge,cF])
 |k+1,i,h,h0=>by
  have g:i<L.length:=by omega
  have z:((0:Int)==1)=false:=rfl;have b:wrap .i64 ((i:Int)+1)=((i+1:Nat):Int):=by rw[a0D (by omega)];omega
  rw[a0I (s':=((L.length:Int),((i+1:Nat):Int),((wL L).1,t),())) (by
   simp only[a2X,dlt g,cT];rw[b7Z f (by omega) g t,h0 i (a24 _)];simp only[oB,z,cF,b])]
  exact b6c f a t k (i+1) (by omega) (fun j c=>h0 j (by omega))
theorem c4u(L:List Int)(k j:Nat)(h:L.length≤j):(L++a01 k 0).getD j 0=0:=by
 rw[lD,a26 h,List.getElem?_replicate]
 split<;>rfl
theorem b8G(h:a1o L):a1o (a2d L):=h.app fun _ hb=>.inl (a96.1 hb).2
theorem c3E(f:a1o L)(c:L.length≤5600000):∃r,a4f (rdr L (a01 (a4a L.length) 0))=some r∧r.2.2.1=0:=by
 have hp:(a2d L).length=L.length+a4a L.length:=by simp[a2d]
 have a:a4a L.length<8:=by unfold a4a;omega
 have b:(a2d L).length%8=0:=by rw[hp];unfold a4a;omega
 have z0:((0:Int) != 0)=false:=rfl;have g:wrap .i64 (wrap .i64 (a48 (wrap .i64 ((L.length:Int)+7)) 8)*8)=((a2d L).length:Int):=by
  rw[a0D (n:=(L.length:Int)+7) (by omega),show a48 ((L.length:Int)+7) 8=(((L.length+7) / 8:Nat):Int)from by
   rw[show((L.length:Int)+7)=((L.length+7:Nat):Int)from by omega];rfl,a0D (n:=(((L.length+7) / 8:Nat):Int)) (by omega),a0D (by omega),hp]
  unfold a4a;omega
 have h:=b6c (b8G f) (by omega) ((L.length:Int),(0:Int),()) (a4a L.length) L.length (by omega) (fun j k=>c4u L _ j k);refine⟨((wL (a2d L)).1,((a2d L).length:Int),(0:Int),()),?_,rfl⟩;unfold a4f rdr;simp only[z0,cF,g];rw[show L++a01 (a4a L.length) 0=a2d L from rfl,h];rfl
theorem d1G{v:Int}(h:0≤v∧v<65536):bits .u16 .or (z0g .u16 (wrap .u16 (v / 256)) 8) (wrap .u16 (v%256))=v:=by
 rw[b1t,b1t];have e:z0g .u16 (v / 256%65536) 8=((v.toNat / 256*256:Nat):Int):=by
  show wrap .u16 (v / 256%65536*256)=_;rw[b1t];omega
 rw[e];have g:v%256%65536=((v.toNat%256:Nat):Int):=by omega
 rw[g];show wrap .u16 (((a02 16 ((v.toNat / 256*256:Nat):Int) ||| a02 16 ((v.toNat%256:Nat):Int)).toNat:Nat):Int)=_;have f:(a02 16 ((v.toNat / 256*256:Nat):Int)).toNat=v.toNat / 256*256:=by rw[a27];omega
 have k:(a02 16 ((v.toNat%256:Nat):Int)).toNat=v.toNat%256:=by rw[a27];omega
 rw[a47,f,k];have e:v.toNat / 256*256 ||| v.toNat%256=v.toNat / 256*256+v.toNat%256:=by
  have:=a42 (i:=8) (b:=v.toNat%256) (by omega) (v.toNat / 256)
  rw[show 2^8*(v.toNat / 256)=v.toNat / 256*256 from by omega]at this;exact this.symm
 rw[e,b1t];omega
theorem b9a(O:a3C f=some true)(u:frP f)(t:((f.2.2.2.2.1.length:Nat):Int)=f.2.2.1.2.1){zs:List PZ}(B:zs.map (·.1)=f.2.2.2.2.1)(hp:∀p∈zs,c2M f.2.1 p)(z:(a0J zs).length≤5600000)(V:R.length≤1000):a6Q (a2N f (a0J zs)++R)=some (f,((a2N f (a0J zs)).length:Int),(0:Int)):=by
 have P:=b6r u z;have Q:=b6b (a4k f (a0J zs));have L:f.2.2.2.2.1.length≤8:=by have:=u.1.2.2.2.1;omega
 have N:=b2E (a0J zs);generalize hbd:a3A (a0J zs)=body at *;have c:a2N f (a0J zs)=a4k f (a0J zs)++[a2v (a4k f (a0J zs)) / 256,a2v (a4k f (a0J zs))%256]:=rfl;have g:a4k f (a0J zs)=a1q f body.length++body:=by unfold a4k;rw[hbd]
 generalize hpb:a4k f (a0J zs)=pre at *;have o:a2N f (a0J zs)++R=a1q f body.length++(body++([a2v pre / 256,a2v pre%256]++R)):=by rw[c,g];simp
 have m:(a2N f (a0J zs)).length=pre.length+2:=by rw[c];simp
 have A:pre.length=(a1q f body.length).length+body.length:=by rw[g];simp
 have y:(a2N f (a0J zs)++R).length=pre.length+2+R.length:=by rw[lN,m]
 have k:=b7t u (body:=body.length) (by omega) (R:=body++([a2v pre / 256,a2v pre%256]++R)) (by rw[←o,y];omega);rw[←o]at k;generalize hx:a2N f (a0J zs)++R=x at *;have z0:((0:Int) != 0)=false:=rfl;have T:wrap .i64 (((a1q f body.length).length:Int)+(body.length:Int))=(pre.length:Int):=by rw[a0D (by omega)];omega
 have w2:wrap .i64 ((pre.length:Int)+2)=((pre.length+2:Nat):Int):=by rw[a0D (by omega)];omega
 have U:wrap .i64 ((pre.length:Int)+1)=((pre.length+1:Nat):Int):=by rw[a0D (by omega)];omega
 have C:decide ((x.length:Int)<((pre.length+2:Nat):Int))=false:=by simp;omega
 have D:decide ((0:Int)≤(pre.length:Int))=true:=by simp
 have E:decide ((pre.length:Int)≤(x.length:Int))=true:=by simp;omega
 have F:decide ((0:Int)≤((a1q f body.length).length:Int))=true:=by simp
 have G:decide (((a1q f body.length).length:Int)≤(pre.length:Int))=true:=by simp;omega
 have j:x=pre++([a2v pre / 256,a2v pre%256]++R):=by rw[←hx,c];simp
 have i:a90 pre.length x=pre:=by rw[j];simp
 have b:b03 (a1q f body.length).length pre=body:=by rw[g];simp
 have I:l0z x (pre.length:Int)=some (a2v pre / 256):=by rw[a0B (by omega)];congr 1;subst j;simp
 have K:l0z x ((pre.length+1:Nat):Int)=some (a2v pre%256):=by rw[a0B (by omega)];congr 1;subst j;simp
 have S:(a2v pre != bits .u16 .or (z0g .u16 (wrap .u16 (a2v pre / 256)) 8) (wrap .u16 (a2v pre%256)))=false:=by rw[d1G Q];exact bne_self_eq_false _
 have e:(a2d (a0J zs)).length<1000000000:=by omega
 have a:=c6y e;rw[show(wL (a2d (a0J zs))).1=body from hbd]at a;have v:OkR [] (a0J zs++a01 (a4a (a0J zs).length) 0):=⟨by rw[a04];exact b8G (b8E zs),by
  rw[a04];show(a2d (a0J zs)).length<_;omega⟩
 have h:=b7v f ((0:Int),(0:Int),((0:Int),(0:Int),(0:Int),()),([]:List a0U),([]:List Sub),()) (pre.length:Int) L zs [] [] (by rw[←B];simp) hp v;simp only[a04,a17,B,c2N]at h;have w:rdr [] (a2d (a0J zs))=rdr [] (a0J zs++a01 (a4a (a0J zs).length) 0):=rfl;obtain⟨r,q,s⟩:=c3E (b8E zs) z;have d:a2m (rdr (a0J zs) (a01 (a4a (a0J zs).length) 0))=some ((a4a (a0J zs).length:Int),rdr (a0J zs) (a01 (a4a (a0J zs).length) 0)):=by
  unfold a2m rdr
  have:(wL (a0J zs++a01 (a4a (a0J zs).length) 0)).1=body:=hbd
  simp only[this];have hp:(a2d (a0J zs)).length=(a0J zs).length+a4a (a0J zs).length:=by simp[a2d]
  rw[a0D (n:=8*(body.length:Int)) (by omega),a0D (by omega)];congr 2;omega
 have H:decide (((a4a (a0J zs).length:Nat):Int)≥8)=false:=by unfold a4a;simp;omega
 have M:a7s f []=c2L f:=rfl;have l:f.2.2.1.2.1=((f.2.2.2.2.1.length:Nat):Int):=t.symm;unfold a6Q;rw[k];simp only[oB,z0,cF,T,w2,C,D,E,F,a03,cT,tN,i,b7r (show short pre by unfold short;omega),I,U,K,S,G,b,a,w];rw[show(c2L f).2.2.1.2.1=((f.2.2.2.2.1.length:Nat):Int)from l]
 erw[h]
 simp only[oB,d,H,cF,q,a0K,s,z0,O,bT,w2,m]
theorem b9b(k:frP f)(a:L.length≤5600000)(c:R.length≤1000):a6R (a2N f L++R)=some (f.2.2.1,f.1,f.2.1,(0:Int)):=by
 have b:=b6r k a;have g:a2N f L++R=a1q f (a3A L).length++(a3A L++([a2v (a4k f L) / 256,a2v (a4k f L)%256]++R)):=by simp[a2N,a4k]
 have h:=b7t k (body:=(a3A L).length) (by omega) (R:=a3A L++([a2v (a4k f L) / 256,a2v (a4k f L)%256]++R)) (by
  rw[←g];simp only[a2N,lN,lC,a17];omega)
 rw[←g]at h;unfold a6R;rw[h];rfl
theorem b2c(x:Int):a7B x=some (a0A x):=by
 unfold a7B a0A
 by_cases h:-1073741824≤x<;>simp[h]
def a2o(c:List (List Int)):Prop:=1≤c.length∧c.length≤8∧(c.headD []).length≤4096∧c.all (fun r=>decide (r.length=(c.headD []).length)&&r.all a0A)=true
instance (c:List (List Int)):Decidable (a2o c):=by unfold a2o;infer_instance
theorem b0H{l:List α}{d:α}(h:0<l.length):l[0]=l.headD d:=by
 cases l with
 |nil=>simp at h
 |cons a l=>rfl
theorem b8d(c:List (List Int)):a6n c=some (decide (a2o c)):=by
 unfold a6n
 by_cases h1:((c.length:Nat):Int)<1
 have:¬ a2o c:=fun h=>by have:=h.1;omega
 simp[h1,this]
 by_cases h2:((c.length:Nat):Int) > 8
 have:¬ a2o c:=fun h=>by have:=h.2.1;omega
 simp[h1,h2,this];have l:0<c.length:=by omega
 have b:l0z c 0=some (c.headD []):=by rw[show(0:Int)=((0:Nat):Int)from rfl,a0B l,b0H (d:=[]) l]
 have m:decide (((c.length:Nat):Int)<1)=false:=by simpa using h1
 have n:decide (((c.length:Nat):Int) > 8)=false:=by simpa using h2
 simp only[m,n,cF,b,oB]
 by_cases h3:(((c.headD []).length:Nat):Int) > 4096
 rw[decide_eq_true h3,decide_eq_false (show ¬ a2o c from fun h=>by have:=h.2.2.1;omega)];rfl;have o:decide ((((c.headD []).length:Nat):Int) > 4096)=false:=by simpa using h3
 simp only[o,cF];have g:∀(i:Nat)(r:List Int),short r→x0r a3H (c,c,(c.length:Int),(i:Int),r,(r.length:Int),(0:Int),())=some (bif r.all a0A then Sum.inl (c,c,(c.length:Int),(i:Int),())else Sum.inr (false,())):=fun i r t=>by
  have:=a1x (f:=a3H) r (fun j=>(c,c,(c.length:Int),(i:Int),r,(r.length:Int),(j:Int),())) a0A (bt:=Sum.inl (c,c,(c.length:Int),(i:Int),())) (bf:=Sum.inr (false,()))
   (fun j h hp=>by simp only[a3H,dlt h,cT,a0B h,oB,b2c,hp,bT,cF,a0C (a43 h t)])
   (fun j h hp=>by simp only[a3H,dlt h,cT,a0B h,oB,b2c,hp,a18])
   (by simp only[a3H,dge,cF])
  exact this
 have k:=a1x (f:=a3I) c (fun i=>(c,c,(c.length:Int),(i:Int),())) (fun r=>decide (r.length=(c.headD []).length)&&r.all a0A) (bt:=Sum.inl ()) (bf:=Sum.inr (false,()))
  (fun i h hp=>by
   simp only[bA,dT]at hp;have e:((((c[i]).length:Nat):Int) != (((c.headD []).length:Nat):Int))=false:=by rw[hp.1];exact bne_self_eq_false _
   have a:=g i c[i] (by unfold short;omega);rw[hp.2,cT]at a;simp only[a3I,dlt h,cT,a0B h,oB,b,e,cF,a,a0C (show i<1000000 by omega)])
  (fun i h hp=>by
   by_cases hl:(c[i]).length=(c.headD []).length
   have e:((((c[i]).length:Nat):Int) != (((c.headD []).length:Nat):Int))=false:=by rw[hl];exact bne_self_eq_false _
   have a:=g i c[i] (by unfold short;omega);rw[decide_eq_true hl,a34]at hp;rw[hp,cF]at a;simp only[a3I,dlt h,cT,a0B h,oB,b,e,cF,a];have e:((((c[i]).length:Nat):Int) != (((c.headD []).length:Nat):Int))=true:=by simp only[bne_iff_ne,ne_eq,b20];exact hl
   simp only[a3I,dlt h,cT,a0B h,oB,b,e])
  (by simp only[a3I,dge,cF])
 simp only[nZ]at k;rw[k];have p:1≤c.length:=by omega
 have q:c.length≤8:=by omega
 have s:(c.headD []).length≤4096:=by omega
 by_cases hA:c.all (fun r=>decide (r.length=(c.headD []).length)&&r.all a0A)=true
 rw[hA,decide_eq_true (show a2o c from⟨p,q,s,hA⟩)];rfl;rw[a77.2 hA,decide_eq_false (show ¬ a2o c from fun h=>hA h.2.2.2)];rfl
def a2Y(c:List (List Int))(n:Nat):Prop:=∀r∈c,r.length=n∧r.all a0A=true
theorem c1C(h:a2o c):a2Y c (c.headD []).length:=fun r g=>by
 have:=lA.1 h.2.2.2 r g
 simpa using this
theorem b6s{c:List (List Int)}{n:Nat}(h:a2Y c n)(g:1≤c.length)(f:c.length≤8)(b:n≤4096):a2o c:=by
 have k:(c.headD []).length=n:=by
  rw[←b0H (d:=[]) (show 0<c.length by omega)];exact(h _ (a07 _)).1
 refine⟨g,f,by omega,lA.2 fun r a=>?_⟩
 have:=h r a
 rw[decide_eq_true (show r.length=(c.headD []).length from by rw[k];exact this.1),this.2];rfl
theorem b8H(h:a2Y c n)(m:n≤5000)(l:c.length≤100):a5S c=some c:=by
 have:=a1I (f:=a5z) (β:=List (List Int)×Unit) c (fun i (a:List (List Int))=>(c,(c.length:Int),(i:Int),a,())) (fun a x=>.inl (a++[x])) (fun i a=>a.length=i) (fun a=>(a,()))
  (fun i k a d=>⟨fun j g=>by
   simp only[Sum.inl.injEq]at g;subst g;have o:=(h _ (a07 k)).1;have e:∀y:List Int,List.set ([([]:List Int)]:List (List Int)) 0 y=[y]:=fun _=>rfl;refine⟨?_,by simp[d]⟩;simp only[a5z,dlt k,cT,a0B k,oB,a6U (show short c[i]by unfold short;omega),e];rw[a1f (by simp;omega),cT,a0C (show i<1000000 by omega)];rfl,fun b hb=>by cases hb⟩)
  (fun a d=>by simp only[a5z,dge,cF]) (a:=[]) rfl
 rw[b2b (fun x:List Int=>[x])]at this;unfold a5S;simp only[nZ]at this;rw[this];simp[a7x]
def a5O(sign g:Int)(x y:Int):Int:=y+sign*(g*x / 256)
def a8e(sign g:Int)(xs ys:List Int):List Int:=List.zipWith (a5O sign g) xs ys
theorem c4v(sign g:Int){xs ys:List Int}(h:xs.length=ys.length):(a8e sign g xs ys).length=ys.length:=by simp[a8e,h]
theorem c4w{y:Int}(b:sign=1∨sign=-1)(c:-1024≤g∧g≤1024)(k:a0A x=true)(a:a0A y=true):
  wrap .i64 (y+wrap .i64 (sign*z0h .i64 (wrap .i64 (g*x)) 8))=a5O sign g x y:=by
 have k:=a1z.1 k;have a:=a1z.1 a;have f:-1099511627776≤g*x∧g*x≤1099511627776:=by
  have f:g.natAbs≤1024:=by omega
  have h:x.natAbs≤1073741824:=by omega
  have:=a55 f h
  rw[←Int.natAbs_mul]at this;omega
 rw[a0D (n:=g*x) (by omega)];have h:z0h .i64 (g*x) 8=g*x / 256:=by
  unfold z0h;show(g*x).fdiv (2^8)=_;rw[a32 _ (by omega)];rfl
 rw[h];unfold a5O;rcases b with rfl|rfl;rw[a0D (n:=1*(g*x / 256)) (by omega),a0D (by omega)];rw[a0D (n:=-1*(g*x / 256)) (by omega),a0D (by omega)]
theorem a4P(c:List α){b:Nat}(h:a≠b)(y d:α):(c.set b y).getD a d=c.getD a d:=by
 rw[lD,lD,a66 (Ne.symm h)]
theorem a6w(c:List α){b:Nat}(h:b<c.length)(y d:α):(c.set b y).getD b d=y:=by
 rw[lD,a58 h];rfl
theorem c5l(p:List α)(x:α)(s:List α)(d:α):(p++x::s).getD p.length d=x:=by
 rw[lD];simp
theorem c5L(p:List α)(x y:α)(s:List α):(p++x::s).set p.length y=p++y::s:=by simp
theorem b7w{c:List (List Int)}{s:a0U}{sign:Int}(a:sign=1∨sign=-1)(l:-1024≤s.2.2.1∧s.2.2.1≤1024)(a0:0≤s.1)(j:0≤s.2.1)(g:s.1.toNat≠s.2.1.toNat)(hb:s.2.1.toNat<c.length)(f:s.2.1<(c.length:Int))
  {xs:List Int}(b:c.getD s.1.toNat []=xs)(B:xs.length≤5000):∀(sx suf px pre:List Int),px++sx=xs→px.length=pre.length→sx.length=suf.length→sx.all a0A=true→suf.all a0A=true→
  if(a8e sign s.2.2.1 sx suf).all a0A=true then
   x0r a3d (sign,(xs.length:Int),(pre.length:Int),c.set s.2.1.toNat (pre++suf),s,((s.1.toNat:Nat):Int),())=some (.inl (c.set s.2.1.toNat (pre++a8e sign s.2.2.1 sx suf),()))
  else ∃c',x0r a3d (sign,(xs.length:Int),(pre.length:Int),c.set s.2.1.toNat (pre++suf),s,((s.1.toNat:Nat):Int),())=some (.inr (false,c',()))
 | [],suf,px,pre,hx,hp,hl,_,_=>by
  have e:suf=[]:=a54.1 hl.symm;subst e;have t:pre.length=xs.length:=by rw[←hx,←hp];simp
  rw[if_pos (by rfl),t];exact a0H (by simp only[a3d,dge,cF];rfl)
 |x::sx,[],px,pre,_,_,hl,_,_=>by simp at hl
 |x::sx,y::suf,px,pre,hx,hp,hl,hwx,hwy=>by
  simp only[a06,bA]at hwx hwy;have A:pre.length<xs.length:=by rw[←hx,←hp];simp
  have u:(c.set s.2.1.toNat (pre++y::suf)).getD (a21 ((s.1.toNat:Nat):Int)) []=xs:=by rw[tN,a4P _ g];exact b
  have v:(c.set s.2.1.toNat (pre++y::suf)).getD s.2.1.toNat []=pre++y::suf:=a6w _ hb _ _;have w:b21 xs (a21 (pre.length:Int)) 0=x:=by rw[tN,←hp,←hx];exact c5l _ _ _ _
  have z:b21 (pre++y::suf) (a21 (pre.length:Int)) 0=y:=by rw[tN];exact c5l _ _ _ _
  have n:decide ((0:Int)≤(pre.length:Int))=true:=by simp
  have o:decide ((pre.length:Int)<(xs.length:Int))=true:=by simp;omega
  have p:decide ((0:Int)≤s.2.1)=true:=by simpa using j
  have q:decide (s.2.1<(((c.set s.2.1.toNat (pre++y::suf)).length:Nat):Int))=true:=by rw[List.length_set];simpa using f
  have r:decide ((pre.length:Int)<(((pre++y::suf).length:Nat):Int))=true:=by simp;omega
  have hv:=c4w a l hwx.1 hwy.1;have C:wrap .i64 ((pre.length:Int)+1)=((pre.length+1:Nat):Int):=a0C (by omega);have m:a8e sign s.2.2.1 (x::sx) (y::suf)=a5O sign s.2.2.1 x y::a8e sign s.2.2.1 sx suf:=rfl;have k:List.set (c.set s.2.1.toNat (pre++y::suf)) s.2.1.toNat (List.set (pre++y::suf) (a21 (pre.length:Int)) (a5O sign s.2.2.1 x y))=c.set s.2.1.toNat ((pre++[a5O sign s.2.2.1 x y])++suf):=by
   rw[tN,List.set_set,c5L];simp
  have h:a3d (sign,(xs.length:Int),(pre.length:Int),c.set s.2.1.toNat (pre++y::suf),s,((s.1.toNat:Nat):Int),()) =
    bif !(a0A (a5O sign s.2.2.1 x y))then some (.inr (Sum.inr (false,c.set s.2.1.toNat (pre++y::suf),())))
    else some (.inl (sign,(xs.length:Int),((pre.length+1:Nat):Int),c.set s.2.1.toNat ((pre++[a5O sign s.2.2.1 x y])++suf),s,((s.1.toNat:Nat):Int),())):=by
   simp only[a3d,o,cT,u,v,n,a03,p,q,r,w,z,b2c,hv,oB,C];cases hwv:a0A (a5O sign s.2.2.1 x y);rfl;simp only[bT,cF];rw[k,tN]
  cases hwv:a0A (a5O sign s.2.2.1 x y)with
  |false=>
   rw[m,if_neg (by simp[hwv])];rw[hwv]at h;exact⟨_,a0H h⟩
  |true=>
   rw[hwv]at h;have d:=b7w a l a0 j g hb f b B sx suf (px++[x]) (pre++[a5O sign s.2.2.1 x y]) (by simpa using hx) (by simp[hp]) (by simpa using hl) hwx.2 hwy.2;rw[a0I h,m];simp only[a06,hwv,a34];rw[show((pre++[a5O sign s.2.2.1 x y]).length)=pre.length+1 from by simp]at d;split;rename_i i;rw[if_pos i]at d;rw[d]
   simp
   rename_i i;rw[if_neg i]at d;exact d
def a3h(sign:Int)(s:a0U)(c:List (List Int)):Option (List (List Int)):=
 let r:=a8e sign s.2.2.1 (c.getD s.1.toNat []) (c.getD s.2.1.toNat [])
 if r.all a0A=true then some (c.set s.2.1.toNat r)else none
theorem a5y(h:a2Y c n)(g:i<c.length):(c.getD i []).length=n∧(c.getD i []).all a0A=true:=by
 rw[lD,lG g];exact h _ (a07 g)
theorem c0M(a:a2Y c n)(w:n≤5000){s:a0U}(q:a2g (c.length:Int) s=true)(k:sign=1∨sign=-1):
  ∃b f,a6J (c,s,sign)=some (b,f)∧match a3h sign s c with|some r=>b=true∧f=r|none=>b=false:=by
 obtain⟨a1,d,e,j,v,l,m⟩:=a2B.1 q;have t:=a5y a (i:=s.1.toNat) (by omega);have u:=a5y a (i:=s.2.1.toNat) (by omega);have hb:s.2.1.toNat<c.length:=by omega
 have g:c.set s.2.1.toNat (c.getD s.2.1.toNat [])=c:=by
  apply a78;intro i
  by_cases hi:s.2.1.toNat=i
  subst hi;rw[a58 hb,lD,lG hb];rfl;rw[a66 hi]
 have:=b7w k ⟨l,m⟩ a1 e (by omega) hb j (rfl:c.getD s.1.toNat []=_) (by omega) (c.getD s.1.toNat []) (c.getD s.2.1.toNat []) [] [] rfl rfl (by omega) t.2 u.2
 rw[a04,g]at this;simp only[a17,nZ,a04,a09]at this;have o:decide ((0:Int)≤s.1)=true:=by simpa using a1
 have p:decide (s.1<(c.length:Int))=true:=by simpa using d
 unfold a6J a3h;simp only[o,p,a03,cT]
 by_cases hA:(a8e sign s.2.2.1 (c.getD s.1.toNat []) (c.getD s.2.1.toNat [])).all a0A=true
 rw[if_pos hA]at this⊢;refine⟨true,_,?_,rfl,rfl⟩
 erw[this]
 rfl;rw[if_neg hA]at this⊢;obtain⟨f,h⟩:=this;refine⟨false,f,?_,rfl⟩
 erw[h]
 rfl
theorem b1p{c':List (List Int)}(g:a2Y c n){s:a0U}(a:a2g (c.length:Int) s=true)(h:a3h sign s c=some c'):a2Y c' n∧c'.length=c.length:=by
 obtain⟨a1,d,e,j,l,m,o⟩:=a2B.1 a;have p:=a5y g (i:=s.1.toNat) (by omega);have b:=a5y g (i:=s.2.1.toNat) (by omega);unfold a3h at h;simp only at h
 split at h
 rename_i k;cases h;refine⟨fun r f=>?_,by simp⟩;rcases List.mem_or_eq_of_mem_set f with f|rfl;exact g r f;exact⟨by rw[c4v _ _ (by omega)];exact b.1,k⟩;cases h
theorem c0N(g:Int):∀xs ys:List Int,xs.length=ys.length→a8e (-1) g xs (a8e 1 g xs ys)=ys
 | [],[],_=>rfl
 |x::xs,y::ys,h=>by
  have f:=c0N g xs ys (by simpa using h);show a5O (-1) g x (a5O 1 g x y)::a8e (-1) g xs (a8e 1 g xs ys)=_;rw[f];unfold a5O;congr 1;omega
 | [],_::_,h=>by simp at h
 |_::_,[],h=>by simp at h
theorem c3F{c':List (List Int)}(g:a2Y c n){s:a0U}(f:a2g (c.length:Int) s=true)(h:a3h 1 s c=some c'):a3h (-1) s c'=some c:=by
 obtain⟨a1,a,b,d,e,j,l⟩:=a2B.1 f;have m:=a5y g (i:=s.1.toNat) (by omega);have k:=a5y g (i:=s.2.1.toNat) (by omega);have hb:s.2.1.toNat<c.length:=by omega
 unfold a3h at h;simp only at h
 split at h
 cases h;unfold a3h;simp only;rw[a4P _ (show s.1.toNat≠s.2.1.toNat by omega),a6w _ hb,c0N _ _ _ (by omega),if_pos k.2,List.set_set];congr 1;apply a78;intro i
 by_cases hi:s.2.1.toNat=i
 subst hi;rw[a58 hb,lD,lG hb];rfl;rw[a66 hi];cases h
def doO:List a0U→List (List Int)→Option (List (List Int))
 | [],c=>some c
 |s::l,c=>(a3h 1 s c).bind (doO l)
def a8U:List a0U→List (List Int)→Option (List (List Int))
 | [],c=>some c
 |s::l,c=>(a8U l c).bind (a3h (-1) s)
theorem b1u{n:Nat}{N:Nat}:∀(l:List a0U){c c':List (List Int)},a2Y c n→c.length=N→l.all (a2g (N:Int))=true→doO l c=some c'→a2Y c' n∧c'.length=N
 | [],c,c',hc,hl,_,h=>by cases h;exact⟨hc,hl⟩
 |s::l,c,c',hc,hl,hs,h=>by
  simp only[a06,bA]at hs;simp only[doO,a19]at h;obtain⟨d,g,f⟩:=h;obtain⟨k,a⟩:=b1p hc (by rw[hl];exact hs.1) g;exact b1u l k (by omega) hs.2 f
theorem c1D{n:Nat}{N:Nat}:∀(l:List a0U){c c':List (List Int)},a2Y c n→c.length=N→l.all (a2g (N:Int))=true→doO l c=some c'→a8U l c'=some c
 | [],c,c',_,_,_,h=>by cases h;rfl
 |s::l,c,c',hc,hl,hs,h=>by
  simp only[a06,bA]at hs;simp only[doO,a19]at h;obtain⟨d,g,f⟩:=h;obtain⟨k,a⟩:=b1p hc (by rw[hl];exact hs.1) g;simp only[a8U];rw[c1D l k (by omega) hs.2 f];exact c3F hc (by rw[hl];exact hs.1) g
def b6t:Option (List (List Int))→List (List Int)×Int
 |some r=>(r,0)
 |none=>([],6)
theorem c1E{n N:Nat}(j:n≤5000){l:List a0U}(o:l.length≤16)(e:l.all (a2g (N:Int))=true):∀(k i:Nat)(c:List (List Int)),i+k=l.length→a2Y c n→c.length=N→
  x0r a6K (l,(l.length:Int),(i:Int),c,())=some (match doO (l.drop i) c with|some r=>Sum.inl (r,())|none=>Sum.inr ([],6,()))
 |0,i,c,h,_,_=>by
  obtain rfl:i=l.length:=by omega
  rw[a81];exact a0H (by simp only[a6K,dge,cF];rfl)
 |k+1,i,c,h,hc,hcl=>by
  have g:i<l.length:=by omega
  rw[a05 g];have m:a2g (c.length:Int) l[i]=true:=by rw[hcl];exact lA.1 e _ (a07 g)
  obtain⟨b,a,d,f⟩:=c0M hc j m (sign:=1) (.inl rfl);simp only[doO];cases hst:a3h 1 l[i] c with
  |none=>
   rw[hst]at f;simp only at f;subst f;exact a0H (by simp only[a6K,dlt g,cT,a0B g,oB,d,a18];rfl)
  |some r=>
   rw[hst]at f;obtain⟨rfl,rfl⟩:=f;obtain⟨p,q⟩:=b1p hc m hst;rw[a0I (s':=(l,(l.length:Int),((i+1:Nat):Int),a,())) (by
    simp only[a6K,dlt g,cT,a0B g,oB,d,bT,cF,a0C (show i<1000000 by omega)])]
   rw[c1E j o e k (i+1) a (by omega) p (by omega)];rfl
theorem b9h(c:List (List Int))(l:List a0U):a9X (c,l)=some (if a2o c∧a4j l (c.length:Int)then b6t (doO l c)else([],1)):=by
 unfold a9X;simp only[b8d,oB]
 by_cases hq:a2o c
 have h:=c1C hq;simp only[hq,decide_true,bT,cF,b2Y,oB,true_and]
 by_cases hm:a4j l (c.length:Int)
 simp only[hm,decide_true,bT,cF,if_true];rw[b8H h (by have:=hq.2.2.1;omega) (by have:=hq.2.1;omega)]
 have:=c1E (N:=c.length) (by have:=hq.2.2.1;omega:(c.headD []).length≤5000) hm.2.2.1 hm.2.2.2 l.length 0 c (by omega) h rfl
 simp only[nZ,a31,a09]at this;simp only[oB]
 erw[this]
 cases doO l c<;>rfl;simp only[hm,decide_false,a18,cT,if_false];simp only[hq,decide_false,a18,cT,oB,false_and,if_false]
theorem b7x(s:a0U):∀(l:List a0U)(c:List (List Int)),a8U (l++[s]) c=(a3h (-1) s c).bind (a8U l)
 | [],c=>by
  show a3h (-1) s c=_;cases a3h (-1) s c<;>rfl
 |t::l,c=>by
  simp only[a61,a8U,b7x s l];cases a3h (-1) s c<;>rfl
theorem b8I{n N:Nat}(j:n≤5000){l:List a0U}(i:l.all (a2g (N:Int))=true)(z:List (List Int))(e:Int):∀(k:Nat)(c:List (List Int)),k≤l.length→a2Y c n→c.length=N→
  match a8U (l.take k) c with
  |some r=>k0w a2O l k (l,z,e,c,())=some (.inl (l,z,e,r,()))
  |none=>∃d,k0w a2O l k (l,z,e,c,())=some (.inr (.ret,l,[],6,d,()))
 |0,c,_,_,_=>rfl
 |k+1,c,hk,hc,hcl=>by
  have g:k<l.length:=by omega
  have m:a2g (c.length:Int) l[k]=true:=by rw[hcl];exact lA.1 i _ (a07 g)
  obtain⟨b,f,a,h⟩:=c0M hc j m (sign:=-1) (.inr rfl);rw[a36 g,b7x];cases hst:a3h (-1) l[k] c with
  |none=>
   rw[hst]at h;simp only at h;subst h;refine⟨f,?_⟩;simp only[k0w,lG g,a2O,a,oB,a18,cT]
  |some r=>
   rw[hst]at h;obtain⟨rfl,rfl⟩:=h;obtain⟨p,q⟩:=b1p hc m hst;have o:=b8I j i z e k f (by omega) p (by omega);have hb:k0w a2O l (k+1) (l,z,e,c,())=k0w a2O l k (l,z,e,f,()):=by
    simp only[k0w,lG g,a2O,a,oB,bT,cF]
   rw[hb];exact o
theorem c5M(c:List (List Int))(l:List a0U):a9G (c,l)=some (if a2o c∧a4j l (c.length:Int)then b6t (a8U l c)else([],1)):=by
 unfold a9G;simp only[b8d,oB]
 by_cases hq:a2o c
 ·have h:=c1C hq;simp only[hq,decide_true,bT,cF,b2Y,oB,true_and]
  by_cases hm:a4j l (c.length:Int)
  ·simp only[hm,decide_true,bT,cF,if_true];rw[b8H h (by have:=hq.2.2.1;omega) (by have:=hq.2.1;omega)]
   have:=b8I (N:=c.length) (by have:=hq.2.2.1;omega:(c.headD []).length≤5000) hm.2.2.2 [] 0 l.length c (a24 _) h rfl
   rw[a37]at this;simp only[oB,a1f (show l.length<2147483648 by have:=hm.2.2.1;omega),cT];cases hu:a8U l c with
   |some r=>
    rw[hu]at this;simp only at this
    erw[this]
    rfl
   |none=>
    rw[hu]at this;obtain⟨d,g⟩:=this
    erw[g]
    rfl
  simp only[hm,decide_false,a18,cT,if_false]
 simp only[hq,decide_false,a18,cT,oB,false_and,if_false]
def a1e(b:a1w):Nat:=(b.2.1.headD []).length
theorem a5t(b:a1w):a3B b=some ((a1e b:Nat):Int):=by
 unfold a3B a1e;obtain⟨d,c,u⟩:=b;cases c with
 |nil=>rfl
 |cons r c=>
  have:((((r::c).length:Nat):Int)==0)=false:=by simp;omega
  simp only[this,cF];rfl
def a2E(b:a1w):Prop:=4≤b.1∧b.1≤24∧1≤b.2.1.length∧b.2.1.length≤8∧1≤a1e b∧a1e b≤4096∧b.2.1.all (fun r=>decide (r.length=a1e b)&&r.all fun x=>a1s x b.1)=true
instance (b:a1w):Decidable (a2E b):=by unfold a2E;infer_instance
theorem c0O{w:Int}(h:4≤w∧w≤24):a3i (x,w)=some (a1s x w):=by
 have:=a5q (x:=x) (w:=w.toNat) (by omega)
 rwa [a70 (by omega)]at this
theorem b2d(b:a1w):a6m b=some (decide (a2E b)):=by
 unfold a6m a5P
 by_cases h1:4≤b.1
 rotate_left;rw[decide_eq_false (show ¬ a2E b from fun h=>h1 h.1),decide_eq_false h1];rfl
 by_cases h2:b.1≤24
 rotate_left;rw[decide_eq_false (show ¬ a2E b from fun h=>h2 h.2.1),decide_eq_true h1,decide_eq_false h2];rfl
 by_cases h3:((b.2.1.length:Nat):Int)<1
 rw[decide_eq_false (show ¬ a2E b from fun h=>by have:=h.2.2.1;omega),decide_eq_true h1,decide_eq_true h2,decide_eq_true h3];rfl
 by_cases h4:((b.2.1.length:Nat):Int) > 8
 rw[decide_eq_false (show ¬ a2E b from fun h=>by have:=h.2.2.2.1;omega),decide_eq_true h1,decide_eq_true h2,decide_eq_false h3,decide_eq_true h4];rfl;have c:decide (((b.2.1.length:Nat):Int)<1)=false:=by simpa using h3
 have d:decide (((b.2.1.length:Nat):Int) > 8)=false:=by simpa using h4
 simp only[decide_eq_true h1,decide_eq_true h2,c,d,cT,cF,oB,bT,a5t]
 by_cases h5:((a1e b:Nat):Int)<1
 rw[decide_eq_false (show ¬ a2E b from fun h=>by have:=h.2.2.2.2.1;omega),decide_eq_true h5];rfl
 by_cases h6:((a1e b:Nat):Int) > 4096
 rw[decide_eq_false (show ¬ a2E b from fun h=>by have:=h.2.2.2.2.2.1;omega),decide_eq_false h5,decide_eq_true h6];rfl;have l:decide (((a1e b:Nat):Int)<1)=false:=by simpa using h5
 have m:decide (((a1e b:Nat):Int) > 4096)=false:=by simpa using h6
 simp only[l,m,cF,oB];have g:∀(i:Nat)(r:List Int),short r→x0r a3F (b.2.1,(b.2.1.length:Int),(i:Int),r,(r.length:Int),(0:Int),b,())=some (bif r.all (fun x=>a1s x b.1)then Sum.inl (b.2.1,(b.2.1.length:Int),(i:Int),b,())else Sum.inr (false,())):=fun i r n=>by
  have:=a1x (f:=a3F) r (fun j=>(b.2.1,(b.2.1.length:Int),(i:Int),r,(r.length:Int),(j:Int),b,())) (fun x=>a1s x b.1) (bt:=Sum.inl (b.2.1,(b.2.1.length:Int),(i:Int),b,())) (bf:=Sum.inr (false,()))
   (fun j h hp=>by simp only[a3F,dlt h,cT,a0B h,oB,c0O ⟨h1,h2⟩,hp,bT,cF,a0C (a43 h n)])
   (fun j h hp=>by simp only[a3F,dlt h,cT,a0B h,oB,c0O ⟨h1,h2⟩,hp,a18])
   (by simp only[a3F,dge,cF])
  exact this
 have k:=a1x (f:=a3G) b.2.1 (fun i=>(b.2.1,(b.2.1.length:Int),(i:Int),b,())) (fun r=>decide (r.length=a1e b)&&r.all fun x=>a1s x b.1) (bt:=Sum.inl ()) (bf:=Sum.inr (false,()))
  (fun i h hp=>by
   simp only[bA,dT]at hp;have e:((((b.2.1[i]).length:Nat):Int) != ((a1e b:Nat):Int))=false:=by rw[hp.1];exact bne_self_eq_false _
   have a:=g i b.2.1[i] (by unfold short;omega);rw[hp.2,cT]at a;simp only[a3G,dlt h,cT,a0B h,oB,a5t,e,cF,a,a0C (show i<1000000 by omega)])
  (fun i h hp=>by
   by_cases hl:(b.2.1[i]).length=a1e b
   have e:((((b.2.1[i]).length:Nat):Int) != ((a1e b:Nat):Int))=false:=by rw[hl];exact bne_self_eq_false _
   have a:=g i b.2.1[i] (by unfold short;omega);rw[decide_eq_true hl,a34]at hp;rw[hp,cF]at a;simp only[a3G,dlt h,cT,a0B h,oB,a5t,e,cF,a];have e:((((b.2.1[i]).length:Nat):Int) != ((a1e b:Nat):Int))=true:=by simp only[bne_iff_ne,ne_eq,b20];exact hl
   simp only[a3G,dlt h,cT,a0B h,oB,a5t,e])
  (by simp only[a3G,dge,cF])
 simp only[nZ]at k;rw[k]
 by_cases hA:b.2.1.all (fun r=>decide (r.length=a1e b)&&r.all fun x=>a1s x b.1)=true
 rw[hA,decide_eq_true (show a2E b from⟨h1,h2,by omega,by omega,by omega,by omega,hA⟩)];rfl;rw[a77.2 hA,decide_eq_false (show ¬ a2E b from fun h=>hA h.2.2.2.2.2.2)];rfl
def a4Q{α β:Type}(g:α→Option β):List α→Option (List β)
 | []=>some []
 |a::l=>(g a).bind fun b=>(a4Q g l).bind fun r=>some (b::r)
theorem b6u{α β:Type}{g:α→Option β}:∀{l:List α}{r:List β},a4Q g l=some r→r.length=l.length
 | [],r,h=>by cases h;rfl
 |a::l,r,h=>by
  simp only[a4Q,a19]at h;obtain⟨b,-,c,f,k⟩:=h;cases k;simp[b6u f]
theorem b8J{α β:Type}{g:α→Option β}:∀{l:List α}{r:List β},a4Q g l=some r→∀a∈l,(g a).isSome=true
 | [],r,h,a,ha=>by cases ha
 |a::l,r,h,x,hx=>by
  simp only[a4Q,a19]at h;obtain⟨b,f,d,k,c⟩:=h;rcases mC.1 hx with rfl|hx;rw[f];rfl;exact b8J k x hx
def a7M(f:a1p):Option a1w:=
 if frP f∧((f.2.2.2.2.1.length:Nat):Int)=f.2.2.1.2.1 then
  (a4Q (fun s=>a1U s f.2.1) f.2.2.2.2.1).bind fun rs=>
   if a2o rs∧a4j f.2.2.2.1 (rs.length:Int)then
    (a8U f.2.2.2.1 rs).bind fun ch=>if a2E (f.2.2.1.2.2.1,ch,())then some (f.2.2.1.2.2.1,ch,())else none
   else none
 else none
def b3F:a1w:=(0,[],())
def d1H:Option a1w→a1w×Int
 |some b=>(b,0)
 |none=>(b3F,1)
theorem b6d(f:a1p)(all:List Sub)(i:all.length≤8):∀(rest done:List Sub)(rows:List (List Int)),done++rest=all→rows.length=done.length→(∀s∈rest,SmallS s)→
  x0r a3V (all,(all.length:Int),(done.length:Int),rows,b3F,f,())=some (match a4Q (fun s=>a1U s f.2.1) rest with|some rs=>Sum.inl (rows++rs,b3F,f,())|none=>Sum.inr (1,b3F,()))
 | [],done,rows,hd,hr,_=>by
  have e:done=all:=by simpa using hd
  subst e;rw[a0H (b:=Sum.inl (rows,b3F,f,())) (by simp only[a3V,dge,cF])];simp[a4Q]
 |s::rest,done,rows,hd,hr,h=>by
  have j:=h s (by simp);have k:done.length<all.length:=by rw[←hd];simp
  have a:l0z all (done.length:Int)=some s:=by rw[a0B k];subst hd;simp
  have g:=b6Q j f.2.1;simp only[a4Q];cases ho:a1U s f.2.1 with
  |none=>
   rw[ho]at g;have d:((1:Int) != 0)=true:=rfl;exact a0H (by simp only[a3V,dlt k,cT,a,oB,g,d];rfl)
  |some r=>
   rw[ho]at g;have c:((0:Int) != 0)=false:=rfl;rw[a0I (s':=(all,(all.length:Int),(((done++[s]).length:Nat):Int),rows++[r],b3F,f,())) (by
    simp only[a3V,dlt k,cT,a,oB,g,c,cF,a1f (show rows.length+1<2147483648 by omega),a0C (show done.length<1000000 by omega)]
    simp)]
   rw[b6d f all i rest (done++[s]) (rows++[r]) (by simpa using hd) (by simp[hr]) (fun t l=>h t (by simp[l]))];simp only[oB];cases a4Q (fun s=>a1U s f.2.1) rest<;>simp
theorem c4x(b:∀s∈f.2.2.2.2.1,SmallS s):a6e f=some (d1H (a7M f)):=by
 unfold a6e a7M;simp only[b3E,oB]
 by_cases hf:frP f
 rotate_left;simp only[hf,decide_false,a18,cT,oB,false_and,if_false];rfl
 by_cases hl:((f.2.2.2.2.1.length:Nat):Int)=f.2.2.1.2.1
 rotate_left;have e:(((f.2.2.2.2.1.length:Nat):Int) != f.2.2.1.2.1)=true:=by simpa using hl
 simp only[hf,decide_true,bT,cF,oB,e,cT,hl,and_false,if_false];rfl;have e:(((f.2.2.2.2.1.length:Nat):Int) != f.2.2.1.2.1)=false:=by simpa using hl
 have a:f.2.2.2.2.1.length≤8:=by have:=hf.1.2.2.2.1;omega
 have k:decide ((0:Int)≤((f.2.2.2.2.1.length:Nat):Int))=true:=by simp
 have h:=b6d f f.2.2.2.2.1 a f.2.2.2.2.1 [] [] rfl rfl b;rw[a17]at h;rw[if_pos ⟨hf,hl⟩];simp only[hf,decide_true,bT,cF,oB,e,k,tN,a1f (show f.2.2.2.2.1.length<2147483648 by omega),a03,cT]
 erw[h]
 cases hm:a4Q (fun s=>a1U s f.2.1) f.2.2.2.2.1 with
 |none=>rfl
 |some rs=>
  simp only[oB,a04,c5M]
  by_cases hq:a2o rs∧a4j f.2.2.2.1 (rs.length:Int)
  ·simp only[if_pos hq];cases hu:a8U f.2.2.2.1 rs with
   |none=>rfl
   |some ch=>
    have g:((0:Int) != 0)=false:=rfl;simp only[b6t,g,cF,b2d,oB]
    by_cases hb:a2E (f.2.2.1.2.2.1,ch,())
    simp only[hb,decide_true,bT,cF,if_true];rfl;simp only[hb,decide_false,a18,cT,if_false];rfl
  simp only[if_neg hq];rfl
theorem c6B(h:∀s∈f.2.2.2.2.1,SmallS s):a3C f=some (a7M f).isSome:=by
 unfold a3C;rw[c4x h];cases a7M f<;>rfl
theorem b5g(h:a7M f=some b):frP f∧((f.2.2.2.2.1.length:Nat):Int)=f.2.2.1.2.1∧∀s∈f.2.2.2.2.1,(a1U s f.2.1).isSome=true:=by
 unfold a7M at h
 split at h
 rename_i g;simp only[a19]at h;obtain⟨a,k,-⟩:=h;exact⟨g.1,g.2,b8J k⟩;cases h
theorem c2O(e:∀s∈f.2.2.2.2.1,SmallS s)(h:a7M f=some b):∃L,L.length≤5600000∧some ((L.length:Nat):Int)=f.2.2.2.2.1.foldr (fun s a=>a.bind fun a=>(a2U (s,f.2.1)).bind fun c=>some (c+a)) (some 0)∧
  a6u f=some (a2N f L,0)∧(∀R:List Int,R.length≤1000→a6Q (a2N f L++R)=some (f,((a2N f L).length:Int),(0:Int)))∧
  (∀R:List Int,R.length≤1000→a6R (a2N f L++R)=some (f.2.2.1,f.1,f.2.1,(0:Int))):=by
 obtain⟨g,l,m⟩:=b5g h;have i:a3C f=some true:=by rw[c6B e,h];rfl
 have n:f.2.2.2.2.1.length≤8:=by have:=g.1.2.2.2.1;omega
 obtain⟨t,o,p,d,q,r⟩:=c0L i g n (fun s j=>⟨e s j,m s j⟩);exact⟨a0J t,d,q,r,fun R k=>b9a i g l o p d k,fun R k=>b9b g d k⟩
set_option maxRecDepth 100000 in
theorem c5N:b2P ()=some true:=by kernel_rfl
def c6C(b:a1w)(m:Nat):Prop:=b.2.1.length≤12∧∀r∈b.2.1,r.length≤m
theorem c3G(b:a1w)(m:Nat):∃t,b1i (b,(m:Int))=some t∧(t=true→c6C b m):=by
 unfold b1i
 by_cases h1:((b.2.1.length:Nat):Int) > 12
 simp_all;have g:decide (((b.2.1.length:Nat):Int) > 12)=false:=decide_eq_false h1
 have:=a1x (f:=a6i) (β:=Unit ⊕ (Bool×Unit)) b.2.1 (fun i=>((m:Int),(i:Int),b,())) (fun r=>decide (r.length≤m)) (bt:=Sum.inl ()) (bf:=Sum.inr (false,()))
  (fun i h hp=>by
   have e:decide (((b.2.1[i].length:Nat):Int) > (m:Int))=false:=by simp_all
   simp only[a6i,dlt h,cT,a0B h,oB,e,cF,a0C (show i<1000000 by omega)])
  (fun i h hp=>by
   have e:decide (((b.2.1[i].length:Nat):Int) > (m:Int))=true:=by simp_all
   simp_all[a6i,a0B]) (by simp_all[a6i])
 simp at this;simp only[g,cF];rw[this];cases hA:b.2.1.all (fun r=>decide (r.length≤m))with
 |true=>exact⟨true,rfl,fun _=>⟨by omega,fun r k=>by simp_all⟩⟩
 |false=>simp
theorem c4y:a9O c=some (decide (1≤c.length∧c.length≤8∧c.all (fun r=>decide (r.length=(c.headD []).length))=true)):=by
 unfold a9O
 by_cases h1:((c.length:Nat):Int)<1
 grind
 by_cases h2:((c.length:Nat):Int) > 8
 grind
 have g:0<c.length:=by omega
 have k:l0z c 0=some (c.headD []):=by rw[show(0:Int)=((0:Nat):Int)from rfl,a0B g,b0H (d:=[]) g]
 have:=a1x (f:=a5k) (β:=Unit ⊕ (Bool×Unit)) c (fun i=>(c,(i:Int),())) (fun r=>decide (r.length=(c.headD []).length)) (bt:=Sum.inl ()) (bf:=Sum.inr (false,()))
  (fun i h hp=>by
   simp only[dT]at hp;have e:((((c[i]).length:Nat):Int) != (((c.headD []).length:Nat):Int))=false:=by simp_all
   simp only[a5k,dlt h,cT,a0B h,oB,k,e,cF,a0C (show i<1000000 by omega)])
  (fun i h hp=>by
   simp only[decide_eq_false_iff_not]at hp;have e:((((c[i]).length:Nat):Int) != (((c.headD []).length:Nat):Int))=true:=by grind
   simp only[a5k,dlt h,cT,a0B h,oB,k,e]) (by simp_all[a5k])
 grind
theorem b5h{w:Int}(h:4≤w∧w≤24):b0D (x,w)=some (a1s x w):=by
 have:=c1c (x:=x) (w:=w.toNat) (by omega)
 grind
theorem b7y(b:a1w):a5l b=some (decide (a2E b)):=by
 unfold a5l
 by_cases h1:b.1<4
 rw[decide_eq_true h1,decide_eq_false (fun h:a2E b=>by have:=h.1;omega)];rfl
 by_cases h2:b.1 > 24
 rw[decide_eq_false h1,decide_eq_true h2,decide_eq_false (fun h:a2E b=>by have:=h.2.1;omega)];rfl;simp only[decide_eq_false h1,decide_eq_false h2,cF,c4y,oB]
 by_cases h3:1≤b.2.1.length∧b.2.1.length≤8∧b.2.1.all (fun r=>decide (r.length=(b.2.1.headD []).length))=true
 rotate_left;rw[decide_eq_false h3,decide_eq_false (fun h:a2E b=>h3 ⟨h.2.2.1,h.2.2.2.1,lA.2 fun r c=>by
  have:=lA.1 h.2.2.2.2.2.2 r c
  simp only[bA]at this;exact this.1⟩)];rfl
 have e:0<b.2.1.length:=by omega
 have l:l0z b.2.1 0=some (b.2.1.headD []):=by rw[show(0:Int)=((0:Nat):Int)from rfl,a0B e,b0H (d:=[]) e]
 simp only[decide_eq_true h3,bT,cF,l,oB]
 by_cases h4:(((b.2.1.headD []).length:Nat):Int)<1
 rw[decide_eq_true h4,decide_eq_false (fun h:a2E b=>by have:=h.2.2.2.2.1;grind[a1e])];rfl
 by_cases h5:(((b.2.1.headD []).length:Nat):Int) > 4096
 rw[decide_eq_false h4,decide_eq_true h5,decide_eq_false (fun h:a2E b=>by have:=h.2.2.2.2.2.1;grind[a1e])];rfl;simp only[decide_eq_false h4,decide_eq_false h5,cF,oB];have hb:4≤b.1∧b.1≤24:=by omega
 have g:∀(i:Nat)(a:i<b.2.1.length),x0r a2y ((i:Int),(0:Int),b,())=some (bif (b.2.1[i]).all (fun x=>a1s x b.1)then Sum.inl ((i:Int),b,())else Sum.inr (false,())):=fun i a=>by
  have o:(b.2.1[i]).length=(b.2.1.headD []).length:=by simp_all
  have:=a1x (f:=a2y) (β:=(Int×a1w×Unit) ⊕ (Bool×Unit)) b.2.1[i] (fun j=>((i:Int),(j:Int),b,())) (fun x=>a1s x b.1) (bt:=Sum.inl ((i:Int),b,())) (bf:=Sum.inr (false,()))
   (fun j h hp=>by simp only[a2y,a0B a,oB,dlt h,cT,a0B h,b5h hb,hp,bT,cF,a0C (show j<1000000 by omega)])
   (fun j h hp=>by simp only[a2y,a0B a,oB,dlt h,cT,a0B h,b5h hb,hp,a18])
   (by simp_all[a2y,a0B])
  omega
 have k:=a1x (f:=a3s) (β:=Unit ⊕ (Bool×Unit)) b.2.1 (fun i=>((i:Int),b,())) (fun r=>r.all fun x=>a1s x b.1) (bt:=Sum.inl ()) (bf:=Sum.inr (false,()))
  (fun i h hp=>by
   have a:=g i h;rw[hp,cT]at a;simp only[a3s,dlt h,cT]
   grind[a0C])
  (fun i h hp=>by
   have a:=g i h;rw[hp,cF]at a;simp_all[a3s])
  (by simp_all[a3s])
 simp at k;rw[k]
 by_cases hA:b.2.1.all (fun r=>r.all fun x=>a1s x b.1)=true
 rw[hA,decide_eq_true (p:=a2E b) (⟨hb.1,hb.2,h3.1,h3.2.1,by unfold a1e;omega,by unfold a1e;omega,lA.2 fun r c=>by
  have m:=lA.1 h3.2.2 r c;have n:=lA.1 hA r c;simp_all[a1e]⟩:a2E b)]
 rfl;rw[a77.2 hA,decide_eq_false (p:=a2E b) (fun h=>hA (lA.2 fun r c=>by
  have:=lA.1 h.2.2.2.2.2.2 r c
  simp_all))]
 rfl
theorem c1p(h:∀r∈b.2.1,r.length≤100):∃t,a5l b=some t∧(t=true→a2E b):=⟨_,b7y b,of_decide_eq_true⟩
theorem c5O{w:Int}(b:4≤w∧w≤24)(h:a1s x w=true):-16777216≤x∧x≤16777216:=by
 unfold a1s at h;simp at h;obtain⟨-,-,f,g⟩:=h;obtain⟨o,k⟩:∃o:Nat,w-1=(o:Int):=⟨(w-1).toNat,by omega⟩;rw[k]at f g;rw[b9K (by omega)]at g;have hp:2^o≤2^24:=a16 (by omega) (by omega);have a:z0g .i64 (-1) (o:Int)=wrap .i64 (-((2^o:Nat):Int)):=by
  unfold z0g;show wrap .i64 (-1*2^(min (o:Int).toNat 64))=_
  grind
 grind[a0D]
theorem c3H{x w:Int}(g:4≤w∧w≤24)(h:a1s x w=true):a0A x=true:=a1z.2 (by have:=c5O g h;omega)
theorem b2e(h:a2E b):a2Y b.2.1 (a1e b)∧a2o b.2.1:=by
 obtain⟨k,a,c,d,e,i,g⟩:=h;have j:a2Y b.2.1 (a1e b):=fun r f=>by
  have:=lA.1 g r f
  simp only[bA,dT]at this
  grind[c3H]
 grind[b6s]
theorem b7z(hb:a2E b){l:List a0U}(c:a4j l (b.2.1.length:Int)){rows:List (List Int)}(n:doO l b.2.1=some rows){ss:List Sub}(q:a4Q (fun s=>a1U s ((a1e b:Nat):Int)) ss=some rows)(h:0≤start∧start≤4194304-((a1e b:Nat):Int))(p:1≤rate∧rate≤1048576):
  a7M (start,((a1e b:Nat):Int),(rate,((b.2.1.length:Nat):Int),b.1,()),l,ss,())=some b:=by
 obtain⟨m,y⟩:=b2e hb;obtain⟨x,z⟩:=b1u l m rfl c.2.2.2 n;have o:=b6u q;obtain⟨e,i,r,t,u,j,v⟩:=hb;have a:frP (start,((a1e b:Nat):Int),(rate,((b.2.1.length:Nat):Int),b.1,()),l,ss,()):=⟨⟨p.1,p.2,by grind,by grind,e,i⟩,by grind,by grind,h.1,h.2,c⟩;have k:((ss.length:Nat):Int)=((b.2.1.length:Nat):Int):=by omega
 have g:a2o rows:=b6s x (by omega) (by omega) j;have d:a4j l ((rows.length:Nat):Int):=by simp_all
 have w:=c1D l m rfl c.2.2.2 n;have f:((b.1,b.2.1,()):a1w)=b:=rfl;unfold a7M;rw[if_pos ⟨a,k⟩];simp only[q,oB];rw[if_pos ⟨g,d⟩,w];simp only[oB,f];rw[if_pos ⟨e,i,r,t,u,j,v⟩]
def b7A:a1p:=(0,0,(0,0,0,()),[],[],())
theorem d1I(k:Nat)(a:k≤62)(y:Int):∃v:Nat,bits .i64 .and y ((2^k-1:Nat):Int)=(v:Int)∧v<2^k:=by
 have hp:2^k≤2^62:=a16 (by omega) a;have f:0<2^k:=Nat.pow_pos (by omega);have h:((a02 64 y) &&& (a02 64 ((2^k-1:Nat):Int))).toNat=(a02 64 y).toNat%2^k:=by
  rw[a83];have e:(a02 64 ((2^k-1:Nat):Int)).toNat=2^k-1:=by
   rw[a27];generalize 2^k=p at *;omega
  rw[e,a63]
 have g:=a40 (a02 64 y).toNat f;refine⟨(a02 64 y).toNat%2^k,?_,g⟩;show wrap .i64 ((((a02 64 y) &&& (a02 64 ((2^k-1:Nat):Int))).toNat:Nat):Int)=_;rw[h];generalize (a02 64 y).toNat%2^k=z at *;exact a0D (by omega)
theorem b7B(c:List (List Int))(n i:Int){r:List Int}(a:short r):∀(k j:Nat)(s:Int),2≤j→j+k=r.length∨(k=0∧r.length≤j)→∃s',x0r a5A (s,r,(j:Int),c,n,i,())=some (s',c,n,i,())
 |0,j,s,h2,h=>⟨s,a0H (by
   have d:decide ((j:Int)<(r.length:Int))=false:=by simp;omega
   simp only[a5A,d,cF])⟩
 |k+1,j,s,h2,h=>by
  have f:j<r.length:=by omega
  unfold short at a;have b:wrap .i64 ((j:Int)-1)=((j-1:Nat):Int):=by rw[a0D (by omega)];omega
  have e:wrap .i64 ((j:Int)-2)=((j-2:Nat):Int):=by rw[a0D (by omega)];omega
  have m:=a0B (l:=r) (i:=j-1) (by omega);have o:=a0B (l:=r) (i:=j-2) (by omega);obtain⟨s',g⟩:=b7B c n i a k (j+1) (wrap .i64 (s+u0z (wrap .i64 (wrap .i64 (r[j]-wrap .i64 (2*r[j-1]))+r[j-2])) (wrap .i64 (0-wrap .i64 (wrap .i64 (r[j]-wrap .i64 (2*r[j-1]))+r[j-2]))))) (by omega) (by omega);refine⟨s',?_⟩;rw[←g];exact a0I (by simp only[a5A,dlt f,cT,a0B f,oB,b,e,m,o,a0C (show j<1000000 by omega)])
theorem b8K(h:a2Y c n)(o:n≤4096)(m:c.length<1000):∃w,a5T c=some w:=by
 unfold a5T;simp only[b8d,oB]
 by_cases hq:a2o c
 rotate_left;exact⟨0,by simp only[hq,decide_false,a18,cT]⟩;simp only[hq,decide_true,bT,cF];have a:∀(k i:Nat)(s:Int),i+k=c.length→∃s',x0r a5B (s,c,(c.length:Int),(i:Int),())=some (s',()):=by
  intro k
  induction k with
  |zero=>
   intro i s e;obtain rfl:i=c.length:=by omega
   exact⟨s,a0H (by simp only[a5B,dge,cF])⟩
  |succ k ih=>
   intro i s e;have g:i<c.length:=by omega
   have p:=(h _ (a07 g)).1;obtain⟨j,b⟩:=b7B c (c.length:Int) (i:Int) (r:=c[i]) (by unfold short;omega) (c[i].length-2) 2 s (a24 _) (by omega);obtain⟨l,d⟩:=ih (i+1) j (by omega);refine⟨l,?_⟩;rw[←d];rw[show((2:Nat):Int)=2 from rfl]at b;exact a0I (by simp only[a5B,dlt g,cT,a0B g,oB,b,a0C (show i<1000000 by omega)])
 obtain⟨s',f⟩:=a c.length 0 0 (by omega);rw[show((0:Nat):Int)=0 from rfl]at f;rw[f];exact⟨s',rfl⟩
def a4b(m:Nat):List a0U:=match m with
 | 1=>[(0,1,-256,())]
 | 2=>[(1,0,-256,())]
 | 3=>[(1,0,-256,()),(0,1,128,())]
 | 4=>[(1,0,-106,()),(0,1,181,()),(1,0,-106,())]
 |_=>[]
theorem b6v(h:m≤4):a8n (m:Int)=some (a4b m):=by
 match m,h with
 |0,_=>rfl
 | 1,_=>rfl
 | 2,_=>rfl
 | 3,_=>rfl
 | 4,_=>rfl
theorem b8L(h:m≤4):a4j (a4b m) 2:=by
 match m,h with
 |0,_=>decide
 | 1,_=>decide
 | 2,_=>decide
 | 3,_=>decide
 | 4,_=>decide
theorem b2F{p:List (List Int)}{n:Nat}(hp:a2Y p n)(a:p.length=2)(f:a2o p)(b:n≤4096):∀(k m best:Nat)(least:Int),m+k=5→best≤4→(doO (a4b best) p).isSome=true→
  ∃best',x0r a5a (p,(best:Int),least,(m:Int),())=some (((best':Nat):Int),())∧best'≤4∧(doO (a4b best') p).isSome=true
 |0,m,best,least,hm,hb,hd=>by
  obtain rfl:m=5:=by omega
  exact⟨best,a0H rfl,hb,hd⟩
 |k+1,m,best,least,hm,hb,hd=>by
  have d:decide ((m:Int)<5)=true:=by simp;omega
  have e:wrap .i64 ((m:Int)+1)=((m+1:Nat):Int):=a0C (by omega);have g:a4j (a4b m) (p.length:Int):=by rw[a];exact b8L (by omega)
  cases hdo:doO (a4b m) p with
  |none=>
   have j:((6:Int) != 0)=true:=rfl;rw[a0I (s':=(p,(best:Int),least,((m+1:Nat):Int),())) (by
    simp only[a5a,d,cT,b6v (show m≤4 by omega),oB,b9h,if_pos (show a2o p∧a4j (a4b m) (p.length:Int)from⟨f,g⟩),hdo,b6t,j,e])]
   exact b2F hp a f b k (m+1) best least (by omega) hb hd
  |some r=>
   have i:((0:Int) != 0)=false:=rfl;obtain⟨l,o⟩:=b1u (a4b m) hp rfl g.2.2.2 hdo
   obtain⟨w,c⟩:=b8K l b (by omega);have h:a5a (p,(best:Int),least,(m:Int),())=bif decide (w<least)then some (.inl (p,(m:Int),w,((m+1:Nat):Int),()))else some (.inl (p,(best:Int),least,((m+1:Nat):Int),())):=by
    simp only[a5a,d,cT,b6v (show m≤4 by omega),oB,b9h,if_pos (show a2o p∧a4j (a4b m) (p.length:Int)from⟨f,g⟩),hdo,b6t,i,cF,c,e]
   cases hlt:decide (w<least)with
   |true=>
    rw[hlt]at h;rw[a0I h];exact b2F hp a f b k (m+1) m w (by omega) (by omega) (by rw[hdo];rfl)
   |false=>
    rw[hlt]at h;rw[a0I h];exact b2F hp a f b k (m+1) best least (by omega) hb hd
theorem c5P{p:List (List Int)}(hp:a2Y p n)(k:p.length=2)(g:n≤4096):∃m,m≤4∧a9v p=some (a4b m)∧(doO (a4b m) p).isSome=true:=by
 have b:=b6s hp (by omega) (by omega) g;obtain⟨w,c⟩:=b8K hp g (by omega);obtain⟨m,f,h,a⟩:=b2F hp k b g 4 1 0 w rfl (by omega) rfl;refine⟨m,h,?_,a⟩;unfold a9v;simp only[c,oB]
 erw[f]
 simp only[oB,b6v h]
def a8V(i:Nat)(s:a0U):a0U:=(s.1+(i:Int),s.2.1+(i:Int),s.2.2.1,())
theorem c4z{N:Nat}(h:i+2≤N){s:a0U}(k:a2g 2 s=true):a2g (N:Int) (a8V i s)=true:=by
 obtain⟨a1,a,b,c,d,g,f⟩:=a2B.1 k;exact a2B.2 ⟨by show 0≤s.1+(i:Int);omega,by show s.1+(i:Int)<(N:Int);omega,by show 0≤s.2.1+(i:Int);omega,by show s.2.1+(i:Int)<(N:Int);omega,by show s.1+(i:Int)≠s.2.1+(i:Int);omega,g,f⟩
def b9i(i:Nat)(c c' p:List (List Int)):Prop:=c'.length=c.length∧p.length=2∧c'.getD i []=p.getD 0 []∧c'.getD (i+1) []=p.getD 1 []∧∀j,j≠i→j≠i+1→c'.getD j []=c.getD j []
theorem c2P{c0 p p':List (List Int)}(E:i+2≤c0.length)(h:b9i i c0 c p){s:a0U}(z:a2g 2 s=true)(g:a3h 1 s p=some p'):∃c',a3h 1 (a8V i s) c=some c'∧b9i i c0 c' p':=by
 obtain⟨q,t,a,b,u⟩:=h;obtain⟨a1,d,l,m,B,C,D⟩:=a2B.1 z;unfold a3h at g⊢;simp only at g⊢;have f:∀x:Int,0≤x→x<2→c.getD (x+(i:Int)).toNat []=p.getD x.toNat []:=fun x F A=>by
  have:x=0∨x=1:=by omega
  rcases this with rfl|rfl;rw[show((0:Int)+(i:Int)).toNat=i from by omega];exact a;rw[show((1:Int)+(i:Int)).toNat=i+1 from by omega];exact b
 have n:=f s.1 a1 d;have o:=f s.2.1 l m;simp only[a8V];have y:a8e 1 s.2.2.1 (c.getD (s.1+(i:Int)).toNat []) (c.getD (s.2.1+(i:Int)).toNat [])=a8e 1 s.2.2.1 (p.getD s.1.toNat []) (p.getD s.2.1.toNat []):=by rw[n,o]
 simp only[y]
 split at g
 rename_i v;cases g;rw[if_pos v];generalize a8e 1 s.2.2.1 (p.getD s.1.toNat []) (p.getD s.2.1.toNat [])=r at *;refine⟨_,rfl,by simp[q],by simp[t],?_,?_,fun j w k=>?_⟩
 have:s.2.1=0∨s.2.1=1:=by omega
 rcases this with e|e;rw[e,show((0:Int)+(i:Int)).toNat=i from by omega,a6w _ (by omega),show(0:Int).toNat=0 from rfl,a6w _ (by omega)];rw[e,show((1:Int)+(i:Int)).toNat=i+1 from by omega,a4P _ (by omega),show(1:Int).toNat=1 from rfl,a4P _ (by omega)];exact a
 have:s.2.1=0∨s.2.1=1:=by omega
 rcases this with e|e;rw[e,show((0:Int)+(i:Int)).toNat=i from by omega,a4P _ (by omega),show(0:Int).toNat=0 from rfl,a4P _ (by omega)];exact b;rw[e,show((1:Int)+(i:Int)).toNat=i+1 from by omega,a6w _ (by omega),show(1:Int).toNat=1 from rfl,a6w _ (by omega)];rw[a4P _ (by omega)];exact u j w k;cases g
theorem c0P{i:Nat}{c0:List (List Int)}(f:i+2≤c0.length):∀(l:List a0U){c p p':List (List Int)},l.all (a2g 2)=true→b9i i c0 c p→doO l p=some p'→∃g,doO (l.map (a8V i)) c=some g∧b9i i c0 g p'
 | [],c,p,p',_,h,hd=>by cases hd;exact⟨c,rfl,h⟩
 |s::l,c,p,p',hl,h,hd=>by
  simp only[a06,bA]at hl;simp only[doO,a19]at hd;obtain⟨q,k,a⟩:=hd;obtain⟨d,b,e⟩:=c2P f h hl.1 k;obtain⟨g,j1,j2⟩:=c0P f l hl.2 e a;exact⟨g,by simp only[a59,doO,b,oB];exact j1,j2⟩
theorem c1F:∀(l m:List a0U)(c:List (List Int)),doO (l++m) c=(doO l c).bind (doO m)
 | [],m,c=>rfl
 |s::l,m,c=>by
  simp only[a61,doO];cases a3h 1 s c with
  |none=>rfl
  |some d=>exact c1F l m d
theorem c3I{α β:Type}(f:α→β):∀l:List α,l.flatMap (fun x=>[f x])=l.map f
 | []=>rfl
 |x::l=>by simp[c3I f l]
theorem c1q(b:a1w)(first:Nat)(t:first≤100){y:List a0U}(e:y.all (a2g 2)=true)(s:y.length≤10)(out:List a0U)(u:out.length≤1000):
  x0r a5b ((first:Int),(y.length:Int),(0:Int),out,y,b,())=some ((first:Int),out++y.map (a8V first),b,()):=by
 have:=a1I (f:=a5b) (β:=Int×(List a0U×(a1w×Unit))) y (fun i (a:List a0U)=>((first:Int),(y.length:Int),(i:Int),a,y,b,())) (fun a x=>.inl (a++[a8V first x])) (fun i a=>a.length=out.length+i) (fun a=>((first:Int),a,b,()))
  (fun i g a k=>⟨fun j h=>by
   simp only[Sum.inl.injEq]at h;subst h;obtain⟨a1,l,m,o,p,q,r⟩:=a2B.1 (lA.1 e _ (a07 g));have c:decide ((0:Int)≤(i:Int))=true:=by simp
   have d:b21 y (a21 (i:Int)) ((0:Int),(0:Int),(0:Int),())=y[i]:=by rw[tN,lD,lG g];rfl
   refine⟨?_,by simp[k];omega⟩;simp only[a5b,dlt g,cT,c,a03,a1f (show a.length+1<2147483648 by omega),d,a0C (show i<1000000 by omega),a08];rw[a0D (n:=y[i].1+(first:Int)) (by omega),a0D (n:=y[i].2.1+(first:Int)) (by omega)]
   rfl,fun b hb=>by cases hb⟩)
  (fun a k=>by simp only[a5b,dge,cF]) (a:=out) (by simp)
 rw[b2b (fun x:a0U=>[a8V first x])]at this
 simp only[nZ]at this;rw[this];simp only[a7x,c3I]
theorem c8e(h:i+2≤c.length):b03 i (a90 (i+2) c)=[c.getD i [],c.getD (i+1) []]:=by
 apply a78;intro j;rw[a95]
 match j with
 |0=>rw[a50,if_pos (by omega),a97,lD,lG (by omega)];rfl
 | 1=>rw[a50,if_pos (by omega),lD,lD,lG (by omega)];rfl
 |j+2=>rw[a50,if_neg (by omega)];rfl
theorem b7C{b:a1w}{n:Nat}(a:a2Y b.2.1 n)(q:n≤4096)(C:b.2.1.length≤8):∀(k j:Nat)(out:List a0U)(c:List (List Int)),j+k=5→out.length≤3*j→out.all (a2g (b.2.1.length:Int))=true→doO out b.2.1=some c→(∀i,2*j≤i→c.getD i []=b.2.1.getD i [])→3*j≤12∨b.2.1.length≤2*j→
  ∃l d,x0r a6Z (((2*j:Nat):Int),out,b,())=some (l,())∧l.length≤16∧l.all (a2g (b.2.1.length:Int))=true∧doO l b.2.1=some d
 |k,j,out,c,hk,hol,hob,hdo,hag,h12=>by
  have g:wrap .i64 (((2*j:Nat):Int)+1)=((2*j+1:Nat):Int):=by rw[a0D (by omega)];omega
  by_cases hlt:2*j+1<b.2.1.length
  ·cases k with
   |zero=>omega
   |succ k=>
    have f:wrap .i64 (((2*j:Nat):Int)+2)=((2*j+2:Nat):Int):=by rw[a0D (by omega)];omega
    have hp:a2Y [b.2.1.getD (2*j) [],b.2.1.getD (2*j+1) []] n:=fun r u=>by
     simp only[mC,a84,or_false]at u;rcases u with rfl|rfl;exact a5y a (by omega);exact a5y a (by omega)
    obtain⟨m,v,H,I⟩:=c5P hp rfl q;obtain⟨p',p⟩:=Option.isSome_iff_exists.1 I;have h:=(b8L v).2.2.2;have E:(a4b m).length≤3:=by
     match m,v with
     |0,_=>decide
     | 1,_=>decide
     | 2,_=>decide
     | 3,_=>decide
     | 4,_=>decide
    have D:c.length=b.2.1.length:=(b1u out a rfl hob hdo).2;obtain⟨d,A,K,L,M,N,B⟩:=c0P (i:=2*j) (c0:=c) (by omega) (a4b m) h ⟨rfl,rfl,hag _ (a24 _),hag _ (by omega),fun _ _ _=>rfl⟩ p;have o:=c1q b (2*j) (by omega) h (by omega) out (by omega);have e:decide (((2*j+1:Nat):Int)<((b.2.1.length:Nat):Int))=true:=by simp only[dT];omega
    have w:decide ((0:Int)≤((2*j+2:Nat):Int))=true:=by simp only[dT];omega
    have x:decide (((2*j+2:Nat):Int)≤((b.2.1.length:Nat):Int))=true:=by simp only[dT];omega
    have y:decide ((0:Int)≤((2*j:Nat):Int))=true:=by simp only[dT];omega
    have z:decide (((2*j:Nat):Int)≤((2*j+2:Nat):Int))=true:=by simp only[dT];omega
    rw[a0I (s':=(((2*(j+1):Nat):Int),out++(a4b m).map (a8V (2*j)),b,())) (by
     simp only[a6Z,g,e,cT,f,w,x,a03,tN,y,z];rw[c8e (by omega),H];simp only[oB];rw[o];simp only[oB,f];rfl)]
    refine b7C a q C k (j+1) (out++(a4b m).map (a8V (2*j))) d (by omega) (by simp;omega) ?_ (by rw[c1F,hdo];exact A) (fun i O=>by rw[B i (by omega) (by omega)];exact hag i (by omega)) (by omega);rw[List.all_append,hob,a34,lA];intro s F;obtain⟨t,G,rfl⟩:=a99.1 F;exact c4z (by omega) (lA.1 h t G)
  refine⟨out,c,a0H ?_,by omega,hob,hdo⟩;have e:decide (((2*j+1:Nat):Int)<((b.2.1.length:Nat):Int))=false:=by simp only[decide_eq_false_iff_not];omega
  simp only[a6Z,g,e,cF]
termination_by k=>k
theorem c0Q(hb:a2E b):∃l h,a6o b=some l∧a4j l (b.2.1.length:Int)∧doO l b.2.1=some h:=by
 obtain⟨d,-⟩:=b2e hb;have c:=hb.2.2.2.1;obtain⟨l,h,g,f,k,a⟩:=b7C d hb.2.2.2.2.2.1 c 5 0 [] b.2.1 rfl (by simp) rfl rfl (fun _ _=>rfl) (by omega);refine⟨l,h,?_,⟨by have:=hb.2.2.1;omega,by omega,f,k⟩,a⟩;unfold a6o;simp only[b2d,decide_eq_true hb,oB,bT,cF];rw[show((2*0:Nat):Int)=0 from rfl]at g;rw[g];rfl
theorem c0R(e:r.length=n∧r.all a0A=true)(m:1≤n)(o:n≤256)(b:0≤k)(c:k≤3):
  ∃s,a3v (r,k)=some (s,0)∧SmallS s∧a1U s (n:Int)=some r∧a3y s (n:Int)≤((13+a0G r*n:Nat):Int):=by
 obtain⟨h,g⟩:=e;have d:=a5M (l:=r) (by omega) g;obtain⟨s,i,j,f,-,-,a,-⟩:=c2G (l:=r) (by omega) (by omega) g (c6x (by have:=d.1;omega)) b c;exact⟨s,i,j,by rw[h]at f;exact f,by rw[h]at a;exact a⟩
theorem b7D{effort:Int}(b:0≤effort)(j:effort≤3){rows:List (List Int)}{n:Nat}(l:a2Y rows n)(c:1≤n)(i:n≤256)(p:rows.length≤8)(f:a1p):∀(rest d:List (List Int)) (done:List Sub),d++rest=rows→done.length=d.length→
  ∃outs,x0r a4B (effort,rows,(rows.length:Int),(d.length:Int),b7A,a7s f done,())=some (.inl (b7A,a7s f (done++outs),()))∧a4Q (fun s=>a1U s (n:Int)) outs=some rest∧(∀s∈outs,SmallS s)∧a4Q (fun r=>a3v (r,effort)) rest=some (outs.map fun s=>(s,0))
 | [],d,done,hd,hdl=>by
  have e:d=rows:=by simpa using hd
  subst e;refine⟨[],?_,rfl,by simp,rfl⟩;rw[a29];exact a0H (by simp only[a4B,dge,cF])
 |r::rest,d,done,hd,hdl=>by
  have h:d.length<rows.length:=by rw[←hd];simp
  have q:l0z rows (d.length:Int)=some r:=by rw[a0B h];subst hd;simp
  obtain⟨s,a,m,o,-⟩:=c0R (l r (by rw[←hd];simp)) c i b j;have z0:((0:Int) != 0)=false:=rfl;have g:a4B (effort,rows,(rows.length:Int),(d.length:Int),b7A,a7s f done,())=some (.inl (effort,rows,(rows.length:Int),(((d++[r]).length:Nat):Int),b7A,a7s f (done++[s]),())):=by
   simp only[a4B,dlt h,cT,q,oB,a,z0,cF];rw[show(a7s f done).2.2.2.2.1=done from rfl,a1f (show done.length+1<2147483648 by omega),cT,a0C (show d.length<1000000 by omega)];rw[show(((d++[r]).length:Nat):Int)=((d.length+1:Nat):Int)from by simp];rfl
  rw[a0I g];obtain⟨outs,u,v,w,x⟩:=b7D b j l c i p f rest (d++[r]) (done++[s]) (by simpa using hd) (by simp[hdl]);refine⟨s::outs,?_,?_,fun t k=>?_,?_⟩;rw[u];simp;simp only[a4Q,o,v,oB];rcases mC.1 k with rfl|k;exact m;exact w t k;simp only[a4Q,a,x,oB,a59]
theorem b7E(hb:a2E b)(k:a1e b≤256){effort:Int}(p:1≤rate∧rate≤1048576)(E:0≤start∧start≤4194304-((a1e b:Nat):Int))(B:0≤effort)(C:effort≤3):
  ∃l g outs,a5i (b,(rate,((b.2.1.length:Nat):Int),b.1,()),start,effort)=some ((start,((a1e b:Nat):Int),(rate,((b.2.1.length:Nat):Int),b.1,()),l,outs,()),0)∧
   a4j l (b.2.1.length:Int)∧doO l b.2.1=some g∧a4Q (fun s=>a1U s ((a1e b:Nat):Int)) outs=some g∧(∀s∈outs,SmallS s)∧a4Q (fun r=>a3v (r,effort)) g=some (outs.map fun s=>(s,0))∧
   (effort=0→l=[])∧(0<effort→a6o b=some l):=by
 obtain⟨D,o⟩:=b2e hb;have j:=hb;obtain⟨z,A,G,H,I,K,-⟩:=j;have m:b6q (rate,((b.2.1.length:Nat):Int),b.1,()):=⟨p.1,p.2,by show(1:Int)≤((b.2.1.length:Nat):Int);omega,by show((b.2.1.length:Nat):Int)≤8;omega,z,A⟩;have f:∃l g,a4j l (b.2.1.length:Int)∧doO l b.2.1=some g∧(effort=0→l=[])∧(0<effort→a6o b=some l):=by
  by_cases he:effort=0
  exact⟨[],b.2.1,⟨by omega,by omega,by simp,rfl⟩,rfl,fun _=>rfl,fun h=>by omega⟩;obtain⟨l,c,n,q,F⟩:=c0Q hb;exact⟨l,c,q,F,fun h=>absurd h he,fun _=>n⟩
 obtain⟨l,g,i,e,a,d⟩:=f;obtain⟨n,q⟩:=b1u l D rfl i.2.2.2 e;obtain⟨outs,j1,j2,j3,j4⟩:=b7D B C n (by omega) k (by omega) (start,((a1e b:Nat):Int),(rate,((b.2.1.length:Nat):Int),b.1,()),l,([]:List Sub),()) g [] [] rfl rfl;refine⟨l,g,outs,?_,i,e,j2,j3,j4,a,d⟩;have x:(b.1 != b.1)=false:=bne_self_eq_false _;have y:(((b.2.1.length:Nat):Int) != ((b.2.1.length:Nat):Int))=false:=bne_self_eq_false _;have t:decide (effort<0)=false:=by simp only[decide_eq_false_iff_not];omega
 have u:decide (effort > 3)=false:=by simp only[decide_eq_false_iff_not];omega
 have v:decide (start<0)=false:=by simp only[decide_eq_false_iff_not];omega
 have w:decide (start > wrap .i64 (4194304-((a1e b:Nat):Int)))=false:=by rw[a0D (by omega)];simp only[decide_eq_false_iff_not];omega
 have z0:((0:Int) != 0)=false:=rfl;unfold a5i;simp only[b2d,decide_eq_true hb,oB,bT,cF,b3D,decide_eq_true m,x,y,t,u,v,a5t,w];cases he:decide (effort > 0)with
 |true=>
  have:=d (by simpa using he)
  simp only[cT,this,oB,b9h,if_pos (show a2o b.2.1∧a4j l (b.2.1.length:Int)from⟨o,i⟩),e,b6t,z0,cF]
  erw[j1]
  rfl
 |false=>
  have:=a (by simp only[decide_eq_false_iff_not]at he;omega)
  subst this;simp only[cF,oB,b9h,if_pos (show a2o b.2.1∧a4j ([]:List a0U) (b.2.1.length:Int)from⟨o,i⟩),e,b6t,z0]
  erw[j1]
  rfl
theorem made(hb:a2E b)(f:a1e b≤256){effort:Int}(e:1≤rate∧rate≤1048576)(a:0≤start∧start≤4194304-((a1e b:Nat):Int))(j:0≤effort)(n:effort≤3):
  ∃g:Int×(a0U×(List a0U×(List Sub×Unit))),a5i (b,(rate,((b.2.1.length:Nat):Int),b.1,()),start,effort)=some ((start,g),0)∧g.1=((a1e b:Nat):Int)∧g.2.1=(rate,((b.2.1.length:Nat):Int),b.1,())∧
   g.2.2.1.length≤16∧g.2.2.2.1.length≤8∧(∀s∈g.2.2.2.1,SmallS s)∧∀h,0≤h∧h≤4194304-((a1e b:Nat):Int)→a7M (h,g)=some b:=by
 obtain⟨l,i,outs,m,k,c,d,o,-⟩:=b7E hb f e a j n;obtain⟨p,-⟩:=b2e hb;have t:=b6u d;have q:=(b1u l p rfl k.2.2.2 c).2;exact⟨_,m,rfl,rfl,k.2.2.1,by have:=hb.2.2.2.1;show outs.length≤8;omega,o,fun h r=>b7z hb k c d r e⟩
theorem c0S{k:Int}(d:0≤k)(j:k≤3){n w:Nat}(e:1≤n)(i:n≤256):∀{rows:List (List Int)} {outs:List Sub},a4Q (fun r=>a3v (r,k)) rows=some (outs.map fun s=>(s,0))→(∀r∈rows,(r.length=n∧r.all a0A=true)∧a0G r≤w)→
  ∃c:Nat,outs.foldr (fun s a=>a.bind fun a=>(a2U (s,(n:Int))).bind fun c=>some (c+a)) (some 0)=some (c:Int)∧c≤rows.length*(13+w*n)
 | [],outs,h,_=>by
  have:outs=[]:=by
   cases outs with
   |nil=>rfl
   |cons a l=>simp[a4Q]at h
  subst this;exact⟨0,rfl,by simp⟩
 |r::rows,outs,h,hr=>by
  simp only[a4Q,a19,sj]at h;obtain⟨y,v,ys,x,g⟩:=h;cases outs with
  |nil=>cases g
  |cons s outs=>
   simp only[a59,List.cons.injEq]at g;obtain⟨rfl,rfl⟩:=g;obtain⟨⟨A,C⟩,hwd⟩:=hr r (by simp);obtain⟨c,u,D⟩:=c0S d j e i x (fun q B=>hr q (by simp[B]));obtain⟨s',f,b,t,b4⟩:=c0R ⟨A,C⟩ e i d j;rw[v]at f;obtain rfl:s=s':=by simpa using f
   obtain⟨p,-,o,-⟩:=c0H b (n:=(n:Int)) (by rw[t];rfl) (L:=[]) (by simp);have m:=b7V b (n:Int);rw[o]at m;have z:(((a5N s p).length:Nat):Int)=a3y s (n:Int):=Option.some.inj m;refine⟨(a5N s p).length+c,?_,?_⟩;simp only[b19,u,oB,o];congr 1
   have:a0G r*n≤w*n:=a35 _ hwd
   rw[lC,Nat.add_mul,Nat.one_mul];omega
theorem b9j(h:n<128):(a0O n).length≤1:=(a9q 0 n (by omega)).2
theorem c8f(h:n<16384):(a0O n).length≤2:=(a9q 1 n (by omega)).2
theorem c5m(h:n<2097152):(a0O n).length≤3:=(a9q 2 n (by omega)).2
theorem b9c(x:a1w×Int):a8K x=some true:=by
 obtain⟨b,start⟩:=x;unfold a8K;simp only[c5N,oB,bT,cF];obtain⟨t1,t,B⟩:=c3G b 100;rw[show((100:Nat):Int)=100 from rfl]at t;simp only[t,oB];cases t1 with
 |false=>rfl
 |true=>
  obtain⟨B,C⟩:=B rfl;obtain⟨t2,S,hb⟩:=c1p (b:=b) (fun r e=>by have:=C r e;omega);simp only[bT,cF,S,oB];cases t2 with
  |false=>rfl
  |true=>
   have hb:=hb rfl;simp only[bT,cF,oB];have j:a1e b≤100:=by
    unfold a1e;rw[←b0H (d:=[]) (show 0<b.2.1.length by have:=hb.2.2.1;omega)];exact C _ (a07 _)
   obtain⟨u,z,m⟩:=d1I 20 (by omega) start;rw[show((2^20-1:Nat):Int)=1048575 from rfl]at z;have Z:u<1048576:=m;obtain⟨l,i,outs,m1,m2,A,m4,m5,m6,m7,-⟩:=b7E hb (by omega) (rate:=1048576) (start:=(u:Int)) (effort:=0) (by omega) (by omega) (by omega) (by omega);obtain rfl:=m7 rfl;have g:b.2.1=i:=by simpa[doO]using A
   subst g;obtain⟨v,-⟩:=b2e hb;obtain⟨N,O,P,q,Q,R,s⟩:=hb;obtain⟨w,o⟩:∃w:Nat,b.1=(w:Int):=⟨b.1.toNat,by omega⟩;obtain⟨c,D,c2⟩:=c0S (k:=0) (by omega) (by omega) (n:=a1e b) (w:=w) (by omega) (by omega) m6 (fun r e=>⟨v r e,b5U (v r e).2 (by omega) fun x hx=>by
    have:=lA.1 s r e
    simp only[bA]at this
    have:=lA.1 this.2 x hx
    simp only[inW,a33];rw[o]at this;exact .inr this⟩)
   have f:=b7z ⟨N,O,P,q,Q,R,s⟩ m2 A m4 (start:=(u:Int)) (rate:=1048576) (by omega) (by omega);obtain⟨L,hL,h,a,-,-⟩:=c2O m5 f;have V:=(b5g f).1;have T:L.length=c:=by
    have:some ((L.length:Nat):Int)=some (c:Int):=h.trans D
    have:=Option.some.inj this
    omega
   have U:=(b2E L).1;have p:w≤24:=by omega
   have X:w*a1e b≤24*100:=a55 p j;have Y:b.2.1.length*(13+w*a1e b)≤8*(13+24*100):=a55 q (by omega);generalize hM:b.2.1.length*(13+w*a1e b)=M at *;have v1:=c5m (n:=u) (by omega);have v2:=b9j (n:=a1e b) (by omega);have v3:=c5m (n:=1048576) (by omega);have v4:=b9j (n:=b.2.1.length) (by omega);have v5:=b9j (n:=w) (by omega);have v6:=b9j (n:=0) (by omega);have v7:=c8f (n:=(a3A L).length) (by omega);have y:(a2N ((u:Int),((a1e b:Nat):Int),(1048576,((b.2.1.length:Nat):Int),b.1,()),([]:List a0U),outs,()) L).length≤24+(M+7) / 8:=by
    simp only[a2N,a4k,a1q,Go.Ab.hb,lN,lC,a17,b08,o];rw[show((1048576:Int)).toNat=1048576 from rfl];simp only[tN];omega
   have E:wrap .i64 (((a1e b:Nat):Int)*b.1)=((w*a1e b:Nat):Int):=by rw[o,a0D (by rw[←a49,a69];omega),←a49,a69]
   have F:wrap .i64 (13+((w*a1e b:Nat):Int))=((13+w*a1e b:Nat):Int):=by rw[a0D (by omega)];omega
   have G:wrap .i64 (((b.2.1.length:Nat):Int)*((13+w*a1e b:Nat):Int))=(M:Int):=by rw[←a49,hM];exact a0D (by omega)
   have H:wrap .i64 ((M:Int)+7)=((M+7:Nat):Int):=by rw[a0D (by omega)];omega
   have I:a48 ((M+7:Nat):Int) 8=(((M+7) / 8:Nat):Int):=rfl;have K:wrap .i64 (24+wrap .i64 (((M+7) / 8:Nat):Int))=((24+(M+7) / 8:Nat):Int):=by rw[a0D (n:=(((M+7) / 8:Nat):Int)) (by omega),a0D (by omega)];omega
   simp only[z,m1,oB,a,a5t,beq_self_eq_true,cT,E,F,G,H,I,K];congr 1;rw[dT];omega
def dead(T:List Int)(a:Int):List Int×(Int×Int×Unit):=(T,a,(3:Int),())
end Go.Ab
